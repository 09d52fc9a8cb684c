import PyProof.Rows.All
import HandS.ForMost
import HandS.ForExc
import HandS.Wide
import HandS.TupAny
import HandS.TupMul
import HandS.TryMany
import HandS.IsInst
import HandS.Rev
import HandS.RevRange
import HandS.Zip
import HandS.Conv
import HandS.Style
import HandS.Flow
import HandS.Small
import HandS.RaiseMore
import HandS.Defaults
import HandS.Head0
import HandS.Head1
import HandS.Head2
import HandS.HeadEnd
import HandS.HeadHook1
import HandS.HeadHook2
import HandS.Deep
import KE.DataEq
import KE.GoesZip
import KE.GoesMore
import KE.GoesEnum
import PySem.Challenge.RW_echoedtree_k05_places_in_a_pipe
set_option Elab.async false
set_option linter.all false
set_option maxRecDepth 100000
/-! # Part A: a small language with a heap of lists, evaluated by Lean functions -/
namespace Ev
open PySem (Str sizeLine)

/-! ## Values -/
/-- data; `ref` a list of the heap, `tl` a list that nobody else holds yet, `fl` a list that nobody changes -/
inductive D where
  | non | bl (b : Bool) | int (i : Int) | str (x : Str) | tup (xs : List D) | ref (n : Nat) | tl (xs : List D) | fl (xs : List D)
  deriving Inhabited

mutual
def D.beq : D → D → Bool
  | .non, .non => true
  | .bl a, .bl b => decide (a = b)
  | .int a, .int b => decide (a = b)
  | .str a, .str b => decide (a = b)
  | .tup a, .tup b => D.beqs a b
  | .ref a, .ref b => decide (a = b)
  | .tl a, .tl b => D.beqs a b
  | .fl a, .fl b => D.beqs a b
  | _, _ => false
def D.beqs : List D → List D → Bool
  | [], [] => true
  | a :: as, b :: bs => D.beq a b && D.beqs as bs
  | _, _ => false
end
mutual
theorem D.beq_refl : ∀ a : D, D.beq a a = true
  | .non | .bl _ | .int _ | .str _ | .ref _ => by simp [D.beq]
  | .tup a | .tl a | .fl a => by simp [D.beq, D.beqs_refl a]
theorem D.beqs_refl : ∀ a : List D, D.beqs a a = true
  | [] => rfl
  | a :: as => by simp [D.beqs, D.beq_refl a, D.beqs_refl as]
end
mutual
theorem D.beq_eq : ∀ a b : D, D.beq a b = true → a = b
  | .non, b, h => by cases b <;> simp_all [D.beq]
  | .bl _, b, h => by cases b <;> simp_all [D.beq]
  | .int _, b, h => by cases b <;> simp_all [D.beq]
  | .str _, b, h => by cases b <;> simp_all [D.beq]
  | .ref _, b, h => by cases b <;> simp_all [D.beq]
  | .tup a, b, h => by
    cases b <;> simp [D.beq] at h
    rw [D.beqs_eq _ _ h]
  | .tl a, b, h => by
    cases b <;> simp [D.beq] at h
    rw [D.beqs_eq _ _ h]
  | .fl a, b, h => by
    cases b <;> simp [D.beq] at h
    rw [D.beqs_eq _ _ h]
theorem D.beqs_eq : ∀ a b : List D, D.beqs a b = true → a = b
  | [], b, h => by cases b <;> simp_all [D.beqs]
  | a :: as, b, h => by
    cases b with
    | nil => simp [D.beqs] at h
    | cons b bs =>
      simp only [D.beqs, Bool.and_eq_true] at h
      rw [D.beq_eq _ _ h.1, D.beqs_eq _ _ h.2]
end
instance : DecidableEq D := fun a b => if h : D.beq a b = true then isTrue (D.beq_eq _ _ h) else isFalse fun e => h (by rw [e]; exact D.beq_refl b)

mutual
/-- all references lie below n -/
def D.blw (n : Nat) : D → Bool
  | .ref m => decide (m < n)
  | .tup xs => D.blws n xs
  | .tl xs => D.blws n xs
  | .fl xs => D.blws n xs
  | _ => true
def D.blws (n : Nat) : List D → Bool
  | [] => true
  | x :: xs => D.blw n x && D.blws n xs
end

/-- what stands in a cell of the heap -/
inductive Ob where
  | lst (xs : List D)
  deriving DecidableEq
abbrev Hep := List Ob
def Ob.blw (n : Nat) : Ob → Bool
  | .lst xs => D.blws n xs

/-- an answer -/
inductive R (α : Type) where
  | ok (a : α) (h : Hep)
  | exc (c : Nat) (xs : List D) (h : Hep)
  | bad
def R.bind {α β : Type} (r : R α) (k : α → Hep → R β) : R β := match r with
  | .ok a h => k a h
  | .exc c xs h => .exc c xs h
  | .bad => .bad
@[simp] theorem R.bind_ok {α β : Type} {a : α} {h : Hep} {k : α → Hep → R β} : (R.ok a h).bind k = k a h := rfl
@[simp] theorem R.bind_exc {α β : Type} {c : Nat} {xs : List D} {h : Hep} {k : α → Hep → R β} : (R.exc c xs h : R α).bind k = .exc c xs h := rfl
@[simp] theorem R.bind_bad {α β : Type} {k : α → Hep → R β} : (R.bad : R α).bind k = .bad := rfl
def R.of {α : Type} (o : Option α) (h : Hep) : R α := match o with
  | some a => .ok a h
  | none => .bad
@[simp] theorem R.of_some {α : Type} {a : α} {h : Hep} : R.of (some a) h = .ok a h := rfl
@[simp] theorem R.of_none {α : Type} {h : Hep} : R.of (none : Option α) h = .bad := rfl

abbrev Lo := List (Option D)

/-- a fresh list gets a cell -/
def own (d : D) (η : Hep) : R D := match d with
  | .tl xs => .ok (.ref η.length) (η ++ [.lst xs])
  | d => .ok d η

/-- the old cells hold nothing new -/
def okCells (n : Nat) : Hep → Hep → Bool
  | _, [] => true
  | [], _ :: _ => false
  | c' :: r', c :: r => (decide (c' = c) || c'.blw n) && okCells n r' r

/-- behind a call: what nobody can reach any more is dropped -/
def fin (η₀ : Hep) : R D → R D
  | .ok v η =>
    if okCells η₀.length η η₀ then
      if v.blw η₀.length then .ok v (η.take η₀.length)
      else match v with
        | .ref m => match η[m]? with
          | some (.lst xs) => if D.blws η₀.length xs then .ok (.tl xs) (η.take η₀.length) else .ok v η
          | none => .ok v η
        | v => .ok v η
    else .ok v η
  | .exc c xs η => if okCells η₀.length η η₀ && D.blws η₀.length xs then .exc c xs (η.take η₀.length) else .exc c xs η
  | .bad => .bad

/-! ## Operators on values -/
def seqOf (η : Hep) : D → Option (List D)
  | .tl xs => some xs
  | .fl xs => some xs
  | .ref n => match η[n]? with
    | some (.lst xs) => some xs
    | none => none
  | _ => none
/-- a list that is ours -/
def lstOf (η : Hep) : D → Option (List D)
  | .tl xs => some xs
  | .ref n => match η[n]? with
    | some (.lst xs) => some xs
    | none => none
  | _ => none
/-- a list or a tuple -/
def seqAny (η : Hep) : D → Option (List D)
  | .tup xs => some xs
  | d => seqOf η d

/-- the item at a place of any sign -/
abbrev at_ {α : Type} (xs : List α) (i : Int) : Option α := L2.atI xs i
def cut {α : Type} (xs : List α) (lo hi : Option Int) : List α := (xs.drop (HT.sIx xs.length 0 lo)).take (HT.sIx xs.length xs.length hi - HT.sIx xs.length 0 lo)

mutual
/-- == of plain data -/
def D.eq : D → D → Bool
  | .non, .non => true
  | .bl a, .bl b => a == b
  | .bl a, .int j => (if a then 1 else 0) == j
  | .int i, .bl b => i == (if b then 1 else 0)
  | .int a, .int b => decide (a = b)
  | .str a, .str b => decide (a = b)
  | .tup a, .tup b => D.eqs a b
  | .tl a, .tl b => D.eqs a b
  | _, _ => false
def D.eqs : List D → List D → Bool
  | [], [] => true
  | a :: as, b :: bs => D.eq a b && D.eqs as bs
  | _, _ => false
end
mutual
/-- depth of plain data -/
def D.dep : D → Nat
  | .tup xs => D.deps xs + 1
  | .tl xs => D.deps xs + 1
  | _ => 0
def D.deps : List D → Nat
  | [] => 0
  | x :: xs => max (D.dep x) (D.deps xs)
end
mutual
/-- no reference, no list within -/
def D.plain : D → Bool
  | .ref _ => false
  | .tl _ => false
  | .fl _ => false
  | .tup xs => D.plains xs
  | _ => true
def D.plains : List D → Bool
  | [] => true
  | x :: xs => D.plain x && D.plains xs
end
/-- a list, opened -/
def opn (η : Hep) (d : D) : D := match seqOf η d with
  | some xs => .tl xs
  | none => d
/-- plain data, or a list of such -/
def D.plain1 : D → Bool
  | .tl xs => D.plains xs
  | d => D.plain d
def eqD (x y : D) (η : Hep) : Option Bool :=
  let a := opn η x
  let b := opn η y
  if a.plain1 && b.plain1 && decide (min a.dep b.dep ≤ 64) then some (D.eq a b) else none
def inD (x y : D) (η : Hep) : Option Bool := match seqAny η y with
  | some xs => if D.plains xs && x.plain && decide (min (D.deps xs) x.dep ≤ 64) then some (xs.any fun y => D.eq y x) else none
  | none => none

inductive BOp where
  | add | sub | mul | fdiv | mod
  deriving DecidableEq
inductive COp where
  | eq | ne | lt | le | gt | ge | inn | nin
  deriving DecidableEq

def mulOk (i j : Int) : Bool := decide (i.natAbs.log2 + j.natAbs.log2 < 1000000)
def divOk (j : Int) : Bool := decide (0 < j ∧ j.natAbs.log2 < 9000) || decide (j ≠ 0 ∧ j.natAbs < 1073741824)

def binD (o : BOp) (x y : D) (η : Hep) : Option D := match o, x, y with
  | .add, .int i, .int j => some (.int (i + j))
  | .add, .str a, .str b => if a.length + b.length ≤ sizeLine then some (.str (a ++ b)) else none
  | .add, .tup a, .tup b => if a.length + b.length ≤ sizeLine then some (.tup (a ++ b)) else none
  | .add, x, y => match lstOf η x, lstOf η y with
    | some a, some b => if a.length + b.length ≤ sizeLine then some (.tl (a ++ b)) else none
    | _, _ => none
  | .sub, .int i, .int j => some (.int (i - j))
  | .mul, .int i, .int j => if mulOk i j then some (.int (i * j)) else none
  | .mul, .tup a, .int j => if a ≠ [] ∧ 2 ≤ j ∧ j ≤ 1000 ∧ a.length ≤ 1000 then some (.tup (List.replicate j.toNat a).flatten) else none
  | .mul, x, .int j => match lstOf η x with
    | some a => if -(2 ^ 63) ≤ j ∧ j < 2 ^ 63 ∧ a.length * j.toNat ≤ sizeLine then some (.tl (List.replicate j.toNat a).flatten) else none
    | none => none
  | .fdiv, .int i, .int j => if divOk j then some (.int (i.fdiv j)) else none
  | .mod, .int i, .int j => if j ≠ 0 then some (.int (i.fmod j)) else none
  | _, _, _ => none

def cmpD (o : COp) (x y : D) (η : Hep) : Option Bool := match o with
  | .eq => eqD x y η
  | .ne => (eqD x y η).map (!·)
  | .lt => match x, y with
    | .int i, .int j => some (decide (i < j))
    | _, _ => none
  | .le => match x, y with
    | .int i, .int j => some (decide (i ≤ j))
    | _, _ => none
  | .gt => match x, y with
    | .int i, .int j => some (decide (j < i))
    | _, _ => none
  | .ge => match x, y with
    | .int i, .int j => some (decide (j ≤ i))
    | _, _ => none
  | .inn => inD x y η
  | .nin => (inD x y η).map (!·)

inductive Ty where
  | int | bool | str | tuple | list
  deriving DecidableEq
def tyD (d : D) (t : Ty) : Bool := match t, d with
  | .int, .int _ => true
  | .int, .bl _ => true
  | .bool, .bl _ => true
  | .str, .str _ => true
  | .tuple, .tup _ => true
  | .list, .tl _ => true
  | .list, .fl _ => true
  | .list, .ref _ => true
  | _, _ => false

inductive Prim where
  | len | abs | int | tuple | list | sum | any | all | max2 | min2
  deriving DecidableEq

def intsOf : List D → Option (List Int)
  | [] => some []
  | .int i :: r => (intsOf r).map (i :: ·)
  | _ => none
def blsOf : List D → Option (List Bool)
  | [] => some []
  | .bl i :: r => (blsOf r).map (i :: ·)
  | _ => none

def primD (p : Prim) (xs : List D) (η : Hep) : Option D := match p, xs with
  | .len, [.str x] => if x.length ≤ sizeLine then some (.int x.length) else none
  | .len, [x] => (seqAny η x).map fun xs => .int xs.length
  | .abs, [.int i] => some (.int (if i < 0 then -i else i))
  | .int, [.int i] => some (.int i)
  | .tuple, [x] => (seqAny η x).map .tup
  | .list, [x] => (seqAny η x).map .tl
  | .sum, [x] => (seqOf η x).bind fun xs => (intsOf xs).map fun ns => .int ns.sum
  | .any, [x] => (seqOf η x).bind fun xs => (blsOf xs).map fun bs => .bl (bs.any id)
  | .all, [x] => (seqOf η x).bind fun xs => (blsOf xs).map fun bs => .bl (bs.all id)
  | .max2, [.int i, .int j] => some (.int (if j > i then j else i))
  | .min2, [.int i, .int j] => some (.int (if j < i then j else i))
  | _, _ => none

inductive Meth where
  | append | pop0 | popAt | extend
  deriving DecidableEq
/-- a method that changes a list -/
def methD (m : Meth) (o : D) (xs : List D) (η : Hep) : R D := match o with
  | .ref n => match η[n]? with
    | some (.lst ys) => match m, xs with
      | .append, [x] => if ys.length < sizeLine then .ok .non (η.set n (.lst (ys ++ [x]))) else .bad
      | .pop0, [] => match ys[ys.length - 1]? with
        | some y => .ok y (η.set n (.lst ys.dropLast))
        | none => .bad
      | .popAt, [.int i] => match L2.ixN ys.length i with
        | some k => match ys[k]? with
          | some y => .ok y (η.set n (.lst (ys.eraseIdx k)))
          | none => .bad
        | none => .bad
      | .extend, [x] => match lstOf η x with
        | some zs => if ys.length + zs.length ≤ sizeLine then .ok .non (η.set n (.lst (ys ++ zs))) else .bad
        | none => .bad
      | _, _ => .bad
    | none => .bad
  | _ => .bad
/-- o[i] = v -/
def setD (o i v : D) (η : Hep) : Option Hep := match o, i with
  | .ref n, .int i => match η[n]? with
    | some (.lst xs) => (L2.ixN xs.length i).map fun j => η.set n (.lst (xs.set j v))
    | none => none
  | _, _ => none
def idxD (o i : D) (η : Hep) : Option D := match o, i with
  | .str z, .int i => if z.length ≤ sizeLine then (at_ z.cps.toList i).map fun c => .str ⟨#[c]⟩ else none
  | o, .int i => (seqAny η o).bind fun xs => at_ xs i
  | _, _ => none
def slcD (o : D) (lo hi : Option Int) (η : Hep) : Option D := match o with
  | .str z => if z.length ≤ sizeLine then some (.str ⟨(cut z.cps.toList lo hi).toArray⟩) else none
  | .tup xs => some (.tup (cut xs lo hi))
  | o => (seqOf η o).map fun xs => .tl (cut xs lo hi)

/-! ## The language -/
inductive T where
  | nm (i : Nat)
  | tp (ts : List T)
  | lp (ts : List T)
mutual
inductive E where
  | lit (d : D) | var (i : Nat) | glb (x : Str) (d : D)
  | bin (o : BOp) (a b : E) | neg (a : E)
  | cmp (o : COp) (a b : E) | cmp2 (o o' : COp) (a b c : E)
  | isn (neg : Bool) (a : E)
  | and (a b : E) | or (a b : E) | not (a : E) | ite (c a b : E)
  | tup (es : Es) | lst (es : Es)
  | idx (a i : E) | slc (a : E) (lo hi : OE)
  | call (f : Nat) (es : Es) | prim (p : Prim) (es : Es) | isi (a : E) (ts : List Ty) (tupled : Bool)
  | meth (m : Meth) (o : E) (es : Es)
  | comp (elt : E) (t : T) (it : I) (c : OE) (own : List Nat)
inductive Es where
  | nil
  | cons (e : E) (es : Es)
inductive OE where
  | no
  | so (e : E)
inductive I where
  | val (e : E) | rng1 (a : E) | rng2 (a b : E) | rng3 (a b c : E) | enm (e : E) | zip2 (a b : E) | rev (e : E)
end
mutual
inductive S where
  | asg (t : T) (e : E) | par (i j : Nat) (a b : E) | par3 (i j l : Nat) (a b c : E) | sub (o i e : E)
  | aug (i : Nat) (o : BOp) (e : E) | augS (x i : E) (o : BOp) (e : E)
  | ret (e : E) | retN | ex (e : E) | pass | brk | cnt
  | ifs (c : E) (a b : Ss) | whl (c : E) (b : Ss) | fr (t : T) (it : I) (b : Ss)
  | raise (c : Nat) (es : Es) | tr (b : Ss) (hs : Hs)
inductive Ss where
  | nil
  | cons (s : S) (ss : Ss)
inductive Hs where
  | nil
  | cons (c : Nat) (b : Ss) (hs : Hs)
end

mutual
/-- a target of names -/
def bindT : T → D → Hep → Lo → Option Lo
  | .nm i, d, _, ρ => some (ρ.set i (some d))
  | .tp ts, d, η, ρ => match d with
    | .tup xs => bindTs ts xs η ρ
    | _ => none
  | .lp ts, d, η, ρ => match seqOf η d with
    | some xs => bindTs ts xs η ρ
    | none => none
def bindTs : List T → List D → Hep → Lo → Option Lo
  | [], [], _, ρ => some ρ
  | t :: ts, x :: xs, η, ρ => match bindT t x η ρ with
    | some ρ' => bindTs ts xs η ρ'
    | none => none
  | _, _, _, _ => none
end

/-- lists that a loop walks stand as they were -/
def watchOk (η : Hep) (w : List (Nat × List D)) : Bool := w.all fun p => decide (η[p.1]? = some (.lst p.2))
def watchOf (d : D) (xs : List D) : List (Nat × List D) := match d with
  | .ref n => [(n, xs)]
  | _ => []

def wipe (ρ : Lo) : List Nat → Lo
  | [] => ρ
  | v :: vs => (wipe ρ vs).set v none

/-- one list comprehension: the items from the left -/
def compL (elt : Lo → Hep → R D) (tst : Lo → Hep → R D) (t : T) (w : List (Nat × List D)) (ρ : Lo) : List D → Hep → List D → R (List D)
  | [], η, acc => .ok acc η
  | x :: xs, η, acc => match bindT t x η ρ with
    | none => .bad
    | some ρ' => match tst ρ' η with
      | .ok (.bl true) η1 => match elt ρ' η1 with
        | .ok y η2 => match own y η2 with
          | .ok y' η3 => if watchOk η3 w && decide (acc.length < sizeLine) then compL elt tst t w ρ xs η3 (acc ++ [y']) else .bad
          | _ => .bad
        | _ => .bad
      | .ok (.bl false) η1 => if watchOk η1 w then compL elt tst t w ρ xs η1 acc else .bad
      | _ => .bad

def big (i : Int) : Bool := decide (-(2 ^ 62) ≤ i ∧ i < 2 ^ 62)
/-- the ints lo, lo + 1, .. (n of them) -/
def rng (lo : Int) (n : Nat) : List D := (List.range n).map fun (k : Nat) => D.int (lo + (k : Int))
def rngC (lo c : Int) (n : Nat) : List D := (List.range n).map fun (k : Nat) => D.int (lo + (k : Int) * c)
def enm : Nat → List D → List D
  | _, [] => []
  | k, x :: xs => .tup [.int (k : Int), x] :: enm (k + 1) xs
def zip2 : List D → List D → List D
  | x :: xs, y :: ys => .tup [x, y] :: zip2 xs ys
  | _, _ => []

section
variable (C : Nat → List D → Hep → R D)
mutual
def ev : E → Lo → Hep → R D
  | .lit d, _, η => .ok d η
  | .var i, ρ, η => match ρ[i]? with
    | some (some d) => .ok d η
    | _ => .bad
  | .glb _ d, _, η => .ok d η
  | .bin o a b, ρ, η => (ev a ρ η).bind fun x η1 => (ev b ρ η1).bind fun y η2 => R.of (binD o x y η2) η2
  | .neg a, ρ, η => (ev a ρ η).bind fun x η1 => match x with
    | .int i => .ok (.int (-i)) η1
    | _ => .bad
  | .cmp o a b, ρ, η => (ev a ρ η).bind fun x η1 => (ev b ρ η1).bind fun y η2 => R.of ((cmpD o x y η2).map .bl) η2
  | .cmp2 o o' a b c, ρ, η => (ev a ρ η).bind fun x η1 => (ev b ρ η1).bind fun y η2 => match cmpD o x y η2 with
    | some true => (ev c ρ η2).bind fun z η3 => R.of ((cmpD o' y z η3).map .bl) η3
    | some false => .ok (.bl false) η2
    | none => .bad
  | .isn n a, ρ, η => (ev a ρ η).bind fun x η1 => .ok (.bl (if n then !decide (x = .non) else decide (x = .non))) η1
  | .and a b, ρ, η => (ev a ρ η).bind fun x η1 => match x with
    | .bl true => ev b ρ η1
    | .bl false => .ok (.bl false) η1
    | _ => .bad
  | .or a b, ρ, η => (ev a ρ η).bind fun x η1 => match x with
    | .bl true => .ok (.bl true) η1
    | .bl false => ev b ρ η1
    | _ => .bad
  | .not a, ρ, η => (ev a ρ η).bind fun x η1 => match x with
    | .bl k => .ok (.bl (!k)) η1
    | _ => .bad
  | .ite c a b, ρ, η => (ev c ρ η).bind fun x η1 => match x with
    | .bl true => ev a ρ η1
    | .bl false => ev b ρ η1
    | _ => .bad
  | .tup es, ρ, η => (evs es ρ η).bind fun xs η1 => if xs.length ≤ sizeLine then .ok (.tup xs) η1 else .bad
  | .lst es, ρ, η => (evs es ρ η).bind fun xs η1 => if xs.length ≤ sizeLine then .ok (.tl xs) η1 else .bad
  | .idx a i, ρ, η => (ev a ρ η).bind fun x η1 => (ev i ρ η1).bind fun y η2 => R.of (idxD x y η2) η2
  | .slc a lo hi, ρ, η => (ev a ρ η).bind fun x η1 => (evo lo ρ η1).bind fun l η2 => (evo hi ρ η2).bind fun h η3 => R.of (slcD x l h η3) η3
  | .call f es, ρ, η => (evs es ρ η).bind fun xs η1 => fin η (C f xs η1)
  | .prim p es, ρ, η => (evp es ρ η).bind fun xs η1 => R.of (primD p xs η1) η1
  | .isi a ts _, ρ, η => (ev a ρ η).bind fun x η1 => .ok (.bl (ts.any fun t => tyD x t)) η1
  | .meth m o es, ρ, η => (ev o ρ η).bind fun x η1 => match x with
    | .ref n => (evs es ρ η1).bind fun xs η2 => methD m (.ref n) xs η2
    | _ => .bad
  | .comp elt t it c vs, ρ, η => (evI it ρ η).bind fun p η1 => (compL (fun ρ η => ev elt ρ η) (fun ρ η => evc c ρ η) t p.2 (wipe ρ vs) p.1 η1 []).bind fun xs η2 => .ok (.tl xs) η2
/-- arguments, each with a cell of its own where it is a fresh list -/
def evs : Es → Lo → Hep → R (List D)
  | .nil, _, η => .ok [] η
  | .cons e es, ρ, η => (ev e ρ η).bind fun x η1 => (own x η1).bind fun x' η2 => (evs es ρ η2).bind fun xs η3 => .ok (x' :: xs) η3
/-- arguments of a built-in, as they come -/
def evp : Es → Lo → Hep → R (List D)
  | .nil, _, η => .ok [] η
  | .cons e es, ρ, η => (ev e ρ η).bind fun x η1 => (evp es ρ η1).bind fun xs η2 => .ok (x :: xs) η2
def evo : OE → Lo → Hep → R (Option Int)
  | .no, _, η => .ok none η
  | .so e, ρ, η => (ev e ρ η).bind fun x η1 => match x with
    | .int i => .ok (some i) η1
    | _ => .bad
def evc : OE → Lo → Hep → R D
  | .no, _, η => .ok (.bl true) η
  | .so e, ρ, η => ev e ρ η
/-- what is walked: its items, and the lists that have to stand still -/
def evI : I → Lo → Hep → R (List D × List (Nat × List D))
  | .val e, ρ, η => (ev e ρ η).bind fun x η1 => R.of ((seqAny η1 x).map fun xs => (xs, watchOf x xs)) η1
  | .rng1 a, ρ, η => (ev a ρ η).bind fun x η1 => match x with
    | .int n => if big n then .ok (rng 0 n.toNat, []) η1 else .bad
    | _ => .bad
  | .rng2 a b, ρ, η => (ev a ρ η).bind fun x η1 => (ev b ρ η1).bind fun y η2 => match x, y with
    | .int i, .int j => if big i && big j then .ok (rng i (j - i).toNat, []) η2 else .bad
    | _, _ => .bad
  | .rng3 a b c, ρ, η => (ev a ρ η).bind fun x η1 => (ev b ρ η1).bind fun y η2 => (ev c ρ η2).bind fun z η3 => match x, y, z with
    | .int i, .int j, .int k => if big i && big j && decide (k = -1) then .ok (rngC i k (i - j).toNat, []) η3 else .bad
    | _, _, _ => .bad
  | .enm e, ρ, η => (ev e ρ η).bind fun x η1 => R.of ((seqAny η1 x).map fun xs => (enm 0 xs, watchOf x xs)) η1
  | .zip2 a b, ρ, η => (ev a ρ η).bind fun x η1 => (ev b ρ η1).bind fun y η2 => match seqAny η2 x, seqAny η2 y with
    | some xs, some ys => .ok (zip2 xs ys, watchOf x xs ++ watchOf y ys) η2
    | _, _ => .bad
  | .rev e, ρ, η => (ev e ρ η).bind fun x η1 => R.of ((seqAny η1 x).map fun xs => (xs.reverse, watchOf x xs)) η1
end
end

/-! ## Statements -/
inductive SR where
  | nx (ρ : Lo) (η : Hep)
  | rt (d : D) (η : Hep)
  | bk (ρ : Lo) (η : Hep)
  | ct (ρ : Lo) (η : Hep)
  | exc (c : Nat) (xs : List D) (ρ : Lo) (η : Hep)
  | bad
/-- an expression's answer, then a statement's -/
def R.go {α : Type} (r : R α) (ρ : Lo) (k : α → Hep → SR) : SR := match r with
  | .ok a η => k a η
  | .exc c xs η => .exc c xs ρ η
  | .bad => .bad
@[simp] theorem R.go_ok {α : Type} {a : α} {η : Hep} {ρ : Lo} {k : α → Hep → SR} : (R.ok a η).go ρ k = k a η := rfl
@[simp] theorem R.go_exc {α : Type} {c : Nat} {xs : List D} {η : Hep} {ρ : Lo} {k : α → Hep → SR} : (R.exc c xs η : R α).go ρ k = .exc c xs ρ η := rfl
@[simp] theorem R.go_bad {α : Type} {ρ : Lo} {k : α → Hep → SR} : (R.bad : R α).go ρ k = .bad := rfl
def SR.seq (r : SR) (k : Lo → Hep → SR) : SR := match r with
  | .nx ρ η => k ρ η
  | r => r
@[simp] theorem SR.seq_nx {ρ : Lo} {η : Hep} {k : Lo → Hep → SR} : (SR.nx ρ η).seq k = k ρ η := rfl
@[simp] theorem SR.seq_rt {d : D} {η : Hep} {k : Lo → Hep → SR} : (SR.rt d η).seq k = .rt d η := rfl
@[simp] theorem SR.seq_bk {ρ : Lo} {η : Hep} {k : Lo → Hep → SR} : (SR.bk ρ η).seq k = .bk ρ η := rfl
@[simp] theorem SR.seq_ct {ρ : Lo} {η : Hep} {k : Lo → Hep → SR} : (SR.ct ρ η).seq k = .ct ρ η := rfl
@[simp] theorem SR.seq_exc {c : Nat} {xs : List D} {ρ : Lo} {η : Hep} {k : Lo → Hep → SR} : (SR.exc c xs ρ η).seq k = .exc c xs ρ η := rfl
@[simp] theorem SR.seq_bad {k : Lo → Hep → SR} : SR.bad.seq k = .bad := rfl

/-- for: the items from the left -/
def forL (b : Lo → Hep → SR) (t : T) (w : List (Nat × List D)) : List D → Lo → Hep → SR
  | [], ρ, η => .nx ρ η
  | x :: xs, ρ, η => match bindT t x η ρ with
    | none => .bad
    | some ρ1 => match b ρ1 η with
      | .nx ρ2 η2 => if watchOk η2 w then forL b t w xs ρ2 η2 else .bad
      | .ct ρ2 η2 => if watchOk η2 w then forL b t w xs ρ2 η2 else .bad
      | .bk ρ2 η2 => .nx ρ2 η2
      | r => r
/-- while, so many turns at most -/
def whF (c : Lo → Hep → R D) (b : Lo → Hep → SR) : Nat → Lo → Hep → SR
  | 0, _, _ => .bad
  | n + 1, ρ, η => match c ρ η with
    | .ok (.bl true) η1 => match b ρ η1 with
      | .nx ρ2 η2 => whF c b n ρ2 η2
      | .ct ρ2 η2 => whF c b n ρ2 η2
      | .bk ρ2 η2 => .nx ρ2 η2
      | r => r
    | .ok (.bl false) η1 => .nx ρ η1
    | .exc k xs η1 => .exc k xs ρ η1
    | _ => .bad
open Classical in
/-- while -/
noncomputable def whL (c : Lo → Hep → R D) (b : Lo → Hep → SR) (ρ : Lo) (η : Hep) : SR :=
  if h : ∃ n, whF c b n ρ η ≠ .bad then whF c b h.choose ρ η else .bad

/-- a suite lets nothing out -/
def noX : SR → SR
  | .exc _ _ _ _ => .bad
  | r => r
/-- the first clause that names the class -/
def handle (c : Nat) : Hs → Option Ss
  | .nil => none
  | .cons k b hs => if c = k then some b else handle c hs

section
variable (C : Nat → List D → Hep → R D)
mutual
noncomputable def exec : S → Lo → Hep → SR
  | .asg t e, ρ, η => (ev C e ρ η).go ρ fun x η1 => (own x η1).go ρ fun y η2 => match bindT t y η2 ρ with
    | some ρ' => .nx ρ' η2
    | none => .bad
  | .par i j a b, ρ, η => (evs C (.cons a (.cons b .nil)) ρ η).go ρ fun xs η1 => match xs with
    | [x, y] => .nx ((ρ.set i (some x)).set j (some y)) η1
    | _ => .bad
  | .par3 i j l a b c, ρ, η => (evs C (.cons a (.cons b (.cons c .nil))) ρ η).go ρ fun xs η1 => match xs with
    | [x, y, z] => .nx (((ρ.set i (some x)).set j (some y)).set l (some z)) η1
    | _ => .bad
  | .sub o i e, ρ, η => (ev C e ρ η).go ρ fun v η1 => (own v η1).go ρ fun v' η2 => (ev C o ρ η2).go ρ fun x η3 => (ev C i ρ η3).go ρ fun y η4 => match setD x y v' η4 with
    | some η5 => .nx ρ η5
    | none => .bad
  | .aug i o e, ρ, η => match ρ[i]? with
    | some (some x) => (ev C e ρ η).go ρ fun y η1 => match o, x, y with
      | .add, .int a, .int b => .nx (ρ.set i (some (.int (a + b)))) η1
      | .sub, .int a, .int b => .nx (ρ.set i (some (.int (a - b)))) η1
      | _, _, _ => .bad
    | _ => .bad
  | .augS x i o e, ρ, η => (ev C x ρ η).go ρ fun a η1 => (ev C i ρ η1).go ρ fun k η2 => match a with
    | .ref n => (R.of (idxD (.ref n) k η2) η2).go ρ fun v η3 => (ev C e ρ η3).go ρ fun y η4 => match o, v, y with
      | .add, .int p, .int q => match setD (.ref n) k (.int (p + q)) η4 with
        | some η5 => .nx ρ η5
        | none => .bad
      | .sub, .int p, .int q => match setD (.ref n) k (.int (p - q)) η4 with
        | some η5 => .nx ρ η5
        | none => .bad
      | _, _, _ => .bad
    | _ => .bad
  | .ret e, ρ, η => (ev C e ρ η).go ρ fun x η1 => .rt x η1
  | .retN, _, η => .rt .non η
  | .ex e, ρ, η => (ev C e ρ η).go ρ fun _ η1 => .nx ρ η1
  | .pass, ρ, η => .nx ρ η
  | .brk, ρ, η => .bk ρ η
  | .cnt, ρ, η => .ct ρ η
  | .ifs c a b, ρ, η => (ev C c ρ η).go ρ fun x η1 => match x with
    | .bl true => execs a ρ η1
    | .bl false => execs b ρ η1
    | _ => .bad
  | .whl c b, ρ, η => whL (fun ρ η => ev C c ρ η) (fun ρ η => execs b ρ η) ρ η
  | .fr t it b, ρ, η => (evI C it ρ η).go ρ fun p η1 => forL (fun ρ η => execs b ρ η) t p.2 p.1 ρ η1
  | .raise c es, ρ, η => (evs C es ρ η).go ρ fun xs η1 => if D.plains xs then .exc c xs ρ η1 else .bad
  | .tr b hs, ρ, η => match execs b ρ η with
    | .exc c xs ρ1 η1 => execH c xs hs ρ1 η1
    | r => r
noncomputable def execs : Ss → Lo → Hep → SR
  | .nil, ρ, η => .nx ρ η
  | .cons s ss, ρ, η => (exec s ρ η).seq fun ρ1 η1 => execs ss ρ1 η1
noncomputable def execH : Nat → List D → Hs → Lo → Hep → SR
  | c, xs, .nil, ρ, η => .exc c xs ρ η
  | c, xs, .cons k b hs, ρ, η => if c = k then noX (execs b ρ η) else execH c xs hs ρ η
end
end

/-! ## Functions -/
structure Fd where
  np : Nat
  ns : Nat
  body : Ss
def start (ns : Nat) (vs : List D) : Lo := vs.map some ++ List.replicate (ns - vs.length) none
def toR : SR → R D
  | .nx _ η => .ok .non η
  | .rt d η => .ok d η
  | .exc c xs _ η => .exc c xs η
  | _ => .bad
/-- a call, at most so many calls one in another -/
noncomputable def callN (Γ : Nat → Option Fd) : Nat → Nat → List D → Hep → R D
  | 0, _, _, _ => .bad
  | k + 1, f, vs, η => match Γ f with
    | some d => if vs.length = d.np then toR (execs (callN Γ k) d.body (start d.ns vs) η) else .bad
    | none => .bad
end Ev

set_option Elab.async false
set_option linter.all false
set_option maxRecDepth 100000
/-! # Part B: soundness. How the small heap lies in the layer's heap -/
namespace Ev
open PySem
open PySem.Spec
open PyProof.Rows
open L2

def D.isTl : D → Bool
  | .tl _ => true
  | _ => false

section
variable (K : PySem.W.Frag)
/-- a list that nobody changes -/
def SqF (H : Hp) (a : Addr) (xs : List V) : Prop := (∃ o, H a = some (.frz o (.lst xs))) ∨
  ∃ (o : Obj) (its : Array Value) (n : Nat), K.lookup a = some o ∧ o.cls = .type "list" ∧ o.dict = none ∧ o.data = .seq its n ∧ its.size ≤ sizeLine ∧ Vals xs its.toList
theorem SqF.sq {H : Hp} {a : Addr} {xs : List V} (h : SqF K H a xs) : SqL K H a xs := by
  rcases h with ⟨o, h⟩ | h
  · exact .inl (.inr ⟨o, h⟩)
  · exact .inr h
mutual
def RV (H : Hp) (μ : List Addr) : D → V → Prop
  | .non, v => v = .non
  | .bl b, v => v = .bl b
  | .int i, v => v = .int i
  | .str x, v => v = .str x
  | .tup xs, v => ∃ a vs, v = .ref a ∧ SqT K H a vs ∧ RVs H μ xs vs
  | .ref n, v => ∃ a, v = .ref a ∧ μ[n]? = some a
  | .tl xs, v => ∃ a vs, v = .ref a ∧ H a = some (.lst vs) ∧ a ∉ μ ∧ RVs H μ xs vs
  | .fl xs, v => ∃ a vs, v = .ref a ∧ SqF K H a vs ∧ RVs H μ xs vs
def RVs (H : Hp) (μ : List Addr) : List D → List V → Prop
  | [], vs => vs = []
  | x :: xs, vs => ∃ v r, vs = v :: r ∧ RV H μ x v ∧ x.isTl = false ∧ RVs H μ xs r
end
structure Rp (μ : List Addr) (η : Hep) (H : Hp) : Prop where
  len : μ.length = η.length
  nd : μ.Nodup
  cell : ∀ (n : Nat) (a : Addr) (xs : List D), μ[n]? = some a → η[n]? = some (.lst xs) → ∃ vs, H a = some (.lst vs) ∧ RVs K H μ xs vs
/-- how heaps follow one another -/
structure Step (μ : List Addr) (H : Hp) (μ' : List Addr) (H' : Hp) : Prop where
  pre : μ <+: μ'
  fr : ∀ a o, H a = some o → a ∉ μ → H' a = some o
  new : ∀ a, a ∈ μ' → a ∉ μ → H a = none
end

section
variable {K : PySem.W.Frag} {μ μ' μ1 : List Addr} {η η1 : Hep} {H H' H1 : Hp} {d : D} {v : V} {ds : List D} {vs : List V} {a : Addr}

theorem Step.refl : Step μ H μ H := ⟨List.prefix_refl _, fun _ _ h _ => h, fun _ h h' => absurd h h'⟩
theorem Step.trans (s : Step μ H μ1 H1) (t : Step μ1 H1 μ' H') : Step μ H μ' H' where
  pre := s.pre.trans t.pre
  fr := fun a o h n => by
    have h1 := s.fr a o h n
    refine t.fr a o h1 fun m => ?_
    have := s.new a m n
    rw [h] at this; cases this
  new := fun a m n => by
    by_cases m1 : a ∈ μ1
    · exact s.new a m1 n
    · have e := t.new a m m1
      cases q : H a with
      | none => rfl
      | some o => rw [s.fr a o q n] at e; cases e
theorem Rp.mem (r : Rp K μ η H) (h : a ∈ μ) : ∃ vs, H a = some (.lst vs) := by
  obtain ⟨n, hn, e⟩ := List.getElem_of_mem h
  have hl : n < η.length := by rw [← r.len]; exact hn
  cases q : η[n] with
  | lst xs =>
    obtain ⟨vs, h1, _⟩ := r.cell n a xs (by rw [List.getElem?_eq_getElem hn, e]) (by rw [List.getElem?_eq_getElem hl, q])
    exact ⟨vs, h1⟩
theorem Rp.notMem (r : Rp K μ η H) {o : HO} (h : H a = some o) (ho : ∀ vs, o ≠ .lst vs) : a ∉ μ := fun m => by
  obtain ⟨vs, e⟩ := r.mem m
  rw [h] at e; cases e
  exact ho vs rfl
theorem Rp.fresh (r : Rp K μ η H) (h : H a = none) : a ∉ μ := fun m => by
  obtain ⟨vs, e⟩ := r.mem m
  rw [h] at e; cases e

theorem SqT.step (s : Step μ H μ' H') (r : Rp K μ η H) {xs : List V} (h : SqT K H a xs) : SqT K H' a xs := by
  rcases h with (h | ⟨o, h⟩) | h
  · exact .inl (.inl (s.fr _ _ h (r.notMem h fun _ => by simp)))
  · exact .inl (.inr ⟨o, s.fr _ _ h (r.notMem h fun _ => by simp)⟩)
  · exact .inr h
theorem SqF.step (s : Step μ H μ' H') (r : Rp K μ η H) {xs : List V} (h : SqF K H a xs) : SqF K H' a xs := by
  rcases h with ⟨o, h⟩ | h
  · exact .inl ⟨o, s.fr _ _ h (r.notMem h fun _ => by simp)⟩
  · exact .inr h
mutual
theorem RV.step (s : Step μ H μ' H') (r : Rp K μ η H) : ∀ (d : D) (v : V), RV K H μ d v → RV K H' μ' d v
  | .non, v, h => by simpa [RV] using h
  | .bl _, v, h => by simpa [RV] using h
  | .int _, v, h => by simpa [RV] using h
  | .str _, v, h => by simpa [RV] using h
  | .tup xs, v, h => by
    simp only [RV] at h ⊢
    obtain ⟨a, vs, e, h1, h2⟩ := h
    exact ⟨a, vs, e, SqT.step s r h1, RVs.step s r xs vs h2⟩
  | .ref n, v, h => by
    simp only [RV] at h ⊢
    obtain ⟨a, e, h1⟩ := h
    obtain ⟨t, rfl⟩ := s.pre
    exact ⟨a, e, by rw [List.getElem?_append_left (List.getElem?_eq_some_iff.mp h1).1]; exact h1⟩
  | .tl xs, v, h => by
    simp only [RV] at h ⊢
    obtain ⟨a, vs, e, h1, h2, h3⟩ := h
    refine ⟨a, vs, e, s.fr _ _ h1 h2, fun m => ?_, RVs.step s r xs vs h3⟩
    have := s.new a m h2
    rw [h1] at this; cases this
  | .fl xs, v, h => by
    simp only [RV] at h ⊢
    obtain ⟨a, vs, e, h1, h2⟩ := h
    exact ⟨a, vs, e, SqF.step s r h1, RVs.step s r xs vs h2⟩
theorem RVs.step (s : Step μ H μ' H') (r : Rp K μ η H) : ∀ (ds : List D) (vs : List V), RVs K H μ ds vs → RVs K H' μ' ds vs
  | [], vs, h => by simpa [RVs] using h
  | x :: xs, vs, h => by
    simp only [RVs] at h ⊢
    obtain ⟨v, r', e, h1, h2, h3⟩ := h
    exact ⟨v, r', e, RV.step s r x v h1, h2, RVs.step s r xs r' h3⟩
end
theorem RVs.length : ∀ {ds : List D} {vs : List V}, RVs K H μ ds vs → ds.length = vs.length
  | [], vs, h => by simp only [RVs] at h; subst h; rfl
  | x :: xs, vs, h => by
    simp only [RVs] at h
    obtain ⟨v, r, rfl, _, _, h3⟩ := h
    simp [RVs.length h3]
theorem RVs.get : ∀ {ds : List D} {vs : List V} {i : Nat} {d : D}, RVs K H μ ds vs → ds[i]? = some d → ∃ v, vs[i]? = some v ∧ RV K H μ d v ∧ d.isTl = false
  | [], _, _, _, _, e => by simp at e
  | x :: xs, vs, i, d, h, e => by
    simp only [RVs] at h
    obtain ⟨v, r, rfl, h1, h2, h3⟩ := h
    cases i with
    | zero => simp at e; subst e; exact ⟨v, rfl, h1, h2⟩
    | succ i => simpa using RVs.get h3 (by simpa using e)
theorem RVs.append : ∀ {ds es : List D} {vs ws : List V}, RVs K H μ ds vs → RVs K H μ es ws → RVs K H μ (ds ++ es) (vs ++ ws)
  | [], _, vs, _, h, h' => by simp only [RVs] at h; subst h; exact h'
  | x :: xs, es, vs, ws, h, h' => by
    simp only [RVs, List.cons_append] at h ⊢
    obtain ⟨v, r, rfl, h1, h2, h3⟩ := h
    exact ⟨v, r ++ ws, rfl, h1, h2, RVs.append h3 h'⟩
theorem RVs.one (h : RV K H μ d v) (t : d.isTl = false) : RVs K H μ [d] [v] := ⟨v, [], rfl, h, t, rfl⟩
theorem RVs.take : ∀ {ds : List D} {vs : List V} (n : Nat), RVs K H μ ds vs → RVs K H μ (ds.take n) (vs.take n)
  | [], vs, n, h => by simp only [RVs] at h; subst h; simp [RVs]
  | x :: xs, vs, 0, h => by simp [RVs]
  | x :: xs, vs, n + 1, h => by
    simp only [RVs] at h
    obtain ⟨v, r, rfl, h1, h2, h3⟩ := h
    simp only [List.take_succ_cons, RVs]
    exact ⟨v, r.take n, rfl, h1, h2, RVs.take n h3⟩
theorem RVs.drop : ∀ {ds : List D} {vs : List V} (n : Nat), RVs K H μ ds vs → RVs K H μ (ds.drop n) (vs.drop n)
  | [], vs, n, h => by simp only [RVs] at h; subst h; simp [RVs]
  | x :: xs, vs, 0, h => by simpa using h
  | x :: xs, vs, n + 1, h => by
    simp only [RVs] at h
    obtain ⟨v, r, rfl, h1, h2, h3⟩ := h
    simpa using RVs.drop n h3
theorem RVs.set : ∀ {ds : List D} {vs : List V} (n : Nat), RVs K H μ ds vs → RV K H μ d v → d.isTl = false → RVs K H μ (ds.set n d) (vs.set n v)
  | [], vs, n, h, _, _ => by simp only [RVs] at h; subst h; simp [RVs]
  | x :: xs, vs, 0, h, hd, ht => by
    simp only [RVs] at h
    obtain ⟨w, r, rfl, h1, h2, h3⟩ := h
    simp only [List.set_cons_zero, RVs]
    exact ⟨v, r, rfl, hd, ht, h3⟩
  | x :: xs, vs, n + 1, h, hd, ht => by
    simp only [RVs] at h
    obtain ⟨w, r, rfl, h1, h2, h3⟩ := h
    simp only [List.set_cons_succ, RVs]
    exact ⟨w, r.set n v, rfl, h1, h2, RVs.set n h3 hd ht⟩
theorem RVs.eraseIdx : ∀ {ds : List D} {vs : List V} (n : Nat), RVs K H μ ds vs → RVs K H μ (ds.eraseIdx n) (vs.eraseIdx n)
  | [], vs, n, h => by simp only [RVs] at h; subst h; simp [RVs]
  | x :: xs, vs, 0, h => by
    simp only [RVs] at h
    obtain ⟨w, r, rfl, h1, h2, h3⟩ := h
    simpa using h3
  | x :: xs, vs, n + 1, h => by
    simp only [RVs] at h
    obtain ⟨w, r, rfl, h1, h2, h3⟩ := h
    simp only [List.eraseIdx_cons_succ, RVs]
    exact ⟨w, _, rfl, h1, h2, RVs.eraseIdx n h3⟩
theorem RVs.dropLast {ds : List D} {vs : List V} (h : RVs K H μ ds vs) : RVs K H μ ds.dropLast vs.dropLast := by
  rw [List.dropLast_eq_take, List.dropLast_eq_take, ← h.length]
  exact h.take _
theorem RVs.cut {ds : List D} {vs : List V} {lo hi : Option Int} (h : RVs K H μ ds vs) : RVs K H μ (cut ds lo hi) (cutV vs lo hi) := by
  unfold Ev.cut cutV
  rw [← h.length]
  exact (h.drop _).take _
theorem RVs.reverse : ∀ {ds : List D} {vs : List V}, RVs K H μ ds vs → RVs K H μ ds.reverse vs.reverse
  | [], vs, h => by simp only [RVs] at h; subst h; simp [RVs]
  | x :: xs, vs, h => by
    simp only [RVs] at h
    obtain ⟨w, r, rfl, h1, h2, h3⟩ := h
    simp only [List.reverse_cons]
    exact RVs.append (RVs.reverse h3) (RVs.one h1 h2)
theorem RVs.rep {ds : List D} {vs : List V} (h : RVs K H μ ds vs) : ∀ k : Nat, RVs K H μ (List.replicate k ds).flatten (List.replicate k vs).flatten
  | 0 => by simp [RVs]
  | k + 1 => by
    simp only [List.replicate_succ, List.flatten_cons]
    exact RVs.append h (RVs.rep h k)
theorem RVs.nil_iff {ds : List D} {vs : List V} (h : RVs K H μ ds vs) : vs = [] ↔ ds = [] := by
  have := h.length
  constructor
  · rintro rfl; exact List.eq_nil_of_length_eq_zero (by simpa using this)
  · rintro rfl; exact List.eq_nil_of_length_eq_zero (by simpa using this.symm)
theorem ixN_at {α β : Type} {xs : List α} {ys : List β} (h : xs.length = ys.length) {i : Int} {j : Nat} (e : ixN xs.length i = some j) : ixN ys.length i = some j := by rw [← h]; exact e
theorem RVs.at {ds : List D} {vs : List V} {i : Int} (h : RVs K H μ ds vs) (e : at_ ds i = some d) : ∃ v, atI vs i = some v ∧ RV K H μ d v ∧ d.isTl = false := by
  unfold at_ atI at e
  cases q : ixN ds.length i with
  | none => rw [q] at e; simp at e
  | some j =>
    rw [q] at e
    obtain ⟨v, h1, h2, h3⟩ := h.get (i := j) (by simpa using e)
    exact ⟨v, by unfold atI; rw [← h.length, q]; simpa using h1, h2, h3⟩
/-! ### references lie below -/
mutual
theorem RV.blw : ∀ (d : D) (v : V), RV K H μ d v → D.blw μ.length d = true
  | .non, v, h => by simp [D.blw]
  | .bl _, v, h => by simp [D.blw]
  | .int _, v, h => by simp [D.blw]
  | .str _, v, h => by simp [D.blw]
  | .tup xs, v, h => by
    simp only [RV] at h
    obtain ⟨a, vs, e, h1, h2⟩ := h
    simpa [D.blw] using RVs.blws xs vs h2
  | .ref n, v, h => by
    simp only [RV] at h
    obtain ⟨a, e, h1⟩ := h
    simpa [D.blw] using (List.getElem?_eq_some_iff.mp h1).1
  | .tl xs, v, h => by
    simp only [RV] at h
    obtain ⟨a, vs, e, h1, h2, h3⟩ := h
    simpa [D.blw] using RVs.blws xs vs h3
  | .fl xs, v, h => by
    simp only [RV] at h
    obtain ⟨a, vs, e, h1, h2⟩ := h
    simpa [D.blw] using RVs.blws xs vs h2
theorem RVs.blws : ∀ (ds : List D) (vs : List V), RVs K H μ ds vs → D.blws μ.length ds = true
  | [], vs, h => rfl
  | x :: xs, vs, h => by
    simp only [RVs] at h
    obtain ⟨v, r', e, h1, h2, h3⟩ := h
    simp [D.blws, RV.blw x v h1, RVs.blws xs r' h3]
end
mutual
theorem RV.shrink (p : μ <+: μ') : ∀ (d : D) (v : V), D.blw μ.length d = true → RV K H μ' d v → RV K H μ d v
  | .non, v, _, h => by simpa [RV] using h
  | .bl _, v, _, h => by simpa [RV] using h
  | .int _, v, _, h => by simpa [RV] using h
  | .str _, v, _, h => by simpa [RV] using h
  | .tup xs, v, b, h => by
    simp only [RV] at h ⊢
    obtain ⟨a, vs, e, h1, h2⟩ := h
    exact ⟨a, vs, e, h1, RVs.shrink p xs vs (by simpa [D.blw] using b) h2⟩
  | .ref n, v, b, h => by
    simp only [RV] at h ⊢
    obtain ⟨a, e, h1⟩ := h
    obtain ⟨t, rfl⟩ := p
    rw [List.getElem?_append_left (by simpa [D.blw] using b)] at h1
    exact ⟨a, e, h1⟩
  | .tl xs, v, b, h => by
    simp only [RV] at h ⊢
    obtain ⟨a, vs, e, h1, h2, h3⟩ := h
    exact ⟨a, vs, e, h1, fun m => h2 (p.subset m), RVs.shrink p xs vs (by simpa [D.blw] using b) h3⟩
  | .fl xs, v, b, h => by
    simp only [RV] at h ⊢
    obtain ⟨a, vs, e, h1, h2⟩ := h
    exact ⟨a, vs, e, h1, RVs.shrink p xs vs (by simpa [D.blw] using b) h2⟩
theorem RVs.shrink (p : μ <+: μ') : ∀ (ds : List D) (vs : List V), D.blws μ.length ds = true → RVs K H μ' ds vs → RVs K H μ ds vs
  | [], vs, _, h => by simpa [RVs] using h
  | x :: xs, vs, b, h => by
    simp only [RVs] at h ⊢
    obtain ⟨v, r', e, h1, h2, h3⟩ := h
    simp only [D.blws, Bool.and_eq_true] at b
    exact ⟨v, r', e, RV.shrink p x v b.1 h1, h2, RVs.shrink p xs r' b.2 h3⟩
end
mutual
theorem RV.grow (p : μ <+: μ') : ∀ (d : D) (v : V), d.isTl = false → RV K H μ d v → RV K H μ' d v
  | .non, v, _, h => by simpa [RV] using h
  | .bl _, v, _, h => by simpa [RV] using h
  | .int _, v, _, h => by simpa [RV] using h
  | .str _, v, _, h => by simpa [RV] using h
  | .tup xs, v, _, h => by
    simp only [RV] at h ⊢
    obtain ⟨a, vs, e, h1, h2⟩ := h
    exact ⟨a, vs, e, h1, RVs.grow p xs vs h2⟩
  | .ref n, v, _, h => by
    simp only [RV] at h ⊢
    obtain ⟨a, e, h1⟩ := h
    obtain ⟨t, rfl⟩ := p
    exact ⟨a, e, by rw [List.getElem?_append_left (List.getElem?_eq_some_iff.mp h1).1]; exact h1⟩
  | .tl xs, v, b, h => by cases b
  | .fl xs, v, _, h => by
    simp only [RV] at h ⊢
    obtain ⟨a, vs, e, h1, h2⟩ := h
    exact ⟨a, vs, e, h1, RVs.grow p xs vs h2⟩
theorem RVs.grow (p : μ <+: μ') : ∀ (ds : List D) (vs : List V), RVs K H μ ds vs → RVs K H μ' ds vs
  | [], vs, h => by simpa [RVs] using h
  | x :: xs, vs, h => by
    simp only [RVs] at h ⊢
    obtain ⟨v, r', e, h1, h2, h3⟩ := h
    exact ⟨v, r', e, RV.grow p x v h2 h1, h2, RVs.grow p xs r' h3⟩
end
/-! ### what happens to the heap -/
theorem Step.upd_new (h : H a = none) {o : HO} : Step μ H μ (upd H a o) :=
  ⟨List.prefix_refl _, fun b u e _ => by rw [upd_ne (ne_of_none e h)]; exact e, fun _ m n => absurd m n⟩
theorem Rp.upd_new (r : Rp K μ η H) (h : H a = none) {o : HO} : Rp K μ η (upd H a o) where
  len := r.len
  nd := r.nd
  cell := fun n b xs e1 e2 => by
    obtain ⟨vs, h1, h2⟩ := r.cell n b xs e1 e2
    exact ⟨vs, by rw [upd_ne (ne_of_none h1 h)]; exact h1, RVs.step (Step.upd_new h) r xs vs h2⟩
theorem Step.upd_cell (h : a ∈ μ) {o : HO} : Step μ H μ (upd H a o) :=
  ⟨List.prefix_refl _, fun b u e n => by rw [upd_ne (fun q => n (by rw [q]; exact h))]; exact e, fun _ m n => absurd m n⟩
theorem Rp.upd_cell {n : Nat} {xs : List D} (r : Rp K μ η H) (e : μ[n]? = some a) (h : RVs K H μ xs vs) : Rp K μ (η.set n (.lst xs)) (upd H a (.lst vs)) := by
  have ha : a ∈ μ := List.mem_of_getElem? e
  have st : Step μ H μ (upd H a (.lst vs)) := Step.upd_cell ha
  refine ⟨by rw [List.length_set]; exact r.len, r.nd, fun m b ys e1 e2 => ?_⟩
  by_cases hm : m = n
  · subst hm
    rw [e] at e1; cases e1
    have hl : m < η.length := by rw [← r.len]; exact (List.getElem?_eq_some_iff.mp e).1
    rw [List.getElem?_set_self hl] at e2
    cases e2
    exact ⟨vs, upd_same, RVs.step st r _ _ h⟩
  · rw [List.getElem?_set_ne (Ne.symm hm)] at e2
    obtain ⟨ws, h1, h2⟩ := r.cell m b ys e1 e2
    have hne : b ≠ a := by
      rintro rfl
      exact hm (nd_ix r.nd e1 e)
    exact ⟨ws, by rw [upd_ne hne]; exact h1, RVs.step st r _ _ h2⟩
/-- a fresh list becomes a cell -/
theorem Rp.own {xs : List D} (r : Rp K μ η H) (h : H a = some (.lst vs)) (n : a ∉ μ) (q : RVs K H μ xs vs) : Rp K (μ ++ [a]) (η ++ [.lst xs]) H := by
  have up := fun (ds : List D) (ws : List V) (q : RVs K H μ ds ws) => RVs.grow (μ' := μ ++ [a]) ⟨[a], rfl⟩ ds ws q
  refine ⟨by simp [r.len], ?_, fun m b ys e1 e2 => ?_⟩
  · rw [List.nodup_append]
    refine ⟨r.nd, by simp, fun x hx y hy => ?_⟩
    simp at hy; subst hy
    rintro rfl
    exact n hx
  · by_cases hm : m < μ.length
    · rw [List.getElem?_append_left hm] at e1
      rw [List.getElem?_append_left (by rw [← r.len]; exact hm)] at e2
      obtain ⟨ws, h1, h2⟩ := r.cell m b ys e1 e2
      exact ⟨ws, h1, up _ _ h2⟩
    · have hm' : m = μ.length := by
        have := (List.getElem?_eq_some_iff.mp e1).1
        simp at this
        omega
      subst hm'
      rw [List.getElem?_concat_length] at e1
      rw [r.len, List.getElem?_concat_length] at e2
      cases e1; cases e2
      exact ⟨vs, h, up _ _ q⟩
end
end Ev

set_option Elab.async false
set_option linter.all false
set_option maxRecDepth 100000
/-! # Part B: soundness of the operators, by values -/
namespace Ev
open PySem
open PySem.Spec
open PyProof.Rows
open L2

/-- how an exception of the small language lies -/
abbrev XRel := Nat → List D → Value → Option Addr → Hp → Prop
def Fresh (H : Hp) (d : D) (v : V) : Prop := match d, v with
  | .tl _, .ref a => H a = none
  | _, _ => True
theorem Fresh.of {H : Hp} {d : D} {v : V} (h : d.isTl = false) : Fresh H d v := by
  cases d <;> simp_all [Fresh, D.isTl]
theorem Fresh.mono {K : PySem.W.Frag} {μ μ1 : List Addr} {η1 : Hep} {H H1 : Hp} {d : D} {v : V} (s : Step μ H μ1 H1) (r : Rp K μ1 η1 H1) (h : Fresh H1 d v) : Fresh H d v := by
  unfold Fresh at h ⊢
  split
  · rename_i a
    cases q : H a with
    | none => rfl
    | some o =>
      by_cases m : a ∈ μ
      · obtain ⟨vs, e⟩ := r.mem (s.pre.subset m)
        simp only at h
        rw [h] at e; cases e
      · have e := s.fr _ _ q m
        simp only at h
        rw [h] at e; cases e
  · trivial
def RF (K : PySem.W.Frag) : Hp → Hp → List Addr → D → V → Prop := fun H0 H μ d v => RV K H μ d v ∧ Fresh H0 d v
def RS (K : PySem.W.Frag) : Hp → Hp → List Addr → List D → List V → Prop := fun _ H μ ds vs => RVs K H μ ds vs
/-- what is wanted behind an answer -/
def Pg {α β : Type} (K : PySem.W.Frag) (XR : XRel) (Rel : Hp → Hp → List Addr → α → β → Prop) (σ : L2.St) (W : WX) (μ : List Addr) (H : Hp) (r : R α) (Q : β → Hp → Prop) : Prop := match r with
  | .ok a η' => ∀ b μ' H', Step μ H μ' H' → Rp K μ' η' H' → Rel H H' μ' a b → Q b H'
  | .exc c xs η' => ∀ cls dd μ' H', Step μ H μ' H' → Rp K μ' η' H' → XR c xs cls dd H' → W cls dd σ H'
  | .bad => False
section
variable {K : PySem.W.Frag} {XR : XRel} {σ : L2.St} {W : WX} {μ μ1 : List Addr} {η η1 : Hep} {H H1 : Hp} {α β γ δ : Type} {Rel : Hp → Hp → List Addr → α → β → Prop} {Rel' : Hp → Hp → List Addr → γ → δ → Prop} {r : R α} {Q : β → Hp → Prop} {k : α → Hep → R γ} {Q' : δ → Hp → Prop}
theorem Pg.step (s : Step μ H μ1 H1) (mono : ∀ H' μ' a b, Rel H1 H' μ' a b → Rel H H' μ' a b) (h : Pg K XR Rel σ W μ H r Q) : Pg K XR Rel σ W μ1 H1 r Q := by
  cases r with
  | ok a η' => exact fun b μ' H' s' r' h' => h b μ' H' (s.trans s') r' (mono _ _ _ _ h')
  | exc c xs η' => exact fun cls dd μ' H' s' r' h' => h cls dd μ' H' (s.trans s') r' h'
  | bad => exact h
theorem Pg.bind (mono : ∀ μ1 H1, Step μ H μ1 H1 → (∃ η1, Rp K μ1 η1 H1) → ∀ H' μ' a b, Rel' H1 H' μ' a b → Rel' H H' μ' a b) (h : Pg K XR Rel' σ W μ H (r.bind k) Q')
    (f : ∀ a η1 b μ1 H1, r = .ok a η1 → Step μ H μ1 H1 → Rp K μ1 η1 H1 → Rel H H1 μ1 a b → Pg K XR Rel' σ W μ1 H1 (k a η1) Q' → Q b H1) : Pg K XR Rel σ W μ H r Q := by
  cases r with
  | ok a η' => exact fun b μ' H' s' r' h' => f a η' b μ' H' rfl s' r' h' (Pg.step s' (mono μ' H' s' ⟨_, r'⟩) h)
  | exc c xs η' => exact h
  | bad => exact h
theorem RF.mono (s : Step μ H μ1 H1) (r : ∃ η1, Rp K μ1 η1 H1) : ∀ H' μ' a b, RF K H1 H' μ' a b → RF K H H' μ' a b := fun _ _ _ _ h => by
  obtain ⟨_, r⟩ := r
  exact ⟨h.1, Fresh.mono s r h.2⟩
theorem Pg.imp {Q2 : β → Hp → Prop} (h : Pg K XR Rel σ W μ H r Q) (f : ∀ b H', Q b H' → Q2 b H') : Pg K XR Rel σ W μ H r Q2 := by
  cases r with
  | ok a η' => exact fun b μ' H' s' r' h' => f _ _ (h b μ' H' s' r' h')
  | exc c xs η' => exact h
  | bad => exact h
/-- an answer that is there: now -/
theorem Pg.ok_now {a : α} {b : β} (h : Pg K XR Rel σ W μ H (.ok a η) Q) (r : Rp K μ η H) (q : Rel H H μ a b) : Q b H := h b μ H Step.refl r q
end

section
variable {K : PySem.W.Frag} {XR : XRel} {σ : L2.St} {W : WX} {μ μ1 : List Addr} {η η1 : Hep} {H H1 : Hp} {d : D} {v : V} {ds : List D} {vs : List V}
theorem seqOf_rv (r : Rp K μ η H) (h : RV K H μ d v) (e : seqOf η d = some ds) : ∃ a vs, v = .ref a ∧ SqL K H a vs ∧ RVs K H μ ds vs := by
  cases d with
  | tl xs =>
    simp only [seqOf, Option.some.injEq] at e; subst e
    simp only [RV] at h
    obtain ⟨a, vs, e, h1, _, h3⟩ := h
    exact ⟨a, vs, e, .inl (.inl h1), h3⟩
  | fl xs =>
    simp only [seqOf, Option.some.injEq] at e; subst e
    simp only [RV] at h
    obtain ⟨a, vs, e, h1, h3⟩ := h
    exact ⟨a, vs, e, h1.sq, h3⟩
  | ref n =>
    simp only [seqOf] at e
    simp only [RV] at h
    obtain ⟨a, ea, hn⟩ := h
    split at e
    · rename_i xs hx
      cases e
      obtain ⟨vs, h1, h2⟩ := r.cell n a _ hn hx
      exact ⟨a, vs, ea, .inl (.inl h1), h2⟩
    · cases e
  | _ => simp [seqOf] at e
theorem lstOf_rv (r : Rp K μ η H) (h : RV K H μ d v) (e : lstOf η d = some ds) : ∃ a vs, v = .ref a ∧ H a = some (.lst vs) ∧ RVs K H μ ds vs := by
  cases d with
  | tl xs =>
    simp only [lstOf, Option.some.injEq] at e; subst e
    simp only [RV] at h
    obtain ⟨a, vs, e, h1, _, h3⟩ := h
    exact ⟨a, vs, e, h1, h3⟩
  | ref n =>
    simp only [lstOf] at e
    simp only [RV] at h
    obtain ⟨a, ea, hn⟩ := h
    split at e
    · rename_i xs hx
      cases e
      obtain ⟨vs, h1, h2⟩ := r.cell n a _ hn hx
      exact ⟨a, vs, ea, h1, h2⟩
    · cases e
  | _ => simp [lstOf] at e
theorem seqAny_rv (r : Rp K μ η H) (h : RV K H μ d v) (e : seqAny η d = some ds) : ∃ a vs, v = .ref a ∧ (SqL K H a vs ∨ SqT K H a vs) ∧ RVs K H μ ds vs := by
  cases d with
  | tup xs =>
    simp only [seqAny, Option.some.injEq] at e; subst e
    simp only [RV] at h
    obtain ⟨a, vs, e, h1, h3⟩ := h
    exact ⟨a, vs, e, .inr h1, h3⟩
  | _ =>
    obtain ⟨a, vs, e1, h1, h2⟩ := seqOf_rv r h (by simpa only [seqAny] using e)
    exact ⟨a, vs, e1, .inl h1, h2⟩
/-- a new tuple -/
theorem mk_tup {a : Addr} (r : Rp K μ η H) (n : H a = none) (h : RVs K H μ ds vs) : Step μ H μ (upd H a (.tup vs)) ∧ Rp K μ η (upd H a (.tup vs)) ∧ RF K H (upd H a (.tup vs)) μ (.tup ds) (.ref a) :=
  ⟨Step.upd_new n, r.upd_new n, by
    refine ⟨?_, .of rfl⟩
    simp only [RV]
    exact ⟨a, vs, rfl, .inl (.inl upd_same), RVs.step (Step.upd_new n) r _ _ h⟩⟩
theorem mk_tl {a : Addr} (r : Rp K μ η H) (n : H a = none) (h : RVs K H μ ds vs) : Step μ H μ (upd H a (.lst vs)) ∧ Rp K μ η (upd H a (.lst vs)) ∧ RF K H (upd H a (.lst vs)) μ (.tl ds) (.ref a) :=
  ⟨Step.upd_new n, r.upd_new n, by
    refine ⟨?_, n⟩
    simp only [RV]
    exact ⟨a, vs, rfl, upd_same, r.fresh n, RVs.step (Step.upd_new n) r _ _ h⟩⟩
theorem tup_rf {a : Addr} (h1 : SqT K H a vs) (h : RVs K H μ ds vs) : RF K H H μ (.tup ds) (.ref a) := ⟨by simp only [RV]; exact ⟨a, vs, rfl, h1, h⟩, .of rfl⟩
theorem int_rf {i : Int} : RF K H H1 μ (.int i) (.int i) := ⟨by simp [RV], .of rfl⟩
theorem bl_rf {b : Bool} : RF K H H1 μ (.bl b) (.bl b) := ⟨by simp [RV], .of rfl⟩
theorem str_rf {x : Str} : RF K H H1 μ (.str x) (.str x) := ⟨by simp [RV], .of rfl⟩
theorem non_rf : RF K H H1 μ .non .non := ⟨by simp [RV], .of rfl⟩
end

/-- the reading of a rule by values: the small language's answer -/
def rD2 (K : PySem.W.Frag) (f : D → D → Hep → Option D) : R2 := fun x y H Q => ∃ μ η a b z, Rp K μ η H ∧ RV K H μ a x ∧ RV K H μ b y ∧ f a b η = some z ∧ ∀ v μ' H', Step μ H μ' H' → Rp K μ' η H' → RF K H H' μ' z v → Q v H'

def bop : BOp → Operator
  | .add => .Add
  | .sub => .Sub
  | .mul => .Mult
  | .fdiv => .FloorDiv
  | .mod => .Mod
theorem flat_len {α : Type} (k : Nat) (xs : List α) : (List.replicate k xs).flatten.length = k * xs.length := by
  induction k with
  | zero => simp
  | succ k ih => rw [List.replicate_succ, List.flatten_cons, List.length_append, ih, Nat.succ_mul, Nat.add_comm]
theorem op_bin {X : Cx} (o : BOp) : OpR X (binaryOp (bop o)) (rD2 X.K (binD o)) := by
  intro pins s σ H x y v u Q I rx ry h
  obtain ⟨μ, η, a, b, z, r, ha, hb, e, q⟩ := h
  have lists : ∀ (xs ys : List D), lstOf η a = some xs → lstOf η b = some ys → xs.length + ys.length ≤ sizeLine → z = D.tl (xs ++ ys) → wpAny (model X.prog X.w) X.A (binaryOp .Add v u) (EP X pins σ Q) X.xe s := by
    intro xs ys e1 e2 hl ez
    subst ez
    obtain ⟨p, vs, rfl, h1, h2⟩ := lstOf_rv r ha e1
    obtain ⟨p', ws, rfl, h3, h4⟩ := lstOf_rv r hb e2
    refine op_cat pins s σ H _ _ v u Q I rx ry ⟨p, p', vs, ws, rfl, rfl, h1, h3, by rw [← h2.length, ← h4.length]; exact hl, fun t nt => ?_⟩
    obtain ⟨t1, t2, t3⟩ := mk_tl r nt (RVs.append h2 h4)
    exact q _ _ _ t1 t2 t3
  have listsE : (match lstOf η a, lstOf η b with
      | some xs, some ys => if xs.length + ys.length ≤ sizeLine then some (D.tl (xs ++ ys)) else none
      | _, _ => none) = some z → wpAny (model X.prog X.w) X.A (binaryOp .Add v u) (EP X pins σ Q) X.xe s := by
    intro ez
    split at ez
    · rename_i xs ys e1 e2
      split at ez
      · exact lists xs ys e1 e2 (by assumption) (Option.some.inj ez).symm
      · cases ez
    · cases ez
  have reps : ∀ (j : Int), b = .int j → (match lstOf η a with
      | some xs => if -(2 ^ 63) ≤ j ∧ j < 2 ^ 63 ∧ xs.length * j.toNat ≤ sizeLine then some (D.tl (List.replicate j.toNat xs).flatten) else none
      | none => none) = some z → wpAny (model X.prog X.w) X.A (binaryOp .Mult v u) (EP X pins σ Q) X.xe s := by
    intro j hj ez
    subst hj
    split at ez
    · rename_i xs e1
      split at ez
      · rename_i hc
        cases ez
        obtain ⟨p, vs, rfl, h1, h2⟩ := lstOf_rv r ha e1
        simp only [RV] at hb; subst hb
        refine op_rep pins s σ H _ _ v u Q I rx ry ⟨p, j, vs, rfl, rfl, h1, hc.1, hc.2.1, by rw [← h2.length]; exact hc.2.2, fun t nt => ?_⟩
        obtain ⟨t1, t2, t3⟩ := mk_tl r nt (h2.rep j.toNat)
        exact q _ _ _ t1 t2 t3
      · cases ez
    · cases ez
  cases o with
  | add =>
    cases a with
    | int i =>
      cases b <;> simp [binD, lstOf] at e
      subst e
      simp only [RV] at ha hb; subst ha; subst hb
      exact op_add pins s σ H _ _ v u Q I rx ry ⟨_, _, rfl, rfl, q _ _ _ Step.refl r int_rf⟩
    | str i =>
      cases b <;> simp [binD, lstOf] at e
      obtain ⟨hl, rfl⟩ := e
      simp only [RV] at ha hb; subst ha; subst hb
      exact op_add_str pins s σ H _ _ v u Q I rx ry ⟨_, _, rfl, rfl, hl, q _ _ _ Step.refl r str_rf⟩
    | tup xs =>
      cases b <;> simp [binD, lstOf] at e
      rename_i ys
      obtain ⟨hl, rfl⟩ := e
      simp only [RV] at ha hb
      obtain ⟨p, vs, rfl, h1, h2⟩ := ha
      obtain ⟨p', ws, rfl, h3, h4⟩ := hb
      refine op_catA pins s σ H _ _ v u Q I rx ry ⟨p, p', vs, ws, rfl, rfl, h1, h3, by rw [← h2.length, ← h4.length]; exact hl, fun ev => ?_, fun _ ew => ?_, fun _ _ t nt => ?_⟩
      · have := h2.nil_iff.mp ev; subst this
        exact q _ _ _ Step.refl r (tup_rf h3 h4)
      · have := h4.nil_iff.mp ew; subst this
        rw [List.append_nil] at q
        exact q _ _ _ Step.refl r (tup_rf h1 h2)
      · obtain ⟨t1, t2, t3⟩ := mk_tup r nt (RVs.append h2 h4)
        exact q _ _ _ t1 t2 t3
    | tl xs => exact listsE (by simp only [binD] at e; exact e)
    | ref n => exact listsE (by simp only [binD] at e; exact e)
    | fl xs => simp [binD, lstOf] at e
    | non => simp [binD, lstOf] at e
    | bl _ => simp [binD, lstOf] at e
  | sub =>
    cases a <;> cases b <;> simp [binD] at e
    subst e
    simp only [RV] at ha hb; subst ha; subst hb
    exact op_sub pins s σ H _ _ v u Q I rx ry ⟨_, _, rfl, rfl, q _ _ _ Step.refl r int_rf⟩
  | mul =>
    cases b with
    | int j =>
      cases a with
      | int i =>
        simp only [binD] at e
        split at e
        · rename_i hm
          cases e
          simp only [RV] at ha hb; subst ha; subst hb
          exact op_mulW pins s σ H _ _ v u Q I rx ry ⟨_, _, rfl, rfl, (by simpa [mulOk, CMulW] using hm), q _ _ _ Step.refl r int_rf⟩
        · cases e
      | tup xs =>
        simp only [binD] at e
        split at e
        · rename_i hm
          cases e
          obtain ⟨m1, m2, m3, m4⟩ := hm
          simp only [RV] at ha hb; subst hb
          obtain ⟨p, vs, rfl, h1, h2⟩ := ha
          refine op_repT pins s σ H _ _ v u Q I rx ry ⟨p, j, vs, rfl, rfl, h1, fun z => m1 (h2.nil_iff.mp z), m2, m3, by rw [← h2.length]; exact m4, fun t nt => ?_⟩
          obtain ⟨t1, t2, t3⟩ := mk_tup r nt (h2.rep j.toNat)
          exact q _ _ _ t1 t2 t3
        · cases e
      | tl xs => exact reps j rfl (by simp only [binD] at e; exact e)
      | ref n => exact reps j rfl (by simp only [binD] at e; exact e)
      | fl xs => simp [binD, lstOf] at e
      | non => simp [binD, lstOf] at e
      | bl _ => simp [binD, lstOf] at e
      | str _ => simp [binD, lstOf] at e
    | _ => cases a <;> simp [binD] at e
  | fdiv =>
    cases a <;> cases b <;> simp [binD] at e
    rename_i i j
    obtain ⟨hd, rfl⟩ := e
    simp only [RV] at ha hb; subst ha; subst hb
    simp only [divOk, Bool.or_eq_true, decide_eq_true_eq] at hd
    rcases hd with hd | hd
    · refine op_fdivW pins s σ H _ _ v u Q I rx ry ⟨_, _, rfl, rfl, hd, ?_⟩
      have hq := q _ _ _ Step.refl r int_rf
      rw [Int.fdiv_eq_ediv_of_nonneg _ (Int.le_of_lt hd.1)] at hq
      exact hq
    · exact op_fdivN pins s σ H _ _ v u Q I rx ry ⟨_, _, rfl, rfl, hd, q _ _ _ Step.refl r int_rf⟩
  | mod =>
    cases a <;> cases b <;> simp [binD] at e
    obtain ⟨hj, rfl⟩ := e
    simp only [RV] at ha hb; subst ha; subst hb
    exact op_modN pins s σ H _ _ v u Q I rx ry ⟨_, _, rfl, rfl, hj, q _ _ _ Step.refl r int_rf⟩
/-! ### comparisons -/
mutual
/-- plain data, as the library has it -/
def D.py : D → PyData
  | .non => .none
  | .bl b => .bool b
  | .int i => .int i
  | .str x => .str x
  | .tup xs => .tuple (D.pys xs)
  | .tl xs => .list (D.pys xs)
  | _ => .none
def D.pys : List D → List PyData
  | [] => []
  | x :: xs => D.py x :: D.pys xs
end
mutual
theorem D.py_plain : ∀ d : D, d.py.plain = true
  | .non => rfl
  | .bl _ => rfl
  | .int _ => rfl
  | .str _ => rfl
  | .tup xs => by simp [D.py, PyData.plain, D.pys_plain xs]
  | .tl xs => by simp [D.py, PyData.plain, D.pys_plain xs]
  | .ref _ => rfl
  | .fl _ => rfl
theorem D.pys_plain : ∀ ds : List D, PyData.plainAll (D.pys ds) = true
  | [] => rfl
  | x :: xs => by simp [D.pys, PyData.plainAll, D.py_plain x, D.pys_plain xs]
end
mutual
theorem D.py_dep : ∀ d : D, d.py.depth = d.dep
  | .non => rfl
  | .bl _ => rfl
  | .int _ => rfl
  | .str _ => rfl
  | .tup xs => by simp [D.py, PyData.depth, D.dep, D.pys_dep xs]
  | .tl xs => by simp [D.py, PyData.depth, D.dep, D.pys_dep xs]
  | .ref _ => rfl
  | .fl _ => rfl
theorem D.pys_dep : ∀ ds : List D, PyData.depthAll (D.pys ds) = D.deps ds
  | [] => rfl
  | x :: xs => by simp [D.pys, PyData.depthAll, D.deps, D.py_dep x, D.pys_dep xs]
end
mutual
theorem D.py_eq : ∀ a b : D, a.plain = true → b.plain = true → PyData.eqv a.py b.py = D.eq a b
  | .non, b, _, hb => by cases b <;> simp [D.py, PyData.eqv, D.eq, D.plain] at hb ⊢
  | .bl _, b, _, hb => by cases b <;> simp [D.py, PyData.eqv, D.eq, D.plain] at hb ⊢
  | .int _, b, _, hb => by cases b <;> simp [D.py, PyData.eqv, D.eq, D.plain] at hb ⊢ <;> first | rfl | exact Bool.beq_eq_decide_eq _ _ | skip
  | .str _, b, _, hb => by cases b <;> simp [D.py, PyData.eqv, D.eq, D.plain] at hb ⊢ <;> first | rfl | exact Bool.beq_eq_decide_eq _ _ | skip
  | .tup xs, b, ha, hb => by
    cases b with
    | tup ys => simp only [D.py, PyData.eqv, D.eq]; exact D.pys_eq xs ys (by simpa [D.plain] using ha) (by simpa [D.plain] using hb)
    | _ => simp [D.py, PyData.eqv, D.eq, D.plain] at hb ⊢
  | .tl _, _, ha, _ => by simp [D.plain] at ha
  | .ref _, _, ha, _ => by simp [D.plain] at ha
  | .fl _, _, ha, _ => by simp [D.plain] at ha
theorem D.pys_eq : ∀ as bs : List D, D.plains as = true → D.plains bs = true → PyData.eqvAll (D.pys as) (D.pys bs) = D.eqs as bs
  | [], [], _, _ => by simp [D.pys, PyData.eqvAll, D.eqs]
  | [], _ :: _, _, _ => by simp [D.pys, PyData.eqvAll, D.eqs]
  | _ :: _, [], _, _ => by simp [D.pys, PyData.eqvAll, D.eqs]
  | a :: as, b :: bs, ha, hb => by
    simp only [D.plains, Bool.and_eq_true] at ha hb
    simp only [D.pys, PyData.eqvAll, D.eqs, D.py_eq a b ha.1 hb.1, D.pys_eq as bs ha.2 hb.2]
end
theorem D.py_eq1 {a b : D} (ha : a.plain1 = true) (hb : b.plain1 = true) : PyData.eqv a.py b.py = D.eq a b := by
  cases a with
  | tl xs =>
    cases b with
    | tl ys => simp only [D.py, PyData.eqv, D.eq]; exact D.pys_eq xs ys (by simpa [D.plain1] using ha) (by simpa [D.plain1] using hb)
    | ref n => simp [D.plain1, D.plain] at hb
    | fl n => simp [D.plain1, D.plain] at hb
    | _ => simp [D.py, PyData.eqv, D.eq]
  | ref n => simp [D.plain1, D.plain] at ha
  | fl n => simp [D.plain1, D.plain] at ha
  | _ =>
    cases b with
    | tl ys => simp [D.py, PyData.eqv, D.eq]
    | _ => exact D.py_eq _ _ (by simpa [D.plain1] using ha) (by simpa [D.plain1] using hb)
section
variable {K : PySem.W.Frag} {μ μ1 : List Addr} {η η1 : Hep} {H H1 : Hp} {d : D} {v : V} {ds : List D} {vs : List V}
mutual
theorem RV.dp : ∀ (d : D) (v : V), d.plain = true → RV K H μ d v → Dp K H v d.py
  | .non, v, _, h => by simp only [RV] at h; subst h; exact .non
  | .bl b, v, _, h => by simp only [RV] at h; subst h; exact .bl b
  | .int i, v, _, h => by simp only [RV] at h; subst h; exact .int i
  | .str x, v, _, h => by simp only [RV] at h; subst h; exact .str x
  | .tup xs, v, p, h => by
    simp only [RV] at h
    obtain ⟨a, vs, rfl, h1, h2⟩ := h
    exact .tup h1 (RVs.dps xs vs (by simpa [D.plain] using p) h2)
  | .tl _, _, p, _ => by simp [D.plain] at p
  | .ref _, _, p, _ => by simp [D.plain] at p
  | .fl _, _, p, _ => by simp [D.plain] at p
theorem RVs.dps : ∀ (ds : List D) (vs : List V), D.plains ds = true → RVs K H μ ds vs → DpAll K H vs (D.pys ds)
  | [], vs, _, h => by simp only [RVs] at h; subst h; exact .nil
  | x :: xs, vs, p, h => by
    simp only [RVs] at h
    obtain ⟨v, r, rfl, h1, _, h3⟩ := h
    simp only [D.plains, Bool.and_eq_true] at p
    exact .cons (RV.dp x v p.1 h1) (RVs.dps xs r p.2 h3)
end
theorem opn_dp (r : Rp K μ η H) (h : RV K H μ d v) (p : (opn η d).plain1 = true) : Dp K H v (opn η d).py := by
  unfold opn at p ⊢
  cases e : seqOf η d with
  | none =>
    simp only [e] at p ⊢
    cases d with
    | tl xs => simp [seqOf] at e
    | fl xs => simp [seqOf] at e
    | ref n => simp [D.plain1, D.plain] at p
    | _ => exact RV.dp _ _ (by simpa [D.plain1] using p) h
  | some xs =>
    simp only [e] at p ⊢
    obtain ⟨a, vs, rfl, h1, h2⟩ := seqOf_rv r h e
    exact .lst h1 (RVs.dps xs vs (by simpa [D.plain1] using p) h2)
end
def cop : COp → CmpOp
  | .eq => .Eq
  | .ne => .NotEq
  | .lt => .Lt
  | .le => .LtE
  | .gt => .Gt
  | .ge => .GtE
  | .inn => .In
  | .nin => .NotIn
def cmpI (f : Int → Int → Bool) (a b : D) : Option Bool := match a, b with
  | .int i, .int j => some (f i j)
  | _, _ => none
theorem cmpI_rv {K : PySem.W.Frag} {μ : List Addr} {H : Hp} {f : Int → Int → Bool} {a b : D} {x y : V} {k : Bool} (ha : RV K H μ a x) (hb : RV K H μ b y) (ef : cmpI f a b = some k) : ∃ i j, x = .int i ∧ y = .int j ∧ f i j = k := by
  unfold cmpI at ef
  split at ef
  · simp only [RV] at ha hb; subst ha; subst hb
    exact ⟨_, _, rfl, rfl, Option.some.inj ef⟩
  · cases ef
theorem op_cmp {X : Cx} (hu : X.A.units + 70 < cLine) (o : COp) : OpR X (compareOp (cop o)) (rD2 X.K (fun a b η => (cmpD o a b η).map .bl)) := by
  intro pins s σ H x y v u Q I rx ry h
  obtain ⟨μ, η, a, b, z, r, ha, hb, e, q⟩ := h
  simp only [Option.map_eq_some_iff] at e
  obtain ⟨k, e, rfl⟩ := e
  have qk : ∀ k', k' = k → Q (.bl k') H := fun k' ek => by subst ek; exact q _ _ _ Step.refl r bl_rf
  have eqs : ∀ k', eqD a b η = some k' → ∃ d e, Dp X.K H x d ∧ Dp X.K H y e ∧ d.plain = true ∧ e.plain = true ∧ min d.depth e.depth ≤ 64 ∧ PyData.eqv d e = k' := by
    intro k' ek
    unfold eqD at ek
    simp only at ek
    split at ek
    · rename_i hc
      simp only [Bool.and_eq_true, decide_eq_true_eq] at hc
      refine ⟨_, _, opn_dp r ha hc.1.1, opn_dp r hb hc.1.2, D.py_plain _, D.py_plain _, by rw [D.py_dep, D.py_dep]; exact hc.2, ?_⟩
      rw [D.py_eq1 hc.1.1 hc.1.2]
      exact Option.some.inj ek
    · cases ek
  have inns : ∀ k', inD a b η = some k' → ∃ d ds c, Dp X.K H x d ∧ (c = PyData.list ds ∨ c = PyData.tuple ds) ∧ Dp X.K H y c ∧ d.plain = true ∧ PyData.plainAll ds = true ∧ min (PyData.depthAll ds) d.depth ≤ 64 ∧ (ds.any fun z => PyData.eqv z d) = k' := by
    intro k' ek
    unfold inD at ek
    split at ek
    · rename_i xs hs
      split at ek
      · rename_i hc
        simp only [Bool.and_eq_true, decide_eq_true_eq] at hc
        obtain ⟨p, vs, rfl, h1, h2⟩ := seqAny_rv r hb hs
        have hany : ∀ xs : List D, D.plains xs = true → ((D.pys xs).any fun z => PyData.eqv z a.py) = xs.any fun y => D.eq y a := by
          intro xs
          induction xs with
          | nil => intro _; rfl
          | cons x xs ih =>
            intro hp
            simp only [D.plains, Bool.and_eq_true] at hp
            simp only [D.pys, List.any_cons, ih hp.2, D.py_eq x a hp.1 hc.1.2]
        have hd := RVs.dps xs vs hc.1.1 h2
        rcases h1 with h1 | h1
        · exact ⟨_, _, _, RV.dp a x hc.1.2 ha, .inl rfl, .lst h1 hd, D.py_plain _, D.pys_plain _, by rw [D.pys_dep, D.py_dep]; exact hc.2, by rw [hany xs hc.1.1]; exact Option.some.inj ek⟩
        · exact ⟨_, _, _, RV.dp a x hc.1.2 ha, .inr rfl, .tup h1 hd, D.py_plain _, D.pys_plain _, by rw [D.pys_dep, D.py_dep]; exact hc.2, by rw [hany xs hc.1.1]; exact Option.some.inj ek⟩
      · cases ek
    · cases ek
  have lt2 := fun (f : Int → Int → Bool) (ef : cmpI f a b = some k) => cmpI_rv ha hb ef
  cases o with
  | eq =>
    obtain ⟨d, e', hd, he, pd, pe, hm, hk⟩ := eqs k e
    obtain ⟨as, r1⟩ := Dp.reads I d x v hd rx
    obtain ⟨bs, r2⟩ := Dp.reads I e' y u he ry
    exact SeqAt.eq_plain r1 r2 pd pe (by omega) ⟨.bl _, H, I, rfl, qk _ hk⟩
  | ne =>
    simp only [cmpD, Option.map_eq_some_iff] at e
    obtain ⟨k2, e, rfl⟩ := e
    obtain ⟨d, e', hd, he, pd, pe, hm, hk⟩ := eqs k2 e
    obtain ⟨as, r1⟩ := Dp.reads I d x v hd rx
    obtain ⟨bs, r2⟩ := Dp.reads I e' y u he ry
    exact SeqAt.ne_plain r1 r2 pd pe (by omega) ⟨.bl _, H, I, rfl, qk _ (by rw [hk])⟩
  | lt =>
    obtain ⟨i, j, rfl, rfl, hk⟩ := lt2 (fun i j => decide (i < j)) e
    exact op_lt pins s σ H _ _ v u Q I rx ry ⟨_, _, rfl, rfl, qk _ hk⟩
  | le =>
    obtain ⟨i, j, rfl, rfl, hk⟩ := lt2 (fun i j => decide (i ≤ j)) e
    exact op_le pins s σ H _ _ v u Q I rx ry ⟨_, _, rfl, rfl, qk _ hk⟩
  | gt =>
    obtain ⟨i, j, rfl, rfl, hk⟩ := lt2 (fun i j => decide (j < i)) e
    exact op_gt pins s σ H _ _ v u Q I rx ry ⟨_, _, rfl, rfl, qk _ hk⟩
  | ge =>
    obtain ⟨i, j, rfl, rfl, hk⟩ := lt2 (fun i j => decide (j ≤ i)) e
    exact op_ge pins s σ H _ _ v u Q I rx ry ⟨_, _, rfl, rfl, qk _ hk⟩
  | inn =>
    obtain ⟨d, ds, c, hd, hc, he, pd, pe, hm, hk⟩ := inns k e
    obtain ⟨as, r1⟩ := Dp.reads I d x v hd rx
    obtain ⟨bs, r2⟩ := Dp.reads I c y u he ry
    rcases hc with rfl | rfl
    · exact SeqAt.in_list_data r2 r1 pe pd (by omega) ⟨.bl _, H, I, rfl, qk _ hk⟩
    · exact SeqAt.in_tuple_data r2 r1 pe pd (by omega) ⟨.bl _, H, I, rfl, qk _ hk⟩
  | nin =>
    simp only [cmpD, Option.map_eq_some_iff] at e
    obtain ⟨k2, e, rfl⟩ := e
    obtain ⟨d, ds, c, hd, hc, he, pd, pe, hm, hk⟩ := inns k2 e
    obtain ⟨as, r1⟩ := Dp.reads I d x v hd rx
    obtain ⟨bs, r2⟩ := Dp.reads I c y u he ry
    rcases hc with rfl | rfl
    · exact SeqAt.notIn_list_data r2 r1 pe pd (by omega) ⟨.bl _, H, I, rfl, qk _ (by rw [hk])⟩
    · exact SeqAt.notIn_tuple_data r2 r1 pe pd (by omega) ⟨.bl _, H, I, rfl, qk _ (by rw [hk])⟩
end Ev

set_option Elab.async false
set_option linter.all false
set_option maxRecDepth 100000
/-! # Part B: soundness of built-ins, methods, places, slices -/
namespace Ev
open PySem
open PySem.Spec
open PyProof.Rows
open L2

section
variable (K : PySem.W.Frag)
/-- arguments of a built-in: fresh lists among them -/
def RVp (H : Hp) (μ : List Addr) : List D → List V → Prop
  | [], vs => vs = []
  | x :: xs, vs => ∃ v r, vs = v :: r ∧ RV K H μ x v ∧ RVp H μ xs r
end
def RP (K : PySem.W.Frag) : Hp → Hp → List Addr → List D → List V → Prop := fun _ H μ ds vs => RVp K H μ ds vs
section
variable {K : PySem.W.Frag} {μ μ' μ1 : List Addr} {η η1 : Hep} {H H' H1 : Hp} {d : D} {v : V} {ds : List D} {vs : List V}
theorem RVp.step (s : Step μ H μ' H') (r : Rp K μ η H) : ∀ {ds : List D} {vs : List V}, RVp K H μ ds vs → RVp K H' μ' ds vs
  | [], vs, h => h
  | x :: xs, vs, h => by
    obtain ⟨v, r', e, h1, h3⟩ := h
    exact ⟨v, r', e, RV.step s r x v h1, RVp.step s r h3⟩
theorem RVp.one {x : D} {vs : List V} (h : RVp K H μ [x] vs) : ∃ v, vs = [v] ∧ RV K H μ x v := by
  obtain ⟨v, r, rfl, h1, h2⟩ := h
  simp only [RVp] at h2; subst h2
  exact ⟨v, rfl, h1⟩
theorem RVp.two {x y : D} {vs : List V} (h : RVp K H μ [x, y] vs) : ∃ v w, vs = [v, w] ∧ RV K H μ x v ∧ RV K H μ y w := by
  obtain ⟨v, r, rfl, h1, h2⟩ := h
  obtain ⟨w, rfl, h3⟩ := h2.one
  exact ⟨v, w, rfl, h1, h3⟩
theorem intsOf_rv : ∀ {ds : List D} {ns : List Int} {vs : List V}, intsOf ds = some ns → RVs K H μ ds vs → vs = ns.map V.int
  | [], ns, vs, e, h => by simp only [intsOf, Option.some.injEq] at e; subst e; simpa [RVs] using h
  | x :: xs, ns, vs, e, h => by
    cases x <;> simp only [intsOf, Option.map_eq_some_iff, reduceCtorEq] at e
    obtain ⟨ms, e1, rfl⟩ := e
    simp only [RVs] at h
    obtain ⟨v, r, rfl, h1, _, h3⟩ := h
    simp only [RV] at h1; subst h1
    rw [intsOf_rv e1 h3]; rfl
theorem blsOf_rv : ∀ {ds : List D} {ns : List Bool} {vs : List V}, blsOf ds = some ns → RVs K H μ ds vs → vs = ns.map V.bl
  | [], ns, vs, e, h => by simp only [blsOf, Option.some.injEq] at e; subst e; simpa [RVs] using h
  | x :: xs, ns, vs, e, h => by
    cases x <;> simp only [blsOf, Option.map_eq_some_iff, reduceCtorEq] at e
    obtain ⟨ms, e1, rfl⟩ := e
    simp only [RVs] at h
    obtain ⟨v, r, rfl, h1, _, h3⟩ := h
    simp only [RV] at h1; subst h1
    rw [blsOf_rv e1 h3]; rfl
end
/-- a built-in's value -/
def primV : Prim → Value
  | .len => .builtin "len"
  | .abs => .builtin "abs"
  | .int => .type "int"
  | .tuple => .type "tuple"
  | .list => .type "list"
  | .sum => .builtin "sum"
  | .any => .builtin "any"
  | .all => .builtin "all"
  | .max2 => .builtin "max"
  | .min2 => .builtin "min"
/-- the reading of a built-in by values -/
def rPr (K : PySem.W.Frag) (p : Prim) : List V → Hp → VK → Prop := fun xs H Q => ∃ μ η ds z, Rp K μ η H ∧ RVp K H μ ds xs ∧ primD p ds η = some z ∧ ∀ v μ' H', Step μ H μ' H' → Rp K μ' η H' → RF K H H' μ' z v → Q v H'
theorem cr_prim {X : Cx} (hc : X.calm = true) (p : Prim) : CallR X (primV p) (rPr X.K p) := by
  intro pins s σ H xs us Q I rx h
  obtain ⟨μ, η, ds, z, r, hd, e, q⟩ := h
  have qi : ∀ i, z = .int i → Q (.int i) H := fun i ei => by subst ei; exact q _ _ _ Step.refl r int_rf
  have qb : ∀ i, z = .bl i → Q (.bl i) H := fun i ei => by subst ei; exact q _ _ _ Step.refl r bl_rf
  match ds, hd with
  | [], hd => cases p <;> simp [primD] at e
  | [x], hd =>
    obtain ⟨v, rfl, h1⟩ := hd.one
    cases p with
    | len =>
      have any : (seqAny η x).map (fun xs => D.int xs.length) = some z → wpAny (model X.prog X.w) X.A (call (.builtin "len") us) (EP X pins σ Q) X.xe s := by
        intro e
        simp only [Option.map_eq_some_iff] at e
        obtain ⟨ys, e1, rfl⟩ := e
        obtain ⟨a, vs, rfl, h2, h3⟩ := seqAny_rv r h1 e1
        refine call_len_seq pins s σ H _ us Q I rx ⟨a, vs, rfl, h2, ?_⟩
        rw [← h3.length]; exact qi _ rfl
      cases x with
      | str x =>
        simp only [primD] at e
        split at e
        · rename_i hl
          cases e
          simp only [RV] at h1; subst h1
          exact call_len_str pins s σ H _ us Q I rx ⟨_, rfl, hl, qi _ rfl⟩
        · cases e
      | _ => exact any (by simp only [primD] at e; exact e)
    | abs =>
      cases x <;> simp [primD] at e
      simp only [RV] at h1; subst h1
      exact call_abs pins s σ H _ us Q I rx ⟨_, rfl, qi _ e.symm⟩
    | int =>
      cases x <;> simp [primD] at e
      simp only [RV] at h1; subst h1
      exact call_int1 pins s σ H _ us Q I rx (.inl ⟨_, rfl, qi _ e.symm⟩)
    | tuple =>
      simp only [primD, Option.map_eq_some_iff] at e
      obtain ⟨ys, e1, rfl⟩ := e
      obtain ⟨a, vs, rfl, h2, h3⟩ := seqAny_rv r h1 e1
      refine call_tuple_of pins s σ H _ us Q I rx ⟨a, vs, rfl, ?_⟩
      rcases h2 with h2 | h2
      · refine .inl ⟨h2, fun l nl => ?_⟩
        obtain ⟨t1, t2, t3⟩ := mk_tup r nl h3
        exact q _ _ _ t1 t2 t3
      · exact .inr ⟨h2, q _ _ _ Step.refl r (tup_rf h2 h3)⟩
    | list =>
      simp only [primD, Option.map_eq_some_iff] at e
      obtain ⟨ys, e1, rfl⟩ := e
      obtain ⟨a, vs, rfl, h2, h3⟩ := seqAny_rv r h1 e1
      refine call_list_of pins s σ H _ us Q I rx ⟨a, vs, rfl, h2, fun l nl => ?_⟩
      obtain ⟨t1, t2, t3⟩ := mk_tl r nl h3
      exact q _ _ _ t1 t2 t3
    | sum =>
      simp only [primD, Option.bind_eq_some_iff, Option.map_eq_some_iff] at e
      obtain ⟨ys, e1, ns, e2, rfl⟩ := e
      obtain ⟨a, vs, rfl, h2, h3⟩ := seqOf_rv r h1 e1
      rw [intsOf_rv e2 h3] at h2
      exact cr_sum hc pins s σ H _ us Q I rx ⟨a, ns, rfl, h2, qi _ rfl⟩
    | any =>
      simp only [primD, Option.bind_eq_some_iff, Option.map_eq_some_iff] at e
      obtain ⟨ys, e1, ns, e2, rfl⟩ := e
      obtain ⟨a, vs, rfl, h2, h3⟩ := seqOf_rv r h1 e1
      rw [blsOf_rv e2 h3] at h2
      exact cr_any hc pins s σ H _ us Q I rx ⟨a, ns, rfl, h2, qb _ rfl⟩
    | all =>
      simp only [primD, Option.bind_eq_some_iff, Option.map_eq_some_iff] at e
      obtain ⟨ys, e1, ns, e2, rfl⟩ := e
      obtain ⟨a, vs, rfl, h2, h3⟩ := seqOf_rv r h1 e1
      rw [blsOf_rv e2 h3] at h2
      exact cr_all hc pins s σ H _ us Q I rx ⟨a, ns, rfl, h2, qb _ rfl⟩
    | max2 => simp [primD] at e
    | min2 => simp [primD] at e
  | [x, y], hd =>
    obtain ⟨v, w, rfl, h1, h2⟩ := hd.two
    cases p with
    | max2 =>
      cases x <;> cases y <;> simp [primD] at e
      simp only [RV] at h1 h2; subst h1; subst h2
      exact call_max2 hc pins s σ H _ us Q I rx ⟨_, _, rfl, qi _ e.symm⟩
    | min2 =>
      cases x <;> cases y <;> simp [primD] at e
      simp only [RV] at h1 h2; subst h1; subst h2
      exact call_min2 hc pins s σ H _ us Q I rx ⟨_, _, rfl, qi _ e.symm⟩
    | _ => simp [primD] at e
  | _ :: _ :: _ :: _, _ => cases p <;> simp [primD] at e
/-! ### isinstance -/
def tyN : Ty → String
  | .int => "int"
  | .bool => "bool"
  | .str => "str"
  | .tuple => "tuple"
  | .list => "list"
def vty : D → String
  | .non => "NoneType"
  | .bl _ => "bool"
  | .int _ => "int"
  | .str _ => "str"
  | .tup _ => "tuple"
  | _ => "list"
theorem kit_tyD {K : PySem.W.Frag} (d : D) (t : Ty) : PySem.W.kitOne K (.type (vty d)) (.type (tyN t)) = some (tyD d t) := by
  refine kit_ty ?_
  cases d <;> cases t <;> simp only [vty, tyN, tyD] <;> decide +kernel
theorem tyX_rv {K : PySem.W.Frag} {μ : List Addr} {η : Hep} {H : Hp} {d : D} {v : V} (r : Rp K μ η H) (h : RV K H μ d v) : TyX K H v (.type (vty d)) := by
  cases d with
  | non => simp only [RV] at h; subst h; exact .base .non
  | bl b => simp only [RV] at h; subst h; exact .base (.bl b)
  | int i => simp only [RV] at h; subst h; exact .base (.int i)
  | str x => simp only [RV] at h; subst h; exact .base (.str x)
  | tup xs =>
    simp only [RV] at h
    obtain ⟨a, vs, rfl, h1, h2⟩ := h
    rcases h1 with (h1 | ⟨o, h1⟩) | ⟨o, its, n, h1, h3, _⟩
    · exact .base (.tup h1)
    · exact .fTuple h1
    · exact .kTuple h1 h3
  | ref n =>
    simp only [RV] at h
    obtain ⟨a, rfl, h1⟩ := h
    obtain ⟨vs, e⟩ := r.mem (List.mem_of_getElem? h1)
    exact .base (.lst e)
  | tl xs =>
    simp only [RV] at h
    obtain ⟨a, vs, rfl, h1, h2⟩ := h
    exact .base (.lst h1)
  | fl xs =>
    simp only [RV] at h
    obtain ⟨a, vs, rfl, h1, h2⟩ := h
    rcases h1 with ⟨o, h1⟩ | ⟨o, its, n, h1, h3, _⟩
    · exact .base (.frz h1)
    · exact .kList h1 h3
theorem kit_any {K : PySem.W.Frag} (d : D) : ∀ ts : List Ty, PySem.W.kitAny K (.type (vty d)) (ts.map fun t => .type (tyN t)) = some (ts.any fun t => tyD d t)
  | [] => kitAny_nil
  | t :: ts => by
    refine kitAny_cons (kit_tyD d t) (fun hb => ?_) (fun hb => ?_)
    · rw [List.any_cons, hb, Bool.false_or]; exact kit_any d ts
    · rw [List.any_cons, hb, Bool.true_or]
theorem cls_all : ∀ ts : List Ty, Paired ClsV (ts.map fun t => V.ty (tyN t)) (ts.map fun t => Value.type (tyN t))
  | [] => .nil
  | t :: ts => .cons (.ty _) (cls_all ts)
/-! ### methods -/
def metN : Meth → Str
  | .append => "append"
  | .pop0 => "pop"
  | .popAt => "pop"
  | .extend => "extend"
def metI : Meth → String
  | .append => "list.append"
  | .pop0 => "list.pop"
  | .popAt => "list.pop"
  | .extend => "list.extend"
def rMt (K : PySem.W.Frag) (m : Meth) : V → List V → Hp → VK → Prop := fun x xs H Q => ∃ μ η a ds z η', Rp K μ η H ∧ RV K H μ a x ∧ RVs K H μ ds xs ∧ methD m a ds η = .ok z η' ∧ ∀ v μ' H', Step μ H μ' H' → Rp K μ' η' H' → RF K H H' μ' z v → Q v H'
theorem RVs.one' {K : PySem.W.Frag} {μ : List Addr} {H : Hp} {x : D} {vs : List V} (h : RVs K H μ [x] vs) : ∃ v, vs = [v] ∧ RV K H μ x v ∧ x.isTl = false := by
  simp only [RVs] at h
  obtain ⟨v, r, rfl, h1, h2, rfl⟩ := h
  exact ⟨v, rfl, h1, h2⟩
theorem mt_meth {X : Cx} (m : Meth) : MtR X (metI m) (rMt X.K m) := by
  intro pins s σ H x xs v us Q I rx rxs h
  obtain ⟨μ, η, a, ds, z, η', r, ha, hd, e, q⟩ := h
  unfold methD at e
  split at e
  · rename_i n
    split at e
    · rename_i ys hn
      simp only [RV] at ha
      obtain ⟨p, rfl, hp⟩ := ha
      obtain ⟨vs, h1, h2⟩ := r.cell n p _ hp hn
      have hm : p ∈ μ := List.mem_of_getElem? hp
      cases m with
      | append =>
        match ds, hd with
        | [], _ => simp at e
        | [y], hd =>
          obtain ⟨w, rfl, h3, h4⟩ := hd.one'
          simp only at e
          split at e
          · rename_i hl
            cases e
            refine mt_append pins s σ H _ _ v us Q I rx rxs ⟨p, vs, w, rfl, rfl, h1, by rw [← h2.length]; exact hl, ?_⟩
            exact q _ _ _ (Step.upd_cell hm) (r.upd_cell hp (RVs.append h2 (RVs.one h3 h4))) non_rf
          · cases e
        | _ :: _ :: _, _ => simp at e
      | pop0 =>
        match ds, hd with
        | [], hd =>
          simp only [RVs] at hd; subst hd
          simp only at e
          split at e
          · rename_i y hy
            cases e
            obtain ⟨w, hw, h3, h4⟩ := h2.get hy
            refine mt_pop pins s σ H _ _ v us Q I rx rxs ⟨p, vs, w, rfl, rfl, h1, by rw [← h2.length]; exact hw, ?_⟩
            have st : Step μ H μ (upd H p (.lst vs.dropLast)) := Step.upd_cell hm
            exact q _ _ _ st (r.upd_cell hp h2.dropLast) ⟨RV.step st r _ _ h3, .of h4⟩
          · cases e
        | _ :: _, _ => simp at e
      | popAt =>
        match ds, hd with
        | [], _ => simp at e
        | [y], hd =>
          obtain ⟨w, rfl, h3, h4⟩ := hd.one'
          cases y <;> simp only [reduceCtorEq] at e
          rename_i i
          simp only [RV] at h3; subst h3
          split at e
          · rename_i k hk
            split at e
            · rename_i y hy
              cases e
              obtain ⟨k1, k2, k3, k4⟩ := ixN_seq hk
              obtain ⟨w, hw, h5, h6⟩ := h2.get hy
              have hz := (I.lstM h1).1
              have hs : (sizeLine : Nat) = 16777216 := rfl
              have hl := h2.length
              refine mt_popAt pins s σ H _ _ v us Q I rx rxs ⟨p, vs, i, k, w, rfl, rfl, h1, by omega, by omega, by rw [← hl]; exact k1, hw, ?_⟩
              have st : Step μ H μ (upd H p (.lst (vs.eraseIdx k))) := Step.upd_cell hm
              exact q _ _ _ st (r.upd_cell hp (h2.eraseIdx k)) ⟨RV.step st r _ _ h5, .of h6⟩
            · cases e
          · cases e
        | _ :: _ :: _, _ => simp at e
      | extend =>
        match ds, hd with
        | [], _ => simp at e
        | [y], hd =>
          obtain ⟨w, rfl, h3, h4⟩ := hd.one'
          simp only at e
          split at e
          · rename_i zs hz
            split at e
            · rename_i hl
              cases e
              obtain ⟨b, ws, rfl, h5, h6⟩ := lstOf_rv r h3 hz
              refine mt_extend pins s σ H _ _ v us Q I rx rxs ⟨p, b, vs, ws, rfl, rfl, h1, h5, by rw [← h2.length, ← h6.length]; exact hl, ?_⟩
              exact q _ _ _ (Step.upd_cell hm) (r.upd_cell hp (RVs.append h2 h6)) non_rf
            · cases e
          · cases e
        | _ :: _ :: _, _ => simp at e
    · cases e
  · cases e
/-- o[i] = v -/
def rSt (K : PySem.W.Frag) : V → V → V → Hp → (Hp → Prop) → Prop := fun o i v H Q => ∃ μ η a k d η', Rp K μ η H ∧ RV K H μ a o ∧ RV K H μ k i ∧ RV K H μ d v ∧ d.isTl = false ∧ setD a k d η = some η' ∧ ∀ μ' H', Step μ H μ' H' → Rp K μ' η' H' → Q H'
theorem set_sub {X : Cx} : PSet X (rSt X.K) := by
  intro pins s σ H o i v ov iv u Q I ro ri rv h
  obtain ⟨μ, η, a, k, d, η', r, ha, hk, hd, ht, e, q⟩ := h
  unfold setD at e
  split at e
  · rename_i n i'
    split at e
    · rename_i xs hn
      simp only [Option.map_eq_some_iff] at e
      obtain ⟨j, hj, rfl⟩ := e
      simp only [RV] at ha hk
      obtain ⟨p, rfl, hp⟩ := ha
      subst hk
      obtain ⟨vs, h1, h2⟩ := r.cell n p _ hp hn
      refine set_list pins s σ H _ _ v ov iv u Q I ro ri rv ⟨p, vs, i', j, rfl, rfl, h1, by rw [← h2.length]; exact hj, ?_⟩
      exact q _ _ (Step.upd_cell (List.mem_of_getElem? hp)) (r.upd_cell hp (h2.set j hd ht))
    · cases e
  · cases e
theorem atI_len {α β : Type} {xs : List α} {ys : List β} (h : xs.length = ys.length) {i : Int} {a : α} (e : atI xs i = some a) : ∃ j, ixN ys.length i = some j ∧ xs[j]? = some a := by
  unfold atI at e
  cases q : ixN xs.length i with
  | none => rw [q] at e; simp at e
  | some j => rw [q] at e; exact ⟨j, by rw [← h]; exact q, by simpa using e⟩
theorem ix_idx {X : Cx} : IxR X (rD2 X.K idxD) := by
  intro value slice pins s σ H x y v u Q I rx ry h hs
  obtain ⟨μ, η, a, b, z, r, ha, hb, e, q⟩ := h
  have seqs : (∀ i, b = .int i → (seqAny η a).bind (fun xs => at_ xs i) = some z → wpAny (model X.prog X.w) X.A (subscriptTail value slice v u) (EP X pins σ Q) X.xe s) := by
    intro i hi e9
    subst hi
    simp only [RV] at hb; subst hb
    obtain ⟨xs, e1, e2⟩ := Option.bind_eq_some_iff.mp e9
    obtain ⟨p, vs, rfl, h1, h2⟩ := seqAny_rv r ha e1
    obtain ⟨w, hw, h3, h4⟩ := h2.at e2
    refine ix_seq value slice pins s σ H _ _ v u Q I rx ry ?_ hs
    rcases h1 with h1 | h1
    · exact .inl ⟨p, vs, i, w, rfl, rfl, h1, hw, q _ _ _ Step.refl r ⟨h3, .of h4⟩⟩
    · exact .inr (.inl ⟨p, vs, i, w, rfl, rfl, h1, hw, q _ _ _ Step.refl r ⟨h3, .of h4⟩⟩)
  cases b with
  | int i =>
    cases a with
    | str zz =>
      simp only [idxD] at e
      split at e
      · rename_i hl
        simp only [Option.map_eq_some_iff] at e
        obtain ⟨c, hc, rfl⟩ := e
        simp only [RV] at ha hb; subst ha; subst hb
        exact ix_seq value slice pins s σ H _ _ v u Q I rx ry (.inr (.inr ⟨zz, i, c, rfl, rfl, hl, hc, q _ _ _ Step.refl r str_rf⟩)) hs
      · cases e
    | _ => exact seqs i rfl e
  | _ => cases a <;> simp [idxD] at e
def rSlc (K : PySem.W.Frag) : V → Option Int → Option Int → Hp → VK → Prop := fun x lo hi H Q => ∃ μ η a z, Rp K μ η H ∧ RV K H μ a x ∧ slcD a lo hi η = some z ∧ ∀ v μ' H', Step μ H μ' H' → Rp K μ' η H' → RF K H H' μ' z v → Q v H'
theorem sl_slc {X : Cx} : SlR X (rSlc X.K) := by
  intro pins s σ H x v vl vu lo hi sl Q I rx hs pl pu h
  obtain ⟨μ, η, a, z, r, ha, e, q⟩ := h
  have lists : (seqOf η a).map (fun xs => D.tl (cut xs lo hi)) = some z → ∃ T id, typeLookup (.type T) "__getitem__" = pure (some (.builtin id)) ∧ s.TypeIs v T ∧ wpAny (model X.prog X.w) X.A (getItem v (.ref sl)) (EP X pins σ Q) X.xe s := by
    intro e
    simp only [Option.map_eq_some_iff] at e
    obtain ⟨xs, e1, rfl⟩ := e
    obtain ⟨p, vs, rfl, h1, h2⟩ := seqOf_rv r ha e1
    refine sl_list pins s σ H _ v vl vu lo hi sl Q I rx hs pl pu ⟨p, vs, rfl, h1, fun t nt => ?_⟩
    obtain ⟨t1, t2, t3⟩ := mk_tl r nt h2.cut
    exact q _ _ _ t1 t2 t3
  cases a with
  | str zz =>
    simp only [slcD] at e
    split at e
    · rename_i hl
      cases e
      simp only [RV] at ha; subst ha
      refine sl_str pins s σ H _ v vl vu lo hi sl Q I rx hs pl pu ⟨zz, rfl, hl, ?_⟩
      have := q (.str (cutS zz lo hi)) _ _ Step.refl r ?_
      · exact this
      · have ee : (⟨(cut zz.cps.toList lo hi).toArray⟩ : Str) = cutS zz lo hi := by
          unfold cut cutS
          rw [Array.length_toList]
          rfl
        rw [ee]; exact str_rf
    · cases e
  | tup xs =>
    simp only [slcD, Option.some.injEq] at e; subst e
    simp only [RV] at ha
    obtain ⟨p, vs, rfl, h1, h2⟩ := ha
    refine sl_tupA pins s σ H _ v vl vu lo hi sl Q I rx hs pl pu ⟨p, vs, rfl, h1, fun hw => ?_, fun _ t nt => ?_⟩
    · refine q _ _ _ Step.refl r (tup_rf h1 ?_)
      have := h2.cut (lo := lo) (hi := hi)
      have e2 : cutV vs lo hi = vs := by
        unfold cutV
        rw [hw.1, hw.2]
        simp
      rw [e2] at this; exact this
    · obtain ⟨t1, t2, t3⟩ := mk_tup r nt h2.cut
      exact q _ _ _ t1 t2 t3
  | non => simp [slcD, seqOf] at e
  | bl _ => simp [slcD, seqOf] at e
  | int _ => simp [slcD, seqOf] at e
  | ref n => exact lists e
  | tl xs => exact lists e
  | fl xs => exact lists e
end Ev

set_option Elab.async false
set_option linter.all false
set_option maxRecDepth 100000
/-! # Part B: the text against the small language; soundness of targets, iterators' interface -/
namespace Ev
open PySem
open PySem.Spec
open PyProof.Rows
open L2

/-! ## what a program is, for the small language -/
structure Tab where
  fn : List (Nat × Str × Fd)
  gl : List (Str × D)
  ex : List (Nat × Str)

def isV (sc : Scope) (x : Str) : Bool := match sc.names.lookup x with
  | some .local => true
  | some .cell => true
  | some .free => true
  | _ => false
def isL (sc : Scope) (x : Str) : Bool := match sc.names.lookup x with
  | some .local => true
  | some .cell => true
  | _ => false
def isG (sc : Scope) (x : Str) : Bool := decide (sc.names.lookup x = some .globalImplicit)
def okN (x : Str) : Bool := !(x == ("__debug__" : Str)) && !(x == ("__classdict__" : Str)) && !(x == ("__name__" : Str))
def litIs : D → Const → Bool
  | .non, .none => true
  | .bl b, .bool c => decide (b = c)
  | .int i, .int j => decide (i = j)
  | .str x, .str y => decide (x = y)
  | _, _ => false
def primN : Prim → Str
  | .len => "len"
  | .abs => "abs"
  | .int => "int"
  | .tuple => "tuple"
  | .list => "list"
  | .sum => "sum"
  | .any => "any"
  | .all => "all"
  | .max2 => "max"
  | .min2 => "min"
def isSlice : Expr → Bool
  | .Slice .. => true
  | _ => false
def isCall0 : Expr → Bool
  | .Call (.Name ..) [] [] _ => true
  | _ => false
def tyIs (sc : Scope) (t : Ty) : Expr → Bool
  | .Name n _ => decide (n = (tyN t : Str)) && isG sc n && okN n
  | _ => false
def tysIs (sc : Scope) : List Ty → List Expr → Bool
  | [], [] => true
  | t :: ts, e :: es => tyIs sc t e && tysIs sc ts es
  | _, _ => false
mutual
def T.slots : T → List Nat
  | .nm i => [i]
  | .tp ts => T.slotss ts
  | .lp ts => T.slotss ts
def T.slotss : List T → List Nat
  | [] => []
  | t :: ts => T.slots t ++ T.slotss ts
end
/-- the expression may stand as a test -/
def tOk : E → Bool
  | .ite _ _ _ => false
  | .and a b => tOk a && tOk b
  | .or a b => tOk a && tOk b
  | _ => true
section
variable (N : List Str)
mutual
def ckT (sc : Scope) : T → Expr → Bool
  | .nm i, x => match x with
    | .Name n _ => decide (N[i]? = some n) && isL sc n
    | _ => false
  | .tp ts, x => match x with
    | .Tuple l _ _ => ckTs sc ts l
    | _ => false
  | .lp ts, x => match x with
    | .Tuple l _ _ => ckTs sc ts l
    | _ => false
def ckTs (sc : Scope) : List T → List Expr → Bool
  | [], [] => true
  | t :: ts, e :: es => ckT sc t e && ckTs sc ts es
  | _, _ => false
end
def isTup : Expr → Bool
  | .Tuple .. => true
  | _ => false
variable (P : Tab)
mutual
def ckE (calm : Bool) (sc : Scope) : E → Expr → Bool
  | .lit d, x => match x with
    | .Constant c _ _ => litIs d c
    | _ => false
  | .var i, x => match x with
    | .Name n _ => decide (N[i]? = some n) && isV sc n && okN n
    | _ => false
  | .glb g d, x => match x with
    | .Name n _ => decide (n = g) && isG sc n && okN n && decide (P.gl.lookup g = some d)
    | _ => false
  | .bin o a b, x => match x with
    | .BinOp ea op eb _ => decide (op = bop o) && ckE calm sc a ea && ckE calm sc b eb
    | _ => false
  | .neg a, x => match x with
    | .UnaryOp .USub ea _ => ckE calm sc a ea
    | _ => false
  | .cmp o a b, x => match x with
    | .Compare ea [op] [eb] _ => decide (op = cop o) && ckE calm sc a ea && ckE calm sc b eb && !behindInMarks op eb
    | _ => false
  | .cmp2 o o' a b c, x => match x with
    | .Compare ea [op, op'] [eb, ec] _ => decide (op = cop o) && decide (op' = cop o') && ckE calm sc a ea && ckE calm sc b eb && ckE calm sc c ec && !lastMarks [op, op'] [eb, ec]
    | _ => false
  | .isn n a, x => match x with
    | .Compare ea [op] [.Constant .none _ _] _ => decide (op = if n then .IsNot else .Is) && ckE calm sc a ea
    | _ => false
  | .and a b, x => match x with
    | .BoolOp .And [ea, eb] _ => ckE calm sc a ea && ckE calm sc b eb
    | .BoolOp .And (ea :: eb :: ec :: r) p => ckE calm sc a ea && ckE calm sc b (.BoolOp .And (eb :: ec :: r) p)
    | _ => false
  | .or a b, x => match x with
    | .BoolOp .Or [ea, eb] _ => ckE calm sc a ea && ckE calm sc b eb
    | .BoolOp .Or (ea :: eb :: ec :: r) p => ckE calm sc a ea && ckE calm sc b (.BoolOp .Or (eb :: ec :: r) p)
    | _ => false
  | .not a, x => match x with
    | .UnaryOp .Not ea _ => ckE calm sc a ea && tOk a
    | _ => false
  | .ite c a b, x => match x with
    | .IfExp ec ea eb _ => ckE calm sc c ec && tOk c && ckE calm sc a ea && ckE calm sc b eb
    | _ => false
  | .tup es, x => match x with
    | .Tuple l _ _ => ckEs calm sc es l
    | _ => false
  | .lst es, x => match x with
    | .List l _ => ckEs calm sc es l
    | _ => false
  | .idx a i, x => match x with
    | .Subscript ea ei _ => ckE calm sc a ea && ckE calm sc i ei && !isSlice ei
    | _ => false
  | .slc a lo hi, x => match x with
    | .Subscript ea (.Slice l h none _) _ => ckE calm sc a ea && ckO calm sc lo l && ckO calm sc hi h
    | _ => false
  | .call f es, x => match x with
    | .Call (.Name n _) (e1 :: l) [] _ => calm && isG sc n && okN n && ckEs calm sc es (e1 :: l) && decide ((P.fn.lookup f).map (·.1) = some n)
    | _ => false
  | .prim p es, x => match x with
    | .Call (.Name n _) (e1 :: l) [] _ => calm && decide (n = primN p) && isG sc n && okN n && ckEs calm sc es (e1 :: l)
    | _ => false
  | .isi a ts tupled, x => match x with
    | .Call (.Name n _) [ea, et] [] _ => decide (n = ("isinstance" : Str)) && isG sc n && okN n && ckE calm sc a ea && (match tupled, ts, et with
      | false, [t], et => tyIs sc t et
      | true, ts, .Tuple l _ _ => tysIs sc ts l && decide (ts.length ≤ 10)
      | _, _, _ => false)
    | _ => false
  | .meth m o es, x => match x with
    | .Call (.Attribute eo nm apos) l [] cpos => decide (nm = metN m) && ckE calm sc o eo && ckEs calm sc es l && (apos.endLine == cpos.line) && !isCall0 eo && decide (l.length ≤ 20)
    | _ => false
  | .comp elt t it c vs, x => match x with
    | .ListComp ee [⟨tg, iter, ifs, 0⟩] scope _ => calm && blkC N sc scope (vs.map fun i => (N.getD i "", i)) && ckT N scope t tg && (T.slots t).all (fun i => vs.contains i) &&
        ckE calm (relS scope sc) elt ee && ckC calm (relS scope sc) c ifs && ckI calm sc it tg iter
    | _ => false
def ckEs (calm : Bool) (sc : Scope) : Es → List Expr → Bool
  | .nil, l => match l with
    | [] => true
    | _ => false
  | .cons e es, l => match l with
    | x :: r => ckE calm sc e x && ckEs calm sc es r
    | _ => false
def ckO (calm : Bool) (sc : Scope) : OE → Option Expr → Bool
  | .no, x => match x with
    | none => true
    | _ => false
  | .so e, x => match x with
    | some x => ckE calm sc e x
    | _ => false
def ckC (calm : Bool) (sc : Scope) : OE → List Expr → Bool
  | .no, l => match l with
    | [] => true
    | _ => false
  | .so e, l => match l with
    | [x] => ckE calm sc e x && tOk e
    | _ => false
def ckI (calm : Bool) (sc : Scope) : I → Expr → Expr → Bool
  | .val e, _, x => ckE calm sc e x
  | .rng1 a, _, x => match x with
    | .Call (.Name n _) [ea] [] _ => calm && decide (n = ("range" : Str)) && isG sc n && ckE calm sc a ea
    | _ => false
  | .rng2 a b, _, x => match x with
    | .Call (.Name n _) [ea, eb] [] _ => calm && decide (n = ("range" : Str)) && isG sc n && ckE calm sc a ea && ckE calm sc b eb
    | _ => false
  | .rng3 a b c, _, x => match x with
    | .Call (.Name n _) [ea, eb, ec] [] _ => calm && decide (n = ("range" : Str)) && isG sc n && ckE calm sc a ea && ckE calm sc b eb && ckE calm sc c ec
    | _ => false
  | .enm e, tg, x => match x with
    | .Call (.Name n _) [ea] [] _ => calm && decide (n = ("enumerate" : Str)) && isG sc n && ckE calm sc e ea && isTup tg
    | _ => false
  | .zip2 a b, tg, x => match x with
    | .Call (.Name n _) [ea, eb] [] _ => calm && decide (n = ("zip" : Str)) && isG sc n && ckE calm sc a ea && ckE calm sc b eb && isTup tg
    | _ => false
  | .rev e, _, x => match x with
    | .Call (.Name n _) [ea] [] _ => calm && decide (n = ("reversed" : Str)) && isG sc n && ckE calm sc e ea
    | _ => false
end
end

/-! ## names and their values -/
structure RL (K : PySem.W.Frag) (H : Hp) (μ : List Addr) (ρ : Lo) (σ : L2.St) : Prop where
  len : ρ.length = σ.length
  val : ∀ (i : Nat) (d : D), ρ[i]? = some (some d) → d.isTl = false ∧ ∃ v, σ[i]? = some (some v) ∧ RV K H μ d v
section
variable {K : PySem.W.Frag} {μ μ' μ1 : List Addr} {η η1 : Hep} {H H' H1 : Hp} {d : D} {v : V} {ds : List D} {vs : List V} {ρ : Lo} {σ : L2.St}
theorem RL.step (s : Step μ H μ' H') (r : Rp K μ η H) (h : RL K H μ ρ σ) : RL K H' μ' ρ σ := ⟨h.len, fun i d e => by
  obtain ⟨t, v, h1, h2⟩ := h.val i d e
  exact ⟨t, v, h1, RV.step s r d v h2⟩⟩
theorem RL.grow (p : μ <+: μ') (h : RL K H μ ρ σ) : RL K H μ' ρ σ := ⟨h.len, fun i d e => by
  obtain ⟨t, v, h1, h2⟩ := h.val i d e
  exact ⟨t, v, h1, RV.grow p d v t h2⟩⟩
theorem RL.set {i : Nat} (h : RL K H μ ρ σ) (hd : RV K H μ d v) (t : d.isTl = false) : RL K H μ (ρ.set i (some d)) (σ.set i (some v)) where
  len := by simp [h.len]
  val := fun j e q => by
    by_cases hj : j = i
    · subst hj
      have hl : j < ρ.length := by
        have := (List.getElem?_eq_some_iff.mp q).1
        simpa using this
      rw [List.getElem?_set_self hl] at q
      cases q
      exact ⟨t, v, List.getElem?_set_self (by rw [← h.len]; exact hl), hd⟩
    · rw [List.getElem?_set_ne (Ne.symm hj)] at q ⊢
      exact h.val j e q
theorem wipe_len (ρ : Lo) : ∀ vs : List Nat, (Ev.wipe ρ vs).length = ρ.length
  | [] => rfl
  | v :: vs => by simp [Ev.wipe, wipe_len ρ vs]
theorem RL.wipe (h : RL K H μ ρ σ) : ∀ vs : List Nat, RL K H μ (Ev.wipe ρ vs) (L2.wipe σ vs)
  | [] => h
  | v :: vs => by
    have ih := RL.wipe h vs
    refine ⟨by simp [Ev.wipe, L2.wipe, ih.len], fun j e q => ?_⟩
    simp only [Ev.wipe, L2.wipe] at q ⊢
    by_cases hj : j = v
    · subst hj
      have hl : j < (Ev.wipe ρ vs).length := by
        have := (List.getElem?_eq_some_iff.mp q).1
        simpa using this
      rw [List.getElem?_set_self hl] at q
      cases q
    · rw [List.getElem?_set_ne (Ne.symm hj)] at q ⊢
      exact ih.val j e q
theorem wipe_same {σ σ2 : L2.St} : ∀ vs : List Nat, σ2.length = σ.length → (∀ i, i ∉ vs → σ2[i]? = σ[i]?) → L2.wipe σ2 vs = L2.wipe σ vs := by
  intro vs hl he
  apply List.ext_getElem?
  intro i
  by_cases hi : i ∈ vs
  · have key : ∀ (σ : L2.St) (vs : List Nat), i ∈ vs → i < σ.length → (L2.wipe σ vs)[i]? = some none := by
      intro σ vs
      induction vs with
      | nil => intro h; cases h
      | cons v vs ih =>
        intro h hs
        simp only [L2.wipe]
        by_cases hv : i = v
        · subst hv; exact List.getElem?_set_self (by rw [L2.wipe_length]; exact hs)
        · rw [List.getElem?_set_ne (Ne.symm hv)]
          exact ih (by simpa [hv] using h) hs
    by_cases hs : i < σ.length
    · rw [key σ2 vs hi (by omega), key σ vs hi hs]
    · rw [List.getElem?_eq_none (by rw [L2.wipe_length]; omega), List.getElem?_eq_none (by rw [L2.wipe_length]; omega)]
  · rw [L2.wipe_out hi, L2.wipe_out hi]
    exact he i hi
end

/-! ## targets -/
def gT (K : PySem.W.Frag) (t : T) : TG := fun v σ H Q => ∃ μ ρ η d ρ', RL K H μ ρ σ ∧ Rp K μ η H ∧ RV K H μ d v ∧ d.isTl = false ∧ bindT t d η ρ = some ρ' ∧ ∀ σ', RL K H μ ρ' σ' → (∀ i, i ∉ T.slots t → σ'[i]? = σ[i]?) → Q σ' H
def gTs (K : PySem.W.Frag) (ts : List T) : TGs := fun vs σ H Q => ∃ μ ρ η ds ρ', RL K H μ ρ σ ∧ Rp K μ η H ∧ RVs K H μ ds vs ∧ bindTs ts ds η ρ = some ρ' ∧ ∀ σ', RL K H μ ρ' σ' → (∀ i, i ∉ T.slotss ts → σ'[i]? = σ[i]?) → Q σ' H
theorem _root_.L2.PG.imp {X : Cx} {tg : Expr} {t t' : TG} (h : PG X tg t) (f : ∀ v σ H Q, t' v σ H Q → t v σ H Q) : PG X tg t' := ⟨fun pins s σ H v u Q I r q => h.run pins s σ H v u Q I r (f _ _ _ _ q)⟩
theorem _root_.L2.PGs.imp {X : Cx} {tg : List Expr} {t t' : TGs} (h : PGs X tg t) (f : ∀ v σ H Q, t' v σ H Q → t v σ H Q) : PGs X tg t' := ⟨fun pins s σ H v u Q I r q => h.run pins s σ H v u Q I r (f _ _ _ _ q)⟩
theorem isL_loc {sc : Scope} {x : Str} (h : isL sc x = true) : Loc sc x := by
  unfold isL at h
  split at h <;> first | exact .inl (by assumption) | exact .inr (by assumption) | cases h
/-- may be stored -/
structure StOk (sc : Scope) (X : Cx) : Prop where
  nd : X.N.Nodup
  loc : ∀ x, Loc sc x → Loc X.env.scope x ∧ (X.fn x = true ∨ X.env.scope.names.lookup x = some .local)
theorem ckTs_len {N : List Str} {sc : Scope} : ∀ {ts : List T} {es : List Expr}, ckTs N sc ts es = true → ts.length = es.length
  | [], [], _ => rfl
  | [], _ :: _, h => by simp [ckTs] at h
  | _ :: _, [], h => by simp [ckTs] at h
  | t :: ts, e :: es, h => by
    simp only [ckTs, Bool.and_eq_true] at h
    simp [ckTs_len h.2]
theorem ckT_star {N : List Str} {sc : Scope} {t : T} {e : Expr} (h : ckT N sc t e = true) (env : Env) (es : List Expr) : assignEach (e :: es) env = (false, assign e env) :: assignEach es env := by
  cases t <;> cases e <;> first | rfl | simp [ckT] at h
theorem ckTs_each {N : List Str} {sc : Scope} (env : Env) : ∀ {ts : List T} {es : List Expr}, ckTs N sc ts es = true → (assignEach es env).length = ts.length ∧ (assignEach es env).findIdx? (·.1) = none
  | [], [], _ => ⟨rfl, rfl⟩
  | [], _ :: _, h => by simp [ckTs] at h
  | _ :: _, [], h => by simp [ckTs] at h
  | t :: ts, e :: es, h => by
    simp only [ckTs, Bool.and_eq_true] at h
    obtain ⟨h1, h2⟩ := ckTs_each env h.2
    rw [ckT_star h.1]
    refine ⟨by simp [h1], ?_⟩
    rw [List.findIdx?_cons]
    simp [h2]
theorem bindTs_len {η : Hep} : ∀ {ts : List T} {ds : List D} {ρ ρ' : Lo}, bindTs ts ds η ρ = some ρ' → ts.length = ds.length
  | [], [], _, _, _ => rfl
  | [], _ :: _, _, _, h => by simp [bindTs] at h
  | _ :: _, [], _, _, h => by simp [bindTs] at h
  | t :: ts, x :: xs, ρ, ρ', h => by
    simp only [bindTs] at h
    split at h
    · simp [bindTs_len h]
    · cases h
mutual
theorem pg_T {X : Cx} {sc : Scope} (hc : X.calm = true) (S : StOk sc X) : ∀ (t : T) (e : Expr), ckT X.N sc t e = true → PG X e (gT X.K t)
  | .nm i, e, h => by
    unfold ckT at h
    split at h
    · rename_i n p
      simp only [Bool.and_eq_true, decide_eq_true_eq] at h
      obtain ⟨hl, hf⟩ := S.loc n (isL_loc h.2)
      refine L2.PG.imp (pg_name (i := i) S.nd h.1 hl hf) fun v σ H Q q => ?_
      obtain ⟨μ, ρ, η, d, ρ', r, rp, rv, nt, e, f⟩ := q
      simp only [bindT, Option.some.injEq] at e; subst e
      exact f _ (r.set rv nt) fun j hj => List.getElem?_set_ne (fun q => hj (by simp [T.slots, q]))
    · cases h
  | .tp ts, e, h => by
    unfold ckT at h
    split at h
    · rename_i l k p
      obtain ⟨hn, hs⟩ := ckTs_each X.env h
      refine L2.PG.imp (pg_tup hc (pg_Ts hc S ts l h) hn hs) fun v σ H Q q => ?_
      obtain ⟨μ, ρ, η, d, ρ', r, rp, rv, nt, e, f⟩ := q
      cases d <;> simp only [bindT, reduceCtorEq] at e
      simp only [RV] at rv
      obtain ⟨a, vs, rfl, h1, h2⟩ := rv
      exact ⟨a, vs, rfl, h1, by rw [← h2.length, bindTs_len e], μ, ρ, η, _, ρ', r, rp, h2, e, f⟩
    · cases h
  | .lp ts, e, h => by
    unfold ckT at h
    split at h
    · rename_i l k p
      obtain ⟨hn, hs⟩ := ckTs_each X.env h
      refine L2.PG.imp (pg_lst hc (pg_Ts hc S ts l h) hn hs) fun v σ H Q q => ?_
      obtain ⟨μ, ρ, η, d, ρ', r, rp, rv, nt, e, f⟩ := q
      simp only [bindT] at e
      split at e
      · rename_i xs hx
        obtain ⟨a, vs, rfl, h1, h2⟩ := seqOf_rv rp rv hx
        exact ⟨a, vs, rfl, h1, by rw [← h2.length, bindTs_len e], μ, ρ, η, _, ρ', r, rp, h2, e, f⟩
      · cases e
    · cases h
theorem pg_Ts {X : Cx} {sc : Scope} (hc : X.calm = true) (S : StOk sc X) : ∀ (ts : List T) (es : List Expr), ckTs X.N sc ts es = true → PGs X es (gTs X.K ts)
  | [], [], h => by
    refine L2.PGs.imp pgs_nil fun vs σ H Q q => ?_
    obtain ⟨μ, ρ, η, ds, ρ', r, rp, rv, e, f⟩ := q
    cases ds with
    | nil =>
      simp only [bindTs, Option.some.injEq] at e; subst e
      simp only [RVs] at rv; subst rv
      exact ⟨rfl, f _ r fun _ _ => rfl⟩
    | cons _ _ => simp [bindTs] at e
  | [], _ :: _, h => by simp [ckTs] at h
  | _ :: _, [], h => by simp [ckTs] at h
  | t :: ts, e :: es, h => by
    simp only [ckTs, Bool.and_eq_true] at h
    refine L2.PGs.imp (pgs_cons (pg_T hc S t e h.1) (pg_Ts hc S ts es h.2) (by rw [ckT_star h.1] <;> rfl)) fun vs σ H Q q => ?_
    obtain ⟨μ, ρ, η, ds, ρ', r, rp, rv, e, f⟩ := q
    cases ds with
    | nil => simp [bindTs] at e
    | cons x xs =>
      simp only [bindTs] at e
      simp only [RVs] at rv
      obtain ⟨v, w, rfl, h1, h2, h3⟩ := rv
      split at e
      · rename_i ρ1 e1
        refine ⟨v, w, rfl, μ, ρ, η, x, ρ1, r, rp, h1, h2, e1, fun σ' r' fr => ?_⟩
        refine ⟨μ, ρ1, η, xs, ρ', r', rp, h3, e, fun σ'' r'' fr' => f _ r'' fun i hi => ?_⟩
        simp only [T.slotss, List.mem_append, not_or] at hi
        rw [fr' i hi.2, fr i hi.1]
      · cases e
end

/-! ## iterators -/
/-- an iterator that gives the items xs, as long as the lists w stand -/
def ItOk (K : PySem.W.Frag) (J : It) (xs : List D) (w : List (Nat × List D)) (μ0 : List Addr) (H0 : Hp) : Prop :=
  ∀ μ η H, Step μ0 H0 μ H → Rp K μ η H → watchOk η w = true → J.stop xs.length H ∧
    ∀ i d, xs[i]? = some d → J.go i H ∧ ∀ v H', J.yld i H v H' → Step μ H μ H' ∧ Rp K μ η H' ∧ RV K H' μ d v ∧ d.isTl = false
theorem ItOk.step {K : PySem.W.Frag} {J : It} {xs : List D} {w : List (Nat × List D)} {μ0 μ1 : List Addr} {H0 H1 : Hp} (h : ItOk K J xs w μ0 H0) (s : Step μ0 H0 μ1 H1) : ItOk K J xs w μ1 H1 := fun μ η H st => h μ η H (s.trans st)
def RI (K : PySem.W.Frag) : Hp → Hp → List Addr → (List D × List (Nat × List D)) → It → Prop := fun _ H μ p J => ItOk K J p.1 p.2 μ H
theorem bind_ok_inv {α β : Type} {r : R α} {k : α → Hep → R β} {b : β} {h : Hep} (e : r.bind k = .ok b h) : ∃ a h1, r = .ok a h1 ∧ k a h1 = .ok b h := by
  cases r with
  | ok a h1 => exact ⟨a, h1, rfl, e⟩
  | exc _ _ _ => cases e
  | bad => cases e
theorem of_ok_inv {α : Type} {o : Option α} {η η' : Hep} {a : α} (e : R.of o η = .ok a η') : o = some a ∧ η = η' := by
  cases o with
  | none => cases e
  | some x => simp only [R.of_some, R.ok.injEq] at e; exact ⟨by rw [e.1], e.2⟩
theorem watchOf_ok {η : Hep} {x : D} {xs : List D} (h : seqAny η x = some xs) : watchOk η (watchOf x xs) = true := by
  cases x with
  | ref n =>
    simp only [seqAny, seqOf] at h
    split at h
    · rename_i ys hn
      cases h
      simp [watchOk, watchOf, hn]
    · cases h
  | _ => rfl
theorem watchOk_append {η : Hep} {w w' : List (Nat × List D)} (h : watchOk η w = true) (h' : watchOk η w' = true) : watchOk η (w ++ w') = true := by
  simp only [watchOk, List.all_append, Bool.and_eq_true] at h h' ⊢
  exact ⟨h, h'⟩
theorem evI_watch {C : Nat → List D → Hep → R D} (it : I) {ρ : Lo} {η η1 : Hep} {p : List D × List (Nat × List D)} (e : evI C it ρ η = .ok p η1) : watchOk η1 p.2 = true := by
  cases it with
  | val a =>
    simp only [evI] at e
    obtain ⟨x, h1, e1, e2⟩ := bind_ok_inv e
    obtain ⟨e3, rfl⟩ := of_ok_inv e2
    simp only [Option.map_eq_some_iff] at e3
    obtain ⟨xs, e4, rfl⟩ := e3
    exact watchOf_ok e4
  | enm a =>
    simp only [evI] at e
    obtain ⟨x, h1, e1, e2⟩ := bind_ok_inv e
    obtain ⟨e3, rfl⟩ := of_ok_inv e2
    simp only [Option.map_eq_some_iff] at e3
    obtain ⟨xs, e4, rfl⟩ := e3
    exact watchOf_ok e4
  | rev a =>
    simp only [evI] at e
    obtain ⟨x, h1, e1, e2⟩ := bind_ok_inv e
    obtain ⟨e3, rfl⟩ := of_ok_inv e2
    simp only [Option.map_eq_some_iff] at e3
    obtain ⟨xs, e4, rfl⟩ := e3
    exact watchOf_ok e4
  | zip2 a b =>
    simp only [evI] at e
    obtain ⟨x, h1, e1, e2⟩ := bind_ok_inv e
    obtain ⟨y, h2, e3, e4⟩ := bind_ok_inv e2
    split at e4
    · rename_i xs ys q1 q2
      cases e4
      exact watchOk_append (watchOf_ok q1) (watchOf_ok q2)
    · cases e4
  | rng1 a =>
    simp only [evI] at e
    obtain ⟨x, h1, e1, e2⟩ := bind_ok_inv e
    split at e2
    · split at e2
      · cases e2; rfl
      · cases e2
    · cases e2
  | rng2 a b =>
    simp only [evI] at e
    obtain ⟨x, h1, e1, e2⟩ := bind_ok_inv e
    obtain ⟨y, h2, e3, e4⟩ := bind_ok_inv e2
    split at e4
    · split at e4
      · cases e4; rfl
      · cases e4
    · cases e4
  | rng3 a b c =>
    simp only [evI] at e
    obtain ⟨x, h1, e1, e2⟩ := bind_ok_inv e
    obtain ⟨y, h2, e3, e4⟩ := bind_ok_inv e2
    obtain ⟨z, h3, e5, e6⟩ := bind_ok_inv e4
    split at e6
    · split at e6
      · cases e6; rfl
      · cases e6
    · cases e6
end Ev

set_option Elab.async false
set_option linter.all false
set_option maxRecDepth 100000
/-! # Part B: soundness of expressions -/
namespace Ev
open PySem
open PySem.Spec
open PyProof.Rows
open L2

def bltNames : List Str := ["len", "abs", "int", "tuple", "list", "sum", "any", "all", "max", "min", "isinstance", "bool", "str", "range", "enumerate", "zip", "reversed"]
def XRof (mg : Str → Option Value) (P : Tab) : XRel := fun c xs cls dd _ => ∃ x C, P.ex.lookup c = some x ∧ mg x = some (.ref C) ∧ cls = .ref C ∧ xs = [] ∧ dd = none
/-- what a def promises -/
def spF (K : PySem.W.Frag) (XR : XRel) (C : Nat → List D → Hep → R D) (f : Nat) : Sp := fun vs H Q E => ∃ μ η ds, RVs K H μ ds vs ∧ Rp K μ η H ∧ Pg K XR (RF K) [] (fun c d _ H => E c d H) μ H (C f ds η) Q

structure Gd (P : Tab) (k : Nat) (C : Nat → List D → Hep → R D) (calm : Bool) (sc : Scope) (W : WX) (X : Cx) : Prop where
  nd : X.N.Nodup
  sc : X.env.scope = sc
  cm : calm = true → X.calm = true
  room : calm = true → Room k X.A
  units : X.A.units + 100 < cLine
  tk : Takes X W
  blt : ∀ x, x ∈ bltNames → X.mg x = none
  glb : ∀ x d, P.gl.lookup x = some d → ∃ v u, X.mg x = some u ∧ RelV v u ∧ d.isTl = false ∧ ∀ H μ, RV X.K H μ d v
  fns : ∀ f x fd, P.fn.lookup f = some (x, fd) → ∃ a fdt ps, X.mg x = some (.ref a) ∧ PySem.W.keepIn X.K (.ref a) = true ∧ Binds X.K fdt ps [] ∧
    FnOk X.prog X.w X.K X.mg X.base (L2.CX X.prog X.w) k a fdt ps (spF X.K (XRof X.mg P) C f)

section
variable (K : PySem.W.Frag) (XR : XRel) (C : Nat → List D → Hep → R D)
def tE (W : WX) (e : E) : TE := fun σ H Q => ∃ μ ρ η, RL K H μ ρ σ ∧ Rp K μ η H ∧ Pg K XR (RF K) σ W μ H (ev C e ρ η) Q
def tEs (W : WX) (es : Es) : TA := fun σ H Q => ∃ μ ρ η, RL K H μ ρ σ ∧ Rp K μ η H ∧ Pg K XR (RS K) σ W μ H (evs C es ρ η) Q
def tEp (W : WX) (es : Es) : TA := fun σ H Q => ∃ μ ρ η, RL K H μ ρ σ ∧ Rp K μ η H ∧ Pg K XR (RP K) σ W μ H (evp C es ρ η) Q
def tO (W : WX) (e : OE) : TO := fun σ H Q => ∃ μ ρ η, RL K H μ ρ σ ∧ Rp K μ η H ∧ Pg K XR (fun _ _ _ a b => a = b) σ W μ H (evo C e ρ η) Q
def tCd (W : WX) (e : OE) : TT := fun σ H Q => ∃ μ ρ η, RL K H μ ρ σ ∧ Rp K μ η H ∧ Pg K XR (RF K) σ W μ H (evc C e ρ η) fun v H' => ∃ c, v = .bl c ∧ Q c H'
def tI (W : WX) (it : I) : TI := fun σ H R => ∃ μ ρ η, RL K H μ ρ σ ∧ Rp K μ η H ∧ Pg K XR (RI K) σ W μ H (evI C it ρ η) R
end

theorem _root_.L2.PE.imp {X : Cx} {e : Expr} {t t' : TE} (h : PE X e t) (f : ∀ σ H Q, t' σ H Q → t σ H Q) : PE X e t' := ⟨fun pins s σ H Q I q => h.run pins s σ H Q I (f _ _ _ q)⟩
theorem _root_.L2.PT.imp {X : Cx} {e : Expr} {t t' : TT} (h : PT X e t) (f : ∀ σ H Q, t' σ H Q → t σ H Q) : PT X e t' := ⟨fun pins s σ H Q I q => h.run pins s σ H Q I (f _ _ _ q)⟩
theorem _root_.L2.PW.imp {X : Cx} {e : Expr} {t t' : TT} (h : PW X e t) (f : ∀ σ H Q, t' σ H Q → t σ H Q) : PW X e t' := ⟨fun whole pins s σ H Q I q => h.run whole pins s σ H Q I (f _ _ _ q)⟩
theorem _root_.L2.PA.imp {X : Cx} {es : List Expr} {t t' : TA} (h : PA X es t) (f : ∀ σ H Q, t' σ H Q → t σ H Q) : PA X es t' := ⟨fun pos pins s σ H Q I q => h.run pos pins s σ H Q I (f _ _ _ q)⟩
theorem _root_.L2.PO.imp {X : Cx} {e : Option Expr} {t t' : TO} (h : PO X e t) (f : ∀ σ H Q, t' σ H Q → t σ H Q) : PO X e t' := ⟨fun pins s σ H Q I q => h.run pins s σ H Q I (f _ _ _ q)⟩
theorem _root_.L2.PI.imp {X : Cx} {tg e : Expr} {t t' : TI} (h : PI X tg e t) (f : ∀ σ H Q, t' σ H Q → t σ H Q) : PI X tg e t' := ⟨fun pins s σ H Q I q => h.run pins s σ H Q I (f _ _ _ q)⟩
theorem _root_.L2.PTs.imp {X : Cx} {e : List Expr} {t t' : TT} (h : PTs X e t) (f : ∀ σ H Q, t' σ H Q → t σ H Q) : PTs X e t' := ⟨fun pins s σ H Q I q => h.run pins s σ H Q I (f _ _ _ q)⟩
theorem _root_.L2.PI.or {X : Cx} {tg e : Expr} {t t' : TI} (h : PI X tg e t) (h' : PI X tg e t') : PI X tg e (fun σ H R => t σ H R ∨ t' σ H R) :=
  ⟨fun pins s σ H Q I q => q.elim (h.run pins s σ H Q I) (h'.run pins s σ H Q I)⟩

section
variable {K : PySem.W.Frag} {XR : XRel} {σ : L2.St} {W : WX} {μ μ1 : List Addr} {η η1 : Hep} {H H1 : Hp} {α β γ δ : Type} {Rel : Hp → Hp → List Addr → α → β → Prop} {Rel' : Hp → Hp → List Addr → γ → δ → Prop} {r : R α} {Q : β → Hp → Prop} {k : α → Hep → R γ} {Q' : δ → Hp → Prop}
theorem Pg.bind0 (h : Pg K XR Rel' σ W μ H (r.bind k) Q')
    (f : ∀ a η1 b μ1 H1, r = .ok a η1 → Step μ H μ1 H1 → Rp K μ1 η1 H1 → Rel H H1 μ1 a b → Pg K XR Rel' σ W μ H (k a η1) Q' → Q b H1) : Pg K XR Rel σ W μ H r Q := by
  cases r with
  | ok a η' => exact fun b μ' H' s' r' h' => f a η' b μ' H' rfl s' r' h' h
  | exc c xs η' => exact h
  | bad => exact h
/-- the next step from where we stand -/
theorem Pg.nxt {r : R D} {Q : VK} (h : Pg K XR (RF K) σ W μ H r Q) (s : Step μ H μ1 H1) (rp : Rp K μ1 η1 H1) : Pg K XR (RF K) σ W μ1 H1 r Q := h.step s (RF.mono s ⟨_, rp⟩)
theorem Pg.nxt' {r : R α} {Rel0 : Hp → List Addr → α → β → Prop} (h : Pg K XR (fun _ => Rel0) σ W μ H r Q) (s : Step μ H μ1 H1) : Pg K XR (fun _ => Rel0) σ W μ1 H1 r Q := h.step s fun _ _ _ _ x => x
end

/-! ### the syntax -/
section
variable {N : List Str} {P : Tab} {calm : Bool} {sc : Scope}
theorem ckE_star {a : E} {x : Expr} (h : ckE N P calm sc a x = true) (env : Env) (es : List Expr) : starEach (x :: es) env = (false, eval x env) :: starEach es env := by
  cases x with
  | Starred v p => cases a <;> simp [ckE] at h
  | _ => rfl
theorem ckEs_star (env : Env) (pos : Pos) : ∀ {es : Es} {l : List Expr}, ckEs N P calm sc es l = true → (backTo pos (starEach l env)).any (·.1) = false ∧ (backTo pos (starEach l env)).all (fun x => !x.1) = true
  | .nil, l, h => by
    unfold ckEs at h
    split at h
    · exact ⟨rfl, rfl⟩
    · cases h
  | .cons e es, l, h => by
    unfold ckEs at h
    split at h
    · rename_i x r
      simp only [Bool.and_eq_true] at h
      have ih := ckEs_star env pos h.2
      rw [ckE_star h.1]
      simp only [backTo, List.map_cons, List.any_cons, List.all_cons, Bool.false_or, Bool.not_false, Bool.true_and]
      exact ih
    · cases h
theorem ckE_fold {a : E} {x : Expr} (h : ckE N P calm sc a x = true) (env : Env) : ∀ y, foldedSetIterable x env y = pure y := by
  cases x with
  | Set _ _ _ => cases a <;> simp [ckE] at h
  | _ => intro _; rfl
theorem ckI_fold {it : I} {tg x : Expr} (h : ckI N P calm sc it tg x = true) (env : Env) : ∀ y, foldedSetIterable x env y = pure y := by
  cases it with
  | val a => exact ckE_fold (by simpa [ckI] using h) env
  | _ =>
    cases x with
    | Set _ _ _ => simp [ckI] at h
    | _ => intro _; rfl
theorem isV_vis {x : Str} (h : isV sc x = true) : Vis sc x := by
  unfold isV at h
  split at h
  · exact .inl (by assumption)
  · exact .inr (.inl (by assumption))
  · exact .inr (.inr (by assumption))
  · cases h
theorem isG_gl {X : Cx} (e : X.env.scope = sc) {x : Str} (h : isG sc x = true) : Gl X x := by
  unfold Gl Env.kindOf
  rw [e]
  exact of_decide_eq_true h
theorem okN_spec {x : Str} (h : okN x = true) : (x == ("__debug__" : Str)) = false ∧ (x == ("__classdict__" : Str)) = false ∧ x ≠ "__name__" := by
  simp only [okN, Bool.and_eq_true, Bool.not_eq_true', beq_eq_false_iff_ne] at h
  exact ⟨by simpa using h.1.1, by simpa using h.1.2, h.2⟩
theorem attr_base {o : Expr} {name : Str} {env : Env} (h : isCall0 o = false) : attributeBase o name env (eval o env) = eval o env := by
  unfold attributeBase
  cases o with
  | Call f as kws p =>
    cases f with
    | Name n q =>
      cases as with
      | nil =>
        cases kws with
        | nil => simp [isCall0] at h
        | cons _ _ => rfl
      | cons _ _ => rfl
    | _ => rfl
  | _ => rfl
theorem test_val {a : E} {x : Expr} (h : ckE N P calm sc a x = true) (ho : ∀ op l p, x ≠ .BoolOp op l p) (hn : ∀ e p, x ≠ .UnaryOp .Not e p) (hc : ∀ l o r p, x ≠ .Compare l o r p) (hi : ∀ c u v p, x ≠ .IfExp c u v p) (env : Env) :
    ∀ whole, isTrue x env whole = (do let v ← whole; standAt x.pos; holding [v] (truthy v)) := by
  intro whole
  cases x with
  | BoolOp op l p => exact absurd rfl (ho _ _ _)
  | UnaryOp op e p =>
    cases op with
    | Not => exact absurd rfl (hn _ _)
    | _ => rfl
  | Compare l o r p => exact absurd rfl (hc _ _ _ _)
  | IfExp c u v p => exact absurd rfl (hi _ _ _ _)
  | _ => rfl
end

/-! ### own, calls -/
section
variable {K : PySem.W.Frag} {XR : XRel} {σ : L2.St} {W : WX} {μ μ1 : List Addr} {η η1 : Hep} {H H1 : Hp}
/-- a value gets its cell -/
theorem own_ok {d : D} {v : V} (st : Step μ H μ1 H1) (rp : Rp K μ1 η1 H1) (h : RF K H H1 μ1 d v) : ∃ d' μ2 η2, own d η1 = .ok d' η2 ∧ μ1 <+: μ2 ∧ Step μ H μ2 H1 ∧ Rp K μ2 η2 H1 ∧ RV K H1 μ2 d' v ∧ d'.isTl = false := by
  cases d with
  | tl xs =>
    obtain ⟨h1, h2⟩ := h
    simp only [RV] at h1
    obtain ⟨a, vs, rfl, h3, h4, h5⟩ := h1
    refine ⟨.ref η1.length, μ1 ++ [a], η1 ++ [.lst xs], rfl, ⟨[a], rfl⟩, ⟨st.pre.trans ⟨[a], rfl⟩, st.fr, fun b hb hn => ?_⟩, rp.own h3 h4 h5, ?_, rfl⟩
    · rcases List.mem_append.mp hb with hb | hb
      · exact st.new b hb hn
      · simp at hb; subst hb; exact h2
    · simp only [RV]
      exact ⟨a, rfl, by rw [← rp.len]; exact List.getElem?_concat_length⟩
  | _ => exact ⟨_, μ1, η1, rfl, List.prefix_refl _, st, rp, h.1, rfl⟩
theorem Pg.own {α β : Type} {Rel0 : Hp → Hp → List Addr → α → β → Prop} {r : R D} {k : D → Hep → R α} {Q : β → Hp → Prop} {Q' : VK} (h : Pg K XR Rel0 σ W μ H (r.bind fun x η1 => (own x η1).bind k) Q)
    (f : ∀ d' v μ2 η2 H1, Step μ H μ2 H1 → Rp K μ2 η2 H1 → RV K H1 μ2 d' v → d'.isTl = false → Pg K XR Rel0 σ W μ H (k d' η2) Q → Q' v H1) : Pg K XR (RF K) σ W μ H r Q' := by
  refine h.bind0 fun x η1 v μ1 H1 e st rp rf pg => ?_
  obtain ⟨d', μ2, η2, e2, _, st2, rp2, rv2, nt⟩ := own_ok st rp rf
  rw [e2] at pg
  exact f d' v μ2 η2 H1 st2 rp2 rv2 nt pg
theorem ob_blw {n : Nat} {c : Ob} (h : c.blw n = true) : ∃ xs, c = .lst xs ∧ D.blws n xs = true := by
  cases c with
  | lst xs => exact ⟨xs, rfl, h⟩
theorem okCells_get {n : Nat} : ∀ {η' η : Hep} {i : Nat} {c : Ob}, okCells n η' η = true → η[i]? = some c → ∃ c', η'[i]? = some c' ∧ (c' = c ∨ c'.blw n = true)
  | _, [], _, _, _, e => by simp at e
  | [], _ :: _, _, _, h, _ => by simp [okCells] at h
  | a' :: r', a :: r, i, c, h, e => by
    simp only [okCells, Bool.and_eq_true, Bool.or_eq_true, decide_eq_true_eq] at h
    cases i with
    | zero => simp at e; subst e; exact ⟨a', rfl, h.1⟩
    | succ i => simpa using okCells_get h.2 (by simpa using e)
theorem okCells_len {n : Nat} : ∀ {η' η : Hep}, okCells n η' η = true → η.length ≤ η'.length
  | _, [], _ => by simp
  | [], _ :: _, h => by simp [okCells] at h
  | a' :: r', a :: r, h => by
    simp only [okCells, Bool.and_eq_true] at h
    have := okCells_len h.2
    simp; omega
/-- the cells that were there, alone -/
theorem Rp.shrink {μ' : List Addr} {η' : Hep} {H' : Hp} (rp0 : Rp K μ η H) (p : μ <+: μ') (rp : Rp K μ' η' H') (ok : okCells η.length η' η = true) : Rp K μ (η'.take η.length) H' := by
  have hl := okCells_len ok
  refine ⟨by rw [List.length_take, rp0.len]; omega, rp0.nd, fun n a xs e1 e2 => ?_⟩
  have hn : n < η.length := by rw [← rp0.len]; exact (List.getElem?_eq_some_iff.mp e1).1
  rw [List.getElem?_take_of_lt hn] at e2
  obtain ⟨t, rfl⟩ := p
  have e1' : (μ ++ t)[n]? = some a := by rw [List.getElem?_append_left (by rw [rp0.len]; exact hn)]; exact e1
  obtain ⟨vs, h1, h2⟩ := rp.cell n a xs e1' e2
  refine ⟨vs, h1, RVs.shrink ⟨t, rfl⟩ xs vs ?_ h2⟩
  obtain ⟨c', q1, q2⟩ := okCells_get ok (List.getElem?_eq_getElem hn)
  rw [e2] at q1; cases q1
  rw [rp0.len]
  rcases q2 with q2 | q2
  · obtain ⟨ws, h3, h4⟩ := rp0.cell n a xs e1 (by rw [List.getElem?_eq_getElem hn, ← q2])
    have := RVs.blws xs ws h4
    rw [rp0.len] at this; exact this
  · exact q2
/-- behind a call -/
theorem Pg.fin {r : R D} {Q : VK} (rp0 : Rp K μ η H) (st : Step μ H μ1 H1) (flat : ∀ c xs cls dd H', XR c xs cls dd H' → True) (h : Pg K XR (RF K) σ W μ H (fin η r) Q) : Pg K XR (RF K) σ W μ1 H1 r Q := by
  cases r with
  | ok v η' =>
    intro v' μ' H' st' rp' rf'
    have stt := st.trans st'
    have keep : Pg K XR (RF K) σ W μ H (.ok v η') Q → Q v' H' := fun pg => pg v' μ' H' stt rp' ⟨rf'.1, by
      have h2 := rf'.2
      unfold Fresh at h2 ⊢
      split
      · rename_i a
        simp only at h2
        cases q : H a with
        | none => rfl
        | some o =>
          by_cases m : a ∈ μ
          · obtain ⟨vs, e⟩ := rp'.mem (stt.pre.subset m)
            have hv := rf'.1
            simp only [RV] at hv
            obtain ⟨b, ws, eb, e1, e2, _⟩ := hv
            cases eb
            exact absurd (stt.pre.subset m) e2
          · by_cases m1 : a ∈ μ1
            · have hv := rf'.1
              simp only [RV] at hv
              obtain ⟨b, ws, eb, e1, e2, _⟩ := hv
              cases eb
              exact absurd (st'.pre.subset m1) e2
            · have := st.fr _ _ q m
              rw [this] at h2; cases h2
      · trivial⟩
    have drop : okCells η.length η' η = true → Step μ H μ H' ∧ Rp K μ (η'.take η.length) H' := fun ok => ⟨⟨List.prefix_refl _, stt.fr, fun _ m n => absurd m n⟩, rp0.shrink stt.pre rp' ok⟩
    unfold Ev.fin at h
    simp only at h
    split at h
    · rename_i ok
      obtain ⟨s2, rp2⟩ := drop ok
      split at h
      · rename_i hb
        refine h v' μ H' s2 rp2 ⟨RV.shrink stt.pre _ _ (by rw [rp0.len]; exact hb) rf'.1, ?_⟩
        exact (show Fresh H v v' from by
          have h2 := rf'.2
          unfold Fresh at h2 ⊢
          split
          · rename_i a
            simp only at h2
            cases q : H a with
            | none => rfl
            | some o =>
              have hv := rf'.1
              simp only [RV] at hv
              obtain ⟨b, ws, eb, e1, e2, _⟩ := hv
              cases eb
              by_cases m : a ∈ μ
              · exact absurd (stt.pre.subset m) e2
              · by_cases m1 : a ∈ μ1
                · exact absurd (st'.pre.subset m1) e2
                · have := st.fr _ _ q m
                  rw [this] at h2; cases h2
          · trivial)
      · rename_i hb
        split at h
        · rename_i m
          split at h
          · rename_i xs hx
            split at h
            · rename_i hbx
              have hv := rf'.1
              simp only [RV] at hv
              obtain ⟨a, rfl, ha⟩ := hv
              obtain ⟨vs, q1, q2⟩ := rp'.cell m a xs ha hx
              have hm : ¬ m < η.length := by simpa [D.blw] using hb
              have nm : a ∉ μ := fun z => by
                obtain ⟨n, hn, e⟩ := List.getElem_of_mem z
                obtain ⟨t, et⟩ := stt.pre
                have e' : μ'[n]? = some a := by rw [← et, List.getElem?_append_left hn, List.getElem?_eq_getElem hn, e]
                have := nd_ix rp'.nd e' ha
                rw [rp0.len] at hn
                omega
              refine h (.ref a) μ H' s2 rp2 ⟨?_, ?_⟩
              · simp only [RV]
                exact ⟨a, vs, rfl, q1, nm, RVs.shrink stt.pre _ _ (by rw [rp0.len]; exact hbx) q2⟩
              · exact stt.new a (List.mem_of_getElem? ha) nm
            · exact keep h
          · exact keep h
        · exact keep h
    · exact keep h
  | exc c xs η' =>
    intro cls dd μ' H' st' rp' xr
    unfold Ev.fin at h
    simp only at h
    split at h
    · rename_i ok
      simp only [Bool.and_eq_true] at ok
      exact h cls dd μ H' ⟨List.prefix_refl _, (st.trans st').fr, fun _ m n => absurd m n⟩ (rp0.shrink (st.trans st').pre rp' ok.1) xr
    · exact h cls dd μ' H' (st.trans st') rp' xr
  | bad => exact h
end
end Ev

set_option Elab.async false
set_option linter.all false
set_option maxRecDepth 100000
/-! # Part B: soundness of a list comprehension's loop -/
namespace Ev
open PySem
open PySem.Spec
open PyProof.Rows
open L2
section
variable {K : PySem.W.Frag} {μ : List Addr} {η : Hep} {H : Hp} {a : Addr} {us ws : List V}
mutual
/-- a list of nobody's is written -/
theorem RV.ul (h : H a = some (.lst us)) : ∀ (d : D) (v : V), d.isTl = false → RV K H μ d v → RV K (upd H a (.lst ws)) μ d v
  | .non, v, _, q => by simpa [RV] using q
  | .bl _, v, _, q => by simpa [RV] using q
  | .int _, v, _, q => by simpa [RV] using q
  | .str _, v, _, q => by simpa [RV] using q
  | .ref n, v, _, q => by simpa [RV] using q
  | .tl _, _, t, _ => by cases t
  | .tup xs, v, _, q => by
    simp only [RV] at q ⊢
    obtain ⟨b, vs, e, h1, h2⟩ := q
    refine ⟨b, vs, e, ?_, RVs.ul h xs vs h2⟩
    rcases h1 with (h1 | ⟨o, h1⟩) | h1
    · exact .inl (.inl (by rw [upd_ne (ne_of h1 h (by simp))]; exact h1))
    · exact .inl (.inr ⟨o, by rw [upd_ne (ne_of h1 h (by simp))]; exact h1⟩)
    · exact .inr h1
  | .fl xs, v, _, q => by
    simp only [RV] at q ⊢
    obtain ⟨b, vs, e, h1, h2⟩ := q
    refine ⟨b, vs, e, ?_, RVs.ul h xs vs h2⟩
    rcases h1 with ⟨o, h1⟩ | h1
    · exact .inl ⟨o, by rw [upd_ne (ne_of h1 h (by simp))]; exact h1⟩
    · exact .inr h1
theorem RVs.ul (h : H a = some (.lst us)) : ∀ (ds : List D) (vs : List V), RVs K H μ ds vs → RVs K (upd H a (.lst ws)) μ ds vs
  | [], vs, q => by simpa [RVs] using q
  | x :: xs, vs, q => by
    simp only [RVs] at q ⊢
    obtain ⟨v, r, e, h1, h2, h3⟩ := q
    exact ⟨v, r, e, RV.ul h x v h2 h1, h2, RVs.ul h xs r h3⟩
end
theorem Rp.ul (r : Rp K μ η H) (h : H a = some (.lst us)) (n : a ∉ μ) : Rp K μ η (upd H a (.lst ws)) where
  len := r.len
  nd := r.nd
  cell := fun m b xs e1 e2 => by
    obtain ⟨vs, h1, h2⟩ := r.cell m b xs e1 e2
    have hne : b ≠ a := fun q => n (by rw [← q]; exact List.mem_of_getElem? e1)
    exact ⟨vs, by rw [upd_ne hne]; exact h1, RVs.ul h _ _ h2⟩
mutual
theorem bindT_len : ∀ {t : T} {d : D} {η : Hep} {ρ ρ' : Lo}, bindT t d η ρ = some ρ' → ρ'.length = ρ.length
  | .nm i, d, η, ρ, ρ', h => by simp only [bindT, Option.some.injEq] at h; subst h; simp
  | .tp ts, d, η, ρ, ρ', h => by
    cases d <;> simp only [bindT, reduceCtorEq] at h
    exact bindTs_len2 h
  | .lp ts, d, η, ρ, ρ', h => by
    simp only [bindT] at h
    split at h
    · exact bindTs_len2 h
    · cases h
theorem bindTs_len2 : ∀ {ts : List T} {ds : List D} {η : Hep} {ρ ρ' : Lo}, bindTs ts ds η ρ = some ρ' → ρ'.length = ρ.length
  | [], [], _, ρ, ρ', h => by simp only [bindTs, Option.some.injEq] at h; subst h; rfl
  | [], _ :: _, _, _, _, h => by simp [bindTs] at h
  | _ :: _, [], _, _, _, h => by simp [bindTs] at h
  | t :: ts, x :: xs, η, ρ, ρ', h => by
    simp only [bindTs] at h
    split at h
    · rename_i ρ1 e
      rw [bindTs_len2 h, bindT_len e]
    · cases h
end
end
section
variable {K : PySem.W.Frag} {XR : XRel} {C : Nat → List D → Hep → R D} {σ : L2.St} {W : WX} {μ μ1 : List Addr} {η η1 : Hep} {H H1 : Hp}
def W0 : WX := fun _ _ _ _ => False
theorem compL_sound {elt : E} {cd : OE} {t : T} {vs : List Nat} {xs : List D} {w : List (Nat × List D)} {ρ : Lo} {J : It} {Q : VK}
    (rl : RL K H μ ρ σ) (rp : Rp K μ η H) (it : ItOk K J xs w μ H) (wk : watchOk η w = true) (sl : ∀ i, i ∈ T.slots t → i ∈ vs)
    (pg : Pg K XR (RF K) σ W μ H ((compL (fun ρ η => ev C elt ρ η) (fun ρ η => evc C cd ρ η) t w (Ev.wipe ρ vs) xs η []).bind fun ys η2 => .ok (.tl ys) η2) Q) :
    ∀ Dd, H Dd = none → ∃ Wi : Nat → Nat → Hp → Prop, (∃ m, Wi 0 m (upd H Dd (.lst []))) ∧ ∀ i m H, Wi i m H →
      (J.stop i H ∧ Q (.ref Dd) H) ∨ (J.go i H ∧ ∃ Nx : Hp → Prop, (∀ H', Nx H' → ∃ m', m' < m ∧ Wi (i + 1) m' H') ∧ ∀ x H', J.yld i H x H' → gT K t x (L2.wipe σ vs) H' fun σ2 H2 => L2.wipe σ2 vs = L2.wipe σ vs ∧ tCd K XR C W0 cd σ2 H2 fun b H3 =>
        if b = true then tE K XR C W0 elt σ2 H3 fun y H4 => ∃ acc, H4 Dd = some (.lst acc) ∧ acc.length < sizeLine ∧ Nx (upd H4 Dd (.lst (acc ++ [y]))) else Nx H3) := by
  intro Dd nD
  have nDμ : Dd ∉ μ := rp.fresh nD
  -- the invariant: the rest of the loop, from here, does what is wanted
  let Inv : Nat → Hp → Prop := fun i G => i ≤ xs.length ∧ ∃ μ' η' acc accV, Step μ H μ' G ∧ Rp K μ' η' G ∧ watchOk η' w = true ∧ Dd ∉ μ' ∧ G Dd = some (.lst accV) ∧ RVs K G μ' acc accV ∧
    Pg K XR (RF K) σ W μ H ((compL (fun ρ η => ev C elt ρ η) (fun ρ η => evc C cd ρ η) t w (Ev.wipe ρ vs) (xs.drop i) η' acc).bind fun ys η2 => .ok (.tl ys) η2) Q
  refine ⟨fun i m G => m = xs.length - i ∧ Inv i G, ⟨xs.length, rfl, Nat.zero_le _, μ, η, [], [], Step.upd_new nD, rp.upd_new nD, wk, nDμ, upd_same, rfl, by simpa using pg⟩, ?_⟩
  rintro i m G ⟨rfl, hi, μ', η', acc, accV, st, rp', wk', nD', eD, rv, pg'⟩
  obtain ⟨stop, step⟩ := it μ' η' G st rp' wk'
  by_cases hlt : i < xs.length
  · have hx : xs[i]? = some xs[i] := List.getElem?_eq_getElem hlt
    obtain ⟨go, yl⟩ := step i _ hx
    rw [List.drop_eq_getElem_cons hlt] at pg'
    refine .inr ⟨go, Inv (i + 1), fun H' hN => ⟨xs.length - (i + 1), by omega, rfl, hN⟩, fun x H' hy => ?_⟩
    obtain ⟨st1, rp1, rvx, ntx⟩ := yl x H' hy
    have eD1 : H' Dd = some (.lst accV) := st1.fr _ _ eD nD'
    have rv1 := RVs.step st1 rp' _ _ rv
    have rlw : RL K H' μ' (Ev.wipe ρ vs) (L2.wipe σ vs) := ((rl.step (st.trans st1) rp)).wipe vs
    simp only [compL] at pg'
    cases hb : bindT t xs[i] η' (Ev.wipe ρ vs) with
    | none => rw [hb] at pg'; exact pg'.elim
    | some ρ2 =>
      rw [hb] at pg'
      simp only at pg'
      refine ⟨μ', Ev.wipe ρ vs, η', xs[i], ρ2, rlw, rp1, rvx, ntx, hb, fun σ2 rl2 fr => ?_⟩
      refine ⟨wipe_same vs ?_ fun j hj => (fr j fun z => hj (sl j z)).trans (L2.wipe_out hj), ?_⟩
      · rw [← rl2.len, bindT_len hb, wipe_len, rl.len]
      have sG := st.trans st1
      refine ⟨μ', ρ2, η', rl2, rp1, ?_⟩
      cases hc : evc C cd ρ2 η' with
      | bad => rw [hc] at pg'; exact pg'.elim
      | exc _ _ _ => rw [hc] at pg'; exact pg'.elim
      | ok dc η2 =>
        rw [hc] at pg'
        intro vc μ2 H2 st2 rp2 rf2
        have sG2 := sG.trans st2
        have eD2 : H2 Dd = some (.lst accV) := st2.fr _ _ eD1 nD'
        have nD2 : Dd ∉ μ2 := fun z => by
          have := st2.new _ z nD'
          rw [eD1] at this; cases this
        have rv2 := RVs.step st2 rp1 _ _ rv1
        cases dc with
        | bl b =>
          have h1 := rf2.1
          simp only [RV] at h1; subst h1
          refine ⟨b, rfl, ?_⟩
          cases b with
          | false =>
            simp only at pg'
            split at pg'
            · rename_i wk2
              exact ⟨hlt, μ2, η2, acc, accV, sG2, rp2, wk2, nD2, eD2, rv2, pg'⟩
            · exact pg'.elim
          | true =>
            simp only at pg'
            have rl3 := rl2.step st2 rp1
            refine ⟨μ2, ρ2, η2, rl3, rp2, ?_⟩
            cases he : ev C elt ρ2 η2 with
            | bad => rw [he] at pg'; exact pg'.elim
            | exc _ _ _ => rw [he] at pg'; exact pg'.elim
            | ok y η3 =>
              rw [he] at pg'
              simp only at pg'
              intro vy μ3 H3 st3 rp3 rf3
              have eD3 : H3 Dd = some (.lst accV) := st3.fr _ _ eD2 nD2
              obtain ⟨y', μ4, η4, e4, p4, st4, rp4, rv4, nt4⟩ := own_ok st3 rp3 rf3
              have nD4 : Dd ∉ μ4 := fun z => by
                have := st4.new _ z nD2
                rw [eD2] at this; cases this
              rw [e4] at pg'
              simp only at pg'
              split at pg'
              · rename_i hw
                simp only [Bool.and_eq_true, decide_eq_true_eq] at hw
                refine ⟨accV, eD3, by rw [← rv2.length]; exact hw.2, hlt, μ4, η4, acc ++ [y'], accV ++ [vy], ?_, rp4.ul eD3 nD4, hw.1, nD4, upd_same, ?_, pg'⟩
                · have s5 := sG2.trans st4
                  exact ⟨s5.pre, fun b o hb nb => by rw [upd_ne (ne_of_none hb nD)]; exact s5.fr b o hb nb, s5.new⟩
                · refine RVs.ul eD3 _ _ (RVs.append ?_ (RVs.one rv4 nt4))
                  exact RVs.step st4 rp2 _ _ rv2
              · exact pg'.elim
        | _ => exact pg'.elim
  · have e : i = xs.length := by omega
    subst e
    refine .inl ⟨stop, ?_⟩
    rw [List.drop_length] at pg'
    simp only [compL, R.bind_ok] at pg'
    refine pg' _ μ' G st rp' ⟨?_, nD⟩
    simp only [RV]
    exact ⟨Dd, accV, rfl, eD, nD', rv⟩
end
end Ev

set_option Elab.async false
set_option linter.all false
set_option maxRecDepth 100000
/-! # Part B: iterators that the layer lacks: enumerate of a tuple, zip of lists and tuples mixed, of three -/
namespace Ev
open PySem
open PySem.Spec
open PyProof.Rows
open L2
set_option maxHeartbeats 1000000 in
theorem enum1_new {v : Value} {o : Obj} {G : Heap → Prop} (B : Begins v o G) : Meets (Builtin.«enumerate.__new__» ⟨[.type "enumerate", v], []⟩) (fun _ R s => G s.heap ∧
      R (.ok (.ret (.ref (s.heap.push o).objs.size))) { s with heap := (s.heap.push o).push { cls := .type "enumerate", data := .fields #[.none, .bool false, .ref s.heap.objs.size, rawInt 0, .none, .none] } }) :=
  .of_wp fun prog w A R s h => by
    obtain ⟨hp, g, dr, tk, os⟩ := s
    obtain ⟨h1, h⟩ := h
    have hsub := sub_enumerate
    have it : ∀ {A' : Around} {E : Value → Shared → Prop} {Q : Value → Shared → Prop}, Q (.ref hp.objs.size) ⟨hp.push o, g, dr, tk, os⟩ → wpAny (model prog w) A' (pyIter v) Q E ⟨hp, g, dr, tk, os⟩ :=
      fun q => B.iter prog w _ _ ⟨hp, g, dr, tk, os⟩ _ h1 q
    wp_walk using it
    refine wpAny_stack_any fun st => wpAny_pure ?_
    split
    · rename_i c _ _ _ _ _
      cases (c == Value.type "enumerate") <;> (wp_walk using it; exact ⟨_, rfl, h⟩)
    · (wp_walk using it; exact ⟨_, rfl, h⟩)
section
variable {prog : Program} {w : World} {A : Around} {E : Value → Shared → Prop} {s : Shared}
theorem enum1_begins {v : Value} {o : Obj} {G : Heap → Prop} {Q : Value → Shared → Prop} (B : Begins v o G) (h1 : G s.heap)
    (h : ∀ h', IsEnum h' (s.heap.objs.size + 1) s.heap.objs.size 0 .none → h'.get? s.heap.objs.size = some o → h'.objs.size = s.heap.objs.size + 2 → (∀ b u, s.heap.get? b = some u → h'.get? b = some u) →
      Q (.ref (s.heap.objs.size + 1)) { s with heap := h' }) : wpAny (model prog w) A (call (.type "enumerate") [v]) Q E s := by
  refine callType_new F.called_enumerate (by decide) (F.typeCall_enumerate_1 _) (F.newCall_enumerate_1 _) (fun obj => F.args_object_init_2 obj _) F.entry_enumerate_new (enum1_new B) ⟨h1, ?_⟩
  have hz : (s.heap.push o).objs.size = s.heap.objs.size + 1 := by rw [Heap.size_push]
  show _ ∧ _
  rw [hz]
  let oe : Obj := { cls := .type "enumerate", data := .fields #[.none, .bool false, .ref s.heap.objs.size, rawInt 0, .none, .none] }
  have he : IsEnum ((s.heap.push o).push oe) (s.heap.objs.size + 1) s.heap.objs.size 0 .none := by
    have := Heap.get?_push_size (s.heap.push o) (o := oe) rfl
    rw [hz] at this; exact this
  exact ⟨⟨_, he, rfl⟩, h _ he (Heap.get?_push_of_some _ (Heap.get?_push_size _ B.free)) (by rw [Heap.size_push, hz]) fun b u x => Heap.get?_push_of_some _ (Heap.get?_push_of_some _ x)⟩
end
/-- enumerate of the tuple at a -/
def IteT (K : PySem.W.Frag) (a : Addr) : It where
  go := fun i H => ∃ (xs : List V) (x : V), SqT K H a xs ∧ xs[i]? = some x
  yld := fun i H v H' => ∃ T x, v = .ref T ∧ H T = none ∧ H' = upd H T (.tup [.int (i : Nat), x]) ∧ ∀ xs, SqT K H a xs → xs[i]? = some x
  stop := fun i H => ∃ xs : List V, SqT K H a xs ∧ xs.length = i
def iEnumA (K : PySem.W.Frag) (ta : TA) : TI := fun σ H R => ta σ H fun vs H1 => ∃ a xs, vs = [.ref a] ∧ ((SqL K H1 a xs ∧ R (Ite K a) H1) ∨ (SqT K H1 a xs ∧ R (IteT K a) H1))
theorem turn_enumT {P : Program} {w : World} {K : PySem.W.Frag} {elts : List Expr} {kk : Nat} {tpos : Pos} (a e it : Addr) :
    Turn P w K (.Tuple elts kk tpos) (IteT K a) [e, it] e (fun i h => (∃ old, IsEnum h e it ((i : Nat) : Int) old) ∧ h.IsTupleIter it a i ∧ e ≠ it ∧ a ≠ it) where
  mem := by simp
  obj := fun i h ⟨⟨old, he⟩, ⟨o, ho, hc, hd⟩, _⟩ b hb => by
    simp only [List.mem_cons, List.not_mem_nil, or_false] at hb
    rcases hb with rfl | rfl
    · exact ⟨_, he, fun v q => nomatch q⟩
    · exact ⟨o, ho, fun v q => by rw [hd] at q; cases q⟩
  keep := fun i h h' ⟨⟨old, he⟩, hi, hne⟩ k => ⟨⟨old, k e (by simp) _ he⟩, hi.at fun o q => k it (by simp) o q, hne⟩
  item := by
    rintro X rfl rfl rfl hc i pins s σ H E I hf ⟨⟨old, he⟩, hit, hne, hai⟩ ⟨xs, x, hq, hx⟩
    obtain ⟨its, rv, p, hz⟩ := I.tuple hq
    obtain ⟨u, hu, ru⟩ := rv.get hx
    have hel : e < s.heap.objs.size := Heap.lt_size he
    have hil : it < s.heap.objs.size := by obtain ⟨_, q, _⟩ := hit; exact Heap.lt_size q
    have hl : i < its.toArray.size := by
      rw [List.size_toArray]
      exact (List.getElem?_eq_some_iff.mp hu).1
    have hea : e ≠ a := fun q => by
      obtain ⟨o, ho, hc', _⟩ := p
      rw [← q] at ho
      have he' : s.heap.get? e = some _ := he
      rw [he'] at ho
      cases ho
      simp at hc'
    refine wpAny_pyNext_enum_itemD (Draws.tuple (A := X.A.in1) (I.ok.hd hc) it a hai its.toArray) he ⟨hit, p⟩ hl hne (by simp [hne, hea]) fun y h' tk hy ho hit' hT hsz hk => ?_
    have ey : y = u := by
      have hy' : its.toArray[i]? = some y := hy
      rw [List.getElem?_toArray, hu] at hy'
      exact (Option.some.inj hy').symm
    subst ey
    refine ⟨_, rfl, wpAny_letOwnedTupleGo_enum (s := { s with heap := h', toks := tk + 1 }) ho fun h'' he' sb => ?_⟩
    have hT2 : h''.get? s.heap.objs.size = some { cls := .type "tuple", data := .seq #[.int i tk, y] } := (sb.2 _ (Nat.ne_of_gt hel)).trans hT
    have new : ObjOk X.prog X.w (upd H s.heap.objs.size (.tup [.int (i : Nat), x])) h'' s.heap.objs.size (.tup [.int (i : Nat), x]) :=
      ⟨by show 2 ≤ sizeLine; decide, [.int i tk, y], .cons ⟨_, rfl⟩ (.cons ru .nil), ⟨_, hT2, rfl, _, rfl⟩⟩
    have I1 : L2.Inv X pins σ (upd H s.heap.objs.size (.tup [.int (i : Nat), x])) { s with heap := h'', toks := tk + 1 } :=
      I.turnedNew (ch := [e, it]) (fun b ob hb q => (sb.2 b (fun z => hb (by simp [z]))).trans (hk b ob (fun z => hb (by simp [z])) (fun z => hb (by simp [z])) q)) hf (Nat.le_refl _) new
    refine ⟨.ref s.heap.objs.size, _, I1, rfl, ⟨_, x, rfl, I.hok.fresh (Nat.le_refl _), rfl, fun ys hy => by rw [I.tuple_inj hy hq]; exact hx⟩, ⟨⟨y, ?_⟩, hit'.1.at fun o q => (sb.2 it (Ne.symm hne)).trans q, hne, hai⟩, fun b hb => ?_⟩
    · rw [show ((i + 1 : Nat) : Int) = (i : Int) + 1 from by omega]
      exact he'
    · have hb' : b < s.heap.objs.size := by
        simp only [List.mem_cons, List.not_mem_nil, or_false] at hb
        rcases hb with rfl | rfl
        · exact hel
        · exact hil
      rw [upd_ne (Nat.ne_of_lt hb')]
      exact (hf b hb).1
  done := by
    rintro X rfl rfl rfl hc i pins s σ H E I hf ⟨⟨old, he⟩, hit, hne, hai⟩ ⟨xs, hq, hx⟩
    obtain ⟨its, rv, p, hz⟩ := I.tuple hq
    obtain ⟨f0, f1, f2, f3, f4, f5⟩ := hf it (by simp)
    have hl : its.toArray.size = i := by
      rw [List.size_toArray, ← rv.length]
      exact hx
    subst hl
    exact wpAny_pyNext_enum_endD (Draws.tuple (A := X.A.in1) (I.ok.hd hc) it a hai its.toArray) he ⟨hit, p⟩ fun h' eb => ⟨rfl, I.turned (t' := s.toks) (fun b o hb q => eb b o hb q) f0 f1 f3 f4 f5⟩
  self := fun A i s Q E ⟨⟨_, he⟩, _⟩ h => wpAny_pyIter_enum he h
theorem pi_enumA {X : Cx} {e : Expr} {ta : TA} {p pos tpos : Pos} {elts : List Expr} {kk : Nat} (hg : Gl X "enumerate") (hm : X.mg "enumerate" = none) (ha : PA X [e] ta) (hs : starEach [e] X.env = [(false, eval e X.env)]) :
    PI X (.Tuple elts kk tpos) (.Call (.Name "enumerate" p) [e] [] pos) (iEnumA X.K ta) := by
  refine ⟨fun pins s σ H R I h => ?_⟩
  refine Call_ (ld_blt I hg hm boot_enumerate (PyProof.Rows.callWith_type1 (thn (ha.run pos pins s σ H _ I h) fun us s1 ⟨vs, H1, I1, r1, a, xs, ex, q1⟩ => ?_) hs rfl))
  subst ex
  obtain ⟨u, rfl, r⟩ := vals1 r1
  obtain rfl : u = Value.ref a := r
  have two : ∀ b, b ∈ [s1.heap.objs.size + 1, s1.heap.objs.size] → FpOk X pins H1 b := fun b hb => by
    have hle : s1.heap.objs.size ≤ b := by
      simp only [List.mem_cons, List.not_mem_nil, or_false] at hb
      rcases hb with rfl | rfl
      · exact Nat.le_add_right _ _
      · exact Nat.le_refl _
    exact I1.fpOk hle (I1.hok.fresh hle)
  rcases q1 with ⟨hq, q⟩ | ⟨hq, q⟩
  · obtain ⟨its, rv, p', hz⟩ := I1.list hq
    refine call_enumerate_list p'.isList fun h' he hit hsz hk => wpAny_pyIter_enum he ?_
    exact ⟨_, _, _, _, H1, rfl, I1.kept (t' := s1.toks) hk, turn_enum a (s1.heap.objs.size + 1) s1.heap.objs.size, ⟨⟨.none, he⟩, hit, Nat.succ_ne_self _⟩, two, q⟩
  · obtain ⟨its, rv, p', hz⟩ := I1.tuple hq
    have hlt : a < s1.heap.objs.size := p'.lt
    refine enum1_begins (begins_tuple a its.toArray) p' fun h' he hit hsz hk => wpAny_pyIter_enum he ?_
    exact ⟨_, _, _, _, H1, rfl, I1.kept (t' := s1.toks) hk, turn_enumT a (s1.heap.objs.size + 1) s1.heap.objs.size, ⟨⟨.none, he⟩, ⟨_, hit, rfl, rfl⟩, Nat.succ_ne_self _, Nat.ne_of_lt hlt⟩, two, q⟩
end Ev

set_option Elab.async false
set_option linter.all false
set_option maxRecDepth 100000
/-! # Part B: zip of lists and tuples, mixed -/
namespace Ev
open PySem
open PySem.Spec
open PyProof.Rows
open L2
/-- a list (b) or a tuple -/
def Sq (K : PySem.W.Frag) (b : Bool) (H : Hp) (a : Addr) (xs : List V) : Prop := if b = true then SqL K H a xs else SqT K H a xs
def ISq (b : Bool) (h : Heap) (it a : Addr) (i : Nat) : Prop := if b = true then h.IsListIter it a i else h.IsTupleIter it a i
def OSq (b : Bool) (h : Heap) (a : Addr) (its : Array Value) : Prop := if b = true then h.IsList a its else h.IsTuple a its
section
variable {X : Cx} {pins : List (Addr × Obj)} {σ : L2.St} {H : Hp} {s : Shared} {a it : Addr} {xs ys : List V} {i : Nat} {h h' : Heap}
theorem ISq.at {b : Bool} (x : ISq b h it a i) (k : ∀ o, h.get? it = some o → h'.get? it = some o) : ISq b h' it a i := by
  cases b with
  | true => exact Heap.IsListIter.at (show h.IsListIter it a i from x) k
  | false => exact Heap.IsTupleIter.at (show h.IsTupleIter it a i from x) k
theorem ISq.get {b : Bool} (x : ISq b h it a i) : ∃ o, h.get? it = some o ∧ ∀ v, o.data ≠ .cell v := by
  cases b with
  | true =>
    obtain ⟨o, e, _, d⟩ := (show h.IsListIter it a i from x)
    exact ⟨o, e, fun v q => by rw [d] at q; cases q⟩
  | false =>
    obtain ⟨o, e, _, d⟩ := (show h.IsTupleIter it a i from x)
    exact ⟨o, e, fun v q => by rw [d] at q; cases q⟩
theorem Sq.inj {b : Bool} (I : L2.Inv X pins σ H s) (x : Sq X.K b H a xs) (y : Sq X.K b H a ys) : xs = ys := by
  cases b with
  | true => exact I.list_inj (show SqL X.K H a xs from x) (show SqL X.K H a ys from y)
  | false => exact I.tuple_inj (show SqT X.K H a xs from x) (show SqT X.K H a ys from y)
theorem Sq.draws {b : Bool} (I : L2.Inv X pins σ H s) (hc : X.calm = true) (x : Sq X.K b H a xs) (ne : a ≠ it) : ∃ its : List Value, Vals xs its ∧ OSq b s.heap a its.toArray ∧ xs.length ≤ sizeLine ∧
    Draws X.prog X.w X.A.in1 it [it, a] its.toArray.size (fun i v => its.toArray[i]? = some v) (fun i h => ISq b h it a i ∧ OSq b h a its.toArray) := by
  cases b with
  | true =>
    obtain ⟨its, rv, p, hz⟩ := I.list (show SqL X.K H a xs from x)
    exact ⟨its, rv, p.isList, hz, Draws.list (A := X.A.in1) (I.ok.hd hc) it a ne its.toArray⟩
  | false =>
    obtain ⟨its, rv, p, hz⟩ := I.tuple (show SqT X.K H a xs from x)
    exact ⟨its, rv, p, hz, Draws.tuple (A := X.A.in1) (I.ok.hd hc) it a ne its.toArray⟩
theorem Sq.begins {b : Bool} (its : Array Value) : ∃ o, Begins (.ref a) o (fun h => OSq b h a its) ∧ ∀ (h : Heap) (it : Addr), h.get? it = some o → ISq b h it a 0 := by
  cases b with
  | true => exact ⟨_, begins_list a its, fun h it e => ⟨_, e, rfl, rfl⟩⟩
  | false => exact ⟨_, begins_tuple a its, fun h it e => ⟨_, e, rfl, rfl⟩⟩
theorem OSq.lt {b : Bool} {its : Array Value} (x : OSq b h a its) : a < h.objs.size := by
  cases b with
  | true =>
    obtain ⟨o, e, _⟩ := (show h.IsList a its from x)
    exact Heap.lt_size e
  | false =>
    obtain ⟨o, e, _⟩ := (show h.IsTuple a its from x)
    exact Heap.lt_size e
end
/-- the sequences at a and b -/
def ItzM (K : PySem.W.Frag) (p q : Bool) (a b : Addr) : It where
  go := fun i H => ∃ (xs ys : List V) (x y : V), Sq K p H a xs ∧ Sq K q H b ys ∧ xs[i]? = some x ∧ ys[i]? = some y
  yld := fun i H v H' => ∃ T x y, v = .ref T ∧ H T = none ∧ H' = upd H T (.tup [x, y]) ∧ (∀ xs, Sq K p H a xs → xs[i]? = some x) ∧ ∀ ys, Sq K q H b ys → ys[i]? = some y
  stop := fun i H => ∃ xs ys : List V, Sq K p H a xs ∧ Sq K q H b ys ∧ i ≤ xs.length ∧ i ≤ ys.length ∧ (i = xs.length ∨ i = ys.length)
theorem turn_zipM {P : Program} {w : World} {K : PySem.W.Frag} {elts : List Expr} {kk : Nat} {tpos : Pos} {p q : Bool} {a b z TI TO i1 i2 : Addr} (S : ZipSep2 z TI TO i1 i2 [i1, a] [i2, b]) (nai : a ≠ i1) (nbi : b ≠ i2) :
    Turn P w K (.Tuple elts kk tpos) (ItzM K p q a b) [z, TI, TO, i1, i2] z (fun i h => IsZip h z TI TO .none ∧ IsTupOf2 h TI (.ref i1) (.ref i2) ∧ (∃ x y, IsTupOf2 h TO x y) ∧ ISq p h i1 a i ∧ ISq q h i2 b i) where
  mem := by simp
  obj := fun i h ⟨hz, hTI, ⟨x, y, hTO⟩, h1, h2⟩ c hc => by
    simp only [List.mem_cons, List.not_mem_nil, or_false] at hc
    rcases hc with rfl | rfl | rfl | rfl | rfl
    · exact ⟨_, hz, fun v q => nomatch q⟩
    · exact ⟨_, hTI, fun v q => nomatch q⟩
    · exact ⟨_, hTO, fun v q => nomatch q⟩
    · exact h1.get
    · exact h2.get
  keep := fun i h h' ⟨hz, hTI, ⟨x, y, hTO⟩, h1, h2⟩ k =>
    ⟨k z (by simp) _ hz, k TI (by simp) _ hTI, ⟨x, y, k TO (by simp) _ hTO⟩, h1.at fun o q => k i1 (by simp) o q, h2.at fun o q => k i2 (by simp) o q⟩
  item := by
    rintro X rfl rfl rfl hc i pins s σ H E I hf ⟨hz, hTI, ⟨x0, y0, hTO⟩, h1, h2⟩ ⟨xs, ys, x, y, hqx, hqy, hx, hy⟩
    obtain ⟨its, rv, o1, _, D1⟩ := hqx.draws (it := i1) I hc nai
    obtain ⟨its2, rv2, o2, _, D2⟩ := hqy.draws (it := i2) I hc nbi
    obtain ⟨u, hu, ru⟩ := rv.get hx
    obtain ⟨u2, hu2, ru2⟩ := rv2.get hy
    have hzl : z < s.heap.objs.size := Heap.lt_size hz
    have l1 : i < its.toArray.size := by rw [List.size_toArray]; exact (List.getElem?_eq_some_iff.mp hu).1
    have l2 : i < its2.toArray.size := by rw [List.size_toArray]; exact (List.getElem?_eq_some_iff.mp hu2).1
    refine wpAny_pyNext_zipD2_item S D1 D2 hz hTI hTO ⟨h1, o1⟩ ⟨h2, o2⟩ l1 l2 fun y1 y2 h' tk e1 e2 z' TO' s1' s2' hT hsz hk => ?_
    rw [List.getElem?_toArray, hu] at e1
    rw [List.getElem?_toArray, hu2] at e2
    cases e1; cases e2
    refine ⟨_, rfl, wpAny_letOwnedTupleGo_zip (s := { s with heap := h', toks := tk }) z' fun h'' z'' sb => ?_⟩
    have hT2 : h''.get? s.heap.objs.size = some { cls := .type "tuple", data := .seq #[u, u2] } := (sb.2 _ (Nat.ne_of_gt hzl)).trans hT
    have new : ObjOk X.prog X.w (upd H s.heap.objs.size (.tup [x, y])) h'' s.heap.objs.size (.tup [x, y]) :=
      ⟨by show 2 ≤ sizeLine; decide, [u, u2], .cons ru (.cons ru2 .nil), ⟨_, hT2, rfl, _, rfl⟩⟩
    have I1 : L2.Inv X pins σ (upd H s.heap.objs.size (.tup [x, y])) { s with heap := h'', toks := tk } :=
      I.turnedNew (t' := tk) (ch := [z, TI, TO, i1, i2]) (fun c o hb q => (sb.2 c (fun q' => hb (by simp [q']))).trans (hk c o (fun q' => hb (by simp [q'])) (fun q' => hb (by simp [q'])) (fun q' => hb (by simp [q'])) (fun q' => hb (by simp [q'])) q)) hf (Nat.le_refl _) new
    refine ⟨.ref s.heap.objs.size, _, I1, rfl, ⟨_, x, y, rfl, I.hok.fresh (Nat.le_refl _), rfl, fun l hl => by rw [hl.inj I hqx]; exact hx, fun l hl => by rw [hl.inj I hqy]; exact hy⟩, ⟨z'', ?_, ⟨u, u2, ?_⟩, ?_, ?_⟩, fun c hcm => ?_⟩
    · exact (sb.2 _ S.TIz).trans (hk _ _ S.TIz S.TITO S.TIi1 S.TIi2 hTI)
    · exact (sb.2 _ S.TOz).trans TO'
    · exact s1'.1.at fun o q => (sb.2 _ (Ne.symm S.zi1)).trans q
    · exact s2'.1.at fun o q => (sb.2 _ (Ne.symm S.zi2)).trans q
    · have hlt : c < s.heap.objs.size := by
        simp only [List.mem_cons, List.not_mem_nil, or_false] at hcm
        rcases hcm with rfl | rfl | rfl | rfl | rfl
        · exact hzl
        · exact Heap.lt_size hTI
        · exact Heap.lt_size hTO
        · obtain ⟨_, e1, _⟩ := h1.get; exact Heap.lt_size e1
        · obtain ⟨_, e2, _⟩ := h2.get; exact Heap.lt_size e2
      rw [upd_ne (Nat.ne_of_lt hlt)]
      exact (hf c hcm).1
  done := by
    rintro X rfl rfl rfl hc i pins s σ H E I hf ⟨hz, hTI, ⟨x0, y0, hTO⟩, h1, h2⟩ ⟨xs, ys, hqx, hqy, g1, g2, g3⟩
    obtain ⟨its, rv, o1, _, D1⟩ := hqx.draws (it := i1) I hc nai
    obtain ⟨its2, rv2, o2, _, D2⟩ := hqy.draws (it := i2) I hc nbi
    have l1 := rv.length
    have l2 := rv2.length
    refine wpAny_pyNext_zipD2_end S D1 D2 hz hTI hTO ⟨h1, o1⟩ ⟨h2, o2⟩ (by rw [List.size_toArray]; omega) (by rw [List.size_toArray]; omega) (by rw [List.size_toArray, List.size_toArray]; omega) fun h' tk hk => ?_
    refine ⟨rfl, I.turnedL (t' := tk) (ch := [z, TI, TO, i1, i2]) (fun c o hb q => hk c o (fun q' => hb (by simp [q'])) (fun q' => hb (by simp [q'])) (fun q' => hb (by simp [q'])) (fun q' => hb (by simp [q'])) q) hf⟩
  self := fun A i s Q E ⟨hz, _⟩ h => wpAny_pyIter_zip hz h
def iZipM (K : PySem.W.Frag) (ta : TA) : TI := fun σ H R => ta σ H fun vs H1 => ∃ p q a b xs ys, vs = [.ref a, .ref b] ∧ Sq K p H1 a xs ∧ Sq K q H1 b ys ∧ R (ItzM K p q a b) H1
theorem pi_zipM {X : Cx} {e e2 : Expr} {ta : TA} {p pos tpos : Pos} {elts : List Expr} {kk : Nat} (hc : X.calm = true) (hg : Gl X "zip") (hm : X.mg "zip" = none) (ha : PA X [e, e2] ta)
    (hs : starEach [e, e2] X.env = (false, eval e X.env) :: starEach [e2] X.env) (hpl : (backTo pos (starEach [e2] X.env)).any (·.1) = false) : PI X (.Tuple elts kk tpos) (.Call (.Name "zip" p) [e, e2] [] pos) (iZipM X.K ta) := by
  refine ⟨fun pins s σ H R I h => ?_⟩
  refine Call_ (ld_blt I hg hm PyProof.Rows.boot_zip (PyProof.Rows.callWith_type1 (thn (ha.run pos pins s σ H _ I h) fun us s1 ⟨vs, H1, I1, r1, q1⟩ => ?_) hs hpl))
  obtain ⟨kp, kq, a, b, xs, ys, ex, hx, hy, q⟩ := q1
  subst ex
  obtain ⟨u, u', rfl, r, r'⟩ := vals2 r1
  obtain rfl : u = Value.ref a := r
  obtain rfl : u' = Value.ref b := r'
  have five : ∀ c, c ∈ [s1.heap.objs.size + 4, s1.heap.objs.size + 2, s1.heap.objs.size + 3, s1.heap.objs.size, s1.heap.objs.size + 1] → FpOk X pins H1 c := fun c hcm => by
    have hle : s1.heap.objs.size ≤ c := by
      simp only [List.mem_cons, List.not_mem_nil, or_false] at hcm
      rcases hcm with rfl | rfl | rfl | rfl | rfl <;> first | exact Nat.le_refl _ | exact Nat.le_add_right _ _
    exact I1.fpOk hle (I1.hok.fresh hle)
  obtain ⟨its, rv, o1, _, _⟩ := hx.draws (it := a + 1) I1 hc (Nat.ne_of_lt (Nat.lt_succ_self _))
  obtain ⟨its2, rv2, o2, _, _⟩ := hy.draws (it := b + 1) I1 hc (Nat.ne_of_lt (Nat.lt_succ_self _))
  obtain ⟨ob1, B1, k1⟩ := Sq.begins (b := kp) (a := a) its.toArray
  obtain ⟨ob2, B2, k2⟩ := Sq.begins (b := kq) (a := b) its2.toArray
  have la := o1.lt
  have lb := o2.lt
  refine zip_begins2 B1 B2 o1 o2 fun h' hz hTI hTO g1 g2 hsz hk => wpAny_pyIter_zip hz ?_
  exact ⟨_, _, _, _, H1, rfl, I1.kept (t' := s1.toks) hk, turn_zipM (zip_sep2 (by simpa using la) (by simpa using lb)) (Nat.ne_of_lt la) (Nat.ne_of_lt (Nat.lt_succ_of_lt lb)), ⟨hz, hTI, ⟨_, _, hTO⟩, k1 _ _ g1, k2 _ _ g2⟩, five, q⟩
end Ev

set_option Elab.async false
set_option linter.all false
set_option maxRecDepth 100000
/-! # Part B: soundness of expressions, all of them -/
namespace Ev
open PySem
open PySem.Spec
open PyProof.Rows
open L2
section
variable {P : Tab} {k : Nat} {C : Nat → List D → Hep → R D}
/-- what is shown of an expression -/
structure SnE (P : Tab) (C : Nat → List D → Hep → R D) (X : Cx) (W : WX) (e : E) (x : Expr) : Prop where
  pe : PE X x (tE X.K (XRof X.mg P) C W e)
  pt : tOk e = true → PT X x (tB (tE X.K (XRof X.mg P) C W e))
  pw : tOk e = true → ∀ op l p, x = .BoolOp op l p → PW X x (tB (tE X.K (XRof X.mg P) C W e))
theorem SnE.of {X : Cx} {W : WX} {e : E} {x : Expr} (pe : PE X x (tE X.K (XRof X.mg P) C W e)) (ho : ∀ op l p, x ≠ .BoolOp op l p)
    (he : ∀ whole, isTrue x X.env whole = (do let v ← whole; standAt x.pos; holding [v] (truthy v))) : SnE P C X W e x :=
  ⟨pe, fun _ => pt_val pe he, fun _ op l p h => absurd h (ho op l p)⟩
variable {calm : Bool} {sc : Scope} {W : WX} {X : Cx}
theorem sn_lit {d : D} {x : Expr} (h : ckE X.N P calm sc (.lit d) x = true) : SnE P C X W (.lit d) x := by
  unfold ckE at h
  split at h
  · rename_i c j p
    have key : ∀ v, RV X.K (fun _ => none) [] d v → d.isTl = false → (∀ K H μ, RV K H μ d v) → PE X (.Constant c j p) (tC v) → SnE P C X W (.lit d) (.Constant c j p) := fun v _ nt hv pe =>
      .of (pe.imp fun σ H Q ⟨μ, ρ, η, rl, rp, pg⟩ => pg.ok_now rp ⟨hv _ _ _, .of nt⟩) (fun _ _ _ q => nomatch q) fun _ => rfl
    cases d <;> cases c <;> simp [litIs] at h
    · exact key _ (by simp [RV]) rfl (fun _ _ _ => by simp [RV]) pe_non
    · subst h; exact key _ (by simp [RV]) rfl (fun _ _ _ => by simp [RV]) pe_bl
    · subst h; exact key _ (by simp [RV]) rfl (fun _ _ _ => by simp [RV]) pe_int
    · subst h; exact key _ (by simp [RV]) rfl (fun _ _ _ => by simp [RV]) pe_str
  · cases h
theorem sn_var {i : Nat} {x : Expr} (G : Gd P k C calm sc W X) (h : ckE X.N P calm sc (.var i) x = true) : SnE P C X W (.var i) x := by
  unfold ckE at h
  split at h
  · rename_i n p
    simp only [Bool.and_eq_true, decide_eq_true_eq] at h
    obtain ⟨o1, o2, _⟩ := okN_spec h.2
    refine .of ((pe_var (i := i) h.1.1 (by rw [G.sc]; exact isV_vis h.1.2) o1 o2).imp fun σ H Q ⟨μ, ρ, η, rl, rp, pg⟩ => ?_) (fun _ _ _ q => nomatch q) fun _ => rfl
    simp only [ev] at pg
    split at pg
    · rename_i d hd
      obtain ⟨nt, v, h1, h2⟩ := rl.val i d hd
      exact ⟨v, h1, pg.ok_now rp ⟨h2, .of nt⟩⟩
    · exact pg.elim
  · cases h
theorem sn_glb {g : Str} {d : D} {x : Expr} (G : Gd P k C calm sc W X) (h : ckE X.N P calm sc (.glb g d) x = true) : SnE P C X W (.glb g d) x := by
  unfold ckE at h
  split at h
  · rename_i n p
    simp only [Bool.and_eq_true, decide_eq_true_eq] at h
    obtain ⟨⟨⟨e1, e2⟩, e3⟩, e4⟩ := h
    subst e1
    obtain ⟨o1, o2, _⟩ := okN_spec e3
    obtain ⟨v, u, m, r, nt, rv⟩ := G.glb _ _ e4
    refine .of ((pe_glob (isG_gl G.sc e2) m r o1).imp fun σ H Q ⟨μ, ρ, η, rl, rp, pg⟩ => ?_) (fun _ _ _ q => nomatch q) fun _ => rfl
    simp only [ev] at pg
    exact pg.ok_now rp ⟨rv _ _, .of nt⟩
  · cases h
/-- two operands, then a rule by values -/
theorem two_ops {a b : E} {f : D → D → Hep → Option D} {σ : L2.St} {H : Hp} {Q : VK} {μ : List Addr} {ρ : Lo} {η : Hep} (rl : RL X.K H μ ρ σ) (rp : Rp X.K μ η H)
    (pg : Pg X.K (XRof X.mg P) (RF X.K) σ W μ H ((ev C a ρ η).bind fun x η1 => (ev C b ρ η1).bind fun y η2 => R.of (f x y η2) η2) Q) :
    tOp (rD2 X.K f) (tE X.K (XRof X.mg P) C W a) (tE X.K (XRof X.mg P) C W b) σ H Q := by
  refine ⟨μ, ρ, η, rl, rp, pg.bind0 fun x η1 v μ1 H1 e1 st1 rp1 r1 pg1 => ?_⟩
  have pg1 := pg1.nxt st1 rp1
  refine ⟨μ1, ρ, η1, rl.step st1 rp, rp1, pg1.bind0 fun y η2 u μ2 H2 e2 st2 rp2 r2 pg2 => ?_⟩
  have pg2 := pg2.nxt st2 rp2
  cases hz : f x y η2 with
  | none => rw [hz] at pg2; exact pg2.elim
  | some z => rw [hz] at pg2; exact ⟨μ2, η2, x, y, z, rp2, RV.step st2 rp1 _ _ r1.1, r2.1, hz, pg2⟩
theorem sn_bin {o : BOp} {a b : E} {x : Expr} (iha : ∀ x, ckE X.N P calm sc a x = true → SnE P C X W a x) (ihb : ∀ x, ckE X.N P calm sc b x = true → SnE P C X W b x)
    (h : ckE X.N P calm sc (.bin o a b) x = true) : SnE P C X W (.bin o a b) x := by
  unfold ckE at h
  split at h
  · rename_i ea op eb p
    simp only [Bool.and_eq_true, decide_eq_true_eq] at h
    obtain ⟨⟨rfl, h2⟩, h3⟩ := h
    exact .of ((pe_op (op_bin o) (iha _ h2).pe (ihb _ h3).pe).imp fun σ H Q ⟨μ, ρ, η, rl, rp, pg⟩ => two_ops rl rp (by simpa only [ev] using pg)) (fun _ _ _ q => nomatch q) fun _ => rfl
  · cases h
theorem sn_neg {a : E} {x : Expr} (iha : ∀ x, ckE X.N P calm sc a x = true → SnE P C X W a x)
    (h : ckE X.N P calm sc (.neg a) x = true) : SnE P C X W (.neg a) x := by
  unfold ckE at h
  split at h
  · rename_i ea p
    refine .of ((pe_un un_neg (iha _ h).pe).imp fun σ H Q ⟨μ, ρ, η, rl, rp, pg⟩ => ?_) (fun _ _ _ q => nomatch q) fun _ => rfl
    simp only [ev] at pg
    refine ⟨μ, ρ, η, rl, rp, pg.bind0 fun x η1 v μ1 H1 e1 st1 rp1 r1 pg1 => ?_⟩
    have pg1 := pg1.nxt st1 rp1
    split at pg1
    · have h1 := r1.1
      simp only [RV] at h1; subst h1
      exact ⟨_, rfl, pg1.ok_now rp1 int_rf⟩
    · exact pg1.elim
  · cases h
theorem sn_cmp {o : COp} {a b : E} {x : Expr} (G : Gd P k C calm sc W X) (iha : ∀ x, ckE X.N P calm sc a x = true → SnE P C X W a x) (ihb : ∀ x, ckE X.N P calm sc b x = true → SnE P C X W b x)
    (h : ckE X.N P calm sc (.cmp o a b) x = true) : SnE P C X W (.cmp o a b) x := by
  unfold ckE at h
  split at h
  · rename_i ea op eb p
    simp only [Bool.and_eq_true, decide_eq_true_eq, Bool.not_eq_true'] at h
    obtain ⟨⟨⟨rfl, h2⟩, h3⟩, h4⟩ := h
    have u : X.A.units + 70 < cLine := by have := G.units; omega
    have rd : ∀ σ H Q, tE X.K (XRof X.mg P) C W (.cmp o a b) σ H Q → tOp (rD2 X.K (fun a b η => (cmpD o a b η).map .bl)) (tE X.K (XRof X.mg P) C W a) (tE X.K (XRof X.mg P) C W b) σ H Q :=
      fun σ H Q ⟨μ, ρ, η, rl, rp, pg⟩ => two_ops rl rp (by simpa only [ev] using pg)
    refine ⟨(pe_cmpR (op_cmp u o) (iha _ h2).pe (ihb _ h3).pe h4).imp rd, fun _ => ?_, fun _ _ _ _ q => nomatch q⟩
    exact (pt_cmpR (op_cmp u o) (iha _ h2).pe (ihb _ h3).pe h4).imp fun σ H Q q => rd _ _ _ q
  · cases h
theorem sn_isn {n : Bool} {a : E} {x : Expr} (iha : ∀ x, ckE X.N P calm sc a x = true → SnE P C X W a x)
    (h : ckE X.N P calm sc (.isn n a) x = true) : SnE P C X W (.isn n a) x := by
  unfold ckE at h
  split at h
  · rename_i ea op j p1 p
    simp only [Bool.and_eq_true, decide_eq_true_eq] at h
    obtain ⟨rfl, h2⟩ := h
    have non : ∀ {d : D} {v : V} {μ : List Addr} {H : Hp}, RV X.K H μ d v → decide (d = D.non) = decide (v = V.non) := by
      intro d v μ H hv
      cases d <;> simp only [RV] at hv
      · subst hv; simp
      · subst hv; simp
      · subst hv; simp
      · subst hv; simp
      · obtain ⟨_, _, rfl, _⟩ := hv; simp
      · obtain ⟨_, rfl, _⟩ := hv; simp
      · obtain ⟨_, _, rfl, _⟩ := hv; simp
      · obtain ⟨_, _, rfl, _⟩ := hv; simp
    have rd : ∀ σ H Q, tE X.K (XRof X.mg P) C W (.isn n a) σ H Q → tE X.K (XRof X.mg P) C W a σ H fun x H1 => Q (.bl (if n then !decide (x = .non) else decide (x = .non))) H1 := by
      intro σ H Q ⟨μ, ρ, η, rl, rp, pg⟩
      simp only [ev] at pg
      refine ⟨μ, ρ, η, rl, rp, pg.bind0 fun x η1 v μ1 H1 e1 st1 rp1 r1 pg1 => ?_⟩
      have := (pg1.nxt st1 rp1).ok_now rp1 bl_rf
      rw [non r1.1] at this
      exact this
    cases n with
    | true =>
      refine ⟨(pe_cmp (pc_notN (iha _ h2).pe) rfl).imp fun σ H Q q => rd σ H Q q, fun _ => ?_, fun _ _ _ _ q => nomatch q⟩
      exact (pt_cmp (pc_notN (iha _ h2).pe) rfl).imp fun σ H Q q => rd σ H _ q
    | false =>
      refine ⟨(pe_cmp (pc_isN (iha _ h2).pe) rfl).imp fun σ H Q q => rd σ H Q q, fun _ => ?_, fun _ _ _ _ q => nomatch q⟩
      exact (pt_cmp (pc_isN (iha _ h2).pe) rfl).imp fun σ H Q q => rd σ H _ q
  · cases h
theorem sn_cmp2 {o o' : COp} {a b c : E} {x : Expr} (G : Gd P k C calm sc W X) (iha : ∀ x, ckE X.N P calm sc a x = true → SnE P C X W a x) (ihb : ∀ x, ckE X.N P calm sc b x = true → SnE P C X W b x) (ihc : ∀ x, ckE X.N P calm sc c x = true → SnE P C X W c x)
    (h : ckE X.N P calm sc (.cmp2 o o' a b c) x = true) : SnE P C X W (.cmp2 o o' a b c) x := by
  unfold ckE at h
  split at h
  · rename_i ea op op' eb ec p
    simp only [Bool.and_eq_true, decide_eq_true_eq, Bool.not_eq_true'] at h
    obtain ⟨⟨⟨⟨⟨rfl, rfl⟩, h2⟩, h3⟩, h5⟩, h4⟩ := h
    have u : X.A.units + 70 < cLine := by have := G.units; omega
    have rd : ∀ σ H Q, tE X.K (XRof X.mg P) C W (.cmp2 o o' a b c) σ H Q → tChain (rD2 X.K (fun a b η => (cmpD o a b η).map .bl)) (rD2 X.K (fun a b η => (cmpD o' a b η).map .bl)) (tE X.K (XRof X.mg P) C W a) (tE X.K (XRof X.mg P) C W b) (tE X.K (XRof X.mg P) C W c) σ H Q := by
      intro σ H Q ⟨μ, ρ, η, rl, rp, pg⟩
      simp only [ev] at pg
      refine ⟨μ, ρ, η, rl, rp, pg.bind0 fun x η1 v μ1 H1 e1 st1 rp1 r1 pg1 => ?_⟩
      have pg1 := pg1.nxt st1 rp1
      have rl1 := rl.step st1 rp
      refine ⟨μ1, ρ, η1, rl1, rp1, pg1.bind0 fun y η2 w μ2 H2 e2 st2 rp2 r2 pg2 => ?_⟩
      have pg2 := pg2.nxt st2 rp2
      have rl2 := rl1.step st2 rp1
      cases hz : cmpD o x y η2 with
      | none => rw [hz] at pg2; exact pg2.elim
      | some z =>
        rw [hz] at pg2
        refine ⟨μ2, η2, x, y, .bl z, rp2, RV.step st2 rp1 _ _ r1.1, r2.1, by simp [hz], fun v' μ3 H3 st3 rp3 rf3 => ?_⟩
        have h1 := rf3.1
        simp only [RV] at h1; subst h1
        refine ⟨z, rfl, ?_⟩
        cases z with
        | false => exact pg2 _ _ _ st3 rp3 bl_rf
        | true =>
          have pg3 := pg2.nxt st3 rp3
          refine ⟨μ3, ρ, η2, rl2.step st3 rp2, rp3, pg3.bind0 fun z η3 v3 μ4 H4 e4 st4 rp4 r4 pg4 => ?_⟩
          have pg4 := pg4.nxt st4 rp4
          cases hz2 : cmpD o' y z η3 with
          | none => rw [hz2] at pg4; exact pg4.elim
          | some z2 =>
            rw [hz2] at pg4
            exact ⟨μ4, η3, y, z, .bl z2, rp4, RV.step (st3.trans st4) rp2 _ _ r2.1, r4.1, by simp [hz2], pg4⟩
    refine ⟨(pe_chain (op_cmp u o) (op_cmp u o') (iha _ h2).pe (ihb _ h3).pe (ihc _ h5).pe h4).imp rd, fun _ => ?_, fun _ _ _ _ q => nomatch q⟩
    exact (pt_chain (op_cmp u o) (op_cmp u o') (iha _ h2).pe (ihb _ h3).pe (ihc _ h5).pe h4).imp fun σ H Q q => rd _ _ _ q
  · cases h
theorem rd_and {a b : E} {σ : L2.St} {H : Hp} {Q : VK} (q : tE X.K (XRof X.mg P) C W (.and a b) σ H Q) :
    tE X.K (XRof X.mg P) C W a σ H fun x H1 => ∃ c, x = .bl c ∧ if c = true then tE X.K (XRof X.mg P) C W b σ H1 Q else Q (.bl false) H1 := by
  obtain ⟨μ, ρ, η, rl, rp, pg⟩ := q
  simp only [ev] at pg
  refine ⟨μ, ρ, η, rl, rp, pg.bind0 fun x η1 v μ1 H1 e1 st1 rp1 r1 pg1 => ?_⟩
  have pg1 := pg1.nxt st1 rp1
  split at pg1
  · have h1 := r1.1
    simp only [RV] at h1; subst h1
    exact ⟨true, rfl, μ1, ρ, η1, rl.step st1 rp, rp1, pg1⟩
  · have h1 := r1.1
    simp only [RV] at h1; subst h1
    exact ⟨false, rfl, pg1.ok_now rp1 bl_rf⟩
  · exact pg1.elim
theorem rd_or {a b : E} {σ : L2.St} {H : Hp} {Q : VK} (q : tE X.K (XRof X.mg P) C W (.or a b) σ H Q) :
    tE X.K (XRof X.mg P) C W a σ H fun x H1 => ∃ c, x = .bl c ∧ if c = true then Q (.bl true) H1 else tE X.K (XRof X.mg P) C W b σ H1 Q := by
  obtain ⟨μ, ρ, η, rl, rp, pg⟩ := q
  simp only [ev] at pg
  refine ⟨μ, ρ, η, rl, rp, pg.bind0 fun x η1 v μ1 H1 e1 st1 rp1 r1 pg1 => ?_⟩
  have pg1 := pg1.nxt st1 rp1
  split at pg1
  · have h1 := r1.1
    simp only [RV] at h1; subst h1
    exact ⟨true, rfl, pg1.ok_now rp1 bl_rf⟩
  · have h1 := r1.1
    simp only [RV] at h1; subst h1
    exact ⟨false, rfl, μ1, ρ, η1, rl.step st1 rp, rp1, pg1⟩
  · exact pg1.elim
theorem tE_mono {e : E} {σ : L2.St} {H : Hp} {Q Q' : VK} (q : tE X.K (XRof X.mg P) C W e σ H Q) (f : ∀ v H', Q v H' → Q' v H') : tE X.K (XRof X.mg P) C W e σ H Q' := by
  obtain ⟨μ, ρ, η, rl, rp, pg⟩ := q
  exact ⟨μ, ρ, η, rl, rp, pg.imp f⟩
theorem tt_and {a b : E} {σ : L2.St} {H : Hp} {Q : Bool → Hp → Prop} (q : tB (tE X.K (XRof X.mg P) C W (.and a b)) σ H Q) :
    tAnd (tB (tE X.K (XRof X.mg P) C W a)) (tB (tE X.K (XRof X.mg P) C W b)) σ H Q := by
  refine tE_mono (rd_and q) fun v H' ⟨c, e, h⟩ => ⟨c, e, ?_⟩
  cases c with
  | true => exact h
  | false =>
    obtain ⟨c', e', h'⟩ := h
    cases e'
    exact h'
theorem tt_or {a b : E} {σ : L2.St} {H : Hp} {Q : Bool → Hp → Prop} (q : tB (tE X.K (XRof X.mg P) C W (.or a b)) σ H Q) :
    tOr (tB (tE X.K (XRof X.mg P) C W a)) (tB (tE X.K (XRof X.mg P) C W b)) σ H Q := by
  refine tE_mono (rd_or q) fun v H' ⟨c, e, h⟩ => ⟨c, e, ?_⟩
  cases c with
  | false => exact h
  | true =>
    obtain ⟨c', e', h'⟩ := h
    cases e'
    exact h'
theorem sn_and {a b : E} {x : Expr} (iha : ∀ x, ckE X.N P calm sc a x = true → SnE P C X W a x) (ihb : ∀ x, ckE X.N P calm sc b x = true → SnE P C X W b x)
    (h : ckE X.N P calm sc (.and a b) x = true) : SnE P C X W (.and a b) x := by
  unfold ckE at h
  split at h
  · rename_i ea eb p
    simp only [Bool.and_eq_true] at h
    have pw : tOk (.and a b) = true → PW X (.BoolOp .And [ea, eb] p) (tB (tE X.K (XRof X.mg P) C W (.and a b))) := fun t => by
      simp only [tOk, Bool.and_eq_true] at t
      exact (pw_and ((iha _ h.1).pt t.1) (pw_and1 ((ihb _ h.2).pt t.2))).imp fun σ H Q q => tt_and q
    exact ⟨(pe_and (iha _ h.1).pe (pe_one (ihb _ h.2).pe)).imp fun σ H Q q => rd_and q, fun t => (pw t).pt, fun t _ _ _ _ => pw t⟩
  · rename_i ea eb ec r p
    simp only [Bool.and_eq_true] at h
    have pw : tOk (.and a b) = true → PW X (.BoolOp .And (ea :: eb :: ec :: r) p) (tB (tE X.K (XRof X.mg P) C W (.and a b))) := fun t => by
      simp only [tOk, Bool.and_eq_true] at t
      exact (pw_and ((iha _ h.1).pt t.1) ((ihb _ h.2).pw t.2 _ _ _ rfl)).imp fun σ H Q q => tt_and q
    exact ⟨(pe_and (iha _ h.1).pe (ihb _ h.2).pe).imp fun σ H Q q => rd_and q, fun t => (pw t).pt, fun t _ _ _ _ => pw t⟩
  · cases h
theorem sn_or {a b : E} {x : Expr} (iha : ∀ x, ckE X.N P calm sc a x = true → SnE P C X W a x) (ihb : ∀ x, ckE X.N P calm sc b x = true → SnE P C X W b x)
    (h : ckE X.N P calm sc (.or a b) x = true) : SnE P C X W (.or a b) x := by
  unfold ckE at h
  split at h
  · rename_i ea eb p
    simp only [Bool.and_eq_true] at h
    have pw : tOk (.or a b) = true → PW X (.BoolOp .Or [ea, eb] p) (tB (tE X.K (XRof X.mg P) C W (.or a b))) := fun t => by
      simp only [tOk, Bool.and_eq_true] at t
      exact (pw_or ((iha _ h.1).pt t.1) (pw_or1 ((ihb _ h.2).pt t.2))).imp fun σ H Q q => tt_or q
    exact ⟨(pe_or (iha _ h.1).pe (pe_one (ihb _ h.2).pe)).imp fun σ H Q q => rd_or q, fun t => (pw t).pt, fun t _ _ _ _ => pw t⟩
  · rename_i ea eb ec r p
    simp only [Bool.and_eq_true] at h
    have pw : tOk (.or a b) = true → PW X (.BoolOp .Or (ea :: eb :: ec :: r) p) (tB (tE X.K (XRof X.mg P) C W (.or a b))) := fun t => by
      simp only [tOk, Bool.and_eq_true] at t
      exact (pw_or ((iha _ h.1).pt t.1) ((ihb _ h.2).pw t.2 _ _ _ rfl)).imp fun σ H Q q => tt_or q
    exact ⟨(pe_or (iha _ h.1).pe (ihb _ h.2).pe).imp fun σ H Q q => rd_or q, fun t => (pw t).pt, fun t _ _ _ _ => pw t⟩
  · cases h
theorem sn_not {a : E} {x : Expr} (iha : ∀ x, ckE X.N P calm sc a x = true → SnE P C X W a x)
    (h : ckE X.N P calm sc (.not a) x = true) : SnE P C X W (.not a) x := by
  unfold ckE at h
  split at h
  · rename_i ea p
    simp only [Bool.and_eq_true] at h
    have rd : ∀ σ H Q, tE X.K (XRof X.mg P) C W (.not a) σ H Q → tE X.K (XRof X.mg P) C W a σ H fun x H1 => ∃ c, x = .bl c ∧ Q (.bl (!c)) H1 := by
      intro σ H Q ⟨μ, ρ, η, rl, rp, pg⟩
      simp only [ev] at pg
      refine ⟨μ, ρ, η, rl, rp, pg.bind0 fun x η1 v μ1 H1 e1 st1 rp1 r1 pg1 => ?_⟩
      have pg1 := pg1.nxt st1 rp1
      split at pg1
      · have h1 := r1.1
        simp only [RV] at h1; subst h1
        exact ⟨_, rfl, pg1.ok_now rp1 bl_rf⟩
      · exact pg1.elim
    refine ⟨(pe_not (iha _ h.1).pe).imp rd, fun _ => (pt_not ((iha _ h.1).pt h.2)).imp fun σ H Q q => ?_, fun _ _ _ _ q => nomatch q⟩
    refine tE_mono (rd _ _ _ q) fun v H' ⟨c, e, c', e', h'⟩ => ⟨c, e, ?_⟩
    cases e'
    exact h'
  · cases h
theorem sn_ite {c a b : E} {x : Expr} (ihc : ∀ x, ckE X.N P calm sc c x = true → SnE P C X W c x) (iha : ∀ x, ckE X.N P calm sc a x = true → SnE P C X W a x) (ihb : ∀ x, ckE X.N P calm sc b x = true → SnE P C X W b x)
    (h : ckE X.N P calm sc (.ite c a b) x = true) : SnE P C X W (.ite c a b) x := by
  unfold ckE at h
  split at h
  · rename_i ec ea eb p
    simp only [Bool.and_eq_true] at h
    obtain ⟨⟨⟨h1, h2⟩, h3⟩, h4⟩ := h
    refine ⟨(pe_ifExp ((ihc _ h1).pt h2) (iha _ h3).pe (ihb _ h4).pe).imp fun σ H Q ⟨μ, ρ, η, rl, rp, pg⟩ => ?_, fun t => by simp [tOk] at t, fun _ _ _ _ q => nomatch q⟩
    simp only [ev] at pg
    refine ⟨μ, ρ, η, rl, rp, pg.bind0 fun x η1 v μ1 H1 e1 st1 rp1 r1 pg1 => ?_⟩
    have pg1 := pg1.nxt st1 rp1
    split at pg1
    · have h1 := r1.1
      simp only [RV] at h1; subst h1
      exact ⟨true, rfl, μ1, ρ, η1, rl.step st1 rp, rp1, pg1⟩
    · have h1 := r1.1
      simp only [RV] at h1; subst h1
      exact ⟨false, rfl, μ1, ρ, η1, rl.step st1 rp, rp1, pg1⟩
    · exact pg1.elim
  · cases h
end
end Ev

set_option Elab.async false
set_option linter.all false
set_option maxRecDepth 100000
namespace Ev
open PySem
open PySem.Spec
open PyProof.Rows
open L2
section
variable {P : Tab} {k : Nat} {C : Nat → List D → Hep → R D} {calm : Bool} {sc : Scope} {W : WX} {X : Cx}
theorem noOp {x : Expr} (h : ∀ op l p, x ≠ .BoolOp op l p) : ∀ op l p, x ≠ .BoolOp op l p := h
theorem sn_tup {es : Es} {x : Expr} (ih : ∀ l, ckEs X.N P calm sc es l = true → PA X l (tEs X.K (XRof X.mg P) C W es)) (h : ckE X.N P calm sc (.tup es) x = true) : SnE P C X W (.tup es) x := by
  unfold ckE at h
  split at h
  · rename_i l j p
    refine .of ((pe_tup (ih _ h)).imp fun σ H Q ⟨μ, ρ, η, rl, rp, pg⟩ => ?_) (fun _ _ _ q => nomatch q) fun _ => rfl
    simp only [ev] at pg
    refine ⟨μ, ρ, η, rl, rp, pg.bind0 fun xs η1 vs μ1 H1 e1 st1 rp1 r1 pg1 => ?_⟩
    have pg1 := pg1.nxt st1 rp1
    split at pg1
    · rename_i hl
      refine ⟨by rw [← RVs.length r1]; exact hl, fun t nt => ?_⟩
      obtain ⟨t1, t2, t3⟩ := mk_tup rp1 nt r1
      exact pg1 _ _ _ t1 t2 t3
    · exact pg1.elim
  · cases h
theorem sn_lst {es : Es} {x : Expr} (ih : ∀ l, ckEs X.N P calm sc es l = true → PA X l (tEs X.K (XRof X.mg P) C W es)) (h : ckE X.N P calm sc (.lst es) x = true) : SnE P C X W (.lst es) x := by
  unfold ckE at h
  split at h
  · rename_i l p
    refine .of ((pe_lst (ih _ h)).imp fun σ H Q ⟨μ, ρ, η, rl, rp, pg⟩ => ?_) (fun _ _ _ q => nomatch q) fun _ => rfl
    simp only [ev] at pg
    refine ⟨μ, ρ, η, rl, rp, pg.bind0 fun xs η1 vs μ1 H1 e1 st1 rp1 r1 pg1 => ?_⟩
    have pg1 := pg1.nxt st1 rp1
    split at pg1
    · rename_i hl
      refine ⟨by rw [← RVs.length r1]; exact hl, fun t nt => ?_⟩
      obtain ⟨t1, t2, t3⟩ := mk_tl rp1 nt r1
      exact pg1 _ _ _ t1 t2 t3
    · exact pg1.elim
  · cases h
theorem plainIx {e : Expr} (h : isSlice e = false) : PlainIx e := fun o i => by
  cases e with
  | Slice _ _ _ _ => simp [isSlice] at h
  | _ => rfl
theorem sn_idx {a i : E} {x : Expr} (iha : ∀ x, ckE X.N P calm sc a x = true → SnE P C X W a x) (ihb : ∀ x, ckE X.N P calm sc i x = true → SnE P C X W i x)
    (h : ckE X.N P calm sc (.idx a i) x = true) : SnE P C X W (.idx a i) x := by
  unfold ckE at h
  split at h
  · rename_i ea ei p
    simp only [Bool.and_eq_true, Bool.not_eq_true'] at h
    obtain ⟨⟨h1, h2⟩, h3⟩ := h
    exact .of ((pe_ix ix_idx (iha _ h1).pe (ihb _ h2).pe (plainIx h3)).imp fun σ H Q ⟨μ, ρ, η, rl, rp, pg⟩ => two_ops rl rp (by simpa only [ev] using pg)) (fun _ _ _ q => nomatch q) fun _ => rfl
  · cases h
theorem sn_slc {a : E} {lo hi : OE} {x : Expr} (iha : ∀ x, ckE X.N P calm sc a x = true → SnE P C X W a x) (ihl : ∀ x, ckO X.N P calm sc lo x = true → PO X x (tO X.K (XRof X.mg P) C W lo)) (ihh : ∀ x, ckO X.N P calm sc hi x = true → PO X x (tO X.K (XRof X.mg P) C W hi))
    (h : ckE X.N P calm sc (.slc a lo hi) x = true) : SnE P C X W (.slc a lo hi) x := by
  unfold ckE at h
  split at h
  · rename_i ea l h' p2 p
    simp only [Bool.and_eq_true] at h
    obtain ⟨⟨h1, h2⟩, h3⟩ := h
    refine .of ((pe_slice sl_slc (iha _ h1).pe (ihl _ h2) (ihh _ h3)).imp fun σ H Q ⟨μ, ρ, η, rl, rp, pg⟩ => ?_) (fun _ _ _ q => nomatch q) fun _ => rfl
    simp only [ev] at pg
    refine ⟨μ, ρ, η, rl, rp, pg.bind0 fun x η1 v μ1 H1 e1 st1 rp1 r1 pg1 => ?_⟩
    have pg1 := pg1.nxt st1 rp1
    have rl1 := rl.step st1 rp
    refine ⟨μ1, ρ, η1, rl1, rp1, pg1.bind0 fun y η2 w μ2 H2 e2 st2 rp2 r2 pg2 => ?_⟩
    have pg2 := pg2.nxt st2 rp2
    refine ⟨μ2, ρ, η2, rl1.step st2 rp1, rp2, pg2.bind0 fun z η3 w3 μ3 H3 e3 st3 rp3 r3 pg3 => ?_⟩
    have pg3 := pg3.nxt st3 rp3
    obtain rfl : y = w := r2
    obtain rfl : z = w3 := r3
    cases hz : slcD x y z η3 with
    | none => rw [hz] at pg3; exact pg3.elim
    | some u => rw [hz] at pg3; exact ⟨μ3, η3, x, u, rp3, RV.step (st2.trans st3) rp1 _ _ r1.1, hz, pg3⟩
  · cases h
theorem sn_call {f : Nat} {es : Es} {x : Expr} (G : Gd P k C calm sc W X) (ih : ∀ l, ckEs X.N P calm sc es l = true → PA X l (tEs X.K (XRof X.mg P) C W es)) (h : ckE X.N P calm sc (.call f es) x = true) : SnE P C X W (.call f es) x := by
  unfold ckE at h
  split at h
  · rename_i n p0 e1 l p
    simp only [Bool.and_eq_true, decide_eq_true_eq] at h
    obtain ⟨⟨⟨⟨hc, h1⟩, h2⟩, h3⟩, h4⟩ := h
    obtain ⟨o1, o2, _⟩ := okN_spec h2
    obtain ⟨⟨n', fd⟩, hf, hn⟩ := Option.map_eq_some_iff.mp h4
    simp only at hn; subst hn
    obtain ⟨a, fdt, ps, m1, m2, m3, m4⟩ := G.fns _ _ _ hf
    have hs := ckEs_star X.env p h3
    have e1s : starEach (e1 :: l) X.env = (false, eval e1 X.env) :: starEach l X.env := by
      cases es with
      | nil => simp [ckEs] at h3
      | cons e es =>
        simp only [ckEs, Bool.and_eq_true] at h3
        exact ckE_star h3.1 _ _
    have hpl : (backTo p (starEach l X.env)).any (·.1) = false := by
      have := hs.1
      rw [e1s] at this
      simpa [backTo] using this
    refine .of ((pe_callS (E := WE W) m4 (G.room hc) (isG_gl G.sc h1) m1 m2 m3 (fun σ => passAt G.tk σ) (ih _ h3) o1 e1s hpl).imp fun σ H Q ⟨μ, ρ, η, rl, rp, pg⟩ => ?_) (fun _ _ _ q => nomatch q) fun _ => rfl
    simp only [ev] at pg
    refine ⟨μ, ρ, η, rl, rp, pg.bind0 fun xs η1 vs μ1 H1 e1 st1 rp1 r1 pg1 => ?_⟩
    have pg2 := Pg.fin rp st1 (fun _ _ _ _ _ _ => trivial) pg1
    refine ⟨μ1, η1, xs, r1, rp1, ?_⟩
    cases hr : C f xs η1 with
    | ok d η' => rw [hr] at pg2; exact pg2
    | exc c ys η' => rw [hr] at pg2; exact pg2
    | bad => rw [hr] at pg2; exact pg2
  · cases h
theorem prim_blt (p : Prim) : bootBuiltins (primN p) = some (primV p) := by cases p <;> decide +kernel
theorem prim_in (p : Prim) : primN p ∈ bltNames := by cases p <;> decide +kernel
theorem sn_prim {pr : Prim} {es : Es} {x : Expr} (G : Gd P k C calm sc W X) (ih : ∀ l, ckEs X.N P calm sc es l = true → PA X l (tEp X.K (XRof X.mg P) C W es)) (h : ckE X.N P calm sc (.prim pr es) x = true) : SnE P C X W (.prim pr es) x := by
  unfold ckE at h
  split at h
  · rename_i n p0 e1 l p
    simp only [Bool.and_eq_true, decide_eq_true_eq] at h
    obtain ⟨⟨⟨⟨hc, rfl⟩, h1⟩, h2⟩, h3⟩ := h
    obtain ⟨o1, o2, o3⟩ := okN_spec h2
    have hs := ckEs_star X.env p h3
    have e1s : starEach (e1 :: l) X.env = (false, eval e1 X.env) :: starEach l X.env := by
      cases es with
      | nil => simp [ckEs] at h3
      | cons e es =>
        simp only [ckEs, Bool.and_eq_true] at h3
        exact ckE_star h3.1 _ _
    have hpl : (backTo p (starEach l X.env)).any (·.1) = false := by
      have := hs.1
      rw [e1s] at this
      simpa [backTo] using this
    have rd : ∀ σ H Q, tE X.K (XRof X.mg P) C W (.prim pr es) σ H Q → tCB (rPr X.K pr) (tEp X.K (XRof X.mg P) C W es) σ H Q := by
      intro σ H Q ⟨μ, ρ, η, rl, rp, pg⟩
      simp only [ev] at pg
      refine ⟨μ, ρ, η, rl, rp, pg.bind0 fun xs η1 vs μ1 H1 e1 st1 rp1 r1 pg1 => ?_⟩
      have pg1 := pg1.nxt st1 rp1
      cases hz : primD pr xs η1 with
      | none => rw [hz] at pg1; exact pg1.elim
      | some z => rw [hz] at pg1; exact ⟨μ1, η1, xs, z, rp1, r1, hz, pg1⟩
    have hm := G.blt _ (prim_in pr)
    have hb := prim_blt pr
    have cr := cr_prim (G.cm hc) pr
    have pe : PE X (.Call (.Name (primN pr) p0) (e1 :: l) [] p) (tCB (rPr X.K pr) (tEp X.K (XRof X.mg P) C W es)) := by
      cases pr <;> first | exact pe_callB cr (isG_gl G.sc h1) hm hb (ih _ h3) o3 o1 e1s hpl | exact pe_callTy cr (isG_gl G.sc h1) hm hb (ih _ h3) o3 o1 e1s hpl
    exact .of (pe.imp rd) (fun _ _ _ q => nomatch q) fun _ => rfl
  · cases h
theorem ty_blt (t : Ty) : bootBuiltins (tyN t : Str) = some (.type (tyN t)) := by cases t <;> decide +kernel
theorem ty_in (t : Ty) : (tyN t : Str) ∈ bltNames := by cases t <;> decide +kernel
theorem pe_ty {t : Ty} {x : Expr} (G : Gd P k C calm sc W X) (h : tyIs sc t x = true) : PE X x (tC (.ty (tyN t))) ∧ ∀ es, starEach (x :: es) X.env = (false, eval x X.env) :: starEach es X.env := by
  unfold tyIs at h
  split at h
  · rename_i n p
    simp only [Bool.and_eq_true, decide_eq_true_eq] at h
    obtain ⟨⟨rfl, h1⟩, h2⟩ := h
    obtain ⟨o1, o2, o3⟩ := okN_spec h2
    exact ⟨pe_bltn (isG_gl G.sc h1) (G.blt _ (ty_in t)) (ty_blt t) rfl o3 o1, fun _ => rfl⟩
  · cases h
theorem pa_tys (G : Gd P k C calm sc W X) : ∀ {ts : List Ty} {es : List Expr}, tysIs sc ts es = true → PA X es (fun _ H Q => Q (ts.map fun t => V.ty (tyN t)) H)
  | [], [], _ => pa_nil
  | [], _ :: _, h => by simp [tysIs] at h
  | _ :: _, [], h => by simp [tysIs] at h
  | t :: ts, e :: es, h => by
    simp only [tysIs, Bool.and_eq_true] at h
    obtain ⟨h1, h2⟩ := pe_ty G h.1
    exact (pa_cons h1 (pa_tys G h.2) (h2 es)).imp fun σ H Q q => q
theorem sn_isi {a : E} {ts : List Ty} {tupled : Bool} {x : Expr} (G : Gd P k C calm sc W X) (iha : ∀ x, ckE X.N P calm sc a x = true → SnE P C X W a x)
    (h : ckE X.N P calm sc (.isi a ts tupled) x = true) : SnE P C X W (.isi a ts tupled) x := by
  unfold ckE at h
  split at h
  · rename_i n p0 ea et p
    simp only [Bool.and_eq_true, decide_eq_true_eq] at h
    obtain ⟨⟨⟨⟨rfl, h1⟩, h2⟩, h3⟩, h4⟩ := h
    obtain ⟨o1, o2, o3⟩ := okN_spec h2
    have hm : X.mg "isinstance" = none := G.blt _ (by decide +kernel)
    have hb : bootBuiltins "isinstance" = some (.builtin "isinstance") := by decide +kernel
    have st := ckE_star h3 X.env [et]
    split at h4
    · rename_i t et
      obtain ⟨q1, q2⟩ := pe_ty G h4
      refine .of ((pe_callB call_isi (isG_gl G.sc h1) hm hb (pa_cons (iha _ h3).pe (pa_cons q1 pa_nil (q2 [])) st) o3 o1 st (by rw [q2] <;> rfl)).imp fun σ H Q ⟨μ, ρ, η, rl, rp, pg⟩ => ?_) (fun _ _ _ q => nomatch q) fun _ => rfl
      simp only [ev] at pg
      refine ⟨μ, ρ, η, rl, rp, pg.bind0 fun x η1 v μ1 H1 e1 st1 rp1 r1 pg1 => ?_⟩
      have pg1 := pg1.nxt st1 rp1
      refine ⟨v, _, _, _, _, rfl, .ty _, tyX_rv rp1 r1.1, kit_tyD x _, ?_⟩
      have := pg1.ok_now rp1 bl_rf
      simpa using this
    · rename_i ts l j pt
      simp only [Bool.and_eq_true, decide_eq_true_eq] at h4
      have q1 := pa_tys G h4.1
      refine .of ((pe_callB call_isiT (isG_gl G.sc h1) hm hb (pa_cons (iha _ h3).pe (pa_cons (pe_tup q1) pa_nil rfl) st) o3 o1 st rfl).imp fun σ H Q ⟨μ, ρ, η, rl, rp, pg⟩ => ?_) (fun _ _ _ q => nomatch q) fun _ => rfl
      simp only [ev] at pg
      refine ⟨μ, ρ, η, rl, rp, pg.bind0 fun x η1 v μ1 H1 e1 st1 rp1 r1 pg1 => ?_⟩
      have pg1 := pg1.nxt st1 rp1
      refine ⟨?_, fun q nq => ?_⟩
      · rw [List.length_map]
        have : (sizeLine : Nat) = 16777216 := rfl
        omega
      · refine ⟨v, q, _, _, _, _, rfl, upd_same, cls_all _, tyX_rv (rp1.upd_new nq) (RV.step (Step.upd_new nq) rp1 _ _ r1.1), kit_any x _, ?_⟩
        exact pg1 _ _ _ (Step.upd_new nq) (rp1.upd_new nq) bl_rf
    · cases h4
  · cases h
end
end Ev

set_option Elab.async false
set_option linter.all false
set_option maxRecDepth 100000
namespace Ev
open PySem
open PySem.Spec
open PyProof.Rows
open L2
/-! ### what is walked stands -/
def isT : D → Bool
  | .tup _ => false
  | _ => true
section
variable {K : PySem.W.Frag} {μ μ1 : List Addr} {η η1 : Hep} {H H1 : Hp} {x : D} {xs : List D} {a : Addr}
theorem stand (rp : Rp K μ1 η1 H1) (rv : RV K H1 μ1 x (.ref a)) (e : seqAny η1 x = some xs) (s : Step μ1 H1 μ H) (r : Rp K μ η H) (w : watchOk η (watchOf x xs) = true) : ∃ vs, Sq K (isT x) H a vs ∧ RVs K H μ xs vs := by
  cases x with
  | tup ys =>
    simp only [seqAny, Option.some.injEq] at e; subst e
    simp only [RV] at rv
    obtain ⟨b, vs, eb, h1, h2⟩ := rv
    cases eb
    exact ⟨vs, SqT.step s rp h1, RVs.step s rp _ _ h2⟩
  | tl ys =>
    simp only [seqAny, seqOf, Option.some.injEq] at e; subst e
    simp only [RV] at rv
    obtain ⟨b, vs, eb, h1, h3, h2⟩ := rv
    cases eb
    exact ⟨vs, .inl (.inl (s.fr _ _ h1 h3)), RVs.step s rp _ _ h2⟩
  | fl ys =>
    simp only [seqAny, seqOf, Option.some.injEq] at e; subst e
    simp only [RV] at rv
    obtain ⟨b, vs, eb, h1, h2⟩ := rv
    cases eb
    exact ⟨vs, (SqF.step s rp h1).sq, RVs.step s rp _ _ h2⟩
  | ref n =>
    simp only [RV] at rv
    obtain ⟨b, eb, hn⟩ := rv
    cases eb
    simp only [watchOk, watchOf, List.all_cons, List.all_nil, Bool.and_true, decide_eq_true_eq] at w
    obtain ⟨t, et⟩ := s.pre
    have hn' : μ[n]? = some a := by rw [← et, List.getElem?_append_left (List.getElem?_eq_some_iff.mp hn).1]; exact hn
    obtain ⟨vs, h1, h2⟩ := r.cell n a xs hn' w
    exact ⟨vs, .inl (.inl h1), h2⟩
  | _ => simp [seqAny, seqOf] at e
theorem ref_of (rp : Rp K μ1 η1 H1) {v : V} (rv : RV K H1 μ1 x v) (e : seqAny η1 x = some xs) : ∃ a, v = .ref a := by
  obtain ⟨a, _, h, _⟩ := seqAny_rv rp rv e
  exact ⟨a, h⟩
theorem enm_get : ∀ {xs : List D} {k i : Nat} {d : D}, (enm k xs)[i]? = some d → ∃ x, xs[i]? = some x ∧ d = .tup [.int ((k + i : Nat) : Int), x]
  | [], _, _, _, h => by simp [enm] at h
  | x :: xs, k, 0, d, h => by
    simp [enm] at h
    exact ⟨x, rfl, h.symm⟩
  | x :: xs, k, i + 1, d, h => by
    simp only [enm, List.getElem?_cons_succ] at h
    obtain ⟨y, h1, h2⟩ := enm_get h
    exact ⟨y, by simpa using h1, by rw [h2]; congr 3; omega⟩
theorem enm_len : ∀ (k : Nat) (xs : List D), (enm k xs).length = xs.length
  | _, [] => rfl
  | k, x :: xs => by simp [enm, enm_len (k + 1) xs]
theorem zip2_get : ∀ {xs ys : List D} {i : Nat} {d : D}, (zip2 xs ys)[i]? = some d → ∃ x y, xs[i]? = some x ∧ ys[i]? = some y ∧ d = .tup [x, y]
  | [], _, _, _, h => by simp [zip2] at h
  | _ :: _, [], _, _, h => by simp [zip2] at h
  | x :: xs, y :: ys, 0, d, h => by
    simp [zip2] at h
    exact ⟨x, y, rfl, rfl, h.symm⟩
  | x :: xs, y :: ys, i + 1, d, h => by
    simp only [zip2, List.getElem?_cons_succ] at h
    obtain ⟨a, b, h1, h2, h3⟩ := zip2_get h
    exact ⟨a, b, by simpa using h1, by simpa using h2, h3⟩
theorem zip2_len : ∀ (xs ys : List D), (zip2 xs ys).length = min xs.length ys.length
  | [], ys => by simp [zip2]
  | x :: xs, [] => by simp [zip2]
  | x :: xs, y :: ys => by simp [zip2, zip2_len xs ys]
theorem it_list (rp : Rp K μ1 η1 H1) (rv : RV K H1 μ1 x (.ref a)) (e : seqAny η1 x = some xs) (t : isT x = true) : ItOk K (Itl K a) xs (watchOf x xs) μ1 H1 := fun μ η H s r w => by
  obtain ⟨vs, h1, h2⟩ := stand rp rv e s r w
  rw [t] at h1
  refine ⟨⟨vs, h1, by rw [h2.length]; exact Nat.le_refl _⟩, fun i d hi => ?_⟩
  obtain ⟨v, q1, q2, q3⟩ := h2.get hi
  refine ⟨⟨vs, v, h1, q1⟩, fun u H' ⟨e1, e2⟩ => ?_⟩
  subst e1
  have := e2 vs h1
  rw [q1] at this; cases this
  exact ⟨Step.refl, r, q2, q3⟩
theorem it_tup (rp : Rp K μ1 η1 H1) (rv : RV K H1 μ1 x (.ref a)) (e : seqAny η1 x = some xs) (t : isT x = false) : ItOk K (Itt K a) xs (watchOf x xs) μ1 H1 := fun μ η H s r w => by
  obtain ⟨vs, h1, h2⟩ := stand rp rv e s r w
  rw [t] at h1
  refine ⟨⟨vs, h1, by rw [h2.length]; exact Nat.le_refl _⟩, fun i d hi => ?_⟩
  obtain ⟨v, q1, q2, q3⟩ := h2.get hi
  refine ⟨⟨vs, v, h1, q1⟩, fun u H' ⟨e1, e2⟩ => ?_⟩
  subst e1
  have := e2 vs h1
  rw [q1] at this; cases this
  exact ⟨Step.refl, r, q2, q3⟩
theorem pair_rv {T : Addr} {b c : D} {v w : V} (r : Rp K μ η H) (n : H T = none) (h1 : RV K H μ b v) (t1 : b.isTl = false) (h2 : RV K H μ c w) (t2 : c.isTl = false) :
    Step μ H μ (upd H T (.tup [v, w])) ∧ Rp K μ η (upd H T (.tup [v, w])) ∧ RV K (upd H T (.tup [v, w])) μ (.tup [b, c]) (.ref T) ∧ (D.tup [b, c]).isTl = false := by
  obtain ⟨q1, q2, q3⟩ := mk_tup (ds := [b, c]) (vs := [v, w]) r n (RVs.append (RVs.one h1 t1) (RVs.one h2 t2))
  exact ⟨q1, q2, q3.1, rfl⟩
theorem it_enmL (rp : Rp K μ1 η1 H1) (rv : RV K H1 μ1 x (.ref a)) (e : seqAny η1 x = some xs) (t : isT x = true) : ItOk K (Ite K a) (enm 0 xs) (watchOf x xs) μ1 H1 := fun μ η H s r w => by
  obtain ⟨vs, h1, h2⟩ := stand rp rv e s r w
  rw [t] at h1
  refine ⟨⟨vs, h1, by rw [enm_len, h2.length]; exact Nat.le_refl _⟩, fun i d hi => ?_⟩
  obtain ⟨y, hy, rfl⟩ := enm_get hi
  obtain ⟨v, q1, q2, q3⟩ := h2.get hy
  refine ⟨⟨vs, v, h1, q1⟩, fun u H' ⟨T, z, e1, e2, e3, e4⟩ => ?_⟩
  have := e4 vs h1
  rw [q1] at this; cases this
  subst e1; subst e3
  rw [Nat.zero_add]
  exact pair_rv r e2 (by simp [RV]) rfl q2 q3
theorem it_enmT (rp : Rp K μ1 η1 H1) (rv : RV K H1 μ1 x (.ref a)) (e : seqAny η1 x = some xs) (t : isT x = false) : ItOk K (IteT K a) (enm 0 xs) (watchOf x xs) μ1 H1 := fun μ η H s r w => by
  obtain ⟨vs, h1, h2⟩ := stand rp rv e s r w
  rw [t] at h1
  refine ⟨⟨vs, h1, by rw [enm_len, h2.length]⟩, fun i d hi => ?_⟩
  obtain ⟨y, hy, rfl⟩ := enm_get hi
  obtain ⟨v, q1, q2, q3⟩ := h2.get hy
  refine ⟨⟨vs, v, h1, q1⟩, fun u H' ⟨T, z, e1, e2, e3, e4⟩ => ?_⟩
  have := e4 vs h1
  rw [q1] at this; cases this
  subst e1; subst e3
  rw [Nat.zero_add]
  exact pair_rv r e2 (by simp [RV]) rfl q2 q3
theorem it_zip {y : D} {ys : List D} {b : Addr} (rp : Rp K μ1 η1 H1) (rv : RV K H1 μ1 x (.ref a)) (rw' : RV K H1 μ1 y (.ref b)) (e : seqAny η1 x = some xs) (e' : seqAny η1 y = some ys) :
    ItOk K (ItzM K (isT x) (isT y) a b) (zip2 xs ys) (watchOf x xs ++ watchOf y ys) μ1 H1 := fun μ η H s r w => by
  simp only [watchOk, List.all_append, Bool.and_eq_true] at w
  obtain ⟨vs, h1, h2⟩ := stand rp rv e s r w.1
  obtain ⟨ws, g1, g2⟩ := stand rp rw' e' s r w.2
  have l1 := h2.length
  have l2 := g2.length
  refine ⟨⟨vs, ws, h1, g1, by rw [zip2_len]; omega, by rw [zip2_len]; omega, by rw [zip2_len]; omega⟩, fun i d hi => ?_⟩
  obtain ⟨c, d, hc, hd, rfl⟩ := zip2_get hi
  obtain ⟨v, q1, q2, q3⟩ := h2.get hc
  obtain ⟨v', q4, q5, q6⟩ := g2.get hd
  refine ⟨⟨vs, ws, v, v', h1, g1, q1, q4⟩, fun u H' ⟨T, z, z', e1, e2, e3, e4, e5⟩ => ?_⟩
  have f1 := e4 vs h1
  rw [q1] at f1; cases f1
  have f2 := e5 ws g1
  rw [q4] at f2; cases f2
  subst e1; subst e3
  exact pair_rv r e2 q2 q3 q5 q6
theorem it_revL (rp : Rp K μ1 η1 H1) (rv : RV K H1 μ1 x (.ref a)) (e : seqAny η1 x = some xs) (t : isT x = true) : ItOk K (Itv K a xs.length) xs.reverse (watchOf x xs) μ1 H1 := fun μ η H s r w => by
  obtain ⟨vs, h1, h2⟩ := stand rp rv e s r w
  rw [t] at h1
  refine ⟨by rw [List.length_reverse]; exact Nat.le_refl _, fun i d hi => ?_⟩
  have hl : i < xs.length := by
    have := (List.getElem?_eq_some_iff.mp hi).1
    simpa using this
  rw [List.getElem?_reverse hl] at hi
  obtain ⟨v, q1, q2, q3⟩ := h2.get hi
  refine ⟨⟨hl, vs, v, h1, q1⟩, fun u H' ⟨e1, e2⟩ => ?_⟩
  subst e1
  have := e2 vs h1
  rw [q1] at this; cases this
  exact ⟨Step.refl, r, q2, q3⟩
theorem it_revT (rp : Rp K μ1 η1 H1) (rv : RV K H1 μ1 x (.ref a)) (e : seqAny η1 x = some xs) (t : isT x = false) : ItOk K (RT.ItvT K a xs.length) xs.reverse (watchOf x xs) μ1 H1 := fun μ η H s r w => by
  obtain ⟨vs, h1, h2⟩ := stand rp rv e s r w
  rw [t] at h1
  refine ⟨by rw [List.length_reverse]; exact Nat.le_refl _, fun i d hi => ?_⟩
  have hl : i < xs.length := by
    have := (List.getElem?_eq_some_iff.mp hi).1
    simpa using this
  rw [List.getElem?_reverse hl] at hi
  obtain ⟨v, q1, q2, q3⟩ := h2.get hi
  refine ⟨⟨hl, vs, v, h1, q1⟩, fun u H' ⟨e1, e2⟩ => ?_⟩
  subst e1
  have := e2 vs h1
  rw [q1] at this; cases this
  exact ⟨Step.refl, r, q2, q3⟩
theorem rng_get {lo : Int} {n i : Nat} {d : D} (h : (rng lo n)[i]? = some d) : i < n ∧ d = .int (lo + (i : Int)) := by
  unfold rng at h
  have hl := (List.getElem?_eq_some_iff.mp h).1
  simp at hl
  rw [List.getElem?_map, List.getElem?_range hl] at h
  exact ⟨hl, (Option.some.inj h).symm⟩
theorem it_rng {lo : Int} {n : Nat} : ItOk K (Itr lo n) (rng lo n) [] μ1 H1 := fun μ η H s r _ => by
  refine ⟨by simp [rng, Itr], fun i d hi => ?_⟩
  obtain ⟨h1, rfl⟩ := rng_get hi
  refine ⟨h1, fun u H' ⟨e1, e2⟩ => ?_⟩
  subst e1; subst e2
  exact ⟨Step.refl, r, by simp [RV], rfl⟩
theorem rngC_get {lo c : Int} {n i : Nat} {d : D} (h : (rngC lo c n)[i]? = some d) : i < n ∧ d = .int (lo + (i : Int) * c) := by
  unfold rngC at h
  have hl := (List.getElem?_eq_some_iff.mp h).1
  simp at hl
  rw [List.getElem?_map, List.getElem?_range hl] at h
  exact ⟨hl, (Option.some.inj h).symm⟩
theorem it_rngC {lo c : Int} {n : Nat} : ItOk K (Itc lo c n) (rngC lo c n) [] μ1 H1 := fun μ η H s r _ => by
  refine ⟨by simp [rngC, Itc], fun i d hi => ?_⟩
  obtain ⟨h1, rfl⟩ := rngC_get hi
  refine ⟨h1, fun u H' ⟨e1, e2⟩ => ?_⟩
  subst e1; subst e2
  exact ⟨Step.refl, r, by simp [RV], rfl⟩
end
end Ev

set_option Elab.async false
set_option linter.all false
set_option maxRecDepth 100000
namespace Ev
open PySem
open PySem.Spec
open PyProof.Rows
open L2
section
variable {P : Tab} {k : Nat} {C : Nat → List D → Hep → R D} {calm : Bool} {sc : Scope} {W : WX} {X : Cx}
theorem sn_meth {m : Meth} {o : E} {es : Es} {x : Expr} (iha : ∀ x, ckE X.N P calm sc o x = true → SnE P C X W o x) (ih : ∀ l, ckEs X.N P calm sc es l = true → PA X l (tEs X.K (XRof X.mg P) C W es))
    (h : ckE X.N P calm sc (.meth m o es) x = true) : SnE P C X W (.meth m o es) x := by
  unfold ckE at h
  split at h
  · rename_i eo nm apos l cpos
    simp only [Bool.and_eq_true, decide_eq_true_eq, Bool.not_eq_true'] at h
    obtain ⟨⟨⟨⟨⟨rfl, h2⟩, h3⟩, h4⟩, h5⟩, h6⟩ := h
    have hb := attr_base (name := metN m) (env := X.env) h5
    have rd : ∀ σ H Q, tE X.K (XRof X.mg P) C W (.meth m o es) σ H Q → tBM X.K "list" (rMt X.K m) (tE X.K (XRof X.mg P) C W o) (tEs X.K (XRof X.mg P) C W es) σ H Q := by
      intro σ H Q ⟨μ, ρ, η, rl, rp, pg⟩
      simp only [ev] at pg
      refine ⟨μ, ρ, η, rl, rp, pg.bind0 fun x η1 v μ1 H1 e1 st1 rp1 r1 pg1 => ?_⟩
      have pg1 := pg1.nxt st1 rp1
      have rl1 := rl.step st1 rp
      cases x with
      | ref n =>
        simp only at pg1
        have hv := r1.1
        have hr := hv
        simp only [RV] at hv
        obtain ⟨a, rfl, ha⟩ := hv
        obtain ⟨vs, hL⟩ := rp1.mem (List.mem_of_getElem? ha)
        refine ⟨.inl ⟨rfl, vs, .inl (.inl hL)⟩, μ1, ρ, η1, rl1, rp1, pg1.bind0 fun ys η2 ws μ2 H2 e2 st2 rp2 r2 pg2 => ?_⟩
        have pg2 := pg2.nxt st2 rp2
        cases hz : methD m (.ref n) ys η2 with
        | ok z η3 => rw [hz] at pg2; exact ⟨μ2, η2, .ref n, ys, z, η3, rp2, RV.step st2 rp1 _ _ hr, r2, hz, pg2⟩
        | exc c xs η3 =>
          exfalso
          unfold methD at hz
          cases m <;> simp only at hz <;> (repeat' (first | cases hz | split at hz))
        | bad => rw [hz] at pg2; exact pg2.elim
      | _ => exact pg1.elim
    cases es with
    | nil =>
      unfold ckEs at h3
      split at h3
      · have rd0 : ∀ σ H Q, tE X.K (XRof X.mg P) C W (.meth m o .nil) σ H Q → tBM0 X.K "list" (rMt X.K m) (tE X.K (XRof X.mg P) C W o) σ H Q := by
          intro σ H Q q
          refine tE_mono (rd _ _ _ q) fun v H1 ⟨t, q⟩ => ⟨t, ?_⟩
          obtain ⟨μ, ρ, η, rl, rp, pg⟩ := q
          simp only [evs] at pg
          exact pg.ok_now rp (by show RVs _ _ _ _ _; rfl)
        have pe : PE X (.Call (.Attribute eo (metN m) apos) [] [] cpos) (tBM0 X.K "list" (rMt X.K m) (tE X.K (XRof X.mg P) C W o)) := by
          cases m
          · exact pe_bm0 PySem.F.plainAttrs_list PySem.F.slot_list_append PySem.F.type_list_append (mt_meth .append) (iha _ h2).pe hb h4
          · exact pe_bm0 PySem.F.plainAttrs_list PySem.F.slot_list_pop PySem.F.type_list_pop (mt_meth .pop0) (iha _ h2).pe hb h4
          · exact pe_bm0 PySem.F.plainAttrs_list PySem.F.slot_list_pop PySem.F.type_list_pop (mt_meth .popAt) (iha _ h2).pe hb h4
          · exact pe_bm0 PySem.F.plainAttrs_list PySem.F.slot_list_extend PySem.F.type_list_extend (mt_meth .extend) (iha _ h2).pe hb h4
        exact .of (pe.imp rd0) (fun _ _ _ q => nomatch q) fun _ => rfl
      · cases h3
    | cons e es =>
      have h3' := h3
      unfold ckEs at h3'
      split at h3'
      · rename_i e1 r
        simp only [Bool.and_eq_true] at h3'
        have hs := ckEs_star X.env cpos h3
        have e1s := ckE_star h3'.1 X.env r
        have hpl : (backTo cpos (starEach r X.env)).any (·.1) = false := by
          have := hs.1
          rw [e1s] at this
          simpa [backTo] using this
        have few : ((backTo cpos (starEach (e1 :: r) X.env)).all (fun x => !x.1) && (backToKw cpos (keywordEach [] X.env)).all (fun x => x.1.isSome) && decide ((e1 :: r).length + ([] : List Keyword).length + (if ([] : List Keyword).isEmpty then 0 else 1) < 30)) = true := by
          rw [hs.2]
          simp only [Bool.true_and, Bool.and_eq_true, decide_eq_true_eq]
          refine ⟨rfl, ?_⟩
          simp only [List.length_cons, List.length_nil, List.isEmpty_nil, if_true] at h6 ⊢
          omega
        have pe : PE X (.Call (.Attribute eo (metN m) apos) (e1 :: r) [] cpos) (tBM X.K "list" (rMt X.K m) (tE X.K (XRof X.mg P) C W o) (tEs X.K (XRof X.mg P) C W (.cons e es))) := by
          cases m
          · exact pe_bm PySem.F.plainAttrs_list PySem.F.slot_list_append PySem.F.type_list_append (mt_meth .append) (iha _ h2).pe (ih _ h3) hb few h4 e1s hpl
          · exact pe_bm PySem.F.plainAttrs_list PySem.F.slot_list_pop PySem.F.type_list_pop (mt_meth .pop0) (iha _ h2).pe (ih _ h3) hb few h4 e1s hpl
          · exact pe_bm PySem.F.plainAttrs_list PySem.F.slot_list_pop PySem.F.type_list_pop (mt_meth .popAt) (iha _ h2).pe (ih _ h3) hb few h4 e1s hpl
          · exact pe_bm PySem.F.plainAttrs_list PySem.F.slot_list_extend PySem.F.type_list_extend (mt_meth .extend) (iha _ h2).pe (ih _ h3) hb few h4 e1s hpl
        exact .of (pe.imp rd) (fun _ _ _ q => nomatch q) fun _ => rfl
      · cases h3'
  · cases h
/-! ### argument lists, parts, tests of a comprehension -/
theorem sn_evs : ∀ {es : Es} {l : List Expr}, (∀ e x, ckE X.N P calm sc e x = true → SnE P C X W e x ∨ True) → True := fun _ => trivial
theorem pa_evs_nil {l : List Expr} (h : ckEs X.N P calm sc .nil l = true) : PA X l (tEs X.K (XRof X.mg P) C W .nil) := by
  unfold ckEs at h
  split at h
  · refine pa_nil.imp fun σ H Q ⟨μ, ρ, η, rl, rp, pg⟩ => ?_
    simp only [evs] at pg
    exact pg.ok_now rp (by show RVs _ _ _ _ _; rfl)
  · cases h
theorem pa_evs_cons {e : E} {es : Es} {l : List Expr} (ihe : ∀ x, ckE X.N P calm sc e x = true → SnE P C X W e x) (ihs : ∀ l, ckEs X.N P calm sc es l = true → PA X l (tEs X.K (XRof X.mg P) C W es)) (h : ckEs X.N P calm sc (.cons e es) l = true) :
    PA X l (tEs X.K (XRof X.mg P) C W (.cons e es)) := by
  unfold ckEs at h
  split at h
  · rename_i x r
    simp only [Bool.and_eq_true] at h
    refine (pa_cons (ihe _ h.1).pe (ihs _ h.2) (ckE_star h.1 _ _)).imp fun σ H Q ⟨μ, ρ, η, rl, rp, pg⟩ => ?_
    simp only [evs] at pg
    refine ⟨μ, ρ, η, rl, rp, Pg.own pg fun d v μ2 η2 H1 st2 rp2 rv2 nt pg2 => ?_⟩
    have pg2 : Pg _ _ (RS X.K) _ _ μ2 H1 _ _ := pg2.step st2 fun _ _ _ _ z => z
    refine ⟨μ2, ρ, η2, rl.step st2 rp, rp2, pg2.bind0 fun xs η3 vs μ3 H3 e3 st3 rp3 r3 pg3 => ?_⟩
    have pg3 : Pg _ _ (RS X.K) _ _ μ3 H3 _ _ := pg3.step st3 fun _ _ _ _ z => z
    exact pg3.ok_now rp3 (by show RVs _ _ _ _ _; exact ⟨v, vs, rfl, RV.step st3 rp2 _ _ rv2, nt, r3⟩)
  · cases h
theorem pa_evp_nil {l : List Expr} (h : ckEs X.N P calm sc .nil l = true) : PA X l (tEp X.K (XRof X.mg P) C W .nil) := by
  unfold ckEs at h
  split at h
  · refine pa_nil.imp fun σ H Q ⟨μ, ρ, η, rl, rp, pg⟩ => ?_
    simp only [evp] at pg
    exact pg.ok_now rp (by show RVp _ _ _ _ _; rfl)
  · cases h
theorem pa_evp_cons {e : E} {es : Es} {l : List Expr} (ihe : ∀ x, ckE X.N P calm sc e x = true → SnE P C X W e x) (ihs : ∀ l, ckEs X.N P calm sc es l = true → PA X l (tEp X.K (XRof X.mg P) C W es)) (h : ckEs X.N P calm sc (.cons e es) l = true) :
    PA X l (tEp X.K (XRof X.mg P) C W (.cons e es)) := by
  unfold ckEs at h
  split at h
  · rename_i x r
    simp only [Bool.and_eq_true] at h
    refine (pa_cons (ihe _ h.1).pe (ihs _ h.2) (ckE_star h.1 _ _)).imp fun σ H Q ⟨μ, ρ, η, rl, rp, pg⟩ => ?_
    simp only [evp] at pg
    refine ⟨μ, ρ, η, rl, rp, pg.bind0 fun y η1 v μ1 H1 e1 st1 rp1 r1 pg1 => ?_⟩
    have pg1 : Pg _ _ (RP X.K) _ _ μ1 H1 _ _ := pg1.step st1 fun _ _ _ _ z => z
    refine ⟨μ1, ρ, η1, rl.step st1 rp, rp1, pg1.bind0 fun xs η3 vs μ3 H3 e3 st3 rp3 r3 pg3 => ?_⟩
    have pg3 : Pg _ _ (RP X.K) _ _ μ3 H3 _ _ := pg3.step st3 fun _ _ _ _ z => z
    exact pg3.ok_now rp3 (by show RVp _ _ _ _ _; exact ⟨v, vs, rfl, RV.step st3 rp1 _ _ r1.1, r3⟩)
  · cases h
theorem po_no {x : Option Expr} (h : ckO X.N P calm sc .no x = true) : PO X x (tO X.K (XRof X.mg P) C W .no) := by
  unfold ckO at h
  split at h
  · refine po_none.imp fun σ H Q ⟨μ, ρ, η, rl, rp, pg⟩ => ?_
    simp only [evo] at pg
    exact pg.ok_now rp rfl
  · cases h
theorem po_so {e : E} {x : Option Expr} (ihe : ∀ x, ckE X.N P calm sc e x = true → SnE P C X W e x) (h : ckO X.N P calm sc (.so e) x = true) : PO X x (tO X.K (XRof X.mg P) C W (.so e)) := by
  unfold ckO at h
  split at h
  · refine (po_some (ihe _ h).pe).imp fun σ H Q ⟨μ, ρ, η, rl, rp, pg⟩ => ?_
    simp only [evo] at pg
    refine ⟨μ, ρ, η, rl, rp, pg.bind0 fun y η1 v μ1 H1 e1 st1 rp1 r1 pg1 => ?_⟩
    have pg1 : Pg _ _ (fun _ _ _ a b => a = b) _ _ μ1 H1 _ _ := pg1.step st1 fun _ _ _ _ z => z
    split at pg1
    · have h1 := r1.1
      simp only [RV] at h1; subst h1
      exact ⟨_, rfl, pg1.ok_now rp1 rfl⟩
    · exact pg1.elim
  · cases h
theorem pts_no {l : List Expr} (h : ckC X.N P calm sc .no l = true) : PTs X l (tCd X.K (XRof X.mg P) C W .no) := by
  unfold ckC at h
  split at h
  · refine pts_nil.imp fun σ H Q ⟨μ, ρ, η, rl, rp, pg⟩ => ?_
    simp only [evc] at pg
    obtain ⟨c, e, q⟩ := pg.ok_now rp bl_rf
    cases e
    exact q
  · cases h
theorem pts_so {e : E} {l : List Expr} (ihe : ∀ x, ckE X.N P calm sc e x = true → SnE P C X W e x) (h : ckC X.N P calm sc (.so e) l = true) : PTs X l (tCd X.K (XRof X.mg P) C W (.so e)) := by
  unfold ckC at h
  split at h
  · simp only [Bool.and_eq_true] at h
    refine (pts_one ((ihe _ h.1).pt h.2)).imp fun σ H Q ⟨μ, ρ, η, rl, rp, pg⟩ => ?_
    simp only [evc] at pg
    exact ⟨μ, ρ, η, rl, rp, pg⟩
  · cases h
/-! ### comprehensions -/
/-- the block's context is one of ours -/
theorem Gd.blk (G : Gd P k C calm sc W X) (s : Shared) (H : Hp) (scope : Scope) (cl : List (Str × Addr)) (Ca : Addr) (fp : List Addr) : Gd P k C calm (relS scope sc) W0 (X.blk s H scope (compEnvC scope cl Ca X.env) fp) where
  nd := G.nd
  sc := by
    have e := G.sc
    subst e
    rfl
  cm := G.cm
  room := G.room
  units := G.units
  tk := fun _ _ h => by
    obtain ⟨_, _, _, _, _, _, _, _, _, _, _, _, _, _, _, _, h⟩ := h
    exact h
  blt := G.blt
  glb := G.glb
  fns := G.fns
theorem StOk.blk (G : Gd P k C calm sc W X) (s : Shared) (H : Hp) (scope : Scope) (cl : List (Str × Addr)) (Ca : Addr) (fp : List Addr) : StOk scope (X.blk s H scope (compEnvC scope cl Ca X.env) fp) where
  nd := G.nd
  loc := fun x hx => by
    have e := G.sc
    have hk : ∀ kk, kk ≠ NameKind.free → scope.names.lookup x = some kk → (relS scope sc).names.lookup x = some kk := fun kk nk h => lookup_relS_keep nk h
    have es : (X.blk s H scope (compEnvC scope cl Ca X.env) fp).env.scope = relS scope sc := by subst e; rfl
    rw [es]
    rcases hx with h | h
    · exact ⟨.inl (hk _ (by decide) h), .inr (hk _ (by decide) h)⟩
    · exact ⟨.inr (hk _ (by decide) h), .inl (by show (scope.names.lookup x == some .cell) = true; rw [h] <;> rfl)⟩
/-- what the rules of a comprehension ask -/
structure CompParts (P : Tab) (C : Nat → List D → Hep → R D) (X : Cx) (W : WX) (elt : E) (t : T) (it : I) (c : OE) (vs : List Nat) (ee tg iter : Expr) (ifs : List Expr) (scope : Scope) : Prop where
  hi : PI X tg iter (tI X.K (XRof X.mg P) C W it)
  ok : BlkOk X.N X.env.scope scope (vs.map fun i => (X.N.getD i "", i))
  hg : ∀ (s : Shared) (H : Hp) (Ca : Addr) (cl : List (Str × Addr)) (fp : List Addr), PG (X.blk s H scope (compEnvC scope cl Ca X.env) fp) tg (gT X.K t)
  ht : ∀ (s : Shared) (H : Hp) (Ca : Addr) (cl : List (Str × Addr)) (fp : List Addr), PTs (X.blk s H scope (compEnvC scope cl Ca X.env) fp) ifs (tCd X.K (XRof X.mg P) C W0 c)
  he : ∀ (s : Shared) (H : Hp) (Ca : Addr) (cl : List (Str × Addr)) (fp : List Addr), PE (X.blk s H scope (compEnvC scope cl Ca X.env) fp) ee (tE X.K (XRof X.mg P) C W0 elt)
  hs : ∀ x, foldedSetIterable iter X.env x = pure x
  sl : ∀ i, i ∈ T.slots t → i ∈ vs
theorem rd_comp {elt : E} {t : T} {it : I} {c : OE} {vs : List Nat} (sl : ∀ i, i ∈ T.slots t → i ∈ vs) {own : List (Str × Nat)} (ho : own.map (·.2) = vs) {σ : L2.St} {H : Hp} {Q : VK} (q : tE X.K (XRof X.mg P) C W (.comp elt t it c vs) σ H Q) :
    tLc (tI X.K (XRof X.mg P) C W it) (gT X.K t) (tCd X.K (XRof X.mg P) C W0 c) (tE X.K (XRof X.mg P) C W0 elt) (own.map (·.2)) σ H Q := by
  obtain ⟨μ, ρ, η, rl, rp, pg⟩ := q
  simp only [ev] at pg
  rw [ho]
  refine ⟨μ, ρ, η, rl, rp, pg.bind0 fun p η1 J μ1 H1 e1 st1 rp1 r1 pg1 => ?_⟩
  have pg1 := pg1.nxt st1 rp1
  exact compL_sound (rl.step st1 rp) rp1 r1 (evI_watch it e1) sl pg1
theorem comp_parts {elt : E} {t : T} {it : I} {c : OE} {vs : List Nat} {x : Expr} (G : Gd P k C calm sc W X)
    (ihe : ∀ (sc : Scope) (W : WX) (X' : Cx), Gd P k C calm sc W X' → X'.N = X.N → ∀ x, ckE X.N P calm sc elt x = true → PE X' x (tE X'.K (XRof X'.mg P) C W elt))
    (ihc : ∀ (sc : Scope) (W : WX) (X' : Cx), Gd P k C calm sc W X' → X'.N = X.N → ∀ l, ckC X.N P calm sc c l = true → PTs X' l (tCd X'.K (XRof X'.mg P) C W c))
    (ihi : ∀ tg x, ckI X.N P calm sc it tg x = true → PI X tg x (tI X.K (XRof X.mg P) C W it))
    (h : ckE X.N P calm sc (.comp elt t it c vs) x = true) :
    ∃ ee tg iter ifs scope p, x = .ListComp ee [⟨tg, iter, ifs, 0⟩] scope p ∧ calm = true ∧ CompParts P C X W elt t it c vs ee tg iter ifs scope := by
  unfold ckE at h
  split at h
  · rename_i ee tg iter ifs scope p
    simp only [Bool.and_eq_true] at h
    obtain ⟨⟨⟨⟨⟨⟨hc, h1⟩, h2⟩, h3⟩, h4⟩, h5⟩, h6⟩ := h
    refine ⟨ee, tg, iter, ifs, scope, p, rfl, hc, ihi _ _ h6, ?_, fun s H Ca cl fp => ?_, fun s H Ca cl fp => ?_, fun s H Ca cl fp => ?_, ckI_fold h6 _, fun i hi => ?_⟩
    · rw [G.sc]; exact blkOk_by h1
    · exact pg_T (X := X.blk s H scope (compEnvC scope cl Ca X.env) fp) (G.cm hc) (StOk.blk G s H scope cl Ca fp) t tg h2
    · exact ihc _ _ _ (G.blk s H scope cl Ca fp) rfl _ h5
    · exact ihe _ _ _ (G.blk s H scope cl Ca fp) rfl _ h4
    · have := List.all_eq_true.mp h3 i hi
      simpa using this
  · cases h
theorem own_map (N : List Str) (vs : List Nat) : (vs.map fun i => (N.getD i "", i)).map (·.2) = vs := by
  rw [List.map_map]
  exact List.map_id vs
theorem sn_comp {elt : E} {t : T} {it : I} {c : OE} {vs : List Nat} {x : Expr} (G : Gd P k C calm sc W X)
    (ihe : ∀ (sc : Scope) (W : WX) (X' : Cx), Gd P k C calm sc W X' → X'.N = X.N → ∀ x, ckE X.N P calm sc elt x = true → PE X' x (tE X'.K (XRof X'.mg P) C W elt))
    (ihc : ∀ (sc : Scope) (W : WX) (X' : Cx), Gd P k C calm sc W X' → X'.N = X.N → ∀ l, ckC X.N P calm sc c l = true → PTs X' l (tCd X'.K (XRof X'.mg P) C W c))
    (ihi : ∀ tg x, ckI X.N P calm sc it tg x = true → PI X tg x (tI X.K (XRof X.mg P) C W it))
    (h : ckE X.N P calm sc (.comp elt t it c vs) x = true) : SnE P C X W (.comp elt t it c vs) x := by
  obtain ⟨ee, tg, iter, ifs, scope, p, rfl, hc, Z⟩ := comp_parts G ihe ihc ihi h
  exact .of ((pe_lc (G.cm hc) G.nd Z.hi Z.ok Z.hg Z.ht Z.he Z.hs).imp fun σ H Q q => rd_comp Z.sl (own_map _ _) q) (fun _ _ _ q => nomatch q) fun _ => rfl
end
end Ev

set_option Elab.async false
set_option linter.all false
set_option maxRecDepth 100000
namespace Ev
open PySem
open PySem.Spec
open PyProof.Rows
open L2
section
variable {P : Tab} {k : Nat} {C : Nat → List D → Hep → R D} {calm : Bool} {sc : Scope} {W : WX} {X : Cx}
theorem Pg.nxI {α β : Type} {K : PySem.W.Frag} {XR : XRel} {σ : L2.St} {μ μ1 : List Addr} {H H1 : Hp} {Rel0 : Hp → List Addr → α → β → Prop} {r : R α} {Q : β → Hp → Prop} (h : Pg K XR (fun _ => Rel0) σ W μ H r Q) (s : Step μ H μ1 H1) : Pg K XR (fun _ => Rel0) σ W μ1 H1 r Q :=
  h.step s fun _ _ _ _ z => z
/-- one value, then what it is -/
theorem rd_one {β : Type} {a : E} {σ : L2.St} {H : Hp} {kk : D → Hep → R β} {γ : Type} {Rel0 : Hp → List Addr → β → γ → Prop} {Q : γ → Hp → Prop} {Q' : VK} {μ : List Addr} {ρ : Lo} {η : Hep} (rl : RL X.K H μ ρ σ) (rp : Rp X.K μ η H)
    (pg : Pg X.K (XRof X.mg P) (fun _ => Rel0) σ W μ H ((ev C a ρ η).bind kk) Q)
    (f : ∀ x η1 v μ1 H1, RL X.K H1 μ1 ρ σ → Rp X.K μ1 η1 H1 → RV X.K H1 μ1 x v → Pg X.K (XRof X.mg P) (fun _ => Rel0) σ W μ1 H1 (kk x η1) Q → Q' v H1) : tE X.K (XRof X.mg P) C W a σ H Q' :=
  ⟨μ, ρ, η, rl, rp, pg.bind0 fun x η1 v μ1 H1 _ st1 rp1 r1 pg1 => f x η1 v μ1 H1 (rl.step st1 rp) rp1 r1.1 (pg1.nxI st1)⟩
theorem blt_ne {x : Str} (h : x ∈ bltNames) : (x == ("__debug__" : Str)) = false := by
  revert x
  decide +kernel
theorem pi_val {e : E} {tg x : Expr} (ihe : ∀ x, ckE X.N P calm sc e x = true → SnE P C X W e x) (h : ckI X.N P calm sc (.val e) tg x = true) : PI X tg x (tI X.K (XRof X.mg P) C W (.val e)) := by
  have pe := (ihe x (by simpa [ckI] using h)).pe
  refine (PI.or (pi_list pe) (pi_tup pe)).imp fun σ H R ⟨μ, ρ, η, rl, rp, pg⟩ => ?_
  simp only [evI] at pg
  have go : ∀ (b : Bool), (∀ x η1, ev C e ρ η = .ok x η1 → isT x = b) → tE X.K (XRof X.mg P) C W e σ H fun v H1 => ∃ a, v = .ref a ∧ (∃ xs, Sq X.K b H1 a xs) ∧ R (if b = true then Itl X.K a else Itt X.K a) H1 := by
    intro b hb
    refine ⟨μ, ρ, η, rl, rp, pg.bind0 fun x η1 v μ1 H1 e1 st1 rp1 r1 pg1 => ?_⟩
    have pg1 := pg1.nxI st1
    cases hs : seqAny η1 x with
    | none => rw [hs] at pg1; exact pg1.elim
    | some xs =>
      rw [hs] at pg1
      obtain ⟨a, rfl⟩ := ref_of rp1 r1.1 hs
      have tb := hb x η1 e1
      obtain ⟨vs, h1, _⟩ := stand rp1 r1.1 hs Step.refl rp1 (watchOf_ok hs)
      rw [tb] at h1
      refine ⟨a, rfl, ⟨vs, h1⟩, ?_⟩
      refine pg1.ok_now rp1 ?_
      cases b with
      | true => exact it_list rp1 r1.1 hs tb
      | false => exact it_tup rp1 r1.1 hs tb
  cases he : ev C e ρ η with
  | ok x η1 =>
    cases ht : isT x with
    | true => exact .inl (go true fun x' η' e' => by rw [he] at e'; cases e'; exact ht)
    | false => exact .inr (go false fun x' η' e' => by rw [he] at e'; cases e'; exact ht)
  | exc c xs η1 => exact .inl (go true fun x' η' e' => by rw [he] at e'; cases e')
  | bad => exact .inl (go true fun x' η' e' => by rw [he] at e'; cases e')
theorem pi_enm {e : E} {tg x : Expr} (G : Gd P k C calm sc W X) (ihe : ∀ x, ckE X.N P calm sc e x = true → SnE P C X W e x) (h : ckI X.N P calm sc (.enm e) tg x = true) : PI X tg x (tI X.K (XRof X.mg P) C W (.enm e)) := by
  unfold ckI at h
  split at h
  · rename_i n p ea p2
    simp only [Bool.and_eq_true, decide_eq_true_eq] at h
    obtain ⟨⟨⟨⟨hc, rfl⟩, h1⟩, h2⟩, h3⟩ := h
    unfold isTup at h3
    split at h3
    · have pe := (ihe _ h2).pe
      have st := ckE_star h2 X.env []
      refine (pi_enumA (isG_gl G.sc h1) (G.blt _ (by decide +kernel)) (pa_cons pe pa_nil st) st).imp fun σ H R ⟨μ, ρ, η, rl, rp, pg⟩ => ?_
      simp only [evI] at pg
      refine rd_one rl rp pg fun x η1 v μ1 H1 rl1 rp1 rv1 pg1 => ?_
      cases hs : seqAny η1 x with
      | none => rw [hs] at pg1; exact pg1.elim
      | some xs =>
        rw [hs] at pg1
        obtain ⟨a, rfl⟩ := ref_of rp1 rv1 hs
        obtain ⟨vs, q1, _⟩ := stand rp1 rv1 hs Step.refl rp1 (watchOf_ok hs)
        cases ht : isT x with
        | true => rw [ht] at q1; exact ⟨a, vs, rfl, .inl ⟨q1, pg1.ok_now rp1 (it_enmL rp1 rv1 hs ht)⟩⟩
        | false => rw [ht] at q1; exact ⟨a, vs, rfl, .inr ⟨q1, pg1.ok_now rp1 (it_enmT rp1 rv1 hs ht)⟩⟩
    · cases h3
  · cases h
theorem pi_rev {e : E} {tg x : Expr} (G : Gd P k C calm sc W X) (ihe : ∀ x, ckE X.N P calm sc e x = true → SnE P C X W e x) (h : ckI X.N P calm sc (.rev e) tg x = true) : PI X tg x (tI X.K (XRof X.mg P) C W (.rev e)) := by
  unfold ckI at h
  split at h
  · rename_i n p ea p2
    simp only [Bool.and_eq_true, decide_eq_true_eq] at h
    obtain ⟨⟨⟨hc, rfl⟩, h1⟩, h2⟩ := h
    have pe := (ihe _ h2).pe
    refine (RT.pi_revA (isG_gl G.sc h1) (G.blt _ (by decide +kernel)) pe (ckE_star h2 X.env [])).imp fun σ H R ⟨μ, ρ, η, rl, rp, pg⟩ => ?_
    simp only [evI] at pg
    refine rd_one rl rp pg fun x η1 v μ1 H1 rl1 rp1 rv1 pg1 => ?_
    cases hs : seqAny η1 x with
    | none => rw [hs] at pg1; exact pg1.elim
    | some xs =>
      rw [hs] at pg1
      obtain ⟨a, rfl⟩ := ref_of rp1 rv1 hs
      obtain ⟨vs, q1, q2⟩ := stand rp1 rv1 hs Step.refl rp1 (watchOf_ok hs)
      cases ht : isT x with
      | true => rw [ht] at q1; exact ⟨a, vs, rfl, .inl ⟨q1, by rw [← q2.length]; exact pg1.ok_now rp1 (it_revL rp1 rv1 hs ht)⟩⟩
      | false => rw [ht] at q1; exact ⟨a, vs, rfl, .inr ⟨q1, by rw [← q2.length]; exact pg1.ok_now rp1 (it_revT rp1 rv1 hs ht)⟩⟩
  · cases h
theorem pi_zip2 {a b : E} {tg x : Expr} (G : Gd P k C calm sc W X) (iha : ∀ x, ckE X.N P calm sc a x = true → SnE P C X W a x) (ihb : ∀ x, ckE X.N P calm sc b x = true → SnE P C X W b x) (h : ckI X.N P calm sc (.zip2 a b) tg x = true) :
    PI X tg x (tI X.K (XRof X.mg P) C W (.zip2 a b)) := by
  unfold ckI at h
  split at h
  · rename_i n p ea eb p2
    simp only [Bool.and_eq_true, decide_eq_true_eq] at h
    obtain ⟨⟨⟨⟨⟨hc, rfl⟩, h1⟩, h2⟩, h3⟩, h4⟩ := h
    unfold isTup at h4
    split at h4
    · have s1 := ckE_star h2 X.env [eb]
      have s2 := ckE_star h3 X.env []
      refine (pi_zipM (G.cm hc) (isG_gl G.sc h1) (G.blt _ (by decide +kernel)) (pa_cons (iha _ h2).pe (pa_cons (ihb _ h3).pe pa_nil s2) s1) s1 (by rw [s2] <;> rfl)).imp fun σ H R ⟨μ, ρ, η, rl, rp, pg⟩ => ?_
      simp only [evI] at pg
      refine rd_one rl rp pg fun x η1 v μ1 H1 rl1 rp1 rv1 pg1 => ?_
      refine ⟨μ1, ρ, η1, rl1, rp1, pg1.bind0 fun y η2 w μ2 H2 _ st2 rp2 r2 pg2 => ?_⟩
      have rv1 := RV.step st2 rp1 _ _ rv1
      have pg2 := pg2.nxI st2
      split at pg2
      · rename_i xs ys hs hs'
        obtain ⟨a, rfl⟩ := ref_of rp2 rv1 hs
        obtain ⟨b, rfl⟩ := ref_of rp2 r2.1 hs'
        obtain ⟨vs, q1, _⟩ := stand rp2 rv1 hs Step.refl rp2 (watchOf_ok hs)
        obtain ⟨ws, q2, _⟩ := stand rp2 r2.1 hs' Step.refl rp2 (watchOf_ok hs')
        exact ⟨_, _, a, b, vs, ws, rfl, q1, q2, pg2.ok_now rp2 (it_zip rp2 rv1 r2.1 hs hs')⟩
      · exact pg2.elim
    · cases h4
  · cases h
theorem pi_rng1 {a : E} {tg x : Expr} (G : Gd P k C calm sc W X) (iha : ∀ x, ckE X.N P calm sc a x = true → SnE P C X W a x) (h : ckI X.N P calm sc (.rng1 a) tg x = true) : PI X tg x (tI X.K (XRof X.mg P) C W (.rng1 a)) := by
  unfold ckI at h
  split at h
  · rename_i n p ea p2
    simp only [Bool.and_eq_true, decide_eq_true_eq] at h
    obtain ⟨⟨⟨hc, rfl⟩, h1⟩, h2⟩ := h
    have st := ckE_star h2 X.env []
    refine (pi_range1 (isG_gl G.sc h1) (G.blt _ (by decide +kernel)) (pa_cons (iha _ h2).pe pa_nil st) st).imp fun σ H R ⟨μ, ρ, η, rl, rp, pg⟩ => ?_
    simp only [evI] at pg
    refine rd_one rl rp pg fun x η1 v μ1 H1 rl1 rp1 rv1 pg1 => ?_
    split at pg1
    · split at pg1
      · rename_i n hb
        simp only [RV] at rv1; subst rv1
        simp only [big, decide_eq_true_eq] at hb
        exact ⟨n, rfl, hb.1, hb.2, pg1.ok_now rp1 it_rng⟩
      · exact pg1.elim
    · exact pg1.elim
  · cases h
theorem pi_rng2 {a b : E} {tg x : Expr} (G : Gd P k C calm sc W X) (iha : ∀ x, ckE X.N P calm sc a x = true → SnE P C X W a x) (ihb : ∀ x, ckE X.N P calm sc b x = true → SnE P C X W b x) (h : ckI X.N P calm sc (.rng2 a b) tg x = true) : PI X tg x (tI X.K (XRof X.mg P) C W (.rng2 a b)) := by
  unfold ckI at h
  split at h
  · rename_i n p ea eb p2
    simp only [Bool.and_eq_true, decide_eq_true_eq] at h
    obtain ⟨⟨⟨⟨hc, rfl⟩, h1⟩, h2⟩, h3⟩ := h
    have s1 := ckE_star h2 X.env [eb]
    have s2 := ckE_star h3 X.env []
    refine (pi_range2 (isG_gl G.sc h1) (G.blt _ (by decide +kernel)) (pa_cons (iha _ h2).pe (pa_cons (ihb _ h3).pe pa_nil s2) s1) (by rw [s1, s2] <;> rfl) (by rw [s2] <;> rfl)).imp fun σ H R ⟨μ, ρ, η, rl, rp, pg⟩ => ?_
    simp only [evI] at pg
    refine rd_one rl rp pg fun x η1 v μ1 H1 rl1 rp1 rv1 pg1 => ?_
    refine ⟨μ1, ρ, η1, rl1, rp1, pg1.bind0 fun y η2 w μ2 H2 _ st2 rp2 r2 pg2 => ?_⟩
    have rv1 := RV.step st2 rp1 _ _ rv1
    have rv2 := r2.1
    have pg2 := pg2.nxI st2
    split at pg2
    · split at pg2
      · rename_i i j hb
        simp only [RV] at rv1 rv2; subst rv1; subst rv2
        simp only [big, Bool.and_eq_true, decide_eq_true_eq] at hb
        exact ⟨_, _, rfl, ⟨hb.1.1, hb.1.2, hb.2.1, hb.2.2⟩, pg2.ok_now rp2 it_rng⟩
      · exact pg2.elim
    · exact pg2.elim
  · cases h
theorem pi_rng3 {a b c : E} {tg x : Expr} (G : Gd P k C calm sc W X) (iha : ∀ x, ckE X.N P calm sc a x = true → SnE P C X W a x) (ihb : ∀ x, ckE X.N P calm sc b x = true → SnE P C X W b x) (ihc : ∀ x, ckE X.N P calm sc c x = true → SnE P C X W c x) (h : ckI X.N P calm sc (.rng3 a b c) tg x = true) :
    PI X tg x (tI X.K (XRof X.mg P) C W (.rng3 a b c)) := by
  unfold ckI at h
  split at h
  · rename_i n p ea eb ec p2
    simp only [Bool.and_eq_true, decide_eq_true_eq] at h
    obtain ⟨⟨⟨⟨⟨hc, rfl⟩, h1⟩, h2⟩, h3⟩, h4⟩ := h
    have s1 := ckE_star h2 X.env [eb, ec]
    have s2 := ckE_star h3 X.env [ec]
    have s3 := ckE_star h4 X.env []
    refine (pi_range3 (isG_gl G.sc h1) (G.blt _ (by decide +kernel)) (pa_cons (iha _ h2).pe (pa_cons (ihb _ h3).pe (pa_cons (ihc _ h4).pe pa_nil s3) s2) s1) s1 (by rw [s2, s3] <;> rfl)).imp fun σ H R ⟨μ, ρ, η, rl, rp, pg⟩ => ?_
    simp only [evI] at pg
    refine rd_one rl rp pg fun x η1 v μ1 H1 rl1 rp1 rv1 pg1 => ?_
    refine ⟨μ1, ρ, η1, rl1, rp1, pg1.bind0 fun y η2 w μ2 H2 _ st2 rp2 r2 pg2 => ?_⟩
    have rv1 := RV.step st2 rp1 _ _ rv1
    have rv2 := r2.1
    have pg2 := pg2.nxI st2
    refine ⟨μ2, ρ, η2, rl1.step st2 rp1, rp2, pg2.bind0 fun z η3 w3 μ3 H3 _ st3 rp3 r3 pg3 => ?_⟩
    have rv1 := RV.step st3 rp2 _ _ rv1
    have rv2 := RV.step st3 rp2 _ _ rv2
    have rv3 := r3.1
    have pg3 := pg3.nxI st3
    split at pg3
    · split at pg3
      · rename_i i j kk hb
        simp only [RV] at rv1 rv2 rv3; subst rv1; subst rv2; subst rv3
        simp only [big, Bool.and_eq_true, decide_eq_true_eq] at hb
        obtain ⟨⟨b1, b2⟩, rfl⟩ := hb
        exact ⟨_, _, -1, _, rfl, RgC.neg b1.1 b1.2 b2.1 b2.2, pg3.ok_now rp3 it_rngC⟩
      · exact pg3.elim
    · exact pg3.elim
  · cases h
end
mutual
theorem snE {P : Tab} {k : Nat} {C : Nat → List D → Hep → R D} : ∀ (e : E) {calm : Bool} {sc : Scope} {W : WX} {X : Cx}, Gd P k C calm sc W X → ∀ x, ckE X.N P calm sc e x = true → SnE P C X W e x
  | .lit d, _, _, _, _, G, x, h => sn_lit h
  | .var i, _, _, _, _, G, x, h => sn_var G h
  | .glb g d, _, _, _, _, G, x, h => sn_glb G h
  | .bin o a b, _, _, _, _, G, x, h => sn_bin (snE a G) (snE b G) h
  | .neg a, _, _, _, _, G, x, h => sn_neg (snE a G) h
  | .cmp o a b, _, _, _, _, G, x, h => sn_cmp G (snE a G) (snE b G) h
  | .cmp2 o o' a b c, _, _, _, _, G, x, h => sn_cmp2 G (snE a G) (snE b G) (snE c G) h
  | .isn n a, _, _, _, _, G, x, h => sn_isn (snE a G) h
  | .and a b, _, _, _, _, G, x, h => sn_and (snE a G) (snE b G) h
  | .or a b, _, _, _, _, G, x, h => sn_or (snE a G) (snE b G) h
  | .not a, _, _, _, _, G, x, h => sn_not (snE a G) h
  | .ite c a b, _, _, _, _, G, x, h => sn_ite (snE c G) (snE a G) (snE b G) h
  | .tup es, _, _, _, _, G, x, h => sn_tup (snEs es G) h
  | .lst es, _, _, _, _, G, x, h => sn_lst (snEs es G) h
  | .idx a i, _, _, _, _, G, x, h => sn_idx (snE a G) (snE i G) h
  | .slc a lo hi, _, _, _, _, G, x, h => sn_slc (snE a G) (snO lo G) (snO hi G) h
  | .call f es, _, _, _, _, G, x, h => sn_call G (snEs es G) h
  | .prim p es, _, _, _, _, G, x, h => sn_prim G (snEp es G) h
  | .isi a ts b, _, _, _, _, G, x, h => sn_isi G (snE a G) h
  | .meth m o es, _, _, _, _, G, x, h => sn_meth (snE o G) (snEs es G) h
  | .comp elt t it c vs, _, _, _, _, G, x, h => sn_comp G (fun sc W X' G' hN x h => (snE elt G' x (by rw [hN]; exact h)).pe) (fun sc W X' G' hN l h => snC c G' l (by rw [hN]; exact h)) (snI it G) h
theorem snEs {P : Tab} {k : Nat} {C : Nat → List D → Hep → R D} : ∀ (es : Es) {calm : Bool} {sc : Scope} {W : WX} {X : Cx}, Gd P k C calm sc W X → ∀ l, ckEs X.N P calm sc es l = true → PA X l (tEs X.K (XRof X.mg P) C W es)
  | .nil, _, _, _, _, G, l, h => pa_evs_nil h
  | .cons e es, _, _, _, _, G, l, h => pa_evs_cons (snE e G) (snEs es G) h
theorem snEp {P : Tab} {k : Nat} {C : Nat → List D → Hep → R D} : ∀ (es : Es) {calm : Bool} {sc : Scope} {W : WX} {X : Cx}, Gd P k C calm sc W X → ∀ l, ckEs X.N P calm sc es l = true → PA X l (tEp X.K (XRof X.mg P) C W es)
  | .nil, _, _, _, _, G, l, h => pa_evp_nil h
  | .cons e es, _, _, _, _, G, l, h => pa_evp_cons (snE e G) (snEp es G) h
theorem snO {P : Tab} {k : Nat} {C : Nat → List D → Hep → R D} : ∀ (e : OE) {calm : Bool} {sc : Scope} {W : WX} {X : Cx}, Gd P k C calm sc W X → ∀ x, ckO X.N P calm sc e x = true → PO X x (tO X.K (XRof X.mg P) C W e)
  | .no, _, _, _, _, G, x, h => po_no h
  | .so e, _, _, _, _, G, x, h => po_so (snE e G) h
theorem snC {P : Tab} {k : Nat} {C : Nat → List D → Hep → R D} : ∀ (e : OE) {calm : Bool} {sc : Scope} {W : WX} {X : Cx}, Gd P k C calm sc W X → ∀ l, ckC X.N P calm sc e l = true → PTs X l (tCd X.K (XRof X.mg P) C W e)
  | .no, _, _, _, _, G, l, h => pts_no h
  | .so e, _, _, _, _, G, l, h => pts_so (snE e G) h
theorem snI {P : Tab} {k : Nat} {C : Nat → List D → Hep → R D} : ∀ (it : I) {calm : Bool} {sc : Scope} {W : WX} {X : Cx}, Gd P k C calm sc W X → ∀ tg x, ckI X.N P calm sc it tg x = true → PI X tg x (tI X.K (XRof X.mg P) C W it)
  | .val e, _, _, _, _, G, tg, x, h => pi_val (snE e G) h
  | .rng1 a, _, _, _, _, G, tg, x, h => pi_rng1 G (snE a G) h
  | .rng2 a b, _, _, _, _, G, tg, x, h => pi_rng2 G (snE a G) (snE b G) h
  | .rng3 a b c, _, _, _, _, G, tg, x, h => pi_rng3 G (snE a G) (snE b G) (snE c G) h
  | .enm e, _, _, _, _, G, tg, x, h => pi_enm G (snE e G) h
  | .zip2 a b, _, _, _, _, G, tg, x, h => pi_zip2 G (snE a G) (snE b G) h
  | .rev e, _, _, _, _, G, tg, x, h => pi_rev G (snE e G) h
end
end Ev

set_option Elab.async false
set_option linter.all false
set_option maxRecDepth 100000
/-! # Part B: soundness of statements -/
namespace Ev
open PySem
open PySem.Spec
open PyProof.Rows
open L2

/-! ## the text of statements -/
/-- the names that two or three stores side by side would be swapped for -/
def swNames (sc : Scope) (line : Nat) (ts : List Expr) : List Str := ts.filterMap fun
  | .Name id pos => if sc.names.lookup id == some .local && pos.line == line then some id else none
  | _ => none
/-- the stores stand in their order -/
def noSwap (sc : Scope) (ts vs : List Expr) : Bool :=
  !(ts.length == 2 || ts.length == 3) || vs.length != ts.length || (swNames sc ((ts.head?.map (·.pos.line)).getD 0) ts).length != ts.length || vs.all (foldedForSure 8)
def plainSwap (vs : List Expr) : Bool := !vs.all (foldedForSure 8) && !vs.all (constantsAlone 8)
section
variable (N : List Str) (P : Tab)
def ckAsg (calm : Bool) (sc : Scope) (t : T) (e : E) (tg v : Expr) (line : Nat) : Bool :=
  ckT N sc t tg && ckE N P calm sc e v && (match tg, v with
    | .Name y py, .ListComp _ _ scope p => decide (sc.names.lookup y = some .local) && (py.line == p.line) && !(scope.names.any fun (n, k) => n == y && (k == .local || k == .cell)) && decide (sc.kind = .function) || decide (sc.names.lookup y = some .cell)
    | .Name _ _, .SetComp .. => false
    | .Name _ _, .DictComp .. => false
    | .Name _ _, _ => true
    | .Tuple ts _ _, .Tuple vs _ _ => calm && noSwap sc ts vs
    | .Tuple _ _ _, _ => calm
    | _, _ => false)
mutual
def ckS (calm : Bool) (sc : Scope) : S → Stmt → Bool
  | .asg t e, x => match x with
    | .Assign [tg] v p => ckAsg N P calm sc t e tg v p.line
    | _ => false
  | .par i j a b, x => match x with
    | .Assign [.Tuple [.Name y py, .Name z pz] _ _] (.Tuple [ea, eb] _ _) _ => calm && decide (N[i]? = some y) && decide (N[j]? = some z) && decide (i ≠ j) && decide (y ≠ z) && decide (sc.names.lookup y = some .local) && decide (sc.names.lookup z = some .local) &&
        (pz.line == py.line) && plainSwap [ea, eb] && decide (sc.kind = .function) && ckE N P calm sc a ea && ckE N P calm sc b eb
    | _ => false
  | .par3 i j l a b c, x => match x with
    | .Assign [.Tuple [.Name y py, .Name z pz, .Name u pu] _ _] (.Tuple [ea, eb, ec] _ _) _ => calm && decide (N[i]? = some y) && decide (N[j]? = some z) && decide (N[l]? = some u) && decide (i ≠ j ∧ i ≠ l ∧ j ≠ l) && decide (y ≠ z ∧ y ≠ u ∧ z ≠ u) &&
        decide (sc.names.lookup y = some .local) && decide (sc.names.lookup z = some .local) && decide (sc.names.lookup u = some .local) &&
        (pz.line == py.line) && (pu.line == py.line) && plainSwap [ea, eb, ec] && decide (sc.kind = .function) && ckE N P calm sc a ea && ckE N P calm sc b eb && ckE N P calm sc c ec
    | _ => false
  | .sub o i e, x => match x with
    | .Assign [.Subscript eo ei _] v _ => ckE N P calm sc o eo && ckE N P calm sc i ei && ckE N P calm sc e v && !isSlice ei
    | _ => false
  | .aug i o e, x => match x with
    | .AugAssign (.Name y _) op v _ => decide (N[i]? = some y) && isL sc y && decide (op = bop o) && decide (o = .add ∨ o = .sub) && ckE N P calm sc e v
    | _ => false
  | .augS a i o e, x => match x with
    | .AugAssign (.Subscript eo ei _) op v _ => ckE N P calm sc a eo && ckE N P calm sc i ei && ckE N P calm sc e v && !isSlice ei && decide (op = bop o) && decide (o = .add ∨ o = .sub)
    | _ => false
  | .ret e, x => match x with
    | .Return (some v) _ => ckE N P calm sc e v
    | _ => false
  | .retN, x => match x with
    | .Return none _ => true
    | _ => false
  | .ex e, x => match x with
    | .Expr v _ => ckE N P calm sc e v && (match v with
      | .ListComp .. => false
      | .SetComp .. => false
      | .DictComp .. => false
      | _ => true)
    | _ => false
  | .pass, x => match x with
    | .Pass _ => true
    | _ => false
  | .brk, x => match x with
    | .Break _ => true
    | _ => false
  | .cnt, x => match x with
    | .Continue _ => true
    | _ => false
  | .ifs c a b, x => match x with
    | .If ec la lb _ => ckE N P calm sc c ec && tOk c && ckSs calm sc a la && ckSs calm sc b lb
    | _ => false
  | .whl c b, x => match x with
    | .While ec lb [] _ => ckE N P calm sc c ec && tOk c && ckSs calm sc b lb
    | _ => false
  | .fr t it b, x => match x with
    | .For tg iter lb [] _ => calm && ckT N sc t tg && ckI N P calm sc it tg iter && ckSs calm sc b lb
    | _ => false
  | .raise c es, x => match es, x with
    | .nil, .Raise (some (.Call (.Name n _) [] [] _)) none _ => calm && decide (P.ex.lookup c = some n) && isG sc n && okN n
    | _, _ => false
  | .tr b hs, x => match x with
    | .Try lb (h :: lh) [] [] _ => calm && ckSs calm sc b lb && ckHs sc hs (h :: lh)
    | _ => false
def ckSs (calm : Bool) (sc : Scope) : Ss → List Stmt → Bool
  | .nil, l => match l with
    | [] => true
    | _ => false
  | .cons s ss, l => match l with
    | x :: r => ckS calm sc s x && ckSs calm sc ss r
    | _ => false
def ckHs (sc : Scope) : Hs → List ExceptHandler → Bool
  | .nil, l => match l with
    | [] => true
    | _ => false
  | .cons c b hs, l => match l with
    | .ExceptHandler (some (.Name n _)) none (b0 :: lb) _ :: r => decide (P.ex.lookup c = some n) && isG sc n && okN n && ckSs false sc b (b0 :: lb) && ckHs sc hs r
    | _ => false
end
end

/-! ## what is wanted behind a statement -/
section
variable (K : PySem.W.Frag) (XR : XRel) (C : Nat → List D → Hep → R D)
def Ps (W : WX) (μ : List Addr) (H : Hp) (r : SR) (En : Ends) : Prop := match r with
  | .nx ρ η => ∀ σ' μ' H', Step μ H μ' H' → Rp K μ' η H' → RL K H' μ' ρ σ' → En.nx σ' H'
  | .rt d η => ∀ v μ' H', Step μ H μ' H' → Rp K μ' η H' → RF K H H' μ' d v → En.rt v H'
  | .bk ρ η => ∀ σ' μ' H', Step μ H μ' H' → Rp K μ' η H' → RL K H' μ' ρ σ' → En.bk σ' H'
  | .ct ρ η => ∀ σ' μ' H', Step μ H μ' H' → Rp K μ' η H' → RL K H' μ' ρ σ' → En.ct σ' H'
  | .exc c xs ρ η => ∀ cls dd σ' μ' H', Step μ H μ' H' → Rp K μ' η H' → RL K H' μ' ρ σ' → XR c xs cls dd H' → W cls dd σ' H'
  | .bad => False
def tS (W : WX) (s : S) : TS := fun En σ H => ∃ μ ρ η, RL K H μ ρ σ ∧ Rp K μ η H ∧ Ps K XR W μ H (exec C s ρ η) En
def tSs (W : WX) (ss : Ss) : TS := fun En σ H => ∃ μ ρ η, RL K H μ ρ σ ∧ Rp K μ η H ∧ Ps K XR W μ H (execs C ss ρ η) En
end
theorem _root_.L2.PS.imp {X : Cx} {st : Stmt} {t t' : TS} (h : PS X st t) (f : ∀ En σ H, t' En σ H → t En σ H) : PS X st t' := ⟨fun pins s σ H En I q => h.run pins s σ H En I (f _ _ _ q)⟩
theorem _root_.L2.PSs.imp {X : Cx} {st : List Stmt} {t t' : TS} (h : PSs X st t) (f : ∀ En σ H, t' En σ H → t En σ H) : PSs X st t' := ⟨fun pins s σ H En I q => h.run pins s σ H En I (f _ _ _ q)⟩
section
variable {K : PySem.W.Frag} {XR : XRel} {C : Nat → List D → Hep → R D} {W : WX} {σ : L2.St} {ρ : Lo} {μ μ1 : List Addr} {η η1 : Hep} {H H1 : Hp} {En : Ends} {r : SR}
theorem Ps.step (h : Ps K XR W μ H r En) (s : Step μ H μ1 H1) (rp : Rp K μ1 η1 H1) : Ps K XR W μ1 H1 r En := by
  cases r with
  | nx ρ η => exact fun σ' μ' H' s' r' l => h σ' μ' H' (s.trans s') r' l
  | rt d η => exact fun v μ' H' s' r' l => h v μ' H' (s.trans s') r' (RF.mono s ⟨_, rp⟩ _ _ _ _ l)
  | bk ρ η => exact fun σ' μ' H' s' r' l => h σ' μ' H' (s.trans s') r' l
  | ct ρ η => exact fun σ' μ' H' s' r' l => h σ' μ' H' (s.trans s') r' l
  | exc c xs ρ η => exact fun cls dd σ' μ' H' s' r' l x => h cls dd σ' μ' H' (s.trans s') r' l x
  | bad => exact h
theorem Ps.go {α β : Type} {Rel : Hp → Hp → List Addr → α → β → Prop} {x : R α} {k : α → Hep → SR} {Q : β → Hp → Prop} (rl : RL K H μ ρ σ) (rp : Rp K μ η H) (h : Ps K XR W μ H (x.go ρ k) En)
    (f : ∀ a η1 b μ1 H1, x = .ok a η1 → Step μ H μ1 H1 → Rp K μ1 η1 H1 → RL K H1 μ1 ρ σ → Rel H H1 μ1 a b → Ps K XR W μ1 H1 (k a η1) En → Q b H1) : Pg K XR Rel σ W μ H x Q := by
  cases x with
  | ok a η' => exact fun b μ' H' s' r' h' => f a η' b μ' H' rfl s' r' (rl.step s' rp) h' (h.step s' r')
  | exc c xs η' => exact fun cls dd μ' H' s' r' x => h cls dd σ μ' H' s' r' (rl.step s' rp) x
  | bad => exact h
/-- the same, with a cell for a fresh list -/
theorem Ps.own {x : R D} {k : D → Hep → SR} {Q : VK} (rl : RL K H μ ρ σ) (rp : Rp K μ η H) (h : Ps K XR W μ H (x.go ρ fun a η1 => (own a η1).go ρ k) En)
    (f : ∀ d v μ1 η1 H1, Step μ H μ1 H1 → Rp K μ1 η1 H1 → RL K H1 μ1 ρ σ → RV K H1 μ1 d v → d.isTl = false → Ps K XR W μ1 H1 (k d η1) En → Q v H1) : Pg K XR (RF K) σ W μ H x Q := by
  cases x with
  | ok a η' =>
    intro b μ' H' s' r' h'
    obtain ⟨d', μ2, η2, e2, _, st2, rp2, rv2, nt⟩ := own_ok s' r' h'
    have h : Ps K XR W μ H ((Ev.own a η').go ρ k) En := h
    rw [e2] at h
    exact f d' b μ2 η2 H' st2 rp2 (rl.step st2 rp) rv2 nt (h.step st2 rp2)
  | exc c xs η' => exact fun cls dd μ' H' s' r' x => h cls dd σ μ' H' s' r' (rl.step s' rp) x
  | bad => exact h
theorem Ps.nx_now {σ' : L2.St} (h : Ps K XR W μ H (.nx ρ η) En) (rp : Rp K μ η H) (rl : RL K H μ ρ σ') : En.nx σ' H := h σ' μ H Step.refl rp rl
end

/-- a statement's context -/
structure GS (P : Tab) (k : Nat) (C : Nat → List D → Hep → R D) (calm : Bool) (sc : Scope) (W : WX) (X : Cx) : Prop extends Gd P k C calm sc W X where
  po : PassesOwn (model X.prog X.w) X.A X.env X.xe
  stk : calm = true → X.stack = X.env :: X.outer ∧ X.env.frame = some X.env.locals
  fn : ∀ x, X.fn x = true
  exs : ∀ c x, P.ex.lookup c = some x → ∃ C, X.mg x = some (.ref C) ∧ PySem.W.excIn X.K C He.veBase "ValueError.__new__" = true ∧ PySem.W.keepIn X.K (.ref C) = true ∧ PySem.W.subIn X.K (.ref C) (.type "BaseException") = some true ∧ PySem.W.typeIn X.K (.ref C) = some (.type "type")
  exm : ∀ c x k y A B, P.ex.lookup c = some x → P.ex.lookup k = some y → X.mg x = some (.ref A) → X.mg y = some (.ref B) → PySem.W.exmOne X.K (.ref A) (.ref B) = some (decide (c = k))
theorem GS.st {P : Tab} {k : Nat} {C : Nat → List D → Hep → R D} {calm : Bool} {sc : Scope} {W : WX} {X : Cx} (G : GS P k C calm sc W X) : StOk sc X where
  nd := G.nd
  loc := fun x h => ⟨by rw [G.sc]; exact h, .inl (G.fn x)⟩

/-! ## statements, one by one -/
section
variable {P : Tab} {k : Nat} {C : Nat → List D → Hep → R D} {calm : Bool} {sc : Scope} {W : WX} {X : Cx}
theorem sw_other {v : Expr} {t : Option Expr} {l : Nat} {env : Env} (h : ∀ e g s p, v ≠ .ListComp e g s p) (h2 : ∀ e g s p, v ≠ .SetComp e g s p) (h3 : ∀ e k g s p, v ≠ .DictComp e k g s p) : swapsWith v t l env = pure false := by
  unfold swapsWith
  cases v with
  | ListComp e g s p => exact absurd rfl (h _ _ _ _)
  | SetComp e g s p => exact absurd rfl (h2 _ _ _ _)
  | DictComp e k g s p => exact absurd rfl (h3 _ _ _ _ _)
  | _ => rfl
theorem sw_tup {v : Expr} {ts : List Expr} {j : Nat} {p : Pos} {l : Nat} {env : Env} : swapsWith v (some (.Tuple ts j p)) l env = pure false := by
  unfold swapsWith
  cases v <;> rfl
theorem sw_sub {v o i : Expr} {p : Pos} {l : Nat} {env : Env} : swapsWith v (some (.Subscript o i p)) l env = pure false := by
  unfold swapsWith
  cases v <;> rfl
theorem sw_cell {e : Expr} {g : List Comprehension} {s : Scope} {p py : Pos} {y : Str} {l : Nat} {env : Env} (h : env.scope.names.lookup y = some .cell) : swapsWith (.ListComp e g s p) (some (.Name y py)) l env = pure false := by
  unfold swapsWith
  have hk : (env.kindOf y == some NameKind.local) = false := by
    unfold Env.kindOf
    rw [h]
    rfl
  show pure ((env.blockKind == .function && env.kindOf y == some .local && py.line == p.line) && _) = _
  rw [hk]
  simp
theorem ss_noTup {ts : List Expr} {j : Nat} {p : Pos} {v : Expr} {env : Env} (h : ∀ l j p, v ≠ .Tuple l j p) : swappedStores [.Tuple ts j p] v env = pure none := by
  unfold swappedStores
  cases v with
  | Tuple l j p => exact absurd rfl (h _ _ _)
  | _ => rfl
theorem ss_name {y : Str} {p : Pos} {v : Expr} {env : Env} : swappedStores [.Name y p] v env = pure none := by
  unfold swappedStores
  cases v <;> rfl
theorem ss_sub {o i : Expr} {p : Pos} {v : Expr} {env : Env} : swappedStores [.Subscript o i p] v env = pure none := by
  unfold swappedStores
  cases v <;> rfl
theorem kind_names (env : Env) (line : Nat) (ts : List Expr) : (ts.filterMap fun
    | .Name id pos => if env.kindOf id == some .local && pos.line == line then some id else none
    | _ => none) = swNames env.scope line ts := rfl
def starF (e : Expr) : Bool := match e with
  | .Starred .. => true
  | _ => false
theorem ss_none {ts vs : List Expr} {j j' : Nat} {p p' : Pos} {env : Env} (h : noSwap env.scope ts vs = true) (hs : vs.any starF = false) : swappedStores [.Tuple ts j p] (.Tuple vs j' p') env = pure none := by
  unfold swappedStores
  simp only [pure_bind]
  split
  · rfl
  rename_i c1
  split
  · rename_i c; exact absurd (show vs.any starF = true from c) (by rw [hs]; decide)
  split
  · rfl
  rename_i c3
  split
  · rfl
  rename_i c4
  exfalso
  simp only [Bool.or_eq_true, not_or] at c1 c3
  simp only [noSwap, Bool.or_eq_true] at h
  rcases h with ((h | h) | h) | h
  · exact c1.1.1 h
  · exact c1.1.2 h
  · exact c3.1 h
  · exact c4 h
theorem bk_fn {env : Env} (h : env.scope.kind = .function) : env.blockKind = .function := by
  unfold Env.blockKind
  rw [h]
  rfl
theorem not_star {N : List Str} {a : E} {x : Expr} (h : ckE N P calm sc a x = true) : starF x = false := by
  cases x with
  | Starred v p => cases a <;> simp [ckE] at h
  | _ => rfl
theorem ss_two {N : List Str} {y z : Str} {py pz pt p2 : Pos} {kt k2 : Nat} {a b : E} {ea eb : Expr} {env : Env} (hk : env.scope.kind = .function) (hy : env.scope.names.lookup y = some .local) (hz : env.scope.names.lookup z = some .local) (ne : y ≠ z) (hl : (pz.line == py.line) = true)
    (hp : plainSwap [ea, eb] = true) (ha : ckE N P calm sc a ea = true) (hb : ckE N P calm sc b eb = true) : swappedStores [.Tuple [.Name y py, .Name z pz] kt pt] (.Tuple [ea, eb] k2 p2) env = pure (some [y, z]) := by
  unfold swappedStores
  simp only [plainSwap, Bool.and_eq_true, Bool.not_eq_true'] at hp
  have e1 : (env.kindOf y == some NameKind.local) = true := by unfold Env.kindOf; rw [hy]; rfl
  have e2 : (env.kindOf z == some NameKind.local) = true := by unfold Env.kindOf; rw [hz]; rfl
  have n2 : ([y, z].eraseDups).length = 2 := by
    have : (z == y) = false := by simpa using Ne.symm ne
    simp [List.eraseDups_cons, this]
  simp only [pure_bind, bk_fn hk, List.any_cons, List.any_nil, List.filterMap_cons, List.filterMap_nil, e1, e2, List.head?_cons, Option.map_some, Option.getD_some, Expr.pos, hl, beq_self_eq_true, Bool.and_self, if_true, n2, hp.1, hp.2]
  refine Eq.trans (if_neg ?a) (Eq.trans (if_neg ?b) (Eq.trans (if_neg ?c) (Eq.trans (if_neg ?d) (if_neg ?e))))
  case a => simp
  case b => exact show ¬((starF ea || (starF eb || false)) = true) by rw [not_star ha, not_star hb]; decide
  case c => simp
  case d => simp
  case e => simp
theorem ss_three {N : List Str} {y z u : Str} {py pz pu pt p2 : Pos} {kt k2 : Nat} {a b c : E} {ea eb ec : Expr} {env : Env} (hk : env.scope.kind = .function) (hy : env.scope.names.lookup y = some .local) (hz : env.scope.names.lookup z = some .local) (hu : env.scope.names.lookup u = some .local)
    (n1 : y ≠ z) (n2 : y ≠ u) (n3 : z ≠ u) (hl : (pz.line == py.line) = true) (hl2 : (pu.line == py.line) = true)
    (hp : plainSwap [ea, eb, ec] = true) (ha : ckE N P calm sc a ea = true) (hb : ckE N P calm sc b eb = true) (hc : ckE N P calm sc c ec = true) : swappedStores [.Tuple [.Name y py, .Name z pz, .Name u pu] kt pt] (.Tuple [ea, eb, ec] k2 p2) env = pure (some [y, z, u]) := by
  unfold swappedStores
  simp only [plainSwap, Bool.and_eq_true, Bool.not_eq_true'] at hp
  have e1 : (env.kindOf y == some NameKind.local) = true := by unfold Env.kindOf; rw [hy]; rfl
  have e2 : (env.kindOf z == some NameKind.local) = true := by unfold Env.kindOf; rw [hz]; rfl
  have e3 : (env.kindOf u == some NameKind.local) = true := by unfold Env.kindOf; rw [hu]; rfl
  have nn : ([y, z, u].eraseDups).length = 3 := by
    have m1 : (z == y) = false := by simpa using Ne.symm n1
    have m2 : (u == y) = false := by simpa using Ne.symm n2
    have m3 : (u == z) = false := by simpa using Ne.symm n3
    simp [List.eraseDups_cons, m1, m2, m3]
  simp only [pure_bind, bk_fn hk, List.any_cons, List.any_nil, List.filterMap_cons, List.filterMap_nil, e1, e2, e3, List.head?_cons, Option.map_some, Option.getD_some, Expr.pos, hl, hl2, beq_self_eq_true, Bool.and_self, if_true, nn, hp.1, hp.2]
  refine Eq.trans (if_neg ?a) (Eq.trans (if_neg ?b) (Eq.trans (if_neg ?c) (Eq.trans (if_neg ?d) (if_neg ?e))))
  case a => simp
  case b => exact show ¬((starF ea || (starF eb || (starF ec || false))) = true) by rw [not_star ha, not_star hb, not_star hc]; decide
  case c => simp
  case d => simp
  case e => simp
end
end Ev

set_option Elab.async false
set_option linter.all false
set_option maxRecDepth 100000
namespace Ev
open PySem
open PySem.Spec
open PyProof.Rows
open L2
section
variable {P : Tab} {k : Nat} {C : Nat → List D → Hep → R D} {calm : Bool} {sc : Scope} {W : WX} {X : Cx}
theorem sole_tup {v : Expr} {ts : List Expr} {j : Nat} {p : Pos} {l : Nat} {env : Env} : swapsWithSole [.Tuple ts j p] v l env = pure false := by
  show swapsWith v (some (.Tuple ts j p)) l env = pure false
  exact sw_tup (v := v) (ts := ts) (j := j) (p := p) (l := l) (env := env)
theorem sole_sub {v o i : Expr} {p : Pos} {l : Nat} {env : Env} : swapsWithSole [.Subscript o i p] v l env = pure false := by
  show swapsWith v (some (.Subscript o i p)) l env = pure false
  exact sw_sub (v := v) (o := o) (i := i) (p := p) (l := l) (env := env)
theorem es_nostar {N : List Str} : ∀ (es : Es) (l : List Expr), ckEs N P calm sc es l = true → l.any starF = false
  | .nil, l, h => by unfold ckEs at h; split at h <;> first | rfl | cases h
  | .cons e es, l, h => by
    unfold ckEs at h
    split at h
    · simp only [Bool.and_eq_true] at h
      rw [List.any_cons, not_star h.1, es_nostar es _ h.2]
      rfl
    · cases h
theorem setEq {α : Type} (l : List α) (i : Nat) (a : α) : l.set i a = l.set i a := rfl
/-- a value is stored by a target -/
theorem rd_asg {t : T} {e : E} {En : Ends} {σ : L2.St} {H : Hp} (q : tS X.K (XRof X.mg P) C W (.asg t e) En σ H) : tAsg (tE X.K (XRof X.mg P) C W e) (gT X.K t) En σ H := by
  obtain ⟨μ, ρ, η, rl, rp, ps⟩ := q
  simp only [exec] at ps
  refine ⟨μ, ρ, η, rl, rp, Ps.own rl rp ps fun d v μ1 η1 H1 st1 rp1 rl1 rv nt ps1 => ?_⟩
  split at ps1
  · rename_i ρ' hb
    exact ⟨μ1, ρ, η1, d, ρ', rl1, rp1, rv, nt, hb, fun σ' rl' _ => ps1.nx_now rp1 rl'⟩
  · exact ps1.elim
theorem sx_asg {t : T} {e : E} {tg v : Expr} {p : Pos} (G : GS P k C calm sc W X) (h : ckAsg X.N P calm sc t e tg v p.line = true) : PS X (.Assign [tg] v p) (tS X.K (XRof X.mg P) C W (.asg t e)) := by
  unfold ckAsg at h
  simp only [Bool.and_eq_true] at h
  obtain ⟨⟨h1, h2⟩, h3⟩ := h
  have pe := (snE e G.toGd v h2).pe
  have star : (assignEach [tg] X.env).map (·.2) = [assign tg X.env] := by rw [ckT_star h1]; rfl
  split at h3
  · rename_i y py ee g scope pl
    simp only [Bool.or_eq_true, Bool.and_eq_true, decide_eq_true_eq, Bool.not_eq_true'] at h3
    -- the target is a name
    cases t with
    | nm i =>
      simp only [ckT, Bool.and_eq_true, decide_eq_true_eq] at h1
      rcases h3 with ⟨⟨⟨c1, c2⟩, c3⟩, c4⟩ | c
      · -- the exchanged stores
        cases e with
        | comp elt t it c vs =>
          obtain ⟨ee', tg', iter, ifs, scope', p', ex, hc, Z⟩ := comp_parts G.toGd (fun sc W X' G' hN x h => (snE elt G' x (by rw [hN]; exact h)).pe) (fun sc W X' G' hN l h => snC c G' l (by rw [hN]; exact h)) (snI it G.toGd) h2
          cases ex
          refine (ps_setLc (i := i) (G.cm hc) G.nd h1.1 (by rw [G.sc]; exact c1) (sw_true (by rw [G.sc]; exact c4) (by rw [G.sc]; exact c1) c2 c3) Z.hi Z.ok Z.hg Z.ht Z.he Z.hs).imp fun En σ H q => ?_
          have q1 := rd_asg q
          have q2 : tE X.K (XRof X.mg P) C W (.comp elt t it c vs) σ H fun x H1 => gName i x σ H1 En.nx := by
            refine tE_mono q1 fun v H1 ⟨μ1, ρ1, η1, d, ρ', rl, rp, rv, nt, hb, f⟩ => ?_
            simp only [bindT, Option.some.injEq] at hb; subst hb
            exact f _ (rl.set rv nt) fun j hj => List.getElem?_set_ne (fun q => hj (by simp [T.slots, q]))
          exact rd_comp Z.sl (own_map _ _) q2
        | _ => simp [ckE] at h2
      · exact (ps_set (i := i) G.nd h1.1 (by rw [G.sc]; exact isL_loc h1.2) pe (sw_cell (by rw [G.sc]; exact c)) (.inl (G.fn _))).imp fun En σ H q => by
          refine tE_mono (rd_asg q) fun v H1 ⟨μ1, ρ1, η1, d, ρ', rl, rp, rv, nt, hb, f⟩ => ?_
          simp only [bindT, Option.some.injEq] at hb; subst hb
          exact f _ (rl.set rv nt) fun j hj => List.getElem?_set_ne (fun q => hj (by simp [T.slots, q]))
    | tp ts => simp [ckT] at h1
    | lp ts => simp [ckT] at h1
  · cases h3
  · cases h3
  · rename_i y py n1 n2 n3
    have h1' := h1
    cases t with
    | nm i =>
      simp only [ckT, Bool.and_eq_true, decide_eq_true_eq] at h1
      exact (ps_set (i := i) G.nd h1.1 (by rw [G.sc]; exact isL_loc h1.2) pe (sw_other (fun e g s p q => n1 _ _ _ _ q) (fun e g s p q => n2 _ _ _ _ q) (fun e k g s p q => n3 _ _ _ _ _ q)) (.inl (G.fn _))).imp fun En σ H q => by
        refine tE_mono (rd_asg q) fun v H1 ⟨μ1, ρ1, η1, d, ρ', rl, rp, rv, nt, hb, f⟩ => ?_
        simp only [bindT, Option.some.injEq] at hb; subst hb
        exact f _ (rl.set rv nt) fun j hj => List.getElem?_set_ne (fun q => hj (by simp [T.slots, q]))
    | tp ts => simp [ckT] at h1
    | lp ts => simp [ckT] at h1
  · rename_i ts j p1 vs j' p2
    simp only [Bool.and_eq_true] at h3
    have hst : vs.any starF = false := by
      cases e with
      | tup es =>
        simp only [ckE] at h2
        exact es_nostar es vs h2
      | _ => simp [ckE] at h2
    exact (ps_asg pe (pg_T (G.cm h3.1) G.st t _ h1) sole_tup (ss_none (by rw [G.sc]; exact h3.2) hst) star).imp fun En σ H q => rd_asg q
  · rename_i ts j p1 n1
    exact (ps_asg pe (pg_T (G.cm h3) G.st t _ h1) sole_tup (ss_noTup fun l j p q => n1 _ _ _ q) star).imp fun En σ H q => rd_asg q
  · cases h3
theorem sx_par {i j : Nat} {a b : E} {x : Stmt} (G : GS P k C calm sc W X) (h : ckS X.N P calm sc (.par i j a b) x = true) : PS X x (tS X.K (XRof X.mg P) C W (.par i j a b)) := by
  unfold ckS at h
  split at h
  · rename_i y py z pz kt pt ea eb k2 p2 p
    simp only [Bool.and_eq_true, decide_eq_true_eq] at h
    obtain ⟨⟨⟨⟨⟨⟨⟨⟨⟨⟨⟨hc, h1⟩, h2⟩, h3⟩, h4⟩, h5⟩, h6⟩, h7⟩, h8⟩, h9⟩, ha⟩, hb⟩ := h
    have hes : ckEs X.N P calm sc (.cons a (.cons b .nil)) [ea, eb] = true := by simp only [ckEs, ha, hb, Bool.and_self]
    refine (ps_par (G.cm hc) G.nd h1 h2 h3 (by rw [G.sc]; exact h5) (by rw [G.sc]; exact h6) (snEs _ G.toGd _ hes) (ss_two (by rw [G.sc]; exact h9) (by rw [G.sc]; exact h5) (by rw [G.sc]; exact h6) h4 h7 h8 ha hb) sole_tup).imp fun En σ H ⟨μ, ρ, η, rl, rp, ps⟩ => ?_
    simp only [exec] at ps
    refine ⟨μ, ρ, η, rl, rp, Ps.go rl rp ps fun xs η1 vs μ1 H1 e1 st1 rp1 rl1 rv ps1 => ?_⟩
    have rv : RVs X.K H1 μ1 xs vs := rv
    split at ps1
    · simp only [RVs] at rv
      obtain ⟨v, r, rfl, q1, q2, w, r', rfl, q3, q4, rfl⟩ := rv
      exact ⟨v, w, rfl, ps1.nx_now rp1 ((rl1.set q1 q2).set q3 q4)⟩
    · exact ps1.elim
  · cases h
theorem sx_par3 {i j l : Nat} {a b c : E} {x : Stmt} (G : GS P k C calm sc W X) (h : ckS X.N P calm sc (.par3 i j l a b c) x = true) : PS X x (tS X.K (XRof X.mg P) C W (.par3 i j l a b c)) := by
  unfold ckS at h
  split at h
  · rename_i y py z pz u pu kt pt ea eb ec k2 p2 p
    simp only [Bool.and_eq_true, decide_eq_true_eq] at h
    obtain ⟨⟨⟨⟨⟨⟨⟨⟨⟨⟨⟨⟨⟨⟨⟨hc, h1⟩, h2⟩, h2'⟩, h3⟩, h4⟩, h5⟩, h6⟩, h6'⟩, h7⟩, h7'⟩, h8⟩, h9⟩, ha⟩, hb⟩, hcc⟩ := h
    have hes : ckEs X.N P calm sc (.cons a (.cons b (.cons c .nil))) [ea, eb, ec] = true := by simp only [ckEs, ha, hb, hcc, Bool.and_self]
    refine (ps_par3 (G.cm hc) G.nd h1 h2 h2' h3.1 h3.2.1 h3.2.2 (by rw [G.sc]; exact h5) (by rw [G.sc]; exact h6) (by rw [G.sc]; exact h6') (snEs _ G.toGd _ hes) (ss_three (by rw [G.sc]; exact h9) (by rw [G.sc]; exact h5) (by rw [G.sc]; exact h6) (by rw [G.sc]; exact h6') h4.1 h4.2.1 h4.2.2 h7 h7' h8 ha hb hcc) sole_tup).imp fun En σ H ⟨μ, ρ, η, rl, rp, ps⟩ => ?_
    simp only [exec] at ps
    refine ⟨μ, ρ, η, rl, rp, Ps.go rl rp ps fun xs η1 vs μ1 H1 e1 st1 rp1 rl1 rv ps1 => ?_⟩
    have rv : RVs X.K H1 μ1 xs vs := rv
    split at ps1
    · simp only [RVs] at rv
      obtain ⟨v, r, rfl, q1, q2, w, r', rfl, q3, q4, w2, r2, rfl, q5, q6, rfl⟩ := rv
      exact ⟨v, w, w2, rfl, ps1.nx_now rp1 (((rl1.set q1 q2).set q3 q4).set q5 q6)⟩
    · exact ps1.elim
  · cases h
theorem sx_sub {o i e : E} {x : Stmt} (G : GS P k C calm sc W X) (h : ckS X.N P calm sc (.sub o i e) x = true) : PS X x (tS X.K (XRof X.mg P) C W (.sub o i e)) := by
  unfold ckS at h
  split at h
  · rename_i eo ei sp v p
    simp only [Bool.and_eq_true, Bool.not_eq_true'] at h
    obtain ⟨⟨⟨h1, h2⟩, h3⟩, h4⟩ := h
    have ha : ∀ v, assign (.Subscript eo ei sp) X.env v = (do
      let ov ← holding [v] (eval eo X.env)
      let iv ← holding [v, ov] (eval ei X.env)
      standAt sp
      holding [v, ov, iv] (setItem ov iv v)
      release [v, ov, iv] []) := by
      intro v
      cases ei with
      | Slice _ _ _ _ => simp [isSlice] at h4
      | _ => rfl
    refine (ps_asg (snE e G.toGd _ h3).pe (pg_sub (snE o G.toGd _ h1).pe (snE i G.toGd _ h2).pe set_sub ha) sole_sub ss_sub rfl).imp fun En σ H ⟨μ, ρ, η, rl, rp, ps⟩ => ?_
    simp only [exec] at ps
    refine ⟨μ, ρ, η, rl, rp, Ps.own rl rp ps fun d v μ1 η1 H1 st1 rp1 rl1 rv nt ps1 => ?_⟩
    refine ⟨μ1, ρ, η1, rl1, rp1, Ps.go rl1 rp1 ps1 fun x η2 vx μ2 H2 e2 st2 rp2 rl2 rv2 ps2 => ?_⟩
    refine ⟨μ2, ρ, η2, rl2, rp2, Ps.go rl2 rp2 ps2 fun y η3 vy μ3 H3 e3 st3 rp3 rl3 rv3 ps3 => ?_⟩
    split at ps3
    · rename_i η4 hs
      exact ⟨μ3, η3, x, y, d, η4, rp3, RV.step st3 rp2 _ _ rv2.1, rv3.1, RV.step (st2.trans st3) rp1 _ _ rv, nt, hs, fun μ' H' st' rp' => (ps3.step st' rp').nx_now rp' (rl3.step st' rp3)⟩
    · exact ps3.elim
  · cases h
theorem sx_aug {i : Nat} {o : BOp} {e : E} {x : Stmt} (G : GS P k C calm sc W X) (h : ckS X.N P calm sc (.aug i o e) x = true) : PS X x (tS X.K (XRof X.mg P) C W (.aug i o e)) := by
  unfold ckS at h
  split at h
  · rename_i y py op v p
    simp only [Bool.and_eq_true, decide_eq_true_eq] at h
    obtain ⟨⟨⟨⟨h1, h2⟩, rfl⟩, h4⟩, h5⟩ := h
    have hl : Loc X.env.scope y := by rw [G.sc]; exact isL_loc h2
    have rd : ∀ (f : Int → Int → Int), (o = .add ∧ f = (· + ·) ∨ o = .sub ∧ f = (· - ·)) → ∀ En σ H, tS X.K (XRof X.mg P) C W (.aug i o e) En σ H → tAug i (tE X.K (XRof X.mg P) C W e) (ipI f) En σ H := by
      intro f hf En σ H ⟨μ, ρ, η, rl, rp, ps⟩
      simp only [exec] at ps
      split at ps
      · rename_i d hd
        obtain ⟨nt, v, hv, rv⟩ := rl.val i d hd
        refine ⟨v, hv, μ, ρ, η, rl, rp, Ps.go rl rp ps fun y η1 w μ1 H1 e1 st1 rp1 rl1 rv1 ps1 => ?_⟩
        have rv0 := RV.step st1 rp _ _ rv
        have rv1 := rv1.1
        cases d with
        | int a =>
          cases y with
          | int b =>
            simp only [RV] at rv0 rv1; subst rv0; subst rv1
            rcases hf with ⟨rfl, rfl⟩ | ⟨rfl, rfl⟩
            · exact ⟨a, b, rfl, rfl, ps1.nx_now rp1 (rl1.set (by simp [RV]) rfl)⟩
            · exact ⟨a, b, rfl, rfl, ps1.nx_now rp1 (rl1.set (by simp [RV]) rfl)⟩
          | _ => cases o <;> exact ps1.elim
        | _ => cases o <;> exact ps1.elim
      · exact ps.elim
    rcases h4 with rfl | rfl
    · exact (ps_aug (i := i) G.nd h1 hl (snE e G.toGd _ h5).pe ip_add (.inl (G.fn _))).imp (rd _ (.inl ⟨rfl, rfl⟩))
    · exact (ps_aug (i := i) G.nd h1 hl (snE e G.toGd _ h5).pe ip_sub (.inl (G.fn _))).imp (rd _ (.inr ⟨rfl, rfl⟩))
  · cases h
/-- o[i] by values, of a list -/
def rGet (K : PySem.W.Frag) : V → V → Hp → VK → Prop := fun o i H Q => ∃ a xs j w, o = .ref a ∧ i = .int j ∧ SqL K H a xs ∧ atI xs j = some w ∧ Q w H
theorem pget_list : PGet X (rGet X.K) := by
  intro pins s σ H o i ov iv Q I ro ri ⟨a, xs, j, w, eo, ei, hq, hat, q⟩
  subst eo; subst ei
  obtain rfl : ov = Value.ref a := ro
  obtain ⟨t, rfl⟩ := ri
  obtain ⟨its, r, pl, hz⟩ := I.list hq
  obtain ⟨m, h1, h2, h3, h4, h5⟩ := atI_get hat
  obtain ⟨u, hu, ru⟩ := r.get h2
  have hl := r.length
  have hn := line63
  by_cases h0 : 0 ≤ j
  · have hj : j.toNat = m := by
      rw [seqIndex_of h0 h5] at h1
      exact Option.some.inj h1
    exact wpAny_getItem_list pl.isList h0 (by omega) (by rw [hj]; simpa using hu) ⟨w, H, I, ru, q⟩
  · have hj : (j + (its.toArray.size : Int)).toNat = m := by
      rw [seqIndex_neg (by omega) h4] at h1
      rw [List.size_toArray, ← hl]
      exact Option.some.inj h1
    exact wpAny_getItem_list_neg pl.isList (by omega) (by rw [List.size_toArray] <;> omega) (by omega) (by rw [hj]; simpa using hu) ⟨w, H, I, ru, q⟩
theorem sx_augS {a i e : E} {o : BOp} {x : Stmt} (G : GS P k C calm sc W X) (h : ckS X.N P calm sc (.augS a i o e) x = true) : PS X x (tS X.K (XRof X.mg P) C W (.augS a i o e)) := by
  unfold ckS at h
  split at h
  · rename_i eo ei sp op v p
    simp only [Bool.and_eq_true, decide_eq_true_eq, Bool.not_eq_true'] at h
    obtain ⟨⟨⟨⟨⟨h1, h2⟩, h3⟩, h4⟩, rfl⟩, h5⟩ := h
    have ha : ∀ ov iv new, augStore ei ov iv new = (do holding [new, ov, iv] (setItem ov iv new); release [new, ov, iv] []; pure .next) := by
      intro ov iv new
      cases ei with
      | Slice _ _ _ _ => simp [isSlice] at h4
      | _ => rfl
    have rd : ∀ (f : Int → Int → Int), (o = .add ∧ f = (· + ·) ∨ o = .sub ∧ f = (· - ·)) → ∀ En σ H, tS X.K (XRof X.mg P) C W (.augS a i o e) En σ H → tAugS (tE X.K (XRof X.mg P) C W a) (tE X.K (XRof X.mg P) C W i) (tE X.K (XRof X.mg P) C W e) (rGet X.K) (ipI f) (rSt X.K) En σ H := by
      intro f hf En σ H ⟨μ, ρ, η, rl, rp, ps⟩
      simp only [exec] at ps
      refine ⟨μ, ρ, η, rl, rp, Ps.go rl rp ps fun x η1 vx μ1 H1 e1 st1 rp1 rl1 rv1 ps1 => ?_⟩
      refine ⟨μ1, ρ, η1, rl1, rp1, Ps.go rl1 rp1 ps1 fun y η2 vy μ2 H2 e2 st2 rp2 rl2 rv2 ps2 => ?_⟩
      have rvx := RV.step st2 rp1 _ _ rv1.1
      have rvy := rv2.1
      cases x with
      | ref n =>
        simp only at ps2
        cases hi : idxD (.ref n) y η2 with
        | none => rw [hi] at ps2; exact ps2.elim
        | some d =>
          rw [hi] at ps2
          simp only [R.of_some, R.go_ok] at ps2
          cases y with
          | int j =>
            have hi' : (seqAny η2 (.ref n)).bind (fun xs => at_ xs j) = some d := hi
            obtain ⟨xs, hs, hat⟩ := Option.bind_eq_some_iff.mp hi'
            obtain ⟨b, vs, rfl, hq, rvs⟩ := seqOf_rv rp2 rvx (by simpa only [seqAny] using hs)
            obtain ⟨w, hw, rw1, nt1⟩ := rvs.at hat
            have hy := rvy
            simp only [RV] at hy; subst hy
            refine ⟨b, vs, j, w, rfl, rfl, hq, hw, μ2, ρ, η2, rl2, rp2, Ps.go rl2 rp2 ps2 fun z η3 vz μ3 H3 e3 st3 rp3 rl3 rv3 ps3 => ?_⟩
            have rw1 := RV.step st3 rp2 _ _ rw1
            have rv3 := rv3.1
            cases d with
            | int p =>
              cases z with
              | int q =>
                simp only [RV] at rw1 rv3; subst rw1; subst rv3
                refine ⟨p, q, rfl, rfl, ?_⟩
                rcases hf with ⟨rfl, rfl⟩ | ⟨rfl, rfl⟩
                all_goals
                  simp only at ps3 ⊢
                  split at ps3
                  · rename_i η4 hs4
                    exact ⟨μ3, η3, .ref n, .int j, .int _, η4, rp3, RV.step st3 rp2 _ _ rvx, by simp [RV], by simp [RV], rfl, hs4, fun μ' H' st' rp' => (ps3.step st' rp').nx_now rp' (rl3.step st' rp3)⟩
                  · exact ps3.elim
              | _ => cases o <;> exact ps3.elim
            | _ => cases o <;> exact ps3.elim
          | _ => simp [idxD] at hi
      | _ => exact ps2.elim
    rcases h5 with rfl | rfl
    · exact (ps_augS (snE a G.toGd _ h1).pe (snE i G.toGd _ h2).pe pget_list (snE e G.toGd _ h3).pe ip_add set_sub ha).imp (rd _ (.inl ⟨rfl, rfl⟩))
    · exact (ps_augS (snE a G.toGd _ h1).pe (snE i G.toGd _ h2).pe pget_list (snE e G.toGd _ h3).pe ip_sub set_sub ha).imp (rd _ (.inr ⟨rfl, rfl⟩))
  · cases h
end
end Ev

set_option Elab.async false
set_option linter.all false
set_option maxRecDepth 100000
namespace Ev
open PySem
open PySem.Spec
open PyProof.Rows
open L2
/-- X(), X an own exception class without own __init__ -/
theorem pmk_own0 {X : Cx} {C : Addr} {bmB : List Value} {B newId initId : String} {x : Str} {p pos : Pos} (F : ExcBaseFacts B newId initId bmB) (q : PySem.W.excIn X.K C bmB newId = true) (gC : X.mg x = some (.ref C))
    (kC : PySem.W.keepIn X.K (.ref C) = true) (r : Raises X (.ref C)) (hg : Gl X x) (hdb : (x == ("__debug__" : Str)) = false) :
    PMk X (.Call (.Name x p) [] [] pos) (fun _ H Q => Q (.ref C) none H) := by
  intro pins s σ H Q I h
  refine wpAny_Call_Name_kw (ld_glob I hg gC ?_ hdb)
  refine PySem.W.callWith_K0 I.kIn kC ?_
  show wpAny _ _ (call (.ref C) []) _ _ _
  obtain ⟨bm, N, nm, qn, bs, hdct, sn, sub, ab, col, dd, k0, k1, k2, k3, k5, mN, hC, hN, hni, T⟩ := exc_obj I.kIn q
  refine wpAny_call_exc_subT F T hC hN hni (fun h' e hm => ?_) (by decide)
  exact mk_of I hm r h (I.hok.gone hm.new)
section
variable {P : Tab} {k : Nat} {C : Nat → List D → Hep → R D} {calm : Bool} {sc : Scope} {W : WX} {X : Cx}
theorem tE_tB {K : PySem.W.Frag} {XR : XRel} {e : E} {σ : L2.St} {H : Hp} {Q : Bool → Hp → Prop} (h : tE K XR C W e σ H fun v H1 => ∃ c, v = .bl c ∧ Q c H1) : tB (tE K XR C W e) σ H Q := h
theorem sx_ret {e : E} {v : Expr} {p : Pos} (G : GS P k C calm sc W X) (h : ckE X.N P calm sc e v = true) : PS X (.Return (some v) p) (tS X.K (XRof X.mg P) C W (.ret e)) :=
  (ps_ret (snE e G.toGd v h).pe).imp fun En σ H ⟨μ, ρ, η, rl, rp, ps⟩ => by
    simp only [exec] at ps
    refine ⟨μ, ρ, η, rl, rp, ?_⟩
    cases he : ev C e ρ η with
    | ok d η1 => rw [he] at ps; exact ps
    | exc c xs η1 => rw [he] at ps; exact fun cls dd μ' H' s r x => ps cls dd σ μ' H' s r (rl.step s rp) x
    | bad => rw [he] at ps; exact ps
theorem sx_retN {p : Pos} (G : GS P k C calm sc W X) : PS X (.Return none p) (tS X.K (XRof X.mg P) C W .retN) :=
  ps_retN.imp fun En σ H ⟨μ, ρ, η, rl, rp, ps⟩ => by
    simp only [exec] at ps
    exact ps .non μ H Step.refl rp ⟨by simp [RV], trivial⟩
theorem sx_ex {e : E} {v : Expr} {p : Pos} (G : GS P k C calm sc W X) (h : ckE X.N P calm sc e v = true) (n1 : ∀ e g s p, v ≠ .ListComp e g s p) (n2 : ∀ e g s p, v ≠ .SetComp e g s p) (n3 : ∀ e k g s p, v ≠ .DictComp e k g s p) :
    PS X (.Expr v p) (tS X.K (XRof X.mg P) C W (.ex e)) :=
  (ps_expr (snE e G.toGd v h).pe (sw_other n1 n2 n3)).imp fun En σ H ⟨μ, ρ, η, rl, rp, ps⟩ => by
    simp only [exec] at ps
    exact ⟨μ, ρ, η, rl, rp, Ps.go rl rp ps fun d η1 v μ1 H1 e1 st1 rp1 rl1 rv ps1 => ps1.nx_now rp1 rl1⟩
theorem sx_ifs {c : E} {a b : Ss} {ec : Expr} {la lb : List Stmt} {p : Pos} (G : GS P k C calm sc W X) (h : ckE X.N P calm sc c ec = true) (ht : tOk c = true) (ha : PSs X la (tSs X.K (XRof X.mg P) C W a)) (hb : PSs X lb (tSs X.K (XRof X.mg P) C W b)) :
    PS X (.If ec la lb p) (tS X.K (XRof X.mg P) C W (.ifs c a b)) :=
  (ps_if ((snE c G.toGd ec h).pt ht) ha hb).imp fun En σ H ⟨μ, ρ, η, rl, rp, ps⟩ => by
    simp only [exec] at ps
    refine ⟨μ, ρ, η, rl, rp, Ps.go rl rp ps fun d η1 v μ1 H1 e1 st1 rp1 rl1 rv ps1 => ?_⟩
    have rv := rv.1
    split at ps1
    · simp only [RV] at rv; exact ⟨true, rv, μ1, ρ, η1, rl1, rp1, ps1⟩
    · simp only [RV] at rv; exact ⟨false, rv, μ1, ρ, η1, rl1, rp1, ps1⟩
    · exact ps1.elim
theorem sx_whl {c : E} {b : Ss} {ec : Expr} {lb : List Stmt} {p : Pos} (G : GS P k C calm sc W X) (h : ckE X.N P calm sc c ec = true) (ht : tOk c = true) (hb : PSs X lb (tSs X.K (XRof X.mg P) C W b)) :
    PS X (.While ec lb [] p) (tS X.K (XRof X.mg P) C W (.whl c b)) :=
  (ps_while G.po ((snE c G.toGd ec h).pt ht) hb).imp fun En σ H ⟨μ, ρ, η, rl, rp, ps⟩ => by
    simp only [exec, whL] at ps
    let Wi : Nat → L2.St → Hp → Prop := fun m σ H => ∃ μ ρ η, RL X.K H μ ρ σ ∧ Rp X.K μ η H ∧ Ps X.K (XRof X.mg P) W μ H (whF (fun ρ η => ev C c ρ η) (fun ρ η => execs C b ρ η) m ρ η) En
    split at ps
    · rename_i hx
      refine ⟨Wi, ⟨_, μ, ρ, η, rl, rp, ps⟩, ?_⟩
      rintro m σ1 H1 ⟨μ1, ρ1, η1, rl1, rp1, ps1⟩
      cases m with
      | zero => exact ps1.elim
      | succ m =>
        simp only [whF] at ps1
        refine ⟨μ1, ρ1, η1, rl1, rp1, ?_⟩
        cases he : ev C c ρ1 η1 with
        | bad => rw [he] at ps1; exact ps1.elim
        | exc cc xs η2 => rw [he] at ps1; exact fun cls dd μ' H' s r x => ps1 cls dd σ1 μ' H' s r (rl1.step s rp1) x
        | ok d η2 =>
          intro v μ2 H2 st2 rp2 rv2
          have rl2 := rl1.step st2 rp1
          rw [he] at ps1
          have rv := rv2.1
          cases d with
          | bl t =>
            simp only [RV] at rv
            cases t with
            | false => exact ⟨false, rv, (ps1.step st2 rp2).nx_now rp2 rl2⟩
            | true =>
              refine ⟨true, rv, ?_⟩
              simp only [if_true]
              refine ⟨Wi m, fun σ' H' hw => ⟨m, Nat.lt_succ_self m, hw⟩, μ2, ρ1, η2, rl2, rp2, ?_⟩
              have ps2 := ps1.step st2 rp2
              simp only at ps2
              cases hs : execs C b ρ1 η2 with
              | bad => rw [hs] at ps2; exact ps2
              | exc cc xs ρ3 η3 => rw [hs] at ps2; exact ps2
              | rt d η3 => rw [hs] at ps2; exact ps2
              | bk ρ3 η3 => rw [hs] at ps2; exact ps2
              | nx ρ3 η3 => rw [hs] at ps2; exact fun σ' μ' H' s r l => ⟨μ', ρ3, η3, l, r, ps2.step s r⟩
              | ct ρ3 η3 => rw [hs] at ps2; exact fun σ' μ' H' s r l => ⟨μ', ρ3, η3, l, r, ps2.step s r⟩
          | _ => exact ps1.elim
    · exact ps.elim
theorem sx_fr {t : T} {it : I} {b : Ss} {tg iter : Expr} {lb : List Stmt} {p : Pos} (G : GS P k C calm sc W X) (hc : calm = true) (h1 : ckT X.N sc t tg = true) (h2 : ckI X.N P calm sc it tg iter = true) (hb : PSs X lb (tSs X.K (XRof X.mg P) C W b)) :
    PS X (.For tg iter lb [] p) (tS X.K (XRof X.mg P) C W (.fr t it b)) :=
  (ps_for G.po (G.cm hc) (snI it G.toGd tg iter h2) (pg_T (G.cm hc) G.st t _ h1) hb (ckI_fold h2 _)).imp fun En σ H ⟨μ, ρ, η, rl, rp, ps⟩ => by
    simp only [exec] at ps
    refine ⟨μ, ρ, η, rl, rp, Ps.go rl rp ps fun q η1 J μ1 H1 e1 st1 rp1 rl1 it ps1 => ?_⟩
    obtain ⟨xs, w⟩ := q
    have it : ItOk X.K J xs w μ1 H1 := it
    have wk := evI_watch _ e1
    let Wi : Nat → L2.St → Hp → Prop := fun i σ H => i ≤ xs.length ∧ ∃ μ' ρ' η', Step μ1 H1 μ' H ∧ RL X.K H μ' ρ' σ ∧ Rp X.K μ' η' H ∧ watchOk η' w = true ∧ Ps X.K (XRof X.mg P) W μ' H (forL (fun ρ η => execs C b ρ η) t w (xs.drop i) ρ' η') En
    refine ⟨fun i m σ H => m = xs.length - i ∧ Wi i σ H, ⟨xs.length, rfl, Nat.zero_le _, μ1, ρ, η1, Step.refl, rl1, rp1, wk, by simpa using ps1⟩, ?_⟩
    rintro i m σ2 H2 ⟨rfl, hi, μ2, ρ2, η2, st2, rl2, rp2, wk2, ps2⟩
    obtain ⟨stop, step⟩ := it μ2 η2 H2 st2 rp2 wk2
    by_cases hlt : i < xs.length
    · have hx : xs[i]? = some xs[i] := List.getElem?_eq_getElem hlt
      obtain ⟨go, yl⟩ := step i _ hx
      rw [List.drop_eq_getElem_cons hlt] at ps2
      refine .inr ⟨go, fun σ H => Wi (i + 1) σ H, fun σ' H' hN => ⟨xs.length - (i + 1), by omega, rfl, hN⟩, fun x H' hy => ?_⟩
      obtain ⟨st3, rp3, rvx, ntx⟩ := yl x H' hy
      simp only [forL] at ps2
      have rl3 := rl2.step st3 rp2
      have ps3 := ps2.step st3 rp3
      cases hbn : bindT t xs[i] η2 ρ2 with
      | none => rw [hbn] at ps3; exact ps3.elim
      | some ρ3 =>
        rw [hbn] at ps3
        simp only at ps3
        refine ⟨μ2, ρ2, η2, xs[i], ρ3, rl3, rp3, rvx, ntx, hbn, fun σ' rl' fr => ⟨μ2, ρ3, η2, rl', rp3, ?_⟩⟩
        have sG := st2.trans st3
        have again : ∀ {ρ4 : Lo} {η4 : Hep}, Ps X.K (XRof X.mg P) W μ2 H' (if watchOk η4 w = true then forL (fun ρ η => execs C b ρ η) t w (xs.drop (i + 1)) ρ4 η4 else .bad) En → ∀ σ' μ' H'', Step μ2 H' μ' H'' → Rp X.K μ' η4 H'' → RL X.K H'' μ' ρ4 σ' → Wi (i + 1) σ' H'' := by
          intro ρ4 η4 hp σ' μ' H'' s r l
          split at hp
          · rename_i hw
            exact ⟨hlt, μ', ρ4, η4, sG.trans s, l, r, hw, hp.step s r⟩
          · exact hp.elim
        cases hs : execs C b ρ3 η2 with
        | bad => rw [hs] at ps3; exact ps3
        | exc cc xs ρ4 η4 => rw [hs] at ps3; exact ps3
        | rt d η4 => rw [hs] at ps3; exact ps3
        | bk ρ4 η4 => rw [hs] at ps3; exact ps3
        | nx ρ4 η4 => rw [hs] at ps3; exact again ps3
        | ct ρ4 η4 => rw [hs] at ps3; exact again ps3
    · have e : i = xs.length := by omega
      subst e
      rw [List.drop_length] at ps2
      exact .inl ⟨stop, ps2.nx_now rp2 rl2⟩
theorem sx_raise {c : Nat} {x : Str} {pn p p' : Pos} (G : GS P k C calm sc W X) (hc : calm = true) (h1 : P.ex.lookup c = some x) (hg : isG sc x = true) (ho : okN x = true) :
    PS X (.Raise (some (.Call (.Name x pn) [] [] p)) none p') (tS X.K (XRof X.mg P) C W (.raise c .nil)) := by
  obtain ⟨A, mA, e1, e2, e3, e4⟩ := G.exs c x h1
  refine (ps_raise (G.cm hc) G.tk (pmk_own0 PySem.F.excBase_ValueError e1 mA e2 (raises_own e3 e4) (isG_gl G.sc hg) (okN_spec ho).1)).imp fun En σ H ⟨μ, ρ, η, rl, rp, ps⟩ => ?_
  simp only [exec, evs, R.go_ok, D.plains, if_true] at ps
  exact ps (.ref A) none σ μ H Step.refl rp rl ⟨x, A, h1, mA, rfl, rfl, rfl⟩
/-- sequences -/
theorem sxs_nil (G : GS P k C calm sc W X) : PSs X [] (tSs X.K (XRof X.mg P) C W .nil) := ⟨fun pins s σ H En I ⟨μ, ρ, η, rl, rp, ps⟩ => pss_nil.run pins s σ H En I (by simp only [execs] at ps; exact ps.nx_now rp rl)⟩
theorem sxs_cons {s : S} {ss : Ss} {x : Stmt} {r : List Stmt} (h1 : PS X x (tS X.K (XRof X.mg P) C W s)) (h2 : PSs X r (tSs X.K (XRof X.mg P) C W ss)) : PSs X (x :: r) (tSs X.K (XRof X.mg P) C W (.cons s ss)) := by
  refine (pss_cons h1 h2).imp fun En σ H ⟨μ, ρ, η, rl, rp, ps⟩ => ⟨μ, ρ, η, rl, rp, ?_⟩
  simp only [execs] at ps
  cases he : exec C s ρ η with
  | nx ρ1 η1 => rw [he] at ps; exact fun σ' μ' H' s r l => ⟨μ', ρ1, η1, l, r, ps.step s r⟩
  | rt d η1 => rw [he] at ps; exact ps
  | bk ρ1 η1 => rw [he] at ps; exact ps
  | ct ρ1 η1 => rw [he] at ps; exact ps
  | exc c xs ρ1 η1 => rw [he] at ps; exact ps
  | bad => rw [he] at ps; exact ps
/-! ### contexts -/
theorem GS.tr (G : GS P k C calm sc W X) {pn : List (Addr × Obj)} {xe : Value → Shared → Prop} {W' : WX} (tk : Takes (X.tr pn xe) W') (po : PassesOwn (model X.prog X.w) X.A X.env xe) : GS P k C calm sc W' (X.tr pn xe) where
  nd := G.nd
  sc := G.sc
  cm := G.cm
  room := G.room
  units := G.units
  tk := tk
  blt := G.blt
  glb := G.glb
  fns := G.fns
  po := po
  stk := G.stk
  fn := G.fn
  exs := G.exs
  exm := G.exm
theorem takes_W0 {X : Cx} : Takes X W0 := fun u s' ⟨a, B, sI, pins, σ, H, cls, d, e, I, nb, up, sky, na, os, ag, w⟩ => w.elim
theorem GS.suite (G : GS P k C calm sc W X) (a : Addr) (pn : List (Addr × Obj)) : GS P k C false sc W0 (X.suite a pn) where
  nd := G.nd
  sc := G.sc
  cm := fun h => by cases h
  room := fun h => by cases h
  units := G.units
  tk := takes_W0
  blt := G.blt
  glb := G.glb
  fns := G.fns
  po := PassesOwn.never
  stk := fun h => by cases h
  fn := G.fn
  exs := G.exs
  exm := G.exm
/-- the clauses and what is wanted of them -/
inductive HsR (K : PySem.W.Frag) (mg : Str → Option Value) (P : Tab) (C : Nat → List D → Hep → R D) : Hs → List (Value × (Addr → Value → Option Addr → TS)) → Prop
  | nil : HsR K mg P C .nil []
  | cons {c : Nat} {b : Ss} {hs : Hs} {n : Str} {A : Addr} {l : List (Value × (Addr → Value → Option Addr → TS))} (h1 : P.ex.lookup c = some n) (h2 : mg n = some (.ref A)) (r : HsR K mg P C hs l) :
      HsR K mg P C (.cons c b hs) ((.ref A, fun _ _ _ => tSs K (XRof mg P) C W0 b) :: l)
theorem hs_ok {l : List (Value × (Addr → Value → Option Addr → TS))} (G : GS P k C calm sc W X) {c : Nat} {En : Ends} {cls : Value} {dd : Option Addr} {ρ : Lo} {η : Hep} {xs : List D} {σ : L2.St} {μ : List Addr} {H : Hp} (rl : RL X.K H μ ρ σ) (rp : Rp X.K μ η H)
    (xr : XRof X.mg P c xs cls dd H) : ∀ {hs : Hs} {l : List (Value × (Addr → Value → Option Addr → TS))}, HsR X.K X.mg P C hs l → Ps X.K (XRof X.mg P) W μ H (execH C c xs hs ρ η) En → wMany X.K W En l cls dd σ H := by
  intro hs l r
  induction r with
  | nil => intro ps; simp only [execH] at ps; exact ps cls dd σ μ H Step.refl rp rl xr
  | @cons c' b hs n A l h1 h2 r ih =>
    intro ps
    simp only [execH] at ps
    obtain ⟨x, A0, q1, q2, q3, q4, q5⟩ := xr
    subst q3
    refine ⟨_, G.exm c x c' n A0 A q1 h1 q2 h2, fun hb a ha => ?_, fun hb => ?_⟩
    · rw [if_pos (of_decide_eq_true hb)] at ps
      refine ⟨μ, ρ, η, rl, rp, ?_⟩
      cases he : execs C b ρ η with
      | exc _ _ _ _ => rw [he] at ps; exact ps.elim
      | bad => rw [he] at ps; exact ps
      | nx _ _ => rw [he] at ps; exact ps
      | rt _ _ => rw [he] at ps; exact ps
      | bk _ _ => rw [he] at ps; exact ps
      | ct _ _ => rw [he] at ps; exact ps
    · rw [if_neg (of_decide_eq_false hb)] at ps
      exact ih ps
theorem sx_tr {b : Ss} {hs : Hs} {lb : List Stmt} {h0 : ExceptHandler} {lh : List ExceptHandler} {p : Pos} {l : List (Value × (Addr → Value → Option Addr → TS))} (G : GS P k C calm sc W X) (hc : calm = true)
    (hb : ∀ (W' : WX) (X' : Cx), X'.N = X.N → X'.mg = X.mg → X'.K = X.K → GS P k C calm sc W' X' → PSs X' lb (tSs X'.K (XRof X'.mg P) C W' b)) (hh : HdsOk X (h0 :: lh) l) (r : HsR X.K X.mg P C hs l) :
    PS X (.Try lb (h0 :: lh) [] [] p) (tS X.K (XRof X.mg P) C W (.tr b hs)) :=
  (ps_try_many (tb := fun W' => tSs X.K (XRof X.mg P) C W' b) (G.stk hc).1 (G.stk hc).2 G.tk (fun W' pn xe tk po => hb W' (X.tr pn xe) rfl rfl rfl (G.tr tk po)) hh).imp fun En σ H ⟨μ, ρ, η, rl, rp, ps⟩ => by
    simp only [exec] at ps
    refine ⟨μ, ρ, η, rl, rp, ?_⟩
    cases he : execs C b ρ η with
    | exc c xs ρ1 η1 =>
      rw [he] at ps
      intro cls dd σ' μ' H' s r' l' x
      exact hs_ok (l := l) G l' r' x r (Ps.step ps s r')
    | bad => rw [he] at ps; exact ps
    | nx _ _ => rw [he] at ps; exact ps
    | rt _ _ => rw [he] at ps; exact ps
    | bk _ _ => rw [he] at ps; exact ps
    | ct _ _ => rw [he] at ps; exact ps
end
/-! ## all statements -/
section
variable {P : Tab} {k : Nat} {C : Nat → List D → Hep → R D}
mutual
theorem snS : ∀ (s : S) {calm : Bool} {sc : Scope} {W : WX} {X : Cx} (G : GS P k C calm sc W X) (x : Stmt), ckS X.N P calm sc s x = true → PS X x (tS X.K (XRof X.mg P) C W s)
  | .asg t e, calm, sc, W, X, G, x, h => by
    unfold ckS at h
    split at h
    · exact sx_asg G h
    · cases h
  | .par i j a b, calm, sc, W, X, G, x, h => sx_par G h
  | .par3 i j l a b c, calm, sc, W, X, G, x, h => sx_par3 G h
  | .sub o i e, calm, sc, W, X, G, x, h => sx_sub G h
  | .aug i o e, calm, sc, W, X, G, x, h => sx_aug G h
  | .augS a i o e, calm, sc, W, X, G, x, h => sx_augS G h
  | .ret e, calm, sc, W, X, G, x, h => by
    unfold ckS at h
    split at h
    · exact sx_ret G h
    · cases h
  | .retN, calm, sc, W, X, G, x, h => by
    unfold ckS at h
    split at h
    · exact sx_retN G
    · cases h
  | .ex e, calm, sc, W, X, G, x, h => by
    unfold ckS at h
    split at h
    · rename_i v p
      simp only [Bool.and_eq_true] at h
      exact sx_ex G h.1 (fun _ _ _ _ q => by subst q; exact absurd h.2 (by simp)) (fun _ _ _ _ q => by subst q; exact absurd h.2 (by simp)) (fun _ _ _ _ _ q => by subst q; exact absurd h.2 (by simp))
    · cases h
  | .pass, calm, sc, W, X, G, x, h => by
    unfold ckS at h
    split at h
    · exact ps_pass.imp fun En σ H ⟨μ, ρ, η, rl, rp, ps⟩ => by simp only [exec] at ps; exact ps.nx_now rp rl
    · cases h
  | .brk, calm, sc, W, X, G, x, h => by
    unfold ckS at h
    split at h
    · exact ps_break.imp fun En σ H ⟨μ, ρ, η, rl, rp, ps⟩ => by simp only [exec] at ps; exact ps σ μ H Step.refl rp rl
    · cases h
  | .cnt, calm, sc, W, X, G, x, h => by
    unfold ckS at h
    split at h
    · exact ps_continue.imp fun En σ H ⟨μ, ρ, η, rl, rp, ps⟩ => by simp only [exec] at ps; exact ps σ μ H Step.refl rp rl
    · cases h
  | .ifs c a b, calm, sc, W, X, G, x, h => by
    unfold ckS at h
    split at h
    · simp only [Bool.and_eq_true] at h
      exact sx_ifs G h.1.1.1 h.1.1.2 (snSs a G _ h.1.2) (snSs b G _ h.2)
    · cases h
  | .whl c b, calm, sc, W, X, G, x, h => by
    unfold ckS at h
    split at h
    · simp only [Bool.and_eq_true] at h
      exact sx_whl G h.1.1 h.1.2 (snSs b G _ h.2)
    · cases h
  | .fr t it b, calm, sc, W, X, G, x, h => by
    unfold ckS at h
    split at h
    · simp only [Bool.and_eq_true] at h
      exact sx_fr G h.1.1.1 h.1.1.2 h.1.2 (snSs b G _ h.2)
    · cases h
  | .raise c es, calm, sc, W, X, G, x, h => by
    unfold ckS at h
    split at h
    · simp only [Bool.and_eq_true, decide_eq_true_eq] at h
      exact sx_raise G h.1.1.1 h.1.1.2 h.1.2 h.2
    · cases h
  | .tr b hs, calm, sc, W, X, G, x, h => by
    unfold ckS at h
    split at h
    · simp only [Bool.and_eq_true] at h
      obtain ⟨l, h1, h2⟩ := snHs hs G _ h.2
      exact sx_tr G h.1.1 (fun W' X' e1 e2 e3 G' => snSs b G' _ (by rw [e1]; exact h.1.2)) h1 h2
    · cases h
theorem snSs : ∀ (ss : Ss) {calm : Bool} {sc : Scope} {W : WX} {X : Cx} (G : GS P k C calm sc W X) (l : List Stmt), ckSs X.N P calm sc ss l = true → PSs X l (tSs X.K (XRof X.mg P) C W ss)
  | .nil, calm, sc, W, X, G, l, h => by
    unfold ckSs at h
    split at h
    · exact sxs_nil G
    · cases h
  | .cons s ss, calm, sc, W, X, G, l, h => by
    unfold ckSs at h
    split at h
    · simp only [Bool.and_eq_true] at h
      exact sxs_cons (snS s G _ h.1) (snSs ss G _ h.2)
    · cases h
theorem snHs : ∀ (hs : Hs) {calm : Bool} {sc : Scope} {W : WX} {X : Cx} (G : GS P k C calm sc W X) (lh : List ExceptHandler), ckHs X.N P sc hs lh = true → ∃ l, HdsOk X lh l ∧ HsR X.K X.mg P C hs l
  | .nil, calm, sc, W, X, G, lh, h => by
    unfold ckHs at h
    split at h
    · exact ⟨[], .nil, .nil⟩
    · cases h
  | .cons c b hs, calm, sc, W, X, G, lh, h => by
    unfold ckHs at h
    split at h
    · simp only [Bool.and_eq_true, decide_eq_true_eq] at h
      obtain ⟨⟨⟨⟨h1, h2⟩, h3⟩, h4⟩, h5⟩ := h
      obtain ⟨l, q1, q2⟩ := snHs hs G _ h5
      obtain ⟨A, mA, _⟩ := G.exs c _ h1
      exact ⟨_, .cons ⟨isG_gl G.sc h2, (okN_spec h3).1, .inl mA⟩ (fun a oe cls d pn hz hv => snSs b (G.suite a _) _ h4) q1, .cons h1 mA q2⟩
    · cases h
end
end
end Ev

set_option Elab.async false
set_option linter.all false
set_option maxRecDepth 100000
/-! # Part B: functions -/
namespace Ev
open PySem
open PySem.Spec
open PyProof.Rows
open L2
/-- a def of the text: its number, the global's name, its own name, its statement, its names (the parameters first), what it is in the small language -/
structure Def where
  id : Nat
  x : Str
  nm : Str
  st : Stmt
  N : List Str
  fd : Fd
def Def.ps (d : Def) : List Str := d.N.take d.fd.np
def Def.dd (d : Def) : He.DefD := ⟨(d.x, none), d.nm, d.nm, defArgs d.st, defBody d.st, defScope d.st, [], []⟩
def ckDef (T : Tab) (d : Def) : Bool :=
  decide (d.N.length = d.fd.ns) && decide (d.fd.np ≤ d.fd.ns) && decide ((defScope d.st).kind = .function) && decide ((defScope d.st).isCoroutine = false) && decide ((defScope d.st).isGenerator = false) && decide (d.N.Nodup) &&
  (d.ps.all fun x => decide ((defScope d.st).names.lookup x = some .local) || decide ((defScope d.st).names.lookup x = some .cell)) &&
  ((defScope d.st).names.all fun y => decide (y.2 ≠ .free)) && ckSs d.N T true (defScope d.st) d.fd.body (defBody d.st)
def BindOk (d : Def) : Prop := ∀ (kV doc pm : Value) (an : Option Addr) (cdv ct : Value) (us : List Value), us.length = d.ps.length → bindArgs (PySem.W.fnOf d.nm d.nm (defArgs d.st) (defBody d.st) (defScope d.st) .none kV doc pm an cdv ct) ⟨us, []⟩ = pure (d.ps.zip us)
theorem ckDef_scope {T : Tab} {d : Def} (h : ckDef T d = true) : FnScope d.N d.ps (defScope d.st) := by
  simp only [ckDef, Bool.and_eq_true, decide_eq_true_eq, List.all_eq_true, Bool.or_eq_true] at h
  obtain ⟨⟨⟨⟨⟨⟨⟨⟨h1, h2⟩, h3⟩, h4⟩, h5⟩, h6⟩, h7⟩, h8⟩, h9⟩ := h
  refine ⟨h3, h4, h5, h6, ?_, h7, h8⟩
  unfold Def.ps
  rw [List.length_take, List.take_eq_take_iff]
  omega
structure Facts (T : Tab) (defs : List Def) (K : PySem.W.Frag) (mg : Str → Option Value) : Prop where
  blt : ∀ x, x ∈ bltNames → mg x = none
  glb : ∀ x d, T.gl.lookup x = some d → ∃ v u, mg x = some u ∧ RelV v u ∧ d.isTl = false ∧ ∀ H μ, RV K H μ d v
  df : ∀ d, d ∈ defs → ∃ a fdt, mg d.x = some (.ref a) ∧ FunD K d.nm d.nm (defArgs d.st) (defBody d.st) (defScope d.st) [] [] a fdt
  exs : ∀ c x, T.ex.lookup c = some x → ∃ C, mg x = some (.ref C) ∧ PySem.W.excIn K C He.veBase "ValueError.__new__" = true ∧ PySem.W.keepIn K (.ref C) = true ∧ PySem.W.subIn K (.ref C) (.type "BaseException") = some true ∧ PySem.W.typeIn K (.ref C) = some (.type "type")
  exm : ∀ c x k y A B, T.ex.lookup c = some x → T.ex.lookup k = some y → mg x = some (.ref A) → mg y = some (.ref B) → PySem.W.exmOne K (.ref A) (.ref B) = some (decide (c = k))
def Tab.Γ (T : Tab) (f : Nat) : Option Fd := (T.fn.lookup f).map (·.2)
theorem rvs_ix {K : PySem.W.Frag} {H : Hp} {μ : List Addr} : ∀ {ds : List D} {vs : List V} {i : Nat} {d : D}, RVs K H μ ds vs → ds[i]? = some d → d.isTl = false ∧ ∃ v, vs[i]? = some v ∧ RV K H μ d v
  | [], _, _, _, _, e => by simp at e
  | x :: xs, vs, i, d, h, e => by
    simp only [RVs] at h
    obtain ⟨v, r, rfl, h1, h2, h3⟩ := h
    cases i with
    | zero => simp at e; subst e; exact ⟨h2, v, rfl, h1⟩
    | succ i => simpa using rvs_ix h3 (by simpa using e)
theorem start_rl {K : PySem.W.Frag} {H : Hp} {μ : List Addr} {N : List Str} {ns : Nat} (e : N.length = ns) {ds : List D} {vs : List V} (r : RVs K H μ ds vs) : RL K H μ (Ev.start ns ds) (L2.start N vs) := by
  have hl := r.length
  unfold Ev.start L2.start
  rw [e, ← hl]
  refine ⟨by simp [hl], fun i d h => ?_⟩
  by_cases hi : i < ds.length
  · rw [List.getElem?_append_left (by simpa using hi), List.getElem?_map] at h
    rw [List.getElem?_append_left (by rw [List.length_map, ← hl]; exact hi), List.getElem?_map]
    cases hd : ds[i]? with
    | none => rw [hd] at h; cases h
    | some d' =>
      rw [hd] at h
      simp only [Option.map_some, Option.some.injEq] at h
      subst h
      obtain ⟨h1, v, h2, h3⟩ := rvs_ix r hd
      exact ⟨h1, v, by rw [h2]; rfl, h3⟩
  · rw [List.getElem?_append_right (by simp; omega), List.getElem?_replicate] at h
    split at h <;> cases h
theorem lookup_def {defs : List Def} {f : Nat} {x : Str} {fd : Fd} (h : (defs.map fun d => (d.id, d.x, d.fd)).lookup f = some (x, fd)) : ∃ d ∈ defs, d.x = x ∧ d.fd = fd := by
  induction defs with
  | nil => cases h
  | cons d r ih =>
    simp only [List.map_cons, List.lookup_cons] at h
    split at h
    · cases h
      exact ⟨d, List.mem_cons_self, rfl, rfl⟩
    · obtain ⟨d', m, e⟩ := ih h
      exact ⟨d', List.mem_cons_of_mem _ m, e⟩
section
variable {Pr : Program} {w : World} {K : PySem.W.Frag} {mg : Str → Option Value} {base : Heap}
theorem body_ps {XR : XRel} {E : XK} {Q : VK} {μ : List Addr} {H : Hp} {r : SR} (h : Pg K XR (RF K) [] (fun c d _ H => E c d H) μ H (toR r) Q) : Ps K XR (fun c d _ H => E c d H) μ H r { nx := fun _ H' => Q .non H', rt := Q } := by
  cases r with
  | nx ρ η => exact fun σ' μ' H' s r l => h .non μ' H' s r ⟨by simp [RV], trivial⟩
  | rt d η => exact h
  | bk ρ η => exact h.elim
  | ct ρ η => exact h.elim
  | exc c xs ρ η => exact fun cls dd σ' μ' H' s r l x => h cls dd μ' H' s r x
  | bad => exact h
theorem fn_step {T : Tab} {defs : List Def} (hT : T.fn = defs.map fun d => (d.id, d.x, d.fd)) (hck : ∀ d ∈ defs, ckDef T d = true) (F : Facts T defs K mg) {k : Nat} (ih : ∀ f x fd, T.fn.lookup f = some (x, fd) →
    ∃ a fdt ps, mg x = some (.ref a) ∧ PySem.W.keepIn K (.ref a) = true ∧ Binds K fdt ps [] ∧ FnOk Pr w K mg base (L2.CX Pr w) k a fdt ps (spF K (XRof mg T) (callN T.Γ k) f)) {d : Def} {f : Nat} {a : Addr} {fdt : FuncData} (hd : d ∈ defs) (h : T.fn.lookup f = some (d.x, d.fd))
    (F1 : FunD K d.nm d.nm (defArgs d.st) (defBody d.st) (defScope d.st) [] [] a fdt) : FnOk Pr w K mg base (L2.CX Pr w) (k + 1) a fdt d.ps (spF K (XRof mg T) (callN T.Γ (k + 1)) f) := by
  have hΓ : T.Γ f = some d.fd := by unfold Tab.Γ; rw [h]; rfl
  have ck := hck d hd
  have S := ckDef_scope ck
  have ck' := ck
  simp only [ckDef, Bool.and_eq_true, decide_eq_true_eq] at ck'
  obtain ⟨⟨⟨⟨⟨⟨⟨⟨h1, h2⟩, h3⟩, h4⟩, h5⟩, h6⟩, h7⟩, h8⟩, h9⟩ := ck'
  have hl : d.ps.length = d.fd.np := by unfold Def.ps; rw [List.length_take]; omega
  have go : ∀ ds η, callN T.Γ (k + 1) f ds η = if ds.length = d.fd.np then toR (execs (callN T.Γ k) d.fd.body (Ev.start d.fd.ns ds) η) else .bad := fun ds η => by
    simp only [callN, hΓ]
  refine F1.ok S (fun vs H Q E ⟨μ, η, ds, rv, _, pg⟩ => ?_) fun cdv A outer s H vs Q E hr ⟨μ, η, ds, rv, rp, pg⟩ => ?_
  · rw [go] at pg
    split at pg
    · rename_i e; rw [hl, ← e]; exact rv.length.symm
    · exact pg.elim
  · rw [go] at pg
    split at pg
    · rename_i e
      let X := cxOf (L2.CX Pr w) Pr w K mg base d.N d.nm (defScope d.st) a cdv A outer s H E
      have G : GS T k (callN T.Γ k) true (defScope d.st) (fun c d _ H => E c d H) X :=
        { nd := h6, sc := rfl, cm := fun _ => rfl, room := fun _ => hr, units := by have := hr.un; show (A.deeper _).units + 100 < cLine; omega, tk := takes_of rfl rfl rfl rfl, blt := F.blt, glb := F.glb, fns := ih, po := passes_of rfl, stk := fun _ => ⟨rfl, rfl⟩, fn := fun _ => rfl, exs := F.exs, exm := F.exm }
      exact ⟨_, snSs d.fd.body G _ h9, μ, _, η, start_rl h1 rv, rp, body_ps pg⟩
    · exact pg.elim
theorem fns_ok {T : Tab} {defs : List Def} (hT : T.fn = defs.map fun d => (d.id, d.x, d.fd)) (hck : ∀ d ∈ defs, ckDef T d = true) (hb : ∀ d ∈ defs, BindOk d) (F : Facts T defs K mg) : ∀ k f x fd, T.fn.lookup f = some (x, fd) →
    ∃ a fdt ps, mg x = some (.ref a) ∧ PySem.W.keepIn K (.ref a) = true ∧ Binds K fdt ps [] ∧ FnOk Pr w K mg base (L2.CX Pr w) k a fdt ps (spF K (XRof mg T) (callN T.Γ k) f) := by
  intro k
  induction k with
  | zero =>
    intro f x fd h
    rw [hT] at h
    obtain ⟨d, hd, rfl, rfl⟩ := lookup_def h
    obtain ⟨a, fdt, e1, F1⟩ := F.df d hd
    exact ⟨a, fdt, d.ps, e1, F1.kp, F1.bindsN (hb d hd), ⟨fun vs H Q E ⟨μ, η, ds, _, _, pg⟩ => pg.elim, fun A outer s H args us vs Q E _ _ _ _ ⟨μ, η, ds, _, _, pg⟩ => pg.elim⟩⟩
  | succ k ih =>
    intro f x fd h
    have h' := h
    rw [hT] at h
    obtain ⟨d, hd, rfl, rfl⟩ := lookup_def h
    obtain ⟨a, fdt, e1, F1⟩ := F.df d hd
    exact ⟨a, fdt, d.ps, e1, F1.kp, F1.bindsN (hb d hd), fn_step hT hck F ih hd h' F1⟩
end
end Ev

set_option Elab.async false
set_option linter.all false
set_option maxRecDepth 100000
/-! # Part B: the head, the end -/
namespace Ev
open PySem
open PySem.Spec
open PyProof.Rows
open L2
/-! ### global values -/
mutual
def glB (K : PySem.W.Frag) : D → Value → Bool
  | .non, u => match u with
    | .none => true
    | _ => false
  | .bl b, u => match u with
    | .bool c => decide (b = c)
    | _ => false
  | .int i, u => match u with
    | .int j _ => decide (i = j)
    | _ => false
  | .str x, u => match u with
    | .str y _ => decide (x = y)
    | _ => false
  | .tup xs, u => match u with
    | .ref a => match K.lookup a with
      | some ⟨.type c, _, .seq its _, _⟩ => decide (c = "tuple") && decide (its.size ≤ sizeLine) && glBs K xs its.toList
      | _ => false
    | _ => false
  | _, _ => false
def glBs (K : PySem.W.Frag) : List D → List Value → Bool
  | [], us => match us with
    | [] => true
    | _ => false
  | d :: ds, us => match us with
    | u :: us => glB K d u && glBs K ds us
    | _ => false
end
mutual
theorem glB_ok {K : PySem.W.Frag} : ∀ (d : D) (u : Value), glB K d u = true → ∃ v, RelV v u ∧ d.isTl = false ∧ ∀ H μ, RV K H μ d v
  | .non, u, h => by
    unfold glB at h
    split at h
    · exact ⟨.non, rfl, rfl, fun H μ => by simp [RV]⟩
    · cases h
  | .bl b, u, h => by
    unfold glB at h
    split at h
    · have := of_decide_eq_true h; subst this; exact ⟨.bl b, rfl, rfl, fun H μ => by simp [RV]⟩
    · cases h
  | .int i, u, h => by
    unfold glB at h
    split at h
    · have := of_decide_eq_true h; subst this; exact ⟨.int i, ⟨_, rfl⟩, rfl, fun H μ => by simp [RV]⟩
    · cases h
  | .str x, u, h => by
    unfold glB at h
    split at h
    · have := of_decide_eq_true h; subst this; exact ⟨.str x, ⟨_, rfl⟩, rfl, fun H μ => by simp [RV]⟩
    · cases h
  | .tup xs, u, h => by
    unfold glB at h
    split at h
    · rename_i a
      split at h
      · rename_i c od its n osl q
        simp only [Bool.and_eq_true, decide_eq_true_eq] at h
        obtain ⟨vs, r1, r2⟩ := glBs_ok xs its.toList h.2
        refine ⟨.ref a, rfl, rfl, fun H μ => ?_⟩
        simp only [RV]
        exact ⟨a, vs, rfl, .inr ⟨_, its, n, q, congrArg Value.type h.1.1, rfl, h.1.2, r1⟩, r2 H μ⟩
      · cases h
    · cases h
  | .ref _, u, h => by simp [glB] at h
  | .tl _, u, h => by simp [glB] at h
  | .fl _, u, h => by simp [glB] at h
theorem glBs_ok {K : PySem.W.Frag} : ∀ (ds : List D) (us : List Value), glBs K ds us = true → ∃ vs, Vals vs us ∧ ∀ H μ, RVs K H μ ds vs
  | [], us, h => by
    unfold glBs at h
    split at h
    · exact ⟨[], .nil, fun H μ => by simp [RVs]⟩
    · cases h
  | d :: ds, us, h => by
    unfold glBs at h
    split at h
    · simp only [Bool.and_eq_true] at h
      obtain ⟨v, r1, r2, r3⟩ := glB_ok d _ h.1
      obtain ⟨vs, q1, q2⟩ := glBs_ok ds _ h.2
      exact ⟨v :: vs, .cons r1 q1, fun H μ => by simp only [RVs]; exact ⟨v, vs, rfl, r3 H μ, r2, q2 H μ⟩⟩
    · cases h
end
/-! ### the Hook -/
def factsB (T : Tab) (defs : List Def) (K : PySem.W.Frag) : Bool :=
  (bltNames.all fun x => He.eqO (PySem.W.nsIn K mainGlobals x) (some none)) &&
  ((T.gl.all fun p => match PySem.W.nsIn K mainGlobals p.1 with
    | some (some u) => glB K p.2 u
    | _ => false) &&
  ((defs.all fun d => He.eqO (PySem.W.nsIn K mainGlobals d.x) (some (some (.ref (He.ga K d.x))))) &&
  ((T.ex.all fun p => He.eqO (PySem.W.nsIn K mainGlobals p.2) (some (some (.ref (He.ga K p.2)))) && (He.Fa.exc p.2).ok K) &&
  (T.ex.all fun p => T.ex.all fun q => decide (PySem.W.exmOne K (.ref (He.ga K p.2)) (.ref (He.ga K q.2)) = some (decide (p.1 = q.1)))))))
def hookE (n : Nat) (T : Tab) (defs : List Def) : PySem.W.Hook where
  α := Bool × He.AlD
  obs := fun s => (factsB T defs (He.frG s.heap.get? (He.asD s.heap.get? n)), He.obsDG n [] (defs.map Def.dd) s.heap.get?)
  val := fun _ => (true, He.valD (defs.map Def.dd))
  says := fun _ h => ∃ K : PySem.W.Frag, K.In h ∧ factsB T defs K = true ∧ He.SaysD [] (defs.map Def.dd) K
  of := fun _ _ e => ⟨_, He.frG_in, congrArg Prod.fst e, congrArg Prod.snd e⟩
  keeps := fun _ _ _ ⟨K, hK, c⟩ k => ⟨K, PySem.W.Frag.In.keeps hK k, c⟩
def obE (n : Nat) (T : Tab) (defs : List Def) (s : PySem.W.SharedT) : Bool × He.AlD := (factsB T defs (He.frG (HandSHeadRun.getT s) (He.asD (HandSHeadRun.getT s) n)), He.obsDG n [] (defs.map Def.dd) (HandSHeadRun.getT s))
theorem obE_eq (n : Nat) (T : Tab) (defs : List Def) (s : PySem.W.SharedT) : obE n T defs s = (hookE n T defs).obs s.abs := by
  have e : HandSHeadRun.getT s = s.abs.heap.get? := funext (HandSHeadRun.getT_eq s)
  unfold obE
  rw [e]
  rfl
theorem lookup_mem {α β : Type} [BEq α] [LawfulBEq α] : ∀ {l : List (α × β)} {a : α} {b : β}, l.lookup a = some b → (a, b) ∈ l
  | [], _, _, h => by cases h
  | (c, d) :: r, a, b, h => by
    rw [List.lookup_cons] at h
    split at h
    · rename_i e
      cases h
      rw [eq_of_beq e]
      exact List.mem_cons_self
    · exact List.mem_cons_of_mem _ (lookup_mem h)
theorem facts_of {T : Tab} {defs : List Def} {K : PySem.W.Frag} {h : Heap} {mg : Str → Option Value} (X : K.In h) (G : h.Ns mainGlobals mg) (c : factsB T defs K = true) (s : He.SaysD [] (defs.map Def.dd) K) : Facts T defs K mg := by
  unfold factsB at c
  simp only [Bool.and_eq_true, List.all_eq_true] at c
  obtain ⟨c1, c2, c3, c4, c5⟩ := c
  have hx : ∀ c x, T.ex.lookup c = some x → mg x = some (.ref (He.ga K x)) ∧ (He.Fa.exc x).ok K = true := fun c x hl => by
    obtain ⟨q1, q2⟩ := c4 _ (lookup_mem hl)
    exact ⟨PySem.W.mg_of X G (He.eqO_ok q1), q2⟩
  refine ⟨fun x hx => PySem.W.mg_none_of X G (He.eqO_ok (c1 x hx)), fun x d hl => ?_, fun d hd => ?_, fun c x hl => ?_, fun c x k y A B h1 h2 h3 h4 => ?_⟩
  · have q := c2 _ (lookup_mem hl)
    simp only at q
    split at q
    · rename_i u e
      obtain ⟨v, r1, r2, r3⟩ := glB_ok d u q
      exact ⟨v, u, PySem.W.mg_of X G e, r1, r2, r3⟩
    · cases q
  · obtain ⟨i, hi, e⟩ := List.getElem_of_mem hd
    obtain ⟨fdt, F⟩ := s.def_ i (d := d.dd) (by rw [List.getElem?_map, List.getElem?_eq_getElem hi, e]; rfl)
    exact ⟨He.ga K d.x, fdt, PySem.W.mg_of X G (He.eqO_ok (c3 d hd)), F⟩
  · obtain ⟨q1, q2⟩ := hx c x hl
    obtain ⟨e1, e2, e3, e4⟩ := He.exc_ok q2
    exact ⟨_, q1, e1, e2, e3, e4⟩
  · have e1 := (hx c x h1).1
    have e2 := (hx k y h2).1
    rw [h3] at e1; rw [h4] at e2
    cases e1; cases e2
    exact of_decide_eq_true (c5 _ (lookup_mem h1) _ (lookup_mem h2))
/-! ### the law -/
theorem law_sp {K : PySem.W.Frag} {XR : XRel} {T : Tab} {k id n : Nat} (h : ∀ ns : List Int, ns.length ≤ n → ∃ η, callN T.Γ k id [.fl (ns.map .int)] [] = .ok (.bl true) η)
    (H : Hp) (a : Addr) (ns : List Int) (hl : ns.length ≤ n) (ho : Only H) (hs : SqL K H a (ns.map V.int)) : spF K XR (callN T.Γ k) id [.ref a] H (fun v _ => v = .bl true) fun _ _ _ => False := by
  obtain ⟨η, e⟩ := h ns hl
  refine ⟨[], [], [.fl (ns.map .int)], ?_, ⟨rfl, List.nodup_nil, fun n a xs h => by simp at h⟩, ?_⟩
  · simp only [RVs, RV]
    refine ⟨.ref a, [], rfl, ⟨a, ns.map V.int, rfl, ?_, ?_⟩, rfl, rfl⟩
    · rcases hs with (q | ⟨o, q⟩) | q
      · rcases ho a with z | ⟨o, xs, z⟩
        · rw [z] at q; cases q
        · rw [z] at q; cases q
      · exact .inl ⟨o, q⟩
      · exact .inr q
    · clear e hs hl
      induction ns with
      | nil => simp [RVs]
      | cons i r ih => simp only [List.map_cons, RVs]; exact ⟨.int i, _, rfl, by simp [RV], rfl, ih⟩
  · rw [e]
    intro v μ' H' s r rf
    have := rf.1
    simpa [RV] using this
theorem cx_none {P : Program} {w : World} (H : Hp) (s : Shared) (e : Value) (s' : Shared) : L2.CX P w [] H s (fun _ _ _ => False) e s' → False := fun ⟨_, _, _, _, _, _, _, _, _, _, _, _, q⟩ => q
/-- what walk_ofE wants -/
theorem law_F {Pr : Program} {w : World} {T : Tab} {defs : List Def} {n k : Nat} {d : Def} {x : Str} (hT : T.fn = defs.map fun d => (d.id, d.x, d.fd)) (hck : ∀ d ∈ defs, ckDef T d = true) (hb : ∀ d ∈ defs, BindOk d) (hd : d ∈ defs) (hl : T.fn.lookup d.id = some (d.x, d.fd)) (hps : d.ps = [x])
    (law : ∀ ns : List Int, ns.length ≤ n → ∃ η, callN T.Γ (k + 1) d.id [.fl (ns.map .int)] [] = .ok (.bl true) η)
    {mg : Str → Option Value} {fa : Addr} {h : Heap} {m : Nat} (Y : (hookE m T defs).says w h) (G : h.Ns mainGlobals mg) (hmg : mg d.x = some (.ref fa)) :
      ∃ (K : PySem.W.Frag) (fd : FuncData) (sp : Sp), K.In h ∧ (∀ (s : Shared) (u : Value), BindsTo s fd ⟨[u], []⟩ [(x, u)]) ∧
        (∀ (H : Hp) (a : Addr) (ns : List Int), ns.length ≤ n → Only H → SqL K H a (ns.map V.int) → sp [.ref a] H (fun v _ => v = .bl true) fun _ _ _ => False) ∧
        ∀ base : Heap, K.In base → base.Ns mainGlobals mg → FnOk Pr w K mg base (L2.CX Pr w) (k + 1) fa fd [x] sp := by
  obtain ⟨K, KX, c, s⟩ := Y
  have F := facts_of KX G c s
  obtain ⟨a, fdt, e1, F1⟩ := F.df d hd
  rw [hmg] at e1
  cases e1
  refine ⟨K, fdt, spF K (XRof mg T) (callN T.Γ (k + 1)) d.id, KX, fun s u => ?_, fun H a ns => law_sp law H a ns, fun base KB GB => ?_⟩
  · have b := F1.bindsA (hb d hd) s [u] (by rw [hps]; rfl)
    rw [hps] at b
    exact b
  · have q := fn_step (Pr := Pr) (w := w) (base := base) hT hck F (fns_ok hT hck hb F k) hd hl F1
    rw [hps] at q
    exact q
/-- a law's walk, its exceptions told over the world -/
theorem walk_ofX {l : PySem.W.OpenLaw} {n k : Nat} {q : Program} {loose : List Str} {XP : (Str → Option Value) → Heap → Prop} {YP : World → Heap → Prop} {d : DefRec} {x : Str}
    (hn : l.most = some n) (hn2 : n ≤ sizeLine)
    (hdf : d.params.defaults = []) (hr : Room k callerA)
    (F : ∀ (w : World) (mg : Str → Option Value) (fa : Addr) (h : Heap), YP w h →
      h.Ns mainGlobals mg → mg d.name = some (.ref fa) →
      ∃ (K : PySem.W.Frag) (fd : FuncData) (sp : Sp), K.In h ∧
        (∀ (s : Shared) (u : Value), BindsTo s fd ⟨[u], []⟩ [(x, u)]) ∧
        (∀ (H : Hp) (a : Addr) (ns : List Int), ns.length ≤ n → Only H →
          SqL K H a (ns.map V.int) → sp [.ref a] H (fun v _ => v = .bl true) fun _ _ _ => False) ∧
        ∀ base : Heap, K.In base → base.Ns mainGlobals mg →
          FnOk l.prog w K mg base (L2.CX l.prog w) k fa fd [x] sp) :
    PySem.W.WalkO q loose XP YP l.row.toRowW d [] (fun f vs => PySem.call f vs) := by
  apply Att.attach_call hn hdf
  intro w s₀ s₁ mg mb fa o pm cd doc a vs ns G Y ho hd hcd hmg hobj hints hlen hg
  obtain ⟨K, fd, sp, KX, hb, hsp, hF⟩ := F w mg fa _ Y G.T.g hmg
  have hl := Nat.le_trans hlen hn2
  exact law_call KX G.T.g G.T.b G.T.builtins G.T.nolimit hg hobj hints hl hr hF hb
    (fun H hO hS => hsp H a ns hlen hO hS) (fun H e s' => cx_none H s₁ e s')
end Ev

set_option Elab.async false
set_option linter.all false
set_option maxRecDepth 100000
/-! # Part D: how the small language computes -/
namespace Ev
open PySem PySem.Spec
/-! ## while -/
section
variable {c : Lo → Hep → R D} {b : Lo → Hep → SR}
def whS (c : Lo → Hep → R D) (b : Lo → Hep → SR) (k : Lo → Hep → SR) (ρ : Lo) (η : Hep) : SR := match c ρ η with
  | .ok (.bl true) η1 => match b ρ η1 with
    | .nx ρ2 η2 => k ρ2 η2
    | .ct ρ2 η2 => k ρ2 η2
    | .bk ρ2 η2 => .nx ρ2 η2
    | r => r
  | .ok (.bl false) η1 => .nx ρ η1
  | .exc k xs η1 => .exc k xs ρ η1
  | _ => .bad
theorem whF_succ (n : Nat) (ρ : Lo) (η : Hep) : whF c b (n + 1) ρ η = whS c b (whF c b n) ρ η := rfl
theorem whS_mono {k k' : Lo → Hep → SR} (h : ∀ ρ η, k ρ η ≠ .bad → k' ρ η = k ρ η) {ρ : Lo} {η : Hep} (n : whS c b k ρ η ≠ .bad) : whS c b k' ρ η = whS c b k ρ η := by
  unfold whS at n ⊢
  split <;> rename_i e <;> simp only [e] at n ⊢
  split <;> rename_i e2 <;> simp only [e2] at n ⊢
  · exact h _ _ n
  · exact h _ _ n
theorem whF_mono : ∀ (n : Nat) (ρ : Lo) (η : Hep), whF c b n ρ η ≠ .bad → whF c b (n + 1) ρ η = whF c b n ρ η
  | 0, ρ, η, h => absurd rfl h
  | n + 1, ρ, η, h => by
    rw [whF_succ (n + 1), whF_succ n] at *
    exact whS_mono (whF_mono n) h
theorem whF_le {n m : Nat} (hm : n ≤ m) {ρ : Lo} {η : Hep} (h : whF c b n ρ η ≠ .bad) : whF c b m ρ η = whF c b n ρ η := by
  obtain ⟨k, rfl⟩ := Nat.exists_eq_add_of_le hm
  clear hm
  induction k with
  | zero => rfl
  | succ k ih => exact (whF_mono (n + k) ρ η (by rw [ih]; exact h)).trans ih
theorem whL_of {n : Nat} {ρ : Lo} {η : Hep} (h : whF c b n ρ η ≠ .bad) : whL c b ρ η = whF c b n ρ η := by
  have hx : ∃ n, whF c b n ρ η ≠ .bad := ⟨n, h⟩
  unfold whL
  rw [dif_pos hx]
  rcases Nat.le_total n hx.choose with q | q
  · exact whF_le q h
  · exact (whF_le q hx.choose_spec).symm
theorem whL_eq (ρ : Lo) (η : Hep) : ∃ n, whL c b ρ η = whF c b n ρ η := by
  unfold whL
  split
  · exact ⟨_, rfl⟩
  · exact ⟨0, rfl⟩
/-- one turn -/
theorem whL_step (ρ : Lo) (η : Hep) : whL c b ρ η = whS c b (whL c b) ρ η := by
  by_cases h : ∃ n, whF c b n ρ η ≠ .bad
  · obtain ⟨n, h⟩ := h
    rw [whL_of h]
    cases n with
    | zero => exact absurd rfl h
    | succ n =>
      rw [whF_succ] at h ⊢
      exact (whS_mono (fun ρ η hn => whL_of hn) h).symm
  · have e : whL c b ρ η = .bad := by unfold whL; rw [dif_neg h]
    rw [e]
    unfold whS
    have no : ∀ n, whS c b (whF c b n) ρ η = .bad := fun n => Classical.byContradiction fun q => h ⟨n + 1, q⟩
    unfold whS at no
    split <;> rename_i e1 <;> simp only [e1] at no
    · split <;> rename_i e2 <;> simp only [e2] at no
      · obtain ⟨n, q⟩ := whL_eq (c := c) (b := b) _ _; rw [q, no n]
      · obtain ⟨n, q⟩ := whL_eq (c := c) (b := b) _ _; rw [q, no n]
      · exact absurd (no 0) (by simp)
      · exact (no 0).symm
    · exact absurd (no 0) (by simp)
    · exact absurd (no 0) (by simp)
    · rfl
end
/-! ## behind a call -/
theorem okCells_self (n : Nat) : ∀ η : Hep, okCells n η η = true
  | [] => rfl
  | c :: r => by simp [okCells, okCells_self n r]
theorem fin_same {η : Hep} {v : D} : fin η (.ok v η) = .ok v η := by
  unfold fin
  simp only [okCells_self, if_true, List.take_length]
  split
  · rfl
  · rename_i hb
    split
    · rename_i m
      split
      · rename_i xs hx
        exfalso
        apply hb
        simp only [D.blw, decide_eq_true_eq]
        exact (List.getElem?_eq_some_iff.mp hx).1
      · rfl
    · rfl
/-! ## simp keeps out of what comes later -/
theorem R.bind_congr {α β : Type} {r r' : R α} {k : α → Hep → R β} (h : r = r') : r.bind k = r'.bind k := by rw [h]
theorem R.go_congr {α : Type} {r r' : R α} {ρ : Lo} {k : α → Hep → SR} (h : r = r') : r.go ρ k = r'.go ρ k := by rw [h]
theorem SR.seq_congr {r r' : SR} {k : Lo → Hep → SR} (h : r = r') : r.seq k = r'.seq k := by rw [h]
theorem whL_congr {c : Lo → Hep → R D} {b : Lo → Hep → SR} {ρ ρ' : Lo} {η η' : Hep} (h : ρ = ρ') (h2 : η = η') : whL c b ρ η = whL c b ρ' η' := by rw [h, h2]
theorem forL_congr {b : Lo → Hep → SR} {t : T} {w : List (Nat × List D)} {xs xs' : List D} {ρ ρ' : Lo} {η η' : Hep} (h0 : xs = xs') (h : ρ = ρ') (h2 : η = η') : forL b t w xs ρ η = forL b t w xs' ρ' η' := by rw [h0, h, h2]
theorem compL_congr {e c : Lo → Hep → R D} {t : T} {w : List (Nat × List D)} {xs xs' acc acc' : List D} {ρ ρ' : Lo} {η η' : Hep} (h0 : xs = xs') (h : ρ = ρ') (h2 : η = η') (h3 : acc = acc') : compL e c t w ρ xs η acc = compL e c t w ρ' xs' η' acc' := by rw [h0, h, h2, h3]
theorem whL_true {c : Lo → Hep → R D} {b : Lo → Hep → SR} {ρ ρ2 : Lo} {η η1 η2 : Hep} (h : c ρ η = .ok (.bl true) η1) (h2 : b ρ η1 = .nx ρ2 η2) : whL c b ρ η = whL c b ρ2 η2 := by
  rw [whL_step]
  unfold whS
  rw [h]
  simp only
  rw [h2]
theorem whL_ret {c : Lo → Hep → R D} {b : Lo → Hep → SR} {ρ : Lo} {d : D} {η η1 η2 : Hep} (h : c ρ η = .ok (.bl true) η1) (h2 : b ρ η1 = .rt d η2) : whL c b ρ η = .rt d η2 := by
  rw [whL_step]
  unfold whS
  rw [h]
  simp only
  rw [h2]
theorem whL_false {c : Lo → Hep → R D} {b : Lo → Hep → SR} {ρ : Lo} {η η1 : Hep} (h : c ρ η = .ok (.bl false) η1) : whL c b ρ η = .nx ρ η1 := by
  rw [whL_step]
  unfold whS
  rw [h]
end Ev

set_option Elab.async false
set_option linter.all false
/-! the functions that many laws have, in the small language (printed by gen.py) -/
namespace Ev.Law
open Ev
/-- echoedtree.shares:is_count (80) -/
def F0 : Fd := ⟨1, 1, (.cons (.ret (.and (.isi (.var 0) [.int] false) (.not (.isi (.var 0) [.bool] false))))
 .nil)⟩
/-- echoedtree.shares:divisor (78) -/
def F1 : Fd := ⟨2, 2, (.cons (.par 0 1 (.prim .abs (.cons (.var 0) .nil)) (.prim .abs (.cons (.var 1) .nil)))
 (.cons (.whl (.cmp .ne (.var 1) (.lit (.int 0))) (.cons (.par 0 1 (.var 1) (.bin .mod (.var 0) (.var 1)))
 .nil))
 (.cons (.ret (.var 0))
 .nil)))⟩
/-- echoedtree.shares:make (74) -/
def F2 : Fd := ⟨2, 3, (.cons (.ifs (.or (.not (.call 0 (.cons (.var 0) .nil))) (.or (.not (.call 0 (.cons (.var 1) .nil))) (.cmp .eq (.var 1) (.lit (.int 0))))) (.cons (.raise 782 .nil)
 .nil) .nil)
 (.cons (.ifs (.cmp .lt (.var 1) (.lit (.int 0))) (.cons (.par 0 1 (.neg (.var 0)) (.neg (.var 1)))
 .nil) .nil)
 (.cons (.asg (.nm 2) (.call 1 (.cons (.var 0) (.cons (.var 1) .nil))))
 (.cons (.ret (.tup (.cons (.bin .fdiv (.var 0) (.var 2)) (.cons (.bin .fdiv (.var 1) (.var 2)) .nil))))
 .nil))))⟩
/-- echoedtree.shares:plus (69) -/
def F3 : Fd := ⟨2, 2, (.cons (.ret (.call 2 (.cons (.bin .add (.bin .mul (.idx (.var 0) (.lit (.int 0))) (.idx (.var 1) (.lit (.int 1)))) (.bin .mul (.idx (.var 1) (.lit (.int 0))) (.idx (.var 0) (.lit (.int 1))))) (.cons (.bin .mul (.idx (.var 0) (.lit (.int 1))) (.idx (.var 1) (.lit (.int 1)))) .nil))))
 .nil)⟩
/-- echoedtree.shares:times (68) -/
def F4 : Fd := ⟨2, 2, (.cons (.ret (.call 2 (.cons (.bin .mul (.idx (.var 0) (.lit (.int 0))) (.idx (.var 1) (.lit (.int 0)))) (.cons (.bin .mul (.idx (.var 0) (.lit (.int 1))) (.idx (.var 1) (.lit (.int 1)))) .nil))))
 .nil)⟩
/-- echoedtree.shares:common_below (10) -/
def F5 : Fd := ⟨1, 3, (.cons (.asg (.nm 1) (.lit (.int 1)))
 (.cons (.fr (.nm 2) (.val (.var 0)) (.cons (.asg (.nm 1) (.bin .mul (.bin .fdiv (.var 1) (.call 1 (.cons (.var 1) (.cons (.idx (.var 2) (.lit (.int 1))) .nil)))) (.idx (.var 2) (.lit (.int 1)))))
 .nil))
 (.cons (.ret (.var 1))
 .nil)))⟩
/-- echoedtree.shares:wholes (10) -/
def F6 : Fd := ⟨1, 6, (.cons (.asg (.nm 1) (.call 5 (.cons (.var 0) .nil)))
 (.cons (.asg (.nm 2) (.comp (.bin .mul (.idx (.var 5) (.lit (.int 0))) (.bin .fdiv (.var 1) (.idx (.var 5) (.lit (.int 1))))) (.nm 5) (.val (.var 0)) .no [5]))
 (.cons (.asg (.nm 3) (.lit (.int 0)))
 (.cons (.fr (.nm 4) (.val (.var 2)) (.cons (.asg (.nm 3) (.call 1 (.cons (.var 3) (.cons (.var 4) .nil))))
 .nil))
 (.cons (.ifs (.cmp .eq (.var 3) (.lit (.int 0))) (.cons (.ret (.tup (.cons (.prim .tuple (.cons (.var 2) .nil)) (.cons (.glb "ONE" (.tup [(.int 1), (.int 1)])) .nil))))
 .nil) .nil)
 (.cons (.ret (.tup (.cons (.prim .tuple (.cons (.comp (.bin .fdiv (.var 4) (.var 3)) (.nm 4) (.val (.var 2)) .no [4]) .nil)) (.cons (.call 2 (.cons (.var 1) (.cons (.var 3) .nil))) .nil))))
 .nil))))))⟩
/-- law:_law_tape:f38e35a5 (75) -/
def F21 : Fd := ⟨1, 3, (.cons (.asg (.nm 1) (.lit (.int 7)))
 (.cons (.fr (.nm 2) (.val (.var 0)) (.cons (.asg (.nm 1) (.bin .mod (.prim .int (.cons (.bin .add (.bin .mul (.var 1) (.lit (.int 31))) (.var 2)) .nil)) (.lit (.int 1000003))))
 .nil))
 (.cons (.ret (.lst (.cons (.comp (.prim .abs (.cons (.prim .int (.cons (.var 2) .nil)) .nil)) (.nm 2) (.val (.var 0)) .no [2]) (.cons (.bin .add (.var 1) (.lit (.int 1))) .nil))))
 .nil)))⟩
/-- law:_law_draw:55b7365a (81) -/
def F22 : Fd := ⟨2, 4, (.cons (.asg (.nm 2) (.idx (.var 0) (.lit (.int 0))))
 (.cons (.whl (.and (.cmp .gt (.prim .len (.cons (.var 2) .nil)) (.lit (.int 0))) (.cmp .eq (.idx (.var 2) (.lit (.int 0))) (.lit (.int 0)))) (.cons (.ex (.meth .popAt (.var 2) (.cons (.lit (.int 0)) .nil)))
 .nil))
 (.cons (.ifs (.cmp .gt (.prim .len (.cons (.var 2) .nil)) (.lit (.int 0))) (.cons (.asg (.nm 3) (.idx (.var 2) (.lit (.int 0))))
 (.cons (.sub (.var 2) (.lit (.int 0)) (.bin .fdiv (.var 3) (.var 1)))
 (.cons (.ret (.bin .mod (.prim .int (.cons (.var 3) .nil)) (.var 1)))
 .nil))) .nil)
 (.cons (.sub (.var 0) (.lit (.int 1)) (.bin .mod (.prim .int (.cons (.bin .add (.bin .mul (.idx (.var 0) (.lit (.int 1))) (.lit (.int 48271))) (.lit (.int 12345))) .nil)) (.lit (.int 2147483647))))
 (.cons (.ret (.bin .mod (.prim .int (.cons (.bin .fdiv (.idx (.var 0) (.lit (.int 1))) (.lit (.int 64))) .nil)) (.var 1)))
 .nil)))))⟩
/-- law:_law_pick:af93d2bc (30) -/
def F23 : Fd := ⟨2, 2, (.cons (.ret (.idx (.var 1) (.call 22 (.cons (.var 0) (.cons (.prim .len (.cons (.var 1) .nil)) .nil)))))
 .nil)⟩
/-- law:_law_same:bbd9d995 (40) -/
def F24 : Fd := ⟨2, 3, (.cons (.ifs (.isn false (.var 1)) (.cons (.ret (.isn false (.var 0)))
 .nil) .nil)
 (.cons (.ifs (.isi (.var 1) [.bool] false) (.cons (.ret (.and (.isi (.var 0) [.bool] false) (.cmp .eq (.var 0) (.var 1))))
 .nil) .nil)
 (.cons (.ifs (.isi (.var 1) [.tuple, .list] true) (.cons (.ifs (.or (.cmp .ne (.isi (.var 1) [.tuple] false) (.isi (.var 0) [.tuple] false)) (.cmp .ne (.isi (.var 1) [.list] false) (.isi (.var 0) [.list] false))) (.cons (.ret (.lit (.bl false)))
 .nil) .nil)
 (.cons (.ret (.and (.cmp .eq (.prim .len (.cons (.var 0) .nil)) (.prim .len (.cons (.var 1) .nil))) (.prim .all (.cons (.comp (.call 24 (.cons (.idx (.var 0) (.var 2)) (.cons (.idx (.var 1) (.var 2)) .nil))) (.nm 2) (.rng1 (.prim .len (.cons (.var 1) .nil))) .no [2]) .nil))))
 .nil)) .nil)
 (.cons (.ifs (.isi (.var 1) [.str] false) (.cons (.ret (.and (.isi (.var 0) [.str] false) (.cmp .eq (.var 0) (.var 1))))
 .nil) .nil)
 (.cons (.ret (.and (.isi (.var 0) [.int] false) (.and (.not (.isi (.var 0) [.bool] false)) (.cmp .eq (.var 0) (.var 1)))))
 .nil)))))⟩
/-- law:_law_make:c1f13e2f (41) -/
def F25 : Fd := ⟨2, 4, (.cons (.ifs (.cmp .lt (.var 1) (.lit (.int 0))) (.cons (.par 0 1 (.neg (.var 0)) (.neg (.var 1)))
 .nil) .nil)
 (.cons (.par 2 3 (.prim .abs (.cons (.var 0) .nil)) (.var 1))
 (.cons (.whl (.cmp .ne (.var 3) (.lit (.int 0))) (.cons (.par 2 3 (.var 3) (.bin .mod (.var 2) (.var 3)))
 .nil))
 (.cons (.ret (.tup (.cons (.bin .fdiv (.var 0) (.var 2)) (.cons (.bin .fdiv (.var 1) (.var 2)) .nil))))
 .nil))))⟩
/-- law:_law_plus:81205537 (37) -/
def F26 : Fd := ⟨2, 2, (.cons (.ret (.call 25 (.cons (.bin .add (.bin .mul (.idx (.var 0) (.lit (.int 0))) (.idx (.var 1) (.lit (.int 1)))) (.bin .mul (.idx (.var 1) (.lit (.int 0))) (.idx (.var 0) (.lit (.int 1))))) (.cons (.bin .mul (.idx (.var 0) (.lit (.int 1))) (.idx (.var 1) (.lit (.int 1)))) .nil))))
 .nil)⟩
/-- law:_law_times:feb9a376 (38) -/
def F27 : Fd := ⟨2, 2, (.cons (.ret (.call 25 (.cons (.bin .mul (.idx (.var 0) (.lit (.int 0))) (.idx (.var 1) (.lit (.int 0)))) (.cons (.bin .mul (.idx (.var 0) (.lit (.int 1))) (.idx (.var 1) (.lit (.int 1)))) .nil))))
 .nil)⟩
/-- echoedtree.shares:minus (70) -/
def F32 : Fd := ⟨2, 2, (.cons (.ret (.call 2 (.cons (.bin .sub (.bin .mul (.idx (.var 0) (.lit (.int 0))) (.idx (.var 1) (.lit (.int 1)))) (.bin .mul (.idx (.var 1) (.lit (.int 0))) (.idx (.var 0) (.lit (.int 1))))) (.cons (.bin .mul (.idx (.var 0) (.lit (.int 1))) (.idx (.var 1) (.lit (.int 1)))) .nil))))
 .nil)⟩
/-- echoedtree.shares:over (68) -/
def F33 : Fd := ⟨2, 2, (.cons (.ret (.call 2 (.cons (.bin .mul (.idx (.var 0) (.lit (.int 0))) (.idx (.var 1) (.lit (.int 1)))) (.cons (.bin .mul (.idx (.var 0) (.lit (.int 1))) (.idx (.var 1) (.lit (.int 0)))) .nil))))
 .nil)⟩
/-- law:_law_minus:e9f7e255 (36) -/
def F49 : Fd := ⟨2, 2, (.cons (.ret (.call 25 (.cons (.bin .sub (.bin .mul (.idx (.var 0) (.lit (.int 0))) (.idx (.var 1) (.lit (.int 1)))) (.bin .mul (.idx (.var 1) (.lit (.int 0))) (.idx (.var 0) (.lit (.int 1))))) (.cons (.bin .mul (.idx (.var 0) (.lit (.int 1))) (.idx (.var 1) (.lit (.int 1)))) .nil))))
 .nil)⟩
/-- law:_law_over:c96d9e23 (32) -/
def F50 : Fd := ⟨2, 2, (.cons (.ret (.call 25 (.cons (.bin .mul (.idx (.var 0) (.lit (.int 0))) (.idx (.var 1) (.lit (.int 1)))) (.cons (.bin .mul (.idx (.var 0) (.lit (.int 1))) (.idx (.var 1) (.lit (.int 0)))) .nil))))
 .nil)⟩
/-- law:_law_total:97758e5c (32) -/
def F51 : Fd := ⟨1, 3, (.cons (.asg (.nm 1) (.tup (.cons (.lit (.int 0)) (.cons (.lit (.int 1)) .nil))))
 (.cons (.fr (.nm 2) (.val (.var 0)) (.cons (.asg (.nm 1) (.call 26 (.cons (.var 1) (.cons (.var 2) .nil))))
 .nil))
 (.cons (.ret (.var 1))
 .nil)))⟩
/-- law:_law_share:a9ab0179 (16) -/
def F54 : Fd := ⟨1, 1, (.cons (.ret (.call 25 (.cons (.bin .sub (.call 22 (.cons (.var 0) (.cons (.lit (.int 9)) .nil))) (.lit (.int 4))) (.cons (.bin .add (.lit (.int 1)) (.call 22 (.cons (.var 0) (.cons (.lit (.int 4)) .nil)))) .nil))))
 .nil)⟩
/-- echoedtree.shares:is_share (75) -/
def F60 : Fd := ⟨1, 1, (.cons (.ifs (.or (.not (.isi (.var 0) [.tuple] false)) (.or (.cmp .ne (.prim .len (.cons (.var 0) .nil)) (.lit (.int 2))) (.or (.not (.call 0 (.cons (.idx (.var 0) (.lit (.int 0))) .nil))) (.not (.call 0 (.cons (.idx (.var 0) (.lit (.int 1))) .nil)))))) (.cons (.ret (.lit (.bl false)))
 .nil) .nil)
 (.cons (.ret (.and (.cmp .gt (.idx (.var 0) (.lit (.int 1))) (.lit (.int 0))) (.cmp .eq (.call 1 (.cons (.idx (.var 0) (.lit (.int 0))) (.cons (.idx (.var 0) (.lit (.int 1))) .nil))) (.lit (.int 1)))))
 .nil))⟩
/-- echoedtree.shares:negative (64) -/
def F61 : Fd := ⟨1, 1, (.cons (.ret (.tup (.cons (.neg (.idx (.var 0) (.lit (.int 0)))) (.cons (.idx (.var 0) (.lit (.int 1))) .nil))))
 .nil)⟩
/-- echoedtree.shares:less (72) -/
def F69 : Fd := ⟨2, 2, (.cons (.ret (.cmp .lt (.bin .mul (.idx (.var 0) (.lit (.int 0))) (.idx (.var 1) (.lit (.int 1)))) (.bin .mul (.idx (.var 1) (.lit (.int 0))) (.idx (.var 0) (.lit (.int 1))))))
 .nil)⟩
/-- echoedtree.shares:total (29) -/
def F70 : Fd := ⟨1, 3, (.cons (.asg (.nm 1) (.glb "ZERO" (.tup [(.int 0), (.int 1)])))
 (.cons (.fr (.nm 2) (.val (.var 0)) (.cons (.asg (.nm 1) (.call 3 (.cons (.var 1) (.cons (.var 2) .nil))))
 .nil))
 (.cons (.ret (.var 1))
 .nil)))⟩
/-- law:_law_less:9656db1f (22) -/
def F75 : Fd := ⟨2, 2, (.cons (.ret (.cmp .lt (.bin .mul (.idx (.var 0) (.lit (.int 0))) (.idx (.var 1) (.lit (.int 1)))) (.bin .mul (.idx (.var 1) (.lit (.int 0))) (.idx (.var 0) (.lit (.int 1))))))
 .nil)⟩
/-- law:_law_width:21873cfe (24) -/
def F90 : Fd := ⟨1, 1, (.cons (.ifs (.cmp .eq (.call 22 (.cons (.var 0) (.cons (.lit (.int 4)) .nil))) (.lit (.int 0))) (.cons (.ret (.call 25 (.cons (.bin .add (.lit (.int 1)) (.call 22 (.cons (.var 0) (.cons (.lit (.int 7)) .nil)))) (.cons (.bin .add (.lit (.int 1)) (.call 22 (.cons (.var 0) (.cons (.lit (.int 5)) .nil)))) .nil))))
 .nil) .nil)
 (.cons (.ret (.tup (.cons (.bin .add (.lit (.int 1)) (.call 22 (.cons (.var 0) (.cons (.lit (.int 4)) .nil)))) (.cons (.lit (.int 1)) .nil))))
 .nil))⟩
/-- law:_law_size:147678cd (20) -/
def F91 : Fd := ⟨1, 2, (.cons (.ret (.bin .add (.idx (.var 0) (.lit (.int 0))) (.ite (.cmp .eq (.idx (.idx (.var 0) (.lit (.int 2))) (.lit (.int 0))) (.lit (.str "fork"))) (.prim .sum (.cons (.comp (.call 91 (.cons (.var 1) .nil)) (.nm 1) (.val (.idx (.idx (.var 0) (.lit (.int 2))) (.lit (.int 1)))) .no [1]) .nil)) (.lit (.int 0)))))
 .nil)⟩
/-- law:_law_pipe:29678ef0 (18) -/
def F92 : Fd := ⟨4, 11, (.cons (.par 6 7 (.bin .add (.lit (.int 1)) (.call 22 (.cons (.var 0) (.cons (.prim .min2 (.cons (.lit (.int 3)) (.cons (.var 1) .nil))) .nil)))) (.call 90 (.cons (.var 0) .nil)))
 (.cons (.asg (.nm 4) (.bin .sub (.var 1) (.var 6)))
 (.cons (.ifs (.and (.cmp .gt (.var 2) (.lit (.int 0))) (.and (.cmp .gt (.var 4) (.lit (.int 0))) (.cmp .lt (.call 22 (.cons (.var 0) (.cons (.lit (.int 5)) .nil))) (.lit (.int 4))))) (.cons (.asg (.nm 8) (.lst .nil))
 (.cons (.fr (.nm 9) (.rng1 (.bin .add (.lit (.int 1)) (.call 22 (.cons (.var 0) (.cons (.lit (.int 3)) .nil))))) (.cons (.ifs (.cmp .gt (.var 4) (.lit (.int 0))) (.cons (.asg (.nm 10) (.call 92 (.cons (.var 0) (.cons (.var 4) (.cons (.bin .sub (.var 2) (.lit (.int 1))) (.cons (.var 3) .nil))))))
 (.cons (.aug 4 .sub (.call 91 (.cons (.var 10) .nil)))
 (.cons (.ex (.meth .append (.var 8) (.cons (.var 10) .nil)))
 .nil))) .nil)
 .nil))
 (.cons (.ret (.tup (.cons (.var 6) (.cons (.var 7) (.cons (.tup (.cons (.lit (.str "fork")) (.cons (.prim .tuple (.cons (.var 8) .nil)) .nil))) .nil)))))
 .nil))) .nil)
 (.cons (.asg (.nm 5) (.call 22 (.cons (.var 0) (.cons (.ite (.var 3) (.lit (.int 4)) (.lit (.int 2))) .nil))))
 (.cons (.ifs (.cmp .eq (.var 5) (.lit (.int 3))) (.cons (.ret (.tup (.cons (.var 6) (.cons (.var 7) (.cons (.tup (.cons (.lit (.str "drain")) (.cons (.var 7) .nil))) .nil)))))
 .nil) .nil)
 (.cons (.ret (.tup (.cons (.var 6) (.cons (.var 7) (.cons (.idx (.lst (.cons (.tup (.cons (.lit (.str "shut")) .nil)) (.cons (.tup (.cons (.lit (.str "open")) .nil)) (.cons (.tup (.cons (.lit (.str "drain")) (.cons (.call 90 (.cons (.var 0) .nil)) .nil))) .nil)))) (.var 5)) .nil)))))
 .nil))))))⟩
/-- law:_law_kids:fcac1775 (50) -/
def F94 : Fd := ⟨1, 1, (.cons (.ret (.ite (.cmp .eq (.idx (.idx (.var 0) (.lit (.int 2))) (.lit (.int 0))) (.lit (.str "fork"))) (.idx (.idx (.var 0) (.lit (.int 2))) (.lit (.int 1))) (.tup .nil)))
 .nil)⟩
/-- law:_law_paths:5316fb36 (12) -/
def F95 : Fd := ⟨1, 5, (.cons (.asg (.nm 1) (.lst (.cons (.tup .nil) .nil)))
 (.cons (.fr (.tp [(.nm 2), (.nm 3)]) (.enm (.call 94 (.cons (.var 0) .nil))) (.cons (.asg (.nm 1) (.bin .add (.var 1) (.comp (.bin .add (.tup (.cons (.var 2) .nil)) (.var 4)) (.nm 4) (.val (.call 95 (.cons (.var 3) .nil))) .no [4])))
 .nil))
 (.cons (.ret (.var 1))
 .nil)))⟩
/-- law:_law_at:48f2bb97 (37) -/
def F96 : Fd := ⟨2, 3, (.cons (.fr (.nm 2) (.val (.var 1)) (.cons (.asg (.nm 0) (.idx (.call 94 (.cons (.var 0) .nil)) (.var 2)))
 .nil))
 (.cons (.ret (.var 0))
 .nil))⟩
/-- law:_law_lay:8ed752ee (19) -/
def F143 : Fd := ⟨2, 5, (.cons (.asg (.nm 2) (.prim .len (.cons (.var 1) .nil)))
 (.cons (.ex (.meth .append (.var 1) (.cons (.lit .non) .nil)))
 (.cons (.asg (.nm 3) (.ite (.cmp .eq (.idx (.idx (.var 0) (.lit (.int 2))) (.lit (.int 0))) (.lit (.str "fork"))) (.comp (.call 143 (.cons (.var 4) (.cons (.var 1) .nil))) (.nm 4) (.val (.idx (.idx (.var 0) (.lit (.int 2))) (.lit (.int 1)))) .no [4]) (.lst .nil)))
 (.cons (.sub (.var 1) (.var 2) (.tup (.cons (.idx (.var 0) (.lit (.int 0))) (.cons (.idx (.var 0) (.lit (.int 1))) (.cons (.idx (.var 0) (.lit (.int 2))) (.cons (.var 3) .nil))))))
 (.cons (.ret (.var 2))
 .nil)))))⟩
/-- law:_law_plan:c299dff3 (19) -/
def F144 : Fd := ⟨1, 2, (.cons (.asg (.nm 1) (.lst .nil))
 (.cons (.ex (.call 143 (.cons (.var 0) (.cons (.var 1) .nil))))
 (.cons (.ret (.var 1))
 .nil)))⟩
/-- law:_law_echo:6eff124b (17) -/
def F145 : Fd := ⟨3, 25, (.cons (.asg (.tp [(.nm 5), (.nm 6)]) (.tup (.cons (.call 144 (.cons (.var 0) .nil)) (.cons (.tup (.cons (.lit (.int 0)) (.cons (.lit (.int 1)) .nil))) .nil))))
 (.cons (.par 7 8 (.comp (.bin .mul (.lst (.cons (.var 6) .nil)) (.idx (.var 16) (.lit (.int 0)))) (.nm 16) (.val (.var 5)) .no [16]) (.comp (.bin .mul (.lst (.cons (.var 6) .nil)) (.idx (.var 16) (.lit (.int 0)))) (.nm 16) (.val (.var 5)) .no [16]))
 (.cons (.asg (.nm 3) (.lst .nil))
 (.cons (.fr (.nm 4) (.rng1 (.bin .add (.bin .mul (.lit (.int 2)) (.var 2)) (.lit (.int 1)))) (.cons (.asg (.tp [(.nm 9), (.nm 10)]) (.tup (.cons (.comp (.meth .popAt (.var 21) (.cons (.lit (.int 0)) .nil)) (.nm 21) (.val (.var 7)) .no [21]) (.cons (.comp (.meth .popAt (.var 21) (.cons (.lit (.int 0)) .nil)) (.nm 21) (.val (.var 8)) .no [21]) .nil))))
 (.cons (.ifs (.cmp .eq (.bin .mod (.var 4) (.lit (.int 2))) (.lit (.int 0))) (.cons (.ex (.meth .append (.var 3) (.cons (.idx (.var 10) (.lit (.int 0))) .nil)))
 .nil) .nil)
 (.cons (.ex (.meth .append (.idx (.var 7) (.lit (.int 0))) (.cons (.ite (.and (.cmp .eq (.bin .mod (.var 4) (.lit (.int 2))) (.lit (.int 0))) (.cmp .lt (.bin .fdiv (.var 4) (.lit (.int 2))) (.prim .len (.cons (.var 1) .nil)))) (.idx (.var 1) (.bin .fdiv (.var 4) (.lit (.int 2)))) (.var 6)) .nil)))
 (.cons (.fr (.tp [(.nm 11), (.tp [(.nm 17), (.nm 18), (.nm 19), (.nm 20)])]) (.enm (.var 5)) (.cons (.ifs (.cmp .eq (.var 20) (.lst .nil)) (.cons (.ex (.meth .append (.idx (.var 8) (.var 11)) (.cons (.call 27 (.cons (.call 146 (.cons (.var 18) (.cons (.var 19) .nil))) (.cons (.idx (.var 9) (.var 11)) .nil))) .nil)))
 (.cons .cnt
 .nil)) .nil)
 (.cons (.asg (.nm 12) (.bin .add (.lst (.cons (.tup (.cons (.var 18) (.cons (.idx (.var 9) (.var 11)) .nil))) .nil)) (.comp (.tup (.cons (.idx (.idx (.var 5) (.var 15)) (.lit (.int 1))) (.cons (.idx (.var 10) (.var 15)) .nil))) (.nm 15) (.val (.var 20)) .no [15])))
 (.cons (.asg (.nm 13) (.call 51 (.cons (.comp (.idx (.var 22) (.lit (.int 0))) (.nm 22) (.val (.var 12)) .no [22]) .nil)))
 (.cons (.asg (.nm 14) (.call 50 (.cons (.call 27 (.cons (.tup (.cons (.lit (.int 2)) (.cons (.lit (.int 1)) .nil))) (.cons (.call 51 (.cons (.comp (.call 27 (.cons (.var 23) (.cons (.var 24) .nil))) (.tp [(.nm 23), (.nm 24)]) (.val (.var 12)) .no [23, 24]) .nil)) .nil))) (.cons (.var 13) .nil))))
 (.cons (.ex (.meth .append (.idx (.var 8) (.var 11)) (.cons (.call 49 (.cons (.var 14) (.cons (.idx (.var 9) (.var 11)) .nil))) .nil)))
 (.cons (.fr (.nm 15) (.val (.var 20)) (.cons (.ex (.meth .append (.idx (.var 7) (.var 15)) (.cons (.call 49 (.cons (.var 14) (.cons (.idx (.var 10) (.var 15)) .nil))) .nil)))
 .nil))
 .nil)))))))
 .nil)))))
 (.cons (.ret (.prim .tuple (.cons (.var 3) .nil)))
 .nil)))))⟩
/-- law:_law_bounce:1367c73d (19) -/
def F146 : Fd := ⟨2, 2, (.cons (.ifs (.cmp .eq (.idx (.var 1) (.lit (.int 0))) (.lit (.str "shut"))) (.cons (.ret (.tup (.cons (.lit (.int 1)) (.cons (.lit (.int 1)) .nil))))
 .nil) .nil)
 (.cons (.ret (.ite (.cmp .eq (.idx (.var 1) (.lit (.int 0))) (.lit (.str "open"))) (.tup (.cons (.neg (.lit (.int 1))) (.cons (.lit (.int 1)) .nil))) (.call 50 (.cons (.call 49 (.cons (.var 0) (.cons (.idx (.var 1) (.lit (.int 1))) .nil))) (.cons (.call 26 (.cons (.var 0) (.cons (.idx (.var 1) (.lit (.int 1))) .nil))) .nil)))))
 .nil))⟩
/-- law:_law_row:621995ba (18) -/
def F147 : Fd := ⟨2, 2, (.cons (.ret (.call 145 (.cons (.var 0) (.cons (.tup (.cons (.tup (.cons (.lit (.int 1)) (.cons (.lit (.int 1)) .nil))) .nil)) (.cons (.var 1) .nil)))))
 .nil)⟩
/-- echoedtree.shares:size (29) -/
def F162 : Fd := ⟨1, 1, (.cons (.ret (.tup (.cons (.prim .abs (.cons (.idx (.var 0) (.lit (.int 0))) .nil)) (.cons (.idx (.var 0) (.lit (.int 1))) .nil))))
 .nil)⟩
/-- law:_law_turn:5b036ea0 (18) -/
def F169 : Fd := ⟨1, 2, (.cons (.ifs (.cmp .eq (.call 22 (.cons (.var 0) (.cons (.lit (.int 4)) .nil))) (.lit (.int 0))) (.cons (.ret (.tup (.cons (.lit (.int 0)) (.cons (.lit (.int 1)) .nil))))
 .nil) .nil)
 (.cons (.asg (.nm 1) (.bin .add (.lit (.int 2)) (.call 22 (.cons (.var 0) (.cons (.lit (.int 5)) .nil)))))
 (.cons (.ret (.call 25 (.cons (.bin .add (.bin .sub (.call 22 (.cons (.var 0) (.cons (.bin .sub (.bin .mul (.lit (.int 2)) (.var 1)) (.lit (.int 1))) .nil))) (.var 1)) (.lit (.int 1))) (.cons (.var 1) .nil))))
 .nil)))⟩
/-- law:_law_pick:0f815aea (25) -/
def F537 : Fd := ⟨2, 2, (.cons (.ret (.idx (.var 1) (.call 22 (.cons (.var 0) (.cons (.prim .len (.cons (.var 1) .nil)) .nil)))))
 .nil)⟩
/-- law:_law_same:cb480b21 (39) -/
def F538 : Fd := ⟨2, 3, (.cons (.ifs (.isn false (.var 1)) (.cons (.ret (.isn false (.var 0)))
 .nil) .nil)
 (.cons (.ifs (.isi (.var 1) [.bool] false) (.cons (.ret (.and (.isi (.var 0) [.bool] false) (.cmp .eq (.var 0) (.var 1))))
 .nil) .nil)
 (.cons (.ifs (.isi (.var 1) [.tuple] false) (.cons (.ifs (.or (.not (.isi (.var 0) [.tuple] false)) (.cmp .ne (.prim .len (.cons (.var 0) .nil)) (.prim .len (.cons (.var 1) .nil)))) (.cons (.ret (.lit (.bl false)))
 .nil) .nil)
 (.cons (.ret (.prim .all (.cons (.comp (.call 538 (.cons (.idx (.var 0) (.var 2)) (.cons (.idx (.var 1) (.var 2)) .nil))) (.nm 2) (.rng1 (.prim .len (.cons (.var 1) .nil))) .no [2]) .nil)))
 .nil)) .nil)
 (.cons (.ifs (.isi (.var 1) [.str] false) (.cons (.ret (.and (.isi (.var 0) [.str] false) (.cmp .eq (.var 0) (.var 1))))
 .nil) .nil)
 (.cons (.ret (.and (.isi (.var 0) [.int] false) (.and (.not (.isi (.var 0) [.bool] false)) (.cmp .eq (.var 0) (.var 1)))))
 .nil)))))⟩
/-- law:_law_gcd:2b98fcf1 (38) -/
def F539 : Fd := ⟨2, 2, (.cons (.par 0 1 (.prim .abs (.cons (.var 0) .nil)) (.prim .abs (.cons (.var 1) .nil)))
 (.cons (.whl (.cmp .ne (.var 1) (.lit (.int 0))) (.cons (.par 0 1 (.var 1) (.bin .mod (.prim .int (.cons (.var 0) .nil)) (.var 1)))
 .nil))
 (.cons (.ret (.var 0))
 .nil)))⟩
/-- law:_law_plus:d2b6c8e5 (38) -/
def F541 : Fd := ⟨2, 2, (.cons (.ret (.call 540 (.cons (.bin .add (.bin .mul (.idx (.var 0) (.lit (.int 0))) (.idx (.var 1) (.lit (.int 1)))) (.bin .mul (.idx (.var 1) (.lit (.int 0))) (.idx (.var 0) (.lit (.int 1))))) (.cons (.bin .mul (.idx (.var 0) (.lit (.int 1))) (.idx (.var 1) (.lit (.int 1)))) .nil))))
 .nil)⟩
/-- law:_law_minus:9ea20cbe (38) -/
def F542 : Fd := ⟨2, 2, (.cons (.ret (.call 540 (.cons (.bin .sub (.bin .mul (.idx (.var 0) (.lit (.int 0))) (.idx (.var 1) (.lit (.int 1)))) (.bin .mul (.idx (.var 1) (.lit (.int 0))) (.idx (.var 0) (.lit (.int 1))))) (.cons (.bin .mul (.idx (.var 0) (.lit (.int 1))) (.idx (.var 1) (.lit (.int 1)))) .nil))))
 .nil)⟩
/-- law:_law_by:be3217af (31) -/
def F543 : Fd := ⟨2, 2, (.cons (.ret (.call 540 (.cons (.bin .mul (.idx (.var 0) (.lit (.int 0))) (.idx (.var 1) (.lit (.int 0)))) (.cons (.bin .mul (.idx (.var 0) (.lit (.int 1))) (.idx (.var 1) (.lit (.int 1)))) .nil))))
 .nil)⟩
/-- law:_law_over:afeb5a2f (38) -/
def F544 : Fd := ⟨2, 2, (.cons (.ret (.call 540 (.cons (.bin .mul (.idx (.var 0) (.lit (.int 0))) (.idx (.var 1) (.lit (.int 1)))) (.cons (.bin .mul (.idx (.var 0) (.lit (.int 1))) (.idx (.var 1) (.lit (.int 0)))) .nil))))
 .nil)⟩
/-- law:_law_wide:26e94532 (35) -/
def F545 : Fd := ⟨1, 2, (.cons (.asg (.nm 1) (.call 22 (.cons (.var 0) (.cons (.lit (.int 6)) .nil))))
 (.cons (.ifs (.cmp .lt (.var 1) (.lit (.int 3))) (.cons (.ret (.tup (.cons (.bin .add (.lit (.int 1)) (.call 22 (.cons (.var 0) (.cons (.lit (.int 4)) .nil)))) (.cons (.lit (.int 1)) .nil))))
 .nil) .nil)
 (.cons (.ifs (.cmp .lt (.var 1) (.lit (.int 5))) (.cons (.ret (.call 540 (.cons (.bin .add (.lit (.int 1)) (.call 22 (.cons (.var 0) (.cons (.lit (.int 9)) .nil)))) (.cons (.bin .add (.lit (.int 1)) (.call 22 (.cons (.var 0) (.cons (.lit (.int 5)) .nil)))) .nil))))
 .nil) .nil)
 (.cons (.ret (.tup (.cons (.lit (.int 999999937)) (.cons (.bin .add (.lit (.int 1)) (.bin .mul (.call 22 (.cons (.var 0) (.cons (.lit (.int 2)) .nil))) (.lit (.int 1000)))) .nil))))
 .nil))))⟩
/-- law:_law_share:c24e55e7 (10) -/
def F546 : Fd := ⟨1, 1, (.cons (.ret (.call 540 (.cons (.bin .sub (.call 22 (.cons (.var 0) (.cons (.lit (.int 19)) .nil))) (.lit (.int 9))) (.cons (.bin .add (.lit (.int 1)) (.call 22 (.cons (.var 0) (.cons (.lit (.int 4)) .nil)))) .nil))))
 .nil)⟩
/-- law:_law_ended:21e304eb (35) -/
def F547 : Fd := ⟨2, 3, (.cons (.asg (.nm 2) (.call 22 (.cons (.var 0) (.cons (.ite (.var 1) (.lit (.int 5)) (.lit (.int 4))) .nil))))
 (.cons (.ifs (.cmp .lt (.var 2) (.lit (.int 4))) (.cons (.ret (.ite (.cmp .lt (.var 2) (.lit (.int 2))) (.tup (.cons (.lit (.str "shut")) .nil)) (.tup (.cons (.lit (.str "open")) .nil))))
 .nil) .nil)
 (.cons (.ret (.tup (.cons (.lit (.str "drain")) (.cons (.call 545 (.cons (.var 0) .nil)) .nil))))
 .nil)))⟩
/-- law:_law_pipe:0b7e3883 (24) -/
def F548 : Fd := ⟨4, 10, (.cons (.asg (.nm 4) (.bin .add (.lit (.int 1)) (.call 22 (.cons (.var 0) (.cons (.prim .min2 (.cons (.lit (.int 3)) (.cons (.var 1) .nil))) .nil)))))
 (.cons (.asg (.nm 5) (.bin .sub (.var 1) (.var 4)))
 (.cons (.ifs (.or (.cmp .lt (.var 2) (.lit (.int 2))) (.or (.cmp .lt (.var 5) (.lit (.int 1))) (.cmp .eq (.call 22 (.cons (.var 0) (.cons (.lit (.int 4)) .nil))) (.lit (.int 0))))) (.cons (.ret (.tup (.cons (.var 4) (.cons (.call 545 (.cons (.var 0) .nil)) (.cons (.call 547 (.cons (.var 0) (.cons (.var 3) .nil))) .nil)))))
 .nil) .nil)
 (.cons (.asg (.nm 6) (.bin .add (.lit (.int 1)) (.call 22 (.cons (.var 0) (.cons (.prim .min2 (.cons (.lit (.int 3)) (.cons (.var 5) .nil))) .nil)))))
 (.cons (.asg (.nm 7) (.lst .nil))
 (.cons (.fr (.nm 8) (.rng1 (.var 6)) (.cons (.asg (.nm 9) (.bin .fdiv (.var 5) (.var 6)))
 (.cons (.ex (.meth .append (.var 7) (.cons (.call 548 (.cons (.var 0) (.cons (.prim .max2 (.cons (.lit (.int 1)) (.cons (.var 9) .nil))) (.cons (.bin .sub (.var 2) (.lit (.int 1))) (.cons (.var 3) .nil))))) .nil)))
 .nil)))
 (.cons (.ret (.tup (.cons (.var 4) (.cons (.call 545 (.cons (.var 0) .nil)) (.cons (.tup (.cons (.lit (.str "fork")) (.cons (.prim .tuple (.cons (.var 7) .nil)) .nil))) .nil)))))
 .nil)))))))⟩
/-- law:_law_flat:a0b0cdb1 (19) -/
def F549 : Fd := ⟨3, 5, (.cons (.asg (.nm 3) (.prim .len (.cons (.var 2) .nil)))
 (.cons (.ex (.meth .append (.var 2) (.cons (.lst (.cons (.idx (.var 0) (.lit (.int 0))) (.cons (.idx (.var 0) (.lit (.int 1))) (.cons (.idx (.var 0) (.lit (.int 2))) (.cons (.var 1) (.cons (.lst .nil) .nil)))))) .nil)))
 (.cons (.ifs (.cmp .ge (.var 1) (.lit (.int 0))) (.cons (.ex (.meth .append (.idx (.idx (.var 2) (.var 1)) (.lit (.int 4))) (.cons (.var 3) .nil)))
 .nil) .nil)
 (.cons (.fr (.nm 4) (.val (.call 94 (.cons (.var 0) .nil))) (.cons (.ex (.call 549 (.cons (.var 4) (.cons (.var 3) (.cons (.var 2) .nil)))))
 .nil))
 (.cons (.ret (.var 2))
 .nil)))))⟩
/-- law:_law_thrown:e825dbb5 (37) -/
def F550 : Fd := ⟨2, 2, (.cons (.ifs (.cmp .eq (.idx (.var 1) (.lit (.int 0))) (.lit (.str "shut"))) (.cons (.ret (.tup (.cons (.lit (.int 1)) (.cons (.lit (.int 1)) .nil))))
 .nil) .nil)
 (.cons (.ifs (.cmp .eq (.idx (.var 1) (.lit (.int 0))) (.lit (.str "open"))) (.cons (.ret (.tup (.cons (.neg (.lit (.int 1))) (.cons (.lit (.int 1)) .nil))))
 .nil) .nil)
 (.cons (.ret (.call 544 (.cons (.call 542 (.cons (.var 0) (.cons (.idx (.var 1) (.lit (.int 1))) .nil))) (.cons (.call 541 (.cons (.var 0) (.cons (.idx (.var 1) (.lit (.int 1))) .nil))) .nil))))
 .nil)))⟩
/-- law:_law_calm:9c3d22b4 (16) -/
def F551 : Fd := ⟨1, 2, (.cons (.ret (.tup (.cons (.comp (.bin .mul (.lst (.cons (.tup (.cons (.lit (.int 0)) (.cons (.lit (.int 1)) .nil))) .nil)) (.idx (.var 1) (.lit (.int 0)))) (.nm 1) (.val (.var 0)) .no [1]) (.cons (.comp (.bin .mul (.lst (.cons (.tup (.cons (.lit (.int 0)) (.cons (.lit (.int 1)) .nil))) .nil)) (.idx (.var 1) (.lit (.int 0)))) (.nm 1) (.val (.var 0)) .no [1]) .nil))))
 .nil)⟩
/-- law:_law_heard:a5168448 (12) -/
def F553 : Fd := ⟨2, 10, (.cons (.asg (.nm 2) (.call 549 (.cons (.var 0) (.cons (.neg (.lit (.int 1))) (.cons (.lst .nil) .nil)))))
 (.cons (.asg (.tp [(.nm 5), (.nm 6)]) (.call 551 (.cons (.var 2) .nil)))
 (.cons (.asg (.nm 3) (.lst .nil))
 (.cons (.fr (.nm 4) (.val (.var 1)) (.cons (.asg (.tp [(.nm 5), (.nm 6), (.nm 7), (.nm 8), (.nm 9)]) (.call 552 (.cons (.var 2) (.cons (.var 5) (.cons (.var 6) (.cons (.var 4) .nil))))))
 (.cons (.ex (.meth .append (.var 3) (.cons (.var 7) .nil)))
 .nil)))
 (.cons (.ret (.var 3))
 .nil)))))⟩
/-- law:_law_frac:0723236d (30) -/
def F565 : Fd := ⟨2, 3, (.cons (.ifs (.cmp .lt (.var 1) (.lit (.int 0))) (.cons (.par 0 1 (.neg (.var 0)) (.neg (.var 1)))
 .nil) .nil)
 (.cons (.asg (.nm 2) (.call 539 (.cons (.var 0) (.cons (.var 1) .nil))))
 (.cons (.ret (.tup (.cons (.bin .fdiv (.var 0) (.var 2)) (.cons (.bin .fdiv (.var 1) (.var 2)) .nil))))
 .nil)))⟩
/-- law:_law_forked:e75aba57 (17) -/
def F566 : Fd := ⟨4, 8, (.cons (.asg (.nm 4) (.bin .add (.lit (.int 1)) (.call 22 (.cons (.var 0) (.cons (.lit (.int 2)) .nil)))))
 (.cons (.asg (.nm 5) (.ite (.cmp .gt (.bin .sub (.var 1) (.var 4)) (.lit (.int 3))) (.bin .add (.lit (.int 2)) (.call 22 (.cons (.var 0) (.cons (.lit (.int 2)) .nil)))) (.lit (.int 2))))
 (.cons (.asg (.nm 6) (.comp (.call 548 (.cons (.var 0) (.cons (.prim .max2 (.cons (.lit (.int 1)) (.cons (.bin .fdiv (.bin .sub (.var 1) (.var 4)) (.var 5)) .nil))) (.cons (.bin .sub (.var 2) (.lit (.int 1))) (.cons (.var 3) .nil))))) (.nm 7) (.rng1 (.var 5)) .no [7]))
 (.cons (.ret (.tup (.cons (.var 4) (.cons (.call 545 (.cons (.var 0) .nil)) (.cons (.tup (.cons (.lit (.str "fork")) (.cons (.prim .tuple (.cons (.var 6) .nil)) .nil))) .nil)))))
 .nil))))⟩
/-- law:_law_echoes:b9a6697c (11) -/
def F567 : Fd := ⟨2, 4, (.cons (.asg (.nm 2) (.call 553 (.cons (.var 0) (.cons (.bin .add (.lst (.cons (.tup (.cons (.lit (.int 1)) (.cons (.lit (.int 1)) .nil))) .nil)) (.bin .mul (.lst (.cons (.tup (.cons (.lit (.int 0)) (.cons (.lit (.int 1)) .nil))) .nil)) (.bin .mul (.lit (.int 2)) (.var 1)))) .nil))))
 (.cons (.ret (.comp (.idx (.var 2) (.bin .mul (.lit (.int 2)) (.var 3))) (.nm 3) (.rng1 (.bin .add (.var 1) (.lit (.int 1)))) .no [3]))
 .nil))⟩
/-- law:_law_paths:bce9205c (26) -/
def F570 : Fd := ⟨1, 4, (.cons (.asg (.nm 1) (.lst (.cons (.tup .nil) .nil)))
 (.cons (.fr (.nm 2) (.rng1 (.prim .len (.cons (.call 94 (.cons (.var 0) .nil)) .nil))) (.cons (.asg (.nm 1) (.bin .add (.var 1) (.comp (.bin .add (.tup (.cons (.var 2) .nil)) (.var 3)) (.nm 3) (.val (.call 570 (.cons (.idx (.call 94 (.cons (.var 0) .nil)) (.var 2)) .nil))) .no [3])))
 .nil))
 (.cons (.ret (.var 1))
 .nil)))⟩
/-- law:_law_size:d2763f05 (10) -/
def F580 : Fd := ⟨1, 3, (.cons (.asg (.nm 1) (.idx (.var 0) (.lit (.int 0))))
 (.cons (.fr (.nm 2) (.val (.call 94 (.cons (.var 0) .nil))) (.cons (.aug 1 .add (.call 580 (.cons (.var 2) .nil)))
 .nil))
 (.cons (.ret (.var 1))
 .nil)))⟩
/-- law:_law_ratio:f14443b7 (13) -/
def F581 : Fd := ⟨2, 6, (.cons (.asg (.nm 2) (.lst .nil))
 (.cons (.fr (.nm 3) (.rng1 (.prim .len (.cons (.var 0) .nil))) (.cons (.asg (.nm 4) (.idx (.var 0) (.var 3)))
 (.cons (.fr (.nm 5) (.rng2 (.lit (.int 1)) (.bin .add (.var 3) (.lit (.int 1)))) (.cons (.asg (.nm 4) (.call 542 (.cons (.var 4) (.cons (.call 543 (.cons (.idx (.var 1) (.var 5)) (.cons (.idx (.var 2) (.bin .sub (.var 3) (.var 5))) .nil))) .nil))))
 .nil))
 (.cons (.ex (.meth .append (.var 2) (.cons (.call 544 (.cons (.var 4) (.cons (.idx (.var 1) (.lit (.int 0))) .nil))) .nil)))
 .nil))))
 (.cons (.ret (.var 2))
 .nil)))⟩
/-- law:_law_row_sum:0076e710 (10) -/
def F582 : Fd := ⟨2, 6, (.cons (.asg (.nm 2) (.call 583 (.cons (.var 0) (.cons (.var 1) .nil))))
 (.cons (.asg (.nm 3) (.comp (.call 542 (.cons (.tup (.cons (.lit (.int 0)) (.cons (.lit (.int 1)) .nil))) (.cons (.var 5) .nil))) (.nm 5) (.val (.var 2)) .no [5]))
 (.cons (.sub (.var 3) (.lit (.int 0)) (.tup (.cons (.lit (.int 1)) (.cons (.lit (.int 1)) .nil))))
 (.cons (.asg (.nm 4) (.prim .list (.cons (.var 2) .nil)))
 (.cons (.sub (.var 4) (.lit (.int 0)) (.tup (.cons (.lit (.int 1)) (.cons (.lit (.int 1)) .nil))))
 (.cons (.ret (.comp (.call 543 (.cons (.idx (.var 0) (.lit (.int 1))) (.cons (.var 5) .nil))) (.nm 5) (.val (.call 581 (.cons (.var 3) (.cons (.var 4) .nil)))) .no [5]))
 .nil))))))⟩
/-- law:_law_row:12313ae4 (10) -/
def F583 : Fd := ⟨2, 10, (.cons (.ifs (.cmp .eq (.call 94 (.cons (.var 0) .nil)) (.tup .nil)) (.cons (.asg (.nm 2) (.bin .add (.lst (.cons (.call 550 (.cons (.idx (.var 0) (.lit (.int 1))) (.cons (.idx (.var 0) (.lit (.int 2))) .nil))) .nil)) (.bin .mul (.lst (.cons (.tup (.cons (.lit (.int 0)) (.cons (.lit (.int 1)) .nil))) .nil)) (.bin .sub (.var 1) (.lit (.int 1))))))
 .nil) (.cons (.asg (.nm 3) (.bin .mul (.lst (.cons (.tup (.cons (.lit (.int 0)) (.cons (.lit (.int 1)) .nil))) .nil)) (.var 1)))
 (.cons (.fr (.nm 4) (.val (.call 94 (.cons (.var 0) .nil))) (.cons (.asg (.nm 7) (.call 582 (.cons (.var 4) (.cons (.var 1) .nil))))
 (.cons (.asg (.nm 3) (.comp (.call 541 (.cons (.idx (.var 3) (.var 9)) (.cons (.idx (.var 7) (.var 9)) .nil))) (.nm 9) (.rng1 (.var 1)) .no [9]))
 .nil)))
 (.cons (.asg (.nm 5) (.comp (.call 542 (.cons (.tup (.cons (.lit (.int 0)) (.cons (.lit (.int 1)) .nil))) (.cons (.var 8) .nil))) (.nm 8) (.val (.var 3)) .no [8]))
 (.cons (.sub (.var 5) (.lit (.int 0)) (.call 541 (.cons (.idx (.var 0) (.lit (.int 1))) (.cons (.idx (.var 5) (.lit (.int 0))) .nil))))
 (.cons (.asg (.nm 6) (.prim .list (.cons (.var 3) .nil)))
 (.cons (.sub (.var 6) (.lit (.int 0)) (.call 541 (.cons (.idx (.var 0) (.lit (.int 1))) (.cons (.idx (.var 6) (.lit (.int 0))) .nil))))
 (.cons (.asg (.nm 2) (.call 581 (.cons (.var 5) (.cons (.var 6) .nil))))
 .nil))))))))
 (.cons (.ret (.slc (.bin .add (.bin .mul (.lst (.cons (.tup (.cons (.lit (.int 0)) (.cons (.lit (.int 1)) .nil))) .nil)) (.idx (.var 0) (.lit (.int 0)))) (.var 2)) .no (.so (.var 1))))
 .nil))⟩
/-- law:_law_ends:d39aef9e (16) -/
def F589 : Fd := ⟨1, 2, (.cons (.ret (.comp (.var 1) (.nm 1) (.val (.call 570 (.cons (.var 0) .nil))) (.so (.cmp .eq (.call 94 (.cons (.call 96 (.cons (.var 0) (.cons (.var 1) .nil))) .nil)) (.tup .nil))) [1]))
 .nil)⟩
/-- law:_law_put:cdb5bf0d (21) -/
def F590 : Fd := ⟨3, 4, (.cons (.ifs (.cmp .eq (.var 1) (.tup .nil)) (.cons (.ret (.var 2))
 .nil) .nil)
 (.cons (.asg (.nm 3) (.prim .list (.cons (.call 94 (.cons (.var 0) .nil)) .nil)))
 (.cons (.sub (.var 3) (.idx (.var 1) (.lit (.int 0))) (.call 590 (.cons (.idx (.var 3) (.idx (.var 1) (.lit (.int 0)))) (.cons (.slc (.var 1) (.so (.lit (.int 1))) .no) (.cons (.var 2) .nil)))))
 (.cons (.ret (.tup (.cons (.idx (.var 0) (.lit (.int 0))) (.cons (.idx (.var 0) (.lit (.int 1))) (.cons (.tup (.cons (.lit (.str "fork")) (.cons (.prim .tuple (.cons (.var 3) .nil)) .nil))) .nil)))))
 .nil))))⟩
/-- law:_law_turned:ed266e30 (10) -/
def F591 : Fd := ⟨2, 8, (.cons (.asg (.nm 2) (.tup (.cons (.idx (.var 0) (.lit (.int 0))) (.cons (.idx (.var 0) (.lit (.int 1))) (.cons (.tup (.cons (.lit (.str "drain")) (.cons (.idx (.var 0) (.lit (.int 1))) .nil))) .nil)))))
 (.cons (.fr (.nm 3) (.rng1 (.prim .len (.cons (.var 1) .nil))) (.cons (.asg (.nm 4) (.call 94 (.cons (.call 96 (.cons (.var 0) (.cons (.slc (.var 1) .no (.so (.var 3))) .nil))) .nil)))
 (.cons (.asg (.nm 5) (.comp (.idx (.var 4) (.var 7)) (.nm 7) (.rng1 (.prim .len (.cons (.var 4) .nil))) (.so (.cmp .ne (.var 7) (.idx (.var 1) (.var 3)))) [7]))
 (.cons (.asg (.nm 6) (.idx (.var 4) (.idx (.var 1) (.var 3))))
 (.cons (.asg (.nm 2) (.tup (.cons (.idx (.var 6) (.lit (.int 0))) (.cons (.idx (.var 6) (.lit (.int 1))) (.cons (.tup (.cons (.lit (.str "fork")) (.cons (.prim .tuple (.cons (.bin .add (.lst (.cons (.var 2) .nil)) (.var 5)) .nil)) .nil))) .nil)))))
 .nil)))))
 (.cons (.ret (.var 2))
 .nil)))⟩
/-- law:_law_mul:70995c8a (14) -/
def F693 : Fd := ⟨2, 5, (.cons (.asg (.nm 2) (.bin .mul (.lst (.cons (.lit (.int 0)) .nil)) (.bin .sub (.bin .add (.prim .len (.cons (.var 0) .nil)) (.prim .len (.cons (.var 1) .nil))) (.lit (.int 1)))))
 (.cons (.fr (.nm 3) (.rng1 (.prim .len (.cons (.var 0) .nil))) (.cons (.ifs (.cmp .ne (.idx (.var 0) (.var 3)) (.lit (.int 0))) (.cons (.fr (.nm 4) (.rng1 (.prim .len (.cons (.var 1) .nil))) (.cons (.augS (.var 2) (.bin .add (.var 3) (.var 4)) .add (.bin .mul (.idx (.var 0) (.var 3)) (.idx (.var 1) (.var 4))))
 .nil))
 .nil) .nil)
 .nil))
 (.cons (.ret (.var 2))
 .nil)))⟩
/-- law:_law_add:0808354a (14) -/
def F694 : Fd := ⟨3, 5, (.cons (.asg (.nm 3) (.bin .mul (.lst (.cons (.lit (.int 0)) .nil)) (.prim .max2 (.cons (.prim .len (.cons (.var 0) .nil)) (.cons (.prim .len (.cons (.var 1) .nil)) .nil)))))
 (.cons (.fr (.nm 4) (.rng1 (.prim .len (.cons (.var 0) .nil))) (.cons (.augS (.var 3) (.var 4) .add (.idx (.var 0) (.var 4)))
 .nil))
 (.cons (.fr (.nm 4) (.rng1 (.prim .len (.cons (.var 1) .nil))) (.cons (.augS (.var 3) (.var 4) .add (.bin .mul (.var 2) (.idx (.var 1) (.var 4))))
 .nil))
 (.cons (.ret (.var 3))
 .nil))))⟩
/-- law:_law_poly:cc1cccae (14) -/
def F695 : Fd := ⟨1, 14, (.cons (.ifs (.cmp .eq (.call 94 (.cons (.var 0) .nil)) (.tup .nil)) (.cons (.asg (.nm 2) (.call 550 (.cons (.idx (.var 0) (.lit (.int 1))) (.cons (.idx (.var 0) (.lit (.int 2))) .nil))))
 (.cons (.ret (.tup (.cons (.lst (.cons (.idx (.var 2) (.lit (.int 0))) .nil)) (.cons (.lst (.cons (.idx (.var 2) (.lit (.int 1))) .nil)) .nil))))
 .nil)) .nil)
 (.cons (.par 3 4 (.lst (.cons (.lit (.int 0)) .nil)) (.lst (.cons (.lit (.int 1)) .nil)))
 (.cons (.fr (.nm 1) (.val (.call 94 (.cons (.var 0) .nil))) (.cons (.asg (.tp [(.nm 10), (.nm 11)]) (.call 695 (.cons (.var 1) .nil)))
 (.cons (.asg (.nm 5) (.bin .add (.bin .mul (.lst (.cons (.lit (.int 0)) .nil)) (.idx (.var 1) (.lit (.int 0)))) (.var 10)))
 (.cons (.par 12 13 (.call 694 (.cons (.var 11) (.cons (.var 5) (.cons (.neg (.lit (.int 1))) .nil)))) (.call 694 (.cons (.var 11) (.cons (.var 5) (.cons (.lit (.int 1)) .nil)))))
 (.cons (.asg (.nm 6) (.call 693 (.cons (.call 693 (.cons (.var 3) (.cons (.var 13) .nil))) (.cons (.lst (.cons (.idx (.idx (.var 1) (.lit (.int 1))) (.lit (.int 1))) .nil)) .nil))))
 (.cons (.asg (.nm 7) (.call 693 (.cons (.call 693 (.cons (.var 4) (.cons (.var 12) .nil))) (.cons (.lst (.cons (.idx (.idx (.var 1) (.lit (.int 1))) (.lit (.int 0))) .nil)) .nil))))
 (.cons (.par 3 4 (.call 694 (.cons (.var 6) (.cons (.var 7) (.cons (.lit (.int 1)) .nil)))) (.call 693 (.cons (.call 693 (.cons (.var 4) (.cons (.var 13) .nil))) (.cons (.lst (.cons (.idx (.idx (.var 1) (.lit (.int 1))) (.lit (.int 1))) .nil)) .nil))))
 .nil)))))))
 (.cons (.par 8 9 (.call 693 (.cons (.var 4) (.cons (.lst (.cons (.idx (.idx (.var 0) (.lit (.int 1))) (.lit (.int 0))) .nil)) .nil))) (.call 693 (.cons (.var 3) (.cons (.lst (.cons (.idx (.idx (.var 0) (.lit (.int 1))) (.lit (.int 1))) .nil)) .nil))))
 (.cons (.ret (.tup (.cons (.call 694 (.cons (.var 8) (.cons (.var 9) (.cons (.neg (.lit (.int 1))) .nil)))) (.cons (.call 694 (.cons (.var 8) (.cons (.var 9) (.cons (.lit (.int 1)) .nil)))) .nil))))
 .nil)))))⟩
/-- law:_law_ear:2e81bb2c (14) -/
def F696 : Fd := ⟨1, 3, (.cons (.asg (.tp [(.nm 1), (.nm 2)]) (.call 695 (.cons (.var 0) .nil)))
 (.cons (.ret (.tup (.cons (.bin .add (.bin .mul (.lst (.cons (.lit (.int 0)) .nil)) (.idx (.var 0) (.lit (.int 0)))) (.var 1)) (.cons (.var 2) .nil))))
 .nil))⟩
/-- law:_law_parts:6f8c33c2 (13) -/
def F697 : Fd := ⟨2, 5, (.cons (.asg (.nm 2) (.call 694 (.cons (.call 693 (.cons (.idx (.var 0) (.lit (.int 0))) (.cons (.idx (.var 1) (.lit (.int 1))) .nil))) (.cons (.call 693 (.cons (.idx (.var 1) (.lit (.int 0))) (.cons (.idx (.var 0) (.lit (.int 1))) .nil))) (.cons (.neg (.lit (.int 1))) .nil)))))
 (.cons (.asg (.nm 3) (.comp (.var 4) (.nm 4) (.rng1 (.prim .len (.cons (.var 2) .nil))) (.so (.cmp .ne (.idx (.var 2) (.var 4)) (.lit (.int 0)))) [4]))
 (.cons (.ret (.ite (.cmp .ne (.var 3) (.lst .nil)) (.idx (.var 3) (.lit (.int 0))) (.lit .non)))
 .nil)))⟩
end Ev.Law

set_option Elab.async false
set_option linter.all false
set_option maxRecDepth 100000
/-! # Part D: the small language step by step, without functions in the goals -/
namespace Ev
section
variable (C : Nat → List D → Hep → R D)
/-! ## what comes behind -/
def kBin (o : BOp) (b : E) (ρ : Lo) (r : R D) : R D := r.bind fun x η1 => (ev C b ρ η1).bind fun y η2 => R.of (binD o x y η2) η2
def kBin2 (o : BOp) (x : D) (r : R D) : R D := r.bind fun y η2 => R.of (binD o x y η2) η2
def kNeg (r : R D) : R D := r.bind fun x η1 => match x with
    | .int i => .ok (.int (-i)) η1
    | _ => .bad
def kCmp (o : COp) (b : E) (ρ : Lo) (r : R D) : R D := r.bind fun x η1 => (ev C b ρ η1).bind fun y η2 => R.of ((cmpD o x y η2).map .bl) η2
def kCmp2 (o : COp) (x : D) (r : R D) : R D := r.bind fun y η2 => R.of ((cmpD o x y η2).map .bl) η2
def kChn (o o' : COp) (b c : E) (ρ : Lo) (r : R D) : R D := r.bind fun x η1 => (ev C b ρ η1).bind fun y η2 => match cmpD o x y η2 with
    | some true => (ev C c ρ η2).bind fun z η3 => R.of ((cmpD o' y z η3).map .bl) η3
    | some false => .ok (.bl false) η2
    | none => .bad
def kChn2 (o o' : COp) (x : D) (c : E) (ρ : Lo) (r : R D) : R D := r.bind fun y η2 => match cmpD o x y η2 with
    | some true => (ev C c ρ η2).bind fun z η3 => R.of ((cmpD o' y z η3).map .bl) η3
    | some false => .ok (.bl false) η2
    | none => .bad
def kChn3 (o' : COp) (c : E) (ρ : Lo) (y : D) (η2 : Hep) (s : Option Bool) : R D := match s with
    | some true => (ev C c ρ η2).bind fun z η3 => R.of ((cmpD o' y z η3).map .bl) η3
    | some false => .ok (.bl false) η2
    | none => .bad
def kIsn (n : Bool) (r : R D) : R D := r.bind fun x η1 => .ok (.bl (if n then !decide (x = .non) else decide (x = .non))) η1
def kAnd (b : E) (ρ : Lo) (r : R D) : R D := r.bind fun x η1 => match x with
    | .bl true => ev C b ρ η1
    | .bl false => .ok (.bl false) η1
    | _ => .bad
def kOr (b : E) (ρ : Lo) (r : R D) : R D := r.bind fun x η1 => match x with
    | .bl true => .ok (.bl true) η1
    | .bl false => ev C b ρ η1
    | _ => .bad
def kNot (r : R D) : R D := r.bind fun x η1 => match x with
    | .bl k => .ok (.bl (!k)) η1
    | _ => .bad
def kIte (a b : E) (ρ : Lo) (r : R D) : R D := r.bind fun x η1 => match x with
    | .bl true => ev C a ρ η1
    | .bl false => ev C b ρ η1
    | _ => .bad
def kTup (r : R (List D)) : R D := r.bind fun xs η1 => if xs.length ≤ PySem.sizeLine then .ok (.tup xs) η1 else .bad
def kLst (r : R (List D)) : R D := r.bind fun xs η1 => if xs.length ≤ PySem.sizeLine then .ok (.tl xs) η1 else .bad
def kIdx (i : E) (ρ : Lo) (r : R D) : R D := r.bind fun x η1 => (ev C i ρ η1).bind fun y η2 => R.of (idxD x y η2) η2
def kIdx2 (x : D) (r : R D) : R D := r.bind fun y η2 => R.of (idxD x y η2) η2
def kSlc (lo hi : OE) (ρ : Lo) (r : R D) : R D := r.bind fun x η1 => (evo C lo ρ η1).bind fun l η2 => (evo C hi ρ η2).bind fun h η3 => R.of (slcD x l h η3) η3
def kSlc2 (x : D) (hi : OE) (ρ : Lo) (r : R (Option Int)) : R D := r.bind fun l η2 => (evo C hi ρ η2).bind fun h η3 => R.of (slcD x l h η3) η3
def kSlc3 (x : D) (l : Option Int) (r : R (Option Int)) : R D := r.bind fun h η3 => R.of (slcD x l h η3) η3
def kCall (f : Nat) (η : Hep) (r : R (List D)) : R D := r.bind fun xs η1 => fin η (C f xs η1)
def kPrim (p : Prim) (r : R (List D)) : R D := r.bind fun xs η1 => R.of (primD p xs η1) η1
def kIsi (ts : List Ty) (r : R D) : R D := r.bind fun x η1 => .ok (.bl (ts.any fun t => tyD x t)) η1
def kMeth (m : Meth) (es : Es) (ρ : Lo) (r : R D) : R D := r.bind fun x η1 => match x with
    | .ref n => (evs C es ρ η1).bind fun xs η2 => methD m (.ref n) xs η2
    | _ => .bad
def kMeth2 (m : Meth) (n : Nat) (r : R (List D)) : R D := r.bind fun xs η2 => methD m (.ref n) xs η2
/-- a comprehension's loop -/
def cE (elt : E) (c : OE) (t : T) (w : List (Nat × List D)) (ρ : Lo) (xs : List D) (η : Hep) (acc : List D) : R (List D) := compL (fun ρ η => ev C elt ρ η) (fun ρ η => evc C c ρ η) t w ρ xs η acc
def kTl (r : R (List D)) : R D := r.bind fun xs η2 => .ok (.tl xs) η2
def kComp (elt : E) (t : T) (c : OE) (vs : List Nat) (ρ : Lo) (r : R (List D × List (Nat × List D))) : R D := r.bind fun p η1 => (compL (fun ρ η => ev C elt ρ η) (fun ρ η => evc C c ρ η) t p.2 (wipe ρ vs) p.1 η1 []).bind fun xs η2 => .ok (.tl xs) η2
def kEs (es : Es) (ρ : Lo) (r : R D) : R (List D) := r.bind fun x η1 => (own x η1).bind fun x' η2 => (evs C es ρ η2).bind fun xs η3 => .ok (x' :: xs) η3
def kEs2 (es : Es) (ρ : Lo) (r : R D) : R (List D) := r.bind fun x' η2 => (evs C es ρ η2).bind fun xs η3 => .ok (x' :: xs) η3
def kCons (x : D) (r : R (List D)) : R (List D) := r.bind fun xs η3 => .ok (x :: xs) η3
def kEp (es : Es) (ρ : Lo) (r : R D) : R (List D) := r.bind fun x η1 => (evp C es ρ η1).bind fun xs η2 => .ok (x :: xs) η2
def kO (r : R D) : R (Option Int) := r.bind fun x η1 => match x with
    | .int i => .ok (some i) η1
    | _ => .bad
def kVal (r : R D) : R (List D × List (Nat × List D)) := r.bind fun x η1 => R.of ((seqAny η1 x).map fun xs => (xs, watchOf x xs)) η1
def kRg (r : R D) : R (List D × List (Nat × List D)) := r.bind fun x η1 => match x with
    | .int n => if big n then .ok (rng 0 n.toNat, []) η1 else .bad
    | _ => .bad
def kRg2 (b : E) (ρ : Lo) (r : R D) : R (List D × List (Nat × List D)) := r.bind fun x η1 => (ev C b ρ η1).bind fun y η2 => match x, y with
    | .int i, .int j => if big i && big j then .ok (rng i (j - i).toNat, []) η2 else .bad
    | _, _ => .bad
def kRg3 (x : D) (r : R D) : R (List D × List (Nat × List D)) := r.bind fun y η2 => match x, y with
    | .int i, .int j => if big i && big j then .ok (rng i (j - i).toNat, []) η2 else .bad
    | _, _ => .bad
def kEnm (r : R D) : R (List D × List (Nat × List D)) := r.bind fun x η1 => R.of ((seqAny η1 x).map fun xs => (enm 0 xs, watchOf x xs)) η1
def kZip (b : E) (ρ : Lo) (r : R D) : R (List D × List (Nat × List D)) := r.bind fun x η1 => (ev C b ρ η1).bind fun y η2 => match seqAny η2 x, seqAny η2 y with
    | some xs, some ys => .ok (zip2 xs ys, watchOf x xs ++ watchOf y ys) η2
    | _, _ => .bad
def kZip2 (x : D) (r : R D) : R (List D × List (Nat × List D)) := r.bind fun y η2 => match seqAny η2 x, seqAny η2 y with
    | some xs, some ys => .ok (zip2 xs ys, watchOf x xs ++ watchOf y ys) η2
    | _, _ => .bad
def kZip3 (x y : D) (η2 : Hep) (a b : Option (List D)) : R (List D × List (Nat × List D)) := match a, b with
    | some xs, some ys => .ok (zip2 xs ys, watchOf x xs ++ watchOf y ys) η2
    | _, _ => .bad
def kRev (r : R D) : R (List D × List (Nat × List D)) := r.bind fun x η1 => R.of ((seqAny η1 x).map fun xs => (xs.reverse, watchOf x xs)) η1

variable {C} {ρ : Lo} {η η1 : Hep} {x y : D} {xs : List D}
theorem e_lit {d : D} : ev C (.lit d) ρ η = .ok d η := rfl
theorem e_var {i : Nat} : ev C (.var i) ρ η = match ρ[i]? with
    | some (some d) => .ok d η
    | _ => .bad := rfl
theorem e_glb {x : PySem.Str} {d : D} : ev C (.glb x d) ρ η = .ok d η := rfl
theorem e_bin {o : BOp} {a b : E} : ev C (.bin o a b) ρ η = kBin C o b ρ (ev C a ρ η) := rfl
theorem e_bin1 {o : BOp} {b : E} : kBin C o b ρ (.ok x η) = kBin2 o x (ev C b ρ η) := rfl
theorem e_bin2 {o : BOp} : kBin2 o x (.ok y η) = R.of (binD o x y η) η := rfl
theorem e_neg {a : E} : ev C (.neg a) ρ η = kNeg (ev C a ρ η) := rfl
theorem e_neg1 {i : Int} : kNeg (.ok (.int i) η) = .ok (.int (-i)) η := rfl
theorem e_cmp {o : COp} {a b : E} : ev C (.cmp o a b) ρ η = kCmp C o b ρ (ev C a ρ η) := rfl
theorem e_cmp1 {o : COp} {b : E} : kCmp C o b ρ (.ok x η) = kCmp2 o x (ev C b ρ η) := rfl
theorem e_cmp2 {o : COp} : kCmp2 o x (.ok y η) = R.of ((cmpD o x y η).map .bl) η := rfl
theorem e_chn {o o' : COp} {a b c : E} : ev C (.cmp2 o o' a b c) ρ η = kChn C o o' b c ρ (ev C a ρ η) := rfl
theorem e_chn1 {o o' : COp} {b c : E} : kChn C o o' b c ρ (.ok x η) = kChn2 C o o' x c ρ (ev C b ρ η) := rfl
theorem e_chn2 {o o' : COp} {c : E} : kChn2 C o o' x c ρ (.ok y η) = kChn3 C o' c ρ y η (cmpD o x y η) := rfl
theorem e_chn3 {o' : COp} {c : E} : kChn3 C o' c ρ y η (some true) = kCmp2 o' y (ev C c ρ η) := rfl
theorem e_chn4 {o' : COp} {c : E} : kChn3 C o' c ρ y η (some false) = .ok (.bl false) η := rfl
theorem e_isn {n : Bool} {a : E} : ev C (.isn n a) ρ η = kIsn n (ev C a ρ η) := rfl
theorem e_isn1 : kIsn false (.ok x η) = .ok (.bl (decide (x = .non))) η := rfl
theorem e_isn2 : kIsn true (.ok x η) = .ok (.bl (!decide (x = .non))) η := rfl
theorem e_and {a b : E} : ev C (.and a b) ρ η = kAnd C b ρ (ev C a ρ η) := rfl
theorem e_and1 {b : E} : kAnd C b ρ (.ok (.bl true) η) = ev C b ρ η := rfl
theorem e_and2 {b : E} : kAnd C b ρ (.ok (.bl false) η) = .ok (.bl false) η := rfl
theorem e_or {a b : E} : ev C (.or a b) ρ η = kOr C b ρ (ev C a ρ η) := rfl
theorem e_or1 {b : E} : kOr C b ρ (.ok (.bl true) η) = .ok (.bl true) η := rfl
theorem e_or2 {b : E} : kOr C b ρ (.ok (.bl false) η) = ev C b ρ η := rfl
theorem e_not {a : E} : ev C (.not a) ρ η = kNot (ev C a ρ η) := rfl
theorem e_not1 {k : Bool} : kNot (.ok (.bl k) η) = .ok (.bl (!k)) η := rfl
theorem e_ite {c a b : E} : ev C (.ite c a b) ρ η = kIte C a b ρ (ev C c ρ η) := rfl
theorem e_ite1 {a b : E} : kIte C a b ρ (.ok (.bl true) η) = ev C a ρ η := rfl
theorem e_ite2 {a b : E} : kIte C a b ρ (.ok (.bl false) η) = ev C b ρ η := rfl
theorem e_tup {es : Es} : ev C (.tup es) ρ η = kTup (evs C es ρ η) := rfl
theorem e_tup1 : kTup (.ok xs η) = if xs.length ≤ PySem.sizeLine then .ok (.tup xs) η else .bad := rfl
theorem e_lst {es : Es} : ev C (.lst es) ρ η = kLst (evs C es ρ η) := rfl
theorem e_lst1 : kLst (.ok xs η) = if xs.length ≤ PySem.sizeLine then .ok (.tl xs) η else .bad := rfl
theorem e_idx {a i : E} : ev C (.idx a i) ρ η = kIdx C i ρ (ev C a ρ η) := rfl
theorem e_idx1 {i : E} : kIdx C i ρ (.ok x η) = kIdx2 x (ev C i ρ η) := rfl
theorem e_idx2 : kIdx2 x (.ok y η) = R.of (idxD x y η) η := rfl
theorem e_slc {a : E} {lo hi : OE} : ev C (.slc a lo hi) ρ η = kSlc C lo hi ρ (ev C a ρ η) := rfl
theorem e_slc1 {lo hi : OE} : kSlc C lo hi ρ (.ok x η) = kSlc2 C x hi ρ (evo C lo ρ η) := rfl
theorem e_slc2 {hi : OE} {l : Option Int} : kSlc2 C x hi ρ (.ok l η) = kSlc3 x l (evo C hi ρ η) := rfl
theorem e_slc3 {l h : Option Int} : kSlc3 x l (.ok h η) = R.of (slcD x l h η) η := rfl
theorem e_call {f : Nat} {es : Es} : ev C (.call f es) ρ η = kCall C f η (evs C es ρ η) := rfl
theorem e_call1 {f : Nat} : kCall C f η (.ok xs η1) = fin η (C f xs η1) := rfl
theorem e_prim {p : Prim} {es : Es} : ev C (.prim p es) ρ η = kPrim p (evp C es ρ η) := rfl
theorem e_prim1 {p : Prim} : kPrim p (.ok xs η) = R.of (primD p xs η) η := rfl
theorem e_isi {a : E} {ts : List Ty} {u : Bool} : ev C (.isi a ts u) ρ η = kIsi ts (ev C a ρ η) := rfl
theorem e_isi1 {t : Ty} : kIsi [t] (.ok x η) = .ok (.bl (tyD x t)) η := by simp [kIsi, R.bind]
theorem e_isi2 {t u : Ty} : kIsi [t, u] (.ok x η) = .ok (.bl (tyD x t || tyD x u)) η := by simp [kIsi, R.bind]
theorem e_meth {m : Meth} {o : E} {es : Es} : ev C (.meth m o es) ρ η = kMeth C m es ρ (ev C o ρ η) := rfl
theorem e_meth1 {m : Meth} {n : Nat} {es : Es} : kMeth C m es ρ (.ok (.ref n) η) = kMeth2 m n (evs C es ρ η) := rfl
theorem e_meth2 {m : Meth} {n : Nat} : kMeth2 m n (.ok xs η) = methD m (.ref n) xs η := rfl
theorem e_comp {elt : E} {t : T} {it : I} {c : OE} {vs : List Nat} : ev C (.comp elt t it c vs) ρ η = kComp C elt t c vs ρ (evI C it ρ η) := rfl
theorem e_comp1 {elt : E} {t : T} {c : OE} {vs : List Nat} {w : List (Nat × List D)} : kComp C elt t c vs ρ (.ok (xs, w) η) = kTl (cE C elt c t w (wipe ρ vs) xs η []) := rfl
theorem e_tl : kTl (.ok xs η) = .ok (.tl xs) η := rfl
theorem es_nil : evs C .nil ρ η = .ok [] η := rfl
theorem es_cons {e : E} {es : Es} : evs C (.cons e es) ρ η = kEs C es ρ (ev C e ρ η) := rfl
theorem es_cons1 {es : Es} : kEs C es ρ (.ok x η) = kEs2 C es ρ (own x η) := rfl
theorem es_cons2 {es : Es} : kEs2 C es ρ (.ok x η) = kCons x (evs C es ρ η) := rfl
theorem es_cons3 : kCons x (.ok xs η) = .ok (x :: xs) η := rfl
theorem ep_nil : evp C .nil ρ η = .ok [] η := rfl
theorem ep_cons {e : E} {es : Es} : evp C (.cons e es) ρ η = kEp C es ρ (ev C e ρ η) := rfl
theorem ep_cons1 {es : Es} : kEp C es ρ (.ok x η) = kCons x (evp C es ρ η) := rfl
theorem eo_no : evo C .no ρ η = .ok none η := rfl
theorem eo_so {e : E} : evo C (.so e) ρ η = kO (ev C e ρ η) := rfl
theorem eo_so1 {i : Int} : kO (.ok (.int i) η) = .ok (some i) η := rfl
theorem ec_no : evc C .no ρ η = .ok (.bl true) η := rfl
theorem ec_so {e : E} : evc C (.so e) ρ η = ev C e ρ η := rfl
theorem ei_val {e : E} : evI C (.val e) ρ η = kVal (ev C e ρ η) := rfl
theorem ei_val1 : kVal (.ok x η) = R.of ((seqAny η x).map fun xs => (xs, watchOf x xs)) η := rfl
theorem ei_rg {e : E} : evI C (.rng1 e) ρ η = kRg (ev C e ρ η) := rfl
theorem ei_rg1 {n : Int} : kRg (.ok (.int n) η) = if big n then .ok (rng 0 n.toNat, []) η else .bad := rfl
theorem ei_rg2 {a b : E} : evI C (.rng2 a b) ρ η = kRg2 C b ρ (ev C a ρ η) := rfl
theorem ei_rg3 {b : E} : kRg2 C b ρ (.ok x η) = kRg3 x (ev C b ρ η) := rfl
theorem ei_rg4 {i j : Int} : kRg3 (.int i) (.ok (.int j) η) = if big i && big j then .ok (rng i (j - i).toNat, []) η else .bad := rfl
theorem ei_enm {e : E} : evI C (.enm e) ρ η = kEnm (ev C e ρ η) := rfl
theorem ei_enm1 : kEnm (.ok x η) = R.of ((seqAny η x).map fun xs => (enm 0 xs, watchOf x xs)) η := rfl
theorem ei_zip {a b : E} : evI C (.zip2 a b) ρ η = kZip C b ρ (ev C a ρ η) := rfl
theorem ei_zip1 {b : E} : kZip C b ρ (.ok x η) = kZip2 x (ev C b ρ η) := rfl
theorem ei_zip2 : kZip2 x (.ok y η) = kZip3 x y η (seqAny η x) (seqAny η y) := rfl
theorem ei_zip3 {xs ys : List D} : kZip3 x y η (some xs) (some ys) = .ok (zip2 xs ys, watchOf x xs ++ watchOf y ys) η := rfl
theorem ei_rev {e : E} : evI C (.rev e) ρ η = kRev (ev C e ρ η) := rfl
theorem ei_rev1 : kRev (.ok x η) = R.of ((seqAny η x).map fun xs => (xs.reverse, watchOf x xs)) η := rfl
/-- a comprehension's turns -/
theorem c_nil {elt : E} {c : OE} {t : T} {w : List (Nat × List D)} {acc : List D} : cE C elt c t w ρ [] η acc = .ok acc η := rfl
theorem c_cons {elt : E} {c : OE} {t : T} {w : List (Nat × List D)} {acc : List D} {ρ' : Lo} {η2 η3 : Hep} {z z' : D} (h1 : bindT t x η ρ = some ρ') (h2 : evc C c ρ' η = .ok (.bl true) η1) (h3 : ev C elt ρ' η1 = .ok z η2) (h4 : own z η2 = .ok z' η3)
    (hw : watchOk η3 w = true) (hl : acc.length < PySem.sizeLine) : cE C elt c t w ρ (x :: xs) η acc = cE C elt c t w ρ xs η3 (acc ++ [z']) := by
  unfold cE
  simp only [compL, h1, h2, h3, h4, hw, Bool.true_and, decide_eq_true hl, if_true]
theorem c_skip {elt : E} {c : OE} {t : T} {w : List (Nat × List D)} {acc : List D} {ρ' : Lo} (h1 : bindT t x η ρ = some ρ') (h2 : evc C c ρ' η = .ok (.bl false) η1)
    (hw : watchOk η1 w = true) : cE C elt c t w ρ (x :: xs) η acc = cE C elt c t w ρ xs η1 acc := by
  unfold cE
  simp only [compL, h1, h2, hw, if_true]
end

/-! ## statements -/
section
variable (C : Nat → List D → Hep → R D)
noncomputable section
def sAsg (t : T) (ρ : Lo) (r : R D) : SR := r.go ρ fun x η1 => (own x η1).go ρ fun y η2 => match bindT t y η2 ρ with
    | some ρ' => .nx ρ' η2
    | none => .bad
def sAsg2 (t : T) (ρ : Lo) (r : R D) : SR := r.go ρ fun y η2 => match bindT t y η2 ρ with
    | some ρ' => .nx ρ' η2
    | none => .bad
def sAsg3 (η2 : Hep) (o : Option Lo) : SR := match o with
    | some ρ' => .nx ρ' η2
    | none => .bad
def sPar (i j : Nat) (ρ : Lo) (r : R (List D)) : SR := r.go ρ fun xs η1 => match xs with
    | [x, y] => .nx ((ρ.set i (some x)).set j (some y)) η1
    | _ => .bad
def sPar3 (i j l : Nat) (ρ : Lo) (r : R (List D)) : SR := r.go ρ fun xs η1 => match xs with
    | [x, y, z] => .nx (((ρ.set i (some x)).set j (some y)).set l (some z)) η1
    | _ => .bad
def sSub (o i : E) (ρ : Lo) (r : R D) : SR := r.go ρ fun v η1 => (own v η1).go ρ fun v' η2 => (ev C o ρ η2).go ρ fun x η3 => (ev C i ρ η3).go ρ fun y η4 => match setD x y v' η4 with
    | some η5 => .nx ρ η5
    | none => .bad
def sSub2 (o i : E) (ρ : Lo) (r : R D) : SR := r.go ρ fun v' η2 => (ev C o ρ η2).go ρ fun x η3 => (ev C i ρ η3).go ρ fun y η4 => match setD x y v' η4 with
    | some η5 => .nx ρ η5
    | none => .bad
def sSub3 (i : E) (v' : D) (ρ : Lo) (r : R D) : SR := r.go ρ fun x η3 => (ev C i ρ η3).go ρ fun y η4 => match setD x y v' η4 with
    | some η5 => .nx ρ η5
    | none => .bad
def sSub4 (x v' : D) (ρ : Lo) (r : R D) : SR := r.go ρ fun y η4 => match setD x y v' η4 with
    | some η5 => .nx ρ η5
    | none => .bad
def sSub5 (ρ : Lo) (o : Option Hep) : SR := match o with
    | some η5 => .nx ρ η5
    | none => .bad
def sAug (i : Nat) (o : BOp) (x : D) (ρ : Lo) (r : R D) : SR := r.go ρ fun y η1 => match o, x, y with
      | .add, .int a, .int b => .nx (ρ.set i (some (.int (a + b)))) η1
      | .sub, .int a, .int b => .nx (ρ.set i (some (.int (a - b)))) η1
      | _, _, _ => .bad
def sAug0 (i : Nat) (o : BOp) (e : E) (ρ : Lo) (η : Hep) (x : Option (Option D)) : SR := match x with
    | some (some x) => (ev C e ρ η).go ρ fun y η1 => match o, x, y with
      | .add, .int a, .int b => .nx (ρ.set i (some (.int (a + b)))) η1
      | .sub, .int a, .int b => .nx (ρ.set i (some (.int (a - b)))) η1
      | _, _, _ => .bad
    | _ => .bad
def sRet (ρ : Lo) (r : R D) : SR := r.go ρ fun x η1 => .rt x η1
def sEx (ρ : Lo) (r : R D) : SR := r.go ρ fun _ η1 => .nx ρ η1
def sIf (a b : Ss) (ρ : Lo) (r : R D) : SR := r.go ρ fun x η1 => match x with
    | .bl true => execs C a ρ η1
    | .bl false => execs C b ρ η1
    | _ => .bad
/-- while, for -/
def wE (c : E) (b : Ss) (ρ : Lo) (η : Hep) : SR := whL (fun ρ η => ev C c ρ η) (fun ρ η => execs C b ρ η) ρ η
def fE (b : Ss) (t : T) (w : List (Nat × List D)) (xs : List D) (ρ : Lo) (η : Hep) : SR := forL (fun ρ η => execs C b ρ η) t w xs ρ η
def sFr (t : T) (b : Ss) (ρ : Lo) (r : R (List D × List (Nat × List D))) : SR := r.go ρ fun p η1 => forL (fun ρ η => execs C b ρ η) t p.2 p.1 ρ η1
def sRs (c : Nat) (ρ : Lo) (r : R (List D)) : SR := r.go ρ fun xs η1 => if D.plains xs then .exc c xs ρ η1 else .bad
def sTr (hs : Hs) (r : SR) : SR := match r with
    | .exc c xs ρ1 η1 => execH C c xs hs ρ1 η1
    | r => r
def sSeq (ss : Ss) (r : SR) : SR := r.seq fun ρ1 η1 => execs C ss ρ1 η1
def sAugS (i : E) (o : BOp) (e : E) (ρ : Lo) (r : R D) : SR := r.go ρ fun a η1 => (ev C i ρ η1).go ρ fun k η2 => match a with
    | .ref n => (R.of (idxD (.ref n) k η2) η2).go ρ fun v η3 => (ev C e ρ η3).go ρ fun y η4 => match o, v, y with
      | .add, .int p, .int q => match setD (.ref n) k (.int (p + q)) η4 with
        | some η5 => .nx ρ η5
        | none => .bad
      | .sub, .int p, .int q => match setD (.ref n) k (.int (p - q)) η4 with
        | some η5 => .nx ρ η5
        | none => .bad
      | _, _, _ => .bad
    | _ => .bad
def sAugS2 (o : BOp) (e : E) (n : Nat) (ρ : Lo) (r : R D) : SR := r.go ρ fun k η2 => (R.of (idxD (.ref n) k η2) η2).go ρ fun v η3 => (ev C e ρ η3).go ρ fun y η4 => match o, v, y with
      | .add, .int p, .int q => match setD (.ref n) k (.int (p + q)) η4 with
        | some η5 => .nx ρ η5
        | none => .bad
      | .sub, .int p, .int q => match setD (.ref n) k (.int (p - q)) η4 with
        | some η5 => .nx ρ η5
        | none => .bad
      | _, _, _ => .bad
def sAugS3 (o : BOp) (e : E) (n : Nat) (k : D) (ρ : Lo) (r : R D) : SR := r.go ρ fun v η3 => (ev C e ρ η3).go ρ fun y η4 => match o, v, y with
      | .add, .int p, .int q => match setD (.ref n) k (.int (p + q)) η4 with
        | some η5 => .nx ρ η5
        | none => .bad
      | .sub, .int p, .int q => match setD (.ref n) k (.int (p - q)) η4 with
        | some η5 => .nx ρ η5
        | none => .bad
      | _, _, _ => .bad
def sAugS4 (o : BOp) (v : D) (n : Nat) (k : D) (ρ : Lo) (r : R D) : SR := r.go ρ fun y η4 => match o, v, y with
      | .add, .int p, .int q => match setD (.ref n) k (.int (p + q)) η4 with
        | some η5 => .nx ρ η5
        | none => .bad
      | .sub, .int p, .int q => match setD (.ref n) k (.int (p - q)) η4 with
        | some η5 => .nx ρ η5
        | none => .bad
      | _, _, _ => .bad
end
variable {C} {ρ ρ' : Lo} {η η1 : Hep} {x y z : D} {xs : List D}
theorem x_asg {t : T} {e : E} : exec C (.asg t e) ρ η = sAsg t ρ (ev C e ρ η) := by simp only [exec]; rfl
theorem x_asg1 {t : T} : sAsg t ρ (.ok x η) = sAsg2 t ρ (own x η) := rfl
theorem x_asg2 {t : T} : sAsg2 t ρ (.ok x η) = sAsg3 η (bindT t x η ρ) := rfl
theorem x_asg3 : sAsg3 η (some ρ) = .nx ρ η := rfl
theorem x_par {i j : Nat} {a b : E} : exec C (.par i j a b) ρ η = sPar i j ρ (evs C (.cons a (.cons b .nil)) ρ η) := by simp only [exec]; rfl
theorem x_par1 {i j : Nat} : sPar i j ρ (.ok [x, y] η) = .nx ((ρ.set i (some x)).set j (some y)) η := rfl
theorem x_par3 {i j l : Nat} {a b c : E} : exec C (.par3 i j l a b c) ρ η = sPar3 i j l ρ (evs C (.cons a (.cons b (.cons c .nil))) ρ η) := by simp only [exec]; rfl
theorem x_par31 {i j l : Nat} : sPar3 i j l ρ (.ok [x, y, z] η) = .nx (((ρ.set i (some x)).set j (some y)).set l (some z)) η := rfl
theorem x_sub {o i e : E} : exec C (.sub o i e) ρ η = sSub C o i ρ (ev C e ρ η) := by simp only [exec]; rfl
theorem x_sub1 {o i : E} : sSub C o i ρ (.ok x η) = sSub2 C o i ρ (own x η) := rfl
theorem x_sub2 {o i : E} : sSub2 C o i ρ (.ok x η) = sSub3 C i x ρ (ev C o ρ η) := rfl
theorem x_sub3 {i : E} : sSub3 C i x ρ (.ok y η) = sSub4 y x ρ (ev C i ρ η) := rfl
theorem x_sub4 : sSub4 y x ρ (.ok z η) = sSub5 ρ (setD y z x η) := rfl
theorem x_sub5 : sSub5 ρ (some η) = .nx ρ η := rfl
theorem x_aug {i : Nat} {o : BOp} {e : E} : exec C (.aug i o e) ρ η = sAug0 C i o e ρ η ρ[i]? := by simp only [exec]; rfl
theorem x_aug0 {i : Nat} {o : BOp} {e : E} : sAug0 C i o e ρ η (some (some x)) = sAug i o x ρ (ev C e ρ η) := rfl
theorem x_aug1 {i : Nat} {a b : Int} : sAug i .add (.int a) ρ (.ok (.int b) η) = .nx (ρ.set i (some (.int (a + b)))) η := rfl
theorem x_aug2 {i : Nat} {a b : Int} : sAug i .sub (.int a) ρ (.ok (.int b) η) = .nx (ρ.set i (some (.int (a - b)))) η := rfl
theorem x_augS {a i : E} {o : BOp} {e : E} : exec C (.augS a i o e) ρ η = sAugS C i o e ρ (ev C a ρ η) := by simp only [exec]; rfl
theorem x_augS1 {i : E} {o : BOp} {e : E} {n : Nat} : sAugS C i o e ρ (.ok (.ref n) η) = sAugS2 C o e n ρ (ev C i ρ η) := rfl
theorem x_augS2 {o : BOp} {e : E} {n : Nat} : sAugS2 C o e n ρ (.ok x η) = sAugS3 C o e n x ρ (R.of (idxD (.ref n) x η) η) := rfl
theorem x_augS3 {o : BOp} {e : E} {n : Nat} : sAugS3 C o e n x ρ (.ok y η) = sAugS4 o y n x ρ (ev C e ρ η) := rfl
theorem x_augS4 {n : Nat} {p q : Int} : sAugS4 .add (.int p) n x ρ (.ok (.int q) η) = sSub5 ρ (setD (.ref n) x (.int (p + q)) η) := rfl
theorem x_augS5 {n : Nat} {p q : Int} : sAugS4 .sub (.int p) n x ρ (.ok (.int q) η) = sSub5 ρ (setD (.ref n) x (.int (p - q)) η) := rfl
theorem x_ret {e : E} : exec C (.ret e) ρ η = sRet ρ (ev C e ρ η) := by simp only [exec]; rfl
theorem x_ret1 : sRet ρ (.ok x η) = .rt x η := rfl
theorem x_ret2 {c : Nat} : sRet ρ (.exc c xs η) = .exc c xs ρ η := rfl
theorem x_retN : exec C .retN ρ η = .rt .non η := by simp only [exec]
theorem x_ex {e : E} : exec C (.ex e) ρ η = sEx ρ (ev C e ρ η) := by simp only [exec]; rfl
theorem x_ex1 : sEx ρ (.ok x η) = .nx ρ η := rfl
theorem x_ex2 {c : Nat} : sEx ρ (.exc c xs η) = .exc c xs ρ η := rfl
theorem x_pass : exec C .pass ρ η = .nx ρ η := by simp only [exec]
theorem x_brk : exec C .brk ρ η = .bk ρ η := by simp only [exec]
theorem x_cnt : exec C .cnt ρ η = .ct ρ η := by simp only [exec]
theorem x_if {c : E} {a b : Ss} : exec C (.ifs c a b) ρ η = sIf C a b ρ (ev C c ρ η) := by simp only [exec]; rfl
theorem x_if1 {a b : Ss} : sIf C a b ρ (.ok (.bl true) η) = execs C a ρ η := rfl
theorem x_if2 {a b : Ss} : sIf C a b ρ (.ok (.bl false) η) = execs C b ρ η := rfl
theorem x_whl {c : E} {b : Ss} : exec C (.whl c b) ρ η = wE C c b ρ η := by simp only [exec]; rfl
theorem x_fr {t : T} {it : I} {b : Ss} : exec C (.fr t it b) ρ η = sFr C t b ρ (evI C it ρ η) := by simp only [exec]; rfl
theorem x_fr1 {t : T} {b : Ss} {w : List (Nat × List D)} : sFr C t b ρ (.ok (xs, w) η) = fE C b t w xs ρ η := rfl
theorem x_rs {c : Nat} : exec C (.raise c .nil) ρ η = .exc c [] ρ η := by simp only [exec, evs]; rfl
theorem x_tr {b : Ss} {hs : Hs} : exec C (.tr b hs) ρ η = sTr C hs (execs C b ρ η) := by simp only [exec]; rfl
theorem x_tr1 {hs : Hs} : sTr C hs (.nx ρ η) = .nx ρ η := rfl
theorem x_tr2 {hs : Hs} : sTr C hs (.rt x η) = .rt x η := rfl
theorem x_tr3 {hs : Hs} {c : Nat} : sTr C hs (.exc c xs ρ η) = execH C c xs hs ρ η := rfl
theorem x_h {c c' : Nat} {b : Ss} {hs : Hs} : execH C c xs (.cons c' b hs) ρ η = if c = c' then noX (execs C b ρ η) else execH C c xs hs ρ η := by simp only [execH]
theorem x_noX1 : noX (.nx ρ η) = .nx ρ η := rfl
theorem x_noX2 : noX (.rt x η) = .rt x η := rfl
theorem x_noX3 : noX (.ct ρ η) = .ct ρ η := rfl
theorem xs_nil : execs C .nil ρ η = .nx ρ η := by simp only [execs]
theorem xs_cons {s : S} {ss : Ss} : execs C (.cons s ss) ρ η = sSeq C ss (exec C s ρ η) := by simp only [execs]; rfl
theorem xs_nx {ss : Ss} : sSeq C ss (.nx ρ η) = execs C ss ρ η := rfl
theorem xs_rt {ss : Ss} : sSeq C ss (.rt x η) = .rt x η := rfl
theorem xs_bk {ss : Ss} : sSeq C ss (.bk ρ η) = .bk ρ η := rfl
theorem xs_ct {ss : Ss} : sSeq C ss (.ct ρ η) = .ct ρ η := rfl
theorem xs_ex {ss : Ss} {c : Nat} : sSeq C ss (.exc c xs ρ η) = .exc c xs ρ η := rfl
theorem f_nil {b : Ss} {t : T} {w : List (Nat × List D)} : fE C b t w [] ρ η = .nx ρ η := rfl
theorem f_nx {b : Ss} {t : T} {w : List (Nat × List D)} {ρ1 ρ2 : Lo} (h1 : bindT t x η ρ = some ρ1) (h2 : execs C b ρ1 η = .nx ρ2 η1) (hw : watchOk η1 w = true) : fE C b t w (x :: xs) ρ η = fE C b t w xs ρ2 η1 := by
  unfold fE
  simp only [forL, h1, h2, hw, if_true]
theorem f_ct {b : Ss} {t : T} {w : List (Nat × List D)} {ρ1 ρ2 : Lo} (h1 : bindT t x η ρ = some ρ1) (h2 : execs C b ρ1 η = .ct ρ2 η1) (hw : watchOk η1 w = true) : fE C b t w (x :: xs) ρ η = fE C b t w xs ρ2 η1 := by
  unfold fE
  simp only [forL, h1, h2, hw, if_true]
theorem f_rt {b : Ss} {t : T} {w : List (Nat × List D)} {ρ1 : Lo} {d : D} (h1 : bindT t x η ρ = some ρ1) (h2 : execs C b ρ1 η = .rt d η1) : fE C b t w (x :: xs) ρ η = .rt d η1 := by
  unfold fE
  simp only [forL, h1, h2]
theorem f_bk {b : Ss} {t : T} {w : List (Nat × List D)} {ρ1 ρ2 : Lo} (h1 : bindT t x η ρ = some ρ1) (h2 : execs C b ρ1 η = .bk ρ2 η1) : fE C b t w (x :: xs) ρ η = .nx ρ2 η1 := by
  unfold fE
  simp only [forL, h1, h2]
theorem f_exc {b : Ss} {t : T} {w : List (Nat × List D)} {ρ1 ρ2 : Lo} {c : Nat} {es : List D} (h1 : bindT t x η ρ = some ρ1) (h2 : execs C b ρ1 η = .exc c es ρ2 η1) : fE C b t w (x :: xs) ρ η = .exc c es ρ2 η1 := by
  unfold fE
  simp only [forL, h1, h2]
theorem w_true {c : E} {b : Ss} {ρ2 : Lo} {η2 : Hep} (h : ev C c ρ η = .ok (.bl true) η1) (h2 : execs C b ρ η1 = .nx ρ2 η2) : wE C c b ρ η = wE C c b ρ2 η2 := whL_true h h2
theorem w_ret {c : E} {b : Ss} {d : D} {η2 : Hep} (h : ev C c ρ η = .ok (.bl true) η1) (h2 : execs C b ρ η1 = .rt d η2) : wE C c b ρ η = .rt d η2 := whL_ret h h2
theorem w_false {c : E} {b : Ss} (h : ev C c ρ η = .ok (.bl false) η1) : wE C c b ρ η = .nx ρ η1 := whL_false h
theorem t_nx : toR (.nx ρ η) = .ok .non η := rfl
theorem t_rt : toR (.rt x η) = .ok x η := rfl
theorem t_exc {c : Nat} : toR (.exc c xs ρ η) = .exc c xs η := rfl
theorem call_eq {Γ : Nat → Option Fd} {k f : Nat} {d : Fd} (h : Γ f = some d) (hl : xs.length = d.np) : callN Γ (k + 1) f xs η = toR (execs (callN Γ k) d.body (start d.ns xs) η) := by
  simp only [callN, h, hl, if_true]
theorem own_tl : own (.tl xs) η = .ok (.ref η.length) (η ++ [.lst xs]) := rfl
theorem own_int {i : Int} : own (.int i) η = .ok (.int i) η := rfl
theorem own_bl {i : Bool} : own (.bl i) η = .ok (.bl i) η := rfl
theorem own_non : own .non η = .ok .non η := rfl
theorem own_str {i : PySem.Str} : own (.str i) η = .ok (.str i) η := rfl
theorem own_tup : own (.tup xs) η = .ok (.tup xs) η := rfl
theorem own_ref {i : Nat} : own (.ref i) η = .ok (.ref i) η := rfl
theorem own_fl : own (.fl xs) η = .ok (.fl xs) η := rfl
end
theorem sz0 : 0 ≤ PySem.sizeLine := by decide
theorem sz1 : 1 ≤ PySem.sizeLine := by decide
theorem sz2 : 2 ≤ PySem.sizeLine := by decide
theorem sz3 : 3 ≤ PySem.sizeLine := by decide
theorem sz4 : 4 ≤ PySem.sizeLine := by decide
theorem sz5 : 5 ≤ PySem.sizeLine := by decide
theorem sz6 : 6 ≤ PySem.sizeLine := by decide
theorem sz7 : 7 ≤ PySem.sizeLine := by decide
theorem sz8 : 8 ≤ PySem.sizeLine := by decide
theorem nc0 : ((0 : Nat) : Int) = 0 := rfl
theorem nc1 : ((1 : Nat) : Int) = 1 := rfl
theorem nc2 : ((2 : Nat) : Int) = 2 := rfl
theorem nc3 : ((3 : Nat) : Int) = 3 := rfl
theorem nc4 : ((4 : Nat) : Int) = 4 := rfl
theorem nc5 : ((5 : Nat) : Int) = 5 := rfl
theorem nc6 : ((6 : Nat) : Int) = 6 := rfl
theorem nc7 : ((7 : Nat) : Int) = 7 := rfl
theorem nc8 : ((8 : Nat) : Int) = 8 := rfl
end Ev

set_option Elab.async false
set_option linter.all false
set_option maxRecDepth 100000
/-! # Part D: shares -/
namespace Ev
open Law
/-! ## places -/
theorem at_nat {α : Type} (xs : List α) (n : Nat) : at_ xs (n : Int) = xs[n]? := by
  show L2.atI xs (n : Int) = _
  unfold L2.atI L2.ixN
  by_cases h : n < xs.length
  · simp [h]
  · simp [h, List.getElem?_eq_none (Nat.le_of_not_lt h)]
theorem at0 {α : Type} {x : α} {xs : List α} : at_ (x :: xs) 0 = some x := at_nat (x :: xs) 0
theorem at1 {α : Type} {x y : α} {xs : List α} : at_ (x :: y :: xs) 1 = some y := at_nat (x :: y :: xs) 1
theorem idx_tup {xs : List D} {i : Int} {η : Hep} : idxD (.tup xs) (.int i) η = at_ xs i := rfl
variable {Γ : Nat → Option Fd} {k : Nat} {η : Hep}
theorem is_count_int (h : Γ 0 = some F0) (i : Int) : callN Γ (k + 1) 0 [.int i] η = .ok (.bl true) η := by
  rw [call_eq h rfl]
  simp -implicitDefEqProofs only [e_lit, e_var, e_glb, e_bin, e_bin1, e_bin2, e_neg, e_neg1, e_cmp, e_cmp1, e_cmp2, e_chn, e_chn1, e_chn2, e_chn3, e_chn4, e_isn, e_isn1, e_isn2, e_and, e_and1, e_and2, e_or, e_or1, e_or2, e_not, e_not1, e_ite, e_ite1, e_ite2, e_tup, e_tup1, e_lst, e_lst1, e_idx, e_idx1, e_idx2, e_slc, e_slc1, e_slc2, e_slc3, e_call, e_call1, e_prim, e_prim1, e_isi, e_isi1, e_isi2, e_meth, e_meth1, e_meth2, e_comp, e_comp1, e_tl, es_nil, es_cons, es_cons1, es_cons2, es_cons3, ep_nil, ep_cons, ep_cons1, eo_no, eo_so, eo_so1, ec_no, ec_so, ei_val, ei_val1, ei_rg, ei_rg1, ei_rg2, ei_rg3, ei_rg4, ei_enm, ei_enm1, ei_zip, ei_zip1, ei_zip2, ei_zip3, ei_rev, ei_rev1, c_nil, x_asg, x_asg1, x_asg2, x_asg3, x_par, x_par1, x_par3, x_par31, x_sub, x_sub1, x_sub2, x_sub3, x_sub4, x_sub5, x_aug, x_aug0, x_aug1, x_aug2, x_augS, x_augS1, x_augS2, x_augS3, x_augS4, x_augS5, x_ret, x_ret1, x_ret2, x_retN, x_ex, x_ex1, x_ex2, x_pass, x_brk, x_cnt, x_if, x_if1, x_if2, x_whl, x_fr, x_fr1, x_rs, x_tr, x_tr1, x_tr2, x_tr3, x_h, x_noX1, x_noX2, x_noX3, xs_nx, xs_rt, xs_bk, xs_ct, xs_ex, f_nil, t_nx, t_rt, t_exc, own_tl, own_int, own_bl, own_non, own_str, own_tup, own_ref, own_fl, xs_nil, xs_cons, start, bindT, bindTs, R.of_some, R.of_none, List.length_cons, List.length_nil, List.map_cons, List.map_nil, List.getElem?_cons_zero, List.getElem?_cons_succ, List.set_cons_zero, List.set_cons_succ, Nat.reduceAdd, Nat.reduceSub, List.cons_append, List.nil_append, List.append_nil, List.replicate, Nat.zero_add, reduceIte, Option.map_some, Option.map_none, fin_same, Bool.not_true, Bool.not_false, Bool.false_eq_true, tyD, primD, binD, sz0, sz1, sz2, sz3, sz4, sz5, sz6, sz7, sz8, nc0, nc1, nc2, nc3, nc4, nc5, nc6, nc7, nc8, Nat.reduceEqDiff, Option.bind_some, Int.reduceLE, Int.reduceLT, Int.reduceEq, Int.reduceToNat, Int.reduceAdd, Int.reduceSub, Int.reduceMul, Int.reduceNeg, Nat.reduceMul, ne_eq, not_false_eq_true, not_true_eq_false, decide_true, decide_false, Bool.and_true, Bool.true_and, Bool.or_false, Bool.false_or, Bool.or_true, Bool.true_or, Bool.and_false, Bool.false_and, beq_self_eq_true, F0]
theorem eqD_int {i j : Int} : eqD (.int i) (.int j) η = some (decide (i = j)) := by
  simp [eqD, opn, seqOf, D.plain1, D.plain, D.dep, D.eq]
/-! ## the greatest divisor -/
theorem abs_eq (i : Int) : (if i < 0 then -i else i) = (i.natAbs : Int) := by omega
theorem gcd_loop {C : Nat → List D → Hep → R D} (i j : Nat) (hi : i ≠ j) : ∀ (n m : Nat) (ρ : Lo), ρ[i]? = some (some (.int m)) → ρ[j]? = some (some (.int n)) →
    wE C (.cmp .ne (.var j) (.lit (.int 0))) (.cons (.par i j (.var j) (.bin .mod (.var i) (.var j))) .nil) ρ η = .nx ((ρ.set i (some (.int (Nat.gcd m n)))).set j (some (.int 0))) η := by
  intro n
  induction n using Nat.strongRecOn with
  | _ n ih =>
    intro m ρ e1 e2
    by_cases hn : n = 0
    · subst hn
      rw [w_false (η1 := η) (by simp -implicitDefEqProofs only [e_lit, e_var, e_glb, e_bin, e_bin1, e_bin2, e_neg, e_neg1, e_cmp, e_cmp1, e_cmp2, e_chn, e_chn1, e_chn2, e_chn3, e_chn4, e_isn, e_isn1, e_isn2, e_and, e_and1, e_and2, e_or, e_or1, e_or2, e_not, e_not1, e_ite, e_ite1, e_ite2, e_tup, e_tup1, e_lst, e_lst1, e_idx, e_idx1, e_idx2, e_slc, e_slc1, e_slc2, e_slc3, e_call, e_call1, e_prim, e_prim1, e_isi, e_isi1, e_isi2, e_meth, e_meth1, e_meth2, e_comp, e_comp1, e_tl, es_nil, es_cons, es_cons1, es_cons2, es_cons3, ep_nil, ep_cons, ep_cons1, eo_no, eo_so, eo_so1, ec_no, ec_so, ei_val, ei_val1, ei_rg, ei_rg1, ei_rg2, ei_rg3, ei_rg4, ei_enm, ei_enm1, ei_zip, ei_zip1, ei_zip2, ei_zip3, ei_rev, ei_rev1, c_nil, x_asg, x_asg1, x_asg2, x_asg3, x_par, x_par1, x_par3, x_par31, x_sub, x_sub1, x_sub2, x_sub3, x_sub4, x_sub5, x_aug, x_aug0, x_aug1, x_aug2, x_augS, x_augS1, x_augS2, x_augS3, x_augS4, x_augS5, x_ret, x_ret1, x_ret2, x_retN, x_ex, x_ex1, x_ex2, x_pass, x_brk, x_cnt, x_if, x_if1, x_if2, x_whl, x_fr, x_fr1, x_rs, x_tr, x_tr1, x_tr2, x_tr3, x_h, x_noX1, x_noX2, x_noX3, xs_nx, xs_rt, xs_bk, xs_ct, xs_ex, f_nil, t_nx, t_rt, t_exc, own_tl, own_int, own_bl, own_non, own_str, own_tup, own_ref, own_fl, xs_nil, xs_cons, start, bindT, bindTs, R.of_some, R.of_none, List.length_cons, List.length_nil, List.map_cons, List.map_nil, List.getElem?_cons_zero, List.getElem?_cons_succ, List.set_cons_zero, List.set_cons_succ, Nat.reduceAdd, Nat.reduceSub, List.cons_append, List.nil_append, List.append_nil, List.replicate, Nat.zero_add, reduceIte, Option.map_some, Option.map_none, fin_same, Bool.not_true, Bool.not_false, Bool.false_eq_true, tyD, primD, binD, sz0, sz1, sz2, sz3, sz4, sz5, sz6, sz7, sz8, nc0, nc1, nc2, nc3, nc4, nc5, nc6, nc7, nc8, Nat.reduceEqDiff, Option.bind_some, Int.reduceLE, Int.reduceLT, Int.reduceEq, Int.reduceToNat, Int.reduceAdd, Int.reduceSub, Int.reduceMul, Int.reduceNeg, Nat.reduceMul, ne_eq, not_false_eq_true, not_true_eq_false, decide_true, decide_false, Bool.and_true, Bool.true_and, Bool.or_false, Bool.false_or, Bool.or_true, Bool.true_or, Bool.and_false, Bool.false_and, beq_self_eq_true, e2, cmpD, eqD_int]), Nat.gcd_zero_right]
      have l1 : ρ.set i (some (.int m)) = ρ := by
        obtain ⟨h, q⟩ := List.getElem?_eq_some_iff.mp e1
        rw [← q, List.set_getElem_self]
      have l2 : ρ.set j (some (.int 0)) = ρ := by
        obtain ⟨h, q⟩ := List.getElem?_eq_some_iff.mp e2
        rw [show (D.int 0) = D.int ((0 : Nat) : Int) from rfl, ← q, List.set_getElem_self]
      rw [l1, l2]
    · have hz : (n : Int) ≠ 0 := by omega
      have em : Int.fmod (m : Int) (n : Int) = ((m % n : Nat) : Int) := by rw [Int.fmod_eq_emod_of_nonneg _ (by omega)]; rfl
      rw [w_true (η1 := η) (η2 := η) (ρ2 := (ρ.set i (some (.int n))).set j (some (.int (m % n : Nat)))) (by simp -implicitDefEqProofs only [e_lit, e_var, e_glb, e_bin, e_bin1, e_bin2, e_neg, e_neg1, e_cmp, e_cmp1, e_cmp2, e_chn, e_chn1, e_chn2, e_chn3, e_chn4, e_isn, e_isn1, e_isn2, e_and, e_and1, e_and2, e_or, e_or1, e_or2, e_not, e_not1, e_ite, e_ite1, e_ite2, e_tup, e_tup1, e_lst, e_lst1, e_idx, e_idx1, e_idx2, e_slc, e_slc1, e_slc2, e_slc3, e_call, e_call1, e_prim, e_prim1, e_isi, e_isi1, e_isi2, e_meth, e_meth1, e_meth2, e_comp, e_comp1, e_tl, es_nil, es_cons, es_cons1, es_cons2, es_cons3, ep_nil, ep_cons, ep_cons1, eo_no, eo_so, eo_so1, ec_no, ec_so, ei_val, ei_val1, ei_rg, ei_rg1, ei_rg2, ei_rg3, ei_rg4, ei_enm, ei_enm1, ei_zip, ei_zip1, ei_zip2, ei_zip3, ei_rev, ei_rev1, c_nil, x_asg, x_asg1, x_asg2, x_asg3, x_par, x_par1, x_par3, x_par31, x_sub, x_sub1, x_sub2, x_sub3, x_sub4, x_sub5, x_aug, x_aug0, x_aug1, x_aug2, x_augS, x_augS1, x_augS2, x_augS3, x_augS4, x_augS5, x_ret, x_ret1, x_ret2, x_retN, x_ex, x_ex1, x_ex2, x_pass, x_brk, x_cnt, x_if, x_if1, x_if2, x_whl, x_fr, x_fr1, x_rs, x_tr, x_tr1, x_tr2, x_tr3, x_h, x_noX1, x_noX2, x_noX3, xs_nx, xs_rt, xs_bk, xs_ct, xs_ex, f_nil, t_nx, t_rt, t_exc, own_tl, own_int, own_bl, own_non, own_str, own_tup, own_ref, own_fl, xs_nil, xs_cons, start, bindT, bindTs, R.of_some, R.of_none, List.length_cons, List.length_nil, List.map_cons, List.map_nil, List.getElem?_cons_zero, List.getElem?_cons_succ, List.set_cons_zero, List.set_cons_succ, Nat.reduceAdd, Nat.reduceSub, List.cons_append, List.nil_append, List.append_nil, List.replicate, Nat.zero_add, reduceIte, Option.map_some, Option.map_none, fin_same, Bool.not_true, Bool.not_false, Bool.false_eq_true, tyD, primD, binD, sz0, sz1, sz2, sz3, sz4, sz5, sz6, sz7, sz8, nc0, nc1, nc2, nc3, nc4, nc5, nc6, nc7, nc8, Nat.reduceEqDiff, Option.bind_some, Int.reduceLE, Int.reduceLT, Int.reduceEq, Int.reduceToNat, Int.reduceAdd, Int.reduceSub, Int.reduceMul, Int.reduceNeg, Nat.reduceMul, ne_eq, not_false_eq_true, not_true_eq_false, decide_true, decide_false, Bool.and_true, Bool.true_and, Bool.or_false, Bool.false_or, Bool.or_true, Bool.true_or, Bool.and_false, Bool.false_and, beq_self_eq_true, e2, cmpD, eqD_int, decide_eq_false hz]) (by simp -implicitDefEqProofs only [e_lit, e_var, e_glb, e_bin, e_bin1, e_bin2, e_neg, e_neg1, e_cmp, e_cmp1, e_cmp2, e_chn, e_chn1, e_chn2, e_chn3, e_chn4, e_isn, e_isn1, e_isn2, e_and, e_and1, e_and2, e_or, e_or1, e_or2, e_not, e_not1, e_ite, e_ite1, e_ite2, e_tup, e_tup1, e_lst, e_lst1, e_idx, e_idx1, e_idx2, e_slc, e_slc1, e_slc2, e_slc3, e_call, e_call1, e_prim, e_prim1, e_isi, e_isi1, e_isi2, e_meth, e_meth1, e_meth2, e_comp, e_comp1, e_tl, es_nil, es_cons, es_cons1, es_cons2, es_cons3, ep_nil, ep_cons, ep_cons1, eo_no, eo_so, eo_so1, ec_no, ec_so, ei_val, ei_val1, ei_rg, ei_rg1, ei_rg2, ei_rg3, ei_rg4, ei_enm, ei_enm1, ei_zip, ei_zip1, ei_zip2, ei_zip3, ei_rev, ei_rev1, c_nil, x_asg, x_asg1, x_asg2, x_asg3, x_par, x_par1, x_par3, x_par31, x_sub, x_sub1, x_sub2, x_sub3, x_sub4, x_sub5, x_aug, x_aug0, x_aug1, x_aug2, x_augS, x_augS1, x_augS2, x_augS3, x_augS4, x_augS5, x_ret, x_ret1, x_ret2, x_retN, x_ex, x_ex1, x_ex2, x_pass, x_brk, x_cnt, x_if, x_if1, x_if2, x_whl, x_fr, x_fr1, x_rs, x_tr, x_tr1, x_tr2, x_tr3, x_h, x_noX1, x_noX2, x_noX3, xs_nx, xs_rt, xs_bk, xs_ct, xs_ex, f_nil, t_nx, t_rt, t_exc, own_tl, own_int, own_bl, own_non, own_str, own_tup, own_ref, own_fl, xs_nil, xs_cons, start, bindT, bindTs, R.of_some, R.of_none, List.length_cons, List.length_nil, List.map_cons, List.map_nil, List.getElem?_cons_zero, List.getElem?_cons_succ, List.set_cons_zero, List.set_cons_succ, Nat.reduceAdd, Nat.reduceSub, List.cons_append, List.nil_append, List.append_nil, List.replicate, Nat.zero_add, reduceIte, Option.map_some, Option.map_none, fin_same, Bool.not_true, Bool.not_false, Bool.false_eq_true, tyD, primD, binD, sz0, sz1, sz2, sz3, sz4, sz5, sz6, sz7, sz8, nc0, nc1, nc2, nc3, nc4, nc5, nc6, nc7, nc8, Nat.reduceEqDiff, Option.bind_some, Int.reduceLE, Int.reduceLT, Int.reduceEq, Int.reduceToNat, Int.reduceAdd, Int.reduceSub, Int.reduceMul, Int.reduceNeg, Nat.reduceMul, ne_eq, not_false_eq_true, not_true_eq_false, decide_true, decide_false, Bool.and_true, Bool.true_and, Bool.or_false, Bool.false_or, Bool.or_true, Bool.true_or, Bool.and_false, Bool.false_and, beq_self_eq_true, e1, e2]; rw [if_pos hz, em]; simp -implicitDefEqProofs only [e_lit, e_var, e_glb, e_bin, e_bin1, e_bin2, e_neg, e_neg1, e_cmp, e_cmp1, e_cmp2, e_chn, e_chn1, e_chn2, e_chn3, e_chn4, e_isn, e_isn1, e_isn2, e_and, e_and1, e_and2, e_or, e_or1, e_or2, e_not, e_not1, e_ite, e_ite1, e_ite2, e_tup, e_tup1, e_lst, e_lst1, e_idx, e_idx1, e_idx2, e_slc, e_slc1, e_slc2, e_slc3, e_call, e_call1, e_prim, e_prim1, e_isi, e_isi1, e_isi2, e_meth, e_meth1, e_meth2, e_comp, e_comp1, e_tl, es_nil, es_cons, es_cons1, es_cons2, es_cons3, ep_nil, ep_cons, ep_cons1, eo_no, eo_so, eo_so1, ec_no, ec_so, ei_val, ei_val1, ei_rg, ei_rg1, ei_rg2, ei_rg3, ei_rg4, ei_enm, ei_enm1, ei_zip, ei_zip1, ei_zip2, ei_zip3, ei_rev, ei_rev1, c_nil, x_asg, x_asg1, x_asg2, x_asg3, x_par, x_par1, x_par3, x_par31, x_sub, x_sub1, x_sub2, x_sub3, x_sub4, x_sub5, x_aug, x_aug0, x_aug1, x_aug2, x_augS, x_augS1, x_augS2, x_augS3, x_augS4, x_augS5, x_ret, x_ret1, x_ret2, x_retN, x_ex, x_ex1, x_ex2, x_pass, x_brk, x_cnt, x_if, x_if1, x_if2, x_whl, x_fr, x_fr1, x_rs, x_tr, x_tr1, x_tr2, x_tr3, x_h, x_noX1, x_noX2, x_noX3, xs_nx, xs_rt, xs_bk, xs_ct, xs_ex, f_nil, t_nx, t_rt, t_exc, own_tl, own_int, own_bl, own_non, own_str, own_tup, own_ref, own_fl, xs_nil, xs_cons, start, bindT, bindTs, R.of_some, R.of_none, List.length_cons, List.length_nil, List.map_cons, List.map_nil, List.getElem?_cons_zero, List.getElem?_cons_succ, List.set_cons_zero, List.set_cons_succ, Nat.reduceAdd, Nat.reduceSub, List.cons_append, List.nil_append, List.append_nil, List.replicate, Nat.zero_add, reduceIte, Option.map_some, Option.map_none, fin_same, Bool.not_true, Bool.not_false, Bool.false_eq_true, tyD, primD, binD, sz0, sz1, sz2, sz3, sz4, sz5, sz6, sz7, sz8, nc0, nc1, nc2, nc3, nc4, nc5, nc6, nc7, nc8, Nat.reduceEqDiff, Option.bind_some, Int.reduceLE, Int.reduceLT, Int.reduceEq, Int.reduceToNat, Int.reduceAdd, Int.reduceSub, Int.reduceMul, Int.reduceNeg, Nat.reduceMul, ne_eq, not_false_eq_true, not_true_eq_false, decide_true, decide_false, Bool.and_true, Bool.true_and, Bool.or_false, Bool.false_or, Bool.or_true, Bool.true_or, Bool.and_false, Bool.false_and, beq_self_eq_true])]
      have hli := (List.getElem?_eq_some_iff.mp e1).1
      have hlj := (List.getElem?_eq_some_iff.mp e2).1
      rw [ih (m % n) (Nat.mod_lt _ (by omega)) n _ (by rw [List.getElem?_set_ne (Ne.symm hi), List.getElem?_set_self hli]) (by rw [List.getElem?_set_self (by simpa using hlj)])]
      congr 1
      have eg : Nat.gcd n (m % n) = Nat.gcd m n := by rw [Nat.gcd_comm, ← Nat.gcd_rec, Nat.gcd_comm]
      rw [eg]
      apply List.ext_getElem?
      intro q
      by_cases qj : j = q
      · subst qj
        rw [List.getElem?_set_self (by simpa using hlj), List.getElem?_set_self (by simpa using hlj)]
      · rw [List.getElem?_set_ne qj, List.getElem?_set_ne qj]
        by_cases qi : i = q
        · subst qi
          rw [List.getElem?_set_self (by simpa using hli), List.getElem?_set_self (by simpa using hli)]
        · rw [List.getElem?_set_ne qi, List.getElem?_set_ne qi, List.getElem?_set_ne qj, List.getElem?_set_ne qi]
theorem divisor_ok (h : Γ 1 = some F1) (a b : Int) : callN Γ (k + 1) 1 [.int a, .int b] η = .ok (.int (Int.gcd a b)) η := by
  rw [call_eq h rfl]
  simp -implicitDefEqProofs only [e_lit, e_var, e_glb, e_bin, e_bin1, e_bin2, e_neg, e_neg1, e_cmp, e_cmp1, e_cmp2, e_chn, e_chn1, e_chn2, e_chn3, e_chn4, e_isn, e_isn1, e_isn2, e_and, e_and1, e_and2, e_or, e_or1, e_or2, e_not, e_not1, e_ite, e_ite1, e_ite2, e_tup, e_tup1, e_lst, e_lst1, e_idx, e_idx1, e_idx2, e_slc, e_slc1, e_slc2, e_slc3, e_call, e_call1, e_prim, e_prim1, e_isi, e_isi1, e_isi2, e_meth, e_meth1, e_meth2, e_comp, e_comp1, e_tl, es_nil, es_cons, es_cons1, es_cons2, es_cons3, ep_nil, ep_cons, ep_cons1, eo_no, eo_so, eo_so1, ec_no, ec_so, ei_val, ei_val1, ei_rg, ei_rg1, ei_rg2, ei_rg3, ei_rg4, ei_enm, ei_enm1, ei_zip, ei_zip1, ei_zip2, ei_zip3, ei_rev, ei_rev1, c_nil, x_asg, x_asg1, x_asg2, x_asg3, x_par, x_par1, x_par3, x_par31, x_sub, x_sub1, x_sub2, x_sub3, x_sub4, x_sub5, x_aug, x_aug0, x_aug1, x_aug2, x_augS, x_augS1, x_augS2, x_augS3, x_augS4, x_augS5, x_ret, x_ret1, x_ret2, x_retN, x_ex, x_ex1, x_ex2, x_pass, x_brk, x_cnt, x_if, x_if1, x_if2, x_whl, x_fr, x_fr1, x_rs, x_tr, x_tr1, x_tr2, x_tr3, x_h, x_noX1, x_noX2, x_noX3, xs_nx, xs_rt, xs_bk, xs_ct, xs_ex, f_nil, t_nx, t_rt, t_exc, own_tl, own_int, own_bl, own_non, own_str, own_tup, own_ref, own_fl, xs_nil, xs_cons, start, bindT, bindTs, R.of_some, R.of_none, List.length_cons, List.length_nil, List.map_cons, List.map_nil, List.getElem?_cons_zero, List.getElem?_cons_succ, List.set_cons_zero, List.set_cons_succ, Nat.reduceAdd, Nat.reduceSub, List.cons_append, List.nil_append, List.append_nil, List.replicate, Nat.zero_add, reduceIte, Option.map_some, Option.map_none, fin_same, Bool.not_true, Bool.not_false, Bool.false_eq_true, tyD, primD, binD, sz0, sz1, sz2, sz3, sz4, sz5, sz6, sz7, sz8, nc0, nc1, nc2, nc3, nc4, nc5, nc6, nc7, nc8, Nat.reduceEqDiff, Option.bind_some, Int.reduceLE, Int.reduceLT, Int.reduceEq, Int.reduceToNat, Int.reduceAdd, Int.reduceSub, Int.reduceMul, Int.reduceNeg, Nat.reduceMul, ne_eq, not_false_eq_true, not_true_eq_false, decide_true, decide_false, Bool.and_true, Bool.true_and, Bool.or_false, Bool.false_or, Bool.or_true, Bool.true_or, Bool.and_false, Bool.false_and, beq_self_eq_true, F1, abs_eq]
  rw [gcd_loop 0 1 (by decide) b.natAbs a.natAbs _ rfl rfl]
  simp -implicitDefEqProofs only [e_lit, e_var, e_glb, e_bin, e_bin1, e_bin2, e_neg, e_neg1, e_cmp, e_cmp1, e_cmp2, e_chn, e_chn1, e_chn2, e_chn3, e_chn4, e_isn, e_isn1, e_isn2, e_and, e_and1, e_and2, e_or, e_or1, e_or2, e_not, e_not1, e_ite, e_ite1, e_ite2, e_tup, e_tup1, e_lst, e_lst1, e_idx, e_idx1, e_idx2, e_slc, e_slc1, e_slc2, e_slc3, e_call, e_call1, e_prim, e_prim1, e_isi, e_isi1, e_isi2, e_meth, e_meth1, e_meth2, e_comp, e_comp1, e_tl, es_nil, es_cons, es_cons1, es_cons2, es_cons3, ep_nil, ep_cons, ep_cons1, eo_no, eo_so, eo_so1, ec_no, ec_so, ei_val, ei_val1, ei_rg, ei_rg1, ei_rg2, ei_rg3, ei_rg4, ei_enm, ei_enm1, ei_zip, ei_zip1, ei_zip2, ei_zip3, ei_rev, ei_rev1, c_nil, x_asg, x_asg1, x_asg2, x_asg3, x_par, x_par1, x_par3, x_par31, x_sub, x_sub1, x_sub2, x_sub3, x_sub4, x_sub5, x_aug, x_aug0, x_aug1, x_aug2, x_augS, x_augS1, x_augS2, x_augS3, x_augS4, x_augS5, x_ret, x_ret1, x_ret2, x_retN, x_ex, x_ex1, x_ex2, x_pass, x_brk, x_cnt, x_if, x_if1, x_if2, x_whl, x_fr, x_fr1, x_rs, x_tr, x_tr1, x_tr2, x_tr3, x_h, x_noX1, x_noX2, x_noX3, xs_nx, xs_rt, xs_bk, xs_ct, xs_ex, f_nil, t_nx, t_rt, t_exc, own_tl, own_int, own_bl, own_non, own_str, own_tup, own_ref, own_fl, xs_nil, xs_cons, start, bindT, bindTs, R.of_some, R.of_none, List.length_cons, List.length_nil, List.map_cons, List.map_nil, List.getElem?_cons_zero, List.getElem?_cons_succ, List.set_cons_zero, List.set_cons_succ, Nat.reduceAdd, Nat.reduceSub, List.cons_append, List.nil_append, List.append_nil, List.replicate, Nat.zero_add, reduceIte, Option.map_some, Option.map_none, fin_same, Bool.not_true, Bool.not_false, Bool.false_eq_true, tyD, primD, binD, sz0, sz1, sz2, sz3, sz4, sz5, sz6, sz7, sz8, nc0, nc1, nc2, nc3, nc4, nc5, nc6, nc7, nc8, Nat.reduceEqDiff, Option.bind_some, Int.reduceLE, Int.reduceLT, Int.reduceEq, Int.reduceToNat, Int.reduceAdd, Int.reduceSub, Int.reduceMul, Int.reduceNeg, Nat.reduceMul, ne_eq, not_false_eq_true, not_true_eq_false, decide_true, decide_false, Bool.and_true, Bool.true_and, Bool.or_false, Bool.false_or, Bool.or_true, Bool.true_or, Bool.and_false, Bool.false_and, beq_self_eq_true]
  rfl
/-! ## a share -/
def sh (q : Rat) : D := .tup [.int q.num, .int q.den]
def B (n : Nat) (q : Rat) : Prop := q.num.natAbs ≤ 2 ^ n ∧ q.den ≤ 2 ^ n
theorem log_le {m n : Nat} (h : m ≤ 2 ^ n) : m.log2 ≤ n := by
  by_cases h0 : m = 0
  · subst h0; simp
  · by_cases e : m = 2 ^ n
    · subst e; simp
    · have : m < 2 ^ n := by omega
      have := (Nat.log2_lt h0).mpr this
      omega
theorem mulOk_of {a b : Int} {n m : Nat} (h1 : a.natAbs ≤ 2 ^ n) (h2 : b.natAbs ≤ 2 ^ m) (h : n + m < 1000000) : mulOk a b = true := by
  unfold mulOk
  have := log_le h1
  have := log_le h2
  exact decide_eq_true (by omega)
theorem divOk_of {a : Int} {n : Nat} (h1 : a.natAbs ≤ 2 ^ n) (h : n < 9000) (h0 : 0 < a) : divOk a = true := by
  unfold divOk
  have := log_le h1
  rw [decide_eq_true (show 0 < a ∧ a.natAbs.log2 < 9000 from ⟨h0, by omega⟩)]
  rfl
/-- a / d in lowest terms -/
theorem low (a : Int) {d : Nat} (h : d ≠ 0) : (Rat.divInt a d).num = a.fdiv (Int.gcd a d) ∧ ((Rat.divInt a d).den : Int) = (d : Int).fdiv (Int.gcd a d) := by
  have e : Rat.divInt a d = Rat.normalize a d h := by
    show mkRat a d = _
    exact Rat.mkRat_def a d |>.trans (dif_neg h)
  rw [e, Rat.normalize_eq h]
  have g : (0 : Int) ≤ (Int.gcd a d : Int) := by omega
  rw [Int.fdiv_eq_ediv_of_nonneg _ g, Int.fdiv_eq_ediv_of_nonneg _ g]
  exact ⟨rfl, by simp [Int.gcd]⟩
theorem B_divInt {a b : Int} {n : Nat} (ha : a.natAbs ≤ 2 ^ n) (hb : b.natAbs ≤ 2 ^ n) (h0 : b ≠ 0) : B n (Rat.divInt a b) := by
  have pos : ∀ (a : Int) (d : Nat), d ≠ 0 → a.natAbs ≤ 2 ^ n → d ≤ 2 ^ n → B n (Rat.divInt a d) := by
    intro a d hd ha hb
    have e : Rat.divInt a d = Rat.normalize a d hd := by
      show mkRat a d = _
      exact Rat.mkRat_def a d |>.trans (dif_neg hd)
    rw [e, Rat.normalize_eq hd]
    refine ⟨?_, Nat.le_trans (Nat.div_le_self _ _) hb⟩
    show (a / ((a.natAbs.gcd d : Nat) : Int)).natAbs ≤ _
    rw [Int.natAbs_ediv_of_dvd (by exact Int.ofNat_dvd_left.mpr (Nat.gcd_dvd_left _ _))]
    exact Nat.le_trans (Nat.div_le_self _ _) ha
  rcases Int.lt_or_gt_of_ne h0 with q | q
  · have e : Rat.divInt a b = Rat.divInt (-a) ((-b).toNat : Nat) := by
      rw [show (((-b).toNat : Nat) : Int) = -b by omega, Rat.neg_divInt_neg]
    rw [e]
    exact pos _ _ (by omega) (by omega) (by omega)
  · have e : Rat.divInt a b = Rat.divInt a (b.toNat : Nat) := by rw [show ((b.toNat : Nat) : Int) = b by omega]
    rw [e]
    exact pos _ _ (by omega) (by omega) (by omega)
theorem divInt_low (a b : Int) (h : b ≠ 0) : ∃ (a' : Int) (d : Nat), d ≠ 0 ∧ (if b < 0 then -a else a) = a' ∧ (if b < 0 then -b else b) = (d : Int) ∧ Rat.divInt a b = Rat.divInt a' d ∧ d = b.natAbs ∧ a'.natAbs = a.natAbs := by
  by_cases q : b < 0
  · refine ⟨-a, b.natAbs, by omega, by rw [if_pos q], by rw [if_pos q]; omega, ?_, rfl, by omega⟩
    rw [show ((b.natAbs : Nat) : Int) = -b by omega, Rat.neg_divInt_neg]
  · refine ⟨a, b.natAbs, by omega, by rw [if_neg q], by rw [if_neg q]; omega, ?_, rfl, rfl⟩
    rw [show ((b.natAbs : Nat) : Int) = b by omega]
theorem gcd_div {a : Int} {d n : Nat} (h : d ≠ 0) (hb : d ≤ 2 ^ n) (hn : n < 9000) : divOk (Int.gcd a d : Int) = true := by
  have h1 : Int.gcd a d ≠ 0 := by
    intro e
    have := Int.gcd_eq_zero_iff.mp e
    omega
  have h2 : Int.gcd a d ≤ d := Nat.le_of_dvd (by omega) (by
    have := Int.gcd_dvd_right (a := a) (b := (d : Int))
    exact Int.ofNat_dvd.mp this)
  exact divOk_of (n := n) (by omega) hn (by omega)
theorem make_ok (h : Γ 2 = some F2) (h0 : Γ 0 = some F0) (h1 : Γ 1 = some F1) {a b : Int} (hb : b ≠ 0) {n : Nat} (hs : b.natAbs ≤ 2 ^ n) (hn : n < 9000) : callN Γ (k + 2) 2 [.int a, .int b] η = .ok (sh (Rat.divInt a b)) η := by
  obtain ⟨a', d, hd, e1, e2, e3, e4, e5⟩ := divInt_low a b hb
  have hdiv := gcd_div (a := a') hd (by omega) hn
  have lo := low a' hd
  rw [call_eq h rfl]
  simp -implicitDefEqProofs only [e_lit, e_var, e_glb, e_bin, e_bin1, e_bin2, e_neg, e_neg1, e_cmp, e_cmp1, e_cmp2, e_chn, e_chn1, e_chn2, e_chn3, e_chn4, e_isn, e_isn1, e_isn2, e_and, e_and1, e_and2, e_or, e_or1, e_or2, e_not, e_not1, e_ite, e_ite1, e_ite2, e_tup, e_tup1, e_lst, e_lst1, e_idx, e_idx1, e_idx2, e_slc, e_slc1, e_slc2, e_slc3, e_call, e_call1, e_prim, e_prim1, e_isi, e_isi1, e_isi2, e_meth, e_meth1, e_meth2, e_comp, e_comp1, e_tl, es_nil, es_cons, es_cons1, es_cons2, es_cons3, ep_nil, ep_cons, ep_cons1, eo_no, eo_so, eo_so1, ec_no, ec_so, ei_val, ei_val1, ei_rg, ei_rg1, ei_rg2, ei_rg3, ei_rg4, ei_enm, ei_enm1, ei_zip, ei_zip1, ei_zip2, ei_zip3, ei_rev, ei_rev1, c_nil, x_asg, x_asg1, x_asg2, x_asg3, x_par, x_par1, x_par3, x_par31, x_sub, x_sub1, x_sub2, x_sub3, x_sub4, x_sub5, x_aug, x_aug0, x_aug1, x_aug2, x_augS, x_augS1, x_augS2, x_augS3, x_augS4, x_augS5, x_ret, x_ret1, x_ret2, x_retN, x_ex, x_ex1, x_ex2, x_pass, x_brk, x_cnt, x_if, x_if1, x_if2, x_whl, x_fr, x_fr1, x_rs, x_tr, x_tr1, x_tr2, x_tr3, x_h, x_noX1, x_noX2, x_noX3, xs_nx, xs_rt, xs_bk, xs_ct, xs_ex, f_nil, t_nx, t_rt, t_exc, own_tl, own_int, own_bl, own_non, own_str, own_tup, own_ref, own_fl, xs_nil, xs_cons, start, bindT, bindTs, R.of_some, R.of_none, List.length_cons, List.length_nil, List.map_cons, List.map_nil, List.getElem?_cons_zero, List.getElem?_cons_succ, List.set_cons_zero, List.set_cons_succ, Nat.reduceAdd, Nat.reduceSub, List.cons_append, List.nil_append, List.append_nil, List.replicate, Nat.zero_add, reduceIte, Option.map_some, Option.map_none, fin_same, Bool.not_true, Bool.not_false, Bool.false_eq_true, tyD, primD, binD, sz0, sz1, sz2, sz3, sz4, sz5, sz6, sz7, sz8, nc0, nc1, nc2, nc3, nc4, nc5, nc6, nc7, nc8, Nat.reduceEqDiff, Option.bind_some, Int.reduceLE, Int.reduceLT, Int.reduceEq, Int.reduceToNat, Int.reduceAdd, Int.reduceSub, Int.reduceMul, Int.reduceNeg, Nat.reduceMul, ne_eq, not_false_eq_true, not_true_eq_false, decide_true, decide_false, Bool.and_true, Bool.true_and, Bool.or_false, Bool.false_or, Bool.or_true, Bool.true_or, Bool.and_false, Bool.false_and, beq_self_eq_true, F2, is_count_int h0, cmpD, eqD_int, decide_eq_false hb]
  rw [e3]
  unfold sh
  rw [lo.1, lo.2]
  by_cases q : b < 0
  · rw [if_pos q] at e1 e2
    simp -implicitDefEqProofs only [e_lit, e_var, e_glb, e_bin, e_bin1, e_bin2, e_neg, e_neg1, e_cmp, e_cmp1, e_cmp2, e_chn, e_chn1, e_chn2, e_chn3, e_chn4, e_isn, e_isn1, e_isn2, e_and, e_and1, e_and2, e_or, e_or1, e_or2, e_not, e_not1, e_ite, e_ite1, e_ite2, e_tup, e_tup1, e_lst, e_lst1, e_idx, e_idx1, e_idx2, e_slc, e_slc1, e_slc2, e_slc3, e_call, e_call1, e_prim, e_prim1, e_isi, e_isi1, e_isi2, e_meth, e_meth1, e_meth2, e_comp, e_comp1, e_tl, es_nil, es_cons, es_cons1, es_cons2, es_cons3, ep_nil, ep_cons, ep_cons1, eo_no, eo_so, eo_so1, ec_no, ec_so, ei_val, ei_val1, ei_rg, ei_rg1, ei_rg2, ei_rg3, ei_rg4, ei_enm, ei_enm1, ei_zip, ei_zip1, ei_zip2, ei_zip3, ei_rev, ei_rev1, c_nil, x_asg, x_asg1, x_asg2, x_asg3, x_par, x_par1, x_par3, x_par31, x_sub, x_sub1, x_sub2, x_sub3, x_sub4, x_sub5, x_aug, x_aug0, x_aug1, x_aug2, x_augS, x_augS1, x_augS2, x_augS3, x_augS4, x_augS5, x_ret, x_ret1, x_ret2, x_retN, x_ex, x_ex1, x_ex2, x_pass, x_brk, x_cnt, x_if, x_if1, x_if2, x_whl, x_fr, x_fr1, x_rs, x_tr, x_tr1, x_tr2, x_tr3, x_h, x_noX1, x_noX2, x_noX3, xs_nx, xs_rt, xs_bk, xs_ct, xs_ex, f_nil, t_nx, t_rt, t_exc, own_tl, own_int, own_bl, own_non, own_str, own_tup, own_ref, own_fl, xs_nil, xs_cons, start, bindT, bindTs, R.of_some, R.of_none, List.length_cons, List.length_nil, List.map_cons, List.map_nil, List.getElem?_cons_zero, List.getElem?_cons_succ, List.set_cons_zero, List.set_cons_succ, Nat.reduceAdd, Nat.reduceSub, List.cons_append, List.nil_append, List.append_nil, List.replicate, Nat.zero_add, reduceIte, Option.map_some, Option.map_none, fin_same, Bool.not_true, Bool.not_false, Bool.false_eq_true, tyD, primD, binD, sz0, sz1, sz2, sz3, sz4, sz5, sz6, sz7, sz8, nc0, nc1, nc2, nc3, nc4, nc5, nc6, nc7, nc8, Nat.reduceEqDiff, Option.bind_some, Int.reduceLE, Int.reduceLT, Int.reduceEq, Int.reduceToNat, Int.reduceAdd, Int.reduceSub, Int.reduceMul, Int.reduceNeg, Nat.reduceMul, ne_eq, not_false_eq_true, not_true_eq_false, decide_true, decide_false, Bool.and_true, Bool.true_and, Bool.or_false, Bool.false_or, Bool.or_true, Bool.true_or, Bool.and_false, Bool.false_and, beq_self_eq_true, decide_eq_true q, e1, e2, divisor_ok h1, hdiv]
  · rw [if_neg q] at e1 e2
    subst e1
    have qd : ¬ (d : Int) < 0 := by omega
    simp -implicitDefEqProofs only [e_lit, e_var, e_glb, e_bin, e_bin1, e_bin2, e_neg, e_neg1, e_cmp, e_cmp1, e_cmp2, e_chn, e_chn1, e_chn2, e_chn3, e_chn4, e_isn, e_isn1, e_isn2, e_and, e_and1, e_and2, e_or, e_or1, e_or2, e_not, e_not1, e_ite, e_ite1, e_ite2, e_tup, e_tup1, e_lst, e_lst1, e_idx, e_idx1, e_idx2, e_slc, e_slc1, e_slc2, e_slc3, e_call, e_call1, e_prim, e_prim1, e_isi, e_isi1, e_isi2, e_meth, e_meth1, e_meth2, e_comp, e_comp1, e_tl, es_nil, es_cons, es_cons1, es_cons2, es_cons3, ep_nil, ep_cons, ep_cons1, eo_no, eo_so, eo_so1, ec_no, ec_so, ei_val, ei_val1, ei_rg, ei_rg1, ei_rg2, ei_rg3, ei_rg4, ei_enm, ei_enm1, ei_zip, ei_zip1, ei_zip2, ei_zip3, ei_rev, ei_rev1, c_nil, x_asg, x_asg1, x_asg2, x_asg3, x_par, x_par1, x_par3, x_par31, x_sub, x_sub1, x_sub2, x_sub3, x_sub4, x_sub5, x_aug, x_aug0, x_aug1, x_aug2, x_augS, x_augS1, x_augS2, x_augS3, x_augS4, x_augS5, x_ret, x_ret1, x_ret2, x_retN, x_ex, x_ex1, x_ex2, x_pass, x_brk, x_cnt, x_if, x_if1, x_if2, x_whl, x_fr, x_fr1, x_rs, x_tr, x_tr1, x_tr2, x_tr3, x_h, x_noX1, x_noX2, x_noX3, xs_nx, xs_rt, xs_bk, xs_ct, xs_ex, f_nil, t_nx, t_rt, t_exc, own_tl, own_int, own_bl, own_non, own_str, own_tup, own_ref, own_fl, xs_nil, xs_cons, start, bindT, bindTs, R.of_some, R.of_none, List.length_cons, List.length_nil, List.map_cons, List.map_nil, List.getElem?_cons_zero, List.getElem?_cons_succ, List.set_cons_zero, List.set_cons_succ, Nat.reduceAdd, Nat.reduceSub, List.cons_append, List.nil_append, List.append_nil, List.replicate, Nat.zero_add, reduceIte, Option.map_some, Option.map_none, fin_same, Bool.not_true, Bool.not_false, Bool.false_eq_true, tyD, primD, binD, sz0, sz1, sz2, sz3, sz4, sz5, sz6, sz7, sz8, nc0, nc1, nc2, nc3, nc4, nc5, nc6, nc7, nc8, Nat.reduceEqDiff, Option.bind_some, Int.reduceLE, Int.reduceLT, Int.reduceEq, Int.reduceToNat, Int.reduceAdd, Int.reduceSub, Int.reduceMul, Int.reduceNeg, Nat.reduceMul, ne_eq, not_false_eq_true, not_true_eq_false, decide_true, decide_false, Bool.and_true, Bool.true_and, Bool.or_false, Bool.false_or, Bool.or_true, Bool.true_or, Bool.and_false, Bool.false_and, beq_self_eq_true, decide_eq_false q, e2, decide_eq_false qd, divisor_ok h1, hdiv]
/-! ## sums, products -/
theorem add_di (p q : Rat) : p + q = Rat.divInt (p.num * q.den + q.num * p.den) (p.den * q.den) := by
  have h := Rat.divInt_add_divInt p.num q.num (d₁ := p.den) (d₂ := q.den) (by have := p.den_nz; omega) (by have := q.den_nz; omega)
  rw [Rat.num_divInt_den, Rat.num_divInt_den] at h
  exact h
theorem sub_di (p q : Rat) : p - q = Rat.divInt (p.num * q.den - q.num * p.den) (p.den * q.den) := by
  have h := Rat.divInt_sub_divInt p.num q.num (d₁ := p.den) (d₂ := q.den) (by have := p.den_nz; omega) (by have := q.den_nz; omega)
  rw [Rat.num_divInt_den, Rat.num_divInt_den] at h
  exact h
theorem mul_di (p q : Rat) : p * q = Rat.divInt (p.num * q.num) (p.den * q.den) := by
  have h := Rat.divInt_mul_divInt p.num q.num (d₁ := p.den) (d₂ := q.den)
  rw [Rat.num_divInt_den, Rat.num_divInt_den] at h
  exact h
theorem div_di (p q : Rat) : p / q = Rat.divInt (p.num * q.den) (p.den * q.num) := by
  have h := Rat.divInt_mul_divInt p.num q.den (d₁ := p.den) (d₂ := q.num)
  rw [Rat.num_divInt_den, ← Rat.inv_divInt, Rat.num_divInt_den] at h
  rw [Rat.div_def]
  exact h
theorem B_mono {n m : Nat} {q : Rat} (h : B n q) (hm : n ≤ m) : B m q := ⟨Nat.le_trans h.1 (Nat.pow_le_pow_right (by decide) hm), Nat.le_trans h.2 (Nat.pow_le_pow_right (by decide) hm)⟩
section
variable {n m : Nat} {p q : Rat}
theorem mul_le2 {a b : Int} (h1 : a.natAbs ≤ 2 ^ n) (h2 : b.natAbs ≤ 2 ^ m) : (a * b).natAbs ≤ 2 ^ (n + m) := by
  rw [Int.natAbs_mul, Nat.pow_add]
  exact Nat.mul_le_mul h1 h2
theorem B.den (h : B n q) : ((q.den : Int)).natAbs ≤ 2 ^ n := by have := h.2; omega
theorem pow_succ2 : (2 : Nat) ^ (n + 1) = 2 ^ n + 2 ^ n := by rw [Nat.pow_succ]; omega
theorem B.addN (hp : B n p) (hq : B m q) : (p.num * q.den + q.num * p.den).natAbs ≤ 2 ^ (n + m + 1) := by
  have h1 := mul_le2 hp.1 hq.den
  have h2 := mul_le2 hq.1 hp.den
  rw [Nat.add_comm m n] at h2
  rw [pow_succ2]
  omega
theorem B.subN (hp : B n p) (hq : B m q) : (p.num * q.den - q.num * p.den).natAbs ≤ 2 ^ (n + m + 1) := by
  have h1 := mul_le2 hp.1 hq.den
  have h2 := mul_le2 hq.1 hp.den
  rw [Nat.add_comm m n] at h2
  rw [pow_succ2]
  omega
theorem dens_ne (p q : Rat) : (p.den : Int) * q.den ≠ 0 := by
  have := p.den_nz
  have := q.den_nz
  exact Int.mul_ne_zero (by omega) (by omega)
theorem B.add (hp : B n p) (hq : B m q) : B (n + m + 1) (p + q) := by
  rw [add_di]
  refine B_divInt (B.addN hp hq) ?_ (dens_ne p q)
  have := mul_le2 hp.den hq.den
  rw [pow_succ2]; omega
theorem B.sub (hp : B n p) (hq : B m q) : B (n + m + 1) (p - q) := by
  rw [sub_di]
  refine B_divInt (B.subN hp hq) ?_ (dens_ne p q)
  have := mul_le2 hp.den hq.den
  rw [pow_succ2]; omega
theorem B.mul (hp : B n p) (hq : B m q) : B (n + m) (p * q) := by
  rw [mul_di]
  exact B_divInt (mul_le2 hp.1 hq.1) (mul_le2 hp.den hq.den) (dens_ne p q)
theorem num_ne {q : Rat} (h : q ≠ 0) : q.num ≠ 0 := fun e => h (Rat.num_eq_zero.mp e)
theorem B.div (hp : B n p) (hq : B m q) (h : q ≠ 0) : B (n + m) (p / q) := by
  rw [div_di]
  refine B_divInt (mul_le2 hp.1 hq.den) (mul_le2 hp.den hq.1) (Int.mul_ne_zero ?_ (num_ne h))
  have := p.den_nz; omega
theorem B.neg (hp : B n p) : B n (-p) := ⟨by rw [Rat.neg_num]; have := hp.1; omega, by rw [Rat.neg_den]; exact hp.2⟩
end
/-! ## the program's sums -/
structure HSh0 (Γ : Nat → Option Fd) : Prop where
  h0 : Γ 0 = some F0
  h1 : Γ 1 = some F1
structure HShr (Γ : Nat → Option Fd) : Prop extends HSh0 Γ where
  h2 : Γ 2 = some F2
section
variable {n m : Nat} {p q : Rat}
theorem plus_ok (g : HShr Γ) (h : Γ 3 = some F3) (hp : B n p) (hq : B m q) (hn : n + m < 9000) : callN Γ (k + 3) 3 [sh p, sh q] η = .ok (sh (p + q)) η := by
  have m1 : mulOk p.num q.den = true := mulOk_of hp.1 hq.den (by omega)
  have m2 : mulOk q.num p.den = true := mulOk_of hq.1 hp.den (by omega)
  have m3 : mulOk p.den q.den = true := mulOk_of hp.den hq.den (by omega)
  have mk := make_ok (k := k) (η := η) g.h2 g.h0 g.h1 (a := p.num * q.den + q.num * p.den) (dens_ne p q) (mul_le2 hp.den hq.den) hn
  rw [← add_di] at mk
  rw [call_eq h rfl]
  unfold sh at mk ⊢
  simp -implicitDefEqProofs only [e_lit, e_var, e_glb, e_bin, e_bin1, e_bin2, e_neg, e_neg1, e_cmp, e_cmp1, e_cmp2, e_chn, e_chn1, e_chn2, e_chn3, e_chn4, e_isn, e_isn1, e_isn2, e_and, e_and1, e_and2, e_or, e_or1, e_or2, e_not, e_not1, e_ite, e_ite1, e_ite2, e_tup, e_tup1, e_lst, e_lst1, e_idx, e_idx1, e_idx2, e_slc, e_slc1, e_slc2, e_slc3, e_call, e_call1, e_prim, e_prim1, e_isi, e_isi1, e_isi2, e_meth, e_meth1, e_meth2, e_comp, e_comp1, e_tl, es_nil, es_cons, es_cons1, es_cons2, es_cons3, ep_nil, ep_cons, ep_cons1, eo_no, eo_so, eo_so1, ec_no, ec_so, ei_val, ei_val1, ei_rg, ei_rg1, ei_rg2, ei_rg3, ei_rg4, ei_enm, ei_enm1, ei_zip, ei_zip1, ei_zip2, ei_zip3, ei_rev, ei_rev1, c_nil, x_asg, x_asg1, x_asg2, x_asg3, x_par, x_par1, x_par3, x_par31, x_sub, x_sub1, x_sub2, x_sub3, x_sub4, x_sub5, x_aug, x_aug0, x_aug1, x_aug2, x_augS, x_augS1, x_augS2, x_augS3, x_augS4, x_augS5, x_ret, x_ret1, x_ret2, x_retN, x_ex, x_ex1, x_ex2, x_pass, x_brk, x_cnt, x_if, x_if1, x_if2, x_whl, x_fr, x_fr1, x_rs, x_tr, x_tr1, x_tr2, x_tr3, x_h, x_noX1, x_noX2, x_noX3, xs_nx, xs_rt, xs_bk, xs_ct, xs_ex, f_nil, t_nx, t_rt, t_exc, own_tl, own_int, own_bl, own_non, own_str, own_tup, own_ref, own_fl, xs_nil, xs_cons, start, bindT, bindTs, R.of_some, R.of_none, List.length_cons, List.length_nil, List.map_cons, List.map_nil, List.getElem?_cons_zero, List.getElem?_cons_succ, List.set_cons_zero, List.set_cons_succ, Nat.reduceAdd, Nat.reduceSub, List.cons_append, List.nil_append, List.append_nil, List.replicate, Nat.zero_add, reduceIte, Option.map_some, Option.map_none, fin_same, Bool.not_true, Bool.not_false, Bool.false_eq_true, tyD, primD, binD, sz0, sz1, sz2, sz3, sz4, sz5, sz6, sz7, sz8, nc0, nc1, nc2, nc3, nc4, nc5, nc6, nc7, nc8, Nat.reduceEqDiff, Option.bind_some, Int.reduceLE, Int.reduceLT, Int.reduceEq, Int.reduceToNat, Int.reduceAdd, Int.reduceSub, Int.reduceMul, Int.reduceNeg, Nat.reduceMul, ne_eq, not_false_eq_true, not_true_eq_false, decide_true, decide_false, Bool.and_true, Bool.true_and, Bool.or_false, Bool.false_or, Bool.or_true, Bool.true_or, Bool.and_false, Bool.false_and, beq_self_eq_true, F3, idx_tup, at0, at1, m1, m2, m3, mk]
theorem over_ne (p : Rat) {q : Rat} (h : q ≠ 0) : (p.den : Int) * q.num ≠ 0 := Int.mul_ne_zero (by have := p.den_nz; omega) (num_ne h)
theorem times_ok (g : HShr Γ) (h : Γ 4 = some F4) (hp : B n p) (hq : B m q) (hn : n + m < 9000) : callN Γ (k + 3) 4 [sh p, sh q] η = .ok (sh (p * q)) η := by
  have m1 : mulOk p.num q.num = true := mulOk_of hp.1 hq.1 (by omega)
  have m2 : mulOk p.den q.den = true := mulOk_of hp.den hq.den (by omega)
  have mk := make_ok (k := k) (η := η) g.h2 g.h0 g.h1 (a := p.num * q.num) (dens_ne p q) (mul_le2 hp.den hq.den) hn
  rw [← mul_di] at mk
  rw [call_eq h rfl]
  unfold sh at mk ⊢
  simp -implicitDefEqProofs only [e_lit, e_var, e_glb, e_bin, e_bin1, e_bin2, e_neg, e_neg1, e_cmp, e_cmp1, e_cmp2, e_chn, e_chn1, e_chn2, e_chn3, e_chn4, e_isn, e_isn1, e_isn2, e_and, e_and1, e_and2, e_or, e_or1, e_or2, e_not, e_not1, e_ite, e_ite1, e_ite2, e_tup, e_tup1, e_lst, e_lst1, e_idx, e_idx1, e_idx2, e_slc, e_slc1, e_slc2, e_slc3, e_call, e_call1, e_prim, e_prim1, e_isi, e_isi1, e_isi2, e_meth, e_meth1, e_meth2, e_comp, e_comp1, e_tl, es_nil, es_cons, es_cons1, es_cons2, es_cons3, ep_nil, ep_cons, ep_cons1, eo_no, eo_so, eo_so1, ec_no, ec_so, ei_val, ei_val1, ei_rg, ei_rg1, ei_rg2, ei_rg3, ei_rg4, ei_enm, ei_enm1, ei_zip, ei_zip1, ei_zip2, ei_zip3, ei_rev, ei_rev1, c_nil, x_asg, x_asg1, x_asg2, x_asg3, x_par, x_par1, x_par3, x_par31, x_sub, x_sub1, x_sub2, x_sub3, x_sub4, x_sub5, x_aug, x_aug0, x_aug1, x_aug2, x_augS, x_augS1, x_augS2, x_augS3, x_augS4, x_augS5, x_ret, x_ret1, x_ret2, x_retN, x_ex, x_ex1, x_ex2, x_pass, x_brk, x_cnt, x_if, x_if1, x_if2, x_whl, x_fr, x_fr1, x_rs, x_tr, x_tr1, x_tr2, x_tr3, x_h, x_noX1, x_noX2, x_noX3, xs_nx, xs_rt, xs_bk, xs_ct, xs_ex, f_nil, t_nx, t_rt, t_exc, own_tl, own_int, own_bl, own_non, own_str, own_tup, own_ref, own_fl, xs_nil, xs_cons, start, bindT, bindTs, R.of_some, R.of_none, List.length_cons, List.length_nil, List.map_cons, List.map_nil, List.getElem?_cons_zero, List.getElem?_cons_succ, List.set_cons_zero, List.set_cons_succ, Nat.reduceAdd, Nat.reduceSub, List.cons_append, List.nil_append, List.append_nil, List.replicate, Nat.zero_add, reduceIte, Option.map_some, Option.map_none, fin_same, Bool.not_true, Bool.not_false, Bool.false_eq_true, tyD, primD, binD, sz0, sz1, sz2, sz3, sz4, sz5, sz6, sz7, sz8, nc0, nc1, nc2, nc3, nc4, nc5, nc6, nc7, nc8, Nat.reduceEqDiff, Option.bind_some, Int.reduceLE, Int.reduceLT, Int.reduceEq, Int.reduceToNat, Int.reduceAdd, Int.reduceSub, Int.reduceMul, Int.reduceNeg, Nat.reduceMul, ne_eq, not_false_eq_true, not_true_eq_false, decide_true, decide_false, Bool.and_true, Bool.true_and, Bool.or_false, Bool.false_or, Bool.or_true, Bool.true_or, Bool.and_false, Bool.false_and, beq_self_eq_true, F4, idx_tup, at0, at1, m1, m2, mk]
theorem minus_ok (g : HShr Γ) (h : Γ 32 = some F32) (hp : B n p) (hq : B m q) (hn : n + m < 9000) : callN Γ (k + 3) 32 [sh p, sh q] η = .ok (sh (p - q)) η := by
  have m1 : mulOk p.num q.den = true := mulOk_of hp.1 hq.den (by omega)
  have m2 : mulOk q.num p.den = true := mulOk_of hq.1 hp.den (by omega)
  have m3 : mulOk p.den q.den = true := mulOk_of hp.den hq.den (by omega)
  have mk := make_ok (k := k) (η := η) g.h2 g.h0 g.h1 (a := p.num * q.den - q.num * p.den) (dens_ne p q) (mul_le2 hp.den hq.den) hn
  rw [← sub_di] at mk
  rw [call_eq h rfl]
  unfold sh at mk ⊢
  simp -implicitDefEqProofs only [e_lit, e_var, e_glb, e_bin, e_bin1, e_bin2, e_neg, e_neg1, e_cmp, e_cmp1, e_cmp2, e_chn, e_chn1, e_chn2, e_chn3, e_chn4, e_isn, e_isn1, e_isn2, e_and, e_and1, e_and2, e_or, e_or1, e_or2, e_not, e_not1, e_ite, e_ite1, e_ite2, e_tup, e_tup1, e_lst, e_lst1, e_idx, e_idx1, e_idx2, e_slc, e_slc1, e_slc2, e_slc3, e_call, e_call1, e_prim, e_prim1, e_isi, e_isi1, e_isi2, e_meth, e_meth1, e_meth2, e_comp, e_comp1, e_tl, es_nil, es_cons, es_cons1, es_cons2, es_cons3, ep_nil, ep_cons, ep_cons1, eo_no, eo_so, eo_so1, ec_no, ec_so, ei_val, ei_val1, ei_rg, ei_rg1, ei_rg2, ei_rg3, ei_rg4, ei_enm, ei_enm1, ei_zip, ei_zip1, ei_zip2, ei_zip3, ei_rev, ei_rev1, c_nil, x_asg, x_asg1, x_asg2, x_asg3, x_par, x_par1, x_par3, x_par31, x_sub, x_sub1, x_sub2, x_sub3, x_sub4, x_sub5, x_aug, x_aug0, x_aug1, x_aug2, x_augS, x_augS1, x_augS2, x_augS3, x_augS4, x_augS5, x_ret, x_ret1, x_ret2, x_retN, x_ex, x_ex1, x_ex2, x_pass, x_brk, x_cnt, x_if, x_if1, x_if2, x_whl, x_fr, x_fr1, x_rs, x_tr, x_tr1, x_tr2, x_tr3, x_h, x_noX1, x_noX2, x_noX3, xs_nx, xs_rt, xs_bk, xs_ct, xs_ex, f_nil, t_nx, t_rt, t_exc, own_tl, own_int, own_bl, own_non, own_str, own_tup, own_ref, own_fl, xs_nil, xs_cons, start, bindT, bindTs, R.of_some, R.of_none, List.length_cons, List.length_nil, List.map_cons, List.map_nil, List.getElem?_cons_zero, List.getElem?_cons_succ, List.set_cons_zero, List.set_cons_succ, Nat.reduceAdd, Nat.reduceSub, List.cons_append, List.nil_append, List.append_nil, List.replicate, Nat.zero_add, reduceIte, Option.map_some, Option.map_none, fin_same, Bool.not_true, Bool.not_false, Bool.false_eq_true, tyD, primD, binD, sz0, sz1, sz2, sz3, sz4, sz5, sz6, sz7, sz8, nc0, nc1, nc2, nc3, nc4, nc5, nc6, nc7, nc8, Nat.reduceEqDiff, Option.bind_some, Int.reduceLE, Int.reduceLT, Int.reduceEq, Int.reduceToNat, Int.reduceAdd, Int.reduceSub, Int.reduceMul, Int.reduceNeg, Nat.reduceMul, ne_eq, not_false_eq_true, not_true_eq_false, decide_true, decide_false, Bool.and_true, Bool.true_and, Bool.or_false, Bool.false_or, Bool.or_true, Bool.true_or, Bool.and_false, Bool.false_and, beq_self_eq_true, F32, idx_tup, at0, at1, m1, m2, m3, mk]
theorem over_ok (g : HShr Γ) (h : Γ 33 = some F33) (hp : B n p) (hq : B m q) (h0 : q ≠ 0) (hn : n + m < 9000) : callN Γ (k + 3) 33 [sh p, sh q] η = .ok (sh (p / q)) η := by
  have m1 : mulOk p.num q.den = true := mulOk_of hp.1 hq.den (by omega)
  have m2 : mulOk p.den q.num = true := mulOk_of hp.den hq.1 (by omega)
  have mk := make_ok (k := k) (η := η) g.h2 g.h0 g.h1 (a := p.num * q.den) (over_ne p h0) (mul_le2 hp.den hq.1) hn
  rw [← div_di] at mk
  rw [call_eq h rfl]
  unfold sh at mk ⊢
  simp -implicitDefEqProofs only [e_lit, e_var, e_glb, e_bin, e_bin1, e_bin2, e_neg, e_neg1, e_cmp, e_cmp1, e_cmp2, e_chn, e_chn1, e_chn2, e_chn3, e_chn4, e_isn, e_isn1, e_isn2, e_and, e_and1, e_and2, e_or, e_or1, e_or2, e_not, e_not1, e_ite, e_ite1, e_ite2, e_tup, e_tup1, e_lst, e_lst1, e_idx, e_idx1, e_idx2, e_slc, e_slc1, e_slc2, e_slc3, e_call, e_call1, e_prim, e_prim1, e_isi, e_isi1, e_isi2, e_meth, e_meth1, e_meth2, e_comp, e_comp1, e_tl, es_nil, es_cons, es_cons1, es_cons2, es_cons3, ep_nil, ep_cons, ep_cons1, eo_no, eo_so, eo_so1, ec_no, ec_so, ei_val, ei_val1, ei_rg, ei_rg1, ei_rg2, ei_rg3, ei_rg4, ei_enm, ei_enm1, ei_zip, ei_zip1, ei_zip2, ei_zip3, ei_rev, ei_rev1, c_nil, x_asg, x_asg1, x_asg2, x_asg3, x_par, x_par1, x_par3, x_par31, x_sub, x_sub1, x_sub2, x_sub3, x_sub4, x_sub5, x_aug, x_aug0, x_aug1, x_aug2, x_augS, x_augS1, x_augS2, x_augS3, x_augS4, x_augS5, x_ret, x_ret1, x_ret2, x_retN, x_ex, x_ex1, x_ex2, x_pass, x_brk, x_cnt, x_if, x_if1, x_if2, x_whl, x_fr, x_fr1, x_rs, x_tr, x_tr1, x_tr2, x_tr3, x_h, x_noX1, x_noX2, x_noX3, xs_nx, xs_rt, xs_bk, xs_ct, xs_ex, f_nil, t_nx, t_rt, t_exc, own_tl, own_int, own_bl, own_non, own_str, own_tup, own_ref, own_fl, xs_nil, xs_cons, start, bindT, bindTs, R.of_some, R.of_none, List.length_cons, List.length_nil, List.map_cons, List.map_nil, List.getElem?_cons_zero, List.getElem?_cons_succ, List.set_cons_zero, List.set_cons_succ, Nat.reduceAdd, Nat.reduceSub, List.cons_append, List.nil_append, List.append_nil, List.replicate, Nat.zero_add, reduceIte, Option.map_some, Option.map_none, fin_same, Bool.not_true, Bool.not_false, Bool.false_eq_true, tyD, primD, binD, sz0, sz1, sz2, sz3, sz4, sz5, sz6, sz7, sz8, nc0, nc1, nc2, nc3, nc4, nc5, nc6, nc7, nc8, Nat.reduceEqDiff, Option.bind_some, Int.reduceLE, Int.reduceLT, Int.reduceEq, Int.reduceToNat, Int.reduceAdd, Int.reduceSub, Int.reduceMul, Int.reduceNeg, Nat.reduceMul, ne_eq, not_false_eq_true, not_true_eq_false, decide_true, decide_false, Bool.and_true, Bool.true_and, Bool.or_false, Bool.false_or, Bool.or_true, Bool.true_or, Bool.and_false, Bool.false_and, beq_self_eq_true, F33, idx_tup, at0, at1, m1, m2, mk]
theorem negative_ok (h : Γ 61 = some F61) (q : Rat) : callN Γ (k + 1) 61 [sh q] η = .ok (sh (-q)) η := by
  rw [call_eq h rfl]
  unfold sh
  simp -implicitDefEqProofs only [e_lit, e_var, e_glb, e_bin, e_bin1, e_bin2, e_neg, e_neg1, e_cmp, e_cmp1, e_cmp2, e_chn, e_chn1, e_chn2, e_chn3, e_chn4, e_isn, e_isn1, e_isn2, e_and, e_and1, e_and2, e_or, e_or1, e_or2, e_not, e_not1, e_ite, e_ite1, e_ite2, e_tup, e_tup1, e_lst, e_lst1, e_idx, e_idx1, e_idx2, e_slc, e_slc1, e_slc2, e_slc3, e_call, e_call1, e_prim, e_prim1, e_isi, e_isi1, e_isi2, e_meth, e_meth1, e_meth2, e_comp, e_comp1, e_tl, es_nil, es_cons, es_cons1, es_cons2, es_cons3, ep_nil, ep_cons, ep_cons1, eo_no, eo_so, eo_so1, ec_no, ec_so, ei_val, ei_val1, ei_rg, ei_rg1, ei_rg2, ei_rg3, ei_rg4, ei_enm, ei_enm1, ei_zip, ei_zip1, ei_zip2, ei_zip3, ei_rev, ei_rev1, c_nil, x_asg, x_asg1, x_asg2, x_asg3, x_par, x_par1, x_par3, x_par31, x_sub, x_sub1, x_sub2, x_sub3, x_sub4, x_sub5, x_aug, x_aug0, x_aug1, x_aug2, x_augS, x_augS1, x_augS2, x_augS3, x_augS4, x_augS5, x_ret, x_ret1, x_ret2, x_retN, x_ex, x_ex1, x_ex2, x_pass, x_brk, x_cnt, x_if, x_if1, x_if2, x_whl, x_fr, x_fr1, x_rs, x_tr, x_tr1, x_tr2, x_tr3, x_h, x_noX1, x_noX2, x_noX3, xs_nx, xs_rt, xs_bk, xs_ct, xs_ex, f_nil, t_nx, t_rt, t_exc, own_tl, own_int, own_bl, own_non, own_str, own_tup, own_ref, own_fl, xs_nil, xs_cons, start, bindT, bindTs, R.of_some, R.of_none, List.length_cons, List.length_nil, List.map_cons, List.map_nil, List.getElem?_cons_zero, List.getElem?_cons_succ, List.set_cons_zero, List.set_cons_succ, Nat.reduceAdd, Nat.reduceSub, List.cons_append, List.nil_append, List.append_nil, List.replicate, Nat.zero_add, reduceIte, Option.map_some, Option.map_none, fin_same, Bool.not_true, Bool.not_false, Bool.false_eq_true, tyD, primD, binD, sz0, sz1, sz2, sz3, sz4, sz5, sz6, sz7, sz8, nc0, nc1, nc2, nc3, nc4, nc5, nc6, nc7, nc8, Nat.reduceEqDiff, Option.bind_some, Int.reduceLE, Int.reduceLT, Int.reduceEq, Int.reduceToNat, Int.reduceAdd, Int.reduceSub, Int.reduceMul, Int.reduceNeg, Nat.reduceMul, ne_eq, not_false_eq_true, not_true_eq_false, decide_true, decide_false, Bool.and_true, Bool.true_and, Bool.or_false, Bool.false_or, Bool.or_true, Bool.true_or, Bool.and_false, Bool.false_and, beq_self_eq_true, F61, idx_tup, at0, at1, Rat.neg_num, Rat.neg_den]
theorem less_ok (h : Γ 69 = some F69) (hp : B n p) (hq : B m q) (hn : n + m < 9000) : callN Γ (k + 1) 69 [sh p, sh q] η = .ok (.bl (decide (p < q))) η := by
  have m1 : mulOk p.num q.den = true := mulOk_of hp.1 hq.den (by omega)
  have m2 : mulOk q.num p.den = true := mulOk_of hq.1 hp.den (by omega)
  have e : decide (p.num * q.den < q.num * p.den) = decide (p < q) := by
    rw [decide_eq_decide]; exact (Rat.lt_iff p q).symm
  rw [call_eq h rfl]
  unfold sh
  simp -implicitDefEqProofs only [e_lit, e_var, e_glb, e_bin, e_bin1, e_bin2, e_neg, e_neg1, e_cmp, e_cmp1, e_cmp2, e_chn, e_chn1, e_chn2, e_chn3, e_chn4, e_isn, e_isn1, e_isn2, e_and, e_and1, e_and2, e_or, e_or1, e_or2, e_not, e_not1, e_ite, e_ite1, e_ite2, e_tup, e_tup1, e_lst, e_lst1, e_idx, e_idx1, e_idx2, e_slc, e_slc1, e_slc2, e_slc3, e_call, e_call1, e_prim, e_prim1, e_isi, e_isi1, e_isi2, e_meth, e_meth1, e_meth2, e_comp, e_comp1, e_tl, es_nil, es_cons, es_cons1, es_cons2, es_cons3, ep_nil, ep_cons, ep_cons1, eo_no, eo_so, eo_so1, ec_no, ec_so, ei_val, ei_val1, ei_rg, ei_rg1, ei_rg2, ei_rg3, ei_rg4, ei_enm, ei_enm1, ei_zip, ei_zip1, ei_zip2, ei_zip3, ei_rev, ei_rev1, c_nil, x_asg, x_asg1, x_asg2, x_asg3, x_par, x_par1, x_par3, x_par31, x_sub, x_sub1, x_sub2, x_sub3, x_sub4, x_sub5, x_aug, x_aug0, x_aug1, x_aug2, x_augS, x_augS1, x_augS2, x_augS3, x_augS4, x_augS5, x_ret, x_ret1, x_ret2, x_retN, x_ex, x_ex1, x_ex2, x_pass, x_brk, x_cnt, x_if, x_if1, x_if2, x_whl, x_fr, x_fr1, x_rs, x_tr, x_tr1, x_tr2, x_tr3, x_h, x_noX1, x_noX2, x_noX3, xs_nx, xs_rt, xs_bk, xs_ct, xs_ex, f_nil, t_nx, t_rt, t_exc, own_tl, own_int, own_bl, own_non, own_str, own_tup, own_ref, own_fl, xs_nil, xs_cons, start, bindT, bindTs, R.of_some, R.of_none, List.length_cons, List.length_nil, List.map_cons, List.map_nil, List.getElem?_cons_zero, List.getElem?_cons_succ, List.set_cons_zero, List.set_cons_succ, Nat.reduceAdd, Nat.reduceSub, List.cons_append, List.nil_append, List.append_nil, List.replicate, Nat.zero_add, reduceIte, Option.map_some, Option.map_none, fin_same, Bool.not_true, Bool.not_false, Bool.false_eq_true, tyD, primD, binD, sz0, sz1, sz2, sz3, sz4, sz5, sz6, sz7, sz8, nc0, nc1, nc2, nc3, nc4, nc5, nc6, nc7, nc8, Nat.reduceEqDiff, Option.bind_some, Int.reduceLE, Int.reduceLT, Int.reduceEq, Int.reduceToNat, Int.reduceAdd, Int.reduceSub, Int.reduceMul, Int.reduceNeg, Nat.reduceMul, ne_eq, not_false_eq_true, not_true_eq_false, decide_true, decide_false, Bool.and_true, Bool.true_and, Bool.or_false, Bool.false_or, Bool.or_true, Bool.true_or, Bool.and_false, Bool.false_and, beq_self_eq_true, F69, idx_tup, at0, at1, m1, m2, cmpD, e]
theorem is_share_ok (g : HSh0 Γ) (h : Γ 60 = some F60) (q : Rat) : callN Γ (k + 2) 60 [sh q] η = .ok (.bl true) η := by
  have hg : Int.gcd q.num q.den = 1 := q.reduced
  have hd : (0 : Int) < q.den := by have := q.den_nz; omega
  rw [call_eq h rfl]
  unfold sh
  simp -implicitDefEqProofs only [e_lit, e_var, e_glb, e_bin, e_bin1, e_bin2, e_neg, e_neg1, e_cmp, e_cmp1, e_cmp2, e_chn, e_chn1, e_chn2, e_chn3, e_chn4, e_isn, e_isn1, e_isn2, e_and, e_and1, e_and2, e_or, e_or1, e_or2, e_not, e_not1, e_ite, e_ite1, e_ite2, e_tup, e_tup1, e_lst, e_lst1, e_idx, e_idx1, e_idx2, e_slc, e_slc1, e_slc2, e_slc3, e_call, e_call1, e_prim, e_prim1, e_isi, e_isi1, e_isi2, e_meth, e_meth1, e_meth2, e_comp, e_comp1, e_tl, es_nil, es_cons, es_cons1, es_cons2, es_cons3, ep_nil, ep_cons, ep_cons1, eo_no, eo_so, eo_so1, ec_no, ec_so, ei_val, ei_val1, ei_rg, ei_rg1, ei_rg2, ei_rg3, ei_rg4, ei_enm, ei_enm1, ei_zip, ei_zip1, ei_zip2, ei_zip3, ei_rev, ei_rev1, c_nil, x_asg, x_asg1, x_asg2, x_asg3, x_par, x_par1, x_par3, x_par31, x_sub, x_sub1, x_sub2, x_sub3, x_sub4, x_sub5, x_aug, x_aug0, x_aug1, x_aug2, x_augS, x_augS1, x_augS2, x_augS3, x_augS4, x_augS5, x_ret, x_ret1, x_ret2, x_retN, x_ex, x_ex1, x_ex2, x_pass, x_brk, x_cnt, x_if, x_if1, x_if2, x_whl, x_fr, x_fr1, x_rs, x_tr, x_tr1, x_tr2, x_tr3, x_h, x_noX1, x_noX2, x_noX3, xs_nx, xs_rt, xs_bk, xs_ct, xs_ex, f_nil, t_nx, t_rt, t_exc, own_tl, own_int, own_bl, own_non, own_str, own_tup, own_ref, own_fl, xs_nil, xs_cons, start, bindT, bindTs, R.of_some, R.of_none, List.length_cons, List.length_nil, List.map_cons, List.map_nil, List.getElem?_cons_zero, List.getElem?_cons_succ, List.set_cons_zero, List.set_cons_succ, Nat.reduceAdd, Nat.reduceSub, List.cons_append, List.nil_append, List.append_nil, List.replicate, Nat.zero_add, reduceIte, Option.map_some, Option.map_none, fin_same, Bool.not_true, Bool.not_false, Bool.false_eq_true, tyD, primD, binD, sz0, sz1, sz2, sz3, sz4, sz5, sz6, sz7, sz8, nc0, nc1, nc2, nc3, nc4, nc5, nc6, nc7, nc8, Nat.reduceEqDiff, Option.bind_some, Int.reduceLE, Int.reduceLT, Int.reduceEq, Int.reduceToNat, Int.reduceAdd, Int.reduceSub, Int.reduceMul, Int.reduceNeg, Nat.reduceMul, ne_eq, not_false_eq_true, not_true_eq_false, decide_true, decide_false, Bool.and_true, Bool.true_and, Bool.or_false, Bool.false_or, Bool.or_true, Bool.true_or, Bool.and_false, Bool.false_and, beq_self_eq_true, F60, idx_tup, at0, at1, is_count_int g.h0, divisor_ok g.h1, cmpD, eqD_int, hg, seqAny, decide_eq_true hd]
/-! ## the laws' sums -/
structure HLaw (Γ : Nat → Option Fd) : Prop where
  h25 : Γ 25 = some F25
theorem lmake_ok (h : Γ 25 = some F25) {a b : Int} (hb : b ≠ 0) {n : Nat} (hs : b.natAbs ≤ 2 ^ n) (hn : n < 9000) : callN Γ (k + 1) 25 [.int a, .int b] η = .ok (sh (Rat.divInt a b)) η := by
  obtain ⟨a', d, hd, e1, e2, e3, e4, e5⟩ := divInt_low a b hb
  have hdiv := gcd_div (a := a') hd (by omega) hn
  have lo := low a' hd
  have gl : Nat.gcd a'.natAbs d = Int.gcd a' d := rfl
  rw [call_eq h rfl]
  simp -implicitDefEqProofs only [e_lit, e_var, e_glb, e_bin, e_bin1, e_bin2, e_neg, e_neg1, e_cmp, e_cmp1, e_cmp2, e_chn, e_chn1, e_chn2, e_chn3, e_chn4, e_isn, e_isn1, e_isn2, e_and, e_and1, e_and2, e_or, e_or1, e_or2, e_not, e_not1, e_ite, e_ite1, e_ite2, e_tup, e_tup1, e_lst, e_lst1, e_idx, e_idx1, e_idx2, e_slc, e_slc1, e_slc2, e_slc3, e_call, e_call1, e_prim, e_prim1, e_isi, e_isi1, e_isi2, e_meth, e_meth1, e_meth2, e_comp, e_comp1, e_tl, es_nil, es_cons, es_cons1, es_cons2, es_cons3, ep_nil, ep_cons, ep_cons1, eo_no, eo_so, eo_so1, ec_no, ec_so, ei_val, ei_val1, ei_rg, ei_rg1, ei_rg2, ei_rg3, ei_rg4, ei_enm, ei_enm1, ei_zip, ei_zip1, ei_zip2, ei_zip3, ei_rev, ei_rev1, c_nil, x_asg, x_asg1, x_asg2, x_asg3, x_par, x_par1, x_par3, x_par31, x_sub, x_sub1, x_sub2, x_sub3, x_sub4, x_sub5, x_aug, x_aug0, x_aug1, x_aug2, x_augS, x_augS1, x_augS2, x_augS3, x_augS4, x_augS5, x_ret, x_ret1, x_ret2, x_retN, x_ex, x_ex1, x_ex2, x_pass, x_brk, x_cnt, x_if, x_if1, x_if2, x_whl, x_fr, x_fr1, x_rs, x_tr, x_tr1, x_tr2, x_tr3, x_h, x_noX1, x_noX2, x_noX3, xs_nx, xs_rt, xs_bk, xs_ct, xs_ex, f_nil, t_nx, t_rt, t_exc, own_tl, own_int, own_bl, own_non, own_str, own_tup, own_ref, own_fl, xs_nil, xs_cons, start, bindT, bindTs, R.of_some, R.of_none, List.length_cons, List.length_nil, List.map_cons, List.map_nil, List.getElem?_cons_zero, List.getElem?_cons_succ, List.set_cons_zero, List.set_cons_succ, Nat.reduceAdd, Nat.reduceSub, List.cons_append, List.nil_append, List.append_nil, List.replicate, Nat.zero_add, reduceIte, Option.map_some, Option.map_none, fin_same, Bool.not_true, Bool.not_false, Bool.false_eq_true, tyD, primD, binD, sz0, sz1, sz2, sz3, sz4, sz5, sz6, sz7, sz8, nc0, nc1, nc2, nc3, nc4, nc5, nc6, nc7, nc8, Nat.reduceEqDiff, Option.bind_some, Int.reduceLE, Int.reduceLT, Int.reduceEq, Int.reduceToNat, Int.reduceAdd, Int.reduceSub, Int.reduceMul, Int.reduceNeg, Nat.reduceMul, ne_eq, not_false_eq_true, not_true_eq_false, decide_true, decide_false, Bool.and_true, Bool.true_and, Bool.or_false, Bool.false_or, Bool.or_true, Bool.true_or, Bool.and_false, Bool.false_and, beq_self_eq_true, F25, cmpD]
  rw [e3]
  unfold sh
  rw [lo.1, lo.2]
  by_cases q : b < 0
  · rw [if_pos q] at e1 e2
    simp -implicitDefEqProofs only [e_lit, e_var, e_glb, e_bin, e_bin1, e_bin2, e_neg, e_neg1, e_cmp, e_cmp1, e_cmp2, e_chn, e_chn1, e_chn2, e_chn3, e_chn4, e_isn, e_isn1, e_isn2, e_and, e_and1, e_and2, e_or, e_or1, e_or2, e_not, e_not1, e_ite, e_ite1, e_ite2, e_tup, e_tup1, e_lst, e_lst1, e_idx, e_idx1, e_idx2, e_slc, e_slc1, e_slc2, e_slc3, e_call, e_call1, e_prim, e_prim1, e_isi, e_isi1, e_isi2, e_meth, e_meth1, e_meth2, e_comp, e_comp1, e_tl, es_nil, es_cons, es_cons1, es_cons2, es_cons3, ep_nil, ep_cons, ep_cons1, eo_no, eo_so, eo_so1, ec_no, ec_so, ei_val, ei_val1, ei_rg, ei_rg1, ei_rg2, ei_rg3, ei_rg4, ei_enm, ei_enm1, ei_zip, ei_zip1, ei_zip2, ei_zip3, ei_rev, ei_rev1, c_nil, x_asg, x_asg1, x_asg2, x_asg3, x_par, x_par1, x_par3, x_par31, x_sub, x_sub1, x_sub2, x_sub3, x_sub4, x_sub5, x_aug, x_aug0, x_aug1, x_aug2, x_augS, x_augS1, x_augS2, x_augS3, x_augS4, x_augS5, x_ret, x_ret1, x_ret2, x_retN, x_ex, x_ex1, x_ex2, x_pass, x_brk, x_cnt, x_if, x_if1, x_if2, x_whl, x_fr, x_fr1, x_rs, x_tr, x_tr1, x_tr2, x_tr3, x_h, x_noX1, x_noX2, x_noX3, xs_nx, xs_rt, xs_bk, xs_ct, xs_ex, f_nil, t_nx, t_rt, t_exc, own_tl, own_int, own_bl, own_non, own_str, own_tup, own_ref, own_fl, xs_nil, xs_cons, start, bindT, bindTs, R.of_some, R.of_none, List.length_cons, List.length_nil, List.map_cons, List.map_nil, List.getElem?_cons_zero, List.getElem?_cons_succ, List.set_cons_zero, List.set_cons_succ, Nat.reduceAdd, Nat.reduceSub, List.cons_append, List.nil_append, List.append_nil, List.replicate, Nat.zero_add, reduceIte, Option.map_some, Option.map_none, fin_same, Bool.not_true, Bool.not_false, Bool.false_eq_true, tyD, primD, binD, sz0, sz1, sz2, sz3, sz4, sz5, sz6, sz7, sz8, nc0, nc1, nc2, nc3, nc4, nc5, nc6, nc7, nc8, Nat.reduceEqDiff, Option.bind_some, Int.reduceLE, Int.reduceLT, Int.reduceEq, Int.reduceToNat, Int.reduceAdd, Int.reduceSub, Int.reduceMul, Int.reduceNeg, Nat.reduceMul, ne_eq, not_false_eq_true, not_true_eq_false, decide_true, decide_false, Bool.and_true, Bool.true_and, Bool.or_false, Bool.false_or, Bool.or_true, Bool.true_or, Bool.and_false, Bool.false_and, beq_self_eq_true, decide_eq_true q, e1, e2, abs_eq]
    rw [gcd_loop 2 3 (by decide) d a'.natAbs _ rfl rfl]
    simp -implicitDefEqProofs only [e_lit, e_var, e_glb, e_bin, e_bin1, e_bin2, e_neg, e_neg1, e_cmp, e_cmp1, e_cmp2, e_chn, e_chn1, e_chn2, e_chn3, e_chn4, e_isn, e_isn1, e_isn2, e_and, e_and1, e_and2, e_or, e_or1, e_or2, e_not, e_not1, e_ite, e_ite1, e_ite2, e_tup, e_tup1, e_lst, e_lst1, e_idx, e_idx1, e_idx2, e_slc, e_slc1, e_slc2, e_slc3, e_call, e_call1, e_prim, e_prim1, e_isi, e_isi1, e_isi2, e_meth, e_meth1, e_meth2, e_comp, e_comp1, e_tl, es_nil, es_cons, es_cons1, es_cons2, es_cons3, ep_nil, ep_cons, ep_cons1, eo_no, eo_so, eo_so1, ec_no, ec_so, ei_val, ei_val1, ei_rg, ei_rg1, ei_rg2, ei_rg3, ei_rg4, ei_enm, ei_enm1, ei_zip, ei_zip1, ei_zip2, ei_zip3, ei_rev, ei_rev1, c_nil, x_asg, x_asg1, x_asg2, x_asg3, x_par, x_par1, x_par3, x_par31, x_sub, x_sub1, x_sub2, x_sub3, x_sub4, x_sub5, x_aug, x_aug0, x_aug1, x_aug2, x_augS, x_augS1, x_augS2, x_augS3, x_augS4, x_augS5, x_ret, x_ret1, x_ret2, x_retN, x_ex, x_ex1, x_ex2, x_pass, x_brk, x_cnt, x_if, x_if1, x_if2, x_whl, x_fr, x_fr1, x_rs, x_tr, x_tr1, x_tr2, x_tr3, x_h, x_noX1, x_noX2, x_noX3, xs_nx, xs_rt, xs_bk, xs_ct, xs_ex, f_nil, t_nx, t_rt, t_exc, own_tl, own_int, own_bl, own_non, own_str, own_tup, own_ref, own_fl, xs_nil, xs_cons, start, bindT, bindTs, R.of_some, R.of_none, List.length_cons, List.length_nil, List.map_cons, List.map_nil, List.getElem?_cons_zero, List.getElem?_cons_succ, List.set_cons_zero, List.set_cons_succ, Nat.reduceAdd, Nat.reduceSub, List.cons_append, List.nil_append, List.append_nil, List.replicate, Nat.zero_add, reduceIte, Option.map_some, Option.map_none, fin_same, Bool.not_true, Bool.not_false, Bool.false_eq_true, tyD, primD, binD, sz0, sz1, sz2, sz3, sz4, sz5, sz6, sz7, sz8, nc0, nc1, nc2, nc3, nc4, nc5, nc6, nc7, nc8, Nat.reduceEqDiff, Option.bind_some, Int.reduceLE, Int.reduceLT, Int.reduceEq, Int.reduceToNat, Int.reduceAdd, Int.reduceSub, Int.reduceMul, Int.reduceNeg, Nat.reduceMul, ne_eq, not_false_eq_true, not_true_eq_false, decide_true, decide_false, Bool.and_true, Bool.true_and, Bool.or_false, Bool.false_or, Bool.or_true, Bool.true_or, Bool.and_false, Bool.false_and, beq_self_eq_true, gl, hdiv]
  · rw [if_neg q] at e1 e2
    subst e1
    have qd : ¬ (d : Int) < 0 := by omega
    simp -implicitDefEqProofs only [e_lit, e_var, e_glb, e_bin, e_bin1, e_bin2, e_neg, e_neg1, e_cmp, e_cmp1, e_cmp2, e_chn, e_chn1, e_chn2, e_chn3, e_chn4, e_isn, e_isn1, e_isn2, e_and, e_and1, e_and2, e_or, e_or1, e_or2, e_not, e_not1, e_ite, e_ite1, e_ite2, e_tup, e_tup1, e_lst, e_lst1, e_idx, e_idx1, e_idx2, e_slc, e_slc1, e_slc2, e_slc3, e_call, e_call1, e_prim, e_prim1, e_isi, e_isi1, e_isi2, e_meth, e_meth1, e_meth2, e_comp, e_comp1, e_tl, es_nil, es_cons, es_cons1, es_cons2, es_cons3, ep_nil, ep_cons, ep_cons1, eo_no, eo_so, eo_so1, ec_no, ec_so, ei_val, ei_val1, ei_rg, ei_rg1, ei_rg2, ei_rg3, ei_rg4, ei_enm, ei_enm1, ei_zip, ei_zip1, ei_zip2, ei_zip3, ei_rev, ei_rev1, c_nil, x_asg, x_asg1, x_asg2, x_asg3, x_par, x_par1, x_par3, x_par31, x_sub, x_sub1, x_sub2, x_sub3, x_sub4, x_sub5, x_aug, x_aug0, x_aug1, x_aug2, x_augS, x_augS1, x_augS2, x_augS3, x_augS4, x_augS5, x_ret, x_ret1, x_ret2, x_retN, x_ex, x_ex1, x_ex2, x_pass, x_brk, x_cnt, x_if, x_if1, x_if2, x_whl, x_fr, x_fr1, x_rs, x_tr, x_tr1, x_tr2, x_tr3, x_h, x_noX1, x_noX2, x_noX3, xs_nx, xs_rt, xs_bk, xs_ct, xs_ex, f_nil, t_nx, t_rt, t_exc, own_tl, own_int, own_bl, own_non, own_str, own_tup, own_ref, own_fl, xs_nil, xs_cons, start, bindT, bindTs, R.of_some, R.of_none, List.length_cons, List.length_nil, List.map_cons, List.map_nil, List.getElem?_cons_zero, List.getElem?_cons_succ, List.set_cons_zero, List.set_cons_succ, Nat.reduceAdd, Nat.reduceSub, List.cons_append, List.nil_append, List.append_nil, List.replicate, Nat.zero_add, reduceIte, Option.map_some, Option.map_none, fin_same, Bool.not_true, Bool.not_false, Bool.false_eq_true, tyD, primD, binD, sz0, sz1, sz2, sz3, sz4, sz5, sz6, sz7, sz8, nc0, nc1, nc2, nc3, nc4, nc5, nc6, nc7, nc8, Nat.reduceEqDiff, Option.bind_some, Int.reduceLE, Int.reduceLT, Int.reduceEq, Int.reduceToNat, Int.reduceAdd, Int.reduceSub, Int.reduceMul, Int.reduceNeg, Nat.reduceMul, ne_eq, not_false_eq_true, not_true_eq_false, decide_true, decide_false, Bool.and_true, Bool.true_and, Bool.or_false, Bool.false_or, Bool.or_true, Bool.true_or, Bool.and_false, Bool.false_and, beq_self_eq_true, decide_eq_false q, e2, decide_eq_false qd, abs_eq]
    rw [gcd_loop 2 3 (by decide) d a.natAbs _ rfl rfl]
    simp -implicitDefEqProofs only [e_lit, e_var, e_glb, e_bin, e_bin1, e_bin2, e_neg, e_neg1, e_cmp, e_cmp1, e_cmp2, e_chn, e_chn1, e_chn2, e_chn3, e_chn4, e_isn, e_isn1, e_isn2, e_and, e_and1, e_and2, e_or, e_or1, e_or2, e_not, e_not1, e_ite, e_ite1, e_ite2, e_tup, e_tup1, e_lst, e_lst1, e_idx, e_idx1, e_idx2, e_slc, e_slc1, e_slc2, e_slc3, e_call, e_call1, e_prim, e_prim1, e_isi, e_isi1, e_isi2, e_meth, e_meth1, e_meth2, e_comp, e_comp1, e_tl, es_nil, es_cons, es_cons1, es_cons2, es_cons3, ep_nil, ep_cons, ep_cons1, eo_no, eo_so, eo_so1, ec_no, ec_so, ei_val, ei_val1, ei_rg, ei_rg1, ei_rg2, ei_rg3, ei_rg4, ei_enm, ei_enm1, ei_zip, ei_zip1, ei_zip2, ei_zip3, ei_rev, ei_rev1, c_nil, x_asg, x_asg1, x_asg2, x_asg3, x_par, x_par1, x_par3, x_par31, x_sub, x_sub1, x_sub2, x_sub3, x_sub4, x_sub5, x_aug, x_aug0, x_aug1, x_aug2, x_augS, x_augS1, x_augS2, x_augS3, x_augS4, x_augS5, x_ret, x_ret1, x_ret2, x_retN, x_ex, x_ex1, x_ex2, x_pass, x_brk, x_cnt, x_if, x_if1, x_if2, x_whl, x_fr, x_fr1, x_rs, x_tr, x_tr1, x_tr2, x_tr3, x_h, x_noX1, x_noX2, x_noX3, xs_nx, xs_rt, xs_bk, xs_ct, xs_ex, f_nil, t_nx, t_rt, t_exc, own_tl, own_int, own_bl, own_non, own_str, own_tup, own_ref, own_fl, xs_nil, xs_cons, start, bindT, bindTs, R.of_some, R.of_none, List.length_cons, List.length_nil, List.map_cons, List.map_nil, List.getElem?_cons_zero, List.getElem?_cons_succ, List.set_cons_zero, List.set_cons_succ, Nat.reduceAdd, Nat.reduceSub, List.cons_append, List.nil_append, List.append_nil, List.replicate, Nat.zero_add, reduceIte, Option.map_some, Option.map_none, fin_same, Bool.not_true, Bool.not_false, Bool.false_eq_true, tyD, primD, binD, sz0, sz1, sz2, sz3, sz4, sz5, sz6, sz7, sz8, nc0, nc1, nc2, nc3, nc4, nc5, nc6, nc7, nc8, Nat.reduceEqDiff, Option.bind_some, Int.reduceLE, Int.reduceLT, Int.reduceEq, Int.reduceToNat, Int.reduceAdd, Int.reduceSub, Int.reduceMul, Int.reduceNeg, Nat.reduceMul, ne_eq, not_false_eq_true, not_true_eq_false, decide_true, decide_false, Bool.and_true, Bool.true_and, Bool.or_false, Bool.false_or, Bool.or_true, Bool.true_or, Bool.and_false, Bool.false_and, beq_self_eq_true, gl, hdiv]
theorem lplus_ok (g : HLaw Γ) (h : Γ 26 = some F26) (hp : B n p) (hq : B m q) (hn : n + m < 9000) : callN Γ (k + 2) 26 [sh p, sh q] η = .ok (sh (p + q)) η := by
  have m1 : mulOk p.num q.den = true := mulOk_of hp.1 hq.den (by omega)
  have m2 : mulOk q.num p.den = true := mulOk_of hq.1 hp.den (by omega)
  have m3 : mulOk p.den q.den = true := mulOk_of hp.den hq.den (by omega)
  have mk := lmake_ok (k := k) (η := η) g.h25 (a := p.num * q.den + q.num * p.den) (dens_ne p q) (mul_le2 hp.den hq.den) hn
  rw [← add_di] at mk
  rw [call_eq h rfl]
  unfold sh at mk ⊢
  simp -implicitDefEqProofs only [e_lit, e_var, e_glb, e_bin, e_bin1, e_bin2, e_neg, e_neg1, e_cmp, e_cmp1, e_cmp2, e_chn, e_chn1, e_chn2, e_chn3, e_chn4, e_isn, e_isn1, e_isn2, e_and, e_and1, e_and2, e_or, e_or1, e_or2, e_not, e_not1, e_ite, e_ite1, e_ite2, e_tup, e_tup1, e_lst, e_lst1, e_idx, e_idx1, e_idx2, e_slc, e_slc1, e_slc2, e_slc3, e_call, e_call1, e_prim, e_prim1, e_isi, e_isi1, e_isi2, e_meth, e_meth1, e_meth2, e_comp, e_comp1, e_tl, es_nil, es_cons, es_cons1, es_cons2, es_cons3, ep_nil, ep_cons, ep_cons1, eo_no, eo_so, eo_so1, ec_no, ec_so, ei_val, ei_val1, ei_rg, ei_rg1, ei_rg2, ei_rg3, ei_rg4, ei_enm, ei_enm1, ei_zip, ei_zip1, ei_zip2, ei_zip3, ei_rev, ei_rev1, c_nil, x_asg, x_asg1, x_asg2, x_asg3, x_par, x_par1, x_par3, x_par31, x_sub, x_sub1, x_sub2, x_sub3, x_sub4, x_sub5, x_aug, x_aug0, x_aug1, x_aug2, x_augS, x_augS1, x_augS2, x_augS3, x_augS4, x_augS5, x_ret, x_ret1, x_ret2, x_retN, x_ex, x_ex1, x_ex2, x_pass, x_brk, x_cnt, x_if, x_if1, x_if2, x_whl, x_fr, x_fr1, x_rs, x_tr, x_tr1, x_tr2, x_tr3, x_h, x_noX1, x_noX2, x_noX3, xs_nx, xs_rt, xs_bk, xs_ct, xs_ex, f_nil, t_nx, t_rt, t_exc, own_tl, own_int, own_bl, own_non, own_str, own_tup, own_ref, own_fl, xs_nil, xs_cons, start, bindT, bindTs, R.of_some, R.of_none, List.length_cons, List.length_nil, List.map_cons, List.map_nil, List.getElem?_cons_zero, List.getElem?_cons_succ, List.set_cons_zero, List.set_cons_succ, Nat.reduceAdd, Nat.reduceSub, List.cons_append, List.nil_append, List.append_nil, List.replicate, Nat.zero_add, reduceIte, Option.map_some, Option.map_none, fin_same, Bool.not_true, Bool.not_false, Bool.false_eq_true, tyD, primD, binD, sz0, sz1, sz2, sz3, sz4, sz5, sz6, sz7, sz8, nc0, nc1, nc2, nc3, nc4, nc5, nc6, nc7, nc8, Nat.reduceEqDiff, Option.bind_some, Int.reduceLE, Int.reduceLT, Int.reduceEq, Int.reduceToNat, Int.reduceAdd, Int.reduceSub, Int.reduceMul, Int.reduceNeg, Nat.reduceMul, ne_eq, not_false_eq_true, not_true_eq_false, decide_true, decide_false, Bool.and_true, Bool.true_and, Bool.or_false, Bool.false_or, Bool.or_true, Bool.true_or, Bool.and_false, Bool.false_and, beq_self_eq_true, F26, idx_tup, at0, at1, m1, m2, m3, mk]
theorem ltimes_ok (g : HLaw Γ) (h : Γ 27 = some F27) (hp : B n p) (hq : B m q) (hn : n + m < 9000) : callN Γ (k + 2) 27 [sh p, sh q] η = .ok (sh (p * q)) η := by
  have m1 : mulOk p.num q.num = true := mulOk_of hp.1 hq.1 (by omega)
  have m2 : mulOk p.den q.den = true := mulOk_of hp.den hq.den (by omega)
  have mk := lmake_ok (k := k) (η := η) g.h25 (a := p.num * q.num) (dens_ne p q) (mul_le2 hp.den hq.den) hn
  rw [← mul_di] at mk
  rw [call_eq h rfl]
  unfold sh at mk ⊢
  simp -implicitDefEqProofs only [e_lit, e_var, e_glb, e_bin, e_bin1, e_bin2, e_neg, e_neg1, e_cmp, e_cmp1, e_cmp2, e_chn, e_chn1, e_chn2, e_chn3, e_chn4, e_isn, e_isn1, e_isn2, e_and, e_and1, e_and2, e_or, e_or1, e_or2, e_not, e_not1, e_ite, e_ite1, e_ite2, e_tup, e_tup1, e_lst, e_lst1, e_idx, e_idx1, e_idx2, e_slc, e_slc1, e_slc2, e_slc3, e_call, e_call1, e_prim, e_prim1, e_isi, e_isi1, e_isi2, e_meth, e_meth1, e_meth2, e_comp, e_comp1, e_tl, es_nil, es_cons, es_cons1, es_cons2, es_cons3, ep_nil, ep_cons, ep_cons1, eo_no, eo_so, eo_so1, ec_no, ec_so, ei_val, ei_val1, ei_rg, ei_rg1, ei_rg2, ei_rg3, ei_rg4, ei_enm, ei_enm1, ei_zip, ei_zip1, ei_zip2, ei_zip3, ei_rev, ei_rev1, c_nil, x_asg, x_asg1, x_asg2, x_asg3, x_par, x_par1, x_par3, x_par31, x_sub, x_sub1, x_sub2, x_sub3, x_sub4, x_sub5, x_aug, x_aug0, x_aug1, x_aug2, x_augS, x_augS1, x_augS2, x_augS3, x_augS4, x_augS5, x_ret, x_ret1, x_ret2, x_retN, x_ex, x_ex1, x_ex2, x_pass, x_brk, x_cnt, x_if, x_if1, x_if2, x_whl, x_fr, x_fr1, x_rs, x_tr, x_tr1, x_tr2, x_tr3, x_h, x_noX1, x_noX2, x_noX3, xs_nx, xs_rt, xs_bk, xs_ct, xs_ex, f_nil, t_nx, t_rt, t_exc, own_tl, own_int, own_bl, own_non, own_str, own_tup, own_ref, own_fl, xs_nil, xs_cons, start, bindT, bindTs, R.of_some, R.of_none, List.length_cons, List.length_nil, List.map_cons, List.map_nil, List.getElem?_cons_zero, List.getElem?_cons_succ, List.set_cons_zero, List.set_cons_succ, Nat.reduceAdd, Nat.reduceSub, List.cons_append, List.nil_append, List.append_nil, List.replicate, Nat.zero_add, reduceIte, Option.map_some, Option.map_none, fin_same, Bool.not_true, Bool.not_false, Bool.false_eq_true, tyD, primD, binD, sz0, sz1, sz2, sz3, sz4, sz5, sz6, sz7, sz8, nc0, nc1, nc2, nc3, nc4, nc5, nc6, nc7, nc8, Nat.reduceEqDiff, Option.bind_some, Int.reduceLE, Int.reduceLT, Int.reduceEq, Int.reduceToNat, Int.reduceAdd, Int.reduceSub, Int.reduceMul, Int.reduceNeg, Nat.reduceMul, ne_eq, not_false_eq_true, not_true_eq_false, decide_true, decide_false, Bool.and_true, Bool.true_and, Bool.or_false, Bool.false_or, Bool.or_true, Bool.true_or, Bool.and_false, Bool.false_and, beq_self_eq_true, F27, idx_tup, at0, at1, m1, m2, mk]
theorem lminus_ok (g : HLaw Γ) (h : Γ 49 = some F49) (hp : B n p) (hq : B m q) (hn : n + m < 9000) : callN Γ (k + 2) 49 [sh p, sh q] η = .ok (sh (p - q)) η := by
  have m1 : mulOk p.num q.den = true := mulOk_of hp.1 hq.den (by omega)
  have m2 : mulOk q.num p.den = true := mulOk_of hq.1 hp.den (by omega)
  have m3 : mulOk p.den q.den = true := mulOk_of hp.den hq.den (by omega)
  have mk := lmake_ok (k := k) (η := η) g.h25 (a := p.num * q.den - q.num * p.den) (dens_ne p q) (mul_le2 hp.den hq.den) hn
  rw [← sub_di] at mk
  rw [call_eq h rfl]
  unfold sh at mk ⊢
  simp -implicitDefEqProofs only [e_lit, e_var, e_glb, e_bin, e_bin1, e_bin2, e_neg, e_neg1, e_cmp, e_cmp1, e_cmp2, e_chn, e_chn1, e_chn2, e_chn3, e_chn4, e_isn, e_isn1, e_isn2, e_and, e_and1, e_and2, e_or, e_or1, e_or2, e_not, e_not1, e_ite, e_ite1, e_ite2, e_tup, e_tup1, e_lst, e_lst1, e_idx, e_idx1, e_idx2, e_slc, e_slc1, e_slc2, e_slc3, e_call, e_call1, e_prim, e_prim1, e_isi, e_isi1, e_isi2, e_meth, e_meth1, e_meth2, e_comp, e_comp1, e_tl, es_nil, es_cons, es_cons1, es_cons2, es_cons3, ep_nil, ep_cons, ep_cons1, eo_no, eo_so, eo_so1, ec_no, ec_so, ei_val, ei_val1, ei_rg, ei_rg1, ei_rg2, ei_rg3, ei_rg4, ei_enm, ei_enm1, ei_zip, ei_zip1, ei_zip2, ei_zip3, ei_rev, ei_rev1, c_nil, x_asg, x_asg1, x_asg2, x_asg3, x_par, x_par1, x_par3, x_par31, x_sub, x_sub1, x_sub2, x_sub3, x_sub4, x_sub5, x_aug, x_aug0, x_aug1, x_aug2, x_augS, x_augS1, x_augS2, x_augS3, x_augS4, x_augS5, x_ret, x_ret1, x_ret2, x_retN, x_ex, x_ex1, x_ex2, x_pass, x_brk, x_cnt, x_if, x_if1, x_if2, x_whl, x_fr, x_fr1, x_rs, x_tr, x_tr1, x_tr2, x_tr3, x_h, x_noX1, x_noX2, x_noX3, xs_nx, xs_rt, xs_bk, xs_ct, xs_ex, f_nil, t_nx, t_rt, t_exc, own_tl, own_int, own_bl, own_non, own_str, own_tup, own_ref, own_fl, xs_nil, xs_cons, start, bindT, bindTs, R.of_some, R.of_none, List.length_cons, List.length_nil, List.map_cons, List.map_nil, List.getElem?_cons_zero, List.getElem?_cons_succ, List.set_cons_zero, List.set_cons_succ, Nat.reduceAdd, Nat.reduceSub, List.cons_append, List.nil_append, List.append_nil, List.replicate, Nat.zero_add, reduceIte, Option.map_some, Option.map_none, fin_same, Bool.not_true, Bool.not_false, Bool.false_eq_true, tyD, primD, binD, sz0, sz1, sz2, sz3, sz4, sz5, sz6, sz7, sz8, nc0, nc1, nc2, nc3, nc4, nc5, nc6, nc7, nc8, Nat.reduceEqDiff, Option.bind_some, Int.reduceLE, Int.reduceLT, Int.reduceEq, Int.reduceToNat, Int.reduceAdd, Int.reduceSub, Int.reduceMul, Int.reduceNeg, Nat.reduceMul, ne_eq, not_false_eq_true, not_true_eq_false, decide_true, decide_false, Bool.and_true, Bool.true_and, Bool.or_false, Bool.false_or, Bool.or_true, Bool.true_or, Bool.and_false, Bool.false_and, beq_self_eq_true, F49, idx_tup, at0, at1, m1, m2, m3, mk]
theorem lover_ok (g : HLaw Γ) (h : Γ 50 = some F50) (hp : B n p) (hq : B m q) (h0 : q ≠ 0) (hn : n + m < 9000) : callN Γ (k + 2) 50 [sh p, sh q] η = .ok (sh (p / q)) η := by
  have m1 : mulOk p.num q.den = true := mulOk_of hp.1 hq.den (by omega)
  have m2 : mulOk p.den q.num = true := mulOk_of hp.den hq.1 (by omega)
  have mk := lmake_ok (k := k) (η := η) g.h25 (a := p.num * q.den) (over_ne p h0) (mul_le2 hp.den hq.1) hn
  rw [← div_di] at mk
  rw [call_eq h rfl]
  unfold sh at mk ⊢
  simp -implicitDefEqProofs only [e_lit, e_var, e_glb, e_bin, e_bin1, e_bin2, e_neg, e_neg1, e_cmp, e_cmp1, e_cmp2, e_chn, e_chn1, e_chn2, e_chn3, e_chn4, e_isn, e_isn1, e_isn2, e_and, e_and1, e_and2, e_or, e_or1, e_or2, e_not, e_not1, e_ite, e_ite1, e_ite2, e_tup, e_tup1, e_lst, e_lst1, e_idx, e_idx1, e_idx2, e_slc, e_slc1, e_slc2, e_slc3, e_call, e_call1, e_prim, e_prim1, e_isi, e_isi1, e_isi2, e_meth, e_meth1, e_meth2, e_comp, e_comp1, e_tl, es_nil, es_cons, es_cons1, es_cons2, es_cons3, ep_nil, ep_cons, ep_cons1, eo_no, eo_so, eo_so1, ec_no, ec_so, ei_val, ei_val1, ei_rg, ei_rg1, ei_rg2, ei_rg3, ei_rg4, ei_enm, ei_enm1, ei_zip, ei_zip1, ei_zip2, ei_zip3, ei_rev, ei_rev1, c_nil, x_asg, x_asg1, x_asg2, x_asg3, x_par, x_par1, x_par3, x_par31, x_sub, x_sub1, x_sub2, x_sub3, x_sub4, x_sub5, x_aug, x_aug0, x_aug1, x_aug2, x_augS, x_augS1, x_augS2, x_augS3, x_augS4, x_augS5, x_ret, x_ret1, x_ret2, x_retN, x_ex, x_ex1, x_ex2, x_pass, x_brk, x_cnt, x_if, x_if1, x_if2, x_whl, x_fr, x_fr1, x_rs, x_tr, x_tr1, x_tr2, x_tr3, x_h, x_noX1, x_noX2, x_noX3, xs_nx, xs_rt, xs_bk, xs_ct, xs_ex, f_nil, t_nx, t_rt, t_exc, own_tl, own_int, own_bl, own_non, own_str, own_tup, own_ref, own_fl, xs_nil, xs_cons, start, bindT, bindTs, R.of_some, R.of_none, List.length_cons, List.length_nil, List.map_cons, List.map_nil, List.getElem?_cons_zero, List.getElem?_cons_succ, List.set_cons_zero, List.set_cons_succ, Nat.reduceAdd, Nat.reduceSub, List.cons_append, List.nil_append, List.append_nil, List.replicate, Nat.zero_add, reduceIte, Option.map_some, Option.map_none, fin_same, Bool.not_true, Bool.not_false, Bool.false_eq_true, tyD, primD, binD, sz0, sz1, sz2, sz3, sz4, sz5, sz6, sz7, sz8, nc0, nc1, nc2, nc3, nc4, nc5, nc6, nc7, nc8, Nat.reduceEqDiff, Option.bind_some, Int.reduceLE, Int.reduceLT, Int.reduceEq, Int.reduceToNat, Int.reduceAdd, Int.reduceSub, Int.reduceMul, Int.reduceNeg, Nat.reduceMul, ne_eq, not_false_eq_true, not_true_eq_false, decide_true, decide_false, Bool.and_true, Bool.true_and, Bool.or_false, Bool.false_or, Bool.or_true, Bool.true_or, Bool.and_false, Bool.false_and, beq_self_eq_true, F50, idx_tup, at0, at1, m1, m2, mk]
end
end Ev

set_option Elab.async false
set_option linter.all false
set_option maxRecDepth 100000
/-! # Part D: loops over lists, the laws' tape -/
namespace Ev
open Law
section
variable {C : Nat → List D → Hep → R D} {ρ : Lo} {η : Hep}
/-- a comprehension whose turns keep something -/
theorem c_inv {elt : E} {t : T} {w : List (Nat × List D)} (Inv : Hep → List D → Prop) : ∀ (xs acc : List D) (η : Hep), Inv η acc → acc.length + xs.length ≤ PySem.sizeLine →
    (∀ x ∈ xs, ∀ η acc, Inv η acc → ∃ ρ' y η', bindT t x η ρ = some ρ' ∧ ev C elt ρ' η = .ok y η' ∧ own y η' = .ok y η' ∧ watchOk η' w = true ∧ Inv η' (acc ++ [y])) →
    ∃ ys η', cE C elt .no t w ρ xs η acc = .ok (acc ++ ys) η' ∧ Inv η' (acc ++ ys) ∧ ys.length = xs.length
  | [], acc, η, hi, _, _ => ⟨[], η, by rw [List.append_nil]; rfl, by rwa [List.append_nil], rfl⟩
  | x :: xs, acc, η, hi, hl, h => by
    obtain ⟨ρ', y, η', h1, h2, h3, h4, h5⟩ := h x List.mem_cons_self η acc hi
    rw [List.length_cons] at hl
    obtain ⟨ys, η2, e, i2, l2⟩ := c_inv Inv xs (acc ++ [y]) η' h5 (by simp; omega) fun x hx => h x (List.mem_cons_of_mem _ hx)
    refine ⟨y :: ys, η2, ?_, by simpa using i2, by simp [l2]⟩
    rw [c_cons h1 rfl h2 h3 h4 (by omega), e]
    simp
/-- a comprehension that maps, the heap stays -/
theorem c_map {α : Type} {elt : E} {t : T} {w : List (Nat × List D)} (hw : watchOk η w = true) (f g : α → D) : ∀ (as : List α) (acc : List D), acc.length + as.length ≤ PySem.sizeLine →
    (∀ a ∈ as, ∃ ρ', bindT t (f a) η ρ = some ρ' ∧ ev C elt ρ' η = .ok (g a) η ∧ own (g a) η = .ok (g a) η) →
    cE C elt .no t w ρ (as.map f) η acc = .ok (acc ++ as.map g) η
  | [], acc, _, _ => by rw [List.map_nil, List.map_nil, List.append_nil]; rfl
  | a :: as, acc, hl, h => by
    obtain ⟨ρ', h1, h2, h3⟩ := h a List.mem_cons_self
    rw [List.length_cons] at hl
    rw [List.map_cons, c_cons h1 rfl h2 h3 hw (by omega), c_map hw f g as (acc ++ [g a]) (by simp; omega) fun x hx => h x (List.mem_cons_of_mem _ hx)]
    simp
/-- a for loop whose turns keep something -/
theorem f_inv {b : Ss} {t : T} {w : List (Nat × List D)} (Inv : Nat → Lo → Hep → Prop) (xs : List D) : ∀ (n i : Nat), i + n = xs.length → ∀ (ρ : Lo) (η : Hep), Inv i ρ η →
    (∀ i x, xs[i]? = some x → ∀ ρ η, Inv i ρ η → ∃ ρ1 ρ2 η2, bindT t x η ρ = some ρ1 ∧ execs C b ρ1 η = .nx ρ2 η2 ∧ watchOk η2 w = true ∧ Inv (i + 1) ρ2 η2) →
    ∃ ρ' η', fE C b t w (xs.drop i) ρ η = .nx ρ' η' ∧ Inv xs.length ρ' η'
  | 0, i, e, ρ, η, hi, _ => by
    obtain rfl : i = xs.length := by omega
    rw [List.drop_length]
    exact ⟨ρ, η, rfl, hi⟩
  | n + 1, i, e, ρ, η, hi, h => by
    have hl : i < xs.length := by omega
    obtain ⟨ρ1, ρ2, η2, h1, h2, h3, h4⟩ := h i _ (List.getElem?_eq_getElem hl) ρ η hi
    rw [List.drop_eq_getElem_cons hl, f_nx h1 h2 h3]
    exact f_inv Inv xs n (i + 1) (by omega) ρ2 η2 h4 h
theorem f_all {b : Ss} {t : T} {w : List (Nat × List D)} (Inv : Nat → Lo → Hep → Prop) (xs : List D) {ρ : Lo} {η : Hep} (hi : Inv 0 ρ η)
    (h : ∀ i x, xs[i]? = some x → ∀ ρ η, Inv i ρ η → ∃ ρ1 ρ2 η2, bindT t x η ρ = some ρ1 ∧ execs C b ρ1 η = .nx ρ2 η2 ∧ watchOk η2 w = true ∧ Inv (i + 1) ρ2 η2) :
    ∃ ρ' η', fE C b t w xs ρ η = .nx ρ' η' ∧ Inv xs.length ρ' η' := f_inv Inv xs xs.length 0 (by omega) ρ η hi h
end
theorem blsOf_map {α : Type} (f : α → Bool) : ∀ as : List α, blsOf (as.map fun a => .bl (f a)) = some (as.map f)
  | [] => rfl
  | a :: as => by simp [blsOf, blsOf_map f as]
/-- what a call's own lists leave -/
theorem okCells_pre (n : Nat) : ∀ (η r : Hep), okCells n (η ++ r) η = true
  | [], r => by cases r <;> rfl
  | c :: η, r => by simp [okCells, okCells_pre n η r]
theorem fin_drop {η r : Hep} {v : D} (h : v.blw η.length = true) : fin η (.ok v (η ++ r)) = .ok v η := by
  unfold fin
  simp only [okCells_pre, h, if_true, List.take_left]
theorem sh_blw {n : Nat} (q : Rat) : (sh q).blw n = true := by simp [sh, D.blw, D.blws]
/-! ## sums -/
def sm : List Rat → Rat
  | [] => 0
  | a :: l => a + sm l
theorem sh0 : D.tup [.int 0, .int 1] = sh 0 := rfl
theorem sh1 : D.tup [.int 1, .int 1] = sh 1 := rfl
theorem B0 : B 0 0 := ⟨by decide, by decide⟩
theorem B1 : B 0 1 := ⟨by decide, by decide⟩
theorem B_sm {m : Nat} : ∀ {qs : List Rat} {p : Rat} {n : Nat}, B n p → (∀ q ∈ qs, B m q) → B (n + qs.length * (m + 1)) (p + sm qs)
  | [], p, n, hp, _ => by rw [show p + sm [] = p from Rat.add_zero p]; simpa using hp
  | q :: qs, p, n, hp, h => by
    have e : p + sm (q :: qs) = (p + q) + sm qs := by show p + (q + sm qs) = _; rw [Rat.add_assoc]
    rw [e]
    refine B_mono (B_sm (B.add hp (h q List.mem_cons_self)) fun x hx => h x (List.mem_cons_of_mem _ hx)) ?_
    rw [List.length_cons, Nat.succ_mul]; omega
section
variable {Γ : Nat → Option Fd} {k : Nat} {η : Hep}
theorem total_loop (g : HShr Γ) (h3 : Γ 3 = some F3) {m : Nat} {w : List (Nat × List D)} (hw : watchOk η w = true) (x0 : Option D) : ∀ (qs : List Rat) (p : Rat) (n : Nat) (x2 : Option D), B n p → (∀ q ∈ qs, B m q) → n + qs.length * (m + 1) < 9000 →
    ∃ x2', fE (callN Γ (k + 3)) (.cons (.asg (.nm 1) (.call 3 (.cons (.var 1) (.cons (.var 2) .nil)))) .nil) (.nm 2) w (qs.map sh) [x0, some (sh p), x2] η = .nx [x0, some (sh (p + sm qs)), x2'] η
  | [], p, n, x2, _, _, _ => ⟨x2, by rw [show p + sm [] = p from Rat.add_zero p]; rfl⟩
  | q :: qs, p, n, x2, hp, h, hn => by
    have hq := h q List.mem_cons_self
    rw [List.length_cons, Nat.succ_mul] at hn
    obtain ⟨x2', e⟩ := total_loop g h3 hw x0 qs (p + q) (n + m + 1) (some (sh q)) (B.add hp hq) (fun x hx => h x (List.mem_cons_of_mem _ hx)) (by omega)
    refine ⟨x2', ?_⟩
    have e1 : p + sm (q :: qs) = (p + q) + sm qs := by show p + (q + sm qs) = _; rw [Rat.add_assoc]
    rw [e1, List.map_cons, ← e]
    refine f_nx (ρ1 := [x0, some (sh p), some (sh q)]) rfl ?_ hw
    have pl := plus_ok (k := k) (η := η) g h3 hp hq (by omega)
    have os : own (sh p) η = .ok (sh p) η := rfl
    have oq : own (sh q) η = .ok (sh q) η := rfl
    have opq : own (sh (p + q)) η = .ok (sh (p + q)) η := rfl
    simp -implicitDefEqProofs only [e_lit, e_var, e_glb, e_bin, e_bin1, e_bin2, e_neg, e_neg1, e_cmp, e_cmp1, e_cmp2, e_chn, e_chn1, e_chn2, e_chn3, e_chn4, e_isn, e_isn1, e_isn2, e_and, e_and1, e_and2, e_or, e_or1, e_or2, e_not, e_not1, e_ite, e_ite1, e_ite2, e_tup, e_tup1, e_lst, e_lst1, e_idx, e_idx1, e_idx2, e_slc, e_slc1, e_slc2, e_slc3, e_call, e_call1, e_prim, e_prim1, e_isi, e_isi1, e_isi2, e_meth, e_meth1, e_meth2, e_comp, e_comp1, e_tl, es_nil, es_cons, es_cons1, es_cons2, es_cons3, ep_nil, ep_cons, ep_cons1, eo_no, eo_so, eo_so1, ec_no, ec_so, ei_val, ei_val1, ei_rg, ei_rg1, ei_rg2, ei_rg3, ei_rg4, ei_enm, ei_enm1, ei_zip, ei_zip1, ei_zip2, ei_zip3, ei_rev, ei_rev1, c_nil, x_asg, x_asg1, x_asg2, x_asg3, x_par, x_par1, x_par3, x_par31, x_sub, x_sub1, x_sub2, x_sub3, x_sub4, x_sub5, x_aug, x_aug0, x_aug1, x_aug2, x_augS, x_augS1, x_augS2, x_augS3, x_augS4, x_augS5, x_ret, x_ret1, x_ret2, x_retN, x_ex, x_ex1, x_ex2, x_pass, x_brk, x_cnt, x_if, x_if1, x_if2, x_whl, x_fr, x_fr1, x_rs, x_tr, x_tr1, x_tr2, x_tr3, x_h, x_noX1, x_noX2, x_noX3, xs_nx, xs_rt, xs_bk, xs_ct, xs_ex, f_nil, t_nx, t_rt, t_exc, own_tl, own_int, own_bl, own_non, own_str, own_tup, own_ref, own_fl, xs_nil, xs_cons, start, bindT, bindTs, R.of_some, R.of_none, List.length_cons, List.length_nil, List.map_cons, List.map_nil, List.getElem?_cons_zero, List.getElem?_cons_succ, List.set_cons_zero, List.set_cons_succ, Nat.reduceAdd, Nat.reduceSub, List.cons_append, List.nil_append, List.append_nil, List.replicate, Nat.zero_add, reduceIte, Option.map_some, Option.map_none, fin_same, Bool.not_true, Bool.not_false, Bool.false_eq_true, tyD, primD, binD, sz0, sz1, sz2, sz3, sz4, sz5, sz6, sz7, sz8, nc0, nc1, nc2, nc3, nc4, nc5, nc6, nc7, nc8, Nat.reduceEqDiff, Option.bind_some, Int.reduceLE, Int.reduceLT, Int.reduceEq, Int.reduceToNat, Int.reduceAdd, Int.reduceSub, Int.reduceMul, Int.reduceNeg, Nat.reduceMul, ne_eq, not_false_eq_true, not_true_eq_false, decide_true, decide_false, Bool.and_true, Bool.true_and, Bool.or_false, Bool.false_or, Bool.or_true, Bool.true_or, Bool.and_false, Bool.false_and, beq_self_eq_true, os, oq, opq, pl]
/-- total of a list or a tuple -/
theorem total_ok (g : HShr Γ) (h3 : Γ 3 = some F3) (h : Γ 70 = some F70) {m : Nat} {qs : List Rat} {d : D} (hd : seqAny η d = some (qs.map sh)) (hq : ∀ q ∈ qs, B m q) (hn : qs.length * (m + 1) < 9000) : callN Γ (k + 4) 70 [d] η = .ok (sh (sm qs)) η := by
  have hw : watchOk η (watchOf d (qs.map sh)) = true := by
    cases d with
    | ref n =>
      simp only [seqAny, seqOf] at hd
      split at hd
      · rename_i xs e; cases hd; simp [watchOk, watchOf, e]
      · cases hd
    | _ => rfl
  rw [call_eq h rfl]
  obtain ⟨x2, e⟩ := total_loop (k := k) g h3 hw (some d) qs 0 0 none B0 hq (by omega)
  rw [Rat.zero_add] at e
  simp -implicitDefEqProofs only [e_lit, e_var, e_glb, e_bin, e_bin1, e_bin2, e_neg, e_neg1, e_cmp, e_cmp1, e_cmp2, e_chn, e_chn1, e_chn2, e_chn3, e_chn4, e_isn, e_isn1, e_isn2, e_and, e_and1, e_and2, e_or, e_or1, e_or2, e_not, e_not1, e_ite, e_ite1, e_ite2, e_tup, e_tup1, e_lst, e_lst1, e_idx, e_idx1, e_idx2, e_slc, e_slc1, e_slc2, e_slc3, e_call, e_call1, e_prim, e_prim1, e_isi, e_isi1, e_isi2, e_meth, e_meth1, e_meth2, e_comp, e_comp1, e_tl, es_nil, es_cons, es_cons1, es_cons2, es_cons3, ep_nil, ep_cons, ep_cons1, eo_no, eo_so, eo_so1, ec_no, ec_so, ei_val, ei_val1, ei_rg, ei_rg1, ei_rg2, ei_rg3, ei_rg4, ei_enm, ei_enm1, ei_zip, ei_zip1, ei_zip2, ei_zip3, ei_rev, ei_rev1, c_nil, x_asg, x_asg1, x_asg2, x_asg3, x_par, x_par1, x_par3, x_par31, x_sub, x_sub1, x_sub2, x_sub3, x_sub4, x_sub5, x_aug, x_aug0, x_aug1, x_aug2, x_augS, x_augS1, x_augS2, x_augS3, x_augS4, x_augS5, x_ret, x_ret1, x_ret2, x_retN, x_ex, x_ex1, x_ex2, x_pass, x_brk, x_cnt, x_if, x_if1, x_if2, x_whl, x_fr, x_fr1, x_rs, x_tr, x_tr1, x_tr2, x_tr3, x_h, x_noX1, x_noX2, x_noX3, xs_nx, xs_rt, xs_bk, xs_ct, xs_ex, f_nil, t_nx, t_rt, t_exc, own_tl, own_int, own_bl, own_non, own_str, own_tup, own_ref, own_fl, xs_nil, xs_cons, start, bindT, bindTs, R.of_some, R.of_none, List.length_cons, List.length_nil, List.map_cons, List.map_nil, List.getElem?_cons_zero, List.getElem?_cons_succ, List.set_cons_zero, List.set_cons_succ, Nat.reduceAdd, Nat.reduceSub, List.cons_append, List.nil_append, List.append_nil, List.replicate, Nat.zero_add, reduceIte, Option.map_some, Option.map_none, fin_same, Bool.not_true, Bool.not_false, Bool.false_eq_true, tyD, primD, binD, sz0, sz1, sz2, sz3, sz4, sz5, sz6, sz7, sz8, nc0, nc1, nc2, nc3, nc4, nc5, nc6, nc7, nc8, Nat.reduceEqDiff, Option.bind_some, Int.reduceLE, Int.reduceLT, Int.reduceEq, Int.reduceToNat, Int.reduceAdd, Int.reduceSub, Int.reduceMul, Int.reduceNeg, Nat.reduceMul, ne_eq, not_false_eq_true, not_true_eq_false, decide_true, decide_false, Bool.and_true, Bool.true_and, Bool.or_false, Bool.false_or, Bool.or_true, Bool.true_or, Bool.and_false, Bool.false_and, beq_self_eq_true, F70, sh0]
  have o0 : own (sh 0) η = .ok (sh 0) η := rfl
  simp -implicitDefEqProofs only [e_lit, e_var, e_glb, e_bin, e_bin1, e_bin2, e_neg, e_neg1, e_cmp, e_cmp1, e_cmp2, e_chn, e_chn1, e_chn2, e_chn3, e_chn4, e_isn, e_isn1, e_isn2, e_and, e_and1, e_and2, e_or, e_or1, e_or2, e_not, e_not1, e_ite, e_ite1, e_ite2, e_tup, e_tup1, e_lst, e_lst1, e_idx, e_idx1, e_idx2, e_slc, e_slc1, e_slc2, e_slc3, e_call, e_call1, e_prim, e_prim1, e_isi, e_isi1, e_isi2, e_meth, e_meth1, e_meth2, e_comp, e_comp1, e_tl, es_nil, es_cons, es_cons1, es_cons2, es_cons3, ep_nil, ep_cons, ep_cons1, eo_no, eo_so, eo_so1, ec_no, ec_so, ei_val, ei_val1, ei_rg, ei_rg1, ei_rg2, ei_rg3, ei_rg4, ei_enm, ei_enm1, ei_zip, ei_zip1, ei_zip2, ei_zip3, ei_rev, ei_rev1, c_nil, x_asg, x_asg1, x_asg2, x_asg3, x_par, x_par1, x_par3, x_par31, x_sub, x_sub1, x_sub2, x_sub3, x_sub4, x_sub5, x_aug, x_aug0, x_aug1, x_aug2, x_augS, x_augS1, x_augS2, x_augS3, x_augS4, x_augS5, x_ret, x_ret1, x_ret2, x_retN, x_ex, x_ex1, x_ex2, x_pass, x_brk, x_cnt, x_if, x_if1, x_if2, x_whl, x_fr, x_fr1, x_rs, x_tr, x_tr1, x_tr2, x_tr3, x_h, x_noX1, x_noX2, x_noX3, xs_nx, xs_rt, xs_bk, xs_ct, xs_ex, f_nil, t_nx, t_rt, t_exc, own_tl, own_int, own_bl, own_non, own_str, own_tup, own_ref, own_fl, xs_nil, xs_cons, start, bindT, bindTs, R.of_some, R.of_none, List.length_cons, List.length_nil, List.map_cons, List.map_nil, List.getElem?_cons_zero, List.getElem?_cons_succ, List.set_cons_zero, List.set_cons_succ, Nat.reduceAdd, Nat.reduceSub, List.cons_append, List.nil_append, List.append_nil, List.replicate, Nat.zero_add, reduceIte, Option.map_some, Option.map_none, fin_same, Bool.not_true, Bool.not_false, Bool.false_eq_true, tyD, primD, binD, sz0, sz1, sz2, sz3, sz4, sz5, sz6, sz7, sz8, nc0, nc1, nc2, nc3, nc4, nc5, nc6, nc7, nc8, Nat.reduceEqDiff, Option.bind_some, Int.reduceLE, Int.reduceLT, Int.reduceEq, Int.reduceToNat, Int.reduceAdd, Int.reduceSub, Int.reduceMul, Int.reduceNeg, Nat.reduceMul, ne_eq, not_false_eq_true, not_true_eq_false, decide_true, decide_false, Bool.and_true, Bool.true_and, Bool.or_false, Bool.false_or, Bool.or_true, Bool.true_or, Bool.and_false, Bool.false_and, beq_self_eq_true, o0, hd, e]
theorem ltotal_loop (g : HLaw Γ) (h3 : Γ 26 = some F26) {m : Nat} {w : List (Nat × List D)} (hw : watchOk η w = true) (x0 : Option D) : ∀ (qs : List Rat) (p : Rat) (n : Nat) (x2 : Option D), B n p → (∀ q ∈ qs, B m q) → n + qs.length * (m + 1) < 9000 →
    ∃ x2', fE (callN Γ (k + 2)) (.cons (.asg (.nm 1) (.call 26 (.cons (.var 1) (.cons (.var 2) .nil)))) .nil) (.nm 2) w (qs.map sh) [x0, some (sh p), x2] η = .nx [x0, some (sh (p + sm qs)), x2'] η
  | [], p, n, x2, _, _, _ => ⟨x2, by rw [show p + sm [] = p from Rat.add_zero p]; rfl⟩
  | q :: qs, p, n, x2, hp, h, hn => by
    have hq := h q List.mem_cons_self
    rw [List.length_cons, Nat.succ_mul] at hn
    obtain ⟨x2', e⟩ := ltotal_loop g h3 hw x0 qs (p + q) (n + m + 1) (some (sh q)) (B.add hp hq) (fun x hx => h x (List.mem_cons_of_mem _ hx)) (by omega)
    refine ⟨x2', ?_⟩
    have e1 : p + sm (q :: qs) = (p + q) + sm qs := by show p + (q + sm qs) = _; rw [Rat.add_assoc]
    rw [e1, List.map_cons, ← e]
    refine f_nx (ρ1 := [x0, some (sh p), some (sh q)]) rfl ?_ hw
    have pl := lplus_ok (k := k) (η := η) g h3 hp hq (by omega)
    have os : own (sh p) η = .ok (sh p) η := rfl
    have oq : own (sh q) η = .ok (sh q) η := rfl
    have opq : own (sh (p + q)) η = .ok (sh (p + q)) η := rfl
    simp -implicitDefEqProofs only [e_lit, e_var, e_glb, e_bin, e_bin1, e_bin2, e_neg, e_neg1, e_cmp, e_cmp1, e_cmp2, e_chn, e_chn1, e_chn2, e_chn3, e_chn4, e_isn, e_isn1, e_isn2, e_and, e_and1, e_and2, e_or, e_or1, e_or2, e_not, e_not1, e_ite, e_ite1, e_ite2, e_tup, e_tup1, e_lst, e_lst1, e_idx, e_idx1, e_idx2, e_slc, e_slc1, e_slc2, e_slc3, e_call, e_call1, e_prim, e_prim1, e_isi, e_isi1, e_isi2, e_meth, e_meth1, e_meth2, e_comp, e_comp1, e_tl, es_nil, es_cons, es_cons1, es_cons2, es_cons3, ep_nil, ep_cons, ep_cons1, eo_no, eo_so, eo_so1, ec_no, ec_so, ei_val, ei_val1, ei_rg, ei_rg1, ei_rg2, ei_rg3, ei_rg4, ei_enm, ei_enm1, ei_zip, ei_zip1, ei_zip2, ei_zip3, ei_rev, ei_rev1, c_nil, x_asg, x_asg1, x_asg2, x_asg3, x_par, x_par1, x_par3, x_par31, x_sub, x_sub1, x_sub2, x_sub3, x_sub4, x_sub5, x_aug, x_aug0, x_aug1, x_aug2, x_augS, x_augS1, x_augS2, x_augS3, x_augS4, x_augS5, x_ret, x_ret1, x_ret2, x_retN, x_ex, x_ex1, x_ex2, x_pass, x_brk, x_cnt, x_if, x_if1, x_if2, x_whl, x_fr, x_fr1, x_rs, x_tr, x_tr1, x_tr2, x_tr3, x_h, x_noX1, x_noX2, x_noX3, xs_nx, xs_rt, xs_bk, xs_ct, xs_ex, f_nil, t_nx, t_rt, t_exc, own_tl, own_int, own_bl, own_non, own_str, own_tup, own_ref, own_fl, xs_nil, xs_cons, start, bindT, bindTs, R.of_some, R.of_none, List.length_cons, List.length_nil, List.map_cons, List.map_nil, List.getElem?_cons_zero, List.getElem?_cons_succ, List.set_cons_zero, List.set_cons_succ, Nat.reduceAdd, Nat.reduceSub, List.cons_append, List.nil_append, List.append_nil, List.replicate, Nat.zero_add, reduceIte, Option.map_some, Option.map_none, fin_same, Bool.not_true, Bool.not_false, Bool.false_eq_true, tyD, primD, binD, sz0, sz1, sz2, sz3, sz4, sz5, sz6, sz7, sz8, nc0, nc1, nc2, nc3, nc4, nc5, nc6, nc7, nc8, Nat.reduceEqDiff, Option.bind_some, Int.reduceLE, Int.reduceLT, Int.reduceEq, Int.reduceToNat, Int.reduceAdd, Int.reduceSub, Int.reduceMul, Int.reduceNeg, Nat.reduceMul, ne_eq, not_false_eq_true, not_true_eq_false, decide_true, decide_false, Bool.and_true, Bool.true_and, Bool.or_false, Bool.false_or, Bool.or_true, Bool.true_or, Bool.and_false, Bool.false_and, beq_self_eq_true, os, oq, opq, pl]
theorem ltotal_ok (g : HLaw Γ) (h3 : Γ 26 = some F26) (h : Γ 51 = some F51) {m : Nat} {qs : List Rat} {d : D} (hd : seqAny η d = some (qs.map sh)) (hq : ∀ q ∈ qs, B m q) (hn : qs.length * (m + 1) < 9000) : callN Γ (k + 3) 51 [d] η = .ok (sh (sm qs)) η := by
  have hw : watchOk η (watchOf d (qs.map sh)) = true := by
    cases d with
    | ref n =>
      simp only [seqAny, seqOf] at hd
      split at hd
      · rename_i xs e; cases hd; simp [watchOk, watchOf, e]
      · cases hd
    | _ => rfl
  rw [call_eq h rfl]
  obtain ⟨x2, e⟩ := ltotal_loop (k := k) g h3 hw (some d) qs 0 0 none B0 hq (by omega)
  rw [Rat.zero_add] at e
  have o0 : own (sh 0) η = .ok (sh 0) η := rfl
  have oi : ∀ i : Int, own (.int i) η = .ok (.int i) η := fun _ => rfl
  simp -implicitDefEqProofs only [e_lit, e_var, e_glb, e_bin, e_bin1, e_bin2, e_neg, e_neg1, e_cmp, e_cmp1, e_cmp2, e_chn, e_chn1, e_chn2, e_chn3, e_chn4, e_isn, e_isn1, e_isn2, e_and, e_and1, e_and2, e_or, e_or1, e_or2, e_not, e_not1, e_ite, e_ite1, e_ite2, e_tup, e_tup1, e_lst, e_lst1, e_idx, e_idx1, e_idx2, e_slc, e_slc1, e_slc2, e_slc3, e_call, e_call1, e_prim, e_prim1, e_isi, e_isi1, e_isi2, e_meth, e_meth1, e_meth2, e_comp, e_comp1, e_tl, es_nil, es_cons, es_cons1, es_cons2, es_cons3, ep_nil, ep_cons, ep_cons1, eo_no, eo_so, eo_so1, ec_no, ec_so, ei_val, ei_val1, ei_rg, ei_rg1, ei_rg2, ei_rg3, ei_rg4, ei_enm, ei_enm1, ei_zip, ei_zip1, ei_zip2, ei_zip3, ei_rev, ei_rev1, c_nil, x_asg, x_asg1, x_asg2, x_asg3, x_par, x_par1, x_par3, x_par31, x_sub, x_sub1, x_sub2, x_sub3, x_sub4, x_sub5, x_aug, x_aug0, x_aug1, x_aug2, x_augS, x_augS1, x_augS2, x_augS3, x_augS4, x_augS5, x_ret, x_ret1, x_ret2, x_retN, x_ex, x_ex1, x_ex2, x_pass, x_brk, x_cnt, x_if, x_if1, x_if2, x_whl, x_fr, x_fr1, x_rs, x_tr, x_tr1, x_tr2, x_tr3, x_h, x_noX1, x_noX2, x_noX3, xs_nx, xs_rt, xs_bk, xs_ct, xs_ex, f_nil, t_nx, t_rt, t_exc, own_tl, own_int, own_bl, own_non, own_str, own_tup, own_ref, own_fl, xs_nil, xs_cons, start, bindT, bindTs, R.of_some, R.of_none, List.length_cons, List.length_nil, List.map_cons, List.map_nil, List.getElem?_cons_zero, List.getElem?_cons_succ, List.set_cons_zero, List.set_cons_succ, Nat.reduceAdd, Nat.reduceSub, List.cons_append, List.nil_append, List.append_nil, List.replicate, Nat.zero_add, reduceIte, Option.map_some, Option.map_none, fin_same, Bool.not_true, Bool.not_false, Bool.false_eq_true, tyD, primD, binD, sz0, sz1, sz2, sz3, sz4, sz5, sz6, sz7, sz8, nc0, nc1, nc2, nc3, nc4, nc5, nc6, nc7, nc8, Nat.reduceEqDiff, Option.bind_some, Int.reduceLE, Int.reduceLT, Int.reduceEq, Int.reduceToNat, Int.reduceAdd, Int.reduceSub, Int.reduceMul, Int.reduceNeg, Nat.reduceMul, ne_eq, not_false_eq_true, not_true_eq_false, decide_true, decide_false, Bool.and_true, Bool.true_and, Bool.or_false, Bool.false_or, Bool.or_true, Bool.true_or, Bool.and_false, Bool.false_and, beq_self_eq_true, F51, sh0, oi, o0, hd, e]
end
/-! ## the tape -/
def tp (cs : List Int) (s : Int) (r : Hep) : Hep := .lst (cs.map .int) :: .lst [.ref 0, .int s] :: r
section
variable {Γ : Nat → Option Fd} {k : Nat} {r : Hep}
theorem fmod_range (a : Int) {m : Int} (h : 0 < m) : 0 ≤ a.fmod m ∧ a.fmod m < m := by
  rw [Int.fmod_eq_emod_of_nonneg _ (by omega)]
  exact ⟨Int.emod_nonneg _ (by omega), Int.emod_lt_of_pos _ h⟩
theorem tape_loop {C : Nat → List D → Hep → R D} {s : Int} {x0 x1 x3 : Option D} : ∀ cs : List Int, ∃ cs', (∀ c r, cs' = c :: r → c ≠ 0) ∧
    wE C (.and (.cmp .gt (.prim .len (.cons (.var 2) .nil)) (.lit (.int 0))) (.cmp .eq (.idx (.var 2) (.lit (.int 0))) (.lit (.int 0)))) (.cons (.ex (.meth .popAt (.var 2) (.cons (.lit (.int 0)) .nil))) .nil) [x0, x1, some (.ref 0), x3] (tp cs s r) = .nx [x0, x1, some (.ref 0), x3] (tp cs' s r)
  | [] => by
    refine ⟨[], fun _ _ h => (by cases h), ?_⟩
    apply w_false
    simp -implicitDefEqProofs only [e_lit, e_var, e_glb, e_bin, e_bin1, e_bin2, e_neg, e_neg1, e_cmp, e_cmp1, e_cmp2, e_chn, e_chn1, e_chn2, e_chn3, e_chn4, e_isn, e_isn1, e_isn2, e_and, e_and1, e_and2, e_or, e_or1, e_or2, e_not, e_not1, e_ite, e_ite1, e_ite2, e_tup, e_tup1, e_lst, e_lst1, e_idx, e_idx1, e_idx2, e_slc, e_slc1, e_slc2, e_slc3, e_call, e_call1, e_prim, e_prim1, e_isi, e_isi1, e_isi2, e_meth, e_meth1, e_meth2, e_comp, e_comp1, e_tl, es_nil, es_cons, es_cons1, es_cons2, es_cons3, ep_nil, ep_cons, ep_cons1, eo_no, eo_so, eo_so1, ec_no, ec_so, ei_val, ei_val1, ei_rg, ei_rg1, ei_rg2, ei_rg3, ei_rg4, ei_enm, ei_enm1, ei_zip, ei_zip1, ei_zip2, ei_zip3, ei_rev, ei_rev1, c_nil, x_asg, x_asg1, x_asg2, x_asg3, x_par, x_par1, x_par3, x_par31, x_sub, x_sub1, x_sub2, x_sub3, x_sub4, x_sub5, x_aug, x_aug0, x_aug1, x_aug2, x_augS, x_augS1, x_augS2, x_augS3, x_augS4, x_augS5, x_ret, x_ret1, x_ret2, x_retN, x_ex, x_ex1, x_ex2, x_pass, x_brk, x_cnt, x_if, x_if1, x_if2, x_whl, x_fr, x_fr1, x_rs, x_tr, x_tr1, x_tr2, x_tr3, x_h, x_noX1, x_noX2, x_noX3, xs_nx, xs_rt, xs_bk, xs_ct, xs_ex, f_nil, t_nx, t_rt, t_exc, own_tl, own_int, own_bl, own_non, own_str, own_tup, own_ref, own_fl, xs_nil, xs_cons, start, bindT, bindTs, R.of_some, R.of_none, List.length_cons, List.length_nil, List.map_cons, List.map_nil, List.getElem?_cons_zero, List.getElem?_cons_succ, List.set_cons_zero, List.set_cons_succ, Nat.reduceAdd, Nat.reduceSub, List.cons_append, List.nil_append, List.append_nil, List.replicate, Nat.zero_add, reduceIte, Option.map_some, Option.map_none, fin_same, Bool.not_true, Bool.not_false, Bool.false_eq_true, tyD, primD, binD, sz0, sz1, sz2, sz3, sz4, sz5, sz6, sz7, sz8, nc0, nc1, nc2, nc3, nc4, nc5, nc6, nc7, nc8, Nat.reduceEqDiff, Option.bind_some, Int.reduceLE, Int.reduceLT, Int.reduceEq, Int.reduceToNat, Int.reduceAdd, Int.reduceSub, Int.reduceMul, Int.reduceNeg, Nat.reduceMul, ne_eq, not_false_eq_true, not_true_eq_false, decide_true, decide_false, Bool.and_true, Bool.true_and, Bool.or_false, Bool.false_or, Bool.or_true, Bool.true_or, Bool.and_false, Bool.false_and, beq_self_eq_true, tp, seqAny, seqOf, cmpD]
  | c :: cs => by
    have hlen : (0 : Int) < ((cs.length + 1 : Nat) : Int) := by omega
    by_cases h : c = 0
    · subst h
      obtain ⟨cs', h1, h2⟩ := tape_loop (C := C) (s := s) (x0 := x0) (x1 := x1) (x3 := x3) cs
      refine ⟨cs', h1, ?_⟩
      rw [← h2]
      apply w_true (η1 := tp (0 :: cs) s r)
      · simp -implicitDefEqProofs only [e_lit, e_var, e_glb, e_bin, e_bin1, e_bin2, e_neg, e_neg1, e_cmp, e_cmp1, e_cmp2, e_chn, e_chn1, e_chn2, e_chn3, e_chn4, e_isn, e_isn1, e_isn2, e_and, e_and1, e_and2, e_or, e_or1, e_or2, e_not, e_not1, e_ite, e_ite1, e_ite2, e_tup, e_tup1, e_lst, e_lst1, e_idx, e_idx1, e_idx2, e_slc, e_slc1, e_slc2, e_slc3, e_call, e_call1, e_prim, e_prim1, e_isi, e_isi1, e_isi2, e_meth, e_meth1, e_meth2, e_comp, e_comp1, e_tl, es_nil, es_cons, es_cons1, es_cons2, es_cons3, ep_nil, ep_cons, ep_cons1, eo_no, eo_so, eo_so1, ec_no, ec_so, ei_val, ei_val1, ei_rg, ei_rg1, ei_rg2, ei_rg3, ei_rg4, ei_enm, ei_enm1, ei_zip, ei_zip1, ei_zip2, ei_zip3, ei_rev, ei_rev1, c_nil, x_asg, x_asg1, x_asg2, x_asg3, x_par, x_par1, x_par3, x_par31, x_sub, x_sub1, x_sub2, x_sub3, x_sub4, x_sub5, x_aug, x_aug0, x_aug1, x_aug2, x_augS, x_augS1, x_augS2, x_augS3, x_augS4, x_augS5, x_ret, x_ret1, x_ret2, x_retN, x_ex, x_ex1, x_ex2, x_pass, x_brk, x_cnt, x_if, x_if1, x_if2, x_whl, x_fr, x_fr1, x_rs, x_tr, x_tr1, x_tr2, x_tr3, x_h, x_noX1, x_noX2, x_noX3, xs_nx, xs_rt, xs_bk, xs_ct, xs_ex, f_nil, t_nx, t_rt, t_exc, own_tl, own_int, own_bl, own_non, own_str, own_tup, own_ref, own_fl, xs_nil, xs_cons, start, bindT, bindTs, R.of_some, R.of_none, List.length_cons, List.length_nil, List.map_cons, List.map_nil, List.getElem?_cons_zero, List.getElem?_cons_succ, List.set_cons_zero, List.set_cons_succ, Nat.reduceAdd, Nat.reduceSub, List.cons_append, List.nil_append, List.append_nil, List.replicate, Nat.zero_add, reduceIte, Option.map_some, Option.map_none, fin_same, Bool.not_true, Bool.not_false, Bool.false_eq_true, tyD, primD, binD, sz0, sz1, sz2, sz3, sz4, sz5, sz6, sz7, sz8, nc0, nc1, nc2, nc3, nc4, nc5, nc6, nc7, nc8, Nat.reduceEqDiff, Option.bind_some, Int.reduceLE, Int.reduceLT, Int.reduceEq, Int.reduceToNat, Int.reduceAdd, Int.reduceSub, Int.reduceMul, Int.reduceNeg, Nat.reduceMul, ne_eq, not_false_eq_true, not_true_eq_false, decide_true, decide_false, Bool.and_true, Bool.true_and, Bool.or_false, Bool.false_or, Bool.or_true, Bool.true_or, Bool.and_false, Bool.false_and, beq_self_eq_true, tp, seqAny, seqOf, cmpD, List.length_map, idxD, at0, eqD_int, decide_eq_true hlen]
      · simp -implicitDefEqProofs only [e_lit, e_var, e_glb, e_bin, e_bin1, e_bin2, e_neg, e_neg1, e_cmp, e_cmp1, e_cmp2, e_chn, e_chn1, e_chn2, e_chn3, e_chn4, e_isn, e_isn1, e_isn2, e_and, e_and1, e_and2, e_or, e_or1, e_or2, e_not, e_not1, e_ite, e_ite1, e_ite2, e_tup, e_tup1, e_lst, e_lst1, e_idx, e_idx1, e_idx2, e_slc, e_slc1, e_slc2, e_slc3, e_call, e_call1, e_prim, e_prim1, e_isi, e_isi1, e_isi2, e_meth, e_meth1, e_meth2, e_comp, e_comp1, e_tl, es_nil, es_cons, es_cons1, es_cons2, es_cons3, ep_nil, ep_cons, ep_cons1, eo_no, eo_so, eo_so1, ec_no, ec_so, ei_val, ei_val1, ei_rg, ei_rg1, ei_rg2, ei_rg3, ei_rg4, ei_enm, ei_enm1, ei_zip, ei_zip1, ei_zip2, ei_zip3, ei_rev, ei_rev1, c_nil, x_asg, x_asg1, x_asg2, x_asg3, x_par, x_par1, x_par3, x_par31, x_sub, x_sub1, x_sub2, x_sub3, x_sub4, x_sub5, x_aug, x_aug0, x_aug1, x_aug2, x_augS, x_augS1, x_augS2, x_augS3, x_augS4, x_augS5, x_ret, x_ret1, x_ret2, x_retN, x_ex, x_ex1, x_ex2, x_pass, x_brk, x_cnt, x_if, x_if1, x_if2, x_whl, x_fr, x_fr1, x_rs, x_tr, x_tr1, x_tr2, x_tr3, x_h, x_noX1, x_noX2, x_noX3, xs_nx, xs_rt, xs_bk, xs_ct, xs_ex, f_nil, t_nx, t_rt, t_exc, own_tl, own_int, own_bl, own_non, own_str, own_tup, own_ref, own_fl, xs_nil, xs_cons, start, bindT, bindTs, R.of_some, R.of_none, List.length_cons, List.length_nil, List.map_cons, List.map_nil, List.getElem?_cons_zero, List.getElem?_cons_succ, List.set_cons_zero, List.set_cons_succ, Nat.reduceAdd, Nat.reduceSub, List.cons_append, List.nil_append, List.append_nil, List.replicate, Nat.zero_add, reduceIte, Option.map_some, Option.map_none, fin_same, Bool.not_true, Bool.not_false, Bool.false_eq_true, tyD, primD, binD, sz0, sz1, sz2, sz3, sz4, sz5, sz6, sz7, sz8, nc0, nc1, nc2, nc3, nc4, nc5, nc6, nc7, nc8, Nat.reduceEqDiff, Option.bind_some, Int.reduceLE, Int.reduceLT, Int.reduceEq, Int.reduceToNat, Int.reduceAdd, Int.reduceSub, Int.reduceMul, Int.reduceNeg, Nat.reduceMul, ne_eq, not_false_eq_true, not_true_eq_false, decide_true, decide_false, Bool.and_true, Bool.true_and, Bool.or_false, Bool.false_or, Bool.or_true, Bool.true_or, Bool.and_false, Bool.false_and, beq_self_eq_true, tp, methD, List.length_map, L2.ixN]
        simp
        simp -implicitDefEqProofs only [e_lit, e_var, e_glb, e_bin, e_bin1, e_bin2, e_neg, e_neg1, e_cmp, e_cmp1, e_cmp2, e_chn, e_chn1, e_chn2, e_chn3, e_chn4, e_isn, e_isn1, e_isn2, e_and, e_and1, e_and2, e_or, e_or1, e_or2, e_not, e_not1, e_ite, e_ite1, e_ite2, e_tup, e_tup1, e_lst, e_lst1, e_idx, e_idx1, e_idx2, e_slc, e_slc1, e_slc2, e_slc3, e_call, e_call1, e_prim, e_prim1, e_isi, e_isi1, e_isi2, e_meth, e_meth1, e_meth2, e_comp, e_comp1, e_tl, es_nil, es_cons, es_cons1, es_cons2, es_cons3, ep_nil, ep_cons, ep_cons1, eo_no, eo_so, eo_so1, ec_no, ec_so, ei_val, ei_val1, ei_rg, ei_rg1, ei_rg2, ei_rg3, ei_rg4, ei_enm, ei_enm1, ei_zip, ei_zip1, ei_zip2, ei_zip3, ei_rev, ei_rev1, c_nil, x_asg, x_asg1, x_asg2, x_asg3, x_par, x_par1, x_par3, x_par31, x_sub, x_sub1, x_sub2, x_sub3, x_sub4, x_sub5, x_aug, x_aug0, x_aug1, x_aug2, x_augS, x_augS1, x_augS2, x_augS3, x_augS4, x_augS5, x_ret, x_ret1, x_ret2, x_retN, x_ex, x_ex1, x_ex2, x_pass, x_brk, x_cnt, x_if, x_if1, x_if2, x_whl, x_fr, x_fr1, x_rs, x_tr, x_tr1, x_tr2, x_tr3, x_h, x_noX1, x_noX2, x_noX3, xs_nx, xs_rt, xs_bk, xs_ct, xs_ex, f_nil, t_nx, t_rt, t_exc, own_tl, own_int, own_bl, own_non, own_str, own_tup, own_ref, own_fl, xs_nil, xs_cons, start, bindT, bindTs, R.of_some, R.of_none, List.length_cons, List.length_nil, List.map_cons, List.map_nil, List.getElem?_cons_zero, List.getElem?_cons_succ, List.set_cons_zero, List.set_cons_succ, Nat.reduceAdd, Nat.reduceSub, List.cons_append, List.nil_append, List.append_nil, List.replicate, Nat.zero_add, reduceIte, Option.map_some, Option.map_none, fin_same, Bool.not_true, Bool.not_false, Bool.false_eq_true, tyD, primD, binD, sz0, sz1, sz2, sz3, sz4, sz5, sz6, sz7, sz8, nc0, nc1, nc2, nc3, nc4, nc5, nc6, nc7, nc8, Nat.reduceEqDiff, Option.bind_some, Int.reduceLE, Int.reduceLT, Int.reduceEq, Int.reduceToNat, Int.reduceAdd, Int.reduceSub, Int.reduceMul, Int.reduceNeg, Nat.reduceMul, ne_eq, not_false_eq_true, not_true_eq_false, decide_true, decide_false, Bool.and_true, Bool.true_and, Bool.or_false, Bool.false_or, Bool.or_true, Bool.true_or, Bool.and_false, Bool.false_and, beq_self_eq_true]
    · refine ⟨c :: cs, fun c' r' e => by cases e; exact h, ?_⟩
      apply w_false
      simp -implicitDefEqProofs only [e_lit, e_var, e_glb, e_bin, e_bin1, e_bin2, e_neg, e_neg1, e_cmp, e_cmp1, e_cmp2, e_chn, e_chn1, e_chn2, e_chn3, e_chn4, e_isn, e_isn1, e_isn2, e_and, e_and1, e_and2, e_or, e_or1, e_or2, e_not, e_not1, e_ite, e_ite1, e_ite2, e_tup, e_tup1, e_lst, e_lst1, e_idx, e_idx1, e_idx2, e_slc, e_slc1, e_slc2, e_slc3, e_call, e_call1, e_prim, e_prim1, e_isi, e_isi1, e_isi2, e_meth, e_meth1, e_meth2, e_comp, e_comp1, e_tl, es_nil, es_cons, es_cons1, es_cons2, es_cons3, ep_nil, ep_cons, ep_cons1, eo_no, eo_so, eo_so1, ec_no, ec_so, ei_val, ei_val1, ei_rg, ei_rg1, ei_rg2, ei_rg3, ei_rg4, ei_enm, ei_enm1, ei_zip, ei_zip1, ei_zip2, ei_zip3, ei_rev, ei_rev1, c_nil, x_asg, x_asg1, x_asg2, x_asg3, x_par, x_par1, x_par3, x_par31, x_sub, x_sub1, x_sub2, x_sub3, x_sub4, x_sub5, x_aug, x_aug0, x_aug1, x_aug2, x_augS, x_augS1, x_augS2, x_augS3, x_augS4, x_augS5, x_ret, x_ret1, x_ret2, x_retN, x_ex, x_ex1, x_ex2, x_pass, x_brk, x_cnt, x_if, x_if1, x_if2, x_whl, x_fr, x_fr1, x_rs, x_tr, x_tr1, x_tr2, x_tr3, x_h, x_noX1, x_noX2, x_noX3, xs_nx, xs_rt, xs_bk, xs_ct, xs_ex, f_nil, t_nx, t_rt, t_exc, own_tl, own_int, own_bl, own_non, own_str, own_tup, own_ref, own_fl, xs_nil, xs_cons, start, bindT, bindTs, R.of_some, R.of_none, List.length_cons, List.length_nil, List.map_cons, List.map_nil, List.getElem?_cons_zero, List.getElem?_cons_succ, List.set_cons_zero, List.set_cons_succ, Nat.reduceAdd, Nat.reduceSub, List.cons_append, List.nil_append, List.append_nil, List.replicate, Nat.zero_add, reduceIte, Option.map_some, Option.map_none, fin_same, Bool.not_true, Bool.not_false, Bool.false_eq_true, tyD, primD, binD, sz0, sz1, sz2, sz3, sz4, sz5, sz6, sz7, sz8, nc0, nc1, nc2, nc3, nc4, nc5, nc6, nc7, nc8, Nat.reduceEqDiff, Option.bind_some, Int.reduceLE, Int.reduceLT, Int.reduceEq, Int.reduceToNat, Int.reduceAdd, Int.reduceSub, Int.reduceMul, Int.reduceNeg, Nat.reduceMul, ne_eq, not_false_eq_true, not_true_eq_false, decide_true, decide_false, Bool.and_true, Bool.true_and, Bool.or_false, Bool.false_or, Bool.or_true, Bool.true_or, Bool.and_false, Bool.false_and, beq_self_eq_true, tp, seqAny, seqOf, cmpD, List.length_map, idxD, at0, eqD_int, decide_eq_true hlen, decide_eq_false h]
theorem draw_ok (h : Γ 22 = some F22) {m : Int} (hm : 0 < m) (hm2 : m < 1073741824) {cs : List Int} {s : Int} (hs : 0 ≤ s ∧ s < 2147483647) :
    ∃ v cs' s', 0 ≤ v ∧ v < m ∧ (0 ≤ s' ∧ s' < 2147483647) ∧ callN Γ (k + 1) 22 [.ref 1, .int m] (tp cs s r) = .ok (.int v) (tp cs' s' r) := by
  have dm : divOk m = true := by
    unfold divOk
    rw [decide_eq_true (show m ≠ 0 ∧ m.natAbs < 1073741824 from ⟨by omega, by omega⟩), Bool.or_true]
  have m0 : m ≠ 0 := by omega
  rw [call_eq h rfl]
  obtain ⟨cs', h1, h2⟩ := tape_loop (C := callN Γ k) (r := r) (s := s) (x0 := some (.ref 1)) (x1 := some (.int m)) (x3 := none) cs
  have e0 : (tp cs s r)[1]? = some (.lst [.ref 0, .int s]) := rfl
  cases cs' with
  | nil =>
    have f1 := fmod_range (s * 48271 + 12345) (m := 2147483647) (by decide)
    have f2 := fmod_range (((s * 48271 + 12345).fmod 2147483647).fdiv 64) hm
    refine ⟨_, [], _, f2.1, f2.2, f1, ?_⟩
    have m1 : mulOk s 48271 = true := mulOk_of (n := 31) (m := 16) (by omega) (by decide) (by decide)
    simp -implicitDefEqProofs only [e_lit, e_var, e_glb, e_bin, e_bin1, e_bin2, e_neg, e_neg1, e_cmp, e_cmp1, e_cmp2, e_chn, e_chn1, e_chn2, e_chn3, e_chn4, e_isn, e_isn1, e_isn2, e_and, e_and1, e_and2, e_or, e_or1, e_or2, e_not, e_not1, e_ite, e_ite1, e_ite2, e_tup, e_tup1, e_lst, e_lst1, e_idx, e_idx1, e_idx2, e_slc, e_slc1, e_slc2, e_slc3, e_call, e_call1, e_prim, e_prim1, e_isi, e_isi1, e_isi2, e_meth, e_meth1, e_meth2, e_comp, e_comp1, e_tl, es_nil, es_cons, es_cons1, es_cons2, es_cons3, ep_nil, ep_cons, ep_cons1, eo_no, eo_so, eo_so1, ec_no, ec_so, ei_val, ei_val1, ei_rg, ei_rg1, ei_rg2, ei_rg3, ei_rg4, ei_enm, ei_enm1, ei_zip, ei_zip1, ei_zip2, ei_zip3, ei_rev, ei_rev1, c_nil, x_asg, x_asg1, x_asg2, x_asg3, x_par, x_par1, x_par3, x_par31, x_sub, x_sub1, x_sub2, x_sub3, x_sub4, x_sub5, x_aug, x_aug0, x_aug1, x_aug2, x_augS, x_augS1, x_augS2, x_augS3, x_augS4, x_augS5, x_ret, x_ret1, x_ret2, x_retN, x_ex, x_ex1, x_ex2, x_pass, x_brk, x_cnt, x_if, x_if1, x_if2, x_whl, x_fr, x_fr1, x_rs, x_tr, x_tr1, x_tr2, x_tr3, x_h, x_noX1, x_noX2, x_noX3, xs_nx, xs_rt, xs_bk, xs_ct, xs_ex, f_nil, t_nx, t_rt, t_exc, own_tl, own_int, own_bl, own_non, own_str, own_tup, own_ref, own_fl, xs_nil, xs_cons, start, bindT, bindTs, R.of_some, R.of_none, List.length_cons, List.length_nil, List.map_cons, List.map_nil, List.getElem?_cons_zero, List.getElem?_cons_succ, List.set_cons_zero, List.set_cons_succ, Nat.reduceAdd, Nat.reduceSub, List.cons_append, List.nil_append, List.append_nil, List.replicate, Nat.zero_add, reduceIte, Option.map_some, Option.map_none, fin_same, Bool.not_true, Bool.not_false, Bool.false_eq_true, tyD, primD, binD, sz0, sz1, sz2, sz3, sz4, sz5, sz6, sz7, sz8, nc0, nc1, nc2, nc3, nc4, nc5, nc6, nc7, nc8, Nat.reduceEqDiff, Option.bind_some, Int.reduceLE, Int.reduceLT, Int.reduceEq, Int.reduceToNat, Int.reduceAdd, Int.reduceSub, Int.reduceMul, Int.reduceNeg, Nat.reduceMul, ne_eq, not_false_eq_true, not_true_eq_false, decide_true, decide_false, Bool.and_true, Bool.true_and, Bool.or_false, Bool.false_or, Bool.or_true, Bool.true_or, Bool.and_false, Bool.false_and, beq_self_eq_true, F22, seqAny, seqOf, idxD, e0, at0, h2]
    have d64 : divOk 64 = true := by decide
    simp -implicitDefEqProofs only [e_lit, e_var, e_glb, e_bin, e_bin1, e_bin2, e_neg, e_neg1, e_cmp, e_cmp1, e_cmp2, e_chn, e_chn1, e_chn2, e_chn3, e_chn4, e_isn, e_isn1, e_isn2, e_and, e_and1, e_and2, e_or, e_or1, e_or2, e_not, e_not1, e_ite, e_ite1, e_ite2, e_tup, e_tup1, e_lst, e_lst1, e_idx, e_idx1, e_idx2, e_slc, e_slc1, e_slc2, e_slc3, e_call, e_call1, e_prim, e_prim1, e_isi, e_isi1, e_isi2, e_meth, e_meth1, e_meth2, e_comp, e_comp1, e_tl, es_nil, es_cons, es_cons1, es_cons2, es_cons3, ep_nil, ep_cons, ep_cons1, eo_no, eo_so, eo_so1, ec_no, ec_so, ei_val, ei_val1, ei_rg, ei_rg1, ei_rg2, ei_rg3, ei_rg4, ei_enm, ei_enm1, ei_zip, ei_zip1, ei_zip2, ei_zip3, ei_rev, ei_rev1, c_nil, x_asg, x_asg1, x_asg2, x_asg3, x_par, x_par1, x_par3, x_par31, x_sub, x_sub1, x_sub2, x_sub3, x_sub4, x_sub5, x_aug, x_aug0, x_aug1, x_aug2, x_augS, x_augS1, x_augS2, x_augS3, x_augS4, x_augS5, x_ret, x_ret1, x_ret2, x_retN, x_ex, x_ex1, x_ex2, x_pass, x_brk, x_cnt, x_if, x_if1, x_if2, x_whl, x_fr, x_fr1, x_rs, x_tr, x_tr1, x_tr2, x_tr3, x_h, x_noX1, x_noX2, x_noX3, xs_nx, xs_rt, xs_bk, xs_ct, xs_ex, f_nil, t_nx, t_rt, t_exc, own_tl, own_int, own_bl, own_non, own_str, own_tup, own_ref, own_fl, xs_nil, xs_cons, start, bindT, bindTs, R.of_some, R.of_none, List.length_cons, List.length_nil, List.map_cons, List.map_nil, List.getElem?_cons_zero, List.getElem?_cons_succ, List.set_cons_zero, List.set_cons_succ, Nat.reduceAdd, Nat.reduceSub, List.cons_append, List.nil_append, List.append_nil, List.replicate, Nat.zero_add, reduceIte, Option.map_some, Option.map_none, fin_same, Bool.not_true, Bool.not_false, Bool.false_eq_true, tyD, primD, binD, sz0, sz1, sz2, sz3, sz4, sz5, sz6, sz7, sz8, nc0, nc1, nc2, nc3, nc4, nc5, nc6, nc7, nc8, Nat.reduceEqDiff, Option.bind_some, Int.reduceLE, Int.reduceLT, Int.reduceEq, Int.reduceToNat, Int.reduceAdd, Int.reduceSub, Int.reduceMul, Int.reduceNeg, Nat.reduceMul, ne_eq, not_false_eq_true, not_true_eq_false, decide_true, decide_false, Bool.and_true, Bool.true_and, Bool.or_false, Bool.false_or, Bool.or_true, Bool.true_or, Bool.and_false, Bool.false_and, beq_self_eq_true, tp, seqAny, seqOf, cmpD, idxD, at1, m1, setD, L2.ixN, d64, m0]
  | cons c cs' =>
    have hc := h1 c cs' rfl
    have f2 := fmod_range c hm
    refine ⟨_, c.fdiv m :: cs', s, f2.1, f2.2, hs, ?_⟩
    have hlen : (0 : Int) < ((cs'.length + 1 : Nat) : Int) := by omega
    simp -implicitDefEqProofs only [e_lit, e_var, e_glb, e_bin, e_bin1, e_bin2, e_neg, e_neg1, e_cmp, e_cmp1, e_cmp2, e_chn, e_chn1, e_chn2, e_chn3, e_chn4, e_isn, e_isn1, e_isn2, e_and, e_and1, e_and2, e_or, e_or1, e_or2, e_not, e_not1, e_ite, e_ite1, e_ite2, e_tup, e_tup1, e_lst, e_lst1, e_idx, e_idx1, e_idx2, e_slc, e_slc1, e_slc2, e_slc3, e_call, e_call1, e_prim, e_prim1, e_isi, e_isi1, e_isi2, e_meth, e_meth1, e_meth2, e_comp, e_comp1, e_tl, es_nil, es_cons, es_cons1, es_cons2, es_cons3, ep_nil, ep_cons, ep_cons1, eo_no, eo_so, eo_so1, ec_no, ec_so, ei_val, ei_val1, ei_rg, ei_rg1, ei_rg2, ei_rg3, ei_rg4, ei_enm, ei_enm1, ei_zip, ei_zip1, ei_zip2, ei_zip3, ei_rev, ei_rev1, c_nil, x_asg, x_asg1, x_asg2, x_asg3, x_par, x_par1, x_par3, x_par31, x_sub, x_sub1, x_sub2, x_sub3, x_sub4, x_sub5, x_aug, x_aug0, x_aug1, x_aug2, x_augS, x_augS1, x_augS2, x_augS3, x_augS4, x_augS5, x_ret, x_ret1, x_ret2, x_retN, x_ex, x_ex1, x_ex2, x_pass, x_brk, x_cnt, x_if, x_if1, x_if2, x_whl, x_fr, x_fr1, x_rs, x_tr, x_tr1, x_tr2, x_tr3, x_h, x_noX1, x_noX2, x_noX3, xs_nx, xs_rt, xs_bk, xs_ct, xs_ex, f_nil, t_nx, t_rt, t_exc, own_tl, own_int, own_bl, own_non, own_str, own_tup, own_ref, own_fl, xs_nil, xs_cons, start, bindT, bindTs, R.of_some, R.of_none, List.length_cons, List.length_nil, List.map_cons, List.map_nil, List.getElem?_cons_zero, List.getElem?_cons_succ, List.set_cons_zero, List.set_cons_succ, Nat.reduceAdd, Nat.reduceSub, List.cons_append, List.nil_append, List.append_nil, List.replicate, Nat.zero_add, reduceIte, Option.map_some, Option.map_none, fin_same, Bool.not_true, Bool.not_false, Bool.false_eq_true, tyD, primD, binD, sz0, sz1, sz2, sz3, sz4, sz5, sz6, sz7, sz8, nc0, nc1, nc2, nc3, nc4, nc5, nc6, nc7, nc8, Nat.reduceEqDiff, Option.bind_some, Int.reduceLE, Int.reduceLT, Int.reduceEq, Int.reduceToNat, Int.reduceAdd, Int.reduceSub, Int.reduceMul, Int.reduceNeg, Nat.reduceMul, ne_eq, not_false_eq_true, not_true_eq_false, decide_true, decide_false, Bool.and_true, Bool.true_and, Bool.or_false, Bool.false_or, Bool.or_true, Bool.true_or, Bool.and_false, Bool.false_and, beq_self_eq_true, F22, seqAny, seqOf, idxD, e0, at0, h2]
    simp -implicitDefEqProofs only [e_lit, e_var, e_glb, e_bin, e_bin1, e_bin2, e_neg, e_neg1, e_cmp, e_cmp1, e_cmp2, e_chn, e_chn1, e_chn2, e_chn3, e_chn4, e_isn, e_isn1, e_isn2, e_and, e_and1, e_and2, e_or, e_or1, e_or2, e_not, e_not1, e_ite, e_ite1, e_ite2, e_tup, e_tup1, e_lst, e_lst1, e_idx, e_idx1, e_idx2, e_slc, e_slc1, e_slc2, e_slc3, e_call, e_call1, e_prim, e_prim1, e_isi, e_isi1, e_isi2, e_meth, e_meth1, e_meth2, e_comp, e_comp1, e_tl, es_nil, es_cons, es_cons1, es_cons2, es_cons3, ep_nil, ep_cons, ep_cons1, eo_no, eo_so, eo_so1, ec_no, ec_so, ei_val, ei_val1, ei_rg, ei_rg1, ei_rg2, ei_rg3, ei_rg4, ei_enm, ei_enm1, ei_zip, ei_zip1, ei_zip2, ei_zip3, ei_rev, ei_rev1, c_nil, x_asg, x_asg1, x_asg2, x_asg3, x_par, x_par1, x_par3, x_par31, x_sub, x_sub1, x_sub2, x_sub3, x_sub4, x_sub5, x_aug, x_aug0, x_aug1, x_aug2, x_augS, x_augS1, x_augS2, x_augS3, x_augS4, x_augS5, x_ret, x_ret1, x_ret2, x_retN, x_ex, x_ex1, x_ex2, x_pass, x_brk, x_cnt, x_if, x_if1, x_if2, x_whl, x_fr, x_fr1, x_rs, x_tr, x_tr1, x_tr2, x_tr3, x_h, x_noX1, x_noX2, x_noX3, xs_nx, xs_rt, xs_bk, xs_ct, xs_ex, f_nil, t_nx, t_rt, t_exc, own_tl, own_int, own_bl, own_non, own_str, own_tup, own_ref, own_fl, xs_nil, xs_cons, start, bindT, bindTs, R.of_some, R.of_none, List.length_cons, List.length_nil, List.map_cons, List.map_nil, List.getElem?_cons_zero, List.getElem?_cons_succ, List.set_cons_zero, List.set_cons_succ, Nat.reduceAdd, Nat.reduceSub, List.cons_append, List.nil_append, List.append_nil, List.replicate, Nat.zero_add, reduceIte, Option.map_some, Option.map_none, fin_same, Bool.not_true, Bool.not_false, Bool.false_eq_true, tyD, primD, binD, sz0, sz1, sz2, sz3, sz4, sz5, sz6, sz7, sz8, nc0, nc1, nc2, nc3, nc4, nc5, nc6, nc7, nc8, Nat.reduceEqDiff, Option.bind_some, Int.reduceLE, Int.reduceLT, Int.reduceEq, Int.reduceToNat, Int.reduceAdd, Int.reduceSub, Int.reduceMul, Int.reduceNeg, Nat.reduceMul, ne_eq, not_false_eq_true, not_true_eq_false, decide_true, decide_false, Bool.and_true, Bool.true_and, Bool.or_false, Bool.false_or, Bool.or_true, Bool.true_or, Bool.and_false, Bool.false_and, beq_self_eq_true, tp, seqAny, seqOf, cmpD, idxD, at0, List.length_map, decide_eq_true hlen, dm, setD, L2.ixN]
    simp
    simp -implicitDefEqProofs only [e_lit, e_var, e_glb, e_bin, e_bin1, e_bin2, e_neg, e_neg1, e_cmp, e_cmp1, e_cmp2, e_chn, e_chn1, e_chn2, e_chn3, e_chn4, e_isn, e_isn1, e_isn2, e_and, e_and1, e_and2, e_or, e_or1, e_or2, e_not, e_not1, e_ite, e_ite1, e_ite2, e_tup, e_tup1, e_lst, e_lst1, e_idx, e_idx1, e_idx2, e_slc, e_slc1, e_slc2, e_slc3, e_call, e_call1, e_prim, e_prim1, e_isi, e_isi1, e_isi2, e_meth, e_meth1, e_meth2, e_comp, e_comp1, e_tl, es_nil, es_cons, es_cons1, es_cons2, es_cons3, ep_nil, ep_cons, ep_cons1, eo_no, eo_so, eo_so1, ec_no, ec_so, ei_val, ei_val1, ei_rg, ei_rg1, ei_rg2, ei_rg3, ei_rg4, ei_enm, ei_enm1, ei_zip, ei_zip1, ei_zip2, ei_zip3, ei_rev, ei_rev1, c_nil, x_asg, x_asg1, x_asg2, x_asg3, x_par, x_par1, x_par3, x_par31, x_sub, x_sub1, x_sub2, x_sub3, x_sub4, x_sub5, x_aug, x_aug0, x_aug1, x_aug2, x_augS, x_augS1, x_augS2, x_augS3, x_augS4, x_augS5, x_ret, x_ret1, x_ret2, x_retN, x_ex, x_ex1, x_ex2, x_pass, x_brk, x_cnt, x_if, x_if1, x_if2, x_whl, x_fr, x_fr1, x_rs, x_tr, x_tr1, x_tr2, x_tr3, x_h, x_noX1, x_noX2, x_noX3, xs_nx, xs_rt, xs_bk, xs_ct, xs_ex, f_nil, t_nx, t_rt, t_exc, own_tl, own_int, own_bl, own_non, own_str, own_tup, own_ref, own_fl, xs_nil, xs_cons, start, bindT, bindTs, R.of_some, R.of_none, List.length_cons, List.length_nil, List.map_cons, List.map_nil, List.getElem?_cons_zero, List.getElem?_cons_succ, List.set_cons_zero, List.set_cons_succ, Nat.reduceAdd, Nat.reduceSub, List.cons_append, List.nil_append, List.append_nil, List.replicate, Nat.zero_add, reduceIte, Option.map_some, Option.map_none, fin_same, Bool.not_true, Bool.not_false, Bool.false_eq_true, tyD, primD, binD, sz0, sz1, sz2, sz3, sz4, sz5, sz6, sz7, sz8, nc0, nc1, nc2, nc3, nc4, nc5, nc6, nc7, nc8, Nat.reduceEqDiff, Option.bind_some, Int.reduceLE, Int.reduceLT, Int.reduceEq, Int.reduceToNat, Int.reduceAdd, Int.reduceSub, Int.reduceMul, Int.reduceNeg, Nat.reduceMul, ne_eq, not_false_eq_true, not_true_eq_false, decide_true, decide_false, Bool.and_true, Bool.true_and, Bool.or_false, Bool.false_or, Bool.or_true, Bool.true_or, Bool.and_false, Bool.false_and, beq_self_eq_true, m0]
end
end Ev

set_option Elab.async false
set_option linter.all false
set_option maxRecDepth 100000
/-! # Part D: the laws' tape, the laws' likeness -/
namespace Ev
open Law
section
variable {Γ : Nat → Option Fd} {k : Nat} {η : Hep}
theorem tape_ok (h : Γ 21 = some F21) (ns : List Int) (hl : ns.length ≤ 63) : ∃ (cs : List Int) (s : Int), (0 ≤ s ∧ s < 2147483647) ∧ callN Γ (k + 1) 21 [.fl (ns.map .int)] [] = .ok (.tl [.ref 0, .int s]) [.lst (cs.map .int)] := by
  obtain ⟨ρ', η', e, s, x2, rfl, hs, rfl⟩ := f_all (C := callN Γ k) (b := .cons (.asg (.nm 1) (.bin .mod (.prim .int (.cons (.bin .add (.bin .mul (.var 1) (.lit (.int 31))) (.var 2)) .nil)) (.lit (.int 1000003)))) .nil) (t := .nm 2) (w := [])
    (fun _ ρ η => ∃ s x2, ρ = [some (.fl (ns.map .int)), some (.int s), x2] ∧ (0 ≤ s ∧ s < 1000003) ∧ η = []) (ns.map .int) (ρ := [some (.fl (ns.map .int)), some (.int 7), none]) (η := []) ⟨7, none, rfl, by decide, rfl⟩ (by
      rintro i x hx ρ η ⟨s, x2, rfl, hs, rfl⟩
      rw [List.getElem?_map] at hx
      cases hn : ns[i]? with
      | none => rw [hn] at hx; cases hx
      | some c =>
        rw [hn] at hx
        cases hx
        have m1 : mulOk s 31 = true := mulOk_of (n := 31) (m := 16) (by omega) (by decide) (by decide)
        have f1 := fmod_range (s * 31 + c) (m := 1000003) (by decide)
        refine ⟨_, [some (.fl (ns.map .int)), some (.int ((s * 31 + c).fmod 1000003)), some (.int c)], [], rfl, ?_, rfl, _, some (.int c), rfl, f1, rfl⟩
        simp -implicitDefEqProofs only [e_lit, e_var, e_glb, e_bin, e_bin1, e_bin2, e_neg, e_neg1, e_cmp, e_cmp1, e_cmp2, e_chn, e_chn1, e_chn2, e_chn3, e_chn4, e_isn, e_isn1, e_isn2, e_and, e_and1, e_and2, e_or, e_or1, e_or2, e_not, e_not1, e_ite, e_ite1, e_ite2, e_tup, e_tup1, e_lst, e_lst1, e_idx, e_idx1, e_idx2, e_slc, e_slc1, e_slc2, e_slc3, e_call, e_call1, e_prim, e_prim1, e_isi, e_isi1, e_isi2, e_meth, e_meth1, e_meth2, e_comp, e_comp1, e_tl, es_nil, es_cons, es_cons1, es_cons2, es_cons3, ep_nil, ep_cons, ep_cons1, eo_no, eo_so, eo_so1, ec_no, ec_so, ei_val, ei_val1, ei_rg, ei_rg1, ei_rg2, ei_rg3, ei_rg4, ei_enm, ei_enm1, ei_zip, ei_zip1, ei_zip2, ei_zip3, ei_rev, ei_rev1, c_nil, x_asg, x_asg1, x_asg2, x_asg3, x_par, x_par1, x_par3, x_par31, x_sub, x_sub1, x_sub2, x_sub3, x_sub4, x_sub5, x_aug, x_aug0, x_aug1, x_aug2, x_augS, x_augS1, x_augS2, x_augS3, x_augS4, x_augS5, x_ret, x_ret1, x_ret2, x_retN, x_ex, x_ex1, x_ex2, x_pass, x_brk, x_cnt, x_if, x_if1, x_if2, x_whl, x_fr, x_fr1, x_rs, x_tr, x_tr1, x_tr2, x_tr3, x_h, x_noX1, x_noX2, x_noX3, xs_nx, xs_rt, xs_bk, xs_ct, xs_ex, f_nil, t_nx, t_rt, t_exc, own_tl, own_int, own_bl, own_non, own_str, own_tup, own_ref, own_fl, xs_nil, xs_cons, start, bindT, bindTs, R.of_some, R.of_none, List.length_cons, List.length_nil, List.map_cons, List.map_nil, List.getElem?_cons_zero, List.getElem?_cons_succ, List.set_cons_zero, List.set_cons_succ, Nat.reduceAdd, Nat.reduceSub, List.cons_append, List.nil_append, List.append_nil, List.replicate, Nat.zero_add, reduceIte, Option.map_some, Option.map_none, fin_same, Bool.not_true, Bool.not_false, Bool.false_eq_true, tyD, primD, binD, sz0, sz1, sz2, sz3, sz4, sz5, sz6, sz7, sz8, nc0, nc1, nc2, nc3, nc4, nc5, nc6, nc7, nc8, Nat.reduceEqDiff, Option.bind_some, Int.reduceLE, Int.reduceLT, Int.reduceEq, Int.reduceToNat, Int.reduceAdd, Int.reduceSub, Int.reduceMul, Int.reduceNeg, Nat.reduceMul, ne_eq, not_false_eq_true, not_true_eq_false, decide_true, decide_false, Bool.and_true, Bool.true_and, Bool.or_false, Bool.false_or, Bool.or_true, Bool.true_or, Bool.and_false, Bool.false_and, beq_self_eq_true, m1])
  have wk : watchOk ([] : Hep) [] = true := rfl
  have cm := c_map (C := callN Γ k) (elt := .prim .abs (.cons (.prim .int (.cons (.var 2) .nil)) .nil)) (t := .nm 2) (w := []) (ρ := [some (.fl (ns.map .int)), some (.int s), none]) wk D.int (fun c => .int (c.natAbs : Int)) ns [] (by
    have : (63 : Nat) ≤ PySem.sizeLine := by decide
    simpa using Nat.le_trans hl this) (fun a ha => ⟨_, rfl, by simp -implicitDefEqProofs only [e_lit, e_var, e_glb, e_bin, e_bin1, e_bin2, e_neg, e_neg1, e_cmp, e_cmp1, e_cmp2, e_chn, e_chn1, e_chn2, e_chn3, e_chn4, e_isn, e_isn1, e_isn2, e_and, e_and1, e_and2, e_or, e_or1, e_or2, e_not, e_not1, e_ite, e_ite1, e_ite2, e_tup, e_tup1, e_lst, e_lst1, e_idx, e_idx1, e_idx2, e_slc, e_slc1, e_slc2, e_slc3, e_call, e_call1, e_prim, e_prim1, e_isi, e_isi1, e_isi2, e_meth, e_meth1, e_meth2, e_comp, e_comp1, e_tl, es_nil, es_cons, es_cons1, es_cons2, es_cons3, ep_nil, ep_cons, ep_cons1, eo_no, eo_so, eo_so1, ec_no, ec_so, ei_val, ei_val1, ei_rg, ei_rg1, ei_rg2, ei_rg3, ei_rg4, ei_enm, ei_enm1, ei_zip, ei_zip1, ei_zip2, ei_zip3, ei_rev, ei_rev1, c_nil, x_asg, x_asg1, x_asg2, x_asg3, x_par, x_par1, x_par3, x_par31, x_sub, x_sub1, x_sub2, x_sub3, x_sub4, x_sub5, x_aug, x_aug0, x_aug1, x_aug2, x_augS, x_augS1, x_augS2, x_augS3, x_augS4, x_augS5, x_ret, x_ret1, x_ret2, x_retN, x_ex, x_ex1, x_ex2, x_pass, x_brk, x_cnt, x_if, x_if1, x_if2, x_whl, x_fr, x_fr1, x_rs, x_tr, x_tr1, x_tr2, x_tr3, x_h, x_noX1, x_noX2, x_noX3, xs_nx, xs_rt, xs_bk, xs_ct, xs_ex, f_nil, t_nx, t_rt, t_exc, own_tl, own_int, own_bl, own_non, own_str, own_tup, own_ref, own_fl, xs_nil, xs_cons, start, bindT, bindTs, R.of_some, R.of_none, List.length_cons, List.length_nil, List.map_cons, List.map_nil, List.getElem?_cons_zero, List.getElem?_cons_succ, List.set_cons_zero, List.set_cons_succ, Nat.reduceAdd, Nat.reduceSub, List.cons_append, List.nil_append, List.append_nil, List.replicate, Nat.zero_add, reduceIte, Option.map_some, Option.map_none, fin_same, Bool.not_true, Bool.not_false, Bool.false_eq_true, tyD, primD, binD, sz0, sz1, sz2, sz3, sz4, sz5, sz6, sz7, sz8, nc0, nc1, nc2, nc3, nc4, nc5, nc6, nc7, nc8, Nat.reduceEqDiff, Option.bind_some, Int.reduceLE, Int.reduceLT, Int.reduceEq, Int.reduceToNat, Int.reduceAdd, Int.reduceSub, Int.reduceMul, Int.reduceNeg, Nat.reduceMul, ne_eq, not_false_eq_true, not_true_eq_false, decide_true, decide_false, Bool.and_true, Bool.true_and, Bool.or_false, Bool.false_or, Bool.or_true, Bool.true_or, Bool.and_false, Bool.false_and, beq_self_eq_true, abs_eq], rfl⟩)
  refine ⟨ns.map fun c => (c.natAbs : Int), s + 1, by omega, ?_⟩
  rw [call_eq h rfl]
  simp -implicitDefEqProofs only [e_lit, e_var, e_glb, e_bin, e_bin1, e_bin2, e_neg, e_neg1, e_cmp, e_cmp1, e_cmp2, e_chn, e_chn1, e_chn2, e_chn3, e_chn4, e_isn, e_isn1, e_isn2, e_and, e_and1, e_and2, e_or, e_or1, e_or2, e_not, e_not1, e_ite, e_ite1, e_ite2, e_tup, e_tup1, e_lst, e_lst1, e_idx, e_idx1, e_idx2, e_slc, e_slc1, e_slc2, e_slc3, e_call, e_call1, e_prim, e_prim1, e_isi, e_isi1, e_isi2, e_meth, e_meth1, e_meth2, e_comp, e_comp1, e_tl, es_nil, es_cons, es_cons1, es_cons2, es_cons3, ep_nil, ep_cons, ep_cons1, eo_no, eo_so, eo_so1, ec_no, ec_so, ei_val, ei_val1, ei_rg, ei_rg1, ei_rg2, ei_rg3, ei_rg4, ei_enm, ei_enm1, ei_zip, ei_zip1, ei_zip2, ei_zip3, ei_rev, ei_rev1, c_nil, x_asg, x_asg1, x_asg2, x_asg3, x_par, x_par1, x_par3, x_par31, x_sub, x_sub1, x_sub2, x_sub3, x_sub4, x_sub5, x_aug, x_aug0, x_aug1, x_aug2, x_augS, x_augS1, x_augS2, x_augS3, x_augS4, x_augS5, x_ret, x_ret1, x_ret2, x_retN, x_ex, x_ex1, x_ex2, x_pass, x_brk, x_cnt, x_if, x_if1, x_if2, x_whl, x_fr, x_fr1, x_rs, x_tr, x_tr1, x_tr2, x_tr3, x_h, x_noX1, x_noX2, x_noX3, xs_nx, xs_rt, xs_bk, xs_ct, xs_ex, f_nil, t_nx, t_rt, t_exc, own_tl, own_int, own_bl, own_non, own_str, own_tup, own_ref, own_fl, xs_nil, xs_cons, start, bindT, bindTs, R.of_some, R.of_none, List.length_cons, List.length_nil, List.map_cons, List.map_nil, List.getElem?_cons_zero, List.getElem?_cons_succ, List.set_cons_zero, List.set_cons_succ, Nat.reduceAdd, Nat.reduceSub, List.cons_append, List.nil_append, List.append_nil, List.replicate, Nat.zero_add, reduceIte, Option.map_some, Option.map_none, fin_same, Bool.not_true, Bool.not_false, Bool.false_eq_true, tyD, primD, binD, sz0, sz1, sz2, sz3, sz4, sz5, sz6, sz7, sz8, nc0, nc1, nc2, nc3, nc4, nc5, nc6, nc7, nc8, Nat.reduceEqDiff, Option.bind_some, Int.reduceLE, Int.reduceLT, Int.reduceEq, Int.reduceToNat, Int.reduceAdd, Int.reduceSub, Int.reduceMul, Int.reduceNeg, Nat.reduceMul, ne_eq, not_false_eq_true, not_true_eq_false, decide_true, decide_false, Bool.and_true, Bool.true_and, Bool.or_false, Bool.false_or, Bool.or_true, Bool.true_or, Bool.and_false, Bool.false_and, beq_self_eq_true, F21, seqAny, seqOf, watchOf, e]
  simp -implicitDefEqProofs only [e_lit, e_var, e_glb, e_bin, e_bin1, e_bin2, e_neg, e_neg1, e_cmp, e_cmp1, e_cmp2, e_chn, e_chn1, e_chn2, e_chn3, e_chn4, e_isn, e_isn1, e_isn2, e_and, e_and1, e_and2, e_or, e_or1, e_or2, e_not, e_not1, e_ite, e_ite1, e_ite2, e_tup, e_tup1, e_lst, e_lst1, e_idx, e_idx1, e_idx2, e_slc, e_slc1, e_slc2, e_slc3, e_call, e_call1, e_prim, e_prim1, e_isi, e_isi1, e_isi2, e_meth, e_meth1, e_meth2, e_comp, e_comp1, e_tl, es_nil, es_cons, es_cons1, es_cons2, es_cons3, ep_nil, ep_cons, ep_cons1, eo_no, eo_so, eo_so1, ec_no, ec_so, ei_val, ei_val1, ei_rg, ei_rg1, ei_rg2, ei_rg3, ei_rg4, ei_enm, ei_enm1, ei_zip, ei_zip1, ei_zip2, ei_zip3, ei_rev, ei_rev1, c_nil, x_asg, x_asg1, x_asg2, x_asg3, x_par, x_par1, x_par3, x_par31, x_sub, x_sub1, x_sub2, x_sub3, x_sub4, x_sub5, x_aug, x_aug0, x_aug1, x_aug2, x_augS, x_augS1, x_augS2, x_augS3, x_augS4, x_augS5, x_ret, x_ret1, x_ret2, x_retN, x_ex, x_ex1, x_ex2, x_pass, x_brk, x_cnt, x_if, x_if1, x_if2, x_whl, x_fr, x_fr1, x_rs, x_tr, x_tr1, x_tr2, x_tr3, x_h, x_noX1, x_noX2, x_noX3, xs_nx, xs_rt, xs_bk, xs_ct, xs_ex, f_nil, t_nx, t_rt, t_exc, own_tl, own_int, own_bl, own_non, own_str, own_tup, own_ref, own_fl, xs_nil, xs_cons, start, bindT, bindTs, R.of_some, R.of_none, List.length_cons, List.length_nil, List.map_cons, List.map_nil, List.getElem?_cons_zero, List.getElem?_cons_succ, List.set_cons_zero, List.set_cons_succ, Nat.reduceAdd, Nat.reduceSub, List.cons_append, List.nil_append, List.append_nil, List.replicate, Nat.zero_add, reduceIte, Option.map_some, Option.map_none, fin_same, Bool.not_true, Bool.not_false, Bool.false_eq_true, tyD, primD, binD, sz0, sz1, sz2, sz3, sz4, sz5, sz6, sz7, sz8, nc0, nc1, nc2, nc3, nc4, nc5, nc6, nc7, nc8, Nat.reduceEqDiff, Option.bind_some, Int.reduceLE, Int.reduceLT, Int.reduceEq, Int.reduceToNat, Int.reduceAdd, Int.reduceSub, Int.reduceMul, Int.reduceNeg, Nat.reduceMul, ne_eq, not_false_eq_true, not_true_eq_false, decide_true, decide_false, Bool.and_true, Bool.true_and, Bool.or_false, Bool.false_or, Bool.or_true, Bool.true_or, Bool.and_false, Bool.false_and, beq_self_eq_true, wipe, cm, List.map_map]
  rfl
theorem rng_map (n : Nat) : rng 0 n = (List.range n).map fun k : Nat => D.int (k : Int) := by
  unfold rng
  simp
theorem big_len {n : Nat} (h : n ≤ PySem.sizeLine) : big (n : Int) = true := by
  have : PySem.sizeLine ≤ 2 ^ 61 := by decide
  unfold big
  exact decide_eq_true (by omega)
theorem all_true {α : Type} (as : List α) : (as.map fun _ => true).all id = true := by
  induction as with
  | nil => rfl
  | cons a as ih => simp [ih]
theorem same_int (h : Γ 24 = some F24) (a : Int) : callN Γ (k + 1) 24 [.int a, .int a] η = .ok (.bl true) η := by
  rw [call_eq h rfl]
  have nn : decide (D.int a = D.non) = false := decide_eq_false (by simp)
  simp -implicitDefEqProofs only [e_lit, e_var, e_glb, e_bin, e_bin1, e_bin2, e_neg, e_neg1, e_cmp, e_cmp1, e_cmp2, e_chn, e_chn1, e_chn2, e_chn3, e_chn4, e_isn, e_isn1, e_isn2, e_and, e_and1, e_and2, e_or, e_or1, e_or2, e_not, e_not1, e_ite, e_ite1, e_ite2, e_tup, e_tup1, e_lst, e_lst1, e_idx, e_idx1, e_idx2, e_slc, e_slc1, e_slc2, e_slc3, e_call, e_call1, e_prim, e_prim1, e_isi, e_isi1, e_isi2, e_meth, e_meth1, e_meth2, e_comp, e_comp1, e_tl, es_nil, es_cons, es_cons1, es_cons2, es_cons3, ep_nil, ep_cons, ep_cons1, eo_no, eo_so, eo_so1, ec_no, ec_so, ei_val, ei_val1, ei_rg, ei_rg1, ei_rg2, ei_rg3, ei_rg4, ei_enm, ei_enm1, ei_zip, ei_zip1, ei_zip2, ei_zip3, ei_rev, ei_rev1, c_nil, x_asg, x_asg1, x_asg2, x_asg3, x_par, x_par1, x_par3, x_par31, x_sub, x_sub1, x_sub2, x_sub3, x_sub4, x_sub5, x_aug, x_aug0, x_aug1, x_aug2, x_augS, x_augS1, x_augS2, x_augS3, x_augS4, x_augS5, x_ret, x_ret1, x_ret2, x_retN, x_ex, x_ex1, x_ex2, x_pass, x_brk, x_cnt, x_if, x_if1, x_if2, x_whl, x_fr, x_fr1, x_rs, x_tr, x_tr1, x_tr2, x_tr3, x_h, x_noX1, x_noX2, x_noX3, xs_nx, xs_rt, xs_bk, xs_ct, xs_ex, f_nil, t_nx, t_rt, t_exc, own_tl, own_int, own_bl, own_non, own_str, own_tup, own_ref, own_fl, xs_nil, xs_cons, start, bindT, bindTs, R.of_some, R.of_none, List.length_cons, List.length_nil, List.map_cons, List.map_nil, List.getElem?_cons_zero, List.getElem?_cons_succ, List.set_cons_zero, List.set_cons_succ, Nat.reduceAdd, Nat.reduceSub, List.cons_append, List.nil_append, List.append_nil, List.replicate, Nat.zero_add, reduceIte, Option.map_some, Option.map_none, fin_same, Bool.not_true, Bool.not_false, Bool.false_eq_true, tyD, primD, binD, sz0, sz1, sz2, sz3, sz4, sz5, sz6, sz7, sz8, nc0, nc1, nc2, nc3, nc4, nc5, nc6, nc7, nc8, Nat.reduceEqDiff, Option.bind_some, Int.reduceLE, Int.reduceLT, Int.reduceEq, Int.reduceToNat, Int.reduceAdd, Int.reduceSub, Int.reduceMul, Int.reduceNeg, Nat.reduceMul, ne_eq, not_false_eq_true, not_true_eq_false, decide_true, decide_false, Bool.and_true, Bool.true_and, Bool.or_false, Bool.false_or, Bool.or_true, Bool.true_or, Bool.and_false, Bool.false_and, beq_self_eq_true, F24, nn, cmpD, eqD_int]
theorem eqD_str {a b : PySem.Str} {η : Hep} : eqD (.str a) (.str b) η = some (decide (a = b)) := by
  simp [eqD, opn, seqOf, D.plain1, D.plain, D.dep, D.eq]
theorem eqD_bl {a b : Bool} {η : Hep} : eqD (.bl a) (.bl b) η = some (a == b) := by
  simp [eqD, opn, seqOf, D.plain1, D.plain, D.dep, D.eq]
theorem same_str (h : Γ 24 = some F24) (a : PySem.Str) : callN Γ (k + 1) 24 [.str a, .str a] η = .ok (.bl true) η := by
  rw [call_eq h rfl]
  have nn : decide (D.str a = D.non) = false := decide_eq_false (by simp)
  simp -implicitDefEqProofs only [e_lit, e_var, e_glb, e_bin, e_bin1, e_bin2, e_neg, e_neg1, e_cmp, e_cmp1, e_cmp2, e_chn, e_chn1, e_chn2, e_chn3, e_chn4, e_isn, e_isn1, e_isn2, e_and, e_and1, e_and2, e_or, e_or1, e_or2, e_not, e_not1, e_ite, e_ite1, e_ite2, e_tup, e_tup1, e_lst, e_lst1, e_idx, e_idx1, e_idx2, e_slc, e_slc1, e_slc2, e_slc3, e_call, e_call1, e_prim, e_prim1, e_isi, e_isi1, e_isi2, e_meth, e_meth1, e_meth2, e_comp, e_comp1, e_tl, es_nil, es_cons, es_cons1, es_cons2, es_cons3, ep_nil, ep_cons, ep_cons1, eo_no, eo_so, eo_so1, ec_no, ec_so, ei_val, ei_val1, ei_rg, ei_rg1, ei_rg2, ei_rg3, ei_rg4, ei_enm, ei_enm1, ei_zip, ei_zip1, ei_zip2, ei_zip3, ei_rev, ei_rev1, c_nil, x_asg, x_asg1, x_asg2, x_asg3, x_par, x_par1, x_par3, x_par31, x_sub, x_sub1, x_sub2, x_sub3, x_sub4, x_sub5, x_aug, x_aug0, x_aug1, x_aug2, x_augS, x_augS1, x_augS2, x_augS3, x_augS4, x_augS5, x_ret, x_ret1, x_ret2, x_retN, x_ex, x_ex1, x_ex2, x_pass, x_brk, x_cnt, x_if, x_if1, x_if2, x_whl, x_fr, x_fr1, x_rs, x_tr, x_tr1, x_tr2, x_tr3, x_h, x_noX1, x_noX2, x_noX3, xs_nx, xs_rt, xs_bk, xs_ct, xs_ex, f_nil, t_nx, t_rt, t_exc, own_tl, own_int, own_bl, own_non, own_str, own_tup, own_ref, own_fl, xs_nil, xs_cons, start, bindT, bindTs, R.of_some, R.of_none, List.length_cons, List.length_nil, List.map_cons, List.map_nil, List.getElem?_cons_zero, List.getElem?_cons_succ, List.set_cons_zero, List.set_cons_succ, Nat.reduceAdd, Nat.reduceSub, List.cons_append, List.nil_append, List.append_nil, List.replicate, Nat.zero_add, reduceIte, Option.map_some, Option.map_none, fin_same, Bool.not_true, Bool.not_false, Bool.false_eq_true, tyD, primD, binD, sz0, sz1, sz2, sz3, sz4, sz5, sz6, sz7, sz8, nc0, nc1, nc2, nc3, nc4, nc5, nc6, nc7, nc8, Nat.reduceEqDiff, Option.bind_some, Int.reduceLE, Int.reduceLT, Int.reduceEq, Int.reduceToNat, Int.reduceAdd, Int.reduceSub, Int.reduceMul, Int.reduceNeg, Nat.reduceMul, ne_eq, not_false_eq_true, not_true_eq_false, decide_true, decide_false, Bool.and_true, Bool.true_and, Bool.or_false, Bool.false_or, Bool.or_true, Bool.true_or, Bool.and_false, Bool.false_and, beq_self_eq_true, F24, nn, cmpD, eqD_str]
theorem same_items (xs : List D) {ρ : Lo} {d1 d2 : D} (s1 : ∀ i : Int, idxD d1 (.int i) η = at_ xs i) (s2 : ∀ i : Int, idxD d2 (.int i) η = at_ xs i) (hl : xs.length ≤ PySem.sizeLine)
    (hx : ∀ x ∈ xs, callN Γ k 24 [x, x] η = .ok (.bl true) η ∧ own x η = .ok x η) :
    cE (callN Γ k) (.call 24 (.cons (.idx (.var 0) (.var 2)) (.cons (.idx (.var 1) (.var 2)) .nil))) .no (.nm 2) [] [some d1, some d2, none] (rng 0 xs.length) η [] = .ok ((List.range xs.length).map fun _ => .bl true) η := by
  rw [rng_map]
  rw [c_map (w := []) rfl (fun k : Nat => D.int (k : Int)) (fun _ => .bl true) (List.range xs.length) [] (by simpa using hl) ?_]
  · rfl
  intro i hi
  have hi := List.mem_range.mp hi
  obtain ⟨e1, e2⟩ := hx xs[i] (List.getElem_mem hi)
  have ei : at_ xs (i : Int) = some xs[i] := by rw [at_nat, List.getElem?_eq_getElem hi]
  refine ⟨_, rfl, ?_, rfl⟩
  simp -implicitDefEqProofs only [e_lit, e_var, e_glb, e_bin, e_bin1, e_bin2, e_neg, e_neg1, e_cmp, e_cmp1, e_cmp2, e_chn, e_chn1, e_chn2, e_chn3, e_chn4, e_isn, e_isn1, e_isn2, e_and, e_and1, e_and2, e_or, e_or1, e_or2, e_not, e_not1, e_ite, e_ite1, e_ite2, e_tup, e_tup1, e_lst, e_lst1, e_idx, e_idx1, e_idx2, e_slc, e_slc1, e_slc2, e_slc3, e_call, e_call1, e_prim, e_prim1, e_isi, e_isi1, e_isi2, e_meth, e_meth1, e_meth2, e_comp, e_comp1, e_tl, es_nil, es_cons, es_cons1, es_cons2, es_cons3, ep_nil, ep_cons, ep_cons1, eo_no, eo_so, eo_so1, ec_no, ec_so, ei_val, ei_val1, ei_rg, ei_rg1, ei_rg2, ei_rg3, ei_rg4, ei_enm, ei_enm1, ei_zip, ei_zip1, ei_zip2, ei_zip3, ei_rev, ei_rev1, c_nil, x_asg, x_asg1, x_asg2, x_asg3, x_par, x_par1, x_par3, x_par31, x_sub, x_sub1, x_sub2, x_sub3, x_sub4, x_sub5, x_aug, x_aug0, x_aug1, x_aug2, x_augS, x_augS1, x_augS2, x_augS3, x_augS4, x_augS5, x_ret, x_ret1, x_ret2, x_retN, x_ex, x_ex1, x_ex2, x_pass, x_brk, x_cnt, x_if, x_if1, x_if2, x_whl, x_fr, x_fr1, x_rs, x_tr, x_tr1, x_tr2, x_tr3, x_h, x_noX1, x_noX2, x_noX3, xs_nx, xs_rt, xs_bk, xs_ct, xs_ex, f_nil, t_nx, t_rt, t_exc, own_tl, own_int, own_bl, own_non, own_str, own_tup, own_ref, own_fl, xs_nil, xs_cons, start, bindT, bindTs, R.of_some, R.of_none, List.length_cons, List.length_nil, List.map_cons, List.map_nil, List.getElem?_cons_zero, List.getElem?_cons_succ, List.set_cons_zero, List.set_cons_succ, Nat.reduceAdd, Nat.reduceSub, List.cons_append, List.nil_append, List.append_nil, List.replicate, Nat.zero_add, reduceIte, Option.map_some, Option.map_none, fin_same, Bool.not_true, Bool.not_false, Bool.false_eq_true, tyD, primD, binD, sz0, sz1, sz2, sz3, sz4, sz5, sz6, sz7, sz8, nc0, nc1, nc2, nc3, nc4, nc5, nc6, nc7, nc8, Nat.reduceEqDiff, Option.bind_some, Int.reduceLE, Int.reduceLT, Int.reduceEq, Int.reduceToNat, Int.reduceAdd, Int.reduceSub, Int.reduceMul, Int.reduceNeg, Nat.reduceMul, ne_eq, not_false_eq_true, not_true_eq_false, decide_true, decide_false, Bool.and_true, Bool.true_and, Bool.or_false, Bool.false_or, Bool.or_true, Bool.true_or, Bool.and_false, Bool.false_and, beq_self_eq_true, s1, s2, ei, e2, e1]
theorem same_tup (h : Γ 24 = some F24) {xs : List D} (hl : xs.length ≤ PySem.sizeLine) (hx : ∀ x ∈ xs, callN Γ k 24 [x, x] η = .ok (.bl true) η ∧ own x η = .ok x η) : callN Γ (k + 1) 24 [.tup xs, .tup xs] η = .ok (.bl true) η := by
  rw [call_eq h rfl]
  have nn : decide (D.tup xs = D.non) = false := decide_eq_false (by simp)
  have it := same_items (η := η) xs (ρ := []) (d1 := .tup xs) (d2 := .tup xs) (fun _ => rfl) (fun _ => rfl) hl hx
  simp -implicitDefEqProofs only [e_lit, e_var, e_glb, e_bin, e_bin1, e_bin2, e_neg, e_neg1, e_cmp, e_cmp1, e_cmp2, e_chn, e_chn1, e_chn2, e_chn3, e_chn4, e_isn, e_isn1, e_isn2, e_and, e_and1, e_and2, e_or, e_or1, e_or2, e_not, e_not1, e_ite, e_ite1, e_ite2, e_tup, e_tup1, e_lst, e_lst1, e_idx, e_idx1, e_idx2, e_slc, e_slc1, e_slc2, e_slc3, e_call, e_call1, e_prim, e_prim1, e_isi, e_isi1, e_isi2, e_meth, e_meth1, e_meth2, e_comp, e_comp1, e_tl, es_nil, es_cons, es_cons1, es_cons2, es_cons3, ep_nil, ep_cons, ep_cons1, eo_no, eo_so, eo_so1, ec_no, ec_so, ei_val, ei_val1, ei_rg, ei_rg1, ei_rg2, ei_rg3, ei_rg4, ei_enm, ei_enm1, ei_zip, ei_zip1, ei_zip2, ei_zip3, ei_rev, ei_rev1, c_nil, x_asg, x_asg1, x_asg2, x_asg3, x_par, x_par1, x_par3, x_par31, x_sub, x_sub1, x_sub2, x_sub3, x_sub4, x_sub5, x_aug, x_aug0, x_aug1, x_aug2, x_augS, x_augS1, x_augS2, x_augS3, x_augS4, x_augS5, x_ret, x_ret1, x_ret2, x_retN, x_ex, x_ex1, x_ex2, x_pass, x_brk, x_cnt, x_if, x_if1, x_if2, x_whl, x_fr, x_fr1, x_rs, x_tr, x_tr1, x_tr2, x_tr3, x_h, x_noX1, x_noX2, x_noX3, xs_nx, xs_rt, xs_bk, xs_ct, xs_ex, f_nil, t_nx, t_rt, t_exc, own_tl, own_int, own_bl, own_non, own_str, own_tup, own_ref, own_fl, xs_nil, xs_cons, start, bindT, bindTs, R.of_some, R.of_none, List.length_cons, List.length_nil, List.map_cons, List.map_nil, List.getElem?_cons_zero, List.getElem?_cons_succ, List.set_cons_zero, List.set_cons_succ, Nat.reduceAdd, Nat.reduceSub, List.cons_append, List.nil_append, List.append_nil, List.replicate, Nat.zero_add, reduceIte, Option.map_some, Option.map_none, fin_same, Bool.not_true, Bool.not_false, Bool.false_eq_true, tyD, primD, binD, sz0, sz1, sz2, sz3, sz4, sz5, sz6, sz7, sz8, nc0, nc1, nc2, nc3, nc4, nc5, nc6, nc7, nc8, Nat.reduceEqDiff, Option.bind_some, Int.reduceLE, Int.reduceLT, Int.reduceEq, Int.reduceToNat, Int.reduceAdd, Int.reduceSub, Int.reduceMul, Int.reduceNeg, Nat.reduceMul, ne_eq, not_false_eq_true, not_true_eq_false, decide_true, decide_false, Bool.and_true, Bool.true_and, Bool.or_false, Bool.false_or, Bool.or_true, Bool.true_or, Bool.and_false, Bool.false_and, beq_self_eq_true, F24, nn, cmpD, eqD_int, eqD_bl, seqAny, beq_self_eq_true, big_len hl, Int.toNat_natCast, wipe, it, blsOf_map, all_true, seqOf]
theorem same_lst (h : Γ 24 = some F24) {xs : List D} {n m : Nat} (hn : η[n]? = some (.lst xs)) (hm : η[m]? = some (.lst xs)) (hl : xs.length ≤ PySem.sizeLine) (hx : ∀ x ∈ xs, callN Γ k 24 [x, x] η = .ok (.bl true) η ∧ own x η = .ok x η) : callN Γ (k + 1) 24 [.ref n, .ref m] η = .ok (.bl true) η := by
  rw [call_eq h rfl]
  have nn : decide (D.ref m = D.non) = false := decide_eq_false (by simp)
  have it := same_items (η := η) xs (ρ := []) (d1 := .ref n) (d2 := .ref m) (fun _ => by simp [idxD, seqAny, seqOf, hn]) (fun _ => by simp [idxD, seqAny, seqOf, hm]) hl hx
  simp -implicitDefEqProofs only [e_lit, e_var, e_glb, e_bin, e_bin1, e_bin2, e_neg, e_neg1, e_cmp, e_cmp1, e_cmp2, e_chn, e_chn1, e_chn2, e_chn3, e_chn4, e_isn, e_isn1, e_isn2, e_and, e_and1, e_and2, e_or, e_or1, e_or2, e_not, e_not1, e_ite, e_ite1, e_ite2, e_tup, e_tup1, e_lst, e_lst1, e_idx, e_idx1, e_idx2, e_slc, e_slc1, e_slc2, e_slc3, e_call, e_call1, e_prim, e_prim1, e_isi, e_isi1, e_isi2, e_meth, e_meth1, e_meth2, e_comp, e_comp1, e_tl, es_nil, es_cons, es_cons1, es_cons2, es_cons3, ep_nil, ep_cons, ep_cons1, eo_no, eo_so, eo_so1, ec_no, ec_so, ei_val, ei_val1, ei_rg, ei_rg1, ei_rg2, ei_rg3, ei_rg4, ei_enm, ei_enm1, ei_zip, ei_zip1, ei_zip2, ei_zip3, ei_rev, ei_rev1, c_nil, x_asg, x_asg1, x_asg2, x_asg3, x_par, x_par1, x_par3, x_par31, x_sub, x_sub1, x_sub2, x_sub3, x_sub4, x_sub5, x_aug, x_aug0, x_aug1, x_aug2, x_augS, x_augS1, x_augS2, x_augS3, x_augS4, x_augS5, x_ret, x_ret1, x_ret2, x_retN, x_ex, x_ex1, x_ex2, x_pass, x_brk, x_cnt, x_if, x_if1, x_if2, x_whl, x_fr, x_fr1, x_rs, x_tr, x_tr1, x_tr2, x_tr3, x_h, x_noX1, x_noX2, x_noX3, xs_nx, xs_rt, xs_bk, xs_ct, xs_ex, f_nil, t_nx, t_rt, t_exc, own_tl, own_int, own_bl, own_non, own_str, own_tup, own_ref, own_fl, xs_nil, xs_cons, start, bindT, bindTs, R.of_some, R.of_none, List.length_cons, List.length_nil, List.map_cons, List.map_nil, List.getElem?_cons_zero, List.getElem?_cons_succ, List.set_cons_zero, List.set_cons_succ, Nat.reduceAdd, Nat.reduceSub, List.cons_append, List.nil_append, List.append_nil, List.replicate, Nat.zero_add, reduceIte, Option.map_some, Option.map_none, fin_same, Bool.not_true, Bool.not_false, Bool.false_eq_true, tyD, primD, binD, sz0, sz1, sz2, sz3, sz4, sz5, sz6, sz7, sz8, nc0, nc1, nc2, nc3, nc4, nc5, nc6, nc7, nc8, Nat.reduceEqDiff, Option.bind_some, Int.reduceLE, Int.reduceLT, Int.reduceEq, Int.reduceToNat, Int.reduceAdd, Int.reduceSub, Int.reduceMul, Int.reduceNeg, Nat.reduceMul, ne_eq, not_false_eq_true, not_true_eq_false, decide_true, decide_false, Bool.and_true, Bool.true_and, Bool.or_false, Bool.false_or, Bool.or_true, Bool.true_or, Bool.and_false, Bool.false_and, beq_self_eq_true, F24, nn, cmpD, eqD_int, eqD_bl, seqAny, beq_self_eq_true, big_len hl, Int.toNat_natCast, wipe, it, blsOf_map, all_true, seqOf, hn, hm]
theorem same_sh (h : Γ 24 = some F24) (q : Rat) : callN Γ (k + 2) 24 [sh q, sh q] η = .ok (.bl true) η :=
  same_tup h sz2 fun x hx => by
    simp only [List.mem_cons, List.not_mem_nil, or_false] at hx
    rcases hx with rfl | rfl
    · exact ⟨same_int h _, rfl⟩
    · exact ⟨same_int h _, rfl⟩
theorem same_shs (h : Γ 24 = some F24) (qs : List Rat) (hl : qs.length ≤ PySem.sizeLine) : callN Γ (k + 3) 24 [.tup (qs.map sh), .tup (qs.map sh)] η = .ok (.bl true) η :=
  same_tup h (by simpa using hl) fun x hx => by
    obtain ⟨q, _, rfl⟩ := List.mem_map.mp hx
    exact ⟨same_sh h q, rfl⟩
end
end Ev

set_option Elab.async false
set_option linter.all false
/-! the functions that many laws have, in the small language (printed by gen.py) -/
namespace Ev.Law
open Ev
/-- echoedtree.polys:trimmed (51) -/
def F7 : Fd := ⟨1, 2, (.cons (.asg (.nm 1) (.prim .len (.cons (.var 0) .nil)))
 (.cons (.whl (.and (.cmp .gt (.var 1) (.lit (.int 0))) (.cmp .eq (.idx (.var 0) (.bin .sub (.var 1) (.lit (.int 1)))) (.lit (.int 0)))) (.cons (.aug 1 .sub (.lit (.int 1)))
 .nil))
 (.cons (.ret (.prim .tuple (.cons (.slc (.var 0) .no (.so (.var 1))) .nil)))
 .nil)))⟩
/-- echoedtree.polys:added (51) -/
def F8 : Fd := ⟨2, 5, (.cons (.asg (.nm 2) (.bin .mul (.lst (.cons (.lit (.int 0)) .nil)) (.prim .max2 (.cons (.prim .len (.cons (.var 0) .nil)) (.cons (.prim .len (.cons (.var 1) .nil)) .nil)))))
 (.cons (.fr (.tp [(.nm 3), (.nm 4)]) (.enm (.var 0)) (.cons (.augS (.var 2) (.var 3) .add (.var 4))
 .nil))
 (.cons (.fr (.tp [(.nm 3), (.nm 4)]) (.enm (.var 1)) (.cons (.augS (.var 2) (.var 3) .add (.var 4))
 .nil))
 (.cons (.ret (.call 7 (.cons (.var 2) .nil)))
 .nil))))⟩
/-- echoedtree.polys:scaled (47) -/
def F9 : Fd := ⟨2, 3, (.cons (.ret (.call 7 (.cons (.comp (.bin .mul (.var 0) (.var 2)) (.nm 2) (.val (.var 1)) .no [2]) .nil)))
 .nil)⟩
/-- echoedtree.polys:taken (51) -/
def F10 : Fd := ⟨2, 2, (.cons (.ret (.call 8 (.cons (.var 0) (.cons (.call 9 (.cons (.neg (.lit (.int 1))) (.cons (.var 1) .nil))) .nil))))
 .nil)⟩
/-- echoedtree.polys:multiplied (51) -/
def F11 : Fd := ⟨2, 7, (.cons (.ifs (.or (.cmp .eq (.var 0) (.tup .nil)) (.cmp .eq (.var 1) (.tup .nil))) (.cons (.ret (.tup .nil))
 .nil) .nil)
 (.cons (.asg (.nm 2) (.bin .mul (.lst (.cons (.lit (.int 0)) .nil)) (.bin .sub (.bin .add (.prim .len (.cons (.var 0) .nil)) (.prim .len (.cons (.var 1) .nil))) (.lit (.int 1)))))
 (.cons (.fr (.tp [(.nm 3), (.nm 4)]) (.enm (.var 0)) (.cons (.fr (.tp [(.nm 5), (.nm 6)]) (.enm (.var 1)) (.cons (.augS (.var 2) (.bin .add (.var 3) (.var 5)) .add (.bin .mul (.var 4) (.var 6)))
 .nil))
 .nil))
 (.cons (.ret (.prim .tuple (.cons (.var 2) .nil)))
 .nil))))⟩
/-- echoedtree.polys:raised (51) -/
def F12 : Fd := ⟨2, 2, (.cons (.ret (.ite (.cmp .ne (.var 0) (.tup .nil)) (.bin .add (.bin .mul (.tup (.cons (.lit (.int 0)) .nil)) (.var 1)) (.var 0)) (.tup .nil)))
 .nil)⟩
/-- echoedtree.polys:content (51) -/
def F13 : Fd := ⟨1, 3, (.cons (.asg (.nm 1) (.lit (.int 0)))
 (.cons (.fr (.nm 2) (.val (.var 0)) (.cons (.asg (.nm 1) (.call 1 (.cons (.var 1) (.cons (.var 2) .nil))))
 .nil))
 (.cons (.ret (.var 1))
 .nil)))⟩
/-- echoedtree.polys:divided (51) -/
def F14 : Fd := ⟨2, 3, (.cons (.ret (.prim .tuple (.cons (.comp (.bin .fdiv (.var 2) (.var 1)) (.nm 2) (.val (.var 0)) .no [2]) .nil)))
 .nil)⟩
/-- echoedtree.polys:plain (50) -/
def F15 : Fd := ⟨1, 2, (.cons (.ifs (.cmp .eq (.var 0) (.tup .nil)) (.cons (.ret (.tup .nil))
 .nil) .nil)
 (.cons (.asg (.nm 1) (.call 13 (.cons (.var 0) .nil)))
 (.cons (.ret (.call 14 (.cons (.var 0) (.cons (.ite (.cmp .gt (.idx (.var 0) (.neg (.lit (.int 1)))) (.lit (.int 0))) (.var 1) (.neg (.var 1))) .nil))))
 .nil)))⟩
/-- echoedtree.polys:rest (50) -/
def F16 : Fd := ⟨2, 6, (.cons (.whl (.cmp .ge (.prim .len (.cons (.var 0) .nil)) (.prim .len (.cons (.var 1) .nil))) (.cons (.par 4 5 (.idx (.var 0) (.neg (.lit (.int 1)))) (.idx (.var 1) (.neg (.lit (.int 1)))))
 (.cons (.asg (.nm 2) (.call 1 (.cons (.var 4) (.cons (.var 5) .nil))))
 (.cons (.asg (.nm 3) (.call 12 (.cons (.call 9 (.cons (.bin .fdiv (.var 4) (.var 2)) (.cons (.var 1) .nil))) (.cons (.bin .sub (.prim .len (.cons (.var 0) .nil)) (.prim .len (.cons (.var 1) .nil))) .nil))))
 (.cons (.asg (.nm 0) (.call 10 (.cons (.call 9 (.cons (.bin .fdiv (.var 5) (.var 2)) (.cons (.var 0) .nil))) (.cons (.var 3) .nil))))
 .nil)))))
 (.cons (.ret (.var 0))
 .nil))⟩
/-- echoedtree.polys:common (50) -/
def F17 : Fd := ⟨2, 2, (.cons (.par 0 1 (.call 15 (.cons (.var 0) .nil)) (.call 15 (.cons (.var 1) .nil)))
 (.cons (.whl (.cmp .ne (.var 1) (.tup .nil)) (.cons (.par 0 1 (.var 1) (.ite (.cmp .ge (.prim .len (.cons (.var 0) .nil)) (.prim .len (.cons (.var 1) .nil))) (.call 15 (.cons (.call 16 (.cons (.var 0) (.cons (.var 1) .nil))) .nil)) (.var 0)))
 .nil))
 (.cons (.ret (.var 0))
 .nil)))⟩
/-- echoedtree.polys:quotient (50) -/
def F18 : Fd := ⟨2, 5, (.cons (.ifs (.cmp .eq (.var 1) (.tup .nil)) (.cons (.raise 782 .nil)
 .nil) .nil)
 (.cons (.asg (.nm 2) (.bin .mul (.lst (.cons (.lit (.int 0)) .nil)) (.prim .max2 (.cons (.lit (.int 0)) (.cons (.bin .add (.bin .sub (.prim .len (.cons (.var 0) .nil)) (.prim .len (.cons (.var 1) .nil))) (.lit (.int 1))) .nil)))))
 (.cons (.asg (.nm 3) (.var 0))
 (.cons (.whl (.cmp .ge (.prim .len (.cons (.var 3) .nil)) (.prim .len (.cons (.var 1) .nil))) (.cons (.ifs (.cmp .ne (.bin .mod (.idx (.var 3) (.neg (.lit (.int 1)))) (.idx (.var 1) (.neg (.lit (.int 1))))) (.lit (.int 0))) (.cons (.raise 782 .nil)
 .nil) .nil)
 (.cons (.asg (.nm 4) (.bin .sub (.prim .len (.cons (.var 3) .nil)) (.prim .len (.cons (.var 1) .nil))))
 (.cons (.sub (.var 2) (.var 4) (.bin .fdiv (.idx (.var 3) (.neg (.lit (.int 1)))) (.idx (.var 1) (.neg (.lit (.int 1))))))
 (.cons (.asg (.nm 3) (.call 10 (.cons (.var 3) (.cons (.call 12 (.cons (.call 9 (.cons (.idx (.var 2) (.var 4)) (.cons (.var 1) .nil))) (.cons (.var 4) .nil))) .nil))))
 .nil)))))
 (.cons (.ifs (.cmp .ne (.var 3) (.tup .nil)) (.cons (.raise 782 .nil)
 .nil) .nil)
 (.cons (.ret (.call 7 (.cons (.var 2) .nil)))
 .nil))))))⟩
/-- echoedtree.polys:is_poly (49) -/
def F34 : Fd := ⟨1, 2, (.cons (.ifs (.or (.not (.isi (.var 0) [.tuple] false)) (.not (.prim .all (.cons (.comp (.call 0 (.cons (.var 1) .nil)) (.nm 1) (.val (.var 0)) .no [1]) .nil)))) (.cons (.ret (.lit (.bl false)))
 .nil) .nil)
 (.cons (.ret (.or (.cmp .eq (.var 0) (.tup .nil)) (.cmp .ne (.idx (.var 0) (.neg (.lit (.int 1)))) (.lit (.int 0)))))
 .nil))⟩
/-- echoedtree.polys:check_poly (49) -/
def F35 : Fd := ⟨1, 1, (.cons (.ifs (.not (.call 34 (.cons (.var 0) .nil))) (.cons (.raise 782 .nil)
 .nil) .nil)
 .nil)⟩
/-- echoedtree.quotients:form (49) -/
def F36 : Fd := ⟨2, 4, (.cons (.ex (.call 35 (.cons (.var 0) .nil)))
 (.cons (.ex (.call 35 (.cons (.var 1) .nil)))
 (.cons (.ifs (.cmp .eq (.var 1) (.tup .nil)) (.cons (.raise 782 .nil)
 .nil) .nil)
 (.cons (.asg (.nm 2) (.call 17 (.cons (.var 0) (.cons (.var 1) .nil))))
 (.cons (.par 0 1 (.call 18 (.cons (.var 0) (.cons (.var 2) .nil))) (.call 18 (.cons (.var 1) (.cons (.var 2) .nil))))
 (.cons (.ifs (.cmp .eq (.idx (.var 1) (.lit (.int 0))) (.lit (.int 0))) (.cons (.raise 782 .nil)
 .nil) .nil)
 (.cons (.asg (.nm 3) (.call 1 (.cons (.call 13 (.cons (.var 0) .nil)) (.cons (.call 13 (.cons (.var 1) .nil)) .nil))))
 (.cons (.asg (.nm 3) (.ite (.cmp .gt (.idx (.var 1) (.lit (.int 0))) (.lit (.int 0))) (.var 3) (.neg (.var 3))))
 (.cons (.ret (.tup (.cons (.call 14 (.cons (.var 0) (.cons (.var 3) .nil))) (.cons (.call 14 (.cons (.var 1) (.cons (.var 3) .nil))) .nil))))
 .nil)))))))))⟩
/-- echoedtree.quotients:is_fraction (20) -/
def F37 : Fd := ⟨1, 3, (.cons (.ifs (.or (.not (.isi (.var 0) [.tuple] false)) (.or (.cmp .ne (.prim .len (.cons (.var 0) .nil)) (.lit (.int 2))) (.or (.not (.call 34 (.cons (.idx (.var 0) (.lit (.int 0))) .nil))) (.not (.call 34 (.cons (.idx (.var 0) (.lit (.int 1))) .nil)))))) (.cons (.ret (.lit (.bl false)))
 .nil) .nil)
 (.cons (.asg (.tp [(.nm 1), (.nm 2)]) (.var 0))
 (.cons (.ifs (.or (.cmp .eq (.var 2) (.tup .nil)) (.or (.cmp .le (.idx (.var 2) (.lit (.int 0))) (.lit (.int 0))) (.cmp .ne (.call 1 (.cons (.call 13 (.cons (.var 1) .nil)) (.cons (.call 13 (.cons (.var 2) .nil)) .nil))) (.lit (.int 1))))) (.cons (.ret (.lit (.bl false)))
 .nil) .nil)
 (.cons (.ret (.cmp .eq (.prim .len (.cons (.call 17 (.cons (.var 1) (.cons (.var 2) .nil))) .nil)) (.lit (.int 1))))
 .nil))))⟩
/-- echoedtree.quotients:plus@plus_quotients (9) -/
def F39 : Fd := ⟨2, 2, (.cons (.ret (.call 36 (.cons (.call 8 (.cons (.call 11 (.cons (.idx (.var 0) (.lit (.int 0))) (.cons (.idx (.var 1) (.lit (.int 1))) .nil))) (.cons (.call 11 (.cons (.idx (.var 1) (.lit (.int 0))) (.cons (.idx (.var 0) (.lit (.int 1))) .nil))) .nil))) (.cons (.call 11 (.cons (.idx (.var 0) (.lit (.int 1))) (.cons (.idx (.var 1) (.lit (.int 1))) .nil))) .nil))))
 .nil)⟩
/-- echoedtree.quotients:degree (26) -/
def F45 : Fd := ⟨1, 1, (.cons (.ret (.bin .sub (.prim .max2 (.cons (.prim .len (.cons (.idx (.var 0) (.lit (.int 0))) .nil)) (.cons (.prim .len (.cons (.idx (.var 0) (.lit (.int 1))) .nil)) .nil))) (.lit (.int 1))))
 .nil)⟩
/-- echoedtree.quotients:first (13) -/
def F46 : Fd := ⟨1, 1, (.cons (.ret (.ite (.cmp .ne (.idx (.var 0) (.lit (.int 0))) (.tup .nil)) (.call 2 (.cons (.idx (.idx (.var 0) (.lit (.int 0))) (.lit (.int 0))) (.cons (.idx (.idx (.var 0) (.lit (.int 1))) (.lit (.int 0))) .nil))) (.tup (.cons (.lit (.int 0)) (.cons (.lit (.int 1)) .nil)))))
 .nil)⟩
/-- echoedtree.quotients:power_row (33) -/
def F47 : Fd := ⟨2, 8, (.cons (.ifs (.or (.not (.call 0 (.cons (.var 1) .nil))) (.cmp .lt (.var 1) (.lit (.int 0)))) (.cons (.raise 782 .nil)
 .nil) .nil)
 (.cons (.asg (.tp [(.nm 4), (.nm 5)]) (.var 0))
 (.cons (.asg (.nm 2) (.lst .nil))
 (.cons (.fr (.nm 3) (.rng1 (.var 1)) (.cons (.asg (.nm 6) (.ite (.cmp .lt (.var 3) (.prim .len (.cons (.var 4) .nil))) (.tup (.cons (.idx (.var 4) (.var 3)) (.cons (.lit (.int 1)) .nil))) (.tup (.cons (.lit (.int 0)) (.cons (.lit (.int 1)) .nil)))))
 (.cons (.fr (.nm 7) (.rng2 (.lit (.int 1)) (.bin .add (.prim .min2 (.cons (.var 3) (.cons (.bin .sub (.prim .len (.cons (.var 5) .nil)) (.lit (.int 1))) .nil))) (.lit (.int 1)))) (.cons (.asg (.nm 6) (.call 32 (.cons (.var 6) (.cons (.call 4 (.cons (.tup (.cons (.idx (.var 5) (.var 7)) (.cons (.lit (.int 1)) .nil))) (.cons (.idx (.var 2) (.bin .sub (.var 3) (.var 7))) .nil))) .nil))))
 .nil))
 (.cons (.ex (.meth .append (.var 2) (.cons (.call 33 (.cons (.var 6) (.cons (.tup (.cons (.idx (.var 5) (.lit (.int 0))) (.cons (.lit (.int 1)) .nil))) .nil))) .nil)))
 .nil))))
 (.cons (.ret (.prim .tuple (.cons (.var 2) .nil)))
 .nil)))))⟩
/-- echoedtree.solving:check_table (15) -/
def F62 : Fd := ⟨2, 4, (.cons (.ifs (.or (.not (.isi (.var 0) [.tuple] false)) (.not (.prim .all (.cons (.comp (.and (.isi (.var 2) [.tuple] false) (.cmp .eq (.prim .len (.cons (.var 2) .nil)) (.var 1))) (.nm 2) (.val (.var 0)) .no [2]) .nil)))) (.cons (.raise 782 .nil)
 .nil) .nil)
 (.cons (.ifs (.not (.prim .all (.cons (.comp (.prim .all (.cons (.comp (.call 60 (.cons (.var 3) .nil)) (.nm 3) (.val (.var 2)) .no [3]) .nil)) (.nm 2) (.val (.var 0)) .no [2]) .nil))) (.cons (.raise 782 .nil)
 .nil) .nil)
 (.cons (.ifs (.cmp .gt (.bin .mul (.prim .len (.cons (.var 0) .nil)) (.var 1)) (.glb "MOST_CELLS" (.int 20000))) (.cons (.raise 785 .nil)
 .nil) .nil)
 .nil)))⟩
/-- echoedtree.solving:kernel (10) -/
def F65 : Fd := ⟨2, 9, (.cons (.ex (.call 62 (.cons (.var 0) (.cons (.var 1) .nil))))
 (.cons (.asg (.tp [(.nm 4), (.nm 5)]) (.call 63 (.cons (.var 0) (.cons (.var 1) .nil))))
 (.cons (.asg (.nm 2) (.lst .nil))
 (.cons (.fr (.nm 3) (.rng1 (.var 1)) (.cons (.ifs (.cmp .inn (.var 3) (.var 5)) (.cons .cnt
 .nil) .nil)
 (.cons (.asg (.nm 6) (.bin .mul (.lst (.cons (.glb "ZERO" (.tup [(.int 0), (.int 1)])) .nil)) (.var 1)))
 (.cons (.sub (.var 6) (.var 3) (.glb "ONE" (.tup [(.int 1), (.int 1)])))
 (.cons (.fr (.tp [(.nm 7), (.nm 8)]) (.zip2 (.var 4) (.var 5)) (.cons (.sub (.var 6) (.var 8) (.call 61 (.cons (.idx (.var 7) (.var 3)) .nil)))
 .nil))
 (.cons (.ex (.meth .append (.var 2) (.cons (.prim .tuple (.cons (.var 6) .nil)) .nil)))
 .nil))))))
 (.cons (.ret (.prim .tuple (.cons (.var 2) .nil)))
 .nil)))))⟩
/-- echoedtree.weights:joint (10) -/
def F71 : Fd := ⟨3, 8, (.cons (.asg (.nm 3) (.glb "ZERO" (.tup [(.int 0), (.int 1)])))
 (.cons (.fr (.tp [(.nm 4), (.nm 5)]) (.zip2 (.var 0) (.var 2)) (.cons (.ifs (.cmp .ne (.var 4) (.glb "ZERO" (.tup [(.int 0), (.int 1)]))) (.cons (.asg (.nm 3) (.call 3 (.cons (.var 3) (.cons (.call 4 (.cons (.var 4) (.cons (.call 70 (.cons (.comp (.call 4 (.cons (.var 6) (.cons (.var 7) .nil))) (.tp [(.nm 6), (.nm 7)]) (.zip2 (.var 5) (.var 1)) (.so (.cmp .ne (.var 7) (.glb "ZERO" (.tup [(.int 0), (.int 1)])))) [6, 7]) .nil)) .nil))) .nil))))
 .nil) .nil)
 .nil))
 (.cons (.ret (.var 3))
 .nil)))⟩
/-- echoedtree.weights:summed (10) -/
def F72 : Fd := ⟨3, 5, (.cons (.ret (.prim .tuple (.cons (.comp (.call 3 (.cons (.var 3) (.cons (.call 4 (.cons (.var 1) (.cons (.var 4) .nil))) .nil))) (.tp [(.nm 3), (.nm 4)]) (.zip2 (.var 0) (.var 2)) .no [3, 4]) .nil)))
 .nil)⟩
/-- echoedtree.weights:below_nought (10) -/
def F73 : Fd := ⟨1, 9, (.cons (.asg (.nm 1) (.lst .nil))
 (.cons (.fr (.nm 2) (.rng1 (.prim .len (.cons (.var 0) .nil))) (.cons (.asg (.nm 3) (.prim .tuple (.cons (.comp (.ite (.cmp .eq (.var 8) (.var 2)) (.glb "ONE" (.tup [(.int 1), (.int 1)])) (.glb "ZERO" (.tup [(.int 0), (.int 1)]))) (.nm 8) (.rng1 (.prim .len (.cons (.var 0) .nil))) .no [8]) .nil)))
 (.cons (.fr (.tp [(.nm 5), (.nm 4)]) (.val (.var 1)) (.cons (.ifs (.cmp .ne (.var 4) (.glb "ZERO" (.tup [(.int 0), (.int 1)]))) (.cons (.asg (.nm 3) (.call 72 (.cons (.var 3) (.cons (.call 61 (.cons (.call 33 (.cons (.call 71 (.cons (.var 5) (.cons (.var 3) (.cons (.var 0) .nil)))) (.cons (.var 4) .nil))) .nil)) (.cons (.var 5) .nil)))))
 .nil) .nil)
 .nil))
 (.cons (.asg (.nm 4) (.call 71 (.cons (.var 3) (.cons (.var 3) (.cons (.var 0) .nil)))))
 (.cons (.fr (.tp [(.nm 5), (.nm 6)]) (.val (.var 1)) (.cons (.asg (.nm 7) (.ite (.cmp .eq (.var 6) (.glb "ZERO" (.tup [(.int 0), (.int 1)]))) (.call 71 (.cons (.var 5) (.cons (.var 3) (.cons (.var 0) .nil)))) (.glb "ZERO" (.tup [(.int 0), (.int 1)]))))
 (.cons (.ifs (.cmp .ne (.var 7) (.glb "ZERO" (.tup [(.int 0), (.int 1)]))) (.cons (.ret (.call 72 (.cons (.var 3) (.cons (.call 61 (.cons (.call 33 (.cons (.call 3 (.cons (.var 4) (.cons (.glb "ONE" (.tup [(.int 1), (.int 1)])) .nil))) (.cons (.call 3 (.cons (.var 7) (.cons (.var 7) .nil))) .nil))) .nil)) (.cons (.var 5) .nil)))))
 .nil) .nil)
 .nil)))
 (.cons (.ifs (.call 69 (.cons (.var 4) (.cons (.glb "ZERO" (.tup [(.int 0), (.int 1)])) .nil))) (.cons (.ret (.var 3))
 .nil) .nil)
 (.cons (.ex (.meth .append (.var 1) (.cons (.tup (.cons (.var 3) (.cons (.var 4) .nil))) .nil)))
 .nil)))))))
 (.cons (.ret (.lit .non))
 .nil)))⟩
/-- echoedtree.pipes:is_wide (57) -/
def F79 : Fd := ⟨1, 1, (.cons (.ret (.and (.call 60 (.cons (.var 0) .nil)) (.call 69 (.cons (.glb "ZERO" (.tup [(.int 0), (.int 1)])) (.cons (.var 0) .nil)))))
 .nil)⟩
/-- echoedtree.pipes:is_pipe (55) -/
def F80 : Fd := ⟨1, 1, (.cons (.ret (.isn true (.call 81 (.cons (.var 0) (.cons (.glb "MOST_SIZE" (.int 60)) (.cons (.glb "MOST_DEPTH" (.int 60)) .nil))))))
 .nil)⟩
/-- echoedtree.pipes:fits (55) -/
def F81 : Fd := ⟨3, 8, (.cons (.ifs (.or (.cmp .eq (.var 2) (.lit (.int 0))) (.or (.not (.isi (.var 0) [.tuple] false)) (.or (.cmp .ne (.prim .len (.cons (.var 0) .nil)) (.lit (.int 3))) (.or (.not (.call 0 (.cons (.idx (.var 0) (.lit (.int 0))) .nil))) (.not (.call 79 (.cons (.idx (.var 0) (.lit (.int 1))) .nil))))))) (.cons (.ret (.lit .non))
 .nil) .nil)
 (.cons (.asg (.tp [(.nm 4), (.nm 5), (.nm 6)]) (.var 0))
 (.cons (.ifs (.or (.cmp .lt (.var 4) (.lit (.int 1))) (.or (.cmp .gt (.var 4) (.var 1)) (.or (.not (.isi (.var 6) [.tuple] false)) (.or (.cmp .lt (.prim .len (.cons (.var 6) .nil)) (.lit (.int 1))) (.not (.isi (.idx (.var 6) (.lit (.int 0))) [.str] false)))))) (.cons (.ret (.lit .non))
 .nil) .nil)
 (.cons (.ifs (.cmp .inn (.var 6) (.tup (.cons (.glb "SHUT" (.tup [(.str "shut")])) (.cons (.glb "OPEN" (.tup [(.str "open")])) .nil)))) (.cons (.ret (.var 4))
 .nil) .nil)
 (.cons (.ifs (.cmp .eq (.idx (.var 6) (.lit (.int 0))) (.lit (.str "drain"))) (.cons (.ret (.ite (.and (.cmp .eq (.prim .len (.cons (.var 6) .nil)) (.lit (.int 2))) (.call 79 (.cons (.idx (.var 6) (.lit (.int 1))) .nil))) (.var 4) (.lit .non)))
 .nil) .nil)
 (.cons (.ifs (.or (.cmp .ne (.idx (.var 6) (.lit (.int 0))) (.lit (.str "fork"))) (.or (.cmp .ne (.prim .len (.cons (.var 6) .nil)) (.lit (.int 2))) (.or (.not (.isi (.idx (.var 6) (.lit (.int 1))) [.tuple] false)) (.not (.cmp2 .le .le (.lit (.int 1)) (.prim .len (.cons (.idx (.var 6) (.lit (.int 1))) .nil)) (.glb "MOST_KIDS" (.int 6))))))) (.cons (.ret (.lit .non))
 .nil) .nil)
 (.cons (.fr (.nm 3) (.val (.idx (.var 6) (.lit (.int 1)))) (.cons (.asg (.nm 7) (.call 81 (.cons (.var 3) (.cons (.bin .sub (.var 1) (.var 4)) (.cons (.bin .sub (.var 2) (.lit (.int 1))) .nil)))))
 (.cons (.ifs (.isn false (.var 7)) (.cons (.ret (.lit .non))
 .nil) .nil)
 (.cons (.aug 4 .add (.var 7))
 .nil))))
 (.cons (.ret (.var 4))
 .nil))))))))⟩
/-- echoedtree.pipes:kids (56) -/
def F82 : Fd := ⟨1, 1, (.cons (.ret (.ite (.cmp .eq (.idx (.idx (.var 0) (.lit (.int 2))) (.lit (.int 0))) (.lit (.str "fork"))) (.idx (.idx (.var 0) (.lit (.int 2))) (.lit (.int 1))) (.tup .nil)))
 .nil)⟩
/-- echoedtree.pipes:size (9) -/
def F83 : Fd := ⟨1, 2, (.cons (.ret (.bin .add (.idx (.var 0) (.lit (.int 0))) (.prim .sum (.cons (.comp (.call 83 (.cons (.var 1) .nil)) (.nm 1) (.val (.call 82 (.cons (.var 0) .nil))) .no [1]) .nil))))
 .nil)⟩
/-- echoedtree.pipes:count (13) -/
def F85 : Fd := ⟨1, 2, (.cons (.ret (.bin .add (.lit (.int 1)) (.prim .sum (.cons (.comp (.call 85 (.cons (.var 1) .nil)) (.nm 1) (.val (.call 82 (.cons (.var 0) .nil))) .no [1]) .nil))))
 .nil)⟩
/-- echoedtree.pipes:is_lossless (12) -/
def F87 : Fd := ⟨1, 2, (.cons (.ret (.and (.cmp .ne (.idx (.idx (.var 0) (.lit (.int 2))) (.lit (.int 0))) (.lit (.str "drain"))) (.prim .all (.cons (.comp (.call 87 (.cons (.var 1) .nil)) (.nm 1) (.val (.call 82 (.cons (.var 0) .nil))) .no [1]) .nil))))
 .nil)⟩
/-- law:_law_scaled:abddb732 (9) -/
def F93 : Fd := ⟨2, 6, (.cons (.asg (.tp [(.nm 2), (.nm 3), (.nm 4)]) (.var 0))
 (.cons (.ifs (.cmp .eq (.idx (.var 4) (.lit (.int 0))) (.lit (.str "drain"))) (.cons (.asg (.nm 4) (.tup (.cons (.lit (.str "drain")) (.cons (.call 27 (.cons (.idx (.var 4) (.lit (.int 1))) (.cons (.var 1) .nil))) .nil))))
 .nil) (.cons (.ifs (.cmp .eq (.idx (.var 4) (.lit (.int 0))) (.lit (.str "fork"))) (.cons (.asg (.nm 4) (.tup (.cons (.lit (.str "fork")) (.cons (.prim .tuple (.cons (.comp (.call 93 (.cons (.var 5) (.cons (.var 1) .nil))) (.nm 5) (.val (.idx (.var 4) (.lit (.int 1)))) .no [5]) .nil)) .nil))))
 .nil) .nil)
 .nil))
 (.cons (.ret (.tup (.cons (.var 2) (.cons (.call 27 (.cons (.var 3) (.cons (.var 1) .nil))) (.cons (.var 4) .nil)))))
 .nil)))⟩
/-- law:_law_put:ea5217a4 (9) -/
def F97 : Fd := ⟨3, 6, (.cons (.ifs (.cmp .eq (.var 1) (.tup .nil)) (.cons (.ret (.var 2))
 .nil) .nil)
 (.cons (.asg (.nm 3) (.comp (.ite (.cmp .eq (.var 4) (.idx (.var 1) (.lit (.int 0)))) (.call 97 (.cons (.var 5) (.cons (.slc (.var 1) (.so (.lit (.int 1))) .no) (.cons (.var 2) .nil)))) (.var 5)) (.tp [(.nm 4), (.nm 5)]) (.enm (.call 94 (.cons (.var 0) .nil))) .no [4, 5]))
 (.cons (.ret (.tup (.cons (.idx (.var 0) (.lit (.int 0))) (.cons (.idx (.var 0) (.lit (.int 1))) (.cons (.tup (.cons (.lit (.str "fork")) (.cons (.prim .tuple (.cons (.var 3) .nil)) .nil))) .nil)))))
 .nil)))⟩
/-- echoedtree.pipes:check_pipe (54) -/
def F100 : Fd := ⟨1, 1, (.cons (.ifs (.not (.call 80 (.cons (.var 0) .nil))) (.cons (.raise 784 .nil)
 .nil) .nil)
 .nil)⟩
/-- echoedtree.places:is_path (28) -/
def F101 : Fd := ⟨1, 2, (.cons (.ret (.and (.isi (.var 0) [.tuple] false) (.prim .all (.cons (.comp (.and (.call 0 (.cons (.var 1) .nil)) (.cmp .ge (.var 1) (.lit (.int 0)))) (.nm 1) (.val (.var 0)) .no [1]) .nil))))
 .nil)⟩
/-- echoedtree.places:pipe_at (28) -/
def F102 : Fd := ⟨2, 3, (.cons (.ex (.call 100 (.cons (.var 0) .nil)))
 (.cons (.ifs (.not (.call 101 (.cons (.var 1) .nil))) (.cons (.raise 783 .nil)
 .nil) .nil)
 (.cons (.fr (.nm 2) (.val (.var 1)) (.cons (.ifs (.cmp .ge (.var 2) (.prim .len (.cons (.call 82 (.cons (.var 0) .nil)) .nil))) (.cons (.raise 783 .nil)
 .nil) .nil)
 (.cons (.asg (.nm 0) (.idx (.call 82 (.cons (.var 0) .nil)) (.var 2)))
 .nil)))
 (.cons (.ret (.var 0))
 .nil))))⟩
/-- echoedtree.places:all_paths (13) -/
def F103 : Fd := ⟨1, 5, (.cons (.asg (.nm 1) (.lst (.cons (.tup .nil) .nil)))
 (.cons (.fr (.tp [(.nm 2), (.nm 3)]) (.enm (.call 82 (.cons (.var 0) .nil))) (.cons (.fr (.nm 4) (.val (.call 103 (.cons (.var 3) .nil))) (.cons (.ex (.meth .append (.var 1) (.cons (.bin .add (.tup (.cons (.var 2) .nil)) (.var 4)) .nil)))
 .nil))
 .nil))
 (.cons (.ret (.prim .tuple (.cons (.var 1) .nil)))
 .nil)))⟩
/-- echoedtree.places:far_ends (9) -/
def F104 : Fd := ⟨1, 2, (.cons (.ret (.prim .tuple (.cons (.comp (.var 1) (.nm 1) (.val (.call 103 (.cons (.var 0) .nil))) (.so (.cmp .eq (.call 82 (.cons (.call 102 (.cons (.var 0) (.cons (.var 1) .nil))) .nil)) (.tup .nil))) [1]) .nil)))
 .nil)⟩
/-- echoedtree.places:replaced (13) -/
def F106 : Fd := ⟨3, 4, (.cons (.ex (.call 102 (.cons (.var 0) (.cons (.var 1) .nil))))
 (.cons (.asg (.nm 3) (.call 107 (.cons (.var 0) (.cons (.var 1) (.cons (.var 2) .nil)))))
 (.cons (.ifs (.not (.call 80 (.cons (.var 3) .nil))) (.cons (.raise 784 .nil)
 .nil) .nil)
 (.cons (.ret (.var 3))
 .nil))))⟩
/-- echoedtree.places:_replaced (13) -/
def F107 : Fd := ⟨3, 9, (.cons (.ifs (.cmp .eq (.var 1) (.tup .nil)) (.cons (.ret (.var 2))
 .nil) .nil)
 (.cons (.asg (.tp [(.nm 4), (.nm 5), (.nm 6)]) (.var 0))
 (.cons (.asg (.nm 3) (.comp (.ite (.cmp .eq (.var 7) (.idx (.var 1) (.lit (.int 0)))) (.call 107 (.cons (.var 8) (.cons (.slc (.var 1) (.so (.lit (.int 1))) .no) (.cons (.var 2) .nil)))) (.var 8)) (.tp [(.nm 7), (.nm 8)]) (.enm (.idx (.var 6) (.lit (.int 1)))) .no [7, 8]))
 (.cons (.ret (.tup (.cons (.var 4) (.cons (.var 5) (.cons (.tup (.cons (.lit (.str "fork")) (.cons (.prim .tuple (.cons (.var 3) .nil)) .nil))) .nil)))))
 .nil))))⟩
/-- echoedtree.meeting:at_end (50) -/
def F132 : Fd := ⟨2, 2, (.cons (.ifs (.cmp .eq (.var 1) (.glb "SHUT" (.tup [(.str "shut")]))) (.cons (.ret (.glb "ONE" (.tup [(.int 1), (.int 1)])))
 .nil) .nil)
 (.cons (.ifs (.cmp .eq (.var 1) (.glb "OPEN" (.tup [(.str "open")]))) (.cons (.ret (.call 61 (.cons (.glb "ONE" (.tup [(.int 1), (.int 1)])) .nil)))
 .nil) .nil)
 (.cons (.ret (.call 33 (.cons (.call 32 (.cons (.var 0) (.cons (.idx (.var 1) (.lit (.int 1))) .nil))) (.cons (.call 3 (.cons (.var 0) (.cons (.idx (.var 1) (.lit (.int 1))) .nil))) .nil))))
 .nil)))⟩
/-- echoedtree.heard:heard (43) -/
def F137 : Fd := ⟨1, 3, (.cons (.ex (.call 100 (.cons (.var 0) .nil)))
 (.cons (.asg (.tp [(.nm 1), (.nm 2)]) (.call 138 (.cons (.var 0) .nil)))
 (.cons (.ret (.call 36 (.cons (.call 12 (.cons (.var 1) (.cons (.idx (.var 0) (.lit (.int 0))) .nil))) (.cons (.var 2) .nil))))
 .nil)))⟩
/-- echoedtree.heard:far_back (45) -/
def F138 : Fd := ⟨1, 2, (.cons (.ifs (.cmp .eq (.call 82 (.cons (.var 0) .nil)) (.tup .nil)) (.cons (.asg (.nm 1) (.call 132 (.cons (.idx (.var 0) (.lit (.int 1))) (.cons (.idx (.var 0) (.lit (.int 2))) .nil))))
 (.cons (.ret (.call 36 (.cons (.ite (.cmp .ne (.idx (.var 1) (.lit (.int 0))) (.lit (.int 0))) (.tup (.cons (.idx (.var 1) (.lit (.int 0))) .nil)) (.tup .nil)) (.cons (.tup (.cons (.idx (.var 1) (.lit (.int 1))) .nil)) .nil))))
 .nil)) .nil)
 (.cons (.ret (.call 140 (.cons (.idx (.var 0) (.lit (.int 1))) (.cons (.call 139 (.cons (.call 82 (.cons (.var 0) .nil)) .nil)) .nil))))
 .nil))⟩
/-- echoedtree.heard:taken_in (45) -/
def F139 : Fd := ⟨1, 9, (.cons (.asg (.tp [(.nm 2), (.nm 3)]) (.tup (.cons (.tup .nil) (.cons (.tup (.cons (.lit (.int 1)) .nil)) .nil))))
 (.cons (.fr (.nm 1) (.val (.var 0)) (.cons (.asg (.tp [(.nm 5), (.nm 6)]) (.call 138 (.cons (.var 1) .nil)))
 (.cons (.asg (.nm 4) (.call 12 (.cons (.var 5) (.cons (.idx (.var 1) (.lit (.int 0))) .nil))))
 (.cons (.par 7 8 (.call 10 (.cons (.var 6) (.cons (.var 4) .nil))) (.call 8 (.cons (.var 6) (.cons (.var 4) .nil))))
 (.cons (.asg (.nm 2) (.call 8 (.cons (.call 11 (.cons (.var 2) (.cons (.call 9 (.cons (.idx (.idx (.var 1) (.lit (.int 1))) (.lit (.int 1))) (.cons (.var 8) .nil))) .nil))) (.cons (.call 11 (.cons (.var 3) (.cons (.call 9 (.cons (.idx (.idx (.var 1) (.lit (.int 1))) (.lit (.int 0))) (.cons (.var 7) .nil))) .nil))) .nil))))
 (.cons (.asg (.nm 3) (.call 11 (.cons (.var 3) (.cons (.call 9 (.cons (.idx (.idx (.var 1) (.lit (.int 1))) (.lit (.int 1))) (.cons (.var 8) .nil))) .nil))))
 (.cons (.asg (.tp [(.nm 2), (.nm 3)]) (.call 36 (.cons (.var 2) (.cons (.var 3) .nil))))
 .nil)))))))
 (.cons (.ret (.tup (.cons (.var 2) (.cons (.var 3) .nil))))
 .nil)))⟩
/-- echoedtree.heard:thrown (45) -/
def F140 : Fd := ⟨2, 6, (.cons (.asg (.tp [(.nm 2), (.nm 3)]) (.var 1))
 (.cons (.par 4 5 (.call 9 (.cons (.idx (.var 0) (.lit (.int 0))) (.cons (.var 3) .nil))) (.call 9 (.cons (.idx (.var 0) (.lit (.int 1))) (.cons (.var 2) .nil))))
 (.cons (.ret (.call 36 (.cons (.call 10 (.cons (.var 4) (.cons (.var 5) .nil))) (.cons (.call 8 (.cons (.var 4) (.cons (.var 5) .nil))) .nil))))
 .nil)))⟩
/-- echoedtree.heard:echoes (15) -/
def F141 : Fd := ⟨2, 2, (.cons (.ifs (.or (.not (.call 0 (.cons (.var 1) .nil))) (.not (.cmp2 .le .le (.lit (.int 0)) (.var 1) (.glb "MOST_BEATS" (.int 400))))) (.cons (.raise 785 .nil)
 .nil) .nil)
 (.cons (.ret (.call 47 (.cons (.call 137 (.cons (.var 0) .nil)) (.cons (.bin .add (.var 1) (.lit (.int 1))) .nil))))
 .nil))⟩
/-- echoedtree.heard:heard_degree (9) -/
def F142 : Fd := ⟨1, 1, (.cons (.ret (.call 45 (.cons (.call 137 (.cons (.var 0) .nil)) .nil)))
 .nil)⟩
/-- echoedtree.turns:is_turns (19) -/
def F163 : Fd := ⟨1, 2, (.cons (.ifs (.or (.not (.isi (.var 0) [.tuple] false)) (.or (.cmp .gt (.prim .len (.cons (.var 0) .nil)) (.glb "MOST_TURNS" (.int 40))) (.not (.prim .all (.cons (.comp (.call 60 (.cons (.var 1) .nil)) (.nm 1) (.val (.var 0)) .no [1]) .nil))))) (.cons (.ret (.lit (.bl false)))
 .nil) .nil)
 (.cons (.ifs (.cmp .eq (.var 0) (.tup .nil)) (.cons (.ret (.lit (.bl true)))
 .nil) .nil)
 (.cons (.ret (.and (.prim .all (.cons (.comp (.call 69 (.cons (.call 162 (.cons (.var 1) .nil)) (.cons (.glb "ONE" (.tup [(.int 1), (.int 1)])) .nil))) (.nm 1) (.val (.slc (.var 0) .no (.so (.neg (.lit (.int 1)))))) .no [1]) .nil)) (.and (.not (.call 69 (.cons (.glb "ONE" (.tup [(.int 1), (.int 1)])) (.cons (.call 162 (.cons (.idx (.var 0) (.neg (.lit (.int 1)))) .nil)) .nil)))) (.cmp .ne (.idx (.var 0) (.neg (.lit (.int 1)))) (.glb "ZERO" (.tup [(.int 0), (.int 1)]))))))
 .nil)))⟩
/-- echoedtree.turns:check_turns (19) -/
def F164 : Fd := ⟨1, 1, (.cons (.ifs (.not (.call 163 (.cons (.var 0) .nil))) (.cons (.raise 786 .nil)
 .nil) .nil)
 .nil)⟩
/-- echoedtree.turns:next_width (11) -/
def F165 : Fd := ⟨2, 2, (.cons (.ret (.call 33 (.cons (.call 4 (.cons (.var 0) (.cons (.call 32 (.cons (.glb "ONE" (.tup [(.int 1), (.int 1)])) (.cons (.var 1) .nil))) .nil))) (.cons (.call 3 (.cons (.glb "ONE" (.tup [(.int 1), (.int 1)])) (.cons (.var 1) .nil))) .nil))))
 .nil)⟩
/-- echoedtree.turns:widths_of (11) -/
def F166 : Fd := ⟨2, 4, (.cons (.ex (.call 164 (.cons (.var 0) .nil)))
 (.cons (.asg (.nm 2) (.lst (.cons (.var 1) .nil)))
 (.cons (.fr (.nm 3) (.val (.slc (.var 0) .no (.so (.neg (.lit (.int 1)))))) (.cons (.ex (.meth .append (.var 2) (.cons (.call 165 (.cons (.idx (.var 2) (.neg (.lit (.int 1)))) (.cons (.var 3) .nil))) .nil)))
 .nil))
 (.cons (.ret (.prim .tuple (.cons (.var 2) .nil)))
 .nil))))⟩
/-- echoedtree.turns:straight_pipe (11) -/
def F167 : Fd := ⟨2, 7, (.cons (.asg (.nm 2) (.call 166 (.cons (.var 0) (.cons (.var 1) .nil))))
 (.cons (.ifs (.cmp .eq (.var 0) (.tup .nil)) (.cons (.ret (.tup (.cons (.lit (.int 1)) (.cons (.var 1) (.cons (.tup (.cons (.lit (.str "drain")) (.cons (.var 1) .nil))) .nil)))))
 .nil) .nil)
 (.cons (.asg (.nm 3) (.idx (.var 0) (.neg (.lit (.int 1)))))
 (.cons (.ifs (.cmp .eq (.var 3) (.glb "ONE" (.tup [(.int 1), (.int 1)]))) (.cons (.asg (.nm 6) (.glb "SHUT" (.tup [(.str "shut")])))
 .nil) (.cons (.ifs (.cmp .eq (.var 3) (.call 61 (.cons (.glb "ONE" (.tup [(.int 1), (.int 1)])) .nil))) (.cons (.asg (.nm 6) (.glb "OPEN" (.tup [(.str "open")])))
 .nil) (.cons (.asg (.nm 6) (.tup (.cons (.lit (.str "drain")) (.cons (.call 165 (.cons (.idx (.var 2) (.neg (.lit (.int 1)))) (.cons (.var 3) .nil))) .nil))))
 .nil))
 .nil))
 (.cons (.asg (.nm 4) (.tup (.cons (.lit (.int 1)) (.cons (.idx (.var 2) (.neg (.lit (.int 1)))) (.cons (.var 6) .nil)))))
 (.cons (.fr (.nm 5) (.rev (.slc (.var 2) .no (.so (.neg (.lit (.int 1)))))) (.cons (.asg (.nm 4) (.tup (.cons (.lit (.int 1)) (.cons (.var 5) (.cons (.tup (.cons (.lit (.str "fork")) (.cons (.tup (.cons (.var 4) .nil)) .nil))) .nil)))))
 .nil))
 (.cons (.ret (.var 4))
 .nil)))))))⟩
/-- echoedtree.quotients:check_fraction (16) -/
def F194 : Fd := ⟨1, 1, (.cons (.ifs (.not (.call 37 (.cons (.var 0) .nil))) (.cons (.raise 782 .nil)
 .nil) .nil)
 .nil)⟩
/-- echoedtree.peel:peeled_once (11) -/
def F195 : Fd := ⟨1, 7, (.cons (.asg (.tp [(.nm 5), (.nm 6)]) (.var 0))
 (.cons (.ifs (.cmp .eq (.var 5) (.tup .nil)) (.cons (.ret (.tup (.cons (.glb "ZERO" (.tup [(.int 0), (.int 1)])) (.cons (.glb "NOTHING" (.tup [(.tup []), (.tup [(.int 1)])])) .nil))))
 .nil) .nil)
 (.cons (.asg (.nm 1) (.call 46 (.cons (.var 0) .nil)))
 (.cons (.ifs (.not (.call 69 (.cons (.call 162 (.cons (.var 1) .nil)) (.cons (.glb "ONE" (.tup [(.int 1), (.int 1)])) .nil)))) (.cons (.raise 782 .nil)
 .nil) .nil)
 (.cons (.asg (.nm 2) (.slc (.call 10 (.cons (.call 9 (.cons (.idx (.var 6) (.lit (.int 0))) (.cons (.var 5) .nil))) (.cons (.call 9 (.cons (.idx (.var 5) (.lit (.int 0))) (.cons (.var 6) .nil))) .nil))) (.so (.lit (.int 1))) .no))
 (.cons (.asg (.nm 3) (.call 10 (.cons (.call 9 (.cons (.idx (.var 6) (.lit (.int 0))) (.cons (.var 6) .nil))) (.cons (.call 9 (.cons (.idx (.var 5) (.lit (.int 0))) (.cons (.var 5) .nil))) .nil))))
 (.cons (.ifs (.cmp .eq (.var 2) (.tup .nil)) (.cons (.ret (.tup (.cons (.var 1) (.cons (.glb "NOTHING" (.tup [(.tup []), (.tup [(.int 1)])])) .nil))))
 .nil) .nil)
 (.cons (.asg (.nm 4) (.call 1 (.cons (.call 13 (.cons (.var 2) .nil)) (.cons (.call 13 (.cons (.var 3) .nil)) .nil))))
 (.cons (.ret (.tup (.cons (.var 1) (.cons (.tup (.cons (.call 14 (.cons (.var 2) (.cons (.var 4) .nil))) (.cons (.call 14 (.cons (.var 3) (.cons (.var 4) .nil))) .nil))) .nil))))
 .nil)))))))))⟩
/-- echoedtree.peel:peel (11) -/
def F196 : Fd := ⟨2, 5, (.cons (.ex (.call 194 (.cons (.var 0) .nil)))
 (.cons (.ifs (.or (.and (.cmp .ne (.idx (.var 0) (.lit (.int 0))) (.tup .nil)) (.cmp .ne (.idx (.idx (.var 0) (.lit (.int 0))) (.lit (.int 0))) (.lit (.int 0)))) (.or (.not (.call 0 (.cons (.var 1) .nil))) (.cmp .lt (.var 1) (.lit (.int 0))))) (.cons (.raise 782 .nil)
 .nil) .nil)
 (.cons (.ifs (.or (.cmp .gt (.call 45 (.cons (.var 0) .nil)) (.glb "MOST_DEGREE" (.int 24))) (.cmp .gt (.var 1) (.glb "MOST_DEGREE" (.int 24)))) (.cons (.raise 785 .nil)
 .nil) .nil)
 (.cons (.asg (.nm 2) (.tup (.cons (.slc (.idx (.var 0) (.lit (.int 0))) (.so (.lit (.int 1))) .no) (.cons (.idx (.var 0) (.lit (.int 1))) .nil))))
 (.cons (.asg (.nm 3) (.tup .nil))
 (.cons (.whl (.and (.cmp .ne (.idx (.var 2) (.lit (.int 0))) (.tup .nil)) (.cmp .lt (.prim .len (.cons (.var 3) .nil)) (.var 1))) (.cons (.asg (.nm 4) (.call 46 (.cons (.var 2) .nil)))
 (.cons (.ifs (.or (.call 69 (.cons (.glb "ONE" (.tup [(.int 1), (.int 1)])) (.cons (.call 162 (.cons (.var 4) .nil)) .nil))) (.and (.cmp .eq (.call 162 (.cons (.var 4) .nil)) (.glb "ONE" (.tup [(.int 1), (.int 1)]))) (.cmp .gt (.call 45 (.cons (.var 2) .nil)) (.lit (.int 0))))) (.cons (.ret (.tup (.cons (.lit (.str "beyond")) (.cons (.var 3) .nil))))
 .nil) .nil)
 (.cons (.aug 3 .add (.tup (.cons (.var 4) .nil)))
 (.cons (.ifs (.cmp .eq (.call 45 (.cons (.var 2) .nil)) (.lit (.int 0))) (.cons (.ret (.tup (.cons (.lit (.str "ends")) (.cons (.var 3) .nil))))
 .nil) .nil)
 (.cons (.asg (.nm 2) (.idx (.call 195 (.cons (.var 2) .nil)) (.lit (.int 1))))
 .nil))))))
 (.cons (.ret (.ite (.cmp .ne (.idx (.var 2) (.lit (.int 0))) (.tup .nil)) (.tup (.cons (.lit (.str "goes on")) (.cons (.var 3) (.cons (.var 2) .nil)))) (.tup (.cons (.lit (.str "ends")) (.cons (.var 3) .nil)))))
 .nil)))))))⟩
/-- echoedtree.straight:turns_of (8) -/
def F200 : Fd := ⟨1, 1, (.cons (.ex (.call 100 (.cons (.var 0) .nil)))
 (.cons (.ifs (.not (.call 87 (.cons (.var 0) .nil))) (.cons (.raise 784 .nil)
 .nil) .nil)
 (.cons (.ret (.idx (.call 196 (.cons (.call 137 (.cons (.var 0) .nil)) (.cons (.glb "MOST_DEGREE" (.int 24)) .nil))) (.lit (.int 1))))
 .nil)))⟩
/-- echoedtree.peel:check_row (9) -/
def F207 : Fd := ⟨1, 2, (.cons (.ifs (.or (.not (.isi (.var 0) [.tuple] false)) (.not (.prim .all (.cons (.comp (.call 60 (.cons (.var 1) .nil)) (.nm 1) (.val (.var 0)) .no [1]) .nil)))) (.cons (.raise 787 .nil)
 .nil) .nil)
 (.cons (.ifs (.cmp .gt (.prim .len (.cons (.var 0) .nil)) (.glb "MOST_ROW_peel" (.int 16))) (.cons (.raise 785 .nil)
 .nil) .nil)
 .nil))⟩
/-- echoedtree.peel:row_behind (9) -/
def F208 : Fd := ⟨1, 7, (.cons (.asg (.nm 1) (.idx (.var 0) (.lit (.int 0))))
 (.cons (.asg (.nm 2) (.comp (.call 32 (.cons (.ite (.cmp .eq (.var 4) (.lit (.int 0))) (.glb "ONE" (.tup [(.int 1), (.int 1)])) (.glb "ZERO" (.tup [(.int 0), (.int 1)]))) (.cons (.call 4 (.cons (.var 1) (.cons (.var 5) .nil))) .nil))) (.tp [(.nm 4), (.nm 5)]) (.enm (.var 0)) .no [4, 5]))
 (.cons (.asg (.nm 3) (.lst .nil))
 (.cons (.fr (.nm 4) (.rng1 (.bin .sub (.prim .len (.cons (.var 0) .nil)) (.lit (.int 1)))) (.cons (.asg (.nm 5) (.idx (.var 0) (.bin .add (.var 4) (.lit (.int 1)))))
 (.cons (.fr (.nm 6) (.rng2 (.lit (.int 1)) (.bin .add (.var 4) (.lit (.int 1)))) (.cons (.asg (.nm 5) (.call 32 (.cons (.var 5) (.cons (.call 4 (.cons (.idx (.var 2) (.var 6)) (.cons (.idx (.var 3) (.bin .sub (.var 4) (.var 6))) .nil))) .nil))))
 .nil))
 (.cons (.ex (.meth .append (.var 3) (.cons (.call 33 (.cons (.var 5) (.cons (.idx (.var 2) (.lit (.int 0))) .nil))) .nil)))
 .nil))))
 (.cons (.ret (.prim .tuple (.cons (.var 3) .nil)))
 .nil)))))⟩
/-- echoedtree.peel:peel_row (9) -/
def F209 : Fd := ⟨1, 6, (.cons (.ex (.call 207 (.cons (.var 0) .nil)))
 (.cons (.par 1 2 (.tup .nil) (.var 0))
 (.cons (.whl (.cmp .ne (.var 2) (.tup .nil)) (.cons (.asg (.nm 3) (.idx (.var 2) (.lit (.int 0))))
 (.cons (.ifs (.call 69 (.cons (.glb "ONE" (.tup [(.int 1), (.int 1)])) (.cons (.call 162 (.cons (.var 3) .nil)) .nil))) (.cons (.ret (.tup (.cons (.lit (.str "beyond")) (.cons (.var 1) .nil))))
 .nil) .nil)
 (.cons (.ifs (.cmp .eq (.call 162 (.cons (.var 3) .nil)) (.glb "ONE" (.tup [(.int 1), (.int 1)]))) (.cons (.asg (.nm 4) (.prim .all (.cons (.comp (.cmp .eq (.var 5) (.glb "ZERO" (.tup [(.int 0), (.int 1)]))) (.nm 5) (.val (.slc (.var 2) (.so (.lit (.int 1))) .no)) .no [5]) .nil)))
 (.cons (.ret (.ite (.var 4) (.tup (.cons (.lit (.str "closed")) (.cons (.bin .add (.var 1) (.tup (.cons (.var 3) .nil))) .nil))) (.tup (.cons (.lit (.str "beyond")) (.cons (.var 1) .nil)))))
 .nil)) .nil)
 (.cons (.aug 1 .add (.tup (.cons (.var 3) .nil)))
 (.cons (.asg (.nm 2) (.call 208 (.cons (.var 2) .nil)))
 .nil))))))
 (.cons (.ret (.tup (.cons (.lit (.str "within")) (.cons (.var 1) .nil))))
 .nil))))⟩
/-- echoedtree.knocks:check_knocks (8) -/
def F214 : Fd := ⟨1, 2, (.cons (.ifs (.or (.not (.isi (.var 0) [.tuple] false)) (.not (.prim .all (.cons (.comp (.call 60 (.cons (.var 1) .nil)) (.nm 1) (.val (.var 0)) .no [1]) .nil)))) (.cons (.raise 787 .nil)
 .nil) .nil)
 (.cons (.ifs (.cmp .gt (.prim .len (.cons (.var 0) .nil)) (.glb "MOST_ROW_knocks" (.int 16))) (.cons (.raise 785 .nil)
 .nil) .nil)
 .nil))⟩
/-- law:_law_kind:8bde2be5 (9) -/
def F219 : Fd := ⟨1, 9, (.cons (.par 1 2 (.tup .nil) (.prim .list (.cons (.var 0) .nil)))
 (.cons (.whl (.cmp .ne (.var 2) (.lst .nil)) (.cons (.asg (.nm 3) (.idx (.var 2) (.lit (.int 0))))
 (.cons (.ifs (.or (.call 75 (.cons (.tup (.cons (.lit (.int 1)) (.cons (.lit (.int 1)) .nil))) (.cons (.var 3) .nil))) (.call 75 (.cons (.var 3) (.cons (.tup (.cons (.neg (.lit (.int 1))) (.cons (.lit (.int 1)) .nil))) .nil)))) (.cons (.ret (.tup (.cons (.lit (.str "beyond")) (.cons (.var 1) .nil))))
 .nil) .nil)
 (.cons (.ifs (.cmp .inn (.var 3) (.tup (.cons (.tup (.cons (.lit (.int 1)) (.cons (.lit (.int 1)) .nil))) (.cons (.tup (.cons (.neg (.lit (.int 1))) (.cons (.lit (.int 1)) .nil))) .nil)))) (.cons (.ret (.ite (.prim .all (.cons (.comp (.cmp .eq (.var 7) (.tup (.cons (.lit (.int 0)) (.cons (.lit (.int 1)) .nil)))) (.nm 7) (.val (.slc (.var 2) (.so (.lit (.int 1))) .no)) .no [7]) .nil)) (.tup (.cons (.lit (.str "closed")) (.cons (.bin .add (.var 1) (.tup (.cons (.var 3) .nil))) .nil))) (.tup (.cons (.lit (.str "beyond")) (.cons (.var 1) .nil)))))
 .nil) .nil)
 (.cons (.asg (.tp [(.nm 5), (.nm 6)]) (.tup (.cons (.lst .nil) (.cons (.comp (.call 49 (.cons (.ite (.cmp .eq (.var 4) (.lit (.int 0))) (.tup (.cons (.lit (.int 1)) (.cons (.lit (.int 1)) .nil))) (.tup (.cons (.lit (.int 0)) (.cons (.lit (.int 1)) .nil)))) (.cons (.call 27 (.cons (.var 3) (.cons (.var 7) .nil))) .nil))) (.tp [(.nm 4), (.nm 7)]) (.enm (.var 2)) .no [4, 7]) .nil))))
 (.cons (.fr (.nm 4) (.rng1 (.bin .sub (.prim .len (.cons (.var 2) .nil)) (.lit (.int 1)))) (.cons (.asg (.nm 7) (.call 49 (.cons (.idx (.var 2) (.bin .add (.var 4) (.lit (.int 1)))) (.cons (.call 51 (.cons (.comp (.call 27 (.cons (.idx (.var 6) (.var 8)) (.cons (.idx (.var 5) (.bin .sub (.var 4) (.var 8))) .nil))) (.nm 8) (.rng2 (.lit (.int 1)) (.bin .add (.var 4) (.lit (.int 1)))) .no [8]) .nil)) .nil))))
 (.cons (.ex (.meth .append (.var 5) (.cons (.call 50 (.cons (.var 7) (.cons (.idx (.var 6) (.lit (.int 0))) .nil))) .nil)))
 .nil)))
 (.cons (.par 1 2 (.bin .add (.var 1) (.tup (.cons (.var 3) .nil))) (.var 5))
 .nil)))))))
 (.cons (.ret (.tup (.cons (.lit (.str "within")) (.cons (.var 1) .nil))))
 .nil)))⟩
/-- law:_law_drawn_row:27776003 (8) -/
def F220 : Fd := ⟨2, 10, (.cons (.asg (.nm 2) (.prim .tuple (.cons (.comp (.call 169 (.cons (.var 0) .nil)) (.nm 9) (.rng1 (.call 22 (.cons (.var 0) (.cons (.var 1) .nil)))) .no [9]) .nil)))
 (.cons (.asg (.nm 3) (.call 23 (.cons (.var 0) (.cons (.lst (.cons (.lit (.str "within")) (.cons (.lit (.str "closed")) (.cons (.lit (.str "beyond")) (.cons (.lit (.str "over")) .nil))))) .nil))))
 (.cons (.ifs (.cmp .eq (.var 3) (.lit (.str "within"))) (.cons (.ret (.tup (.cons (.call 168 (.cons (.bin .add (.var 2) (.tup (.cons (.tup (.cons (.lit (.int 0)) (.cons (.lit (.int 1)) .nil))) .nil))) (.cons (.prim .len (.cons (.var 2) .nil)) .nil))) (.cons (.lit (.str "within")) .nil))))
 .nil) .nil)
 (.cons (.asg (.nm 4) (.call 23 (.cons (.var 0) (.cons (.lst (.cons (.tup (.cons (.lit (.int 1)) (.cons (.lit (.int 1)) .nil))) (.cons (.tup (.cons (.neg (.lit (.int 1))) (.cons (.lit (.int 1)) .nil))) .nil))) .nil))))
 (.cons (.asg (.nm 5) (.call 168 (.cons (.bin .add (.var 2) (.tup (.cons (.var 4) .nil))) (.cons (.bin .add (.bin .add (.prim .len (.cons (.var 2) .nil)) (.lit (.int 1))) (.call 22 (.cons (.var 0) (.cons (.lit (.int 4)) .nil)))) .nil))))
 (.cons (.ifs (.cmp .eq (.var 3) (.lit (.str "closed"))) (.cons (.ret (.tup (.cons (.var 5) (.cons (.lit (.str "closed")) .nil))))
 .nil) .nil)
 (.cons (.asg (.nm 6) (.call 23 (.cons (.var 0) (.cons (.lst (.cons (.tup (.cons (.lit (.int 1)) (.cons (.lit (.int 9)) .nil))) (.cons (.tup (.cons (.neg (.lit (.int 1))) (.cons (.lit (.int 4)) .nil))) (.cons (.tup (.cons (.lit (.int 2)) (.cons (.lit (.int 1)) .nil))) (.cons (.tup (.cons (.neg (.lit (.int 1))) (.cons (.lit (.int 100)) .nil))) .nil))))) .nil))))
 (.cons (.ifs (.cmp .eq (.var 3) (.lit (.str "over"))) (.cons (.asg (.nm 8) (.call 26 (.cons (.idx (.var 5) (.prim .len (.cons (.var 2) .nil))) (.cons (.call 27 (.cons (.var 4) (.cons (.tup (.cons (.prim .abs (.cons (.idx (.var 6) (.lit (.int 0))) .nil)) (.cons (.idx (.var 6) (.lit (.int 1))) .nil))) .nil))) .nil))))
 (.cons (.ret (.tup (.cons (.bin .add (.bin .add (.slc (.var 5) .no (.so (.prim .len (.cons (.var 2) .nil)))) (.tup (.cons (.var 8) .nil))) (.prim .tuple (.cons (.comp (.call 54 (.cons (.var 0) .nil)) (.nm 9) (.rng1 (.call 22 (.cons (.var 0) (.cons (.lit (.int 3)) .nil)))) .no [9]) .nil))) (.cons (.lit (.str "beyond")) .nil))))
 .nil)) .nil)
 (.cons (.asg (.nm 5) (.bin .add (.var 5) (.tup (.cons (.idx (.call 168 (.cons (.bin .add (.var 2) (.tup (.cons (.var 4) .nil))) (.cons (.bin .add (.prim .len (.cons (.var 5) .nil)) (.lit (.int 1))) .nil))) (.neg (.lit (.int 1)))) .nil))))
 (.cons (.asg (.nm 7) (.bin .add (.bin .add (.prim .len (.cons (.var 2) .nil)) (.lit (.int 1))) (.call 22 (.cons (.var 0) (.cons (.bin .sub (.bin .sub (.prim .len (.cons (.var 5) .nil)) (.prim .len (.cons (.var 2) .nil))) (.lit (.int 1))) .nil)))))
 (.cons (.ret (.tup (.cons (.bin .add (.bin .add (.slc (.var 5) .no (.so (.var 7))) (.tup (.cons (.call 26 (.cons (.idx (.var 5) (.var 7)) (.cons (.var 6) .nil))) .nil))) (.slc (.var 5) (.so (.bin .add (.var 7) (.lit (.int 1)))) .no)) (.cons (.lit (.str "beyond")) .nil))))
 .nil)))))))))))⟩
/-- law:_law_squares:e8410097 (9) -/
def F232 : Fd := ⟨1, 2, (.cons (.ret (.call 51 (.cons (.comp (.call 27 (.cons (.var 1) (.cons (.var 1) .nil))) (.nm 1) (.val (.var 0)) .no [1]) .nil)))
 .nil)⟩
/-- echoedtree.webs:way_to (21) -/
def F332 : Fd := ⟨2, 4, (.cons (.ex (.call 102 (.cons (.var 0) (.cons (.var 1) .nil))))
 (.cons (.asg (.nm 2) (.lst (.cons (.var 0) .nil)))
 (.cons (.fr (.nm 3) (.val (.var 1)) (.cons (.ex (.meth .append (.var 2) (.cons (.idx (.call 82 (.cons (.idx (.var 2) (.neg (.lit (.int 1)))) .nil)) (.var 3)) .nil)))
 .nil))
 (.cons (.ret (.prim .tuple (.cons (.var 2) .nil)))
 .nil))))⟩
/-- echoedtree.webs:check_far_end (20) -/
def F333 : Fd := ⟨2, 2, (.cons (.ifs (.cmp .ne (.call 82 (.cons (.call 102 (.cons (.var 0) (.cons (.var 1) .nil))) .nil)) (.tup .nil)) (.cons (.raise 783 .nil)
 .nil) .nil)
 .nil)⟩
/-- echoedtree.webs:check_inside (15) -/
def F334 : Fd := ⟨2, 2, (.cons (.ifs (.or (.not (.isi (.var 1) [.tuple] false)) (.or (.cmp .ne (.prim .len (.cons (.var 1) .nil)) (.lit (.int 2))) (.or (.not (.call 101 (.cons (.idx (.var 1) (.lit (.int 0))) .nil))) (.not (.call 0 (.cons (.idx (.var 1) (.lit (.int 1))) .nil)))))) (.cons (.raise 783 .nil)
 .nil) .nil)
 (.cons (.ifs (.not (.cmp2 .le .lt (.lit (.int 1)) (.idx (.var 1) (.lit (.int 1))) (.idx (.call 102 (.cons (.var 0) (.cons (.idx (.var 1) (.lit (.int 0))) .nil))) (.lit (.int 0))))) (.cons (.raise 783 .nil)
 .nil) .nil)
 .nil))⟩
/-- echoedtree.webs:turned_round (17) -/
def F335 : Fd := ⟨2, 9, (.cons (.ex (.call 333 (.cons (.var 0) (.cons (.var 1) .nil))))
 (.cons (.asg (.nm 2) (.call 332 (.cons (.var 0) (.cons (.var 1) .nil))))
 (.cons (.asg (.nm 3) (.tup (.cons (.idx (.idx (.var 2) (.lit (.int 0))) (.lit (.int 0))) (.cons (.idx (.idx (.var 2) (.lit (.int 0))) (.lit (.int 1))) (.cons (.tup (.cons (.lit (.str "drain")) (.cons (.idx (.idx (.var 2) (.lit (.int 0))) (.lit (.int 1))) .nil))) .nil)))))
 (.cons (.fr (.tp [(.nm 4), (.nm 5)]) (.enm (.var 1)) (.cons (.asg (.nm 6) (.comp (.var 8) (.tp [(.nm 7), (.nm 8)]) (.enm (.call 82 (.cons (.idx (.var 2) (.var 4)) .nil))) (.so (.cmp .ne (.var 7) (.var 5))) [7, 8]))
 (.cons (.asg (.nm 3) (.tup (.cons (.idx (.idx (.var 2) (.bin .add (.var 4) (.lit (.int 1)))) (.lit (.int 0))) (.cons (.idx (.idx (.var 2) (.bin .add (.var 4) (.lit (.int 1)))) (.lit (.int 1))) (.cons (.tup (.cons (.lit (.str "fork")) (.cons (.prim .tuple (.cons (.bin .add (.lst (.cons (.var 3) .nil)) (.var 6)) .nil)) .nil))) .nil)))))
 .nil)))
 (.cons (.ifs (.not (.call 80 (.cons (.var 3) .nil))) (.cons (.raise 785 .nil)
 .nil) .nil)
 (.cons (.ret (.var 3))
 .nil))))))⟩
/-- echoedtree.webs:turned_place (14) -/
def F336 : Fd := ⟨3, 8, (.cons (.ex (.call 333 (.cons (.var 0) (.cons (.var 1) .nil))))
 (.cons (.ex (.call 334 (.cons (.var 0) (.cons (.var 2) .nil))))
 (.cons (.asg (.tp [(.nm 6), (.nm 7)]) (.var 2))
 (.cons (.asg (.nm 3) (.lit (.int 0)))
 (.cons (.whl (.and (.cmp .lt (.var 3) (.prim .len (.cons (.var 6) .nil))) (.cmp .eq (.idx (.var 1) (.var 3)) (.idx (.var 6) (.var 3)))) (.cons (.aug 3 .add (.lit (.int 1)))
 (.cons (.ifs (.cmp .eq (.var 3) (.prim .len (.cons (.var 1) .nil))) (.cons .brk
 .nil) .nil)
 .nil)))
 (.cons (.ifs (.cmp .eq (.var 3) (.prim .len (.cons (.var 6) .nil))) (.cons (.ret (.tup (.cons (.bin .mul (.tup (.cons (.lit (.int 0)) .nil)) (.bin .sub (.prim .len (.cons (.var 1) .nil)) (.var 3))) (.cons (.bin .sub (.idx (.call 102 (.cons (.var 0) (.cons (.var 6) .nil))) (.lit (.int 0))) (.var 7)) .nil))))
 .nil) .nil)
 (.cons (.asg (.nm 4) (.idx (.var 6) (.var 3)))
 (.cons (.asg (.nm 5) (.bin .sub (.bin .add (.lit (.int 1)) (.var 4)) (.ite (.cmp .lt (.idx (.var 1) (.var 3)) (.var 4)) (.lit (.int 1)) (.lit (.int 0)))))
 (.cons (.ret (.tup (.cons (.bin .add (.bin .add (.bin .mul (.tup (.cons (.lit (.int 0)) .nil)) (.bin .sub (.bin .sub (.prim .len (.cons (.var 1) .nil)) (.var 3)) (.lit (.int 1)))) (.tup (.cons (.var 5) .nil))) (.slc (.var 6) (.so (.bin .add (.var 3) (.lit (.int 1)))) .no)) (.cons (.var 7) .nil))))
 .nil)))))))))⟩
/-- echoedtree.faults:check_fault (14) -/
def F338 : Fd := ⟨2, 2, (.cons (.ex (.call 100 (.cons (.var 0) .nil)))
 (.cons (.ifs (.not (.call 337 (.cons (.var 0) (.cons (.var 1) .nil)))) (.cons (.raise 788 .nil)
 .nil) .nil)
 .nil))⟩
/-- echoedtree.faults:faulted (12) -/
def F339 : Fd := ⟨2, 9, (.cons (.ex (.call 338 (.cons (.var 0) (.cons (.var 1) .nil))))
 (.cons (.asg (.tp [(.nm 2), (.tp [(.nm 4), (.nm 5), (.nm 6)])]) (.tup (.cons (.idx (.var 1) (.lit (.int 1))) (.cons (.call 102 (.cons (.var 0) (.cons (.idx (.var 1) (.lit (.int 1))) .nil))) .nil))))
 (.cons (.ifs (.cmp .eq (.idx (.var 1) (.lit (.int 0))) (.lit (.str "cut"))) (.cons (.asg (.nm 3) (.tup (.cons (.idx (.var 1) (.lit (.int 2))) (.cons (.var 5) (.cons (.glb "SHUT" (.tup [(.str "shut")])) .nil)))))
 .nil) (.cons (.ifs (.cmp .eq (.idx (.var 1) (.lit (.int 0))) (.lit (.str "hole"))) (.cons (.asg (.nm 3) (.tup (.cons (.idx (.var 1) (.lit (.int 2))) (.cons (.var 5) (.cons (.glb "OPEN" (.tup [(.str "open")])) .nil)))))
 .nil) (.cons (.ifs (.cmp .eq (.idx (.var 1) (.lit (.int 0))) (.lit (.str "leak"))) (.cons (.asg (.nm 7) (.tup (.cons (.lit (.int 1)) (.cons (.idx (.var 1) (.lit (.int 3))) (.cons (.tup (.cons (.lit (.str "drain")) (.cons (.idx (.var 1) (.lit (.int 3))) .nil))) .nil)))))
 (.cons (.asg (.nm 3) (.tup (.cons (.idx (.var 1) (.lit (.int 2))) (.cons (.var 5) (.cons (.tup (.cons (.lit (.str "fork")) (.cons (.tup (.cons (.tup (.cons (.bin .sub (.var 4) (.idx (.var 1) (.lit (.int 2)))) (.cons (.var 5) (.cons (.var 6) .nil)))) (.cons (.var 7) .nil))) .nil))) .nil)))))
 .nil)) (.cons (.asg (.nm 8) (.tup (.cons (.bin .sub (.var 4) (.idx (.var 1) (.lit (.int 3)))) (.cons (.var 5) (.cons (.var 6) .nil)))))
 (.cons (.asg (.nm 3) (.tup (.cons (.idx (.var 1) (.lit (.int 2))) (.cons (.var 5) (.cons (.tup (.cons (.lit (.str "fork")) (.cons (.tup (.cons (.tup (.cons (.bin .sub (.idx (.var 1) (.lit (.int 3))) (.idx (.var 1) (.lit (.int 2)))) (.cons (.idx (.var 1) (.lit (.int 4))) (.cons (.tup (.cons (.lit (.str "fork")) (.cons (.tup (.cons (.var 8) .nil)) .nil))) .nil)))) .nil)) .nil))) .nil)))))
 .nil)))
 .nil))
 .nil))
 (.cons (.ret (.call 340 (.cons (.var 0) (.cons (.var 2) (.cons (.var 3) .nil)))))
 .nil))))⟩
/-- echoedtree.faults:put_at (13) -/
def F340 : Fd := ⟨3, 7, (.cons (.ifs (.cmp .eq (.var 1) (.tup .nil)) (.cons (.ifs (.not (.call 80 (.cons (.var 2) .nil))) (.cons (.raise 785 .nil)
 .nil) .nil)
 (.cons (.ret (.var 2))
 .nil)) .nil)
 (.cons (.asg (.nm 3) (.call 102 (.cons (.var 0) (.cons (.slc (.var 1) .no (.so (.neg (.lit (.int 1))))) .nil))))
 (.cons (.asg (.nm 4) (.prim .tuple (.cons (.comp (.ite (.cmp .eq (.var 5) (.idx (.var 1) (.neg (.lit (.int 1))))) (.var 2) (.var 6)) (.tp [(.nm 5), (.nm 6)]) (.enm (.idx (.idx (.var 3) (.lit (.int 2))) (.lit (.int 1)))) .no [5, 6]) .nil)))
 (.cons (.ret (.call 340 (.cons (.var 0) (.cons (.slc (.var 1) .no (.so (.neg (.lit (.int 1))))) (.cons (.tup (.cons (.idx (.var 3) (.lit (.int 0))) (.cons (.idx (.var 3) (.lit (.int 1))) (.cons (.tup (.cons (.lit (.str "fork")) (.cons (.var 4) .nil))) .nil)))) .nil)))))
 .nil))))⟩
/-- echoedtree.faults:turned_fault (13) -/
def F341 : Fd := ⟨3, 7, (.cons (.ex (.call 338 (.cons (.var 0) (.cons (.var 2) .nil))))
 (.cons (.asg (.tp [(.nm 3), (.nm 4)]) (.call 336 (.cons (.var 0) (.cons (.var 1) (.cons (.tup (.cons (.idx (.var 2) (.lit (.int 1))) (.cons (.idx (.var 2) (.lit (.int 2))) .nil))) .nil)))))
 (.cons (.ifs (.cmp .ne (.idx (.var 2) (.lit (.int 0))) (.lit (.str "narrow"))) (.cons (.ret (.bin .add (.tup (.cons (.idx (.var 2) (.lit (.int 0))) (.cons (.var 3) (.cons (.var 4) .nil)))) (.slc (.var 2) (.so (.lit (.int 3))) .no)))
 .nil) .nil)
 (.cons (.asg (.tp [(.nm 5), (.nm 6)]) (.call 336 (.cons (.var 0) (.cons (.var 1) (.cons (.tup (.cons (.idx (.var 2) (.lit (.int 1))) (.cons (.idx (.var 2) (.lit (.int 3))) .nil))) .nil)))))
 (.cons (.ret (.tup (.cons (.lit (.str "narrow")) (.cons (.var 3) (.cons (.prim .min2 (.cons (.var 4) (.cons (.var 6) .nil))) (.cons (.prim .max2 (.cons (.var 4) (.cons (.var 6) .nil))) (.cons (.idx (.var 2) (.lit (.int 4))) .nil)))))))
 .nil)))))⟩
/-- echoedtree.faults:heard_from (12) -/
def F342 : Fd := ⟨3, 4, (.cons (.ex (.call 100 (.cons (.var 0) .nil)))
 (.cons (.ifs (.isn false (.var 1)) (.cons (.ret (.ite (.isn false (.var 2)) (.var 0) (.call 339 (.cons (.var 0) (.cons (.var 2) .nil)))))
 .nil) .nil)
 (.cons (.ex (.call 333 (.cons (.var 0) (.cons (.var 1) .nil))))
 (.cons (.asg (.nm 3) (.call 335 (.cons (.var 0) (.cons (.var 1) .nil))))
 (.cons (.ret (.ite (.isn false (.var 2)) (.var 3) (.call 339 (.cons (.var 3) (.cons (.call 341 (.cons (.var 0) (.cons (.var 1) (.cons (.var 2) .nil)))) .nil)))))
 .nil)))))⟩
/-- echoedtree.classes:check_faults (12) -/
def F345 : Fd := ⟨2, 3, (.cons (.ex (.call 100 (.cons (.var 0) .nil)))
 (.cons (.ifs (.not (.isi (.var 1) [.tuple] false)) (.cons (.raise 788 .nil)
 .nil) .nil)
 (.cons (.fr (.nm 2) (.val (.var 1)) (.cons (.ifs (.isn true (.var 2)) (.cons (.ex (.call 338 (.cons (.var 0) (.cons (.var 2) .nil))))
 .nil) .nil)
 .nil))
 (.cons (.ifs (.cmp .gt (.prim .len (.cons (.var 1) .nil)) (.glb "MOST_FAULTS" (.int 60))) (.cons (.raise 785 .nil)
 .nil) .nil)
 .nil))))⟩
/-- echoedtree.classes:signature (8) -/
def F346 : Fd := ⟨3, 4, (.cons (.ex (.call 344 (.cons (.var 0) (.cons (.var 1) .nil))))
 (.cons (.ex (.call 345 (.cons (.var 0) (.cons (.tup (.cons (.var 2) .nil)) .nil))))
 (.cons (.ret (.prim .tuple (.cons (.comp (.call 137 (.cons (.call 342 (.cons (.var 0) (.cons (.var 3) (.cons (.var 2) .nil)))) .nil)) (.nm 3) (.val (.var 1)) .no [3]) .nil)))
 .nil)))⟩
/-- echoedtree.furtherears:all_ears (8) -/
def F348 : Fd := ⟨1, 2, (.cons (.asg (.nm 1) (.bin .add (.tup (.cons (.lit .non) .nil)) (.call 104 (.cons (.var 0) .nil))))
 (.cons (.ifs (.cmp .gt (.prim .len (.cons (.var 1) .nil)) (.glb "MOST_EARS" (.int 8))) (.cons (.raise 785 .nil)
 .nil) .nil)
 (.cons (.ret (.var 1))
 .nil)))⟩
/-- echoedtree.waves:plan_of (12) -/
def F355 : Fd := ⟨1, 1, (.cons (.ex (.call 100 (.cons (.var 0) .nil)))
 (.cons (.ret (.prim .tuple (.cons (.call 356 (.cons (.var 0) (.cons (.lit (.int 0)) .nil))) .nil)))
 .nil))⟩
/-- echoedtree.waves:_laid (12) -/
def F356 : Fd := ⟨2, 6, (.cons (.par3 3 4 5 (.lst .nil) (.lst .nil) (.bin .add (.var 1) (.lit (.int 1))))
 (.cons (.fr (.nm 2) (.val (.call 82 (.cons (.var 0) .nil))) (.cons (.ex (.meth .append (.var 3) (.cons (.var 5) .nil)))
 (.cons (.ex (.meth .extend (.var 4) (.cons (.call 356 (.cons (.var 2) (.cons (.var 5) .nil))) .nil)))
 (.cons (.aug 5 .add (.call 85 (.cons (.var 2) .nil)))
 .nil))))
 (.cons (.ret (.bin .add (.lst (.cons (.tup (.cons (.idx (.var 0) (.lit (.int 0))) (.cons (.idx (.var 0) (.lit (.int 1))) (.cons (.idx (.var 0) (.lit (.int 2))) (.cons (.prim .tuple (.cons (.var 3) .nil)) .nil))))) .nil)) (.var 4)))
 .nil)))⟩
/-- echoedtree.waves:moved (12) -/
def F361 : Fd := ⟨3, 21, (.cons (.asg (.nm 3) (.comp (.bin .add (.lst (.cons (.glb "ZERO" (.tup [(.int 0), (.int 1)])) .nil)) (.prim .list (.cons (.slc (.var 18) .no (.so (.neg (.lit (.int 1))))) .nil))) (.tp [(.nm 18), (.nm 19)]) (.val (.var 1)) .no [18, 19]))
 (.cons (.asg (.nm 4) (.comp (.bin .add (.prim .list (.cons (.slc (.var 19) (.so (.lit (.int 1))) .no) .nil)) (.lst (.cons (.glb "ZERO" (.tup [(.int 0), (.int 1)])) .nil))) (.tp [(.nm 18), (.nm 19)]) (.val (.var 1)) .no [18, 19]))
 (.cons (.asg (.nm 5) (.glb "ZERO" (.tup [(.int 0), (.int 1)])))
 (.cons (.fr (.tp [(.nm 6), (.nm 7)]) (.enm (.var 0)) (.cons (.asg (.nm 8) (.idx (.idx (.idx (.var 1) (.var 6)) (.lit (.int 0))) (.neg (.lit (.int 1)))))
 (.cons (.ifs (.cmp .eq (.idx (.var 7) (.lit (.int 3))) (.tup .nil)) (.cons (.asg (.nm 14) (.call 4 (.cons (.call 132 (.cons (.idx (.var 7) (.lit (.int 1))) (.cons (.idx (.var 7) (.lit (.int 2))) .nil))) (.cons (.var 8) .nil))))
 (.cons (.sub (.idx (.var 4) (.var 6)) (.neg (.lit (.int 1))) (.var 14))
 (.cons (.asg (.nm 15) (.call 32 (.cons (.call 4 (.cons (.var 8) (.cons (.var 8) .nil))) (.cons (.call 4 (.cons (.var 14) (.cons (.var 14) .nil))) .nil))))
 (.cons (.asg (.nm 5) (.call 3 (.cons (.var 5) (.cons (.call 4 (.cons (.idx (.var 7) (.lit (.int 1))) (.cons (.var 15) .nil))) .nil))))
 (.cons .cnt
 .nil))))) .nil)
 (.cons (.asg (.nm 9) (.bin .add (.tup (.cons (.var 6) .nil)) (.idx (.var 7) (.lit (.int 3)))))
 (.cons (.asg (.nm 10) (.bin .add (.lst (.cons (.var 8) .nil)) (.comp (.idx (.idx (.idx (.var 1) (.var 16)) (.lit (.int 1))) (.lit (.int 0))) (.nm 16) (.val (.idx (.var 7) (.lit (.int 3)))) .no [16])))
 (.cons (.asg (.nm 11) (.comp (.idx (.idx (.var 0) (.var 16)) (.lit (.int 1))) (.nm 16) (.val (.var 9)) .no [16]))
 (.cons (.asg (.nm 12) (.call 70 (.cons (.comp (.call 4 (.cons (.call 3 (.cons (.var 20) (.cons (.var 20) .nil))) (.cons (.var 17) .nil))) (.tp [(.nm 20), (.nm 17)]) (.zip2 (.var 11) (.var 10)) .no [20, 17]) .nil)))
 (.cons (.asg (.nm 13) (.call 33 (.cons (.var 12) (.cons (.call 70 (.cons (.var 11) .nil)) .nil))))
 (.cons (.sub (.idx (.var 4) (.var 6)) (.neg (.lit (.int 1))) (.call 32 (.cons (.var 13) (.cons (.var 8) .nil))))
 (.cons (.fr (.tp [(.nm 16), (.nm 17)]) (.zip2 (.idx (.var 7) (.lit (.int 3))) (.slc (.var 10) (.so (.lit (.int 1))) .no)) (.cons (.sub (.idx (.var 3) (.var 16)) (.lit (.int 0)) (.call 32 (.cons (.var 13) (.cons (.var 17) .nil))))
 .nil))
 .nil))))))))))
 (.cons (.sub (.idx (.var 3) (.lit (.int 0))) (.lit (.int 0)) (.var 2))
 (.cons (.ret (.tup (.cons (.prim .tuple (.cons (.comp (.tup (.cons (.prim .tuple (.cons (.var 18) .nil)) (.cons (.prim .tuple (.cons (.var 19) .nil)) .nil))) (.tp [(.nm 18), (.nm 19)]) (.zip2 (.var 3) (.var 4)) .no [18, 19]) .nil)) (.cons (.idx (.idx (.idx (.var 1) (.lit (.int 0))) (.lit (.int 1))) (.lit (.int 0))) (.cons (.var 5) .nil)))))
 .nil))))))⟩
/-- echoedtree.quiet:as_state (8) -/
def F367 : Fd := ⟨2, 5, (.cons (.par 3 4 (.lst .nil) (.lit (.int 0)))
 (.cons (.fr (.nm 2) (.val (.var 0)) (.cons (.ex (.meth .append (.var 3) (.cons (.tup (.cons (.slc (.var 1) (.so (.var 4)) (.so (.bin .add (.var 4) (.idx (.var 2) (.lit (.int 0)))))) (.cons (.slc (.var 1) (.so (.bin .add (.var 4) (.idx (.var 2) (.lit (.int 0))))) (.so (.bin .add (.var 4) (.bin .mul (.lit (.int 2)) (.idx (.var 2) (.lit (.int 0))))))) .nil))) .nil)))
 (.cons (.aug 4 .add (.bin .mul (.lit (.int 2)) (.idx (.var 2) (.lit (.int 0)))))
 .nil)))
 (.cons (.ret (.prim .tuple (.cons (.var 3) .nil)))
 .nil)))⟩
/-- echoedtree.quiet:comes_out (8) -/
def F368 : Fd := ⟨3, 6, (.cons (.asg (.nm 3) (.lst .nil))
 (.cons (.fr (.nm 4) (.rng1 (.var 2)) (.cons (.asg (.tp [(.nm 1), (.nm 5), (.nm 4)]) (.call 361 (.cons (.var 0) (.cons (.var 1) (.cons (.glb "ZERO" (.tup [(.int 0), (.int 1)])) .nil)))))
 (.cons (.ex (.meth .append (.var 3) (.cons (.var 5) .nil)))
 .nil)))
 (.cons (.ret (.prim .tuple (.cons (.var 3) .nil)))
 .nil)))⟩
/-- echoedtree.units:kid_codes (8) -/
def F373 : Fd := ⟨1, 5, (.cons (.ifs (.or (.not (.isi (.var 0) [.str] false)) (.or (.cmp .lt (.prim .len (.cons (.var 0) .nil)) (.lit (.int 2))) (.or (.cmp .ne (.idx (.var 0) (.lit (.int 0))) (.lit (.str "("))) (.cmp .ne (.idx (.var 0) (.neg (.lit (.int 1)))) (.lit (.str ")")))))) (.cons (.raise 784 .nil)
 .nil) .nil)
 (.cons (.par3 2 3 4 (.lst .nil) (.lit (.int 1)) (.lit (.int 0)))
 (.cons (.fr (.nm 1) (.rng2 (.lit (.int 1)) (.bin .sub (.prim .len (.cons (.var 0) .nil)) (.lit (.int 1)))) (.cons (.ifs (.cmp .nin (.idx (.var 0) (.var 1)) (.tup (.cons (.lit (.str "(")) (.cons (.lit (.str ")")) .nil)))) (.cons (.raise 784 .nil)
 .nil) .nil)
 (.cons (.aug 4 .add (.ite (.cmp .eq (.idx (.var 0) (.var 1)) (.lit (.str "("))) (.lit (.int 1)) (.neg (.lit (.int 1)))))
 (.cons (.ifs (.cmp .lt (.var 4) (.lit (.int 0))) (.cons (.raise 784 .nil)
 .nil) .nil)
 (.cons (.ifs (.cmp .eq (.var 4) (.lit (.int 0))) (.cons (.ex (.meth .append (.var 2) (.cons (.slc (.var 0) (.so (.var 3)) (.so (.bin .add (.var 1) (.lit (.int 1))))) .nil)))
 (.cons (.asg (.nm 3) (.bin .add (.var 1) (.lit (.int 1))))
 .nil)) .nil)
 .nil)))))
 (.cons (.ifs (.cmp .ne (.var 4) (.lit (.int 0))) (.cons (.raise 784 .nil)
 .nil) .nil)
 (.cons (.ret (.prim .tuple (.cons (.var 2) .nil)))
 .nil)))))⟩
/-- echoedtree.units:kid_lots (8) -/
def F382 : Fd := ⟨5, 10, (.cons (.ifs (.cmp .eq (.var 1) (.lit (.int 0))) (.cons (.ret (.lst (.cons (.lst .nil) .nil)))
 .nil) .nil)
 (.cons (.ifs (.cmp .eq (.var 4) (.lit (.int 0))) (.cons (.ret (.lst .nil))
 .nil) .nil)
 (.cons (.asg (.nm 5) (.lst .nil))
 (.cons (.fr (.nm 6) (.rng3 (.prim .min2 (.cons (.var 1) (.cons (.var 2) .nil))) (.lit (.int 0)) (.neg (.lit (.int 1)))) (.cons (.asg (.nm 7) (.ite (.or (.isn false (.var 3)) (.cmp .lt (.var 6) (.var 2))) (.bin .sub (.prim .len (.cons (.idx (.var 0) (.var 6)) .nil)) (.lit (.int 1))) (.var 3)))
 (.cons (.fr (.nm 8) (.rng3 (.var 7) (.neg (.lit (.int 1))) (.neg (.lit (.int 1)))) (.cons (.fr (.nm 9) (.val (.call 382 (.cons (.var 0) (.cons (.bin .sub (.var 1) (.var 6)) (.cons (.var 6) (.cons (.var 8) (.cons (.bin .sub (.var 4) (.lit (.int 1))) .nil))))))) (.cons (.ex (.meth .append (.var 5) (.cons (.bin .add (.lst (.cons (.idx (.idx (.var 0) (.var 6)) (.var 8)) .nil)) (.var 9)) .nil)))
 .nil))
 .nil))
 .nil)))
 (.cons (.ret (.var 5))
 .nil)))))⟩
/-- law:_law_frac:30d57ed4 (8) -/
def F540 : Fd := ⟨2, 3, (.cons (.ifs (.cmp .lt (.var 1) (.lit (.int 0))) (.cons (.par 0 1 (.neg (.var 0)) (.neg (.var 1)))
 .nil) .nil)
 (.cons (.asg (.nm 2) (.call 539 (.cons (.var 0) (.cons (.var 1) .nil))))
 (.cons (.ret (.tup (.cons (.bin .fdiv (.var 0) (.var 2)) (.cons (.bin .fdiv (.var 1) (.var 2)) .nil))))
 .nil)))⟩
end Ev.Law

set_option Elab.async false
set_option linter.all false
set_option maxRecDepth 100000
/-! # Part D: pipes -/
namespace Ev
open Law
inductive Pp where
  | shut (l : Nat) (w : Rat) | opn (l : Nat) (w : Rat) | drain (l : Nat) (w d : Rat) | fork (l : Nat) (w : Rat) (ks : List Pp)
namespace Pp
mutual
def enc : Pp → D
  | .shut l w => .tup [.int l, sh w, .tup [.str "shut"]]
  | .opn l w => .tup [.int l, sh w, .tup [.str "open"]]
  | .drain l w d => .tup [.int l, sh w, .tup [.str "drain", sh d]]
  | .fork l w ks => .tup [.int l, sh w, .tup [.str "fork", .tup (encs ks)]]
def encs : List Pp → List D
  | [] => []
  | p :: ps => enc p :: encs ps
end
mutual
def size : Pp → Nat
  | .shut l _ => l
  | .opn l _ => l
  | .drain l _ _ => l
  | .fork l _ ks => l + sizes ks
def sizes : List Pp → Nat
  | [] => 0
  | p :: ps => size p + sizes ps
end
mutual
def dep : Pp → Nat
  | .shut _ _ => 1
  | .opn _ _ => 1
  | .drain _ _ _ => 1
  | .fork _ _ ks => deps ks + 1
def deps : List Pp → Nat
  | [] => 0
  | p :: ps => max (dep p) (deps ps)
end
def wok (w : Rat) : Prop := 0 < w ∧ B 3 w
mutual
def good : Pp → Prop
  | .shut l w => 1 ≤ l ∧ wok w
  | .opn l w => 1 ≤ l ∧ wok w
  | .drain l w d => 1 ≤ l ∧ wok w ∧ wok d
  | .fork l w ks => 1 ≤ l ∧ wok w ∧ ks ≠ [] ∧ ks.length ≤ 6 ∧ goods ks
def goods : List Pp → Prop
  | [] => True
  | p :: ps => good p ∧ goods ps
end
mutual
def loss : Pp → Bool
  | .shut _ _ => false
  | .opn _ _ => false
  | .drain _ _ _ => true
  | .fork _ _ ks => losses ks
def losses : List Pp → Bool
  | [] => false
  | p :: ps => loss p || losses ps
end
theorem encs_map : ∀ ks, encs ks = ks.map enc
  | [] => by simp [encs]
  | p :: ps => by simp [encs, encs_map ps]
theorem goods_mem : ∀ {ks : List Pp}, goods ks → ∀ q ∈ ks, good q
  | [], _, q, h => by cases h
  | p :: ps, g, q, h => by
    simp only [goods] at g
    rcases List.mem_cons.mp h with rfl | h
    · exact g.1
    · exact goods_mem g.2 q h
theorem deps_mem : ∀ {ks : List Pp} {q : Pp}, q ∈ ks → dep q ≤ deps ks
  | [], q, h => by cases h
  | p :: ps, q, h => by
    simp only [deps]
    rcases List.mem_cons.mp h with rfl | h
    · omega
    · have := deps_mem h; omega
theorem goods_app : ∀ {ks : List Pp} {q : Pp}, goods ks → good q → goods (ks ++ [q])
  | [], q, _, h => by simp [goods, h]
  | p :: ps, q, g, h => by
    simp only [goods, List.cons_append] at g ⊢
    exact ⟨g.1, goods_app g.2 h⟩
theorem sizes_app : ∀ (ks : List Pp) (q : Pp), sizes (ks ++ [q]) = sizes ks + size q
  | [], q => by simp [sizes]
  | p :: ps, q => by simp only [List.cons_append, sizes, sizes_app ps q]; omega
theorem deps_app : ∀ (ks : List Pp) (q : Pp), deps (ks ++ [q]) = max (deps ks) (dep q)
  | [], q => by simp [deps]
  | p :: ps, q => by simp only [List.cons_append, deps, deps_app ps q]; omega
theorem losses_app : ∀ (ks : List Pp) (q : Pp), losses (ks ++ [q]) = (losses ks || loss q)
  | [], q => by simp [losses]
  | p :: ps, q => by simp [losses, losses_app ps q, Bool.or_assoc]
theorem dep_pos : ∀ p : Pp, 1 ≤ dep p
  | .shut _ _ => by simp [dep]
  | .opn _ _ => by simp [dep]
  | .drain _ _ _ => by simp [dep]
  | .fork _ _ ks => by simp [dep]
mutual
theorem enc_blw (n : Nat) : ∀ p : Pp, (enc p).blw n = true
  | .shut _ _ => by simp [enc, D.blw, D.blws, sh]
  | .opn _ _ => by simp [enc, D.blw, D.blws, sh]
  | .drain _ _ _ => by simp [enc, D.blw, D.blws, sh]
  | .fork _ _ ks => by simp [enc, D.blw, D.blws, sh, encs_blw n ks]
theorem encs_blw (n : Nat) : ∀ ks : List Pp, D.blws n (encs ks) = true
  | [] => by simp [encs, D.blws]
  | p :: ps => by simp [encs, D.blws, enc_blw n p, encs_blw n ps]
end
theorem own_enc {η : Hep} : ∀ p : Pp, own (enc p) η = .ok (enc p) η
  | .shut _ _ => by simp only [enc]; rfl
  | .opn _ _ => by simp only [enc]; rfl
  | .drain _ _ _ => by simp only [enc]; rfl
  | .fork _ _ ks => by simp only [enc]; rfl
end Pp
open Pp
section
variable {Γ : Nat → Option Fd} {η : Hep}
theorem intsOf_map {α : Type} (f : α → Int) : ∀ as : List α, intsOf (as.map fun a => .int (f a)) = some (as.map f)
  | [] => rfl
  | a :: as => by simp [intsOf, intsOf_map f as]
theorem sizes_sum : ∀ ks : List Pp, (ks.map fun q => (size q : Int)).sum = (sizes ks : Int)
  | [] => by simp [sizes]
  | p :: ps => by simp [sizes, sizes_sum ps]
theorem at2 {α : Type} {x y z : α} {xs : List α} : at_ (x :: y :: z :: xs) 2 = some z := at_nat (x :: y :: z :: xs) 2
theorem str_ne {a b : PySem.Str} (h : a ≠ b) : decide (a = b) = false := decide_eq_false h
theorem shut_ne : decide (("shut" : PySem.Str) = "fork") = false := by decide
theorem open_ne : decide (("open" : PySem.Str) = "fork") = false := by decide
theorem drain_ne : decide (("drain" : PySem.Str) = "fork") = false := by decide
theorem lsize_ok (h : Γ 91 = some F91) : ∀ (η : Hep) (K : Nat) (p : Pp), dep p ≤ K → good p → size p ≤ 1000 → callN Γ K 91 [enc p] η = .ok (.int (size p)) η
  | η, 0, p, hk, _, _ => by have := dep_pos p; omega
  | η, K + 1, p, hk, g, hs => by
    rw [call_eq h rfl]
    cases p with
    | shut l w => simp only [enc, size]; simp -implicitDefEqProofs only [e_lit, e_var, e_glb, e_bin, e_bin1, e_bin2, e_neg, e_neg1, e_cmp, e_cmp1, e_cmp2, e_chn, e_chn1, e_chn2, e_chn3, e_chn4, e_isn, e_isn1, e_isn2, e_and, e_and1, e_and2, e_or, e_or1, e_or2, e_not, e_not1, e_ite, e_ite1, e_ite2, e_tup, e_tup1, e_lst, e_lst1, e_idx, e_idx1, e_idx2, e_slc, e_slc1, e_slc2, e_slc3, e_call, e_call1, e_prim, e_prim1, e_isi, e_isi1, e_isi2, e_meth, e_meth1, e_meth2, e_comp, e_comp1, e_tl, es_nil, es_cons, es_cons1, es_cons2, es_cons3, ep_nil, ep_cons, ep_cons1, eo_no, eo_so, eo_so1, ec_no, ec_so, ei_val, ei_val1, ei_rg, ei_rg1, ei_rg2, ei_rg3, ei_rg4, ei_enm, ei_enm1, ei_zip, ei_zip1, ei_zip2, ei_zip3, ei_rev, ei_rev1, c_nil, x_asg, x_asg1, x_asg2, x_asg3, x_par, x_par1, x_par3, x_par31, x_sub, x_sub1, x_sub2, x_sub3, x_sub4, x_sub5, x_aug, x_aug0, x_aug1, x_aug2, x_augS, x_augS1, x_augS2, x_augS3, x_augS4, x_augS5, x_ret, x_ret1, x_ret2, x_retN, x_ex, x_ex1, x_ex2, x_pass, x_brk, x_cnt, x_if, x_if1, x_if2, x_whl, x_fr, x_fr1, x_rs, x_tr, x_tr1, x_tr2, x_tr3, x_h, x_noX1, x_noX2, x_noX3, xs_nx, xs_rt, xs_bk, xs_ct, xs_ex, f_nil, t_nx, t_rt, t_exc, own_tl, own_int, own_bl, own_non, own_str, own_tup, own_ref, own_fl, xs_nil, xs_cons, start, bindT, bindTs, R.of_some, R.of_none, List.length_cons, List.length_nil, List.map_cons, List.map_nil, List.getElem?_cons_zero, List.getElem?_cons_succ, List.set_cons_zero, List.set_cons_succ, Nat.reduceAdd, Nat.reduceSub, List.cons_append, List.nil_append, List.append_nil, List.replicate, Nat.zero_add, reduceIte, Option.map_some, Option.map_none, fin_same, Bool.not_true, Bool.not_false, Bool.false_eq_true, tyD, primD, binD, sz0, sz1, sz2, sz3, sz4, sz5, sz6, sz7, sz8, nc0, nc1, nc2, nc3, nc4, nc5, nc6, nc7, nc8, Nat.reduceEqDiff, Option.bind_some, Int.reduceLE, Int.reduceLT, Int.reduceEq, Int.reduceToNat, Int.reduceAdd, Int.reduceSub, Int.reduceMul, Int.reduceNeg, Nat.reduceMul, ne_eq, not_false_eq_true, not_true_eq_false, decide_true, decide_false, Bool.and_true, Bool.true_and, Bool.or_false, Bool.false_or, Bool.or_true, Bool.true_or, Bool.and_false, Bool.false_and, beq_self_eq_true, F91, idx_tup, at0, at1, at2, cmpD, eqD_str, shut_ne, Int.add_zero]
    | opn l w => simp only [enc, size]; simp -implicitDefEqProofs only [e_lit, e_var, e_glb, e_bin, e_bin1, e_bin2, e_neg, e_neg1, e_cmp, e_cmp1, e_cmp2, e_chn, e_chn1, e_chn2, e_chn3, e_chn4, e_isn, e_isn1, e_isn2, e_and, e_and1, e_and2, e_or, e_or1, e_or2, e_not, e_not1, e_ite, e_ite1, e_ite2, e_tup, e_tup1, e_lst, e_lst1, e_idx, e_idx1, e_idx2, e_slc, e_slc1, e_slc2, e_slc3, e_call, e_call1, e_prim, e_prim1, e_isi, e_isi1, e_isi2, e_meth, e_meth1, e_meth2, e_comp, e_comp1, e_tl, es_nil, es_cons, es_cons1, es_cons2, es_cons3, ep_nil, ep_cons, ep_cons1, eo_no, eo_so, eo_so1, ec_no, ec_so, ei_val, ei_val1, ei_rg, ei_rg1, ei_rg2, ei_rg3, ei_rg4, ei_enm, ei_enm1, ei_zip, ei_zip1, ei_zip2, ei_zip3, ei_rev, ei_rev1, c_nil, x_asg, x_asg1, x_asg2, x_asg3, x_par, x_par1, x_par3, x_par31, x_sub, x_sub1, x_sub2, x_sub3, x_sub4, x_sub5, x_aug, x_aug0, x_aug1, x_aug2, x_augS, x_augS1, x_augS2, x_augS3, x_augS4, x_augS5, x_ret, x_ret1, x_ret2, x_retN, x_ex, x_ex1, x_ex2, x_pass, x_brk, x_cnt, x_if, x_if1, x_if2, x_whl, x_fr, x_fr1, x_rs, x_tr, x_tr1, x_tr2, x_tr3, x_h, x_noX1, x_noX2, x_noX3, xs_nx, xs_rt, xs_bk, xs_ct, xs_ex, f_nil, t_nx, t_rt, t_exc, own_tl, own_int, own_bl, own_non, own_str, own_tup, own_ref, own_fl, xs_nil, xs_cons, start, bindT, bindTs, R.of_some, R.of_none, List.length_cons, List.length_nil, List.map_cons, List.map_nil, List.getElem?_cons_zero, List.getElem?_cons_succ, List.set_cons_zero, List.set_cons_succ, Nat.reduceAdd, Nat.reduceSub, List.cons_append, List.nil_append, List.append_nil, List.replicate, Nat.zero_add, reduceIte, Option.map_some, Option.map_none, fin_same, Bool.not_true, Bool.not_false, Bool.false_eq_true, tyD, primD, binD, sz0, sz1, sz2, sz3, sz4, sz5, sz6, sz7, sz8, nc0, nc1, nc2, nc3, nc4, nc5, nc6, nc7, nc8, Nat.reduceEqDiff, Option.bind_some, Int.reduceLE, Int.reduceLT, Int.reduceEq, Int.reduceToNat, Int.reduceAdd, Int.reduceSub, Int.reduceMul, Int.reduceNeg, Nat.reduceMul, ne_eq, not_false_eq_true, not_true_eq_false, decide_true, decide_false, Bool.and_true, Bool.true_and, Bool.or_false, Bool.false_or, Bool.or_true, Bool.true_or, Bool.and_false, Bool.false_and, beq_self_eq_true, F91, idx_tup, at0, at1, at2, cmpD, eqD_str, open_ne, Int.add_zero]
    | drain l w d => simp only [enc, size]; simp -implicitDefEqProofs only [e_lit, e_var, e_glb, e_bin, e_bin1, e_bin2, e_neg, e_neg1, e_cmp, e_cmp1, e_cmp2, e_chn, e_chn1, e_chn2, e_chn3, e_chn4, e_isn, e_isn1, e_isn2, e_and, e_and1, e_and2, e_or, e_or1, e_or2, e_not, e_not1, e_ite, e_ite1, e_ite2, e_tup, e_tup1, e_lst, e_lst1, e_idx, e_idx1, e_idx2, e_slc, e_slc1, e_slc2, e_slc3, e_call, e_call1, e_prim, e_prim1, e_isi, e_isi1, e_isi2, e_meth, e_meth1, e_meth2, e_comp, e_comp1, e_tl, es_nil, es_cons, es_cons1, es_cons2, es_cons3, ep_nil, ep_cons, ep_cons1, eo_no, eo_so, eo_so1, ec_no, ec_so, ei_val, ei_val1, ei_rg, ei_rg1, ei_rg2, ei_rg3, ei_rg4, ei_enm, ei_enm1, ei_zip, ei_zip1, ei_zip2, ei_zip3, ei_rev, ei_rev1, c_nil, x_asg, x_asg1, x_asg2, x_asg3, x_par, x_par1, x_par3, x_par31, x_sub, x_sub1, x_sub2, x_sub3, x_sub4, x_sub5, x_aug, x_aug0, x_aug1, x_aug2, x_augS, x_augS1, x_augS2, x_augS3, x_augS4, x_augS5, x_ret, x_ret1, x_ret2, x_retN, x_ex, x_ex1, x_ex2, x_pass, x_brk, x_cnt, x_if, x_if1, x_if2, x_whl, x_fr, x_fr1, x_rs, x_tr, x_tr1, x_tr2, x_tr3, x_h, x_noX1, x_noX2, x_noX3, xs_nx, xs_rt, xs_bk, xs_ct, xs_ex, f_nil, t_nx, t_rt, t_exc, own_tl, own_int, own_bl, own_non, own_str, own_tup, own_ref, own_fl, xs_nil, xs_cons, start, bindT, bindTs, R.of_some, R.of_none, List.length_cons, List.length_nil, List.map_cons, List.map_nil, List.getElem?_cons_zero, List.getElem?_cons_succ, List.set_cons_zero, List.set_cons_succ, Nat.reduceAdd, Nat.reduceSub, List.cons_append, List.nil_append, List.append_nil, List.replicate, Nat.zero_add, reduceIte, Option.map_some, Option.map_none, fin_same, Bool.not_true, Bool.not_false, Bool.false_eq_true, tyD, primD, binD, sz0, sz1, sz2, sz3, sz4, sz5, sz6, sz7, sz8, nc0, nc1, nc2, nc3, nc4, nc5, nc6, nc7, nc8, Nat.reduceEqDiff, Option.bind_some, Int.reduceLE, Int.reduceLT, Int.reduceEq, Int.reduceToNat, Int.reduceAdd, Int.reduceSub, Int.reduceMul, Int.reduceNeg, Nat.reduceMul, ne_eq, not_false_eq_true, not_true_eq_false, decide_true, decide_false, Bool.and_true, Bool.true_and, Bool.or_false, Bool.false_or, Bool.or_true, Bool.true_or, Bool.and_false, Bool.false_and, beq_self_eq_true, F91, idx_tup, at0, at1, at2, cmpD, eqD_str, drain_ne, Int.add_zero]
    | fork l w ks =>
      simp only [good] at g
      simp only [dep] at hk
      simp only [enc, size, encs_map] at hs ⊢
      have hl : ks.length ≤ PySem.sizeLine := by
        have : (6 : Nat) ≤ PySem.sizeLine := by decide
        omega
      have sz : ∀ q ∈ ks, size q ≤ sizes ks := by
        intro q hq
        clear hs hk g hl
        induction ks with
        | nil => cases hq
        | cons a as ih =>
          simp only [sizes]
          rcases List.mem_cons.mp hq with rfl | hq
          · omega
          · have := ih hq; omega
      have c := c_map (C := callN Γ K) (elt := .call 91 (.cons (.var 1) .nil)) (t := .nm 1) (w := []) (η := η) (ρ := wipe [some (.tup [.int l, sh w, .tup [.str "fork", .tup (ks.map enc)]]), none] [1]) rfl enc (fun q => .int (size q : Int)) ks [] (by simpa using hl) (fun q hq => ⟨_, rfl, by
        have := lsize_ok h η K q (by have := deps_mem hq; omega) (goods_mem g.2.2.2.2 q hq) (by have := sz q hq; omega)
        simp -implicitDefEqProofs only [e_lit, e_var, e_glb, e_bin, e_bin1, e_bin2, e_neg, e_neg1, e_cmp, e_cmp1, e_cmp2, e_chn, e_chn1, e_chn2, e_chn3, e_chn4, e_isn, e_isn1, e_isn2, e_and, e_and1, e_and2, e_or, e_or1, e_or2, e_not, e_not1, e_ite, e_ite1, e_ite2, e_tup, e_tup1, e_lst, e_lst1, e_idx, e_idx1, e_idx2, e_slc, e_slc1, e_slc2, e_slc3, e_call, e_call1, e_prim, e_prim1, e_isi, e_isi1, e_isi2, e_meth, e_meth1, e_meth2, e_comp, e_comp1, e_tl, es_nil, es_cons, es_cons1, es_cons2, es_cons3, ep_nil, ep_cons, ep_cons1, eo_no, eo_so, eo_so1, ec_no, ec_so, ei_val, ei_val1, ei_rg, ei_rg1, ei_rg2, ei_rg3, ei_rg4, ei_enm, ei_enm1, ei_zip, ei_zip1, ei_zip2, ei_zip3, ei_rev, ei_rev1, c_nil, x_asg, x_asg1, x_asg2, x_asg3, x_par, x_par1, x_par3, x_par31, x_sub, x_sub1, x_sub2, x_sub3, x_sub4, x_sub5, x_aug, x_aug0, x_aug1, x_aug2, x_augS, x_augS1, x_augS2, x_augS3, x_augS4, x_augS5, x_ret, x_ret1, x_ret2, x_retN, x_ex, x_ex1, x_ex2, x_pass, x_brk, x_cnt, x_if, x_if1, x_if2, x_whl, x_fr, x_fr1, x_rs, x_tr, x_tr1, x_tr2, x_tr3, x_h, x_noX1, x_noX2, x_noX3, xs_nx, xs_rt, xs_bk, xs_ct, xs_ex, f_nil, t_nx, t_rt, t_exc, own_tl, own_int, own_bl, own_non, own_str, own_tup, own_ref, own_fl, xs_nil, xs_cons, start, bindT, bindTs, R.of_some, R.of_none, List.length_cons, List.length_nil, List.map_cons, List.map_nil, List.getElem?_cons_zero, List.getElem?_cons_succ, List.set_cons_zero, List.set_cons_succ, Nat.reduceAdd, Nat.reduceSub, List.cons_append, List.nil_append, List.append_nil, List.replicate, Nat.zero_add, reduceIte, Option.map_some, Option.map_none, fin_same, Bool.not_true, Bool.not_false, Bool.false_eq_true, tyD, primD, binD, sz0, sz1, sz2, sz3, sz4, sz5, sz6, sz7, sz8, nc0, nc1, nc2, nc3, nc4, nc5, nc6, nc7, nc8, Nat.reduceEqDiff, Option.bind_some, Int.reduceLE, Int.reduceLT, Int.reduceEq, Int.reduceToNat, Int.reduceAdd, Int.reduceSub, Int.reduceMul, Int.reduceNeg, Nat.reduceMul, ne_eq, not_false_eq_true, not_true_eq_false, decide_true, decide_false, Bool.and_true, Bool.true_and, Bool.or_false, Bool.false_or, Bool.or_true, Bool.true_or, Bool.and_false, Bool.false_and, beq_self_eq_true, own_enc, this, wipe], rfl⟩)
      simp -implicitDefEqProofs only [e_lit, e_var, e_glb, e_bin, e_bin1, e_bin2, e_neg, e_neg1, e_cmp, e_cmp1, e_cmp2, e_chn, e_chn1, e_chn2, e_chn3, e_chn4, e_isn, e_isn1, e_isn2, e_and, e_and1, e_and2, e_or, e_or1, e_or2, e_not, e_not1, e_ite, e_ite1, e_ite2, e_tup, e_tup1, e_lst, e_lst1, e_idx, e_idx1, e_idx2, e_slc, e_slc1, e_slc2, e_slc3, e_call, e_call1, e_prim, e_prim1, e_isi, e_isi1, e_isi2, e_meth, e_meth1, e_meth2, e_comp, e_comp1, e_tl, es_nil, es_cons, es_cons1, es_cons2, es_cons3, ep_nil, ep_cons, ep_cons1, eo_no, eo_so, eo_so1, ec_no, ec_so, ei_val, ei_val1, ei_rg, ei_rg1, ei_rg2, ei_rg3, ei_rg4, ei_enm, ei_enm1, ei_zip, ei_zip1, ei_zip2, ei_zip3, ei_rev, ei_rev1, c_nil, x_asg, x_asg1, x_asg2, x_asg3, x_par, x_par1, x_par3, x_par31, x_sub, x_sub1, x_sub2, x_sub3, x_sub4, x_sub5, x_aug, x_aug0, x_aug1, x_aug2, x_augS, x_augS1, x_augS2, x_augS3, x_augS4, x_augS5, x_ret, x_ret1, x_ret2, x_retN, x_ex, x_ex1, x_ex2, x_pass, x_brk, x_cnt, x_if, x_if1, x_if2, x_whl, x_fr, x_fr1, x_rs, x_tr, x_tr1, x_tr2, x_tr3, x_h, x_noX1, x_noX2, x_noX3, xs_nx, xs_rt, xs_bk, xs_ct, xs_ex, f_nil, t_nx, t_rt, t_exc, own_tl, own_int, own_bl, own_non, own_str, own_tup, own_ref, own_fl, xs_nil, xs_cons, start, bindT, bindTs, R.of_some, R.of_none, List.length_cons, List.length_nil, List.map_cons, List.map_nil, List.getElem?_cons_zero, List.getElem?_cons_succ, List.set_cons_zero, List.set_cons_succ, Nat.reduceAdd, Nat.reduceSub, List.cons_append, List.nil_append, List.append_nil, List.replicate, Nat.zero_add, reduceIte, Option.map_some, Option.map_none, fin_same, Bool.not_true, Bool.not_false, Bool.false_eq_true, tyD, primD, binD, sz0, sz1, sz2, sz3, sz4, sz5, sz6, sz7, sz8, nc0, nc1, nc2, nc3, nc4, nc5, nc6, nc7, nc8, Nat.reduceEqDiff, Option.bind_some, Int.reduceLE, Int.reduceLT, Int.reduceEq, Int.reduceToNat, Int.reduceAdd, Int.reduceSub, Int.reduceMul, Int.reduceNeg, Nat.reduceMul, ne_eq, not_false_eq_true, not_true_eq_false, decide_true, decide_false, Bool.and_true, Bool.true_and, Bool.or_false, Bool.false_or, Bool.or_true, Bool.true_or, Bool.and_false, Bool.false_and, beq_self_eq_true, F91, idx_tup, at0, at1, at2, cmpD, eqD_str, seqAny, watchOf, c, seqOf, intsOf_map, sizes_sum, Int.natCast_add]
/-! ## is it a pipe -/
structure HPip (Γ : Nat → Option Fd) : Prop extends HSh0 Γ where
  h60 : Γ 60 = some F60
  h69 : Γ 69 = some F69
  h79 : Γ 79 = some F79
  h80 : Γ 80 = some F80
  h81 : Γ 81 = some F81
  h82 : Γ 82 = some F82
  h100 : Γ 100 = some F100
theorem own_sh {q : Rat} : own (sh q) η = .ok (sh q) η := rfl
theorem wide_ok {k : Nat} (g : HPip Γ) {q : Rat} (hq : wok q) : callN Γ (k + 3) 79 [sh q] η = .ok (.bl true) η := by
  rw [call_eq g.h79 rfl]
  simp -implicitDefEqProofs only [e_lit, e_var, e_glb, e_bin, e_bin1, e_bin2, e_neg, e_neg1, e_cmp, e_cmp1, e_cmp2, e_chn, e_chn1, e_chn2, e_chn3, e_chn4, e_isn, e_isn1, e_isn2, e_and, e_and1, e_and2, e_or, e_or1, e_or2, e_not, e_not1, e_ite, e_ite1, e_ite2, e_tup, e_tup1, e_lst, e_lst1, e_idx, e_idx1, e_idx2, e_slc, e_slc1, e_slc2, e_slc3, e_call, e_call1, e_prim, e_prim1, e_isi, e_isi1, e_isi2, e_meth, e_meth1, e_meth2, e_comp, e_comp1, e_tl, es_nil, es_cons, es_cons1, es_cons2, es_cons3, ep_nil, ep_cons, ep_cons1, eo_no, eo_so, eo_so1, ec_no, ec_so, ei_val, ei_val1, ei_rg, ei_rg1, ei_rg2, ei_rg3, ei_rg4, ei_enm, ei_enm1, ei_zip, ei_zip1, ei_zip2, ei_zip3, ei_rev, ei_rev1, c_nil, x_asg, x_asg1, x_asg2, x_asg3, x_par, x_par1, x_par3, x_par31, x_sub, x_sub1, x_sub2, x_sub3, x_sub4, x_sub5, x_aug, x_aug0, x_aug1, x_aug2, x_augS, x_augS1, x_augS2, x_augS3, x_augS4, x_augS5, x_ret, x_ret1, x_ret2, x_retN, x_ex, x_ex1, x_ex2, x_pass, x_brk, x_cnt, x_if, x_if1, x_if2, x_whl, x_fr, x_fr1, x_rs, x_tr, x_tr1, x_tr2, x_tr3, x_h, x_noX1, x_noX2, x_noX3, xs_nx, xs_rt, xs_bk, xs_ct, xs_ex, f_nil, t_nx, t_rt, t_exc, own_tl, own_int, own_bl, own_non, own_str, own_tup, own_ref, own_fl, xs_nil, xs_cons, start, bindT, bindTs, R.of_some, R.of_none, List.length_cons, List.length_nil, List.map_cons, List.map_nil, List.getElem?_cons_zero, List.getElem?_cons_succ, List.set_cons_zero, List.set_cons_succ, Nat.reduceAdd, Nat.reduceSub, List.cons_append, List.nil_append, List.append_nil, List.replicate, Nat.zero_add, reduceIte, Option.map_some, Option.map_none, fin_same, Bool.not_true, Bool.not_false, Bool.false_eq_true, tyD, primD, binD, sz0, sz1, sz2, sz3, sz4, sz5, sz6, sz7, sz8, nc0, nc1, nc2, nc3, nc4, nc5, nc6, nc7, nc8, Nat.reduceEqDiff, Option.bind_some, Int.reduceLE, Int.reduceLT, Int.reduceEq, Int.reduceToNat, Int.reduceAdd, Int.reduceSub, Int.reduceMul, Int.reduceNeg, Nat.reduceMul, ne_eq, not_false_eq_true, not_true_eq_false, decide_true, decide_false, Bool.and_true, Bool.true_and, Bool.or_false, Bool.false_or, Bool.or_true, Bool.true_or, Bool.and_false, Bool.false_and, beq_self_eq_true, F79, own_sh, is_share_ok (k := k) g.toHSh0 g.h60, sh0, less_ok (k := k + 1) g.h69 B0 hq.2 (by decide), decide_eq_true hq.1]
theorem eqs_len {a b : List D} (h : a.length ≠ b.length) : D.eqs a b = false := by
  induction a generalizing b with
  | nil => cases b with
    | nil => exact absurd rfl h
    | cons _ _ => rfl
  | cons x xs ih => cases b with
    | nil => rfl
    | cons y ys => simp only [D.eqs, ih (b := ys) (by simpa using h), Bool.and_false]
mutual
theorem enc_plain : ∀ p : Pp, (enc p).plain = true
  | .shut _ _ => by simp [enc, D.plain, D.plains, sh]
  | .opn _ _ => by simp [enc, D.plain, D.plains, sh]
  | .drain _ _ _ => by simp [enc, D.plain, D.plains, sh]
  | .fork _ _ ks => by simp [enc, D.plain, D.plains, sh, encs_plain ks]
theorem encs_plain : ∀ ks : List Pp, D.plains (encs ks) = true
  | [] => by simp [encs, D.plains]
  | p :: ps => by simp [encs, D.plains, enc_plain p, encs_plain ps]
end
def dEnds : D := .tup [.tup [.str "shut"], .tup [.str "open"]]
theorem in_ends {xs : List D} (h : D.plains xs = true) : inD (.tup xs) (.tup [.tup [.str "shut"], .tup [.str "open"]]) η = some (D.eqs [.str "shut"] xs || D.eqs [.str "open"] xs) := by
  have hp : D.plains [.tup [.str "shut"], .tup [.str "open"]] = true := rfl
  have hx : (D.tup xs).plain = true := h
  have hd : min (D.deps [.tup [.str "shut"], .tup [.str "open"]]) (D.tup xs).dep ≤ 64 := by
    have : D.deps [.tup [.str "shut"], .tup [.str "open"]] = 1 := rfl
    omega
  simp only [inD, seqAny, hp, hx, decide_eq_true hd, Bool.and_self, if_true, List.any_cons, List.any_nil, D.eq, Bool.or_false]
theorem in_shut : inD (.tup [.str "shut"]) (.tup [.tup [.str "shut"], .tup [.str "open"]]) η = some true := by rw [in_ends rfl]; rfl
theorem in_open : inD (.tup [.str "open"]) (.tup [.tup [.str "shut"], .tup [.str "open"]]) η = some true := by rw [in_ends rfl]; rfl
theorem in_two {x y : D} (h : D.plains [x, y] = true) : inD (.tup [x, y]) (.tup [.tup [.str "shut"], .tup [.str "open"]]) η = some false := by
  rw [in_ends h, eqs_len (by simp), eqs_len (by simp)]; rfl
theorem fits_loop {K : Nat} {v x5 x6 : Option D} {room depth : Int} : ∀ (ks : List Pp) (c : Int) (x3 x7 : Option D), (∀ q ∈ ks, ∀ r : Int, (size q : Int) ≤ r → callN Γ K 81 [enc q, .int r, .int (depth - 1)] η = .ok (.int (size q)) η) → c + sizes ks ≤ room →
    ∃ x3' x7', fE (callN Γ K) (.cons (.asg (.nm 7) (.call 81 (.cons (.var 3) (.cons (.bin .sub (.var 1) (.var 4)) (.cons (.bin .sub (.var 2) (.lit (.int 1))) .nil))))) (.cons (.ifs (.isn false (.var 7)) (.cons (.ret (.lit .non)) .nil) .nil) (.cons (.aug 4 .add (.var 7)) .nil))) (.nm 3) [] (encs ks)
      [v, some (.int room), some (.int depth), x3, some (.int c), x5, x6, x7] η = .nx [v, some (.int room), some (.int depth), x3', some (.int (c + sizes ks)), x5, x6, x7'] η
  | [], c, x3, x7, _, _ => ⟨x3, x7, by simp [encs, sizes]; rfl⟩
  | q :: qs, c, x3, x7, h, hc => by
    simp only [sizes] at hc
    have hq := h q List.mem_cons_self (room - c) (by omega)
    obtain ⟨x3', x7', e⟩ := fits_loop (room := room) (depth := depth) (v := v) (x5 := x5) (x6 := x6) qs (c + size q) (some (enc q)) (some (.int (size q))) (fun q' hq' => h q' (List.mem_cons_of_mem _ hq')) (by omega)
    refine ⟨x3', x7', ?_⟩
    have nn : decide (D.int (size q : Int) = D.non) = false := decide_eq_false (by simp)
    rw [encs, f_nx (ρ1 := [v, some (.int room), some (.int depth), some (enc q), some (.int c), x5, x6, x7]) (ρ2 := [v, some (.int room), some (.int depth), some (enc q), some (.int (c + size q)), x5, x6, some (.int (size q))]) (η1 := η) rfl (by simp -implicitDefEqProofs only [e_lit, e_var, e_glb, e_bin, e_bin1, e_bin2, e_neg, e_neg1, e_cmp, e_cmp1, e_cmp2, e_chn, e_chn1, e_chn2, e_chn3, e_chn4, e_isn, e_isn1, e_isn2, e_and, e_and1, e_and2, e_or, e_or1, e_or2, e_not, e_not1, e_ite, e_ite1, e_ite2, e_tup, e_tup1, e_lst, e_lst1, e_idx, e_idx1, e_idx2, e_slc, e_slc1, e_slc2, e_slc3, e_call, e_call1, e_prim, e_prim1, e_isi, e_isi1, e_isi2, e_meth, e_meth1, e_meth2, e_comp, e_comp1, e_tl, es_nil, es_cons, es_cons1, es_cons2, es_cons3, ep_nil, ep_cons, ep_cons1, eo_no, eo_so, eo_so1, ec_no, ec_so, ei_val, ei_val1, ei_rg, ei_rg1, ei_rg2, ei_rg3, ei_rg4, ei_enm, ei_enm1, ei_zip, ei_zip1, ei_zip2, ei_zip3, ei_rev, ei_rev1, c_nil, x_asg, x_asg1, x_asg2, x_asg3, x_par, x_par1, x_par3, x_par31, x_sub, x_sub1, x_sub2, x_sub3, x_sub4, x_sub5, x_aug, x_aug0, x_aug1, x_aug2, x_augS, x_augS1, x_augS2, x_augS3, x_augS4, x_augS5, x_ret, x_ret1, x_ret2, x_retN, x_ex, x_ex1, x_ex2, x_pass, x_brk, x_cnt, x_if, x_if1, x_if2, x_whl, x_fr, x_fr1, x_rs, x_tr, x_tr1, x_tr2, x_tr3, x_h, x_noX1, x_noX2, x_noX3, xs_nx, xs_rt, xs_bk, xs_ct, xs_ex, f_nil, t_nx, t_rt, t_exc, own_tl, own_int, own_bl, own_non, own_str, own_tup, own_ref, own_fl, xs_nil, xs_cons, start, bindT, bindTs, R.of_some, R.of_none, List.length_cons, List.length_nil, List.map_cons, List.map_nil, List.getElem?_cons_zero, List.getElem?_cons_succ, List.set_cons_zero, List.set_cons_succ, Nat.reduceAdd, Nat.reduceSub, List.cons_append, List.nil_append, List.append_nil, List.replicate, Nat.zero_add, reduceIte, Option.map_some, Option.map_none, fin_same, Bool.not_true, Bool.not_false, Bool.false_eq_true, tyD, primD, binD, sz0, sz1, sz2, sz3, sz4, sz5, sz6, sz7, sz8, nc0, nc1, nc2, nc3, nc4, nc5, nc6, nc7, nc8, Nat.reduceEqDiff, Option.bind_some, Int.reduceLE, Int.reduceLT, Int.reduceEq, Int.reduceToNat, Int.reduceAdd, Int.reduceSub, Int.reduceMul, Int.reduceNeg, Nat.reduceMul, ne_eq, not_false_eq_true, not_true_eq_false, decide_true, decide_false, Bool.and_true, Bool.true_and, Bool.or_false, Bool.false_or, Bool.or_true, Bool.true_or, Bool.and_false, Bool.false_and, beq_self_eq_true, own_enc, hq, nn]) rfl, e]
    simp only [sizes, Int.natCast_add, Int.add_assoc]
theorem fits_ok (g : HPip Γ) : ∀ (η : Hep) (K : Nat) (p : Pp) (room depth : Int), dep p ≤ K → good p → (size p : Int) ≤ room → (dep p : Int) ≤ depth → callN Γ (K + 4) 81 [enc p, .int room, .int depth] η = .ok (.int (size p)) η
  | η, 0, p, _, _, hk, _, _, _ => by have := dep_pos p; omega
  | η, K + 1, p, room, depth, hk, gp, hs, hd => by
    have d0 : ¬ depth = 0 := by have := dep_pos p; omega
    rw [call_eq g.h81 rfl]
    cases p with
    | shut l w =>
      simp only [good] at gp
      simp only [enc, size] at hs ⊢
      have l1 : ¬ (l : Int) < 1 := by omega
      have l2 : ¬ room < (l : Int) := by omega
      simp -implicitDefEqProofs only [e_lit, e_var, e_glb, e_bin, e_bin1, e_bin2, e_neg, e_neg1, e_cmp, e_cmp1, e_cmp2, e_chn, e_chn1, e_chn2, e_chn3, e_chn4, e_isn, e_isn1, e_isn2, e_and, e_and1, e_and2, e_or, e_or1, e_or2, e_not, e_not1, e_ite, e_ite1, e_ite2, e_tup, e_tup1, e_lst, e_lst1, e_idx, e_idx1, e_idx2, e_slc, e_slc1, e_slc2, e_slc3, e_call, e_call1, e_prim, e_prim1, e_isi, e_isi1, e_isi2, e_meth, e_meth1, e_meth2, e_comp, e_comp1, e_tl, es_nil, es_cons, es_cons1, es_cons2, es_cons3, ep_nil, ep_cons, ep_cons1, eo_no, eo_so, eo_so1, ec_no, ec_so, ei_val, ei_val1, ei_rg, ei_rg1, ei_rg2, ei_rg3, ei_rg4, ei_enm, ei_enm1, ei_zip, ei_zip1, ei_zip2, ei_zip3, ei_rev, ei_rev1, c_nil, x_asg, x_asg1, x_asg2, x_asg3, x_par, x_par1, x_par3, x_par31, x_sub, x_sub1, x_sub2, x_sub3, x_sub4, x_sub5, x_aug, x_aug0, x_aug1, x_aug2, x_augS, x_augS1, x_augS2, x_augS3, x_augS4, x_augS5, x_ret, x_ret1, x_ret2, x_retN, x_ex, x_ex1, x_ex2, x_pass, x_brk, x_cnt, x_if, x_if1, x_if2, x_whl, x_fr, x_fr1, x_rs, x_tr, x_tr1, x_tr2, x_tr3, x_h, x_noX1, x_noX2, x_noX3, xs_nx, xs_rt, xs_bk, xs_ct, xs_ex, f_nil, t_nx, t_rt, t_exc, own_tl, own_int, own_bl, own_non, own_str, own_tup, own_ref, own_fl, xs_nil, xs_cons, start, bindT, bindTs, R.of_some, R.of_none, List.length_cons, List.length_nil, List.map_cons, List.map_nil, List.getElem?_cons_zero, List.getElem?_cons_succ, List.set_cons_zero, List.set_cons_succ, Nat.reduceAdd, Nat.reduceSub, List.cons_append, List.nil_append, List.append_nil, List.replicate, Nat.zero_add, reduceIte, Option.map_some, Option.map_none, fin_same, Bool.not_true, Bool.not_false, Bool.false_eq_true, tyD, primD, binD, sz0, sz1, sz2, sz3, sz4, sz5, sz6, sz7, sz8, nc0, nc1, nc2, nc3, nc4, nc5, nc6, nc7, nc8, Nat.reduceEqDiff, Option.bind_some, Int.reduceLE, Int.reduceLT, Int.reduceEq, Int.reduceToNat, Int.reduceAdd, Int.reduceSub, Int.reduceMul, Int.reduceNeg, Nat.reduceMul, ne_eq, not_false_eq_true, not_true_eq_false, decide_true, decide_false, Bool.and_true, Bool.true_and, Bool.or_false, Bool.false_or, Bool.or_true, Bool.true_or, Bool.and_false, Bool.false_and, beq_self_eq_true, F81, cmpD, eqD_int, decide_eq_false d0, seqAny, idx_tup, at0, at1, at2, is_count_int (k := K + 3) g.h0, own_sh, wide_ok (k := K + 1) g gp.2, decide_eq_false l1, decide_eq_false l2, in_shut]
    | opn l w =>
      simp only [good] at gp
      simp only [enc, size] at hs ⊢
      have l1 : ¬ (l : Int) < 1 := by omega
      have l2 : ¬ room < (l : Int) := by omega
      simp -implicitDefEqProofs only [e_lit, e_var, e_glb, e_bin, e_bin1, e_bin2, e_neg, e_neg1, e_cmp, e_cmp1, e_cmp2, e_chn, e_chn1, e_chn2, e_chn3, e_chn4, e_isn, e_isn1, e_isn2, e_and, e_and1, e_and2, e_or, e_or1, e_or2, e_not, e_not1, e_ite, e_ite1, e_ite2, e_tup, e_tup1, e_lst, e_lst1, e_idx, e_idx1, e_idx2, e_slc, e_slc1, e_slc2, e_slc3, e_call, e_call1, e_prim, e_prim1, e_isi, e_isi1, e_isi2, e_meth, e_meth1, e_meth2, e_comp, e_comp1, e_tl, es_nil, es_cons, es_cons1, es_cons2, es_cons3, ep_nil, ep_cons, ep_cons1, eo_no, eo_so, eo_so1, ec_no, ec_so, ei_val, ei_val1, ei_rg, ei_rg1, ei_rg2, ei_rg3, ei_rg4, ei_enm, ei_enm1, ei_zip, ei_zip1, ei_zip2, ei_zip3, ei_rev, ei_rev1, c_nil, x_asg, x_asg1, x_asg2, x_asg3, x_par, x_par1, x_par3, x_par31, x_sub, x_sub1, x_sub2, x_sub3, x_sub4, x_sub5, x_aug, x_aug0, x_aug1, x_aug2, x_augS, x_augS1, x_augS2, x_augS3, x_augS4, x_augS5, x_ret, x_ret1, x_ret2, x_retN, x_ex, x_ex1, x_ex2, x_pass, x_brk, x_cnt, x_if, x_if1, x_if2, x_whl, x_fr, x_fr1, x_rs, x_tr, x_tr1, x_tr2, x_tr3, x_h, x_noX1, x_noX2, x_noX3, xs_nx, xs_rt, xs_bk, xs_ct, xs_ex, f_nil, t_nx, t_rt, t_exc, own_tl, own_int, own_bl, own_non, own_str, own_tup, own_ref, own_fl, xs_nil, xs_cons, start, bindT, bindTs, R.of_some, R.of_none, List.length_cons, List.length_nil, List.map_cons, List.map_nil, List.getElem?_cons_zero, List.getElem?_cons_succ, List.set_cons_zero, List.set_cons_succ, Nat.reduceAdd, Nat.reduceSub, List.cons_append, List.nil_append, List.append_nil, List.replicate, Nat.zero_add, reduceIte, Option.map_some, Option.map_none, fin_same, Bool.not_true, Bool.not_false, Bool.false_eq_true, tyD, primD, binD, sz0, sz1, sz2, sz3, sz4, sz5, sz6, sz7, sz8, nc0, nc1, nc2, nc3, nc4, nc5, nc6, nc7, nc8, Nat.reduceEqDiff, Option.bind_some, Int.reduceLE, Int.reduceLT, Int.reduceEq, Int.reduceToNat, Int.reduceAdd, Int.reduceSub, Int.reduceMul, Int.reduceNeg, Nat.reduceMul, ne_eq, not_false_eq_true, not_true_eq_false, decide_true, decide_false, Bool.and_true, Bool.true_and, Bool.or_false, Bool.false_or, Bool.or_true, Bool.true_or, Bool.and_false, Bool.false_and, beq_self_eq_true, F81, cmpD, eqD_int, decide_eq_false d0, seqAny, idx_tup, at0, at1, at2, is_count_int (k := K + 3) g.h0, own_sh, wide_ok (k := K + 1) g gp.2, decide_eq_false l1, decide_eq_false l2, in_open]
    | drain l w d =>
      simp only [good] at gp
      simp only [enc, size] at hs ⊢
      have l1 : ¬ (l : Int) < 1 := by omega
      have l2 : ¬ room < (l : Int) := by omega
      have dd : decide (("drain" : PySem.Str) = "drain") = true := by decide
      simp -implicitDefEqProofs only [e_lit, e_var, e_glb, e_bin, e_bin1, e_bin2, e_neg, e_neg1, e_cmp, e_cmp1, e_cmp2, e_chn, e_chn1, e_chn2, e_chn3, e_chn4, e_isn, e_isn1, e_isn2, e_and, e_and1, e_and2, e_or, e_or1, e_or2, e_not, e_not1, e_ite, e_ite1, e_ite2, e_tup, e_tup1, e_lst, e_lst1, e_idx, e_idx1, e_idx2, e_slc, e_slc1, e_slc2, e_slc3, e_call, e_call1, e_prim, e_prim1, e_isi, e_isi1, e_isi2, e_meth, e_meth1, e_meth2, e_comp, e_comp1, e_tl, es_nil, es_cons, es_cons1, es_cons2, es_cons3, ep_nil, ep_cons, ep_cons1, eo_no, eo_so, eo_so1, ec_no, ec_so, ei_val, ei_val1, ei_rg, ei_rg1, ei_rg2, ei_rg3, ei_rg4, ei_enm, ei_enm1, ei_zip, ei_zip1, ei_zip2, ei_zip3, ei_rev, ei_rev1, c_nil, x_asg, x_asg1, x_asg2, x_asg3, x_par, x_par1, x_par3, x_par31, x_sub, x_sub1, x_sub2, x_sub3, x_sub4, x_sub5, x_aug, x_aug0, x_aug1, x_aug2, x_augS, x_augS1, x_augS2, x_augS3, x_augS4, x_augS5, x_ret, x_ret1, x_ret2, x_retN, x_ex, x_ex1, x_ex2, x_pass, x_brk, x_cnt, x_if, x_if1, x_if2, x_whl, x_fr, x_fr1, x_rs, x_tr, x_tr1, x_tr2, x_tr3, x_h, x_noX1, x_noX2, x_noX3, xs_nx, xs_rt, xs_bk, xs_ct, xs_ex, f_nil, t_nx, t_rt, t_exc, own_tl, own_int, own_bl, own_non, own_str, own_tup, own_ref, own_fl, xs_nil, xs_cons, start, bindT, bindTs, R.of_some, R.of_none, List.length_cons, List.length_nil, List.map_cons, List.map_nil, List.getElem?_cons_zero, List.getElem?_cons_succ, List.set_cons_zero, List.set_cons_succ, Nat.reduceAdd, Nat.reduceSub, List.cons_append, List.nil_append, List.append_nil, List.replicate, Nat.zero_add, reduceIte, Option.map_some, Option.map_none, fin_same, Bool.not_true, Bool.not_false, Bool.false_eq_true, tyD, primD, binD, sz0, sz1, sz2, sz3, sz4, sz5, sz6, sz7, sz8, nc0, nc1, nc2, nc3, nc4, nc5, nc6, nc7, nc8, Nat.reduceEqDiff, Option.bind_some, Int.reduceLE, Int.reduceLT, Int.reduceEq, Int.reduceToNat, Int.reduceAdd, Int.reduceSub, Int.reduceMul, Int.reduceNeg, Nat.reduceMul, ne_eq, not_false_eq_true, not_true_eq_false, decide_true, decide_false, Bool.and_true, Bool.true_and, Bool.or_false, Bool.false_or, Bool.or_true, Bool.true_or, Bool.and_false, Bool.false_and, beq_self_eq_true, F81, cmpD, eqD_int, decide_eq_false d0, seqAny, idx_tup, at0, at1, at2, is_count_int (k := K + 3) g.h0, own_sh, wide_ok (k := K + 1) g gp.2.1, wide_ok (k := K + 1) g gp.2.2, decide_eq_false l1, decide_eq_false l2, in_two (x := .str "drain") (y := sh d) rfl, eqD_str, dd]
    | fork l w ks =>
      simp only [good] at gp
      simp only [dep] at hk hd
      simp only [enc, size] at hs ⊢
      have l1 : ¬ (l : Int) < 1 := by omega
      have l2 : ¬ room < (l : Int) := by omega
      have fd : decide (("fork" : PySem.Str) = "drain") = false := by decide
      have ff : decide (("fork" : PySem.Str) = "fork") = true := by decide
      have lk : (encs ks).length = ks.length := by rw [encs_map, List.length_map]
      have k1 : (1 : Int) ≤ (ks.length : Int) := by
        have : ks.length ≠ 0 := fun e => gp.2.2.1 (List.length_eq_zero_iff.mp e)
        omega
      have k6 : (ks.length : Int) ≤ 6 := by omega
      obtain ⟨x3, x7, e⟩ := fits_loop (Γ := Γ) (η := η) (K := K + 4) (room := room) (depth := depth) (v := some (.tup [.int l, sh w, .tup [.str "fork", .tup (encs ks)]])) (x5 := some (sh w)) (x6 := some (.tup [.str "fork", .tup (encs ks)])) ks l none none
        (fun q hq r hr => fits_ok g η K q r (depth - 1) (by have := deps_mem hq; omega) (goods_mem gp.2.2.2.2 q hq) hr (by have := deps_mem hq; omega)) (by omega)
      simp -implicitDefEqProofs only [e_lit, e_var, e_glb, e_bin, e_bin1, e_bin2, e_neg, e_neg1, e_cmp, e_cmp1, e_cmp2, e_chn, e_chn1, e_chn2, e_chn3, e_chn4, e_isn, e_isn1, e_isn2, e_and, e_and1, e_and2, e_or, e_or1, e_or2, e_not, e_not1, e_ite, e_ite1, e_ite2, e_tup, e_tup1, e_lst, e_lst1, e_idx, e_idx1, e_idx2, e_slc, e_slc1, e_slc2, e_slc3, e_call, e_call1, e_prim, e_prim1, e_isi, e_isi1, e_isi2, e_meth, e_meth1, e_meth2, e_comp, e_comp1, e_tl, es_nil, es_cons, es_cons1, es_cons2, es_cons3, ep_nil, ep_cons, ep_cons1, eo_no, eo_so, eo_so1, ec_no, ec_so, ei_val, ei_val1, ei_rg, ei_rg1, ei_rg2, ei_rg3, ei_rg4, ei_enm, ei_enm1, ei_zip, ei_zip1, ei_zip2, ei_zip3, ei_rev, ei_rev1, c_nil, x_asg, x_asg1, x_asg2, x_asg3, x_par, x_par1, x_par3, x_par31, x_sub, x_sub1, x_sub2, x_sub3, x_sub4, x_sub5, x_aug, x_aug0, x_aug1, x_aug2, x_augS, x_augS1, x_augS2, x_augS3, x_augS4, x_augS5, x_ret, x_ret1, x_ret2, x_retN, x_ex, x_ex1, x_ex2, x_pass, x_brk, x_cnt, x_if, x_if1, x_if2, x_whl, x_fr, x_fr1, x_rs, x_tr, x_tr1, x_tr2, x_tr3, x_h, x_noX1, x_noX2, x_noX3, xs_nx, xs_rt, xs_bk, xs_ct, xs_ex, f_nil, t_nx, t_rt, t_exc, own_tl, own_int, own_bl, own_non, own_str, own_tup, own_ref, own_fl, xs_nil, xs_cons, start, bindT, bindTs, R.of_some, R.of_none, List.length_cons, List.length_nil, List.map_cons, List.map_nil, List.getElem?_cons_zero, List.getElem?_cons_succ, List.set_cons_zero, List.set_cons_succ, Nat.reduceAdd, Nat.reduceSub, List.cons_append, List.nil_append, List.append_nil, List.replicate, Nat.zero_add, reduceIte, Option.map_some, Option.map_none, fin_same, Bool.not_true, Bool.not_false, Bool.false_eq_true, tyD, primD, binD, sz0, sz1, sz2, sz3, sz4, sz5, sz6, sz7, sz8, nc0, nc1, nc2, nc3, nc4, nc5, nc6, nc7, nc8, Nat.reduceEqDiff, Option.bind_some, Int.reduceLE, Int.reduceLT, Int.reduceEq, Int.reduceToNat, Int.reduceAdd, Int.reduceSub, Int.reduceMul, Int.reduceNeg, Nat.reduceMul, ne_eq, not_false_eq_true, not_true_eq_false, decide_true, decide_false, Bool.and_true, Bool.true_and, Bool.or_false, Bool.false_or, Bool.or_true, Bool.true_or, Bool.and_false, Bool.false_and, beq_self_eq_true, F81, cmpD, eqD_int, decide_eq_false d0, seqAny, idx_tup, at0, at1, at2, is_count_int (k := K + 3) g.h0, own_sh, wide_ok (k := K + 1) g gp.2.1, decide_eq_false l1, decide_eq_false l2, in_two (x := .str "fork") (y := .tup (encs ks)) (by simp [D.plains, D.plain, encs_plain]), eqD_str, fd, ff, lk, decide_eq_true k1, decide_eq_true k6, watchOf, e, Int.natCast_add]
theorem is_pipe_ok (g : HPip Γ) {K : Nat} {p : Pp} (hk : dep p ≤ K) (gp : good p) (hs : size p ≤ 60) (hd : dep p ≤ 60) : callN Γ (K + 5) 80 [enc p] η = .ok (.bl true) η := by
  have nn : decide (D.int (size p : Int) = D.non) = false := decide_eq_false (by simp)
  rw [call_eq g.h80 rfl]
  simp -implicitDefEqProofs only [e_lit, e_var, e_glb, e_bin, e_bin1, e_bin2, e_neg, e_neg1, e_cmp, e_cmp1, e_cmp2, e_chn, e_chn1, e_chn2, e_chn3, e_chn4, e_isn, e_isn1, e_isn2, e_and, e_and1, e_and2, e_or, e_or1, e_or2, e_not, e_not1, e_ite, e_ite1, e_ite2, e_tup, e_tup1, e_lst, e_lst1, e_idx, e_idx1, e_idx2, e_slc, e_slc1, e_slc2, e_slc3, e_call, e_call1, e_prim, e_prim1, e_isi, e_isi1, e_isi2, e_meth, e_meth1, e_meth2, e_comp, e_comp1, e_tl, es_nil, es_cons, es_cons1, es_cons2, es_cons3, ep_nil, ep_cons, ep_cons1, eo_no, eo_so, eo_so1, ec_no, ec_so, ei_val, ei_val1, ei_rg, ei_rg1, ei_rg2, ei_rg3, ei_rg4, ei_enm, ei_enm1, ei_zip, ei_zip1, ei_zip2, ei_zip3, ei_rev, ei_rev1, c_nil, x_asg, x_asg1, x_asg2, x_asg3, x_par, x_par1, x_par3, x_par31, x_sub, x_sub1, x_sub2, x_sub3, x_sub4, x_sub5, x_aug, x_aug0, x_aug1, x_aug2, x_augS, x_augS1, x_augS2, x_augS3, x_augS4, x_augS5, x_ret, x_ret1, x_ret2, x_retN, x_ex, x_ex1, x_ex2, x_pass, x_brk, x_cnt, x_if, x_if1, x_if2, x_whl, x_fr, x_fr1, x_rs, x_tr, x_tr1, x_tr2, x_tr3, x_h, x_noX1, x_noX2, x_noX3, xs_nx, xs_rt, xs_bk, xs_ct, xs_ex, f_nil, t_nx, t_rt, t_exc, own_tl, own_int, own_bl, own_non, own_str, own_tup, own_ref, own_fl, xs_nil, xs_cons, start, bindT, bindTs, R.of_some, R.of_none, List.length_cons, List.length_nil, List.map_cons, List.map_nil, List.getElem?_cons_zero, List.getElem?_cons_succ, List.set_cons_zero, List.set_cons_succ, Nat.reduceAdd, Nat.reduceSub, List.cons_append, List.nil_append, List.append_nil, List.replicate, Nat.zero_add, reduceIte, Option.map_some, Option.map_none, fin_same, Bool.not_true, Bool.not_false, Bool.false_eq_true, tyD, primD, binD, sz0, sz1, sz2, sz3, sz4, sz5, sz6, sz7, sz8, nc0, nc1, nc2, nc3, nc4, nc5, nc6, nc7, nc8, Nat.reduceEqDiff, Option.bind_some, Int.reduceLE, Int.reduceLT, Int.reduceEq, Int.reduceToNat, Int.reduceAdd, Int.reduceSub, Int.reduceMul, Int.reduceNeg, Nat.reduceMul, ne_eq, not_false_eq_true, not_true_eq_false, decide_true, decide_false, Bool.and_true, Bool.true_and, Bool.or_false, Bool.false_or, Bool.or_true, Bool.true_or, Bool.and_false, Bool.false_and, beq_self_eq_true, F80, own_enc, fits_ok g η K p 60 60 hk gp (by omega) (by omega), nn]
theorem check_pipe_ok (g : HPip Γ) {K : Nat} {p : Pp} (hk : dep p ≤ K) (gp : good p) (hs : size p ≤ 60) (hd : dep p ≤ 60) : callN Γ (K + 6) 100 [enc p] η = .ok .non η := by
  rw [call_eq g.h100 rfl]
  simp -implicitDefEqProofs only [e_lit, e_var, e_glb, e_bin, e_bin1, e_bin2, e_neg, e_neg1, e_cmp, e_cmp1, e_cmp2, e_chn, e_chn1, e_chn2, e_chn3, e_chn4, e_isn, e_isn1, e_isn2, e_and, e_and1, e_and2, e_or, e_or1, e_or2, e_not, e_not1, e_ite, e_ite1, e_ite2, e_tup, e_tup1, e_lst, e_lst1, e_idx, e_idx1, e_idx2, e_slc, e_slc1, e_slc2, e_slc3, e_call, e_call1, e_prim, e_prim1, e_isi, e_isi1, e_isi2, e_meth, e_meth1, e_meth2, e_comp, e_comp1, e_tl, es_nil, es_cons, es_cons1, es_cons2, es_cons3, ep_nil, ep_cons, ep_cons1, eo_no, eo_so, eo_so1, ec_no, ec_so, ei_val, ei_val1, ei_rg, ei_rg1, ei_rg2, ei_rg3, ei_rg4, ei_enm, ei_enm1, ei_zip, ei_zip1, ei_zip2, ei_zip3, ei_rev, ei_rev1, c_nil, x_asg, x_asg1, x_asg2, x_asg3, x_par, x_par1, x_par3, x_par31, x_sub, x_sub1, x_sub2, x_sub3, x_sub4, x_sub5, x_aug, x_aug0, x_aug1, x_aug2, x_augS, x_augS1, x_augS2, x_augS3, x_augS4, x_augS5, x_ret, x_ret1, x_ret2, x_retN, x_ex, x_ex1, x_ex2, x_pass, x_brk, x_cnt, x_if, x_if1, x_if2, x_whl, x_fr, x_fr1, x_rs, x_tr, x_tr1, x_tr2, x_tr3, x_h, x_noX1, x_noX2, x_noX3, xs_nx, xs_rt, xs_bk, xs_ct, xs_ex, f_nil, t_nx, t_rt, t_exc, own_tl, own_int, own_bl, own_non, own_str, own_tup, own_ref, own_fl, xs_nil, xs_cons, start, bindT, bindTs, R.of_some, R.of_none, List.length_cons, List.length_nil, List.map_cons, List.map_nil, List.getElem?_cons_zero, List.getElem?_cons_succ, List.set_cons_zero, List.set_cons_succ, Nat.reduceAdd, Nat.reduceSub, List.cons_append, List.nil_append, List.append_nil, List.replicate, Nat.zero_add, reduceIte, Option.map_some, Option.map_none, fin_same, Bool.not_true, Bool.not_false, Bool.false_eq_true, tyD, primD, binD, sz0, sz1, sz2, sz3, sz4, sz5, sz6, sz7, sz8, nc0, nc1, nc2, nc3, nc4, nc5, nc6, nc7, nc8, Nat.reduceEqDiff, Option.bind_some, Int.reduceLE, Int.reduceLT, Int.reduceEq, Int.reduceToNat, Int.reduceAdd, Int.reduceSub, Int.reduceMul, Int.reduceNeg, Nat.reduceMul, ne_eq, not_false_eq_true, not_true_eq_false, decide_true, decide_false, Bool.and_true, Bool.true_and, Bool.or_false, Bool.false_or, Bool.or_true, Bool.true_or, Bool.and_false, Bool.false_and, beq_self_eq_true, F100, own_enc, is_pipe_ok (η := η) g hk gp hs hd]
end
end Ev

set_option Elab.async false
set_option linter.all false
set_option maxRecDepth 100000
/-! # Part D: drawn pipes -/
namespace Ev
open Law
open Pp
section
variable {Γ : Nat → Option Fd} {k : Nat} {r : Hep}
structure HDrw (Γ : Nat → Option Fd) : Prop where
  h22 : Γ 22 = some F22
  h25 : Γ 25 = some F25
  h90 : Γ 90 = some F90
  h91 : Γ 91 = some F91
  h92 : Γ 92 = some F92
theorem ints_bl (n : Nat) : ∀ cs : List Int, D.blws n (cs.map .int) = true
  | [] => rfl
  | c :: cs => by simp [D.blws, D.blw, ints_bl n cs]
theorem fin_tpe {v : D} {cs cs' : List Int} {s s' : Int} {e : Hep} (hv : v.blw (r.length + 2) = true) : fin (tp cs s r) (.ok v (tp cs' s' (r ++ e))) = .ok v (tp cs' s' r) := by
  have hv' : v.blw (r.length + 1 + 1) = true := hv
  unfold fin tp
  simp [okCells, Ob.blw, ints_bl, okCells_pre, D.blws, D.blw, hv']
theorem fin_tp0 {v : D} {cs cs' : List Int} {s s' : Int} (hv : v.blw (r.length + 2) = true) : fin (tp cs s r) (.ok v (tp cs' s' r)) = .ok v (tp cs' s' r) := by
  have := fin_tpe (r := r) (cs := cs) (s := s) (cs' := cs') (s' := s') (e := []) hv
  rwa [List.append_nil] at this
theorem tpl {cs : List Int} {s : Int} : (tp cs s r).length = r.length + 2 := rfl
theorem tpa {cs : List Int} {s : Int} {t : Hep} : tp cs s r ++ t = tp cs s (r ++ t) := rfl
theorem tp_last {cs : List Int} {s : Int} {y : Ob} : (tp cs s (r ++ [y]))[r.length + 2]? = some y := by
  show (r ++ [y])[r.length]? = some y
  simp
theorem tp_set {cs : List Int} {s : Int} {y z : Ob} : (tp cs s (r ++ [y])).set (r.length + 2) z = tp cs s (r ++ [z]) := by
  show _ :: _ :: (r ++ [y]).set r.length z = _
  rw [List.set_append_right _ _ (Nat.le_refl _)]
  simp [tp]
theorem num_pos' {q : Rat} (h : 0 < q.num) : 0 < q := by
  rw [Rat.lt_iff]
  simpa using h
theorem wdraw_ok (g : HDrw Γ) {cs : List Int} {s : Int} (hs : 0 ≤ s ∧ s < 2147483647) :
    ∃ q cs' s', wok q ∧ (0 ≤ s' ∧ s' < 2147483647) ∧ callN Γ (k + 2) 90 [.ref 1] (tp cs s r) = .ok (sh q) (tp cs' s' r) := by
  have iv : ∀ (n : Nat) (i : Int), (D.int i).blw n = true := fun _ _ => rfl
  obtain ⟨v, c1, s1, v0, v4, hs1, e1⟩ := draw_ok (k := k) (r := r) g.h22 (m := 4) (by decide) (by decide) (cs := cs) hs
  rw [call_eq g.h90 rfl]
  by_cases hv : v = 0
  · subst hv
    obtain ⟨a, c2, s2, a0, a7, hs2, e2⟩ := draw_ok (k := k) (r := r) g.h22 (m := 7) (by decide) (by decide) (cs := c1) hs1
    obtain ⟨b, c3, s3, b0, b5, hs3, e3⟩ := draw_ok (k := k) (r := r) g.h22 (m := 5) (by decide) (by decide) (cs := c2) hs2
    have hb : (1 + b) ≠ 0 := by omega
    have mk := lmake_ok (k := k) (η := tp c3 s3 r) g.h25 (a := 1 + a) hb (n := 3) (by omega) (by decide)
    refine ⟨Rat.divInt (1 + a) (1 + b), c3, s3, ⟨?_, B_divInt (by omega) (by omega) hb⟩, hs3, ?_⟩
    · have p := low (1 + a) (d := (1 + b).toNat) (by omega)
      rw [show (((1 + b).toNat : Nat) : Int) = 1 + b by omega] at p
      refine num_pos' ?_
      rw [p.1, Int.fdiv_eq_ediv_of_nonneg _ (by omega)]
      have g1 : Int.gcd (1 + a) (1 + b) ≠ 0 := fun e => hb (Int.gcd_eq_zero_iff.mp e).2
      exact Int.ediv_pos_of_pos_of_dvd (a := 1 + a) (b := (Int.gcd (1 + a) (1 + b) : Int)) (by omega) (by omega) (Int.gcd_dvd_left ..)
    · simp -implicitDefEqProofs only [e_lit, e_var, e_glb, e_bin, e_bin1, e_bin2, e_neg, e_neg1, e_cmp, e_cmp1, e_cmp2, e_chn, e_chn1, e_chn2, e_chn3, e_chn4, e_isn, e_isn1, e_isn2, e_and, e_and1, e_and2, e_or, e_or1, e_or2, e_not, e_not1, e_ite, e_ite1, e_ite2, e_tup, e_tup1, e_lst, e_lst1, e_idx, e_idx1, e_idx2, e_slc, e_slc1, e_slc2, e_slc3, e_call, e_call1, e_prim, e_prim1, e_isi, e_isi1, e_isi2, e_meth, e_meth1, e_meth2, e_comp, e_comp1, e_tl, es_nil, es_cons, es_cons1, es_cons2, es_cons3, ep_nil, ep_cons, ep_cons1, eo_no, eo_so, eo_so1, ec_no, ec_so, ei_val, ei_val1, ei_rg, ei_rg1, ei_rg2, ei_rg3, ei_rg4, ei_enm, ei_enm1, ei_zip, ei_zip1, ei_zip2, ei_zip3, ei_rev, ei_rev1, c_nil, x_asg, x_asg1, x_asg2, x_asg3, x_par, x_par1, x_par3, x_par31, x_sub, x_sub1, x_sub2, x_sub3, x_sub4, x_sub5, x_aug, x_aug0, x_aug1, x_aug2, x_augS, x_augS1, x_augS2, x_augS3, x_augS4, x_augS5, x_ret, x_ret1, x_ret2, x_retN, x_ex, x_ex1, x_ex2, x_pass, x_brk, x_cnt, x_if, x_if1, x_if2, x_whl, x_fr, x_fr1, x_rs, x_tr, x_tr1, x_tr2, x_tr3, x_h, x_noX1, x_noX2, x_noX3, xs_nx, xs_rt, xs_bk, xs_ct, xs_ex, f_nil, t_nx, t_rt, t_exc, own_tl, own_int, own_bl, own_non, own_str, own_tup, own_ref, own_fl, xs_nil, xs_cons, start, bindT, bindTs, R.of_some, R.of_none, List.length_cons, List.length_nil, List.map_cons, List.map_nil, List.getElem?_cons_zero, List.getElem?_cons_succ, List.set_cons_zero, List.set_cons_succ, Nat.reduceAdd, Nat.reduceSub, List.cons_append, List.nil_append, List.append_nil, List.replicate, Nat.zero_add, reduceIte, Option.map_some, Option.map_none, fin_same, Bool.not_true, Bool.not_false, Bool.false_eq_true, tyD, primD, binD, sz0, sz1, sz2, sz3, sz4, sz5, sz6, sz7, sz8, nc0, nc1, nc2, nc3, nc4, nc5, nc6, nc7, nc8, Nat.reduceEqDiff, Option.bind_some, Int.reduceLE, Int.reduceLT, Int.reduceEq, Int.reduceToNat, Int.reduceAdd, Int.reduceSub, Int.reduceMul, Int.reduceNeg, Nat.reduceMul, ne_eq, not_false_eq_true, not_true_eq_false, decide_true, decide_false, Bool.and_true, Bool.true_and, Bool.or_false, Bool.false_or, Bool.or_true, Bool.true_or, Bool.and_false, Bool.false_and, beq_self_eq_true, F90, e1, fin_tp0, iv, cmpD, eqD_int, e2, e3, mk, sh_blw]
  · obtain ⟨a, c2, s2, a0, a4, hs2, e2⟩ := draw_ok (k := k) (r := r) g.h22 (m := 4) (by decide) (by decide) (cs := c1) hs1
    refine ⟨((1 + a : Int) : Rat), c2, s2, ⟨?_, ?_, ?_⟩, hs2, ?_⟩
    · have : (0 : Rat) < ((1 + a : Int) : Rat) := by exact_mod_cast (by omega : (0 : Int) < 1 + a)
      exact this
    · rw [Rat.num_intCast]; omega
    · rw [Rat.den_intCast]; decide
    · simp -implicitDefEqProofs only [e_lit, e_var, e_glb, e_bin, e_bin1, e_bin2, e_neg, e_neg1, e_cmp, e_cmp1, e_cmp2, e_chn, e_chn1, e_chn2, e_chn3, e_chn4, e_isn, e_isn1, e_isn2, e_and, e_and1, e_and2, e_or, e_or1, e_or2, e_not, e_not1, e_ite, e_ite1, e_ite2, e_tup, e_tup1, e_lst, e_lst1, e_idx, e_idx1, e_idx2, e_slc, e_slc1, e_slc2, e_slc3, e_call, e_call1, e_prim, e_prim1, e_isi, e_isi1, e_isi2, e_meth, e_meth1, e_meth2, e_comp, e_comp1, e_tl, es_nil, es_cons, es_cons1, es_cons2, es_cons3, ep_nil, ep_cons, ep_cons1, eo_no, eo_so, eo_so1, ec_no, ec_so, ei_val, ei_val1, ei_rg, ei_rg1, ei_rg2, ei_rg3, ei_rg4, ei_enm, ei_enm1, ei_zip, ei_zip1, ei_zip2, ei_zip3, ei_rev, ei_rev1, c_nil, x_asg, x_asg1, x_asg2, x_asg3, x_par, x_par1, x_par3, x_par31, x_sub, x_sub1, x_sub2, x_sub3, x_sub4, x_sub5, x_aug, x_aug0, x_aug1, x_aug2, x_augS, x_augS1, x_augS2, x_augS3, x_augS4, x_augS5, x_ret, x_ret1, x_ret2, x_retN, x_ex, x_ex1, x_ex2, x_pass, x_brk, x_cnt, x_if, x_if1, x_if2, x_whl, x_fr, x_fr1, x_rs, x_tr, x_tr1, x_tr2, x_tr3, x_h, x_noX1, x_noX2, x_noX3, xs_nx, xs_rt, xs_bk, xs_ct, xs_ex, f_nil, t_nx, t_rt, t_exc, own_tl, own_int, own_bl, own_non, own_str, own_tup, own_ref, own_fl, xs_nil, xs_cons, start, bindT, bindTs, R.of_some, R.of_none, List.length_cons, List.length_nil, List.map_cons, List.map_nil, List.getElem?_cons_zero, List.getElem?_cons_succ, List.set_cons_zero, List.set_cons_succ, Nat.reduceAdd, Nat.reduceSub, List.cons_append, List.nil_append, List.append_nil, List.replicate, Nat.zero_add, reduceIte, Option.map_some, Option.map_none, fin_same, Bool.not_true, Bool.not_false, Bool.false_eq_true, tyD, primD, binD, sz0, sz1, sz2, sz3, sz4, sz5, sz6, sz7, sz8, nc0, nc1, nc2, nc3, nc4, nc5, nc6, nc7, nc8, Nat.reduceEqDiff, Option.bind_some, Int.reduceLE, Int.reduceLT, Int.reduceEq, Int.reduceToNat, Int.reduceAdd, Int.reduceSub, Int.reduceMul, Int.reduceNeg, Nat.reduceMul, ne_eq, not_false_eq_true, not_true_eq_false, decide_true, decide_false, Bool.and_true, Bool.true_and, Bool.or_false, Bool.false_or, Bool.or_true, Bool.true_or, Bool.and_false, Bool.false_and, beq_self_eq_true, F90, e1, fin_tp0, iv, cmpD, eqD_int, decide_eq_false hv, e2, sh, Rat.num_intCast, Rat.den_intCast]
def T92 : Ss := (.cons (.asg (.nm 5) (.call 22 (.cons (.var 0) (.cons (.ite (.var 3) (.lit (.int 4)) (.lit (.int 2))) .nil))))
 (.cons (.ifs (.cmp .eq (.var 5) (.lit (.int 3))) (.cons (.ret (.tup (.cons (.var 6) (.cons (.var 7) (.cons (.tup (.cons (.lit (.str "drain")) (.cons (.var 7) .nil))) .nil)))))
 .nil) .nil)
 (.cons (.ret (.tup (.cons (.var 6) (.cons (.var 7) (.cons (.idx (.lst (.cons (.tup (.cons (.lit (.str "shut")) .nil)) (.cons (.tup (.cons (.lit (.str "open")) .nil)) (.cons (.tup (.cons (.lit (.str "drain")) (.cons (.call 90 (.cons (.var 0) .nil)) .nil))) .nil)))) (.var 5)) .nil)))))
 .nil)))
def B92 : Ss := (.cons (.ifs (.cmp .gt (.var 4) (.lit (.int 0))) (.cons (.asg (.nm 10) (.call 92 (.cons (.var 0) (.cons (.var 4) (.cons (.bin .sub (.var 2) (.lit (.int 1))) (.cons (.var 3) .nil))))))
 (.cons (.aug 4 .sub (.call 91 (.cons (.var 10) .nil)))
 (.cons (.ex (.meth .append (.var 8) (.cons (.var 10) .nil)))
 .nil))) .nil)
 .nil)

theorem own_int' {i : Int} {η : Hep} : own (.int i) η = .ok (.int i) η := rfl
/-- no kids -/
theorem tail_ok (g : HDrw Γ) {l : Nat} {w : Rat} (hl : 1 ≤ l) (hw : wok w) {x1 x2 x4 : Option D} {dr : Bool} {cs : List Int} {s : Int} (hs : 0 ≤ s ∧ s < 2147483647) :
    ∃ p cs' s', good p ∧ size p = l ∧ dep p = 1 ∧ (dr = false → loss p = false) ∧ (0 ≤ s' ∧ s' < 2147483647) ∧ execs (callN Γ (k + 2)) T92 [some (.ref 1), x1, x2, some (.bl dr), x4, none, some (.int l), some (sh w), none, none, none] (tp cs s r) = .rt (enc p) (tp cs' s' r) := by
  have iv : ∀ (n : Nat) (i : Int), (D.int i).blw n = true := fun _ _ => rfl
  obtain ⟨v, c1, s1, v0, v4, hs1, e1⟩ := draw_ok (k := k + 1) (r := r) g.h22 (m := if dr then 4 else 2) (by split <;> decide) (by split <;> decide) (cs := cs) hs
  have hv : v = 0 ∨ v = 1 ∨ v = 2 ∨ v = 3 := by
    have : v < 4 := by
      cases dr <;> simp at v4 <;> omega
    omega
  have e1' : ev (callN Γ (k + 2)) (.call 22 (.cons (.var 0) (.cons (.ite (.var 3) (.lit (.int 4)) (.lit (.int 2))) .nil))) [some (.ref 1), x1, x2, some (.bl dr), x4, none, some (.int l), some (sh w), none, none, none] (tp cs s r) = .ok (.int v) (tp c1 s1 r) := by
    cases dr with
    | true =>
      have e1 : callN Γ (k + 2) 22 [.ref 1, .int 4] (tp cs s r) = .ok (.int v) (tp c1 s1 r) := e1
      simp -implicitDefEqProofs only [e_lit, e_var, e_glb, e_bin, e_bin1, e_bin2, e_neg, e_neg1, e_cmp, e_cmp1, e_cmp2, e_chn, e_chn1, e_chn2, e_chn3, e_chn4, e_isn, e_isn1, e_isn2, e_and, e_and1, e_and2, e_or, e_or1, e_or2, e_not, e_not1, e_ite, e_ite1, e_ite2, e_tup, e_tup1, e_lst, e_lst1, e_idx, e_idx1, e_idx2, e_slc, e_slc1, e_slc2, e_slc3, e_call, e_call1, e_prim, e_prim1, e_isi, e_isi1, e_isi2, e_meth, e_meth1, e_meth2, e_comp, e_comp1, e_tl, es_nil, es_cons, es_cons1, es_cons2, es_cons3, ep_nil, ep_cons, ep_cons1, eo_no, eo_so, eo_so1, ec_no, ec_so, ei_val, ei_val1, ei_rg, ei_rg1, ei_rg2, ei_rg3, ei_rg4, ei_enm, ei_enm1, ei_zip, ei_zip1, ei_zip2, ei_zip3, ei_rev, ei_rev1, c_nil, x_asg, x_asg1, x_asg2, x_asg3, x_par, x_par1, x_par3, x_par31, x_sub, x_sub1, x_sub2, x_sub3, x_sub4, x_sub5, x_aug, x_aug0, x_aug1, x_aug2, x_augS, x_augS1, x_augS2, x_augS3, x_augS4, x_augS5, x_ret, x_ret1, x_ret2, x_retN, x_ex, x_ex1, x_ex2, x_pass, x_brk, x_cnt, x_if, x_if1, x_if2, x_whl, x_fr, x_fr1, x_rs, x_tr, x_tr1, x_tr2, x_tr3, x_h, x_noX1, x_noX2, x_noX3, xs_nx, xs_rt, xs_bk, xs_ct, xs_ex, f_nil, t_nx, t_rt, t_exc, own_tl, own_int, own_bl, own_non, own_str, own_tup, own_ref, own_fl, xs_nil, xs_cons, start, bindT, bindTs, R.of_some, R.of_none, List.length_cons, List.length_nil, List.map_cons, List.map_nil, List.getElem?_cons_zero, List.getElem?_cons_succ, List.set_cons_zero, List.set_cons_succ, Nat.reduceAdd, Nat.reduceSub, List.cons_append, List.nil_append, List.append_nil, List.replicate, Nat.zero_add, reduceIte, Option.map_some, Option.map_none, fin_same, Bool.not_true, Bool.not_false, Bool.false_eq_true, tyD, primD, binD, sz0, sz1, sz2, sz3, sz4, sz5, sz6, sz7, sz8, nc0, nc1, nc2, nc3, nc4, nc5, nc6, nc7, nc8, Nat.reduceEqDiff, Option.bind_some, Int.reduceLE, Int.reduceLT, Int.reduceEq, Int.reduceToNat, Int.reduceAdd, Int.reduceSub, Int.reduceMul, Int.reduceNeg, Nat.reduceMul, ne_eq, not_false_eq_true, not_true_eq_false, decide_true, decide_false, Bool.and_true, Bool.true_and, Bool.or_false, Bool.false_or, Bool.or_true, Bool.true_or, Bool.and_false, Bool.false_and, beq_self_eq_true, e1, fin_tp0 (iv _ _)]
    | false =>
      have e1 : callN Γ (k + 2) 22 [.ref 1, .int 2] (tp cs s r) = .ok (.int v) (tp c1 s1 r) := e1
      simp -implicitDefEqProofs only [e_lit, e_var, e_glb, e_bin, e_bin1, e_bin2, e_neg, e_neg1, e_cmp, e_cmp1, e_cmp2, e_chn, e_chn1, e_chn2, e_chn3, e_chn4, e_isn, e_isn1, e_isn2, e_and, e_and1, e_and2, e_or, e_or1, e_or2, e_not, e_not1, e_ite, e_ite1, e_ite2, e_tup, e_tup1, e_lst, e_lst1, e_idx, e_idx1, e_idx2, e_slc, e_slc1, e_slc2, e_slc3, e_call, e_call1, e_prim, e_prim1, e_isi, e_isi1, e_isi2, e_meth, e_meth1, e_meth2, e_comp, e_comp1, e_tl, es_nil, es_cons, es_cons1, es_cons2, es_cons3, ep_nil, ep_cons, ep_cons1, eo_no, eo_so, eo_so1, ec_no, ec_so, ei_val, ei_val1, ei_rg, ei_rg1, ei_rg2, ei_rg3, ei_rg4, ei_enm, ei_enm1, ei_zip, ei_zip1, ei_zip2, ei_zip3, ei_rev, ei_rev1, c_nil, x_asg, x_asg1, x_asg2, x_asg3, x_par, x_par1, x_par3, x_par31, x_sub, x_sub1, x_sub2, x_sub3, x_sub4, x_sub5, x_aug, x_aug0, x_aug1, x_aug2, x_augS, x_augS1, x_augS2, x_augS3, x_augS4, x_augS5, x_ret, x_ret1, x_ret2, x_retN, x_ex, x_ex1, x_ex2, x_pass, x_brk, x_cnt, x_if, x_if1, x_if2, x_whl, x_fr, x_fr1, x_rs, x_tr, x_tr1, x_tr2, x_tr3, x_h, x_noX1, x_noX2, x_noX3, xs_nx, xs_rt, xs_bk, xs_ct, xs_ex, f_nil, t_nx, t_rt, t_exc, own_tl, own_int, own_bl, own_non, own_str, own_tup, own_ref, own_fl, xs_nil, xs_cons, start, bindT, bindTs, R.of_some, R.of_none, List.length_cons, List.length_nil, List.map_cons, List.map_nil, List.getElem?_cons_zero, List.getElem?_cons_succ, List.set_cons_zero, List.set_cons_succ, Nat.reduceAdd, Nat.reduceSub, List.cons_append, List.nil_append, List.append_nil, List.replicate, Nat.zero_add, reduceIte, Option.map_some, Option.map_none, fin_same, Bool.not_true, Bool.not_false, Bool.false_eq_true, tyD, primD, binD, sz0, sz1, sz2, sz3, sz4, sz5, sz6, sz7, sz8, nc0, nc1, nc2, nc3, nc4, nc5, nc6, nc7, nc8, Nat.reduceEqDiff, Option.bind_some, Int.reduceLE, Int.reduceLT, Int.reduceEq, Int.reduceToNat, Int.reduceAdd, Int.reduceSub, Int.reduceMul, Int.reduceNeg, Nat.reduceMul, ne_eq, not_false_eq_true, not_true_eq_false, decide_true, decide_false, Bool.and_true, Bool.true_and, Bool.or_false, Bool.false_or, Bool.or_true, Bool.true_or, Bool.and_false, Bool.false_and, beq_self_eq_true, e1, fin_tp0 (iv _ _)]
  obtain ⟨d, c2, s2, hd, hs2, e2⟩ := wdraw_ok (k := k) (r := r) g (cs := c1) hs1
  have v3 : dr = false → v < 2 := fun h => by subst h; simpa using v4
  unfold T92
  rw [xs_cons, x_asg, e1']
  rcases hv with rfl | rfl | rfl | rfl
  · refine ⟨.shut l w, c2, s2, by simp [good, hl, hw], by simp [size], by simp [dep], fun _ => by simp [loss], hs2, ?_⟩
    simp -implicitDefEqProofs only [e_lit, e_var, e_glb, e_bin, e_bin1, e_bin2, e_neg, e_neg1, e_cmp, e_cmp1, e_cmp2, e_chn, e_chn1, e_chn2, e_chn3, e_chn4, e_isn, e_isn1, e_isn2, e_and, e_and1, e_and2, e_or, e_or1, e_or2, e_not, e_not1, e_ite, e_ite1, e_ite2, e_tup, e_tup1, e_lst, e_lst1, e_idx, e_idx1, e_idx2, e_slc, e_slc1, e_slc2, e_slc3, e_call, e_call1, e_prim, e_prim1, e_isi, e_isi1, e_isi2, e_meth, e_meth1, e_meth2, e_comp, e_comp1, e_tl, es_nil, es_cons, es_cons1, es_cons2, es_cons3, ep_nil, ep_cons, ep_cons1, eo_no, eo_so, eo_so1, ec_no, ec_so, ei_val, ei_val1, ei_rg, ei_rg1, ei_rg2, ei_rg3, ei_rg4, ei_enm, ei_enm1, ei_zip, ei_zip1, ei_zip2, ei_zip3, ei_rev, ei_rev1, c_nil, x_asg, x_asg1, x_asg2, x_asg3, x_par, x_par1, x_par3, x_par31, x_sub, x_sub1, x_sub2, x_sub3, x_sub4, x_sub5, x_aug, x_aug0, x_aug1, x_aug2, x_augS, x_augS1, x_augS2, x_augS3, x_augS4, x_augS5, x_ret, x_ret1, x_ret2, x_retN, x_ex, x_ex1, x_ex2, x_pass, x_brk, x_cnt, x_if, x_if1, x_if2, x_whl, x_fr, x_fr1, x_rs, x_tr, x_tr1, x_tr2, x_tr3, x_h, x_noX1, x_noX2, x_noX3, xs_nx, xs_rt, xs_bk, xs_ct, xs_ex, f_nil, t_nx, t_rt, t_exc, own_tl, own_int, own_bl, own_non, own_str, own_tup, own_ref, own_fl, xs_nil, xs_cons, start, bindT, bindTs, R.of_some, R.of_none, List.length_cons, List.length_nil, List.map_cons, List.map_nil, List.getElem?_cons_zero, List.getElem?_cons_succ, List.set_cons_zero, List.set_cons_succ, Nat.reduceAdd, Nat.reduceSub, List.cons_append, List.nil_append, List.append_nil, List.replicate, Nat.zero_add, reduceIte, Option.map_some, Option.map_none, fin_same, Bool.not_true, Bool.not_false, Bool.false_eq_true, tyD, primD, binD, sz0, sz1, sz2, sz3, sz4, sz5, sz6, sz7, sz8, nc0, nc1, nc2, nc3, nc4, nc5, nc6, nc7, nc8, Nat.reduceEqDiff, Option.bind_some, Int.reduceLE, Int.reduceLT, Int.reduceEq, Int.reduceToNat, Int.reduceAdd, Int.reduceSub, Int.reduceMul, Int.reduceNeg, Nat.reduceMul, ne_eq, not_false_eq_true, not_true_eq_false, decide_true, decide_false, Bool.and_true, Bool.true_and, Bool.or_false, Bool.false_or, Bool.or_true, Bool.true_or, Bool.and_false, Bool.false_and, beq_self_eq_true, cmpD, eqD_int, e2, fin_tp0 (sh_blw _), idxD, seqAny, seqOf, at0, own_sh, Pp.enc]
  · refine ⟨.opn l w, c2, s2, by simp [good, hl, hw], by simp [size], by simp [dep], fun _ => by simp [loss], hs2, ?_⟩
    simp -implicitDefEqProofs only [e_lit, e_var, e_glb, e_bin, e_bin1, e_bin2, e_neg, e_neg1, e_cmp, e_cmp1, e_cmp2, e_chn, e_chn1, e_chn2, e_chn3, e_chn4, e_isn, e_isn1, e_isn2, e_and, e_and1, e_and2, e_or, e_or1, e_or2, e_not, e_not1, e_ite, e_ite1, e_ite2, e_tup, e_tup1, e_lst, e_lst1, e_idx, e_idx1, e_idx2, e_slc, e_slc1, e_slc2, e_slc3, e_call, e_call1, e_prim, e_prim1, e_isi, e_isi1, e_isi2, e_meth, e_meth1, e_meth2, e_comp, e_comp1, e_tl, es_nil, es_cons, es_cons1, es_cons2, es_cons3, ep_nil, ep_cons, ep_cons1, eo_no, eo_so, eo_so1, ec_no, ec_so, ei_val, ei_val1, ei_rg, ei_rg1, ei_rg2, ei_rg3, ei_rg4, ei_enm, ei_enm1, ei_zip, ei_zip1, ei_zip2, ei_zip3, ei_rev, ei_rev1, c_nil, x_asg, x_asg1, x_asg2, x_asg3, x_par, x_par1, x_par3, x_par31, x_sub, x_sub1, x_sub2, x_sub3, x_sub4, x_sub5, x_aug, x_aug0, x_aug1, x_aug2, x_augS, x_augS1, x_augS2, x_augS3, x_augS4, x_augS5, x_ret, x_ret1, x_ret2, x_retN, x_ex, x_ex1, x_ex2, x_pass, x_brk, x_cnt, x_if, x_if1, x_if2, x_whl, x_fr, x_fr1, x_rs, x_tr, x_tr1, x_tr2, x_tr3, x_h, x_noX1, x_noX2, x_noX3, xs_nx, xs_rt, xs_bk, xs_ct, xs_ex, f_nil, t_nx, t_rt, t_exc, own_tl, own_int, own_bl, own_non, own_str, own_tup, own_ref, own_fl, xs_nil, xs_cons, start, bindT, bindTs, R.of_some, R.of_none, List.length_cons, List.length_nil, List.map_cons, List.map_nil, List.getElem?_cons_zero, List.getElem?_cons_succ, List.set_cons_zero, List.set_cons_succ, Nat.reduceAdd, Nat.reduceSub, List.cons_append, List.nil_append, List.append_nil, List.replicate, Nat.zero_add, reduceIte, Option.map_some, Option.map_none, fin_same, Bool.not_true, Bool.not_false, Bool.false_eq_true, tyD, primD, binD, sz0, sz1, sz2, sz3, sz4, sz5, sz6, sz7, sz8, nc0, nc1, nc2, nc3, nc4, nc5, nc6, nc7, nc8, Nat.reduceEqDiff, Option.bind_some, Int.reduceLE, Int.reduceLT, Int.reduceEq, Int.reduceToNat, Int.reduceAdd, Int.reduceSub, Int.reduceMul, Int.reduceNeg, Nat.reduceMul, ne_eq, not_false_eq_true, not_true_eq_false, decide_true, decide_false, Bool.and_true, Bool.true_and, Bool.or_false, Bool.false_or, Bool.or_true, Bool.true_or, Bool.and_false, Bool.false_and, beq_self_eq_true, cmpD, eqD_int, e2, fin_tp0 (sh_blw _), idxD, seqAny, seqOf, at1, own_sh, Pp.enc]
  · refine ⟨.drain l w d, c2, s2, by simp [good, hl, hw, hd], by simp [size], by simp [dep], fun h => absurd (v3 h) (by decide), hs2, ?_⟩
    simp -implicitDefEqProofs only [e_lit, e_var, e_glb, e_bin, e_bin1, e_bin2, e_neg, e_neg1, e_cmp, e_cmp1, e_cmp2, e_chn, e_chn1, e_chn2, e_chn3, e_chn4, e_isn, e_isn1, e_isn2, e_and, e_and1, e_and2, e_or, e_or1, e_or2, e_not, e_not1, e_ite, e_ite1, e_ite2, e_tup, e_tup1, e_lst, e_lst1, e_idx, e_idx1, e_idx2, e_slc, e_slc1, e_slc2, e_slc3, e_call, e_call1, e_prim, e_prim1, e_isi, e_isi1, e_isi2, e_meth, e_meth1, e_meth2, e_comp, e_comp1, e_tl, es_nil, es_cons, es_cons1, es_cons2, es_cons3, ep_nil, ep_cons, ep_cons1, eo_no, eo_so, eo_so1, ec_no, ec_so, ei_val, ei_val1, ei_rg, ei_rg1, ei_rg2, ei_rg3, ei_rg4, ei_enm, ei_enm1, ei_zip, ei_zip1, ei_zip2, ei_zip3, ei_rev, ei_rev1, c_nil, x_asg, x_asg1, x_asg2, x_asg3, x_par, x_par1, x_par3, x_par31, x_sub, x_sub1, x_sub2, x_sub3, x_sub4, x_sub5, x_aug, x_aug0, x_aug1, x_aug2, x_augS, x_augS1, x_augS2, x_augS3, x_augS4, x_augS5, x_ret, x_ret1, x_ret2, x_retN, x_ex, x_ex1, x_ex2, x_pass, x_brk, x_cnt, x_if, x_if1, x_if2, x_whl, x_fr, x_fr1, x_rs, x_tr, x_tr1, x_tr2, x_tr3, x_h, x_noX1, x_noX2, x_noX3, xs_nx, xs_rt, xs_bk, xs_ct, xs_ex, f_nil, t_nx, t_rt, t_exc, own_tl, own_int, own_bl, own_non, own_str, own_tup, own_ref, own_fl, xs_nil, xs_cons, start, bindT, bindTs, R.of_some, R.of_none, List.length_cons, List.length_nil, List.map_cons, List.map_nil, List.getElem?_cons_zero, List.getElem?_cons_succ, List.set_cons_zero, List.set_cons_succ, Nat.reduceAdd, Nat.reduceSub, List.cons_append, List.nil_append, List.append_nil, List.replicate, Nat.zero_add, reduceIte, Option.map_some, Option.map_none, fin_same, Bool.not_true, Bool.not_false, Bool.false_eq_true, tyD, primD, binD, sz0, sz1, sz2, sz3, sz4, sz5, sz6, sz7, sz8, nc0, nc1, nc2, nc3, nc4, nc5, nc6, nc7, nc8, Nat.reduceEqDiff, Option.bind_some, Int.reduceLE, Int.reduceLT, Int.reduceEq, Int.reduceToNat, Int.reduceAdd, Int.reduceSub, Int.reduceMul, Int.reduceNeg, Nat.reduceMul, ne_eq, not_false_eq_true, not_true_eq_false, decide_true, decide_false, Bool.and_true, Bool.true_and, Bool.or_false, Bool.false_or, Bool.or_true, Bool.true_or, Bool.and_false, Bool.false_and, beq_self_eq_true, cmpD, eqD_int, e2, fin_tp0 (sh_blw _), idxD, seqAny, seqOf, at2, own_sh, Pp.enc]
  · refine ⟨.drain l w w, c1, s1, by simp [good, hl, hw], by simp [size], by simp [dep], fun h => absurd (v3 h) (by decide), hs1, ?_⟩
    simp -implicitDefEqProofs only [e_lit, e_var, e_glb, e_bin, e_bin1, e_bin2, e_neg, e_neg1, e_cmp, e_cmp1, e_cmp2, e_chn, e_chn1, e_chn2, e_chn3, e_chn4, e_isn, e_isn1, e_isn2, e_and, e_and1, e_and2, e_or, e_or1, e_or2, e_not, e_not1, e_ite, e_ite1, e_ite2, e_tup, e_tup1, e_lst, e_lst1, e_idx, e_idx1, e_idx2, e_slc, e_slc1, e_slc2, e_slc3, e_call, e_call1, e_prim, e_prim1, e_isi, e_isi1, e_isi2, e_meth, e_meth1, e_meth2, e_comp, e_comp1, e_tl, es_nil, es_cons, es_cons1, es_cons2, es_cons3, ep_nil, ep_cons, ep_cons1, eo_no, eo_so, eo_so1, ec_no, ec_so, ei_val, ei_val1, ei_rg, ei_rg1, ei_rg2, ei_rg3, ei_rg4, ei_enm, ei_enm1, ei_zip, ei_zip1, ei_zip2, ei_zip3, ei_rev, ei_rev1, c_nil, x_asg, x_asg1, x_asg2, x_asg3, x_par, x_par1, x_par3, x_par31, x_sub, x_sub1, x_sub2, x_sub3, x_sub4, x_sub5, x_aug, x_aug0, x_aug1, x_aug2, x_augS, x_augS1, x_augS2, x_augS3, x_augS4, x_augS5, x_ret, x_ret1, x_ret2, x_retN, x_ex, x_ex1, x_ex2, x_pass, x_brk, x_cnt, x_if, x_if1, x_if2, x_whl, x_fr, x_fr1, x_rs, x_tr, x_tr1, x_tr2, x_tr3, x_h, x_noX1, x_noX2, x_noX3, xs_nx, xs_rt, xs_bk, xs_ct, xs_ex, f_nil, t_nx, t_rt, t_exc, own_tl, own_int, own_bl, own_non, own_str, own_tup, own_ref, own_fl, xs_nil, xs_cons, start, bindT, bindTs, R.of_some, R.of_none, List.length_cons, List.length_nil, List.map_cons, List.map_nil, List.getElem?_cons_zero, List.getElem?_cons_succ, List.set_cons_zero, List.set_cons_succ, Nat.reduceAdd, Nat.reduceSub, List.cons_append, List.nil_append, List.append_nil, List.replicate, Nat.zero_add, reduceIte, Option.map_some, Option.map_none, fin_same, Bool.not_true, Bool.not_false, Bool.false_eq_true, tyD, primD, binD, sz0, sz1, sz2, sz3, sz4, sz5, sz6, sz7, sz8, nc0, nc1, nc2, nc3, nc4, nc5, nc6, nc7, nc8, Nat.reduceEqDiff, Option.bind_some, Int.reduceLE, Int.reduceLT, Int.reduceEq, Int.reduceToNat, Int.reduceAdd, Int.reduceSub, Int.reduceMul, Int.reduceNeg, Nat.reduceMul, ne_eq, not_false_eq_true, not_true_eq_false, decide_true, decide_false, Bool.and_true, Bool.true_and, Bool.or_false, Bool.false_or, Bool.or_true, Bool.true_or, Bool.and_false, Bool.false_and, beq_self_eq_true, cmpD, eqD_int, e2, fin_tp0 (sh_blw _), idxD, seqAny, seqOf, at2, own_sh, Pp.enc]
theorem rng_get0' {n i : Nat} {x : D} (h : (rng 0 n)[i]? = some x) : i < n ∧ x = .int i := by
  rw [rng_map, List.getElem?_map] at h
  by_cases hi : i < n
  · rw [List.getElem?_range hi] at h
    simp at h
    exact ⟨hi, h.symm⟩
  · rw [List.getElem?_eq_none (by simpa using hi)] at h
    cases h
theorem small_len' {n : Nat} (h : n ≤ 7) : n ≤ PySem.sizeLine := by
  have : (7 : Nat) ≤ PySem.sizeLine := by decide
  omega
theorem encs_app (ks : List Pp) (p : Pp) : encs ks ++ [enc p] = encs (ks ++ [p]) := by simp [encs_map]
theorem encs_len (ks : List Pp) : (encs ks).length = ks.length := by simp [encs_map]
theorem size_pos : ∀ {p : Pp}, good p → 1 ≤ size p
  | .shut _ _, h => by simp [good] at h; simp [size]; exact h.1
  | .opn _ _, h => by simp [good] at h; simp [size]; exact h.1
  | .drain _ _ _, h => by simp [good] at h; simp [size]; exact h.1
  | .fork _ _ _, h => by simp [good] at h; simp [size]; omega
def Z92 (x1 : Option D) (deep : Nat) (dr : Bool) (left : Int) (l : Nat) (w : Rat) (m : Nat) (x9 x10 : Option D) : Lo :=
  [some (.ref 1), x1, some (.int ((deep : Int) + 1)), some (.bl dr), some (.int left), none, some (.int l), some (sh w), some (.ref m), x9, x10]
theorem kids_loop (g : HDrw Γ) {K deep l : Nat} {w : Rat} {dr : Bool} {x1 : Option D} (hK : deep + 1 ≤ K) (rec : ∀ (room : Int) (cs : List Int) (s : Int) (r : Hep), 1 ≤ room → room ≤ 1000 → 0 ≤ s ∧ s < 2147483647 → ∃ p cs' s' ext, good p ∧ (size p : Int) ≤ room ∧ dep p ≤ deep + 1 ∧ (dr = false → loss p = false) ∧ (0 ≤ s' ∧ s' < 2147483647) ∧
    callN Γ K 92 [.ref 1, .int room, .int deep, .bl dr] (tp cs s r) = .ok (enc p) (tp cs' s' (r ++ ext))) {L0 : Int} (h0 : 1 ≤ L0) (h1 : L0 ≤ 1000) {n : Nat} (n1 : 1 ≤ n) (n6 : n ≤ 6) {cs : List Int} {s : Int} (hs : 0 ≤ s ∧ s < 2147483647) :
    ∃ ks cs' s' left x9 x10, goods ks ∧ (sizes ks : Int) ≤ L0 ∧ deps ks ≤ deep + 1 ∧ (dr = false → losses ks = false) ∧ ks ≠ [] ∧ ks.length ≤ n ∧ (0 ≤ s' ∧ s' < 2147483647) ∧
      fE (callN Γ K) B92 (.nm 9) [] (rng 0 n) (Z92 x1 deep dr L0 l w (r.length + 2) none none) (tp cs s (r ++ [.lst []])) = .nx (Z92 x1 deep dr left l w (r.length + 2) x9 x10) (tp cs' s' (r ++ [.lst (encs ks)])) := by
  have hn : (rng 0 n).length = n := by simp [rng]
  obtain ⟨ρ', η', e, cs', s', ks, left, x9, x10, rfl, rfl, hs', gk, hsz, hl0, hdp, hls, hlen, hne⟩ := f_all (C := callN Γ K) (b := B92) (t := .nm 9) (w := []) (fun i ρ η => ∃ cs s ks left x9 x10, ρ = Z92 x1 deep dr left l w (r.length + 2) x9 x10 ∧ η = tp cs s (r ++ [.lst (encs ks)]) ∧
      (0 ≤ s ∧ s < 2147483647) ∧ goods ks ∧ (sizes ks : Int) + left = L0 ∧ 0 ≤ left ∧ deps ks ≤ deep + 1 ∧ (dr = false → losses ks = false) ∧ ks.length ≤ i ∧ (1 ≤ i → ks ≠ [])) (rng 0 n)
    (ρ := Z92 x1 deep dr L0 l w (r.length + 2) none none) (η := tp cs s (r ++ [.lst []]))
    ⟨cs, s, [], L0, none, none, rfl, by simp [encs], hs, by simp [goods], by simp [sizes], by omega, by simp [deps], fun _ => by simp [losses], Nat.le_refl _, fun h => by omega⟩ (by
      rintro i x hx ρ η ⟨cs, s, ks, left, x9, x10, rfl, rfl, hs, gk, hsz, hl0, hdp, hls, hlen, hne⟩
      obtain ⟨hi, rfl⟩ := rng_get0' hx
      by_cases hl : 0 < left
      · obtain ⟨p, cs', s', ext, gp, hp, hd, hlo, hs', ec⟩ := rec left cs s (r ++ [.lst (encs ks)]) (by omega) (by omega) hs
        have ls := lsize_ok (Γ := Γ) g.h91 (tp cs' s' (r ++ [.lst (encs ks)])) K p (by omega) gp (by omega)
        have sp := size_pos gp
        refine ⟨_, Z92 x1 deep dr (left - size p) l w (r.length + 2) (some (.int i)) (some (enc p)), tp cs' s' (r ++ [.lst (encs (ks ++ [p]))]), rfl, ?_, rfl, cs', s', ks ++ [p], left - size p, some (.int i), some (enc p), rfl, rfl, hs', goods_app gk gp, ?_, by omega, ?_, ?_, by simpa using hlen, fun _ => by simp⟩
        · have il : ks.length < PySem.sizeLine := by
            have : (7 : Nat) ≤ PySem.sizeLine := by decide
            omega
          have d1 : (deep : Int) + 1 - 1 = deep := by omega
          unfold B92 Z92
          simp -implicitDefEqProofs only [e_lit, e_var, e_glb, e_bin, e_bin1, e_bin2, e_neg, e_neg1, e_cmp, e_cmp1, e_cmp2, e_chn, e_chn1, e_chn2, e_chn3, e_chn4, e_isn, e_isn1, e_isn2, e_and, e_and1, e_and2, e_or, e_or1, e_or2, e_not, e_not1, e_ite, e_ite1, e_ite2, e_tup, e_tup1, e_lst, e_lst1, e_idx, e_idx1, e_idx2, e_slc, e_slc1, e_slc2, e_slc3, e_call, e_call1, e_prim, e_prim1, e_isi, e_isi1, e_isi2, e_meth, e_meth1, e_meth2, e_comp, e_comp1, e_tl, es_nil, es_cons, es_cons1, es_cons2, es_cons3, ep_nil, ep_cons, ep_cons1, eo_no, eo_so, eo_so1, ec_no, ec_so, ei_val, ei_val1, ei_rg, ei_rg1, ei_rg2, ei_rg3, ei_rg4, ei_enm, ei_enm1, ei_zip, ei_zip1, ei_zip2, ei_zip3, ei_rev, ei_rev1, c_nil, x_asg, x_asg1, x_asg2, x_asg3, x_par, x_par1, x_par3, x_par31, x_sub, x_sub1, x_sub2, x_sub3, x_sub4, x_sub5, x_aug, x_aug0, x_aug1, x_aug2, x_augS, x_augS1, x_augS2, x_augS3, x_augS4, x_augS5, x_ret, x_ret1, x_ret2, x_retN, x_ex, x_ex1, x_ex2, x_pass, x_brk, x_cnt, x_if, x_if1, x_if2, x_whl, x_fr, x_fr1, x_rs, x_tr, x_tr1, x_tr2, x_tr3, x_h, x_noX1, x_noX2, x_noX3, xs_nx, xs_rt, xs_bk, xs_ct, xs_ex, f_nil, t_nx, t_rt, t_exc, own_tl, own_int, own_bl, own_non, own_str, own_tup, own_ref, own_fl, xs_nil, xs_cons, start, bindT, bindTs, R.of_some, R.of_none, List.length_cons, List.length_nil, List.map_cons, List.map_nil, List.getElem?_cons_zero, List.getElem?_cons_succ, List.set_cons_zero, List.set_cons_succ, Nat.reduceAdd, Nat.reduceSub, List.cons_append, List.nil_append, List.append_nil, List.replicate, Nat.zero_add, reduceIte, Option.map_some, Option.map_none, fin_same, Bool.not_true, Bool.not_false, Bool.false_eq_true, tyD, primD, binD, sz0, sz1, sz2, sz3, sz4, sz5, sz6, sz7, sz8, nc0, nc1, nc2, nc3, nc4, nc5, nc6, nc7, nc8, Nat.reduceEqDiff, Option.bind_some, Int.reduceLE, Int.reduceLT, Int.reduceEq, Int.reduceToNat, Int.reduceAdd, Int.reduceSub, Int.reduceMul, Int.reduceNeg, Nat.reduceMul, ne_eq, not_false_eq_true, not_true_eq_false, decide_true, decide_false, Bool.and_true, Bool.true_and, Bool.or_false, Bool.false_or, Bool.or_true, Bool.true_or, Bool.and_false, Bool.false_and, beq_self_eq_true, cmpD, decide_eq_true hl, d1, ec, fin_tpe (enc_blw _ p), own_enc, ls, methD, tp_last, encs_len, il, encs_app, tp_set]
        · rw [sizes_app]; omega
        · rw [deps_app]; omega
        · intro h; rw [losses_app, hls h, hlo h]; rfl
      · have z : left = 0 := by omega
        subst z
        refine ⟨_, Z92 x1 deep dr 0 l w (r.length + 2) (some (.int i)) x10, tp cs s (r ++ [.lst (encs ks)]), rfl, ?_, rfl, cs, s, ks, 0, some (.int i), x10, rfl, rfl, hs, gk, hsz, by omega, hdp, hls, by omega, fun _ => ?_⟩
        · unfold B92 Z92
          simp -implicitDefEqProofs only [e_lit, e_var, e_glb, e_bin, e_bin1, e_bin2, e_neg, e_neg1, e_cmp, e_cmp1, e_cmp2, e_chn, e_chn1, e_chn2, e_chn3, e_chn4, e_isn, e_isn1, e_isn2, e_and, e_and1, e_and2, e_or, e_or1, e_or2, e_not, e_not1, e_ite, e_ite1, e_ite2, e_tup, e_tup1, e_lst, e_lst1, e_idx, e_idx1, e_idx2, e_slc, e_slc1, e_slc2, e_slc3, e_call, e_call1, e_prim, e_prim1, e_isi, e_isi1, e_isi2, e_meth, e_meth1, e_meth2, e_comp, e_comp1, e_tl, es_nil, es_cons, es_cons1, es_cons2, es_cons3, ep_nil, ep_cons, ep_cons1, eo_no, eo_so, eo_so1, ec_no, ec_so, ei_val, ei_val1, ei_rg, ei_rg1, ei_rg2, ei_rg3, ei_rg4, ei_enm, ei_enm1, ei_zip, ei_zip1, ei_zip2, ei_zip3, ei_rev, ei_rev1, c_nil, x_asg, x_asg1, x_asg2, x_asg3, x_par, x_par1, x_par3, x_par31, x_sub, x_sub1, x_sub2, x_sub3, x_sub4, x_sub5, x_aug, x_aug0, x_aug1, x_aug2, x_augS, x_augS1, x_augS2, x_augS3, x_augS4, x_augS5, x_ret, x_ret1, x_ret2, x_retN, x_ex, x_ex1, x_ex2, x_pass, x_brk, x_cnt, x_if, x_if1, x_if2, x_whl, x_fr, x_fr1, x_rs, x_tr, x_tr1, x_tr2, x_tr3, x_h, x_noX1, x_noX2, x_noX3, xs_nx, xs_rt, xs_bk, xs_ct, xs_ex, f_nil, t_nx, t_rt, t_exc, own_tl, own_int, own_bl, own_non, own_str, own_tup, own_ref, own_fl, xs_nil, xs_cons, start, bindT, bindTs, R.of_some, R.of_none, List.length_cons, List.length_nil, List.map_cons, List.map_nil, List.getElem?_cons_zero, List.getElem?_cons_succ, List.set_cons_zero, List.set_cons_succ, Nat.reduceAdd, Nat.reduceSub, List.cons_append, List.nil_append, List.append_nil, List.replicate, Nat.zero_add, reduceIte, Option.map_some, Option.map_none, fin_same, Bool.not_true, Bool.not_false, Bool.false_eq_true, tyD, primD, binD, sz0, sz1, sz2, sz3, sz4, sz5, sz6, sz7, sz8, nc0, nc1, nc2, nc3, nc4, nc5, nc6, nc7, nc8, Nat.reduceEqDiff, Option.bind_some, Int.reduceLE, Int.reduceLT, Int.reduceEq, Int.reduceToNat, Int.reduceAdd, Int.reduceSub, Int.reduceMul, Int.reduceNeg, Nat.reduceMul, ne_eq, not_false_eq_true, not_true_eq_false, decide_true, decide_false, Bool.and_true, Bool.true_and, Bool.or_false, Bool.false_or, Bool.or_true, Bool.true_or, Bool.and_false, Bool.false_and, beq_self_eq_true, cmpD]
        · by_cases h1 : 1 ≤ i
          · exact hne h1
          · intro e
            subst e
            simp [sizes] at hsz
            omega)
  rw [hn] at hlen hne
  exact ⟨ks, cs', s', left, x9, x10, gk, by omega, hdp, hls, hne n1, hlen, hs', e⟩
theorem head_ok (g : HDrw Γ) {K : Nat} {room : Int} (h1 : 1 ≤ room) (h2 : room ≤ 1000) {x2 x3 : Option D} {cs : List Int} {s : Int} (hs : 0 ≤ s ∧ s < 2147483647) : ∃ (l : Nat) (w : Rat) (cs' : List Int) (s' : Int), 1 ≤ l ∧ (l : Int) ≤ room ∧ wok w ∧ (0 ≤ s' ∧ s' < 2147483647) ∧
    exec (callN Γ (K + 2)) (.par 6 7 (.bin .add (.lit (.int 1)) (.call 22 (.cons (.var 0) (.cons (.prim .min2 (.cons (.lit (.int 3)) (.cons (.var 1) .nil))) .nil)))) (.call 90 (.cons (.var 0) .nil))) [some (.ref 1), some (.int room), x2, x3, none, none, none, none, none, none, none] (tp cs s r) =
      .nx [some (.ref 1), some (.int room), x2, x3, none, none, some (.int l), some (sh w), none, none, none] (tp cs' s' r) := by
  have iv : ∀ (n : Nat) (i : Int), (D.int i).blw n = true := fun _ _ => rfl
  obtain ⟨m, hm⟩ : ∃ m : Int, m = if room < 3 then room else 3 := ⟨_, rfl⟩
  have m1 : 1 ≤ m ∧ m ≤ room ∧ m ≤ 3 := by subst hm; split <;> omega
  obtain ⟨v, c1, s1, v0, v4, hs1, e1⟩ := draw_ok (k := K + 1) (r := r) g.h22 (m := m) (by omega) (by omega) (cs := cs) hs
  obtain ⟨w, c2, s2, hw, hs2, e2⟩ := wdraw_ok (k := K) (r := r) g (cs := c1) hs1
  have e1 : callN Γ (K + 2) 22 [.ref 1, .int m] (tp cs s r) = .ok (.int v) (tp c1 s1 r) := e1
  obtain ⟨l, hl⟩ : ∃ l : Nat, 1 + v = (l : Int) := ⟨(1 + v).toNat, by omega⟩
  refine ⟨l, w, c2, s2, by omega, by omega, hw, hs2, ?_⟩
  simp -implicitDefEqProofs only [e_lit, e_var, e_glb, e_bin, e_bin1, e_bin2, e_neg, e_neg1, e_cmp, e_cmp1, e_cmp2, e_chn, e_chn1, e_chn2, e_chn3, e_chn4, e_isn, e_isn1, e_isn2, e_and, e_and1, e_and2, e_or, e_or1, e_or2, e_not, e_not1, e_ite, e_ite1, e_ite2, e_tup, e_tup1, e_lst, e_lst1, e_idx, e_idx1, e_idx2, e_slc, e_slc1, e_slc2, e_slc3, e_call, e_call1, e_prim, e_prim1, e_isi, e_isi1, e_isi2, e_meth, e_meth1, e_meth2, e_comp, e_comp1, e_tl, es_nil, es_cons, es_cons1, es_cons2, es_cons3, ep_nil, ep_cons, ep_cons1, eo_no, eo_so, eo_so1, ec_no, ec_so, ei_val, ei_val1, ei_rg, ei_rg1, ei_rg2, ei_rg3, ei_rg4, ei_enm, ei_enm1, ei_zip, ei_zip1, ei_zip2, ei_zip3, ei_rev, ei_rev1, c_nil, x_asg, x_asg1, x_asg2, x_asg3, x_par, x_par1, x_par3, x_par31, x_sub, x_sub1, x_sub2, x_sub3, x_sub4, x_sub5, x_aug, x_aug0, x_aug1, x_aug2, x_augS, x_augS1, x_augS2, x_augS3, x_augS4, x_augS5, x_ret, x_ret1, x_ret2, x_retN, x_ex, x_ex1, x_ex2, x_pass, x_brk, x_cnt, x_if, x_if1, x_if2, x_whl, x_fr, x_fr1, x_rs, x_tr, x_tr1, x_tr2, x_tr3, x_h, x_noX1, x_noX2, x_noX3, xs_nx, xs_rt, xs_bk, xs_ct, xs_ex, f_nil, t_nx, t_rt, t_exc, own_tl, own_int, own_bl, own_non, own_str, own_tup, own_ref, own_fl, xs_nil, xs_cons, start, bindT, bindTs, R.of_some, R.of_none, List.length_cons, List.length_nil, List.map_cons, List.map_nil, List.getElem?_cons_zero, List.getElem?_cons_succ, List.set_cons_zero, List.set_cons_succ, Nat.reduceAdd, Nat.reduceSub, List.cons_append, List.nil_append, List.append_nil, List.replicate, Nat.zero_add, reduceIte, Option.map_some, Option.map_none, fin_same, Bool.not_true, Bool.not_false, Bool.false_eq_true, tyD, primD, binD, sz0, sz1, sz2, sz3, sz4, sz5, sz6, sz7, sz8, nc0, nc1, nc2, nc3, nc4, nc5, nc6, nc7, nc8, Nat.reduceEqDiff, Option.bind_some, Int.reduceLE, Int.reduceLT, Int.reduceEq, Int.reduceToNat, Int.reduceAdd, Int.reduceSub, Int.reduceMul, Int.reduceNeg, Nat.reduceMul, ne_eq, not_false_eq_true, not_true_eq_false, decide_true, decide_false, Bool.and_true, Bool.true_and, Bool.or_false, Bool.false_or, Bool.or_true, Bool.true_or, Bool.and_false, Bool.false_and, beq_self_eq_true, ← hm, e1, fin_tp0 (iv _ _), hl, e2, fin_tp0 (sh_blw _), own_sh]
/-- a drawn pipe -/
theorem pipe_ok (g : HDrw Γ) : ∀ (deep : Nat) (dr : Bool) (room : Int) (cs : List Int) (s : Int) (r : Hep), 1 ≤ room → room ≤ 1000 → 0 ≤ s ∧ s < 2147483647 → ∃ p cs' s' ext, good p ∧ (size p : Int) ≤ room ∧ dep p ≤ deep + 1 ∧ (dr = false → loss p = false) ∧ (0 ≤ s' ∧ s' < 2147483647) ∧
    callN Γ (k + deep + 3) 92 [.ref 1, .int room, .int deep, .bl dr] (tp cs s r) = .ok (enc p) (tp cs' s' (r ++ ext)) := by
  have iv : ∀ (n : Nat) (i : Int), (D.int i).blw n = true := fun _ _ => rfl
  intro deep dr
  induction deep with
  | zero =>
    intro room cs s r h1 h2 hs
    obtain ⟨l, w, c1, s1, l1, l2, hw, hs1, e1⟩ := head_ok (K := k) (r := r) g h1 h2 (x2 := some (.int (0 : Nat))) (x3 := some (.bl dr)) (cs := cs) hs
    obtain ⟨p, c2, s2, gp, sp, dp, lp, hs2, e2⟩ := tail_ok (k := k) (r := r) g l1 hw (x1 := some (.int room)) (x2 := some (.int (0 : Nat))) (x4 := some (.int (room - l))) (dr := dr) (cs := c1) hs1
    refine ⟨p, c2, s2, [], gp, by omega, by omega, lp, hs2, ?_⟩
    unfold T92 at e2
    rw [call_eq g.h92 rfl, List.append_nil]
    simp -implicitDefEqProofs only [e_lit, e_var, e_glb, e_bin, e_bin1, e_bin2, e_neg, e_neg1, e_cmp, e_cmp1, e_cmp2, e_chn, e_chn1, e_chn2, e_chn3, e_chn4, e_isn, e_isn1, e_isn2, e_and, e_and1, e_and2, e_or, e_or1, e_or2, e_not, e_not1, e_ite, e_ite1, e_ite2, e_tup, e_tup1, e_lst, e_lst1, e_idx, e_idx1, e_idx2, e_slc, e_slc1, e_slc2, e_slc3, e_call, e_call1, e_prim, e_prim1, e_isi, e_isi1, e_isi2, e_meth, e_meth1, e_meth2, e_comp, e_comp1, e_tl, es_nil, es_cons, es_cons1, es_cons2, es_cons3, ep_nil, ep_cons, ep_cons1, eo_no, eo_so, eo_so1, ec_no, ec_so, ei_val, ei_val1, ei_rg, ei_rg1, ei_rg2, ei_rg3, ei_rg4, ei_enm, ei_enm1, ei_zip, ei_zip1, ei_zip2, ei_zip3, ei_rev, ei_rev1, c_nil, x_asg, x_asg1, x_asg2, x_asg3, x_par, x_par1, x_par3, x_par31, x_sub, x_sub1, x_sub2, x_sub3, x_sub4, x_sub5, x_aug, x_aug0, x_aug1, x_aug2, x_augS, x_augS1, x_augS2, x_augS3, x_augS4, x_augS5, x_ret, x_ret1, x_ret2, x_retN, x_ex, x_ex1, x_ex2, x_pass, x_brk, x_cnt, x_if, x_if1, x_if2, x_whl, x_fr, x_fr1, x_rs, x_tr, x_tr1, x_tr2, x_tr3, x_h, x_noX1, x_noX2, x_noX3, xs_nx, xs_rt, xs_bk, xs_ct, xs_ex, f_nil, t_nx, t_rt, t_exc, own_tl, own_int, own_bl, own_non, own_str, own_tup, own_ref, own_fl, xs_nil, xs_cons, start, bindT, bindTs, R.of_some, R.of_none, List.length_cons, List.length_nil, List.map_cons, List.map_nil, List.getElem?_cons_zero, List.getElem?_cons_succ, List.set_cons_zero, List.set_cons_succ, Nat.reduceAdd, Nat.reduceSub, List.cons_append, List.nil_append, List.append_nil, List.replicate, Nat.zero_add, reduceIte, Option.map_some, Option.map_none, fin_same, Bool.not_true, Bool.not_false, Bool.false_eq_true, tyD, primD, binD, sz0, sz1, sz2, sz3, sz4, sz5, sz6, sz7, sz8, nc0, nc1, nc2, nc3, nc4, nc5, nc6, nc7, nc8, Nat.reduceEqDiff, Option.bind_some, Int.reduceLE, Int.reduceLT, Int.reduceEq, Int.reduceToNat, Int.reduceAdd, Int.reduceSub, Int.reduceMul, Int.reduceNeg, Nat.reduceMul, ne_eq, not_false_eq_true, not_true_eq_false, decide_true, decide_false, Bool.and_true, Bool.true_and, Bool.or_false, Bool.false_or, Bool.or_true, Bool.true_or, Bool.and_false, Bool.false_and, beq_self_eq_true, cmpD] at e1 e2
    simp -implicitDefEqProofs only [e_lit, e_var, e_glb, e_bin, e_bin1, e_bin2, e_neg, e_neg1, e_cmp, e_cmp1, e_cmp2, e_chn, e_chn1, e_chn2, e_chn3, e_chn4, e_isn, e_isn1, e_isn2, e_and, e_and1, e_and2, e_or, e_or1, e_or2, e_not, e_not1, e_ite, e_ite1, e_ite2, e_tup, e_tup1, e_lst, e_lst1, e_idx, e_idx1, e_idx2, e_slc, e_slc1, e_slc2, e_slc3, e_call, e_call1, e_prim, e_prim1, e_isi, e_isi1, e_isi2, e_meth, e_meth1, e_meth2, e_comp, e_comp1, e_tl, es_nil, es_cons, es_cons1, es_cons2, es_cons3, ep_nil, ep_cons, ep_cons1, eo_no, eo_so, eo_so1, ec_no, ec_so, ei_val, ei_val1, ei_rg, ei_rg1, ei_rg2, ei_rg3, ei_rg4, ei_enm, ei_enm1, ei_zip, ei_zip1, ei_zip2, ei_zip3, ei_rev, ei_rev1, c_nil, x_asg, x_asg1, x_asg2, x_asg3, x_par, x_par1, x_par3, x_par31, x_sub, x_sub1, x_sub2, x_sub3, x_sub4, x_sub5, x_aug, x_aug0, x_aug1, x_aug2, x_augS, x_augS1, x_augS2, x_augS3, x_augS4, x_augS5, x_ret, x_ret1, x_ret2, x_retN, x_ex, x_ex1, x_ex2, x_pass, x_brk, x_cnt, x_if, x_if1, x_if2, x_whl, x_fr, x_fr1, x_rs, x_tr, x_tr1, x_tr2, x_tr3, x_h, x_noX1, x_noX2, x_noX3, xs_nx, xs_rt, xs_bk, xs_ct, xs_ex, f_nil, t_nx, t_rt, t_exc, own_tl, own_int, own_bl, own_non, own_str, own_tup, own_ref, own_fl, xs_nil, xs_cons, start, bindT, bindTs, R.of_some, R.of_none, List.length_cons, List.length_nil, List.map_cons, List.map_nil, List.getElem?_cons_zero, List.getElem?_cons_succ, List.set_cons_zero, List.set_cons_succ, Nat.reduceAdd, Nat.reduceSub, List.cons_append, List.nil_append, List.append_nil, List.replicate, Nat.zero_add, reduceIte, Option.map_some, Option.map_none, fin_same, Bool.not_true, Bool.not_false, Bool.false_eq_true, tyD, primD, binD, sz0, sz1, sz2, sz3, sz4, sz5, sz6, sz7, sz8, nc0, nc1, nc2, nc3, nc4, nc5, nc6, nc7, nc8, Nat.reduceEqDiff, Option.bind_some, Int.reduceLE, Int.reduceLT, Int.reduceEq, Int.reduceToNat, Int.reduceAdd, Int.reduceSub, Int.reduceMul, Int.reduceNeg, Nat.reduceMul, ne_eq, not_false_eq_true, not_true_eq_false, decide_true, decide_false, Bool.and_true, Bool.true_and, Bool.or_false, Bool.false_or, Bool.or_true, Bool.true_or, Bool.and_false, Bool.false_and, beq_self_eq_true, F92, cmpD, e1, e2]
  | succ deep ih =>
    intro room cs s r h1 h2 hs
    obtain ⟨l, w, c1, s1, l1, l2, hw, hs1, e1⟩ := head_ok (K := k + deep + 1) (r := r) g h1 h2 (x2 := some (.int ((deep + 1 : Nat) : Int))) (x3 := some (.bl dr)) (cs := cs) hs
    have d0 : (0 : Int) < (deep : Int) + 1 := by omega
    by_cases hl : 0 < room - (l : Int)
    · obtain ⟨v, c2, s2, v0, v5, hs2, e2⟩ := draw_ok (k := k + deep + 2) (r := r) g.h22 (m := 5) (by decide) (by decide) (cs := c1) hs1
      have e2 : callN Γ (k + deep + 1 + 2) 22 [.ref 1, .int 5] (tp c1 s1 r) = .ok (.int v) (tp c2 s2 r) := e2
      by_cases hv : v < 4
      · obtain ⟨u, c3, s3, u0, u3, hs3, e3⟩ := draw_ok (k := k + deep + 2) (r := r ++ [.lst []]) g.h22 (m := 3) (by decide) (by decide) (cs := c2) hs2
        have e3 : callN Γ (k + deep + 1 + 2) 22 [.ref 1, .int 3] (tp c2 s2 (r ++ [.lst []])) = .ok (.int u) (tp c3 s3 (r ++ [.lst []])) := e3
        obtain ⟨n, hn⟩ : ∃ n : Nat, 1 + u = (n : Int) := ⟨(1 + u).toNat, by omega⟩
        obtain ⟨ks, c4, s4, left, x9, x10, gk, zk, dk, lk, nk, kk, hs4, e4⟩ := kids_loop (Γ := Γ) (r := r) (l := l) (w := w) (x1 := some (.int room)) g (K := k + deep + 1 + 2) (deep := deep) (dr := dr) (by omega) ih (L0 := room - l) (by omega) (by omega) (n := n) (by omega) (by omega) (cs := c3) hs3
        have bn : big (n : Int) = true := big_len (small_len' (by omega))
        refine ⟨.fork l w ks, c4, s4, [.lst (encs ks)], ?_, ?_, ?_, ?_, hs4, ?_⟩
        · simp only [good]; exact ⟨l1, hw, nk, by omega, gk⟩
        · simp only [size]; omega
        · simp only [dep]; omega
        · intro h; simp only [loss]; exact lk h
        · unfold B92 Z92 at e4
          rw [show k + (deep + 1) + 3 = (k + deep + 1 + 2) + 1 by omega, call_eq g.h92 rfl]
          simp -implicitDefEqProofs only [e_lit, e_var, e_glb, e_bin, e_bin1, e_bin2, e_neg, e_neg1, e_cmp, e_cmp1, e_cmp2, e_chn, e_chn1, e_chn2, e_chn3, e_chn4, e_isn, e_isn1, e_isn2, e_and, e_and1, e_and2, e_or, e_or1, e_or2, e_not, e_not1, e_ite, e_ite1, e_ite2, e_tup, e_tup1, e_lst, e_lst1, e_idx, e_idx1, e_idx2, e_slc, e_slc1, e_slc2, e_slc3, e_call, e_call1, e_prim, e_prim1, e_isi, e_isi1, e_isi2, e_meth, e_meth1, e_meth2, e_comp, e_comp1, e_tl, es_nil, es_cons, es_cons1, es_cons2, es_cons3, ep_nil, ep_cons, ep_cons1, eo_no, eo_so, eo_so1, ec_no, ec_so, ei_val, ei_val1, ei_rg, ei_rg1, ei_rg2, ei_rg3, ei_rg4, ei_enm, ei_enm1, ei_zip, ei_zip1, ei_zip2, ei_zip3, ei_rev, ei_rev1, c_nil, x_asg, x_asg1, x_asg2, x_asg3, x_par, x_par1, x_par3, x_par31, x_sub, x_sub1, x_sub2, x_sub3, x_sub4, x_sub5, x_aug, x_aug0, x_aug1, x_aug2, x_augS, x_augS1, x_augS2, x_augS3, x_augS4, x_augS5, x_ret, x_ret1, x_ret2, x_retN, x_ex, x_ex1, x_ex2, x_pass, x_brk, x_cnt, x_if, x_if1, x_if2, x_whl, x_fr, x_fr1, x_rs, x_tr, x_tr1, x_tr2, x_tr3, x_h, x_noX1, x_noX2, x_noX3, xs_nx, xs_rt, xs_bk, xs_ct, xs_ex, f_nil, t_nx, t_rt, t_exc, own_tl, own_int, own_bl, own_non, own_str, own_tup, own_ref, own_fl, xs_nil, xs_cons, start, bindT, bindTs, R.of_some, R.of_none, List.length_cons, List.length_nil, List.map_cons, List.map_nil, List.getElem?_cons_zero, List.getElem?_cons_succ, List.set_cons_zero, List.set_cons_succ, Nat.reduceAdd, Nat.reduceSub, List.cons_append, List.nil_append, List.append_nil, List.replicate, Nat.zero_add, reduceIte, Option.map_some, Option.map_none, fin_same, Bool.not_true, Bool.not_false, Bool.false_eq_true, tyD, primD, binD, sz0, sz1, sz2, sz3, sz4, sz5, sz6, sz7, sz8, nc0, nc1, nc2, nc3, nc4, nc5, nc6, nc7, nc8, Nat.reduceEqDiff, Option.bind_some, Int.reduceLE, Int.reduceLT, Int.reduceEq, Int.reduceToNat, Int.reduceAdd, Int.reduceSub, Int.reduceMul, Int.reduceNeg, Nat.reduceMul, ne_eq, not_false_eq_true, not_true_eq_false, decide_true, decide_false, Bool.and_true, Bool.true_and, Bool.or_false, Bool.false_or, Bool.or_true, Bool.true_or, Bool.and_false, Bool.false_and, beq_self_eq_true, cmpD, Int.natCast_add] at e1 e4
          simp -implicitDefEqProofs only [e_lit, e_var, e_glb, e_bin, e_bin1, e_bin2, e_neg, e_neg1, e_cmp, e_cmp1, e_cmp2, e_chn, e_chn1, e_chn2, e_chn3, e_chn4, e_isn, e_isn1, e_isn2, e_and, e_and1, e_and2, e_or, e_or1, e_or2, e_not, e_not1, e_ite, e_ite1, e_ite2, e_tup, e_tup1, e_lst, e_lst1, e_idx, e_idx1, e_idx2, e_slc, e_slc1, e_slc2, e_slc3, e_call, e_call1, e_prim, e_prim1, e_isi, e_isi1, e_isi2, e_meth, e_meth1, e_meth2, e_comp, e_comp1, e_tl, es_nil, es_cons, es_cons1, es_cons2, es_cons3, ep_nil, ep_cons, ep_cons1, eo_no, eo_so, eo_so1, ec_no, ec_so, ei_val, ei_val1, ei_rg, ei_rg1, ei_rg2, ei_rg3, ei_rg4, ei_enm, ei_enm1, ei_zip, ei_zip1, ei_zip2, ei_zip3, ei_rev, ei_rev1, c_nil, x_asg, x_asg1, x_asg2, x_asg3, x_par, x_par1, x_par3, x_par31, x_sub, x_sub1, x_sub2, x_sub3, x_sub4, x_sub5, x_aug, x_aug0, x_aug1, x_aug2, x_augS, x_augS1, x_augS2, x_augS3, x_augS4, x_augS5, x_ret, x_ret1, x_ret2, x_retN, x_ex, x_ex1, x_ex2, x_pass, x_brk, x_cnt, x_if, x_if1, x_if2, x_whl, x_fr, x_fr1, x_rs, x_tr, x_tr1, x_tr2, x_tr3, x_h, x_noX1, x_noX2, x_noX3, xs_nx, xs_rt, xs_bk, xs_ct, xs_ex, f_nil, t_nx, t_rt, t_exc, own_tl, own_int, own_bl, own_non, own_str, own_tup, own_ref, own_fl, xs_nil, xs_cons, start, bindT, bindTs, R.of_some, R.of_none, List.length_cons, List.length_nil, List.map_cons, List.map_nil, List.getElem?_cons_zero, List.getElem?_cons_succ, List.set_cons_zero, List.set_cons_succ, Nat.reduceAdd, Nat.reduceSub, List.cons_append, List.nil_append, List.append_nil, List.replicate, Nat.zero_add, reduceIte, Option.map_some, Option.map_none, fin_same, Bool.not_true, Bool.not_false, Bool.false_eq_true, tyD, primD, binD, sz0, sz1, sz2, sz3, sz4, sz5, sz6, sz7, sz8, nc0, nc1, nc2, nc3, nc4, nc5, nc6, nc7, nc8, Nat.reduceEqDiff, Option.bind_some, Int.reduceLE, Int.reduceLT, Int.reduceEq, Int.reduceToNat, Int.reduceAdd, Int.reduceSub, Int.reduceMul, Int.reduceNeg, Nat.reduceMul, ne_eq, not_false_eq_true, not_true_eq_false, decide_true, decide_false, Bool.and_true, Bool.true_and, Bool.or_false, Bool.false_or, Bool.or_true, Bool.true_or, Bool.and_false, Bool.false_and, beq_self_eq_true, F92, cmpD, e1, Int.natCast_add, decide_eq_true d0, decide_eq_true hl, e2, fin_tp0 (iv _ _), decide_eq_true hv, tpl, tpa, e3, hn, bn, Int.toNat_natCast, e4, seqAny, seqOf, tp_last, own_sh, Pp.enc]
      · obtain ⟨p, c3, s3, gp, sp, dp, lp, hs3, e3⟩ := tail_ok (k := k + deep + 1) (r := r) g l1 hw (x1 := some (.int room)) (x2 := some (.int ((deep + 1 : Nat) : Int))) (x4 := some (.int (room - l))) (dr := dr) (cs := c2) hs2
        refine ⟨p, c3, s3, [], gp, by omega, by omega, lp, hs3, ?_⟩
        unfold T92 at e3
        rw [show k + (deep + 1) + 3 = (k + deep + 1 + 2) + 1 by omega, call_eq g.h92 rfl, List.append_nil]
        simp -implicitDefEqProofs only [e_lit, e_var, e_glb, e_bin, e_bin1, e_bin2, e_neg, e_neg1, e_cmp, e_cmp1, e_cmp2, e_chn, e_chn1, e_chn2, e_chn3, e_chn4, e_isn, e_isn1, e_isn2, e_and, e_and1, e_and2, e_or, e_or1, e_or2, e_not, e_not1, e_ite, e_ite1, e_ite2, e_tup, e_tup1, e_lst, e_lst1, e_idx, e_idx1, e_idx2, e_slc, e_slc1, e_slc2, e_slc3, e_call, e_call1, e_prim, e_prim1, e_isi, e_isi1, e_isi2, e_meth, e_meth1, e_meth2, e_comp, e_comp1, e_tl, es_nil, es_cons, es_cons1, es_cons2, es_cons3, ep_nil, ep_cons, ep_cons1, eo_no, eo_so, eo_so1, ec_no, ec_so, ei_val, ei_val1, ei_rg, ei_rg1, ei_rg2, ei_rg3, ei_rg4, ei_enm, ei_enm1, ei_zip, ei_zip1, ei_zip2, ei_zip3, ei_rev, ei_rev1, c_nil, x_asg, x_asg1, x_asg2, x_asg3, x_par, x_par1, x_par3, x_par31, x_sub, x_sub1, x_sub2, x_sub3, x_sub4, x_sub5, x_aug, x_aug0, x_aug1, x_aug2, x_augS, x_augS1, x_augS2, x_augS3, x_augS4, x_augS5, x_ret, x_ret1, x_ret2, x_retN, x_ex, x_ex1, x_ex2, x_pass, x_brk, x_cnt, x_if, x_if1, x_if2, x_whl, x_fr, x_fr1, x_rs, x_tr, x_tr1, x_tr2, x_tr3, x_h, x_noX1, x_noX2, x_noX3, xs_nx, xs_rt, xs_bk, xs_ct, xs_ex, f_nil, t_nx, t_rt, t_exc, own_tl, own_int, own_bl, own_non, own_str, own_tup, own_ref, own_fl, xs_nil, xs_cons, start, bindT, bindTs, R.of_some, R.of_none, List.length_cons, List.length_nil, List.map_cons, List.map_nil, List.getElem?_cons_zero, List.getElem?_cons_succ, List.set_cons_zero, List.set_cons_succ, Nat.reduceAdd, Nat.reduceSub, List.cons_append, List.nil_append, List.append_nil, List.replicate, Nat.zero_add, reduceIte, Option.map_some, Option.map_none, fin_same, Bool.not_true, Bool.not_false, Bool.false_eq_true, tyD, primD, binD, sz0, sz1, sz2, sz3, sz4, sz5, sz6, sz7, sz8, nc0, nc1, nc2, nc3, nc4, nc5, nc6, nc7, nc8, Nat.reduceEqDiff, Option.bind_some, Int.reduceLE, Int.reduceLT, Int.reduceEq, Int.reduceToNat, Int.reduceAdd, Int.reduceSub, Int.reduceMul, Int.reduceNeg, Nat.reduceMul, ne_eq, not_false_eq_true, not_true_eq_false, decide_true, decide_false, Bool.and_true, Bool.true_and, Bool.or_false, Bool.false_or, Bool.or_true, Bool.true_or, Bool.and_false, Bool.false_and, beq_self_eq_true, cmpD, Int.natCast_add] at e1 e3
        simp -implicitDefEqProofs only [e_lit, e_var, e_glb, e_bin, e_bin1, e_bin2, e_neg, e_neg1, e_cmp, e_cmp1, e_cmp2, e_chn, e_chn1, e_chn2, e_chn3, e_chn4, e_isn, e_isn1, e_isn2, e_and, e_and1, e_and2, e_or, e_or1, e_or2, e_not, e_not1, e_ite, e_ite1, e_ite2, e_tup, e_tup1, e_lst, e_lst1, e_idx, e_idx1, e_idx2, e_slc, e_slc1, e_slc2, e_slc3, e_call, e_call1, e_prim, e_prim1, e_isi, e_isi1, e_isi2, e_meth, e_meth1, e_meth2, e_comp, e_comp1, e_tl, es_nil, es_cons, es_cons1, es_cons2, es_cons3, ep_nil, ep_cons, ep_cons1, eo_no, eo_so, eo_so1, ec_no, ec_so, ei_val, ei_val1, ei_rg, ei_rg1, ei_rg2, ei_rg3, ei_rg4, ei_enm, ei_enm1, ei_zip, ei_zip1, ei_zip2, ei_zip3, ei_rev, ei_rev1, c_nil, x_asg, x_asg1, x_asg2, x_asg3, x_par, x_par1, x_par3, x_par31, x_sub, x_sub1, x_sub2, x_sub3, x_sub4, x_sub5, x_aug, x_aug0, x_aug1, x_aug2, x_augS, x_augS1, x_augS2, x_augS3, x_augS4, x_augS5, x_ret, x_ret1, x_ret2, x_retN, x_ex, x_ex1, x_ex2, x_pass, x_brk, x_cnt, x_if, x_if1, x_if2, x_whl, x_fr, x_fr1, x_rs, x_tr, x_tr1, x_tr2, x_tr3, x_h, x_noX1, x_noX2, x_noX3, xs_nx, xs_rt, xs_bk, xs_ct, xs_ex, f_nil, t_nx, t_rt, t_exc, own_tl, own_int, own_bl, own_non, own_str, own_tup, own_ref, own_fl, xs_nil, xs_cons, start, bindT, bindTs, R.of_some, R.of_none, List.length_cons, List.length_nil, List.map_cons, List.map_nil, List.getElem?_cons_zero, List.getElem?_cons_succ, List.set_cons_zero, List.set_cons_succ, Nat.reduceAdd, Nat.reduceSub, List.cons_append, List.nil_append, List.append_nil, List.replicate, Nat.zero_add, reduceIte, Option.map_some, Option.map_none, fin_same, Bool.not_true, Bool.not_false, Bool.false_eq_true, tyD, primD, binD, sz0, sz1, sz2, sz3, sz4, sz5, sz6, sz7, sz8, nc0, nc1, nc2, nc3, nc4, nc5, nc6, nc7, nc8, Nat.reduceEqDiff, Option.bind_some, Int.reduceLE, Int.reduceLT, Int.reduceEq, Int.reduceToNat, Int.reduceAdd, Int.reduceSub, Int.reduceMul, Int.reduceNeg, Nat.reduceMul, ne_eq, not_false_eq_true, not_true_eq_false, decide_true, decide_false, Bool.and_true, Bool.true_and, Bool.or_false, Bool.false_or, Bool.or_true, Bool.true_or, Bool.and_false, Bool.false_and, beq_self_eq_true, F92, cmpD, e1, Int.natCast_add, decide_eq_true d0, decide_eq_true hl, e2, fin_tp0 (iv _ _), decide_eq_false hv, e3]
    · obtain ⟨p, c3, s3, gp, sp, dp, lp, hs3, e3⟩ := tail_ok (k := k + deep + 1) (r := r) g l1 hw (x1 := some (.int room)) (x2 := some (.int ((deep + 1 : Nat) : Int))) (x4 := some (.int (room - l))) (dr := dr) (cs := c1) hs1
      refine ⟨p, c3, s3, [], gp, by omega, by omega, lp, hs3, ?_⟩
      unfold T92 at e3
      rw [show k + (deep + 1) + 3 = (k + deep + 1 + 2) + 1 by omega, call_eq g.h92 rfl, List.append_nil]
      simp -implicitDefEqProofs only [e_lit, e_var, e_glb, e_bin, e_bin1, e_bin2, e_neg, e_neg1, e_cmp, e_cmp1, e_cmp2, e_chn, e_chn1, e_chn2, e_chn3, e_chn4, e_isn, e_isn1, e_isn2, e_and, e_and1, e_and2, e_or, e_or1, e_or2, e_not, e_not1, e_ite, e_ite1, e_ite2, e_tup, e_tup1, e_lst, e_lst1, e_idx, e_idx1, e_idx2, e_slc, e_slc1, e_slc2, e_slc3, e_call, e_call1, e_prim, e_prim1, e_isi, e_isi1, e_isi2, e_meth, e_meth1, e_meth2, e_comp, e_comp1, e_tl, es_nil, es_cons, es_cons1, es_cons2, es_cons3, ep_nil, ep_cons, ep_cons1, eo_no, eo_so, eo_so1, ec_no, ec_so, ei_val, ei_val1, ei_rg, ei_rg1, ei_rg2, ei_rg3, ei_rg4, ei_enm, ei_enm1, ei_zip, ei_zip1, ei_zip2, ei_zip3, ei_rev, ei_rev1, c_nil, x_asg, x_asg1, x_asg2, x_asg3, x_par, x_par1, x_par3, x_par31, x_sub, x_sub1, x_sub2, x_sub3, x_sub4, x_sub5, x_aug, x_aug0, x_aug1, x_aug2, x_augS, x_augS1, x_augS2, x_augS3, x_augS4, x_augS5, x_ret, x_ret1, x_ret2, x_retN, x_ex, x_ex1, x_ex2, x_pass, x_brk, x_cnt, x_if, x_if1, x_if2, x_whl, x_fr, x_fr1, x_rs, x_tr, x_tr1, x_tr2, x_tr3, x_h, x_noX1, x_noX2, x_noX3, xs_nx, xs_rt, xs_bk, xs_ct, xs_ex, f_nil, t_nx, t_rt, t_exc, own_tl, own_int, own_bl, own_non, own_str, own_tup, own_ref, own_fl, xs_nil, xs_cons, start, bindT, bindTs, R.of_some, R.of_none, List.length_cons, List.length_nil, List.map_cons, List.map_nil, List.getElem?_cons_zero, List.getElem?_cons_succ, List.set_cons_zero, List.set_cons_succ, Nat.reduceAdd, Nat.reduceSub, List.cons_append, List.nil_append, List.append_nil, List.replicate, Nat.zero_add, reduceIte, Option.map_some, Option.map_none, fin_same, Bool.not_true, Bool.not_false, Bool.false_eq_true, tyD, primD, binD, sz0, sz1, sz2, sz3, sz4, sz5, sz6, sz7, sz8, nc0, nc1, nc2, nc3, nc4, nc5, nc6, nc7, nc8, Nat.reduceEqDiff, Option.bind_some, Int.reduceLE, Int.reduceLT, Int.reduceEq, Int.reduceToNat, Int.reduceAdd, Int.reduceSub, Int.reduceMul, Int.reduceNeg, Nat.reduceMul, ne_eq, not_false_eq_true, not_true_eq_false, decide_true, decide_false, Bool.and_true, Bool.true_and, Bool.or_false, Bool.false_or, Bool.or_true, Bool.true_or, Bool.and_false, Bool.false_and, beq_self_eq_true, cmpD, Int.natCast_add] at e1 e3
      simp -implicitDefEqProofs only [e_lit, e_var, e_glb, e_bin, e_bin1, e_bin2, e_neg, e_neg1, e_cmp, e_cmp1, e_cmp2, e_chn, e_chn1, e_chn2, e_chn3, e_chn4, e_isn, e_isn1, e_isn2, e_and, e_and1, e_and2, e_or, e_or1, e_or2, e_not, e_not1, e_ite, e_ite1, e_ite2, e_tup, e_tup1, e_lst, e_lst1, e_idx, e_idx1, e_idx2, e_slc, e_slc1, e_slc2, e_slc3, e_call, e_call1, e_prim, e_prim1, e_isi, e_isi1, e_isi2, e_meth, e_meth1, e_meth2, e_comp, e_comp1, e_tl, es_nil, es_cons, es_cons1, es_cons2, es_cons3, ep_nil, ep_cons, ep_cons1, eo_no, eo_so, eo_so1, ec_no, ec_so, ei_val, ei_val1, ei_rg, ei_rg1, ei_rg2, ei_rg3, ei_rg4, ei_enm, ei_enm1, ei_zip, ei_zip1, ei_zip2, ei_zip3, ei_rev, ei_rev1, c_nil, x_asg, x_asg1, x_asg2, x_asg3, x_par, x_par1, x_par3, x_par31, x_sub, x_sub1, x_sub2, x_sub3, x_sub4, x_sub5, x_aug, x_aug0, x_aug1, x_aug2, x_augS, x_augS1, x_augS2, x_augS3, x_augS4, x_augS5, x_ret, x_ret1, x_ret2, x_retN, x_ex, x_ex1, x_ex2, x_pass, x_brk, x_cnt, x_if, x_if1, x_if2, x_whl, x_fr, x_fr1, x_rs, x_tr, x_tr1, x_tr2, x_tr3, x_h, x_noX1, x_noX2, x_noX3, xs_nx, xs_rt, xs_bk, xs_ct, xs_ex, f_nil, t_nx, t_rt, t_exc, own_tl, own_int, own_bl, own_non, own_str, own_tup, own_ref, own_fl, xs_nil, xs_cons, start, bindT, bindTs, R.of_some, R.of_none, List.length_cons, List.length_nil, List.map_cons, List.map_nil, List.getElem?_cons_zero, List.getElem?_cons_succ, List.set_cons_zero, List.set_cons_succ, Nat.reduceAdd, Nat.reduceSub, List.cons_append, List.nil_append, List.append_nil, List.replicate, Nat.zero_add, reduceIte, Option.map_some, Option.map_none, fin_same, Bool.not_true, Bool.not_false, Bool.false_eq_true, tyD, primD, binD, sz0, sz1, sz2, sz3, sz4, sz5, sz6, sz7, sz8, nc0, nc1, nc2, nc3, nc4, nc5, nc6, nc7, nc8, Nat.reduceEqDiff, Option.bind_some, Int.reduceLE, Int.reduceLT, Int.reduceEq, Int.reduceToNat, Int.reduceAdd, Int.reduceSub, Int.reduceMul, Int.reduceNeg, Nat.reduceMul, ne_eq, not_false_eq_true, not_true_eq_false, decide_true, decide_false, Bool.and_true, Bool.true_and, Bool.or_false, Bool.false_or, Bool.or_true, Bool.true_or, Bool.and_false, Bool.false_and, beq_self_eq_true, F92, cmpD, e1, Int.natCast_add, decide_eq_true d0, decide_eq_false hl, e3]
end
end Ev

set_option Elab.async false
set_option linter.all false
set_option maxRecDepth 100000
/-! # Part D: paths of pipes -/
namespace Ev
open Law
open Pp
namespace Pp
def kids : Pp → List Pp
  | .fork _ _ ks => ks
  | _ => []
def len : Pp → Nat
  | .shut l _ => l
  | .opn l _ => l
  | .drain l _ _ => l
  | .fork l _ _ => l
def wid : Pp → Rat
  | .shut _ w => w
  | .opn _ w => w
  | .drain _ w _ => w
  | .fork _ w _ => w
def endD : Pp → D
  | .shut _ _ => .tup [.str "shut"]
  | .opn _ _ => .tup [.str "open"]
  | .drain _ _ d => .tup [.str "drain", sh d]
  | .fork _ _ ks => .tup [.str "fork", .tup (encs ks)]
theorem enc_eq (p : Pp) : enc p = .tup [.int p.len, sh p.wid, p.endD] := by cases p <;> simp [enc, len, wid, endD]
def at' : Pp → List Nat → Option Pp
  | p, [] => some p
  | p, i :: r => match p.kids[i]? with
    | some q => at' q r
    | none => none
mutual
def paths : Pp → List (List Nat)
  | .shut _ _ => [[]]
  | .opn _ _ => [[]]
  | .drain _ _ _ => [[]]
  | .fork _ _ ks => [] :: pathsK 0 ks
def pathsK : Nat → List Pp → List (List Nat)
  | _, [] => []
  | i, p :: ps => (paths p).map (i :: ·) ++ pathsK (i + 1) ps
end
theorem paths_eq (p : Pp) : paths p = [] :: pathsK 0 p.kids := by cases p <;> simp [paths, pathsK, kids]
theorem pathsK_app : ∀ (ks : List Pp) (i : Nat) (q : Pp), pathsK i (ks ++ [q]) = pathsK i ks ++ (paths q).map ((i + ks.length) :: ·)
  | [], i, q => by simp [pathsK]
  | p :: ps, i, q => by
    simp only [List.cons_append, pathsK, pathsK_app ps (i + 1) q, List.append_assoc, List.length_cons]
    rw [show i + 1 + ps.length = i + (ps.length + 1) by omega]
theorem good_kids {p : Pp} (h : good p) : goods p.kids := by
  cases p <;> simp [kids, goods]
  simp only [good] at h
  exact h.2.2.2.2
theorem kids_few {p : Pp} (h : good p) : p.kids.length ≤ 6 := by
  cases p <;> simp [kids]
  simp only [good] at h
  exact h.2.2.2.1
theorem dep_kids {p q : Pp} (h : q ∈ p.kids) : dep q + 1 ≤ dep p := by
  cases p <;> simp [kids] at h
  simp only [dep]
  have := deps_mem h
  omega
theorem size_eq (p : Pp) : size p = p.len + sizes p.kids := by cases p <;> simp [size, sizes, len, kids]
theorem len_pos {p : Pp} (h : good p) : 1 ≤ p.len := by
  cases p <;> simp only [good] at h <;> simp only [len] <;> omega
mutual
theorem paths_few : ∀ p : Pp, good p → (paths p).length ≤ size p
  | .shut _ _, h => by simp only [good] at h; simp [paths, size]; omega
  | .opn _ _, h => by simp only [good] at h; simp [paths, size]; omega
  | .drain _ _ _, h => by simp only [good] at h; simp [paths, size]; omega
  | .fork _ _ ks, h => by
    simp only [good] at h
    have := pathsK_few ks 0 h.2.2.2.2
    simp [paths, size]; omega
theorem pathsK_few : ∀ (ks : List Pp) (i : Nat), goods ks → (pathsK i ks).length ≤ sizes ks
  | [], i, _ => by simp [pathsK]
  | p :: ps, i, h => by
    simp only [goods] at h
    have h1 := paths_few p h.1
    have h2 := pathsK_few ps (i + 1) h.2
    simp [pathsK, sizes]; omega
end
end Pp
def encP (path : List Nat) : D := .tup (path.map fun (i : Nat) => D.int (i : Int))
theorem encP_blw (n : Nat) (p : List Nat) : (encP p).blw n = true := by
  unfold encP
  simp only [D.blw]
  induction p with
  | nil => rfl
  | cons a p ih => simp [D.blws, D.blw, ih]
theorem encL_blw (n : Nat) (l : List (List Nat)) : D.blws n (l.map encP) = true := by
  induction l with
  | nil => rfl
  | cons a l ih => simp [D.blws, encP_blw, ih]
theorem own_encP {η : Hep} {p : List Nat} : own (encP p) η = .ok (encP p) η := rfl
theorem enmGet : ∀ (l : List D) (k i : Nat), (enm k l)[i]? = l[i]?.map fun x => .tup [.int ((k + i : Nat) : Int), x]
  | [], k, i => by simp [enm]
  | a :: l, k, 0 => by simp [enm]
  | a :: l, k, i + 1 => by
    simp only [enm, List.getElem?_cons_succ, enmGet l (k + 1) i]
    rw [show k + 1 + i = k + (i + 1) by omega]
theorem enmLen : ∀ (l : List D) (k : Nat), (enm k l).length = l.length
  | [], k => rfl
  | a :: l, k => by simp [enm, enmLen l]
theorem fin_ref {η e : Hep} {j : Nat} {xs : List D} (h : e[j]? = some (.lst xs)) (hb : D.blws η.length xs = true) : fin η (.ok (.ref (η.length + j)) (η ++ e)) = .ok (.tl xs) η := by
  have hx : (η ++ e)[η.length + j]? = some (.lst xs) := by rw [List.getElem?_append_right (by omega)]; simpa using h
  have nb : (D.ref (η.length + j)).blw η.length = false := by simp [D.blw]
  unfold fin
  simp only [okCells_pre, if_true, nb, hx, hb, List.take_left, Bool.false_eq_true, if_false]
section
variable {Γ : Nat → Option Fd} {η : Hep}
theorem one_add {i : Nat} {p : List Nat} (h : p.length < 1000) : binD .add (.tup [.int (i : Int)]) (encP p) η = some (encP (i :: p)) := by
  unfold encP
  have : (1000 : Nat) ≤ PySem.sizeLine := by decide
  simp only [binD]
  rw [if_pos (by simp; omega)]
  rfl
theorem kids_ok {k : Nat} (h : Γ 82 = some F82) (p : Pp) : callN Γ (k + 1) 82 [enc p] η = .ok (.tup (encs p.kids)) η := by
  rw [call_eq h rfl]
  cases p <;> simp only [enc, kids, encs] <;> simp -implicitDefEqProofs only [e_lit, e_var, e_glb, e_bin, e_bin1, e_bin2, e_neg, e_neg1, e_cmp, e_cmp1, e_cmp2, e_chn, e_chn1, e_chn2, e_chn3, e_chn4, e_isn, e_isn1, e_isn2, e_and, e_and1, e_and2, e_or, e_or1, e_or2, e_not, e_not1, e_ite, e_ite1, e_ite2, e_tup, e_tup1, e_lst, e_lst1, e_idx, e_idx1, e_idx2, e_slc, e_slc1, e_slc2, e_slc3, e_call, e_call1, e_prim, e_prim1, e_isi, e_isi1, e_isi2, e_meth, e_meth1, e_meth2, e_comp, e_comp1, e_tl, es_nil, es_cons, es_cons1, es_cons2, es_cons3, ep_nil, ep_cons, ep_cons1, eo_no, eo_so, eo_so1, ec_no, ec_so, ei_val, ei_val1, ei_rg, ei_rg1, ei_rg2, ei_rg3, ei_rg4, ei_enm, ei_enm1, ei_zip, ei_zip1, ei_zip2, ei_zip3, ei_rev, ei_rev1, c_nil, x_asg, x_asg1, x_asg2, x_asg3, x_par, x_par1, x_par3, x_par31, x_sub, x_sub1, x_sub2, x_sub3, x_sub4, x_sub5, x_aug, x_aug0, x_aug1, x_aug2, x_augS, x_augS1, x_augS2, x_augS3, x_augS4, x_augS5, x_ret, x_ret1, x_ret2, x_retN, x_ex, x_ex1, x_ex2, x_pass, x_brk, x_cnt, x_if, x_if1, x_if2, x_whl, x_fr, x_fr1, x_rs, x_tr, x_tr1, x_tr2, x_tr3, x_h, x_noX1, x_noX2, x_noX3, xs_nx, xs_rt, xs_bk, xs_ct, xs_ex, f_nil, t_nx, t_rt, t_exc, own_tl, own_int, own_bl, own_non, own_str, own_tup, own_ref, own_fl, xs_nil, xs_cons, start, bindT, bindTs, R.of_some, R.of_none, List.length_cons, List.length_nil, List.map_cons, List.map_nil, List.getElem?_cons_zero, List.getElem?_cons_succ, List.set_cons_zero, List.set_cons_succ, Nat.reduceAdd, Nat.reduceSub, List.cons_append, List.nil_append, List.append_nil, List.replicate, Nat.zero_add, reduceIte, Option.map_some, Option.map_none, fin_same, Bool.not_true, Bool.not_false, Bool.false_eq_true, tyD, primD, binD, sz0, sz1, sz2, sz3, sz4, sz5, sz6, sz7, sz8, nc0, nc1, nc2, nc3, nc4, nc5, nc6, nc7, nc8, Nat.reduceEqDiff, Option.bind_some, Int.reduceLE, Int.reduceLT, Int.reduceEq, Int.reduceToNat, Int.reduceAdd, Int.reduceSub, Int.reduceMul, Int.reduceNeg, Nat.reduceMul, ne_eq, not_false_eq_true, not_true_eq_false, decide_true, decide_false, Bool.and_true, Bool.true_and, Bool.or_false, Bool.false_or, Bool.or_true, Bool.true_or, Bool.and_false, Bool.false_and, beq_self_eq_true, F82, idx_tup, at0, at1, at2, cmpD, eqD_str, shut_ne, open_ne, drain_ne]
theorem lkids_ok {k : Nat} (h : Γ 94 = some F94) (p : Pp) : callN Γ (k + 1) 94 [enc p] η = .ok (.tup (encs p.kids)) η := by
  rw [call_eq h rfl]
  cases p <;> simp only [enc, kids, encs] <;> simp -implicitDefEqProofs only [e_lit, e_var, e_glb, e_bin, e_bin1, e_bin2, e_neg, e_neg1, e_cmp, e_cmp1, e_cmp2, e_chn, e_chn1, e_chn2, e_chn3, e_chn4, e_isn, e_isn1, e_isn2, e_and, e_and1, e_and2, e_or, e_or1, e_or2, e_not, e_not1, e_ite, e_ite1, e_ite2, e_tup, e_tup1, e_lst, e_lst1, e_idx, e_idx1, e_idx2, e_slc, e_slc1, e_slc2, e_slc3, e_call, e_call1, e_prim, e_prim1, e_isi, e_isi1, e_isi2, e_meth, e_meth1, e_meth2, e_comp, e_comp1, e_tl, es_nil, es_cons, es_cons1, es_cons2, es_cons3, ep_nil, ep_cons, ep_cons1, eo_no, eo_so, eo_so1, ec_no, ec_so, ei_val, ei_val1, ei_rg, ei_rg1, ei_rg2, ei_rg3, ei_rg4, ei_enm, ei_enm1, ei_zip, ei_zip1, ei_zip2, ei_zip3, ei_rev, ei_rev1, c_nil, x_asg, x_asg1, x_asg2, x_asg3, x_par, x_par1, x_par3, x_par31, x_sub, x_sub1, x_sub2, x_sub3, x_sub4, x_sub5, x_aug, x_aug0, x_aug1, x_aug2, x_augS, x_augS1, x_augS2, x_augS3, x_augS4, x_augS5, x_ret, x_ret1, x_ret2, x_retN, x_ex, x_ex1, x_ex2, x_pass, x_brk, x_cnt, x_if, x_if1, x_if2, x_whl, x_fr, x_fr1, x_rs, x_tr, x_tr1, x_tr2, x_tr3, x_h, x_noX1, x_noX2, x_noX3, xs_nx, xs_rt, xs_bk, xs_ct, xs_ex, f_nil, t_nx, t_rt, t_exc, own_tl, own_int, own_bl, own_non, own_str, own_tup, own_ref, own_fl, xs_nil, xs_cons, start, bindT, bindTs, R.of_some, R.of_none, List.length_cons, List.length_nil, List.map_cons, List.map_nil, List.getElem?_cons_zero, List.getElem?_cons_succ, List.set_cons_zero, List.set_cons_succ, Nat.reduceAdd, Nat.reduceSub, List.cons_append, List.nil_append, List.append_nil, List.replicate, Nat.zero_add, reduceIte, Option.map_some, Option.map_none, fin_same, Bool.not_true, Bool.not_false, Bool.false_eq_true, tyD, primD, binD, sz0, sz1, sz2, sz3, sz4, sz5, sz6, sz7, sz8, nc0, nc1, nc2, nc3, nc4, nc5, nc6, nc7, nc8, Nat.reduceEqDiff, Option.bind_some, Int.reduceLE, Int.reduceLT, Int.reduceEq, Int.reduceToNat, Int.reduceAdd, Int.reduceSub, Int.reduceMul, Int.reduceNeg, Nat.reduceMul, ne_eq, not_false_eq_true, not_true_eq_false, decide_true, decide_false, Bool.and_true, Bool.true_and, Bool.or_false, Bool.false_or, Bool.or_true, Bool.true_or, Bool.and_false, Bool.false_and, beq_self_eq_true, F94, idx_tup, at0, at1, at2, cmpD, eqD_str, shut_ne, open_ne, drain_ne]
/-- depth bounds the paths -/
theorem paths_short : ∀ (n : Nat) (p : Pp), dep p ≤ n → ∀ x ∈ paths p, x.length < n
  | 0, p, h => by have := dep_pos p; omega
  | n + 1, p, h => by
    intro x hx
    rw [paths_eq] at hx
    have key : ∀ (ks : List Pp) (i : Nat), (∀ q ∈ ks, dep q ≤ n) → ∀ y ∈ pathsK i ks, y.length < n + 1 := by
      intro ks
      induction ks with
      | nil => intro i _ y hy; simp [pathsK] at hy
      | cons q qs ih =>
        intro i hq y hy
        simp only [pathsK, List.mem_append, List.mem_map] at hy
        rcases hy with ⟨z, hz, rfl⟩ | hy
        · have := paths_short n q (hq q List.mem_cons_self) z hz
          simp; omega
        · exact ih (i + 1) (fun q' hq' => hq q' (List.mem_cons_of_mem _ hq')) y hy
    rcases List.mem_cons.mp hx with rfl | hx
    · simp
    · exact key p.kids 0 (fun q hq => by have := dep_kids hq; omega) x hx
def I103 : Ss := (.cons (.ex (.meth .append (.var 1) (.cons (.bin .add (.tup (.cons (.var 2) .nil)) (.var 4)) .nil)))
 .nil)
def O103 : Ss := (.cons (.fr (.nm 4) (.val (.call 103 (.cons (.var 3) .nil))) (.cons (.ex (.meth .append (.var 1) (.cons (.bin .add (.tup (.cons (.var 2) .nil)) (.var 4)) .nil)))
 .nil))
 .nil)

def O95 : Ss := (.cons (.asg (.nm 1) (.bin .add (.var 1) (.comp (.bin .add (.tup (.cons (.var 2) .nil)) (.var 4)) (.nm 4) (.val (.call 95 (.cons (.var 3) .nil))) .no [4])))
 .nil)

/-- one kid's paths are put behind -/
theorem put_loop {C : Nat → List D → Hep → R D} {i : Nat} {x0 x3 : Option D} : ∀ (l : List (List Nat)) (acc : List D) (x4 : Option D), (∀ y ∈ l, y.length < 1000) → acc.length + l.length ≤ 2000 → ∃ x4', fE C I103 (.nm 4) [] (l.map encP) [x0, some (.ref η.length), some (.int i), x3, x4] (η ++ [.lst acc]) =
    .nx [x0, some (.ref η.length), some (.int i), x3, x4'] (η ++ [.lst (acc ++ l.map fun y => encP (i :: y))])
  | [], acc, x4, _, _ => ⟨x4, by simp; rfl⟩
  | y :: l, acc, x4, h, hl => by
    rw [List.length_cons] at hl
    obtain ⟨x4', e⟩ := put_loop (x0 := x0) (x3 := x3) (C := C) (i := i) l (acc ++ [encP (i :: y)]) (some (encP y)) (fun z hz => h z (List.mem_cons_of_mem _ hz)) (by simp; omega)
    refine ⟨x4', ?_⟩
    have sl : acc.length < PySem.sizeLine := by
      have : (2000 : Nat) ≤ PySem.sizeLine := by decide
      omega
    have oa := one_add (η := η ++ [.lst acc]) (i := i) (h y List.mem_cons_self)
    have g1 : (η ++ [Ob.lst acc])[η.length]? = some (.lst acc) := by simp
    have g2 : (η ++ [Ob.lst acc]).set η.length (.lst (acc ++ [encP (i :: y)])) = η ++ [.lst (acc ++ [encP (i :: y)])] := by
      rw [List.set_append_right _ _ (Nat.le_refl _)]; simp
    rw [List.map_cons, f_nx (ρ1 := [x0, some (.ref η.length), some (.int i), x3, some (encP y)]) (ρ2 := [x0, some (.ref η.length), some (.int i), x3, some (encP y)]) (η1 := η ++ [.lst (acc ++ [encP (i :: y)])]) rfl (by
      unfold I103
      simp only [binD] at oa
      simp -implicitDefEqProofs only [e_lit, e_var, e_glb, e_bin, e_bin1, e_bin2, e_neg, e_neg1, e_cmp, e_cmp1, e_cmp2, e_chn, e_chn1, e_chn2, e_chn3, e_chn4, e_isn, e_isn1, e_isn2, e_and, e_and1, e_and2, e_or, e_or1, e_or2, e_not, e_not1, e_ite, e_ite1, e_ite2, e_tup, e_tup1, e_lst, e_lst1, e_idx, e_idx1, e_idx2, e_slc, e_slc1, e_slc2, e_slc3, e_call, e_call1, e_prim, e_prim1, e_isi, e_isi1, e_isi2, e_meth, e_meth1, e_meth2, e_comp, e_comp1, e_tl, es_nil, es_cons, es_cons1, es_cons2, es_cons3, ep_nil, ep_cons, ep_cons1, eo_no, eo_so, eo_so1, ec_no, ec_so, ei_val, ei_val1, ei_rg, ei_rg1, ei_rg2, ei_rg3, ei_rg4, ei_enm, ei_enm1, ei_zip, ei_zip1, ei_zip2, ei_zip3, ei_rev, ei_rev1, c_nil, x_asg, x_asg1, x_asg2, x_asg3, x_par, x_par1, x_par3, x_par31, x_sub, x_sub1, x_sub2, x_sub3, x_sub4, x_sub5, x_aug, x_aug0, x_aug1, x_aug2, x_augS, x_augS1, x_augS2, x_augS3, x_augS4, x_augS5, x_ret, x_ret1, x_ret2, x_retN, x_ex, x_ex1, x_ex2, x_pass, x_brk, x_cnt, x_if, x_if1, x_if2, x_whl, x_fr, x_fr1, x_rs, x_tr, x_tr1, x_tr2, x_tr3, x_h, x_noX1, x_noX2, x_noX3, xs_nx, xs_rt, xs_bk, xs_ct, xs_ex, f_nil, t_nx, t_rt, t_exc, own_tl, own_int, own_bl, own_non, own_str, own_tup, own_ref, own_fl, xs_nil, xs_cons, start, bindT, bindTs, R.of_some, R.of_none, List.length_cons, List.length_nil, List.map_cons, List.map_nil, List.getElem?_cons_zero, List.getElem?_cons_succ, List.set_cons_zero, List.set_cons_succ, Nat.reduceAdd, Nat.reduceSub, List.cons_append, List.nil_append, List.append_nil, List.replicate, Nat.zero_add, reduceIte, Option.map_some, Option.map_none, fin_same, Bool.not_true, Bool.not_false, Bool.false_eq_true, tyD, primD, binD, sz0, sz1, sz2, sz3, sz4, sz5, sz6, sz7, sz8, nc0, nc1, nc2, nc3, nc4, nc5, nc6, nc7, nc8, Nat.reduceEqDiff, Option.bind_some, Int.reduceLE, Int.reduceLT, Int.reduceEq, Int.reduceToNat, Int.reduceAdd, Int.reduceSub, Int.reduceMul, Int.reduceNeg, Nat.reduceMul, ne_eq, not_false_eq_true, not_true_eq_false, decide_true, decide_false, Bool.and_true, Bool.true_and, Bool.or_false, Bool.false_or, Bool.or_true, Bool.true_or, Bool.and_false, Bool.false_and, beq_self_eq_true, oa, own_encP, methD, g1, sl, g2]) rfl, e]
    simp
theorem take_kids {ks : List Pp} {i : Nat} {q : Pp} (h : ks[i]? = some q) : ks.take (i + 1) = ks.take i ++ [q] := by
  rw [List.take_add_one, h]; rfl
theorem pathsK_step {ks : List Pp} {i : Nat} {q : Pp} (h : ks[i]? = some q) : pathsK 0 (ks.take (i + 1)) = pathsK 0 (ks.take i) ++ (paths q).map (i :: ·) := by
  have hl := (List.getElem?_eq_some_iff.mp h).1
  rw [take_kids h, pathsK_app, List.length_take, Nat.zero_add, Nat.min_eq_left (by omega)]
theorem pathsK_le {ks : List Pp} (i : Nat) (h : goods ks) : (pathsK 0 (ks.take i)).length ≤ sizes ks := by
  have h1 := pathsK_few ks 0 h
  have : ∀ (ks : List Pp) (j i : Nat), (pathsK j (ks.take i)).length ≤ (pathsK j ks).length := by
    intro ks
    induction ks with
    | nil => intro j i; simp [pathsK]
    | cons a as ih =>
      intro j i
      cases i with
      | zero => simp [pathsK]
      | succ i => simp only [List.take_succ_cons, pathsK, List.length_append, List.length_map]; have := ih (j + 1) i; omega
  exact Nat.le_trans (this ks 0 i) h1
theorem encs_get {ks : List Pp} {i : Nat} {x : D} (h : (enm 0 (encs ks))[i]? = some x) : ∃ q, ks[i]? = some q ∧ x = .tup [.int (i : Int), enc q] := by
  rw [enmGet, encs_map, List.getElem?_map] at h
  cases hq : ks[i]? with
  | none => rw [hq] at h; cases h
  | some q =>
    rw [hq] at h
    simp only [Option.map_some, Option.some.injEq] at h
    exact ⟨q, rfl, by rw [← h, Nat.zero_add]⟩
theorem sizes_mem : ∀ {ks : List Pp} {q : Pp}, q ∈ ks → size q ≤ sizes ks
  | [], q, h => by cases h
  | p :: ps, q, h => by
    simp only [sizes]
    rcases List.mem_cons.mp h with rfl | h
    · omega
    · have := sizes_mem h; omega
theorem allp_ok (h : Γ 103 = some F103) (h82 : Γ 82 = some F82) : ∀ (K : Nat) (p : Pp) (η : Hep), dep p ≤ K → dep p < 900 → good p → size p ≤ 900 → fin η (callN Γ (K + 1) 103 [enc p] η) = .ok (.tup ((paths p).map encP)) η
  | 0, p, η, hk, _, _, _ => by have := dep_pos p; omega
  | K + 1, p, η, hk, hd, gp, hs => by
    have gk := good_kids gp
    have sz := size_eq p
    obtain ⟨ρ', η', e, x2, x3, x4, rfl, rfl⟩ := f_all (C := callN Γ (K + 1)) (b := O103) (t := .tp [.nm 2, .nm 3]) (w := []) (fun i ρ η' => ∃ x2 x3 x4, ρ = [some (enc p), some (.ref η.length), x2, x3, x4] ∧ η' = η ++ [.lst (([] :: pathsK 0 (p.kids.take i)).map encP)]) (enm 0 (encs p.kids))
      (ρ := [some (enc p), some (.ref η.length), none, none, none]) (η := η ++ [.lst [.tup []]]) ⟨none, none, none, rfl, by simp [pathsK, encP]⟩ (by
        rintro i x hx ρ η' ⟨x2, x3, x4, rfl, rfl⟩
        obtain ⟨q, hq, rfl⟩ := encs_get hx
        have mq := List.mem_of_getElem? hq
        have dq := dep_kids mq
        have sq := sizes_mem mq
        have ih := allp_ok h h82 K q (η ++ [.lst (([] :: pathsK 0 (p.kids.take i)).map encP)]) (by omega) (by omega) (goods_mem gk q mq) (by omega)
        have pf := paths_few q (goods_mem gk q mq)
        have pl := pathsK_le (ks := p.kids) i gk
        obtain ⟨x4', el⟩ := put_loop (η := η) (C := callN Γ (K + 1)) (i := i) (x0 := some (enc p)) (x3 := some (enc q)) (paths q) (([] :: pathsK 0 (p.kids.take i)).map encP) x4 (fun y hy => by have := paths_short (dep q) q (Nat.le_refl _) y hy; omega) (by simp; omega)
        have nx : ([] :: pathsK 0 (p.kids.take (i + 1))).map encP = ([] :: pathsK 0 (p.kids.take i)).map encP ++ (paths q).map fun y => encP (i :: y) := by
          rw [pathsK_step hq]; simp
        unfold I103 at el
        refine ⟨_, [some (enc p), some (.ref η.length), some (.int i), some (enc q), x4'], η ++ [.lst (([] :: pathsK 0 (p.kids.take (i + 1))).map encP)], rfl, ?_, rfl, _, _, _, rfl, rfl⟩
        rw [nx]
        generalize ([] :: pathsK 0 (p.kids.take i)).map encP = cur at *
        unfold O103
        simp -implicitDefEqProofs only [e_lit, e_var, e_glb, e_bin, e_bin1, e_bin2, e_neg, e_neg1, e_cmp, e_cmp1, e_cmp2, e_chn, e_chn1, e_chn2, e_chn3, e_chn4, e_isn, e_isn1, e_isn2, e_and, e_and1, e_and2, e_or, e_or1, e_or2, e_not, e_not1, e_ite, e_ite1, e_ite2, e_tup, e_tup1, e_lst, e_lst1, e_idx, e_idx1, e_idx2, e_slc, e_slc1, e_slc2, e_slc3, e_call, e_call1, e_prim, e_prim1, e_isi, e_isi1, e_isi2, e_meth, e_meth1, e_meth2, e_comp, e_comp1, e_tl, es_nil, es_cons, es_cons1, es_cons2, es_cons3, ep_nil, ep_cons, ep_cons1, eo_no, eo_so, eo_so1, ec_no, ec_so, ei_val, ei_val1, ei_rg, ei_rg1, ei_rg2, ei_rg3, ei_rg4, ei_enm, ei_enm1, ei_zip, ei_zip1, ei_zip2, ei_zip3, ei_rev, ei_rev1, c_nil, x_asg, x_asg1, x_asg2, x_asg3, x_par, x_par1, x_par3, x_par31, x_sub, x_sub1, x_sub2, x_sub3, x_sub4, x_sub5, x_aug, x_aug0, x_aug1, x_aug2, x_augS, x_augS1, x_augS2, x_augS3, x_augS4, x_augS5, x_ret, x_ret1, x_ret2, x_retN, x_ex, x_ex1, x_ex2, x_pass, x_brk, x_cnt, x_if, x_if1, x_if2, x_whl, x_fr, x_fr1, x_rs, x_tr, x_tr1, x_tr2, x_tr3, x_h, x_noX1, x_noX2, x_noX3, xs_nx, xs_rt, xs_bk, xs_ct, xs_ex, f_nil, t_nx, t_rt, t_exc, own_tl, own_int, own_bl, own_non, own_str, own_tup, own_ref, own_fl, xs_nil, xs_cons, start, bindT, bindTs, R.of_some, R.of_none, List.length_cons, List.length_nil, List.map_cons, List.map_nil, List.getElem?_cons_zero, List.getElem?_cons_succ, List.set_cons_zero, List.set_cons_succ, Nat.reduceAdd, Nat.reduceSub, List.cons_append, List.nil_append, List.append_nil, List.replicate, Nat.zero_add, reduceIte, Option.map_some, Option.map_none, fin_same, Bool.not_true, Bool.not_false, Bool.false_eq_true, tyD, primD, binD, sz0, sz1, sz2, sz3, sz4, sz5, sz6, sz7, sz8, nc0, nc1, nc2, nc3, nc4, nc5, nc6, nc7, nc8, Nat.reduceEqDiff, Option.bind_some, Int.reduceLE, Int.reduceLT, Int.reduceEq, Int.reduceToNat, Int.reduceAdd, Int.reduceSub, Int.reduceMul, Int.reduceNeg, Nat.reduceMul, ne_eq, not_false_eq_true, not_true_eq_false, decide_true, decide_false, Bool.and_true, Bool.true_and, Bool.or_false, Bool.false_or, Bool.or_true, Bool.true_or, Bool.and_false, Bool.false_and, beq_self_eq_true, own_enc, ih, seqAny, watchOf, el])
    have hn : (enm 0 (encs p.kids)).length = p.kids.length := by rw [enmLen, encs_len]
    rw [hn, List.take_length] at e
    rw [show ([] :: pathsK 0 p.kids) = paths p from (paths_eq p).symm] at e
    unfold O103 at e
    rw [call_eq h rfl]
    have gl : (η ++ [Ob.lst ((paths p).map encP)])[η.length]? = some (.lst ((paths p).map encP)) := by simp
    have bl : (D.tup ((paths p).map encP)).blw η.length = true := encL_blw _ _
    generalize (paths p).map encP = cur at *
    simp -implicitDefEqProofs only [e_lit, e_var, e_glb, e_bin, e_bin1, e_bin2, e_neg, e_neg1, e_cmp, e_cmp1, e_cmp2, e_chn, e_chn1, e_chn2, e_chn3, e_chn4, e_isn, e_isn1, e_isn2, e_and, e_and1, e_and2, e_or, e_or1, e_or2, e_not, e_not1, e_ite, e_ite1, e_ite2, e_tup, e_tup1, e_lst, e_lst1, e_idx, e_idx1, e_idx2, e_slc, e_slc1, e_slc2, e_slc3, e_call, e_call1, e_prim, e_prim1, e_isi, e_isi1, e_isi2, e_meth, e_meth1, e_meth2, e_comp, e_comp1, e_tl, es_nil, es_cons, es_cons1, es_cons2, es_cons3, ep_nil, ep_cons, ep_cons1, eo_no, eo_so, eo_so1, ec_no, ec_so, ei_val, ei_val1, ei_rg, ei_rg1, ei_rg2, ei_rg3, ei_rg4, ei_enm, ei_enm1, ei_zip, ei_zip1, ei_zip2, ei_zip3, ei_rev, ei_rev1, c_nil, x_asg, x_asg1, x_asg2, x_asg3, x_par, x_par1, x_par3, x_par31, x_sub, x_sub1, x_sub2, x_sub3, x_sub4, x_sub5, x_aug, x_aug0, x_aug1, x_aug2, x_augS, x_augS1, x_augS2, x_augS3, x_augS4, x_augS5, x_ret, x_ret1, x_ret2, x_retN, x_ex, x_ex1, x_ex2, x_pass, x_brk, x_cnt, x_if, x_if1, x_if2, x_whl, x_fr, x_fr1, x_rs, x_tr, x_tr1, x_tr2, x_tr3, x_h, x_noX1, x_noX2, x_noX3, xs_nx, xs_rt, xs_bk, xs_ct, xs_ex, f_nil, t_nx, t_rt, t_exc, own_tl, own_int, own_bl, own_non, own_str, own_tup, own_ref, own_fl, xs_nil, xs_cons, start, bindT, bindTs, R.of_some, R.of_none, List.length_cons, List.length_nil, List.map_cons, List.map_nil, List.getElem?_cons_zero, List.getElem?_cons_succ, List.set_cons_zero, List.set_cons_succ, Nat.reduceAdd, Nat.reduceSub, List.cons_append, List.nil_append, List.append_nil, List.replicate, Nat.zero_add, reduceIte, Option.map_some, Option.map_none, fin_same, Bool.not_true, Bool.not_false, Bool.false_eq_true, tyD, primD, binD, sz0, sz1, sz2, sz3, sz4, sz5, sz6, sz7, sz8, nc0, nc1, nc2, nc3, nc4, nc5, nc6, nc7, nc8, Nat.reduceEqDiff, Option.bind_some, Int.reduceLE, Int.reduceLT, Int.reduceEq, Int.reduceToNat, Int.reduceAdd, Int.reduceSub, Int.reduceMul, Int.reduceNeg, Nat.reduceMul, ne_eq, not_false_eq_true, not_true_eq_false, decide_true, decide_false, Bool.and_true, Bool.true_and, Bool.or_false, Bool.false_or, Bool.or_true, Bool.true_or, Bool.and_false, Bool.false_and, beq_self_eq_true, F103, own_enc, kids_ok h82 p (k := K), seqAny, watchOf, e, seqOf, gl, fin_drop bl]
theorem lpaths_ok (h : Γ 95 = some F95) (h94 : Γ 94 = some F94) : ∀ (K : Nat) (p : Pp) (η : Hep), dep p ≤ K → dep p < 900 → good p → size p ≤ 900 → fin η (callN Γ (K + 1) 95 [enc p] η) = .ok (.tl ((paths p).map encP)) η
  | 0, p, η, hk, _, _, _ => by have := dep_pos p; omega
  | K + 1, p, η, hk, hd, gp, hs => by
    have gk := good_kids gp
    have sz := size_eq p
    obtain ⟨ρ', η', e, ex, x2, x3, x4, rfl, rfl⟩ := f_all (C := callN Γ (K + 1)) (b := O95) (t := .tp [.nm 2, .nm 3]) (w := []) (fun i ρ η' => ∃ ex x2 x3 x4, ρ = [some (enc p), some (.ref (η.length + ex.length)), x2, x3, x4] ∧ η' = η ++ (ex ++ [.lst (([] :: pathsK 0 (p.kids.take i)).map encP)])) (enm 0 (encs p.kids))
      (ρ := [some (enc p), some (.ref η.length), none, none, none]) (η := η ++ [.lst [.tup []]]) ⟨[], none, none, none, rfl, by simp [pathsK, encP]⟩ (by
        rintro i x hx ρ η' ⟨ex, x2, x3, x4, rfl, rfl⟩
        obtain ⟨q, hq, rfl⟩ := encs_get hx
        have mq := List.mem_of_getElem? hq
        have dq := dep_kids mq
        have sq := sizes_mem mq
        have ih := lpaths_ok h h94 K q (η ++ (ex ++ [.lst (([] :: pathsK 0 (p.kids.take i)).map encP)])) (by omega) (by omega) (goods_mem gk q mq) (by omega)
        have pf := paths_few q (goods_mem gk q mq)
        have pl := pathsK_le (ks := p.kids) i gk
        have ps := paths_short (dep q) q (Nat.le_refl _)
        have nx : ([] :: pathsK 0 (p.kids.take (i + 1))).map encP = ([] :: pathsK 0 (p.kids.take i)).map encP ++ (paths q).map fun y => encP (i :: y) := by
          rw [pathsK_step hq]; simp
        have cl : (([] :: pathsK 0 (p.kids.take i)).map encP).length ≤ 1 + 900 := by simp; omega
        refine ⟨_, [some (enc p), some (.ref (η.length + (ex.length + 1))), some (.int i), some (enc q), x4], η ++ ((ex ++ [.lst (([] :: pathsK 0 (p.kids.take i)).map encP)]) ++ [.lst (([] :: pathsK 0 (p.kids.take (i + 1))).map encP)]), rfl, ?_, rfl, ex ++ [.lst (([] :: pathsK 0 (p.kids.take i)).map encP)], some (.int i), some (enc q), x4, by simp, rfl⟩
        rw [nx]
        generalize ([] :: pathsK 0 (p.kids.take i)).map encP = cur at *
        have c := c_map (C := callN Γ (K + 1)) (elt := .bin .add (.tup (.cons (.var 2) .nil)) (.var 4)) (t := .nm 4) (w := []) (η := η ++ (ex ++ [.lst cur])) (ρ := wipe [some (enc p), some (.ref (η.length + ex.length)), some (.int i), some (enc q), x4] [4]) rfl encP (fun y => encP (i :: y)) (paths q) [] (by
          have : (1000 : Nat) ≤ PySem.sizeLine := by decide
          simp; omega) (fun y hy => ⟨_, rfl, by
            have oa := one_add (η := η ++ (ex ++ [.lst cur])) (i := i) (p := y) (by have := ps y hy; omega)
            simp only [binD] at oa
            simp -implicitDefEqProofs only [e_lit, e_var, e_glb, e_bin, e_bin1, e_bin2, e_neg, e_neg1, e_cmp, e_cmp1, e_cmp2, e_chn, e_chn1, e_chn2, e_chn3, e_chn4, e_isn, e_isn1, e_isn2, e_and, e_and1, e_and2, e_or, e_or1, e_or2, e_not, e_not1, e_ite, e_ite1, e_ite2, e_tup, e_tup1, e_lst, e_lst1, e_idx, e_idx1, e_idx2, e_slc, e_slc1, e_slc2, e_slc3, e_call, e_call1, e_prim, e_prim1, e_isi, e_isi1, e_isi2, e_meth, e_meth1, e_meth2, e_comp, e_comp1, e_tl, es_nil, es_cons, es_cons1, es_cons2, es_cons3, ep_nil, ep_cons, ep_cons1, eo_no, eo_so, eo_so1, ec_no, ec_so, ei_val, ei_val1, ei_rg, ei_rg1, ei_rg2, ei_rg3, ei_rg4, ei_enm, ei_enm1, ei_zip, ei_zip1, ei_zip2, ei_zip3, ei_rev, ei_rev1, c_nil, x_asg, x_asg1, x_asg2, x_asg3, x_par, x_par1, x_par3, x_par31, x_sub, x_sub1, x_sub2, x_sub3, x_sub4, x_sub5, x_aug, x_aug0, x_aug1, x_aug2, x_augS, x_augS1, x_augS2, x_augS3, x_augS4, x_augS5, x_ret, x_ret1, x_ret2, x_retN, x_ex, x_ex1, x_ex2, x_pass, x_brk, x_cnt, x_if, x_if1, x_if2, x_whl, x_fr, x_fr1, x_rs, x_tr, x_tr1, x_tr2, x_tr3, x_h, x_noX1, x_noX2, x_noX3, xs_nx, xs_rt, xs_bk, xs_ct, xs_ex, f_nil, t_nx, t_rt, t_exc, own_tl, own_int, own_bl, own_non, own_str, own_tup, own_ref, own_fl, xs_nil, xs_cons, start, bindT, bindTs, R.of_some, R.of_none, List.length_cons, List.length_nil, List.map_cons, List.map_nil, List.getElem?_cons_zero, List.getElem?_cons_succ, List.set_cons_zero, List.set_cons_succ, Nat.reduceAdd, Nat.reduceSub, List.cons_append, List.nil_append, List.append_nil, List.replicate, Nat.zero_add, reduceIte, Option.map_some, Option.map_none, fin_same, Bool.not_true, Bool.not_false, Bool.false_eq_true, tyD, primD, binD, sz0, sz1, sz2, sz3, sz4, sz5, sz6, sz7, sz8, nc0, nc1, nc2, nc3, nc4, nc5, nc6, nc7, nc8, Nat.reduceEqDiff, Option.bind_some, Int.reduceLE, Int.reduceLT, Int.reduceEq, Int.reduceToNat, Int.reduceAdd, Int.reduceSub, Int.reduceMul, Int.reduceNeg, Nat.reduceMul, ne_eq, not_false_eq_true, not_true_eq_false, decide_true, decide_false, Bool.and_true, Bool.true_and, Bool.or_false, Bool.false_or, Bool.or_true, Bool.true_or, Bool.and_false, Bool.false_and, beq_self_eq_true, wipe, oa], rfl⟩)
        have g1 : (η ++ (ex ++ [Ob.lst cur]))[η.length + ex.length]? = some (.lst cur) := by rw [← List.append_assoc, List.getElem?_append_right (by simp)]; simp
        have sl : cur.length + ((paths q).map fun y => encP (i :: y)).length ≤ PySem.sizeLine := by
          have : (2000 : Nat) ≤ PySem.sizeLine := by decide
          simp; omega
        have hln : (η ++ (ex ++ [Ob.lst cur])).length = η.length + (ex.length + 1) := by simp
        unfold O95
        simp -implicitDefEqProofs only [e_lit, e_var, e_glb, e_bin, e_bin1, e_bin2, e_neg, e_neg1, e_cmp, e_cmp1, e_cmp2, e_chn, e_chn1, e_chn2, e_chn3, e_chn4, e_isn, e_isn1, e_isn2, e_and, e_and1, e_and2, e_or, e_or1, e_or2, e_not, e_not1, e_ite, e_ite1, e_ite2, e_tup, e_tup1, e_lst, e_lst1, e_idx, e_idx1, e_idx2, e_slc, e_slc1, e_slc2, e_slc3, e_call, e_call1, e_prim, e_prim1, e_isi, e_isi1, e_isi2, e_meth, e_meth1, e_meth2, e_comp, e_comp1, e_tl, es_nil, es_cons, es_cons1, es_cons2, es_cons3, ep_nil, ep_cons, ep_cons1, eo_no, eo_so, eo_so1, ec_no, ec_so, ei_val, ei_val1, ei_rg, ei_rg1, ei_rg2, ei_rg3, ei_rg4, ei_enm, ei_enm1, ei_zip, ei_zip1, ei_zip2, ei_zip3, ei_rev, ei_rev1, c_nil, x_asg, x_asg1, x_asg2, x_asg3, x_par, x_par1, x_par3, x_par31, x_sub, x_sub1, x_sub2, x_sub3, x_sub4, x_sub5, x_aug, x_aug0, x_aug1, x_aug2, x_augS, x_augS1, x_augS2, x_augS3, x_augS4, x_augS5, x_ret, x_ret1, x_ret2, x_retN, x_ex, x_ex1, x_ex2, x_pass, x_brk, x_cnt, x_if, x_if1, x_if2, x_whl, x_fr, x_fr1, x_rs, x_tr, x_tr1, x_tr2, x_tr3, x_h, x_noX1, x_noX2, x_noX3, xs_nx, xs_rt, xs_bk, xs_ct, xs_ex, f_nil, t_nx, t_rt, t_exc, own_tl, own_int, own_bl, own_non, own_str, own_tup, own_ref, own_fl, xs_nil, xs_cons, start, bindT, bindTs, R.of_some, R.of_none, List.length_cons, List.length_nil, List.map_cons, List.map_nil, List.getElem?_cons_zero, List.getElem?_cons_succ, List.set_cons_zero, List.set_cons_succ, Nat.reduceAdd, Nat.reduceSub, List.cons_append, List.nil_append, List.append_nil, List.replicate, Nat.zero_add, reduceIte, Option.map_some, Option.map_none, fin_same, Bool.not_true, Bool.not_false, Bool.false_eq_true, tyD, primD, binD, sz0, sz1, sz2, sz3, sz4, sz5, sz6, sz7, sz8, nc0, nc1, nc2, nc3, nc4, nc5, nc6, nc7, nc8, Nat.reduceEqDiff, Option.bind_some, Int.reduceLE, Int.reduceLT, Int.reduceEq, Int.reduceToNat, Int.reduceAdd, Int.reduceSub, Int.reduceMul, Int.reduceNeg, Nat.reduceMul, ne_eq, not_false_eq_true, not_true_eq_false, decide_true, decide_false, Bool.and_true, Bool.true_and, Bool.or_false, Bool.false_or, Bool.or_true, Bool.true_or, Bool.and_false, Bool.false_and, beq_self_eq_true, own_enc, ih, seqAny, watchOf, seqOf, c, lstOf, g1, sl, hln]
        simp [List.append_assoc])
    have hn : (enm 0 (encs p.kids)).length = p.kids.length := by rw [enmLen, encs_len]
    rw [hn, List.take_length] at e
    rw [show ([] :: pathsK 0 p.kids) = paths p from (paths_eq p).symm] at e
    unfold O95 at e
    rw [call_eq h rfl]
    have gl : (ex ++ [Ob.lst ((paths p).map encP)])[ex.length]? = some (.lst ((paths p).map encP)) := by simp
    have bl : D.blws η.length ((paths p).map encP) = true := encL_blw _ _
    generalize (paths p).map encP = cur at *
    simp -implicitDefEqProofs only [e_lit, e_var, e_glb, e_bin, e_bin1, e_bin2, e_neg, e_neg1, e_cmp, e_cmp1, e_cmp2, e_chn, e_chn1, e_chn2, e_chn3, e_chn4, e_isn, e_isn1, e_isn2, e_and, e_and1, e_and2, e_or, e_or1, e_or2, e_not, e_not1, e_ite, e_ite1, e_ite2, e_tup, e_tup1, e_lst, e_lst1, e_idx, e_idx1, e_idx2, e_slc, e_slc1, e_slc2, e_slc3, e_call, e_call1, e_prim, e_prim1, e_isi, e_isi1, e_isi2, e_meth, e_meth1, e_meth2, e_comp, e_comp1, e_tl, es_nil, es_cons, es_cons1, es_cons2, es_cons3, ep_nil, ep_cons, ep_cons1, eo_no, eo_so, eo_so1, ec_no, ec_so, ei_val, ei_val1, ei_rg, ei_rg1, ei_rg2, ei_rg3, ei_rg4, ei_enm, ei_enm1, ei_zip, ei_zip1, ei_zip2, ei_zip3, ei_rev, ei_rev1, c_nil, x_asg, x_asg1, x_asg2, x_asg3, x_par, x_par1, x_par3, x_par31, x_sub, x_sub1, x_sub2, x_sub3, x_sub4, x_sub5, x_aug, x_aug0, x_aug1, x_aug2, x_augS, x_augS1, x_augS2, x_augS3, x_augS4, x_augS5, x_ret, x_ret1, x_ret2, x_retN, x_ex, x_ex1, x_ex2, x_pass, x_brk, x_cnt, x_if, x_if1, x_if2, x_whl, x_fr, x_fr1, x_rs, x_tr, x_tr1, x_tr2, x_tr3, x_h, x_noX1, x_noX2, x_noX3, xs_nx, xs_rt, xs_bk, xs_ct, xs_ex, f_nil, t_nx, t_rt, t_exc, own_tl, own_int, own_bl, own_non, own_str, own_tup, own_ref, own_fl, xs_nil, xs_cons, start, bindT, bindTs, R.of_some, R.of_none, List.length_cons, List.length_nil, List.map_cons, List.map_nil, List.getElem?_cons_zero, List.getElem?_cons_succ, List.set_cons_zero, List.set_cons_succ, Nat.reduceAdd, Nat.reduceSub, List.cons_append, List.nil_append, List.append_nil, List.replicate, Nat.zero_add, reduceIte, Option.map_some, Option.map_none, fin_same, Bool.not_true, Bool.not_false, Bool.false_eq_true, tyD, primD, binD, sz0, sz1, sz2, sz3, sz4, sz5, sz6, sz7, sz8, nc0, nc1, nc2, nc3, nc4, nc5, nc6, nc7, nc8, Nat.reduceEqDiff, Option.bind_some, Int.reduceLE, Int.reduceLT, Int.reduceEq, Int.reduceToNat, Int.reduceAdd, Int.reduceSub, Int.reduceMul, Int.reduceNeg, Nat.reduceMul, ne_eq, not_false_eq_true, not_true_eq_false, decide_true, decide_false, Bool.and_true, Bool.true_and, Bool.or_false, Bool.false_or, Bool.or_true, Bool.true_or, Bool.and_false, Bool.false_and, beq_self_eq_true, F95, own_enc, lkids_ok h94 p (k := K), seqAny, watchOf, e, fin_ref gl bl]
end
end Ev

set_option Elab.async false
set_option linter.all false
set_option maxRecDepth 100000
/-! # Part D: going along paths -/
namespace Ev
open Law
open Pp
section
variable {Γ : Nat → Option Fd}
def B96 : Ss := (.cons (.asg (.nm 0) (.idx (.call 94 (.cons (.var 0) .nil)) (.var 2)))
 .nil)
def B102 : Ss := (.cons (.ifs (.cmp .ge (.var 2) (.prim .len (.cons (.call 82 (.cons (.var 0) .nil)) .nil))) (.cons (.raise 783 .nil)
 .nil) .nil)
 (.cons (.asg (.nm 0) (.idx (.call 82 (.cons (.var 0) .nil)) (.var 2)))
 .nil))
def E107 : E := (.ite (.cmp .eq (.var 7) (.idx (.var 1) (.lit (.int 0)))) (.call 107 (.cons (.var 8) (.cons (.slc (.var 1) (.so (.lit (.int 1))) .no) (.cons (.var 2) .nil)))) (.var 8))

theorem kid_at {p q : Pp} {i : Nat} (h : p.kids[i]? = some q) : at_ (encs p.kids) (i : Int) = some (enc q) := by
  rw [at_nat, encs_map, List.getElem?_map, h]; rfl
theorem lat_loop {K : Nat} (h94 : Γ 94 = some F94) {η : Hep} {x1 : Option D} : ∀ (path : List Nat) (p q : Pp) (x2 : Option D), at' p path = some q →
    ∃ x2', fE (callN Γ (K + 1)) B96 (.nm 2) [] (path.map fun (i : Nat) => D.int (i : Int)) [some (enc p), x1, x2] η = .nx [some (enc q), x1, x2'] η
  | [], p, q, x2, h => by
    simp only [at', Option.some.injEq] at h; subst h
    exact ⟨x2, rfl⟩
  | i :: r, p, q, x2, h => by
    simp only [at'] at h
    cases hk : p.kids[i]? with
    | none => rw [hk] at h; cases h
    | some p' =>
      rw [hk] at h
      obtain ⟨x2', e⟩ := lat_loop (K := K) h94 (η := η) (x1 := x1) r p' q (some (.int i)) h
      refine ⟨x2', ?_⟩
      rw [List.map_cons, f_nx (ρ1 := [some (enc p), x1, some (.int i)]) (ρ2 := [some (enc p'), x1, some (.int i)]) (η1 := η) rfl (by
        unfold B96
        simp -implicitDefEqProofs only [e_lit, e_var, e_glb, e_bin, e_bin1, e_bin2, e_neg, e_neg1, e_cmp, e_cmp1, e_cmp2, e_chn, e_chn1, e_chn2, e_chn3, e_chn4, e_isn, e_isn1, e_isn2, e_and, e_and1, e_and2, e_or, e_or1, e_or2, e_not, e_not1, e_ite, e_ite1, e_ite2, e_tup, e_tup1, e_lst, e_lst1, e_idx, e_idx1, e_idx2, e_slc, e_slc1, e_slc2, e_slc3, e_call, e_call1, e_prim, e_prim1, e_isi, e_isi1, e_isi2, e_meth, e_meth1, e_meth2, e_comp, e_comp1, e_tl, es_nil, es_cons, es_cons1, es_cons2, es_cons3, ep_nil, ep_cons, ep_cons1, eo_no, eo_so, eo_so1, ec_no, ec_so, ei_val, ei_val1, ei_rg, ei_rg1, ei_rg2, ei_rg3, ei_rg4, ei_enm, ei_enm1, ei_zip, ei_zip1, ei_zip2, ei_zip3, ei_rev, ei_rev1, c_nil, x_asg, x_asg1, x_asg2, x_asg3, x_par, x_par1, x_par3, x_par31, x_sub, x_sub1, x_sub2, x_sub3, x_sub4, x_sub5, x_aug, x_aug0, x_aug1, x_aug2, x_augS, x_augS1, x_augS2, x_augS3, x_augS4, x_augS5, x_ret, x_ret1, x_ret2, x_retN, x_ex, x_ex1, x_ex2, x_pass, x_brk, x_cnt, x_if, x_if1, x_if2, x_whl, x_fr, x_fr1, x_rs, x_tr, x_tr1, x_tr2, x_tr3, x_h, x_noX1, x_noX2, x_noX3, xs_nx, xs_rt, xs_bk, xs_ct, xs_ex, f_nil, t_nx, t_rt, t_exc, own_tl, own_int, own_bl, own_non, own_str, own_tup, own_ref, own_fl, xs_nil, xs_cons, start, bindT, bindTs, R.of_some, R.of_none, List.length_cons, List.length_nil, List.map_cons, List.map_nil, List.getElem?_cons_zero, List.getElem?_cons_succ, List.set_cons_zero, List.set_cons_succ, Nat.reduceAdd, Nat.reduceSub, List.cons_append, List.nil_append, List.append_nil, List.replicate, Nat.zero_add, reduceIte, Option.map_some, Option.map_none, fin_same, Bool.not_true, Bool.not_false, Bool.false_eq_true, tyD, primD, binD, sz0, sz1, sz2, sz3, sz4, sz5, sz6, sz7, sz8, nc0, nc1, nc2, nc3, nc4, nc5, nc6, nc7, nc8, Nat.reduceEqDiff, Option.bind_some, Int.reduceLE, Int.reduceLT, Int.reduceEq, Int.reduceToNat, Int.reduceAdd, Int.reduceSub, Int.reduceMul, Int.reduceNeg, Nat.reduceMul, ne_eq, not_false_eq_true, not_true_eq_false, decide_true, decide_false, Bool.and_true, Bool.true_and, Bool.or_false, Bool.false_or, Bool.or_true, Bool.true_or, Bool.and_false, Bool.false_and, beq_self_eq_true, own_enc, lkids_ok h94 p (k := K), idx_tup, kid_at hk]) rfl, e]
theorem lat_ok {K : Nat} (h : Γ 96 = some F96) (h94 : Γ 94 = some F94) {η : Hep} {p q : Pp} {path : List Nat} (ha : at' p path = some q) : callN Γ (K + 2) 96 [enc p, encP path] η = .ok (enc q) η := by
  rw [call_eq h rfl]
  obtain ⟨x2, e⟩ := lat_loop (K := K) h94 (η := η) (x1 := some (encP path)) path p q none ha
  unfold B96 at e
  have sq : seqAny η (encP path) = some (path.map fun (i : Nat) => D.int (i : Int)) := rfl
  have wq : watchOf (encP path) (path.map fun (i : Nat) => D.int (i : Int)) = [] := rfl
  simp -implicitDefEqProofs only [e_lit, e_var, e_glb, e_bin, e_bin1, e_bin2, e_neg, e_neg1, e_cmp, e_cmp1, e_cmp2, e_chn, e_chn1, e_chn2, e_chn3, e_chn4, e_isn, e_isn1, e_isn2, e_and, e_and1, e_and2, e_or, e_or1, e_or2, e_not, e_not1, e_ite, e_ite1, e_ite2, e_tup, e_tup1, e_lst, e_lst1, e_idx, e_idx1, e_idx2, e_slc, e_slc1, e_slc2, e_slc3, e_call, e_call1, e_prim, e_prim1, e_isi, e_isi1, e_isi2, e_meth, e_meth1, e_meth2, e_comp, e_comp1, e_tl, es_nil, es_cons, es_cons1, es_cons2, es_cons3, ep_nil, ep_cons, ep_cons1, eo_no, eo_so, eo_so1, ec_no, ec_so, ei_val, ei_val1, ei_rg, ei_rg1, ei_rg2, ei_rg3, ei_rg4, ei_enm, ei_enm1, ei_zip, ei_zip1, ei_zip2, ei_zip3, ei_rev, ei_rev1, c_nil, x_asg, x_asg1, x_asg2, x_asg3, x_par, x_par1, x_par3, x_par31, x_sub, x_sub1, x_sub2, x_sub3, x_sub4, x_sub5, x_aug, x_aug0, x_aug1, x_aug2, x_augS, x_augS1, x_augS2, x_augS3, x_augS4, x_augS5, x_ret, x_ret1, x_ret2, x_retN, x_ex, x_ex1, x_ex2, x_pass, x_brk, x_cnt, x_if, x_if1, x_if2, x_whl, x_fr, x_fr1, x_rs, x_tr, x_tr1, x_tr2, x_tr3, x_h, x_noX1, x_noX2, x_noX3, xs_nx, xs_rt, xs_bk, xs_ct, xs_ex, f_nil, t_nx, t_rt, t_exc, own_tl, own_int, own_bl, own_non, own_str, own_tup, own_ref, own_fl, xs_nil, xs_cons, start, bindT, bindTs, R.of_some, R.of_none, List.length_cons, List.length_nil, List.map_cons, List.map_nil, List.getElem?_cons_zero, List.getElem?_cons_succ, List.set_cons_zero, List.set_cons_succ, Nat.reduceAdd, Nat.reduceSub, List.cons_append, List.nil_append, List.append_nil, List.replicate, Nat.zero_add, reduceIte, Option.map_some, Option.map_none, fin_same, Bool.not_true, Bool.not_false, Bool.false_eq_true, tyD, primD, binD, sz0, sz1, sz2, sz3, sz4, sz5, sz6, sz7, sz8, nc0, nc1, nc2, nc3, nc4, nc5, nc6, nc7, nc8, Nat.reduceEqDiff, Option.bind_some, Int.reduceLE, Int.reduceLT, Int.reduceEq, Int.reduceToNat, Int.reduceAdd, Int.reduceSub, Int.reduceMul, Int.reduceNeg, Nat.reduceMul, ne_eq, not_false_eq_true, not_true_eq_false, decide_true, decide_false, Bool.and_true, Bool.true_and, Bool.or_false, Bool.false_or, Bool.or_true, Bool.true_or, Bool.and_false, Bool.false_and, beq_self_eq_true, F96, sq, wq, e]
theorem is_path_ok {K : Nat} (h : Γ 101 = some F101) (h0 : Γ 0 = some F0) {η : Hep} {path : List Nat} (hl : path.length ≤ 1000) : callN Γ (K + 2) 101 [encP path] η = .ok (.bl true) η := by
  rw [call_eq h rfl]
  unfold encP
  have c := c_map (C := callN Γ (K + 1)) (elt := .and (.call 0 (.cons (.var 1) .nil)) (.cmp .ge (.var 1) (.lit (.int 0)))) (t := .nm 1) (w := []) (η := η) (ρ := wipe [some (.tup (path.map fun (i : Nat) => D.int (i : Int))), none] [1]) rfl (fun i : Nat => D.int (i : Int)) (fun _ => .bl true) path [] (by
    have : (1000 : Nat) ≤ PySem.sizeLine := by decide
    simp; omega) (fun i _ => ⟨_, rfl, by
      have : (0 : Int) ≤ (i : Int) := by omega
      simp -implicitDefEqProofs only [e_lit, e_var, e_glb, e_bin, e_bin1, e_bin2, e_neg, e_neg1, e_cmp, e_cmp1, e_cmp2, e_chn, e_chn1, e_chn2, e_chn3, e_chn4, e_isn, e_isn1, e_isn2, e_and, e_and1, e_and2, e_or, e_or1, e_or2, e_not, e_not1, e_ite, e_ite1, e_ite2, e_tup, e_tup1, e_lst, e_lst1, e_idx, e_idx1, e_idx2, e_slc, e_slc1, e_slc2, e_slc3, e_call, e_call1, e_prim, e_prim1, e_isi, e_isi1, e_isi2, e_meth, e_meth1, e_meth2, e_comp, e_comp1, e_tl, es_nil, es_cons, es_cons1, es_cons2, es_cons3, ep_nil, ep_cons, ep_cons1, eo_no, eo_so, eo_so1, ec_no, ec_so, ei_val, ei_val1, ei_rg, ei_rg1, ei_rg2, ei_rg3, ei_rg4, ei_enm, ei_enm1, ei_zip, ei_zip1, ei_zip2, ei_zip3, ei_rev, ei_rev1, c_nil, x_asg, x_asg1, x_asg2, x_asg3, x_par, x_par1, x_par3, x_par31, x_sub, x_sub1, x_sub2, x_sub3, x_sub4, x_sub5, x_aug, x_aug0, x_aug1, x_aug2, x_augS, x_augS1, x_augS2, x_augS3, x_augS4, x_augS5, x_ret, x_ret1, x_ret2, x_retN, x_ex, x_ex1, x_ex2, x_pass, x_brk, x_cnt, x_if, x_if1, x_if2, x_whl, x_fr, x_fr1, x_rs, x_tr, x_tr1, x_tr2, x_tr3, x_h, x_noX1, x_noX2, x_noX3, xs_nx, xs_rt, xs_bk, xs_ct, xs_ex, f_nil, t_nx, t_rt, t_exc, own_tl, own_int, own_bl, own_non, own_str, own_tup, own_ref, own_fl, xs_nil, xs_cons, start, bindT, bindTs, R.of_some, R.of_none, List.length_cons, List.length_nil, List.map_cons, List.map_nil, List.getElem?_cons_zero, List.getElem?_cons_succ, List.set_cons_zero, List.set_cons_succ, Nat.reduceAdd, Nat.reduceSub, List.cons_append, List.nil_append, List.append_nil, List.replicate, Nat.zero_add, reduceIte, Option.map_some, Option.map_none, fin_same, Bool.not_true, Bool.not_false, Bool.false_eq_true, tyD, primD, binD, sz0, sz1, sz2, sz3, sz4, sz5, sz6, sz7, sz8, nc0, nc1, nc2, nc3, nc4, nc5, nc6, nc7, nc8, Nat.reduceEqDiff, Option.bind_some, Int.reduceLE, Int.reduceLT, Int.reduceEq, Int.reduceToNat, Int.reduceAdd, Int.reduceSub, Int.reduceMul, Int.reduceNeg, Nat.reduceMul, ne_eq, not_false_eq_true, not_true_eq_false, decide_true, decide_false, Bool.and_true, Bool.true_and, Bool.or_false, Bool.false_or, Bool.or_true, Bool.true_or, Bool.and_false, Bool.false_and, beq_self_eq_true, wipe, is_count_int (k := K) h0, cmpD, decide_eq_true this], rfl⟩)
  simp -implicitDefEqProofs only [e_lit, e_var, e_glb, e_bin, e_bin1, e_bin2, e_neg, e_neg1, e_cmp, e_cmp1, e_cmp2, e_chn, e_chn1, e_chn2, e_chn3, e_chn4, e_isn, e_isn1, e_isn2, e_and, e_and1, e_and2, e_or, e_or1, e_or2, e_not, e_not1, e_ite, e_ite1, e_ite2, e_tup, e_tup1, e_lst, e_lst1, e_idx, e_idx1, e_idx2, e_slc, e_slc1, e_slc2, e_slc3, e_call, e_call1, e_prim, e_prim1, e_isi, e_isi1, e_isi2, e_meth, e_meth1, e_meth2, e_comp, e_comp1, e_tl, es_nil, es_cons, es_cons1, es_cons2, es_cons3, ep_nil, ep_cons, ep_cons1, eo_no, eo_so, eo_so1, ec_no, ec_so, ei_val, ei_val1, ei_rg, ei_rg1, ei_rg2, ei_rg3, ei_rg4, ei_enm, ei_enm1, ei_zip, ei_zip1, ei_zip2, ei_zip3, ei_rev, ei_rev1, c_nil, x_asg, x_asg1, x_asg2, x_asg3, x_par, x_par1, x_par3, x_par31, x_sub, x_sub1, x_sub2, x_sub3, x_sub4, x_sub5, x_aug, x_aug0, x_aug1, x_aug2, x_augS, x_augS1, x_augS2, x_augS3, x_augS4, x_augS5, x_ret, x_ret1, x_ret2, x_retN, x_ex, x_ex1, x_ex2, x_pass, x_brk, x_cnt, x_if, x_if1, x_if2, x_whl, x_fr, x_fr1, x_rs, x_tr, x_tr1, x_tr2, x_tr3, x_h, x_noX1, x_noX2, x_noX3, xs_nx, xs_rt, xs_bk, xs_ct, xs_ex, f_nil, t_nx, t_rt, t_exc, own_tl, own_int, own_bl, own_non, own_str, own_tup, own_ref, own_fl, xs_nil, xs_cons, start, bindT, bindTs, R.of_some, R.of_none, List.length_cons, List.length_nil, List.map_cons, List.map_nil, List.getElem?_cons_zero, List.getElem?_cons_succ, List.set_cons_zero, List.set_cons_succ, Nat.reduceAdd, Nat.reduceSub, List.cons_append, List.nil_append, List.append_nil, List.replicate, Nat.zero_add, reduceIte, Option.map_some, Option.map_none, fin_same, Bool.not_true, Bool.not_false, Bool.false_eq_true, tyD, primD, binD, sz0, sz1, sz2, sz3, sz4, sz5, sz6, sz7, sz8, nc0, nc1, nc2, nc3, nc4, nc5, nc6, nc7, nc8, Nat.reduceEqDiff, Option.bind_some, Int.reduceLE, Int.reduceLT, Int.reduceEq, Int.reduceToNat, Int.reduceAdd, Int.reduceSub, Int.reduceMul, Int.reduceNeg, Nat.reduceMul, ne_eq, not_false_eq_true, not_true_eq_false, decide_true, decide_false, Bool.and_true, Bool.true_and, Bool.or_false, Bool.false_or, Bool.or_true, Bool.true_or, Bool.and_false, Bool.false_and, beq_self_eq_true, F101, seqAny, watchOf, c, seqOf]
  simp only [blsOf_map (fun _ => true), all_true]
  simp -implicitDefEqProofs only [e_lit, e_var, e_glb, e_bin, e_bin1, e_bin2, e_neg, e_neg1, e_cmp, e_cmp1, e_cmp2, e_chn, e_chn1, e_chn2, e_chn3, e_chn4, e_isn, e_isn1, e_isn2, e_and, e_and1, e_and2, e_or, e_or1, e_or2, e_not, e_not1, e_ite, e_ite1, e_ite2, e_tup, e_tup1, e_lst, e_lst1, e_idx, e_idx1, e_idx2, e_slc, e_slc1, e_slc2, e_slc3, e_call, e_call1, e_prim, e_prim1, e_isi, e_isi1, e_isi2, e_meth, e_meth1, e_meth2, e_comp, e_comp1, e_tl, es_nil, es_cons, es_cons1, es_cons2, es_cons3, ep_nil, ep_cons, ep_cons1, eo_no, eo_so, eo_so1, ec_no, ec_so, ei_val, ei_val1, ei_rg, ei_rg1, ei_rg2, ei_rg3, ei_rg4, ei_enm, ei_enm1, ei_zip, ei_zip1, ei_zip2, ei_zip3, ei_rev, ei_rev1, c_nil, x_asg, x_asg1, x_asg2, x_asg3, x_par, x_par1, x_par3, x_par31, x_sub, x_sub1, x_sub2, x_sub3, x_sub4, x_sub5, x_aug, x_aug0, x_aug1, x_aug2, x_augS, x_augS1, x_augS2, x_augS3, x_augS4, x_augS5, x_ret, x_ret1, x_ret2, x_retN, x_ex, x_ex1, x_ex2, x_pass, x_brk, x_cnt, x_if, x_if1, x_if2, x_whl, x_fr, x_fr1, x_rs, x_tr, x_tr1, x_tr2, x_tr3, x_h, x_noX1, x_noX2, x_noX3, xs_nx, xs_rt, xs_bk, xs_ct, xs_ex, f_nil, t_nx, t_rt, t_exc, own_tl, own_int, own_bl, own_non, own_str, own_tup, own_ref, own_fl, xs_nil, xs_cons, start, bindT, bindTs, R.of_some, R.of_none, List.length_cons, List.length_nil, List.map_cons, List.map_nil, List.getElem?_cons_zero, List.getElem?_cons_succ, List.set_cons_zero, List.set_cons_succ, Nat.reduceAdd, Nat.reduceSub, List.cons_append, List.nil_append, List.append_nil, List.replicate, Nat.zero_add, reduceIte, Option.map_some, Option.map_none, fin_same, Bool.not_true, Bool.not_false, Bool.false_eq_true, tyD, primD, binD, sz0, sz1, sz2, sz3, sz4, sz5, sz6, sz7, sz8, nc0, nc1, nc2, nc3, nc4, nc5, nc6, nc7, nc8, Nat.reduceEqDiff, Option.bind_some, Int.reduceLE, Int.reduceLT, Int.reduceEq, Int.reduceToNat, Int.reduceAdd, Int.reduceSub, Int.reduceMul, Int.reduceNeg, Nat.reduceMul, ne_eq, not_false_eq_true, not_true_eq_false, decide_true, decide_false, Bool.and_true, Bool.true_and, Bool.or_false, Bool.false_or, Bool.or_true, Bool.true_or, Bool.and_false, Bool.false_and, beq_self_eq_true, blsOf_map (fun _ => true), all_true]
theorem pat_loop {K : Nat} (h82 : Γ 82 = some F82) {η : Hep} {x1 : Option D} : ∀ (path : List Nat) (p q : Pp) (x2 : Option D), at' p path = some q →
    ∃ x2', fE (callN Γ (K + 1)) B102 (.nm 2) [] (path.map fun (i : Nat) => D.int (i : Int)) [some (enc p), x1, x2] η = .nx [some (enc q), x1, x2'] η
  | [], p, q, x2, h => by
    simp only [at', Option.some.injEq] at h; subst h
    exact ⟨x2, rfl⟩
  | i :: r, p, q, x2, h => by
    simp only [at'] at h
    cases hk : p.kids[i]? with
    | none => rw [hk] at h; cases h
    | some p' =>
      rw [hk] at h
      obtain ⟨x2', e⟩ := pat_loop (K := K) h82 (η := η) (x1 := x1) r p' q (some (.int i)) h
      refine ⟨x2', ?_⟩
      have hi : ¬ ((p.kids.length : Int) ≤ (i : Int)) := by
        have := (List.getElem?_eq_some_iff.mp hk).1
        omega
      rw [List.map_cons, f_nx (ρ1 := [some (enc p), x1, some (.int i)]) (ρ2 := [some (enc p'), x1, some (.int i)]) (η1 := η) rfl (by
        unfold B102
        simp -implicitDefEqProofs only [e_lit, e_var, e_glb, e_bin, e_bin1, e_bin2, e_neg, e_neg1, e_cmp, e_cmp1, e_cmp2, e_chn, e_chn1, e_chn2, e_chn3, e_chn4, e_isn, e_isn1, e_isn2, e_and, e_and1, e_and2, e_or, e_or1, e_or2, e_not, e_not1, e_ite, e_ite1, e_ite2, e_tup, e_tup1, e_lst, e_lst1, e_idx, e_idx1, e_idx2, e_slc, e_slc1, e_slc2, e_slc3, e_call, e_call1, e_prim, e_prim1, e_isi, e_isi1, e_isi2, e_meth, e_meth1, e_meth2, e_comp, e_comp1, e_tl, es_nil, es_cons, es_cons1, es_cons2, es_cons3, ep_nil, ep_cons, ep_cons1, eo_no, eo_so, eo_so1, ec_no, ec_so, ei_val, ei_val1, ei_rg, ei_rg1, ei_rg2, ei_rg3, ei_rg4, ei_enm, ei_enm1, ei_zip, ei_zip1, ei_zip2, ei_zip3, ei_rev, ei_rev1, c_nil, x_asg, x_asg1, x_asg2, x_asg3, x_par, x_par1, x_par3, x_par31, x_sub, x_sub1, x_sub2, x_sub3, x_sub4, x_sub5, x_aug, x_aug0, x_aug1, x_aug2, x_augS, x_augS1, x_augS2, x_augS3, x_augS4, x_augS5, x_ret, x_ret1, x_ret2, x_retN, x_ex, x_ex1, x_ex2, x_pass, x_brk, x_cnt, x_if, x_if1, x_if2, x_whl, x_fr, x_fr1, x_rs, x_tr, x_tr1, x_tr2, x_tr3, x_h, x_noX1, x_noX2, x_noX3, xs_nx, xs_rt, xs_bk, xs_ct, xs_ex, f_nil, t_nx, t_rt, t_exc, own_tl, own_int, own_bl, own_non, own_str, own_tup, own_ref, own_fl, xs_nil, xs_cons, start, bindT, bindTs, R.of_some, R.of_none, List.length_cons, List.length_nil, List.map_cons, List.map_nil, List.getElem?_cons_zero, List.getElem?_cons_succ, List.set_cons_zero, List.set_cons_succ, Nat.reduceAdd, Nat.reduceSub, List.cons_append, List.nil_append, List.append_nil, List.replicate, Nat.zero_add, reduceIte, Option.map_some, Option.map_none, fin_same, Bool.not_true, Bool.not_false, Bool.false_eq_true, tyD, primD, binD, sz0, sz1, sz2, sz3, sz4, sz5, sz6, sz7, sz8, nc0, nc1, nc2, nc3, nc4, nc5, nc6, nc7, nc8, Nat.reduceEqDiff, Option.bind_some, Int.reduceLE, Int.reduceLT, Int.reduceEq, Int.reduceToNat, Int.reduceAdd, Int.reduceSub, Int.reduceMul, Int.reduceNeg, Nat.reduceMul, ne_eq, not_false_eq_true, not_true_eq_false, decide_true, decide_false, Bool.and_true, Bool.true_and, Bool.or_false, Bool.false_or, Bool.or_true, Bool.true_or, Bool.and_false, Bool.false_and, beq_self_eq_true, own_enc, kids_ok h82 p (k := K), idx_tup, kid_at hk, seqAny, encs_len, cmpD, decide_eq_false hi]) rfl, e]
structure HPth (Γ : Nat → Option Fd) : Prop extends HPip Γ where
  h101 : Γ 101 = some F101
  h102 : Γ 102 = some F102
theorem fits60 {p : Pp} (h : size p ≤ 60) (g : good p) : dep p ≤ 60 := by
  have : ∀ n p, dep p ≤ n → good p → dep p ≤ size p := by
    intro n
    induction n with
    | zero => intro p h _; have := dep_pos p; omega
    | succ n ih =>
      intro p hd gp
      cases p with
      | shut l w => simp only [good] at gp; simp [dep, size]; omega
      | opn l w => simp only [good] at gp; simp [dep, size]; omega
      | drain l w d => simp only [good] at gp; simp [dep, size]; omega
      | fork l w ks =>
        simp only [good] at gp
        simp only [dep] at hd
        simp only [dep, size]
        have key : ∀ ks : List Pp, deps ks ≤ n → goods ks → deps ks ≤ sizes ks := by
          intro ks
          induction ks with
          | nil => intro _ _; simp [deps]
          | cons a as iha =>
            intro h1 h2
            simp only [deps] at h1
            simp only [goods] at h2
            have q1 := ih a (by omega) h2.1
            have q2 := iha (by omega) h2.2
            simp only [deps, sizes]; omega
        have := key ks (by omega) gp.2.2.2.2
        omega
  have := this (dep p) p (Nat.le_refl _) g
  omega
theorem pipe_at_ok (g : HPth Γ) {K : Nat} {η : Hep} {p q : Pp} {path : List Nat} (hk : dep p ≤ K) (gp : good p) (hs : size p ≤ 60) (hl : path.length ≤ 1000) (ha : at' p path = some q) : callN Γ (K + 7) 102 [enc p, encP path] η = .ok (enc q) η := by
  rw [call_eq g.h102 rfl]
  obtain ⟨x2, e⟩ := pat_loop (K := K + 5) g.h82 (η := η) (x1 := some (encP path)) path p q none ha
  unfold B102 at e
  have sq : seqAny η (encP path) = some (path.map fun (i : Nat) => D.int (i : Int)) := rfl
  have wq : watchOf (encP path) (path.map fun (i : Nat) => D.int (i : Int)) = [] := rfl
  simp -implicitDefEqProofs only [e_lit, e_var, e_glb, e_bin, e_bin1, e_bin2, e_neg, e_neg1, e_cmp, e_cmp1, e_cmp2, e_chn, e_chn1, e_chn2, e_chn3, e_chn4, e_isn, e_isn1, e_isn2, e_and, e_and1, e_and2, e_or, e_or1, e_or2, e_not, e_not1, e_ite, e_ite1, e_ite2, e_tup, e_tup1, e_lst, e_lst1, e_idx, e_idx1, e_idx2, e_slc, e_slc1, e_slc2, e_slc3, e_call, e_call1, e_prim, e_prim1, e_isi, e_isi1, e_isi2, e_meth, e_meth1, e_meth2, e_comp, e_comp1, e_tl, es_nil, es_cons, es_cons1, es_cons2, es_cons3, ep_nil, ep_cons, ep_cons1, eo_no, eo_so, eo_so1, ec_no, ec_so, ei_val, ei_val1, ei_rg, ei_rg1, ei_rg2, ei_rg3, ei_rg4, ei_enm, ei_enm1, ei_zip, ei_zip1, ei_zip2, ei_zip3, ei_rev, ei_rev1, c_nil, x_asg, x_asg1, x_asg2, x_asg3, x_par, x_par1, x_par3, x_par31, x_sub, x_sub1, x_sub2, x_sub3, x_sub4, x_sub5, x_aug, x_aug0, x_aug1, x_aug2, x_augS, x_augS1, x_augS2, x_augS3, x_augS4, x_augS5, x_ret, x_ret1, x_ret2, x_retN, x_ex, x_ex1, x_ex2, x_pass, x_brk, x_cnt, x_if, x_if1, x_if2, x_whl, x_fr, x_fr1, x_rs, x_tr, x_tr1, x_tr2, x_tr3, x_h, x_noX1, x_noX2, x_noX3, xs_nx, xs_rt, xs_bk, xs_ct, xs_ex, f_nil, t_nx, t_rt, t_exc, own_tl, own_int, own_bl, own_non, own_str, own_tup, own_ref, own_fl, xs_nil, xs_cons, start, bindT, bindTs, R.of_some, R.of_none, List.length_cons, List.length_nil, List.map_cons, List.map_nil, List.getElem?_cons_zero, List.getElem?_cons_succ, List.set_cons_zero, List.set_cons_succ, Nat.reduceAdd, Nat.reduceSub, List.cons_append, List.nil_append, List.append_nil, List.replicate, Nat.zero_add, reduceIte, Option.map_some, Option.map_none, fin_same, Bool.not_true, Bool.not_false, Bool.false_eq_true, tyD, primD, binD, sz0, sz1, sz2, sz3, sz4, sz5, sz6, sz7, sz8, nc0, nc1, nc2, nc3, nc4, nc5, nc6, nc7, nc8, Nat.reduceEqDiff, Option.bind_some, Int.reduceLE, Int.reduceLT, Int.reduceEq, Int.reduceToNat, Int.reduceAdd, Int.reduceSub, Int.reduceMul, Int.reduceNeg, Nat.reduceMul, ne_eq, not_false_eq_true, not_true_eq_false, decide_true, decide_false, Bool.and_true, Bool.true_and, Bool.or_false, Bool.false_or, Bool.or_true, Bool.true_or, Bool.and_false, Bool.false_and, beq_self_eq_true, F102, own_enc, own_encP, check_pipe_ok (η := η) g.toHPip hk gp hs (fits60 hs gp), is_path_ok (K := K + 4) g.h101 g.h0 hl, sq, wq, e]
/-- a place that there is not -/
theorem pat_fail {K : Nat} (h82 : Γ 82 = some F82) {η : Hep} {x1 : Option D} {i : Nat} : ∀ (path : List Nat) (p q : Pp) (x2 : Option D), at' p path = some q → q.kids.length ≤ i →
    ∃ ρ', fE (callN Γ (K + 1)) B102 (.nm 2) [] ((path ++ [i]).map fun (i : Nat) => D.int (i : Int)) [some (enc p), x1, x2] η = .exc 783 [] ρ' η
  | [], p, q, x2, h, hi => by
    simp only [at', Option.some.injEq] at h; subst h
    have hi' : (p.kids.length : Int) ≤ (i : Int) := by omega
    refine ⟨[some (enc p), x1, some (.int i)], ?_⟩
    rw [List.nil_append, List.map_cons, f_exc (ρ1 := [some (enc p), x1, some (.int i)]) (ρ2 := [some (enc p), x1, some (.int i)]) (η1 := η) (c := 783) (es := []) rfl (by
      unfold B102
      simp -implicitDefEqProofs only [e_lit, e_var, e_glb, e_bin, e_bin1, e_bin2, e_neg, e_neg1, e_cmp, e_cmp1, e_cmp2, e_chn, e_chn1, e_chn2, e_chn3, e_chn4, e_isn, e_isn1, e_isn2, e_and, e_and1, e_and2, e_or, e_or1, e_or2, e_not, e_not1, e_ite, e_ite1, e_ite2, e_tup, e_tup1, e_lst, e_lst1, e_idx, e_idx1, e_idx2, e_slc, e_slc1, e_slc2, e_slc3, e_call, e_call1, e_prim, e_prim1, e_isi, e_isi1, e_isi2, e_meth, e_meth1, e_meth2, e_comp, e_comp1, e_tl, es_nil, es_cons, es_cons1, es_cons2, es_cons3, ep_nil, ep_cons, ep_cons1, eo_no, eo_so, eo_so1, ec_no, ec_so, ei_val, ei_val1, ei_rg, ei_rg1, ei_rg2, ei_rg3, ei_rg4, ei_enm, ei_enm1, ei_zip, ei_zip1, ei_zip2, ei_zip3, ei_rev, ei_rev1, c_nil, x_asg, x_asg1, x_asg2, x_asg3, x_par, x_par1, x_par3, x_par31, x_sub, x_sub1, x_sub2, x_sub3, x_sub4, x_sub5, x_aug, x_aug0, x_aug1, x_aug2, x_augS, x_augS1, x_augS2, x_augS3, x_augS4, x_augS5, x_ret, x_ret1, x_ret2, x_retN, x_ex, x_ex1, x_ex2, x_pass, x_brk, x_cnt, x_if, x_if1, x_if2, x_whl, x_fr, x_fr1, x_rs, x_tr, x_tr1, x_tr2, x_tr3, x_h, x_noX1, x_noX2, x_noX3, xs_nx, xs_rt, xs_bk, xs_ct, xs_ex, f_nil, t_nx, t_rt, t_exc, own_tl, own_int, own_bl, own_non, own_str, own_tup, own_ref, own_fl, xs_nil, xs_cons, start, bindT, bindTs, R.of_some, R.of_none, List.length_cons, List.length_nil, List.map_cons, List.map_nil, List.getElem?_cons_zero, List.getElem?_cons_succ, List.set_cons_zero, List.set_cons_succ, Nat.reduceAdd, Nat.reduceSub, List.cons_append, List.nil_append, List.append_nil, List.replicate, Nat.zero_add, reduceIte, Option.map_some, Option.map_none, fin_same, Bool.not_true, Bool.not_false, Bool.false_eq_true, tyD, primD, binD, sz0, sz1, sz2, sz3, sz4, sz5, sz6, sz7, sz8, nc0, nc1, nc2, nc3, nc4, nc5, nc6, nc7, nc8, Nat.reduceEqDiff, Option.bind_some, Int.reduceLE, Int.reduceLT, Int.reduceEq, Int.reduceToNat, Int.reduceAdd, Int.reduceSub, Int.reduceMul, Int.reduceNeg, Nat.reduceMul, ne_eq, not_false_eq_true, not_true_eq_false, decide_true, decide_false, Bool.and_true, Bool.true_and, Bool.or_false, Bool.false_or, Bool.or_true, Bool.true_or, Bool.and_false, Bool.false_and, beq_self_eq_true, own_enc, kids_ok h82 p (k := K), seqAny, encs_len, cmpD, decide_eq_true hi', x_rs])]
  | j :: r, p, q, x2, h, hi => by
    simp only [at'] at h
    cases hk : p.kids[j]? with
    | none => rw [hk] at h; cases h
    | some p' =>
      rw [hk] at h
      obtain ⟨ρ', e⟩ := pat_fail (K := K) h82 (η := η) (x1 := x1) r p' q (some (.int j)) h hi
      refine ⟨ρ', ?_⟩
      have hj : ¬ ((p.kids.length : Int) ≤ (j : Int)) := by
        have := (List.getElem?_eq_some_iff.mp hk).1
        omega
      rw [List.cons_append, List.map_cons, f_nx (ρ1 := [some (enc p), x1, some (.int j)]) (ρ2 := [some (enc p'), x1, some (.int j)]) (η1 := η) rfl (by
        unfold B102
        simp -implicitDefEqProofs only [e_lit, e_var, e_glb, e_bin, e_bin1, e_bin2, e_neg, e_neg1, e_cmp, e_cmp1, e_cmp2, e_chn, e_chn1, e_chn2, e_chn3, e_chn4, e_isn, e_isn1, e_isn2, e_and, e_and1, e_and2, e_or, e_or1, e_or2, e_not, e_not1, e_ite, e_ite1, e_ite2, e_tup, e_tup1, e_lst, e_lst1, e_idx, e_idx1, e_idx2, e_slc, e_slc1, e_slc2, e_slc3, e_call, e_call1, e_prim, e_prim1, e_isi, e_isi1, e_isi2, e_meth, e_meth1, e_meth2, e_comp, e_comp1, e_tl, es_nil, es_cons, es_cons1, es_cons2, es_cons3, ep_nil, ep_cons, ep_cons1, eo_no, eo_so, eo_so1, ec_no, ec_so, ei_val, ei_val1, ei_rg, ei_rg1, ei_rg2, ei_rg3, ei_rg4, ei_enm, ei_enm1, ei_zip, ei_zip1, ei_zip2, ei_zip3, ei_rev, ei_rev1, c_nil, x_asg, x_asg1, x_asg2, x_asg3, x_par, x_par1, x_par3, x_par31, x_sub, x_sub1, x_sub2, x_sub3, x_sub4, x_sub5, x_aug, x_aug0, x_aug1, x_aug2, x_augS, x_augS1, x_augS2, x_augS3, x_augS4, x_augS5, x_ret, x_ret1, x_ret2, x_retN, x_ex, x_ex1, x_ex2, x_pass, x_brk, x_cnt, x_if, x_if1, x_if2, x_whl, x_fr, x_fr1, x_rs, x_tr, x_tr1, x_tr2, x_tr3, x_h, x_noX1, x_noX2, x_noX3, xs_nx, xs_rt, xs_bk, xs_ct, xs_ex, f_nil, t_nx, t_rt, t_exc, own_tl, own_int, own_bl, own_non, own_str, own_tup, own_ref, own_fl, xs_nil, xs_cons, start, bindT, bindTs, R.of_some, R.of_none, List.length_cons, List.length_nil, List.map_cons, List.map_nil, List.getElem?_cons_zero, List.getElem?_cons_succ, List.set_cons_zero, List.set_cons_succ, Nat.reduceAdd, Nat.reduceSub, List.cons_append, List.nil_append, List.append_nil, List.replicate, Nat.zero_add, reduceIte, Option.map_some, Option.map_none, fin_same, Bool.not_true, Bool.not_false, Bool.false_eq_true, tyD, primD, binD, sz0, sz1, sz2, sz3, sz4, sz5, sz6, sz7, sz8, nc0, nc1, nc2, nc3, nc4, nc5, nc6, nc7, nc8, Nat.reduceEqDiff, Option.bind_some, Int.reduceLE, Int.reduceLT, Int.reduceEq, Int.reduceToNat, Int.reduceAdd, Int.reduceSub, Int.reduceMul, Int.reduceNeg, Nat.reduceMul, ne_eq, not_false_eq_true, not_true_eq_false, decide_true, decide_false, Bool.and_true, Bool.true_and, Bool.or_false, Bool.false_or, Bool.or_true, Bool.true_or, Bool.and_false, Bool.false_and, beq_self_eq_true, own_enc, kids_ok h82 p (k := K), idx_tup, kid_at hk, seqAny, encs_len, cmpD, decide_eq_false hj]) rfl, e]
theorem pipe_at_no (g : HPth Γ) {K : Nat} {η : Hep} {p q : Pp} {path : List Nat} {i : Nat} (hk : dep p ≤ K) (gp : good p) (hs : size p ≤ 60) (hl : path.length < 1000) (ha : at' p path = some q) (hi : q.kids.length ≤ i) : callN Γ (K + 7) 102 [enc p, encP (path ++ [i])] η = .exc 783 [] η := by
  rw [call_eq g.h102 rfl]
  obtain ⟨ρ', e⟩ := pat_fail (K := K + 5) g.h82 (η := η) (x1 := some (encP (path ++ [i]))) path p q none ha hi
  unfold B102 at e
  have sq : seqAny η (encP (path ++ [i])) = some ((path ++ [i]).map fun (i : Nat) => D.int (i : Int)) := rfl
  have wq : watchOf (encP (path ++ [i])) ((path ++ [i]).map fun (i : Nat) => D.int (i : Int)) = [] := rfl
  simp -implicitDefEqProofs only [e_lit, e_var, e_glb, e_bin, e_bin1, e_bin2, e_neg, e_neg1, e_cmp, e_cmp1, e_cmp2, e_chn, e_chn1, e_chn2, e_chn3, e_chn4, e_isn, e_isn1, e_isn2, e_and, e_and1, e_and2, e_or, e_or1, e_or2, e_not, e_not1, e_ite, e_ite1, e_ite2, e_tup, e_tup1, e_lst, e_lst1, e_idx, e_idx1, e_idx2, e_slc, e_slc1, e_slc2, e_slc3, e_call, e_call1, e_prim, e_prim1, e_isi, e_isi1, e_isi2, e_meth, e_meth1, e_meth2, e_comp, e_comp1, e_tl, es_nil, es_cons, es_cons1, es_cons2, es_cons3, ep_nil, ep_cons, ep_cons1, eo_no, eo_so, eo_so1, ec_no, ec_so, ei_val, ei_val1, ei_rg, ei_rg1, ei_rg2, ei_rg3, ei_rg4, ei_enm, ei_enm1, ei_zip, ei_zip1, ei_zip2, ei_zip3, ei_rev, ei_rev1, c_nil, x_asg, x_asg1, x_asg2, x_asg3, x_par, x_par1, x_par3, x_par31, x_sub, x_sub1, x_sub2, x_sub3, x_sub4, x_sub5, x_aug, x_aug0, x_aug1, x_aug2, x_augS, x_augS1, x_augS2, x_augS3, x_augS4, x_augS5, x_ret, x_ret1, x_ret2, x_retN, x_ex, x_ex1, x_ex2, x_pass, x_brk, x_cnt, x_if, x_if1, x_if2, x_whl, x_fr, x_fr1, x_rs, x_tr, x_tr1, x_tr2, x_tr3, x_h, x_noX1, x_noX2, x_noX3, xs_nx, xs_rt, xs_bk, xs_ct, xs_ex, f_nil, t_nx, t_rt, t_exc, own_tl, own_int, own_bl, own_non, own_str, own_tup, own_ref, own_fl, xs_nil, xs_cons, start, bindT, bindTs, R.of_some, R.of_none, List.length_cons, List.length_nil, List.map_cons, List.map_nil, List.getElem?_cons_zero, List.getElem?_cons_succ, List.set_cons_zero, List.set_cons_succ, Nat.reduceAdd, Nat.reduceSub, List.cons_append, List.nil_append, List.append_nil, List.replicate, Nat.zero_add, reduceIte, Option.map_some, Option.map_none, fin_same, Bool.not_true, Bool.not_false, Bool.false_eq_true, tyD, primD, binD, sz0, sz1, sz2, sz3, sz4, sz5, sz6, sz7, sz8, nc0, nc1, nc2, nc3, nc4, nc5, nc6, nc7, nc8, Nat.reduceEqDiff, Option.bind_some, Int.reduceLE, Int.reduceLT, Int.reduceEq, Int.reduceToNat, Int.reduceAdd, Int.reduceSub, Int.reduceMul, Int.reduceNeg, Nat.reduceMul, ne_eq, not_false_eq_true, not_true_eq_false, decide_true, decide_false, Bool.and_true, Bool.true_and, Bool.or_false, Bool.false_or, Bool.or_true, Bool.true_or, Bool.and_false, Bool.false_and, beq_self_eq_true, F102, own_enc, own_encP, check_pipe_ok (η := η) g.toHPip hk gp hs (fits60 hs gp), is_path_ok (K := K + 4) g.h101 g.h0 (path := path ++ [i]) (by simp; omega), sq, wq, e]
theorem pipe_at_bad (g : HPth Γ) {K : Nat} {η : Hep} {p : Pp} {d : D} (hk : dep p ≤ K) (gp : good p) (hs : size p ≤ 60) (ho : own d η = .ok d η) (hd : callN Γ (K + 6) 101 [d] η = .ok (.bl false) η) : callN Γ (K + 7) 102 [enc p, d] η = .exc 783 [] η := by
  rw [call_eq g.h102 rfl]
  simp -implicitDefEqProofs only [e_lit, e_var, e_glb, e_bin, e_bin1, e_bin2, e_neg, e_neg1, e_cmp, e_cmp1, e_cmp2, e_chn, e_chn1, e_chn2, e_chn3, e_chn4, e_isn, e_isn1, e_isn2, e_and, e_and1, e_and2, e_or, e_or1, e_or2, e_not, e_not1, e_ite, e_ite1, e_ite2, e_tup, e_tup1, e_lst, e_lst1, e_idx, e_idx1, e_idx2, e_slc, e_slc1, e_slc2, e_slc3, e_call, e_call1, e_prim, e_prim1, e_isi, e_isi1, e_isi2, e_meth, e_meth1, e_meth2, e_comp, e_comp1, e_tl, es_nil, es_cons, es_cons1, es_cons2, es_cons3, ep_nil, ep_cons, ep_cons1, eo_no, eo_so, eo_so1, ec_no, ec_so, ei_val, ei_val1, ei_rg, ei_rg1, ei_rg2, ei_rg3, ei_rg4, ei_enm, ei_enm1, ei_zip, ei_zip1, ei_zip2, ei_zip3, ei_rev, ei_rev1, c_nil, x_asg, x_asg1, x_asg2, x_asg3, x_par, x_par1, x_par3, x_par31, x_sub, x_sub1, x_sub2, x_sub3, x_sub4, x_sub5, x_aug, x_aug0, x_aug1, x_aug2, x_augS, x_augS1, x_augS2, x_augS3, x_augS4, x_augS5, x_ret, x_ret1, x_ret2, x_retN, x_ex, x_ex1, x_ex2, x_pass, x_brk, x_cnt, x_if, x_if1, x_if2, x_whl, x_fr, x_fr1, x_rs, x_tr, x_tr1, x_tr2, x_tr3, x_h, x_noX1, x_noX2, x_noX3, xs_nx, xs_rt, xs_bk, xs_ct, xs_ex, f_nil, t_nx, t_rt, t_exc, own_tl, own_int, own_bl, own_non, own_str, own_tup, own_ref, own_fl, xs_nil, xs_cons, start, bindT, bindTs, R.of_some, R.of_none, List.length_cons, List.length_nil, List.map_cons, List.map_nil, List.getElem?_cons_zero, List.getElem?_cons_succ, List.set_cons_zero, List.set_cons_succ, Nat.reduceAdd, Nat.reduceSub, List.cons_append, List.nil_append, List.append_nil, List.replicate, Nat.zero_add, reduceIte, Option.map_some, Option.map_none, fin_same, Bool.not_true, Bool.not_false, Bool.false_eq_true, tyD, primD, binD, sz0, sz1, sz2, sz3, sz4, sz5, sz6, sz7, sz8, nc0, nc1, nc2, nc3, nc4, nc5, nc6, nc7, nc8, Nat.reduceEqDiff, Option.bind_some, Int.reduceLE, Int.reduceLT, Int.reduceEq, Int.reduceToNat, Int.reduceAdd, Int.reduceSub, Int.reduceMul, Int.reduceNeg, Nat.reduceMul, ne_eq, not_false_eq_true, not_true_eq_false, decide_true, decide_false, Bool.and_true, Bool.true_and, Bool.or_false, Bool.false_or, Bool.or_true, Bool.true_or, Bool.and_false, Bool.false_and, beq_self_eq_true, F102, own_enc, ho, check_pipe_ok (η := η) g.toHPip hk gp hs (fits60 hs gp), hd, x_rs]
end
end Ev

set_option Elab.async false
set_option linter.all false
set_option maxRecDepth 100000
/-! # Part D: another pipe put at a path -/
namespace Ev
open Law
open Pp
theorem cut_tail {α : Type} (x : α) (xs : List α) : cut (x :: xs) (some 1) none = xs := by
  have h1 : HT.sIx (x :: xs).length 0 (some 1) = 1 := by
    have := HT.sIx_nat (x :: xs).length 0 1
    simp only [Int.natCast_one] at this
    rw [this]; simp
  unfold cut
  rw [h1, HT.sIx_none]
  simp
theorem cut_take {α : Type} (xs : List α) (k : Nat) : cut xs none (some (k : Int)) = xs.take k := by
  unfold cut
  rw [HT.sIx_none, HT.sIx_nat]
  simp only [List.drop_zero, Nat.sub_zero]
  rw [List.take_eq_take_iff]
  omega
theorem enm_map (l : List D) : enm 0 l = (List.range l.length).map fun j => .tup [.int (j : Int), l.getD j .non] := by
  apply List.ext_getElem?
  intro i
  rw [enmGet, Nat.zero_add]
  by_cases h : i < l.length
  · simp [h]
  · rw [List.getElem?_eq_none (by omega), List.getElem?_eq_none (by simpa using h)]; rfl
theorem set_map (l : List D) (i : Nat) (v : D) : l.set i v = (List.range l.length).map fun j => if j = i then v else l.getD j .non := by
  apply List.ext_getElem?
  intro j
  by_cases h : j < l.length
  · by_cases hj : j = i
    · subst hj; rw [List.getElem?_set_self h]; simp [h]
    · rw [List.getElem?_set_ne (Ne.symm hj)]; simp [h, hj]
  · rw [List.getElem?_eq_none (by simpa using h), List.getElem?_eq_none (by simpa using h)]
namespace Pp
/-- d at the path, as data -/
def putD : Pp → List Nat → D → D
  | _, [], d => d
  | p, i :: r, d => match p.kids[i]? with
    | some q => .tup [.int p.len, sh p.wid, .tup [.str "fork", .tup ((encs p.kids).set i (putD q r d))]]
    | none => enc p
def put : Pp → List Nat → Pp → Pp
  | _, [], n => n
  | p, i :: r, n => match p.kids[i]? with
    | some q => .fork p.len p.wid (p.kids.set i (put q r n))
    | none => p
theorem putD_put : ∀ (path : List Nat) (p n : Pp), putD p path (enc n) = enc (put p path n)
  | [], p, n => by simp [putD, put]
  | i :: r, p, n => by
    simp only [putD, put]
    cases h : p.kids[i]? with
    | none => rfl
    | some q => simp only [enc, putD_put r q n, encs_map, List.map_set]
theorem goods_set : ∀ {ks : List Pp} {i : Nat} {q : Pp}, goods ks → good q → goods (ks.set i q)
  | [], _, _, h, _ => by simpa using h
  | a :: as, 0, q, h, hq => by simp only [goods, List.set_cons_zero] at h ⊢; exact ⟨hq, h.2⟩
  | a :: as, i + 1, q, h, hq => by simp only [goods, List.set_cons_succ] at h ⊢; exact ⟨h.1, goods_set h.2 hq⟩
theorem sizes_set : ∀ {ks : List Pp} {i : Nat} {q : Pp} {n : Nat}, (∀ p, ks[i]? = some p → size q ≤ size p + n) → sizes (ks.set i q) ≤ sizes ks + n
  | [], _, _, _, _ => by simp [sizes]
  | a :: as, 0, q, n, h => by have := h a rfl; simp only [sizes, List.set_cons_zero]; omega
  | a :: as, i + 1, q, n, h => by
    have := sizes_set (ks := as) (i := i) (q := q) (n := n) fun p hp => h p (by simpa using hp)
    simp only [sizes, List.set_cons_succ]; omega
theorem put_size : ∀ (path : List Nat) (p n : Pp), size (put p path n) ≤ size p + size n
  | [], p, n => by simp only [put]; omega
  | i :: r, p, n => by
    simp only [put]
    cases h : p.kids[i]? with
    | none => simp only []; omega
    | some q =>
      simp only [size]
      have := sizes_set (ks := p.kids) (i := i) (q := put q r n) (n := size n) fun p' hp => by
        rw [h] at hp; cases hp; exact put_size r q n
      have := size_eq p
      omega
theorem wok_wid {p : Pp} (h : good p) : wok p.wid := by
  cases p <;> simp only [good] at h <;> simp only [wid]
  · exact h.2
  · exact h.2
  · exact h.2.1
  · exact h.2.1
theorem put_good : ∀ (path : List Nat) (p n : Pp), good p → good n → good (put p path n)
  | [], p, n, _, h => by simpa only [put] using h
  | i :: r, p, n, gp, gn => by
    simp only [put]
    cases h : p.kids[i]? with
    | none => exact gp
    | some q =>
      have mq := List.mem_of_getElem? h
      have gq := goods_mem (good_kids gp) q mq
      simp only [good]
      refine ⟨len_pos gp, wok_wid gp, ?_, by rw [List.length_set]; exact kids_few gp, goods_set (good_kids gp) (put_good r q n gq gn)⟩
      intro e
      have l0 := congrArg List.length e
      rw [List.length_set, List.length_nil] at l0
      have := (List.getElem?_eq_some_iff.mp h).1
      omega
end Pp
section
variable {Γ : Nat → Option Fd}
def E97 : E := (.ite (.cmp .eq (.var 4) (.idx (.var 1) (.lit (.int 0)))) (.call 97 (.cons (.var 5) (.cons (.slc (.var 1) (.so (.lit (.int 1))) .no) (.cons (.var 2) .nil)))) (.var 5))

theorem eqD_path (i : Nat) (r : List Nat) {η : Hep} : eqD (encP (i :: r)) (.tup []) η = some false := by
  have pl : ∀ l : List Nat, D.plains (l.map fun (i : Nat) => D.int (i : Int)) = true := fun l => by
    induction l with
    | nil => rfl
    | cons a l ih => simp [D.plains, D.plain, ih]
  have dp : ∀ l : List Nat, D.deps (l.map fun (i : Nat) => D.int (i : Int)) = 0 := fun l => by
    induction l with
    | nil => rfl
    | cons a l ih => simp [D.deps, D.dep, ih]
  have h := pl (i :: r)
  have d := dp (i :: r)
  unfold encP
  simp only [eqD, opn, seqOf, D.plain1, D.plain, h, D.dep, d, D.eq]
  rw [eqs_len (by simp)]
  simp [D.plains, D.deps]
theorem eqD_nil {η : Hep} : eqD (encP []) (.tup []) η = some true := by
  simp [encP, eqD, opn, seqOf, D.plain1, D.plain, D.plains, D.dep, D.deps, D.eq, D.eqs]
theorem slc_path (i : Nat) (r : List Nat) {η : Hep} : slcD (encP (i :: r)) (some 1) none η = some (encP r) := by
  unfold encP
  simp only [slcD, List.map_cons, cut_tail]
theorem idx_path (i : Nat) (r : List Nat) {η : Hep} : idxD (encP (i :: r)) (.int 0) η = some (.int (i : Int)) := at0
theorem endD_kids {p q : Pp} {i : Nat} (h : p.kids[i]? = some q) : p.endD = .tup [.str "fork", .tup (encs p.kids)] := by
  cases p <;> simp [kids] at h
  rfl
/-- what stands in the kids' places -/
theorem put_comp {C : Nat → List D → Hep → R D} {a b : Nat} (ab : a ≠ b) {elt : E} {η : Hep} {p q : Pp} {i : Nat} {r : List Nat} {d : D} {ρ : Lo} (hk : p.kids[i]? = some q) (few : p.kids.length ≤ 6) (od : own (putD q r d) η = .ok (putD q r d) η)
    (he : ∀ j, j < p.kids.length → ev C elt ((ρ.set a (some (.int (j : Int)))).set b (some ((encs p.kids).getD j .non))) η = .ok (if j = i then putD q r d else (encs p.kids).getD j .non) η) :
    cE C elt .no (.tp [.nm a, .nm b]) [] ρ (enm 0 (encs p.kids)) η [] = .ok ((encs p.kids).set i (putD q r d)) η := by
  rw [enm_map, set_map, encs_len]
  have := c_map (C := C) (elt := elt) (t := .tp [.nm a, .nm b]) (w := []) (η := η) (ρ := ρ) rfl (fun j : Nat => D.tup [.int (j : Int), (encs p.kids).getD j .non]) (fun j => if j = i then putD q r d else (encs p.kids).getD j .non) (List.range p.kids.length) [] (by
    have : (7 : Nat) ≤ PySem.sizeLine := by decide
    simp; omega) (fun j hj => ⟨_, rfl, he j (List.mem_range.mp hj), by
      by_cases h : j = i
      · simp only [h, if_true]; exact od
      · simp only [h, if_false]
        have hj' := List.mem_range.mp hj
        rw [List.getD_eq_getElem?_getD, List.getElem?_eq_getElem (by rw [encs_len]; exact hj')]
        simp only [Option.getD_some, encs_map, List.getElem_map]
        exact own_enc _⟩)
  rw [this]; rfl
theorem blws_set {n : Nat} {v : D} (h : v.blw n = true) : ∀ {l : List D} {i : Nat}, D.blws n l = true → D.blws n (l.set i v) = true
  | [], _, hl => by simpa using hl
  | a :: l, 0, hl => by simp only [D.blws, List.set_cons_zero, Bool.and_eq_true] at hl ⊢; exact ⟨h, hl.2⟩
  | a :: l, i + 1, hl => by simp only [D.blws, List.set_cons_succ, Bool.and_eq_true] at hl ⊢; exact ⟨hl.1, blws_set h hl.2⟩
theorem putD_blw {n : Nat} {d : D} (hd : ∀ n, d.blw n = true) : ∀ (path : List Nat) (p : Pp), (putD p path d).blw n = true
  | [], p => by simpa only [putD] using hd n
  | i :: r, p => by
    simp only [putD]
    split
    · rename_i q h
      simp only [D.blw, D.blws, sh, Bool.and_true, Bool.true_and]
      exact blws_set (putD_blw hd r q) (encs_blw n _)
    · exact enc_blw n p
/-- the program's own hand -/
theorem rep_ok {η : Hep} {d : D} (h : Γ 107 = some F107) (od : own d η = .ok d η) (hd : ∀ n, d.blw n = true) : ∀ (path : List Nat) (K : Nat) (p q : Pp), path.length ≤ K → at' p path = some q → good p → fin η (callN Γ (K + 1) 107 [enc p, encP path, d] η) = .ok (putD p path d) η
  | [], K, p, q, _, _, _ => by
    rw [call_eq h rfl]
    simp only [putD]
    simp -implicitDefEqProofs only [e_lit, e_var, e_glb, e_bin, e_bin1, e_bin2, e_neg, e_neg1, e_cmp, e_cmp1, e_cmp2, e_chn, e_chn1, e_chn2, e_chn3, e_chn4, e_isn, e_isn1, e_isn2, e_and, e_and1, e_and2, e_or, e_or1, e_or2, e_not, e_not1, e_ite, e_ite1, e_ite2, e_tup, e_tup1, e_lst, e_lst1, e_idx, e_idx1, e_idx2, e_slc, e_slc1, e_slc2, e_slc3, e_call, e_call1, e_prim, e_prim1, e_isi, e_isi1, e_isi2, e_meth, e_meth1, e_meth2, e_comp, e_comp1, e_tl, es_nil, es_cons, es_cons1, es_cons2, es_cons3, ep_nil, ep_cons, ep_cons1, eo_no, eo_so, eo_so1, ec_no, ec_so, ei_val, ei_val1, ei_rg, ei_rg1, ei_rg2, ei_rg3, ei_rg4, ei_enm, ei_enm1, ei_zip, ei_zip1, ei_zip2, ei_zip3, ei_rev, ei_rev1, c_nil, x_asg, x_asg1, x_asg2, x_asg3, x_par, x_par1, x_par3, x_par31, x_sub, x_sub1, x_sub2, x_sub3, x_sub4, x_sub5, x_aug, x_aug0, x_aug1, x_aug2, x_augS, x_augS1, x_augS2, x_augS3, x_augS4, x_augS5, x_ret, x_ret1, x_ret2, x_retN, x_ex, x_ex1, x_ex2, x_pass, x_brk, x_cnt, x_if, x_if1, x_if2, x_whl, x_fr, x_fr1, x_rs, x_tr, x_tr1, x_tr2, x_tr3, x_h, x_noX1, x_noX2, x_noX3, xs_nx, xs_rt, xs_bk, xs_ct, xs_ex, f_nil, t_nx, t_rt, t_exc, own_tl, own_int, own_bl, own_non, own_str, own_tup, own_ref, own_fl, xs_nil, xs_cons, start, bindT, bindTs, R.of_some, R.of_none, List.length_cons, List.length_nil, List.map_cons, List.map_nil, List.getElem?_cons_zero, List.getElem?_cons_succ, List.set_cons_zero, List.set_cons_succ, Nat.reduceAdd, Nat.reduceSub, List.cons_append, List.nil_append, List.append_nil, List.replicate, Nat.zero_add, reduceIte, Option.map_some, Option.map_none, fin_same, Bool.not_true, Bool.not_false, Bool.false_eq_true, tyD, primD, binD, sz0, sz1, sz2, sz3, sz4, sz5, sz6, sz7, sz8, nc0, nc1, nc2, nc3, nc4, nc5, nc6, nc7, nc8, Nat.reduceEqDiff, Option.bind_some, Int.reduceLE, Int.reduceLT, Int.reduceEq, Int.reduceToNat, Int.reduceAdd, Int.reduceSub, Int.reduceMul, Int.reduceNeg, Nat.reduceMul, ne_eq, not_false_eq_true, not_true_eq_false, decide_true, decide_false, Bool.and_true, Bool.true_and, Bool.or_false, Bool.false_or, Bool.or_true, Bool.true_or, Bool.and_false, Bool.false_and, beq_self_eq_true, F107, cmpD, eqD_nil]
  | i :: r, 0, p, q, hk, _, _ => by simp at hk
  | i :: r, K + 1, p, q, hk, ha, gp => by
    simp only [at'] at ha
    cases hq : p.kids[i]? with
    | none => rw [hq] at ha; cases ha
    | some p' =>
      rw [hq] at ha
      have ih := rep_ok h od hd r K p' q (by simpa using hk) ha (goods_mem (good_kids gp) p' (List.mem_of_getElem? hq))
      have few := kids_few gp
      have odp : own (putD p' r d) η = .ok (putD p' r d) η := by
        cases r with
        | nil => simpa only [putD] using od
        | cons j r' =>
          simp only [putD]
          split
          · rfl
          · exact own_enc _
      have c := put_comp (C := callN Γ (K + 1)) (a := 7) (b := 8) (by decide) (elt := E107) (η := η) (r := r) (d := d) (i := i) (ρ := wipe [some (enc p), some (encP (i :: r)), some d, none, some (.int (p.len : Int)), some (sh p.wid), some p.endD, none, none] [7, 8]) hq few odp (fun j hj => by
        have gj : (encs p.kids).getD j .non = enc p.kids[j] := by
          rw [List.getD_eq_getElem?_getD, List.getElem?_eq_getElem (by rw [encs_len]; exact hj)]
          simp only [Option.getD_some, encs_map, List.getElem_map]
        rw [gj]
        unfold E107
        by_cases hj' : j = i
        · subst hj'
          have e1 : decide ((j : Int) = (j : Int)) = true := decide_eq_true rfl
          have e2 : p.kids[j] = p' := by
            have := List.getElem?_eq_getElem hj
            rw [hq] at this; exact (Option.some.inj this).symm
          rw [e2]
          simp -implicitDefEqProofs only [e_lit, e_var, e_glb, e_bin, e_bin1, e_bin2, e_neg, e_neg1, e_cmp, e_cmp1, e_cmp2, e_chn, e_chn1, e_chn2, e_chn3, e_chn4, e_isn, e_isn1, e_isn2, e_and, e_and1, e_and2, e_or, e_or1, e_or2, e_not, e_not1, e_ite, e_ite1, e_ite2, e_tup, e_tup1, e_lst, e_lst1, e_idx, e_idx1, e_idx2, e_slc, e_slc1, e_slc2, e_slc3, e_call, e_call1, e_prim, e_prim1, e_isi, e_isi1, e_isi2, e_meth, e_meth1, e_meth2, e_comp, e_comp1, e_tl, es_nil, es_cons, es_cons1, es_cons2, es_cons3, ep_nil, ep_cons, ep_cons1, eo_no, eo_so, eo_so1, ec_no, ec_so, ei_val, ei_val1, ei_rg, ei_rg1, ei_rg2, ei_rg3, ei_rg4, ei_enm, ei_enm1, ei_zip, ei_zip1, ei_zip2, ei_zip3, ei_rev, ei_rev1, c_nil, x_asg, x_asg1, x_asg2, x_asg3, x_par, x_par1, x_par3, x_par31, x_sub, x_sub1, x_sub2, x_sub3, x_sub4, x_sub5, x_aug, x_aug0, x_aug1, x_aug2, x_augS, x_augS1, x_augS2, x_augS3, x_augS4, x_augS5, x_ret, x_ret1, x_ret2, x_retN, x_ex, x_ex1, x_ex2, x_pass, x_brk, x_cnt, x_if, x_if1, x_if2, x_whl, x_fr, x_fr1, x_rs, x_tr, x_tr1, x_tr2, x_tr3, x_h, x_noX1, x_noX2, x_noX3, xs_nx, xs_rt, xs_bk, xs_ct, xs_ex, f_nil, t_nx, t_rt, t_exc, own_tl, own_int, own_bl, own_non, own_str, own_tup, own_ref, own_fl, xs_nil, xs_cons, start, bindT, bindTs, R.of_some, R.of_none, List.length_cons, List.length_nil, List.map_cons, List.map_nil, List.getElem?_cons_zero, List.getElem?_cons_succ, List.set_cons_zero, List.set_cons_succ, Nat.reduceAdd, Nat.reduceSub, List.cons_append, List.nil_append, List.append_nil, List.replicate, Nat.zero_add, reduceIte, Option.map_some, Option.map_none, fin_same, Bool.not_true, Bool.not_false, Bool.false_eq_true, tyD, primD, binD, sz0, sz1, sz2, sz3, sz4, sz5, sz6, sz7, sz8, nc0, nc1, nc2, nc3, nc4, nc5, nc6, nc7, nc8, Nat.reduceEqDiff, Option.bind_some, Int.reduceLE, Int.reduceLT, Int.reduceEq, Int.reduceToNat, Int.reduceAdd, Int.reduceSub, Int.reduceMul, Int.reduceNeg, Nat.reduceMul, ne_eq, not_false_eq_true, not_true_eq_false, decide_true, decide_false, Bool.and_true, Bool.true_and, Bool.or_false, Bool.false_or, Bool.or_true, Bool.true_or, Bool.and_false, Bool.false_and, beq_self_eq_true, wipe, idx_path, cmpD, eqD_int, e1, own_enc, slc_path, own_encP, od, ih]
        · have e1 : decide ((j : Int) = (i : Int)) = false := decide_eq_false (by omega)
          rw [if_neg hj']
          simp -implicitDefEqProofs only [e_lit, e_var, e_glb, e_bin, e_bin1, e_bin2, e_neg, e_neg1, e_cmp, e_cmp1, e_cmp2, e_chn, e_chn1, e_chn2, e_chn3, e_chn4, e_isn, e_isn1, e_isn2, e_and, e_and1, e_and2, e_or, e_or1, e_or2, e_not, e_not1, e_ite, e_ite1, e_ite2, e_tup, e_tup1, e_lst, e_lst1, e_idx, e_idx1, e_idx2, e_slc, e_slc1, e_slc2, e_slc3, e_call, e_call1, e_prim, e_prim1, e_isi, e_isi1, e_isi2, e_meth, e_meth1, e_meth2, e_comp, e_comp1, e_tl, es_nil, es_cons, es_cons1, es_cons2, es_cons3, ep_nil, ep_cons, ep_cons1, eo_no, eo_so, eo_so1, ec_no, ec_so, ei_val, ei_val1, ei_rg, ei_rg1, ei_rg2, ei_rg3, ei_rg4, ei_enm, ei_enm1, ei_zip, ei_zip1, ei_zip2, ei_zip3, ei_rev, ei_rev1, c_nil, x_asg, x_asg1, x_asg2, x_asg3, x_par, x_par1, x_par3, x_par31, x_sub, x_sub1, x_sub2, x_sub3, x_sub4, x_sub5, x_aug, x_aug0, x_aug1, x_aug2, x_augS, x_augS1, x_augS2, x_augS3, x_augS4, x_augS5, x_ret, x_ret1, x_ret2, x_retN, x_ex, x_ex1, x_ex2, x_pass, x_brk, x_cnt, x_if, x_if1, x_if2, x_whl, x_fr, x_fr1, x_rs, x_tr, x_tr1, x_tr2, x_tr3, x_h, x_noX1, x_noX2, x_noX3, xs_nx, xs_rt, xs_bk, xs_ct, xs_ex, f_nil, t_nx, t_rt, t_exc, own_tl, own_int, own_bl, own_non, own_str, own_tup, own_ref, own_fl, xs_nil, xs_cons, start, bindT, bindTs, R.of_some, R.of_none, List.length_cons, List.length_nil, List.map_cons, List.map_nil, List.getElem?_cons_zero, List.getElem?_cons_succ, List.set_cons_zero, List.set_cons_succ, Nat.reduceAdd, Nat.reduceSub, List.cons_append, List.nil_append, List.append_nil, List.replicate, Nat.zero_add, reduceIte, Option.map_some, Option.map_none, fin_same, Bool.not_true, Bool.not_false, Bool.false_eq_true, tyD, primD, binD, sz0, sz1, sz2, sz3, sz4, sz5, sz6, sz7, sz8, nc0, nc1, nc2, nc3, nc4, nc5, nc6, nc7, nc8, Nat.reduceEqDiff, Option.bind_some, Int.reduceLE, Int.reduceLT, Int.reduceEq, Int.reduceToNat, Int.reduceAdd, Int.reduceSub, Int.reduceMul, Int.reduceNeg, Nat.reduceMul, ne_eq, not_false_eq_true, not_true_eq_false, decide_true, decide_false, Bool.and_true, Bool.true_and, Bool.or_false, Bool.false_or, Bool.or_true, Bool.true_or, Bool.and_false, Bool.false_and, beq_self_eq_true, wipe, idx_path, cmpD, eqD_int, e1])
      unfold E107 at c
      have bl := putD_blw (n := η.length) hd (i :: r) p
      rw [call_eq h rfl]
      simp only [putD, hq] at bl ⊢
      have sl : ((encs p.kids).set i (putD p' r d)).length ≤ PySem.sizeLine := by
        have : (7 : Nat) ≤ PySem.sizeLine := by decide
        rw [List.length_set, encs_len]; omega
      rw [endD_kids hq] at c
      rw [enc_eq p, endD_kids hq] at *
      simp -implicitDefEqProofs only [e_lit, e_var, e_glb, e_bin, e_bin1, e_bin2, e_neg, e_neg1, e_cmp, e_cmp1, e_cmp2, e_chn, e_chn1, e_chn2, e_chn3, e_chn4, e_isn, e_isn1, e_isn2, e_and, e_and1, e_and2, e_or, e_or1, e_or2, e_not, e_not1, e_ite, e_ite1, e_ite2, e_tup, e_tup1, e_lst, e_lst1, e_idx, e_idx1, e_idx2, e_slc, e_slc1, e_slc2, e_slc3, e_call, e_call1, e_prim, e_prim1, e_isi, e_isi1, e_isi2, e_meth, e_meth1, e_meth2, e_comp, e_comp1, e_tl, es_nil, es_cons, es_cons1, es_cons2, es_cons3, ep_nil, ep_cons, ep_cons1, eo_no, eo_so, eo_so1, ec_no, ec_so, ei_val, ei_val1, ei_rg, ei_rg1, ei_rg2, ei_rg3, ei_rg4, ei_enm, ei_enm1, ei_zip, ei_zip1, ei_zip2, ei_zip3, ei_rev, ei_rev1, c_nil, x_asg, x_asg1, x_asg2, x_asg3, x_par, x_par1, x_par3, x_par31, x_sub, x_sub1, x_sub2, x_sub3, x_sub4, x_sub5, x_aug, x_aug0, x_aug1, x_aug2, x_augS, x_augS1, x_augS2, x_augS3, x_augS4, x_augS5, x_ret, x_ret1, x_ret2, x_retN, x_ex, x_ex1, x_ex2, x_pass, x_brk, x_cnt, x_if, x_if1, x_if2, x_whl, x_fr, x_fr1, x_rs, x_tr, x_tr1, x_tr2, x_tr3, x_h, x_noX1, x_noX2, x_noX3, xs_nx, xs_rt, xs_bk, xs_ct, xs_ex, f_nil, t_nx, t_rt, t_exc, own_tl, own_int, own_bl, own_non, own_str, own_tup, own_ref, own_fl, xs_nil, xs_cons, start, bindT, bindTs, R.of_some, R.of_none, List.length_cons, List.length_nil, List.map_cons, List.map_nil, List.getElem?_cons_zero, List.getElem?_cons_succ, List.set_cons_zero, List.set_cons_succ, Nat.reduceAdd, Nat.reduceSub, List.cons_append, List.nil_append, List.append_nil, List.replicate, Nat.zero_add, reduceIte, Option.map_some, Option.map_none, fin_same, Bool.not_true, Bool.not_false, Bool.false_eq_true, tyD, primD, binD, sz0, sz1, sz2, sz3, sz4, sz5, sz6, sz7, sz8, nc0, nc1, nc2, nc3, nc4, nc5, nc6, nc7, nc8, Nat.reduceEqDiff, Option.bind_some, Int.reduceLE, Int.reduceLT, Int.reduceEq, Int.reduceToNat, Int.reduceAdd, Int.reduceSub, Int.reduceMul, Int.reduceNeg, Nat.reduceMul, ne_eq, not_false_eq_true, not_true_eq_false, decide_true, decide_false, Bool.and_true, Bool.true_and, Bool.or_false, Bool.false_or, Bool.or_true, Bool.true_or, Bool.and_false, Bool.false_and, beq_self_eq_true, F107, cmpD, eqD_path, own_sh, own_encP, idx_tup, at1, seqAny, watchOf, c, seqOf, List.getElem?_concat_length, fin_drop bl]
/-- the law's own hand -/
theorem lput_ok {η : Hep} {d : D} (h : Γ 97 = some F97) (h94 : Γ 94 = some F94) (od : own d η = .ok d η) (hd : ∀ n, d.blw n = true) : ∀ (path : List Nat) (K : Nat) (p q : Pp), path.length ≤ K → at' p path = some q → good p → fin η (callN Γ (K + 2) 97 [enc p, encP path, d] η) = .ok (putD p path d) η
  | [], K, p, q, _, _, _ => by
    rw [call_eq h rfl]
    simp only [putD]
    simp -implicitDefEqProofs only [e_lit, e_var, e_glb, e_bin, e_bin1, e_bin2, e_neg, e_neg1, e_cmp, e_cmp1, e_cmp2, e_chn, e_chn1, e_chn2, e_chn3, e_chn4, e_isn, e_isn1, e_isn2, e_and, e_and1, e_and2, e_or, e_or1, e_or2, e_not, e_not1, e_ite, e_ite1, e_ite2, e_tup, e_tup1, e_lst, e_lst1, e_idx, e_idx1, e_idx2, e_slc, e_slc1, e_slc2, e_slc3, e_call, e_call1, e_prim, e_prim1, e_isi, e_isi1, e_isi2, e_meth, e_meth1, e_meth2, e_comp, e_comp1, e_tl, es_nil, es_cons, es_cons1, es_cons2, es_cons3, ep_nil, ep_cons, ep_cons1, eo_no, eo_so, eo_so1, ec_no, ec_so, ei_val, ei_val1, ei_rg, ei_rg1, ei_rg2, ei_rg3, ei_rg4, ei_enm, ei_enm1, ei_zip, ei_zip1, ei_zip2, ei_zip3, ei_rev, ei_rev1, c_nil, x_asg, x_asg1, x_asg2, x_asg3, x_par, x_par1, x_par3, x_par31, x_sub, x_sub1, x_sub2, x_sub3, x_sub4, x_sub5, x_aug, x_aug0, x_aug1, x_aug2, x_augS, x_augS1, x_augS2, x_augS3, x_augS4, x_augS5, x_ret, x_ret1, x_ret2, x_retN, x_ex, x_ex1, x_ex2, x_pass, x_brk, x_cnt, x_if, x_if1, x_if2, x_whl, x_fr, x_fr1, x_rs, x_tr, x_tr1, x_tr2, x_tr3, x_h, x_noX1, x_noX2, x_noX3, xs_nx, xs_rt, xs_bk, xs_ct, xs_ex, f_nil, t_nx, t_rt, t_exc, own_tl, own_int, own_bl, own_non, own_str, own_tup, own_ref, own_fl, xs_nil, xs_cons, start, bindT, bindTs, R.of_some, R.of_none, List.length_cons, List.length_nil, List.map_cons, List.map_nil, List.getElem?_cons_zero, List.getElem?_cons_succ, List.set_cons_zero, List.set_cons_succ, Nat.reduceAdd, Nat.reduceSub, List.cons_append, List.nil_append, List.append_nil, List.replicate, Nat.zero_add, reduceIte, Option.map_some, Option.map_none, fin_same, Bool.not_true, Bool.not_false, Bool.false_eq_true, tyD, primD, binD, sz0, sz1, sz2, sz3, sz4, sz5, sz6, sz7, sz8, nc0, nc1, nc2, nc3, nc4, nc5, nc6, nc7, nc8, Nat.reduceEqDiff, Option.bind_some, Int.reduceLE, Int.reduceLT, Int.reduceEq, Int.reduceToNat, Int.reduceAdd, Int.reduceSub, Int.reduceMul, Int.reduceNeg, Nat.reduceMul, ne_eq, not_false_eq_true, not_true_eq_false, decide_true, decide_false, Bool.and_true, Bool.true_and, Bool.or_false, Bool.false_or, Bool.or_true, Bool.true_or, Bool.and_false, Bool.false_and, beq_self_eq_true, F97, cmpD, eqD_nil]
  | i :: r, 0, p, q, hk, _, _ => by simp at hk
  | i :: r, K + 1, p, q, hk, ha, gp => by
    simp only [at'] at ha
    cases hq : p.kids[i]? with
    | none => rw [hq] at ha; cases ha
    | some p' =>
      rw [hq] at ha
      have ih := lput_ok h h94 od hd r K p' q (by simpa using hk) ha (goods_mem (good_kids gp) p' (List.mem_of_getElem? hq))
      have few := kids_few gp
      have odp : own (putD p' r d) η = .ok (putD p' r d) η := by
        cases r with
        | nil => simpa only [putD] using od
        | cons j r' =>
          simp only [putD]
          split
          · rfl
          · exact own_enc _
      have c := put_comp (C := callN Γ (K + 2)) (a := 4) (b := 5) (by decide) (elt := E97) (η := η) (r := r) (d := d) (i := i) (ρ := wipe [some (enc p), some (encP (i :: r)), some d, none, none, none] [4, 5]) hq few odp (fun j hj => by
        have gj : (encs p.kids).getD j .non = enc p.kids[j] := by
          rw [List.getD_eq_getElem?_getD, List.getElem?_eq_getElem (by rw [encs_len]; exact hj)]
          simp only [Option.getD_some, encs_map, List.getElem_map]
        rw [gj]
        unfold E97
        by_cases hj' : j = i
        · subst hj'
          have e1 : decide ((j : Int) = (j : Int)) = true := decide_eq_true rfl
          have e2 : p.kids[j] = p' := by
            have := List.getElem?_eq_getElem hj
            rw [hq] at this; exact (Option.some.inj this).symm
          rw [e2]
          simp -implicitDefEqProofs only [e_lit, e_var, e_glb, e_bin, e_bin1, e_bin2, e_neg, e_neg1, e_cmp, e_cmp1, e_cmp2, e_chn, e_chn1, e_chn2, e_chn3, e_chn4, e_isn, e_isn1, e_isn2, e_and, e_and1, e_and2, e_or, e_or1, e_or2, e_not, e_not1, e_ite, e_ite1, e_ite2, e_tup, e_tup1, e_lst, e_lst1, e_idx, e_idx1, e_idx2, e_slc, e_slc1, e_slc2, e_slc3, e_call, e_call1, e_prim, e_prim1, e_isi, e_isi1, e_isi2, e_meth, e_meth1, e_meth2, e_comp, e_comp1, e_tl, es_nil, es_cons, es_cons1, es_cons2, es_cons3, ep_nil, ep_cons, ep_cons1, eo_no, eo_so, eo_so1, ec_no, ec_so, ei_val, ei_val1, ei_rg, ei_rg1, ei_rg2, ei_rg3, ei_rg4, ei_enm, ei_enm1, ei_zip, ei_zip1, ei_zip2, ei_zip3, ei_rev, ei_rev1, c_nil, x_asg, x_asg1, x_asg2, x_asg3, x_par, x_par1, x_par3, x_par31, x_sub, x_sub1, x_sub2, x_sub3, x_sub4, x_sub5, x_aug, x_aug0, x_aug1, x_aug2, x_augS, x_augS1, x_augS2, x_augS3, x_augS4, x_augS5, x_ret, x_ret1, x_ret2, x_retN, x_ex, x_ex1, x_ex2, x_pass, x_brk, x_cnt, x_if, x_if1, x_if2, x_whl, x_fr, x_fr1, x_rs, x_tr, x_tr1, x_tr2, x_tr3, x_h, x_noX1, x_noX2, x_noX3, xs_nx, xs_rt, xs_bk, xs_ct, xs_ex, f_nil, t_nx, t_rt, t_exc, own_tl, own_int, own_bl, own_non, own_str, own_tup, own_ref, own_fl, xs_nil, xs_cons, start, bindT, bindTs, R.of_some, R.of_none, List.length_cons, List.length_nil, List.map_cons, List.map_nil, List.getElem?_cons_zero, List.getElem?_cons_succ, List.set_cons_zero, List.set_cons_succ, Nat.reduceAdd, Nat.reduceSub, List.cons_append, List.nil_append, List.append_nil, List.replicate, Nat.zero_add, reduceIte, Option.map_some, Option.map_none, fin_same, Bool.not_true, Bool.not_false, Bool.false_eq_true, tyD, primD, binD, sz0, sz1, sz2, sz3, sz4, sz5, sz6, sz7, sz8, nc0, nc1, nc2, nc3, nc4, nc5, nc6, nc7, nc8, Nat.reduceEqDiff, Option.bind_some, Int.reduceLE, Int.reduceLT, Int.reduceEq, Int.reduceToNat, Int.reduceAdd, Int.reduceSub, Int.reduceMul, Int.reduceNeg, Nat.reduceMul, ne_eq, not_false_eq_true, not_true_eq_false, decide_true, decide_false, Bool.and_true, Bool.true_and, Bool.or_false, Bool.false_or, Bool.or_true, Bool.true_or, Bool.and_false, Bool.false_and, beq_self_eq_true, wipe, idx_path, cmpD, eqD_int, e1, own_enc, slc_path, own_encP, od, ih]
        · have e1 : decide ((j : Int) = (i : Int)) = false := decide_eq_false (by omega)
          rw [if_neg hj']
          simp -implicitDefEqProofs only [e_lit, e_var, e_glb, e_bin, e_bin1, e_bin2, e_neg, e_neg1, e_cmp, e_cmp1, e_cmp2, e_chn, e_chn1, e_chn2, e_chn3, e_chn4, e_isn, e_isn1, e_isn2, e_and, e_and1, e_and2, e_or, e_or1, e_or2, e_not, e_not1, e_ite, e_ite1, e_ite2, e_tup, e_tup1, e_lst, e_lst1, e_idx, e_idx1, e_idx2, e_slc, e_slc1, e_slc2, e_slc3, e_call, e_call1, e_prim, e_prim1, e_isi, e_isi1, e_isi2, e_meth, e_meth1, e_meth2, e_comp, e_comp1, e_tl, es_nil, es_cons, es_cons1, es_cons2, es_cons3, ep_nil, ep_cons, ep_cons1, eo_no, eo_so, eo_so1, ec_no, ec_so, ei_val, ei_val1, ei_rg, ei_rg1, ei_rg2, ei_rg3, ei_rg4, ei_enm, ei_enm1, ei_zip, ei_zip1, ei_zip2, ei_zip3, ei_rev, ei_rev1, c_nil, x_asg, x_asg1, x_asg2, x_asg3, x_par, x_par1, x_par3, x_par31, x_sub, x_sub1, x_sub2, x_sub3, x_sub4, x_sub5, x_aug, x_aug0, x_aug1, x_aug2, x_augS, x_augS1, x_augS2, x_augS3, x_augS4, x_augS5, x_ret, x_ret1, x_ret2, x_retN, x_ex, x_ex1, x_ex2, x_pass, x_brk, x_cnt, x_if, x_if1, x_if2, x_whl, x_fr, x_fr1, x_rs, x_tr, x_tr1, x_tr2, x_tr3, x_h, x_noX1, x_noX2, x_noX3, xs_nx, xs_rt, xs_bk, xs_ct, xs_ex, f_nil, t_nx, t_rt, t_exc, own_tl, own_int, own_bl, own_non, own_str, own_tup, own_ref, own_fl, xs_nil, xs_cons, start, bindT, bindTs, R.of_some, R.of_none, List.length_cons, List.length_nil, List.map_cons, List.map_nil, List.getElem?_cons_zero, List.getElem?_cons_succ, List.set_cons_zero, List.set_cons_succ, Nat.reduceAdd, Nat.reduceSub, List.cons_append, List.nil_append, List.append_nil, List.replicate, Nat.zero_add, reduceIte, Option.map_some, Option.map_none, fin_same, Bool.not_true, Bool.not_false, Bool.false_eq_true, tyD, primD, binD, sz0, sz1, sz2, sz3, sz4, sz5, sz6, sz7, sz8, nc0, nc1, nc2, nc3, nc4, nc5, nc6, nc7, nc8, Nat.reduceEqDiff, Option.bind_some, Int.reduceLE, Int.reduceLT, Int.reduceEq, Int.reduceToNat, Int.reduceAdd, Int.reduceSub, Int.reduceMul, Int.reduceNeg, Nat.reduceMul, ne_eq, not_false_eq_true, not_true_eq_false, decide_true, decide_false, Bool.and_true, Bool.true_and, Bool.or_false, Bool.false_or, Bool.or_true, Bool.true_or, Bool.and_false, Bool.false_and, beq_self_eq_true, wipe, idx_path, cmpD, eqD_int, e1])
      unfold E97 at c
      have bl := putD_blw (n := η.length) hd (i :: r) p
      have i0 : ∀ η, idxD (enc p) (.int 0) η = some (.int (p.len : Int)) := fun η => by rw [enc_eq p, idx_tup, at0]
      have i1 : ∀ η, idxD (enc p) (.int 1) η = some (sh p.wid) := fun η => by rw [enc_eq p, idx_tup, at1]
      rw [call_eq h rfl]
      simp only [putD, hq] at bl ⊢
      simp -implicitDefEqProofs only [e_lit, e_var, e_glb, e_bin, e_bin1, e_bin2, e_neg, e_neg1, e_cmp, e_cmp1, e_cmp2, e_chn, e_chn1, e_chn2, e_chn3, e_chn4, e_isn, e_isn1, e_isn2, e_and, e_and1, e_and2, e_or, e_or1, e_or2, e_not, e_not1, e_ite, e_ite1, e_ite2, e_tup, e_tup1, e_lst, e_lst1, e_idx, e_idx1, e_idx2, e_slc, e_slc1, e_slc2, e_slc3, e_call, e_call1, e_prim, e_prim1, e_isi, e_isi1, e_isi2, e_meth, e_meth1, e_meth2, e_comp, e_comp1, e_tl, es_nil, es_cons, es_cons1, es_cons2, es_cons3, ep_nil, ep_cons, ep_cons1, eo_no, eo_so, eo_so1, ec_no, ec_so, ei_val, ei_val1, ei_rg, ei_rg1, ei_rg2, ei_rg3, ei_rg4, ei_enm, ei_enm1, ei_zip, ei_zip1, ei_zip2, ei_zip3, ei_rev, ei_rev1, c_nil, x_asg, x_asg1, x_asg2, x_asg3, x_par, x_par1, x_par3, x_par31, x_sub, x_sub1, x_sub2, x_sub3, x_sub4, x_sub5, x_aug, x_aug0, x_aug1, x_aug2, x_augS, x_augS1, x_augS2, x_augS3, x_augS4, x_augS5, x_ret, x_ret1, x_ret2, x_retN, x_ex, x_ex1, x_ex2, x_pass, x_brk, x_cnt, x_if, x_if1, x_if2, x_whl, x_fr, x_fr1, x_rs, x_tr, x_tr1, x_tr2, x_tr3, x_h, x_noX1, x_noX2, x_noX3, xs_nx, xs_rt, xs_bk, xs_ct, xs_ex, f_nil, t_nx, t_rt, t_exc, own_tl, own_int, own_bl, own_non, own_str, own_tup, own_ref, own_fl, xs_nil, xs_cons, start, bindT, bindTs, R.of_some, R.of_none, List.length_cons, List.length_nil, List.map_cons, List.map_nil, List.getElem?_cons_zero, List.getElem?_cons_succ, List.set_cons_zero, List.set_cons_succ, Nat.reduceAdd, Nat.reduceSub, List.cons_append, List.nil_append, List.append_nil, List.replicate, Nat.zero_add, reduceIte, Option.map_some, Option.map_none, fin_same, Bool.not_true, Bool.not_false, Bool.false_eq_true, tyD, primD, binD, sz0, sz1, sz2, sz3, sz4, sz5, sz6, sz7, sz8, nc0, nc1, nc2, nc3, nc4, nc5, nc6, nc7, nc8, Nat.reduceEqDiff, Option.bind_some, Int.reduceLE, Int.reduceLT, Int.reduceEq, Int.reduceToNat, Int.reduceAdd, Int.reduceSub, Int.reduceMul, Int.reduceNeg, Nat.reduceMul, ne_eq, not_false_eq_true, not_true_eq_false, decide_true, decide_false, Bool.and_true, Bool.true_and, Bool.or_false, Bool.false_or, Bool.or_true, Bool.true_or, Bool.and_false, Bool.false_and, beq_self_eq_true, F97, cmpD, eqD_path, own_sh, own_enc, lkids_ok h94 p (k := K + 1), seqAny, watchOf, c, seqOf, i0, i1, List.getElem?_concat_length, fin_drop bl]
theorem replaced_ok (g : HPth Γ) (h106 : Γ 106 = some F106) (h107 : Γ 107 = some F107) {K : Nat} {η : Hep} {p q n : Pp} {path : List Nat} (hk : dep p + dep n ≤ K) (hdn : dep (put p path n) ≤ K) (gp : good p) (gn : good n) (hs : size p + size n ≤ 60) (hl : path.length ≤ K) (hK : K ≤ 1000) (ha : at' p path = some q) :
    callN Γ (K + 8) 106 [enc p, encP path, enc n] η = .ok (enc (put p path n)) η := by
  have sp := put_size path p n
  have gpn := put_good path p n gp gn
  have r := rep_ok (η := η) (d := enc n) h107 (own_enc n) (fun m => enc_blw m n) path (K + 6) p q (by omega) ha gp
  rw [putD_put] at r
  rw [call_eq h106 rfl]
  simp -implicitDefEqProofs only [e_lit, e_var, e_glb, e_bin, e_bin1, e_bin2, e_neg, e_neg1, e_cmp, e_cmp1, e_cmp2, e_chn, e_chn1, e_chn2, e_chn3, e_chn4, e_isn, e_isn1, e_isn2, e_and, e_and1, e_and2, e_or, e_or1, e_or2, e_not, e_not1, e_ite, e_ite1, e_ite2, e_tup, e_tup1, e_lst, e_lst1, e_idx, e_idx1, e_idx2, e_slc, e_slc1, e_slc2, e_slc3, e_call, e_call1, e_prim, e_prim1, e_isi, e_isi1, e_isi2, e_meth, e_meth1, e_meth2, e_comp, e_comp1, e_tl, es_nil, es_cons, es_cons1, es_cons2, es_cons3, ep_nil, ep_cons, ep_cons1, eo_no, eo_so, eo_so1, ec_no, ec_so, ei_val, ei_val1, ei_rg, ei_rg1, ei_rg2, ei_rg3, ei_rg4, ei_enm, ei_enm1, ei_zip, ei_zip1, ei_zip2, ei_zip3, ei_rev, ei_rev1, c_nil, x_asg, x_asg1, x_asg2, x_asg3, x_par, x_par1, x_par3, x_par31, x_sub, x_sub1, x_sub2, x_sub3, x_sub4, x_sub5, x_aug, x_aug0, x_aug1, x_aug2, x_augS, x_augS1, x_augS2, x_augS3, x_augS4, x_augS5, x_ret, x_ret1, x_ret2, x_retN, x_ex, x_ex1, x_ex2, x_pass, x_brk, x_cnt, x_if, x_if1, x_if2, x_whl, x_fr, x_fr1, x_rs, x_tr, x_tr1, x_tr2, x_tr3, x_h, x_noX1, x_noX2, x_noX3, xs_nx, xs_rt, xs_bk, xs_ct, xs_ex, f_nil, t_nx, t_rt, t_exc, own_tl, own_int, own_bl, own_non, own_str, own_tup, own_ref, own_fl, xs_nil, xs_cons, start, bindT, bindTs, R.of_some, R.of_none, List.length_cons, List.length_nil, List.map_cons, List.map_nil, List.getElem?_cons_zero, List.getElem?_cons_succ, List.set_cons_zero, List.set_cons_succ, Nat.reduceAdd, Nat.reduceSub, List.cons_append, List.nil_append, List.append_nil, List.replicate, Nat.zero_add, reduceIte, Option.map_some, Option.map_none, fin_same, Bool.not_true, Bool.not_false, Bool.false_eq_true, tyD, primD, binD, sz0, sz1, sz2, sz3, sz4, sz5, sz6, sz7, sz8, nc0, nc1, nc2, nc3, nc4, nc5, nc6, nc7, nc8, Nat.reduceEqDiff, Option.bind_some, Int.reduceLE, Int.reduceLT, Int.reduceEq, Int.reduceToNat, Int.reduceAdd, Int.reduceSub, Int.reduceMul, Int.reduceNeg, Nat.reduceMul, ne_eq, not_false_eq_true, not_true_eq_false, decide_true, decide_false, Bool.and_true, Bool.true_and, Bool.or_false, Bool.false_or, Bool.or_true, Bool.true_or, Bool.and_false, Bool.false_and, beq_self_eq_true, F106, own_enc, own_encP, pipe_at_ok (η := η) g (K := K) (by omega) gp (by omega) (by omega) ha, r, is_pipe_ok (K := K + 2) (η := η) g.toHPip (by omega) gpn (by omega) (fits60 (by omega) gpn)]
end
end Ev

set_option Elab.async false
set_option linter.all false
set_option maxRecDepth 100000
/-! # Part D: likeness of pipes, refused paths, no pipes -/
namespace Ev
open Law
open Pp
section
variable {Γ : Nat → Option Fd}
theorem same_bl (h : Γ 24 = some F24) {K : Nat} {η : Hep} (a : Bool) : callN Γ (K + 1) 24 [.bl a, .bl a] η = .ok (.bl true) η := by
  rw [call_eq h rfl]
  have nn : decide (D.bl a = D.non) = false := decide_eq_false (by simp)
  simp -implicitDefEqProofs only [e_lit, e_var, e_glb, e_bin, e_bin1, e_bin2, e_neg, e_neg1, e_cmp, e_cmp1, e_cmp2, e_chn, e_chn1, e_chn2, e_chn3, e_chn4, e_isn, e_isn1, e_isn2, e_and, e_and1, e_and2, e_or, e_or1, e_or2, e_not, e_not1, e_ite, e_ite1, e_ite2, e_tup, e_tup1, e_lst, e_lst1, e_idx, e_idx1, e_idx2, e_slc, e_slc1, e_slc2, e_slc3, e_call, e_call1, e_prim, e_prim1, e_isi, e_isi1, e_isi2, e_meth, e_meth1, e_meth2, e_comp, e_comp1, e_tl, es_nil, es_cons, es_cons1, es_cons2, es_cons3, ep_nil, ep_cons, ep_cons1, eo_no, eo_so, eo_so1, ec_no, ec_so, ei_val, ei_val1, ei_rg, ei_rg1, ei_rg2, ei_rg3, ei_rg4, ei_enm, ei_enm1, ei_zip, ei_zip1, ei_zip2, ei_zip3, ei_rev, ei_rev1, c_nil, x_asg, x_asg1, x_asg2, x_asg3, x_par, x_par1, x_par3, x_par31, x_sub, x_sub1, x_sub2, x_sub3, x_sub4, x_sub5, x_aug, x_aug0, x_aug1, x_aug2, x_augS, x_augS1, x_augS2, x_augS3, x_augS4, x_augS5, x_ret, x_ret1, x_ret2, x_retN, x_ex, x_ex1, x_ex2, x_pass, x_brk, x_cnt, x_if, x_if1, x_if2, x_whl, x_fr, x_fr1, x_rs, x_tr, x_tr1, x_tr2, x_tr3, x_h, x_noX1, x_noX2, x_noX3, xs_nx, xs_rt, xs_bk, xs_ct, xs_ex, f_nil, t_nx, t_rt, t_exc, own_tl, own_int, own_bl, own_non, own_str, own_tup, own_ref, own_fl, xs_nil, xs_cons, start, bindT, bindTs, R.of_some, R.of_none, List.length_cons, List.length_nil, List.map_cons, List.map_nil, List.getElem?_cons_zero, List.getElem?_cons_succ, List.set_cons_zero, List.set_cons_succ, Nat.reduceAdd, Nat.reduceSub, List.cons_append, List.nil_append, List.append_nil, List.replicate, Nat.zero_add, reduceIte, Option.map_some, Option.map_none, fin_same, Bool.not_true, Bool.not_false, Bool.false_eq_true, tyD, primD, binD, sz0, sz1, sz2, sz3, sz4, sz5, sz6, sz7, sz8, nc0, nc1, nc2, nc3, nc4, nc5, nc6, nc7, nc8, Nat.reduceEqDiff, Option.bind_some, Int.reduceLE, Int.reduceLT, Int.reduceEq, Int.reduceToNat, Int.reduceAdd, Int.reduceSub, Int.reduceMul, Int.reduceNeg, Nat.reduceMul, ne_eq, not_false_eq_true, not_true_eq_false, decide_true, decide_false, Bool.and_true, Bool.true_and, Bool.or_false, Bool.false_or, Bool.or_true, Bool.true_or, Bool.and_false, Bool.false_and, beq_self_eq_true, F24, nn, cmpD, eqD_bl]
theorem same_path (h : Γ 24 = some F24) {K : Nat} {η : Hep} (p : List Nat) (hl : p.length ≤ 1000) : callN Γ (K + 2) 24 [encP p, encP p] η = .ok (.bl true) η :=
  same_tup h (by have : (1000 : Nat) ≤ PySem.sizeLine := by decide
                 simp; omega) fun x hx => by
    obtain ⟨i, _, rfl⟩ := List.mem_map.mp hx
    exact ⟨same_int h _, rfl⟩
theorem same_paths (h : Γ 24 = some F24) {K : Nat} {η : Hep} (l : List (List Nat)) (hl : l.length ≤ 1000) (hp : ∀ p ∈ l, p.length ≤ 1000) : callN Γ (K + 3) 24 [.tup (l.map encP), .tup (l.map encP)] η = .ok (.bl true) η :=
  same_tup h (by have : (1000 : Nat) ≤ PySem.sizeLine := by decide
                 simp; omega) fun x hx => by
    obtain ⟨p, hm, rfl⟩ := List.mem_map.mp hx
    exact ⟨same_path h p (hp p hm), rfl⟩
theorem same_enc (h : Γ 24 = some F24) (η : Hep) : ∀ (n K : Nat) (p : Pp), dep p ≤ n → 3 * n ≤ K → good p → callN Γ (K + 1) 24 [enc p, enc p] η = .ok (.bl true) η
  | 0, K, p, hn, _, _ => by have := dep_pos p; omega
  | n + 1, K, p, hn, hK, gp => by
    obtain ⟨k, rfl⟩ : ∃ k, K = k + 3 := ⟨K - 3, by omega⟩
    have st : ∀ (z : PySem.Str) m, callN Γ (m + 1) 24 [.str z, .str z] η = .ok (.bl true) η := fun z m => same_str h z
    have en : callN Γ (k + 3) 24 [p.endD, p.endD] η = .ok (.bl true) η := by
      cases p with
      | shut l w =>
        refine same_tup (k := k + 2) h sz1 fun x hx => ?_
        simp only [List.mem_cons, List.not_mem_nil, or_false] at hx; subst hx; exact ⟨st _ _, rfl⟩
      | opn l w =>
        refine same_tup (k := k + 2) h sz1 fun x hx => ?_
        simp only [List.mem_cons, List.not_mem_nil, or_false] at hx; subst hx; exact ⟨st _ _, rfl⟩
      | drain l w d =>
        refine same_tup (k := k + 2) h sz2 fun x hx => ?_
        simp only [List.mem_cons, List.not_mem_nil, or_false] at hx
        rcases hx with rfl | rfl
        · exact ⟨st _ _, rfl⟩
        · exact ⟨same_sh (k := k) h d, rfl⟩
      | fork l w ks =>
        refine same_tup (k := k + 2) h sz2 fun x hx => ?_
        simp only [List.mem_cons, List.not_mem_nil, or_false] at hx
        rcases hx with rfl | rfl
        · exact ⟨st _ _, rfl⟩
        · have gk := gp
          simp only [good] at gk
          refine ⟨same_tup (k := k + 1) h (by
            have : (7 : Nat) ≤ PySem.sizeLine := by decide
            rw [encs_len]; omega) fun x hx => ?_, rfl⟩
          rw [encs_map] at hx
          obtain ⟨q, hq, rfl⟩ := List.mem_map.mp hx
          simp only [dep] at hn
          exact ⟨same_enc h η n k q (by have := deps_mem hq; omega) (by omega) (goods_mem gk.2.2.2.2 q hq), own_enc q⟩
    rw [enc_eq p]
    refine same_tup (k := k + 3) h sz3 fun x hx => ?_
    simp only [List.mem_cons, List.not_mem_nil, or_false] at hx
    rcases hx with rfl | rfl | rfl
    · exact ⟨same_int h _, rfl⟩
    · exact ⟨same_sh (k := k + 1) h _, rfl⟩
    · refine ⟨en, ?_⟩
      cases p <;> rfl
/-! ## refused paths -/
def okI : D → Bool
  | .int i => decide (0 ≤ i)
  | _ => false
def smp : D → Bool
  | .int _ => true
  | .bl _ => true
  | .non => true
  | _ => false
theorem is_path_gen {K : Nat} (h : Γ 101 = some F101) (h0 : Γ 0 = some F0) {η : Hep} {xs : List D} (hx : ∀ x ∈ xs, smp x = true) (hl : xs.length ≤ 2000) : callN Γ (K + 2) 101 [.tup xs] η = .ok (.bl ((xs.map okI).all id)) η := by
  have cb : ∀ b : Bool, callN Γ (K + 1) 0 [.bl b] η = .ok (.bl false) η := fun b => by
    rw [call_eq h0 rfl]
    simp -implicitDefEqProofs only [e_lit, e_var, e_glb, e_bin, e_bin1, e_bin2, e_neg, e_neg1, e_cmp, e_cmp1, e_cmp2, e_chn, e_chn1, e_chn2, e_chn3, e_chn4, e_isn, e_isn1, e_isn2, e_and, e_and1, e_and2, e_or, e_or1, e_or2, e_not, e_not1, e_ite, e_ite1, e_ite2, e_tup, e_tup1, e_lst, e_lst1, e_idx, e_idx1, e_idx2, e_slc, e_slc1, e_slc2, e_slc3, e_call, e_call1, e_prim, e_prim1, e_isi, e_isi1, e_isi2, e_meth, e_meth1, e_meth2, e_comp, e_comp1, e_tl, es_nil, es_cons, es_cons1, es_cons2, es_cons3, ep_nil, ep_cons, ep_cons1, eo_no, eo_so, eo_so1, ec_no, ec_so, ei_val, ei_val1, ei_rg, ei_rg1, ei_rg2, ei_rg3, ei_rg4, ei_enm, ei_enm1, ei_zip, ei_zip1, ei_zip2, ei_zip3, ei_rev, ei_rev1, c_nil, x_asg, x_asg1, x_asg2, x_asg3, x_par, x_par1, x_par3, x_par31, x_sub, x_sub1, x_sub2, x_sub3, x_sub4, x_sub5, x_aug, x_aug0, x_aug1, x_aug2, x_augS, x_augS1, x_augS2, x_augS3, x_augS4, x_augS5, x_ret, x_ret1, x_ret2, x_retN, x_ex, x_ex1, x_ex2, x_pass, x_brk, x_cnt, x_if, x_if1, x_if2, x_whl, x_fr, x_fr1, x_rs, x_tr, x_tr1, x_tr2, x_tr3, x_h, x_noX1, x_noX2, x_noX3, xs_nx, xs_rt, xs_bk, xs_ct, xs_ex, f_nil, t_nx, t_rt, t_exc, own_tl, own_int, own_bl, own_non, own_str, own_tup, own_ref, own_fl, xs_nil, xs_cons, start, bindT, bindTs, R.of_some, R.of_none, List.length_cons, List.length_nil, List.map_cons, List.map_nil, List.getElem?_cons_zero, List.getElem?_cons_succ, List.set_cons_zero, List.set_cons_succ, Nat.reduceAdd, Nat.reduceSub, List.cons_append, List.nil_append, List.append_nil, List.replicate, Nat.zero_add, reduceIte, Option.map_some, Option.map_none, fin_same, Bool.not_true, Bool.not_false, Bool.false_eq_true, tyD, primD, binD, sz0, sz1, sz2, sz3, sz4, sz5, sz6, sz7, sz8, nc0, nc1, nc2, nc3, nc4, nc5, nc6, nc7, nc8, Nat.reduceEqDiff, Option.bind_some, Int.reduceLE, Int.reduceLT, Int.reduceEq, Int.reduceToNat, Int.reduceAdd, Int.reduceSub, Int.reduceMul, Int.reduceNeg, Nat.reduceMul, ne_eq, not_false_eq_true, not_true_eq_false, decide_true, decide_false, Bool.and_true, Bool.true_and, Bool.or_false, Bool.false_or, Bool.or_true, Bool.true_or, Bool.and_false, Bool.false_and, beq_self_eq_true, F0]
  have cn : callN Γ (K + 1) 0 [.non] η = .ok (.bl false) η := by
    rw [call_eq h0 rfl]
    simp -implicitDefEqProofs only [e_lit, e_var, e_glb, e_bin, e_bin1, e_bin2, e_neg, e_neg1, e_cmp, e_cmp1, e_cmp2, e_chn, e_chn1, e_chn2, e_chn3, e_chn4, e_isn, e_isn1, e_isn2, e_and, e_and1, e_and2, e_or, e_or1, e_or2, e_not, e_not1, e_ite, e_ite1, e_ite2, e_tup, e_tup1, e_lst, e_lst1, e_idx, e_idx1, e_idx2, e_slc, e_slc1, e_slc2, e_slc3, e_call, e_call1, e_prim, e_prim1, e_isi, e_isi1, e_isi2, e_meth, e_meth1, e_meth2, e_comp, e_comp1, e_tl, es_nil, es_cons, es_cons1, es_cons2, es_cons3, ep_nil, ep_cons, ep_cons1, eo_no, eo_so, eo_so1, ec_no, ec_so, ei_val, ei_val1, ei_rg, ei_rg1, ei_rg2, ei_rg3, ei_rg4, ei_enm, ei_enm1, ei_zip, ei_zip1, ei_zip2, ei_zip3, ei_rev, ei_rev1, c_nil, x_asg, x_asg1, x_asg2, x_asg3, x_par, x_par1, x_par3, x_par31, x_sub, x_sub1, x_sub2, x_sub3, x_sub4, x_sub5, x_aug, x_aug0, x_aug1, x_aug2, x_augS, x_augS1, x_augS2, x_augS3, x_augS4, x_augS5, x_ret, x_ret1, x_ret2, x_retN, x_ex, x_ex1, x_ex2, x_pass, x_brk, x_cnt, x_if, x_if1, x_if2, x_whl, x_fr, x_fr1, x_rs, x_tr, x_tr1, x_tr2, x_tr3, x_h, x_noX1, x_noX2, x_noX3, xs_nx, xs_rt, xs_bk, xs_ct, xs_ex, f_nil, t_nx, t_rt, t_exc, own_tl, own_int, own_bl, own_non, own_str, own_tup, own_ref, own_fl, xs_nil, xs_cons, start, bindT, bindTs, R.of_some, R.of_none, List.length_cons, List.length_nil, List.map_cons, List.map_nil, List.getElem?_cons_zero, List.getElem?_cons_succ, List.set_cons_zero, List.set_cons_succ, Nat.reduceAdd, Nat.reduceSub, List.cons_append, List.nil_append, List.append_nil, List.replicate, Nat.zero_add, reduceIte, Option.map_some, Option.map_none, fin_same, Bool.not_true, Bool.not_false, Bool.false_eq_true, tyD, primD, binD, sz0, sz1, sz2, sz3, sz4, sz5, sz6, sz7, sz8, nc0, nc1, nc2, nc3, nc4, nc5, nc6, nc7, nc8, Nat.reduceEqDiff, Option.bind_some, Int.reduceLE, Int.reduceLT, Int.reduceEq, Int.reduceToNat, Int.reduceAdd, Int.reduceSub, Int.reduceMul, Int.reduceNeg, Nat.reduceMul, ne_eq, not_false_eq_true, not_true_eq_false, decide_true, decide_false, Bool.and_true, Bool.true_and, Bool.or_false, Bool.false_or, Bool.or_true, Bool.true_or, Bool.and_false, Bool.false_and, beq_self_eq_true, F0]
  rw [call_eq h rfl]
  have c := c_map (C := callN Γ (K + 1)) (elt := .and (.call 0 (.cons (.var 1) .nil)) (.cmp .ge (.var 1) (.lit (.int 0)))) (t := .nm 1) (w := []) (η := η) (ρ := wipe [some (.tup xs), none] [1]) rfl id (fun d => .bl (okI d)) xs [] (by
    have : (2000 : Nat) ≤ PySem.sizeLine := by decide
    simp; omega) (fun x hm => ⟨_, rfl, (by
      have sx := hx x hm
      cases x with
      | int i => simp -implicitDefEqProofs only [e_lit, e_var, e_glb, e_bin, e_bin1, e_bin2, e_neg, e_neg1, e_cmp, e_cmp1, e_cmp2, e_chn, e_chn1, e_chn2, e_chn3, e_chn4, e_isn, e_isn1, e_isn2, e_and, e_and1, e_and2, e_or, e_or1, e_or2, e_not, e_not1, e_ite, e_ite1, e_ite2, e_tup, e_tup1, e_lst, e_lst1, e_idx, e_idx1, e_idx2, e_slc, e_slc1, e_slc2, e_slc3, e_call, e_call1, e_prim, e_prim1, e_isi, e_isi1, e_isi2, e_meth, e_meth1, e_meth2, e_comp, e_comp1, e_tl, es_nil, es_cons, es_cons1, es_cons2, es_cons3, ep_nil, ep_cons, ep_cons1, eo_no, eo_so, eo_so1, ec_no, ec_so, ei_val, ei_val1, ei_rg, ei_rg1, ei_rg2, ei_rg3, ei_rg4, ei_enm, ei_enm1, ei_zip, ei_zip1, ei_zip2, ei_zip3, ei_rev, ei_rev1, c_nil, x_asg, x_asg1, x_asg2, x_asg3, x_par, x_par1, x_par3, x_par31, x_sub, x_sub1, x_sub2, x_sub3, x_sub4, x_sub5, x_aug, x_aug0, x_aug1, x_aug2, x_augS, x_augS1, x_augS2, x_augS3, x_augS4, x_augS5, x_ret, x_ret1, x_ret2, x_retN, x_ex, x_ex1, x_ex2, x_pass, x_brk, x_cnt, x_if, x_if1, x_if2, x_whl, x_fr, x_fr1, x_rs, x_tr, x_tr1, x_tr2, x_tr3, x_h, x_noX1, x_noX2, x_noX3, xs_nx, xs_rt, xs_bk, xs_ct, xs_ex, f_nil, t_nx, t_rt, t_exc, own_tl, own_int, own_bl, own_non, own_str, own_tup, own_ref, own_fl, xs_nil, xs_cons, start, bindT, bindTs, R.of_some, R.of_none, List.length_cons, List.length_nil, List.map_cons, List.map_nil, List.getElem?_cons_zero, List.getElem?_cons_succ, List.set_cons_zero, List.set_cons_succ, Nat.reduceAdd, Nat.reduceSub, List.cons_append, List.nil_append, List.append_nil, List.replicate, Nat.zero_add, reduceIte, Option.map_some, Option.map_none, fin_same, Bool.not_true, Bool.not_false, Bool.false_eq_true, tyD, primD, binD, sz0, sz1, sz2, sz3, sz4, sz5, sz6, sz7, sz8, nc0, nc1, nc2, nc3, nc4, nc5, nc6, nc7, nc8, Nat.reduceEqDiff, Option.bind_some, Int.reduceLE, Int.reduceLT, Int.reduceEq, Int.reduceToNat, Int.reduceAdd, Int.reduceSub, Int.reduceMul, Int.reduceNeg, Nat.reduceMul, ne_eq, not_false_eq_true, not_true_eq_false, decide_true, decide_false, Bool.and_true, Bool.true_and, Bool.or_false, Bool.false_or, Bool.or_true, Bool.true_or, Bool.and_false, Bool.false_and, beq_self_eq_true, wipe, id, is_count_int (k := K) h0, cmpD, okI]
      | bl b => simp -implicitDefEqProofs only [e_lit, e_var, e_glb, e_bin, e_bin1, e_bin2, e_neg, e_neg1, e_cmp, e_cmp1, e_cmp2, e_chn, e_chn1, e_chn2, e_chn3, e_chn4, e_isn, e_isn1, e_isn2, e_and, e_and1, e_and2, e_or, e_or1, e_or2, e_not, e_not1, e_ite, e_ite1, e_ite2, e_tup, e_tup1, e_lst, e_lst1, e_idx, e_idx1, e_idx2, e_slc, e_slc1, e_slc2, e_slc3, e_call, e_call1, e_prim, e_prim1, e_isi, e_isi1, e_isi2, e_meth, e_meth1, e_meth2, e_comp, e_comp1, e_tl, es_nil, es_cons, es_cons1, es_cons2, es_cons3, ep_nil, ep_cons, ep_cons1, eo_no, eo_so, eo_so1, ec_no, ec_so, ei_val, ei_val1, ei_rg, ei_rg1, ei_rg2, ei_rg3, ei_rg4, ei_enm, ei_enm1, ei_zip, ei_zip1, ei_zip2, ei_zip3, ei_rev, ei_rev1, c_nil, x_asg, x_asg1, x_asg2, x_asg3, x_par, x_par1, x_par3, x_par31, x_sub, x_sub1, x_sub2, x_sub3, x_sub4, x_sub5, x_aug, x_aug0, x_aug1, x_aug2, x_augS, x_augS1, x_augS2, x_augS3, x_augS4, x_augS5, x_ret, x_ret1, x_ret2, x_retN, x_ex, x_ex1, x_ex2, x_pass, x_brk, x_cnt, x_if, x_if1, x_if2, x_whl, x_fr, x_fr1, x_rs, x_tr, x_tr1, x_tr2, x_tr3, x_h, x_noX1, x_noX2, x_noX3, xs_nx, xs_rt, xs_bk, xs_ct, xs_ex, f_nil, t_nx, t_rt, t_exc, own_tl, own_int, own_bl, own_non, own_str, own_tup, own_ref, own_fl, xs_nil, xs_cons, start, bindT, bindTs, R.of_some, R.of_none, List.length_cons, List.length_nil, List.map_cons, List.map_nil, List.getElem?_cons_zero, List.getElem?_cons_succ, List.set_cons_zero, List.set_cons_succ, Nat.reduceAdd, Nat.reduceSub, List.cons_append, List.nil_append, List.append_nil, List.replicate, Nat.zero_add, reduceIte, Option.map_some, Option.map_none, fin_same, Bool.not_true, Bool.not_false, Bool.false_eq_true, tyD, primD, binD, sz0, sz1, sz2, sz3, sz4, sz5, sz6, sz7, sz8, nc0, nc1, nc2, nc3, nc4, nc5, nc6, nc7, nc8, Nat.reduceEqDiff, Option.bind_some, Int.reduceLE, Int.reduceLT, Int.reduceEq, Int.reduceToNat, Int.reduceAdd, Int.reduceSub, Int.reduceMul, Int.reduceNeg, Nat.reduceMul, ne_eq, not_false_eq_true, not_true_eq_false, decide_true, decide_false, Bool.and_true, Bool.true_and, Bool.or_false, Bool.false_or, Bool.or_true, Bool.true_or, Bool.and_false, Bool.false_and, beq_self_eq_true, wipe, id, cb, okI]
      | non => simp -implicitDefEqProofs only [e_lit, e_var, e_glb, e_bin, e_bin1, e_bin2, e_neg, e_neg1, e_cmp, e_cmp1, e_cmp2, e_chn, e_chn1, e_chn2, e_chn3, e_chn4, e_isn, e_isn1, e_isn2, e_and, e_and1, e_and2, e_or, e_or1, e_or2, e_not, e_not1, e_ite, e_ite1, e_ite2, e_tup, e_tup1, e_lst, e_lst1, e_idx, e_idx1, e_idx2, e_slc, e_slc1, e_slc2, e_slc3, e_call, e_call1, e_prim, e_prim1, e_isi, e_isi1, e_isi2, e_meth, e_meth1, e_meth2, e_comp, e_comp1, e_tl, es_nil, es_cons, es_cons1, es_cons2, es_cons3, ep_nil, ep_cons, ep_cons1, eo_no, eo_so, eo_so1, ec_no, ec_so, ei_val, ei_val1, ei_rg, ei_rg1, ei_rg2, ei_rg3, ei_rg4, ei_enm, ei_enm1, ei_zip, ei_zip1, ei_zip2, ei_zip3, ei_rev, ei_rev1, c_nil, x_asg, x_asg1, x_asg2, x_asg3, x_par, x_par1, x_par3, x_par31, x_sub, x_sub1, x_sub2, x_sub3, x_sub4, x_sub5, x_aug, x_aug0, x_aug1, x_aug2, x_augS, x_augS1, x_augS2, x_augS3, x_augS4, x_augS5, x_ret, x_ret1, x_ret2, x_retN, x_ex, x_ex1, x_ex2, x_pass, x_brk, x_cnt, x_if, x_if1, x_if2, x_whl, x_fr, x_fr1, x_rs, x_tr, x_tr1, x_tr2, x_tr3, x_h, x_noX1, x_noX2, x_noX3, xs_nx, xs_rt, xs_bk, xs_ct, xs_ex, f_nil, t_nx, t_rt, t_exc, own_tl, own_int, own_bl, own_non, own_str, own_tup, own_ref, own_fl, xs_nil, xs_cons, start, bindT, bindTs, R.of_some, R.of_none, List.length_cons, List.length_nil, List.map_cons, List.map_nil, List.getElem?_cons_zero, List.getElem?_cons_succ, List.set_cons_zero, List.set_cons_succ, Nat.reduceAdd, Nat.reduceSub, List.cons_append, List.nil_append, List.append_nil, List.replicate, Nat.zero_add, reduceIte, Option.map_some, Option.map_none, fin_same, Bool.not_true, Bool.not_false, Bool.false_eq_true, tyD, primD, binD, sz0, sz1, sz2, sz3, sz4, sz5, sz6, sz7, sz8, nc0, nc1, nc2, nc3, nc4, nc5, nc6, nc7, nc8, Nat.reduceEqDiff, Option.bind_some, Int.reduceLE, Int.reduceLT, Int.reduceEq, Int.reduceToNat, Int.reduceAdd, Int.reduceSub, Int.reduceMul, Int.reduceNeg, Nat.reduceMul, ne_eq, not_false_eq_true, not_true_eq_false, decide_true, decide_false, Bool.and_true, Bool.true_and, Bool.or_false, Bool.false_or, Bool.or_true, Bool.true_or, Bool.and_false, Bool.false_and, beq_self_eq_true, wipe, id, cn, okI]
      | _ => cases sx), rfl⟩)
  rw [List.map_id] at c
  simp -implicitDefEqProofs only [e_lit, e_var, e_glb, e_bin, e_bin1, e_bin2, e_neg, e_neg1, e_cmp, e_cmp1, e_cmp2, e_chn, e_chn1, e_chn2, e_chn3, e_chn4, e_isn, e_isn1, e_isn2, e_and, e_and1, e_and2, e_or, e_or1, e_or2, e_not, e_not1, e_ite, e_ite1, e_ite2, e_tup, e_tup1, e_lst, e_lst1, e_idx, e_idx1, e_idx2, e_slc, e_slc1, e_slc2, e_slc3, e_call, e_call1, e_prim, e_prim1, e_isi, e_isi1, e_isi2, e_meth, e_meth1, e_meth2, e_comp, e_comp1, e_tl, es_nil, es_cons, es_cons1, es_cons2, es_cons3, ep_nil, ep_cons, ep_cons1, eo_no, eo_so, eo_so1, ec_no, ec_so, ei_val, ei_val1, ei_rg, ei_rg1, ei_rg2, ei_rg3, ei_rg4, ei_enm, ei_enm1, ei_zip, ei_zip1, ei_zip2, ei_zip3, ei_rev, ei_rev1, c_nil, x_asg, x_asg1, x_asg2, x_asg3, x_par, x_par1, x_par3, x_par31, x_sub, x_sub1, x_sub2, x_sub3, x_sub4, x_sub5, x_aug, x_aug0, x_aug1, x_aug2, x_augS, x_augS1, x_augS2, x_augS3, x_augS4, x_augS5, x_ret, x_ret1, x_ret2, x_retN, x_ex, x_ex1, x_ex2, x_pass, x_brk, x_cnt, x_if, x_if1, x_if2, x_whl, x_fr, x_fr1, x_rs, x_tr, x_tr1, x_tr2, x_tr3, x_h, x_noX1, x_noX2, x_noX3, xs_nx, xs_rt, xs_bk, xs_ct, xs_ex, f_nil, t_nx, t_rt, t_exc, own_tl, own_int, own_bl, own_non, own_str, own_tup, own_ref, own_fl, xs_nil, xs_cons, start, bindT, bindTs, R.of_some, R.of_none, List.length_cons, List.length_nil, List.map_cons, List.map_nil, List.getElem?_cons_zero, List.getElem?_cons_succ, List.set_cons_zero, List.set_cons_succ, Nat.reduceAdd, Nat.reduceSub, List.cons_append, List.nil_append, List.append_nil, List.replicate, Nat.zero_add, reduceIte, Option.map_some, Option.map_none, fin_same, Bool.not_true, Bool.not_false, Bool.false_eq_true, tyD, primD, binD, sz0, sz1, sz2, sz3, sz4, sz5, sz6, sz7, sz8, nc0, nc1, nc2, nc3, nc4, nc5, nc6, nc7, nc8, Nat.reduceEqDiff, Option.bind_some, Int.reduceLE, Int.reduceLT, Int.reduceEq, Int.reduceToNat, Int.reduceAdd, Int.reduceSub, Int.reduceMul, Int.reduceNeg, Nat.reduceMul, ne_eq, not_false_eq_true, not_true_eq_false, decide_true, decide_false, Bool.and_true, Bool.true_and, Bool.or_false, Bool.false_or, Bool.or_true, Bool.true_or, Bool.and_false, Bool.false_and, beq_self_eq_true, F101, seqAny, watchOf, c, seqOf, blsOf_map]
theorem is_path_no {K : Nat} (h : Γ 101 = some F101) {η : Hep} {d : D} (hd : tyD d .tuple = false) : callN Γ (K + 1) 101 [d] η = .ok (.bl false) η := by
  rw [call_eq h rfl]
  simp -implicitDefEqProofs only [e_lit, e_var, e_glb, e_bin, e_bin1, e_bin2, e_neg, e_neg1, e_cmp, e_cmp1, e_cmp2, e_chn, e_chn1, e_chn2, e_chn3, e_chn4, e_isn, e_isn1, e_isn2, e_and, e_and1, e_and2, e_or, e_or1, e_or2, e_not, e_not1, e_ite, e_ite1, e_ite2, e_tup, e_tup1, e_lst, e_lst1, e_idx, e_idx1, e_idx2, e_slc, e_slc1, e_slc2, e_slc3, e_call, e_call1, e_prim, e_prim1, e_isi, e_isi1, e_isi2, e_meth, e_meth1, e_meth2, e_comp, e_comp1, e_tl, es_nil, es_cons, es_cons1, es_cons2, es_cons3, ep_nil, ep_cons, ep_cons1, eo_no, eo_so, eo_so1, ec_no, ec_so, ei_val, ei_val1, ei_rg, ei_rg1, ei_rg2, ei_rg3, ei_rg4, ei_enm, ei_enm1, ei_zip, ei_zip1, ei_zip2, ei_zip3, ei_rev, ei_rev1, c_nil, x_asg, x_asg1, x_asg2, x_asg3, x_par, x_par1, x_par3, x_par31, x_sub, x_sub1, x_sub2, x_sub3, x_sub4, x_sub5, x_aug, x_aug0, x_aug1, x_aug2, x_augS, x_augS1, x_augS2, x_augS3, x_augS4, x_augS5, x_ret, x_ret1, x_ret2, x_retN, x_ex, x_ex1, x_ex2, x_pass, x_brk, x_cnt, x_if, x_if1, x_if2, x_whl, x_fr, x_fr1, x_rs, x_tr, x_tr1, x_tr2, x_tr3, x_h, x_noX1, x_noX2, x_noX3, xs_nx, xs_rt, xs_bk, xs_ct, xs_ex, f_nil, t_nx, t_rt, t_exc, own_tl, own_int, own_bl, own_non, own_str, own_tup, own_ref, own_fl, xs_nil, xs_cons, start, bindT, bindTs, R.of_some, R.of_none, List.length_cons, List.length_nil, List.map_cons, List.map_nil, List.getElem?_cons_zero, List.getElem?_cons_succ, List.set_cons_zero, List.set_cons_succ, Nat.reduceAdd, Nat.reduceSub, List.cons_append, List.nil_append, List.append_nil, List.replicate, Nat.zero_add, reduceIte, Option.map_some, Option.map_none, fin_same, Bool.not_true, Bool.not_false, Bool.false_eq_true, tyD, primD, binD, sz0, sz1, sz2, sz3, sz4, sz5, sz6, sz7, sz8, nc0, nc1, nc2, nc3, nc4, nc5, nc6, nc7, nc8, Nat.reduceEqDiff, Option.bind_some, Int.reduceLE, Int.reduceLT, Int.reduceEq, Int.reduceToNat, Int.reduceAdd, Int.reduceSub, Int.reduceMul, Int.reduceNeg, Nat.reduceMul, ne_eq, not_false_eq_true, not_true_eq_false, decide_true, decide_false, Bool.and_true, Bool.true_and, Bool.or_false, Bool.false_or, Bool.or_true, Bool.true_or, Bool.and_false, Bool.false_and, beq_self_eq_true, F101]
  simp only [tyD] at hd
  rw [hd]
  simp -implicitDefEqProofs only [e_lit, e_var, e_glb, e_bin, e_bin1, e_bin2, e_neg, e_neg1, e_cmp, e_cmp1, e_cmp2, e_chn, e_chn1, e_chn2, e_chn3, e_chn4, e_isn, e_isn1, e_isn2, e_and, e_and1, e_and2, e_or, e_or1, e_or2, e_not, e_not1, e_ite, e_ite1, e_ite2, e_tup, e_tup1, e_lst, e_lst1, e_idx, e_idx1, e_idx2, e_slc, e_slc1, e_slc2, e_slc3, e_call, e_call1, e_prim, e_prim1, e_isi, e_isi1, e_isi2, e_meth, e_meth1, e_meth2, e_comp, e_comp1, e_tl, es_nil, es_cons, es_cons1, es_cons2, es_cons3, ep_nil, ep_cons, ep_cons1, eo_no, eo_so, eo_so1, ec_no, ec_so, ei_val, ei_val1, ei_rg, ei_rg1, ei_rg2, ei_rg3, ei_rg4, ei_enm, ei_enm1, ei_zip, ei_zip1, ei_zip2, ei_zip3, ei_rev, ei_rev1, c_nil, x_asg, x_asg1, x_asg2, x_asg3, x_par, x_par1, x_par3, x_par31, x_sub, x_sub1, x_sub2, x_sub3, x_sub4, x_sub5, x_aug, x_aug0, x_aug1, x_aug2, x_augS, x_augS1, x_augS2, x_augS3, x_augS4, x_augS5, x_ret, x_ret1, x_ret2, x_retN, x_ex, x_ex1, x_ex2, x_pass, x_brk, x_cnt, x_if, x_if1, x_if2, x_whl, x_fr, x_fr1, x_rs, x_tr, x_tr1, x_tr2, x_tr3, x_h, x_noX1, x_noX2, x_noX3, xs_nx, xs_rt, xs_bk, xs_ct, xs_ex, f_nil, t_nx, t_rt, t_exc, own_tl, own_int, own_bl, own_non, own_str, own_tup, own_ref, own_fl, xs_nil, xs_cons, start, bindT, bindTs, R.of_some, R.of_none, List.length_cons, List.length_nil, List.map_cons, List.map_nil, List.getElem?_cons_zero, List.getElem?_cons_succ, List.set_cons_zero, List.set_cons_succ, Nat.reduceAdd, Nat.reduceSub, List.cons_append, List.nil_append, List.append_nil, List.replicate, Nat.zero_add, reduceIte, Option.map_some, Option.map_none, fin_same, Bool.not_true, Bool.not_false, Bool.false_eq_true, tyD, primD, binD, sz0, sz1, sz2, sz3, sz4, sz5, sz6, sz7, sz8, nc0, nc1, nc2, nc3, nc4, nc5, nc6, nc7, nc8, Nat.reduceEqDiff, Option.bind_some, Int.reduceLE, Int.reduceLT, Int.reduceEq, Int.reduceToNat, Int.reduceAdd, Int.reduceSub, Int.reduceMul, Int.reduceNeg, Nat.reduceMul, ne_eq, not_false_eq_true, not_true_eq_false, decide_true, decide_false, Bool.and_true, Bool.true_and, Bool.or_false, Bool.false_or, Bool.or_true, Bool.true_or, Bool.and_false, Bool.false_and, beq_self_eq_true]
/-! ## no pipes -/
theorem fits_non (h : Γ 81 = some F81) {K : Nat} {η : Hep} {room depth : Int} : callN Γ (K + 1) 81 [.non, .int room, .int depth] η = .ok .non η := by
  rw [call_eq h rfl]
  by_cases d0 : depth = 0
  · simp -implicitDefEqProofs only [e_lit, e_var, e_glb, e_bin, e_bin1, e_bin2, e_neg, e_neg1, e_cmp, e_cmp1, e_cmp2, e_chn, e_chn1, e_chn2, e_chn3, e_chn4, e_isn, e_isn1, e_isn2, e_and, e_and1, e_and2, e_or, e_or1, e_or2, e_not, e_not1, e_ite, e_ite1, e_ite2, e_tup, e_tup1, e_lst, e_lst1, e_idx, e_idx1, e_idx2, e_slc, e_slc1, e_slc2, e_slc3, e_call, e_call1, e_prim, e_prim1, e_isi, e_isi1, e_isi2, e_meth, e_meth1, e_meth2, e_comp, e_comp1, e_tl, es_nil, es_cons, es_cons1, es_cons2, es_cons3, ep_nil, ep_cons, ep_cons1, eo_no, eo_so, eo_so1, ec_no, ec_so, ei_val, ei_val1, ei_rg, ei_rg1, ei_rg2, ei_rg3, ei_rg4, ei_enm, ei_enm1, ei_zip, ei_zip1, ei_zip2, ei_zip3, ei_rev, ei_rev1, c_nil, x_asg, x_asg1, x_asg2, x_asg3, x_par, x_par1, x_par3, x_par31, x_sub, x_sub1, x_sub2, x_sub3, x_sub4, x_sub5, x_aug, x_aug0, x_aug1, x_aug2, x_augS, x_augS1, x_augS2, x_augS3, x_augS4, x_augS5, x_ret, x_ret1, x_ret2, x_retN, x_ex, x_ex1, x_ex2, x_pass, x_brk, x_cnt, x_if, x_if1, x_if2, x_whl, x_fr, x_fr1, x_rs, x_tr, x_tr1, x_tr2, x_tr3, x_h, x_noX1, x_noX2, x_noX3, xs_nx, xs_rt, xs_bk, xs_ct, xs_ex, f_nil, t_nx, t_rt, t_exc, own_tl, own_int, own_bl, own_non, own_str, own_tup, own_ref, own_fl, xs_nil, xs_cons, start, bindT, bindTs, R.of_some, R.of_none, List.length_cons, List.length_nil, List.map_cons, List.map_nil, List.getElem?_cons_zero, List.getElem?_cons_succ, List.set_cons_zero, List.set_cons_succ, Nat.reduceAdd, Nat.reduceSub, List.cons_append, List.nil_append, List.append_nil, List.replicate, Nat.zero_add, reduceIte, Option.map_some, Option.map_none, fin_same, Bool.not_true, Bool.not_false, Bool.false_eq_true, tyD, primD, binD, sz0, sz1, sz2, sz3, sz4, sz5, sz6, sz7, sz8, nc0, nc1, nc2, nc3, nc4, nc5, nc6, nc7, nc8, Nat.reduceEqDiff, Option.bind_some, Int.reduceLE, Int.reduceLT, Int.reduceEq, Int.reduceToNat, Int.reduceAdd, Int.reduceSub, Int.reduceMul, Int.reduceNeg, Nat.reduceMul, ne_eq, not_false_eq_true, not_true_eq_false, decide_true, decide_false, Bool.and_true, Bool.true_and, Bool.or_false, Bool.false_or, Bool.or_true, Bool.true_or, Bool.and_false, Bool.false_and, beq_self_eq_true, F81, cmpD, eqD_int, decide_eq_true d0]
  · simp -implicitDefEqProofs only [e_lit, e_var, e_glb, e_bin, e_bin1, e_bin2, e_neg, e_neg1, e_cmp, e_cmp1, e_cmp2, e_chn, e_chn1, e_chn2, e_chn3, e_chn4, e_isn, e_isn1, e_isn2, e_and, e_and1, e_and2, e_or, e_or1, e_or2, e_not, e_not1, e_ite, e_ite1, e_ite2, e_tup, e_tup1, e_lst, e_lst1, e_idx, e_idx1, e_idx2, e_slc, e_slc1, e_slc2, e_slc3, e_call, e_call1, e_prim, e_prim1, e_isi, e_isi1, e_isi2, e_meth, e_meth1, e_meth2, e_comp, e_comp1, e_tl, es_nil, es_cons, es_cons1, es_cons2, es_cons3, ep_nil, ep_cons, ep_cons1, eo_no, eo_so, eo_so1, ec_no, ec_so, ei_val, ei_val1, ei_rg, ei_rg1, ei_rg2, ei_rg3, ei_rg4, ei_enm, ei_enm1, ei_zip, ei_zip1, ei_zip2, ei_zip3, ei_rev, ei_rev1, c_nil, x_asg, x_asg1, x_asg2, x_asg3, x_par, x_par1, x_par3, x_par31, x_sub, x_sub1, x_sub2, x_sub3, x_sub4, x_sub5, x_aug, x_aug0, x_aug1, x_aug2, x_augS, x_augS1, x_augS2, x_augS3, x_augS4, x_augS5, x_ret, x_ret1, x_ret2, x_retN, x_ex, x_ex1, x_ex2, x_pass, x_brk, x_cnt, x_if, x_if1, x_if2, x_whl, x_fr, x_fr1, x_rs, x_tr, x_tr1, x_tr2, x_tr3, x_h, x_noX1, x_noX2, x_noX3, xs_nx, xs_rt, xs_bk, xs_ct, xs_ex, f_nil, t_nx, t_rt, t_exc, own_tl, own_int, own_bl, own_non, own_str, own_tup, own_ref, own_fl, xs_nil, xs_cons, start, bindT, bindTs, R.of_some, R.of_none, List.length_cons, List.length_nil, List.map_cons, List.map_nil, List.getElem?_cons_zero, List.getElem?_cons_succ, List.set_cons_zero, List.set_cons_succ, Nat.reduceAdd, Nat.reduceSub, List.cons_append, List.nil_append, List.append_nil, List.replicate, Nat.zero_add, reduceIte, Option.map_some, Option.map_none, fin_same, Bool.not_true, Bool.not_false, Bool.false_eq_true, tyD, primD, binD, sz0, sz1, sz2, sz3, sz4, sz5, sz6, sz7, sz8, nc0, nc1, nc2, nc3, nc4, nc5, nc6, nc7, nc8, Nat.reduceEqDiff, Option.bind_some, Int.reduceLE, Int.reduceLT, Int.reduceEq, Int.reduceToNat, Int.reduceAdd, Int.reduceSub, Int.reduceMul, Int.reduceNeg, Nat.reduceMul, ne_eq, not_false_eq_true, not_true_eq_false, decide_true, decide_false, Bool.and_true, Bool.true_and, Bool.or_false, Bool.false_or, Bool.or_true, Bool.true_or, Bool.and_false, Bool.false_and, beq_self_eq_true, F81, cmpD, eqD_int, decide_eq_false d0]
theorem fits_long (g : HPip Γ) {K l : Nat} {w : Rat} (hw : wok w) {η : Hep} {room depth : Int} (hr : room < l) : callN Γ (K + 5) 81 [enc (.shut l w), .int room, .int depth] η = .ok .non η := by
  rw [call_eq g.h81 rfl]
  simp only [enc]
  by_cases d0 : depth = 0
  · simp -implicitDefEqProofs only [e_lit, e_var, e_glb, e_bin, e_bin1, e_bin2, e_neg, e_neg1, e_cmp, e_cmp1, e_cmp2, e_chn, e_chn1, e_chn2, e_chn3, e_chn4, e_isn, e_isn1, e_isn2, e_and, e_and1, e_and2, e_or, e_or1, e_or2, e_not, e_not1, e_ite, e_ite1, e_ite2, e_tup, e_tup1, e_lst, e_lst1, e_idx, e_idx1, e_idx2, e_slc, e_slc1, e_slc2, e_slc3, e_call, e_call1, e_prim, e_prim1, e_isi, e_isi1, e_isi2, e_meth, e_meth1, e_meth2, e_comp, e_comp1, e_tl, es_nil, es_cons, es_cons1, es_cons2, es_cons3, ep_nil, ep_cons, ep_cons1, eo_no, eo_so, eo_so1, ec_no, ec_so, ei_val, ei_val1, ei_rg, ei_rg1, ei_rg2, ei_rg3, ei_rg4, ei_enm, ei_enm1, ei_zip, ei_zip1, ei_zip2, ei_zip3, ei_rev, ei_rev1, c_nil, x_asg, x_asg1, x_asg2, x_asg3, x_par, x_par1, x_par3, x_par31, x_sub, x_sub1, x_sub2, x_sub3, x_sub4, x_sub5, x_aug, x_aug0, x_aug1, x_aug2, x_augS, x_augS1, x_augS2, x_augS3, x_augS4, x_augS5, x_ret, x_ret1, x_ret2, x_retN, x_ex, x_ex1, x_ex2, x_pass, x_brk, x_cnt, x_if, x_if1, x_if2, x_whl, x_fr, x_fr1, x_rs, x_tr, x_tr1, x_tr2, x_tr3, x_h, x_noX1, x_noX2, x_noX3, xs_nx, xs_rt, xs_bk, xs_ct, xs_ex, f_nil, t_nx, t_rt, t_exc, own_tl, own_int, own_bl, own_non, own_str, own_tup, own_ref, own_fl, xs_nil, xs_cons, start, bindT, bindTs, R.of_some, R.of_none, List.length_cons, List.length_nil, List.map_cons, List.map_nil, List.getElem?_cons_zero, List.getElem?_cons_succ, List.set_cons_zero, List.set_cons_succ, Nat.reduceAdd, Nat.reduceSub, List.cons_append, List.nil_append, List.append_nil, List.replicate, Nat.zero_add, reduceIte, Option.map_some, Option.map_none, fin_same, Bool.not_true, Bool.not_false, Bool.false_eq_true, tyD, primD, binD, sz0, sz1, sz2, sz3, sz4, sz5, sz6, sz7, sz8, nc0, nc1, nc2, nc3, nc4, nc5, nc6, nc7, nc8, Nat.reduceEqDiff, Option.bind_some, Int.reduceLE, Int.reduceLT, Int.reduceEq, Int.reduceToNat, Int.reduceAdd, Int.reduceSub, Int.reduceMul, Int.reduceNeg, Nat.reduceMul, ne_eq, not_false_eq_true, not_true_eq_false, decide_true, decide_false, Bool.and_true, Bool.true_and, Bool.or_false, Bool.false_or, Bool.or_true, Bool.true_or, Bool.and_false, Bool.false_and, beq_self_eq_true, F81, cmpD, eqD_int, decide_eq_true d0]
  · by_cases l1 : (l : Int) < 1
    · simp -implicitDefEqProofs only [e_lit, e_var, e_glb, e_bin, e_bin1, e_bin2, e_neg, e_neg1, e_cmp, e_cmp1, e_cmp2, e_chn, e_chn1, e_chn2, e_chn3, e_chn4, e_isn, e_isn1, e_isn2, e_and, e_and1, e_and2, e_or, e_or1, e_or2, e_not, e_not1, e_ite, e_ite1, e_ite2, e_tup, e_tup1, e_lst, e_lst1, e_idx, e_idx1, e_idx2, e_slc, e_slc1, e_slc2, e_slc3, e_call, e_call1, e_prim, e_prim1, e_isi, e_isi1, e_isi2, e_meth, e_meth1, e_meth2, e_comp, e_comp1, e_tl, es_nil, es_cons, es_cons1, es_cons2, es_cons3, ep_nil, ep_cons, ep_cons1, eo_no, eo_so, eo_so1, ec_no, ec_so, ei_val, ei_val1, ei_rg, ei_rg1, ei_rg2, ei_rg3, ei_rg4, ei_enm, ei_enm1, ei_zip, ei_zip1, ei_zip2, ei_zip3, ei_rev, ei_rev1, c_nil, x_asg, x_asg1, x_asg2, x_asg3, x_par, x_par1, x_par3, x_par31, x_sub, x_sub1, x_sub2, x_sub3, x_sub4, x_sub5, x_aug, x_aug0, x_aug1, x_aug2, x_augS, x_augS1, x_augS2, x_augS3, x_augS4, x_augS5, x_ret, x_ret1, x_ret2, x_retN, x_ex, x_ex1, x_ex2, x_pass, x_brk, x_cnt, x_if, x_if1, x_if2, x_whl, x_fr, x_fr1, x_rs, x_tr, x_tr1, x_tr2, x_tr3, x_h, x_noX1, x_noX2, x_noX3, xs_nx, xs_rt, xs_bk, xs_ct, xs_ex, f_nil, t_nx, t_rt, t_exc, own_tl, own_int, own_bl, own_non, own_str, own_tup, own_ref, own_fl, xs_nil, xs_cons, start, bindT, bindTs, R.of_some, R.of_none, List.length_cons, List.length_nil, List.map_cons, List.map_nil, List.getElem?_cons_zero, List.getElem?_cons_succ, List.set_cons_zero, List.set_cons_succ, Nat.reduceAdd, Nat.reduceSub, List.cons_append, List.nil_append, List.append_nil, List.replicate, Nat.zero_add, reduceIte, Option.map_some, Option.map_none, fin_same, Bool.not_true, Bool.not_false, Bool.false_eq_true, tyD, primD, binD, sz0, sz1, sz2, sz3, sz4, sz5, sz6, sz7, sz8, nc0, nc1, nc2, nc3, nc4, nc5, nc6, nc7, nc8, Nat.reduceEqDiff, Option.bind_some, Int.reduceLE, Int.reduceLT, Int.reduceEq, Int.reduceToNat, Int.reduceAdd, Int.reduceSub, Int.reduceMul, Int.reduceNeg, Nat.reduceMul, ne_eq, not_false_eq_true, not_true_eq_false, decide_true, decide_false, Bool.and_true, Bool.true_and, Bool.or_false, Bool.false_or, Bool.or_true, Bool.true_or, Bool.and_false, Bool.false_and, beq_self_eq_true, F81, cmpD, eqD_int, decide_eq_false d0, seqAny, idx_tup, at0, at1, at2, is_count_int (k := K + 3) g.h0, own_sh, wide_ok (k := K + 1) g hw, decide_eq_true l1]
    · simp -implicitDefEqProofs only [e_lit, e_var, e_glb, e_bin, e_bin1, e_bin2, e_neg, e_neg1, e_cmp, e_cmp1, e_cmp2, e_chn, e_chn1, e_chn2, e_chn3, e_chn4, e_isn, e_isn1, e_isn2, e_and, e_and1, e_and2, e_or, e_or1, e_or2, e_not, e_not1, e_ite, e_ite1, e_ite2, e_tup, e_tup1, e_lst, e_lst1, e_idx, e_idx1, e_idx2, e_slc, e_slc1, e_slc2, e_slc3, e_call, e_call1, e_prim, e_prim1, e_isi, e_isi1, e_isi2, e_meth, e_meth1, e_meth2, e_comp, e_comp1, e_tl, es_nil, es_cons, es_cons1, es_cons2, es_cons3, ep_nil, ep_cons, ep_cons1, eo_no, eo_so, eo_so1, ec_no, ec_so, ei_val, ei_val1, ei_rg, ei_rg1, ei_rg2, ei_rg3, ei_rg4, ei_enm, ei_enm1, ei_zip, ei_zip1, ei_zip2, ei_zip3, ei_rev, ei_rev1, c_nil, x_asg, x_asg1, x_asg2, x_asg3, x_par, x_par1, x_par3, x_par31, x_sub, x_sub1, x_sub2, x_sub3, x_sub4, x_sub5, x_aug, x_aug0, x_aug1, x_aug2, x_augS, x_augS1, x_augS2, x_augS3, x_augS4, x_augS5, x_ret, x_ret1, x_ret2, x_retN, x_ex, x_ex1, x_ex2, x_pass, x_brk, x_cnt, x_if, x_if1, x_if2, x_whl, x_fr, x_fr1, x_rs, x_tr, x_tr1, x_tr2, x_tr3, x_h, x_noX1, x_noX2, x_noX3, xs_nx, xs_rt, xs_bk, xs_ct, xs_ex, f_nil, t_nx, t_rt, t_exc, own_tl, own_int, own_bl, own_non, own_str, own_tup, own_ref, own_fl, xs_nil, xs_cons, start, bindT, bindTs, R.of_some, R.of_none, List.length_cons, List.length_nil, List.map_cons, List.map_nil, List.getElem?_cons_zero, List.getElem?_cons_succ, List.set_cons_zero, List.set_cons_succ, Nat.reduceAdd, Nat.reduceSub, List.cons_append, List.nil_append, List.append_nil, List.replicate, Nat.zero_add, reduceIte, Option.map_some, Option.map_none, fin_same, Bool.not_true, Bool.not_false, Bool.false_eq_true, tyD, primD, binD, sz0, sz1, sz2, sz3, sz4, sz5, sz6, sz7, sz8, nc0, nc1, nc2, nc3, nc4, nc5, nc6, nc7, nc8, Nat.reduceEqDiff, Option.bind_some, Int.reduceLE, Int.reduceLT, Int.reduceEq, Int.reduceToNat, Int.reduceAdd, Int.reduceSub, Int.reduceMul, Int.reduceNeg, Nat.reduceMul, ne_eq, not_false_eq_true, not_true_eq_false, decide_true, decide_false, Bool.and_true, Bool.true_and, Bool.or_false, Bool.false_or, Bool.or_true, Bool.true_or, Bool.and_false, Bool.false_and, beq_self_eq_true, F81, cmpD, eqD_int, decide_eq_false d0, seqAny, idx_tup, at0, at1, at2, is_count_int (k := K + 3) g.h0, own_sh, wide_ok (k := K + 1) g hw, decide_eq_false l1, decide_eq_true hr]
end
end Ev

set_option Elab.async false
set_option linter.all false
set_option maxRecDepth 100000
/-! # k05: the places, function by function -/
namespace Ev
open Law
open Pp
section
variable {Γ : Nat → Option Fd}
theorem fin_excp {c : Nat} {η : Hep} : fin η (.exc c [] η) = .exc c [] η := by
  simp [fin, okCells_self, D.blws]
theorem putD_own {η : Hep} {d : D} (od : own d η = .ok d η) : ∀ (path : List Nat) (p : Pp), own (putD p path d) η = .ok (putD p path d) η
  | [], p => by simpa only [putD] using od
  | i :: r, p => by
    simp only [putD]
    split
    · rfl
    · exact own_enc _
theorem bad_loop {K : Nat} {η : Hep} {v x5 x6 : Option D} {b : D} (ob : own b η = .ok b η) {room depth : Int} {n : Nat} (hb : ∀ r : Int, (n : Int) ≤ r → r ≤ room → callN Γ K 81 [b, .int r, .int (depth - 1)] η = .ok .non η) : ∀ (ks : List Pp) (i : Nat) (c : Int) (x3 x7 : Option D), i < ks.length → (∀ q, ks[i]? = some q → n ≤ size q) →
    (∀ q ∈ ks, ∀ r : Int, (size q : Int) ≤ r → callN Γ K 81 [enc q, .int r, .int (depth - 1)] η = .ok (.int (size q)) η) → 0 ≤ c → c + sizes ks ≤ room →
    fE (callN Γ K) (.cons (.asg (.nm 7) (.call 81 (.cons (.var 3) (.cons (.bin .sub (.var 1) (.var 4)) (.cons (.bin .sub (.var 2) (.lit (.int 1))) .nil))))) (.cons (.ifs (.isn false (.var 7)) (.cons (.ret (.lit .non)) .nil) .nil) (.cons (.aug 4 .add (.var 7)) .nil))) (.nm 3) [] ((encs ks).set i b)
      [v, some (.int room), some (.int depth), x3, some (.int c), x5, x6, x7] η = .rt .non η
  | [], i, c, x3, x7, hi, _, _, _, _ => by simp at hi
  | q :: qs, 0, c, x3, x7, _, hn, _, h0, hc => by
    simp only [sizes] at hc
    have hq := hb (room - c) (by have := hn q rfl; omega) (by omega)
    have nn : decide (D.non = D.non) = true := decide_eq_true rfl
    rw [encs, List.set_cons_zero]
    exact f_rt (ρ1 := [v, some (.int room), some (.int depth), some b, some (.int c), x5, x6, x7]) rfl (by simp -implicitDefEqProofs only [e_lit, e_var, e_glb, e_bin, e_bin1, e_bin2, e_neg, e_neg1, e_cmp, e_cmp1, e_cmp2, e_chn, e_chn1, e_chn2, e_chn3, e_chn4, e_isn, e_isn1, e_isn2, e_and, e_and1, e_and2, e_or, e_or1, e_or2, e_not, e_not1, e_ite, e_ite1, e_ite2, e_tup, e_tup1, e_lst, e_lst1, e_idx, e_idx1, e_idx2, e_slc, e_slc1, e_slc2, e_slc3, e_call, e_call1, e_prim, e_prim1, e_isi, e_isi1, e_isi2, e_meth, e_meth1, e_meth2, e_comp, e_comp1, e_tl, es_nil, es_cons, es_cons1, es_cons2, es_cons3, ep_nil, ep_cons, ep_cons1, eo_no, eo_so, eo_so1, ec_no, ec_so, ei_val, ei_val1, ei_rg, ei_rg1, ei_rg2, ei_rg3, ei_rg4, ei_enm, ei_enm1, ei_zip, ei_zip1, ei_zip2, ei_zip3, ei_rev, ei_rev1, c_nil, x_asg, x_asg1, x_asg2, x_asg3, x_par, x_par1, x_par3, x_par31, x_sub, x_sub1, x_sub2, x_sub3, x_sub4, x_sub5, x_aug, x_aug0, x_aug1, x_aug2, x_augS, x_augS1, x_augS2, x_augS3, x_augS4, x_augS5, x_ret, x_ret1, x_ret2, x_retN, x_ex, x_ex1, x_ex2, x_pass, x_brk, x_cnt, x_if, x_if1, x_if2, x_whl, x_fr, x_fr1, x_rs, x_tr, x_tr1, x_tr2, x_tr3, x_h, x_noX1, x_noX2, x_noX3, xs_nx, xs_rt, xs_bk, xs_ct, xs_ex, f_nil, t_nx, t_rt, t_exc, own_tl, own_int, own_bl, own_non, own_str, own_tup, own_ref, own_fl, xs_nil, xs_cons, start, bindT, bindTs, R.of_some, R.of_none, List.length_cons, List.length_nil, List.map_cons, List.map_nil, List.getElem?_cons_zero, List.getElem?_cons_succ, List.set_cons_zero, List.set_cons_succ, Nat.reduceAdd, Nat.reduceSub, List.cons_append, List.nil_append, List.append_nil, List.replicate, Nat.zero_add, reduceIte, Option.map_some, Option.map_none, fin_same, Bool.not_true, Bool.not_false, Bool.false_eq_true, tyD, primD, binD, sz0, sz1, sz2, sz3, sz4, sz5, sz6, sz7, sz8, nc0, nc1, nc2, nc3, nc4, nc5, nc6, nc7, nc8, Nat.reduceEqDiff, Option.bind_some, Int.reduceLE, Int.reduceLT, Int.reduceEq, Int.reduceToNat, Int.reduceAdd, Int.reduceSub, Int.reduceMul, Int.reduceNeg, Nat.reduceMul, ne_eq, not_false_eq_true, not_true_eq_false, decide_true, decide_false, Bool.and_true, Bool.true_and, Bool.or_false, Bool.false_or, Bool.or_true, Bool.true_or, Bool.and_false, Bool.false_and, beq_self_eq_true, ob, hq, nn])
  | q :: qs, i + 1, c, x3, x7, hi, hn, h, h0, hc => by
    simp only [sizes] at hc
    have hq := h q List.mem_cons_self (room - c) (by omega)
    have nn : decide (D.int (size q : Int) = D.non) = false := decide_eq_false (by simp)
    have e := bad_loop (K := K) (v := v) (x5 := x5) (x6 := x6) ob hb qs i (c + size q) (some (enc q)) (some (.int (size q))) (by simpa using hi) (fun q' hq' => hn q' (by simpa using hq')) (fun q' hq' => h q' (List.mem_cons_of_mem _ hq')) (by omega) (by omega)
    rw [encs, List.set_cons_succ, f_nx (ρ1 := [v, some (.int room), some (.int depth), some (enc q), some (.int c), x5, x6, x7]) (ρ2 := [v, some (.int room), some (.int depth), some (enc q), some (.int (c + size q)), x5, x6, some (.int (size q))]) (η1 := η) rfl (by simp -implicitDefEqProofs only [e_lit, e_var, e_glb, e_bin, e_bin1, e_bin2, e_neg, e_neg1, e_cmp, e_cmp1, e_cmp2, e_chn, e_chn1, e_chn2, e_chn3, e_chn4, e_isn, e_isn1, e_isn2, e_and, e_and1, e_and2, e_or, e_or1, e_or2, e_not, e_not1, e_ite, e_ite1, e_ite2, e_tup, e_tup1, e_lst, e_lst1, e_idx, e_idx1, e_idx2, e_slc, e_slc1, e_slc2, e_slc3, e_call, e_call1, e_prim, e_prim1, e_isi, e_isi1, e_isi2, e_meth, e_meth1, e_meth2, e_comp, e_comp1, e_tl, es_nil, es_cons, es_cons1, es_cons2, es_cons3, ep_nil, ep_cons, ep_cons1, eo_no, eo_so, eo_so1, ec_no, ec_so, ei_val, ei_val1, ei_rg, ei_rg1, ei_rg2, ei_rg3, ei_rg4, ei_enm, ei_enm1, ei_zip, ei_zip1, ei_zip2, ei_zip3, ei_rev, ei_rev1, c_nil, x_asg, x_asg1, x_asg2, x_asg3, x_par, x_par1, x_par3, x_par31, x_sub, x_sub1, x_sub2, x_sub3, x_sub4, x_sub5, x_aug, x_aug0, x_aug1, x_aug2, x_augS, x_augS1, x_augS2, x_augS3, x_augS4, x_augS5, x_ret, x_ret1, x_ret2, x_retN, x_ex, x_ex1, x_ex2, x_pass, x_brk, x_cnt, x_if, x_if1, x_if2, x_whl, x_fr, x_fr1, x_rs, x_tr, x_tr1, x_tr2, x_tr3, x_h, x_noX1, x_noX2, x_noX3, xs_nx, xs_rt, xs_bk, xs_ct, xs_ex, f_nil, t_nx, t_rt, t_exc, own_tl, own_int, own_bl, own_non, own_str, own_tup, own_ref, own_fl, xs_nil, xs_cons, start, bindT, bindTs, R.of_some, R.of_none, List.length_cons, List.length_nil, List.map_cons, List.map_nil, List.getElem?_cons_zero, List.getElem?_cons_succ, List.set_cons_zero, List.set_cons_succ, Nat.reduceAdd, Nat.reduceSub, List.cons_append, List.nil_append, List.append_nil, List.replicate, Nat.zero_add, reduceIte, Option.map_some, Option.map_none, fin_same, Bool.not_true, Bool.not_false, Bool.false_eq_true, tyD, primD, binD, sz0, sz1, sz2, sz3, sz4, sz5, sz6, sz7, sz8, nc0, nc1, nc2, nc3, nc4, nc5, nc6, nc7, nc8, Nat.reduceEqDiff, Option.bind_some, Int.reduceLE, Int.reduceLT, Int.reduceEq, Int.reduceToNat, Int.reduceAdd, Int.reduceSub, Int.reduceMul, Int.reduceNeg, Nat.reduceMul, ne_eq, not_false_eq_true, not_true_eq_false, decide_true, decide_false, Bool.and_true, Bool.true_and, Bool.or_false, Bool.false_or, Bool.or_true, Bool.true_or, Bool.and_false, Bool.false_and, beq_self_eq_true, own_enc, hq, nn]) rfl, e]
theorem fits_bad (g : HPip Γ) {η : Hep} {d : D} (od : own d η = .ok d η) (pd : d.plain = true) (hb : ∀ (K : Nat) (room depth : Int), room ≤ 60 → callN Γ (K + 5) 81 [d, .int room, .int depth] η = .ok .non η) : ∀ (path : List Nat) (K : Nat) (p q : Pp) (room depth : Int), dep p ≤ K → good p → (size p : Int) ≤ room → room ≤ 60 → (dep p : Int) ≤ depth → at' p path = some q →
    callN Γ (K + 5) 81 [putD p path d, .int room, .int depth] η = .ok .non η
  | [], K, p, q, room, depth, _, _, _, h60, _, _ => by
    simp only [putD]
    exact hb K room depth h60
  | i :: r, 0, p, q, room, depth, hk, _, _, _, _, _ => by have := dep_pos p; omega
  | i :: r, K + 1, p, q, room, depth, hk, gp, hs, h60, hd, ha => by
    simp only [at'] at ha
    cases hq : p.kids[i]? with
    | none => rw [hq] at ha; cases ha
    | some p' =>
      rw [hq] at ha
      have mq := List.mem_of_getElem? hq
      have dq := dep_kids mq
      have sz := size_eq p
      have sq := sizes_mem mq
      have gk := good_kids gp
      have few := kids_few gp
      have hi := (List.getElem?_eq_some_iff.mp hq).1
      have lp := len_pos gp
      have d0 : ¬ depth = 0 := by have := dep_pos p; omega
      have l1 : ¬ (p.len : Int) < 1 := by omega
      have l2 : ¬ room < (p.len : Int) := by omega
      have fd : decide (("fork" : PySem.Str) = "drain") = false := by decide
      have ff : decide (("fork" : PySem.Str) = "fork") = true := by decide
      have lk : ((encs p.kids).set i (putD p' r d)).length = p.kids.length := by rw [List.length_set, encs_len]
      have k1 : (1 : Int) ≤ (p.kids.length : Int) := by omega
      have k6 : (p.kids.length : Int) ≤ 6 := by omega
      have pp : D.plains ((encs p.kids).set i (putD p' r d)) = true := by
        have ps : ∀ (l : List D) (i : Nat) (v : D), D.plains l = true → v.plain = true → D.plains (l.set i v) = true := by
          intro l
          induction l with
          | nil => intro i v h _; simpa using h
          | cons a l ih =>
            intro i v h hv
            cases i with
            | zero => simp only [D.plains, List.set_cons_zero, Bool.and_eq_true] at h ⊢; exact ⟨hv, h.2⟩
            | succ i => simp only [D.plains, List.set_cons_succ, Bool.and_eq_true] at h ⊢; exact ⟨h.1, ih i v h.2 hv⟩
        have pv : ∀ (path : List Nat) (p : Pp), (putD p path d).plain = true := by
          intro path
          induction path with
          | nil => intro p; simpa only [putD] using pd
          | cons j r ih =>
            intro p
            simp only [putD]
            split
            · simp only [D.plain, D.plains, sh, Bool.and_true, Bool.true_and]
              exact ps _ _ _ (encs_plain _) (ih _)
            · exact enc_plain _
        exact ps _ _ _ (encs_plain _) (pv r p')
      have e := bad_loop (Γ := Γ) (η := η) (K := K + 5) (room := room) (depth := depth) (v := some (.tup [.int p.len, sh p.wid, .tup [.str "fork", .tup ((encs p.kids).set i (putD p' r d))]])) (x5 := some (sh p.wid)) (x6 := some (.tup [.str "fork", .tup ((encs p.kids).set i (putD p' r d))])) (putD_own od r p') (n := size p')
        (fun rm h1 h2 => fits_bad g od pd hb r K p' q rm (depth - 1) (by omega) (goods_mem gk p' mq) h1 (by omega) (by omega) ha) p.kids i p.len none none hi (fun q' hq' => by rw [hq] at hq'; cases hq'; exact Nat.le_refl _)
        (fun q' hq' rm hr => fits_ok g η (K + 1) q' rm (depth - 1) (by have := dep_kids hq'; omega) (goods_mem gk q' hq') hr (by have := dep_kids hq'; omega)) (by omega) (by omega)
      rw [call_eq g.h81 rfl]
      simp only [putD, hq]
      simp -implicitDefEqProofs only [e_lit, e_var, e_glb, e_bin, e_bin1, e_bin2, e_neg, e_neg1, e_cmp, e_cmp1, e_cmp2, e_chn, e_chn1, e_chn2, e_chn3, e_chn4, e_isn, e_isn1, e_isn2, e_and, e_and1, e_and2, e_or, e_or1, e_or2, e_not, e_not1, e_ite, e_ite1, e_ite2, e_tup, e_tup1, e_lst, e_lst1, e_idx, e_idx1, e_idx2, e_slc, e_slc1, e_slc2, e_slc3, e_call, e_call1, e_prim, e_prim1, e_isi, e_isi1, e_isi2, e_meth, e_meth1, e_meth2, e_comp, e_comp1, e_tl, es_nil, es_cons, es_cons1, es_cons2, es_cons3, ep_nil, ep_cons, ep_cons1, eo_no, eo_so, eo_so1, ec_no, ec_so, ei_val, ei_val1, ei_rg, ei_rg1, ei_rg2, ei_rg3, ei_rg4, ei_enm, ei_enm1, ei_zip, ei_zip1, ei_zip2, ei_zip3, ei_rev, ei_rev1, c_nil, x_asg, x_asg1, x_asg2, x_asg3, x_par, x_par1, x_par3, x_par31, x_sub, x_sub1, x_sub2, x_sub3, x_sub4, x_sub5, x_aug, x_aug0, x_aug1, x_aug2, x_augS, x_augS1, x_augS2, x_augS3, x_augS4, x_augS5, x_ret, x_ret1, x_ret2, x_retN, x_ex, x_ex1, x_ex2, x_pass, x_brk, x_cnt, x_if, x_if1, x_if2, x_whl, x_fr, x_fr1, x_rs, x_tr, x_tr1, x_tr2, x_tr3, x_h, x_noX1, x_noX2, x_noX3, xs_nx, xs_rt, xs_bk, xs_ct, xs_ex, f_nil, t_nx, t_rt, t_exc, own_tl, own_int, own_bl, own_non, own_str, own_tup, own_ref, own_fl, xs_nil, xs_cons, start, bindT, bindTs, R.of_some, R.of_none, List.length_cons, List.length_nil, List.map_cons, List.map_nil, List.getElem?_cons_zero, List.getElem?_cons_succ, List.set_cons_zero, List.set_cons_succ, Nat.reduceAdd, Nat.reduceSub, List.cons_append, List.nil_append, List.append_nil, List.replicate, Nat.zero_add, reduceIte, Option.map_some, Option.map_none, fin_same, Bool.not_true, Bool.not_false, Bool.false_eq_true, tyD, primD, binD, sz0, sz1, sz2, sz3, sz4, sz5, sz6, sz7, sz8, nc0, nc1, nc2, nc3, nc4, nc5, nc6, nc7, nc8, Nat.reduceEqDiff, Option.bind_some, Int.reduceLE, Int.reduceLT, Int.reduceEq, Int.reduceToNat, Int.reduceAdd, Int.reduceSub, Int.reduceMul, Int.reduceNeg, Nat.reduceMul, ne_eq, not_false_eq_true, not_true_eq_false, decide_true, decide_false, Bool.and_true, Bool.true_and, Bool.or_false, Bool.false_or, Bool.or_true, Bool.true_or, Bool.and_false, Bool.false_and, beq_self_eq_true, F81, cmpD, eqD_int, decide_eq_false d0, seqAny, idx_tup, at0, at1, at2, is_count_int (k := K + 4) g.h0, own_sh, wide_ok (k := K + 2) g (wok_wid gp), decide_eq_false l1, decide_eq_false l2, in_two (x := .str "fork") (y := .tup ((encs p.kids).set i (putD p' r d))) (by simp [D.plains, D.plain, pp]), eqD_str, fd, ff, lk, decide_eq_true k1, decide_eq_true k6, watchOf, e]
end
end Ev

set_option Elab.async false
set_option linter.all false
set_option maxRecDepth 100000
set_option maxHeartbeats 0
namespace Ev.Law
open PySem
open PySem.Spec
open PyProof.Rows
open L2 Ev
def top (i : Nat) : Stmt := PySem.Challenge.pw_echoedtree_k05_places_in_a_pipe.main.body.getD i (.Pass ⟨0, 0, 0, 0⟩)
/-- echoedtree.places:begins -/
def F105 : Fd := ⟨2, 4, (.cons (.ex (.call 102 (.cons (.var 0) (.cons (.var 1) .nil))))
 (.cons (.asg (.nm 2) (.lit (.int 0)))
 (.cons (.fr (.nm 3) (.val (.var 1)) (.cons (.aug 2 .add (.idx (.var 0) (.lit (.int 0))))
 (.cons (.asg (.nm 0) (.idx (.call 82 (.cons (.var 0) .nil)) (.var 3)))
 .nil)))
 (.cons (.ret (.var 2))
 .nil))))⟩
/-- echoedtree.places:cut_in_two -/
def F108 : Fd := ⟨3, 7, (.cons (.asg (.nm 3) (.call 102 (.cons (.var 0) (.cons (.var 1) .nil))))
 (.cons (.ifs (.or (.not (.call 0 (.cons (.var 2) .nil))) (.not (.cmp2 .le .lt (.lit (.int 1)) (.var 2) (.idx (.var 3) (.lit (.int 0)))))) (.cons (.raise 783 .nil)
 .nil) .nil)
 (.cons (.asg (.tp [(.nm 4), (.nm 5), (.nm 6)]) (.var 3))
 (.cons (.ret (.call 106 (.cons (.var 0) (.cons (.var 1) (.cons (.tup (.cons (.var 2) (.cons (.var 5) (.cons (.tup (.cons (.lit (.str "fork")) (.cons (.tup (.cons (.tup (.cons (.bin .sub (.var 4) (.var 2)) (.cons (.var 5) (.cons (.var 6) .nil)))) .nil)) .nil))) .nil)))) .nil)))))
 .nil))))⟩
/-- law:_law_nowhere:a77c7e39 -/
def F109 : Fd := ⟨2, 3, (.cons (.fr (.nm 2) (.rng1 (.lit (.int 4))) (.cons (.tr (.cons (.ifs (.cmp .eq (.var 2) (.lit (.int 0))) (.cons (.ex (.call 102 (.cons (.var 0) (.cons (.var 1) .nil))))
 .nil) (.cons (.ifs (.cmp .eq (.var 2) (.lit (.int 1))) (.cons (.ex (.call 105 (.cons (.var 0) (.cons (.var 1) .nil))))
 .nil) (.cons (.ifs (.cmp .eq (.var 2) (.lit (.int 2))) (.cons (.ex (.call 106 (.cons (.var 0) (.cons (.var 1) (.cons (.tup (.cons (.lit (.int 1)) (.cons (.tup (.cons (.lit (.int 1)) (.cons (.lit (.int 1)) .nil))) (.cons (.tup (.cons (.lit (.str "shut")) .nil)) .nil)))) .nil)))))
 .nil) (.cons (.ex (.call 108 (.cons (.var 0) (.cons (.var 1) (.cons (.lit (.int 1)) .nil)))))
 .nil))
 .nil))
 .nil))
 .nil) (.cons 783 (.cons .cnt
 .nil) .nil))
 (.cons (.ret (.lit (.bl false)))
 .nil)))
 (.cons (.ret (.lit (.bl true)))
 .nil))⟩
/-- law:_law_uncut:4bffd1a8 -/
def F110 : Fd := ⟨3, 3, (.cons (.tr (.cons (.ex (.call 108 (.cons (.var 0) (.cons (.var 1) (.cons (.var 2) .nil)))))
 .nil) (.cons 783 (.cons (.ret (.lit (.bl true)))
 .nil) .nil))
 (.cons (.ret (.lit (.bl false)))
 .nil))⟩
/-- law:_law_no_pipe:72da71e1 -/
def F111 : Fd := ⟨3, 3, (.cons (.tr (.cons (.ex (.call 106 (.cons (.var 0) (.cons (.var 1) (.cons (.var 2) .nil)))))
 .nil) (.cons 784 (.cons (.ret (.lit (.bl true)))
 .nil) .nil))
 (.cons (.ret (.lit (.bl false)))
 .nil))⟩
/-- law:law:5ce41c3f -/
def F112 : Fd := ⟨1, 13, (.cons (.asg (.nm 1) (.call 21 (.cons (.var 0) .nil)))
 (.cons (.asg (.nm 2) (.call 92 (.cons (.var 1) (.cons (.bin .add (.lit (.int 2)) (.call 22 (.cons (.var 1) (.cons (.lit (.int 13)) .nil)))) (.cons (.lit (.int 4)) (.cons (.lit (.bl true)) .nil))))))
 (.cons (.asg (.nm 3) (.call 95 (.cons (.var 2) .nil)))
 (.cons (.ifs (.not (.call 24 (.cons (.call 103 (.cons (.var 2) .nil)) (.cons (.prim .tuple (.cons (.var 3) .nil)) .nil)))) (.cons (.ret (.lit (.bl false)))
 .nil) .nil)
 (.cons (.ifs (.not (.call 24 (.cons (.call 104 (.cons (.var 2) .nil)) (.cons (.prim .tuple (.cons (.comp (.var 4) (.nm 4) (.val (.var 3)) (.so (.cmp .eq (.call 94 (.cons (.call 96 (.cons (.var 2) (.cons (.var 4) .nil))) .nil)) (.tup .nil))) [4]) .nil)) .nil)))) (.cons (.ret (.lit (.bl false)))
 .nil) .nil)
 (.cons (.fr (.nm 4) (.val (.var 3)) (.cons (.asg (.nm 8) (.prim .sum (.cons (.comp (.idx (.call 96 (.cons (.var 2) (.cons (.slc (.var 4) .no (.so (.var 12))) .nil))) (.lit (.int 0))) (.nm 12) (.rng1 (.prim .len (.cons (.var 4) .nil))) .no [12]) .nil)))
 (.cons (.ifs (.or (.not (.call 24 (.cons (.call 102 (.cons (.var 2) (.cons (.var 4) .nil))) (.cons (.call 96 (.cons (.var 2) (.cons (.var 4) .nil))) .nil)))) (.not (.call 24 (.cons (.call 105 (.cons (.var 2) (.cons (.var 4) .nil))) (.cons (.var 8) .nil))))) (.cons (.ret (.lit (.bl false)))
 .nil) .nil)
 .nil)))
 (.cons (.asg (.nm 4) (.call 23 (.cons (.var 1) (.cons (.var 3) .nil))))
 (.cons (.par 9 10 (.call 96 (.cons (.var 2) (.cons (.var 4) .nil))) (.call 92 (.cons (.var 1) (.cons (.lit (.int 5)) (.cons (.lit (.int 2)) (.cons (.lit (.bl true)) .nil))))))
 (.cons (.ifs (.not (.call 24 (.cons (.call 106 (.cons (.var 2) (.cons (.var 4) (.cons (.var 10) .nil)))) (.cons (.call 97 (.cons (.var 2) (.cons (.var 4) (.cons (.var 10) .nil)))) .nil)))) (.cons (.ret (.lit (.bl false)))
 .nil) .nil)
 (.cons (.fr (.nm 5) (.rng2 (.lit (.int 0)) (.bin .add (.idx (.var 9) (.lit (.int 0))) (.lit (.int 1)))) (.cons (.ifs (.cmp2 .le .lt (.lit (.int 1)) (.var 5) (.idx (.var 9) (.lit (.int 0)))) (.cons (.asg (.nm 11) (.tup (.cons (.var 5) (.cons (.idx (.var 9) (.lit (.int 1))) (.cons (.tup (.cons (.lit (.str "fork")) (.cons (.tup (.cons (.tup (.cons (.bin .sub (.idx (.var 9) (.lit (.int 0))) (.var 5)) (.cons (.idx (.var 9) (.lit (.int 1))) (.cons (.idx (.var 9) (.lit (.int 2))) .nil)))) .nil)) .nil))) .nil)))))
 (.cons (.ifs (.not (.call 24 (.cons (.call 108 (.cons (.var 2) (.cons (.var 4) (.cons (.var 5) .nil)))) (.cons (.call 97 (.cons (.var 2) (.cons (.var 4) (.cons (.var 11) .nil)))) .nil)))) (.cons (.ret (.lit (.bl false)))
 .nil) .nil)
 .nil)) (.cons (.ifs (.not (.call 110 (.cons (.var 2) (.cons (.var 4) (.cons (.var 5) .nil))))) (.cons (.ret (.lit (.bl false)))
 .nil) .nil)
 .nil))
 .nil))
 (.cons (.asg (.nm 6) (.prim .len (.cons (.call 94 (.cons (.var 9) .nil)) .nil)))
 (.cons (.fr (.nm 7) (.val (.tup (.cons (.bin .add (.var 4) (.tup (.cons (.var 6) .nil))) (.cons (.bin .add (.var 4) (.tup (.cons (.neg (.lit (.int 1))) .nil))) (.cons (.bin .add (.var 4) (.tup (.cons (.lit (.bl true)) .nil))) (.cons (.bin .add (.var 4) (.tup (.cons (.lit .non) .nil))) (.cons (.prim .list (.cons (.var 4) .nil)) (.cons (.lit (.str "0")) (.cons (.lit .non) .nil))))))))) (.cons (.ifs (.not (.call 109 (.cons (.var 2) (.cons (.var 7) .nil)))) (.cons (.ret (.lit (.bl false)))
 .nil) .nil)
 .nil))
 (.cons (.ifs (.or (.not (.call 24 (.cons (.call 101 (.cons (.var 4) .nil)) (.cons (.lit (.bl true)) .nil)))) (.or (.not (.call 24 (.cons (.call 101 (.cons (.tup (.cons (.lit (.int 0)) (.cons (.neg (.lit (.int 1))) .nil))) .nil)) (.cons (.lit (.bl false)) .nil)))) (.or (.not (.call 24 (.cons (.call 101 (.cons (.lst (.cons (.lit (.int 0)) .nil)) .nil)) (.cons (.lit (.bl false)) .nil)))) (.not (.call 24 (.cons (.call 101 (.cons (.tup (.cons (.lit (.bl true)) .nil)) .nil)) (.cons (.lit (.bl false)) .nil))))))) (.cons (.ret (.lit (.bl false)))
 .nil) .nil)
 (.cons (.ret (.and (.call 111 (.cons (.var 2) (.cons (.var 4) (.cons (.tup (.cons (.lit (.int 61)) (.cons (.tup (.cons (.lit (.int 1)) (.cons (.lit (.int 1)) .nil))) (.cons (.tup (.cons (.lit (.str "shut")) .nil)) .nil)))) .nil)))) (.and (.call 111 (.cons (.var 2) (.cons (.var 4) (.cons (.lit .non) .nil)))) (.call 110 (.cons (.var 2) (.cons (.var 4) (.cons (.lit (.bl true)) .nil)))))))
 .nil))))))))))))))⟩
def d_is_count : Def := ⟨0, "is_count", "is_count", top 6, ["value"], F0⟩
def d_divisor : Def := ⟨1, "divisor", "divisor", top 7, ["one", "other"], F1⟩
def d_is_share : Def := ⟨60, "is_share", "is_share", top 8, ["value"], F60⟩
def d_less : Def := ⟨69, "less", "less", top 9, ["one", "other"], F69⟩
def d_is_wide : Def := ⟨79, "is_wide", "is_wide", top 16, ["value"], F79⟩
def d_is_pipe : Def := ⟨80, "is_pipe", "is_pipe", top 17, ["value"], F80⟩
def d_fits : Def := ⟨81, "fits", "fits", top 18, ["value", "room", "depth", "kid", "length", "width", "end", "inner"], F81⟩
def d_check_pipe : Def := ⟨100, "check_pipe", "check_pipe", top 19, ["value"], F100⟩
def d_kids : Def := ⟨82, "kids", "kids", top 20, ["pipe"], F82⟩
def d_is_path : Def := ⟨101, "is_path", "is_path", top 22, ["value", "item"], F101⟩
def d_pipe_at : Def := ⟨102, "pipe_at", "pipe_at", top 23, ["pipe", "path", "item"], F102⟩
def d_all_paths : Def := ⟨103, "all_paths", "all_paths", top 24, ["pipe", "found", "k", "kid", "path"], F103⟩
def d_far_ends : Def := ⟨104, "far_ends", "far_ends", top 25, ["pipe", "path"], F104⟩
def d_begins : Def := ⟨105, "begins", "begins", top 26, ["pipe", "path", "found", "item"], F105⟩
def d_replaced : Def := ⟨106, "replaced", "replaced", top 27, ["pipe", "path", "new", "made"], F106⟩
def d__replaced : Def := ⟨107, "_replaced", "_replaced", top 28, ["pipe", "path", "new", "lots", "length", "width", "end", "k", "kid"], F107⟩
def d_cut_in_two : Def := ⟨108, "cut_in_two", "cut_in_two", top 29, ["pipe", "path", "at", "inner", "length", "width", "end"], F108⟩
def d__law_tape : Def := ⟨21, "_law_tape", "_law_tape", top 31, ["script", "seed", "cell"], F21⟩
def d__law_draw : Def := ⟨22, "_law_draw", "_law_draw", top 32, ["tape", "many", "cells", "number"], F22⟩
def d__law_pick : Def := ⟨23, "_law_pick", "_law_pick", top 33, ["tape", "choices"], F23⟩
def d__law_same : Def := ⟨24, "_law_same", "_law_same", top 34, ["actual", "due", "k"], F24⟩
def d__law_make : Def := ⟨25, "_law_make", "_law_make", top 35, ["above", "below", "one", "other"], F25⟩
def d__law_width : Def := ⟨90, "_law_width", "_law_width", top 36, ["tape"], F90⟩
def d__law_size : Def := ⟨91, "_law_size", "_law_size", top 37, ["pipe", "kid"], F91⟩
def d__law_pipe : Def := ⟨92, "_law_pipe", "_law_pipe", top 38, ["tape", "room", "deep", "drains", "left", "kind", "length", "width", "lots", "turn", "kid"], F92⟩
def d__law_kids : Def := ⟨94, "_law_kids", "_law_kids", top 39, ["pipe"], F94⟩
def d__law_paths : Def := ⟨95, "_law_paths", "_law_paths", top 40, ["pipe", "found", "k", "kid", "path"], F95⟩
def d__law_at : Def := ⟨96, "_law_at", "_law_at", top 41, ["pipe", "path", "item"], F96⟩
def d__law_put : Def := ⟨97, "_law_put", "_law_put", top 42, ["pipe", "path", "new", "lots", "k", "kid"], F97⟩
def d__law_nowhere : Def := ⟨109, "_law_nowhere", "_law_nowhere", top 43, ["pipe", "path", "turn"], F109⟩
def d__law_uncut : Def := ⟨110, "_law_uncut", "_law_uncut", top 44, ["pipe", "path", "at"], F110⟩
def d__law_no_pipe : Def := ⟨111, "_law_no_pipe", "_law_no_pipe", top 45, ["pipe", "path", "new"], F111⟩
def d_law : Def := ⟨112, "law", "law", top 46, ["script", "tape", "pipe", "paths", "path", "at", "beyond", "wrong", "way", "one", "new", "made", "k"], F112⟩
def defs : List Def := (([d_is_count, d_divisor, d_is_share, d_less, d_is_wide, d_is_pipe, d_fits, d_check_pipe, d_kids, d_is_path, d_pipe_at, d_all_paths] : List (Def)) ++ (([d_far_ends, d_begins, d_replaced, d__replaced, d_cut_in_two, d__law_tape, d__law_draw, d__law_pick, d__law_same, d__law_make, d__law_width, d__law_size] : List (Def)) ++ ([d__law_pipe, d__law_kids, d__law_paths, d__law_at, d__law_put, d__law_nowhere, d__law_uncut, d__law_no_pipe, d_law] : List (Def))))
def tab : Tab := ⟨(([(0, "is_count", F0), (1, "divisor", F1), (60, "is_share", F60), (69, "less", F69), (79, "is_wide", F79), (80, "is_pipe", F80), (81, "fits", F81), (100, "check_pipe", F100), (82, "kids", F82), (101, "is_path", F101), (102, "pipe_at", F102), (103, "all_paths", F103)] : List (Nat × PySem.Str × Fd)) ++ (([(104, "far_ends", F104), (105, "begins", F105), (106, "replaced", F106), (107, "_replaced", F107), (108, "cut_in_two", F108), (21, "_law_tape", F21), (22, "_law_draw", F22), (23, "_law_pick", F23), (24, "_law_same", F24), (25, "_law_make", F25), (90, "_law_width", F90), (91, "_law_size", F91)] : List (Nat × PySem.Str × Fd)) ++ ([(92, "_law_pipe", F92), (94, "_law_kids", F94), (95, "_law_paths", F95), (96, "_law_at", F96), (97, "_law_put", F97), (109, "_law_nowhere", F109), (110, "_law_uncut", F110), (111, "_law_no_pipe", F111), (112, "law", F112)] : List (Nat × PySem.Str × Fd)))), ([("MOST_DEPTH", (.int 60)), ("MOST_KIDS", (.int 6)), ("MOST_SIZE", (.int 60)), ("OPEN", (.tup [(.str "open")])), ("SHUT", (.tup [(.str "shut")])), ("ZERO", (.tup [(.int 0), (.int 1)]))] : List (PySem.Str × D)), ([(784, "BadPipe"), (783, "BadPlace")] : List (Nat × PySem.Str))⟩
theorem ck_is_count : ckDef tab d_is_count = true := by decide +kernel
theorem ck_divisor : ckDef tab d_divisor = true := by decide +kernel
theorem ck_is_share : ckDef tab d_is_share = true := by decide +kernel
theorem ck_less : ckDef tab d_less = true := by decide +kernel
theorem ck_is_wide : ckDef tab d_is_wide = true := by decide +kernel
theorem ck_is_pipe : ckDef tab d_is_pipe = true := by decide +kernel
theorem ck_fits : ckDef tab d_fits = true := by decide +kernel
theorem ck_check_pipe : ckDef tab d_check_pipe = true := by decide +kernel
theorem ck_kids : ckDef tab d_kids = true := by decide +kernel
theorem ck_is_path : ckDef tab d_is_path = true := by decide +kernel
theorem ck_pipe_at : ckDef tab d_pipe_at = true := by decide +kernel
theorem ck_all_paths : ckDef tab d_all_paths = true := by decide +kernel
theorem ck_far_ends : ckDef tab d_far_ends = true := by decide +kernel
theorem ck_begins : ckDef tab d_begins = true := by decide +kernel
theorem ck_replaced : ckDef tab d_replaced = true := by decide +kernel
theorem ck__replaced : ckDef tab d__replaced = true := by decide +kernel
theorem ck_cut_in_two : ckDef tab d_cut_in_two = true := by decide +kernel
theorem ck__law_tape : ckDef tab d__law_tape = true := by decide +kernel
theorem ck__law_draw : ckDef tab d__law_draw = true := by decide +kernel
theorem ck__law_pick : ckDef tab d__law_pick = true := by decide +kernel
theorem ck__law_same : ckDef tab d__law_same = true := by decide +kernel
theorem ck__law_make : ckDef tab d__law_make = true := by decide +kernel
theorem ck__law_width : ckDef tab d__law_width = true := by decide +kernel
theorem ck__law_size : ckDef tab d__law_size = true := by decide +kernel
theorem ck__law_pipe : ckDef tab d__law_pipe = true := by decide +kernel
theorem ck__law_kids : ckDef tab d__law_kids = true := by decide +kernel
theorem ck__law_paths : ckDef tab d__law_paths = true := by decide +kernel
theorem ck__law_at : ckDef tab d__law_at = true := by decide +kernel
theorem ck__law_put : ckDef tab d__law_put = true := by decide +kernel
theorem ck__law_nowhere : ckDef tab d__law_nowhere = true := by decide +kernel
theorem ck__law_uncut : ckDef tab d__law_uncut = true := by decide +kernel
theorem ck__law_no_pipe : ckDef tab d__law_no_pipe = true := by decide +kernel
theorem ck_law : ckDef tab d_law = true := by decide +kernel
theorem b_is_count : BindOk d_is_count := fun _ _ _ _ _ _ us hl => match us, hl with | [_], _ => rfl
theorem b_divisor : BindOk d_divisor := fun _ _ _ _ _ _ us hl => match us, hl with | [_, _], _ => rfl
theorem b_is_share : BindOk d_is_share := fun _ _ _ _ _ _ us hl => match us, hl with | [_], _ => rfl
theorem b_less : BindOk d_less := fun _ _ _ _ _ _ us hl => match us, hl with | [_, _], _ => rfl
theorem b_is_wide : BindOk d_is_wide := fun _ _ _ _ _ _ us hl => match us, hl with | [_], _ => rfl
theorem b_is_pipe : BindOk d_is_pipe := fun _ _ _ _ _ _ us hl => match us, hl with | [_], _ => rfl
theorem b_fits : BindOk d_fits := fun _ _ _ _ _ _ us hl => match us, hl with | [_, _, _], _ => rfl
theorem b_check_pipe : BindOk d_check_pipe := fun _ _ _ _ _ _ us hl => match us, hl with | [_], _ => rfl
theorem b_kids : BindOk d_kids := fun _ _ _ _ _ _ us hl => match us, hl with | [_], _ => rfl
theorem b_is_path : BindOk d_is_path := fun _ _ _ _ _ _ us hl => match us, hl with | [_], _ => rfl
theorem b_pipe_at : BindOk d_pipe_at := fun _ _ _ _ _ _ us hl => match us, hl with | [_, _], _ => rfl
theorem b_all_paths : BindOk d_all_paths := fun _ _ _ _ _ _ us hl => match us, hl with | [_], _ => rfl
theorem b_far_ends : BindOk d_far_ends := fun _ _ _ _ _ _ us hl => match us, hl with | [_], _ => rfl
theorem b_begins : BindOk d_begins := fun _ _ _ _ _ _ us hl => match us, hl with | [_, _], _ => rfl
theorem b_replaced : BindOk d_replaced := fun _ _ _ _ _ _ us hl => match us, hl with | [_, _, _], _ => rfl
theorem b__replaced : BindOk d__replaced := fun _ _ _ _ _ _ us hl => match us, hl with | [_, _, _], _ => rfl
theorem b_cut_in_two : BindOk d_cut_in_two := fun _ _ _ _ _ _ us hl => match us, hl with | [_, _, _], _ => rfl
theorem b__law_tape : BindOk d__law_tape := fun _ _ _ _ _ _ us hl => match us, hl with | [_], _ => rfl
theorem b__law_draw : BindOk d__law_draw := fun _ _ _ _ _ _ us hl => match us, hl with | [_, _], _ => rfl
theorem b__law_pick : BindOk d__law_pick := fun _ _ _ _ _ _ us hl => match us, hl with | [_, _], _ => rfl
theorem b__law_same : BindOk d__law_same := fun _ _ _ _ _ _ us hl => match us, hl with | [_, _], _ => rfl
theorem b__law_make : BindOk d__law_make := fun _ _ _ _ _ _ us hl => match us, hl with | [_, _], _ => rfl
theorem b__law_width : BindOk d__law_width := fun _ _ _ _ _ _ us hl => match us, hl with | [_], _ => rfl
theorem b__law_size : BindOk d__law_size := fun _ _ _ _ _ _ us hl => match us, hl with | [_], _ => rfl
theorem b__law_pipe : BindOk d__law_pipe := fun _ _ _ _ _ _ us hl => match us, hl with | [_, _, _, _], _ => rfl
theorem b__law_kids : BindOk d__law_kids := fun _ _ _ _ _ _ us hl => match us, hl with | [_], _ => rfl
theorem b__law_paths : BindOk d__law_paths := fun _ _ _ _ _ _ us hl => match us, hl with | [_], _ => rfl
theorem b__law_at : BindOk d__law_at := fun _ _ _ _ _ _ us hl => match us, hl with | [_, _], _ => rfl
theorem b__law_put : BindOk d__law_put := fun _ _ _ _ _ _ us hl => match us, hl with | [_, _, _], _ => rfl
theorem b__law_nowhere : BindOk d__law_nowhere := fun _ _ _ _ _ _ us hl => match us, hl with | [_, _], _ => rfl
theorem b__law_uncut : BindOk d__law_uncut := fun _ _ _ _ _ _ us hl => match us, hl with | [_, _, _], _ => rfl
theorem b__law_no_pipe : BindOk d__law_no_pipe := fun _ _ _ _ _ _ us hl => match us, hl with | [_, _, _], _ => rfl
theorem b_law : BindOk d_law := fun _ _ _ _ _ _ us hl => match us, hl with | [_], _ => rfl
theorem hck : ∀ d ∈ defs, ckDef tab d = true := by
  unfold defs
  simp only [List.forall_mem_append, List.forall_mem_cons]
  exact ⟨⟨ck_is_count, ck_divisor, ck_is_share, ck_less, ck_is_wide, ck_is_pipe, ck_fits, ck_check_pipe, ck_kids, ck_is_path, ck_pipe_at, ck_all_paths, fun _ h => (by cases h)⟩, ⟨⟨ck_far_ends, ck_begins, ck_replaced, ck__replaced, ck_cut_in_two, ck__law_tape, ck__law_draw, ck__law_pick, ck__law_same, ck__law_make, ck__law_width, ck__law_size, fun _ h => (by cases h)⟩, ⟨ck__law_pipe, ck__law_kids, ck__law_paths, ck__law_at, ck__law_put, ck__law_nowhere, ck__law_uncut, ck__law_no_pipe, ck_law, fun _ h => (by cases h)⟩⟩⟩
theorem hb : ∀ d ∈ defs, BindOk d := by
  unfold defs
  simp only [List.forall_mem_append, List.forall_mem_cons]
  exact ⟨⟨b_is_count, b_divisor, b_is_share, b_less, b_is_wide, b_is_pipe, b_fits, b_check_pipe, b_kids, b_is_path, b_pipe_at, b_all_paths, fun _ h => (by cases h)⟩, ⟨⟨b_far_ends, b_begins, b_replaced, b__replaced, b_cut_in_two, b__law_tape, b__law_draw, b__law_pick, b__law_same, b__law_make, b__law_width, b__law_size, fun _ h => (by cases h)⟩, ⟨b__law_pipe, b__law_kids, b__law_paths, b__law_at, b__law_put, b__law_nowhere, b__law_uncut, b__law_no_pipe, b_law, fun _ h => (by cases h)⟩⟩⟩
def loose : List PySem.Str := ((["EchoError", "BadPipe", "BadPlace", "ZERO", "is_count", "divisor", "is_share", "less", "MOST_SIZE", "MOST_DEPTH", "MOST_KIDS", "SHUT"] : List PySem.Str) ++ ((["OPEN", "is_wide", "is_pipe", "fits", "check_pipe", "kids", "is_path", "pipe_at", "all_paths", "far_ends", "begins", "replaced"] : List PySem.Str) ++ ((["_replaced", "cut_in_two", "_law_tape", "_law_draw", "_law_pick", "_law_same", "_law_make", "_law_width", "_law_size", "_law_pipe", "_law_kids", "_law_paths"] : List PySem.Str) ++ (["_law_at", "_law_put", "_law_nowhere", "_law_uncut", "_law_no_pipe"] : List PySem.Str))))
abbrev Rw : PySem.W.OpenRow := PySem.W.OpenLaw.row PySem.Challenge.rw_echoedtree_k05_places_in_a_pipe
abbrev vw : Program := PySem.W.view Rw.prog [46]
theorem run (w : World) : HandSHeadRun.RunEq Rw vw (hookE 5 tab defs) (obE 5 tab defs) 2280 loose w := by
  intro os
  kernel_rfl
end Ev.Law
open PySem PySem.W PySem.Calls PyProof.Rows in
theorem PySem.Challenge.cw_echoedtree_k05_places_in_a_pipe_of (law : ∀ ns : List Int, ns.length ≤ 63 → ∃ η, Ev.callN Ev.Law.tab.Γ (40 + 1) 112 [.fl (ns.map .int)] [] = .ok (.bl true) η) : PySem.Challenge.rw_echoedtree_k05_places_in_a_pipe.Holds := by
  w_on; o_law
  refine HandSHeadRun.head_any (r := OpenLaw.row PySem.Challenge.rw_echoedtree_k05_places_in_a_pipe) (q := view (OpenLaw.row PySem.Challenge.rw_echoedtree_k05_places_in_a_pipe).prog [46]) (H := Ev.hookE 5 Ev.Law.tab Ev.Law.defs) (ob := Ev.obE 5 Ev.Law.tab Ev.Law.defs) (M := 2280) (loose := Ev.Law.loose) (d := HandSHeadRun.topDef (OpenLaw.row PySem.Challenge.rw_echoedtree_k05_places_in_a_pipe).prog 46) (kwd := []) (Ev.obE_eq 5 Ev.Law.tab Ev.Law.defs)
    (by kernel_rfl) (fun s => by kernel_rfl) Ev.Law.run (by kernel_rfl) (by kernel_rfl) (by kernel_rfl) (by rfl) (by first | assumption | decide +kernel) (by decide +kernel) ⟨rfl, rfl, rfl, rfl, rfl, by decide +kernel⟩ ?hw ?hc
  case hw => w_witness2
  case hc =>
    refine Ev.walk_ofX (l := PySem.Challenge.rw_echoedtree_k05_places_in_a_pipe) (n := 63) (k := 40 + 1) (x := "script") rfl (by decide) (by kernel_rfl) ⟨rfl, by decide, by decide⟩ ?F
    intro w mg fa h Y G hmg0
    have hmg : mg ("law" : PySem.Str) = some (.ref fa) := by
      have e : (HandSHeadRun.topDef (OpenLaw.row PySem.Challenge.rw_echoedtree_k05_places_in_a_pipe).prog 46).name = ("law" : PySem.Str) := by kernel_rfl
      rw [← e]
      exact hmg0
    exact Ev.law_F (d := Ev.Law.d_law) rfl Ev.Law.hck Ev.Law.hb (by unfold Ev.Law.defs; simp) (by rfl) (by rfl) law Y G hmg

set_option Elab.async false
set_option linter.all false
set_option maxRecDepth 100000
/-! # k05: begins, cuts, refusals -/
namespace Ev
open Law
open Pp
structure HPla (Γ : Nat → Option Fd) : Prop extends HPth Γ where
  h104 : Γ 104 = some F104
  h105 : Γ 105 = some F105
  h106 : Γ 106 = some F106
  h107 : Γ 107 = some F107
  h108 : Γ 108 = some F108
  h109 : Γ 109 = some F109
  h110 : Γ 110 = some F110
  h111 : Γ 111 = some F111
namespace Pp
def beg : Pp → List Nat → Nat
  | _, [] => 0
  | p, i :: r => match p.kids[i]? with
    | some q => p.len + beg q r
    | none => 0
end Pp
section
variable {Γ : Nat → Option Fd}
theorem beg_loop {K : Nat} (h82 : Γ 82 = some F82) {η : Hep} {x1 : Option D} : ∀ (path : List Nat) (p q : Pp) (c : Nat) (x3 : Option D), at' p path = some q →
    ∃ x3', fE (callN Γ (K + 1)) (.cons (.aug 2 .add (.idx (.var 0) (.lit (.int 0)))) (.cons (.asg (.nm 0) (.idx (.call 82 (.cons (.var 0) .nil)) (.var 3))) .nil)) (.nm 3) [] (path.map fun (i : Nat) => D.int (i : Int)) [some (enc p), x1, some (.int (c : Int)), x3] η = .nx [some (enc q), x1, some (.int ((c + beg p path : Nat) : Int)), x3'] η
  | [], p, q, c, x3, h => by
    simp only [at', Option.some.injEq] at h; subst h
    exact ⟨x3, by simp only [beg, Nat.add_zero]; rfl⟩
  | i :: r, p, q, c, x3, h => by
    simp only [at'] at h
    cases hk : p.kids[i]? with
    | none => rw [hk] at h; cases h
    | some p' =>
      rw [hk] at h
      obtain ⟨x3', e⟩ := beg_loop (K := K) h82 (η := η) (x1 := x1) r p' q (c + p.len) (some (.int i)) h
      refine ⟨x3', ?_⟩
      have i0 : idxD (enc p) (.int 0) η = some (.int (p.len : Int)) := by rw [enc_eq p, idx_tup, at0]
      rw [List.map_cons, f_nx (ρ1 := [some (enc p), x1, some (.int c), some (.int i)]) (ρ2 := [some (enc p'), x1, some (.int ((c + p.len : Nat) : Int)), some (.int i)]) (η1 := η) rfl (by
        simp -implicitDefEqProofs only [e_lit, e_var, e_glb, e_bin, e_bin1, e_bin2, e_neg, e_neg1, e_cmp, e_cmp1, e_cmp2, e_chn, e_chn1, e_chn2, e_chn3, e_chn4, e_isn, e_isn1, e_isn2, e_and, e_and1, e_and2, e_or, e_or1, e_or2, e_not, e_not1, e_ite, e_ite1, e_ite2, e_tup, e_tup1, e_lst, e_lst1, e_idx, e_idx1, e_idx2, e_slc, e_slc1, e_slc2, e_slc3, e_call, e_call1, e_prim, e_prim1, e_isi, e_isi1, e_isi2, e_meth, e_meth1, e_meth2, e_comp, e_comp1, e_tl, es_nil, es_cons, es_cons1, es_cons2, es_cons3, ep_nil, ep_cons, ep_cons1, eo_no, eo_so, eo_so1, ec_no, ec_so, ei_val, ei_val1, ei_rg, ei_rg1, ei_rg2, ei_rg3, ei_rg4, ei_enm, ei_enm1, ei_zip, ei_zip1, ei_zip2, ei_zip3, ei_rev, ei_rev1, c_nil, x_asg, x_asg1, x_asg2, x_asg3, x_par, x_par1, x_par3, x_par31, x_sub, x_sub1, x_sub2, x_sub3, x_sub4, x_sub5, x_aug, x_aug0, x_aug1, x_aug2, x_augS, x_augS1, x_augS2, x_augS3, x_augS4, x_augS5, x_ret, x_ret1, x_ret2, x_retN, x_ex, x_ex1, x_ex2, x_pass, x_brk, x_cnt, x_if, x_if1, x_if2, x_whl, x_fr, x_fr1, x_rs, x_tr, x_tr1, x_tr2, x_tr3, x_h, x_noX1, x_noX2, x_noX3, xs_nx, xs_rt, xs_bk, xs_ct, xs_ex, f_nil, t_nx, t_rt, t_exc, own_tl, own_int, own_bl, own_non, own_str, own_tup, own_ref, own_fl, xs_nil, xs_cons, start, bindT, bindTs, R.of_some, R.of_none, List.length_cons, List.length_nil, List.map_cons, List.map_nil, List.getElem?_cons_zero, List.getElem?_cons_succ, List.set_cons_zero, List.set_cons_succ, Nat.reduceAdd, Nat.reduceSub, List.cons_append, List.nil_append, List.append_nil, List.replicate, Nat.zero_add, reduceIte, Option.map_some, Option.map_none, fin_same, Bool.not_true, Bool.not_false, Bool.false_eq_true, tyD, primD, binD, sz0, sz1, sz2, sz3, sz4, sz5, sz6, sz7, sz8, nc0, nc1, nc2, nc3, nc4, nc5, nc6, nc7, nc8, Nat.reduceEqDiff, Option.bind_some, Int.reduceLE, Int.reduceLT, Int.reduceEq, Int.reduceToNat, Int.reduceAdd, Int.reduceSub, Int.reduceMul, Int.reduceNeg, Nat.reduceMul, ne_eq, not_false_eq_true, not_true_eq_false, decide_true, decide_false, Bool.and_true, Bool.true_and, Bool.or_false, Bool.false_or, Bool.or_true, Bool.true_or, Bool.and_false, Bool.false_and, beq_self_eq_true, own_enc, kids_ok h82 p (k := K), idx_tup, kid_at hk, i0, Int.natCast_add]) rfl, e]
      simp only [beg, hk, Nat.add_assoc]
theorem begins_ok (g : HPla Γ) {K : Nat} {η : Hep} {p q : Pp} {path : List Nat} (hk : dep p ≤ K) (gp : good p) (hs : size p ≤ 60) (hl : path.length ≤ 1000) (ha : at' p path = some q) : callN Γ (K + 8) 105 [enc p, encP path] η = .ok (.int (beg p path)) η := by
  obtain ⟨x3, e⟩ := beg_loop (K := K + 6) g.h82 (η := η) (x1 := some (encP path)) path p q 0 none ha
  simp only [Nat.zero_add] at e
  have sq : seqAny η (encP path) = some (path.map fun (i : Nat) => D.int (i : Int)) := rfl
  have wq : watchOf (encP path) (path.map fun (i : Nat) => D.int (i : Int)) = [] := rfl
  rw [call_eq g.h105 rfl]
  simp -implicitDefEqProofs only [e_lit, e_var, e_glb, e_bin, e_bin1, e_bin2, e_neg, e_neg1, e_cmp, e_cmp1, e_cmp2, e_chn, e_chn1, e_chn2, e_chn3, e_chn4, e_isn, e_isn1, e_isn2, e_and, e_and1, e_and2, e_or, e_or1, e_or2, e_not, e_not1, e_ite, e_ite1, e_ite2, e_tup, e_tup1, e_lst, e_lst1, e_idx, e_idx1, e_idx2, e_slc, e_slc1, e_slc2, e_slc3, e_call, e_call1, e_prim, e_prim1, e_isi, e_isi1, e_isi2, e_meth, e_meth1, e_meth2, e_comp, e_comp1, e_tl, es_nil, es_cons, es_cons1, es_cons2, es_cons3, ep_nil, ep_cons, ep_cons1, eo_no, eo_so, eo_so1, ec_no, ec_so, ei_val, ei_val1, ei_rg, ei_rg1, ei_rg2, ei_rg3, ei_rg4, ei_enm, ei_enm1, ei_zip, ei_zip1, ei_zip2, ei_zip3, ei_rev, ei_rev1, c_nil, x_asg, x_asg1, x_asg2, x_asg3, x_par, x_par1, x_par3, x_par31, x_sub, x_sub1, x_sub2, x_sub3, x_sub4, x_sub5, x_aug, x_aug0, x_aug1, x_aug2, x_augS, x_augS1, x_augS2, x_augS3, x_augS4, x_augS5, x_ret, x_ret1, x_ret2, x_retN, x_ex, x_ex1, x_ex2, x_pass, x_brk, x_cnt, x_if, x_if1, x_if2, x_whl, x_fr, x_fr1, x_rs, x_tr, x_tr1, x_tr2, x_tr3, x_h, x_noX1, x_noX2, x_noX3, xs_nx, xs_rt, xs_bk, xs_ct, xs_ex, f_nil, t_nx, t_rt, t_exc, own_tl, own_int, own_bl, own_non, own_str, own_tup, own_ref, own_fl, xs_nil, xs_cons, start, bindT, bindTs, R.of_some, R.of_none, List.length_cons, List.length_nil, List.map_cons, List.map_nil, List.getElem?_cons_zero, List.getElem?_cons_succ, List.set_cons_zero, List.set_cons_succ, Nat.reduceAdd, Nat.reduceSub, List.cons_append, List.nil_append, List.append_nil, List.replicate, Nat.zero_add, reduceIte, Option.map_some, Option.map_none, fin_same, Bool.not_true, Bool.not_false, Bool.false_eq_true, tyD, primD, binD, sz0, sz1, sz2, sz3, sz4, sz5, sz6, sz7, sz8, nc0, nc1, nc2, nc3, nc4, nc5, nc6, nc7, nc8, Nat.reduceEqDiff, Option.bind_some, Int.reduceLE, Int.reduceLT, Int.reduceEq, Int.reduceToNat, Int.reduceAdd, Int.reduceSub, Int.reduceMul, Int.reduceNeg, Nat.reduceMul, ne_eq, not_false_eq_true, not_true_eq_false, decide_true, decide_false, Bool.and_true, Bool.true_and, Bool.or_false, Bool.false_or, Bool.or_true, Bool.true_or, Bool.and_false, Bool.false_and, beq_self_eq_true, F105, own_enc, own_encP, pipe_at_ok (η := η) g.toHPth hk gp hs hl ha, sq, wq]
  have e' : fE (callN Γ (K + 7)) (.cons (.aug 2 .add (.idx (.var 0) (.lit (.int 0)))) (.cons (.asg (.nm 0) (.idx (.call 82 (.cons (.var 0) .nil)) (.var 3))) .nil)) (.nm 3) [] (path.map fun (i : Nat) => D.int (i : Int)) [some (enc p), some (encP path), some (.int 0), none] η = _ := e
  simp -implicitDefEqProofs only [e_lit, e_var, e_glb, e_bin, e_bin1, e_bin2, e_neg, e_neg1, e_cmp, e_cmp1, e_cmp2, e_chn, e_chn1, e_chn2, e_chn3, e_chn4, e_isn, e_isn1, e_isn2, e_and, e_and1, e_and2, e_or, e_or1, e_or2, e_not, e_not1, e_ite, e_ite1, e_ite2, e_tup, e_tup1, e_lst, e_lst1, e_idx, e_idx1, e_idx2, e_slc, e_slc1, e_slc2, e_slc3, e_call, e_call1, e_prim, e_prim1, e_isi, e_isi1, e_isi2, e_meth, e_meth1, e_meth2, e_comp, e_comp1, e_tl, es_nil, es_cons, es_cons1, es_cons2, es_cons3, ep_nil, ep_cons, ep_cons1, eo_no, eo_so, eo_so1, ec_no, ec_so, ei_val, ei_val1, ei_rg, ei_rg1, ei_rg2, ei_rg3, ei_rg4, ei_enm, ei_enm1, ei_zip, ei_zip1, ei_zip2, ei_zip3, ei_rev, ei_rev1, c_nil, x_asg, x_asg1, x_asg2, x_asg3, x_par, x_par1, x_par3, x_par31, x_sub, x_sub1, x_sub2, x_sub3, x_sub4, x_sub5, x_aug, x_aug0, x_aug1, x_aug2, x_augS, x_augS1, x_augS2, x_augS3, x_augS4, x_augS5, x_ret, x_ret1, x_ret2, x_retN, x_ex, x_ex1, x_ex2, x_pass, x_brk, x_cnt, x_if, x_if1, x_if2, x_whl, x_fr, x_fr1, x_rs, x_tr, x_tr1, x_tr2, x_tr3, x_h, x_noX1, x_noX2, x_noX3, xs_nx, xs_rt, xs_bk, xs_ct, xs_ex, f_nil, t_nx, t_rt, t_exc, own_tl, own_int, own_bl, own_non, own_str, own_tup, own_ref, own_fl, xs_nil, xs_cons, start, bindT, bindTs, R.of_some, R.of_none, List.length_cons, List.length_nil, List.map_cons, List.map_nil, List.getElem?_cons_zero, List.getElem?_cons_succ, List.set_cons_zero, List.set_cons_succ, Nat.reduceAdd, Nat.reduceSub, List.cons_append, List.nil_append, List.append_nil, List.replicate, Nat.zero_add, reduceIte, Option.map_some, Option.map_none, fin_same, Bool.not_true, Bool.not_false, Bool.false_eq_true, tyD, primD, binD, sz0, sz1, sz2, sz3, sz4, sz5, sz6, sz7, sz8, nc0, nc1, nc2, nc3, nc4, nc5, nc6, nc7, nc8, Nat.reduceEqDiff, Option.bind_some, Int.reduceLE, Int.reduceLT, Int.reduceEq, Int.reduceToNat, Int.reduceAdd, Int.reduceSub, Int.reduceMul, Int.reduceNeg, Nat.reduceMul, ne_eq, not_false_eq_true, not_true_eq_false, decide_true, decide_false, Bool.and_true, Bool.true_and, Bool.or_false, Bool.false_or, Bool.or_true, Bool.true_or, Bool.and_false, Bool.false_and, beq_self_eq_true, e']
/-- the law's own way -/
theorem beg_sum : ∀ (path : List Nat) (p q : Pp), at' p path = some q → ∃ f : Nat → Nat, (∀ k, k < path.length → ∃ q', at' p (path.take k) = some q' ∧ q'.len = f k) ∧ ((List.range path.length).map fun k => (f k : Int)).sum = (beg p path : Int)
  | [], p, q, h => ⟨fun _ => 0, fun k hk => by simp at hk, by simp [beg]⟩
  | i :: r, p, q, h => by
    simp only [at'] at h
    cases hk : p.kids[i]? with
    | none => rw [hk] at h; cases h
    | some p' =>
      rw [hk] at h
      obtain ⟨f, h1, h2⟩ := beg_sum r p' q h
      refine ⟨fun k => match k with
        | 0 => p.len
        | k + 1 => f k, fun k hk' => ?_, ?_⟩
      · cases k with
        | zero => exact ⟨p, rfl, rfl⟩
        | succ k =>
          obtain ⟨q', e1, e2⟩ := h1 k (by simpa using hk')
          exact ⟨q', by simp only [List.take_succ_cons, at', hk, e1], e2⟩
      · rw [List.length_cons, List.range_succ_eq_map, List.map_cons, List.map_map, List.sum_cons]
        have : ((fun k => ((match k with | 0 => p.len | k + 1 => f k : Nat) : Int)) ∘ Nat.succ) = fun k => (f k : Int) := rfl
        simp only [beg, hk]
        rw [show ((List.range r.length).map ((fun k => ((match k with | 0 => p.len | k + 1 => f k : Nat) : Int)) ∘ Nat.succ)).sum = (beg p' r : Int) from h2]
        simp
/-! ## refusals -/
theorem nowhere_ok (g : HPla Γ) {K : Nat} {η : Hep} {p : Pp} {d : D} (od : own d η = .ok d η) (hb : callN Γ (K + 7) 102 [enc p, d] η = .exc 783 [] η) (hb2 : callN Γ (K + 8) 102 [enc p, d] η = .exc 783 [] η) : callN Γ (K + 9) 109 [enc p, d] η = .ok (.bl true) η := by
  have c105 : callN Γ (K + 8) 105 [enc p, d] η = .exc 783 [] η := by
    rw [call_eq g.h105 rfl]
    simp -implicitDefEqProofs only [e_lit, e_var, e_glb, e_bin, e_bin1, e_bin2, e_neg, e_neg1, e_cmp, e_cmp1, e_cmp2, e_chn, e_chn1, e_chn2, e_chn3, e_chn4, e_isn, e_isn1, e_isn2, e_and, e_and1, e_and2, e_or, e_or1, e_or2, e_not, e_not1, e_ite, e_ite1, e_ite2, e_tup, e_tup1, e_lst, e_lst1, e_idx, e_idx1, e_idx2, e_slc, e_slc1, e_slc2, e_slc3, e_call, e_call1, e_prim, e_prim1, e_isi, e_isi1, e_isi2, e_meth, e_meth1, e_meth2, e_comp, e_comp1, e_tl, es_nil, es_cons, es_cons1, es_cons2, es_cons3, ep_nil, ep_cons, ep_cons1, eo_no, eo_so, eo_so1, ec_no, ec_so, ei_val, ei_val1, ei_rg, ei_rg1, ei_rg2, ei_rg3, ei_rg4, ei_enm, ei_enm1, ei_zip, ei_zip1, ei_zip2, ei_zip3, ei_rev, ei_rev1, c_nil, x_asg, x_asg1, x_asg2, x_asg3, x_par, x_par1, x_par3, x_par31, x_sub, x_sub1, x_sub2, x_sub3, x_sub4, x_sub5, x_aug, x_aug0, x_aug1, x_aug2, x_augS, x_augS1, x_augS2, x_augS3, x_augS4, x_augS5, x_ret, x_ret1, x_ret2, x_retN, x_ex, x_ex1, x_ex2, x_pass, x_brk, x_cnt, x_if, x_if1, x_if2, x_whl, x_fr, x_fr1, x_rs, x_tr, x_tr1, x_tr2, x_tr3, x_h, x_noX1, x_noX2, x_noX3, xs_nx, xs_rt, xs_bk, xs_ct, xs_ex, f_nil, t_nx, t_rt, t_exc, own_tl, own_int, own_bl, own_non, own_str, own_tup, own_ref, own_fl, xs_nil, xs_cons, start, bindT, bindTs, R.of_some, R.of_none, List.length_cons, List.length_nil, List.map_cons, List.map_nil, List.getElem?_cons_zero, List.getElem?_cons_succ, List.set_cons_zero, List.set_cons_succ, Nat.reduceAdd, Nat.reduceSub, List.cons_append, List.nil_append, List.append_nil, List.replicate, Nat.zero_add, reduceIte, Option.map_some, Option.map_none, fin_same, Bool.not_true, Bool.not_false, Bool.false_eq_true, tyD, primD, binD, sz0, sz1, sz2, sz3, sz4, sz5, sz6, sz7, sz8, nc0, nc1, nc2, nc3, nc4, nc5, nc6, nc7, nc8, Nat.reduceEqDiff, Option.bind_some, Int.reduceLE, Int.reduceLT, Int.reduceEq, Int.reduceToNat, Int.reduceAdd, Int.reduceSub, Int.reduceMul, Int.reduceNeg, Nat.reduceMul, ne_eq, not_false_eq_true, not_true_eq_false, decide_true, decide_false, Bool.and_true, Bool.true_and, Bool.or_false, Bool.false_or, Bool.or_true, Bool.true_or, Bool.and_false, Bool.false_and, beq_self_eq_true, F105, own_enc, od, hb, fin_excp]
  have c106 : ∀ n, own n η = .ok n η → callN Γ (K + 8) 106 [enc p, d, n] η = .exc 783 [] η := fun n hn => by
    rw [call_eq g.h106 rfl]
    simp -implicitDefEqProofs only [e_lit, e_var, e_glb, e_bin, e_bin1, e_bin2, e_neg, e_neg1, e_cmp, e_cmp1, e_cmp2, e_chn, e_chn1, e_chn2, e_chn3, e_chn4, e_isn, e_isn1, e_isn2, e_and, e_and1, e_and2, e_or, e_or1, e_or2, e_not, e_not1, e_ite, e_ite1, e_ite2, e_tup, e_tup1, e_lst, e_lst1, e_idx, e_idx1, e_idx2, e_slc, e_slc1, e_slc2, e_slc3, e_call, e_call1, e_prim, e_prim1, e_isi, e_isi1, e_isi2, e_meth, e_meth1, e_meth2, e_comp, e_comp1, e_tl, es_nil, es_cons, es_cons1, es_cons2, es_cons3, ep_nil, ep_cons, ep_cons1, eo_no, eo_so, eo_so1, ec_no, ec_so, ei_val, ei_val1, ei_rg, ei_rg1, ei_rg2, ei_rg3, ei_rg4, ei_enm, ei_enm1, ei_zip, ei_zip1, ei_zip2, ei_zip3, ei_rev, ei_rev1, c_nil, x_asg, x_asg1, x_asg2, x_asg3, x_par, x_par1, x_par3, x_par31, x_sub, x_sub1, x_sub2, x_sub3, x_sub4, x_sub5, x_aug, x_aug0, x_aug1, x_aug2, x_augS, x_augS1, x_augS2, x_augS3, x_augS4, x_augS5, x_ret, x_ret1, x_ret2, x_retN, x_ex, x_ex1, x_ex2, x_pass, x_brk, x_cnt, x_if, x_if1, x_if2, x_whl, x_fr, x_fr1, x_rs, x_tr, x_tr1, x_tr2, x_tr3, x_h, x_noX1, x_noX2, x_noX3, xs_nx, xs_rt, xs_bk, xs_ct, xs_ex, f_nil, t_nx, t_rt, t_exc, own_tl, own_int, own_bl, own_non, own_str, own_tup, own_ref, own_fl, xs_nil, xs_cons, start, bindT, bindTs, R.of_some, R.of_none, List.length_cons, List.length_nil, List.map_cons, List.map_nil, List.getElem?_cons_zero, List.getElem?_cons_succ, List.set_cons_zero, List.set_cons_succ, Nat.reduceAdd, Nat.reduceSub, List.cons_append, List.nil_append, List.append_nil, List.replicate, Nat.zero_add, reduceIte, Option.map_some, Option.map_none, fin_same, Bool.not_true, Bool.not_false, Bool.false_eq_true, tyD, primD, binD, sz0, sz1, sz2, sz3, sz4, sz5, sz6, sz7, sz8, nc0, nc1, nc2, nc3, nc4, nc5, nc6, nc7, nc8, Nat.reduceEqDiff, Option.bind_some, Int.reduceLE, Int.reduceLT, Int.reduceEq, Int.reduceToNat, Int.reduceAdd, Int.reduceSub, Int.reduceMul, Int.reduceNeg, Nat.reduceMul, ne_eq, not_false_eq_true, not_true_eq_false, decide_true, decide_false, Bool.and_true, Bool.true_and, Bool.or_false, Bool.false_or, Bool.or_true, Bool.true_or, Bool.and_false, Bool.false_and, beq_self_eq_true, F106, own_enc, od, hb, fin_excp]
  have c108 : ∀ n, own n η = .ok n η → callN Γ (K + 8) 108 [enc p, d, n] η = .exc 783 [] η := fun n hn => by
    rw [call_eq g.h108 rfl]
    simp -implicitDefEqProofs only [e_lit, e_var, e_glb, e_bin, e_bin1, e_bin2, e_neg, e_neg1, e_cmp, e_cmp1, e_cmp2, e_chn, e_chn1, e_chn2, e_chn3, e_chn4, e_isn, e_isn1, e_isn2, e_and, e_and1, e_and2, e_or, e_or1, e_or2, e_not, e_not1, e_ite, e_ite1, e_ite2, e_tup, e_tup1, e_lst, e_lst1, e_idx, e_idx1, e_idx2, e_slc, e_slc1, e_slc2, e_slc3, e_call, e_call1, e_prim, e_prim1, e_isi, e_isi1, e_isi2, e_meth, e_meth1, e_meth2, e_comp, e_comp1, e_tl, es_nil, es_cons, es_cons1, es_cons2, es_cons3, ep_nil, ep_cons, ep_cons1, eo_no, eo_so, eo_so1, ec_no, ec_so, ei_val, ei_val1, ei_rg, ei_rg1, ei_rg2, ei_rg3, ei_rg4, ei_enm, ei_enm1, ei_zip, ei_zip1, ei_zip2, ei_zip3, ei_rev, ei_rev1, c_nil, x_asg, x_asg1, x_asg2, x_asg3, x_par, x_par1, x_par3, x_par31, x_sub, x_sub1, x_sub2, x_sub3, x_sub4, x_sub5, x_aug, x_aug0, x_aug1, x_aug2, x_augS, x_augS1, x_augS2, x_augS3, x_augS4, x_augS5, x_ret, x_ret1, x_ret2, x_retN, x_ex, x_ex1, x_ex2, x_pass, x_brk, x_cnt, x_if, x_if1, x_if2, x_whl, x_fr, x_fr1, x_rs, x_tr, x_tr1, x_tr2, x_tr3, x_h, x_noX1, x_noX2, x_noX3, xs_nx, xs_rt, xs_bk, xs_ct, xs_ex, f_nil, t_nx, t_rt, t_exc, own_tl, own_int, own_bl, own_non, own_str, own_tup, own_ref, own_fl, xs_nil, xs_cons, start, bindT, bindTs, R.of_some, R.of_none, List.length_cons, List.length_nil, List.map_cons, List.map_nil, List.getElem?_cons_zero, List.getElem?_cons_succ, List.set_cons_zero, List.set_cons_succ, Nat.reduceAdd, Nat.reduceSub, List.cons_append, List.nil_append, List.append_nil, List.replicate, Nat.zero_add, reduceIte, Option.map_some, Option.map_none, fin_same, Bool.not_true, Bool.not_false, Bool.false_eq_true, tyD, primD, binD, sz0, sz1, sz2, sz3, sz4, sz5, sz6, sz7, sz8, nc0, nc1, nc2, nc3, nc4, nc5, nc6, nc7, nc8, Nat.reduceEqDiff, Option.bind_some, Int.reduceLE, Int.reduceLT, Int.reduceEq, Int.reduceToNat, Int.reduceAdd, Int.reduceSub, Int.reduceMul, Int.reduceNeg, Nat.reduceMul, ne_eq, not_false_eq_true, not_true_eq_false, decide_true, decide_false, Bool.and_true, Bool.true_and, Bool.or_false, Bool.false_or, Bool.or_true, Bool.true_or, Bool.and_false, Bool.false_and, beq_self_eq_true, F108, own_enc, od, hb, fin_excp, sAsg, R.go]
  have rg : rng 0 4 = [.int 0, .int 1, .int 2, .int 3] := rfl
  have b4 : big 4 = true := rfl
  rw [call_eq g.h109 rfl]
  simp -implicitDefEqProofs only [e_lit, e_var, e_glb, e_bin, e_bin1, e_bin2, e_neg, e_neg1, e_cmp, e_cmp1, e_cmp2, e_chn, e_chn1, e_chn2, e_chn3, e_chn4, e_isn, e_isn1, e_isn2, e_and, e_and1, e_and2, e_or, e_or1, e_or2, e_not, e_not1, e_ite, e_ite1, e_ite2, e_tup, e_tup1, e_lst, e_lst1, e_idx, e_idx1, e_idx2, e_slc, e_slc1, e_slc2, e_slc3, e_call, e_call1, e_prim, e_prim1, e_isi, e_isi1, e_isi2, e_meth, e_meth1, e_meth2, e_comp, e_comp1, e_tl, es_nil, es_cons, es_cons1, es_cons2, es_cons3, ep_nil, ep_cons, ep_cons1, eo_no, eo_so, eo_so1, ec_no, ec_so, ei_val, ei_val1, ei_rg, ei_rg1, ei_rg2, ei_rg3, ei_rg4, ei_enm, ei_enm1, ei_zip, ei_zip1, ei_zip2, ei_zip3, ei_rev, ei_rev1, c_nil, x_asg, x_asg1, x_asg2, x_asg3, x_par, x_par1, x_par3, x_par31, x_sub, x_sub1, x_sub2, x_sub3, x_sub4, x_sub5, x_aug, x_aug0, x_aug1, x_aug2, x_augS, x_augS1, x_augS2, x_augS3, x_augS4, x_augS5, x_ret, x_ret1, x_ret2, x_retN, x_ex, x_ex1, x_ex2, x_pass, x_brk, x_cnt, x_if, x_if1, x_if2, x_whl, x_fr, x_fr1, x_rs, x_tr, x_tr1, x_tr2, x_tr3, x_h, x_noX1, x_noX2, x_noX3, xs_nx, xs_rt, xs_bk, xs_ct, xs_ex, f_nil, t_nx, t_rt, t_exc, own_tl, own_int, own_bl, own_non, own_str, own_tup, own_ref, own_fl, xs_nil, xs_cons, start, bindT, bindTs, R.of_some, R.of_none, List.length_cons, List.length_nil, List.map_cons, List.map_nil, List.getElem?_cons_zero, List.getElem?_cons_succ, List.set_cons_zero, List.set_cons_succ, Nat.reduceAdd, Nat.reduceSub, List.cons_append, List.nil_append, List.append_nil, List.replicate, Nat.zero_add, reduceIte, Option.map_some, Option.map_none, fin_same, Bool.not_true, Bool.not_false, Bool.false_eq_true, tyD, primD, binD, sz0, sz1, sz2, sz3, sz4, sz5, sz6, sz7, sz8, nc0, nc1, nc2, nc3, nc4, nc5, nc6, nc7, nc8, Nat.reduceEqDiff, Option.bind_some, Int.reduceLE, Int.reduceLT, Int.reduceEq, Int.reduceToNat, Int.reduceAdd, Int.reduceSub, Int.reduceMul, Int.reduceNeg, Nat.reduceMul, ne_eq, not_false_eq_true, not_true_eq_false, decide_true, decide_false, Bool.and_true, Bool.true_and, Bool.or_false, Bool.false_or, Bool.or_true, Bool.true_or, Bool.and_false, Bool.false_and, beq_self_eq_true, F109, rg, b4]
  rw [f_ct (ρ1 := [some (enc p), some d, some (.int 0)]) (ρ2 := [some (enc p), some d, some (.int 0)]) (η1 := η) rfl (by simp -implicitDefEqProofs only [e_lit, e_var, e_glb, e_bin, e_bin1, e_bin2, e_neg, e_neg1, e_cmp, e_cmp1, e_cmp2, e_chn, e_chn1, e_chn2, e_chn3, e_chn4, e_isn, e_isn1, e_isn2, e_and, e_and1, e_and2, e_or, e_or1, e_or2, e_not, e_not1, e_ite, e_ite1, e_ite2, e_tup, e_tup1, e_lst, e_lst1, e_idx, e_idx1, e_idx2, e_slc, e_slc1, e_slc2, e_slc3, e_call, e_call1, e_prim, e_prim1, e_isi, e_isi1, e_isi2, e_meth, e_meth1, e_meth2, e_comp, e_comp1, e_tl, es_nil, es_cons, es_cons1, es_cons2, es_cons3, ep_nil, ep_cons, ep_cons1, eo_no, eo_so, eo_so1, ec_no, ec_so, ei_val, ei_val1, ei_rg, ei_rg1, ei_rg2, ei_rg3, ei_rg4, ei_enm, ei_enm1, ei_zip, ei_zip1, ei_zip2, ei_zip3, ei_rev, ei_rev1, c_nil, x_asg, x_asg1, x_asg2, x_asg3, x_par, x_par1, x_par3, x_par31, x_sub, x_sub1, x_sub2, x_sub3, x_sub4, x_sub5, x_aug, x_aug0, x_aug1, x_aug2, x_augS, x_augS1, x_augS2, x_augS3, x_augS4, x_augS5, x_ret, x_ret1, x_ret2, x_retN, x_ex, x_ex1, x_ex2, x_pass, x_brk, x_cnt, x_if, x_if1, x_if2, x_whl, x_fr, x_fr1, x_rs, x_tr, x_tr1, x_tr2, x_tr3, x_h, x_noX1, x_noX2, x_noX3, xs_nx, xs_rt, xs_bk, xs_ct, xs_ex, f_nil, t_nx, t_rt, t_exc, own_tl, own_int, own_bl, own_non, own_str, own_tup, own_ref, own_fl, xs_nil, xs_cons, start, bindT, bindTs, R.of_some, R.of_none, List.length_cons, List.length_nil, List.map_cons, List.map_nil, List.getElem?_cons_zero, List.getElem?_cons_succ, List.set_cons_zero, List.set_cons_succ, Nat.reduceAdd, Nat.reduceSub, List.cons_append, List.nil_append, List.append_nil, List.replicate, Nat.zero_add, reduceIte, Option.map_some, Option.map_none, fin_same, Bool.not_true, Bool.not_false, Bool.false_eq_true, tyD, primD, binD, sz0, sz1, sz2, sz3, sz4, sz5, sz6, sz7, sz8, nc0, nc1, nc2, nc3, nc4, nc5, nc6, nc7, nc8, Nat.reduceEqDiff, Option.bind_some, Int.reduceLE, Int.reduceLT, Int.reduceEq, Int.reduceToNat, Int.reduceAdd, Int.reduceSub, Int.reduceMul, Int.reduceNeg, Nat.reduceMul, ne_eq, not_false_eq_true, not_true_eq_false, decide_true, decide_false, Bool.and_true, Bool.true_and, Bool.or_false, Bool.false_or, Bool.or_true, Bool.true_or, Bool.and_false, Bool.false_and, beq_self_eq_true, cmpD, eqD_int, own_enc, od, hb2, fin_excp, x_h]) rfl]
  rw [f_ct (ρ1 := [some (enc p), some d, some (.int 1)]) (ρ2 := [some (enc p), some d, some (.int 1)]) (η1 := η) rfl (by simp -implicitDefEqProofs only [e_lit, e_var, e_glb, e_bin, e_bin1, e_bin2, e_neg, e_neg1, e_cmp, e_cmp1, e_cmp2, e_chn, e_chn1, e_chn2, e_chn3, e_chn4, e_isn, e_isn1, e_isn2, e_and, e_and1, e_and2, e_or, e_or1, e_or2, e_not, e_not1, e_ite, e_ite1, e_ite2, e_tup, e_tup1, e_lst, e_lst1, e_idx, e_idx1, e_idx2, e_slc, e_slc1, e_slc2, e_slc3, e_call, e_call1, e_prim, e_prim1, e_isi, e_isi1, e_isi2, e_meth, e_meth1, e_meth2, e_comp, e_comp1, e_tl, es_nil, es_cons, es_cons1, es_cons2, es_cons3, ep_nil, ep_cons, ep_cons1, eo_no, eo_so, eo_so1, ec_no, ec_so, ei_val, ei_val1, ei_rg, ei_rg1, ei_rg2, ei_rg3, ei_rg4, ei_enm, ei_enm1, ei_zip, ei_zip1, ei_zip2, ei_zip3, ei_rev, ei_rev1, c_nil, x_asg, x_asg1, x_asg2, x_asg3, x_par, x_par1, x_par3, x_par31, x_sub, x_sub1, x_sub2, x_sub3, x_sub4, x_sub5, x_aug, x_aug0, x_aug1, x_aug2, x_augS, x_augS1, x_augS2, x_augS3, x_augS4, x_augS5, x_ret, x_ret1, x_ret2, x_retN, x_ex, x_ex1, x_ex2, x_pass, x_brk, x_cnt, x_if, x_if1, x_if2, x_whl, x_fr, x_fr1, x_rs, x_tr, x_tr1, x_tr2, x_tr3, x_h, x_noX1, x_noX2, x_noX3, xs_nx, xs_rt, xs_bk, xs_ct, xs_ex, f_nil, t_nx, t_rt, t_exc, own_tl, own_int, own_bl, own_non, own_str, own_tup, own_ref, own_fl, xs_nil, xs_cons, start, bindT, bindTs, R.of_some, R.of_none, List.length_cons, List.length_nil, List.map_cons, List.map_nil, List.getElem?_cons_zero, List.getElem?_cons_succ, List.set_cons_zero, List.set_cons_succ, Nat.reduceAdd, Nat.reduceSub, List.cons_append, List.nil_append, List.append_nil, List.replicate, Nat.zero_add, reduceIte, Option.map_some, Option.map_none, fin_same, Bool.not_true, Bool.not_false, Bool.false_eq_true, tyD, primD, binD, sz0, sz1, sz2, sz3, sz4, sz5, sz6, sz7, sz8, nc0, nc1, nc2, nc3, nc4, nc5, nc6, nc7, nc8, Nat.reduceEqDiff, Option.bind_some, Int.reduceLE, Int.reduceLT, Int.reduceEq, Int.reduceToNat, Int.reduceAdd, Int.reduceSub, Int.reduceMul, Int.reduceNeg, Nat.reduceMul, ne_eq, not_false_eq_true, not_true_eq_false, decide_true, decide_false, Bool.and_true, Bool.true_and, Bool.or_false, Bool.false_or, Bool.or_true, Bool.true_or, Bool.and_false, Bool.false_and, beq_self_eq_true, cmpD, eqD_int, own_enc, od, c105, fin_excp, x_h]) rfl]
  rw [f_ct (ρ1 := [some (enc p), some d, some (.int 2)]) (ρ2 := [some (enc p), some d, some (.int 2)]) (η1 := η) rfl (by simp -implicitDefEqProofs only [e_lit, e_var, e_glb, e_bin, e_bin1, e_bin2, e_neg, e_neg1, e_cmp, e_cmp1, e_cmp2, e_chn, e_chn1, e_chn2, e_chn3, e_chn4, e_isn, e_isn1, e_isn2, e_and, e_and1, e_and2, e_or, e_or1, e_or2, e_not, e_not1, e_ite, e_ite1, e_ite2, e_tup, e_tup1, e_lst, e_lst1, e_idx, e_idx1, e_idx2, e_slc, e_slc1, e_slc2, e_slc3, e_call, e_call1, e_prim, e_prim1, e_isi, e_isi1, e_isi2, e_meth, e_meth1, e_meth2, e_comp, e_comp1, e_tl, es_nil, es_cons, es_cons1, es_cons2, es_cons3, ep_nil, ep_cons, ep_cons1, eo_no, eo_so, eo_so1, ec_no, ec_so, ei_val, ei_val1, ei_rg, ei_rg1, ei_rg2, ei_rg3, ei_rg4, ei_enm, ei_enm1, ei_zip, ei_zip1, ei_zip2, ei_zip3, ei_rev, ei_rev1, c_nil, x_asg, x_asg1, x_asg2, x_asg3, x_par, x_par1, x_par3, x_par31, x_sub, x_sub1, x_sub2, x_sub3, x_sub4, x_sub5, x_aug, x_aug0, x_aug1, x_aug2, x_augS, x_augS1, x_augS2, x_augS3, x_augS4, x_augS5, x_ret, x_ret1, x_ret2, x_retN, x_ex, x_ex1, x_ex2, x_pass, x_brk, x_cnt, x_if, x_if1, x_if2, x_whl, x_fr, x_fr1, x_rs, x_tr, x_tr1, x_tr2, x_tr3, x_h, x_noX1, x_noX2, x_noX3, xs_nx, xs_rt, xs_bk, xs_ct, xs_ex, f_nil, t_nx, t_rt, t_exc, own_tl, own_int, own_bl, own_non, own_str, own_tup, own_ref, own_fl, xs_nil, xs_cons, start, bindT, bindTs, R.of_some, R.of_none, List.length_cons, List.length_nil, List.map_cons, List.map_nil, List.getElem?_cons_zero, List.getElem?_cons_succ, List.set_cons_zero, List.set_cons_succ, Nat.reduceAdd, Nat.reduceSub, List.cons_append, List.nil_append, List.append_nil, List.replicate, Nat.zero_add, reduceIte, Option.map_some, Option.map_none, fin_same, Bool.not_true, Bool.not_false, Bool.false_eq_true, tyD, primD, binD, sz0, sz1, sz2, sz3, sz4, sz5, sz6, sz7, sz8, nc0, nc1, nc2, nc3, nc4, nc5, nc6, nc7, nc8, Nat.reduceEqDiff, Option.bind_some, Int.reduceLE, Int.reduceLT, Int.reduceEq, Int.reduceToNat, Int.reduceAdd, Int.reduceSub, Int.reduceMul, Int.reduceNeg, Nat.reduceMul, ne_eq, not_false_eq_true, not_true_eq_false, decide_true, decide_false, Bool.and_true, Bool.true_and, Bool.or_false, Bool.false_or, Bool.or_true, Bool.true_or, Bool.and_false, Bool.false_and, beq_self_eq_true, cmpD, eqD_int, own_enc, od, c106, fin_excp, x_h]) rfl]
  rw [f_ct (ρ1 := [some (enc p), some d, some (.int 3)]) (ρ2 := [some (enc p), some d, some (.int 3)]) (η1 := η) rfl (by simp -implicitDefEqProofs only [e_lit, e_var, e_glb, e_bin, e_bin1, e_bin2, e_neg, e_neg1, e_cmp, e_cmp1, e_cmp2, e_chn, e_chn1, e_chn2, e_chn3, e_chn4, e_isn, e_isn1, e_isn2, e_and, e_and1, e_and2, e_or, e_or1, e_or2, e_not, e_not1, e_ite, e_ite1, e_ite2, e_tup, e_tup1, e_lst, e_lst1, e_idx, e_idx1, e_idx2, e_slc, e_slc1, e_slc2, e_slc3, e_call, e_call1, e_prim, e_prim1, e_isi, e_isi1, e_isi2, e_meth, e_meth1, e_meth2, e_comp, e_comp1, e_tl, es_nil, es_cons, es_cons1, es_cons2, es_cons3, ep_nil, ep_cons, ep_cons1, eo_no, eo_so, eo_so1, ec_no, ec_so, ei_val, ei_val1, ei_rg, ei_rg1, ei_rg2, ei_rg3, ei_rg4, ei_enm, ei_enm1, ei_zip, ei_zip1, ei_zip2, ei_zip3, ei_rev, ei_rev1, c_nil, x_asg, x_asg1, x_asg2, x_asg3, x_par, x_par1, x_par3, x_par31, x_sub, x_sub1, x_sub2, x_sub3, x_sub4, x_sub5, x_aug, x_aug0, x_aug1, x_aug2, x_augS, x_augS1, x_augS2, x_augS3, x_augS4, x_augS5, x_ret, x_ret1, x_ret2, x_retN, x_ex, x_ex1, x_ex2, x_pass, x_brk, x_cnt, x_if, x_if1, x_if2, x_whl, x_fr, x_fr1, x_rs, x_tr, x_tr1, x_tr2, x_tr3, x_h, x_noX1, x_noX2, x_noX3, xs_nx, xs_rt, xs_bk, xs_ct, xs_ex, f_nil, t_nx, t_rt, t_exc, own_tl, own_int, own_bl, own_non, own_str, own_tup, own_ref, own_fl, xs_nil, xs_cons, start, bindT, bindTs, R.of_some, R.of_none, List.length_cons, List.length_nil, List.map_cons, List.map_nil, List.getElem?_cons_zero, List.getElem?_cons_succ, List.set_cons_zero, List.set_cons_succ, Nat.reduceAdd, Nat.reduceSub, List.cons_append, List.nil_append, List.append_nil, List.replicate, Nat.zero_add, reduceIte, Option.map_some, Option.map_none, fin_same, Bool.not_true, Bool.not_false, Bool.false_eq_true, tyD, primD, binD, sz0, sz1, sz2, sz3, sz4, sz5, sz6, sz7, sz8, nc0, nc1, nc2, nc3, nc4, nc5, nc6, nc7, nc8, Nat.reduceEqDiff, Option.bind_some, Int.reduceLE, Int.reduceLT, Int.reduceEq, Int.reduceToNat, Int.reduceAdd, Int.reduceSub, Int.reduceMul, Int.reduceNeg, Nat.reduceMul, ne_eq, not_false_eq_true, not_true_eq_false, decide_true, decide_false, Bool.and_true, Bool.true_and, Bool.or_false, Bool.false_or, Bool.or_true, Bool.true_or, Bool.and_false, Bool.false_and, beq_self_eq_true, cmpD, eqD_int, own_enc, od, c108, fin_excp, x_h]) rfl]
  simp -implicitDefEqProofs only [e_lit, e_var, e_glb, e_bin, e_bin1, e_bin2, e_neg, e_neg1, e_cmp, e_cmp1, e_cmp2, e_chn, e_chn1, e_chn2, e_chn3, e_chn4, e_isn, e_isn1, e_isn2, e_and, e_and1, e_and2, e_or, e_or1, e_or2, e_not, e_not1, e_ite, e_ite1, e_ite2, e_tup, e_tup1, e_lst, e_lst1, e_idx, e_idx1, e_idx2, e_slc, e_slc1, e_slc2, e_slc3, e_call, e_call1, e_prim, e_prim1, e_isi, e_isi1, e_isi2, e_meth, e_meth1, e_meth2, e_comp, e_comp1, e_tl, es_nil, es_cons, es_cons1, es_cons2, es_cons3, ep_nil, ep_cons, ep_cons1, eo_no, eo_so, eo_so1, ec_no, ec_so, ei_val, ei_val1, ei_rg, ei_rg1, ei_rg2, ei_rg3, ei_rg4, ei_enm, ei_enm1, ei_zip, ei_zip1, ei_zip2, ei_zip3, ei_rev, ei_rev1, c_nil, x_asg, x_asg1, x_asg2, x_asg3, x_par, x_par1, x_par3, x_par31, x_sub, x_sub1, x_sub2, x_sub3, x_sub4, x_sub5, x_aug, x_aug0, x_aug1, x_aug2, x_augS, x_augS1, x_augS2, x_augS3, x_augS4, x_augS5, x_ret, x_ret1, x_ret2, x_retN, x_ex, x_ex1, x_ex2, x_pass, x_brk, x_cnt, x_if, x_if1, x_if2, x_whl, x_fr, x_fr1, x_rs, x_tr, x_tr1, x_tr2, x_tr3, x_h, x_noX1, x_noX2, x_noX3, xs_nx, xs_rt, xs_bk, xs_ct, xs_ex, f_nil, t_nx, t_rt, t_exc, own_tl, own_int, own_bl, own_non, own_str, own_tup, own_ref, own_fl, xs_nil, xs_cons, start, bindT, bindTs, R.of_some, R.of_none, List.length_cons, List.length_nil, List.map_cons, List.map_nil, List.getElem?_cons_zero, List.getElem?_cons_succ, List.set_cons_zero, List.set_cons_succ, Nat.reduceAdd, Nat.reduceSub, List.cons_append, List.nil_append, List.append_nil, List.replicate, Nat.zero_add, reduceIte, Option.map_some, Option.map_none, fin_same, Bool.not_true, Bool.not_false, Bool.false_eq_true, tyD, primD, binD, sz0, sz1, sz2, sz3, sz4, sz5, sz6, sz7, sz8, nc0, nc1, nc2, nc3, nc4, nc5, nc6, nc7, nc8, Nat.reduceEqDiff, Option.bind_some, Int.reduceLE, Int.reduceLT, Int.reduceEq, Int.reduceToNat, Int.reduceAdd, Int.reduceSub, Int.reduceMul, Int.reduceNeg, Nat.reduceMul, ne_eq, not_false_eq_true, not_true_eq_false, decide_true, decide_false, Bool.and_true, Bool.true_and, Bool.or_false, Bool.false_or, Bool.or_true, Bool.true_or, Bool.and_false, Bool.false_and, beq_self_eq_true]
end
end Ev

set_option Elab.async false
set_option linter.all false
set_option maxRecDepth 100000
/-! # k05: far ends, cuts, no pipes -/
namespace Ev
open Law
open Pp
theorem c_filter {C : Nat → List D → Hep → R D} {ρ : Lo} {η : Hep} {α : Type} {elt cd : E} {t : T} {w : List (Nat × List D)} (hw : watchOk η w = true) (f g : α → D) (P : α → Bool) : ∀ (as : List α) (acc : List D), acc.length + as.length ≤ PySem.sizeLine →
    (∀ a ∈ as, ∃ ρ', bindT t (f a) η ρ = some ρ' ∧ ev C cd ρ' η = .ok (.bl (P a)) η ∧ ev C elt ρ' η = .ok (g a) η ∧ own (g a) η = .ok (g a) η) →
    cE C elt (.so cd) t w ρ (as.map f) η acc = .ok (acc ++ (as.filter P).map g) η
  | [], acc, _, _ => by simp; rfl
  | a :: as, acc, hl, h => by
    obtain ⟨ρ', h1, h2, h3, h4⟩ := h a List.mem_cons_self
    rw [List.length_cons] at hl
    have rest := fun x hx => h x (List.mem_cons_of_mem _ hx)
    cases hp : P a with
    | true =>
      rw [hp] at h2
      rw [List.map_cons, c_cons (C := C) (c := .so cd) (acc := acc) h1 (show evc C (.so cd) ρ' η = _ from h2) h3 h4 hw (by omega), c_filter hw f g P as (acc ++ [g a]) (by simp; omega) rest]
      simp [List.filter_cons, hp]
    | false =>
      rw [hp] at h2
      rw [List.map_cons, c_skip (C := C) (c := .so cd) (acc := acc) h1 (show evc C (.so cd) ρ' η = _ from h2) hw, c_filter hw f g P as acc (by omega) rest]
      simp [List.filter_cons, hp]
theorem eqD_kids (ks : List Pp) {η : Hep} : eqD (.tup (encs ks)) (.tup []) η = some ks.isEmpty := by
  simp only [eqD, opn, seqOf, D.plain1, D.plain, encs_plain, D.plains, D.dep, D.deps, D.eq, Bool.and_self, Bool.true_and]
  have hm : min (D.deps (encs ks) + 1) (0 + 1) ≤ 64 := by omega
  rw [decide_eq_true hm, if_pos rfl]
  cases ks with
  | nil => simp [encs, D.eqs]
  | cons a as => simp only [encs, List.isEmpty_cons]; rfl
namespace Pp
theorem mem_pathsK : ∀ {ks : List Pp} {i : Nat} {y : List Nat}, y ∈ pathsK i ks → ∃ j z q, y = (i + j) :: z ∧ ks[j]? = some q ∧ z ∈ paths q
  | [], i, y, h => by simp [pathsK] at h
  | p :: ps, i, y, h => by
    simp only [pathsK, List.mem_append, List.mem_map] at h
    rcases h with ⟨z, hz, rfl⟩ | h
    · exact ⟨0, z, p, by simp, rfl, hz⟩
    · obtain ⟨j, z, q, e, h1, h2⟩ := mem_pathsK h
      exact ⟨j + 1, z, q, by rw [e, show i + 1 + j = i + (j + 1) by omega], by simpa using h1, h2⟩
theorem mem_paths : ∀ (n : Nat) (p : Pp), dep p ≤ n → good p → ∀ x ∈ paths p, ∃ q, at' p x = some q ∧ good q ∧ dep q ≤ dep p ∧ size q ≤ size p
  | 0, p, h, _ => by have := dep_pos p; omega
  | n + 1, p, h, gp => by
    intro x hx
    rw [paths_eq] at hx
    rcases List.mem_cons.mp hx with rfl | hx
    · exact ⟨p, rfl, gp, Nat.le_refl _, Nat.le_refl _⟩
    · obtain ⟨j, z, q, rfl, h1, h2⟩ := mem_pathsK hx
      have mq := List.mem_of_getElem? h1
      have dq := dep_kids mq
      have sq := sizes_mem mq
      have sz := size_eq p
      obtain ⟨q', e1, e2, e3, e4⟩ := mem_paths n q (by omega) (goods_mem (good_kids gp) q mq) z h2
      exact ⟨q', by simp only [Nat.zero_add, at', h1, e1], e2, by omega, by omega⟩
def farP (p : Pp) (x : List Nat) : Bool := match at' p x with
  | some q => q.kids.isEmpty
  | none => false
def setlen (q : Pp) (l : Nat) : Pp := match q with
  | .shut _ w => .shut l w
  | .opn _ w => .opn l w
  | .drain _ w d => .drain l w d
  | .fork _ w ks => .fork l w ks
theorem enc_setlen (q : Pp) (l : Nat) : enc (setlen q l) = .tup [.int l, sh q.wid, q.endD] := by cases q <;> simp [setlen, enc, wid, endD]
theorem good_setlen {q : Pp} {l : Nat} (h : good q) (hl : 1 ≤ l) : good (setlen q l) := by
  cases q <;> simp only [setlen, good] at h ⊢
  · exact ⟨hl, h.2⟩
  · exact ⟨hl, h.2⟩
  · exact ⟨hl, h.2⟩
  · exact ⟨hl, h.2⟩
theorem dep_setlen (q : Pp) (l : Nat) : dep (setlen q l) = dep q := by cases q <;> simp [setlen, dep]
theorem size_setlen (q : Pp) (l : Nat) : size (setlen q l) + q.len = size q + l := by cases q <;> simp [setlen, size, len] <;> omega
/-- a pipe told as two -/
def two (q : Pp) (at_ : Nat) : Pp := .fork at_ q.wid [setlen q (q.len - at_)]
theorem enc_two (q : Pp) (a : Nat) : enc (two q a) = .tup [.int a, sh q.wid, .tup [.str "fork", .tup [.tup [.int ((q.len - a : Nat) : Int), sh q.wid, q.endD]]]] := by simp only [two, enc, encs, enc_setlen]
theorem good_two {q : Pp} {a : Nat} (h : good q) (h1 : 1 ≤ a) (h2 : a < q.len) : good (two q a) := by
  simp only [two, good, goods, List.length_singleton]
  exact ⟨h1, wok_wid h, by simp, by omega, good_setlen h (by omega), trivial⟩
theorem size_two {q : Pp} {a : Nat} (h2 : a < q.len) : size (two q a) = size q := by
  simp only [two, size, sizes]
  have := size_setlen q (q.len - a)
  omega
theorem dep_two (q : Pp) (a : Nat) : dep (two q a) = dep q + 1 := by simp only [two, dep, deps, dep_setlen]; omega
mutual
theorem put_dep : ∀ (path : List Nat) (p n : Pp), dep (put p path n) ≤ dep p + dep n
  | [], p, n => by simp only [put]; omega
  | i :: r, p, n => by
    simp only [put]
    cases h : p.kids[i]? with
    | none => simp only []; omega
    | some q =>
      have ih := put_dep r q n
      have hq : dep q + 1 ≤ dep p := dep_kids (List.mem_of_getElem? h)
      have key : ∀ (ks : List Pp) (i : Nat), deps (ks.set i (put q r n)) ≤ max (deps ks) (dep (put q r n)) := by
        intro ks
        induction ks with
        | nil => intro i; simp [deps]
        | cons a as iha =>
          intro i
          cases i with
          | zero => simp only [List.set_cons_zero, deps]; omega
          | succ i => simp only [List.set_cons_succ, deps]; have := iha i; omega
      have hk := key p.kids i
      have hd : deps p.kids + 1 ≤ dep p := by
        cases p with
        | fork l w ks => simp only [kids, dep]; omega
        | _ => simp only [kids, deps]; exact dep_pos _
      simp only [dep]; omega
end
end Pp
section
variable {Γ : Nat → Option Fd}
theorem far_ok (g : HPla Γ) (h103 : Γ 103 = some F103) {K : Nat} {η : Hep} {p : Pp} (hk : dep p ≤ K) (hK : K ≤ 800) (gp : good p) (hs : size p ≤ 60) : callN Γ (K + 8) 104 [enc p] η = .ok (.tup (((paths p).filter (farP p)).map encP)) η := by
  have pf := paths_few p gp
  have al := allp_ok h103 g.h82 (K + 6) p η (by omega) (by omega) gp (by omega)
  have c := c_filter (C := callN Γ (K + 7)) (η := η) (w := []) (ρ := wipe [some (enc p), none] [1]) (elt := .var 1) (cd := .cmp .eq (.call 82 (.cons (.call 102 (.cons (.var 0) (.cons (.var 1) .nil))) .nil)) (.tup .nil)) (t := .nm 1) rfl encP encP (farP p) (paths p) [] (by
    have : (1000 : Nat) ≤ PySem.sizeLine := by decide
    simp; omega) (fun x hx => by
      obtain ⟨q, e1, e2, _, _⟩ := mem_paths K p hk gp x hx
      have sh := paths_short K p hk x hx
      have pa := pipe_at_ok (η := η) g.toHPth hk gp hs (by omega) e1
      refine ⟨_, rfl, ?_, by simp -implicitDefEqProofs only [e_lit, e_var, e_glb, e_bin, e_bin1, e_bin2, e_neg, e_neg1, e_cmp, e_cmp1, e_cmp2, e_chn, e_chn1, e_chn2, e_chn3, e_chn4, e_isn, e_isn1, e_isn2, e_and, e_and1, e_and2, e_or, e_or1, e_or2, e_not, e_not1, e_ite, e_ite1, e_ite2, e_tup, e_tup1, e_lst, e_lst1, e_idx, e_idx1, e_idx2, e_slc, e_slc1, e_slc2, e_slc3, e_call, e_call1, e_prim, e_prim1, e_isi, e_isi1, e_isi2, e_meth, e_meth1, e_meth2, e_comp, e_comp1, e_tl, es_nil, es_cons, es_cons1, es_cons2, es_cons3, ep_nil, ep_cons, ep_cons1, eo_no, eo_so, eo_so1, ec_no, ec_so, ei_val, ei_val1, ei_rg, ei_rg1, ei_rg2, ei_rg3, ei_rg4, ei_enm, ei_enm1, ei_zip, ei_zip1, ei_zip2, ei_zip3, ei_rev, ei_rev1, c_nil, x_asg, x_asg1, x_asg2, x_asg3, x_par, x_par1, x_par3, x_par31, x_sub, x_sub1, x_sub2, x_sub3, x_sub4, x_sub5, x_aug, x_aug0, x_aug1, x_aug2, x_augS, x_augS1, x_augS2, x_augS3, x_augS4, x_augS5, x_ret, x_ret1, x_ret2, x_retN, x_ex, x_ex1, x_ex2, x_pass, x_brk, x_cnt, x_if, x_if1, x_if2, x_whl, x_fr, x_fr1, x_rs, x_tr, x_tr1, x_tr2, x_tr3, x_h, x_noX1, x_noX2, x_noX3, xs_nx, xs_rt, xs_bk, xs_ct, xs_ex, f_nil, t_nx, t_rt, t_exc, own_tl, own_int, own_bl, own_non, own_str, own_tup, own_ref, own_fl, xs_nil, xs_cons, start, bindT, bindTs, R.of_some, R.of_none, List.length_cons, List.length_nil, List.map_cons, List.map_nil, List.getElem?_cons_zero, List.getElem?_cons_succ, List.set_cons_zero, List.set_cons_succ, Nat.reduceAdd, Nat.reduceSub, List.cons_append, List.nil_append, List.append_nil, List.replicate, Nat.zero_add, reduceIte, Option.map_some, Option.map_none, fin_same, Bool.not_true, Bool.not_false, Bool.false_eq_true, tyD, primD, binD, sz0, sz1, sz2, sz3, sz4, sz5, sz6, sz7, sz8, nc0, nc1, nc2, nc3, nc4, nc5, nc6, nc7, nc8, Nat.reduceEqDiff, Option.bind_some, Int.reduceLE, Int.reduceLT, Int.reduceEq, Int.reduceToNat, Int.reduceAdd, Int.reduceSub, Int.reduceMul, Int.reduceNeg, Nat.reduceMul, ne_eq, not_false_eq_true, not_true_eq_false, decide_true, decide_false, Bool.and_true, Bool.true_and, Bool.or_false, Bool.false_or, Bool.or_true, Bool.true_or, Bool.and_false, Bool.false_and, beq_self_eq_true, wipe], rfl⟩
      have fp : farP p x = q.kids.isEmpty := by simp only [farP, e1]
      rw [fp]
      simp -implicitDefEqProofs only [e_lit, e_var, e_glb, e_bin, e_bin1, e_bin2, e_neg, e_neg1, e_cmp, e_cmp1, e_cmp2, e_chn, e_chn1, e_chn2, e_chn3, e_chn4, e_isn, e_isn1, e_isn2, e_and, e_and1, e_and2, e_or, e_or1, e_or2, e_not, e_not1, e_ite, e_ite1, e_ite2, e_tup, e_tup1, e_lst, e_lst1, e_idx, e_idx1, e_idx2, e_slc, e_slc1, e_slc2, e_slc3, e_call, e_call1, e_prim, e_prim1, e_isi, e_isi1, e_isi2, e_meth, e_meth1, e_meth2, e_comp, e_comp1, e_tl, es_nil, es_cons, es_cons1, es_cons2, es_cons3, ep_nil, ep_cons, ep_cons1, eo_no, eo_so, eo_so1, ec_no, ec_so, ei_val, ei_val1, ei_rg, ei_rg1, ei_rg2, ei_rg3, ei_rg4, ei_enm, ei_enm1, ei_zip, ei_zip1, ei_zip2, ei_zip3, ei_rev, ei_rev1, c_nil, x_asg, x_asg1, x_asg2, x_asg3, x_par, x_par1, x_par3, x_par31, x_sub, x_sub1, x_sub2, x_sub3, x_sub4, x_sub5, x_aug, x_aug0, x_aug1, x_aug2, x_augS, x_augS1, x_augS2, x_augS3, x_augS4, x_augS5, x_ret, x_ret1, x_ret2, x_retN, x_ex, x_ex1, x_ex2, x_pass, x_brk, x_cnt, x_if, x_if1, x_if2, x_whl, x_fr, x_fr1, x_rs, x_tr, x_tr1, x_tr2, x_tr3, x_h, x_noX1, x_noX2, x_noX3, xs_nx, xs_rt, xs_bk, xs_ct, xs_ex, f_nil, t_nx, t_rt, t_exc, own_tl, own_int, own_bl, own_non, own_str, own_tup, own_ref, own_fl, xs_nil, xs_cons, start, bindT, bindTs, R.of_some, R.of_none, List.length_cons, List.length_nil, List.map_cons, List.map_nil, List.getElem?_cons_zero, List.getElem?_cons_succ, List.set_cons_zero, List.set_cons_succ, Nat.reduceAdd, Nat.reduceSub, List.cons_append, List.nil_append, List.append_nil, List.replicate, Nat.zero_add, reduceIte, Option.map_some, Option.map_none, fin_same, Bool.not_true, Bool.not_false, Bool.false_eq_true, tyD, primD, binD, sz0, sz1, sz2, sz3, sz4, sz5, sz6, sz7, sz8, nc0, nc1, nc2, nc3, nc4, nc5, nc6, nc7, nc8, Nat.reduceEqDiff, Option.bind_some, Int.reduceLE, Int.reduceLT, Int.reduceEq, Int.reduceToNat, Int.reduceAdd, Int.reduceSub, Int.reduceMul, Int.reduceNeg, Nat.reduceMul, ne_eq, not_false_eq_true, not_true_eq_false, decide_true, decide_false, Bool.and_true, Bool.true_and, Bool.or_false, Bool.false_or, Bool.or_true, Bool.true_or, Bool.and_false, Bool.false_and, beq_self_eq_true, wipe, own_enc, own_encP, pa, kids_ok g.h82 q (k := K + 6), cmpD, eqD_kids])
  rw [call_eq g.h104 rfl]
  simp -implicitDefEqProofs only [e_lit, e_var, e_glb, e_bin, e_bin1, e_bin2, e_neg, e_neg1, e_cmp, e_cmp1, e_cmp2, e_chn, e_chn1, e_chn2, e_chn3, e_chn4, e_isn, e_isn1, e_isn2, e_and, e_and1, e_and2, e_or, e_or1, e_or2, e_not, e_not1, e_ite, e_ite1, e_ite2, e_tup, e_tup1, e_lst, e_lst1, e_idx, e_idx1, e_idx2, e_slc, e_slc1, e_slc2, e_slc3, e_call, e_call1, e_prim, e_prim1, e_isi, e_isi1, e_isi2, e_meth, e_meth1, e_meth2, e_comp, e_comp1, e_tl, es_nil, es_cons, es_cons1, es_cons2, es_cons3, ep_nil, ep_cons, ep_cons1, eo_no, eo_so, eo_so1, ec_no, ec_so, ei_val, ei_val1, ei_rg, ei_rg1, ei_rg2, ei_rg3, ei_rg4, ei_enm, ei_enm1, ei_zip, ei_zip1, ei_zip2, ei_zip3, ei_rev, ei_rev1, c_nil, x_asg, x_asg1, x_asg2, x_asg3, x_par, x_par1, x_par3, x_par31, x_sub, x_sub1, x_sub2, x_sub3, x_sub4, x_sub5, x_aug, x_aug0, x_aug1, x_aug2, x_augS, x_augS1, x_augS2, x_augS3, x_augS4, x_augS5, x_ret, x_ret1, x_ret2, x_retN, x_ex, x_ex1, x_ex2, x_pass, x_brk, x_cnt, x_if, x_if1, x_if2, x_whl, x_fr, x_fr1, x_rs, x_tr, x_tr1, x_tr2, x_tr3, x_h, x_noX1, x_noX2, x_noX3, xs_nx, xs_rt, xs_bk, xs_ct, xs_ex, f_nil, t_nx, t_rt, t_exc, own_tl, own_int, own_bl, own_non, own_str, own_tup, own_ref, own_fl, xs_nil, xs_cons, start, bindT, bindTs, R.of_some, R.of_none, List.length_cons, List.length_nil, List.map_cons, List.map_nil, List.getElem?_cons_zero, List.getElem?_cons_succ, List.set_cons_zero, List.set_cons_succ, Nat.reduceAdd, Nat.reduceSub, List.cons_append, List.nil_append, List.append_nil, List.replicate, Nat.zero_add, reduceIte, Option.map_some, Option.map_none, fin_same, Bool.not_true, Bool.not_false, Bool.false_eq_true, tyD, primD, binD, sz0, sz1, sz2, sz3, sz4, sz5, sz6, sz7, sz8, nc0, nc1, nc2, nc3, nc4, nc5, nc6, nc7, nc8, Nat.reduceEqDiff, Option.bind_some, Int.reduceLE, Int.reduceLT, Int.reduceEq, Int.reduceToNat, Int.reduceAdd, Int.reduceSub, Int.reduceMul, Int.reduceNeg, Nat.reduceMul, ne_eq, not_false_eq_true, not_true_eq_false, decide_true, decide_false, Bool.and_true, Bool.true_and, Bool.or_false, Bool.false_or, Bool.or_true, Bool.true_or, Bool.and_false, Bool.false_and, beq_self_eq_true, F104, own_enc, al, seqAny, watchOf, c, seqOf]
theorem replaced_bad (g : HPla Γ) {K : Nat} {η : Hep} {d : D} (od : own d η = .ok d η) (hd : ∀ n, d.blw n = true) (pd : d.plain = true) (hb : ∀ (K : Nat) (room depth : Int), room ≤ 60 → callN Γ (K + 5) 81 [d, .int room, .int depth] η = .ok .non η) {p q : Pp} {path : List Nat} (hk : dep p ≤ K) (gp : good p) (hs : size p ≤ 60) (hl : path.length ≤ K) (hK : K ≤ 1000) (ha : at' p path = some q) :
    callN Γ (K + 8) 106 [enc p, encP path, d] η = .exc 784 [] η := by
  have r := rep_ok (η := η) (d := d) g.h107 od hd path (K + 6) p q (by omega) ha gp
  have fb := fits_bad g.toHPip od pd hb path (K + 1) p q 60 60 (by omega) gp (by omega) (by omega) (by have := fits60 hs gp; omega) ha
  have nn : decide (D.non = D.non) = true := decide_eq_true rfl
  have ip : callN Γ (K + 7) 80 [putD p path d] η = .ok (.bl false) η := by
    rw [call_eq g.h80 rfl]
    simp -implicitDefEqProofs only [e_lit, e_var, e_glb, e_bin, e_bin1, e_bin2, e_neg, e_neg1, e_cmp, e_cmp1, e_cmp2, e_chn, e_chn1, e_chn2, e_chn3, e_chn4, e_isn, e_isn1, e_isn2, e_and, e_and1, e_and2, e_or, e_or1, e_or2, e_not, e_not1, e_ite, e_ite1, e_ite2, e_tup, e_tup1, e_lst, e_lst1, e_idx, e_idx1, e_idx2, e_slc, e_slc1, e_slc2, e_slc3, e_call, e_call1, e_prim, e_prim1, e_isi, e_isi1, e_isi2, e_meth, e_meth1, e_meth2, e_comp, e_comp1, e_tl, es_nil, es_cons, es_cons1, es_cons2, es_cons3, ep_nil, ep_cons, ep_cons1, eo_no, eo_so, eo_so1, ec_no, ec_so, ei_val, ei_val1, ei_rg, ei_rg1, ei_rg2, ei_rg3, ei_rg4, ei_enm, ei_enm1, ei_zip, ei_zip1, ei_zip2, ei_zip3, ei_rev, ei_rev1, c_nil, x_asg, x_asg1, x_asg2, x_asg3, x_par, x_par1, x_par3, x_par31, x_sub, x_sub1, x_sub2, x_sub3, x_sub4, x_sub5, x_aug, x_aug0, x_aug1, x_aug2, x_augS, x_augS1, x_augS2, x_augS3, x_augS4, x_augS5, x_ret, x_ret1, x_ret2, x_retN, x_ex, x_ex1, x_ex2, x_pass, x_brk, x_cnt, x_if, x_if1, x_if2, x_whl, x_fr, x_fr1, x_rs, x_tr, x_tr1, x_tr2, x_tr3, x_h, x_noX1, x_noX2, x_noX3, xs_nx, xs_rt, xs_bk, xs_ct, xs_ex, f_nil, t_nx, t_rt, t_exc, own_tl, own_int, own_bl, own_non, own_str, own_tup, own_ref, own_fl, xs_nil, xs_cons, start, bindT, bindTs, R.of_some, R.of_none, List.length_cons, List.length_nil, List.map_cons, List.map_nil, List.getElem?_cons_zero, List.getElem?_cons_succ, List.set_cons_zero, List.set_cons_succ, Nat.reduceAdd, Nat.reduceSub, List.cons_append, List.nil_append, List.append_nil, List.replicate, Nat.zero_add, reduceIte, Option.map_some, Option.map_none, fin_same, Bool.not_true, Bool.not_false, Bool.false_eq_true, tyD, primD, binD, sz0, sz1, sz2, sz3, sz4, sz5, sz6, sz7, sz8, nc0, nc1, nc2, nc3, nc4, nc5, nc6, nc7, nc8, Nat.reduceEqDiff, Option.bind_some, Int.reduceLE, Int.reduceLT, Int.reduceEq, Int.reduceToNat, Int.reduceAdd, Int.reduceSub, Int.reduceMul, Int.reduceNeg, Nat.reduceMul, ne_eq, not_false_eq_true, not_true_eq_false, decide_true, decide_false, Bool.and_true, Bool.true_and, Bool.or_false, Bool.false_or, Bool.or_true, Bool.true_or, Bool.and_false, Bool.false_and, beq_self_eq_true, F80, putD_own od, fb, nn]
  rw [call_eq g.h106 rfl]
  simp -implicitDefEqProofs only [e_lit, e_var, e_glb, e_bin, e_bin1, e_bin2, e_neg, e_neg1, e_cmp, e_cmp1, e_cmp2, e_chn, e_chn1, e_chn2, e_chn3, e_chn4, e_isn, e_isn1, e_isn2, e_and, e_and1, e_and2, e_or, e_or1, e_or2, e_not, e_not1, e_ite, e_ite1, e_ite2, e_tup, e_tup1, e_lst, e_lst1, e_idx, e_idx1, e_idx2, e_slc, e_slc1, e_slc2, e_slc3, e_call, e_call1, e_prim, e_prim1, e_isi, e_isi1, e_isi2, e_meth, e_meth1, e_meth2, e_comp, e_comp1, e_tl, es_nil, es_cons, es_cons1, es_cons2, es_cons3, ep_nil, ep_cons, ep_cons1, eo_no, eo_so, eo_so1, ec_no, ec_so, ei_val, ei_val1, ei_rg, ei_rg1, ei_rg2, ei_rg3, ei_rg4, ei_enm, ei_enm1, ei_zip, ei_zip1, ei_zip2, ei_zip3, ei_rev, ei_rev1, c_nil, x_asg, x_asg1, x_asg2, x_asg3, x_par, x_par1, x_par3, x_par31, x_sub, x_sub1, x_sub2, x_sub3, x_sub4, x_sub5, x_aug, x_aug0, x_aug1, x_aug2, x_augS, x_augS1, x_augS2, x_augS3, x_augS4, x_augS5, x_ret, x_ret1, x_ret2, x_retN, x_ex, x_ex1, x_ex2, x_pass, x_brk, x_cnt, x_if, x_if1, x_if2, x_whl, x_fr, x_fr1, x_rs, x_tr, x_tr1, x_tr2, x_tr3, x_h, x_noX1, x_noX2, x_noX3, xs_nx, xs_rt, xs_bk, xs_ct, xs_ex, f_nil, t_nx, t_rt, t_exc, own_tl, own_int, own_bl, own_non, own_str, own_tup, own_ref, own_fl, xs_nil, xs_cons, start, bindT, bindTs, R.of_some, R.of_none, List.length_cons, List.length_nil, List.map_cons, List.map_nil, List.getElem?_cons_zero, List.getElem?_cons_succ, List.set_cons_zero, List.set_cons_succ, Nat.reduceAdd, Nat.reduceSub, List.cons_append, List.nil_append, List.append_nil, List.replicate, Nat.zero_add, reduceIte, Option.map_some, Option.map_none, fin_same, Bool.not_true, Bool.not_false, Bool.false_eq_true, tyD, primD, binD, sz0, sz1, sz2, sz3, sz4, sz5, sz6, sz7, sz8, nc0, nc1, nc2, nc3, nc4, nc5, nc6, nc7, nc8, Nat.reduceEqDiff, Option.bind_some, Int.reduceLE, Int.reduceLT, Int.reduceEq, Int.reduceToNat, Int.reduceAdd, Int.reduceSub, Int.reduceMul, Int.reduceNeg, Nat.reduceMul, ne_eq, not_false_eq_true, not_true_eq_false, decide_true, decide_false, Bool.and_true, Bool.true_and, Bool.or_false, Bool.false_or, Bool.or_true, Bool.true_or, Bool.and_false, Bool.false_and, beq_self_eq_true, F106, own_enc, own_encP, od, pipe_at_ok (η := η) g.toHPth hk gp hs (by omega) ha, r, ip, x_rs, putD_own od]
theorem no_pipe_ok (g : HPla Γ) {K : Nat} {η : Hep} {p : Pp} {path : List Nat} {d : D} (od : own d η = .ok d η) (h : callN Γ (K + 8) 106 [enc p, encP path, d] η = .exc 784 [] η) : callN Γ (K + 9) 111 [enc p, encP path, d] η = .ok (.bl true) η := by
  rw [call_eq g.h111 rfl]
  simp -implicitDefEqProofs only [e_lit, e_var, e_glb, e_bin, e_bin1, e_bin2, e_neg, e_neg1, e_cmp, e_cmp1, e_cmp2, e_chn, e_chn1, e_chn2, e_chn3, e_chn4, e_isn, e_isn1, e_isn2, e_and, e_and1, e_and2, e_or, e_or1, e_or2, e_not, e_not1, e_ite, e_ite1, e_ite2, e_tup, e_tup1, e_lst, e_lst1, e_idx, e_idx1, e_idx2, e_slc, e_slc1, e_slc2, e_slc3, e_call, e_call1, e_prim, e_prim1, e_isi, e_isi1, e_isi2, e_meth, e_meth1, e_meth2, e_comp, e_comp1, e_tl, es_nil, es_cons, es_cons1, es_cons2, es_cons3, ep_nil, ep_cons, ep_cons1, eo_no, eo_so, eo_so1, ec_no, ec_so, ei_val, ei_val1, ei_rg, ei_rg1, ei_rg2, ei_rg3, ei_rg4, ei_enm, ei_enm1, ei_zip, ei_zip1, ei_zip2, ei_zip3, ei_rev, ei_rev1, c_nil, x_asg, x_asg1, x_asg2, x_asg3, x_par, x_par1, x_par3, x_par31, x_sub, x_sub1, x_sub2, x_sub3, x_sub4, x_sub5, x_aug, x_aug0, x_aug1, x_aug2, x_augS, x_augS1, x_augS2, x_augS3, x_augS4, x_augS5, x_ret, x_ret1, x_ret2, x_retN, x_ex, x_ex1, x_ex2, x_pass, x_brk, x_cnt, x_if, x_if1, x_if2, x_whl, x_fr, x_fr1, x_rs, x_tr, x_tr1, x_tr2, x_tr3, x_h, x_noX1, x_noX2, x_noX3, xs_nx, xs_rt, xs_bk, xs_ct, xs_ex, f_nil, t_nx, t_rt, t_exc, own_tl, own_int, own_bl, own_non, own_str, own_tup, own_ref, own_fl, xs_nil, xs_cons, start, bindT, bindTs, R.of_some, R.of_none, List.length_cons, List.length_nil, List.map_cons, List.map_nil, List.getElem?_cons_zero, List.getElem?_cons_succ, List.set_cons_zero, List.set_cons_succ, Nat.reduceAdd, Nat.reduceSub, List.cons_append, List.nil_append, List.append_nil, List.replicate, Nat.zero_add, reduceIte, Option.map_some, Option.map_none, fin_same, Bool.not_true, Bool.not_false, Bool.false_eq_true, tyD, primD, binD, sz0, sz1, sz2, sz3, sz4, sz5, sz6, sz7, sz8, nc0, nc1, nc2, nc3, nc4, nc5, nc6, nc7, nc8, Nat.reduceEqDiff, Option.bind_some, Int.reduceLE, Int.reduceLT, Int.reduceEq, Int.reduceToNat, Int.reduceAdd, Int.reduceSub, Int.reduceMul, Int.reduceNeg, Nat.reduceMul, ne_eq, not_false_eq_true, not_true_eq_false, decide_true, decide_false, Bool.and_true, Bool.true_and, Bool.or_false, Bool.false_or, Bool.or_true, Bool.true_or, Bool.and_false, Bool.false_and, beq_self_eq_true, F111, own_enc, own_encP, od, h, fin_excp, x_h]
theorem cut_no (g : HPla Γ) {K : Nat} {η : Hep} {p q : Pp} {path : List Nat} {a : Int} (hk : dep p ≤ K) (gp : good p) (hs : size p ≤ 60) (hl : path.length ≤ 1000) (ha : at' p path = some q) (hn : ¬ (1 ≤ a ∧ a < q.len)) : callN Γ (K + 8) 108 [enc p, encP path, .int a] η = .exc 783 [] η := by
  have i0 : idxD (enc q) (.int 0) η = some (.int (q.len : Int)) := by rw [enc_eq q, idx_tup, at0]
  rw [call_eq g.h108 rfl]
  by_cases h1 : 1 ≤ a
  · have h2 : ¬ a < (q.len : Int) := fun z => hn ⟨h1, z⟩
    simp -implicitDefEqProofs only [e_lit, e_var, e_glb, e_bin, e_bin1, e_bin2, e_neg, e_neg1, e_cmp, e_cmp1, e_cmp2, e_chn, e_chn1, e_chn2, e_chn3, e_chn4, e_isn, e_isn1, e_isn2, e_and, e_and1, e_and2, e_or, e_or1, e_or2, e_not, e_not1, e_ite, e_ite1, e_ite2, e_tup, e_tup1, e_lst, e_lst1, e_idx, e_idx1, e_idx2, e_slc, e_slc1, e_slc2, e_slc3, e_call, e_call1, e_prim, e_prim1, e_isi, e_isi1, e_isi2, e_meth, e_meth1, e_meth2, e_comp, e_comp1, e_tl, es_nil, es_cons, es_cons1, es_cons2, es_cons3, ep_nil, ep_cons, ep_cons1, eo_no, eo_so, eo_so1, ec_no, ec_so, ei_val, ei_val1, ei_rg, ei_rg1, ei_rg2, ei_rg3, ei_rg4, ei_enm, ei_enm1, ei_zip, ei_zip1, ei_zip2, ei_zip3, ei_rev, ei_rev1, c_nil, x_asg, x_asg1, x_asg2, x_asg3, x_par, x_par1, x_par3, x_par31, x_sub, x_sub1, x_sub2, x_sub3, x_sub4, x_sub5, x_aug, x_aug0, x_aug1, x_aug2, x_augS, x_augS1, x_augS2, x_augS3, x_augS4, x_augS5, x_ret, x_ret1, x_ret2, x_retN, x_ex, x_ex1, x_ex2, x_pass, x_brk, x_cnt, x_if, x_if1, x_if2, x_whl, x_fr, x_fr1, x_rs, x_tr, x_tr1, x_tr2, x_tr3, x_h, x_noX1, x_noX2, x_noX3, xs_nx, xs_rt, xs_bk, xs_ct, xs_ex, f_nil, t_nx, t_rt, t_exc, own_tl, own_int, own_bl, own_non, own_str, own_tup, own_ref, own_fl, xs_nil, xs_cons, start, bindT, bindTs, R.of_some, R.of_none, List.length_cons, List.length_nil, List.map_cons, List.map_nil, List.getElem?_cons_zero, List.getElem?_cons_succ, List.set_cons_zero, List.set_cons_succ, Nat.reduceAdd, Nat.reduceSub, List.cons_append, List.nil_append, List.append_nil, List.replicate, Nat.zero_add, reduceIte, Option.map_some, Option.map_none, fin_same, Bool.not_true, Bool.not_false, Bool.false_eq_true, tyD, primD, binD, sz0, sz1, sz2, sz3, sz4, sz5, sz6, sz7, sz8, nc0, nc1, nc2, nc3, nc4, nc5, nc6, nc7, nc8, Nat.reduceEqDiff, Option.bind_some, Int.reduceLE, Int.reduceLT, Int.reduceEq, Int.reduceToNat, Int.reduceAdd, Int.reduceSub, Int.reduceMul, Int.reduceNeg, Nat.reduceMul, ne_eq, not_false_eq_true, not_true_eq_false, decide_true, decide_false, Bool.and_true, Bool.true_and, Bool.or_false, Bool.false_or, Bool.or_true, Bool.true_or, Bool.and_false, Bool.false_and, beq_self_eq_true, F108, own_enc, own_encP, pipe_at_ok (η := η) g.toHPth hk gp hs hl ha, is_count_int (k := K + 6) g.h0, cmpD, decide_eq_true h1, i0, decide_eq_false h2, x_rs]
  · simp -implicitDefEqProofs only [e_lit, e_var, e_glb, e_bin, e_bin1, e_bin2, e_neg, e_neg1, e_cmp, e_cmp1, e_cmp2, e_chn, e_chn1, e_chn2, e_chn3, e_chn4, e_isn, e_isn1, e_isn2, e_and, e_and1, e_and2, e_or, e_or1, e_or2, e_not, e_not1, e_ite, e_ite1, e_ite2, e_tup, e_tup1, e_lst, e_lst1, e_idx, e_idx1, e_idx2, e_slc, e_slc1, e_slc2, e_slc3, e_call, e_call1, e_prim, e_prim1, e_isi, e_isi1, e_isi2, e_meth, e_meth1, e_meth2, e_comp, e_comp1, e_tl, es_nil, es_cons, es_cons1, es_cons2, es_cons3, ep_nil, ep_cons, ep_cons1, eo_no, eo_so, eo_so1, ec_no, ec_so, ei_val, ei_val1, ei_rg, ei_rg1, ei_rg2, ei_rg3, ei_rg4, ei_enm, ei_enm1, ei_zip, ei_zip1, ei_zip2, ei_zip3, ei_rev, ei_rev1, c_nil, x_asg, x_asg1, x_asg2, x_asg3, x_par, x_par1, x_par3, x_par31, x_sub, x_sub1, x_sub2, x_sub3, x_sub4, x_sub5, x_aug, x_aug0, x_aug1, x_aug2, x_augS, x_augS1, x_augS2, x_augS3, x_augS4, x_augS5, x_ret, x_ret1, x_ret2, x_retN, x_ex, x_ex1, x_ex2, x_pass, x_brk, x_cnt, x_if, x_if1, x_if2, x_whl, x_fr, x_fr1, x_rs, x_tr, x_tr1, x_tr2, x_tr3, x_h, x_noX1, x_noX2, x_noX3, xs_nx, xs_rt, xs_bk, xs_ct, xs_ex, f_nil, t_nx, t_rt, t_exc, own_tl, own_int, own_bl, own_non, own_str, own_tup, own_ref, own_fl, xs_nil, xs_cons, start, bindT, bindTs, R.of_some, R.of_none, List.length_cons, List.length_nil, List.map_cons, List.map_nil, List.getElem?_cons_zero, List.getElem?_cons_succ, List.set_cons_zero, List.set_cons_succ, Nat.reduceAdd, Nat.reduceSub, List.cons_append, List.nil_append, List.append_nil, List.replicate, Nat.zero_add, reduceIte, Option.map_some, Option.map_none, fin_same, Bool.not_true, Bool.not_false, Bool.false_eq_true, tyD, primD, binD, sz0, sz1, sz2, sz3, sz4, sz5, sz6, sz7, sz8, nc0, nc1, nc2, nc3, nc4, nc5, nc6, nc7, nc8, Nat.reduceEqDiff, Option.bind_some, Int.reduceLE, Int.reduceLT, Int.reduceEq, Int.reduceToNat, Int.reduceAdd, Int.reduceSub, Int.reduceMul, Int.reduceNeg, Nat.reduceMul, ne_eq, not_false_eq_true, not_true_eq_false, decide_true, decide_false, Bool.and_true, Bool.true_and, Bool.or_false, Bool.false_or, Bool.or_true, Bool.true_or, Bool.and_false, Bool.false_and, beq_self_eq_true, F108, own_enc, own_encP, pipe_at_ok (η := η) g.toHPth hk gp hs hl ha, is_count_int (k := K + 6) g.h0, cmpD, decide_eq_false h1, x_rs]
theorem cut_bl (g : HPla Γ) {K : Nat} {η : Hep} {p q : Pp} {path : List Nat} (hk : dep p ≤ K) (gp : good p) (hs : size p ≤ 60) (hl : path.length ≤ 1000) (ha : at' p path = some q) : callN Γ (K + 8) 108 [enc p, encP path, .bl true] η = .exc 783 [] η := by
  have cb : callN Γ (K + 7) 0 [.bl true] η = .ok (.bl false) η := by
    rw [call_eq g.h0 rfl]
    simp -implicitDefEqProofs only [e_lit, e_var, e_glb, e_bin, e_bin1, e_bin2, e_neg, e_neg1, e_cmp, e_cmp1, e_cmp2, e_chn, e_chn1, e_chn2, e_chn3, e_chn4, e_isn, e_isn1, e_isn2, e_and, e_and1, e_and2, e_or, e_or1, e_or2, e_not, e_not1, e_ite, e_ite1, e_ite2, e_tup, e_tup1, e_lst, e_lst1, e_idx, e_idx1, e_idx2, e_slc, e_slc1, e_slc2, e_slc3, e_call, e_call1, e_prim, e_prim1, e_isi, e_isi1, e_isi2, e_meth, e_meth1, e_meth2, e_comp, e_comp1, e_tl, es_nil, es_cons, es_cons1, es_cons2, es_cons3, ep_nil, ep_cons, ep_cons1, eo_no, eo_so, eo_so1, ec_no, ec_so, ei_val, ei_val1, ei_rg, ei_rg1, ei_rg2, ei_rg3, ei_rg4, ei_enm, ei_enm1, ei_zip, ei_zip1, ei_zip2, ei_zip3, ei_rev, ei_rev1, c_nil, x_asg, x_asg1, x_asg2, x_asg3, x_par, x_par1, x_par3, x_par31, x_sub, x_sub1, x_sub2, x_sub3, x_sub4, x_sub5, x_aug, x_aug0, x_aug1, x_aug2, x_augS, x_augS1, x_augS2, x_augS3, x_augS4, x_augS5, x_ret, x_ret1, x_ret2, x_retN, x_ex, x_ex1, x_ex2, x_pass, x_brk, x_cnt, x_if, x_if1, x_if2, x_whl, x_fr, x_fr1, x_rs, x_tr, x_tr1, x_tr2, x_tr3, x_h, x_noX1, x_noX2, x_noX3, xs_nx, xs_rt, xs_bk, xs_ct, xs_ex, f_nil, t_nx, t_rt, t_exc, own_tl, own_int, own_bl, own_non, own_str, own_tup, own_ref, own_fl, xs_nil, xs_cons, start, bindT, bindTs, R.of_some, R.of_none, List.length_cons, List.length_nil, List.map_cons, List.map_nil, List.getElem?_cons_zero, List.getElem?_cons_succ, List.set_cons_zero, List.set_cons_succ, Nat.reduceAdd, Nat.reduceSub, List.cons_append, List.nil_append, List.append_nil, List.replicate, Nat.zero_add, reduceIte, Option.map_some, Option.map_none, fin_same, Bool.not_true, Bool.not_false, Bool.false_eq_true, tyD, primD, binD, sz0, sz1, sz2, sz3, sz4, sz5, sz6, sz7, sz8, nc0, nc1, nc2, nc3, nc4, nc5, nc6, nc7, nc8, Nat.reduceEqDiff, Option.bind_some, Int.reduceLE, Int.reduceLT, Int.reduceEq, Int.reduceToNat, Int.reduceAdd, Int.reduceSub, Int.reduceMul, Int.reduceNeg, Nat.reduceMul, ne_eq, not_false_eq_true, not_true_eq_false, decide_true, decide_false, Bool.and_true, Bool.true_and, Bool.or_false, Bool.false_or, Bool.or_true, Bool.true_or, Bool.and_false, Bool.false_and, beq_self_eq_true, F0]
  rw [call_eq g.h108 rfl]
  simp -implicitDefEqProofs only [e_lit, e_var, e_glb, e_bin, e_bin1, e_bin2, e_neg, e_neg1, e_cmp, e_cmp1, e_cmp2, e_chn, e_chn1, e_chn2, e_chn3, e_chn4, e_isn, e_isn1, e_isn2, e_and, e_and1, e_and2, e_or, e_or1, e_or2, e_not, e_not1, e_ite, e_ite1, e_ite2, e_tup, e_tup1, e_lst, e_lst1, e_idx, e_idx1, e_idx2, e_slc, e_slc1, e_slc2, e_slc3, e_call, e_call1, e_prim, e_prim1, e_isi, e_isi1, e_isi2, e_meth, e_meth1, e_meth2, e_comp, e_comp1, e_tl, es_nil, es_cons, es_cons1, es_cons2, es_cons3, ep_nil, ep_cons, ep_cons1, eo_no, eo_so, eo_so1, ec_no, ec_so, ei_val, ei_val1, ei_rg, ei_rg1, ei_rg2, ei_rg3, ei_rg4, ei_enm, ei_enm1, ei_zip, ei_zip1, ei_zip2, ei_zip3, ei_rev, ei_rev1, c_nil, x_asg, x_asg1, x_asg2, x_asg3, x_par, x_par1, x_par3, x_par31, x_sub, x_sub1, x_sub2, x_sub3, x_sub4, x_sub5, x_aug, x_aug0, x_aug1, x_aug2, x_augS, x_augS1, x_augS2, x_augS3, x_augS4, x_augS5, x_ret, x_ret1, x_ret2, x_retN, x_ex, x_ex1, x_ex2, x_pass, x_brk, x_cnt, x_if, x_if1, x_if2, x_whl, x_fr, x_fr1, x_rs, x_tr, x_tr1, x_tr2, x_tr3, x_h, x_noX1, x_noX2, x_noX3, xs_nx, xs_rt, xs_bk, xs_ct, xs_ex, f_nil, t_nx, t_rt, t_exc, own_tl, own_int, own_bl, own_non, own_str, own_tup, own_ref, own_fl, xs_nil, xs_cons, start, bindT, bindTs, R.of_some, R.of_none, List.length_cons, List.length_nil, List.map_cons, List.map_nil, List.getElem?_cons_zero, List.getElem?_cons_succ, List.set_cons_zero, List.set_cons_succ, Nat.reduceAdd, Nat.reduceSub, List.cons_append, List.nil_append, List.append_nil, List.replicate, Nat.zero_add, reduceIte, Option.map_some, Option.map_none, fin_same, Bool.not_true, Bool.not_false, Bool.false_eq_true, tyD, primD, binD, sz0, sz1, sz2, sz3, sz4, sz5, sz6, sz7, sz8, nc0, nc1, nc2, nc3, nc4, nc5, nc6, nc7, nc8, Nat.reduceEqDiff, Option.bind_some, Int.reduceLE, Int.reduceLT, Int.reduceEq, Int.reduceToNat, Int.reduceAdd, Int.reduceSub, Int.reduceMul, Int.reduceNeg, Nat.reduceMul, ne_eq, not_false_eq_true, not_true_eq_false, decide_true, decide_false, Bool.and_true, Bool.true_and, Bool.or_false, Bool.false_or, Bool.or_true, Bool.true_or, Bool.and_false, Bool.false_and, beq_self_eq_true, F108, own_enc, own_encP, pipe_at_ok (η := η) g.toHPth hk gp hs hl ha, cb, x_rs]
theorem uncut_ok (g : HPla Γ) {K : Nat} {η : Hep} {p : Pp} {path : List Nat} {a : D} (oa : own a η = .ok a η) (h : callN Γ (K + 8) 108 [enc p, encP path, a] η = .exc 783 [] η) : callN Γ (K + 9) 110 [enc p, encP path, a] η = .ok (.bl true) η := by
  rw [call_eq g.h110 rfl]
  simp -implicitDefEqProofs only [e_lit, e_var, e_glb, e_bin, e_bin1, e_bin2, e_neg, e_neg1, e_cmp, e_cmp1, e_cmp2, e_chn, e_chn1, e_chn2, e_chn3, e_chn4, e_isn, e_isn1, e_isn2, e_and, e_and1, e_and2, e_or, e_or1, e_or2, e_not, e_not1, e_ite, e_ite1, e_ite2, e_tup, e_tup1, e_lst, e_lst1, e_idx, e_idx1, e_idx2, e_slc, e_slc1, e_slc2, e_slc3, e_call, e_call1, e_prim, e_prim1, e_isi, e_isi1, e_isi2, e_meth, e_meth1, e_meth2, e_comp, e_comp1, e_tl, es_nil, es_cons, es_cons1, es_cons2, es_cons3, ep_nil, ep_cons, ep_cons1, eo_no, eo_so, eo_so1, ec_no, ec_so, ei_val, ei_val1, ei_rg, ei_rg1, ei_rg2, ei_rg3, ei_rg4, ei_enm, ei_enm1, ei_zip, ei_zip1, ei_zip2, ei_zip3, ei_rev, ei_rev1, c_nil, x_asg, x_asg1, x_asg2, x_asg3, x_par, x_par1, x_par3, x_par31, x_sub, x_sub1, x_sub2, x_sub3, x_sub4, x_sub5, x_aug, x_aug0, x_aug1, x_aug2, x_augS, x_augS1, x_augS2, x_augS3, x_augS4, x_augS5, x_ret, x_ret1, x_ret2, x_retN, x_ex, x_ex1, x_ex2, x_pass, x_brk, x_cnt, x_if, x_if1, x_if2, x_whl, x_fr, x_fr1, x_rs, x_tr, x_tr1, x_tr2, x_tr3, x_h, x_noX1, x_noX2, x_noX3, xs_nx, xs_rt, xs_bk, xs_ct, xs_ex, f_nil, t_nx, t_rt, t_exc, own_tl, own_int, own_bl, own_non, own_str, own_tup, own_ref, own_fl, xs_nil, xs_cons, start, bindT, bindTs, R.of_some, R.of_none, List.length_cons, List.length_nil, List.map_cons, List.map_nil, List.getElem?_cons_zero, List.getElem?_cons_succ, List.set_cons_zero, List.set_cons_succ, Nat.reduceAdd, Nat.reduceSub, List.cons_append, List.nil_append, List.append_nil, List.replicate, Nat.zero_add, reduceIte, Option.map_some, Option.map_none, fin_same, Bool.not_true, Bool.not_false, Bool.false_eq_true, tyD, primD, binD, sz0, sz1, sz2, sz3, sz4, sz5, sz6, sz7, sz8, nc0, nc1, nc2, nc3, nc4, nc5, nc6, nc7, nc8, Nat.reduceEqDiff, Option.bind_some, Int.reduceLE, Int.reduceLT, Int.reduceEq, Int.reduceToNat, Int.reduceAdd, Int.reduceSub, Int.reduceMul, Int.reduceNeg, Nat.reduceMul, ne_eq, not_false_eq_true, not_true_eq_false, decide_true, decide_false, Bool.and_true, Bool.true_and, Bool.or_false, Bool.false_or, Bool.or_true, Bool.true_or, Bool.and_false, Bool.false_and, beq_self_eq_true, F110, own_enc, own_encP, oa, h, fin_excp, x_h]
theorem cut_ok (g : HPla Γ) {K : Nat} {η : Hep} {p q : Pp} {path : List Nat} {a : Nat} (hk : 2 * dep p + 1 ≤ K) (gp : good p) (gq : good q) (sq : size q ≤ size p) (dq : dep q ≤ dep p) (hs : 2 * size p ≤ 60) (hl : path.length ≤ K) (hK : K ≤ 1000) (ha : at' p path = some q) (h1 : 1 ≤ a) (h2 : a < q.len) :
    callN Γ (K + 9) 108 [enc p, encP path, .int a] η = .ok (enc (put p path (two q a))) η := by
  have gt := good_two gq h1 h2
  have st := size_two h2
  have dt := dep_two q a
  have pdp := put_dep path p (two q a)
  have rp := replaced_ok (η := η) g.toHPth g.h106 g.h107 (K := K) (n := two q a) (by omega) (by omega) gp gt (by omega) hl hK ha
  rw [enc_two] at rp
  have l1 : (1 : Int) ≤ (a : Int) := by omega
  have l2 : (a : Int) < (q.len : Int) := by omega
  have sb : (q.len : Int) - (a : Int) = ((q.len - a : Nat) : Int) := by omega
  have i0 : idxD (enc q) (.int 0) η = some (.int (q.len : Int)) := by rw [enc_eq q, idx_tup, at0]
  have pa := pipe_at_ok (K := K + 1) (η := η) g.toHPth (by omega) gp (by omega) (by omega) ha
  rw [enc_eq q] at pa i0
  have oe : own q.endD η = .ok q.endD η := by cases q <;> rfl
  rw [call_eq g.h108 rfl]
  simp -implicitDefEqProofs only [e_lit, e_var, e_glb, e_bin, e_bin1, e_bin2, e_neg, e_neg1, e_cmp, e_cmp1, e_cmp2, e_chn, e_chn1, e_chn2, e_chn3, e_chn4, e_isn, e_isn1, e_isn2, e_and, e_and1, e_and2, e_or, e_or1, e_or2, e_not, e_not1, e_ite, e_ite1, e_ite2, e_tup, e_tup1, e_lst, e_lst1, e_idx, e_idx1, e_idx2, e_slc, e_slc1, e_slc2, e_slc3, e_call, e_call1, e_prim, e_prim1, e_isi, e_isi1, e_isi2, e_meth, e_meth1, e_meth2, e_comp, e_comp1, e_tl, es_nil, es_cons, es_cons1, es_cons2, es_cons3, ep_nil, ep_cons, ep_cons1, eo_no, eo_so, eo_so1, ec_no, ec_so, ei_val, ei_val1, ei_rg, ei_rg1, ei_rg2, ei_rg3, ei_rg4, ei_enm, ei_enm1, ei_zip, ei_zip1, ei_zip2, ei_zip3, ei_rev, ei_rev1, c_nil, x_asg, x_asg1, x_asg2, x_asg3, x_par, x_par1, x_par3, x_par31, x_sub, x_sub1, x_sub2, x_sub3, x_sub4, x_sub5, x_aug, x_aug0, x_aug1, x_aug2, x_augS, x_augS1, x_augS2, x_augS3, x_augS4, x_augS5, x_ret, x_ret1, x_ret2, x_retN, x_ex, x_ex1, x_ex2, x_pass, x_brk, x_cnt, x_if, x_if1, x_if2, x_whl, x_fr, x_fr1, x_rs, x_tr, x_tr1, x_tr2, x_tr3, x_h, x_noX1, x_noX2, x_noX3, xs_nx, xs_rt, xs_bk, xs_ct, xs_ex, f_nil, t_nx, t_rt, t_exc, own_tl, own_int, own_bl, own_non, own_str, own_tup, own_ref, own_fl, xs_nil, xs_cons, start, bindT, bindTs, R.of_some, R.of_none, List.length_cons, List.length_nil, List.map_cons, List.map_nil, List.getElem?_cons_zero, List.getElem?_cons_succ, List.set_cons_zero, List.set_cons_succ, Nat.reduceAdd, Nat.reduceSub, List.cons_append, List.nil_append, List.append_nil, List.replicate, Nat.zero_add, reduceIte, Option.map_some, Option.map_none, fin_same, Bool.not_true, Bool.not_false, Bool.false_eq_true, tyD, primD, binD, sz0, sz1, sz2, sz3, sz4, sz5, sz6, sz7, sz8, nc0, nc1, nc2, nc3, nc4, nc5, nc6, nc7, nc8, Nat.reduceEqDiff, Option.bind_some, Int.reduceLE, Int.reduceLT, Int.reduceEq, Int.reduceToNat, Int.reduceAdd, Int.reduceSub, Int.reduceMul, Int.reduceNeg, Nat.reduceMul, ne_eq, not_false_eq_true, not_true_eq_false, decide_true, decide_false, Bool.and_true, Bool.true_and, Bool.or_false, Bool.false_or, Bool.or_true, Bool.true_or, Bool.and_false, Bool.false_and, beq_self_eq_true, F108, own_enc, own_encP, pa, is_count_int (k := K + 7) g.h0, cmpD, decide_eq_true l1, i0, decide_eq_true l2, own_sh, sb, oe, rp]
end
end Ev

set_option Elab.async false
set_option linter.all false
set_option maxRecDepth 100000
/-! # k05: the law's loops -/
namespace Ev
open Law
open Pp
structure HK5 (Γ : Nat → Option Fd) : Prop extends HPla Γ where
  h103 : Γ 103 = some F103
  h21 : Γ 21 = some F21
  h22 : Γ 22 = some F22
  h23 : Γ 23 = some F23
  h24 : Γ 24 = some F24
  h25 : Γ 25 = some F25
  h90 : Γ 90 = some F90
  h91 : Γ 91 = some F91
  h92 : Γ 92 = some F92
  h94 : Γ 94 = some F94
  h95 : Γ 95 = some F95
  h96 : Γ 96 = some F96
  h97 : Γ 97 = some F97
def B4 : Ss := (.cons (.asg (.nm 8) (.prim .sum (.cons (.comp (.idx (.call 96 (.cons (.var 2) (.cons (.slc (.var 4) .no (.so (.var 12))) .nil))) (.lit (.int 0))) (.nm 12) (.rng1 (.prim .len (.cons (.var 4) .nil))) .no [12]) .nil)))
 (.cons (.ifs (.or (.not (.call 24 (.cons (.call 102 (.cons (.var 2) (.cons (.var 4) .nil))) (.cons (.call 96 (.cons (.var 2) (.cons (.var 4) .nil))) .nil)))) (.not (.call 24 (.cons (.call 105 (.cons (.var 2) (.cons (.var 4) .nil))) (.cons (.var 8) .nil))))) (.cons (.ret (.lit (.bl false)))
 .nil) .nil)
 .nil))
def B5 : Ss := (.cons (.ifs (.cmp2 .le .lt (.lit (.int 1)) (.var 5) (.idx (.var 9) (.lit (.int 0)))) (.cons (.asg (.nm 11) (.tup (.cons (.var 5) (.cons (.idx (.var 9) (.lit (.int 1))) (.cons (.tup (.cons (.lit (.str "fork")) (.cons (.tup (.cons (.tup (.cons (.bin .sub (.idx (.var 9) (.lit (.int 0))) (.var 5)) (.cons (.idx (.var 9) (.lit (.int 1))) (.cons (.idx (.var 9) (.lit (.int 2))) .nil)))) .nil)) .nil))) .nil)))))
 (.cons (.ifs (.not (.call 24 (.cons (.call 108 (.cons (.var 2) (.cons (.var 4) (.cons (.var 5) .nil)))) (.cons (.call 97 (.cons (.var 2) (.cons (.var 4) (.cons (.var 11) .nil)))) .nil)))) (.cons (.ret (.lit (.bl false)))
 .nil) .nil)
 .nil)) (.cons (.ifs (.not (.call 110 (.cons (.var 2) (.cons (.var 4) (.cons (.var 5) .nil))))) (.cons (.ret (.lit (.bl false)))
 .nil) .nil)
 .nil))
 .nil)
def B7 : Ss := (.cons (.ifs (.not (.call 109 (.cons (.var 2) (.cons (.var 7) .nil)))) (.cons (.ret (.lit (.bl false)))
 .nil) .nil)
 .nil)

section
variable {Γ : Nat → Option Fd}
/-- all paths, one by one -/
theorem loop4 (g : HK5 Γ) {η : Hep} {w : List (Nat × List D)} (hw : watchOk η w = true) {p : Pp} (hk : dep p ≤ 13) (gp : good p) (hs : size p ≤ 30) {s0 s1 s3 s12 : Option D} : ∀ (l : List (List Nat)) (x4 x8 : Option D), (∀ x ∈ l, ∃ q, at' p x = some q ∧ good q ∧ dep q ≤ dep p) → (∀ x ∈ l, x.length ≤ 30) →
    ∃ x4' x8', fE (callN Γ 40) B4 (.nm 4) w (l.map encP) [s0, s1, some (enc p), s3, x4, none, none, none, x8, none, none, none, s12] η = .nx [s0, s1, some (enc p), s3, x4', none, none, none, x8', none, none, none, s12] η
  | [], x4, x8, _, _ => ⟨x4, x8, rfl⟩
  | x :: l, x4, x8, h, hx => by
    obtain ⟨q, e1, gq, dq⟩ := h x List.mem_cons_self
    have xl := hx x List.mem_cons_self
    obtain ⟨x4', x8', e⟩ := loop4 g hw hk gp hs (s0 := s0) (s1 := s1) (s3 := s3) (s12 := s12) l (some (encP x)) (some (.int (beg p x))) (fun y hy => h y (List.mem_cons_of_mem _ hy)) (fun y hy => hx y (List.mem_cons_of_mem _ hy))
    refine ⟨x4', x8', ?_⟩
    obtain ⟨f, f1, f2⟩ := beg_sum x p q e1
    have xs : x.length ≤ PySem.sizeLine := by
      have : (30 : Nat) ≤ PySem.sizeLine := by decide
      omega
    have c := c_map (C := callN Γ 40) (elt := .idx (.call 96 (.cons (.var 2) (.cons (.slc (.var 4) .no (.so (.var 12))) .nil))) (.lit (.int 0))) (t := .nm 12) (w := []) (η := η) (ρ := wipe [s0, s1, some (enc p), s3, some (encP x), none, none, none, x8, none, none, none, s12] [12]) rfl (fun k : Nat => D.int (k : Int)) (fun k => .int (f k : Int)) (List.range x.length) [] (by simpa using xs) (fun k hk' => ⟨_, rfl, by
      obtain ⟨q', a1, a2⟩ := f1 k (List.mem_range.mp hk')
      have la := lat_ok (K := 38) (η := η) g.h96 g.h94 a1
      have la : callN Γ 40 96 [enc p, encP (x.take k)] η = .ok (enc q') η := la
      have sl : slcD (encP x) none (some (k : Int)) η = some (encP (x.take k)) := by
        unfold encP
        simp only [slcD, cut_take, List.map_take]
      have i0 : idxD (enc q') (.int 0) η = some (.int (f k : Int)) := by rw [enc_eq q', idx_tup, at0, a2]
      simp -implicitDefEqProofs only [e_lit, e_var, e_glb, e_bin, e_bin1, e_bin2, e_neg, e_neg1, e_cmp, e_cmp1, e_cmp2, e_chn, e_chn1, e_chn2, e_chn3, e_chn4, e_isn, e_isn1, e_isn2, e_and, e_and1, e_and2, e_or, e_or1, e_or2, e_not, e_not1, e_ite, e_ite1, e_ite2, e_tup, e_tup1, e_lst, e_lst1, e_idx, e_idx1, e_idx2, e_slc, e_slc1, e_slc2, e_slc3, e_call, e_call1, e_prim, e_prim1, e_isi, e_isi1, e_isi2, e_meth, e_meth1, e_meth2, e_comp, e_comp1, e_tl, es_nil, es_cons, es_cons1, es_cons2, es_cons3, ep_nil, ep_cons, ep_cons1, eo_no, eo_so, eo_so1, ec_no, ec_so, ei_val, ei_val1, ei_rg, ei_rg1, ei_rg2, ei_rg3, ei_rg4, ei_enm, ei_enm1, ei_zip, ei_zip1, ei_zip2, ei_zip3, ei_rev, ei_rev1, c_nil, x_asg, x_asg1, x_asg2, x_asg3, x_par, x_par1, x_par3, x_par31, x_sub, x_sub1, x_sub2, x_sub3, x_sub4, x_sub5, x_aug, x_aug0, x_aug1, x_aug2, x_augS, x_augS1, x_augS2, x_augS3, x_augS4, x_augS5, x_ret, x_ret1, x_ret2, x_retN, x_ex, x_ex1, x_ex2, x_pass, x_brk, x_cnt, x_if, x_if1, x_if2, x_whl, x_fr, x_fr1, x_rs, x_tr, x_tr1, x_tr2, x_tr3, x_h, x_noX1, x_noX2, x_noX3, xs_nx, xs_rt, xs_bk, xs_ct, xs_ex, f_nil, t_nx, t_rt, t_exc, own_tl, own_int, own_bl, own_non, own_str, own_tup, own_ref, own_fl, xs_nil, xs_cons, start, bindT, bindTs, R.of_some, R.of_none, List.length_cons, List.length_nil, List.map_cons, List.map_nil, List.getElem?_cons_zero, List.getElem?_cons_succ, List.set_cons_zero, List.set_cons_succ, Nat.reduceAdd, Nat.reduceSub, List.cons_append, List.nil_append, List.append_nil, List.replicate, Nat.zero_add, reduceIte, Option.map_some, Option.map_none, fin_same, Bool.not_true, Bool.not_false, Bool.false_eq_true, tyD, primD, binD, sz0, sz1, sz2, sz3, sz4, sz5, sz6, sz7, sz8, nc0, nc1, nc2, nc3, nc4, nc5, nc6, nc7, nc8, Nat.reduceEqDiff, Option.bind_some, Int.reduceLE, Int.reduceLT, Int.reduceEq, Int.reduceToNat, Int.reduceAdd, Int.reduceSub, Int.reduceMul, Int.reduceNeg, Nat.reduceMul, ne_eq, not_false_eq_true, not_true_eq_false, decide_true, decide_false, Bool.and_true, Bool.true_and, Bool.or_false, Bool.false_or, Bool.or_true, Bool.true_or, Bool.and_false, Bool.false_and, beq_self_eq_true, wipe, own_enc, own_encP, sl, la, i0], rfl⟩)
    rw [← rng_map] at c
    have sq : ∀ η, seqAny η (encP x) = some (x.map fun (i : Nat) => D.int (i : Int)) := fun _ => rfl
    have bl : big (x.length : Int) = true := big_len xs
    have ei : evI (callN Γ 40) (.rng1 (.prim .len (.cons (.var 4) .nil))) [s0, s1, some (enc p), s3, some (encP x), none, none, none, x8, none, none, none, s12] η = .ok (rng 0 x.length, []) η := by
      unfold encP
      simp -implicitDefEqProofs only [e_lit, e_var, e_glb, e_bin, e_bin1, e_bin2, e_neg, e_neg1, e_cmp, e_cmp1, e_cmp2, e_chn, e_chn1, e_chn2, e_chn3, e_chn4, e_isn, e_isn1, e_isn2, e_and, e_and1, e_and2, e_or, e_or1, e_or2, e_not, e_not1, e_ite, e_ite1, e_ite2, e_tup, e_tup1, e_lst, e_lst1, e_idx, e_idx1, e_idx2, e_slc, e_slc1, e_slc2, e_slc3, e_call, e_call1, e_prim, e_prim1, e_isi, e_isi1, e_isi2, e_meth, e_meth1, e_meth2, e_comp, e_comp1, e_tl, es_nil, es_cons, es_cons1, es_cons2, es_cons3, ep_nil, ep_cons, ep_cons1, eo_no, eo_so, eo_so1, ec_no, ec_so, ei_val, ei_val1, ei_rg, ei_rg1, ei_rg2, ei_rg3, ei_rg4, ei_enm, ei_enm1, ei_zip, ei_zip1, ei_zip2, ei_zip3, ei_rev, ei_rev1, c_nil, x_asg, x_asg1, x_asg2, x_asg3, x_par, x_par1, x_par3, x_par31, x_sub, x_sub1, x_sub2, x_sub3, x_sub4, x_sub5, x_aug, x_aug0, x_aug1, x_aug2, x_augS, x_augS1, x_augS2, x_augS3, x_augS4, x_augS5, x_ret, x_ret1, x_ret2, x_retN, x_ex, x_ex1, x_ex2, x_pass, x_brk, x_cnt, x_if, x_if1, x_if2, x_whl, x_fr, x_fr1, x_rs, x_tr, x_tr1, x_tr2, x_tr3, x_h, x_noX1, x_noX2, x_noX3, xs_nx, xs_rt, xs_bk, xs_ct, xs_ex, f_nil, t_nx, t_rt, t_exc, own_tl, own_int, own_bl, own_non, own_str, own_tup, own_ref, own_fl, xs_nil, xs_cons, start, bindT, bindTs, R.of_some, R.of_none, List.length_cons, List.length_nil, List.map_cons, List.map_nil, List.getElem?_cons_zero, List.getElem?_cons_succ, List.set_cons_zero, List.set_cons_succ, Nat.reduceAdd, Nat.reduceSub, List.cons_append, List.nil_append, List.append_nil, List.replicate, Nat.zero_add, reduceIte, Option.map_some, Option.map_none, fin_same, Bool.not_true, Bool.not_false, Bool.false_eq_true, tyD, primD, binD, sz0, sz1, sz2, sz3, sz4, sz5, sz6, sz7, sz8, nc0, nc1, nc2, nc3, nc4, nc5, nc6, nc7, nc8, Nat.reduceEqDiff, Option.bind_some, Int.reduceLE, Int.reduceLT, Int.reduceEq, Int.reduceToNat, Int.reduceAdd, Int.reduceSub, Int.reduceMul, Int.reduceNeg, Nat.reduceMul, ne_eq, not_false_eq_true, not_true_eq_false, decide_true, decide_false, Bool.and_true, Bool.true_and, Bool.or_false, Bool.false_or, Bool.or_true, Bool.true_or, Bool.and_false, Bool.false_and, beq_self_eq_true, seqAny, List.length_map, bl, Int.toNat_natCast]
    have st : exec (callN Γ 40) (.asg (.nm 8) (.prim .sum (.cons (.comp (.idx (.call 96 (.cons (.var 2) (.cons (.slc (.var 4) .no (.so (.var 12))) .nil))) (.lit (.int 0))) (.nm 12) (.rng1 (.prim .len (.cons (.var 4) .nil))) .no [12]) .nil))) [s0, s1, some (enc p), s3, some (encP x), none, none, none, x8, none, none, none, s12] η =
        .nx [s0, s1, some (enc p), s3, some (encP x), none, none, none, some (.int (beg p x)), none, none, none, s12] η := by
      rw [x_asg, e_prim, ep_cons, e_comp, ei, e_comp1, c]
      simp -implicitDefEqProofs only [e_lit, e_var, e_glb, e_bin, e_bin1, e_bin2, e_neg, e_neg1, e_cmp, e_cmp1, e_cmp2, e_chn, e_chn1, e_chn2, e_chn3, e_chn4, e_isn, e_isn1, e_isn2, e_and, e_and1, e_and2, e_or, e_or1, e_or2, e_not, e_not1, e_ite, e_ite1, e_ite2, e_tup, e_tup1, e_lst, e_lst1, e_idx, e_idx1, e_idx2, e_slc, e_slc1, e_slc2, e_slc3, e_call, e_call1, e_prim, e_prim1, e_isi, e_isi1, e_isi2, e_meth, e_meth1, e_meth2, e_comp, e_comp1, e_tl, es_nil, es_cons, es_cons1, es_cons2, es_cons3, ep_nil, ep_cons, ep_cons1, eo_no, eo_so, eo_so1, ec_no, ec_so, ei_val, ei_val1, ei_rg, ei_rg1, ei_rg2, ei_rg3, ei_rg4, ei_enm, ei_enm1, ei_zip, ei_zip1, ei_zip2, ei_zip3, ei_rev, ei_rev1, c_nil, x_asg, x_asg1, x_asg2, x_asg3, x_par, x_par1, x_par3, x_par31, x_sub, x_sub1, x_sub2, x_sub3, x_sub4, x_sub5, x_aug, x_aug0, x_aug1, x_aug2, x_augS, x_augS1, x_augS2, x_augS3, x_augS4, x_augS5, x_ret, x_ret1, x_ret2, x_retN, x_ex, x_ex1, x_ex2, x_pass, x_brk, x_cnt, x_if, x_if1, x_if2, x_whl, x_fr, x_fr1, x_rs, x_tr, x_tr1, x_tr2, x_tr3, x_h, x_noX1, x_noX2, x_noX3, xs_nx, xs_rt, xs_bk, xs_ct, xs_ex, f_nil, t_nx, t_rt, t_exc, own_tl, own_int, own_bl, own_non, own_str, own_tup, own_ref, own_fl, xs_nil, xs_cons, start, bindT, bindTs, R.of_some, R.of_none, List.length_cons, List.length_nil, List.map_cons, List.map_nil, List.getElem?_cons_zero, List.getElem?_cons_succ, List.set_cons_zero, List.set_cons_succ, Nat.reduceAdd, Nat.reduceSub, List.cons_append, List.nil_append, List.append_nil, List.replicate, Nat.zero_add, reduceIte, Option.map_some, Option.map_none, fin_same, Bool.not_true, Bool.not_false, Bool.false_eq_true, tyD, primD, binD, sz0, sz1, sz2, sz3, sz4, sz5, sz6, sz7, sz8, nc0, nc1, nc2, nc3, nc4, nc5, nc6, nc7, nc8, Nat.reduceEqDiff, Option.bind_some, Int.reduceLE, Int.reduceLT, Int.reduceEq, Int.reduceToNat, Int.reduceAdd, Int.reduceSub, Int.reduceMul, Int.reduceNeg, Nat.reduceMul, ne_eq, not_false_eq_true, not_true_eq_false, decide_true, decide_false, Bool.and_true, Bool.true_and, Bool.or_false, Bool.false_or, Bool.or_true, Bool.true_or, Bool.and_false, Bool.false_and, beq_self_eq_true, seqOf, intsOf_map, f2]
    have pa : callN Γ 40 102 [enc p, encP x] η = .ok (enc q) η := pipe_at_ok (K := 33) (η := η) g.toHPth (by omega) gp (by omega) (by omega) e1
    have la : callN Γ 40 96 [enc p, encP x] η = .ok (enc q) η := lat_ok (K := 38) g.h96 g.h94 e1
    have be : callN Γ 40 105 [enc p, encP x] η = .ok (.int (beg p x)) η := begins_ok (K := 32) g.toHPla (by omega) gp (by omega) (by omega) e1
    have se : callN Γ 40 24 [enc q, enc q] η = .ok (.bl true) η := by
      exact same_enc g.h24 η 13 39 q (by omega) (by omega) gq
    have si : callN Γ 40 24 [.int (beg p x), .int (beg p x)] η = .ok (.bl true) η := same_int (k := 39) g.h24 _
    rw [List.map_cons, f_nx (ρ1 := [s0, s1, some (enc p), s3, some (encP x), none, none, none, x8, none, none, none, s12]) (ρ2 := [s0, s1, some (enc p), s3, some (encP x), none, none, none, some (.int (beg p x)), none, none, none, s12]) (η1 := η) rfl (by
      unfold B4
      rw [xs_cons, st]
      simp -implicitDefEqProofs only [e_lit, e_var, e_glb, e_bin, e_bin1, e_bin2, e_neg, e_neg1, e_cmp, e_cmp1, e_cmp2, e_chn, e_chn1, e_chn2, e_chn3, e_chn4, e_isn, e_isn1, e_isn2, e_and, e_and1, e_and2, e_or, e_or1, e_or2, e_not, e_not1, e_ite, e_ite1, e_ite2, e_tup, e_tup1, e_lst, e_lst1, e_idx, e_idx1, e_idx2, e_slc, e_slc1, e_slc2, e_slc3, e_call, e_call1, e_prim, e_prim1, e_isi, e_isi1, e_isi2, e_meth, e_meth1, e_meth2, e_comp, e_comp1, e_tl, es_nil, es_cons, es_cons1, es_cons2, es_cons3, ep_nil, ep_cons, ep_cons1, eo_no, eo_so, eo_so1, ec_no, ec_so, ei_val, ei_val1, ei_rg, ei_rg1, ei_rg2, ei_rg3, ei_rg4, ei_enm, ei_enm1, ei_zip, ei_zip1, ei_zip2, ei_zip3, ei_rev, ei_rev1, c_nil, x_asg, x_asg1, x_asg2, x_asg3, x_par, x_par1, x_par3, x_par31, x_sub, x_sub1, x_sub2, x_sub3, x_sub4, x_sub5, x_aug, x_aug0, x_aug1, x_aug2, x_augS, x_augS1, x_augS2, x_augS3, x_augS4, x_augS5, x_ret, x_ret1, x_ret2, x_retN, x_ex, x_ex1, x_ex2, x_pass, x_brk, x_cnt, x_if, x_if1, x_if2, x_whl, x_fr, x_fr1, x_rs, x_tr, x_tr1, x_tr2, x_tr3, x_h, x_noX1, x_noX2, x_noX3, xs_nx, xs_rt, xs_bk, xs_ct, xs_ex, f_nil, t_nx, t_rt, t_exc, own_tl, own_int, own_bl, own_non, own_str, own_tup, own_ref, own_fl, xs_nil, xs_cons, start, bindT, bindTs, R.of_some, R.of_none, List.length_cons, List.length_nil, List.map_cons, List.map_nil, List.getElem?_cons_zero, List.getElem?_cons_succ, List.set_cons_zero, List.set_cons_succ, Nat.reduceAdd, Nat.reduceSub, List.cons_append, List.nil_append, List.append_nil, List.replicate, Nat.zero_add, reduceIte, Option.map_some, Option.map_none, fin_same, Bool.not_true, Bool.not_false, Bool.false_eq_true, tyD, primD, binD, sz0, sz1, sz2, sz3, sz4, sz5, sz6, sz7, sz8, nc0, nc1, nc2, nc3, nc4, nc5, nc6, nc7, nc8, Nat.reduceEqDiff, Option.bind_some, Int.reduceLE, Int.reduceLT, Int.reduceEq, Int.reduceToNat, Int.reduceAdd, Int.reduceSub, Int.reduceMul, Int.reduceNeg, Nat.reduceMul, ne_eq, not_false_eq_true, not_true_eq_false, decide_true, decide_false, Bool.and_true, Bool.true_and, Bool.or_false, Bool.false_or, Bool.or_true, Bool.true_or, Bool.and_false, Bool.false_and, beq_self_eq_true, own_enc, own_encP, pa, la, be, se, si]) hw, e]
/-- every place of one pipe -/
theorem loop5 (g : HK5 Γ) {η : Hep} {p q : Pp} {x : List Nat} (hk : dep p ≤ 5) (gp : good p) (hs : size p ≤ 14) (gq : good q) (dq : dep q ≤ dep p) (sq : size q ≤ size p) (xl : x.length ≤ 30) (e1 : at' p x = some q) {s0 s1 s3 s8 s10 s12 : Option D} (n : Nat) (hn : n = q.len + 1) :
    ∃ x5 x11, fE (callN Γ 40) B5 (.nm 5) [] (rng 0 n) [s0, s1, some (enc p), s3, some (encP x), none, none, none, s8, some (enc q), s10, none, s12] η = .nx [s0, s1, some (enc p), s3, some (encP x), x5, none, none, s8, some (enc q), s10, x11, s12] η := by
  obtain ⟨ρ', η', e, x5, x11, rfl, rfl⟩ := f_all (C := callN Γ 40) (b := B5) (t := .nm 5) (w := []) (fun i ρ η' => ∃ x5 x11, ρ = [s0, s1, some (enc p), s3, some (encP x), x5, none, none, s8, some (enc q), s10, x11, s12] ∧ η' = η) (rng 0 n) (ρ := [s0, s1, some (enc p), s3, some (encP x), none, none, none, s8, some (enc q), s10, none, s12]) (η := η) ⟨none, none, rfl, rfl⟩ (by
      rintro i y hy ρ η' ⟨x5, x11, rfl, rfl⟩
      obtain ⟨hi, rfl⟩ := rng_get0' hy
      have i0 : idxD (enc q) (.int 0) η' = some (.int (q.len : Int)) := by rw [enc_eq q, idx_tup, at0]
      have i1 : idxD (enc q) (.int 1) η' = some (sh q.wid) := by rw [enc_eq q, idx_tup, at1]
      have i2 : idxD (enc q) (.int 2) η' = some q.endD := by rw [enc_eq q, idx_tup, at2]
      have oe : own q.endD η' = .ok q.endD η' := by cases q <;> rfl
      by_cases h : 1 ≤ i ∧ i < q.len
      · have l1 : (1 : Int) ≤ (i : Int) := by omega
        have l2 : (i : Int) < (q.len : Int) := by omega
        have sb : (q.len : Int) - (i : Int) = ((q.len - i : Nat) : Int) := by omega
        have gt := good_two gq h.1 h.2
        have dt := dep_two q i
        have dp := put_dep x p (two q i)
        have c : callN Γ 40 108 [enc p, encP x, .int i] η' = .ok (enc (put p x (two q i))) η' := cut_ok (K := 31) g.toHPla (by omega) gp gq sq dq (by omega) (by omega) (by omega) e1 h.1 h.2
        have lp := lput_ok (η := η') (d := enc (two q i)) g.h97 g.h94 (own_enc _) (fun m => enc_blw m _) x 38 p q (by omega) e1 gp
        have lp : fin η' (callN Γ 40 97 [enc p, encP x, enc (two q i)] η') = .ok (putD p x (enc (two q i))) η' := lp
        rw [putD_put, enc_two] at lp
        have se : callN Γ 40 24 [enc (put p x (two q i)), enc (put p x (two q i))] η' = .ok (.bl true) η' := same_enc g.h24 η' 13 39 _ (by omega) (by omega) (put_good x p _ gp gt)
        refine ⟨_, [s0, s1, some (enc p), s3, some (encP x), some (.int i), none, none, s8, some (enc q), s10, some (enc (two q i)), s12], η', rfl, ?_, rfl, _, _, rfl, rfl⟩
        rw [enc_two]
        unfold B5
        simp -implicitDefEqProofs only [e_lit, e_var, e_glb, e_bin, e_bin1, e_bin2, e_neg, e_neg1, e_cmp, e_cmp1, e_cmp2, e_chn, e_chn1, e_chn2, e_chn3, e_chn4, e_isn, e_isn1, e_isn2, e_and, e_and1, e_and2, e_or, e_or1, e_or2, e_not, e_not1, e_ite, e_ite1, e_ite2, e_tup, e_tup1, e_lst, e_lst1, e_idx, e_idx1, e_idx2, e_slc, e_slc1, e_slc2, e_slc3, e_call, e_call1, e_prim, e_prim1, e_isi, e_isi1, e_isi2, e_meth, e_meth1, e_meth2, e_comp, e_comp1, e_tl, es_nil, es_cons, es_cons1, es_cons2, es_cons3, ep_nil, ep_cons, ep_cons1, eo_no, eo_so, eo_so1, ec_no, ec_so, ei_val, ei_val1, ei_rg, ei_rg1, ei_rg2, ei_rg3, ei_rg4, ei_enm, ei_enm1, ei_zip, ei_zip1, ei_zip2, ei_zip3, ei_rev, ei_rev1, c_nil, x_asg, x_asg1, x_asg2, x_asg3, x_par, x_par1, x_par3, x_par31, x_sub, x_sub1, x_sub2, x_sub3, x_sub4, x_sub5, x_aug, x_aug0, x_aug1, x_aug2, x_augS, x_augS1, x_augS2, x_augS3, x_augS4, x_augS5, x_ret, x_ret1, x_ret2, x_retN, x_ex, x_ex1, x_ex2, x_pass, x_brk, x_cnt, x_if, x_if1, x_if2, x_whl, x_fr, x_fr1, x_rs, x_tr, x_tr1, x_tr2, x_tr3, x_h, x_noX1, x_noX2, x_noX3, xs_nx, xs_rt, xs_bk, xs_ct, xs_ex, f_nil, t_nx, t_rt, t_exc, own_tl, own_int, own_bl, own_non, own_str, own_tup, own_ref, own_fl, xs_nil, xs_cons, start, bindT, bindTs, R.of_some, R.of_none, List.length_cons, List.length_nil, List.map_cons, List.map_nil, List.getElem?_cons_zero, List.getElem?_cons_succ, List.set_cons_zero, List.set_cons_succ, Nat.reduceAdd, Nat.reduceSub, List.cons_append, List.nil_append, List.append_nil, List.replicate, Nat.zero_add, reduceIte, Option.map_some, Option.map_none, fin_same, Bool.not_true, Bool.not_false, Bool.false_eq_true, tyD, primD, binD, sz0, sz1, sz2, sz3, sz4, sz5, sz6, sz7, sz8, nc0, nc1, nc2, nc3, nc4, nc5, nc6, nc7, nc8, Nat.reduceEqDiff, Option.bind_some, Int.reduceLE, Int.reduceLT, Int.reduceEq, Int.reduceToNat, Int.reduceAdd, Int.reduceSub, Int.reduceMul, Int.reduceNeg, Nat.reduceMul, ne_eq, not_false_eq_true, not_true_eq_false, decide_true, decide_false, Bool.and_true, Bool.true_and, Bool.or_false, Bool.false_or, Bool.or_true, Bool.true_or, Bool.and_false, Bool.false_and, beq_self_eq_true, cmpD, decide_eq_true l1, i0, decide_eq_true l2, i1, i2, own_sh, oe, sb, own_enc, own_encP, c, lp, se]
      · have cn := cut_no (K := 31) (η := η') g.toHPla (p := p) (q := q) (path := x) (a := (i : Int)) (by omega) gp (by omega) (by omega) e1 (by omega)
        have un : callN Γ 40 110 [enc p, encP x, .int i] η' = .ok (.bl true) η' := uncut_ok (K := 31) g.toHPla rfl cn
        refine ⟨_, [s0, s1, some (enc p), s3, some (encP x), some (.int i), none, none, s8, some (enc q), s10, x11, s12], η', rfl, ?_, rfl, _, _, rfl, rfl⟩
        unfold B5
        by_cases l1 : (1 : Int) ≤ (i : Int)
        · have l2 : ¬ (i : Int) < (q.len : Int) := by omega
          simp -implicitDefEqProofs only [e_lit, e_var, e_glb, e_bin, e_bin1, e_bin2, e_neg, e_neg1, e_cmp, e_cmp1, e_cmp2, e_chn, e_chn1, e_chn2, e_chn3, e_chn4, e_isn, e_isn1, e_isn2, e_and, e_and1, e_and2, e_or, e_or1, e_or2, e_not, e_not1, e_ite, e_ite1, e_ite2, e_tup, e_tup1, e_lst, e_lst1, e_idx, e_idx1, e_idx2, e_slc, e_slc1, e_slc2, e_slc3, e_call, e_call1, e_prim, e_prim1, e_isi, e_isi1, e_isi2, e_meth, e_meth1, e_meth2, e_comp, e_comp1, e_tl, es_nil, es_cons, es_cons1, es_cons2, es_cons3, ep_nil, ep_cons, ep_cons1, eo_no, eo_so, eo_so1, ec_no, ec_so, ei_val, ei_val1, ei_rg, ei_rg1, ei_rg2, ei_rg3, ei_rg4, ei_enm, ei_enm1, ei_zip, ei_zip1, ei_zip2, ei_zip3, ei_rev, ei_rev1, c_nil, x_asg, x_asg1, x_asg2, x_asg3, x_par, x_par1, x_par3, x_par31, x_sub, x_sub1, x_sub2, x_sub3, x_sub4, x_sub5, x_aug, x_aug0, x_aug1, x_aug2, x_augS, x_augS1, x_augS2, x_augS3, x_augS4, x_augS5, x_ret, x_ret1, x_ret2, x_retN, x_ex, x_ex1, x_ex2, x_pass, x_brk, x_cnt, x_if, x_if1, x_if2, x_whl, x_fr, x_fr1, x_rs, x_tr, x_tr1, x_tr2, x_tr3, x_h, x_noX1, x_noX2, x_noX3, xs_nx, xs_rt, xs_bk, xs_ct, xs_ex, f_nil, t_nx, t_rt, t_exc, own_tl, own_int, own_bl, own_non, own_str, own_tup, own_ref, own_fl, xs_nil, xs_cons, start, bindT, bindTs, R.of_some, R.of_none, List.length_cons, List.length_nil, List.map_cons, List.map_nil, List.getElem?_cons_zero, List.getElem?_cons_succ, List.set_cons_zero, List.set_cons_succ, Nat.reduceAdd, Nat.reduceSub, List.cons_append, List.nil_append, List.append_nil, List.replicate, Nat.zero_add, reduceIte, Option.map_some, Option.map_none, fin_same, Bool.not_true, Bool.not_false, Bool.false_eq_true, tyD, primD, binD, sz0, sz1, sz2, sz3, sz4, sz5, sz6, sz7, sz8, nc0, nc1, nc2, nc3, nc4, nc5, nc6, nc7, nc8, Nat.reduceEqDiff, Option.bind_some, Int.reduceLE, Int.reduceLT, Int.reduceEq, Int.reduceToNat, Int.reduceAdd, Int.reduceSub, Int.reduceMul, Int.reduceNeg, Nat.reduceMul, ne_eq, not_false_eq_true, not_true_eq_false, decide_true, decide_false, Bool.and_true, Bool.true_and, Bool.or_false, Bool.false_or, Bool.or_true, Bool.true_or, Bool.and_false, Bool.false_and, beq_self_eq_true, cmpD, decide_eq_true l1, i0, decide_eq_false l2, own_enc, own_encP, un]
        · simp -implicitDefEqProofs only [e_lit, e_var, e_glb, e_bin, e_bin1, e_bin2, e_neg, e_neg1, e_cmp, e_cmp1, e_cmp2, e_chn, e_chn1, e_chn2, e_chn3, e_chn4, e_isn, e_isn1, e_isn2, e_and, e_and1, e_and2, e_or, e_or1, e_or2, e_not, e_not1, e_ite, e_ite1, e_ite2, e_tup, e_tup1, e_lst, e_lst1, e_idx, e_idx1, e_idx2, e_slc, e_slc1, e_slc2, e_slc3, e_call, e_call1, e_prim, e_prim1, e_isi, e_isi1, e_isi2, e_meth, e_meth1, e_meth2, e_comp, e_comp1, e_tl, es_nil, es_cons, es_cons1, es_cons2, es_cons3, ep_nil, ep_cons, ep_cons1, eo_no, eo_so, eo_so1, ec_no, ec_so, ei_val, ei_val1, ei_rg, ei_rg1, ei_rg2, ei_rg3, ei_rg4, ei_enm, ei_enm1, ei_zip, ei_zip1, ei_zip2, ei_zip3, ei_rev, ei_rev1, c_nil, x_asg, x_asg1, x_asg2, x_asg3, x_par, x_par1, x_par3, x_par31, x_sub, x_sub1, x_sub2, x_sub3, x_sub4, x_sub5, x_aug, x_aug0, x_aug1, x_aug2, x_augS, x_augS1, x_augS2, x_augS3, x_augS4, x_augS5, x_ret, x_ret1, x_ret2, x_retN, x_ex, x_ex1, x_ex2, x_pass, x_brk, x_cnt, x_if, x_if1, x_if2, x_whl, x_fr, x_fr1, x_rs, x_tr, x_tr1, x_tr2, x_tr3, x_h, x_noX1, x_noX2, x_noX3, xs_nx, xs_rt, xs_bk, xs_ct, xs_ex, f_nil, t_nx, t_rt, t_exc, own_tl, own_int, own_bl, own_non, own_str, own_tup, own_ref, own_fl, xs_nil, xs_cons, start, bindT, bindTs, R.of_some, R.of_none, List.length_cons, List.length_nil, List.map_cons, List.map_nil, List.getElem?_cons_zero, List.getElem?_cons_succ, List.set_cons_zero, List.set_cons_succ, Nat.reduceAdd, Nat.reduceSub, List.cons_append, List.nil_append, List.append_nil, List.replicate, Nat.zero_add, reduceIte, Option.map_some, Option.map_none, fin_same, Bool.not_true, Bool.not_false, Bool.false_eq_true, tyD, primD, binD, sz0, sz1, sz2, sz3, sz4, sz5, sz6, sz7, sz8, nc0, nc1, nc2, nc3, nc4, nc5, nc6, nc7, nc8, Nat.reduceEqDiff, Option.bind_some, Int.reduceLE, Int.reduceLT, Int.reduceEq, Int.reduceToNat, Int.reduceAdd, Int.reduceSub, Int.reduceMul, Int.reduceNeg, Nat.reduceMul, ne_eq, not_false_eq_true, not_true_eq_false, decide_true, decide_false, Bool.and_true, Bool.true_and, Bool.or_false, Bool.false_or, Bool.or_true, Bool.true_or, Bool.and_false, Bool.false_and, beq_self_eq_true, cmpD, decide_eq_false l1, own_enc, own_encP, un])
  exact ⟨x5, x11, e⟩
end
end Ev

set_option Elab.async false
set_option linter.all false
set_option maxRecDepth 100000
/-! # k05: the law -/
namespace Ev
open Law
open Pp
section
variable {Γ : Nat → Option Fd}
theorem tpg2 {cs : List Int} {s : Int} {x : Ob} {r : Hep} : (tp cs s (x :: r))[2]? = some x := rfl
def nats (x : List Nat) : List D := x.map fun (i : Nat) => D.int (i : Int)
theorem encP_ints (x : List Nat) : encP x = .tup (nats x) := rfl
theorem loop7 (g : HK5 Γ) {η : Hep} {p : Pp} {s0 s1 s3 s4 s5 s6 s8 s9 s10 s11 s12 : Option D} : ∀ (ds : List D) (x7 : Option D), (∀ d ∈ ds, own d η = .ok d η ∧ callN Γ 40 109 [enc p, d] η = .ok (.bl true) η) →
    ∃ x7', fE (callN Γ 40) B7 (.nm 7) [] ds [s0, s1, some (enc p), s3, s4, s5, s6, x7, s8, s9, s10, s11, s12] η = .nx [s0, s1, some (enc p), s3, s4, s5, s6, x7', s8, s9, s10, s11, s12] η
  | [], x7, _ => ⟨x7, rfl⟩
  | d :: ds, x7, h => by
    obtain ⟨h1, h2⟩ := h d List.mem_cons_self
    obtain ⟨x7', e⟩ := loop7 g (p := p) (s0 := s0) (s1 := s1) (s3 := s3) (s4 := s4) (s5 := s5) (s6 := s6) (s8 := s8) (s9 := s9) (s10 := s10) (s11 := s11) (s12 := s12) ds (some d) fun d' hd' => h d' (List.mem_cons_of_mem _ hd')
    refine ⟨x7', ?_⟩
    rw [f_nx (ρ1 := [s0, s1, some (enc p), s3, s4, s5, s6, some d, s8, s9, s10, s11, s12]) (ρ2 := [s0, s1, some (enc p), s3, s4, s5, s6, some d, s8, s9, s10, s11, s12]) (η1 := η) rfl (by
      unfold B7
      simp -implicitDefEqProofs only [e_lit, e_var, e_glb, e_bin, e_bin1, e_bin2, e_neg, e_neg1, e_cmp, e_cmp1, e_cmp2, e_chn, e_chn1, e_chn2, e_chn3, e_chn4, e_isn, e_isn1, e_isn2, e_and, e_and1, e_and2, e_or, e_or1, e_or2, e_not, e_not1, e_ite, e_ite1, e_ite2, e_tup, e_tup1, e_lst, e_lst1, e_idx, e_idx1, e_idx2, e_slc, e_slc1, e_slc2, e_slc3, e_call, e_call1, e_prim, e_prim1, e_isi, e_isi1, e_isi2, e_meth, e_meth1, e_meth2, e_comp, e_comp1, e_tl, es_nil, es_cons, es_cons1, es_cons2, es_cons3, ep_nil, ep_cons, ep_cons1, eo_no, eo_so, eo_so1, ec_no, ec_so, ei_val, ei_val1, ei_rg, ei_rg1, ei_rg2, ei_rg3, ei_rg4, ei_enm, ei_enm1, ei_zip, ei_zip1, ei_zip2, ei_zip3, ei_rev, ei_rev1, c_nil, x_asg, x_asg1, x_asg2, x_asg3, x_par, x_par1, x_par3, x_par31, x_sub, x_sub1, x_sub2, x_sub3, x_sub4, x_sub5, x_aug, x_aug0, x_aug1, x_aug2, x_augS, x_augS1, x_augS2, x_augS3, x_augS4, x_augS5, x_ret, x_ret1, x_ret2, x_retN, x_ex, x_ex1, x_ex2, x_pass, x_brk, x_cnt, x_if, x_if1, x_if2, x_whl, x_fr, x_fr1, x_rs, x_tr, x_tr1, x_tr2, x_tr3, x_h, x_noX1, x_noX2, x_noX3, xs_nx, xs_rt, xs_bk, xs_ct, xs_ex, f_nil, t_nx, t_rt, t_exc, own_tl, own_int, own_bl, own_non, own_str, own_tup, own_ref, own_fl, xs_nil, xs_cons, start, bindT, bindTs, R.of_some, R.of_none, List.length_cons, List.length_nil, List.map_cons, List.map_nil, List.getElem?_cons_zero, List.getElem?_cons_succ, List.set_cons_zero, List.set_cons_succ, Nat.reduceAdd, Nat.reduceSub, List.cons_append, List.nil_append, List.append_nil, List.replicate, Nat.zero_add, reduceIte, Option.map_some, Option.map_none, fin_same, Bool.not_true, Bool.not_false, Bool.false_eq_true, tyD, primD, binD, sz0, sz1, sz2, sz3, sz4, sz5, sz6, sz7, sz8, nc0, nc1, nc2, nc3, nc4, nc5, nc6, nc7, nc8, Nat.reduceEqDiff, Option.bind_some, Int.reduceLE, Int.reduceLT, Int.reduceEq, Int.reduceToNat, Int.reduceAdd, Int.reduceSub, Int.reduceMul, Int.reduceNeg, Nat.reduceMul, ne_eq, not_false_eq_true, not_true_eq_false, decide_true, decide_false, Bool.and_true, Bool.true_and, Bool.or_false, Bool.false_or, Bool.or_true, Bool.true_or, Bool.and_false, Bool.false_and, beq_self_eq_true, own_enc, h1, h2]) rfl, e]
theorem bad_tup (g : HK5 Γ) {η : Hep} {x : List Nat} {z : D} (hz : smp z = true) (ho : okI z = false) (xl : x.length ≤ 30) (k : Nat) : callN Γ (k + 2) 101 [.tup (nats x ++ [z])] η = .ok (.bl false) η := by
  rw [is_path_gen g.h101 g.h0 (fun y hy => by
    rcases List.mem_append.mp hy with h | h
    · obtain ⟨i, _, rfl⟩ := List.mem_map.mp h; rfl
    · simp at h; subst h; exact hz) (by simp [nats]; omega)]
  simp [ho]
theorem law_k05 (g : HK5 Γ) (h112 : Γ 112 = some F112) (ns : List Int) (hl : ns.length ≤ 63) : ∃ η, callN Γ 41 112 [.fl (ns.map .int)] [] = .ok (.bl true) η := by
  have dr : HDrw Γ := ⟨g.h22, g.h25, g.h90, g.h91, g.h92⟩
  have iv : ∀ (n : Nat) (i : Int), (D.int i).blw n = true := fun _ _ => rfl
  obtain ⟨cs, s, hs, eT⟩ := tape_ok (k := 39) g.h21 ns hl
  have fT : fin [] (callN Γ 40 21 [.fl (ns.map .int)] []) = .ok (.tl [.ref 0, .int s]) [.lst (cs.map .int)] := by
    have eT' : callN Γ 40 21 [.fl (ns.map .int)] [] = _ := eT
    rw [eT']; rfl
  obtain ⟨v, c1, s1, v0, v13, hs1, e1⟩ := draw_ok (k := 39) (r := []) g.h22 (m := 13) (by decide) (by decide) (cs := cs) hs
  have e1 : callN Γ 40 22 [.ref 1, .int 13] (tp cs s []) = .ok (.int v) (tp c1 s1 []) := e1
  obtain ⟨p, c2, s2, ext, gp, sp, dp, _, hs2, eP⟩ := pipe_ok (k := 33) dr 4 true (2 + v) c1 s1 [] (by omega) (by omega) hs1
  have fP : fin (tp cs s []) (callN Γ 40 92 [.ref 1, .int (2 + v), .int 4, .bl true] (tp c1 s1 [])) = .ok (enc p) (tp c2 s2 []) := by
    have eP' : callN Γ 40 92 [.ref 1, .int (2 + v), .int 4, .bl true] (tp c1 s1 []) = _ := eP
    rw [eP']; exact fin_tpe (r := []) (enc_blw _ p)
  have sp14 : size p ≤ 14 := by omega
  have lp0 := lpaths_ok g.h95 g.h94 39 p (tp c2 s2 []) (by omega) (by omega) gp (by omega)
  obtain ⟨L, hL⟩ : ∃ L, L = (paths p).map encP := ⟨_, rfl⟩
  rw [← hL] at lp0
  have pf := paths_few p gp
  have psh : ∀ x ∈ paths p, x.length ≤ 30 := fun x hx => by have := paths_short (dep p) p (Nat.le_refl _) x hx; omega
  have pmem := mem_paths (dep p) p (Nat.le_refl _) gp
  obtain ⟨H, hH⟩ : ∃ H, H = tp c2 s2 [.lst L] := ⟨_, rfl⟩
  have al := allp_ok g.h103 g.h82 39 p H (by omega) (by omega) gp (by omega)
  rw [← hL] at al
  have sL : ∀ η, callN Γ 40 24 [.tup L, .tup L] η = .ok (.bl true) η := fun η => by rw [hL]; exact same_paths (K := 37) g.h24 _ (by omega) (fun x hx => by have := psh x hx; omega)
  have H2 : H[2]? = some (.lst L) := by rw [hH]; rfl
  have wH : watchOk H [(2, L)] = true := by simp [watchOk, H2]
  have fa : callN Γ 40 104 [enc p] H = .ok (.tup (((paths p).filter (farP p)).map encP)) H := far_ok (K := 32) g.toHPla g.h103 (by omega) (by omega) gp (by omega)
  have fc := c_filter (C := callN Γ 40) (η := H) (w := [(2, L)]) (ρ := wipe [some (.fl (ns.map .int)), some (.ref 1), some (enc p), some (.ref 2), none, none, none, none, none, none, none, none, none] [4]) (elt := .var 4) (cd := .cmp .eq (.call 94 (.cons (.call 96 (.cons (.var 2) (.cons (.var 4) .nil))) .nil)) (.tup .nil)) (t := .nm 4) wH encP encP (farP p) (paths p) [] (by
    have : (1000 : Nat) ≤ PySem.sizeLine := by decide
    simp; omega) (fun x hx => by
      obtain ⟨q, e1, e2, _, _⟩ := pmem x hx
      have la : callN Γ 40 96 [enc p, encP x] H = .ok (enc q) H := lat_ok (K := 38) g.h96 g.h94 e1
      refine ⟨_, rfl, ?_, by simp -implicitDefEqProofs only [e_lit, e_var, e_glb, e_bin, e_bin1, e_bin2, e_neg, e_neg1, e_cmp, e_cmp1, e_cmp2, e_chn, e_chn1, e_chn2, e_chn3, e_chn4, e_isn, e_isn1, e_isn2, e_and, e_and1, e_and2, e_or, e_or1, e_or2, e_not, e_not1, e_ite, e_ite1, e_ite2, e_tup, e_tup1, e_lst, e_lst1, e_idx, e_idx1, e_idx2, e_slc, e_slc1, e_slc2, e_slc3, e_call, e_call1, e_prim, e_prim1, e_isi, e_isi1, e_isi2, e_meth, e_meth1, e_meth2, e_comp, e_comp1, e_tl, es_nil, es_cons, es_cons1, es_cons2, es_cons3, ep_nil, ep_cons, ep_cons1, eo_no, eo_so, eo_so1, ec_no, ec_so, ei_val, ei_val1, ei_rg, ei_rg1, ei_rg2, ei_rg3, ei_rg4, ei_enm, ei_enm1, ei_zip, ei_zip1, ei_zip2, ei_zip3, ei_rev, ei_rev1, c_nil, x_asg, x_asg1, x_asg2, x_asg3, x_par, x_par1, x_par3, x_par31, x_sub, x_sub1, x_sub2, x_sub3, x_sub4, x_sub5, x_aug, x_aug0, x_aug1, x_aug2, x_augS, x_augS1, x_augS2, x_augS3, x_augS4, x_augS5, x_ret, x_ret1, x_ret2, x_retN, x_ex, x_ex1, x_ex2, x_pass, x_brk, x_cnt, x_if, x_if1, x_if2, x_whl, x_fr, x_fr1, x_rs, x_tr, x_tr1, x_tr2, x_tr3, x_h, x_noX1, x_noX2, x_noX3, xs_nx, xs_rt, xs_bk, xs_ct, xs_ex, f_nil, t_nx, t_rt, t_exc, own_tl, own_int, own_bl, own_non, own_str, own_tup, own_ref, own_fl, xs_nil, xs_cons, start, bindT, bindTs, R.of_some, R.of_none, List.length_cons, List.length_nil, List.map_cons, List.map_nil, List.getElem?_cons_zero, List.getElem?_cons_succ, List.set_cons_zero, List.set_cons_succ, Nat.reduceAdd, Nat.reduceSub, List.cons_append, List.nil_append, List.append_nil, List.replicate, Nat.zero_add, reduceIte, Option.map_some, Option.map_none, fin_same, Bool.not_true, Bool.not_false, Bool.false_eq_true, tyD, primD, binD, sz0, sz1, sz2, sz3, sz4, sz5, sz6, sz7, sz8, nc0, nc1, nc2, nc3, nc4, nc5, nc6, nc7, nc8, Nat.reduceEqDiff, Option.bind_some, Int.reduceLE, Int.reduceLT, Int.reduceEq, Int.reduceToNat, Int.reduceAdd, Int.reduceSub, Int.reduceMul, Int.reduceNeg, Nat.reduceMul, ne_eq, not_false_eq_true, not_true_eq_false, decide_true, decide_false, Bool.and_true, Bool.true_and, Bool.or_false, Bool.false_or, Bool.or_true, Bool.true_or, Bool.and_false, Bool.false_and, beq_self_eq_true, wipe], rfl⟩
      have fp : farP p x = q.kids.isEmpty := by simp only [farP, e1]
      rw [fp]
      simp -implicitDefEqProofs only [e_lit, e_var, e_glb, e_bin, e_bin1, e_bin2, e_neg, e_neg1, e_cmp, e_cmp1, e_cmp2, e_chn, e_chn1, e_chn2, e_chn3, e_chn4, e_isn, e_isn1, e_isn2, e_and, e_and1, e_and2, e_or, e_or1, e_or2, e_not, e_not1, e_ite, e_ite1, e_ite2, e_tup, e_tup1, e_lst, e_lst1, e_idx, e_idx1, e_idx2, e_slc, e_slc1, e_slc2, e_slc3, e_call, e_call1, e_prim, e_prim1, e_isi, e_isi1, e_isi2, e_meth, e_meth1, e_meth2, e_comp, e_comp1, e_tl, es_nil, es_cons, es_cons1, es_cons2, es_cons3, ep_nil, ep_cons, ep_cons1, eo_no, eo_so, eo_so1, ec_no, ec_so, ei_val, ei_val1, ei_rg, ei_rg1, ei_rg2, ei_rg3, ei_rg4, ei_enm, ei_enm1, ei_zip, ei_zip1, ei_zip2, ei_zip3, ei_rev, ei_rev1, c_nil, x_asg, x_asg1, x_asg2, x_asg3, x_par, x_par1, x_par3, x_par31, x_sub, x_sub1, x_sub2, x_sub3, x_sub4, x_sub5, x_aug, x_aug0, x_aug1, x_aug2, x_augS, x_augS1, x_augS2, x_augS3, x_augS4, x_augS5, x_ret, x_ret1, x_ret2, x_retN, x_ex, x_ex1, x_ex2, x_pass, x_brk, x_cnt, x_if, x_if1, x_if2, x_whl, x_fr, x_fr1, x_rs, x_tr, x_tr1, x_tr2, x_tr3, x_h, x_noX1, x_noX2, x_noX3, xs_nx, xs_rt, xs_bk, xs_ct, xs_ex, f_nil, t_nx, t_rt, t_exc, own_tl, own_int, own_bl, own_non, own_str, own_tup, own_ref, own_fl, xs_nil, xs_cons, start, bindT, bindTs, R.of_some, R.of_none, List.length_cons, List.length_nil, List.map_cons, List.map_nil, List.getElem?_cons_zero, List.getElem?_cons_succ, List.set_cons_zero, List.set_cons_succ, Nat.reduceAdd, Nat.reduceSub, List.cons_append, List.nil_append, List.append_nil, List.replicate, Nat.zero_add, reduceIte, Option.map_some, Option.map_none, fin_same, Bool.not_true, Bool.not_false, Bool.false_eq_true, tyD, primD, binD, sz0, sz1, sz2, sz3, sz4, sz5, sz6, sz7, sz8, nc0, nc1, nc2, nc3, nc4, nc5, nc6, nc7, nc8, Nat.reduceEqDiff, Option.bind_some, Int.reduceLE, Int.reduceLT, Int.reduceEq, Int.reduceToNat, Int.reduceAdd, Int.reduceSub, Int.reduceMul, Int.reduceNeg, Nat.reduceMul, ne_eq, not_false_eq_true, not_true_eq_false, decide_true, decide_false, Bool.and_true, Bool.true_and, Bool.or_false, Bool.false_or, Bool.or_true, Bool.true_or, Bool.and_false, Bool.false_and, beq_self_eq_true, wipe, own_enc, own_encP, la, lkids_ok g.h94 q (k := 39), cmpD, eqD_kids])
  rw [← hL] at fc
  have sF : ∀ η, callN Γ 40 24 [.tup (((paths p).filter (farP p)).map encP), .tup (((paths p).filter (farP p)).map encP)] η = .ok (.bl true) η := fun η => same_paths (K := 37) g.h24 _ (Nat.le_trans (List.length_filter_le _ _) (by omega)) (fun x hx => by have := psh x (List.mem_filter.mp hx).1; omega)
  obtain ⟨y4, y8, e4⟩ := loop4 g (η := H) wH (by omega) gp (by omega) (s0 := some (.fl (ns.map .int))) (s1 := some (.ref 1)) (s3 := some (.ref 2)) (s12 := none) (paths p) none none (fun x hx => by obtain ⟨q, a, b, c, _⟩ := pmem x hx; exact ⟨q, a, b, c⟩) psh
  rw [← hL] at e4
  unfold B4 at e4
  have L0 : L.length ≠ 0 := by rw [hL, paths_eq]; simp
  obtain ⟨u, c3, s3, u0, uL, hs3, eD⟩ := draw_ok (k := 38) (r := [.lst L]) g.h22 (m := (L.length : Int)) (by omega) (by rw [hL, List.length_map]; omega) (cs := c2) hs2
  have eD : callN Γ 39 22 [.ref 1, .int L.length] (tp c2 s2 [.lst L]) = .ok (.int u) (tp c3 s3 [.lst L]) := eD
  obtain ⟨k, rfl⟩ : ∃ k : Nat, u = (k : Int) := ⟨u.toNat, by omega⟩
  obtain ⟨x, hx, hxe⟩ : ∃ x ∈ paths p, at_ L (k : Int) = some (encP x) := by
    have hu : k < (paths p).length := by rw [hL, List.length_map] at uL; omega
    refine ⟨(paths p)[k], List.getElem_mem hu, ?_⟩
    rw [at_nat, hL, List.getElem?_map, List.getElem?_eq_getElem hu]; rfl
  have eK : callN Γ 40 23 [.ref 1, .ref 2] (tp c2 s2 [.lst L]) = .ok (encP x) (tp c3 s3 [.lst L]) := by
    rw [call_eq g.h23 rfl]
    simp -implicitDefEqProofs only [e_lit, e_var, e_glb, e_bin, e_bin1, e_bin2, e_neg, e_neg1, e_cmp, e_cmp1, e_cmp2, e_chn, e_chn1, e_chn2, e_chn3, e_chn4, e_isn, e_isn1, e_isn2, e_and, e_and1, e_and2, e_or, e_or1, e_or2, e_not, e_not1, e_ite, e_ite1, e_ite2, e_tup, e_tup1, e_lst, e_lst1, e_idx, e_idx1, e_idx2, e_slc, e_slc1, e_slc2, e_slc3, e_call, e_call1, e_prim, e_prim1, e_isi, e_isi1, e_isi2, e_meth, e_meth1, e_meth2, e_comp, e_comp1, e_tl, es_nil, es_cons, es_cons1, es_cons2, es_cons3, ep_nil, ep_cons, ep_cons1, eo_no, eo_so, eo_so1, ec_no, ec_so, ei_val, ei_val1, ei_rg, ei_rg1, ei_rg2, ei_rg3, ei_rg4, ei_enm, ei_enm1, ei_zip, ei_zip1, ei_zip2, ei_zip3, ei_rev, ei_rev1, c_nil, x_asg, x_asg1, x_asg2, x_asg3, x_par, x_par1, x_par3, x_par31, x_sub, x_sub1, x_sub2, x_sub3, x_sub4, x_sub5, x_aug, x_aug0, x_aug1, x_aug2, x_augS, x_augS1, x_augS2, x_augS3, x_augS4, x_augS5, x_ret, x_ret1, x_ret2, x_retN, x_ex, x_ex1, x_ex2, x_pass, x_brk, x_cnt, x_if, x_if1, x_if2, x_whl, x_fr, x_fr1, x_rs, x_tr, x_tr1, x_tr2, x_tr3, x_h, x_noX1, x_noX2, x_noX3, xs_nx, xs_rt, xs_bk, xs_ct, xs_ex, f_nil, t_nx, t_rt, t_exc, own_tl, own_int, own_bl, own_non, own_str, own_tup, own_ref, own_fl, xs_nil, xs_cons, start, bindT, bindTs, R.of_some, R.of_none, List.length_cons, List.length_nil, List.map_cons, List.map_nil, List.getElem?_cons_zero, List.getElem?_cons_succ, List.set_cons_zero, List.set_cons_succ, Nat.reduceAdd, Nat.reduceSub, List.cons_append, List.nil_append, List.append_nil, List.replicate, Nat.zero_add, reduceIte, Option.map_some, Option.map_none, fin_same, Bool.not_true, Bool.not_false, Bool.false_eq_true, tyD, primD, binD, sz0, sz1, sz2, sz3, sz4, sz5, sz6, sz7, sz8, nc0, nc1, nc2, nc3, nc4, nc5, nc6, nc7, nc8, Nat.reduceEqDiff, Option.bind_some, Int.reduceLE, Int.reduceLT, Int.reduceEq, Int.reduceToNat, Int.reduceAdd, Int.reduceSub, Int.reduceMul, Int.reduceNeg, Nat.reduceMul, ne_eq, not_false_eq_true, not_true_eq_false, decide_true, decide_false, Bool.and_true, Bool.true_and, Bool.or_false, Bool.false_or, Bool.or_true, Bool.true_or, Bool.and_false, Bool.false_and, beq_self_eq_true, F23, seqAny, seqOf, tpg2, eD, fin_tp0 (iv _ _), idxD, hxe]
  obtain ⟨q, e1x, gq, dq, sq⟩ := pmem x hx
  have xl := psh x hx
  have la : ∀ η, callN Γ 40 96 [enc p, encP x] η = .ok (enc q) η := fun η => lat_ok (K := 38) g.h96 g.h94 e1x
  obtain ⟨n, c4, s4, ext4, gn, sn, dn, _, hs4, eN⟩ := pipe_ok (k := 35) dr 2 true 5 c3 s3 [.lst L] (by omega) (by omega) hs3
  have fN : fin (tp c3 s3 [.lst L]) (callN Γ 40 92 [.ref 1, .int 5, .int 2, .bl true] (tp c3 s3 [.lst L])) = .ok (enc n) (tp c4 s4 [.lst L]) := by
    have eN' : callN Γ 40 92 [.ref 1, .int 5, .int 2, .bl true] (tp c3 s3 [.lst L]) = _ := eN
    rw [eN']; exact fin_tpe (r := [.lst L]) (enc_blw _ n)
  have pdn := put_dep x p n
  have rp : ∀ η, callN Γ 40 106 [enc p, encP x, enc n] η = .ok (enc (put p x n)) η := fun η => replaced_ok (K := 32) g.toHPth g.h106 g.h107 (by omega) (by omega) gp gn (by omega) (by omega) (by omega) e1x
  have lp : ∀ η, fin η (callN Γ 40 97 [enc p, encP x, enc n] η) = .ok (enc (put p x n)) η := fun η => by
    have := lput_ok (η := η) (d := enc n) g.h97 g.h94 (own_enc _) (fun m => enc_blw m _) x 38 p q (by omega) e1x gp
    rw [putD_put] at this; exact this
  have se : ∀ η, callN Γ 40 24 [enc (put p x n), enc (put p x n)] η = .ok (.bl true) η := fun η => same_enc g.h24 η 13 39 _ (by omega) (by omega) (put_good x p _ gp gn)
  obtain ⟨y5, y11, e5⟩ := loop5 g (η := tp c4 s4 [.lst L]) (by omega) gp sp14 gq dq sq xl e1x (s0 := some (.fl (ns.map .int))) (s1 := some (.ref 1)) (s3 := some (.ref 2)) (s8 := y8) (s10 := some (enc n)) (s12 := none) (q.len + 1) rfl
  unfold B5 at e5
  have ql : q.len ≤ 14 := by have := size_eq q; omega
  have i0 : ∀ η, idxD (enc q) (.int 0) η = some (.int (q.len : Int)) := fun η => by rw [enc_eq q, idx_tup, at0]
  have b0 : big 0 = true := rfl
  have bq : big ((q.len : Int) + 1) = true := decide_eq_true (by omega)
  have tn : ((q.len : Int) + 1).toNat = q.len + 1 := by omega
  rw [call_eq h112 rfl]
  simp -implicitDefEqProofs only [e_lit, e_var, e_glb, e_bin, e_bin1, e_bin2, e_neg, e_neg1, e_cmp, e_cmp1, e_cmp2, e_chn, e_chn1, e_chn2, e_chn3, e_chn4, e_isn, e_isn1, e_isn2, e_and, e_and1, e_and2, e_or, e_or1, e_or2, e_not, e_not1, e_ite, e_ite1, e_ite2, e_tup, e_tup1, e_lst, e_lst1, e_idx, e_idx1, e_idx2, e_slc, e_slc1, e_slc2, e_slc3, e_call, e_call1, e_prim, e_prim1, e_isi, e_isi1, e_isi2, e_meth, e_meth1, e_meth2, e_comp, e_comp1, e_tl, es_nil, es_cons, es_cons1, es_cons2, es_cons3, ep_nil, ep_cons, ep_cons1, eo_no, eo_so, eo_so1, ec_no, ec_so, ei_val, ei_val1, ei_rg, ei_rg1, ei_rg2, ei_rg3, ei_rg4, ei_enm, ei_enm1, ei_zip, ei_zip1, ei_zip2, ei_zip3, ei_rev, ei_rev1, c_nil, x_asg, x_asg1, x_asg2, x_asg3, x_par, x_par1, x_par3, x_par31, x_sub, x_sub1, x_sub2, x_sub3, x_sub4, x_sub5, x_aug, x_aug0, x_aug1, x_aug2, x_augS, x_augS1, x_augS2, x_augS3, x_augS4, x_augS5, x_ret, x_ret1, x_ret2, x_retN, x_ex, x_ex1, x_ex2, x_pass, x_brk, x_cnt, x_if, x_if1, x_if2, x_whl, x_fr, x_fr1, x_rs, x_tr, x_tr1, x_tr2, x_tr3, x_h, x_noX1, x_noX2, x_noX3, xs_nx, xs_rt, xs_bk, xs_ct, xs_ex, f_nil, t_nx, t_rt, t_exc, own_tl, own_int, own_bl, own_non, own_str, own_tup, own_ref, own_fl, xs_nil, xs_cons, start, bindT, bindTs, R.of_some, R.of_none, List.length_cons, List.length_nil, List.map_cons, List.map_nil, List.getElem?_cons_zero, List.getElem?_cons_succ, List.set_cons_zero, List.set_cons_succ, Nat.reduceAdd, Nat.reduceSub, List.cons_append, List.nil_append, List.append_nil, List.replicate, Nat.zero_add, reduceIte, Option.map_some, Option.map_none, fin_same, Bool.not_true, Bool.not_false, Bool.false_eq_true, tyD, primD, binD, sz0, sz1, sz2, sz3, sz4, sz5, sz6, sz7, sz8, nc0, nc1, nc2, nc3, nc4, nc5, nc6, nc7, nc8, Nat.reduceEqDiff, Option.bind_some, Int.reduceLE, Int.reduceLT, Int.reduceEq, Int.reduceToNat, Int.reduceAdd, Int.reduceSub, Int.reduceMul, Int.reduceNeg, Nat.reduceMul, ne_eq, not_false_eq_true, not_true_eq_false, decide_true, decide_false, Bool.and_true, Bool.true_and, Bool.or_false, Bool.false_or, Bool.or_true, Bool.true_or, Bool.and_false, Bool.false_and, beq_self_eq_true, F112, fT, show ([Ob.lst (cs.map .int)] ++ [Ob.lst [.ref 0, .int s]] : Hep) = tp cs s [] from rfl, e1, fin_tp0 (iv _ _), fP, own_enc, lp0, tpl, tpa, ← hH, al, seqAny, seqOf, H2, sL, fa, fc, watchOf, sF, e4]
  rw [hH]
  simp -implicitDefEqProofs only [e_lit, e_var, e_glb, e_bin, e_bin1, e_bin2, e_neg, e_neg1, e_cmp, e_cmp1, e_cmp2, e_chn, e_chn1, e_chn2, e_chn3, e_chn4, e_isn, e_isn1, e_isn2, e_and, e_and1, e_and2, e_or, e_or1, e_or2, e_not, e_not1, e_ite, e_ite1, e_ite2, e_tup, e_tup1, e_lst, e_lst1, e_idx, e_idx1, e_idx2, e_slc, e_slc1, e_slc2, e_slc3, e_call, e_call1, e_prim, e_prim1, e_isi, e_isi1, e_isi2, e_meth, e_meth1, e_meth2, e_comp, e_comp1, e_tl, es_nil, es_cons, es_cons1, es_cons2, es_cons3, ep_nil, ep_cons, ep_cons1, eo_no, eo_so, eo_so1, ec_no, ec_so, ei_val, ei_val1, ei_rg, ei_rg1, ei_rg2, ei_rg3, ei_rg4, ei_enm, ei_enm1, ei_zip, ei_zip1, ei_zip2, ei_zip3, ei_rev, ei_rev1, c_nil, x_asg, x_asg1, x_asg2, x_asg3, x_par, x_par1, x_par3, x_par31, x_sub, x_sub1, x_sub2, x_sub3, x_sub4, x_sub5, x_aug, x_aug0, x_aug1, x_aug2, x_augS, x_augS1, x_augS2, x_augS3, x_augS4, x_augS5, x_ret, x_ret1, x_ret2, x_retN, x_ex, x_ex1, x_ex2, x_pass, x_brk, x_cnt, x_if, x_if1, x_if2, x_whl, x_fr, x_fr1, x_rs, x_tr, x_tr1, x_tr2, x_tr3, x_h, x_noX1, x_noX2, x_noX3, xs_nx, xs_rt, xs_bk, xs_ct, xs_ex, f_nil, t_nx, t_rt, t_exc, own_tl, own_int, own_bl, own_non, own_str, own_tup, own_ref, own_fl, xs_nil, xs_cons, start, bindT, bindTs, R.of_some, R.of_none, List.length_cons, List.length_nil, List.map_cons, List.map_nil, List.getElem?_cons_zero, List.getElem?_cons_succ, List.set_cons_zero, List.set_cons_succ, Nat.reduceAdd, Nat.reduceSub, List.cons_append, List.nil_append, List.append_nil, List.replicate, Nat.zero_add, reduceIte, Option.map_some, Option.map_none, fin_same, Bool.not_true, Bool.not_false, Bool.false_eq_true, tyD, primD, binD, sz0, sz1, sz2, sz3, sz4, sz5, sz6, sz7, sz8, nc0, nc1, nc2, nc3, nc4, nc5, nc6, nc7, nc8, Nat.reduceEqDiff, Option.bind_some, Int.reduceLE, Int.reduceLT, Int.reduceEq, Int.reduceToNat, Int.reduceAdd, Int.reduceSub, Int.reduceMul, Int.reduceNeg, Nat.reduceMul, ne_eq, not_false_eq_true, not_true_eq_false, decide_true, decide_false, Bool.and_true, Bool.true_and, Bool.or_false, Bool.false_or, Bool.or_true, Bool.true_or, Bool.and_false, Bool.false_and, beq_self_eq_true, eK, fin_tp0 (encP_blw _ x), own_encP, own_enc, la, fN, rp, lp, se, i0, b0, bq, Int.sub_zero, tn, e5]
  simp only [encP_ints]
  have lk : ∀ η, callN Γ 40 94 [enc q] η = .ok (.tup (encs q.kids)) η := fun η => lkids_ok (k := 39) g.h94 q
  have nl : (nats x).length = x.length := by simp [nats]
  have slx : x.length + 1 ≤ PySem.sizeLine := by
    have : (100 : Nat) ≤ PySem.sizeLine := by decide
    omega
  obtain ⟨H6, hH6⟩ : ∃ H6, H6 = tp c4 s4 [.lst L, .lst (nats x)] := ⟨_, rfl⟩
  have wr : ∀ d, own d H6 = .ok d H6 → (∀ k, callN Γ (k + 2) 101 [d] H6 = .ok (.bl false) H6) → callN Γ 40 109 [enc p, d] H6 = .ok (.bl true) H6 := fun d od hd =>
    nowhere_ok (K := 31) g.toHPla od (pipe_at_bad (K := 31) g.toHPth (by omega) gp (by omega) od (hd 35)) (pipe_at_bad (K := 32) g.toHPth (by omega) gp (by omega) od (hd 36))
  have nx : .tup (nats x ++ [.int (q.kids.length : Int)]) = encP (x ++ [q.kids.length]) := by simp [nats, encP]
  obtain ⟨y7, e7⟩ := loop7 (Γ := Γ) g (η := H6) (p := p) (s0 := some (.fl (ns.map .int))) (s1 := some (.ref 1)) (s3 := some (.ref 2)) (s4 := some (.tup (nats x))) (s5 := y5) (s6 := some (.int (q.kids.length : Int))) (s8 := y8) (s9 := some (enc q)) (s10 := some (enc n)) (s11 := y11) (s12 := none)
    [.tup (nats x ++ [.int (q.kids.length : Int)]), .tup (nats x ++ [.int (-1)]), .tup (nats x ++ [.bl true]), .tup (nats x ++ [.non]), .ref 3, .str "0", .non] none (fun d hd => by
      simp only [List.mem_cons, List.not_mem_nil, or_false] at hd
      rcases hd with rfl | rfl | rfl | rfl | rfl | rfl | rfl
      · refine ⟨rfl, ?_⟩
        rw [nx]
        exact nowhere_ok (K := 31) g.toHPla rfl (pipe_at_no (K := 31) g.toHPth (by omega) gp (by omega) (by omega) e1x (Nat.le_refl _)) (pipe_at_no (K := 32) g.toHPth (by omega) gp (by omega) (by omega) e1x (Nat.le_refl _))
      · exact ⟨rfl, wr _ rfl fun k => bad_tup g rfl rfl xl k⟩
      · exact ⟨rfl, wr _ rfl fun k => bad_tup g rfl rfl xl k⟩
      · exact ⟨rfl, wr _ rfl fun k => bad_tup g rfl rfl xl k⟩
      · exact ⟨rfl, wr _ rfl fun k => is_path_no (K := k + 1) g.h101 rfl⟩
      · exact ⟨rfl, wr _ rfl fun k => is_path_no (K := k + 1) g.h101 rfl⟩
      · exact ⟨rfl, wr _ rfl fun k => is_path_no (K := k + 1) g.h101 rfl⟩)
  unfold B7 at e7
  have p1 : ∀ η, callN Γ 40 101 [.tup (nats x)] η = .ok (.bl true) η := fun η => is_path_ok (K := 38) (path := x) g.h101 g.h0 (by omega)
  have p2 : ∀ η, callN Γ 40 101 [.tup [.int 0, .int (-1)]] η = .ok (.bl false) η := fun η => is_path_gen (K := 38) (xs := [.int 0, .int (-1)]) g.h101 g.h0 (fun y hy => by simp only [List.mem_cons, List.not_mem_nil, or_false] at hy; rcases hy with rfl | rfl <;> rfl) (by simp)
  have p4 : ∀ η, callN Γ 40 101 [.tup [.bl true]] η = .ok (.bl false) η := fun η => is_path_gen (K := 38) (xs := [.bl true]) g.h101 g.h0 (fun y hy => by simp only [List.mem_cons, List.not_mem_nil, or_false] at hy; subst hy; rfl) (by simp)
  have p3 : fin H6 (callN Γ 40 101 [.ref H6.length] (H6 ++ [.lst [.int 0]])) = .ok (.bl false) H6 := by
    have q : callN Γ 40 101 [.ref H6.length] (H6 ++ [.lst [.int 0]]) = .ok (.bl false) (H6 ++ [.lst [.int 0]]) := is_path_no (K := 39) g.h101 rfl
    rw [q]
    exact fin_drop (η := H6) (r := [.lst [.int 0]]) rfl
  have sb : ∀ b η, callN Γ 40 24 [.bl b, .bl b] η = .ok (.bl true) η := fun b η => same_bl (K := 39) g.h24 b
  have w1 : wok 1 := ⟨by decide, B_mono B1 (by decide)⟩
  have np1 : ∀ η, callN Γ 40 111 [enc p, .tup (nats x), .tup [.int 61, sh 1, .tup [.str "shut"]]] η = .ok (.bl true) η := fun η =>
    no_pipe_ok (K := 31) (path := x) (d := .tup [.int 61, sh 1, .tup [.str "shut"]]) g.toHPla rfl (replaced_bad (K := 31) g.toHPla rfl (fun m => rfl) rfl (fun K room depth h60 => by
      have := fits_long (Γ := Γ) g.toHPip (K := K) (l := 61) (w := 1) w1 (η := η) (room := room) (depth := depth) (by omega)
      simp only [enc] at this
      exact this) (by omega) gp (by omega) (by omega) (by omega) e1x)
  have np2 : ∀ η, callN Γ 40 111 [enc p, .tup (nats x), .non] η = .ok (.bl true) η := fun η =>
    no_pipe_ok (K := 31) (path := x) (d := .non) g.toHPla rfl (replaced_bad (K := 31) g.toHPla rfl (fun m => rfl) rfl (fun K room depth h60 => fits_non (K := K + 4) g.h81) (by omega) gp (by omega) (by omega) (by omega) e1x)
  have nu : ∀ η, callN Γ 40 110 [enc p, .tup (nats x), .bl true] η = .ok (.bl true) η := fun η => uncut_ok (K := 31) (path := x) g.toHPla rfl (cut_bl (K := 31) g.toHPla (by omega) gp (by omega) (by omega) e1x)
  simp -implicitDefEqProofs only [e_lit, e_var, e_glb, e_bin, e_bin1, e_bin2, e_neg, e_neg1, e_cmp, e_cmp1, e_cmp2, e_chn, e_chn1, e_chn2, e_chn3, e_chn4, e_isn, e_isn1, e_isn2, e_and, e_and1, e_and2, e_or, e_or1, e_or2, e_not, e_not1, e_ite, e_ite1, e_ite2, e_tup, e_tup1, e_lst, e_lst1, e_idx, e_idx1, e_idx2, e_slc, e_slc1, e_slc2, e_slc3, e_call, e_call1, e_prim, e_prim1, e_isi, e_isi1, e_isi2, e_meth, e_meth1, e_meth2, e_comp, e_comp1, e_tl, es_nil, es_cons, es_cons1, es_cons2, es_cons3, ep_nil, ep_cons, ep_cons1, eo_no, eo_so, eo_so1, ec_no, ec_so, ei_val, ei_val1, ei_rg, ei_rg1, ei_rg2, ei_rg3, ei_rg4, ei_enm, ei_enm1, ei_zip, ei_zip1, ei_zip2, ei_zip3, ei_rev, ei_rev1, c_nil, x_asg, x_asg1, x_asg2, x_asg3, x_par, x_par1, x_par3, x_par31, x_sub, x_sub1, x_sub2, x_sub3, x_sub4, x_sub5, x_aug, x_aug0, x_aug1, x_aug2, x_augS, x_augS1, x_augS2, x_augS3, x_augS4, x_augS5, x_ret, x_ret1, x_ret2, x_retN, x_ex, x_ex1, x_ex2, x_pass, x_brk, x_cnt, x_if, x_if1, x_if2, x_whl, x_fr, x_fr1, x_rs, x_tr, x_tr1, x_tr2, x_tr3, x_h, x_noX1, x_noX2, x_noX3, xs_nx, xs_rt, xs_bk, xs_ct, xs_ex, f_nil, t_nx, t_rt, t_exc, own_tl, own_int, own_bl, own_non, own_str, own_tup, own_ref, own_fl, xs_nil, xs_cons, start, bindT, bindTs, R.of_some, R.of_none, List.length_cons, List.length_nil, List.map_cons, List.map_nil, List.getElem?_cons_zero, List.getElem?_cons_succ, List.set_cons_zero, List.set_cons_succ, Nat.reduceAdd, Nat.reduceSub, List.cons_append, List.nil_append, List.append_nil, List.replicate, Nat.zero_add, reduceIte, Option.map_some, Option.map_none, fin_same, Bool.not_true, Bool.not_false, Bool.false_eq_true, tyD, primD, binD, sz0, sz1, sz2, sz3, sz4, sz5, sz6, sz7, sz8, nc0, nc1, nc2, nc3, nc4, nc5, nc6, nc7, nc8, Nat.reduceEqDiff, Option.bind_some, Int.reduceLE, Int.reduceLT, Int.reduceEq, Int.reduceToNat, Int.reduceAdd, Int.reduceSub, Int.reduceMul, Int.reduceNeg, Nat.reduceMul, ne_eq, not_false_eq_true, not_true_eq_false, decide_true, decide_false, Bool.and_true, Bool.true_and, Bool.or_false, Bool.false_or, Bool.or_true, Bool.true_or, Bool.and_false, Bool.false_and, beq_self_eq_true, lk, seqAny, encs_len, nl, slx, tpl, tpa, ← hH6, watchOf, e7, p1, p2, p3, p4, sb, sh1, np1, np2, nu, own_enc, own_sh]
  exact ⟨_, rfl⟩
end
end Ev

theorem PySem.Challenge.cw_echoedtree_k05_places_in_a_pipe_holds : PySem.Challenge.rw_echoedtree_k05_places_in_a_pipe.Holds :=
  PySem.Challenge.cw_echoedtree_k05_places_in_a_pipe_of fun ns hl => Ev.law_k05 (Γ := Ev.Law.tab.Γ)
    { h0 := rfl, h1 := rfl, h60 := rfl, h69 := rfl, h79 := rfl, h80 := rfl, h81 := rfl, h82 := rfl, h100 := rfl, h101 := rfl, h102 := rfl, h103 := rfl, h104 := rfl, h105 := rfl, h106 := rfl, h107 := rfl, h108 := rfl, h109 := rfl, h110 := rfl, h111 := rfl,
      h21 := rfl, h22 := rfl, h23 := rfl, h24 := rfl, h25 := rfl, h90 := rfl, h91 := rfl, h92 := rfl, h94 := rfl, h95 := rfl, h96 := rfl, h97 := rfl } rfl ns hl
