import PyProof.Rows.All
import Wide.All
import OpenK.AllK
import Wide.FinOn
import Lean
import PySem.Challenge.RW_pq0220_01
set_option maxRecDepth 100000
set_option linter.unusedSectionVars false
set_option linter.unusedSimpArgs false
set_option linter.unusedVariables false
set_option Elab.async false
-- MA
namespace Mine
open PySem PySem.W PyProof.Rows

/-- values, apart from any heap -/
inductive V where
  | none | bool (b : Bool) | int (i : Int) | str (x : PySem.Str) | tup (l : List V) | lst (l : List V) | drw

noncomputable abbrev Cell := Option (Bool × V)
noncomputable abbrev Frm := List Cell
/-- the draws' dict, once it is made -/
noncomputable abbrev Dr := Option (Int × Int)

inductive BOp | add | sub | mul | div | mod | pow
  deriving DecidableEq
inductive COp | eq | ne | lt | le | gt | ge | is | isnot | isin
  deriving DecidableEq

mutual
inductive E
  | cnone | cbool (b : Bool) | cint (i : Int) | cstr (x : PySem.Str)
  | var (k : Nat) | bvar (k : Nat) | glob (one : Bool)
  | bin (op : BOp) (a b : E) | neg (a : E) | not (a : E)
  | bop (isAnd : Bool) (a b : E) | ite (c a b : E)
  | cmp (op : COp) (a b : E) | cmp2 (o1 o2 : COp) (a b c : E)
  | call (f : Nat) (args : EL)
  | len (a : E) | abs (a : E) | max2 (a b : E) | maxl (a : E) | suml (a : E) | copy (a : E)
  | idx (a i : E) | upto (a n : E) | revd (a : E)
  | lst (l : EL) | tup (l : EL)
  | comp (it : It) (t : Nat) (cond elt : E)
  | dget (great : Bool) (k : Nat)
inductive EL | nil | cons (e : E) (l : EL)
inductive It | rng1 (a : E) | rng2 (a b : E) | rng3 (a b : E) | enum (a : E) | rev (a : E) | seq (a : E)
end

mutual
inductive S
  | share (k : Nat) | expr (e : E) | asg (k : Nat) (e : E) | asgT (ks : List Nat) (e : E) | asg2 (ks : List Nat) (es : EL)
  | setI (k : Nat) (i e : E) | aug (k : Nat) (op : BOp) (e : E) | augI (k : Nat) (i : E) (op : BOp) (e : E)
  | swap (k : Nat) (i1 i2 e1 e2 : E) | append (k : Nat) (e : E) | pop (k : Nat) | muts (f k : Nat) (args : EL)
  | ite (c : E) (a b : SL) | whil (c : E) (b : SL) | for (ks : List Nat) (tup : Bool) (it : It) (b : SL)
  | ret (e : E) | cont | fail
  | dset (great : Bool) (k : Nat) (e : E) | asgD (k : Nat) (kd : Nat) (e1 e2 : E)
inductive SL | nil | cons (s : S) (l : SL)
end

inductive Fl | next | cont | ret (fresh : Bool) (v : V)

noncomputable def LIM : Nat := 1000000
noncomputable def BIG : Nat := 2 ^ 4096
noncomputable def mulOk (a b : Int) : Bool := Nat.blt a.natAbs BIG && Nat.blt b.natAbs BIG
noncomputable def divOk (b : Int) : Bool := Nat.blt b.natAbs BIG && decide (b ≠ 0)
noncomputable def powOk (a n : Int) : Bool := Nat.blt a.natAbs BIG && Nat.ble n.toNat 1000 && decide (0 ≤ n)

noncomputable def V.int? : V → Option Int
  | .int i => some i
  | _ => .none
noncomputable def V.bool? : V → Option Bool
  | .bool i => some i
  | _ => .none
noncomputable def V.lst? : V → Option (List V)
  | .lst l => some l
  | _ => .none
noncomputable def V.tup? : V → Option (List V)
  | .tup l => some l
  | _ => .none
noncomputable def V.isLst (x : V) : Bool := x.lst?.isSome
noncomputable def V.isNone : V → Bool
  | .none => true
  | _ => false
noncomputable def int2 {α : Type} (f : Int → Int → Option α) (a b : V) : Option α := a.int?.bind fun i => b.int?.bind fun j => f i j
noncomputable def two? : List V → Option (Int × Int)
  | [a, b] => int2 (fun i j => some (i, j)) a b
  | _ => none
noncomputable def one? : List V → Option V
  | [a] => some a
  | _ => none
noncomputable def allV {α : Type} (f : V → Option α) : List V → Option (List α)
  | [] => some []
  | x :: r => (f x).bind fun i => (allV f r).map (i :: ·)
noncomputable def V.pair? (x : V) : Option (Int × Int) := x.tup?.bind two?
noncomputable def V.opt? (x : V) : Option (Option (Int × Int)) := if x.isNone then some .none else x.pair?.map some
noncomputable abbrev intsOf : List V → Option (List Int) := allV V.int?
noncomputable abbrev pairsOf : List V → Option (List (Int × Int)) := allV V.pair?
noncomputable abbrev optsOf : List V → Option (List (Option (Int × Int))) := allV V.opt?

noncomputable def binI : BOp → Int → Int → Option Int
  | .add, a, b => some (a + b)
  | .sub, a, b => some (a - b)
  | .mul, a, b => if mulOk a b then some (a * b) else none
  | .div, a, b => if divOk b then some (a.fdiv b) else none
  | .mod, a, b => if b ≠ 0 then some (a.fmod b) else none
  | .pow, a, b => if powOk a b then some (a ^ b.toNat) else none
noncomputable def addL (l m : List V) : Option V := if l.length + m.length ≤ LIM then some (.lst (l ++ m)) else none
noncomputable def mulL (x : V) (n : Int) : Option V := if 0 ≤ n ∧ n ≤ LIM then some (.lst (List.replicate n.toNat x)) else none
noncomputable def binL : BOp → List V → V → Option V
  | .add, l, b => b.lst?.bind (addL l)
  | .mul, l, b => (one? l).bind fun x => b.int?.bind (mulL x)
  | _, _, _ => none
noncomputable def binV (o : BOp) (a b : V) : Option V := match a with
  | .int i => b.int?.bind fun j => (binI o i j).map .int
  | .lst l => binL o l b
  | _ => none

noncomputable def eqL (l m : List V) : Option Bool := if m.isEmpty then (if (pairsOf l).isSome || (intsOf l).isSome then some l.isEmpty else none)
  else (intsOf l).bind fun x => (intsOf m).map fun y => x == y
noncomputable def eqV (a b : V) : Option Bool := match a with
  | .int i => b.int?.map fun j => i == j
  | .bool i => b.bool?.map fun j => i == j
  | .lst l => b.lst?.bind (eqL l)
  | .tup l => (two? l).bind fun p => b.pair?.map fun q => p.1 == q.1 && p.2 == q.2
  | _ => none
noncomputable def isInV (a b : V) : Option Bool := match a with
  | .int i => b.lst?.bind fun l => (intsOf l).map fun x => x.contains i
  | .none => b.tup?.bind fun l => (optsOf l).map fun x => x.any Option.isNone
  | _ => none
noncomputable def cmpV (o : COp) (a b : V) : Option Bool := match o with
  | .eq => eqV a b
  | .ne => (eqV a b).map (!·)
  | .lt => int2 (fun i j => some (decide (i < j))) a b
  | .le => int2 (fun i j => some (decide (i ≤ j))) a b
  | .gt => int2 (fun i j => some (decide (i > j))) a b
  | .ge => int2 (fun i j => some (decide (i ≥ j))) a b
  | .is => if b.isNone then some a.isNone else none
  | .isnot => if b.isNone then some (!a.isNone) else none
  | .isin => isInV a b

theorem V.int?_inv {x : V} {i : Int} (h : x.int? = some i) : x = .int i := match x, h with | .int _, rfl => rfl
theorem V.bool?_inv {x : V} {i : Bool} (h : x.bool? = some i) : x = .bool i := match x, h with | .bool _, rfl => rfl
theorem V.lst?_inv {x : V} {l : List V} (h : x.lst? = some l) : x = .lst l := match x, h with | .lst _, rfl => rfl
theorem V.tup?_inv {x : V} {l : List V} (h : x.tup? = some l) : x = .tup l := match x, h with | .tup _, rfl => rfl
theorem V.isNone_inv {x : V} (h : x.isNone = true) : x = .none := match x, h with | .none, rfl => rfl
inductive BindI {α β : Type} (o : Option α) (f : α → Option β) (b : β) : Prop
  | mk (a : α) (h1 : o = some a) (h2 : f a = some b)
inductive BindP {α β γ : Type} (o : Option (α × γ)) (f : α × γ → Option β) (b : β) : Prop
  | mk (a : α) (c : γ) (h1 : o = some (a, c)) (h2 : f (a, c) = some b)
theorem bind_inv {α β : Type} {o : Option α} {f : α → Option β} {b : β} (h : o.bind f = some b) : BindI o f b := match o, h with | some _, h => ⟨_, rfl, h⟩
theorem bind2 {α β γ : Type} {o : Option (α × γ)} {f : α × γ → Option β} {b : β} (h : o.bind f = some b) : BindP o f b := match o, h with | some (_, _), h => ⟨_, _, rfl, h⟩
theorem map_inv {α β : Type} {o : Option α} {f : α → β} {b : β} (h : o.map f = some b) : ∃ a, o = some a ∧ f a = b := match o, h with | some _, rfl => ⟨_, rfl, rfl⟩
theorem if_inv {α : Type} {c : Prop} [Decidable c] {o : Option α} {b : α} (h : (if c then o else none) = some b) : c ∧ o = some b := by
  by_cases k : c
  · exact ⟨k, by rw [if_pos k] at h; exact h⟩
  · rw [if_neg k] at h; cases h
theorem if_not_inv {α : Type} {c : Prop} [Decidable c] {o : Option α} {b : α} (h : (if c then none else o) = some b) : ¬ c ∧ o = some b := by
  by_cases k : c
  · rw [if_pos k] at h; cases h
  · exact ⟨k, by rw [if_neg k] at h; exact h⟩
theorem ifs_inv {α : Type} {c : Prop} [Decidable c] {a b : α} (h : (if c then some a else none) = some b) : c ∧ a = b := let ⟨k, e⟩ := if_inv h; ⟨k, Option.some.inj e⟩
theorem int2_inv {α : Type} {f : Int → Int → Option α} {a b : V} {r : α} (h : int2 f a b = some r) : ∃ i j, a = .int i ∧ b = .int j ∧ f i j = some r :=
  let ⟨i, h1, h⟩ := bind_inv h
  let ⟨j, h2, h⟩ := bind_inv h
  ⟨i, j, V.int?_inv h1, V.int?_inv h2, h⟩
theorem two?_inv {l : List V} {p : Int × Int} (h : two? l = some p) : l = [.int p.1, .int p.2] := match l, h with
  | [_, _], h => let ⟨_, _, h1, h2, h3⟩ := int2_inv h; by cases h3; cases h1; cases h2; rfl
theorem one?_inv {l : List V} {x : V} (h : one? l = some x) : l = [x] := match l, h with | [_], rfl => rfl
theorem V.pair?_inv {x : V} {p : Int × Int} (h : x.pair? = some p) : x = .tup [.int p.1, .int p.2] :=
  let ⟨l, h1, h⟩ := bind_inv h
  by rw [V.tup?_inv h1, two?_inv h]
theorem binI_inv {o : BOp} {i : Int} {b v : V} (h : binV o (.int i) b = some v) : ∃ j k, b = .int j ∧ v = .int k ∧ binI o i j = some k :=
  let ⟨j, h1, h⟩ := bind_inv h
  let ⟨k, h2, h⟩ := map_inv h
  ⟨j, k, V.int?_inv h1, h.symm, h2⟩

noncomputable def idxV (l : List V) (i : Int) : Option V :=
  if 0 ≤ i then l[i.toNat]? else if -(l.length : Int) ≤ i then l[(i + l.length).toNat]? else none
noncomputable def uptoV (l : List V) (n : Int) : List V := if 0 ≤ n then l.take n.toNat else l.take (l.length - (-n).toNat)

noncomputable def bindT (fr : Frm) (t : Nat) (x : V) : Option Frm :=
  if t = 0 then some (fr ++ [some (false, x)]) else x.tup?.bind fun l => if l.length = t then some (fr ++ l.map fun v => some (false, v)) else none

noncomputable def consO (o : Option V) (l : List V) : List V := match o with
  | some v => v :: l
  | none => l
noncomputable def compN (f : V → Dr → Option (Option V × Dr)) : List V → Dr → Option (List V × Dr)
  | [], d => some ([], d)
  | x :: r, d => (f x d).bind fun p => (compN f r p.2).bind fun q => some (consO p.1 q.1, q.2)

noncomputable def freshF (f : Nat) : Bool := f == 30
noncomputable def freshE : E → Bool
  | .bin .. | .lst _ | .comp .. | .copy _ | .upto .. | .revd _ => true
  | .call f _ => freshF f
  | _ => false

noncomputable def setAll (fr : Frm) : List Nat → List V → Option Frm
  | [], [] => some fr
  | k :: ks, v :: vs => setAll (fr.set k (some (false, v))) ks vs
  | _, _ => none

noncomputable def bindF (tup : Bool) (fr : Frm) (ks : List Nat) (x : V) : Option Frm :=
  if tup = true then x.tup?.bind fun l => setAll fr ks l else setAll fr ks [x]
noncomputable def ownOf : Option Cell → Option (List V)
  | some (some (true, .lst l)) => some l
  | _ => none
noncomputable def setIV (c : Option Cell) (j v : V) : Option Cell :=
  (ownOf c).bind fun l => j.int?.bind fun i => if 0 ≤ i ∧ i < l.length then some (some (true, .lst (l.set i.toNat v))) else none
noncomputable def getIV (c : Option Cell) (j : V) : Option V :=
  (ownOf c).bind fun l => j.int?.bind fun i => if 0 ≤ i then (l[i.toNat]?).bind fun x => x.int?.map .int else none
theorem ownOf_inv {c : Option Cell} {l : List V} (h : ownOf c = some l) : c = some (some (true, .lst l)) := match c, h with | some (some (true, .lst _)), rfl => rfl
inductive GetI (cl : Option Cell) (j xv : V) : Prop
  | mk (l : List V) (i x0 : Int) (h1 : cl = some (some (true, .lst l))) (h2 : j = .int i) (h3 : 0 ≤ i) (h4 : l[i.toNat]? = some (.int x0)) (h5 : xv = .int x0)
inductive SetI (cl : Option Cell) (j v : V) (c2 : Cell) : Prop
  | mk (l : List V) (i : Int) (h1 : cl = some (some (true, .lst l))) (h2 : j = .int i) (h3 : 0 ≤ i ∧ i < l.length) (h4 : some (true, .lst (l.set i.toNat v)) = c2)
theorem getIV_inv {cl : Option Cell} {j xv : V} (e : getIV cl j = some xv) : GetI cl j xv := by
  obtain ⟨l, h1, e1⟩ := bind_inv e
  obtain ⟨i, h2, e2⟩ := bind_inv e1
  obtain ⟨h3, e3⟩ := if_inv e2
  obtain ⟨v, h4, e4⟩ := bind_inv e3
  obtain ⟨x0, h5, h6⟩ := map_inv e4
  cases V.int?_inv h5
  exact ⟨l, i, x0, ownOf_inv h1, V.int?_inv h2, h3, h4, h6.symm⟩
theorem setIV_inv {cl : Option Cell} {j v : V} {c2 : Cell} (e : setIV cl j v = some c2) : SetI cl j v c2 := by
  obtain ⟨l, h1, e1⟩ := bind_inv e
  obtain ⟨i, h2, e2⟩ := bind_inv e1
  obtain ⟨h3, e3⟩ := ifs_inv e2
  exact ⟨l, i, ownOf_inv h1, V.int?_inv h2, h3, e3⟩

theorem ownOf_own (l : List V) : ownOf (some (some (true, .lst l))) = some l := rfl
theorem binV_int (o : BOp) (i j : Int) : binV o (.int i) (.int j) = (binI o i j).map .int := rfl
theorem binI_add (i j : Int) : binI .add i j = some (i + j) := rfl
theorem int?_int (i : Int) : (V.int i).int? = some i := rfl
theorem bindE {α β : Type} {o : Option α} {f : α → Option β} {x : α} (h : o = some x) : o.bind f = f x := by rw [h]; rfl
structure Env0 where
  call : Nat → List V → Dr → Option (V × Dr)
  muts : Nat → List V → List V → Dr → Option (List V × Dr)

noncomputable def varOf : Option Cell → Option V
  | some (some (false, v)) => some v
  | _ => none
noncomputable def anyOf : Option Cell → Option V
  | some (some (_, v)) => some v
  | _ => none
noncomputable def drwOf : Option Cell → Option Bool
  | some (some (b, .drw)) => some b
  | _ => none
noncomputable def V.seq? : V → Option (List V)
  | .lst l => some l
  | .tup l => if l.length ≤ LIM then some l else .none
  | _ => .none
noncomputable def V.items? : V → Option (List V)
  | .lst l => some l
  | .tup l => some l
  | _ => .none
noncomputable def maxOf : List Int → Option Int
  | [] => none
  | i :: r => some (r.foldl (fun m j => if j > m then j else m) i)
noncomputable def Fl.goes : Fl → Bool
  | .ret .. => false
  | _ => true

section
variable (Γ : Env0)
mutual
noncomputable def evE : E → Frm → Dr → Option (V × Dr)
  | .cnone, _, d => some (.none, d)
  | .cbool b, _, d => some (.bool b, d)
  | .cint i, _, d => some (.int i, d)
  | .cstr x, _, d => some (.str x, d)
  | .var k, fr, d => (varOf fr[k]?).bind fun v => some (v, d)
  | .bvar k, fr, d => (anyOf fr[k]?).bind fun v => some (v, d)
  | .glob one, _, d => some (.tup [.int (if one then 1 else 0), .int 1], d)
  | .bin op a b, fr, d => (evE a fr d).bind fun p => (evE b fr p.2).bind fun q => (binV op p.1 q.1).bind fun v => some (v, q.2)
  | .neg a, fr, d => (evE a fr d).bind fun p => p.1.int?.bind fun i => some (.int (-i), p.2)
  | .not a, fr, d => (evE a fr d).bind fun p => p.1.bool?.bind fun b => some (.bool (!b), p.2)
  | .bop isAnd a b, fr, d => (evE a fr d).bind fun p => p.1.bool?.bind fun x => if x = isAnd then evE b fr p.2 else some (.bool x, p.2)
  | .ite c a b, fr, d => (evE c fr d).bind fun p => p.1.bool?.bind fun t => if t = true then evE a fr p.2 else evE b fr p.2
  | .cmp op a b, fr, d => (evE a fr d).bind fun p => (evE b fr p.2).bind fun q => (cmpV op p.1 q.1).bind fun v => some (.bool v, q.2)
  | .cmp2 o1 o2 a b c, fr, d => (evE a fr d).bind fun p => (evE b fr p.2).bind fun q => (cmpV o1 p.1 q.1).bind fun t =>
      if t = true then (evE c fr q.2).bind fun u => (cmpV o2 q.1 u.1).bind fun v => some (.bool v, u.2) else some (.bool false, q.2)
  | .call f args, fr, d => (evL args fr d).bind fun p => Γ.call f p.1 p.2
  | .len a, fr, d => (evE a fr d).bind fun p => p.1.lst?.bind fun l => some (.int l.length, p.2)
  | .abs a, fr, d => (evE a fr d).bind fun p => p.1.int?.bind fun i => some (.int (if i < 0 then -i else i), p.2)
  | .max2 a b, fr, d => (evE a fr d).bind fun p => (evE b fr p.2).bind fun q => (int2 (fun i j => some (if j > i then j else i)) p.1 q.1).bind fun m => some (.int m, q.2)
  | .maxl a, fr, d => (evE a fr d).bind fun p => p.1.lst?.bind fun l => (intsOf l).bind fun ns => (maxOf ns).bind fun m => some (.int m, p.2)
  | .suml a, fr, d => (evE a fr d).bind fun p => p.1.lst?.bind fun l => (intsOf l).bind fun ns => some (.int ns.sum, p.2)
  | .copy a, fr, d => (evE a fr d).bind fun p => p.1.lst?.bind fun l => some (.lst l, p.2)
  | .idx a i, fr, d => (evE a fr d).bind fun p => (evE i fr p.2).bind fun q => p.1.seq?.bind fun l => q.1.int?.bind fun j => (idxV l j).bind fun v => some (v, q.2)
  | .upto a n, fr, d => (evE a fr d).bind fun p => (evE n fr p.2).bind fun q => p.1.lst?.bind fun l => q.1.int?.bind fun j => some (.lst (uptoV l j), q.2)
  | .revd a, fr, d => (evE a fr d).bind fun p => p.1.lst?.bind fun l => some (.lst l.reverse, p.2)
  | .lst l, fr, d => (evL l fr d).bind fun p => some (.lst p.1, p.2)
  | .tup l, fr, d => (evL l fr d).bind fun p => some (.tup p.1, p.2)
  | .comp it t cond elt, fr, d => (evI it fr d).bind fun p => (compN (fun x d => (bindT fr t x).bind fun fr' => (evE cond fr' d).bind fun u => u.1.bool?.bind fun b =>
      if b = true then (evE elt fr' u.2).bind fun w => some (some w.1, w.2) else some (none, u.2)) p.1 p.2).bind fun q => some (.lst q.1, q.2)
  | .dget great k, fr, d => (drwOf fr[k]?).bind fun _ => d.bind fun p => some (.int (if great then p.1 else p.2), some p)
noncomputable def evL : EL → Frm → Dr → Option (List V × Dr)
  | .nil, _, d => some ([], d)
  | .cons e l, fr, d => (evE e fr d).bind fun p => (evL l fr p.2).bind fun q => some (p.1 :: q.1, q.2)
noncomputable def evI : It → Frm → Dr → Option (List V × Dr)
  | .rng1 a, fr, d => (evE a fr d).bind fun p => p.1.int?.bind fun n => if -LIM ≤ n ∧ n ≤ LIM then some ((List.range n.toNat).map fun (i : Nat) => V.int i, p.2) else none
  | .rng2 a b, fr, d => (evE a fr d).bind fun p => (evE b fr p.2).bind fun q => (int2 (fun i j =>
      if 0 ≤ i ∧ i ≤ LIM ∧ -LIM ≤ j ∧ j ≤ LIM then some ((List.range (j - i).toNat).map fun (n : Nat) => V.int (i + n)) else none) p.1 q.1).bind fun l => some (l, q.2)
  | .rng3 a b, fr, d => (evE a fr d).bind fun p => (evE b fr p.2).bind fun q => (int2 (fun i j =>
      if i ≤ LIM ∧ -1 ≤ j ∧ -1 ≤ i ∧ j ≤ LIM ∧ i - j ≤ LIM then some ((List.range (i - j).toNat).map fun (n : Nat) => V.int (i - n)) else none) p.1 q.1).bind fun l => some (l, q.2)
  | .enum a, fr, d => (evE a fr d).bind fun p => p.1.lst?.bind fun l => some (l.mapIdx fun i x => V.tup [.int i, x], p.2)
  | .rev a, fr, d => (evE a fr d).bind fun p => p.1.lst?.bind fun l => some (l.reverse, p.2)
  | .seq a, fr, d => (evE a fr d).bind fun p => p.1.seq?.bind fun l => some (l, p.2)
end

noncomputable def whileN (c : Frm → Dr → Option (V × Dr)) (b : Frm → Dr → Option (Fl × Frm × Dr)) : Nat → Frm → Dr → Option (Fl × Frm × Dr)
  | 0, _, _ => none
  | n + 1, fr, d => (c fr d).bind fun p => p.1.bool?.bind fun t => if t = true then (b fr p.2).bind fun q => if q.1.goes = true then whileN c b n q.2.1 q.2.2 else some q else some (.next, fr, p.2)
noncomputable def forN (b : V → Frm → Dr → Option (Fl × Frm × Dr)) : List V → Frm → Dr → Option (Fl × Frm × Dr)
  | [], fr, d => some (.next, fr, d)
  | x :: r, fr, d => (b x fr d).bind fun q => if q.1.goes = true then forN b r q.2.1 q.2.2 else some q

noncomputable def set2 (fr : Frm) : List Nat → EL → List V → Option Frm
  | [], .nil, [] => some fr
  | k :: ks, .cons e es, v :: vs => set2 (fr.set k (some (freshE e && v.isLst, v))) ks es vs
  | _, _, _ => none

mutual
noncomputable def exS (wf : Nat) : S → Frm → Dr → Option (Fl × Frm × Dr)
  | .share k, fr, d => (anyOf fr[k]?).bind fun v => some (.next, fr.set k (some (false, v)), d)
  | .expr e, fr, d => (evE Γ e fr d).bind fun p => if p.1.isNone = true then some (.next, fr, p.2) else none
  | .asg k e, fr, d => (evE Γ e fr d).bind fun p => some (.next, fr.set k (some (freshE e && p.1.isLst, p.1)), p.2)
  | .asgT ks e, fr, d => (evE Γ e fr d).bind fun p => p.1.items?.bind fun l => (setAll fr ks l).bind fun fr' => some (.next, fr', p.2)
  | .asg2 ks es, fr, d => (evL Γ es fr d).bind fun p => (set2 fr ks es p.1).bind fun fr' => some (.next, fr', p.2)
  | .setI k i e, fr, d => (evE Γ e fr d).bind fun p => (evE Γ i fr p.2).bind fun q => (setIV fr[k]? q.1 p.1).bind fun c => some (.next, fr.set k c, q.2)
  | .swap k i1 i2 e1 e2, fr, d => (evE Γ e1 fr d).bind fun p1 => (evE Γ e2 fr p1.2).bind fun p2 => (evE Γ i1 fr p2.2).bind fun q1 => (setIV fr[k]? q1.1 p1.1).bind fun c1 =>
      (evE Γ i2 (fr.set k c1) q1.2).bind fun q2 => (setIV (some c1) q2.1 p2.1).bind fun c2 => some (.next, fr.set k c2, q2.2)
  | .aug k op e, fr, d => (varOf fr[k]?).bind fun x => x.int?.bind fun i => (evE Γ e fr d).bind fun p => (binV op (.int i) p.1).bind fun z => some (.next, fr.set k (some (false, z)), p.2)
  | .augI k i op e, fr, d => (evE Γ i fr d).bind fun p => (getIV fr[k]? p.1).bind fun x => (evE Γ e fr p.2).bind fun q => (binV op x q.1).bind fun z => (setIV fr[k]? p.1 z).bind fun c => some (.next, fr.set k c, q.2)
  | .append k e, fr, d => (evE Γ e fr d).bind fun p => (ownOf fr[k]?).bind fun l => if l.length < LIM then some (.next, fr.set k (some (true, .lst (l ++ [p.1]))), p.2) else none
  | .pop k, fr, d => (ownOf fr[k]?).bind fun l => l.getLast?.bind fun v => v.int?.bind fun _ => some (.next, fr.set k (some (true, .lst l.dropLast)), d)
  | .muts f k args, fr, d => (evL Γ args fr d).bind fun p => (ownOf fr[k]?).bind fun l => (Γ.muts f l p.1 p.2).bind fun q => some (.next, fr.set k (some (true, .lst q.1)), q.2)
  | .ite c a b, fr, d => (evE Γ c fr d).bind fun p => p.1.bool?.bind fun t => if t = true then exL wf a fr p.2 else exL wf b fr p.2
  | .whil c b, fr, d => whileN (evE Γ c) (exL wf b) wf fr d
  | .for ks tup it b, fr, d => (evI Γ it fr d).bind fun p => forN (fun x fr d => (bindF tup fr ks x).bind fun fr' => exL wf b fr' d) p.1 fr p.2
  | .ret e, fr, d => (evE Γ e fr d).bind fun p => some (.ret (freshE e && p.1.isLst) p.1, fr, p.2)
  | .cont, fr, d => some (.cont, fr, d)
  | .fail, _, _ => none
  | .dset great k e, fr, d => (evE Γ e fr d).bind fun p => (drwOf fr[k]?).bind fun _ => p.1.int?.bind fun i => p.2.bind fun g => some (.next, fr, some (if great then (i, g.2) else (g.1, i)))
  | .asgD k kd e1 e2, fr, d => (evE Γ e1 fr d).bind fun p => (evE Γ e2 fr p.2).bind fun q => (drwOf fr[kd]?).bind fun _ => q.1.int?.bind fun i => q.2.bind fun g =>
      some (.next, fr.set k (some (freshE e1 && p.1.isLst, p.1)), some (i, g.2))
noncomputable def exL (wf : Nat) : SL → Frm → Dr → Option (Fl × Frm × Dr)
  | .nil, fr, d => some (.next, fr, d)
  | .cons s l, fr, d => (exS wf s fr d).bind fun q => match q.1 with
    | .next => exL wf l q.2.1 q.2.2
    | _ => some q
end
end

theorem varOf_inv {c : Option Cell} {v : V} (h : varOf c = some v) : c = some (some (false, v)) := match c, h with | some (some (false, _)), rfl => rfl
theorem anyOf_inv {c : Option Cell} {v : V} (h : anyOf c = some v) : ∃ b, c = some (some (b, v)) := match c, h with | some (some (_, _)), rfl => ⟨_, rfl⟩
theorem drwOf_inv {c : Option Cell} {b : Bool} (h : drwOf c = some b) : c = some (some (b, .drw)) := match c, h with | some (some (_, .drw)), rfl => rfl
theorem V.seq?_inv {x : V} {l : List V} (h : x.seq? = some l) : x = .lst l ∨ x = .tup l ∧ l.length ≤ LIM := match x, h with
  | .lst _, rfl => .inl rfl
  | .tup _, h => let ⟨k, e⟩ := ifs_inv h; .inr (by cases e; exact ⟨rfl, k⟩)
theorem V.items?_inv {x : V} {l : List V} (h : x.items? = some l) : x = .lst l ∨ x = .tup l := match x, h with
  | .lst _, rfl => .inl rfl
  | .tup _, rfl => .inr rfl
end Mine
-- MB
namespace Mine
open PySem PySem.W PyProof.Rows

noncomputable abbrev OSeq (o : Obj) : Prop := ∃ xs n, o.data = .seq xs n
noncomputable abbrev PL (h : Heap) (a : Addr) (items : Array Value) : Prop := h.PlainList a items

theorem PL.isList {h : Heap} {a : Addr} {items : Array Value} (x : PL h a items) : h.IsList a items := let ⟨n, e⟩ := x; ⟨_, e, rfl, n, rfl⟩

mutual
inductive Rep (d0 : Addr) (h : Heap) (W : Addr → Prop) : Value → V → Prop
  | none : Rep d0 h W .none .none
  | bool (b : Bool) : Rep d0 h W (.bool b) (.bool b)
  | int (i : Int) (t : Tok) : Rep d0 h W (.int i t) (.int i)
  | str (x : PySem.Str) (t : Tok) : Rep d0 h W (.str x t) (.str x)
  | tup {a : Addr} {items : Array Value} {l : List V} : IsTup h a items → ¬ W a → Reps d0 h W items.toList l → Rep d0 h W (.ref a) (.tup l)
  | lst {a : Addr} {items : Array Value} {l : List V} : PL h a items → ¬ W a → l.length ≤ LIM → Reps d0 h W items.toList l → Rep d0 h W (.ref a) (.lst l)
  | drw : Rep d0 h W (.ref d0) .drw
inductive Reps (d0 : Addr) (h : Heap) (W : Addr → Prop) : List Value → List V → Prop
  | nil : Reps d0 h W [] []
  | cons {v : Value} {vs : List Value} {x : V} {l : List V} : Rep d0 h W v x → Reps d0 h W vs l → Reps d0 h W (v :: vs) (x :: l)
end

section
variable {d0 : Addr} {h h' : Heap} {W W' : Addr → Prop}
mutual
theorem Rep.mono (k : ∀ b o, h.get? b = some o → OSeq o → ¬ W b → h'.get? b = some o ∧ ¬ W' b) : ∀ {v : Value} {x : V}, Rep d0 h W v x → Rep d0 h' W' v x
  | _, _, .none => .none
  | _, _, .bool b => .bool b
  | _, _, .int i t => .int i t
  | _, _, .str x t => .str x t
  | _, _, .tup ht hw r => by
    obtain ⟨o, e, hc, n, hd⟩ := ht
    obtain ⟨e', hw'⟩ := k _ o e ⟨_, _, hd⟩ hw
    exact .tup ⟨o, e', hc, n, hd⟩ hw' (Reps.mono k r)
  | _, _, .lst hl hw hm r => by
    obtain ⟨n, e⟩ := hl
    obtain ⟨e', hw'⟩ := k _ _ e ⟨_, _, rfl⟩ hw
    exact .lst ⟨n, e'⟩ hw' hm (Reps.mono k r)
  | _, _, .drw => .drw
theorem Reps.mono (k : ∀ b o, h.get? b = some o → OSeq o → ¬ W b → h'.get? b = some o ∧ ¬ W' b) : ∀ {vs : List Value} {l : List V}, Reps d0 h W vs l → Reps d0 h' W' vs l
  | _, _, .nil => .nil
  | _, _, .cons a r => .cons (Rep.mono k a) (Reps.mono k r)
end

variable {vs ws : List Value} {l m : List V} {v : Value} {x : V}
theorem Rep.int_of {i : Int} (r : Rep d0 h W v (.int i)) : ∃ t, v = .int i t := by cases r; exact ⟨_, rfl⟩
theorem Rep.bool_of {i : Bool} (r : Rep d0 h W v (.bool i)) : v = .bool i := by cases r; rfl
theorem Rep.none_of (r : Rep d0 h W v .none) : v = .none := by cases r; rfl
inductive LstOf (d0 : Addr) (h : Heap) (W : Addr → Prop) (v : Value) (l : List V) : Prop
  | mk (a : Addr) (items : Array Value) (h1 : v = .ref a) (h2 : PL h a items) (h3 : ¬ W a) (h4 : l.length ≤ LIM) (h5 : Reps d0 h W items.toList l)
inductive TupOf (d0 : Addr) (h : Heap) (W : Addr → Prop) (v : Value) (l : List V) : Prop
  | mk (a : Addr) (items : Array Value) (h1 : v = .ref a) (h2 : IsTup h a items) (h3 : ¬ W a) (h5 : Reps d0 h W items.toList l)
theorem Rep.lst_of (r : Rep d0 h W v (.lst l)) : LstOf d0 h W v l := by cases r; exact ⟨_, _, rfl, by assumption, by assumption, by assumption, by assumption⟩
theorem Rep.tup_of (r : Rep d0 h W v (.tup l)) : TupOf d0 h W v l := by cases r; exact ⟨_, _, rfl, by assumption, by assumption, by assumption⟩
theorem Reps.nil_of (r : Reps d0 h W vs []) : vs = [] := by cases r; rfl
theorem Reps.cons_of (r : Reps d0 h W vs (x :: l)) : ∃ v ws, vs = v :: ws ∧ Rep d0 h W v x ∧ Reps d0 h W ws l := by cases r; exact ⟨_, _, rfl, by assumption, by assumption⟩
/-- an induction over lists that stand for lists -/
theorem Reps.indL {P : List Value → List V → Prop} (h0 : P [] []) (h1 : ∀ v vs x l, Rep d0 h W v x → Reps d0 h W vs l → P vs l → P (v :: vs) (x :: l)) : ∀ (l : List V) (vs : List Value), Reps d0 h W vs l → P vs l := by
  intro l
  induction l with
  | nil => intro vs r; rw [r.nil_of]; exact h0
  | cons x l ih =>
    intro vs r
    obtain ⟨v, ws, rfl, a, q⟩ := r.cons_of
    exact h1 _ _ _ _ a q (ih _ q)
theorem Reps.length (r : Reps d0 h W vs l) : vs.length = l.length :=
  Reps.indL (P := fun vs l => vs.length = l.length) rfl (fun _ _ _ _ _ _ e => congrArg (· + 1) e) l vs r
theorem Reps.get (r : Reps d0 h W vs l) {k : Nat} {x : V} (e : l[k]? = some x) : ∃ v, vs[k]? = some v ∧ Rep d0 h W v x :=
  Reps.indL (P := fun vs l => ∀ (k : Nat) (x : V), l[k]? = some x → ∃ v, vs[k]? = some v ∧ Rep d0 h W v x) (fun _ _ e => by cases e)
    (fun v _ _ _ a _ ih k y e => by
      cases k with
      | zero => cases e; exact ⟨v, rfl, a⟩
      | succ k => exact ih k y e) l vs r k x e
theorem Reps.append (r : Reps d0 h W vs l) (q : Reps d0 h W ws m) : Reps d0 h W (vs ++ ws) (l ++ m) :=
  Reps.indL (P := fun vs l => Reps d0 h W (vs ++ ws) (l ++ m)) q (fun _ _ _ _ a _ e => .cons a e) l vs r
theorem Reps.one (a : Rep d0 h W v x) : Reps d0 h W [v] [x] := .cons a .nil
theorem Reps.take (r : Reps d0 h W vs l) (k : Nat) : Reps d0 h W (vs.take k) (l.take k) :=
  Reps.indL (P := fun vs l => ∀ k, Reps d0 h W (vs.take k) (l.take k)) (fun k => by rw [List.take_nil, List.take_nil]; exact .nil)
    (fun _ _ _ _ a _ ih k => by
      cases k with
      | zero => exact .nil
      | succ k => exact .cons a (ih k)) l vs r k
theorem Reps.reverse (r : Reps d0 h W vs l) : Reps d0 h W vs.reverse l.reverse :=
  Reps.indL (P := fun vs l => Reps d0 h W vs.reverse l.reverse) .nil (fun _ _ _ _ a _ e => by rw [List.reverse_cons, List.reverse_cons]; exact e.append (.one a)) l vs r
theorem Reps.replicate (a : Rep d0 h W v x) : ∀ n, Reps d0 h W (List.replicate n v) (List.replicate n x)
  | 0 => .nil
  | n + 1 => .cons a (Reps.replicate a n)
theorem Reps.set (r : Reps d0 h W vs l) (q : Rep d0 h W v x) (k : Nat) : Reps d0 h W (vs.set k v) (l.set k x) :=
  Reps.indL (P := fun vs l => ∀ k, Reps d0 h W (vs.set k v) (l.set k x)) (fun _ => .nil)
    (fun _ _ _ _ a r ih k => by
      cases k with
      | zero => exact .cons q r
      | succ k => exact .cons a (ih k)) l vs r k
theorem Reps.dropLast {vs : List Value} {l : List V} (r : Reps d0 h W vs l) : Reps d0 h W vs.dropLast l.dropLast := by
  rw [List.dropLast_eq_take, List.dropLast_eq_take, r.length]; exact r.take _
theorem Reps.ints {ns : List Int} (r : Reps d0 h W vs l) (e : intsOf l = some ns) : IntsAre vs ns :=
  Reps.indL (P := fun vs l => ∀ ns, intsOf l = some ns → IntsAre vs ns) (fun _ e => by cases e; exact .nil)
    (fun _ _ _ _ a _ ih ns e => by
      obtain ⟨i, e1, e⟩ := bind_inv e
      obtain ⟨ns, e2, rfl⟩ := map_inv e
      cases V.int?_inv e1
      obtain ⟨t, rfl⟩ := a.int_of
      exact .cons i t (ih _ e2)) l vs r ns e
end

/-- the state goes on: only the draws' dict of all that stood may have turned -/
noncomputable def Aft (d0 : Addr) (s s' : Shared) : Prop := (∃ h' tk, s' = { s with heap := h', toks := tk }) ∧ ∀ b o, s.heap.get? b = some o → b ≠ d0 → s'.heap.get? b = some o
theorem Aft.refl (d0 : Addr) (s : Shared) : Aft d0 s s := ⟨⟨_, _, rfl⟩, fun _ _ e _ => e⟩
theorem Aft.trans {d0 : Addr} {s s' s'' : Shared} (x : Aft d0 s s') (y : Aft d0 s' s'') : Aft d0 s s'' := by
  obtain ⟨⟨h1, t1, rfl⟩, k1⟩ := x
  obtain ⟨⟨h2, t2, rfl⟩, k2⟩ := y
  exact ⟨⟨h2, t2, rfl⟩, fun b o e hb => k2 b o (k1 b o e hb) hb⟩
theorem Aft.tok {d0 : Addr} {s : Shared} {t : Nat} : Aft d0 s { s with toks := t } := ⟨⟨_, _, rfl⟩, fun _ _ e _ => e⟩
theorem Aft.of {d0 : Addr} {s : Shared} {h' : Heap} {t : Nat} (k : ∀ b o, s.heap.get? b = some o → h'.get? b = some o) : Aft d0 s { s with heap := h', toks := t } := ⟨⟨_, _, rfl⟩, fun b o e _ => k b o e⟩
theorem Aft.push {d0 : Addr} {s : Shared} {o : Obj} {t : Nat} : Aft d0 s { s with heap := s.heap.push o, toks := t } := Aft.of fun _ _ e => Heap.get?_push_of_some _ e

structure Cx where
  prog : Program
  w : World
  mg : PySem.Str → Option Value
  mb : PySem.Str → Option Value
  top : Heap
  d0 : Addr
  o0 : Obj

/-- the draws' dict, once it is made; before, d0 is a place that stays as it is -/
noncomputable def DRel (C : Cx) (h : Heap) : Dr → Prop
  | none => h.get? C.d0 = some C.o0 ∧ ¬ OSeq C.o0
  | some p => ∃ t u, h.DictOf (strKind C.prog C.w) C.d0 [(("great" : PySem.Str), .int p.1 t), (("mixed" : PySem.Str), .int p.2 u)]
theorem DRel.keep {C : Cx} {h h' : Heap} {d : Dr} (x : DRel C h d) (k : ∀ b o, h.get? b = some o → h'.get? b = some o) : DRel C h' d := by
  cases d with
  | none => exact ⟨k _ _ x.1, x.2⟩
  | some p => obtain ⟨t, u, q⟩ := x; exact ⟨t, u, q.keep k⟩

end Mine
-- MC
namespace Mine
open PySem PySem.W PyProof.Rows

/-- all that stood stands -/
noncomputable def AftK (s s' : Shared) : Prop := (∃ h' tk, s' = { s with heap := h', toks := tk }) ∧ ∀ b o, s.heap.get? b = some o → s'.heap.get? b = some o
theorem AftK.refl (s : Shared) : AftK s s := ⟨⟨_, _, rfl⟩, fun _ _ e => e⟩
theorem AftK.tok {s : Shared} {t : Nat} : AftK s { s with toks := t } := ⟨⟨_, _, rfl⟩, fun _ _ e => e⟩
theorem AftK.of {s : Shared} {h' : Heap} {t : Nat} (k : ∀ b o, s.heap.get? b = some o → h'.get? b = some o) : AftK s { s with heap := h', toks := t } := ⟨⟨_, _, rfl⟩, fun b o e => k b o e⟩
theorem AftK.push {s : Shared} {o : Obj} {t : Nat} : AftK s { s with heap := s.heap.push o, toks := t } := AftK.of fun _ _ e => Heap.get?_push_of_some _ e
theorem AftK.trans {s s' s'' : Shared} (x : AftK s s') (y : AftK s' s'') : AftK s s'' := by
  obtain ⟨⟨h1, t1, rfl⟩, k1⟩ := x
  obtain ⟨⟨h2, t2, rfl⟩, k2⟩ := y
  exact ⟨⟨h2, t2, rfl⟩, fun b o e => k2 b o (k1 b o e)⟩
theorem AftK.aft {s s' : Shared} (x : AftK s s') (d0 : Addr) : Aft d0 s s' := ⟨x.1, fun b o e _ => x.2 b o e⟩
theorem AftK.dr {C : Cx} {s s' : Shared} {d : Dr} (x : AftK s s') (h : DRel C s.heap d) : DRel C s'.heap d := h.keep x.2

structure Room (A : Around) (n : Nat) : Prop where
  hd : A.handled = none
  dep : A.depth + n < recursionLimit
  uni : A.units + 8 * n + 300 < cLine
/-- what an expression gives: a value that stands for v; a list newly made is known to be so -/
noncomputable def RepE (d0 : Addr) (s : Shared) (h : Heap) (W : Addr → Prop) (fresh : Bool) (val : Value) (v : V) : Prop :=
  Rep d0 h W val v ∧ (fresh = true → ∀ l, v = .lst l → ∃ a items, val = .ref a ∧ s.heap.get? a = none ∧ PL h a items ∧ Reps d0 h (fun b => W b ∨ b = a) items.toList l)
noncomputable abbrev Alloc (h : Heap) (W : Addr → Prop) : Prop := ∀ a, W a → ∃ o, h.get? a = some o
theorem lim_lt {n : Nat} (h : n ≤ LIM) : (n : Int) < 9223372036854775808 := by have : LIM = 1000000 := rfl; omega
theorem get_size (h : Heap) : h.get? h.objs.size = none := by
  cases e : h.get? h.objs.size with
  | none => rfl
  | some o => exact absurd (Heap.lt_size e) (Nat.lt_irrefl _)

section
variable {d0 : Addr} {s : Shared} {W : Addr → Prop}
theorem RepE.int (i : Int) (t : Tok) (s' : Heap) (f : Bool) : RepE d0 s s' W f (.int i t) (.int i) := ⟨.int i t, fun _ _ e => by cases e⟩
theorem RepE.bool (b : Bool) (s' : Heap) (f : Bool) : RepE d0 s s' W f (.bool b) (.bool b) := ⟨.bool b, fun _ _ e => by cases e⟩
theorem Reps.keepK {h h' : Heap} {vs : List Value} {l : List V} (r : Reps d0 h W vs l) (k : ∀ b o, h.get? b = some o → h'.get? b = some o) : Reps d0 h' W vs l :=
  r.mono fun b o e _ hw => ⟨k b o e, hw⟩
theorem Rep.keepK {h h' : Heap} {v : Value} {x : V} (r : Rep d0 h W v x) (k : ∀ b o, h.get? b = some o → h'.get? b = some o) : Rep d0 h' W v x :=
  r.mono fun b o e _ hw => ⟨k b o e, hw⟩
/-- a list newly pushed -/
theorem RepE.fresh {h' : Heap} {a : Addr} {items : Array Value} {l : List V} (hW : Alloc s.heap W) (hn : s.heap.get? a = none) (hl : PL h' a items) (hm : l.length ≤ LIM)
    (r : Reps d0 s.heap W items.toList l) (k : ∀ b o, s.heap.get? b = some o → h'.get? b = some o) (f : Bool) : RepE d0 s h' W f (.ref a) (.lst l) := by
  have nw : ¬ W a := fun hw => by obtain ⟨o, e⟩ := hW a hw; rw [hn] at e; cases e
  refine ⟨.lst hl nw hm (r.keepK k), fun _ l' e => ?_⟩
  cases e
  refine ⟨a, items, rfl, hn, hl, r.mono fun b o e _ hw => ⟨k b o e, ?_⟩⟩
  rintro (h1 | h1)
  · exact hw h1
  · rw [h1, hn] at e; cases e
theorem RepE.push {items : Array Value} {l : List V} (hW : Alloc s.heap W) (hm : l.length ≤ LIM) (r : Reps d0 s.heap W items.toList l) (f : Bool) :
    RepE d0 s (s.heap.push { cls := .type "list", data := .seq items }) W f (.ref s.heap.objs.size) (.lst l) :=
  .fresh hW (get_size _) ⟨0, Heap.get?_push_size _ rfl⟩ hm r (fun _ _ e => Heap.get?_push_of_some _ e) f
end

noncomputable def opB : Operator → Option BOp
  | .Add => some .add | .Sub => some .sub | .Mult => some .mul | .FloorDiv => some .div | .Mod => some .mod | .Pow => some .pow
  | _ => none
noncomputable def opC : CmpOp → Option COp
  | .Eq => some .eq | .NotEq => some .ne | .Lt => some .lt | .LtE => some .le | .Gt => some .gt | .GtE => some .ge | .Is => some .is | .IsNot => some .isnot | .In => some .isin
  | _ => none

theorem log_of_big {n : Nat} (h : Nat.blt n BIG = true) (h0 : n ≠ 0) : n.log2 < 4096 := by
  have h1 : n < BIG := by simpa using h
  exact (Nat.log2_lt h0).mpr h1
theorem bits_of_big {a : Int} (h : Nat.blt a.natAbs BIG = true) : Builtin.Int.intBits a ≤ 4096 := by
  unfold Builtin.Int.intBits
  split
  · exact Nat.zero_le _
  · rename_i h0
    have h0 : a.natAbs ≠ 0 := by simpa using h0
    have := log_of_big h h0
    omega
theorem mul_ok {a b : Int} (h : mulOk a b = true) : IntMulOk a b := by
  unfold mulOk at h
  simp only [Bool.and_eq_true] at h
  have h1 := bits_of_big h.1
  have h2 := bits_of_big h.2
  unfold IntMulOk Builtin.Int.intTooBig
  have h3 : ¬ ((Builtin.Int.intBits a : Int) + Builtin.Int.intBits b > (bitsLine : Int)) := by
    have : bitsLine = 134217728 := by decide +kernel
    omega
  intro hh
  simp only [Bool.and_eq_true, decide_eq_true_eq] at hh
  exact h3 (by have := hh.2; omega)
theorem div_ok {a b : Int} (h : divOk b = true) : Builtin.divisionGoesByPylong a b = false ∧ b ≠ 0 := by
  unfold divOk at h
  simp only [Bool.and_eq_true, decide_eq_true_eq] at h
  refine ⟨PyProof.noPylong_of_log2 ?_, h.2⟩
  have h0 : b.natAbs ≠ 0 := by omega
  have := log_of_big h.1 h0
  omega
theorem pow_ok {a n : Int} (h : powOk a n = true) : 0 ≤ n ∧ (Builtin.Int.intBits a : Int) * n ≤ 2 ^ 27 := by
  unfold powOk at h
  simp only [Bool.and_eq_true, decide_eq_true_eq] at h
  have h1 := bits_of_big h.1.1
  have h2 : n.toNat ≤ 1000 := by simpa using h.1.2
  refine ⟨h.2, ?_⟩
  have h3 : n ≤ 1000 := by omega
  have h4 : (Builtin.Int.intBits a : Int) ≤ 4096 := by omega
  calc (Builtin.Int.intBits a : Int) * n ≤ 4096 * n := Int.mul_le_mul_of_nonneg_right h4 h.2
    _ ≤ 4096 * 1000 := Int.mul_le_mul_of_nonneg_left h3 (by decide)
    _ ≤ 2 ^ 27 := by decide

section
variable {C : Cx} {A : Around} {s : Shared} {W : Addr → Prop} {Q : Value → Shared → Prop} {E : Value → Shared → Prop} {x y : Value} {a b v : V}

theorem repl_one (n : Nat) (u : Value) : List.foldl (fun x1 x2 => x1 ++ x2) #[] (List.replicate n #[u]) = (List.replicate n u).toArray := by
  have key : ∀ (n : Nat) (acc : Array Value), List.foldl (fun x1 x2 => x1 ++ x2) acc (List.replicate n #[u]) = acc ++ (List.replicate n u).toArray := by
    intro n
    induction n with
    | zero => intro acc; simp
    | succ n ih => 
      intro acc
      rw [List.replicate_succ, List.foldl_cons, ih, List.replicate_succ]
      apply Array.toList_inj.mp
      simp
  rw [key]; simp

theorem RepE.i {i : Int} {t : Tok} {v : V} (h : V.int i = v) (s' : Heap) (f : Bool) : RepE C.d0 s s' W f (.int i t) v := h ▸ .int i t s' f
theorem binI_ok {op : Operator} {o : BOp} {i j k : Int} {t u : Tok} (ho : opB op = some o) (hv : binI o i j = some k)
    (hQ : ∀ tk, Q (.int k s.toks) { s with toks := tk }) : wpAny (model C.prog C.w) A (binaryOp op (.int i t) (.int j u)) Q E s := by
  cases op <;> first | (cases ho; done) | cases ho
  · cases hv; exact PySem.P.add_int (hQ _)
  · cases hv; exact PySem.P.sub_int (hQ _)
  · obtain ⟨hm, rfl⟩ := ifs_inv hv; exact PySem.P.mul_int (hQ _) (mul_ok hm)
  · obtain ⟨hm, rfl⟩ := ifs_inv hv; exact PyProof.Rows.mod_int hm (hQ _)
  · obtain ⟨hp, rfl⟩ := ifs_inv hv; exact PyProof.Rows.pow_int (pow_ok hp).1 (pow_ok hp).2 (hQ _)
  · obtain ⟨hp, rfl⟩ := ifs_inv hv; exact PyProof.Rows.floordiv_int (div_ok (a := 0) hp).2 (hQ _) (.inl (div_ok hp).1)
theorem ibin_ok {op : Operator} {o : BOp} {i j k : Int} {t u : Tok} (ho : opB op = some o) (hv : binI o i j = some k)
    (hQ : ∀ tk, Q (.int k s.toks) { s with toks := tk }) : wpAny (model C.prog C.w) A (inplaceOp op (.int i t) (.int j u)) Q E s := by
  cases op <;> first | (cases ho; done) | cases ho
  · cases hv; exact PySem.P.iadd_int (hQ _)
  · cases hv; exact PySem.P.isub_int (hQ _)
  · obtain ⟨hm, rfl⟩ := ifs_inv hv; exact PySem.P.imul_int (hQ _) (mul_ok hm)
  · obtain ⟨hm, rfl⟩ := ifs_inv hv; exact PyProof.Rows.imod_int hm (hQ _)
  · obtain ⟨hp, rfl⟩ := ifs_inv hv; exact PyProof.Rows.ipow_int (pow_ok hp).1 (pow_ok hp).2 (hQ _)
  · obtain ⟨hp, rfl⟩ := ifs_inv hv; exact PyProof.Rows.ifloordiv_int (div_ok (a := 0) hp).2 (hQ _) (.inl (div_ok hp).1)

theorem add_lists {p q : Addr} {xs ys : Array Value} (hx : PL s.heap p xs) (hy : PL s.heap q ys) (hn : xs.size + ys.size ≤ LIM)
    (h : Q (.ref s.heap.objs.size) { s with heap := s.heap.push { cls := .type "list", data := .seq (xs ++ ys) } }) : wpAny (model C.prog C.w) A (binaryOp .Add (.ref p) (.ref q)) Q E s := by
  obtain ⟨n, e⟩ := hx
  obtain ⟨n', e'⟩ := hy
  exact concat_meets ⟨_, e, rfl⟩ ⟨_, e', rfl⟩ noFill_list_add seq_list_add PySem.F.slot_list_add PySem.F.entry_list_add (PySem.F.args_list_add_2 _ _)
    (list_addW _ _ _ _ n n' none none #[] #[] (Nat.le_trans hn (by decide))) ⟨e, e', h⟩
theorem mul_list {p : Addr} {z : Value} {j : Int} {u : Tok} (hx : PL s.heap p #[z]) (h0 : 0 ≤ j) (h1 : j ≤ LIM)
    (h : Q (.ref s.heap.objs.size) { s with heap := s.heap.push { cls := .type "list", data := .seq (List.replicate j.toNat z).toArray } }) : wpAny (model C.prog C.w) A (binaryOp .Mult (.ref p) (.int j u)) Q E s := by
  obtain ⟨n, e⟩ := hx
  have hsm : (if (#[z] : Array Value).isEmpty = true then 0 else j.toNat) = j.toNat := rfl
  have hL : LIM = 1000000 := rfl
  rw [hL] at h1
  refine wpAny_binaryOp_repeat_ref (T := "list") (U := "int") (by decide) ⟨_, e, rfl⟩ (fun s' => typeIs_int s' j u) noFill_list_mul F.fills_int_mul F.slot_int_rmul repeat_list F.slot_int_index.lookup
    (call_meets F.slot_int_rmul (typeIs_int s j u) F.entry_int_rmul (F.args_int_rmul_2 _ _) (int___rmul___int_list j u _ _ n)
      ⟨e, rfl, ⟨_, e, rfl⟩, call_meets F.slot_list_mul ⟨_, e, rfl⟩ F.entry_list_mul (F.args_list_mul_2 _ _)
        (AutoListH.list___mul___list_int_3 _ _ n j u (by simp [Builtin.List.listFitsIndex]; omega) (by simp; omega) (by simp [Builtin.List.listTooLong, sizeLine]; omega)) ⟨e, ?_⟩⟩)
  rw [hsm, repl_one]
  exact h

theorem bin_ok {op : Operator} {o : BOp} (ho : opB op = some o) (hv : binV o a b = some v) (hW : Alloc s.heap W) (rx : Rep C.d0 s.heap W x a) (ry : Rep C.d0 s.heap W y b)
    (hQ : ∀ val s', AftK s s' → RepE C.d0 s s'.heap W true val v → Q val s') : wpAny (model C.prog C.w) A (binaryOp op x y) Q E s := by
  cases a with
  | int i =>
    obtain ⟨j, k, rfl, rfl, hk⟩ := binI_inv hv
    obtain ⟨t, rfl⟩ := rx.int_of
    obtain ⟨u, rfl⟩ := ry.int_of
    exact binI_ok ho hk fun tk => hQ _ _ .tok (.int ..)
  | lst l =>
    obtain ⟨p, xs, rfl, hl, hw, hm, r⟩ := rx.lst_of
    have hz := r.length
    rw [Array.length_toList] at hz
    cases o with
    | add =>
      obtain ⟨m, h1, h2⟩ := bind_inv hv
      cases V.lst?_inv h1
      obtain ⟨hs, rfl⟩ := ifs_inv h2
      obtain ⟨q, ys, rfl, hl', hw', hm', r'⟩ := ry.lst_of
      have hz' := r'.length
      rw [Array.length_toList] at hz'
      have : op = .Add := by cases op <;> first | rfl | cases ho
      subst this
      exact add_lists hl hl' (by rw [hz, hz']; exact hs) (hQ _ _ .push (.push hW (by rw [List.length_append]; exact hs) (by rw [Array.toList_append]; exact r.append r') true))
    | mul =>
      obtain ⟨z, h1, h2⟩ := bind_inv hv
      cases one?_inv h1
      obtain ⟨j, h3, h4⟩ := bind_inv h2
      cases V.int?_inv h3
      obtain ⟨hj, rfl⟩ := ifs_inv h4
      obtain ⟨u, rfl⟩ := ry.int_of
      obtain ⟨items⟩ := xs
      obtain ⟨zv, ws, e1, rz, q⟩ := r.cons_of
      cases e1
      cases q.nil_of
      have : op = .Mult := by cases op <;> first | rfl | cases ho
      subst this
      exact mul_list hl hj.1 hj.2 (hQ _ _ .push (.push hW (by rw [List.length_replicate]; omega) (Reps.replicate rz _) true))
    | sub => cases hv
    | div => cases hv
    | mod => cases hv
    | pow => cases hv
  | _ => cases hv

theorem pair_reads {d0 : Addr} {h : Heap} {W : Addr → Prop} {x : Value} {a : V} {p : Int × Int} (r : Rep d0 h W x a) (e : a.pair? = some p) : ∃ as, Reads h x (PyData.tuple [.int p.1, .int p.2]) as := by
  cases V.pair?_inv e
  obtain ⟨q, ⟨items⟩, rfl, ht, _, r1⟩ := r.tup_of
  obtain ⟨v1, ws, e1, a1, r2⟩ := r1.cons_of
  obtain ⟨v2, ws', e2, a2, r3⟩ := r2.cons_of
  cases e1; cases e2
  cases r3.nil_of
  obtain ⟨t, rfl⟩ := a1.int_of
  obtain ⟨u, rfl⟩ := a2.int_of
  obtain ⟨o, ho, hc, n, hd⟩ := ht
  exact ⟨_, .tuple ho hc hd (.cons (.int _ t) (.cons (.int _ u) .nil))⟩
noncomputable def optD : Option (Int × Int) → PyData
  | none => .none
  | some p => .tuple [.int p.1, .int p.2]
theorem opt_reads {d0 : Addr} {h : Heap} {W : Addr → Prop} {x : Value} {a : V} {p : Option (Int × Int)} (r : Rep d0 h W x a) (e : a.opt? = some p) : ∃ as, Reads h x (optD p) as := by
  by_cases hn : a.isNone = true
  · unfold V.opt? at e
    rw [if_pos hn] at e
    cases e
    cases V.isNone_inv hn
    rw [r.none_of]
    exact ⟨_, .none⟩
  · unfold V.opt? at e
    rw [if_neg hn] at e
    obtain ⟨q, h1, rfl⟩ := map_inv e
    exact pair_reads r h1
/-- what a list of readable values is read as -/
theorem reads_all {α : Type} {f : V → Option α} {g : α → PyData} {d0 : Addr} {h : Heap} {W : Addr → Prop} (hf : ∀ x a p, Rep d0 h W x a → f a = some p → ∃ as, Reads h x (g p) as)
    {vs : List Value} {l : List V} {ps : List α} (r : Reps d0 h W vs l) (e : allV f l = some ps) : (∃ as, ReadsAll h vs (ps.map g) as) ∧ ps.isEmpty = l.isEmpty :=
  Reps.indL (P := fun vs l => ∀ ps, allV f l = some ps → (∃ as, ReadsAll h vs (ps.map g) as) ∧ ps.isEmpty = l.isEmpty) (fun _ e => by cases e; exact ⟨⟨_, .nil⟩, rfl⟩)
    (fun _ _ _ _ a _ ih _ e => by
      obtain ⟨p, e1, e⟩ := bind_inv e
      obtain ⟨ps, e2, rfl⟩ := map_inv e
      obtain ⟨as, q⟩ := hf _ _ _ a e1
      obtain ⟨⟨bs, q2⟩, _⟩ := ih _ e2
      exact ⟨⟨_, .cons q q2⟩, rfl⟩) l vs r ps e
theorem int_reads {d0 : Addr} {h : Heap} {W : Addr → Prop} {x : Value} {a : V} {i : Int} (r : Rep d0 h W x a) (e : a.int? = some i) : ∃ as, Reads h x (PyData.int i) as := by
  cases V.int?_inv e
  obtain ⟨t, rfl⟩ := r.int_of
  exact ⟨_, .int i t⟩
theorem lay_opts : ∀ ps : List (Option (Int × Int)), PyData.canLayAll0 (ps.map optD) = true
  | [] => rfl
  | none :: r => by simp [optD, PyData.canLayAll0, PyData.canLay0, lay_opts r]
  | some _ :: r => by simp [optD, PyData.canLayAll0, PyData.canLay0, lay_opts r]
theorem any_opts : ∀ ps : List (Option (Int × Int)), ((ps.map optD).any fun y => PyData.eqv y .none) = ps.any Option.isNone
  | [] => rfl
  | none :: r => by simp [optD, PyData.eqv]
  | some _ :: r => by
    have := any_opts r
    simp [optD, PyData.eqv] at this ⊢
    exact this
theorem lay_pairs : ∀ ps : List (Int × Int), PyData.canLayAll0 (ps.map fun p => PyData.tuple [.int p.1, .int p.2]) = true
  | [] => rfl
  | _ :: r => by simp [PyData.canLayAll0, PyData.canLay0, lay_pairs r]
theorem depth_pairs : ∀ ps : List (Int × Int), PyData.depthAll (ps.map fun p => PyData.tuple [.int p.1, .int p.2]) ≤ 1
  | [] => by simp [PyData.depthAll]
  | _ :: r => by have := depth_pairs r; simp [PyData.depthAll, PyData.depth]; omega
theorem eqv_ints : ∀ ns ms : List Int, PyData.eqvAll (ns.map PyData.int) (ms.map PyData.int) = (ns == ms)
  | [], [] => rfl
  | [], _ :: _ => rfl
  | _ :: _, [] => rfl
  | a :: r, b :: t => by simp only [List.map_cons, PyData.eqvAll, PyData.eqv, eqv_ints r t]; rfl

theorem eqv_nil (ds : List PyData) : PyData.eqv (.list ds) (.list []) = ds.isEmpty := by cases ds <;> rfl
theorem eq_reads {d0 : Addr} {h : Heap} {W : Addr → Prop} {x y : Value} {a b : V} {r : Bool} (hx : Rep d0 h W x a) (hy : Rep d0 h W y b) (e : eqV a b = some r) :
    ∃ da db as bs, Reads h x da as ∧ Reads h y db bs ∧ SeqAt.shaped da = true ∧ SeqAt.shaped db = true ∧ PyData.eqv da db = r := by
  cases a with
  | int i =>
    obtain ⟨j, e1, rfl⟩ := map_inv e
    cases V.int?_inv e1
    obtain ⟨t, rfl⟩ := hx.int_of
    obtain ⟨u, rfl⟩ := hy.int_of
    exact ⟨_, _, _, _, .int i t, .int _ _, rfl, rfl, rfl⟩
  | bool i =>
    obtain ⟨j, e1, rfl⟩ := map_inv e
    cases V.bool?_inv e1
    rw [hx.bool_of, hy.bool_of]
    exact ⟨_, _, _, _, .bool i, .bool _, rfl, rfl, rfl⟩
  | lst l =>
    obtain ⟨m, e1, e0⟩ := bind_inv e
    clear e
    cases V.lst?_inv e1
    obtain ⟨p, items, rfl, ⟨n, hl⟩, _, _, q⟩ := hx.lst_of
    obtain ⟨p', items', rfl, ⟨n', hl'⟩, _, _, q'⟩ := hy.lst_of
    unfold eqL at e0
    by_cases hm : m.isEmpty = true
    · rw [if_pos hm] at e0
      cases List.isEmpty_iff.mp hm
      obtain ⟨hp, rfl⟩ := ifs_inv e0
      obtain ⟨⟨as', q''⟩, _⟩ := reads_all (fun _ _ _ => int_reads) q' (ps := []) rfl
      rcases Bool.or_eq_true_iff.mp hp with hp | hp
      · obtain ⟨ps, hp⟩ := Option.isSome_iff_exists.mp hp
        obtain ⟨⟨as, q3⟩, h4⟩ := reads_all (fun _ _ _ => pair_reads) q hp
        refine ⟨_, _, _, _, .list hl rfl rfl q3, .list hl' rfl rfl q'', ?_, rfl, ?_⟩
        · exact Bool.and_eq_true_iff.mpr ⟨lay_pairs ps, decide_eq_true (by show PyData.depthAll _ + 1 ≤ 64; exact Nat.le_trans (Nat.succ_le_succ (depth_pairs ps)) (by decide))⟩
        · rw [← h4]
          exact (eqv_nil _).trans (by cases ps <;> rfl)
      · obtain ⟨ps, hp⟩ := Option.isSome_iff_exists.mp hp
        obtain ⟨⟨as, q3⟩, h4⟩ := reads_all (fun _ _ _ => int_reads) q hp
        refine ⟨_, _, _, _, .list hl rfl rfl q3, .list hl' rfl rfl q'', ke_shaped_ints _, rfl, ?_⟩
        rw [← h4]
        exact (eqv_nil _).trans (by cases ps <;> rfl)
    · rw [if_neg hm] at e0
      obtain ⟨ns, e2, e4⟩ := bind_inv e0
      obtain ⟨ms, e3, rfl⟩ := map_inv e4
      obtain ⟨⟨as, q3⟩, _⟩ := reads_all (fun _ _ _ => int_reads) q e2
      obtain ⟨⟨as', q3'⟩, _⟩ := reads_all (fun _ _ _ => int_reads) q' e3
      exact ⟨_, _, _, _, .list hl rfl rfl q3, .list hl' rfl rfl q3', ke_shaped_ints _, ke_shaped_ints _, eqv_ints _ _⟩
  | tup l =>
    obtain ⟨p, e1, e⟩ := bind_inv e
    obtain ⟨p', e2, rfl⟩ := map_inv e
    obtain ⟨as, q⟩ := pair_reads (p := p) hx e1
    obtain ⟨as', q'⟩ := pair_reads hy e2
    exact ⟨_, _, _, _, q, q', rfl, rfl, congrArg (p.1 == p'.1 && ·) (Bool.and_true _)⟩
  | none => cases e
  | str _ => cases e
  | drw => cases e

theorem in_ints {ns : List Int} {i : Int} : ns.any (· == i) = ns.contains i := by
  induction ns with
  | nil => rfl
  | cons a r ih => simp only [List.any_cons, List.contains_cons, ih]; rw [Bool.beq_comm]

theorem cmp_ints {op : CmpOp} {f : Int → Int → Option Bool} {r : Bool} (hv : int2 f a b = some r) (rx : Rep C.d0 s.heap W x a) (ry : Rep C.d0 s.heap W y b)
    (h : ∀ i j t u, f i j = some r → wpAny (model C.prog C.w) A (compareOp op (.int i t) (.int j u)) Q E s) : wpAny (model C.prog C.w) A (compareOp op x y) Q E s := by
  obtain ⟨i, j, rfl, rfl, hk⟩ := int2_inv hv
  obtain ⟨t, rfl⟩ := rx.int_of
  obtain ⟨u, rfl⟩ := ry.int_of
  exact h i j t u hk
theorem in_ok {n : Nat} {r : Bool} (R : Room A n) (hv : isInV a b = some r) (rx : Rep C.d0 s.heap W x a) (ry : Rep C.d0 s.heap W y b)
    (hQ : Q (.bool r) s) : wpAny (model C.prog C.w) A (compareOp .In x y) Q E s := by
  cases a with
  | int i =>
    obtain ⟨l, e1, e⟩ := bind_inv hv
    obtain ⟨ns, e2, rfl⟩ := map_inv e
    cases V.lst?_inv e1
    obtain ⟨t, rfl⟩ := rx.int_of
    obtain ⟨p, items, rfl, hl, _, _, q⟩ := ry.lst_of
    exact in_list_ints (vs := items.toList) (by rw [Array.toArray_toList]; exact hl.isList) (q.ints e2) (by rw [in_ints]; exact hQ)
  | none =>
    obtain ⟨l, e1, e⟩ := bind_inv hv
    obtain ⟨ps, e2, rfl⟩ := map_inv e
    cases V.tup?_inv e1
    rw [rx.none_of]
    obtain ⟨p, items, rfl, ⟨o, ho, hc, n, hd⟩, _, q⟩ := ry.tup_of
    obtain ⟨⟨as, q3⟩, _⟩ := reads_all (fun _ _ _ => opt_reads) q e2
    have hz : (PyData.none).depth = 0 := rfl
    refine PySem.SeqAt.in_tuple_reads (Reads.tuple ho hc hd q3) .none (lay_opts ps) rfl (by rw [hz]; have := R.uni; omega) ?_
    rw [any_opts]; exact hQ
  | bool _ => cases hv
  | str _ => cases hv
  | tup _ => cases hv
  | lst _ => cases hv
  | drw => cases hv
theorem is_ok {r : Bool} (hv : (if b.isNone then some a.isNone else none) = some r) (rx : Rep C.d0 s.heap W x a) (ry : Rep C.d0 s.heap W y b) (hQ : Q (.bool r) s) :
    wpAny (model C.prog C.w) A (compareOp .Is x y) Q E s := by
  obtain ⟨h, rfl⟩ := ifs_inv hv
  cases V.isNone_inv h
  rw [ry.none_of]
  cases rx <;> exact wpAny_is_plain rfl hQ
theorem isnot_ok {r : Bool} (hv : (if b.isNone then some (!a.isNone) else none) = some r) (rx : Rep C.d0 s.heap W x a) (ry : Rep C.d0 s.heap W y b) (hQ : Q (.bool r) s) :
    wpAny (model C.prog C.w) A (compareOp .IsNot x y) Q E s := by
  obtain ⟨h, rfl⟩ := ifs_inv hv
  cases V.isNone_inv h
  rw [ry.none_of]
  cases rx <;> exact wpAny_isNot_plain rfl hQ
theorem cmp_ok {n : Nat} {op : CmpOp} {o : COp} {r : Bool} (R : Room A n) (ho : opC op = some o) (hv : cmpV o a b = some r) (rx : Rep C.d0 s.heap W x a) (ry : Rep C.d0 s.heap W y b)
    (hQ : Q (.bool r) s) : wpAny (model C.prog C.w) A (compareOp op x y) Q E s := by
  have hu : A.units + 64 < cLine := by have := R.uni; omega
  cases op <;> first | (cases ho; done) | cases ho
  · obtain ⟨da, db, as, bs, h1, h2, h3, h4, rfl⟩ := eq_reads rx ry hv
    exact eq_dataH h1 h2 h3 h4 hu hQ
  · obtain ⟨c, hv', rfl⟩ := map_inv hv
    obtain ⟨da, db, as, bs, h1, h2, h3, h4, rfl⟩ := eq_reads rx ry hv'
    exact ne_dataH h1 h2 h3 h4 hu hQ
  · exact cmp_ints hv rx ry fun i j t u e => by cases e; exact PySem.P.lt_int hQ
  · exact cmp_ints hv rx ry fun i j t u e => by cases e; exact PySem.P.le_int hQ
  · exact cmp_ints hv rx ry fun i j t u e => by cases e; exact PySem.P.gt_int hQ
  · exact cmp_ints hv rx ry fun i j t u e => by cases e; exact PySem.P.ge_int hQ
  · exact is_ok hv rx ry hQ
  · exact isnot_ok hv rx ry hQ
  · exact in_ok R hv rx ry hQ
end
end Mine
-- MD
namespace Mine
open PySem PySem.W PyProof.Rows

inductive Loc | loc (L : Addr) (x : PySem.Str) | cel (c : Addr)
noncomputable def Loc.addr : Loc → Addr
  | .loc L _ => L
  | .cel c => c
noncomputable def Loc.has (h : Heap) : Loc → Value → Prop
  | .loc L x, v => ∃ m, h.Ns L m ∧ m x = some v
  | .cel c, v => h.IsCell c (some v)
noncomputable def Loc.ok (h : Heap) : Loc → Prop
  | .loc L _ => ∃ m, h.Ns L m
  | .cel c => ∃ v, h.IsCell c v
theorem Loc.has.at {h h' : Heap} {loc : Loc} {v : Value} (x : loc.has h v) (k : ∀ o, h.get? loc.addr = some o → h'.get? loc.addr = some o) : loc.has h' v := by
  cases loc with
  | loc L y => obtain ⟨m, hn, e⟩ := x; exact ⟨m, hn.at' k, e⟩
  | cel c => obtain ⟨o, ho, hd⟩ := x; exact ⟨o, k o ho, hd⟩
theorem Loc.ok.at {h h' : Heap} {loc : Loc} (x : loc.ok h) (k : ∀ o, h.get? loc.addr = some o → h'.get? loc.addr = some o) : loc.ok h' := by
  cases loc with
  | loc L y => obtain ⟨m, hn⟩ := x; exact ⟨m, hn.at' k⟩
  | cel c => obtain ⟨v, o, ho, hd⟩ := x; exact ⟨v, o, k o ho, hd⟩
/-- no list or tuple lies where a name is kept -/
theorem Loc.ok.noSeq {h : Heap} {loc : Loc} (x : loc.ok h) {o : Obj} (e : h.get? loc.addr = some o) : ¬ OSeq o := by
  rintro ⟨xs, n, hd⟩
  cases loc with
  | loc L y => obtain ⟨m, o', es, ep, e', hd', _⟩ := x; simp only [Loc.addr] at e; rw [e] at e'; cases e'; rw [hd] at hd'; cases hd'
  | cel c => obtain ⟨v, o', e', hd'⟩ := x; simp only [Loc.addr] at e; rw [e] at e'; cases e'; rw [hd] at hd'; cases hd'

noncomputable def Wf (W0 : Addr → Prop) (ow : Nat → Option Addr) (a : Addr) : Prop := W0 a ∨ ∃ k, ow k = some a

/-- what the whole proof knows of the top -/
structure COK (C : Cx) : Prop where
  g : C.top.Ns mainGlobals C.mg
  b : C.top.Ns builtinsNs C.mb
  lim : C.top.NoLimit
  blt : ∀ x : PySem.Str, x ≠ "__name__" → C.mb x = bootBuiltins x
  free : ∀ x ∈ (["len", "abs", "max", "sum", "list", "range", "enumerate", "reversed"] : List PySem.Str), C.mg x = none
  r0 : ∃ a vs, C.mg "R0" = some (.ref a) ∧ IsTup C.top a vs.toArray ∧ IntsAre vs [0, 1]
  r1 : ∃ a vs, C.mg "R1" = some (.ref a) ∧ IsTup C.top a vs.toArray ∧ IntsAre vs [1, 1]
  d0 : C.top.get? C.d0 = none

/-- the heap under a frame: the top stands, the forbidden lists stand -/
structure HI (C : Cx) (W : Addr → Prop) (d : Dr) (h : Heap) : Prop where
  top : ∀ b o, C.top.get? b = some o → h.get? b = some o
  al : Alloc h W
  wt : ∀ a, W a → C.top.get? a = none
  dr : DRel C h d

inductive ValAt (C : Cx) (lay : List Loc) (W : Addr → Prop) (h : Heap) (k : Nat) (x : V) : Prop
  | mk (loc : Loc) (v : Value) (h1 : lay[k]? = some loc) (h2 : loc.has h v) (h3 : Rep C.d0 h W v x)
inductive OwnAt (C : Cx) (lay : List Loc) (W : Addr → Prop) (ow : Nat → Option Addr) (h : Heap) (k : Nat) (x : V) : Prop
  | mk (loc : Loc) (a : Addr) (items : Array Value) (l : List V) (h1 : lay[k]? = some loc) (h2 : loc.has h (.ref a)) (h3 : ow k = some a) (h4 : x = .lst l) (h5 : PL h a items) (h6 : l.length ≤ LIM) (h7 : Reps C.d0 h W items.toList l)
structure FI (C : Cx) (lay : List Loc) (fr : Frm) (W0 : Addr → Prop) (ow : Nat → Option Addr) (d : Dr) (h : Heap) : Prop where
  hi : HI C (Wf W0 ow) d h
  len : fr.length = lay.length
  val : ∀ (k : Nat) (x : V), fr[k]? = some (some (false, x)) → ValAt C lay (Wf W0 ow) h k x
  owns : ∀ (k : Nat) (x : V), fr[k]? = some (some (true, x)) → OwnAt C lay (Wf W0 ow) ow h k x
  only : ∀ (k : Nat) (a : Addr), ow k = some a → ∃ (x : V), fr[k]? = some (some (true, x))
  inj : ∀ k k' a, ow k = some a → ow k' = some a → k = k'
  disj : ∀ k a, ow k = some a → ¬ W0 a
  lok : ∀ (k : Nat) (loc : Loc), lay[k]? = some loc → loc.ok h ∧ C.top.get? loc.addr = none ∧ loc.addr ≠ C.d0
  apart : ∀ (i j : Nat) (loc : Loc), lay[i]? = some loc → lay[j]? = some loc → i = j

theorem DRel.noSeq {C : Cx} {h : Heap} {d : Dr} (x : DRel C h d) {o : Obj} (e : h.get? C.d0 = some o) : ¬ OSeq o := by
  cases d with
  | none => obtain ⟨x, y⟩ := x; rw [x] at e; cases e; exact y
  | some p =>
    rintro ⟨xs, n, hd⟩
    obtain ⟨t, u, o', es, ep, e', _, hd', _⟩ := x
    rw [e] at e'; cases e'; rw [hd] at hd'; cases hd'
theorem DRel.alloc {C : Cx} {h : Heap} {d : Dr} (x : DRel C h d) : ∃ o, h.get? C.d0 = some o := by
  cases d with
  | none => exact ⟨_, x.1⟩
  | some p => obtain ⟨_, _, o', _, _, e', _⟩ := x; exact ⟨o', e'⟩

section
variable {C : Cx} {lay : List Loc} {fr : Frm} {W0 W : Addr → Prop} {ow : Nat → Option Addr} {d d' : Dr} {s s' : Shared}
theorem Rep.aft {v : Value} {x : V} (r : Rep C.d0 s.heap W v x) (hd : DRel C s.heap d) (k : Aft C.d0 s s') : Rep C.d0 s'.heap W v x :=
  r.mono fun b o e hs hw => ⟨k.2 b o e fun q => hd.noSeq (q ▸ e) hs, hw⟩
theorem Reps.aft {v : List Value} {x : List V} (r : Reps C.d0 s.heap W v x) (hd : DRel C s.heap d) (k : Aft C.d0 s s') : Reps C.d0 s'.heap W v x :=
  r.mono fun b o e hs hw => ⟨k.2 b o e fun q => hd.noSeq (q ▸ e) hs, hw⟩
theorem PL.aft {a : Addr} {items : Array Value} (r : PL s.heap a items) (hd : DRel C s.heap d) (k : Aft C.d0 s s') : PL s'.heap a items :=
  let ⟨n, e⟩ := r; ⟨n, k.2 a _ e fun q => hd.noSeq (q ▸ e) ⟨_, _, rfl⟩⟩
theorem HI.aft (c : COK C) (I : HI C W d s.heap) (k : Aft C.d0 s s') (hd : DRel C s'.heap d') : HI C W d' s'.heap where
  top := fun b o e => k.2 b o (I.top b o e) fun q => by rw [q, c.d0] at e; cases e
  al := fun a hw => by
    obtain ⟨o, e⟩ := I.al a hw
    by_cases q : a = C.d0
    · subst q; exact hd.alloc
    · exact ⟨o, k.2 a o e q⟩
  wt := I.wt
  dr := hd
theorem FI.aft (c : COK C) (I : FI C lay fr W0 ow d s.heap) (k : Aft C.d0 s s') (hd : DRel C s'.heap d') : FI C lay fr W0 ow d' s'.heap where
  hi := I.hi.aft c k hd
  len := I.len
  val := fun i x e => by
    obtain ⟨loc, v, h1, h2, h3⟩ := I.val i x e
    exact ⟨loc, v, h1, h2.at fun o e => k.2 _ o e (I.lok i loc h1).2.2, h3.aft I.hi.dr k⟩
  owns := fun i x e => by
    obtain ⟨loc, a, items, l, h1, h2, h3, h4, h5, h6, h7⟩ := I.owns i x e
    exact ⟨loc, a, items, l, h1, h2.at fun o e => k.2 _ o e (I.lok i loc h1).2.2, h3, h4, h5.aft I.hi.dr k, h6, h7.aft I.hi.dr k⟩
  only := I.only
  inj := I.inj
  disj := I.disj
  lok := fun i loc e => ⟨(I.lok i loc e).1.at fun o e' => k.2 _ o e' (I.lok i loc e).2.2, (I.lok i loc e).2⟩
  apart := I.apart
end

structure EnvOK (env : Env) (sc : List (PySem.Str × NameKind)) (xs : List (Option PySem.Str)) (lay : List Loc) : Prop where
  len : xs.length = lay.length
  kind : env.scope.kind = .function
  look : env.scope.names = sc
  var : ∀ (k : Nat) (x : PySem.Str), xs[k]? = some (some x) → (sc.lookup x = some .local ∧ lay[k]? = some (Loc.loc env.locals x)) ∨ ((sc.lookup x = some .cell ∨ sc.lookup x = some .free) ∧ ∃ c, env.cells.lookup x = some c ∧ lay[k]? = some (Loc.cel c))
  glob : env.globals = mainGlobals
  blt : env.builtins = builtinsNs

/-- the defs by their numbers -/
noncomputable def fnames : List String := ["gcd", "gcd_all", "ztrim", "zdegree", "zlead", "zadd", "zneg", "zsub", "zscale", "zraise",
  "zcontent", "zdivided", "zprimitive", "zshift", "check_bottom", "pseudo", "divided", "full_rest", "row_resultant", "resultant",
  "root_bound", "first_differences", "zeros_on", "dispersions", "rat", "radd", "rsub", "rmul", "rdiv", "rneg",
  "copied", "rinv", "ris_whole", "shape", "need_shape", "swap_rows", "take_off", "echelon", "null_base", "solve_system",
  "qtrim", "qdegree", "qlead", "qadd", "qneg", "qsub", "qscale", "qraise", "qmul", "qdivmod",
  "qmonic", "qgcd", "qcompose", "to_z", "fmake", "moved", "parted", "coefficient_at", "most_degree", "difference_of",
  "key_solution", "trimmed", "gosper", "_law_take", "_law_draws", "_law_mul", "_law_quotients", "_law_at", "_law_value", "_law_linear",
  "_law_shifted", "_law_sum", "_law_certified", "_law_made_right", "_law_known", "law"]
noncomputable def fname (f : Nat) : PySem.Str := PySem.Str.ofString (fnames.getD f "")

/-- a call of the def f upon values gives r -/
noncomputable def CallOK (C : Cx) (n f : Nat) (args : List V) (d : Dr) (r : V) (d' : Dr) : Prop :=
  ∃ a o fd, C.mg (fname f) = some (.ref a) ∧ C.top.get? a = some o ∧ o.data = .func fd ∧
    ∀ (A : Around) (s : Shared) (W : Addr → Prop) (vals : List Value) (Q E : Value → Shared → Prop), Room A n → HI C W d s.heap → Reps C.d0 s.heap W vals args →
      (∀ val s', Aft C.d0 s s' → DRel C s'.heap d' → RepE C.d0 s s'.heap W (freshF f) val r → Q val s') → wpAny (model C.prog C.w) A (call (.ref a) vals) Q E s
/-- a call of the def f that turns the list la, its caller's own -/
noncomputable def MutOK (C : Cx) (n f : Nat) (l args : List V) (d : Dr) (l' : List V) (d' : Dr) : Prop :=
  ∃ a o fd, C.mg (fname f) = some (.ref a) ∧ C.top.get? a = some o ∧ o.data = .func fd ∧
    ∀ (A : Around) (s : Shared) (W : Addr → Prop) (la : Addr) (items : Array Value) (vals : List Value) (Q E : Value → Shared → Prop), Room A n → HI C W d s.heap → W la → PL s.heap la items → l.length ≤ LIM →
      Reps C.d0 s.heap W items.toList l → Reps C.d0 s.heap W vals args →
      (∀ s' items', (∃ h' tk, s' = { s with heap := h', toks := tk }) → (∀ b o, s.heap.get? b = some o → b ≠ la → b ≠ C.d0 → s'.heap.get? b = some o) → DRel C s'.heap d' → PL s'.heap la items' → l'.length ≤ LIM →
        Reps C.d0 s'.heap W items'.toList l' → Q .none s') → wpAny (model C.prog C.w) A (call (.ref a) (.ref la :: vals)) Q E s
noncomputable def GOK (C : Cx) (n : Nat) (Γ : Env0) : Prop :=
  (∀ f args d r d', Γ.call f args d = some (r, d') → CallOK C n f args d r d') ∧ ∀ f l args d l' d', Γ.muts f l args d = some (l', d') → MutOK C n f l args d l' d'

section
variable (C : Cx) (Γ : Env0) (n : Nat)
/-- an expression of the text stands for one of mine -/
noncomputable def SE (sc : List (PySem.Str × NameKind)) (xs : List (Option PySem.Str)) (e : Expr) (e' : E) : Prop :=
  ∀ fr d v d', evE Γ e' fr d = some (v, d') → ∀ (A : Around) (env : Env) (lay : List Loc) (W0 : Addr → Prop) (ow : Nat → Option Addr) (s : Shared) (Q E : Value → Shared → Prop),
    Room A n → EnvOK env sc xs lay → FI C lay fr W0 ow d s.heap → (∀ val s', Aft C.d0 s s' → DRel C s'.heap d' → RepE C.d0 s s'.heap (Wf W0 ow) (freshE e') val v → Q val s') →
    wpAny (model C.prog C.w) A (eval e env) Q E s
/-- as a test -/
noncomputable def ST (sc : List (PySem.Str × NameKind)) (xs : List (Option PySem.Str)) (e : Expr) (e' : E) : Prop :=
  ∀ fr d b d', evE Γ e' fr d = some (.bool b, d') → ∀ (A : Around) (env : Env) (lay : List Loc) (W0 : Addr → Prop) (ow : Nat → Option Addr) (s : Shared) (Q : Bool → Shared → Prop) (E : Value → Shared → Prop),
    Room A n → EnvOK env sc xs lay → FI C lay fr W0 ow d s.heap → (∀ s', Aft C.d0 s s' → DRel C s'.heap d' → Q b s') →
    wpAny (model C.prog C.w) A (isTrue e env (eval e env)) Q E s
/-- a list that may be the frame's own -/
noncomputable def RepB (d0 : Addr) (h : Heap) (W : Addr → Prop) (val : Value) (v : V) : Prop :=
  Rep d0 h W val v ∨ ∃ a items l, val = .ref a ∧ v = .lst l ∧ PL h a items ∧ l.length ≤ LIM ∧ Reps d0 h W items.toList l
noncomputable def SB (sc : List (PySem.Str × NameKind)) (xs : List (Option PySem.Str)) (e : Expr) (e' : E) : Prop :=
  ∀ fr d v d', evE Γ e' fr d = some (v, d') → ∀ (A : Around) (env : Env) (lay : List Loc) (W0 : Addr → Prop) (ow : Nat → Option Addr) (s : Shared) (Q E : Value → Shared → Prop),
    Room A n → EnvOK env sc xs lay → FI C lay fr W0 ow d s.heap → (∀ val s', Aft C.d0 s s' → DRel C s'.heap d' → RepB C.d0 s'.heap (Wf W0 ow) val v → Q val s') →
    wpAny (model C.prog C.w) A (eval e env) Q E s
noncomputable def SL1 (sc : List (PySem.Str × NameKind)) (xs : List (Option PySem.Str)) (es : List Expr) (l' : EL) : Prop :=
  ∀ fr d vs d', evL Γ l' fr d = some (vs, d') → ∀ (A : Around) (env : Env) (lay : List Loc) (W0 : Addr → Prop) (ow : Nat → Option Addr) (s : Shared) (pos : Pos) (Q : List Value → Shared → Prop) (E : Value → Shared → Prop),
    Room A n → EnvOK env sc xs lay → FI C lay fr W0 ow d s.heap → (∀ vals s', Aft C.d0 s s' → DRel C s'.heap d' → Reps C.d0 s'.heap (Wf W0 ow) vals vs → Q vals s') →
    wpAny (model C.prog C.w) A (spliced (backTo pos (starEach es env))) Q E s
end

section
variable {C : Cx} {Γ : Env0} {n : Nat} {sc : List (PySem.Str × NameKind)} {xs : List (Option PySem.Str)}

theorem Name_any {A : Around} {env : Env} {lay : List Loc} {k : Nat} {x : PySem.Str} {pos : Pos} {loc : Loc} {v : Value} {s : Shared} {Q : Value → Shared → Prop} {E : Value → Shared → Prop}
    (hE : EnvOK env sc xs lay) (hk : xs[k]? = some (some x)) (hl : lay[k]? = some loc) (hv : loc.has s.heap v) (hx : (x == ("__debug__" : PySem.Str)) = false) (hc : (x == ("__classdict__" : PySem.Str)) = false) (h : Q v s) :
    wpAny (model C.prog C.w) A (eval (.Name x pos) env) Q E s := by
  refine wpAny_Name ?_ hx
  rcases hE.var k x hk with ⟨h1, h2⟩ | ⟨h1, c, h2, h3⟩
  · rw [h2] at hl; cases hl
    obtain ⟨m, hn, e⟩ := hv
    exact wpAny_loadName_local hE.kind (by show env.scope.names.lookup x = _; rw [hE.look]; exact h1) hn e h
  · rw [h3] at hl; cases hl
    rcases h1 with h1 | h1
    · exact wpAny_loadName_cell hE.kind (by show env.scope.names.lookup x = _; rw [hE.look]; exact h1) h2 hv h
    · exact wpAny_loadName_free hE.kind (by show env.scope.names.lookup x = _; rw [hE.look]; exact h1) h2 hv h hc

noncomputable def plainName (x : PySem.Str) : Bool := !(x == ("__debug__" : PySem.Str)) && !(x == ("__classdict__" : PySem.Str))
theorem plain_two {x : PySem.Str} (h : plainName x = true) : (x == ("__debug__" : PySem.Str)) = false ∧ (x == ("__classdict__" : PySem.Str)) = false := by
  have h := Bool.and_eq_true_iff.mp h
  exact ⟨(Bool.not_eq_true' _).mp h.1, (Bool.not_eq_true' _).mp h.2⟩

theorem se_var {k : Nat} {x : PySem.Str} {pos : Pos} (hk : xs[k]? = some (some x)) (hp : plainName x = true) : SE C Γ n sc xs (.Name x pos) (.var k) := by
  intro fr d v d' hv A env lay W0 ow s Q E R hE I hQ
  obtain ⟨x, e1, hv⟩ := bind_inv hv
  cases hv
  obtain ⟨loc, val, h1, h2, h3⟩ := I.val k _ (varOf_inv e1)
  have hp := plain_two hp
  exact Name_any hE hk h1 h2 hp.1 hp.2 (hQ _ _ (.refl ..) I.hi.dr ⟨h3, fun q => by cases q⟩)
theorem sb_var {k : Nat} {x : PySem.Str} {pos : Pos} (hk : xs[k]? = some (some x)) (hp : plainName x = true) : SB C Γ n sc xs (.Name x pos) (.bvar k) := by
  intro fr d v d' hv A env lay W0 ow s Q E R hE I hQ
  obtain ⟨v', e1, hv⟩ := bind_inv hv
  cases hv
  have hp := plain_two hp
  obtain ⟨b, e⟩ := anyOf_inv e1
  cases b with
  | false =>
    obtain ⟨loc, val, h1, h2, h3⟩ := I.val k _ e
    exact Name_any hE hk h1 h2 hp.1 hp.2 (hQ _ _ (.refl ..) I.hi.dr (.inl h3))
  | true =>
    obtain ⟨loc, a, items, l, h1, h2, _, rfl, h5, h6, h7⟩ := I.owns k _ e
    exact Name_any hE hk h1 h2 hp.1 hp.2 (hQ _ _ (.refl ..) I.hi.dr (.inr ⟨a, items, l, rfl, rfl, h5, h6, h7⟩))
theorem SE.sb {e : Expr} {e' : E} (h : SE C Γ n sc xs e e') : SB C Γ n sc xs e e' := by
  intro fr d v d' hv A env lay W0 ow s Q E R hE I hQ
  exact h fr d v d' hv A env lay W0 ow s Q E R hE I fun val s' k hd r => hQ val s' k hd (.inl r.1)

theorem global_val {A : Around} {env : Env} {lay : List Loc} {x : PySem.Str} {pos : Pos} {v : Value} {s : Shared} {Q : Value → Shared → Prop} {E : Value → Shared → Prop} (c : COK C)
    (hE : EnvOK env sc xs lay) (hx : sc.lookup x = some .globalImplicit) (hp : plainName x = true) (top : ∀ b o, C.top.get? b = some o → s.heap.get? b = some o) (hv : C.mg x = some v) (h : Q v s) :
    wpAny (model C.prog C.w) A (eval (.Name x pos) env) Q E s := by
  have hp := plain_two hp
  exact Calls.Name_function_global hE.kind (by show env.scope.names.lookup x = _; rw [hE.look]; exact hx) (Calls.loadGlobal_global (by rw [hE.glob]; exact c.g.keeps top) hv h) hp.1
theorem global_blt {A : Around} {env : Env} {lay : List Loc} {x : PySem.Str} {pos : Pos} {v : Value} {s : Shared} {Q : Value → Shared → Prop} {E : Value → Shared → Prop} (c : COK C)
    (hE : EnvOK env sc xs lay) (hx : sc.lookup x = some .globalImplicit) (hp : plainName x = true) (hm : x ∈ (["len", "abs", "max", "sum", "list", "range", "enumerate", "reversed"] : List PySem.Str))
    (hn : x ≠ "__name__") (top : ∀ b o, C.top.get? b = some o → s.heap.get? b = some o) (hv : bootBuiltins x = some v) (h : Q v s) :
    wpAny (model C.prog C.w) A (eval (.Name x pos) env) Q E s := by
  have hp := plain_two hp
  exact Calls.Name_function_global hE.kind (by show env.scope.names.lookup x = _; rw [hE.look]; exact hx)
    (Calls.loadGlobal_builtin (by rw [hE.glob]; exact c.g.keeps top) (c.free x hm) (by rw [hE.blt]; exact c.b.keeps top) ((c.blt x hn).trans hv) h) hp.1
end
end Mine
-- ME
namespace Mine
open PySem PySem.W PyProof.Rows

theorem AftK.drx {C : Cx} {s s' : Shared} {d : Dr} (x : AftK s s') (h : DRel C s.heap d) : DRel C s'.heap d := h.keep x.2

section
variable {C : Cx} {Γ : Env0} {n : Nat} {sc : List (PySem.Str × NameKind)} {xs : List (Option PySem.Str)}

/-- what was new to a later state is new to an earlier one -/
theorem RepE.back {s s' : Shared} {h : Heap} {d : Dr} {W : Addr → Prop} {f : Bool} {val : Value} {v : V} (r : RepE C.d0 s' h W f val v) (k : Aft C.d0 s s') (hd : DRel C s'.heap d) : RepE C.d0 s h W f val v := by
  refine ⟨r.1, fun hf l e => ?_⟩
  obtain ⟨a, items, h1, h2, h3, h4⟩ := r.2 hf l e
  refine ⟨a, items, h1, ?_, h3, h4⟩
  cases e' : s.heap.get? a with
  | none => rfl
  | some o =>
    exfalso
    by_cases q : a = C.d0
    · subst q; obtain ⟨o', e''⟩ := hd.alloc; rw [h2] at e''; cases e''
    · have := k.2 a o e' q; rw [h2] at this; cases this
theorem RepE.plain {s : Shared} {h : Heap} {W : Addr → Prop} {val : Value} {v : V} (r : Rep C.d0 h W val v) : RepE C.d0 s h W false val v := ⟨r, fun e => by cases e⟩
theorem RepE.notLst {s : Shared} {h : Heap} {W : Addr → Prop} {f : Bool} {val : Value} {v : V} (r : Rep C.d0 h W val v) (hv : v.isLst = false) : RepE C.d0 s h W f val v := ⟨r, fun _ l e => by subst e; cases hv⟩

theorem se_none {k pos} : SE C Γ n sc xs (.Constant .none k pos) .cnone := by
  intro fr d v d' hv A env lay W0 ow s Q E R hE I hQ
  cases hv
  exact wpAny_Constant_none (hQ _ _ (.refl ..) I.hi.dr (.plain .none))
theorem se_bool {b k pos} : SE C Γ n sc xs (.Constant (.bool b) k pos) (.cbool b) := by
  intro fr d v d' hv A env lay W0 ow s Q E R hE I hQ
  cases hv
  exact wpAny_Constant_bool (hQ _ _ (.refl ..) I.hi.dr (.plain (.bool b)))
theorem se_int {i k pos} : SE C Γ n sc xs (.Constant (.int i) k pos) (.cint i) := by
  intro fr d v d' hv A env lay W0 ow s Q E R hE I hQ
  cases hv
  exact wpAny_Constant_int (hQ _ _ .tok I.hi.dr (.plain (.int i _)))
theorem se_str {x : PySem.Str} {k pos} : SE C Γ n sc xs (.Constant (.str x) k pos) (.cstr x) := by
  intro fr d v d' hv A env lay W0 ow s Q E R hE I hQ
  cases hv
  exact wpAny_Constant_str (hQ _ _ .tok I.hi.dr (.plain (.str x _)))

variable (c : COK C)
include c
theorem se_bin {l r : Expr} {op : Operator} {pos : Pos} {o : BOp} {l' r' : E} (ho : opB op = some o) (h1 : SE C Γ n sc xs l l') (h2 : SE C Γ n sc xs r r') : SE C Γ n sc xs (.BinOp l op r pos) (.bin o l' r') := by
  intro fr d v d' hv A env lay W0 ow s Q E R hE I hQ
  obtain ⟨a, d1, e1, hv⟩ := bind2 hv
  obtain ⟨b, d2, e2, hv⟩ := bind2 hv
  obtain ⟨w, e3, hv⟩ := bind_inv hv
  cases hv
  refine wpAny_BinOp (h1 _ _ _ _ e1 A env lay W0 ow s _ E R hE I fun x s1 k1 hd1 r1 => ?_)
  refine h2 _ _ _ _ e2 A env lay W0 ow s1 _ E R hE (I.aft c k1 hd1) fun y s2 k2 hd2 r2 => ?_
  refine bin_ok ho e3 (I.aft c (k1.trans k2) hd2).hi.al (r1.1.aft hd1 k2) r2.1 fun val s3 k3 r3 => ?_
  exact hQ val s3 (k1.trans (k2.trans (k3.aft _))) (k3.drx hd2) (r3.back (k1.trans k2) hd2)
theorem se_neg {x : Expr} {pos : Pos} {x' : E} (h1 : SE C Γ n sc xs x x') : SE C Γ n sc xs (.UnaryOp .USub x pos) (.neg x') := by
  intro fr d v d' hv A env lay W0 ow s Q E R hE I hQ
  obtain ⟨a, d1, e1, hv⟩ := bind2 hv
  obtain ⟨i, e2, hv⟩ := bind_inv hv
  cases V.int?_inv e2
  cases hv
  refine UnaryOp_ (h1 _ _ _ _ e1 A env lay W0 ow s _ E R hE I fun x s1 k1 hd1 r1 => ?_)
  obtain ⟨t, rfl⟩ := r1.1.int_of
  exact PyProof.Rows.neg_int (hQ _ _ (k1.trans .tok) hd1 (.int ..))
theorem se_not {x : Expr} {pos : Pos} {x' : E} (h1 : SE C Γ n sc xs x x') : SE C Γ n sc xs (.UnaryOp .Not x pos) (.not x') := by
  intro fr d v d' hv A env lay W0 ow s Q E R hE I hQ
  obtain ⟨a, d1, e1, hv⟩ := bind2 hv
  obtain ⟨b, e2, hv⟩ := bind_inv hv
  cases V.bool?_inv e2
  cases hv
  refine UnaryOp_ (h1 _ _ _ _ e1 A env lay W0 ow s _ E R hE I fun x s1 k1 hd1 r1 => ?_)
  cases r1.1.bool_of
  exact not_of (wpAny_truthy_bool (hQ _ _ k1 hd1 (.plain (.bool _))))
theorem se_and {x y : Expr} {rest : List Expr} {pos : Pos} {x' y' : E} (h1 : SE C Γ n sc xs x x') (h2 : SE C Γ n sc xs (.BoolOp .And (y :: rest) pos) y') : SE C Γ n sc xs (.BoolOp .And (x :: y :: rest) pos) (.bop true x' y') := by
  intro fr d v d' hv A env lay W0 ow s Q E R hE I hQ
  obtain ⟨a, d1, e1, hv⟩ := bind2 hv
  obtain ⟨b, e2, hv⟩ := bind_inv hv
  cases V.bool?_inv e2
  refine BoolOp_and (h1 _ _ _ _ e1 A env lay W0 ow s _ E R hE I fun x s1 k1 hd1 r1 => ?_)
  cases r1.1.bool_of
  refine wpAny_truthy_bool ?_
  cases b with
  | false => cases hv; exact hQ _ _ k1 hd1 (.notLst (.bool _) rfl)
  | true => exact h2 _ _ _ _ hv A env lay W0 ow s1 _ E R hE (I.aft c k1 hd1) fun y s2 k2 hd2 r2 => hQ _ _ (k1.trans k2) hd2 (.plain r2.1)
omit c in
theorem se_and1 {x : Expr} {pos : Pos} {x' : E} (h1 : SE C Γ n sc xs x x') : SE C Γ n sc xs (.BoolOp .And [x] pos) x' :=
  fun fr d v d' hv A env lay W0 ow s Q E R hE I hQ => BoolOp_one (h1 fr d v d' hv A env lay W0 ow s Q E R hE I hQ)

/-- tests -/
theorem ST.of {e : Expr} {e' : E} (h : SE C Γ n sc xs e e') (he : ∀ env whole, isTrue e env whole = (do let v ← whole; standAt e.pos; holding [v] (truthy v))) : ST C Γ n sc xs e e' := by
  intro fr d b d' hv A env lay W0 ow s Q E R hE I hQ
  refine isTrue_plain (h _ _ _ _ hv A env lay W0 ow s _ E R hE I fun x s1 k1 hd1 r1 => ?_) (he _ _)
  obtain ⟨r1, _⟩ := r1
  cases r1
  exact wpAny_truthy_bool (hQ _ k1 hd1)
theorem st_not {x : Expr} {pos : Pos} {x' : E} (h1 : ST C Γ n sc xs x x') : ST C Γ n sc xs (.UnaryOp .Not x pos) (.not x') := by
  intro fr d b d' hv A env lay W0 ow s Q E R hE I hQ
  obtain ⟨a, d1, e1, hv⟩ := bind2 hv
  obtain ⟨b, e2, hv⟩ := bind_inv hv
  cases V.bool?_inv e2
  cases hv
  exact isTrue_not (h1 _ _ _ _ e1 A env lay W0 ow s _ E R hE I fun s1 k1 hd1 => hQ _ k1 hd1)
theorem st_and {x y : Expr} {rest : List Expr} {pos : Pos} {x' y' : E} (h1 : ST C Γ n sc xs x x') (h2 : ST C Γ n sc xs (.BoolOp .And (y :: rest) pos) y') : ST C Γ n sc xs (.BoolOp .And (x :: y :: rest) pos) (.bop true x' y') := by
  intro fr d v d' hv A env lay W0 ow s Q E R hE I hQ
  obtain ⟨a, d1, e1, hv⟩ := bind2 hv
  obtain ⟨b, e2, hv⟩ := bind_inv hv
  cases V.bool?_inv e2
  refine isTrue_and (h1 _ _ _ _ e1 A env lay W0 ow s _ E R hE I fun s1 k1 hd1 => ?_)
  cases b with
  | false => cases hv; exact hQ _ k1 hd1
  | true => exact h2 _ _ _ _ hv A env lay W0 ow s1 _ E R hE (I.aft c k1 hd1) fun s2 k2 hd2 => hQ _ (k1.trans k2) hd2
theorem st_or {x y : Expr} {rest : List Expr} {pos : Pos} {x' y' : E} (h1 : ST C Γ n sc xs x x') (h2 : ST C Γ n sc xs (.BoolOp .Or (y :: rest) pos) y') : ST C Γ n sc xs (.BoolOp .Or (x :: y :: rest) pos) (.bop false x' y') := by
  intro fr d v d' hv A env lay W0 ow s Q E R hE I hQ
  obtain ⟨a, d1, e1, hv⟩ := bind2 hv
  obtain ⟨b, e2, hv⟩ := bind_inv hv
  cases V.bool?_inv e2
  refine isTrue_or (h1 _ _ _ _ e1 A env lay W0 ow s _ E R hE I fun s1 k1 hd1 => ?_)
  cases b with
  | true => cases hv; exact hQ _ k1 hd1
  | false => exact h2 _ _ _ _ hv A env lay W0 ow s1 _ E R hE (I.aft c k1 hd1) fun s2 k2 hd2 => hQ _ (k1.trans k2) hd2
theorem st_and1 {x : Expr} {pos : Pos} {x' : E} (h1 : ST C Γ n sc xs x x') : ST C Γ n sc xs (.BoolOp .And [x] pos) x' := by
  intro fr d b d' hv A env lay W0 ow s Q E R hE I hQ
  refine isTrue_and (h1 _ _ _ _ hv A env lay W0 ow s _ E R hE I fun s1 k1 hd1 => ?_)
  cases b with
  | false => exact hQ _ k1 hd1
  | true => exact isTrue_and_nil (hQ _ k1 hd1)
theorem st_or1 {x : Expr} {pos : Pos} {x' : E} (h1 : ST C Γ n sc xs x x') : ST C Γ n sc xs (.BoolOp .Or [x] pos) x' := by
  intro fr d b d' hv A env lay W0 ow s Q E R hE I hQ
  refine isTrue_or (h1 _ _ _ _ hv A env lay W0 ow s _ E R hE I fun s1 k1 hd1 => ?_)
  cases b with
  | true => exact hQ _ k1 hd1
  | false => exact isTrue_or_nil (hQ _ k1 hd1)
theorem se_ite {t x y : Expr} {pos : Pos} {t' x' y' : E} (h1 : ST C Γ n sc xs t t') (h2 : SE C Γ n sc xs x x') (h3 : SE C Γ n sc xs y y') : SE C Γ n sc xs (.IfExp t x y pos) (.ite t' x' y') := by
  intro fr d v d' hv A env lay W0 ow s Q E R hE I hQ
  obtain ⟨a, d1, e1, hv⟩ := bind2 hv
  obtain ⟨b, e2, hv⟩ := bind_inv hv
  cases V.bool?_inv e2
  refine IfExp_ (h1 _ _ _ _ e1 A env lay W0 ow s _ E R hE I fun s1 k1 hd1 => ?_)
  cases b with
  | true => exact h2 _ _ _ _ hv A env lay W0 ow s1 _ E R hE (I.aft c k1 hd1) fun val s2 k2 hd2 r => hQ _ _ (k1.trans k2) hd2 (.plain r.1)
  | false => exact h3 _ _ _ _ hv A env lay W0 ow s1 _ E R hE (I.aft c k1 hd1) fun val s2 k2 hd2 r => hQ _ _ (k1.trans k2) hd2 (.plain r.1)

omit c in
theorem RepB.weak {h : Heap} {W : Addr → Prop} {val : Value} {v : V} (r : RepB C.d0 h W val v) : Rep C.d0 h (fun _ => False) val v := by
  rcases r with r | ⟨a, items, l, rfl, rfl, h1, h2, h3⟩
  · exact r.mono fun b o e _ _ => ⟨e, id⟩
  · exact .lst h1 id h2 (h3.mono fun b o e _ _ => ⟨e, id⟩)
omit c in
theorem RepB.aft {s s' : Shared} {d : Dr} {W : Addr → Prop} {val : Value} {v : V} (r : RepB C.d0 s.heap W val v) (hd : DRel C s.heap d) (k : Aft C.d0 s s') : RepB C.d0 s'.heap W val v := by
  rcases r with r | ⟨a, items, l, rfl, rfl, h1, h2, h3⟩
  · exact .inl (r.aft hd k)
  · exact .inr ⟨a, items, l, rfl, rfl, h1.aft hd k, h2, h3.aft hd k⟩

theorem se_cmp {l r : Expr} {op : CmpOp} {pos : Pos} {o : COp} {l' r' : E} (ho : opC op = some o) (h1 : SB C Γ n sc xs l l') (h2 : SB C Γ n sc xs r r') (hm : behindInMarks op r = false) : SE C Γ n sc xs (.Compare l [op] [r] pos) (.cmp o l' r') := by
  intro fr d v d' hv A env lay W0 ow s Q E R hE I hQ
  obtain ⟨a, d1, e1, hv⟩ := bind2 hv
  obtain ⟨b, d2, e2, hv⟩ := bind2 hv
  obtain ⟨w, e3, hv⟩ := bind_inv hv
  cases hv
  refine wpAny_Compare1 (hm := hm) (h1 _ _ _ _ e1 A env lay W0 ow s _ E R hE I fun x s1 k1 hd1 r1 => ?_)
  refine h2 _ _ _ _ e2 A env lay W0 ow s1 _ E R hE (I.aft c k1 hd1) fun y s2 k2 hd2 r2 => ?_
  exact cmp_ok R ho e3 (r1.aft hd1 k2).weak r2.weak (hQ _ _ (k1.trans k2) hd2 (.plain (.bool _)))
theorem st_cmp {l r : Expr} {op : CmpOp} {pos : Pos} {o : COp} {l' r' : E} (ho : opC op = some o) (h1 : SB C Γ n sc xs l l') (h2 : SB C Γ n sc xs r r') (hm : behindInMarks op r = false) : ST C Γ n sc xs (.Compare l [op] [r] pos) (.cmp o l' r') := by
  intro fr d v d' hv A env lay W0 ow s Q E R hE I hQ
  obtain ⟨a, d1, e1, hv⟩ := bind2 hv
  obtain ⟨b, d2, e2, hv⟩ := bind2 hv
  obtain ⟨w, e3, hv⟩ := bind_inv hv
  cases hv
  refine wpAny_isTrue_Compare1 (hm := hm) (h1 _ _ _ _ e1 A env lay W0 ow s _ E R hE I fun x s1 k1 hd1 r1 => ?_)
  refine h2 _ _ _ _ e2 A env lay W0 ow s1 _ E R hE (I.aft c k1 hd1) fun y s2 k2 hd2 r2 => ?_
  exact cmp_ok R ho e3 (r1.aft hd1 k2).weak r2.weak (wpAny_truthy_bool (hQ _ (k1.trans k2) hd2))
theorem st_cmp2 {l r z : Expr} {op op2 : CmpOp} {pos : Pos} {o o2 : COp} {l' r' z' : E} (ho : opC op = some o) (ho2 : opC op2 = some o2) (h1 : SB C Γ n sc xs l l') (h2 : SB C Γ n sc xs r r') (h3 : SB C Γ n sc xs z z')
    (hm : lastMarks [op, op2] [r, z] = false) : ST C Γ n sc xs (.Compare l [op, op2] [r, z] pos) (.cmp2 o o2 l' r' z') := by
  intro fr d v d' hv A env lay W0 ow s Q E R hE I hQ
  obtain ⟨a, d1, e1, hv⟩ := bind2 hv
  obtain ⟨b, d2, e2, hv⟩ := bind2 hv
  obtain ⟨w, e3, hv⟩ := bind_inv hv
  refine isTrue_chain (hm := hm) (h1 _ _ _ _ e1 A env lay W0 ow s _ E R hE I fun x s1 k1 hd1 r1 => ?_)
  refine test_link (h2 _ _ _ _ e2 A env lay W0 ow s1 _ E R hE (I.aft c k1 hd1) fun y s2 k2 hd2 r2 => ?_)
  refine cmp_ok R ho e3 (r1.aft hd1 k2).weak r2.weak (wpAny_truthy_bool ?_)
  cases w with
  | false => cases hv; exact hQ _ (k1.trans k2) hd2
  | true =>
    obtain ⟨u, d3, e4, hv⟩ := bind2 hv
    obtain ⟨w2, e5, hv⟩ := bind_inv hv
    cases hv
    refine test_last (h3 _ _ _ _ e4 A env lay W0 ow s2 _ E R hE (I.aft c (k1.trans k2) hd2) fun y s3 k3 hd3 r3 => ?_)
    exact cmp_ok R ho2 e5 (r2.aft hd2 k3).weak r3.weak (wpAny_truthy_bool (hQ _ (k1.trans (k2.trans k3)) hd3))
end
end Mine
-- MF
namespace Mine
open PySem PySem.W PyProof.Rows

section
variable {C : Cx} {Γ : Env0} {n : Nat} {sc : List (PySem.Str × NameKind)} {xs : List (Option PySem.Str)}

theorem sl_nil : SL1 C Γ n sc xs [] .nil := by
  intro fr d vs d' hv A env lay W0 ow s pos Q E R hE I hQ
  cases hv
  exact args_nil (hQ _ _ (.refl ..) I.hi.dr .nil)
noncomputable def EL.len : EL → Nat
  | .nil => 0
  | .cons _ l => l.len + 1
theorem evL_len : ∀ (l : EL) {fr : Frm} {d : Dr} {vs : List V} {d' : Dr}, evL Γ l fr d = some (vs, d') → vs.length = l.len
  | .nil, _, _, _, _, h => by cases h; rfl
  | .cons e l, _, _, _, _, h => by
    obtain ⟨v, d1, e1, h⟩ := bind2 h
    obtain ⟨ws, d2, e2, h⟩ := bind2 h
    cases h
    exact congrArg (· + 1) (evL_len l e2)

variable (c : COK C)
include c
theorem sl_cons {e : Expr} {rest : List Expr} {e' : E} {l' : EL} (h1 : SE C Γ n sc xs e e') (h2 : SL1 C Γ n sc xs rest l') (he : ∀ env, starEach (e :: rest) env = (false, eval e env) :: starEach rest env) :
    SL1 C Γ n sc xs (e :: rest) (.cons e' l') := by
  intro fr d vs d' hv A env lay W0 ow s pos Q E R hE I hQ
  obtain ⟨v, d1, e1, hv⟩ := bind2 hv
  obtain ⟨ws, d2, e2, hv⟩ := bind2 hv
  cases hv
  refine args_cons (he := he env) (h1 _ _ _ _ e1 A env lay W0 ow s _ E R hE I fun x s1 k1 hd1 r1 => ?_)
  exact h2 _ _ _ _ e2 A env lay W0 ow s1 pos _ E R hE (I.aft c k1 hd1) fun ys s2 k2 hd2 r2 => hQ _ _ (k1.trans k2) hd2 (.cons (r1.1.aft hd1 k2) r2)

theorem se_list {es : List Expr} {pos : Pos} {l' : EL} (h1 : SL1 C Γ n sc xs es l') (hl : l'.len ≤ LIM) : SE C Γ n sc xs (.List es pos) (.lst l') := by
  intro fr d v d' hv A env lay W0 ow s Q E R hE I hQ
  obtain ⟨vs, d1, e1, hv⟩ := bind2 hv
  cases hv
  refine wpAny_List (h1 _ _ _ _ e1 A env lay W0 ow s pos _ E R hE I fun ys s1 k1 hd1 r1 => ?_)
  have hz : vs.length ≤ LIM := by rw [evL_len _ e1]; exact hl
  have I1 := I.aft c k1 hd1
  refine ⟨by rw [r1.length]; exact Nat.le_trans hz (by decide), hQ _ _ (k1.trans .push) (AftK.drx (s := s1) .push hd1) ?_⟩
  exact (RepE.push (s := s1) I1.hi.al hz r1 true).back k1 hd1
theorem se_tup {es : List Expr} {k : Nat} {pos : Pos} {l' : EL} (h1 : SL1 C Γ n sc xs es l') (hl : l'.len ≤ LIM) : SE C Γ n sc xs (.Tuple es k pos) (.tup l') := by
  intro fr d v d' hv A env lay W0 ow s Q E R hE I hQ
  obtain ⟨vs, d1, e1, hv⟩ := bind2 hv
  cases hv
  refine wpAny_Tuple (h1 _ _ _ _ e1 A env lay W0 ow s pos _ E R hE I fun ys s1 k1 hd1 r1 => ?_)
  have hz : vs.length ≤ LIM := by rw [evL_len _ e1]; exact hl
  have I1 := I.aft c k1 hd1
  refine ⟨by rw [r1.length]; exact Nat.le_trans hz (by decide), hQ _ _ (k1.trans .push) (AftK.drx (s := s1) .push hd1) (.plain (.tup (IsTup.new _ _) ?_ ?_))⟩
  · intro hw
    obtain ⟨o, e⟩ := I1.hi.al _ hw
    rw [get_size] at e; cases e
  · exact r1.keepK fun _ _ e => Heap.get?_push_of_some _ e

/-- a call of a def -/
theorem se_call {x : PySem.Str} {np pos : Pos} {e : Expr} {rest : List Expr} {l' : EL} {f : Nat} (g : GOK C n Γ) (hf : fname f = x) (hx : sc.lookup x = some .globalImplicit) (hp : plainName x = true)
    (h1 : SL1 C Γ n sc xs (e :: rest) l') (he : ∀ env, starEach (e :: rest) env = (false, eval e env) :: starEach rest env) : SE C Γ n sc xs (.Call (.Name x np) (e :: rest) [] pos) (.call f l') := by
  intro fr d v d' hv A env lay W0 ow s Q E R hE I hQ
  obtain ⟨vs, d1, e1, e2⟩ := bind2 hv
  obtain ⟨a, o, fd, hg, ho, hd, H⟩ := g.1 _ _ _ _ _ e2
  rw [hf] at hg
  refine wpAny_Call_NameR (global_val c hE hx hp I.hi.top hg ?_)
  refine callWith_def (he := he env) hd (h1 _ _ _ _ e1 A env lay W0 ow s pos _ E R hE I fun ys s1 k1 hd1 r1 => ?_)
  have I1 := I.aft c k1 hd1
  refine ⟨I1.hi.top _ _ ho, ?_⟩
  exact H A s1 _ ys _ E R I1.hi r1 fun val s' k' hd' r' => hQ _ _ (k1.trans k') hd' (r'.back k1 hd1)

theorem se_glob {x : PySem.Str} {pos : Pos} {one : Bool} (hx : sc.lookup x = some .globalImplicit) (hp : plainName x = true) (h1 : x = if one then "R1" else "R0") : SE C Γ n sc xs (.Name x pos) (.glob one) := by
  intro fr d v d' hv A env lay W0 ow s Q E R hE I hQ
  cases hv
  have key : ∃ a vs, C.mg x = some (.ref a) ∧ IsTup C.top a vs.toArray ∧ IntsAre vs [if one then 1 else 0, 1] := by
    subst h1
    cases one with
    | true => exact c.r1
    | false => exact c.r0
  obtain ⟨a, vs, hg, ht, hi⟩ := key
  refine global_val c hE hx hp I.hi.top hg (hQ _ _ (.refl ..) I.hi.dr (.plain (.tup (ht.keeps I.hi.top) (fun hw => ?_) ?_)))
  · obtain ⟨o, e, _⟩ := ht
    rw [I.hi.wt _ hw] at e; cases e
  · cases hi with
    | cons _ _ hi => cases hi with
      | cons _ _ hi => cases hi; exact .cons (.int _ _) (.cons (.int _ _) .nil)

/-- the built-ins -/
theorem se_len {np pos : Pos} {e : Expr} {e' : E} (hx : sc.lookup ("len" : PySem.Str) = some .globalImplicit) (h1 : SB C Γ n sc xs e e') (he : ∀ env, starEach [e] env = [(false, eval e env)]) :
    SE C Γ n sc xs (.Call (.Name "len" np) [e] [] pos) (.len e') := by
  intro fr d v d' hv A env lay W0 ow s Q E R hE I hQ
  obtain ⟨a, d1, e1, hv⟩ := bind2 hv
  obtain ⟨l, e2, hv⟩ := bind_inv hv
  cases V.lst?_inv e2
  cases hv
  refine wpAny_Call_NameR (global_blt c hE hx (by decide +kernel) (by decide +kernel) (by decide +kernel) I.hi.top PyProof.Rows.Boot.«len» ?_)
  refine PyProof.Rows.callWith_builtin1 (he := he env) (args_cons (he := he env) (h1 _ _ _ _ e1 A env lay W0 ow s _ E R hE I fun x s1 k1 hd1 r1 => args_nil ?_))
  obtain ⟨a, items, rfl, hl, hw, hm, r⟩ := r1.weak.lst_of
  have hz := r.length
  rw [Array.length_toList] at hz
  refine PyProof.Rows.len_list hl.isList (by have : LIM = 1000000 := rfl; omega) ?_
  rw [hz]
  exact hQ _ _ (k1.trans .tok) hd1 (.int ..)
theorem se_abs {np pos : Pos} {e : Expr} {e' : E} (hx : sc.lookup ("abs" : PySem.Str) = some .globalImplicit) (h1 : SE C Γ n sc xs e e') (he : ∀ env, starEach [e] env = [(false, eval e env)]) :
    SE C Γ n sc xs (.Call (.Name "abs" np) [e] [] pos) (.abs e') := by
  intro fr d v d' hv A env lay W0 ow s Q E R hE I hQ
  obtain ⟨a, d1, e1, hv⟩ := bind2 hv
  obtain ⟨i, e2, hv⟩ := bind_inv hv
  cases V.int?_inv e2
  cases hv
  refine wpAny_Call_NameR (global_blt c hE hx (by decide +kernel) (by decide +kernel) (by decide +kernel) I.hi.top PyProof.Rows.Boot.«abs» ?_)
  refine PyProof.Rows.callWith_builtin1 (he := he env) (args_cons (he := he env) (h1 _ _ _ _ e1 A env lay W0 ow s _ E R hE I fun x s1 k1 hd1 r1 => args_nil ?_))
  obtain ⟨t, rfl⟩ := r1.1.int_of
  exact call_abs_int fun u tk => hQ _ _ (k1.trans .tok) hd1 (.int ..)
theorem se_max2 {np pos : Pos} {e₁ e₂ : Expr} {e₁' e₂' : E} (hx : sc.lookup ("max" : PySem.Str) = some .globalImplicit) (h1 : SE C Γ n sc xs e₁ e₁') (h2 : SE C Γ n sc xs e₂ e₂') (he : ∀ env, starEach [e₁, e₂] env = [(false, eval e₁ env), (false, eval e₂ env)])
    (he2 : ∀ env, starEach [e₂] env = [(false, eval e₂ env)]) :
    SE C Γ n sc xs (.Call (.Name "max" np) [e₁, e₂] [] pos) (.max2 e₁' e₂') := by
  intro fr d v d' hv A env lay W0 ow s Q E R hE I hQ
  obtain ⟨a, d1, e1, hv⟩ := bind2 hv
  obtain ⟨b, d2, e2, hv⟩ := bind2 hv
  obtain ⟨m, e3, hv⟩ := bind_inv hv
  obtain ⟨i, j, e4, e5, e6⟩ := int2_inv e3
  cases e4; cases e5; cases e6; cases hv
  refine wpAny_Call_NameR (global_blt c hE hx (by decide +kernel) (by decide +kernel) (by decide +kernel) I.hi.top PyProof.Rows.Boot.«max» ?_)
  refine PyProof.Rows.callWith_builtin1 (he := by rw [he, he2]) (hplain := by rw [he2]; rfl) (args_cons (he := by rw [he, he2]) (h1 _ _ _ _ e1 A env lay W0 ow s _ E R hE I fun x s1 k1 hd1 r1 => ?_))
  refine args_cons (he := he2 env) (h2 _ _ _ _ e2 A env lay W0 ow s1 _ E R hE (I.aft c k1 hd1) fun y s2 k2 hd2 r2 => args_nil ?_)
  obtain ⟨t, rfl⟩ := r1.1.int_of
  obtain ⟨u, rfl⟩ := r2.1.int_of
  refine max_two_ints R.hd fun h' tk hk => ?_
  have k3 : Aft C.d0 s2 { s2 with heap := h', toks := tk } := .of hk
  by_cases hc : j > i
  · rw [if_pos hc] at hQ ⊢
    exact hQ _ _ (k1.trans (k2.trans k3)) (hd2.keep hk) (.int ..)
  · rw [if_neg hc] at hQ ⊢
    exact hQ _ _ (k1.trans (k2.trans k3)) (hd2.keep hk) (.int ..)

theorem foldl_max : ∀ (l : List Int) (z M : Int), (M = z ∨ M ∈ l) → z ≤ M → (∀ a ∈ l, a ≤ M) → l.foldl (fun m j => if j > m then j else m) z = M
  | [], z, M, h, _, _ => by rcases h with h | h; · exact h.symm
                            · cases h
  | a :: l, z, M, h, hz, ha => by
    have h1 := ha a List.mem_cons_self
    rw [List.foldl_cons]
    refine foldl_max l _ M ?_ (by split <;> assumption) fun b hb => ha b (List.mem_cons_of_mem _ hb)
    rcases h with h | h
    · left; split <;> omega
    · rcases List.mem_cons.mp h with h | h
      · left; split <;> omega
      · right; exact h
theorem se_maxl {np pos : Pos} {e : Expr} {e' : E} (hx : sc.lookup ("max" : PySem.Str) = some .globalImplicit) (h1 : SE C Γ n sc xs e e') (he : ∀ env, starEach [e] env = [(false, eval e env)]) :
    SE C Γ n sc xs (.Call (.Name "max" np) [e] [] pos) (.maxl e') := by
  intro fr d v d' hv A env lay W0 ow s Q E R hE I hQ
  obtain ⟨a, d1, e1, hv⟩ := bind2 hv
  obtain ⟨l, e2, hv⟩ := bind_inv hv
  cases V.lst?_inv e2
  obtain ⟨nl, hi, hv⟩ := bind_inv hv
  obtain ⟨m, e3, hv⟩ := bind_inv hv
  cases nl with
  | nil => cases e3
  | cons i ns =>
  cases e3
  cases hv
  refine wpAny_Call_NameR (global_blt c hE hx (by decide +kernel) (by decide +kernel) (by decide +kernel) I.hi.top PyProof.Rows.Boot.«max» ?_)
  refine PyProof.Rows.callWith_builtin1 (he := he env) (args_cons (he := he env) (h1 _ _ _ _ e1 A env lay W0 ow s _ E R hE I fun x s1 k1 hd1 r1 => args_nil ?_))
  obtain ⟨a, items, rfl, hl, hw, hm, r⟩ := r1.1.lst_of
  have his := r.ints hi
  obtain ⟨zs, ez⟩ := his.allInts.items
  have hns : i :: ns = zs.toList.map (·.1) := by rw [← his.numsOf, ← nums_intItems, ← ez]
  have hsz : 0 < zs.size := by
    have : (i :: ns).length = zs.size := by rw [hns, List.length_map, Array.length_toList]
    rw [← this]; exact Nat.succ_pos _
  have hl' := hl.isList
  rw [show items = intItems zs from by rw [← ez]] at hl'
  refine max_intList R.hd hl' hsz fun v h' tk hv hk => ?_
  obtain ⟨t, rfl⟩ := intItems_at hv
  obtain ⟨h3, h4⟩ := argBest_gt (numAt zs) (zs.size - 1)
  have hmem : numAt zs (argBest (fun i j => decide (numAt zs i > numAt zs j)) (zs.size - 1)) ∈ i :: ns := by
    rw [hns, numAt_eq]; exact getD_mem (by rw [List.length_map, Array.length_toList]; omega)
  have hall : ∀ a ∈ i :: ns, a ≤ numAt zs (argBest (fun i j => decide (numAt zs i > numAt zs j)) (zs.size - 1)) := by
    intro a ha
    rw [hns] at ha
    obtain ⟨j, hj, rfl⟩ := mem_getD ha
    rw [List.length_map, Array.length_toList] at hj
    rw [← numAt_eq]; exact h4 j (by omega)
  rw [foldl_max c ns i _ (List.mem_cons.mp hmem) (hall _ List.mem_cons_self) fun a ha => hall a (List.mem_cons_of_mem _ ha)] at hQ
  exact hQ _ _ (k1.trans (.of hk)) (hd1.keep hk) (.int ..)
theorem se_suml {np pos : Pos} {e : Expr} {e' : E} (hx : sc.lookup ("sum" : PySem.Str) = some .globalImplicit) (h1 : SE C Γ n sc xs e e') (he : ∀ env, starEach [e] env = [(false, eval e env)]) :
    SE C Γ n sc xs (.Call (.Name "sum" np) [e] [] pos) (.suml e') := by
  intro fr d v d' hv A env lay W0 ow s Q E R hE I hQ
  obtain ⟨a, d1, e1, hv⟩ := bind2 hv
  obtain ⟨l, e2, hv⟩ := bind_inv hv
  cases V.lst?_inv e2
  obtain ⟨ns, hi, hv⟩ := bind_inv hv
  cases hv
  refine wpAny_Call_NameR (global_blt c hE hx (by decide +kernel) (by decide +kernel) (by decide +kernel) I.hi.top PyProof.Rows.Boot.«sum» ?_)
  refine PyProof.Rows.callWith_builtin1 (he := he env) (args_cons (he := he env) (h1 _ _ _ _ e1 A env lay W0 ow s _ E R hE I fun x s1 k1 hd1 r1 => args_nil ?_))
  obtain ⟨a, items, rfl, hl, hw, hm, r⟩ := r1.1.lst_of
  have his := r.ints hi
  obtain ⟨zs, ez⟩ := his.allInts.items
  have hns : ns = zs.toList.map (·.1) := by rw [← his.numsOf, ← nums_intItems, ← ez]
  have hl' := hl.isList
  rw [show items = intItems zs from by rw [← ez]] at hl'
  refine sum_intListG R.hd hl' fun h' tk t' hk => ?_
  rw [preSum_eq, List.take_of_length_le (by simp), ← hns]
  exact hQ _ _ (k1.trans (.of hk)) (hd1.keep hk) (.int ..)
theorem se_copy {np pos : Pos} {e : Expr} {e' : E} (hx : sc.lookup ("list" : PySem.Str) = some .globalImplicit) (h1 : SE C Γ n sc xs e e') (he : ∀ env, starEach [e] env = [(false, eval e env)]) :
    SE C Γ n sc xs (.Call (.Name "list" np) [e] [] pos) (.copy e') := by
  intro fr d v d' hv A env lay W0 ow s Q E R hE I hQ
  obtain ⟨a, d1, e1, hv⟩ := bind2 hv
  obtain ⟨l, e2, hv⟩ := bind_inv hv
  cases V.lst?_inv e2
  cases hv
  refine wpAny_Call_NameR (global_blt c hE hx (by decide +kernel) (by decide +kernel) (by decide +kernel) I.hi.top PyProof.Rows.Boot.«list» ?_)
  refine PyProof.Rows.callWith_type1 (he := he env) (args_cons (he := he env) (h1 _ _ _ _ e1 A env lay W0 ow s _ E R hE I fun x s1 k1 hd1 r1 => args_nil ?_))
  obtain ⟨a, items, rfl, hl, hw, hm, r⟩ := r1.1.lst_of
  obtain ⟨nn, e⟩ := hl
  have hz := r.length
  rw [Array.length_toList] at hz
  refine call_list_seq (hsz := by rw [hz]; exact Nat.le_trans hm (by decide)) a (.inl rfl) e rfl rfl fun h' c' hk hD => ?_
  have k2 : Aft C.d0 s1 { s1 with heap := h' } := .of hk
  exact hQ _ _ (k1.trans k2) (hd1.keep hk) ((RepE.fresh (s := s1) (I.aft c k1 hd1).hi.al (get_size _) ⟨_, hD⟩ hm r hk true).back k1 hd1)
end
end Mine
-- MG
namespace Mine
open PySem PySem.W PyProof.Rows

section
variable {C : Cx} {Γ : Env0} {n : Nat} {sc : List (PySem.Str × NameKind)} {xs : List (Option PySem.Str)}

theorem upto_pick (items : Array Value) (k : Int) : (slicePick items none (some k) none).toList = if 0 ≤ k then items.toList.take k.toNat else items.toList.take (items.toList.length - (-k).toNat) := by
  rw [kms_pick_eq]
  unfold kms_pick
  simp only [kms_lo, kms_hi, List.drop_zero, Nat.sub_zero]
  by_cases h : k < 0
  · rw [if_pos h, if_neg (by omega)]
  · rw [if_neg h, if_pos (by omega), List.take_eq_take_min, Nat.min_assoc, Nat.min_self, ← List.take_eq_take_min]

/-- a list behind another new object -/
theorem two_push {d0 : Addr} {s : Shared} {W : Addr → Prop} {l : List V} (o : Obj) (items : Array Value) (hW : Alloc s.heap W) (hm : l.length ≤ LIM) (r : Reps d0 s.heap W items.toList l) {a : Addr} (ha : (s.heap.push o).objs.size = a) :
    (∀ b o', s.heap.get? b = some o' → ((s.heap.push o).push { cls := .type "list", data := .seq items }).get? b = some o') ∧
    RepE d0 s ((s.heap.push o).push { cls := .type "list", data := .seq items }) W true (.ref a) (.lst l) := by
  subst ha
  have kk : ∀ b o', s.heap.get? b = some o' → ((s.heap.push o).push { cls := .type "list", data := .seq items }).get? b = some o' := fun b o e => Heap.get?_push_of_some _ (Heap.get?_push_of_some _ e)
  refine ⟨kk, .fresh hW ?_ ⟨0, Heap.get?_push_size _ rfl⟩ hm r kk true⟩
  rw [Heap.size_push]
  cases e : s.heap.get? (s.heap.objs.size + 1) with
  | none => rfl
  | some o => exact absurd (Heap.lt_size e) (Nat.not_lt.mpr (Nat.le_succ _))
theorem FI.drwAt {lay : List Loc} {fr : Frm} {W0 : Addr → Prop} {ow : Nat → Option Addr} {d : Dr} {k : Nat} {b : Bool} {h : Heap} (I : FI C lay fr W0 ow d h) (e : fr[k]? = some (some (b, V.drw))) : ∃ loc, lay[k]? = some loc ∧ loc.has h (.ref C.d0) := by
  cases b with
  | false =>
    obtain ⟨loc, val, h1, h2, h3⟩ := I.val k _ e
    cases h3; exact ⟨loc, h1, h2⟩
  | true =>
    obtain ⟨loc, a, items, l, h1, h2, _, h4, _⟩ := I.owns k _ e
    cases h4
variable (c : COK C)
include c
theorem item_ok {A : Around} {s : Shared} {d : Dr} {W : Addr → Prop} {value slice : Expr} {x : Value} {l : List V} {k : Int} {u : Tok} {v : V} {Q : Value → Shared → Prop} {E : Value → Shared → Prop}
    (hx : RepB C.d0 s.heap W x (.lst l)) (hv : idxV l k = some v) (hs : ∀ o k u, subscripted slice false o (.int k u) = operate [o, .int k u] (getItem o (.int k u)))
    (hQ : ∀ val, Rep C.d0 s.heap W val v → Q val s) : wpAny (model C.prog C.w) A (subscriptTail value slice x (.int k u)) Q E s := by
  have key : ∃ a items, x = .ref a ∧ PL s.heap a items ∧ l.length ≤ LIM ∧ Reps C.d0 s.heap W items.toList l := by
    rcases hx with hx | ⟨a, items, l', rfl, e, h1, h2, h3⟩
    · obtain ⟨a, items, h0, h1, h2, h3, h4⟩ := hx.lst_of; exact ⟨a, items, h0, h1, h3, h4⟩
    · cases e; exact ⟨_, _, rfl, h1, h2, h3⟩
  obtain ⟨a, items, rfl, hl, hm, r⟩ := key
  have hz := r.length
  rw [Array.length_toList] at hz
  have hL : LIM = 1000000 := rfl
  unfold idxV at hv
  by_cases h0 : 0 ≤ k
  · rw [if_pos h0] at hv
    obtain ⟨val, e, rv⟩ := r.get hv
    have hlt : k.toNat < items.toList.length := (List.getElem?_eq_some_iff.mp e).1
    rw [Array.length_toList] at hlt
    exact tail_any hl.isList.typeIs slot_list_getitem.lookup (wpAny_getItem_list hl.isList h0 (by omega) (by rw [← e, Array.getElem?_toList]) (hQ _ rv)) (hs _ _ _)
  · rw [if_neg h0] at hv
    obtain ⟨h1, hv⟩ := if_inv hv
    obtain ⟨val, e, rv⟩ := r.get hv
    exact tail_any hl.isList.typeIs slot_list_getitem.lookup (wpAny_getItem_list_neg hl.isList (by omega) (by omega) (by omega) (by rw [← e, hz, Array.getElem?_toList]) (hQ _ rv)) (hs _ _ _)
theorem tup_ok {A : Around} {s : Shared} {d : Dr} {W : Addr → Prop} {value slice : Expr} {x : Value} {l : List V} {k : Int} {u : Tok} {v : V} {Q : Value → Shared → Prop} {E : Value → Shared → Prop}
    (hx : Rep C.d0 s.heap W x (.tup l)) (hl : l.length ≤ LIM) (hv : idxV l k = some v) (hs : ∀ o k u, subscripted slice false o (.int k u) = operate [o, .int k u] (getItem o (.int k u)))
    (hQ : ∀ val, Rep C.d0 s.heap W val v → Q val s) : wpAny (model C.prog C.w) A (subscriptTail value slice x (.int k u)) Q E s := by
  obtain ⟨a, items, rfl, ht, hw, r⟩ := hx.tup_of
  have hz := r.length
  have hL : LIM = 1000000 := rfl
  unfold idxV at hv
  have ht' : IsTup s.heap a items.toList.toArray := by rw [Array.toArray_toList]; exact ht
  by_cases h0 : 0 ≤ k
  · rw [if_pos h0] at hv
    obtain ⟨val, e, rv⟩ := r.get hv
    have hlt : k.toNat < items.toList.length := (List.getElem?_eq_some_iff.mp e).1
    refine item_tupleT ht' (by omega) (by omega) (j := k.toNat) ?_ e (hQ _ rv) (hs _ _ _)
    have hk : ¬ k < 0 := by omega
    simp only [seqIndex?, if_neg hk, Bool.and_eq_true, decide_eq_true_eq]
    rw [if_pos ⟨h0, by omega⟩]
  · rw [if_neg h0] at hv
    obtain ⟨h1, hv⟩ := if_inv hv
    obtain ⟨val, e, rv⟩ := r.get hv
    refine item_tupleT ht' (by omega) (by omega) (j := (k + l.length).toNat) ?_ e (hQ _ rv) (hs _ _ _)
    have hk : k < 0 := by omega
    simp only [seqIndex?, if_pos hk, hz, Bool.and_eq_true, decide_eq_true_eq]
    rw [if_pos ⟨by omega, by omega⟩]

theorem se_idx {value slice : Expr} {pos : Pos} {a' i' : E} (h1 : SB C Γ n sc xs value a') (h2 : SE C Γ n sc xs slice i')
    (hs : ∀ o k u, subscripted slice false o (.int k u) = operate [o, .int k u] (getItem o (.int k u))) : SE C Γ n sc xs (.Subscript value slice pos) (.idx a' i') := by
  intro fr d v d' hv A env lay W0 ow s Q E R hE I hQ
  obtain ⟨a, d1, e1, hv⟩ := bind2 hv
  obtain ⟨b, d2, e2, hv⟩ := bind2 hv
  obtain ⟨l, e3, hv⟩ := bind_inv hv
  obtain ⟨k, e4, hv⟩ := bind_inv hv
  obtain ⟨w, e5, hv⟩ := bind_inv hv
  cases hv
  cases V.int?_inv e4
  refine Subscript_ (h1 _ _ _ _ e1 A env lay W0 ow s _ E R hE I fun x s1 k1 hd1 r1 => ?_)
  refine h2 _ _ _ _ e2 A env lay W0 ow s1 _ E R hE (I.aft c k1 hd1) fun y s2 k2 hd2 r2 => ?_
  obtain ⟨u, rfl⟩ := r2.1.int_of
  have r1' := r1.aft hd1 k2
  rcases V.seq?_inv e3 with e | ⟨e, hl⟩
  · cases e
    exact item_ok c (d := d2) r1' e5 hs fun val rv => hQ _ _ (k1.trans k2) hd2 (.plain rv)
  · cases e
    rcases r1' with r1' | ⟨_, _, _, _, e, _⟩
    · exact tup_ok c (d := d2) r1' hl e5 hs fun val rv => hQ _ _ (k1.trans k2) hd2 (.plain rv)
    · cases e

theorem se_upto {x : PySem.Str} {np p pos : Pos} {upper : Expr} {a' i' : E} (h1 : SE C Γ n sc xs (.Name x np) a') (h2 : SE C Γ n sc xs upper i') :
    SE C Γ n sc xs (.Subscript (.Name x np) (.Slice none (some upper) none p) pos) (.upto a' i') := by
  intro fr d v d' hv A env lay W0 ow s Q E R hE I hQ
  obtain ⟨a, d1, e1, hv⟩ := bind2 hv
  obtain ⟨b, d2, e2, hv⟩ := bind2 hv
  obtain ⟨l, e3, hv⟩ := bind_inv hv
  obtain ⟨k, e4, hv⟩ := bind_inv hv
  cases hv
  cases V.lst?_inv e3
  cases V.int?_inv e4
  refine wpAny_Subscript_list_slice (h1 _ _ _ _ e1 A env lay W0 ow s _ E R hE I fun x s1 k1 hd1 r1 => wpAny_evalPart_none (wpAny_evalPart_some ?_))
  refine h2 _ _ _ _ e2 A env lay W0 ow s1 _ E R hE (I.aft c k1 hd1) fun y s2 k2 hd2 r2 => ?_
  obtain ⟨u, rfl⟩ := r2.1.int_of
  obtain ⟨a, items, rfl, hl, hw, hm, r⟩ := r1.1.lst_of
  have hl2 := hl.aft hd1 k2
  have r' := r.aft hd1 k2
  have hz := r'.length
  rw [Array.length_toList] at hz
  refine ⟨a, items, none, some k, rfl, hl2.isList, by rw [hz]; exact Nat.le_trans hm (by decide), .none, .int _ _, ?_⟩
  have x := two_push (s := s2) (W := Wf W0 ow) (d0 := C.d0) (l := uptoV l k) { cls := .type "slice", data := .fields #[.none, .int k u, .none] } (slicePick items none (some k) none) (I.aft c (k1.trans k2) hd2).hi.al
    (by unfold uptoV; split <;> (rw [List.length_take]; omega)) (by
      rw [upto_pick]
      unfold uptoV
      by_cases h0 : 0 ≤ k
      · rw [if_pos h0, if_pos h0]; exact r'.take _
      · rw [if_neg h0, if_neg h0, r'.length]; exact r'.take _) (Heap.size_push ..)
  exact hQ _ _ (k1.trans (k2.trans (.of x.1))) (hd2.keep x.1) (x.2.back (k1.trans k2) hd2)

theorem se_revd {x : PySem.Str} {np p pos kp kq : Pos} {kk : Nat} {a' : E} (h1 : SE C Γ n sc xs (.Name x np) a') :
    SE C Γ n sc xs (.Subscript (.Name x np) (.Slice none none (some (.UnaryOp .USub (.Constant (.int 1) kk kp) kq)) p) pos) (.revd a') := by
  intro fr d v d' hv A env lay W0 ow s Q E R hE I hQ
  obtain ⟨a, d1, e1, hv⟩ := bind2 hv
  obtain ⟨l, e3, hv⟩ := bind_inv hv
  cases hv
  cases V.lst?_inv e3
  refine wpAny_Subscript_Slice_step (T := "list") list_getitem_lookup (h1 _ _ _ _ e1 A env lay W0 ow s _ E R hE I fun x s1 k1 hd1 r1 => ?_)
  refine wpAny_Slice (wpAny_evalPart_none (wpAny_evalPart_none (wpAny_evalPart_some (UnaryOp_ (wpAny_Constant_int (PyProof.Rows.neg_int ?_))))))
  obtain ⟨a, items, rfl, hl, hw, hm, r⟩ := r1.1.lst_of
  have hz := r.length
  rw [Array.length_toList] at hz
  refine ⟨(hl.isList.push _).typeIs, wpAny_getItem_list_slice (hl.isList.push _) (Heap.IsSliceOf.new ..) .none .none (.int _ _) (by decide) ?_ (by rw [hz]; exact Nat.le_trans hm (by decide))⟩
  rw [show (-(1 : Int)) = -1 from rfl, krv_pick]
  have x := two_push (s := s1) (W := Wf W0 ow) (d0 := C.d0) (l := l.reverse) { cls := .type "slice", data := .fields #[.none, .none, .int (-1) (s1.toks + 1)] } items.toList.reverse.toArray (I.aft c k1 hd1).hi.al
    (by rw [List.length_reverse]; exact hm) r.reverse rfl
  exact hQ _ _ (k1.trans (.of (t := s1.toks + 1 + 1) x.1)) (hd1.keep x.1) (x.2.back k1 hd1)

theorem se_dget {x key : PySem.Str} {np p pos : Pos} {kk k : Nat} {great : Bool} (hk : xs[k]? = some (some x)) (hp : plainName x = true) (hkey : key = if great then "great" else "mixed") :
    SE C Γ n sc xs (.Subscript (.Name x np) (.Constant (.str key) kk p) pos) (.dget great k) := by
  intro fr d v d' hv A env lay W0 ow s Q E R hE I hQ
  obtain ⟨b, e0, hv⟩ := bind_inv hv
  obtain ⟨pr, e1, hv⟩ := bind_inv hv
  cases e1
  cases hv
  obtain ⟨loc, h1, h2⟩ := I.drwAt (drwOf_inv e0)
  have hp := plain_two hp
  refine Subscript_ (Name_any hE hk h1 h2 hp.1 hp.2 (wpAny_Constant_str ?_))
  obtain ⟨t, u, hd⟩ : DRel C s.heap (some pr) := I.hi.dr
  have hd' := hd
  have ne : ¬ (("great" : PySem.Str) = "mixed") := by decide +kernel
  cases great with
  | true =>
    subst hkey
    refine tail_any hd.typeIs slot_dict_getitem.lookup (wpAny_getItem_of (knd := strKind C.prog C.w) (k := "great") (v := .int pr.1 t) (beq_self_eq_true _) hd.mapOf ?_ ?_) rfl
    · simp [valueAt]
    · exact hQ _ _ .tok (DRel.keep (d := some pr) ⟨t, u, hd⟩ fun _ _ e => e) (.int ..)
  | false =>
    subst hkey
    refine tail_any hd.typeIs slot_dict_getitem.lookup (wpAny_getItem_of (knd := strKind C.prog C.w) (k := "mixed") (v := .int pr.2 u) (beq_self_eq_true _) hd.mapOf ?_ ?_) rfl
    · simp [valueAt, ne]
    · exact hQ _ _ .tok (DRel.keep (d := some pr) ⟨t, u, hd⟩ fun _ _ e => e) (.int ..)
end
end Mine
-- MH
namespace Mine
open PySem PySem.W PyProof.Rows

/-- a statement's work: what stood stands, but for the draws' dict, the frame's own lists and names -/
structure Stp (C : Cx) (lay : List Loc) (ow ow' : Nat → Option Addr) (s s' : Shared) : Prop where
  sh : ∃ h' tk, s' = { s with heap := h', toks := tk }
  kp : ∀ b o, s.heap.get? b = some o → b ≠ C.d0 → (∀ k, ow k ≠ some b) → (∀ loc ∈ lay, loc.addr ≠ b) → s'.heap.get? b = some o
  ow : ∀ k a, ow' k = some a → (∃ k', ow k' = some a) ∨ s.heap.get? a = none
  al : ∀ b o, s.heap.get? b = some o → ∃ o', s'.heap.get? b = some o'

section
variable {C : Cx} {lay : List Loc} {ow ow' ow'' : Nat → Option Addr} {s s' s'' : Shared} {d d' : Dr} {fr : Frm} {W0 : Addr → Prop}
theorem Stp.refl : Stp C lay ow ow s s := ⟨⟨_, _, rfl⟩, fun _ _ e _ _ _ => e, fun k a e => .inl ⟨k, e⟩, fun b o e => ⟨o, e⟩⟩
theorem Stp.trans (x : Stp C lay ow ow' s s') (y : Stp C lay ow' ow'' s' s'') : Stp C lay ow ow'' s s'' := by
  obtain ⟨⟨h1, t1, rfl⟩, k1, o1, a1⟩ := x
  obtain ⟨⟨h2, t2, rfl⟩, k2, o2, a2⟩ := y
  refine ⟨⟨h2, t2, rfl⟩, fun b o e hb hn hl => k2 b o (k1 b o e hb hn hl) hb (fun k q => ?_) hl, fun k a e => ?_, fun b o e => ?_⟩
  · rcases o1 k b q with ⟨k', q'⟩ | q'
    · exact hn k' q'
    · rw [e] at q'; cases q'
  · rcases o2 k a e with ⟨k', q'⟩ | q'
    · exact o1 k' a q'
    · right
      cases e' : s.heap.get? a with
      | none => rfl
      | some o => obtain ⟨o', e''⟩ := a1 a o e'; rw [q'] at e''; cases e''
  · obtain ⟨o', e'⟩ := a1 b o e
    exact a2 b o' e'
theorem Stp.of (k : Aft C.d0 s s') (h0 : DRel C s.heap d) (hd : DRel C s'.heap d') : Stp C lay ow ow s s' := by
  obtain ⟨sh, kk⟩ := k
  refine ⟨sh, fun b o e hb _ _ => kk b o e hb, fun k a e => .inl ⟨k, e⟩, fun b o e => ?_⟩
  by_cases q : b = C.d0
  · subst q; exact hd.alloc
  · exact ⟨o, kk b o e q⟩

theorem Wf.sub {W0 : Addr → Prop} {ow ow' : Nat → Option Addr} (h : ∀ k a, ow' k = some a → ∃ k', ow k' = some a) {b : Addr} (x : ¬ Wf W0 ow b) : ¬ Wf W0 ow' b := by
  rintro (q | ⟨k, q⟩)
  · exact x (.inl q)
  · obtain ⟨k', q'⟩ := h k b q; exact x (.inr ⟨k', q'⟩)

/-- what stands for a value before a statement stands for it after -/
theorem Stp.seq (x : Stp C lay ow ow' s s') (hd : DRel C s.heap d) (lok : ∀ loc ∈ lay, loc.ok s.heap) {b : Addr} {o : Obj} (e : s.heap.get? b = some o) (hs : OSeq o) (hw : ¬ Wf W0 ow b) :
    s'.heap.get? b = some o ∧ ¬ Wf W0 ow' b := by
  refine ⟨x.kp b o e (fun q => hd.noSeq (q ▸ e) hs) (fun k q => hw (.inr ⟨k, q⟩)) (fun loc hl q => (lok loc hl).noSeq (q ▸ e) hs), ?_⟩
  rintro (q | ⟨k, q⟩)
  · exact hw (.inl q)
  · rcases x.ow k b q with ⟨k', q'⟩ | q'
    · exact hw (.inr ⟨k', q'⟩)
    · rw [e] at q'; cases q'
theorem FI.oks (I : FI C lay fr W0 ow d s.heap) : ∀ loc ∈ lay, loc.ok s.heap := fun loc hl => by
  obtain ⟨k, e⟩ := List.getElem?_of_mem hl
  exact (I.lok k loc e).1
theorem Rep.stp {v : Value} {x : V} (r : Rep C.d0 s.heap (Wf W0 ow) v x) (I : FI C lay fr W0 ow d s.heap) (k : Stp C lay ow ow' s s') : Rep C.d0 s'.heap (Wf W0 ow') v x :=
  r.mono fun b o e hs hw => k.seq I.hi.dr I.oks e hs hw
theorem Reps.stp {v : List Value} {x : List V} (r : Reps C.d0 s.heap (Wf W0 ow) v x) (I : FI C lay fr W0 ow d s.heap) (k : Stp C lay ow ow' s s') : Reps C.d0 s'.heap (Wf W0 ow') v x :=
  r.mono fun b o e hs hw => k.seq I.hi.dr I.oks e hs hw

theorem ns_unique {h : Heap} {a : Addr} {m m' : PySem.Str → Option Value} (x : h.Ns a m) (y : h.Ns a m') : m = m' := by
  obtain ⟨o, es, ep, e, hd, _, f⟩ := x
  obtain ⟨o', es', ep', e', hd', _, f'⟩ := y
  rw [e] at e'; cases e'
  rw [hd] at hd'; cases hd'
  funext z
  rw [← f z, f' z]
/-- one place turned -/
theorem Loc.has.turned {h h' : Heap} {loc loc' : Loc} {v : Value} (x : loc.has h v) (ok : loc'.ok h) (ne : loc ≠ loc') (sb : ∀ b, b ≠ loc'.addr → h'.get? b = h.get? b)
    (same : ∀ L y, loc' = .loc L y → ∃ m m', h.Ns L m ∧ h'.Ns L m' ∧ ∀ z, z ≠ y → m' z = m z) : loc.has h' v := by
  by_cases q : loc.addr = loc'.addr
  · cases loc with
    | loc L z =>
      cases loc' with
      | loc L' y =>
        simp only [Loc.addr] at q
        subst q
        obtain ⟨m, m', h1, h2, h3⟩ := same L y rfl
        obtain ⟨m2, h4, h5⟩ := x
        refine ⟨m', h2, ?_⟩
        rw [h3 z (by rintro rfl; exact ne rfl)]
        rwa [ns_unique h1 h4]
      | cel c =>
        exfalso
        simp only [Loc.addr] at q
        subst q
        obtain ⟨m2, ⟨o, es, ep, e, hd, _⟩, _⟩ := x
        obtain ⟨v', o', e', hd'⟩ := ok
        rw [e] at e'; cases e'; rw [hd] at hd'; cases hd'
    | cel c =>
      cases loc' with
      | loc L' y =>
        exfalso
        simp only [Loc.addr] at q
        subst q
        obtain ⟨m2, ⟨o, es, ep, e, hd, _⟩⟩ := ok
        obtain ⟨o', e', hd'⟩ := x
        rw [e] at e'; cases e'; rw [hd] at hd'; cases hd'
      | cel c' => exact absurd (congrArg Loc.cel q) ne
  · exact x.at fun o e => (sb _ q).trans e
theorem Loc.ok.turned {h h' : Heap} {loc loc' : Loc} {v : Value} (x : loc.ok h) (ok : loc'.ok h) (new : loc'.has h' v) (sb : ∀ b, b ≠ loc'.addr → h'.get? b = h.get? b) : loc.ok h' := by
  by_cases q : loc.addr = loc'.addr
  · cases loc with
    | loc L z =>
      cases loc' with
      | loc L' y => simp only [Loc.addr] at q; subst q; obtain ⟨m, h1, _⟩ := new; exact ⟨m, h1⟩
      | cel c =>
        exfalso
        simp only [Loc.addr] at q
        subst q
        obtain ⟨m2, ⟨o, es, ep, e, hd, _⟩⟩ := x
        obtain ⟨v', o', e', hd'⟩ := ok
        rw [e] at e'; cases e'; rw [hd] at hd'; cases hd'
    | cel c =>
      cases loc' with
      | loc L' y =>
        exfalso
        simp only [Loc.addr] at q
        subst q
        obtain ⟨m2, ⟨o, es, ep, e, hd, _⟩⟩ := ok
        obtain ⟨v', o', e', hd'⟩ := x
        rw [e] at e'; cases e'; rw [hd] at hd'; cases hd'
      | cel c' => simp only [Loc.addr] at q; subst q; exact ⟨_, new⟩
  · exact x.at fun o e => (sb _ q).trans e

noncomputable def owSet (ow : Nat → Option Addr) (k : Nat) (a : Option Addr) : Nat → Option Addr := fun j => if j = k then a else ow j

theorem set_other {α : Type} {l : List α} {k j : Nat} {x : α} (h : j ≠ k) : (l.set k x)[j]? = l[j]? := by
  rw [List.getElem?_set_ne (Ne.symm h)]
theorem set_same {α : Type} {l : List α} {k : Nat} {x : α} (h : k < l.length) : (l.set k x)[k]? = some x := by
  rw [List.getElem?_set_self h]

/-- a frame after the name k is bound anew -/
theorem FI.put {W1 : Addr → Prop} {h h' : Heap} {k : Nat} {loc : Loc} {val : Value} {cell : Bool × V} {a' : Option Addr} (I : FI C lay fr W1 ow d h) (W01 : ∀ b, W0 b → W1 b) (hl : lay[k]? = some loc)
    (T : ∀ b o, h.get? b = some o → OSeq o → ¬ Wf W1 ow b → h'.get? b = some o ∧ ¬ Wf W0 (owSet ow k a') b)
    (OWN : ∀ j b o, j ≠ k → ow j = some b → h.get? b = some o → h'.get? b = some o)
    (LOC : ∀ (j : Nat) (loc' : Loc) (v : Value), lay[j]? = some loc' → j ≠ k → loc'.has h v → loc'.has h' v) (LOK : ∀ (j : Nat) (loc' : Loc), lay[j]? = some loc' → loc'.ok h')
    (TOP : ∀ b o, C.top.get? b = some o → h'.get? b = some o) (AL : ∀ b o, h.get? b = some o → ∃ o', h'.get? b = some o') (DR : DRel C h' d') (new : loc.has h' val)
    (hc : (cell.1 = false ∧ a' = none ∧ Rep C.d0 h' (Wf W0 (owSet ow k a')) val cell.2) ∨
      (cell.1 = true ∧ ∃ a items l, a' = some a ∧ val = .ref a ∧ cell.2 = .lst l ∧ PL h' a items ∧ l.length ≤ LIM ∧ Reps C.d0 h' (Wf W0 (owSet ow k a')) items.toList l ∧ (∀ j, j ≠ k → ow j ≠ some a) ∧ ¬ W0 a ∧ C.top.get? a = none)) :
    FI C lay (fr.set k (some cell)) W0 (owSet ow k a') d' h' := by
  have hkl : k < fr.length := by rw [I.len]; exact (List.getElem?_eq_some_iff.mp hl).1
  have repKeep : ∀ {v : Value} {x : V}, Rep C.d0 h (Wf W1 ow) v x → Rep C.d0 h' (Wf W0 (owSet ow k a')) v x := fun r => r.mono fun b o e hs hw => T b o e hs hw
  have repsKeep : ∀ {v : List Value} {x : List V}, Reps C.d0 h (Wf W1 ow) v x → Reps C.d0 h' (Wf W0 (owSet ow k a')) v x := fun r => r.mono fun b o e hs hw => T b o e hs hw
  refine ⟨⟨TOP, ?_, ?_, DR⟩, by rw [List.length_set]; exact I.len, ?_, ?_, ?_, ?_, ?_, ?_, I.apart⟩
  · rintro a (q | ⟨j, q⟩)
    · obtain ⟨o, e⟩ := I.hi.al a (.inl (W01 a q)); exact AL a o e
    · unfold owSet at q
      split at q
      · rcases hc with ⟨_, e, _⟩ | ⟨_, a2, items, l, e, _, _, ⟨n, hp⟩, _⟩
        · rw [e] at q; cases q
        · rw [e] at q; cases q; exact ⟨_, hp⟩
      · obtain ⟨o, e⟩ := I.hi.al a (.inr ⟨j, q⟩); exact AL a o e
  · rintro a (q | ⟨j, q⟩)
    · exact I.hi.wt a (.inl (W01 a q))
    · unfold owSet at q
      split at q
      · rcases hc with ⟨_, e, _⟩ | ⟨_, a2, items, l, e, _, _, _, _, _, _, _, ht⟩
        · rw [e] at q; cases q
        · rw [e] at q; cases q; exact ht
      · exact I.hi.wt a (.inr ⟨j, q⟩)
  · intro j x e
    by_cases hj : j = k
    · subst hj
      rw [set_same hkl] at e
      cases e
      rcases hc with ⟨_, _, r⟩ | ⟨q, _⟩
      · exact ⟨loc, val, hl, new, r⟩
      · cases q
    · rw [set_other hj] at e
      obtain ⟨loc', v, h1, h2, h3⟩ := I.val j x e
      exact ⟨loc', v, h1, LOC j loc' v h1 hj h2, repKeep h3⟩
  · intro j x e
    by_cases hj : j = k
    · subst hj
      rw [set_same hkl] at e
      cases e
      rcases hc with ⟨q, _⟩ | ⟨_, a, items, l, e1, rfl, e2, hp, hm, r, h1, h2, h3⟩
      · cases q
      · exact ⟨loc, a, items, l, hl, new, by unfold owSet; rw [if_pos rfl, e1], e2, hp, hm, r⟩
    · rw [set_other hj] at e
      obtain ⟨loc', a, items, l, h1, h2, h3, h4, ⟨n, h5⟩, h6, h7⟩ := I.owns j x e
      exact ⟨loc', a, items, l, h1, LOC j loc' _ h1 hj h2, by unfold owSet; rw [if_neg hj]; exact h3, h4, ⟨n, OWN j a _ hj h3 h5⟩, h6, repsKeep h7⟩
  · intro j a q
    unfold owSet at q
    split at q
    · rename_i hj
      subst hj
      rcases hc with ⟨_, e, _⟩ | ⟨e0, _⟩
      · rw [e] at q; cases q
      · exact ⟨cell.2, by rw [set_same hkl, ← e0]⟩
    · rename_i hj
      obtain ⟨x, e⟩ := I.only j a q
      exact ⟨x, by rw [set_other hj]; exact e⟩
  · intro i j a q q'
    unfold owSet at q q'
    split at q <;> split at q'
    · rename_i h1 h2; rw [h1, h2]
    · rename_i h1 h2
      rcases hc with ⟨_, e, _⟩ | ⟨_, a2, items, l, e, _, _, _, _, _, hn, _⟩
      · rw [e] at q; cases q
      · rw [e] at q; cases q; exact absurd q' (hn j h2)
    · rename_i h1 h2
      rcases hc with ⟨_, e, _⟩ | ⟨_, a2, items, l, e, _, _, _, _, _, hn, _⟩
      · rw [e] at q'; cases q'
      · rw [e] at q'; cases q'; exact absurd q (hn i h1)
    · exact I.inj i j a q q'
  · intro j a q
    unfold owSet at q
    split at q
    · rcases hc with ⟨_, e, _⟩ | ⟨_, a2, items, l, e, _, _, _, _, _, _, hn, _⟩
      · rw [e] at q; cases q
      · rw [e] at q; cases q; exact hn
    · exact fun q' => I.disj j a q (W01 a q')
  · intro j loc' e
    exact ⟨LOK j loc' e, (I.lok j loc' e).2⟩

theorem wf_drop {k : Nat} {b : Addr} (x : ¬ Wf W0 ow b) : ¬ Wf W0 (owSet ow k none) b := Wf.sub (fun j a q => by
  unfold owSet at q; split at q
  · cases q
  · exact ⟨j, q⟩) x
theorem wf_put {k : Nat} {a b : Addr} (x : ¬ Wf W0 ow b) (hb : b ≠ a) : ¬ Wf W0 (owSet ow k (some a)) b := by
  rintro (q | ⟨j, q⟩)
  · exact x (.inl q)
  · unfold owSet at q
    split at q
    · cases q; exact hb rfl
    · exact x (.inr ⟨j, q⟩)

/-- only the names' places turned -/
structure Stq (lay : List Loc) (s s' : Shared) : Prop where
  sh : ∃ h' tk, s' = { s with heap := h', toks := tk }
  kp : ∀ b o, s.heap.get? b = some o → (∀ loc ∈ lay, loc.addr ≠ b) → s'.heap.get? b = some o
  al : ∀ b o, s.heap.get? b = some o → ∃ o', s'.heap.get? b = some o'
theorem Stq.refl {lay : List Loc} {s : Shared} : Stq lay s s := ⟨⟨_, _, rfl⟩, fun _ _ e _ => e, fun b o e => ⟨o, e⟩⟩
theorem Stq.trans {lay : List Loc} {s s' s'' : Shared} (x : Stq lay s s') (y : Stq lay s' s'') : Stq lay s s'' := by
  obtain ⟨⟨h1, t1, rfl⟩, k1, a1⟩ := x
  obtain ⟨⟨h2, t2, rfl⟩, k2, a2⟩ := y
  exact ⟨⟨h2, t2, rfl⟩, fun b o e hl => k2 b o (k1 b o e hl) hl, fun b o e => by obtain ⟨o', e'⟩ := a1 b o e; exact a2 b o' e'⟩
theorem Stq.stp {s s' s'' : Shared} (k : Aft C.d0 s s') (h0 : DRel C s.heap d) (hd : DRel C s'.heap d') (y : Stq lay s' s'') (ho : ∀ k a, ow' k = some a → (∃ k', ow k' = some a) ∨ s.heap.get? a = none) : Stp C lay ow ow' s s'' := by
  have x := Stp.of (lay := lay) (ow := ow) k h0 hd
  obtain ⟨⟨h1, t1, rfl⟩, k1, o1, a1⟩ := x
  obtain ⟨⟨h2, t2, rfl⟩, k2, a2⟩ := y
  exact ⟨⟨h2, t2, rfl⟩, fun b o e hb hn hl => k2 b o (k1 b o e hb hn hl) hl, ho, fun b o e => by obtain ⟨o', e'⟩ := a1 b o e; exact a2 b o' e'⟩

/-- a store, as the heap sees it -/
theorem store_at {sc : List (PySem.Str × NameKind)} {xs : List (Option PySem.Str)} {A : Around} {env : Env} {k : Nat} {x : PySem.Str} {val : Value} {Q : Unit → Shared → Prop} {E : Value → Shared → Prop} {W1 : Addr → Prop}
    (hE : EnvOK env sc xs lay) (I : FI C lay fr W1 ow d s.heap) (hk : xs[k]? = some (some x)) (hfree : sc.lookup x ≠ some .free)
    (hQ : ∀ s2 loc, lay[k]? = some loc → Stq lay s s2 → loc.has s2.heap val → (∀ b, b ≠ loc.addr → s2.heap.get? b = s.heap.get? b) → (∀ (j : Nat) (loc' : Loc) (v : Value), lay[j]? = some loc' → j ≠ k → loc'.has s.heap v → loc'.has s2.heap v) →
      (∀ (j : Nat) (loc' : Loc), lay[j]? = some loc' → loc'.ok s2.heap) → DRel C s2.heap d → Q () s2) : wpAny (model C.prog C.w) A (storeName env x val) Q E s := by
  have hloc : ∃ loc, lay[k]? = some loc := by
    rcases hE.var k x hk with ⟨_, h⟩ | ⟨_, _, _, h⟩ <;> exact ⟨_, h⟩
  obtain ⟨loc, hl⟩ := hloc
  obtain ⟨hok, htop, hd0⟩ := I.lok k loc hl
  have hmem : loc ∈ lay := List.mem_of_getElem? hl
  have fin : ∀ (h' : Heap) (tk : Nat), loc.has h' val → (∀ b, b ≠ loc.addr → h'.get? b = s.heap.get? b) → (∀ L y, loc = .loc L y → ∃ m m', s.heap.Ns L m ∧ h'.Ns L m' ∧ ∀ z, z ≠ y → m' z = m z) →
      Q () { s with heap := h', toks := tk } := by
    intro h' tk new sb same
    have up : ∀ b o, s.heap.get? b = some o → ∃ o', h'.get? b = some o' := fun b o e => by
      by_cases q : b = loc.addr
      · subst q
        cases loc with
        | loc L y => obtain ⟨m, ⟨o', _, _, e', _⟩, _⟩ := new; exact ⟨o', e'⟩
        | cel cc => obtain ⟨o', e', _⟩ := new; exact ⟨o', e'⟩
      · exact ⟨o, (sb b q).trans e⟩
    have ne : ∀ j loc', lay[j]? = some loc' → j ≠ k → loc' ≠ loc := fun j loc' e hj q => hj (I.apart j k loc (q ▸ e) hl)
    have DR : DRel C h' d := by
      have hd := I.hi.dr
      cases d with
      | none => exact ⟨(sb _ (Ne.symm hd0)).trans hd.1, hd.2⟩
      | some p => obtain ⟨t, u, o, es, ep, e, r⟩ := hd; exact ⟨t, u, o, es, ep, (sb _ (Ne.symm hd0)).trans e, r⟩
    exact hQ _ loc hl ⟨⟨_, _, rfl⟩, fun b o e hl' => (sb b (Ne.symm (hl' loc hmem))).trans e, up⟩ new sb (fun j loc' v e hj hv => hv.turned hok (ne j loc' e hj) sb same)
      (fun j loc' e => (I.lok j loc' e).1.turned hok new sb) DR
  rcases hE.var k x hk with ⟨h1, h2⟩ | ⟨h1, cc, h2, h3⟩
  · rw [h2] at hl; cases hl
    obtain ⟨m, hn⟩ := hok
    refine wpAny_storeName_local (by show env.scope.names.lookup x = _; rw [hE.look]; exact h1) hn (fun h' hn' hs => ?_) (by rw [hE.kind]; rfl)
    refine fin h' _ ⟨_, hn', if_pos rfl⟩ hs.2 fun L y e => ?_
    cases e
    exact ⟨m, _, hn, hn', fun z hz => if_neg hz⟩
  · rw [h3] at hl; cases hl
    obtain ⟨v₀, hv⟩ := hok
    rcases h1 with h1 | h1
    · refine wpAny_storeName_cell hE.kind (by show env.scope.names.lookup x = _; rw [hE.look]; exact h1) h2 hv fun h' hc hs => ?_
      refine fin h' s.toks hc hs.2 fun L y e => ?_
      cases e
    · exact absurd h1 hfree

theorem FI.seqK {W1 : Addr → Prop} (I : FI C lay fr W1 ow d s.heap) {k : Nat} {loc : Loc} (hl : lay[k]? = some loc) {h' : Heap} (sb : ∀ b, b ≠ loc.addr → h'.get? b = s.heap.get? b) : ∀ b o, s.heap.get? b = some o → OSeq o → h'.get? b = some o :=
  fun b o e hs => (sb b fun q => (I.lok k loc hl).1.noSeq (q ▸ e) hs).trans e
theorem FI.owned {W1 : Addr → Prop} (I : FI C lay fr W1 ow d s.heap) {j : Nat} {b : Addr} (q : ow j = some b) : ∃ items, PL s.heap b items := by
  obtain ⟨x2, e2⟩ := I.only j b q
  obtain ⟨_, a2, items, _, _, _, e3, _, e4, _⟩ := I.owns j x2 e2
  rw [q] at e3; cases e3
  exact ⟨items, e4⟩

/-- a value that is no list of the frame's own -/
theorem store_sh {sc : List (PySem.Str × NameKind)} {xs : List (Option PySem.Str)} {A : Around} {env : Env} {k : Nat} {x : PySem.Str} {val : Value} {v : V} {Q : Unit → Shared → Prop} {E : Value → Shared → Prop} {W1 : Addr → Prop}
    (hE : EnvOK env sc xs lay) (I : FI C lay fr W1 ow d s.heap) (hk : xs[k]? = some (some x)) (hfree : sc.lookup x ≠ some .free) (r : Rep C.d0 s.heap (Wf W1 ow) val v)
    (hQ : ∀ s2, Stq lay s s2 → FI C lay (fr.set k (some (false, v))) W1 (owSet ow k none) d s2.heap → (∀ b o, s.heap.get? b = some o → OSeq o → s2.heap.get? b = some o) → (∀ b o, s.heap.get? b = some o → (∀ loc, lay[k]? = some loc → loc.addr ≠ b) → s2.heap.get? b = some o) → Q () s2) :
    wpAny (model C.prog C.w) A (storeName env x val) Q E s := by
  refine store_at hE I hk hfree fun s2 loc hl st new sb LOC LOK DR => ?_
  have sk := I.seqK hl sb
  refine hQ s2 st (I.put (fun _ q => q) hl (fun b o e hs hw => ⟨sk b o e hs, wf_drop hw⟩) (fun j b o hj q e => ?_) LOC LOK (fun b o e => ?_) st.al DR new (.inl ⟨rfl, rfl, r.mono fun b o e hs hw => ⟨sk b o e hs, wf_drop hw⟩⟩)) sk fun b o e hb => (sb b (Ne.symm (hb loc hl))).trans e
  · obtain ⟨items, n, e'⟩ := I.owned q
    rw [e] at e'; cases e'
    exact sk b _ e ⟨_, _, rfl⟩
  · exact (sb b fun q => by rw [q, (I.lok k loc hl).2.1] at e; cases e).trans (I.hi.top b o e)
/-- a list that is new and becomes the frame's own -/
theorem store_own {sc : List (PySem.Str × NameKind)} {xs : List (Option PySem.Str)} {A : Around} {env : Env} {k : Nat} {x : PySem.Str} {a : Addr} {items : Array Value} {l : List V} {Q : Unit → Shared → Prop} {E : Value → Shared → Prop} {W1 : Addr → Prop}
    (hE : EnvOK env sc xs lay) (I : FI C lay fr W1 ow d s.heap) (hk : xs[k]? = some (some x)) (hfree : sc.lookup x ≠ some .free) (W01 : ∀ b, W0 b → W1 b) (W10 : ∀ b, W1 b → W0 b ∨ b = a) (ha : W1 a) (ha0 : ¬ W0 a)
    (hp : PL s.heap a items) (hm : l.length ≤ LIM) (r : Reps C.d0 s.heap (Wf W1 ow) items.toList l)
    (hQ : ∀ s2, Stq lay s s2 → FI C lay (fr.set k (some (true, .lst l))) W0 (owSet ow k (some a)) d s2.heap → (∀ b o, s.heap.get? b = some o → OSeq o → s2.heap.get? b = some o) → (∀ b o, s.heap.get? b = some o → (∀ loc, lay[k]? = some loc → loc.addr ≠ b) → s2.heap.get? b = some o) → Q () s2) :
    wpAny (model C.prog C.w) A (storeName env x (.ref a)) Q E s := by
  refine store_at hE I hk hfree fun s2 loc hl st new sb LOC LOK DR => ?_
  have sk := I.seqK hl sb
  have wf : ∀ b, ¬ Wf W1 ow b → ¬ Wf W0 (owSet ow k (some a)) b := by
    rintro b hb (q | ⟨j, q⟩)
    · exact hb (.inl (W01 b q))
    · unfold owSet at q
      split at q
      · cases q; exact hb (.inl ha)
      · exact hb (.inr ⟨j, q⟩)
  obtain ⟨n, hp⟩ := hp
  refine hQ s2 st (I.put W01 hl (fun b o e hs hw => ⟨sk b o e hs, wf b hw⟩) (fun j b o hj q e => ?_) LOC LOK (fun b o e => ?_) st.al DR new
    (.inr ⟨rfl, a, items, l, rfl, rfl, rfl, ⟨n, sk _ _ hp ⟨_, _, rfl⟩⟩, hm, r.mono fun b o e hs hw => ⟨sk b o e hs, wf b hw⟩, fun j _ q => I.disj j a q ha, ha0, I.hi.wt a (.inl ha)⟩)) sk fun b o e hb => (sb b (Ne.symm (hb loc hl))).trans e
  · obtain ⟨items, n, e'⟩ := I.owned q
    rw [e] at e'; cases e'
    exact sk b _ e ⟨_, _, rfl⟩
  · exact (sb b fun q => by rw [q, (I.lok k loc hl).2.1] at e; cases e).trans (I.hi.top b o e)
/-- new lists are nobody's -/
theorem FI.pend (c : COK C) {a : Addr} (I : FI C lay fr W0 ow d s.heap) (k : Aft C.d0 s s') (hd : DRel C s'.heap d') (hn : s.heap.get? a = none) (ha : ∃ o, s'.heap.get? a = some o) : FI C lay fr (fun b => W0 b ∨ b = a) ow d' s'.heap := by
  have I' := I.aft c k hd
  have wf : ∀ b o, s.heap.get? b = some o → ¬ Wf W0 ow b → ¬ Wf (fun b => W0 b ∨ b = a) ow b := by
    rintro b o e hb ((q | q) | q)
    · exact hb (.inl q)
    · rw [q, hn] at e; cases e
    · exact hb (.inr q)
  have seq : ∀ b o, s.heap.get? b = some o → OSeq o → ¬ Wf W0 ow b → s'.heap.get? b = some o ∧ ¬ Wf (fun b => W0 b ∨ b = a) ow b := fun b o e hs hw => ⟨k.2 b o e fun q => I.hi.dr.noSeq (q ▸ e) hs, wf b o e hw⟩
  refine ⟨⟨I'.hi.top, ?_, ?_, I'.hi.dr⟩, I.len, fun i x e => ?_, fun i x e => ?_, I.only, I.inj, ?_, I'.lok, I.apart⟩
  · rintro b ((q | q) | q)
    · exact I'.hi.al b (.inl q)
    · subst q; exact ha
    · exact I'.hi.al b (.inr q)
  · rintro b ((q | q) | q)
    · exact I'.hi.wt b (.inl q)
    · subst q
      cases e : C.top.get? b with
      | none => rfl
      | some o => have := I.hi.top b o e; rw [hn] at this; cases this
    · exact I'.hi.wt b (.inr q)
  · obtain ⟨loc, v, h1, h2, h3⟩ := I.val i x e
    exact ⟨loc, v, h1, h2.at fun o e => k.2 _ o e (I.lok i loc h1).2.2, h3.mono seq⟩
  · obtain ⟨loc, b, items, l, h1, h2, h3, h4, h5, h6, h7⟩ := I.owns i x e
    exact ⟨loc, b, items, l, h1, h2.at fun o e => k.2 _ o e (I.lok i loc h1).2.2, h3, h4, h5.aft I.hi.dr k, h6, h7.mono seq⟩
  · rintro j b q (q' | q')
    · exact I.disj j b q q'
    · obtain ⟨items, n, e⟩ := I.owned q
      rw [q', hn] at e; cases e

theorem store_ok (c : COK C) {sc : List (PySem.Str × NameKind)} {xs : List (Option PySem.Str)} {A : Around} {env : Env} {k : Nat} {x : PySem.Str} {f : Bool} {val : Value} {v : V} {Q : Unit → Shared → Prop} {E : Value → Shared → Prop}
    (hE : EnvOK env sc xs lay) (I0 : FI C lay fr W0 ow d s.heap) (k1 : Aft C.d0 s s') (hd : DRel C s'.heap d') (hk : xs[k]? = some (some x)) (hfree : sc.lookup x ≠ some .free) (hf : RepE C.d0 s s'.heap (Wf W0 ow) f val v)
    (hQ : ∀ s2 ow', Stp C lay ow ow' s s2 → FI C lay (fr.set k (some (f && v.isLst, v))) W0 ow' d' s2.heap → Stq lay s' s2 → Q () s2) : wpAny (model C.prog C.w) A (storeName env x val) Q E s' := by
  by_cases hfl : (f && v.isLst) = true
  · rw [hfl] at hQ
    rw [Bool.and_eq_true] at hfl
    obtain ⟨hf1, hf2⟩ := hfl
    cases v with
    | lst l =>
      obtain ⟨a, items, rfl, hn, hp, r⟩ := hf.2 hf1 l rfl
      have hm : l.length ≤ LIM := by have := hf.1; cases this with | lst _ _ h _ => exact h
      have hp' := hp
      obtain ⟨nn, e⟩ := hp'
      have IP := I0.pend c k1 hd hn ⟨_, e⟩
      refine store_own hE IP hk hfree (fun b q => .inl q) (fun b q => q) (.inr rfl) (fun q => ?_) hp hm (r.mono fun b o e hs hw => ⟨e, ?_⟩) fun s2 st I2 _ _ => hQ s2 _ (st.stp k1 I0.hi.dr hd fun j b q => ?_) I2 st
      · obtain ⟨o, e⟩ := I0.hi.al a (.inl q); rw [hn] at e; cases e
      · rintro ((q | q) | q)
        · exact hw (.inl (.inl q))
        · exact hw (.inr q)
        · exact hw (.inl (.inr q))
      · unfold owSet at q
        split at q
        · cases q; exact .inr hn
        · exact .inl ⟨j, q⟩
    | _ => cases hf2
  · rw [Bool.not_eq_true] at hfl
    rw [hfl] at hQ
    refine store_sh hE (I0.aft c k1 hd) hk hfree hf.1 fun s2 st I2 _ _ => hQ s2 _ (st.stp k1 I0.hi.dr hd fun j b q => ?_) I2 st
    unfold owSet at q
    split at q
    · cases q
    · exact .inl ⟨j, q⟩
end
end Mine
-- MI
namespace Mine
open PySem PySem.W PyProof.Rows

/-- values for a store in one go: P, the new lists among them -/
inductive RL (d0 : Addr) (h : Heap) (W : Addr → Prop) : List Addr → List Value → List (Bool × V) → Prop
  | nil : RL d0 h W [] [] []
  | sh {P : List Addr} {vals : List Value} {vs : List (Bool × V)} {val : Value} {v : V} : Rep d0 h W val v → RL d0 h W P vals vs → RL d0 h W P (val :: vals) ((false, v) :: vs)
  | own {P : List Addr} {vals : List Value} {vs : List (Bool × V)} {a : Addr} {items : Array Value} {l : List V} : PL h a items → l.length ≤ LIM → Reps d0 h W items.toList l → RL d0 h W P vals vs → RL d0 h W (a :: P) (.ref a :: vals) ((true, .lst l) :: vs)

theorem RL.mono {d0 : Addr} {h h' : Heap} {W W' : Addr → Prop} (k : ∀ b o, h.get? b = some o → OSeq o → ¬ W b → h'.get? b = some o ∧ ¬ W' b) (kk : ∀ b o, h.get? b = some o → OSeq o → h'.get? b = some o)
    {P : List Addr} {vals : List Value} {vs : List (Bool × V)} (x : RL d0 h W P vals vs) : RL d0 h' W' P vals vs := by
  induction x with
  | nil => exact .nil
  | sh r _ ih => exact .sh (r.mono k) ih
  | own e hm r _ ih => exact .own (let ⟨n, e⟩ := e; ⟨n, kk _ _ e ⟨_, _, rfl⟩⟩) hm (r.mono k) ih
theorem RL.append {d0 : Addr} {h : Heap} {W : Addr → Prop} {P' : List Addr} {vals' : List Value} {vs' : List (Bool × V)} (y : RL d0 h W P' vals' vs')
    {P : List Addr} {vals : List Value} {vs : List (Bool × V)} (x : RL d0 h W P vals vs) : RL d0 h W (P ++ P') (vals ++ vals') (vs ++ vs') := by
  induction x with
  | nil => exact y
  | sh r _ ih => exact .sh r ih
  | own a b c _ ih => exact .own a b c ih
theorem RL.reverse {d0 : Addr} {h : Heap} {W : Addr → Prop} {P : List Addr} {vals : List Value} {vs : List (Bool × V)} (x : RL d0 h W P vals vs) : RL d0 h W P.reverse vals.reverse vs.reverse := by
  induction x with
  | nil => exact .nil
  | sh r _ ih =>
    rw [List.reverse_cons, List.reverse_cons]
    have := RL.append (.sh r .nil) ih
    rwa [List.append_nil] at this
  | own a b c _ ih =>
    rw [List.reverse_cons, List.reverse_cons, List.reverse_cons]
    exact RL.append (.own a b c .nil) ih

noncomputable def flags : EL → List V → List (Bool × V)
  | .cons e es, v :: vs => (freshE e && v.isLst, v) :: flags es vs
  | _, _ => []
noncomputable def setC (fr : Frm) : List Nat → List (Bool × V) → Option Frm
  | [], [] => some fr
  | k :: ks, c :: cs => setC (fr.set k (some c)) ks cs
  | _, _ => none
theorem set2_eq : ∀ (fr : Frm) (ks : List Nat) (es : EL) (vs : List V) (fr' : Frm), set2 fr ks es vs = some fr' → setC fr ks (flags es vs) = some fr'
  | _, [], .nil, [], _, h => h
  | _, _ :: ks, .cons _ es, _ :: vs, fr', h => set2_eq _ ks es vs fr' h
  | _, [], .cons _ _, _, _, h => by cases h
  | _, [], .nil, _ :: _, _, h => by cases h
  | _, _ :: _, .nil, _, _, h => by cases h
  | _, _ :: _, .cons _ _, [], _, h => by cases h
theorem setAll_eq (fr : Frm) (ks : List Nat) (vs : List V) (fr' : Frm) (h : setAll fr ks vs = some fr') : setC fr ks (vs.map fun v => (false, v)) = some fr' := by
  induction ks generalizing fr vs with
  | nil => cases vs with
    | nil => exact h
    | cons => cases h
  | cons k ks ih => cases vs with
    | nil => cases h
    | cons v vs => exact ih _ vs h
/-- an induction over names and cells of one length -/
theorem setC_ind {P : List Nat → List (Bool × V) → Prop} (h0 : P [] []) (h1 : ∀ k ks c cs, P ks cs → P (k :: ks) (c :: cs)) : ∀ (ks : List Nat) (cs : List (Bool × V)), ks.length = cs.length → P ks cs := by
  intro ks
  induction ks with
  | nil => intro cs h; cases cs with
    | nil => exact h0
    | cons => cases h
  | cons k ks ih => intro cs h; cases cs with
    | nil => cases h
    | cons c cs => exact h1 _ _ _ _ (ih _ (Nat.succ.inj h))
theorem setC_len {ks : List Nat} {cs : List (Bool × V)} {fr fr' : Frm} (h : setC fr ks cs = some fr') : ks.length = cs.length := by
  induction ks generalizing fr cs with
  | nil => cases cs with
    | nil => rfl
    | cons => cases h
  | cons k ks ih => cases cs with
    | nil => cases h
    | cons c cs => exact congrArg (· + 1) (ih h)
theorem setC_snoc (ks : List Nat) (cs : List (Bool × V)) (k : Nat) (c : Bool × V) (h : ks.length = cs.length) : ∀ fr, setC fr (ks ++ [k]) (cs ++ [c]) = (setC fr ks cs).map fun f => f.set k (some c) :=
  setC_ind (P := fun ks cs => ∀ fr, setC fr (ks ++ [k]) (cs ++ [c]) = (setC fr ks cs).map fun f => f.set k (some c)) (fun _ => rfl) (fun _ _ _ _ ih fr => ih _) ks cs h
theorem setC_comm (k : Nat) (c : Bool × V) (ks : List Nat) (cs : List (Bool × V)) (h : ks.length = cs.length) : k ∉ ks → ∀ fr : Frm, setC (fr.set k (some c)) ks cs = (setC fr ks cs).map fun f => f.set k (some c) :=
  setC_ind (P := fun ks cs => k ∉ ks → ∀ fr : Frm, setC (fr.set k (some c)) ks cs = (setC fr ks cs).map fun f => f.set k (some c)) (fun _ _ => rfl)
    (fun j ks c' cs ih h fr => by
      show setC ((fr.set k (some c)).set j (some c')) ks cs = _
      have h1 : k ≠ j := fun q => h (q ▸ List.mem_cons_self)
      rw [List.set_comm _ _ h1]
      exact ih (fun q => h (List.mem_cons_of_mem _ q)) _) ks cs h
theorem setC_rev {ks : List Nat} {cs : List (Bool × V)} {fr fr' : Frm} (hn : ks.Nodup) (h : setC fr ks cs = some fr') : setC fr ks.reverse cs.reverse = some fr' :=
  setC_ind (P := fun ks cs => ∀ fr fr', ks.length = cs.length → ks.Nodup → setC fr ks cs = some fr' → setC fr ks.reverse cs.reverse = some fr') (fun _ _ _ _ h => h)
    (fun k ks c cs ih fr fr' hl hn h => by
      obtain ⟨h1, h2⟩ := List.nodup_cons.mp hn
      obtain ⟨f, h3, rfl⟩ := map_inv ((setC_comm k c ks cs (Nat.succ.inj hl) h1 fr).symm.trans h)
      rw [List.reverse_cons, List.reverse_cons, setC_snoc _ _ _ _ (by rw [List.length_reverse, List.length_reverse]; exact Nat.succ.inj hl), ih _ _ (Nat.succ.inj hl) h2 h3]
      rfl) ks cs (setC_len h) fr fr' (setC_len h) hn h

section
variable {C : Cx} {Γ : Env0} {n : Nat} {sc : List (PySem.Str × NameKind)} {xs : List (Option PySem.Str)} {lay : List Loc} {ow ow' : Nat → Option Addr} {s s' : Shared} {d d' : Dr} {fr fr' : Frm} {W0 : Addr → Prop}

/-- names and their places -/
noncomputable def TOK (sc : List (PySem.Str × NameKind)) (xs : List (Option PySem.Str)) : List PySem.Str → List Nat → Prop
  | [], [] => True
  | x :: r, k :: ks => xs[k]? = some (some x) ∧ sc.lookup x ≠ some .free ∧ TOK sc xs r ks
  | _, _ => False

noncomputable def WP (W0 : Addr → Prop) (P : List Addr) (b : Addr) : Prop := W0 b ∨ b ∈ P
theorem WP_nil (W0 : Addr → Prop) : WP W0 [] = W0 := funext fun b => propext ⟨fun q => (by rcases q with q | q; exact q; cases q), fun q => .inl q⟩

theorem WP_cons (W0 : Addr → Prop) (a : Addr) (P : List Addr) : WP (fun b => W0 b ∨ b = a) P = WP W0 (a :: P) := funext fun b => propext ⟨by
  rintro ((q | q) | q)
  · exact .inl q
  · exact .inr (by rw [q]; exact List.mem_cons_self)
  · exact .inr (List.mem_cons_of_mem _ q), by
  rintro (q | q)
  · exact .inl (.inl q)
  · rcases List.mem_cons.mp q with q | q
    · exact .inl (.inr q)
    · exact .inr q⟩
/-- stores by name -/
inductive StL (C : Cx) (A : Around) (env : Env) (E : Value → Shared → Prop) : List (Value → Sem Unit) → List PySem.Str → Prop
  | nil : StL C A env E [] []
  | cons {st : Value → Sem Unit} {x : PySem.Str} {sts : List (Value → Sem Unit)} {names : List PySem.Str} : (∀ v Q s, wpAny (model C.prog C.w) A (storeName env x v) Q E s → wpAny (model C.prog C.w) A (st v) Q E s) → StL C A env E sts names →
      StL C A env E (st :: sts) (x :: names)
inductive NL : List Expr → List PySem.Str → Prop
  | nil : NL [] []
  | cons (x : PySem.Str) (p : Pos) {es : List Expr} {names : List PySem.Str} : NL es names → NL (.Name x p :: es) (x :: names)
theorem NL.stl {A : Around} {env : Env} {E : Value → Shared → Prop} {es : List Expr} {names : List PySem.Str} (x : NL es names) : StL C A env E ((assignEach es env).map (·.2)) names := by
  induction x with
  | nil => exact .nil
  | cons x p _ ih => exact .cons (fun v Q s h => wpAny_assign_Name h) ih
theorem NL.length {env : Env} {es : List Expr} {names : List PySem.Str} (x : NL es names) : (assignEach es env).length = names.length := by
  induction x with
  | nil => rfl
  | cons x p _ ih => exact congrArg (· + 1) ih
theorem NL.star {env : Env} {es : List Expr} {names : List PySem.Str} (x : NL es names) : (assignEach es env).findIdx? (·.1) = none := by
  induction x with
  | nil => rfl
  | cons x p _ ih =>
    show List.findIdx? (·.1) ((false, assign (.Name x p) env) :: assignEach _ env) = none
    rw [List.findIdx?_cons, ih]; rfl
theorem stl_bind {A : Around} {env : Env} {E : Value → Shared → Prop} : ∀ (names : List PySem.Str), StL C A env E (names.map fun n => bindName env n) names
  | [] => .nil
  | x :: r => .cons (fun v Q s h => wpAny_bindName h) (stl_bind r)

theorem stores_ok {A : Around} {env : Env} {E : Value → Shared → Prop}
    (hE : EnvOK env sc xs lay) : ∀ (sts : List (Value → Sem Unit)) (names : List PySem.Str) (ks : List Nat) (P : List Addr) (vals : List Value) (vs : List (Bool × V)) (s : Shared) (fr fr' : Frm) (ow : Nat → Option Addr) (Q : Unit → Shared → Prop),
      StL C A env E sts names → TOK sc xs names ks → P.Nodup → (∀ a ∈ P, ¬ W0 a) → FI C lay fr (WP W0 P) ow d s.heap → RL C.d0 s.heap (Wf (WP W0 P) ow) P vals vs → setC fr ks vs = some fr' →
      (∀ s2 ow', Stq lay s s2 → FI C lay fr' W0 ow' d s2.heap → (∀ k a, ow' k = some a → (∃ k', ow k' = some a) ∨ a ∈ P) → (∀ k, k ∉ ks → ow' k = ow k) → (P = [] → ∀ k ∈ ks, ow' k = none) → (∀ b o, s.heap.get? b = some o → (∀ k ∈ ks, ∀ loc : Loc, lay[k]? = some loc → loc.addr ≠ b) → s2.heap.get? b = some o) → Q () s2) →
      wpAny (model C.prog C.w) A (assignInOrder sts vals) Q E s := by
  intro sts names ks P vals vs s fr fr' ow Q hst
  induction hst generalizing ks P vals vs s fr ow with
  | nil =>
    intro ht hn h0 I r hs hQ
    cases ks with
    | cons => exact ht.elim
    | nil =>
      cases vs with
      | cons => cases hs
      | nil =>
        cases hs
        cases r
        refine assignInOrder_nil (hQ s ow .refl ?_ (fun k a e => .inl ⟨k, e⟩) (fun _ _ => rfl) (fun _ k hk => by cases hk) fun _ _ e _ => e)
        rwa [WP_nil] at I
  | @cons st x sts names hst hsts stores_ok =>
    intro ht hn h0 I r hs hQ
    cases ks with
    | nil => exact ht.elim
    | cons k ks =>
      obtain ⟨hk, hf, ht⟩ := ht
      cases r with
      | nil => cases hs
      | @sh _ vals vs val v r1 r =>
        refine assignInOrder_cons (hst _ _ _ (store_sh hE I hk hf r1 fun s2 q2 I2 sk sb => ?_))
        refine stores_ok ks P vals vs s2 _ _ ht hn h0 I2 (r.mono (fun b o e hs hw => ⟨sk b o e hs, wf_drop hw⟩) sk) hs fun s3 ow' q3 I3 h3 h4 h5 h6 => hQ s3 ow' (q2.trans q3) I3 (fun j a q => ?_) (fun j hj => ?_) (fun hP j hj => ?_) fun b o e hb => h6 b o (sb b o e fun loc hl => hb k List.mem_cons_self loc hl) fun j hj => hb j (List.mem_cons_of_mem _ hj)
        · rcases h3 j a q with ⟨j', q'⟩ | q'
          · unfold owSet at q'
            split at q'
            · cases q'
            · exact .inl ⟨j', q'⟩
          · exact .inr q'
        · rw [h4 j fun q => hj (List.mem_cons_of_mem _ q)]
          unfold owSet
          rw [if_neg fun q => hj (by rw [q]; exact List.mem_cons_self)]
        · by_cases hjk : j ∈ ks
          · exact h5 hP j hjk
          · rw [h4 j hjk]
            rcases List.mem_cons.mp hj with q | q
            · unfold owSet; rw [if_pos q]
            · exact absurd q hjk
      | @own P vals vs a items l hp hm r1 r =>
        have hnd := List.nodup_cons.mp hn
        refine assignInOrder_cons (hst _ _ _ (store_own (W0 := WP W0 P) hE I hk hf (fun b q => q.imp id (List.mem_cons_of_mem _)) (fun b q => ?_) (.inr List.mem_cons_self) (fun q => ?_) hp hm r1 fun s2 q2 I2 sk sb => ?_))
        · rcases q with q | q
          · exact .inl (.inl q)
          · rcases List.mem_cons.mp q with q | q
            · exact .inr q
            · exact .inl (.inr q)
        · rcases q with q | q
          · exact h0 a List.mem_cons_self q
          · exact hnd.1 q
        · have wf : ∀ b, ¬ Wf (WP W0 (a :: P)) ow b → ¬ Wf (WP W0 P) (owSet ow k (some a)) b := by
            rintro b hb (q | ⟨j, q⟩)
            · exact hb (.inl (q.imp id (List.mem_cons_of_mem _)))
            · unfold owSet at q
              split at q
              · cases q; exact hb (.inl (.inr List.mem_cons_self))
              · exact hb (.inr ⟨j, q⟩)
          refine stores_ok ks P vals vs s2 _ _ ht hnd.2 (fun b hb => h0 b (List.mem_cons_of_mem _ hb)) I2 (r.mono (fun b o e hs hw => ⟨sk b o e hs, wf b hw⟩) sk) hs fun s3 ow' q3 I3 h3 h4 h5 h6 => hQ s3 ow' (q2.trans q3) I3 (fun j b q => ?_) (fun j hj => ?_) (fun hP => by cases hP) fun b o e hb => h6 b o (sb b o e fun loc hl => hb k List.mem_cons_self loc hl) fun j hj => hb j (List.mem_cons_of_mem _ hj)
          · rcases h3 j b q with ⟨j', q'⟩ | q'
            · unfold owSet at q'
              split at q'
              · cases q'; exact .inr List.mem_cons_self
              · exact .inl ⟨j', q'⟩
            · exact .inr (List.mem_cons_of_mem _ q')
          · rw [h4 j fun q => hj (List.mem_cons_of_mem _ q)]
            unfold owSet
            rw [if_neg fun q => hj (by rw [q]; exact List.mem_cons_self)]

/-- expressions in a row, the new lists told -/
noncomputable def SLF (C : Cx) (Γ : Env0) (n : Nat) (sc : List (PySem.Str × NameKind)) (xs : List (Option PySem.Str)) (es : List Expr) (l' : EL) : Prop :=
  ∀ fr d vs d', evL Γ l' fr d = some (vs, d') → ∀ (A : Around) (env : Env) (lay : List Loc) (W0 : Addr → Prop) (ow : Nat → Option Addr) (s : Shared) (pos : Pos) (Q : List Value → Shared → Prop) (E : Value → Shared → Prop),
    Room A n → EnvOK env sc xs lay → FI C lay fr W0 ow d s.heap →
    (∀ vals s' P, Aft C.d0 s s' → DRel C s'.heap d' → FI C lay fr (WP W0 P) ow d' s'.heap → P.Nodup → (∀ a ∈ P, s.heap.get? a = none) → RL C.d0 s'.heap (Wf (WP W0 P) ow) P vals (flags l' vs) → vals.length = vs.length → Q vals s') →
    wpAny (model C.prog C.w) A (spliced (backTo pos (starEach es env))) Q E s
variable (c : COK C)
include c
theorem slf_nil : SLF C Γ n sc xs [] .nil := by
  intro fr d vs d' hv A env lay W0 ow s pos Q E R hE I hQ
  cases hv
  refine args_nil (hQ _ _ [] (.refl ..) I.hi.dr ?_ List.nodup_nil (fun a h => by cases h) .nil rfl)
  rwa [WP_nil]
theorem slf_cons {e : Expr} {rest : List Expr} {e' : E} {l' : EL} (h1 : SE C Γ n sc xs e e') (h2 : SLF C Γ n sc xs rest l') (he : ∀ env, starEach (e :: rest) env = (false, eval e env) :: starEach rest env) :
    SLF C Γ n sc xs (e :: rest) (.cons e' l') := by
  intro fr d vs d' hv A env lay W0 ow s pos Q E R hE I hQ
  obtain ⟨v, d1, e1, hv⟩ := bind2 hv
  obtain ⟨ws, d2, e2, hv⟩ := bind2 hv
  cases hv
  refine args_cons (he := he env) (h1 _ _ _ _ e1 A env lay W0 ow s _ E R hE I fun x s1 k1 hd1 r1 => ?_)
  have new1 : ∀ {s2 : Shared} {P : List Addr} (b : Addr), b ∈ P → (∀ a ∈ P, s1.heap.get? a = none) → s.heap.get? b = none := fun b hb hP => by
    cases e : s.heap.get? b with
    | none => rfl
    | some o =>
      have hb' := hP b hb
      by_cases q : b = C.d0
      · subst q; obtain ⟨o', e''⟩ := hd1.alloc; rw [hb'] at e''; cases e''
      · have := k1.2 b o e q; rw [hb'] at this; cases this
  by_cases hfl : (freshE e' && v.isLst) = true
  · have hf := Bool.and_eq_true_iff.mp hfl
    obtain ⟨l, hl⟩ := Option.isSome_iff_exists.mp hf.2
    cases V.lst?_inv hl
    obtain ⟨a, items, rfl, hn, ⟨nn, ea⟩, r⟩ := r1.2 hf.1 l rfl
    obtain ⟨_, _, _, _, _, hm, _⟩ := r1.1.lst_of
    have IP := I.pend c k1 hd1 hn ⟨_, ea⟩
    refine h2 _ _ _ _ e2 A env lay (fun b => W0 b ∨ b = a) ow s1 pos _ E R hE IP fun ys s2 P k2 hd2 I2 nd hP r2 hlen => ?_
    rw [WP_cons] at I2 r2
    have ha : a ∉ P := fun q => by have := hP a q; rw [ea] at this; cases this
    have seq1 : ∀ b o, s1.heap.get? b = some o → OSeq o → s2.heap.get? b = some o := fun b o e hs => k2.2 b o e fun q => hd1.noSeq (q ▸ e) hs
    refine hQ _ _ (a :: P) (k1.trans k2) hd2 I2 (List.nodup_cons.mpr ⟨ha, nd⟩) (fun b hb => ?_) ?_ (congrArg (· + 1) hlen)
    · rcases List.mem_cons.mp hb with rfl | hb
      · exact hn
      · exact new1 (s2 := s2) b hb hP
    · show RL _ _ _ _ _ ((freshE e' && V.isLst (.lst l), V.lst l) :: flags l' ws)
      rw [hfl]
      refine .own ⟨nn, seq1 _ _ ea ⟨_, _, rfl⟩⟩ hm (r.mono fun b o e hs hw => ⟨seq1 b o e hs, ?_⟩) r2
      rintro (q | q)
      · rcases q with q | q
        · exact hw (.inl (.inl q))
        · rcases List.mem_cons.mp q with q | q
          · exact hw (.inr q)
          · have := hP b q; rw [e] at this; cases this
      · exact hw (.inl (.inr q))
  · rw [Bool.not_eq_true] at hfl
    refine h2 _ _ _ _ e2 A env lay W0 ow s1 pos _ E R hE (I.aft c k1 hd1) fun ys s2 P k2 hd2 I2 nd hP r2 hlen => ?_
    refine hQ _ _ P (k1.trans k2) hd2 I2 nd (fun b hb => new1 (s2 := s2) b hb hP) ?_ (congrArg (· + 1) hlen)
    show RL _ _ _ _ _ ((freshE e' && v.isLst, v) :: flags l' ws)
    rw [hfl]
    refine .sh (r1.1.mono fun b o e hs hw => ⟨k2.2 b o e fun q => hd1.noSeq (q ▸ e) hs, ?_⟩) r2
    rintro (q | q)
    · rcases q with q | q
      · exact hw (.inl q)
      · have := hP b q; rw [e] at this; cases this
    · exact hw (.inr q)
end
end Mine
-- MJ
namespace Mine
open PySem PySem.W PyProof.Rows

noncomputable def FlOK (C : Cx) (W : Addr → Prop) (s s1 : Shared) : Fl → Flow → Prop
  | .next, .next => True
  | .cont, .cont => True
  | .ret f v, .ret val => RepE C.d0 s s1.heap W f val v
  | _, _ => False

section
variable (C : Cx) (Γ : Env0) (n wf : Nat) (sc : List (PySem.Str × NameKind)) (xs : List (Option PySem.Str))
noncomputable def Post (C : Cx) (fr' : Frm) (fl : Fl) (d' : Dr) (lay : List Loc) (W0 : Addr → Prop) (ow : Nat → Option Addr) (s : Shared) (Q : Flow → Shared → Prop) : Prop :=
  ∀ flow s1 ow', Stp C lay ow ow' s s1 → FI C lay fr' W0 ow' d' s1.heap → FlOK C (Wf W0 ow') s s1 fl flow → Q flow s1
/-- a statement of the text stands for one of mine -/
noncomputable def SS (st : Stmt) (st' : S) : Prop :=
  ∀ fr d fl fr' d', exS Γ wf st' fr d = some (fl, fr', d') → ∀ (A : Around) (env : Env) (lay : List Loc) (W0 : Addr → Prop) (ow : Nat → Option Addr) (s : Shared) (Q : Flow → Shared → Prop) (E : Value → Shared → Prop),
    Room A n → EnvOK env sc xs lay → FI C lay fr W0 ow d s.heap → Post C fr' fl d' lay W0 ow s Q → wpAny (model C.prog C.w) A (exec st env) Q E s
/-- the same of a statement that turns lists alone: the frame's own stay its own -/
noncomputable def SSo (st : Stmt) (st' : S) : Prop :=
  ∀ fr d fl fr' d', exS Γ wf st' fr d = some (fl, fr', d') → ∀ (A : Around) (env : Env) (lay : List Loc) (W0 : Addr → Prop) (ow : Nat → Option Addr) (s : Shared) (Q : Flow → Shared → Prop) (E : Value → Shared → Prop),
    Room A n → EnvOK env sc xs lay → FI C lay fr W0 ow d s.heap → (∀ s1, fl = .next → Stp C lay ow ow s s1 → FI C lay fr' W0 ow d' s1.heap → Q .next s1) → wpAny (model C.prog C.w) A (exec st env) Q E s
noncomputable def SSL (sts : List Stmt) (sts' : SL) : Prop :=
  ∀ fr d fl fr' d', exL Γ wf sts' fr d = some (fl, fr', d') → ∀ (A : Around) (env : Env) (lay : List Loc) (W0 : Addr → Prop) (ow : Nat → Option Addr) (s : Shared) (Q : Flow → Shared → Prop) (E : Value → Shared → Prop),
    Room A n → EnvOK env sc xs lay → FI C lay fr W0 ow d s.heap → Post C fr' fl d' lay W0 ow s Q → wpAny (model C.prog C.w) A (execs sts env) Q E s
end

section
variable {C : Cx} {Γ : Env0} {n wf : Nat} {sc : List (PySem.Str × NameKind)} {xs : List (Option PySem.Str)} {lay : List Loc} {ow ow' : Nat → Option Addr} {s s' : Shared} {d d' : Dr} {fr fr' : Frm} {W0 : Addr → Prop}

theorem RepE.backS {s s' : Shared} {h : Heap} {W : Addr → Prop} {f : Bool} {val : Value} {v : V} (r : RepE C.d0 s' h W f val v) (k : Stp C lay ow ow' s s') : RepE C.d0 s h W f val v := by
  refine ⟨r.1, fun hf l e => ?_⟩
  obtain ⟨a, items, h1, h2, h3, h4⟩ := r.2 hf l e
  refine ⟨a, items, h1, ?_, h3, h4⟩
  cases e' : s.heap.get? a with
  | none => rfl
  | some o => obtain ⟨o', e''⟩ := k.al a o e'; rw [h2] at e''; cases e''
theorem FlOK.back {s s' s1 : Shared} {W : Addr → Prop} {fl : Fl} {flow : Flow} (r : FlOK C W s' s1 fl flow) (k : Stp C lay ow ow' s s') : FlOK C W s s1 fl flow := by
  cases fl <;> cases flow <;> first | trivial | exact r | exact RepE.backS r k
theorem Post.after {fl : Fl} {Q : Flow → Shared → Prop} (hQ : Post C fr' fl d' lay W0 ow s Q) (k : Stp C lay ow ow' s s') : Post C fr' fl d' lay W0 ow' s' Q :=
  fun flow s1 ow'' k2 I r => hQ flow s1 ow'' (k.trans k2) I (r.back k)

theorem SSo.ss {st : Stmt} {st' : S} (h : SSo C Γ n wf sc xs st st') : SS C Γ n wf sc xs st st' :=
  fun fr d fl fr' d' hv A env lay W0 ow s Q E R hE I hQ => h fr d fl fr' d' hv A env lay W0 ow s Q E R hE I fun s1 e k I1 => hQ _ _ _ k I1 (by subst e; trivial)
theorem ssl_nil : SSL C Γ n wf sc xs [] .nil := by
  intro fr d fl fr' d' hv A env lay W0 ow s Q E R hE I hQ
  cases hv
  exact wpAny_execs_nil (hQ _ _ _ .refl I trivial)
theorem ssl_cons {st : Stmt} {rest : List Stmt} {st' : S} {rest' : SL} (h1 : SS C Γ n wf sc xs st st') (h2 : SSL C Γ n wf sc xs rest rest') : SSL C Γ n wf sc xs (st :: rest) (.cons st' rest') := by
  intro fr d fl fr' d' hv A env lay W0 ow s Q E R hE I hQ
  obtain ⟨fl1, ⟨fr1, d1⟩, e1, hv⟩ := bind2 hv
  refine wpAny_execs_cons (h1 _ _ _ _ _ e1 A env lay W0 ow s _ E R hE I fun flow s1 ow1 k1 I1 r1 => ?_)
  cases fl1 with
  | next =>
    cases flow <;> first | exact r1.elim | skip
    exact h2 _ _ _ _ _ hv A env lay W0 ow1 s1 Q E R hE I1 (hQ.after k1)
  | cont =>
    cases hv
    cases flow <;> first | exact r1.elim | exact hQ _ _ _ k1 I1 r1
  | ret f v =>
    cases hv
    cases flow <;> first | exact r1.elim | exact hQ _ _ _ k1 I1 r1
/-- a list of the frame's own is handed on -/
theorem FI.share {k : Nat} {b : Bool} {v : V} (I : FI C lay fr W0 ow d s.heap) (e : fr[k]? = some (some (b, v))) : FI C lay (fr.set k (some (false, v))) W0 (owSet ow k none) d s.heap := by
  have hk : ∃ loc val, lay[k]? = some loc ∧ loc.has s.heap val ∧ Rep C.d0 s.heap (Wf W0 (owSet ow k none)) val v := by
    cases b with
    | false =>
      obtain ⟨loc, val, h1, h2, h3⟩ := I.val k v e
      exact ⟨loc, val, h1, h2, h3.mono fun b o e hs hw => ⟨e, wf_drop hw⟩⟩
    | true =>
      obtain ⟨loc, a, items, l, h1, h2, h3, rfl, h5, h6, h7⟩ := I.owns k v e
      refine ⟨loc, _, h1, h2, .lst h5 ?_ h6 (h7.mono fun b o e hs hw => ⟨e, wf_drop hw⟩)⟩
      rintro (q | ⟨j, q⟩)
      · exact I.disj k a h3 q
      · unfold owSet at q
        split at q
        · cases q
        · rename_i hj; exact hj (I.inj j k a q h3)
  obtain ⟨loc, val, h1, h2, h3⟩ := hk
  exact I.put (fun _ q => q) h1 (fun b o e hs hw => ⟨e, wf_drop hw⟩) (fun j b o _ _ e => e) (fun j loc' v e _ h => h) (fun j loc' e => (I.lok j loc' e).1) I.hi.top (fun b o e => ⟨o, e⟩) I.hi.dr h2 (.inl ⟨rfl, rfl, h3⟩)
theorem ssl_share {k : Nat} {rest : List Stmt} {rest' : SL} (h2 : SSL C Γ n wf sc xs rest rest') : SSL C Γ n wf sc xs rest (.cons (.share k) rest') := by
  intro fr d fl fr' d' hv A env lay W0 ow s Q E R hE I hQ
  obtain ⟨fl1, ⟨fr1, d1⟩, e1, hv⟩ := bind2 hv
  obtain ⟨v, e2, e1⟩ := bind_inv e1
  cases e1
  obtain ⟨b, e⟩ := anyOf_inv e2
  have k1 : Stp C lay ow (owSet ow k none) s s := ⟨⟨_, _, rfl⟩, fun _ _ e _ _ _ => e, fun j a q => by
    unfold owSet at q
    split at q
    · cases q
    · exact .inl ⟨j, q⟩, fun b o e => ⟨o, e⟩⟩
  exact h2 _ _ _ _ _ hv A env lay W0 _ s Q E R hE (I.share e) (hQ.after k1)

theorem ss_fail {st : Stmt} : SS C Γ n wf sc xs st .fail := by
  intro fr d fl fr' d' hv
  cases hv
theorem ss_cont {pos : Pos} : SS C Γ n wf sc xs (.Continue pos) .cont := by
  intro fr d fl fr' d' hv A env lay W0 ow s Q E R hE I hQ
  cases hv
  exact wpAny_Continue (hQ _ _ _ .refl I trivial)
theorem ss_ret {e : Expr} {pos : Pos} {e' : E} (c : COK C) (h1 : SE C Γ n sc xs e e') : SS C Γ n wf sc xs (.Return (some e) pos) (.ret e') := by
  intro fr d fl fr' d' hv A env lay W0 ow s Q E R hE I hQ
  obtain ⟨v, d1, e1, hv⟩ := bind2 hv
  cases hv
  refine wpAny_Return_some (h1 _ _ _ _ e1 A env lay W0 ow s _ E R hE I fun val s1 k1 hd1 r1 => hQ _ _ _ (Stp.of k1 I.hi.dr hd1) (I.aft c k1 hd1) ?_)
  refine ⟨r1.1, fun hf l e => ?_⟩
  rw [Bool.and_eq_true] at hf
  exact r1.2 hf.1 l e
theorem ss_expr {x : PySem.Str} {np p pos : Pos} {args : List Expr} {e' : E} (c : COK C) (h1 : SE C Γ n sc xs (.Call (.Name x np) args [] p) e') : SS C Γ n wf sc xs (.Expr (.Call (.Name x np) args [] p) pos) (.expr e') := by
  intro fr d fl fr' d' hv A env lay W0 ow s Q E R hE I hQ
  obtain ⟨v, d1, e1, hv⟩ := bind2 hv
  obtain ⟨hn, hv⟩ := if_inv hv
  cases V.isNone_inv hn
  cases hv
  refine wpAny_Expr (hi := by unfold interactive; rw [hE.kind]; rfl) (h1 _ _ _ _ e1 A env lay W0 ow s _ E R hE I fun val s1 k1 hd1 r1 => ?_)
  rw [r1.1.none_of]
  exact hQ _ _ _ (Stp.of k1 I.hi.dr hd1) (I.aft c k1 hd1) trivial

variable (c : COK C)
include c
theorem ss_asg {x : PySem.Str} {p pos : Pos} {e : Expr} {k : Nat} {e' : E} (h1 : SE C Γ n sc xs e e') (hk : xs[k]? = some (some x)) (hf : sc.lookup x ≠ some .free)
    (hs : ∀ env : Env, env.scope.kind = .function → env.scope.names = sc → swapsWith e (some (.Name x p)) pos.line env = pure false) : SS C Γ n wf sc xs (.Assign [.Name x p] e pos) (.asg k e') := by
  intro fr d fl fr' d' hv A env lay W0 ow s Q E R hE I hQ
  obtain ⟨v, d1, e1, hv⟩ := bind2 hv
  cases hv
  refine wpAny_Assign_Name (hs := hs env hE.kind hE.look) (h1 _ _ _ _ e1 A env lay W0 ow s _ E R hE I fun val s1 k1 hd1 r1 => ?_)
  exact store_ok c hE I k1 hd1 hk hf r1 fun s2 ow' k2 I2 _ => hQ _ _ _ k2 I2 trivial

theorem evalT_ok {es : List Expr} {es' : EL} {kk : Nat} {vpos : Pos} (h1 : SLF C Γ n sc xs es es') {vs : List V} (e1 : evL Γ es' fr d = some (vs, d')) {A : Around} {env : Env} {E : Value → Shared → Prop} {Q : Value → Shared → Prop} (R : Room A n) (hE : EnvOK env sc xs lay) (I : FI C lay fr W0 ow d s.heap) (hl : es'.len ≤ LIM)
    (hQ : ∀ T vals s2 P, Aft C.d0 s s2 → DRel C s2.heap d' → FI C lay fr (WP W0 P) ow d' s2.heap → P.Nodup → (∀ a ∈ P, s.heap.get? a = none) → RL C.d0 s2.heap (Wf (WP W0 P) ow) P vals (flags es' vs) → vals.length = vs.length → IsTup s2.heap T vals.toArray → Q (.ref T) s2) :
    wpAny (model C.prog C.w) A (eval (.Tuple es kk vpos) env) Q E s := by
  refine wpAny_Tuple (h1 _ _ _ _ e1 A env lay W0 ow s vpos _ E R hE I fun vals s1 P k1 hd1 I1 nd hP r hlen => ⟨?_, ?_⟩)
  · rw [hlen, evL_len _ e1]; exact Nat.le_trans hl (by decide)
  · have kk : AftK s1 { s1 with heap := s1.heap.push { cls := .type "tuple", data := .seq vals.toArray } } := AftK.push (s := s1)
    exact hQ _ vals _ P (k1.trans (kk.aft _)) (kk.drx hd1) (I1.aft c (kk.aft _) (kk.drx hd1)) nd hP (r.mono (fun b o e hs hw => ⟨kk.2 b o e, hw⟩) fun b o e hs => kk.2 b o e) hlen (IsTup.new _ _)

/-- behind an unpacking: one object more -/
theorem ext_aftK {s : Shared} {h' : Heap} (x : Heap.ExtBut s.heap.objs.size s.heap h') : AftK s { s with heap := h' } :=
  ⟨⟨_, _, rfl⟩, fun b o e => x b o (fun q => by rw [q, get_size] at e; cases e) e⟩

/-- a, b = (e1, e2), the names local: the stores go from behind -/
theorem ss_asg2s {names : List PySem.Str} {elts es : List Expr} {kk kk' : Nat} {tpos vpos pos : Pos} {ks : List Nat} {es' : EL} (h1 : SLF C Γ n sc xs es es') (ht : TOK sc xs names.reverse ks.reverse) (hnd : ks.Nodup) (hlen : names.length = es'.len) (hl : es'.len ≤ LIM)
    (hw : ∀ env : Env, env.scope.kind = .function → env.scope.names = sc → swappedStores [.Tuple elts kk tpos] (.Tuple es kk' vpos) env = pure (some names)) :
    SS C Γ n wf sc xs (.Assign [.Tuple elts kk tpos] (.Tuple es kk' vpos) pos) (.asg2 ks es') := by
  intro fr d fl fr' d' hv A env lay W0 ow s Q E R hE I hQ
  obtain ⟨vs, d1, e1, hv⟩ := bind2 hv
  obtain ⟨fr1, e2, hv⟩ := bind_inv hv
  cases hv
  have e2 := set2_eq _ _ _ _ _ e2
  refine Assign_Tuple_swapped (hw := hw env hE.kind hE.look) (evalT_ok c h1 e1 R hE I hl fun T vals s1 P k1 hd1 I1 nd hP r hvl hT => ?_)
  have hz : names.length = vals.toArray.size := by rw [hlen, ← evL_len _ e1, ← hvl, List.size_toArray]
  rw [hz]
  refine unpackItems_tuple R.hd hT fun h' x => ?_
  have k2 := ext_aftK c x
  refine stores_ok (W0 := W0) (d := d1) hE _ _ ks.reverse P.reverse vals.reverse (flags es' vs).reverse _ fr _ ow _ (stl_bind _) ht (List.pairwise_reverse.mpr (nd.imp fun h => Ne.symm h)) (fun a ha q => ?_) ?_ ?_ (setC_rev hnd e2) fun s2 ow' q2 I2 h3 h4 h5 h6 => ?_
  · have := hP a (List.mem_reverse.mp ha)
    obtain ⟨o, e⟩ := I.hi.al a (.inl q); rw [this] at e; cases e
  · rw [show WP W0 P.reverse = WP W0 P from funext fun b => propext (or_congr Iff.rfl List.mem_reverse)]
    exact I1.aft c (k2.aft _) (k2.drx hd1)
  · rw [show WP W0 P.reverse = WP W0 P from funext fun b => propext (or_congr Iff.rfl List.mem_reverse)]
    exact (r.mono (fun b o e hs hw => ⟨k2.2 b o e, hw⟩) fun b o e hs => k2.2 b o e).reverse
  · refine hQ _ s2 ow' (q2.stp (k1.trans (k2.aft _)) I.hi.dr (k2.drx hd1) fun j a q => ?_) I2 trivial
    rcases h3 j a q with q' | q'
    · exact .inl q'
    · exact .inr (hP a (List.mem_reverse.mp q'))
theorem ss_asg2 {names : List PySem.Str} {elts es : List Expr} {kk kk' : Nat} {tpos vpos pos : Pos} {ks : List Nat} {es' : EL} (h1 : SLF C Γ n sc xs es es') (ht : TOK sc xs names ks) (hlen : names.length = es'.len) (hl : es'.len ≤ LIM) (hN : NL elts names)
    (hw : ∀ env : Env, env.scope.kind = .function → env.scope.names = sc → swappedStores [.Tuple elts kk tpos] (.Tuple es kk' vpos) env = pure none) :
    SS C Γ n wf sc xs (.Assign [.Tuple elts kk tpos] (.Tuple es kk' vpos) pos) (.asg2 ks es') := by
  intro fr d fl fr' d' hv A env lay W0 ow s Q E R hE I hQ
  obtain ⟨vs, d1, e1, hv⟩ := bind2 hv
  obtain ⟨fr1, e2, hv⟩ := bind_inv hv
  cases hv
  have e2 := set2_eq _ _ _ _ _ e2
  refine Assign_Tuple (hw := hw env hE.kind hE.look) (evalT_ok c h1 e1 R hE I hl fun T vals s1 P k1 hd1 I1 nd hP r hvl hT => ?_)
  refine assign_Tuple_tuple R.hd hT (by rw [hN.length, hlen, ← evL_len _ e1, ← hvl, List.size_toArray]) hN.star fun h' x => ?_
  have k2 := ext_aftK c x
  refine stores_ok (W0 := W0) (d := d1) hE _ _ ks P vals (flags es' vs) _ fr _ ow _ hN.stl ht nd (fun a ha q => ?_) (I1.aft c (k2.aft _) (k2.drx hd1)) (r.mono (fun b o e hs hw => ⟨k2.2 b o e, hw⟩) fun b o e hs => k2.2 b o e) e2 fun s2 ow' q2 I2 h3 h4 h5 h6 => ?_
  · obtain ⟨o, e⟩ := I.hi.al a (.inl q); rw [hP a ha] at e; cases e
  · refine hQ _ s2 ow' (q2.stp (k1.trans (k2.aft _)) I.hi.dr (k2.drx hd1) fun j a q => ?_) I2 trivial
    rcases h3 j a q with q' | q'
    · exact .inl q'
    · exact .inr (hP a q')
theorem RL.ofReps {d0 : Addr} {h : Heap} {W : Addr → Prop} {vals : List Value} {l : List V} (r : Reps d0 h W vals l) : RL d0 h W [] vals (l.map fun v => (false, v)) :=
  Reps.indL (P := fun vals l => RL d0 h W [] vals (l.map fun v => (false, v))) .nil (fun _ _ _ _ a _ ih => .sh a ih) l vals r
/-- a tuple's items to names -/
theorem assignT_ok {names : List PySem.Str} {elts : List Expr} {kk : Nat} {tpos : Pos} {ks : List Nat} {T : Addr} {items : Array Value} {l : List V} {A : Around} {env : Env} {E : Value → Shared → Prop} {Q : Unit → Shared → Prop}
    (ht : TOK sc xs names ks) (hN : NL elts names) (R : A.handled = none) (hE : EnvOK env sc xs lay) (I : FI C lay fr W0 ow d s.heap) (hT : IsTup s.heap T items) (r : Reps C.d0 s.heap (Wf W0 ow) items.toList l) (e2 : setAll fr ks l = some fr')
    (hQ : ∀ s2 ow', Stp C lay ow ow' s s2 → FI C lay fr' W0 ow' d s2.heap → (∀ k, k ∉ ks → ow' k = ow k) → (∀ k ∈ ks, ow' k = none) → (∀ b o, s.heap.get? b = some o → (∀ k ∈ ks, ∀ loc : Loc, lay[k]? = some loc → loc.addr ≠ b) → s2.heap.get? b = some o) → Q () s2) : wpAny (model C.prog C.w) A (assign (.Tuple elts kk tpos) env (.ref T)) Q E s := by
  have e3 := setAll_eq _ _ _ _ e2
  have h1 := setC_len e3
  rw [List.length_map] at h1
  have h2 : ∀ (ns : List PySem.Str) (js : List Nat), TOK sc xs ns js → ns.length = js.length := by
    intro ns
    induction ns with
    | nil => intro js h; cases js with | nil => rfl | cons => exact h.elim
    | cons a r ih => intro js h; cases js with | nil => exact h.elim | cons j js => rw [List.length_cons, List.length_cons, ih js h.2.2]
  refine assign_Tuple_tuple R hT (by rw [hN.length, h2 _ _ ht, h1, ← r.length, Array.length_toList]) hN.star fun h' x => ?_
  have k2 := ext_aftK c x
  refine stores_ok (W0 := W0) (d := d) hE _ _ ks [] items.toList (l.map fun v => (false, v)) _ fr _ ow _ hN.stl ht List.nodup_nil (fun a ha => by cases ha) ?_ ?_ e3 fun s2 ow' q2 I2 h3 h4 h5 h6 => ?_
  · rw [WP_nil]; exact I.aft c (k2.aft _) (k2.drx I.hi.dr)
  · rw [WP_nil]
    exact RL.ofReps c (r.keepK k2.2)
  · refine hQ s2 ow' (q2.stp (k2.aft _) I.hi.dr (k2.drx I.hi.dr) fun j a q => ?_) I2 h4 (h5 rfl) fun b o e hb => h6 b o (k2.2 b o e) hb
    rcases h3 j a q with q' | q'
    · exact .inl q'
    · cases q'
theorem ss_asgT {names : List PySem.Str} {elts : List Expr} {kk : Nat} {tpos pos : Pos} {e : Expr} {ks : List Nat} {e' : E} (h1 : SE C Γ n sc xs e e') (ht : TOK sc xs names ks) (hN : NL elts names)
    (hs : ∀ env, swapsWithSole [.Tuple elts kk tpos] e pos.line env = pure false) (hw : ∀ env : Env, swappedStores [.Tuple elts kk tpos] e env = pure none) (hnl : ∀ fr d l d', evE Γ e' fr d ≠ some (.lst l, d')) :
    SS C Γ n wf sc xs (.Assign [.Tuple elts kk tpos] e pos) (.asgT ks e') := by
  intro fr d fl fr' d' hv A env lay W0 ow s Q E R hE I hQ
  obtain ⟨v, d1, e1, hv⟩ := bind2 hv
  obtain ⟨l, e0, hv⟩ := bind_inv hv
  obtain ⟨fr1, e2, hv⟩ := bind_inv hv
  cases hv
  rcases V.items?_inv e0 with e | e
  · cases e; exact absurd e1 (hnl _ _ _ _)
  · cases e
    refine Assign_Tuple (hs := hs env) (hw := hw env) (h1 _ _ _ _ e1 A env lay W0 ow s _ E R hE I fun val s1 k1 hd1 r1 => ?_)
    obtain ⟨a, items, rfl, hT, hw, r⟩ := r1.1.tup_of
    exact assignT_ok c ht hN R.hd hE (I.aft c k1 hd1) hT r e2 fun s2 ow' k2 I2 _ _ _ => hQ _ s2 ow' ((Stp.of k1 I.hi.dr hd1).trans k2) I2 trivial
end
end Mine
-- MK
namespace Mine
open PySem PySem.W PyProof.Rows

theorem setItem_plain {prog : Program} {w : World} {A : Around} {E : Value → Shared → Prop} {s : Shared} {a : Addr} {items : Array Value} {k : Int} {t : Tok} {v : Value} {Q : Unit → Shared → Prop} (hl : PL s.heap a items)
    (h0 : 0 ≤ k) (hfit : k < 2 ^ 63) (hn : k < items.size) (hQ : ∀ h', PL h' a (items.setIfInBounds k.toNat v) → Heap.SameBut a s.heap h' → Q () { s with heap := h' }) :
    wpAny (model prog w) A (setItem (.ref a) (.int k t) v) Q E s := by
  have hl' := hl
  obtain ⟨m, e⟩ := hl'
  have fits := fitsIndex_of h0 hfit
  clear hfit
  unfold setItem
  refine wpAny_holding (wpAny_bind (wpAny_sequenceKey hl.isList.typeIs (by decide) (wpAny_bind (wpAny_callSpecial?_slot (name := Str.ofString "__setitem__") hl.isList.typeIs slot_list_setitem
    (wpAny_call_entry slot_list_setitem hl.isList.typeIs entry_list_setitem ?_ (args_list_setitem _ _ _))))))
  show wpAny _ _ (Builtin.List.listSubscript? (.int k t) >>= _) _ _ s
  refine wpAny_bind (wpAny_listSubscript_int fits ?_)
  obtain ⟨j, rfl⟩ := Int.eq_ofNat_of_zero_le h0
  have hj : j < items.size := by omega
  have hx : items[j]? = some items[j] := Array.getElem?_eq_getElem hj
  show wpAny _ _ ((seqItemAt a j >>= fun r => pure (r.map (j, ·))) >>= _) _ _ s
  refine wpAny_bind (wpAny_bind (wpAny_seqItemAt e rfl (wpAny_pure ?_)))
  rw [hx]
  show wpAny _ _ (setSeqItemAt a j v >>= _) _ _ s
  refine wpAny_bind (wpAny_setSeqItemAt e rfl ?_)
  have fin : PL (s.heap.update a (Obj.mapSeq (·.setIfInBounds j v))) a (items.setIfInBounds j v) := ⟨_, IsL.update e _⟩
  first
    | exact wpAny_bind (wpAny_pure (wpAny_pure ⟨.none, rfl, wpAny_pure (hQ _ fin (Heap.SameBut.update ..))⟩))
    | exact wpAny_pure ⟨.none, rfl, wpAny_pure (hQ _ fin (Heap.SameBut.update ..))⟩

section
variable {C : Cx} {Γ : Env0} {n wf : Nat} {sc : List (PySem.Str × NameKind)} {xs : List (Option PySem.Str)} {lay : List Loc} {ow ow' : Nat → Option Addr} {s s' : Shared} {d d' : Dr} {fr fr' : Frm} {W0 : Addr → Prop}
variable (c : COK C)
include c
theorem ss_ite {t : Expr} {b o : List Stmt} {pos : Pos} {t' : E} {b' o' : SL} (h1 : ST C Γ n sc xs t t') (h2 : SSL C Γ n wf sc xs b b') (h3 : SSL C Γ n wf sc xs o o') : SS C Γ n wf sc xs (.If t b o pos) (.ite t' b' o') := by
  intro fr d fl fr' d' hv A env lay W0 ow s Q E R hE I hQ
  obtain ⟨v, d1, e1, hv⟩ := bind2 hv
  obtain ⟨b, e2, hv⟩ := bind_inv hv
  cases V.bool?_inv e2
  refine wpAny_If (h1 _ _ _ _ e1 A env lay W0 ow s _ E R hE I fun s1 k1 hd1 => ?_)
  have k := Stp.of (lay := lay) (ow := ow) k1 I.hi.dr hd1
  cases b with
  | true => exact h2 _ _ _ _ _ hv A env lay W0 ow s1 Q E R hE (I.aft c k1 hd1) (hQ.after k)
  | false => exact h3 _ _ _ _ _ hv A env lay W0 ow s1 Q E R hE (I.aft c k1 hd1) (hQ.after k)

theorem ss_while {t : Expr} {b : List Stmt} {pos : Pos} {t' : E} {b' : SL} (h1 : ST C Γ n sc xs t t') (h2 : SSL C Γ n wf sc xs b b') : SS C Γ n wf sc xs (.While t b [] pos) (.whil t' b') := by
  intro fr d fl fr' d' hv A env lay W0 ow s Q E R hE I hQ
  refine wpAny_While (codeAny_whileLoop (fun m s1 => ∃ fr1 d1 ow1, whileN (evE Γ t') (exL Γ wf b') m fr1 d1 = some (fl, fr', d') ∧ Stp C lay ow ow1 s s1 ∧ FI C lay fr1 W0 ow1 d1 s1.heap) ?_ wf ⟨fr, d, ow, hv, .refl, I⟩)
  rintro m s1 ⟨fr1, d1, ow1, hw, k1, I1⟩
  cases m with
  | zero => cases hw
  | succ m =>
    obtain ⟨v, d2, e, hw⟩ := bind2 hw
    obtain ⟨t, e2, hw⟩ := bind_inv hw
    cases V.bool?_inv e2
    refine h1 _ _ _ _ e A env lay W0 ow1 s1 _ _ R hE I1 fun s2 k2 hd2 => ?_
    have kk := k1.trans (Stp.of (lay := lay) (ow := ow1) k2 I1.hi.dr hd2)
    cases t with
    | false => cases hw; exact wpAny_execs_nil (hQ _ _ _ kk (I1.aft c k2 hd2) trivial)
    | true =>
      obtain ⟨fl2, ⟨fr2, d3⟩, e3, hw⟩ := bind2 hw
      refine h2 _ _ _ _ _ e3 A env lay W0 ow1 s2 _ _ R hE (I1.aft c k2 hd2) fun flow s3 ow3 k3 I3 r3 => ?_
      cases fl2 with
      | ret f v => cases hw; cases flow <;> first | exact r3.elim | exact hQ _ _ _ (kk.trans k3) I3 (r3.back kk)
      | next => cases flow <;> first | exact r3.elim | exact ⟨m, Nat.lt_succ_self _, _, _, _, hw, kk.trans k3, I3⟩
      | cont => cases flow <;> first | exact r3.elim | exact ⟨m, Nat.lt_succ_self _, _, _, _, hw, kk.trans k3, I3⟩

theorem ss_aug {x : PySem.Str} {p pos : Pos} {op : Operator} {o : BOp} {e : Expr} {k : Nat} {e' : E} (ho : opB op = some o) (h1 : SE C Γ n sc xs e e') (hk : xs[k]? = some (some x)) (hf : sc.lookup x ≠ some .free) (hp : plainName x = true) :
    SS C Γ n wf sc xs (.AugAssign (.Name x p) op e pos) (.aug k o e') := by
  intro fr d fl fr' d' hv A env lay W0 ow s Q E R hE I hQ
  obtain ⟨x0, e0, hv⟩ := bind_inv hv
  obtain ⟨i, e3, hv⟩ := bind_inv hv
  obtain ⟨y, d1, e1, hv⟩ := bind2 hv
  obtain ⟨z, e2, hv⟩ := bind_inv hv
  cases hv
  cases V.int?_inv e3
  obtain ⟨loc, val, hl, hv, r0⟩ := I.val k _ (varOf_inv e0)
  obtain ⟨t, rfl⟩ := r0.int_of
  have ld : ∀ Q' : Value → Shared → Prop, Q' (.int i t) s → wpAny (model C.prog C.w) A (loadName env x) Q' E s := fun Q' hq => by
    rcases hE.var k x hk with ⟨h1, h2⟩ | ⟨h1, cc, h2, h3⟩
    · rw [h2] at hl; cases hl
      obtain ⟨m, hn, e⟩ := hv
      exact wpAny_loadName_local hE.kind (by show env.scope.names.lookup x = _; rw [hE.look]; exact h1) hn e hq
    · rw [h3] at hl; cases hl
      rcases h1 with h1 | h1
      · exact wpAny_loadName_cell hE.kind (by show env.scope.names.lookup x = _; rw [hE.look]; exact h1) h2 hv hq
      · exact absurd h1 hf
  refine wpAny_AugAssign_Name (ld _ (h1 _ _ _ _ e1 A env lay W0 ow s _ E R hE I fun yv s1 k1 hd1 r1 => ?_))
  obtain ⟨j, w, rfl, rfl, hk2⟩ := binI_inv e2
  obtain ⟨u, rfl⟩ := r1.1.int_of
  refine ibin_ok ho hk2 fun tk => ?_
  have k2 : AftK s1 { s1 with toks := tk } := .tok
  exact store_ok c (f := false) hE I (k1.trans (k2.aft _)) (k2.drx hd1) hk hf (.plain (.int w _)) fun s2 ow' k3 I3 _ => hQ _ _ _ k3 I3 trivial
end
end Mine
-- ML
namespace Mine
open PySem PySem.W PyProof.Rows

section
variable {C : Cx} {Γ : Env0} {n wf : Nat} {sc : List (PySem.Str × NameKind)} {xs : List (Option PySem.Str)} {lay : List Loc} {ow ow' : Nat → Option Addr} {s s' : Shared} {d d' : Dr} {fr fr' : Frm} {W0 : Addr → Prop}

theorem owSet_same {k : Nat} {a : Addr} (h : ow k = some a) : owSet ow k (some a) = ow := by
  funext j; unfold owSet; split
  · rename_i e; rw [e, h]
  · rfl
/-- a list of the frame's own turns -/
theorem FI.mutate {k : Nat} {l l' : List V} {a : Addr} {items' : Array Value} {h' : Heap} {tk : Nat} (I : FI C lay fr W0 ow d s.heap) (e : fr[k]? = some (some (true, .lst l))) (hk : ow k = some a)
    (hp : PL h' a items') (sb : Heap.SameBut a s.heap h') (r : Reps C.d0 s.heap (Wf W0 ow) items'.toList l') (hm : l'.length ≤ LIM) :
    Stp C lay ow ow s { s with heap := h', toks := tk } ∧ FI C lay (fr.set k (some (true, .lst l'))) W0 ow d h' := by
  obtain ⟨loc, a2, items, l2, h1, h2, h3, h4, h5, h6, h7⟩ := I.owns k _ e
  rw [hk] at h3; cases h3
  have hp' := hp
  obtain ⟨n', ea'⟩ := hp'
  obtain ⟨n0, ea⟩ := h5
  have up : ∀ b o, s.heap.get? b = some o → ∃ o', h'.get? b = some o' := fun b o eb => by
    by_cases q : b = a
    · subst q; exact ⟨_, ea'⟩
    · exact ⟨o, (sb.2 b q).trans eb⟩
  have hd0 : C.d0 ≠ a := fun q => by subst q; exact I.hi.dr.noSeq ea ⟨_, _, rfl⟩
  have hloc : ∀ j (loc' : Loc), lay[j]? = some loc' → loc'.addr ≠ a := fun j loc' el q => by subst q; exact (I.lok j loc' el).1.noSeq ea ⟨_, _, rfl⟩
  have T : ∀ b o, s.heap.get? b = some o → OSeq o → ¬ Wf W0 ow b → h'.get? b = some o ∧ ¬ Wf W0 ow b := fun b o eb _ hw => ⟨(sb.2 b fun q => hw (.inr ⟨k, q ▸ hk⟩)).trans eb, hw⟩
  refine ⟨⟨⟨_, _, rfl⟩, fun b o eb _ hn _ => (sb.2 b fun q => hn k (q ▸ hk)).trans eb, fun j b q => .inl ⟨j, q⟩, up⟩, ?_⟩
  have key := I.put (W0 := W0) (k := k) (cell := (true, .lst l')) (a' := some a) (h' := h') (d' := d) (fun _ q => q) h1 (by rw [owSet_same hk]; exact T) (fun j b o hj q eb => (sb.2 b fun q' => hj (I.inj j k a (q' ▸ q) hk)).trans eb)
    (fun j loc' v el _ hv => hv.at fun o eo => (sb.2 _ (hloc j loc' el)).trans eo) (fun j loc' el => (I.lok j loc' el).1.at fun o eo => (sb.2 _ (hloc j loc' el)).trans eo)
    (fun b o eb => (sb.2 b fun q => by
      have := I.hi.wt a (.inr ⟨k, hk⟩); rw [q, this] at eb; cases eb).trans (I.hi.top b o eb)) up ?_ (h2.at fun o eo => (sb.2 _ (hloc k loc h1)).trans eo)
    (.inr ⟨rfl, a, items', l', rfl, rfl, rfl, hp, hm, by rw [owSet_same hk]; exact r.mono T, fun j hj q => hj (I.inj j k a q hk), I.disj k a hk, I.hi.wt a (.inr ⟨k, hk⟩)⟩)
  · rwa [owSet_same hk] at key
  · have hd := I.hi.dr
    cases d with
    | none => exact ⟨(sb.2 _ hd0).trans hd.1, hd.2⟩
    | some p => obtain ⟨t, u, o, es, ep, e, r⟩ := hd; exact ⟨t, u, o, es, ep, (sb.2 _ hd0).trans e, r⟩

inductive OwnRef (C : Cx) (lay : List Loc) (W : Addr → Prop) (ow : Nat → Option Addr) (h : Heap) (k : Nat) (x : V) : Prop
  | mk (loc : Loc) (a : Addr) (items : Array Value) (l : List V) (h1 : lay[k]? = some loc) (h2 : loc.has h (.ref a)) (h3 : ow k = some a) (h4 : x = .lst l) (h5 : PL h a items) (h6 : l.length ≤ LIM) (h7 : Reps C.d0 h W items.toList l) (h8 : items.size = l.length)
/-- to a list that the frame owns -/
theorem FI.ownRef {k : Nat} {l : V} (I : FI C lay fr W0 ow d s.heap) (e : fr[k]? = some (some (true, l))) : OwnRef C lay (Wf W0 ow) ow s.heap k l := by
  obtain ⟨loc, a, items, l', h1, h2, h3, h4, h5, h6, h7⟩ := I.owns k _ e
  exact ⟨loc, a, items, l', h1, h2, h3, h4, h5, h6, h7, by rw [← h7.length, Array.length_toList]⟩

variable (c : COK C)
include c
theorem setI_step {k : Nat} {cell : Cell} {j v : V} {jv vv : Value} {fr0 : Option Cell} (hc : setIV fr[k]? j v = some cell) (I : FI C lay fr W0 ow d s.heap) (rj : Rep C.d0 s.heap (Wf W0 ow) jv j) (rv : Rep C.d0 s.heap (Wf W0 ow) vv v)
    {A : Around} {Q : Unit → Shared → Prop} {E : Value → Shared → Prop} {a : Addr} (hk : ow k = some a)
    (hQ : ∀ s2, Stp C lay ow ow s s2 → FI C lay (fr.set k cell) W0 ow d s2.heap → Q () s2) : wpAny (model C.prog C.w) A (setItem (.ref a) jv vv) Q E s := by
  obtain ⟨l, i, e, rfl, hb, rfl⟩ := setIV_inv hc
  obtain ⟨loc, a2, items, l2, h1, h2, h3, h4, h5, h6, h7, h8⟩ := I.ownRef e
  cases h4
  rw [hk] at h3; cases h3
  obtain ⟨t, rfl⟩ := rj.int_of
  have hL : LIM = 1000000 := rfl
  refine setItem_plain h5 hb.1 (by omega) (by omega) fun h' hp sb => ?_
  obtain ⟨k2, I2⟩ := I.mutate (l' := l.set i.toNat v) (tk := s.toks) e hk hp sb (by rw [Array.toList_setIfInBounds]; exact h7.set rv _) (by rw [List.length_set]; exact h6)
  exact hQ _ k2 I2
theorem sso_setI {x : PySem.Str} {np p pos : Pos} {ei ev : Expr} {k : Nat} {ei' ev' : E} (h1 : SE C Γ n sc xs ev ev') (h2 : SE C Γ n sc xs ei ei') (hk : xs[k]? = some (some x)) (hp : plainName x = true)
    (hs : ∀ env, swapsWith ev (some (.Subscript (.Name x np) ei p)) pos.line env = pure false) : SSo C Γ n wf sc xs (.Assign [.Subscript (.Name x np) ei p] ev pos) (.setI k ei' ev') := by
  intro fr d fl fr' d' hv A env lay W0 ow s Q E R hE I hQ
  obtain ⟨v, d1, e1, hv⟩ := bind2 hv
  obtain ⟨j, d2, e2, hv⟩ := bind2 hv
  obtain ⟨cell, e3, hv⟩ := bind_inv hv
  cases hv
  refine wpAny_Assign_Subscript (hs := hs env) (h1 _ _ _ _ e1 A env lay W0 ow s _ E R hE I fun vv s1 k1 hd1 r1 => ?_)
  have I1 := I.aft c k1 hd1
  obtain ⟨l, _, e, _⟩ := setIV_inv e3
  obtain ⟨loc, a, items, l', hl, hv, ho, _, h5, h6, h7, h8⟩ := I1.ownRef e
  have hp := plain_two hp
  refine Name_any hE hk hl hv hp.1 hp.2 (h2 _ _ _ _ e2 A env lay W0 ow s1 _ E R hE I1 fun jv s2 k2 hd2 r2 => ?_)
  have I2 := I1.aft c k2 hd2
  exact setI_step c (fr0 := none) e3 I2 r2.1 (r1.1.aft hd1 k2) ho fun s3 k3 I3 => hQ _ rfl ((Stp.of (k1.trans k2) I.hi.dr hd2).trans k3) I3
theorem ss_augI {x : PySem.Str} {np p pos : Pos} {op : Operator} {o : BOp} {ei ev : Expr} {k : Nat} {ei' ev' : E} (ho : opB op = some o) (h1 : SE C Γ n sc xs ev ev') (h2 : SE C Γ n sc xs ei ei') (hk : xs[k]? = some (some x)) (hp : plainName x = true)
    (ha : ∀ ov iv new, augStore ei ov iv new = (do holding [new, ov, iv] (setItem ov iv new); release [new, ov, iv] []; pure .next)) : SS C Γ n wf sc xs (.AugAssign (.Subscript (.Name x np) ei p) op ev pos) (.augI k ei' o ev') := by
  intro fr d fl fr' d' hv A env lay W0 ow s Q E R hE I hQ
  obtain ⟨j, d1, e1, hv⟩ := bind2 hv
  obtain ⟨xv, e2, hv⟩ := bind_inv hv
  obtain ⟨y, d2, e3, hv⟩ := bind2 hv
  obtain ⟨z, e4, hv⟩ := bind_inv hv
  obtain ⟨cell, e5, hv⟩ := bind_inv hv
  cases hv
  obtain ⟨l, i, x0, e, rfl, h0, ex, rfl⟩ := getIV_inv e2
  obtain ⟨loc, a, items, l', hl, hv, how, hll, h5, h6, h7, h8⟩ := I.ownRef e
  cases hll
  have hp := plain_two hp
  refine wpAny_AugAssign_Subscript_any (ha := ha) (Name_any hE hk hl hv hp.1 hp.2 (h2 _ _ _ _ e1 A env lay W0 ow s _ E R hE I fun jv s1 k1 hd1 r1 => ?_))
  have I1 := I.aft c k1 hd1
  obtain ⟨loc1, a1, items1, l1, hl1, hv1, how1, hll1, h51, h61, h71, h81⟩ := I1.ownRef e
  cases hll1
  rw [how] at how1; cases how1
  obtain ⟨t, rfl⟩ := r1.1.int_of
  obtain ⟨val, ev, rv⟩ := h71.get ex
  obtain ⟨u, rfl⟩ := rv.int_of
  have hlt : i.toNat < items1.toList.length := (List.getElem?_eq_some_iff.mp ev).1
  rw [Array.length_toList] at hlt
  have hL : LIM = 1000000 := rfl
  refine wpAny_getItem_list h51.isList h0 (by omega) (by rw [← ev, Array.getElem?_toList]) ?_
  refine h1 _ _ _ _ e3 A env lay W0 ow s1 _ E R hE I1 fun yv s2 k2 hd2 r2 => ?_
  have I2 := I1.aft c k2 hd2
  obtain ⟨w, zz, rfl, rfl, hk2⟩ := binI_inv e4
  obtain ⟨uu, rfl⟩ := r2.1.int_of
  refine ibin_ok ho hk2 fun tk => ?_
  have k3 : AftK s2 { s2 with toks := tk } := .tok
  exact setI_step c (fr0 := none) (s := { s2 with toks := tk }) e5 (I2.aft c (k3.aft _) (k3.drx hd2)) (.int i t) (.int zz _) how fun s3 k4 I3 => hQ _ _ _ ((Stp.of ((k1.trans k2).trans (k3.aft _)) I.hi.dr (k3.drx hd2)).trans k4) I3 trivial
theorem ss_append {x : PySem.Str} {np p1 p2 pos : Pos} {e : Expr} {k : Nat} {e' : E} (h1 : SE C Γ n sc xs e e') (hk : xs[k]? = some (some x)) (hp : plainName x = true) (hline : (p1.endLine == p2.line) = true)
    (he : ∀ env, starEach [e] env = [(false, eval e env)]) (hz : ∀ env line, swapsWith (.Call (.Attribute (.Name x np) "append" p1) [e] [] p2) none line env = pure false) :
    SS C Γ n wf sc xs (.Expr (.Call (.Attribute (.Name x np) "append" p1) [e] [] p2) pos) (.append k e') := by
  intro fr d fl fr' d' hv A env lay W0 ow s Q E R hE I hQ
  obtain ⟨v, d1, e1, hv⟩ := bind2 hv
  obtain ⟨l, e2, hv⟩ := bind_inv hv
  obtain ⟨hlt, hv⟩ := ifs_inv hv
  cases hv
  have e2 := ownOf_inv e2
  obtain ⟨loc, a, items, l', hl, hv, how, hll, ⟨n5, h5⟩, h6, h7, h8⟩ := I.ownRef e2
  cases hll
  have hp := plain_two hp
  refine wpAny_Expr (hi := by unfold interactive; rw [hE.kind]; rfl) (hs := hz _ _) (wpAny_Call_append rfl (by rw [he]; rfl) hline (by rw [he]; rfl) (Name_any hE hk hl hv hp.1 hp.2 ⟨a, items, rfl, ⟨_, n5, h5, rfl, rfl, rfl⟩, ?_⟩))
  refine h1 _ _ _ _ e1 A env lay W0 ow s _ E R hE I fun vv s1 k1 hd1 r1 => ?_
  have I1 := I.aft c k1 hd1
  obtain ⟨loc1, a1, items1, l1, hl1, hv1, how1, hll1, h51, h61, h71, h81⟩ := I1.ownRef e2
  cases hll1
  rw [how] at how1; cases how1
  refine wpAny_list_append_plain (hsz := by rw [h81]; exact Nat.le_trans h61 (by decide)) h51 fun h' hp' sb => ?_
  obtain ⟨k2, I2⟩ := I1.mutate (l' := l ++ [v]) (tk := s1.toks) e2 how hp' sb (by rw [Array.toList_push]; exact h71.append (.one r1.1)) (by rw [List.length_append, List.length_singleton]; exact hlt)
  exact hQ _ _ _ ((Stp.of k1 I.hi.dr hd1).trans k2) I2 trivial
theorem ss_pop {x : PySem.Str} {np p1 p2 pos : Pos} {k : Nat} (hk : xs[k]? = some (some x)) (hp : plainName x = true) (hline : (p1.endLine == p2.line) = true) :
    SS C Γ n wf sc xs (.Expr (.Call (.Attribute (.Name x np) "pop" p1) [] [] p2) pos) (.pop k) := by
  intro fr d fl fr' d' hv A env lay W0 ow s Q E R hE I hQ
  obtain ⟨l, e2, hv⟩ := bind_inv hv
  obtain ⟨v, ei, hv⟩ := bind_inv hv
  obtain ⟨i, e3, hv⟩ := bind_inv hv
  cases hv
  have e2 := ownOf_inv e2
  cases V.int?_inv e3
  obtain ⟨loc, a, items, l', hl, hv, how, hll, ⟨n5, h5⟩, h6, h7, h8⟩ := I.ownRef e2
  cases hll
  have hp := plain_two hp
  refine wpAny_Expr (hi := by unfold interactive; rw [hE.kind]; rfl) (wpAny_Call_method rfl rfl hline F.plainAttrs_list F.slot_list_pop F.type_list_pop (Name_any hE hk hl hv hp.1 hp.2 ⟨⟨_, h5, rfl⟩, fun b eb => ?_, ?_⟩))
  · cases eb; exact ⟨_, h5, rfl⟩
  · refine callWith_method0 ?_
    have hne : l ≠ [] := by rintro rfl; cases ei
    have hlen : 0 < l.length := List.length_pos_iff.mpr hne
    rw [List.getLast?_eq_getElem?] at ei
    obtain ⟨val, ev, rv⟩ := h7.get ei
    obtain ⟨u, rfl⟩ := rv.int_of
    refine call_meets F.slot_list_pop ⟨_, h5, rfl⟩ F.entry_list_pop (F.args_list_pop_1 _) (MeetsSeq.list_pop_last a items n5 (.int i u) (by rw [h8, ← Array.getElem?_toList]; exact ev) (by rw [h8]; exact Nat.le_trans h6 (by decide))) ⟨h5, ?_⟩
    have hp' := IsL.update h5 fun xs => xs.eraseIdxIfInBounds (items.size - 1)
    have heq : (items.eraseIdxIfInBounds (items.size - 1)).toList = items.toList.dropLast := by
      unfold Array.eraseIdxIfInBounds
      rw [dif_pos (by omega), Array.toList_eraseIdx]
      have hz : items.size - 1 = items.toList.length - 1 := by rw [Array.length_toList]
      rw [hz, List.eraseIdx_length_sub_one]
    have hr : Reps C.d0 s.heap (Wf W0 ow) (items.eraseIdxIfInBounds (items.size - 1)).toList l.dropLast := by rw [heq]; exact h7.dropLast
    obtain ⟨k2, I2⟩ := I.mutate (l' := l.dropLast) (tk := s.toks) e2 how ⟨_, hp'⟩ (Heap.SameBut.update ..) hr (by rw [List.length_dropLast]; omega)
    exact hQ _ _ _ k2 I2 trivial
end
end Mine
-- MM
namespace Mine
open PySem PySem.W PyProof.Rows

noncomputable def ItemOK (d0 : Addr) (h : Heap) (W : Addr → Prop) (tup : Bool) (v : Value) (x : V) : Prop :=
  if tup then ∀ l, x = .tup l → ∃ T items, v = .ref T ∧ IsTup h T items ∧ Reps d0 h W items.toList l else Rep d0 h W v x

/-- an iterator that hands out xsv -/
inductive Itn (C : Cx) (A : Around) (W : Addr → Prop) (s : Shared) (target : Expr) (tup : Bool) (xsv : List V) (I : Addr) (s2 : Shared) : Prop
  | mk (m : Nat) (fp wr : List Addr) (P Md : Nat → Value → Heap → Prop) (St : Nat → Heap → Prop) (K : KTurns C.prog C.w A target I fp wr m P Md St) (hm : m = xsv.length)
    (self : ∀ i (s : Shared) (Q : Value → Shared → Prop) (E : Value → Shared → Prop), St i s.heap → Q (.ref I) s → wpAny (model C.prog C.w) A (pyIter (.ref I)) Q E s)
    (st0 : St 0 s2.heap) (wn : ∀ b ∈ wr, s.heap.get? b = none) (wo : ∀ i h, St i h → ∀ b ∈ wr, ∃ o, h.get? b = some o ∧ ¬ OSeq o)
    (hfp : ∀ b ∈ fp, (∃ o, s2.heap.get? b = some o) ∧ (s.heap.get? b = none ∨ ∃ o, s.heap.get? b = some o ∧ OSeq o ∧ ¬ W b)) (hlim : xsv.length ≤ LIM)
    (it : ∀ i v h x W', xsv[i]? = some x → P i v h → (∀ b o, s2.heap.get? b = some o → OSeq o → ¬ W b → h.get? b = some o ∧ ¬ W' b) → ItemOK C.d0 h W' tup v x)

noncomputable def SI (C : Cx) (Γ : Env0) (n : Nat) (sc : List (PySem.Str × NameKind)) (xs : List (Option PySem.Str)) (tup : Bool) (target iter : Expr) (it' : It) : Prop :=
  ∀ fr d xsv d', evI Γ it' fr d = some (xsv, d') → ∀ (A : Around) (env : Env) (lay : List Loc) (W0 : Addr → Prop) (ow : Nat → Option Addr) (s : Shared) (Q : Value → Shared → Prop) (E : Value → Shared → Prop),
    Room A n → EnvOK env sc xs lay → FI C lay fr W0 ow d s.heap → (∀ I s2, Aft C.d0 s s2 → DRel C s2.heap d' → Itn C A (Wf W0 ow) s target tup xsv I s2 → Q (.ref I) s2) →
    wpAny (model C.prog C.w) A (eval iter env) (fun x s1 => wpAny (model C.prog C.w) A (pyIter x) Q E s1) E s

noncomputable def goName (target : Expr) : Prop := ∀ it v, letOwnedTupleGo target it v = pure ()

section
variable {C : Cx} {Γ : Env0} {n wf : Nat} {sc : List (PySem.Str × NameKind)} {xs : List (Option PySem.Str)} {lay : List Loc} {ow ow' : Nat → Option Addr} {s s' : Shared} {d d' : Dr} {fr fr' : Frm} {W0 : Addr → Prop}

theorem noSeq_fields {c : Value} {dc : Option Addr} {vs : Array Value} {sl : Array (Option Value)} : ¬ OSeq { cls := c, dict := dc, data := .fields vs, slots := sl } := by rintro ⟨xs, n, h⟩; cases h

theorem notHere {d : Dr} {b : Addr} {s s2 : Shared} (k : Aft C.d0 s s2) (hd : DRel C s2.heap d) (h : s2.heap.get? b = none) : s.heap.get? b = none := by
  cases e : s.heap.get? b with
  | none => rfl
  | some o =>
    exfalso
    by_cases q : b = C.d0
    · subst q; obtain ⟨o', e'⟩ := hd.alloc; rw [h] at e'; cases e'
    · have := k.2 b o e q; rw [h] at this; cases this

/-- a source that is a list: where it lies -/
theorem src_fp {d d1 : Dr} {W : Addr → Prop} {a : Addr} {items : Array Value} {s s1 : Shared} (I : DRel C s.heap d) (k : Aft C.d0 s s1) (hd : DRel C s1.heap d1) (hl : ∃ o, s1.heap.get? a = some o ∧ OSeq o) (hw : ¬ W a) :
    s.heap.get? a = none ∨ ∃ o : Obj, s.heap.get? a = some o ∧ OSeq o ∧ ¬ W a := by
  obtain ⟨o1, h1, hs⟩ := hl
  cases e : s.heap.get? a with
  | none => exact .inl rfl
  | some o =>
    right
    by_cases q : a = C.d0
    · subst q; exact absurd hs (hd.noSeq h1)
    · have := k.2 a o e q
      rw [this] at h1; cases h1
      exact ⟨_, rfl, hs, hw⟩

/-- an iterator of one object that reads another -/
theorem Itn.two {A : Around} {W : Addr → Prop} {target : Expr} {xsv : List V} {I a : Addr} {m : Nat} {P Md : Nat → Value → Heap → Prop} {St : Nat → Heap → Prop} (K : KTurns C.prog C.w A target I [I, a] [I] m P Md St) (hm : m = xsv.length)
    (self : ∀ i (s : Shared) (Q : Value → Shared → Prop) (E : Value → Shared → Prop), St i s.heap → Q (.ref I) s → wpAny (model C.prog C.w) A (pyIter (.ref I)) Q E s)
    (st0 : St 0 s2.heap) (wn : s.heap.get? I = none) (wo : ∀ i h, St i h → ∃ o, h.get? I = some o ∧ ¬ OSeq o) (ha : ∃ o, s2.heap.get? a = some o) (hs : s.heap.get? a = none ∨ ∃ o : Obj, s.heap.get? a = some o ∧ OSeq o ∧ ¬ W a) (hlim : xsv.length ≤ LIM)
    (it : ∀ i v h x W', xsv[i]? = some x → P i v h → (∀ b o, s2.heap.get? b = some o → OSeq o → ¬ W b → h.get? b = some o ∧ ¬ W' b) → Rep C.d0 h W' v x) : Itn C A W s target false xsv I s2 :=
  .mk _ _ _ _ _ _ K hm self st0 (fun b hb => by rw [List.mem_singleton.mp hb]; exact wn) (fun i h st b hb => by rw [List.mem_singleton.mp hb]; exact wo i h st)
    (fun b hb => by
      rcases List.mem_cons.mp hb with rfl | hb
      · obtain ⟨o, e, _⟩ := wo _ _ st0
        exact ⟨⟨o, e⟩, .inl wn⟩
      · rw [List.mem_singleton.mp hb]; exact ⟨ha, hs⟩) hlim it
variable (c : COK C)
include c
theorem seq_itn {A : Around} {target : Expr} {v : Value} {x : V} {l : List V} {d1 : Dr} {s1 : Shared} {Q : Value → Shared → Prop} {E : Value → Shared → Prop} (R : A.handled = none) (hgo : goName target) (D : DRel C s.heap d) (k1 : Aft C.d0 s s1) (hd1 : DRel C s1.heap d1)
    (r0 : Rep C.d0 s1.heap (Wf W0 ow) v x) (hx : x.seq? = some l) (hQ : ∀ I s2, Aft C.d0 s s2 → DRel C s2.heap d1 → Itn C A (Wf W0 ow) s target false l I s2 → Q (.ref I) s2) : wpAny (model C.prog C.w) A (pyIter v) Q E s1 := by
  rcases V.seq?_inv hx with e | ⟨e, hm⟩
  · cases e
    obtain ⟨a, items, rfl, ⟨nn, ea⟩, hw, hm, r⟩ := r0.lst_of
    have hpl : PL s1.heap a items := ⟨nn, ea⟩
    have hz := r.length
    rw [Array.length_toList] at hz
    refine wpAny_pyIter_list hpl.isList ?_
    have k2 : AftK s1 { s1 with heap := s1.heap.push { cls := .type "list_iterator", data := .fields #[.ref a, .int 0 0] } } := AftK.push
    have W := Walks.list (prog := C.prog) (w := C.w) R s1.heap.objs.size a (Nat.ne_of_lt (Heap.lt_size ea)) items
    refine hQ _ _ (k1.trans (k2.aft _)) (k2.drx hd1) (.two (KTurns.ofWalks (target := target) W (fun i v s Q E _ hq => wpAny_of_eq (hgo _ _) hq)) hz W.self ⟨⟨_, Heap.get?_push_size _ rfl, rfl, rfl⟩, (hpl.isList).push _⟩ (notHere k1 hd1 (get_size _))
      (fun i h st => let ⟨o, e, _, hd⟩ := st.1; ⟨o, e, fun ⟨_, _, q⟩ => by rw [hd] at q; cases q⟩) ⟨_, Heap.get?_push_of_some _ ea⟩ (src_fp (items := items) D k1 hd1 ⟨_, ea, _, _, rfl⟩ hw) hm fun i v h x W' hx hP T => ?_)
    obtain ⟨v', e', rv⟩ := r.get hx
    rw [Array.getElem?_toList, hP] at e'
    cases e'
    exact rv.mono fun b o e hs hw => T b o (Heap.get?_push_of_some _ e) hs hw
  · cases e
    obtain ⟨a, items, rfl, hpl, hw, r⟩ := r0.tup_of
    have hpl' := hpl
    obtain ⟨oo, ea, _, nn, hod⟩ := hpl'
    have hz := r.length
    rw [Array.length_toList] at hz
    refine wpAny_pyIter_tuple hpl ?_
    have k2 : AftK s1 { s1 with heap := s1.heap.push { cls := .type "tuple_iterator", data := .fields #[.ref a, .int 0 0] } } := AftK.push
    have W := Walks.tuple (prog := C.prog) (w := C.w) R s1.heap.objs.size a (Nat.ne_of_lt (Heap.lt_size ea)) items
    refine hQ _ _ (k1.trans (k2.aft _)) (k2.drx hd1) (.two (KTurns.ofWalks (target := target) W (fun i v s Q E _ hq => wpAny_of_eq (hgo _ _) hq)) hz W.self ⟨⟨_, Heap.get?_push_size _ rfl, rfl, rfl⟩, hpl.push _⟩ (notHere k1 hd1 (get_size _))
      (fun i h st => let ⟨o, e, _, hd⟩ := st.1; ⟨o, e, fun ⟨_, _, q⟩ => by rw [hd] at q; cases q⟩) ⟨_, Heap.get?_push_of_some _ ea⟩ (src_fp (items := items) D k1 hd1 ⟨_, ea, _, _, hod⟩ hw) hm fun i v h x W' hx hP T => ?_)
    obtain ⟨v', e', rv⟩ := r.get hx
    rw [Array.getElem?_toList, hP] at e'
    cases e'
    exact rv.mono fun b o e hs hw => T b o (Heap.get?_push_of_some _ e) hs hw
theorem si_seq {iter target : Expr} {e' : E} (h1 : SE C Γ n sc xs iter e') (hgo : goName target) : SI C Γ n sc xs false target iter (.seq e') := by
  intro fr d xsv d' hv A env lay W0 ow s Q E R hE I hQ
  obtain ⟨v, d1, e1, hv⟩ := bind2 hv
  obtain ⟨l, e2, hv⟩ := bind_inv hv
  cases hv
  exact h1 _ _ _ _ e1 A env lay W0 ow s _ E R hE I fun x s1 k1 hd1 r1 => seq_itn c R.hd hgo I.hi.dr k1 hd1 r1.1 e2 hQ
theorem si_rev {np pos : Pos} {e target : Expr} {e' : E} (hx : sc.lookup ("reversed" : PySem.Str) = some .globalImplicit) (h1 : SE C Γ n sc xs e e') (he : ∀ env, starEach [e] env = [(false, eval e env)]) (hgo : goName target) :
    SI C Γ n sc xs false target (.Call (.Name "reversed" np) [e] [] pos) (.rev e') := by
  intro fr d xsv d' hv A env lay W0 ow s Q E R hE I hQ
  obtain ⟨v, d1, e1, hv⟩ := bind2 hv
  obtain ⟨l, e2, hv⟩ := bind_inv hv
  cases V.lst?_inv e2
  cases hv
  refine wpAny_Call_NameR (global_blt c hE hx (by decide +kernel) (by decide +kernel) (by decide +kernel) I.hi.top PyProof.Rows.Boot.«reversed» ?_)
  refine PyProof.Rows.callWith_type1 (he := he env) (args_cons (he := he env) (h1 _ _ _ _ e1 A env lay W0 ow s _ E R hE I fun x s1 k1 hd1 r1 => args_nil ?_))
  obtain ⟨a, items, rfl, ⟨nn, ea⟩, hw, hm, r⟩ := r1.1.lst_of
  have hpl : PL s1.heap a items := ⟨nn, ea⟩
  have hz := r.length
  rw [Array.length_toList] at hz
  refine call_reversed_list hpl.isList ?_
  have k2 : AftK s1 { s1 with heap := s1.heap.push (revObj a ((items.size : Int) - 1)) } := AftK.push
  have hit : (s1.heap.push (revObj a ((items.size : Int) - 1))).IsRevIter s1.heap.objs.size a ((items.size : Int) - 1) := ⟨_, Heap.get?_push_size _ rfl, rfl, rfl⟩
  refine wpAny_pyIter_revIter hit ?_
  have W := Walks.listRev (prog := C.prog) (w := C.w) R.hd s1.heap.objs.size a (Nat.ne_of_lt (Heap.lt_size ea)) items
  refine hQ _ _ (k1.trans (k2.aft _)) (k2.drx hd1) (.two (KTurns.ofWalks (target := target) W (fun i v s Q E _ hq => wpAny_of_eq (hgo _ _) hq)) (by rw [List.length_reverse, hz]) W.self ⟨Nat.zero_le _, by simpa using hit, (hpl.isList).push _⟩ (notHere k1 hd1 (get_size _))
      (fun i h st => let ⟨o, e, _, hd⟩ := st.2.1; ⟨o, e, fun ⟨_, _, q⟩ => by rw [hd] at q; cases q⟩) ⟨_, Heap.get?_push_of_some _ ea⟩ (src_fp (items := items) I.hi.dr k1 hd1 ⟨_, ea, _, _, rfl⟩ hw) (by rw [List.length_reverse]; exact hm) fun i v h x W' hx hP T => ?_)
  have hi : i < l.length := by
    have := (List.getElem?_eq_some_iff.mp hx).1
    rwa [List.length_reverse] at this
  rw [List.getElem?_reverse hi] at hx
  obtain ⟨v', e', rv⟩ := r.get hx
  rw [Array.getElem?_toList, ← hz, hP] at e'
  cases e'
  exact rv.mono fun b o e hs hw => T b o (Heap.get?_push_of_some _ e) hs hw
theorem si_enum {np pos tp : Pos} {e : Expr} {elts : List Expr} {kk : Nat} {e' : E} (hx : sc.lookup ("enumerate" : PySem.Str) = some .globalImplicit) (h1 : SE C Γ n sc xs e e') (he : ∀ env, starEach [e] env = [(false, eval e env)]) :
    SI C Γ n sc xs true (.Tuple elts kk tp) (.Call (.Name "enumerate" np) [e] [] pos) (.enum e') := by
  intro fr d xsv d' hv A env lay W0 ow s Q E R hE I hQ
  obtain ⟨v, d1, e1, hv⟩ := bind2 hv
  obtain ⟨l, e2, hv⟩ := bind_inv hv
  cases V.lst?_inv e2
  cases hv
  refine wpAny_Call_NameR (global_blt c hE hx (by decide +kernel) (by decide +kernel) (by decide +kernel) I.hi.top PyProof.Rows.Boot.«enumerate» ?_)
  refine PyProof.Rows.callWith_type1 (he := he env) (args_cons (he := he env) (h1 _ _ _ _ e1 A env lay W0 ow s _ E R hE I fun x s1 k1 hd1 r1 => args_nil ?_))
  obtain ⟨a, items, rfl, ⟨nn, ea⟩, hw, hm, r⟩ := r1.1.lst_of
  have hpl : PL s1.heap a items := ⟨nn, ea⟩
  have hlt : a < s1.heap.objs.size := Heap.lt_size ea
  have hz := r.length
  rw [Array.length_toList] at hz
  refine call_enumerate_list hpl.isList fun h' he hi hsz hk => ?_
  refine wpAny_pyIter_enum he ?_
  have k2 : AftK s1 { s1 with heap := h' } := .of hk
  have W := (WalksT.enumerate (prog := C.prog) (w := C.w) R.hd (s1.heap.objs.size + 1) s1.heap.objs.size a (Nat.succ_ne_self _) (Nat.ne_of_lt (Nat.lt_succ_of_lt hlt)) (Nat.ne_of_lt hlt) items).toU
  have K := KTurns.ofWalksU (elts := elts) (k := kk) (pos := tp) W
  have hlen : (l.mapIdx fun i x => V.tup [.int i, x]).length = items.size := by rw [List.length_mapIdx, hz]
  have new1 : s1.heap.get? (s1.heap.objs.size + 1) = none := by
    cases e : s1.heap.get? (s1.heap.objs.size + 1) with
    | none => rfl
    | some o => exact absurd (Heap.lt_size e) (Nat.not_lt.mpr (Nat.le_succ _))
  refine hQ _ _ (k1.trans (k2.aft _)) (k2.drx hd1) (.mk _ _ _ _ _ _ K hlen.symm W.self ⟨⟨_, he⟩, hi, hpl.isList.at fun o e => hk a o e⟩ (fun b hb => ?_) (fun i h st b hb => ?_) (fun b hb => ?_) (by rw [hlen, hz]; exact hm) fun i v h x W' hx hP T => ?_)
  · rcases List.mem_cons.mp hb with rfl | hb
    · exact notHere k1 hd1 new1
    · rw [List.mem_singleton.mp hb]; exact notHere k1 hd1 (get_size _)
  · rcases List.mem_cons.mp hb with rfl | hb
    · obtain ⟨old, e⟩ := st.1
      exact ⟨_, e, noSeq_fields⟩
    · rw [List.mem_singleton.mp hb]
      obtain ⟨o, e, _, hd⟩ := st.2.1
      exact ⟨o, e, fun ⟨_, _, q⟩ => by rw [hd] at q; cases q⟩
  · rcases List.mem_cons.mp hb with rfl | hb
    · exact ⟨⟨_, he⟩, .inl (notHere k1 hd1 new1)⟩
    · rcases List.mem_cons.mp hb with rfl | hb
      · obtain ⟨o, e, _⟩ := hi
        exact ⟨⟨o, e⟩, .inl (notHere k1 hd1 (get_size _))⟩
      · rw [List.mem_singleton.mp hb]
        exact ⟨⟨_, hk _ _ ea⟩, src_fp (items := items) I.hi.dr k1 hd1 ⟨_, ea, _, _, rfl⟩ hw⟩
  · obtain ⟨T', vals, rfl, ⟨t, x', hx', rfl⟩, hT⟩ := hP
    rw [List.getElem?_mapIdx] at hx
    obtain ⟨xv, hx1, rfl⟩ := map_inv hx
    obtain ⟨v', e', rv⟩ := r.get hx1
    rw [Array.getElem?_toList, hx'] at e'
    cases e'
    intro l hl; cases hl
    exact ⟨T', _, rfl, hT, .cons (.int _ _) (.cons (rv.mono fun b o e hs hw => T b o (hk b o e) hs hw) .nil)⟩

theorem range_itn {A : Around} {target : Expr} {r : Addr} {a b st : Int} {t u v : Tok} {m : Nat} {d1 : Dr} {s1 : Shared} {Q : Value → Shared → Prop} {E : Value → Shared → Prop} (f : Nat → V) (hf : ∀ i, f i = .int (a + i * st))
    (R : A.handled = none) (hgo : goName target) (k1 : Aft C.d0 s s1) (hd1 : DRel C s1.heap d1) (hr : IsRange s1.heap r a b st t u v) (hsm : Builtin.Range.small a b st = true) (hn : Builtin.Range.rangeSize a b st = ((m : Nat) : Int)) (hm : m ≤ LIM)
    (hQ : ∀ I s2, Aft C.d0 s s2 → DRel C s2.heap d1 → Itn C A (Wf W0 ow) s target false ((List.range m).map f) I s2 → Q (.ref I) s2) : wpAny (model C.prog C.w) A (pyIter (.ref r)) Q E s1 := by
  refine wpAny_pyIter_range hr hsm ?_
  rw [hn]
  have k2 : AftK s1 { s1 with heap := s1.heap.push { cls := .type "range_iterator", data := .fields #[rawInt a, rawInt ((m : Nat) : Int), rawInt st] } } := AftK.push
  have W := Walks.range (prog := C.prog) (w := C.w) R s1.heap.objs.size a st m
  have K := KTurns.ofWalks (target := target) W (fun i v s Q E _ hq => wpAny_of_eq (hgo _ _) hq)
  have hlen : ((List.range m).map f).length = m := by rw [List.length_map, List.length_range]
  refine hQ _ _ (k1.trans (k2.aft _)) (k2.drx hd1) (.mk _ _ _ _ _ _ K hlen.symm W.self ?_ (fun b hb => ?_) (fun i h st b hb => ?_) (fun b hb => ?_) (by rw [hlen]; exact hm) fun i v h x W' hx hP T => ?_)
  · show IsRangeIter _ _ _ _ _
    have := Heap.get?_push_size s1.heap (o := { cls := .type "range_iterator", data := .fields #[rawInt a, rawInt ((m : Nat) : Int), rawInt st] }) rfl
    simpa using this
  · rw [List.mem_singleton.mp hb]; exact notHere k1 hd1 (get_size _)
  · rw [List.mem_singleton.mp hb]; exact ⟨_, st, noSeq_fields⟩
  · rw [List.mem_singleton.mp hb]; exact ⟨⟨_, Heap.get?_push_size _ rfl⟩, .inl (notHere k1 hd1 (get_size _))⟩
  · rw [List.getElem?_map] at hx
    obtain ⟨j, hj, rfl⟩ := map_inv hx
    rw [List.getElem?_range (by rcases Nat.lt_or_ge i m with q | q; exact q; rw [List.getElem?_eq_none (by rw [List.length_range]; exact q)] at hj; cases hj)] at hj
    cases hj
    obtain ⟨tt, rfl⟩ := hP
    show Rep _ _ _ _ (f i)
    rw [hf]
    exact .int _ _
theorem si_rng1 {np pos : Pos} {e target : Expr} {e' : E} (hx : sc.lookup ("range" : PySem.Str) = some .globalImplicit) (h1 : SE C Γ n sc xs e e') (he : ∀ env, starEach [e] env = [(false, eval e env)]) (hgo : goName target) :
    SI C Γ n sc xs false target (.Call (.Name "range" np) [e] [] pos) (.rng1 e') := by
  intro fr d xsv d' hv A env lay W0 ow s Q E R hE I hQ
  obtain ⟨v, d1, e1, hv⟩ := bind2 hv
  obtain ⟨i, e2, hv⟩ := bind_inv hv
  cases V.int?_inv e2
  obtain ⟨hi, hv⟩ := ifs_inv hv
  cases hv
  refine wpAny_Call_NameR (global_blt c hE hx (by decide +kernel) (by decide +kernel) (by decide +kernel) I.hi.top PyProof.Rows.Boot.«range» ?_)
  refine PyProof.Rows.callWith_type1 (he := he env) (args_cons (he := he env) (h1 _ _ _ _ e1 A env lay W0 ow s _ E R hE I fun x s1 k1 hd1 r1 => args_nil ?_))
  obtain ⟨t, rfl⟩ := r1.1.int_of
  have hL : LIM = 1000000 := rfl
  refine call_range_1 ?_
  have k2 : AftK s1 { s1 with heap := s1.heap.push { cls := .type "range", data := .fields #[.int 0 s1.toks, .int i t, .int 1 (s1.toks + 1)] }, toks := s1.toks + 1 + 1 } := AftK.push
  refine range_itn c (s := s) (W0 := W0) (ow := ow) (fun i => .int i) (fun j => by rw [Int.zero_add, Int.mul_one]) R.hd hgo (k1.trans (k2.aft _)) (k2.drx hd1) (IsRange.new ..) (small_one (by omega) (by omega) (by omega) (by omega)) (m := i.toNat) ?_ (by omega) hQ
  rw [rangeSize_one]
  split <;> omega
theorem si_rng2 {np pos : Pos} {e₁ e₂ target : Expr} {e₁' e₂' : E} (hx : sc.lookup ("range" : PySem.Str) = some .globalImplicit) (h1 : SE C Γ n sc xs e₁ e₁') (h2 : SE C Γ n sc xs e₂ e₂') (he : ∀ env, starEach [e₁, e₂] env = [(false, eval e₁ env), (false, eval e₂ env)])
    (he2 : ∀ env, starEach [e₂] env = [(false, eval e₂ env)]) (hgo : goName target) : SI C Γ n sc xs false target (.Call (.Name "range" np) [e₁, e₂] [] pos) (.rng2 e₁' e₂') := by
  intro fr d xsv d' hv A env lay W0 ow s Q E R hE I hQ
  obtain ⟨v, d1, e1, hv⟩ := bind2 hv
  obtain ⟨v2, d2, e2, hv⟩ := bind2 hv
  obtain ⟨m, e3, hv⟩ := bind_inv hv
  cases hv
  obtain ⟨i, j, e4, e5, e6⟩ := int2_inv e3
  cases e4; cases e5
  obtain ⟨hi, rfl⟩ := ifs_inv e6
  refine wpAny_Call_NameR (global_blt c hE hx (by decide +kernel) (by decide +kernel) (by decide +kernel) I.hi.top PyProof.Rows.Boot.«range» ?_)
  refine PyProof.Rows.callWith_type1 (he := by rw [he, he2]) (hplain := by rw [he2]; rfl) (args_cons (he := by rw [he, he2]) (h1 _ _ _ _ e1 A env lay W0 ow s _ E R hE I fun x s1 k1 hd1 r1 => ?_))
  refine args_cons (he := he2 env) (h2 _ _ _ _ e2 A env lay W0 ow s1 _ E R hE (I.aft c k1 hd1) fun y s2 k2 hd2 r2 => args_nil ?_)
  obtain ⟨t, rfl⟩ := r1.1.int_of
  obtain ⟨u, rfl⟩ := r2.1.int_of
  have hL : LIM = 1000000 := rfl
  refine call_range_2 ?_
  have k3 : AftK s2 { s2 with heap := s2.heap.push { cls := .type "range", data := .fields #[.int i t, .int j u, .int 1 s2.toks] }, toks := s2.toks + 1 } := AftK.push
  refine range_itn c (s := s) (W0 := W0) (ow := ow) (fun n => .int (i + n)) (fun j => by rw [Int.mul_one]) R.hd hgo (k1.trans (k2.trans (k3.aft _))) (k3.drx hd2) (IsRange.new ..) (small_one (by omega) (by omega) (by omega) (by omega)) (m := (j - i).toNat) ?_ (by omega) hQ
  rw [rangeSize_one]
  split <;> omega
theorem small_down {a b : Int} (ha : -1 ≤ a) (ha' : a ≤ 1000000) (hb : -1 ≤ b) (hb' : b ≤ 1000000) : Builtin.Range.small a b (-1) = true := by
  have hr : Builtin.Range.rangeSize a b (-1) = if a > b then a - b else 0 := by
    unfold Builtin.Range.rangeSize
    rw [if_neg (by decide)]
    split
    · rw [show (- -1 : Int) = 1 by decide, Int.ediv_one]; omega
    · rfl
  unfold Builtin.Range.small
  rw [hr]
  simp only [Builtin.Range.rangeFitsLong, Bool.and_eq_true, Bool.or_eq_true, decide_eq_true_eq, beq_iff_eq, show ¬ ((-1 : Int) > 0) by decide, if_false]
  split <;> omega
theorem si_rng3 {np pos kp kq : Pos} {kk : Nat} {e₁ e₂ target : Expr} {e₁' e₂' : E} (hx : sc.lookup ("range" : PySem.Str) = some .globalImplicit) (h1 : SE C Γ n sc xs e₁ e₁') (h2 : SE C Γ n sc xs e₂ e₂')
    (he : ∀ env e₃, starEach [e₁, e₂, .UnaryOp .USub e₃ kq] env = [(false, eval e₁ env), (false, eval e₂ env), (false, eval (.UnaryOp .USub e₃ kq) env)])
    (he2 : ∀ env e₃, starEach [e₂, .UnaryOp .USub e₃ kq] env = [(false, eval e₂ env), (false, eval (.UnaryOp .USub e₃ kq) env)]) (hgo : goName target) :
    SI C Γ n sc xs false target (.Call (.Name "range" np) [e₁, e₂, .UnaryOp .USub (.Constant (.int 1) kk kp) kq] [] pos) (.rng3 e₁' e₂') := by
  intro fr d xsv d' hv A env lay W0 ow s Q E R hE I hQ
  obtain ⟨v, d1, e1, hv⟩ := bind2 hv
  obtain ⟨v2, d2, e2, hv⟩ := bind2 hv
  obtain ⟨m, e3, hv⟩ := bind_inv hv
  cases hv
  obtain ⟨i, j, e4, e5, e6⟩ := int2_inv e3
  cases e4; cases e5
  obtain ⟨hi, rfl⟩ := ifs_inv e6
  refine wpAny_Call_NameR (global_blt c hE hx (by decide +kernel) (by decide +kernel) (by decide +kernel) I.hi.top PyProof.Rows.Boot.«range» ?_)
  refine PyProof.Rows.callWith_type1 (he := by rw [he, he2]) (hplain := by rw [he2]; rfl) (args_cons (he := by rw [he, he2]) (h1 _ _ _ _ e1 A env lay W0 ow s _ E R hE I fun x s1 k1 hd1 r1 => ?_))
  refine args_cons (he := he2 env _) (h2 _ _ _ _ e2 A env lay W0 ow s1 _ E R hE (I.aft c k1 hd1) fun y s2 k2 hd2 r2 => ?_)
  refine args_cons (UnaryOp_ (wpAny_Constant_int (PyProof.Rows.neg_int (args_nil ?_))))
  obtain ⟨t, rfl⟩ := r1.1.int_of
  obtain ⟨u, rfl⟩ := r2.1.int_of
  have hL : LIM = 1000000 := rfl
  rw [show (-(1 : Int)) = -1 from rfl]
  refine call_range_3 (by decide) ?_ (.inl (PyProof.noPylong_small (by decide)))
  have k3 : AftK s2 { s2 with heap := s2.heap.push { cls := .type "range", data := .fields #[.int i t, .int j u, .int (-1) (s2.toks + 1)] }, toks := s2.toks + 1 + 1 } := AftK.push
  refine range_itn c (s := s) (W0 := W0) (ow := ow) (fun n => .int (i - n)) (fun j => by rw [Int.mul_neg, Int.mul_one, ← Int.sub_eq_add_neg]) R.hd hgo (k1.trans (k2.trans (k3.aft _))) (k3.drx hd2) (IsRange.new ..) (small_down c (by omega) (by omega) (by omega) (by omega)) (m := (i - j).toNat) ?_ (by omega) hQ
  unfold Builtin.Range.rangeSize
  rw [if_neg (by decide)]
  split
  · rw [show (- -1 : Int) = 1 by decide, Int.ediv_one]; omega
  · omega
end
end Mine
-- MN
namespace Mine
open PySem PySem.W PyProof.Rows

/-- what a loop keeps: s where its statement began, s2 where its turns begin -/
structure LInv (C : Cx) (lay : List Loc) (W0 : Addr → Prop) (ow ow1 : Nat → Option Addr) (s s2 s1 : Shared) : Prop where
  stp : Stp C lay ow ow1 s s1
  sh2 : ∃ h' tk, s1 = { s2 with heap := h', toks := tk }
  al2 : ∀ b o, s2.heap.get? b = some o → ∃ o', s1.heap.get? b = some o'
  ow2 : ∀ k a, ow1 k = some a → (∃ k', ow k' = some a) ∨ s2.heap.get? a = none
  seq2 : ∀ b o, s2.heap.get? b = some o → OSeq o → ¬ Wf W0 ow b → s1.heap.get? b = some o ∧ ¬ Wf W0 ow1 b

section
variable {C : Cx} {Γ : Env0} {n wf : Nat} {sc : List (PySem.Str × NameKind)} {xs : List (Option PySem.Str)} {lay : List Loc} {ow ow1 ow3 : Nat → Option Addr} {s s' s1 s2 s3 : Shared} {d d' d1 : Dr} {fr fr' fr1 : Frm} {W0 : Addr → Prop}

/-- things that are neither lists nor tuples, nor the frame's, turn -/
theorem FI.iter {h h' : Heap} {wr : List Addr} (I : FI C lay fr W0 ow d h) (hw : ∀ b ∈ wr, ∃ o, h.get? b = some o ∧ ¬ OSeq o) (hn : ∀ b ∈ wr, b ≠ C.d0 ∧ (∀ loc ∈ lay, loc.addr ≠ b) ∧ C.top.get? b = none)
    (kk : ∀ b o, b ∉ wr → h.get? b = some o → h'.get? b = some o) (hnw : ∀ b ∈ wr, ¬ W0 b) : FI C lay fr W0 ow d h' := by
  have seq : ∀ b o, h.get? b = some o → OSeq o → h'.get? b = some o := fun b o e hs => kk b o (fun q => by obtain ⟨o', e', hs'⟩ := hw b q; rw [e] at e'; cases e'; exact hs' hs) e
  have loc : ∀ (j : Nat) (loc : Loc), lay[j]? = some loc → ∀ o, h.get? loc.addr = some o → h'.get? loc.addr = some o := fun j loc el o e => kk _ o (fun q => (hn _ q).2.1 loc (List.mem_of_getElem? el) rfl) e
  refine ⟨⟨fun b o e => kk b o (fun q => by rw [(hn b q).2.2] at e; cases e) (I.hi.top b o e), fun a ha => ?_, I.hi.wt, ?_⟩, I.len, fun j x e => ?_, fun j x e => ?_, I.only, I.inj, I.disj, fun j l e => ⟨(I.lok j l e).1.at (loc j l e), (I.lok j l e).2⟩, I.apart⟩
  · obtain ⟨o, e⟩ := I.hi.al a ha
    refine ⟨o, kk a o (fun q => ?_) e⟩
    rcases ha with ha | ⟨j, ha⟩
    · exact hnw a q ha
    · obtain ⟨items, m, e'⟩ := I.owned (s := ({ heap := h } : Shared)) ha
      obtain ⟨o', e2, hs⟩ := hw a q
      change h.get? a = _ at e'
      rw [e'] at e2; cases e2; exact hs ⟨_, _, rfl⟩
  · have hd := I.hi.dr
    have k0 : ∀ o, h.get? C.d0 = some o → h'.get? C.d0 = some o := fun o e => kk _ o (fun q => (hn _ q).1 rfl) e
    cases d with
    | none => exact ⟨k0 _ hd.1, hd.2⟩
    | some p => obtain ⟨t, u, o, es, ep, e, r⟩ := hd; exact ⟨t, u, o, es, ep, k0 o e, r⟩
  · obtain ⟨l, v, h1, h2, h3⟩ := I.val j x e
    exact ⟨l, v, h1, h2.at (loc j l h1), h3.mono fun b o e hs hw => ⟨seq b o e hs, hw⟩⟩
  · obtain ⟨l, a, items, vs, h1, h2, h3, h4, ⟨m, h5⟩, h6, h7⟩ := I.owns j x e
    exact ⟨l, a, items, vs, h1, h2.at (loc j l h1), h3, h4, ⟨m, seq _ _ h5 ⟨_, _, rfl⟩⟩, h6, h7.mono fun b o e hs hw => ⟨seq b o e hs, hw⟩⟩

theorem LInv.refl (k : Aft C.d0 s s2) (h0 : DRel C s.heap d) (hd : DRel C s2.heap d') : LInv C lay W0 ow ow s s2 s2 :=
  ⟨Stp.of k h0 hd, ⟨_, _, rfl⟩, fun b o e => ⟨o, e⟩, fun j a e => .inl ⟨j, e⟩, fun b o e _ hw => ⟨e, hw⟩⟩
theorem LInv.step (L : LInv C lay W0 ow ow1 s s2 s1) (I : FI C lay fr1 W0 ow1 d1 s1.heap) (k : Stp C lay ow1 ow3 s1 s3) : LInv C lay W0 ow ow3 s s2 s3 := by
  refine ⟨L.stp.trans k, ?_, fun b o e => ?_, fun j a e => ?_, fun b o e hs hw => ?_⟩
  · obtain ⟨h1, t1, rfl⟩ := L.sh2
    obtain ⟨h2, t2, rfl⟩ := k.sh
    exact ⟨h2, t2, rfl⟩
  · obtain ⟨o', e'⟩ := L.al2 b o e; exact k.al b o' e'
  · rcases k.ow j a e with ⟨j', e'⟩ | e'
    · exact L.ow2 j' a e'
    · right
      cases e2 : s2.heap.get? a with
      | none => rfl
      | some o => obtain ⟨o', e3⟩ := L.al2 a o e2; rw [e'] at e3; cases e3
  · obtain ⟨h1, h2⟩ := L.seq2 b o e hs hw
    exact k.seq I.hi.dr I.oks h1 hs h2
theorem LInv.iter {h' : Heap} {tk : Nat} {wr : List Addr} (L : LInv C lay W0 ow ow1 s s2 s1) (hw : ∀ b ∈ wr, ∃ o, s1.heap.get? b = some o ∧ ¬ OSeq o) (wn : ∀ b ∈ wr, s.heap.get? b = none)
    (kk : ∀ b o, b ∉ wr → s1.heap.get? b = some o → h'.get? b = some o) (al : ∀ b ∈ wr, ∃ o, h'.get? b = some o) : LInv C lay W0 ow ow1 s s2 { s1 with heap := h', toks := tk } := by
  have up : ∀ b o, s1.heap.get? b = some o → ∃ o', h'.get? b = some o' := fun b o e => by
    by_cases q : b ∈ wr
    · exact al b q
    · exact ⟨o, kk b o q e⟩
  obtain ⟨stp, sh2, al2, ow2, seq2⟩ := L
  refine ⟨⟨?_, fun b o e h1 h2 h3 => kk b o (fun q => by rw [wn b q] at e; cases e) (stp.kp b o e h1 h2 h3), stp.ow, fun b o e => ?_⟩, ?_, fun b o e => ?_, ow2, fun b o e hs hn => ?_⟩
  · obtain ⟨⟨h1, t1, rfl⟩, _⟩ := stp; exact ⟨_, _, rfl⟩
  · obtain ⟨o', e'⟩ := stp.al b o e; exact up b o' e'
  · obtain ⟨h1, t1, rfl⟩ := sh2; exact ⟨_, _, rfl⟩
  · obtain ⟨o', e'⟩ := al2 b o e; exact up b o' e'
  · obtain ⟨h1, h2⟩ := seq2 b o e hs hn
    exact ⟨kk b o (fun q => by obtain ⟨o', e', hs'⟩ := hw b q; rw [h1] at e'; cases e'; exact hs' hs) h1, h2⟩

theorem ItemOK.stp {tup : Bool} {v : Value} {x : V} (r : ItemOK C.d0 s.heap (Wf W0 ow) tup v x) : True := trivial

variable (c : COK C)
include c
/-- one turn: the next item -/
theorem turn_ok {A : Around} {target : Expr} {tup : Bool} {xsv : List V} {I : Addr} {m : Nat} {fp wr : List Addr} {P Md : Nat → Value → Heap → Prop} {St : Nat → Heap → Prop} {W0' : Addr → Prop} {lay' : List Loc}
    (K : KTurns C.prog C.w A target I fp wr m P Md St) (hm : m = xsv.length) (wn : ∀ b ∈ wr, s.heap.get? b = none) (wo : ∀ i h, St i h → ∀ b ∈ wr, ∃ o, h.get? b = some o ∧ ¬ OSeq o)
    (it : ∀ i v h x W', xsv[i]? = some x → P i v h → (∀ b o, s2.heap.get? b = some o → OSeq o → ¬ Wf W0 ow b → h.get? b = some o ∧ ¬ W' b) → ItemOK C.d0 h W' tup v x)
    (wl : ∀ b ∈ wr, b ≠ C.d0 ∧ (∀ loc ∈ lay', loc.addr ≠ b) ∧ C.top.get? b = none) (wW : ∀ b ∈ wr, ¬ W0' b)
    {i : Nat} {x : V} (hx : xsv[i]? = some x) (st : St i s1.heap) (I1 : FI C lay' fr1 W0' ow1 d1 s1.heap)
    (sq : ∀ b o, s2.heap.get? b = some o → OSeq o → ¬ Wf W0 ow b → s1.heap.get? b = some o ∧ ¬ Wf W0' ow1 b) {Q : Option Value → Shared → Prop} {E : Value → Shared → Prop} {REST : Value → Unit → Shared → Prop} {E' : Value → Shared → Prop}
    (hQ : ∀ v s', wpAny (model C.prog C.w) A (letOwnedTupleGo target (.ref I) v) (REST v) E' s' → Q (some v) s')
    (rest : ∀ v h2 tk, St (i + 1) h2 → FI C lay' fr1 W0' ow1 d1 h2 → ItemOK C.d0 h2 (Wf W0' ow1) tup v x → (∀ b o, b ∉ wr → s1.heap.get? b = some o → h2.get? b = some o) → (∀ b ∈ wr, ∃ o, h2.get? b = some o) → REST v () { s1 with heap := h2, toks := tk }) :
    wpAny (model C.prog C.w) A (pyNext (.ref I)) Q E s1 := by
  have hlt : i < m := by rw [hm]; exact (List.getElem?_eq_some_iff.mp hx).1
  refine K.item i s1 _ _ hlt st fun v h1 tk hMd k1 => hQ v _ (K.go i v _ _ _ hMd fun h2 hP st2 k2 => ?_)
  have kk : ∀ b o, b ∉ wr → s1.heap.get? b = some o → h2.get? b = some o := fun b o hb e => k2 b o hb (k1 b o hb e)
  have al : ∀ b ∈ wr, ∃ o, h2.get? b = some o := fun b hb => by obtain ⟨o, e, _⟩ := wo _ _ st2 b hb; exact ⟨o, e⟩
  refine rest v h2 tk st2 (I1.iter (wo _ _ st) wl kk wW) (it i v h2 x _ hx hP fun b o e hs hw => ?_) kk al
  obtain ⟨h1, h2'⟩ := sq b o e hs hw
  exact ⟨kk b o (fun q => by obtain ⟨o', e', hs'⟩ := wo _ _ st b q; rw [h1] at e'; cases e'; exact hs' hs) h1, h2'⟩

/-- an item to the loop's names -/
theorem bind_ok {tup : Bool} {target : Expr} {names : List PySem.Str} {ks : List Nat} {x : V} {v : Value} {A : Around} {env : Env} {E : Value → Shared → Prop} {Q : Unit → Shared → Prop} (R : A.handled = none) (hE : EnvOK env sc xs lay) (ht : TOK sc xs names ks)
    (htg : if tup then ∃ elts kk p, target = .Tuple elts kk p ∧ NL elts names else ∃ y p, target = .Name y p ∧ names = [y]) (I : FI C lay fr W0 ow d s.heap) (r : ItemOK C.d0 s.heap (Wf W0 ow) tup v x) (hb : bindF tup fr ks x = some fr')
    (hQ : ∀ s2 ow', Stp C lay ow ow' s s2 → FI C lay fr' W0 ow' d s2.heap → (∀ k, k ∉ ks → ow' k = ow k) → (∀ k ∈ ks, ow' k = none) → (∀ b o, s.heap.get? b = some o → (∀ k ∈ ks, ∀ loc : Loc, lay[k]? = some loc → loc.addr ≠ b) → s2.heap.get? b = some o) → Q () s2) : wpAny (model C.prog C.w) A (assign target env v) Q E s := by
  unfold ItemOK at r
  unfold bindF at hb
  cases tup with
  | true =>
    obtain ⟨elts, kk, p, rfl, hN⟩ := htg
    obtain ⟨l, e1, hb⟩ := bind_inv hb
    cases V.tup?_inv e1
    obtain ⟨T, items, rfl, hT, rl⟩ := r l rfl
    exact assignT_ok c ht hN R hE I hT rl hb hQ
  | false =>
    obtain ⟨y, p, rfl, rfl⟩ := htg
    match ks, ht with
    | [k], ht =>
      cases hb
      refine wpAny_assign_Name (store_sh hE I ht.1 ht.2.1 r fun s2 q I2 _ sb => hQ s2 _ (q.stp (.refl ..) I.hi.dr I.hi.dr fun j a e => ?_) I2 (fun j hj => ?_) (fun j hj => ?_) fun b o e hb => sb b o e fun loc hl => hb k List.mem_cons_self loc hl)
      · unfold owSet at e
        split at e
        · cases e
        · exact .inl ⟨j, e⟩
      · unfold owSet; rw [if_neg fun q => hj (by rw [q]; exact List.mem_cons_self)]
      · unfold owSet; rw [if_pos (List.mem_singleton.mp hj)]
    | [], ht => exact ht.elim
    | _ :: _ :: _, ht => exact ht.2.2.elim

/-- what stands at a loop's turn -/
inductive ForI (C : Cx) (Γ : Env0) (wf : Nat) (lay : List Loc) (W0 : Addr → Prop) (ow : Nat → Option Addr) (s s2 : Shared) (tup : Bool) (ks : List Nat) (body' : SL) (xsv : List V) (fl : Fl) (fr' : Frm) (d' : Dr) (St : Nat → Heap → Prop) (mm : Nat) (s1 : Shared) : Prop
  | mk (i : Nat) (fr1 : Frm) (dd : Dr) (ow1 : Nat → Option Addr) (hm : mm = xsv.length + 1 - i) (hi : i ≤ xsv.length) (hw : forN (fun x fr d => (bindF tup fr ks x).bind fun fr' => exL Γ wf body' fr' d) (xsv.drop i) fr1 dd = some (fl, fr', d'))
    (st : St i s1.heap) (I1 : FI C lay fr1 W0 ow1 dd s1.heap) (L : LInv C lay W0 ow ow1 s s2 s1)
omit c in
theorem notLay {b : Addr} (I : FI C lay fr W0 ow d s.heap) (hn : s.heap.get? b = none) : b ≠ C.d0 ∧ (∀ loc ∈ lay, loc.addr ≠ b) ∧ C.top.get? b = none ∧ ¬ Wf W0 ow b := by
  refine ⟨fun q => ?_, fun loc hl q => ?_, ?_, fun q => ?_⟩
  · obtain ⟨o, e⟩ := I.hi.dr.alloc; rw [← q, hn] at e; cases e
  · have := I.oks loc hl
    cases loc with
    | loc L y => obtain ⟨mm, o, _, _, e, _⟩ := this; change L = b at q; rw [q, hn] at e; cases e
    | cel cc => obtain ⟨vv, o, e, _⟩ := this; change cc = b at q; rw [q, hn] at e; cases e
  · cases e : C.top.get? b with
    | none => rfl
    | some o => have := I.hi.top b o e; rw [hn] at this; cases this
  · obtain ⟨o, e⟩ := I.hi.al b q; rw [hn] at e; cases e
theorem ss_for {tup : Bool} {target iter : Expr} {names : List PySem.Str} {ks : List Nat} {it' : It} {body : List Stmt} {body' : SL} {pos : Pos} (h1 : SI C Γ n sc xs tup target iter it') (hbody : SSL C Γ n wf sc xs body body') (ht : TOK sc xs names ks)
    (htg : if tup then ∃ elts kk p, target = .Tuple elts kk p ∧ NL elts names else ∃ y p, target = .Name y p ∧ names = [y]) (hs : ∀ env x, foldedSetIterable iter env x = pure x) : SS C Γ n wf sc xs (.For target iter body [] pos) (.for ks tup it' body') := by
  intro fr d fl fr' d' hv A env lay W0 ow s Q E R hE I hQ
  obtain ⟨xsv, d1, e1, hv⟩ := bind2 hv
  refine wpAny_For (hs := hs env) (h1 _ _ _ _ e1 A env lay W0 ow s _ E R hE I fun Ia s2 k2 hd2 ITN => ?_)
  obtain ⟨m, fp, wr, P, Md, St, K, hm, hself, st0, wn, wo, hfp, hlim, it⟩ := ITN
  have wl : ∀ b ∈ wr, b ≠ C.d0 ∧ (∀ loc ∈ lay, loc.addr ≠ b) ∧ C.top.get? b = none := fun b hb => let x := notLay I (wn b hb); ⟨x.1, x.2.1, x.2.2.1⟩
  have wW : ∀ b ∈ wr, ¬ W0 b := fun b hb q => (notLay I (wn b hb)).2.2.2 (.inl q)
  have fl' : ∀ b ∈ fp, b ≠ C.d0 ∧ (∀ loc ∈ lay, loc.addr ≠ b) ∧ (∀ k, ow k ≠ some b) := fun b hb => by
    rcases (hfp b hb).2 with hn | ⟨o, e, hs, hw⟩
    · have x := notLay I hn
      exact ⟨x.1, x.2.1, fun k q => x.2.2.2 (.inr ⟨k, q⟩)⟩
    · exact ⟨fun q => I.hi.dr.noSeq (q ▸ e) hs, fun loc hl q => (I.oks loc hl).noSeq (q ▸ e) hs, fun k q => hw (.inr ⟨k, q⟩)⟩
  refine codeAny_forLoop_any (ForI C Γ wf lay W0 ow s s2 tup ks body' xsv fl fr' d' St) ?_ (xsv.length + 1) ⟨0, fr, d1, ow, rfl, Nat.zero_le _, hv, st0, I.aft c k2 hd2, LInv.refl k2 I.hi.dr hd2⟩
  rintro mm s1 ⟨i, fr1, dd, ow1, rfl, hi, hw, st, I1, L⟩
  rcases Nat.lt_or_ge i xsv.length with hlt | hge
  · rw [List.drop_eq_getElem_cons hlt] at hw
    obtain ⟨fl2, ⟨fr4, d4⟩, hw1, hw⟩ := bind2 hw
    obtain ⟨fr2, hb, hex⟩ := bind_inv hw1
    refine turn_ok c (s := s) (s2 := s2) (W0 := W0) (ow := ow) (xsv := xsv) K hm wn wo it wl wW (List.getElem?_eq_getElem hlt) st I1 L.seq2 (fun v s' h => h) fun v h2 tk st2 I2 r kk al => ?_
    have L2 : LInv C lay W0 ow ow1 s s2 { s1 with heap := h2, toks := tk } := L.iter (wo _ _ st) wn kk al
    refine bind_ok c (s := { s1 with heap := h2, toks := tk }) (fr' := fr2) R.hd hE ht htg I2 r hb fun s3 ow3 k3 I3 _ _ _ => ?_
    have L3 := L2.step I2 k3
    have next : ∀ s4 ow4 fr4 d4, Stp C lay ow3 ow4 s3 s4 → FI C lay fr4 W0 ow4 d4 s4.heap → forN (fun x fr d => (bindF tup fr ks x).bind fun fr' => exL Γ wf body' fr' d) (xsv.drop (i + 1)) fr4 d4 = some (fl, fr', d') →
        ∃ mm, mm < xsv.length + 1 - i ∧ ForI C Γ wf lay W0 ow s s2 tup ks body' xsv fl fr' d' St mm s4 := fun s4 ow4 fr4 d4 k4 I4 hw4 => by
      refine ⟨_, ?_, i + 1, fr4, d4, ow4, rfl, hlt, hw4, K.frame _ _ _ st2 (fun b hb o e => ?_), I4, L3.step I3 k4⟩
      · omega
      · obtain ⟨f1, f2, f3⟩ := fl' b hb
        obtain ⟨o2, e2⟩ := (hfp b hb).1
        have nown : ∀ j, ow1 j ≠ some b := fun j q => by
          rcases L.ow2 j b q with ⟨j', q'⟩ | q'
          · exact f3 j' q'
          · rw [e2] at q'; cases q'
        exact (k3.trans k4).kp b o e f1 nown f2
    refine hbody _ _ _ _ _ hex A env lay W0 ow3 s3 _ _ R hE I3 fun flow s4 ow4 k4 I4 r4 => ?_
    cases fl2 with
    | ret f v => cases hw; cases flow <;> first | exact r4.elim | exact hQ _ _ _ (L3.step I3 k4).stp I4 (r4.back L3.stp)
    | next => cases flow <;> first | exact r4.elim | exact next s4 ow4 fr4 d4 k4 I4 hw
    | cont => cases flow <;> first | exact r4.elim | exact next s4 ow4 fr4 d4 k4 I4 hw
  · have hi' : i = xsv.length := Nat.le_antisymm hi hge
    subst hi'
    rw [List.drop_length] at hw
    cases hw
    rw [← hm] at st
    have wo1 := wo _ _ st
    refine K.done s1 _ _ st fun h' tk kk => wpAny_execs_nil ?_
    obtain ⟨⟨⟨h1, t1, rfl⟩, skp, sow, sal⟩, _⟩ := L
    refine hQ .next _ ow1 ⟨⟨_, _, rfl⟩, fun b o e h1 h2 h3 => kk b o (fun q => by rw [wn b q] at e; cases e) (skp b o e h1 h2 h3), sow, fun b o e => ?_⟩ (I1.iter wo1 wl kk wW) trivial
    obtain ⟨o', e'⟩ := sal b o e
    exact ⟨o', kk b o' (fun q => by rw [wn b q] at e; cases e) e'⟩
end
end Mine
-- MO
namespace Mine
open PySem PySem.W PyProof.Rows

section
variable {prog : Program} {w : World} {A : Around} {E : Value → Shared → Prop} {R : Result → Shared → Prop} {s : Shared}
/-- a comprehension's turns, whatever its target -/
theorem compLoop_any {elt target iter : Expr} {ifs : List Expr} {scope : Scope} {pos : Pos} {it acc : Value} {env : Env} (I : Nat → Shared → Prop)
    (turn : ∀ n s, I n s → wpAny (model prog w) A (pyNext it) (fun r s₁ => match r with
      | none => R (.ok .next) s₁
      | some v => wpAny (model prog w) A (letOwnedTupleGo target it v) (fun _ s₁' => wpAny (model prog w) A (assign target env v) (fun _ s₂ =>
          wpAny (model prog w) A (forIn ifs true fun c r => if r = true then do let ok ← isTrue c env (eval c env); pure (ForInStep.yield ok) else pure (ForInStep.yield r)) (fun ok s₃ =>
            if ok = true then wpAny (model prog w) A (eval elt env) (fun x s₄ =>
              wpAny (model prog w) A (call (.builtin "list.append") [acc, x]) (fun _ s₅ => ∃ m, m < n ∧ I m s₅) (notedBy (model prog w) A env fun e s' => R (.error e) s') s₄) (notedBy (model prog w) A env fun e s' => R (.error e) s') s₃
            else ∃ m, m < n ∧ I m s₃) (notedBy (model prog w) A env fun e s' => R (.error e) s') s₂) (notedBy (model prog w) A env fun e s' => R (.error e) s') s₁')
          (notedBy (model prog w) A env fun e s' => R (.error e) s') s₁) (notedBy (model prog w) A env fun e s' => R (.error e) s') s)
    (n : Nat) (h : I n s) : codeAny (model prog w) A (.compLoop (.ListComp elt [⟨target, iter, ifs, 0⟩] scope pos) 0 it acc env) R s := by
  refine codeAny_loop rfl I (fun n s hI => ?_) n h
  show wpAny _ A ((compTurn (.ListComp elt [⟨target, iter, ifs, 0⟩] scope pos) 0 it acc env).onRaise (fun x => do noteFrame x env; theTreesLotGoes x)) _ _ s
  refine wpAny_noted ?_
  rw [compTurn_list]
  refine wpAny_bind (wpAny_standAt (wpAny_bind (wpAny_mono (turn n s hI) (fun r s₁ h₁ => ?_) fun _ _ h' => h')))
  cases r with
  | none => exact wpAny_pure h₁
  | some v =>
    refine wpAny_bind (wpAny_mono h₁ (fun _ s₁' h₁' => ?_) fun _ _ h' => h')
    refine wpAny_bind (wpAny_mono h₁' (fun _ s₂ h₂ => wpAny_bind (wpAny_mono h₂ (fun ok s₃ h₃ => ?_) fun _ _ h' => h')) fun _ _ h' => h')
    cases ok with
    | false => exact wpAny_pure ⟨rfl, h₃⟩
    | true => exact wpAny_bind (wpAny_bind (wpAny_mono h₃ (fun x s₄ h₄ => wpAny_bind (wpAny_mono h₄ (fun _ s₅ h₅ => wpAny_pure (wpAny_pure ⟨rfl, h₅⟩)) fun _ _ h' => h')) fun _ _ h' => h'))
end

/-- the cells that a comprehension takes along -/
noncomputable def clOf (cells : List (PySem.Str × Addr)) : List (PySem.Str × NameKind) → List (PySem.Str × Addr) → List (PySem.Str × Addr)
  | [], acc => acc
  | (x, k) :: r, acc => if k == .free then clOf cells r ((x, (cells.lookup x).getD 0) :: acc) else clOf cells r acc
theorem closureFor_ok {scope : Scope} {env : Env} (h : ∀ x, (x, NameKind.free) ∈ scope.names → (env.cells.lookup x).isSome = true) : closureFor scope env = pure (clOf env.cells scope.names []) := by
  have key : ∀ (names : List (PySem.Str × NameKind)) (acc : List (PySem.Str × Addr)), (∀ x, (x, NameKind.free) ∈ names → (env.cells.lookup x).isSome = true) →
      (forIn names acc fun (x : PySem.Str × NameKind) (r : List (PySem.Str × Addr)) => if (x.2 == NameKind.free) = true then do let y ← cellOf env x.1; pure (ForInStep.yield ((x.1, y) :: r)) else pure (ForInStep.yield r) : Sem _) = pure (clOf env.cells names acc) := by
    intro names
    induction names with
    | nil => intro acc _; rfl
    | cons p r ih =>
      obtain ⟨x, k⟩ := p
      intro acc hh
      rw [List.forIn_cons]
      unfold clOf
      cases hk : (k == NameKind.free) with
      | false =>
        simp only [hk, Bool.false_eq_true, if_false]
        exact ih acc fun y hy => hh y (List.mem_cons_of_mem _ hy)
      | true =>
        have hk' : k = .free := by simpa using hk
        subst hk'
        have hs := hh x List.mem_cons_self
        obtain ⟨cc, hcc⟩ := Option.isSome_iff_exists.mp hs
        simp only [if_true]
        have : cellOf env x = pure cc := by unfold cellOf; rw [hcc]
        rw [this, hcc]
        exact ih _ fun y hy => hh y (List.mem_cons_of_mem _ hy)
  unfold closureFor
  exact (congrArg (fun m : Sem (List (PySem.Str × Addr)) => m >>= fun cs => (pure cs : Sem _)) (key scope.names [] h)).trans rfl
theorem clOf_look {cells : List (PySem.Str × Addr)} : ∀ (names : List (PySem.Str × NameKind)) (acc : List (PySem.Str × Addr)) {x : PySem.Str} {c : Addr}, cells.lookup x = some c → ((x, NameKind.free) ∈ names ∨ acc.lookup x = some c) → (∀ c', (x, c') ∈ acc → c' = c) →
    (clOf cells names acc).lookup x = some c
  | [], acc, x, c, _, h, _ => by rcases h with h | h; cases h; exact h
  | (y, k) :: r, acc, x, c, hc, h, ha => by
    unfold clOf
    split
    · rename_i hk
      refine clOf_look r _ hc ?_ ?_
      · by_cases q : x = y
        · subst q; right; rw [List.lookup_cons, beq_self_eq_true, hc]; rfl
        · rcases h with h | h
          · rcases List.mem_cons.mp h with e | h
            · cases e; exact absurd rfl q
            · exact .inl h
          · right
            rw [List.lookup_cons, show (x == y) = false by simpa using q]; exact h
      · intro c' hm
        rcases List.mem_cons.mp hm with e | hm
        · cases e; rw [hc]; rfl
        · exact ha c' hm
    · rename_i hk
      refine clOf_look r acc hc ?_ ha
      rcases h with h | h
      · rcases List.mem_cons.mp h with e | h
        · cases e; exact absurd rfl hk
        · exact .inl h
      · exact .inr h

theorem cellsFrom_app : ∀ (names : List (PySem.Str × NameKind)) (n : Nat) (acc : List (PySem.Str × Addr)), cellsFrom n names acc = cellsFrom n names [] ++ acc
  | [], _, _ => rfl
  | (x, k) :: r, n, acc => by
    unfold cellsFrom
    split
    · rw [cellsFrom_app r (n + 1) ((x, n) :: acc), cellsFrom_app r (n + 1) [(x, n)], List.append_assoc]; rfl
    · exact cellsFrom_app r n acc
theorem cellsFrom_names : ∀ (names : List (PySem.Str × NameKind)) (n : Nat) (acc : List (PySem.Str × Addr)) {x : PySem.Str}, x ∈ (cellsFrom n names acc).map (·.1) → (x, NameKind.cell) ∈ names ∨ x ∈ acc.map (·.1)
  | [], _, _, _, h => .inr h
  | (y, k) :: r, n, acc, x, h => by
    unfold cellsFrom at h
    split at h
    · rename_i hk
      have hk' : k = .cell := by simpa using hk
      rcases cellsFrom_names r _ _ h with h | h
      · exact .inl (List.mem_cons_of_mem _ h)
      · rcases List.mem_cons.mp h with e | h
        · left; rw [e, hk']; exact List.mem_cons_self
        · exact .inr h
    · rcases cellsFrom_names r _ _ h with h | h
      · exact .inl (List.mem_cons_of_mem _ h)
      · exact .inr h
theorem cellsFrom_has : ∀ (names : List (PySem.Str × NameKind)) (n : Nat) (acc : List (PySem.Str × Addr)) {x : PySem.Str}, ((x, NameKind.cell) ∈ names ∨ x ∈ acc.map (·.1)) → ∃ c, (cellsFrom n names acc).lookup x = some c
  | [], _, acc, x, h => by
    rcases h with h | h
    · cases h
    · show ∃ c, acc.lookup x = some c
      induction acc with
      | nil => cases h
      | cons p r ih =>
        rw [List.lookup_cons]
        cases q : (x == p.1) with
        | true => exact ⟨_, rfl⟩
        | false =>
          refine ih ?_
          rcases List.mem_cons.mp h with e | h
          · rw [e, beq_self_eq_true] at q; cases q
          · exact h
  | (y, k) :: r, n, acc, x, h => by
    unfold cellsFrom
    split
    · refine cellsFrom_has r _ _ ?_
      rcases h with h | h
      · rcases List.mem_cons.mp h with e | h
        · cases e; exact .inr List.mem_cons_self
        · exact .inl h
      · exact .inr (List.mem_cons_of_mem _ h)
    · rename_i hk
      refine cellsFrom_has r _ _ ?_
      rcases h with h | h
      · rcases List.mem_cons.mp h with e | h
        · cases e; exact absurd rfl hk
        · exact .inl h
      · exact .inr h
theorem lookup_mem {β : Type} : ∀ {l : List (PySem.Str × β)} {x : PySem.Str} {b : β}, l.lookup x = some b → (x, b) ∈ l
  | (k, v) :: r, x, b, h => by
    rw [List.lookup_cons] at h
    cases hb : x == k with
    | true => rw [hb] at h; cases h; rw [beq_iff_eq.mp hb]; exact List.mem_cons_self
    | false => rw [hb] at h; exact List.mem_cons_of_mem _ (lookup_mem h)
theorem lookup_app_none {β : Type} : ∀ {l l' : List (PySem.Str × β)} {x : PySem.Str}, x ∉ l.map (·.1) → (l ++ l').lookup x = l'.lookup x
  | [], _, _, _ => rfl
  | p :: r, l', x, h => by
    rw [List.cons_append, List.lookup_cons, show (x == p.1) = false by simpa using fun q => h (by rw [q]; exact List.mem_cons_self)]
    exact lookup_app_none fun q => h (List.mem_cons_of_mem _ q)
theorem lookup_app_some {β : Type} : ∀ {l l' : List (PySem.Str × β)} {x : PySem.Str} {b : β}, l.lookup x = some b → (l ++ l').lookup x = some b
  | p :: r, l', x, b, h => by
    rw [List.lookup_cons] at h
    rw [List.cons_append, List.lookup_cons]
    cases hb : x == p.1 with
    | true => rw [hb] at h; exact h
    | false => rw [hb] at h; exact lookup_app_some h
theorem look_of_mem : ∀ {names : List (PySem.Str × NameKind)} {x : PySem.Str} {k : NameKind}, (names.map (·.1)).Nodup → (x, k) ∈ names → names.lookup x = some k
  | p :: r, x, k, hn, h => by
    obtain ⟨h1, h2⟩ := List.nodup_cons.mp hn
    rw [List.lookup_cons]
    rcases List.mem_cons.mp h with e | h
    · subst e; rw [beq_self_eq_true]
    · rw [show (x == p.1) = false by simpa using fun q => h1 (by show p.1 ∈ _; rw [← q]; exact List.mem_map_of_mem (f := (·.1)) h)]
      exact look_of_mem h2 h

/-- a comprehension's names, as its frame has them -/
noncomputable def relN (sc names : List (PySem.Str × NameKind)) : List (PySem.Str × NameKind) := names.map fun p => if (p.2 == .free && sc.lookup p.1 == some .cell) then (p.1, .cell) else p
theorem relN_look {sc : List (PySem.Str × NameKind)} : ∀ {names : List (PySem.Str × NameKind)} {x : PySem.Str} {k : NameKind}, names.lookup x = some k → (relN sc names).lookup x = some (if (k == .free && sc.lookup x == some .cell) then .cell else k)
  | (y, j) :: r, x, k, h => by
    unfold relN
    rw [List.lookup_cons] at h
    rw [List.map_cons]
    cases hb : x == y with
    | true =>
      rw [hb] at h
      cases h
      have := beq_iff_eq.mp hb
      subst this
      split <;> (rename_i hc; rw [List.lookup_cons]; simp only [beq_self_eq_true])
    | false =>
      rw [hb] at h
      split <;> (rw [List.lookup_cons]; simp only [hb]; exact relN_look h)

noncomputable def compOK (sc names : List (PySem.Str × NameKind)) (xs : List (Option PySem.Str)) (ts : List PySem.Str) : Bool :=
  names.all (fun p => p.2 != .free || ((sc.lookup p.1 == some .cell || sc.lookup p.1 == some .free) && xs.contains (some p.1))) && decide (names.map (·.1)).Nodup &&
    ts.all (fun t => names.lookup t == some .local || names.lookup t == some .cell) && decide ts.Nodup
noncomputable def compX (names : List (PySem.Str × NameKind)) (xs : List (Option PySem.Str)) (ts : List PySem.Str) : List (Option PySem.Str) :=
  (xs.map fun o => o.bind fun x => if names.lookup x == some .free then some x else none) ++ ts.map some
noncomputable def compL (names : List (PySem.Str × NameKind)) (cells : List (PySem.Str × Addr)) (Cn : Addr) (ts : List PySem.Str) : List Loc :=
  ts.map fun t => if names.lookup t == some .cell then .cel ((cells.lookup t).getD 0) else .loc Cn t
noncomputable def compEnv (scope : Scope) (env : Env) (Cn : Addr) : Env :=
  { scope := relabel scope env, locals := Cn, globals := env.globals, cells := cellsFrom (Cn + 1) scope.names (clOf env.cells scope.names []), qual := env.qual, func := none, code := env.code, frame := env.frame, builtins := env.builtins }

section
variable {C : Cx} {Γ : Env0} {n wf : Nat} {sc : List (PySem.Str × NameKind)} {xs : List (Option PySem.Str)} {lay : List Loc} {ow ow1 ow3 : Nat → Option Addr} {s s' s1 s2 s3 : Shared} {d d' d1 : Dr} {fr fr' fr1 : Frm} {W0 : Addr → Prop}

theorem comp_env {scope : Scope} {env : Env} {cl : List (PySem.Str × Addr)} {A : Around} {Q : Env → Shared → Prop} {E : Value → Shared → Prop}
    (h : Q { scope := scope, locals := s.heap.objs.size, globals := env.globals, cells := cellsFrom (s.heap.objs.size + 1) scope.names cl, qual := env.qual, func := none, code := env.code, frame := env.frame, builtins := env.builtins }
      { s with heap := pushCells (s.heap.push { cls := .type "dict", data := .dict #[] }) scope.names }) :
    wpAny (model C.prog C.w) A (newFunctionEnv scope env.globals cl [] env.qual none .none (some env)) Q E s := by
  simp only [newFunctionEnv, Option.isSome_some, if_true]
  refine wpAny_bind (wpAny_alloc ?_)
  refine wpAny_bind (wpAny_layCells _ (fun name kind cells => by cases hkc : kind == NameKind.cell <;> simp [hkc]) _ _ _ _ ?_)
  rw [show ({ s with heap := s.heap.push { cls := .type "dict", data := .dict #[] } } : Shared).heap.objs.size = s.heap.objs.size + 1 from Heap.size_push ..]
  exact wpAny_pure h

theorem compEnv_ok {scope : Scope} {env : Env} {ts : List PySem.Str} {Cn : Addr} (hE : EnvOK env sc xs lay) (hkind : scope.kind = .function) (ok : compOK sc scope.names xs ts = true) :
    EnvOK (compEnv scope env Cn) (relN sc scope.names) (compX scope.names xs ts) (lay ++ compL scope.names (compEnv scope env Cn).cells Cn ts) ∧ closureFor scope env = pure (clOf env.cells scope.names []) := by
  simp only [compOK, Bool.and_eq_true, List.all_eq_true, Bool.or_eq_true, bne_iff_ne, ne_eq, beq_iff_eq, decide_eq_true_eq, List.contains_iff_mem] at ok
  obtain ⟨⟨⟨h1, h2⟩, h3⟩, h4⟩ := ok
  have cap : ∀ x, (x, NameKind.free) ∈ scope.names → ∃ cc, env.cells.lookup x = some cc ∧ ∀ k : Nat, xs[k]? = some (some x) → lay[k]? = some (Loc.cel cc) := by
    intro x hx
    rcases h1 _ hx with q | ⟨q1, q2⟩
    · exact absurd rfl q
    · obtain ⟨k, hk⟩ := List.getElem?_of_mem q2
      rcases hE.var k x hk with ⟨h5, _⟩ | ⟨_, cc, h6, _⟩
      · rcases q1 with q1 | q1 <;> (simp only at q1; rw [h5] at q1; cases q1)
      · refine ⟨cc, h6, fun j hj => ?_⟩
        rcases hE.var j x hj with ⟨h5, _⟩ | ⟨_, cc', h6', h7⟩
        · rcases q1 with q1 | q1 <;> (simp only at q1; rw [h5] at q1; cases q1)
        · rw [h6] at h6'; cases h6'; exact h7
  refine ⟨⟨?_, by show (relabel scope env).kind = _; exact hkind, ?_, fun k x hk => ?_, hE.glob, hE.blt⟩, closureFor_ok fun x hx => by obtain ⟨cc, e, _⟩ := cap x hx; rw [e]; rfl⟩
  · simp only [compX, compL, List.length_append, List.length_map, hE.len]
  · show (relabel scope env).names = _
    unfold relabel relN
    simp only [hE.kind, beq_self_eq_true, Bool.and_true]
    refine List.map_congr_left fun p hp => ?_
    have : env.kindOf p.1 = sc.lookup p.1 := by show env.scope.names.lookup p.1 = _; rw [hE.look]
    rw [this]
  · unfold compX at hk
    rw [List.getElem?_append] at hk
    split at hk
    · rename_i hlt
      rw [List.length_map] at hlt
      rw [List.getElem?_map, Option.map_eq_some_iff] at hk
      obtain ⟨o, ho, hk⟩ := hk
      cases o with
      | none => cases hk
      | some y =>
        simp only [Option.bind_some] at hk
        split at hk
        · rename_i hf
          simp only [Option.some.injEq] at hk
          subst hk
          have hf' : scope.names.lookup y = some .free := by simpa using hf
          obtain ⟨cc, hc, hlay⟩ := cap y (lookup_mem hf')
          right
          refine ⟨?_, cc, ?_, ?_⟩
          · rw [relN_look hf']
            split
            · exact .inl rfl
            · exact .inr rfl
          · show (cellsFrom (Cn + 1) scope.names _).lookup y = _
            rw [cellsFrom_app, lookup_app_none]
            · exact clOf_look _ _ hc (.inl (lookup_mem hf')) fun c' hm => by cases hm
            · intro q
              rcases cellsFrom_names _ _ _ q with q | q
              · have := look_of_mem h2 q; rw [hf'] at this; cases this
              · cases q
          · rw [List.getElem?_append_left (by rw [← hE.len]; exact hlt)]; exact hlay k ho
        · cases hk
    · rename_i hge
      rw [List.length_map, Nat.not_lt] at hge
      rw [List.length_map, List.getElem?_map, Option.map_eq_some_iff] at hk
      obtain ⟨t, ht, hk⟩ := hk
      simp only [Option.some.injEq] at hk
      subst hk
      have hl : (lay ++ compL scope.names (compEnv scope env Cn).cells Cn ts)[k]? = some (if scope.names.lookup t == some .cell then .cel (((compEnv scope env Cn).cells.lookup t).getD 0) else .loc Cn t) := by
        rw [List.getElem?_append_right (by rw [← hE.len]; exact hge), ← hE.len]
        unfold compL
        rw [List.getElem?_map, ht]; rfl
      rcases h3 t (List.mem_of_getElem? ht) with q | q
      · left
        refine ⟨by rw [relN_look q]; rfl, ?_⟩
        rw [hl, q]; rfl
      · right
        obtain ⟨cc, hcc⟩ := cellsFrom_has scope.names (Cn + 1) (clOf env.cells scope.names []) (x := t) (.inl (lookup_mem q))
        refine ⟨.inl (by rw [relN_look q]; rfl), cc, hcc, ?_⟩
        rw [hl, q]
        show some (Loc.cel (((compEnv scope env Cn).cells.lookup t).getD 0)) = _
        rw [show (compEnv scope env Cn).cells.lookup t = some cc from hcc]; rfl
end
end Mine
-- MP
namespace Mine
open PySem PySem.W PyProof.Rows

section
variable {C : Cx} {Γ : Env0} {n wf : Nat} {sc : List (PySem.Str × NameKind)} {xs : List (Option PySem.Str)} {lay : List Loc} {ow ow1 ow3 : Nat → Option Addr} {s s' s1 s2 s3 : Shared} {d d' d1 : Dr} {fr fr' fr1 : Frm} {W0 : Addr → Prop}

/-- more names, yet unbound -/
theorem FI.extend {h : Heap} {tl : List Loc} (I : FI C lay fr W0 ow d h) (ok : ∀ loc ∈ tl, loc.ok h ∧ C.top.get? loc.addr = none ∧ loc.addr ≠ C.d0) (ap : ∀ (i j : Nat) (loc : Loc), tl[i]? = some loc → tl[j]? = some loc → i = j) (dis : ∀ loc ∈ tl, loc ∉ lay) :
    FI C (lay ++ tl) (fr ++ List.replicate tl.length none) W0 ow d h := by
  have cell : ∀ (k : Nat) (x : Bool × V), (fr ++ List.replicate tl.length none)[k]? = some (some x) → fr[k]? = some (some x) := fun k x e => by
    rw [List.getElem?_append] at e
    split at e
    · exact e
    · rw [List.getElem?_replicate] at e; split at e <;> simp at e
  have up : ∀ (k : Nat) (loc : Loc), lay[k]? = some loc → (lay ++ tl)[k]? = some loc := fun k loc e => by
    rw [List.getElem?_append_left (List.getElem?_eq_some_iff.mp e).1]; exact e
  refine ⟨I.hi, by rw [List.length_append, List.length_append, List.length_replicate, I.len], fun k x e => ?_, fun k x e => ?_, fun k a q => ?_, I.inj, I.disj, fun k loc e => ?_, fun i j loc e e' => ?_⟩
  · obtain ⟨loc, v, h1, h2, h3⟩ := I.val k x (cell k _ e)
    exact ⟨loc, v, up k loc h1, h2, h3⟩
  · obtain ⟨loc, a, items, l, h1, h2, h3, h4, h5, h6, h7⟩ := I.owns k x (cell k _ e)
    exact ⟨loc, a, items, l, up k loc h1, h2, h3, h4, h5, h6, h7⟩
  · obtain ⟨x, e⟩ := I.only k a q
    exact ⟨x, by rw [List.getElem?_append_left (List.getElem?_eq_some_iff.mp e).1]; exact e⟩
  · rw [List.getElem?_append] at e
    split at e
    · exact I.lok k loc e
    · exact ok loc (List.mem_of_getElem? e)
  · rw [List.getElem?_append] at e e'
    split at e <;> split at e'
    · exact I.apart i j loc e e'
    · exact absurd (List.mem_of_getElem? e) (dis loc (List.mem_of_getElem? e'))
    · exact absurd (List.mem_of_getElem? e') (dis loc (List.mem_of_getElem? e))
    · have := ap _ _ loc e e'; omega

/-- a list that is not the frame's turns -/
theorem FI.beside {h h' : Heap} {a : Addr} {items items' : Array Value} (I : FI C lay fr W0 ow d h) (ha : W0 a) (hp : PL h a items) (hp' : PL h' a items') (sb : ∀ b, b ≠ a → h'.get? b = h.get? b) : FI C lay fr W0 ow d h' := by
  obtain ⟨n, ea⟩ := hp
  obtain ⟨n', ea'⟩ := hp'
  have T : ∀ b o, h.get? b = some o → OSeq o → ¬ Wf W0 ow b → h'.get? b = some o ∧ ¬ Wf W0 ow b := fun b o e _ hw => ⟨(sb b fun q => hw (.inl (q ▸ ha))).trans e, hw⟩
  have hloc : ∀ (j : Nat) (loc : Loc), lay[j]? = some loc → loc.addr ≠ a := fun j loc el q => (I.lok j loc el).1.noSeq (q ▸ ea) ⟨_, _, rfl⟩
  refine ⟨⟨fun b o e => (sb b fun q => by rw [q, I.hi.wt a (.inl ha)] at e; cases e).trans (I.hi.top b o e), fun b hb => ?_, I.hi.wt, ?_⟩, I.len, fun k x e => ?_, fun k x e => ?_, I.only, I.inj, I.disj, fun k loc e => ⟨(I.lok k loc e).1.at fun o eo => (sb _ (hloc k loc e)).trans eo, (I.lok k loc e).2⟩, I.apart⟩
  · by_cases q : b = a
    · subst q; exact ⟨_, ea'⟩
    · obtain ⟨o, e⟩ := I.hi.al b hb; exact ⟨o, (sb b q).trans e⟩
  · have hd := I.hi.dr
    have hd0 : C.d0 ≠ a := fun q => hd.noSeq (q ▸ ea) ⟨_, _, rfl⟩
    cases d with
    | none => exact ⟨(sb _ hd0).trans hd.1, hd.2⟩
    | some p => obtain ⟨t, u, o, es, ep, e, r⟩ := hd; exact ⟨t, u, o, es, ep, (sb _ hd0).trans e, r⟩
  · obtain ⟨loc, v, h1, h2, h3⟩ := I.val k x e
    exact ⟨loc, v, h1, h2.at fun o eo => (sb _ (hloc k loc h1)).trans eo, h3.mono T⟩
  · obtain ⟨loc, b, its, l, h1, h2, h3, h4, ⟨m, h5⟩, h6, h7⟩ := I.owns k x e
    exact ⟨loc, b, its, l, h1, h2.at fun o eo => (sb _ (hloc k loc h1)).trans eo, h3, h4, ⟨m, (sb b fun q => I.disj k b h3 (q ▸ ha)).trans h5⟩, h6, h7.mono T⟩

theorem setAll_app : ∀ (pre olds : Frm) (vs : List V) (fr : Frm), olds.length = vs.length → setAll (pre ++ olds) (List.range' pre.length vs.length) vs = some (pre ++ vs.map fun v => some (false, v))
  | pre, [], [], fr, _ => rfl
  | pre, o :: olds, v :: vs, fr, h => by
    rw [List.length_cons, List.range'_succ]
    show setAll ((pre ++ o :: olds).set pre.length (some (false, v))) _ _ = _
    have e : (pre ++ o :: olds).set pre.length (some (false, v)) = (pre ++ [some (false, v)]) ++ olds := by
      rw [List.set_append_right _ _ (Nat.le_refl _), Nat.sub_self, List.set_cons_zero, List.append_assoc]; rfl
    rw [e]
    have := setAll_app (pre ++ [some (false, v)]) olds vs fr (Nat.succ.inj h)
    rw [List.length_append, List.length_singleton] at this
    rw [this, List.append_assoc]; rfl
  | _, [], _ :: _, _, h => by cases h
  | _, _ :: _, [], _, h => by cases h

noncomputable def tn (t : Nat) : Nat := if t = 0 then 1 else t
theorem bindT_bindF {fr fr2 olds : Frm} {t : Nat} {x : V} (h : bindT fr t x = some fr2) (ho : olds.length = tn t) : bindF (decide (t ≠ 0)) (fr ++ olds) (List.range' fr.length (tn t)) x = some fr2 ∧ ∃ news : Frm, fr2 = fr ++ news ∧ news.length = tn t := by
  unfold bindT at h
  unfold tn at ho ⊢
  by_cases ht : t = 0
  · subst ht
    cases h
    exact ⟨setAll_app fr olds [x] fr ho, _, rfl, rfl⟩
  · rw [if_neg ht] at h ho
    rw [if_neg ht]
    obtain ⟨l, e1, h⟩ := bind_inv h
    cases V.tup?_inv e1
    obtain ⟨hl, rfl⟩ := ifs_inv h
    refine ⟨?_, _, rfl, by rw [List.length_map, hl]⟩
    unfold bindF
    rw [if_pos (decide_eq_true ht), ← hl]
    exact setAll_app fr olds l fr (by rw [ho, hl])

/-- a comprehension's tests -/
noncomputable def TestsOK (C : Cx) (Γ : Env0) (n : Nat) (sc : List (PySem.Str × NameKind)) (xs : List (Option PySem.Str)) (ifs : List Expr) (cond' : E) : Prop :=
  (ifs = [] ∧ cond' = .cbool true) ∨ ∃ ct, ifs = [ct] ∧ ST C Γ n sc xs ct cond'

noncomputable def compF (Γ : Env0) (fr : Frm) (t : Nat) (cond' elt' : E) (x : V) (d : Dr) : Option (Option V × Dr) :=
  (bindT fr t x).bind fun fr' => (evE Γ cond' fr' d).bind fun u => u.1.bool?.bind fun b =>
    if b = true then (evE Γ elt' fr' u.2).bind fun w => some (some w.1, w.2) else some (none, u.2)
/-- what stands at a comprehension's turn -/
inductive CmpI (C : Cx) (Γ : Env0) (fr : Frm) (t : Nat) (cond' elt' : E) (xsv vs : List V) (d' : Dr) (St : Nat → Heap → Prop) (lt : List Loc) (W0 : Addr → Prop) (ow : Nat → Option Addr) (s2 : Shared) (wr : List Addr) (D Cn : Addr) (mm : Nat) (s1 : Shared) : Prop
  | mk (i : Nat) (olds : Frm) (dd : Dr) (ys : Array Value) (vsd vrest : List V) (hmm : mm = xsv.length + 1 - i) (hi : i ≤ xsv.length) (hw : compN (compF Γ fr t cond' elt') (xsv.drop i) dd = some (vrest, d')) (hvs : vs = vsd ++ vrest) (st : St i s1.heap)
    (J : FI C lt (fr ++ olds) W0 ow dd s1.heap) (hol : olds.length = tn t) (hsh : ∃ h' tk, s1 = { s2 with heap := h', toks := tk }) (A2 : ∀ b o, s2.heap.get? b = some o → b ≠ C.d0 → b ∉ wr → s1.heap.get? b = some o) (hP : PL s1.heap D ys)
    (hvl : vsd.length ≤ i) (hR : Reps C.d0 s1.heap (Wf W0 ow) ys.toList vsd) (hN : ∃ m, s1.heap.Ns Cn m)

theorem nodup_at {α : Type} {l : List α} {i j : Nat} {x : α} (hn : l.Nodup) (h : l[i]? = some x) (h' : l[j]? = some x) : i = j := by
  obtain ⟨hi, e⟩ := List.getElem?_eq_some_iff.mp h
  obtain ⟨hj, e'⟩ := List.getElem?_eq_some_iff.mp h'
  exact (List.getElem_inj hn).mp (e.trans e'.symm)

variable (c : COK C)
include c
theorem comp_core {elt target iter : Expr} {ifs : List Expr} {scope : Scope} {pos pos' : Pos} {it' : It} {t : Nat} {cond' elt' : E} {ts : List PySem.Str} {use : Option (Value → Sem Unit)}
    (h1 : SI C Γ n sc xs (decide (t ≠ 0)) target iter it') (ok : compOK sc scope.names xs ts = true) (hkind : scope.kind = .function) (htn : ts.length = tn t)
    (htok : TOK (relN sc scope.names) (compX scope.names xs ts) ts (List.range' xs.length (tn t)))
    (htg : if decide (t ≠ 0) then ∃ elts kk p, target = .Tuple elts kk p ∧ NL elts ts else ∃ y p, target = .Name y p ∧ ts = [y])
    (h2 : TestsOK C Γ n (relN sc scope.names) (compX scope.names xs ts) ifs cond') (h3 : SE C Γ n (relN sc scope.names) (compX scope.names xs ts) elt elt')
    (hs : ∀ env x, foldedSetIterable iter env x = pure x) {xsv vs : List V} (e1 : evI Γ it' fr d = some (xsv, d1)) (e2 : compN (compF Γ fr t cond' elt') xsv d1 = some (vs, d'))
    {A : Around} {env : Env} {Q : Value → Shared → Prop} {E : Value → Shared → Prop} (R : Room A n) (hE : EnvOK env sc xs lay) (I : FI C lay fr W0 ow d s.heap)
    (FIN : ∀ D Cn s3 m, Aft C.d0 s s3 → DRel C s3.heap d' → s.heap.get? Cn = none → RepE C.d0 s s3.heap (Wf W0 ow) true (.ref D) (.lst vs) → s3.heap.Ns Cn m → Cn ≠ D → compPost (model C.prog C.w) A E use Q (.ref D) Cn (.ok .next) s3) :
    wpAny (model C.prog C.w) A (comprehension (.ListComp elt [⟨target, iter, ifs, 0⟩] scope pos) scope env pos' (newList []) false (eval iter env) use) Q E s := by
  have okk := ok
  simp only [compOK, Bool.and_eq_true, List.all_eq_true, decide_eq_true_eq, Bool.or_eq_true, beq_iff_eq] at okk
  obtain ⟨⟨⟨_, hnd⟩, htl⟩, htnd⟩ := okk
  refine wpAny_comprehension_free rfl (hs env) (compEnv_ok (ts := ts) (Cn := 0) hE hkind ok).2 hkind (fun x hx hk => look_of_mem hnd (by rw [← hk]; exact hx)) ?_
  refine h1 _ _ _ _ e1 A env lay W0 ow s _ E R hE I fun Ia s2 k2 hd2 ITN => ?_
  obtain ⟨m, fp, wr, P, Md, St, K, hm, hself, st0, wn, wo, hfp, hlim, it⟩ := ITN
  refine wpAny_newObj_type (comp_env ?_)
  generalize hD : s2.heap.objs.size = D
  generalize hH2 : s2.heap.push { cls := .type "list", dict := none, data := .seq ([] : List Value).toArray } = H2
  have hCn : H2.objs.size = D + 1 := by rw [← hH2, Heap.size_push, hD]
  generalize hCg : H2.objs.size = Cn at hCn
  generalize hH3 : pushCells (H2.push { cls := .type "dict", data := .dict #[] }) scope.names = H3
  show codeAny _ A (.compStart _ 0 (.ref Ia) (.ref D) (compEnv scope env Cn)) (compPost _ A E use Q (.ref D) Cn) _
  -- what stood at s2 stands
  have old : ∀ b o, s2.heap.get? b = some o → H3.get? b = some o := fun b o e => by
    rw [← hH3, ← hH2]; exact pushCells_keeps _ _ _ _ (Heap.get?_push_of_some _ (Heap.get?_push_of_some _ e))
  have new2 : ∀ b, D ≤ b → s2.heap.get? b = none := fun b hb => by
    cases e : s2.heap.get? b with
    | none => rfl
    | some o => exact absurd (Heap.lt_size e) (by rw [hD]; exact Nat.not_lt.mpr hb)
  have new0 : ∀ b, D ≤ b → s.heap.get? b = none := fun b hb => notHere k2 hd2 (new2 b hb)
  have hPD : PL H3 D #[] := ⟨0, by
    rw [← hH3]; refine pushCells_keeps _ _ _ _ (Heap.get?_push_of_some _ ?_)
    rw [← hH2, ← hD]; exact Heap.get?_push_size _ rfl⟩
  have hNs : H3.Ns Cn (fun _ => none) := by
    rw [← hH3, ← hCg]; exact (Heap.Ns.new H2 (.type "dict")).keeps (pushCells_keeps _ _)
  have hcells : CellsOk H3 (Cn + 1) (cellsFrom (Cn + 1) scope.names []) := by
    have := cellsFrom_ok scope.names (H2.push { cls := .type "dict", data := .dict #[] }) (Cn + 1) [] ⟨fun _ _ hm => (nomatch hm), List.Pairwise.nil⟩ (by rw [Heap.size_push, hCg]; exact Nat.le_refl _)
    rw [Heap.size_push, hCg] at this
    rwa [hH3] at this
  have kH : AftK s2 { s2 with heap := H3 } := .of old
  have hdH : DRel C H3 d1 := kH.drx hd2
  have kS : Aft C.d0 s { s2 with heap := H3 } := k2.trans (kH.aft _)
  have hd0 : ∀ b, D ≤ b → b ≠ C.d0 := fun b hb q => by obtain ⟨o, e⟩ := I.hi.dr.alloc; rw [← q, new0 b hb] at e; cases e
  have htop : ∀ b, D ≤ b → C.top.get? b = none := fun b hb => by
    cases e : C.top.get? b with
    | none => rfl
    | some o => have := I.hi.top b o e; rw [new0 b hb] at this; cases this
  have I1 : FI C lay fr (fun b => W0 b ∨ b = D) ow d1 H3 := I.pend c kS hdH (new0 D (Nat.le_refl _)) (by obtain ⟨_, e⟩ := hPD; exact ⟨_, e⟩)
  -- the targets' places
  obtain ⟨hE2, _⟩ := compEnv_ok (ts := ts) (Cn := Cn) hE hkind ok
  generalize hW' : (fun b => W0 b ∨ b = D) = W0' at I1
  generalize htlg : compL scope.names (compEnv scope env Cn).cells Cn ts = tl at hE2
  have tlen : tl.length = tn t := by rw [← htlg, compL, List.length_map, htn]
  have tlp : ∀ (j : Nat) (loc : Loc), tl[j]? = some loc → ∃ t, ts[j]? = some t ∧ (loc = .loc Cn t ∨ ∃ cc, loc = .cel cc ∧ (t, cc) ∈ cellsFrom (Cn + 1) scope.names []) := by
    intro j loc e
    rw [← htlg] at e
    unfold compL at e
    rw [List.getElem?_map, Option.map_eq_some_iff] at e
    obtain ⟨t, ht, e⟩ := e
    refine ⟨t, ht, ?_⟩
    split at e
    · rename_i hc
      have hc' : scope.names.lookup t = some .cell := by simpa using hc
      obtain ⟨cc, hcc⟩ := cellsFrom_has scope.names (Cn + 1) [] (x := t) (.inl (lookup_mem hc'))
      right
      refine ⟨cc, ?_, lookup_mem hcc⟩
      rw [← e]
      show Loc.cel (((cellsFrom (Cn + 1) scope.names (clOf env.cells scope.names [])).lookup t).getD 0) = _
      rw [cellsFrom_app, lookup_app_some hcc]; rfl
    · exact .inl e.symm
  have tlok : ∀ loc ∈ tl, loc.ok H3 ∧ Cn ≤ loc.addr := fun loc hl => by
    obtain ⟨j, e⟩ := List.getElem?_of_mem hl
    obtain ⟨t, _, rfl | ⟨cc, rfl, hm⟩⟩ := tlp j loc e
    · exact ⟨⟨_, hNs⟩, Nat.le_refl _⟩
    · obtain ⟨h1, h2⟩ := hcells.empty _ _ hm
      exact ⟨⟨_, h1⟩, Nat.le_of_succ_le h2⟩
  have tlD : ∀ loc ∈ tl, D < loc.addr := fun loc hl => by have := (tlok loc hl).2; omega
  have layD : ∀ loc ∈ lay, ∃ o, s.heap.get? loc.addr = some o := fun loc hl => by
    have := I.oks loc hl
    cases loc with
    | loc L y => obtain ⟨mm, o, _, _, e, _⟩ := this; exact ⟨o, e⟩
    | cel cc => obtain ⟨vv, o, e, _⟩ := this; exact ⟨o, e⟩
  have IE : FI C (lay ++ tl) (fr ++ List.replicate tl.length none) W0' ow d1 H3 := by
    refine I1.extend (fun loc hl => ⟨(tlok loc hl).1, htop _ (Nat.le_of_lt (tlD loc hl)), hd0 _ (Nat.le_of_lt (tlD loc hl))⟩) (fun i j loc e e' => ?_) fun loc hl hl' => ?_
    · obtain ⟨t, ht, h⟩ := tlp i loc e
      obtain ⟨t', ht', h'⟩ := tlp j loc e'
      have : t = t' := by
        rcases h with rfl | ⟨cc, rfl, hm⟩
        · rcases h' with h' | ⟨cc, h', _⟩
          · cases h'; rfl
          · cases h'
        · rcases h' with h' | ⟨cc', h', hm'⟩
          · cases h'
          · cases h'; exact name_of_addr hcells.apart hm hm'
      subst this
      exact nodup_at htnd ht ht'
    · obtain ⟨o, e⟩ := layD loc hl'
      rw [new0 _ (Nat.le_of_lt (tlD loc hl))] at e; cases e
  have fplt : ∀ b ∈ fp, b < D := fun b hb => by obtain ⟨o, e⟩ := (hfp b hb).1; rw [← hD]; exact Heap.lt_size e
  have wl : ∀ b ∈ wr, b ≠ C.d0 ∧ (∀ loc ∈ lay ++ tl, loc.addr ≠ b) ∧ C.top.get? b = none := fun b hb => by
    have hn := wn b hb
    refine ⟨fun q => ?_, fun loc hl q => ?_, ?_⟩
    · obtain ⟨o, e⟩ := I.hi.dr.alloc; rw [← q, hn] at e; cases e
    · rcases List.mem_append.mp hl with hl | hl
      · obtain ⟨o, e⟩ := layD loc hl; rw [q, hn] at e; cases e
      · have := tlD loc hl; rw [q] at this; exact absurd (fplt b (K.sub b hb)) (Nat.not_lt.mpr (Nat.le_of_lt this))
    · cases e : C.top.get? b with
      | none => rfl
      | some o => have := I.hi.top b o e; rw [hn] at this; cases this
  have wW : ∀ b ∈ wr, ¬ W0' b := fun b hb q => by
    rw [← hW'] at q
    rcases q with q | q
    · obtain ⟨o, e⟩ := I.hi.al b (.inl q); rw [wn b hb] at e; cases e
    · exact absurd (fplt b (K.sub b hb)) (by rw [q]; exact Nat.lt_irrefl _)
  have W'D : W0' D := by rw [← hW']; exact .inr rfl
  have WfW : ∀ b, b < D → ¬ Wf W0 ow b → ¬ Wf W0' ow b := by
    rintro b hb hw (q | q)
    · rw [← hW'] at q
      rcases q with q | q
      · exact hw (.inl q)
      · rw [q] at hb; exact Nat.lt_irrefl _ hb
    · exact hw (.inr q)
  have owlt : ∀ k a, ow k = some a → k < fr.length ∧ a < D := fun k a q => by
    obtain ⟨x, e⟩ := I.only k a q
    obtain ⟨items, _, e'⟩ := I.owned q
    refine ⟨(List.getElem?_eq_some_iff.mp e).1, ?_⟩
    rcases Nat.lt_or_ge a D with q | q
    · exact q
    · rw [new0 a q] at e'; cases e'
  have hxl : xs.length = fr.length := by rw [hE.len, I.len]
  rw [hxl] at htok
  have LOOP : codeAny (model C.prog C.w) A (.compLoop (.ListComp elt [⟨target, iter, ifs, 0⟩] scope pos) 0 (.ref Ia) (.ref D) (compEnv scope env Cn)) (compPost (model C.prog C.w) A E use Q (.ref D) Cn) { s2 with heap := H3 } := by
    refine compLoop_any (CmpI C Γ fr t cond' elt' xsv vs d' St (lay ++ tl) W0' ow s2 wr D Cn) ?_ (xsv.length + 1)
      ⟨0, _, d1, #[], [], vs, rfl, Nat.zero_le _, e2, rfl, K.frame _ _ _ st0 (fun b hb o e => old b o e), IE, by rw [List.length_replicate]; exact tlen, ⟨_, _, rfl⟩, fun b o e _ _ => old b o e, hPD, Nat.le_refl _, .nil, _, hNs⟩
    rintro mm s1 ⟨i, olds, dd, ys, vsd, vrest, rfl, hi, hw, hvs, st, J, hol, ⟨h1', tk1, hsh⟩, A2, hP, hvl, hR, mN, hN⟩
    rcases Nat.lt_or_ge i xsv.length with hlt | hge
    · have hx : xsv[i]? = some xsv[i] := List.getElem?_eq_getElem hlt
      rw [List.drop_eq_getElem_cons hlt] at hw
      obtain ⟨o, d2, hf, hw⟩ := bind2 hw
      obtain ⟨l, d3, hw1, hw2⟩ := bind2 hw
      obtain ⟨e5, e6⟩ := Prod.mk.inj (Option.some.inj hw2)
      have e6 := e6.symm
      subst e6
      subst e5
      obtain ⟨fr2, hb, hf⟩ := bind_inv hf
      obtain ⟨bv, d4, hc, hf⟩ := bind2 hf
      obtain ⟨bb, hbb, hf⟩ := bind_inv hf
      cases V.bool?_inv hbb
      obtain ⟨hbf, news, hnews, hnl⟩ := bindT_bindF hb hol
      refine turn_ok c (s := s) (s2 := s2) (W0 := W0) (ow := ow) (xsv := xsv) K hm wn wo it wl wW hx st J (fun b o e hs hw => ?_) (fun v s' h => h) fun v h2' tk st2 J2 r kk al => ?_
      · have hb0 : b ≠ C.d0 := fun q => hd2.noSeq (q ▸ e) hs
        have hbw : b ∉ wr := fun q => by obtain ⟨o', e', hs'⟩ := wo _ _ st0 b q; rw [e] at e'; cases e'; exact hs' hs
        exact ⟨A2 b o e hb0 hbw, WfW b (by rw [← hD]; exact Heap.lt_size e) hw⟩
      · have hDw : D ∉ wr := fun q => Nat.lt_irrefl _ (fplt D (K.sub D q))
        have hCw : Cn ∉ wr := fun q => absurd (fplt Cn (K.sub Cn q)) (by rw [hCn]; exact Nat.not_lt.mpr (Nat.le_succ _))
        have seqw : ∀ b o, s1.heap.get? b = some o → OSeq o → b ∉ wr := fun b o e hs q => by obtain ⟨o', e', hs'⟩ := wo _ _ st b q; rw [e] at e'; cases e'; exact hs' hs
        have hP' : PL h2' D ys := by obtain ⟨n0, e⟩ := hP; exact ⟨n0, kk D _ hDw e⟩
        have hR' : Reps C.d0 h2' (Wf W0' ow) ys.toList vsd := hR.mono fun b o e hs hw => ⟨kk b o (seqw b o e hs) e, hw⟩
        have hN' : h2'.Ns Cn mN := hN.at' fun o e => kk Cn o hCw e
        refine bind_ok c (s := { s1 with heap := h2', toks := tk }) (fr' := fr2) R.hd hE2 htok htg J2 r hbf fun s3 ow' k3 J3 o1 o2 KS => ?_
        have how : ow' = ow := by
          funext k
          by_cases hk : k ∈ List.range' fr.length (tn t)
          · rw [o2 k hk]
            cases q : ow k with
            | none => rfl
            | some a =>
              have h1 := (owlt k a q).1
              have h2 := (List.mem_range'_1.mp hk).1
              exact absurd h1 (Nat.not_lt.mpr h2)
          · exact o1 k hk
        subst how
        have KB : ∀ b o, b ≤ D → h2'.get? b = some o → s3.heap.get? b = some o := fun b o hb e => KS b o e fun k hk loc hl q => by
          have h2 := (List.mem_range'_1.mp hk).1
          rw [List.getElem?_append_right (by rw [← I.len]; exact h2)] at hl
          have := tlD loc (List.mem_of_getElem? hl)
          rw [q] at this
          exact absurd hb (Nat.not_le.mpr this)
        have lt2 : ∀ b o, s2.heap.get? b = some o → b < D := fun b o e => by rw [← hD]; exact Heap.lt_size e
        have A3 : ∀ b o, s2.heap.get? b = some o → b ≠ C.d0 → b ∉ wr → s3.heap.get? b = some o := fun b o e h0 hb => KB b o (Nat.le_of_lt (lt2 b o e)) (kk b o hb (A2 b o e h0 hb))
        have st3 : St (i + 1) s3.heap := K.frame _ _ _ st2 fun b hb o e => KB b o (Nat.le_of_lt (fplt b hb)) e
        have hP3 : PL s3.heap D ys := by obtain ⟨n0, e⟩ := hP'; exact ⟨n0, KB D _ (Nat.le_refl _) e⟩
        have hR3 : Reps C.d0 s3.heap (Wf W0' ow') ys.toList vsd := Reps.stp (s := { s1 with heap := h2', toks := tk }) hR' J2 k3
        have hN3 : ∃ m, s3.heap.Ns Cn m := by
          by_cases hq : ∃ loc ∈ tl, loc.addr = Cn
          · obtain ⟨loc, hl, hq⟩ := hq
            obtain ⟨j, e⟩ := List.getElem?_of_mem hl
            have hok := (J3.oks loc (List.mem_append_right _ hl))
            obtain ⟨t', _, rfl | ⟨cc, rfl, hm'⟩⟩ := tlp j loc e
            · exact hok
            · have := (hcells.empty _ _ hm').2
              simp only [Loc.addr] at hq
              rw [hq] at this
              exact absurd this (Nat.not_le.mpr (Nat.lt_succ_self _))
          · refine ⟨mN, hN'.at' fun o e => KS Cn o e fun k hk loc hl q => ?_⟩
            have h2 := (List.mem_range'_1.mp hk).1
            rw [List.getElem?_append_right (by rw [← I.len]; exact h2)] at hl
            exact hq ⟨loc, List.mem_of_getElem? hl, q⟩
        have sh3 : ∃ h' tk, s3 = { s2 with heap := h', toks := tk } := by
          obtain ⟨hh, tt, e⟩ := k3.sh
          rw [e, hsh]; exact ⟨_, _, rfl⟩
        have fp0 : ∀ b ∈ fp, b ≠ C.d0 := fun b hb q => by
          rcases (hfp b hb).2 with hn | ⟨o, e, hs, _⟩
          · obtain ⟨o, e⟩ := I.hi.dr.alloc; rw [← q, hn] at e; cases e
          · exact I.hi.dr.noSeq (q ▸ e) hs
        -- the invariant again
        have mk : ∀ (s5 : Shared) (d5 : Dr) (ys5 : Array Value) (vsd5 vrest5 : List V), (∀ b o, s3.heap.get? b = some o → b ≠ C.d0 → b ≠ D → s5.heap.get? b = some o) → (∃ h' tk, s5 = { s2 with heap := h', toks := tk }) →
            FI C (lay ++ tl) fr2 W0' ow' d5 s5.heap → PL s5.heap D ys5 → vsd5.length ≤ i + 1 → Reps C.d0 s5.heap (Wf W0' ow') ys5.toList vsd5 → compN (compF Γ fr t cond' elt') (xsv.drop (i + 1)) d5 = some (vrest5, d') → vs = vsd5 ++ vrest5 →
            ∃ mm, mm < xsv.length + 1 - i ∧ CmpI C Γ fr t cond' elt' xsv vs d' St (lay ++ tl) W0' ow' s2 wr D Cn mm s5 := by
          intro s5 d5 ys5 vsd5 vrest5 hkp hsh5 J5 hP5 hl5 hR5 hw5 hv5
          have lt : xsv.length + 1 - (i + 1) < xsv.length + 1 - i := by omega
          refine ⟨_, lt, i + 1, news, d5, ys5, vsd5, vrest5, rfl, hlt, hw5, hv5, K.frame _ _ _ st3 (fun b hb o e => hkp b o e (fp0 b hb) fun q => Nat.lt_irrefl D (q ▸ fplt b hb)), hnews ▸ J5, hnl, hsh5,
            fun b o e h0 hb => hkp b o (A3 b o e h0 hb) h0 fun q => Nat.lt_irrefl D (q ▸ lt2 b o e), hP5, hl5, hR5, ?_⟩
          obtain ⟨m3, hN3⟩ := hN3
          exact ⟨m3, hN3.at' fun o e => hkp Cn o e (hd0 Cn (by rw [hCn]; exact Nat.le_succ _)) (by rw [hCn]; exact Nat.succ_ne_self _)⟩
        have go : ∀ (s4 : Shared), Aft C.d0 s3 s4 → DRel C s4.heap d4 → (if bb = true then wpAny (model C.prog C.w) A (eval elt (compEnv scope env Cn)) (fun x s₄ => wpAny (model C.prog C.w) A (call (.builtin "list.append") [.ref D, x]) (fun _ s5 =>
            ∃ mm, mm < xsv.length + 1 - i ∧ CmpI C Γ fr t cond' elt' xsv vs d' St (lay ++ tl) W0' ow' s2 wr D Cn mm s5)
            (notedBy (model C.prog C.w) A (compEnv scope env Cn) fun e s' => compPost (model C.prog C.w) A E use Q (.ref D) Cn (.error e) s') s₄)
            (notedBy (model C.prog C.w) A (compEnv scope env Cn) fun e s' => compPost (model C.prog C.w) A E use Q (.ref D) Cn (.error e) s') s4
          else ∃ mm, mm < xsv.length + 1 - i ∧ CmpI C Γ fr t cond' elt' xsv vs d' St (lay ++ tl) W0' ow' s2 wr D Cn mm s4) := by
          intro s4 k4 hd4
          have sh4 : ∃ h' tk, s4 = { s2 with heap := h', toks := tk } := by
            obtain ⟨hh, tt, e⟩ := k4.1
            obtain ⟨hh', tt', e'⟩ := sh3
            rw [e, e']; exact ⟨_, _, rfl⟩
          have J4 := J3.aft c k4 hd4
          cases bb with
          | false =>
            cases hf
            exact mk s4 _ ys vsd l (fun b o e h0 _ => k4.2 b o e h0) sh4 J4 (hP3.aft J3.hi.dr k4) (Nat.le_succ_of_le hvl) (hR3.aft J3.hi.dr k4) hw1 hvs
          | true =>
            obtain ⟨v5, d5, he5, hf⟩ := bind2 hf
            cases hf
            refine h3 _ _ _ _ he5 A (compEnv scope env Cn) (lay ++ tl) W0' ow' s4 _ _ R hE2 J4 fun val s5 k5 hd5 r5 => ?_
            have J5 := J4.aft c k5 hd5
            have hP5 := (hP3.aft J3.hi.dr k4).aft J4.hi.dr k5
            have hR5 := (hR3.aft J3.hi.dr k4).aft J4.hi.dr k5
            have hz : ys.size = vsd.length := by rw [← hR.length, Array.length_toList]
            refine wpAny_list_append_plain (hsz := by rw [hz]; exact Nat.le_trans (Nat.le_trans hvl hi) (Nat.le_trans hlim (by decide))) hP5 fun h6 hP6 sb6 => ?_
            have J6 : FI C (lay ++ tl) fr2 W0' ow' d5 h6 := J5.beside W'D hP5 hP6 sb6.2
            refine mk { s5 with heap := h6 } d5 (ys.push val) (vsd ++ [v5]) l (fun b o e h0 hbD => (sb6.2 b hbD).trans (k5.2 b o (k4.2 b o e h0) h0)) ?_ J6 hP6 (by rw [List.length_append, List.length_singleton]; exact Nat.succ_le_succ hvl) ?_ hw1 (by rw [hvs, List.append_assoc]; rfl)
            · obtain ⟨hh, tt, e⟩ := k5.1
              obtain ⟨hh', tt', e'⟩ := sh4
              rw [e, e']; exact ⟨_, _, rfl⟩
            · rw [Array.toList_push]
              exact (hR5.append (.one r5.1)).mono fun b o e hs hw => ⟨(sb6.2 b fun q => hw (.inl (q ▸ W'D))).trans e, hw⟩
        rcases h2 with ⟨rfl, rfl⟩ | ⟨ct, rfl, hct⟩
        · cases hc
          exact wpAny_tests_nil (go s3 (.refl ..) J3.hi.dr)
        · exact wpAny_tests_one (hct _ _ _ _ hc A (compEnv scope env Cn) (lay ++ tl) W0' ow' s3 _ _ R hE2 J3 fun s4 k4 hd4 => go s4 k4 hd4)
    · have hi' : i = xsv.length := Nat.le_antisymm hi hge
      subst hi'
      rw [List.drop_length] at hw
      cases hw
      rw [← hm] at st
      have wo1 := wo _ _ st
      refine K.done s1 _ _ st fun h' tk kk => ?_
      have J' := J.iter wo1 wl kk wW
      have hDw : D ∉ wr := fun q => Nat.lt_irrefl _ (fplt D (K.sub D q))
      have hCw : Cn ∉ wr := fun q => absurd (fplt Cn (K.sub Cn q)) (by rw [hCn]; exact Nat.not_lt.mpr (Nat.le_succ _))
      have seqw : ∀ b o, s1.heap.get? b = some o → OSeq o → b ∉ wr := fun b o e hs q => by obtain ⟨o', e', hs'⟩ := wo1 b q; rw [e] at e'; cases e'; exact hs' hs
      rw [List.append_nil] at hvs
      subst hvs
      obtain ⟨n0, eP⟩ := hP
      have hP' : PL h' D ys := ⟨n0, kk D _ hDw eP⟩
      refine FIN D Cn _ mN ⟨?_, fun b o e h0 => ?_⟩ J'.hi.dr (new0 Cn (by rw [hCn]; exact Nat.le_succ _)) ⟨.lst hP' (fun q => ?_) (Nat.le_trans hvl hlim) (hR.mono fun b o e hs hw => ⟨kk b o (seqw b o e hs) e, fun q => hw ?_⟩), fun _ l' e => ?_⟩ (hN.at' fun o e => kk Cn o hCw e) (by rw [hCn]; exact Nat.succ_ne_self _)
      · obtain ⟨hh, tt, e⟩ := k2.1
        rw [hsh, e]; exact ⟨_, _, rfl⟩
      · exact kk b o (fun q => by rw [wn b q] at e; cases e) (A2 b o (k2.2 b o e h0) h0 fun q => by rw [wn b q] at e; cases e)
      · obtain ⟨o, e⟩ := I.hi.al D q; rw [new0 D (Nat.le_refl _)] at e; cases e
      · rcases q with q | q
        · rw [← hW']; exact .inl (.inl q)
        · exact .inr q
      · cases e
        refine ⟨D, ys, rfl, new0 D (Nat.le_refl _), hP', hR.mono fun b o e hs hw => ⟨kk b o (seqw b o e hs) e, fun q => hw ?_⟩⟩
        rw [← hW']
        rcases q with (q | q) | q
        · exact .inl (.inl q)
        · exact .inr q
        · exact .inl (.inr q)
  exact codeAny_compStart_list LOOP (hself 0 _ _ _ (K.frame _ _ _ st0 (fun b hb o e => old b o e)) LOOP)
end
end Mine
-- MQ
namespace Mine
open PySem PySem.W PyProof.Rows

section
variable {C : Cx} {Γ : Env0} {n wf : Nat} {sc : List (PySem.Str × NameKind)} {xs : List (Option PySem.Str)} {lay : List Loc} {ow ow1 ow3 : Nat → Option Addr} {s s' s1 s2 s3 : Shared} {d d' d1 : Dr} {fr fr' fr1 : Frm} {W0 : Addr → Prop}
variable (c : COK C)
include c

omit c in
/-- behind a comprehension its names go -/
theorem behind_ok {h : Heap} {Cn : Addr} {m : PySem.Str → Option Value} {h' : Heap} (hn : s.heap.get? Cn = none) (hN : s'.heap.Ns Cn m) (sb : Heap.SameBut Cn s'.heap h') (k : Aft C.d0 s s') (h0 : DRel C s.heap d1) (hd : DRel C s'.heap d) :
    Aft C.d0 s { s' with heap := h' } ∧ DRel C h' d ∧ ∀ b o, s'.heap.get? b = some o → OSeq o → h'.get? b = some o := by
  have ne : ∀ b o, s.heap.get? b = some o → b ≠ Cn := fun b o e q => by rw [q, hn] at e; cases e
  refine ⟨⟨?_, fun b o e hb => (sb.2 b (ne b o e)).trans (k.2 b o e hb)⟩, ?_, fun b o e hs => (sb.2 b fun q => ?_).trans e⟩
  · obtain ⟨hh, tt, e⟩ := k.1; rw [e]; exact ⟨_, _, rfl⟩
  · have hd0 : C.d0 ≠ Cn := fun q => by obtain ⟨o, e⟩ := h0.alloc; exact ne _ o e q
    cases d with
    | none => exact ⟨(sb.2 _ hd0).trans hd.1, hd.2⟩
    | some p => obtain ⟨t, u, o, es, ep, e, r⟩ := hd; exact ⟨t, u, o, es, ep, (sb.2 _ hd0).trans e, r⟩
  · subst q
    obtain ⟨o', es, ep, e', hd', _⟩ := hN
    rw [e] at e'; cases e'
    obtain ⟨_, _, hs⟩ := hs
    rw [hs] at hd'; cases hd'
theorem se_comp {elt target iter : Expr} {ifs : List Expr} {scope : Scope} {pos : Pos} {it' : It} {t : Nat} {cond' elt' : E} {ts : List PySem.Str}
    (h1 : SI C Γ n sc xs (decide (t ≠ 0)) target iter it') (ok : compOK sc scope.names xs ts = true) (hkind : scope.kind = .function) (htn : ts.length = tn t)
    (htok : TOK (relN sc scope.names) (compX scope.names xs ts) ts (List.range' xs.length (tn t)))
    (htg : if decide (t ≠ 0) then ∃ elts kk p, target = .Tuple elts kk p ∧ NL elts ts else ∃ y p, target = .Name y p ∧ ts = [y])
    (h2 : TestsOK C Γ n (relN sc scope.names) (compX scope.names xs ts) ifs cond') (h3 : SE C Γ n (relN sc scope.names) (compX scope.names xs ts) elt elt')
    (hs : ∀ env x, foldedSetIterable iter env x = pure x) : SE C Γ n sc xs (.ListComp elt [⟨target, iter, ifs, 0⟩] scope pos) (.comp it' t cond' elt') := by
  intro fr d v d' hv A env lay W0 ow s Q E R hE I hQ
  obtain ⟨xsv, d1, e1, hv⟩ := bind2 hv
  obtain ⟨vs, d2, e2, hv⟩ := bind2 hv
  cases hv
  rw [eval_ListComp]
  refine comp_core c (use := none) (vs := vs) h1 ok hkind htn htok htg h2 h3 hs e1 e2 R hE I fun D Cn s3 m k3 hd3 hn r hN hCD => ?_
  refine ⟨m, hN, fun h' sb => ?_⟩
  obtain ⟨k, hd, seq⟩ := behind_ok (h := s3.heap) hn hN sb k3 I.hi.dr hd3
  refine hQ _ _ k hd ⟨r.1.mono fun b o e hs hw => ⟨seq b o e hs, hw⟩, fun hf l e => ?_⟩
  obtain ⟨a, items, h1, h2, ⟨n0, h3⟩, h4⟩ := r.2 rfl l e
  exact ⟨a, items, h1, h2, ⟨n0, seq _ _ h3 ⟨_, _, rfl⟩⟩, h4.mono fun b o e hs hw => ⟨seq b o e hs, hw⟩⟩

/-- y = [.. for ..], y local: the store comes before the comprehension's names go -/
theorem ss_asgC {y : PySem.Str} {py spos : Pos} {k : Nat} {elt target iter : Expr} {ifs : List Expr} {scope : Scope} {pos : Pos} {it' : It} {t : Nat} {cond' elt' : E} {ts : List PySem.Str}
    (h1 : SI C Γ n sc xs (decide (t ≠ 0)) target iter it') (ok : compOK sc scope.names xs ts = true) (hkind : scope.kind = .function) (htn : ts.length = tn t)
    (htok : TOK (relN sc scope.names) (compX scope.names xs ts) ts (List.range' xs.length (tn t)))
    (htg : if decide (t ≠ 0) then ∃ elts kk p, target = .Tuple elts kk p ∧ NL elts ts else ∃ y p, target = .Name y p ∧ ts = [y])
    (h2 : TestsOK C Γ n (relN sc scope.names) (compX scope.names xs ts) ifs cond') (h3 : SE C Γ n (relN sc scope.names) (compX scope.names xs ts) elt elt')
    (hs : ∀ env x, foldedSetIterable iter env x = pure x) (hk : xs[k]? = some (some y)) (hf : sc.lookup y ≠ some .free)
    (hsw : ∀ env : Env, env.scope.kind = .function → env.scope.names = sc → swapsWith (.ListComp elt [⟨target, iter, ifs, 0⟩] scope pos) (some (.Name y py)) spos.line env = pure true) :
    SS C Γ n wf sc xs (.Assign [.Name y py] (.ListComp elt [⟨target, iter, ifs, 0⟩] scope pos) spos) (.asg k (.comp it' t cond' elt')) := by
  intro fr d fl fr' d' hv A env lay W0 ow s Q E R hE I hQ
  obtain ⟨v, d0, e0, hv⟩ := bind2 hv
  obtain ⟨xsv, d1, e1, e0⟩ := bind2 e0
  obtain ⟨vs, d2, e2, e0⟩ := bind2 e0
  cases e0
  cases hv
  rw [exec_Assign_Name_used _ _ _ _ (hsw env hE.kind hE.look)]
  refine wpAny_bind (wpAny_standAt (wpAny_bind ?_))
  show wpAny _ A (do let _ ← comprehension (.ListComp elt [⟨target, iter, ifs, 0⟩] scope pos) scope env _ (newList []) false (eval iter env) (some (assign (.Name y py) env))) _ _ s
  refine wpAny_bind (wpAny_mono (comp_core c (use := some (assign (.Name y py) env)) (Q := fun _ s' => Q .next s') (vs := vs) h1 ok hkind htn htok htg h2 h3 hs e1 e2 R hE I fun D Cn s3 m k3 hd3 hn r hN hCD => ?_) (fun _ s' hq => wpAny_pure (wpAny_pure hq)) fun _ _ e => e)
  refine wpAny_assign_Name (store_ok c hE I k3 hd3 hk hf r fun s4 ow4 k4 I4 q4 => ?_)
  have layC : ∀ loc ∈ lay, loc.addr ≠ Cn := fun loc hl q => by
    have := I.oks loc hl
    cases loc with
    | loc L z => obtain ⟨mm, o, _, _, e, _⟩ := this; simp only [Loc.addr] at q; rw [q, hn] at e; cases e
    | cel cc => obtain ⟨vv, o, e, _⟩ := this; simp only [Loc.addr] at q; rw [q, hn] at e; cases e
  have hN4 : s4.heap.Ns Cn m := hN.at' fun o e => q4.kp Cn o e layC
  refine ⟨m, hN4, fun h' sb => hQ _ _ ow4 ⟨?_, fun b o e h1 h2 h3 => (sb.2 b fun q => by rw [q, hn] at e; cases e).trans (k4.kp b o e h1 h2 h3), k4.ow, fun b o e => ?_⟩ (I4.iter (wr := [Cn]) (fun b hb => ?_) (fun b hb => ?_) (fun b o hb e => (sb.2 b fun q => hb (by rw [q]; exact List.mem_cons_self)).trans e) fun b hb q => ?_) trivial⟩
  · obtain ⟨hh, tt, e⟩ := k4.sh; rw [e]; exact ⟨_, _, rfl⟩
  · obtain ⟨o', e'⟩ := k4.al b o e
    exact ⟨o', (sb.2 b fun q => by rw [q, hn] at e; cases e).trans e'⟩
  · rw [List.mem_singleton.mp hb]
    obtain ⟨o, es, ep, e, hd, _⟩ := hN4
    exact ⟨o, e, fun ⟨_, _, q⟩ => by rw [hd] at q; cases q⟩
  · rw [List.mem_singleton.mp hb]
    refine ⟨fun q => ?_, layC, ?_⟩
    · obtain ⟨o, e⟩ := I.hi.dr.alloc; rw [← q, hn] at e; cases e
    · cases e : C.top.get? Cn with
      | none => rfl
      | some o => have := I.hi.top Cn o e; rw [hn] at this; cases this
  · rw [List.mem_singleton.mp hb] at q
    obtain ⟨o, e⟩ := I.hi.al Cn (.inl q); rw [hn] at e; cases e
end
end Mine
-- MR
namespace Mine
open PySem PySem.W PyProof.Rows

/-- a def of the text -/
structure FnD where
  ps : List PySem.Str
  params : Arguments
  body : List Stmt
  scope : Scope
  vars : List PySem.Str
noncomputable def FnD.xs (F : FnD) : List (Option PySem.Str) := F.vars.map some
structure FnD.OK (F : FnD) : Prop where
  kind : F.scope.kind = .function
  co : F.scope.isCoroutine = false
  gen : F.scope.isGenerator = false
  nd : F.vars.Nodup
  loc : ∀ x ∈ F.vars, F.scope.names.lookup x = some .local ∨ F.scope.names.lookup x = some .cell
  pre : F.ps <+: F.vars
  bind : ∀ (name qual : PySem.Str) (doc pm cdv ct : Value) (an : Option Addr) (vals : List Value), vals.length = F.ps.length → bindArgs (fnX name qual F.params F.body F.scope [] .none .none doc pm an cdv ct) ⟨vals, []⟩ = pure (F.ps.zip vals)
noncomputable def fnOK (C : Cx) (f : Nat) (F : FnD) : Prop :=
  ∃ a o name qual doc pm an cdv ct, C.mg (fname f) = some (.ref a) ∧ C.top.get? a = some o ∧ o.data = .func (fnX name qual F.params F.body F.scope [] .none .none doc pm an cdv ct) ∧ C.top.CodeRec cdv qual

theorem bindL_other {ko : PySem.Str → Option NameKind} {p : PySem.Str} : ∀ {binds : List (PySem.Str × Value)} {m : PySem.Str → Option Value}, p ∉ binds.map (·.1) → bindL ko binds m p = m p
  | [], _, _ => rfl
  | (n, v) :: r, m, h => by
    unfold bindL
    rw [bindL_other fun q => h (List.mem_cons_of_mem _ q)]
    split
    · exact if_neg fun q => h (by rw [q]; exact List.mem_cons_self)
    · rfl
theorem bindL_at {ko : PySem.Str → Option NameKind} {p : PySem.Str} {v : Value} (hk : ko p = some .local) : ∀ {binds : List (PySem.Str × Value)} {m : PySem.Str → Option Value}, (binds.map (·.1)).Nodup → (p, v) ∈ binds → bindL ko binds m p = some v
  | (n, u) :: r, m, hn, h => by
    obtain ⟨h1, h2⟩ := List.nodup_cons.mp hn
    unfold bindL
    rcases List.mem_cons.mp h with e | h
    · cases e
      rw [bindL_other h1, if_pos hk]; exact if_pos rfl
    · exact bindL_at hk h2 h
theorem bindC_other {ko : PySem.Str → Option NameKind} {p : PySem.Str} : ∀ {binds : List (PySem.Str × Value)} {m : PySem.Str → Option Value}, p ∉ binds.map (·.1) → bindC ko binds m p = m p
  | [], _, _ => rfl
  | (n, v) :: r, m, h => by
    unfold bindC
    rw [bindC_other fun q => h (List.mem_cons_of_mem _ q)]
    split
    · rfl
    · exact if_neg fun q => h (by rw [q]; exact List.mem_cons_self)
theorem bindC_at {ko : PySem.Str → Option NameKind} {p : PySem.Str} {v : Value} (hk : ko p ≠ some .local) : ∀ {binds : List (PySem.Str × Value)} {m : PySem.Str → Option Value}, (binds.map (·.1)).Nodup → (p, v) ∈ binds → bindC ko binds m p = some v
  | (n, u) :: r, m, hn, h => by
    obtain ⟨h1, h2⟩ := List.nodup_cons.mp hn
    unfold bindC
    rcases List.mem_cons.mp h with e | h
    · cases e
      rw [bindC_other h1, if_neg hk]; exact if_pos rfl
    · exact bindC_at hk h2 h

/-- a frame at its start -/
noncomputable def frm0 (nv : Nat) (first : Option (List V)) (args : List V) : Frm :=
  (match first with | some l => [some (true, V.lst l)] | none => []) ++ args.map (fun v => some (false, v)) ++ List.replicate (nv - ((match first with | some _ => 1 | none => 0) + args.length)) none

section
variable {C : Cx} {Γ : Env0} {n wf : Nat} {s : Shared} {d d' : Dr} {W : Addr → Prop}
variable (c : COK C)
include c

omit c in
theorem zip_at {α β : Type} {l : List α} {m : List β} {i : Nat} {x : α} {y : β} (h : l[i]? = some x) (h' : m[i]? = some y) : (x, y) ∈ l.zip m :=
  List.mem_of_getElem? (List.getElem?_zip_eq_some.mpr ⟨h, h'⟩)

/-- a call: to its body's start -/
theorem enter_ok {F : FnD} (ok : F.OK) {A : Around} {vals : List Value} {name qual : PySem.Str} {doc pm cdv ct : Value} {an : Option Addr} {a : Addr} {o : Obj} {Q E : Value → Shared → Prop} (R : Room A (n + 1)) (htop : ∀ b o, C.top.get? b = some o → s.heap.get? b = some o) (hlen : vals.length = F.ps.length)
    (ho : C.top.get? a = some o) (hd : o.data = .func (fnX name qual F.params F.body F.scope [] .none .none doc pm an cdv ct)) (hcd : C.top.CodeRec cdv qual)
    (h : ∀ (env : Env) (lay : List Loc) (s1 : Shared) (E' : Value → Shared → Prop), Room (A.deeper env) n → EnvOK env F.scope.names F.xs lay → AftK s s1 → (∀ loc ∈ lay, loc.ok s1.heap ∧ s.heap.get? loc.addr = none) → (∀ (i j : Nat) (loc : Loc), lay[i]? = some loc → lay[j]? = some loc → i = j) →
      (∀ (k : Nat) (v : Value), vals[k]? = some v → ∃ loc, lay[k]? = some loc ∧ loc.has s1.heap v) →
      wpAny (model C.prog C.w) (A.deeper env) (execs F.body env) (fun f s' => Q (match f with | .ret v => v | _ => .none) s') E' s1) :
    wpAny (model C.prog C.w) A (call (.ref a) vals) Q E s := by
  refine wpAny_call (codeAny_call_function (fd := fnX name qual F.params F.body F.scope [] .none .none doc pm an cdv ct) (body := F.body) (by have := R.dep; omega) (htop _ _ ho) hd ok.co ok.gen rfl (hcd.keeps htop)
    ((BindsTo.of_eq (ok.bind name qual doc pm cdv ct an vals hlen)) _ _ _ _ ?_))
  have hvs : ∀ x ∈ F.ps, x ∈ F.vars := fun x hx => ok.pre.subset hx
  refine wpAny_newFunctionEnv_cells ok.kind (fun x hx => ?_) fun env he s1 x => ?_
  · have hm : x.1 ∈ F.ps := by
      have := List.mem_map_of_mem (f := Prod.fst) hx
      rw [List.map_fst_zip (by omega)] at this; exact this
    rcases ok.loc _ (hvs _ hm) with q | q
    · exact .inl q
    · refine .inr ⟨q, ?_⟩
      obtain ⟨cc, e⟩ := cellsFrom_has F.scope.names (s.heap.objs.size + 1) [] (x := x.1) (.inl (lookup_mem q))
      rw [e]; rfl
  · obtain ⟨h1, t1, hs1, hk1⟩ := x.done
    have k1 : AftK s s1 := by rw [hs1]; exact .of hk1
    refine ⟨c.lim.keeps fun b o e => k1.2 b o (htop b o e), codeAny_func ?_⟩
    have hloc : env.locals = s.heap.objs.size := by rw [he]; rfl
    have hcells : env.cells = cellsFrom (s.heap.objs.size + 1) F.scope.names [] := by rw [he]; rfl
    have hscope : env.scope = F.scope := by rw [he]; rfl
    have layp : ∀ (j : Nat) (loc : Loc), (compL F.scope.names env.cells env.locals F.vars)[j]? = some loc → ∃ t, F.vars[j]? = some t ∧ ((loc = .loc env.locals t ∧ F.scope.names.lookup t = some .local) ∨ ∃ cc, loc = .cel cc ∧ env.cells.lookup t = some cc ∧ F.scope.names.lookup t = some .cell) := by
      intro j loc e
      unfold compL at e
      rw [List.getElem?_map, Option.map_eq_some_iff] at e
      obtain ⟨t, ht, e⟩ := e
      refine ⟨t, ht, ?_⟩
      split at e
      · rename_i hc
        have hc' : F.scope.names.lookup t = some .cell := by simpa using hc
        obtain ⟨cc, hcc⟩ := cellsFrom_has F.scope.names (s.heap.objs.size + 1) [] (x := t) (.inl (lookup_mem hc'))
        rw [← hcells] at hcc
        exact .inr ⟨cc, by rw [← e, hcc]; rfl, hcc, hc'⟩
      · rename_i hc
        refine .inl ⟨e.symm, ?_⟩
        rcases ok.loc t (List.mem_of_getElem? ht) with q | q
        · exact q
        · rw [q] at hc; exact absurd rfl hc
    have ns := x.toInCall.ns
    refine h env (compL F.scope.names env.cells env.locals F.vars) s1 _ ⟨R.hd, by have := R.dep; show A.depth + 1 + n < _; omega, by have := R.uni; show A.units + 3 + 8 * n + 300 < _; omega⟩
      ⟨by simp only [FnD.xs, compL, List.length_map], by rw [hscope]; exact ok.kind, by rw [hscope], fun k y hk => ?_, by rw [he]; rfl, by rw [he]; rfl⟩ k1 (fun loc hl => ?_) (fun i j loc e e' => ?_) fun k v hv => ?_
    · unfold FnD.xs at hk
      rw [List.getElem?_map, Option.map_eq_some_iff] at hk
      obtain ⟨t, ht, e⟩ := hk
      simp only [Option.some.injEq] at e
      subst e
      have hl : (compL F.scope.names env.cells env.locals F.vars)[k]? = some (if F.scope.names.lookup t == some .cell then .cel ((env.cells.lookup t).getD 0) else .loc env.locals t) := by
        unfold compL; rw [List.getElem?_map, ht]; rfl
      obtain ⟨t', ht', r⟩ := layp k _ hl
      rw [ht] at ht'; cases ht'
      rcases r with ⟨r1, r2⟩ | ⟨cc, r1, r2, r3⟩
      · exact .inl ⟨r2, by rw [hl, r1]⟩
      · exact .inr ⟨.inl r3, cc, r2, by rw [hl, r1]⟩
    · obtain ⟨j, e⟩ := List.getElem?_of_mem hl
      obtain ⟨t, ht, ⟨rfl, _⟩ | ⟨cc, rfl, h2, _⟩⟩ := layp j loc e
      · exact ⟨⟨_, ns⟩, by simp only [Loc.addr]; rw [hloc]; exact get_size _⟩
      · refine ⟨⟨_, x.cell t cc h2⟩, ?_⟩
        simp only [Loc.addr]
        have := x.above t cc (lookup_mem h2)
        rw [hloc] at this
        cases e : s.heap.get? cc with
        | none => rfl
        | some o => exact absurd (Heap.lt_size e) (Nat.not_lt.mpr (Nat.le_of_lt this))
    · obtain ⟨t, ht, r⟩ := layp i loc e
      obtain ⟨t', ht', r'⟩ := layp j loc e'
      have : t = t' := by
        rcases r with ⟨rfl, _⟩ | ⟨cc, rfl, h2, _⟩
        · rcases r' with ⟨r', _⟩ | ⟨cc, r', _⟩
          · cases r'; rfl
          · cases r'
        · rcases r' with ⟨r', _⟩ | ⟨cc', r', h2', _⟩
          · cases r'
          · cases r'; exact name_of_addr x.apart (lookup_mem h2) (lookup_mem h2')
      subst this
      exact nodup_at ok.nd ht ht'
    · have hlt := (List.getElem?_eq_some_iff.mp hv).1
      have hp : F.ps[k]? = some (F.ps[k]'(by omega)) := List.getElem?_eq_getElem (by omega)
      generalize F.ps[k]'(by omega) = p at hp
      have hvar : F.vars[k]? = some p := by
        obtain ⟨r, hr⟩ := ok.pre
        rw [← hr, List.getElem?_append_left (by omega)]; exact hp
      have hl : (compL F.scope.names env.cells env.locals F.vars)[k]? = some (if F.scope.names.lookup p == some .cell then .cel ((env.cells.lookup p).getD 0) else .loc env.locals p) := by
        unfold compL; rw [List.getElem?_map, hvar]; rfl
      have hnd : ((F.ps.zip vals).map (·.1)).Nodup := by
        rw [List.map_fst_zip (by omega)]
        obtain ⟨r, hr⟩ := ok.pre
        have := ok.nd
        rw [← hr] at this
        exact (List.nodup_append.mp this).1
      have hm := zip_at hp hv
      have ko : ∀ y, env.kindOf y = F.scope.names.lookup y := fun y => by show env.scope.names.lookup y = _; rw [hscope]
      obtain ⟨t', ht', r⟩ := layp k _ hl
      rw [hvar] at ht'; cases ht'
      refine ⟨_, hl, ?_⟩
      rcases r with ⟨r1, r2⟩ | ⟨cc, r1, r2, r3⟩
      · rw [r1]
        exact ⟨_, ns, bindL_at (by rw [ko]; exact r2) hnd hm⟩
      · rw [r1]
        have := x.cell p cc r2
        rwa [bindC_at (by rw [ko, r3]; simp) hnd hm] at this

omit c in
theorem Room.le {A : Around} {m : Nat} (R : Room A m) (h : n ≤ m) : Room A n := ⟨R.hd, by have := R.dep; omega, by have := R.uni; omega⟩
noncomputable def Fl.out (fresh : Bool) : Fl → Option V
  | .ret f v => if (fresh && !f) = true then none else some v
  | .next => if fresh = true then none else some .none
  | .cont => none
noncomputable def Fl.isNext : Fl → Bool
  | .next => true
  | _ => false
noncomputable def callRun (Γ : Env0) (wf np nv : Nat) (b : SL) (fresh : Bool) (args : List V) (d : Dr) : Option (V × Dr) :=
  if args.length = np then (exL Γ wf b (frm0 nv none args) d).bind fun q => (q.1.out fresh).bind fun v => some (v, q.2.2) else none
noncomputable def mutRun (Γ : Env0) (wf np nv : Nat) (b : SL) (l args : List V) (d : Dr) : Option (List V × Dr) :=
  if args.length + 1 = np then (exL Γ wf b (frm0 nv (some l) args) d).bind fun q => if q.1.isNext = true then (ownOf q.2.1[0]?).bind fun l' => some (l', q.2.2) else none else none

theorem call_ok {F : FnD} {f : Nat} {b : SL} (ok : F.OK) (fk : fnOK C f F) (hb : SSL C Γ n wf F.scope.names F.xs F.body b) {args : List V} {r : V} (hr : callRun Γ wf F.ps.length F.vars.length b (freshF f) args d = some (r, d')) : CallOK C (n + 1) f args d r d' := by
  obtain ⟨a, o, name, qual, doc, pm, an, cdv, ct, hg, ho, hd, hcd⟩ := fk
  refine ⟨a, o, _, hg, ho, hd, fun A s W vals Q E R hi rp hQ => ?_⟩
  obtain ⟨hlen, hr⟩ := if_inv hr
  obtain ⟨fl, ⟨fr2, d2⟩, hex, hr⟩ := bind2 hr
  obtain ⟨v, hout, hr⟩ := bind_inv hr
  cases hr
  have hvl := rp.length
  refine enter_ok c ok R hi.top (by rw [hvl, hlen]) ho hd hcd fun env lay s1 E' R1 hE k1 lok ap lv => ?_
  have wf0 : ∀ b, Wf W (fun _ => none) b → W b := by rintro b (q | ⟨k, q⟩); exact q; cases q
  have nv : F.vars.length = lay.length := by rw [← hE.len]; simp [FnD.xs]
  have hle : args.length ≤ F.vars.length := by rw [hlen]; exact ok.pre.length_le
  have cell : ∀ (k : Nat) (x : Bool × V), (frm0 F.vars.length none args)[k]? = some (some x) → ∃ v, args[k]? = some v ∧ x = (false, v) := fun k x e => by
    simp only [frm0, List.nil_append] at e
    rw [List.getElem?_append] at e
    split at e
    · rw [List.getElem?_map, Option.map_eq_some_iff] at e
      obtain ⟨v, h1, h2⟩ := e
      exact ⟨v, h1, by simpa using h2.symm⟩
    · rw [List.getElem?_replicate] at e; split at e <;> simp at e
  have I : FI C lay (frm0 F.vars.length none args) W (fun _ => none) d s1.heap := by
    refine ⟨⟨fun b o e => k1.2 b o (hi.top b o e), fun b hb => ?_, fun b hb => hi.wt b (wf0 b hb), hi.dr.keep k1.2⟩, ?_, fun k x e => ?_, fun k x e => ?_, (fun k a e => by cases e), (fun k k' a e => by cases e), (fun k a e => by cases e), fun k loc e => ?_, ap⟩
    · obtain ⟨o, e⟩ := hi.al b (wf0 b hb); exact ⟨o, k1.2 b o e⟩
    · simp only [frm0, List.nil_append, List.length_append, List.length_map, List.length_replicate]; omega
    · obtain ⟨v, hv, e⟩ := cell k _ e
      cases e
      obtain ⟨u, hu, ru⟩ := rp.get hv
      obtain ⟨loc, h1, h2⟩ := lv k u hu
      exact ⟨loc, u, h1, h2, ru.mono fun b o e _ hw => ⟨k1.2 b o e, fun q => hw (wf0 b q)⟩⟩
    · obtain ⟨v, hv, e⟩ := cell k _ e
      cases e
    · obtain ⟨h1, h2⟩ := lok loc (List.mem_of_getElem? e)
      refine ⟨h1, ?_, fun q => ?_⟩
      · cases e : C.top.get? loc.addr with
        | none => rfl
        | some o => have := hi.top _ o e; rw [h2] at this; cases this
      · obtain ⟨o, e⟩ := hi.dr.alloc; rw [← q, h2] at e; cases e
  have fin : ∀ flow s2 ow' v f, Stp C lay (fun _ => none) ow' s1 s2 → FI C lay f W ow' d2 s2.heap → RepE C.d0 s1 s2.heap (Wf W ow') (freshF flow) v r → RepE C.d0 s s2.heap W (freshF flow) v r ∧ Aft C.d0 s s2 := by
    intro flow s2 ow' v f k2 I2 rr
    refine ⟨⟨rr.1.mono fun b o e _ hw => ⟨e, fun q => hw (.inl q)⟩, fun hf l e => ?_⟩, ?_, fun b o e h0 => k2.kp b o (k1.2 b o e) h0 (fun k q => by cases q) fun loc hl q => ?_⟩
    · obtain ⟨a, items, h1, h2, h3, h4⟩ := rr.2 hf l e
      refine ⟨a, items, h1, ?_, h3, h4.mono fun b o e _ hw => ⟨e, fun q => hw (q.elim (fun q => .inl (.inl q)) .inr)⟩⟩
      cases e' : s.heap.get? a with
      | none => rfl
      | some o => have := k1.2 a o e'; rw [h2] at this; cases this
    · obtain ⟨h1, t1, e1⟩ := k1.1
      obtain ⟨h2, t2, e2⟩ := k2.sh
      rw [e2, e1]; exact ⟨_, _, rfl⟩
    · have := (lok loc hl).2; rw [q, e] at this; cases this
  refine hb _ _ _ _ _ hex (A.deeper env) env lay W (fun _ => none) s1 _ _ R1 hE I fun flow s2 ow' k2 I2 r2 => ?_
  cases fl with
  | next =>
    cases flow <;> first | exact r2.elim | skip
    obtain ⟨hf, hv⟩ := if_not_inv hout
    cases hv
    obtain ⟨h1, h2⟩ := fin f s2 ow' .none _ k2 I2 ⟨.none, fun hf' => absurd hf' hf⟩
    exact hQ _ _ h2 I2.hi.dr h1
  | ret g v =>
    cases flow <;> first | exact r2.elim | skip
    rename_i val
    obtain ⟨hf, hv⟩ := if_not_inv hout
    cases hv
    obtain ⟨h1, h2⟩ := fin f s2 ow' val _ k2 I2 ⟨r2.1, fun hf' => r2.2 (by
      rw [hf'] at hf
      cases g with
      | true => rfl
      | false => exact absurd rfl hf)⟩
    exact hQ _ _ h2 I2.hi.dr h1
  | cont => cases hout

theorem mut_ok {F : FnD} {f : Nat} {st : Stmt} {st' : S} (ok : F.OK) (fk : fnOK C f F) (hF : F.body = [st]) (hb : SSo C Γ n wf F.scope.names F.xs st st') {l args l' : List V} (hr : mutRun Γ wf F.ps.length F.vars.length (.cons st' .nil) l args d = some (l', d')) : MutOK C (n + 1) f l args d l' d' := by
  obtain ⟨a, o, name, qual, doc, pm, an, cdv, ct, hg, ho, hd, hcd⟩ := fk
  refine ⟨a, o, _, hg, ho, hd, fun A s W la items vals Q E R hi hla hp hm rl rp hQ => ?_⟩
  obtain ⟨hlen, hr⟩ := if_inv hr
  obtain ⟨fl, ⟨fr2, d2⟩, hex, hr⟩ := bind2 hr
  obtain ⟨hn, hr⟩ := if_inv hr
  obtain ⟨l2, h0, hr⟩ := bind_inv hr
  cases hr
  have h0 := ownOf_inv h0
  obtain ⟨fl1, ⟨fr1, d1⟩, hst, hex⟩ := bind2 hex
  have hvl := rp.length
  refine enter_ok c ok R hi.top (by rw [List.length_cons, hvl, hlen]) ho hd hcd fun env lay s1 E' R1 hE k1 lok ap lv => ?_
  let W0 : Addr → Prop := fun b => W b ∧ b ≠ la
  let ow : Nat → Option Addr := fun k => if k = 0 then some la else none
  have ow0 : ∀ k a, ow k = some a → k = 0 ∧ a = la := fun k a q => by
    simp only [ow] at q
    split at q
    · rename_i h; cases q; exact ⟨h, rfl⟩
    · cases q
  have wf0 : ∀ b, Wf W0 ow b → W b := by
    rintro b (q | ⟨k, q⟩)
    · exact q.1
    · rw [(ow0 k b q).2]; exact hla
  have nv : F.vars.length = lay.length := by rw [← hE.len]; simp [FnD.xs]
  have hle : args.length + 1 ≤ F.vars.length := by rw [hlen]; exact ok.pre.length_le
  have cell : ∀ (k : Nat) (x : Bool × V), (frm0 F.vars.length (some l) args)[k]? = some (some x) → (k = 0 ∧ x = (true, .lst l)) ∨ ∃ j v, k = j + 1 ∧ args[j]? = some v ∧ x = (false, v) := fun k x e => by
    simp only [frm0] at e
    cases k with
    | zero => simp at e; exact .inl ⟨rfl, e.symm⟩
    | succ j =>
      right
      simp only [List.cons_append, List.nil_append, List.getElem?_cons_succ] at e
      rw [List.getElem?_append] at e
      split at e
      · rw [List.getElem?_map, Option.map_eq_some_iff] at e
        obtain ⟨v, h1, h2⟩ := e
        exact ⟨j, v, rfl, h1, by simpa using h2.symm⟩
      · rw [List.getElem?_replicate] at e; split at e <;> simp at e
  obtain ⟨np, ep⟩ := hp
  have I : FI C lay (frm0 F.vars.length (some l) args) W0 ow d s1.heap := by
    refine ⟨⟨fun b o e => k1.2 b o (hi.top b o e), fun b hb => ?_, fun b hb => hi.wt b (wf0 b hb), hi.dr.keep k1.2⟩, ?_, fun k x e => ?_, fun k x e => ?_, fun k a e => ?_, fun k k' a e e' => ?_, fun k a e q => ?_, fun k loc e => ?_, ap⟩
    · obtain ⟨o, e⟩ := hi.al b (wf0 b hb); exact ⟨o, k1.2 b o e⟩
    · simp only [frm0, List.cons_append, List.nil_append, List.length_cons, List.length_append, List.length_map, List.length_replicate]; omega
    · rcases cell k _ e with ⟨_, e⟩ | ⟨j, v, rfl, hv, e⟩
      · cases e
      · cases e
        obtain ⟨u, hu, ru⟩ := rp.get hv
        obtain ⟨loc, h1, h2⟩ := lv (j + 1) u (by rw [List.getElem?_cons_succ]; exact hu)
        exact ⟨loc, u, h1, h2, ru.mono fun b o e _ hw => ⟨k1.2 b o e, fun q => hw (wf0 b q)⟩⟩
    · rcases cell k _ e with ⟨rfl, e⟩ | ⟨j, v, rfl, hv, e⟩
      · cases e
        obtain ⟨loc, h1, h2⟩ := lv 0 (.ref la) rfl
        exact ⟨loc, la, items, l, h1, h2, rfl, rfl, ⟨np, k1.2 _ _ ep⟩, hm, rl.mono fun b o e _ hw => ⟨k1.2 b o e, fun q => hw (wf0 b q)⟩⟩
      · cases e
    · obtain ⟨rfl, rfl⟩ := ow0 k a e
      exact ⟨.lst l, by simp [frm0]⟩
    · rw [(ow0 k a e).1, (ow0 k' a e').1]
    · exact q.2 (ow0 k a e).2
    · obtain ⟨h1, h2⟩ := lok loc (List.mem_of_getElem? e)
      refine ⟨h1, ?_, fun q => ?_⟩
      · cases e : C.top.get? loc.addr with
        | none => rfl
        | some o => have := hi.top _ o e; rw [h2] at this; cases this
      · obtain ⟨o, e⟩ := hi.dr.alloc; rw [← q, h2] at e; cases e
  rw [hF]
  refine wpAny_execs_cons (hb _ _ _ _ _ hst (A.deeper env) env lay W0 ow s1 _ _ R1 hE I fun s2 e k2 I2 => wpAny_execs_nil ?_)
  subst e
  cases hex
  obtain ⟨loc, a2, items2, l3, h1, h2, h3, h4, h5, h6, h7⟩ := I2.owns 0 _ h0
  cases h4
  obtain ⟨_, rfl⟩ := ow0 0 a2 h3
  refine hQ s2 items2 ?_ (fun b o e hbl h0 => k2.kp b o (k1.2 b o e) h0 (fun k q => hbl (ow0 k b q).2) fun loc hl q => ?_) I2.hi.dr h5 h6 (h7.mono fun b o e _ hw => ⟨e, fun q => hw ?_⟩)
  · obtain ⟨h1, t1, e1⟩ := k1.1
    obtain ⟨h2, t2, e2⟩ := k2.sh
    rw [e2, e1]; exact ⟨_, _, rfl⟩
  · have := (lok loc hl).2; rw [q, e] at this; cases this
  · by_cases hb : ow 0 = some b
    · exact .inr ⟨0, hb⟩
    · exact .inl ⟨q, fun e => hb (by rw [e]; exact h3)⟩
end
end Mine
-- MS
namespace Mine
open PySem PySem.W PyProof.Rows

section
variable {C : Cx} {Γ : Env0} {n wf : Nat} {sc : List (PySem.Str × NameKind)} {xs : List (Option PySem.Str)} {lay : List Loc} {ow ow' : Nat → Option Addr} {s s' : Shared} {d d' : Dr} {fr fr' : Frm} {W0 : Addr → Prop}

/-- a list of the frame's own turns, by another's hand -/
theorem FI.mutate2 {k : Nat} {l l' : List V} {a : Addr} {items' : Array Value} {h' : Heap} {tk : Nat} (I : FI C lay fr W0 ow d s.heap) (e : fr[k]? = some (some (true, .lst l))) (hk : ow k = some a)
    (hp : PL h' a items') (kk : ∀ b o, s.heap.get? b = some o → b ≠ a → b ≠ C.d0 → h'.get? b = some o) (DR : DRel C h' d') (r : Reps C.d0 h' (Wf W0 ow) items'.toList l') (hm : l'.length ≤ LIM) (ct : C.top.get? C.d0 = none) :
    Stp C lay ow ow s { s with heap := h', toks := tk } ∧ FI C lay (fr.set k (some (true, .lst l'))) W0 ow d' h' := by
  obtain ⟨loc, a2, items, l2, h1, h2, h3, h4, h5, h6, h7⟩ := I.owns k _ e
  rw [hk] at h3; cases h3
  have hp' := hp
  obtain ⟨n', ea'⟩ := hp'
  obtain ⟨n0, ea⟩ := h5
  have up : ∀ b o, s.heap.get? b = some o → ∃ o', h'.get? b = some o' := fun b o eb => by
    by_cases q : b = a
    · subst q; exact ⟨_, ea'⟩
    · by_cases q0 : b = C.d0
      · subst q0; exact DR.alloc
      · exact ⟨o, kk b o eb q q0⟩
  have hloc : ∀ j (loc' : Loc), lay[j]? = some loc' → loc'.addr ≠ a := fun j loc' el q => by subst q; exact (I.lok j loc' el).1.noSeq ea ⟨_, _, rfl⟩
  have T : ∀ b o, s.heap.get? b = some o → OSeq o → ¬ Wf W0 ow b → h'.get? b = some o ∧ ¬ Wf W0 ow b := fun b o eb hs hw => ⟨kk b o eb (fun q => hw (.inr ⟨k, q ▸ hk⟩)) fun q => I.hi.dr.noSeq (q ▸ eb) hs, hw⟩
  have lockeep : ∀ (j : Nat) (loc' : Loc), lay[j]? = some loc' → ∀ o, s.heap.get? loc'.addr = some o → h'.get? loc'.addr = some o := fun j loc' el o eo => kk _ o eo (hloc j loc' el) (I.lok j loc' el).2.2
  refine ⟨⟨⟨_, _, rfl⟩, fun b o eb h0 hn _ => kk b o eb (fun q => hn k (q ▸ hk)) h0, fun j b q => .inl ⟨j, q⟩, up⟩, ?_⟩
  have key := I.put (W0 := W0) (k := k) (cell := (true, .lst l')) (a' := some a) (h' := h') (d' := d') (fun _ q => q) h1 (by rw [owSet_same hk]; exact T)
    (fun j b o hj q eb => by
      obtain ⟨its, m, eb'⟩ := I.owned q
      rw [eb] at eb'; cases eb'
      exact kk b _ eb (fun q' => hj (I.inj j k a (q' ▸ q) hk)) fun q0 => I.hi.dr.noSeq (q0 ▸ eb) ⟨_, _, rfl⟩)
    (fun j loc' v el _ hv => hv.at (lockeep j loc' el)) (fun j loc' el => (I.lok j loc' el).1.at (lockeep j loc' el))
    (fun b o eb => kk b o (I.hi.top b o eb) (fun q => by
      have := I.hi.wt a (.inr ⟨k, hk⟩); rw [q, this] at eb; cases eb) fun q0 => by rw [q0, ct] at eb; cases eb) up DR (h2.at (lockeep k loc h1))
    (.inr ⟨rfl, a, items', l', rfl, rfl, rfl, hp, hm, by rw [owSet_same hk]; exact r, fun j hj q => hj (I.inj j k a q hk), I.disj k a hk, I.hi.wt a (.inr ⟨k, hk⟩)⟩)
  rwa [owSet_same hk] at key

variable (c : COK C)
include c
theorem ss_muts {x y : PySem.Str} {np np2 p pos : Pos} {e : Expr} {rest : List Expr} {k f : Nat} {l' : EL} (g : GOK C n Γ) (hf : fname f = x) (hx : sc.lookup x = some .globalImplicit) (hp : plainName x = true) (hk : xs[k]? = some (some y)) (hpy : plainName y = true)
    (h1 : SL1 C Γ n sc xs (e :: rest) l') (he : ∀ env, starEach (.Name y np2 :: e :: rest) env = (false, eval (.Name y np2) env) :: starEach (e :: rest) env) :
    SS C Γ n wf sc xs (.Expr (.Call (.Name x np) (.Name y np2 :: e :: rest) [] p) pos) (.muts f k l') := by
  intro fr d fl fr' d' hv A env lay W0 ow s Q E R hE I hQ
  obtain ⟨vs, d1, e1, hv⟩ := bind2 hv
  obtain ⟨l, e2, hv⟩ := bind_inv hv
  obtain ⟨l2, d2, e3, hv⟩ := bind2 hv
  cases hv
  have e2 := ownOf_inv e2
  obtain ⟨a, o, fd, hg, ho, hd, H⟩ := g.2 _ _ _ _ _ _ e3
  rw [hf] at hg
  obtain ⟨loc, la, items, l3, hl, hlv, how, hll, h5, h6, h7, h8⟩ := I.ownRef e2
  cases hll
  have hpy' := plain_two hpy
  refine wpAny_Expr (hi := by unfold interactive; rw [hE.kind]; rfl) (wpAny_Call_NameR (global_val c hE hx hp I.hi.top hg ?_))
  refine callWith_def (he := he env) hd (args_cons (he := he env) (Name_any hE hk hl hlv hpy'.1 hpy'.2 ?_))
  refine h1 _ _ _ _ e1 A env lay W0 ow s p _ E R hE I fun ys s1 k1 hd1 r1 => ?_
  have I1 := I.aft c k1 hd1
  obtain ⟨loc1, la1, items1, l31, hl1, hlv1, how1, hll1, h51, h61, h71, h81⟩ := I1.ownRef e2
  cases hll1
  rw [how] at how1; cases how1
  refine ⟨I1.hi.top _ _ ho, ?_⟩
  refine H A s1 (Wf W0 ow) la items1 ys _ E R I1.hi (.inr ⟨k, how⟩) h51 h61 h71 r1 fun s2 items2 hsh kk DR hp2 hm2 r2 => ?_
  obtain ⟨h2, t2, rfl⟩ := hsh
  obtain ⟨k2, I2⟩ := I1.mutate2 (l' := l2) (tk := t2) e2 how hp2 kk DR r2 hm2 c.d0
  exact hQ _ _ _ ((Stp.of k1 I.hi.dr hd1).trans k2) I2 trivial

theorem dset_ok {A : Around} {great : Bool} {key : PySem.Str} {pr : Int × Int} {i : Int} {t tt : Tok} {Q : Unit → Shared → Prop} {E : Value → Shared → Prop} (hd : DRel C s.heap (some pr)) (hkey : key = if great then "great" else "mixed")
    (hQ : ∀ s2, Aft C.d0 s s2 → DRel C s2.heap (some (if great then (i, pr.2) else (pr.1, i))) → Q () s2) :
    wpAny (model C.prog C.w) A (setItem (.ref C.d0) (.str key tt) (.int i t)) Q E s := by
  obtain ⟨u, v, hd⟩ := hd
  have ne : ¬ (("great" : PySem.Str) = "mixed") := by decide +kernel
  have ne' : ¬ (("mixed" : PySem.Str) = "great") := fun q => ne q.symm
  cases great with
  | true =>
    subst hkey
    refine wpAny_setItem_pairs (knd := strKind C.prog C.w) (k := "great") (hsz := Nat.le_of_ble_eq_true rfl) (beq_self_eq_true _) hd fun h' hd' sb => ?_
    refine hQ _ ⟨⟨_, _, rfl⟩, fun b o e hb => (sb.2 b hb).trans e⟩ ⟨t, v, ?_⟩
    simpa [stored, ne'] using hd'
  | false =>
    subst hkey
    refine wpAny_setItem_pairs (knd := strKind C.prog C.w) (k := "mixed") (hsz := Nat.le_of_ble_eq_true rfl) (beq_self_eq_true _) hd fun h' hd' sb => ?_
    refine hQ _ ⟨⟨_, _, rfl⟩, fun b o e hb => (sb.2 b hb).trans e⟩ ⟨u, t, ?_⟩
    simpa [stored, ne] using hd'
theorem ss_dset {x key : PySem.Str} {np p1 p2 pos : Pos} {kk k : Nat} {great : Bool} {e : Expr} {e' : E} (h1 : SE C Γ n sc xs e e') (hk : xs[k]? = some (some x)) (hp : plainName x = true) (hkey : key = if great then "great" else "mixed")
    (hs : ∀ env, swapsWith e (some (.Subscript (.Name x np) (.Constant (.str key) kk p1) p2)) pos.line env = pure false) :
    SS C Γ n wf sc xs (.Assign [.Subscript (.Name x np) (.Constant (.str key) kk p1) p2] e pos) (.dset great k e') := by
  intro fr d fl fr' d' hv A env lay W0 ow s Q E R hE I hQ
  obtain ⟨v, d1, e1, hv⟩ := bind2 hv
  obtain ⟨b, e2, hv⟩ := bind_inv hv
  obtain ⟨i, e3, hv⟩ := bind_inv hv
  obtain ⟨pr, e4, hv⟩ := bind_inv hv
  cases V.int?_inv e3
  cases e4
  cases hv
  have ek := drwOf_inv e2
  have hp := plain_two hp
  refine wpAny_Assign_Subscript (hs := hs env) (h1 _ _ _ _ e1 A env lay W0 ow s _ E R hE I fun vv s1 k1 hd1 r1 => ?_)
  obtain ⟨t, rfl⟩ := r1.1.int_of
  have I1 := I.aft c k1 hd1
  obtain ⟨loc, hl, hlv⟩ := I1.drwAt ek
  refine Name_any hE hk hl hlv hp.1 hp.2 (wpAny_Constant_str ?_)
  refine dset_ok c (s := { s1 with toks := s1.toks + 1 }) hd1 hkey fun s2 k2 hd2 => ?_
  have kk : Aft C.d0 s s2 := k1.trans ((Aft.tok (s := s1) (t := s1.toks + 1)).trans k2)
  exact hQ _ _ _ (Stp.of kk I.hi.dr hd2) (I.aft c kk hd2) trivial
omit c in
theorem set_cell {l : Frm} {k : Nat} {x : Cell} (h : k < l.length) : (l.set k x)[k]? = some x := by rw [List.getElem?_set_self h]
theorem swap_step {A : Around} {env : Env} {x : PySem.Str} {np p : Pos} {ei : Expr} {k : Nat} {ei' : E} {cell : Cell} {j v : V} {vv : Value} {d1 : Dr} {Q : Unit → Shared → Prop} {E : Value → Shared → Prop} (R : Room A n) (hE : EnvOK env sc xs lay) (I : FI C lay fr W0 ow d s.heap) (h1 : SE C Γ n sc xs ei ei') (hk : xs[k]? = some (some x)) (hp : plainName x = true)
    (e1 : evE Γ ei' fr d = some (j, d1)) (e2 : setIV fr[k]? j v = some cell) (rv : Rep C.d0 s.heap (Wf W0 ow) vv v)
    (hQ : ∀ s2, Stp C lay ow ow s s2 → FI C lay (fr.set k cell) W0 ow d1 s2.heap → Q () s2) : wpAny (model C.prog C.w) A (assign (.Subscript (.Name x np) ei p) env vv) Q E s := by
  obtain ⟨l, _, e, _⟩ := setIV_inv e2
  obtain ⟨loc, a, items, l', hl, hv, ho, _, h5, h6, h7, h8⟩ := I.ownRef e
  have hp' := plain_two hp
  refine kas_sub (Name_any hE hk hl hv hp'.1 hp'.2 (h1 _ _ _ _ e1 A env lay W0 ow s _ E R hE I fun jv s2 k2 hd2 r2 => ?_))
  have I2 := I.aft c k2 hd2
  exact setI_step c (fr0 := none) e2 I2 r2.1 (rv.aft I.hi.dr k2) ho fun s3 k3 I3 => hQ _ ((Stp.of k2 I.hi.dr hd2).trans k3) I3
theorem sso_swap {x : PySem.Str} {np1 np2 p1 p2 tpos vpos pos : Pos} {kk kk' k : Nat} {i1 i2 e1 e2 : Expr} {i1' i2' e1' e2' : E} (h1 : SE C Γ n sc xs e1 e1') (h2 : SE C Γ n sc xs e2 e2') (h3 : SE C Γ n sc xs i1 i1') (h4 : SE C Γ n sc xs i2 i2') (hk : xs[k]? = some (some x)) (hp : plainName x = true)
    (he : ∀ env, starEach [e1, e2] env = [(false, eval e1 env), (false, eval e2 env)]) (he2 : ∀ env, starEach [e2] env = [(false, eval e2 env)])
    (hw : ∀ env : Env, env.scope.kind = .function → env.scope.names = sc → swappedStores [.Tuple [.Subscript (.Name x np1) i1 p1, .Subscript (.Name x np2) i2 p2] kk tpos] (.Tuple [e1, e2] kk' vpos) env = pure none) :
    SSo C Γ n wf sc xs (.Assign [.Tuple [.Subscript (.Name x np1) i1 p1, .Subscript (.Name x np2) i2 p2] kk tpos] (.Tuple [e1, e2] kk' vpos) pos) (.swap k i1' i2' e1' e2') := by
  intro fr d fl fr' d' hv A env lay W0 ow s Q E R hE I hQ
  obtain ⟨v1, d1, a1, hv⟩ := bind2 hv
  obtain ⟨v2, d2, a2, hv⟩ := bind2 hv
  obtain ⟨j1, d3, a3, hv⟩ := bind2 hv
  obtain ⟨c1, a4, hv⟩ := bind_inv hv
  obtain ⟨j2, d4, a5, hv⟩ := bind2 hv
  obtain ⟨c2, a6, hv⟩ := bind_inv hv
  cases hv
  refine Assign_Tuple (hw := hw env hE.kind hE.look) (wpAny_Tuple (args_cons (he := by rw [he, he2]) (h1 _ _ _ _ a1 A env lay W0 ow s _ E R hE I fun u1 s1 k1 hd1 r1 => ?_)))
  refine args_cons (he := he2 env) (h2 _ _ _ _ a2 A env lay W0 ow s1 _ E R hE (I.aft c k1 hd1) fun u2 s2 k2 hd2 r2 => args_nil ⟨by simp; decide, ?_⟩)
  have kP : AftK s2 { s2 with heap := s2.heap.push { cls := .type "tuple", data := .seq [u1, u2].toArray } } := AftK.push
  refine assign_Tuple_tuple R.hd (IsTup.new s2.heap [u1, u2].toArray) rfl rfl fun h' x' => ?_
  have kX : AftK { s2 with heap := s2.heap.push { cls := .type "tuple", data := .seq [u1, u2].toArray } } { s2 with heap := h' } := ext_aftK c x'
  have kS := (kP.trans kX).aft C.d0
  have hdS : DRel C h' d2 := (kP.trans kX).drx hd2
  have kAll : Aft C.d0 s { s2 with heap := h' } := k1.trans (k2.trans kS)
  have IS : FI C lay fr W0 ow d2 h' := I.aft c kAll hdS
  have q1 : Rep C.d0 h' (Wf W0 ow) u1 v1 := r1.1.aft hd1 (k2.trans kS)
  have q2 : Rep C.d0 h' (Wf W0 ow) u2 v2 := r2.1.aft hd2 kS
  show wpAny _ _ (assignInOrder [assign (.Subscript (.Name x np1) i1 p1) env, assign (.Subscript (.Name x np2) i2 p2) env] [u1, u2]) _ E _
  refine assignInOrder_cons (swap_step c (s := { s2 with heap := h' }) R hE IS h3 hk hp a3 a4 q1 fun s3 k3 I3 => ?_)
  have hkl : k < fr.length := by
    obtain ⟨l, _, e, _⟩ := setIV_inv a4
    exact (List.getElem?_eq_some_iff.mp e).1
  have q2' : Rep C.d0 s3.heap (Wf W0 ow) u2 v2 := Rep.stp (s := { s2 with heap := h' }) q2 IS k3
  refine assignInOrder_cons (swap_step c R hE I3 h4 hk hp a5 (by rw [set_cell hkl]; exact a6) q2' fun s4 k4 I4 => assignInOrder_nil ?_)
  rw [List.set_set] at I4
  exact hQ _ rfl (((Stp.of kAll I.hi.dr hdS).trans k3).trans k4) I4

theorem ss_asgD {x y key : PySem.Str} {np1 np2 p1 p2 tpos vpos pos : Pos} {kk kk' kc k kd : Nat} {e1 e2 : Expr} {e1' e2' : E} (h1 : SE C Γ n sc xs e1 e1') (h2 : SE C Γ n sc xs e2 e2') (hk : xs[k]? = some (some x)) (hf : sc.lookup x ≠ some .free) (hkd : xs[kd]? = some (some y)) (hne : kd ≠ k) (hp : plainName y = true)
    (hkey : key = "great") (he : ∀ env, starEach [e1, e2] env = [(false, eval e1 env), (false, eval e2 env)]) (he2 : ∀ env, starEach [e2] env = [(false, eval e2 env)])
    (hw : ∀ env : Env, env.scope.kind = .function → env.scope.names = sc → swappedStores [.Tuple [.Name x np1, .Subscript (.Name y np2) (.Constant (.str key) kc p1) p2] kk tpos] (.Tuple [e1, e2] kk' vpos) env = pure none) :
    SS C Γ n wf sc xs (.Assign [.Tuple [.Name x np1, .Subscript (.Name y np2) (.Constant (.str key) kc p1) p2] kk tpos] (.Tuple [e1, e2] kk' vpos) pos) (.asgD k kd e1' e2') := by
  intro fr d fl fr' d' hv A env lay W0 ow s Q E R hE I hQ
  obtain ⟨v1, d1, a1, hv⟩ := bind2 hv
  obtain ⟨v2, d2, a2, hv⟩ := bind2 hv
  obtain ⟨b, a3, hv⟩ := bind_inv hv
  obtain ⟨i, a4, hv⟩ := bind_inv hv
  obtain ⟨pr, a5, hv⟩ := bind_inv hv
  cases V.int?_inv a4
  cases a5
  cases hv
  have ek := drwOf_inv a3
  refine Assign_Tuple (hw := hw env hE.kind hE.look) (wpAny_Tuple (args_cons (he := by rw [he, he2]) (h1 _ _ _ _ a1 A env lay W0 ow s _ E R hE I fun u1 s1 k1 hd1 r1 => ?_)))
  refine args_cons (he := he2 env) (h2 _ _ _ _ a2 A env lay W0 ow s1 _ E R hE (I.aft c k1 hd1) fun u2 s2 k2 hd2 r2 => args_nil ⟨by simp; decide, ?_⟩)
  have kP : AftK s2 { s2 with heap := s2.heap.push { cls := .type "tuple", data := .seq [u1, u2].toArray } } := AftK.push
  refine assign_Tuple_tuple R.hd (IsTup.new s2.heap [u1, u2].toArray) rfl rfl fun h' x' => ?_
  have kX : AftK { s2 with heap := s2.heap.push { cls := .type "tuple", data := .seq [u1, u2].toArray } } { s2 with heap := h' } := ext_aftK c x'
  have kS := (kP.trans kX).aft C.d0
  have hdS : DRel C h' (some pr) := (kP.trans kX).drx hd2
  have kAll : Aft C.d0 s { s2 with heap := h' } := k1.trans (k2.trans kS)
  have q1 : RepE C.d0 s h' (Wf W0 ow) (freshE e1') u1 v1 := by
    refine ⟨r1.1.aft hd1 (k2.trans kS), fun hf l e => ?_⟩
    obtain ⟨a, items, b1, b2, b3, b4⟩ := r1.2 hf l e
    exact ⟨a, items, b1, b2, b3.aft hd1 (k2.trans kS), b4.aft hd1 (k2.trans kS)⟩
  obtain ⟨t, rfl⟩ := r2.1.int_of
  show wpAny _ _ (assignInOrder [assign (.Name x np1) env, assign (.Subscript (.Name y np2) (.Constant (.str key) kc p1) p2) env] [u1, .int i t]) _ E _
  refine assignInOrder_cons (wpAny_assign_Name (store_ok c (s' := { s2 with heap := h' }) hE I kAll hdS hk hf q1 fun s3 ow3 k3 I3 _ => ?_))
  have ek' : (fr.set k (some (freshE e1' && v1.isLst, v1)))[kd]? = some (some (b, V.drw)) := by rw [set_other hne]; exact ek
  obtain ⟨loc, hl, hlv⟩ := I3.drwAt ek'
  have hp := plain_two hp
  refine assignInOrder_cons (kas_sub (Name_any hE hkd hl hlv hp.1 hp.2 (wpAny_Constant_str ?_)))
  refine dset_ok c (s := { s3 with toks := s3.toks + 1 }) (great := true) I3.hi.dr hkey fun s4 k4 hd4 => assignInOrder_nil ?_
  have k5 : Aft C.d0 s3 s4 := (Aft.tok (s := s3) (t := s3.toks + 1)).trans k4
  exact hQ _ _ _ (k3.trans (Stp.of k5 I3.hi.dr hd4)) (I3.aft c k5 hd4) trivial
end
end Mine
-- MT
namespace Mine
open PySem PySem.W PyProof.Rows

section
variable {prog : Program} {w : World} {A : Around} {E : Value → Shared → Prop} {s : Shared}
theorem draw_list {it t : Addr} {items : Array Value} (hne : t ≠ it) : ∀ (n i : Nat) (s : Shared) (Q : List Value → Shared → Prop), s.heap.IsListIter it t i → s.heap.IsList t items → i + n ≤ items.size →
    (∀ h', h'.IsListIter it t (i + n) → Heap.SameBut it s.heap h' → Q ((items.toList.drop i).take n) { s with heap := h' }) → wpAny (model prog w) A (draw (.ref it) n) Q E s
  | 0, i, s, Q, hit, _, _, hQ => by
    show wpAny _ _ (pure []) Q E s
    have := hQ s.heap hit (Heap.SameBut.refl ..)
    rw [List.take_zero] at this
    exact wpAny_pure this
  | n + 1, i, s, Q, hit, ht, hle, hQ => by
    have hlt : i < items.size := by omega
    show wpAny _ _ (pyNext (.ref it) >>= _) Q E s
    refine wpAny_bind (wpAny_pyNext_list_item hit ht (x := items[i]) (by simp [hlt]) fun h₁ hit₁ hs₁ => ?_)
    refine wpAny_bind (wpAny_holding (draw_list hne n (i + 1) _ _ hit₁ (ht.extBut hs₁.extBut hne) (by omega) fun h₂ hit₂ hs₂ => wpAny_pure ?_))
    have := hQ h₂ (by rw [show i + (n + 1) = i + 1 + n by omega]; exact hit₂) (hs₁.trans hs₂)
    rw [List.drop_eq_getElem_cons (by rw [Array.length_toList]; exact hlt), List.take_succ_cons, Array.getElem_toList] at this
    exact this
theorem unpack_list {t : Addr} {items : Array Value} {elts : List Expr} {env : Env} {kk : Nat} {pos : Pos} {Q : Unit → Shared → Prop} (hh : A.handled = none) (ht : s.heap.IsList t items)
    (hn : (assignEach elts env).length = items.size) (hstar : (assignEach elts env).findIdx? (·.1) = none)
    (h : ∀ h', Heap.ExtBut s.heap.objs.size s.heap h' → wpAny (model prog w) A (assignInOrder ((assignEach elts env).map (·.2)) items.toList) Q E { s with heap := h' }) :
    wpAny (model prog w) A (assign (.Tuple elts kk pos) env (.ref t)) Q E s := by
  have hlt : t ≠ s.heap.objs.size := by obtain ⟨o, ho, _⟩ := ht; exact Nat.ne_of_lt (Heap.lt_size ho)
  rw [PyProof.Rows.assign_Tuple]
  refine wpAny_bind (wpAny_standAt ?_)
  unfold unpack
  rw [hn, hstar]
  refine wpAny_bind (wpAny_holding ?_)
  unfold unpackItems
  refine wpAny_bind ?_
  unfold notIterableAtAll
  refine wpAny_bind (wpAny_specialOf ht.typeIs slot_list_iter.lookup (wpAny_pure ?_))
  show wpAny _ _ (holding [.ref t] (pyIter (.ref t)) >>= _) _ _ _
  refine wpAny_bind (wpAny_holding (wpAny_pyIter_list ht ?_))
  show wpAny _ _ (holding [.ref s.heap.objs.size] (draw (.ref s.heap.objs.size) items.size) >>= _) _ _ _
  refine wpAny_bind (wpAny_holding (draw_list hlt items.size 0 _ _ ⟨_, Heap.get?_push_size _ rfl, rfl, rfl⟩ (ht.push _) (by omega) fun h₁ hit₁ hs₁ => ?_))
  have hall : List.take items.size (List.drop 0 items.toList) = items.toList := by
    rw [List.drop_zero, List.take_of_length_le (by simp)]
  rw [hall]
  rw [if_neg (by simp)]
  have ht₁ : h₁.IsList t items := (ht.push _).extBut hs₁.extBut hlt
  refine wpAny_bind (wpAny_holding (wpAny_pyNext_list_end hh hit₁ ht₁ (by simp) fun h₂ he₂ => ?_))
  simp only [Option.isSome_none, Bool.false_eq_true, if_false]
  exact wpAny_pure (h h₂ fun b o hb e => he₂ b o hb (hs₁.extBut b o hb (Heap.get?_push_of_some _ e)))
end

section
variable {C : Cx} {Γ : Env0} {n wf : Nat} {sc : List (PySem.Str × NameKind)} {xs : List (Option PySem.Str)} {lay : List Loc} {ow ow' : Nat → Option Addr} {s s' : Shared} {d d' : Dr} {fr fr' : Frm} {W0 : Addr → Prop}
variable (c : COK C)
include c
/-- a, b = [..] -/
theorem ss_asgTL {names : List PySem.Str} {elts : List Expr} {kk : Nat} {tpos pos : Pos} {e : Expr} {ks : List Nat} {e' : E} (h1 : SE C Γ n sc xs e e') (ht : TOK sc xs names ks) (hN : NL elts names)
    (hs : ∀ env, swapsWithSole [.Tuple elts kk tpos] e pos.line env = pure false) (hw : ∀ env : Env, swappedStores [.Tuple elts kk tpos] e env = pure none) :
    SS C Γ n wf sc xs (.Assign [.Tuple elts kk tpos] e pos) (.asgT ks e') := by
  intro fr d fl fr' d' hv A env lay W0 ow s Q E R hE I hQ
  obtain ⟨v, d1, e1, hv⟩ := bind2 hv
  obtain ⟨l, e0, hv⟩ := bind_inv hv
  obtain ⟨fr1, e2, hv⟩ := bind_inv hv
  cases hv
  refine Assign_Tuple (hs := hs env) (hw := hw env) (h1 _ _ _ _ e1 A env lay W0 ow s _ E R hE I fun val s1 k1 hd1 r1 => ?_)
  rcases V.items?_inv e0 with e | e
  · cases e
    obtain ⟨T, items, rfl, hT, hw, hm, r⟩ := r1.1.lst_of
    have e3 := setAll_eq _ _ _ _ e2
    have h1 := setC_len e3
    rw [List.length_map] at h1
    have h2 : ∀ (ns : List PySem.Str) (js : List Nat), TOK sc xs ns js → ns.length = js.length := by
      intro ns
      induction ns with
      | nil => intro js h; cases js with | nil => rfl | cons => exact h.elim
      | cons a r ih => intro js h; cases js with | nil => exact h.elim | cons j js => rw [List.length_cons, List.length_cons, ih js h.2.2]
    have I1 := I.aft c k1 hd1
    refine unpack_list R.hd hT.isList (by rw [hN.length, h2 _ _ ht, h1, ← r.length, Array.length_toList]) hN.star fun h' x => ?_
    have k2 := ext_aftK c x
    refine stores_ok (W0 := W0) (d := d1) hE _ _ ks [] items.toList (l.map fun v => (false, v)) _ fr _ ow _ hN.stl ht List.nodup_nil (fun a ha => by cases ha) ?_ ?_ e3 fun s2 ow' q2 I2 h3 h4 h5 h6 => ?_
    · rw [WP_nil]; exact I1.aft c (k2.aft _) (k2.drx hd1)
    · rw [WP_nil]
      exact RL.ofReps c (r.keepK k2.2)
    · refine hQ _ s2 ow' (q2.stp (k1.trans (k2.aft _)) I.hi.dr (k2.drx hd1) fun j a q => ?_) I2 trivial
      rcases h3 j a q with q' | q'
      · exact .inl q'
      · cases q'
  · cases e
    obtain ⟨T, items, rfl, hT, hw, r⟩ := r1.1.tup_of
    exact assignT_ok c ht hN R.hd hE (I.aft c k1 hd1) hT r e2 fun s2 ow' k2 I2 _ _ _ => hQ _ s2 ow' ((Stp.of k1 I.hi.dr hd1).trans k2) I2 trivial

theorem go_tupiter {A : Around} {elts : List Expr} {kk : Nat} {p : Pos} {I ax T : Addr} {i : Nat} {E : Value → Shared → Prop} {Q : Unit → Shared → Prop} (hit : s.heap.IsTupleIter I ax i) (hQ : Q () s) :
    wpAny (model C.prog C.w) A (letOwnedTupleGo (.Tuple elts kk p) (.ref I) (.ref T)) Q E s := by
  obtain ⟨o, ho, hc, hd⟩ := hit
  unfold letOwnedTupleGo
  refine wpAny_bind (wpAny_load ho ?_)
  rw [hc, hd]
  exact wpAny_pure hQ
/-- for a, b, c in (t1, t2): tuples out of a tuple -/
theorem si_tups {iter : Expr} {elts : List Expr} {kk : Nat} {tp : Pos} {l' : EL} (h1 : SE C Γ n sc xs iter (.tup l')) :
    SI C Γ n sc xs true (.Tuple elts kk tp) iter (.seq (.tup l')) := by
  intro fr d xsv d' hv A env lay W0 ow s Q E R hE I hQ
  obtain ⟨v, d1, e1, hv⟩ := bind2 hv
  obtain ⟨l, e0, hv⟩ := bind_inv hv
  cases hv
  have e1' := e1
  obtain ⟨vs, d2, _, e1'⟩ := bind2 e1'
  obtain ⟨e3, _⟩ := Prod.mk.inj (Option.some.inj e1')
  have e3 := e3.symm
  subst e3
  obtain ⟨hm, e4⟩ := ifs_inv e0
  subst e4
  refine h1 _ _ _ _ e1 A env lay W0 ow s _ E R hE I fun x s1 k1 hd1 r1 => ?_
  obtain ⟨a, items, rfl, hpl, hw, r⟩ := r1.1.tup_of
  have hpl' := hpl
  obtain ⟨oo, ea, _, nn, hod⟩ := hpl'
  have hlt : a < s1.heap.objs.size := Heap.lt_size ea
  have hz := r.length
  rw [Array.length_toList] at hz
  refine wpAny_pyIter_tuple hpl ?_
  have k2 : AftK s1 { s1 with heap := s1.heap.push { cls := .type "tuple_iterator", data := .fields #[.ref a, .int 0 0] } } := AftK.push
  have W := Walks.tuple (prog := C.prog) (w := C.w) R.hd s1.heap.objs.size a (Nat.ne_of_lt hlt) items
  have K : KTurns C.prog C.w A (.Tuple elts kk tp) s1.heap.objs.size [s1.heap.objs.size, a] [s1.heap.objs.size] items.size (fun i v _ => items[i]? = some v) (fun i v h => items[i]? = some v ∧ h.IsTupleIter s1.heap.objs.size a (i + 1) ∧ h.IsTuple a items)
      (fun i h => h.IsTupleIter s1.heap.objs.size a i ∧ h.IsTuple a items) :=
    { sub := W.sub, frame := W.frame, done := W.done
      item := fun i s Q E hi st hQ => W.item i s Q E hi st fun v h' tk hP st' hk => hQ v h' tk ⟨hP, st'⟩ hk
      go := fun i v s Q E hm hQ => by
        obtain ⟨hv, hit⟩ := hm
        have hq := hQ s.heap hv hit fun _ _ _ e => e
        cases v with
        | ref T => exact go_tupiter c hit.1 hq
        | _ => exact wpAny_pure hq }
  refine hQ _ _ (k1.trans (k2.aft _)) (k2.drx hd1) (.mk _ _ _ _ _ _ K hz W.self ⟨⟨_, Heap.get?_push_size _ rfl, rfl, rfl⟩, hpl.push _⟩ (fun b hb => ?_) (fun i h st b hb => ?_) (fun b hb => ?_) hm fun i v h x W' hx hP T => ?_)
  · rw [List.mem_singleton.mp hb]; exact notHere k1 hd1 (get_size _)
  · rw [List.mem_singleton.mp hb]
    obtain ⟨o, e, _, hd⟩ := st.1
    exact ⟨o, e, fun ⟨_, _, q⟩ => by rw [hd] at q; cases q⟩
  · rcases List.mem_cons.mp hb with rfl | hb
    · exact ⟨⟨_, Heap.get?_push_size _ rfl⟩, .inl (notHere k1 hd1 (get_size _))⟩
    · rw [List.mem_singleton.mp hb]
      exact ⟨⟨_, Heap.get?_push_of_some _ ea⟩, src_fp (items := items) I.hi.dr k1 hd1 ⟨_, ea, _, _, hod⟩ hw⟩
  · obtain ⟨v', e', rv⟩ := r.get hx
    rw [Array.getElem?_toList, hP] at e'
    cases e'
    intro l hl; subst hl
    obtain ⟨a', items', rfl, ⟨o1, eo1, c1, n1, d1'⟩, hw', rr⟩ := rv.tup_of
    obtain ⟨t1, t2⟩ := T _ _ (Heap.get?_push_of_some _ eo1) ⟨_, _, d1'⟩ hw'
    exact ⟨_, _, rfl, ⟨o1, t1, c1, n1, d1'⟩, rr.mono fun b o e hs hw => T b o (Heap.get?_push_of_some _ e) hs hw⟩
end
end Mine
-- MU
namespace Mine
open PySem PySem.W PyProof.Rows

/-- the parts of the k-th statement of the text, a def -/
noncomputable def tB (k : Nat) : List Stmt := match PySem.Challenge.pw_pq0220_01.main.body[k]? with
  | some (.FunctionDef _ _ b _ _ _ _ _ _ _) => b
  | _ => []
noncomputable def tS (k : Nat) : Scope := match PySem.Challenge.pw_pq0220_01.main.body[k]? with
  | some (.FunctionDef _ _ _ _ _ _ s _ _ _) => s
  | _ => PySem.Challenge.pw_pq0220_01.main.scope
noncomputable def tA (k : Nat) : Arguments := match PySem.Challenge.pw_pq0220_01.main.body[k]? with
  | some (.FunctionDef _ a _ _ _ _ _ _ _ _) => a
  | _ => ⟨[], [], none, [], [], none, []⟩
theorem star_List (es : List Expr) (p : Pos) (rest : List Expr) (env : Env) : starEach (.List es p :: rest) env = (false, eval (.List es p) env) :: starEach rest env := rfl
theorem star_Tuple (es : List Expr) (k : Nat) (p : Pos) (rest : List Expr) (env : Env) : starEach (.Tuple es k p :: rest) env = (false, eval (.Tuple es k p) env) :: starEach rest env := rfl
theorem len_0 : EL.nil.len = 0 := rfl
theorem len_c {e : Mine.E} {r : EL} {k : Nat} (h : r.len = k) : (EL.cons e r).len = k + 1 := by show r.len + 1 = k + 1; rw [h]
theorem len_le {r : EL} {k : Nat} (h : r.len = k) (q : k ≤ LIM) : r.len ≤ LIM := h ▸ q
theorem len_1 {α : Type} {l : List α} (h : l.length = 1) : ∃ a, l = [a] := List.length_eq_one_iff.mp h
theorem len_2 {α : Type} {l : List α} (h : l.length = 2) : ∃ a b, l = [a, b] := by
  cases l with
  | nil => cases h
  | cons a t => obtain ⟨b, rfl⟩ := len_1 (Nat.succ.inj h); exact ⟨a, b, rfl⟩
theorem len_3 {α : Type} {l : List α} (h : l.length = 3) : ∃ a b c, l = [a, b, c] := by
  cases l with
  | nil => cases h
  | cons a t => obtain ⟨b, c, rfl⟩ := len_2 (Nat.succ.inj h); exact ⟨a, b, c, rfl⟩
theorem len_4 {α : Type} {l : List α} (h : l.length = 4) : ∃ a b c d, l = [a, b, c, d] := by
  cases l with
  | nil => cases h
  | cons a t => obtain ⟨b, c, d, rfl⟩ := len_3 (Nat.succ.inj h); exact ⟨a, b, c, d, rfl⟩
noncomputable def F_gcd : FnD := ⟨[(PySem.Str.ofString "a"), (PySem.Str.ofString "b")], tA 3, tB 3, tS 3, [(PySem.Str.ofString "a"), (PySem.Str.ofString "b")]⟩
theorem F_gcd_ok : F_gcd.OK where
  kind := by kernel_rfl
  co := by kernel_rfl
  gen := by kernel_rfl
  nd := by decide +kernel
  loc := by decide +kernel
  pre := ⟨_, rfl⟩
  bind := by
    intro name qual doc pm cdv ct an vals h
    obtain ⟨v0, v1, rfl⟩ := len_2 h
    kernel_rfl
noncomputable def b_gcd : SL := .cons (.asg2 [0, 1] (.cons (.abs (.var 0)) (.cons (.abs (.var 1)) (.nil)))) (.cons (.whil (.cmp .ne (.bvar 1) (.cint 0)) (.cons (.asg2 [0, 1] (.cons (.var 1) (.cons (.bin .mod (.var 0) (.var 1)) (.nil)))) (.cons (.share 1) (.nil)))) (.cons (.ret (.var 0)) (.nil)))
theorem s_gcd {C : Cx} {Γ : Env0} {n wf : Nat} (c : COK C) (g : GOK C n Γ) : SSL C Γ n wf F_gcd.scope.names F_gcd.xs (F_gcd.body) b_gcd :=
  ssl_cons (ss_asg2s c (names := [(PySem.Str.ofString "a"), (PySem.Str.ofString "b")]) (slf_cons c (se_abs c (by kernel_rfl) (se_var (by kernel_rfl) (by kernel_rfl)) (fun _ => rfl)) (slf_cons c (se_abs c (by kernel_rfl) (se_var (by kernel_rfl) (by kernel_rfl)) (fun _ => rfl)) (slf_nil c) (fun _ => rfl)) (fun _ => rfl)) ⟨(by kernel_rfl), (by decide +kernel), (by kernel_rfl), (by decide +kernel), trivial⟩ (by decide) rfl (by decide) (by rintro ⟨⟨k1, n1, g1, c1, m1⟩, l1, gl1, ce1, q1, f1, cd1, fr1, b1⟩ h1 h2; simp only at h1 h2; subst h1 h2; kernel_rfl)) (ssl_cons (ss_while c (st_cmp c rfl (sb_var (by kernel_rfl) (by kernel_rfl)) (SE.sb (se_int)) (by kernel_rfl)) (ssl_cons (ss_asg2s c (names := [(PySem.Str.ofString "a"), (PySem.Str.ofString "b")]) (slf_cons c (se_var (by kernel_rfl) (by kernel_rfl)) (slf_cons c (se_bin c rfl (se_var (by kernel_rfl) (by kernel_rfl)) (se_var (by kernel_rfl) (by kernel_rfl))) (slf_nil c) (fun _ => rfl)) (fun _ => rfl)) ⟨(by kernel_rfl), (by decide +kernel), (by kernel_rfl), (by decide +kernel), trivial⟩ (by decide) rfl (by decide) (by rintro ⟨⟨k1, n1, g1, c1, m1⟩, l1, gl1, ce1, q1, f1, cd1, fr1, b1⟩ h1 h2; simp only at h1 h2; subst h1 h2; kernel_rfl)) (ssl_share (ssl_nil)))) (ssl_cons (ss_ret c (se_var (by kernel_rfl) (by kernel_rfl))) (ssl_nil)))

noncomputable def F_gcd_all : FnD := ⟨[(PySem.Str.ofString "numbers")], tA 4, tB 4, tS 4, [(PySem.Str.ofString "numbers"), (PySem.Str.ofString "found"), (PySem.Str.ofString "number")]⟩
theorem F_gcd_all_ok : F_gcd_all.OK where
  kind := by kernel_rfl
  co := by kernel_rfl
  gen := by kernel_rfl
  nd := by decide +kernel
  loc := by decide +kernel
  pre := ⟨_, rfl⟩
  bind := by
    intro name qual doc pm cdv ct an vals h
    obtain ⟨v0, rfl⟩ := len_1 h
    kernel_rfl
noncomputable def b_gcd_all : SL := .cons (.asg 1 (.cint 0)) (.cons (.for [2] false (.seq (.var 0)) (.cons (.asg 1 (.call 0 (.cons (.var 1) (.cons (.var 2) (.nil))))) (.nil))) (.cons (.ret (.var 1)) (.nil)))
theorem s_gcd_all {C : Cx} {Γ : Env0} {n wf : Nat} (c : COK C) (g : GOK C n Γ) : SSL C Γ n wf F_gcd_all.scope.names F_gcd_all.xs (F_gcd_all.body) b_gcd_all :=
  ssl_cons (ss_asg c (se_int) (by kernel_rfl) (by decide +kernel) (fun _ _ _ => rfl)) (ssl_cons (ss_for c (names := [(PySem.Str.ofString "number")]) (si_seq c (se_var (by kernel_rfl) (by kernel_rfl)) (fun _ _ => rfl)) (ssl_cons (ss_asg c (se_call c (f := 0) g (by kernel_rfl) (by kernel_rfl) (by kernel_rfl) (sl_cons c (se_var (by kernel_rfl) (by kernel_rfl)) (sl_cons c (se_var (by kernel_rfl) (by kernel_rfl)) (sl_nil) (fun _ => rfl)) (fun _ => rfl)) (fun _ => rfl)) (by kernel_rfl) (by decide +kernel) (fun _ _ _ => rfl)) (ssl_nil)) ⟨(by kernel_rfl), (by decide +kernel), trivial⟩ ⟨_, _, rfl, rfl⟩ (fun _ _ => rfl)) (ssl_cons (ss_ret c (se_var (by kernel_rfl) (by kernel_rfl))) (ssl_nil)))

noncomputable def F_ztrim : FnD := ⟨[(PySem.Str.ofString "row")], tA 6, tB 6, tS 6, [(PySem.Str.ofString "row"), (PySem.Str.ofString "size")]⟩
theorem F_ztrim_ok : F_ztrim.OK where
  kind := by kernel_rfl
  co := by kernel_rfl
  gen := by kernel_rfl
  nd := by decide +kernel
  loc := by decide +kernel
  pre := ⟨_, rfl⟩
  bind := by
    intro name qual doc pm cdv ct an vals h
    obtain ⟨v0, rfl⟩ := len_1 h
    kernel_rfl
noncomputable def b_ztrim : SL := .cons (.asg 1 (.len (.bvar 0))) (.cons (.whil (.bop true (.cmp .gt (.bvar 1) (.cint 0)) (.cmp .eq (.idx (.bvar 0) (.bin .sub (.var 1) (.cint 1))) (.cint 0))) (.cons (.aug 1 .sub (.cint 1)) (.nil))) (.cons (.ret (.copy (.upto (.var 0) (.var 1)))) (.nil)))
theorem s_ztrim {C : Cx} {Γ : Env0} {n wf : Nat} (c : COK C) (g : GOK C n Γ) : SSL C Γ n wf F_ztrim.scope.names F_ztrim.xs (F_ztrim.body) b_ztrim :=
  ssl_cons (ss_asg c (se_len c (by kernel_rfl) (sb_var (by kernel_rfl) (by kernel_rfl)) (fun _ => rfl)) (by kernel_rfl) (by decide +kernel) (fun _ _ _ => rfl)) (ssl_cons (ss_while c (st_and c (st_cmp c rfl (sb_var (by kernel_rfl) (by kernel_rfl)) (SE.sb (se_int)) (by kernel_rfl)) (st_and1 c (st_cmp c rfl (SE.sb (se_idx c (sb_var (by kernel_rfl) (by kernel_rfl)) (se_bin c rfl (se_var (by kernel_rfl) (by kernel_rfl)) (se_int)) (fun _ _ _ => rfl))) (SE.sb (se_int)) (by kernel_rfl)))) (ssl_cons (ss_aug c rfl (se_int) (by kernel_rfl) (by decide +kernel) (by kernel_rfl)) (ssl_nil))) (ssl_cons (ss_ret c (se_copy c (by kernel_rfl) (se_upto c (se_var (by kernel_rfl) (by kernel_rfl)) (se_var (by kernel_rfl) (by kernel_rfl))) (fun _ => rfl))) (ssl_nil)))

noncomputable def F_zdegree : FnD := ⟨[(PySem.Str.ofString "p")], tA 7, tB 7, tS 7, [(PySem.Str.ofString "p")]⟩
theorem F_zdegree_ok : F_zdegree.OK where
  kind := by kernel_rfl
  co := by kernel_rfl
  gen := by kernel_rfl
  nd := by decide +kernel
  loc := by decide +kernel
  pre := ⟨_, rfl⟩
  bind := by
    intro name qual doc pm cdv ct an vals h
    obtain ⟨v0, rfl⟩ := len_1 h
    kernel_rfl
noncomputable def b_zdegree : SL := .cons (.ret (.bin .sub (.len (.bvar 0)) (.cint 1))) (.nil)
theorem s_zdegree {C : Cx} {Γ : Env0} {n wf : Nat} (c : COK C) (g : GOK C n Γ) : SSL C Γ n wf F_zdegree.scope.names F_zdegree.xs (F_zdegree.body) b_zdegree :=
  ssl_cons (ss_ret c (se_bin c rfl (se_len c (by kernel_rfl) (sb_var (by kernel_rfl) (by kernel_rfl)) (fun _ => rfl)) (se_int))) (ssl_nil)

noncomputable def F_zlead : FnD := ⟨[(PySem.Str.ofString "p")], tA 8, tB 8, tS 8, [(PySem.Str.ofString "p")]⟩
theorem F_zlead_ok : F_zlead.OK where
  kind := by kernel_rfl
  co := by kernel_rfl
  gen := by kernel_rfl
  nd := by decide +kernel
  loc := by decide +kernel
  pre := ⟨_, rfl⟩
  bind := by
    intro name qual doc pm cdv ct an vals h
    obtain ⟨v0, rfl⟩ := len_1 h
    kernel_rfl
noncomputable def b_zlead : SL := .cons (.ret (.ite (.cmp .gt (.len (.bvar 0)) (.cint 0)) (.idx (.bvar 0) (.neg (.cint 1))) (.cint 0))) (.nil)
theorem s_zlead {C : Cx} {Γ : Env0} {n wf : Nat} (c : COK C) (g : GOK C n Γ) : SSL C Γ n wf F_zlead.scope.names F_zlead.xs (F_zlead.body) b_zlead :=
  ssl_cons (ss_ret c (se_ite c (st_cmp c rfl (SE.sb (se_len c (by kernel_rfl) (sb_var (by kernel_rfl) (by kernel_rfl)) (fun _ => rfl))) (SE.sb (se_int)) (by kernel_rfl)) (se_idx c (sb_var (by kernel_rfl) (by kernel_rfl)) (se_neg c (se_int)) (fun _ _ _ => rfl)) (se_int))) (ssl_nil)

noncomputable def F_zadd : FnD := ⟨[(PySem.Str.ofString "a"), (PySem.Str.ofString "b")], tA 9, tB 9, tS 9, [(PySem.Str.ofString "a"), (PySem.Str.ofString "b"), (PySem.Str.ofString "size")]⟩
theorem F_zadd_ok : F_zadd.OK where
  kind := by kernel_rfl
  co := by kernel_rfl
  gen := by kernel_rfl
  nd := by decide +kernel
  loc := by decide +kernel
  pre := ⟨_, rfl⟩
  bind := by
    intro name qual doc pm cdv ct an vals h
    obtain ⟨v0, v1, rfl⟩ := len_2 h
    kernel_rfl
noncomputable def b_zadd : SL := .cons (.asg 2 (.max2 (.len (.bvar 0)) (.len (.bvar 1)))) (.cons (.ret (.call 2 (.cons (.comp (.rng1 (.var 2)) 0 (.cbool true) (.bin .add (.ite (.cmp .lt (.bvar 3) (.len (.bvar 0))) (.idx (.bvar 0) (.var 3)) (.cint 0)) (.ite (.cmp .lt (.bvar 3) (.len (.bvar 1))) (.idx (.bvar 1) (.var 3)) (.cint 0)))) (.nil)))) (.nil))
theorem s_zadd {C : Cx} {Γ : Env0} {n wf : Nat} (c : COK C) (g : GOK C n Γ) : SSL C Γ n wf F_zadd.scope.names F_zadd.xs (F_zadd.body) b_zadd :=
  ssl_cons (ss_asg c (se_max2 c (by kernel_rfl) (se_len c (by kernel_rfl) (sb_var (by kernel_rfl) (by kernel_rfl)) (fun _ => rfl)) (se_len c (by kernel_rfl) (sb_var (by kernel_rfl) (by kernel_rfl)) (fun _ => rfl)) (fun _ => rfl) (fun _ => rfl)) (by kernel_rfl) (by decide +kernel) (fun _ _ _ => rfl)) (ssl_cons (ss_ret c (se_call c (f := 2) g (by kernel_rfl) (by kernel_rfl) (by kernel_rfl) (sl_cons c (se_comp c (ts := [(PySem.Str.ofString "at")]) (si_rng1 c (by kernel_rfl) (se_var (by kernel_rfl) (by kernel_rfl)) (fun _ => rfl) (fun _ _ => rfl)) (by decide +kernel) rfl rfl ⟨(by kernel_rfl), (by decide +kernel), trivial⟩ ⟨_, _, rfl, rfl⟩ (.inl ⟨rfl, rfl⟩) (se_bin c rfl (se_ite c (st_cmp c rfl (sb_var (by kernel_rfl) (by kernel_rfl)) (SE.sb (se_len c (by kernel_rfl) (sb_var (by kernel_rfl) (by kernel_rfl)) (fun _ => rfl))) (by kernel_rfl)) (se_idx c (sb_var (by kernel_rfl) (by kernel_rfl)) (se_var (by kernel_rfl) (by kernel_rfl)) (fun _ _ _ => rfl)) (se_int)) (se_ite c (st_cmp c rfl (sb_var (by kernel_rfl) (by kernel_rfl)) (SE.sb (se_len c (by kernel_rfl) (sb_var (by kernel_rfl) (by kernel_rfl)) (fun _ => rfl))) (by kernel_rfl)) (se_idx c (sb_var (by kernel_rfl) (by kernel_rfl)) (se_var (by kernel_rfl) (by kernel_rfl)) (fun _ _ _ => rfl)) (se_int))) (fun _ _ => rfl)) (sl_nil) (fun _ => rfl)) (fun _ => rfl))) (ssl_nil))

noncomputable def F_zneg : FnD := ⟨[(PySem.Str.ofString "p")], tA 10, tB 10, tS 10, [(PySem.Str.ofString "p")]⟩
theorem F_zneg_ok : F_zneg.OK where
  kind := by kernel_rfl
  co := by kernel_rfl
  gen := by kernel_rfl
  nd := by decide +kernel
  loc := by decide +kernel
  pre := ⟨_, rfl⟩
  bind := by
    intro name qual doc pm cdv ct an vals h
    obtain ⟨v0, rfl⟩ := len_1 h
    kernel_rfl
noncomputable def b_zneg : SL := .cons (.ret (.comp (.seq (.var 0)) 0 (.cbool true) (.neg (.var 1)))) (.nil)
theorem s_zneg {C : Cx} {Γ : Env0} {n wf : Nat} (c : COK C) (g : GOK C n Γ) : SSL C Γ n wf F_zneg.scope.names F_zneg.xs (F_zneg.body) b_zneg :=
  ssl_cons (ss_ret c (se_comp c (ts := [(PySem.Str.ofString "number")]) (si_seq c (se_var (by kernel_rfl) (by kernel_rfl)) (fun _ _ => rfl)) (by decide +kernel) rfl rfl ⟨(by kernel_rfl), (by decide +kernel), trivial⟩ ⟨_, _, rfl, rfl⟩ (.inl ⟨rfl, rfl⟩) (se_neg c (se_var (by kernel_rfl) (by kernel_rfl))) (fun _ _ => rfl))) (ssl_nil)

noncomputable def F_zsub : FnD := ⟨[(PySem.Str.ofString "a"), (PySem.Str.ofString "b")], tA 11, tB 11, tS 11, [(PySem.Str.ofString "a"), (PySem.Str.ofString "b")]⟩
theorem F_zsub_ok : F_zsub.OK where
  kind := by kernel_rfl
  co := by kernel_rfl
  gen := by kernel_rfl
  nd := by decide +kernel
  loc := by decide +kernel
  pre := ⟨_, rfl⟩
  bind := by
    intro name qual doc pm cdv ct an vals h
    obtain ⟨v0, v1, rfl⟩ := len_2 h
    kernel_rfl
noncomputable def b_zsub : SL := .cons (.ret (.call 5 (.cons (.var 0) (.cons (.call 6 (.cons (.var 1) (.nil))) (.nil))))) (.nil)
theorem s_zsub {C : Cx} {Γ : Env0} {n wf : Nat} (c : COK C) (g : GOK C n Γ) : SSL C Γ n wf F_zsub.scope.names F_zsub.xs (F_zsub.body) b_zsub :=
  ssl_cons (ss_ret c (se_call c (f := 5) g (by kernel_rfl) (by kernel_rfl) (by kernel_rfl) (sl_cons c (se_var (by kernel_rfl) (by kernel_rfl)) (sl_cons c (se_call c (f := 6) g (by kernel_rfl) (by kernel_rfl) (by kernel_rfl) (sl_cons c (se_var (by kernel_rfl) (by kernel_rfl)) (sl_nil) (fun _ => rfl)) (fun _ => rfl)) (sl_nil) (fun _ => rfl)) (fun _ => rfl)) (fun _ => rfl))) (ssl_nil)

noncomputable def F_zscale : FnD := ⟨[(PySem.Str.ofString "p"), (PySem.Str.ofString "k")], tA 12, tB 12, tS 12, [(PySem.Str.ofString "p"), (PySem.Str.ofString "k")]⟩
theorem F_zscale_ok : F_zscale.OK where
  kind := by kernel_rfl
  co := by kernel_rfl
  gen := by kernel_rfl
  nd := by decide +kernel
  loc := by decide +kernel
  pre := ⟨_, rfl⟩
  bind := by
    intro name qual doc pm cdv ct an vals h
    obtain ⟨v0, v1, rfl⟩ := len_2 h
    kernel_rfl
noncomputable def b_zscale : SL := .cons (.ret (.ite (.cmp .ne (.bvar 1) (.cint 0)) (.comp (.seq (.var 0)) 0 (.cbool true) (.bin .mul (.var 2) (.var 1))) (.lst (.nil)))) (.nil)
theorem s_zscale {C : Cx} {Γ : Env0} {n wf : Nat} (c : COK C) (g : GOK C n Γ) : SSL C Γ n wf F_zscale.scope.names F_zscale.xs (F_zscale.body) b_zscale :=
  ssl_cons (ss_ret c (se_ite c (st_cmp c rfl (sb_var (by kernel_rfl) (by kernel_rfl)) (SE.sb (se_int)) (by kernel_rfl)) (se_comp c (ts := [(PySem.Str.ofString "number")]) (si_seq c (se_var (by kernel_rfl) (by kernel_rfl)) (fun _ _ => rfl)) (by decide +kernel) rfl rfl ⟨(by kernel_rfl), (by decide +kernel), trivial⟩ ⟨_, _, rfl, rfl⟩ (.inl ⟨rfl, rfl⟩) (se_bin c rfl (se_var (by kernel_rfl) (by kernel_rfl)) (se_var (by kernel_rfl) (by kernel_rfl))) (fun _ _ => rfl)) (se_list c (sl_nil) (len_le len_0 (by decide))))) (ssl_nil)

noncomputable def F_zraise : FnD := ⟨[(PySem.Str.ofString "p"), (PySem.Str.ofString "many")], tA 13, tB 13, tS 13, [(PySem.Str.ofString "p"), (PySem.Str.ofString "many")]⟩
theorem F_zraise_ok : F_zraise.OK where
  kind := by kernel_rfl
  co := by kernel_rfl
  gen := by kernel_rfl
  nd := by decide +kernel
  loc := by decide +kernel
  pre := ⟨_, rfl⟩
  bind := by
    intro name qual doc pm cdv ct an vals h
    obtain ⟨v0, v1, rfl⟩ := len_2 h
    kernel_rfl
noncomputable def b_zraise : SL := .cons (.ret (.ite (.cmp .gt (.len (.bvar 0)) (.cint 0)) (.bin .add (.bin .mul (.lst (.cons (.cint 0) (.nil))) (.var 1)) (.copy (.var 0))) (.lst (.nil)))) (.nil)
theorem s_zraise {C : Cx} {Γ : Env0} {n wf : Nat} (c : COK C) (g : GOK C n Γ) : SSL C Γ n wf F_zraise.scope.names F_zraise.xs (F_zraise.body) b_zraise :=
  ssl_cons (ss_ret c (se_ite c (st_cmp c rfl (SE.sb (se_len c (by kernel_rfl) (sb_var (by kernel_rfl) (by kernel_rfl)) (fun _ => rfl))) (SE.sb (se_int)) (by kernel_rfl)) (se_bin c rfl (se_bin c rfl (se_list c (sl_cons c (se_int) (sl_nil) (fun _ => rfl)) (len_le (len_c len_0) (by decide))) (se_var (by kernel_rfl) (by kernel_rfl))) (se_copy c (by kernel_rfl) (se_var (by kernel_rfl) (by kernel_rfl)) (fun _ => rfl))) (se_list c (sl_nil) (len_le len_0 (by decide))))) (ssl_nil)

noncomputable def F_zcontent : FnD := ⟨[(PySem.Str.ofString "p")], tA 14, tB 14, tS 14, [(PySem.Str.ofString "p")]⟩
theorem F_zcontent_ok : F_zcontent.OK where
  kind := by kernel_rfl
  co := by kernel_rfl
  gen := by kernel_rfl
  nd := by decide +kernel
  loc := by decide +kernel
  pre := ⟨_, rfl⟩
  bind := by
    intro name qual doc pm cdv ct an vals h
    obtain ⟨v0, rfl⟩ := len_1 h
    kernel_rfl
noncomputable def b_zcontent : SL := .cons (.ret (.call 1 (.cons (.var 0) (.nil)))) (.nil)
theorem s_zcontent {C : Cx} {Γ : Env0} {n wf : Nat} (c : COK C) (g : GOK C n Γ) : SSL C Γ n wf F_zcontent.scope.names F_zcontent.xs (F_zcontent.body) b_zcontent :=
  ssl_cons (ss_ret c (se_call c (f := 1) g (by kernel_rfl) (by kernel_rfl) (by kernel_rfl) (sl_cons c (se_var (by kernel_rfl) (by kernel_rfl)) (sl_nil) (fun _ => rfl)) (fun _ => rfl))) (ssl_nil)

noncomputable def F_zdivided : FnD := ⟨[(PySem.Str.ofString "p"), (PySem.Str.ofString "k")], tA 15, tB 15, tS 15, [(PySem.Str.ofString "p"), (PySem.Str.ofString "k")]⟩
theorem F_zdivided_ok : F_zdivided.OK where
  kind := by kernel_rfl
  co := by kernel_rfl
  gen := by kernel_rfl
  nd := by decide +kernel
  loc := by decide +kernel
  pre := ⟨_, rfl⟩
  bind := by
    intro name qual doc pm cdv ct an vals h
    obtain ⟨v0, v1, rfl⟩ := len_2 h
    kernel_rfl
noncomputable def b_zdivided : SL := .cons (.ret (.comp (.seq (.var 0)) 0 (.cbool true) (.bin .div (.var 2) (.var 1)))) (.nil)
theorem s_zdivided {C : Cx} {Γ : Env0} {n wf : Nat} (c : COK C) (g : GOK C n Γ) : SSL C Γ n wf F_zdivided.scope.names F_zdivided.xs (F_zdivided.body) b_zdivided :=
  ssl_cons (ss_ret c (se_comp c (ts := [(PySem.Str.ofString "number")]) (si_seq c (se_var (by kernel_rfl) (by kernel_rfl)) (fun _ _ => rfl)) (by decide +kernel) rfl rfl ⟨(by kernel_rfl), (by decide +kernel), trivial⟩ ⟨_, _, rfl, rfl⟩ (.inl ⟨rfl, rfl⟩) (se_bin c rfl (se_var (by kernel_rfl) (by kernel_rfl)) (se_var (by kernel_rfl) (by kernel_rfl))) (fun _ _ => rfl))) (ssl_nil)

noncomputable def F_zprimitive : FnD := ⟨[(PySem.Str.ofString "p")], tA 16, tB 16, tS 16, [(PySem.Str.ofString "p"), (PySem.Str.ofString "content")]⟩
theorem F_zprimitive_ok : F_zprimitive.OK where
  kind := by kernel_rfl
  co := by kernel_rfl
  gen := by kernel_rfl
  nd := by decide +kernel
  loc := by decide +kernel
  pre := ⟨_, rfl⟩
  bind := by
    intro name qual doc pm cdv ct an vals h
    obtain ⟨v0, rfl⟩ := len_1 h
    kernel_rfl
noncomputable def b_zprimitive : SL := .cons (.ite (.cmp .eq (.len (.bvar 0)) (.cint 0)) (.cons (.ret (.lst (.nil))) (.nil)) (.nil)) (.cons (.asg 1 (.call 10 (.cons (.var 0) (.nil)))) (.cons (.ret (.call 11 (.cons (.var 0) (.cons (.ite (.cmp .gt (.idx (.bvar 0) (.neg (.cint 1))) (.cint 0)) (.var 1) (.neg (.var 1))) (.nil))))) (.nil)))
theorem s_zprimitive {C : Cx} {Γ : Env0} {n wf : Nat} (c : COK C) (g : GOK C n Γ) : SSL C Γ n wf F_zprimitive.scope.names F_zprimitive.xs (F_zprimitive.body) b_zprimitive :=
  ssl_cons (ss_ite c (st_cmp c rfl (SE.sb (se_len c (by kernel_rfl) (sb_var (by kernel_rfl) (by kernel_rfl)) (fun _ => rfl))) (SE.sb (se_int)) (by kernel_rfl)) (ssl_cons (ss_ret c (se_list c (sl_nil) (len_le len_0 (by decide)))) (ssl_nil)) (ssl_nil)) (ssl_cons (ss_asg c (se_call c (f := 10) g (by kernel_rfl) (by kernel_rfl) (by kernel_rfl) (sl_cons c (se_var (by kernel_rfl) (by kernel_rfl)) (sl_nil) (fun _ => rfl)) (fun _ => rfl)) (by kernel_rfl) (by decide +kernel) (fun _ _ _ => rfl)) (ssl_cons (ss_ret c (se_call c (f := 11) g (by kernel_rfl) (by kernel_rfl) (by kernel_rfl) (sl_cons c (se_var (by kernel_rfl) (by kernel_rfl)) (sl_cons c (se_ite c (st_cmp c rfl (SE.sb (se_idx c (sb_var (by kernel_rfl) (by kernel_rfl)) (se_neg c (se_int)) (fun _ _ _ => rfl))) (SE.sb (se_int)) (by kernel_rfl)) (se_var (by kernel_rfl) (by kernel_rfl)) (se_neg c (se_var (by kernel_rfl) (by kernel_rfl)))) (sl_nil) (fun _ => rfl)) (fun _ => rfl)) (fun _ => rfl))) (ssl_nil)))

noncomputable def F_zshift : FnD := ⟨[(PySem.Str.ofString "p"), (PySem.Str.ofString "n")], tA 17, tB 17, tS 17, [(PySem.Str.ofString "p"), (PySem.Str.ofString "n"), (PySem.Str.ofString "found"), (PySem.Str.ofString "low"), (PySem.Str.ofString "at")]⟩
theorem F_zshift_ok : F_zshift.OK where
  kind := by kernel_rfl
  co := by kernel_rfl
  gen := by kernel_rfl
  nd := by decide +kernel
  loc := by decide +kernel
  pre := ⟨_, rfl⟩
  bind := by
    intro name qual doc pm cdv ct an vals h
    obtain ⟨v0, v1, rfl⟩ := len_2 h
    kernel_rfl
noncomputable def b_zshift : SL := .cons (.asg 2 (.copy (.var 0))) (.cons (.for [3] false (.rng1 (.bin .sub (.len (.bvar 0)) (.cint 1))) (.cons (.for [4] false (.rng3 (.bin .sub (.len (.bvar 0)) (.cint 2)) (.bin .sub (.var 3) (.cint 1))) (.cons (.augI 2 (.var 4) .add (.bin .mul (.var 1) (.idx (.bvar 2) (.bin .add (.var 4) (.cint 1))))) (.nil))) (.nil))) (.cons (.share 2) (.cons (.ret (.var 2)) (.nil))))
theorem s_zshift {C : Cx} {Γ : Env0} {n wf : Nat} (c : COK C) (g : GOK C n Γ) : SSL C Γ n wf F_zshift.scope.names F_zshift.xs (F_zshift.body) b_zshift :=
  ssl_cons (ss_asg c (se_copy c (by kernel_rfl) (se_var (by kernel_rfl) (by kernel_rfl)) (fun _ => rfl)) (by kernel_rfl) (by decide +kernel) (fun _ _ _ => rfl)) (ssl_cons (ss_for c (names := [(PySem.Str.ofString "low")]) (si_rng1 c (by kernel_rfl) (se_bin c rfl (se_len c (by kernel_rfl) (sb_var (by kernel_rfl) (by kernel_rfl)) (fun _ => rfl)) (se_int)) (fun _ => rfl) (fun _ _ => rfl)) (ssl_cons (ss_for c (names := [(PySem.Str.ofString "at")]) (si_rng3 c (by kernel_rfl) (se_bin c rfl (se_len c (by kernel_rfl) (sb_var (by kernel_rfl) (by kernel_rfl)) (fun _ => rfl)) (se_int)) (se_bin c rfl (se_var (by kernel_rfl) (by kernel_rfl)) (se_int)) (fun _ _ => rfl) (fun _ _ => rfl) (fun _ _ => rfl)) (ssl_cons (ss_augI c rfl (se_bin c rfl (se_var (by kernel_rfl) (by kernel_rfl)) (se_idx c (sb_var (by kernel_rfl) (by kernel_rfl)) (se_bin c rfl (se_var (by kernel_rfl) (by kernel_rfl)) (se_int)) (fun _ _ _ => rfl))) (se_var (by kernel_rfl) (by kernel_rfl)) (by kernel_rfl) (by kernel_rfl) (fun _ _ _ => rfl)) (ssl_nil)) ⟨(by kernel_rfl), (by decide +kernel), trivial⟩ ⟨_, _, rfl, rfl⟩ (fun _ _ => rfl)) (ssl_nil)) ⟨(by kernel_rfl), (by decide +kernel), trivial⟩ ⟨_, _, rfl, rfl⟩ (fun _ _ => rfl)) (ssl_share (ssl_cons (ss_ret c (se_var (by kernel_rfl) (by kernel_rfl))) (ssl_nil))))

noncomputable def F_check_bottom : FnD := ⟨[(PySem.Str.ofString "p")], tA 19, tB 19, tS 19, [(PySem.Str.ofString "p")]⟩
theorem F_check_bottom_ok : F_check_bottom.OK where
  kind := by kernel_rfl
  co := by kernel_rfl
  gen := by kernel_rfl
  nd := by decide +kernel
  loc := by decide +kernel
  pre := ⟨_, rfl⟩
  bind := by
    intro name qual doc pm cdv ct an vals h
    obtain ⟨v0, rfl⟩ := len_1 h
    kernel_rfl
noncomputable def b_check_bottom : SL := .cons (.ite (.cmp .eq (.len (.bvar 0)) (.cint 0)) (.cons (.fail) (.nil)) (.nil)) (.nil)
theorem s_check_bottom {C : Cx} {Γ : Env0} {n wf : Nat} (c : COK C) (g : GOK C n Γ) : SSL C Γ n wf F_check_bottom.scope.names F_check_bottom.xs (F_check_bottom.body) b_check_bottom :=
  ssl_cons (ss_ite c (st_cmp c rfl (SE.sb (se_len c (by kernel_rfl) (sb_var (by kernel_rfl) (by kernel_rfl)) (fun _ => rfl))) (SE.sb (se_int)) (by kernel_rfl)) (ssl_cons (ss_fail) (ssl_nil)) (ssl_nil)) (ssl_nil)

noncomputable def F_pseudo : FnD := ⟨[(PySem.Str.ofString "a"), (PySem.Str.ofString "b")], tA 20, tB 20, tS 20, [(PySem.Str.ofString "a"), (PySem.Str.ofString "b"), (PySem.Str.ofString "many"), (PySem.Str.ofString "rest"), (PySem.Str.ofString "found"), (PySem.Str.ofString "left"), (PySem.Str.ofString "first"), (PySem.Str.ofString "number"), (PySem.Str.ofString "power"), (PySem.Str.ofString "more")]⟩
theorem F_pseudo_ok : F_pseudo.OK where
  kind := by kernel_rfl
  co := by kernel_rfl
  gen := by kernel_rfl
  nd := by decide +kernel
  loc := by decide +kernel
  pre := ⟨_, rfl⟩
  bind := by
    intro name qual doc pm cdv ct an vals h
    obtain ⟨v0, v1, rfl⟩ := len_2 h
    kernel_rfl
noncomputable def b_pseudo : SL := .cons (.expr (.call 14 (.cons (.var 1) (.nil)))) (.cons (.asg 2 (.max2 (.cint 0) (.bin .add (.bin .sub (.len (.bvar 0)) (.len (.bvar 1))) (.cint 1)))) (.cons (.asg2 [3, 4, 5, 6] (.cons (.copy (.var 0)) (.cons (.lst (.nil)) (.cons (.var 2) (.cons (.call 4 (.cons (.var 1) (.nil))) (.nil)))))) (.cons (.share 3) (.cons (.share 4) (.cons (.whil (.cmp .ge (.len (.bvar 3)) (.len (.bvar 1))) (.cons (.asg2 [7, 8] (.cons (.idx (.bvar 3) (.neg (.cint 1))) (.cons (.bin .sub (.len (.bvar 3)) (.len (.bvar 1))) (.nil)))) (.cons (.share 8) (.cons (.asg 4 (.call 7 (.cons (.call 8 (.cons (.var 4) (.cons (.var 6) (.nil)))) (.cons (.call 9 (.cons (.lst (.cons (.neg (.var 7)) (.nil))) (.cons (.var 8) (.nil)))) (.nil))))) (.cons (.asg 3 (.call 7 (.cons (.call 8 (.cons (.var 3) (.cons (.var 6) (.nil)))) (.cons (.call 9 (.cons (.call 8 (.cons (.var 1) (.cons (.var 7) (.nil)))) (.cons (.var 8) (.nil)))) (.nil))))) (.cons (.aug 5 .sub (.cint 1)) (.nil))))))) (.cons (.asg 9 (.bin .pow (.var 6) (.var 5))) (.cons (.share 9) (.cons (.ret (.tup (.cons (.call 8 (.cons (.var 4) (.cons (.var 9) (.nil)))) (.cons (.call 8 (.cons (.var 3) (.cons (.var 9) (.nil)))) (.cons (.var 2) (.nil)))))) (.nil)))))))))
theorem s_pseudo {C : Cx} {Γ : Env0} {n wf : Nat} (c : COK C) (g : GOK C n Γ) : SSL C Γ n wf F_pseudo.scope.names F_pseudo.xs (F_pseudo.body) b_pseudo :=
  ssl_cons (ss_expr c (se_call c (f := 14) g (by kernel_rfl) (by kernel_rfl) (by kernel_rfl) (sl_cons c (se_var (by kernel_rfl) (by kernel_rfl)) (sl_nil) (fun _ => rfl)) (fun _ => rfl))) (ssl_cons (ss_asg c (se_max2 c (by kernel_rfl) (se_int) (se_bin c rfl (se_bin c rfl (se_len c (by kernel_rfl) (sb_var (by kernel_rfl) (by kernel_rfl)) (fun _ => rfl)) (se_len c (by kernel_rfl) (sb_var (by kernel_rfl) (by kernel_rfl)) (fun _ => rfl))) (se_int)) (fun _ => rfl) (fun _ => rfl)) (by kernel_rfl) (by decide +kernel) (fun _ _ _ => rfl)) (ssl_cons (ss_asg2 c (names := [(PySem.Str.ofString "rest"), (PySem.Str.ofString "found"), (PySem.Str.ofString "left"), (PySem.Str.ofString "first")]) (slf_cons c (se_copy c (by kernel_rfl) (se_var (by kernel_rfl) (by kernel_rfl)) (fun _ => rfl)) (slf_cons c (se_list c (sl_nil) (len_le len_0 (by decide))) (slf_cons c (se_var (by kernel_rfl) (by kernel_rfl)) (slf_cons c (se_call c (f := 4) g (by kernel_rfl) (by kernel_rfl) (by kernel_rfl) (sl_cons c (se_var (by kernel_rfl) (by kernel_rfl)) (sl_nil) (fun _ => rfl)) (fun _ => rfl)) (slf_nil c) (fun _ => rfl)) (fun _ => rfl)) (fun _ => star_List ..)) (fun _ => rfl)) ⟨(by kernel_rfl), (by decide +kernel), (by kernel_rfl), (by decide +kernel), (by kernel_rfl), (by decide +kernel), (by kernel_rfl), (by decide +kernel), trivial⟩ rfl (by decide) (.cons _ _ (.cons _ _ (.cons _ _ (.cons _ _ .nil)))) (by rintro ⟨⟨k1, n1, g1, c1, m1⟩, l1, gl1, ce1, q1, f1, cd1, fr1, b1⟩ h1 h2; simp only at h1 h2; subst h1 h2; kernel_rfl)) (ssl_share (ssl_share (ssl_cons (ss_while c (st_cmp c rfl (SE.sb (se_len c (by kernel_rfl) (sb_var (by kernel_rfl) (by kernel_rfl)) (fun _ => rfl))) (SE.sb (se_len c (by kernel_rfl) (sb_var (by kernel_rfl) (by kernel_rfl)) (fun _ => rfl))) (by kernel_rfl)) (ssl_cons (ss_asg2s c (names := [(PySem.Str.ofString "number"), (PySem.Str.ofString "power")]) (slf_cons c (se_idx c (sb_var (by kernel_rfl) (by kernel_rfl)) (se_neg c (se_int)) (fun _ _ _ => rfl)) (slf_cons c (se_bin c rfl (se_len c (by kernel_rfl) (sb_var (by kernel_rfl) (by kernel_rfl)) (fun _ => rfl)) (se_len c (by kernel_rfl) (sb_var (by kernel_rfl) (by kernel_rfl)) (fun _ => rfl))) (slf_nil c) (fun _ => rfl)) (fun _ => rfl)) ⟨(by kernel_rfl), (by decide +kernel), (by kernel_rfl), (by decide +kernel), trivial⟩ (by decide) rfl (by decide) (by rintro ⟨⟨k1, n1, g1, c1, m1⟩, l1, gl1, ce1, q1, f1, cd1, fr1, b1⟩ h1 h2; simp only at h1 h2; subst h1 h2; kernel_rfl)) (ssl_share (ssl_cons (ss_asg c (se_call c (f := 7) g (by kernel_rfl) (by kernel_rfl) (by kernel_rfl) (sl_cons c (se_call c (f := 8) g (by kernel_rfl) (by kernel_rfl) (by kernel_rfl) (sl_cons c (se_var (by kernel_rfl) (by kernel_rfl)) (sl_cons c (se_var (by kernel_rfl) (by kernel_rfl)) (sl_nil) (fun _ => rfl)) (fun _ => rfl)) (fun _ => rfl)) (sl_cons c (se_call c (f := 9) g (by kernel_rfl) (by kernel_rfl) (by kernel_rfl) (sl_cons c (se_list c (sl_cons c (se_neg c (se_var (by kernel_rfl) (by kernel_rfl))) (sl_nil) (fun _ => rfl)) (len_le (len_c len_0) (by decide))) (sl_cons c (se_var (by kernel_rfl) (by kernel_rfl)) (sl_nil) (fun _ => rfl)) (fun _ => star_List ..)) (fun _ => rfl)) (sl_nil) (fun _ => rfl)) (fun _ => rfl)) (fun _ => rfl)) (by kernel_rfl) (by decide +kernel) (fun _ _ _ => rfl)) (ssl_cons (ss_asg c (se_call c (f := 7) g (by kernel_rfl) (by kernel_rfl) (by kernel_rfl) (sl_cons c (se_call c (f := 8) g (by kernel_rfl) (by kernel_rfl) (by kernel_rfl) (sl_cons c (se_var (by kernel_rfl) (by kernel_rfl)) (sl_cons c (se_var (by kernel_rfl) (by kernel_rfl)) (sl_nil) (fun _ => rfl)) (fun _ => rfl)) (fun _ => rfl)) (sl_cons c (se_call c (f := 9) g (by kernel_rfl) (by kernel_rfl) (by kernel_rfl) (sl_cons c (se_call c (f := 8) g (by kernel_rfl) (by kernel_rfl) (by kernel_rfl) (sl_cons c (se_var (by kernel_rfl) (by kernel_rfl)) (sl_cons c (se_var (by kernel_rfl) (by kernel_rfl)) (sl_nil) (fun _ => rfl)) (fun _ => rfl)) (fun _ => rfl)) (sl_cons c (se_var (by kernel_rfl) (by kernel_rfl)) (sl_nil) (fun _ => rfl)) (fun _ => rfl)) (fun _ => rfl)) (sl_nil) (fun _ => rfl)) (fun _ => rfl)) (fun _ => rfl)) (by kernel_rfl) (by decide +kernel) (fun _ _ _ => rfl)) (ssl_cons (ss_aug c rfl (se_int) (by kernel_rfl) (by decide +kernel) (by kernel_rfl)) (ssl_nil))))))) (ssl_cons (ss_asg c (se_bin c rfl (se_var (by kernel_rfl) (by kernel_rfl)) (se_var (by kernel_rfl) (by kernel_rfl))) (by kernel_rfl) (by decide +kernel) (fun _ _ _ => rfl)) (ssl_share (ssl_cons (ss_ret c (se_tup c (sl_cons c (se_call c (f := 8) g (by kernel_rfl) (by kernel_rfl) (by kernel_rfl) (sl_cons c (se_var (by kernel_rfl) (by kernel_rfl)) (sl_cons c (se_var (by kernel_rfl) (by kernel_rfl)) (sl_nil) (fun _ => rfl)) (fun _ => rfl)) (fun _ => rfl)) (sl_cons c (se_call c (f := 8) g (by kernel_rfl) (by kernel_rfl) (by kernel_rfl) (sl_cons c (se_var (by kernel_rfl) (by kernel_rfl)) (sl_cons c (se_var (by kernel_rfl) (by kernel_rfl)) (sl_nil) (fun _ => rfl)) (fun _ => rfl)) (fun _ => rfl)) (sl_cons c (se_var (by kernel_rfl) (by kernel_rfl)) (sl_nil) (fun _ => rfl)) (fun _ => rfl)) (fun _ => rfl)) (len_le (len_c (len_c (len_c len_0))) (by decide)))) (ssl_nil)))))))))

noncomputable def F_divided : FnD := ⟨[(PySem.Str.ofString "p"), (PySem.Str.ofString "number")], tA 22, tB 22, tS 22, [(PySem.Str.ofString "p"), (PySem.Str.ofString "number")]⟩
theorem F_divided_ok : F_divided.OK where
  kind := by kernel_rfl
  co := by kernel_rfl
  gen := by kernel_rfl
  nd := by decide +kernel
  loc := by decide +kernel
  pre := ⟨_, rfl⟩
  bind := by
    intro name qual doc pm cdv ct an vals h
    obtain ⟨v0, v1, rfl⟩ := len_2 h
    kernel_rfl
noncomputable def b_divided : SL := .cons (.ret (.comp (.seq (.var 0)) 0 (.cbool true) (.bin .div (.var 2) (.var 1)))) (.nil)
theorem s_divided {C : Cx} {Γ : Env0} {n wf : Nat} (c : COK C) (g : GOK C n Γ) : SSL C Γ n wf F_divided.scope.names F_divided.xs (F_divided.body) b_divided :=
  ssl_cons (ss_ret c (se_comp c (ts := [(PySem.Str.ofString "coefficient")]) (si_seq c (se_var (by kernel_rfl) (by kernel_rfl)) (fun _ _ => rfl)) (by decide +kernel) rfl rfl ⟨(by kernel_rfl), (by decide +kernel), trivial⟩ ⟨_, _, rfl, rfl⟩ (.inl ⟨rfl, rfl⟩) (se_bin c rfl (se_var (by kernel_rfl) (by kernel_rfl)) (se_var (by kernel_rfl) (by kernel_rfl))) (fun _ _ => rfl))) (ssl_nil)

noncomputable def F_full_rest : FnD := ⟨[(PySem.Str.ofString "a"), (PySem.Str.ofString "b")], tA 23, tB 23, tS 23, [(PySem.Str.ofString "a"), (PySem.Str.ofString "b"), (PySem.Str.ofString "quotient"), (PySem.Str.ofString "rest"), (PySem.Str.ofString "power"), (PySem.Str.ofString "lacking")]⟩
theorem F_full_rest_ok : F_full_rest.OK where
  kind := by kernel_rfl
  co := by kernel_rfl
  gen := by kernel_rfl
  nd := by decide +kernel
  loc := by decide +kernel
  pre := ⟨_, rfl⟩
  bind := by
    intro name qual doc pm cdv ct an vals h
    obtain ⟨v0, v1, rfl⟩ := len_2 h
    kernel_rfl
noncomputable def b_full_rest : SL := .cons (.asgT [2, 3, 4] (.call 15 (.cons (.var 0) (.cons (.var 1) (.nil))))) (.cons (.asg 5 (.bin .sub (.bin .add (.bin .sub (.call 3 (.cons (.var 0) (.nil))) (.call 3 (.cons (.var 1) (.nil)))) (.cint 1)) (.var 4))) (.cons (.share 5) (.cons (.ret (.comp (.seq (.var 3)) 0 (.cbool true) (.bin .mul (.var 6) (.bin .pow (.call 4 (.cons (.var 1) (.nil))) (.var 5))))) (.nil))))
theorem s_full_rest {C : Cx} {Γ : Env0} {n wf : Nat} (c : COK C) (g : GOK C n Γ) : SSL C Γ n wf F_full_rest.scope.names F_full_rest.xs (F_full_rest.body) b_full_rest :=
  ssl_cons (ss_asgTL c (names := [(PySem.Str.ofString "quotient"), (PySem.Str.ofString "rest"), (PySem.Str.ofString "power")]) (se_call c (f := 15) g (by kernel_rfl) (by kernel_rfl) (by kernel_rfl) (sl_cons c (se_var (by kernel_rfl) (by kernel_rfl)) (sl_cons c (se_var (by kernel_rfl) (by kernel_rfl)) (sl_nil) (fun _ => rfl)) (fun _ => rfl)) (fun _ => rfl)) ⟨(by kernel_rfl), (by decide +kernel), (by kernel_rfl), (by decide +kernel), (by kernel_rfl), (by decide +kernel), trivial⟩ (.cons _ _ (.cons _ _ (.cons _ _ .nil))) (fun _ => rfl) (fun _ => rfl)) (ssl_cons (ss_asg c (se_bin c rfl (se_bin c rfl (se_bin c rfl (se_call c (f := 3) g (by kernel_rfl) (by kernel_rfl) (by kernel_rfl) (sl_cons c (se_var (by kernel_rfl) (by kernel_rfl)) (sl_nil) (fun _ => rfl)) (fun _ => rfl)) (se_call c (f := 3) g (by kernel_rfl) (by kernel_rfl) (by kernel_rfl) (sl_cons c (se_var (by kernel_rfl) (by kernel_rfl)) (sl_nil) (fun _ => rfl)) (fun _ => rfl))) (se_int)) (se_var (by kernel_rfl) (by kernel_rfl))) (by kernel_rfl) (by decide +kernel) (fun _ _ _ => rfl)) (ssl_share (ssl_cons (ss_ret c (se_comp c (ts := [(PySem.Str.ofString "coefficient")]) (si_seq c (se_var (by kernel_rfl) (by kernel_rfl)) (fun _ _ => rfl)) (by decide +kernel) rfl rfl ⟨(by kernel_rfl), (by decide +kernel), trivial⟩ ⟨_, _, rfl, rfl⟩ (.inl ⟨rfl, rfl⟩) (se_bin c rfl (se_var (by kernel_rfl) (by kernel_rfl)) (se_bin c rfl (se_call c (f := 4) g (by kernel_rfl) (by kernel_rfl) (by kernel_rfl) (sl_cons c (se_var (by kernel_rfl) (by kernel_rfl)) (sl_nil) (fun _ => rfl)) (fun _ => rfl)) (se_var (by kernel_rfl) (by kernel_rfl)))) (fun _ _ => rfl))) (ssl_nil))))

noncomputable def F_row_resultant : FnD := ⟨[(PySem.Str.ofString "a"), (PySem.Str.ofString "b"), (PySem.Str.ofString "sign")], tA 24, tB 24, tS 24, [(PySem.Str.ofString "a"), (PySem.Str.ofString "b"), (PySem.Str.ofString "sign"), (PySem.Str.ofString "g"), (PySem.Str.ofString "h"), (PySem.Str.ofString "gap"), (PySem.Str.ofString "rest"), (PySem.Str.ofString "many")]⟩
theorem F_row_resultant_ok : F_row_resultant.OK where
  kind := by kernel_rfl
  co := by kernel_rfl
  gen := by kernel_rfl
  nd := by decide +kernel
  loc := by decide +kernel
  pre := ⟨_, rfl⟩
  bind := by
    intro name qual doc pm cdv ct an vals h
    obtain ⟨v0, v1, v2, rfl⟩ := len_3 h
    kernel_rfl
noncomputable def b_row_resultant : SL := .cons (.asg2 [3, 4] (.cons (.cint 1) (.cons (.cint 1) (.nil)))) (.cons (.whil (.cmp .gt (.call 3 (.cons (.var 1) (.nil))) (.cint 0)) (.cons (.asg 5 (.bin .sub (.call 3 (.cons (.var 0) (.nil))) (.call 3 (.cons (.var 1) (.nil))))) (.cons (.share 5) (.cons (.ite (.bop true (.cmp .eq (.bin .mod (.call 3 (.cons (.var 0) (.nil))) (.cint 2)) (.cint 1)) (.cmp .eq (.bin .mod (.call 3 (.cons (.var 1) (.nil))) (.cint 2)) (.cint 1))) (.cons (.asg 2 (.neg (.var 2))) (.nil)) (.nil)) (.cons (.asg 6 (.call 17 (.cons (.var 0) (.cons (.var 1) (.nil))))) (.cons (.asg2 [0, 1] (.cons (.var 1) (.cons (.call 16 (.cons (.var 6) (.cons (.bin .mul (.var 3) (.bin .pow (.var 4) (.var 5))) (.nil)))) (.nil)))) (.cons (.asg 3 (.call 4 (.cons (.var 0) (.nil)))) (.cons (.ite (.cmp .gt (.bvar 5) (.cint 0)) (.cons (.asg 4 (.bin .div (.bin .pow (.var 3) (.var 5)) (.bin .pow (.var 4) (.bin .sub (.var 5) (.cint 1))))) (.cons (.share 4) (.nil))) (.nil)) (.nil))))))))) (.cons (.ite (.cmp .eq (.bvar 1) (.lst (.nil))) (.cons (.ret (.cint 0)) (.nil)) (.nil)) (.cons (.asg 7 (.call 3 (.cons (.var 0) (.nil)))) (.cons (.ret (.bin .mul (.var 2) (.ite (.cmp .gt (.bvar 7) (.cint 0)) (.bin .div (.bin .pow (.idx (.bvar 1) (.cint 0)) (.var 7)) (.bin .pow (.var 4) (.bin .sub (.var 7) (.cint 1)))) (.cint 1)))) (.nil)))))
theorem s_row_resultant {C : Cx} {Γ : Env0} {n wf : Nat} (c : COK C) (g : GOK C n Γ) : SSL C Γ n wf F_row_resultant.scope.names F_row_resultant.xs (F_row_resultant.body) b_row_resultant :=
  ssl_cons (ss_asg2 c (names := [(PySem.Str.ofString "g"), (PySem.Str.ofString "h")]) (slf_cons c (se_int) (slf_cons c (se_int) (slf_nil c) (fun _ => rfl)) (fun _ => rfl)) ⟨(by kernel_rfl), (by decide +kernel), (by kernel_rfl), (by decide +kernel), trivial⟩ rfl (by decide) (.cons _ _ (.cons _ _ .nil)) (by rintro ⟨⟨k1, n1, g1, c1, m1⟩, l1, gl1, ce1, q1, f1, cd1, fr1, b1⟩ h1 h2; simp only at h1 h2; subst h1 h2; kernel_rfl)) (ssl_cons (ss_while c (st_cmp c rfl (SE.sb (se_call c (f := 3) g (by kernel_rfl) (by kernel_rfl) (by kernel_rfl) (sl_cons c (se_var (by kernel_rfl) (by kernel_rfl)) (sl_nil) (fun _ => rfl)) (fun _ => rfl))) (SE.sb (se_int)) (by kernel_rfl)) (ssl_cons (ss_asg c (se_bin c rfl (se_call c (f := 3) g (by kernel_rfl) (by kernel_rfl) (by kernel_rfl) (sl_cons c (se_var (by kernel_rfl) (by kernel_rfl)) (sl_nil) (fun _ => rfl)) (fun _ => rfl)) (se_call c (f := 3) g (by kernel_rfl) (by kernel_rfl) (by kernel_rfl) (sl_cons c (se_var (by kernel_rfl) (by kernel_rfl)) (sl_nil) (fun _ => rfl)) (fun _ => rfl))) (by kernel_rfl) (by decide +kernel) (fun _ _ _ => rfl)) (ssl_share (ssl_cons (ss_ite c (st_and c (st_cmp c rfl (SE.sb (se_bin c rfl (se_call c (f := 3) g (by kernel_rfl) (by kernel_rfl) (by kernel_rfl) (sl_cons c (se_var (by kernel_rfl) (by kernel_rfl)) (sl_nil) (fun _ => rfl)) (fun _ => rfl)) (se_int))) (SE.sb (se_int)) (by kernel_rfl)) (st_and1 c (st_cmp c rfl (SE.sb (se_bin c rfl (se_call c (f := 3) g (by kernel_rfl) (by kernel_rfl) (by kernel_rfl) (sl_cons c (se_var (by kernel_rfl) (by kernel_rfl)) (sl_nil) (fun _ => rfl)) (fun _ => rfl)) (se_int))) (SE.sb (se_int)) (by kernel_rfl)))) (ssl_cons (ss_asg c (se_neg c (se_var (by kernel_rfl) (by kernel_rfl))) (by kernel_rfl) (by decide +kernel) (fun _ _ _ => rfl)) (ssl_nil)) (ssl_nil)) (ssl_cons (ss_asg c (se_call c (f := 17) g (by kernel_rfl) (by kernel_rfl) (by kernel_rfl) (sl_cons c (se_var (by kernel_rfl) (by kernel_rfl)) (sl_cons c (se_var (by kernel_rfl) (by kernel_rfl)) (sl_nil) (fun _ => rfl)) (fun _ => rfl)) (fun _ => rfl)) (by kernel_rfl) (by decide +kernel) (fun _ _ _ => rfl)) (ssl_cons (ss_asg2s c (names := [(PySem.Str.ofString "a"), (PySem.Str.ofString "b")]) (slf_cons c (se_var (by kernel_rfl) (by kernel_rfl)) (slf_cons c (se_call c (f := 16) g (by kernel_rfl) (by kernel_rfl) (by kernel_rfl) (sl_cons c (se_var (by kernel_rfl) (by kernel_rfl)) (sl_cons c (se_bin c rfl (se_var (by kernel_rfl) (by kernel_rfl)) (se_bin c rfl (se_var (by kernel_rfl) (by kernel_rfl)) (se_var (by kernel_rfl) (by kernel_rfl)))) (sl_nil) (fun _ => rfl)) (fun _ => rfl)) (fun _ => rfl)) (slf_nil c) (fun _ => rfl)) (fun _ => rfl)) ⟨(by kernel_rfl), (by decide +kernel), (by kernel_rfl), (by decide +kernel), trivial⟩ (by decide) rfl (by decide) (by rintro ⟨⟨k1, n1, g1, c1, m1⟩, l1, gl1, ce1, q1, f1, cd1, fr1, b1⟩ h1 h2; simp only at h1 h2; subst h1 h2; kernel_rfl)) (ssl_cons (ss_asg c (se_call c (f := 4) g (by kernel_rfl) (by kernel_rfl) (by kernel_rfl) (sl_cons c (se_var (by kernel_rfl) (by kernel_rfl)) (sl_nil) (fun _ => rfl)) (fun _ => rfl)) (by kernel_rfl) (by decide +kernel) (fun _ _ _ => rfl)) (ssl_cons (ss_ite c (st_cmp c rfl (sb_var (by kernel_rfl) (by kernel_rfl)) (SE.sb (se_int)) (by kernel_rfl)) (ssl_cons (ss_asg c (se_bin c rfl (se_bin c rfl (se_var (by kernel_rfl) (by kernel_rfl)) (se_var (by kernel_rfl) (by kernel_rfl))) (se_bin c rfl (se_var (by kernel_rfl) (by kernel_rfl)) (se_bin c rfl (se_var (by kernel_rfl) (by kernel_rfl)) (se_int)))) (by kernel_rfl) (by decide +kernel) (fun _ _ _ => rfl)) (ssl_share (ssl_nil))) (ssl_nil)) (ssl_nil))))))))) (ssl_cons (ss_ite c (st_cmp c rfl (sb_var (by kernel_rfl) (by kernel_rfl)) (SE.sb (se_list c (sl_nil) (len_le len_0 (by decide)))) (by kernel_rfl)) (ssl_cons (ss_ret c (se_int)) (ssl_nil)) (ssl_nil)) (ssl_cons (ss_asg c (se_call c (f := 3) g (by kernel_rfl) (by kernel_rfl) (by kernel_rfl) (sl_cons c (se_var (by kernel_rfl) (by kernel_rfl)) (sl_nil) (fun _ => rfl)) (fun _ => rfl)) (by kernel_rfl) (by decide +kernel) (fun _ _ _ => rfl)) (ssl_cons (ss_ret c (se_bin c rfl (se_var (by kernel_rfl) (by kernel_rfl)) (se_ite c (st_cmp c rfl (sb_var (by kernel_rfl) (by kernel_rfl)) (SE.sb (se_int)) (by kernel_rfl)) (se_bin c rfl (se_bin c rfl (se_idx c (sb_var (by kernel_rfl) (by kernel_rfl)) (se_int) (fun _ _ _ => rfl)) (se_var (by kernel_rfl) (by kernel_rfl))) (se_bin c rfl (se_var (by kernel_rfl) (by kernel_rfl)) (se_bin c rfl (se_var (by kernel_rfl) (by kernel_rfl)) (se_int)))) (se_int)))) (ssl_nil)))))

noncomputable def F_resultant : FnD := ⟨[(PySem.Str.ofString "a"), (PySem.Str.ofString "b")], tA 25, tB 25, tS 25, [(PySem.Str.ofString "a"), (PySem.Str.ofString "b"), (PySem.Str.ofString "sign"), (PySem.Str.ofString "one"), (PySem.Str.ofString "other"), (PySem.Str.ofString "shared")]⟩
theorem F_resultant_ok : F_resultant.OK where
  kind := by kernel_rfl
  co := by kernel_rfl
  gen := by kernel_rfl
  nd := by decide +kernel
  loc := by decide +kernel
  pre := ⟨_, rfl⟩
  bind := by
    intro name qual doc pm cdv ct an vals h
    obtain ⟨v0, v1, rfl⟩ := len_2 h
    kernel_rfl
noncomputable def b_resultant : SL := .cons (.ite (.bop false (.cmp .eq (.bvar 0) (.lst (.nil))) (.cmp .eq (.bvar 1) (.lst (.nil)))) (.cons (.ret (.cint 0)) (.nil)) (.nil)) (.cons (.asg 2 (.cint 1)) (.cons (.ite (.cmp .lt (.call 3 (.cons (.var 0) (.nil))) (.call 3 (.cons (.var 1) (.nil)))) (.cons (.asg2 [0, 1] (.cons (.var 1) (.cons (.var 0) (.nil)))) (.cons (.asg 2 (.ite (.bop true (.cmp .eq (.bin .mod (.call 3 (.cons (.var 0) (.nil))) (.cint 2)) (.cint 1)) (.cmp .eq (.bin .mod (.call 3 (.cons (.var 1) (.nil))) (.cint 2)) (.cint 1))) (.neg (.cint 1)) (.cint 1))) (.nil))) (.nil)) (.cons (.asg2 [3, 4] (.cons (.call 10 (.cons (.var 0) (.nil))) (.cons (.call 10 (.cons (.var 1) (.nil))) (.nil)))) (.cons (.asg 5 (.bin .mul (.bin .pow (.var 3) (.call 3 (.cons (.var 1) (.nil)))) (.bin .pow (.var 4) (.call 3 (.cons (.var 0) (.nil)))))) (.cons (.share 5) (.cons (.ret (.bin .mul (.var 5) (.call 18 (.cons (.call 16 (.cons (.var 0) (.cons (.var 3) (.nil)))) (.cons (.call 16 (.cons (.var 1) (.cons (.var 4) (.nil)))) (.cons (.var 2) (.nil))))))) (.nil)))))))
theorem s_resultant {C : Cx} {Γ : Env0} {n wf : Nat} (c : COK C) (g : GOK C n Γ) : SSL C Γ n wf F_resultant.scope.names F_resultant.xs (F_resultant.body) b_resultant :=
  ssl_cons (ss_ite c (st_or c (st_cmp c rfl (sb_var (by kernel_rfl) (by kernel_rfl)) (SE.sb (se_list c (sl_nil) (len_le len_0 (by decide)))) (by kernel_rfl)) (st_or1 c (st_cmp c rfl (sb_var (by kernel_rfl) (by kernel_rfl)) (SE.sb (se_list c (sl_nil) (len_le len_0 (by decide)))) (by kernel_rfl)))) (ssl_cons (ss_ret c (se_int)) (ssl_nil)) (ssl_nil)) (ssl_cons (ss_asg c (se_int) (by kernel_rfl) (by decide +kernel) (fun _ _ _ => rfl)) (ssl_cons (ss_ite c (st_cmp c rfl (SE.sb (se_call c (f := 3) g (by kernel_rfl) (by kernel_rfl) (by kernel_rfl) (sl_cons c (se_var (by kernel_rfl) (by kernel_rfl)) (sl_nil) (fun _ => rfl)) (fun _ => rfl))) (SE.sb (se_call c (f := 3) g (by kernel_rfl) (by kernel_rfl) (by kernel_rfl) (sl_cons c (se_var (by kernel_rfl) (by kernel_rfl)) (sl_nil) (fun _ => rfl)) (fun _ => rfl))) (by kernel_rfl)) (ssl_cons (ss_asg2s c (names := [(PySem.Str.ofString "a"), (PySem.Str.ofString "b")]) (slf_cons c (se_var (by kernel_rfl) (by kernel_rfl)) (slf_cons c (se_var (by kernel_rfl) (by kernel_rfl)) (slf_nil c) (fun _ => rfl)) (fun _ => rfl)) ⟨(by kernel_rfl), (by decide +kernel), (by kernel_rfl), (by decide +kernel), trivial⟩ (by decide) rfl (by decide) (by rintro ⟨⟨k1, n1, g1, c1, m1⟩, l1, gl1, ce1, q1, f1, cd1, fr1, b1⟩ h1 h2; simp only at h1 h2; subst h1 h2; kernel_rfl)) (ssl_cons (ss_asg c (se_ite c (st_and c (st_cmp c rfl (SE.sb (se_bin c rfl (se_call c (f := 3) g (by kernel_rfl) (by kernel_rfl) (by kernel_rfl) (sl_cons c (se_var (by kernel_rfl) (by kernel_rfl)) (sl_nil) (fun _ => rfl)) (fun _ => rfl)) (se_int))) (SE.sb (se_int)) (by kernel_rfl)) (st_and1 c (st_cmp c rfl (SE.sb (se_bin c rfl (se_call c (f := 3) g (by kernel_rfl) (by kernel_rfl) (by kernel_rfl) (sl_cons c (se_var (by kernel_rfl) (by kernel_rfl)) (sl_nil) (fun _ => rfl)) (fun _ => rfl)) (se_int))) (SE.sb (se_int)) (by kernel_rfl)))) (se_neg c (se_int)) (se_int)) (by kernel_rfl) (by decide +kernel) (fun _ _ _ => rfl)) (ssl_nil))) (ssl_nil)) (ssl_cons (ss_asg2s c (names := [(PySem.Str.ofString "one"), (PySem.Str.ofString "other")]) (slf_cons c (se_call c (f := 10) g (by kernel_rfl) (by kernel_rfl) (by kernel_rfl) (sl_cons c (se_var (by kernel_rfl) (by kernel_rfl)) (sl_nil) (fun _ => rfl)) (fun _ => rfl)) (slf_cons c (se_call c (f := 10) g (by kernel_rfl) (by kernel_rfl) (by kernel_rfl) (sl_cons c (se_var (by kernel_rfl) (by kernel_rfl)) (sl_nil) (fun _ => rfl)) (fun _ => rfl)) (slf_nil c) (fun _ => rfl)) (fun _ => rfl)) ⟨(by kernel_rfl), (by decide +kernel), (by kernel_rfl), (by decide +kernel), trivial⟩ (by decide) rfl (by decide) (by rintro ⟨⟨k1, n1, g1, c1, m1⟩, l1, gl1, ce1, q1, f1, cd1, fr1, b1⟩ h1 h2; simp only at h1 h2; subst h1 h2; kernel_rfl)) (ssl_cons (ss_asg c (se_bin c rfl (se_bin c rfl (se_var (by kernel_rfl) (by kernel_rfl)) (se_call c (f := 3) g (by kernel_rfl) (by kernel_rfl) (by kernel_rfl) (sl_cons c (se_var (by kernel_rfl) (by kernel_rfl)) (sl_nil) (fun _ => rfl)) (fun _ => rfl))) (se_bin c rfl (se_var (by kernel_rfl) (by kernel_rfl)) (se_call c (f := 3) g (by kernel_rfl) (by kernel_rfl) (by kernel_rfl) (sl_cons c (se_var (by kernel_rfl) (by kernel_rfl)) (sl_nil) (fun _ => rfl)) (fun _ => rfl)))) (by kernel_rfl) (by decide +kernel) (fun _ _ _ => rfl)) (ssl_share (ssl_cons (ss_ret c (se_bin c rfl (se_var (by kernel_rfl) (by kernel_rfl)) (se_call c (f := 18) g (by kernel_rfl) (by kernel_rfl) (by kernel_rfl) (sl_cons c (se_call c (f := 16) g (by kernel_rfl) (by kernel_rfl) (by kernel_rfl) (sl_cons c (se_var (by kernel_rfl) (by kernel_rfl)) (sl_cons c (se_var (by kernel_rfl) (by kernel_rfl)) (sl_nil) (fun _ => rfl)) (fun _ => rfl)) (fun _ => rfl)) (sl_cons c (se_call c (f := 16) g (by kernel_rfl) (by kernel_rfl) (by kernel_rfl) (sl_cons c (se_var (by kernel_rfl) (by kernel_rfl)) (sl_cons c (se_var (by kernel_rfl) (by kernel_rfl)) (sl_nil) (fun _ => rfl)) (fun _ => rfl)) (fun _ => rfl)) (sl_cons c (se_var (by kernel_rfl) (by kernel_rfl)) (sl_nil) (fun _ => rfl)) (fun _ => rfl)) (fun _ => rfl)) (fun _ => rfl)))) (ssl_nil)))))))

noncomputable def F_root_bound : FnD := ⟨[(PySem.Str.ofString "f")], tA 27, tB 27, tS 27, [(PySem.Str.ofString "f"), (PySem.Str.ofString "most")]⟩
theorem F_root_bound_ok : F_root_bound.OK where
  kind := by kernel_rfl
  co := by kernel_rfl
  gen := by kernel_rfl
  nd := by decide +kernel
  loc := by decide +kernel
  pre := ⟨_, rfl⟩
  bind := by
    intro name qual doc pm cdv ct an vals h
    obtain ⟨v0, rfl⟩ := len_1 h
    kernel_rfl
noncomputable def b_root_bound : SL := .cons (.asg 1 (.maxl (.comp (.seq (.var 0)) 0 (.cbool true) (.abs (.var 2))))) (.cons (.ret (.bin .add (.cint 2) (.bin .div (.var 1) (.abs (.call 4 (.cons (.var 0) (.nil))))))) (.nil))
theorem s_root_bound {C : Cx} {Γ : Env0} {n wf : Nat} (c : COK C) (g : GOK C n Γ) : SSL C Γ n wf F_root_bound.scope.names F_root_bound.xs (F_root_bound.body) b_root_bound :=
  ssl_cons (ss_asg c (se_maxl c (by kernel_rfl) (se_comp c (ts := [(PySem.Str.ofString "coefficient")]) (si_seq c (se_var (by kernel_rfl) (by kernel_rfl)) (fun _ _ => rfl)) (by decide +kernel) rfl rfl ⟨(by kernel_rfl), (by decide +kernel), trivial⟩ ⟨_, _, rfl, rfl⟩ (.inl ⟨rfl, rfl⟩) (se_abs c (by kernel_rfl) (se_var (by kernel_rfl) (by kernel_rfl)) (fun _ => rfl)) (fun _ _ => rfl)) (fun _ => rfl)) (by kernel_rfl) (by decide +kernel) (fun _ _ _ => rfl)) (ssl_cons (ss_ret c (se_bin c rfl (se_int) (se_bin c rfl (se_var (by kernel_rfl) (by kernel_rfl)) (se_abs c (by kernel_rfl) (se_call c (f := 4) g (by kernel_rfl) (by kernel_rfl) (by kernel_rfl) (sl_cons c (se_var (by kernel_rfl) (by kernel_rfl)) (sl_nil) (fun _ => rfl)) (fun _ => rfl)) (fun _ => rfl))))) (ssl_nil))

noncomputable def F_first_differences : FnD := ⟨[(PySem.Str.ofString "numbers")], tA 29, tB 29, tS 29, [(PySem.Str.ofString "numbers"), (PySem.Str.ofString "found")]⟩
theorem F_first_differences_ok : F_first_differences.OK where
  kind := by kernel_rfl
  co := by kernel_rfl
  gen := by kernel_rfl
  nd := by decide +kernel
  loc := by decide +kernel
  pre := ⟨_, rfl⟩
  bind := by
    intro name qual doc pm cdv ct an vals h
    obtain ⟨v0, rfl⟩ := len_1 h
    kernel_rfl
noncomputable def b_first_differences : SL := .cons (.asg 1 (.lst (.nil))) (.cons (.whil (.cmp .gt (.len (.bvar 0)) (.cint 0)) (.cons (.append 1 (.idx (.bvar 0) (.cint 0))) (.cons (.asg 0 (.comp (.rng1 (.bin .sub (.len (.bvar 0)) (.cint 1))) 0 (.cbool true) (.bin .sub (.idx (.bvar 0) (.bin .add (.var 2) (.cint 1))) (.idx (.bvar 0) (.var 2))))) (.cons (.share 0) (.nil))))) (.cons (.share 1) (.cons (.ret (.var 1)) (.nil))))
theorem s_first_differences {C : Cx} {Γ : Env0} {n wf : Nat} (c : COK C) (g : GOK C n Γ) : SSL C Γ n wf F_first_differences.scope.names F_first_differences.xs (F_first_differences.body) b_first_differences :=
  ssl_cons (ss_asg c (se_list c (sl_nil) (len_le len_0 (by decide))) (by kernel_rfl) (by decide +kernel) (fun _ _ _ => rfl)) (ssl_cons (ss_while c (st_cmp c rfl (SE.sb (se_len c (by kernel_rfl) (sb_var (by kernel_rfl) (by kernel_rfl)) (fun _ => rfl))) (SE.sb (se_int)) (by kernel_rfl)) (ssl_cons (ss_append c (se_idx c (sb_var (by kernel_rfl) (by kernel_rfl)) (se_int) (fun _ _ _ => rfl)) (by kernel_rfl) (by kernel_rfl) (by kernel_rfl) (fun _ => rfl) (fun _ _ => rfl)) (ssl_cons (ss_asg c (se_comp c (ts := [(PySem.Str.ofString "at")]) (si_rng1 c (by kernel_rfl) (se_bin c rfl (se_len c (by kernel_rfl) (sb_var (by kernel_rfl) (by kernel_rfl)) (fun _ => rfl)) (se_int)) (fun _ => rfl) (fun _ _ => rfl)) (by decide +kernel) rfl rfl ⟨(by kernel_rfl), (by decide +kernel), trivial⟩ ⟨_, _, rfl, rfl⟩ (.inl ⟨rfl, rfl⟩) (se_bin c rfl (se_idx c (sb_var (by kernel_rfl) (by kernel_rfl)) (se_bin c rfl (se_var (by kernel_rfl) (by kernel_rfl)) (se_int)) (fun _ _ _ => rfl)) (se_idx c (sb_var (by kernel_rfl) (by kernel_rfl)) (se_var (by kernel_rfl) (by kernel_rfl)) (fun _ _ _ => rfl))) (fun _ _ => rfl)) (by kernel_rfl) (by decide +kernel) (by rintro ⟨⟨k1, n1, g1, c1, m1⟩, l1, gl1, ce1, q1, f1, cd1, fr1, b1⟩ h1 h2; simp only at h1 h2; subst h1 h2; kernel_rfl)) (ssl_share (ssl_nil))))) (ssl_share (ssl_cons (ss_ret c (se_var (by kernel_rfl) (by kernel_rfl))) (ssl_nil))))

noncomputable def F_zeros_on : FnD := ⟨[(PySem.Str.ofString "differences"), (PySem.Str.ofString "last")], tA 30, tB 30, tS 30, [(PySem.Str.ofString "differences"), (PySem.Str.ofString "last"), (PySem.Str.ofString "row"), (PySem.Str.ofString "found"), (PySem.Str.ofString "place"), (PySem.Str.ofString "at")]⟩
theorem F_zeros_on_ok : F_zeros_on.OK where
  kind := by kernel_rfl
  co := by kernel_rfl
  gen := by kernel_rfl
  nd := by decide +kernel
  loc := by decide +kernel
  pre := ⟨_, rfl⟩
  bind := by
    intro name qual doc pm cdv ct an vals h
    obtain ⟨v0, v1, rfl⟩ := len_2 h
    kernel_rfl
noncomputable def b_zeros_on : SL := .cons (.asg2 [2, 3] (.cons (.copy (.var 0)) (.cons (.lst (.nil)) (.nil)))) (.cons (.for [4] false (.rng1 (.bin .add (.var 1) (.cint 1))) (.cons (.ite (.cmp .eq (.idx (.bvar 2) (.cint 0)) (.cint 0)) (.cons (.append 3 (.var 4)) (.nil)) (.nil)) (.cons (.for [5] false (.rng1 (.bin .sub (.len (.bvar 2)) (.cint 1))) (.cons (.augI 2 (.var 5) .add (.idx (.bvar 2) (.bin .add (.var 5) (.cint 1)))) (.nil))) (.nil)))) (.cons (.share 3) (.cons (.ret (.var 3)) (.nil))))
theorem s_zeros_on {C : Cx} {Γ : Env0} {n wf : Nat} (c : COK C) (g : GOK C n Γ) : SSL C Γ n wf F_zeros_on.scope.names F_zeros_on.xs (F_zeros_on.body) b_zeros_on :=
  ssl_cons (ss_asg2s c (names := [(PySem.Str.ofString "row"), (PySem.Str.ofString "found")]) (slf_cons c (se_copy c (by kernel_rfl) (se_var (by kernel_rfl) (by kernel_rfl)) (fun _ => rfl)) (slf_cons c (se_list c (sl_nil) (len_le len_0 (by decide))) (slf_nil c) (fun _ => star_List ..)) (fun _ => rfl)) ⟨(by kernel_rfl), (by decide +kernel), (by kernel_rfl), (by decide +kernel), trivial⟩ (by decide) rfl (by decide) (by rintro ⟨⟨k1, n1, g1, c1, m1⟩, l1, gl1, ce1, q1, f1, cd1, fr1, b1⟩ h1 h2; simp only at h1 h2; subst h1 h2; kernel_rfl)) (ssl_cons (ss_for c (names := [(PySem.Str.ofString "place")]) (si_rng1 c (by kernel_rfl) (se_bin c rfl (se_var (by kernel_rfl) (by kernel_rfl)) (se_int)) (fun _ => rfl) (fun _ _ => rfl)) (ssl_cons (ss_ite c (st_cmp c rfl (SE.sb (se_idx c (sb_var (by kernel_rfl) (by kernel_rfl)) (se_int) (fun _ _ _ => rfl))) (SE.sb (se_int)) (by kernel_rfl)) (ssl_cons (ss_append c (se_var (by kernel_rfl) (by kernel_rfl)) (by kernel_rfl) (by kernel_rfl) (by kernel_rfl) (fun _ => rfl) (fun _ _ => rfl)) (ssl_nil)) (ssl_nil)) (ssl_cons (ss_for c (names := [(PySem.Str.ofString "at")]) (si_rng1 c (by kernel_rfl) (se_bin c rfl (se_len c (by kernel_rfl) (sb_var (by kernel_rfl) (by kernel_rfl)) (fun _ => rfl)) (se_int)) (fun _ => rfl) (fun _ _ => rfl)) (ssl_cons (ss_augI c rfl (se_idx c (sb_var (by kernel_rfl) (by kernel_rfl)) (se_bin c rfl (se_var (by kernel_rfl) (by kernel_rfl)) (se_int)) (fun _ _ _ => rfl)) (se_var (by kernel_rfl) (by kernel_rfl)) (by kernel_rfl) (by kernel_rfl) (fun _ _ _ => rfl)) (ssl_nil)) ⟨(by kernel_rfl), (by decide +kernel), trivial⟩ ⟨_, _, rfl, rfl⟩ (fun _ _ => rfl)) (ssl_nil))) ⟨(by kernel_rfl), (by decide +kernel), trivial⟩ ⟨_, _, rfl, rfl⟩ (fun _ _ => rfl)) (ssl_share (ssl_cons (ss_ret c (se_var (by kernel_rfl) (by kernel_rfl))) (ssl_nil))))

noncomputable def F_dispersions : FnD := ⟨[(PySem.Str.ofString "a"), (PySem.Str.ofString "b")], tA 31, tB 31, tS 31, [(PySem.Str.ofString "a"), (PySem.Str.ofString "b"), (PySem.Str.ofString "most"), (PySem.Str.ofString "numbers")]⟩
theorem F_dispersions_ok : F_dispersions.OK where
  kind := by kernel_rfl
  co := by kernel_rfl
  gen := by kernel_rfl
  nd := by decide +kernel
  loc := by decide +kernel
  pre := ⟨_, rfl⟩
  bind := by
    intro name qual doc pm cdv ct an vals h
    obtain ⟨v0, v1, rfl⟩ := len_2 h
    kernel_rfl
noncomputable def b_dispersions : SL := .cons (.ite (.bop false (.cmp .lt (.call 3 (.cons (.var 0) (.nil))) (.cint 1)) (.cmp .lt (.call 3 (.cons (.var 1) (.nil))) (.cint 1))) (.cons (.ret (.lst (.nil))) (.nil)) (.nil)) (.cons (.asg 2 (.bin .mul (.call 3 (.cons (.var 0) (.nil))) (.call 3 (.cons (.var 1) (.nil))))) (.cons (.share 2) (.cons (.asg 3 (.comp (.rng1 (.bin .add (.var 2) (.cint 1))) 0 (.cbool true) (.call 19 (.cons (.var 0) (.cons (.call 13 (.cons (.var 1) (.cons (.var 4) (.nil)))) (.nil)))))) (.cons (.share 3) (.cons (.ret (.call 22 (.cons (.call 21 (.cons (.var 3) (.nil))) (.cons (.bin .add (.call 20 (.cons (.var 0) (.nil))) (.call 20 (.cons (.var 1) (.nil)))) (.nil))))) (.nil))))))
theorem s_dispersions {C : Cx} {Γ : Env0} {n wf : Nat} (c : COK C) (g : GOK C n Γ) : SSL C Γ n wf F_dispersions.scope.names F_dispersions.xs (F_dispersions.body) b_dispersions :=
  ssl_cons (ss_ite c (st_or c (st_cmp c rfl (SE.sb (se_call c (f := 3) g (by kernel_rfl) (by kernel_rfl) (by kernel_rfl) (sl_cons c (se_var (by kernel_rfl) (by kernel_rfl)) (sl_nil) (fun _ => rfl)) (fun _ => rfl))) (SE.sb (se_int)) (by kernel_rfl)) (st_or1 c (st_cmp c rfl (SE.sb (se_call c (f := 3) g (by kernel_rfl) (by kernel_rfl) (by kernel_rfl) (sl_cons c (se_var (by kernel_rfl) (by kernel_rfl)) (sl_nil) (fun _ => rfl)) (fun _ => rfl))) (SE.sb (se_int)) (by kernel_rfl)))) (ssl_cons (ss_ret c (se_list c (sl_nil) (len_le len_0 (by decide)))) (ssl_nil)) (ssl_nil)) (ssl_cons (ss_asg c (se_bin c rfl (se_call c (f := 3) g (by kernel_rfl) (by kernel_rfl) (by kernel_rfl) (sl_cons c (se_var (by kernel_rfl) (by kernel_rfl)) (sl_nil) (fun _ => rfl)) (fun _ => rfl)) (se_call c (f := 3) g (by kernel_rfl) (by kernel_rfl) (by kernel_rfl) (sl_cons c (se_var (by kernel_rfl) (by kernel_rfl)) (sl_nil) (fun _ => rfl)) (fun _ => rfl))) (by kernel_rfl) (by decide +kernel) (fun _ _ _ => rfl)) (ssl_share (ssl_cons (ss_asgC c (ts := [(PySem.Str.ofString "h")]) (si_rng1 c (by kernel_rfl) (se_bin c rfl (se_var (by kernel_rfl) (by kernel_rfl)) (se_int)) (fun _ => rfl) (fun _ _ => rfl)) (by decide +kernel) rfl rfl ⟨(by kernel_rfl), (by decide +kernel), trivial⟩ ⟨_, _, rfl, rfl⟩ (.inl ⟨rfl, rfl⟩) (se_call c (f := 19) g (by kernel_rfl) (by kernel_rfl) (by kernel_rfl) (sl_cons c (se_var (by kernel_rfl) (by kernel_rfl)) (sl_cons c (se_call c (f := 13) g (by kernel_rfl) (by kernel_rfl) (by kernel_rfl) (sl_cons c (se_var (by kernel_rfl) (by kernel_rfl)) (sl_cons c (se_var (by kernel_rfl) (by kernel_rfl)) (sl_nil) (fun _ => rfl)) (fun _ => rfl)) (fun _ => rfl)) (sl_nil) (fun _ => rfl)) (fun _ => rfl)) (fun _ => rfl)) (fun _ _ => rfl) (by kernel_rfl) (by decide +kernel) (by rintro ⟨⟨k1, n1, g1, c1, m1⟩, l1, gl1, ce1, q1, f1, cd1, fr1, b1⟩ h1 h2; simp only at h1 h2; subst h1 h2; kernel_rfl)) (ssl_share (ssl_cons (ss_ret c (se_call c (f := 22) g (by kernel_rfl) (by kernel_rfl) (by kernel_rfl) (sl_cons c (se_call c (f := 21) g (by kernel_rfl) (by kernel_rfl) (by kernel_rfl) (sl_cons c (se_var (by kernel_rfl) (by kernel_rfl)) (sl_nil) (fun _ => rfl)) (fun _ => rfl)) (sl_cons c (se_bin c rfl (se_call c (f := 20) g (by kernel_rfl) (by kernel_rfl) (by kernel_rfl) (sl_cons c (se_var (by kernel_rfl) (by kernel_rfl)) (sl_nil) (fun _ => rfl)) (fun _ => rfl)) (se_call c (f := 20) g (by kernel_rfl) (by kernel_rfl) (by kernel_rfl) (sl_cons c (se_var (by kernel_rfl) (by kernel_rfl)) (sl_nil) (fun _ => rfl)) (fun _ => rfl))) (sl_nil) (fun _ => rfl)) (fun _ => rfl)) (fun _ => rfl))) (ssl_nil))))))

noncomputable def F_rat : FnD := ⟨[(PySem.Str.ofString "top"), (PySem.Str.ofString "bottom")], tA 35, tB 35, tS 35, [(PySem.Str.ofString "top"), (PySem.Str.ofString "bottom"), (PySem.Str.ofString "g")]⟩
theorem F_rat_ok : F_rat.OK where
  kind := by kernel_rfl
  co := by kernel_rfl
  gen := by kernel_rfl
  nd := by decide +kernel
  loc := by decide +kernel
  pre := ⟨_, rfl⟩
  bind := by
    intro name qual doc pm cdv ct an vals h
    obtain ⟨v0, v1, rfl⟩ := len_2 h
    kernel_rfl
noncomputable def b_rat : SL := .cons (.ite (.cmp .eq (.bvar 1) (.cint 0)) (.cons (.fail) (.nil)) (.nil)) (.cons (.asg 2 (.ite (.cmp .gt (.bvar 1) (.cint 0)) (.call 0 (.cons (.var 0) (.cons (.var 1) (.nil)))) (.bin .sub (.cint 0) (.call 0 (.cons (.var 0) (.cons (.var 1) (.nil))))))) (.cons (.ret (.tup (.cons (.bin .div (.var 0) (.var 2)) (.cons (.bin .div (.var 1) (.var 2)) (.nil))))) (.nil)))
theorem s_rat {C : Cx} {Γ : Env0} {n wf : Nat} (c : COK C) (g : GOK C n Γ) : SSL C Γ n wf F_rat.scope.names F_rat.xs (F_rat.body) b_rat :=
  ssl_cons (ss_ite c (st_cmp c rfl (sb_var (by kernel_rfl) (by kernel_rfl)) (SE.sb (se_int)) (by kernel_rfl)) (ssl_cons (ss_fail) (ssl_nil)) (ssl_nil)) (ssl_cons (ss_asg c (se_ite c (st_cmp c rfl (sb_var (by kernel_rfl) (by kernel_rfl)) (SE.sb (se_int)) (by kernel_rfl)) (se_call c (f := 0) g (by kernel_rfl) (by kernel_rfl) (by kernel_rfl) (sl_cons c (se_var (by kernel_rfl) (by kernel_rfl)) (sl_cons c (se_var (by kernel_rfl) (by kernel_rfl)) (sl_nil) (fun _ => rfl)) (fun _ => rfl)) (fun _ => rfl)) (se_bin c rfl (se_int) (se_call c (f := 0) g (by kernel_rfl) (by kernel_rfl) (by kernel_rfl) (sl_cons c (se_var (by kernel_rfl) (by kernel_rfl)) (sl_cons c (se_var (by kernel_rfl) (by kernel_rfl)) (sl_nil) (fun _ => rfl)) (fun _ => rfl)) (fun _ => rfl)))) (by kernel_rfl) (by decide +kernel) (fun _ _ _ => rfl)) (ssl_cons (ss_ret c (se_tup c (sl_cons c (se_bin c rfl (se_var (by kernel_rfl) (by kernel_rfl)) (se_var (by kernel_rfl) (by kernel_rfl))) (sl_cons c (se_bin c rfl (se_var (by kernel_rfl) (by kernel_rfl)) (se_var (by kernel_rfl) (by kernel_rfl))) (sl_nil) (fun _ => rfl)) (fun _ => rfl)) (len_le (len_c (len_c len_0)) (by decide)))) (ssl_nil)))

noncomputable def F_radd : FnD := ⟨[(PySem.Str.ofString "a"), (PySem.Str.ofString "b")], tA 36, tB 36, tS 36, [(PySem.Str.ofString "a"), (PySem.Str.ofString "b")]⟩
theorem F_radd_ok : F_radd.OK where
  kind := by kernel_rfl
  co := by kernel_rfl
  gen := by kernel_rfl
  nd := by decide +kernel
  loc := by decide +kernel
  pre := ⟨_, rfl⟩
  bind := by
    intro name qual doc pm cdv ct an vals h
    obtain ⟨v0, v1, rfl⟩ := len_2 h
    kernel_rfl
noncomputable def b_radd : SL := .cons (.ret (.call 24 (.cons (.bin .add (.bin .mul (.idx (.bvar 0) (.cint 0)) (.idx (.bvar 1) (.cint 1))) (.bin .mul (.idx (.bvar 1) (.cint 0)) (.idx (.bvar 0) (.cint 1)))) (.cons (.bin .mul (.idx (.bvar 0) (.cint 1)) (.idx (.bvar 1) (.cint 1))) (.nil))))) (.nil)
theorem s_radd {C : Cx} {Γ : Env0} {n wf : Nat} (c : COK C) (g : GOK C n Γ) : SSL C Γ n wf F_radd.scope.names F_radd.xs (F_radd.body) b_radd :=
  ssl_cons (ss_ret c (se_call c (f := 24) g (by kernel_rfl) (by kernel_rfl) (by kernel_rfl) (sl_cons c (se_bin c rfl (se_bin c rfl (se_idx c (sb_var (by kernel_rfl) (by kernel_rfl)) (se_int) (fun _ _ _ => rfl)) (se_idx c (sb_var (by kernel_rfl) (by kernel_rfl)) (se_int) (fun _ _ _ => rfl))) (se_bin c rfl (se_idx c (sb_var (by kernel_rfl) (by kernel_rfl)) (se_int) (fun _ _ _ => rfl)) (se_idx c (sb_var (by kernel_rfl) (by kernel_rfl)) (se_int) (fun _ _ _ => rfl)))) (sl_cons c (se_bin c rfl (se_idx c (sb_var (by kernel_rfl) (by kernel_rfl)) (se_int) (fun _ _ _ => rfl)) (se_idx c (sb_var (by kernel_rfl) (by kernel_rfl)) (se_int) (fun _ _ _ => rfl))) (sl_nil) (fun _ => rfl)) (fun _ => rfl)) (fun _ => rfl))) (ssl_nil)

noncomputable def F_rsub : FnD := ⟨[(PySem.Str.ofString "a"), (PySem.Str.ofString "b")], tA 37, tB 37, tS 37, [(PySem.Str.ofString "a"), (PySem.Str.ofString "b")]⟩
theorem F_rsub_ok : F_rsub.OK where
  kind := by kernel_rfl
  co := by kernel_rfl
  gen := by kernel_rfl
  nd := by decide +kernel
  loc := by decide +kernel
  pre := ⟨_, rfl⟩
  bind := by
    intro name qual doc pm cdv ct an vals h
    obtain ⟨v0, v1, rfl⟩ := len_2 h
    kernel_rfl
noncomputable def b_rsub : SL := .cons (.ret (.call 24 (.cons (.bin .sub (.bin .mul (.idx (.bvar 0) (.cint 0)) (.idx (.bvar 1) (.cint 1))) (.bin .mul (.idx (.bvar 1) (.cint 0)) (.idx (.bvar 0) (.cint 1)))) (.cons (.bin .mul (.idx (.bvar 0) (.cint 1)) (.idx (.bvar 1) (.cint 1))) (.nil))))) (.nil)
theorem s_rsub {C : Cx} {Γ : Env0} {n wf : Nat} (c : COK C) (g : GOK C n Γ) : SSL C Γ n wf F_rsub.scope.names F_rsub.xs (F_rsub.body) b_rsub :=
  ssl_cons (ss_ret c (se_call c (f := 24) g (by kernel_rfl) (by kernel_rfl) (by kernel_rfl) (sl_cons c (se_bin c rfl (se_bin c rfl (se_idx c (sb_var (by kernel_rfl) (by kernel_rfl)) (se_int) (fun _ _ _ => rfl)) (se_idx c (sb_var (by kernel_rfl) (by kernel_rfl)) (se_int) (fun _ _ _ => rfl))) (se_bin c rfl (se_idx c (sb_var (by kernel_rfl) (by kernel_rfl)) (se_int) (fun _ _ _ => rfl)) (se_idx c (sb_var (by kernel_rfl) (by kernel_rfl)) (se_int) (fun _ _ _ => rfl)))) (sl_cons c (se_bin c rfl (se_idx c (sb_var (by kernel_rfl) (by kernel_rfl)) (se_int) (fun _ _ _ => rfl)) (se_idx c (sb_var (by kernel_rfl) (by kernel_rfl)) (se_int) (fun _ _ _ => rfl))) (sl_nil) (fun _ => rfl)) (fun _ => rfl)) (fun _ => rfl))) (ssl_nil)

noncomputable def F_rmul : FnD := ⟨[(PySem.Str.ofString "a"), (PySem.Str.ofString "b")], tA 38, tB 38, tS 38, [(PySem.Str.ofString "a"), (PySem.Str.ofString "b")]⟩
theorem F_rmul_ok : F_rmul.OK where
  kind := by kernel_rfl
  co := by kernel_rfl
  gen := by kernel_rfl
  nd := by decide +kernel
  loc := by decide +kernel
  pre := ⟨_, rfl⟩
  bind := by
    intro name qual doc pm cdv ct an vals h
    obtain ⟨v0, v1, rfl⟩ := len_2 h
    kernel_rfl
noncomputable def b_rmul : SL := .cons (.ret (.call 24 (.cons (.bin .mul (.idx (.bvar 0) (.cint 0)) (.idx (.bvar 1) (.cint 0))) (.cons (.bin .mul (.idx (.bvar 0) (.cint 1)) (.idx (.bvar 1) (.cint 1))) (.nil))))) (.nil)
theorem s_rmul {C : Cx} {Γ : Env0} {n wf : Nat} (c : COK C) (g : GOK C n Γ) : SSL C Γ n wf F_rmul.scope.names F_rmul.xs (F_rmul.body) b_rmul :=
  ssl_cons (ss_ret c (se_call c (f := 24) g (by kernel_rfl) (by kernel_rfl) (by kernel_rfl) (sl_cons c (se_bin c rfl (se_idx c (sb_var (by kernel_rfl) (by kernel_rfl)) (se_int) (fun _ _ _ => rfl)) (se_idx c (sb_var (by kernel_rfl) (by kernel_rfl)) (se_int) (fun _ _ _ => rfl))) (sl_cons c (se_bin c rfl (se_idx c (sb_var (by kernel_rfl) (by kernel_rfl)) (se_int) (fun _ _ _ => rfl)) (se_idx c (sb_var (by kernel_rfl) (by kernel_rfl)) (se_int) (fun _ _ _ => rfl))) (sl_nil) (fun _ => rfl)) (fun _ => rfl)) (fun _ => rfl))) (ssl_nil)

noncomputable def F_rdiv : FnD := ⟨[(PySem.Str.ofString "a"), (PySem.Str.ofString "b")], tA 39, tB 39, tS 39, [(PySem.Str.ofString "a"), (PySem.Str.ofString "b")]⟩
theorem F_rdiv_ok : F_rdiv.OK where
  kind := by kernel_rfl
  co := by kernel_rfl
  gen := by kernel_rfl
  nd := by decide +kernel
  loc := by decide +kernel
  pre := ⟨_, rfl⟩
  bind := by
    intro name qual doc pm cdv ct an vals h
    obtain ⟨v0, v1, rfl⟩ := len_2 h
    kernel_rfl
noncomputable def b_rdiv : SL := .cons (.ret (.call 24 (.cons (.bin .mul (.idx (.bvar 0) (.cint 0)) (.idx (.bvar 1) (.cint 1))) (.cons (.bin .mul (.idx (.bvar 0) (.cint 1)) (.idx (.bvar 1) (.cint 0))) (.nil))))) (.nil)
theorem s_rdiv {C : Cx} {Γ : Env0} {n wf : Nat} (c : COK C) (g : GOK C n Γ) : SSL C Γ n wf F_rdiv.scope.names F_rdiv.xs (F_rdiv.body) b_rdiv :=
  ssl_cons (ss_ret c (se_call c (f := 24) g (by kernel_rfl) (by kernel_rfl) (by kernel_rfl) (sl_cons c (se_bin c rfl (se_idx c (sb_var (by kernel_rfl) (by kernel_rfl)) (se_int) (fun _ _ _ => rfl)) (se_idx c (sb_var (by kernel_rfl) (by kernel_rfl)) (se_int) (fun _ _ _ => rfl))) (sl_cons c (se_bin c rfl (se_idx c (sb_var (by kernel_rfl) (by kernel_rfl)) (se_int) (fun _ _ _ => rfl)) (se_idx c (sb_var (by kernel_rfl) (by kernel_rfl)) (se_int) (fun _ _ _ => rfl))) (sl_nil) (fun _ => rfl)) (fun _ => rfl)) (fun _ => rfl))) (ssl_nil)

noncomputable def F_rneg : FnD := ⟨[(PySem.Str.ofString "a")], tA 40, tB 40, tS 40, [(PySem.Str.ofString "a")]⟩
theorem F_rneg_ok : F_rneg.OK where
  kind := by kernel_rfl
  co := by kernel_rfl
  gen := by kernel_rfl
  nd := by decide +kernel
  loc := by decide +kernel
  pre := ⟨_, rfl⟩
  bind := by
    intro name qual doc pm cdv ct an vals h
    obtain ⟨v0, rfl⟩ := len_1 h
    kernel_rfl
noncomputable def b_rneg : SL := .cons (.ret (.tup (.cons (.bin .sub (.cint 0) (.idx (.bvar 0) (.cint 0))) (.cons (.idx (.bvar 0) (.cint 1)) (.nil))))) (.nil)
theorem s_rneg {C : Cx} {Γ : Env0} {n wf : Nat} (c : COK C) (g : GOK C n Γ) : SSL C Γ n wf F_rneg.scope.names F_rneg.xs (F_rneg.body) b_rneg :=
  ssl_cons (ss_ret c (se_tup c (sl_cons c (se_bin c rfl (se_int) (se_idx c (sb_var (by kernel_rfl) (by kernel_rfl)) (se_int) (fun _ _ _ => rfl))) (sl_cons c (se_idx c (sb_var (by kernel_rfl) (by kernel_rfl)) (se_int) (fun _ _ _ => rfl)) (sl_nil) (fun _ => rfl)) (fun _ => rfl)) (len_le (len_c (len_c len_0)) (by decide)))) (ssl_nil)

noncomputable def F_rinv : FnD := ⟨[(PySem.Str.ofString "a")], tA 41, tB 41, tS 41, [(PySem.Str.ofString "a")]⟩
theorem F_rinv_ok : F_rinv.OK where
  kind := by kernel_rfl
  co := by kernel_rfl
  gen := by kernel_rfl
  nd := by decide +kernel
  loc := by decide +kernel
  pre := ⟨_, rfl⟩
  bind := by
    intro name qual doc pm cdv ct an vals h
    obtain ⟨v0, rfl⟩ := len_1 h
    kernel_rfl
noncomputable def b_rinv : SL := .cons (.ret (.call 24 (.cons (.idx (.bvar 0) (.cint 1)) (.cons (.idx (.bvar 0) (.cint 0)) (.nil))))) (.nil)
theorem s_rinv {C : Cx} {Γ : Env0} {n wf : Nat} (c : COK C) (g : GOK C n Γ) : SSL C Γ n wf F_rinv.scope.names F_rinv.xs (F_rinv.body) b_rinv :=
  ssl_cons (ss_ret c (se_call c (f := 24) g (by kernel_rfl) (by kernel_rfl) (by kernel_rfl) (sl_cons c (se_idx c (sb_var (by kernel_rfl) (by kernel_rfl)) (se_int) (fun _ _ _ => rfl)) (sl_cons c (se_idx c (sb_var (by kernel_rfl) (by kernel_rfl)) (se_int) (fun _ _ _ => rfl)) (sl_nil) (fun _ => rfl)) (fun _ => rfl)) (fun _ => rfl))) (ssl_nil)

noncomputable def F_ris_whole : FnD := ⟨[(PySem.Str.ofString "a")], tA 42, tB 42, tS 42, [(PySem.Str.ofString "a")]⟩
theorem F_ris_whole_ok : F_ris_whole.OK where
  kind := by kernel_rfl
  co := by kernel_rfl
  gen := by kernel_rfl
  nd := by decide +kernel
  loc := by decide +kernel
  pre := ⟨_, rfl⟩
  bind := by
    intro name qual doc pm cdv ct an vals h
    obtain ⟨v0, rfl⟩ := len_1 h
    kernel_rfl
noncomputable def b_ris_whole : SL := .cons (.ret (.cmp .eq (.idx (.bvar 0) (.cint 1)) (.cint 1))) (.nil)
theorem s_ris_whole {C : Cx} {Γ : Env0} {n wf : Nat} (c : COK C) (g : GOK C n Γ) : SSL C Γ n wf F_ris_whole.scope.names F_ris_whole.xs (F_ris_whole.body) b_ris_whole :=
  ssl_cons (ss_ret c (se_cmp c rfl (SE.sb (se_idx c (sb_var (by kernel_rfl) (by kernel_rfl)) (se_int) (fun _ _ _ => rfl))) (SE.sb (se_int)) (by kernel_rfl))) (ssl_nil)

noncomputable def F_shape : FnD := ⟨[(PySem.Str.ofString "a")], tA 44, tB 44, tS 44, [(PySem.Str.ofString "a")]⟩
theorem F_shape_ok : F_shape.OK where
  kind := by kernel_rfl
  co := by kernel_rfl
  gen := by kernel_rfl
  nd := by decide +kernel
  loc := by decide +kernel
  pre := ⟨_, rfl⟩
  bind := by
    intro name qual doc pm cdv ct an vals h
    obtain ⟨v0, rfl⟩ := len_1 h
    kernel_rfl
noncomputable def b_shape : SL := .cons (.ret (.tup (.cons (.len (.bvar 0)) (.cons (.ite (.cmp .gt (.len (.bvar 0)) (.cint 0)) (.len (.idx (.bvar 0) (.cint 0))) (.cint 0)) (.nil))))) (.nil)
theorem s_shape {C : Cx} {Γ : Env0} {n wf : Nat} (c : COK C) (g : GOK C n Γ) : SSL C Γ n wf F_shape.scope.names F_shape.xs (F_shape.body) b_shape :=
  ssl_cons (ss_ret c (se_tup c (sl_cons c (se_len c (by kernel_rfl) (sb_var (by kernel_rfl) (by kernel_rfl)) (fun _ => rfl)) (sl_cons c (se_ite c (st_cmp c rfl (SE.sb (se_len c (by kernel_rfl) (sb_var (by kernel_rfl) (by kernel_rfl)) (fun _ => rfl))) (SE.sb (se_int)) (by kernel_rfl)) (se_len c (by kernel_rfl) (SE.sb (se_idx c (sb_var (by kernel_rfl) (by kernel_rfl)) (se_int) (fun _ _ _ => rfl))) (fun _ => rfl)) (se_int)) (sl_nil) (fun _ => rfl)) (fun _ => rfl)) (len_le (len_c (len_c len_0)) (by decide)))) (ssl_nil)

noncomputable def F_need_shape : FnD := ⟨[(PySem.Str.ofString "is_right"), (PySem.Str.ofString "text")], tA 45, tB 45, tS 45, [(PySem.Str.ofString "is_right"), (PySem.Str.ofString "text")]⟩
theorem F_need_shape_ok : F_need_shape.OK where
  kind := by kernel_rfl
  co := by kernel_rfl
  gen := by kernel_rfl
  nd := by decide +kernel
  loc := by decide +kernel
  pre := ⟨_, rfl⟩
  bind := by
    intro name qual doc pm cdv ct an vals h
    obtain ⟨v0, v1, rfl⟩ := len_2 h
    kernel_rfl
noncomputable def b_need_shape : SL := .cons (.ite (.not (.var 0)) (.cons (.fail) (.nil)) (.nil)) (.nil)
theorem s_need_shape {C : Cx} {Γ : Env0} {n wf : Nat} (c : COK C) (g : GOK C n Γ) : SSL C Γ n wf F_need_shape.scope.names F_need_shape.xs (F_need_shape.body) b_need_shape :=
  ssl_cons (ss_ite c (st_not c (ST.of c (se_var (by kernel_rfl) (by kernel_rfl)) (fun _ _ => rfl))) (ssl_cons (ss_fail) (ssl_nil)) (ssl_nil)) (ssl_nil)

noncomputable def F_copied : FnD := ⟨[(PySem.Str.ofString "a")], tA 46, tB 46, tS 46, [(PySem.Str.ofString "a")]⟩
theorem F_copied_ok : F_copied.OK where
  kind := by kernel_rfl
  co := by kernel_rfl
  gen := by kernel_rfl
  nd := by decide +kernel
  loc := by decide +kernel
  pre := ⟨_, rfl⟩
  bind := by
    intro name qual doc pm cdv ct an vals h
    obtain ⟨v0, rfl⟩ := len_1 h
    kernel_rfl
noncomputable def b_copied : SL := .cons (.ret (.comp (.seq (.var 0)) 0 (.cbool true) (.copy (.var 1)))) (.nil)
theorem s_copied {C : Cx} {Γ : Env0} {n wf : Nat} (c : COK C) (g : GOK C n Γ) : SSL C Γ n wf F_copied.scope.names F_copied.xs (F_copied.body) b_copied :=
  ssl_cons (ss_ret c (se_comp c (ts := [(PySem.Str.ofString "row")]) (si_seq c (se_var (by kernel_rfl) (by kernel_rfl)) (fun _ _ => rfl)) (by decide +kernel) rfl rfl ⟨(by kernel_rfl), (by decide +kernel), trivial⟩ ⟨_, _, rfl, rfl⟩ (.inl ⟨rfl, rfl⟩) (se_copy c (by kernel_rfl) (se_var (by kernel_rfl) (by kernel_rfl)) (fun _ => rfl)) (fun _ _ => rfl))) (ssl_nil)

noncomputable def F_swap_rows : FnD := ⟨[(PySem.Str.ofString "a"), (PySem.Str.ofString "one"), (PySem.Str.ofString "other")], tA 47, tB 47, tS 47, [(PySem.Str.ofString "a"), (PySem.Str.ofString "one"), (PySem.Str.ofString "other")]⟩
theorem F_swap_rows_ok : F_swap_rows.OK where
  kind := by kernel_rfl
  co := by kernel_rfl
  gen := by kernel_rfl
  nd := by decide +kernel
  loc := by decide +kernel
  pre := ⟨_, rfl⟩
  bind := by
    intro name qual doc pm cdv ct an vals h
    obtain ⟨v0, v1, v2, rfl⟩ := len_3 h
    kernel_rfl
noncomputable def b_swap_rows : SL := .cons (.swap 0 (.var 1) (.var 2) (.idx (.bvar 0) (.var 2)) (.idx (.bvar 0) (.var 1))) (.nil)
noncomputable def b1_swap_rows : S := .swap 0 (.var 1) (.var 2) (.idx (.bvar 0) (.var 2)) (.idx (.bvar 0) (.var 1))
theorem s_swap_rows {C : Cx} {Γ : Env0} {n wf : Nat} (c : COK C) (g : GOK C n Γ) : ∃ st, F_swap_rows.body = [st] ∧ SSo C Γ n wf F_swap_rows.scope.names F_swap_rows.xs st b1_swap_rows :=
  ⟨_, rfl, (sso_swap c (se_idx c (sb_var (by kernel_rfl) (by kernel_rfl)) (se_var (by kernel_rfl) (by kernel_rfl)) (fun _ _ _ => rfl)) (se_idx c (sb_var (by kernel_rfl) (by kernel_rfl)) (se_var (by kernel_rfl) (by kernel_rfl)) (fun _ _ _ => rfl)) (se_var (by kernel_rfl) (by kernel_rfl)) (se_var (by kernel_rfl) (by kernel_rfl)) (by kernel_rfl) (by kernel_rfl) (fun _ => rfl) (fun _ => rfl) (by rintro ⟨⟨k1, n1, g1, c1, m1⟩, l1, gl1, ce1, q1, f1, cd1, fr1, b1⟩ h1 h2; simp only at h1 h2; subst h1 h2; kernel_rfl))⟩

noncomputable def F_take_off : FnD := ⟨[(PySem.Str.ofString "a"), (PySem.Str.ofString "row"), (PySem.Str.ofString "source"), (PySem.Str.ofString "number")], tA 48, tB 48, tS 48, [(PySem.Str.ofString "a"), (PySem.Str.ofString "row"), (PySem.Str.ofString "source"), (PySem.Str.ofString "number")]⟩
theorem F_take_off_ok : F_take_off.OK where
  kind := by kernel_rfl
  co := by kernel_rfl
  gen := by kernel_rfl
  nd := by decide +kernel
  loc := by decide +kernel
  pre := ⟨_, rfl⟩
  bind := by
    intro name qual doc pm cdv ct an vals h
    obtain ⟨v0, v1, v2, v3, rfl⟩ := len_4 h
    kernel_rfl
noncomputable def b_take_off : SL := .cons (.setI 0 (.var 1) (.comp (.enum (.idx (.bvar 0) (.var 1))) 2 (.cbool true) (.call 26 (.cons (.var 5) (.cons (.call 27 (.cons (.var 3) (.cons (.idx (.idx (.bvar 0) (.var 2)) (.var 4)) (.nil)))) (.nil)))))) (.nil)
noncomputable def b1_take_off : S := .setI 0 (.var 1) (.comp (.enum (.idx (.bvar 0) (.var 1))) 2 (.cbool true) (.call 26 (.cons (.var 5) (.cons (.call 27 (.cons (.var 3) (.cons (.idx (.idx (.bvar 0) (.var 2)) (.var 4)) (.nil)))) (.nil)))))
theorem s_take_off {C : Cx} {Γ : Env0} {n wf : Nat} (c : COK C) (g : GOK C n Γ) : ∃ st, F_take_off.body = [st] ∧ SSo C Γ n wf F_take_off.scope.names F_take_off.xs st b1_take_off :=
  ⟨_, rfl, (sso_setI c (se_comp c (ts := [(PySem.Str.ofString "at"), (PySem.Str.ofString "one")]) (si_enum c (by kernel_rfl) (se_idx c (sb_var (by kernel_rfl) (by kernel_rfl)) (se_var (by kernel_rfl) (by kernel_rfl)) (fun _ _ _ => rfl)) (fun _ => rfl)) (by decide +kernel) rfl rfl ⟨(by kernel_rfl), (by decide +kernel), (by kernel_rfl), (by decide +kernel), trivial⟩ ⟨_, _, _, rfl, (.cons _ _ (.cons _ _ .nil))⟩ (.inl ⟨rfl, rfl⟩) (se_call c (f := 26) g (by kernel_rfl) (by kernel_rfl) (by kernel_rfl) (sl_cons c (se_var (by kernel_rfl) (by kernel_rfl)) (sl_cons c (se_call c (f := 27) g (by kernel_rfl) (by kernel_rfl) (by kernel_rfl) (sl_cons c (se_var (by kernel_rfl) (by kernel_rfl)) (sl_cons c (se_idx c (SE.sb (se_idx c (sb_var (by kernel_rfl) (by kernel_rfl)) (se_var (by kernel_rfl) (by kernel_rfl)) (fun _ _ _ => rfl))) (se_var (by kernel_rfl) (by kernel_rfl)) (fun _ _ _ => rfl)) (sl_nil) (fun _ => rfl)) (fun _ => rfl)) (fun _ => rfl)) (sl_nil) (fun _ => rfl)) (fun _ => rfl)) (fun _ => rfl)) (fun _ _ => rfl)) (se_var (by kernel_rfl) (by kernel_rfl)) (by kernel_rfl) (by kernel_rfl) (fun _ => rfl))⟩

noncomputable def F_echelon : FnD := ⟨[(PySem.Str.ofString "a")], tA 49, tB 49, tS 49, [(PySem.Str.ofString "a"), (PySem.Str.ofString "found"), (PySem.Str.ofString "pivots"), (PySem.Str.ofString "column"), (PySem.Str.ofString "row"), (PySem.Str.ofString "spots"), (PySem.Str.ofString "lead"), (PySem.Str.ofString "other")]⟩
theorem F_echelon_ok : F_echelon.OK where
  kind := by kernel_rfl
  co := by kernel_rfl
  gen := by kernel_rfl
  nd := by decide +kernel
  loc := by decide +kernel
  pre := ⟨_, rfl⟩
  bind := by
    intro name qual doc pm cdv ct an vals h
    obtain ⟨v0, rfl⟩ := len_1 h
    kernel_rfl
noncomputable def b_echelon : SL := .cons (.asg2 [1, 2] (.cons (.call 30 (.cons (.var 0) (.nil))) (.cons (.lst (.nil)) (.nil)))) (.cons (.for [3] false (.rng1 (.idx (.call 33 (.cons (.var 0) (.nil))) (.cint 1))) (.cons (.asg 4 (.len (.bvar 2))) (.cons (.asg 5 (.comp (.rng2 (.var 4) (.len (.bvar 1))) 0 (.cmp .ne (.idx (.idx (.bvar 1) (.var 8)) (.var 3)) (.glob false)) (.var 8))) (.cons (.share 5) (.cons (.ite (.cmp .eq (.len (.bvar 5)) (.cint 0)) (.cons (.cont) (.nil)) (.nil)) (.cons (.muts 35 1 (.cons (.var 4) (.cons (.idx (.bvar 5) (.cint 0)) (.nil)))) (.cons (.asg 6 (.idx (.idx (.bvar 1) (.var 4)) (.var 3))) (.cons (.setI 1 (.var 4) (.comp (.seq (.idx (.bvar 1) (.var 4))) 0 (.cbool true) (.call 28 (.cons (.var 8) (.cons (.var 6) (.nil)))))) (.cons (.for [7] false (.rng1 (.len (.bvar 1))) (.cons (.ite (.bop true (.cmp .ne (.bvar 7) (.bvar 4)) (.cmp .ne (.idx (.idx (.bvar 1) (.var 7)) (.var 3)) (.glob false))) (.cons (.muts 36 1 (.cons (.var 7) (.cons (.var 4) (.cons (.idx (.idx (.bvar 1) (.var 7)) (.var 3)) (.nil))))) (.nil)) (.nil)) (.nil))) (.cons (.append 2 (.var 3)) (.nil))))))))))) (.cons (.share 1) (.cons (.share 2) (.cons (.ret (.tup (.cons (.var 1) (.cons (.var 2) (.nil))))) (.nil)))))
theorem s_echelon {C : Cx} {Γ : Env0} {n wf : Nat} (c : COK C) (g : GOK C n Γ) : SSL C Γ n wf F_echelon.scope.names F_echelon.xs (F_echelon.body) b_echelon :=
  ssl_cons (ss_asg2 c (names := [(PySem.Str.ofString "found"), (PySem.Str.ofString "pivots")]) (slf_cons c (se_call c (f := 30) g (by kernel_rfl) (by kernel_rfl) (by kernel_rfl) (sl_cons c (se_var (by kernel_rfl) (by kernel_rfl)) (sl_nil) (fun _ => rfl)) (fun _ => rfl)) (slf_cons c (se_list c (sl_nil) (len_le len_0 (by decide))) (slf_nil c) (fun _ => star_List ..)) (fun _ => rfl)) ⟨(by kernel_rfl), (by decide +kernel), (by kernel_rfl), (by decide +kernel), trivial⟩ rfl (by decide) (.cons _ _ (.cons _ _ .nil)) (by rintro ⟨⟨k1, n1, g1, c1, m1⟩, l1, gl1, ce1, q1, f1, cd1, fr1, b1⟩ h1 h2; simp only at h1 h2; subst h1 h2; kernel_rfl)) (ssl_cons (ss_for c (names := [(PySem.Str.ofString "column")]) (si_rng1 c (by kernel_rfl) (se_idx c (SE.sb (se_call c (f := 33) g (by kernel_rfl) (by kernel_rfl) (by kernel_rfl) (sl_cons c (se_var (by kernel_rfl) (by kernel_rfl)) (sl_nil) (fun _ => rfl)) (fun _ => rfl))) (se_int) (fun _ _ _ => rfl)) (fun _ => rfl) (fun _ _ => rfl)) (ssl_cons (ss_asg c (se_len c (by kernel_rfl) (sb_var (by kernel_rfl) (by kernel_rfl)) (fun _ => rfl)) (by kernel_rfl) (by decide +kernel) (fun _ _ _ => rfl)) (ssl_cons (ss_asgC c (ts := [(PySem.Str.ofString "at")]) (si_rng2 c (by kernel_rfl) (se_var (by kernel_rfl) (by kernel_rfl)) (se_len c (by kernel_rfl) (sb_var (by kernel_rfl) (by kernel_rfl)) (fun _ => rfl)) (fun _ => rfl) (fun _ => rfl) (fun _ _ => rfl)) (by decide +kernel) rfl rfl ⟨(by kernel_rfl), (by decide +kernel), trivial⟩ ⟨_, _, rfl, rfl⟩ (.inr ⟨_, rfl, st_cmp c rfl (SE.sb (se_idx c (SE.sb (se_idx c (sb_var (by kernel_rfl) (by kernel_rfl)) (se_var (by kernel_rfl) (by kernel_rfl)) (fun _ _ _ => rfl))) (se_var (by kernel_rfl) (by kernel_rfl)) (fun _ _ _ => rfl))) (SE.sb (se_glob c (one := false) (by kernel_rfl) (by kernel_rfl) rfl)) (by kernel_rfl)⟩) (se_var (by kernel_rfl) (by kernel_rfl)) (fun _ _ => rfl) (by kernel_rfl) (by decide +kernel) (by rintro ⟨⟨k1, n1, g1, c1, m1⟩, l1, gl1, ce1, q1, f1, cd1, fr1, b1⟩ h1 h2; simp only at h1 h2; subst h1 h2; kernel_rfl)) (ssl_share (ssl_cons (ss_ite c (st_cmp c rfl (SE.sb (se_len c (by kernel_rfl) (sb_var (by kernel_rfl) (by kernel_rfl)) (fun _ => rfl))) (SE.sb (se_int)) (by kernel_rfl)) (ssl_cons (ss_cont) (ssl_nil)) (ssl_nil)) (ssl_cons (ss_muts c (f := 35) g (by kernel_rfl) (by kernel_rfl) (by kernel_rfl) (by kernel_rfl) (by kernel_rfl) (sl_cons c (se_var (by kernel_rfl) (by kernel_rfl)) (sl_cons c (se_idx c (sb_var (by kernel_rfl) (by kernel_rfl)) (se_int) (fun _ _ _ => rfl)) (sl_nil) (fun _ => rfl)) (fun _ => rfl)) (fun _ => rfl)) (ssl_cons (ss_asg c (se_idx c (SE.sb (se_idx c (sb_var (by kernel_rfl) (by kernel_rfl)) (se_var (by kernel_rfl) (by kernel_rfl)) (fun _ _ _ => rfl))) (se_var (by kernel_rfl) (by kernel_rfl)) (fun _ _ _ => rfl)) (by kernel_rfl) (by decide +kernel) (fun _ _ _ => rfl)) (ssl_cons (SSo.ss (sso_setI c (se_comp c (ts := [(PySem.Str.ofString "one")]) (si_seq c (se_idx c (sb_var (by kernel_rfl) (by kernel_rfl)) (se_var (by kernel_rfl) (by kernel_rfl)) (fun _ _ _ => rfl)) (fun _ _ => rfl)) (by decide +kernel) rfl rfl ⟨(by kernel_rfl), (by decide +kernel), trivial⟩ ⟨_, _, rfl, rfl⟩ (.inl ⟨rfl, rfl⟩) (se_call c (f := 28) g (by kernel_rfl) (by kernel_rfl) (by kernel_rfl) (sl_cons c (se_var (by kernel_rfl) (by kernel_rfl)) (sl_cons c (se_var (by kernel_rfl) (by kernel_rfl)) (sl_nil) (fun _ => rfl)) (fun _ => rfl)) (fun _ => rfl)) (fun _ _ => rfl)) (se_var (by kernel_rfl) (by kernel_rfl)) (by kernel_rfl) (by kernel_rfl) (fun _ => rfl))) (ssl_cons (ss_for c (names := [(PySem.Str.ofString "other")]) (si_rng1 c (by kernel_rfl) (se_len c (by kernel_rfl) (sb_var (by kernel_rfl) (by kernel_rfl)) (fun _ => rfl)) (fun _ => rfl) (fun _ _ => rfl)) (ssl_cons (ss_ite c (st_and c (st_cmp c rfl (sb_var (by kernel_rfl) (by kernel_rfl)) (sb_var (by kernel_rfl) (by kernel_rfl)) (by kernel_rfl)) (st_and1 c (st_cmp c rfl (SE.sb (se_idx c (SE.sb (se_idx c (sb_var (by kernel_rfl) (by kernel_rfl)) (se_var (by kernel_rfl) (by kernel_rfl)) (fun _ _ _ => rfl))) (se_var (by kernel_rfl) (by kernel_rfl)) (fun _ _ _ => rfl))) (SE.sb (se_glob c (one := false) (by kernel_rfl) (by kernel_rfl) rfl)) (by kernel_rfl)))) (ssl_cons (ss_muts c (f := 36) g (by kernel_rfl) (by kernel_rfl) (by kernel_rfl) (by kernel_rfl) (by kernel_rfl) (sl_cons c (se_var (by kernel_rfl) (by kernel_rfl)) (sl_cons c (se_var (by kernel_rfl) (by kernel_rfl)) (sl_cons c (se_idx c (SE.sb (se_idx c (sb_var (by kernel_rfl) (by kernel_rfl)) (se_var (by kernel_rfl) (by kernel_rfl)) (fun _ _ _ => rfl))) (se_var (by kernel_rfl) (by kernel_rfl)) (fun _ _ _ => rfl)) (sl_nil) (fun _ => rfl)) (fun _ => rfl)) (fun _ => rfl)) (fun _ => rfl)) (ssl_nil)) (ssl_nil)) (ssl_nil)) ⟨(by kernel_rfl), (by decide +kernel), trivial⟩ ⟨_, _, rfl, rfl⟩ (fun _ _ => rfl)) (ssl_cons (ss_append c (se_var (by kernel_rfl) (by kernel_rfl)) (by kernel_rfl) (by kernel_rfl) (by kernel_rfl) (fun _ => rfl) (fun _ _ => rfl)) (ssl_nil)))))))))) ⟨(by kernel_rfl), (by decide +kernel), trivial⟩ ⟨_, _, rfl, rfl⟩ (fun _ _ => rfl)) (ssl_share (ssl_share (ssl_cons (ss_ret c (se_tup c (sl_cons c (se_var (by kernel_rfl) (by kernel_rfl)) (sl_cons c (se_var (by kernel_rfl) (by kernel_rfl)) (sl_nil) (fun _ => rfl)) (fun _ => rfl)) (len_le (len_c (len_c len_0)) (by decide)))) (ssl_nil)))))

noncomputable def F_null_base : FnD := ⟨[(PySem.Str.ofString "a")], tA 51, tB 51, tS 51, [(PySem.Str.ofString "a"), (PySem.Str.ofString "reduced"), (PySem.Str.ofString "pivots"), (PySem.Str.ofString "found"), (PySem.Str.ofString "column"), (PySem.Str.ofString "one"), (PySem.Str.ofString "at"), (PySem.Str.ofString "spot")]⟩
theorem F_null_base_ok : F_null_base.OK where
  kind := by kernel_rfl
  co := by kernel_rfl
  gen := by kernel_rfl
  nd := by decide +kernel
  loc := by decide +kernel
  pre := ⟨_, rfl⟩
  bind := by
    intro name qual doc pm cdv ct an vals h
    obtain ⟨v0, rfl⟩ := len_1 h
    kernel_rfl
noncomputable def b_null_base : SL := .cons (.asgT [1, 2] (.call 37 (.cons (.var 0) (.nil)))) (.cons (.asg 3 (.lst (.nil))) (.cons (.for [4] false (.rng1 (.idx (.call 33 (.cons (.var 0) (.nil))) (.cint 1))) (.cons (.ite (.cmp .isin (.bvar 4) (.bvar 2)) (.cons (.cont) (.nil)) (.nil)) (.cons (.asg 5 (.bin .mul (.lst (.cons (.glob false) (.nil))) (.idx (.call 33 (.cons (.var 0) (.nil))) (.cint 1)))) (.cons (.setI 5 (.var 4) (.glob true)) (.cons (.for [6, 7] true (.enum (.var 2)) (.cons (.setI 5 (.var 7) (.call 29 (.cons (.idx (.idx (.bvar 1) (.var 6)) (.var 4)) (.nil)))) (.nil))) (.cons (.share 5) (.cons (.append 3 (.var 5)) (.nil)))))))) (.cons (.share 3) (.cons (.ret (.var 3)) (.nil)))))
theorem s_null_base {C : Cx} {Γ : Env0} {n wf : Nat} (c : COK C) (g : GOK C n Γ) : SSL C Γ n wf F_null_base.scope.names F_null_base.xs (F_null_base.body) b_null_base :=
  ssl_cons (ss_asgTL c (names := [(PySem.Str.ofString "reduced"), (PySem.Str.ofString "pivots")]) (se_call c (f := 37) g (by kernel_rfl) (by kernel_rfl) (by kernel_rfl) (sl_cons c (se_var (by kernel_rfl) (by kernel_rfl)) (sl_nil) (fun _ => rfl)) (fun _ => rfl)) ⟨(by kernel_rfl), (by decide +kernel), (by kernel_rfl), (by decide +kernel), trivial⟩ (.cons _ _ (.cons _ _ .nil)) (fun _ => rfl) (fun _ => rfl)) (ssl_cons (ss_asg c (se_list c (sl_nil) (len_le len_0 (by decide))) (by kernel_rfl) (by decide +kernel) (fun _ _ _ => rfl)) (ssl_cons (ss_for c (names := [(PySem.Str.ofString "column")]) (si_rng1 c (by kernel_rfl) (se_idx c (SE.sb (se_call c (f := 33) g (by kernel_rfl) (by kernel_rfl) (by kernel_rfl) (sl_cons c (se_var (by kernel_rfl) (by kernel_rfl)) (sl_nil) (fun _ => rfl)) (fun _ => rfl))) (se_int) (fun _ _ _ => rfl)) (fun _ => rfl) (fun _ _ => rfl)) (ssl_cons (ss_ite c (st_cmp c rfl (sb_var (by kernel_rfl) (by kernel_rfl)) (sb_var (by kernel_rfl) (by kernel_rfl)) (by kernel_rfl)) (ssl_cons (ss_cont) (ssl_nil)) (ssl_nil)) (ssl_cons (ss_asg c (se_bin c rfl (se_list c (sl_cons c (se_glob c (one := false) (by kernel_rfl) (by kernel_rfl) rfl) (sl_nil) (fun _ => rfl)) (len_le (len_c len_0) (by decide))) (se_idx c (SE.sb (se_call c (f := 33) g (by kernel_rfl) (by kernel_rfl) (by kernel_rfl) (sl_cons c (se_var (by kernel_rfl) (by kernel_rfl)) (sl_nil) (fun _ => rfl)) (fun _ => rfl))) (se_int) (fun _ _ _ => rfl))) (by kernel_rfl) (by decide +kernel) (fun _ _ _ => rfl)) (ssl_cons (SSo.ss (sso_setI c (se_glob c (one := true) (by kernel_rfl) (by kernel_rfl) rfl) (se_var (by kernel_rfl) (by kernel_rfl)) (by kernel_rfl) (by kernel_rfl) (fun _ => rfl))) (ssl_cons (ss_for c (names := [(PySem.Str.ofString "at"), (PySem.Str.ofString "spot")]) (si_enum c (by kernel_rfl) (se_var (by kernel_rfl) (by kernel_rfl)) (fun _ => rfl)) (ssl_cons (SSo.ss (sso_setI c (se_call c (f := 29) g (by kernel_rfl) (by kernel_rfl) (by kernel_rfl) (sl_cons c (se_idx c (SE.sb (se_idx c (sb_var (by kernel_rfl) (by kernel_rfl)) (se_var (by kernel_rfl) (by kernel_rfl)) (fun _ _ _ => rfl))) (se_var (by kernel_rfl) (by kernel_rfl)) (fun _ _ _ => rfl)) (sl_nil) (fun _ => rfl)) (fun _ => rfl)) (se_var (by kernel_rfl) (by kernel_rfl)) (by kernel_rfl) (by kernel_rfl) (fun _ => rfl))) (ssl_nil)) ⟨(by kernel_rfl), (by decide +kernel), (by kernel_rfl), (by decide +kernel), trivial⟩ ⟨_, _, _, rfl, (.cons _ _ (.cons _ _ .nil))⟩ (fun _ _ => rfl)) (ssl_share (ssl_cons (ss_append c (se_var (by kernel_rfl) (by kernel_rfl)) (by kernel_rfl) (by kernel_rfl) (by kernel_rfl) (fun _ => rfl) (fun _ _ => rfl)) (ssl_nil))))))) ⟨(by kernel_rfl), (by decide +kernel), trivial⟩ ⟨_, _, rfl, rfl⟩ (fun _ _ => rfl)) (ssl_share (ssl_cons (ss_ret c (se_var (by kernel_rfl) (by kernel_rfl))) (ssl_nil)))))

noncomputable def F_solve_system : FnD := ⟨[(PySem.Str.ofString "a"), (PySem.Str.ofString "b")], tA 52, tB 52, tS 52, [(PySem.Str.ofString "a"), (PySem.Str.ofString "b"), (PySem.Str.ofString "width"), (PySem.Str.ofString "reduced"), (PySem.Str.ofString "pivots"), (PySem.Str.ofString "found"), (PySem.Str.ofString "at"), (PySem.Str.ofString "column")]⟩
theorem F_solve_system_ok : F_solve_system.OK where
  kind := by kernel_rfl
  co := by kernel_rfl
  gen := by kernel_rfl
  nd := by decide +kernel
  loc := by decide +kernel
  pre := ⟨_, rfl⟩
  bind := by
    intro name qual doc pm cdv ct an vals h
    obtain ⟨v0, v1, rfl⟩ := len_2 h
    kernel_rfl
noncomputable def b_solve_system : SL := .cons (.expr (.call 34 (.cons (.cmp .eq (.len (.bvar 0)) (.len (.bvar 1))) (.cons (.cstr (PySem.Str.ofString "as many numbers as rows are wanted")) (.nil))))) (.cons (.asg 2 (.idx (.call 33 (.cons (.var 0) (.nil))) (.cint 1))) (.cons (.asgT [3, 4] (.call 37 (.cons (.comp (.enum (.var 0)) 2 (.cbool true) (.bin .add (.copy (.var 9)) (.lst (.cons (.idx (.bvar 1) (.var 8)) (.nil))))) (.nil)))) (.cons (.ite (.cmp .isin (.bvar 2) (.bvar 4)) (.cons (.ret (.tup (.cons (.cnone) (.cons (.call 38 (.cons (.var 0) (.nil))) (.nil))))) (.nil)) (.nil)) (.cons (.asg 5 (.bin .mul (.lst (.cons (.glob false) (.nil))) (.var 2))) (.cons (.for [6, 7] true (.enum (.var 4)) (.cons (.setI 5 (.var 7) (.idx (.idx (.bvar 3) (.var 6)) (.var 2))) (.nil))) (.cons (.share 5) (.cons (.ret (.tup (.cons (.var 5) (.cons (.call 38 (.cons (.var 0) (.nil))) (.nil))))) (.nil))))))))
theorem s_solve_system {C : Cx} {Γ : Env0} {n wf : Nat} (c : COK C) (g : GOK C n Γ) : SSL C Γ n wf F_solve_system.scope.names F_solve_system.xs (F_solve_system.body) b_solve_system :=
  ssl_cons (ss_expr c (se_call c (f := 34) g (by kernel_rfl) (by kernel_rfl) (by kernel_rfl) (sl_cons c (se_cmp c rfl (SE.sb (se_len c (by kernel_rfl) (sb_var (by kernel_rfl) (by kernel_rfl)) (fun _ => rfl))) (SE.sb (se_len c (by kernel_rfl) (sb_var (by kernel_rfl) (by kernel_rfl)) (fun _ => rfl))) (by kernel_rfl)) (sl_cons c (se_str) (sl_nil) (fun _ => rfl)) (fun _ => rfl)) (fun _ => rfl))) (ssl_cons (ss_asg c (se_idx c (SE.sb (se_call c (f := 33) g (by kernel_rfl) (by kernel_rfl) (by kernel_rfl) (sl_cons c (se_var (by kernel_rfl) (by kernel_rfl)) (sl_nil) (fun _ => rfl)) (fun _ => rfl))) (se_int) (fun _ _ _ => rfl)) (by kernel_rfl) (by decide +kernel) (fun _ _ _ => rfl)) (ssl_cons (ss_asgTL c (names := [(PySem.Str.ofString "reduced"), (PySem.Str.ofString "pivots")]) (se_call c (f := 37) g (by kernel_rfl) (by kernel_rfl) (by kernel_rfl) (sl_cons c (se_comp c (ts := [(PySem.Str.ofString "at"), (PySem.Str.ofString "row")]) (si_enum c (by kernel_rfl) (se_var (by kernel_rfl) (by kernel_rfl)) (fun _ => rfl)) (by decide +kernel) rfl rfl ⟨(by kernel_rfl), (by decide +kernel), (by kernel_rfl), (by decide +kernel), trivial⟩ ⟨_, _, _, rfl, (.cons _ _ (.cons _ _ .nil))⟩ (.inl ⟨rfl, rfl⟩) (se_bin c rfl (se_copy c (by kernel_rfl) (se_var (by kernel_rfl) (by kernel_rfl)) (fun _ => rfl)) (se_list c (sl_cons c (se_idx c (sb_var (by kernel_rfl) (by kernel_rfl)) (se_var (by kernel_rfl) (by kernel_rfl)) (fun _ _ _ => rfl)) (sl_nil) (fun _ => rfl)) (len_le (len_c len_0) (by decide)))) (fun _ _ => rfl)) (sl_nil) (fun _ => rfl)) (fun _ => rfl)) ⟨(by kernel_rfl), (by decide +kernel), (by kernel_rfl), (by decide +kernel), trivial⟩ (.cons _ _ (.cons _ _ .nil)) (fun _ => rfl) (fun _ => rfl)) (ssl_cons (ss_ite c (st_cmp c rfl (sb_var (by kernel_rfl) (by kernel_rfl)) (sb_var (by kernel_rfl) (by kernel_rfl)) (by kernel_rfl)) (ssl_cons (ss_ret c (se_tup c (sl_cons c (se_none) (sl_cons c (se_call c (f := 38) g (by kernel_rfl) (by kernel_rfl) (by kernel_rfl) (sl_cons c (se_var (by kernel_rfl) (by kernel_rfl)) (sl_nil) (fun _ => rfl)) (fun _ => rfl)) (sl_nil) (fun _ => rfl)) (fun _ => rfl)) (len_le (len_c (len_c len_0)) (by decide)))) (ssl_nil)) (ssl_nil)) (ssl_cons (ss_asg c (se_bin c rfl (se_list c (sl_cons c (se_glob c (one := false) (by kernel_rfl) (by kernel_rfl) rfl) (sl_nil) (fun _ => rfl)) (len_le (len_c len_0) (by decide))) (se_var (by kernel_rfl) (by kernel_rfl))) (by kernel_rfl) (by decide +kernel) (fun _ _ _ => rfl)) (ssl_cons (ss_for c (names := [(PySem.Str.ofString "at"), (PySem.Str.ofString "column")]) (si_enum c (by kernel_rfl) (se_var (by kernel_rfl) (by kernel_rfl)) (fun _ => rfl)) (ssl_cons (SSo.ss (sso_setI c (se_idx c (SE.sb (se_idx c (sb_var (by kernel_rfl) (by kernel_rfl)) (se_var (by kernel_rfl) (by kernel_rfl)) (fun _ _ _ => rfl))) (se_var (by kernel_rfl) (by kernel_rfl)) (fun _ _ _ => rfl)) (se_var (by kernel_rfl) (by kernel_rfl)) (by kernel_rfl) (by kernel_rfl) (fun _ => rfl))) (ssl_nil)) ⟨(by kernel_rfl), (by decide +kernel), (by kernel_rfl), (by decide +kernel), trivial⟩ ⟨_, _, _, rfl, (.cons _ _ (.cons _ _ .nil))⟩ (fun _ _ => rfl)) (ssl_share (ssl_cons (ss_ret c (se_tup c (sl_cons c (se_var (by kernel_rfl) (by kernel_rfl)) (sl_cons c (se_call c (f := 38) g (by kernel_rfl) (by kernel_rfl) (by kernel_rfl) (sl_cons c (se_var (by kernel_rfl) (by kernel_rfl)) (sl_nil) (fun _ => rfl)) (fun _ => rfl)) (sl_nil) (fun _ => rfl)) (fun _ => rfl)) (len_le (len_c (len_c len_0)) (by decide)))) (ssl_nil))))))))

noncomputable def F_qtrim : FnD := ⟨[(PySem.Str.ofString "row")], tA 54, tB 54, tS 54, [(PySem.Str.ofString "row"), (PySem.Str.ofString "size")]⟩
theorem F_qtrim_ok : F_qtrim.OK where
  kind := by kernel_rfl
  co := by kernel_rfl
  gen := by kernel_rfl
  nd := by decide +kernel
  loc := by decide +kernel
  pre := ⟨_, rfl⟩
  bind := by
    intro name qual doc pm cdv ct an vals h
    obtain ⟨v0, rfl⟩ := len_1 h
    kernel_rfl
noncomputable def b_qtrim : SL := .cons (.asg 1 (.len (.bvar 0))) (.cons (.whil (.bop true (.cmp .gt (.bvar 1) (.cint 0)) (.cmp .eq (.idx (.idx (.bvar 0) (.bin .sub (.var 1) (.cint 1))) (.cint 0)) (.cint 0))) (.cons (.aug 1 .sub (.cint 1)) (.nil))) (.cons (.ret (.copy (.upto (.var 0) (.var 1)))) (.nil)))
theorem s_qtrim {C : Cx} {Γ : Env0} {n wf : Nat} (c : COK C) (g : GOK C n Γ) : SSL C Γ n wf F_qtrim.scope.names F_qtrim.xs (F_qtrim.body) b_qtrim :=
  ssl_cons (ss_asg c (se_len c (by kernel_rfl) (sb_var (by kernel_rfl) (by kernel_rfl)) (fun _ => rfl)) (by kernel_rfl) (by decide +kernel) (fun _ _ _ => rfl)) (ssl_cons (ss_while c (st_and c (st_cmp c rfl (sb_var (by kernel_rfl) (by kernel_rfl)) (SE.sb (se_int)) (by kernel_rfl)) (st_and1 c (st_cmp c rfl (SE.sb (se_idx c (SE.sb (se_idx c (sb_var (by kernel_rfl) (by kernel_rfl)) (se_bin c rfl (se_var (by kernel_rfl) (by kernel_rfl)) (se_int)) (fun _ _ _ => rfl))) (se_int) (fun _ _ _ => rfl))) (SE.sb (se_int)) (by kernel_rfl)))) (ssl_cons (ss_aug c rfl (se_int) (by kernel_rfl) (by decide +kernel) (by kernel_rfl)) (ssl_nil))) (ssl_cons (ss_ret c (se_copy c (by kernel_rfl) (se_upto c (se_var (by kernel_rfl) (by kernel_rfl)) (se_var (by kernel_rfl) (by kernel_rfl))) (fun _ => rfl))) (ssl_nil)))

noncomputable def F_qdegree : FnD := ⟨[(PySem.Str.ofString "p")], tA 55, tB 55, tS 55, [(PySem.Str.ofString "p")]⟩
theorem F_qdegree_ok : F_qdegree.OK where
  kind := by kernel_rfl
  co := by kernel_rfl
  gen := by kernel_rfl
  nd := by decide +kernel
  loc := by decide +kernel
  pre := ⟨_, rfl⟩
  bind := by
    intro name qual doc pm cdv ct an vals h
    obtain ⟨v0, rfl⟩ := len_1 h
    kernel_rfl
noncomputable def b_qdegree : SL := .cons (.ret (.bin .sub (.len (.bvar 0)) (.cint 1))) (.nil)
theorem s_qdegree {C : Cx} {Γ : Env0} {n wf : Nat} (c : COK C) (g : GOK C n Γ) : SSL C Γ n wf F_qdegree.scope.names F_qdegree.xs (F_qdegree.body) b_qdegree :=
  ssl_cons (ss_ret c (se_bin c rfl (se_len c (by kernel_rfl) (sb_var (by kernel_rfl) (by kernel_rfl)) (fun _ => rfl)) (se_int))) (ssl_nil)

noncomputable def F_qlead : FnD := ⟨[(PySem.Str.ofString "p")], tA 56, tB 56, tS 56, [(PySem.Str.ofString "p")]⟩
theorem F_qlead_ok : F_qlead.OK where
  kind := by kernel_rfl
  co := by kernel_rfl
  gen := by kernel_rfl
  nd := by decide +kernel
  loc := by decide +kernel
  pre := ⟨_, rfl⟩
  bind := by
    intro name qual doc pm cdv ct an vals h
    obtain ⟨v0, rfl⟩ := len_1 h
    kernel_rfl
noncomputable def b_qlead : SL := .cons (.ret (.ite (.cmp .gt (.len (.bvar 0)) (.cint 0)) (.idx (.bvar 0) (.neg (.cint 1))) (.glob false))) (.nil)
theorem s_qlead {C : Cx} {Γ : Env0} {n wf : Nat} (c : COK C) (g : GOK C n Γ) : SSL C Γ n wf F_qlead.scope.names F_qlead.xs (F_qlead.body) b_qlead :=
  ssl_cons (ss_ret c (se_ite c (st_cmp c rfl (SE.sb (se_len c (by kernel_rfl) (sb_var (by kernel_rfl) (by kernel_rfl)) (fun _ => rfl))) (SE.sb (se_int)) (by kernel_rfl)) (se_idx c (sb_var (by kernel_rfl) (by kernel_rfl)) (se_neg c (se_int)) (fun _ _ _ => rfl)) (se_glob c (one := false) (by kernel_rfl) (by kernel_rfl) rfl))) (ssl_nil)

noncomputable def F_qadd : FnD := ⟨[(PySem.Str.ofString "a"), (PySem.Str.ofString "b")], tA 57, tB 57, tS 57, [(PySem.Str.ofString "a"), (PySem.Str.ofString "b"), (PySem.Str.ofString "size")]⟩
theorem F_qadd_ok : F_qadd.OK where
  kind := by kernel_rfl
  co := by kernel_rfl
  gen := by kernel_rfl
  nd := by decide +kernel
  loc := by decide +kernel
  pre := ⟨_, rfl⟩
  bind := by
    intro name qual doc pm cdv ct an vals h
    obtain ⟨v0, v1, rfl⟩ := len_2 h
    kernel_rfl
noncomputable def b_qadd : SL := .cons (.asg 2 (.max2 (.len (.bvar 0)) (.len (.bvar 1)))) (.cons (.ret (.call 40 (.cons (.comp (.rng1 (.var 2)) 0 (.cbool true) (.call 25 (.cons (.ite (.cmp .lt (.bvar 3) (.len (.bvar 0))) (.idx (.bvar 0) (.var 3)) (.glob false)) (.cons (.ite (.cmp .lt (.bvar 3) (.len (.bvar 1))) (.idx (.bvar 1) (.var 3)) (.glob false)) (.nil))))) (.nil)))) (.nil))
theorem s_qadd {C : Cx} {Γ : Env0} {n wf : Nat} (c : COK C) (g : GOK C n Γ) : SSL C Γ n wf F_qadd.scope.names F_qadd.xs (F_qadd.body) b_qadd :=
  ssl_cons (ss_asg c (se_max2 c (by kernel_rfl) (se_len c (by kernel_rfl) (sb_var (by kernel_rfl) (by kernel_rfl)) (fun _ => rfl)) (se_len c (by kernel_rfl) (sb_var (by kernel_rfl) (by kernel_rfl)) (fun _ => rfl)) (fun _ => rfl) (fun _ => rfl)) (by kernel_rfl) (by decide +kernel) (fun _ _ _ => rfl)) (ssl_cons (ss_ret c (se_call c (f := 40) g (by kernel_rfl) (by kernel_rfl) (by kernel_rfl) (sl_cons c (se_comp c (ts := [(PySem.Str.ofString "at")]) (si_rng1 c (by kernel_rfl) (se_var (by kernel_rfl) (by kernel_rfl)) (fun _ => rfl) (fun _ _ => rfl)) (by decide +kernel) rfl rfl ⟨(by kernel_rfl), (by decide +kernel), trivial⟩ ⟨_, _, rfl, rfl⟩ (.inl ⟨rfl, rfl⟩) (se_call c (f := 25) g (by kernel_rfl) (by kernel_rfl) (by kernel_rfl) (sl_cons c (se_ite c (st_cmp c rfl (sb_var (by kernel_rfl) (by kernel_rfl)) (SE.sb (se_len c (by kernel_rfl) (sb_var (by kernel_rfl) (by kernel_rfl)) (fun _ => rfl))) (by kernel_rfl)) (se_idx c (sb_var (by kernel_rfl) (by kernel_rfl)) (se_var (by kernel_rfl) (by kernel_rfl)) (fun _ _ _ => rfl)) (se_glob c (one := false) (by kernel_rfl) (by kernel_rfl) rfl)) (sl_cons c (se_ite c (st_cmp c rfl (sb_var (by kernel_rfl) (by kernel_rfl)) (SE.sb (se_len c (by kernel_rfl) (sb_var (by kernel_rfl) (by kernel_rfl)) (fun _ => rfl))) (by kernel_rfl)) (se_idx c (sb_var (by kernel_rfl) (by kernel_rfl)) (se_var (by kernel_rfl) (by kernel_rfl)) (fun _ _ _ => rfl)) (se_glob c (one := false) (by kernel_rfl) (by kernel_rfl) rfl)) (sl_nil) (fun _ => rfl)) (fun _ => rfl)) (fun _ => rfl)) (fun _ _ => rfl)) (sl_nil) (fun _ => rfl)) (fun _ => rfl))) (ssl_nil))

noncomputable def F_qneg : FnD := ⟨[(PySem.Str.ofString "p")], tA 58, tB 58, tS 58, [(PySem.Str.ofString "p")]⟩
theorem F_qneg_ok : F_qneg.OK where
  kind := by kernel_rfl
  co := by kernel_rfl
  gen := by kernel_rfl
  nd := by decide +kernel
  loc := by decide +kernel
  pre := ⟨_, rfl⟩
  bind := by
    intro name qual doc pm cdv ct an vals h
    obtain ⟨v0, rfl⟩ := len_1 h
    kernel_rfl
noncomputable def b_qneg : SL := .cons (.ret (.comp (.seq (.var 0)) 0 (.cbool true) (.call 29 (.cons (.var 1) (.nil))))) (.nil)
theorem s_qneg {C : Cx} {Γ : Env0} {n wf : Nat} (c : COK C) (g : GOK C n Γ) : SSL C Γ n wf F_qneg.scope.names F_qneg.xs (F_qneg.body) b_qneg :=
  ssl_cons (ss_ret c (se_comp c (ts := [(PySem.Str.ofString "number")]) (si_seq c (se_var (by kernel_rfl) (by kernel_rfl)) (fun _ _ => rfl)) (by decide +kernel) rfl rfl ⟨(by kernel_rfl), (by decide +kernel), trivial⟩ ⟨_, _, rfl, rfl⟩ (.inl ⟨rfl, rfl⟩) (se_call c (f := 29) g (by kernel_rfl) (by kernel_rfl) (by kernel_rfl) (sl_cons c (se_var (by kernel_rfl) (by kernel_rfl)) (sl_nil) (fun _ => rfl)) (fun _ => rfl)) (fun _ _ => rfl))) (ssl_nil)

noncomputable def F_qsub : FnD := ⟨[(PySem.Str.ofString "a"), (PySem.Str.ofString "b")], tA 59, tB 59, tS 59, [(PySem.Str.ofString "a"), (PySem.Str.ofString "b")]⟩
theorem F_qsub_ok : F_qsub.OK where
  kind := by kernel_rfl
  co := by kernel_rfl
  gen := by kernel_rfl
  nd := by decide +kernel
  loc := by decide +kernel
  pre := ⟨_, rfl⟩
  bind := by
    intro name qual doc pm cdv ct an vals h
    obtain ⟨v0, v1, rfl⟩ := len_2 h
    kernel_rfl
noncomputable def b_qsub : SL := .cons (.ret (.call 43 (.cons (.var 0) (.cons (.call 44 (.cons (.var 1) (.nil))) (.nil))))) (.nil)
theorem s_qsub {C : Cx} {Γ : Env0} {n wf : Nat} (c : COK C) (g : GOK C n Γ) : SSL C Γ n wf F_qsub.scope.names F_qsub.xs (F_qsub.body) b_qsub :=
  ssl_cons (ss_ret c (se_call c (f := 43) g (by kernel_rfl) (by kernel_rfl) (by kernel_rfl) (sl_cons c (se_var (by kernel_rfl) (by kernel_rfl)) (sl_cons c (se_call c (f := 44) g (by kernel_rfl) (by kernel_rfl) (by kernel_rfl) (sl_cons c (se_var (by kernel_rfl) (by kernel_rfl)) (sl_nil) (fun _ => rfl)) (fun _ => rfl)) (sl_nil) (fun _ => rfl)) (fun _ => rfl)) (fun _ => rfl))) (ssl_nil)

noncomputable def F_qscale : FnD := ⟨[(PySem.Str.ofString "p"), (PySem.Str.ofString "r")], tA 60, tB 60, tS 60, [(PySem.Str.ofString "p"), (PySem.Str.ofString "r")]⟩
theorem F_qscale_ok : F_qscale.OK where
  kind := by kernel_rfl
  co := by kernel_rfl
  gen := by kernel_rfl
  nd := by decide +kernel
  loc := by decide +kernel
  pre := ⟨_, rfl⟩
  bind := by
    intro name qual doc pm cdv ct an vals h
    obtain ⟨v0, v1, rfl⟩ := len_2 h
    kernel_rfl
noncomputable def b_qscale : SL := .cons (.ret (.ite (.cmp .ne (.idx (.bvar 1) (.cint 0)) (.cint 0)) (.comp (.seq (.var 0)) 0 (.cbool true) (.call 27 (.cons (.var 2) (.cons (.var 1) (.nil))))) (.lst (.nil)))) (.nil)
theorem s_qscale {C : Cx} {Γ : Env0} {n wf : Nat} (c : COK C) (g : GOK C n Γ) : SSL C Γ n wf F_qscale.scope.names F_qscale.xs (F_qscale.body) b_qscale :=
  ssl_cons (ss_ret c (se_ite c (st_cmp c rfl (SE.sb (se_idx c (sb_var (by kernel_rfl) (by kernel_rfl)) (se_int) (fun _ _ _ => rfl))) (SE.sb (se_int)) (by kernel_rfl)) (se_comp c (ts := [(PySem.Str.ofString "number")]) (si_seq c (se_var (by kernel_rfl) (by kernel_rfl)) (fun _ _ => rfl)) (by decide +kernel) rfl rfl ⟨(by kernel_rfl), (by decide +kernel), trivial⟩ ⟨_, _, rfl, rfl⟩ (.inl ⟨rfl, rfl⟩) (se_call c (f := 27) g (by kernel_rfl) (by kernel_rfl) (by kernel_rfl) (sl_cons c (se_var (by kernel_rfl) (by kernel_rfl)) (sl_cons c (se_var (by kernel_rfl) (by kernel_rfl)) (sl_nil) (fun _ => rfl)) (fun _ => rfl)) (fun _ => rfl)) (fun _ _ => rfl)) (se_list c (sl_nil) (len_le len_0 (by decide))))) (ssl_nil)

noncomputable def F_qraise : FnD := ⟨[(PySem.Str.ofString "p"), (PySem.Str.ofString "many")], tA 61, tB 61, tS 61, [(PySem.Str.ofString "p"), (PySem.Str.ofString "many")]⟩
theorem F_qraise_ok : F_qraise.OK where
  kind := by kernel_rfl
  co := by kernel_rfl
  gen := by kernel_rfl
  nd := by decide +kernel
  loc := by decide +kernel
  pre := ⟨_, rfl⟩
  bind := by
    intro name qual doc pm cdv ct an vals h
    obtain ⟨v0, v1, rfl⟩ := len_2 h
    kernel_rfl
noncomputable def b_qraise : SL := .cons (.ret (.ite (.cmp .gt (.len (.bvar 0)) (.cint 0)) (.bin .add (.bin .mul (.lst (.cons (.glob false) (.nil))) (.var 1)) (.copy (.var 0))) (.lst (.nil)))) (.nil)
theorem s_qraise {C : Cx} {Γ : Env0} {n wf : Nat} (c : COK C) (g : GOK C n Γ) : SSL C Γ n wf F_qraise.scope.names F_qraise.xs (F_qraise.body) b_qraise :=
  ssl_cons (ss_ret c (se_ite c (st_cmp c rfl (SE.sb (se_len c (by kernel_rfl) (sb_var (by kernel_rfl) (by kernel_rfl)) (fun _ => rfl))) (SE.sb (se_int)) (by kernel_rfl)) (se_bin c rfl (se_bin c rfl (se_list c (sl_cons c (se_glob c (one := false) (by kernel_rfl) (by kernel_rfl) rfl) (sl_nil) (fun _ => rfl)) (len_le (len_c len_0) (by decide))) (se_var (by kernel_rfl) (by kernel_rfl))) (se_copy c (by kernel_rfl) (se_var (by kernel_rfl) (by kernel_rfl)) (fun _ => rfl))) (se_list c (sl_nil) (len_le len_0 (by decide))))) (ssl_nil)

noncomputable def F_qmul : FnD := ⟨[(PySem.Str.ofString "a"), (PySem.Str.ofString "b")], tA 62, tB 62, tS 62, [(PySem.Str.ofString "a"), (PySem.Str.ofString "b"), (PySem.Str.ofString "found"), (PySem.Str.ofString "one"), (PySem.Str.ofString "left"), (PySem.Str.ofString "other"), (PySem.Str.ofString "right")]⟩
theorem F_qmul_ok : F_qmul.OK where
  kind := by kernel_rfl
  co := by kernel_rfl
  gen := by kernel_rfl
  nd := by decide +kernel
  loc := by decide +kernel
  pre := ⟨_, rfl⟩
  bind := by
    intro name qual doc pm cdv ct an vals h
    obtain ⟨v0, v1, rfl⟩ := len_2 h
    kernel_rfl
noncomputable def b_qmul : SL := .cons (.ite (.bop false (.cmp .eq (.len (.bvar 0)) (.cint 0)) (.cmp .eq (.len (.bvar 1)) (.cint 0))) (.cons (.ret (.lst (.nil))) (.nil)) (.nil)) (.cons (.asg 2 (.bin .mul (.lst (.cons (.glob false) (.nil))) (.bin .sub (.bin .add (.len (.bvar 0)) (.len (.bvar 1))) (.cint 1)))) (.cons (.for [3, 4] true (.enum (.var 0)) (.cons (.for [5, 6] true (.enum (.var 1)) (.cons (.setI 2 (.bin .add (.var 3) (.var 5)) (.call 25 (.cons (.idx (.bvar 2) (.bin .add (.var 3) (.var 5))) (.cons (.call 27 (.cons (.var 4) (.cons (.var 6) (.nil)))) (.nil))))) (.nil))) (.nil))) (.cons (.share 2) (.cons (.ret (.var 2)) (.nil)))))
theorem s_qmul {C : Cx} {Γ : Env0} {n wf : Nat} (c : COK C) (g : GOK C n Γ) : SSL C Γ n wf F_qmul.scope.names F_qmul.xs (F_qmul.body) b_qmul :=
  ssl_cons (ss_ite c (st_or c (st_cmp c rfl (SE.sb (se_len c (by kernel_rfl) (sb_var (by kernel_rfl) (by kernel_rfl)) (fun _ => rfl))) (SE.sb (se_int)) (by kernel_rfl)) (st_or1 c (st_cmp c rfl (SE.sb (se_len c (by kernel_rfl) (sb_var (by kernel_rfl) (by kernel_rfl)) (fun _ => rfl))) (SE.sb (se_int)) (by kernel_rfl)))) (ssl_cons (ss_ret c (se_list c (sl_nil) (len_le len_0 (by decide)))) (ssl_nil)) (ssl_nil)) (ssl_cons (ss_asg c (se_bin c rfl (se_list c (sl_cons c (se_glob c (one := false) (by kernel_rfl) (by kernel_rfl) rfl) (sl_nil) (fun _ => rfl)) (len_le (len_c len_0) (by decide))) (se_bin c rfl (se_bin c rfl (se_len c (by kernel_rfl) (sb_var (by kernel_rfl) (by kernel_rfl)) (fun _ => rfl)) (se_len c (by kernel_rfl) (sb_var (by kernel_rfl) (by kernel_rfl)) (fun _ => rfl))) (se_int))) (by kernel_rfl) (by decide +kernel) (fun _ _ _ => rfl)) (ssl_cons (ss_for c (names := [(PySem.Str.ofString "one"), (PySem.Str.ofString "left")]) (si_enum c (by kernel_rfl) (se_var (by kernel_rfl) (by kernel_rfl)) (fun _ => rfl)) (ssl_cons (ss_for c (names := [(PySem.Str.ofString "other"), (PySem.Str.ofString "right")]) (si_enum c (by kernel_rfl) (se_var (by kernel_rfl) (by kernel_rfl)) (fun _ => rfl)) (ssl_cons (SSo.ss (sso_setI c (se_call c (f := 25) g (by kernel_rfl) (by kernel_rfl) (by kernel_rfl) (sl_cons c (se_idx c (sb_var (by kernel_rfl) (by kernel_rfl)) (se_bin c rfl (se_var (by kernel_rfl) (by kernel_rfl)) (se_var (by kernel_rfl) (by kernel_rfl))) (fun _ _ _ => rfl)) (sl_cons c (se_call c (f := 27) g (by kernel_rfl) (by kernel_rfl) (by kernel_rfl) (sl_cons c (se_var (by kernel_rfl) (by kernel_rfl)) (sl_cons c (se_var (by kernel_rfl) (by kernel_rfl)) (sl_nil) (fun _ => rfl)) (fun _ => rfl)) (fun _ => rfl)) (sl_nil) (fun _ => rfl)) (fun _ => rfl)) (fun _ => rfl)) (se_bin c rfl (se_var (by kernel_rfl) (by kernel_rfl)) (se_var (by kernel_rfl) (by kernel_rfl))) (by kernel_rfl) (by kernel_rfl) (fun _ => rfl))) (ssl_nil)) ⟨(by kernel_rfl), (by decide +kernel), (by kernel_rfl), (by decide +kernel), trivial⟩ ⟨_, _, _, rfl, (.cons _ _ (.cons _ _ .nil))⟩ (fun _ _ => rfl)) (ssl_nil)) ⟨(by kernel_rfl), (by decide +kernel), (by kernel_rfl), (by decide +kernel), trivial⟩ ⟨_, _, _, rfl, (.cons _ _ (.cons _ _ .nil))⟩ (fun _ _ => rfl)) (ssl_share (ssl_cons (ss_ret c (se_var (by kernel_rfl) (by kernel_rfl))) (ssl_nil)))))

noncomputable def F_qdivmod : FnD := ⟨[(PySem.Str.ofString "a"), (PySem.Str.ofString "b")], tA 63, tB 63, tS 63, [(PySem.Str.ofString "a"), (PySem.Str.ofString "b"), (PySem.Str.ofString "rest"), (PySem.Str.ofString "found"), (PySem.Str.ofString "number"), (PySem.Str.ofString "power"), (PySem.Str.ofString "lower")]⟩
theorem F_qdivmod_ok : F_qdivmod.OK where
  kind := by kernel_rfl
  co := by kernel_rfl
  gen := by kernel_rfl
  nd := by decide +kernel
  loc := by decide +kernel
  pre := ⟨_, rfl⟩
  bind := by
    intro name qual doc pm cdv ct an vals h
    obtain ⟨v0, v1, rfl⟩ := len_2 h
    kernel_rfl
noncomputable def b_qdivmod : SL := .cons (.ite (.cmp .eq (.len (.bvar 1)) (.cint 0)) (.cons (.fail) (.nil)) (.nil)) (.cons (.asg2 [2, 3] (.cons (.copy (.var 0)) (.cons (.bin .mul (.lst (.cons (.glob false) (.nil))) (.max2 (.cint 0) (.bin .add (.bin .sub (.len (.bvar 0)) (.len (.bvar 1))) (.cint 1)))) (.nil)))) (.cons (.share 2) (.cons (.whil (.cmp .ge (.len (.bvar 2)) (.len (.bvar 1))) (.cons (.asg2 [4, 5] (.cons (.call 28 (.cons (.idx (.bvar 2) (.neg (.cint 1))) (.cons (.idx (.bvar 1) (.neg (.cint 1))) (.nil)))) (.cons (.bin .sub (.len (.bvar 2)) (.len (.bvar 1))) (.nil)))) (.cons (.share 5) (.cons (.setI 3 (.var 5) (.var 4)) (.cons (.asg 6 (.call 45 (.cons (.upto (.var 2) (.neg (.cint 1))) (.cons (.call 47 (.cons (.call 46 (.cons (.upto (.var 1) (.neg (.cint 1))) (.cons (.var 4) (.nil)))) (.cons (.var 5) (.nil)))) (.nil))))) (.cons (.asg 2 (.var 6)) (.nil))))))) (.cons (.share 3) (.cons (.ret (.tup (.cons (.call 40 (.cons (.var 3) (.nil))) (.cons (.var 2) (.nil))))) (.nil))))))
theorem s_qdivmod {C : Cx} {Γ : Env0} {n wf : Nat} (c : COK C) (g : GOK C n Γ) : SSL C Γ n wf F_qdivmod.scope.names F_qdivmod.xs (F_qdivmod.body) b_qdivmod :=
  ssl_cons (ss_ite c (st_cmp c rfl (SE.sb (se_len c (by kernel_rfl) (sb_var (by kernel_rfl) (by kernel_rfl)) (fun _ => rfl))) (SE.sb (se_int)) (by kernel_rfl)) (ssl_cons (ss_fail) (ssl_nil)) (ssl_nil)) (ssl_cons (ss_asg2s c (names := [(PySem.Str.ofString "rest"), (PySem.Str.ofString "found")]) (slf_cons c (se_copy c (by kernel_rfl) (se_var (by kernel_rfl) (by kernel_rfl)) (fun _ => rfl)) (slf_cons c (se_bin c rfl (se_list c (sl_cons c (se_glob c (one := false) (by kernel_rfl) (by kernel_rfl) rfl) (sl_nil) (fun _ => rfl)) (len_le (len_c len_0) (by decide))) (se_max2 c (by kernel_rfl) (se_int) (se_bin c rfl (se_bin c rfl (se_len c (by kernel_rfl) (sb_var (by kernel_rfl) (by kernel_rfl)) (fun _ => rfl)) (se_len c (by kernel_rfl) (sb_var (by kernel_rfl) (by kernel_rfl)) (fun _ => rfl))) (se_int)) (fun _ => rfl) (fun _ => rfl))) (slf_nil c) (fun _ => rfl)) (fun _ => rfl)) ⟨(by kernel_rfl), (by decide +kernel), (by kernel_rfl), (by decide +kernel), trivial⟩ (by decide) rfl (by decide) (by rintro ⟨⟨k1, n1, g1, c1, m1⟩, l1, gl1, ce1, q1, f1, cd1, fr1, b1⟩ h1 h2; simp only at h1 h2; subst h1 h2; kernel_rfl)) (ssl_share (ssl_cons (ss_while c (st_cmp c rfl (SE.sb (se_len c (by kernel_rfl) (sb_var (by kernel_rfl) (by kernel_rfl)) (fun _ => rfl))) (SE.sb (se_len c (by kernel_rfl) (sb_var (by kernel_rfl) (by kernel_rfl)) (fun _ => rfl))) (by kernel_rfl)) (ssl_cons (ss_asg2s c (names := [(PySem.Str.ofString "number"), (PySem.Str.ofString "power")]) (slf_cons c (se_call c (f := 28) g (by kernel_rfl) (by kernel_rfl) (by kernel_rfl) (sl_cons c (se_idx c (sb_var (by kernel_rfl) (by kernel_rfl)) (se_neg c (se_int)) (fun _ _ _ => rfl)) (sl_cons c (se_idx c (sb_var (by kernel_rfl) (by kernel_rfl)) (se_neg c (se_int)) (fun _ _ _ => rfl)) (sl_nil) (fun _ => rfl)) (fun _ => rfl)) (fun _ => rfl)) (slf_cons c (se_bin c rfl (se_len c (by kernel_rfl) (sb_var (by kernel_rfl) (by kernel_rfl)) (fun _ => rfl)) (se_len c (by kernel_rfl) (sb_var (by kernel_rfl) (by kernel_rfl)) (fun _ => rfl))) (slf_nil c) (fun _ => rfl)) (fun _ => rfl)) ⟨(by kernel_rfl), (by decide +kernel), (by kernel_rfl), (by decide +kernel), trivial⟩ (by decide) rfl (by decide) (by rintro ⟨⟨k1, n1, g1, c1, m1⟩, l1, gl1, ce1, q1, f1, cd1, fr1, b1⟩ h1 h2; simp only at h1 h2; subst h1 h2; kernel_rfl)) (ssl_share (ssl_cons (SSo.ss (sso_setI c (se_var (by kernel_rfl) (by kernel_rfl)) (se_var (by kernel_rfl) (by kernel_rfl)) (by kernel_rfl) (by kernel_rfl) (fun _ => rfl))) (ssl_cons (ss_asg c (se_call c (f := 45) g (by kernel_rfl) (by kernel_rfl) (by kernel_rfl) (sl_cons c (se_upto c (se_var (by kernel_rfl) (by kernel_rfl)) (se_neg c (se_int))) (sl_cons c (se_call c (f := 47) g (by kernel_rfl) (by kernel_rfl) (by kernel_rfl) (sl_cons c (se_call c (f := 46) g (by kernel_rfl) (by kernel_rfl) (by kernel_rfl) (sl_cons c (se_upto c (se_var (by kernel_rfl) (by kernel_rfl)) (se_neg c (se_int))) (sl_cons c (se_var (by kernel_rfl) (by kernel_rfl)) (sl_nil) (fun _ => rfl)) (fun _ => rfl)) (fun _ => rfl)) (sl_cons c (se_var (by kernel_rfl) (by kernel_rfl)) (sl_nil) (fun _ => rfl)) (fun _ => rfl)) (fun _ => rfl)) (sl_nil) (fun _ => rfl)) (fun _ => rfl)) (fun _ => rfl)) (by kernel_rfl) (by decide +kernel) (fun _ _ _ => rfl)) (ssl_cons (ss_asg c (se_var (by kernel_rfl) (by kernel_rfl)) (by kernel_rfl) (by decide +kernel) (fun _ _ _ => rfl)) (ssl_nil))))))) (ssl_share (ssl_cons (ss_ret c (se_tup c (sl_cons c (se_call c (f := 40) g (by kernel_rfl) (by kernel_rfl) (by kernel_rfl) (sl_cons c (se_var (by kernel_rfl) (by kernel_rfl)) (sl_nil) (fun _ => rfl)) (fun _ => rfl)) (sl_cons c (se_var (by kernel_rfl) (by kernel_rfl)) (sl_nil) (fun _ => rfl)) (fun _ => rfl)) (len_le (len_c (len_c len_0)) (by decide)))) (ssl_nil))))))

noncomputable def F_qmonic : FnD := ⟨[(PySem.Str.ofString "p")], tA 64, tB 64, tS 64, [(PySem.Str.ofString "p")]⟩
theorem F_qmonic_ok : F_qmonic.OK where
  kind := by kernel_rfl
  co := by kernel_rfl
  gen := by kernel_rfl
  nd := by decide +kernel
  loc := by decide +kernel
  pre := ⟨_, rfl⟩
  bind := by
    intro name qual doc pm cdv ct an vals h
    obtain ⟨v0, rfl⟩ := len_1 h
    kernel_rfl
noncomputable def b_qmonic : SL := .cons (.ret (.ite (.cmp .gt (.len (.bvar 0)) (.cint 0)) (.call 46 (.cons (.var 0) (.cons (.call 31 (.cons (.idx (.bvar 0) (.neg (.cint 1))) (.nil))) (.nil)))) (.lst (.nil)))) (.nil)
theorem s_qmonic {C : Cx} {Γ : Env0} {n wf : Nat} (c : COK C) (g : GOK C n Γ) : SSL C Γ n wf F_qmonic.scope.names F_qmonic.xs (F_qmonic.body) b_qmonic :=
  ssl_cons (ss_ret c (se_ite c (st_cmp c rfl (SE.sb (se_len c (by kernel_rfl) (sb_var (by kernel_rfl) (by kernel_rfl)) (fun _ => rfl))) (SE.sb (se_int)) (by kernel_rfl)) (se_call c (f := 46) g (by kernel_rfl) (by kernel_rfl) (by kernel_rfl) (sl_cons c (se_var (by kernel_rfl) (by kernel_rfl)) (sl_cons c (se_call c (f := 31) g (by kernel_rfl) (by kernel_rfl) (by kernel_rfl) (sl_cons c (se_idx c (sb_var (by kernel_rfl) (by kernel_rfl)) (se_neg c (se_int)) (fun _ _ _ => rfl)) (sl_nil) (fun _ => rfl)) (fun _ => rfl)) (sl_nil) (fun _ => rfl)) (fun _ => rfl)) (fun _ => rfl)) (se_list c (sl_nil) (len_le len_0 (by decide))))) (ssl_nil)

noncomputable def F_qgcd : FnD := ⟨[(PySem.Str.ofString "a"), (PySem.Str.ofString "b")], tA 65, tB 65, tS 65, [(PySem.Str.ofString "a"), (PySem.Str.ofString "b")]⟩
theorem F_qgcd_ok : F_qgcd.OK where
  kind := by kernel_rfl
  co := by kernel_rfl
  gen := by kernel_rfl
  nd := by decide +kernel
  loc := by decide +kernel
  pre := ⟨_, rfl⟩
  bind := by
    intro name qual doc pm cdv ct an vals h
    obtain ⟨v0, v1, rfl⟩ := len_2 h
    kernel_rfl
noncomputable def b_qgcd : SL := .cons (.whil (.cmp .gt (.len (.bvar 1)) (.cint 0)) (.cons (.asg2 [0, 1] (.cons (.var 1) (.cons (.call 50 (.cons (.idx (.call 49 (.cons (.var 0) (.cons (.var 1) (.nil)))) (.cint 1)) (.nil))) (.nil)))) (.nil))) (.cons (.ret (.call 50 (.cons (.var 0) (.nil)))) (.nil))
theorem s_qgcd {C : Cx} {Γ : Env0} {n wf : Nat} (c : COK C) (g : GOK C n Γ) : SSL C Γ n wf F_qgcd.scope.names F_qgcd.xs (F_qgcd.body) b_qgcd :=
  ssl_cons (ss_while c (st_cmp c rfl (SE.sb (se_len c (by kernel_rfl) (sb_var (by kernel_rfl) (by kernel_rfl)) (fun _ => rfl))) (SE.sb (se_int)) (by kernel_rfl)) (ssl_cons (ss_asg2s c (names := [(PySem.Str.ofString "a"), (PySem.Str.ofString "b")]) (slf_cons c (se_var (by kernel_rfl) (by kernel_rfl)) (slf_cons c (se_call c (f := 50) g (by kernel_rfl) (by kernel_rfl) (by kernel_rfl) (sl_cons c (se_idx c (SE.sb (se_call c (f := 49) g (by kernel_rfl) (by kernel_rfl) (by kernel_rfl) (sl_cons c (se_var (by kernel_rfl) (by kernel_rfl)) (sl_cons c (se_var (by kernel_rfl) (by kernel_rfl)) (sl_nil) (fun _ => rfl)) (fun _ => rfl)) (fun _ => rfl))) (se_int) (fun _ _ _ => rfl)) (sl_nil) (fun _ => rfl)) (fun _ => rfl)) (slf_nil c) (fun _ => rfl)) (fun _ => rfl)) ⟨(by kernel_rfl), (by decide +kernel), (by kernel_rfl), (by decide +kernel), trivial⟩ (by decide) rfl (by decide) (by rintro ⟨⟨k1, n1, g1, c1, m1⟩, l1, gl1, ce1, q1, f1, cd1, fr1, b1⟩ h1 h2; simp only at h1 h2; subst h1 h2; kernel_rfl)) (ssl_nil))) (ssl_cons (ss_ret c (se_call c (f := 50) g (by kernel_rfl) (by kernel_rfl) (by kernel_rfl) (sl_cons c (se_var (by kernel_rfl) (by kernel_rfl)) (sl_nil) (fun _ => rfl)) (fun _ => rfl))) (ssl_nil))

noncomputable def F_qcompose : FnD := ⟨[(PySem.Str.ofString "a"), (PySem.Str.ofString "b")], tA 66, tB 66, tS 66, [(PySem.Str.ofString "a"), (PySem.Str.ofString "b"), (PySem.Str.ofString "found"), (PySem.Str.ofString "number")]⟩
theorem F_qcompose_ok : F_qcompose.OK where
  kind := by kernel_rfl
  co := by kernel_rfl
  gen := by kernel_rfl
  nd := by decide +kernel
  loc := by decide +kernel
  pre := ⟨_, rfl⟩
  bind := by
    intro name qual doc pm cdv ct an vals h
    obtain ⟨v0, v1, rfl⟩ := len_2 h
    kernel_rfl
noncomputable def b_qcompose : SL := .cons (.asg 2 (.lst (.nil))) (.cons (.share 2) (.cons (.for [3] false (.rev (.var 0)) (.cons (.asg 2 (.call 43 (.cons (.call 48 (.cons (.var 2) (.cons (.var 1) (.nil)))) (.cons (.call 40 (.cons (.lst (.cons (.var 3) (.nil))) (.nil))) (.nil))))) (.nil))) (.cons (.ret (.var 2)) (.nil))))
theorem s_qcompose {C : Cx} {Γ : Env0} {n wf : Nat} (c : COK C) (g : GOK C n Γ) : SSL C Γ n wf F_qcompose.scope.names F_qcompose.xs (F_qcompose.body) b_qcompose :=
  ssl_cons (ss_asg c (se_list c (sl_nil) (len_le len_0 (by decide))) (by kernel_rfl) (by decide +kernel) (fun _ _ _ => rfl)) (ssl_share (ssl_cons (ss_for c (names := [(PySem.Str.ofString "number")]) (si_rev c (by kernel_rfl) (se_var (by kernel_rfl) (by kernel_rfl)) (fun _ => rfl) (fun _ _ => rfl)) (ssl_cons (ss_asg c (se_call c (f := 43) g (by kernel_rfl) (by kernel_rfl) (by kernel_rfl) (sl_cons c (se_call c (f := 48) g (by kernel_rfl) (by kernel_rfl) (by kernel_rfl) (sl_cons c (se_var (by kernel_rfl) (by kernel_rfl)) (sl_cons c (se_var (by kernel_rfl) (by kernel_rfl)) (sl_nil) (fun _ => rfl)) (fun _ => rfl)) (fun _ => rfl)) (sl_cons c (se_call c (f := 40) g (by kernel_rfl) (by kernel_rfl) (by kernel_rfl) (sl_cons c (se_list c (sl_cons c (se_var (by kernel_rfl) (by kernel_rfl)) (sl_nil) (fun _ => rfl)) (len_le (len_c len_0) (by decide))) (sl_nil) (fun _ => star_List ..)) (fun _ => rfl)) (sl_nil) (fun _ => rfl)) (fun _ => rfl)) (fun _ => rfl)) (by kernel_rfl) (by decide +kernel) (fun _ _ _ => rfl)) (ssl_nil)) ⟨(by kernel_rfl), (by decide +kernel), trivial⟩ ⟨_, _, rfl, rfl⟩ (fun _ _ => rfl)) (ssl_cons (ss_ret c (se_var (by kernel_rfl) (by kernel_rfl))) (ssl_nil))))

noncomputable def F_to_z : FnD := ⟨[(PySem.Str.ofString "q")], tA 67, tB 67, tS 67, [(PySem.Str.ofString "q"), (PySem.Str.ofString "bottom"), (PySem.Str.ofString "number"), (PySem.Str.ofString "whole"), (PySem.Str.ofString "content")]⟩
theorem F_to_z_ok : F_to_z.OK where
  kind := by kernel_rfl
  co := by kernel_rfl
  gen := by kernel_rfl
  nd := by decide +kernel
  loc := by decide +kernel
  pre := ⟨_, rfl⟩
  bind := by
    intro name qual doc pm cdv ct an vals h
    obtain ⟨v0, rfl⟩ := len_1 h
    kernel_rfl
noncomputable def b_to_z : SL := .cons (.ite (.cmp .eq (.len (.bvar 0)) (.cint 0)) (.cons (.ret (.tup (.cons (.lst (.nil)) (.cons (.glob false) (.nil))))) (.nil)) (.nil)) (.cons (.asg 1 (.cint 1)) (.cons (.for [2] false (.seq (.var 0)) (.cons (.asg 1 (.bin .mul (.bin .div (.var 1) (.call 0 (.cons (.var 1) (.cons (.idx (.bvar 2) (.cint 1)) (.nil))))) (.idx (.bvar 2) (.cint 1)))) (.cons (.share 1) (.nil)))) (.cons (.asg 3 (.comp (.seq (.var 0)) 0 (.cbool true) (.bin .mul (.idx (.bvar 5) (.cint 0)) (.bin .div (.var 1) (.idx (.bvar 5) (.cint 1)))))) (.cons (.share 3) (.cons (.asg 4 (.call 10 (.cons (.var 3) (.nil)))) (.cons (.ret (.tup (.cons (.call 12 (.cons (.var 3) (.nil))) (.cons (.call 24 (.cons (.ite (.cmp .gt (.idx (.bvar 3) (.neg (.cint 1))) (.cint 0)) (.var 4) (.neg (.var 4))) (.cons (.var 1) (.nil)))) (.nil))))) (.nil)))))))
theorem s_to_z {C : Cx} {Γ : Env0} {n wf : Nat} (c : COK C) (g : GOK C n Γ) : SSL C Γ n wf F_to_z.scope.names F_to_z.xs (F_to_z.body) b_to_z :=
  ssl_cons (ss_ite c (st_cmp c rfl (SE.sb (se_len c (by kernel_rfl) (sb_var (by kernel_rfl) (by kernel_rfl)) (fun _ => rfl))) (SE.sb (se_int)) (by kernel_rfl)) (ssl_cons (ss_ret c (se_tup c (sl_cons c (se_list c (sl_nil) (len_le len_0 (by decide))) (sl_cons c (se_glob c (one := false) (by kernel_rfl) (by kernel_rfl) rfl) (sl_nil) (fun _ => rfl)) (fun _ => star_List ..)) (len_le (len_c (len_c len_0)) (by decide)))) (ssl_nil)) (ssl_nil)) (ssl_cons (ss_asg c (se_int) (by kernel_rfl) (by decide +kernel) (fun _ _ _ => rfl)) (ssl_cons (ss_for c (names := [(PySem.Str.ofString "number")]) (si_seq c (se_var (by kernel_rfl) (by kernel_rfl)) (fun _ _ => rfl)) (ssl_cons (ss_asg c (se_bin c rfl (se_bin c rfl (se_var (by kernel_rfl) (by kernel_rfl)) (se_call c (f := 0) g (by kernel_rfl) (by kernel_rfl) (by kernel_rfl) (sl_cons c (se_var (by kernel_rfl) (by kernel_rfl)) (sl_cons c (se_idx c (sb_var (by kernel_rfl) (by kernel_rfl)) (se_int) (fun _ _ _ => rfl)) (sl_nil) (fun _ => rfl)) (fun _ => rfl)) (fun _ => rfl))) (se_idx c (sb_var (by kernel_rfl) (by kernel_rfl)) (se_int) (fun _ _ _ => rfl))) (by kernel_rfl) (by decide +kernel) (fun _ _ _ => rfl)) (ssl_share (ssl_nil))) ⟨(by kernel_rfl), (by decide +kernel), trivial⟩ ⟨_, _, rfl, rfl⟩ (fun _ _ => rfl)) (ssl_cons (ss_asgC c (ts := [(PySem.Str.ofString "number")]) (si_seq c (se_var (by kernel_rfl) (by kernel_rfl)) (fun _ _ => rfl)) (by decide +kernel) rfl rfl ⟨(by kernel_rfl), (by decide +kernel), trivial⟩ ⟨_, _, rfl, rfl⟩ (.inl ⟨rfl, rfl⟩) (se_bin c rfl (se_idx c (sb_var (by kernel_rfl) (by kernel_rfl)) (se_int) (fun _ _ _ => rfl)) (se_bin c rfl (se_var (by kernel_rfl) (by kernel_rfl)) (se_idx c (sb_var (by kernel_rfl) (by kernel_rfl)) (se_int) (fun _ _ _ => rfl)))) (fun _ _ => rfl) (by kernel_rfl) (by decide +kernel) (by rintro ⟨⟨k1, n1, g1, c1, m1⟩, l1, gl1, ce1, q1, f1, cd1, fr1, b1⟩ h1 h2; simp only at h1 h2; subst h1 h2; kernel_rfl)) (ssl_share (ssl_cons (ss_asg c (se_call c (f := 10) g (by kernel_rfl) (by kernel_rfl) (by kernel_rfl) (sl_cons c (se_var (by kernel_rfl) (by kernel_rfl)) (sl_nil) (fun _ => rfl)) (fun _ => rfl)) (by kernel_rfl) (by decide +kernel) (fun _ _ _ => rfl)) (ssl_cons (ss_ret c (se_tup c (sl_cons c (se_call c (f := 12) g (by kernel_rfl) (by kernel_rfl) (by kernel_rfl) (sl_cons c (se_var (by kernel_rfl) (by kernel_rfl)) (sl_nil) (fun _ => rfl)) (fun _ => rfl)) (sl_cons c (se_call c (f := 24) g (by kernel_rfl) (by kernel_rfl) (by kernel_rfl) (sl_cons c (se_ite c (st_cmp c rfl (SE.sb (se_idx c (sb_var (by kernel_rfl) (by kernel_rfl)) (se_neg c (se_int)) (fun _ _ _ => rfl))) (SE.sb (se_int)) (by kernel_rfl)) (se_var (by kernel_rfl) (by kernel_rfl)) (se_neg c (se_var (by kernel_rfl) (by kernel_rfl)))) (sl_cons c (se_var (by kernel_rfl) (by kernel_rfl)) (sl_nil) (fun _ => rfl)) (fun _ => rfl)) (fun _ => rfl)) (sl_nil) (fun _ => rfl)) (fun _ => rfl)) (len_le (len_c (len_c len_0)) (by decide)))) (ssl_nil)))))))

noncomputable def F_fmake : FnD := ⟨[(PySem.Str.ofString "top"), (PySem.Str.ofString "bottom")], tA 70, tB 70, tS 70, [(PySem.Str.ofString "top"), (PySem.Str.ofString "bottom"), (PySem.Str.ofString "common"), (PySem.Str.ofString "scale")]⟩
theorem F_fmake_ok : F_fmake.OK where
  kind := by kernel_rfl
  co := by kernel_rfl
  gen := by kernel_rfl
  nd := by decide +kernel
  loc := by decide +kernel
  pre := ⟨_, rfl⟩
  bind := by
    intro name qual doc pm cdv ct an vals h
    obtain ⟨v0, v1, rfl⟩ := len_2 h
    kernel_rfl
noncomputable def b_fmake : SL := .cons (.ite (.cmp .eq (.bvar 1) (.lst (.nil))) (.cons (.fail) (.nil)) (.nil)) (.cons (.ite (.cmp .eq (.bvar 0) (.lst (.nil))) (.cons (.fail) (.nil)) (.nil)) (.cons (.asg 2 (.call 51 (.cons (.var 0) (.cons (.var 1) (.nil))))) (.cons (.ite (.cmp .gt (.call 41 (.cons (.var 2) (.nil))) (.cint 0)) (.cons (.asg2 [0, 1] (.cons (.idx (.call 49 (.cons (.var 0) (.cons (.var 2) (.nil)))) (.cint 0)) (.cons (.idx (.call 49 (.cons (.var 1) (.cons (.var 2) (.nil)))) (.cint 0)) (.nil)))) (.nil)) (.nil)) (.cons (.asg 3 (.call 31 (.cons (.call 42 (.cons (.var 1) (.nil))) (.nil)))) (.cons (.ret (.tup (.cons (.call 46 (.cons (.var 0) (.cons (.var 3) (.nil)))) (.cons (.call 46 (.cons (.var 1) (.cons (.var 3) (.nil)))) (.nil))))) (.nil))))))
theorem s_fmake {C : Cx} {Γ : Env0} {n wf : Nat} (c : COK C) (g : GOK C n Γ) : SSL C Γ n wf F_fmake.scope.names F_fmake.xs (F_fmake.body) b_fmake :=
  ssl_cons (ss_ite c (st_cmp c rfl (sb_var (by kernel_rfl) (by kernel_rfl)) (SE.sb (se_list c (sl_nil) (len_le len_0 (by decide)))) (by kernel_rfl)) (ssl_cons (ss_fail) (ssl_nil)) (ssl_nil)) (ssl_cons (ss_ite c (st_cmp c rfl (sb_var (by kernel_rfl) (by kernel_rfl)) (SE.sb (se_list c (sl_nil) (len_le len_0 (by decide)))) (by kernel_rfl)) (ssl_cons (ss_fail) (ssl_nil)) (ssl_nil)) (ssl_cons (ss_asg c (se_call c (f := 51) g (by kernel_rfl) (by kernel_rfl) (by kernel_rfl) (sl_cons c (se_var (by kernel_rfl) (by kernel_rfl)) (sl_cons c (se_var (by kernel_rfl) (by kernel_rfl)) (sl_nil) (fun _ => rfl)) (fun _ => rfl)) (fun _ => rfl)) (by kernel_rfl) (by decide +kernel) (fun _ _ _ => rfl)) (ssl_cons (ss_ite c (st_cmp c rfl (SE.sb (se_call c (f := 41) g (by kernel_rfl) (by kernel_rfl) (by kernel_rfl) (sl_cons c (se_var (by kernel_rfl) (by kernel_rfl)) (sl_nil) (fun _ => rfl)) (fun _ => rfl))) (SE.sb (se_int)) (by kernel_rfl)) (ssl_cons (ss_asg2s c (names := [(PySem.Str.ofString "top"), (PySem.Str.ofString "bottom")]) (slf_cons c (se_idx c (SE.sb (se_call c (f := 49) g (by kernel_rfl) (by kernel_rfl) (by kernel_rfl) (sl_cons c (se_var (by kernel_rfl) (by kernel_rfl)) (sl_cons c (se_var (by kernel_rfl) (by kernel_rfl)) (sl_nil) (fun _ => rfl)) (fun _ => rfl)) (fun _ => rfl))) (se_int) (fun _ _ _ => rfl)) (slf_cons c (se_idx c (SE.sb (se_call c (f := 49) g (by kernel_rfl) (by kernel_rfl) (by kernel_rfl) (sl_cons c (se_var (by kernel_rfl) (by kernel_rfl)) (sl_cons c (se_var (by kernel_rfl) (by kernel_rfl)) (sl_nil) (fun _ => rfl)) (fun _ => rfl)) (fun _ => rfl))) (se_int) (fun _ _ _ => rfl)) (slf_nil c) (fun _ => rfl)) (fun _ => rfl)) ⟨(by kernel_rfl), (by decide +kernel), (by kernel_rfl), (by decide +kernel), trivial⟩ (by decide) rfl (by decide) (by rintro ⟨⟨k1, n1, g1, c1, m1⟩, l1, gl1, ce1, q1, f1, cd1, fr1, b1⟩ h1 h2; simp only at h1 h2; subst h1 h2; kernel_rfl)) (ssl_nil)) (ssl_nil)) (ssl_cons (ss_asg c (se_call c (f := 31) g (by kernel_rfl) (by kernel_rfl) (by kernel_rfl) (sl_cons c (se_call c (f := 42) g (by kernel_rfl) (by kernel_rfl) (by kernel_rfl) (sl_cons c (se_var (by kernel_rfl) (by kernel_rfl)) (sl_nil) (fun _ => rfl)) (fun _ => rfl)) (sl_nil) (fun _ => rfl)) (fun _ => rfl)) (by kernel_rfl) (by decide +kernel) (fun _ _ _ => rfl)) (ssl_cons (ss_ret c (se_tup c (sl_cons c (se_call c (f := 46) g (by kernel_rfl) (by kernel_rfl) (by kernel_rfl) (sl_cons c (se_var (by kernel_rfl) (by kernel_rfl)) (sl_cons c (se_var (by kernel_rfl) (by kernel_rfl)) (sl_nil) (fun _ => rfl)) (fun _ => rfl)) (fun _ => rfl)) (sl_cons c (se_call c (f := 46) g (by kernel_rfl) (by kernel_rfl) (by kernel_rfl) (sl_cons c (se_var (by kernel_rfl) (by kernel_rfl)) (sl_cons c (se_var (by kernel_rfl) (by kernel_rfl)) (sl_nil) (fun _ => rfl)) (fun _ => rfl)) (fun _ => rfl)) (sl_nil) (fun _ => rfl)) (fun _ => rfl)) (len_le (len_c (len_c len_0)) (by decide)))) (ssl_nil))))))

noncomputable def F_moved : FnD := ⟨[(PySem.Str.ofString "p"), (PySem.Str.ofString "h")], tA 72, tB 72, tS 72, [(PySem.Str.ofString "p"), (PySem.Str.ofString "h")]⟩
theorem F_moved_ok : F_moved.OK where
  kind := by kernel_rfl
  co := by kernel_rfl
  gen := by kernel_rfl
  nd := by decide +kernel
  loc := by decide +kernel
  pre := ⟨_, rfl⟩
  bind := by
    intro name qual doc pm cdv ct an vals h
    obtain ⟨v0, v1, rfl⟩ := len_2 h
    kernel_rfl
noncomputable def b_moved : SL := .cons (.ret (.ite (.cmp .ne (.bvar 1) (.cint 0)) (.call 52 (.cons (.var 0) (.cons (.lst (.cons (.tup (.cons (.var 1) (.cons (.cint 1) (.nil)))) (.cons (.glob true) (.nil)))) (.nil)))) (.var 0))) (.nil)
theorem s_moved {C : Cx} {Γ : Env0} {n wf : Nat} (c : COK C) (g : GOK C n Γ) : SSL C Γ n wf F_moved.scope.names F_moved.xs (F_moved.body) b_moved :=
  ssl_cons (ss_ret c (se_ite c (st_cmp c rfl (sb_var (by kernel_rfl) (by kernel_rfl)) (SE.sb (se_int)) (by kernel_rfl)) (se_call c (f := 52) g (by kernel_rfl) (by kernel_rfl) (by kernel_rfl) (sl_cons c (se_var (by kernel_rfl) (by kernel_rfl)) (sl_cons c (se_list c (sl_cons c (se_tup c (sl_cons c (se_var (by kernel_rfl) (by kernel_rfl)) (sl_cons c (se_int) (sl_nil) (fun _ => rfl)) (fun _ => rfl)) (len_le (len_c (len_c len_0)) (by decide))) (sl_cons c (se_glob c (one := true) (by kernel_rfl) (by kernel_rfl) rfl) (sl_nil) (fun _ => rfl)) (fun _ => star_Tuple ..)) (len_le (len_c (len_c len_0)) (by decide))) (sl_nil) (fun _ => star_List ..)) (fun _ => rfl)) (fun _ => rfl)) (se_var (by kernel_rfl) (by kernel_rfl)))) (ssl_nil)

noncomputable def F_parted : FnD := ⟨[(PySem.Str.ofString "top"), (PySem.Str.ofString "bottom")], tA 73, tB 73, tS 73, [(PySem.Str.ofString "top"), (PySem.Str.ofString "bottom"), (PySem.Str.ofString "a"), (PySem.Str.ofString "b"), (PySem.Str.ofString "c"), (PySem.Str.ofString "h"), (PySem.Str.ofString "g"), (PySem.Str.ofString "step")]⟩
theorem F_parted_ok : F_parted.OK where
  kind := by kernel_rfl
  co := by kernel_rfl
  gen := by kernel_rfl
  nd := by decide +kernel
  loc := by decide +kernel
  pre := ⟨_, rfl⟩
  bind := by
    intro name qual doc pm cdv ct an vals h
    obtain ⟨v0, v1, rfl⟩ := len_2 h
    kernel_rfl
noncomputable def b_parted : SL := .cons (.asg2 [2, 3, 4] (.cons (.var 0) (.cons (.var 1) (.cons (.lst (.cons (.glob true) (.nil))) (.nil))))) (.cons (.share 4) (.cons (.for [5] false (.seq (.call 23 (.cons (.idx (.call 53 (.cons (.var 2) (.nil))) (.cint 0)) (.cons (.idx (.call 53 (.cons (.var 3) (.nil))) (.cint 0)) (.nil))))) (.cons (.asg 6 (.call 51 (.cons (.var 2) (.cons (.call 55 (.cons (.var 3) (.cons (.var 5) (.nil)))) (.nil))))) (.cons (.ite (.cmp .gt (.call 41 (.cons (.var 6) (.nil))) (.cint 0)) (.cons (.asg2 [2, 3] (.cons (.idx (.call 49 (.cons (.var 2) (.cons (.var 6) (.nil)))) (.cint 0)) (.cons (.idx (.call 49 (.cons (.var 3) (.cons (.call 55 (.cons (.var 6) (.cons (.neg (.var 5)) (.nil)))) (.nil)))) (.cint 0)) (.nil)))) (.cons (.for [7] false (.rng2 (.cint 1) (.bin .add (.var 5) (.cint 1))) (.cons (.asg 4 (.call 48 (.cons (.var 4) (.cons (.call 55 (.cons (.var 6) (.cons (.neg (.var 7)) (.nil)))) (.nil))))) (.nil))) (.nil))) (.nil)) (.nil)))) (.cons (.ret (.tup (.cons (.var 2) (.cons (.var 3) (.cons (.var 4) (.nil)))))) (.nil))))
theorem s_parted {C : Cx} {Γ : Env0} {n wf : Nat} (c : COK C) (g : GOK C n Γ) : SSL C Γ n wf F_parted.scope.names F_parted.xs (F_parted.body) b_parted :=
  ssl_cons (ss_asg2s c (names := [(PySem.Str.ofString "a"), (PySem.Str.ofString "b"), (PySem.Str.ofString "c")]) (slf_cons c (se_var (by kernel_rfl) (by kernel_rfl)) (slf_cons c (se_var (by kernel_rfl) (by kernel_rfl)) (slf_cons c (se_list c (sl_cons c (se_glob c (one := true) (by kernel_rfl) (by kernel_rfl) rfl) (sl_nil) (fun _ => rfl)) (len_le (len_c len_0) (by decide))) (slf_nil c) (fun _ => star_List ..)) (fun _ => rfl)) (fun _ => rfl)) ⟨(by kernel_rfl), (by decide +kernel), (by kernel_rfl), (by decide +kernel), (by kernel_rfl), (by decide +kernel), trivial⟩ (by decide) rfl (by decide) (by rintro ⟨⟨k1, n1, g1, c1, m1⟩, l1, gl1, ce1, q1, f1, cd1, fr1, b1⟩ h1 h2; simp only at h1 h2; subst h1 h2; kernel_rfl)) (ssl_share (ssl_cons (ss_for c (names := [(PySem.Str.ofString "h")]) (si_seq c (se_call c (f := 23) g (by kernel_rfl) (by kernel_rfl) (by kernel_rfl) (sl_cons c (se_idx c (SE.sb (se_call c (f := 53) g (by kernel_rfl) (by kernel_rfl) (by kernel_rfl) (sl_cons c (se_var (by kernel_rfl) (by kernel_rfl)) (sl_nil) (fun _ => rfl)) (fun _ => rfl))) (se_int) (fun _ _ _ => rfl)) (sl_cons c (se_idx c (SE.sb (se_call c (f := 53) g (by kernel_rfl) (by kernel_rfl) (by kernel_rfl) (sl_cons c (se_var (by kernel_rfl) (by kernel_rfl)) (sl_nil) (fun _ => rfl)) (fun _ => rfl))) (se_int) (fun _ _ _ => rfl)) (sl_nil) (fun _ => rfl)) (fun _ => rfl)) (fun _ => rfl)) (fun _ _ => rfl)) (ssl_cons (ss_asg c (se_call c (f := 51) g (by kernel_rfl) (by kernel_rfl) (by kernel_rfl) (sl_cons c (se_var (by kernel_rfl) (by kernel_rfl)) (sl_cons c (se_call c (f := 55) g (by kernel_rfl) (by kernel_rfl) (by kernel_rfl) (sl_cons c (se_var (by kernel_rfl) (by kernel_rfl)) (sl_cons c (se_var (by kernel_rfl) (by kernel_rfl)) (sl_nil) (fun _ => rfl)) (fun _ => rfl)) (fun _ => rfl)) (sl_nil) (fun _ => rfl)) (fun _ => rfl)) (fun _ => rfl)) (by kernel_rfl) (by decide +kernel) (fun _ _ _ => rfl)) (ssl_cons (ss_ite c (st_cmp c rfl (SE.sb (se_call c (f := 41) g (by kernel_rfl) (by kernel_rfl) (by kernel_rfl) (sl_cons c (se_var (by kernel_rfl) (by kernel_rfl)) (sl_nil) (fun _ => rfl)) (fun _ => rfl))) (SE.sb (se_int)) (by kernel_rfl)) (ssl_cons (ss_asg2s c (names := [(PySem.Str.ofString "a"), (PySem.Str.ofString "b")]) (slf_cons c (se_idx c (SE.sb (se_call c (f := 49) g (by kernel_rfl) (by kernel_rfl) (by kernel_rfl) (sl_cons c (se_var (by kernel_rfl) (by kernel_rfl)) (sl_cons c (se_var (by kernel_rfl) (by kernel_rfl)) (sl_nil) (fun _ => rfl)) (fun _ => rfl)) (fun _ => rfl))) (se_int) (fun _ _ _ => rfl)) (slf_cons c (se_idx c (SE.sb (se_call c (f := 49) g (by kernel_rfl) (by kernel_rfl) (by kernel_rfl) (sl_cons c (se_var (by kernel_rfl) (by kernel_rfl)) (sl_cons c (se_call c (f := 55) g (by kernel_rfl) (by kernel_rfl) (by kernel_rfl) (sl_cons c (se_var (by kernel_rfl) (by kernel_rfl)) (sl_cons c (se_neg c (se_var (by kernel_rfl) (by kernel_rfl))) (sl_nil) (fun _ => rfl)) (fun _ => rfl)) (fun _ => rfl)) (sl_nil) (fun _ => rfl)) (fun _ => rfl)) (fun _ => rfl))) (se_int) (fun _ _ _ => rfl)) (slf_nil c) (fun _ => rfl)) (fun _ => rfl)) ⟨(by kernel_rfl), (by decide +kernel), (by kernel_rfl), (by decide +kernel), trivial⟩ (by decide) rfl (by decide) (by rintro ⟨⟨k1, n1, g1, c1, m1⟩, l1, gl1, ce1, q1, f1, cd1, fr1, b1⟩ h1 h2; simp only at h1 h2; subst h1 h2; kernel_rfl)) (ssl_cons (ss_for c (names := [(PySem.Str.ofString "step")]) (si_rng2 c (by kernel_rfl) (se_int) (se_bin c rfl (se_var (by kernel_rfl) (by kernel_rfl)) (se_int)) (fun _ => rfl) (fun _ => rfl) (fun _ _ => rfl)) (ssl_cons (ss_asg c (se_call c (f := 48) g (by kernel_rfl) (by kernel_rfl) (by kernel_rfl) (sl_cons c (se_var (by kernel_rfl) (by kernel_rfl)) (sl_cons c (se_call c (f := 55) g (by kernel_rfl) (by kernel_rfl) (by kernel_rfl) (sl_cons c (se_var (by kernel_rfl) (by kernel_rfl)) (sl_cons c (se_neg c (se_var (by kernel_rfl) (by kernel_rfl))) (sl_nil) (fun _ => rfl)) (fun _ => rfl)) (fun _ => rfl)) (sl_nil) (fun _ => rfl)) (fun _ => rfl)) (fun _ => rfl)) (by kernel_rfl) (by decide +kernel) (fun _ _ _ => rfl)) (ssl_nil)) ⟨(by kernel_rfl), (by decide +kernel), trivial⟩ ⟨_, _, rfl, rfl⟩ (fun _ _ => rfl)) (ssl_nil))) (ssl_nil)) (ssl_nil))) ⟨(by kernel_rfl), (by decide +kernel), trivial⟩ ⟨_, _, rfl, rfl⟩ (fun _ _ => rfl)) (ssl_cons (ss_ret c (se_tup c (sl_cons c (se_var (by kernel_rfl) (by kernel_rfl)) (sl_cons c (se_var (by kernel_rfl) (by kernel_rfl)) (sl_cons c (se_var (by kernel_rfl) (by kernel_rfl)) (sl_nil) (fun _ => rfl)) (fun _ => rfl)) (fun _ => rfl)) (len_le (len_c (len_c (len_c len_0))) (by decide)))) (ssl_nil))))

noncomputable def F_coefficient_at : FnD := ⟨[(PySem.Str.ofString "p"), (PySem.Str.ofString "power")], tA 74, tB 74, tS 74, [(PySem.Str.ofString "p"), (PySem.Str.ofString "power")]⟩
theorem F_coefficient_at_ok : F_coefficient_at.OK where
  kind := by kernel_rfl
  co := by kernel_rfl
  gen := by kernel_rfl
  nd := by decide +kernel
  loc := by decide +kernel
  pre := ⟨_, rfl⟩
  bind := by
    intro name qual doc pm cdv ct an vals h
    obtain ⟨v0, v1, rfl⟩ := len_2 h
    kernel_rfl
noncomputable def b_coefficient_at : SL := .cons (.ret (.ite (.cmp2 .le .lt (.cint 0) (.bvar 1) (.len (.bvar 0))) (.idx (.bvar 0) (.var 1)) (.glob false))) (.nil)
theorem s_coefficient_at {C : Cx} {Γ : Env0} {n wf : Nat} (c : COK C) (g : GOK C n Γ) : SSL C Γ n wf F_coefficient_at.scope.names F_coefficient_at.xs (F_coefficient_at.body) b_coefficient_at :=
  ssl_cons (ss_ret c (se_ite c (st_cmp2 c rfl rfl (SE.sb (se_int)) (sb_var (by kernel_rfl) (by kernel_rfl)) (SE.sb (se_len c (by kernel_rfl) (sb_var (by kernel_rfl) (by kernel_rfl)) (fun _ => rfl))) (by kernel_rfl)) (se_idx c (sb_var (by kernel_rfl) (by kernel_rfl)) (se_var (by kernel_rfl) (by kernel_rfl)) (fun _ _ _ => rfl)) (se_glob c (one := false) (by kernel_rfl) (by kernel_rfl) rfl))) (ssl_nil)

noncomputable def F_most_degree : FnD := ⟨[(PySem.Str.ofString "a"), (PySem.Str.ofString "b"), (PySem.Str.ofString "c")], tA 75, tB 75, tS 75, [(PySem.Str.ofString "a"), (PySem.Str.ofString "b"), (PySem.Str.ofString "c"), (PySem.Str.ofString "high"), (PySem.Str.ofString "least"), (PySem.Str.ofString "gap")]⟩
theorem F_most_degree_ok : F_most_degree.OK where
  kind := by kernel_rfl
  co := by kernel_rfl
  gen := by kernel_rfl
  nd := by decide +kernel
  loc := by decide +kernel
  pre := ⟨_, rfl⟩
  bind := by
    intro name qual doc pm cdv ct an vals h
    obtain ⟨v0, v1, v2, rfl⟩ := len_3 h
    kernel_rfl
noncomputable def b_most_degree : SL := .cons (.asg 3 (.max2 (.call 41 (.cons (.var 0) (.nil))) (.call 41 (.cons (.var 1) (.nil))))) (.cons (.ite (.bop false (.cmp .ne (.call 41 (.cons (.var 0) (.nil))) (.call 41 (.cons (.var 1) (.nil)))) (.cmp .ne (.call 42 (.cons (.var 0) (.nil))) (.call 42 (.cons (.var 1) (.nil))))) (.cons (.ret (.bin .sub (.call 41 (.cons (.var 2) (.nil))) (.var 3))) (.nil)) (.nil)) (.cons (.asg 4 (.bin .add (.bin .sub (.call 41 (.cons (.var 2) (.nil))) (.var 3)) (.cint 1))) (.cons (.share 4) (.cons (.asg 5 (.call 28 (.cons (.call 26 (.cons (.call 57 (.cons (.var 1) (.cons (.bin .sub (.var 3) (.cint 1)) (.nil)))) (.cons (.call 57 (.cons (.var 0) (.cons (.bin .sub (.var 3) (.cint 1)) (.nil)))) (.nil)))) (.cons (.call 42 (.cons (.var 0) (.nil))) (.nil))))) (.cons (.ret (.ite (.bop true (.call 32 (.cons (.var 5) (.nil))) (.cmp .ge (.idx (.bvar 5) (.cint 0)) (.cint 0))) (.max2 (.var 4) (.idx (.bvar 5) (.cint 0))) (.var 4))) (.nil))))))
theorem s_most_degree {C : Cx} {Γ : Env0} {n wf : Nat} (c : COK C) (g : GOK C n Γ) : SSL C Γ n wf F_most_degree.scope.names F_most_degree.xs (F_most_degree.body) b_most_degree :=
  ssl_cons (ss_asg c (se_max2 c (by kernel_rfl) (se_call c (f := 41) g (by kernel_rfl) (by kernel_rfl) (by kernel_rfl) (sl_cons c (se_var (by kernel_rfl) (by kernel_rfl)) (sl_nil) (fun _ => rfl)) (fun _ => rfl)) (se_call c (f := 41) g (by kernel_rfl) (by kernel_rfl) (by kernel_rfl) (sl_cons c (se_var (by kernel_rfl) (by kernel_rfl)) (sl_nil) (fun _ => rfl)) (fun _ => rfl)) (fun _ => rfl) (fun _ => rfl)) (by kernel_rfl) (by decide +kernel) (fun _ _ _ => rfl)) (ssl_cons (ss_ite c (st_or c (st_cmp c rfl (SE.sb (se_call c (f := 41) g (by kernel_rfl) (by kernel_rfl) (by kernel_rfl) (sl_cons c (se_var (by kernel_rfl) (by kernel_rfl)) (sl_nil) (fun _ => rfl)) (fun _ => rfl))) (SE.sb (se_call c (f := 41) g (by kernel_rfl) (by kernel_rfl) (by kernel_rfl) (sl_cons c (se_var (by kernel_rfl) (by kernel_rfl)) (sl_nil) (fun _ => rfl)) (fun _ => rfl))) (by kernel_rfl)) (st_or1 c (st_cmp c rfl (SE.sb (se_call c (f := 42) g (by kernel_rfl) (by kernel_rfl) (by kernel_rfl) (sl_cons c (se_var (by kernel_rfl) (by kernel_rfl)) (sl_nil) (fun _ => rfl)) (fun _ => rfl))) (SE.sb (se_call c (f := 42) g (by kernel_rfl) (by kernel_rfl) (by kernel_rfl) (sl_cons c (se_var (by kernel_rfl) (by kernel_rfl)) (sl_nil) (fun _ => rfl)) (fun _ => rfl))) (by kernel_rfl)))) (ssl_cons (ss_ret c (se_bin c rfl (se_call c (f := 41) g (by kernel_rfl) (by kernel_rfl) (by kernel_rfl) (sl_cons c (se_var (by kernel_rfl) (by kernel_rfl)) (sl_nil) (fun _ => rfl)) (fun _ => rfl)) (se_var (by kernel_rfl) (by kernel_rfl)))) (ssl_nil)) (ssl_nil)) (ssl_cons (ss_asg c (se_bin c rfl (se_bin c rfl (se_call c (f := 41) g (by kernel_rfl) (by kernel_rfl) (by kernel_rfl) (sl_cons c (se_var (by kernel_rfl) (by kernel_rfl)) (sl_nil) (fun _ => rfl)) (fun _ => rfl)) (se_var (by kernel_rfl) (by kernel_rfl))) (se_int)) (by kernel_rfl) (by decide +kernel) (fun _ _ _ => rfl)) (ssl_share (ssl_cons (ss_asg c (se_call c (f := 28) g (by kernel_rfl) (by kernel_rfl) (by kernel_rfl) (sl_cons c (se_call c (f := 26) g (by kernel_rfl) (by kernel_rfl) (by kernel_rfl) (sl_cons c (se_call c (f := 57) g (by kernel_rfl) (by kernel_rfl) (by kernel_rfl) (sl_cons c (se_var (by kernel_rfl) (by kernel_rfl)) (sl_cons c (se_bin c rfl (se_var (by kernel_rfl) (by kernel_rfl)) (se_int)) (sl_nil) (fun _ => rfl)) (fun _ => rfl)) (fun _ => rfl)) (sl_cons c (se_call c (f := 57) g (by kernel_rfl) (by kernel_rfl) (by kernel_rfl) (sl_cons c (se_var (by kernel_rfl) (by kernel_rfl)) (sl_cons c (se_bin c rfl (se_var (by kernel_rfl) (by kernel_rfl)) (se_int)) (sl_nil) (fun _ => rfl)) (fun _ => rfl)) (fun _ => rfl)) (sl_nil) (fun _ => rfl)) (fun _ => rfl)) (fun _ => rfl)) (sl_cons c (se_call c (f := 42) g (by kernel_rfl) (by kernel_rfl) (by kernel_rfl) (sl_cons c (se_var (by kernel_rfl) (by kernel_rfl)) (sl_nil) (fun _ => rfl)) (fun _ => rfl)) (sl_nil) (fun _ => rfl)) (fun _ => rfl)) (fun _ => rfl)) (by kernel_rfl) (by decide +kernel) (fun _ _ _ => rfl)) (ssl_cons (ss_ret c (se_ite c (st_and c (ST.of c (se_call c (f := 32) g (by kernel_rfl) (by kernel_rfl) (by kernel_rfl) (sl_cons c (se_var (by kernel_rfl) (by kernel_rfl)) (sl_nil) (fun _ => rfl)) (fun _ => rfl)) (fun _ _ => rfl)) (st_and1 c (st_cmp c rfl (SE.sb (se_idx c (sb_var (by kernel_rfl) (by kernel_rfl)) (se_int) (fun _ _ _ => rfl))) (SE.sb (se_int)) (by kernel_rfl)))) (se_max2 c (by kernel_rfl) (se_var (by kernel_rfl) (by kernel_rfl)) (se_idx c (sb_var (by kernel_rfl) (by kernel_rfl)) (se_int) (fun _ _ _ => rfl)) (fun _ => rfl) (fun _ => rfl)) (se_var (by kernel_rfl) (by kernel_rfl)))) (ssl_nil))))))

noncomputable def F_difference_of : FnD := ⟨[(PySem.Str.ofString "a"), (PySem.Str.ofString "b"), (PySem.Str.ofString "x")], tA 76, tB 76, tS 76, [(PySem.Str.ofString "a"), (PySem.Str.ofString "b"), (PySem.Str.ofString "x")]⟩
theorem F_difference_of_ok : F_difference_of.OK where
  kind := by kernel_rfl
  co := by kernel_rfl
  gen := by kernel_rfl
  nd := by decide +kernel
  loc := by decide +kernel
  pre := ⟨_, rfl⟩
  bind := by
    intro name qual doc pm cdv ct an vals h
    obtain ⟨v0, v1, v2, rfl⟩ := len_3 h
    kernel_rfl
noncomputable def b_difference_of : SL := .cons (.ret (.call 43 (.cons (.call 48 (.cons (.var 0) (.cons (.call 55 (.cons (.var 2) (.cons (.cint 1) (.nil)))) (.nil)))) (.cons (.call 44 (.cons (.call 48 (.cons (.var 1) (.cons (.var 2) (.nil)))) (.nil))) (.nil))))) (.nil)
theorem s_difference_of {C : Cx} {Γ : Env0} {n wf : Nat} (c : COK C) (g : GOK C n Γ) : SSL C Γ n wf F_difference_of.scope.names F_difference_of.xs (F_difference_of.body) b_difference_of :=
  ssl_cons (ss_ret c (se_call c (f := 43) g (by kernel_rfl) (by kernel_rfl) (by kernel_rfl) (sl_cons c (se_call c (f := 48) g (by kernel_rfl) (by kernel_rfl) (by kernel_rfl) (sl_cons c (se_var (by kernel_rfl) (by kernel_rfl)) (sl_cons c (se_call c (f := 55) g (by kernel_rfl) (by kernel_rfl) (by kernel_rfl) (sl_cons c (se_var (by kernel_rfl) (by kernel_rfl)) (sl_cons c (se_int) (sl_nil) (fun _ => rfl)) (fun _ => rfl)) (fun _ => rfl)) (sl_nil) (fun _ => rfl)) (fun _ => rfl)) (fun _ => rfl)) (sl_cons c (se_call c (f := 44) g (by kernel_rfl) (by kernel_rfl) (by kernel_rfl) (sl_cons c (se_call c (f := 48) g (by kernel_rfl) (by kernel_rfl) (by kernel_rfl) (sl_cons c (se_var (by kernel_rfl) (by kernel_rfl)) (sl_cons c (se_var (by kernel_rfl) (by kernel_rfl)) (sl_nil) (fun _ => rfl)) (fun _ => rfl)) (fun _ => rfl)) (sl_nil) (fun _ => rfl)) (fun _ => rfl)) (sl_nil) (fun _ => rfl)) (fun _ => rfl)) (fun _ => rfl))) (ssl_nil)

noncomputable def F_key_solution : FnD := ⟨[(PySem.Str.ofString "a"), (PySem.Str.ofString "b"), (PySem.Str.ofString "c")], tA 77, tB 77, tS 77, [(PySem.Str.ofString "a"), (PySem.Str.ofString "b"), (PySem.Str.ofString "c"), (PySem.Str.ofString "most"), (PySem.Str.ofString "columns"), (PySem.Str.ofString "height"), (PySem.Str.ofString "rows"), (PySem.Str.ofString "found")]⟩
theorem F_key_solution_ok : F_key_solution.OK where
  kind := by kernel_rfl
  co := by kernel_rfl
  gen := by kernel_rfl
  nd := by decide +kernel
  loc := by decide +kernel
  pre := ⟨_, rfl⟩
  bind := by
    intro name qual doc pm cdv ct an vals h
    obtain ⟨v0, v1, v2, rfl⟩ := len_3 h
    kernel_rfl
noncomputable def b_key_solution : SL := .cons (.ite (.cmp .eq (.bvar 2) (.lst (.nil))) (.cons (.ret (.lst (.nil))) (.nil)) (.nil)) (.cons (.asg 3 (.call 58 (.cons (.var 0) (.cons (.var 1) (.cons (.var 2) (.nil)))))) (.cons (.ite (.cmp .lt (.bvar 3) (.cint 0)) (.cons (.ret (.cnone)) (.nil)) (.nil)) (.cons (.asg 4 (.comp (.rng1 (.bin .add (.var 3) (.cint 1))) 0 (.cbool true) (.call 59 (.cons (.var 0) (.cons (.var 1) (.cons (.call 47 (.cons (.lst (.cons (.glob true) (.nil))) (.cons (.var 8) (.nil)))) (.nil))))))) (.cons (.share 4) (.cons (.asg 5 (.maxl (.bin .add (.comp (.seq (.var 4)) 0 (.cbool true) (.len (.bvar 8))) (.lst (.cons (.len (.bvar 2)) (.nil)))))) (.cons (.asg 6 (.comp (.rng1 (.var 5)) 0 (.cbool true) (.comp (.seq (.var 4)) 0 (.cbool true) (.call 57 (.cons (.var 9) (.cons (.var 8) (.nil))))))) (.cons (.share 6) (.cons (.asg 7 (.idx (.call 39 (.cons (.var 6) (.cons (.comp (.rng1 (.var 5)) 0 (.cbool true) (.call 57 (.cons (.var 2) (.cons (.var 8) (.nil))))) (.nil)))) (.cint 0))) (.cons (.ret (.ite (.cmp .is (.bvar 7) (.cnone)) (.cnone) (.call 61 (.cons (.var 7) (.nil))))) (.nil))))))))))
theorem s_key_solution {C : Cx} {Γ : Env0} {n wf : Nat} (c : COK C) (g : GOK C n Γ) : SSL C Γ n wf F_key_solution.scope.names F_key_solution.xs (F_key_solution.body) b_key_solution :=
  ssl_cons (ss_ite c (st_cmp c rfl (sb_var (by kernel_rfl) (by kernel_rfl)) (SE.sb (se_list c (sl_nil) (len_le len_0 (by decide)))) (by kernel_rfl)) (ssl_cons (ss_ret c (se_list c (sl_nil) (len_le len_0 (by decide)))) (ssl_nil)) (ssl_nil)) (ssl_cons (ss_asg c (se_call c (f := 58) g (by kernel_rfl) (by kernel_rfl) (by kernel_rfl) (sl_cons c (se_var (by kernel_rfl) (by kernel_rfl)) (sl_cons c (se_var (by kernel_rfl) (by kernel_rfl)) (sl_cons c (se_var (by kernel_rfl) (by kernel_rfl)) (sl_nil) (fun _ => rfl)) (fun _ => rfl)) (fun _ => rfl)) (fun _ => rfl)) (by kernel_rfl) (by decide +kernel) (fun _ _ _ => rfl)) (ssl_cons (ss_ite c (st_cmp c rfl (sb_var (by kernel_rfl) (by kernel_rfl)) (SE.sb (se_int)) (by kernel_rfl)) (ssl_cons (ss_ret c (se_none)) (ssl_nil)) (ssl_nil)) (ssl_cons (ss_asg c (se_comp c (ts := [(PySem.Str.ofString "power")]) (si_rng1 c (by kernel_rfl) (se_bin c rfl (se_var (by kernel_rfl) (by kernel_rfl)) (se_int)) (fun _ => rfl) (fun _ _ => rfl)) (by decide +kernel) rfl rfl ⟨(by kernel_rfl), (by decide +kernel), trivial⟩ ⟨_, _, rfl, rfl⟩ (.inl ⟨rfl, rfl⟩) (se_call c (f := 59) g (by kernel_rfl) (by kernel_rfl) (by kernel_rfl) (sl_cons c (se_var (by kernel_rfl) (by kernel_rfl)) (sl_cons c (se_var (by kernel_rfl) (by kernel_rfl)) (sl_cons c (se_call c (f := 47) g (by kernel_rfl) (by kernel_rfl) (by kernel_rfl) (sl_cons c (se_list c (sl_cons c (se_glob c (one := true) (by kernel_rfl) (by kernel_rfl) rfl) (sl_nil) (fun _ => rfl)) (len_le (len_c len_0) (by decide))) (sl_cons c (se_var (by kernel_rfl) (by kernel_rfl)) (sl_nil) (fun _ => rfl)) (fun _ => star_List ..)) (fun _ => rfl)) (sl_nil) (fun _ => rfl)) (fun _ => rfl)) (fun _ => rfl)) (fun _ => rfl)) (fun _ _ => rfl)) (by kernel_rfl) (by decide +kernel) (by rintro ⟨⟨k1, n1, g1, c1, m1⟩, l1, gl1, ce1, q1, f1, cd1, fr1, b1⟩ h1 h2; simp only at h1 h2; subst h1 h2; kernel_rfl)) (ssl_share (ssl_cons (ss_asg c (se_maxl c (by kernel_rfl) (se_bin c rfl (se_comp c (ts := [(PySem.Str.ofString "column")]) (si_seq c (se_var (by kernel_rfl) (by kernel_rfl)) (fun _ _ => rfl)) (by decide +kernel) rfl rfl ⟨(by kernel_rfl), (by decide +kernel), trivial⟩ ⟨_, _, rfl, rfl⟩ (.inl ⟨rfl, rfl⟩) (se_len c (by kernel_rfl) (sb_var (by kernel_rfl) (by kernel_rfl)) (fun _ => rfl)) (fun _ _ => rfl)) (se_list c (sl_cons c (se_len c (by kernel_rfl) (sb_var (by kernel_rfl) (by kernel_rfl)) (fun _ => rfl)) (sl_nil) (fun _ => rfl)) (len_le (len_c len_0) (by decide)))) (fun _ => rfl)) (by kernel_rfl) (by decide +kernel) (fun _ _ _ => rfl)) (ssl_cons (ss_asgC c (ts := [(PySem.Str.ofString "power")]) (si_rng1 c (by kernel_rfl) (se_var (by kernel_rfl) (by kernel_rfl)) (fun _ => rfl) (fun _ _ => rfl)) (by decide +kernel) rfl rfl ⟨(by kernel_rfl), (by decide +kernel), trivial⟩ ⟨_, _, rfl, rfl⟩ (.inl ⟨rfl, rfl⟩) (se_comp c (ts := [(PySem.Str.ofString "column")]) (si_seq c (se_var (by kernel_rfl) (by kernel_rfl)) (fun _ _ => rfl)) (by decide +kernel) rfl rfl ⟨(by kernel_rfl), (by decide +kernel), trivial⟩ ⟨_, _, rfl, rfl⟩ (.inl ⟨rfl, rfl⟩) (se_call c (f := 57) g (by kernel_rfl) (by kernel_rfl) (by kernel_rfl) (sl_cons c (se_var (by kernel_rfl) (by kernel_rfl)) (sl_cons c (se_var (by kernel_rfl) (by kernel_rfl)) (sl_nil) (fun _ => rfl)) (fun _ => rfl)) (fun _ => rfl)) (fun _ _ => rfl)) (fun _ _ => rfl) (by kernel_rfl) (by decide +kernel) (by rintro ⟨⟨k1, n1, g1, c1, m1⟩, l1, gl1, ce1, q1, f1, cd1, fr1, b1⟩ h1 h2; simp only at h1 h2; subst h1 h2; kernel_rfl)) (ssl_share (ssl_cons (ss_asg c (se_idx c (SE.sb (se_call c (f := 39) g (by kernel_rfl) (by kernel_rfl) (by kernel_rfl) (sl_cons c (se_var (by kernel_rfl) (by kernel_rfl)) (sl_cons c (se_comp c (ts := [(PySem.Str.ofString "power")]) (si_rng1 c (by kernel_rfl) (se_var (by kernel_rfl) (by kernel_rfl)) (fun _ => rfl) (fun _ _ => rfl)) (by decide +kernel) rfl rfl ⟨(by kernel_rfl), (by decide +kernel), trivial⟩ ⟨_, _, rfl, rfl⟩ (.inl ⟨rfl, rfl⟩) (se_call c (f := 57) g (by kernel_rfl) (by kernel_rfl) (by kernel_rfl) (sl_cons c (se_var (by kernel_rfl) (by kernel_rfl)) (sl_cons c (se_var (by kernel_rfl) (by kernel_rfl)) (sl_nil) (fun _ => rfl)) (fun _ => rfl)) (fun _ => rfl)) (fun _ _ => rfl)) (sl_nil) (fun _ => rfl)) (fun _ => rfl)) (fun _ => rfl))) (se_int) (fun _ _ _ => rfl)) (by kernel_rfl) (by decide +kernel) (fun _ _ _ => rfl)) (ssl_cons (ss_ret c (se_ite c (st_cmp c rfl (sb_var (by kernel_rfl) (by kernel_rfl)) (SE.sb (se_none)) (by kernel_rfl)) (se_none) (se_call c (f := 61) g (by kernel_rfl) (by kernel_rfl) (by kernel_rfl) (sl_cons c (se_var (by kernel_rfl) (by kernel_rfl)) (sl_nil) (fun _ => rfl)) (fun _ => rfl)))) (ssl_nil))))))))))

noncomputable def F_trimmed : FnD := ⟨[(PySem.Str.ofString "p")], tA 78, tB 78, tS 78, [(PySem.Str.ofString "p"), (PySem.Str.ofString "size")]⟩
theorem F_trimmed_ok : F_trimmed.OK where
  kind := by kernel_rfl
  co := by kernel_rfl
  gen := by kernel_rfl
  nd := by decide +kernel
  loc := by decide +kernel
  pre := ⟨_, rfl⟩
  bind := by
    intro name qual doc pm cdv ct an vals h
    obtain ⟨v0, rfl⟩ := len_1 h
    kernel_rfl
noncomputable def b_trimmed : SL := .cons (.asg 1 (.len (.bvar 0))) (.cons (.whil (.bop true (.cmp .gt (.bvar 1) (.cint 0)) (.cmp .eq (.idx (.bvar 0) (.bin .sub (.var 1) (.cint 1))) (.glob false))) (.cons (.aug 1 .sub (.cint 1)) (.nil))) (.cons (.ret (.upto (.var 0) (.var 1))) (.nil)))
theorem s_trimmed {C : Cx} {Γ : Env0} {n wf : Nat} (c : COK C) (g : GOK C n Γ) : SSL C Γ n wf F_trimmed.scope.names F_trimmed.xs (F_trimmed.body) b_trimmed :=
  ssl_cons (ss_asg c (se_len c (by kernel_rfl) (sb_var (by kernel_rfl) (by kernel_rfl)) (fun _ => rfl)) (by kernel_rfl) (by decide +kernel) (fun _ _ _ => rfl)) (ssl_cons (ss_while c (st_and c (st_cmp c rfl (sb_var (by kernel_rfl) (by kernel_rfl)) (SE.sb (se_int)) (by kernel_rfl)) (st_and1 c (st_cmp c rfl (SE.sb (se_idx c (sb_var (by kernel_rfl) (by kernel_rfl)) (se_bin c rfl (se_var (by kernel_rfl) (by kernel_rfl)) (se_int)) (fun _ _ _ => rfl))) (SE.sb (se_glob c (one := false) (by kernel_rfl) (by kernel_rfl) rfl)) (by kernel_rfl)))) (ssl_cons (ss_aug c rfl (se_int) (by kernel_rfl) (by decide +kernel) (by kernel_rfl)) (ssl_nil))) (ssl_cons (ss_ret c (se_upto c (se_var (by kernel_rfl) (by kernel_rfl)) (se_var (by kernel_rfl) (by kernel_rfl)))) (ssl_nil)))

noncomputable def F_gosper : FnD := ⟨[(PySem.Str.ofString "ratio")], tA 79, tB 79, tS 79, [(PySem.Str.ofString "ratio"), (PySem.Str.ofString "a"), (PySem.Str.ofString "b"), (PySem.Str.ofString "c"), (PySem.Str.ofString "back"), (PySem.Str.ofString "x")]⟩
theorem F_gosper_ok : F_gosper.OK where
  kind := by kernel_rfl
  co := by kernel_rfl
  gen := by kernel_rfl
  nd := by decide +kernel
  loc := by decide +kernel
  pre := ⟨_, rfl⟩
  bind := by
    intro name qual doc pm cdv ct an vals h
    obtain ⟨v0, rfl⟩ := len_1 h
    kernel_rfl
noncomputable def b_gosper : SL := .cons (.asgT [1, 2, 3] (.call 56 (.cons (.idx (.bvar 0) (.cint 0)) (.cons (.idx (.bvar 0) (.cint 1)) (.nil))))) (.cons (.asg 4 (.call 55 (.cons (.var 2) (.cons (.neg (.cint 1)) (.nil))))) (.cons (.asg 5 (.call 60 (.cons (.var 1) (.cons (.var 4) (.cons (.var 3) (.nil)))))) (.cons (.ret (.ite (.cmp .is (.bvar 5) (.cnone)) (.cnone) (.call 54 (.cons (.call 48 (.cons (.var 4) (.cons (.var 5) (.nil)))) (.cons (.var 3) (.nil)))))) (.nil))))
theorem s_gosper {C : Cx} {Γ : Env0} {n wf : Nat} (c : COK C) (g : GOK C n Γ) : SSL C Γ n wf F_gosper.scope.names F_gosper.xs (F_gosper.body) b_gosper :=
  ssl_cons (ss_asgTL c (names := [(PySem.Str.ofString "a"), (PySem.Str.ofString "b"), (PySem.Str.ofString "c")]) (se_call c (f := 56) g (by kernel_rfl) (by kernel_rfl) (by kernel_rfl) (sl_cons c (se_idx c (sb_var (by kernel_rfl) (by kernel_rfl)) (se_int) (fun _ _ _ => rfl)) (sl_cons c (se_idx c (sb_var (by kernel_rfl) (by kernel_rfl)) (se_int) (fun _ _ _ => rfl)) (sl_nil) (fun _ => rfl)) (fun _ => rfl)) (fun _ => rfl)) ⟨(by kernel_rfl), (by decide +kernel), (by kernel_rfl), (by decide +kernel), (by kernel_rfl), (by decide +kernel), trivial⟩ (.cons _ _ (.cons _ _ (.cons _ _ .nil))) (fun _ => rfl) (fun _ => rfl)) (ssl_cons (ss_asg c (se_call c (f := 55) g (by kernel_rfl) (by kernel_rfl) (by kernel_rfl) (sl_cons c (se_var (by kernel_rfl) (by kernel_rfl)) (sl_cons c (se_neg c (se_int)) (sl_nil) (fun _ => rfl)) (fun _ => rfl)) (fun _ => rfl)) (by kernel_rfl) (by decide +kernel) (fun _ _ _ => rfl)) (ssl_cons (ss_asg c (se_call c (f := 60) g (by kernel_rfl) (by kernel_rfl) (by kernel_rfl) (sl_cons c (se_var (by kernel_rfl) (by kernel_rfl)) (sl_cons c (se_var (by kernel_rfl) (by kernel_rfl)) (sl_cons c (se_var (by kernel_rfl) (by kernel_rfl)) (sl_nil) (fun _ => rfl)) (fun _ => rfl)) (fun _ => rfl)) (fun _ => rfl)) (by kernel_rfl) (by decide +kernel) (fun _ _ _ => rfl)) (ssl_cons (ss_ret c (se_ite c (st_cmp c rfl (sb_var (by kernel_rfl) (by kernel_rfl)) (SE.sb (se_none)) (by kernel_rfl)) (se_none) (se_call c (f := 54) g (by kernel_rfl) (by kernel_rfl) (by kernel_rfl) (sl_cons c (se_call c (f := 48) g (by kernel_rfl) (by kernel_rfl) (by kernel_rfl) (sl_cons c (se_var (by kernel_rfl) (by kernel_rfl)) (sl_cons c (se_var (by kernel_rfl) (by kernel_rfl)) (sl_nil) (fun _ => rfl)) (fun _ => rfl)) (fun _ => rfl)) (sl_cons c (se_var (by kernel_rfl) (by kernel_rfl)) (sl_nil) (fun _ => rfl)) (fun _ => rfl)) (fun _ => rfl)))) (ssl_nil))))

noncomputable def F_law_take : FnD := ⟨[(PySem.Str.ofString "draws"), (PySem.Str.ofString "many")], tA 81, tB 81, tS 81, [(PySem.Str.ofString "draws"), (PySem.Str.ofString "many"), (PySem.Str.ofString "found")]⟩
theorem F_law_take_ok : F_law_take.OK where
  kind := by kernel_rfl
  co := by kernel_rfl
  gen := by kernel_rfl
  nd := by decide +kernel
  loc := by decide +kernel
  pre := ⟨_, rfl⟩
  bind := by
    intro name qual doc pm cdv ct an vals h
    obtain ⟨v0, v1, rfl⟩ := len_2 h
    kernel_rfl
noncomputable def b_law_take : SL := .cons (.ite (.cmp .gt (.dget true 0) (.cint 0)) (.cons (.asgD 2 0 (.bin .mod (.dget true 0) (.var 1)) (.bin .div (.dget true 0) (.var 1))) (.cons (.ret (.var 2)) (.nil))) (.nil)) (.cons (.dset false 0 (.bin .mod (.bin .add (.bin .mul (.dget false 0) (.cint 48271)) (.cint 11)) (.cint 2147483647))) (.cons (.ret (.bin .mod (.bin .div (.dget false 0) (.cint 16)) (.var 1))) (.nil)))
theorem s_law_take {C : Cx} {Γ : Env0} {n wf : Nat} (c : COK C) (g : GOK C n Γ) : SSL C Γ n wf F_law_take.scope.names F_law_take.xs (F_law_take.body) b_law_take :=
  ssl_cons (ss_ite c (st_cmp c rfl (SE.sb (se_dget c (great := true) (by kernel_rfl) (by kernel_rfl) rfl)) (SE.sb (se_int)) (by kernel_rfl)) (ssl_cons (ss_asgD c (se_bin c rfl (se_dget c (great := true) (by kernel_rfl) (by kernel_rfl) rfl) (se_var (by kernel_rfl) (by kernel_rfl))) (se_bin c rfl (se_dget c (great := true) (by kernel_rfl) (by kernel_rfl) rfl) (se_var (by kernel_rfl) (by kernel_rfl))) (by kernel_rfl) (by decide +kernel) (by kernel_rfl) (by decide) (by kernel_rfl) rfl (fun _ => rfl) (fun _ => rfl) (by rintro ⟨⟨k1, n1, g1, c1, m1⟩, l1, gl1, ce1, q1, f1, cd1, fr1, b1⟩ h1 h2; simp only at h1 h2; subst h1 h2; kernel_rfl)) (ssl_cons (ss_ret c (se_var (by kernel_rfl) (by kernel_rfl))) (ssl_nil))) (ssl_nil)) (ssl_cons (ss_dset c (great := false) (se_bin c rfl (se_bin c rfl (se_bin c rfl (se_dget c (great := false) (by kernel_rfl) (by kernel_rfl) rfl) (se_int)) (se_int)) (se_int)) (by kernel_rfl) (by kernel_rfl) rfl (fun _ => rfl)) (ssl_cons (ss_ret c (se_bin c rfl (se_bin c rfl (se_dget c (great := false) (by kernel_rfl) (by kernel_rfl) rfl) (se_int)) (se_var (by kernel_rfl) (by kernel_rfl)))) (ssl_nil)))

noncomputable def F_law_draws : FnD := ⟨[(PySem.Str.ofString "script")], tA 82, tB 82, tS 82, [(PySem.Str.ofString "script"), (PySem.Str.ofString "mixed_here"), (PySem.Str.ofString "cell")]⟩
theorem F_law_draws_ok : F_law_draws.OK where
  kind := by kernel_rfl
  co := by kernel_rfl
  gen := by kernel_rfl
  nd := by decide +kernel
  loc := by decide +kernel
  pre := ⟨_, rfl⟩
  bind := by
    intro name qual doc pm cdv ct an vals h
    obtain ⟨v0, rfl⟩ := len_1 h
    kernel_rfl
noncomputable def b_law_draws : SL := .cons (.asg 1 (.cint 7)) (.cons (.for [2] false (.seq (.upto (.var 0) (.cint 24))) (.cons (.asg 1 (.bin .mod (.bin .add (.bin .add (.bin .mul (.var 1) (.cint 131)) (.abs (.var 2))) (.cint 17)) (.cint 2147483647))) (.cons (.share 1) (.nil)))) (.nil))
theorem s_law_draws {C : Cx} {Γ : Env0} {n wf : Nat} (c : COK C) (g : GOK C n Γ) : SSL C Γ n wf F_law_draws.scope.names F_law_draws.xs (F_law_draws.body.dropLast) b_law_draws :=
  ssl_cons (ss_asg c (se_int) (by kernel_rfl) (by decide +kernel) (fun _ _ _ => rfl)) (ssl_cons (ss_for c (names := [(PySem.Str.ofString "cell")]) (si_seq c (se_upto c (se_var (by kernel_rfl) (by kernel_rfl)) (se_int)) (fun _ _ => rfl)) (ssl_cons (ss_asg c (se_bin c rfl (se_bin c rfl (se_bin c rfl (se_bin c rfl (se_var (by kernel_rfl) (by kernel_rfl)) (se_int)) (se_abs c (by kernel_rfl) (se_var (by kernel_rfl) (by kernel_rfl)) (fun _ => rfl))) (se_int)) (se_int)) (by kernel_rfl) (by decide +kernel) (fun _ _ _ => rfl)) (ssl_share (ssl_nil))) ⟨(by kernel_rfl), (by decide +kernel), trivial⟩ ⟨_, _, rfl, rfl⟩ (fun _ _ => rfl)) (ssl_nil))
noncomputable def e_great : E := .suml (.comp (.seq (.upto (.var 0) (.cint 24))) 0 (.cmp .gt (.abs (.var 3)) (.bin .pow (.cint 10) (.cint 9))) (.abs (.var 3)))
noncomputable def e_mixed : E := .var 1
theorem s_law_draws_ret {C : Cx} {Γ : Env0} {n : Nat} (c : COK C) (g : GOK C n Γ) : ∃ k1 k2 e1 e2 p1 p2 p3 p4 pos, F_law_draws.body.getLast? = some (.Return (some (.Dict [some (.Constant (.str (PySem.Str.ofString "great")) k1 p1), some (.Constant (.str (PySem.Str.ofString "mixed")) k2 p2)] [e1, e2] p3)) pos) ∧ (p4 = pos) ∧ SE C Γ n F_law_draws.scope.names F_law_draws.xs e1 e_great ∧ SE C Γ n F_law_draws.scope.names F_law_draws.xs e2 e_mixed :=
  ⟨_, _, _, _, _, _, _, _, _, rfl, rfl, se_suml c (by kernel_rfl) (se_comp c (ts := [(PySem.Str.ofString "cell")]) (si_seq c (se_upto c (se_var (by kernel_rfl) (by kernel_rfl)) (se_int)) (fun _ _ => rfl)) (by decide +kernel) rfl rfl ⟨(by kernel_rfl), (by decide +kernel), trivial⟩ ⟨_, _, rfl, rfl⟩ (.inr ⟨_, rfl, st_cmp c rfl (SE.sb (se_abs c (by kernel_rfl) (se_var (by kernel_rfl) (by kernel_rfl)) (fun _ => rfl))) (SE.sb (se_bin c rfl (se_int) (se_int))) (by kernel_rfl)⟩) (se_abs c (by kernel_rfl) (se_var (by kernel_rfl) (by kernel_rfl)) (fun _ => rfl)) (fun _ _ => rfl)) (fun _ => rfl), se_var (by kernel_rfl) (by kernel_rfl)⟩

noncomputable def F_law_mul : FnD := ⟨[(PySem.Str.ofString "one"), (PySem.Str.ofString "other")], tA 83, tB 83, tS 83, [(PySem.Str.ofString "one"), (PySem.Str.ofString "other"), (PySem.Str.ofString "found"), (PySem.Str.ofString "at"), (PySem.Str.ofString "left"), (PySem.Str.ofString "spot"), (PySem.Str.ofString "right")]⟩
theorem F_law_mul_ok : F_law_mul.OK where
  kind := by kernel_rfl
  co := by kernel_rfl
  gen := by kernel_rfl
  nd := by decide +kernel
  loc := by decide +kernel
  pre := ⟨_, rfl⟩
  bind := by
    intro name qual doc pm cdv ct an vals h
    obtain ⟨v0, v1, rfl⟩ := len_2 h
    kernel_rfl
noncomputable def b_law_mul : SL := .cons (.ite (.bop false (.cmp .eq (.bvar 0) (.lst (.nil))) (.cmp .eq (.bvar 1) (.lst (.nil)))) (.cons (.ret (.lst (.nil))) (.nil)) (.nil)) (.cons (.asg 2 (.bin .mul (.lst (.cons (.cint 0) (.nil))) (.bin .sub (.bin .add (.len (.bvar 0)) (.len (.bvar 1))) (.cint 1)))) (.cons (.for [3, 4] true (.enum (.var 0)) (.cons (.for [5, 6] true (.enum (.var 1)) (.cons (.setI 2 (.bin .add (.var 3) (.var 5)) (.bin .add (.idx (.bvar 2) (.bin .add (.var 3) (.var 5))) (.bin .mul (.var 4) (.var 6)))) (.nil))) (.nil))) (.cons (.share 2) (.cons (.ret (.var 2)) (.nil)))))
theorem s_law_mul {C : Cx} {Γ : Env0} {n wf : Nat} (c : COK C) (g : GOK C n Γ) : SSL C Γ n wf F_law_mul.scope.names F_law_mul.xs (F_law_mul.body) b_law_mul :=
  ssl_cons (ss_ite c (st_or c (st_cmp c rfl (sb_var (by kernel_rfl) (by kernel_rfl)) (SE.sb (se_list c (sl_nil) (len_le len_0 (by decide)))) (by kernel_rfl)) (st_or1 c (st_cmp c rfl (sb_var (by kernel_rfl) (by kernel_rfl)) (SE.sb (se_list c (sl_nil) (len_le len_0 (by decide)))) (by kernel_rfl)))) (ssl_cons (ss_ret c (se_list c (sl_nil) (len_le len_0 (by decide)))) (ssl_nil)) (ssl_nil)) (ssl_cons (ss_asg c (se_bin c rfl (se_list c (sl_cons c (se_int) (sl_nil) (fun _ => rfl)) (len_le (len_c len_0) (by decide))) (se_bin c rfl (se_bin c rfl (se_len c (by kernel_rfl) (sb_var (by kernel_rfl) (by kernel_rfl)) (fun _ => rfl)) (se_len c (by kernel_rfl) (sb_var (by kernel_rfl) (by kernel_rfl)) (fun _ => rfl))) (se_int))) (by kernel_rfl) (by decide +kernel) (fun _ _ _ => rfl)) (ssl_cons (ss_for c (names := [(PySem.Str.ofString "at"), (PySem.Str.ofString "left")]) (si_enum c (by kernel_rfl) (se_var (by kernel_rfl) (by kernel_rfl)) (fun _ => rfl)) (ssl_cons (ss_for c (names := [(PySem.Str.ofString "spot"), (PySem.Str.ofString "right")]) (si_enum c (by kernel_rfl) (se_var (by kernel_rfl) (by kernel_rfl)) (fun _ => rfl)) (ssl_cons (SSo.ss (sso_setI c (se_bin c rfl (se_idx c (sb_var (by kernel_rfl) (by kernel_rfl)) (se_bin c rfl (se_var (by kernel_rfl) (by kernel_rfl)) (se_var (by kernel_rfl) (by kernel_rfl))) (fun _ _ _ => rfl)) (se_bin c rfl (se_var (by kernel_rfl) (by kernel_rfl)) (se_var (by kernel_rfl) (by kernel_rfl)))) (se_bin c rfl (se_var (by kernel_rfl) (by kernel_rfl)) (se_var (by kernel_rfl) (by kernel_rfl))) (by kernel_rfl) (by kernel_rfl) (fun _ => rfl))) (ssl_nil)) ⟨(by kernel_rfl), (by decide +kernel), (by kernel_rfl), (by decide +kernel), trivial⟩ ⟨_, _, _, rfl, (.cons _ _ (.cons _ _ .nil))⟩ (fun _ _ => rfl)) (ssl_nil)) ⟨(by kernel_rfl), (by decide +kernel), (by kernel_rfl), (by decide +kernel), trivial⟩ ⟨_, _, _, rfl, (.cons _ _ (.cons _ _ .nil))⟩ (fun _ _ => rfl)) (ssl_share (ssl_cons (ss_ret c (se_var (by kernel_rfl) (by kernel_rfl))) (ssl_nil)))))

noncomputable def F_law_quotients : FnD := ⟨[(PySem.Str.ofString "p")], tA 84, tB 84, tS 84, [(PySem.Str.ofString "p")]⟩
theorem F_law_quotients_ok : F_law_quotients.OK where
  kind := by kernel_rfl
  co := by kernel_rfl
  gen := by kernel_rfl
  nd := by decide +kernel
  loc := by decide +kernel
  pre := ⟨_, rfl⟩
  bind := by
    intro name qual doc pm cdv ct an vals h
    obtain ⟨v0, rfl⟩ := len_1 h
    kernel_rfl
noncomputable def b_law_quotients : SL := .cons (.ret (.comp (.seq (.var 0)) 0 (.cbool true) (.tup (.cons (.var 1) (.cons (.cint 1) (.nil)))))) (.nil)
theorem s_law_quotients {C : Cx} {Γ : Env0} {n wf : Nat} (c : COK C) (g : GOK C n Γ) : SSL C Γ n wf F_law_quotients.scope.names F_law_quotients.xs (F_law_quotients.body) b_law_quotients :=
  ssl_cons (ss_ret c (se_comp c (ts := [(PySem.Str.ofString "number")]) (si_seq c (se_var (by kernel_rfl) (by kernel_rfl)) (fun _ _ => rfl)) (by decide +kernel) rfl rfl ⟨(by kernel_rfl), (by decide +kernel), trivial⟩ ⟨_, _, rfl, rfl⟩ (.inl ⟨rfl, rfl⟩) (se_tup c (sl_cons c (se_var (by kernel_rfl) (by kernel_rfl)) (sl_cons c (se_int) (sl_nil) (fun _ => rfl)) (fun _ => rfl)) (len_le (len_c (len_c len_0)) (by decide))) (fun _ _ => rfl))) (ssl_nil)

noncomputable def F_law_at : FnD := ⟨[(PySem.Str.ofString "p"), (PySem.Str.ofString "n")], tA 85, tB 85, tS 85, [(PySem.Str.ofString "p"), (PySem.Str.ofString "n"), (PySem.Str.ofString "top"), (PySem.Str.ofString "bottom"), (PySem.Str.ofString "one")]⟩
theorem F_law_at_ok : F_law_at.OK where
  kind := by kernel_rfl
  co := by kernel_rfl
  gen := by kernel_rfl
  nd := by decide +kernel
  loc := by decide +kernel
  pre := ⟨_, rfl⟩
  bind := by
    intro name qual doc pm cdv ct an vals h
    obtain ⟨v0, v1, rfl⟩ := len_2 h
    kernel_rfl
noncomputable def b_law_at : SL := .cons (.asg2 [2, 3] (.cons (.cint 0) (.cons (.cint 1) (.nil)))) (.cons (.for [4] false (.seq (.revd (.var 0))) (.cons (.asg2 [2, 3] (.cons (.bin .add (.bin .mul (.bin .mul (.var 2) (.var 1)) (.idx (.bvar 4) (.cint 1))) (.bin .mul (.idx (.bvar 4) (.cint 0)) (.var 3))) (.cons (.bin .mul (.var 3) (.idx (.bvar 4) (.cint 1))) (.nil)))) (.cons (.share 2) (.cons (.share 3) (.nil))))) (.cons (.ret (.tup (.cons (.var 2) (.cons (.var 3) (.nil))))) (.nil)))
theorem s_law_at {C : Cx} {Γ : Env0} {n wf : Nat} (c : COK C) (g : GOK C n Γ) : SSL C Γ n wf F_law_at.scope.names F_law_at.xs (F_law_at.body) b_law_at :=
  ssl_cons (ss_asg2 c (names := [(PySem.Str.ofString "top"), (PySem.Str.ofString "bottom")]) (slf_cons c (se_int) (slf_cons c (se_int) (slf_nil c) (fun _ => rfl)) (fun _ => rfl)) ⟨(by kernel_rfl), (by decide +kernel), (by kernel_rfl), (by decide +kernel), trivial⟩ rfl (by decide) (.cons _ _ (.cons _ _ .nil)) (by rintro ⟨⟨k1, n1, g1, c1, m1⟩, l1, gl1, ce1, q1, f1, cd1, fr1, b1⟩ h1 h2; simp only at h1 h2; subst h1 h2; kernel_rfl)) (ssl_cons (ss_for c (names := [(PySem.Str.ofString "one")]) (si_seq c (se_revd c (se_var (by kernel_rfl) (by kernel_rfl))) (fun _ _ => rfl)) (ssl_cons (ss_asg2s c (names := [(PySem.Str.ofString "top"), (PySem.Str.ofString "bottom")]) (slf_cons c (se_bin c rfl (se_bin c rfl (se_bin c rfl (se_var (by kernel_rfl) (by kernel_rfl)) (se_var (by kernel_rfl) (by kernel_rfl))) (se_idx c (sb_var (by kernel_rfl) (by kernel_rfl)) (se_int) (fun _ _ _ => rfl))) (se_bin c rfl (se_idx c (sb_var (by kernel_rfl) (by kernel_rfl)) (se_int) (fun _ _ _ => rfl)) (se_var (by kernel_rfl) (by kernel_rfl)))) (slf_cons c (se_bin c rfl (se_var (by kernel_rfl) (by kernel_rfl)) (se_idx c (sb_var (by kernel_rfl) (by kernel_rfl)) (se_int) (fun _ _ _ => rfl))) (slf_nil c) (fun _ => rfl)) (fun _ => rfl)) ⟨(by kernel_rfl), (by decide +kernel), (by kernel_rfl), (by decide +kernel), trivial⟩ (by decide) rfl (by decide) (by rintro ⟨⟨k1, n1, g1, c1, m1⟩, l1, gl1, ce1, q1, f1, cd1, fr1, b1⟩ h1 h2; simp only at h1 h2; subst h1 h2; kernel_rfl)) (ssl_share (ssl_share (ssl_nil)))) ⟨(by kernel_rfl), (by decide +kernel), trivial⟩ ⟨_, _, rfl, rfl⟩ (fun _ _ => rfl)) (ssl_cons (ss_ret c (se_tup c (sl_cons c (se_var (by kernel_rfl) (by kernel_rfl)) (sl_cons c (se_var (by kernel_rfl) (by kernel_rfl)) (sl_nil) (fun _ => rfl)) (fun _ => rfl)) (len_le (len_c (len_c len_0)) (by decide)))) (ssl_nil)))

noncomputable def F_law_value : FnD := ⟨[(PySem.Str.ofString "f"), (PySem.Str.ofString "n")], tA 86, tB 86, tS 86, [(PySem.Str.ofString "f"), (PySem.Str.ofString "n"), (PySem.Str.ofString "above"), (PySem.Str.ofString "below")]⟩
theorem F_law_value_ok : F_law_value.OK where
  kind := by kernel_rfl
  co := by kernel_rfl
  gen := by kernel_rfl
  nd := by decide +kernel
  loc := by decide +kernel
  pre := ⟨_, rfl⟩
  bind := by
    intro name qual doc pm cdv ct an vals h
    obtain ⟨v0, v1, rfl⟩ := len_2 h
    kernel_rfl
noncomputable def b_law_value : SL := .cons (.asg2 [2, 3] (.cons (.call 67 (.cons (.idx (.bvar 0) (.cint 0)) (.cons (.var 1) (.nil)))) (.cons (.call 67 (.cons (.idx (.bvar 0) (.cint 1)) (.cons (.var 1) (.nil)))) (.nil)))) (.cons (.ite (.cmp .eq (.idx (.bvar 3) (.cint 0)) (.cint 0)) (.cons (.ret (.cnone)) (.nil)) (.nil)) (.cons (.ret (.tup (.cons (.bin .mul (.idx (.bvar 2) (.cint 0)) (.idx (.bvar 3) (.cint 1))) (.cons (.bin .mul (.idx (.bvar 2) (.cint 1)) (.idx (.bvar 3) (.cint 0))) (.nil))))) (.nil)))
theorem s_law_value {C : Cx} {Γ : Env0} {n wf : Nat} (c : COK C) (g : GOK C n Γ) : SSL C Γ n wf F_law_value.scope.names F_law_value.xs (F_law_value.body) b_law_value :=
  ssl_cons (ss_asg2s c (names := [(PySem.Str.ofString "above"), (PySem.Str.ofString "below")]) (slf_cons c (se_call c (f := 67) g (by kernel_rfl) (by kernel_rfl) (by kernel_rfl) (sl_cons c (se_idx c (sb_var (by kernel_rfl) (by kernel_rfl)) (se_int) (fun _ _ _ => rfl)) (sl_cons c (se_var (by kernel_rfl) (by kernel_rfl)) (sl_nil) (fun _ => rfl)) (fun _ => rfl)) (fun _ => rfl)) (slf_cons c (se_call c (f := 67) g (by kernel_rfl) (by kernel_rfl) (by kernel_rfl) (sl_cons c (se_idx c (sb_var (by kernel_rfl) (by kernel_rfl)) (se_int) (fun _ _ _ => rfl)) (sl_cons c (se_var (by kernel_rfl) (by kernel_rfl)) (sl_nil) (fun _ => rfl)) (fun _ => rfl)) (fun _ => rfl)) (slf_nil c) (fun _ => rfl)) (fun _ => rfl)) ⟨(by kernel_rfl), (by decide +kernel), (by kernel_rfl), (by decide +kernel), trivial⟩ (by decide) rfl (by decide) (by rintro ⟨⟨k1, n1, g1, c1, m1⟩, l1, gl1, ce1, q1, f1, cd1, fr1, b1⟩ h1 h2; simp only at h1 h2; subst h1 h2; kernel_rfl)) (ssl_cons (ss_ite c (st_cmp c rfl (SE.sb (se_idx c (sb_var (by kernel_rfl) (by kernel_rfl)) (se_int) (fun _ _ _ => rfl))) (SE.sb (se_int)) (by kernel_rfl)) (ssl_cons (ss_ret c (se_none)) (ssl_nil)) (ssl_nil)) (ssl_cons (ss_ret c (se_tup c (sl_cons c (se_bin c rfl (se_idx c (sb_var (by kernel_rfl) (by kernel_rfl)) (se_int) (fun _ _ _ => rfl)) (se_idx c (sb_var (by kernel_rfl) (by kernel_rfl)) (se_int) (fun _ _ _ => rfl))) (sl_cons c (se_bin c rfl (se_idx c (sb_var (by kernel_rfl) (by kernel_rfl)) (se_int) (fun _ _ _ => rfl)) (se_idx c (sb_var (by kernel_rfl) (by kernel_rfl)) (se_int) (fun _ _ _ => rfl))) (sl_nil) (fun _ => rfl)) (fun _ => rfl)) (len_le (len_c (len_c len_0)) (by decide)))) (ssl_nil)))

noncomputable def F_law_linear : FnD := ⟨[(PySem.Str.ofString "draws"), (PySem.Str.ofString "many")], tA 87, tB 87, tS 87, [(PySem.Str.ofString "draws"), (PySem.Str.ofString "many"), (PySem.Str.ofString "found"), (PySem.Str.ofString "turn")]⟩
theorem F_law_linear_ok : F_law_linear.OK where
  kind := by kernel_rfl
  co := by kernel_rfl
  gen := by kernel_rfl
  nd := by decide +kernel
  loc := by decide +kernel
  pre := ⟨_, rfl⟩
  bind := by
    intro name qual doc pm cdv ct an vals h
    obtain ⟨v0, v1, rfl⟩ := len_2 h
    kernel_rfl
noncomputable def b_law_linear : SL := .cons (.asg 2 (.lst (.cons (.cint 1) (.nil)))) (.cons (.share 2) (.cons (.for [3] false (.rng1 (.var 1)) (.cons (.asg 2 (.call 65 (.cons (.var 2) (.cons (.lst (.cons (.bin .add (.cint 1) (.call 63 (.cons (.var 0) (.cons (.cint 5) (.nil))))) (.cons (.bin .add (.cint 1) (.call 63 (.cons (.var 0) (.cons (.cint 2) (.nil))))) (.nil)))) (.nil))))) (.nil))) (.cons (.ret (.var 2)) (.nil))))
theorem s_law_linear {C : Cx} {Γ : Env0} {n wf : Nat} (c : COK C) (g : GOK C n Γ) : SSL C Γ n wf F_law_linear.scope.names F_law_linear.xs (F_law_linear.body) b_law_linear :=
  ssl_cons (ss_asg c (se_list c (sl_cons c (se_int) (sl_nil) (fun _ => rfl)) (len_le (len_c len_0) (by decide))) (by kernel_rfl) (by decide +kernel) (fun _ _ _ => rfl)) (ssl_share (ssl_cons (ss_for c (names := [(PySem.Str.ofString "turn")]) (si_rng1 c (by kernel_rfl) (se_var (by kernel_rfl) (by kernel_rfl)) (fun _ => rfl) (fun _ _ => rfl)) (ssl_cons (ss_asg c (se_call c (f := 65) g (by kernel_rfl) (by kernel_rfl) (by kernel_rfl) (sl_cons c (se_var (by kernel_rfl) (by kernel_rfl)) (sl_cons c (se_list c (sl_cons c (se_bin c rfl (se_int) (se_call c (f := 63) g (by kernel_rfl) (by kernel_rfl) (by kernel_rfl) (sl_cons c (se_var (by kernel_rfl) (by kernel_rfl)) (sl_cons c (se_int) (sl_nil) (fun _ => rfl)) (fun _ => rfl)) (fun _ => rfl))) (sl_cons c (se_bin c rfl (se_int) (se_call c (f := 63) g (by kernel_rfl) (by kernel_rfl) (by kernel_rfl) (sl_cons c (se_var (by kernel_rfl) (by kernel_rfl)) (sl_cons c (se_int) (sl_nil) (fun _ => rfl)) (fun _ => rfl)) (fun _ => rfl))) (sl_nil) (fun _ => rfl)) (fun _ => rfl)) (len_le (len_c (len_c len_0)) (by decide))) (sl_nil) (fun _ => star_List ..)) (fun _ => rfl)) (fun _ => rfl)) (by kernel_rfl) (by decide +kernel) (fun _ _ _ => rfl)) (ssl_nil)) ⟨(by kernel_rfl), (by decide +kernel), trivial⟩ ⟨_, _, rfl, rfl⟩ (fun _ _ => rfl)) (ssl_cons (ss_ret c (se_var (by kernel_rfl) (by kernel_rfl))) (ssl_nil))))

noncomputable def F_law_shifted : FnD := ⟨[(PySem.Str.ofString "p")], tA 88, tB 88, tS 88, [(PySem.Str.ofString "p"), (PySem.Str.ofString "found"), (PySem.Str.ofString "number")]⟩
theorem F_law_shifted_ok : F_law_shifted.OK where
  kind := by kernel_rfl
  co := by kernel_rfl
  gen := by kernel_rfl
  nd := by decide +kernel
  loc := by decide +kernel
  pre := ⟨_, rfl⟩
  bind := by
    intro name qual doc pm cdv ct an vals h
    obtain ⟨v0, rfl⟩ := len_1 h
    kernel_rfl
noncomputable def b_law_shifted : SL := .cons (.asg 1 (.lst (.nil))) (.cons (.share 1) (.cons (.for [2] false (.seq (.revd (.var 0))) (.cons (.asg 1 (.call 71 (.cons (.call 65 (.cons (.var 1) (.cons (.lst (.cons (.cint 1) (.cons (.cint 1) (.nil)))) (.nil)))) (.cons (.lst (.cons (.var 2) (.nil))) (.nil))))) (.nil))) (.cons (.ret (.var 1)) (.nil))))
theorem s_law_shifted {C : Cx} {Γ : Env0} {n wf : Nat} (c : COK C) (g : GOK C n Γ) : SSL C Γ n wf F_law_shifted.scope.names F_law_shifted.xs (F_law_shifted.body) b_law_shifted :=
  ssl_cons (ss_asg c (se_list c (sl_nil) (len_le len_0 (by decide))) (by kernel_rfl) (by decide +kernel) (fun _ _ _ => rfl)) (ssl_share (ssl_cons (ss_for c (names := [(PySem.Str.ofString "number")]) (si_seq c (se_revd c (se_var (by kernel_rfl) (by kernel_rfl))) (fun _ _ => rfl)) (ssl_cons (ss_asg c (se_call c (f := 71) g (by kernel_rfl) (by kernel_rfl) (by kernel_rfl) (sl_cons c (se_call c (f := 65) g (by kernel_rfl) (by kernel_rfl) (by kernel_rfl) (sl_cons c (se_var (by kernel_rfl) (by kernel_rfl)) (sl_cons c (se_list c (sl_cons c (se_int) (sl_cons c (se_int) (sl_nil) (fun _ => rfl)) (fun _ => rfl)) (len_le (len_c (len_c len_0)) (by decide))) (sl_nil) (fun _ => star_List ..)) (fun _ => rfl)) (fun _ => rfl)) (sl_cons c (se_list c (sl_cons c (se_var (by kernel_rfl) (by kernel_rfl)) (sl_nil) (fun _ => rfl)) (len_le (len_c len_0) (by decide))) (sl_nil) (fun _ => star_List ..)) (fun _ => rfl)) (fun _ => rfl)) (by kernel_rfl) (by decide +kernel) (fun _ _ _ => rfl)) (ssl_nil)) ⟨(by kernel_rfl), (by decide +kernel), trivial⟩ ⟨_, _, rfl, rfl⟩ (fun _ _ => rfl)) (ssl_cons (ss_ret c (se_var (by kernel_rfl) (by kernel_rfl))) (ssl_nil))))

noncomputable def F_law_sum : FnD := ⟨[(PySem.Str.ofString "one"), (PySem.Str.ofString "other")], tA 89, tB 89, tS 89, [(PySem.Str.ofString "one"), (PySem.Str.ofString "other"), (PySem.Str.ofString "size"), (PySem.Str.ofString "found")]⟩
theorem F_law_sum_ok : F_law_sum.OK where
  kind := by kernel_rfl
  co := by kernel_rfl
  gen := by kernel_rfl
  nd := by decide +kernel
  loc := by decide +kernel
  pre := ⟨_, rfl⟩
  bind := by
    intro name qual doc pm cdv ct an vals h
    obtain ⟨v0, v1, rfl⟩ := len_2 h
    kernel_rfl
noncomputable def b_law_sum : SL := .cons (.asg 2 (.max2 (.len (.bvar 0)) (.len (.bvar 1)))) (.cons (.asg 3 (.comp (.rng1 (.var 2)) 0 (.cbool true) (.bin .add (.idx (.bin .add (.var 0) (.bin .mul (.lst (.cons (.cint 0) (.nil))) (.var 2))) (.var 4)) (.idx (.bin .add (.var 1) (.bin .mul (.lst (.cons (.cint 0) (.nil))) (.var 2))) (.var 4))))) (.cons (.whil (.bop true (.cmp .ne (.bvar 3) (.lst (.nil))) (.cmp .eq (.idx (.bvar 3) (.neg (.cint 1))) (.cint 0))) (.cons (.pop 3) (.nil))) (.cons (.share 3) (.cons (.ret (.var 3)) (.nil)))))
theorem s_law_sum {C : Cx} {Γ : Env0} {n wf : Nat} (c : COK C) (g : GOK C n Γ) : SSL C Γ n wf F_law_sum.scope.names F_law_sum.xs (F_law_sum.body) b_law_sum :=
  ssl_cons (ss_asg c (se_max2 c (by kernel_rfl) (se_len c (by kernel_rfl) (sb_var (by kernel_rfl) (by kernel_rfl)) (fun _ => rfl)) (se_len c (by kernel_rfl) (sb_var (by kernel_rfl) (by kernel_rfl)) (fun _ => rfl)) (fun _ => rfl) (fun _ => rfl)) (by kernel_rfl) (by decide +kernel) (fun _ _ _ => rfl)) (ssl_cons (ss_asgC c (ts := [(PySem.Str.ofString "at")]) (si_rng1 c (by kernel_rfl) (se_var (by kernel_rfl) (by kernel_rfl)) (fun _ => rfl) (fun _ _ => rfl)) (by decide +kernel) rfl rfl ⟨(by kernel_rfl), (by decide +kernel), trivial⟩ ⟨_, _, rfl, rfl⟩ (.inl ⟨rfl, rfl⟩) (se_bin c rfl (se_idx c (SE.sb (se_bin c rfl (se_var (by kernel_rfl) (by kernel_rfl)) (se_bin c rfl (se_list c (sl_cons c (se_int) (sl_nil) (fun _ => rfl)) (len_le (len_c len_0) (by decide))) (se_var (by kernel_rfl) (by kernel_rfl))))) (se_var (by kernel_rfl) (by kernel_rfl)) (fun _ _ _ => rfl)) (se_idx c (SE.sb (se_bin c rfl (se_var (by kernel_rfl) (by kernel_rfl)) (se_bin c rfl (se_list c (sl_cons c (se_int) (sl_nil) (fun _ => rfl)) (len_le (len_c len_0) (by decide))) (se_var (by kernel_rfl) (by kernel_rfl))))) (se_var (by kernel_rfl) (by kernel_rfl)) (fun _ _ _ => rfl))) (fun _ _ => rfl) (by kernel_rfl) (by decide +kernel) (by rintro ⟨⟨k1, n1, g1, c1, m1⟩, l1, gl1, ce1, q1, f1, cd1, fr1, b1⟩ h1 h2; simp only at h1 h2; subst h1 h2; kernel_rfl)) (ssl_cons (ss_while c (st_and c (st_cmp c rfl (sb_var (by kernel_rfl) (by kernel_rfl)) (SE.sb (se_list c (sl_nil) (len_le len_0 (by decide)))) (by kernel_rfl)) (st_and1 c (st_cmp c rfl (SE.sb (se_idx c (sb_var (by kernel_rfl) (by kernel_rfl)) (se_neg c (se_int)) (fun _ _ _ => rfl))) (SE.sb (se_int)) (by kernel_rfl)))) (ssl_cons (ss_pop c (by kernel_rfl) (by kernel_rfl) (by kernel_rfl)) (ssl_nil))) (ssl_share (ssl_cons (ss_ret c (se_var (by kernel_rfl) (by kernel_rfl))) (ssl_nil)))))

noncomputable def F_law_certified : FnD := ⟨[(PySem.Str.ofString "ratio"), (PySem.Str.ofString "certificate"), (PySem.Str.ofString "places")], tA 90, tB 90, tS 90, [(PySem.Str.ofString "ratio"), (PySem.Str.ofString "certificate"), (PySem.Str.ofString "places"), (PySem.Str.ofString "met"), (PySem.Str.ofString "n"), (PySem.Str.ofString "here"), (PySem.Str.ofString "later"), (PySem.Str.ofString "r")]⟩
theorem F_law_certified_ok : F_law_certified.OK where
  kind := by kernel_rfl
  co := by kernel_rfl
  gen := by kernel_rfl
  nd := by decide +kernel
  loc := by decide +kernel
  pre := ⟨_, rfl⟩
  bind := by
    intro name qual doc pm cdv ct an vals h
    obtain ⟨v0, v1, v2, rfl⟩ := len_3 h
    kernel_rfl
noncomputable def b_law_certified : SL := .cons (.asg 3 (.cint 0)) (.cons (.for [4] false (.rng1 (.var 2)) (.cons (.asg2 [5, 6, 7] (.cons (.call 68 (.cons (.var 1) (.cons (.var 4) (.nil)))) (.cons (.call 68 (.cons (.var 1) (.cons (.bin .add (.var 4) (.cint 1)) (.nil)))) (.cons (.call 68 (.cons (.var 0) (.cons (.var 4) (.nil)))) (.nil))))) (.cons (.ite (.cmp .isin (.cnone) (.tup (.cons (.var 5) (.cons (.var 6) (.cons (.var 7) (.nil)))))) (.cons (.cont) (.nil)) (.nil)) (.cons (.asg 3 (.bin .add (.var 3) (.cint 1))) (.cons (.share 3) (.cons (.ite (.cmp .ne (.bin .sub (.bin .mul (.bin .mul (.idx (.bvar 6) (.cint 0)) (.idx (.bvar 7) (.cint 0))) (.idx (.bvar 5) (.cint 1))) (.bin .mul (.bin .mul (.idx (.bvar 5) (.cint 0)) (.idx (.bvar 6) (.cint 1))) (.idx (.bvar 7) (.cint 1)))) (.bin .mul (.bin .mul (.idx (.bvar 6) (.cint 1)) (.idx (.bvar 7) (.cint 1))) (.idx (.bvar 5) (.cint 1)))) (.cons (.ret (.cbool false)) (.nil)) (.nil)) (.nil))))))) (.cons (.ret (.cmp .gt (.bvar 3) (.bin .div (.var 2) (.cint 2)))) (.nil)))
theorem s_law_certified {C : Cx} {Γ : Env0} {n wf : Nat} (c : COK C) (g : GOK C n Γ) : SSL C Γ n wf F_law_certified.scope.names F_law_certified.xs (F_law_certified.body) b_law_certified :=
  ssl_cons (ss_asg c (se_int) (by kernel_rfl) (by decide +kernel) (fun _ _ _ => rfl)) (ssl_cons (ss_for c (names := [(PySem.Str.ofString "n")]) (si_rng1 c (by kernel_rfl) (se_var (by kernel_rfl) (by kernel_rfl)) (fun _ => rfl) (fun _ _ => rfl)) (ssl_cons (ss_asg2s c (names := [(PySem.Str.ofString "here"), (PySem.Str.ofString "later"), (PySem.Str.ofString "r")]) (slf_cons c (se_call c (f := 68) g (by kernel_rfl) (by kernel_rfl) (by kernel_rfl) (sl_cons c (se_var (by kernel_rfl) (by kernel_rfl)) (sl_cons c (se_var (by kernel_rfl) (by kernel_rfl)) (sl_nil) (fun _ => rfl)) (fun _ => rfl)) (fun _ => rfl)) (slf_cons c (se_call c (f := 68) g (by kernel_rfl) (by kernel_rfl) (by kernel_rfl) (sl_cons c (se_var (by kernel_rfl) (by kernel_rfl)) (sl_cons c (se_bin c rfl (se_var (by kernel_rfl) (by kernel_rfl)) (se_int)) (sl_nil) (fun _ => rfl)) (fun _ => rfl)) (fun _ => rfl)) (slf_cons c (se_call c (f := 68) g (by kernel_rfl) (by kernel_rfl) (by kernel_rfl) (sl_cons c (se_var (by kernel_rfl) (by kernel_rfl)) (sl_cons c (se_var (by kernel_rfl) (by kernel_rfl)) (sl_nil) (fun _ => rfl)) (fun _ => rfl)) (fun _ => rfl)) (slf_nil c) (fun _ => rfl)) (fun _ => rfl)) (fun _ => rfl)) ⟨(by kernel_rfl), (by decide +kernel), (by kernel_rfl), (by decide +kernel), (by kernel_rfl), (by decide +kernel), trivial⟩ (by decide) rfl (by decide) (by rintro ⟨⟨k1, n1, g1, c1, m1⟩, l1, gl1, ce1, q1, f1, cd1, fr1, b1⟩ h1 h2; simp only at h1 h2; subst h1 h2; kernel_rfl)) (ssl_cons (ss_ite c (st_cmp c rfl (SE.sb (se_none)) (SE.sb (se_tup c (sl_cons c (se_var (by kernel_rfl) (by kernel_rfl)) (sl_cons c (se_var (by kernel_rfl) (by kernel_rfl)) (sl_cons c (se_var (by kernel_rfl) (by kernel_rfl)) (sl_nil) (fun _ => rfl)) (fun _ => rfl)) (fun _ => rfl)) (len_le (len_c (len_c (len_c len_0))) (by decide)))) (by kernel_rfl)) (ssl_cons (ss_cont) (ssl_nil)) (ssl_nil)) (ssl_cons (ss_asg c (se_bin c rfl (se_var (by kernel_rfl) (by kernel_rfl)) (se_int)) (by kernel_rfl) (by decide +kernel) (fun _ _ _ => rfl)) (ssl_share (ssl_cons (ss_ite c (st_cmp c rfl (SE.sb (se_bin c rfl (se_bin c rfl (se_bin c rfl (se_idx c (sb_var (by kernel_rfl) (by kernel_rfl)) (se_int) (fun _ _ _ => rfl)) (se_idx c (sb_var (by kernel_rfl) (by kernel_rfl)) (se_int) (fun _ _ _ => rfl))) (se_idx c (sb_var (by kernel_rfl) (by kernel_rfl)) (se_int) (fun _ _ _ => rfl))) (se_bin c rfl (se_bin c rfl (se_idx c (sb_var (by kernel_rfl) (by kernel_rfl)) (se_int) (fun _ _ _ => rfl)) (se_idx c (sb_var (by kernel_rfl) (by kernel_rfl)) (se_int) (fun _ _ _ => rfl))) (se_idx c (sb_var (by kernel_rfl) (by kernel_rfl)) (se_int) (fun _ _ _ => rfl))))) (SE.sb (se_bin c rfl (se_bin c rfl (se_idx c (sb_var (by kernel_rfl) (by kernel_rfl)) (se_int) (fun _ _ _ => rfl)) (se_idx c (sb_var (by kernel_rfl) (by kernel_rfl)) (se_int) (fun _ _ _ => rfl))) (se_idx c (sb_var (by kernel_rfl) (by kernel_rfl)) (se_int) (fun _ _ _ => rfl)))) (by kernel_rfl)) (ssl_cons (ss_ret c (se_bool)) (ssl_nil)) (ssl_nil)) (ssl_nil)))))) ⟨(by kernel_rfl), (by decide +kernel), trivial⟩ ⟨_, _, rfl, rfl⟩ (fun _ _ => rfl)) (ssl_cons (ss_ret c (se_cmp c rfl (sb_var (by kernel_rfl) (by kernel_rfl)) (SE.sb (se_bin c rfl (se_var (by kernel_rfl) (by kernel_rfl)) (se_int))) (by kernel_rfl))) (ssl_nil)))

noncomputable def F_law_made_right : FnD := ⟨[(PySem.Str.ofString "draws")], tA 91, tB 91, tS 91, [(PySem.Str.ofString "draws"), (PySem.Str.ofString "above"), (PySem.Str.ofString "below"), (PySem.Str.ofString "c"), (PySem.Str.ofString "left"), (PySem.Str.ofString "top"), (PySem.Str.ofString "bottom"), (PySem.Str.ofString "wide"), (PySem.Str.ofString "narrow"), (PySem.Str.ofString "ratio"), (PySem.Str.ofString "certificate")]⟩
theorem F_law_made_right_ok : F_law_made_right.OK where
  kind := by kernel_rfl
  co := by kernel_rfl
  gen := by kernel_rfl
  nd := by decide +kernel
  loc := by decide +kernel
  pre := ⟨_, rfl⟩
  bind := by
    intro name qual doc pm cdv ct an vals h
    obtain ⟨v0, rfl⟩ := len_1 h
    kernel_rfl
noncomputable def b_law_made_right : SL := .cons (.asg2 [1, 2] (.cons (.call 69 (.cons (.var 0) (.cons (.call 63 (.cons (.var 0) (.cons (.cint 2) (.nil)))) (.nil)))) (.cons (.call 69 (.cons (.var 0) (.cons (.call 63 (.cons (.var 0) (.cons (.cint 2) (.nil)))) (.nil)))) (.nil)))) (.cons (.asg 3 (.idx (.lst (.cons (.cint 1) (.cons (.cint 2) (.cons (.neg (.cint 1)) (.cons (.cint 3) (.nil)))))) (.call 63 (.cons (.var 0) (.cons (.cint 4) (.nil)))))) (.cons (.ite (.bop true (.cmp .eq (.bvar 3) (.cint 1)) (.bop false (.cmp .eq (.bvar 1) (.bvar 2)) (.bop true (.cmp .eq (.len (.bvar 1)) (.cint 1)) (.cmp .eq (.len (.bvar 2)) (.cint 1))))) (.cons (.asg 1 (.lst (.cons (.cint 1) (.cons (.cint 2) (.nil))))) (.cons (.share 1) (.nil))) (.nil)) (.cons (.asg 4 (.call 65 (.cons (.call 65 (.cons (.lst (.cons (.var 3) (.nil))) (.cons (.call 70 (.cons (.var 1) (.nil))) (.nil)))) (.cons (.var 2) (.nil))))) (.cons (.asg 5 (.call 71 (.cons (.var 4) (.cons (.comp (.seq (.call 65 (.cons (.var 1) (.cons (.call 70 (.cons (.var 2) (.nil))) (.nil))))) 0 (.cbool true) (.neg (.var 11))) (.nil))))) (.cons (.ite (.cmp .eq (.bvar 5) (.lst (.nil))) (.cons (.ret (.cbool true)) (.nil)) (.nil)) (.cons (.asg 6 (.call 65 (.cons (.var 2) (.cons (.call 70 (.cons (.var 2) (.nil))) (.nil))))) (.cons (.asg2 [7, 8] (.cons (.call 65 (.cons (.call 65 (.cons (.lst (.cons (.var 3) (.nil))) (.cons (.call 70 (.cons (.var 5) (.nil))) (.nil)))) (.cons (.var 6) (.nil)))) (.cons (.call 65 (.cons (.var 5) (.cons (.call 70 (.cons (.var 6) (.nil))) (.nil)))) (.nil)))) (.cons (.asg 9 (.call 54 (.cons (.call 66 (.cons (.var 7) (.nil))) (.cons (.call 66 (.cons (.var 8) (.nil))) (.nil))))) (.cons (.asg 10 (.call 62 (.cons (.var 9) (.nil)))) (.cons (.ret (.bop true (.cmp .isnot (.bvar 10) (.cnone)) (.call 72 (.cons (.var 9) (.cons (.var 10) (.cons (.cint 14) (.nil))))))) (.nil)))))))))))
theorem s_law_made_right {C : Cx} {Γ : Env0} {n wf : Nat} (c : COK C) (g : GOK C n Γ) : SSL C Γ n wf F_law_made_right.scope.names F_law_made_right.xs (F_law_made_right.body) b_law_made_right :=
  ssl_cons (ss_asg2s c (names := [(PySem.Str.ofString "above"), (PySem.Str.ofString "below")]) (slf_cons c (se_call c (f := 69) g (by kernel_rfl) (by kernel_rfl) (by kernel_rfl) (sl_cons c (se_var (by kernel_rfl) (by kernel_rfl)) (sl_cons c (se_call c (f := 63) g (by kernel_rfl) (by kernel_rfl) (by kernel_rfl) (sl_cons c (se_var (by kernel_rfl) (by kernel_rfl)) (sl_cons c (se_int) (sl_nil) (fun _ => rfl)) (fun _ => rfl)) (fun _ => rfl)) (sl_nil) (fun _ => rfl)) (fun _ => rfl)) (fun _ => rfl)) (slf_cons c (se_call c (f := 69) g (by kernel_rfl) (by kernel_rfl) (by kernel_rfl) (sl_cons c (se_var (by kernel_rfl) (by kernel_rfl)) (sl_cons c (se_call c (f := 63) g (by kernel_rfl) (by kernel_rfl) (by kernel_rfl) (sl_cons c (se_var (by kernel_rfl) (by kernel_rfl)) (sl_cons c (se_int) (sl_nil) (fun _ => rfl)) (fun _ => rfl)) (fun _ => rfl)) (sl_nil) (fun _ => rfl)) (fun _ => rfl)) (fun _ => rfl)) (slf_nil c) (fun _ => rfl)) (fun _ => rfl)) ⟨(by kernel_rfl), (by decide +kernel), (by kernel_rfl), (by decide +kernel), trivial⟩ (by decide) rfl (by decide) (by rintro ⟨⟨k1, n1, g1, c1, m1⟩, l1, gl1, ce1, q1, f1, cd1, fr1, b1⟩ h1 h2; simp only at h1 h2; subst h1 h2; kernel_rfl)) (ssl_cons (ss_asg c (se_idx c (SE.sb (se_list c (sl_cons c (se_int) (sl_cons c (se_int) (sl_cons c (se_neg c (se_int)) (sl_cons c (se_int) (sl_nil) (fun _ => rfl)) (fun _ => rfl)) (fun _ => rfl)) (fun _ => rfl)) (len_le (len_c (len_c (len_c (len_c len_0)))) (by decide)))) (se_call c (f := 63) g (by kernel_rfl) (by kernel_rfl) (by kernel_rfl) (sl_cons c (se_var (by kernel_rfl) (by kernel_rfl)) (sl_cons c (se_int) (sl_nil) (fun _ => rfl)) (fun _ => rfl)) (fun _ => rfl)) (fun _ _ _ => rfl)) (by kernel_rfl) (by decide +kernel) (fun _ _ _ => rfl)) (ssl_cons (ss_ite c (st_and c (st_cmp c rfl (sb_var (by kernel_rfl) (by kernel_rfl)) (SE.sb (se_int)) (by kernel_rfl)) (st_and1 c (st_or c (st_cmp c rfl (sb_var (by kernel_rfl) (by kernel_rfl)) (sb_var (by kernel_rfl) (by kernel_rfl)) (by kernel_rfl)) (st_or1 c (st_and c (st_cmp c rfl (SE.sb (se_len c (by kernel_rfl) (sb_var (by kernel_rfl) (by kernel_rfl)) (fun _ => rfl))) (SE.sb (se_int)) (by kernel_rfl)) (st_and1 c (st_cmp c rfl (SE.sb (se_len c (by kernel_rfl) (sb_var (by kernel_rfl) (by kernel_rfl)) (fun _ => rfl))) (SE.sb (se_int)) (by kernel_rfl)))))))) (ssl_cons (ss_asg c (se_list c (sl_cons c (se_int) (sl_cons c (se_int) (sl_nil) (fun _ => rfl)) (fun _ => rfl)) (len_le (len_c (len_c len_0)) (by decide))) (by kernel_rfl) (by decide +kernel) (fun _ _ _ => rfl)) (ssl_share (ssl_nil))) (ssl_nil)) (ssl_cons (ss_asg c (se_call c (f := 65) g (by kernel_rfl) (by kernel_rfl) (by kernel_rfl) (sl_cons c (se_call c (f := 65) g (by kernel_rfl) (by kernel_rfl) (by kernel_rfl) (sl_cons c (se_list c (sl_cons c (se_var (by kernel_rfl) (by kernel_rfl)) (sl_nil) (fun _ => rfl)) (len_le (len_c len_0) (by decide))) (sl_cons c (se_call c (f := 70) g (by kernel_rfl) (by kernel_rfl) (by kernel_rfl) (sl_cons c (se_var (by kernel_rfl) (by kernel_rfl)) (sl_nil) (fun _ => rfl)) (fun _ => rfl)) (sl_nil) (fun _ => rfl)) (fun _ => star_List ..)) (fun _ => rfl)) (sl_cons c (se_var (by kernel_rfl) (by kernel_rfl)) (sl_nil) (fun _ => rfl)) (fun _ => rfl)) (fun _ => rfl)) (by kernel_rfl) (by decide +kernel) (fun _ _ _ => rfl)) (ssl_cons (ss_asg c (se_call c (f := 71) g (by kernel_rfl) (by kernel_rfl) (by kernel_rfl) (sl_cons c (se_var (by kernel_rfl) (by kernel_rfl)) (sl_cons c (se_comp c (ts := [(PySem.Str.ofString "number")]) (si_seq c (se_call c (f := 65) g (by kernel_rfl) (by kernel_rfl) (by kernel_rfl) (sl_cons c (se_var (by kernel_rfl) (by kernel_rfl)) (sl_cons c (se_call c (f := 70) g (by kernel_rfl) (by kernel_rfl) (by kernel_rfl) (sl_cons c (se_var (by kernel_rfl) (by kernel_rfl)) (sl_nil) (fun _ => rfl)) (fun _ => rfl)) (sl_nil) (fun _ => rfl)) (fun _ => rfl)) (fun _ => rfl)) (fun _ _ => rfl)) (by decide +kernel) rfl rfl ⟨(by kernel_rfl), (by decide +kernel), trivial⟩ ⟨_, _, rfl, rfl⟩ (.inl ⟨rfl, rfl⟩) (se_neg c (se_var (by kernel_rfl) (by kernel_rfl))) (fun _ _ => rfl)) (sl_nil) (fun _ => rfl)) (fun _ => rfl)) (fun _ => rfl)) (by kernel_rfl) (by decide +kernel) (fun _ _ _ => rfl)) (ssl_cons (ss_ite c (st_cmp c rfl (sb_var (by kernel_rfl) (by kernel_rfl)) (SE.sb (se_list c (sl_nil) (len_le len_0 (by decide)))) (by kernel_rfl)) (ssl_cons (ss_ret c (se_bool)) (ssl_nil)) (ssl_nil)) (ssl_cons (ss_asg c (se_call c (f := 65) g (by kernel_rfl) (by kernel_rfl) (by kernel_rfl) (sl_cons c (se_var (by kernel_rfl) (by kernel_rfl)) (sl_cons c (se_call c (f := 70) g (by kernel_rfl) (by kernel_rfl) (by kernel_rfl) (sl_cons c (se_var (by kernel_rfl) (by kernel_rfl)) (sl_nil) (fun _ => rfl)) (fun _ => rfl)) (sl_nil) (fun _ => rfl)) (fun _ => rfl)) (fun _ => rfl)) (by kernel_rfl) (by decide +kernel) (fun _ _ _ => rfl)) (ssl_cons (ss_asg2s c (names := [(PySem.Str.ofString "wide"), (PySem.Str.ofString "narrow")]) (slf_cons c (se_call c (f := 65) g (by kernel_rfl) (by kernel_rfl) (by kernel_rfl) (sl_cons c (se_call c (f := 65) g (by kernel_rfl) (by kernel_rfl) (by kernel_rfl) (sl_cons c (se_list c (sl_cons c (se_var (by kernel_rfl) (by kernel_rfl)) (sl_nil) (fun _ => rfl)) (len_le (len_c len_0) (by decide))) (sl_cons c (se_call c (f := 70) g (by kernel_rfl) (by kernel_rfl) (by kernel_rfl) (sl_cons c (se_var (by kernel_rfl) (by kernel_rfl)) (sl_nil) (fun _ => rfl)) (fun _ => rfl)) (sl_nil) (fun _ => rfl)) (fun _ => star_List ..)) (fun _ => rfl)) (sl_cons c (se_var (by kernel_rfl) (by kernel_rfl)) (sl_nil) (fun _ => rfl)) (fun _ => rfl)) (fun _ => rfl)) (slf_cons c (se_call c (f := 65) g (by kernel_rfl) (by kernel_rfl) (by kernel_rfl) (sl_cons c (se_var (by kernel_rfl) (by kernel_rfl)) (sl_cons c (se_call c (f := 70) g (by kernel_rfl) (by kernel_rfl) (by kernel_rfl) (sl_cons c (se_var (by kernel_rfl) (by kernel_rfl)) (sl_nil) (fun _ => rfl)) (fun _ => rfl)) (sl_nil) (fun _ => rfl)) (fun _ => rfl)) (fun _ => rfl)) (slf_nil c) (fun _ => rfl)) (fun _ => rfl)) ⟨(by kernel_rfl), (by decide +kernel), (by kernel_rfl), (by decide +kernel), trivial⟩ (by decide) rfl (by decide) (by rintro ⟨⟨k1, n1, g1, c1, m1⟩, l1, gl1, ce1, q1, f1, cd1, fr1, b1⟩ h1 h2; simp only at h1 h2; subst h1 h2; kernel_rfl)) (ssl_cons (ss_asg c (se_call c (f := 54) g (by kernel_rfl) (by kernel_rfl) (by kernel_rfl) (sl_cons c (se_call c (f := 66) g (by kernel_rfl) (by kernel_rfl) (by kernel_rfl) (sl_cons c (se_var (by kernel_rfl) (by kernel_rfl)) (sl_nil) (fun _ => rfl)) (fun _ => rfl)) (sl_cons c (se_call c (f := 66) g (by kernel_rfl) (by kernel_rfl) (by kernel_rfl) (sl_cons c (se_var (by kernel_rfl) (by kernel_rfl)) (sl_nil) (fun _ => rfl)) (fun _ => rfl)) (sl_nil) (fun _ => rfl)) (fun _ => rfl)) (fun _ => rfl)) (by kernel_rfl) (by decide +kernel) (fun _ _ _ => rfl)) (ssl_cons (ss_asg c (se_call c (f := 62) g (by kernel_rfl) (by kernel_rfl) (by kernel_rfl) (sl_cons c (se_var (by kernel_rfl) (by kernel_rfl)) (sl_nil) (fun _ => rfl)) (fun _ => rfl)) (by kernel_rfl) (by decide +kernel) (fun _ _ _ => rfl)) (ssl_cons (ss_ret c (se_and c (se_cmp c rfl (sb_var (by kernel_rfl) (by kernel_rfl)) (SE.sb (se_none)) (by kernel_rfl)) (se_and1 (se_call c (f := 72) g (by kernel_rfl) (by kernel_rfl) (by kernel_rfl) (sl_cons c (se_var (by kernel_rfl) (by kernel_rfl)) (sl_cons c (se_var (by kernel_rfl) (by kernel_rfl)) (sl_cons c (se_int) (sl_nil) (fun _ => rfl)) (fun _ => rfl)) (fun _ => rfl)) (fun _ => rfl))))) (ssl_nil)))))))))))

noncomputable def F_law_known : FnD := ⟨[(PySem.Str.ofString "n")], tA 92, tB 92, tS 92, [(PySem.Str.ofString "n"), (PySem.Str.ofString "found")]⟩
theorem F_law_known_ok : F_law_known.OK where
  kind := by kernel_rfl
  co := by kernel_rfl
  gen := by kernel_rfl
  nd := by decide +kernel
  loc := by decide +kernel
  pre := ⟨_, rfl⟩
  bind := by
    intro name qual doc pm cdv ct an vals h
    obtain ⟨v0, rfl⟩ := len_1 h
    kernel_rfl
noncomputable def b_law_known : SL := .cons (.asg 1 (.lst (.cons (.tup (.cons (.lst (.cons (.cint 0) (.cons (.cint 1) (.nil)))) (.cons (.lst (.cons (.cint 1) (.cons (.cint 1) (.nil)))) (.cons (.cbool false) (.nil))))) (.cons (.tup (.cons (.lst (.cons (.cint 1) (.nil))) (.cons (.lst (.cons (.cint 1) (.cons (.cint 1) (.nil)))) (.cons (.cbool false) (.nil))))) (.cons (.tup (.cons (.lst (.cons (.cint 1) (.cons (.cint 1) (.nil)))) (.cons (.lst (.cons (.cint 1) (.nil))) (.cons (.cbool false) (.nil))))) (.cons (.tup (.cons (.lst (.cons (.cint 1) (.cons (.cint 2) (.cons (.cint 1) (.nil))))) (.cons (.lst (.cons (.cint 0) (.cons (.cint 1) (.nil)))) (.cons (.cbool true) (.nil))))) (.nil))))))) (.cons (.share 1) (.cons (.asg 1 (.bin .add (.var 1) (.lst (.cons (.tup (.cons (.lst (.cons (.cint 1) (.cons (.cint 2) (.cons (.cint 1) (.nil))))) (.cons (.lst (.cons (.cint 0) (.cons (.cint 0) (.cons (.cint 1) (.nil))))) (.cons (.cbool true) (.nil))))) (.cons (.tup (.cons (.lst (.cons (.cint 2) (.nil))) (.cons (.lst (.cons (.cint 1) (.nil))) (.cons (.cbool true) (.nil))))) (.cons (.tup (.cons (.lst (.cons (.cint 1) (.nil))) (.cons (.lst (.cons (.cint 1) (.nil))) (.cons (.cbool true) (.nil))))) (.cons (.tup (.cons (.lst (.cons (.cint 0) (.cons (.cint 2) (.nil)))) (.cons (.lst (.cons (.cint 1) (.cons (.cint 1) (.nil)))) (.cons (.cbool false) (.nil))))) (.nil)))))))) (.cons (.share 1) (.cons (.ret (.idx (.bin .add (.var 1) (.lst (.cons (.tup (.cons (.lst (.cons (.cint 0) (.cons (.cint 1) (.nil)))) (.cons (.lst (.cons (.cint 2) (.cons (.cint 1) (.nil)))) (.cons (.cbool true) (.nil))))) (.cons (.tup (.cons (.lst (.cons (.cint 2) (.cons (.cint 2) (.nil)))) (.cons (.lst (.cons (.cint 0) (.cons (.cint 1) (.nil)))) (.cons (.cbool true) (.nil))))) (.cons (.tup (.cons (.lst (.cons (.cint 0) (.cons (.cint 0) (.cons (.cint 1) (.nil))))) (.cons (.lst (.cons (.cint 1) (.cons (.cint 2) (.cons (.cint 1) (.nil))))) (.cons (.cbool false) (.nil))))) (.nil)))))) (.bin .mod (.var 0) (.cint 11)))) (.nil)))))
theorem s_law_known {C : Cx} {Γ : Env0} {n wf : Nat} (c : COK C) (g : GOK C n Γ) : SSL C Γ n wf F_law_known.scope.names F_law_known.xs (F_law_known.body) b_law_known := by
  unfold b_law_known
  refine ssl_cons ?_ ?_
  · refine ss_asg c ?_ ?_ ?_ ?_
    · refine se_list c ?_ ?_; (refine sl_cons c ?_ ?_ ?_; (refine se_tup c ?_ ?_; (refine sl_cons c ?_ ?_ ?_; (refine se_list c ?_ ?_; (refine sl_cons c ?_ ?_ ?_; (exact se_int); (refine sl_cons c ?_ ?_ ?_; (exact se_int); (exact sl_nil); exact fun _ => rfl); exact fun _ => rfl); exact (len_le (len_c (len_c len_0)) (by decide))); (refine sl_cons c ?_ ?_ ?_; (refine se_list c ?_ ?_; (refine sl_cons c ?_ ?_ ?_; (exact se_int); (refine sl_cons c ?_ ?_ ?_; (exact se_int); (exact sl_nil); exact fun _ => rfl); exact fun _ => rfl); exact (len_le (len_c (len_c len_0)) (by decide))); (refine sl_cons c ?_ ?_ ?_; (exact se_bool); (exact sl_nil); exact fun _ => rfl); exact fun _ => rfl); exact fun _ => rfl); exact (len_le (len_c (len_c (len_c len_0))) (by decide))); (refine sl_cons c ?_ ?_ ?_; (refine se_tup c ?_ ?_; (refine sl_cons c ?_ ?_ ?_; (refine se_list c ?_ ?_; (refine sl_cons c ?_ ?_ ?_; (exact se_int); (exact sl_nil); exact fun _ => rfl); exact (len_le (len_c len_0) (by decide))); (refine sl_cons c ?_ ?_ ?_; (refine se_list c ?_ ?_; (refine sl_cons c ?_ ?_ ?_; (exact se_int); (refine sl_cons c ?_ ?_ ?_; (exact se_int); (exact sl_nil); exact fun _ => rfl); exact fun _ => rfl); exact (len_le (len_c (len_c len_0)) (by decide))); (refine sl_cons c ?_ ?_ ?_; (exact se_bool); (exact sl_nil); exact fun _ => rfl); exact fun _ => rfl); exact fun _ => rfl); exact (len_le (len_c (len_c (len_c len_0))) (by decide))); (refine sl_cons c ?_ ?_ ?_; (refine se_tup c ?_ ?_; (refine sl_cons c ?_ ?_ ?_; (refine se_list c ?_ ?_; (refine sl_cons c ?_ ?_ ?_; (exact se_int); (refine sl_cons c ?_ ?_ ?_; (exact se_int); (exact sl_nil); exact fun _ => rfl); exact fun _ => rfl); exact (len_le (len_c (len_c len_0)) (by decide))); (refine sl_cons c ?_ ?_ ?_; (refine se_list c ?_ ?_; (refine sl_cons c ?_ ?_ ?_; (exact se_int); (exact sl_nil); exact fun _ => rfl); exact (len_le (len_c len_0) (by decide))); (refine sl_cons c ?_ ?_ ?_; (exact se_bool); (exact sl_nil); exact fun _ => rfl); exact fun _ => rfl); exact fun _ => rfl); exact (len_le (len_c (len_c (len_c len_0))) (by decide))); (refine sl_cons c ?_ ?_ ?_; (refine se_tup c ?_ ?_; (refine sl_cons c ?_ ?_ ?_; (refine se_list c ?_ ?_; (refine sl_cons c ?_ ?_ ?_; (exact se_int); (refine sl_cons c ?_ ?_ ?_; (exact se_int); (refine sl_cons c ?_ ?_ ?_; (exact se_int); (exact sl_nil); exact fun _ => rfl); exact fun _ => rfl); exact fun _ => rfl); exact (len_le (len_c (len_c (len_c len_0))) (by decide))); (refine sl_cons c ?_ ?_ ?_; (refine se_list c ?_ ?_; (refine sl_cons c ?_ ?_ ?_; (exact se_int); (refine sl_cons c ?_ ?_ ?_; (exact se_int); (exact sl_nil); exact fun _ => rfl); exact fun _ => rfl); exact (len_le (len_c (len_c len_0)) (by decide))); (refine sl_cons c ?_ ?_ ?_; (exact se_bool); (exact sl_nil); exact fun _ => rfl); exact fun _ => rfl); exact fun _ => rfl); exact (len_le (len_c (len_c (len_c len_0))) (by decide))); (exact sl_nil); exact fun _ => rfl); exact fun _ => rfl); exact fun _ => rfl); exact fun _ => rfl); exact (len_le (len_c (len_c (len_c (len_c len_0)))) (by decide))
    · kernel_rfl
    · decide +kernel
    · exact (by rintro ⟨⟨k1, n1, g1, c1, m1⟩, l1, gl1, ce1, q1, f1, cd1, fr1, b1⟩ h1 h2; simp only at h1 h2; subst h1 h2; kernel_rfl)
  refine ssl_share ?_
  refine ssl_cons ?_ ?_
  · refine ss_asg c ?_ ?_ ?_ ?_
    · refine se_bin c ?_ ?_ ?_
      · rfl
      · exact se_var (by kernel_rfl) (by kernel_rfl)
      · refine se_list c ?_ ?_; (refine sl_cons c ?_ ?_ ?_; (refine se_tup c ?_ ?_; (refine sl_cons c ?_ ?_ ?_; (refine se_list c ?_ ?_; (refine sl_cons c ?_ ?_ ?_; (exact se_int); (refine sl_cons c ?_ ?_ ?_; (exact se_int); (refine sl_cons c ?_ ?_ ?_; (exact se_int); (exact sl_nil); exact fun _ => rfl); exact fun _ => rfl); exact fun _ => rfl); exact (len_le (len_c (len_c (len_c len_0))) (by decide))); (refine sl_cons c ?_ ?_ ?_; (refine se_list c ?_ ?_; (refine sl_cons c ?_ ?_ ?_; (exact se_int); (refine sl_cons c ?_ ?_ ?_; (exact se_int); (refine sl_cons c ?_ ?_ ?_; (exact se_int); (exact sl_nil); exact fun _ => rfl); exact fun _ => rfl); exact fun _ => rfl); exact (len_le (len_c (len_c (len_c len_0))) (by decide))); (refine sl_cons c ?_ ?_ ?_; (exact se_bool); (exact sl_nil); exact fun _ => rfl); exact fun _ => rfl); exact fun _ => rfl); exact (len_le (len_c (len_c (len_c len_0))) (by decide))); (refine sl_cons c ?_ ?_ ?_; (refine se_tup c ?_ ?_; (refine sl_cons c ?_ ?_ ?_; (refine se_list c ?_ ?_; (refine sl_cons c ?_ ?_ ?_; (exact se_int); (exact sl_nil); exact fun _ => rfl); exact (len_le (len_c len_0) (by decide))); (refine sl_cons c ?_ ?_ ?_; (refine se_list c ?_ ?_; (refine sl_cons c ?_ ?_ ?_; (exact se_int); (exact sl_nil); exact fun _ => rfl); exact (len_le (len_c len_0) (by decide))); (refine sl_cons c ?_ ?_ ?_; (exact se_bool); (exact sl_nil); exact fun _ => rfl); exact fun _ => rfl); exact fun _ => rfl); exact (len_le (len_c (len_c (len_c len_0))) (by decide))); (refine sl_cons c ?_ ?_ ?_; (refine se_tup c ?_ ?_; (refine sl_cons c ?_ ?_ ?_; (refine se_list c ?_ ?_; (refine sl_cons c ?_ ?_ ?_; (exact se_int); (exact sl_nil); exact fun _ => rfl); exact (len_le (len_c len_0) (by decide))); (refine sl_cons c ?_ ?_ ?_; (refine se_list c ?_ ?_; (refine sl_cons c ?_ ?_ ?_; (exact se_int); (exact sl_nil); exact fun _ => rfl); exact (len_le (len_c len_0) (by decide))); (refine sl_cons c ?_ ?_ ?_; (exact se_bool); (exact sl_nil); exact fun _ => rfl); exact fun _ => rfl); exact fun _ => rfl); exact (len_le (len_c (len_c (len_c len_0))) (by decide))); (refine sl_cons c ?_ ?_ ?_; (refine se_tup c ?_ ?_; (refine sl_cons c ?_ ?_ ?_; (refine se_list c ?_ ?_; (refine sl_cons c ?_ ?_ ?_; (exact se_int); (refine sl_cons c ?_ ?_ ?_; (exact se_int); (exact sl_nil); exact fun _ => rfl); exact fun _ => rfl); exact (len_le (len_c (len_c len_0)) (by decide))); (refine sl_cons c ?_ ?_ ?_; (refine se_list c ?_ ?_; (refine sl_cons c ?_ ?_ ?_; (exact se_int); (refine sl_cons c ?_ ?_ ?_; (exact se_int); (exact sl_nil); exact fun _ => rfl); exact fun _ => rfl); exact (len_le (len_c (len_c len_0)) (by decide))); (refine sl_cons c ?_ ?_ ?_; (exact se_bool); (exact sl_nil); exact fun _ => rfl); exact fun _ => rfl); exact fun _ => rfl); exact (len_le (len_c (len_c (len_c len_0))) (by decide))); (exact sl_nil); exact fun _ => rfl); exact fun _ => rfl); exact fun _ => rfl); exact fun _ => rfl); exact (len_le (len_c (len_c (len_c (len_c len_0)))) (by decide))
    · kernel_rfl
    · decide +kernel
    · exact (by rintro ⟨⟨k1, n1, g1, c1, m1⟩, l1, gl1, ce1, q1, f1, cd1, fr1, b1⟩ h1 h2; simp only at h1 h2; subst h1 h2; kernel_rfl)
  refine ssl_share ?_
  refine ssl_cons ?_ ?_
  · refine ss_ret c ?_
    refine se_idx c ?_ ?_ ?_
    · refine SE.sb ?_
      refine se_bin c ?_ ?_ ?_
      · rfl
      · exact se_var (by kernel_rfl) (by kernel_rfl)
      · refine se_list c ?_ ?_; (refine sl_cons c ?_ ?_ ?_; (refine se_tup c ?_ ?_; (refine sl_cons c ?_ ?_ ?_; (refine se_list c ?_ ?_; (refine sl_cons c ?_ ?_ ?_; (exact se_int); (refine sl_cons c ?_ ?_ ?_; (exact se_int); (exact sl_nil); exact fun _ => rfl); exact fun _ => rfl); exact (len_le (len_c (len_c len_0)) (by decide))); (refine sl_cons c ?_ ?_ ?_; (refine se_list c ?_ ?_; (refine sl_cons c ?_ ?_ ?_; (exact se_int); (refine sl_cons c ?_ ?_ ?_; (exact se_int); (exact sl_nil); exact fun _ => rfl); exact fun _ => rfl); exact (len_le (len_c (len_c len_0)) (by decide))); (refine sl_cons c ?_ ?_ ?_; (exact se_bool); (exact sl_nil); exact fun _ => rfl); exact fun _ => rfl); exact fun _ => rfl); exact (len_le (len_c (len_c (len_c len_0))) (by decide))); (refine sl_cons c ?_ ?_ ?_; (refine se_tup c ?_ ?_; (refine sl_cons c ?_ ?_ ?_; (refine se_list c ?_ ?_; (refine sl_cons c ?_ ?_ ?_; (exact se_int); (refine sl_cons c ?_ ?_ ?_; (exact se_int); (exact sl_nil); exact fun _ => rfl); exact fun _ => rfl); exact (len_le (len_c (len_c len_0)) (by decide))); (refine sl_cons c ?_ ?_ ?_; (refine se_list c ?_ ?_; (refine sl_cons c ?_ ?_ ?_; (exact se_int); (refine sl_cons c ?_ ?_ ?_; (exact se_int); (exact sl_nil); exact fun _ => rfl); exact fun _ => rfl); exact (len_le (len_c (len_c len_0)) (by decide))); (refine sl_cons c ?_ ?_ ?_; (exact se_bool); (exact sl_nil); exact fun _ => rfl); exact fun _ => rfl); exact fun _ => rfl); exact (len_le (len_c (len_c (len_c len_0))) (by decide))); (refine sl_cons c ?_ ?_ ?_; (refine se_tup c ?_ ?_; (refine sl_cons c ?_ ?_ ?_; (refine se_list c ?_ ?_; (refine sl_cons c ?_ ?_ ?_; (exact se_int); (refine sl_cons c ?_ ?_ ?_; (exact se_int); (refine sl_cons c ?_ ?_ ?_; (exact se_int); (exact sl_nil); exact fun _ => rfl); exact fun _ => rfl); exact fun _ => rfl); exact (len_le (len_c (len_c (len_c len_0))) (by decide))); (refine sl_cons c ?_ ?_ ?_; (refine se_list c ?_ ?_; (refine sl_cons c ?_ ?_ ?_; (exact se_int); (refine sl_cons c ?_ ?_ ?_; (exact se_int); (refine sl_cons c ?_ ?_ ?_; (exact se_int); (exact sl_nil); exact fun _ => rfl); exact fun _ => rfl); exact fun _ => rfl); exact (len_le (len_c (len_c (len_c len_0))) (by decide))); (refine sl_cons c ?_ ?_ ?_; (exact se_bool); (exact sl_nil); exact fun _ => rfl); exact fun _ => rfl); exact fun _ => rfl); exact (len_le (len_c (len_c (len_c len_0))) (by decide))); (exact sl_nil); exact fun _ => rfl); exact fun _ => rfl); exact fun _ => rfl); exact (len_le (len_c (len_c (len_c len_0))) (by decide))
    · refine se_bin c ?_ ?_ ?_
      · rfl
      · exact se_var (by kernel_rfl) (by kernel_rfl)
      · exact se_int
    · exact fun _ _ _ => rfl
  exact ssl_nil

noncomputable def F_law : FnD := ⟨[(PySem.Str.ofString "script")], tA 93, tB 93, tS 93, [(PySem.Str.ofString "script"), (PySem.Str.ofString "draws"), (PySem.Str.ofString "top"), (PySem.Str.ofString "bottom"), (PySem.Str.ofString "is_there"), (PySem.Str.ofString "ratio"), (PySem.Str.ofString "told"), (PySem.Str.ofString "a"), (PySem.Str.ofString "b"), (PySem.Str.ofString "c"), (PySem.Str.ofString "x"), (PySem.Str.ofString "first"), (PySem.Str.ofString "second")]⟩
theorem F_law_ok : F_law.OK where
  kind := by kernel_rfl
  co := by kernel_rfl
  gen := by kernel_rfl
  nd := by decide +kernel
  loc := by decide +kernel
  pre := ⟨_, rfl⟩
  bind := by
    intro name qual doc pm cdv ct an vals h
    obtain ⟨v0, rfl⟩ := len_1 h
    kernel_rfl
noncomputable def b_law : SL := .cons (.ite (.not (.call 73 (.cons (.var 1) (.nil)))) (.cons (.ret (.cbool false)) (.nil)) (.nil)) (.cons (.for [2, 3, 4] true (.seq (.tup (.cons (.call 74 (.cons (.call 63 (.cons (.var 1) (.cons (.cint 11) (.nil)))) (.nil))) (.cons (.call 74 (.cons (.cint 4) (.nil))) (.nil))))) (.cons (.asg 5 (.call 54 (.cons (.call 66 (.cons (.var 2) (.nil))) (.cons (.call 66 (.cons (.var 3) (.nil))) (.nil))))) (.cons (.asg 6 (.call 62 (.cons (.var 5) (.nil)))) (.cons (.ite (.cmp .ne (.cmp .isnot (.bvar 6) (.cnone)) (.bvar 4)) (.cons (.ret (.cbool false)) (.nil)) (.nil)) (.cons (.ite (.bop true (.cmp .isnot (.bvar 6) (.cnone)) (.not (.call 72 (.cons (.var 5) (.cons (.var 6) (.cons (.cint 10) (.nil))))))) (.cons (.ret (.cbool false)) (.nil)) (.nil)) (.nil)))))) (.cons (.asgT [7, 8, 9] (.call 56 (.cons (.call 66 (.cons (.lst (.cons (.cint 0) (.cons (.cint 0) (.cons (.cint 1) (.nil))))) (.nil))) (.cons (.call 66 (.cons (.lst (.cons (.cint 12) (.cons (.cint 7) (.cons (.cint 1) (.nil))))) (.nil))) (.nil))))) (.cons (.asg 10 (.call 60 (.cons (.call 66 (.cons (.lst (.cons (.cint 1) (.nil))) (.nil))) (.cons (.call 66 (.cons (.lst (.cons (.cint 1) (.nil))) (.nil))) (.cons (.call 66 (.cons (.lst (.cons (.cint 0) (.cons (.bin .add (.call 63 (.cons (.var 1) (.cons (.cint 9) (.nil)))) (.cint 1)) (.nil)))) (.nil))) (.nil)))))) (.cons (.asgT [11, 12] (.comp (.seq (.tup (.cons (.cint 0) (.cons (.cint 1) (.nil))))) 0 (.cbool true) (.call 67 (.cons (.var 10) (.cons (.var 13) (.nil)))))) (.cons (.ret (.bop true (.cmp .gt (.len (.bvar 9)) (.cint 0)) (.bop true (.cmp .lt (.len (.bvar 7)) (.cint 4)) (.bop true (.cmp .lt (.len (.bvar 8)) (.cint 4)) (.cmp .eq (.bin .mul (.idx (.bvar 11) (.cint 0)) (.idx (.bvar 12) (.cint 1))) (.bin .mul (.idx (.bvar 12) (.cint 0)) (.idx (.bvar 11) (.cint 1)))))))) (.nil))))))
theorem s_law {C : Cx} {Γ : Env0} {n wf : Nat} (c : COK C) (g : GOK C n Γ) : SSL C Γ n wf F_law.scope.names F_law.xs (F_law.body.tail) b_law :=
  ssl_cons (ss_ite c (st_not c (ST.of c (se_call c (f := 73) g (by kernel_rfl) (by kernel_rfl) (by kernel_rfl) (sl_cons c (se_var (by kernel_rfl) (by kernel_rfl)) (sl_nil) (fun _ => rfl)) (fun _ => rfl)) (fun _ _ => rfl))) (ssl_cons (ss_ret c (se_bool)) (ssl_nil)) (ssl_nil)) (ssl_cons (ss_for c (names := [(PySem.Str.ofString "top"), (PySem.Str.ofString "bottom"), (PySem.Str.ofString "is_there")]) (si_tups c (se_tup c (sl_cons c (se_call c (f := 74) g (by kernel_rfl) (by kernel_rfl) (by kernel_rfl) (sl_cons c (se_call c (f := 63) g (by kernel_rfl) (by kernel_rfl) (by kernel_rfl) (sl_cons c (se_var (by kernel_rfl) (by kernel_rfl)) (sl_cons c (se_int) (sl_nil) (fun _ => rfl)) (fun _ => rfl)) (fun _ => rfl)) (sl_nil) (fun _ => rfl)) (fun _ => rfl)) (sl_cons c (se_call c (f := 74) g (by kernel_rfl) (by kernel_rfl) (by kernel_rfl) (sl_cons c (se_int) (sl_nil) (fun _ => rfl)) (fun _ => rfl)) (sl_nil) (fun _ => rfl)) (fun _ => rfl)) (len_le (len_c (len_c len_0)) (by decide)))) (ssl_cons (ss_asg c (se_call c (f := 54) g (by kernel_rfl) (by kernel_rfl) (by kernel_rfl) (sl_cons c (se_call c (f := 66) g (by kernel_rfl) (by kernel_rfl) (by kernel_rfl) (sl_cons c (se_var (by kernel_rfl) (by kernel_rfl)) (sl_nil) (fun _ => rfl)) (fun _ => rfl)) (sl_cons c (se_call c (f := 66) g (by kernel_rfl) (by kernel_rfl) (by kernel_rfl) (sl_cons c (se_var (by kernel_rfl) (by kernel_rfl)) (sl_nil) (fun _ => rfl)) (fun _ => rfl)) (sl_nil) (fun _ => rfl)) (fun _ => rfl)) (fun _ => rfl)) (by kernel_rfl) (by decide +kernel) (fun _ _ _ => rfl)) (ssl_cons (ss_asg c (se_call c (f := 62) g (by kernel_rfl) (by kernel_rfl) (by kernel_rfl) (sl_cons c (se_var (by kernel_rfl) (by kernel_rfl)) (sl_nil) (fun _ => rfl)) (fun _ => rfl)) (by kernel_rfl) (by decide +kernel) (fun _ _ _ => rfl)) (ssl_cons (ss_ite c (st_cmp c rfl (SE.sb (se_cmp c rfl (sb_var (by kernel_rfl) (by kernel_rfl)) (SE.sb (se_none)) (by kernel_rfl))) (sb_var (by kernel_rfl) (by kernel_rfl)) (by kernel_rfl)) (ssl_cons (ss_ret c (se_bool)) (ssl_nil)) (ssl_nil)) (ssl_cons (ss_ite c (st_and c (st_cmp c rfl (sb_var (by kernel_rfl) (by kernel_rfl)) (SE.sb (se_none)) (by kernel_rfl)) (st_and1 c (st_not c (ST.of c (se_call c (f := 72) g (by kernel_rfl) (by kernel_rfl) (by kernel_rfl) (sl_cons c (se_var (by kernel_rfl) (by kernel_rfl)) (sl_cons c (se_var (by kernel_rfl) (by kernel_rfl)) (sl_cons c (se_int) (sl_nil) (fun _ => rfl)) (fun _ => rfl)) (fun _ => rfl)) (fun _ => rfl)) (fun _ _ => rfl))))) (ssl_cons (ss_ret c (se_bool)) (ssl_nil)) (ssl_nil)) (ssl_nil))))) ⟨(by kernel_rfl), (by decide +kernel), (by kernel_rfl), (by decide +kernel), (by kernel_rfl), (by decide +kernel), trivial⟩ ⟨_, _, _, rfl, (.cons _ _ (.cons _ _ (.cons _ _ .nil)))⟩ (fun _ _ => rfl)) (ssl_cons (ss_asgTL c (names := [(PySem.Str.ofString "a"), (PySem.Str.ofString "b"), (PySem.Str.ofString "c")]) (se_call c (f := 56) g (by kernel_rfl) (by kernel_rfl) (by kernel_rfl) (sl_cons c (se_call c (f := 66) g (by kernel_rfl) (by kernel_rfl) (by kernel_rfl) (sl_cons c (se_list c (sl_cons c (se_int) (sl_cons c (se_int) (sl_cons c (se_int) (sl_nil) (fun _ => rfl)) (fun _ => rfl)) (fun _ => rfl)) (len_le (len_c (len_c (len_c len_0))) (by decide))) (sl_nil) (fun _ => star_List ..)) (fun _ => rfl)) (sl_cons c (se_call c (f := 66) g (by kernel_rfl) (by kernel_rfl) (by kernel_rfl) (sl_cons c (se_list c (sl_cons c (se_int) (sl_cons c (se_int) (sl_cons c (se_int) (sl_nil) (fun _ => rfl)) (fun _ => rfl)) (fun _ => rfl)) (len_le (len_c (len_c (len_c len_0))) (by decide))) (sl_nil) (fun _ => star_List ..)) (fun _ => rfl)) (sl_nil) (fun _ => rfl)) (fun _ => rfl)) (fun _ => rfl)) ⟨(by kernel_rfl), (by decide +kernel), (by kernel_rfl), (by decide +kernel), (by kernel_rfl), (by decide +kernel), trivial⟩ (.cons _ _ (.cons _ _ (.cons _ _ .nil))) (fun _ => rfl) (fun _ => rfl)) (ssl_cons (ss_asg c (se_call c (f := 60) g (by kernel_rfl) (by kernel_rfl) (by kernel_rfl) (sl_cons c (se_call c (f := 66) g (by kernel_rfl) (by kernel_rfl) (by kernel_rfl) (sl_cons c (se_list c (sl_cons c (se_int) (sl_nil) (fun _ => rfl)) (len_le (len_c len_0) (by decide))) (sl_nil) (fun _ => star_List ..)) (fun _ => rfl)) (sl_cons c (se_call c (f := 66) g (by kernel_rfl) (by kernel_rfl) (by kernel_rfl) (sl_cons c (se_list c (sl_cons c (se_int) (sl_nil) (fun _ => rfl)) (len_le (len_c len_0) (by decide))) (sl_nil) (fun _ => star_List ..)) (fun _ => rfl)) (sl_cons c (se_call c (f := 66) g (by kernel_rfl) (by kernel_rfl) (by kernel_rfl) (sl_cons c (se_list c (sl_cons c (se_int) (sl_cons c (se_bin c rfl (se_call c (f := 63) g (by kernel_rfl) (by kernel_rfl) (by kernel_rfl) (sl_cons c (se_var (by kernel_rfl) (by kernel_rfl)) (sl_cons c (se_int) (sl_nil) (fun _ => rfl)) (fun _ => rfl)) (fun _ => rfl)) (se_int)) (sl_nil) (fun _ => rfl)) (fun _ => rfl)) (len_le (len_c (len_c len_0)) (by decide))) (sl_nil) (fun _ => star_List ..)) (fun _ => rfl)) (sl_nil) (fun _ => rfl)) (fun _ => rfl)) (fun _ => rfl)) (fun _ => rfl)) (by kernel_rfl) (by decide +kernel) (fun _ _ _ => rfl)) (ssl_cons (ss_asgTL c (names := [(PySem.Str.ofString "first"), (PySem.Str.ofString "second")]) (se_comp c (ts := [(PySem.Str.ofString "n")]) (si_seq c (se_tup c (sl_cons c (se_int) (sl_cons c (se_int) (sl_nil) (fun _ => rfl)) (fun _ => rfl)) (len_le (len_c (len_c len_0)) (by decide))) (fun _ _ => rfl)) (by decide +kernel) rfl rfl ⟨(by kernel_rfl), (by decide +kernel), trivial⟩ ⟨_, _, rfl, rfl⟩ (.inl ⟨rfl, rfl⟩) (se_call c (f := 67) g (by kernel_rfl) (by kernel_rfl) (by kernel_rfl) (sl_cons c (se_var (by kernel_rfl) (by kernel_rfl)) (sl_cons c (se_var (by kernel_rfl) (by kernel_rfl)) (sl_nil) (fun _ => rfl)) (fun _ => rfl)) (fun _ => rfl)) (fun _ _ => rfl)) ⟨(by kernel_rfl), (by decide +kernel), (by kernel_rfl), (by decide +kernel), trivial⟩ (.cons _ _ (.cons _ _ .nil)) (fun _ => rfl) (fun _ => rfl)) (ssl_cons (ss_ret c (se_and c (se_cmp c rfl (SE.sb (se_len c (by kernel_rfl) (sb_var (by kernel_rfl) (by kernel_rfl)) (fun _ => rfl))) (SE.sb (se_int)) (by kernel_rfl)) (se_and c (se_cmp c rfl (SE.sb (se_len c (by kernel_rfl) (sb_var (by kernel_rfl) (by kernel_rfl)) (fun _ => rfl))) (SE.sb (se_int)) (by kernel_rfl)) (se_and c (se_cmp c rfl (SE.sb (se_len c (by kernel_rfl) (sb_var (by kernel_rfl) (by kernel_rfl)) (fun _ => rfl))) (SE.sb (se_int)) (by kernel_rfl)) (se_and1 (se_cmp c rfl (SE.sb (se_bin c rfl (se_idx c (sb_var (by kernel_rfl) (by kernel_rfl)) (se_int) (fun _ _ _ => rfl)) (se_idx c (sb_var (by kernel_rfl) (by kernel_rfl)) (se_int) (fun _ _ _ => rfl)))) (SE.sb (se_bin c rfl (se_idx c (sb_var (by kernel_rfl) (by kernel_rfl)) (se_int) (fun _ _ _ => rfl)) (se_idx c (sb_var (by kernel_rfl) (by kernel_rfl)) (se_int) (fun _ _ _ => rfl)))) (by kernel_rfl))))))) (ssl_nil))))))

end Mine
-- MV
namespace Mine
open PySem PySem.W PyProof.Rows

noncomputable def WF : Nat := 10000
/-- the defs, in the order of their numbers -/
noncomputable def Fd : List FnD := [F_gcd, F_gcd_all, F_ztrim, F_zdegree, F_zlead, F_zadd, F_zneg, F_zsub, F_zscale, F_zraise, F_zcontent, F_zdivided, F_zprimitive, F_zshift, F_check_bottom, F_pseudo, F_divided, F_full_rest, F_row_resultant, F_resultant, F_root_bound, F_first_differences, F_zeros_on, F_dispersions, F_rat, F_radd, F_rsub, F_rmul, F_rdiv, F_rneg, F_copied, F_rinv, F_ris_whole, F_shape, F_need_shape, F_swap_rows, F_take_off, F_echelon, F_null_base, F_solve_system, F_qtrim, F_qdegree, F_qlead, F_qadd, F_qneg, F_qsub, F_qscale, F_qraise, F_qmul, F_qdivmod, F_qmonic, F_qgcd, F_qcompose, F_to_z, F_fmake, F_moved, F_parted, F_coefficient_at, F_most_degree, F_difference_of, F_key_solution, F_trimmed, F_gosper, F_law_take, F_law_draws, F_law_mul, F_law_quotients, F_law_at, F_law_value, F_law_linear, F_law_shifted, F_law_sum, F_law_certified, F_law_made_right, F_law_known, F_law]
/-- how each is run: how many arguments, how many names, its body -/
noncomputable def tab : List (Option (Nat × Nat × SL)) := [some (F_gcd.ps.length, F_gcd.vars.length, b_gcd), some (F_gcd_all.ps.length, F_gcd_all.vars.length, b_gcd_all), some (F_ztrim.ps.length, F_ztrim.vars.length, b_ztrim), some (F_zdegree.ps.length, F_zdegree.vars.length, b_zdegree), some (F_zlead.ps.length, F_zlead.vars.length, b_zlead), some (F_zadd.ps.length, F_zadd.vars.length, b_zadd), some (F_zneg.ps.length, F_zneg.vars.length, b_zneg), some (F_zsub.ps.length, F_zsub.vars.length, b_zsub), some (F_zscale.ps.length, F_zscale.vars.length, b_zscale), some (F_zraise.ps.length, F_zraise.vars.length, b_zraise), some (F_zcontent.ps.length, F_zcontent.vars.length, b_zcontent), some (F_zdivided.ps.length, F_zdivided.vars.length, b_zdivided), some (F_zprimitive.ps.length, F_zprimitive.vars.length, b_zprimitive), some (F_zshift.ps.length, F_zshift.vars.length, b_zshift), some (F_check_bottom.ps.length, F_check_bottom.vars.length, b_check_bottom), some (F_pseudo.ps.length, F_pseudo.vars.length, b_pseudo), some (F_divided.ps.length, F_divided.vars.length, b_divided), some (F_full_rest.ps.length, F_full_rest.vars.length, b_full_rest), some (F_row_resultant.ps.length, F_row_resultant.vars.length, b_row_resultant), some (F_resultant.ps.length, F_resultant.vars.length, b_resultant), some (F_root_bound.ps.length, F_root_bound.vars.length, b_root_bound), some (F_first_differences.ps.length, F_first_differences.vars.length, b_first_differences), some (F_zeros_on.ps.length, F_zeros_on.vars.length, b_zeros_on), some (F_dispersions.ps.length, F_dispersions.vars.length, b_dispersions), some (F_rat.ps.length, F_rat.vars.length, b_rat), some (F_radd.ps.length, F_radd.vars.length, b_radd), some (F_rsub.ps.length, F_rsub.vars.length, b_rsub), some (F_rmul.ps.length, F_rmul.vars.length, b_rmul), some (F_rdiv.ps.length, F_rdiv.vars.length, b_rdiv), some (F_rneg.ps.length, F_rneg.vars.length, b_rneg), some (F_copied.ps.length, F_copied.vars.length, b_copied), some (F_rinv.ps.length, F_rinv.vars.length, b_rinv), some (F_ris_whole.ps.length, F_ris_whole.vars.length, b_ris_whole), some (F_shape.ps.length, F_shape.vars.length, b_shape), some (F_need_shape.ps.length, F_need_shape.vars.length, b_need_shape), none, none, some (F_echelon.ps.length, F_echelon.vars.length, b_echelon), some (F_null_base.ps.length, F_null_base.vars.length, b_null_base), some (F_solve_system.ps.length, F_solve_system.vars.length, b_solve_system), some (F_qtrim.ps.length, F_qtrim.vars.length, b_qtrim), some (F_qdegree.ps.length, F_qdegree.vars.length, b_qdegree), some (F_qlead.ps.length, F_qlead.vars.length, b_qlead), some (F_qadd.ps.length, F_qadd.vars.length, b_qadd), some (F_qneg.ps.length, F_qneg.vars.length, b_qneg), some (F_qsub.ps.length, F_qsub.vars.length, b_qsub), some (F_qscale.ps.length, F_qscale.vars.length, b_qscale), some (F_qraise.ps.length, F_qraise.vars.length, b_qraise), some (F_qmul.ps.length, F_qmul.vars.length, b_qmul), some (F_qdivmod.ps.length, F_qdivmod.vars.length, b_qdivmod), some (F_qmonic.ps.length, F_qmonic.vars.length, b_qmonic), some (F_qgcd.ps.length, F_qgcd.vars.length, b_qgcd), some (F_qcompose.ps.length, F_qcompose.vars.length, b_qcompose), some (F_to_z.ps.length, F_to_z.vars.length, b_to_z), some (F_fmake.ps.length, F_fmake.vars.length, b_fmake), some (F_moved.ps.length, F_moved.vars.length, b_moved), some (F_parted.ps.length, F_parted.vars.length, b_parted), some (F_coefficient_at.ps.length, F_coefficient_at.vars.length, b_coefficient_at), some (F_most_degree.ps.length, F_most_degree.vars.length, b_most_degree), some (F_difference_of.ps.length, F_difference_of.vars.length, b_difference_of), some (F_key_solution.ps.length, F_key_solution.vars.length, b_key_solution), some (F_trimmed.ps.length, F_trimmed.vars.length, b_trimmed), some (F_gosper.ps.length, F_gosper.vars.length, b_gosper), some (F_law_take.ps.length, F_law_take.vars.length, b_law_take), none, some (F_law_mul.ps.length, F_law_mul.vars.length, b_law_mul), some (F_law_quotients.ps.length, F_law_quotients.vars.length, b_law_quotients), some (F_law_at.ps.length, F_law_at.vars.length, b_law_at), some (F_law_value.ps.length, F_law_value.vars.length, b_law_value), some (F_law_linear.ps.length, F_law_linear.vars.length, b_law_linear), some (F_law_shifted.ps.length, F_law_shifted.vars.length, b_law_shifted), some (F_law_sum.ps.length, F_law_sum.vars.length, b_law_sum), some (F_law_certified.ps.length, F_law_certified.vars.length, b_law_certified), some (F_law_made_right.ps.length, F_law_made_right.vars.length, b_law_made_right), some (F_law_known.ps.length, F_law_known.vars.length, b_law_known), none]
noncomputable def callT (Γ : Env0) (f : Nat) (args : List V) (d : Dr) : Option (V × Dr) := (tab[f]?).bind fun o => o.bind fun q => callRun Γ WF q.1 q.2.1 q.2.2 (freshF f) args d
noncomputable def mutsT (Γ : Env0) (f : Nat) (l args : List V) (d : Dr) : Option (List V × Dr) := if f = 35 then mutRun Γ WF F_swap_rows.ps.length F_swap_rows.vars.length (.cons b1_swap_rows .nil) l args d
  else if f = 36 then mutRun Γ WF F_take_off.ps.length F_take_off.vars.length (.cons b1_take_off .nil) l args d else none
noncomputable def I : Nat → Env0
  | 0 => ⟨fun _ _ _ => none, fun _ _ _ _ => none⟩
  | n + 1 => ⟨callT (I n), mutsT (I n)⟩

noncomputable def Good (C : Cx) (f : Nat) (np nv : Nat) (b : SL) : Prop := ∃ F, Fd[f]? = some F ∧ F.OK ∧ np = F.ps.length ∧ nv = F.vars.length ∧ ∀ Γ n wf, GOK C n Γ → SSL C Γ n wf F.scope.names F.xs F.body b
theorem mkGood {C : Cx} {f : Nat} {b : SL} (F : FnD) (h0 : Fd[f]? = some F) (h : F.OK) (hs : ∀ Γ n wf, GOK C n Γ → SSL C Γ n wf F.scope.names F.xs F.body b) : Good C f F.ps.length F.vars.length b := ⟨F, h0, h, rfl, rfl, hs⟩
noncomputable def AllG (C : Cx) : Nat → List (Option (Nat × Nat × SL)) → Prop
  | _, [] => True
  | k, none :: r => AllG C (k + 1) r
  | k, some t :: r => Good C k t.1 t.2.1 t.2.2 ∧ AllG C (k + 1) r
theorem AllG.get {C : Cx} : ∀ (l : List (Option (Nat × Nat × SL))) (k i np nv : Nat) (b : SL), AllG C k l → l[i]? = some (some (np, nv, b)) → Good C (k + i) np nv b
  | [], _, _, _, _, _, _, h => by cases h
  | none :: r, k, 0, _, _, _, _, h => by cases h
  | none :: r, k, i + 1, np, nv, b, g, h => by
    have := AllG.get r (k + 1) i np nv b g h
    rwa [show k + (i + 1) = k + 1 + i by omega]
  | some t :: r, k, 0, np, nv, b, g, h => by
    have e : t = (np, nv, b) := Option.some.inj (Option.some.inj h)
    subst e
    exact g.1
  | some t :: r, k, i + 1, np, nv, b, g, h => by
    have := AllG.get r (k + 1) i np nv b g.2 h
    rwa [show k + (i + 1) = k + 1 + i by omega]
theorem gd_gcd {C : Cx} (c : COK C) : Good C 0 F_gcd.ps.length F_gcd.vars.length b_gcd := mkGood F_gcd (by kernel_rfl) F_gcd_ok (fun Γ n wf g => @s_gcd C Γ n wf c g)
theorem gd_gcd_all {C : Cx} (c : COK C) : Good C 1 F_gcd_all.ps.length F_gcd_all.vars.length b_gcd_all := mkGood F_gcd_all (by kernel_rfl) F_gcd_all_ok (fun Γ n wf g => @s_gcd_all C Γ n wf c g)
theorem gd_ztrim {C : Cx} (c : COK C) : Good C 2 F_ztrim.ps.length F_ztrim.vars.length b_ztrim := mkGood F_ztrim (by kernel_rfl) F_ztrim_ok (fun Γ n wf g => @s_ztrim C Γ n wf c g)
theorem gd_zdegree {C : Cx} (c : COK C) : Good C 3 F_zdegree.ps.length F_zdegree.vars.length b_zdegree := mkGood F_zdegree (by kernel_rfl) F_zdegree_ok (fun Γ n wf g => @s_zdegree C Γ n wf c g)
theorem gd_zlead {C : Cx} (c : COK C) : Good C 4 F_zlead.ps.length F_zlead.vars.length b_zlead := mkGood F_zlead (by kernel_rfl) F_zlead_ok (fun Γ n wf g => @s_zlead C Γ n wf c g)
theorem gd_zadd {C : Cx} (c : COK C) : Good C 5 F_zadd.ps.length F_zadd.vars.length b_zadd := mkGood F_zadd (by kernel_rfl) F_zadd_ok (fun Γ n wf g => @s_zadd C Γ n wf c g)
theorem gd_zneg {C : Cx} (c : COK C) : Good C 6 F_zneg.ps.length F_zneg.vars.length b_zneg := mkGood F_zneg (by kernel_rfl) F_zneg_ok (fun Γ n wf g => @s_zneg C Γ n wf c g)
theorem gd_zsub {C : Cx} (c : COK C) : Good C 7 F_zsub.ps.length F_zsub.vars.length b_zsub := mkGood F_zsub (by kernel_rfl) F_zsub_ok (fun Γ n wf g => @s_zsub C Γ n wf c g)
theorem gd_zscale {C : Cx} (c : COK C) : Good C 8 F_zscale.ps.length F_zscale.vars.length b_zscale := mkGood F_zscale (by kernel_rfl) F_zscale_ok (fun Γ n wf g => @s_zscale C Γ n wf c g)
theorem gd_zraise {C : Cx} (c : COK C) : Good C 9 F_zraise.ps.length F_zraise.vars.length b_zraise := mkGood F_zraise (by kernel_rfl) F_zraise_ok (fun Γ n wf g => @s_zraise C Γ n wf c g)
theorem gd_zcontent {C : Cx} (c : COK C) : Good C 10 F_zcontent.ps.length F_zcontent.vars.length b_zcontent := mkGood F_zcontent (by kernel_rfl) F_zcontent_ok (fun Γ n wf g => @s_zcontent C Γ n wf c g)
theorem gd_zdivided {C : Cx} (c : COK C) : Good C 11 F_zdivided.ps.length F_zdivided.vars.length b_zdivided := mkGood F_zdivided (by kernel_rfl) F_zdivided_ok (fun Γ n wf g => @s_zdivided C Γ n wf c g)
theorem gd_zprimitive {C : Cx} (c : COK C) : Good C 12 F_zprimitive.ps.length F_zprimitive.vars.length b_zprimitive := mkGood F_zprimitive (by kernel_rfl) F_zprimitive_ok (fun Γ n wf g => @s_zprimitive C Γ n wf c g)
theorem gd_zshift {C : Cx} (c : COK C) : Good C 13 F_zshift.ps.length F_zshift.vars.length b_zshift := mkGood F_zshift (by kernel_rfl) F_zshift_ok (fun Γ n wf g => @s_zshift C Γ n wf c g)
theorem gd_check_bottom {C : Cx} (c : COK C) : Good C 14 F_check_bottom.ps.length F_check_bottom.vars.length b_check_bottom := mkGood F_check_bottom (by kernel_rfl) F_check_bottom_ok (fun Γ n wf g => @s_check_bottom C Γ n wf c g)
theorem gd_pseudo {C : Cx} (c : COK C) : Good C 15 F_pseudo.ps.length F_pseudo.vars.length b_pseudo := mkGood F_pseudo (by kernel_rfl) F_pseudo_ok (fun Γ n wf g => @s_pseudo C Γ n wf c g)
theorem gd_divided {C : Cx} (c : COK C) : Good C 16 F_divided.ps.length F_divided.vars.length b_divided := mkGood F_divided (by kernel_rfl) F_divided_ok (fun Γ n wf g => @s_divided C Γ n wf c g)
theorem gd_full_rest {C : Cx} (c : COK C) : Good C 17 F_full_rest.ps.length F_full_rest.vars.length b_full_rest := mkGood F_full_rest (by kernel_rfl) F_full_rest_ok (fun Γ n wf g => @s_full_rest C Γ n wf c g)
theorem gd_row_resultant {C : Cx} (c : COK C) : Good C 18 F_row_resultant.ps.length F_row_resultant.vars.length b_row_resultant := mkGood F_row_resultant (by kernel_rfl) F_row_resultant_ok (fun Γ n wf g => @s_row_resultant C Γ n wf c g)
theorem gd_resultant {C : Cx} (c : COK C) : Good C 19 F_resultant.ps.length F_resultant.vars.length b_resultant := mkGood F_resultant (by kernel_rfl) F_resultant_ok (fun Γ n wf g => @s_resultant C Γ n wf c g)
theorem gd_root_bound {C : Cx} (c : COK C) : Good C 20 F_root_bound.ps.length F_root_bound.vars.length b_root_bound := mkGood F_root_bound (by kernel_rfl) F_root_bound_ok (fun Γ n wf g => @s_root_bound C Γ n wf c g)
theorem gd_first_differences {C : Cx} (c : COK C) : Good C 21 F_first_differences.ps.length F_first_differences.vars.length b_first_differences := mkGood F_first_differences (by kernel_rfl) F_first_differences_ok (fun Γ n wf g => @s_first_differences C Γ n wf c g)
theorem gd_zeros_on {C : Cx} (c : COK C) : Good C 22 F_zeros_on.ps.length F_zeros_on.vars.length b_zeros_on := mkGood F_zeros_on (by kernel_rfl) F_zeros_on_ok (fun Γ n wf g => @s_zeros_on C Γ n wf c g)
theorem gd_dispersions {C : Cx} (c : COK C) : Good C 23 F_dispersions.ps.length F_dispersions.vars.length b_dispersions := mkGood F_dispersions (by kernel_rfl) F_dispersions_ok (fun Γ n wf g => @s_dispersions C Γ n wf c g)
theorem gd_rat {C : Cx} (c : COK C) : Good C 24 F_rat.ps.length F_rat.vars.length b_rat := mkGood F_rat (by kernel_rfl) F_rat_ok (fun Γ n wf g => @s_rat C Γ n wf c g)
theorem gd_radd {C : Cx} (c : COK C) : Good C 25 F_radd.ps.length F_radd.vars.length b_radd := mkGood F_radd (by kernel_rfl) F_radd_ok (fun Γ n wf g => @s_radd C Γ n wf c g)
theorem gd_rsub {C : Cx} (c : COK C) : Good C 26 F_rsub.ps.length F_rsub.vars.length b_rsub := mkGood F_rsub (by kernel_rfl) F_rsub_ok (fun Γ n wf g => @s_rsub C Γ n wf c g)
theorem gd_rmul {C : Cx} (c : COK C) : Good C 27 F_rmul.ps.length F_rmul.vars.length b_rmul := mkGood F_rmul (by kernel_rfl) F_rmul_ok (fun Γ n wf g => @s_rmul C Γ n wf c g)
theorem gd_rdiv {C : Cx} (c : COK C) : Good C 28 F_rdiv.ps.length F_rdiv.vars.length b_rdiv := mkGood F_rdiv (by kernel_rfl) F_rdiv_ok (fun Γ n wf g => @s_rdiv C Γ n wf c g)
theorem gd_rneg {C : Cx} (c : COK C) : Good C 29 F_rneg.ps.length F_rneg.vars.length b_rneg := mkGood F_rneg (by kernel_rfl) F_rneg_ok (fun Γ n wf g => @s_rneg C Γ n wf c g)
theorem gd_copied {C : Cx} (c : COK C) : Good C 30 F_copied.ps.length F_copied.vars.length b_copied := mkGood F_copied (by kernel_rfl) F_copied_ok (fun Γ n wf g => @s_copied C Γ n wf c g)
theorem gd_rinv {C : Cx} (c : COK C) : Good C 31 F_rinv.ps.length F_rinv.vars.length b_rinv := mkGood F_rinv (by kernel_rfl) F_rinv_ok (fun Γ n wf g => @s_rinv C Γ n wf c g)
theorem gd_ris_whole {C : Cx} (c : COK C) : Good C 32 F_ris_whole.ps.length F_ris_whole.vars.length b_ris_whole := mkGood F_ris_whole (by kernel_rfl) F_ris_whole_ok (fun Γ n wf g => @s_ris_whole C Γ n wf c g)
theorem gd_shape {C : Cx} (c : COK C) : Good C 33 F_shape.ps.length F_shape.vars.length b_shape := mkGood F_shape (by kernel_rfl) F_shape_ok (fun Γ n wf g => @s_shape C Γ n wf c g)
theorem gd_need_shape {C : Cx} (c : COK C) : Good C 34 F_need_shape.ps.length F_need_shape.vars.length b_need_shape := mkGood F_need_shape (by kernel_rfl) F_need_shape_ok (fun Γ n wf g => @s_need_shape C Γ n wf c g)
theorem gd_echelon {C : Cx} (c : COK C) : Good C 37 F_echelon.ps.length F_echelon.vars.length b_echelon := mkGood F_echelon (by kernel_rfl) F_echelon_ok (fun Γ n wf g => @s_echelon C Γ n wf c g)
theorem gd_null_base {C : Cx} (c : COK C) : Good C 38 F_null_base.ps.length F_null_base.vars.length b_null_base := mkGood F_null_base (by kernel_rfl) F_null_base_ok (fun Γ n wf g => @s_null_base C Γ n wf c g)
theorem gd_solve_system {C : Cx} (c : COK C) : Good C 39 F_solve_system.ps.length F_solve_system.vars.length b_solve_system := mkGood F_solve_system (by kernel_rfl) F_solve_system_ok (fun Γ n wf g => @s_solve_system C Γ n wf c g)
theorem gd_qtrim {C : Cx} (c : COK C) : Good C 40 F_qtrim.ps.length F_qtrim.vars.length b_qtrim := mkGood F_qtrim (by kernel_rfl) F_qtrim_ok (fun Γ n wf g => @s_qtrim C Γ n wf c g)
theorem gd_qdegree {C : Cx} (c : COK C) : Good C 41 F_qdegree.ps.length F_qdegree.vars.length b_qdegree := mkGood F_qdegree (by kernel_rfl) F_qdegree_ok (fun Γ n wf g => @s_qdegree C Γ n wf c g)
theorem gd_qlead {C : Cx} (c : COK C) : Good C 42 F_qlead.ps.length F_qlead.vars.length b_qlead := mkGood F_qlead (by kernel_rfl) F_qlead_ok (fun Γ n wf g => @s_qlead C Γ n wf c g)
theorem gd_qadd {C : Cx} (c : COK C) : Good C 43 F_qadd.ps.length F_qadd.vars.length b_qadd := mkGood F_qadd (by kernel_rfl) F_qadd_ok (fun Γ n wf g => @s_qadd C Γ n wf c g)
theorem gd_qneg {C : Cx} (c : COK C) : Good C 44 F_qneg.ps.length F_qneg.vars.length b_qneg := mkGood F_qneg (by kernel_rfl) F_qneg_ok (fun Γ n wf g => @s_qneg C Γ n wf c g)
theorem gd_qsub {C : Cx} (c : COK C) : Good C 45 F_qsub.ps.length F_qsub.vars.length b_qsub := mkGood F_qsub (by kernel_rfl) F_qsub_ok (fun Γ n wf g => @s_qsub C Γ n wf c g)
theorem gd_qscale {C : Cx} (c : COK C) : Good C 46 F_qscale.ps.length F_qscale.vars.length b_qscale := mkGood F_qscale (by kernel_rfl) F_qscale_ok (fun Γ n wf g => @s_qscale C Γ n wf c g)
theorem gd_qraise {C : Cx} (c : COK C) : Good C 47 F_qraise.ps.length F_qraise.vars.length b_qraise := mkGood F_qraise (by kernel_rfl) F_qraise_ok (fun Γ n wf g => @s_qraise C Γ n wf c g)
theorem gd_qmul {C : Cx} (c : COK C) : Good C 48 F_qmul.ps.length F_qmul.vars.length b_qmul := mkGood F_qmul (by kernel_rfl) F_qmul_ok (fun Γ n wf g => @s_qmul C Γ n wf c g)
theorem gd_qdivmod {C : Cx} (c : COK C) : Good C 49 F_qdivmod.ps.length F_qdivmod.vars.length b_qdivmod := mkGood F_qdivmod (by kernel_rfl) F_qdivmod_ok (fun Γ n wf g => @s_qdivmod C Γ n wf c g)
theorem gd_qmonic {C : Cx} (c : COK C) : Good C 50 F_qmonic.ps.length F_qmonic.vars.length b_qmonic := mkGood F_qmonic (by kernel_rfl) F_qmonic_ok (fun Γ n wf g => @s_qmonic C Γ n wf c g)
theorem gd_qgcd {C : Cx} (c : COK C) : Good C 51 F_qgcd.ps.length F_qgcd.vars.length b_qgcd := mkGood F_qgcd (by kernel_rfl) F_qgcd_ok (fun Γ n wf g => @s_qgcd C Γ n wf c g)
theorem gd_qcompose {C : Cx} (c : COK C) : Good C 52 F_qcompose.ps.length F_qcompose.vars.length b_qcompose := mkGood F_qcompose (by kernel_rfl) F_qcompose_ok (fun Γ n wf g => @s_qcompose C Γ n wf c g)
theorem gd_to_z {C : Cx} (c : COK C) : Good C 53 F_to_z.ps.length F_to_z.vars.length b_to_z := mkGood F_to_z (by kernel_rfl) F_to_z_ok (fun Γ n wf g => @s_to_z C Γ n wf c g)
theorem gd_fmake {C : Cx} (c : COK C) : Good C 54 F_fmake.ps.length F_fmake.vars.length b_fmake := mkGood F_fmake (by kernel_rfl) F_fmake_ok (fun Γ n wf g => @s_fmake C Γ n wf c g)
theorem gd_moved {C : Cx} (c : COK C) : Good C 55 F_moved.ps.length F_moved.vars.length b_moved := mkGood F_moved (by kernel_rfl) F_moved_ok (fun Γ n wf g => @s_moved C Γ n wf c g)
theorem gd_parted {C : Cx} (c : COK C) : Good C 56 F_parted.ps.length F_parted.vars.length b_parted := mkGood F_parted (by kernel_rfl) F_parted_ok (fun Γ n wf g => @s_parted C Γ n wf c g)
theorem gd_coefficient_at {C : Cx} (c : COK C) : Good C 57 F_coefficient_at.ps.length F_coefficient_at.vars.length b_coefficient_at := mkGood F_coefficient_at (by kernel_rfl) F_coefficient_at_ok (fun Γ n wf g => @s_coefficient_at C Γ n wf c g)
theorem gd_most_degree {C : Cx} (c : COK C) : Good C 58 F_most_degree.ps.length F_most_degree.vars.length b_most_degree := mkGood F_most_degree (by kernel_rfl) F_most_degree_ok (fun Γ n wf g => @s_most_degree C Γ n wf c g)
theorem gd_difference_of {C : Cx} (c : COK C) : Good C 59 F_difference_of.ps.length F_difference_of.vars.length b_difference_of := mkGood F_difference_of (by kernel_rfl) F_difference_of_ok (fun Γ n wf g => @s_difference_of C Γ n wf c g)
theorem gd_key_solution {C : Cx} (c : COK C) : Good C 60 F_key_solution.ps.length F_key_solution.vars.length b_key_solution := mkGood F_key_solution (by kernel_rfl) F_key_solution_ok (fun Γ n wf g => @s_key_solution C Γ n wf c g)
theorem gd_trimmed {C : Cx} (c : COK C) : Good C 61 F_trimmed.ps.length F_trimmed.vars.length b_trimmed := mkGood F_trimmed (by kernel_rfl) F_trimmed_ok (fun Γ n wf g => @s_trimmed C Γ n wf c g)
theorem gd_gosper {C : Cx} (c : COK C) : Good C 62 F_gosper.ps.length F_gosper.vars.length b_gosper := mkGood F_gosper (by kernel_rfl) F_gosper_ok (fun Γ n wf g => @s_gosper C Γ n wf c g)
theorem gd_law_take {C : Cx} (c : COK C) : Good C 63 F_law_take.ps.length F_law_take.vars.length b_law_take := mkGood F_law_take (by kernel_rfl) F_law_take_ok (fun Γ n wf g => @s_law_take C Γ n wf c g)
theorem gd_law_mul {C : Cx} (c : COK C) : Good C 65 F_law_mul.ps.length F_law_mul.vars.length b_law_mul := mkGood F_law_mul (by kernel_rfl) F_law_mul_ok (fun Γ n wf g => @s_law_mul C Γ n wf c g)
theorem gd_law_quotients {C : Cx} (c : COK C) : Good C 66 F_law_quotients.ps.length F_law_quotients.vars.length b_law_quotients := mkGood F_law_quotients (by kernel_rfl) F_law_quotients_ok (fun Γ n wf g => @s_law_quotients C Γ n wf c g)
theorem gd_law_at {C : Cx} (c : COK C) : Good C 67 F_law_at.ps.length F_law_at.vars.length b_law_at := mkGood F_law_at (by kernel_rfl) F_law_at_ok (fun Γ n wf g => @s_law_at C Γ n wf c g)
theorem gd_law_value {C : Cx} (c : COK C) : Good C 68 F_law_value.ps.length F_law_value.vars.length b_law_value := mkGood F_law_value (by kernel_rfl) F_law_value_ok (fun Γ n wf g => @s_law_value C Γ n wf c g)
theorem gd_law_linear {C : Cx} (c : COK C) : Good C 69 F_law_linear.ps.length F_law_linear.vars.length b_law_linear := mkGood F_law_linear (by kernel_rfl) F_law_linear_ok (fun Γ n wf g => @s_law_linear C Γ n wf c g)
theorem gd_law_shifted {C : Cx} (c : COK C) : Good C 70 F_law_shifted.ps.length F_law_shifted.vars.length b_law_shifted := mkGood F_law_shifted (by kernel_rfl) F_law_shifted_ok (fun Γ n wf g => @s_law_shifted C Γ n wf c g)
theorem gd_law_sum {C : Cx} (c : COK C) : Good C 71 F_law_sum.ps.length F_law_sum.vars.length b_law_sum := mkGood F_law_sum (by kernel_rfl) F_law_sum_ok (fun Γ n wf g => @s_law_sum C Γ n wf c g)
theorem gd_law_certified {C : Cx} (c : COK C) : Good C 72 F_law_certified.ps.length F_law_certified.vars.length b_law_certified := mkGood F_law_certified (by kernel_rfl) F_law_certified_ok (fun Γ n wf g => @s_law_certified C Γ n wf c g)
theorem gd_law_made_right {C : Cx} (c : COK C) : Good C 73 F_law_made_right.ps.length F_law_made_right.vars.length b_law_made_right := mkGood F_law_made_right (by kernel_rfl) F_law_made_right_ok (fun Γ n wf g => @s_law_made_right C Γ n wf c g)
theorem gd_law_known {C : Cx} (c : COK C) : Good C 74 F_law_known.ps.length F_law_known.vars.length b_law_known := mkGood F_law_known (by kernel_rfl) F_law_known_ok (fun Γ n wf g => @s_law_known C Γ n wf c g)
set_option maxHeartbeats 0 in
theorem tab_all {C : Cx} (c : COK C) : AllG C 0 tab := by
  unfold tab
  refine ⟨gd_gcd c, ?_⟩
  refine ⟨gd_gcd_all c, ?_⟩
  refine ⟨gd_ztrim c, ?_⟩
  refine ⟨gd_zdegree c, ?_⟩
  refine ⟨gd_zlead c, ?_⟩
  refine ⟨gd_zadd c, ?_⟩
  refine ⟨gd_zneg c, ?_⟩
  refine ⟨gd_zsub c, ?_⟩
  refine ⟨gd_zscale c, ?_⟩
  refine ⟨gd_zraise c, ?_⟩
  refine ⟨gd_zcontent c, ?_⟩
  refine ⟨gd_zdivided c, ?_⟩
  refine ⟨gd_zprimitive c, ?_⟩
  refine ⟨gd_zshift c, ?_⟩
  refine ⟨gd_check_bottom c, ?_⟩
  refine ⟨gd_pseudo c, ?_⟩
  refine ⟨gd_divided c, ?_⟩
  refine ⟨gd_full_rest c, ?_⟩
  refine ⟨gd_row_resultant c, ?_⟩
  refine ⟨gd_resultant c, ?_⟩
  refine ⟨gd_root_bound c, ?_⟩
  refine ⟨gd_first_differences c, ?_⟩
  refine ⟨gd_zeros_on c, ?_⟩
  refine ⟨gd_dispersions c, ?_⟩
  refine ⟨gd_rat c, ?_⟩
  refine ⟨gd_radd c, ?_⟩
  refine ⟨gd_rsub c, ?_⟩
  refine ⟨gd_rmul c, ?_⟩
  refine ⟨gd_rdiv c, ?_⟩
  refine ⟨gd_rneg c, ?_⟩
  refine ⟨gd_copied c, ?_⟩
  refine ⟨gd_rinv c, ?_⟩
  refine ⟨gd_ris_whole c, ?_⟩
  refine ⟨gd_shape c, ?_⟩
  refine ⟨gd_need_shape c, ?_⟩
  show AllG C _ _
  show AllG C _ _
  refine ⟨gd_echelon c, ?_⟩
  refine ⟨gd_null_base c, ?_⟩
  refine ⟨gd_solve_system c, ?_⟩
  refine ⟨gd_qtrim c, ?_⟩
  refine ⟨gd_qdegree c, ?_⟩
  refine ⟨gd_qlead c, ?_⟩
  refine ⟨gd_qadd c, ?_⟩
  refine ⟨gd_qneg c, ?_⟩
  refine ⟨gd_qsub c, ?_⟩
  refine ⟨gd_qscale c, ?_⟩
  refine ⟨gd_qraise c, ?_⟩
  refine ⟨gd_qmul c, ?_⟩
  refine ⟨gd_qdivmod c, ?_⟩
  refine ⟨gd_qmonic c, ?_⟩
  refine ⟨gd_qgcd c, ?_⟩
  refine ⟨gd_qcompose c, ?_⟩
  refine ⟨gd_to_z c, ?_⟩
  refine ⟨gd_fmake c, ?_⟩
  refine ⟨gd_moved c, ?_⟩
  refine ⟨gd_parted c, ?_⟩
  refine ⟨gd_coefficient_at c, ?_⟩
  refine ⟨gd_most_degree c, ?_⟩
  refine ⟨gd_difference_of c, ?_⟩
  refine ⟨gd_key_solution c, ?_⟩
  refine ⟨gd_trimmed c, ?_⟩
  refine ⟨gd_gosper c, ?_⟩
  refine ⟨gd_law_take c, ?_⟩
  show AllG C _ _
  refine ⟨gd_law_mul c, ?_⟩
  refine ⟨gd_law_quotients c, ?_⟩
  refine ⟨gd_law_at c, ?_⟩
  refine ⟨gd_law_value c, ?_⟩
  refine ⟨gd_law_linear c, ?_⟩
  refine ⟨gd_law_shifted c, ?_⟩
  refine ⟨gd_law_sum c, ?_⟩
  refine ⟨gd_law_certified c, ?_⟩
  refine ⟨gd_law_made_right c, ?_⟩
  refine ⟨gd_law_known c, ?_⟩
  show AllG C _ _
  trivial
theorem tab_ok {C : Cx} (c : COK C) (f np nv : Nat) (b : SL) (h : tab[f]? = some (some (np, nv, b))) : Good C f np nv b := by
  have := AllG.get tab 0 f np nv b (tab_all c) h
  rwa [Nat.zero_add] at this

theorem I_ok {C : Cx} (c : COK C) (hF : ∀ f F, Fd[f]? = some F → fnOK C f F) : ∀ n, GOK C n (I n)
  | 0 => ⟨fun _ _ _ _ _ h => (by cases h), fun _ _ _ _ _ _ h => (by cases h)⟩
  | n + 1 => by
    have g := I_ok c hF n
    refine ⟨fun f args d r d' h => ?_, fun f l args d l' d' h => ?_⟩
    · obtain ⟨o, e0, h⟩ := bind_inv h
      obtain ⟨⟨np, nv, b⟩, e1, h⟩ := bind_inv h
      cases e1
      obtain ⟨F, e1, ok, rfl, rfl, hs⟩ := tab_ok c f _ _ _ e0
      exact call_ok c ok (hF f F e1) (hs _ _ _ g) h
    · change mutsT (I n) f l args d = _ at h
      unfold mutsT at h
      split at h
      · rename_i e; subst e
        obtain ⟨st, e1, e2⟩ := s_swap_rows (wf := WF) c g
        exact mut_ok c F_swap_rows_ok (hF _ _ rfl) e1 e2 h
      · split at h
        · rename_i e; subst e
          obtain ⟨st, e1, e2⟩ := s_take_off (wf := WF) c g
          exact mut_ok c F_take_off_ok (hF _ _ rfl) e1 e2 h
        · cases h
end Mine
-- NA
namespace Mine
noncomputable section

/-! quick pieces, by recursors -/
noncomputable def ob {α β : Type} (o : Option α) (f : α → Option β) : Option β := @Option.rec α (fun _ => Option β) none f o
noncomputable def bsel {β : Type} (b : Bool) (t e : β) : β := @Bool.rec (fun _ => β) e t b
noncomputable def foldO {σ α : Type} (step : σ → α → Option σ) (l : List α) (s : σ) : Option σ := @List.rec α (fun _ => σ → Option σ) (fun s => some s) (fun x _ ih s => ob (step s x) ih) l s
noncomputable def foldR {σ α ρ : Type} (step : σ → α → Option (Sum σ ρ)) (l : List α) (s : σ) : Option (Sum σ ρ) :=
  @List.rec α (fun _ => σ → Option (Sum σ ρ)) (fun s => some (.inl s)) (fun x _ ih s => ob (step s x) fun r => @Sum.rec σ ρ (fun _ => Option (Sum σ ρ)) ih (fun v => some (.inr v)) r) l s
noncomputable def mapO {α β : Type} (f : α → Option β) (l : List α) : Option (List β) := @List.rec α (fun _ => Option (List β)) (some []) (fun x _ ih => ob (f x) fun y => ob ih fun ys => some (y :: ys)) l
noncomputable def filtO {α β : Type} (c : α → Option Bool) (f : α → Option β) (l : List α) : Option (List β) :=
  @List.rec α (fun _ => Option (List β)) (some []) (fun x _ ih => ob (c x) fun t => bsel t (ob (f x) fun y => ob ih fun ys => some (y :: ys)) ih) l
noncomputable def whileO {σ : Type} (c : σ → Option Bool) (b : σ → Option σ) (n : Nat) (s : σ) : Option σ := @Nat.rec (fun _ => σ → Option σ) (fun _ => none) (fun _ ih s => ob (c s) fun t => bsel t (ob (b s) ih) (some s)) n s

theorem ob_some {α β : Type} {o : Option α} {f : α → Option β} {r : β} (h : ob o f = some r) : ∃ x, o = some x ∧ f x = some r := by
  cases o with
  | none => cases h
  | some x => exact ⟨x, rfl, h⟩
theorem bsel_eq {β : Type} (b : Bool) (t e : β) : bsel b t e = if b then t else e := by cases b <;> rfl
theorem bsel_none {β : Type} {b : Bool} {t : Option β} {r : β} (h : bsel b t none = some r) : b = true ∧ t = some r := by
  cases b with
  | true => exact ⟨rfl, h⟩
  | false => cases h

/-! whole numbers -/
noncomputable def nneg (k : Nat) : Int := @Nat.rec (fun _ => Int) (Int.ofNat 0) (fun k _ => Int.negSucc k) k
noncomputable def nsub (m n : Nat) : Int := bsel (Nat.ble n m) (Int.ofNat (Nat.sub m n)) (nneg (Nat.sub n m))
noncomputable def iadd (a b : Int) : Int := @Int.rec (fun _ => Int → Int) (fun m b => @Int.rec (fun _ => Int) (fun n => Int.ofNat (Nat.add m n)) (fun n => nsub m (Nat.succ n)) b)
   (fun m b => @Int.rec (fun _ => Int) (fun n => nsub n (Nat.succ m)) (fun n => Int.negSucc (Nat.succ (Nat.add m n))) b) a b
noncomputable def ineg (a : Int) : Int := @Int.rec (fun _ => Int) nneg (fun n => Int.ofNat (Nat.succ n)) a
noncomputable def isub (a b : Int) : Int := iadd a (ineg b)
noncomputable def imul (a b : Int) : Int := @Int.rec (fun _ => Int → Int) (fun m b => @Int.rec (fun _ => Int) (fun n => Int.ofNat (Nat.mul m n)) (fun n => nneg (Nat.mul m (Nat.succ n))) b)
   (fun m b => @Int.rec (fun _ => Int) (fun n => nneg (Nat.mul (Nat.succ m) n)) (fun n => Int.ofNat (Nat.mul (Nat.succ m) (Nat.succ n))) b) a b
noncomputable def iabsN (a : Int) : Nat := @Int.rec (fun _ => Nat) (fun n => n) (fun n => Nat.succ n) a
noncomputable def iabs (a : Int) : Int := Int.ofNat (iabsN a)
noncomputable def ilt (a b : Int) : Bool := @Int.rec (fun _ => Int → Bool) (fun m b => @Int.rec (fun _ => Bool) (fun n => Nat.ble (Nat.succ m) n) (fun _ => false) b)
   (fun m b => @Int.rec (fun _ => Bool) (fun _ => true) (fun n => Nat.ble (Nat.succ n) m) b) a b
noncomputable def ile (a b : Int) : Bool := @Int.rec (fun _ => Int → Bool) (fun m b => @Int.rec (fun _ => Bool) (fun n => Nat.ble m n) (fun _ => false) b)
   (fun m b => @Int.rec (fun _ => Bool) (fun _ => true) (fun n => Nat.ble n m) b) a b
noncomputable def ieq (a b : Int) : Bool := @Int.rec (fun _ => Int → Bool) (fun m b => @Int.rec (fun _ => Bool) (fun n => Nat.beq m n) (fun _ => false) b)
   (fun m b => @Int.rec (fun _ => Bool) (fun _ => false) (fun n => Nat.beq m n) b) a b
noncomputable def imax (a b : Int) : Int := bsel (ilt a b) b a
noncomputable def ipow (a : Int) (n : Nat) : Int := @Nat.rec (fun _ => Int) (Int.ofNat 1) (fun _ ih => imul ih a) n

theorem nneg_eq (k : Nat) : nneg k = -(k : Int) := by cases k <;> rfl
theorem nsub_eq (m n : Nat) : nsub m n = (m : Int) - n := by
  unfold nsub
  cases h : Nat.ble n m with
  | true => have := Nat.le_of_ble_eq_true h; show ((m - n : Nat) : Int) = _; omega
  | false =>
    have : ¬ n ≤ m := fun q => by rw [Nat.ble_eq_true_of_le q] at h; cases h
    show nneg (n - m) = _
    rw [nneg_eq]; omega
theorem iadd_eq (a b : Int) : iadd a b = a + b := by
  cases a with
  | ofNat m => cases b with
    | ofNat n => rfl
    | negSucc n => show nsub m (n + 1) = _; rw [nsub_eq]; show _ = (m : Int) + Int.negSucc n; omega
  | negSucc m => cases b with
    | ofNat n => show nsub n (m + 1) = _; rw [nsub_eq]; show _ = Int.negSucc m + (n : Int); omega
    | negSucc n => rfl
theorem ineg_eq (a : Int) : ineg a = -a := by cases a with | ofNat n => exact nneg_eq n | negSucc n => rfl
theorem isub_eq (a b : Int) : isub a b = a - b := by unfold isub; rw [iadd_eq, ineg_eq]; omega
theorem imul_eq (a b : Int) : imul a b = a * b := by
  cases a with
  | ofNat m => cases b with
    | ofNat n => rfl
    | negSucc n => show nneg (m * (n + 1)) = _; rw [nneg_eq]; show _ = (m : Int) * Int.negSucc n; rw [Int.negSucc_eq, Int.mul_neg]; rfl
  | negSucc m => cases b with
    | ofNat n => show nneg ((m + 1) * n) = _; rw [nneg_eq]; show _ = Int.negSucc m * (n : Int); rw [Int.negSucc_eq, Int.neg_mul]; rfl
    | negSucc n => rfl
theorem iabsN_eq (a : Int) : iabsN a = a.natAbs := by cases a <;> rfl
theorem iabs_eq (a : Int) : iabs a = if a < 0 then -a else a := by
  unfold iabs; rw [iabsN_eq]; show (a.natAbs : Int) = _
  split <;> omega
theorem ilt_eq (a b : Int) : ilt a b = decide (a < b) := by
  rw [Bool.eq_iff_iff, decide_eq_true_iff]
  cases a with
  | ofNat m => cases b with
    | ofNat n => show Nat.ble (m + 1) n = true ↔ (m : Int) < n; rw [Nat.ble_eq]; omega
    | negSucc n => show false = true ↔ (m : Int) < Int.negSucc n; simp; omega
  | negSucc m => cases b with
    | ofNat n => show true = true ↔ Int.negSucc m < (n : Int); simp; omega
    | negSucc n => show Nat.ble (n + 1) m = true ↔ Int.negSucc m < Int.negSucc n; rw [Nat.ble_eq]; omega
theorem ile_eq (a b : Int) : ile a b = decide (a ≤ b) := by
  rw [Bool.eq_iff_iff, decide_eq_true_iff]
  cases a with
  | ofNat m => cases b with
    | ofNat n => show Nat.ble m n = true ↔ (m : Int) ≤ n; rw [Nat.ble_eq]; omega
    | negSucc n => show false = true ↔ (m : Int) ≤ Int.negSucc n; simp; omega
  | negSucc m => cases b with
    | ofNat n => show true = true ↔ Int.negSucc m ≤ (n : Int); simp; omega
    | negSucc n => show Nat.ble n m = true ↔ Int.negSucc m ≤ Int.negSucc n; rw [Nat.ble_eq]; omega
theorem ieq_eq (a b : Int) : ieq a b = decide (a = b) := by
  rw [Bool.eq_iff_iff, decide_eq_true_iff]
  cases a with
  | ofNat m => cases b with
    | ofNat n => show Nat.beq m n = true ↔ (m : Int) = n; rw [Nat.beq_eq]; omega
    | negSucc n => show false = true ↔ (m : Int) = Int.negSucc n; simp
  | negSucc m => cases b with
    | ofNat n => show false = true ↔ Int.negSucc m = (n : Int); simp
    | negSucc n => show Nat.beq m n = true ↔ Int.negSucc m = Int.negSucc n; rw [Nat.beq_eq]; omega
theorem imax_eq (a b : Int) : imax a b = if b > a then b else a := by unfold imax; rw [bsel_eq, ilt_eq]; simp
theorem ipow_eq (a : Int) : ∀ n, ipow a n = a ^ n
  | 0 => by rw [Int.pow_zero]; rfl
  | n + 1 => by show imul (ipow a n) a = _; rw [imul_eq, ipow_eq a n, Int.pow_succ]

/-- far below BIG -/
noncomputable def KB : Nat := nat_lit 10715086071862673209484250490600018105614048117055336074437503883703510511249361224931983788156958581275946729175531468251871452856923140435984577574698574803934567774824230985421074605062371141877954182153046474983581941267398767559165543946077062914571196477686542167660429831652624386837205668069376
noncomputable def small (a : Int) : Bool := Nat.ble (iabsN a) KB
noncomputable def mulO (a b : Int) : Option Int := bsel (small a) (bsel (small b) (some (imul a b)) none) none
noncomputable def fdivN (a : Int) (k : Nat) : Int := @Int.rec (fun _ => Int) (fun m => Int.ofNat (Nat.div m k)) (fun m => Int.negSucc (Nat.div m k)) a
noncomputable def divO (a b : Int) : Option Int := @Int.rec (fun _ => Option Int) (fun n => @Nat.rec (fun _ => Option Int) none (fun k _ => bsel (Nat.ble (Nat.succ k) KB) (some (fdivN a (Nat.succ k))) none) n) (fun k => bsel (Nat.ble (Nat.succ k) KB) (some (Int.fdiv a (Int.negSucc k))) none) b
noncomputable def modO (a b : Int) : Option Int := bsel (ieq b 0) none (some (Int.fmod a b))
noncomputable def powO (a n : Int) : Option Int := @Int.rec (fun _ => Option Int) (fun k => bsel (Nat.ble k 1000) (bsel (small a) (some (ipow a k)) none) none) (fun _ => none) n
theorem small_lt {a : Int} (h : small a = true) : Nat.blt a.natAbs BIG = true := by
  unfold small at h
  rw [iabsN_eq] at h
  have h1 := Nat.le_of_ble_eq_true h
  have h2 : KB < BIG := by decide +kernel
  rw [Nat.blt_eq]; omega
theorem mulO_ok {a b r : Int} (h : mulO a b = some r) : mulOk a b = true ∧ r = a * b := by
  obtain ⟨h1, h⟩ := bsel_none h
  obtain ⟨h2, h⟩ := bsel_none h
  cases h
  exact ⟨by unfold mulOk; rw [small_lt h1, small_lt h2]; rfl, imul_eq a b⟩
theorem divO_ok {a b r : Int} (h : divO a b = some r) : divOk b = true ∧ r = a.fdiv b := by
  cases b with
  | ofNat n => cases n with
    | zero => cases h
    | succ k =>
      obtain ⟨h1, h⟩ := bsel_none h
      cases h
      refine ⟨?_, ?_⟩
      · unfold divOk
        rw [small_lt (a := Int.ofNat (k + 1)) h1]
        exact decide_eq_true (by show ((k + 1 : Nat) : Int) ≠ 0; omega)
      · cases a with
        | ofNat m => cases m with
          | zero => show Int.ofNat (0 / (k + 1)) = 0; rw [Nat.zero_div]; rfl
          | succ m => rfl
        | negSucc m => rfl
  | negSucc k =>
    obtain ⟨h1, h⟩ := bsel_none h
    cases h
    refine ⟨?_, rfl⟩
    unfold divOk
    rw [small_lt (a := Int.negSucc k) h1, decide_eq_true (p := Int.negSucc k ≠ 0) (by omega)]
    rfl
theorem modO_ok {a b r : Int} (h : modO a b = some r) : b ≠ 0 ∧ r = a.fmod b := by
  unfold modO at h
  rw [ieq_eq] at h
  by_cases q : b = 0
  · rw [decide_eq_true q] at h; cases h
  · rw [decide_eq_false q] at h; cases h; exact ⟨q, rfl⟩
theorem powO_ok {a n r : Int} (h : powO a n = some r) : powOk a n = true ∧ r = a ^ n.toNat := by
  cases n with
  | ofNat k =>
    obtain ⟨h1, h⟩ := bsel_none h
    obtain ⟨h2, h⟩ := bsel_none h
    cases h
    refine ⟨?_, ipow_eq a k⟩
    unfold powOk
    rw [small_lt h2]
    show (true && Nat.ble k 1000 && decide (0 ≤ (k : Int))) = true
    rw [h1, decide_eq_true (by omega)]; rfl
  | negSucc k => cases h

/-! lists -/
noncomputable def llen {α : Type} (l : List α) : Nat := @List.rec α (fun _ => Nat) 0 (fun _ _ ih => Nat.succ ih) l
noncomputable def ilen {α : Type} (l : List α) : Int := Int.ofNat (llen l)
noncomputable def getO {α : Type} (l : List α) (n : Nat) : Option α := @List.rec α (fun _ => Nat → Option α) (fun _ => none) (fun x _ ih n => @Nat.rec (fun _ => Option α) (some x) (fun k _ => ih k) n) l n
noncomputable def idxO {α : Type} (l : List α) (i : Int) : Option α := @Int.rec (fun _ => Option α) (fun n => getO l n) (fun k => bsel (Nat.ble (Nat.succ k) (llen l)) (getO l (Nat.sub (llen l) (Nat.succ k))) none) i
noncomputable def getI {α : Type} (l : List α) (i : Int) : Option α := @Int.rec (fun _ => Option α) (fun n => getO l n) (fun _ => none) i
noncomputable def appT {α : Type} (a b : List α) : List α := @List.rec α (fun _ => List α) b (fun x _ ih => x :: ih) a
noncomputable def appO {α : Type} (a b : List α) : Option (List α) := bsel (Nat.ble (Nat.add (llen a) (llen b)) 1000000) (some (appT a b)) none
noncomputable def repT {α : Type} (x : α) (n : Nat) : List α := @Nat.rec (fun _ => List α) [] (fun _ ih => x :: ih) n
noncomputable def repO {α : Type} (x : α) (n : Int) : Option (List α) := @Int.rec (fun _ => Option (List α)) (fun k => bsel (Nat.ble k 1000000) (some (repT x k)) none) (fun _ => none) n
noncomputable def revT {α : Type} (l : List α) : List α := @List.rec α (fun _ => List α → List α) (fun acc => acc) (fun x _ ih acc => ih (x :: acc)) l []
noncomputable def takeT {α : Type} (n : Nat) (l : List α) : List α := @List.rec α (fun _ => Nat → List α) (fun _ => []) (fun x _ ih n => @Nat.rec (fun _ => List α) [] (fun k _ => x :: ih k) n) l n
noncomputable def uptoT {α : Type} (l : List α) (n : Int) : List α := @Int.rec (fun _ => List α) (fun k => takeT k l) (fun k => takeT (Nat.sub (llen l) (Nat.succ k)) l) n
noncomputable def mapT {α β : Type} (f : α → β) (l : List α) : List β := @List.rec α (fun _ => List β) [] (fun x _ ih => f x :: ih) l
noncomputable def setT {α : Type} (l : List α) (n : Nat) (v : α) : Option (List α) := @List.rec α (fun _ => Nat → Option (List α)) (fun _ => none) (fun x r ih n => @Nat.rec (fun _ => Option (List α)) (some (v :: r)) (fun k _ => ob (ih k) fun r' => some (x :: r')) n) l n
noncomputable def setO {α : Type} (l : List α) (i : Int) (v : α) : Option (List α) := @Int.rec (fun _ => Option (List α)) (fun n => setT l n v) (fun _ => none) i
noncomputable def snocO {α : Type} (l : List α) (x : α) : Option (List α) := bsel (Nat.ble (Nat.succ (llen l)) 1000000) (some (appT l [x])) none
noncomputable def rngF (n : Nat) (s : Nat) : List Int := @Nat.rec (fun _ => Nat → List Int) (fun _ => []) (fun _ ih s => Int.ofNat s :: ih (Nat.succ s)) n s
noncomputable def rngZ (n : Nat) (a : Int) : List Int := @Nat.rec (fun _ => Int → List Int) (fun _ => []) (fun _ ih a => a :: ih (iadd a 1)) n a
noncomputable def rngD (n : Nat) (a : Int) : List Int := @Nat.rec (fun _ => Int → List Int) (fun _ => []) (fun _ ih a => a :: ih (iadd a (-1))) n a
noncomputable def enumF {α : Type} (l : List α) (s : Nat) : List (Int × α) := @List.rec α (fun _ => Nat → List (Int × α)) (fun _ => []) (fun x _ ih s => (Int.ofNat s, x) :: ih (Nat.succ s)) l s
noncomputable def maxF (l : List Int) (m : Int) : Int := @List.rec Int (fun _ => Int → Int) (fun m => m) (fun x _ ih m => ih (imax m x)) l m
noncomputable def maxO (l : List Int) : Option Int := @List.rec Int (fun _ => Option Int) none (fun x r _ => some (maxF r x)) l
noncomputable def hasI (l : List Int) (a : Int) : Bool := @List.rec Int (fun _ => Bool) false (fun x _ ih => bsel (ieq a x) true ih) l
noncomputable def nilT {α : Type} (l : List α) : Bool := @List.rec α (fun _ => Bool) true (fun _ _ _ => false) l
noncomputable def eqZ (a b : List Int) : Bool := @List.rec Int (fun _ => List Int → Bool) (fun b => nilT b) (fun x _ ih b => @List.rec Int (fun _ => Bool) false (fun y r _ => bsel (ieq x y) (ih r) false) b) a b
noncomputable def tnat (i : Int) : Nat := @Int.rec (fun _ => Nat) (fun n => n) (fun _ => 0) i
noncomputable def inLim (i : Int) : Bool := Nat.ble (iabsN i) 1000000
noncomputable def rng1O (n : Int) : Option (List Int) := bsel (inLim n) (some (rngF (tnat n) 0)) none
noncomputable def rng2O (a b : Int) : Option (List Int) := bsel (inLim a) (bsel (inLim b) (bsel (ile 0 a) (some (rngF (tnat (isub b a)) (tnat a))) none) none) none
noncomputable def rng3O (a b : Int) : Option (List Int) := bsel (ile a 400000) (bsel (ile b 400000) (bsel (ile (-1) a) (bsel (ile (-1) b) (some (rngD (tnat (isub a b)) a)) none) none) none) none
noncomputable def noneT {α : Type} (o : Option α) : Bool := @Option.rec α (fun _ => Bool) true (fun _ => false) o

theorem llen_eq {α : Type} : ∀ (l : List α), llen l = l.length
  | [] => rfl
  | x :: r => by show Nat.succ (llen r) = _; rw [llen_eq r]; rfl
theorem getO_eq {α : Type} : ∀ (l : List α) (n : Nat), getO l n = l[n]?
  | [], n => rfl
  | x :: r, 0 => rfl
  | x :: r, n + 1 => by show getO r n = _; rw [getO_eq r n]; rfl
theorem appT_eq {α : Type} (b : List α) : ∀ (a : List α), appT a b = a ++ b
  | [] => rfl
  | x :: r => by show x :: appT r b = _; rw [appT_eq b r]; rfl
theorem repT_eq {α : Type} (x : α) : ∀ n, repT x n = List.replicate n x
  | 0 => rfl
  | n + 1 => by show x :: repT x n = _; rw [repT_eq x n]; rfl
theorem revT_eq {α : Type} (l : List α) : revT l = l.reverse := by
  have : ∀ (l acc : List α), @List.rec α (fun _ => List α → List α) (fun acc => acc) (fun x _ ih acc => ih (x :: acc)) l acc = l.reverse ++ acc := by
    intro l
    induction l with
    | nil => intro acc; rfl
    | cons x r ih => intro acc; show List.rec (motive := fun _ => List α → List α) _ _ r (x :: acc) = _; rw [ih, List.reverse_cons, List.append_assoc]; rfl
  exact (this l []).trans (List.append_nil _)
theorem takeT_eq {α : Type} : ∀ (l : List α) (n : Nat), takeT n l = l.take n
  | [], n => by rw [List.take_nil]; rfl
  | x :: r, 0 => rfl
  | x :: r, n + 1 => by show x :: takeT n r = _; rw [takeT_eq r n]; rfl
theorem mapT_eq {α β : Type} (f : α → β) : ∀ (l : List α), mapT f l = l.map f
  | [] => rfl
  | x :: r => by show f x :: mapT f r = _; rw [mapT_eq f r]; rfl
theorem setT_ok {α : Type} (v : α) : ∀ (l : List α) (n : Nat) (r : List α), setT l n v = some r → n < l.length ∧ r = l.set n v
  | [], _, _, h => by cases h
  | x :: t, 0, r, h => by cases h; exact ⟨Nat.succ_pos _, rfl⟩
  | x :: t, n + 1, r, h => by
    obtain ⟨r', h1, h2⟩ := ob_some (show ob (setT t n v) (fun r' => some (x :: r')) = some r from h)
    obtain ⟨h3, rfl⟩ := setT_ok v t n r' h1
    cases h2
    exact ⟨Nat.succ_lt_succ h3, rfl⟩
theorem rngF_eq : ∀ (n s : Nat), rngF n s = (List.range n).map fun (i : Nat) => ((s + i : Nat) : Int)
  | 0, s => rfl
  | n + 1, s => by
    show Int.ofNat s :: rngF n (s + 1) = _
    rw [rngF_eq n (s + 1), List.range_succ_eq_map, List.map_cons, List.map_map]
    congr 1
    apply List.map_congr_left
    intro a _
    simp only [Function.comp]
    omega
theorem rngD_eq : ∀ (n : Nat) (a : Int), rngD n a = (List.range n).map fun (i : Nat) => a - (i : Int)
  | 0, s => rfl
  | n + 1, s => by
    show s :: rngD n (iadd s (-1)) = _
    rw [rngD_eq n _, List.range_succ_eq_map, List.map_cons, List.map_map, iadd_eq]
    congr 1
    · simp
    apply List.map_congr_left
    intro a _
    simp only [Function.comp]
    omega
theorem enumF_eq {α : Type} : ∀ (l : List α) (s : Nat), enumF l s = l.mapIdx fun i x => (((s + i : Nat) : Int), x)
  | [], s => rfl
  | x :: r, s => by
    show (Int.ofNat s, x) :: enumF r (s + 1) = _
    rw [enumF_eq r (s + 1), List.mapIdx_cons]
    congr 1
    congr 1
    funext i x
    rw [show s + 1 + i = s + (i + 1) by omega]
theorem maxF_eq : ∀ (l : List Int) (m : Int), maxF l m = l.foldl (fun m j => if j > m then j else m) m
  | [], m => rfl
  | x :: r, m => by show maxF r (imax m x) = _; rw [maxF_eq r, imax_eq]; rfl
theorem hasI_eq (a : Int) : ∀ (l : List Int), hasI l a = l.contains a
  | [] => rfl
  | x :: r => by
    show bsel (ieq a x) true (hasI r a) = _
    rw [hasI_eq a r, ieq_eq, bsel_eq, List.contains_cons]
    by_cases h : a = x
    · simp [h]
    · simp [h]
theorem nilT_eq {α : Type} (l : List α) : nilT l = l.isEmpty := by cases l <;> rfl
theorem eqZ_eq : ∀ (a b : List Int), eqZ a b = (a == b)
  | [], b => by cases b <;> rfl
  | x :: r, [] => rfl
  | x :: r, y :: t => by
    show bsel (ieq x y) (eqZ r t) false = _
    rw [eqZ_eq r t, ieq_eq, bsel_eq]
    by_cases h : x = y
    · simp [h]
    · simp [h]
theorem tnat_eq (i : Int) : tnat i = i.toNat := by cases i <;> rfl
end
end Mine
-- NB
namespace Mine
noncomputable section

/-! how typed values are kept -/
noncomputable def eI (i : Int) : V := .int i
noncomputable def eB (b : Bool) : V := .bool b
noncomputable def eT {α β : Type} (e1 : α → V) (e2 : β → V) (p : α × β) : V := .tup [e1 p.1, e2 p.2]
noncomputable def eT3 {α β γ : Type} (e1 : α → V) (e2 : β → V) (e3 : γ → V) (p : α × β × γ) : V := .tup [e1 p.1, e2 p.2.1, e3 p.2.2]
noncomputable def eL {α : Type} (e : α → V) (l : List α) : V := .lst (l.map e)
noncomputable def eO {α : Type} (e : α → V) : Option α → V
  | none => .none
  | some x => e x
noncomputable def eN (_ : Unit) : V := .none
noncomputable def eS (x : PySem.Str) : V := .str x

theorem intsOf_map : ∀ l : List Int, intsOf (l.map eI) = some l
  | [] => rfl
  | x :: r => by show (intsOf (r.map eI)).map (x :: ·) = _; rw [intsOf_map r]; rfl
theorem pairsOf_map : ∀ l : List (Int × Int), pairsOf (l.map (eT eI eI)) = some l
  | [] => rfl
  | x :: r => by show (pairsOf (r.map (eT eI eI))).map ((x.1, x.2) :: ·) = _; rw [pairsOf_map r]; rfl

noncomputable def TE (Γ : Env0) (fr : Frm) (e : E) {α : Type} (enc : α → V) (o : Option α) : Prop := ∀ d r, o = some r → evE Γ e fr d = some (enc r, d)
noncomputable def TLh (Γ : Env0) (fr : Frm) (l : EL) {α : Type} (enc : α → V) (o : Option (List α)) : Prop := ∀ d r, o = some r → evL Γ l fr d = some (r.map enc, d)
noncomputable def TI (Γ : Env0) (fr : Frm) (it : It) {α : Type} (enc : α → V) (o : Option (List α)) : Prop := ∀ d r, o = some r → evI Γ it fr d = some (r.map enc, d)
noncomputable def Con (Γ : Env0) (f : Nat) (vs : List V) {α : Type} (enc : α → V) (o : Option α) : Prop := ∀ d r, o = some r → Γ.call f vs d = some (enc r, d)
noncomputable def ConM (Γ : Env0) (f : Nat) (vs : List V) {α : Type} (enc : α → V) (l : List α) (o : Option (List α)) : Prop := ∀ d r, o = some r → Γ.muts f (l.map enc) vs d = some (r.map enc, d)

section
variable {Γ : Env0} {fr : Frm} {a b c : E} {α β γ δ ε : Type} {eα : α → V} {eβ : β → V} {eγ : γ → V} {eδ : δ → V} {d d1 d2 : Dr}

noncomputable def Sem1 (Γ : Env0) (F : E → E) {α β : Type} (eα : α → V) (eβ : β → V) (φ : α → Option β) : Prop :=
  ∀ fr a d d1 x r, evE Γ a fr d = some (eα x, d1) → φ x = some r → evE Γ (F a) fr d = some (eβ r, d1)
noncomputable def Sem2 (Γ : Env0) (F : E → E → E) {α β γ : Type} (eα : α → V) (eβ : β → V) (eγ : γ → V) (φ : α → β → Option γ) : Prop :=
  ∀ fr a b d d1 d2 x y r, evE Γ a fr d = some (eα x, d1) → evE Γ b fr d1 = some (eβ y, d2) → φ x y = some r → evE Γ (F a b) fr d = some (eγ r, d2)
theorem te1 {F : E → E} {φ : α → Option β} {oa : Option α} (h : Sem1 Γ F eα eβ φ) (ha : TE Γ fr a eα oa) : TE Γ fr (F a) eβ (ob oa fun x => φ x) := by
  intro d r e
  obtain ⟨x, e1, e2⟩ := ob_some e
  exact h _ _ _ _ _ _ (ha d x e1) e2
theorem te2 {F : E → E → E} {φ : α → β → Option γ} {oa : Option α} {o2 : Option β} (h : Sem2 Γ F eα eβ eγ φ) (ha : TE Γ fr a eα oa) (hb : TE Γ fr b eβ o2) : TE Γ fr (F a b) eγ (ob oa fun x => ob o2 fun y => φ x y) := by
  intro d r e
  obtain ⟨x, e1, e2⟩ := ob_some e
  obtain ⟨y, e3, e4⟩ := ob_some e2
  exact h _ _ _ _ _ _ _ _ _ (ha d x e1) (hb d y e3) e4

theorem ev_bin {op : BOp} {x y v : V} (h1 : evE Γ a fr d = some (x, d1)) (h2 : evE Γ b fr d1 = some (y, d2)) (h : binV op x y = some v) : evE Γ (.bin op a b) fr d = some (v, d2) :=
  (bindE h1).trans ((bindE h2).trans (bindE h))
theorem ev_cmp {op : COp} {x y : V} {t : Bool} (h1 : evE Γ a fr d = some (x, d1)) (h2 : evE Γ b fr d1 = some (y, d2)) (h : cmpV op x y = some t) : evE Γ (.cmp op a b) fr d = some (.bool t, d2) :=
  (bindE h1).trans ((bindE h2).trans (bindE h))
theorem ev_ii {op : BOp} {x y k : Int} (h1 : evE Γ a fr d = some (.int x, d1)) (h2 : evE Γ b fr d1 = some (.int y, d2)) (h : binI op x y = some k) : evE Γ (.bin op a b) fr d = some (.int k, d2) :=
  ev_bin h1 h2 ((binV_int ..).trans (congrArg (Option.map V.int) h))
theorem ev_call {f : Nat} {args : EL} {vs : List V} (h1 : evL Γ args fr d = some (vs, d1)) {r : Option (V × Dr)} (h2 : Γ.call f vs d1 = r) : evE Γ (.call f args) fr d = r := (bindE h1).trans h2
theorem ev_lst {l : EL} {vs : List V} (h : evL Γ l fr d = some (vs, d1)) : evE Γ (.lst l) fr d = some (.lst vs, d1) := bindE h
theorem ev_tup {l : EL} {vs : List V} (h : evL Γ l fr d = some (vs, d1)) : evE Γ (.tup l) fr d = some (.tup vs, d1) := bindE h
theorem ev_not {t : Bool} (h1 : evE Γ a fr d = some (.bool t, d1)) : evE Γ (.not a) fr d = some (.bool (!t), d1) := bindE h1
theorem ev_seqT {l : EL} {vs : List V} (h : evL Γ l fr d = some (vs, d1)) (hl : vs.length ≤ LIM) : evI Γ (.seq (.tup l)) fr d = some (vs, d1) := (bindE (bindE h : evE Γ (.tup l) fr d = some (.tup vs, d1))).trans (bindE (if_pos hl))
theorem evl_cons {l : EL} {x : V} {vs : List V} (h1 : evE Γ a fr d = some (x, d1)) (h2 : evL Γ l fr d1 = some (vs, d2)) : evL Γ (.cons a l) fr d = some (x :: vs, d2) := (bindE h1).trans (bindE h2)
theorem evl1 {x : V} (h1 : evE Γ a fr d = some (x, d1)) : evL Γ (.cons a .nil) fr d = some ([x], d1) := evl_cons h1 rfl
theorem evl2 {x y : V} (h1 : evE Γ a fr d = some (x, d1)) (h2 : evE Γ b fr d1 = some (y, d2)) : evL Γ (.cons a (.cons b .nil)) fr d = some ([x, y], d2) := evl_cons h1 (evl1 h2)
theorem evl3 {x y z : V} {d3 : Dr} (h1 : evE Γ a fr d = some (x, d1)) (h2 : evE Γ b fr d1 = some (y, d2)) (h3 : evE Γ c fr d2 = some (z, d3)) : evL Γ (.cons a (.cons b (.cons c .nil))) fr d = some ([x, y, z], d3) := evl_cons h1 (evl2 h2 h3)
theorem ev_max2 {x y : Int} (h1 : evE Γ a fr d = some (.int x, d1)) (h2 : evE Γ b fr d1 = some (.int y, d2)) : evE Γ (.max2 a b) fr d = some (.int (if y > x then y else x), d2) := (bindE h1).trans (bindE h2)
theorem ev_idx {l : List V} {j : Int} {v : V} (h1 : evE Γ a fr d = some (.lst l, d1)) (h2 : evE Γ b fr d1 = some (.int j, d2)) (h : idxV l j = some v) : evE Γ (.idx a b) fr d = some (v, d2) :=
  (bindE h1).trans ((bindE h2).trans (bindE h))
theorem ev_upto {l : List V} {j : Int} (h1 : evE Γ a fr d = some (.lst l, d1)) (h2 : evE Γ b fr d1 = some (.int j, d2)) : evE Γ (.upto a b) fr d = some (.lst (uptoV l j), d2) := (bindE h1).trans (bindE h2)

theorem m_add : Sem2 Γ (.bin .add) eI eI eI (fun x y => some (iadd x y)) := by
  intro fr a b d d1 d2 x y r h1 h2 h; cases h
  exact ev_bin h1 h2 (by show some (V.int (x + y)) = _; rw [iadd_eq]; rfl)
theorem m_sub : Sem2 Γ (.bin .sub) eI eI eI (fun x y => some (isub x y)) := by
  intro fr a b d d1 d2 x y r h1 h2 h; cases h
  exact ev_bin h1 h2 (by show some (V.int (x - y)) = _; rw [isub_eq]; rfl)
theorem m_mul : Sem2 Γ (.bin .mul) eI eI eI (fun x y => mulO x y) := by
  intro fr a b d d1 d2 x y r h1 h2 h
  obtain ⟨q, rfl⟩ := mulO_ok h
  exact ev_bin h1 h2 (by show (if mulOk x y then some (x * y) else none).map V.int = _; rw [if_pos q]; rfl)
theorem m_div : Sem2 Γ (.bin .div) eI eI eI (fun x y => divO x y) := by
  intro fr a b d d1 d2 x y r h1 h2 h
  obtain ⟨q, rfl⟩ := divO_ok h
  exact ev_bin h1 h2 (by show (if divOk y then some (x.fdiv y) else none).map V.int = _; rw [if_pos q]; rfl)
theorem m_mod : Sem2 Γ (.bin .mod) eI eI eI (fun x y => modO x y) := by
  intro fr a b d d1 d2 x y r h1 h2 h
  obtain ⟨q, rfl⟩ := modO_ok h
  exact ev_bin h1 h2 (by show (if y ≠ 0 then some (x.fmod y) else none).map V.int = _; rw [if_pos q]; rfl)
theorem m_pow : Sem2 Γ (.bin .pow) eI eI eI (fun x y => powO x y) := by
  intro fr a b d d1 d2 x y r h1 h2 h
  obtain ⟨q, rfl⟩ := powO_ok h
  exact ev_bin h1 h2 (by show (if powOk x y then some (x ^ y.toNat) else none).map V.int = _; rw [if_pos q]; rfl)
theorem m_addL : Sem2 Γ (.bin .add) (eL eα) (eL eα) (eL eα) (fun x y => appO x y) := by
  intro fr a b d d1 d2 x y r h1 h2 h
  obtain ⟨q, h⟩ := bsel_none h
  cases h
  have q := Nat.le_of_ble_eq_true q
  rw [llen_eq, llen_eq] at q
  refine ev_bin h1 h2 ?_
  show (if (x.map eα).length + (y.map eα).length ≤ LIM then some (V.lst (x.map eα ++ y.map eα)) else none) = _
  rw [if_pos (by rw [List.length_map, List.length_map]; exact q), ← List.map_append, ← appT_eq]
  rfl
theorem m_lt : Sem2 Γ (.cmp .lt) eI eI eB (fun x y => some (ilt x y)) := by
  intro fr a b d d1 d2 x y r h1 h2 h; cases h
  exact ev_cmp h1 h2 (by show some (decide (x < y)) = _; rw [ilt_eq])
theorem m_le : Sem2 Γ (.cmp .le) eI eI eB (fun x y => some (ile x y)) := by
  intro fr a b d d1 d2 x y r h1 h2 h; cases h
  exact ev_cmp h1 h2 (by show some (decide (x ≤ y)) = _; rw [ile_eq])
theorem m_gt : Sem2 Γ (.cmp .gt) eI eI eB (fun x y => some (ilt y x)) := by
  intro fr a b d d1 d2 x y r h1 h2 h; cases h
  exact ev_cmp h1 h2 (by show some (decide (y < x)) = _; rw [ilt_eq])
theorem m_ge : Sem2 Γ (.cmp .ge) eI eI eB (fun x y => some (ile y x)) := by
  intro fr a b d d1 d2 x y r h1 h2 h; cases h
  exact ev_cmp h1 h2 (by show some (decide (y ≤ x)) = _; rw [ile_eq])
theorem m_eq : Sem2 Γ (.cmp .eq) eI eI eB (fun x y => some (ieq x y)) := by
  intro fr a b d d1 d2 x y r h1 h2 h; cases h
  exact ev_cmp h1 h2 (by show some (x == y) = _; rw [ieq_eq]; rfl)
noncomputable def bnot (b : Bool) : Bool := bsel b false true
theorem bnot_eq (b : Bool) : bnot b = !b := by cases b <;> rfl
theorem m_ne : Sem2 Γ (.cmp .ne) eI eI eB (fun x y => some (bnot (ieq x y))) := by
  intro fr a b d d1 d2 x y r h1 h2 h; cases h
  exact ev_cmp h1 h2 (by show some (!(x == y)) = _; rw [ieq_eq, bnot_eq]; rfl)
theorem m_neB : Sem2 Γ (.cmp .ne) eB eB eB (fun x y => some (bsel x (bnot y) y)) := by
  intro fr a b d d1 d2 x y r h1 h2 h; cases h
  exact ev_cmp h1 h2 (by show some (!(x == y)) = _; cases x <;> cases y <;> rfl)
noncomputable def reqT (x y : Int × Int) : Bool := bsel (ieq x.1 y.1) (ieq x.2 y.2) false
theorem reqT_eq (x y : Int × Int) : reqT x y = (x.1 == y.1 && x.2 == y.2) := by
  unfold reqT; rw [bsel_eq, ieq_eq, ieq_eq]
  by_cases h : x.1 = y.1
  · simp [h]; rfl
  · simp [h]
theorem m_eqR : Sem2 Γ (.cmp .eq) (eT eI eI) (eT eI eI) eB (fun x y => some (reqT x y)) := by
  intro fr a b d d1 d2 x y r h1 h2 h; cases h
  exact ev_cmp h1 h2 (by show some (x.1 == y.1 && x.2 == y.2) = _; rw [reqT_eq])
theorem m_neR : Sem2 Γ (.cmp .ne) (eT eI eI) (eT eI eI) eB (fun x y => some (bnot (reqT x y))) := by
  intro fr a b d d1 d2 x y r h1 h2 h; cases h
  exact ev_cmp h1 h2 (by show some (!(x.1 == y.1 && x.2 == y.2)) = _; rw [reqT_eq, bnot_eq])
theorem m_eqZ : Sem2 Γ (.cmp .eq) (eL eI) (eL eI) eB (fun x y => some (eqZ x y)) := by
  intro fr a b d d1 d2 x y r h1 h2 h; cases h
  refine ev_cmp h1 h2 ?_
  rw [eqZ_eq]
  cases y with
  | nil =>
    show (if (pairsOf (x.map eI)).isSome || (intsOf (x.map eI)).isSome then some (x.map eI).isEmpty else none) = _
    rw [if_pos (by rw [intsOf_map]; simp)]
    cases x <;> rfl
  | cons y t =>
    have h1 := intsOf_map x
    have h2 := intsOf_map (y :: t)
    show ((intsOf (x.map eI)).bind fun u => (intsOf ((y :: t).map eI)).map fun v => u == v) = _
    rw [h1, h2]; rfl
theorem m_isin : Sem2 Γ (.cmp .isin) eI (eL eI) eB (fun x y => some (hasI y x)) := by
  intro fr a b d d1 d2 x y r h1 h2 h; cases h
  refine ev_cmp h1 h2 ?_
  show (intsOf (y.map eI)).map (fun l => l.contains x) = _
  rw [intsOf_map, hasI_eq]; rfl
theorem m_max2 : Sem2 Γ .max2 eI eI eI (fun x y => some (imax x y)) := by
  intro fr a b d d1 d2 x y r h1 h2 h; cases h
  rw [imax_eq]; exact ev_max2 h1 h2
theorem idxO_ok {l : List α} {i : Int} {r : α} (h : idxO l i = some r) : idxV (l.map eα) i = some (eα r) := by
  unfold idxV
  cases i with
  | ofNat n =>
    have h : getO l n = some r := h
    rw [getO_eq] at h
    rw [if_pos (by exact Int.natCast_nonneg n)]
    show (l.map eα)[n]? = _
    rw [List.getElem?_map, h]; rfl
  | negSucc k =>
    obtain ⟨h1, h⟩ := bsel_none h
    rw [getO_eq] at h
    have h1 := Nat.le_of_ble_eq_true h1
    rw [llen_eq] at h1 h
    rw [if_neg (by omega), if_pos (by rw [List.length_map]; omega), List.length_map]
    rw [show (Int.negSucc k + (l.length : Int)).toNat = l.length - (k + 1) by omega]
    rw [List.getElem?_map]
    rw [show l.length.sub k.succ = l.length - (k + 1) from rfl] at h
    rw [h]; rfl
theorem m_idx : Sem2 Γ .idx (eL eα) eI eα (fun l i => idxO l i) := by
  intro fr a b d d1 d2 x y r h1 h2 h
  exact ev_idx h1 h2 (idxO_ok h)
theorem m_upto : Sem2 Γ .upto (eL eα) eI (eL eα) (fun l i => some (uptoT l i)) := by
  intro fr a b d d1 d2 x y r h1 h2 h; cases h
  refine (ev_upto h1 h2).trans (congrArg (fun z => some (V.lst z, d2)) ?_)
  unfold uptoV
  cases y with
  | ofNat n =>
    rw [if_pos (by exact Int.natCast_nonneg n)]
    show (x.map eα).take n = (takeT n x).map eα
    rw [takeT_eq, List.map_take]
  | negSucc k =>
    rw [if_neg (by omega)]
    show (x.map eα).take ((x.map eα).length - (k + 1)) = (takeT (llen x - (k + 1)) x).map eα
    rw [takeT_eq, List.map_take, llen_eq, List.length_map]
/-! one part -/
theorem m_neg : Sem1 Γ .neg eI eI (fun x => some (ineg x)) := by
  intro fr a d d1 x r h1 h; cases h
  rw [ineg_eq]; exact bindE h1
theorem m_not : Sem1 Γ .not eB eB (fun x => some (bnot x)) := by
  intro fr a d d1 x r h1 h; cases h
  rw [bnot_eq]; exact bindE h1
theorem m_len : Sem1 Γ .len (eL eα) eI (fun x => some (ilen x)) := by
  intro fr a d d1 x r h1 h; cases h
  refine (bindE h1).trans ?_
  show some (V.int ((x.map eα).length : Int), d1) = _
  rw [List.length_map]; unfold ilen; rw [llen_eq]; rfl
theorem m_abs : Sem1 Γ .abs eI eI (fun x => some (iabs x)) := by
  intro fr a d d1 x r h1 h; cases h
  rw [iabs_eq]; exact bindE h1
theorem m_maxl : Sem1 Γ .maxl (eL eI) eI (fun x => maxO x) := by
  intro fr a d d1 x r h1 h
  cases x with
  | nil => cases h
  | cons i t =>
    cases h
    have := intsOf_map (i :: t)
    rw [maxF_eq]
    exact (bindE h1).trans (bindE this)
theorem m_copy : Sem1 Γ .copy (eL eα) (eL eα) (fun x => some x) := by
  intro fr a d d1 x r h1 h; cases h
  exact bindE h1
theorem m_revd : Sem1 Γ .revd (eL eα) (eL eα) (fun x => some (revT x)) := by
  intro fr a d d1 x r h1 h; cases h
  rw [revT_eq, eL, List.map_reverse]; exact bindE h1
theorem m_fst : Sem1 Γ (fun a => .idx a (.cint 0)) (eT eα eβ) eα (fun x => some x.1) := by
  intro fr a d d1 x r h1 h; cases h
  exact bindE h1
theorem m_snd : Sem1 Γ (fun a => .idx a (.cint 1)) (eT eα eβ) eβ (fun x => some x.2) := by
  intro fr a d d1 x r h1 h; cases h
  exact bindE h1
theorem cmpNil {l : List V} (h : (pairsOf l).isSome || (intsOf l).isSome) : cmpV .eq (.lst l) (.lst []) = some l.isEmpty := by
  show (if (pairsOf l).isSome || (intsOf l).isSome then some l.isEmpty else none) = _
  rw [if_pos h]
theorem isEmpty_map (l : List α) : (l.map eα).isEmpty = nilT l := by cases l <;> rfl
theorem ev_nil : evE Γ (.lst .nil) fr d = some (.lst [], d) := rfl
theorem m_eqNilI : Sem1 Γ (fun a => .cmp .eq a (.lst .nil)) (eL eI) eB (fun x => some (nilT x)) := by
  intro fr a d d1 x r h1 h; cases h
  exact ev_cmp h1 ev_nil (by rw [eL, cmpNil (by rw [intsOf_map]; simp), isEmpty_map])
theorem m_eqNilR : Sem1 Γ (fun a => .cmp .eq a (.lst .nil)) (eL (eT eI eI)) eB (fun x => some (nilT x)) := by
  intro fr a d d1 x r h1 h; cases h
  exact ev_cmp h1 ev_nil (by rw [eL, cmpNil (by rw [pairsOf_map]; simp), isEmpty_map])
theorem m_neNilI : Sem1 Γ (fun a => .cmp .ne a (.lst .nil)) (eL eI) eB (fun x => some (bnot (nilT x))) := by
  intro fr a d d1 x r h1 h; cases h
  refine ev_cmp h1 ev_nil ?_
  show (cmpV .eq (.lst (x.map eI)) (.lst [])).map (!·) = _
  rw [cmpNil (by rw [intsOf_map]; simp), isEmpty_map, bnot_eq]; rfl
noncomputable def NN {α : Type} (e : α → V) : Prop := ∀ x, (e x).isNone = false
theorem isNone_eO (h : NN eα) (o : Option α) : (eO eα o).isNone = noneT o := by cases o with | none => rfl | some x => exact h x
theorem m_isN (hn : NN eα) : Sem1 Γ (fun a => .cmp .is a .cnone) (eO eα) eB (fun x => some (noneT x)) := by
  intro fr a d d1 x r h1 h; cases h
  exact ev_cmp h1 rfl (by show some (eO eα x).isNone = _; rw [isNone_eO hn])
theorem m_notN (hn : NN eα) : Sem1 Γ (fun a => .cmp .isnot a .cnone) (eO eα) eB (fun x => some (bnot (noneT x))) := by
  intro fr a d d1 x r h1 h; cases h
  exact ev_cmp h1 rfl (by show some (!(eO eα x).isNone) = _; rw [isNone_eO hn, bnot_eq])

/-! leaves -/
theorem te_int {i : Int} : TE Γ fr (.cint i) eI (some i) := by intro d r h; cases h; rfl
theorem te_bool {i : Bool} : TE Γ fr (.cbool i) eB (some i) := by intro d r h; cases h; rfl
theorem te_str {i : PySem.Str} : TE Γ fr (.cstr i) eS (some i) := by intro d r h; cases h; rfl
theorem te_unit : TE Γ fr .cnone eN (some ()) := by intro d r h; cases h; rfl
theorem te_R0 : TE Γ fr (.glob false) (eT eI eI) (some (0, 1)) := by intro d r h; cases h; rfl
theorem te_R1 : TE Γ fr (.glob true) (eT eI eI) (some (1, 1)) := by intro d r h; cases h; rfl
theorem te_var {k : Nat} {v : α} (h : fr[k]? = some (some (false, eα v))) : TE Γ fr (.var k) eα (some v) := by intro d r q; cases q; exact bindE (by rw [h]; rfl)
theorem te_bvar {k : Nat} {v : α} {fl : Bool} (h : fr[k]? = some (some (fl, eα v))) : TE Γ fr (.bvar k) eα (some v) := by intro d r q; cases q; exact bindE (by rw [h]; rfl)
theorem te_uvar {k : Nat} {v : Option α} (h : fr[k]? = some (some (false, eO eα v))) : TE Γ fr (.var k) eα v := by intro d r q; cases q; exact bindE (by rw [h]; rfl)
theorem te_ubvar {k : Nat} {v : Option α} {fl : Bool} (h : fr[k]? = some (some (fl, eO eα v))) : TE Γ fr (.bvar k) eα v := by intro d r q; cases q; exact bindE (by rw [h]; rfl)
theorem te_none : TE Γ fr .cnone (eO eα) (some none) := by intro d r h; cases h; rfl
theorem te_some {o : Option α} (h : TE Γ fr a eα o) : TE Γ fr a (eO eα) (ob o fun x => some (some x)) := by
  intro d r e
  obtain ⟨x, e1, e2⟩ := ob_some e
  cases e2
  exact h d x e1
theorem te_some_t {x : α} (h : TE Γ fr a eα (some x)) : TE Γ fr a (eO eα) (some (some x)) := te_some h
/-! choice -/
theorem te_ite_p {oc : Option Bool} {o1 o2 : Option α} (hc : TE Γ fr c eB oc) (h1 : TE Γ fr a eα o1) (h2 : TE Γ fr b eα o2) : TE Γ fr (.ite c a b) eα (ob oc fun t => bsel t o1 o2) := by
  intro d r e
  obtain ⟨t, e1, e2⟩ := ob_some e
  refine (bindE (hc d t e1)).trans ?_
  cases t with
  | true => exact h1 d r e2
  | false => exact h2 d r e2
theorem te_ite_t {t : Bool} {o1 o2 : Option α} (hc : TE Γ fr c eB (some t)) (h1 : TE Γ fr a eα o1) (h2 : TE Γ fr b eα o2) : TE Γ fr (.ite c a b) eα (bsel t o1 o2) := te_ite_p hc h1 h2
theorem te_ite_tt {t : Bool} {x y : α} (hc : TE Γ fr c eB (some t)) (h1 : TE Γ fr a eα (some x)) (h2 : TE Γ fr b eα (some y)) : TE Γ fr (.ite c a b) eα (some (bsel t x y)) := by
  have := te_ite_p hc h1 h2
  intro d r e
  refine this d r ?_
  show bsel t (some x) (some y) = some r
  cases t <;> exact e
theorem te_and_p {o1 o2 : Option Bool} (h1 : TE Γ fr a eB o1) (h2 : TE Γ fr b eB o2) : TE Γ fr (.bop true a b) eB (ob o1 fun t => bsel t o2 (some false)) := by
  intro d r e
  obtain ⟨t, e1, e2⟩ := ob_some e
  refine (bindE (h1 d t e1)).trans ?_
  cases t with
  | true => exact h2 d r e2
  | false => cases e2; rfl
theorem te_and_t {t : Bool} {o2 : Option Bool} (h1 : TE Γ fr a eB (some t)) (h2 : TE Γ fr b eB o2) : TE Γ fr (.bop true a b) eB (bsel t o2 (some false)) := te_and_p h1 h2
theorem te_and_tt {t u : Bool} (h1 : TE Γ fr a eB (some t)) (h2 : TE Γ fr b eB (some u)) : TE Γ fr (.bop true a b) eB (some (bsel t u false)) := by
  intro d r e
  refine te_and_p h1 h2 d r ?_
  show bsel t (some u) (some false) = some r
  cases t <;> exact e
theorem te_or_p {o1 o2 : Option Bool} (h1 : TE Γ fr a eB o1) (h2 : TE Γ fr b eB o2) : TE Γ fr (.bop false a b) eB (ob o1 fun t => bsel t (some true) o2) := by
  intro d r e
  obtain ⟨t, e1, e2⟩ := ob_some e
  refine (bindE (h1 d t e1)).trans ?_
  cases t with
  | true => cases e2; rfl
  | false => exact h2 d r e2
theorem te_or_t {t : Bool} {o2 : Option Bool} (h1 : TE Γ fr a eB (some t)) (h2 : TE Γ fr b eB o2) : TE Γ fr (.bop false a b) eB (bsel t (some true) o2) := te_or_p h1 h2
theorem te_or_tt {t u : Bool} (h1 : TE Γ fr a eB (some t)) (h2 : TE Γ fr b eB (some u)) : TE Γ fr (.bop false a b) eB (some (bsel t true u)) := by
  intro d r e
  refine te_or_p h1 h2 d r ?_
  show bsel t (some true) (some u) = some r
  cases t <;> exact e
theorem te_lelt {x y z : Int} (h1 : TE Γ fr a eI (some x)) (h2 : TE Γ fr b eI (some y)) (h3 : TE Γ fr c eI (some z)) : TE Γ fr (.cmp2 .le .lt a b c) eB (some (bsel (ile x y) (ilt y z) false)) := by
  intro d r e
  cases e
  have k1 : cmpV .le (eI x) (eI y) = some (ile x y) := by rw [ile_eq]; rfl
  have k2 : cmpV .lt (eI y) (eI z) = some (ilt y z) := by rw [ilt_eq]; rfl
  refine (bindE (h1 d x rfl)).trans ((bindE (h2 d y rfl)).trans ((bindE k1).trans ?_))
  cases ile x y with
  | false => rfl
  | true => exact (bindE (h3 d z rfl)).trans (bindE k2)
/-! lists and tuples -/
theorem tl_nil : TLh Γ fr .nil eα (some []) := by intro d r h; cases h; rfl
theorem tl_cons {l : EL} {x : α} {xs : List α} (h1 : TE Γ fr a eα (some x)) (h2 : TLh Γ fr l eα (some xs)) : TLh Γ fr (.cons a l) eα (some (x :: xs)) := by
  intro d r h; cases h
  exact evl_cons (h1 d x rfl) (h2 d xs rfl)
theorem te_lst {l : EL} {o : Option (List α)} (h : TLh Γ fr l eα o) : TE Γ fr (.lst l) (eL eα) o := by
  intro d r e
  exact bindE (h d r e)
theorem m_tup2 : Sem2 Γ (fun a b => .tup (.cons a (.cons b .nil))) eα eβ (eT eα eβ) (fun x y => some (x, y)) := by
  intro fr a b d d1 d2 x y r h1 h2 h; cases h
  exact bindE (evl2 h1 h2)
theorem te_tup3_p {o1 : Option α} {o2 : Option β} {o3 : Option γ} (h1 : TE Γ fr a eα o1) (h2 : TE Γ fr b eβ o2) (h3 : TE Γ fr c eγ o3) : TE Γ fr (.tup (.cons a (.cons b (.cons c .nil)))) (eT3 eα eβ eγ) (ob o1 fun x => ob o2 fun y => ob o3 fun z => some (x, y, z)) := by
  intro d r e
  obtain ⟨x, e1, e⟩ := ob_some e
  obtain ⟨y, e2, e⟩ := ob_some e
  obtain ⟨z, e3, e⟩ := ob_some e
  cases e
  exact bindE (evl3 (h1 d x e1) (h2 d y e2) (h3 d z e3))
theorem te_tup3_t {x : α} {y : β} {z : γ} (h1 : TE Γ fr a eα (some x)) (h2 : TE Γ fr b eβ (some y)) (h3 : TE Γ fr c eγ (some z)) : TE Γ fr (.tup (.cons a (.cons b (.cons c .nil)))) (eT3 eα eβ eγ) (some (x, y, z)) := te_tup3_p h1 h2 h3
theorem m_rep {x : α} (hx : ∀ {fr}, TE Γ fr c eα (some x)) : Sem1 Γ (fun a => .bin .mul (.lst (.cons c .nil)) a) eI (eL eα) (fun n => repO x n) := by
  intro fr a d d1 n r h1 h
  cases n with
  | negSucc k => cases h
  | ofNat k =>
    obtain ⟨q, h⟩ := bsel_none h
    cases h
    have q := Nat.le_of_ble_eq_true q
    refine ev_bin (x := .lst [eα x]) (y := eI k) (d1 := d) ?_ h1 ?_
    · exact bindE (evl1 (hx d x rfl))
    · show (if 0 ≤ (k : Int) ∧ (k : Int) ≤ (LIM : Nat) then some (V.lst (List.replicate (k : Int).toNat (eα x))) else none) = _
      have : LIM = 1000000 := rfl
      rw [if_pos (by omega)]
      show some (V.lst (List.replicate k (eα x))) = some (V.lst ((repT x k).map eα))
      rw [repT_eq, List.map_replicate]
theorem te_noneIn {x y z : Option (Int × Int)} (h1 : TE Γ fr a (eO (eT eI eI)) (some x)) (h2 : TE Γ fr b (eO (eT eI eI)) (some y)) (h3 : TE Γ fr c (eO (eT eI eI)) (some z)) :
    TE Γ fr (.cmp .isin .cnone (.tup (.cons a (.cons b (.cons c .nil))))) eB (some (bsel (noneT x) true (bsel (noneT y) true (noneT z)))) := by
  intro d r e
  cases e
  refine ev_cmp (d1 := d) (x := .none) (y := .tup [eO (eT eI eI) x, eO (eT eI eI) y, eO (eT eI eI) z]) ?_ ?_ ?_
  · rfl
  · exact bindE (evl3 (h1 d x rfl) (h2 d y rfl) (h3 d z rfl))
  · cases x <;> cases y <;> cases z <;> rfl
/-! calls -/
theorem te_call1 {f : Nat} {o1 : Option α} {P : α → Option β} (hf : ∀ x, Con Γ f [eα x] eβ (P x)) (h1 : TE Γ fr a eα o1) : TE Γ fr (.call f (.cons a .nil)) eβ (ob o1 fun x => P x) := by
  intro d r e
  obtain ⟨x, e1, e⟩ := ob_some e
  exact (bindE (evl1 (h1 d x e1))).trans (hf x d r e)
theorem te_call2 {f : Nat} {o1 : Option α} {o2 : Option β} {P : α → β → Option γ} (hf : ∀ x y, Con Γ f [eα x, eβ y] eγ (P x y)) (h1 : TE Γ fr a eα o1) (h2 : TE Γ fr b eβ o2) :
    TE Γ fr (.call f (.cons a (.cons b .nil))) eγ (ob o1 fun x => ob o2 fun y => P x y) := by
  intro d r e
  obtain ⟨x, e1, e⟩ := ob_some e
  obtain ⟨y, e2, e⟩ := ob_some e
  exact (bindE (evl2 (h1 d x e1) (h2 d y e2))).trans (hf x y d r e)
theorem te_call3 {f : Nat} {o1 : Option α} {o2 : Option β} {o3 : Option γ} {P : α → β → γ → Option δ} (hf : ∀ x y z, Con Γ f [eα x, eβ y, eγ z] eδ (P x y z)) (h1 : TE Γ fr a eα o1) (h2 : TE Γ fr b eβ o2) (h3 : TE Γ fr c eγ o3) :
    TE Γ fr (.call f (.cons a (.cons b (.cons c .nil)))) eδ (ob o1 fun x => ob o2 fun y => ob o3 fun z => P x y z) := by
  intro d r e
  obtain ⟨x, e1, e⟩ := ob_some e
  obtain ⟨y, e2, e⟩ := ob_some e
  obtain ⟨z, e3, e⟩ := ob_some e
  exact (bindE (evl3 (h1 d x e1) (h2 d y e2) (h3 d z e3))).trans (hf x y z d r e)
theorem te_call1_t {f : Nat} {x : α} {o : Option β} (hf : Con Γ f [eα x] eβ o) (h1 : TE Γ fr a eα (some x)) : TE Γ fr (.call f (.cons a .nil)) eβ o := by
  intro d r e
  exact (bindE (evl1 (h1 d x rfl))).trans (hf d r e)
theorem te_call2_t {f : Nat} {x : α} {y : β} {o : Option γ} (hf : Con Γ f [eα x, eβ y] eγ o) (h1 : TE Γ fr a eα (some x)) (h2 : TE Γ fr b eβ (some y)) : TE Γ fr (.call f (.cons a (.cons b .nil))) eγ o := by
  intro d r e
  exact (bindE (evl2 (h1 d x rfl) (h2 d y rfl))).trans (hf d r e)
theorem te_call3_t {f : Nat} {x : α} {y : β} {z : γ} {o : Option δ} (hf : Con Γ f [eα x, eβ y, eγ z] eδ o) (h1 : TE Γ fr a eα (some x)) (h2 : TE Γ fr b eβ (some y)) (h3 : TE Γ fr c eγ (some z)) :
    TE Γ fr (.call f (.cons a (.cons b (.cons c .nil)))) eδ o := by
  intro d r e
  exact (bindE (evl3 (h1 d x rfl) (h2 d y rfl) (h3 d z rfl))).trans (hf d r e)

theorem te_add_pp {o1 : Option Int} {o2 : Option Int} (h1 : TE Γ fr a eI o1) (h2 : TE Γ fr b eI o2) : TE Γ fr (.bin .add a b) eI (ob o1 fun x => ob o2 fun y => some (iadd x y)) := te2 (F := fun a b => (.bin .add a b)) m_add h1 h2
theorem te_add_tp {x : Int} {o2 : Option Int} (h1 : TE Γ fr a eI (some x)) (h2 : TE Γ fr b eI o2) : TE Γ fr (.bin .add a b) eI (ob o2 fun y => some (iadd x y)) := te2 (F := fun a b => (.bin .add a b)) m_add h1 h2
theorem te_add_pt {o1 : Option Int} {y : Int} (h1 : TE Γ fr a eI o1) (h2 : TE Γ fr b eI (some y)) : TE Γ fr (.bin .add a b) eI (ob o1 fun x => some (iadd x y)) := te2 (F := fun a b => (.bin .add a b)) m_add h1 h2
theorem te_add_tt {x : Int} {y : Int} (h1 : TE Γ fr a eI (some x)) (h2 : TE Γ fr b eI (some y)) : TE Γ fr (.bin .add a b) eI (some (iadd x y)) := te2 (F := fun a b => (.bin .add a b)) m_add h1 h2
theorem te_sub_pp {o1 : Option Int} {o2 : Option Int} (h1 : TE Γ fr a eI o1) (h2 : TE Γ fr b eI o2) : TE Γ fr (.bin .sub a b) eI (ob o1 fun x => ob o2 fun y => some (isub x y)) := te2 (F := fun a b => (.bin .sub a b)) m_sub h1 h2
theorem te_sub_tp {x : Int} {o2 : Option Int} (h1 : TE Γ fr a eI (some x)) (h2 : TE Γ fr b eI o2) : TE Γ fr (.bin .sub a b) eI (ob o2 fun y => some (isub x y)) := te2 (F := fun a b => (.bin .sub a b)) m_sub h1 h2
theorem te_sub_pt {o1 : Option Int} {y : Int} (h1 : TE Γ fr a eI o1) (h2 : TE Γ fr b eI (some y)) : TE Γ fr (.bin .sub a b) eI (ob o1 fun x => some (isub x y)) := te2 (F := fun a b => (.bin .sub a b)) m_sub h1 h2
theorem te_sub_tt {x : Int} {y : Int} (h1 : TE Γ fr a eI (some x)) (h2 : TE Γ fr b eI (some y)) : TE Γ fr (.bin .sub a b) eI (some (isub x y)) := te2 (F := fun a b => (.bin .sub a b)) m_sub h1 h2
theorem te_mul_pp {o1 : Option Int} {o2 : Option Int} (h1 : TE Γ fr a eI o1) (h2 : TE Γ fr b eI o2) : TE Γ fr (.bin .mul a b) eI (ob o1 fun x => ob o2 fun y => mulO x y) := te2 (F := fun a b => (.bin .mul a b)) m_mul h1 h2
theorem te_mul_tp {x : Int} {o2 : Option Int} (h1 : TE Γ fr a eI (some x)) (h2 : TE Γ fr b eI o2) : TE Γ fr (.bin .mul a b) eI (ob o2 fun y => mulO x y) := te2 (F := fun a b => (.bin .mul a b)) m_mul h1 h2
theorem te_mul_pt {o1 : Option Int} {y : Int} (h1 : TE Γ fr a eI o1) (h2 : TE Γ fr b eI (some y)) : TE Γ fr (.bin .mul a b) eI (ob o1 fun x => mulO x y) := te2 (F := fun a b => (.bin .mul a b)) m_mul h1 h2
theorem te_mul_tt {x : Int} {y : Int} (h1 : TE Γ fr a eI (some x)) (h2 : TE Γ fr b eI (some y)) : TE Γ fr (.bin .mul a b) eI (mulO x y) := te2 (F := fun a b => (.bin .mul a b)) m_mul h1 h2
theorem te_div_pp {o1 : Option Int} {o2 : Option Int} (h1 : TE Γ fr a eI o1) (h2 : TE Γ fr b eI o2) : TE Γ fr (.bin .div a b) eI (ob o1 fun x => ob o2 fun y => divO x y) := te2 (F := fun a b => (.bin .div a b)) m_div h1 h2
theorem te_div_tp {x : Int} {o2 : Option Int} (h1 : TE Γ fr a eI (some x)) (h2 : TE Γ fr b eI o2) : TE Γ fr (.bin .div a b) eI (ob o2 fun y => divO x y) := te2 (F := fun a b => (.bin .div a b)) m_div h1 h2
theorem te_div_pt {o1 : Option Int} {y : Int} (h1 : TE Γ fr a eI o1) (h2 : TE Γ fr b eI (some y)) : TE Γ fr (.bin .div a b) eI (ob o1 fun x => divO x y) := te2 (F := fun a b => (.bin .div a b)) m_div h1 h2
theorem te_div_tt {x : Int} {y : Int} (h1 : TE Γ fr a eI (some x)) (h2 : TE Γ fr b eI (some y)) : TE Γ fr (.bin .div a b) eI (divO x y) := te2 (F := fun a b => (.bin .div a b)) m_div h1 h2
theorem te_mod_pp {o1 : Option Int} {o2 : Option Int} (h1 : TE Γ fr a eI o1) (h2 : TE Γ fr b eI o2) : TE Γ fr (.bin .mod a b) eI (ob o1 fun x => ob o2 fun y => modO x y) := te2 (F := fun a b => (.bin .mod a b)) m_mod h1 h2
theorem te_mod_tp {x : Int} {o2 : Option Int} (h1 : TE Γ fr a eI (some x)) (h2 : TE Γ fr b eI o2) : TE Γ fr (.bin .mod a b) eI (ob o2 fun y => modO x y) := te2 (F := fun a b => (.bin .mod a b)) m_mod h1 h2
theorem te_mod_pt {o1 : Option Int} {y : Int} (h1 : TE Γ fr a eI o1) (h2 : TE Γ fr b eI (some y)) : TE Γ fr (.bin .mod a b) eI (ob o1 fun x => modO x y) := te2 (F := fun a b => (.bin .mod a b)) m_mod h1 h2
theorem te_mod_tt {x : Int} {y : Int} (h1 : TE Γ fr a eI (some x)) (h2 : TE Γ fr b eI (some y)) : TE Γ fr (.bin .mod a b) eI (modO x y) := te2 (F := fun a b => (.bin .mod a b)) m_mod h1 h2
theorem te_pow_pp {o1 : Option Int} {o2 : Option Int} (h1 : TE Γ fr a eI o1) (h2 : TE Γ fr b eI o2) : TE Γ fr (.bin .pow a b) eI (ob o1 fun x => ob o2 fun y => powO x y) := te2 (F := fun a b => (.bin .pow a b)) m_pow h1 h2
theorem te_pow_tp {x : Int} {o2 : Option Int} (h1 : TE Γ fr a eI (some x)) (h2 : TE Γ fr b eI o2) : TE Γ fr (.bin .pow a b) eI (ob o2 fun y => powO x y) := te2 (F := fun a b => (.bin .pow a b)) m_pow h1 h2
theorem te_pow_pt {o1 : Option Int} {y : Int} (h1 : TE Γ fr a eI o1) (h2 : TE Γ fr b eI (some y)) : TE Γ fr (.bin .pow a b) eI (ob o1 fun x => powO x y) := te2 (F := fun a b => (.bin .pow a b)) m_pow h1 h2
theorem te_pow_tt {x : Int} {y : Int} (h1 : TE Γ fr a eI (some x)) (h2 : TE Γ fr b eI (some y)) : TE Γ fr (.bin .pow a b) eI (powO x y) := te2 (F := fun a b => (.bin .pow a b)) m_pow h1 h2
theorem te_addL_pp {o1 : Option (List α)} {o2 : Option (List α)} (h1 : TE Γ fr a (eL eα) o1) (h2 : TE Γ fr b (eL eα) o2) : TE Γ fr (.bin .add a b) (eL eα) (ob o1 fun x => ob o2 fun y => appO x y) := te2 (F := fun a b => (.bin .add a b)) m_addL h1 h2
theorem te_addL_tp {x : (List α)} {o2 : Option (List α)} (h1 : TE Γ fr a (eL eα) (some x)) (h2 : TE Γ fr b (eL eα) o2) : TE Γ fr (.bin .add a b) (eL eα) (ob o2 fun y => appO x y) := te2 (F := fun a b => (.bin .add a b)) m_addL h1 h2
theorem te_addL_pt {o1 : Option (List α)} {y : (List α)} (h1 : TE Γ fr a (eL eα) o1) (h2 : TE Γ fr b (eL eα) (some y)) : TE Γ fr (.bin .add a b) (eL eα) (ob o1 fun x => appO x y) := te2 (F := fun a b => (.bin .add a b)) m_addL h1 h2
theorem te_addL_tt {x : (List α)} {y : (List α)} (h1 : TE Γ fr a (eL eα) (some x)) (h2 : TE Γ fr b (eL eα) (some y)) : TE Γ fr (.bin .add a b) (eL eα) (appO x y) := te2 (F := fun a b => (.bin .add a b)) m_addL h1 h2
theorem te_lt_pp {o1 : Option Int} {o2 : Option Int} (h1 : TE Γ fr a eI o1) (h2 : TE Γ fr b eI o2) : TE Γ fr (.cmp .lt a b) eB (ob o1 fun x => ob o2 fun y => some (ilt x y)) := te2 (F := fun a b => (.cmp .lt a b)) m_lt h1 h2
theorem te_lt_tp {x : Int} {o2 : Option Int} (h1 : TE Γ fr a eI (some x)) (h2 : TE Γ fr b eI o2) : TE Γ fr (.cmp .lt a b) eB (ob o2 fun y => some (ilt x y)) := te2 (F := fun a b => (.cmp .lt a b)) m_lt h1 h2
theorem te_lt_pt {o1 : Option Int} {y : Int} (h1 : TE Γ fr a eI o1) (h2 : TE Γ fr b eI (some y)) : TE Γ fr (.cmp .lt a b) eB (ob o1 fun x => some (ilt x y)) := te2 (F := fun a b => (.cmp .lt a b)) m_lt h1 h2
theorem te_lt_tt {x : Int} {y : Int} (h1 : TE Γ fr a eI (some x)) (h2 : TE Γ fr b eI (some y)) : TE Γ fr (.cmp .lt a b) eB (some (ilt x y)) := te2 (F := fun a b => (.cmp .lt a b)) m_lt h1 h2
theorem te_le_pp {o1 : Option Int} {o2 : Option Int} (h1 : TE Γ fr a eI o1) (h2 : TE Γ fr b eI o2) : TE Γ fr (.cmp .le a b) eB (ob o1 fun x => ob o2 fun y => some (ile x y)) := te2 (F := fun a b => (.cmp .le a b)) m_le h1 h2
theorem te_le_tp {x : Int} {o2 : Option Int} (h1 : TE Γ fr a eI (some x)) (h2 : TE Γ fr b eI o2) : TE Γ fr (.cmp .le a b) eB (ob o2 fun y => some (ile x y)) := te2 (F := fun a b => (.cmp .le a b)) m_le h1 h2
theorem te_le_pt {o1 : Option Int} {y : Int} (h1 : TE Γ fr a eI o1) (h2 : TE Γ fr b eI (some y)) : TE Γ fr (.cmp .le a b) eB (ob o1 fun x => some (ile x y)) := te2 (F := fun a b => (.cmp .le a b)) m_le h1 h2
theorem te_le_tt {x : Int} {y : Int} (h1 : TE Γ fr a eI (some x)) (h2 : TE Γ fr b eI (some y)) : TE Γ fr (.cmp .le a b) eB (some (ile x y)) := te2 (F := fun a b => (.cmp .le a b)) m_le h1 h2
theorem te_gt_pp {o1 : Option Int} {o2 : Option Int} (h1 : TE Γ fr a eI o1) (h2 : TE Γ fr b eI o2) : TE Γ fr (.cmp .gt a b) eB (ob o1 fun x => ob o2 fun y => some (ilt y x)) := te2 (F := fun a b => (.cmp .gt a b)) m_gt h1 h2
theorem te_gt_tp {x : Int} {o2 : Option Int} (h1 : TE Γ fr a eI (some x)) (h2 : TE Γ fr b eI o2) : TE Γ fr (.cmp .gt a b) eB (ob o2 fun y => some (ilt y x)) := te2 (F := fun a b => (.cmp .gt a b)) m_gt h1 h2
theorem te_gt_pt {o1 : Option Int} {y : Int} (h1 : TE Γ fr a eI o1) (h2 : TE Γ fr b eI (some y)) : TE Γ fr (.cmp .gt a b) eB (ob o1 fun x => some (ilt y x)) := te2 (F := fun a b => (.cmp .gt a b)) m_gt h1 h2
theorem te_gt_tt {x : Int} {y : Int} (h1 : TE Γ fr a eI (some x)) (h2 : TE Γ fr b eI (some y)) : TE Γ fr (.cmp .gt a b) eB (some (ilt y x)) := te2 (F := fun a b => (.cmp .gt a b)) m_gt h1 h2
theorem te_ge_pp {o1 : Option Int} {o2 : Option Int} (h1 : TE Γ fr a eI o1) (h2 : TE Γ fr b eI o2) : TE Γ fr (.cmp .ge a b) eB (ob o1 fun x => ob o2 fun y => some (ile y x)) := te2 (F := fun a b => (.cmp .ge a b)) m_ge h1 h2
theorem te_ge_tp {x : Int} {o2 : Option Int} (h1 : TE Γ fr a eI (some x)) (h2 : TE Γ fr b eI o2) : TE Γ fr (.cmp .ge a b) eB (ob o2 fun y => some (ile y x)) := te2 (F := fun a b => (.cmp .ge a b)) m_ge h1 h2
theorem te_ge_pt {o1 : Option Int} {y : Int} (h1 : TE Γ fr a eI o1) (h2 : TE Γ fr b eI (some y)) : TE Γ fr (.cmp .ge a b) eB (ob o1 fun x => some (ile y x)) := te2 (F := fun a b => (.cmp .ge a b)) m_ge h1 h2
theorem te_ge_tt {x : Int} {y : Int} (h1 : TE Γ fr a eI (some x)) (h2 : TE Γ fr b eI (some y)) : TE Γ fr (.cmp .ge a b) eB (some (ile y x)) := te2 (F := fun a b => (.cmp .ge a b)) m_ge h1 h2
theorem te_eq_pp {o1 : Option Int} {o2 : Option Int} (h1 : TE Γ fr a eI o1) (h2 : TE Γ fr b eI o2) : TE Γ fr (.cmp .eq a b) eB (ob o1 fun x => ob o2 fun y => some (ieq x y)) := te2 (F := fun a b => (.cmp .eq a b)) m_eq h1 h2
theorem te_eq_tp {x : Int} {o2 : Option Int} (h1 : TE Γ fr a eI (some x)) (h2 : TE Γ fr b eI o2) : TE Γ fr (.cmp .eq a b) eB (ob o2 fun y => some (ieq x y)) := te2 (F := fun a b => (.cmp .eq a b)) m_eq h1 h2
theorem te_eq_pt {o1 : Option Int} {y : Int} (h1 : TE Γ fr a eI o1) (h2 : TE Γ fr b eI (some y)) : TE Γ fr (.cmp .eq a b) eB (ob o1 fun x => some (ieq x y)) := te2 (F := fun a b => (.cmp .eq a b)) m_eq h1 h2
theorem te_eq_tt {x : Int} {y : Int} (h1 : TE Γ fr a eI (some x)) (h2 : TE Γ fr b eI (some y)) : TE Γ fr (.cmp .eq a b) eB (some (ieq x y)) := te2 (F := fun a b => (.cmp .eq a b)) m_eq h1 h2
theorem te_ne_pp {o1 : Option Int} {o2 : Option Int} (h1 : TE Γ fr a eI o1) (h2 : TE Γ fr b eI o2) : TE Γ fr (.cmp .ne a b) eB (ob o1 fun x => ob o2 fun y => some (bnot (ieq x y))) := te2 (F := fun a b => (.cmp .ne a b)) m_ne h1 h2
theorem te_ne_tp {x : Int} {o2 : Option Int} (h1 : TE Γ fr a eI (some x)) (h2 : TE Γ fr b eI o2) : TE Γ fr (.cmp .ne a b) eB (ob o2 fun y => some (bnot (ieq x y))) := te2 (F := fun a b => (.cmp .ne a b)) m_ne h1 h2
theorem te_ne_pt {o1 : Option Int} {y : Int} (h1 : TE Γ fr a eI o1) (h2 : TE Γ fr b eI (some y)) : TE Γ fr (.cmp .ne a b) eB (ob o1 fun x => some (bnot (ieq x y))) := te2 (F := fun a b => (.cmp .ne a b)) m_ne h1 h2
theorem te_ne_tt {x : Int} {y : Int} (h1 : TE Γ fr a eI (some x)) (h2 : TE Γ fr b eI (some y)) : TE Γ fr (.cmp .ne a b) eB (some (bnot (ieq x y))) := te2 (F := fun a b => (.cmp .ne a b)) m_ne h1 h2
theorem te_neB_pp {o1 : Option Bool} {o2 : Option Bool} (h1 : TE Γ fr a eB o1) (h2 : TE Γ fr b eB o2) : TE Γ fr (.cmp .ne a b) eB (ob o1 fun x => ob o2 fun y => some (bsel x (bnot y) y)) := te2 (F := fun a b => (.cmp .ne a b)) m_neB h1 h2
theorem te_neB_tp {x : Bool} {o2 : Option Bool} (h1 : TE Γ fr a eB (some x)) (h2 : TE Γ fr b eB o2) : TE Γ fr (.cmp .ne a b) eB (ob o2 fun y => some (bsel x (bnot y) y)) := te2 (F := fun a b => (.cmp .ne a b)) m_neB h1 h2
theorem te_neB_pt {o1 : Option Bool} {y : Bool} (h1 : TE Γ fr a eB o1) (h2 : TE Γ fr b eB (some y)) : TE Γ fr (.cmp .ne a b) eB (ob o1 fun x => some (bsel x (bnot y) y)) := te2 (F := fun a b => (.cmp .ne a b)) m_neB h1 h2
theorem te_neB_tt {x : Bool} {y : Bool} (h1 : TE Γ fr a eB (some x)) (h2 : TE Γ fr b eB (some y)) : TE Γ fr (.cmp .ne a b) eB (some (bsel x (bnot y) y)) := te2 (F := fun a b => (.cmp .ne a b)) m_neB h1 h2
theorem te_eqR_pp {o1 : Option (Int × Int)} {o2 : Option (Int × Int)} (h1 : TE Γ fr a (eT eI eI) o1) (h2 : TE Γ fr b (eT eI eI) o2) : TE Γ fr (.cmp .eq a b) eB (ob o1 fun x => ob o2 fun y => some (reqT x y)) := te2 (F := fun a b => (.cmp .eq a b)) m_eqR h1 h2
theorem te_eqR_tp {x : (Int × Int)} {o2 : Option (Int × Int)} (h1 : TE Γ fr a (eT eI eI) (some x)) (h2 : TE Γ fr b (eT eI eI) o2) : TE Γ fr (.cmp .eq a b) eB (ob o2 fun y => some (reqT x y)) := te2 (F := fun a b => (.cmp .eq a b)) m_eqR h1 h2
theorem te_eqR_pt {o1 : Option (Int × Int)} {y : (Int × Int)} (h1 : TE Γ fr a (eT eI eI) o1) (h2 : TE Γ fr b (eT eI eI) (some y)) : TE Γ fr (.cmp .eq a b) eB (ob o1 fun x => some (reqT x y)) := te2 (F := fun a b => (.cmp .eq a b)) m_eqR h1 h2
theorem te_eqR_tt {x : (Int × Int)} {y : (Int × Int)} (h1 : TE Γ fr a (eT eI eI) (some x)) (h2 : TE Γ fr b (eT eI eI) (some y)) : TE Γ fr (.cmp .eq a b) eB (some (reqT x y)) := te2 (F := fun a b => (.cmp .eq a b)) m_eqR h1 h2
theorem te_neR_pp {o1 : Option (Int × Int)} {o2 : Option (Int × Int)} (h1 : TE Γ fr a (eT eI eI) o1) (h2 : TE Γ fr b (eT eI eI) o2) : TE Γ fr (.cmp .ne a b) eB (ob o1 fun x => ob o2 fun y => some (bnot (reqT x y))) := te2 (F := fun a b => (.cmp .ne a b)) m_neR h1 h2
theorem te_neR_tp {x : (Int × Int)} {o2 : Option (Int × Int)} (h1 : TE Γ fr a (eT eI eI) (some x)) (h2 : TE Γ fr b (eT eI eI) o2) : TE Γ fr (.cmp .ne a b) eB (ob o2 fun y => some (bnot (reqT x y))) := te2 (F := fun a b => (.cmp .ne a b)) m_neR h1 h2
theorem te_neR_pt {o1 : Option (Int × Int)} {y : (Int × Int)} (h1 : TE Γ fr a (eT eI eI) o1) (h2 : TE Γ fr b (eT eI eI) (some y)) : TE Γ fr (.cmp .ne a b) eB (ob o1 fun x => some (bnot (reqT x y))) := te2 (F := fun a b => (.cmp .ne a b)) m_neR h1 h2
theorem te_neR_tt {x : (Int × Int)} {y : (Int × Int)} (h1 : TE Γ fr a (eT eI eI) (some x)) (h2 : TE Γ fr b (eT eI eI) (some y)) : TE Γ fr (.cmp .ne a b) eB (some (bnot (reqT x y))) := te2 (F := fun a b => (.cmp .ne a b)) m_neR h1 h2
theorem te_eqZ_pp {o1 : Option (List Int)} {o2 : Option (List Int)} (h1 : TE Γ fr a (eL eI) o1) (h2 : TE Γ fr b (eL eI) o2) : TE Γ fr (.cmp .eq a b) eB (ob o1 fun x => ob o2 fun y => some (eqZ x y)) := te2 (F := fun a b => (.cmp .eq a b)) m_eqZ h1 h2
theorem te_eqZ_tp {x : (List Int)} {o2 : Option (List Int)} (h1 : TE Γ fr a (eL eI) (some x)) (h2 : TE Γ fr b (eL eI) o2) : TE Γ fr (.cmp .eq a b) eB (ob o2 fun y => some (eqZ x y)) := te2 (F := fun a b => (.cmp .eq a b)) m_eqZ h1 h2
theorem te_eqZ_pt {o1 : Option (List Int)} {y : (List Int)} (h1 : TE Γ fr a (eL eI) o1) (h2 : TE Γ fr b (eL eI) (some y)) : TE Γ fr (.cmp .eq a b) eB (ob o1 fun x => some (eqZ x y)) := te2 (F := fun a b => (.cmp .eq a b)) m_eqZ h1 h2
theorem te_eqZ_tt {x : (List Int)} {y : (List Int)} (h1 : TE Γ fr a (eL eI) (some x)) (h2 : TE Γ fr b (eL eI) (some y)) : TE Γ fr (.cmp .eq a b) eB (some (eqZ x y)) := te2 (F := fun a b => (.cmp .eq a b)) m_eqZ h1 h2
theorem te_isin_pp {o1 : Option Int} {o2 : Option (List Int)} (h1 : TE Γ fr a eI o1) (h2 : TE Γ fr b (eL eI) o2) : TE Γ fr (.cmp .isin a b) eB (ob o1 fun x => ob o2 fun y => some (hasI y x)) := te2 (F := fun a b => (.cmp .isin a b)) m_isin h1 h2
theorem te_isin_tp {x : Int} {o2 : Option (List Int)} (h1 : TE Γ fr a eI (some x)) (h2 : TE Γ fr b (eL eI) o2) : TE Γ fr (.cmp .isin a b) eB (ob o2 fun y => some (hasI y x)) := te2 (F := fun a b => (.cmp .isin a b)) m_isin h1 h2
theorem te_isin_pt {o1 : Option Int} {y : (List Int)} (h1 : TE Γ fr a eI o1) (h2 : TE Γ fr b (eL eI) (some y)) : TE Γ fr (.cmp .isin a b) eB (ob o1 fun x => some (hasI y x)) := te2 (F := fun a b => (.cmp .isin a b)) m_isin h1 h2
theorem te_isin_tt {x : Int} {y : (List Int)} (h1 : TE Γ fr a eI (some x)) (h2 : TE Γ fr b (eL eI) (some y)) : TE Γ fr (.cmp .isin a b) eB (some (hasI y x)) := te2 (F := fun a b => (.cmp .isin a b)) m_isin h1 h2
theorem te_max2_pp {o1 : Option Int} {o2 : Option Int} (h1 : TE Γ fr a eI o1) (h2 : TE Γ fr b eI o2) : TE Γ fr (.max2 a b) eI (ob o1 fun x => ob o2 fun y => some (imax x y)) := te2 (F := fun a b => (.max2 a b)) m_max2 h1 h2
theorem te_max2_tp {x : Int} {o2 : Option Int} (h1 : TE Γ fr a eI (some x)) (h2 : TE Γ fr b eI o2) : TE Γ fr (.max2 a b) eI (ob o2 fun y => some (imax x y)) := te2 (F := fun a b => (.max2 a b)) m_max2 h1 h2
theorem te_max2_pt {o1 : Option Int} {y : Int} (h1 : TE Γ fr a eI o1) (h2 : TE Γ fr b eI (some y)) : TE Γ fr (.max2 a b) eI (ob o1 fun x => some (imax x y)) := te2 (F := fun a b => (.max2 a b)) m_max2 h1 h2
theorem te_max2_tt {x : Int} {y : Int} (h1 : TE Γ fr a eI (some x)) (h2 : TE Γ fr b eI (some y)) : TE Γ fr (.max2 a b) eI (some (imax x y)) := te2 (F := fun a b => (.max2 a b)) m_max2 h1 h2
theorem te_idx_pp {o1 : Option (List α)} {o2 : Option Int} (h1 : TE Γ fr a (eL eα) o1) (h2 : TE Γ fr b eI o2) : TE Γ fr (.idx a b) eα (ob o1 fun x => ob o2 fun y => idxO x y) := te2 (F := fun a b => (.idx a b)) m_idx h1 h2
theorem te_idx_tp {x : (List α)} {o2 : Option Int} (h1 : TE Γ fr a (eL eα) (some x)) (h2 : TE Γ fr b eI o2) : TE Γ fr (.idx a b) eα (ob o2 fun y => idxO x y) := te2 (F := fun a b => (.idx a b)) m_idx h1 h2
theorem te_idx_pt {o1 : Option (List α)} {y : Int} (h1 : TE Γ fr a (eL eα) o1) (h2 : TE Γ fr b eI (some y)) : TE Γ fr (.idx a b) eα (ob o1 fun x => idxO x y) := te2 (F := fun a b => (.idx a b)) m_idx h1 h2
theorem te_idx_tt {x : (List α)} {y : Int} (h1 : TE Γ fr a (eL eα) (some x)) (h2 : TE Γ fr b eI (some y)) : TE Γ fr (.idx a b) eα (idxO x y) := te2 (F := fun a b => (.idx a b)) m_idx h1 h2
theorem te_upto_pp {o1 : Option (List α)} {o2 : Option Int} (h1 : TE Γ fr a (eL eα) o1) (h2 : TE Γ fr b eI o2) : TE Γ fr (.upto a b) (eL eα) (ob o1 fun x => ob o2 fun y => some (uptoT x y)) := te2 (F := fun a b => (.upto a b)) m_upto h1 h2
theorem te_upto_tp {x : (List α)} {o2 : Option Int} (h1 : TE Γ fr a (eL eα) (some x)) (h2 : TE Γ fr b eI o2) : TE Γ fr (.upto a b) (eL eα) (ob o2 fun y => some (uptoT x y)) := te2 (F := fun a b => (.upto a b)) m_upto h1 h2
theorem te_upto_pt {o1 : Option (List α)} {y : Int} (h1 : TE Γ fr a (eL eα) o1) (h2 : TE Γ fr b eI (some y)) : TE Γ fr (.upto a b) (eL eα) (ob o1 fun x => some (uptoT x y)) := te2 (F := fun a b => (.upto a b)) m_upto h1 h2
theorem te_upto_tt {x : (List α)} {y : Int} (h1 : TE Γ fr a (eL eα) (some x)) (h2 : TE Γ fr b eI (some y)) : TE Γ fr (.upto a b) (eL eα) (some (uptoT x y)) := te2 (F := fun a b => (.upto a b)) m_upto h1 h2
theorem te_tup2_pp {o1 : Option α} {o2 : Option β} (h1 : TE Γ fr a eα o1) (h2 : TE Γ fr b eβ o2) : TE Γ fr (.tup (.cons a (.cons b .nil))) (eT eα eβ) (ob o1 fun x => ob o2 fun y => some (x, y)) := te2 (F := fun a b => (.tup (.cons a (.cons b .nil)))) m_tup2 h1 h2
theorem te_tup2_tp {x : α} {o2 : Option β} (h1 : TE Γ fr a eα (some x)) (h2 : TE Γ fr b eβ o2) : TE Γ fr (.tup (.cons a (.cons b .nil))) (eT eα eβ) (ob o2 fun y => some (x, y)) := te2 (F := fun a b => (.tup (.cons a (.cons b .nil)))) m_tup2 h1 h2
theorem te_tup2_pt {o1 : Option α} {y : β} (h1 : TE Γ fr a eα o1) (h2 : TE Γ fr b eβ (some y)) : TE Γ fr (.tup (.cons a (.cons b .nil))) (eT eα eβ) (ob o1 fun x => some (x, y)) := te2 (F := fun a b => (.tup (.cons a (.cons b .nil)))) m_tup2 h1 h2
theorem te_tup2_tt {x : α} {y : β} (h1 : TE Γ fr a eα (some x)) (h2 : TE Γ fr b eβ (some y)) : TE Γ fr (.tup (.cons a (.cons b .nil))) (eT eα eβ) (some (x, y)) := te2 (F := fun a b => (.tup (.cons a (.cons b .nil)))) m_tup2 h1 h2
theorem te_neg_p {o1 : Option Int} (h1 : TE Γ fr a eI o1) : TE Γ fr (.neg a) eI (ob o1 fun x => some (ineg x)) := te1 (F := fun a => .neg a) m_neg h1
theorem te_neg_t {x : Int} (h1 : TE Γ fr a eI (some x)) : TE Γ fr (.neg a) eI (some (ineg x)) := te1 (F := fun a => .neg a) m_neg h1
theorem te_not_p {o1 : Option Bool} (h1 : TE Γ fr a eB o1) : TE Γ fr (.not a) eB (ob o1 fun x => some (bnot x)) := te1 (F := fun a => .not a) m_not h1
theorem te_not_t {x : Bool} (h1 : TE Γ fr a eB (some x)) : TE Γ fr (.not a) eB (some (bnot x)) := te1 (F := fun a => .not a) m_not h1
theorem te_len_p {o1 : Option (List α)} (h1 : TE Γ fr a (eL eα) o1) : TE Γ fr (.len a) eI (ob o1 fun x => some (ilen x)) := te1 (F := fun a => .len a) m_len h1
theorem te_len_t {x : (List α)} (h1 : TE Γ fr a (eL eα) (some x)) : TE Γ fr (.len a) eI (some (ilen x)) := te1 (F := fun a => .len a) m_len h1
theorem te_abs_p {o1 : Option Int} (h1 : TE Γ fr a eI o1) : TE Γ fr (.abs a) eI (ob o1 fun x => some (iabs x)) := te1 (F := fun a => .abs a) m_abs h1
theorem te_abs_t {x : Int} (h1 : TE Γ fr a eI (some x)) : TE Γ fr (.abs a) eI (some (iabs x)) := te1 (F := fun a => .abs a) m_abs h1
theorem te_maxl_p {o1 : Option (List Int)} (h1 : TE Γ fr a (eL eI) o1) : TE Γ fr (.maxl a) eI (ob o1 fun x => maxO x) := te1 (F := fun a => .maxl a) m_maxl h1
theorem te_maxl_t {x : (List Int)} (h1 : TE Γ fr a (eL eI) (some x)) : TE Γ fr (.maxl a) eI (maxO x) := te1 (F := fun a => .maxl a) m_maxl h1
theorem te_copy_p {o1 : Option (List α)} (h1 : TE Γ fr a (eL eα) o1) : TE Γ fr (.copy a) (eL eα) (ob o1 fun x => some x) := te1 (F := fun a => .copy a) m_copy h1
theorem te_copy_t {x : (List α)} (h1 : TE Γ fr a (eL eα) (some x)) : TE Γ fr (.copy a) (eL eα) (some x) := te1 (F := fun a => .copy a) m_copy h1
theorem te_revd_p {o1 : Option (List α)} (h1 : TE Γ fr a (eL eα) o1) : TE Γ fr (.revd a) (eL eα) (ob o1 fun x => some (revT x)) := te1 (F := fun a => .revd a) m_revd h1
theorem te_revd_t {x : (List α)} (h1 : TE Γ fr a (eL eα) (some x)) : TE Γ fr (.revd a) (eL eα) (some (revT x)) := te1 (F := fun a => .revd a) m_revd h1
theorem te_fst_p {o1 : Option (α × β)} (h1 : TE Γ fr a (eT eα eβ) o1) : TE Γ fr (.idx a (.cint 0)) eα (ob o1 fun x => some x.1) := te1 (F := fun a => .idx a (.cint 0)) m_fst h1
theorem te_fst_t {x : (α × β)} (h1 : TE Γ fr a (eT eα eβ) (some x)) : TE Γ fr (.idx a (.cint 0)) eα (some x.1) := te1 (F := fun a => .idx a (.cint 0)) m_fst h1
theorem te_snd_p {o1 : Option (α × β)} (h1 : TE Γ fr a (eT eα eβ) o1) : TE Γ fr (.idx a (.cint 1)) eβ (ob o1 fun x => some x.2) := te1 (F := fun a => .idx a (.cint 1)) m_snd h1
theorem te_snd_t {x : (α × β)} (h1 : TE Γ fr a (eT eα eβ) (some x)) : TE Γ fr (.idx a (.cint 1)) eβ (some x.2) := te1 (F := fun a => .idx a (.cint 1)) m_snd h1
theorem te_eqNilI_p {o1 : Option (List Int)} (h1 : TE Γ fr a (eL eI) o1) : TE Γ fr (.cmp .eq a (.lst .nil)) eB (ob o1 fun x => some (nilT x)) := te1 (F := fun a => .cmp .eq a (.lst .nil)) m_eqNilI h1
theorem te_eqNilI_t {x : (List Int)} (h1 : TE Γ fr a (eL eI) (some x)) : TE Γ fr (.cmp .eq a (.lst .nil)) eB (some (nilT x)) := te1 (F := fun a => .cmp .eq a (.lst .nil)) m_eqNilI h1
theorem te_eqNilR_p {o1 : Option (List (Int × Int))} (h1 : TE Γ fr a (eL (eT eI eI)) o1) : TE Γ fr (.cmp .eq a (.lst .nil)) eB (ob o1 fun x => some (nilT x)) := te1 (F := fun a => .cmp .eq a (.lst .nil)) m_eqNilR h1
theorem te_eqNilR_t {x : (List (Int × Int))} (h1 : TE Γ fr a (eL (eT eI eI)) (some x)) : TE Γ fr (.cmp .eq a (.lst .nil)) eB (some (nilT x)) := te1 (F := fun a => .cmp .eq a (.lst .nil)) m_eqNilR h1
theorem te_neNilI_p {o1 : Option (List Int)} (h1 : TE Γ fr a (eL eI) o1) : TE Γ fr (.cmp .ne a (.lst .nil)) eB (ob o1 fun x => some (bnot (nilT x))) := te1 (F := fun a => .cmp .ne a (.lst .nil)) m_neNilI h1
theorem te_neNilI_t {x : (List Int)} (h1 : TE Γ fr a (eL eI) (some x)) : TE Γ fr (.cmp .ne a (.lst .nil)) eB (some (bnot (nilT x))) := te1 (F := fun a => .cmp .ne a (.lst .nil)) m_neNilI h1
theorem te_isN_p (hn : NN eα) {o1 : Option (Option α)} (h1 : TE Γ fr a (eO eα) o1) : TE Γ fr (.cmp .is a .cnone) eB (ob o1 fun x => some (noneT x)) := te1 (F := fun a => .cmp .is a .cnone) (m_isN hn) h1
theorem te_isN_t (hn : NN eα) {x : (Option α)} (h1 : TE Γ fr a (eO eα) (some x)) : TE Γ fr (.cmp .is a .cnone) eB (some (noneT x)) := te1 (F := fun a => .cmp .is a .cnone) (m_isN hn) h1
theorem te_notN_p (hn : NN eα) {o1 : Option (Option α)} (h1 : TE Γ fr a (eO eα) o1) : TE Γ fr (.cmp .isnot a .cnone) eB (ob o1 fun x => some (bnot (noneT x))) := te1 (F := fun a => .cmp .isnot a .cnone) (m_notN hn) h1
theorem te_notN_t (hn : NN eα) {x : (Option α)} (h1 : TE Γ fr a (eO eα) (some x)) : TE Γ fr (.cmp .isnot a .cnone) eB (some (bnot (noneT x))) := te1 (F := fun a => .cmp .isnot a .cnone) (m_notN hn) h1
theorem te_rep_p {z : α} (hz : ∀ {fr}, TE Γ fr c eα (some z)) {o1 : Option Int} (h1 : TE Γ fr a eI o1) : TE Γ fr (.bin .mul (.lst (.cons c .nil)) a) (eL eα) (ob o1 fun x => repO z x) := te1 (F := fun a => .bin .mul (.lst (.cons c .nil)) a) (m_rep hz) h1
theorem te_rep_t {z : α} (hz : ∀ {fr}, TE Γ fr c eα (some z)) {x : Int} (h1 : TE Γ fr a eI (some x)) : TE Γ fr (.bin .mul (.lst (.cons c .nil)) a) (eL eα) (repO z x) := te1 (F := fun a => .bin .mul (.lst (.cons c .nil)) a) (m_rep hz) h1
end
end
end Mine
-- NC
namespace Mine
noncomputable section
section
variable {Γ : Env0} {fr : Frm} {a b c : E} {α β γ δ ε : Type} {eα : α → V} {eβ : β → V} {eγ : γ → V} {eδ : δ → V} {d d1 d2 : Dr}

theorem tl_cons_p {l : EL} {oa : Option α} {xs : List α} (h1 : TE Γ fr a eα oa) (h2 : TLh Γ fr l eα (some xs)) : TLh Γ fr (.cons a l) eα (ob oa fun x => some (x :: xs)) := by
  intro d r h
  obtain ⟨x, e1, e⟩ := ob_some h
  cases e
  exact evl_cons (h1 d x e1) (h2 d xs rfl)
/-! iterators -/
theorem ti_seq {o : Option (List α)} (h : TE Γ fr a (eL eα) o) : TI Γ fr (.seq a) eα o := by
  intro d r e
  exact bindE (h d r e)
theorem ti_rev {o : Option (List α)} (h : TE Γ fr a (eL eα) o) : TI Γ fr (.rev a) eα (ob o fun l => some (revT l)) := by
  intro d r e
  obtain ⟨l, e1, e⟩ := ob_some e
  cases e
  rw [revT_eq, List.map_reverse]; exact bindE (h d l e1)
theorem inLim_ok {i : Int} (h : inLim i = true) : -(LIM : Int) ≤ i ∧ i ≤ (LIM : Int) := by
  have h := Nat.le_of_ble_eq_true h
  rw [iabsN_eq] at h
  have : LIM = 1000000 := rfl
  omega
theorem ti_rng1 {o : Option Int} (h : TE Γ fr a eI o) : TI Γ fr (.rng1 a) eI (ob o fun n => rng1O n) := by
  intro d r e
  obtain ⟨n, e1, e⟩ := ob_some e
  obtain ⟨e2, e⟩ := bsel_none e
  cases e
  refine (bindE (h d n e1)).trans ?_
  show (if -(LIM : Int) ≤ n ∧ n ≤ (LIM : Int) then _ else none) = _
  rw [if_pos (inLim_ok e2), rngF_eq, tnat_eq, List.map_map]
  exact congrArg (fun z => some (z, d)) (List.map_congr_left fun i _ => by show V.int i = V.int ((0 + i : Nat) : Int); rw [Nat.zero_add])
theorem ti_rng2 {o1 o2 : Option Int} (h1 : TE Γ fr a eI o1) (h2 : TE Γ fr b eI o2) : TI Γ fr (.rng2 a b) eI (ob o1 fun x => ob o2 fun y => rng2O x y) := by
  intro d r e
  obtain ⟨x, e1, e⟩ := ob_some e
  obtain ⟨y, e2, e⟩ := ob_some e
  obtain ⟨q1, e⟩ := bsel_none e
  obtain ⟨q2, e⟩ := bsel_none e
  obtain ⟨q3, e⟩ := bsel_none e
  cases e
  rw [ile_eq, decide_eq_true_iff] at q3
  refine (bindE (h1 d x e1)).trans ((bindE (h2 d y e2)).trans (bindE (f := fun l => some (l, d)) (if_pos ⟨q3, (inLim_ok q1).2, inLim_ok q2⟩) |>.trans ?_))
  rw [rngF_eq, tnat_eq, tnat_eq, isub_eq, List.map_map]
  exact congrArg (fun z => some (z, d)) (List.map_congr_left fun i _ => congrArg V.int (by show x + (i : Int) = ((x.toNat + i : Nat) : Int); omega))
theorem ti_rng3 {o1 o2 : Option Int} (h1 : TE Γ fr a eI o1) (h2 : TE Γ fr b eI o2) : TI Γ fr (.rng3 a b) eI (ob o1 fun x => ob o2 fun y => rng3O x y) := by
  intro d r e
  obtain ⟨x, e1, e⟩ := ob_some e
  obtain ⟨y, e2, e⟩ := ob_some e
  obtain ⟨q1, e⟩ := bsel_none e
  obtain ⟨q2, e⟩ := bsel_none e
  obtain ⟨q3, e⟩ := bsel_none e
  obtain ⟨q4, e⟩ := bsel_none e
  cases e
  rw [ile_eq, decide_eq_true_iff] at q1 q2 q3 q4
  have : LIM = 1000000 := rfl
  refine (bindE (h1 d x e1)).trans ((bindE (h2 d y e2)).trans (bindE (f := fun l => some (l, d)) (if_pos (by omega)) |>.trans ?_))
  rw [rngD_eq, tnat_eq, isub_eq, List.map_map]; rfl
theorem enum_map : ∀ (l : List α) (s : Nat), (l.map eα).mapIdx (fun i x => V.tup [V.int ((s + i : Nat) : Int), x]) = (enumF l s).map (eT eI eα)
  | [], s => rfl
  | x :: r, s => by
    show List.mapIdx _ (eα x :: r.map eα) = eT eI eα (Int.ofNat s, x) :: (enumF r (s + 1)).map (eT eI eα)
    rw [List.mapIdx_cons, ← enum_map r (s + 1)]
    congr 1
    congr 1
    funext i x
    rw [show s + 1 + i = s + (i + 1) by omega]
theorem ti_enum {o : Option (List α)} (h : TE Γ fr a (eL eα) o) : TI Γ fr (.enum a) (eT eI eα) (ob o fun l => some (enumF l 0)) := by
  intro d r e
  obtain ⟨l, e1, e⟩ := ob_some e
  cases e
  refine (bindE (h d l e1)).trans (congrArg (fun z => some (z, d)) ((congrArg (fun g => List.mapIdx g (l.map eα)) ?_).trans (enum_map (eα := eα) l 0)))
  funext i x; rw [Nat.zero_add]

/-! comprehensions -/
theorem comp_all {g : V → Dr → Option (Option V × Dr)} {f : α → Option β} (h : ∀ x d y, f x = some y → g (eα x) d = some (some (eβ y), d)) : ∀ (xs : List α) (ys : List β) (d : Dr), mapO f xs = some ys → compN g (xs.map eα) d = some (ys.map eβ, d)
  | [], ys, d, e => by cases e; rfl
  | x :: xs, ys, d, e => by
    obtain ⟨y, e1, e⟩ := ob_some (show ob (f x) (fun y => ob (mapO f xs) fun ys => some (y :: ys)) = some ys from e)
    obtain ⟨ys', e2, e⟩ := ob_some e
    cases e
    exact (bindE (h x d y e1)).trans (bindE (comp_all h xs ys' d e2))
theorem comp_filt {g : V → Dr → Option (Option V × Dr)} {c : α → Option Bool} {f : α → Option β} (h : ∀ x d y, c x = some true → f x = some y → g (eα x) d = some (some (eβ y), d)) (h2 : ∀ x d, c x = some false → g (eα x) d = some (none, d)) :
    ∀ (xs : List α) (ys : List β) (d : Dr), filtO c f xs = some ys → compN g (xs.map eα) d = some (ys.map eβ, d)
  | [], ys, d, e => by cases e; rfl
  | x :: xs, ys, d, e => by
    obtain ⟨t, e0, e⟩ := ob_some (show ob (c x) (fun t => bsel t (ob (f x) fun y => ob (filtO c f xs) fun ys => some (y :: ys)) (filtO c f xs)) = some ys from e)
    cases t with
    | true =>
      obtain ⟨y, e1, e⟩ := ob_some e
      obtain ⟨ys', e2, e⟩ := ob_some e
      cases e
      exact (bindE (h x d y e0 e1)).trans (bindE (comp_filt h h2 xs ys' d e2))
    | false =>
      have e : filtO c f xs = some ys := e
      exact (bindE (h2 x d e0)).trans (bindE (comp_filt h h2 xs ys d e))
theorem te_compG {it : It} {t : Nat} {elt : E} {oxs : Option (List α)} {f : α → Option β} {fr' : α → Frm} (hi : TI Γ fr it eα oxs) (hbt : ∀ x, bindT fr t (eα x) = some (fr' x)) (h : ∀ x, TE Γ (fr' x) elt eβ (f x)) :
    TE Γ fr (.comp it t (.cbool true) elt) (eL eβ) (ob oxs fun xs => mapO f xs) := by
  intro d r e
  obtain ⟨xs, e1, e⟩ := ob_some e
  exact (bindE (hi d xs e1)).trans (bindE (comp_all (eβ := eβ) (fun x d y q => (bindE (hbt x)).trans (bindE (h x d y q))) xs r d e))
theorem te_comp0 {it : It} {elt : E} {oxs : Option (List α)} {f : α → Option β} (hi : TI Γ fr it eα oxs) (h : ∀ x, TE Γ (fr ++ [some (false, eα x)]) elt eβ (f x)) :
    TE Γ fr (.comp it 0 (.cbool true) elt) (eL eβ) (ob oxs fun xs => mapO f xs) := te_compG hi (fun _ => rfl) h
theorem mapT_O (f : α → β) : ∀ xs, mapO (fun x => some (f x)) xs = some (mapT f xs)
  | [] => rfl
  | x :: xs => by
    show ob (mapO (fun x => some (f x)) xs) (fun ys => some (f x :: ys)) = _
    rw [mapT_O f xs]; rfl
theorem te_comp0t {it : It} {elt : E} {oxs : Option (List α)} {f : α → β} (hi : TI Γ fr it eα oxs) (h : ∀ x, TE Γ (fr ++ [some (false, eα x)]) elt eβ (some (f x))) :
    TE Γ fr (.comp it 0 (.cbool true) elt) (eL eβ) (ob oxs fun xs => some (mapT f xs)) := by
  have := te_comp0 (f := fun x => some (f x)) hi h
  simpa only [mapT_O] using this
theorem te_comp2 {it : It} {elt : E} {oxs : Option (List (α × β))} {f : α × β → Option γ} (hi : TI Γ fr it (eT eα eβ) oxs) (h : ∀ x, TE Γ (fr ++ [some (false, eα x.1), some (false, eβ x.2)]) elt eγ (f x)) :
    TE Γ fr (.comp it 2 (.cbool true) elt) (eL eγ) (ob oxs fun xs => mapO f xs) := te_compG hi (fun _ => rfl) h
theorem te_compF {it : It} {cond elt : E} {oxs : Option (List α)} {cf : α → Option Bool} {f : α → Option β} (hi : TI Γ fr it eα oxs) (hc : ∀ x, TE Γ (fr ++ [some (false, eα x)]) cond eB (cf x)) (h : ∀ x, TE Γ (fr ++ [some (false, eα x)]) elt eβ (f x)) :
    TE Γ fr (.comp it 0 cond elt) (eL eβ) (ob oxs fun xs => filtO cf f xs) := by
  intro d r e
  obtain ⟨xs, e1, e⟩ := ob_some e
  have hbt : ∀ x, bindT fr 0 (eα x) = some (fr ++ [some (false, eα x)]) := fun _ => rfl
  exact (bindE (hi d xs e1)).trans (bindE (comp_filt (eβ := eβ) (fun x d y q1 q => (bindE (hbt x)).trans ((bindE (hc x d _ q1)).trans (bindE (h x d y q)))) (fun x d q1 => (bindE (hbt x)).trans (bindE (hc x d _ q1))) xs r d e))

/-! statements -/
noncomputable def TB (Γ : Env0) (fr : Frm) (b : SL) {ρ : Type} (Q : ρ → Fl → Frm → Prop) (o : Option ρ) : Prop := ∀ d r, o = some r → ∃ f fr', exL Γ WF b fr d = some (f, fr', d) ∧ Q r f fr'
theorem exL_next {s : S} {l : SL} {fr1 : Frm} (h : exS Γ WF s fr d = some (.next, fr1, d1)) : exL Γ WF (.cons s l) fr d = exL Γ WF l fr1 d1 := bindE h
theorem exL_stop {s : S} {l : SL} {f : Fl} {fr1 : Frm} (h : exS Γ WF s fr d = some (f, fr1, d1)) (hf : f ≠ .next) : exL Γ WF (.cons s l) fr d = some (f, fr1, d1) := by
  cases f with
  | next => exact absurd rfl hf
  | cont => exact bindE h
  | ret => exact bindE h

variable {ρ σ : Type} {Q : ρ → Fl → Frm → Prop} {rest : SL} {k : Nat}
theorem tb_step {s : S} {fr1 : Frm} {o : Option ρ} (h : ∀ d, exS Γ WF s fr d = some (.next, fr1, d)) (hr : TB Γ fr1 rest Q o) : TB Γ fr (.cons s rest) Q o := by
  intro d r e
  obtain ⟨f, fr', e1, e2⟩ := hr d r e
  exact ⟨f, fr', (exL_next (h d)).trans e1, e2⟩
theorem tb_asg {o : Option α} {g : α → Option ρ} (h : TE Γ fr a eα o) (hr : ∀ x, TB Γ (fr.set k (some (freshE a && (eα x).isLst, eα x))) rest Q (g x)) : TB Γ fr (.cons (.asg k a) rest) Q (ob o g) := by
  intro d r e
  obtain ⟨x, e1, e2⟩ := ob_some e
  refine tb_step (fun d => ?_) (hr x) d r e2
  exact bindE (h d x e1)
theorem tb_share {fl : Bool} {v : V} {o : Option ρ} (h : fr[k]? = some (some (fl, v))) (hr : TB Γ (fr.set k (some (false, v))) rest Q o) : TB Γ fr (.cons (.share k) rest) Q o :=
  tb_step (fun d => bindE (o := anyOf fr[k]?) (by rw [h]; rfl)) hr
theorem tb_expr {o : Option Unit} {g : Unit → Option ρ} (h : TE Γ fr a eN o) (hr : TB Γ fr rest Q (g ())) : TB Γ fr (.cons (.expr a) rest) Q (ob o g) := by
  intro d r e
  obtain ⟨x, e1, e2⟩ := ob_some e
  refine tb_step (fun d => ?_) hr d r e2
  exact bindE (h d x e1)
theorem tb_asg2_2 {ks : List Nat} {o1 : Option α} {o2 : Option β} {g : α → β → Option ρ} (h1 : TE Γ fr a eα o1) (h2 : TE Γ fr b eβ o2) (hr : ∀ x y, ∃ fr1, set2 fr ks (.cons a (.cons b .nil)) [eα x, eβ y] = some fr1 ∧ TB Γ fr1 rest Q (g x y)) :
    TB Γ fr (.cons (.asg2 ks (.cons a (.cons b .nil))) rest) Q (ob o1 fun x => ob o2 fun y => g x y) := by
  intro d r e
  obtain ⟨x, e1, e⟩ := ob_some e
  obtain ⟨y, e2, e⟩ := ob_some e
  obtain ⟨fr1, q, hr⟩ := hr x y
  refine tb_step (fun d => ?_) hr d r e
  exact (bindE (evl2 (h1 d x e1) (h2 d y e2))).trans (bindE q)
theorem tb_asg2_3 {ks : List Nat} {o1 : Option α} {o2 : Option β} {o3 : Option γ} {g : α → β → γ → Option ρ} (h1 : TE Γ fr a eα o1) (h2 : TE Γ fr b eβ o2) (h3 : TE Γ fr c eγ o3)
    (hr : ∀ x y z, ∃ fr1, set2 fr ks (.cons a (.cons b (.cons c .nil))) [eα x, eβ y, eγ z] = some fr1 ∧ TB Γ fr1 rest Q (g x y z)) :
    TB Γ fr (.cons (.asg2 ks (.cons a (.cons b (.cons c .nil)))) rest) Q (ob o1 fun x => ob o2 fun y => ob o3 fun z => g x y z) := by
  intro d r e
  obtain ⟨x, e1, e⟩ := ob_some e
  obtain ⟨y, e2, e⟩ := ob_some e
  obtain ⟨z, e3, e⟩ := ob_some e
  obtain ⟨fr1, q, hr⟩ := hr x y z
  refine tb_step (fun d => ?_) hr d r e
  exact (bindE (evl3 (h1 d x e1) (h2 d y e2) (h3 d z e3))).trans (bindE q)
theorem tb_asg2_4 {ks : List Nat} {a4 : E} {o1 : Option α} {o2 : Option β} {o3 : Option γ} {o4 : Option δ} {g : α → β → γ → δ → Option ρ} (h1 : TE Γ fr a eα o1) (h2 : TE Γ fr b eβ o2) (h3 : TE Γ fr c eγ o3) (h4 : TE Γ fr a4 eδ o4)
    (hr : ∀ x y z w, ∃ fr1, set2 fr ks (.cons a (.cons b (.cons c (.cons a4 .nil)))) [eα x, eβ y, eγ z, eδ w] = some fr1 ∧ TB Γ fr1 rest Q (g x y z w)) :
    TB Γ fr (.cons (.asg2 ks (.cons a (.cons b (.cons c (.cons a4 .nil))))) rest) Q (ob o1 fun x => ob o2 fun y => ob o3 fun z => ob o4 fun w => g x y z w) := by
  intro d r e
  obtain ⟨x, e1, e⟩ := ob_some e
  obtain ⟨y, e2, e⟩ := ob_some e
  obtain ⟨z, e3, e⟩ := ob_some e
  obtain ⟨w, e4, e⟩ := ob_some e
  obtain ⟨fr1, q, hr⟩ := hr x y z w
  refine tb_step (fun d => ?_) hr d r e
  exact (bindE (evl_cons (h1 d x e1) (evl3 (h2 d y e2) (h3 d z e3) (h4 d w e4)))).trans (bindE q)
theorem tb_asgT2 {ks : List Nat} {o : Option (α × β)} {g : α × β → Option ρ} (h : TE Γ fr a (eT eα eβ) o) (hr : ∀ x, ∃ fr1, setAll fr ks [eα x.1, eβ x.2] = some fr1 ∧ TB Γ fr1 rest Q (g x)) :
    TB Γ fr (.cons (.asgT ks a) rest) Q (ob o g) := by
  intro d r e
  obtain ⟨x, e1, e⟩ := ob_some e
  obtain ⟨fr1, q, hr⟩ := hr x
  refine tb_step (fun d => ?_) hr d r e
  exact (bindE (h d x e1)).trans (bindE q)
theorem tb_asgT3 {ks : List Nat} {o : Option (α × β × γ)} {g : α × β × γ → Option ρ} (h : TE Γ fr a (eT3 eα eβ eγ) o) (hr : ∀ x, ∃ fr1, setAll fr ks [eα x.1, eβ x.2.1, eγ x.2.2] = some fr1 ∧ TB Γ fr1 rest Q (g x)) :
    TB Γ fr (.cons (.asgT ks a) rest) Q (ob o g) := by
  intro d r e
  obtain ⟨x, e1, e⟩ := ob_some e
  obtain ⟨fr1, q, hr⟩ := hr x
  refine tb_step (fun d => ?_) hr d r e
  exact (bindE (h d x e1)).trans (bindE q)
theorem setO_ok {l r : List α} {i : Int} {v : α} (h : setO l i v = some r) : setIV (some (some (true, eL eα l))) (.int i) (eα v) = some (some (true, eL eα r)) := by
  cases i with
  | negSucc n => cases h
  | ofNat n =>
    obtain ⟨h1, rfl⟩ := setT_ok v l n r h
    show (if 0 ≤ (n : Int) ∧ (n : Int) < (l.map eα).length then some (some (true, V.lst ((l.map eα).set (n : Int).toNat (eα v)))) else none) = _
    rw [if_pos (by rw [List.length_map]; omega)]
    show some (some (true, V.lst ((l.map eα).set n (eα v)))) = some (some (true, V.lst ((l.set n v).map eα)))
    rw [List.map_set]
theorem tb_setI {l : List α} {o1 : Option α} {o2 : Option Int} {g : List α → Option ρ} (hc : fr[k]? = some (some (true, eL eα l))) (h1 : TE Γ fr a eα o1) (h2 : TE Γ fr b eI o2) (hr : ∀ l', TB Γ (fr.set k (some (true, eL eα l'))) rest Q (g l')) :
    TB Γ fr (.cons (.setI k b a) rest) Q (ob o1 fun x => ob o2 fun i => ob (setO l i x) g) := by
  intro d r e
  obtain ⟨x, e1, e⟩ := ob_some e
  obtain ⟨i, e2, e⟩ := ob_some e
  obtain ⟨l', e3, e⟩ := ob_some e
  refine tb_step (fun d => ?_) (hr l') d r e
  exact (bindE (h1 d x e1)).trans ((bindE (h2 d i e2)).trans (bindE (by rw [hc]; exact setO_ok e3)))
theorem getI_ok {l : List Int} {i x : Int} {fl : Bool} (h : getI l i = some x) : getIV (some (some (true, eL eI l))) (.int i) = some (.int x) := by
  cases i with
  | negSucc n => cases h
  | ofNat n =>
    have h : getO l n = some x := h
    rw [getO_eq] at h
    show (if 0 ≤ (n : Int) then ((l.map eI)[n]?).bind fun x => x.int?.map V.int else none) = _
    rw [if_pos (Int.natCast_nonneg n), List.getElem?_map, h]; rfl
theorem tb_augI {l : List Int} {o1 o2 : Option Int} {g : List Int → Option ρ} (hc : fr[k]? = some (some (true, eL eI l))) (h1 : TE Γ fr a eI o1) (h2 : TE Γ fr b eI o2) (hr : ∀ l', TB Γ (fr.set k (some (true, eL eI l'))) rest Q (g l')) :
    TB Γ fr (.cons (.augI k a .add b) rest) Q (ob o1 fun i => ob (getI l i) fun x => ob o2 fun y => ob (setO l i (iadd x y)) g) := by
  intro d r e
  obtain ⟨i, e1, e⟩ := ob_some e
  obtain ⟨x, e2, e⟩ := ob_some e
  obtain ⟨y, e3, e⟩ := ob_some e
  obtain ⟨l', e4, e⟩ := ob_some e
  have e5 : setIV (some (some (true, eL eI l))) (.int i) (.int (x + y)) = some (some (true, eL eI l')) := by rw [← iadd_eq]; exact setO_ok (eα := eI) e4
  refine tb_step (fun d => ?_) (hr l') d r e
  exact (bindE (h1 d i e1)).trans ((bindE (by rw [hc]; exact getI_ok (fl := true) e2)).trans ((bindE (h2 d y e3)).trans ((bindE (binV_int .add _ _)).trans (bindE (by rw [hc]; exact e5)))))
theorem tb_append {l : List α} {o : Option α} {g : List α → Option ρ} (hc : fr[k]? = some (some (true, eL eα l))) (h : TE Γ fr a eα o) (hr : ∀ l', TB Γ (fr.set k (some (true, eL eα l'))) rest Q (g l')) :
    TB Γ fr (.cons (.append k a) rest) Q (ob o fun x => ob (snocO l x) g) := by
  intro d r e
  obtain ⟨x, e1, e⟩ := ob_some e
  obtain ⟨l', e2, e⟩ := ob_some e
  obtain ⟨q, e2⟩ := bsel_none e2
  cases e2
  have q := Nat.le_of_ble_eq_true q
  rw [llen_eq] at q
  have hL : LIM = 1000000 := rfl
  refine tb_step (fun d => ?_) (hr _) d r e
  refine (bindE (h d x e1)).trans ((bindE (by rw [hc]; exact ownOf_own _)).trans ?_)
  show (if (l.map eα).length < LIM then _ else none) = _
  rw [if_pos (by rw [List.length_map]; omega), appT_eq, eL, List.map_append]; rfl
theorem tb_sub {x : Int} {o : Option Int} {g : Int → Option ρ} (hc : fr[k]? = some (some (false, eI x))) (h : TE Γ fr a eI o) (hr : ∀ z, TB Γ (fr.set k (some (false, eI z))) rest Q (g z)) :
    TB Γ fr (.cons (.aug k .sub a) rest) Q (ob o fun y => ob (some (isub x y)) g) := by
  intro d r e
  obtain ⟨y, e1, e⟩ := ob_some e
  refine tb_step (fun d => ?_) (hr _) d r e
  rw [isub_eq]
  exact (bindE (by rw [hc]; rfl)).trans ((bindE (int?_int x)).trans ((bindE (h d y e1)).trans (bindE (binV_int .sub x y))))
theorem tb_swap {i1 i2 : E} {l : List α} {o1 o2 : Option α} {j1 j2 : Int} {g : List α → Option ρ} (hc : fr[k]? = some (some (true, eL eα l))) (hk : k < fr.length) (h1 : TE Γ fr a eα o1) (h2 : TE Γ fr b eα o2) (h3 : TE Γ fr i1 eI (some j1))
    (h4 : ∀ l' : List α, TE Γ (fr.set k (some (true, eL eα l'))) i2 eI (some j2)) (hr : ∀ l', TB Γ (fr.set k (some (true, eL eα l'))) rest Q (g l')) :
    TB Γ fr (.cons (.swap k i1 i2 a b) rest) Q (ob o1 fun x => ob o2 fun y => ob (setO l j1 x) fun l1 => ob (setO l1 j2 y) g) := by
  intro d r e
  obtain ⟨x, e1, e⟩ := ob_some e
  obtain ⟨y, e2, e⟩ := ob_some e
  obtain ⟨l1, e3, e⟩ := ob_some e
  obtain ⟨l2, e4, e⟩ := ob_some e
  refine tb_step (fun d => ?_) (hr l2) d r e
  have h3' : evE Γ i1 fr d = some (.int j1, d) := h3 d j1 rfl
  have h4' : evE Γ i2 (fr.set k (some (true, eL eα l1))) d = some (.int j2, d) := h4 l1 d j2 rfl
  have e3' := setO_ok (eα := eα) e3
  have e4' := setO_ok (eα := eα) e4
  exact (bindE (h1 d x e1)).trans ((bindE (h2 d y e2)).trans ((bindE h3').trans ((bindE (by rw [hc]; exact e3')).trans ((bindE h4').trans (bindE e4')))))
theorem tb_muts2 {f : Nat} {l : List α} {o1 : Option β} {o2 : Option γ} {p : β → γ → Option (List α)} {g : List α → Option ρ} (hc : fr[k]? = some (some (true, eL eα l))) (h1 : TE Γ fr a eβ o1) (h2 : TE Γ fr b eγ o2)
    (hf : ∀ x y, ConM Γ f [eβ x, eγ y] eα l (p x y)) (hr : ∀ l', TB Γ (fr.set k (some (true, eL eα l'))) rest Q (g l')) :
    TB Γ fr (.cons (.muts f k (.cons a (.cons b .nil))) rest) Q (ob o1 fun x => ob o2 fun y => ob (p x y) g) := by
  intro d r e
  obtain ⟨x, e1, e⟩ := ob_some e
  obtain ⟨y, e2, e⟩ := ob_some e
  obtain ⟨l1, e3, e⟩ := ob_some e
  refine tb_step (fun d => ?_) (hr l1) d r e
  exact (bindE (evl2 (h1 d x e1) (h2 d y e2))).trans ((bindE (by rw [hc]; exact ownOf_own _)).trans (bindE (hf x y d l1 e3)))
theorem tb_muts3 {f : Nat} {l : List α} {o1 : Option β} {o2 : Option γ} {o3 : Option δ} {p : β → γ → δ → Option (List α)} {g : List α → Option ρ} (hc : fr[k]? = some (some (true, eL eα l))) (h1 : TE Γ fr a eβ o1) (h2 : TE Γ fr b eγ o2) (h3 : TE Γ fr c eδ o3)
    (hf : ∀ x y z, ConM Γ f [eβ x, eγ y, eδ z] eα l (p x y z)) (hr : ∀ l', TB Γ (fr.set k (some (true, eL eα l'))) rest Q (g l')) :
    TB Γ fr (.cons (.muts f k (.cons a (.cons b (.cons c .nil)))) rest) Q (ob o1 fun x => ob o2 fun y => ob o3 fun z => ob (p x y z) g) := by
  intro d r e
  obtain ⟨x, e1, e⟩ := ob_some e
  obtain ⟨y, e2, e⟩ := ob_some e
  obtain ⟨z, e3, e⟩ := ob_some e
  obtain ⟨l1, e4, e⟩ := ob_some e
  refine tb_step (fun d => ?_) (hr l1) d r e
  exact (bindE (evl3 (h1 d x e1) (h2 d y e2) (h3 d z e3))).trans ((bindE (by rw [hc]; exact ownOf_own _)).trans (bindE (hf x y z d l1 e4)))

noncomputable def dlT (l : List Int) : List Int := @List.rec Int (fun _ => List Int) [] (fun x r ih => @List.rec Int (fun _ => List Int) [] (fun _ _ _ => x :: ih) r) l
noncomputable def popO (l : List Int) : Option (List Int) := bsel (nilT l) none (some (dlT l))
theorem dlT_eq : ∀ l : List Int, dlT l = l.dropLast
  | [] => rfl
  | [x] => rfl
  | x :: y :: r => by show x :: dlT (y :: r) = _; rw [dlT_eq (y :: r)]; rfl
theorem tb_pop {l : List Int} {g : List Int → Option ρ} (hc : fr[k]? = some (some (true, eL eI l))) (hr : ∀ l', TB Γ (fr.set k (some (true, eL eI l'))) rest Q (g l')) : TB Γ fr (.cons (.pop k) rest) Q (ob (popO l) g) := by
  intro d r e
  obtain ⟨l', e1, e⟩ := ob_some e
  cases l with
  | nil => cases e1
  | cons x t =>
    have e1 : some (dlT (x :: t)) = some l' := e1
    cases e1
    refine tb_step (fun d => ?_) (hr _) d r e
    have e2 : ((x :: t).map eI).getLast? = some (eI ((x :: t).getLast (List.cons_ne_nil _ _))) := by rw [List.getLast?_map, List.getLast?_eq_some_getLast (List.cons_ne_nil _ _)]; rfl
    refine (bindE (by rw [hc]; exact ownOf_own _)).trans ((bindE e2).trans ((bindE (int?_int _)).trans ?_))
    rw [dlT_eq, eL, List.map_dropLast]
noncomputable def QX {ρ : Type} (Q : ρ → Fl → Frm → Prop) : ρ → Fl → Frm → Prop := fun r f fr' => f ≠ .next ∧ Q r f fr'
noncomputable def QM {σ : Type} (Φ : σ → Frm → Prop) : σ → Fl → Frm → Prop := fun r f fr' => f = .next ∧ Φ r fr'
noncomputable def QL {σ : Type} (Φ : σ → Frm → Prop) : σ → Fl → Frm → Prop := fun r f fr' => (f = .next ∨ f = .cont) ∧ Φ r fr'
noncomputable def QR {ρ : Type} (e : ρ → V) : ρ → Fl → Frm → Prop := fun r f _ => ∃ fl, f = .ret fl (e r)
noncomputable def QLR {σ ρ : Type} (Φ : σ → Frm → Prop) (e : ρ → V) : Sum σ ρ → Fl → Frm → Prop
  | .inl s, f, fr' => (f = .next ∨ f = .cont) ∧ Φ s fr'
  | .inr v, f, _ => ∃ fl, f = .ret fl (e v)

theorem tb_iteX {oc : Option Bool} {o1 o2 : Option ρ} {l1 : SL} (hc : TE Γ fr c eB oc) (h1 : TB Γ fr l1 (QX Q) o1) (h2 : TB Γ fr rest Q o2) : TB Γ fr (.cons (.ite c l1 .nil) rest) Q (ob oc fun t => bsel t o1 o2) := by
  intro d r e
  obtain ⟨t, e1, e⟩ := ob_some e
  cases t with
  | true =>
    obtain ⟨f, fr', e2, e3, e4⟩ := h1 d r e
    exact ⟨f, fr', exL_stop ((bindE (hc d _ e1)).trans e2) e3, e4⟩
  | false =>
    obtain ⟨f, fr', e2, e3⟩ := h2 d r e
    refine ⟨f, fr', (exL_next (fr1 := fr) (d1 := d) ?_).trans e2, e3⟩
    exact bindE (hc d _ e1)
theorem tb_iteM {Φ : σ → Frm → Prop} {oc : Option Bool} {o1 o2 : Option σ} {l1 l2 : SL} {g : σ → Option ρ} (hc : TE Γ fr c eB oc) (h1 : TB Γ fr l1 (QM Φ) o1) (h2 : TB Γ fr l2 (QM Φ) o2) (hr : ∀ s fr1, Φ s fr1 → TB Γ fr1 rest Q (g s)) :
    TB Γ fr (.cons (.ite c l1 l2) rest) Q (ob oc fun t => ob (bsel t o1 o2) g) := by
  intro d r e
  obtain ⟨t, e1, e⟩ := ob_some e
  obtain ⟨s, e2, e⟩ := ob_some e
  have : ∃ fr1, exS Γ WF (.ite c l1 l2) fr d = some (.next, fr1, d) ∧ Φ s fr1 := by
    cases t with
    | true =>
      obtain ⟨f, fr', e3, rfl, e4⟩ := h1 d s e2
      exact ⟨fr', (bindE (hc d _ e1)).trans e3, e4⟩
    | false =>
      obtain ⟨f, fr', e3, rfl, e4⟩ := h2 d s e2
      exact ⟨fr', (bindE (hc d _ e1)).trans e3, e4⟩
  obtain ⟨fr1, e3, e4⟩ := this
  obtain ⟨f, fr', e5, e6⟩ := hr s fr1 e4 d r e
  exact ⟨f, fr', (exL_next e3).trans e5, e6⟩
theorem for_all {Φ : σ → Frm → Prop} {body : V → Frm → Dr → Option (Fl × Frm × Dr)} {step : σ → α → Option σ} (h : ∀ s x fr d s', Φ s fr → step s x = some s' → ∃ f fr', body (eα x) fr d = some (f, fr', d) ∧ (f = .next ∨ f = .cont) ∧ Φ s' fr') :
    ∀ (xs : List α) (s s' : σ) (fr : Frm) (d : Dr), Φ s fr → foldO step xs s = some s' → ∃ fr', forN body (xs.map eα) fr d = some (.next, fr', d) ∧ Φ s' fr'
  | [], s, s', fr, d, h0, e => by cases e; exact ⟨fr, rfl, h0⟩
  | x :: xs, s, s', fr, d, h0, e => by
    obtain ⟨s1, e1, e⟩ := ob_some (show ob (step s x) (foldO step xs) = some s' from e)
    obtain ⟨f, fr1, e2, e3, e4⟩ := h s x fr d s1 h0 e1
    obtain ⟨fr2, e5, e6⟩ := for_all h xs s1 s' fr1 d e4 e
    refine ⟨fr2, ?_, e6⟩
    rcases e3 with rfl | rfl
    · exact (bindE e2).trans e5
    · exact (bindE e2).trans e5
theorem for_allR {Φ : σ → Frm → Prop} {eρ : ρ → V} {body : V → Frm → Dr → Option (Fl × Frm × Dr)} {step : σ → α → Option (Sum σ ρ)} (h : ∀ s x fr d s', Φ s fr → step s x = some s' → ∃ f fr', body (eα x) fr d = some (f, fr', d) ∧ QLR Φ eρ s' f fr') :
    ∀ (xs : List α) (s : σ) (s' : Sum σ ρ) (fr : Frm) (d : Dr), Φ s fr → foldR step xs s = some s' → ∃ f fr', forN body (xs.map eα) fr d = some (f, fr', d) ∧ (match s' with | .inl s => f = .next ∧ Φ s fr' | .inr v => ∃ fl, f = .ret fl (eρ v))
  | [], s, s', fr, d, h0, e => by cases e; exact ⟨_, fr, rfl, rfl, h0⟩
  | x :: xs, s, s', fr, d, h0, e => by
    obtain ⟨s1, e1, e⟩ := ob_some (show ob (step s x) (fun r => @Sum.rec σ ρ (fun _ => Option (Sum σ ρ)) (foldR step xs) (fun v => some (.inr v)) r) = some s' from e)
    obtain ⟨f, fr1, e2, e3⟩ := h s x fr d s1 h0 e1
    cases s1 with
    | inl s1 =>
      obtain ⟨e3, e4⟩ := e3
      obtain ⟨f2, fr2, e5, e6⟩ := for_allR h xs s1 s' fr1 d e4 e
      refine ⟨f2, fr2, ?_, e6⟩
      rcases e3 with rfl | rfl
      · exact (bindE e2).trans e5
      · exact (bindE e2).trans e5
    | inr v =>
      cases e
      obtain ⟨fl, rfl⟩ := e3
      exact ⟨_, fr1, bindE e2, fl, rfl⟩
theorem tb_for {Φ : σ → Frm → Prop} {it : It} {ks : List Nat} {tup : Bool} {body : SL} {oxs : Option (List α)} {step : σ → α → Option σ} {s0 : σ} {g : σ → Option ρ} (hi : TI Γ fr it eα oxs) (h0 : Φ s0 fr)
    (hb : ∀ s x fr1, Φ s fr1 → ∃ fr2, bindF tup fr1 ks (eα x) = some fr2 ∧ TB Γ fr2 body (QL Φ) (step s x)) (hr : ∀ s fr1, Φ s fr1 → TB Γ fr1 rest Q (g s)) :
    TB Γ fr (.cons (.for ks tup it body) rest) Q (ob oxs fun xs => ob (foldO step xs s0) g) := by
  intro d r e
  obtain ⟨xs, e1, e⟩ := ob_some e
  obtain ⟨s, e2, e⟩ := ob_some e
  obtain ⟨fr1, e3, e4⟩ := for_all (Φ := Φ) (eα := eα) (body := fun x fr d => (bindF tup fr ks x).bind fun fr' => exL Γ WF body fr' d) (fun s x fr1 d s' p q => by
    obtain ⟨fr2, p1, p2⟩ := hb s x fr1 p
    obtain ⟨f, fr', p3, p4⟩ := p2 d s' q
    exact ⟨f, fr', (bindE p1).trans p3, p4⟩) xs s0 s fr d h0 e2
  obtain ⟨f, fr', e5, e6⟩ := hr s fr1 e4 d r e
  refine ⟨f, fr', (exL_next (fr1 := fr1) (d1 := d) ?_).trans e5, e6⟩
  exact (bindE (hi d xs e1)).trans e3
theorem tb_forR {Φ : σ → Frm → Prop} {eρ : ρ → V} {it : It} {ks : List Nat} {tup : Bool} {body : SL} {oxs : Option (List α)} {step : σ → α → Option (Sum σ ρ)} {s0 : σ} {g : σ → Option ρ} (hq : ∀ v fl fr', Q v (.ret fl (eρ v)) fr') (hi : TI Γ fr it eα oxs) (h0 : Φ s0 fr)
    (hb : ∀ s x fr1, Φ s fr1 → ∃ fr2, bindF tup fr1 ks (eα x) = some fr2 ∧ TB Γ fr2 body (QLR Φ eρ) (step s x)) (hr : ∀ s fr1, Φ s fr1 → TB Γ fr1 rest Q (g s)) :
    TB Γ fr (.cons (.for ks tup it body) rest) Q (ob oxs fun xs => ob (foldR step xs s0) fun r => @Sum.rec σ ρ (fun _ => Option ρ) g (fun v => some v) r) := by
  intro d r e
  obtain ⟨xs, e1, e⟩ := ob_some e
  obtain ⟨s, e2, e⟩ := ob_some e
  obtain ⟨f1, fr1, e3, e4⟩ := for_allR (Φ := Φ) (eρ := eρ) (eα := eα) (body := fun x fr d => (bindF tup fr ks x).bind fun fr' => exL Γ WF body fr' d) (fun s x fr1 d s' p q => by
    obtain ⟨fr2, p1, p2⟩ := hb s x fr1 p
    obtain ⟨f, fr', p3, p4⟩ := p2 d s' q
    exact ⟨f, fr', (bindE p1).trans p3, p4⟩) xs s0 s fr d h0 e2
  have hx : exS Γ WF (.for ks tup it body) fr d = some (f1, fr1, d) := (bindE (hi d xs e1)).trans e3
  cases s with
  | inl s =>
    obtain ⟨rfl, e4⟩ := e4
    obtain ⟨f, fr', e5, e6⟩ := hr s fr1 e4 d r e
    exact ⟨f, fr', (exL_next hx).trans e5, e6⟩
  | inr v =>
    cases e
    obtain ⟨fl, rfl⟩ := e4
    exact ⟨_, fr1, exL_stop hx (by intro h; cases h), hq ..⟩
theorem while_all {Φ : σ → Frm → Prop} {cond : Frm → Dr → Option (V × Dr)} {body : Frm → Dr → Option (Fl × Frm × Dr)} {oc : σ → Option Bool} {step : σ → Option σ} (hc : ∀ s fr d t, Φ s fr → oc s = some t → cond fr d = some (.bool t, d))
    (h : ∀ s fr d s', Φ s fr → step s = some s' → ∃ f fr', body fr d = some (f, fr', d) ∧ (f = .next ∨ f = .cont) ∧ Φ s' fr') :
    ∀ (n : Nat) (s s' : σ) (fr : Frm) (d : Dr), Φ s fr → whileO oc step n s = some s' → ∃ fr', whileN cond body n fr d = some (.next, fr', d) ∧ Φ s' fr'
  | 0, s, s', fr, d, h0, e => by cases e
  | n + 1, s, s', fr, d, h0, e => by
    obtain ⟨t, e1, e⟩ := ob_some (show ob (oc s) (fun t => bsel t (ob (step s) (whileO oc step n)) (some s)) = some s' from e)
    cases t with
    | false =>
      cases e
      exact ⟨fr, bindE (hc s fr d _ h0 e1), h0⟩
    | true =>
      obtain ⟨s1, e2, e⟩ := ob_some e
      obtain ⟨f, fr1, e3, e4, e5⟩ := h s fr d s1 h0 e2
      obtain ⟨fr2, e6, e7⟩ := while_all hc h n s1 s' fr1 d e5 e
      refine ⟨fr2, ?_, e7⟩
      rcases e4 with rfl | rfl
      · exact (bindE (hc s fr d _ h0 e1)).trans ((bindE e3).trans e6)
      · exact (bindE (hc s fr d _ h0 e1)).trans ((bindE e3).trans e6)
theorem tb_while {Φ : σ → Frm → Prop} {body : SL} {oc : σ → Option Bool} {step : σ → Option σ} {s0 : σ} {g : σ → Option ρ} (h0 : Φ s0 fr) (hc : ∀ s fr1, Φ s fr1 → TE Γ fr1 c eB (oc s)) (hb : ∀ s fr1, Φ s fr1 → TB Γ fr1 body (QL Φ) (step s))
    (hr : ∀ s fr1, Φ s fr1 → TB Γ fr1 rest Q (g s)) : TB Γ fr (.cons (.whil c body) rest) Q (ob (whileO oc step WF s0) g) := by
  intro d r e
  obtain ⟨s, e2, e⟩ := ob_some e
  obtain ⟨fr1, e3, e4⟩ := while_all (Φ := Φ) (fun s fr d t p q => hc s fr p d t q) (fun s fr d s' p q => hb s fr p d s' q) WF s0 s fr d h0 e2
  obtain ⟨f, fr', e5, e6⟩ := hr s fr1 e4 d r e
  refine ⟨f, fr', (exL_next (fr1 := fr1) (d1 := d) ?_).trans e5, e6⟩
  exact e3
theorem ex_ret {v : V} (h : evE Γ a fr d = some (v, d1)) : exS Γ WF (.ret a) fr d = some (.ret (freshE a && v.isLst) v, fr, d1) := bindE h
theorem ex_iteT {l1 l2 : SL} (h : evE Γ c fr d = some (.bool true, d1)) : exS Γ WF (.ite c l1 l2) fr d = exL Γ WF l1 fr d1 := bindE h
theorem ex_iteF {l1 l2 : SL} (h : evE Γ c fr d = some (.bool false, d1)) : exS Γ WF (.ite c l1 l2) fr d = exL Γ WF l2 fr d1 := bindE h
theorem ex_asgD {kd : Nat} {v : V} {i : Int} {bb : Bool} {g : Int × Int} (h1 : evE Γ a fr d = some (v, d1)) (h2 : evE Γ b fr d1 = some (.int i, some g)) (h3 : drwOf fr[kd]? = some bb) : exS Γ WF (.asgD k kd a b) fr d = some (.next, fr.set k (some (freshE a && v.isLst, v)), some (i, g.2)) :=
  (bindE h1).trans ((bindE h2).trans (bindE h3))
theorem ex_dset {i : Int} {bb great : Bool} {g : Int × Int} (h1 : evE Γ a fr d = some (.int i, some g)) (h3 : drwOf fr[k]? = some bb) : exS Γ WF (.dset great k a) fr d = some (.next, fr, some (if great then (i, g.2) else (g.1, i))) := (bindE h1).trans (bindE h3)
theorem ex_asg {v : V} (h : evE Γ a fr d = some (v, d1)) : exS Γ WF (.asg k a) fr d = some (.next, fr.set k (some (freshE a && v.isLst, v)), d1) := bindE h
theorem ex_asg2 {ks : List Nat} {es : EL} {vs : List V} {fr1 : Frm} (h : evL Γ es fr d = some (vs, d1)) (h2 : set2 fr ks es vs = some fr1) : exS Γ WF (.asg2 ks es) fr d = some (.next, fr1, d1) := (bindE h).trans (bindE h2)
theorem ex_asgT {ks : List Nat} {v : V} {l : List V} {fr1 : Frm} (h : evE Γ a fr d = some (v, d1)) (h1 : v.items? = some l) (h2 : setAll fr ks l = some fr1) : exS Γ WF (.asgT ks a) fr d = some (.next, fr1, d1) := (bindE h).trans ((bindE h1).trans (bindE h2))
theorem for_one {body : V → Frm → Dr → Option (Fl × Frm × Dr)} {x : V} {fr1 fr2 : Frm} (h : body x fr d = some (.next, fr2, d1)) : forN body [x] fr d = some (.next, fr2, d1) := (bindE h).trans rfl
theorem ex_for {ks : List Nat} {tup : Bool} {it : It} {body : SL} {xs : List V} (h : evI Γ it fr d = some (xs, d1)) : exS Γ WF (.for ks tup it body) fr d = forN (fun x fr d => (bindF tup fr ks x).bind fun fr' => exL Γ WF body fr' d) xs fr d1 := bindE h
theorem tb_ret {o : Option α} {g : α → Option ρ} (h : TE Γ fr a eα o) (hq : ∀ x r, g x = some r → ∀ fl fr', Q r (.ret fl (eα x)) fr') : TB Γ fr (.cons (.ret a) rest) Q (ob o g) := by
  intro d r e
  obtain ⟨x, e1, e⟩ := ob_some e
  exact ⟨_, fr, exL_stop (ex_ret (h d x e1)) (by intro h; cases h), hq x r e _ _⟩
theorem tb_retR {o : Option α} (h : TE Γ fr a eα o) : TB Γ fr (.cons (.ret a) rest) (QR eα) o := by
  intro d r e
  exact ⟨_, fr, exL_stop (ex_ret (h d r e)) (by intro h; cases h), _, rfl⟩
theorem tb_retX {o : Option α} (h : TE Γ fr a eα o) : TB Γ fr (.cons (.ret a) rest) (QX (QR eα)) o := by
  intro d r e
  exact ⟨_, fr, exL_stop (ex_ret (h d r e)) (by intro h; cases h), (by intro h; cases h), _, rfl⟩
theorem tb_retLR {Φ : σ → Frm → Prop} {o : Option α} (h : TE Γ fr a eα o) : TB Γ fr (.cons (.ret a) rest) (QX (QLR Φ eα)) (ob o fun x => some (.inr x)) := by
  intro d r e
  obtain ⟨x, e1, e⟩ := ob_some e
  cases e
  exact ⟨_, fr, exL_stop (ex_ret (h d x e1)) (by intro h; cases h), (by intro h; cases h), _, rfl⟩
theorem tb_end {s : ρ} (h : Q s .next fr) : TB Γ fr .nil Q (some s) := by
  intro d r e; cases e
  exact ⟨_, fr, rfl, h⟩
theorem tb_cont {s : ρ} (h : Q s .cont fr) : TB Γ fr (.cons .cont rest) Q (some s) := by
  intro d r e; cases e
  exact ⟨_, fr, exL_stop (show exS Γ WF .cont fr d = _ from rfl) (by intro h; cases h), h⟩
theorem tb_fail : TB Γ fr (.cons .fail rest) Q none := by intro d r e; cases e
end

theorem callT_eq {n f np nv : Nat} {b : SL} {args : List V} {d d' : Dr} {fl : Fl} {fr' : Frm} {v : V} (ht : tab[f]? = some (some (np, nv, b))) (hn : args.length = np) (h : exL (I n) WF b (frm0 nv none args) d = some (fl, fr', d')) (ho : fl.out (freshF f) = some v) :
    (I (n + 1)).call f args d = some (v, d') :=
  (bindE ht).trans ((if_pos hn).trans ((bindE h).trans (bindE ho)))
theorem con_of {n f np nv : Nat} {b : SL} {args : List V} {fr0 : Frm} {α : Type} {e : α → V} {o : Option α} (ht : tab[f]? = some (some (np, nv, b))) (hn : args.length = np) (hfr : frm0 nv none args = fr0) (hf : freshF f = false)
    (h : TB (I n) fr0 b (QR e) o) : Con (I (n + 1)) f args e o := by
  intro d r q
  obtain ⟨fl, fr', e1, x, rfl⟩ := h d r q
  exact callT_eq ht hn (by rw [hfr]; exact e1) (by rw [hf]; rfl)
noncomputable def QR1 {ρ : Type} (e : ρ → V) : ρ → Fl → Frm → Prop := fun r f _ => f = .ret true (e r)
theorem tb_retR1 {Γ : Env0} {fr : Frm} {a : E} {rest : SL} {α : Type} {eα : α → V} {o : Option α} (h : TE Γ fr a eα o) (hq : ∀ x, (freshE a && (eα x).isLst) = true) : TB Γ fr (.cons (.ret a) rest) (QR1 eα) o := by
  intro d r e
  refine ⟨_, fr, exL_stop (ex_ret (h d r e)) (by intro h; cases h), ?_⟩
  show Fl.ret _ _ = Fl.ret true _
  rw [hq]
theorem con_of1 {n f np nv : Nat} {b : SL} {args : List V} {fr0 : Frm} {α : Type} {e : α → V} {o : Option α} (ht : tab[f]? = some (some (np, nv, b))) (hn : args.length = np) (hfr : frm0 nv none args = fr0)
    (h : TB (I n) fr0 b (QR1 e) o) : Con (I (n + 1)) f args e o := by
  intro d r q
  obtain ⟨fl, fr', e1, rfl⟩ := h d r q
  exact callT_eq ht hn (by rw [hfr]; exact e1) (by cases freshF f <;> rfl)
theorem con_ofN {n f np nv : Nat} {b : SL} {args : List V} {fr0 : Frm} {o : Option Unit} (ht : tab[f]? = some (some (np, nv, b))) (hn : args.length = np) (hfr : frm0 nv none args = fr0) (hf : freshF f = false)
    (h : TB (I n) fr0 b (fun _ f _ => f = .next) o) : Con (I (n + 1)) f args eN o := by
  intro d r q
  obtain ⟨fl, fr', e1, rfl⟩ := h d r q
  exact callT_eq ht hn (by rw [hfr]; exact e1) (by rw [hf]; rfl)
theorem conM_of {n f np nv : Nat} {b : SL} {args : List V} {fr0 : Frm} {α : Type} {e : α → V} {l : List α} {o : Option (List α)} (ht : ∀ Γ l args d, mutsT Γ f l args d = mutRun Γ WF np nv b l args d) (hn : args.length + 1 = np) (hfr : frm0 nv (some (l.map e)) args = fr0)
    (h : TB (I n) fr0 b (fun l' f fr' => f = .next ∧ fr'[0]? = some (some (true, eL e l'))) o) : ConM (I (n + 1)) f args e l o := by
  intro d r q
  obtain ⟨fl, fr', e1, rfl, e2⟩ := h d r q
  show mutsT (I n) f (l.map e) args d = _
  rw [ht]
  unfold mutRun
  rw [if_pos hn, hfr]
  exact (bindE e1).trans (bindE (by rw [e2]; rfl))
end
end Mine
-- ND
namespace Mine
noncomputable section
noncomputable def P_gcd0 (p_a : Int) (p_b : Int) : Option Int := (ob (some (iabs p_a)) fun x1 => (ob (some (iabs p_b)) fun x2 => (ob (whileO (σ := (Int × Int)) (fun s5 => (some (bnot (ieq s5.2 (Int.ofNat 0))))) (fun s5 => (ob (some s5.2) fun x6 => (ob (modO s5.1 s5.2) fun x7 => (some (x6, x7))))) WF (x1, x2)) fun s5 => (some s5.1))))
theorem t_gcd0 (n : Nat) (h : 1 ≤ n) (p_a : Int) (p_b : Int) : Con (I n) 0 [eI p_a, eI p_b] eI (P_gcd0 p_a p_b) := by
  obtain ⟨m, rfl⟩ : ∃ m, n = m + 1 := ⟨n - 1, by omega⟩
  exact con_of (np := F_gcd.ps.length) (nv := F_gcd.vars.length) (b := b_gcd) (by kernel_rfl) rfl (fr0 := [some (false, eI p_a), some (false, eI p_b)]) rfl rfl (tb_asg2_2 (te_abs_t (te_var rfl)) (te_abs_t (te_var rfl)) (fun x1 x2 => ⟨_, rfl, tb_while (Φ := (fun (s3 : (Int × Int)) (f4 : Frm) => f4 = ([some (false, eI s3.1), some (false, eI s3.2)] : Frm))) rfl (by rintro s5 _ rfl; exact te_ne_tt (te_bvar rfl) (te_int)) (by rintro s5 _ rfl; exact tb_asg2_2 (te_var rfl) (te_mod_tt (te_var rfl) (te_var rfl)) (fun x6 x7 => ⟨_, rfl, tb_share rfl (tb_end ⟨.inl rfl, rfl⟩)⟩)) (by rintro s5 _ rfl; exact tb_retR (te_var rfl))⟩))

theorem ieq_ofNat0 (n : Nat) : ieq (Int.ofNat (n + 1)) (Int.ofNat 0) = false := rfl
noncomputable def gcdC (s : Int × Int) : Option Bool := some (bnot (ieq s.2 (Int.ofNat 0)))
noncomputable def gcdB (s : Int × Int) : Option (Int × Int) := ob (some s.2) fun x6 => ob (modO s.1 s.2) fun x7 => some (x6, x7)
theorem fmod_nat (a b : Nat) : Int.fmod (Int.ofNat a) (Int.ofNat (b + 1)) = Int.ofNat (a % (b + 1)) := by
  cases a with
  | zero => show (0 : Int) = Int.ofNat (0 % (b + 1)); rw [Nat.zero_mod]; rfl
  | succ a => rfl
theorem gcd_walk : ∀ (k n a b : Nat), a * b < 2 ^ k → b ≤ a → k + 1 ≤ n → whileO gcdC gcdB n (Int.ofNat a, Int.ofNat b) = some (Int.ofNat (Nat.gcd a b), Int.ofNat 0)
  | k, 0, a, b, h, hab, hn => by omega
  | k, n + 1, a, 0, h, hab, hn => by
    rw [Nat.gcd_zero_right]; rfl
  | k, n + 1, a, b + 1, h, hab, hn => by
    have hm : modO (Int.ofNat a) (Int.ofNat (b + 1)) = some (Int.ofNat (a % (b + 1))) := by
      show some (Int.fmod (Int.ofNat a) (Int.ofNat (b + 1))) = _
      rw [fmod_nat]
    have e1 : whileO gcdC gcdB (n + 1) (Int.ofNat a, Int.ofNat (b + 1)) = ob (modO (Int.ofNat a) (Int.ofNat (b + 1))) fun x7 => whileO gcdC gcdB n (Int.ofNat (b + 1), x7) := by
      show ob (ob (modO (Int.ofNat a) (Int.ofNat (b + 1))) fun x7 => some (Int.ofNat (b + 1), x7)) (whileO gcdC gcdB n) = _
      rw [hm]; rfl
    rw [e1, hm]
    show whileO gcdC gcdB n (Int.ofNat (b + 1), Int.ofNat (a % (b + 1))) = _
    rw [Nat.gcd_comm a, Nat.gcd_rec (b + 1) a, Nat.gcd_comm]
    have hr : a % (b + 1) < b + 1 := Nat.mod_lt _ (Nat.succ_pos _)
    cases k with
    | zero =>
      have : 1 * 1 ≤ a * (b + 1) := Nat.mul_le_mul (by omega) (by omega)
      simp at h
      omega
    | succ k =>
      refine gcd_walk k n (b + 1) (a % (b + 1)) ?_ (by omega) (by omega)
      have h2 : 2 * (a % (b + 1)) ≤ a := by
        have hd := Nat.div_add_mod a (b + 1)
        have hq : 1 ≤ a / (b + 1) := (Nat.one_le_div_iff (Nat.succ_pos _)).mpr hab
        have : (b + 1) * 1 ≤ (b + 1) * (a / (b + 1)) := Nat.mul_le_mul_left _ hq
        omega
      have h3 : (b + 1) * (2 * (a % (b + 1))) ≤ (b + 1) * a := Nat.mul_le_mul_left _ h2
      have h4 : (b + 1) * (2 * (a % (b + 1))) = 2 * ((b + 1) * (a % (b + 1))) := by rw [← Nat.mul_assoc, Nat.mul_comm (b + 1) 2, Nat.mul_assoc]
      have h5 : 2 ^ (k + 1) = 2 * 2 ^ k := by rw [Nat.pow_succ]; omega
      have h6 : (b + 1) * a = a * (b + 1) := Nat.mul_comm ..
      omega
noncomputable def P_gcd (a b : Int) : Option Int := bsel (small a) (bsel (small b) (some (Int.ofNat (Nat.gcd (iabsN a) (iabsN b)))) none) none
set_option exponentiation.threshold 5000 in
theorem KB_lt : KB < 2 ^ 1001 := by decide +kernel
set_option exponentiation.threshold 5000 in
theorem gcd_fast {a b r : Int} (h : P_gcd a b = some r) : P_gcd0 a b = some r := by
  obtain ⟨h1, h⟩ := bsel_none h
  obtain ⟨h2, h⟩ := bsel_none h
  cases h
  have h1 := Nat.le_of_ble_eq_true h1
  have h2 := Nat.le_of_ble_eq_true h2
  show ob (whileO gcdC gcdB WF (Int.ofNat (iabsN a), Int.ofNat (iabsN b))) (fun s5 => some s5.1) = _
  generalize iabsN a = x at h1 h2 ⊢
  generalize iabsN b = y at h1 h2 ⊢
  have hk := KB_lt
  have key : ∀ n u v : Nat, 2005 ≤ n → u ≤ KB → v ≤ KB → v ≤ u → whileO gcdC gcdB n (Int.ofNat u, Int.ofNat v) = some (Int.ofNat (Nat.gcd u v), Int.ofNat 0) := by
    intro n u v hn hu hv huv
    refine gcd_walk 2002 n u v ?_ huv (by omega)
    have h3 : u * v ≤ KB * KB := Nat.mul_le_mul hu hv
    have h4 : KB * KB < 2 ^ 1001 * 2 ^ 1001 := Nat.mul_lt_mul'' hk hk
    rw [← Nat.pow_add] at h4
    omega
  have hWF : WF = 9999 + 1 := rfl
  by_cases q : y ≤ x
  · rw [key WF x y (by rw [hWF]; omega) h1 h2 q]; rfl
  · cases y with
    | zero => omega
    | succ y =>
      have hm : modO (Int.ofNat x) (Int.ofNat (y + 1)) = some (Int.ofNat x) := by
        show some (Int.fmod (Int.ofNat x) (Int.ofNat (y + 1))) = _
        rw [fmod_nat, Nat.mod_eq_of_lt (by omega)]
      have e1 : whileO gcdC gcdB (9999 + 1) (Int.ofNat x, Int.ofNat (y + 1)) = ob (modO (Int.ofNat x) (Int.ofNat (y + 1))) fun x7 => whileO gcdC gcdB 9999 (Int.ofNat (y + 1), x7) := by
        show ob (ob (modO (Int.ofNat x) (Int.ofNat (y + 1))) fun x7 => some (Int.ofNat (y + 1), x7)) (whileO gcdC gcdB 9999) = _
        rw [hm]; rfl
      rw [hWF, e1, hm]
      show ob (whileO gcdC gcdB 9999 (Int.ofNat (y + 1), Int.ofNat x)) (fun s5 => some s5.1) = _
      rw [key 9999 (y + 1) x (by omega) h2 h1 (by omega), Nat.gcd_comm]; rfl
theorem t_gcd (n : Nat) (h : 1 ≤ n) (a b : Int) : Con (I n) 0 [eI a, eI b] eI (P_gcd a b) := fun d r e => t_gcd0 n h a b d r (gcd_fast e)
end
end Mine
-- NE
namespace Mine
noncomputable section
noncomputable def P_ztrim (p_row : (List Int)) : Option (List Int) := (ob (some (ilen p_row)) fun x1 => (ob (whileO (σ := (Int)) (fun s4 => (bsel (ilt (Int.ofNat 0) s4) (ob (idxO p_row (isub s4 (Int.ofNat 1))) fun x5 => (some (ieq x5 (Int.ofNat 0)))) (some false))) (fun s4 => (ob (some (Int.ofNat 1)) fun x7 => ob (some (isub s4 x7)) fun x6 => (some x6))) WF x1) fun s4 => (some (uptoT p_row s4))))
theorem t_ztrim (n : Nat) (h : 1 ≤ n) (p_row : (List Int)) : Con (I n) 2 [(eL eI) p_row] (eL eI) (P_ztrim p_row) := by
  obtain ⟨m, rfl⟩ : ∃ m, n = m + 1 := ⟨n - 1, by omega⟩
  exact con_of (np := F_ztrim.ps.length) (nv := F_ztrim.vars.length) (b := b_ztrim) (by kernel_rfl) rfl (fr0 := [some (false, (eL eI) p_row), none]) rfl rfl (tb_asg (te_len_t (te_bvar rfl)) (fun x1 => tb_while (Φ := (fun (s2 : (Int)) (f3 : Frm) => f3 = ([some (false, (eL eI) p_row), some (false, eI s2)] : Frm))) rfl (by rintro s4 _ rfl; exact te_and_t (te_gt_tt (te_bvar rfl) (te_int)) (te_eq_pt (te_idx_tt (te_bvar rfl) (te_sub_tt (te_var rfl) (te_int))) (te_int))) (by rintro s4 _ rfl; exact tb_sub rfl (te_int) (fun x6 => tb_end ⟨.inl rfl, rfl⟩)) (by rintro s4 _ rfl; exact tb_retR (te_copy_t (te_upto_tt (te_var rfl) (te_var rfl))))))

noncomputable def P_zdegree (p_p : (List Int)) : Option Int := (some (isub (ilen p_p) (Int.ofNat 1)))
theorem t_zdegree (n : Nat) (h : 1 ≤ n) (p_p : (List Int)) : Con (I n) 3 [(eL eI) p_p] eI (P_zdegree p_p) := by
  obtain ⟨m, rfl⟩ : ∃ m, n = m + 1 := ⟨n - 1, by omega⟩
  exact con_of (np := F_zdegree.ps.length) (nv := F_zdegree.vars.length) (b := b_zdegree) (by kernel_rfl) rfl (fr0 := [some (false, (eL eI) p_p)]) rfl rfl (tb_retR (te_sub_tt (te_len_t (te_bvar rfl)) (te_int)))

noncomputable def P_zlead (p_p : (List Int)) : Option Int := (bsel (ilt (Int.ofNat 0) (ilen p_p)) (idxO p_p (ineg (Int.ofNat 1))) (some (Int.ofNat 0)))
theorem t_zlead (n : Nat) (h : 1 ≤ n) (p_p : (List Int)) : Con (I n) 4 [(eL eI) p_p] eI (P_zlead p_p) := by
  obtain ⟨m, rfl⟩ : ∃ m, n = m + 1 := ⟨n - 1, by omega⟩
  exact con_of (np := F_zlead.ps.length) (nv := F_zlead.vars.length) (b := b_zlead) (by kernel_rfl) rfl (fr0 := [some (false, (eL eI) p_p)]) rfl rfl (tb_retR (te_ite_t (te_gt_tt (te_len_t (te_bvar rfl)) (te_int)) (te_idx_tt (te_bvar rfl) (te_neg_t (te_int))) (te_int)))

noncomputable def P_zneg (p_p : (List Int)) : Option (List Int) := (ob (some p_p) fun x2 => some (mapT (fun v1 => (ineg v1)) x2))
theorem t_zneg (n : Nat) (h : 1 ≤ n) (p_p : (List Int)) : Con (I n) 6 [(eL eI) p_p] (eL eI) (P_zneg p_p) := by
  obtain ⟨m, rfl⟩ : ∃ m, n = m + 1 := ⟨n - 1, by omega⟩
  exact con_of (np := F_zneg.ps.length) (nv := F_zneg.vars.length) (b := b_zneg) (by kernel_rfl) rfl (fr0 := [some (false, (eL eI) p_p)]) rfl rfl (tb_retR (te_comp0t (ti_seq (te_var rfl)) (fun v1 => te_neg_t (te_var rfl))))

noncomputable def P_zscale (p_p : (List Int)) (p_k : Int) : Option (List Int) := (bsel (bnot (ieq p_k (Int.ofNat 0))) (ob (some p_p) fun x2 => mapO (fun v1 => (mulO v1 p_k)) x2) (some ([] : List Int)))
theorem t_zscale (n : Nat) (h : 1 ≤ n) (p_p : (List Int)) (p_k : Int) : Con (I n) 8 [(eL eI) p_p, eI p_k] (eL eI) (P_zscale p_p p_k) := by
  obtain ⟨m, rfl⟩ : ∃ m, n = m + 1 := ⟨n - 1, by omega⟩
  exact con_of (np := F_zscale.ps.length) (nv := F_zscale.vars.length) (b := b_zscale) (by kernel_rfl) rfl (fr0 := [some (false, (eL eI) p_p), some (false, eI p_k)]) rfl rfl (tb_retR (te_ite_t (te_ne_tt (te_bvar rfl) (te_int)) (te_comp0 (ti_seq (te_var rfl)) (fun v1 => te_mul_tt (te_var rfl) (te_var rfl))) (te_lst (tl_nil))))

noncomputable def P_zraise (p_p : (List Int)) (p_many : Int) : Option (List Int) := (bsel (ilt (Int.ofNat 0) (ilen p_p)) (ob (repO (Int.ofNat 0) p_many) fun x1 => (appO x1 p_p)) (some ([] : List Int)))
theorem t_zraise (n : Nat) (h : 1 ≤ n) (p_p : (List Int)) (p_many : Int) : Con (I n) 9 [(eL eI) p_p, eI p_many] (eL eI) (P_zraise p_p p_many) := by
  obtain ⟨m, rfl⟩ : ∃ m, n = m + 1 := ⟨n - 1, by omega⟩
  exact con_of (np := F_zraise.ps.length) (nv := F_zraise.vars.length) (b := b_zraise) (by kernel_rfl) rfl (fr0 := [some (false, (eL eI) p_p), some (false, eI p_many)]) rfl rfl (tb_retR (te_ite_t (te_gt_tt (te_len_t (te_bvar rfl)) (te_int)) (te_addL_pt (te_rep_t (te_int) (te_var rfl)) (te_copy_t (te_var rfl))) (te_lst (tl_nil))))

noncomputable def P_zdivided (p_p : (List Int)) (p_k : Int) : Option (List Int) := (ob (some p_p) fun x2 => mapO (fun v1 => (divO v1 p_k)) x2)
theorem t_zdivided (n : Nat) (h : 1 ≤ n) (p_p : (List Int)) (p_k : Int) : Con (I n) 11 [(eL eI) p_p, eI p_k] (eL eI) (P_zdivided p_p p_k) := by
  obtain ⟨m, rfl⟩ : ∃ m, n = m + 1 := ⟨n - 1, by omega⟩
  exact con_of (np := F_zdivided.ps.length) (nv := F_zdivided.vars.length) (b := b_zdivided) (by kernel_rfl) rfl (fr0 := [some (false, (eL eI) p_p), some (false, eI p_k)]) rfl rfl (tb_retR (te_comp0 (ti_seq (te_var rfl)) (fun v1 => te_div_tt (te_var rfl) (te_var rfl))))

noncomputable def P_zshift (p_p : (List Int)) (p_n : Int) : Option (List Int) := (ob (some p_p) fun x1 => (ob (ob (some (isub (ilen p_p) (Int.ofNat 1))) fun x2 => rng1O x2) fun x25 => ob (foldO (σ := ((List Int))) (fun s7 x10 => (ob (ob (some (isub (ilen p_p) (Int.ofNat 2))) fun x11 => (ob (some (isub x10 (Int.ofNat 1))) fun x12 => rng3O x11 x12)) fun x24 => ob (foldO (σ := ((List Int))) (fun s16 x18 => (ob (some x18) fun x20 => ob (getI s16 x20) fun x21 => ob (ob (idxO s16 (iadd x18 (Int.ofNat 1))) fun x19 => (mulO p_n x19)) fun x22 => ob (setO s16 x20 (iadd x21 x22)) fun x23 => (some x23))) x24 s7) fun s16 => (some s16))) x25 x1) fun s7 => (some s7)))
theorem t_zshift (n : Nat) (h : 1 ≤ n) (p_p : (List Int)) (p_n : Int) : Con (I n) 13 [(eL eI) p_p, eI p_n] (eL eI) (P_zshift p_p p_n) := by
  obtain ⟨m, rfl⟩ : ∃ m, n = m + 1 := ⟨n - 1, by omega⟩
  exact con_of (np := F_zshift.ps.length) (nv := F_zshift.vars.length) (b := b_zshift) (by kernel_rfl) rfl (fr0 := [some (false, (eL eI) p_p), some (false, eI p_n), none, none, none]) rfl rfl (tb_asg (te_copy_t (te_var rfl)) (fun x1 => tb_for (Φ := (fun (s3 : ((List Int))) (f4 : Frm) => ∃ (g5 : Cell) (g6 : Cell), f4 = ([some (false, (eL eI) p_p), some (false, eI p_n), some (true, (eL eI) s3), g5, g6] : Frm))) (ti_rng1 (te_sub_tt (te_len_t (te_bvar rfl)) (te_int))) ⟨_, _, rfl⟩ (by rintro s7 x10 _ ⟨g8, g9, rfl⟩; exact ⟨_, rfl, tb_for (Φ := (fun (s13 : ((List Int))) (f14 : Frm) => ∃ (g15 : Cell), f14 = ([some (false, (eL eI) p_p), some (false, eI p_n), some (true, (eL eI) s13), some (false, eI x10), g15] : Frm))) (ti_rng3 (te_sub_tt (te_len_t (te_bvar rfl)) (te_int)) (te_sub_tt (te_var rfl) (te_int))) ⟨_, rfl⟩ (by rintro s16 x18 _ ⟨g17, rfl⟩; exact ⟨_, rfl, tb_augI rfl (te_var rfl) (te_mul_tp (te_var rfl) (te_idx_tt (te_bvar rfl) (te_add_tt (te_var rfl) (te_int)))) (fun x23 => tb_end ⟨.inl rfl, _, rfl⟩)⟩) (by rintro s16 _ ⟨g17, rfl⟩; exact tb_end ⟨.inl rfl, _, _, rfl⟩)⟩) (by rintro s7 _ ⟨g8, g9, rfl⟩; exact tb_share rfl (tb_retR (te_var rfl)))))

noncomputable def P_check_bottom (p_p : (List Int)) : Option Unit := (bsel (ieq (ilen p_p) (Int.ofNat 0)) none (some ()))
theorem t_check_bottom (n : Nat) (h : 1 ≤ n) (p_p : (List Int)) : Con (I n) 14 [(eL eI) p_p] eN (P_check_bottom p_p) := by
  obtain ⟨m, rfl⟩ : ∃ m, n = m + 1 := ⟨n - 1, by omega⟩
  exact con_ofN (np := F_check_bottom.ps.length) (nv := F_check_bottom.vars.length) (b := b_check_bottom) (by kernel_rfl) rfl (fr0 := [some (false, (eL eI) p_p)]) rfl rfl (tb_iteX (te_eq_tt (te_len_t (te_bvar rfl)) (te_int)) (tb_fail) (tb_end rfl))

noncomputable def P_divided (p_p : (List Int)) (p_number : Int) : Option (List Int) := (ob (some p_p) fun x2 => mapO (fun v1 => (divO v1 p_number)) x2)
theorem t_divided (n : Nat) (h : 1 ≤ n) (p_p : (List Int)) (p_number : Int) : Con (I n) 16 [(eL eI) p_p, eI p_number] (eL eI) (P_divided p_p p_number) := by
  obtain ⟨m, rfl⟩ : ∃ m, n = m + 1 := ⟨n - 1, by omega⟩
  exact con_of (np := F_divided.ps.length) (nv := F_divided.vars.length) (b := b_divided) (by kernel_rfl) rfl (fr0 := [some (false, (eL eI) p_p), some (false, eI p_number)]) rfl rfl (tb_retR (te_comp0 (ti_seq (te_var rfl)) (fun v1 => te_div_tt (te_var rfl) (te_var rfl))))

noncomputable def P_first_differences (p_numbers : (List Int)) : Option (List Int) := (ob (some ([] : List Int)) fun x1 => (ob (whileO (σ := ((List Int) × (List Int))) (fun s4 => (some (ilt (Int.ofNat 0) (ilen s4.2)))) (fun s4 => (ob (idxO s4.2 (Int.ofNat 0)) fun x5 => ob (snocO s4.1 x5) fun x6 => (ob (ob (ob (some (isub (ilen s4.2) (Int.ofNat 1))) fun x7 => rng1O x7) fun x11 => mapO (fun v8 => (ob (idxO s4.2 (iadd v8 (Int.ofNat 1))) fun x9 => (ob (idxO s4.2 v8) fun x10 => (some (isub x9 x10))))) x11) fun x12 => (some (x6, x12))))) WF (x1, p_numbers)) fun s4 => (some s4.1)))
theorem t_first_differences (n : Nat) (h : 1 ≤ n) (p_numbers : (List Int)) : Con (I n) 21 [(eL eI) p_numbers] (eL eI) (P_first_differences p_numbers) := by
  obtain ⟨m, rfl⟩ : ∃ m, n = m + 1 := ⟨n - 1, by omega⟩
  exact con_of (np := F_first_differences.ps.length) (nv := F_first_differences.vars.length) (b := b_first_differences) (by kernel_rfl) rfl (fr0 := [some (false, (eL eI) p_numbers), none]) rfl rfl (tb_asg (te_lst (tl_nil)) (fun x1 => tb_while (Φ := (fun (s2 : ((List Int) × (List Int))) (f3 : Frm) => f3 = ([some (false, (eL eI) s2.2), some (true, (eL eI) s2.1)] : Frm))) rfl (by rintro s4 _ rfl; exact te_gt_tt (te_len_t (te_bvar rfl)) (te_int)) (by rintro s4 _ rfl; exact tb_append rfl (te_idx_tt (te_bvar rfl) (te_int)) (fun x6 => tb_asg (te_comp0 (ti_rng1 (te_sub_tt (te_len_t (te_bvar rfl)) (te_int))) (fun v8 => te_sub_pp (te_idx_tt (te_bvar rfl) (te_add_tt (te_var rfl) (te_int))) (te_idx_tt (te_bvar rfl) (te_var rfl)))) (fun x12 => tb_share rfl (tb_end ⟨.inl rfl, rfl⟩)))) (by rintro s4 _ rfl; exact tb_share rfl (tb_retR (te_var rfl)))))

noncomputable def P_zeros_on0 (p_differences : (List Int)) (p_last : Int) : Option (List Int) := (ob (some p_differences) fun x1 => (ob (some ([] : List Int)) fun x2 => (ob (ob (some (iadd p_last (Int.ofNat 1))) fun x3 => rng1O x3) fun x33 => ob (foldO (σ := ((List Int) × (List Int))) (fun s8 x11 => (ob (ob (idxO s8.2 (Int.ofNat 0)) fun x12 => (some (ieq x12 (Int.ofNat 0)))) fun x32 => (ob (bsel x32 (ob (some x11) fun x16 => ob (snocO s8.1 x16) fun x17 => (some x17)) (some s8.1)) fun s18 => (ob (ob (some (isub (ilen s8.2) (Int.ofNat 1))) fun x20 => rng1O x20) fun x31 => ob (foldO (σ := ((List Int))) (fun s24 x26 => (ob (some x26) fun x27 => ob (getI s24 x27) fun x28 => ob (idxO s24 (iadd x26 (Int.ofNat 1))) fun x29 => ob (setO s24 x27 (iadd x28 x29)) fun x30 => (some x30))) x31 s8.2) fun s24 => (some (s18, s24)))))) x33 (x2, x1)) fun s8 => (some s8.1))))
theorem t_zeros_on0 (n : Nat) (h : 1 ≤ n) (p_differences : (List Int)) (p_last : Int) : Con (I n) 22 [(eL eI) p_differences, eI p_last] (eL eI) (P_zeros_on0 p_differences p_last) := by
  obtain ⟨m, rfl⟩ : ∃ m, n = m + 1 := ⟨n - 1, by omega⟩
  exact con_of (np := F_zeros_on.ps.length) (nv := F_zeros_on.vars.length) (b := b_zeros_on) (by kernel_rfl) rfl (fr0 := [some (false, (eL eI) p_differences), some (false, eI p_last), none, none, none, none]) rfl rfl (tb_asg2_2 (te_copy_t (te_var rfl)) (te_lst (tl_nil)) (fun x1 x2 => ⟨_, rfl, tb_for (Φ := (fun (s4 : ((List Int) × (List Int))) (f5 : Frm) => ∃ (g6 : Cell) (g7 : Cell), f5 = ([some (false, (eL eI) p_differences), some (false, eI p_last), some (true, (eL eI) s4.2), some (true, (eL eI) s4.1), g6, g7] : Frm))) (ti_rng1 (te_add_tt (te_var rfl) (te_int))) ⟨_, _, rfl⟩ (by rintro s8 x11 _ ⟨g9, g10, rfl⟩; exact ⟨_, rfl, tb_iteM (Φ := (fun (s13 : ((List Int))) (f14 : Frm) => ∃ (g15 : Cell), f14 = ([some (false, (eL eI) p_differences), some (false, eI p_last), some (true, (eL eI) s8.2), some (true, (eL eI) s13), some (false, eI x11), g15] : Frm))) (te_eq_pt (te_idx_tt (te_bvar rfl) (te_int)) (te_int)) (tb_append rfl (te_var rfl) (fun x17 => tb_end ⟨rfl, _, rfl⟩)) (tb_end ⟨rfl, _, rfl⟩) (by rintro s18 _ ⟨g19, rfl⟩; exact tb_for (Φ := (fun (s21 : ((List Int))) (f22 : Frm) => ∃ (g23 : Cell), f22 = ([some (false, (eL eI) p_differences), some (false, eI p_last), some (true, (eL eI) s21), some (true, (eL eI) s18), some (false, eI x11), g23] : Frm))) (ti_rng1 (te_sub_tt (te_len_t (te_bvar rfl)) (te_int))) ⟨_, rfl⟩ (by rintro s24 x26 _ ⟨g25, rfl⟩; exact ⟨_, rfl, tb_augI rfl (te_var rfl) (te_idx_tt (te_bvar rfl) (te_add_tt (te_var rfl) (te_int))) (fun x30 => tb_end ⟨.inl rfl, _, rfl⟩)⟩) (by rintro s24 _ ⟨g25, rfl⟩; exact tb_end ⟨.inl rfl, _, _, rfl⟩))⟩) (by rintro s8 _ ⟨g9, g10, rfl⟩; exact tb_share rfl (tb_retR (te_var rfl)))⟩))

/-! zeros_on, quick: a turn of the inner loop is one pass -/
noncomputable def stepT (l : List Int) : List Int := @List.rec Int (fun _ => List Int) [] (fun x r ih => @List.rec Int (fun _ => List Int) [x] (fun y _ _ => iadd x y :: ih) r) l
theorem stepT_len : ∀ l : List Int, (stepT l).length = l.length
  | [] => rfl
  | [_] => rfl
  | x :: y :: t => congrArg (· + 1) (stepT_len (y :: t))
noncomputable def zIn (s : List Int) (x26 : Int) : Option (List Int) := ob (some x26) fun x27 => ob (getI s x27) fun x28 => ob (idxO s (iadd x26 (Int.ofNat 1))) fun x29 => ob (setO s x27 (iadd x28 x29)) fun x30 => some x30
theorem getO_app {α : Type} (x : α) (t : List α) : ∀ pre : List α, getO (pre ++ x :: t) pre.length = some x
  | [] => rfl
  | _ :: r => getO_app x t r
theorem setT_app {α : Type} (x v : α) (t : List α) : ∀ pre : List α, setT (pre ++ x :: t) pre.length v = some (pre ++ v :: t)
  | [] => rfl
  | a :: r => by show ob (setT (r ++ x :: t) r.length v) (fun r' => some (a :: r')) = _; rw [setT_app x v t r]; rfl
theorem zIn_at (pre : List Int) (x y : Int) (t : List Int) : zIn (pre ++ x :: y :: t) (Int.ofNat pre.length) = some (pre ++ iadd x y :: y :: t) := by
  show ob (getO (pre ++ x :: y :: t) pre.length) (fun x28 => ob (getO (pre ++ x :: y :: t) (pre.length + 1)) fun x29 => ob (setT (pre ++ x :: y :: t) pre.length (iadd x28 x29)) fun x30 => some x30) = _
  have h := getO_app y t (pre ++ [x])
  rw [List.append_assoc, List.length_append] at h
  rw [getO_app, show getO (pre ++ x :: y :: t) (pre.length + 1) = some y from h]
  show ob (setT (pre ++ x :: y :: t) pre.length (iadd x y)) (fun x30 => some x30) = _
  rw [setT_app]; rfl
theorem zIn_all : ∀ (t pre : List Int) (x : Int), foldO zIn (rngF t.length pre.length) (pre ++ x :: t) = some (pre ++ stepT (x :: t))
  | [], _, _ => rfl
  | y :: t, pre, x => by
    show ob (zIn (pre ++ x :: y :: t) (Int.ofNat pre.length)) (foldO zIn (rngF t.length (pre.length + 1))) = _
    rw [zIn_at]
    have h := zIn_all t (pre ++ [iadd x y]) y
    rw [List.append_assoc, List.append_assoc, List.length_append] at h
    exact h
noncomputable def zOld (s : List Int × List Int) (x11 : Int) : Option (List Int × List Int) := ob (ob (idxO s.2 (Int.ofNat 0)) fun x12 => some (ieq x12 (Int.ofNat 0))) fun x32 => ob (bsel x32 (ob (some x11) fun x16 => ob (snocO s.1 x16) fun x17 => some x17) (some s.1)) fun s18 =>
  ob (ob (some (isub (ilen s.2) (Int.ofNat 1))) fun x20 => rng1O x20) fun x31 => ob (foldO zIn x31 s.2) fun s24 => some (s18, s24)
noncomputable def zNew (s : List Int × List Int) (x : Int) : Option (List Int × List Int) := ob (idxO s.2 (Int.ofNat 0)) fun h => ob (bsel (ieq h (Int.ofNat 0)) (snocO s.1 x) (some s.1)) fun f => some (f, stepT s.2)
theorem ob_id {α : Type} (o : Option α) : ob o (fun x => some x) = o := by cases o <;> rfl
theorem zNew_eq (s : List Int × List Int) (x : Int) (h : inLim (isub (ilen s.2) (Int.ofNat 1)) = true) : zOld s x = zNew s x := by
  obtain ⟨f, l⟩ := s
  cases l with
  | nil => rfl
  | cons y t =>
    have e : isub (ilen (y :: t)) (Int.ofNat 1) = Int.ofNat t.length := by rw [isub_eq]; show ((llen (y :: t) : Nat) : Int) - 1 = (t.length : Int); rw [llen_eq, List.length_cons]; omega
    have e2 : ob (ob (some (isub (ilen (y :: t)) (Int.ofNat 1))) fun x20 => rng1O x20) (fun x31 => foldO zIn x31 (y :: t)) = some (stepT (y :: t)) := by
      show ob (bsel (inLim _) (some (rngF (tnat (isub (ilen (y :: t)) (Int.ofNat 1))) 0)) none) _ = _
      rw [h, e]
      exact zIn_all t [] y
    show ob (bsel (ieq y (Int.ofNat 0)) (ob (snocO f x) fun x17 => some x17) (some f)) (fun s18 => ob (ob (some (isub (ilen (y :: t)) (Int.ofNat 1))) fun x20 => rng1O x20) fun x31 => ob (foldO zIn x31 (y :: t)) fun s24 => some (s18, s24)) =
      ob (bsel (ieq y (Int.ofNat 0)) (snocO f x) (some f)) fun f => some (f, stepT (y :: t))
    rw [ob_id]
    cases bsel (ieq y (Int.ofNat 0)) (snocO f x) (some f) with
    | none => rfl
    | some g =>
      show ob (rng1O (isub (ilen (y :: t)) (Int.ofNat 1))) (fun x31 => ob (foldO zIn x31 (y :: t)) fun s24 => some (g, s24)) = some (g, stepT (y :: t))
      obtain ⟨xs, e3, e4⟩ := ob_some (show ob (rng1O (isub (ilen (y :: t)) (Int.ofNat 1))) (fun x31 => foldO zIn x31 (y :: t)) = some (stepT (y :: t)) from e2)
      rw [e3]
      show ob (foldO zIn xs (y :: t)) _ = _
      rw [e4]; rfl
theorem zNew_len {s r : List Int × List Int} {x : Int} (h : zNew s x = some r) : r.2.length = s.2.length := by
  obtain ⟨_, _, h⟩ := ob_some h
  obtain ⟨_, _, h⟩ := ob_some h
  cases h
  exact stepT_len _
theorem zAll (n : Nat) (hn : inLim (isub (Int.ofNat n) (Int.ofNat 1)) = true) : ∀ (xs : List Int) (s r : List Int × List Int), s.2.length = n → foldO zNew xs s = some r → foldO zOld xs s = some r
  | [], _, _, _, h => h
  | x :: xs, s, r, hl, h => by
    obtain ⟨s1, e1, e2⟩ := ob_some (show ob (zNew s x) (foldO zNew xs) = some r from h)
    have e3 := zNew_eq s x (by unfold ilen; rw [llen_eq, hl]; exact hn)
    show ob (zOld s x) (foldO zOld xs) = _
    rw [e3, e1]
    exact zAll n hn xs s1 r ((zNew_len e1).trans hl) e2
noncomputable def P_zeros_on (p_differences : (List Int)) (p_last : Int) : Option (List Int) := bsel (inLim (isub (ilen p_differences) (Int.ofNat 1))) (ob (rng1O (iadd p_last (Int.ofNat 1))) fun x33 => ob (foldO zNew x33 ([], p_differences)) fun s8 => some s8.1) none
theorem zeros_fast {ds : List Int} {last : Int} {r : List Int} (h : P_zeros_on ds last = some r) : P_zeros_on0 ds last = some r := by
  obtain ⟨h1, h⟩ := bsel_none h
  obtain ⟨xs, h2, h⟩ := ob_some h
  obtain ⟨s, h3, h⟩ := ob_some h
  show ob (rng1O (iadd last (Int.ofNat 1))) (fun x33 => ob (foldO zOld x33 ([], ds)) fun s8 => some s8.1) = _
  rw [h2]
  show ob (foldO zOld xs ([], ds)) (fun s8 => some s8.1) = _
  rw [zAll ds.length (by rw [← llen_eq]; exact h1) xs ([], ds) s rfl h3]
  exact h
theorem t_zeros_on (n : Nat) (h : 1 ≤ n) (p_differences : (List Int)) (p_last : Int) : Con (I n) 22 [(eL eI) p_differences, eI p_last] (eL eI) (P_zeros_on p_differences p_last) := fun d r e => t_zeros_on0 n h p_differences p_last d r (zeros_fast e)

noncomputable def P_rneg (p_a : (Int × Int)) : Option (Int × Int) := (some ((isub (Int.ofNat 0) p_a.1), p_a.2))
theorem t_rneg (n : Nat) (h : 1 ≤ n) (p_a : (Int × Int)) : Con (I n) 29 [(eT eI eI) p_a] (eT eI eI) (P_rneg p_a) := by
  obtain ⟨m, rfl⟩ : ∃ m, n = m + 1 := ⟨n - 1, by omega⟩
  exact con_of (np := F_rneg.ps.length) (nv := F_rneg.vars.length) (b := b_rneg) (by kernel_rfl) rfl (fr0 := [some (false, (eT eI eI) p_a)]) rfl rfl (tb_retR (te_tup2_tt (te_sub_tt (te_int) (te_fst_t (te_bvar rfl))) (te_snd_t (te_bvar rfl))))

noncomputable def P_ris_whole (p_a : (Int × Int)) : Option Bool := (some (ieq p_a.2 (Int.ofNat 1)))
theorem t_ris_whole (n : Nat) (h : 1 ≤ n) (p_a : (Int × Int)) : Con (I n) 32 [(eT eI eI) p_a] eB (P_ris_whole p_a) := by
  obtain ⟨m, rfl⟩ : ∃ m, n = m + 1 := ⟨n - 1, by omega⟩
  exact con_of (np := F_ris_whole.ps.length) (nv := F_ris_whole.vars.length) (b := b_ris_whole) (by kernel_rfl) rfl (fr0 := [some (false, (eT eI eI) p_a)]) rfl rfl (tb_retR (te_eq_tt (te_snd_t (te_bvar rfl)) (te_int)))

noncomputable def P_shape (p_a : (List (List (Int × Int)))) : Option (Int × Int) := (ob (bsel (ilt (Int.ofNat 0) (ilen p_a)) (ob (idxO p_a (Int.ofNat 0)) fun x1 => (some (ilen x1))) (some (Int.ofNat 0))) fun x2 => (some ((ilen p_a), x2)))
theorem t_shape (n : Nat) (h : 1 ≤ n) (p_a : (List (List (Int × Int)))) : Con (I n) 33 [(eL (eL (eT eI eI))) p_a] (eT eI eI) (P_shape p_a) := by
  obtain ⟨m, rfl⟩ : ∃ m, n = m + 1 := ⟨n - 1, by omega⟩
  exact con_of (np := F_shape.ps.length) (nv := F_shape.vars.length) (b := b_shape) (by kernel_rfl) rfl (fr0 := [some (false, (eL (eL (eT eI eI))) p_a)]) rfl rfl (tb_retR (te_tup2_tp (te_len_t (te_bvar rfl)) (te_ite_t (te_gt_tt (te_len_t (te_bvar rfl)) (te_int)) (te_len_p (te_idx_tt (te_bvar rfl) (te_int))) (te_int))))

noncomputable def P_need_shape (p_is_right : Bool) (p_text : PySem.Str) : Option Unit := (bsel (bnot p_is_right) none (some ()))
theorem t_need_shape (n : Nat) (h : 1 ≤ n) (p_is_right : Bool) (p_text : PySem.Str) : Con (I n) 34 [eB p_is_right, eS p_text] eN (P_need_shape p_is_right p_text) := by
  obtain ⟨m, rfl⟩ : ∃ m, n = m + 1 := ⟨n - 1, by omega⟩
  exact con_ofN (np := F_need_shape.ps.length) (nv := F_need_shape.vars.length) (b := b_need_shape) (by kernel_rfl) rfl (fr0 := [some (false, eB p_is_right), some (false, eS p_text)]) rfl rfl (tb_iteX (te_not_t (te_var rfl)) (tb_fail) (tb_end rfl))

noncomputable def P_copied (p_a : (List (List (Int × Int)))) : Option (List (List (Int × Int))) := (ob (some p_a) fun x2 => some (mapT (fun v1 => v1) x2))
theorem t_copied (n : Nat) (h : 1 ≤ n) (p_a : (List (List (Int × Int)))) : Con (I n) 30 [(eL (eL (eT eI eI))) p_a] (eL (eL (eT eI eI))) (P_copied p_a) := by
  obtain ⟨m, rfl⟩ : ∃ m, n = m + 1 := ⟨n - 1, by omega⟩
  exact con_of1 (np := F_copied.ps.length) (nv := F_copied.vars.length) (b := b_copied) (by kernel_rfl) rfl (fr0 := [some (false, (eL (eL (eT eI eI))) p_a)]) rfl (tb_retR1 (te_comp0t (ti_seq (te_var rfl)) (fun v1 => te_copy_t (te_var rfl))) (fun _ => rfl))

noncomputable def P_swap_rows (p_a : (List (List (Int × Int)))) (p_one : Int) (p_other : Int) : Option (List (List (Int × Int))) := (ob (idxO p_a p_other) fun x1 => ob (idxO p_a p_one) fun x2 => ob (setO p_a p_one x1) fun x3 => ob (setO x3 p_other x2) fun x4 => (some x4))
theorem t_swap_rows (n : Nat) (h : 1 ≤ n) (p_a : (List (List (Int × Int)))) (p_one : Int) (p_other : Int) : ConM (I n) 35 [eI p_one, eI p_other] (eL (eT eI eI)) p_a (P_swap_rows p_a p_one p_other) := by
  obtain ⟨m, rfl⟩ : ∃ m, n = m + 1 := ⟨n - 1, by omega⟩
  exact conM_of (np := F_swap_rows.ps.length) (nv := F_swap_rows.vars.length) (b := .cons b1_swap_rows .nil) (fun _ _ _ _ => rfl) rfl (fr0 := [some (true, (eL (eL (eT eI eI))) p_a), some (false, eI p_one), some (false, eI p_other)]) rfl (tb_swap rfl (Nat.le_of_ble_eq_true rfl) (te_idx_tt (te_bvar rfl) (te_var rfl)) (te_idx_tt (te_bvar rfl) (te_var rfl)) (te_var rfl) (fun _ => te_var rfl) (fun x4 => tb_end ⟨rfl, rfl⟩))

noncomputable def P_qtrim (p_row : (List (Int × Int))) : Option (List (Int × Int)) := (ob (some (ilen p_row)) fun x1 => (ob (whileO (σ := (Int)) (fun s4 => (bsel (ilt (Int.ofNat 0) s4) (ob (ob (idxO p_row (isub s4 (Int.ofNat 1))) fun x5 => (some x5.1)) fun x6 => (some (ieq x6 (Int.ofNat 0)))) (some false))) (fun s4 => (ob (some (Int.ofNat 1)) fun x8 => ob (some (isub s4 x8)) fun x7 => (some x7))) WF x1) fun s4 => (some (uptoT p_row s4))))
theorem t_qtrim (n : Nat) (h : 1 ≤ n) (p_row : (List (Int × Int))) : Con (I n) 40 [(eL (eT eI eI)) p_row] (eL (eT eI eI)) (P_qtrim p_row) := by
  obtain ⟨m, rfl⟩ : ∃ m, n = m + 1 := ⟨n - 1, by omega⟩
  exact con_of (np := F_qtrim.ps.length) (nv := F_qtrim.vars.length) (b := b_qtrim) (by kernel_rfl) rfl (fr0 := [some (false, (eL (eT eI eI)) p_row), none]) rfl rfl (tb_asg (te_len_t (te_bvar rfl)) (fun x1 => tb_while (Φ := (fun (s2 : (Int)) (f3 : Frm) => f3 = ([some (false, (eL (eT eI eI)) p_row), some (false, eI s2)] : Frm))) rfl (by rintro s4 _ rfl; exact te_and_t (te_gt_tt (te_bvar rfl) (te_int)) (te_eq_pt (te_fst_p (te_idx_tt (te_bvar rfl) (te_sub_tt (te_var rfl) (te_int)))) (te_int))) (by rintro s4 _ rfl; exact tb_sub rfl (te_int) (fun x7 => tb_end ⟨.inl rfl, rfl⟩)) (by rintro s4 _ rfl; exact tb_retR (te_copy_t (te_upto_tt (te_var rfl) (te_var rfl))))))

noncomputable def P_qdegree (p_p : (List (Int × Int))) : Option Int := (some (isub (ilen p_p) (Int.ofNat 1)))
theorem t_qdegree (n : Nat) (h : 1 ≤ n) (p_p : (List (Int × Int))) : Con (I n) 41 [(eL (eT eI eI)) p_p] eI (P_qdegree p_p) := by
  obtain ⟨m, rfl⟩ : ∃ m, n = m + 1 := ⟨n - 1, by omega⟩
  exact con_of (np := F_qdegree.ps.length) (nv := F_qdegree.vars.length) (b := b_qdegree) (by kernel_rfl) rfl (fr0 := [some (false, (eL (eT eI eI)) p_p)]) rfl rfl (tb_retR (te_sub_tt (te_len_t (te_bvar rfl)) (te_int)))

noncomputable def P_qlead (p_p : (List (Int × Int))) : Option (Int × Int) := (bsel (ilt (Int.ofNat 0) (ilen p_p)) (idxO p_p (ineg (Int.ofNat 1))) (some (Int.ofNat 0, Int.ofNat 1)))
theorem t_qlead (n : Nat) (h : 1 ≤ n) (p_p : (List (Int × Int))) : Con (I n) 42 [(eL (eT eI eI)) p_p] (eT eI eI) (P_qlead p_p) := by
  obtain ⟨m, rfl⟩ : ∃ m, n = m + 1 := ⟨n - 1, by omega⟩
  exact con_of (np := F_qlead.ps.length) (nv := F_qlead.vars.length) (b := b_qlead) (by kernel_rfl) rfl (fr0 := [some (false, (eL (eT eI eI)) p_p)]) rfl rfl (tb_retR (te_ite_t (te_gt_tt (te_len_t (te_bvar rfl)) (te_int)) (te_idx_tt (te_bvar rfl) (te_neg_t (te_int))) (te_R0)))

noncomputable def P_qraise (p_p : (List (Int × Int))) (p_many : Int) : Option (List (Int × Int)) := (bsel (ilt (Int.ofNat 0) (ilen p_p)) (ob (repO (Int.ofNat 0, Int.ofNat 1) p_many) fun x1 => (appO x1 p_p)) (some ([] : List (Int × Int))))
theorem t_qraise (n : Nat) (h : 1 ≤ n) (p_p : (List (Int × Int))) (p_many : Int) : Con (I n) 47 [(eL (eT eI eI)) p_p, eI p_many] (eL (eT eI eI)) (P_qraise p_p p_many) := by
  obtain ⟨m, rfl⟩ : ∃ m, n = m + 1 := ⟨n - 1, by omega⟩
  exact con_of (np := F_qraise.ps.length) (nv := F_qraise.vars.length) (b := b_qraise) (by kernel_rfl) rfl (fr0 := [some (false, (eL (eT eI eI)) p_p), some (false, eI p_many)]) rfl rfl (tb_retR (te_ite_t (te_gt_tt (te_len_t (te_bvar rfl)) (te_int)) (te_addL_pt (te_rep_t (te_R0) (te_var rfl)) (te_copy_t (te_var rfl))) (te_lst (tl_nil))))

noncomputable def P_coefficient_at (p_p : (List (Int × Int))) (p_power : Int) : Option (Int × Int) := (bsel (bsel (ile (Int.ofNat 0) p_power) (ilt p_power (ilen p_p)) false) (idxO p_p p_power) (some (Int.ofNat 0, Int.ofNat 1)))
theorem t_coefficient_at (n : Nat) (h : 1 ≤ n) (p_p : (List (Int × Int))) (p_power : Int) : Con (I n) 57 [(eL (eT eI eI)) p_p, eI p_power] (eT eI eI) (P_coefficient_at p_p p_power) := by
  obtain ⟨m, rfl⟩ : ∃ m, n = m + 1 := ⟨n - 1, by omega⟩
  exact con_of (np := F_coefficient_at.ps.length) (nv := F_coefficient_at.vars.length) (b := b_coefficient_at) (by kernel_rfl) rfl (fr0 := [some (false, (eL (eT eI eI)) p_p), some (false, eI p_power)]) rfl rfl (tb_retR (te_ite_t (te_lelt (te_int) (te_bvar rfl) (te_len_t (te_bvar rfl))) (te_idx_tt (te_bvar rfl) (te_var rfl)) (te_R0)))

noncomputable def P_trimmed (p_p : (List (Int × Int))) : Option (List (Int × Int)) := (ob (some (ilen p_p)) fun x1 => (ob (whileO (σ := (Int)) (fun s4 => (bsel (ilt (Int.ofNat 0) s4) (ob (idxO p_p (isub s4 (Int.ofNat 1))) fun x5 => (some (reqT x5 (Int.ofNat 0, Int.ofNat 1)))) (some false))) (fun s4 => (ob (some (Int.ofNat 1)) fun x7 => ob (some (isub s4 x7)) fun x6 => (some x6))) WF x1) fun s4 => (some (uptoT p_p s4))))
theorem t_trimmed (n : Nat) (h : 1 ≤ n) (p_p : (List (Int × Int))) : Con (I n) 61 [(eL (eT eI eI)) p_p] (eL (eT eI eI)) (P_trimmed p_p) := by
  obtain ⟨m, rfl⟩ : ∃ m, n = m + 1 := ⟨n - 1, by omega⟩
  exact con_of (np := F_trimmed.ps.length) (nv := F_trimmed.vars.length) (b := b_trimmed) (by kernel_rfl) rfl (fr0 := [some (false, (eL (eT eI eI)) p_p), none]) rfl rfl (tb_asg (te_len_t (te_bvar rfl)) (fun x1 => tb_while (Φ := (fun (s2 : (Int)) (f3 : Frm) => f3 = ([some (false, (eL (eT eI eI)) p_p), some (false, eI s2)] : Frm))) rfl (by rintro s4 _ rfl; exact te_and_t (te_gt_tt (te_bvar rfl) (te_int)) (te_eqR_pt (te_idx_tt (te_bvar rfl) (te_sub_tt (te_var rfl) (te_int))) (te_R0))) (by rintro s4 _ rfl; exact tb_sub rfl (te_int) (fun x6 => tb_end ⟨.inl rfl, rfl⟩)) (by rintro s4 _ rfl; exact tb_retR (te_upto_tt (te_var rfl) (te_var rfl)))))

noncomputable def P_law_mul (p_one : (List Int)) (p_other : (List Int)) : Option (List Int) := (bsel (bsel (nilT p_one) true (nilT p_other)) (some ([] : List Int)) (ob (repO (Int.ofNat 0) (isub (iadd (ilen p_one) (ilen p_other)) (Int.ofNat 1))) fun x1 => (ob (ob (some p_one) fun x2 => some (enumF x2 0)) fun x30 => ob (foldO (σ := ((List Int))) (fun s9 x14 => (ob (ob (some p_other) fun x15 => some (enumF x15 0)) fun x29 => ob (foldO (σ := ((List Int))) (fun s20 x23 => (ob (ob (idxO s20 (iadd x14.1 x23.1)) fun x24 => (ob (mulO x14.2 x23.2) fun x25 => (some (iadd x24 x25)))) fun x26 => ob (some (iadd x14.1 x23.1)) fun x27 => ob (setO s20 x27 x26) fun x28 => (some x28))) x29 s9) fun s20 => (some s20))) x30 x1) fun s9 => (some s9))))
theorem t_law_mul (n : Nat) (h : 1 ≤ n) (p_one : (List Int)) (p_other : (List Int)) : Con (I n) 65 [(eL eI) p_one, (eL eI) p_other] (eL eI) (P_law_mul p_one p_other) := by
  obtain ⟨m, rfl⟩ : ∃ m, n = m + 1 := ⟨n - 1, by omega⟩
  exact con_of (np := F_law_mul.ps.length) (nv := F_law_mul.vars.length) (b := b_law_mul) (by kernel_rfl) rfl (fr0 := [some (false, (eL eI) p_one), some (false, (eL eI) p_other), none, none, none, none, none]) rfl rfl (tb_iteX (te_or_tt (te_eqNilI_t (te_bvar rfl)) (te_eqNilI_t (te_bvar rfl))) (tb_retX (te_lst (tl_nil))) (tb_asg (te_rep_t (te_int) (te_sub_tt (te_add_tt (te_len_t (te_bvar rfl)) (te_len_t (te_bvar rfl))) (te_int))) (fun x1 => tb_for (Φ := (fun (s3 : ((List Int))) (f4 : Frm) => ∃ (g5 : Cell) (g6 : Cell) (g7 : Cell) (g8 : Cell), f4 = ([some (false, (eL eI) p_one), some (false, (eL eI) p_other), some (true, (eL eI) s3), g5, g6, g7, g8] : Frm))) (ti_enum (te_var rfl)) ⟨_, _, _, _, rfl⟩ (by rintro s9 x14 _ ⟨g10, g11, g12, g13, rfl⟩; exact ⟨_, rfl, tb_for (Φ := (fun (s16 : ((List Int))) (f17 : Frm) => ∃ (g18 : Cell) (g19 : Cell), f17 = ([some (false, (eL eI) p_one), some (false, (eL eI) p_other), some (true, (eL eI) s16), some (false, eI x14.1), some (false, eI x14.2), g18, g19] : Frm))) (ti_enum (te_var rfl)) ⟨_, _, rfl⟩ (by rintro s20 x23 _ ⟨g21, g22, rfl⟩; exact ⟨_, rfl, tb_setI rfl (te_add_pp (te_idx_tt (te_bvar rfl) (te_add_tt (te_var rfl) (te_var rfl))) (te_mul_tt (te_var rfl) (te_var rfl))) (te_add_tt (te_var rfl) (te_var rfl)) (fun x28 => tb_end ⟨.inl rfl, _, _, rfl⟩)⟩) (by rintro s20 _ ⟨g21, g22, rfl⟩; exact tb_end ⟨.inl rfl, _, _, _, _, rfl⟩)⟩) (by rintro s9 _ ⟨g10, g11, g12, g13, rfl⟩; exact tb_share rfl (tb_retR (te_var rfl))))))

noncomputable def P_law_quotients (p_p : (List Int)) : Option (List (Int × Int)) := (ob (some p_p) fun x2 => some (mapT (fun v1 => (v1, (Int.ofNat 1))) x2))
theorem t_law_quotients (n : Nat) (h : 1 ≤ n) (p_p : (List Int)) : Con (I n) 66 [(eL eI) p_p] (eL (eT eI eI)) (P_law_quotients p_p) := by
  obtain ⟨m, rfl⟩ : ∃ m, n = m + 1 := ⟨n - 1, by omega⟩
  exact con_of (np := F_law_quotients.ps.length) (nv := F_law_quotients.vars.length) (b := b_law_quotients) (by kernel_rfl) rfl (fr0 := [some (false, (eL eI) p_p)]) rfl rfl (tb_retR (te_comp0t (ti_seq (te_var rfl)) (fun v1 => te_tup2_tt (te_var rfl) (te_int))))

noncomputable def P_law_at (p_p : (List (Int × Int))) (p_n : Int) : Option (Int × Int) := (ob (some (Int.ofNat 0)) fun x1 => (ob (some (Int.ofNat 1)) fun x2 => (ob (some (revT p_p)) fun x14 => ob (foldO (σ := (Int × Int)) (fun s6 x8 => (ob (ob (ob (mulO s6.1 p_n) fun x9 => (mulO x9 x8.2)) fun x10 => (ob (mulO x8.1 s6.2) fun x11 => (some (iadd x10 x11)))) fun x12 => (ob (mulO s6.2 x8.2) fun x13 => (some (x12, x13))))) x14 (x1, x2)) fun s6 => (some (s6.1, s6.2)))))
theorem t_law_at (n : Nat) (h : 1 ≤ n) (p_p : (List (Int × Int))) (p_n : Int) : Con (I n) 67 [(eL (eT eI eI)) p_p, eI p_n] (eT eI eI) (P_law_at p_p p_n) := by
  obtain ⟨m, rfl⟩ : ∃ m, n = m + 1 := ⟨n - 1, by omega⟩
  exact con_of (np := F_law_at.ps.length) (nv := F_law_at.vars.length) (b := b_law_at) (by kernel_rfl) rfl (fr0 := [some (false, (eL (eT eI eI)) p_p), some (false, eI p_n), none, none, none]) rfl rfl (tb_asg2_2 (te_int) (te_int) (fun x1 x2 => ⟨_, rfl, tb_for (Φ := (fun (s3 : (Int × Int)) (f4 : Frm) => ∃ (g5 : Cell), f4 = ([some (false, (eL (eT eI eI)) p_p), some (false, eI p_n), some (false, eI s3.1), some (false, eI s3.2), g5] : Frm))) (ti_seq (te_revd_t (te_var rfl))) ⟨_, rfl⟩ (by rintro s6 x8 _ ⟨g7, rfl⟩; exact ⟨_, rfl, tb_asg2_2 (te_add_pp (te_mul_pt (te_mul_tt (te_var rfl) (te_var rfl)) (te_snd_t (te_bvar rfl))) (te_mul_tt (te_fst_t (te_bvar rfl)) (te_var rfl))) (te_mul_tt (te_var rfl) (te_snd_t (te_bvar rfl))) (fun x12 x13 => ⟨_, rfl, tb_share rfl (tb_share rfl (tb_end ⟨.inl rfl, _, rfl⟩))⟩)⟩) (by rintro s6 _ ⟨g7, rfl⟩; exact tb_retR (te_tup2_tt (te_var rfl) (te_var rfl)))⟩))

noncomputable def P_law_sum (p_one : (List Int)) (p_other : (List Int)) : Option (List Int) := (ob (some (imax (ilen p_one) (ilen p_other))) fun x1 => (ob (ob (ob (some x1) fun x2 => rng1O x2) fun x10 => mapO (fun v3 => (ob (ob (ob (repO (Int.ofNat 0) x1) fun x4 => (appO p_one x4)) fun x5 => (idxO x5 v3)) fun x8 => (ob (ob (ob (repO (Int.ofNat 0) x1) fun x6 => (appO p_other x6)) fun x7 => (idxO x7 v3)) fun x9 => (some (iadd x8 x9))))) x10) fun x11 => (ob (whileO (σ := ((List Int))) (fun s14 => (bsel (bnot (nilT s14)) (ob (idxO s14 (ineg (Int.ofNat 1))) fun x15 => (some (ieq x15 (Int.ofNat 0)))) (some false))) (fun s14 => (ob (popO s14) fun x16 => (some x16))) WF x11) fun s14 => (some s14))))
theorem t_law_sum (n : Nat) (h : 1 ≤ n) (p_one : (List Int)) (p_other : (List Int)) : Con (I n) 71 [(eL eI) p_one, (eL eI) p_other] (eL eI) (P_law_sum p_one p_other) := by
  obtain ⟨m, rfl⟩ : ∃ m, n = m + 1 := ⟨n - 1, by omega⟩
  exact con_of (np := F_law_sum.ps.length) (nv := F_law_sum.vars.length) (b := b_law_sum) (by kernel_rfl) rfl (fr0 := [some (false, (eL eI) p_one), some (false, (eL eI) p_other), none, none]) rfl rfl (tb_asg (te_max2_tt (te_len_t (te_bvar rfl)) (te_len_t (te_bvar rfl))) (fun x1 => tb_asg (te_comp0 (ti_rng1 (te_var rfl)) (fun v3 => te_add_pp (te_idx_pt (te_addL_tp (te_var rfl) (te_rep_t (te_int) (te_var rfl))) (te_var rfl)) (te_idx_pt (te_addL_tp (te_var rfl) (te_rep_t (te_int) (te_var rfl))) (te_var rfl)))) (fun x11 => tb_while (Φ := (fun (s12 : ((List Int))) (f13 : Frm) => f13 = ([some (false, (eL eI) p_one), some (false, (eL eI) p_other), some (false, eI x1), some (true, (eL eI) s12)] : Frm))) rfl (by rintro s14 _ rfl; exact te_and_t (te_neNilI_t (te_bvar rfl)) (te_eq_pt (te_idx_tt (te_bvar rfl) (te_neg_t (te_int))) (te_int))) (by rintro s14 _ rfl; exact tb_pop rfl (fun x16 => tb_end ⟨.inl rfl, rfl⟩)) (by rintro s14 _ rfl; exact tb_share rfl (tb_retR (te_var rfl))))))

noncomputable def P_law_known (p_n : Int) : Option ((List Int) × (List Int) × Bool) := (ob (some ([(([(Int.ofNat 0), (Int.ofNat 1)] : List Int), ([(Int.ofNat 1), (Int.ofNat 1)] : List Int), false), (([(Int.ofNat 1)] : List Int), ([(Int.ofNat 1), (Int.ofNat 1)] : List Int), false), (([(Int.ofNat 1), (Int.ofNat 1)] : List Int), ([(Int.ofNat 1)] : List Int), false), (([(Int.ofNat 1), (Int.ofNat 2), (Int.ofNat 1)] : List Int), ([(Int.ofNat 0), (Int.ofNat 1)] : List Int), true)] : List ((List Int) × (List Int) × Bool))) fun x1 => (ob (appO x1 ([(([(Int.ofNat 1), (Int.ofNat 2), (Int.ofNat 1)] : List Int), ([(Int.ofNat 0), (Int.ofNat 0), (Int.ofNat 1)] : List Int), true), (([(Int.ofNat 2)] : List Int), ([(Int.ofNat 1)] : List Int), true), (([(Int.ofNat 1)] : List Int), ([(Int.ofNat 1)] : List Int), true), (([(Int.ofNat 0), (Int.ofNat 2)] : List Int), ([(Int.ofNat 1), (Int.ofNat 1)] : List Int), false)] : List ((List Int) × (List Int) × Bool))) fun x2 => (ob (appO x2 ([(([(Int.ofNat 0), (Int.ofNat 1)] : List Int), ([(Int.ofNat 2), (Int.ofNat 1)] : List Int), true), (([(Int.ofNat 2), (Int.ofNat 2)] : List Int), ([(Int.ofNat 0), (Int.ofNat 1)] : List Int), true), (([(Int.ofNat 0), (Int.ofNat 0), (Int.ofNat 1)] : List Int), ([(Int.ofNat 1), (Int.ofNat 2), (Int.ofNat 1)] : List Int), false)] : List ((List Int) × (List Int) × Bool))) fun x3 => (ob (modO p_n (Int.ofNat 11)) fun x4 => (idxO x3 x4)))))
theorem t_law_known (n : Nat) (h : 1 ≤ n) (p_n : Int) : Con (I n) 74 [eI p_n] (eT3 (eL eI) (eL eI) eB) (P_law_known p_n) := by
  obtain ⟨m, rfl⟩ : ∃ m, n = m + 1 := ⟨n - 1, by omega⟩
  exact con_of (np := F_law_known.ps.length) (nv := F_law_known.vars.length) (b := b_law_known) (by kernel_rfl) rfl (fr0 := [some (false, eI p_n), none]) rfl rfl (tb_asg (te_lst (tl_cons (te_tup3_t (te_lst (tl_cons (te_int) (tl_cons (te_int) (tl_nil)))) (te_lst (tl_cons (te_int) (tl_cons (te_int) (tl_nil)))) (te_bool)) (tl_cons (te_tup3_t (te_lst (tl_cons (te_int) (tl_nil))) (te_lst (tl_cons (te_int) (tl_cons (te_int) (tl_nil)))) (te_bool)) (tl_cons (te_tup3_t (te_lst (tl_cons (te_int) (tl_cons (te_int) (tl_nil)))) (te_lst (tl_cons (te_int) (tl_nil))) (te_bool)) (tl_cons (te_tup3_t (te_lst (tl_cons (te_int) (tl_cons (te_int) (tl_cons (te_int) (tl_nil))))) (te_lst (tl_cons (te_int) (tl_cons (te_int) (tl_nil)))) (te_bool)) (tl_nil)))))) (fun x1 => tb_share rfl (tb_asg (te_addL_tt (te_var rfl) (te_lst (tl_cons (te_tup3_t (te_lst (tl_cons (te_int) (tl_cons (te_int) (tl_cons (te_int) (tl_nil))))) (te_lst (tl_cons (te_int) (tl_cons (te_int) (tl_cons (te_int) (tl_nil))))) (te_bool)) (tl_cons (te_tup3_t (te_lst (tl_cons (te_int) (tl_nil))) (te_lst (tl_cons (te_int) (tl_nil))) (te_bool)) (tl_cons (te_tup3_t (te_lst (tl_cons (te_int) (tl_nil))) (te_lst (tl_cons (te_int) (tl_nil))) (te_bool)) (tl_cons (te_tup3_t (te_lst (tl_cons (te_int) (tl_cons (te_int) (tl_nil)))) (te_lst (tl_cons (te_int) (tl_cons (te_int) (tl_nil)))) (te_bool)) (tl_nil))))))) (fun x2 => tb_share rfl (tb_retR (te_idx_pp (te_addL_tt (te_var rfl) (te_lst (tl_cons (te_tup3_t (te_lst (tl_cons (te_int) (tl_cons (te_int) (tl_nil)))) (te_lst (tl_cons (te_int) (tl_cons (te_int) (tl_nil)))) (te_bool)) (tl_cons (te_tup3_t (te_lst (tl_cons (te_int) (tl_cons (te_int) (tl_nil)))) (te_lst (tl_cons (te_int) (tl_cons (te_int) (tl_nil)))) (te_bool)) (tl_cons (te_tup3_t (te_lst (tl_cons (te_int) (tl_cons (te_int) (tl_cons (te_int) (tl_nil))))) (te_lst (tl_cons (te_int) (tl_cons (te_int) (tl_cons (te_int) (tl_nil))))) (te_bool)) (tl_nil)))))) (te_mod_tt (te_var rfl) (te_int))))))))

noncomputable def P_gcd_all (p_numbers : (List Int)) : Option Int := (ob (some (Int.ofNat 0)) fun x1 => (ob (some p_numbers) fun x9 => ob (foldO (σ := (Int)) (fun s5 x7 => (ob (P_gcd s5 x7) fun x8 => (some x8))) x9 x1) fun s5 => (some s5)))
theorem t_gcd_all (n : Nat) (h : 2 ≤ n) (p_numbers : (List Int)) : Con (I n) 1 [(eL eI) p_numbers] eI (P_gcd_all p_numbers) := by
  obtain ⟨m, rfl⟩ : ∃ m, n = m + 1 := ⟨n - 1, by omega⟩
  exact con_of (np := F_gcd_all.ps.length) (nv := F_gcd_all.vars.length) (b := b_gcd_all) (by kernel_rfl) rfl (fr0 := [some (false, (eL eI) p_numbers), none, none]) rfl rfl (tb_asg (te_int) (fun x1 => tb_for (Φ := (fun (s2 : (Int)) (f3 : Frm) => ∃ (g4 : Cell), f3 = ([some (false, (eL eI) p_numbers), some (false, eI s2), g4] : Frm))) (ti_seq (te_var rfl)) ⟨_, rfl⟩ (by rintro s5 x7 _ ⟨g6, rfl⟩; exact ⟨_, rfl, tb_asg (te_call2_t (t_gcd m (by omega) s5 x7) (te_var rfl) (te_var rfl)) (fun x8 => tb_end ⟨.inl rfl, _, rfl⟩)⟩) (by rintro s5 _ ⟨g6, rfl⟩; exact tb_retR (te_var rfl))))

noncomputable def P_zadd0 (p_a : (List Int)) (p_b : (List Int)) : Option (List Int) := (ob (some (imax (ilen p_a) (ilen p_b))) fun x1 => (ob (ob (ob (some x1) fun x2 => rng1O x2) fun x6 => mapO (fun v3 => (ob (bsel (ilt v3 (ilen p_a)) (idxO p_a v3) (some (Int.ofNat 0))) fun x4 => (ob (bsel (ilt v3 (ilen p_b)) (idxO p_b v3) (some (Int.ofNat 0))) fun x5 => (some (iadd x4 x5))))) x6) fun x7 => P_ztrim x7))
theorem t_zadd0 (n : Nat) (h : 2 ≤ n) (p_a : (List Int)) (p_b : (List Int)) : Con (I n) 5 [(eL eI) p_a, (eL eI) p_b] (eL eI) (P_zadd0 p_a p_b) := by
  obtain ⟨m, rfl⟩ : ∃ m, n = m + 1 := ⟨n - 1, by omega⟩
  exact con_of (np := F_zadd.ps.length) (nv := F_zadd.vars.length) (b := b_zadd) (by kernel_rfl) rfl (fr0 := [some (false, (eL eI) p_a), some (false, (eL eI) p_b), none]) rfl rfl (tb_asg (te_max2_tt (te_len_t (te_bvar rfl)) (te_len_t (te_bvar rfl))) (fun x1 => tb_retR (te_call1 (t_ztrim m (by omega)) (te_comp0 (ti_rng1 (te_var rfl)) (fun v3 => te_add_pp (te_ite_t (te_lt_tt (te_bvar rfl) (te_len_t (te_bvar rfl))) (te_idx_tt (te_bvar rfl) (te_var rfl)) (te_int)) (te_ite_t (te_lt_tt (te_bvar rfl) (te_len_t (te_bvar rfl))) (te_idx_tt (te_bvar rfl) (te_var rfl)) (te_int)))))))

/-! zadd, quick: one pass -/
noncomputable def zaddF (a b : List Int) : List Int := @List.rec Int (fun _ => List Int → List Int) (fun b => b) (fun x r ih b => @List.rec Int (fun _ => List Int) (x :: r) (fun y t _ => iadd x y :: ih t) b) a b
noncomputable def trimF (l : List Int) : List Int := @List.rec Int (fun _ => List Int) [] (fun x _ ih => bsel (nilT ih) (bsel (ieq x (Int.ofNat 0)) [] [x]) (x :: ih)) l
theorem trimF_snoc (x : Int) : ∀ l : List Int, trimF (l ++ [x]) = bsel (ieq x (Int.ofNat 0)) (trimF l) (l ++ [x])
  | [] => rfl
  | a :: l => by
    show bsel (nilT (trimF (l ++ [x]))) (bsel (ieq a (Int.ofNat 0)) [] [a]) (a :: trimF (l ++ [x])) = _
    rw [trimF_snoc x l]
    cases ieq x (Int.ofNat 0) with
    | true => rfl
    | false => cases l <;> rfl
noncomputable def ztC (l : List Int) (s : Int) : Option Bool := bsel (ilt (Int.ofNat 0) s) (ob (idxO l (isub s (Int.ofNat 1))) fun x5 => some (ieq x5 (Int.ofNat 0))) (some false)
noncomputable def ztB (s : Int) : Option Int := ob (some (Int.ofNat 1)) fun x7 => ob (some (isub s x7)) fun x6 => some x6
theorem ztrim_walk (l : List Int) : ∀ (k n : Nat), k ≤ l.length → k < n → ∃ m, whileO (ztC l) ztB n (Int.ofNat k) = some (Int.ofNat m) ∧ trimF (l.take k) = l.take m
  | 0, n + 1, _, _ => ⟨0, rfl, rfl⟩
  | k + 1, n + 1, hk, hn => by
    have hx : l[k]? = some l[k] := List.getElem?_eq_getElem hk
    have ht : l.take (k + 1) = l.take k ++ [l[k]] := List.take_succ_eq_append_getElem hk
    have e0 : ztC l (Int.ofNat (k + 1)) = some (ieq l[k] (Int.ofNat 0)) := by
      show ob (getO l k) (fun x5 => some (ieq x5 (Int.ofNat 0))) = _
      rw [getO_eq, hx]; rfl
    rw [ht, trimF_snoc]
    have e1 : whileO (ztC l) ztB (n + 1) (Int.ofNat (k + 1)) = bsel (ieq l[k] (Int.ofNat 0)) (whileO (ztC l) ztB n (Int.ofNat k)) (some (Int.ofNat (k + 1))) := by
      show ob (ztC l (Int.ofNat (k + 1))) (fun t => bsel t (whileO (ztC l) ztB n (Int.ofNat k)) (some (Int.ofNat (k + 1)))) = _
      rw [e0]; rfl
    rw [e1]
    cases ieq l[k] (Int.ofNat 0) with
    | true => exact ztrim_walk l k n (Nat.le_of_succ_le hk) (Nat.lt_of_succ_lt_succ hn)
    | false => exact ⟨k + 1, rfl, ht.symm⟩
theorem ztrim_fast {l : List Int} (h : l.length < WF) : P_ztrim l = some (trimF l) := by
  obtain ⟨m, e1, e2⟩ := ztrim_walk l l.length WF (Nat.le_refl _) h
  rw [List.take_length] at e2
  show ob (whileO (ztC l) ztB WF (Int.ofNat (llen l))) (fun s4 => some (uptoT l s4)) = _
  rw [llen_eq, e1, e2, ← takeT_eq]; rfl
noncomputable def zaG (a b : List Int) (v3 : Int) : Option Int := ob (bsel (ilt v3 (ilen a)) (idxO a v3) (some (Int.ofNat 0))) fun x4 => ob (bsel (ilt v3 (ilen b)) (idxO b v3) (some (Int.ofNat 0))) fun x5 => some (iadd x4 x5)
theorem mapO_shift {f g : Int → Option Int} (h : ∀ k, f (Int.ofNat (k + 1)) = g (Int.ofNat k)) : ∀ n s, mapO f (rngF n (s + 1)) = mapO g (rngF n s)
  | 0, _ => rfl
  | n + 1, s => by
    show ob (f (Int.ofNat (s + 1))) (fun y => ob (mapO f (rngF n (s + 2))) fun ys => some (y :: ys)) = ob (g (Int.ofNat s)) fun y => ob (mapO g (rngF n (s + 1))) fun ys => some (y :: ys)
    rw [h, mapO_shift h n (s + 1)]
theorem mapO_first {f g : Int → Option Int} {y : Int} {l : List Int} {n : Nat} (h0 : f (Int.ofNat 0) = some y) (h : ∀ k, f (Int.ofNat (k + 1)) = g (Int.ofNat k)) (hl : mapO g (rngF n 0) = some l) : mapO f (rngF (n + 1) 0) = some (y :: l) := by
  show ob (f (Int.ofNat 0)) (fun y => ob (mapO f (rngF n 1)) fun ys => some (y :: ys)) = _
  rw [h0, mapO_shift h n 0, hl]; rfl
theorem zaG_l : ∀ b : List Int, mapO (zaG [] b) (rngF (llen b) 0) = some b
  | [] => rfl
  | y :: t => mapO_first (by show some (iadd 0 y) = _; rw [iadd_eq, Int.zero_add]) (fun _ => rfl) (zaG_l t)
theorem zaG_r : ∀ a : List Int, mapO (zaG a []) (rngF (llen a) 0) = some a
  | [] => rfl
  | y :: t => mapO_first (by show some (iadd y 0) = _; rw [iadd_eq, Int.add_zero]) (fun _ => rfl) (zaG_r t)
theorem imax_succ (m n : Nat) : imax (Int.ofNat (m + 1)) (Int.ofNat (n + 1)) = Int.ofNat (tnat (imax (Int.ofNat m) (Int.ofNat n)) + 1) := by
  show bsel (Nat.ble (m + 1) n) (Int.ofNat (n + 1)) (Int.ofNat (m + 1)) = Int.ofNat (tnat (bsel (Nat.ble (m + 1) n) (Int.ofNat n) (Int.ofNat m)) + 1)
  cases Nat.ble (m + 1) n <;> rfl
theorem zaG_all : ∀ a b : List Int, mapO (zaG a b) (rngF (tnat (imax (ilen a) (ilen b))) 0) = some (zaddF a b)
  | [], b => by
    have e : tnat (imax (ilen ([] : List Int)) (ilen b)) = llen b := by cases b <;> rfl
    rw [e]; exact zaG_l b
  | x :: r, [] => zaG_r (x :: r)
  | x :: r, y :: t => by
    have e : tnat (imax (ilen (x :: r)) (ilen (y :: t))) = tnat (imax (ilen r) (ilen t)) + 1 := congrArg tnat (imax_succ (llen r) (llen t))
    rw [e]
    exact mapO_first rfl (fun _ => rfl) (zaG_all r t)
theorem zaddF_len : ∀ a b : List Int, (zaddF a b).length ≤ max a.length b.length
  | [], b => Nat.le_max_right ..
  | x :: r, [] => Nat.le_max_left ..
  | x :: r, y :: t => by
    show (zaddF r t).length + 1 ≤ _
    have := zaddF_len r t
    rw [List.length_cons, List.length_cons]
    omega
noncomputable def P_zadd (a b : List Int) : Option (List Int) := bsel (Nat.ble (llen a) 9000) (bsel (Nat.ble (llen b) 9000) (some (trimF (zaddF a b))) none) none
theorem zadd_fast {a b r : List Int} (h : P_zadd a b = some r) : P_zadd0 a b = some r := by
  obtain ⟨h1, h⟩ := bsel_none h
  obtain ⟨h2, h⟩ := bsel_none h
  cases h
  have h1 := Nat.le_of_ble_eq_true h1
  have h2 := Nat.le_of_ble_eq_true h2
  rw [llen_eq] at h1 h2
  have hl := zaddF_len a b
  have hm : max a.length b.length ≤ 9000 := Nat.max_le.mpr ⟨h1, h2⟩
  have hb : inLim (imax (ilen a) (ilen b)) = true := by
    unfold inLim
    refine Nat.ble_eq_true_of_le ?_
    rw [iabsN_eq, imax_eq]
    unfold ilen
    rw [llen_eq, llen_eq]
    split
    · show b.length ≤ _; omega
    · show a.length ≤ _; omega
  show ob (ob (bsel (inLim (imax (ilen a) (ilen b))) (some (rngF (tnat (imax (ilen a) (ilen b))) 0)) none) fun x6 => mapO (zaG a b) x6) (fun x7 => P_ztrim x7) = _
  rw [hb]
  show ob (mapO (zaG a b) (rngF (tnat (imax (ilen a) (ilen b))) 0)) (fun x7 => P_ztrim x7) = _
  rw [zaG_all]
  have hW : WF = 9999 + 1 := rfl
  exact ztrim_fast (by rw [hW]; omega)
theorem t_zadd (n : Nat) (h : 2 ≤ n) (p_a : (List Int)) (p_b : (List Int)) : Con (I n) 5 [(eL eI) p_a, (eL eI) p_b] (eL eI) (P_zadd p_a p_b) := fun d r e => t_zadd0 n h p_a p_b d r (zadd_fast e)

noncomputable def P_root_bound (p_f : (List Int)) : Option Int := (ob (ob (ob (some p_f) fun x2 => some (mapT (fun v1 => (iabs v1)) x2)) fun x3 => (maxO x3)) fun x4 => (ob (ob (ob (P_zlead p_f) fun x5 => (some (iabs x5))) fun x6 => (divO x4 x6)) fun x7 => (some (iadd (Int.ofNat 2) x7))))
theorem t_root_bound (n : Nat) (h : 2 ≤ n) (p_f : (List Int)) : Con (I n) 20 [(eL eI) p_f] eI (P_root_bound p_f) := by
  obtain ⟨m, rfl⟩ : ∃ m, n = m + 1 := ⟨n - 1, by omega⟩
  exact con_of (np := F_root_bound.ps.length) (nv := F_root_bound.vars.length) (b := b_root_bound) (by kernel_rfl) rfl (fr0 := [some (false, (eL eI) p_f), none]) rfl rfl (tb_asg (te_maxl_p (te_comp0t (ti_seq (te_var rfl)) (fun v1 => te_abs_t (te_var rfl)))) (fun x4 => tb_retR (te_add_tp (te_int) (te_div_tp (te_var rfl) (te_abs_p (te_call1_t (t_zlead m (by omega) p_f) (te_var rfl)))))))

noncomputable def P_rat (p_top : Int) (p_bottom : Int) : Option (Int × Int) := (bsel (ieq p_bottom (Int.ofNat 0)) none (ob (bsel (ilt (Int.ofNat 0) p_bottom) (P_gcd p_top p_bottom) (ob (P_gcd p_top p_bottom) fun x1 => (some (isub (Int.ofNat 0) x1)))) fun x2 => (ob (divO p_top x2) fun x3 => (ob (divO p_bottom x2) fun x4 => (some (x3, x4))))))
theorem t_rat (n : Nat) (h : 2 ≤ n) (p_top : Int) (p_bottom : Int) : Con (I n) 24 [eI p_top, eI p_bottom] (eT eI eI) (P_rat p_top p_bottom) := by
  obtain ⟨m, rfl⟩ : ∃ m, n = m + 1 := ⟨n - 1, by omega⟩
  exact con_of (np := F_rat.ps.length) (nv := F_rat.vars.length) (b := b_rat) (by kernel_rfl) rfl (fr0 := [some (false, eI p_top), some (false, eI p_bottom), none]) rfl rfl (tb_iteX (te_eq_tt (te_bvar rfl) (te_int)) (tb_fail) (tb_asg (te_ite_t (te_gt_tt (te_bvar rfl) (te_int)) (te_call2_t (t_gcd m (by omega) p_top p_bottom) (te_var rfl) (te_var rfl)) (te_sub_tp (te_int) (te_call2_t (t_gcd m (by omega) p_top p_bottom) (te_var rfl) (te_var rfl)))) (fun x2 => tb_retR (te_tup2_pp (te_div_tt (te_var rfl) (te_var rfl)) (te_div_tt (te_var rfl) (te_var rfl))))))

noncomputable def P_qneg (p_p : (List (Int × Int))) : Option (List (Int × Int)) := (ob (some p_p) fun x2 => mapO (fun v1 => (P_rneg v1)) x2)
theorem t_qneg (n : Nat) (h : 2 ≤ n) (p_p : (List (Int × Int))) : Con (I n) 44 [(eL (eT eI eI)) p_p] (eL (eT eI eI)) (P_qneg p_p) := by
  obtain ⟨m, rfl⟩ : ∃ m, n = m + 1 := ⟨n - 1, by omega⟩
  exact con_of (np := F_qneg.ps.length) (nv := F_qneg.vars.length) (b := b_qneg) (by kernel_rfl) rfl (fr0 := [some (false, (eL (eT eI eI)) p_p)]) rfl rfl (tb_retR (te_comp0 (ti_seq (te_var rfl)) (fun v1 => te_call1_t (t_rneg m (by omega) v1) (te_var rfl))))

noncomputable def P_law_value (p_f : ((List (Int × Int)) × (List (Int × Int)))) (p_n : Int) : Option (Option (Int × Int)) := (ob (P_law_at p_f.1 p_n) fun x1 => (ob (P_law_at p_f.2 p_n) fun x2 => (bsel (ieq x2.1 (Int.ofNat 0)) (some none) (ob (ob (mulO x1.1 x2.2) fun x3 => (ob (mulO x1.2 x2.1) fun x4 => (some (x3, x4)))) fun x5 => some (some x5)))))
theorem t_law_value (n : Nat) (h : 2 ≤ n) (p_f : ((List (Int × Int)) × (List (Int × Int)))) (p_n : Int) : Con (I n) 68 [(eT (eL (eT eI eI)) (eL (eT eI eI))) p_f, eI p_n] (eO (eT eI eI)) (P_law_value p_f p_n) := by
  obtain ⟨m, rfl⟩ : ∃ m, n = m + 1 := ⟨n - 1, by omega⟩
  exact con_of (np := F_law_value.ps.length) (nv := F_law_value.vars.length) (b := b_law_value) (by kernel_rfl) rfl (fr0 := [some (false, (eT (eL (eT eI eI)) (eL (eT eI eI))) p_f), some (false, eI p_n), none, none]) rfl rfl (tb_asg2_2 (te_call2_t (t_law_at m (by omega) p_f.1 p_n) (te_fst_t (te_bvar rfl)) (te_var rfl)) (te_call2_t (t_law_at m (by omega) p_f.2 p_n) (te_snd_t (te_bvar rfl)) (te_var rfl)) (fun x1 x2 => ⟨_, rfl, tb_iteX (te_eq_tt (te_fst_t (te_bvar rfl)) (te_int)) (tb_retX (te_none)) (tb_retR (te_some (te_tup2_pp (te_mul_tt (te_fst_t (te_bvar rfl)) (te_snd_t (te_bvar rfl))) (te_mul_tt (te_snd_t (te_bvar rfl)) (te_fst_t (te_bvar rfl))))))⟩))

noncomputable def P_law_shifted (p_p : (List Int)) : Option (List Int) := (ob (some ([] : List Int)) fun x1 => (ob (some (revT p_p)) fun x11 => ob (foldO (σ := ((List Int))) (fun s5 x7 => (ob (ob (P_law_mul s5 ([(Int.ofNat 1), (Int.ofNat 1)] : List Int)) fun x8 => (ob (some ([x7] : List Int)) fun x9 => P_law_sum x8 x9)) fun x10 => (some x10))) x11 x1) fun s5 => (some s5)))
theorem t_law_shifted (n : Nat) (h : 2 ≤ n) (p_p : (List Int)) : Con (I n) 70 [(eL eI) p_p] (eL eI) (P_law_shifted p_p) := by
  obtain ⟨m, rfl⟩ : ∃ m, n = m + 1 := ⟨n - 1, by omega⟩
  exact con_of (np := F_law_shifted.ps.length) (nv := F_law_shifted.vars.length) (b := b_law_shifted) (by kernel_rfl) rfl (fr0 := [some (false, (eL eI) p_p), none, none]) rfl rfl (tb_asg (te_lst (tl_nil)) (fun x1 => tb_share rfl (tb_for (Φ := (fun (s2 : ((List Int))) (f3 : Frm) => ∃ (g4 : Cell), f3 = ([some (false, (eL eI) p_p), some (false, (eL eI) s2), g4] : Frm))) (ti_seq (te_revd_t (te_var rfl))) ⟨_, rfl⟩ (by rintro s5 x7 _ ⟨g6, rfl⟩; exact ⟨_, rfl, tb_asg (te_call2 (t_law_sum m (by omega)) (te_call2_t (t_law_mul m (by omega) s5 ([(Int.ofNat 1), (Int.ofNat 1)] : List Int)) (te_var rfl) (te_lst (tl_cons (te_int) (tl_cons (te_int) (tl_nil))))) (te_lst (tl_cons (te_var rfl) (tl_nil)))) (fun x10 => tb_end ⟨.inl rfl, _, rfl⟩)⟩) (by rintro s5 _ ⟨g6, rfl⟩; exact tb_retR (te_var rfl)))))

noncomputable def P_zsub (p_a : (List Int)) (p_b : (List Int)) : Option (List Int) := (ob (some p_a) fun x1 => (ob (P_zneg p_b) fun x2 => P_zadd x1 x2))
theorem t_zsub (n : Nat) (h : 3 ≤ n) (p_a : (List Int)) (p_b : (List Int)) : Con (I n) 7 [(eL eI) p_a, (eL eI) p_b] (eL eI) (P_zsub p_a p_b) := by
  obtain ⟨m, rfl⟩ : ∃ m, n = m + 1 := ⟨n - 1, by omega⟩
  exact con_of (np := F_zsub.ps.length) (nv := F_zsub.vars.length) (b := b_zsub) (by kernel_rfl) rfl (fr0 := [some (false, (eL eI) p_a), some (false, (eL eI) p_b)]) rfl rfl (tb_retR (te_call2 (t_zadd m (by omega)) (te_var rfl) (te_call1_t (t_zneg m (by omega) p_b) (te_var rfl))))

noncomputable def P_zcontent (p_p : (List Int)) : Option Int := (P_gcd_all p_p)
theorem t_zcontent (n : Nat) (h : 3 ≤ n) (p_p : (List Int)) : Con (I n) 10 [(eL eI) p_p] eI (P_zcontent p_p) := by
  obtain ⟨m, rfl⟩ : ∃ m, n = m + 1 := ⟨n - 1, by omega⟩
  exact con_of (np := F_zcontent.ps.length) (nv := F_zcontent.vars.length) (b := b_zcontent) (by kernel_rfl) rfl (fr0 := [some (false, (eL eI) p_p)]) rfl rfl (tb_retR (te_call1_t (t_gcd_all m (by omega) p_p) (te_var rfl)))

noncomputable def P_radd (p_a : (Int × Int)) (p_b : (Int × Int)) : Option (Int × Int) := (ob (ob (mulO p_a.1 p_b.2) fun x1 => (ob (mulO p_b.1 p_a.2) fun x2 => (some (iadd x1 x2)))) fun x3 => (ob (mulO p_a.2 p_b.2) fun x4 => P_rat x3 x4))
theorem t_radd (n : Nat) (h : 3 ≤ n) (p_a : (Int × Int)) (p_b : (Int × Int)) : Con (I n) 25 [(eT eI eI) p_a, (eT eI eI) p_b] (eT eI eI) (P_radd p_a p_b) := by
  obtain ⟨m, rfl⟩ : ∃ m, n = m + 1 := ⟨n - 1, by omega⟩
  exact con_of (np := F_radd.ps.length) (nv := F_radd.vars.length) (b := b_radd) (by kernel_rfl) rfl (fr0 := [some (false, (eT eI eI) p_a), some (false, (eT eI eI) p_b)]) rfl rfl (tb_retR (te_call2 (t_rat m (by omega)) (te_add_pp (te_mul_tt (te_fst_t (te_bvar rfl)) (te_snd_t (te_bvar rfl))) (te_mul_tt (te_fst_t (te_bvar rfl)) (te_snd_t (te_bvar rfl)))) (te_mul_tt (te_snd_t (te_bvar rfl)) (te_snd_t (te_bvar rfl)))))

noncomputable def P_rsub (p_a : (Int × Int)) (p_b : (Int × Int)) : Option (Int × Int) := (ob (ob (mulO p_a.1 p_b.2) fun x1 => (ob (mulO p_b.1 p_a.2) fun x2 => (some (isub x1 x2)))) fun x3 => (ob (mulO p_a.2 p_b.2) fun x4 => P_rat x3 x4))
theorem t_rsub (n : Nat) (h : 3 ≤ n) (p_a : (Int × Int)) (p_b : (Int × Int)) : Con (I n) 26 [(eT eI eI) p_a, (eT eI eI) p_b] (eT eI eI) (P_rsub p_a p_b) := by
  obtain ⟨m, rfl⟩ : ∃ m, n = m + 1 := ⟨n - 1, by omega⟩
  exact con_of (np := F_rsub.ps.length) (nv := F_rsub.vars.length) (b := b_rsub) (by kernel_rfl) rfl (fr0 := [some (false, (eT eI eI) p_a), some (false, (eT eI eI) p_b)]) rfl rfl (tb_retR (te_call2 (t_rat m (by omega)) (te_sub_pp (te_mul_tt (te_fst_t (te_bvar rfl)) (te_snd_t (te_bvar rfl))) (te_mul_tt (te_fst_t (te_bvar rfl)) (te_snd_t (te_bvar rfl)))) (te_mul_tt (te_snd_t (te_bvar rfl)) (te_snd_t (te_bvar rfl)))))

noncomputable def P_rmul (p_a : (Int × Int)) (p_b : (Int × Int)) : Option (Int × Int) := (ob (mulO p_a.1 p_b.1) fun x1 => (ob (mulO p_a.2 p_b.2) fun x2 => P_rat x1 x2))
theorem t_rmul (n : Nat) (h : 3 ≤ n) (p_a : (Int × Int)) (p_b : (Int × Int)) : Con (I n) 27 [(eT eI eI) p_a, (eT eI eI) p_b] (eT eI eI) (P_rmul p_a p_b) := by
  obtain ⟨m, rfl⟩ : ∃ m, n = m + 1 := ⟨n - 1, by omega⟩
  exact con_of (np := F_rmul.ps.length) (nv := F_rmul.vars.length) (b := b_rmul) (by kernel_rfl) rfl (fr0 := [some (false, (eT eI eI) p_a), some (false, (eT eI eI) p_b)]) rfl rfl (tb_retR (te_call2 (t_rat m (by omega)) (te_mul_tt (te_fst_t (te_bvar rfl)) (te_fst_t (te_bvar rfl))) (te_mul_tt (te_snd_t (te_bvar rfl)) (te_snd_t (te_bvar rfl)))))

noncomputable def P_rdiv (p_a : (Int × Int)) (p_b : (Int × Int)) : Option (Int × Int) := (ob (mulO p_a.1 p_b.2) fun x1 => (ob (mulO p_a.2 p_b.1) fun x2 => P_rat x1 x2))
theorem t_rdiv (n : Nat) (h : 3 ≤ n) (p_a : (Int × Int)) (p_b : (Int × Int)) : Con (I n) 28 [(eT eI eI) p_a, (eT eI eI) p_b] (eT eI eI) (P_rdiv p_a p_b) := by
  obtain ⟨m, rfl⟩ : ∃ m, n = m + 1 := ⟨n - 1, by omega⟩
  exact con_of (np := F_rdiv.ps.length) (nv := F_rdiv.vars.length) (b := b_rdiv) (by kernel_rfl) rfl (fr0 := [some (false, (eT eI eI) p_a), some (false, (eT eI eI) p_b)]) rfl rfl (tb_retR (te_call2 (t_rat m (by omega)) (te_mul_tt (te_fst_t (te_bvar rfl)) (te_snd_t (te_bvar rfl))) (te_mul_tt (te_snd_t (te_bvar rfl)) (te_fst_t (te_bvar rfl)))))

noncomputable def P_rinv (p_a : (Int × Int)) : Option (Int × Int) := (P_rat p_a.2 p_a.1)
theorem t_rinv (n : Nat) (h : 3 ≤ n) (p_a : (Int × Int)) : Con (I n) 31 [(eT eI eI) p_a] (eT eI eI) (P_rinv p_a) := by
  obtain ⟨m, rfl⟩ : ∃ m, n = m + 1 := ⟨n - 1, by omega⟩
  exact con_of (np := F_rinv.ps.length) (nv := F_rinv.vars.length) (b := b_rinv) (by kernel_rfl) rfl (fr0 := [some (false, (eT eI eI) p_a)]) rfl rfl (tb_retR (te_call2_t (t_rat m (by omega) p_a.2 p_a.1) (te_snd_t (te_bvar rfl)) (te_fst_t (te_bvar rfl))))

noncomputable def P_law_certified (p_ratio : ((List (Int × Int)) × (List (Int × Int)))) (p_certificate : ((List (Int × Int)) × (List (Int × Int)))) (p_places : Int) : Option Bool := (ob (some (Int.ofNat 0)) fun x1 => (ob (ob (some p_places) fun x2 => rng1O x2) fun x47 => ob (foldR (σ := (Int)) (ρ := Bool) (fun s9 x14 => (ob (P_law_value p_certificate x14) fun x15 => (ob (P_law_value p_certificate (iadd x14 (Int.ofNat 1))) fun x16 => (ob (P_law_value p_ratio x14) fun x17 => (bsel (bsel (noneT x15) true (bsel (noneT x16) true (noneT x17))) (some (.inl s9)) (ob (some (iadd s9 (Int.ofNat 1))) fun x18 => (ob (ob (ob (ob (ob (ob x16 fun x19 => (some x19.1)) fun x21 => (ob (ob x17 fun x20 => (some x20.1)) fun x22 => (mulO x21 x22))) fun x24 => (ob (ob x15 fun x23 => (some x23.2)) fun x25 => (mulO x24 x25))) fun x33 => (ob (ob (ob (ob x15 fun x26 => (some x26.1)) fun x28 => (ob (ob x16 fun x27 => (some x27.2)) fun x29 => (mulO x28 x29))) fun x31 => (ob (ob x17 fun x30 => (some x30.2)) fun x32 => (mulO x31 x32))) fun x34 => (some (isub x33 x34)))) fun x42 => (ob (ob (ob (ob x16 fun x35 => (some x35.2)) fun x37 => (ob (ob x17 fun x36 => (some x36.2)) fun x38 => (mulO x37 x38))) fun x40 => (ob (ob x15 fun x39 => (some x39.2)) fun x41 => (mulO x40 x41))) fun x43 => (some (bnot (ieq x42 x43))))) fun x45 => bsel x45 (ob (some false) fun x44 => some (.inr x44)) (some (.inl x18))))))))) x47 x1) fun r => @Sum.rec (Int) Bool (fun _ => Option Bool) (fun s9 => (ob (divO p_places (Int.ofNat 2)) fun x46 => (some (ilt x46 s9)))) (fun v => some v) r))
theorem t_law_certified (n : Nat) (h : 3 ≤ n) (p_ratio : ((List (Int × Int)) × (List (Int × Int)))) (p_certificate : ((List (Int × Int)) × (List (Int × Int)))) (p_places : Int) : Con (I n) 72 [(eT (eL (eT eI eI)) (eL (eT eI eI))) p_ratio, (eT (eL (eT eI eI)) (eL (eT eI eI))) p_certificate, eI p_places] eB (P_law_certified p_ratio p_certificate p_places) := by
  obtain ⟨m, rfl⟩ : ∃ m, n = m + 1 := ⟨n - 1, by omega⟩
  exact con_of (np := F_law_certified.ps.length) (nv := F_law_certified.vars.length) (b := b_law_certified) (by kernel_rfl) rfl (fr0 := [some (false, (eT (eL (eT eI eI)) (eL (eT eI eI))) p_ratio), some (false, (eT (eL (eT eI eI)) (eL (eT eI eI))) p_certificate), some (false, eI p_places), none, none, none, none, none]) rfl rfl (tb_asg (te_int) (fun x1 => tb_forR (Φ := (fun (s3 : (Int)) (f4 : Frm) => ∃ (g5 : Cell) (g6 : Cell) (g7 : Cell) (g8 : Cell), f4 = ([some (false, (eT (eL (eT eI eI)) (eL (eT eI eI))) p_ratio), some (false, (eT (eL (eT eI eI)) (eL (eT eI eI))) p_certificate), some (false, eI p_places), some (false, eI s3), g5, g6, g7, g8] : Frm))) (eρ := eB) (fun _ _ _ => ⟨_, rfl⟩) (ti_rng1 (te_var rfl)) ⟨_, _, _, _, rfl⟩ (by rintro s9 x14 _ ⟨g10, g11, g12, g13, rfl⟩; exact ⟨_, rfl, tb_asg2_3 (te_call2_t (t_law_value m (by omega) p_certificate x14) (te_var rfl) (te_var rfl)) (te_call2_t (t_law_value m (by omega) p_certificate (iadd x14 (Int.ofNat 1))) (te_var rfl) (te_add_tt (te_var rfl) (te_int))) (te_call2_t (t_law_value m (by omega) p_ratio x14) (te_var rfl) (te_var rfl)) (fun x15 x16 x17 => ⟨_, rfl, tb_iteX (te_noneIn (te_var rfl) (te_var rfl) (te_var rfl)) (tb_cont ⟨(by intro h; cases h), .inr rfl, _, _, _, _, rfl⟩) (tb_asg (te_add_tt (te_var rfl) (te_int)) (fun x18 => tb_share rfl (tb_iteX (te_ne_pp (te_sub_pp (te_mul_pp (te_mul_pp (te_fst_p (te_ubvar rfl)) (te_fst_p (te_ubvar rfl))) (te_snd_p (te_ubvar rfl))) (te_mul_pp (te_mul_pp (te_fst_p (te_ubvar rfl)) (te_snd_p (te_ubvar rfl))) (te_snd_p (te_ubvar rfl)))) (te_mul_pp (te_mul_pp (te_snd_p (te_ubvar rfl)) (te_snd_p (te_ubvar rfl))) (te_snd_p (te_ubvar rfl)))) (tb_retLR (te_bool)) (tb_end ⟨.inl rfl, _, _, _, _, rfl⟩))))⟩)⟩) (by rintro s9 _ ⟨g10, g11, g12, g13, rfl⟩; exact tb_retR (te_gt_tp (te_bvar rfl) (te_div_tt (te_var rfl) (te_int))))))

noncomputable def P_zprimitive (p_p : (List Int)) : Option (List Int) := (bsel (ieq (ilen p_p) (Int.ofNat 0)) (some ([] : List Int)) (ob (P_zcontent p_p) fun x1 => (ob (some p_p) fun x4 => (ob (ob (ob (idxO p_p (ineg (Int.ofNat 1))) fun x2 => (some (ilt (Int.ofNat 0) x2))) fun x3 => (bsel x3 (some x1) (some (ineg x1)))) fun x5 => P_zdivided x4 x5))))
theorem t_zprimitive (n : Nat) (h : 4 ≤ n) (p_p : (List Int)) : Con (I n) 12 [(eL eI) p_p] (eL eI) (P_zprimitive p_p) := by
  obtain ⟨m, rfl⟩ : ∃ m, n = m + 1 := ⟨n - 1, by omega⟩
  exact con_of (np := F_zprimitive.ps.length) (nv := F_zprimitive.vars.length) (b := b_zprimitive) (by kernel_rfl) rfl (fr0 := [some (false, (eL eI) p_p), none]) rfl rfl (tb_iteX (te_eq_tt (te_len_t (te_bvar rfl)) (te_int)) (tb_retX (te_lst (tl_nil))) (tb_asg (te_call1_t (t_zcontent m (by omega) p_p) (te_var rfl)) (fun x1 => tb_retR (te_call2 (t_zdivided m (by omega)) (te_var rfl) (te_ite_p (te_gt_pt (te_idx_tt (te_bvar rfl) (te_neg_t (te_int))) (te_int)) (te_var rfl) (te_neg_t (te_var rfl)))))))

noncomputable def P_pseudo (p_a : (List Int)) (p_b : (List Int)) : Option ((List Int) × (List Int) × Int) := (ob (P_check_bottom p_b) fun _ => (ob (some (imax (Int.ofNat 0) (iadd (isub (ilen p_a) (ilen p_b)) (Int.ofNat 1)))) fun x1 => (ob (some p_a) fun x2 => (ob (some ([] : List Int)) fun x3 => (ob (some x1) fun x4 => (ob (P_zlead p_b) fun x5 => (ob (whileO (σ := ((List Int) × (List Int) × Int)) (fun s11 => (some (ile (ilen p_b) (ilen s11.2.1)))) (fun s11 => (ob (idxO s11.2.1 (ineg (Int.ofNat 1))) fun x15 => (ob (some (isub (ilen s11.2.1) (ilen p_b))) fun x16 => (ob (ob (P_zscale s11.1 x5) fun x17 => (ob (P_zraise ([(ineg x15)] : List Int) x16) fun x18 => P_zsub x17 x18)) fun x19 => (ob (ob (P_zscale s11.2.1 x5) fun x22 => (ob (ob (P_zscale p_b x15) fun x20 => (ob (some x16) fun x21 => P_zraise x20 x21)) fun x23 => P_zsub x22 x23)) fun x24 => (ob (some (Int.ofNat 1)) fun x26 => ob (some (isub s11.2.2 x26)) fun x25 => (some (x19, x24, x25)))))))) WF (x3, x2, x4)) fun s11 => (ob (powO x5 s11.2.2) fun x27 => (ob (P_zscale s11.1 x27) fun x28 => (ob (P_zscale s11.2.1 x27) fun x29 => (ob (some x1) fun x30 => some (x28, x29, x30))))))))))))
theorem t_pseudo (n : Nat) (h : 4 ≤ n) (p_a : (List Int)) (p_b : (List Int)) : Con (I n) 15 [(eL eI) p_a, (eL eI) p_b] (eT3 (eL eI) (eL eI) eI) (P_pseudo p_a p_b) := by
  obtain ⟨m, rfl⟩ : ∃ m, n = m + 1 := ⟨n - 1, by omega⟩
  exact con_of (np := F_pseudo.ps.length) (nv := F_pseudo.vars.length) (b := b_pseudo) (by kernel_rfl) rfl (fr0 := [some (false, (eL eI) p_a), some (false, (eL eI) p_b), none, none, none, none, none, none, none, none]) rfl rfl (tb_expr (te_call1_t (t_check_bottom m (by omega) p_b) (te_var rfl)) (tb_asg (te_max2_tt (te_int) (te_add_tt (te_sub_tt (te_len_t (te_bvar rfl)) (te_len_t (te_bvar rfl))) (te_int))) (fun x1 => tb_asg2_4 (te_copy_t (te_var rfl)) (te_lst (tl_nil)) (te_var rfl) (te_call1_t (t_zlead m (by omega) p_b) (te_var rfl)) (fun x2 x3 x4 x5 => ⟨_, rfl, tb_share rfl (tb_share rfl (tb_while (Φ := (fun (s6 : ((List Int) × (List Int) × Int)) (f7 : Frm) => ∃ (g8 : Cell) (g9 : Cell) (g10 : Cell), f7 = ([some (false, (eL eI) p_a), some (false, (eL eI) p_b), some (false, eI x1), some (false, (eL eI) s6.2.1), some (false, (eL eI) s6.1), some (false, eI s6.2.2), some (false, eI x5), g8, g9, g10] : Frm))) ⟨_, _, _, rfl⟩ (by rintro s11 _ ⟨g12, g13, g14, rfl⟩; exact te_ge_tt (te_len_t (te_bvar rfl)) (te_len_t (te_bvar rfl))) (by rintro s11 _ ⟨g12, g13, g14, rfl⟩; exact tb_asg2_2 (te_idx_tt (te_bvar rfl) (te_neg_t (te_int))) (te_sub_tt (te_len_t (te_bvar rfl)) (te_len_t (te_bvar rfl))) (fun x15 x16 => ⟨_, rfl, tb_share rfl (tb_asg (te_call2 (t_zsub m (by omega)) (te_call2_t (t_zscale m (by omega) s11.1 x5) (te_var rfl) (te_var rfl)) (te_call2_t (t_zraise m (by omega) ([(ineg x15)] : List Int) x16) (te_lst (tl_cons (te_neg_t (te_var rfl)) (tl_nil))) (te_var rfl))) (fun x19 => tb_asg (te_call2 (t_zsub m (by omega)) (te_call2_t (t_zscale m (by omega) s11.2.1 x5) (te_var rfl) (te_var rfl)) (te_call2 (t_zraise m (by omega)) (te_call2_t (t_zscale m (by omega) p_b x15) (te_var rfl) (te_var rfl)) (te_var rfl))) (fun x24 => tb_sub rfl (te_int) (fun x25 => tb_end ⟨.inl rfl, _, _, _, rfl⟩))))⟩)) (by rintro s11 _ ⟨g12, g13, g14, rfl⟩; exact tb_asg (te_pow_tt (te_var rfl) (te_var rfl)) (fun x27 => tb_share rfl (tb_retR (te_tup3_p (te_call2_t (t_zscale m (by omega) s11.1 x27) (te_var rfl) (te_var rfl)) (te_call2_t (t_zscale m (by omega) s11.2.1 x27) (te_var rfl) (te_var rfl)) (te_var rfl)))))))⟩))))

noncomputable def P_take_off (p_a : (List (List (Int × Int)))) (p_row : Int) (p_source : Int) (p_number : (Int × Int)) : Option (List (List (Int × Int))) := (ob (ob (ob (idxO p_a p_row) fun x1 => some (enumF x1 0)) fun x8 => mapO (fun v2 => (ob (some v2.2) fun x6 => (ob (ob (some p_number) fun x4 => (ob (ob (idxO p_a p_source) fun x3 => (idxO x3 v2.1)) fun x5 => P_rmul x4 x5)) fun x7 => P_rsub x6 x7))) x8) fun x9 => ob (some p_row) fun x10 => ob (setO p_a x10 x9) fun x11 => (some x11))
theorem t_take_off (n : Nat) (h : 4 ≤ n) (p_a : (List (List (Int × Int)))) (p_row : Int) (p_source : Int) (p_number : (Int × Int)) : ConM (I n) 36 [eI p_row, eI p_source, (eT eI eI) p_number] (eL (eT eI eI)) p_a (P_take_off p_a p_row p_source p_number) := by
  obtain ⟨m, rfl⟩ : ∃ m, n = m + 1 := ⟨n - 1, by omega⟩
  exact conM_of (np := F_take_off.ps.length) (nv := F_take_off.vars.length) (b := .cons b1_take_off .nil) (fun _ _ _ _ => rfl) rfl (fr0 := [some (true, (eL (eL (eT eI eI))) p_a), some (false, eI p_row), some (false, eI p_source), some (false, (eT eI eI) p_number)]) rfl (tb_setI rfl (te_comp2 (ti_enum (te_idx_tt (te_bvar rfl) (te_var rfl))) (fun v2 => te_call2 (t_rsub m (by omega)) (te_var rfl) (te_call2 (t_rmul m (by omega)) (te_var rfl) (te_idx_pt (te_idx_tt (te_bvar rfl) (te_var rfl)) (te_var rfl))))) (te_var rfl) (fun x11 => tb_end ⟨rfl, rfl⟩))

noncomputable def P_qadd (p_a : (List (Int × Int))) (p_b : (List (Int × Int))) : Option (List (Int × Int)) := (ob (some (imax (ilen p_a) (ilen p_b))) fun x1 => (ob (ob (ob (some x1) fun x2 => rng1O x2) fun x6 => mapO (fun v3 => (ob (bsel (ilt v3 (ilen p_a)) (idxO p_a v3) (some (Int.ofNat 0, Int.ofNat 1))) fun x4 => (ob (bsel (ilt v3 (ilen p_b)) (idxO p_b v3) (some (Int.ofNat 0, Int.ofNat 1))) fun x5 => P_radd x4 x5))) x6) fun x7 => P_qtrim x7))
theorem t_qadd (n : Nat) (h : 4 ≤ n) (p_a : (List (Int × Int))) (p_b : (List (Int × Int))) : Con (I n) 43 [(eL (eT eI eI)) p_a, (eL (eT eI eI)) p_b] (eL (eT eI eI)) (P_qadd p_a p_b) := by
  obtain ⟨m, rfl⟩ : ∃ m, n = m + 1 := ⟨n - 1, by omega⟩
  exact con_of (np := F_qadd.ps.length) (nv := F_qadd.vars.length) (b := b_qadd) (by kernel_rfl) rfl (fr0 := [some (false, (eL (eT eI eI)) p_a), some (false, (eL (eT eI eI)) p_b), none]) rfl rfl (tb_asg (te_max2_tt (te_len_t (te_bvar rfl)) (te_len_t (te_bvar rfl))) (fun x1 => tb_retR (te_call1 (t_qtrim m (by omega)) (te_comp0 (ti_rng1 (te_var rfl)) (fun v3 => te_call2 (t_radd m (by omega)) (te_ite_t (te_lt_tt (te_bvar rfl) (te_len_t (te_bvar rfl))) (te_idx_tt (te_bvar rfl) (te_var rfl)) (te_R0)) (te_ite_t (te_lt_tt (te_bvar rfl) (te_len_t (te_bvar rfl))) (te_idx_tt (te_bvar rfl) (te_var rfl)) (te_R0)))))))

noncomputable def P_qscale (p_p : (List (Int × Int))) (p_r : (Int × Int)) : Option (List (Int × Int)) := (bsel (bnot (ieq p_r.1 (Int.ofNat 0))) (ob (some p_p) fun x2 => mapO (fun v1 => (P_rmul v1 p_r)) x2) (some ([] : List (Int × Int))))
theorem t_qscale (n : Nat) (h : 4 ≤ n) (p_p : (List (Int × Int))) (p_r : (Int × Int)) : Con (I n) 46 [(eL (eT eI eI)) p_p, (eT eI eI) p_r] (eL (eT eI eI)) (P_qscale p_p p_r) := by
  obtain ⟨m, rfl⟩ : ∃ m, n = m + 1 := ⟨n - 1, by omega⟩
  exact con_of (np := F_qscale.ps.length) (nv := F_qscale.vars.length) (b := b_qscale) (by kernel_rfl) rfl (fr0 := [some (false, (eL (eT eI eI)) p_p), some (false, (eT eI eI) p_r)]) rfl rfl (tb_retR (te_ite_t (te_ne_tt (te_fst_t (te_bvar rfl)) (te_int)) (te_comp0 (ti_seq (te_var rfl)) (fun v1 => te_call2_t (t_rmul m (by omega) v1 p_r) (te_var rfl) (te_var rfl))) (te_lst (tl_nil))))

noncomputable def P_qmul (p_a : (List (Int × Int))) (p_b : (List (Int × Int))) : Option (List (Int × Int)) := (bsel (bsel (ieq (ilen p_a) (Int.ofNat 0)) true (ieq (ilen p_b) (Int.ofNat 0))) (some ([] : List (Int × Int))) (ob (repO (Int.ofNat 0, Int.ofNat 1) (isub (iadd (ilen p_a) (ilen p_b)) (Int.ofNat 1))) fun x1 => (ob (ob (some p_a) fun x2 => some (enumF x2 0)) fun x30 => ob (foldO (σ := ((List (Int × Int)))) (fun s9 x14 => (ob (ob (some p_b) fun x15 => some (enumF x15 0)) fun x29 => ob (foldO (σ := ((List (Int × Int)))) (fun s20 x23 => (ob (ob (idxO s20 (iadd x14.1 x23.1)) fun x24 => (ob (P_rmul x14.2 x23.2) fun x25 => P_radd x24 x25)) fun x26 => ob (some (iadd x14.1 x23.1)) fun x27 => ob (setO s20 x27 x26) fun x28 => (some x28))) x29 s9) fun s20 => (some s20))) x30 x1) fun s9 => (some s9))))
theorem t_qmul (n : Nat) (h : 4 ≤ n) (p_a : (List (Int × Int))) (p_b : (List (Int × Int))) : Con (I n) 48 [(eL (eT eI eI)) p_a, (eL (eT eI eI)) p_b] (eL (eT eI eI)) (P_qmul p_a p_b) := by
  obtain ⟨m, rfl⟩ : ∃ m, n = m + 1 := ⟨n - 1, by omega⟩
  exact con_of (np := F_qmul.ps.length) (nv := F_qmul.vars.length) (b := b_qmul) (by kernel_rfl) rfl (fr0 := [some (false, (eL (eT eI eI)) p_a), some (false, (eL (eT eI eI)) p_b), none, none, none, none, none]) rfl rfl (tb_iteX (te_or_tt (te_eq_tt (te_len_t (te_bvar rfl)) (te_int)) (te_eq_tt (te_len_t (te_bvar rfl)) (te_int))) (tb_retX (te_lst (tl_nil))) (tb_asg (te_rep_t (te_R0) (te_sub_tt (te_add_tt (te_len_t (te_bvar rfl)) (te_len_t (te_bvar rfl))) (te_int))) (fun x1 => tb_for (Φ := (fun (s3 : ((List (Int × Int)))) (f4 : Frm) => ∃ (g5 : Cell) (g6 : Cell) (g7 : Cell) (g8 : Cell), f4 = ([some (false, (eL (eT eI eI)) p_a), some (false, (eL (eT eI eI)) p_b), some (true, (eL (eT eI eI)) s3), g5, g6, g7, g8] : Frm))) (ti_enum (te_var rfl)) ⟨_, _, _, _, rfl⟩ (by rintro s9 x14 _ ⟨g10, g11, g12, g13, rfl⟩; exact ⟨_, rfl, tb_for (Φ := (fun (s16 : ((List (Int × Int)))) (f17 : Frm) => ∃ (g18 : Cell) (g19 : Cell), f17 = ([some (false, (eL (eT eI eI)) p_a), some (false, (eL (eT eI eI)) p_b), some (true, (eL (eT eI eI)) s16), some (false, eI x14.1), some (false, (eT eI eI) x14.2), g18, g19] : Frm))) (ti_enum (te_var rfl)) ⟨_, _, rfl⟩ (by rintro s20 x23 _ ⟨g21, g22, rfl⟩; exact ⟨_, rfl, tb_setI rfl (te_call2 (t_radd m (by omega)) (te_idx_tt (te_bvar rfl) (te_add_tt (te_var rfl) (te_var rfl))) (te_call2_t (t_rmul m (by omega) x14.2 x23.2) (te_var rfl) (te_var rfl))) (te_add_tt (te_var rfl) (te_var rfl)) (fun x28 => tb_end ⟨.inl rfl, _, _, rfl⟩)⟩) (by rintro s20 _ ⟨g21, g22, rfl⟩; exact tb_end ⟨.inl rfl, _, _, _, _, rfl⟩)⟩) (by rintro s9 _ ⟨g10, g11, g12, g13, rfl⟩; exact tb_share rfl (tb_retR (te_var rfl))))))

noncomputable def P_most_degree (p_a : (List (Int × Int))) (p_b : (List (Int × Int))) (p_c : (List (Int × Int))) : Option Int := (ob (ob (P_qdegree p_a) fun x1 => (ob (P_qdegree p_b) fun x2 => (some (imax x1 x2)))) fun x3 => (ob (ob (ob (P_qdegree p_a) fun x6 => (ob (P_qdegree p_b) fun x7 => (some (bnot (ieq x6 x7))))) fun x8 => (bsel x8 (some true) (ob (P_qlead p_a) fun x4 => (ob (P_qlead p_b) fun x5 => (some (bnot (reqT x4 x5))))))) fun x20 => bsel x20 (ob (P_qdegree p_c) fun x9 => (some (isub x9 x3))) (ob (ob (ob (P_qdegree p_c) fun x10 => (some (isub x10 x3))) fun x11 => (some (iadd x11 (Int.ofNat 1)))) fun x12 => (ob (ob (ob (P_coefficient_at p_b (isub x3 (Int.ofNat 1))) fun x13 => (ob (P_coefficient_at p_a (isub x3 (Int.ofNat 1))) fun x14 => P_rsub x13 x14)) fun x15 => (ob (P_qlead p_a) fun x16 => P_rdiv x15 x16)) fun x17 => (ob (ob (P_ris_whole x17) fun x18 => (bsel x18 (some (ile (Int.ofNat 0) x17.1)) (some false))) fun x19 => (bsel x19 (some (imax x12 x17.1)) (some x12)))))))
theorem t_most_degree (n : Nat) (h : 4 ≤ n) (p_a : (List (Int × Int))) (p_b : (List (Int × Int))) (p_c : (List (Int × Int))) : Con (I n) 58 [(eL (eT eI eI)) p_a, (eL (eT eI eI)) p_b, (eL (eT eI eI)) p_c] eI (P_most_degree p_a p_b p_c) := by
  obtain ⟨m, rfl⟩ : ∃ m, n = m + 1 := ⟨n - 1, by omega⟩
  exact con_of (np := F_most_degree.ps.length) (nv := F_most_degree.vars.length) (b := b_most_degree) (by kernel_rfl) rfl (fr0 := [some (false, (eL (eT eI eI)) p_a), some (false, (eL (eT eI eI)) p_b), some (false, (eL (eT eI eI)) p_c), none, none, none]) rfl rfl (tb_asg (te_max2_pp (te_call1_t (t_qdegree m (by omega) p_a) (te_var rfl)) (te_call1_t (t_qdegree m (by omega) p_b) (te_var rfl))) (fun x3 => tb_iteX (te_or_p (te_ne_pp (te_call1_t (t_qdegree m (by omega) p_a) (te_var rfl)) (te_call1_t (t_qdegree m (by omega) p_b) (te_var rfl))) (te_neR_pp (te_call1_t (t_qlead m (by omega) p_a) (te_var rfl)) (te_call1_t (t_qlead m (by omega) p_b) (te_var rfl)))) (tb_retX (te_sub_pt (te_call1_t (t_qdegree m (by omega) p_c) (te_var rfl)) (te_var rfl))) (tb_asg (te_add_pt (te_sub_pt (te_call1_t (t_qdegree m (by omega) p_c) (te_var rfl)) (te_var rfl)) (te_int)) (fun x12 => tb_share rfl (tb_asg (te_call2 (t_rdiv m (by omega)) (te_call2 (t_rsub m (by omega)) (te_call2_t (t_coefficient_at m (by omega) p_b (isub x3 (Int.ofNat 1))) (te_var rfl) (te_sub_tt (te_var rfl) (te_int))) (te_call2_t (t_coefficient_at m (by omega) p_a (isub x3 (Int.ofNat 1))) (te_var rfl) (te_sub_tt (te_var rfl) (te_int)))) (te_call1_t (t_qlead m (by omega) p_a) (te_var rfl))) (fun x17 => tb_retR (te_ite_p (te_and_p (te_call1_t (t_ris_whole m (by omega) x17) (te_var rfl)) (te_ge_tt (te_fst_t (te_bvar rfl)) (te_int))) (te_max2_tt (te_var rfl) (te_fst_t (te_bvar rfl))) (te_var rfl))))))))

noncomputable def P_full_rest (p_a : (List Int)) (p_b : (List Int)) : Option (List Int) := (ob (P_pseudo p_a p_b) fun x1 => (ob (ob (ob (ob (P_zdegree p_a) fun x2 => (ob (P_zdegree p_b) fun x3 => (some (isub x2 x3)))) fun x4 => (some (iadd x4 (Int.ofNat 1)))) fun x5 => (some (isub x5 x1.2.2))) fun x6 => (ob (some x1.2.1) fun x10 => mapO (fun v7 => (ob (ob (P_zlead p_b) fun x8 => (powO x8 x6)) fun x9 => (mulO v7 x9))) x10)))
theorem t_full_rest (n : Nat) (h : 5 ≤ n) (p_a : (List Int)) (p_b : (List Int)) : Con (I n) 17 [(eL eI) p_a, (eL eI) p_b] (eL eI) (P_full_rest p_a p_b) := by
  obtain ⟨m, rfl⟩ : ∃ m, n = m + 1 := ⟨n - 1, by omega⟩
  exact con_of (np := F_full_rest.ps.length) (nv := F_full_rest.vars.length) (b := b_full_rest) (by kernel_rfl) rfl (fr0 := [some (false, (eL eI) p_a), some (false, (eL eI) p_b), none, none, none, none]) rfl rfl (tb_asgT3 (te_call2_t (t_pseudo m (by omega) p_a p_b) (te_var rfl) (te_var rfl)) (fun x1 => ⟨_, rfl, tb_asg (te_sub_pt (te_add_pt (te_sub_pp (te_call1_t (t_zdegree m (by omega) p_a) (te_var rfl)) (te_call1_t (t_zdegree m (by omega) p_b) (te_var rfl))) (te_int)) (te_var rfl)) (fun x6 => tb_share rfl (tb_retR (te_comp0 (ti_seq (te_var rfl)) (fun v7 => te_mul_tp (te_var rfl) (te_pow_pt (te_call1_t (t_zlead m (by omega) p_b) (te_var rfl)) (te_var rfl))))))⟩))

noncomputable def P_echelon (p_a : (List (List (Int × Int)))) : Option ((List (List (Int × Int))) × (List Int)) := (ob (P_copied p_a) fun x1 => (ob (some ([] : List Int)) fun x2 => (ob (ob (ob (P_shape p_a) fun x3 => (some x3.2)) fun x4 => rng1O x4) fun x58 => ob (foldO (σ := ((List (List (Int × Int))) × (List Int))) (fun s12 x18 => (ob (some (ilen s12.2)) fun x19 => (ob (ob (ob (some x19) fun x20 => (ob (some (ilen s12.1)) fun x21 => rng2O x20 x21)) fun x23 => filtO (fun v22 => (ob (ob (idxO s12.1 v22) fun x24 => (idxO x24 x18)) fun x25 => (some (bnot (reqT x25 (Int.ofNat 0, Int.ofNat 1)))))) (fun v22 => (some v22)) x23) fun x26 => (bsel (ieq (ilen x26) (Int.ofNat 0)) (some (s12.1, s12.2)) (ob (some x19) fun x27 => (ob (idxO x26 (Int.ofNat 0)) fun x28 => ob (P_swap_rows s12.1 x27 x28) fun x29 => (ob (ob (idxO x29 x19) fun x30 => (idxO x30 x18)) fun x31 => (ob (ob (idxO x29 x19) fun x33 => mapO (fun v32 => (P_rdiv v32 x31)) x33) fun x34 => ob (some x19) fun x35 => ob (setO x29 x35 x34) fun x36 => (ob (ob (some (ilen x36)) fun x37 => rng1O x37) fun x57 => ob (foldO (σ := ((List (List (Int × Int))))) (fun s41 x43 => (ob (bsel (bnot (ieq x43 x19)) (ob (ob (idxO s41 x43) fun x44 => (idxO x44 x18)) fun x45 => (some (bnot (reqT x45 (Int.ofNat 0, Int.ofNat 1))))) (some false)) fun x54 => (ob (bsel x54 (ob (some x43) fun x49 => (ob (some x19) fun x50 => (ob (ob (idxO s41 x43) fun x48 => (idxO x48 x18)) fun x51 => ob (P_take_off s41 x49 x50 x51) fun x52 => (some x52)))) (some s41)) fun s53 => (some s53)))) x57 x36) fun s41 => (ob (some x18) fun x55 => ob (snocO s12.2 x55) fun x56 => (some (s41, x56)))))))))))) x58 (x1, x2)) fun s12 => (some (s12.1, s12.2)))))
theorem t_echelon (n : Nat) (h : 5 ≤ n) (p_a : (List (List (Int × Int)))) : Con (I n) 37 [(eL (eL (eT eI eI))) p_a] (eT (eL (eL (eT eI eI))) (eL eI)) (P_echelon p_a) := by
  obtain ⟨m, rfl⟩ : ∃ m, n = m + 1 := ⟨n - 1, by omega⟩
  exact con_of (np := F_echelon.ps.length) (nv := F_echelon.vars.length) (b := b_echelon) (by kernel_rfl) rfl (fr0 := [some (false, (eL (eL (eT eI eI))) p_a), none, none, none, none, none, none, none]) rfl rfl (tb_asg2_2 (te_call1_t (t_copied m (by omega) p_a) (te_var rfl)) (te_lst (tl_nil)) (fun x1 x2 => ⟨_, rfl, tb_for (Φ := (fun (s5 : ((List (List (Int × Int))) × (List Int))) (f6 : Frm) => ∃ (g7 : Cell) (g8 : Cell) (g9 : Cell) (g10 : Cell) (g11 : Cell), f6 = ([some (false, (eL (eL (eT eI eI))) p_a), some (true, (eL (eL (eT eI eI))) s5.1), some (true, (eL eI) s5.2), g7, g8, g9, g10, g11] : Frm))) (ti_rng1 (te_snd_p (te_call1_t (t_shape m (by omega) p_a) (te_var rfl)))) ⟨_, _, _, _, _, rfl⟩ (by rintro s12 x18 _ ⟨g13, g14, g15, g16, g17, rfl⟩; exact ⟨_, rfl, tb_asg (te_len_t (te_bvar rfl)) (fun x19 => tb_asg (te_compF (ti_rng2 (te_var rfl) (te_len_t (te_bvar rfl))) (fun v22 => te_neR_pt (te_idx_pt (te_idx_tt (te_bvar rfl) (te_var rfl)) (te_var rfl)) (te_R0)) (fun v22 => te_var rfl)) (fun x26 => tb_share rfl (tb_iteX (te_eq_tt (te_len_t (te_bvar rfl)) (te_int)) (tb_cont ⟨(by intro h; cases h), .inr rfl, _, _, _, _, _, rfl⟩) (tb_muts2 rfl (te_var rfl) (te_idx_tt (te_bvar rfl) (te_int)) (t_swap_rows m (by omega) s12.1) (fun x29 => tb_asg (te_idx_pt (te_idx_tt (te_bvar rfl) (te_var rfl)) (te_var rfl)) (fun x31 => tb_setI rfl (te_comp0 (ti_seq (te_idx_tt (te_bvar rfl) (te_var rfl))) (fun v32 => te_call2_t (t_rdiv m (by omega) v32 x31) (te_var rfl) (te_var rfl))) (te_var rfl) (fun x36 => tb_for (Φ := (fun (s38 : ((List (List (Int × Int))))) (f39 : Frm) => ∃ (g40 : Cell), f39 = ([some (false, (eL (eL (eT eI eI))) p_a), some (true, (eL (eL (eT eI eI))) s38), some (true, (eL eI) s12.2), some (false, eI x18), some (false, eI x19), some (false, (eL eI) x26), some (false, (eT eI eI) x31), g40] : Frm))) (ti_rng1 (te_len_t (te_bvar rfl))) ⟨_, rfl⟩ (by rintro s41 x43 _ ⟨g42, rfl⟩; exact ⟨_, rfl, tb_iteM (Φ := (fun (s46 : ((List (List (Int × Int))))) (f47 : Frm) => f47 = ([some (false, (eL (eL (eT eI eI))) p_a), some (true, (eL (eL (eT eI eI))) s46), some (true, (eL eI) s12.2), some (false, eI x18), some (false, eI x19), some (false, (eL eI) x26), some (false, (eT eI eI) x31), some (false, eI x43)] : Frm))) (te_and_t (te_ne_tt (te_bvar rfl) (te_bvar rfl)) (te_neR_pt (te_idx_pt (te_idx_tt (te_bvar rfl) (te_var rfl)) (te_var rfl)) (te_R0))) (tb_muts3 rfl (te_var rfl) (te_var rfl) (te_idx_pt (te_idx_tt (te_bvar rfl) (te_var rfl)) (te_var rfl)) (t_take_off m (by omega) s41) (fun x52 => tb_end ⟨rfl, rfl⟩)) (tb_end ⟨rfl, rfl⟩) (by rintro s53 _ rfl; exact tb_end ⟨.inl rfl, _, rfl⟩)⟩) (by rintro s41 _ ⟨g42, rfl⟩; exact tb_append rfl (te_var rfl) (fun x56 => tb_end ⟨.inl rfl, _, _, _, _, _, rfl⟩)))))))))⟩) (by rintro s12 _ ⟨g13, g14, g15, g16, g17, rfl⟩; exact tb_share rfl (tb_share rfl (tb_retR (te_tup2_tt (te_var rfl) (te_var rfl)))))⟩))

noncomputable def P_qsub (p_a : (List (Int × Int))) (p_b : (List (Int × Int))) : Option (List (Int × Int)) := (ob (some p_a) fun x1 => (ob (P_qneg p_b) fun x2 => P_qadd x1 x2))
theorem t_qsub (n : Nat) (h : 5 ≤ n) (p_a : (List (Int × Int))) (p_b : (List (Int × Int))) : Con (I n) 45 [(eL (eT eI eI)) p_a, (eL (eT eI eI)) p_b] (eL (eT eI eI)) (P_qsub p_a p_b) := by
  obtain ⟨m, rfl⟩ : ∃ m, n = m + 1 := ⟨n - 1, by omega⟩
  exact con_of (np := F_qsub.ps.length) (nv := F_qsub.vars.length) (b := b_qsub) (by kernel_rfl) rfl (fr0 := [some (false, (eL (eT eI eI)) p_a), some (false, (eL (eT eI eI)) p_b)]) rfl rfl (tb_retR (te_call2 (t_qadd m (by omega)) (te_var rfl) (te_call1_t (t_qneg m (by omega) p_b) (te_var rfl))))

noncomputable def P_qmonic (p_p : (List (Int × Int))) : Option (List (Int × Int)) := (bsel (ilt (Int.ofNat 0) (ilen p_p)) (ob (some p_p) fun x2 => (ob (ob (idxO p_p (ineg (Int.ofNat 1))) fun x1 => P_rinv x1) fun x3 => P_qscale x2 x3)) (some ([] : List (Int × Int))))
theorem t_qmonic (n : Nat) (h : 5 ≤ n) (p_p : (List (Int × Int))) : Con (I n) 50 [(eL (eT eI eI)) p_p] (eL (eT eI eI)) (P_qmonic p_p) := by
  obtain ⟨m, rfl⟩ : ∃ m, n = m + 1 := ⟨n - 1, by omega⟩
  exact con_of (np := F_qmonic.ps.length) (nv := F_qmonic.vars.length) (b := b_qmonic) (by kernel_rfl) rfl (fr0 := [some (false, (eL (eT eI eI)) p_p)]) rfl rfl (tb_retR (te_ite_t (te_gt_tt (te_len_t (te_bvar rfl)) (te_int)) (te_call2 (t_qscale m (by omega)) (te_var rfl) (te_call1 (t_rinv m (by omega)) (te_idx_tt (te_bvar rfl) (te_neg_t (te_int))))) (te_lst (tl_nil))))

noncomputable def P_qcompose (p_a : (List (Int × Int))) (p_b : (List (Int × Int))) : Option (List (Int × Int)) := (ob (some ([] : List (Int × Int))) fun x1 => (ob (ob (some p_a) fun x2 => some (revT x2)) fun x12 => ob (foldO (σ := ((List (Int × Int)))) (fun s6 x8 => (ob (ob (P_qmul s6 p_b) fun x9 => (ob (P_qtrim ([x8] : List (Int × Int))) fun x10 => P_qadd x9 x10)) fun x11 => (some x11))) x12 x1) fun s6 => (some s6)))
theorem t_qcompose (n : Nat) (h : 5 ≤ n) (p_a : (List (Int × Int))) (p_b : (List (Int × Int))) : Con (I n) 52 [(eL (eT eI eI)) p_a, (eL (eT eI eI)) p_b] (eL (eT eI eI)) (P_qcompose p_a p_b) := by
  obtain ⟨m, rfl⟩ : ∃ m, n = m + 1 := ⟨n - 1, by omega⟩
  exact con_of (np := F_qcompose.ps.length) (nv := F_qcompose.vars.length) (b := b_qcompose) (by kernel_rfl) rfl (fr0 := [some (false, (eL (eT eI eI)) p_a), some (false, (eL (eT eI eI)) p_b), none, none]) rfl rfl (tb_asg (te_lst (tl_nil)) (fun x1 => tb_share rfl (tb_for (Φ := (fun (s3 : ((List (Int × Int)))) (f4 : Frm) => ∃ (g5 : Cell), f4 = ([some (false, (eL (eT eI eI)) p_a), some (false, (eL (eT eI eI)) p_b), some (false, (eL (eT eI eI)) s3), g5] : Frm))) (ti_rev (te_var rfl)) ⟨_, rfl⟩ (by rintro s6 x8 _ ⟨g7, rfl⟩; exact ⟨_, rfl, tb_asg (te_call2 (t_qadd m (by omega)) (te_call2_t (t_qmul m (by omega) s6 p_b) (te_var rfl) (te_var rfl)) (te_call1_t (t_qtrim m (by omega) ([x8] : List (Int × Int))) (te_lst (tl_cons (te_var rfl) (tl_nil))))) (fun x11 => tb_end ⟨.inl rfl, _, rfl⟩)⟩) (by rintro s6 _ ⟨g7, rfl⟩; exact tb_retR (te_var rfl)))))

noncomputable def P_to_z (p_q : (List (Int × Int))) : Option ((List Int) × (Int × Int)) := (bsel (ieq (ilen p_q) (Int.ofNat 0)) (some (([] : List Int), (Int.ofNat 0, Int.ofNat 1))) (ob (some (Int.ofNat 1)) fun x1 => (ob (some p_q) fun x26 => ob (foldO (σ := (Int)) (fun s7 x11 => (ob (ob (ob (P_gcd s7 x11.2) fun x12 => (divO s7 x12)) fun x13 => (mulO x13 x11.2)) fun x14 => (some x14))) x26 x1) fun s7 => (ob (ob (some p_q) fun x17 => mapO (fun v15 => (ob (divO s7 v15.2) fun x16 => (mulO v15.1 x16))) x17) fun x18 => (ob (P_zcontent x18) fun x19 => (ob (P_zprimitive x18) fun x24 => (ob (ob (ob (ob (idxO x18 (ineg (Int.ofNat 1))) fun x20 => (some (ilt (Int.ofNat 0) x20))) fun x21 => (bsel x21 (some x19) (some (ineg x19)))) fun x22 => (ob (some s7) fun x23 => P_rat x22 x23)) fun x25 => (some (x24, x25)))))))))
theorem t_to_z (n : Nat) (h : 5 ≤ n) (p_q : (List (Int × Int))) : Con (I n) 53 [(eL (eT eI eI)) p_q] (eT (eL eI) (eT eI eI)) (P_to_z p_q) := by
  obtain ⟨m, rfl⟩ : ∃ m, n = m + 1 := ⟨n - 1, by omega⟩
  exact con_of (np := F_to_z.ps.length) (nv := F_to_z.vars.length) (b := b_to_z) (by kernel_rfl) rfl (fr0 := [some (false, (eL (eT eI eI)) p_q), none, none, none, none]) rfl rfl (tb_iteX (te_eq_tt (te_len_t (te_bvar rfl)) (te_int)) (tb_retX (te_tup2_tt (te_lst (tl_nil)) (te_R0))) (tb_asg (te_int) (fun x1 => tb_for (Φ := (fun (s2 : (Int)) (f3 : Frm) => ∃ (g4 : Cell) (g5 : Cell) (g6 : Cell), f3 = ([some (false, (eL (eT eI eI)) p_q), some (false, eI s2), g4, g5, g6] : Frm))) (ti_seq (te_var rfl)) ⟨_, _, _, rfl⟩ (by rintro s7 x11 _ ⟨g8, g9, g10, rfl⟩; exact ⟨_, rfl, tb_asg (te_mul_pt (te_div_tp (te_var rfl) (te_call2_t (t_gcd m (by omega) s7 x11.2) (te_var rfl) (te_snd_t (te_bvar rfl)))) (te_snd_t (te_bvar rfl))) (fun x14 => tb_share rfl (tb_end ⟨.inl rfl, _, _, _, rfl⟩))⟩) (by rintro s7 _ ⟨g8, g9, g10, rfl⟩; exact tb_asg (te_comp0 (ti_seq (te_var rfl)) (fun v15 => te_mul_tp (te_fst_t (te_bvar rfl)) (te_div_tt (te_var rfl) (te_snd_t (te_bvar rfl))))) (fun x18 => tb_share rfl (tb_asg (te_call1_t (t_zcontent m (by omega) x18) (te_var rfl)) (fun x19 => tb_retR (te_tup2_pp (te_call1_t (t_zprimitive m (by omega) x18) (te_var rfl)) (te_call2 (t_rat m (by omega)) (te_ite_p (te_gt_pt (te_idx_tt (te_bvar rfl) (te_neg_t (te_int))) (te_int)) (te_var rfl) (te_neg_t (te_var rfl))) (te_var rfl))))))))))

noncomputable def P_row_resultant (p_a : (List Int)) (p_b : (List Int)) (p_sign : Int) : Option Int := (ob (some (Int.ofNat 1)) fun x1 => (ob (some (Int.ofNat 1)) fun x2 => (ob (whileO (σ := (Int × (List Int) × (List Int) × Int × Int)) (fun s8 => (ob (P_zdegree s8.2.2.1) fun x12 => (some (ilt (Int.ofNat 0) x12)))) (fun s8 => (ob (ob (P_zdegree s8.2.1) fun x13 => (ob (P_zdegree s8.2.2.1) fun x14 => (some (isub x13 x14)))) fun x15 => (ob (ob (ob (ob (P_zdegree s8.2.1) fun x18 => (modO x18 (Int.ofNat 2))) fun x19 => (some (ieq x19 (Int.ofNat 1)))) fun x20 => (bsel x20 (ob (ob (P_zdegree s8.2.2.1) fun x16 => (modO x16 (Int.ofNat 2))) fun x17 => (some (ieq x17 (Int.ofNat 1)))) (some false))) fun x44 => (ob (bsel x44 (ob (some (ineg s8.1)) fun x25 => (some x25)) (some s8.1)) fun s26 => (ob (P_full_rest s8.2.1 s8.2.2.1) fun x29 => (ob (some s8.2.2.1) fun x33 => (ob (ob (some x29) fun x31 => (ob (ob (powO s8.2.2.2.2 x15) fun x30 => (mulO s8.2.2.2.1 x30)) fun x32 => P_divided x31 x32)) fun x34 => (ob (P_zlead x33) fun x35 => (ob (bsel (ilt (Int.ofNat 0) x15) (ob (ob (powO x35 x15) fun x39 => (ob (powO s8.2.2.2.2 (isub x15 (Int.ofNat 1))) fun x40 => (divO x39 x40))) fun x41 => (some x41)) (some s8.2.2.2.2)) fun s42 => (some (s26, x33, x34, x35, s42))))))))))) WF (p_sign, p_a, p_b, x1, x2)) fun s8 => (bsel (nilT s8.2.2.1) (some (Int.ofNat 0)) (ob (P_zdegree s8.2.1) fun x45 => (ob (bsel (ilt (Int.ofNat 0) x45) (ob (ob (idxO s8.2.2.1 (Int.ofNat 0)) fun x46 => (powO x46 x45)) fun x47 => (ob (powO s8.2.2.2.2 (isub x45 (Int.ofNat 1))) fun x48 => (divO x47 x48))) (some (Int.ofNat 1))) fun x49 => (mulO s8.1 x49)))))))
theorem t_row_resultant (n : Nat) (h : 6 ≤ n) (p_a : (List Int)) (p_b : (List Int)) (p_sign : Int) : Con (I n) 18 [(eL eI) p_a, (eL eI) p_b, eI p_sign] eI (P_row_resultant p_a p_b p_sign) := by
  obtain ⟨m, rfl⟩ : ∃ m, n = m + 1 := ⟨n - 1, by omega⟩
  exact con_of (np := F_row_resultant.ps.length) (nv := F_row_resultant.vars.length) (b := b_row_resultant) (by kernel_rfl) rfl (fr0 := [some (false, (eL eI) p_a), some (false, (eL eI) p_b), some (false, eI p_sign), none, none, none, none, none]) rfl rfl (tb_asg2_2 (te_int) (te_int) (fun x1 x2 => ⟨_, rfl, tb_while (Φ := (fun (s3 : (Int × (List Int) × (List Int) × Int × Int)) (f4 : Frm) => ∃ (g5 : Cell) (g6 : Cell) (g7 : Cell), f4 = ([some (false, (eL eI) s3.2.1), some (false, (eL eI) s3.2.2.1), some (false, eI s3.1), some (false, eI s3.2.2.2.1), some (false, eI s3.2.2.2.2), g5, g6, g7] : Frm))) ⟨_, _, _, rfl⟩ (by rintro s8 _ ⟨g9, g10, g11, rfl⟩; exact te_gt_pt (te_call1_t (t_zdegree m (by omega) s8.2.2.1) (te_var rfl)) (te_int)) (by rintro s8 _ ⟨g9, g10, g11, rfl⟩; exact tb_asg (te_sub_pp (te_call1_t (t_zdegree m (by omega) s8.2.1) (te_var rfl)) (te_call1_t (t_zdegree m (by omega) s8.2.2.1) (te_var rfl))) (fun x15 => tb_share rfl (tb_iteM (Φ := (fun (s21 : (Int)) (f22 : Frm) => ∃ (g23 : Cell) (g24 : Cell), f22 = ([some (false, (eL eI) s8.2.1), some (false, (eL eI) s8.2.2.1), some (false, eI s21), some (false, eI s8.2.2.2.1), some (false, eI s8.2.2.2.2), some (false, eI x15), g23, g24] : Frm))) (te_and_p (te_eq_pt (te_mod_pt (te_call1_t (t_zdegree m (by omega) s8.2.1) (te_var rfl)) (te_int)) (te_int)) (te_eq_pt (te_mod_pt (te_call1_t (t_zdegree m (by omega) s8.2.2.1) (te_var rfl)) (te_int)) (te_int))) (tb_asg (te_neg_t (te_var rfl)) (fun x25 => tb_end ⟨rfl, _, _, rfl⟩)) (tb_end ⟨rfl, _, _, rfl⟩) (by rintro s26 _ ⟨g27, g28, rfl⟩; exact tb_asg (te_call2_t (t_full_rest m (by omega) s8.2.1 s8.2.2.1) (te_var rfl) (te_var rfl)) (fun x29 => tb_asg2_2 (te_var rfl) (te_call2 (t_divided m (by omega)) (te_var rfl) (te_mul_tp (te_var rfl) (te_pow_tt (te_var rfl) (te_var rfl)))) (fun x33 x34 => ⟨_, rfl, tb_asg (te_call1_t (t_zlead m (by omega) x33) (te_var rfl)) (fun x35 => tb_iteM (Φ := (fun (s36 : (Int)) (f37 : Frm) => ∃ (g38 : Cell), f37 = ([some (false, (eL eI) x33), some (false, (eL eI) x34), some (false, eI s26), some (false, eI x35), some (false, eI s36), some (false, eI x15), some (false, (eL eI) x29), g38] : Frm))) (te_gt_tt (te_bvar rfl) (te_int)) (tb_asg (te_div_pp (te_pow_tt (te_var rfl) (te_var rfl)) (te_pow_tt (te_var rfl) (te_sub_tt (te_var rfl) (te_int)))) (fun x41 => tb_share rfl (tb_end ⟨rfl, _, rfl⟩))) (tb_end ⟨rfl, _, rfl⟩) (by rintro s42 _ ⟨g43, rfl⟩; exact tb_end ⟨.inl rfl, _, _, _, rfl⟩))⟩)))))) (by rintro s8 _ ⟨g9, g10, g11, rfl⟩; exact tb_iteX (te_eqNilI_t (te_bvar rfl)) (tb_retX (te_int)) (tb_asg (te_call1_t (t_zdegree m (by omega) s8.2.1) (te_var rfl)) (fun x45 => tb_retR (te_mul_tp (te_var rfl) (te_ite_t (te_gt_tt (te_bvar rfl) (te_int)) (te_div_pp (te_pow_pt (te_idx_tt (te_bvar rfl) (te_int)) (te_var rfl)) (te_pow_tt (te_var rfl) (te_sub_tt (te_var rfl) (te_int)))) (te_int))))))⟩))

noncomputable def P_null_base (p_a : (List (List (Int × Int)))) : Option (List (List (Int × Int))) := (ob (P_echelon p_a) fun x1 => (ob (some ([] : List (List (Int × Int)))) fun x2 => (ob (ob (ob (P_shape p_a) fun x3 => (some x3.2)) fun x4 => rng1O x4) fun x40 => ob (foldO (σ := ((List (List (Int × Int))))) (fun s11 x16 => (bsel (hasI x1.2 x16) (some s11) (ob (ob (ob (P_shape p_a) fun x17 => (some x17.2)) fun x18 => repO (Int.ofNat 0, Int.ofNat 1) x18) fun x19 => (ob (some (Int.ofNat 1, Int.ofNat 1)) fun x20 => ob (some x16) fun x21 => ob (setO x19 x21 x20) fun x22 => (ob (ob (some x1.2) fun x23 => some (enumF x23 0)) fun x39 => ob (foldO (σ := ((List (Int × Int)))) (fun s28 x31 => (ob (ob (ob (idxO x1.1 x31.1) fun x32 => (idxO x32 x16)) fun x33 => P_rneg x33) fun x34 => ob (some x31.2) fun x35 => ob (setO s28 x35 x34) fun x36 => (some x36))) x39 x22) fun s28 => (ob (some s28) fun x37 => ob (snocO s11 x37) fun x38 => (some x38))))))) x40 x2) fun s11 => (some s11))))
theorem t_null_base (n : Nat) (h : 6 ≤ n) (p_a : (List (List (Int × Int)))) : Con (I n) 38 [(eL (eL (eT eI eI))) p_a] (eL (eL (eT eI eI))) (P_null_base p_a) := by
  obtain ⟨m, rfl⟩ : ∃ m, n = m + 1 := ⟨n - 1, by omega⟩
  exact con_of (np := F_null_base.ps.length) (nv := F_null_base.vars.length) (b := b_null_base) (by kernel_rfl) rfl (fr0 := [some (false, (eL (eL (eT eI eI))) p_a), none, none, none, none, none, none, none]) rfl rfl (tb_asgT2 (te_call1_t (t_echelon m (by omega) p_a) (te_var rfl)) (fun x1 => ⟨_, rfl, tb_asg (te_lst (tl_nil)) (fun x2 => tb_for (Φ := (fun (s5 : ((List (List (Int × Int))))) (f6 : Frm) => ∃ (g7 : Cell) (g8 : Cell) (g9 : Cell) (g10 : Cell), f6 = ([some (false, (eL (eL (eT eI eI))) p_a), some (false, (eL (eL (eT eI eI))) x1.1), some (false, (eL eI) x1.2), some (true, (eL (eL (eT eI eI))) s5), g7, g8, g9, g10] : Frm))) (ti_rng1 (te_snd_p (te_call1_t (t_shape m (by omega) p_a) (te_var rfl)))) ⟨_, _, _, _, rfl⟩ (by rintro s11 x16 _ ⟨g12, g13, g14, g15, rfl⟩; exact ⟨_, rfl, tb_iteX (te_isin_tt (te_bvar rfl) (te_bvar rfl)) (tb_cont ⟨(by intro h; cases h), .inr rfl, _, _, _, _, rfl⟩) (tb_asg (te_rep_p (te_R0) (te_snd_p (te_call1_t (t_shape m (by omega) p_a) (te_var rfl)))) (fun x19 => tb_setI rfl (te_R1) (te_var rfl) (fun x22 => tb_for (Φ := (fun (s24 : ((List (Int × Int)))) (f25 : Frm) => ∃ (g26 : Cell) (g27 : Cell), f25 = ([some (false, (eL (eL (eT eI eI))) p_a), some (false, (eL (eL (eT eI eI))) x1.1), some (false, (eL eI) x1.2), some (true, (eL (eL (eT eI eI))) s11), some (false, eI x16), some (true, (eL (eT eI eI)) s24), g26, g27] : Frm))) (ti_enum (te_var rfl)) ⟨_, _, rfl⟩ (by rintro s28 x31 _ ⟨g29, g30, rfl⟩; exact ⟨_, rfl, tb_setI rfl (te_call1 (t_rneg m (by omega)) (te_idx_pt (te_idx_tt (te_bvar rfl) (te_var rfl)) (te_var rfl))) (te_var rfl) (fun x36 => tb_end ⟨.inl rfl, _, _, rfl⟩)⟩) (by rintro s28 _ ⟨g29, g30, rfl⟩; exact tb_share rfl (tb_append rfl (te_var rfl) (fun x38 => tb_end ⟨.inl rfl, _, _, _, _, rfl⟩))))))⟩) (by rintro s11 _ ⟨g12, g13, g14, g15, rfl⟩; exact tb_share rfl (tb_retR (te_var rfl))))⟩))

noncomputable def P_qdivmod (p_a : (List (Int × Int))) (p_b : (List (Int × Int))) : Option ((List (Int × Int)) × (List (Int × Int))) := (bsel (ieq (ilen p_b) (Int.ofNat 0)) none (ob (some p_a) fun x1 => (ob (repO (Int.ofNat 0, Int.ofNat 1) (imax (Int.ofNat 0) (iadd (isub (ilen p_a) (ilen p_b)) (Int.ofNat 1)))) fun x2 => (ob (whileO (σ := ((List (Int × Int)) × (List (Int × Int)))) (fun s8 => (some (ile (ilen p_b) (ilen s8.2)))) (fun s8 => (ob (ob (idxO s8.2 (ineg (Int.ofNat 1))) fun x12 => (ob (idxO p_b (ineg (Int.ofNat 1))) fun x13 => P_rdiv x12 x13)) fun x14 => (ob (some (isub (ilen s8.2) (ilen p_b))) fun x15 => (ob (some x14) fun x16 => ob (some x15) fun x17 => ob (setO s8.1 x17 x16) fun x18 => (ob (ob (some (uptoT s8.2 (ineg (Int.ofNat 1)))) fun x21 => (ob (ob (P_qscale (uptoT p_b (ineg (Int.ofNat 1))) x14) fun x19 => (ob (some x15) fun x20 => P_qraise x19 x20)) fun x22 => P_qsub x21 x22)) fun x23 => (ob (some x23) fun x24 => (some (x18, x24)))))))) WF (x2, x1)) fun s8 => (ob (P_qtrim s8.1) fun x25 => (some (x25, s8.2)))))))
theorem t_qdivmod (n : Nat) (h : 6 ≤ n) (p_a : (List (Int × Int))) (p_b : (List (Int × Int))) : Con (I n) 49 [(eL (eT eI eI)) p_a, (eL (eT eI eI)) p_b] (eT (eL (eT eI eI)) (eL (eT eI eI))) (P_qdivmod p_a p_b) := by
  obtain ⟨m, rfl⟩ : ∃ m, n = m + 1 := ⟨n - 1, by omega⟩
  exact con_of (np := F_qdivmod.ps.length) (nv := F_qdivmod.vars.length) (b := b_qdivmod) (by kernel_rfl) rfl (fr0 := [some (false, (eL (eT eI eI)) p_a), some (false, (eL (eT eI eI)) p_b), none, none, none, none, none]) rfl rfl (tb_iteX (te_eq_tt (te_len_t (te_bvar rfl)) (te_int)) (tb_fail) (tb_asg2_2 (te_copy_t (te_var rfl)) (te_rep_t (te_R0) (te_max2_tt (te_int) (te_add_tt (te_sub_tt (te_len_t (te_bvar rfl)) (te_len_t (te_bvar rfl))) (te_int)))) (fun x1 x2 => ⟨_, rfl, tb_share rfl (tb_while (Φ := (fun (s3 : ((List (Int × Int)) × (List (Int × Int)))) (f4 : Frm) => ∃ (g5 : Cell) (g6 : Cell) (g7 : Cell), f4 = ([some (false, (eL (eT eI eI)) p_a), some (false, (eL (eT eI eI)) p_b), some (false, (eL (eT eI eI)) s3.2), some (true, (eL (eT eI eI)) s3.1), g5, g6, g7] : Frm))) ⟨_, _, _, rfl⟩ (by rintro s8 _ ⟨g9, g10, g11, rfl⟩; exact te_ge_tt (te_len_t (te_bvar rfl)) (te_len_t (te_bvar rfl))) (by rintro s8 _ ⟨g9, g10, g11, rfl⟩; exact tb_asg2_2 (te_call2 (t_rdiv m (by omega)) (te_idx_tt (te_bvar rfl) (te_neg_t (te_int))) (te_idx_tt (te_bvar rfl) (te_neg_t (te_int)))) (te_sub_tt (te_len_t (te_bvar rfl)) (te_len_t (te_bvar rfl))) (fun x14 x15 => ⟨_, rfl, tb_share rfl (tb_setI rfl (te_var rfl) (te_var rfl) (fun x18 => tb_asg (te_call2 (t_qsub m (by omega)) (te_upto_tt (te_var rfl) (te_neg_t (te_int))) (te_call2 (t_qraise m (by omega)) (te_call2_t (t_qscale m (by omega) (uptoT p_b (ineg (Int.ofNat 1))) x14) (te_upto_tt (te_var rfl) (te_neg_t (te_int))) (te_var rfl)) (te_var rfl))) (fun x23 => tb_asg (te_var rfl) (fun x24 => tb_end ⟨.inl rfl, _, _, _, rfl⟩))))⟩)) (by rintro s8 _ ⟨g9, g10, g11, rfl⟩; exact tb_share rfl (tb_retR (te_tup2_pt (te_call1_t (t_qtrim m (by omega) s8.1) (te_var rfl)) (te_var rfl)))))⟩)))

noncomputable def P_moved (p_p : (List (Int × Int))) (p_h : Int) : Option (List (Int × Int)) := (bsel (bnot (ieq p_h (Int.ofNat 0))) (P_qcompose p_p ([(p_h, (Int.ofNat 1)), (Int.ofNat 1, Int.ofNat 1)] : List (Int × Int))) (some p_p))
theorem t_moved (n : Nat) (h : 6 ≤ n) (p_p : (List (Int × Int))) (p_h : Int) : Con (I n) 55 [(eL (eT eI eI)) p_p, eI p_h] (eL (eT eI eI)) (P_moved p_p p_h) := by
  obtain ⟨m, rfl⟩ : ∃ m, n = m + 1 := ⟨n - 1, by omega⟩
  exact con_of (np := F_moved.ps.length) (nv := F_moved.vars.length) (b := b_moved) (by kernel_rfl) rfl (fr0 := [some (false, (eL (eT eI eI)) p_p), some (false, eI p_h)]) rfl rfl (tb_retR (te_ite_t (te_ne_tt (te_bvar rfl) (te_int)) (te_call2_t (t_qcompose m (by omega) p_p ([(p_h, (Int.ofNat 1)), (Int.ofNat 1, Int.ofNat 1)] : List (Int × Int))) (te_var rfl) (te_lst (tl_cons (te_tup2_tt (te_var rfl) (te_int)) (tl_cons (te_R1) (tl_nil))))) (te_var rfl)))

noncomputable def P_resultant (p_a : (List Int)) (p_b : (List Int)) : Option Int := (bsel (bsel (nilT p_a) true (nilT p_b)) (some (Int.ofNat 0)) (ob (some (Int.ofNat 1)) fun x1 => (ob (ob (P_zdegree p_a) fun x2 => (ob (P_zdegree p_b) fun x3 => (some (ilt x2 x3)))) fun x33 => (ob (bsel x33 (ob (some p_b) fun x9 => (ob (some p_a) fun x10 => (ob (ob (ob (ob (ob (P_zdegree x9) fun x13 => (modO x13 (Int.ofNat 2))) fun x14 => (some (ieq x14 (Int.ofNat 1)))) fun x15 => (bsel x15 (ob (ob (P_zdegree x10) fun x11 => (modO x11 (Int.ofNat 2))) fun x12 => (some (ieq x12 (Int.ofNat 1)))) (some false))) fun x16 => (bsel x16 (some (ineg (Int.ofNat 1))) (some (Int.ofNat 1)))) fun x17 => (some (x9, x10, x17))))) (some (p_a, p_b, x1))) fun s18 => (ob (P_zcontent s18.1) fun x22 => (ob (P_zcontent s18.2.1) fun x23 => (ob (ob (ob (P_zdegree s18.2.1) fun x24 => (powO x22 x24)) fun x26 => (ob (ob (P_zdegree s18.1) fun x25 => (powO x23 x25)) fun x27 => (mulO x26 x27))) fun x28 => (ob (ob (P_divided s18.1 x22) fun x29 => (ob (P_divided s18.2.1 x23) fun x30 => (ob (some s18.2.2) fun x31 => P_row_resultant x29 x30 x31))) fun x32 => (mulO x28 x32)))))))))
theorem t_resultant (n : Nat) (h : 7 ≤ n) (p_a : (List Int)) (p_b : (List Int)) : Con (I n) 19 [(eL eI) p_a, (eL eI) p_b] eI (P_resultant p_a p_b) := by
  obtain ⟨m, rfl⟩ : ∃ m, n = m + 1 := ⟨n - 1, by omega⟩
  exact con_of (np := F_resultant.ps.length) (nv := F_resultant.vars.length) (b := b_resultant) (by kernel_rfl) rfl (fr0 := [some (false, (eL eI) p_a), some (false, (eL eI) p_b), none, none, none, none]) rfl rfl (tb_iteX (te_or_tt (te_eqNilI_t (te_bvar rfl)) (te_eqNilI_t (te_bvar rfl))) (tb_retX (te_int)) (tb_asg (te_int) (fun x1 => tb_iteM (Φ := (fun (s4 : ((List Int) × (List Int) × Int)) (f5 : Frm) => ∃ (g6 : Cell) (g7 : Cell) (g8 : Cell), f5 = ([some (false, (eL eI) s4.1), some (false, (eL eI) s4.2.1), some (false, eI s4.2.2), g6, g7, g8] : Frm))) (te_lt_pp (te_call1_t (t_zdegree m (by omega) p_a) (te_var rfl)) (te_call1_t (t_zdegree m (by omega) p_b) (te_var rfl))) (tb_asg2_2 (te_var rfl) (te_var rfl) (fun x9 x10 => ⟨_, rfl, tb_asg (te_ite_p (te_and_p (te_eq_pt (te_mod_pt (te_call1_t (t_zdegree m (by omega) x9) (te_var rfl)) (te_int)) (te_int)) (te_eq_pt (te_mod_pt (te_call1_t (t_zdegree m (by omega) x10) (te_var rfl)) (te_int)) (te_int))) (te_neg_t (te_int)) (te_int)) (fun x17 => tb_end ⟨rfl, _, _, _, rfl⟩)⟩)) (tb_end ⟨rfl, _, _, _, rfl⟩) (by rintro s18 _ ⟨g19, g20, g21, rfl⟩; exact tb_asg2_2 (te_call1_t (t_zcontent m (by omega) s18.1) (te_var rfl)) (te_call1_t (t_zcontent m (by omega) s18.2.1) (te_var rfl)) (fun x22 x23 => ⟨_, rfl, tb_asg (te_mul_pp (te_pow_tp (te_var rfl) (te_call1_t (t_zdegree m (by omega) s18.2.1) (te_var rfl))) (te_pow_tp (te_var rfl) (te_call1_t (t_zdegree m (by omega) s18.1) (te_var rfl)))) (fun x28 => tb_share rfl (tb_retR (te_mul_tp (te_var rfl) (te_call3 (t_row_resultant m (by omega)) (te_call2_t (t_divided m (by omega) s18.1 x22) (te_var rfl) (te_var rfl)) (te_call2_t (t_divided m (by omega) s18.2.1 x23) (te_var rfl) (te_var rfl)) (te_var rfl)))))⟩)))))

noncomputable def P_solve_system (p_a : (List (List (Int × Int)))) (p_b : (List (Int × Int))) : Option ((Option (List (Int × Int))) × (List (List (Int × Int)))) := (ob (P_need_shape (ieq (ilen p_a) (ilen p_b)) (PySem.Str.ofString "as many numbers as rows are wanted")) fun _ => (ob (ob (P_shape p_a) fun x1 => (some x1.2)) fun x2 => (ob (ob (ob (ob (some p_a) fun x3 => some (enumF x3 0)) fun x7 => mapO (fun v4 => (ob (ob (idxO p_b v4.1) fun x5 => some [x5]) fun x6 => (appO v4.2 x6))) x7) fun x8 => P_echelon x8) fun x9 => (bsel (hasI x9.2 x2) (ob (P_null_base p_a) fun x10 => (some (none, x10))) (ob (repO (Int.ofNat 0, Int.ofNat 1) x2) fun x11 => (ob (ob (some x9.2) fun x12 => some (enumF x12 0)) fun x26 => ob (foldO (σ := ((List (Int × Int)))) (fun s17 x20 => (ob (ob (idxO x9.1 x20.1) fun x21 => (idxO x21 x2)) fun x22 => ob (some x20.2) fun x23 => ob (setO s17 x23 x22) fun x24 => (some x24))) x26 x11) fun s17 => (ob (P_null_base p_a) fun x25 => (some ((some s17), x25)))))))))
theorem t_solve_system (n : Nat) (h : 7 ≤ n) (p_a : (List (List (Int × Int)))) (p_b : (List (Int × Int))) : Con (I n) 39 [(eL (eL (eT eI eI))) p_a, (eL (eT eI eI)) p_b] (eT (eO (eL (eT eI eI))) (eL (eL (eT eI eI)))) (P_solve_system p_a p_b) := by
  obtain ⟨m, rfl⟩ : ∃ m, n = m + 1 := ⟨n - 1, by omega⟩
  exact con_of (np := F_solve_system.ps.length) (nv := F_solve_system.vars.length) (b := b_solve_system) (by kernel_rfl) rfl (fr0 := [some (false, (eL (eL (eT eI eI))) p_a), some (false, (eL (eT eI eI)) p_b), none, none, none, none, none, none]) rfl rfl (tb_expr (te_call2_t (t_need_shape m (by omega) (ieq (ilen p_a) (ilen p_b)) (PySem.Str.ofString "as many numbers as rows are wanted")) (te_eq_tt (te_len_t (te_bvar rfl)) (te_len_t (te_bvar rfl))) (te_str)) (tb_asg (te_snd_p (te_call1_t (t_shape m (by omega) p_a) (te_var rfl))) (fun x2 => tb_asgT2 (te_call1 (t_echelon m (by omega)) (te_comp2 (ti_enum (te_var rfl)) (fun v4 => te_addL_tp (te_copy_t (te_var rfl)) (te_lst (tl_cons_p (te_idx_tt (te_bvar rfl) (te_var rfl)) (tl_nil)))))) (fun x9 => ⟨_, rfl, tb_iteX (te_isin_tt (te_bvar rfl) (te_bvar rfl)) (tb_retX (te_tup2_tp (te_none) (te_call1_t (t_null_base m (by omega) p_a) (te_var rfl)))) (tb_asg (te_rep_t (te_R0) (te_var rfl)) (fun x11 => tb_for (Φ := (fun (s13 : ((List (Int × Int)))) (f14 : Frm) => ∃ (g15 : Cell) (g16 : Cell), f14 = ([some (false, (eL (eL (eT eI eI))) p_a), some (false, (eL (eT eI eI)) p_b), some (false, eI x2), some (false, (eL (eL (eT eI eI))) x9.1), some (false, (eL eI) x9.2), some (true, (eL (eT eI eI)) s13), g15, g16] : Frm))) (ti_enum (te_var rfl)) ⟨_, _, rfl⟩ (by rintro s17 x20 _ ⟨g18, g19, rfl⟩; exact ⟨_, rfl, tb_setI rfl (te_idx_pt (te_idx_tt (te_bvar rfl) (te_var rfl)) (te_var rfl)) (te_var rfl) (fun x24 => tb_end ⟨.inl rfl, _, _, rfl⟩)⟩) (by rintro s17 _ ⟨g18, g19, rfl⟩; exact tb_share rfl (tb_retR (te_tup2_tp (te_some_t (te_var rfl)) (te_call1_t (t_null_base m (by omega) p_a) (te_var rfl)))))))⟩))))

noncomputable def P_qgcd (p_a : (List (Int × Int))) (p_b : (List (Int × Int))) : Option (List (Int × Int)) := (ob (whileO (σ := ((List (Int × Int)) × (List (Int × Int)))) (fun s3 => (some (ilt (Int.ofNat 0) (ilen s3.2)))) (fun s3 => (ob (some s3.2) fun x6 => (ob (ob (ob (P_qdivmod s3.1 s3.2) fun x4 => (some x4.2)) fun x5 => P_qmonic x5) fun x7 => (some (x6, x7))))) WF (p_a, p_b)) fun s3 => (P_qmonic s3.1))
theorem t_qgcd (n : Nat) (h : 7 ≤ n) (p_a : (List (Int × Int))) (p_b : (List (Int × Int))) : Con (I n) 51 [(eL (eT eI eI)) p_a, (eL (eT eI eI)) p_b] (eL (eT eI eI)) (P_qgcd p_a p_b) := by
  obtain ⟨m, rfl⟩ : ∃ m, n = m + 1 := ⟨n - 1, by omega⟩
  exact con_of (np := F_qgcd.ps.length) (nv := F_qgcd.vars.length) (b := b_qgcd) (by kernel_rfl) rfl (fr0 := [some (false, (eL (eT eI eI)) p_a), some (false, (eL (eT eI eI)) p_b)]) rfl rfl (tb_while (Φ := (fun (s1 : ((List (Int × Int)) × (List (Int × Int)))) (f2 : Frm) => f2 = ([some (false, (eL (eT eI eI)) s1.1), some (false, (eL (eT eI eI)) s1.2)] : Frm))) rfl (by rintro s3 _ rfl; exact te_gt_tt (te_len_t (te_bvar rfl)) (te_int)) (by rintro s3 _ rfl; exact tb_asg2_2 (te_var rfl) (te_call1 (t_qmonic m (by omega)) (te_snd_p (te_call2_t (t_qdivmod m (by omega) s3.1 s3.2) (te_var rfl) (te_var rfl)))) (fun x6 x7 => ⟨_, rfl, tb_end ⟨.inl rfl, rfl⟩⟩)) (by rintro s3 _ rfl; exact tb_retR (te_call1_t (t_qmonic m (by omega) s3.1) (te_var rfl))))

noncomputable def P_difference_of (p_a : (List (Int × Int))) (p_b : (List (Int × Int))) (p_x : (List (Int × Int))) : Option (List (Int × Int)) := (ob (ob (some p_a) fun x1 => (ob (P_moved p_x (Int.ofNat 1)) fun x2 => P_qmul x1 x2)) fun x4 => (ob (ob (P_qmul p_b p_x) fun x3 => P_qneg x3) fun x5 => P_qadd x4 x5))
theorem t_difference_of (n : Nat) (h : 7 ≤ n) (p_a : (List (Int × Int))) (p_b : (List (Int × Int))) (p_x : (List (Int × Int))) : Con (I n) 59 [(eL (eT eI eI)) p_a, (eL (eT eI eI)) p_b, (eL (eT eI eI)) p_x] (eL (eT eI eI)) (P_difference_of p_a p_b p_x) := by
  obtain ⟨m, rfl⟩ : ∃ m, n = m + 1 := ⟨n - 1, by omega⟩
  exact con_of (np := F_difference_of.ps.length) (nv := F_difference_of.vars.length) (b := b_difference_of) (by kernel_rfl) rfl (fr0 := [some (false, (eL (eT eI eI)) p_a), some (false, (eL (eT eI eI)) p_b), some (false, (eL (eT eI eI)) p_x)]) rfl rfl (tb_retR (te_call2 (t_qadd m (by omega)) (te_call2 (t_qmul m (by omega)) (te_var rfl) (te_call2_t (t_moved m (by omega) p_x (Int.ofNat 1)) (te_var rfl) (te_int))) (te_call1 (t_qneg m (by omega)) (te_call2_t (t_qmul m (by omega) p_b p_x) (te_var rfl) (te_var rfl)))))

noncomputable def P_dispersions (p_a : (List Int)) (p_b : (List Int)) : Option (List Int) := (ob (ob (ob (P_zdegree p_a) fun x2 => (some (ilt x2 (Int.ofNat 1)))) fun x3 => (bsel x3 (some true) (ob (P_zdegree p_b) fun x1 => (some (ilt x1 (Int.ofNat 1)))))) fun x17 => bsel x17 (some ([] : List Int)) (ob (ob (P_zdegree p_a) fun x4 => (ob (P_zdegree p_b) fun x5 => (mulO x4 x5))) fun x6 => (ob (ob (ob (some (iadd x6 (Int.ofNat 1))) fun x7 => rng1O x7) fun x11 => mapO (fun v8 => (ob (some p_a) fun x9 => (ob (P_zshift p_b v8) fun x10 => P_resultant x9 x10))) x11) fun x12 => (ob (P_first_differences x12) fun x15 => (ob (ob (P_root_bound p_a) fun x13 => (ob (P_root_bound p_b) fun x14 => (some (iadd x13 x14)))) fun x16 => P_zeros_on x15 x16)))))
theorem t_dispersions (n : Nat) (h : 8 ≤ n) (p_a : (List Int)) (p_b : (List Int)) : Con (I n) 23 [(eL eI) p_a, (eL eI) p_b] (eL eI) (P_dispersions p_a p_b) := by
  obtain ⟨m, rfl⟩ : ∃ m, n = m + 1 := ⟨n - 1, by omega⟩
  exact con_of (np := F_dispersions.ps.length) (nv := F_dispersions.vars.length) (b := b_dispersions) (by kernel_rfl) rfl (fr0 := [some (false, (eL eI) p_a), some (false, (eL eI) p_b), none, none]) rfl rfl (tb_iteX (te_or_p (te_lt_pt (te_call1_t (t_zdegree m (by omega) p_a) (te_var rfl)) (te_int)) (te_lt_pt (te_call1_t (t_zdegree m (by omega) p_b) (te_var rfl)) (te_int))) (tb_retX (te_lst (tl_nil))) (tb_asg (te_mul_pp (te_call1_t (t_zdegree m (by omega) p_a) (te_var rfl)) (te_call1_t (t_zdegree m (by omega) p_b) (te_var rfl))) (fun x6 => tb_share rfl (tb_asg (te_comp0 (ti_rng1 (te_add_tt (te_var rfl) (te_int))) (fun v8 => te_call2 (t_resultant m (by omega)) (te_var rfl) (te_call2_t (t_zshift m (by omega) p_b v8) (te_var rfl) (te_var rfl)))) (fun x12 => tb_share rfl (tb_retR (te_call2 (t_zeros_on m (by omega)) (te_call1_t (t_first_differences m (by omega) x12) (te_var rfl)) (te_add_pp (te_call1_t (t_root_bound m (by omega) p_a) (te_var rfl)) (te_call1_t (t_root_bound m (by omega) p_b) (te_var rfl))))))))))

noncomputable def P_fmake (p_top : (List (Int × Int))) (p_bottom : (List (Int × Int))) : Option ((List (Int × Int)) × (List (Int × Int))) := (bsel (nilT p_bottom) none (bsel (nilT p_top) none (ob (P_qgcd p_top p_bottom) fun x1 => (ob (ob (P_qdegree x1) fun x2 => (some (ilt (Int.ofNat 0) x2))) fun x16 => (ob (bsel x16 (ob (ob (P_qdivmod p_top x1) fun x6 => (some x6.1)) fun x8 => (ob (ob (P_qdivmod p_bottom x1) fun x7 => (some x7.1)) fun x9 => (some (x8, x9)))) (some (p_top, p_bottom))) fun s10 => (ob (ob (P_qlead s10.2) fun x12 => P_rinv x12) fun x13 => (ob (P_qscale s10.1 x13) fun x14 => (ob (P_qscale s10.2 x13) fun x15 => (some (x14, x15))))))))))
theorem t_fmake (n : Nat) (h : 8 ≤ n) (p_top : (List (Int × Int))) (p_bottom : (List (Int × Int))) : Con (I n) 54 [(eL (eT eI eI)) p_top, (eL (eT eI eI)) p_bottom] (eT (eL (eT eI eI)) (eL (eT eI eI))) (P_fmake p_top p_bottom) := by
  obtain ⟨m, rfl⟩ : ∃ m, n = m + 1 := ⟨n - 1, by omega⟩
  exact con_of (np := F_fmake.ps.length) (nv := F_fmake.vars.length) (b := b_fmake) (by kernel_rfl) rfl (fr0 := [some (false, (eL (eT eI eI)) p_top), some (false, (eL (eT eI eI)) p_bottom), none, none]) rfl rfl (tb_iteX (te_eqNilR_t (te_bvar rfl)) (tb_fail) (tb_iteX (te_eqNilR_t (te_bvar rfl)) (tb_fail) (tb_asg (te_call2_t (t_qgcd m (by omega) p_top p_bottom) (te_var rfl) (te_var rfl)) (fun x1 => tb_iteM (Φ := (fun (s3 : ((List (Int × Int)) × (List (Int × Int)))) (f4 : Frm) => ∃ (g5 : Cell), f4 = ([some (false, (eL (eT eI eI)) s3.1), some (false, (eL (eT eI eI)) s3.2), some (false, (eL (eT eI eI)) x1), g5] : Frm))) (te_gt_pt (te_call1_t (t_qdegree m (by omega) x1) (te_var rfl)) (te_int)) (tb_asg2_2 (te_fst_p (te_call2_t (t_qdivmod m (by omega) p_top x1) (te_var rfl) (te_var rfl))) (te_fst_p (te_call2_t (t_qdivmod m (by omega) p_bottom x1) (te_var rfl) (te_var rfl))) (fun x8 x9 => ⟨_, rfl, tb_end ⟨rfl, _, rfl⟩⟩)) (tb_end ⟨rfl, _, rfl⟩) (by rintro s10 _ ⟨g11, rfl⟩; exact tb_asg (te_call1 (t_rinv m (by omega)) (te_call1_t (t_qlead m (by omega) s10.2) (te_var rfl))) (fun x13 => tb_retR (te_tup2_pp (te_call2_t (t_qscale m (by omega) s10.1 x13) (te_var rfl) (te_var rfl)) (te_call2_t (t_qscale m (by omega) s10.2 x13) (te_var rfl) (te_var rfl)))))))))

noncomputable def P_key_solution (p_a : (List (Int × Int))) (p_b : (List (Int × Int))) (p_c : (List (Int × Int))) : Option (Option (List (Int × Int))) := (bsel (nilT p_c) (some (some ([] : List (Int × Int)))) (ob (P_most_degree p_a p_b p_c) fun x1 => (bsel (ilt x1 (Int.ofNat 0)) (some none) (ob (ob (ob (some (iadd x1 (Int.ofNat 1))) fun x2 => rng1O x2) fun x7 => mapO (fun v3 => (ob (some p_a) fun x4 => (ob (some p_b) fun x5 => (ob (P_qraise ([(Int.ofNat 1, Int.ofNat 1)] : List (Int × Int)) v3) fun x6 => P_difference_of x4 x5 x6)))) x7) fun x8 => (ob (ob (ob (ob (some x8) fun x10 => some (mapT (fun v9 => (ilen v9)) x10)) fun x11 => (appO x11 ([(ilen p_c)] : List Int))) fun x12 => (maxO x12)) fun x13 => (ob (ob (ob (some x13) fun x14 => rng1O x14) fun x18 => mapO (fun v15 => (ob (some x8) fun x17 => mapO (fun v16 => (P_coefficient_at v16 v15)) x17)) x18) fun x19 => (ob (ob (ob (some x19) fun x23 => (ob (ob (ob (some x13) fun x20 => rng1O x20) fun x22 => mapO (fun v21 => (P_coefficient_at p_c v21)) x22) fun x24 => P_solve_system x23 x24)) fun x25 => (some x25.1)) fun x26 => (bsel (noneT x26) (some none) (ob (ob x26 fun x27 => P_trimmed x27) fun x28 => some (some x28))))))))))
theorem t_key_solution (n : Nat) (h : 8 ≤ n) (p_a : (List (Int × Int))) (p_b : (List (Int × Int))) (p_c : (List (Int × Int))) : Con (I n) 60 [(eL (eT eI eI)) p_a, (eL (eT eI eI)) p_b, (eL (eT eI eI)) p_c] (eO (eL (eT eI eI))) (P_key_solution p_a p_b p_c) := by
  obtain ⟨m, rfl⟩ : ∃ m, n = m + 1 := ⟨n - 1, by omega⟩
  exact con_of (np := F_key_solution.ps.length) (nv := F_key_solution.vars.length) (b := b_key_solution) (by kernel_rfl) rfl (fr0 := [some (false, (eL (eT eI eI)) p_a), some (false, (eL (eT eI eI)) p_b), some (false, (eL (eT eI eI)) p_c), none, none, none, none, none]) rfl rfl (tb_iteX (te_eqNilR_t (te_bvar rfl)) (tb_retX (te_some_t (te_lst (tl_nil)))) (tb_asg (te_call3_t (t_most_degree m (by omega) p_a p_b p_c) (te_var rfl) (te_var rfl) (te_var rfl)) (fun x1 => tb_iteX (te_lt_tt (te_bvar rfl) (te_int)) (tb_retX (te_none)) (tb_asg (te_comp0 (ti_rng1 (te_add_tt (te_var rfl) (te_int))) (fun v3 => te_call3 (t_difference_of m (by omega)) (te_var rfl) (te_var rfl) (te_call2_t (t_qraise m (by omega) ([(Int.ofNat 1, Int.ofNat 1)] : List (Int × Int)) v3) (te_lst (tl_cons (te_R1) (tl_nil))) (te_var rfl)))) (fun x8 => tb_share rfl (tb_asg (te_maxl_p (te_addL_pt (te_comp0t (ti_seq (te_var rfl)) (fun v9 => te_len_t (te_bvar rfl))) (te_lst (tl_cons (te_len_t (te_bvar rfl)) (tl_nil))))) (fun x13 => tb_asg (te_comp0 (ti_rng1 (te_var rfl)) (fun v15 => te_comp0 (ti_seq (te_var rfl)) (fun v16 => te_call2_t (t_coefficient_at m (by omega) v16 v15) (te_var rfl) (te_var rfl)))) (fun x19 => tb_share rfl (tb_asg (te_fst_p (te_call2 (t_solve_system m (by omega)) (te_var rfl) (te_comp0 (ti_rng1 (te_var rfl)) (fun v21 => te_call2_t (t_coefficient_at m (by omega) p_c v21) (te_var rfl) (te_var rfl))))) (fun x26 => tb_retR (te_ite_t (te_isN_t (fun _ => rfl) (te_bvar rfl)) (te_none) (te_some (te_call1 (t_trimmed m (by omega)) (te_uvar rfl))))))))))))))

noncomputable def P_parted (p_top : (List (Int × Int))) (p_bottom : (List (Int × Int))) : Option ((List (Int × Int)) × (List (Int × Int)) × (List (Int × Int))) := (ob (some p_top) fun x1 => (ob (some p_bottom) fun x2 => (ob (some ([(Int.ofNat 1, Int.ofNat 1)] : List (Int × Int))) fun x3 => (ob (ob (ob (P_to_z x1) fun x4 => (some x4.1)) fun x6 => (ob (ob (P_to_z x2) fun x5 => (some x5.1)) fun x7 => P_dispersions x6 x7)) fun x46 => ob (foldO (σ := ((List (Int × Int)) × (List (Int × Int)) × (List (Int × Int)))) (fun s13 x17 => (ob (ob (some s13.1) fun x18 => (ob (P_moved s13.2.1 x17) fun x19 => P_qgcd x18 x19)) fun x20 => (ob (ob (P_qdegree x20) fun x21 => (some (ilt (Int.ofNat 0) x21))) fun x45 => (ob (bsel x45 (ob (ob (P_qdivmod s13.1 x20) fun x25 => (some x25.1)) fun x29 => (ob (ob (ob (some s13.2.1) fun x26 => (ob (P_moved x20 (ineg x17)) fun x27 => P_qdivmod x26 x27)) fun x28 => (some x28.1)) fun x30 => (ob (ob (some (Int.ofNat 1)) fun x31 => (ob (some (iadd x17 (Int.ofNat 1))) fun x32 => rng2O x31 x32)) fun x42 => ob (foldO (σ := ((List (Int × Int)))) (fun s36 x38 => (ob (ob (some s36) fun x39 => (ob (P_moved x20 (ineg x38)) fun x40 => P_qmul x39 x40)) fun x41 => (some x41))) x42 s13.2.2) fun s36 => (some (x29, x30, s36))))) (some (s13.1, s13.2.1, s13.2.2))) fun s43 => (some (s43.1, s43.2.1, s43.2.2)))))) x46 (x1, x2, x3)) fun s13 => (some (s13.1, s13.2.1, s13.2.2))))))
theorem t_parted (n : Nat) (h : 9 ≤ n) (p_top : (List (Int × Int))) (p_bottom : (List (Int × Int))) : Con (I n) 56 [(eL (eT eI eI)) p_top, (eL (eT eI eI)) p_bottom] (eT3 (eL (eT eI eI)) (eL (eT eI eI)) (eL (eT eI eI))) (P_parted p_top p_bottom) := by
  obtain ⟨m, rfl⟩ : ∃ m, n = m + 1 := ⟨n - 1, by omega⟩
  exact con_of (np := F_parted.ps.length) (nv := F_parted.vars.length) (b := b_parted) (by kernel_rfl) rfl (fr0 := [some (false, (eL (eT eI eI)) p_top), some (false, (eL (eT eI eI)) p_bottom), none, none, none, none, none, none]) rfl rfl (tb_asg2_3 (te_var rfl) (te_var rfl) (te_lst (tl_cons (te_R1) (tl_nil))) (fun x1 x2 x3 => ⟨_, rfl, tb_share rfl (tb_for (Φ := (fun (s8 : ((List (Int × Int)) × (List (Int × Int)) × (List (Int × Int)))) (f9 : Frm) => ∃ (g10 : Cell) (g11 : Cell) (g12 : Cell), f9 = ([some (false, (eL (eT eI eI)) p_top), some (false, (eL (eT eI eI)) p_bottom), some (false, (eL (eT eI eI)) s8.1), some (false, (eL (eT eI eI)) s8.2.1), some (false, (eL (eT eI eI)) s8.2.2), g10, g11, g12] : Frm))) (ti_seq (te_call2 (t_dispersions m (by omega)) (te_fst_p (te_call1_t (t_to_z m (by omega) x1) (te_var rfl))) (te_fst_p (te_call1_t (t_to_z m (by omega) x2) (te_var rfl))))) ⟨_, _, _, rfl⟩ (by rintro s13 x17 _ ⟨g14, g15, g16, rfl⟩; exact ⟨_, rfl, tb_asg (te_call2 (t_qgcd m (by omega)) (te_var rfl) (te_call2_t (t_moved m (by omega) s13.2.1 x17) (te_var rfl) (te_var rfl))) (fun x20 => tb_iteM (Φ := (fun (s22 : ((List (Int × Int)) × (List (Int × Int)) × (List (Int × Int)))) (f23 : Frm) => ∃ (g24 : Cell), f23 = ([some (false, (eL (eT eI eI)) p_top), some (false, (eL (eT eI eI)) p_bottom), some (false, (eL (eT eI eI)) s22.1), some (false, (eL (eT eI eI)) s22.2.1), some (false, (eL (eT eI eI)) s22.2.2), some (false, eI x17), some (false, (eL (eT eI eI)) x20), g24] : Frm))) (te_gt_pt (te_call1_t (t_qdegree m (by omega) x20) (te_var rfl)) (te_int)) (tb_asg2_2 (te_fst_p (te_call2_t (t_qdivmod m (by omega) s13.1 x20) (te_var rfl) (te_var rfl))) (te_fst_p (te_call2 (t_qdivmod m (by omega)) (te_var rfl) (te_call2_t (t_moved m (by omega) x20 (ineg x17)) (te_var rfl) (te_neg_t (te_var rfl))))) (fun x29 x30 => ⟨_, rfl, tb_for (Φ := (fun (s33 : ((List (Int × Int)))) (f34 : Frm) => ∃ (g35 : Cell), f34 = ([some (false, (eL (eT eI eI)) p_top), some (false, (eL (eT eI eI)) p_bottom), some (false, (eL (eT eI eI)) x29), some (false, (eL (eT eI eI)) x30), some (false, (eL (eT eI eI)) s33), some (false, eI x17), some (false, (eL (eT eI eI)) x20), g35] : Frm))) (ti_rng2 (te_int) (te_add_tt (te_var rfl) (te_int))) ⟨_, rfl⟩ (by rintro s36 x38 _ ⟨g37, rfl⟩; exact ⟨_, rfl, tb_asg (te_call2 (t_qmul m (by omega)) (te_var rfl) (te_call2_t (t_moved m (by omega) x20 (ineg x38)) (te_var rfl) (te_neg_t (te_var rfl)))) (fun x41 => tb_end ⟨.inl rfl, _, rfl⟩)⟩) (by rintro s36 _ ⟨g37, rfl⟩; exact tb_end ⟨rfl, _, rfl⟩)⟩)) (tb_end ⟨rfl, _, rfl⟩) (by rintro s43 _ ⟨g44, rfl⟩; exact tb_end ⟨.inl rfl, _, _, _, rfl⟩))⟩) (by rintro s13 _ ⟨g14, g15, g16, rfl⟩; exact tb_retR (te_tup3_t (te_var rfl) (te_var rfl) (te_var rfl))))⟩))

noncomputable def P_gosper (p_ratio : ((List (Int × Int)) × (List (Int × Int)))) : Option (Option ((List (Int × Int)) × (List (Int × Int)))) := (ob (P_parted p_ratio.1 p_ratio.2) fun x1 => (ob (P_moved x1.2.1 (ineg (Int.ofNat 1))) fun x2 => (ob (P_key_solution x1.1 x2 x1.2.2) fun x3 => (bsel (noneT x3) (some none) (ob (ob (ob (some x2) fun x4 => (ob x3 fun x5 => P_qmul x4 x5)) fun x6 => (ob (some x1.2.2) fun x7 => P_fmake x6 x7)) fun x8 => some (some x8))))))
theorem t_gosper (n : Nat) (h : 10 ≤ n) (p_ratio : ((List (Int × Int)) × (List (Int × Int)))) : Con (I n) 62 [(eT (eL (eT eI eI)) (eL (eT eI eI))) p_ratio] (eO (eT (eL (eT eI eI)) (eL (eT eI eI)))) (P_gosper p_ratio) := by
  obtain ⟨m, rfl⟩ : ∃ m, n = m + 1 := ⟨n - 1, by omega⟩
  exact con_of (np := F_gosper.ps.length) (nv := F_gosper.vars.length) (b := b_gosper) (by kernel_rfl) rfl (fr0 := [some (false, (eT (eL (eT eI eI)) (eL (eT eI eI))) p_ratio), none, none, none, none, none]) rfl rfl (tb_asgT3 (te_call2_t (t_parted m (by omega) p_ratio.1 p_ratio.2) (te_fst_t (te_bvar rfl)) (te_snd_t (te_bvar rfl))) (fun x1 => ⟨_, rfl, tb_asg (te_call2_t (t_moved m (by omega) x1.2.1 (ineg (Int.ofNat 1))) (te_var rfl) (te_neg_t (te_int))) (fun x2 => tb_asg (te_call3_t (t_key_solution m (by omega) x1.1 x2 x1.2.2) (te_var rfl) (te_var rfl) (te_var rfl)) (fun x3 => tb_retR (te_ite_t (te_isN_t (fun _ => rfl) (te_bvar rfl)) (te_none) (te_some (te_call2 (t_fmake m (by omega)) (te_call2 (t_qmul m (by omega)) (te_var rfl) (te_uvar rfl)) (te_var rfl))))))⟩))

end
end Mine
-- NF
namespace Mine
noncomputable section
theorem ti_tup2 {Γ : Env0} {fr : Frm} {a b : E} {α : Type} {eα : α → V} {x y : α} (h1 : TE Γ fr a eα (some x)) (h2 : TE Γ fr b eα (some y)) : TI Γ fr (.seq (.tup (.cons a (.cons b .nil)))) eα (some [x, y]) := by
  intro d r e
  cases e
  have e : evE Γ (.tup (.cons a (.cons b .nil))) fr d = some (.tup [eα x, eα y], d) := bindE (evl2 (h1 d x rfl) (h2 d y rfl))
  exact (bindE e).trans rfl
noncomputable def twoO {α : Type} (l : List α) : Option (α × α) := @List.rec α (fun _ => Option (α × α)) none (fun x r _ => @List.rec α (fun _ => Option (α × α)) none (fun y t _ => bsel (nilT t) (some (x, y)) none) r) l
theorem twoO_ok {α : Type} {l : List α} {p : α × α} (h : twoO l = some p) : l = [p.1, p.2] := by
  match l, h with
  | [], h => cases h
  | [x], h => cases h
  | [x, y], h => cases h; rfl
  | x :: y :: z :: t, h => cases h
theorem tb_asgL2 {Γ : Env0} {fr : Frm} {a : E} {α ρ : Type} {eα : α → V} {Q : ρ → Fl → Frm → Prop} {rest : SL} {ks : List Nat} {o : Option (List α)} {g : α × α → Option ρ} (h : TE Γ fr a (eL eα) o)
    (hr : ∀ x, ∃ fr1, setAll fr ks [eα x.1, eα x.2] = some fr1 ∧ TB Γ fr1 rest Q (g x)) : TB Γ fr (.cons (.asgT ks a) rest) Q (ob o fun l => ob (twoO l) g) := by
  intro d r e
  obtain ⟨l, e1, e⟩ := ob_some e
  obtain ⟨p, e2, e⟩ := ob_some e
  obtain ⟨fr1, q, hr⟩ := hr p
  have := twoO_ok e2
  subst this
  refine tb_step (fun d => ?_) hr d r e
  exact (bindE (h d _ e1)).trans (bindE q)
noncomputable def SL.drop : Nat → SL → SL
  | 0, l => l
  | n + 1, .cons _ l => SL.drop n l
  | _ + 1, .nil => .nil
noncomputable def loopBody : SL := match b_law with
  | .cons _ (.cons (.for _ _ _ b) _) => b
  | _ => .nil
noncomputable def ΦL (_ : Unit) (f : Frm) : Prop := ∃ (g0 g2 g3 g4 g5 g6 g7 g8 g9 g10 g11 g12 : Cell), f = [g0, some (false, V.drw), g2, g3, g4, g5, g6, g7, g8, g9, g10, g11, g12]
noncomputable def P_made (p_above : (List Int)) (p_below : (List Int)) (p_c : Int) : Option Bool := (ob (bsel (bsel (ieq p_c (Int.ofNat 1)) (bsel (eqZ p_above p_below) true (bsel (ieq (ilen p_above) (Int.ofNat 1)) (ieq (ilen p_below) (Int.ofNat 1)) false)) false) (ob (some ([(Int.ofNat 1), (Int.ofNat 2)] : List Int)) fun x11 => (some x11)) (some p_above)) fun s12 => (ob (ob (ob (some ([p_c] : List Int)) fun x21 => (ob (P_law_shifted s12) fun x22 => P_law_mul x21 x22)) fun x23 => (ob (some p_below) fun x24 => P_law_mul x23 x24)) fun x25 => (ob (ob (some x25) fun x30 => (ob (ob (ob (some s12) fun x26 => (ob (P_law_shifted p_below) fun x27 => P_law_mul x26 x27)) fun x29 => some (mapT (fun v28 => (ineg v28)) x29)) fun x31 => P_law_sum x30 x31)) fun x32 => (bsel (nilT x32) (some true) (ob (ob (some p_below) fun x33 => (ob (P_law_shifted p_below) fun x34 => P_law_mul x33 x34)) fun x35 => (ob (ob (ob (some ([p_c] : List Int)) fun x36 => (ob (P_law_shifted x32) fun x37 => P_law_mul x36 x37)) fun x38 => (ob (some x35) fun x39 => P_law_mul x38 x39)) fun x42 => (ob (ob (some x32) fun x40 => (ob (P_law_shifted x35) fun x41 => P_law_mul x40 x41)) fun x43 => (ob (ob (P_law_quotients x42) fun x44 => (ob (P_law_quotients x43) fun x45 => P_fmake x44 x45)) fun x46 => (ob (P_gosper x46) fun x47 => (bsel (bnot (noneT x47)) (ob (some x46) fun x48 => (ob x47 fun x49 => (ob (some (Int.ofNat 14)) fun x50 => P_law_certified x48 x49 x50))) (some false)))))))))))
theorem t_made (m : Nat) (h : 11 ≤ m + 1) (p_above : (List Int)) (p_below : (List Int)) (p_c : Int) (g_left : Cell) (g_top : Cell) (g_bottom : Cell) (g_wide : Cell) (g_narrow : Cell) (g_ratio : Cell) (g_certificate : Cell) : TB (I m) [some (false, V.drw), some (false, (eL eI) p_above), some (false, (eL eI) p_below), some (false, eI p_c), g_left, g_top, g_bottom, g_wide, g_narrow, g_ratio, g_certificate] (SL.drop 2 b_law_made_right) (QR eB) (P_made p_above p_below p_c) :=
  tb_iteM (Φ := (fun (s1 : ((List Int))) (f2 : Frm) => ∃ (g3 : Cell) (g4 : Cell) (g5 : Cell) (g6 : Cell) (g7 : Cell) (g8 : Cell) (g9 : Cell) (g10 : Cell), f2 = ([g3, some (false, (eL eI) s1), some (false, (eL eI) p_below), some (false, eI p_c), g4, g5, g6, g7, g8, g9, g10] : Frm))) (te_and_tt (te_eq_tt (te_bvar rfl) (te_int)) (te_or_tt (te_eqZ_tt (te_bvar rfl) (te_bvar rfl)) (te_and_tt (te_eq_tt (te_len_t (te_bvar rfl)) (te_int)) (te_eq_tt (te_len_t (te_bvar rfl)) (te_int))))) (tb_asg (te_lst (tl_cons (te_int) (tl_cons (te_int) (tl_nil)))) (fun x11 => tb_share rfl (tb_end ⟨rfl, _, _, _, _, _, _, _, _, rfl⟩))) (tb_end ⟨rfl, _, _, _, _, _, _, _, _, rfl⟩) (by rintro s12 _ ⟨g13, g14, g15, g16, g17, g18, g19, g20, rfl⟩; exact tb_asg (te_call2 (t_law_mul m (by omega)) (te_call2 (t_law_mul m (by omega)) (te_lst (tl_cons (te_var rfl) (tl_nil))) (te_call1_t (t_law_shifted m (by omega) s12) (te_var rfl))) (te_var rfl)) (fun x25 => tb_asg (te_call2 (t_law_sum m (by omega)) (te_var rfl) (te_comp0t (ti_seq (te_call2 (t_law_mul m (by omega)) (te_var rfl) (te_call1_t (t_law_shifted m (by omega) p_below) (te_var rfl)))) (fun v28 => te_neg_t (te_var rfl)))) (fun x32 => tb_iteX (te_eqNilI_t (te_bvar rfl)) (tb_retX (te_bool)) (tb_asg (te_call2 (t_law_mul m (by omega)) (te_var rfl) (te_call1_t (t_law_shifted m (by omega) p_below) (te_var rfl))) (fun x35 => tb_asg2_2 (te_call2 (t_law_mul m (by omega)) (te_call2 (t_law_mul m (by omega)) (te_lst (tl_cons (te_var rfl) (tl_nil))) (te_call1_t (t_law_shifted m (by omega) x32) (te_var rfl))) (te_var rfl)) (te_call2 (t_law_mul m (by omega)) (te_var rfl) (te_call1_t (t_law_shifted m (by omega) x35) (te_var rfl))) (fun x42 x43 => ⟨_, rfl, tb_asg (te_call2 (t_fmake m (by omega)) (te_call1_t (t_law_quotients m (by omega) x42) (te_var rfl)) (te_call1_t (t_law_quotients m (by omega) x43) (te_var rfl))) (fun x46 => tb_asg (te_call1_t (t_gosper m (by omega) x46) (te_var rfl)) (fun x47 => tb_retR (te_and_t (te_notN_t (fun _ => rfl) (te_bvar rfl)) (te_call3 (t_law_certified m (by omega)) (te_var rfl) (te_uvar rfl) (te_int)))))⟩))))))

noncomputable def P_round (p_top : (List Int)) (p_bottom : (List Int)) (p_there : Bool) : Option (Sum Unit Bool) := (ob (ob (P_law_quotients p_top) fun x1 => (ob (P_law_quotients p_bottom) fun x2 => P_fmake x1 x2)) fun x3 => (ob (P_gosper x3) fun x4 => (bsel (bsel (bnot (noneT x4)) (bnot p_there) p_there) (ob (some false) fun x5 => some (.inr x5)) (ob (bsel (bnot (noneT x4)) (ob (ob (some x3) fun x6 => (ob x4 fun x7 => (ob (some (Int.ofNat 10)) fun x8 => P_law_certified x6 x7 x8))) fun x9 => (some (bnot x9))) (some false)) fun x11 => bsel x11 (ob (some false) fun x10 => some (.inr x10)) (some (.inl ()))))))
theorem t_round (m : Nat) (h : 11 ≤ m + 1) (p_top : (List Int)) (p_bottom : (List Int)) (p_there : Bool) (g_script : Cell) (g_ratio : Cell) (g_told : Cell) (g_a : Cell) (g_b : Cell) (g_c : Cell) (g_x : Cell) (g_first : Cell) (g_second : Cell) : TB (I m) [g_script, some (false, V.drw), some (false, (eL eI) p_top), some (false, (eL eI) p_bottom), some (false, eB p_there), g_ratio, g_told, g_a, g_b, g_c, g_x, g_first, g_second] (loopBody) (QLR ΦL eB) (P_round p_top p_bottom p_there) :=
  tb_asg (te_call2 (t_fmake m (by omega)) (te_call1_t (t_law_quotients m (by omega) p_top) (te_var rfl)) (te_call1_t (t_law_quotients m (by omega) p_bottom) (te_var rfl))) (fun x3 => tb_asg (te_call1_t (t_gosper m (by omega) x3) (te_var rfl)) (fun x4 => tb_iteX (te_neB_tt (te_notN_t (fun _ => rfl) (te_bvar rfl)) (te_bvar rfl)) (tb_retLR (te_bool)) (tb_iteX (te_and_t (te_notN_t (fun _ => rfl) (te_bvar rfl)) (te_not_p (te_call3 (t_law_certified m (by omega)) (te_var rfl) (te_uvar rfl) (te_int)))) (tb_retLR (te_bool)) (tb_end ⟨.inl rfl, _, _, _, _, _, _, _, _, _, _, _, _, rfl⟩))))

noncomputable def P_fin (p_a : (List (Int × Int))) (p_b : (List (Int × Int))) (p_c : (List (Int × Int))) (p_x : (Option (List (Int × Int)))) : Option Bool := (ob (ob (some [(Int.ofNat 0), (Int.ofNat 1)]) fun x4 => mapO (fun v1 => (ob p_x fun x2 => (ob (some v1) fun x3 => P_law_at x2 x3))) x4) fun x6 => ob (twoO x6) fun x5 => (bsel (ilt (Int.ofNat 0) (ilen p_c)) (bsel (ilt (ilen p_a) (Int.ofNat 4)) (bsel (ilt (ilen p_b) (Int.ofNat 4)) (ob (mulO x5.1.1 x5.2.2) fun x7 => (ob (mulO x5.2.1 x5.1.2) fun x8 => (some (ieq x7 x8)))) (some false)) (some false)) (some false)))
theorem t_fin (m : Nat) (h : 2 ≤ m + 1) (p_a : (List (Int × Int))) (p_b : (List (Int × Int))) (p_c : (List (Int × Int))) (p_x : (Option (List (Int × Int)))) (g_script : Cell) (g_top : Cell) (g_bottom : Cell) (g_is_there : Cell) (g_ratio : Cell) (g_told : Cell) (g_first : Cell) (g_second : Cell) : TB (I m) [g_script, some (false, V.drw), g_top, g_bottom, g_is_there, g_ratio, g_told, some (false, (eL (eT eI eI)) p_a), some (false, (eL (eT eI eI)) p_b), some (false, (eL (eT eI eI)) p_c), some (false, (eO (eL (eT eI eI))) p_x), g_first, g_second] (SL.drop 4 b_law) (QR eB) (P_fin p_a p_b p_c p_x) :=
  tb_asgL2 (te_comp0 (ti_tup2 (te_int) (te_int)) (fun v1 => te_call2 (t_law_at m (by omega)) (te_uvar rfl) (te_var rfl))) (fun x5 => ⟨_, rfl, tb_retR (te_and_t (te_gt_tt (te_len_t (te_bvar rfl)) (te_int)) (te_and_t (te_lt_tt (te_len_t (te_bvar rfl)) (te_int)) (te_and_t (te_lt_tt (te_len_t (te_bvar rfl)) (te_int)) (te_eq_pp (te_mul_tt (te_fst_t (te_bvar rfl)) (te_snd_t (te_bvar rfl))) (te_mul_tt (te_fst_t (te_bvar rfl)) (te_snd_t (te_bvar rfl)))))))⟩)

end
end Mine
-- NG
namespace Mine

noncomputable def GoodD (d : Dr) : Prop := ∃ g m : Int, d = some (g, m) ∧ 0 ≤ m ∧ m < 2147483647
theorem mulOk_small {a b : Int} (ha : a.natAbs < 2147483648) (hb : b.natAbs < 2147483648) : mulOk a b = true := by
  have hB : 2147483648 ≤ BIG := by decide +kernel
  unfold mulOk
  rw [Nat.blt_eq.mpr (by omega), Nat.blt_eq.mpr (by omega)]; rfl
theorem divOk_small {b : Int} (hb : b.natAbs < 2147483648) (h0 : b ≠ 0) : divOk b = true := by
  have hB : 2147483648 ≤ BIG := by decide +kernel
  unfold divOk
  rw [Nat.blt_eq.mpr (by omega), decide_eq_true h0]; rfl
theorem fmod_lt {a b : Int} (h : 0 < b) : 0 ≤ a.fmod b ∧ a.fmod b < b := ⟨Int.fmod_nonneg_of_pos a h, Int.fmod_lt_of_pos a h⟩

theorem take_pos (m : Nat) {g x many : Int} (hg : g > 0) (hd : divOk many = true) (hne : many ≠ 0) :
    exL (I m) WF b_law_take [some (false, .drw), some (false, .int many), none] (some (g, x)) = some (.ret false (.int (g.fmod many)), [some (false, .drw), some (false, .int many), some (false, .int (g.fmod many))], some (g.fdiv many, x)) := by
  have eg : evE (I m) (.dget true 0) [some (false, .drw), some (false, .int many), none] (some (g, x)) = some (.int g, some (g, x)) := rfl
  have e1 : evE (I m) (.var 1) [some (false, .drw), some (false, .int many), none] (some (g, x)) = some (.int many, some (g, x)) := rfl
  have ec : evE (I m) (.cmp .gt (.dget true 0) (.cint 0)) [some (false, .drw), some (false, .int many), none] (some (g, x)) = some (.bool true, some (g, x)) := ev_cmp eg rfl (by show some (decide (g > 0)) = _; rw [decide_eq_true hg])
  have em := ev_ii (op := .mod) eg e1 (if_pos hne)
  have ed := ev_ii (op := .div) eg e1 (if_pos hd)
  exact exL_stop ((ex_iteT ec).trans ((exL_next (ex_asgD (k := 2) (kd := 0) em ed rfl)).trans (exL_stop (ex_ret rfl) (fun h => by cases h)))) (fun h => by cases h)
theorem take_neg (m : Nat) {g x many : Int} (hg : ¬ g > 0) (hm : mulOk x 48271 = true) (hd : divOk 16 = true) (hne : many ≠ 0) :
    exL (I m) WF b_law_take [some (false, .drw), some (false, .int many), none] (some (g, x)) = some (.ret false (.int ((((x * 48271 + 11).fmod 2147483647).fdiv 16).fmod many)), [some (false, .drw), some (false, .int many), none], some (g, (x * 48271 + 11).fmod 2147483647)) := by
  have ec : evE (I m) (.cmp .gt (.dget true 0) (.cint 0)) [some (false, .drw), some (false, .int many), none] (some (g, x)) = some (.bool false, some (g, x)) := ev_cmp (x := .int g) (d1 := some (g, x)) rfl rfl (by show some (decide (g > 0)) = _; rw [decide_eq_false hg])
  refine (exL_next ((ex_iteF ec).trans rfl)).trans ?_
  have e1 : evE (I m) (.dget false 0) [some (false, .drw), some (false, .int many), none] (some (g, x)) = some (.int x, some (g, x)) := rfl
  have e2 := ev_ii (op := .mul) (b := .cint 48271) e1 rfl (if_pos hm)
  have e3 := ev_ii (op := .mod) (b := .cint 2147483647) (ev_ii (op := .add) (b := .cint 11) e2 rfl rfl) rfl (if_pos (c := (2147483647 : Int) ≠ 0) (e := none) (by decide))
  refine (exL_next (ex_dset (great := false) (k := 0) e3 rfl)).trans ?_
  have e4 : evE (I m) (.dget false 0) [some (false, .drw), some (false, .int many), none] (some (g, (x * 48271 + 11).fmod 2147483647)) = some (.int ((x * 48271 + 11).fmod 2147483647), some (g, (x * 48271 + 11).fmod 2147483647)) := rfl
  exact exL_stop (ex_ret (ev_ii (op := .mod) (b := .var 1) (ev_ii (op := .div) (b := .cint 16) e4 rfl (if_pos (e := none) hd)) rfl (if_pos (e := none) hne))) (fun h => by cases h)
theorem take_ok (n : Nat) (h : 1 ≤ n) {d : Dr} (hd : GoodD d) (many : Int) (h0 : 0 < many) (h1 : many ≤ 100) :
    ∃ v d', (I n).call 63 [.drw, .int many] d = some (.int v, d') ∧ 0 ≤ v ∧ v < many ∧ GoodD d' := by
  obtain ⟨m, rfl⟩ : ∃ m, n = m + 1 := ⟨n - 1, by omega⟩
  obtain ⟨g, x, rfl, hx0, hx1⟩ := hd
  have ht : tab[63]? = some (some (F_law_take.ps.length, F_law_take.vars.length, b_law_take)) := by kernel_rfl
  have hdk : divOk many = true := divOk_small (by omega) (by omega)
  have hne : many ≠ 0 := by omega
  by_cases hg : g > 0
  · exact ⟨g.fmod many, some (g.fdiv many, x), callT_eq ht rfl (take_pos m hg hdk hne) rfl, (fmod_lt h0).1, (fmod_lt h0).2, _, _, rfl, hx0, hx1⟩
  · have hr := fmod_lt (a := x * 48271 + 11) (b := 2147483647) (by omega)
    exact ⟨(((x * 48271 + 11).fmod 2147483647).fdiv 16).fmod many, some (g, (x * 48271 + 11).fmod 2147483647), callT_eq ht rfl (take_neg m hg (mulOk_small (by omega) (by omega)) (divOk_small (by omega) (by omega)) hne) rfl,
      (fmod_lt h0).1, (fmod_lt h0).2, _, _, rfl, hr.1, hr.2⟩

/-- what a drawn product of linear factors may be -/
noncomputable def opts : List (List Int) := [[1], [1, 1], [1, 2], [2, 1], [2, 2], [3, 1], [3, 2], [4, 1], [4, 2], [5, 1], [5, 2]]
theorem linear_0 (m : Nat) (d : Dr) : exL (I m) WF b_law_linear [some (false, .drw), some (false, .int 0), none, none] d = some (.ret false (eL eI [1]), [some (false, .drw), some (false, .int 0), some (false, eL eI [1]), none], d) := by
  refine (exL_next (fr1 := [some (false, .drw), some (false, .int 0), some (true, eL eI [1]), none]) (d1 := d) rfl).trans ((exL_next (fr1 := [some (false, .drw), some (false, .int 0), some (false, eL eI [1]), none]) (d1 := d) rfl).trans ?_)
  exact (exL_next (fr1 := [some (false, .drw), some (false, .int 0), some (false, eL eI [1]), none]) (d1 := d) rfl).trans rfl
theorem linear_1 (m : Nat) {d d1 d2 : Dr} {v1 v2 : Int} (e1 : (I m).call 63 [.drw, .int 5] d = some (.int v1, d1)) (e2 : (I m).call 63 [.drw, .int 2] d1 = some (.int v2, d2)) (e3 : (I m).call 65 [eL eI [1], eL eI [1 + v1, 1 + v2]] d2 = some (eL eI [1 + v1, 1 + v2], d2)) :
    exL (I m) WF b_law_linear [some (false, .drw), some (false, .int 1), none, none] d = some (.ret false (eL eI [1 + v1, 1 + v2]), [some (false, .drw), some (false, .int 1), some (false, eL eI [1 + v1, 1 + v2]), some (false, .int 0)], d2) := by
  refine (exL_next (fr1 := [some (false, .drw), some (false, .int 1), some (true, eL eI [1]), none]) (d1 := d) rfl).trans ((exL_next (fr1 := [some (false, .drw), some (false, .int 1), some (false, eL eI [1]), none]) (d1 := d) rfl).trans ?_)
  refine (exL_next (fr1 := [some (false, .drw), some (false, .int 1), some (false, eL eI [1 + v1, 1 + v2]), some (false, .int 0)]) (d1 := d2) ?_).trans rfl
  have ei : evI (I m) (.rng1 (.var 1)) [some (false, .drw), some (false, .int 1), some (false, eL eI [1]), none] d = some ([.int 0], d) := rfl
  have a1 : evE (I m) (.bin .add (.cint 1) (.call 63 (.cons (.var 0) (.cons (.cint 5) (.nil))))) [some (false, .drw), some (false, .int 1), some (false, eL eI [1]), some (false, .int 0)] d = some (.int (1 + v1), d1) := ev_ii (x := 1) (d1 := d) rfl (ev_call (d1 := d) (vs := [.drw, .int 5]) rfl e1) rfl
  have a2 : evE (I m) (.bin .add (.cint 1) (.call 63 (.cons (.var 0) (.cons (.cint 2) (.nil))))) [some (false, .drw), some (false, .int 1), some (false, eL eI [1]), some (false, .int 0)] d1 = some (.int (1 + v2), d2) := ev_ii (x := 1) (d1 := d1) rfl (ev_call (d1 := d1) (vs := [.drw, .int 2]) rfl e2) rfl
  have a4 := ev_call (Γ := I m) (f := 65) (evl2 (a := .var 2) (d1 := d) (x := eL eI [1]) rfl (ev_lst (evl2 a1 a2))) e3
  exact (ex_for ei).trans (for_one (fr1 := []) ((exL_next (l := .nil) (ex_asg (k := 2) a4)).trans rfl))
theorem linear_ok (n : Nat) (h : 3 ≤ n) {d : Dr} (hd : GoodD d) (many : Int) (h0 : 0 ≤ many) (h1 : many < 2) :
    ∃ l d', (I n).call 69 [.drw, .int many] d = some (eL eI l, d') ∧ l ∈ opts ∧ GoodD d' := by
  obtain ⟨m, rfl⟩ : ∃ m, n = m + 1 := ⟨n - 1, by omega⟩
  have ht : tab[69]? = some (some (F_law_linear.ps.length, F_law_linear.vars.length, b_law_linear)) := by kernel_rfl
  rcases (by omega : many = 0 ∨ many = 1) with rfl | rfl
  · exact ⟨[1], d, callT_eq ht rfl (linear_0 m d) rfl, by decide, hd⟩
  · obtain ⟨v1, d1, e1, p1, p2, g1⟩ := take_ok m (by omega) hd 5 (by omega) (by omega)
    obtain ⟨v2, d2, e2, p3, p4, g2⟩ := take_ok m (by omega) g1 2 (by omega) (by omega)
    have key : P_law_mul [1] [1 + v1, 1 + v2] = some [1 + v1, 1 + v2] ∧ [1 + v1, 1 + v2] ∈ opts := by
      rcases (by omega : v1 = 0 ∨ v1 = 1 ∨ v1 = 2 ∨ v1 = 3 ∨ v1 = 4) with rfl | rfl | rfl | rfl | rfl <;> rcases (by omega : v2 = 0 ∨ v2 = 1) with rfl | rfl <;> exact ⟨by decide +kernel, by decide⟩
    exact ⟨[1 + v1, 1 + v2], d2, callT_eq ht rfl (linear_1 m e1 e2 (t_law_mul m (by omega) _ _ d2 _ key.1)) rfl, key.2, g2⟩
end Mine
-- NH
set_option Elab.async false
namespace Mine
noncomputable section
noncomputable def okB (o : Option Bool) : Bool := @Option.rec Bool (fun _ => Bool) false (fun b => b) o
theorem okB_eq {o : Option Bool} (h : okB o = true) : o = some true := by
  cases o with
  | none => cases h
  | some b => exact congrArg some h
noncomputable def chk (a b : List Int) : Bool := bsel (okB (P_made a b 1)) (bsel (okB (P_made a b 2)) (bsel (okB (P_made a b (-1))) (okB (P_made a b 3)) false) false) false
theorem bselT {a b : Bool} (h : bsel a b false = true) : a = true ∧ b = true := by
  cases a with
  | true => exact ⟨rfl, h⟩
  | false => cases h
theorem chk_eq {a b : List Int} (h : chk a b = true) : ∀ c ∈ ([1, 2, -1, 3] : List Int), P_made a b c = some true := by
  obtain ⟨h1, h⟩ := bselT h
  obtain ⟨h2, h⟩ := bselT h
  obtain ⟨h3, h4⟩ := bselT h
  intro c hc
  rcases List.mem_cons.mp hc with rfl | hc
  · exact okB_eq h1
  rcases List.mem_cons.mp hc with rfl | hc
  · exact okB_eq h2
  rcases List.mem_cons.mp hc with rfl | hc
  · exact okB_eq h3
  rcases List.mem_cons.mp hc with rfl | hc
  · exact okB_eq h4
  · cases hc
theorem q_0_0 : chk [1] [1] = true := by decide +kernel
theorem q_0_1 : chk [1] [1, 1] = true := by decide +kernel
theorem q_0_2 : chk [1] [1, 2] = true := by decide +kernel
theorem q_0_3 : chk [1] [2, 1] = true := by decide +kernel
theorem q_0_4 : chk [1] [2, 2] = true := by decide +kernel
theorem q_0_5 : chk [1] [3, 1] = true := by decide +kernel
theorem q_0_6 : chk [1] [3, 2] = true := by decide +kernel
theorem q_0_7 : chk [1] [4, 1] = true := by decide +kernel
theorem q_0_8 : chk [1] [4, 2] = true := by decide +kernel
theorem q_0_9 : chk [1] [5, 1] = true := by decide +kernel
theorem q_0_10 : chk [1] [5, 2] = true := by decide +kernel
theorem q_1_0 : chk [1, 1] [1] = true := by decide +kernel
theorem q_1_1 : chk [1, 1] [1, 1] = true := by decide +kernel
theorem q_1_2 : chk [1, 1] [1, 2] = true := by decide +kernel
theorem q_1_3 : chk [1, 1] [2, 1] = true := by decide +kernel
theorem q_1_4 : chk [1, 1] [2, 2] = true := by decide +kernel
theorem q_1_5 : chk [1, 1] [3, 1] = true := by decide +kernel
theorem q_1_6 : chk [1, 1] [3, 2] = true := by decide +kernel
theorem q_1_7 : chk [1, 1] [4, 1] = true := by decide +kernel
theorem q_1_8 : chk [1, 1] [4, 2] = true := by decide +kernel
theorem q_1_9 : chk [1, 1] [5, 1] = true := by decide +kernel
theorem q_1_10 : chk [1, 1] [5, 2] = true := by decide +kernel
theorem q_2_0 : chk [1, 2] [1] = true := by decide +kernel
theorem q_2_1 : chk [1, 2] [1, 1] = true := by decide +kernel
theorem q_2_2 : chk [1, 2] [1, 2] = true := by decide +kernel
theorem q_2_3 : chk [1, 2] [2, 1] = true := by decide +kernel
theorem q_2_4 : chk [1, 2] [2, 2] = true := by decide +kernel
theorem q_2_5 : chk [1, 2] [3, 1] = true := by decide +kernel
theorem q_2_6 : chk [1, 2] [3, 2] = true := by decide +kernel
theorem q_2_7 : chk [1, 2] [4, 1] = true := by decide +kernel
theorem q_2_8 : chk [1, 2] [4, 2] = true := by decide +kernel
theorem q_2_9 : chk [1, 2] [5, 1] = true := by decide +kernel
theorem q_2_10 : chk [1, 2] [5, 2] = true := by decide +kernel
theorem q_3_0 : chk [2, 1] [1] = true := by decide +kernel
theorem q_3_1 : chk [2, 1] [1, 1] = true := by decide +kernel
theorem q_3_2 : chk [2, 1] [1, 2] = true := by decide +kernel
theorem q_3_3 : chk [2, 1] [2, 1] = true := by decide +kernel
theorem q_3_4 : chk [2, 1] [2, 2] = true := by decide +kernel
theorem q_3_5 : chk [2, 1] [3, 1] = true := by decide +kernel
theorem q_3_6 : chk [2, 1] [3, 2] = true := by decide +kernel
theorem q_3_7 : chk [2, 1] [4, 1] = true := by decide +kernel
theorem q_3_8 : chk [2, 1] [4, 2] = true := by decide +kernel
theorem q_3_9 : chk [2, 1] [5, 1] = true := by decide +kernel
theorem q_3_10 : chk [2, 1] [5, 2] = true := by decide +kernel
theorem q_4_0 : chk [2, 2] [1] = true := by decide +kernel
theorem q_4_1 : chk [2, 2] [1, 1] = true := by decide +kernel
theorem q_4_2 : chk [2, 2] [1, 2] = true := by decide +kernel
theorem q_4_3 : chk [2, 2] [2, 1] = true := by decide +kernel
theorem q_4_4 : chk [2, 2] [2, 2] = true := by decide +kernel
theorem q_4_5 : chk [2, 2] [3, 1] = true := by decide +kernel
theorem q_4_6 : chk [2, 2] [3, 2] = true := by decide +kernel
theorem q_4_7 : chk [2, 2] [4, 1] = true := by decide +kernel
theorem q_4_8 : chk [2, 2] [4, 2] = true := by decide +kernel
theorem q_4_9 : chk [2, 2] [5, 1] = true := by decide +kernel
theorem q_4_10 : chk [2, 2] [5, 2] = true := by decide +kernel
theorem q_5_0 : chk [3, 1] [1] = true := by decide +kernel
theorem q_5_1 : chk [3, 1] [1, 1] = true := by decide +kernel
theorem q_5_2 : chk [3, 1] [1, 2] = true := by decide +kernel
theorem q_5_3 : chk [3, 1] [2, 1] = true := by decide +kernel
theorem q_5_4 : chk [3, 1] [2, 2] = true := by decide +kernel
theorem q_5_5 : chk [3, 1] [3, 1] = true := by decide +kernel
theorem q_5_6 : chk [3, 1] [3, 2] = true := by decide +kernel
theorem q_5_7 : chk [3, 1] [4, 1] = true := by decide +kernel
theorem q_5_8 : chk [3, 1] [4, 2] = true := by decide +kernel
theorem q_5_9 : chk [3, 1] [5, 1] = true := by decide +kernel
theorem q_5_10 : chk [3, 1] [5, 2] = true := by decide +kernel
theorem q_6_0 : chk [3, 2] [1] = true := by decide +kernel
theorem q_6_1 : chk [3, 2] [1, 1] = true := by decide +kernel
theorem q_6_2 : chk [3, 2] [1, 2] = true := by decide +kernel
theorem q_6_3 : chk [3, 2] [2, 1] = true := by decide +kernel
theorem q_6_4 : chk [3, 2] [2, 2] = true := by decide +kernel
theorem q_6_5 : chk [3, 2] [3, 1] = true := by decide +kernel
theorem q_6_6 : chk [3, 2] [3, 2] = true := by decide +kernel
theorem q_6_7 : chk [3, 2] [4, 1] = true := by decide +kernel
theorem q_6_8 : chk [3, 2] [4, 2] = true := by decide +kernel
theorem q_6_9 : chk [3, 2] [5, 1] = true := by decide +kernel
theorem q_6_10 : chk [3, 2] [5, 2] = true := by decide +kernel
theorem q_7_0 : chk [4, 1] [1] = true := by decide +kernel
theorem q_7_1 : chk [4, 1] [1, 1] = true := by decide +kernel
theorem q_7_2 : chk [4, 1] [1, 2] = true := by decide +kernel
theorem q_7_3 : chk [4, 1] [2, 1] = true := by decide +kernel
theorem q_7_4 : chk [4, 1] [2, 2] = true := by decide +kernel
theorem q_7_5 : chk [4, 1] [3, 1] = true := by decide +kernel
theorem q_7_6 : chk [4, 1] [3, 2] = true := by decide +kernel
theorem q_7_7 : chk [4, 1] [4, 1] = true := by decide +kernel
theorem q_7_8 : chk [4, 1] [4, 2] = true := by decide +kernel
theorem q_7_9 : chk [4, 1] [5, 1] = true := by decide +kernel
theorem q_7_10 : chk [4, 1] [5, 2] = true := by decide +kernel
theorem q_8_0 : chk [4, 2] [1] = true := by decide +kernel
theorem q_8_1 : chk [4, 2] [1, 1] = true := by decide +kernel
theorem q_8_2 : chk [4, 2] [1, 2] = true := by decide +kernel
theorem q_8_3 : chk [4, 2] [2, 1] = true := by decide +kernel
theorem q_8_4 : chk [4, 2] [2, 2] = true := by decide +kernel
theorem q_8_5 : chk [4, 2] [3, 1] = true := by decide +kernel
theorem q_8_6 : chk [4, 2] [3, 2] = true := by decide +kernel
theorem q_8_7 : chk [4, 2] [4, 1] = true := by decide +kernel
theorem q_8_8 : chk [4, 2] [4, 2] = true := by decide +kernel
theorem q_8_9 : chk [4, 2] [5, 1] = true := by decide +kernel
theorem q_8_10 : chk [4, 2] [5, 2] = true := by decide +kernel
theorem q_9_0 : chk [5, 1] [1] = true := by decide +kernel
theorem q_9_1 : chk [5, 1] [1, 1] = true := by decide +kernel
theorem q_9_2 : chk [5, 1] [1, 2] = true := by decide +kernel
theorem q_9_3 : chk [5, 1] [2, 1] = true := by decide +kernel
theorem q_9_4 : chk [5, 1] [2, 2] = true := by decide +kernel
theorem q_9_5 : chk [5, 1] [3, 1] = true := by decide +kernel
theorem q_9_6 : chk [5, 1] [3, 2] = true := by decide +kernel
theorem q_9_7 : chk [5, 1] [4, 1] = true := by decide +kernel
theorem q_9_8 : chk [5, 1] [4, 2] = true := by decide +kernel
theorem q_9_9 : chk [5, 1] [5, 1] = true := by decide +kernel
theorem q_9_10 : chk [5, 1] [5, 2] = true := by decide +kernel
theorem q_10_0 : chk [5, 2] [1] = true := by decide +kernel
theorem q_10_1 : chk [5, 2] [1, 1] = true := by decide +kernel
theorem q_10_2 : chk [5, 2] [1, 2] = true := by decide +kernel
theorem q_10_3 : chk [5, 2] [2, 1] = true := by decide +kernel
theorem q_10_4 : chk [5, 2] [2, 2] = true := by decide +kernel
theorem q_10_5 : chk [5, 2] [3, 1] = true := by decide +kernel
theorem q_10_6 : chk [5, 2] [3, 2] = true := by decide +kernel
theorem q_10_7 : chk [5, 2] [4, 1] = true := by decide +kernel
theorem q_10_8 : chk [5, 2] [4, 2] = true := by decide +kernel
theorem q_10_9 : chk [5, 2] [5, 1] = true := by decide +kernel
theorem q_10_10 : chk [5, 2] [5, 2] = true := by decide +kernel
theorem row_0 : ∀ b ∈ opts, chk [1] b = true := by
  intro b hb
  rcases List.mem_cons.mp hb with rfl | hb
  · exact q_0_0
  rcases List.mem_cons.mp hb with rfl | hb
  · exact q_0_1
  rcases List.mem_cons.mp hb with rfl | hb
  · exact q_0_2
  rcases List.mem_cons.mp hb with rfl | hb
  · exact q_0_3
  rcases List.mem_cons.mp hb with rfl | hb
  · exact q_0_4
  rcases List.mem_cons.mp hb with rfl | hb
  · exact q_0_5
  rcases List.mem_cons.mp hb with rfl | hb
  · exact q_0_6
  rcases List.mem_cons.mp hb with rfl | hb
  · exact q_0_7
  rcases List.mem_cons.mp hb with rfl | hb
  · exact q_0_8
  rcases List.mem_cons.mp hb with rfl | hb
  · exact q_0_9
  rcases List.mem_cons.mp hb with rfl | hb
  · exact q_0_10
  cases hb
theorem row_1 : ∀ b ∈ opts, chk [1, 1] b = true := by
  intro b hb
  rcases List.mem_cons.mp hb with rfl | hb
  · exact q_1_0
  rcases List.mem_cons.mp hb with rfl | hb
  · exact q_1_1
  rcases List.mem_cons.mp hb with rfl | hb
  · exact q_1_2
  rcases List.mem_cons.mp hb with rfl | hb
  · exact q_1_3
  rcases List.mem_cons.mp hb with rfl | hb
  · exact q_1_4
  rcases List.mem_cons.mp hb with rfl | hb
  · exact q_1_5
  rcases List.mem_cons.mp hb with rfl | hb
  · exact q_1_6
  rcases List.mem_cons.mp hb with rfl | hb
  · exact q_1_7
  rcases List.mem_cons.mp hb with rfl | hb
  · exact q_1_8
  rcases List.mem_cons.mp hb with rfl | hb
  · exact q_1_9
  rcases List.mem_cons.mp hb with rfl | hb
  · exact q_1_10
  cases hb
theorem row_2 : ∀ b ∈ opts, chk [1, 2] b = true := by
  intro b hb
  rcases List.mem_cons.mp hb with rfl | hb
  · exact q_2_0
  rcases List.mem_cons.mp hb with rfl | hb
  · exact q_2_1
  rcases List.mem_cons.mp hb with rfl | hb
  · exact q_2_2
  rcases List.mem_cons.mp hb with rfl | hb
  · exact q_2_3
  rcases List.mem_cons.mp hb with rfl | hb
  · exact q_2_4
  rcases List.mem_cons.mp hb with rfl | hb
  · exact q_2_5
  rcases List.mem_cons.mp hb with rfl | hb
  · exact q_2_6
  rcases List.mem_cons.mp hb with rfl | hb
  · exact q_2_7
  rcases List.mem_cons.mp hb with rfl | hb
  · exact q_2_8
  rcases List.mem_cons.mp hb with rfl | hb
  · exact q_2_9
  rcases List.mem_cons.mp hb with rfl | hb
  · exact q_2_10
  cases hb
theorem row_3 : ∀ b ∈ opts, chk [2, 1] b = true := by
  intro b hb
  rcases List.mem_cons.mp hb with rfl | hb
  · exact q_3_0
  rcases List.mem_cons.mp hb with rfl | hb
  · exact q_3_1
  rcases List.mem_cons.mp hb with rfl | hb
  · exact q_3_2
  rcases List.mem_cons.mp hb with rfl | hb
  · exact q_3_3
  rcases List.mem_cons.mp hb with rfl | hb
  · exact q_3_4
  rcases List.mem_cons.mp hb with rfl | hb
  · exact q_3_5
  rcases List.mem_cons.mp hb with rfl | hb
  · exact q_3_6
  rcases List.mem_cons.mp hb with rfl | hb
  · exact q_3_7
  rcases List.mem_cons.mp hb with rfl | hb
  · exact q_3_8
  rcases List.mem_cons.mp hb with rfl | hb
  · exact q_3_9
  rcases List.mem_cons.mp hb with rfl | hb
  · exact q_3_10
  cases hb
theorem row_4 : ∀ b ∈ opts, chk [2, 2] b = true := by
  intro b hb
  rcases List.mem_cons.mp hb with rfl | hb
  · exact q_4_0
  rcases List.mem_cons.mp hb with rfl | hb
  · exact q_4_1
  rcases List.mem_cons.mp hb with rfl | hb
  · exact q_4_2
  rcases List.mem_cons.mp hb with rfl | hb
  · exact q_4_3
  rcases List.mem_cons.mp hb with rfl | hb
  · exact q_4_4
  rcases List.mem_cons.mp hb with rfl | hb
  · exact q_4_5
  rcases List.mem_cons.mp hb with rfl | hb
  · exact q_4_6
  rcases List.mem_cons.mp hb with rfl | hb
  · exact q_4_7
  rcases List.mem_cons.mp hb with rfl | hb
  · exact q_4_8
  rcases List.mem_cons.mp hb with rfl | hb
  · exact q_4_9
  rcases List.mem_cons.mp hb with rfl | hb
  · exact q_4_10
  cases hb
theorem row_5 : ∀ b ∈ opts, chk [3, 1] b = true := by
  intro b hb
  rcases List.mem_cons.mp hb with rfl | hb
  · exact q_5_0
  rcases List.mem_cons.mp hb with rfl | hb
  · exact q_5_1
  rcases List.mem_cons.mp hb with rfl | hb
  · exact q_5_2
  rcases List.mem_cons.mp hb with rfl | hb
  · exact q_5_3
  rcases List.mem_cons.mp hb with rfl | hb
  · exact q_5_4
  rcases List.mem_cons.mp hb with rfl | hb
  · exact q_5_5
  rcases List.mem_cons.mp hb with rfl | hb
  · exact q_5_6
  rcases List.mem_cons.mp hb with rfl | hb
  · exact q_5_7
  rcases List.mem_cons.mp hb with rfl | hb
  · exact q_5_8
  rcases List.mem_cons.mp hb with rfl | hb
  · exact q_5_9
  rcases List.mem_cons.mp hb with rfl | hb
  · exact q_5_10
  cases hb
theorem row_6 : ∀ b ∈ opts, chk [3, 2] b = true := by
  intro b hb
  rcases List.mem_cons.mp hb with rfl | hb
  · exact q_6_0
  rcases List.mem_cons.mp hb with rfl | hb
  · exact q_6_1
  rcases List.mem_cons.mp hb with rfl | hb
  · exact q_6_2
  rcases List.mem_cons.mp hb with rfl | hb
  · exact q_6_3
  rcases List.mem_cons.mp hb with rfl | hb
  · exact q_6_4
  rcases List.mem_cons.mp hb with rfl | hb
  · exact q_6_5
  rcases List.mem_cons.mp hb with rfl | hb
  · exact q_6_6
  rcases List.mem_cons.mp hb with rfl | hb
  · exact q_6_7
  rcases List.mem_cons.mp hb with rfl | hb
  · exact q_6_8
  rcases List.mem_cons.mp hb with rfl | hb
  · exact q_6_9
  rcases List.mem_cons.mp hb with rfl | hb
  · exact q_6_10
  cases hb
theorem row_7 : ∀ b ∈ opts, chk [4, 1] b = true := by
  intro b hb
  rcases List.mem_cons.mp hb with rfl | hb
  · exact q_7_0
  rcases List.mem_cons.mp hb with rfl | hb
  · exact q_7_1
  rcases List.mem_cons.mp hb with rfl | hb
  · exact q_7_2
  rcases List.mem_cons.mp hb with rfl | hb
  · exact q_7_3
  rcases List.mem_cons.mp hb with rfl | hb
  · exact q_7_4
  rcases List.mem_cons.mp hb with rfl | hb
  · exact q_7_5
  rcases List.mem_cons.mp hb with rfl | hb
  · exact q_7_6
  rcases List.mem_cons.mp hb with rfl | hb
  · exact q_7_7
  rcases List.mem_cons.mp hb with rfl | hb
  · exact q_7_8
  rcases List.mem_cons.mp hb with rfl | hb
  · exact q_7_9
  rcases List.mem_cons.mp hb with rfl | hb
  · exact q_7_10
  cases hb
theorem row_8 : ∀ b ∈ opts, chk [4, 2] b = true := by
  intro b hb
  rcases List.mem_cons.mp hb with rfl | hb
  · exact q_8_0
  rcases List.mem_cons.mp hb with rfl | hb
  · exact q_8_1
  rcases List.mem_cons.mp hb with rfl | hb
  · exact q_8_2
  rcases List.mem_cons.mp hb with rfl | hb
  · exact q_8_3
  rcases List.mem_cons.mp hb with rfl | hb
  · exact q_8_4
  rcases List.mem_cons.mp hb with rfl | hb
  · exact q_8_5
  rcases List.mem_cons.mp hb with rfl | hb
  · exact q_8_6
  rcases List.mem_cons.mp hb with rfl | hb
  · exact q_8_7
  rcases List.mem_cons.mp hb with rfl | hb
  · exact q_8_8
  rcases List.mem_cons.mp hb with rfl | hb
  · exact q_8_9
  rcases List.mem_cons.mp hb with rfl | hb
  · exact q_8_10
  cases hb
theorem row_9 : ∀ b ∈ opts, chk [5, 1] b = true := by
  intro b hb
  rcases List.mem_cons.mp hb with rfl | hb
  · exact q_9_0
  rcases List.mem_cons.mp hb with rfl | hb
  · exact q_9_1
  rcases List.mem_cons.mp hb with rfl | hb
  · exact q_9_2
  rcases List.mem_cons.mp hb with rfl | hb
  · exact q_9_3
  rcases List.mem_cons.mp hb with rfl | hb
  · exact q_9_4
  rcases List.mem_cons.mp hb with rfl | hb
  · exact q_9_5
  rcases List.mem_cons.mp hb with rfl | hb
  · exact q_9_6
  rcases List.mem_cons.mp hb with rfl | hb
  · exact q_9_7
  rcases List.mem_cons.mp hb with rfl | hb
  · exact q_9_8
  rcases List.mem_cons.mp hb with rfl | hb
  · exact q_9_9
  rcases List.mem_cons.mp hb with rfl | hb
  · exact q_9_10
  cases hb
theorem row_10 : ∀ b ∈ opts, chk [5, 2] b = true := by
  intro b hb
  rcases List.mem_cons.mp hb with rfl | hb
  · exact q_10_0
  rcases List.mem_cons.mp hb with rfl | hb
  · exact q_10_1
  rcases List.mem_cons.mp hb with rfl | hb
  · exact q_10_2
  rcases List.mem_cons.mp hb with rfl | hb
  · exact q_10_3
  rcases List.mem_cons.mp hb with rfl | hb
  · exact q_10_4
  rcases List.mem_cons.mp hb with rfl | hb
  · exact q_10_5
  rcases List.mem_cons.mp hb with rfl | hb
  · exact q_10_6
  rcases List.mem_cons.mp hb with rfl | hb
  · exact q_10_7
  rcases List.mem_cons.mp hb with rfl | hb
  · exact q_10_8
  rcases List.mem_cons.mp hb with rfl | hb
  · exact q_10_9
  rcases List.mem_cons.mp hb with rfl | hb
  · exact q_10_10
  cases hb
theorem all_rows : ∀ a ∈ opts, ∀ b ∈ opts, chk a b = true := by
  intro a ha
  rcases List.mem_cons.mp ha with rfl | ha
  · exact row_0
  rcases List.mem_cons.mp ha with rfl | ha
  · exact row_1
  rcases List.mem_cons.mp ha with rfl | ha
  · exact row_2
  rcases List.mem_cons.mp ha with rfl | ha
  · exact row_3
  rcases List.mem_cons.mp ha with rfl | ha
  · exact row_4
  rcases List.mem_cons.mp ha with rfl | ha
  · exact row_5
  rcases List.mem_cons.mp ha with rfl | ha
  · exact row_6
  rcases List.mem_cons.mp ha with rfl | ha
  · exact row_7
  rcases List.mem_cons.mp ha with rfl | ha
  · exact row_8
  rcases List.mem_cons.mp ha with rfl | ha
  · exact row_9
  rcases List.mem_cons.mp ha with rfl | ha
  · exact row_10
  cases ha
theorem all_made {a b : List Int} {c : Int} (ha : a ∈ opts) (hb : b ∈ opts) (hc : c ∈ ([1, 2, -1, 3] : List Int)) : P_made a b c = some true := chk_eq (all_rows a ha b hb) c hc
end
end Mine
-- NI
namespace Mine
noncomputable section
theorem made_ok (n : Nat) (h : 11 ≤ n) {d : Dr} (hd : GoodD d) : ∃ d', (I n).call 73 [.drw] d = some (.bool true, d') ∧ GoodD d' := by
  obtain ⟨m, rfl⟩ : ∃ m, n = m + 1 := ⟨n - 1, by omega⟩
  obtain ⟨v1, d1, e1, p1, p1', g1⟩ := take_ok m (by omega) hd 2 (by omega) (by omega)
  obtain ⟨l1, d2, e2, p2, g2⟩ := linear_ok m (by omega) g1 v1 p1 p1'
  obtain ⟨v2, d3, e3, p3, p3', g3⟩ := take_ok m (by omega) g2 2 (by omega) (by omega)
  obtain ⟨l2, d4, e4, p4, g4⟩ := linear_ok m (by omega) g3 v2 p3 p3'
  obtain ⟨v3, d5, e5, p5, p5', g5⟩ := take_ok m (by omega) g4 4 (by omega) (by omega)
  obtain ⟨c, hc, hi⟩ : ∃ c : Int, c ∈ ([1, 2, -1, 3] : List Int) ∧ idxV [.int 1, .int 2, .int (-1), .int 3] v3 = some (.int c) := by
    rcases (by omega : v3 = 0 ∨ v3 = 1 ∨ v3 = 2 ∨ v3 = 3) with rfl | rfl | rfl | rfl
    · exact ⟨1, by decide, rfl⟩
    · exact ⟨2, by decide, rfl⟩
    · exact ⟨-1, by decide, rfl⟩
    · exact ⟨3, by decide, rfl⟩
  have ht : tab[73]? = some (some (F_law_made_right.ps.length, F_law_made_right.vars.length, b_law_made_right)) := by kernel_rfl
  refine ⟨d5, ?_, g5⟩
  obtain ⟨f, fr', e, fl, rfl⟩ := t_made m (by omega) l1 l2 c none none none none none none none d5 true (all_made p2 p4 hc)
  refine callT_eq (fl := .ret fl (eB true)) (fr' := fr') ht rfl ?_ rfl
  show exL (I m) WF (.cons (.asg2 [1, 2] (.cons (.call 69 (.cons (.var 0) (.cons (.call 63 (.cons (.var 0) (.cons (.cint 2) (.nil)))) (.nil)))) (.cons (.call 69 (.cons (.var 0) (.cons (.call 63 (.cons (.var 0) (.cons (.cint 2) (.nil)))) (.nil)))) (.nil)))) (.cons (.asg 3 (.idx (.lst (.cons (.cint 1) (.cons (.cint 2) (.cons (.neg (.cint 1)) (.cons (.cint 3) (.nil)))))) (.call 63 (.cons (.var 0) (.cons (.cint 4) (.nil)))))) (SL.drop 2 b_law_made_right)))
    [some (false, .drw), none, none, none, none, none, none, none, none, none, none] d = _
  have a1 := ev_call (Γ := I m) (fr := [some (false, .drw), none, none, none, none, none, none, none, none, none, none]) (f := 69) (evl2 (a := .var 0) (x := .drw) (d := d) rfl (ev_call (f := 63) (evl2 (a := .var 0) (b := .cint 2) rfl rfl) e1)) e2
  have a2 := ev_call (Γ := I m) (fr := [some (false, .drw), none, none, none, none, none, none, none, none, none, none]) (f := 69) (evl2 (a := .var 0) (x := .drw) (d := d2) rfl (ev_call (f := 63) (evl2 (a := .var 0) (b := .cint 2) rfl rfl) e3)) e4
  have b1 : evL (I m) (.cons (.cint 1) (.cons (.cint 2) (.cons (.neg (.cint 1)) (.cons (.cint 3) (.nil))))) [some (false, .drw), some (false, eL eI l1), some (false, eL eI l2), none, none, none, none, none, none, none, none] d4 = some ([.int 1, .int 2, .int (-1), .int 3], d4) := rfl
  have a3 := ev_idx (Γ := I m) (fr := [some (false, .drw), some (false, eL eI l1), some (false, eL eI l2), none, none, none, none, none, none, none, none]) (ev_lst b1) (ev_call (f := 63) (evl2 (a := .var 0) (b := .cint 4) rfl rfl) e5) hi
  exact (exL_next (ex_asg2 (ks := [1, 2]) (evl2 a1 a2) rfl)).trans ((exL_next (ex_asg (k := 3) a3)).trans e)

noncomputable def okS (o : Option (Sum Unit Bool)) : Bool := @Option.rec (Sum Unit Bool) (fun _ => Bool) false (fun r => @Sum.rec Unit Bool (fun _ => Bool) (fun _ => true) (fun _ => false) r) o
theorem okS_eq {o : Option (Sum Unit Bool)} (h : okS o = true) : o = some (.inl ()) := by
  cases o with
  | none => cases h
  | some r => cases r with
    | inl u => rfl
    | inr b => cases h
noncomputable def chkK (v : Int) : Bool := okS (ob (P_law_known v) fun p => P_round p.1 p.2.1 p.2.2)
theorem k_0 : chkK 0 = true := by decide +kernel
theorem k_1 : chkK 1 = true := by decide +kernel
theorem k_2 : chkK 2 = true := by decide +kernel
theorem k_3 : chkK 3 = true := by decide +kernel
theorem k_4 : chkK 4 = true := by decide +kernel
theorem k_5 : chkK 5 = true := by decide +kernel
theorem k_6 : chkK 6 = true := by decide +kernel
theorem k_7 : chkK 7 = true := by decide +kernel
theorem k_8 : chkK 8 = true := by decide +kernel
theorem k_9 : chkK 9 = true := by decide +kernel
theorem k_10 : chkK 10 = true := by decide +kernel
theorem known_ok {v : Int} (h0 : 0 ≤ v) (h1 : v < 11) : ∃ p, P_law_known v = some p ∧ P_round p.1 p.2.1 p.2.2 = some (.inl ()) := by
  have : chkK v = true := by
    rcases (by omega : v = 0 ∨ v = 1 ∨ v = 2 ∨ v = 3 ∨ v = 4 ∨ v = 5 ∨ v = 6 ∨ v = 7 ∨ v = 8 ∨ v = 9 ∨ v = 10) with rfl | rfl | rfl | rfl | rfl | rfl | rfl | rfl | rfl | rfl | rfl
    · exact k_0
    · exact k_1
    · exact k_2
    · exact k_3
    · exact k_4
    · exact k_5
    · exact k_6
    · exact k_7
    · exact k_8
    · exact k_9
    · exact k_10
  exact ob_some (okS_eq this)
noncomputable def P_end (v : Int) : Option Bool := ob (ob (P_law_quotients [0, 0, 1]) fun x => ob (P_law_quotients [12, 7, 1]) fun y => P_parted x y) fun abc => ob (P_law_quotients [1]) fun q => ob (P_law_quotients [0, v + 1]) fun r => ob (P_key_solution q q r) fun x => P_fin abc.1 abc.2.1 abc.2.2 x
theorem z_0 : okB (P_end 0) = true := by decide +kernel
theorem z_1 : okB (P_end 1) = true := by decide +kernel
theorem z_2 : okB (P_end 2) = true := by decide +kernel
theorem z_3 : okB (P_end 3) = true := by decide +kernel
theorem z_4 : okB (P_end 4) = true := by decide +kernel
theorem z_5 : okB (P_end 5) = true := by decide +kernel
theorem z_6 : okB (P_end 6) = true := by decide +kernel
theorem z_7 : okB (P_end 7) = true := by decide +kernel
theorem z_8 : okB (P_end 8) = true := by decide +kernel
theorem end_ok {v : Int} (h0 : 0 ≤ v) (h1 : v < 9) : P_end v = some true := by
  apply okB_eq
  rcases (by omega : v = 0 ∨ v = 1 ∨ v = 2 ∨ v = 3 ∨ v = 4 ∨ v = 5 ∨ v = 6 ∨ v = 7 ∨ v = 8) with rfl | rfl | rfl | rfl | rfl | rfl | rfl | rfl | rfl
  · exact z_0
  · exact z_1
  · exact z_2
  · exact z_3
  · exact z_4
  · exact z_5
  · exact z_6
  · exact z_7
  · exact z_8

theorem round_body {n : Nat} (h : 11 ≤ n + 1) : ∀ (s : Unit) (x : List Int × List Int × Bool) (fr : Frm) (d : Dr) (s' : Sum Unit Bool), ΦL s fr → P_round x.1 x.2.1 x.2.2 = some s' →
    ∃ f fr', (fun (x : V) (fr : Frm) (d : Dr) => (bindF true fr [2, 3, 4] x).bind fun fr' => exL (I n) WF loopBody fr' d) (eT3 (eL eI) (eL eI) eB x) fr d = some (f, fr', d) ∧ QLR ΦL eB s' f fr' := by
  rintro s x fr d s' ⟨g0, g2, g3, g4, g5, g6, g7, g8, g9, g10, g11, g12, rfl⟩ e
  obtain ⟨f, fr', e1, e2⟩ := t_round n h x.1 x.2.1 x.2.2 g0 g5 g6 g7 g8 g9 g10 g11 g12 d s' e
  exact ⟨f, fr', e1, e2⟩

theorem law_run (n : Nat) (h : 12 ≤ n) (sv : V) {d : Dr} (hd : GoodD d) : ∃ fl fr' d', exL (I n) WF b_law [some (false, sv), some (false, .drw), none, none, none, none, none, none, none, none, none, none, none] d = some (.ret fl (.bool true), fr', d') := by
  obtain ⟨d1, e1, g1⟩ := made_ok n (by omega) hd
  obtain ⟨v2, d2, e2, p2, p2', g2⟩ := take_ok n (by omega) g1 11 (by omega) (by omega)
  obtain ⟨w1, k1, r1⟩ := known_ok p2 p2'
  obtain ⟨w2, k2, r2⟩ := known_ok (v := 4) (by omega) (by omega)
  obtain ⟨v3, d3, e3, p3, p3', g3⟩ := take_ok n (by omega) g2 9 (by omega) (by omega)
  obtain ⟨abc, a1, q⟩ := ob_some (end_ok p3 p3')
  obtain ⟨x1, a2, a3⟩ := ob_some a1
  obtain ⟨x2, a4, a5⟩ := ob_some a3
  obtain ⟨y1, a6, q⟩ := ob_some q
  obtain ⟨y2, a7, q⟩ := ob_some q
  obtain ⟨xo, a8, q⟩ := ob_some q
  have c1 : (I n).call 74 [.int v2] d2 = some (eT3 (eL eI) (eL eI) eB w1, d2) := t_law_known n (by omega) v2 d2 w1 k1
  have c2 : (I n).call 74 [.int 4] d2 = some (eT3 (eL eI) (eL eI) eB w2, d2) := t_law_known n (by omega) 4 d2 w2 k2
  have loop : foldR (σ := Unit) (ρ := Bool) (fun _ x => P_round x.1 x.2.1 x.2.2) [w1, w2] () = some (.inl ()) := by
    show ob (P_round w1.1 w1.2.1 w1.2.2) (fun r => @Sum.rec Unit Bool (fun _ => Option (Sum Unit Bool)) (foldR (fun _ x => P_round x.1 x.2.1 x.2.2) [w2]) (fun v => some (.inr v)) r) = _
    rw [r1]
    show ob (P_round w2.1 w2.2.1 w2.2.2) (fun r => @Sum.rec Unit Bool (fun _ => Option (Sum Unit Bool)) (fun s => some (.inl s)) (fun v => some (.inr v)) r) = _
    rw [r2]; rfl
  obtain ⟨f, fr1, e4, rfl, g0, h2, h3, h4, h5, h6, h7, h8, h9, h10, h11, h12, rfl⟩ := for_allR (Φ := ΦL) (eρ := eB) (body := fun (x : V) (fr : Frm) (d : Dr) => (bindF true fr [2, 3, 4] x).bind fun fr' => exL (I n) WF loopBody fr' d) (step := fun _ x => P_round x.1 x.2.1 x.2.2) (eα := eT3 (eL eI) (eL eI) eB) (round_body (n := n) (by omega)) [w1, w2] () (.inl ()) [some (false, sv), some (false, .drw), none, none, none, none, none, none, none, none, none, none, none] d2 ⟨_, _, _, _, _, _, _, _, _, _, _, _, rfl⟩ loop
  obtain ⟨f, fr', e5, fl, rfl⟩ := t_fin n (by omega) abc.1 abc.2.1 abc.2.2 xo g0 h2 h3 h4 h5 h6 h11 h12 d3 true q
  refine ⟨fl, fr', d3, ?_⟩
  have b1 : (I n).call 66 [V.lst [V.int 0, V.int 0, V.int 1]] d2 = some (eL (eT eI eI) x1, d2) := t_law_quotients n (by omega) _ d2 x1 a2
  have b2 : (I n).call 66 [V.lst [V.int 12, V.int 7, V.int 1]] d2 = some (eL (eT eI eI) x2, d2) := t_law_quotients n (by omega) _ d2 x2 a4
  have b3 := t_parted n (by omega) x1 x2 d2 abc a5
  have b4 : (I n).call 66 [V.lst [V.int 1]] d2 = some (eL (eT eI eI) y1, d2) := t_law_quotients n (by omega) _ d2 y1 a6
  have b5 : (I n).call 66 [V.lst [V.int 0, V.int (v3 + 1)]] d3 = some (eL (eT eI eI) y2, d3) := t_law_quotients n (by omega) _ d3 y2 a7
  have b6 := t_key_solution n (by omega) y1 y1 y2 d3 xo a8
  show exL (I n) WF (.cons (.ite (.not (.call 73 (.cons (.var 1) (.nil)))) (.cons (.ret (.cbool false)) (.nil)) (.nil)) (.cons (.for [2, 3, 4] true (.seq (.tup (.cons (.call 74 (.cons (.call 63 (.cons (.var 1) (.cons (.cint 11) (.nil)))) (.nil))) (.cons (.call 74 (.cons (.cint 4) (.nil))) (.nil))))) loopBody)
    (.cons (.asgT [7, 8, 9] (.call 56 (.cons (.call 66 (.cons (.lst (.cons (.cint 0) (.cons (.cint 0) (.cons (.cint 1) (.nil))))) (.nil))) (.cons (.call 66 (.cons (.lst (.cons (.cint 12) (.cons (.cint 7) (.cons (.cint 1) (.nil))))) (.nil))) (.nil)))))
    (.cons (.asg 10 (.call 60 (.cons (.call 66 (.cons (.lst (.cons (.cint 1) (.nil))) (.nil))) (.cons (.call 66 (.cons (.lst (.cons (.cint 1) (.nil))) (.nil))) (.cons (.call 66 (.cons (.lst (.cons (.cint 0) (.cons (.bin .add (.call 63 (.cons (.var 1) (.cons (.cint 9) (.nil)))) (.cint 1)) (.nil)))) (.nil))) (.nil))))))
    (SL.drop 4 b_law))))) _ _ = _
  have m1 : evE (I n) (.not (.call 73 (.cons (.var 1) (.nil)))) [some (false, sv), some (false, .drw), none, none, none, none, none, none, none, none, none, none, none] d = some (.bool false, d1) := ev_not (ev_call (evl1 (a := .var 1) rfl) e1)
  refine (exL_next ((ex_iteF m1).trans rfl)).trans ?_
  have m2 := ev_call (Γ := I n) (fr := [some (false, sv), some (false, .drw), none, none, none, none, none, none, none, none, none, none, none]) (f := 74) (evl1 (ev_call (f := 63) (evl2 (a := .var 1) (b := .cint 11) rfl rfl) e2)) c1
  have m3 := ev_call (Γ := I n) (fr := [some (false, sv), some (false, .drw), none, none, none, none, none, none, none, none, none, none, none]) (f := 74) (evl1 (a := .cint 4) (d := d2) rfl) c2
  refine (exL_next ((ex_for (ev_seqT (evl2 m2 m3) (Nat.le_of_ble_eq_true rfl))).trans e4)).trans ?_
  have n1 : evL (I n) (.cons (.cint 0) (.cons (.cint 0) (.cons (.cint 1) (.nil)))) [g0, some (false, .drw), h2, h3, h4, h5, h6, h7, h8, h9, h10, h11, h12] d2 = some ([.int 0, .int 0, .int 1], d2) := rfl
  have n2 : evL (I n) (.cons (.cint 12) (.cons (.cint 7) (.cons (.cint 1) (.nil)))) [g0, some (false, .drw), h2, h3, h4, h5, h6, h7, h8, h9, h10, h11, h12] d2 = some ([.int 12, .int 7, .int 1], d2) := rfl
  refine (exL_next (ex_asgT (ks := [7, 8, 9]) (ev_call (f := 56) (evl2 (ev_call (f := 66) (evl1 (ev_lst n1)) b1) (ev_call (f := 66) (evl1 (ev_lst n2)) b2)) b3) rfl rfl)).trans ?_
  have n3 : evL (I n) (.cons (.cint 1) (.nil)) [g0, some (false, .drw), h2, h3, h4, h5, h6, some (false, eL (eT eI eI) abc.1), some (false, eL (eT eI eI) abc.2.1), some (false, eL (eT eI eI) abc.2.2), h10, h11, h12] d2 = some ([.int 1], d2) := rfl
  have n4 := ev_ii (Γ := I n) (fr := [g0, some (false, .drw), h2, h3, h4, h5, h6, some (false, eL (eT eI eI) abc.1), some (false, eL (eT eI eI) abc.2.1), some (false, eL (eT eI eI) abc.2.2), h10, h11, h12]) (op := .add) (b := .cint 1) (ev_call (f := 63) (evl2 (a := .var 1) (b := .cint 9) rfl rfl) e3) rfl rfl
  have n5 := ev_call (f := 60) (evl3 (ev_call (f := 66) (evl1 (ev_lst n3)) b4) (ev_call (f := 66) (evl1 (ev_lst n3)) b4) (ev_call (f := 66) (evl1 (ev_lst (evl2 (a := .cint 0) (x := .int 0) rfl n4))) b5)) b6
  exact (exL_next (ex_asg (k := 10) n5)).trans e5
end
end Mine
-- NJ
namespace Mine
open PySem PySem.W PyProof.Rows

noncomputable def draws1 : S := (.asg 1 (.cint 7))
noncomputable def draws2 : S := (.for [2] false (.seq (.upto (.var 0) (.cint 24))) (.cons (.asg 1 (.bin .mod (.bin .add (.bin .add (.bin .mul (.var 1) (.cint 131)) (.abs (.var 2))) (.cint 17)) (.cint 2147483647))) (.cons (.share 1) (.nil))))
theorem s_law_draws3 {C : Cx} {Γ : Env0} {n : Nat} (c : COK C) (g : GOK C n Γ) : ∃ st1 st2 k1 k2 e1 e2 p1 p2 p3 pos, F_law_draws.body = [st1, st2, .Return (some (.Dict [some (.Constant (.str (PySem.Str.ofString "great")) k1 p1), some (.Constant (.str (PySem.Str.ofString "mixed")) k2 p2)] [e1, e2] p3)) pos] ∧
    SS C Γ n WF F_law_draws.scope.names F_law_draws.xs st1 draws1 ∧ SS C Γ n WF F_law_draws.scope.names F_law_draws.xs st2 draws2 ∧ SE C Γ n F_law_draws.scope.names F_law_draws.xs e1 e_great ∧ SE C Γ n F_law_draws.scope.names F_law_draws.xs e2 e_mixed :=
  ⟨_, _, _, _, _, _, _, _, _, _, rfl, (ss_asg c (se_int) (by kernel_rfl) (by decide +kernel) (fun _ _ _ => rfl)), (ss_for c (names := [(PySem.Str.ofString "cell")]) (si_seq c (se_upto c (se_var (by kernel_rfl) (by kernel_rfl)) (se_int)) (fun _ _ => rfl)) (ssl_cons (ss_asg c (se_bin c rfl (se_bin c rfl (se_bin c rfl (se_bin c rfl (se_var (by kernel_rfl) (by kernel_rfl)) (se_int)) (se_abs c (by kernel_rfl) (se_var (by kernel_rfl) (by kernel_rfl)) (fun _ => rfl))) (se_int)) (se_int)) (by kernel_rfl) (by decide +kernel) (fun _ _ _ => rfl)) (ssl_share (ssl_nil))) ⟨(by kernel_rfl), (by decide +kernel), trivial⟩ ⟨_, _, rfl, rfl⟩ (fun _ _ => rfl)), se_suml c (by kernel_rfl) (se_comp c (ts := [(PySem.Str.ofString "cell")]) (si_seq c (se_upto c (se_var (by kernel_rfl) (by kernel_rfl)) (se_int)) (fun _ _ => rfl)) (by decide +kernel) rfl rfl ⟨(by kernel_rfl), (by decide +kernel), trivial⟩ ⟨_, _, rfl, rfl⟩ (.inr ⟨_, rfl, st_cmp c rfl (SE.sb (se_abs c (by kernel_rfl) (se_var (by kernel_rfl) (by kernel_rfl)) (fun _ => rfl))) (SE.sb (se_bin c rfl (se_int) (se_int))) (by kernel_rfl)⟩) (se_abs c (by kernel_rfl) (se_var (by kernel_rfl) (by kernel_rfl)) (fun _ => rfl)) (fun _ _ => rfl)) (fun _ => rfl), se_var (by kernel_rfl) (by kernel_rfl)⟩

noncomputable def drawsBody : SL := match draws2 with
  | .for _ _ _ b => b
  | _ => .nil
theorem draws_turn {Γ : Env0} {sv g : Cell} {d : Dr} (m x : Int) (h0 : 0 ≤ m) (h1 : m < 2147483647) :
    exL Γ WF drawsBody [sv, some (false, .int m), some (false, .int x)] d = some (.next, [sv, some (false, .int ((m * 131 + (if x < 0 then -x else x) + 17).fmod 2147483647)), some (false, .int x)], d) := by
  have hm : mulOk m 131 = true := mulOk_small (by omega) (by omega)
  have e1 := ev_ii (Γ := Γ) (fr := [sv, some (false, .int m), some (false, .int x)]) (d := d) (op := .mul) (a := .var 1) (b := .cint 131) rfl rfl (if_pos (e := none) hm)
  have e2 : evE Γ (.abs (.var 2)) [sv, some (false, .int m), some (false, .int x)] d = some (.int (if x < 0 then -x else x), d) := rfl
  have e3 := ev_ii (op := .mod) (b := .cint 2147483647) (ev_ii (op := .add) (b := .cint 17) (ev_ii (op := .add) e1 e2 rfl) rfl rfl) rfl (if_pos (c := (2147483647 : Int) ≠ 0) (e := none) (by decide))
  exact (exL_next (ex_asg (k := 1) e3)).trans rfl
theorem draws_loop {Γ : Env0} {sv : Cell} {d : Dr} : ∀ (xs : List Int) (m : Int) (g : Cell), 0 ≤ m → m < 2147483647 →
    ∃ m' g', forN (fun x fr d => (bindF false fr [2] x).bind fun fr' => exL Γ WF drawsBody fr' d) (xs.map V.int) [sv, some (false, .int m), g] d = some (.next, [sv, some (false, .int m'), g'], d) ∧ 0 ≤ m' ∧ m' < 2147483647
  | [], m, g, h0, h1 => ⟨m, g, rfl, h0, h1⟩
  | x :: xs, m, g, h0, h1 => by
    have hr := fmod_lt (a := m * 131 + (if x < 0 then -x else x) + 17) (b := 2147483647) (by omega)
    obtain ⟨m', g', e, p⟩ := draws_loop (Γ := Γ) (sv := sv) (d := d) xs _ (some (false, .int x)) hr.1 hr.2
    refine ⟨m', g', ?_, p⟩
    rw [List.map_cons]
    have e0 : (bindF false [sv, some (false, .int m), g] [2] (V.int x)).bind (fun fr' => exL Γ WF drawsBody fr' d) = some (.next, [sv, some (false, .int ((m * 131 + (if x < 0 then -x else x) + 17).fmod 2147483647)), some (false, .int x)], d) := by
      exact draws_turn (g := g) m x h0 h1
    exact (bindE e0).trans e
theorem upto_ints (ns : List Int) : uptoV (ns.map V.int) 24 = (ns.take 24).map V.int := by
  unfold uptoV
  rw [if_pos (by decide), List.map_take]; rfl
theorem draws_run {Γ : Env0} (ns : List Int) {d : Dr} : ∃ m g, exS Γ WF draws2 [some (false, .lst (ns.map V.int)), some (false, .int 7), none] d = some (.next, [some (false, .lst (ns.map V.int)), some (false, .int m), g], d) ∧ 0 ≤ m ∧ m < 2147483647 := by
  obtain ⟨m, g, e, p⟩ := draws_loop (Γ := Γ) (sv := some (false, .lst (ns.map V.int))) (d := d) (ns.take 24) 7 none (by omega) (by omega)
  refine ⟨m, g, ?_, p⟩
  show exS Γ WF (.for [2] false (.seq (.upto (.var 0) (.cint 24))) drawsBody) _ _ = _
  have e0 : evI Γ (.seq (.upto (.var 0) (.cint 24))) [some (false, .lst (ns.map V.int)), some (false, .int 7), none] d = some (uptoV (ns.map V.int) 24, d) := rfl
  rw [upto_ints] at e0
  exact (ex_for e0).trans e
theorem filt_total {α β : Type} {cf : α → Option Bool} {f : α → Option β} (hc : ∀ x, ∃ b, cf x = some b) (hf : ∀ x, ∃ y, f x = some y) : ∀ xs, ∃ ys, filtO cf f xs = some ys
  | [] => ⟨[], rfl⟩
  | x :: xs => by
    obtain ⟨ys, e⟩ := filt_total hc hf xs
    obtain ⟨b, e1⟩ := hc x
    obtain ⟨y, e2⟩ := hf x
    show ∃ ys, ob (cf x) (fun t => bsel t (ob (f x) fun y => ob (filtO cf f xs) fun ys => some (y :: ys)) (filtO cf f xs)) = some ys
    rw [e1, e2, e]
    cases b with
    | true => exact ⟨y :: ys, rfl⟩
    | false => exact ⟨ys, rfl⟩
theorem great_run {Γ : Env0} (ns : List Int) (c1 c2 : Cell) {d : Dr} : ∃ g : Int, evE Γ e_great [some (false, eL eI ns), c1, c2] d = some (.int g, d) := by
  have hp : powO (Int.ofNat 10) (Int.ofNat 9) = some 1000000000 := by decide +kernel
  have h := te_compF (Γ := Γ) (fr := [some (false, eL eI ns), c1, c2]) (it := .seq (.upto (.var 0) (.cint 24))) (ti_seq (te_upto_tt (te_var (k := 0) (eα := eL eI) (v := ns) rfl) (te_int (i := Int.ofNat 24))))
    (fun v => te_gt_tp (te_abs_t (te_var (k := 3) (eα := eI) (v := v) rfl)) (te_pow_tt (te_int (i := Int.ofNat 10)) (te_int (i := Int.ofNat 9)))) (fun v => te_abs_t (te_var (k := 3) (eα := eI) (v := v) rfl))
  obtain ⟨ys, e⟩ := filt_total (cf := fun v => ob (powO (Int.ofNat 10) (Int.ofNat 9)) fun y => some (ilt y (iabs v))) (f := fun v => some (iabs v)) (fun x => ⟨_, by rw [hp]; rfl⟩) (fun x => ⟨_, rfl⟩) (uptoT ns (Int.ofNat 24))
  have h2 := h d ys e
  refine ⟨ys.sum, ?_⟩
  show evE Γ (.suml (.comp (.seq (.upto (.var 0) (.cint 24))) 0 (.cmp .gt (.abs (.var 3)) (.bin .pow (.cint 10) (.cint 9))) (.abs (.var 3)))) _ _ = _
  exact (bindE h2).trans (bindE (intsOf_map ys))
end Mine
-- NK
namespace Mine
open PySem PySem.W PyProof.Rows

noncomputable abbrev noW : Addr → Prop := fun _ => False
noncomputable abbrev noOw : Nat → Option Addr := fun _ => none
theorem wf_no {b : Addr} (h : Wf noW noOw b) : False := by rcases h with q | ⟨k, q⟩ <;> cases q
theorem FI_start {C : Cx} {lay : List Loc} {args : List V} {nv : Nat} {s : Shared} {d : Dr} (hl : nv = lay.length) (hle : args.length ≤ nv) (top : ∀ b o, C.top.get? b = some o → s.heap.get? b = some o) (dr : DRel C s.heap d)
    (lok : ∀ loc ∈ lay, loc.ok s.heap ∧ C.top.get? loc.addr = none ∧ loc.addr ≠ C.d0) (ap : ∀ (i j : Nat) (loc : Loc), lay[i]? = some loc → lay[j]? = some loc → i = j)
    (lv : ∀ (k : Nat) (x : V), args[k]? = some x → ∃ (loc : Loc) (v : Value), lay[k]? = some loc ∧ loc.has s.heap v ∧ Rep C.d0 s.heap noW v x) : FI C lay (frm0 nv none args) noW noOw d s.heap := by
  have cell : ∀ (k : Nat) (x : Bool × V), (frm0 nv none args)[k]? = some (some x) → ∃ v, args[k]? = some v ∧ x = (false, v) := fun k x e => by
    simp only [frm0, List.nil_append] at e
    rw [List.getElem?_append] at e
    split at e
    · rw [List.getElem?_map, Option.map_eq_some_iff] at e
      obtain ⟨v, h1, h2⟩ := e
      exact ⟨v, h1, by simpa using h2.symm⟩
    · rw [List.getElem?_replicate] at e; split at e <;> simp at e
  refine ⟨⟨top, fun b hb => (wf_no hb).elim, fun b hb => (wf_no hb).elim, dr⟩, ?_, fun k x e => ?_, fun k x e => ?_, (fun k a e => by cases e), (fun k k' a e => by cases e), (fun k a e => by cases e), fun k loc e => lok loc (List.mem_of_getElem? e), ap⟩
  · simp only [frm0, List.nil_append, List.length_append, List.length_map, List.length_replicate]; omega
  · obtain ⟨v, hv, e⟩ := cell k _ e
    cases e
    obtain ⟨loc, u, h1, h2, h3⟩ := lv k _ hv
    exact ⟨loc, u, h1, h2, h3.mono fun b o e _ hw => ⟨e, fun q => wf_no q⟩⟩
  · obtain ⟨v, hv, e⟩ := cell k _ e
    cases e
theorem reps_ints {d0 : Addr} {h : Heap} {W : Addr → Prop} : ∀ {vs : List Value} {ns : List Int}, IntsAre vs ns → Reps d0 h W vs (ns.map V.int)
  | _, _, .nil => .nil
  | _, _, .cons n t r => .cons (.int n t) (reps_ints r)

/-- _law_draws: a new dict -/
theorem draws_call {C : Cx} {n : Nat} (c : COK C) (g : GOK C n (I n)) (fk : fnOK C 64 F_law_draws) {s : Shared} (top : ∀ b o, C.top.get? b = some o → s.heap.get? b = some o) (dr : DRel C s.heap none)
    {P : Addr} {items : Array Value} {ns : List Int} (hP : PL s.heap P items) (hI : IntsAre items.toList ns) (hn : ns.length ≤ LIM) :
    ∃ a o fd, C.mg (fname 64) = some (.ref a) ∧ C.top.get? a = some o ∧ o.data = .func fd ∧ ∀ (A : Around) (Q E : Value → Shared → Prop), Room A (n + 1) →
      (∀ D s' (p : Int × Int), AftK s s' → s.heap.get? D = none → (∃ t u, s'.heap.DictOf (strKind C.prog C.w) D [(("great" : PySem.Str), .int p.1 t), (("mixed" : PySem.Str), .int p.2 u)]) → 0 ≤ p.2 → p.2 < 2147483647 → Q (.ref D) s') →
      wpAny (model C.prog C.w) A (call (.ref a) [.ref P]) Q E s := by
  obtain ⟨a, o, name, qual, doc, pm, an, cdv, ct, hg, ho, hd, hcd⟩ := fk
  refine ⟨a, o, _, hg, ho, hd, fun A Q E R hQ => ?_⟩
  refine enter_ok c F_law_draws_ok R top rfl ho hd hcd fun env lay s1 E' R1 hE k1 lok ap lv => ?_
  have hlen : F_law_draws.vars.length = lay.length := by rw [← hE.len]; simp [FnD.xs]
  have top1 : ∀ b o, C.top.get? b = some o → s1.heap.get? b = some o := fun b o e => k1.2 b o (top b o e)
  have I0 : FI C lay (frm0 F_law_draws.vars.length none [eL eI ns]) noW noOw none s1.heap := by
    refine FI_start hlen (Nat.le_of_ble_eq_true rfl) top1 (dr.keep k1.2) (fun loc hl => ?_) ap fun k x e => ?_
    · obtain ⟨h1, h2⟩ := lok loc hl
      refine ⟨h1, ?_, fun q => ?_⟩
      · cases e : C.top.get? loc.addr with
        | none => rfl
        | some o => have := top _ o e; rw [h2] at this; cases this
      · obtain ⟨o, e⟩ := dr.alloc; rw [← q, h2] at e; cases e
    · cases k with
      | succ k => simp at e
      | zero =>
        simp at e
        subst e
        obtain ⟨loc, h1, h2⟩ := lv 0 (.ref P) rfl
        refine ⟨loc, _, h1, h2, .lst (items := items) (hP.at fun o e => k1.2 _ o e) id (by rw [List.length_map]; exact hn) ?_⟩
        exact reps_ints hI
  have hfr : frm0 F_law_draws.vars.length none [eL eI ns] = [some (false, eL eI ns), none, none] := rfl
  rw [hfr] at I0
  obtain ⟨st1, st2, kk1, kk2, e1, e2, p1, p2, p3, pos, hbody, S1, S2, G1, G2⟩ := s_law_draws3 (n := n) c g
  rw [hbody]
  refine wpAny_execs_cons (S1 [some (false, eL eI ns), none, none] none .next [some (false, eL eI ns), some (false, .int 7), none] none rfl _ env lay noW noOw s1 _ _ R1 hE I0 fun flow s2 ow2 q2 I2 r2 => ?_)
  cases flow <;> first | exact r2.elim | skip
  obtain ⟨m, gg, run, hm0, hm1⟩ := draws_run (Γ := I n) ns (d := none)
  refine wpAny_execs_cons (S2 _ _ _ _ _ run _ env lay noW ow2 s2 _ _ R1 hE I2 fun flow s3 ow3 q3 I3 r3 => ?_)
  cases flow <;> first | exact r3.elim | skip
  obtain ⟨gv, hgv⟩ := great_run (Γ := I n) ns (some (false, .int m)) gg (d := none)
  have kp : AftK s3 { s3 with heap := s3.heap.push { cls := .type "dict", data := .dict #[] } } := AftK.push
  have I4 := I3.aft c (kp.aft _) (kp.drx I3.hi.dr)
  have keep3 : ∀ b o, s.heap.get? b = some o → s3.heap.get? b = some o := fun b o e => by
    by_cases hb : b = C.d0
    · subst hb
      have e1 := dr.1
      rw [e] at e1
      cases e1
      exact I3.hi.dr.1
    · have na : ∀ loc ∈ lay, loc.addr ≠ b := fun loc hl q => by have := (lok loc hl).2; rw [q, e] at this; cases this
      have e1 := k1.2 b o e
      have e2 := q2.kp b o e1 hb (fun k q => by cases q) na
      refine q3.kp b o e2 hb (fun k q => ?_) na
      rcases q2.ow k b q with ⟨k', q'⟩ | q'
      · cases q'
      · rw [e1] at q'; cases q'
  have sh3 : ∃ h' tk, s3 = { s with heap := h', toks := tk } := by
    obtain ⟨h1, t1, x1⟩ := k1.1
    obtain ⟨h2, t2, x2⟩ := q2.sh
    obtain ⟨h3, t3, x3⟩ := q3.sh
    rw [x3, x2, x1]; exact ⟨_, _, rfl⟩
  have all : ∀ {x y : Shared}, Aft C.d0 x y → DRel C x.heap none → DRel C y.heap none → ∀ b o, x.heap.get? b = some o → y.heap.get? b = some o := fun {x y} k h1 h2 b o e => by
    by_cases hb : b = C.d0
    · subst hb
      have e1 := h1.1
      rw [e] at e1
      cases e1
      exact h2.1
    · exact k.2 b o e hb
  refine wpAny_execs_cons (wpAny_Return_some ?_)
  refine wpAny_Dict_walk (knd := strKind C.prog C.w) rfl rfl (by simp) (Nat.le_of_ble_eq_true rfl) (pairTrees_cons_walk (wpAny_Constant_str (G1 _ _ _ _ hgv _ env lay noW ow3 _ _ _ R1 hE I4 fun v1 s5 k5 hd5 r5 => ?_)))
  have I5 := I4.aft c k5 hd5
  refine pairTrees_cons_walk (wpAny_Constant_str (G2 _ _ _ _ rfl _ env lay noW ow3 _ _ _ R1 hE I5 fun v2 s6 k6 hd6 r6 => pairTrees_nil_walk ?_))
  obtain ⟨r5, _⟩ := r5
  obtain ⟨r6, _⟩ := r6
  cases r5
  cases r6
  have k56 := all k5 I4.hi.dr hd5
  have k66 := all k6 I5.hi.dr hd6
  refine display_done_str rfl (by show ([(PySem.Str.ofString "great"), (PySem.Str.ofString "mixed")] : List PySem.Str).Nodup; decide +kernel) ((Heap.DictOf.new _).keep fun b o e => k66 b o (k56 b o e)) fun h' hm hsb => ?_
  refine hQ _ _ (gv, m) ⟨?_, fun b o e => ?_⟩ ?_ ⟨_, _, hm⟩ hm0 hm1
  · obtain ⟨h3, t3, x3⟩ := sh3
    obtain ⟨h5, t5, x5⟩ := k5.1
    obtain ⟨h6, t6, x6⟩ := k6.1
    rw [x6, x5, x3]; exact ⟨_, _, rfl⟩
  · have e3 := keep3 b o e
    refine (hsb.2 b fun q => ?_).trans (k66 b o (k56 b o (Heap.get?_push_of_some _ e3)))
    rw [q, get_size] at e3; cases e3
  · cases e : s.heap.get? s3.heap.objs.size with
    | none => rfl
    | some o => have := keep3 _ o e; rw [get_size] at this; cases this
end Mine
-- NL
namespace Mine
open PySem PySem.W PyProof.Rows

theorem law_first : ∃ p np p3 pos pos2, F_law.body = .Assign [.Name (PySem.Str.ofString "draws") p] (.Call (.Name (PySem.Str.ofString "_law_draws") np) [.Name (PySem.Str.ofString "script") p3] [] pos) pos2 :: F_law.body.tail ∧
    ∀ env : Env, env.scope.kind = .function → env.scope.names = F_law.scope.names → swapsWith (.Call (.Name (PySem.Str.ofString "_law_draws") np) [.Name (PySem.Str.ofString "script") p3] [] pos) (some (.Name (PySem.Str.ofString "draws") p)) pos2.line env = pure false := by
  refine ⟨_, _, _, _, _, rfl, ?_⟩
  exact fun _ _ _ => rfl

theorem law_walk {prog : Program} {w : World} {mg mb : PySem.Str → Option Value} {top : Heap} (base : ∀ d0 o0, top.get? d0 = none → COK ⟨prog, w, mg, mb, top, d0, o0⟩)
    (hF : ∀ d0 o0 f F, Fd[f]? = some F → fnOK ⟨prog, w, mg, mb, top, d0, o0⟩ f F) {A : Around} (R : Room A 13) {s : Shared} (hs : s.heap = top) {P : Addr} {items : Array Value} {ns : List Int} (hP : PL top P items) (hI : IntsAre items.toList ns) (hn : ns.length ≤ LIM)
    {Q E : Value → Shared → Prop} (hQ : ∀ s', AftK s s' → Q (.bool true) s') {a : Addr} (ha : mg (fname 75) = some (.ref a)) : wpAny (model prog w) A (call (.ref a) [.ref P]) Q E s := by
  have c0 := base top.objs.size default (get_size _)
  obtain ⟨a', o, name, qual, doc, pm, an, cdv, ct, hg, ho, hd, hcd⟩ := hF top.objs.size default 75 F_law (by kernel_rfl)
  have hg : mg (fname 75) = some (.ref a') := hg
  rw [ha] at hg; cases hg
  have top0 : ∀ b o, top.get? b = some o → s.heap.get? b = some o := fun b o e => by rw [hs]; exact e
  refine enter_ok c0 F_law_ok R top0 rfl ho hd hcd fun env lay s1 E' R1 hE k1 lok ap lv => ?_
  have hlen : F_law.vars.length = lay.length := by rw [← hE.len]; simp [FnD.xs]
  have top1 : ∀ b o, top.get? b = some o → s1.heap.get? b = some o := fun b o e => k1.2 b o (top0 b o e)
  have ltop : ∀ loc ∈ lay, top.get? loc.addr = none := fun loc hl => by rw [← hs]; exact (lok loc hl).2
  obtain ⟨loc0, hl0, hv0⟩ := lv 0 (.ref P) rfl
  obtain ⟨p, np, p3, pos, pos2, hbody, hsw⟩ := law_first
  rw [hbody]
  change wpAny (model prog w) _ _ _ _ _
  -- the first phase: d0 is some place of the frame
  have hloc0 : ∃ oL, s1.heap.get? loc0.addr = some oL ∧ ¬ OSeq oL := by
    cases loc0 with
    | loc L y =>
      obtain ⟨m, ⟨oo, es, ep, e1, e2, _⟩, _⟩ := hv0
      exact ⟨oo, e1, fun ⟨_, _, q⟩ => by rw [e2] at q; cases q⟩
    | cel cc =>
      obtain ⟨oo, e1, e2⟩ := hv0
      exact ⟨oo, e1, fun ⟨_, _, q⟩ => by rw [e2] at q; cases q⟩
  obtain ⟨oL, hoL, hseq⟩ := hloc0
  have c1 := base loc0.addr oL (ltop loc0 (List.mem_of_getElem? hl0))
  have g1 : GOK ⟨prog, w, mg, mb, top, loc0.addr, oL⟩ 11 (I 11) := I_ok c1 (hF _ _) 11
  obtain ⟨ad, od, fd, hgd, hod, hdd, H⟩ := draws_call c1 g1 (hF _ _ 64 F_law_draws (by kernel_rfl)) (s := s1) top1 ⟨hoL, hseq⟩ (hP.at fun o e => top1 _ o e) hI hn
  refine wpAny_execs_cons (wpAny_Assign_Name (hs := hsw env hE.kind hE.look) (wpAny_Call_NameR (global_val c1 hE (by kernel_rfl) (by kernel_rfl) top1 hgd ?_)))
  refine callWith_def (he := rfl) hdd (args_cons (he := rfl) (Name_any (C := ⟨prog, w, mg, mb, top, loc0.addr, oL⟩) (k := 0) hE (by kernel_rfl) hl0 hv0 (by kernel_rfl) (by kernel_rfl) (args_nil ⟨top1 _ _ hod, ?_⟩)))
  refine H _ _ _ R1 fun D s2 pr k2 hD hdict h0 h1 => ?_
  have topD : top.get? D = none := by
    cases e : top.get? D with
    | none => rfl
    | some o => have := top1 D o e; rw [hD] at this; cases this
  have c2 := base D default topD
  have g2 : GOK ⟨prog, w, mg, mb, top, D, default⟩ 12 (I 12) := I_ok c2 (hF _ _) 12
  have top2 : ∀ b o, top.get? b = some o → s2.heap.get? b = some o := fun b o e => k2.2 b o (top1 b o e)
  have locs1 : ∀ loc ∈ lay, ∃ o, s1.heap.get? loc.addr = some o := fun loc hl => by
    have := (lok loc hl).1
    cases loc with
    | loc L y => obtain ⟨mm, o, _, _, e, _⟩ := this; exact ⟨_, e⟩
    | cel cc => obtain ⟨vv, o, e, _⟩ := this; exact ⟨_, e⟩
  have I2 : FI ⟨prog, w, mg, mb, top, D, default⟩ lay (frm0 F_law.vars.length none [eL eI ns]) noW noOw (some pr) s2.heap := by
    refine FI_start hlen (Nat.le_of_ble_eq_true rfl) top2 hdict (fun loc hl => ⟨(lok loc hl).1.at fun o e => k2.2 _ o e, ltop loc hl, fun q => ?_⟩) ap fun k x e => ?_
    · obtain ⟨o, e⟩ := locs1 loc hl
      rw [q, hD] at e; cases e
    · cases k with
      | succ k => simp at e
      | zero =>
        simp at e
        subst e
        refine ⟨loc0, _, hl0, hv0.at fun o e => k2.2 _ o e, .lst (items := items) (hP.at fun o e => top2 _ o e) id (by rw [List.length_map]; exact hn) ?_⟩
        exact reps_ints hI
  refine store_sh (C := ⟨prog, w, mg, mb, top, D, default⟩) hE I2 (k := 1) (v := .drw) (by kernel_rfl) (by decide +kernel) .drw fun s3 q3 I3 _ _ => ?_
  obtain ⟨fl, fr', d', run⟩ := law_run 12 (Nat.le_refl _) (eL eI ns) (d := some pr) ⟨pr.1, pr.2, rfl, h0, h1⟩
  refine s_law c2 g2 _ _ _ _ _ run _ env lay noW _ s3 _ _ R1 hE I3 fun flow s4 ow4 k4 I4 r4 => ?_
  cases flow <;> first | exact r4.elim | skip
  obtain ⟨r4, _⟩ := r4
  cases r4
  refine hQ _ ⟨?_, fun b o e => I4.hi.top b o (by rw [← hs]; exact e)⟩
  obtain ⟨x1, y1, z1⟩ := k1.1
  obtain ⟨x2, y2, z2⟩ := k2.1
  obtain ⟨x3, y3, z3⟩ := q3.sh
  obtain ⟨x4, y4, z4⟩ := k4.sh
  rw [z4, z3, z2, z1]; exact ⟨_, _, rfl⟩
end Mine
-- NO
namespace Mine
open PySem PySem.W PyProof.Rows
noncomputable section

/-- what the view of the text must say -/
structure ViewOK (q : Program) (loose : List PySem.Str) : Prop where
  free : ∀ x ∈ (["len", "abs", "max", "sum", "list", "range", "enumerate", "reversed"] : List PySem.Str), x ∉ startupNames ∧ x ∉ looseW q loose ∧ x ∉ (recsOf q).map (·.name) ∧ x ∉ (litsOf q).map (·.1) ∧ x ∉ (clssOf q (looseW q loose)).map (·.name)
  lit0 : ((wlitsOf q).find? fun c => c.1 == ("R0" : PySem.Str)).map (·.2) = some (.tuple [.int 0, .int 1])
  lit1 : ((wlitsOf q).find? fun c => c.1 == ("R1" : PySem.Str)).map (·.2) = some (.tuple [.int 1, .int 1])
  nodef : ∀ (f : Nat) (F : FnD), Fd[f]? = some F → F.params.defaults.isEmpty = true
  defs : ∀ (f : Nat) (F : FnD), Fd[f]? = some F → (defOf q (fname f)).map (fun d => (d.1.params, d.1.body, d.1.scope, d.2)) = some (F.params, F.body, F.scope, [])

theorem lit_at {q : Program} {mg : PySem.Str → Option Value} {h : Heap} (T : TopW q mg h) {x : PySem.Str} {i j : Int} (e : ((wlitsOf q).find? fun c => c.1 == x).map (·.2) = some (.tuple [.int i, .int j])) : ∃ a vs, mg x = some (.ref a) ∧ IsTup h a vs.toArray ∧ IntsAre vs [i, j] := by
  rw [Option.map_eq_some_iff] at e
  obtain ⟨c, h1, h2⟩ := e
  obtain ⟨v, h3, h4⟩ := T.lits c (List.mem_of_find?_eq_some h1)
  have h5 := List.find?_some h1
  rw [eq_of_beq h5] at h3
  rw [h2] at h4
  cases h4 with
  | tuple e1 e2 e3 r =>
    rename_i a o vs n
    cases hv : vs.toList with
    | nil => rw [hv] at r; cases r
    | cons x1 t1 =>
      rw [hv] at r
      generalize hb : ([] : List Addr) = bs at r
      cases r with
      | cons r1 r2 =>
        cases r1
        cases r2 with
        | cons r3 r4 =>
          cases r3
          cases r4
          refine ⟨a, vs.toList, h3, ⟨o, e1, e2, n, by rw [Array.toArray_toList]; exact e3⟩, ?_⟩
          rw [hv]
          exact .cons _ _ (.cons _ _ .nil)
theorem view_fn {q : Program} {loose : List PySem.Str} {R : WRecords} {XP : (PySem.Str → Option Value) → Heap → Prop} {w : World} {s₀ : Shared} {mg mb : PySem.Str → Option Value} {h : Heap} (V : ViewOK q loose) (G : Ground q loose R XP w s₀ mg mb h) (prog : Program) (d0 : Addr) (o0 : Obj) (f : Nat) (F : FnD) (hf : Fd[f]? = some F) :
    fnOK ⟨prog, w, mg, mb, h, d0, o0⟩ f F := by
  have e := V.defs f F hf
  rw [Option.map_eq_some_iff] at e
  obtain ⟨d, e1, e2⟩ := e
  obtain ⟨d, kw⟩ := d
  simp only [Prod.mk.injEq] at e2
  obtain ⟨q1, q2, q3, rfl⟩ := e2
  obtain ⟨a, o, pm, cd, doc, dV, kV, h1, h2, h3, h4, h5⟩ := G.fn e1
  have hk : kV = .none := by
    rcases h5.kw with ⟨_, q⟩ | ⟨q, _⟩
    · exact q
    · exact absurd rfl q
  have hdv : dV = .none := by
    rcases h5.pos with ⟨_, q⟩ | ⟨q, _⟩
    · exact q
    · have := V.nodef f F hf
      rw [← q1] at this
      exact absurd (List.isEmpty_iff.mp this) q
  refine ⟨a, o, d.name, d.name, doc, pm, none, cd, .none, h1, h2, ?_, h4⟩
  rw [h3, hdv, hk, ← q1, ← q2, ← q3]
  rfl
theorem base_ok {q : Program} {loose : List PySem.Str} {R : WRecords} {XP : (PySem.Str → Option Value) → Heap → Prop} {w : World} {s₀ : Shared} {mg mb : PySem.Str → Option Value} {h : Heap} (V : ViewOK q loose) (G : Ground q loose R XP w s₀ mg mb h) (prog : Program) (d0 : Addr) (o0 : Obj) (hd : h.get? d0 = none) :
    COK ⟨prog, w, mg, mb, h, d0, o0⟩ where
  g := G.T.g
  b := G.T.b
  lim := G.T.nolimit
  blt := G.T.builtins
  free := fun x hx => by
    obtain ⟨h1, h2, h3, h4, h5⟩ := V.free x hx
    exact G.T.free x h1 h2 h3 h4 h5
  r0 := lit_at G.W V.lit0
  r1 := lit_at G.W V.lit1
  d0 := hd
noncomputable def AllD (q : Program) : Nat → List FnD → Prop
  | _, [] => True
  | k, F :: r => (defOf q (fname k)).map (fun d => (d.1.params, d.1.body, d.1.scope, d.2)) = some (F.params, F.body, F.scope, []) ∧ AllD q (k + 1) r
theorem AllD.get {q : Program} : ∀ (l : List FnD) (k i : Nat) (F : FnD), AllD q k l → l[i]? = some F → (defOf q (fname (k + i))).map (fun d => (d.1.params, d.1.body, d.1.scope, d.2)) = some (F.params, F.body, F.scope, [])
  | [], _, _, _, _, h => by cases h
  | F :: r, k, 0, G, g, h => by cases h; exact g.1
  | F :: r, k, i + 1, G, g, h => by
    have := AllD.get r (k + 1) i G g.2 h
    rwa [show k + (i + 1) = k + 1 + i by omega]
end
theorem fin {q : Program} {loose : List PySem.Str} {R : WRecords} {XP : (PySem.Str → Option Value) → Heap → Prop} {w : World} {s₀ s₁ : Shared} {mg mb : PySem.Str → Option Value} (V : ViewOK q loose) (G : Ground q loose R XP w s₀ mg mb s₁.heap)
    {fa : Addr} (hmg : mg (fname 75) = some (.ref fa)) (hg : s₁.gens = #[]) {P : Addr} {vs : List Value} {ns : List Int} (hL : s₁.heap.IsList P vs.toArray) (w1 : Well w.params s₁.heap (.ref P) (ofPy (PyData.list (ns.map PyData.int)))) (hI : IntsAre vs ns)
    (hc : ¬ (63 : Int) < ns.length) {E' : Value → Shared → Prop} :
    wpAny (model PySem.Challenge.rw_pq0220_01.row.prog w) callerA (call (.ref fa) [.ref P]) (fun v s' =>
      GoodWG PySem.Challenge.rw_pq0220_01.row.claim (classAt s₀.heap) (ExcName.means s₀.heap) [ofPy (PyData.list (ns.map PyData.int))] s₁ (Except.ok (Flow.ret v)) s') E' s₁ := by
  have hP : PL s₁.heap P vs.toArray := by
    cases w1 with
    | list e _ =>
      obtain ⟨o, e1, _, n, e2⟩ := hL
      rw [e] at e1
      cases e1
      cases e2
      exact ⟨_, e⟩
  have hLIM : LIM = 1000000 := rfl
  refine law_walk (prog := PySem.Challenge.rw_pq0220_01.row.prog) (w := w) (mg := mg) (mb := mb) (top := s₁.heap) (fun d0 o0 h => base_ok V G _ d0 o0 h) (fun d0 o0 f F h => view_fn V G _ d0 o0 f F h) ⟨rfl, by decide +kernel, by decide +kernel⟩ rfl hP hI (by omega) (fun s' k => ?_) hmg
  obtain ⟨⟨h', tk, rfl⟩, k2⟩ := k
  exact GoodW.toG ⟨.inl ⟨.bool true, .bool true, [], rfl, fun _ => rfl, .bool true, (by kernel_rfl), fun _ => ⟨List.nodup_nil, fun _ h => by cases h⟩⟩, k2, rfl, hg⟩
theorem viewOf {q : Program}
    (free : ∀ x ∈ (["len", "abs", "max", "sum", "list", "range", "enumerate", "reversed"] : List PySem.Str), x ∉ startupNames ∧ x ∉ looseW q [PySem.Str.ofString "F0"] ∧ x ∉ (recsOf q).map (·.name) ∧ x ∉ (litsOf q).map (·.1) ∧ x ∉ (clssOf q (looseW q [PySem.Str.ofString "F0"])).map (·.name))
    (lit0 : ((wlitsOf q).find? fun c => c.1 == ("R0" : PySem.Str)).map (·.2) = some (.tuple [.int 0, .int 1]))
    (lit1 : ((wlitsOf q).find? fun c => c.1 == ("R1" : PySem.Str)).map (·.2) = some (.tuple [.int 1, .int 1]))
    (all : AllD q 0 Fd) : ViewOK q [PySem.Str.ofString "F0"] where
  free := free
  lit0 := lit0
  lit1 := lit1
  nodef := by
    have : ∀ F ∈ Fd, F.params.defaults.isEmpty = true := by decide +kernel
    exact fun f F h => this F (List.mem_of_getElem? h)
  defs := fun f F h => by
    have := AllD.get Fd 0 f F all h
    rwa [Nat.zero_add] at this
end Mine
-- NP
open PySem PySem.W PyProof.Rows
set_option maxHeartbeats 0
set_option Elab.async true
theorem Mine.big.tw8347943306643912653 : True := trivial
theorem Mine.big.tw15776252271019361346 : True := trivial
theorem Mine.big.tw3984264392894038906 : True := trivial
theorem Mine.big.tw714261203847750236 : True := trivial
theorem Mine.big.tw17915431715633810690 : True := trivial
theorem Mine.big.tw11550539036539603281 : True := trivial
theorem Mine.big.tw14536572869264116568 : True := trivial
theorem Mine.big.tw4151279191962084905 : True := trivial
theorem Mine.big.tw13450679348795247586 : True := trivial
theorem Mine.big.tw12346193884290400064 : True := trivial
theorem Mine.big.tw8709398568744872424 : True := trivial
theorem Mine.big.tw10107261505752263599 : True := trivial
theorem Mine.big.tw2244807677321474329 : True := trivial
theorem Mine.big.tw9254853016889937487 : True := trivial
theorem Mine.big.tw10988335280056423823 : True := trivial
theorem Mine.big.tw6693575660960637486 : True := trivial
theorem Mine.big.tw14175502233598411545 : True := trivial
theorem Mine.big.tw11175037690518231618 : True := trivial
theorem Mine.big.tw974877752418937826 : True := trivial
theorem Mine.big.tw7077014635857184234 : True := trivial
theorem Mine.big.tw4518333477770998340 : True := trivial
theorem Mine.big.tw11913428219399466603 : True := trivial
theorem Mine.big.tw8981165847165644627 : True := trivial
theorem Mine.big.tw4166301239950320040 : True := trivial
theorem Mine.big.tw15566856292439636220 : True := trivial
theorem Mine.big.tw7912194965950142911 : True := trivial
theorem Mine.big.tw11884482726095425064 : True := trivial
theorem Mine.big.tw15902567843637324176 : True := trivial
theorem Mine.big.tw6710672143966498239 : True := trivial
theorem Mine.big.tw4210560948065395388 : True := trivial
theorem Mine.big.tw18341189019433485684 : True := trivial
theorem Mine.big.tw3646389392428795901 : True := trivial
theorem Mine.big.tw10068731982538682135 : True := trivial
theorem Mine.big.tw11413712590605346398 : True := trivial
theorem Mine.big.tw1412794562756165617 : True := trivial
theorem Mine.big.tw10762104541805322757 : True := trivial
theorem Mine.big.tw11277516547107132418 : True := trivial
theorem Mine.big.tw5173425827161746757 : True := trivial
theorem Mine.big.tw12929099026198185372 : True := trivial
theorem Mine.big.tw15150821705199207955 : True := trivial
theorem Mine.big.tw9452802266067837473 : True := trivial
theorem Mine.big.tw8236391824007203047 : True := trivial
theorem Mine.big.tw5073166449648994451 : True := trivial
theorem Mine.big.tw10314150902907760872 : True := trivial
theorem Mine.big.tw1859100738159016130 : True := trivial
theorem Mine.big.tw10440880543765634257 : True := trivial
theorem Mine.big.tw10743386420519824300 : True := trivial
theorem Mine.big.tw9721693397177759670 : True := trivial
theorem Mine.big.tw15542594445777735467 : True := trivial
theorem Mine.big.tw14783087309598304884 : True := trivial
theorem Mine.big.tw13435770428591075700 : True := trivial
theorem Mine.big.tw4021120301056733307 : True := trivial
theorem Mine.big.tw16239253009080812094 : True := trivial
theorem Mine.big.tw2100560279244737643 : True := trivial
theorem Mine.big.tw8319398706473730479 : True := trivial
theorem Mine.big.tw15677610355446730217 : True := trivial
theorem Mine.big.tw13670303651820816348 : True := trivial
theorem Mine.big.tw5761694520566571322 : True := trivial
theorem Mine.big.tw12041054143096816028 : True := trivial
theorem Mine.big.tw16827679939494078540 : True := trivial
theorem Mine.big.tw15164673069278792316 : True := trivial
theorem Mine.big.tw16072211536723460285 : True := trivial
theorem Mine.big.tw13372273882721820822 : True := trivial
theorem Mine.big.tw11207598443425175806 : True := trivial
theorem Mine.big.tw5810318440526379399 : True := trivial
theorem Mine.big.tw13936549601225619168 : True := trivial
theorem Mine.big.tw17671750068024375256 : True := trivial
theorem Mine.big.tw6895272575869202550 : True := trivial
theorem Mine.big.tw15702035655157310818 : True := trivial
theorem Mine.big.tw15380341841773598310 : True := trivial
theorem Mine.big.tw5192325251383098805 : True := trivial
theorem Mine.big.tw10826169408815726232 : True := trivial
theorem Mine.big.tw11092283058960990353 : True := trivial
theorem Mine.big.tw3272645274392548809 : True := trivial
theorem Mine.big.tw13540348549559989127 : True := trivial
theorem Mine.big.tw16788969677925408539 : True := trivial
theorem Mine.big.tw17615603770002656 : True := trivial
theorem Mine.big.tw11837624711973808163 : True := trivial
theorem Mine.big.tw430029123328139207 : True := trivial
theorem Mine.big.tw12062740576174133131 : True := trivial
theorem Mine.big.tw15168547197721652409 : True := trivial
theorem Mine.big.tw12775394528563131591 : True := trivial
theorem Mine.big.tw5062432179869294776 : True := trivial
theorem Mine.big.tw3902052950492673726 : True := trivial
theorem Mine.big.tw12636532186752779493 : True := trivial
theorem Mine.big.tw1611813851057936012 : True := trivial
theorem Mine.big.tw13631108592128089823 : True := trivial
theorem Mine.big.tw10572548419996607182 : True := trivial
theorem Mine.big.tw4339738091632016156 : True := trivial
theorem Mine.big.tw15435755861382934711 : True := trivial
theorem Mine.big.tw9605162113206863206 : True := trivial
theorem Mine.big.tw13131446061474203976 : True := trivial
theorem Mine.big.tw12484778340671957690 : True := trivial
theorem Mine.big.tw1182980900116578913 : True := trivial
theorem Mine.big.tw2844558797870468021 : True := trivial
theorem Mine.big.tw15748871168716172382 : True := trivial
theorem Mine.big.tw14060511706003143714 : True := trivial
theorem Mine.big.tw300165584934808768 : True := trivial
theorem Mine.big.tw4965427411884646203 : True := trivial
theorem Mine.big.tw8663524291714390710 : True := trivial
theorem Mine.big.tw4367214941830432470 : True := trivial
theorem Mine.big.tw15268550820768228539 : True := trivial
theorem Mine.big.tw9589746884018975437 : True := trivial
theorem Mine.big.tw15503585344044103560 : True := trivial
theorem Mine.big.tw665480236310692436 : True := trivial
theorem Mine.big.tw6688514327956743123 : True := trivial
theorem Mine.big.tw5991629972843617029 : True := trivial
theorem Mine.big.tw11819745715332028618 : True := trivial
theorem Mine.big.tw8664367624690482830 : True := trivial
theorem Mine.big.tw4665847938426299081 : True := trivial
theorem Mine.big.tw16174724037992594540 : True := trivial
theorem Mine.big.tw12986002387737646344 : True := trivial
theorem Mine.big.tw9924035268258620737 : True := trivial
theorem Mine.big.tw18210543803391898297 : True := trivial
theorem Mine.big.tw11646544987378872477 : True := trivial
theorem Mine.big.tw14494005375759232792 : True := trivial
theorem Mine.big.tw963613079442624457 : True := trivial
theorem Mine.big.tw10978119731720876101 : True := trivial
theorem Mine.big.tw398761629898733513 : True := trivial
theorem Mine.big.tw14620170694847764279 : True := trivial
theorem Mine.big.tw4698437903341292456 : True := trivial
theorem Mine.big.tw17664083094849071860 : True := trivial
theorem Mine.big.tw10845614099180125412 : True := trivial
theorem Mine.big.tw1341759523502374941 : True := trivial
theorem Mine.big.tw3966439455580096063 : True := trivial
theorem Mine.big.tw17900139874474915092 : True := trivial
theorem Mine.big.tw13946456996745721090 : True := trivial
theorem Mine.big.tw12674357426164849449 : True := trivial
theorem Mine.big.tw9104643991604696525 : True := trivial
theorem Mine.big.tw5064379641251395632 : True := trivial
theorem Mine.big.tw2089021000346093296 : True := trivial
theorem Mine.big.tw16080957206542004534 : True := trivial
theorem Mine.big.tw1982928568712537862 : True := trivial
theorem Mine.big.tw9515866214819690513 : True := trivial
theorem Mine.big.tw3006588530436667685 : True := trivial
theorem Mine.big.tw887271514951831984 : True := trivial
theorem Mine.big.tw8013424527025506453 : True := trivial
theorem Mine.big.tw17551343727403457286 : True := trivial
theorem Mine.big.tw6229329707400293503 : True := trivial
theorem Mine.big.tw2180692193649380379 : True := trivial
theorem Mine.big.tw3353702332991662265 : True := trivial
theorem Mine.big.tw5949680937725773131 : True := trivial
theorem Mine.big.tw8682052630924705523 : True := trivial
theorem Mine.big.tw8707567237555648541 : True := trivial
theorem Mine.big.tw17801808159831304976 : True := trivial
theorem Mine.big.tw519256483846137256 : True := trivial
theorem Mine.big.tw4938831178266049462 : True := trivial
theorem Mine.big.tw4682992560283724327 : True := trivial
theorem Mine.big.tw16659815055117930118 : True := trivial
theorem Mine.big.tw16882486025526812133 : True := trivial
theorem Mine.big.tw1169605189504905336 : True := trivial
theorem Mine.big.tw10365048428188080402 : True := trivial
theorem Mine.big.tw9203787542046728699 : True := trivial
theorem Mine.big.tw7308298476852936395 : True := trivial
theorem Mine.big.tw8976121227274118811 : True := trivial
theorem Mine.big.tw11320534614952338542 : True := trivial
theorem Mine.big.tw12352739796439186297 : True := trivial
theorem Mine.big.tw8730486180357981652 : True := trivial
theorem Mine.big.tw13101605189739484265 : True := trivial
theorem Mine.big.tw9095981840225373855 : True := trivial
theorem Mine.big.tw7867225132326899979 : True := trivial
theorem Mine.big.tw4265511270068334994 : True := trivial
theorem Mine.big.tw14499701811091106745 : True := trivial
theorem Mine.big.tw2587147498482703319 : True := trivial
theorem Mine.big.tw16828753416266507203 : True := trivial
theorem Mine.big.tw3810225280247989678 : True := trivial
theorem Mine.big.tw1103150617676035868 : True := trivial
theorem Mine.big.tw15541354833157596768 : True := trivial
theorem Mine.big.tw3892343006832351506 : True := trivial
theorem Mine.big.tw17279469027822856920 : True := trivial
theorem Mine.big.tw6647120407145409635 : True := trivial
theorem Mine.big.tw118503023301165887 : True := trivial
theorem Mine.big.tw6329007226537631388 : True := trivial
theorem Mine.big.tw1825184953899884727 : True := trivial
theorem Mine.big.tw9713672232151101474 : True := trivial
theorem Mine.big.tw5452238074609558084 : True := trivial
theorem Mine.big.tw4213915687144895132 : True := trivial
theorem Mine.big.tw1888411865018137806 : True := trivial
theorem Mine.big.tw17909931756344363397 : True := trivial
theorem Mine.big.tw861398538518616014 : True := trivial
theorem Mine.big.tw965187468626893202 : True := trivial
theorem Mine.big.tw1008368336423426638 : True := trivial
theorem Mine.big.tw558198507276850712 : True := trivial
theorem Mine.big.tw8252374443792567677 : True := trivial
theorem Mine.big.tw13455862070155362046 : True := trivial
theorem Mine.big.tw14481812476840174894 : True := trivial
theorem Mine.big.tw7737573744963835471 : True := trivial
theorem Mine.big.tw18044912821255104996 : True := trivial
theorem Mine.big.tw11076058586802297146 : True := trivial
theorem Mine.big.tw3819503896023815003 : True := trivial
theorem Mine.big.tw2646594661447441413 : True := trivial
theorem Mine.big.tw1055192114502673281 : True := trivial
theorem Mine.big.tw14427201014912222378 : True := trivial
theorem Mine.big.tw10819116566311468850 : True := trivial
theorem Mine.big.tw9967135075422817741 : True := trivial
theorem Mine.big.tw2456278499604836590 : True := trivial
theorem Mine.big.tw887201838298504636 : True := trivial
theorem Mine.big.tw14665643547372132212 : True := trivial
theorem Mine.big.tw14707956583915960652 : True := trivial
theorem Mine.big.tw5760167171203989394 : True := trivial
theorem Mine.big.tw7116577451769038908 : True := trivial
theorem Mine.big.tw17399186916232570815 : True := trivial
theorem Mine.big.tw7956281368766479251 : True := trivial
theorem Mine.big.tw5600041349083506247 : True := trivial
theorem Mine.big.tw6900102945556706292 : True := trivial
theorem Mine.big.tw5841131517073514667 : True := trivial
theorem Mine.big.tw8634050654010876624 : True := trivial
theorem Mine.big.tw15288162219645066947 : True := trivial
theorem Mine.big.tw4933656701032606546 : True := trivial
theorem Mine.big.tw14939022929902084158 : True := trivial
theorem Mine.big.tw10079084214166394510 : True := trivial
theorem Mine.big.tw3361434790421791324 : True := trivial
theorem Mine.big.tw2293598371676701300 : True := trivial
theorem Mine.big.tw11448340234536329384 : True := trivial
theorem Mine.big.tw4668354246949625529 : True := trivial
theorem Mine.big.tw15283773152392457305 : True := trivial
theorem Mine.big.tw14877140884839277071 : True := trivial
theorem Mine.big.tw11871496285889426449 : True := trivial
theorem Mine.big.tw8842602117528885242 : True := trivial
theorem Mine.big.tw3451479607486578947 : True := trivial
theorem Mine.big.tw10110264042121605255 : True := trivial
theorem Mine.big.tw12020548554886218146 : True := trivial
theorem Mine.big.tw6293445064294933456 : True := trivial
theorem Mine.big.tw11739240701992381825 : True := trivial
theorem Mine.big.tw15237555834025611390 : True := trivial
theorem Mine.big.tw3869220331081692945 : True := trivial
theorem Mine.big.tw12371669443341388042 : True := trivial
theorem Mine.big.tw1265409172266969461 : True := trivial
theorem Mine.big.tw4443723917201279412 : True := trivial
theorem Mine.big.tw18032741233208853938 : True := trivial
theorem Mine.big.tw10625770940786896736 : True := trivial
theorem Mine.big.tw12293714320237420176 : True := trivial
theorem Mine.big.tw10892764225002494602 : True := trivial
theorem Mine.big.tw6239443117822800194 : True := trivial
theorem Mine.big.tw13216610324734421408 : True := trivial
theorem Mine.big.tw12318846468213230409 : True := trivial
theorem Mine.big.tw660484847682920727 : True := trivial
theorem Mine.big.tw1574312764098985009 : True := trivial
theorem Mine.big.tw13056689763695653226 : True := trivial
theorem Mine.big.tw12991403738455165647 : True := trivial
theorem Mine.big.tw13068866500254777367 : True := trivial
theorem Mine.big.tw13389260926271172448 : True := trivial
theorem Mine.big.tw14017486619169093980 : True := trivial
theorem Mine.big.tw16291765897885393818 : True := trivial
theorem Mine.big.tw12498650354469446832 : True := trivial
theorem Mine.big.tw10200217890334119805 : True := trivial
theorem Mine.big.tw4084023238257405192 : True := trivial
theorem Mine.big.tw3025558105051878398 : True := trivial
theorem Mine.big.tw6888801856617873052 : True := trivial
theorem Mine.big.tw3343617510204796839 : True := trivial
theorem Mine.big.tw14387339415068027348 : True := trivial
theorem Mine.big.tw15898036793315639860 : True := trivial
theorem Mine.big.tw949391909964826738 : True := trivial
theorem Mine.big.tw12144884148159884010 : True := trivial
theorem Mine.big.tw2100739355848231114 : True := trivial
theorem Mine.big.tw9711266765073536316 : True := trivial
theorem Mine.big.tw9060369587007086068 : True := trivial
theorem Mine.big.tw13682976607632715639 : True := trivial
theorem Mine.big.tw9629117406195019782 : True := trivial
theorem Mine.big.tw5377211874851346107 : True := trivial
theorem Mine.big.tw8812338436955728816 : True := trivial
theorem Mine.big.tw18039477698765101008 : True := trivial
theorem Mine.big.tw15640314162061722338 : True := trivial
theorem Mine.big.tw4553732168606548444 : True := trivial
theorem Mine.big.tw7371016169069649110 : True := trivial
theorem Mine.big.tw6731145049323459329 : True := trivial
theorem Mine.big.tw12097282633499573697 : True := trivial
theorem Mine.big.tw5687458013365728105 : True := trivial
theorem Mine.big.tw8828244259628051886 : True := trivial
theorem Mine.big.tw1018189654023656910 : True := trivial
theorem Mine.big.tw14988429514739671186 : True := trivial
theorem Mine.big.tw3009832040901572117 : True := trivial
theorem Mine.big.tw7001787083223918447 : True := trivial
theorem Mine.big.tw11155032621921855344 : True := trivial
theorem Mine.big.tw14632749452821063705 : True := trivial
theorem Mine.big.tw13229835766599229194 : True := trivial
theorem Mine.big.tw5839730178378999976 : True := trivial
theorem Mine.big.tw714505927723109768 : True := trivial
theorem Mine.big.tw3516224588792529280 : True := trivial
theorem Mine.big.tw14008652600251959892 : True := trivial
theorem Mine.big.tw10430867470310210853 : True := trivial
theorem Mine.big.tw13255611449890662977 : True := trivial
theorem Mine.big.tw17569071850165268173 : True := trivial
theorem Mine.big.tw12826508207914103554 : True := trivial
theorem Mine.big.tw11019691368829628316 : True := trivial
theorem Mine.big.tw13569034830089123136 : True := trivial
theorem Mine.big.tw14817596631838080041 : True := trivial
theorem Mine.big.tw4630091514220090572 : True := trivial
theorem Mine.big.tw14766362870788262253 : True := trivial
theorem Mine.big.tw4463517685062882904 : True := trivial
theorem Mine.big.tw12308335390569541703 : True := trivial
theorem Mine.big.tw13617719912706458063 : True := trivial
theorem Mine.big.tw16517173050733983053 : True := trivial
theorem Mine.big.tw8673513362022662599 : True := trivial
theorem Mine.big.tw14634291293967164221 : True := trivial
theorem Mine.big.tw11523224400925079094 : True := trivial
theorem Mine.big.tw6220418958317340147 : True := trivial
theorem Mine.big.tw2063896415083590021 : True := trivial
theorem Mine.big.tw9171120279106139806 : True := trivial
theorem Mine.big.tw5518728498644192446 : True := trivial
theorem Mine.big.tw14854619229934415167 : True := trivial
theorem Mine.big.tw8906898679829397727 : True := trivial
theorem Mine.big.tw1708077781335022644 : True := trivial
theorem Mine.big.tw5290420774329299723 : True := trivial
theorem Mine.big.tw15206613559454695052 : True := trivial
theorem Mine.big.tw223931178358841211 : True := trivial
theorem Mine.big.tw9001848615007724150 : True := trivial
theorem Mine.big.tw13283440587996752296 : True := trivial
theorem Mine.big.tw3583938281235964644 : True := trivial
theorem Mine.big.tw16261795479169105065 : True := trivial
theorem Mine.big.tw1551119111884849476 : True := trivial
theorem Mine.big.tw9587446618045219991 : True := trivial
theorem Mine.big.tw716225840368925599 : True := trivial
theorem Mine.big.tw1492725417202088717 : True := trivial
theorem Mine.big.tw1520681172913471050 : True := trivial
theorem Mine.big.tw12600115324107644728 : True := trivial
theorem Mine.big.tw9076452407678293792 : True := trivial
theorem Mine.big.tw10055036281830783660 : True := trivial
theorem Mine.big.tw17539158710382685469 : True := trivial
theorem Mine.big.tw14465283579718434883 : True := trivial
theorem Mine.big.tw5710206229008908867 : True := trivial
theorem Mine.big.tw5129617367486044428 : True := trivial
theorem Mine.big.tw9375375519052842469 : True := trivial
theorem Mine.big.tw3139223597767346231 : True := trivial
theorem Mine.big.tw15814833055866358491 : True := trivial
theorem Mine.big.tw12700924531033867490 : True := trivial
theorem Mine.big.tw5735681169501985881 : True := trivial
theorem Mine.big.tw12531170527360845201 : True := trivial
theorem Mine.big.tw10089858717917652790 : True := trivial
theorem Mine.big.tw6970334526649000254 : True := trivial
theorem Mine.big.tw7108896415797296700 : True := trivial
theorem Mine.big.tw11940110860563116242 : True := trivial
theorem Mine.big.tw2898756179172515153 : True := trivial
theorem Mine.big.tw2128814830015199809 : True := trivial
theorem Mine.big.tw1626636512988079051 : True := trivial
theorem Mine.big.tw16923982170533784930 : True := trivial
theorem Mine.big.tw18260977728930364220 : True := trivial
theorem Mine.big.tw16286857106741927240 : True := trivial
theorem Mine.big.tw484149295039235756 : True := trivial
theorem Mine.big.tw3516322488619766997 : True := trivial
theorem Mine.big.tw8749323425005976667 : True := trivial
theorem Mine.big.tw7568213279742092074 : True := trivial
theorem Mine.big.tw14096581892813553684 : True := trivial
theorem Mine.big.tw8821032224476423513 : True := trivial
theorem Mine.big.tw16722047375783682523 : True := trivial
theorem Mine.big.tw16185170069477458233 : True := trivial
theorem Mine.big.tw11888894913508110890 : True := trivial
theorem Mine.big.tw2074783941707555919 : True := trivial
theorem Mine.big.tw9208818586416941729 : True := trivial
theorem Mine.big.tw12662310165236009950 : True := trivial
theorem Mine.big.tw17608948384572498657 : True := trivial
theorem Mine.big.tw556572931092505979 : True := trivial
theorem Mine.big.tw2465758065991212007 : True := trivial
theorem Mine.big.tw6452272853980590127 : True := trivial
theorem Mine.big.tw5793490508342142301 : True := trivial
theorem Mine.big.tw217066886840690549 : True := trivial
theorem Mine.big.tw4420631459944264270 : True := trivial
theorem Mine.big.tw384586934950750828 : True := trivial
theorem Mine.big.tw15164786579131751480 : True := trivial
theorem Mine.big.tw9578779979895442322 : True := trivial
theorem Mine.big.tw14138932417809927429 : True := trivial
theorem Mine.big.tw13253688578264554484 : True := trivial
theorem Mine.big.tw377670397605848600 : True := trivial
theorem Mine.big.tw1418510574412041879 : True := trivial
theorem Mine.big.tw5216197449291887674 : True := trivial
theorem Mine.big.tw15214968073033415712 : True := trivial
theorem Mine.big.tw16431241489585755804 : True := trivial
theorem Mine.big.tw11441824726424458243 : True := trivial
theorem Mine.big.tw4026649066391358086 : True := trivial
theorem Mine.big.tw15838516262959372846 : True := trivial
theorem Mine.big.tw7658066467617591549 : True := trivial
theorem Mine.big.tw2264476131491702882 : True := trivial
theorem Mine.big.tw4151606398654587500 : True := trivial
theorem Mine.big.tw3239682953277563780 : True := trivial
theorem Mine.big.tw6643643434029778808 : True := trivial
theorem Mine.big.tw5610017949440790752 : True := trivial
theorem Mine.big.tw11855237148235643934 : True := trivial
theorem Mine.big.tw7900506112056977303 : True := trivial
theorem Mine.big.tw15855527998883431470 : True := trivial
theorem Mine.big.tw12053679619769744483 : True := trivial
theorem Mine.big.tw9941910641483328279 : True := trivial
theorem Mine.big.tw14360594135823299756 : True := trivial
theorem Mine.big.tw4597333944412825404 : True := trivial
theorem Mine.big.tw16250473840140577544 : True := trivial
theorem Mine.big.tw15715442437160390406 : True := trivial
theorem Mine.big.tw16273009641788616335 : True := trivial
theorem Mine.big.tw13824456961740301774 : True := trivial
theorem Mine.big.tw8286760424812879625 : True := trivial
theorem Mine.big.tw11190005422946848824 : True := trivial
theorem Mine.big.tw15408108076982660395 : True := trivial
theorem Mine.big.tw6859045095176624637 : True := trivial
theorem Mine.big.tw13388963084459705452 : True := trivial
theorem Mine.big.tw6341783513931437647 : True := trivial
theorem Mine.big.tw6373311083344424364 : True := trivial
theorem Mine.big.tw11167186920132712170 : True := trivial
theorem Mine.big.tw14854489502590750550 : True := trivial
theorem Mine.big.tw5182304853888933066 : True := trivial
theorem Mine.big.tw16182924723298813994 : True := trivial
theorem Mine.big.tw2718501755526125466 : True := trivial
theorem Mine.big.tw6004802397848487620 : True := trivial
theorem Mine.big.tw14234490694974958435 : True := trivial
theorem Mine.big.tw10018727065424270662 : True := trivial
theorem Mine.big.tw15933291617006635720 : True := trivial
theorem Mine.big.tw10958130201244399034 : True := trivial
theorem Mine.big.tw4876054474972706272 : True := trivial
theorem Mine.big.tw9056565232884320792 : True := trivial
theorem Mine.big.tw10386959814606313105 : True := trivial
theorem Mine.big.tw13541720872296816508 : True := trivial
theorem Mine.big.tw11614493032195539306 : True := trivial
theorem Mine.big.tw5140178273861644106 : True := trivial
theorem Mine.big.tw15536983429120869772 : True := trivial
theorem Mine.big.tw7986546674475078178 : True := trivial
theorem Mine.big.tw2983082238129987894 : True := trivial
theorem Mine.big.tw12084083495863928011 : True := trivial
theorem Mine.big.tw13379222293838225747 : True := trivial
theorem Mine.big.tw4901721524489951369 : True := trivial
theorem Mine.big.tw2008430546806713966 : True := trivial
theorem Mine.big.tw3926532556678448363 : True := trivial
theorem Mine.big.tw15452442089493917627 : True := trivial
theorem Mine.big.tw14083712914258355164 : True := trivial
theorem Mine.big.tw12913635144742532077 : True := trivial
theorem Mine.big.tw8025752376920288355 : True := trivial
theorem Mine.big.tw4372707337603154505 : True := trivial
theorem Mine.big.tw2164492751225353631 : True := trivial
theorem Mine.big.tw3789215671539990253 : True := trivial
theorem Mine.big.tw15771519570203140926 : True := trivial
theorem Mine.big.tw739655097317160934 : True := trivial
theorem Mine.big.tw5680821351961931030 : True := trivial
theorem Mine.big.tw1611219720960597016 : True := trivial
theorem Mine.big.tw7129061656385796392 : True := trivial
theorem Mine.big.tw11442042589046236085 : True := trivial
theorem Mine.big.tw11582855261779881647 : True := trivial
theorem Mine.big.tw2514211640410359680 : True := trivial
theorem Mine.big.tw6496243936296040605 : True := trivial
theorem Mine.big.tw11021681063570538958 : True := trivial
theorem Mine.big.tw16331834212404104114 : True := trivial
theorem Mine.big.tw4295370758006205012 : True := trivial
theorem Mine.big.tw7240176518764253032 : True := trivial
theorem Mine.big.tw13556335727075256877 : True := trivial
theorem Mine.big.tw2692484874357011057 : True := trivial
theorem Mine.big.tw6646810560712519515 : True := trivial
theorem Mine.big.tw5879862239500322084 : True := trivial
theorem Mine.big.tw4206714089793225251 : True := trivial
theorem Mine.big.tw8801503835213025913 : True := trivial
theorem Mine.big.tw11151078844468641161 : True := trivial
theorem Mine.big.tw12978239583535605296 : True := trivial
theorem Mine.big.tw81852590912174153 : True := trivial
theorem Mine.big.tw15305823029838462619 : True := trivial
theorem Mine.big.tw13044645267180797563 : True := trivial
theorem Mine.big.tw4664180359518950788 : True := trivial
theorem Mine.big.tw12781726039504634246 : True := trivial
theorem Mine.big.tw18420563440412042360 : True := trivial
theorem Mine.big.tw14181325888858978790 : True := trivial
theorem Mine.big.tw6857313785662435832 : True := trivial
theorem Mine.big.tw10990732011011575958 : True := trivial
theorem Mine.big.tw15382580144896455146 : True := trivial
theorem Mine.big.tw1687048517216071475 : True := trivial
theorem Mine.big.tw10833107530250590267 : True := trivial
theorem Mine.big.tw15340502919333305106 : True := trivial
theorem Mine.big.tw2733341221392602548 : True := trivial
theorem Mine.big.tw15709944441378400319 : True := trivial
theorem Mine.big.tw13336124759676207065 : True := trivial
theorem Mine.big.tw17463883808704872570 : True := trivial
theorem Mine.big.tw8583875620318412737 : True := trivial
theorem Mine.big.tw3085719406681080733 : True := trivial
theorem Mine.big.tw4939776517359592776 : True := trivial
namespace Mine
theorem big : PySem.Challenge.rw_pq0220_01.Holds := by
  w_on
  o_law
  k_head
  case hw => w_witness2
  intro w s₀ s₁ mg mb G Y fa o pm cd doc dV kV ho hd hcd hD hmg hg args vals as hpre hlay hrd hwl hlo
  clear ho hd hcd hD Y
  wrow_args hpre hlay hrd hwl hlo
  refine fin (viewOf (by decide +kernel) (by kernel_rfl) (by kernel_rfl) ?_) G hmg hg (by assumption) (by assumption) (by assumption) (by assumption)
  unfold Fd
  repeat' first | exact trivial | refine ⟨by kernel_rfl, ?_⟩
end Mine
theorem PySem.Challenge.cw_pq0220_01_holds : PySem.Challenge.rw_pq0220_01.Holds :=
  Mine.big
