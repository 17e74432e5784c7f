import PyProof.Rows.All
import Wide.All
import Open.Line
import OpenK.KGet
import OpenK.KWalk
import OpenK.Peek
import ObjForm.ListNI
import Wide.FinOn

import PySem.Challenge.RW_nn0013_01
set_option Elab.async false
set_option linter.all false
set_option genSizeOfSpec false
set_option genInjectivity false
section

/-! a small by-value language: values, expressions, statements, their evaluation -/
namespace NN
open PySem

inductive V where
  | int (i : Int)
  | bool (b : Bool)
  | il (l : List Int)
  | rl (l : List (List Int))
  | box
  | arg (l : List Int)
  | prs (l : List (Int × Int))
  | rng (l : List Int)

noncomputable abbrev Bx := Option (List Int × Int)
noncomputable abbrev Ev := List (Option V)

noncomputable def gt : Ev → Nat → Option V
  | [], _ => none
  | v :: _, 0 => v
  | _ :: r, n + 1 => gt r n
noncomputable def pt : Ev → Nat → V → Ev
  | [], _, _ => []
  | _ :: r, 0, v => some v :: r
  | x :: r, n + 1, v => x :: pt r n v

inductive Op where | add | sub | mul | fdiv | mod | shl | shr | band
inductive Cm where | lt | le | gt | ge | eq | ne

/-- two to the hundredth -/
noncomputable def okI (a : Int) : Bool := Nat.ble a.natAbs 1267650600228229401496703205376
theorem okI_le {a : Int} (h : okI a = true) : a.natAbs ≤ 1267650600228229401496703205376 := Nat.le_of_ble_eq_true h

noncomputable def opI : Op → Int → Int → Option Int
  | .add, a, b => some (a + b)
  | .sub, a, b => some (a - b)
  | .mul, a, b => if okI a && okI b then some (a * b) else none
  | .fdiv, a, b => if okI b && decide (b ≠ 0) then some (a.fdiv b) else none
  | .mod, a, b => if b ≠ 0 then some (a.fmod b) else none
  | .shl, a, b => if okI a && (decide (0 ≤ b) && Nat.ble b.natAbs 1000) then some (a * 2 ^ b.toNat) else none
  | .shr, a, b => if 0 ≤ b then some (a.fdiv (2 ^ b.toNat)) else none
  | .band, a, b => if 0 ≤ a ∧ 0 ≤ b then some ((a.toNat &&& b.toNat : Nat) : Int) else none

noncomputable def cmI : Cm → Int → Int → Bool
  | .lt, a, b => decide (a < b)
  | .le, a, b => decide (a ≤ b)
  | .gt, a, b => decide (b < a)
  | .ge, a, b => decide (b ≤ a)
  | .eq, a, b => decide (a = b)
  | .ne, a, b => !decide (a = b)

/-- the most items of a list -/
noncomputable def cap : Nat := 100000

inductive E where
  | int (i : Int)
  | bool (b : Bool)
  | var (x : Nat)
  | bin (o : Op) (l r : E)
  | cmp (c : Cm) (l r : E)
  | and (l r : E)
  | or (l r : E)
  | not (e : E)
  | ife (c a b : E)
  | idx (l i : E)
  | upto (l e : E)
  | from1 (l : E) (k : Nat)
  | all (l : E)
  | rev (l : E)
  | cat (l r : E)
  | rep (l n : E)
  | lit (l : List Int)
  | lst1 (e : E)
  | rows2 (a b : E)
  | call1 (f : Str) (a : E)
  | call2 (f : Str) (a b : E)
  | call3 (f : Str) (a b c : E)
  | call4 (f : Str) (a b c d : E)
  | len (e : E)
  | min2 (a b : E)
  | sum (e : E)
  | toInt (e : E)
  | toList (e : E)
  | range1 (e : E)
  | range3 (a b c : E)
  | zip (a b : E)
  | enum (a : E)
  | comp (rw two : Bool) (src cond elt : E) (caps : List Nat)
  | take (x : Nat) (e : E)
  | drawn (x : Nat) (e : E)
  | box1 (x : Nat)

/-- a value that is no list of the heap's but a new one -/
noncomputable def E.fresh (e : E) : Bool := !(decide (e.ctorIdx = 2) || decide (e.ctorIdx = 18))

noncomputable def packI : List V → Option (List Int)
  | [] => some []
  | .int i :: r => (packI r).map (i :: ·)
  | _ => none
noncomputable def packL : List V → Option (List (List Int))
  | [] => some []
  | .il i :: r => (packL r).map (i :: ·)
  | _ => none
noncomputable def pack (rw : Bool) (l : List V) : Option V := if rw then (packL l).map .rl else (packI l).map .il

/-- the rounds of a comprehension: each round's names, what it makes (or nothing) -/
noncomputable def compLoop (f : Ev → Bx → Option (Option V × Bx)) : List Ev → Bx → Option (List V × Bx)
  | [], b => some ([], b)
  | e :: r, b => match f e b with
    | none => none
    | some (v, b') => match compLoop f r b' with
      | none => none
      | some (vs, b'') => some (v.toList ++ vs, b'')

noncomputable def eltOk : V → Bool
  | .int _ | .il _ => true
  | _ => false

noncomputable def itemsOf : Bool → V → Option (List Ev)
  | false, .il l => some (l.map fun i => [some (.int i)])
  | false, .rng l => some (l.map fun i => [some (.int i)])
  | false, .rl l => some (l.map fun i => [some (.il i)])
  | true, .prs l => some (l.map fun p => [some (.int p.1), some (.int p.2)])
  | _, _ => none

noncomputable def rangeL (a c : Int) (n : Nat) : List Int := (List.range n).map fun i : Nat => a + (i : Int) * c
/-- how many items range(a, b, c) has -/
noncomputable def rangeN (a b c : Int) : Nat := (if 0 < c then (if a < b then (b - a - 1) / c + 1 else 0) else (if b < a then (a - b - 1) / (-c) + 1 else 0)).toNat
/-- small ints -/
noncomputable def smI (a : Int) : Bool := Nat.ble a.natAbs 1000000
theorem smI_le {a : Int} (h : smI a = true) : -1000000 ≤ a ∧ a ≤ 1000000 := by have := Nat.le_of_ble_eq_true h; (first | lia | omega)
theorem smI_of {a : Int} (h : -1000000 ≤ a ∧ a ≤ 1000000) : smI a = true := Nat.ble_eq_true_of_le (by (first | lia | omega))

noncomputable def enumL (l : List Int) : List (Int × Int) := (List.range l.length).map fun i : Nat => ((i : Int), l.getD i 0)

structure Fns where
  fn : Str → List V → Option V
  take : Int → (List Int × Int) → Option (Int × (List Int × Int))
  drawn : Int → (List Int × Int) → Option (List Int × (List Int × Int))

noncomputable abbrev Rs := Option (V × Bx)

noncomputable def vBin : Op → V → V → Option V
  | o, .int a, .int b => (opI o a b).map .int
  | _, _, _ => none
noncomputable def vCmp : Cm → V → V → Option V
  | c, .int a, .int b => some (.bool (cmI c a b))
  | .ne, .il a, .il b => if a.length ≤ cap ∧ b.length ≤ cap then some (.bool (!decide (a = b))) else none
  | .ne, .rl a, .rl b => if a.length ≤ cap ∧ b.length ≤ cap ∧ (∀ x ∈ a, x.length ≤ cap) ∧ (∀ x ∈ b, x.length ≤ cap) then some (.bool (!decide (a = b))) else none
  | _, _, _ => none
noncomputable def vIdx : V → V → Option V
  | .il l, .int i => if smI i && decide (0 ≤ i) then (l[i.toNat]?).map .int else none
  | _, _ => none
noncomputable def vUpto : V → V → Option V
  | .il l, .int i => if 0 ≤ i ∧ l.length ≤ cap then some (.il (l.take i.toNat)) else none
  | .arg l, .int i => if 0 ≤ i ∧ l.length ≤ cap then some (.il (l.take i.toNat)) else none
  | _, _ => none
noncomputable def vList (f : List Int → Option V) : V → Option V
  | .il l => if l.length ≤ cap then f l else none
  | _ => none
noncomputable def vCat : V → V → Option V
  | .il a, .il b => if a.length ≤ cap ∧ b.length ≤ cap then some (.il (a ++ b)) else none
  | _, _ => none
noncomputable def vRep : V → V → Option V
  | .il [a], .int n => if Nat.ble n.natAbs 100000 then some (.il (List.replicate n.toNat a)) else none
  | _, _ => none
noncomputable def vRange : V → V → V → Option V
  | .int a, .int b, .int c => if smI a && smI b && smI c && decide (c ≠ 0) && decide (rangeN a b c ≤ cap) then some (.rng (rangeL a c (rangeN a b c))) else none
  | _, _, _ => none
noncomputable def vZip : V → V → Option V
  | .il a, .il b => if a.length ≤ cap ∧ b.length ≤ cap then some (.prs (a.zip b)) else none
  | _, _ => none
noncomputable def vEnum : V → Option V
  | .il a => if a.length ≤ cap then some (.prs (enumL a)) else none
  | _ => none
noncomputable def vMin : V → V → Option V
  | .int a, .int b => some (.int (min a b))
  | _, _ => none
noncomputable def vToInt : V → Option V
  | .int a => some (.int a)
  | _ => none
noncomputable def vLst1 : V → Option V
  | .int a => some (.il [a])
  | _ => none
noncomputable def vRows2 : V → V → Option V
  | .il a, .il b => some (.rl [a, b])
  | _, _ => none
noncomputable def vSum : V → Option V
  | .il l => some (.int l.sum)
  | _ => none
noncomputable def vNot : V → Option V
  | .bool b => some (.bool (!b))
  | _ => none

noncomputable def op1 (f : V → Option V) : Rs → Rs
  | some (v, b) => (f v).map (·, b)
  | none => none

noncomputable def evalE (P : Fns) : E → Ev → Bx → Rs
  | .int i, _, b => some (.int i, b)
  | .bool c, _, b => some (.bool c, b)
  | .var x, s, b => (gt s x).map (·, b)
  | .bin o l r, s, b => match evalE P l s b with
    | none => none
    | some (u, b₁) => op1 (vBin o u) (evalE P r s b₁)
  | .cmp c l r, s, b => match evalE P l s b with
    | none => none
    | some (u, b₁) => op1 (vCmp c u) (evalE P r s b₁)
  | .and l r, s, b => match evalE P l s b with
    | some (.bool true, b₁) => (match evalE P r s b₁ with | some (.bool c, b₂) => some (.bool c, b₂) | _ => none)
    | some (.bool false, b₁) => some (.bool false, b₁)
    | _ => none
  | .or l r, s, b => match evalE P l s b with
    | some (.bool false, b₁) => (match evalE P r s b₁ with | some (.bool c, b₂) => some (.bool c, b₂) | _ => none)
    | some (.bool true, b₁) => some (.bool true, b₁)
    | _ => none
  | .not e, s, b => op1 vNot (evalE P e s b)
  | .ife c l r, s, b => match evalE P c s b with
    | some (.bool true, b₁) => (match evalE P l s b₁ with | some (.int i, b₂) => some (.int i, b₂) | _ => none)
    | some (.bool false, b₁) => (match evalE P r s b₁ with | some (.int i, b₂) => some (.int i, b₂) | _ => none)
    | _ => none
  | .idx l i, s, b => match evalE P l s b with
    | none => none
    | some (u, b₁) => op1 (vIdx u) (evalE P i s b₁)
  | .upto l i, s, b => match evalE P l s b with
    | none => none
    | some (u, b₁) => op1 (vUpto u) (evalE P i s b₁)
  | .from1 l k, s, b => op1 (vList fun x => some (.il (x.drop k))) (evalE P l s b)
  | .all l, s, b => op1 (vList fun x => some (.il x)) (evalE P l s b)
  | .rev l, s, b => op1 (vList fun x => some (.il x.reverse)) (evalE P l s b)
  | .cat l r, s, b => match evalE P l s b with
    | none => none
    | some (u, b₁) => op1 (vCat u) (evalE P r s b₁)
  | .rep l r, s, b => match evalE P l s b with
    | none => none
    | some (u, b₁) => op1 (vRep u) (evalE P r s b₁)
  | .lit l, _, b => if l.length ≤ cap then some (.il l, b) else none
  | .lst1 e, s, b => op1 vLst1 (evalE P e s b)
  | .rows2 l r, s, b => match evalE P l s b with
    | none => none
    | some (u, b₁) => op1 (vRows2 u) (evalE P r s b₁)
  | .call1 f e, s, b => op1 (fun v => P.fn f [v]) (evalE P e s b)
  | .call2 f e₁ e₂, s, b => match evalE P e₁ s b with
    | none => none
    | some (v₁, b₁) => op1 (fun v => P.fn f [v₁, v]) (evalE P e₂ s b₁)
  | .call3 f e₁ e₂ e₃, s, b => match evalE P e₁ s b with
    | none => none
    | some (v₁, b₁) => match evalE P e₂ s b₁ with
      | none => none
      | some (v₂, b₂) => op1 (fun v => P.fn f [v₁, v₂, v]) (evalE P e₃ s b₂)
  | .call4 f e₁ e₂ e₃ e₄, s, b => match evalE P e₁ s b with
    | none => none
    | some (v₁, b₁) => match evalE P e₂ s b₁ with
      | none => none
      | some (v₂, b₂) => match evalE P e₃ s b₂ with
        | none => none
        | some (v₃, b₃) => op1 (fun v => P.fn f [v₁, v₂, v₃, v]) (evalE P e₄ s b₃)
  | .len e, s, b => op1 (vList fun x => some (.int x.length)) (evalE P e s b)
  | .min2 l r, s, b => match evalE P l s b with
    | none => none
    | some (u, b₁) => op1 (vMin u) (evalE P r s b₁)
  | .sum e, s, b => op1 vSum (evalE P e s b)
  | .toInt e, s, b => op1 vToInt (evalE P e s b)
  | .toList e, s, b => op1 (vList fun x => some (.il x)) (evalE P e s b)
  | .range1 e, s, b => op1 (fun v => vRange (.int 0) v (.int 1)) (evalE P e s b)
  | .range3 l r t, s, b => match evalE P l s b with
    | none => none
    | some (u, b₁) => match evalE P r s b₁ with
      | none => none
      | some (v, b₂) => op1 (vRange u v) (evalE P t s b₂)
  | .zip l r, s, b => match evalE P l s b with
    | none => none
    | some (u, b₁) => op1 (vZip u) (evalE P r s b₁)
  | .enum e, s, b => op1 vEnum (evalE P e s b)
  | .comp rw two src cond elt caps, s, b => match evalE P src s b with
    | none => none
    | some (u, b₁) => match itemsOf two u with
      | none => none
      | some its => if decide (its.length ≤ cap) && elt.fresh then
          match compLoop (fun e b' => match evalE P cond (e ++ caps.map (gt s)) b' with
            | some (.bool true, b₂) => (match evalE P elt (e ++ caps.map (gt s)) b₂ with | some (v, b₃) => if eltOk v then some (some v, b₃) else none | none => none)
            | some (.bool false, b₂) => some (none, b₂)
            | _ => none) its b₁ with
          | none => none
          | some (vs, b₂) => (pack rw vs).map (·, b₂)
        else none
  | .take x e, s, b => match gt s x with
    | some .box => (match evalE P e s b with
      | some (.int m, some bx) => (P.take m bx).map fun r => (.int r.1, some r.2)
      | _ => none)
    | _ => none
  | .drawn x e, s, b => match gt s x with
    | some .box => (match evalE P e s b with
      | some (.int m, some bx) => (P.drawn m bx).map fun r => (.il r.1, some r.2)
      | _ => none)
    | _ => none
  | .box1 x, s, b => match gt s x with
    | some .box => (match b with
      | some (l, k) => some (.int k, some (l, k))
      | none => none)
    | _ => none

inductive S where
  | skip
  | seq (a b : S)
  | asg (x : Nat) (e : E)
  | asgC (x : Nat) (e : E)
  | asg2 (x y : Nat) (e₁ e₂ : E)
  | asg3 (x y z : Nat) (e₁ e₂ e₃ : E)
  | aug (x : Nat) (o : Op) (e : E)
  | setI (x : Nat) (i e : E)
  | augI (x : Nat) (i : E) (o : Op) (e : E)
  | app (x : Nat) (e : E)
  | pop (x : Nat)
  | setB (x : Nat) (e : E)
  | ite (c : E) (a b : S)
  | while (c : E) (a : S)
  | for1 (x : Nat) (src : E) (a : S)
  | forV (x y : Nat) (a : S)
  | forZ (x y : Nat) (l r : Nat) (a : S)
  | forN (x y : Nat) (l : Nat) (a : S)
  | ret (e : E)
  | stuck

inductive Fl where
  | next
  | ret (v : V)

noncomputable abbrev St := Ev × Bx
noncomputable abbrev Rt := Option (St × Fl)

noncomputable def loopW (c : St → Option (Bool × St)) (f : St → Rt) : Nat → St → Rt
  | 0, _ => none
  | n + 1, s => match c s with
    | none => none
    | some (false, s₁) => some (s₁, .next)
    | some (true, s₁) => match f s₁ with
      | none => none
      | some (s₂, .next) => loopW c f n s₂
      | some (s₂, .ret v) => some (s₂, .ret v)

noncomputable def loopF {α : Type} (f : α → St → Rt) : List α → St → Rt
  | [], s => some (s, .next)
  | a :: r, s => match f a s with
    | none => none
    | some (s₁, .next) => loopF f r s₁
    | some (s₁, .ret v) => some (s₁, .ret v)

/-- the names whose lists a statement changes -/
noncomputable def S.mut : S → List Nat
  | .seq a b => a.mut ++ b.mut
  | .setI x _ _ | .augI x _ _ _ | .app x _ | .pop x => [x]
  | .ite _ a b => a.mut ++ b.mut
  | .while _ a | .for1 _ _ a | .forV _ _ a | .forZ _ _ _ _ a | .forN _ _ _ a => a.mut
  | _ => []

noncomputable def isScalar : V → Bool
  | .int _ | .bool _ => true
  | _ => false

/-- an own name -/
noncomputable def ownVar (M : Nat → Bool) (e : E) : Bool := if h : e.ctorIdx = 2 then E.var.elim e h M else false
noncomputable def V.isIl : V → Bool
  | .il _ => true
  | _ => false

noncomputable def retOk (M : Nat → Bool) (e : E) (v : V) : Bool := isScalar v || e.fresh || (v.isIl && ownVar M e)

noncomputable def setV (x : Nat) (v : V) (s : St) : St := (pt s.1 x v, s.2)
noncomputable def inEv (x : Nat) (s : Ev) : Bool := decide (x < s.length)

/-- a name may be bound to the value of an expression: an int, a bool, or a new list (an own name's: of ints) -/
noncomputable def asgOk (M : Nat → Bool) (x : Nat) (e : E) (v : V) : Bool :=
  match v with
  | .int _ | .bool _ => true
  | .il _ => e.fresh
  | .rl _ => e.fresh && !M x
  | _ => false

noncomputable def execS (P : Fns) (N : Nat) (M : Nat → Bool) : S → St → Rt
  | .skip, s => some (s, .next)
  | .seq a b, s => match execS P N M a s with
    | none => none
    | some (s₁, .next) => execS P N M b s₁
    | some (s₁, .ret v) => some (s₁, .ret v)
  | .asg x e, s => match evalE P e s.1 s.2 with
    | none => none
    | some (v, b) => if asgOk M x e v && inEv x s.1 then some ((pt s.1 x v, b), .next) else none
  | .asgC x e, s => match evalE P e s.1 s.2 with
    | none => none
    | some (v, b) => if asgOk M x e v && inEv x s.1 then some ((pt s.1 x v, b), .next) else none
  | .asg2 x y e₁ e₂, s => match evalE P e₁ s.1 s.2 with
    | none => none
    | some (v₁, b₁) => match evalE P e₂ s.1 b₁ with
      | none => none
      | some (v₂, b₂) => if asgOk M x e₁ v₁ && asgOk M y e₂ v₂ && inEv x s.1 && inEv y s.1 && x != y then some ((pt (pt s.1 x v₁) y v₂, b₂), .next) else none
  | .asg3 x y z e₁ e₂ e₃, s => match evalE P e₁ s.1 s.2 with
    | none => none
    | some (v₁, b₁) => match evalE P e₂ s.1 b₁ with
      | none => none
      | some (v₂, b₂) => match evalE P e₃ s.1 b₂ with
        | none => none
        | some (v₃, b₃) => if asgOk M x e₁ v₁ && asgOk M y e₂ v₂ && asgOk M z e₃ v₃ && inEv x s.1 && inEv y s.1 && inEv z s.1 && x != y && x != z && y != z then some ((pt (pt (pt s.1 x v₁) y v₂) z v₃, b₃), .next) else none
  | .aug x o e, s => match gt s.1 x with
    | none => none
    | some u => match evalE P e s.1 s.2 with
      | none => none
      | some (v, b) => (vBin o u v).map fun r => ((pt s.1 x r, b), .next)
  | .setI x i e, s => match evalE P e s.1 s.2 with
    | some (.int v, b) => (match gt s.1 x with
      | some (.il l) => (match evalE P i s.1 b with
        | some (.int k, b₁) => if M x && decide (0 ≤ k ∧ k.toNat < l.length ∧ l.length ≤ cap) then some ((pt s.1 x (.il (l.set k.toNat v)), b₁), .next) else none
        | _ => none)
      | _ => none)
    | _ => none
  | .augI x i o e, s => match gt s.1 x with
      | some (.il l) => (match evalE P i s.1 s.2 with
        | some (.int k, b₁) => if M x && decide (0 ≤ k ∧ k.toNat < l.length ∧ l.length ≤ cap) then
            (match evalE P e s.1 b₁ with
            | some (.int v, b₂) => (opI o (l.getD k.toNat 0) v).map fun r => ((pt s.1 x (.il (l.set k.toNat r)), b₂), .next)
            | _ => none)
          else none
        | _ => none)
      | _ => none
  | .app x e, s => match gt s.1 x with
      | some (.il l) => (match evalE P e s.1 s.2 with
        | some (.int v, b) => if M x && decide (l.length < cap) then some ((pt s.1 x (.il (l ++ [v])), b), .next) else none
        | _ => none)
      | _ => none
  | .pop x, s => match gt s.1 x with
      | some (.il l) => if M x && decide (0 < l.length ∧ l.length ≤ cap) then some ((pt s.1 x (.il l.dropLast), s.2), .next) else none
      | _ => none
  | .setB x e, s => match gt s.1 x with
    | some .box => (match evalE P e s.1 s.2 with
      | some (.int v, some (l, _)) => some ((s.1, some (l, v)), .next)
      | _ => none)
    | _ => none
  | .ite c a b, s => match evalE P c s.1 s.2 with
    | some (.bool true, b₁) => execS P N M a (s.1, b₁)
    | some (.bool false, b₁) => execS P N M b (s.1, b₁)
    | _ => none
  | .while c a, s => loopW (fun s => match evalE P c s.1 s.2 with | some (.bool t, b) => some (t, (s.1, b)) | _ => none) (execS P N M a) N s
  | .for1 x src a, s => match evalE P src s.1 s.2 with
    | some (.il l, b) => if src.fresh && inEv x s.1 then loopF (fun i s => execS P N M a (setV x (.int i) s)) l (s.1, b) else none
    | some (.rng l, b) => if src.fresh && inEv x s.1 then loopF (fun i s => execS P N M a (setV x (.int i) s)) l (s.1, b) else none
    | _ => none
  | .forV x y a, s => match gt s.1 y with
    | some (.il l) => if !a.mut.contains y && inEv x s.1 && x != y then loopF (fun i s => execS P N M a (setV x (.int i) s)) l s else none
    | _ => none
  | .forZ x y p q a, s => match gt s.1 p, gt s.1 q with
    | some (.il l), some (.il r) => if !a.mut.contains p && !a.mut.contains q && inEv x s.1 && inEv y s.1 && x != y && decide (l.length ≤ cap) && decide (r.length ≤ cap) then
        loopF (fun i s => execS P N M a (setV y (.int i.2) (setV x (.int i.1) s))) (l.zip r) s else none
    | _, _ => none
  | .forN x y p a, s => match gt s.1 p with
    | some (.il l) => if !a.mut.contains p && inEv x s.1 && inEv y s.1 && x != y && decide (l.length ≤ cap) then
        loopF (fun i s => execS P N M a (setV y (.int i.2) (setV x (.int i.1) s))) (enumL l) s else none
    | _ => none
  | .ret e, s => match evalE P e s.1 s.2 with
    | none => none
    | some (v, b) => if retOk M e v then some ((s.1, b), .ret v) else none
  | .stuck, _ => none

end NN

/-! what a value of the small language is in the heap -/
namespace NN
open PySem PySem.W PyProof.Rows

noncomputable abbrev Bxa := Option (Addr × Addr)
noncomputable def isBx (B : Bxa) (b : Addr) : Prop := ∃ p, B = some p ∧ (b = p.1 ∨ b = p.2)

noncomputable def IntL (h : Heap) (a : Addr) (l : List Int) : Prop := ∃ vs n, IsL h a vs.toArray n ∧ IntsAre vs l

noncomputable def ZipAt (h : Heap) (G : Addr → Prop) (z l1 l2 : Addr) : Prop := ∃ TI TO i1 i2, ZipApart z TI TO i1 i2 l1 l2 ∧ IsZip h z TI TO .none ∧ IsPair h TI (.ref i1) (.ref i2) ∧ (∃ a b, IsPair h TO a b) ∧ h.IsListIter i1 l1 0 ∧ h.IsListIter i2 l2 0 ∧
  ∀ b ∈ [z, TI, TO, i1, i2], G b
noncomputable def EnumAt (h : Heap) (G : Addr → Prop) (e l : Addr) : Prop := ∃ it, e ≠ it ∧ l ≠ e ∧ l ≠ it ∧ IsEnum h e it 0 .none ∧ h.IsListIter it l 0 ∧ ∀ b ∈ [e, it], G b

noncomputable def Rep (B : Bxa) (h : Heap) (G : Addr → Prop) : V → Value → Prop
  | .int i, x => ∃ t, x = .int i t
  | .bool c, x => x = .bool c
  | .il l, x => ∃ a, x = .ref a ∧ G a ∧ IntL h a l
  | .rl ls, x => ∃ a vs n, x = .ref a ∧ G a ∧ IsL h a vs.toArray n ∧ Paired (fun y l => ∃ b, y = Value.ref b ∧ G b ∧ IntL h b l) vs ls
  | .box, x => ∃ p, B = some p ∧ x = .ref p.1
  | .arg l, x => ∃ a vs, x = .ref a ∧ G a ∧ h.IsList a vs.toArray ∧ IntsAre vs l
  | .rng l, x => ∃ r a b c t u v, ∃ n : Nat, x = .ref r ∧ G r ∧ IsRange h r a b c t u v ∧ c ≠ 0 ∧ Builtin.Range.small a b c = true ∧ Builtin.Range.rangeSize a b c = (n : Int) ∧ l = rangeL a c n
  | .prs l, x => ∃ z, x = .ref z ∧ ((∃ l1 l2 xs ys, ZipAt h G z l1 l2 ∧ IntL h l1 xs ∧ IntL h l2 ys ∧ ¬ isBx B l1 ∧ ¬ isBx B l2 ∧ l = xs.zip ys) ∨ (∃ l1 xs, EnumAt h G z l1 ∧ IntL h l1 xs ∧ ¬ isBx B l1 ∧ l = enumL xs))

noncomputable def BoxOk (B : Bxa) (h : Heap) : Bx → Prop
  | none => B = none
  | some (l, k) => ∃ aB aL t vs n m, B = some (aB, aL) ∧ aB ≠ aL ∧ IsL h aB #[.ref aL, .int k t] n ∧ IsL h aL vs.toArray m ∧ IntsAre vs l

/-- one state after another: the heap and the tokens alone have moved, all but the box stands -/
noncomputable def Kp (B : Bxa) (s s' : Shared) : Prop := (∃ h tk, s' = { s with heap := h, toks := tk }) ∧ ∀ b o, ¬ isBx B b → s.heap.get? b = some o → s'.heap.get? b = some o

theorem Kp.refl (B : Bxa) (s : Shared) : Kp B s s := ⟨⟨_, _, rfl⟩, fun _ _ _ e => e⟩
theorem Kp.trans {B : Bxa} {s₁ s₂ s₃ : Shared} (x : Kp B s₁ s₂) (y : Kp B s₂ s₃) : Kp B s₁ s₃ := by
  obtain ⟨⟨h, tk, rfl⟩, x⟩ := x
  obtain ⟨⟨h', tk', rfl⟩, y⟩ := y
  exact ⟨⟨_, _, rfl⟩, fun b o nb e => y b o nb (x b o nb e)⟩
theorem isBx_none (b : Addr) : ¬ isBx none b := fun ⟨_, e, _⟩ => by cases e
theorem Kp.none {s s' : Shared} (x : Kp Option.none s s') (B : Bxa) : Kp B s s' := ⟨x.1, fun b o _ e => x.2 b o (isBx_none b) e⟩
theorem Kp.get {s s' : Shared} (x : Kp Option.none s s') {b : Addr} {o : Obj} (e : s.heap.get? b = some o) : s'.heap.get? b = some o := x.2 b o (isBx_none b) e
theorem Kp.tok (B : Bxa) (s : Shared) (t : Nat) : Kp B s { s with toks := t } := ⟨⟨_, _, rfl⟩, fun _ _ _ e => e⟩
theorem Kp.push (B : Bxa) (s : Shared) (o : Obj) : Kp B s { s with heap := s.heap.push o } := ⟨⟨_, _, rfl⟩, fun _ _ _ e => Heap.get?_push_of_some _ e⟩
theorem Kp.of_keep {B : Bxa} {s : Shared} {h : Heap} {tk : Nat} (hk : ∀ b o, s.heap.get? b = some o → h.get? b = some o) : Kp B s { s with heap := h, toks := tk } := ⟨⟨_, _, rfl⟩, fun b o _ e => hk b o e⟩

theorem IntL.at {h h' : Heap} {a : Addr} {l : List Int} (x : IntL h a l) (e : ∀ o, h.get? a = some o → h'.get? a = some o) : IntL h' a l :=
  let ⟨vs, n, i, r⟩ := x; ⟨vs, n, e _ i, r⟩
theorem IntL.has {h : Heap} {a : Addr} {l : List Int} (x : IntL h a l) : ∃ o, h.get? a = some o := let ⟨_, _, i, _⟩ := x; ⟨_, i⟩
theorem IntL.isList {h : Heap} {a : Addr} {l : List Int} (x : IntL h a l) : ∃ vs, h.IsList a vs.toArray ∧ IntsAre vs l := let ⟨vs, _, i, r⟩ := x; ⟨vs, i.isList, r⟩

theorem ints_readsAll {h : Heap} {vs : List Value} {l : List Int} (x : IntsAre vs l) : ReadsAll h vs (l.map PyData.int) [] := by
  induction x with
  | nil => exact .nil
  | cons n t _ ih => exact .cons (as := []) (Reads.int n t) ih
theorem ints_reads {h : Heap} {a : Addr} {vs : List Value} {l : List Int} (i : h.IsList a vs.toArray) (x : IntsAre vs l) : Reads h (.ref a) (.list (l.map PyData.int)) [a] := by
  obtain ⟨o, ho, hc, n, hd⟩ := i
  exact .list ho hc hd (ints_readsAll x)
theorem ints_put {x : Int} {u : Tok} {vs : List Value} {l : List Int} (h : IntsAre vs l) : ∀ j : Nat, IntsAre (vs.set j (.int x u)) (l.set j x) := by
  induction h with
  | nil => exact fun _ => .nil
  | cons n t h ih => exact fun j => match j with | 0 => .cons x u h | j + 1 => .cons n t (ih j)

theorem ListIter.at {h h' : Heap} {a l : Addr} {i : Nat} (x : h.IsListIter a l i) (e : ∀ o, h.get? a = some o → h'.get? a = some o) : h'.IsListIter a l i := Heap.IsListIter.at x e

theorem Paired.mono' {α β : Type} {F F' : α → β → Prop} (hm : ∀ a b, F a b → F' a b) {l₁ : List α} {l₂ : List β} (x : Paired F l₁ l₂) : Paired F' l₁ l₂ := by
  induction x with
  | nil => exact .nil
  | cons h _ ih => exact .cons (hm _ _ h) ih

theorem BoxOk.has {B : Bxa} {h : Heap} {bx : Bx} (x : BoxOk B h bx) {b : Addr} (hb : isBx B b) : ∃ o, h.get? b = some o := by
  obtain ⟨p, rfl, hb⟩ := hb
  cases bx with
  | none => cases x
  | some q =>
    obtain ⟨l, k⟩ := q
    obtain ⟨aB, aL, t, vs, n, m, e, _, i1, i2, _⟩ := x
    cases e
    rcases hb with rfl | rfl
    · exact ⟨_, i1⟩
    · exact ⟨_, i2⟩

theorem BoxOk.keeps {B : Bxa} {h h' : Heap} {bx : Bx} (x : BoxOk B h bx) (hk : ∀ b o, h.get? b = some o → h'.get? b = some o) : BoxOk B h' bx := by
  cases bx with
  | none => exact x
  | some q =>
    obtain ⟨l, k⟩ := q
    obtain ⟨aB, aL, t, vs, n, m, e, ne, i1, i2, r⟩ := x
    exact ⟨aB, aL, t, vs, n, m, e, ne, hk _ _ i1, hk _ _ i2, r⟩

/-- what stands in the region where nothing has changed -/
theorem Rep.keeps {B : Bxa} {h h' : Heap} {G G' : Addr → Prop} {v : V} {x : Value} (r : Rep B h G v x) (hp : ∀ l, v ≠ .prs l) (hk : ∀ b o, G b → h.get? b = some o → h'.get? b = some o) (hG : ∀ b, G b → (∃ o, h.get? b = some o) → G' b) : Rep B h' G' v x := by
  cases v with
  | int i => exact r
  | bool c => exact r
  | il l =>
    obtain ⟨a, e, g, il⟩ := r
    exact ⟨a, e, hG a g il.has, il.at fun o q => hk a o g q⟩
  | rl ls =>
    obtain ⟨a, vs, n, e, g, i, p⟩ := r
    exact ⟨a, vs, n, e, hG a g ⟨_, i⟩, hk a _ g i, Paired.mono' (fun _ _ ⟨b, e, g, il⟩ => ⟨b, e, hG b g il.has, il.at fun o q => hk b o g q⟩) p⟩
  | box => exact r
  | arg l =>
    obtain ⟨a, vs, e, g, i, p⟩ := r
    exact ⟨a, vs, e, hG a g (let ⟨o, q, _⟩ := i; ⟨o, q⟩), i.at fun o q => hk a o g q, p⟩
  | prs l => exact absurd rfl (hp l)
  | rng l =>
    obtain ⟨r, a, b, c, t, u, v, n, e, g, i, q⟩ := r
    exact ⟨r, a, b, c, t, u, v, n, e, hG r g ⟨_, i⟩, hk r _ g i, q⟩

theorem Rep.weaken {B : Bxa} {h : Heap} {G G' : Addr → Prop} {v : V} {x : Value} (r : Rep B h G v x) (hG : ∀ b, G b → G' b) : Rep B h G' v x := by
  cases v with
  | prs l =>
    obtain ⟨z, e, r⟩ := r
    refine ⟨z, e, ?_⟩
    rcases r with ⟨l1, l2, xs, ys, ⟨TI, TO, i1, i2, a1, a2, a3, a4, a5, a6, g⟩, r⟩ | ⟨l1, xs, ⟨it, a1, a2, a3, a4, a5, g⟩, r⟩
    · exact .inl ⟨l1, l2, xs, ys, ⟨TI, TO, i1, i2, a1, a2, a3, a4, a5, a6, fun b m => hG b (g b m)⟩, r⟩
    · exact .inr ⟨l1, xs, ⟨it, a1, a2, a3, a4, a5, fun b m => hG b (g b m)⟩, r⟩
  | _ => exact r.keeps (fun _ e => by cases e) (fun _ _ _ e => e) fun b g _ => hG b g

noncomputable def plainV : V → Bool
  | .box | .prs _ => false
  | _ => true
theorem Rep.noBox {B B' : Bxa} {h : Heap} {G : Addr → Prop} {v : V} {x : Value} (r : Rep B h G v x) (hn : plainV v = true) : Rep B' h G v x := by
  cases v <;> first | exact r | cases hn

noncomputable def RdAt (B : Bxa) (env : Env) (h : Heap) (x : Str) (val : Value) : Prop :=
  (env.kindOf x = some .local ∧ (∃ m, h.Ns env.locals m ∧ m x = some val) ∧ ¬ isBx B env.locals) ∨
  (∃ c, (env.kindOf x = some .cell) ∧ env.cells.lookup x = some c ∧ h.IsCell c (some val) ∧ ¬ isBx B c)

theorem Ns.at'' {h h' : Heap} {a : Addr} {m : Str → Option Value} (hn : h.Ns a m) (e : ∀ o, h.get? a = some o → h'.get? a = some o) : h'.Ns a m := Heap.Ns.at' hn e

theorem RdAt.keeps {B : Bxa} {env : Env} {h h' : Heap} {x : Str} {val : Value} (r : RdAt B env h x val) (hk : ∀ b o, ¬ isBx B b → h.get? b = some o → h'.get? b = some o) : RdAt B env h' x val := by
  rcases r with ⟨k, ⟨m, hn, hm⟩, nb⟩ | ⟨c, k, hc, ⟨o, ho, hd⟩, nb⟩
  · exact .inl ⟨k, ⟨m, hn.at' fun o e => hk _ o nb e, hm⟩, nb⟩
  · exact .inr ⟨c, k, hc, ⟨o, hk _ o nb ho, hd⟩, nb⟩

structure EnvOk (env : Env) : Prop where
  kind : env.scope.kind = .function
  glob : env.globals = mainGlobals
  blt : env.builtins = builtinsNs

noncomputable def VarsOk (B : Bxa) (env : Env) (names : List Str) (σ : Ev) (h : Heap) : Prop :=
  ∀ i v, gt σ i = some v → (∀ l, v ≠ .prs l) ∧ ∃ x val, names[i]? = some x ∧ RdAt B env h x val ∧ Rep B h (fun b => ¬ isBx B b) v val

theorem VarsOk.keeps {B : Bxa} {env : Env} {names : List Str} {σ : Ev} {h h' : Heap} (x : VarsOk B env names σ h) (hk : ∀ b o, ¬ isBx B b → h.get? b = some o → h'.get? b = some o) : VarsOk B env names σ h' := fun i v e => by
  obtain ⟨hp, n, val, hn, hr, hv⟩ := x i v e
  exact ⟨hp, n, val, hn, hr.keeps hk, hv.keeps hp (fun b o g e => hk b o g e) fun _ g _ => g⟩

structure Room (A : Around) (k : Nat) : Prop where
  hd : A.handled = none
  depth : A.depth + k < 900
  units : A.units + 10 * k < 9800

theorem Room.le {A : Around} {k j : Nat} (r : Room A k) (h : j ≤ k) : Room A j := ⟨r.hd, by have := r.depth; (first | lia | omega), by have := r.units; (first | lia | omega)⟩

/-- the text's own defs and the built-in names, in the base heap -/
structure Base (hB : Heap) (fnA : Str → Option Addr) : Prop where
  ns : ∃ mg mb, hB.Ns mainGlobals mg ∧ hB.Ns builtinsNs mb ∧ (∀ f a, fnA f = some a → mg f = some (.ref a)) ∧
    (∀ x v, (x, v) ∈ ([("len", .builtin "len"), ("min", .builtin "min"), ("sum", .builtin "sum"), ("int", .type "int"), ("list", .type "list"), ("range", .type "range"), ("zip", .type "zip"), ("enumerate", .type "enumerate")] : List (Str × Value)) → mg x = none ∧ mb x = some v)
  nolimit : hB.NoLimit
  fn : ∀ f a, fnA f = some a → ∃ o fd, hB.get? a = some o ∧ o.data = .func fd

noncomputable def SubH (h h' : Heap) : Prop := ∀ b o, h.get? b = some o → h'.get? b = some o

noncomputable def Contract (prog : Program) (w : PySem.World) (hB : Heap) (k : Nat) (a : Addr) (vs : List V) (r : V) : Prop :=
  ∀ (A : Around) (s : Shared) (args : List Value) (R : Result → Shared → Prop), Room A k → SubH hB s.heap → Paired (fun v x => Rep none s.heap (fun _ => True) v x) vs args →
    (∀ val s', Kp none s s' → Rep none s'.heap (fun b => s.heap.get? b = none) r val → R (.ok (.ret val)) s') → codeAny (model prog w) A (.call (.ref a) ⟨args, []⟩) R s

noncomputable def ContractB (prog : Program) (w : PySem.World) (hB : Heap) (k : Nat) (a : Addr) (m : Int) (bx : List Int × Int) (r : V) (bx' : List Int × Int) : Prop :=
  ∀ (A : Around) (B : Bxa) (s : Shared) (p : Addr × Addr) (t : Tok) (R : Result → Shared → Prop), Room A k → SubH hB s.heap → B = some p → BoxOk B s.heap (some bx) → (∀ b, isBx B b → hB.get? b = none) →
    (∀ val s', Kp B s s' → BoxOk B s'.heap (some bx') → Rep B s'.heap (fun b => ¬ isBx B b ∧ s.heap.get? b = none) r val → R (.ok (.ret val)) s') → codeAny (model prog w) A (.call (.ref a) ⟨[.ref p.1, .int m t], []⟩) R s

structure FnsOk (prog : Program) (w : PySem.World) (hB : Heap) (fnA : Str → Option Addr) (k : Nat) (P : Fns) : Prop where
  fn : ∀ f vs r, P.fn f vs = some r → (∀ v ∈ vs, plainV v = true) ∧ plainV r = true ∧ ∃ a, fnA f = some a ∧ Contract prog w hB k a vs r
  take : ∀ m bx r bx', P.take m bx = some (r, bx') → ∃ a, fnA "_law_take" = some a ∧ ContractB prog w hB k a m bx (.int r) bx'
  drawn : ∀ m bx r bx', P.drawn m bx = some (r, bx') → ∃ a, fnA "_law_drawn" = some a ∧ ContractB prog w hB k a m bx (.il r) bx'

end NN

/-! patterns on the program's trees, one level each -/
namespace NN
open PySem

theorem ff {C : Prop} (h : false = true) : C := nomatch h
theorem dt {c : Prop} [i : Decidable c] {f : c → Bool} (h : (if x : c then f x else false) = true) : c := by
  cases i with
  | isTrue x => exact x
  | isFalse _ => cases h

noncomputable def onName (p : Expr) (f : Str → Pos → Bool) : Bool := if h : p.ctorIdx = 23 then Expr.Name.elim p h fun x q => f x q else false
noncomputable def onConst (p : Expr) (f : Const → Bool) : Bool := if h : p.ctorIdx = 19 then Expr.Constant.elim p h fun c _ _ => f c else false
noncomputable def onUn (p : Expr) (f : UnaryOp → Expr → Bool) : Bool := if h : p.ctorIdx = 3 then Expr.UnaryOp.elim p h fun o a _ => f o a else false
noncomputable def onBin (p : Expr) (f : Expr → Operator → Expr → Bool) : Bool := if h : p.ctorIdx = 2 then Expr.BinOp.elim p h fun a o b _ => f a o b else false
noncomputable def onCmp (p : Expr) (f : Expr → List CmpOp → List Expr → Bool) : Bool := if h : p.ctorIdx = 15 then Expr.Compare.elim p h fun a o b _ => f a o b else false
noncomputable def onBoolOp (p : Expr) (f : BoolOp → List Expr → Pos → Bool) : Bool := if h : p.ctorIdx = 0 then Expr.BoolOp.elim p h fun o es q => f o es q else false
noncomputable def onIfE (p : Expr) (f : Expr → Expr → Expr → Bool) : Bool := if h : p.ctorIdx = 5 then Expr.IfExp.elim p h fun a b c _ => f a b c else false
noncomputable def onSub (p : Expr) (f : Expr → Expr → Bool) : Bool := if h : p.ctorIdx = 21 then Expr.Subscript.elim p h fun a b _ => f a b else false
noncomputable def onSlice (p : Expr) (f : Option Expr → Option Expr → Option Expr → Bool) : Bool := if h : p.ctorIdx = 26 then Expr.Slice.elim p h fun a b c _ => f a b c else false
noncomputable def onList (p : Expr) (f : List Expr → Bool) : Bool := if h : p.ctorIdx = 24 then Expr.List.elim p h fun es _ => f es else false
noncomputable def onTup (p : Expr) (f : List Expr → Bool) : Bool := if h : p.ctorIdx = 25 then Expr.Tuple.elim p h fun es _ _ => f es else false
noncomputable def onCall (p : Expr) (f : Expr → List Expr → List Keyword → Pos → Bool) : Bool := if h : p.ctorIdx = 16 then Expr.Call.elim p h fun g as ks q => f g as ks q else false
noncomputable def onAttr (p : Expr) (f : Expr → Str → Pos → Bool) : Bool := if h : p.ctorIdx = 20 then Expr.Attribute.elim p h fun a n q => f a n q else false
noncomputable def onLC (p : Expr) (f : Expr → List Comprehension → Scope → Pos → Bool) : Bool := if h : p.ctorIdx = 8 then Expr.ListComp.elim p h fun e gs sc q => f e gs sc q else false

noncomputable def onInt (c : Const) (f : Int → Bool) : Bool := if h : c.ctorIdx = 2 then Const.int.elim c h fun i => f i else false
noncomputable def onBoolC (c : Const) (f : Bool → Bool) : Bool := if h : c.ctorIdx = 1 then Const.bool.elim c h fun i => f i else false
noncomputable def onCons {α : Type} (l : List α) (f : α → List α → Bool) : Bool := match l with | a :: r => f a r | [] => false
noncomputable def onNil {α : Type} (l : List α) (b : Bool) : Bool := match l with | [] => b | _ :: _ => false
noncomputable def on1 {α : Type} (l : List α) (f : α → Bool) : Bool := onCons l fun a r => onNil r (f a)
noncomputable def on2 {α : Type} (l : List α) (f : α → α → Bool) : Bool := onCons l fun a r => on1 r (f a)
noncomputable def on3 {α : Type} (l : List α) (f : α → α → α → Bool) : Bool := onCons l fun a r => on2 r (f a)
noncomputable def on4 {α : Type} (l : List α) (f : α → α → α → α → Bool) : Bool := onCons l fun a r => on3 r (f a)
noncomputable def onSome {α : Type} (l : Option α) (f : α → Bool) : Bool := match l with | some a => f a | none => false
noncomputable def onNone {α : Type} (l : Option α) (b : Bool) : Bool := match l with | some _ => false | none => b

section
variable {C : Expr → Prop} {p : Expr}
@[elab_as_elim] theorem onName_e {f} (h : onName p f = true) (k : ∀ x q, f x q = true → C (.Name x q)) : C p := Expr.Name.elim (motive_1 := fun p => onName p f = true → C p) p (dt h) (fun a b h => k a b h) h
@[elab_as_elim] theorem onConst_e {f} (h : onConst p f = true) (k : ∀ c n q, f c = true → C (.Constant c n q)) : C p := Expr.Constant.elim (motive_1 := fun p => onConst p f = true → C p) p (dt h) (fun a b c h => k a b c h) h
@[elab_as_elim] theorem onUn_e {f} (h : onUn p f = true) (k : ∀ o a q, f o a = true → C (.UnaryOp o a q)) : C p := Expr.UnaryOp.elim (motive_1 := fun p => onUn p f = true → C p) p (dt h) (fun a b c h => k a b c h) h
@[elab_as_elim] theorem onBin_e {f} (h : onBin p f = true) (k : ∀ a o b q, f a o b = true → C (.BinOp a o b q)) : C p := Expr.BinOp.elim (motive_1 := fun p => onBin p f = true → C p) p (dt h) (fun a b c d h => k a b c d h) h
@[elab_as_elim] theorem onCmp_e {f} (h : onCmp p f = true) (k : ∀ a o b q, f a o b = true → C (.Compare a o b q)) : C p := Expr.Compare.elim (motive_1 := fun p => onCmp p f = true → C p) p (dt h) (fun a b c d h => k a b c d h) h
@[elab_as_elim] theorem onBoolOp_e {f} (h : onBoolOp p f = true) (k : ∀ o es q, f o es q = true → C (.BoolOp o es q)) : C p := Expr.BoolOp.elim (motive_1 := fun p => onBoolOp p f = true → C p) p (dt h) (fun a b c h => k a b c h) h
@[elab_as_elim] theorem onIfE_e {f} (h : onIfE p f = true) (k : ∀ a b c q, f a b c = true → C (.IfExp a b c q)) : C p := Expr.IfExp.elim (motive_1 := fun p => onIfE p f = true → C p) p (dt h) (fun a b c d h => k a b c d h) h
@[elab_as_elim] theorem onSub_e {f} (h : onSub p f = true) (k : ∀ a b q, f a b = true → C (.Subscript a b q)) : C p := Expr.Subscript.elim (motive_1 := fun p => onSub p f = true → C p) p (dt h) (fun a b c h => k a b c h) h
@[elab_as_elim] theorem onSlice_e {f} (h : onSlice p f = true) (k : ∀ a b c q, f a b c = true → C (.Slice a b c q)) : C p := Expr.Slice.elim (motive_1 := fun p => onSlice p f = true → C p) p (dt h) (fun a b c d h => k a b c d h) h
@[elab_as_elim] theorem onList_e {f} (h : onList p f = true) (k : ∀ es q, f es = true → C (.List es q)) : C p := Expr.List.elim (motive_1 := fun p => onList p f = true → C p) p (dt h) (fun a b h => k a b h) h
@[elab_as_elim] theorem onTup_e {f} (h : onTup p f = true) (k : ∀ es n q, f es = true → C (.Tuple es n q)) : C p := Expr.Tuple.elim (motive_1 := fun p => onTup p f = true → C p) p (dt h) (fun a b c h => k a b c h) h
@[elab_as_elim] theorem onCall_e {f} (h : onCall p f = true) (k : ∀ g as ks q, f g as ks q = true → C (.Call g as ks q)) : C p := Expr.Call.elim (motive_1 := fun p => onCall p f = true → C p) p (dt h) (fun a b c d h => k a b c d h) h
@[elab_as_elim] theorem onAttr_e {f} (h : onAttr p f = true) (k : ∀ a n q, f a n q = true → C (.Attribute a n q)) : C p := Expr.Attribute.elim (motive_1 := fun p => onAttr p f = true → C p) p (dt h) (fun a b c h => k a b c h) h
@[elab_as_elim] theorem onLC_e {f} (h : onLC p f = true) (k : ∀ e gs sc q, f e gs sc q = true → C (.ListComp e gs sc q)) : C p := Expr.ListComp.elim (motive_1 := fun p => onLC p f = true → C p) p (dt h) (fun a b c d h => k a b c d h) h
end
@[elab_as_elim] theorem onInt_e {C : Const → Prop} {c : Const} {f} (h : onInt c f = true) (k : ∀ i, f i = true → C (.int i)) : C c := Const.int.elim (motive := fun p => onInt p f = true → C p) c (dt h) (fun a h => k a h) h
@[elab_as_elim] theorem onBoolC_e {C : Const → Prop} {c : Const} {f} (h : onBoolC c f = true) (k : ∀ i, f i = true → C (.bool i)) : C c := Const.bool.elim (motive := fun p => onBoolC p f = true → C p) c (dt h) (fun a h => k a h) h
section
variable {α : Type} {C : List α → Prop} {D : Option α → Prop} {l : List α} {o : Option α}
@[elab_as_elim] theorem onCons_e {f} (h : onCons l f = true) (k : ∀ a r, f a r = true → C (a :: r)) : C l := by cases l with | nil => cases h | cons a r => exact k _ _ h
@[elab_as_elim] theorem onNil_e {b} (h : onNil l b = true) (k : b = true → C []) : C l := by cases l with | nil => exact k h | cons a r => cases h
@[elab_as_elim] theorem on1_e {f} (h : on1 l f = true) (k : ∀ a, f a = true → C [a]) : C l := onCons_e h fun a _ h => onNil_e (C := fun r => C (a :: r)) h (k a)
@[elab_as_elim] theorem on2_e {f} (h : on2 l f = true) (k : ∀ a b, f a b = true → C [a, b]) : C l := onCons_e h fun a _ h => on1_e (C := fun r => C (a :: r)) h (k a)
@[elab_as_elim] theorem on3_e {f} (h : on3 l f = true) (k : ∀ a b c, f a b c = true → C [a, b, c]) : C l := onCons_e h fun a _ h => on2_e (C := fun r => C (a :: r)) h (k a)
@[elab_as_elim] theorem on4_e {f} (h : on4 l f = true) (k : ∀ a b c d, f a b c d = true → C [a, b, c, d]) : C l := onCons_e h fun a _ h => on3_e (C := fun r => C (a :: r)) h (k a)
@[elab_as_elim] theorem onSome_e {f} (h : onSome o f = true) (k : ∀ a, f a = true → D (some a)) : D o := by cases o with | none => cases h | some a => exact k _ h
@[elab_as_elim] theorem onNone_e {b} (h : onNone o b = true) (k : b = true → D none) : D o := by cases o with | none => exact k h | some a => cases h
end

/-! ## statements -/
noncomputable def onAsg (p : Stmt) (f : List Expr → Expr → Pos → Bool) : Bool := if h : p.ctorIdx = 5 then Stmt.Assign.elim p h fun t v q => f t v q else false
noncomputable def onAug (p : Stmt) (f : Expr → Operator → Expr → Bool) : Bool := if h : p.ctorIdx = 7 then Stmt.AugAssign.elim p h fun t o v _ => f t o v else false
noncomputable def onExpr (p : Stmt) (f : Expr → Bool) : Bool := if h : p.ctorIdx = 24 then Stmt.Expr.elim p h fun e _ => f e else false
noncomputable def onIf (p : Stmt) (f : Expr → List Stmt → List Stmt → Bool) : Bool := if h : p.ctorIdx = 12 then Stmt.If.elim p h fun a b c _ => f a b c else false
noncomputable def onWhile (p : Stmt) (f : Expr → List Stmt → List Stmt → Bool) : Bool := if h : p.ctorIdx = 11 then Stmt.While.elim p h fun a b c _ => f a b c else false
noncomputable def onFor (p : Stmt) (f : Expr → Expr → List Stmt → List Stmt → Bool) : Bool := if h : p.ctorIdx = 9 then Stmt.For.elim p h fun a b c d _ => f a b c d else false
noncomputable def onRet (p : Stmt) (f : Option Expr → Bool) : Bool := if h : p.ctorIdx = 3 then Stmt.Return.elim p h fun e _ => f e else false
section
variable {C : Stmt → Prop} {p : Stmt}
@[elab_as_elim] theorem onAsg_e {f} (h : onAsg p f = true) (k : ∀ t v q, f t v q = true → C (.Assign t v q)) : C p := Stmt.Assign.elim (motive_2 := fun p => onAsg p f = true → C p) p (dt h) (fun a b c h => k a b c h) h
@[elab_as_elim] theorem onAug_e {f} (h : onAug p f = true) (k : ∀ t o v q, f t o v = true → C (.AugAssign t o v q)) : C p := Stmt.AugAssign.elim (motive_2 := fun p => onAug p f = true → C p) p (dt h) (fun a b c d h => k a b c d h) h
@[elab_as_elim] theorem onExpr_e {f} (h : onExpr p f = true) (k : ∀ e q, f e = true → C (.Expr e q)) : C p := Stmt.Expr.elim (motive_2 := fun p => onExpr p f = true → C p) p (dt h) (fun a b h => k a b h) h
@[elab_as_elim] theorem onIf_e {f} (h : onIf p f = true) (k : ∀ a b c q, f a b c = true → C (.If a b c q)) : C p := Stmt.If.elim (motive_2 := fun p => onIf p f = true → C p) p (dt h) (fun a b c d h => k a b c d h) h
@[elab_as_elim] theorem onWhile_e {f} (h : onWhile p f = true) (k : ∀ a b c q, f a b c = true → C (.While a b c q)) : C p := Stmt.While.elim (motive_2 := fun p => onWhile p f = true → C p) p (dt h) (fun a b c d h => k a b c d h) h
@[elab_as_elim] theorem onFor_e {f} (h : onFor p f = true) (k : ∀ a b c d q, f a b c d = true → C (.For a b c d q)) : C p := Stmt.For.elim (motive_2 := fun p => onFor p f = true → C p) p (dt h) (fun a b c d e h => k a b c d e h) h
@[elab_as_elim] theorem onRet_e {f} (h : onRet p f = true) (k : ∀ e q, f e = true → C (.Return e q)) : C p := Stmt.Return.elim (motive_2 := fun p => onRet p f = true → C p) p (dt h) (fun a b h => k a b h) h
end

theorem len_cons {α : Type} {l : List α} {n : Nat} (h : l.length = n + 1) : ∃ a r, l = a :: r ∧ r.length = n := by
  cases l with
  | nil => cases h
  | cons a r => exact ⟨a, r, rfl, Nat.succ.inj h⟩
theorem len_nil {α : Type} {l : List α} (h : l.length = 0) : l = [] := List.eq_nil_of_length_eq_zero h
theorem and2 {a b : Bool} (h : (a && b) = true) : a = true ∧ b = true := by cases a <;> cases b <;> first | exact ⟨rfl, rfl⟩ | cases h
theorem and3 {a b c : Bool} (h : (a && b && c) = true) : a = true ∧ b = true ∧ c = true := ⟨(and2 (and2 h).1).1, (and2 (and2 h).1).2, (and2 h).2⟩
theorem and4 {a b c d : Bool} (h : (a && b && c && d) = true) : a = true ∧ b = true ∧ c = true ∧ d = true := ⟨(and3 (and2 h).1).1, (and3 (and2 h).1).2.1, (and3 (and2 h).1).2.2, (and2 h).2⟩
theorem and5 {a b c d e : Bool} (h : (a && b && c && d && e) = true) : a = true ∧ b = true ∧ c = true ∧ d = true ∧ e = true := ⟨(and4 (and2 h).1).1, (and4 (and2 h).1).2.1, (and4 (and2 h).1).2.2.1, (and4 (and2 h).1).2.2.2, (and2 h).2⟩
theorem and6 {a b c d e f : Bool} (h : (a && b && c && d && e && f) = true) : a = true ∧ b = true ∧ c = true ∧ d = true ∧ e = true ∧ f = true :=
  ⟨(and5 (and2 h).1).1, (and5 (and2 h).1).2.1, (and5 (and2 h).1).2.2.1, (and5 (and2 h).1).2.2.2.1, (and5 (and2 h).1).2.2.2.2, (and2 h).2⟩
theorem and7 {a b c d e f g : Bool} (h : (a && b && c && d && e && f && g) = true) : a = true ∧ b = true ∧ c = true ∧ d = true ∧ e = true ∧ f = true ∧ g = true :=
  ⟨(and6 (and2 h).1).1, (and6 (and2 h).1).2.1, (and6 (and2 h).1).2.2.1, (and6 (and2 h).1).2.2.2.1, (and6 (and2 h).1).2.2.2.2.1, (and6 (and2 h).1).2.2.2.2.2, (and2 h).2⟩
end NN

/-! the small trees against the program's -/
namespace NN
open PySem

noncomputable def opOf : Op → Operator
  | .add => .Add
  | .sub => .Sub
  | .mul => .Mult
  | .fdiv => .FloorDiv
  | .mod => .Mod
  | .shl => .LShift
  | .shr => .RShift
  | .band => .BitAnd
noncomputable def opIs (o : Op) (q : Operator) : Bool := decide (q = opOf o)
noncomputable def cmOf : Cm → CmpOp
  | .lt => .Lt
  | .le => .LtE
  | .gt => .Gt
  | .ge => .GtE
  | .eq => .Eq
  | .ne => .NotEq
noncomputable def cmIs (c : Cm) (q : CmpOp) : Bool := decide (q = cmOf c)
noncomputable def isAnd (o : BoolOp) : Bool := decide (o = .And)
noncomputable def isNot (o : UnaryOp) : Bool := decide (o = .Not)
noncomputable def isNeg (o : UnaryOp) : Bool := decide (o = .USub)
noncomputable def isSubOp (o : Operator) : Bool := decide (o = .Sub)

noncomputable def isNm (x : Str) (p : Expr) : Bool := onName p fun y _ => decide (y = x)
noncomputable def isVar (nm : List Str) (i : Nat) (p : Expr) : Bool := onName p fun y _ => decide (nm[i]? = some y) && !(y == ("__debug__" : Str))
noncomputable def fnNm (gs : Str → Bool) (x : Str) (p : Expr) : Bool := isNm x p && gs x && !(x == ("__debug__" : Str))
noncomputable def intIs (i : Int) (p : Expr) : Bool := onConst p fun c => onInt c fun j => decide (i = j)
noncomputable def constsAre : List Int → List Expr → Bool
  | [], q => onNil q true
  | i :: r, q => onCons q fun p t => intIs i p && constsAre r t
noncomputable def tgts (two : Bool) (p : Expr) (f : List Str → Bool) : Bool :=
  if two then onTup p fun es => on2 es fun a b => onName a fun x _ => onName b fun y _ => f [x, y] else onName p fun x _ => f [x]
noncomputable def constInt (i : Int) (p : Expr) : Bool := intIs i p || onUn p fun o a => isNeg o && intIs (-i) a
noncomputable def capNames (nm : List Str) (caps : List Nat) : List Str := caps.map fun i => nm.getD i (Str.ofString "")
noncomputable def gsOf (sc : Scope) (x : Str) : Bool := decide (sc.names.lookup x = some .globalImplicit)
noncomputable def scopeOk (cs : Str → Bool) (nm : List Str) (ts : List Str) (caps : List Nat) (sc : Scope) : Bool :=
  decide (sc.kind = .function) && ts.all (fun x => decide (sc.names.lookup x = some .local) && !(x == ("__debug__" : Str))) && decide ts.Nodup && caps.all (fun i => decide (i < nm.length)) &&
  (capNames nm caps).all (fun x => decide (sc.names.lookup x = some .free) && cs x) &&
  sc.names.all (fun p => decide (p.2 ≠ .cell) && (decide (p.2 ≠ .local) || decide (sc.names.lookup p.1 = some .local)) && (decide (p.2 ≠ .free) || cs p.1))
noncomputable def isSlice (p : Expr) : Bool := decide (p.ctorIdx = 26)
/-- 0 - 1 -/
noncomputable def isM1 (p : Expr) : Bool := onBin p fun a o b => intIs 0 a && isSubOp o && intIs 1 b
noncomputable def condLit (c : E) : Bool := if h : c.ctorIdx = 1 then E.bool.elim c h id else false
noncomputable def isComp (c : E) : Bool := decide (c.ctorIdx = 32)
noncomputable def fnCall (gs : Str → Bool) (f : Str) (p : Expr) (k : List Expr → Bool) : Bool := onCall p fun g as ks _ => onNil ks (fnNm gs f g && k as)

noncomputable def mE (nm : List Str) (gs cs : Str → Bool) : E → Expr → Bool
  | .int i, p => constInt i p
  | .bool c, p => onConst p fun k => onBoolC k fun d => decide (c = d)
  | .var i, p => isVar nm i p
  | .bin o l r, p => onBin p fun a q b => opIs o q && mE nm gs cs l a && mE nm gs cs r b
  | .cmp c l r, p => onCmp p fun a qs bs => on1 qs fun q => on1 bs fun b => cmIs c q && mE nm gs cs l a && mE nm gs cs r b
  | .and l r, p => onBoolOp p fun o es pos => isAnd o && onCons es fun a es => onCons es fun b t => mE nm gs cs l a && mE nm gs cs r (if t.isEmpty then b else .BoolOp .And (b :: t) pos)
  | .or l r, p => onBoolOp p fun o es pos => decide (o = .Or) && onCons es fun a es => onCons es fun b t => mE nm gs cs l a && mE nm gs cs r (if t.isEmpty then b else .BoolOp .Or (b :: t) pos)
  | .not e, p => onUn p fun o a => isNot o && mE nm gs cs e a
  | .ife c l r, p => onIfE p fun a b d => mE nm gs cs c a && mE nm gs cs l b && mE nm gs cs r d
  | .idx l i, p => onSub p fun a b => !isSlice b && mE nm gs cs l a && mE nm gs cs i b
  | .upto l i, p => onSub p fun a s => onSlice s fun x y z => onNone x (onNone z (onSome y fun b => mE nm gs cs l a && mE nm gs cs i b))
  | .from1 l k, p => onSub p fun a s => onSlice s fun x y z => onNone y (onNone z (onSome x fun b => mE nm gs cs l a && intIs k b))
  | .all l, p => onSub p fun a s => onSlice s fun x y z => onNone x (onNone y (onNone z (mE nm gs cs l a)))
  | .rev l, p => onSub p fun a s => onSlice s fun x y z => onNone x (onNone y (onSome z fun b => mE nm gs cs l a && isM1 b))
  | .cat l r, p => onBin p fun a q b => opIs .add q && mE nm gs cs l a && mE nm gs cs r b
  | .rep l r, p => onBin p fun a q b => opIs .mul q && mE nm gs cs l a && mE nm gs cs r b
  | .lit l, p => onList p fun es => constsAre l es
  | .lst1 e, p => onList p fun es => on1 es fun a => mE nm gs cs e a
  | .rows2 l r, p => onList p fun es => on2 es fun a b => mE nm gs cs l a && mE nm gs cs r b
  | .call1 f e, p => fnCall gs f p fun as => on1 as fun a => mE nm gs cs e a
  | .call2 f e₁ e₂, p => fnCall gs f p fun as => on2 as fun a b => mE nm gs cs e₁ a && mE nm gs cs e₂ b
  | .call3 f e₁ e₂ e₃, p => fnCall gs f p fun as => on3 as fun a b c => mE nm gs cs e₁ a && mE nm gs cs e₂ b && mE nm gs cs e₃ c
  | .call4 f e₁ e₂ e₃ e₄, p => fnCall gs f p fun as => on4 as fun a b c d => mE nm gs cs e₁ a && mE nm gs cs e₂ b && mE nm gs cs e₃ c && mE nm gs cs e₄ d
  | .len e, p => fnCall gs "len" p fun as => on1 as fun a => mE nm gs cs e a
  | .min2 l r, p => fnCall gs "min" p fun as => on2 as fun a b => mE nm gs cs l a && mE nm gs cs r b
  | .sum e, p => fnCall gs "sum" p fun as => on1 as fun a => mE nm gs cs e a
  | .toInt e, p => fnCall gs "int" p fun as => on1 as fun a => mE nm gs cs e a
  | .toList e, p => fnCall gs "list" p fun as => on1 as fun a => mE nm gs cs e a
  | .range1 e, p => fnCall gs "range" p fun as => on1 as fun a => mE nm gs cs e a
  | .range3 l r t, p => fnCall gs "range" p fun as => on3 as fun a b c => mE nm gs cs l a && mE nm gs cs r b && mE nm gs cs t c
  | .zip l r, p => fnCall gs "zip" p fun as => on2 as fun a b => mE nm gs cs l a && mE nm gs cs r b
  | .enum e, p => fnCall gs "enumerate" p fun as => on1 as fun a => mE nm gs cs e a
  | .comp _ two src cond elt caps, p => onLC p fun pe gens sc _ => on1 gens fun g => decide (g.is_async = 0) && tgts two g.target fun ts => mE nm gs cs src g.iter && scopeOk cs nm ts caps sc &&
        (g.ifs.isEmpty && condLit cond || on1 g.ifs fun pc => mE (ts ++ capNames nm caps) (gsOf sc) (fun _ => false) cond pc) &&
        mE (ts ++ capNames nm caps) (gsOf sc) (fun _ => false) elt pe
  | .take x e, p => fnCall gs "_law_take" p fun as => on2 as fun a b => isVar nm x a && mE nm gs cs e b
  | .drawn x e, p => fnCall gs "_law_drawn" p fun as => on2 as fun a b => isVar nm x a && mE nm gs cs e b
  | .box1 x, p => onSub p fun a b => isVar nm x a && intIs 1 b

noncomputable def notComp (p : Expr) : Bool := !(decide (p.ctorIdx = 8) || decide (p.ctorIdx = 9) || decide (p.ctorIdx = 10))
/-- what a written tuple's parts may be (the order of the stores is sure) -/
noncomputable def partsOk (es : List Expr) : Bool := es.all (foldedForSure 8) || !es.all (constantsAlone 8)
/-- a comprehension bound to a local name on its own line -/
noncomputable def compAsg (ls : Str → Bool) (y : Str) (py : Pos) (line : Nat) (p : Expr) : Bool :=
  onLC p fun _ _ sc pos => decide (pos.line = line) && decide (py.line = pos.line) && ls y && !(sc.names.any fun (n, k) => n == y && (k == .local || k == .cell))

/-- a name to be stored: of the table -/
noncomputable def isTgt (nm : List Str) (i : Nat) (p : Expr) : Bool := onName p fun y _ => decide (nm[i]? = some y)
/-- a.n(..) on one line -/
noncomputable def methCall (nm : List Str) (x : Nat) (n : Str) (p : Expr) (k : List Expr → Bool) : Bool :=
  onCall p fun g as ks pos => onNil ks (onAttr g fun a m apos => isVar nm x a && decide (m = n) && decide (apos.endLine = pos.line) && k as)

noncomputable def mS (nm : List Str) (gs cs ls : Str → Bool) : S → List Stmt → Bool
  | .skip, ps => onNil ps true
  | .seq a b, ps => onCons ps fun p r => mS nm gs cs ls a [p] && mS nm gs cs ls b r
  | .asg x e, ps => on1 ps fun p => onAsg p fun ts v _ => on1 ts fun t => isTgt nm x t && notComp v && mE nm gs cs e v
  | .asgC x e, ps => on1 ps fun p => onAsg p fun ts v pos => on1 ts fun t => onName t fun y py => decide (nm[x]? = some y) && isComp e && compAsg ls y py pos.line v && mE nm gs cs e v
  | .asg2 x y e₁ e₂, ps => on1 ps fun p => onAsg p fun ts v _ => on1 ts fun t => onTup t fun us => on2 us fun t u => onTup v fun vs => on2 vs fun a b => isTgt nm x t && isTgt nm y u && partsOk [a, b] && mE nm gs cs e₁ a && mE nm gs cs e₂ b
  | .asg3 x y z e₁ e₂ e₃, ps => on1 ps fun p => onAsg p fun ts v _ => on1 ts fun t => onTup t fun us => on3 us fun t u o => onTup v fun vs => on3 vs fun a b c => isTgt nm x t && isTgt nm y u && isTgt nm z o && partsOk [a, b, c] && mE nm gs cs e₁ a && mE nm gs cs e₂ b && mE nm gs cs e₃ c
  | .aug x o e, ps => on1 ps fun p => onAug p fun t q v => isVar nm x t && opIs o q && mE nm gs cs e v
  | .setI x i e, ps => on1 ps fun p => onAsg p fun ts v _ => on1 ts fun t => onSub t fun a b => isVar nm x a && !isSlice b && notComp v && mE nm gs cs i b && mE nm gs cs e v
  | .augI x i o e, ps => on1 ps fun p => onAug p fun t q v => onSub t fun a b => isVar nm x a && !isSlice b && opIs o q && mE nm gs cs i b && mE nm gs cs e v
  | .app x e, ps => on1 ps fun p => onExpr p fun c => methCall nm x "append" c fun as => on1 as fun b => mE nm gs cs e b
  | .pop x, ps => on1 ps fun p => onExpr p fun c => methCall nm x "pop" c fun as => onNil as true
  | .setB x e, ps => on1 ps fun p => onAsg p fun ts v _ => on1 ts fun t => onSub t fun a b => isVar nm x a && intIs 1 b && notComp v && mE nm gs cs e v
  | .ite c a b, ps => on1 ps fun p => onIf p fun t p q => mE nm gs cs c t && mS nm gs cs ls a p && mS nm gs cs ls b q
  | .while c a, ps => on1 ps fun p => onWhile p fun t p q => onNil q (mE nm gs cs c t && mS nm gs cs ls a p)
  | .for1 x src a, ps => on1 ps fun p => onFor p fun t it p q => onNil q (isTgt nm x t && mE nm gs cs src it && mS nm gs cs ls a p)
  | .forV x y a, ps => on1 ps fun p => onFor p fun t it p q => onNil q (isTgt nm x t && isVar nm y it && mS nm gs cs ls a p)
  | .forZ x y l r a, ps => on1 ps fun p => onFor p fun t it p q => onNil q (onTup t fun us => on2 us fun t u => fnCall gs "zip" it fun as => on2 as fun b c => isTgt nm x t && isTgt nm y u && isVar nm l b && isVar nm r c && mS nm gs cs ls a p)
  | .forN x y l a, ps => on1 ps fun p => onFor p fun t it p q => onNil q (onTup t fun us => on2 us fun t u => fnCall gs "enumerate" it fun as => on1 as fun b => isTgt nm x t && isTgt nm y u && isVar nm l b && mS nm gs cs ls a p)
  | .ret e, ps => on1 ps fun p => onRet p fun v => onSome v fun v => mE nm gs cs e v
  | .stuck, _ => true

/-! ## what a match says -/
section
variable {nm : List Str} {gs cs : Str → Bool} {C : Expr → Prop} {p : Expr}
@[elab_as_elim] theorem intIs_e {i : Int} (h : intIs i p = true) (k : ∀ n q, C (.Constant (.int i) n q)) : C p :=
  onConst_e h fun c n q h => onInt_e (C := fun c => C (.Constant c n q)) h fun j h => of_decide_eq_true h ▸ k n q
@[elab_as_elim] theorem isVar_e {i : Nat} (h : isVar nm i p = true) (k : ∀ y q, nm[i]? = some y → (y == ("__debug__" : Str)) = false → C (.Name y q)) : C p :=
  onName_e h fun y q h => k y q (of_decide_eq_true (and2 h).1) (by rw [← Bool.not_eq_true']; exact (and2 h).2)
@[elab_as_elim] theorem isTgt_e {i : Nat} (h : isTgt nm i p = true) (k : ∀ y q, nm[i]? = some y → C (.Name y q)) : C p := onName_e h fun y q h => k y q (of_decide_eq_true h)
@[elab_as_elim] theorem fnNm_e {f : Str} (h : fnNm gs f p = true) (k : ∀ q, gs f = true → (f == ("__debug__" : Str)) = false → C (.Name f q)) : C p :=
  onName_e (and3 h).1 fun y q e => (of_decide_eq_true e : y = f) ▸ k q (and3 h).2.1 (by rw [← Bool.not_eq_true']; exact (and3 h).2.2)
@[elab_as_elim] theorem fnCall_e {f : Str} {a : List Expr → Bool} (h : fnCall gs f p a = true) (k : ∀ q as pos, gs f = true → (f == ("__debug__" : Str)) = false → a as = true → C (.Call (.Name f q) as [] pos)) : C p :=
  onCall_e h fun g as ks pos h => onNil_e (C := fun ks => C (.Call g as ks pos)) h fun h => fnNm_e (C := fun g => C (.Call g as [] pos)) (and2 h).1 fun q g1 g2 => k q as pos g1 g2 (and2 h).2
end
@[elab_as_elim] theorem meth_e {nm : List Str} {x : Nat} {n : Str} {C : Expr → Prop} {p : Expr} {k : List Expr → Bool} (h : methCall nm x n p k = true) (K : ∀ a apos as pos, isVar nm x a = true → (apos.endLine == pos.line) = true → k as = true → C (.Call (.Attribute a n apos) as [] pos)) : C p := by
  refine onCall_e h fun g as ks pos h => onNil_e (C := fun ks => C (.Call g as ks pos)) h fun h => onAttr_e (C := fun g => C (.Call g as [] pos)) h fun a m apos h => ?_
  obtain ⟨h1, h2, h3, h4⟩ := and4 h
  have e := of_decide_eq_true h2
  subst e
  exact K a apos as pos h1 (beq_iff_eq.mpr (of_decide_eq_true h3)) h4
noncomputable def TgtsAre (two : Bool) (tg : Expr) (ts : List Str) : Prop := (two = false ∧ ∃ x p, tg = .Name x p ∧ ts = [x]) ∨ (two = true ∧ ∃ x y p q kk r, tg = .Tuple [.Name x p, .Name y q] kk r ∧ ts = [x, y])
theorem tgts_e {two : Bool} {tg : Expr} {f : List Str → Bool} (h : tgts two tg f = true) : ∃ ts, TgtsAre two tg ts ∧ f ts = true := by
  cases two with
  | false => exact onName_e (C := fun tg => ∃ ts, TgtsAre false tg ts ∧ f ts = true) h fun x q h => ⟨[x], .inl ⟨rfl, x, q, rfl, rfl⟩, h⟩
  | true =>
    refine onTup_e (C := fun tg => ∃ ts, TgtsAre true tg ts ∧ f ts = true) h fun es n r h => ?_
    refine on2_e (C := fun es => ∃ ts, TgtsAre true (.Tuple es n r) ts ∧ f ts = true) h fun a b h => ?_
    refine onName_e (C := fun a => ∃ ts, TgtsAre true (.Tuple [a, b] n r) ts ∧ f ts = true) h fun x q h => ?_
    exact onName_e (C := fun b => ∃ ts, TgtsAre true (.Tuple [.Name x q, b] n r) ts ∧ f ts = true) h fun y q' h => ⟨[x, y], .inr ⟨rfl, x, y, q, q', n, r, rfl, rfl⟩, h⟩
noncomputable def CondOk (nm : List Str) (gs : Str → Bool) (cond : E) (ifs : List Expr) : Prop := (ifs = [] ∧ cond = .bool true) ∨ ∃ pc, ifs = [pc] ∧ mE nm gs (fun _ => false) cond pc = true
theorem condLit_e {c : E} (h : condLit c = true) : c = .bool true := E.bool.elim (motive := fun c => condLit c = true → c = .bool true) c (dt h) (fun _ h => congrArg E.bool h) h
theorem cond_e {nm : List Str} {gs : Str → Bool} {cond : E} {ifs : List Expr} (h : (ifs.isEmpty && condLit cond || on1 ifs fun pc => mE nm gs (fun _ => false) cond pc) = true) : CondOk nm gs cond ifs := by
  cases ifs with
  | nil =>
    rcases Bool.or_eq_true_iff.mp h with h | h
    · exact .inl ⟨rfl, condLit_e (and2 h).2⟩
    · exact ff h
  | cons a r => exact .inr (on1_e (C := fun l => ∃ pc, l = [pc] ∧ mE nm gs (fun _ => false) cond pc = true) (l := a :: r) h fun pc h => ⟨pc, rfl, h⟩)
theorem lc_comp {e : E} (h : isComp e = true) : ∃ rw two src cond elt caps, e = .comp rw two src cond elt caps :=
  E.comp.elim (motive := fun e => ∃ rw two src cond elt caps, e = .comp rw two src cond elt caps) e (of_decide_eq_true h) fun _ _ _ _ _ _ => ⟨_, _, _, _, _, _, rfl⟩
@[elab_as_elim] theorem comp_e {nm : List Str} {gs cs : Str → Bool} {C : Expr → Prop} {p : Expr} {rw two : Bool} {src cond elt : E} {caps : List Nat} (h : mE nm gs cs (.comp rw two src cond elt caps) p = true)
    (k : ∀ pe tg it ifs sc pos ts, TgtsAre two tg ts → mE nm gs cs src it = true → scopeOk cs nm ts caps sc = true → CondOk (ts ++ capNames nm caps) (gsOf sc) cond ifs → mE (ts ++ capNames nm caps) (gsOf sc) (fun _ => false) elt pe = true →
      C (.ListComp pe [⟨tg, it, ifs, 0⟩] sc pos)) : C p := by
  refine onLC_e h fun pe gens sc pos h => on1_e (C := fun l => C (.ListComp pe l sc pos)) h fun g h => ?_
  obtain ⟨tg, it, ifs, ia⟩ := g
  obtain ⟨h1, h2⟩ := and2 h
  have e := of_decide_eq_true h1
  dsimp only at e
  subst e
  obtain ⟨ts, h3, h4⟩ := tgts_e h2
  obtain ⟨g1, g2, g3, g4⟩ := and4 h4
  exact k pe tg it ifs sc pos ts h3 g1 g2 (cond_e g3) g4

end NN

/-! what a run of a statement says -/
namespace NN
open PySem

section
variable {P : Fns} {N : Nat} {M : Nat → Bool} {σ : Ev} {bx : Bx} {t : St} {r : St × Fl} {C : St × Fl → Prop}

theorem nn {β : Type} {q : β} {D : Prop} (h : none = some q) : D := nomatch h
theorem rs_some {β : Type} {x : Rs} {g : V → Bx → Option β} {q : β} (h : (match x with | none => none | some (u, b₁) => g u b₁) = some q) : ∃ u b₁, x = some (u, b₁) ∧ g u b₁ = some q := by
  cases x with
  | none => exact nn h
  | some y => exact ⟨y.1, y.2, rfl, h⟩
theorem ite_some {β : Type} {c : Bool} {a q : β} (h : (if c = true then some a else none) = some q) : c = true ∧ a = q := by
  cases c with
  | true => exact ⟨rfl, Option.some.inj h⟩
  | false => exact nn h

@[elab_as_elim] theorem ex_asg {x : Nat} {e : E} (h : execS P N M (.asg x e) (σ, bx) = some r) (k : ∀ v b, evalE P e σ bx = some (v, b) → asgOk M x e v = true → C ((pt σ x v, b), .next)) : C r := by
  obtain ⟨v, b, e1, h⟩ := rs_some h
  obtain ⟨hc, rfl⟩ := ite_some h
  exact k v b e1 (and2 hc).1
@[elab_as_elim] theorem ex_asgC {x : Nat} {e : E} (h : execS P N M (.asgC x e) (σ, bx) = some r) (k : ∀ v b, evalE P e σ bx = some (v, b) → asgOk M x e v = true → C ((pt σ x v, b), .next)) : C r := by
  obtain ⟨v, b, e1, h⟩ := rs_some h
  obtain ⟨hc, rfl⟩ := ite_some h
  exact k v b e1 (and2 hc).1
theorem neq_of {x y : Nat} (h : (x != y) = true) : x ≠ y := by simpa using h
@[elab_as_elim] theorem ex_asg2 {x y : Nat} {e₁ e₂ : E} (h : execS P N M (.asg2 x y e₁ e₂) (σ, bx) = some r)
    (k : ∀ v₁ b₁ v₂ b₂, evalE P e₁ σ bx = some (v₁, b₁) → evalE P e₂ σ b₁ = some (v₂, b₂) → asgOk M x e₁ v₁ = true → asgOk M y e₂ v₂ = true → x ≠ y → C ((pt (pt σ x v₁) y v₂, b₂), .next)) : C r := by
  obtain ⟨v₁, b₁, e1, h⟩ := rs_some h
  obtain ⟨v₂, b₂, e2, h⟩ := rs_some h
  obtain ⟨hc, rfl⟩ := ite_some h
  have h5 := and5 hc
  exact k v₁ b₁ v₂ b₂ e1 e2 h5.1 h5.2.1 (neq_of h5.2.2.2.2)
@[elab_as_elim] theorem ex_asg3 {x y z : Nat} {e₁ e₂ e₃ : E} (h : execS P N M (.asg3 x y z e₁ e₂ e₃) (σ, bx) = some r)
    (k : ∀ v₁ b₁ v₂ b₂ v₃ b₃, evalE P e₁ σ bx = some (v₁, b₁) → evalE P e₂ σ b₁ = some (v₂, b₂) → evalE P e₃ σ b₂ = some (v₃, b₃) → asgOk M x e₁ v₁ = true → asgOk M y e₂ v₂ = true → asgOk M z e₃ v₃ = true → x ≠ y → x ≠ z → y ≠ z →
      C ((pt (pt (pt σ x v₁) y v₂) z v₃, b₃), .next)) : C r := by
  obtain ⟨v₁, b₁, e1, h⟩ := rs_some h
  obtain ⟨v₂, b₂, e2, h⟩ := rs_some h
  obtain ⟨v₃, b₃, e3, h⟩ := rs_some h
  obtain ⟨hc, rfl⟩ := ite_some h
  have h4 := and4 hc
  have h6 := and6 h4.1
  exact k v₁ b₁ v₂ b₂ v₃ b₃ e1 e2 e3 h6.1 h6.2.1 h6.2.2.1 (neq_of h4.2.1) (neq_of h4.2.2.1) (neq_of h4.2.2.2)

theorem opt_some {β : Type} {x : Option V} {g : V → Option β} {q : β} (h : (match x with | none => none | some u => g u) = some q) : ∃ u, x = some u ∧ g u = some q := by
  cases x with
  | none => exact nn h
  | some y => exact ⟨y, rfl, h⟩
theorem map_some {α β : Type} {x : Option α} {g : α → β} {q : β} (h : x.map g = some q) : ∃ u, x = some u ∧ g u = q := by
  cases x with
  | none => exact nn h
  | some y => exact ⟨y, rfl, Option.some.inj h⟩
theorem vBin_inv {o : Op} {u v z : V} (h : vBin o u v = some z) : ∃ i j c, u = .int i ∧ v = .int j ∧ z = .int c ∧ opI o i j = some c := by
  cases u with
  | int i => cases v with
    | int j => obtain ⟨c, h2, e⟩ := map_some h; exact ⟨i, j, c, rfl, rfl, e.symm, h2⟩
    | _ => exact nn h
  | _ => exact nn h
@[elab_as_elim] theorem ex_aug {x : Nat} {o : Op} {e : E} (h : execS P N M (.aug x o e) (σ, bx) = some r) (k : ∀ i j c b, gt σ x = some (.int i) → evalE P e σ bx = some (.int j, b) → opI o i j = some c → C ((pt σ x (.int c), b), .next)) : C r := by
  obtain ⟨u, e0, h⟩ := opt_some h
  obtain ⟨v, b, e1, h⟩ := rs_some h
  obtain ⟨z, e2, rfl⟩ := map_some h
  obtain ⟨i, j, c, rfl, rfl, rfl, e3⟩ := vBin_inv e2
  exact k i j c b e0 e1 e3

/-- an int, then -/
theorem int_some {β : Type} {x : Rs} {g : Int → Bx → Option β} {q : β} (h : (match x with | some (.int i, b) => g i b | _ => none) = some q) : ∃ i b, x = some (.int i, b) ∧ g i b = some q := by
  cases x with
  | none => exact nn h
  | some y =>
    obtain ⟨v, b⟩ := y
    cases v with
    | int i => exact ⟨i, b, rfl, h⟩
    | _ => exact nn h
theorem il_some {β : Type} {x : Option V} {g : List Int → Option β} {q : β} (h : (match x with | some (.il l) => g l | _ => none) = some q) : ∃ l, x = some (.il l) ∧ g l = some q := by
  cases x with
  | none => exact nn h
  | some v =>
    cases v with
    | il l => exact ⟨l, rfl, h⟩
    | _ => exact nn h
@[elab_as_elim] theorem ex_setI {x : Nat} {i e : E} (h : execS P N M (.setI x i e) (σ, bx) = some r)
    (k : ∀ v b l j b₁, evalE P e σ bx = some (.int v, b) → gt σ x = some (.il l) → evalE P i σ b = some (.int j, b₁) → M x = true → 0 ≤ j ∧ j.toNat < l.length ∧ l.length ≤ cap → C ((pt σ x (.il (l.set j.toNat v)), b₁), .next)) : C r := by
  obtain ⟨v, b, e1, h⟩ := int_some h
  obtain ⟨l, e2, h⟩ := il_some h
  obtain ⟨j, b₁, e3, h⟩ := int_some h
  obtain ⟨hc, rfl⟩ := ite_some h
  exact k v b l j b₁ e1 e2 e3 (and2 hc).1 (of_decide_eq_true (and2 hc).2)
theorem ite_some' {β : Type} {c : Bool} {a : Option β} {q : β} (h : (if c = true then a else none) = some q) : c = true ∧ a = some q := by
  cases c with
  | true => exact ⟨rfl, h⟩
  | false => exact nn h
@[elab_as_elim] theorem ex_augI {x : Nat} {o : Op} {i e : E} (h : execS P N M (.augI x i o e) (σ, bx) = some r)
    (k : ∀ l j b₁ v b₂ z, gt σ x = some (.il l) → evalE P i σ bx = some (.int j, b₁) → M x = true → 0 ≤ j ∧ j.toNat < l.length ∧ l.length ≤ cap → evalE P e σ b₁ = some (.int v, b₂) → opI o (l.getD j.toNat 0) v = some z → C ((pt σ x (.il (l.set j.toNat z)), b₂), .next)) : C r := by
  obtain ⟨l, e1, h⟩ := il_some h
  obtain ⟨j, b₁, e2, h⟩ := int_some h
  obtain ⟨hc, h⟩ := ite_some' h
  obtain ⟨v, b₂, e3, h⟩ := int_some h
  obtain ⟨z, e4, rfl⟩ := map_some h
  exact k l j b₁ v b₂ z e1 e2 (and2 hc).1 (of_decide_eq_true (and2 hc).2) e3 e4
@[elab_as_elim] theorem ex_app {x : Nat} {e : E} (h : execS P N M (.app x e) (σ, bx) = some r) (k : ∀ l v b, gt σ x = some (.il l) → evalE P e σ bx = some (.int v, b) → M x = true → l.length < cap → C ((pt σ x (.il (l ++ [v])), b), .next)) : C r := by
  obtain ⟨l, e1, h⟩ := il_some h
  obtain ⟨v, b, e2, h⟩ := int_some h
  obtain ⟨hc, rfl⟩ := ite_some h
  exact k l v b e1 e2 (and2 hc).1 (of_decide_eq_true (and2 hc).2)
@[elab_as_elim] theorem ex_pop {x : Nat} (h : execS P N M (.pop x) (σ, bx) = some r) (k : ∀ l, gt σ x = some (.il l) → M x = true → 0 < l.length ∧ l.length ≤ cap → C ((pt σ x (.il l.dropLast), bx), .next)) : C r := by
  obtain ⟨l, e1, h⟩ := il_some h
  obtain ⟨hc, rfl⟩ := ite_some h
  exact k l e1 (and2 hc).1 (of_decide_eq_true (and2 hc).2)
theorem box_some {β : Type} {x : Option V} {a : Option β} {q : β} (h : (match x with | some .box => a | _ => none) = some q) : x = some .box ∧ a = some q := by
  cases x with
  | none => exact nn h
  | some v =>
    cases v with
    | box => exact ⟨rfl, h⟩
    | _ => exact nn h
theorem intBx_some {β : Type} {x : Rs} {g : Int → List Int → Option β} {q : β} (h : (match x with | some (.int i, some (l, _)) => g i l | _ => none) = some q) : ∃ i l n, x = some (.int i, some (l, n)) ∧ g i l = some q := by
  cases x with
  | none => exact nn h
  | some y =>
    obtain ⟨v, b⟩ := y
    cases v with
    | int i => cases b with
      | none => exact nn h
      | some b => exact ⟨i, b.1, b.2, rfl, h⟩
    | _ => exact nn h
@[elab_as_elim] theorem ex_setB {x : Nat} {e : E} (h : execS P N M (.setB x e) (σ, bx) = some r) (k : ∀ v l n, gt σ x = some .box → evalE P e σ bx = some (.int v, some (l, n)) → C ((σ, some (l, v)), .next)) : C r := by
  obtain ⟨e1, h⟩ := box_some h
  obtain ⟨v, l, n, e2, h⟩ := intBx_some h
  cases h
  exact k v l n e1 e2
theorem intB_some {β : Type} {x : Rs} {g : Int → (List Int × Int) → Option β} {q : β} (h : (match x with | some (.int m, some bx) => g m bx | _ => none) = some q) : ∃ m bx, x = some (.int m, some bx) ∧ g m bx = some q := by
  cases x with
  | none => exact nn h
  | some y =>
    obtain ⟨v, b⟩ := y
    cases v with
    | int i => cases b with
      | none => exact nn h
      | some b => exact ⟨i, b, rfl, h⟩
    | _ => exact nn h
theorem bool_some {β : Type} {x : Rs} {f g : Bx → Option β} {q : β} (h : (match x with | some (.bool true, b) => f b | some (.bool false, b) => g b | _ => none) = some q) :
    (∃ b, x = some (.bool true, b) ∧ f b = some q) ∨ ∃ b, x = some (.bool false, b) ∧ g b = some q := by
  cases x with
  | none => exact nn h
  | some y =>
    obtain ⟨v, b⟩ := y
    cases v with
    | bool c => cases c with
      | true => exact .inl ⟨b, rfl, h⟩
      | false => exact .inr ⟨b, rfl, h⟩
    | _ => exact nn h
theorem ex_ite {c : E} {a d : S} (h : execS P N M (.ite c a d) (σ, bx) = some r) : (∃ b, evalE P c σ bx = some (.bool true, b) ∧ execS P N M a (σ, b) = some r) ∨ ∃ b, evalE P c σ bx = some (.bool false, b) ∧ execS P N M d (σ, b) = some r := bool_some h
theorem fl_some {β : Type} {x : Rt} {f : St → Option β} {g : St → V → Option β} {q : β} (h : (match x with | none => none | some (s, .next) => f s | some (s, .ret v) => g s v) = some q) :
    (∃ s, x = some (s, .next) ∧ f s = some q) ∨ ∃ s v, x = some (s, .ret v) ∧ g s v = some q := by
  cases x with
  | none => exact nn h
  | some y =>
    obtain ⟨s, fl⟩ := y
    cases fl with
    | next => exact .inl ⟨s, rfl, h⟩
    | ret v => exact .inr ⟨s, v, rfl, h⟩
theorem ex_seq {a d : S} (h : execS P N M (.seq a d) t = some r) : (∃ s, execS P N M a t = some (s, .next) ∧ execS P N M d s = some r) ∨ ∃ s v, execS P N M a t = some (s, .ret v) ∧ r = (s, .ret v) := by
  rcases fl_some h with h | ⟨s, v, e, h⟩
  · exact .inl h
  · exact .inr ⟨s, v, e, (Option.some.inj h).symm⟩
theorem ex_while {c : E} {a : S} (h : execS P N M (.while c a) t = some r) : loopW (fun s => match evalE P c s.1 s.2 with | some (.bool t, b) => some (t, (s.1, b)) | _ => none) (execS P N M a) N t = some r := h
theorem lst_some {β : Type} {x : Rs} {f g : List Int → Bx → Option β} {q : β} (h : (match x with | some (.il l, b) => f l b | some (.rng l, b) => g l b | _ => none) = some q) :
    (∃ l b, x = some (.il l, b) ∧ f l b = some q) ∨ ∃ l b, x = some (.rng l, b) ∧ g l b = some q := by
  cases x with
  | none => exact nn h
  | some y =>
    obtain ⟨v, b⟩ := y
    cases v with
    | il l => exact .inl ⟨l, b, rfl, h⟩
    | rng l => exact .inr ⟨l, b, rfl, h⟩
    | _ => exact nn h
theorem ex_for1 {x : Nat} {src : E} {a : S} (h : execS P N M (.for1 x src a) (σ, bx) = some r) :
    ∃ l b, (evalE P src σ bx = some (.il l, b) ∨ evalE P src σ bx = some (.rng l, b)) ∧ src.fresh = true ∧ loopF (fun i s => execS P N M a (setV x (.int i) s)) l (σ, b) = some r := by
  rcases lst_some h with ⟨l, b, e, h⟩ | ⟨l, b, e, h⟩
  · obtain ⟨hc, h⟩ := ite_some' h
    exact ⟨l, b, .inl e, (and2 hc).1, h⟩
  · obtain ⟨hc, h⟩ := ite_some' h
    exact ⟨l, b, .inr e, (and2 hc).1, h⟩
theorem not_of {b : Bool} (h : (!b) = true) : b = false := by cases b <;> first | rfl | cases h
theorem ex_forV {x y : Nat} {a : S} (h : execS P N M (.forV x y a) t = some r) : ∃ l, gt t.1 y = some (.il l) ∧ a.mut.contains y = false ∧ loopF (fun i s => execS P N M a (setV x (.int i) s)) l t = some r := by
  obtain ⟨l, e, h⟩ := il_some h
  obtain ⟨hc, h⟩ := ite_some' h
  exact ⟨l, e, not_of (and3 hc).1, h⟩
theorem il2_some {β : Type} {x y : Option V} {g : List Int → List Int → Option β} {q : β} (h : (match x, y with | some (.il l), some (.il m) => g l m | _, _ => none) = some q) : ∃ l m, x = some (.il l) ∧ y = some (.il m) ∧ g l m = some q := by
  cases x with
  | none => exact nn h
  | some v =>
    cases v with
    | il l => cases y with
      | none => exact nn h
      | some u => cases u with
        | il m => exact ⟨l, m, rfl, rfl, h⟩
        | _ => exact nn h
    | _ => exact nn h
theorem ex_forZ {x y p q : Nat} {a : S} (h : execS P N M (.forZ x y p q a) t = some r) : ∃ l m, gt t.1 p = some (.il l) ∧ gt t.1 q = some (.il m) ∧ a.mut.contains p = false ∧ a.mut.contains q = false ∧
    loopF (fun i s => execS P N M a (setV y (.int i.2) (setV x (.int i.1) s))) (l.zip m) t = some r := by
  obtain ⟨l, m, e1, e2, h⟩ := il2_some h
  obtain ⟨hc, h⟩ := ite_some' h
  have h7 := and7 hc
  exact ⟨l, m, e1, e2, not_of h7.1, not_of h7.2.1, h⟩
theorem ex_forN {x y p : Nat} {a : S} (h : execS P N M (.forN x y p a) t = some r) : ∃ l, gt t.1 p = some (.il l) ∧ a.mut.contains p = false ∧ loopF (fun i s => execS P N M a (setV y (.int i.2) (setV x (.int i.1) s))) (enumL l) t = some r := by
  obtain ⟨l, e, h⟩ := il_some h
  obtain ⟨hc, h⟩ := ite_some' h
  exact ⟨l, e, not_of (and5 hc).1, h⟩
@[elab_as_elim] theorem ex_ret {e : E} (h : execS P N M (.ret e) (σ, bx) = some r) (k : ∀ v b, evalE P e σ bx = some (v, b) → retOk M e v = true → C ((σ, b), .ret v)) : C r := by
  obtain ⟨v, b, e1, h⟩ := rs_some h
  obtain ⟨hc, rfl⟩ := ite_some h
  exact k v b e1 hc
end
end NN

/-! the expressions: what the small evaluation says, the model's tree does -/
namespace NN
open PySem PySem.W PyProof.Rows PySem.Calls

/-- what an evaluation hands on -/
noncomputable def Post (B : Bxa) (s : Shared) (fr : Bool) (v : V) (bx : Bx) (val : Value) (s' : Shared) : Prop :=
  Kp B s s' ∧ BoxOk B s'.heap bx ∧ Rep B s'.heap (fun b => ¬ isBx B b ∧ (fr = true → s.heap.get? b = none)) v val

/-- all that an evaluation leans on -/
structure Cx (A : Around) (hB : Heap) (k : Nat) (env : Env) (nm : List Str) (gs cs : Str → Bool) (B : Bxa) (σ : Ev) (bx : Bx) (s : Shared) : Prop where
  room : Room A (k + 1)
  ok : EnvOk env
  hgs : ∀ x, gs x = true → env.kindOf x = some .globalImplicit
  hcs : ∀ x, cs x = true → env.kindOf x = some .cell ∧ ∃ c, env.cells.lookup x = some c
  base : SubH hB s.heap
  bxh : ∀ b, isBx B b → hB.get? b = none
  box : BoxOk B s.heap bx
  vars : VarsOk B env nm σ s.heap

section
variable {prog : Program} {w : PySem.World} {A : Around} {hB : Heap} {fnA : Str → Option Addr} {k : Nat} {P : Fns} {env : Env} {nm : List Str} {gs cs : Str → Bool} {B : Bxa} {σ : Ev} {bx bx₁ bx₂ : Bx} {s s₁ s₂ : Shared}
  {fr fr₁ fr₂ : Bool} {u v r : V} {x y val : Value} {E : Value → Shared → Prop}

theorem subH_Kp (h : SubH hB s.heap) (n : ∀ b, isBx B b → hB.get? b = none) (q : Kp B s s₁) : SubH hB s₁.heap := fun b o e =>
  q.2 b o (fun hb => by rw [n b hb] at e; cases e) (h b o e)

theorem Cx.next (C : Cx A hB k env nm gs cs B σ bx s) (q : Kp B s s₁) (b : BoxOk B s₁.heap bx₁) : Cx A hB k env nm gs cs B σ bx₁ s₁ :=
  ⟨C.room, C.ok, C.hgs, C.hcs, subH_Kp C.base C.bxh q, C.bxh, b, C.vars.keeps q.2⟩

/-- the expression p does in s what is said -/
noncomputable def Does (prog : Program) (w : PySem.World) (A : Around) (env : Env) (B : Bxa) (p : Expr) (s : Shared) (fr : Bool) (v : V) (bx : Bx) : Prop :=
  ∀ E : Value → Shared → Prop, wpAny (model prog w) A (eval p env) (Post B s fr v bx) E s

theorem fresh_old (q : Kp B s s₁) {b : Addr} (nb : ¬ isBx B b) (e : s₁.heap.get? b = none) : s.heap.get? b = none := by
  cases h : s.heap.get? b with
  | none => rfl
  | some o => rw [q.2 b o nb h] at e; first | exact nn e | cases e

theorem Post.after (q : Kp B s s₁) (h : Post B s₁ fr v bx x s₂) : Post B s fr v bx x s₂ := by
  refine ⟨q.trans h.1, h.2.1, ?_⟩
  exact h.2.2.weaken fun b ⟨nb, g⟩ => ⟨nb, fun e => fresh_old q nb (g e)⟩

/-- an int, a bool at the end of a step that moved the tokens alone -/
theorem post_int {i : Int} {t n : Nat} (q : Kp B s s₁) (b : BoxOk B s₁.heap bx) : Post B s fr (.int i) bx (.int i t) { s₁ with toks := n } :=
  ⟨q.trans (.tok B s₁ n), b, ⟨t, rfl⟩⟩
theorem post_bool {c : Bool} (q : Kp B s s₁) (b : BoxOk B s₁.heap bx) : Post B s fr (.bool c) bx (.bool c) s₁ := ⟨q, b, rfl⟩

theorem rep_keep (r : Rep B s₁.heap (fun b => ¬ isBx B b ∧ (fr = true → s.heap.get? b = none)) v x) (hp : ∀ l, v ≠ .prs l) (q : Kp B s₁ s₂) :
    Rep B s₂.heap (fun b => ¬ isBx B b ∧ (fr = true → s.heap.get? b = none)) v x := r.keeps hp (fun b o g e => q.2 b o g.1 e) fun _ g _ => g

/-! ## literals, names -/
theorem do_int {i : Int} {p : Expr} (hm : constInt i p = true) (C : Cx A hB k env nm gs cs B σ bx s) : Does prog w A env B p s fr (.int i) bx := fun E => by
  rcases Bool.or_eq_true_iff.mp hm with hm | hm
  · exact intIs_e hm fun n q => wpAny_Constant_int (post_int (.refl B s) C.box)
  · refine onUn_e hm fun o a q hm => ?_
    have ho := (and2 hm).1
    refine intIs_e (C := fun a => wpAny _ _ (eval (.UnaryOp o a q) env) _ _ _) (and2 hm).2 fun n q' => ?_
    obtain rfl : o = .USub := of_decide_eq_true ho
    have e : i = - -i := (Int.neg_neg i).symm
    exact wpAny_UnaryOp (wpAny_Constant_int (neg_int ⟨⟨⟨_, _, rfl⟩, fun _ _ _ e => e⟩, C.box, ⟨_, by rw [Int.neg_neg]⟩⟩))
theorem do_bool {c : Bool} {n : Nat} {pos : Pos} (C : Cx A hB k env nm gs cs B σ bx s) : Does prog w A env B (.Constant (.bool c) n pos) s fr (.bool c) bx := fun _ =>
  wpAny_Constant_bool (post_bool (.refl B s) C.box)

theorem rd_load {n : Str} (hk : env.scope.kind = .function) (h : RdAt B env s.heap n val) {Q : Value → Shared → Prop} (hq : Q val s) {M : Model} : wpAny M A (loadName env n) Q E s := by
  rcases h with ⟨hl, ⟨m, hn, hm⟩, _⟩ | ⟨c, hl, hc, hv, _⟩
  · exact wpAny_loadName_local hk hl hn hm hq
  · exact wpAny_loadName_cell hk hl hc hv hq

theorem do_var {i : Nat} {p : Expr} (hm : isVar nm i p = true) (C : Cx A hB k env nm gs cs B σ bx s) (hv : gt σ i = some v) : Does prog w A env B p s false v bx := fun E => by
  refine isVar_e hm fun y pos h1 h2 => ?_
  obtain ⟨_, n, val, hn, hr, hv⟩ := C.vars i v hv
  have e : n = y := Option.some.inj (hn.symm.trans h1)
  subst e
  refine wpAny_Name (rd_load C.ok.kind hr ?_) h2
  exact ⟨.refl B s, C.box, hv.weaken fun b nb => ⟨nb, fun e => by cases e⟩⟩
end
end NN

/-! operators, comparisons, tests, items -/
namespace NN
open PySem PySem.W PyProof.Rows PySem.Calls
open Builtin.Int (intBits)

theorem bits_ok {a : Int} (h : okI a = true) : intBits a ≤ 101 := by
  have h := okI_le h
  unfold intBits
  split
  · (first | lia | omega)
  · have h2 : a.natAbs < 2 ^ 101 := by (first | lia | omega)
    have h3 : a.natAbs ≠ 0 := by
      intro e
      rename_i hz
      exact hz (by simpa using e)
    have := (Nat.log2_lt h3).mpr h2
    (first | lia | omega)
theorem mul_ok {a b : Int} (ha : okI a = true) (hb : okI b = true) : IntMulOk a b :=
  .of_bits (Nat.le_trans (bits_ok ha) (by decide)) (Nat.le_trans (bits_ok hb) (by decide))
theorem noPy {a b : Int} (h : okI b = true) : Builtin.divisionGoesByPylong a b = false := by
  refine PyProof.noPylong_of_log2 ?_
  have h := okI_le h
  have h2 : b.natAbs < 2 ^ 101 := by (first | lia | omega)
  by_cases h3 : b.natAbs = 0
  · rw [h3]; decide
  · have := (Nat.log2_lt h3).mpr h2
    (first | lia | omega)
theorem bitAnd_nat {a b : Int} (ha : 0 ≤ a) (hb : 0 ≤ b) : Builtin.bitAnd a b = ((a.toNat &&& b.toNat : Nat) : Int) := by
  unfold Builtin.bitAnd
  rw [decide_eq_true ha, decide_eq_true hb]

section
variable {prog : Program} {w : PySem.World} {A : Around} {hB : Heap} {fnA : Str → Option Addr} {k : Nat} {P : Fns} {env : Env} {nm : List Str} {gs cs : Str → Bool} {B : Bxa} {σ : Ev} {bx bx₁ bx₂ : Bx} {s s₁ s₂ : Shared}
  {fr fr₁ fr₂ : Bool} {u v r : V} {x y val : Value} {E : Value → Shared → Prop}

theorem pite_some {β : Type} {p : Prop} [Decidable p] {x q : β} (h : (if p then some x else none) = some q) : p ∧ x = q := by
  by_cases hp : p
  · rw [if_pos hp] at h; exact ⟨hp, Option.some.inj h⟩
  · rw [if_neg hp] at h; exact nn h
theorem inv_mul {a b c : Int} (e : opI .mul a b = some c) : IntMulOk a b ∧ a * b = c := let ⟨h, e⟩ := ite_some e; ⟨mul_ok (and2 h).1 (and2 h).2, e⟩
theorem inv_fdiv {a b c : Int} (e : opI .fdiv a b = some c) : b ≠ 0 ∧ Builtin.divisionGoesByPylong a b = false ∧ a.fdiv b = c := let ⟨h, e⟩ := ite_some e; ⟨of_decide_eq_true (and2 h).2, noPy (and2 h).1, e⟩
theorem inv_mod {a b c : Int} (e : opI .mod a b = some c) : b ≠ 0 ∧ a.fmod b = c := pite_some e
theorem inv_shl {a b c : Int} (e : opI .shl a b = some c) : 0 ≤ b ∧ intBits a + b.toNat ≤ 1101 ∧ a * 2 ^ b.toNat = c := by
  obtain ⟨h, e⟩ := ite_some e
  have h1 := of_decide_eq_true (and2 (and2 h).2).1
  have h2 := Nat.le_of_ble_eq_true (and2 (and2 h).2).2
  have h3 := bits_ok (and2 h).1
  exact ⟨h1, by (first | lia | omega), e⟩
theorem inv_shr {a b c : Int} (e : opI .shr a b = some c) : 0 ≤ b ∧ a.fdiv (2 ^ b.toNat) = c := pite_some e
theorem inv_band {a b c : Int} (e : opI .band a b = some c) : Builtin.bitAnd a b = c := let ⟨h, e⟩ := pite_some e; (bitAnd_nat h.1 h.2).trans e
theorem op_sound {o : Op} {op : Operator} {a b c : Int} {t t' : Tok} {Q : Value → Shared → Prop} (ho : opIs o op = true) (e : opI o a b = some c) (h : Q (.int c s.toks) { s with toks := s.toks + 1 }) :
    wpAny (model prog w) A (binaryOp op (.int a t) (.int b t')) Q E s := by
  obtain rfl := of_decide_eq_true ho
  cases o with
  | add => cases e; exact add_int h
  | sub => cases e; exact sub_int h
  | mul => obtain ⟨h1, rfl⟩ := inv_mul e; exact mul_int h h1
  | fdiv => obtain ⟨h1, h2, rfl⟩ := inv_fdiv e; exact floordiv_int h1 h (.inl h2)
  | mod => obtain ⟨h1, rfl⟩ := inv_mod e; exact mod_int' h1 h
  | shl => obtain ⟨h1, h2, rfl⟩ := inv_shl e; exact lshift_int h1 (by (first | lia | omega)) h
  | shr => obtain ⟨h1, rfl⟩ := inv_shr e; exact rshift_int h1 h
  | band => exact and_int (by rw [inv_band e]; exact h)
theorem iop_sound {o : Op} {op : Operator} {a b c : Int} {t t' : Tok} {Q : Value → Shared → Prop} (ho : opIs o op = true) (e : opI o a b = some c) (h : Q (.int c s.toks) { s with toks := s.toks + 1 }) :
    wpAny (model prog w) A (inplaceOp op (.int a t) (.int b t')) Q E s := by
  obtain rfl := of_decide_eq_true ho
  cases o with
  | add => cases e; exact iadd_int h
  | sub => cases e; exact isub_int h
  | mul => obtain ⟨h1, rfl⟩ := inv_mul e; exact imul_int h h1
  | fdiv => obtain ⟨h1, h2, rfl⟩ := inv_fdiv e; exact ifloordiv_int h1 h (.inl h2)
  | mod => obtain ⟨h1, rfl⟩ := inv_mod e; exact imod_int h1 h
  | shl => obtain ⟨h1, h2, rfl⟩ := inv_shl e; exact ilshift_int h1 (by (first | lia | omega)) h
  | shr => obtain ⟨h1, rfl⟩ := inv_shr e; exact irshift_int h1 h
  | band => exact iand_int (by rw [inv_band e]; exact h)

theorem cm_sound {c : Cm} {op : CmpOp} {a b : Int} {t t' : Tok} {Q : Value → Shared → Prop} (ho : cmIs c op = true) (h : Q (.bool (cmI c a b)) s) :
    wpAny (model prog w) A (compareOp op (.int a t) (.int b t')) Q E s := by
  obtain rfl := of_decide_eq_true ho
  cases c with
  | lt => exact lt_int h
  | le => exact le_int h
  | gt => exact gt_int h
  | ge => exact ge_int h
  | eq => exact eq_int h
  | ne => exact ne_int h

/-- two expressions, one behind the other -/
theorem seq2 {p q : Expr} {T : Value → Value → Sem Value} (C : Cx A hB k env nm gs cs B σ bx s)
    (hl : Does prog w A env B p s fr₁ u bx₁) (hr : ∀ s₁, Cx A hB k env nm gs cs B σ bx₁ s₁ → Kp B s s₁ → Does prog w A env B q s₁ fr₂ v bx₂) (hpr : ∀ l, u ≠ .prs l)
    (ht : ∀ x y s₂, Kp B s s₂ → BoxOk B s₂.heap bx₂ → Rep B s₂.heap (fun b => ¬ isBx B b ∧ (fr₁ = true → s.heap.get? b = none)) u x → Rep B s₂.heap (fun b => ¬ isBx B b ∧ (fr₂ = true → s.heap.get? b = none)) v y →
      ∀ E, wpAny (model prog w) A (T x y) (Post B s₂ fr r bx₂) E s₂) : ∀ E,
    wpAny (model prog w) A (eval p env) (fun x s₁ => wpAny (model prog w) A (eval q env) (fun y s₂ => wpAny (model prog w) A (T x y) (Post B s fr r bx₂) E s₂) E s₁) E s := fun E =>
  wpAny_mono (hl E) (fun x s₁ h₁ => wpAny_mono (hr s₁ (C.next h₁.1 h₁.2.1) h₁.1 E) (fun y s₂ h₂ =>
    wpAny_mono (ht x y s₂ (h₁.1.trans h₂.1) h₂.2.1 (rep_keep h₁.2.2 hpr h₂.1) (h₂.2.2.weaken fun b g => ⟨g.1, fun e => fresh_old h₁.1 g.1 (g.2 e)⟩) E)
      (fun _ _ h₃ => h₃.after (h₁.1.trans h₂.1)) fun _ _ z => z) fun _ _ z => z) fun _ _ z => z

theorem fresh_at {s : Shared} {bx : Bx} (b : BoxOk B s.heap bx) {a : Addr} (e : s.heap.get? a = none) : ¬ isBx B a := fun h => by
  obtain ⟨o, q⟩ := b.has h; rw [q] at e; first | exact nn e | cases e

theorem size_none (h : Heap) : h.get? h.objs.size = none := by
  cases e : h.get? h.objs.size with
  | none => rfl
  | some o => exact absurd (Heap.lt_size e) (Nat.lt_irrefl _)

/-- a new list of ints -/
theorem post_list {l : List Int} {vs : List Value} (b : BoxOk B s.heap bx) (hi : IntsAre vs l) {n : Nat} :
    Post B s fr (.il l) bx (.ref s.heap.objs.size) { s with heap := s.heap.push { cls := .type "list", data := .seq vs.toArray }, toks := n } := by
  have hn : ¬ isBx B s.heap.objs.size := fresh_at b (size_none _)
  exact ⟨.of_keep fun _ _ e => Heap.get?_push_of_some _ e, b.keeps fun _ _ e => Heap.get?_push_of_some _ e, ⟨_, rfl, ⟨hn, fun _ => size_none _⟩, vs, 0, IsL.new _ _, hi⟩⟩

theorem do_bin {o : Op} {op : Operator} {p q : Expr} {pos : Pos} (ho : opIs o op = true) (C : Cx A hB k env nm gs cs B σ bx s) (hpr : ∀ l, u ≠ .prs l)
    (hl : Does prog w A env B p s fr₁ u bx₁) (hr : ∀ s₁, Cx A hB k env nm gs cs B σ bx₁ s₁ → Kp B s s₁ → Does prog w A env B q s₁ fr₂ v bx₂) (e : vBin o u v = some r) :
    Does prog w A env B (.BinOp p op q pos) s fr r bx₂ := fun E => by
  refine wpAny_BinOp (seq2 C hl hr hpr (fun x y s₂ _ hb ru rv E => ?_) E)
  unfold vBin at e
  split at e
  · rename_i a b
    obtain ⟨t, rfl⟩ := ru
    obtain ⟨t', rfl⟩ := rv
    cases h : opI o a b with
    | none => rw [h] at e; first | exact nn e | cases e
    | some c =>
      rw [h] at e; first | exact nn e | cases e
      exact op_sound ho h (post_int (.refl B s₂) hb)
  · first | exact nn e | cases e

noncomputable def listDI' (ns : List Int) : PyData := .list (ns.map .int)
theorem eqvAll_ints (ns ms : List Int) : PyData.eqvAll (ns.map PyData.int) (ms.map PyData.int) = decide (ns = ms) := by
  induction ns generalizing ms with
  | nil => cases ms <;> simp [PyData.eqvAll]
  | cons a r ih =>
    cases ms with
    | nil => simp [PyData.eqvAll]
    | cons b q =>
      simp only [List.map_cons, PyData.eqvAll, PyData.eqv, ih]
      by_cases h : a = b <;> by_cases h' : r = q <;> simp [h, h']
theorem canLay_ints (ns : List Int) : PyData.canLayAll0 (ns.map PyData.int) = true := by
  induction ns with
  | nil => rfl
  | cons a r ih => exact ih
theorem depth_ints (ns : List Int) : PyData.depthAll (ns.map PyData.int) = 0 := by
  induction ns with
  | nil => rfl
  | cons a r ih => show max 0 (PyData.depthAll (r.map PyData.int)) = 0; rw [ih]; rfl
theorem shaped_int_list (ns : List Int) : SeqAt.shaped (.list (ns.map .int)) = true := by
  show (PyData.canLayAll0 (ns.map .int) && decide (PyData.depthAll (ns.map .int) + 1 ≤ 64)) = true
  rw [canLay_ints, depth_ints]; rfl
theorem eqvAll_rows (ns ms : List (List Int)) : PyData.eqvAll (ns.map listDI') (ms.map listDI') = decide (ns = ms) := by
  induction ns generalizing ms with
  | nil => cases ms <;> simp [PyData.eqvAll]
  | cons a r ih =>
    cases ms with
    | nil => simp [PyData.eqvAll]
    | cons b q =>
      simp only [List.map_cons, PyData.eqvAll, ih]
      simp only [listDI', PyData.eqv, eqvAll_ints]
      by_cases h : a = b <;> by_cases h' : r = q <;> simp [h, h']
theorem canLay_rows (ns : List (List Int)) : PyData.canLayAll0 (ns.map listDI') = true := by
  induction ns with
  | nil => rfl
  | cons a r ih => simp [PyData.canLayAll0, PyData.canLay0, listDI', canLay_ints, ih]
theorem depth_rows (ns : List (List Int)) : PyData.depthAll (ns.map listDI') ≤ 1 := by
  induction ns with
  | nil => simp [PyData.depthAll]
  | cons a r ih => simp only [List.map_cons, PyData.depthAll, listDI', PyData.depth, depth_ints] at ih ⊢; (first | lia | omega)
theorem shaped_rows (ns : List (List Int)) : SeqAt.shaped (.list (ns.map listDI')) = true := by
  have h1 := depth_rows ns
  have h2 : PyData.depth (.list (ns.map listDI')) ≤ 64 := by simp only [PyData.depth]; (first | lia | omega)
  show (PyData.canLay0 (.list (ns.map listDI')) && decide (PyData.depth (.list (ns.map listDI')) ≤ 64)) = true
  rw [Bool.and_eq_true]
  exact ⟨by simp only [PyData.canLay0]; exact canLay_rows ns, decide_eq_true h2⟩
theorem reads_rows {h : Heap} {G : Addr → Prop} {vs : List Value} {ls : List (List Int)} (p : Paired (fun y l => ∃ b, y = Value.ref b ∧ G b ∧ IntL h b l) vs ls) : ∃ as, ReadsAll h vs (ls.map listDI') as := by
  induction p with
  | nil => exact ⟨_, .nil⟩
  | cons hd _ ih =>
    obtain ⟨b, rfl, _, il⟩ := hd
    obtain ⟨vs, hl, hi⟩ := il.isList
    obtain ⟨as, ih⟩ := ih
    exact ⟨_, .cons (ints_reads hl hi) ih⟩

theorem cmp_core {c : Cm} {op : CmpOp} {p q : Expr} (ho : cmIs c op = true) (C : Cx A hB k env nm gs cs B σ bx s) (hpr : ∀ l, u ≠ .prs l)
    (hl : Does prog w A env B p s fr₁ u bx₁) (hr : ∀ s₁, Cx A hB k env nm gs cs B σ bx₁ s₁ → Kp B s s₁ → Does prog w A env B q s₁ fr₂ v bx₂) (e : vCmp c u v = some r) : ∀ E,
    wpAny (model prog w) A (eval p env) (fun x s₁ => wpAny (model prog w) A (eval q env) (fun y s₂ => wpAny (model prog w) A (compareOp op x y) (Post B s fr r bx₂) E s₂) E s₁) E s := fun E => by
  refine seq2 C hl hr hpr (fun x y s₂ _ hb ru rv E => ?_) E
  have hu : A.units + 64 < cLine := by have := C.room.units; unfold cLine; (first | lia | omega)
  unfold vCmp at e
  split at e
  · obtain ⟨t, rfl⟩ := ru
    obtain ⟨t', rfl⟩ := rv
    cases e
    exact cm_sound ho (post_bool (.refl B s₂) hb)
  · split at e
    · first | exact nn e | cases e
      obtain ⟨a, rfl, _, il⟩ := ru
      obtain ⟨b, rfl, _, il'⟩ := rv
      obtain ⟨vs, hl, hi⟩ := il.isList
      obtain ⟨us, hl', hi'⟩ := il'.isList
      obtain rfl : op = .NotEq := of_decide_eq_true ho
      refine ne_dataH (ints_reads hl hi) (ints_reads hl' hi') (shaped_int_list _) (shaped_int_list _) hu ?_
      simp only [PyData.eqv, eqvAll_ints]
      exact post_bool (.refl B s₂) hb
    · first | exact nn e | cases e
  · split at e
    · first | exact nn e | cases e
      obtain ⟨a, vs, n, rfl, _, i, pr⟩ := ru
      obtain ⟨b, us, n', rfl, _, i', pr'⟩ := rv
      obtain ⟨as, ra⟩ := reads_rows pr
      obtain ⟨as', ra'⟩ := reads_rows pr'
      obtain rfl : op = .NotEq := of_decide_eq_true ho
      refine ne_dataH (Reads.list i rfl rfl (by simpa using ra)) (Reads.list i' rfl rfl (by simpa using ra')) (shaped_rows _) (shaped_rows _) hu ?_
      simp only [PyData.eqv, eqvAll_rows]
      exact post_bool (.refl B s₂) hb
    · first | exact nn e | cases e
  · first | exact nn e | cases e
theorem plain_cmp {c : Cm} {op : CmpOp} (ho : cmIs c op = true) (q : Expr) : behindInMarks op q = false := by
  have h : (op == .In || op == .NotIn) = false := by obtain rfl := of_decide_eq_true ho; cases c <;> rfl
  cases q with
  | Set elts k pos =>
    show (k == 0 && (op == .In || op == .NotIn) && elts.all (constantsAlone 8)) = false
    rw [h, Bool.and_false, Bool.false_and]
  | _ => rfl
theorem do_cmp {c : Cm} {op : CmpOp} {p q : Expr} {pos : Pos} (ho : cmIs c op = true) (C : Cx A hB k env nm gs cs B σ bx s) (hpr : ∀ l, u ≠ .prs l)
    (hl : Does prog w A env B p s fr₁ u bx₁) (hr : ∀ s₁, Cx A hB k env nm gs cs B σ bx₁ s₁ → Kp B s s₁ → Does prog w A env B q s₁ fr₂ v bx₂) (e : vCmp c u v = some r) :
    Does prog w A env B (.Compare p [op] [q] pos) s fr r bx₂ := fun E => wpAny_Compare1 (cmp_core ho C hpr hl hr e E) (plain_cmp ho q)

/-! ## tests -/
noncomputable def Tells (prog : Program) (w : PySem.World) (A : Around) (env : Env) (B : Bxa) (p : Expr) (s : Shared) (c : Bool) (bx : Bx) : Prop :=
  ∀ E : Value → Shared → Prop, wpAny (model prog w) A (isTrue p env (eval p env)) (fun b s' => b = c ∧ Kp B s s' ∧ BoxOk B s'.heap bx) E s

theorem Post.bool {c : Bool} (h : Post B s fr (.bool c) bx x s₁) : x = .bool c ∧ Kp B s s₁ ∧ BoxOk B s₁.heap bx := ⟨h.2.2, h.1, h.2.1⟩

theorem tell_cmp {c : Cm} {op : CmpOp} {t : Bool} {p q : Expr} {pos : Pos} (ho : cmIs c op = true) (C : Cx A hB k env nm gs cs B σ bx s) (hpr : ∀ l, u ≠ .prs l)
    (hl : Does prog w A env B p s fr₁ u bx₁) (hr : ∀ s₁, Cx A hB k env nm gs cs B σ bx₁ s₁ → Kp B s s₁ → Does prog w A env B q s₁ fr₂ v bx₂) (e : vCmp c u v = some (.bool t)) :
    Tells prog w A env B (.Compare p [op] [q] pos) s t bx₂ := fun E =>
  wpAny_isTrue_Compare1 (wpAny_mono (cmp_core (fr := true) ho C hpr hl hr e E) (fun _ _ h₁ => wpAny_mono h₁ (fun _ _ h₂ => wpAny_mono h₂ (fun _ _ h₃ => by
    obtain ⟨rfl, h⟩ := h₃.bool
    exact wpAny_truthy_bool ⟨rfl, h⟩) fun _ _ z => z) fun _ _ z => z) fun _ _ z => z) (plain_cmp ho q)
theorem tell_value {c : Bool} {p : Expr} (h : Does prog w A env B p s fr (.bool c) bx)
    (he : ∀ whole, isTrue p env whole = (do let v ← whole; standAt p.pos; holding [v] (truthy v))) : Tells prog w A env B p s c bx := fun E =>
  wpAny_isTrue_value (wpAny_mono (h E) (fun _ _ h₁ => by
    obtain ⟨rfl, h⟩ := h₁.bool
    exact wpAny_truthy_bool ⟨rfl, h⟩) fun _ _ z => z) (he _)
theorem tell_not {c : Bool} {p : Expr} {pos : Pos} (h : Tells prog w A env B p s c bx) : Tells prog w A env B (.UnaryOp .Not p pos) s (!c) bx := fun E =>
  wpAny_isTrue_Not (wpAny_mono (h E) (fun _ _ ⟨e, h⟩ => ⟨by rw [e], h⟩) fun _ _ z => z)

theorem tell_bool1 {op : BoolOp} {c : Bool} {p : Expr} {pos : Pos} (h : Tells prog w A env B p s c bx) : Tells prog w A env B (.BoolOp op [p] pos) s c bx := fun E => by
  refine wpAny_isTrue_BoolOp ?_
  cases op
  · refine wpAny_allTrue_And_cons (wpAny_mono (h E) (fun b s' h' => ?_) fun _ _ z => z)
    obtain ⟨rfl, h'⟩ := h'
    cases b
    · exact ⟨rfl, h'⟩
    · exact wpAny_allTrue_And_nil ⟨rfl, h'⟩
  · refine wpAny_allTrue_Or_cons (wpAny_mono (h E) (fun b s' h' => ?_) fun _ _ z => z)
    obtain ⟨rfl, h'⟩ := h'
    cases b
    · exact wpAny_allTrue_Or_nil ⟨rfl, h'⟩
    · exact ⟨rfl, h'⟩

theorem tell_and {c₁ c : Bool} {p q : Expr} {t : List Expr} {pos : Pos} (C : Cx A hB k env nm gs cs B σ bx s) (hl : Tells prog w A env B p s c₁ bx₁)
    (hr : c₁ = true → ∀ s₁, Cx A hB k env nm gs cs B σ bx₁ s₁ → Tells prog w A env B (.BoolOp .And (q :: t) pos) s₁ c bx₂) (hf : c₁ = false → c = false ∧ bx₂ = bx₁) : Tells prog w A env B (.BoolOp .And (p :: q :: t) pos) s c bx₂ := fun E => by
  refine wpAny_isTrue_BoolOp (wpAny_allTrue_And_cons (wpAny_mono (hl E) (fun b s' h' => ?_) fun _ _ z => z))
  obtain ⟨rfl, h1, h2⟩ := h'
  cases b
  · obtain ⟨rfl, rfl⟩ := hf rfl
    exact ⟨rfl, h1, h2⟩
  · exact wpAny_mono (hr rfl s' (C.next h1 h2) E) (fun b s₃ h₃ => ⟨h₃.1, h1.trans h₃.2.1, h₃.2.2⟩) fun _ _ z => z
theorem tell_or {c₁ c : Bool} {p q : Expr} {t : List Expr} {pos : Pos} (C : Cx A hB k env nm gs cs B σ bx s) (hl : Tells prog w A env B p s c₁ bx₁)
    (hr : c₁ = false → ∀ s₁, Cx A hB k env nm gs cs B σ bx₁ s₁ → Tells prog w A env B (.BoolOp .Or (q :: t) pos) s₁ c bx₂) (hf : c₁ = true → c = true ∧ bx₂ = bx₁) : Tells prog w A env B (.BoolOp .Or (p :: q :: t) pos) s c bx₂ := fun E => by
  refine wpAny_isTrue_BoolOp (wpAny_allTrue_Or_cons (wpAny_mono (hl E) (fun b s' h' => ?_) fun _ _ z => z))
  obtain ⟨rfl, h1, h2⟩ := h'
  cases b
  · exact wpAny_mono (hr rfl s' (C.next h1 h2) E) (fun b s₃ h₃ => ⟨h₃.1, h1.trans h₃.2.1, h₃.2.2⟩) fun _ _ z => z
  · obtain ⟨rfl, rfl⟩ := hf rfl
    exact ⟨rfl, h1, h2⟩

/-! ## and, or, not, if .. else as values -/
theorem do_and {c₁ c : Bool} {p q : Expr} {t : List Expr} {pos : Pos} (C : Cx A hB k env nm gs cs B σ bx s) (hl : Does prog w A env B p s fr₁ (.bool c₁) bx₁)
    (hr : c₁ = true → ∀ s₁, Cx A hB k env nm gs cs B σ bx₁ s₁ → Kp B s s₁ → Does prog w A env B (.BoolOp .And (q :: t) pos) s₁ fr₂ (.bool c) bx₂) (hf : c₁ = false → c = false ∧ bx₂ = bx₁) : Does prog w A env B (.BoolOp .And (p :: q :: t) pos) s fr (.bool c) bx₂ := fun E => by
  refine BoolOp_and (wpAny_mono (hl E) (fun x s' h' => ?_) fun _ _ z => z)
  obtain ⟨rfl, h1, h2⟩ := h'.bool
  refine wpAny_truthy_bool ?_
  cases c₁
  · obtain ⟨rfl, rfl⟩ := hf rfl
    exact post_bool h1 h2
  · exact wpAny_mono (hr rfl s' (C.next h1 h2) h1 E) (fun y s₃ h₃ => by
      obtain ⟨rfl, h3, h4⟩ := h₃.bool
      exact post_bool (h1.trans h3) h4) fun _ _ z => z
theorem do_or {c₁ c : Bool} {p q : Expr} {t : List Expr} {pos : Pos} (C : Cx A hB k env nm gs cs B σ bx s) (hl : Does prog w A env B p s fr₁ (.bool c₁) bx₁)
    (hr : c₁ = false → ∀ s₁, Cx A hB k env nm gs cs B σ bx₁ s₁ → Kp B s s₁ → Does prog w A env B (.BoolOp .Or (q :: t) pos) s₁ fr₂ (.bool c) bx₂) (hf : c₁ = true → c = true ∧ bx₂ = bx₁) : Does prog w A env B (.BoolOp .Or (p :: q :: t) pos) s fr (.bool c) bx₂ := fun E => by
  refine BoolOp_or (wpAny_mono (hl E) (fun x s' h' => ?_) fun _ _ z => z)
  obtain ⟨rfl, h1, h2⟩ := h'.bool
  refine wpAny_truthy_bool ?_
  cases c₁
  · exact wpAny_mono (hr rfl s' (C.next h1 h2) h1 E) (fun y s₃ h₃ => by
      obtain ⟨rfl, h3, h4⟩ := h₃.bool
      exact post_bool (h1.trans h3) h4) fun _ _ z => z
  · obtain ⟨rfl, rfl⟩ := hf rfl
    exact post_bool h1 h2
theorem do_not {p : Expr} {pos : Pos} (h : Does prog w A env B p s fr₁ u bx) (e : vNot u = some r) : Does prog w A env B (.UnaryOp .Not p pos) s fr r bx := fun E => by
  unfold vNot at e
  split at e
  · first | exact nn e | cases e
    refine wpAny_UnaryOp (wpAny_mono (h E) (fun x s' h' => ?_) fun _ _ z => z)
    obtain ⟨rfl, h1, h2⟩ := h'.bool
    exact not_value (wpAny_truthy_bool (post_bool h1 h2))
  · first | exact nn e | cases e
theorem do_ife {c : Bool} {i : Int} {p q t : Expr} {pos : Pos} (C : Cx A hB k env nm gs cs B σ bx s) (hc : Tells prog w A env B p s c bx₁)
    (hl : c = true → ∀ s₁, Cx A hB k env nm gs cs B σ bx₁ s₁ → Kp B s s₁ → Does prog w A env B q s₁ fr₁ (.int i) bx₂)
    (hr : c = false → ∀ s₁, Cx A hB k env nm gs cs B σ bx₁ s₁ → Kp B s s₁ → Does prog w A env B t s₁ fr₂ (.int i) bx₂) : Does prog w A env B (.IfExp p q t pos) s fr (.int i) bx₂ := fun E => by
  refine wpAny_IfExp (wpAny_mono (hc E) (fun b s' h' => ?_) fun _ _ z => z)
  obtain ⟨rfl, h1, h2⟩ := h'
  cases b
  · exact wpAny_mono (hr rfl s' (C.next h1 h2) h1 E) (fun y s₃ h₃ => ⟨h1.trans h₃.1, h₃.2.1, h₃.2.2⟩) fun _ _ z => z
  · exact wpAny_mono (hl rfl s' (C.next h1 h2) h1 E) (fun y s₃ h₃ => ⟨h1.trans h₃.1, h₃.2.1, h₃.2.2⟩) fun _ _ z => z
end
end NN

/-! items, slices, lists, calls of built-ins and of the text's own defs -/
namespace NN
open PySem PySem.W PyProof.Rows PySem.Calls

theorem mE_plain (nm : List Str) (gs cs : Str → Bool) (e : E) (p : Expr) (q : Pos) : mE nm gs cs e (.Starred p q) = false := by cases e <;> rfl
theorem star_of {nm : List Str} {gs cs : Str → Bool} {e : E} {p : Expr} (h : mE nm gs cs e p = true) (r : List Expr) (env : Env) : starEach (p :: r) env = (false, eval p env) :: starEach r env := by
  cases p <;> first | rfl | (rw [mE_plain] at h; cases h)
theorem star_var {nm : List Str} {i : Nat} {p : Expr} (h : isVar nm i p = true) (r : List Expr) (env : Env) : starEach (p :: r) env = (false, eval p env) :: starEach r env := by
  exact isVar_e (C := fun p => starEach (p :: r) env = (false, eval p env) :: starEach r env) h fun _ _ _ _ => rfl

theorem cap_line {n : Nat} (h : n ≤ cap) : n ≤ sizeLine := Nat.le_trans h (by rw [sizeLine_eq]; decide)
theorem small_of {a b c : Int} (ha : smI a = true) (hb : smI b = true) (hc : smI c = true) : Builtin.Range.small a b c = true := by
  have ha := smI_le ha
  have hb := smI_le hb
  have hc := smI_le hc
  have hs : 0 ≤ Builtin.Range.rangeSize a b c ∧ Builtin.Range.rangeSize a b c ≤ 4000000 := by
    unfold Builtin.Range.rangeSize
    split
    · split
      · rename_i h1 h2
        have := Int.ediv_le_self c (show 0 ≤ b - a - 1 by (first | lia | omega))
        have := Int.ediv_nonneg (show 0 ≤ b - a - 1 by (first | lia | omega)) (show 0 ≤ c by (first | lia | omega))
        (first | lia | omega)
      · (first | lia | omega)
    · split
      · rename_i h1 h2
        have := Int.ediv_le_self (-c) (show 0 ≤ a - b - 1 by (first | lia | omega))
        have := Int.ediv_nonneg (show 0 ≤ a - b - 1 by (first | lia | omega)) (show 0 ≤ -c by (first | lia | omega))
        (first | lia | omega)
      · (first | lia | omega)
  unfold Builtin.Range.small Builtin.Range.rangeFitsLong
  simp only [Bool.and_eq_true, Bool.or_eq_true, decide_eq_true_eq]
  refine ⟨⟨⟨⟨⟨by (first | lia | omega), by (first | lia | omega)⟩, ⟨by (first | lia | omega), by (first | lia | omega)⟩⟩, ⟨by (first | lia | omega), by (first | lia | omega)⟩⟩, ⟨by (first | lia | omega), by (first | lia | omega)⟩⟩, .inr ?_⟩
  split <;> simp only [Bool.and_eq_true, decide_eq_true_eq] <;> constructor <;> (first | lia | omega)
theorem rangeN_size (a b c : Int) : Builtin.Range.rangeSize a b c = ((rangeN a b c : Nat) : Int) := by
  unfold Builtin.Range.rangeSize rangeN
  split
  · split
    · rename_i h1 h2
      have := Int.ediv_nonneg (show 0 ≤ b - a - 1 by (first | lia | omega)) (show 0 ≤ c by (first | lia | omega))
      exact (Int.toNat_of_nonneg (by (first | lia | omega))).symm
    · rename_i h1 h2
      rfl
  · split
    · rename_i h1 h2
      have := Int.ediv_nonneg (show 0 ≤ a - b - 1 by (first | lia | omega)) (show 0 ≤ -c by (first | lia | omega))
      exact (Int.toNat_of_nonneg (by (first | lia | omega))).symm
    · rename_i h1 h2
      rfl

section
variable {prog : Program} {w : PySem.World} {A : Around} {hB : Heap} {fnA : Str → Option Addr} {k : Nat} {P : Fns} {env : Env} {nm : List Str} {gs cs : Str → Bool} {B : Bxa} {σ : Ev} {bx bx₁ bx₂ bx₃ bx₄ : Bx} {s s₁ s₂ : Shared}
  {fr fr₁ fr₂ fr₃ fr₄ : Bool} {u v r : V} {x y val : Value} {E : Value → Shared → Prop}

/-! ## items and slices -/
theorem do_idx {p q : Expr} {pos : Pos} (hq : isSlice q = false) (C : Cx A hB k env nm gs cs B σ bx s) (hpr : ∀ l, u ≠ .prs l)
    (hl : Does prog w A env B p s fr₁ u bx₁) (hr : ∀ s₁, Cx A hB k env nm gs cs B σ bx₁ s₁ → Kp B s s₁ → Does prog w A env B q s₁ fr₂ v bx₂) (e : vIdx u v = some r) :
    Does prog w A env B (.Subscript p q pos) s fr r bx₂ := fun E => by
  refine Subscript_ (seq2 C hl hr hpr (fun x y s₂ _ hb ru rv E => ?_) E)
  unfold vIdx at e
  split at e
  · rename_i l i
    split at e
    · rename_i hi
      rw [Bool.and_eq_true] at hi
      have hs := smI_le hi.1
      have h0 := of_decide_eq_true hi.2
      obtain ⟨a, rfl, _, il⟩ := ru
      obtain ⟨t, rfl⟩ := rv
      obtain ⟨vs, hl, hI⟩ := il.isList
      cases h : l[i.toNat]? with
      | none => rw [h] at e; first | exact nn e | cases e
      | some n =>
        rw [h] at e; first | exact nn e | cases e
        obtain ⟨t', hx⟩ := hI.get i.toNat n h
        refine tail_any (ops := [.ref a, .int i t]) hl.typeIs slot_list_getitem.lookup (wpAny_getItem_list hl h0 (by (first | lia | omega)) (by simpa using hx) ⟨.refl B s₂, hb, ⟨t', rfl⟩⟩) ?_
        cases q <;> first | rfl | cases hq
    · first | exact nn e | cases e
  · first | exact nn e | cases e

theorem post_pick {l' : List Int} {vs us : List Value} {lo hi st : Option Int} {o : Obj} (b : BoxOk B s.heap bx) (h : slicePick vs.toArray lo hi st = us.toArray) (hI : IntsAre us l') :
    Post B s fr (.il l') bx (.ref (s.heap.push o).objs.size) { s with heap := (s.heap.push o).push { cls := .type "list", data := .seq (slicePick vs.toArray lo hi st) } } := by
  have b' : BoxOk B (s.heap.push o) bx := b.keeps fun _ _ e => Heap.get?_push_of_some _ e
  have hn : ¬ isBx B (s.heap.push o).objs.size := fresh_at (s := { s with heap := s.heap.push o }) b' (size_none _)
  refine ⟨.of_keep fun _ _ e => Heap.get?_push_of_some _ (Heap.get?_push_of_some _ e), b'.keeps fun _ _ e => Heap.get?_push_of_some _ e, ⟨_, rfl, ⟨hn, fun _ => ?_⟩, us, 0, ?_, hI⟩⟩
  · cases e : s.heap.get? (s.heap.push o).objs.size with
    | none => rfl
    | some q =>
      have := Heap.lt_size e
      rw [Heap.size_push] at this
      exact absurd this (Nat.not_lt.mpr (Nat.le_succ _))
  · rw [h]; exact IsL.new _ _

theorem seqK2 {p q : Expr} {K : Value → Value → (Value → Shared → Prop) → Shared → Prop} (hK : ∀ x y Q Q' s, K x y Q s → (∀ v s', Q v s' → Q' v s') → K x y Q' s) (C : Cx A hB k env nm gs cs B σ bx s)
    (hl : Does prog w A env B p s fr₁ u bx₁) (hr : ∀ s₁, Cx A hB k env nm gs cs B σ bx₁ s₁ → Kp B s s₁ → Does prog w A env B q s₁ fr₂ v bx₂) (hu : ∀ l, u ≠ .prs l)
    (ht : ∀ x y s₂, Kp B s s₂ → BoxOk B s₂.heap bx₂ → Rep B s₂.heap (fun b => ¬ isBx B b ∧ (fr₁ = true → s.heap.get? b = none)) u x → Rep B s₂.heap (fun b => ¬ isBx B b ∧ (fr₂ = true → s.heap.get? b = none)) v y → K x y (Post B s₂ fr r bx₂) s₂) : ∀ E,
    wpAny (model prog w) A (eval p env) (fun x s₁ => wpAny (model prog w) A (eval q env) (fun y s₂ => K x y (Post B s fr r bx₂) s₂) E s₁) E s := fun E =>
  wpAny_mono (hl E) (fun x s₁ h₁ => wpAny_mono (hr s₁ (C.next h₁.1 h₁.2.1) h₁.1 E) (fun y s₂ h₂ =>
    hK _ _ _ _ _ (ht x y s₂ (h₁.1.trans h₂.1) h₂.2.1 (rep_keep h₁.2.2 hu h₂.1) (h₂.2.2.weaken fun b g => ⟨g.1, fun e => fresh_old h₁.1 g.1 (g.2 e)⟩))
      (fun _ _ h₃ => h₃.after (h₁.1.trans h₂.1))) fun _ _ z => z) fun _ _ z => z
theorem seqK1 {p : Expr} {K : Value → (Value → Shared → Prop) → Shared → Prop} (hK : ∀ x Q Q' s, K x Q s → (∀ v s', Q v s' → Q' v s') → K x Q' s) (C : Cx A hB k env nm gs cs B σ bx s)
    (hl : Does prog w A env B p s fr₁ u bx₁)
    (ht : ∀ x s₂, Cx A hB k env nm gs cs B σ bx₁ s₂ → Rep B s₂.heap (fun b => ¬ isBx B b ∧ (fr₁ = true → s.heap.get? b = none)) u x → K x (Post B s₂ fr r bx₂) s₂) : ∀ E,
    wpAny (model prog w) A (eval p env) (fun x s₁ => K x (Post B s fr r bx₂) s₁) E s := fun E =>
  wpAny_mono (hl E) (fun x s₁ h₁ => hK _ _ _ _ (ht x s₁ (C.next h₁.1 h₁.2.1) h₁.2.2) (fun _ _ h₃ => h₃.after h₁.1)) fun _ _ z => z

/-- what a cut of a list gives -/
theorem cut_list {p slice : Expr} {a : Addr} {vs us : List Value} {l l' : List Int} {vl vu vs' : Value} {lo hi st : Option Int} {ops : List Value} (b : BoxOk B s.heap bx) (hl : s.heap.IsList a vs.toArray) (hI : IntsAre vs l) (hc : l.length ≤ cap)
    (pl : IsPart vl lo) (pu : IsPart vu hi) (ps : IsPart vs' st) (h0 : st ≠ some 0) (h : slicePick vs.toArray lo hi st = us.toArray) (hU : IntsAre us l')
    (hs' : subscripted slice false (.ref a) (.ref s.heap.objs.size) = operate ops (getItem (.ref a) (.ref s.heap.objs.size))) :
    wpAny (model prog w) A (subscriptTail p slice (.ref a) (.ref s.heap.objs.size)) (Post B s fr (.il l') bx) E { s with heap := s.heap.push { cls := .type "slice", data := .fields #[vl, vu, vs'] } } := by
  have hl' : (s.heap.push { cls := .type "slice", data := .fields #[vl, vu, vs'] }).IsList a vs.toArray := hl.push _
  exact tail_any (s := { s with heap := s.heap.push { cls := .type "slice", data := .fields #[vl, vu, vs'] } }) hl'.typeIs slot_list_getitem.lookup
    (wpAny_getItem_list_slice (st := st) hl' (Heap.IsSliceOf.new _ _ _ _) pl pu ps h0 (post_pick b h hU) (by rw [List.size_toArray, hI.length]; exact cap_line hc)) hs'

theorem do_upto {p q : Expr} {ps pos : Pos} (C : Cx A hB k env nm gs cs B σ bx s) (hpr : ∀ l, u ≠ .prs l)
    (hl : Does prog w A env B p s fr₁ u bx₁) (hr : ∀ s₁, Cx A hB k env nm gs cs B σ bx₁ s₁ → Kp B s s₁ → Does prog w A env B q s₁ fr₂ v bx₂) (e : vUpto u v = some r) :
    Does prog w A env B (.Subscript p (.Slice none (some q) none ps) pos) s fr r bx₂ := fun E => by
  refine Subscript_ (wpAny_mono (seqK2 (fr := fr) (r := r) (K := fun o y Q s₂ => wpAny (model prog w) A (subscriptTail p (.Slice none (some q) none ps) o (.ref s₂.heap.objs.size)) Q E { s₂ with heap := s₂.heap.push { cls := .type "slice", data := .fields #[.none, y, .none] } })
    (fun x y Q Q' s₂ h hq => wpAny_mono h hq fun _ _ z => z) C hl hr hpr (fun x y s₂ _ hb ru rv => ?_) E) (fun o s₁ h₁ => wpAny_Slice (wpAny_evalPart_none (wpAny_evalPart_some (wpAny_mono h₁ (fun y s₂ h₂ => wpAny_evalPart_none h₂) fun _ _ z => z)))) fun _ _ z => z)
  unfold vUpto at e
  split at e
  · rename_i l i
    split at e
    · rename_i hi
      obtain ⟨a, rfl, _, il⟩ := ru
      obtain ⟨t, rfl⟩ := rv
      obtain ⟨vs, hl, hI⟩ := il.isList
      cases e
      have e' : i = ((i.toNat : Nat) : Int) := (Int.toNat_of_nonneg hi.1).symm
      exact cut_list (ops := [.ref s₂.heap.objs.size, .ref a]) hb hl hI hi.2 .none (.int i t) .none (by simp) (by have q := slicePick_upto' vs.toArray i.toNat; rw [← e'] at q; exact q) (hI.take _) rfl
    · first | exact nn e | cases e
  · rename_i l i
    split at e
    · rename_i hi
      obtain ⟨a, vs, rfl, _, hl, hI⟩ := ru
      obtain ⟨t, rfl⟩ := rv
      cases e
      have e' : i = ((i.toNat : Nat) : Int) := (Int.toNat_of_nonneg hi.1).symm
      exact cut_list (ops := [.ref s₂.heap.objs.size, .ref a]) hb hl hI hi.2 .none (.int i t) .none (by simp) (by have q := slicePick_upto' vs.toArray i.toNat; rw [← e'] at q; exact q) (hI.take _) rfl
    · first | exact nn e | cases e
  · first | exact nn e | cases e
theorem vList_il {f : List Int → Option V} (e : vList f u = some r) : ∃ l, u = .il l ∧ l.length ≤ cap ∧ f l = some r := by
  unfold vList at e
  split at e
  · split at e
    · exact ⟨_, rfl, by assumption, e⟩
    · first | exact nn e | cases e
  · first | exact nn e | cases e

theorem do_from1 {p : Expr} {n : Nat} {ps pi pos : Pos} {kk : Nat} (C : Cx A hB k env nm gs cs B σ bx s)
    (hl : Does prog w A env B p s fr₁ u bx₁) (e : vList (fun x => some (.il (x.drop n))) u = some r) :
    Does prog w A env B (.Subscript p (.Slice (some (.Constant (.int (n : Int)) kk pi)) none none ps) pos) s fr r bx₁ := fun E => by
  obtain ⟨l, rfl, hc, e⟩ := vList_il e
  cases e
  refine Subscript_ (wpAny_mono (seqK1 (fr := fr) (r := .il (l.drop n)) (K := fun o Q s₂ => wpAny (model prog w) A (subscriptTail p (.Slice (some (.Constant (.int (n : Int)) kk pi)) none none ps) o (.ref s₂.heap.objs.size)) Q E
      { s₂ with heap := s₂.heap.push { cls := .type "slice", data := .fields #[.int n s₂.toks, .none, .none] }, toks := s₂.toks + 1 })
    (fun x Q Q' s₂ h hq => wpAny_mono h hq fun _ _ z => z) C hl (fun x s₂ C₂ ru => ?_) E) (fun o s₁ h₁ => wpAny_Slice (wpAny_evalPart_some (wpAny_Constant_int (wpAny_evalPart_none (wpAny_evalPart_none h₁))))) fun _ _ z => z)
  obtain ⟨a, rfl, _, il⟩ := ru
  obtain ⟨vs, hl, hI⟩ := il.isList
  exact wpAny_mono (cut_list (s := { s₂ with toks := s₂.toks + 1 }) (bx := bx₁) (fr := fr) (ops := [.ref s₂.heap.objs.size, .ref a]) C₂.box hl hI hc (.int _ _) .none .none (by simp) (slicePick_from' _ _) (hI.drop _) rfl)
    (fun _ _ h => h.after (.tok B s₂ _)) fun _ _ z => z

theorem do_all {p : Expr} {ps pos : Pos} (C : Cx A hB k env nm gs cs B σ bx s)
    (hl : Does prog w A env B p s fr₁ u bx₁) (e : vList (fun x => some (.il x)) u = some r) :
    Does prog w A env B (.Subscript p (.Slice none none none ps) pos) s fr r bx₁ := fun E => by
  obtain ⟨l, rfl, hc, e⟩ := vList_il e
  cases e
  refine Subscript_ (wpAny_mono (seqK1 (fr := fr) (r := .il l) (K := fun o Q s₂ => wpAny (model prog w) A (subscriptTail p (.Slice none none none ps) o (.ref s₂.heap.objs.size)) Q E
      { s₂ with heap := s₂.heap.push { cls := .type "slice", data := .fields #[.none, .none, .none] } })
    (fun x Q Q' s₂ h hq => wpAny_mono h hq fun _ _ z => z) C hl (fun x s₂ C₂ ru => ?_) E) (fun o s₁ h₁ => wpAny_Slice (wpAny_evalPart_none (wpAny_evalPart_none (wpAny_evalPart_none h₁)))) fun _ _ z => z)
  obtain ⟨a, rfl, _, il⟩ := ru
  obtain ⟨vs, hl, hI⟩ := il.isList
  exact cut_list (us := vs) (ops := [.ref s₂.heap.objs.size, .ref a]) C₂.box hl hI hc .none .none .none (by simp) (by rw [slicePick_plain]; simp) hI rfl

theorem rev_range (n : Nat) : sliceRange ((n : Int) - 1) (-1) (-1) = (List.range n).map fun k => n - 1 - k := by
  have e : ((if (-1 : Int) > 0 then (if (n : Int) - 1 < -1 then (-1 - ((n : Int) - 1) + -1 - 1) / -1 else 0) else (if (n : Int) - 1 > -1 then ((n : Int) - 1 - -1 - -1 - 1) / (- -1) else 0))).toNat = n := by
    rw [if_neg (by decide), show (- -1 : Int) = 1 by decide, Int.ediv_one]
    split <;> (first | lia | omega)
  unfold sliceRange
  simp only [e]
  exact List.map_congr_left fun k hk => by have := List.mem_range.mp hk; (first | lia | omega)
theorem fmap_some {α : Type} {f : Nat → Option α} {g : Nat → α} : ∀ l : List Nat, (∀ k ∈ l, f k = some (g k)) → l.filterMap f = l.map g
  | [], _ => rfl
  | a :: r, h => by rw [List.filterMap_cons, h a (.head _), List.map_cons, fmap_some r fun k hk => h k (.tail _ hk)]
theorem rev_pick (items : Array Value) : slicePick items none none (some (-1)) = items.toList.reverse.toArray := by
  unfold slicePick
  have hb : sliceBounds none none (some (-1)) items.size = ((items.size : Int) - 1, -1, -1) := by
    first
    | rfl
    | simp [sliceBounds]
  rw [hb]
  show ((sliceRange ((items.size : Int) - 1) (-1) (-1)).filterMap (items[·]?)).toArray = _
  rw [rev_range, List.filterMap_map]
  congr 1
  have h1 : ∀ k ∈ List.range items.size, ((fun x => items[x]?) ∘ fun k => items.size - 1 - k) k = some (items.toList.reverse.getD k .none) := fun k hk => by
    have := List.mem_range.mp hk
    show items[items.size - 1 - k]? = _
    rw [List.getD_eq_getElem?_getD, List.getElem?_reverse (by simpa using this)]
    simp
    rw [Array.getElem?_eq_getElem (by (first | lia | omega))]; rfl
  rw [fmap_some _ h1]
  apply List.ext_getElem
  · simp
  · intro i h2 h3
    rw [List.getElem_map, List.getElem_range, List.getD_eq_getElem?_getD, List.getElem?_eq_getElem h3]; rfl

theorem do_rev {p q : Expr} {ps pos : Pos} (C : Cx A hB k env nm gs cs B σ bx s) (hq : isM1 q = true)
    (hl : Does prog w A env B p s fr₁ u bx₁) (e : vList (fun x => some (.il x.reverse)) u = some r) :
    Does prog w A env B (.Subscript p (.Slice none none (some q) ps) pos) s fr r bx₁ := fun E => by
  obtain ⟨l, rfl, hc, e⟩ := vList_il e
  cases e
  refine onBin_e hq fun a o b pb hq => ?_
  obtain ⟨e1, eo, e2⟩ := and3 hq
  obtain rfl : o = .Sub := of_decide_eq_true eo
  refine intIs_e e1 fun n1 q1 => intIs_e e2 fun n2 q2 => ?_
  refine Subscript_ (wpAny_mono (seqK1 (fr := fr) (r := .il l.reverse) (K := fun o Q s₂ => ∀ t n, wpAny (model prog w) A (subscriptTail p (.Slice none none _ ps) o (.ref s₂.heap.objs.size)) Q E
      { s₂ with heap := s₂.heap.push { cls := .type "slice", data := .fields #[.none, .none, .int (0 - 1) t] }, toks := n })
    (fun x Q Q' s₂ h hq t n => wpAny_mono (h t n) hq fun _ _ z => z) C hl (fun x s₂ C₂ ru t n => ?_) E)
    (fun o s₁ h₁ => wpAny_Slice (wpAny_evalPart_none (wpAny_evalPart_none (wpAny_evalPart_some (wpAny_BinOp (wpAny_Constant_int (wpAny_Constant_int (sub_int (h₁ _ _))))))))) fun _ _ z => z)
  obtain ⟨a, rfl, _, il⟩ := ru
  obtain ⟨vs, hl, hI⟩ := il.isList
  exact wpAny_mono (cut_list (s := { s₂ with toks := n }) (bx := bx₁) (fr := fr) (us := vs.reverse) (ops := [.ref a, .ref s₂.heap.objs.size]) C₂.box hl hI hc .none .none (.int (0 - 1) t) (by simp) (rev_pick _) hI.reverse rfl)
    (fun _ _ h => h.after (.tok B s₂ n)) fun _ _ z => z

/-! ## lists made -/
theorem do_cat {p q : Expr} {pos : Pos} (C : Cx A hB k env nm gs cs B σ bx s) (hpr : ∀ l, u ≠ .prs l)
    (hl : Does prog w A env B p s fr₁ u bx₁) (hr : ∀ s₁, Cx A hB k env nm gs cs B σ bx₁ s₁ → Kp B s s₁ → Does prog w A env B q s₁ fr₂ v bx₂) (e : vCat u v = some r) :
    Does prog w A env B (.BinOp p .Add q pos) s fr r bx₂ := fun E => by
  refine wpAny_BinOp (seq2 C hl hr hpr (fun x y s₂ _ hb ru rv E => ?_) E)
  unfold vCat at e
  split at e
  · split at e
    · rename_i hc
      cases e
      obtain ⟨a, rfl, _, vs, n, i, hI⟩ := ru
      obtain ⟨b, rfl, _, us, n', i', hI'⟩ := rv
      refine P.add_list i i' ?_ ?_
      · have := post_list (fr := fr) (n := s₂.toks) hb (hI.append hI')
        simpa using this
      · rw [List.size_toArray, List.size_toArray, hI.length, hI'.length]
        have h1 := hc.1; have h2 := hc.2
        unfold cap at h1 h2; rw [sizeLine_eq]; (first | lia | omega)
    · first | exact nn e | cases e
  · first | exact nn e | cases e

theorem do_rep {p q : Expr} {pos : Pos} (C : Cx A hB k env nm gs cs B σ bx s) (hpr : ∀ l, u ≠ .prs l)
    (hl : Does prog w A env B p s fr₁ u bx₁) (hr : ∀ s₁, Cx A hB k env nm gs cs B σ bx₁ s₁ → Kp B s s₁ → Does prog w A env B q s₁ fr₂ v bx₂) (e : vRep u v = some r) :
    Does prog w A env B (.BinOp p .Mult q pos) s fr r bx₂ := fun E => by
  refine wpAny_BinOp (seq2 C hl hr hpr (fun x y s₂ _ hb ru rv E => ?_) E)
  unfold vRep at e
  split at e
  · rename_i a₀ n₀
    split at e
    · rename_i hc
      cases e
      obtain ⟨a, rfl, _, vs, n, i, hI⟩ := ru
      obtain ⟨t, rfl⟩ := rv
      obtain ⟨t', vs', rfl, hI'⟩ := hI.cons_inv
      have e0 := hI'.nil_inv; subst e0
      have hlo : -(100000 : Int) ≤ n₀ := by have := Nat.le_of_ble_eq_true hc; (first | lia | omega)
      have hhi : n₀ ≤ 100000 := by have := Nat.le_of_ble_eq_true hc; (first | lia | omega)
      have rep_ints : ∀ k : Nat, IntsAre (List.replicate k (Value.int a₀ t')) (List.replicate k a₀) := fun k => by
        induction k with
        | zero => exact .nil
        | succ k ih => exact .cons _ _ ih
      refine wpAny_binaryOp_repeat_ref (T := "list") (U := "int") (by decide) ⟨_, i, rfl⟩ (fun s' => typeIs_int s' n₀ t) noFill_list_mul F.fills_int_mul F.slot_int_rmul repeat_list F.slot_int_index.lookup
        (call_meets F.slot_int_rmul (typeIs_int s₂ n₀ t) F.entry_int_rmul (F.args_int_rmul_2 _ _) (int___rmul___int_list n₀ t a _ n)
          ⟨i, rfl, ⟨_, i, rfl⟩, call_meets F.slot_list_mul ⟨_, i, rfl⟩ F.entry_list_mul (F.args_list_mul_2 _ _)
            (AutoListH.list___mul___list_int_3 a _ n n₀ t (by simp [Builtin.List.listFitsIndex]; (first | lia | omega)) (by simp; (first | lia | omega)) (by simp [Builtin.List.listTooLong, sizeLine]; (first | lia | omega)))
            ⟨i, ?_⟩⟩)
      have e2 : List.foldl (fun x1 x2 => x1 ++ x2) #[] (List.replicate (if (#[Value.int a₀ t'] : Array Value).isEmpty = true then 0 else n₀.toNat) #[Value.int a₀ t']) = (List.replicate n₀.toNat (Value.int a₀ t')).toArray := by
        have := listMul_foldl_if #[Value.int a₀ t'] n₀.toNat
        rw [this]; simp [lm_rep_flat_one]
      have := post_list (fr := fr) (n := s₂.toks) hb (rep_ints n₀.toNat)
      rw [← e2] at this
      exact this
    · first | exact nn e | cases e
  · first | exact nn e | cases e

theorem do_lit {l : List Int} {es : List Expr} {pos : Pos} (hm : constsAre l es = true) (C : Cx A hB k env nm gs cs B σ bx s) (hc : l.length ≤ cap) : Does prog w A env B (.List es pos) s fr (.il l) bx := fun E => by
  have go : ∀ (l : List Int) (es : List Expr) (s : Shared) (Q : List Value → Shared → Prop), constsAre l es = true → (∀ vs n, IntsAre vs l → Q vs { s with toks := n }) →
      wpAny (model prog w) A (spliced (backTo pos (starEach es env))) Q E s := by
    intro l
    induction l with
    | nil =>
      intro es s Q hm hq
      cases es with
      | nil => exact wpAny_items_nil (hq [] s.toks .nil)
      | cons e r => first | exact nn hm | cases hm
    | cons i r ih =>
      intro es s Q hm hq
      cases es with
      | nil => first | exact nn hm | cases hm
      | cons e q =>
        have hm : (intIs i e && constsAre r q) = true := hm
        refine intIs_e (and2 hm).1 fun _ _ => ?_
        exact wpAny_items_cons (wpAny_Constant_int (ih _ _ _ (and2 hm).2 fun vs n hI => hq _ n (.cons _ _ hI)))
  refine wpAny_List (go l es s _ hm fun vs n hI => ⟨?_, ?_⟩)
  · rw [hI.length]; exact cap_line hc
  · exact post_list (n := n) C.box hI

theorem do_lst1 {e : NN.E} {p : Expr} {pos : Pos} (hm : mE nm gs cs e p = true) (C : Cx A hB k env nm gs cs B σ bx s)
    (hl : Does prog w A env B p s fr₁ u bx₁) (ev : vLst1 u = some r) : Does prog w A env B (.List [p] pos) s fr r bx₁ := fun E => by
  unfold vLst1 at ev
  split at ev
  · first | exact nn ev | cases ev
    refine wpAny_List (wpAny_items_cons (wpAny_mono (hl E) (fun x s₁ h₁ => wpAny_items_nil ⟨by simp [sizeLine_eq], ?_⟩) fun _ _ z => z) (star_of hm _ _))
    obtain ⟨q, b, t, rfl⟩ := h₁
    exact (post_list (fr := fr) (n := s₁.toks) b (.cons _ t .nil)).after q
  · first | exact nn ev | cases ev

theorem do_rows2 {e e' : NN.E} {p q : Expr} {pos : Pos} (hm : mE nm gs cs e p = true) (hm' : mE nm gs cs e' q = true) (C : Cx A hB k env nm gs cs B σ bx s) (hpr : ∀ l, u ≠ .prs l)
    (hl : Does prog w A env B p s fr₁ u bx₁) (hr : ∀ s₁, Cx A hB k env nm gs cs B σ bx₁ s₁ → Kp B s s₁ → Does prog w A env B q s₁ fr₂ v bx₂) (ev : vRows2 u v = some r) : Does prog w A env B (.List [p, q] pos) s false r bx₂ := fun E => by
  refine wpAny_List (wpAny_items_cons (wpAny_mono (seqK2 (fr := false) (r := r) (K := fun x y Q s₂ => Q (.ref s₂.heap.objs.size) { s₂ with heap := s₂.heap.push { cls := .type "list", data := .seq #[x, y] } })
    (fun x y Q Q' s₂ h hq => hq _ _ h) C hl hr hpr (fun x y s₂ k₂ hb ru rv => ?_) E) (fun x s₁ h₁ => wpAny_items_cons (wpAny_mono h₁ (fun y s₂ h₂ => wpAny_items_nil ⟨by simp [sizeLine_eq], h₂⟩) fun _ _ z => z) (star_of hm' _ _)) fun _ _ z => z) (star_of hm _ _))
  unfold vRows2 at ev
  split at ev
  · first | exact nn ev | cases ev
    obtain ⟨a, rfl, ga, il⟩ := ru
    obtain ⟨b, rfl, gb, il'⟩ := rv
    have hn : ¬ isBx B s₂.heap.objs.size := fresh_at hb (size_none _)
    refine ⟨.of_keep fun _ _ e => Heap.get?_push_of_some _ e, hb.keeps fun _ _ e => Heap.get?_push_of_some _ e, ⟨_, [.ref a, .ref b], 0, rfl, ⟨hn, fun e => by cases e⟩, IsL.new _ _, ?_⟩⟩
    exact .cons ⟨a, rfl, ⟨ga.1, fun e => by cases e⟩, il.at fun _ e => Heap.get?_push_of_some _ e⟩ (.cons ⟨b, rfl, ⟨gb.1, fun e => by cases e⟩, il'.at fun _ e => Heap.get?_push_of_some _ e⟩ .nil)
  · first | exact nn ev | cases ev
end
end NN

/-! calls -/
namespace NN
open PySem PySem.W PyProof.Rows PySem.Calls

section
variable {prog : Program} {w : PySem.World} {A : Around} {hB : Heap} {fnA : Str → Option Addr} {k : Nat} {P : Fns} {env : Env} {nm : List Str} {gs cs : Str → Bool} {B : Bxa} {σ : Ev} {bx bx₁ bx₂ bx₃ bx₄ : Bx} {s s₁ s₂ : Shared}
  {fr fr₁ fr₂ fr₃ fr₄ : Bool} {u v r v₁ v₂ v₃ v₄ : V} {x y val : Value} {E : Value → Shared → Prop}

theorem nm_fn {f : Str} {pos : Pos} {a : Addr} (bs : Base hB fnA) (C : Cx A hB k env nm gs cs B σ bx s) (hg : gs f = true) (hd : (f == ("__debug__" : Str)) = false) (ha : fnA f = some a) {M : Model} {Q : Value → Shared → Prop} (h : Q (.ref a) s) :
    wpAny M A (eval (.Name f pos) env) Q E s := by
  obtain ⟨mg, mb, g, b, hf, hb⟩ := bs.ns
  exact Name_function_global C.ok.kind (C.hgs f hg) (loadGlobal_global (by rw [C.ok.glob]; exact g.keeps C.base) (hf f a ha) h) hd
theorem nm_blt {f : Str} {pos : Pos} {v : Value} (bs : Base hB fnA) (C : Cx A hB k env nm gs cs B σ bx s) (hg : gs f = true) (hd : (f == ("__debug__" : Str)) = false)
    (ha : (f, v) ∈ ([("len", .builtin "len"), ("min", .builtin "min"), ("sum", .builtin "sum"), ("int", .type "int"), ("list", .type "list"), ("range", .type "range"), ("zip", .type "zip"), ("enumerate", .type "enumerate")] : List (Str × Value)))
    {M : Model} {Q : Value → Shared → Prop} (h : Q v s) :
    wpAny M A (eval (.Name f pos) env) Q E s := by
  obtain ⟨mg, mb, g, b, hf, hb⟩ := bs.ns
  obtain ⟨h1, h2⟩ := hb f v ha
  exact Name_function_global C.ok.kind (C.hgs f hg) (loadGlobal_builtin (by rw [C.ok.glob]; exact g.keeps C.base) h1 (by rw [C.ok.blt]; exact b.keeps C.base) h2 h) hd

/-- what may be called -/
noncomputable def Callee (hB : Heap) (f : Value) : Prop := (∃ id, f = .builtin id) ∨ (∃ t, f = .type t) ∨ ∃ a o fd, f = .ref a ∧ hB.get? a = some o ∧ o.data = .func fd

theorem callee_looks {f : Value} (hf : Callee hB f) (M : Model) (h : Heap) (X : SubH hB h) : ∃ k, (k = Keeper.frame ∨ k = Keeper.machine ∨ k = Keeper.boundFrame) ∧ Looks M h (keeperOf f) k := by
  rcases hf with ⟨id, rfl⟩ | ⟨t, rfl⟩ | ⟨a, o, fd, rfl, ho, hd⟩
  · exact ⟨.machine, .inr (.inl rfl), Looks.of_pure rfl⟩
  · exact ⟨.machine, .inr (.inl rfl), Looks.of_pure rfl⟩
  · refine ⟨.frame, .inl rfl, (Looks.ld (part := none) (X _ _ ho)).andThen ?_⟩
    rw [hd]; exact Looks.now

theorem call_eq (g : Expr) (as : List Expr) (pos : Pos) (np : Pos) (f : Str) (hg : g = .Name f np) : eval (.Call g as [] pos) env = (do callWith pos (← eval g env) [] (backTo pos (starEach as env)) (backToKw pos (keywordEach [] env))) := by
  subst hg; rfl

/-- a call by name: the name, then the places, then the call -/
theorem call_go {f : Value} {g : Expr} {a : Expr} {as : List Expr} {pos np : Pos} {n : Str} {Q : Value → Shared → Prop} (hf : Callee hB f) (hg : g = .Name n np) (hn : ∀ Q' : Value → Shared → Prop, Q' f s → wpAny (model prog w) A (eval g env) Q' E s)
    (hst : starEach (a :: as) env = (false, eval a env) :: starEach as env) (hpl : (backTo pos (starEach as env)).any (·.1) = false)
    (h : wpAny (model prog w) A (spliced (backTo pos (starEach (a :: as) env))) (fun vs s₁ => SubH hB s₁.heap ∧ wpAny (model prog w) A (call f vs) Q E s₁) E s) : wpAny (model prog w) A (eval (.Call g (a :: as) [] pos) env) Q E s := by
  rw [call_eq g (a :: as) pos np n hg]
  refine wpAny_bind (hn _ ?_)
  have e : backToKw pos (keywordEach [] env) = [] := rfl
  rw [e]
  rw [hst] at h ⊢
  refine callWith_of (P := SubH hB) ?_ (fun h' X => callee_looks hf _ h' X) (evalArgs_plain h)
  show ((false || (backTo pos (starEach as env)).any (·.1)) || false) = false
  rw [hpl]; rfl

theorem do_call1 {f : Value} {g : Expr} {p : Expr} {e : NN.E} {pos np : Pos} {n : Str} (C : Cx A hB k env nm gs cs B σ bx s) (hf : Callee hB f) (hg : g = .Name n np) (hn : ∀ E, ∀ Q' : Value → Shared → Prop, Q' f s → wpAny (model prog w) A (eval g env) Q' E s) (hm : mE nm gs cs e p = true)
    (hl : Does prog w A env B p s fr₁ u bx₁)
    (hc : ∀ x s₂, Cx A hB k env nm gs cs B σ bx₁ s₂ → Rep B s₂.heap (fun b => ¬ isBx B b) u x → ∀ E, wpAny (model prog w) A (call f [x]) (Post B s₂ fr r bx₂) E s₂) : Does prog w A env B (.Call g [p] [] pos) s fr r bx₂ := fun E => by
  refine call_go hf hg (hn E) (star_of hm [] env) rfl ?_
  refine wpAny_items_cons (wpAny_mono (hl E) (fun x s₁ h₁ => wpAny_items_nil ?_) fun _ _ z => z) (star_of hm _ _)
  have C₁ := C.next h₁.1 h₁.2.1
  exact ⟨C₁.base, wpAny_mono (hc x s₁ C₁ (h₁.2.2.weaken fun b g => g.1) E) (fun _ _ h₃ => h₃.after h₁.1) fun _ _ z => z⟩

theorem do_call2 {f : Value} {g : Expr} {p q : Expr} {e e' : NN.E} {pos np : Pos} {n : Str} (C : Cx A hB k env nm gs cs B σ bx s) (hf : Callee hB f) (hg : g = .Name n np) (hn : ∀ E, ∀ Q' : Value → Shared → Prop, Q' f s → wpAny (model prog w) A (eval g env) Q' E s)
    (hm : mE nm gs cs e p = true) (hm' : mE nm gs cs e' q = true) (hpr : ∀ l, u ≠ .prs l)
    (hl : Does prog w A env B p s fr₁ u bx₁) (hr : ∀ s₁, Cx A hB k env nm gs cs B σ bx₁ s₁ → Kp B s s₁ → Does prog w A env B q s₁ fr₂ v bx₂)
    (hc : ∀ x y s₂, Cx A hB k env nm gs cs B σ bx₂ s₂ → Rep B s₂.heap (fun b => ¬ isBx B b) u x → Rep B s₂.heap (fun b => ¬ isBx B b) v y → ∀ E, wpAny (model prog w) A (call f [x, y]) (Post B s₂ fr r bx₃) E s₂) : Does prog w A env B (.Call g [p, q] [] pos) s fr r bx₃ := fun E => by
  refine call_go hf hg (hn E) (star_of hm _ env) (by rw [star_of hm' [] env]; rfl) ?_
  refine wpAny_items_cons (wpAny_mono (hl E) (fun x s₁ h₁ => wpAny_items_cons (wpAny_mono (hr s₁ (C.next h₁.1 h₁.2.1) h₁.1 E) (fun y s₂ h₂ => wpAny_items_nil ?_) fun _ _ z => z) (star_of hm' _ _)) fun _ _ z => z) (star_of hm _ _)
  have C₂ := (C.next h₁.1 h₁.2.1).next h₂.1 h₂.2.1
  exact ⟨C₂.base, wpAny_mono (hc x y s₂ C₂ ((rep_keep h₁.2.2 hpr h₂.1).weaken fun b g => g.1) (h₂.2.2.weaken fun b g => g.1) E) (fun _ _ h₃ => h₃.after (h₁.1.trans h₂.1)) fun _ _ z => z⟩

theorem do_call3 {f : Value} {g : Expr} {p q t : Expr} {e e' e'' : NN.E} {pos np : Pos} {n : Str} (C : Cx A hB k env nm gs cs B σ bx s) (hf : Callee hB f) (hg : g = .Name n np) (hn : ∀ E, ∀ Q' : Value → Shared → Prop, Q' f s → wpAny (model prog w) A (eval g env) Q' E s)
    (hm : mE nm gs cs e p = true) (hm' : mE nm gs cs e' q = true) (hm'' : mE nm gs cs e'' t = true) (hpr : ∀ l, v₁ ≠ .prs l) (hpr' : ∀ l, v₂ ≠ .prs l)
    (h1 : Does prog w A env B p s fr₁ v₁ bx₁) (h2 : ∀ s₁, Cx A hB k env nm gs cs B σ bx₁ s₁ → Kp B s s₁ → Does prog w A env B q s₁ fr₂ v₂ bx₂) (h3 : ∀ s₁, Cx A hB k env nm gs cs B σ bx₂ s₁ → Kp B s s₁ → Does prog w A env B t s₁ fr₃ v₃ bx₃)
    (hc : ∀ x y z s₂, Cx A hB k env nm gs cs B σ bx₃ s₂ → Rep B s₂.heap (fun b => ¬ isBx B b) v₁ x → Rep B s₂.heap (fun b => ¬ isBx B b) v₂ y → Rep B s₂.heap (fun b => ¬ isBx B b) v₃ z → ∀ E, wpAny (model prog w) A (call f [x, y, z]) (Post B s₂ fr r bx₄) E s₂) :
    Does prog w A env B (.Call g [p, q, t] [] pos) s fr r bx₄ := fun E => by
  refine call_go hf hg (hn E) (star_of hm _ env) (by rw [star_of hm' _ env, star_of hm'' [] env]; rfl) ?_
  refine wpAny_items_cons (wpAny_mono (h1 E) (fun x s₁ q₁ => wpAny_items_cons (wpAny_mono (h2 s₁ (C.next q₁.1 q₁.2.1) q₁.1 E) (fun y s₂ q₂ => wpAny_items_cons (wpAny_mono
    (h3 s₂ ((C.next q₁.1 q₁.2.1).next q₂.1 q₂.2.1) (q₁.1.trans q₂.1) E) (fun z s₃ q₃ => wpAny_items_nil ?_) fun _ _ z => z) (star_of hm'' _ _)) fun _ _ z => z) (star_of hm' _ _)) fun _ _ z => z) (star_of hm _ _)
  have C₃ := ((C.next q₁.1 q₁.2.1).next q₂.1 q₂.2.1).next q₃.1 q₃.2.1
  exact ⟨C₃.base, wpAny_mono (hc x y z s₃ C₃ ((rep_keep q₁.2.2 hpr (q₂.1.trans q₃.1)).weaken fun b g => g.1) ((rep_keep q₂.2.2 hpr' q₃.1).weaken fun b g => g.1) (q₃.2.2.weaken fun b g => g.1) E)
    (fun _ _ h₃ => h₃.after ((q₁.1.trans q₂.1).trans q₃.1)) fun _ _ z => z⟩

theorem do_call4 {f : Value} {g : Expr} {p q t o : Expr} {e e' e'' e''' : NN.E} {pos np : Pos} {n : Str} {bx₅ : Bx} (C : Cx A hB k env nm gs cs B σ bx s) (hf : Callee hB f) (hg : g = .Name n np) (hn : ∀ E, ∀ Q' : Value → Shared → Prop, Q' f s → wpAny (model prog w) A (eval g env) Q' E s)
    (hm : mE nm gs cs e p = true) (hm' : mE nm gs cs e' q = true) (hm'' : mE nm gs cs e'' t = true) (hm''' : mE nm gs cs e''' o = true) (hpr : ∀ l, v₁ ≠ .prs l) (hpr' : ∀ l, v₂ ≠ .prs l) (hpr'' : ∀ l, v₃ ≠ .prs l)
    (h1 : Does prog w A env B p s fr₁ v₁ bx₁) (h2 : ∀ s₁, Cx A hB k env nm gs cs B σ bx₁ s₁ → Kp B s s₁ → Does prog w A env B q s₁ fr₂ v₂ bx₂) (h3 : ∀ s₁, Cx A hB k env nm gs cs B σ bx₂ s₁ → Kp B s s₁ → Does prog w A env B t s₁ fr₃ v₃ bx₃)
    (h4 : ∀ s₁, Cx A hB k env nm gs cs B σ bx₃ s₁ → Kp B s s₁ → Does prog w A env B o s₁ fr₄ v₄ bx₄)
    (hc : ∀ x y z a s₂, Cx A hB k env nm gs cs B σ bx₄ s₂ → Rep B s₂.heap (fun b => ¬ isBx B b) v₁ x → Rep B s₂.heap (fun b => ¬ isBx B b) v₂ y → Rep B s₂.heap (fun b => ¬ isBx B b) v₃ z → Rep B s₂.heap (fun b => ¬ isBx B b) v₄ a → ∀ E, wpAny (model prog w) A (call f [x, y, z, a]) (Post B s₂ fr r bx₅) E s₂) :
    Does prog w A env B (.Call g [p, q, t, o] [] pos) s fr r bx₅ := fun E => by
  refine call_go hf hg (hn E) (star_of hm _ env) (by rw [star_of hm' _ env, star_of hm'' _ env, star_of hm''' [] env]; rfl) ?_
  refine wpAny_items_cons (wpAny_mono (h1 E) (fun x s₁ q₁ => wpAny_items_cons (wpAny_mono (h2 s₁ (C.next q₁.1 q₁.2.1) q₁.1 E) (fun y s₂ q₂ => wpAny_items_cons (wpAny_mono
    (h3 s₂ ((C.next q₁.1 q₁.2.1).next q₂.1 q₂.2.1) (q₁.1.trans q₂.1) E) (fun z s₃ q₃ => wpAny_items_cons (wpAny_mono
    (h4 s₃ (((C.next q₁.1 q₁.2.1).next q₂.1 q₂.2.1).next q₃.1 q₃.2.1) ((q₁.1.trans q₂.1).trans q₃.1) E) (fun a s₄ q₄ => wpAny_items_nil ?_) fun _ _ z => z) (star_of hm''' _ _)) fun _ _ z => z) (star_of hm'' _ _)) fun _ _ z => z) (star_of hm' _ _)) fun _ _ z => z) (star_of hm _ _)
  have C₄ := (((C.next q₁.1 q₁.2.1).next q₂.1 q₂.2.1).next q₃.1 q₃.2.1).next q₄.1 q₄.2.1
  exact ⟨C₄.base, wpAny_mono (hc x y z a s₄ C₄ ((rep_keep q₁.2.2 hpr ((q₂.1.trans q₃.1).trans q₄.1)).weaken fun b g => g.1) ((rep_keep q₂.2.2 hpr' (q₃.1.trans q₄.1)).weaken fun b g => g.1)
    ((rep_keep q₃.2.2 hpr'' q₄.1).weaken fun b g => g.1) (q₄.2.2.weaken fun b g => g.1) E)
    (fun _ _ h₃ => h₃.after (((q₁.1.trans q₂.1).trans q₃.1).trans q₄.1)) fun _ _ z => z⟩

/-! ## the text's own defs -/
theorem go_fn {vs : List V} {a : Addr} {args : List Value} (C : Cx A hB k env nm gs cs B σ bx s) (hc : Contract prog w hB k a vs r) (hn : ∀ v ∈ vs, plainV v = true)
    (hr : Paired (fun v x => Rep B s.heap (fun b => ¬ isBx B b) v x) vs args) (hb : plainV r = true) : wpAny (model prog w) A (call (.ref a) args) (Post B s fr r bx) E s := by
  have hr' : Paired (fun v x => Rep none s.heap (fun _ => True) v x) vs args := by
    clear hc
    induction hr with
    | nil => exact .nil
    | cons h _ ih => exact .cons ((h.weaken fun _ _ => trivial).noBox (hn _ (.head _))) (ih fun v m => hn v (.tail _ m))
  refine wpAny_call (hc A s args _ (C.room.le (Nat.le_succ k)) C.base hr' fun val s' q rr => ?_)
  refine ⟨q.none B, C.box.keeps fun b o e => q.get e, ?_⟩
  exact (rr.noBox (B' := B) hb).weaken fun b g => ⟨fresh_at C.box g, fun _ => g⟩

/-! ## the built-ins -/
theorem go_len {l : List Int} (C : Cx A hB k env nm gs cs B σ bx s) (hl : l.length ≤ cap) (ru : Rep B s.heap (fun b => ¬ isBx B b) (.il l) x) : wpAny (model prog w) A (call (.builtin "len") [x]) (Post B s fr (.int l.length) bx) E s := by
  obtain ⟨a, rfl, _, il⟩ := ru
  obtain ⟨vs, hv, hI⟩ := il.isList
  unfold cap at hl
  refine call_len_list hv (by rw [List.size_toArray, hI.length]; (first | lia | omega)) ?_
  rw [List.size_toArray, hI.length]
  exact ⟨.tok B s _, C.box, ⟨_, rfl⟩⟩
theorem go_min {a b : Int} (C : Cx A hB k env nm gs cs B σ bx s) (ru : Rep B s.heap (fun b => ¬ isBx B b) (.int a) x) (rv : Rep B s.heap (fun b => ¬ isBx B b) (.int b) y) : wpAny (model prog w) A (call (.builtin "min") [x, y]) (Post B s fr (.int (min a b)) bx) E s := by
  obtain ⟨t, rfl⟩ := ru
  obtain ⟨u, rfl⟩ := rv
  refine min_two_ints C.room.hd fun h' tk hk => ⟨.of_keep hk, C.box.keeps hk, ?_⟩
  by_cases h : b < a
  · rw [if_pos h]; exact ⟨u, by rw [show min a b = b by (first | lia | omega)]⟩
  · rw [if_neg h]; exact ⟨t, by rw [show min a b = a by (first | lia | omega)]⟩
theorem go_sum {l : List Int} (C : Cx A hB k env nm gs cs B σ bx s) (ru : Rep B s.heap (fun b => ¬ isBx B b) (.il l) x) : wpAny (model prog w) A (call (.builtin "sum") [x]) (Post B s fr (.int l.sum) bx) E s := by
  obtain ⟨a, rfl, _, il⟩ := ru
  obtain ⟨vs, hv, hI⟩ := il.isList
  obtain ⟨xs, hx⟩ := hI.allInts.items
  have hn := hI.numsOf
  rw [hx] at hv
  have e : numsOf vs = xs.toList.map (·.1) := by rw [← nums_intItems, ← hx]
  refine sum_intListG C.room.hd hv fun h' tk t' hk => ⟨.of_keep hk, C.box.keeps hk, ⟨t', ?_⟩⟩
  rw [preSum_eq, List.take_of_length_le (by simp), ← e, hn]
theorem go_int {a : Int} (C : Cx A hB k env nm gs cs B σ bx s) (ru : Rep B s.heap (fun b => ¬ isBx B b) (.int a) x) : wpAny (model prog w) A (call (.type "int") [x]) (Post B s fr (.int a) bx) E s := by
  obtain ⟨t, rfl⟩ := ru
  exact call_int_int ⟨.refl B s, C.box, ⟨t, rfl⟩⟩
theorem go_list {l : List Int} (C : Cx A hB k env nm gs cs B σ bx s) (hl : l.length ≤ cap) (ru : Rep B s.heap (fun b => ¬ isBx B b) (.il l) x) : wpAny (model prog w) A (call (.type "list") [x]) (Post B s fr (.il l) bx) E s := by
  obtain ⟨a, rfl, _, vs, n, i, hI⟩ := ru
  refine call_list_seq a (.inl rfl) i rfl rfl (fun h' c' hk hD => ⟨.of_keep hk, C.box.keeps hk, ⟨_, rfl, ⟨fresh_at C.box (size_none _), fun _ => size_none _⟩, vs, c', hD, hI⟩⟩) ?_
  rw [List.size_toArray, hI.length]; exact cap_line hl
theorem rep_rng {a b c : Int} {t u v : Tok} {r : Addr} {G : Addr → Prop} {h : Heap} (hr : IsRange h r a b c t u v) (g : G r) (ha : smI a = true) (hb : smI b = true) (hc : smI c = true) (h0 : c ≠ 0) : Rep B h G (.rng (rangeL a c (rangeN a b c))) (.ref r) :=
  ⟨r, a, b, c, t, u, v, _, rfl, g, hr, h0, small_of ha hb hc, rangeN_size a b c, rfl⟩
theorem vRange_some {u v x r : V} (e : vRange u v x = some r) : ∃ a b c, u = .int a ∧ v = .int b ∧ x = .int c ∧ smI a = true ∧ smI b = true ∧ smI c = true ∧ c ≠ 0 ∧ r = .rng (rangeL a c (rangeN a b c)) := by
  unfold vRange at e
  split at e
  · split at e
    · rename_i a b c h
      simp only [Bool.and_eq_true, decide_eq_true_eq] at h
      cases e
      exact ⟨a, b, c, rfl, rfl, rfl, h.1.1.1.1, h.1.1.1.2, h.1.1.2, h.1.2, rfl⟩
    · first | exact nn e | cases e
  · first | exact nn e | cases e
theorem go_range1 (C : Cx A hB k env nm gs cs B σ bx s) (e : vRange (.int 0) u (.int 1) = some r) (ru : Rep B s.heap (fun b => ¬ isBx B b) u x) : wpAny (model prog w) A (call (.type "range") [x]) (Post B s fr r bx) E s := by
  obtain ⟨a, b, c, ea, rfl, ec, ha, hb, hc, h0, rfl⟩ := vRange_some e
  cases ea; first | exact nn ec | cases ec
  obtain ⟨t, rfl⟩ := ru
  exact call_range_1 ⟨.of_keep fun _ _ e => Heap.get?_push_of_some _ e, C.box.keeps fun _ _ e => Heap.get?_push_of_some _ e, rep_rng (IsRange.new _ _ _ _ _ _ _) ⟨fresh_at C.box (size_none _), fun _ => size_none _⟩ ha hb hc h0⟩
theorem go_range3 {z : Value} (C : Cx A hB k env nm gs cs B σ bx s) (e : vRange u v v₁ = some r) (ru : Rep B s.heap (fun b => ¬ isBx B b) u x) (rv : Rep B s.heap (fun b => ¬ isBx B b) v y) (rz : Rep B s.heap (fun b => ¬ isBx B b) v₁ z) :
    wpAny (model prog w) A (call (.type "range") [x, y, z]) (Post B s fr r bx) E s := by
  obtain ⟨a, b, c, rfl, rfl, rfl, ha, hb, hc, h0, rfl⟩ := vRange_some e
  obtain ⟨t, rfl⟩ := ru
  obtain ⟨t', rfl⟩ := rv
  obtain ⟨t'', rfl⟩ := rz
  refine call_range_3 h0 ⟨.of_keep fun _ _ e => Heap.get?_push_of_some _ e, C.box.keeps fun _ _ e => Heap.get?_push_of_some _ e, rep_rng (IsRange.new _ _ _ _ _ _ _) ⟨fresh_at C.box (size_none _), fun _ => size_none _⟩ ha hb hc h0⟩ (.inl (PyProof.noPylong_small ?_))
  have := smI_le hc
  (first | lia | omega)
theorem zip_any {G : Addr → Prop} {a b : Addr} {xs ys : List Int} {Q : Value → Shared → Prop} (gn : ∀ c, s.heap.get? c = none → G c) (il : IntL s.heap a xs) (il' : IntL s.heap b ys)
    (h : ∀ z s₂, Kp none s s₂ → ZipAt s₂.heap G z a b → Q (.ref z) s₂) : wpAny (model prog w) A (call (.type "zip") [.ref a, .ref b]) Q E s := by
  obtain ⟨vs, hl, hI⟩ := il.isList
  obtain ⟨us, hl', hI'⟩ := il'.isList
  have la : @LT.lt Nat _ a s.heap.objs.size := by obtain ⟨_, e⟩ := il.has; exact Heap.lt_size e
  have lb : @LT.lt Nat _ b s.heap.objs.size := by obtain ⟨_, e⟩ := il'.has; exact Heap.lt_size e
  have new : ∀ n : Nat, s.heap.get? (s.heap.objs.size + n) = none := fun n => by
    cases e : s.heap.get? (s.heap.objs.size + n) with
    | none => rfl
    | some o => exact absurd (Heap.lt_size e) (Nat.not_lt.mpr (Nat.le_add_right _ _))
  refine call_zip_2 hl hl' fun h' z1 z2 z3 z4 z5 _ hk => h _ { s with heap := h' } (.of_keep hk) ⟨_, _, _, _, ?_, z1, z2, ⟨_, _, z3⟩, z4, z5, ?_⟩
  · constructor <;> (show @Ne Nat _ _) <;> (first | lia | omega)
  · intro c hc
    simp only [List.mem_cons, List.not_mem_nil, or_false] at hc
    rcases hc with rfl | rfl | rfl | rfl | rfl
    · exact gn _ (new 4)
    · exact gn _ (new 2)
    · exact gn _ (new 3)
    · exact gn _ (size_none _)
    · exact gn _ (new 1)
theorem enum_any {G : Addr → Prop} {a : Addr} {xs : List Int} {Q : Value → Shared → Prop} (gn : ∀ c, s.heap.get? c = none → G c) (il : IntL s.heap a xs)
    (h : ∀ z s₂, Kp none s s₂ → EnumAt s₂.heap G z a → Q (.ref z) s₂) : wpAny (model prog w) A (call (.type "enumerate") [.ref a]) Q E s := by
  have la : @LT.lt Nat _ a s.heap.objs.size := by obtain ⟨_, e⟩ := il.has; exact Heap.lt_size e
  obtain ⟨vs, n, i, hI⟩ := il
  refine call_enumerate_1 i fun h' z1 z2 _ hk => h _ { s with heap := h' } (.of_keep hk) ⟨_, ?_, ?_, ?_, z1, z2, ?_⟩
  · show @Ne Nat _ _; (first | lia | omega)
  · show @Ne Nat _ _; (first | lia | omega)
  · show @Ne Nat _ _; (first | lia | omega)
  · intro c hc
    simp only [List.mem_cons, List.not_mem_nil, or_false] at hc
    rcases hc with rfl | rfl
    · refine gn _ ?_
      cases e : s.heap.get? (s.heap.objs.size + 1) with
      | none => rfl
      | some o => exact absurd (Heap.lt_size e) (Nat.not_lt.mpr (Nat.le_add_right _ _))
    · exact gn _ (size_none _)
theorem go_zip (C : Cx A hB k env nm gs cs B σ bx s) (e : vZip u v = some r) (ru : Rep B s.heap (fun b => ¬ isBx B b) u x) (rv : Rep B s.heap (fun b => ¬ isBx B b) v y) : wpAny (model prog w) A (call (.type "zip") [x, y]) (Post B s fr r bx) E s := by
  unfold vZip at e
  split at e
  · split at e
    · first | exact nn e | cases e
      obtain ⟨a, rfl, g, il⟩ := ru
      obtain ⟨b, rfl, g', il'⟩ := rv
      refine zip_any (G := fun b => ¬ isBx B b ∧ (fr = true → s.heap.get? b = none)) (fun c e => ⟨fresh_at C.box e, fun _ => e⟩) il il' fun z s₂ q hz => ⟨q.none B, C.box.keeps fun _ _ e => q.get e, _, rfl, .inl ⟨a, b, _, _, hz, il.at fun o e => q.get e, il'.at fun o e => q.get e, g, g', rfl⟩⟩
    · first | exact nn e | cases e
  · first | exact nn e | cases e
theorem go_enum (C : Cx A hB k env nm gs cs B σ bx s) (e : vEnum u = some r) (ru : Rep B s.heap (fun b => ¬ isBx B b) u x) : wpAny (model prog w) A (call (.type "enumerate") [x]) (Post B s fr r bx) E s := by
  unfold vEnum at e
  split at e
  · split at e
    · first | exact nn e | cases e
      obtain ⟨a, rfl, g, il⟩ := ru
      refine enum_any (G := fun b => ¬ isBx B b ∧ (fr = true → s.heap.get? b = none)) (fun c e => ⟨fresh_at C.box e, fun _ => e⟩) il fun z s₂ q hz => ⟨q.none B, C.box.keeps fun _ _ e => q.get e, _, rfl, .inr ⟨a, _, hz, il.at fun o e => q.get e, g, rfl⟩⟩
    · first | exact nn e | cases e
  · first | exact nn e | cases e
end
end NN

/-! what is gone through: lists, ranges, pairs -/
namespace NN
open PySem PySem.W PyProof.Rows PySem.Calls

/-- the stores of a target's names -/
noncomputable def stores (M : Model) (A : Around) (env : Env) : List Str → List Value → (Unit → Shared → Prop) → (Value → Shared → Prop) → Shared → Prop
  | [x], [v], Q, E, s => wpAny M A (storeName env x v) Q E s
  | [x, y], [v, u], Q, E, s => wpAny M A (storeName env x v) (fun _ s₁ => wpAny M A (storeName env y u) Q E s₁) E s
  | _, _, _, _, _ => False

structure Steps (prog : Program) (w : PySem.World) (A : Around) (target : Expr) (ts : List Str) (I : Addr) (fp wr : List Addr) (n : Nat) (R : Nat → List Value → Prop) (St : Nat → Heap → Prop) : Prop where
  sub : ∀ b ∈ wr, b ∈ fp
  frame : ∀ i h h', St i h → (∀ b ∈ fp, ∀ o, h.get? b = some o → h'.get? b = some o) → St i h'
  has : ∀ i h, St i h → ∀ b ∈ fp, ∃ o, h.get? b = some o
  turn : ∀ i, i < n → ∀ (env : Env) (s : Shared) (Q : Unit → Shared → Prop) (E : Value → Shared → Prop), St i s.heap →
    (∀ vals h' tk, R i vals → St (i + 1) h' → (∀ b o, b ∉ wr → s.heap.get? b = some o → h'.get? b = some o) → stores (model prog w) A env ts vals Q E { s with heap := h', toks := tk }) →
    wpAny (model prog w) A (pyNext (.ref I)) (fun r s₁ => ∃ v, r = some v ∧ wpAny (model prog w) A (letOwnedTupleGo target (.ref I) v) (fun _ s₂ => wpAny (model prog w) A (assign target env v) Q E s₂) E s₁) E s
  done : ∀ (s : Shared) (Q : Option Value → Shared → Prop) (E : Value → Shared → Prop), St n s.heap →
    (∀ h' tk, (∀ b o, b ∉ wr → s.heap.get? b = some o → h'.get? b = some o) → Q none { s with heap := h', toks := tk }) → wpAny (model prog w) A (pyNext (.ref I)) Q E s
  self : ∀ i (s : Shared) (Q : Value → Shared → Prop) (E : Value → Shared → Prop), St i s.heap → Q (.ref I) s → wpAny (model prog w) A (pyIter (.ref I)) Q E s

section
variable {prog : Program} {w : PySem.World} {A : Around} {target : Expr} {ts : List Str} {I : Addr} {fp wr : List Addr} {n : Nat} {R : Nat → List Value → Prop} {St : Nat → Heap → Prop}

theorem Steps.of_walks {P : Nat → Value → Prop} {x : Str} {pos : Pos} (W : Walks prog w A I fp wr n P St) (has : ∀ i h, St i h → ∀ b ∈ fp, ∃ o, h.get? b = some o) : Steps prog w A (.Name x pos) [x] I fp wr n (fun i vals => ∃ v, vals = [v] ∧ P i v) St where
  sub := W.sub
  frame := W.frame
  has := has
  turn := fun i hi env s Q E st hq => W.item i s _ _ hi st fun v h' tk hp st' hk => ⟨v, rfl, wpAny_pure (wpAny_assign_Name (hq [v] h' tk ⟨v, rfl, hp⟩ st' hk))⟩
  done := W.done
  self := W.self

theorem Steps.of_walksT {Pt : Nat → Array Value → Prop} {Mid : Nat → Addr → Heap → Prop} {P2 : Nat → Value → Value → Prop} {x y : Str} {pos px py : Pos} {kk : Nat} (hh : A.handled = none) (W : WalksT prog w A I fp wr n Pt St Mid)
    (h2 : ∀ i vals, Pt i vals → ∃ v0 v1, vals = #[v0, v1] ∧ P2 i v0 v1) (has : ∀ i h, St i h → ∀ b ∈ fp, ∃ o, h.get? b = some o) :
    Steps prog w A (.Tuple [.Name x px, .Name y py] kk pos) [x, y] I fp wr n (fun i vals => ∃ v u, vals = [v, u] ∧ P2 i v u) St where
  sub := W.sub
  frame := W.frame
  has := has
  turn := fun i hi env s Q E st hq => W.item i s _ _ hi st fun T vals h' tk hp hT hIT hMid hk => ⟨.ref T, rfl, by
    obtain ⟨v0, v1, rfl, hp2⟩ := h2 i vals hp
    refine W.go _ _ _ i T _ _ _ hMid fun h₂ st₂ hk₂ => ?_
    have ht₂ : h₂.IsTuple T #[v0, v1] := hIT.at fun o e => hk₂ T o (W.apart i T h' hMid) e
    refine wpAny_assign_Tuple hh ht₂ rfl rfl fun h₃ hx₃ => ?_
    replace hx₃ : Heap.ExtBut h₂.objs.size h₂ h₃ := hx₃
    have up₃ : ∀ b o, h₂.get? b = some o → h₃.get? b = some o := fun b o x => hx₃ b o (Nat.ne_of_lt (Heap.lt_size x)) x
    have st₃ : St (i + 1) h₃ := W.frame _ _ _ st₂ fun b _ o e => up₃ b o e
    show wpAny _ A (do holding [v1] (assign (.Name x px) env v0); do holding [] (assign (.Name y py) env v1); pure ()) _ _ _
    have := hq [v0, v1] h₃ tk ⟨v0, v1, rfl, hp2⟩ st₃ fun b o hb e => up₃ b o (hk₂ b o hb (hk b o hb e))
    refine wpAny_bind (wpAny_holding (wpAny_assign_Name (wpAny_mono this (fun _ s₁ h₁ => ?_) fun _ _ z => z)))
    exact wpAny_bind (wpAny_holding (wpAny_assign_Name (wpAny_mono h₁ (fun _ _ z => wpAny_pure z) fun _ _ z => z)))⟩
  done := W.done
  self := W.self
end

/-- an iterator made of a value, ready: what is gone through, and where it lies -/
noncomputable def Ready (prog : Program) (w : PySem.World) (A : Around) (target : Expr) (ts : List Str) (n : Nat) (R : Nat → List Value → Prop) (G H : Addr → Prop) (it : Value) (h : Heap) : Prop :=
  ∃ I fp wr St, it = .ref I ∧ Steps prog w A target ts I fp wr n R St ∧ St 0 h ∧ (∀ b ∈ fp, G b ∧ ∃ o, h.get? b = some o) ∧ ∀ b ∈ wr, H b

noncomputable def intR (l : List Int) (i : Nat) (vals : List Value) : Prop := ∃ t, vals = [.int (l.getD i 0) t]
noncomputable def pairR (l : List (Int × Int)) (i : Nat) (vals : List Value) : Prop := ∃ p t u, l[i]? = some p ∧ vals = [.int p.1 t, .int p.2 u]

section
variable {prog : Program} {w : PySem.World} {A : Around} {hB : Heap} {k : Nat} {env : Env} {B : Bxa} {bx : Bx} {s : Shared} {x : Value} {E : Value → Shared → Prop}

theorem pushNew (h : Heap) (o : Obj) (hf : o.isFreed = false) : (h.push o).get? h.objs.size = some o := Heap.get?_push_size _ hf

theorem iter_list (t : Str) (pt : Pos) {G H : Addr → Prop} {l : List Value} {a : Addr} {Q : Value → Shared → Prop} (hh : A.handled = none) (g : G a) (hn : G s.heap.objs.size) (hw : H s.heap.objs.size) (il : s.heap.IsList a l.toArray)
    (hq : ∀ it s₂, Kp none s s₂ → Ready prog w A (.Name t pt) [t] l.length (fun i vals => ∃ v, vals = [v] ∧ l[i]? = some v) G H it s₂.heap → Q it s₂) : wpAny (model prog w) A (pyIter (.ref a)) Q E s := by
  have la : a < s.heap.objs.size := by obtain ⟨o, e, _⟩ := il; exact Heap.lt_size e
  refine wpAny_pyIter_list il (hq _ { s with heap := _ } (.of_keep fun _ _ e => Heap.get?_push_of_some _ e) ?_)
  refine ⟨s.heap.objs.size, [s.heap.objs.size, a], [s.heap.objs.size], fun i h => h.IsListIter s.heap.objs.size a i ∧ h.IsList a l.toArray, rfl, ?_, ⟨⟨_, Heap.get?_push_size _ rfl, rfl, rfl⟩, il.push _⟩, ?_, fun b hb => ?_⟩
  · have W := Steps.of_walks (x := t) (pos := pt) (Walks.list (prog := prog) (w := w) hh s.heap.objs.size a (Nat.ne_of_lt la) l.toArray) fun i h st b hb => by
      rcases List.mem_cons.mp hb with rfl | hb
      · obtain ⟨o, e, _⟩ := st.1; exact ⟨o, e⟩
      · rcases List.mem_cons.mp hb with rfl | hb
        · obtain ⟨o, e, _⟩ := st.2; exact ⟨o, e⟩
        · first | exact nn hb | cases hb
    simpa using W
  · intro b hb
    rcases List.mem_cons.mp hb with rfl | hb
    · exact ⟨hn, _, Heap.get?_push_size _ rfl⟩
    · rcases List.mem_cons.mp hb with rfl | hb
      · obtain ⟨o, e, _⟩ := il.push { cls := .type "list_iterator", data := .fields #[.ref b, .int 0 0] }
        exact ⟨g, o, e⟩
      · first | exact nn hb | cases hb
  · rcases List.mem_cons.mp hb with rfl | hb
    · exact hw
    · first | exact nn hb | cases hb

theorem Steps.weakR {target : Expr} {ts : List Str} {I : Addr} {fp wr : List Addr} {n : Nat} {R R' : Nat → List Value → Prop} {St : Nat → Heap → Prop} (S : Steps prog w A target ts I fp wr n R St) (h : ∀ i vals, i < n → R i vals → R' i vals) : Steps prog w A target ts I fp wr n R' St where
  sub := S.sub
  frame := S.frame
  has := S.has
  turn := fun i hi env s Q E st hq => S.turn i hi env s Q E st fun vals h' tk r => hq vals h' tk (h i vals hi r)
  done := S.done
  self := S.self
theorem Ready.weakR {target : Expr} {ts : List Str} {n : Nat} {R R' : Nat → List Value → Prop} {G H : Addr → Prop} {it : Value} {h : Heap} (S : Ready prog w A target ts n R G H it h) (hr : ∀ i vals, i < n → R i vals → R' i vals) : Ready prog w A target ts n R' G H it h :=
  Exists.elim S fun I h => Exists.elim h fun fp h => Exists.elim h fun wr h => Exists.elim h fun St h => ⟨I, fp, wr, St, h.1, h.2.1.weakR hr, h.2.2⟩

theorem iter_ints (t : Str) (pt : Pos) {G H : Addr → Prop} {l : List Int} {a : Addr} {Q : Value → Shared → Prop} (hh : A.handled = none) (g : G a) (hn : G s.heap.objs.size) (hw : H s.heap.objs.size) (il : IntL s.heap a l)
    (hq : ∀ it s₂, Kp none s s₂ → Ready prog w A (.Name t pt) [t] l.length (intR l) G H it s₂.heap → Q it s₂) : wpAny (model prog w) A (pyIter (.ref a)) Q E s := by
  obtain ⟨vs, hl, hI⟩ := il.isList
  refine iter_list t pt hh g hn hw hl fun it s₂ q r => hq it s₂ q ?_
  rw [← hI.length]
  refine r.weakR fun i vals hi ⟨v, e, hv⟩ => ?_
  obtain ⟨t, rfl⟩ := hI.int_at i v hv
  exact ⟨t, e⟩

theorem rangeL_get (a c : Int) (n i : Nat) (h : i < n) : (rangeL a c n).getD i 0 = a + (i : Int) * c := by
  unfold rangeL
  simp [List.getD, h]
theorem rangeL_len (a c : Int) (n : Nat) : (rangeL a c n).length = n := by simp [rangeL]

theorem iter_rng (t : Str) (pt : Pos) {G H : Addr → Prop} {l : List Int} {Q : Value → Shared → Prop} (hh : A.handled = none) (hn : G s.heap.objs.size) (hw : H s.heap.objs.size) {G₀ : Addr → Prop} (r : Rep B s.heap G₀ (.rng l) x)
    (hq : ∀ it s₂, Kp none s s₂ → Ready prog w A (.Name t pt) [t] l.length (intR l) G H it s₂.heap → Q it s₂) : wpAny (model prog w) A (pyIter x) Q E s := by
  obtain ⟨r, a, b, c, t₁, u, v, n, rfl, _, hr, h0, hsm, hsz, rfl⟩ := r
  refine wpAny_pyIter_range hr hsm (hq _ { s with heap := _ } (.of_keep fun b o e => Heap.get?_push_of_some _ e) ?_)
  rw [rangeL_len]
  refine ⟨s.heap.objs.size, [s.heap.objs.size], [s.heap.objs.size], fun i h => IsRangeIter h s.heap.objs.size (a + (i : Nat) * c) ((n : Int) - (i : Nat)) c, rfl, (Steps.of_walks (x := t) (pos := pt) (Walks.range (prog := prog) (w := w) hh s.heap.objs.size a c n) fun i h st b hb => by
      rcases List.mem_cons.mp hb with rfl | hb
      · exact ⟨_, st⟩
      · cases hb).weakR fun i vals hi ⟨v, e, t, ev⟩ => ?_, ?_, ?_, fun b hb => ?_⟩
  · subst ev
    exact ⟨t, by rw [rangeL_get a c n i hi]; exact e⟩
  · rw [hsz]
    have e1 : a + ((0 : Nat) : Int) * c = a := by simp
    have e2 : (n : Int) - ((0 : Nat) : Int) = n := by simp
    show IsRangeIter _ _ _ _ _
    rw [e1, e2]
    exact Heap.get?_push_size _ rfl
  · intro b hb
    rcases List.mem_cons.mp hb with rfl | hb
    · exact ⟨hn, _, Heap.get?_push_size _ rfl⟩
    · first | exact nn hb | cases hb
  · rcases List.mem_cons.mp hb with rfl | hb
    · exact hw
    · first | exact nn hb | cases hb

theorem zip_get (xs ys : List Int) (i : Nat) (a b : Int) (h1 : xs[i]? = some a) (h2 : ys[i]? = some b) : (xs.zip ys)[i]? = some (a, b) := by
  rw [List.getElem?_zip_eq_some]; exact ⟨h1, h2⟩

theorem allc {P : Addr → Prop} {a : Addr} {l : List Addr} (h : P a) (t : ∀ b ∈ l, P b) : ∀ b ∈ a :: l, P b := fun b hb => by
  rcases List.mem_cons.mp hb with h' | h'
  · rw [h']; exact h
  · exact t b h'
theorem alln {P : Addr → Prop} : ∀ b ∈ ([] : List Addr), P b := fun _ h => nomatch h
theorem zip_ready (t t' : Str) (pt p1 p2 : Pos) (kk : Nat) {G H : Addr → Prop} {h : Heap} {z a b : Addr} {xs ys : List Int} (hh : A.handled = none) (Z : ZipAt h H z a b) (gh : ∀ b, H b → G b) (ga : G a) (gb : G b) (il : IntL h a xs) (il' : IntL h b ys) :
    Ready prog w A (.Tuple [.Name t p1, .Name t' p2] kk pt) [t, t'] (xs.zip ys).length (pairR (xs.zip ys)) G H (.ref z) h := by
  obtain ⟨TI, TO, i1, i2, D, z1, z2, ⟨q1, q2, z3⟩, z4, z5, g⟩ := Z
  obtain ⟨vs, hl, hI⟩ := il.isList
  obtain ⟨us, hl', hI'⟩ := il'.isList
  have W := WalksT.zip2 (prog := prog) (w := w) hh z TI TO i1 i2 a b D vs.toArray us.toArray
  have hn : min vs.toArray.size us.toArray.size = (xs.zip ys).length := by simp [hI.length, hI'.length]
  rw [hn] at W
  have gz := fun c hc => gh c (g c hc)
  refine ⟨z, _, _, _, rfl, (Steps.of_walksT (x := t) (y := t') (pos := pt) (px := p1) (py := p2) (kk := kk) (P2 := fun i v u => ∃ p t t', (xs.zip ys)[i]? = some p ∧ v = .int p.1 t ∧ u = .int p.2 t') hh W (fun i vals hv => ?_) fun i h' st => ?_).weakR fun i vals hi ⟨v, u, e, p, t, t', ep, ev, eu⟩ => ⟨p, t, t', ep, by rw [e, ev, eu]⟩,
    ⟨z1, z2, ⟨q1, q2, z3⟩, z4, z5, hl, hl'⟩, allc ⟨gz _ (.head _), _, z1⟩ (allc ⟨gz _ (.tail _ (.head _)), _, z2⟩ (allc ⟨gz _ (.tail _ (.tail _ (.head _))), _, z3⟩ (allc ⟨gz _ (.tail _ (.tail _ (.tail _ (.head _)))), let ⟨o, e, _⟩ := z4; ⟨o, e⟩⟩ (allc ⟨gz _ (.tail _ (.tail _ (.tail _ (.tail _ (.head _))))), let ⟨o, e, _⟩ := z5; ⟨o, e⟩⟩ (allc ⟨ga, il.has⟩ (allc ⟨gb, il'.has⟩ alln)))))),
    allc (g _ (by simp)) (allc (g _ (by simp)) (allc (g _ (by simp)) (allc (g _ (by simp)) alln)))⟩
  · obtain ⟨v, u, hv, hu, rfl⟩ := hv
    obtain ⟨n, t, rfl, en⟩ := hI.at i v (by simpa using hv)
    obtain ⟨m, t', rfl, em⟩ := hI'.at i u (by simpa using hu)
    exact ⟨_, _, rfl, (n, m), t, t', zip_get _ _ _ _ _ en em, rfl, rfl⟩
  · obtain ⟨s1, s2, ⟨_, _, s3⟩, ⟨o4, s4, _⟩, ⟨o5, s5, _⟩, ⟨o6, s6, _⟩, ⟨o7, s7, _⟩⟩ := st
    exact allc ⟨_, s1⟩ (allc ⟨_, s2⟩ (allc ⟨_, s3⟩ (allc ⟨_, s4⟩ (allc ⟨_, s5⟩ (allc ⟨_, s6⟩ (allc ⟨_, s7⟩ alln))))))

theorem enumL_get (xs : List Int) (i : Nat) (a : Int) (h : xs[i]? = some a) : (enumL xs)[i]? = some ((i : Int), a) := by
  have hi : i < xs.length := (List.getElem?_eq_some_iff.mp h).1
  have e := (List.getElem?_eq_some_iff.mp h).2
  unfold enumL
  simp [hi, List.getD, e]
theorem enumL_len (xs : List Int) : (enumL xs).length = xs.length := by simp [enumL]
theorem enum_ready (t t' : Str) (pt p1 p2 : Pos) (kk : Nat) {G H : Addr → Prop} {h : Heap} {z a : Addr} {xs : List Int} (hh : A.handled = none) (Z : EnumAt h H z a) (gh : ∀ b, H b → G b) (ga : G a) (il : IntL h a xs) :
    Ready prog w A (.Tuple [.Name t p1, .Name t' p2] kk pt) [t, t'] (enumL xs).length (pairR (enumL xs)) G H (.ref z) h := by
  obtain ⟨it, n1, n2, n3, z1, z2, g⟩ := Z
  obtain ⟨vs, hl, hI⟩ := il.isList
  have W := WalksT.enumerate (prog := prog) (w := w) hh z it a n1 n2 n3 vs.toArray
  have hn : vs.toArray.size = (enumL xs).length := by simp [hI.length, enumL_len]
  rw [hn] at W
  refine ⟨z, _, _, _, rfl, (Steps.of_walksT (x := t) (y := t') (pos := pt) (px := p1) (py := p2) (kk := kk) (P2 := fun i v u => ∃ p t t', (enumL xs)[i]? = some p ∧ v = .int p.1 t ∧ u = .int p.2 t') hh W (fun i vals hv => ?_) fun i h' st => ?_).weakR fun i vals hi ⟨v, u, e, p, t, t', ep, ev, eu⟩ => ⟨p, t, t', ep, by rw [e, ev, eu]⟩,
    ⟨⟨_, z1⟩, z2, hl⟩, allc ⟨gh _ (g _ (.head _)), _, z1⟩ (allc ⟨gh _ (g _ (.tail _ (.head _))), let ⟨o, e, _⟩ := z2; ⟨o, e⟩⟩ (allc ⟨ga, il.has⟩ alln)), fun c hc => g c hc⟩
  · obtain ⟨t, v, hv, rfl⟩ := hv
    obtain ⟨m, t', rfl, em⟩ := hI.at i v (by simpa using hv)
    exact ⟨_, _, rfl, ((i : Int), m), t, t', enumL_get _ _ _ em, rfl, rfl⟩
  · obtain ⟨⟨_, s1⟩, ⟨o2, s2, _⟩, ⟨o3, s3, _⟩⟩ := st
    exact allc ⟨_, s1⟩ (allc ⟨_, s2⟩ (allc ⟨_, s3⟩ alln))
end
end NN

/-! comprehensions -/
namespace NN
open PySem PySem.W PyProof.Rows PySem.Calls

/-! ## the names that a comprehension sees -/
noncomputable def clos (env : Env) : List (Str × NameKind) → List (Str × Addr) → List (Str × Addr)
  | [], acc => acc
  | (n, k) :: r, acc => if (k == .free) = true then clos env r ((n, (env.cells.lookup n).getD 0) :: acc) else clos env r acc

theorem clos_run (env : Env) : ∀ (l : List (Str × NameKind)) (acc : List (Str × Addr)), (∀ p ∈ l, p.2 = .free → ∃ c, env.cells.lookup p.1 = some c) →
    (forIn l acc fun x cs => (do
      let (name, kind) := x
      if kind == .free then do
        let c ← cellOf env name
        pure (ForInStep.yield ((name, c) :: cs))
      else pure (ForInStep.yield cs) : Sem (ForInStep (List (Str × Addr))))) = pure (clos env l acc)
  | [], acc, _ => by rw [List.forIn_nil]; rfl
  | (n, k) :: r, acc, h => by
    rw [List.forIn_cons]
    have ih := fun acc => clos_run env r acc fun p m => h p (.tail _ m)
    by_cases hk : (k == NameKind.free) = true
    · obtain ⟨c, hc⟩ := h (n, k) (.head _) (by simpa using hk)
      simp only [hk, if_true, clos]
      have e : cellOf env n = pure c := by unfold cellOf; rw [hc]
      rw [e]
      simp only [pure_bind]
      rw [ih, hc]; rfl
    · have hk' : (k == NameKind.free) = false := by simpa using hk
      simp only [hk', Bool.false_eq_true, if_false, clos, pure_bind]
      exact ih _

theorem closureFor_ok {env : Env} {sc : Scope} (h : ∀ p ∈ sc.names, p.2 = .free → ∃ c, env.cells.lookup p.1 = some c) : closureFor sc env = pure (clos env sc.names []) := by
  unfold closureFor
  have := clos_run env sc.names [] h
  simp only [bind_pure] at this ⊢
  exact this

theorem clos_mem (env : Env) : ∀ (l : List (Str × NameKind)) (acc : List (Str × Addr)) (x : Str), ((x, NameKind.free) ∈ l ∨ ∃ c, (x, c) ∈ acc) → ∃ c, (x, c) ∈ clos env l acc
  | [], acc, x, h => by
    rcases h with h | h
    · first | exact nn h | cases h
    · exact h
  | (n, k) :: r, acc, x, h => by
    unfold clos
    split
    · refine clos_mem env r _ x ?_
      rcases h with h | ⟨c, h⟩
      · rcases List.mem_cons.mp h with e | h
        · cases e; exact .inr ⟨_, .head _⟩
        · exact .inl h
      · exact .inr ⟨c, .tail _ h⟩
    · rename_i hk
      refine clos_mem env r _ x ?_
      rcases h with h | h
      · rcases List.mem_cons.mp h with e | h
        · cases e; exact absurd rfl hk
        · exact .inl h
      · exact .inr h
theorem clos_is (env : Env) : ∀ (l : List (Str × NameKind)) (acc : List (Str × Addr)), (∀ p ∈ l, p.2 = .free → ∃ c, env.cells.lookup p.1 = some c) → (∀ p ∈ acc, env.cells.lookup p.1 = some p.2) → ∀ p ∈ clos env l acc, env.cells.lookup p.1 = some p.2
  | [], acc, _, h => h
  | (n, k) :: r, acc, hl, h => by
    unfold clos
    split
    · rename_i hk
      refine clos_is env r _ (fun p m => hl p (.tail _ m)) fun p m => ?_
      rcases List.mem_cons.mp m with rfl | m
      · obtain ⟨c, hc⟩ := hl (n, k) (.head _) (by simpa using hk)
        show env.cells.lookup n = some ((env.cells.lookup n).getD 0)
        rw [hc]; rfl
      · exact h p m
    · exact clos_is env r _ (fun p m => hl p (.tail _ m)) h
theorem lookup_of_mem_keys {α : Type} : ∀ {l : List (Str × α)} {x : Str} {c : α}, (x, c) ∈ l → ∃ c', l.lookup x = some c'
  | (n, k) :: r, x, c, h => by
    rw [List.lookup_cons]
    cases hx : x == n with
    | true => exact ⟨k, rfl⟩
    | false =>
      rcases List.mem_cons.mp h with e | h
      · cases e; simp at hx
      · exact lookup_of_mem_keys h
theorem clos_lookup {env : Env} {sc : Scope} (h : ∀ p ∈ sc.names, p.2 = .free → ∃ c, env.cells.lookup p.1 = some c) {x : Str} {c : Addr} (hx : sc.names.lookup x = some .free) (hc : env.cells.lookup x = some c) :
    (clos env sc.names []).lookup x = some c := by
  obtain ⟨c₁, h1⟩ := clos_mem env sc.names [] x (.inl (mem_of_lookup hx))
  obtain ⟨c₂, h2⟩ := lookup_of_mem_keys h1
  have := clos_is env sc.names [] h (fun p m => nomatch m) _ (mem_of_lookup h2)
  rw [hc] at this
  rw [h2]; exact this.symm

theorem lookup_mapKey {α β : Type} (g : Str → α → β) (x : Str) : ∀ l : List (Str × α), (l.map fun p => (p.1, g p.1 p.2)).lookup x = (l.lookup x).map (g x)
  | [] => rfl
  | (n, k) :: r => by
    rw [List.map_cons, List.lookup_cons, List.lookup_cons]
    cases hx : x == n with
    | true =>
      have e := beq_iff_eq.mp hx; subst e; rfl
    | false => exact lookup_mapKey g x r
theorem relabel_lookup (sc : Scope) (env : Env) (x : Str) : (relabel sc env).names.lookup x = (sc.names.lookup x).map fun k => if (k == .free && env.scope.kind == .function && env.kindOf x == some .cell) = true then .cell else k := by
  have e : (fun (p : Str × NameKind) => match p with | (n, k) => if (k == NameKind.free && env.scope.kind == .function && env.kindOf n == some .cell) = true then (n, NameKind.cell) else (n, k)) =
      fun p => (p.1, (fun (x : Str) (k : NameKind) => if (k == .free && env.scope.kind == .function && env.kindOf x == some .cell) = true then NameKind.cell else k) p.1 p.2) := by
    funext ⟨n, k⟩
    dsimp only
    split <;> rfl
  have := lookup_mapKey (fun (x : Str) (k : NameKind) => if (k == .free && env.scope.kind == .function && env.kindOf x == some .cell) = true then NameKind.cell else k) x sc.names
  rw [← e] at this
  exact this

theorem kind_local {sc : Scope} {cl : List (Str × Addr)} {C : Addr} {env : Env} {x : Str} (h : sc.names.lookup x = some .local) : (compEnvC sc cl C env).kindOf x = some .local := by
  show (relabel sc env).names.lookup x = _
  rw [relabel_lookup, h]; simp
theorem kind_cell {sc : Scope} {cl : List (Str × Addr)} {C : Addr} {env : Env} {x : Str} (h : sc.names.lookup x = some .free) (hk : env.scope.kind = .function) (he : env.kindOf x = some .cell) : (compEnvC sc cl C env).kindOf x = some .cell := by
  show (relabel sc env).names.lookup x = _
  rw [relabel_lookup, h]; simp [hk, he]
theorem kind_glob {sc : Scope} {cl : List (Str × Addr)} {C : Addr} {env : Env} {x : Str} (h : gsOf sc x = true) : (compEnvC sc cl C env).kindOf x = some .globalImplicit := by
  show (relabel sc env).names.lookup x = _
  rw [relabel_lookup, of_decide_eq_true h]; simp

structure ScopeFits (cs : Str → Bool) (nm ts : List Str) (caps : List Nat) (sc : Scope) : Prop where
  kind : sc.kind = .function
  loc : ∀ x ∈ ts, sc.names.lookup x = some .local
  nodup : ts.Nodup
  capIn : ∀ i ∈ caps, i < nm.length
  cap : ∀ x ∈ capNames nm caps, sc.names.lookup x = some .free ∧ cs x = true
  noCell : ∀ p ∈ sc.names, p.2 ≠ .cell
  locs : ∀ p ∈ sc.names, p.2 = .local → sc.names.lookup p.1 = some .local
  frees : ∀ p ∈ sc.names, p.2 = .free → cs p.1 = true
theorem scope_fits {cs : Str → Bool} {nm ts : List Str} {caps : List Nat} {sc : Scope} (h : scopeOk cs nm ts caps sc = true) : ScopeFits cs nm ts caps sc := by
  unfold scopeOk at h
  simp only [Bool.and_eq_true, List.all_eq_true, decide_eq_true_eq, Bool.or_eq_true, Bool.not_eq_true'] at h
  obtain ⟨⟨⟨⟨⟨h1, h2⟩, h3⟩, h4⟩, h5⟩, h6⟩ := h
  exact ⟨h1, fun x m => (h2 x m).1, h3, h4, h5, fun p m => (h6 p m).1.1, fun p m e => by
    rcases (h6 p m).1.2 with q | q
    · exact absurd e q
    · exact q, fun p m e => by
    rcases (h6 p m).2 with q | q
    · exact absurd e q
    · exact q⟩

/-! ## rounds -/
theorem gt_get (σ : Ev) (i : Nat) : gt σ i = (σ[i]?).bind id := by
  induction σ generalizing i with
  | nil => rfl
  | cons v r ih =>
    cases i with
    | zero => simp [gt]
    | succ i => simpa [gt] using ih i
end NN

/-! comprehensions: the rounds -/
namespace NN
open PySem PySem.W PyProof.Rows PySem.Calls

section
variable {prog : Program} {w : PySem.World} {A : Around} {R : Result → Shared → Prop} {s : Shared}

/-- the rounds of a comprehension, whatever its target -/
theorem compLoop_any {elt target iter : Expr} {ifs : List Expr} {scope : Scope} {pos : Pos} {it acc : Value} {env : Env} (I : Nat → Shared → Prop)
    (turn : ∀ n s, I n s → ∀ E : Value → Shared → Prop, wpAny (model prog w) A (pyNext it) (fun r s₁ => match r with
      | none => R (.ok .next) s₁
      | some v => wpAny (model prog w) A (letOwnedTupleGo target it v) (fun _ s₁' => wpAny (model prog w) A (assign target env v) (fun _ s₂ =>
          wpAny (model prog w) A (forIn ifs true fun c r => if r = true then do let ok ← isTrue c env (eval c env); pure (ForInStep.yield ok) else pure (ForInStep.yield r)) (fun ok s₃ =>
            if ok = true then wpAny (model prog w) A (eval elt env) (fun x s₄ =>
              wpAny (model prog w) A (call (.builtin "list.append") [acc, x]) (fun _ s₅ => ∃ m, m < n ∧ I m s₅) E s₄) E s₃
            else ∃ m, m < n ∧ I m s₃) E s₂) E s₁') E s₁) E s)
    (n : Nat) (h : I n s) :
    codeAny (model prog w) A (.compLoop (.ListComp elt [⟨target, iter, ifs, 0⟩] scope pos) 0 it acc env) R s := by
  refine codeAny_loop rfl I (fun n s hI => ?_) n h
  show wpAny _ A ((compTurn (.ListComp elt [⟨target, iter, ifs, 0⟩] scope pos) 0 it acc env).onRaise (fun x => do noteFrame x env; theTreesLotGoes x)) _ _ s
  refine wpAny_noted ?_
  rw [compTurn_list]
  refine wpAny_bind (wpAny_standAt (wpAny_bind (wpAny_mono (turn n s hI _) (fun r s₁ h₁ => ?_) fun _ _ h' => h')))
  cases r with
  | none => exact wpAny_pure h₁
  | some v =>
    refine wpAny_bind (wpAny_mono h₁ (fun _ s₁' h₁' => ?_) fun _ _ h' => h')
    refine wpAny_bind (wpAny_mono h₁' (fun _ s₂ h₂ => wpAny_bind (wpAny_mono h₂ (fun ok s₃ h₃ => ?_) fun _ _ h' => h')) fun _ _ h' => h')
    cases ok with
    | false => exact wpAny_pure ⟨rfl, h₃⟩
    | true =>
      exact wpAny_bind (wpAny_bind (wpAny_mono h₃ (fun x s₄ h₄ => wpAny_bind (wpAny_mono h₄ (fun _ s₅ h₅ => wpAny_pure (wpAny_pure ⟨rfl, h₅⟩)) fun _ _ h' => h')) fun _ _ h' => h'))

theorem stores_local {env : Env} {ts : List Str} {vals : List Value} {m : Str → Option Value} {Q : Unit → Shared → Prop} {E : Value → Shared → Prop} (hk : env.scope.kind = .function) (hl : ∀ x ∈ ts, env.kindOf x = some .local) (hnd : ts.Nodup)
    (hlen : vals.length = ts.length) (h12 : ts.length = 1 ∨ ts.length = 2) (hn : s.heap.Ns env.locals m)
    (hq : ∀ h' tk m', h'.Ns env.locals m' → (∀ (i : Nat) x v, ts[i]? = some x → vals[i]? = some v → m' x = some v) → Heap.SameBut env.locals s.heap h' → Q () { s with heap := h', toks := tk }) : stores (model prog w) A env ts vals Q E s := by
  have hp : (env.scope.kind == .class || (env.scope.kind == .module && env.locals != env.globals)) = false := by rw [hk]; rfl
  rcases h12 with h | h
  · obtain ⟨x, r, rfl, k1⟩ := len_cons h
    obtain rfl := len_nil k1
    obtain ⟨v, r, rfl, k2⟩ := len_cons hlen
    obtain rfl := len_nil k2
    refine wpAny_storeName_local (hl x (.head _)) hn (fun h' hn' hs => hq h' _ _ hn' (fun i y u h1 h2 => ?_) hs) hp
    cases i with
    | zero => cases h1; cases h2; exact if_pos rfl
    | succ i => first | exact nn h1 | cases h1
  · obtain ⟨x, r, rfl, k1⟩ := len_cons h
    obtain ⟨y, r, rfl, k2⟩ := len_cons k1
    obtain rfl := len_nil k2
    obtain ⟨v, r, rfl, k3⟩ := len_cons hlen
    obtain ⟨u, r, rfl, k4⟩ := len_cons k3
    obtain rfl := len_nil k4
    have hxy : x ≠ y := fun e => by subst e; simp at hnd
    refine wpAny_storeName_local (hl x (.head _)) hn (fun h' hn' hs => ?_) hp
    refine wpAny_storeName_local (hl y (.tail _ (.head _))) hn' (fun h'' hn'' hs' => hq h'' _ _ hn'' (fun i z u h1 h2 => ?_) (hs.trans hs')) hp
    cases i with
    | zero => cases h1; cases h2; exact (if_neg hxy).trans (if_pos rfl)
    | succ i => cases i with
      | zero => cases h1; cases h2; exact if_pos rfl
      | succ i => first | exact nn h1 | cases h1
end

/-- a round's values, in the heap -/
noncomputable def RoundRep (B : Bxa) (h : Heap) (e : Ev) (vals : List Value) : Prop := Paired (fun ov x => ∃ v, ov = some v ∧ (∀ l, v ≠ .prs l) ∧ Rep B h (fun b => ¬ isBx B b) v x) e vals

theorem paired_get {α β : Type} {F : α → β → Prop} {l₁ : List α} {l₂ : List β} (p : Paired F l₁ l₂) (i : Nat) (a : α) (h : l₁[i]? = some a) : ∃ b, l₂[i]? = some b ∧ F a b := by
  induction p generalizing i with
  | nil => simp at h
  | cons hf _ ih =>
    cases i with
    | zero => simp at h; subst h; exact ⟨_, rfl, hf⟩
    | succ i => exact ih i (by simpa using h)

theorem compEnv_ok {env : Env} {cs : Str → Bool} {nm ts : List Str} {caps : List Nat} {sc : Scope} {cl : List (Str × Addr)} {C : Addr} (F : ScopeFits cs nm ts caps sc) (ok : EnvOk env) : EnvOk (compEnvC sc cl C env) :=
  ⟨F.kind, ok.glob, ok.blt⟩

section
variable {prog : Program} {w : PySem.World} {A : Around} {hB : Heap} {k : Nat} {env : Env} {nm ts : List Str} {gs cs : Str → Bool} {B : Bxa} {σ e : Ev} {bx bx₁ bx₂ : Bx} {s s₁ s₂ : Shared} {caps : List Nat} {sc : Scope}

/-- what the comprehension's own names hold -/
theorem comp_vars {C : Addr} {m : Str → Option Value} {vals : List Value} (F : ScopeFits cs nm ts caps sc) (X : Cx A hB k env nm gs cs B σ bx s) (hC : ¬ isBx B C) (hn : s.heap.Ns C m)
    (hlen : e.length = ts.length) (hr : RoundRep B s.heap e vals) (hm : ∀ (i : Nat) x v, ts[i]? = some x → vals[i]? = some v → m x = some v) :
    VarsOk B (compEnvC sc (clos env sc.names []) C env) (ts ++ capNames nm caps) (e ++ caps.map (gt σ)) s.heap := fun i v hv => by
  rw [gt_get] at hv
  have hfree : ∀ p ∈ sc.names, p.2 = .free → ∃ c, env.cells.lookup p.1 = some c := fun p m e => (X.hcs _ (F.frees p m e)).2
  by_cases hi : i < e.length
  · rw [List.getElem?_append_left hi] at hv
    cases he : e[i]? with
    | none => rw [he] at hv; first | exact nn hv | cases hv
    | some ov =>
      rw [he] at hv
      have hv : ov = some v := hv
      subst hv
      obtain ⟨x, hx, v', e', n, r⟩ := paired_get hr i _ he
      cases e'
      have ht : ts[i]? = some (ts[i]'(by (first | lia | omega))) := List.getElem?_eq_getElem _
      refine ⟨n, _, x, by rw [List.getElem?_append_left (by (first | lia | omega))]; exact ht, .inl ⟨kind_local (F.loc _ (List.getElem_mem _)), ⟨m, hn, hm i _ _ ht hx⟩, hC⟩, r⟩
  · rw [List.getElem?_append_right (by (first | lia | omega))] at hv
    rw [List.getElem?_map] at hv
    cases hc : caps[i - e.length]? with
    | none => rw [hc] at hv; first | exact nn hv | cases hv
    | some c =>
      rw [hc] at hv
      have hv : gt σ c = some v := hv
      obtain ⟨n, x, val, hx, hr, rr⟩ := X.vars c v hv
      have hmem := List.mem_of_getElem? hc
      have hcap := F.capIn c hmem
      have hxn : nm.getD c (Str.ofString "") = x := by rw [List.getD_eq_getElem?_getD, hx]; rfl
      have hname : (capNames nm caps)[i - e.length]? = some x := by
        unfold capNames
        rw [List.getElem?_map, hc]
        simpa [List.getD_eq_getElem?_getD] using hxn
      obtain ⟨f1, f2⟩ := F.cap x (List.mem_of_getElem? hname)
      obtain ⟨k1, c', hc'⟩ := X.hcs x f2
      refine ⟨n, x, val, by rw [List.getElem?_append_right (by (first | lia | omega)), ← hlen]; exact hname, ?_, rr⟩
      rcases hr with ⟨hl, _⟩ | ⟨c₁, hl, hc₁, hv, nb⟩
      · rw [hl] at k1; first | exact nn k1 | cases k1
      · exact .inr ⟨c₁, kind_cell f1 X.ok.kind k1, clos_lookup hfree f1 hc₁, hv, nb⟩

/-- the rounds, as the small evaluation goes through them -/
theorem compLoop_cons {f : Ev → Bx → Option (Option V × Bx)} {b b'' : Bx} {r : List Ev} {vs : List V} (h : compLoop f (e :: r) b = some (vs, b'')) :
    ∃ ov b' vs', f e b = some (ov, b') ∧ compLoop f r b' = some (vs', b'') ∧ vs = ov.toList ++ vs' := by
  unfold compLoop at h
  cases h1 : f e b with
  | none => rw [h1] at h; first | exact nn h | cases h
  | some q =>
    obtain ⟨ov, b'⟩ := q
    rw [h1] at h
    dsimp only at h
    cases h2 : compLoop f r b' with
    | none => rw [h2] at h; first | exact nn h | cases h
    | some q =>
      obtain ⟨vs', b₂⟩ := q
      rw [h2] at h
      cases h
      exact ⟨ov, b', vs', rfl, h2, rfl⟩

theorem packI_ints {h : Heap} {G : Addr → Prop} {ys : List Value} {vs : List V} {l : List Int} (p : Paired (fun y v => Rep B h G v y) ys vs) (e : packI vs = some l) : IntsAre ys l := by
  induction p generalizing l with
  | nil => cases e; exact .nil
  | cons hf _ ih =>
    unfold packI at e
    split at e
    · rename_i hh; first | exact nn hh | cases hh
    · rename_i hh
      cases hh
      rename_i i r _ _ _
      cases h2 : packI r with
      | none => rw [h2] at e; first | exact nn e | cases e
      | some l' =>
        rw [h2] at e; first | exact nn e | cases e
        obtain ⟨t, rfl⟩ := hf
        exact .cons _ t (ih h2)
    · first | exact nn e | cases e
theorem packL_rows {h : Heap} {G : Addr → Prop} {ys : List Value} {vs : List V} {l : List (List Int)} (p : Paired (fun y v => Rep B h G v y) ys vs) (e : packL vs = some l) :
    Paired (fun y l => ∃ b, y = Value.ref b ∧ G b ∧ IntL h b l) ys l := by
  induction p generalizing l with
  | nil => cases e; exact .nil
  | cons hf _ ih =>
    unfold packL at e
    split at e
    · rename_i hh; first | exact nn hh | cases hh
    · rename_i hh
      cases hh
      rename_i i r _ _ _
      cases h2 : packL r with
      | none => rw [h2] at e; first | exact nn e | cases e
      | some l' =>
        rw [h2] at e; first | exact nn e | cases e
        exact .cons hf (ih h2)
    · first | exact nn e | cases e

theorem paired_keeps {h h' : Heap} {G G' : Addr → Prop} {ys : List Value} {dn : List V} (p : Paired (fun y v => Rep B h G v y) ys dn) (hp : ∀ v ∈ dn, ∀ l, v ≠ .prs l) (hk : ∀ b o, G b → h.get? b = some o → h'.get? b = some o) (hG : ∀ b, G b → G' b) :
    Paired (fun y v => Rep B h' G' v y) ys dn := by
  induction p with
  | nil => exact .nil
  | cons hf _ ih => exact .cons (hf.keeps (hp _ (.head _)) hk fun b g _ => hG b g) (ih fun v m => hp v (.tail _ m))

theorem box_keeps {h h' : Heap} (x : BoxOk B h bx) (hk : ∀ b o, isBx B b → h.get? b = some o → h'.get? b = some o) : BoxOk B h' bx := by
  cases bx with
  | none => exact x
  | some q =>
    obtain ⟨l, k⟩ := q
    obtain ⟨aB, aL, t, vs, n, m, e, ne, i1, i2, r⟩ := x
    exact ⟨aB, aL, t, vs, n, m, e, ne, hk _ _ ⟨_, e, .inl rfl⟩ i1, hk _ _ ⟨_, e, .inr rfl⟩ i2, r⟩

/-- a comprehension, when its iterator stands -/
noncomputable def compTail (prog : Program) (w : PySem.World) (A : Around) (env : Env) (sc : Scope) (elt target iter : Expr) (ifs : List Expr) (pos : Pos) (RR : Value → Addr → Result → Shared → Prop) (it : Value) (E : Value → Shared → Prop) (s : Shared) : Prop :=
  wpAny (model prog w) A (newList []) (fun acc s₃ => wpAny (model prog w) A (newFunctionEnv sc env.globals (clos env sc.names []) [] env.qual none .none (some env)) (fun cenv s₄ =>
      codeAny (model prog w) A (.compStart (.ListComp elt [⟨target, iter, ifs, 0⟩] sc pos) 0 it acc { cenv with scope := relabel sc env }) (RR acc cenv.locals) s₄) E s₃) E s

/-- what stands between two rounds of a comprehension -/
inductive CompInv (B : Bxa) (f : Ev → Bx → Option (Option V × Bx)) (its : List Ev) (vs : List V) (bx₂ : Bx) (s s₀ : Shared) (H : Addr → Prop) (wr : List Addr) (St : Nat → Heap → Prop) (D C : Addr) (n : Nat) (s' : Shared) : Prop
  | mk (h' : Heap) (tk : Nat) (m' : Str → Option Value) (ys : List Value) (c : Nat) (dn : List V) (rest : List Ev) (bxi : Bx) (i : Nat) (vr : List V) (e : s' = { s with heap := h', toks := tk }) (hn : n = rest.length) (hd : its.drop i = rest) (hi : i ≤ its.length) (st : St i h')
      (hl : IsL h' D (List.toArray ys) c) (hp : Paired (fun y v => Rep B h' (fun b => ¬ isBx B b ∧ b ≠ C ∧ b ≠ D ∧ b ∉ wr ∧ s₀.heap.get? b = none) v y) ys dn) (hpr : ∀ v ∈ dn, ∀ l, v ≠ .prs l) (hys : ys.length ≤ i) (hns : h'.Ns C m') (hbx : BoxOk B h' bxi)
      (hlp : compLoop f rest bxi = some (vr, bx₂)) (hvs : vs = dn ++ vr) (hk : ∀ b o, ¬ isBx B b → ¬ H b → s.heap.get? b = some o → h'.get? b = some o)

theorem comp_run {target iter elt : Expr} {ifs : List Expr} {pos : Pos} {it : Value} {its : List Ev} {Rd : Nat → List Value → Prop} {vs : List V} {v : V} {rw : Bool} {H : Addr → Prop} {s₀ : Shared} {bx₀ : Bx}
    {f : Ev → Bx → Option (Option V × Bx)} {RR : Value → Addr → Result → Shared → Prop}
    (F : ScopeFits cs nm ts caps sc) (X₀ : Cx A hB k env nm gs cs B σ bx₀ s₀) (q₀ : Kp B s₀ s) (hbox : BoxOk B s.heap bx) (rd : Ready prog w A target ts its.length Rd (fun b => ¬ isBx B b) H it s.heap)
    (hR : ∀ (i : Nat) e vals h', its[i]? = some e → Rd i vals → (∀ b o, ¬ isBx B b → ¬ H b → s.heap.get? b = some o → h'.get? b = some o) → RoundRep B h' e vals)
    (h12 : ts.length = 1 ∨ ts.length = 2) (hlen : ∀ e ∈ its, e.length = ts.length) (hcap : its.length ≤ cap)
    (hloop : compLoop f its bx = some (vs, bx₂)) (hpack : pack rw vs = some v) (hH : ∀ b, H b → s₀.heap.get? b = none)
    (hbody : ∀ e b ov b', f e b = some (ov, b') → ∀ env' s', Cx A hB k env' (ts ++ capNames nm caps) (gsOf sc) (fun _ => false) B (e ++ caps.map (gt σ)) b s' → ∃ c b₁,
      (∀ E : Value → Shared → Prop, wpAny (model prog w) A (forIn ifs true fun c r => if r = true then do let ok ← isTrue c env' (eval c env'); pure (ForInStep.yield ok) else pure (ForInStep.yield r)) (fun ok s₃ => ok = c ∧ Kp B s' s₃ ∧ BoxOk B s₃.heap b₁) E s') ∧
      (c = false → ov = none ∧ b' = b₁) ∧ (c = true → ∃ u, ov = some u ∧ (∀ l, u ≠ .prs l) ∧ ∀ s₃, Kp B s' s₃ → Cx A hB k env' (ts ++ capNames nm caps) (gsOf sc) (fun _ => false) B (e ++ caps.map (gt σ)) b₁ s₃ → Does prog w A env' B elt s₃ true u b'))
    (hRR : ∀ D C h' tk m', s.heap.get? D = none → s.heap.get? C = none → D ≠ C → h'.Ns C m' → BoxOk B h' bx₂ → Rep B h' (fun b => ¬ isBx B b ∧ b ≠ C ∧ s₀.heap.get? b = none) v (.ref D) → Kp B s₀ { s with heap := h', toks := tk } →
      RR (.ref D) C (.ok .next) { s with heap := h', toks := tk }) :
    ∀ E : Value → Shared → Prop, compTail prog w A env sc elt target iter ifs pos RR it E s := fun E => by
  unfold compTail
  obtain ⟨I, fp, wr, St, rfl, S, st₀, hfp, hwr⟩ := rd
  refine wpAny_newObj_type (wpAny_newFunctionEnv F.noCell (by intro y hy; simp at hy) (fun h₁ hns₁ hsb₁ => ?_) F.kind)
  dsimp only at hns₁ hsb₁ ⊢
  generalize hH2 : s.heap.push { cls := .type "list", dict := none, data := .seq ([] : List Value).toArray } = H2 at hns₁ hsb₁ ⊢
  have hC : H2.objs.size = s.heap.objs.size + 1 := by rw [← hH2, Heap.size_push]
  have hDC : s.heap.objs.size ≠ H2.objs.size := by rw [hC]; exact Nat.ne_of_lt (Nat.lt_succ_self _)
  have below : ∀ b, b < s.heap.objs.size → b ≠ H2.objs.size ∧ b ≠ s.heap.objs.size := fun b hb => ⟨by rw [hC]; exact Nat.ne_of_lt (Nat.lt_succ_of_lt hb), Nat.ne_of_lt hb⟩
  have lt : ∀ {b o}, s.heap.get? b = some o → b < s.heap.objs.size := fun e => Heap.lt_size e
  have fplt : ∀ b ∈ fp, b < s.heap.objs.size := fun b hb => by obtain ⟨_, o, e⟩ := hfp b hb; exact lt e
  have hDf : s.heap.objs.size ∉ fp := fun hm => Nat.lt_irrefl _ (fplt _ hm)
  have hCf : H2.objs.size ∉ fp := fun hm => by have := fplt _ hm; rw [hC] at this; exact Nat.lt_irrefl _ (Nat.lt_of_succ_lt this)
  have old : ∀ b o, s.heap.get? b = some o → h₁.get? b = some o := fun b o e => hsb₁.extBut b o (below b (lt e)).1 (Heap.get?_push_of_some _ (hH2 ▸ Heap.get?_push_of_some _ e))
  have fresh : ∀ a, s.heap.objs.size ≤ a → s.heap.get? a = none := fun a ha => by
    cases e : s.heap.get? a with
    | none => rfl
    | some o' => exact absurd (lt e) (Nat.not_lt.mpr ha)
  have hD0 := fresh s.heap.objs.size (Nat.le_refl _)
  have hC0 := fresh H2.objs.size (by rw [hC]; exact Nat.le_succ _)
  have nD : ¬ isBx B s.heap.objs.size := fresh_at hbox hD0
  have nC : ¬ isBx B H2.objs.size := fresh_at hbox hC0
  have hacc : IsL h₁ s.heap.objs.size ([] : List Value).toArray 0 := hsb₁.extBut _ _ hDC (Heap.get?_push_of_some _ (hH2 ▸ Heap.get?_push_size _ rfl))
  have hst₁ : St 0 h₁ := S.frame _ _ _ st₀ fun b _ o e => old b o e
  have wrf : ∀ b ∈ wr, b ∈ fp := S.sub
  have nDw : s.heap.objs.size ∉ wr := fun h => hDf (wrf _ h)
  have nCw : H2.objs.size ∉ wr := fun h => hCf (wrf _ h)
  have bxw : ∀ b, isBx B b → b ∉ wr := fun b hb hw => (hfp b (wrf b hw)).1 hb
  -- from the start of the whole
  have K0 : ∀ (h' : Heap) tk, (∀ b o, ¬ isBx B b → ¬ H b → s.heap.get? b = some o → h'.get? b = some o) → Kp B s₀ { s with heap := h', toks := tk } := fun h' tk hk => by
    obtain ⟨⟨h0, tk0, e⟩, q⟩ := q₀
    refine ⟨⟨h', tk, by rw [e]⟩, fun b o nb eb => hk b o nb (fun hb => ?_) (q b o nb eb)⟩
    rw [hH b hb] at eb; first | exact nn eb | cases eb
  have loop : ∀ s₃ : Shared, s₃ = { s with heap := h₁, toks := s.toks + ([] : List (Str × Value)).length } →
      codeAny (model prog w) A (.compLoop (.ListComp elt [⟨target, iter, ifs, 0⟩] sc pos) 0 (.ref I) (.ref s.heap.objs.size) (compEnvC sc (clos env sc.names []) H2.objs.size env))
        (RR (.ref s.heap.objs.size) H2.objs.size) s₃ := by
    rintro s₃ rfl
    refine compLoop_any (CompInv B f its vs bx₂ s s₀ H wr St s.heap.objs.size H2.objs.size) ?_ its.length
      ⟨h₁, _, _, [], 0, [], its, bx, 0, vs, rfl, rfl, rfl, Nat.zero_le _, hst₁, hacc, .nil, (fun _ h => nomatch h), Nat.zero_le _, hns₁, hbox.keeps old, hloop, rfl, fun b o _ _ e => old b o e⟩
    rintro n s' ⟨h', tk, m', ys, c, dn, rest, bxi, i, vr, rfl, rfl, hdrop, hi, st, hl, hp, hpr, hys, hns, hbx, hlp, hvs, hk⟩ E
    cases rest with
    | nil =>
      have hin : i = its.length := by
        have := congrArg List.length hdrop
        simp at this; (first | lia | omega)
      subst hin
      refine S.done _ _ _ st fun h₂ tk₂ hk₂ => ?_
      have hvr : vr = [] ∧ bxi = bx₂ := by unfold compLoop at hlp; cases hlp; exact ⟨rfl, rfl⟩
      obtain ⟨rfl, rfl⟩ := hvr
      rw [List.append_nil] at hvs
      rw [hvs] at hpack
      refine hRR _ _ _ _ m' hD0 hC0 hDC (hns.at' fun o e => hk₂ _ o nCw e) (box_keeps hbx fun b o hb e => hk₂ b o (bxw b hb) e) ?_ (K0 h₂ tk₂ fun b o nb nh e => hk₂ b o (fun hw => nh (hwr b hw)) (hk b o nb nh e))
      have hl₂ := hk₂ _ _ nDw hl
      have hp₂ : Paired (fun y v => Rep B h₂ (fun b => ¬ isBx B b ∧ b ≠ H2.objs.size ∧ s₀.heap.get? b = none) v y) ys dn :=
        paired_keeps hp hpr (fun b o g e => hk₂ b o g.2.2.2.1 e) fun b g => ⟨g.1, g.2.1, g.2.2.2.2⟩
      unfold pack at hpack
      cases rw with
      | true =>
        simp only [if_true] at hpack
        cases h2 : packL dn with
        | none => rw [h2] at hpack; first | exact nn hpack | cases hpack
        | some ls =>
          rw [h2] at hpack; first | exact nn hpack | cases hpack
          exact ⟨_, ys, c, rfl, ⟨nD, hDC, fresh_old q₀ nD hD0⟩, hl₂, packL_rows hp₂ h2⟩
      | false =>
        simp only [Bool.false_eq_true, if_false] at hpack
        cases h2 : packI dn with
        | none => rw [h2] at hpack; first | exact nn hpack | cases hpack
        | some ls =>
          rw [h2] at hpack; first | exact nn hpack | cases hpack
          exact ⟨_, rfl, ⟨nD, hDC, fresh_old q₀ nD hD0⟩, ys, c, hl₂, packI_ints hp₂ h2⟩
    | cons e r =>
      have hie : its[i]? = some e := by
        have := congrArg (·[0]?) hdrop
        simpa using this
      have hilt : i < its.length := (List.getElem?_eq_some_iff.mp hie).1
      have hdrop' : its.drop (i + 1) = r := by
        have := congrArg (List.drop 1) hdrop
        simpa using this
      obtain ⟨ov, b', vs', hf, hlp', hvr⟩ := compLoop_cons hlp
      refine wpAny_mono (S.turn i hilt (compEnvC sc (clos env sc.names []) H2.objs.size env) _ (fun _ s₂ =>
          wpAny (model prog w) A (forIn ifs true fun c r => if r = true then do let ok ← isTrue c (compEnvC sc (clos env sc.names []) H2.objs.size env) (eval c (compEnvC sc (clos env sc.names []) H2.objs.size env)); pure (ForInStep.yield ok) else pure (ForInStep.yield r)) _ E s₂) E st
        fun vals h₂ tk₂ hRd st₂ hk₂ => ?_) (fun o s₁ h₁ => by obtain ⟨v, rfl, h₁⟩ := h₁; exact h₁) fun _ _ z => z
      have hns₂ : h₂.Ns H2.objs.size m' := hns.at' fun o e => hk₂ _ o nCw e
      have hK₂ : ∀ b o, ¬ isBx B b → ¬ H b → s.heap.get? b = some o → h₂.get? b = some o := fun b o nb nh e => hk₂ b o (fun hw => nh (hwr b hw)) (hk b o nb nh e)
      have hRR' := hR i e vals
      have hvl : vals.length = ts.length := by
        have := (hRR' h₂ hie hRd hK₂).length
        rw [← this]; exact hlen e (List.mem_of_getElem? hie)
      refine stores_local (s := { s with heap := h₂, toks := tk₂ }) F.kind (fun x hx => kind_local (F.loc x hx)) F.nodup hvl h12 hns₂ fun h₃ tk₃ m₃ hns₃ hm₃ hs₃ => ?_
      replace hs₃ : Heap.SameBut H2.objs.size h₂ h₃ := hs₃
      have hK₃ : ∀ b o, ¬ isBx B b → ¬ H b → s.heap.get? b = some o → h₃.get? b = some o := fun b o nb nh e => hs₃.extBut b o (below b (lt e)).1 (hK₂ b o nb nh e)
      have hbx₃ : BoxOk B h₃ bxi := box_keeps hbx fun b o hb e => hs₃.extBut b o (fun q => nC (q ▸ hb)) (hk₂ b o (bxw b hb) e)
      have X₃ : Cx A hB k env nm gs cs B σ bxi { s with heap := h₃, toks := tk₃ } := X₀.next (K0 h₃ tk₃ hK₃) hbx₃
      have Y₃ : Cx A hB k (compEnvC sc (clos env sc.names []) H2.objs.size env) (ts ++ capNames nm caps) (gsOf sc) (fun _ => false) B (e ++ caps.map (gt σ)) bxi { s with heap := h₃, toks := tk₃ } :=
        ⟨X₃.room, compEnv_ok F X₃.ok, fun x h => kind_glob h, (fun x h => by cases h), X₃.base, X₃.bxh, hbx₃, comp_vars F X₃ nC hns₃ (hlen e (List.mem_of_getElem? hie)) (hRR' h₃ hie hRd hK₃) hm₃⟩
      obtain ⟨ok, b₁, htest, hno, hyes⟩ := hbody e bxi ov b' hf _ _ Y₃
      have st₃ : St (i + 1) h₃ := S.frame _ _ _ st₂ fun b hb o e => hs₃.extBut b o (fun q => hCf (q ▸ hb)) e
      have hl₃ : IsL h₃ s.heap.objs.size (List.toArray ys) c := hs₃.extBut _ _ hDC (hk₂ _ _ nDw hl)
      have hp₃ := paired_keeps (h' := h₃) (G' := fun b => ¬ isBx B b ∧ b ≠ H2.objs.size ∧ b ≠ s.heap.objs.size ∧ b ∉ wr ∧ s₀.heap.get? b = none) hp hpr (fun b o g e => hs₃.extBut b o g.2.1 (hk₂ b o g.2.2.2.1 e)) fun b g => g
      refine wpAny_mono (htest E) (fun okv s₄ h₄ => ?_) fun _ _ z => z
      obtain ⟨rfl, q₄, hbx₄⟩ := h₄
      obtain ⟨⟨h₄, tk₄, rfl⟩, q₄'⟩ := id q₄
      replace q₄' : ∀ b o, ¬ isBx B b → h₃.get? b = some o → h₄.get? b = some o := q₄'
      replace hbx₄ : BoxOk B h₄ b₁ := hbx₄
      have nfp : ∀ b ∈ fp, ¬ isBx B b := fun b hb => (hfp b hb).1
      have st₄ : St (i + 1) h₄ := S.frame _ _ _ st₃ fun b hb o e => q₄' b o (nfp b hb) e
      have hl₄ : IsL h₄ s.heap.objs.size (List.toArray ys) c := q₄' _ _ nD hl₃
      have hp₄ := paired_keeps (h' := h₄) (G' := fun b => ¬ isBx B b ∧ b ≠ H2.objs.size ∧ b ≠ s.heap.objs.size ∧ b ∉ wr ∧ s₀.heap.get? b = none) hp₃ hpr (fun b o g e => q₄' b o g.1 e) fun b g => g
      have hns₄ : h₄.Ns H2.objs.size m₃ := hns₃.at' fun o e => q₄' _ o nC e
      have hK₄ : ∀ b o, ¬ isBx B b → ¬ H b → s.heap.get? b = some o → h₄.get? b = some o := fun b o nb nh e => q₄' b o nb (hK₃ b o nb nh e)
      cases okv with
      | false =>
        obtain ⟨rfl, rfl⟩ := hno rfl
        simp only [Bool.false_eq_true, if_false]
        exact ⟨r.length, by simp, h₄, tk₄, m₃, ys, c, dn, r, b', i + 1, vs', rfl, rfl, hdrop', hilt, st₄, hl₄, hp₄, hpr, Nat.le_succ_of_le hys, hns₄, hbx₄, hlp', by rw [hvs, hvr]; rfl, hK₄⟩
      | true =>
        obtain ⟨u, rfl, hu, hdo⟩ := hyes rfl
        simp only [if_true]
        refine wpAny_mono (hdo _ q₄ (Y₃.next q₄ hbx₄) E) (fun y s₅ h₅ => ?_) fun _ _ z => z
        obtain ⟨⟨⟨h₅, tk₅, rfl⟩, q₅⟩, hbx₅, r₅⟩ := h₅
        replace q₅ : ∀ b o, ¬ isBx B b → h₄.get? b = some o → h₅.get? b = some o := q₅
        replace hbx₅ : BoxOk B h₅ b' := hbx₅
        replace r₅ : Rep B h₅ (fun b => ¬ isBx B b ∧ (true = true → h₄.get? b = none)) u y := r₅
        have st₅ : St (i + 1) h₅ := S.frame _ _ _ st₄ fun b hb o e => q₅ b o (nfp b hb) e
        have hl₅ : IsL h₅ s.heap.objs.size (List.toArray ys) c := q₅ _ _ nD hl₄
        have hysz : (List.toArray ys).size ≤ sizeLine := by rw [List.size_toArray]; exact cap_line (by (first | lia | omega))
        refine wpAny_list_append_plain (hsz := hysz) ⟨c, hl₅⟩ fun h₆ hl₆ hs₆ => ?_
        obtain ⟨c₆, hl₆⟩ := hl₆
        replace hs₆ : Heap.SameBut s.heap.objs.size h₅ h₆ := hs₆
        have hl₆' : IsL h₆ s.heap.objs.size (List.toArray (ys ++ [y])) c₆ := by simpa using hl₆
        have nCn : h₄.get? H2.objs.size ≠ none := by obtain ⟨o, _, _, e, _⟩ := hns₄; rw [e]; exact fun h => by cases h
        have wrn : ∀ b ∈ wr, h₄.get? b ≠ none := fun b hb q => by
          obtain ⟨o, e⟩ := S.has _ _ st₄ b (wrf b hb)
          rw [e] at q; first | exact nn q | cases q
        refine ⟨r.length, by simp, h₆, tk₅, m₃, ys ++ [y], c₆, dn ++ [u], r, b', i + 1, vs', rfl, rfl, hdrop', hilt, S.frame _ _ _ st₅ fun b hb o e => hs₆.extBut b o (fun q => hDf (q ▸ hb)) e, hl₆', ?_, ?_, ?_, ?_, ?_, hlp', ?_, ?_⟩
        · refine Paired.snoc (paired_keeps hp₄ hpr (fun b o g e => hs₆.extBut b o g.2.2.1 (q₅ b o g.1 e)) fun b g => g) (r₅.keeps hu (fun b o g e => hs₆.extBut b o (fun q => ?_) e) fun b g ho => ⟨g.1, fun q => nCn (q ▸ g.2 rfl), fun q => ?_, fun hb => wrn b hb (g.2 rfl), ?_⟩)
          · subst q; rw [hl₄] at g; exact absurd (g.2 rfl) (fun h => by cases h)
          · subst q; rw [hl₄] at g; exact absurd (g.2 rfl) (fun h => by cases h)
          · exact fresh_old (s₁ := { s with heap := h₄, toks := tk₄ }) (K0 h₄ tk₄ hK₄) g.1 (g.2 rfl)
        · intro v hv
          rcases List.mem_append.mp hv with h | h
          · exact hpr v h
          · rw [List.mem_singleton.mp h]; exact hu
        · simp; (first | lia | omega)
        · exact (hns₄.at' fun o e => q₅ _ o nC e).sameBut hs₆ (Ne.symm hDC)
        · exact box_keeps hbx₅ fun b o hb e => hs₆.extBut b o (fun q => nD (q ▸ hb)) e
        · rw [hvs, hvr]; simp
        · exact fun b o nb nh e => hs₆.extBut b o (below b (lt e)).2 (q₅ b o nb (hK₄ b o nb nh e))
  exact codeAny_compStart_list (loop _ rfl) (S.self 0 _ _ _ hst₁ (loop _ rfl))
end
end NN

/-! comprehensions: the whole -/
namespace NN
open PySem PySem.W PyProof.Rows PySem.Calls

theorem noSet (nm : List Str) (gs cs : Str → Bool) (e : E) (es : List Expr) (n : Nat) (q : Pos) : mE nm gs cs e (.Set es n q) = false := by cases e <;> rfl
theorem folded_ok {nm : List Str} {gs cs : Str → Bool} {e : E} {p : Expr} (h : mE nm gs cs e p = true) (env : Env) (x : Value) : foldedSetIterable p env x = pure x := by
  cases p <;> first | rfl | (rw [noSet] at h; cases h)

theorem isIter_of_ready {prog : Program} {w : PySem.World} {A : Around} {target : Expr} {ts : List Str} {n : Nat} {R : Nat → List Value → Prop} {G H : Addr → Prop} {it : Value} {s : Shared} {Q : Value → Shared → Prop} {E : Value → Shared → Prop}
    (r : Ready prog w A target ts n R G H it s.heap) (h : Q it s) : wpAny (model prog w) A (pyIter it) Q E s := by
  obtain ⟨I, fp, wr, St, rfl, S, st, _⟩ := r
  exact S.self 0 s Q E st h

section
variable {prog : Program} {w : PySem.World} {A : Around} {hB : Heap} {k : Nat} {env : Env} {nm ts : List Str} {gs cs : Str → Bool} {B : Bxa} {σ e : Ev} {bx bx₁ bx₂ : Bx} {s s₁ s₂ : Shared} {caps : List Nat} {sc : Scope} {fr : Bool} {u v : V}

theorem itemsOf_f {u : V} {its : List Ev} (h : itemsOf false u = some its) : (∃ l, u = .il l ∧ its = l.map fun i => [some (.int i)]) ∨ (∃ l, u = .rng l ∧ its = l.map fun i => [some (.int i)]) ∨ ∃ l, u = .rl l ∧ its = l.map fun i => [some (.il i)] := by
  cases u with
  | il l => exact .inl ⟨l, rfl, (Option.some.inj h).symm⟩
  | rng l => exact .inr (.inl ⟨l, rfl, (Option.some.inj h).symm⟩)
  | rl l => exact .inr (.inr ⟨l, rfl, (Option.some.inj h).symm⟩)
  | _ => exact nn h
theorem itemsOf_t {u : V} {its : List Ev} (h : itemsOf true u = some its) : ∃ l, u = .prs l ∧ its = l.map fun p => [some (.int p.1), some (.int p.2)] := by
  cases u with
  | prs l => exact ⟨l, rfl, (Option.some.inj h).symm⟩
  | _ => exact nn h

theorem comp_go {target iter elt : Expr} {ifs : List Expr} {pos : Pos} {its : List Ev} {vs : List V} {rw two : Bool}
    {f : Ev → Bx → Option (Option V × Bx)} {RR : Value → Addr → Result → Shared → Prop}
    (F : ScopeFits cs nm ts caps sc) (X : Cx A hB k env nm gs cs B σ bx s) (htg : TgtsAre two target ts) (hits : itemsOf two u = some its) (hfr : ∀ l, u = .prs l → fr = true)
    (hsrc : Does prog w A env B iter s fr u bx₁) (hcap : its.length ≤ cap)
    (hloop : compLoop f its bx₁ = some (vs, bx₂)) (hpack : pack rw vs = some v)
    (hbody : ∀ e b ov b', f e b = some (ov, b') → ∀ env' s', Cx A hB k env' (ts ++ capNames nm caps) (gsOf sc) (fun _ => false) B (e ++ caps.map (gt σ)) b s' → ∃ c b₁,
      (∀ E : Value → Shared → Prop, wpAny (model prog w) A (forIn ifs true fun c r => if r = true then do let ok ← isTrue c env' (eval c env'); pure (ForInStep.yield ok) else pure (ForInStep.yield r)) (fun ok s₃ => ok = c ∧ Kp B s' s₃ ∧ BoxOk B s₃.heap b₁) E s') ∧
      (c = false → ov = none ∧ b' = b₁) ∧ (c = true → ∃ u, ov = some u ∧ (∀ l, u ≠ .prs l) ∧ ∀ s₃, Kp B s' s₃ → Cx A hB k env' (ts ++ capNames nm caps) (gsOf sc) (fun _ => false) B (e ++ caps.map (gt σ)) b₁ s₃ → Does prog w A env' B elt s₃ true u b'))
    (hRR : ∀ D C s' m', s.heap.get? D = none → s.heap.get? C = none → ¬ isBx B C → D ≠ C → s'.heap.Ns C m' → BoxOk B s'.heap bx₂ → Rep B s'.heap (fun b => ¬ isBx B b ∧ b ≠ C ∧ s.heap.get? b = none) v (.ref D) → Kp B s s' →
      RR (.ref D) C (.ok .next) s') :
    ∀ E : Value → Shared → Prop, wpAny (model prog w) A (eval iter env) (fun xv s₁ => wpAny (model prog w) A (pyIter xv) (fun it s₂ =>
      compTail prog w A env sc elt target iter ifs pos RR it E s₂) E s₁) E s := fun E => by
  refine wpAny_mono (hsrc E) (fun xv s₁ h₁ => ?_) fun _ _ z => z
  obtain ⟨q₁, hb₁, r₁⟩ := h₁
  clear hsrc
  have go : ∀ (H : Addr → Prop) (Rd : Nat → List Value → Prop) it s₂, Kp none s₁ s₂ → Ready prog w A target ts its.length Rd (fun b => ¬ isBx B b) H it s₂.heap → (∀ b, H b → ¬ isBx B b ∧ s.heap.get? b = none) →
      (∀ (i : Nat) e vals h', its[i]? = some e → Rd i vals → (∀ b o, ¬ isBx B b → ¬ H b → s₂.heap.get? b = some o → h'.get? b = some o) → RoundRep B h' e vals) →
      (ts.length = 1 ∨ ts.length = 2) → (∀ e ∈ its, e.length = ts.length) →
      compTail prog w A env sc elt target iter ifs pos RR it E s₂ := fun H Rd it s₂ q₂ rd hH hR h12 hlen => by
    have q : Kp B s s₂ := q₁.trans (q₂.none B)
    have hb₂ : BoxOk B s₂.heap bx₁ := hb₁.keeps fun b o e => q₂.get e
    refine comp_run F X q hb₂ rd hR h12 hlen hcap hloop hpack (fun b hb => (hH b hb).2) hbody (fun D C h' tk m' hD hC hDC hns hbx hrep hk => hRR D C _ m' (fresh_old q (fresh_at hb₂ hD) hD) (fresh_old q (fresh_at hb₂ hC) hC) (fresh_at hb₂ hC) hDC hns hbx hrep hk) E
  have hH₁ : ∀ b, (¬ isBx B b ∧ s₁.heap.get? b = none) → ¬ isBx B b ∧ s.heap.get? b = none := fun b h => ⟨h.1, fresh_old q₁ h.1 h.2⟩
  have hsz : ¬ isBx B s₁.heap.objs.size := fresh_at hb₁ (size_none _)
  rcases htg with ⟨rfl, x, px, rfl, rfl⟩ | ⟨rfl, x, y, px, py, kk, pt, rfl, rfl⟩
  · rcases itemsOf_f hits with ⟨l, rfl, rfl⟩ | ⟨l, rfl, rfl⟩ | ⟨ls, rfl, rfl⟩
    · obtain ⟨a, rfl, g, il⟩ := r₁
      refine iter_ints x px (G := fun b => ¬ isBx B b) (H := fun b => ¬ isBx B b ∧ s₁.heap.get? b = none) X.room.hd g.1 hsz ⟨hsz, size_none _⟩ il fun it s₂ q₂ rd => ?_
      refine go _ (intR l) it s₂ q₂ (by simpa using rd) hH₁ (fun i e vals h' hi ⟨t, ev⟩ _ => ?_) (.inl rfl) (fun e he => by obtain ⟨n, _, rfl⟩ := List.mem_map.mp he; rfl)
      rw [List.getElem?_map] at hi
      cases hl : l[i]? with
      | none => rw [hl] at hi; first | exact nn hi | cases hi
      | some n =>
        rw [hl] at hi; first | exact nn hi | cases hi
        subst ev
        exact .cons ⟨_, rfl, (fun _ e => by cases e), t, by rw [List.getD_eq_getElem?_getD, hl]; rfl⟩ .nil
    · refine iter_rng x px (G := fun b => ¬ isBx B b) (H := fun b => ¬ isBx B b ∧ s₁.heap.get? b = none) X.room.hd hsz ⟨hsz, size_none _⟩ r₁ fun it s₂ q₂ rd => ?_
      refine go _ (intR l) it s₂ q₂ (by simpa using rd) hH₁ (fun i e vals h' hi ⟨t, ev⟩ _ => ?_) (.inl rfl) (fun e he => by obtain ⟨n, _, rfl⟩ := List.mem_map.mp he; rfl)
      rw [List.getElem?_map] at hi
      cases hl : l[i]? with
      | none => rw [hl] at hi; first | exact nn hi | cases hi
      | some n =>
        rw [hl] at hi; first | exact nn hi | cases hi
        subst ev
        exact .cons ⟨_, rfl, (fun _ e => by cases e), t, by rw [List.getD_eq_getElem?_getD, hl]; rfl⟩ .nil
    · obtain ⟨a, ws, n, rfl, g, i, pr⟩ := r₁
      have hlen : ws.length = ls.length := pr.length
      refine iter_list x px (G := fun b => ¬ isBx B b) (H := fun b => ¬ isBx B b ∧ s₁.heap.get? b = none) X.room.hd g.1 hsz ⟨hsz, size_none _⟩ i.isList fun it s₂ q₂ rd => ?_
      refine go _ (fun i vals => ∃ v, vals = [v] ∧ ws[i]? = some v) it s₂ q₂ (by simpa [hlen] using rd) hH₁ (fun j e vals h' hi ⟨v, ev, hv⟩ hk => ?_) (.inl rfl) (fun e he => by obtain ⟨n, _, rfl⟩ := List.mem_map.mp he; rfl)
      obtain ⟨l, hl, b, rfl, gb, il⟩ := paired_get pr j v hv
      rw [List.getElem?_map, hl] at hi
      cases hi
      subst ev
      refine .cons ⟨_, rfl, (fun _ e => by cases e), b, rfl, gb.1, il.at fun o e => hk b o gb.1 (fun h => ?_) (q₂.get e)⟩ .nil
      rw [e] at h; cases h.2
  · obtain ⟨l, rfl, rfl⟩ := itemsOf_t hits
    · have hf := hfr l rfl
      obtain ⟨z, rfl, r₁⟩ := r₁
      have hits2 : ∀ e ∈ l.map fun p => [some (V.int p.1), some (V.int p.2)], e.length = 2 := fun e he => by obtain ⟨n, _, rfl⟩ := List.mem_map.mp he; rfl
      have hround : ∀ (i : Nat) e vals h', (l.map fun p => [some (V.int p.1), some (V.int p.2)])[i]? = some e → pairR l i vals → RoundRep B h' e vals := fun i e vals h' hi ⟨p, t, t', hp, ev⟩ => by
        rw [List.getElem?_map, hp] at hi
        cases hi
        subst ev
        exact .cons ⟨_, rfl, (fun _ e => by cases e), t, rfl⟩ (.cons ⟨_, rfl, (fun _ e => by cases e), t', rfl⟩ .nil)
      rcases r₁ with ⟨l1, l2, xs, ys, hz, il, il', n1, n2, rfl⟩ | ⟨l1, xs, hz, il, n1, rfl⟩
      · have rd := zip_ready (prog := prog) (w := w) x y pt px py kk (G := fun b => ¬ isBx B b) X.room.hd hz (fun b h => h.1) n1 n2 il il'
        refine isIter_of_ready rd (go (fun b => ¬ isBx B b ∧ (fr = true → s.heap.get? b = none)) _ _ s₁ (.refl none s₁) (by simpa using rd) (fun b h => ⟨h.1, h.2 hf⟩) (fun i e vals h' hi hr _ => hround i e vals h' hi hr) (.inr rfl) hits2)
      · have rd := enum_ready (prog := prog) (w := w) x y pt px py kk (G := fun b => ¬ isBx B b) X.room.hd hz (fun b h => h.1) n1 il
        refine isIter_of_ready rd (go (fun b => ¬ isBx B b ∧ (fr = true → s.heap.get? b = none)) _ _ s₁ (.refl none s₁) (by simpa using rd) (fun b h => ⟨h.1, h.2 hf⟩) (fun i e vals h' hi hr _ => hround i e vals h' hi hr) (.inr rfl) hits2)

theorem free_cells (F : ScopeFits cs nm ts caps sc) (X : Cx A hB k env nm gs cs B σ bx s) : ∀ p ∈ sc.names, p.2 = .free → ∃ c, env.cells.lookup p.1 = some c := fun p m e => (X.hcs _ (F.frees p m e)).2

theorem rep_apart {C : Addr} {h h' : Heap} {G : Addr → Prop} {x : Value} (r : Rep B h (fun b => ¬ isBx B b ∧ b ≠ C ∧ G b) v x) (hp : ∀ l, v ≠ .prs l) (hs : Heap.SameBut C h h') : Rep B h' (fun b => ¬ isBx B b ∧ G b) v x :=
  r.keeps hp (fun b o g e => hs.extBut b o g.2.1 e) fun b g _ => ⟨g.1, g.2.2⟩
theorem pack_plain {rw : Bool} {vs : List V} (h : pack rw vs = some v) : ∀ l, v ≠ .prs l := fun l e => by
  subst e
  unfold pack at h
  cases rw
  · simp only [Bool.false_eq_true, if_false] at h
    cases h2 : packI vs with
    | none => rw [h2] at h; first | exact nn h | cases h
    | some q => rw [h2] at h; first | exact nn h | cases h
  · simp only [if_true] at h
    cases h2 : packL vs with
    | none => rw [h2] at h; first | exact nn h | cases h
    | some q => rw [h2] at h; first | exact nn h | cases h

theorem do_comp {target iter elt : Expr} {ifs : List Expr} {pos : Pos} {its : List Ev} {vs : List V} {rw two : Bool} {e₀ : NN.E}
    {f : Ev → Bx → Option (Option V × Bx)}
    (F : ScopeFits cs nm ts caps sc) (X : Cx A hB k env nm gs cs B σ bx s) (htg : TgtsAre two target ts) (hits : itemsOf two u = some its) (hfr : ∀ l, u = .prs l → fr = true) (hset : mE nm gs cs e₀ iter = true)
    (hsrc : Does prog w A env B iter s fr u bx₁) (hcap : its.length ≤ cap)
    (hloop : compLoop f its bx₁ = some (vs, bx₂)) (hpack : pack rw vs = some v)
    (hbody : ∀ e b ov b', f e b = some (ov, b') → ∀ env' s', Cx A hB k env' (ts ++ capNames nm caps) (gsOf sc) (fun _ => false) B (e ++ caps.map (gt σ)) b s' → ∃ c b₁,
      (∀ E : Value → Shared → Prop, wpAny (model prog w) A (forIn ifs true fun c r => if r = true then do let ok ← isTrue c env' (eval c env'); pure (ForInStep.yield ok) else pure (ForInStep.yield r)) (fun ok s₃ => ok = c ∧ Kp B s' s₃ ∧ BoxOk B s₃.heap b₁) E s') ∧
      (c = false → ov = none ∧ b' = b₁) ∧ (c = true → ∃ u, ov = some u ∧ (∀ l, u ≠ .prs l) ∧ ∀ s₃, Kp B s' s₃ → Cx A hB k env' (ts ++ capNames nm caps) (gsOf sc) (fun _ => false) B (e ++ caps.map (gt σ)) b₁ s₃ → Does prog w A env' B elt s₃ true u b')) :
    Does prog w A env B (.ListComp elt [⟨target, iter, ifs, 0⟩] sc pos) s true v bx₂ := fun E => by
  rw [eval_ListComp]
  refine wpAny_comprehension_free (use := none) rfl (folded_ok hset env) (closureFor_ok (free_cells F X)) F.kind F.locs (comp_go (RR := fun acc C => compPost (model prog w) A E none (Post B s true v bx₂) acc C) F X htg hits hfr hsrc hcap hloop hpack hbody
    (fun D C s' m' hD hC nC hDC hns hbx hrep q => ⟨m', hns, fun h'' hs'' => ?_⟩) E)
  refine ⟨?_, ?_, ?_⟩
  · obtain ⟨⟨h, tk, rfl⟩, q⟩ := q
    exact ⟨⟨h'', tk, rfl⟩, fun b o nb e => hs''.extBut b o (fun z => by subst z; rw [hC] at e; cases e) (q b o nb e)⟩
  · exact box_keeps hbx fun b o hb e => hs''.extBut b o (fun z => nC (z ▸ hb)) e
  · exact (rep_apart hrep (pack_plain hpack) hs'').weaken fun b g => ⟨g.1, fun _ => g.2⟩
end
end NN

/-! the expressions, whole -/
namespace NN
open PySem PySem.W PyProof.Rows PySem.Calls

noncomputable def SoundE (prog : Program) (w : PySem.World) (hB : Heap) (k : Nat) (P : Fns) (e : E) : Prop :=
  ∀ {A : Around} {env : Env} {nm : List Str} {gs cs : Str → Bool} {B : Bxa} {σ : Ev} {bx : Bx} {s : Shared} {v : V} {bx' : Bx} {pe : Expr}, Cx A hB k env nm gs cs B σ bx s → mE nm gs cs e pe = true → evalE P e σ bx = some (v, bx') →
    Does prog w A env B pe s e.fresh v bx' ∧ (∀ l, v = .prs l → e.fresh = true) ∧ (∀ c, v = .bool c → Tells prog w A env B pe s c bx')

theorem op1_some {f : V → Option V} {x : Rs} {v : V} {b : Bx} (h : op1 f x = some (v, b)) : ∃ u, x = some (u, b) ∧ f u = some v := by
  unfold op1 at h
  split at h
  · rename_i u b'
    cases h2 : f u with
    | none => rw [h2] at h; first | exact nn h | cases h
    | some r => rw [h2] at h; cases h; exact ⟨u, rfl, h2⟩
  · first | exact nn h | cases h

section
variable {prog : Program} {w : PySem.World} {hB : Heap} {fnA : Str → Option Addr} {k : Nat} {P : Fns} {A : Around} {env : Env} {nm : List Str} {gs cs : Str → Bool} {B : Bxa} {σ : Ev} {bx bx' : Bx} {s : Shared} {v : V} {pe : Expr}

theorem evr_and {l r : E} {s : Ev} {b : Bx} : evalE P (.and l r) s b = (match evalE P l s b with
    | some (.bool true, b₁) => (match evalE P r s b₁ with | some (.bool c, b₂) => some (.bool c, b₂) | _ => none)
    | some (.bool false, b₁) => some (.bool false, b₁)
    | _ => none) := rfl
theorem evr_or {l r : E} {s : Ev} {b : Bx} : evalE P (.or l r) s b = (match evalE P l s b with
    | some (.bool false, b₁) => (match evalE P r s b₁ with | some (.bool c, b₂) => some (.bool c, b₂) | _ => none)
    | some (.bool true, b₁) => some (.bool true, b₁)
    | _ => none) := rfl
theorem evr_ife {c l r : E} {s : Ev} {b : Bx} : evalE P (.ife c l r) s b = (match evalE P c s b with
    | some (.bool true, b₁) => (match evalE P l s b₁ with | some (.int i, b₂) => some (.int i, b₂) | _ => none)
    | some (.bool false, b₁) => (match evalE P r s b₁ with | some (.int i, b₂) => some (.int i, b₂) | _ => none)
    | _ => none) := rfl
theorem evr_lit {l : List Int} {s : Ev} {b : Bx} : evalE P (.lit l) s b = if l.length ≤ cap then some (.il l, b) else none := rfl
theorem evr_var {x : Nat} {s : Ev} {b : Bx} : evalE P (.var x) s b = (gt s x).map (·, b) := rfl
theorem evr_take {x : Nat} {e : E} {s : Ev} {b : Bx} : evalE P (.take x e) s b = (match gt s x with
    | some .box => (match evalE P e s b with
      | some (.int m, some bx) => (P.take m bx).map fun r => (.int r.1, some r.2)
      | _ => none)
    | _ => none) := rfl
theorem evr_drawn {x : Nat} {e : E} {s : Ev} {b : Bx} : evalE P (.drawn x e) s b = (match gt s x with
    | some .box => (match evalE P e s b with
      | some (.int m, some bx) => (P.drawn m bx).map fun r => (.il r.1, some r.2)
      | _ => none)
    | _ => none) := rfl
theorem evr_box1 {x : Nat} {s : Ev} {b : Bx} : evalE P (.box1 x) s b = (match gt s x with
    | some .box => (match b with
      | some (l, k) => some (.int k, some (l, k))
      | none => none)
    | _ => none) := rfl

/-- two in a row -/
theorem two_some {x : Rs} {g : V → Bx → Rs} (h : (match x with | none => none | some (u, b₁) => g u b₁) = some (v, bx')) : ∃ u b₁, x = some (u, b₁) ∧ g u b₁ = some (v, bx') := by
  cases x with
  | none => first | exact nn h | cases h
  | some q => obtain ⟨u, b⟩ := q; exact ⟨u, b, rfl, h⟩

theorem vBin_l {o : Op} {u v r : V} (h : vBin o u v = some r) : (∀ l, u ≠ .prs l) ∧ ∀ c, r ≠ .bool c := by
  unfold vBin at h
  split at h
  · refine ⟨fun _ e => (by cases e), fun c e => ?_⟩
    subst e
    rename_i a b
    cases h2 : opI o a b with
    | none => rw [h2] at h; first | exact nn h | cases h
    | some q => rw [h2] at h; first | exact nn h | cases h
  · first | exact nn h | cases h
theorem vCmp_l {c : Cm} {u v r : V} (h : vCmp c u v = some r) : ∀ l, u ≠ .prs l := by
  unfold vCmp at h
  split at h
  · exact fun _ e => by cases e
  · exact fun _ e => by cases e
  · exact fun _ e => by cases e
  · first | exact nn h | cases h

theorem notPrs {u : V} (h : plainV u = true) : ∀ l, u ≠ .prs l := fun l e => by subst e; first | exact nn h | cases h

theorem sound_bin {o : Op} {l r : E} (hl : SoundE prog w hB k P l) (hr : SoundE prog w hB k P r) : SoundE prog w hB k P (.bin o l r) := fun C hm he => by
  refine onBin_e hm fun _ _ _ _ hm => ?_
  obtain ⟨h1, h2, h3⟩ := and3 hm
  obtain ⟨u, b₁, e1, he⟩ := two_some he
  obtain ⟨v, e2, he⟩ := op1_some he
  obtain ⟨p1, p2⟩ := vBin_l he
  exact ⟨do_bin h1 C p1 (hl C h2 e1).1 (fun s₁ C₁ _ => (hr C₁ h3 e2).1) he, fun _ _ => rfl, fun c e => absurd e (p2 c)⟩
theorem sound_cmp {c : Cm} {l r : E} (hl : SoundE prog w hB k P l) (hr : SoundE prog w hB k P r) : SoundE prog w hB k P (.cmp c l r) := fun C hm he => by
  refine onCmp_e hm fun _ _ _ _ hm => on1_e hm fun _ hm => on1_e hm fun _ hm => ?_
  obtain ⟨h1, h2, h3⟩ := and3 hm
  obtain ⟨u, b₁, e1, he⟩ := two_some he
  obtain ⟨v, e2, he⟩ := op1_some he
  have p1 := vCmp_l he
  exact ⟨do_cmp h1 C p1 (hl C h2 e1).1 (fun s₁ C₁ _ => (hr C₁ h3 e2).1) he, fun _ _ => rfl, fun t e => by subst e; exact tell_cmp h1 C p1 (hl C h2 e1).1 (fun s₁ C₁ _ => (hr C₁ h3 e2).1) he⟩
theorem one_bool {op : BoolOp} {p : Expr} {pos : Pos} {fr : Bool} {c : Bool} (h : Does prog w A env B p s fr (.bool c) bx) : Does prog w A env B (.BoolOp op [p] pos) s fr (.bool c) bx := fun E => BoolOp_one (h E)

noncomputable abbrev Re := Option (V × Bx)
theorem bool_inv {r : Re} {q : V × Bx} {T F : Bx → Re} (h : (match r with | some (.bool true, b) => T b | some (.bool false, b) => F b | _ => none) = some q) : (∃ b, r = some (.bool true, b) ∧ T b = some q) ∨ ∃ b, r = some (.bool false, b) ∧ F b = some q := by
  cases r with
  | none => exact nn h
  | some p =>
    obtain ⟨v, b⟩ := p
    cases v <;> first | exact nn h | skip
    rename_i c
    cases c
    · exact .inr ⟨b, rfl, h⟩
    · exact .inl ⟨b, rfl, h⟩
theorem bool_inv2 {r : Re} {q : V × Bx} {T F : Bx → Re} (h : (match r with | some (.bool false, b) => F b | some (.bool true, b) => T b | _ => none) = some q) : (∃ b, r = some (.bool true, b) ∧ T b = some q) ∨ ∃ b, r = some (.bool false, b) ∧ F b = some q := by
  cases r with
  | none => exact nn h
  | some p =>
    obtain ⟨v, b⟩ := p
    cases v <;> first | exact nn h | skip
    rename_i c
    cases c
    · exact .inr ⟨b, rfl, h⟩
    · exact .inl ⟨b, rfl, h⟩
theorem okB_inv {r : Re} {q : V × Bx} (h : (match r with | some (.bool c, b) => some (.bool c, b) | _ => none) = some q) : ∃ c b, r = some (.bool c, b) ∧ (V.bool c, b) = q := by
  cases r with
  | none => exact nn h
  | some p =>
    obtain ⟨v, b⟩ := p
    cases v <;> first | exact nn h | exact ⟨_, _, rfl, Option.some.inj h⟩
theorem okI_inv {r : Re} {q : V × Bx} (h : (match r with | some (.int c, b) => some (.int c, b) | _ => none) = some q) : ∃ c b, r = some (.int c, b) ∧ (V.int c, b) = q := by
  cases r with
  | none => exact nn h
  | some p =>
    obtain ⟨v, b⟩ := p
    cases v <;> first | exact nn h | exact ⟨_, _, rfl, Option.some.inj h⟩

theorem sound_and {l r : E} (hl : SoundE prog w hB k P l) (hr : SoundE prog w hB k P r) : SoundE prog w hB k P (.and l r) := fun {A env nm gs cs B σ bx s v bx' pe} C hm he => by
  refine onBoolOp_e hm fun o es pos hm => ?_
  obtain ⟨ho, hm⟩ := and2 hm
  refine onCons_e hm fun a es hm => onCons_e hm fun b t hm => ?_
  obtain ⟨h1, h2⟩ := and2 hm
  obtain rfl : o = .And := of_decide_eq_true ho
  · rw [evr_and] at he
    -- the rest as a BoolOp
    have rest : ∀ {bx₁ c bx₂}, evalE P r σ bx₁ = some (.bool c, bx₂) → ∀ s₁, Cx A hB k env nm gs cs B σ bx₁ s₁ → Does prog w A env B (.BoolOp .And (b :: t) pos) s₁ r.fresh (.bool c) bx₂ ∧ Tells prog w A env B (.BoolOp .And (b :: t) pos) s₁ c bx₂ := fun e s₁ C₁ => by
      cases t with
      | nil =>
        obtain ⟨d, _, tl⟩ := hr C₁ h2 e
        exact ⟨one_bool d, tell_bool1 (tl _ rfl)⟩
      | cons t1 t2 =>
        obtain ⟨d, _, tl⟩ := hr C₁ h2 e
        exact ⟨d, tl _ rfl⟩
    rcases bool_inv he with ⟨b₁, e1, he⟩ | ⟨b₁, e1, he⟩
    · obtain ⟨d1, _, t1⟩ := hl C h1 e1
      obtain ⟨c, b₂, e2, he⟩ := okB_inv he
      cases he
      exact ⟨do_and C d1 (fun _ s₁ C₁ _ => (rest e2 s₁ C₁).1) (fun e => by cases e), fun _ _ => rfl, fun c' e => by cases e; exact tell_and C (t1 _ rfl) (fun _ s₁ C₁ => (rest e2 s₁ C₁).2) fun e => by cases e⟩
    · obtain ⟨d1, _, t1⟩ := hl C h1 e1
      cases he
      exact ⟨do_and (fr₂ := true) C d1 (fun e => by cases e) (fun _ => ⟨rfl, rfl⟩), fun _ _ => rfl, fun c' e => by cases e; exact tell_and C (t1 _ rfl) (fun e => by cases e) fun _ => ⟨rfl, rfl⟩⟩
theorem sound_or {l r : E} (hl : SoundE prog w hB k P l) (hr : SoundE prog w hB k P r) : SoundE prog w hB k P (.or l r) := fun {A env nm gs cs B σ bx s v bx' pe} C hm he => by
  refine onBoolOp_e hm fun o es pos hm => ?_
  obtain ⟨ho, hm⟩ := and2 hm
  refine onCons_e hm fun a es hm => onCons_e hm fun b t hm => ?_
  obtain ⟨h1, h2⟩ := and2 hm
  obtain rfl : o = .Or := of_decide_eq_true ho
  · rw [evr_or] at he
    have rest : ∀ {bx₁ c bx₂}, evalE P r σ bx₁ = some (.bool c, bx₂) → ∀ s₁, Cx A hB k env nm gs cs B σ bx₁ s₁ → Does prog w A env B (.BoolOp .Or (b :: t) pos) s₁ r.fresh (.bool c) bx₂ ∧ Tells prog w A env B (.BoolOp .Or (b :: t) pos) s₁ c bx₂ := fun e s₁ C₁ => by
      cases t with
      | nil =>
        obtain ⟨d, _, tl⟩ := hr C₁ h2 e
        exact ⟨one_bool d, tell_bool1 (tl _ rfl)⟩
      | cons t1 t2 =>
        obtain ⟨d, _, tl⟩ := hr C₁ h2 e
        exact ⟨d, tl _ rfl⟩
    rcases bool_inv2 he with ⟨b₁, e1, he⟩ | ⟨b₁, e1, he⟩
    · obtain ⟨d1, _, t1⟩ := hl C h1 e1
      cases he
      exact ⟨do_or (fr₂ := true) C d1 (fun e => by cases e) (fun _ => ⟨rfl, rfl⟩), fun _ _ => rfl, fun c' e => by cases e; exact tell_or C (t1 _ rfl) (fun e => by cases e) fun _ => ⟨rfl, rfl⟩⟩
    · obtain ⟨d1, _, t1⟩ := hl C h1 e1
      obtain ⟨c, b₂, e2, he⟩ := okB_inv he
      cases he
      exact ⟨do_or C d1 (fun _ s₁ C₁ _ => (rest e2 s₁ C₁).1) (fun e => by cases e), fun _ _ => rfl, fun c' e => by cases e; exact tell_or C (t1 _ rfl) (fun _ s₁ C₁ => (rest e2 s₁ C₁).2) fun e => by cases e⟩

theorem sound_not {l : E} (hl : SoundE prog w hB k P l) : SoundE prog w hB k P (.not l) := fun C hm he => by
  refine onUn_e hm fun o _ _ hm => ?_
  obtain ⟨ho, hm⟩ := and2 hm
  obtain rfl : o = .Not := of_decide_eq_true ho
  obtain ⟨u, e1, he⟩ := op1_some he
  obtain ⟨d, _, t⟩ := hl C hm e1
  refine ⟨do_not d he, fun _ _ => rfl, fun c e => ?_⟩
  subst e
  unfold vNot at he
  split at he
  · cases he; exact tell_not (t _ rfl)
  · first | exact nn he | cases he
theorem sound_ife {c l r : E} (hc : SoundE prog w hB k P c) (hl : SoundE prog w hB k P l) (hr : SoundE prog w hB k P r) : SoundE prog w hB k P (.ife c l r) := fun C hm he => by
  refine onIfE_e hm fun _ _ _ _ hm => ?_
  obtain ⟨h1, h2, h3⟩ := and3 hm
  rw [evr_ife] at he
  rcases bool_inv he with ⟨b₁, e1, he⟩ | ⟨b₁, e1, he⟩
  · obtain ⟨i, b₂, e2, he⟩ := okI_inv he
    cases he
    exact ⟨do_ife (fr₂ := true) C ((hc C h1 e1).2.2 _ rfl) (fun _ s₁ C₁ _ => (hl C₁ h2 e2).1) (fun e => by cases e), fun _ _ => rfl, fun _ e => by cases e⟩
  · obtain ⟨i, b₂, e2, he⟩ := okI_inv he
    cases he
    exact ⟨do_ife (fr₁ := true) C ((hc C h1 e1).2.2 _ rfl) (fun e => by cases e) (fun _ s₁ C₁ _ => (hr C₁ h3 e2).1), fun _ _ => rfl, fun _ e => by cases e⟩
theorem vIdx_l {u v r : V} (h : vIdx u v = some r) : (∀ l, u ≠ .prs l) ∧ ∀ c, r ≠ .bool c := by
  unfold vIdx at h
  split at h
  · split at h
    · rename_i l i _
      refine ⟨fun _ e => (by cases e), fun c e => ?_⟩
      subst e
      cases h2 : l[i.toNat]? with
      | none => rw [h2] at h; first | exact nn h | cases h
      | some q => rw [h2] at h; first | exact nn h | cases h
    · first | exact nn h | cases h
  · first | exact nn h | cases h
theorem sound_idx {l r : E} (hl : SoundE prog w hB k P l) (hr : SoundE prog w hB k P r) : SoundE prog w hB k P (.idx l r) := fun C hm he => by
  refine onSub_e hm fun _ _ _ hm => ?_
  obtain ⟨h1, h2, h3⟩ := and3 hm
  obtain ⟨u, b₁, e1, he⟩ := two_some he
  obtain ⟨v, e2, he⟩ := op1_some he
  obtain ⟨p1, p2⟩ := vIdx_l he
  exact ⟨do_idx (by simpa using h1) C p1 (hl C h2 e1).1 (fun s₁ C₁ _ => (hr C₁ h3 e2).1) he, fun _ _ => rfl, fun c e => absurd e (p2 c)⟩
theorem vUpto_l {u v r : V} (h : vUpto u v = some r) : (∀ l, u ≠ .prs l) ∧ ∀ c, r ≠ .bool c := by
  unfold vUpto at h
  split at h
  · split at h
    · cases h; exact ⟨fun _ e => (by cases e), fun c e => (by cases e)⟩
    · first | exact nn h | cases h
  · split at h
    · cases h; exact ⟨fun _ e => (by cases e), fun c e => (by cases e)⟩
    · first | exact nn h | cases h
  · first | exact nn h | cases h
theorem sound_upto {l r : E} (hl : SoundE prog w hB k P l) (hr : SoundE prog w hB k P r) : SoundE prog w hB k P (.upto l r) := fun C hm he => by
  refine onSub_e hm fun _ _ _ hm => onSlice_e hm fun _ _ _ _ hm => onNone_e hm fun hm => onNone_e hm fun hm => onSome_e hm fun _ hm => ?_
  obtain ⟨h2, h3⟩ := and2 hm
  obtain ⟨u, b₁, e1, he⟩ := two_some he
  obtain ⟨v, e2, he⟩ := op1_some he
  obtain ⟨p1, p2⟩ := vUpto_l he
  exact ⟨do_upto C p1 (hl C h2 e1).1 (fun s₁ C₁ _ => (hr C₁ h3 e2).1) he, fun _ _ => rfl, fun c e => absurd e (p2 c)⟩
theorem vList_b {f : List Int → V} {u r : V} (hf : ∀ l c, f l ≠ .bool c) (h : vList (fun x => some (f x)) u = some r) : ∀ c, r ≠ .bool c := fun c e => by
  obtain ⟨l, _, _, h⟩ := vList_il h
  cases h
  exact hf l c e
theorem sound_from1 {l : E} {n : Nat} (hl : SoundE prog w hB k P l) : SoundE prog w hB k P (.from1 l n) := fun C hm he => by
  refine onSub_e hm fun _ _ _ hm => onSlice_e hm fun _ _ _ _ hm => onNone_e hm fun hm => onNone_e hm fun hm => onSome_e hm fun _ hm => ?_
  obtain ⟨h2, h3⟩ := and2 hm
  refine intIs_e h3 fun _ _ => ?_
  obtain ⟨u, e1, he⟩ := op1_some he
  exact ⟨do_from1 C (hl C h2 e1).1 he, fun _ _ => rfl, fun c e => absurd e (vList_b (f := fun x => .il (x.drop n)) (fun _ _ e => by cases e) he c)⟩
theorem sound_all {l : E} (hl : SoundE prog w hB k P l) : SoundE prog w hB k P (.all l) := fun C hm he => by
  refine onSub_e hm fun _ _ _ hm => onSlice_e hm fun _ _ _ _ hm => onNone_e hm fun hm => onNone_e hm fun hm => onNone_e hm fun hm => ?_
  obtain ⟨u, e1, he⟩ := op1_some he
  exact ⟨do_all C (hl C hm e1).1 he, fun _ _ => rfl, fun c e => absurd e (vList_b (f := fun x => .il x) (fun _ _ e => by cases e) he c)⟩
theorem sound_rev {l : E} (hl : SoundE prog w hB k P l) : SoundE prog w hB k P (.rev l) := fun C hm he => by
  refine onSub_e hm fun _ _ _ hm => onSlice_e hm fun _ _ _ _ hm => onNone_e hm fun hm => onNone_e hm fun hm => onSome_e hm fun _ hm => ?_
  obtain ⟨h2, h3⟩ := and2 hm
  obtain ⟨u, e1, he⟩ := op1_some he
  exact ⟨do_rev C h3 (hl C h2 e1).1 he, fun _ _ => rfl, fun c e => absurd e (vList_b (f := fun x => .il x.reverse) (fun _ _ e => by cases e) he c)⟩
theorem vCat_l {u v r : V} (h : vCat u v = some r) : (∀ l, u ≠ .prs l) ∧ ∀ c, r ≠ .bool c := by
  unfold vCat at h
  split at h
  · split at h
    · cases h; exact ⟨fun _ e => (by cases e), fun c e => (by cases e)⟩
    · first | exact nn h | cases h
  · first | exact nn h | cases h
theorem sound_cat {l r : E} (hl : SoundE prog w hB k P l) (hr : SoundE prog w hB k P r) : SoundE prog w hB k P (.cat l r) := fun C hm he => by
  refine onBin_e hm fun _ o _ _ hm => ?_
  obtain ⟨ho, h2, h3⟩ := and3 hm
  obtain rfl : o = .Add := of_decide_eq_true ho
  obtain ⟨u, b₁, e1, he⟩ := two_some he
  obtain ⟨v, e2, he⟩ := op1_some he
  obtain ⟨p1, p2⟩ := vCat_l he
  exact ⟨do_cat C p1 (hl C h2 e1).1 (fun s₁ C₁ _ => (hr C₁ h3 e2).1) he, fun _ _ => rfl, fun c e => absurd e (p2 c)⟩
theorem vRep_l {u v r : V} (h : vRep u v = some r) : (∀ l, u ≠ .prs l) ∧ ∀ c, r ≠ .bool c := by
  unfold vRep at h
  split at h
  · split at h
    · cases h; exact ⟨fun _ e => (by cases e), fun c e => (by cases e)⟩
    · first | exact nn h | cases h
  · first | exact nn h | cases h
theorem sound_rep {l r : E} (hl : SoundE prog w hB k P l) (hr : SoundE prog w hB k P r) : SoundE prog w hB k P (.rep l r) := fun C hm he => by
  refine onBin_e hm fun _ o _ _ hm => ?_
  obtain ⟨ho, h2, h3⟩ := and3 hm
  obtain rfl : o = .Mult := of_decide_eq_true ho
  obtain ⟨u, b₁, e1, he⟩ := two_some he
  obtain ⟨v, e2, he⟩ := op1_some he
  obtain ⟨p1, p2⟩ := vRep_l he
  exact ⟨do_rep C p1 (hl C h2 e1).1 (fun s₁ C₁ _ => (hr C₁ h3 e2).1) he, fun _ _ => rfl, fun c e => absurd e (p2 c)⟩
theorem sound_lit {l : List Int} : SoundE prog w hB k P (.lit l) := fun C hm he => by
  refine onList_e hm fun _ _ hm => ?_
  rw [evr_lit] at he
  split at he
  · first | exact nn he | cases he
    exact ⟨do_lit hm C (by assumption), fun _ _ => rfl, fun c e => by cases e⟩
  · first | exact nn he | cases he
theorem sound_lst1 {l : E} (hl : SoundE prog w hB k P l) : SoundE prog w hB k P (.lst1 l) := fun C hm he => by
  refine onList_e hm fun _ _ hm => on1_e hm fun _ hm => ?_
  obtain ⟨u, e1, he⟩ := op1_some he
  refine ⟨do_lst1 hm C (hl C hm e1).1 he, fun _ _ => rfl, fun c e => ?_⟩
  subst e
  unfold vLst1 at he
  split at he <;> cases he
theorem vRows2_l {u v r : V} (h : vRows2 u v = some r) : (∀ l, u ≠ .prs l) ∧ (∀ c, r ≠ .bool c) ∧ ∀ l, r ≠ .prs l := by
  unfold vRows2 at h
  split at h
  · cases h; exact ⟨fun _ e => (by cases e), fun c e => (by cases e), fun c e => (by cases e)⟩
  · first | exact nn h | cases h
theorem sound_rows2 {l r : E} (hl : SoundE prog w hB k P l) (hr : SoundE prog w hB k P r) : SoundE prog w hB k P (.rows2 l r) := fun C hm he => by
  refine onList_e hm fun _ _ hm => on2_e hm fun _ _ hm => ?_
  obtain ⟨h2, h3⟩ := and2 hm
  obtain ⟨u, b₁, e1, he⟩ := two_some he
  obtain ⟨v, e2, he⟩ := op1_some he
  obtain ⟨p1, p2, p3⟩ := vRows2_l he
  exact ⟨do_rows2 h2 h3 C p1 (hl C h2 e1).1 (fun s₁ C₁ _ => (hr C₁ h3 e2).1) he, fun l e => absurd e (p3 l), fun c e => absurd e (p2 c)⟩
end
end NN

/-! the expressions, whole: calls, comprehensions -/
namespace NN
open PySem PySem.W PyProof.Rows PySem.Calls

section
variable {prog : Program} {w : PySem.World} {hB : Heap} {fnA : Str → Option Addr} {k : Nat} {P : Fns} {A : Around} {env : Env} {nm : List Str} {gs cs : Str → Bool} {B : Bxa} {σ : Ev} {bx bx' : Bx} {s : Shared} {v : V} {pe : Expr}

theorem callee_fn (bs : Base hB fnA) {f : Str} {a : Addr} (ha : fnA f = some a) : Callee hB (.ref a) := by
  obtain ⟨o, fd, h1, h2⟩ := bs.fn f a ha
  exact .inr (.inr ⟨a, o, fd, rfl, h1, h2⟩)

theorem tell_call {g : Expr} {as : List Expr} {pos : Pos} {fr : Bool} {c : Bool} (h : Does prog w A env B (.Call g as [] pos) s fr (.bool c) bx) : Tells prog w A env B (.Call g as [] pos) s c bx := tell_value h fun _ => rfl

theorem sound_int {i : Int} : SoundE prog w hB k P (.int i) := fun C hm he => by
  cases he
  exact ⟨do_int hm C, fun _ _ => rfl, fun c e => by cases e⟩
theorem sound_bool {c : Bool} : SoundE prog w hB k P (.bool c) := fun C hm he => by
  refine onConst_e hm fun _ _ _ hm => onBoolC_e hm fun _ hm => ?_
  have e := of_decide_eq_true hm; subst e
  cases he
  exact ⟨do_bool C, fun _ _ => rfl, fun c e => by cases e; exact tell_value (do_bool (fr := true) C) fun _ => rfl⟩
theorem sound_var {x : Nat} : SoundE prog w hB k P (.var x) := fun {A env nm gs cs B σ bx s v bx' pe} C hm he => by
  rw [evr_var] at he
  cases h : gt σ x with
  | none => rw [h] at he; first | exact nn he | cases he
  | some u =>
    rw [h] at he; first | exact nn he | cases he
    have d := do_var (prog := prog) (w := w) hm C h
    refine ⟨d, fun l e => absurd e ((C.vars x _ h).1 l), fun c e => ?_⟩
    subst e
    refine onName_e (C := fun p => Does prog w A env B p s false _ _ → Tells prog w A env B p s _ _) hm (fun _ _ _ d => tell_value d fun _ => rfl) d

theorem sound_call1 (bs : Base hB fnA) (hF : FnsOk prog w hB fnA k P) {f : Str} {e₁ : E} (h1 : SoundE prog w hB k P e₁) : SoundE prog w hB k P (.call1 f e₁) := fun C hm he => by
  refine fnCall_e hm fun _ _ _ g1 g2 hm => on1_e hm fun _ m1 => ?_
  obtain ⟨u, e1, he⟩ := op1_some he
  obtain ⟨pv, pr, a, ha, hc⟩ := hF.fn _ _ _ he
  refine (fun d => ⟨d, fun _ _ => rfl, fun c e => by subst e; exact tell_call d⟩) ?_
  exact do_call1 C (callee_fn bs ha) rfl (fun E Q' h => nm_fn bs C g1 g2 ha h) m1 (h1 C m1 e1).1 (fun x s₂ C₂ r E => go_fn C₂ hc pv (.cons r .nil) pr)
theorem sound_call2 (bs : Base hB fnA) (hF : FnsOk prog w hB fnA k P) {f : Str} {e₁ e₂ : E} (h1 : SoundE prog w hB k P e₁) (h2 : SoundE prog w hB k P e₂) : SoundE prog w hB k P (.call2 f e₁ e₂) := fun C hm he => by
  refine fnCall_e hm fun _ _ _ g1 g2 hm => on2_e hm fun _ _ hm => ?_
  obtain ⟨m1, m2⟩ := and2 hm
  obtain ⟨u, b₁, e1, he⟩ := two_some he
  obtain ⟨v, e2, he⟩ := op1_some he
  obtain ⟨pv, pr, a, ha, hc⟩ := hF.fn _ _ _ he
  refine (fun d => ⟨d, fun _ _ => rfl, fun c e => by subst e; exact tell_call d⟩) ?_
  exact do_call2 C (callee_fn bs ha) rfl (fun E Q' h => nm_fn bs C g1 g2 ha h) m1 m2 (notPrs (pv _ (.head _))) (h1 C m1 e1).1 (fun s₁ C₁ _ => (h2 C₁ m2 e2).1)
    (fun x y s₂ C₂ r r' E => go_fn C₂ hc pv (.cons r (.cons r' .nil)) pr)
theorem sound_call3 (bs : Base hB fnA) (hF : FnsOk prog w hB fnA k P) {f : Str} {e₁ e₂ e₃ : E} (h1 : SoundE prog w hB k P e₁) (h2 : SoundE prog w hB k P e₂) (h3 : SoundE prog w hB k P e₃) : SoundE prog w hB k P (.call3 f e₁ e₂ e₃) := fun C hm he => by
  refine fnCall_e hm fun _ _ _ g1 g2 hm => on3_e hm fun _ _ _ hm => ?_
  obtain ⟨m1, m2, m3⟩ := and3 hm
  obtain ⟨u, b₁, e1, he⟩ := two_some he
  obtain ⟨u₂, b₂, e2, he⟩ := two_some he
  obtain ⟨v, e3, he⟩ := op1_some he
  obtain ⟨pv, pr, a, ha, hc⟩ := hF.fn _ _ _ he
  refine (fun d => ⟨d, fun _ _ => rfl, fun c e => by subst e; exact tell_call d⟩) ?_
  exact do_call3 C (callee_fn bs ha) rfl (fun E Q' h => nm_fn bs C g1 g2 ha h) m1 m2 m3 (notPrs (pv _ (.head _))) (notPrs (pv _ (.tail _ (.head _)))) (h1 C m1 e1).1 (fun s₁ C₁ _ => (h2 C₁ m2 e2).1) (fun s₁ C₁ _ => (h3 C₁ m3 e3).1)
    (fun x y z s₂ C₂ r r' r'' E => go_fn C₂ hc pv (.cons r (.cons r' (.cons r'' .nil))) pr)
theorem sound_call4 (bs : Base hB fnA) (hF : FnsOk prog w hB fnA k P) {f : Str} {e₁ e₂ e₃ e₄ : E} (h1 : SoundE prog w hB k P e₁) (h2 : SoundE prog w hB k P e₂) (h3 : SoundE prog w hB k P e₃) (h4 : SoundE prog w hB k P e₄) : SoundE prog w hB k P (.call4 f e₁ e₂ e₃ e₄) := fun C hm he => by
  refine fnCall_e hm fun _ _ _ g1 g2 hm => on4_e hm fun _ _ _ _ hm => ?_
  obtain ⟨m1, m2, m3, m4⟩ := and4 hm
  obtain ⟨u, b₁, e1, he⟩ := two_some he
  obtain ⟨u₂, b₂, e2, he⟩ := two_some he
  obtain ⟨u₃, b₃, e3, he⟩ := two_some he
  obtain ⟨v, e4, he⟩ := op1_some he
  obtain ⟨pv, pr, a, ha, hc⟩ := hF.fn _ _ _ he
  refine (fun d => ⟨d, fun _ _ => rfl, fun c e => by subst e; exact tell_call d⟩) ?_
  exact do_call4 C (callee_fn bs ha) rfl (fun E Q' h => nm_fn bs C g1 g2 ha h) m1 m2 m3 m4 (notPrs (pv _ (.head _))) (notPrs (pv _ (.tail _ (.head _)))) (notPrs (pv _ (.tail _ (.tail _ (.head _)))))
    (h1 C m1 e1).1 (fun s₁ C₁ _ => (h2 C₁ m2 e2).1) (fun s₁ C₁ _ => (h3 C₁ m3 e3).1) (fun s₁ C₁ _ => (h4 C₁ m4 e4).1)
    (fun x y z a s₂ C₂ r r' r'' r''' E => go_fn C₂ hc pv (.cons r (.cons r' (.cons r'' (.cons r''' .nil)))) pr)
theorem sound_un (bs : Base hB fnA) {f : Str} {fv : Value} {e e₁ : E} {F : V → Option V} (hb : (f, fv) ∈ ([("len", .builtin "len"), ("min", .builtin "min"), ("sum", .builtin "sum"), ("int", .type "int"), ("list", .type "list"), ("range", .type "range"), ("zip", .type "zip"), ("enumerate", .type "enumerate")] : List (Str × Value)))
    (hcl : Callee hB fv) (h1 : SoundE prog w hB k P e₁) (hm : ∀ nm gs cs p, mE nm gs cs e p = fnCall gs f p fun as => on1 as fun a => mE nm gs cs e₁ a) (he : ∀ s b, evalE P e s b = op1 F (evalE P e₁ s b)) (hf : e.fresh = true)
    (go : ∀ {A env nm gs cs B σ bx s u r x}, F u = some r → Cx A hB k env nm gs cs B σ bx s → Rep B s.heap (fun b => ¬ isBx B b) u x → ∀ E, wpAny (model prog w) A (call fv [x]) (Post B s e.fresh r bx) E s) (nb : ∀ u c, F u ≠ some (.bool c)) : SoundE prog w hB k P e := fun C hm' he' => by
  rw [hm] at hm'
  rw [he] at he'
  refine fnCall_e hm' fun _ _ _ g1 g2 hm => on1_e hm fun _ m1 => ?_
  obtain ⟨u, e1, h⟩ := op1_some he'
  exact ⟨do_call1 C hcl rfl (fun E Q' h => nm_blt bs C g1 g2 hb h) m1 (h1 C m1 e1).1 (fun x s₂ C₂ r E => go h C₂ r E), fun _ _ => hf, fun c e => absurd (e ▸ h) (nb u c)⟩
theorem sound_bi (bs : Base hB fnA) {f : Str} {fv : Value} {e e₁ e₂ : E} {F : V → V → Option V} (hb : (f, fv) ∈ ([("len", .builtin "len"), ("min", .builtin "min"), ("sum", .builtin "sum"), ("int", .type "int"), ("list", .type "list"), ("range", .type "range"), ("zip", .type "zip"), ("enumerate", .type "enumerate")] : List (Str × Value)))
    (hcl : Callee hB fv) (h1 : SoundE prog w hB k P e₁) (h2 : SoundE prog w hB k P e₂) (hm : ∀ nm gs cs p, mE nm gs cs e p = fnCall gs f p fun as => on2 as fun a b => mE nm gs cs e₁ a && mE nm gs cs e₂ b)
    (he : ∀ s b, evalE P e s b = (match evalE P e₁ s b with | none => none | some (u, b₁) => op1 (F u) (evalE P e₂ s b₁))) (hf : e.fresh = true)
    (go : ∀ {A env nm gs cs B σ bx s u v r x y}, F u v = some r → Cx A hB k env nm gs cs B σ bx s → Rep B s.heap (fun b => ¬ isBx B b) u x → Rep B s.heap (fun b => ¬ isBx B b) v y → ∀ E, wpAny (model prog w) A (call fv [x, y]) (Post B s e.fresh r bx) E s)
    (np : ∀ l v, F (.prs l) v = none) (nb : ∀ u v c, F u v ≠ some (.bool c)) : SoundE prog w hB k P e := fun C hm' he' => by
  rw [hm] at hm'
  rw [he] at he'
  refine fnCall_e hm' fun _ _ _ g1 g2 hm => on2_e hm fun _ _ hm => ?_
  obtain ⟨m1, m2⟩ := and2 hm
  obtain ⟨u, b₁, e1, he⟩ := two_some he'
  obtain ⟨v, e2, h⟩ := op1_some he
  exact ⟨do_call2 C hcl rfl (fun E Q' h => nm_blt bs C g1 g2 hb h) m1 m2 (fun l e => by rw [e, np] at h; cases h) (h1 C m1 e1).1 (fun s₁ C₁ _ => (h2 C₁ m2 e2).1) (fun x y s₂ C₂ r r' E => go h C₂ r r' E), fun _ _ => hf, fun c e => absurd (e ▸ h) (nb u v c)⟩

theorem vList_nb {f : List Int → V} (hf : ∀ l c, f l ≠ .bool c) (u : V) (c : Bool) : vList (fun x => some (f x)) u ≠ some (.bool c) := fun h => vList_b hf h c rfl
theorem sound_len (bs : Base hB fnA) {e₁ : E} (h1 : SoundE prog w hB k P e₁) : SoundE prog w hB k P (.len e₁) :=
  sound_un bs (.head _) (.inl ⟨_, rfl⟩) h1 (fun _ _ _ _ => rfl) (fun _ _ => rfl) rfl (fun h C r E => by
    obtain ⟨l, rfl, hc, h⟩ := vList_il h
    cases h
    exact go_len C hc r) (vList_nb (f := fun x => .int x.length) fun _ _ e => by cases e)
theorem sound_sum (bs : Base hB fnA) {e₁ : E} (h1 : SoundE prog w hB k P e₁) : SoundE prog w hB k P (.sum e₁) :=
  sound_un bs (.tail _ (.tail _ (.head _))) (.inl ⟨_, rfl⟩) h1 (fun _ _ _ _ => rfl) (fun _ _ => rfl) rfl (fun {_ _ _ _ _ _ _ _ _ u _ _} h C r E => by
    cases u <;> first | exact nn h | skip
    cases h
    exact go_sum C r) (fun u c h => by cases u <;> first | exact nn h | cases h)
theorem sound_toInt (bs : Base hB fnA) {e₁ : E} (h1 : SoundE prog w hB k P e₁) : SoundE prog w hB k P (.toInt e₁) :=
  sound_un bs (.tail _ (.tail _ (.tail _ (.head _)))) (.inr (.inl ⟨_, rfl⟩)) h1 (fun _ _ _ _ => rfl) (fun _ _ => rfl) rfl (fun {_ _ _ _ _ _ _ _ _ u _ _} h C r E => by
    cases u <;> first | exact nn h | skip
    cases h
    exact go_int C r) (fun u c h => by cases u <;> first | exact nn h | cases h)
theorem sound_toList (bs : Base hB fnA) {e₁ : E} (h1 : SoundE prog w hB k P e₁) : SoundE prog w hB k P (.toList e₁) :=
  sound_un bs (.tail _ (.tail _ (.tail _ (.tail _ (.head _))))) (.inr (.inl ⟨_, rfl⟩)) h1 (fun _ _ _ _ => rfl) (fun _ _ => rfl) rfl (fun h C r E => by
    obtain ⟨l, rfl, hc, h⟩ := vList_il h
    cases h
    exact go_list C hc r) (vList_nb (f := fun x => .il x) fun _ _ e => by cases e)
theorem sound_range1 (bs : Base hB fnA) {e₁ : E} (h1 : SoundE prog w hB k P e₁) : SoundE prog w hB k P (.range1 e₁) :=
  sound_un bs (.tail _ (.tail _ (.tail _ (.tail _ (.tail _ (.head _)))))) (.inr (.inl ⟨_, rfl⟩)) h1 (fun _ _ _ _ => rfl) (fun _ _ => rfl) rfl (fun h C r E => go_range1 C h r) (fun u c h => by
    obtain ⟨_, _, _, _, _, _, _, _, _, _, er⟩ := vRange_some h
    cases er)
theorem sound_enum (bs : Base hB fnA) {e₁ : E} (h1 : SoundE prog w hB k P e₁) : SoundE prog w hB k P (.enum e₁) :=
  sound_un bs (.tail _ (.tail _ (.tail _ (.tail _ (.tail _ (.tail _ (.tail _ (.head _)))))))) (.inr (.inl ⟨_, rfl⟩)) h1 (fun _ _ _ _ => rfl) (fun _ _ => rfl) rfl (fun h C r E => go_enum C h r) (fun u c h => by
    cases u <;> first | exact nn h | skip
    obtain ⟨_, h⟩ := pite_some (p := _ ≤ cap) h
    cases h)
theorem vMin_l {u v r : V} (h : vMin u v = some r) : ∃ a b, u = .int a ∧ v = .int b ∧ r = .int (min a b) := by
  unfold vMin at h
  split at h
  · cases h; exact ⟨_, _, rfl, rfl, rfl⟩
  · first | exact nn h | cases h
theorem sound_min2 (bs : Base hB fnA) {e₁ e₂ : E} (h1 : SoundE prog w hB k P e₁) (h2 : SoundE prog w hB k P e₂) : SoundE prog w hB k P (.min2 e₁ e₂) :=
  sound_bi bs (.tail _ (.head _)) (.inl ⟨_, rfl⟩) h1 h2 (fun _ _ _ _ => rfl) (fun _ _ => rfl) rfl (fun h C r r' E => by
    obtain ⟨a, b, rfl, rfl, rfl⟩ := vMin_l h
    exact go_min C r r') (fun _ _ => rfl) (fun u v c h => by
    obtain ⟨a, b, rfl, rfl, e⟩ := vMin_l h
    cases e)
theorem vRange_l {u v z r : V} (h : vRange u v z = some r) : (∀ l, u ≠ .prs l) ∧ (∀ l, v ≠ .prs l) ∧ ∀ c, r ≠ .bool c := by
  obtain ⟨a, b, c, e1, e2, _, _, _, _, _, er⟩ := vRange_some h
  rw [e1, e2, er]
  exact ⟨fun _ e => (nomatch e), fun _ e => (nomatch e), fun _ e => (nomatch e)⟩
theorem sound_range3 (bs : Base hB fnA) {e₁ e₂ e₃ : E} (h1 : SoundE prog w hB k P e₁) (h2 : SoundE prog w hB k P e₂) (h3 : SoundE prog w hB k P e₃) : SoundE prog w hB k P (.range3 e₁ e₂ e₃) := fun C hm he => by
  refine fnCall_e hm fun _ _ _ g1 g2 hm => on3_e hm fun _ _ _ hm => ?_
  obtain ⟨m1, m2, m3⟩ := and3 hm
  obtain ⟨u, b₁, e1, he⟩ := two_some he
  obtain ⟨u₂, b₂, e2, he⟩ := two_some he
  obtain ⟨v, e3, he⟩ := op1_some he
  obtain ⟨n1, n2, nb⟩ := vRange_l he
  exact ⟨do_call3 C (.inr (.inl ⟨_, rfl⟩)) rfl (fun E Q' h => nm_blt bs C g1 g2 (by simp) h) m1 m2 m3 n1 n2 (h1 C m1 e1).1 (fun s₁ C₁ _ => (h2 C₁ m2 e2).1) (fun s₁ C₁ _ => (h3 C₁ m3 e3).1)
    (fun x y z s₂ C₂ r r' r'' E => go_range3 C₂ he r r' r''), fun _ _ => rfl, fun c e => absurd e (nb c)⟩
theorem vZip_l {u v r : V} (h : vZip u v = some r) : (∀ l, u ≠ .prs l) ∧ ∀ c, r ≠ .bool c := by
  unfold vZip at h
  split at h
  · split at h
    · cases h; exact ⟨fun _ e => (by cases e), fun c e => (by cases e)⟩
    · first | exact nn h | cases h
  · first | exact nn h | cases h
theorem sound_zip (bs : Base hB fnA) {e₁ e₂ : E} (h1 : SoundE prog w hB k P e₁) (h2 : SoundE prog w hB k P e₂) : SoundE prog w hB k P (.zip e₁ e₂) :=
  sound_bi bs (.tail _ (.tail _ (.tail _ (.tail _ (.tail _ (.tail _ (.head _))))))) (.inr (.inl ⟨_, rfl⟩)) h1 h2 (fun _ _ _ _ => rfl) (fun _ _ => rfl) rfl (fun h C r r' E => go_zip C h r r') (fun _ _ => rfl) (fun u v c h => (vZip_l h).2 c rfl)

/-! ## the box -/
theorem go_box {a : Addr} {m : Int} {b b' : List Int × Int} {r : V} {fr : Bool} {x y : Value} (hp : plainV r = true) (C : Cx A hB k env nm gs cs B σ (some b) s) (hc : ContractB prog w hB k a m b r b') (rx : Rep B s.heap (fun b => ¬ isBx B b) .box x) (ry : Rep B s.heap (fun b => ¬ isBx B b) (.int m) y) (E : Value → Shared → Prop) :
    wpAny (model prog w) A (call (.ref a) [x, y]) (Post B s fr r (some b')) E s := by
  obtain ⟨p, e, rfl⟩ := rx
  obtain ⟨t, rfl⟩ := ry
  exact wpAny_call (hc A B s p t _ (C.room.le (Nat.le_succ k)) C.base e C.box C.bxh fun val s' q hb rr => ⟨q, hb, rr.weaken fun _ g => ⟨g.1, fun _ => g.2⟩⟩)

theorem sound_take (bs : Base hB fnA) (hF : FnsOk prog w hB fnA k P) {x : Nat} {e₁ : E} (h1 : SoundE prog w hB k P e₁) : SoundE prog w hB k P (.take x e₁) := fun C hm he => by
  refine fnCall_e hm fun _ _ _ g1 g2 hm => on2_e hm fun _ _ hm => ?_
  obtain ⟨m1, m2⟩ := and2 hm
  rw [evr_take] at he
  obtain ⟨hx, he⟩ := box_some he
  obtain ⟨m, b, e1, he⟩ := intB_some he
  obtain ⟨⟨r, b'⟩, h, he⟩ := map_some he
  cases he
  obtain ⟨a, ha, hc⟩ := hF.take _ _ _ _ h
  exact ⟨do_call2 (e := .var x) C (callee_fn bs ha) rfl (fun E Q' h => nm_fn bs C g1 g2 ha h) m1 m2 (fun _ e => by cases e) (do_var m1 C hx) (fun s₁ C₁ _ => (h1 C₁ m2 e1).1)
    (fun x y s₂ C₂ r r' E => go_box rfl C₂ hc r r' E), fun _ _ => rfl, fun c e => by cases e⟩
theorem sound_drawn (bs : Base hB fnA) (hF : FnsOk prog w hB fnA k P) {x : Nat} {e₁ : E} (h1 : SoundE prog w hB k P e₁) : SoundE prog w hB k P (.drawn x e₁) := fun C hm he => by
  refine fnCall_e hm fun _ _ _ g1 g2 hm => on2_e hm fun _ _ hm => ?_
  obtain ⟨m1, m2⟩ := and2 hm
  rw [evr_drawn] at he
  obtain ⟨hx, he⟩ := box_some he
  obtain ⟨m, b, e1, he⟩ := intB_some he
  obtain ⟨⟨r, b'⟩, h, he⟩ := map_some he
  cases he
  obtain ⟨a, ha, hc⟩ := hF.drawn _ _ _ _ h
  exact ⟨do_call2 (e := .var x) C (callee_fn bs ha) rfl (fun E Q' h => nm_fn bs C g1 g2 ha h) m1 m2 (fun _ e => by cases e) (do_var m1 C hx) (fun s₁ C₁ _ => (h1 C₁ m2 e1).1)
    (fun x y s₂ C₂ r r' E => go_box rfl C₂ hc r r' E), fun _ _ => rfl, fun c e => by cases e⟩
theorem do_box1 {x : Nat} {p : Expr} {kk : Nat} {pi pos : Pos} {l : List Int} {n : Int} {fr : Bool} (hm : isVar nm x p = true) (C : Cx A hB k env nm gs cs B σ (some (l, n)) s) (hx : gt σ x = some .box) : Does prog w A env B (.Subscript p (.Constant (.int 1) kk pi) pos) s fr (.int n) (some (l, n)) := fun E => by
  refine Subscript_ (wpAny_mono (do_var hm C hx E) (fun o s₁ h₁ => wpAny_Constant_int ?_) fun _ _ z => z)
  obtain ⟨q, hb, p, e, rfl⟩ := h₁
  have hb' := hb
  obtain ⟨aB, aL, t, vs, n₁, m, e', _, i1, _⟩ := hb
  rw [e] at e'; first | exact nn e' | cases e'
  have il : s₁.heap.IsList aB #[.ref aL, .int n t] := i1.isList
  refine tail_any (s := { s₁ with toks := s₁.toks + 1 }) (ops := [.ref aB, .int 1 s₁.toks]) (Heap.IsList.typeIs (s := { s₁ with toks := s₁.toks + 1 }) il) slot_list_getitem.lookup (wpAny_getItem_list (s := { s₁ with toks := s₁.toks + 1 }) (x := .int n t) il (by decide) (by decide) rfl ?_) rfl
  exact ⟨q.trans (.tok B s₁ _), hb', ⟨t, rfl⟩⟩
theorem sound_box1 {x : Nat} : SoundE prog w hB k P (.box1 x) := fun {A env nm gs cs B σ bx s v bx' pe} C hm he => by
  refine onSub_e hm fun _ _ _ hm => ?_
  obtain ⟨m1, m2⟩ := and2 hm
  refine intIs_e m2 fun _ _ => ?_
  rw [evr_box1] at he
  obtain ⟨hx, he⟩ := box_some he
  cases bx with
  | none => exact nn he
  | some q =>
    cases he
    exact ⟨do_box1 m1 C hx, fun _ _ => rfl, fun c e => by cases e⟩

/-! ## comprehensions -/
theorem comp_some {its : List Ev} {f : Ev → Bx → Option (Option V × Bx)} {rw c : Bool} {b₁ : Bx} (h : (if c = true then (match compLoop f its b₁ with | none => none | some (vs, b₂) => (pack rw vs).map (·, b₂)) else none) = some (v, bx')) :
    c = true ∧ ∃ vs, compLoop f its b₁ = some (vs, bx') ∧ pack rw vs = some v := by
  split at h
  · rename_i hc
    cases h1 : compLoop f its b₁ with
    | none => rw [h1] at h; first | exact nn h | cases h
    | some q =>
      obtain ⟨vs, b₂⟩ := q
      rw [h1] at h
      dsimp only at h
      cases h2 : pack rw vs with
      | none => rw [h2] at h; first | exact nn h | cases h
      | some r => rw [h2] at h; cases h; exact ⟨hc, vs, rfl, h2⟩
  · first | exact nn h | cases h

/-- one round of a comprehension: what its cond, its element say -/
theorem round_ok {rw : Bool} {nm2 : List Str} {gs2 : Str → Bool} {cond elt : E} {pel : Expr} {ifs : List Expr} {env' : Env} {e' : Ev} (hc : SoundE prog w hB k P cond) (hel : SoundE prog w hB k P elt) (hfr : elt.fresh = true)
    (m3 : CondOk nm2 gs2 cond ifs) (m4 : mE nm2 gs2 (fun _ => false) elt pel = true) {b b' : Bx} {ov : Option V} {s' : Shared}
    (hf : (match evalE P cond e' b with
        | some (.bool true, b₂) => (match evalE P elt e' b₂ with | some (v, b₃) => if eltOk v then some (some v, b₃) else none | none => none)
        | some (.bool false, b₂) => some (none, b₂)
        | _ => none) = some (ov, b')) (Y : Cx A hB k env' nm2 gs2 (fun _ => false) B e' b s') : ∃ c b₁,
      (∀ E : Value → Shared → Prop, wpAny (model prog w) A (forIn ifs true fun c r => if r = true then do let ok ← isTrue c env' (eval c env'); pure (ForInStep.yield ok) else pure (ForInStep.yield r)) (fun ok s₃ => ok = c ∧ Kp B s' s₃ ∧ BoxOk B s₃.heap b₁) E s') ∧
      (c = false → ov = none ∧ b' = b₁) ∧ (c = true → ∃ u, ov = some u ∧ (∀ l, u ≠ .prs l) ∧ ∀ s₃, Kp B s' s₃ → Cx A hB k env' nm2 gs2 (fun _ => false) B e' b₁ s₃ → Does prog w A env' B pel s₃ true u b') := by
  have test : ∀ {c b₂}, evalE P cond e' b = some (.bool c, b₂) → ∀ E : Value → Shared → Prop, wpAny (model prog w) A (forIn ifs true fun c r => if r = true then do let ok ← isTrue c env' (eval c env'); pure (ForInStep.yield ok) else pure (ForInStep.yield r)) (fun ok s₃ => ok = c ∧ Kp B s' s₃ ∧ BoxOk B s₃.heap b₂) E s' := fun {c b₂} hce E => by
    rcases m3 with ⟨rfl, rfl⟩ | ⟨pc, rfl, m3⟩
    · first | exact nn hce | cases hce
      exact wpAny_tests_nil ⟨rfl, .refl B s', Y.box⟩
    · exact wpAny_tests_one ((hc Y m3 hce).2.2 _ rfl E)
  split at hf
  · rename_i b₂ hce
    cases hee : evalE P elt e' b₂ with
    | none => rw [hee] at hf; first | exact nn hf | cases hf
    | some q =>
      obtain ⟨ev, b₄⟩ := q
      rw [hee] at hf
      dsimp only at hf
      split at hf
      · rename_i hok
        cases hf
        refine ⟨true, b₂, test hce, (fun e => by cases e), fun _ => ⟨ev, rfl, fun l e => by (subst e; cases hok), fun s₃ _ Y₃ => ?_⟩⟩
        have := (hel Y₃ m4 hee).1
        rw [hfr] at this
        exact this
      · first | exact nn hf | cases hf
  · rename_i b₂ hce
    cases hf
    exact ⟨false, _, test hce, fun _ => ⟨rfl, rfl⟩, fun e => by cases e⟩
  · first | exact nn hf | cases hf

theorem evr_comp {rw two : Bool} {src cond elt : E} {caps : List Nat} {s : Ev} {b : Bx} : evalE P (.comp rw two src cond elt caps) s b = (match evalE P src s b with
    | none => none
    | some (u, b₁) => match itemsOf two u with
      | none => none
      | some its => if decide (its.length ≤ cap) && elt.fresh then
          match compLoop (fun e b' => match evalE P cond (e ++ caps.map (gt s)) b' with
            | some (.bool true, b₂) => (match evalE P elt (e ++ caps.map (gt s)) b₂ with | some (v, b₃) => if eltOk v then some (some v, b₃) else none | none => none)
            | some (.bool false, b₂) => some (none, b₂)
            | _ => none) its b₁ with
          | none => none
          | some (vs, b₂) => (pack rw vs).map (·, b₂)
        else none) := rfl

theorem pack_notBool {rw : Bool} {vs : List V} {v : V} (h : pack rw vs = some v) (c : Bool) : v ≠ .bool c := fun e => by
  subst e
  unfold pack at h
  cases rw
  · simp only [Bool.false_eq_true, if_false] at h
    cases h2 : packI vs <;> rw [h2] at h <;> cases h
  · simp only [if_true] at h
    cases h2 : packL vs <;> rw [h2] at h <;> cases h

theorem sound_comp {rw two : Bool} {src cond elt : E} {caps : List Nat} (hs : SoundE prog w hB k P src) (hc : SoundE prog w hB k P cond) (hel : SoundE prog w hB k P elt) : SoundE prog w hB k P (.comp rw two src cond elt caps) := fun C hm he => by
  refine comp_e hm fun pel tg it ifs sc pos ts htg m1 m2 m3 m4 => ?_
  have F := scope_fits m2
  rw [evr_comp] at he
  obtain ⟨u, b₁, e1, he⟩ := two_some he
  cases hits : itemsOf two u with
  | none => rw [hits] at he; first | exact nn he | cases he
  | some its =>
    rw [hits] at he
    obtain ⟨hcf, vs, hlp, hpk⟩ := comp_some he
    rw [Bool.and_eq_true] at hcf
    obtain ⟨d, hpr, _⟩ := hs C m1 e1
    exact ⟨do_comp F C htg hits hpr m1 d (of_decide_eq_true hcf.1) hlp hpk fun e b ov b' hf env' s' Y => round_ok (rw := rw) hc hel hcf.2 m3 m4 hf Y, fun _ _ => rfl, fun c e => absurd e (pack_notBool hpk c)⟩

theorem sound_all_E (bs : Base hB fnA) (hF : FnsOk prog w hB fnA k P) (e : E) : SoundE prog w hB k P e := by
  induction e with
  | int i => exact sound_int
  | bool c => exact sound_bool
  | var x => exact sound_var
  | bin o l r h1 h2 => exact sound_bin h1 h2
  | cmp c l r h1 h2 => exact sound_cmp h1 h2
  | and l r h1 h2 => exact sound_and h1 h2
  | or l r h1 h2 => exact sound_or h1 h2
  | not l h1 => exact sound_not h1
  | ife c a b h1 h2 h3 => exact sound_ife h1 h2 h3
  | idx l i h1 h2 => exact sound_idx h1 h2
  | upto l i h1 h2 => exact sound_upto h1 h2
  | from1 l n h1 => exact sound_from1 h1
  | all l h1 => exact sound_all h1
  | rev l h1 => exact sound_rev h1
  | cat l r h1 h2 => exact sound_cat h1 h2
  | rep l r h1 h2 => exact sound_rep h1 h2
  | lit l => exact sound_lit
  | lst1 e h1 => exact sound_lst1 h1
  | rows2 l r h1 h2 => exact sound_rows2 h1 h2
  | call1 f a h1 => exact sound_call1 bs hF h1
  | call2 f a b h1 h2 => exact sound_call2 bs hF h1 h2
  | call3 f a b c h1 h2 h3 => exact sound_call3 bs hF h1 h2 h3
  | call4 f a b c d h1 h2 h3 h4 => exact sound_call4 bs hF h1 h2 h3 h4
  | len e h1 => exact sound_len bs h1
  | min2 l r h1 h2 => exact sound_min2 bs h1 h2
  | sum e h1 => exact sound_sum bs h1
  | toInt e h1 => exact sound_toInt bs h1
  | toList e h1 => exact sound_toList bs h1
  | range1 e h1 => exact sound_range1 bs h1
  | range3 l r t h1 h2 h3 => exact sound_range3 bs h1 h2 h3
  | zip l r h1 h2 => exact sound_zip bs h1 h2
  | enum e h1 => exact sound_enum bs h1
  | comp rw two src cond elt caps h1 h2 h3 => exact sound_comp h1 h2 h3
  | take x e h1 => exact sound_take bs hF h1
  | drawn x e h1 => exact sound_drawn bs hF h1
  | box1 x => exact sound_box1
end
end NN

/-! a frame's names, the lists that it owns -/
namespace NN
open PySem PySem.W PyProof.Rows PySem.Calls

noncomputable def slot (env : Env) (nm : List Str) (b : Addr) : Prop := b = env.locals ∨ ∃ x, x ∈ nm ∧ env.kindOf x = some .cell ∧ env.cells.lookup x = some b

structure FrOk (A : Around) (hB h₀ : Heap) (k : Nat) (env : Env) (nm : List Str) (gs cs ls : Str → Bool) (B : Bxa) : Prop where
  room : Room A (k + 1)
  ok : EnvOk env
  hgs : ∀ x, gs x = true → env.kindOf x = some .globalImplicit
  hcs : ∀ x, cs x = true → env.kindOf x = some .cell ∧ ∃ c, env.cells.lookup x = some c
  hls : ∀ x, ls x = true → env.kindOf x = some .local
  nodup : nm.Nodup
  kinds : ∀ x ∈ nm, env.kindOf x = some .local ∨ (env.kindOf x = some .cell ∧ ∃ c, env.cells.lookup x = some c)
  inj : ∀ x y c, env.cells.lookup x = some c → env.cells.lookup y = some c → x = y
  apart : ∀ x c, env.cells.lookup x = some c → c ≠ env.locals
  fresh : ∀ b, slot env nm b → h₀.get? b = none
  nbx : ∀ b, slot env nm b → ¬ isBx B b
  base : SubH hB h₀
  bxh : ∀ b, isBx B b → hB.get? b = none

noncomputable def Own := Nat → Option Addr
noncomputable def Fbd (B : Bxa) (env : Env) (nm : List Str) (O : Own) (b : Addr) : Prop := isBx B b ∨ slot env nm b ∨ ∃ j, O j = some b

/-- what stands between two statements; X: places that nothing here leans on -/
structure StOk (h₀ : Heap) (env : Env) (nm : List Str) (B : Bxa) (M : Nat → Bool) (X : Addr → Prop) (σ : Ev) (O : Own) (bx : Bx) (s : Shared) : Prop where
  keep : ∀ b o, ¬ isBx B b → h₀.get? b = some o → s.heap.get? b = some o
  box : BoxOk B s.heap bx
  ns : ∃ m, s.heap.Ns env.locals m
  cells : ∀ x ∈ nm, env.kindOf x = some .cell → ∀ c, env.cells.lookup x = some c → ∃ v, s.heap.IsCell c v
  len : σ.length = nm.length
  vals : ∀ i v, gt σ i = some v → (∀ l, v ≠ .prs l) ∧ ∃ x val, nm[i]? = some x ∧ RdAt B env s.heap x val ∧
    (match O i with | some a => val = .ref a ∧ ∃ l, v = .il l ∧ IntL s.heap a l | none => Rep B s.heap (fun b => ¬ Fbd B env nm O b ∧ ¬ X b) v val)
  own : ∀ i a, O i = some a → M i = true ∧ h₀.get? a = none ∧ ¬ isBx B a ∧ ¬ slot env nm a ∧ ¬ X a ∧ ∃ l, gt σ i = some (.il l)
  inj : ∀ i j a, O i = some a → O j = some a → i = j
  mode : ∀ i l, M i = true → gt σ i = some (.il l) → ∃ a, O i = some a
  slotX : ∀ b, slot env nm b → ¬ X b

section
variable {A : Around} {hB h₀ : Heap} {k : Nat} {env : Env} {nm : List Str} {gs cs ls : Str → Bool} {B : Bxa} {M : Nat → Bool} {X Y U : Addr → Prop} {σ : Ev} {O : Own} {bx bx' : Bx} {s s₁ : Shared} {v : V} {val : Value}

theorem slot_has (F : FrOk A hB h₀ k env nm gs cs ls B) (S : StOk h₀ env nm B M X σ O bx s) {b : Addr} (h : slot env nm b) : ∃ o, s.heap.get? b = some o := by
  rcases h with rfl | ⟨x, hx, hk, hc⟩
  · obtain ⟨m, o, _, _, e, _⟩ := S.ns; exact ⟨o, e⟩
  · obtain ⟨v, o, e, _⟩ := S.cells x hx hk b hc; exact ⟨o, e⟩

theorem StOk.cx (F : FrOk A hB h₀ k env nm gs cs ls B) (S : StOk h₀ env nm B M X σ O bx s) : Cx A hB k env nm gs cs B σ bx s :=
  ⟨F.room, F.ok, F.hgs, F.hcs, fun b o e => S.keep b o (fun h => by rw [F.bxh b h] at e; cases e) (F.base b o e), F.bxh, S.box, fun i v hv => by
    obtain ⟨hp, x, val, hx, hr, hv'⟩ := S.vals i v hv
    refine ⟨hp, x, val, hx, hr, ?_⟩
    cases ho : O i with
    | some a =>
      rw [ho] at hv'
      obtain ⟨rfl, l, rfl, il⟩ := hv'
      exact ⟨a, rfl, (S.own i a ho).2.2.1, il⟩
    | none =>
      rw [ho] at hv'
      exact hv'.weaken fun b g h => g.1 (.inl h)⟩

theorem own_has (S : StOk h₀ env nm B M X σ O bx s) {i : Nat} {a : Addr} (h : O i = some a) : ∃ l, gt σ i = some (.il l) ∧ IntL s.heap a l ∧ ∃ x, nm[i]? = some x ∧ RdAt B env s.heap x (.ref a) := by
  obtain ⟨_, _, _, _, _, l, hl⟩ := S.own i a h
  obtain ⟨_, x, val, hx, hr, hv⟩ := S.vals i _ hl
  rw [h] at hv
  obtain ⟨rfl, l', e, il⟩ := hv
  cases e
  exact ⟨l, hl, il, x, hx, hr⟩

/-- an evaluation between: what was not there is leant on by nothing -/
theorem StOk.step (F : FrOk A hB h₀ k env nm gs cs ls B) (S : StOk h₀ env nm B M X σ O bx s) (q : Kp B s s₁) (hb : BoxOk B s₁.heap bx') (hY : ∀ b, Y b → X b ∨ s.heap.get? b = none) : StOk h₀ env nm B M Y σ O bx' s₁ where
  keep := fun b o nb e => q.2 b o nb (S.keep b o nb e)
  box := hb
  ns := let ⟨m, hn⟩ := S.ns; ⟨m, hn.at' fun o e => q.2 _ o (F.nbx _ (.inl rfl)) e⟩
  cells := fun x hx hk c hc => let ⟨v, o, e, d⟩ := S.cells x hx hk c hc; ⟨v, o, q.2 _ o (F.nbx _ (.inr ⟨x, hx, hk, hc⟩)) e, d⟩
  len := S.len
  vals := fun i v hv => by
    obtain ⟨hp, x, val, hx, hr, hv'⟩ := S.vals i v hv
    refine ⟨hp, x, val, hx, hr.keeps q.2, ?_⟩
    cases ho : O i with
    | some a =>
      rw [ho] at hv'
      obtain ⟨rfl, l, rfl, il⟩ := hv'
      exact ⟨rfl, l, rfl, il.at fun o e => q.2 _ o (S.own i a ho).2.2.1 e⟩
    | none =>
      rw [ho] at hv'
      refine hv'.keeps hp (fun b o g e => q.2 b o (fun h => g.1 (.inl h)) e) fun b g ho => ⟨g.1, fun y => ?_⟩
      obtain ⟨o, e⟩ := ho
      rcases hY b y with h | h
      · exact g.2 h
      · rw [h] at e; first | exact nn e | cases e
  own := fun i a ho => by
    obtain ⟨h1, h2, h3, h4, h5, h6⟩ := S.own i a ho
    refine ⟨h1, h2, h3, h4, fun y => ?_, h6⟩
    obtain ⟨l, _, il, _⟩ := own_has S ho
    obtain ⟨o, e⟩ := il.has
    rcases hY a y with h | h
    · exact h5 h
    · rw [h] at e; first | exact nn e | cases e
  inj := S.inj
  mode := S.mode
  slotX := fun b hs y => by
    obtain ⟨o, e⟩ := slot_has F S hs
    rcases hY b y with h | h
    · exact S.slotX b hs h
    · rw [h] at e; first | exact nn e | cases e

/-! ## a store -/
/-- what a store of x leaves: x holds val, the rest stands -/
structure Stored (env : Env) (nm : List Str) (B : Bxa) (x : Str) (val : Value) (s : Shared) (h' : Heap) : Prop where
  here : RdAt B env h' x val
  other : ∀ y, y ≠ x → ∀ u, RdAt B env s.heap y u → RdAt B env h' y u
  ns : ∃ m, h'.Ns env.locals m
  cells : ∀ y ∈ nm, env.kindOf y = some .cell → ∀ c, env.cells.lookup y = some c → ∃ v, h'.IsCell c v
  rest : ∀ b, ¬ slot env nm b → h'.get? b = s.heap.get? b
  has : ∀ b o, s.heap.get? b = some o → ∃ o', h'.get? b = some o'

theorem store_ok {prog : Program} {w : PySem.World} {A' : Around} (F : FrOk A hB h₀ k env nm gs cs ls B) (ns : ∃ m, s.heap.Ns env.locals m) (cells : ∀ x ∈ nm, env.kindOf x = some .cell → ∀ c, env.cells.lookup x = some c → ∃ v, s.heap.IsCell c v)
    {x : Str} (hx : x ∈ nm) (val : Value) {Q : Unit → Shared → Prop} {E : Value → Shared → Prop} (hq : ∀ h' tk, Stored env nm B x val s h' → Q () { s with heap := h', toks := tk }) : wpAny (model prog w) A' (storeName env x val) Q E s := by
  obtain ⟨m, hn⟩ := ns
  have hp : (env.scope.kind == .class || (env.scope.kind == .module && env.locals != env.globals)) = false := by rw [F.ok.kind]; rfl
  have same_has : ∀ {a : Addr} {h' : Heap}, Heap.SameBut a s.heap h' → (∃ o, h'.get? a = some o) → ∀ b o, s.heap.get? b = some o → ∃ o', h'.get? b = some o' := fun {a h'} hs ha b o e => by
    by_cases hb : b = a
    · subst hb; exact ha
    · exact ⟨o, (hs.2 b hb).trans e⟩
  rcases F.kinds x hx with hl | ⟨hc, c, hcl⟩
  · refine wpAny_storeName_local hl hn (fun h' hn' hs => hq h' _ ?_) hp
    refine ⟨.inl ⟨hl, ⟨_, hn', by simp⟩, F.nbx _ (.inl rfl)⟩, fun y hy u hr => ?_, ⟨_, hn'⟩, fun y hy hk c hc => ?_, fun b hb => hs.2 b fun e => hb (.inl e), same_has hs (let ⟨o, _, _, e, _⟩ := hn'; ⟨o, e⟩)⟩
    · rcases hr with ⟨k1, ⟨m₁, hn₁, hm₁⟩, nb⟩ | ⟨c, k1, hc, ⟨o, ho, hd⟩, nb⟩
      · refine .inl ⟨k1, ⟨_, hn', ?_⟩, nb⟩
        rw [if_neg hy]
        obtain ⟨o1, es1, ep1, g1, d1, _, f1⟩ := hn
        obtain ⟨o2, es2, ep2, g2, d2, _, f2⟩ := hn₁
        rw [g1] at g2; first | exact nn g2 | cases g2
        rw [d1] at d2; first | exact nn d2 | cases d2
        rw [← f1, f2]; exact hm₁
      · exact .inr ⟨c, k1, hc, ⟨o, (hs.2 c (F.apart y c hc)).trans ho, hd⟩, nb⟩
    · obtain ⟨v, o, ho, hd⟩ := cells y hy hk c hc
      exact ⟨v, o, (hs.2 c (F.apart y c hc)).trans ho, hd⟩
  · obtain ⟨v₀, hv₀⟩ := cells x hx hc c hcl
    refine wpAny_storeName_cell F.ok.kind hc hcl hv₀ fun h' hv hs => hq h' s.toks ?_
    have hcL : c ≠ env.locals := F.apart x c hcl
    refine ⟨.inr ⟨c, hc, hcl, hv, F.nbx _ (.inr ⟨x, hx, hc, hcl⟩)⟩, fun y hy u hr => ?_, ⟨m, hn.sameBut hs hcL.symm⟩, fun y hy hk c' hc' => ?_, fun b hb => hs.2 b fun e => hb (.inr ⟨x, hx, hc, e ▸ hcl⟩), same_has hs (let ⟨o, e, _⟩ := hv; ⟨o, e⟩)⟩
    · rcases hr with ⟨k1, ⟨m₁, hn₁, hm₁⟩, nb⟩ | ⟨c', k1, hc', ⟨o, ho, hd⟩, nb⟩
      · exact .inl ⟨k1, ⟨m₁, hn₁.sameBut hs hcL.symm, hm₁⟩, nb⟩
      · refine .inr ⟨c', k1, hc', ⟨o, (hs.2 c' fun e => hy ?_).trans ho, hd⟩, nb⟩
        exact F.inj y x c (e ▸ hc') hcl
    · by_cases he : c' = c
      · subst he; exact ⟨_, hv⟩
      · obtain ⟨v, o, ho, hd⟩ := cells y hy hk c' hc'
        exact ⟨v, o, (hs.2 c' he).trans ho, hd⟩

/-! ## the bound names -/
theorem gt_pt_same {σ : Ev} {i : Nat} {v : V} (h : i < σ.length) : gt (pt σ i v) i = some v := by
  induction σ generalizing i with
  | nil => simp at h
  | cons x r ih =>
    cases i with
    | zero => rfl
    | succ i => exact ih (by simpa using h)
theorem gt_pt_other {σ : Ev} {i j : Nat} {v : V} (h : j ≠ i) : gt (pt σ i v) j = gt σ j := by
  induction σ generalizing i j with
  | nil => rfl
  | cons x r ih =>
    cases i with
    | zero =>
      cases j with
      | zero => exact absurd rfl h
      | succ j => rfl
    | succ i =>
      cases j with
      | zero => rfl
      | succ j => exact ih (by (first | lia | omega))
theorem pt_length {σ : Ev} {i : Nat} {v : V} : (pt σ i v).length = σ.length := by
  induction σ generalizing i with
  | nil => rfl
  | cons x r ih =>
    cases i with
    | zero => rfl
    | succ i => simp [pt, ih]

/-- a value that may be bound to the name at i: none, or a list of the name's own at a -/
structure Bound (M : Nat → Bool) (B : Bxa) (U : Addr → Prop) (i : Nat) (h : Heap) (v : V) (x : Value) (a : Option Addr) : Prop where
  np : ∀ l, v ≠ .prs l
  at_ : ∀ b, a = some b → M i = true ∧ U b ∧ x = .ref b ∧ ∃ l, v = .il l ∧ IntL h b l
  no : a = none → Rep B h U v x
  mode : ∀ l, M i = true → v = .il l → ∃ b, a = some b
theorem Bound.scalar {h : Heap} {i : Nat} {x : Value} (hs : isScalar v = true) (r : Rep B h U v x) : Bound M B U i h v x none :=
  ⟨fun l e => by (subst e; exact ff hs), (fun _ e => nomatch e), fun _ => r, fun l _ e => by (subst e; exact ff hs)⟩
theorem Bound.own {h : Heap} {i : Nat} {l : List Int} {a : Addr} (hm : M i = true) (hu : U a) (il : IntL h a l) : Bound M B U i h (.il l) (.ref a) (some a) :=
  ⟨(fun _ e => nomatch e), fun b e => by (cases e; exact ⟨hm, hu, rfl, l, rfl, il⟩), (fun e => nomatch e), fun _ _ _ => ⟨a, rfl⟩⟩
theorem Bound.imm {h : Heap} {i : Nat} {x : Value} (hm : M i = false) (hp : ∀ l, v ≠ .prs l) (r : Rep B h U v x) : Bound M B U i h v x none :=
  ⟨hp, (fun _ e => nomatch e), fun _ => r, fun _ h => by rw [hm] at h; exact ff h⟩
noncomputable def putO (O : Own) (i : Nat) (a : Option Addr) : Own := fun j => if j = i then a else O j
theorem putO_same {i : Nat} {a : Option Addr} : putO O i a i = a := if_pos rfl
theorem putO_other {i j : Nat} {a : Option Addr} (h : j ≠ i) : putO O i a j = O j := if_neg h
theorem putO_cases {i j : Nat} {a : Option Addr} {b : Addr} (h : putO O i a j = some b) : (j = i ∧ a = some b) ∨ (j ≠ i ∧ O j = some b) := by
  by_cases hj : j = i
  · subst hj; rw [putO_same] at h; exact .inl ⟨rfl, h⟩
  · rw [putO_other hj] at h; exact .inr ⟨hj, h⟩

/-- a name bound: nothing else has moved; what U held is leant on now -/
theorem StOk.bind (F : FrOk A hB h₀ k env nm gs cs ls B) (S : StOk h₀ env nm B M X σ O bx s) {i : Nat} {x : Str} {a : Option Addr} (hx : nm[i]? = some x) (hb : Bound M B U i s.heap v val a) (hU : ∀ b, U b → X b ∧ ¬ isBx B b ∧ h₀.get? b = none) {h' : Heap} {tk : Nat}
    (T : Stored env nm B x val s h') : StOk h₀ env nm B M (fun b => X b ∧ ¬ U b) (pt σ i v) (putO O i a) bx { s with heap := h', toks := tk } := by
  have hi : i < σ.length := by rw [S.len]; exact (List.getElem?_eq_some_iff.mp hx).1
  have nslot : ∀ b, U b → ¬ slot env nm b := fun b hu hs => S.slotX b hs (hU b hu).1
  have nmne : ∀ j y, nm[j]? = some y → j ≠ i → y ≠ x := fun j y hy hj e => by
    subst e
    have h1 := List.getElem?_eq_some_iff.mp hy
    have h2 := List.getElem?_eq_some_iff.mp hx
    exact hj (List.getElem_inj (h₀ := h1.1) (h₁ := h2.1) F.nodup |>.mp (h1.2.trans h2.2.symm))
  have oldOwn : ∀ j b, O j = some b → ¬ U b := fun j b ho hu => (S.own j b ho).2.2.2.2.1 (hU b hu).1
  have fbd' : ∀ b, Fbd B env nm (putO O i a) b → Fbd B env nm O b ∨ U b := fun b h => by
    rcases h with h | h | ⟨j, h⟩
    · exact .inl (.inl h)
    · exact .inl (.inr (.inl h))
    · rcases putO_cases h with ⟨_, h⟩ | ⟨_, h⟩
      · exact .inr (hb.at_ b h).2.1
      · exact .inl (.inr (.inr ⟨j, h⟩))
  refine ⟨fun b o nb e => ?_, ?_, T.ns, T.cells, by rw [pt_length]; exact S.len, fun j u hu => ?_, fun j b ho => ?_, fun j j' b h1 h2 => ?_, fun j l hm hl => ?_, fun b hs h => S.slotX b hs h.1⟩
  · have hs : ¬ slot env nm b := fun hs => by rw [F.fresh b hs] at e; first | exact nn e | cases e
    exact (T.rest b hs).trans (S.keep b o nb e)
  · exact box_keeps S.box fun b o hb e => (T.rest b fun hs => F.nbx b hs hb).trans e
  · by_cases hj : j = i
    · rw [hj] at hu ⊢
      rw [gt_pt_same hi] at hu
      cases hu
      refine ⟨hb.np, x, val, hx, T.here, ?_⟩
      rw [putO_same]
      cases a with
      | some b =>
        obtain ⟨_, hu, e, l, ev, il⟩ := hb.at_ b rfl
        exact ⟨e, l, ev, il.at fun o e => (T.rest _ (nslot _ hu)).trans e⟩
      | none =>
        refine (hb.no rfl).keeps hb.np (fun b o hu e => (T.rest b (nslot b hu)).trans e) fun b hu _ => ⟨fun h => ?_, fun h => h.2 hu⟩
        rcases h with h | h | ⟨j', h⟩
        · exact (hU b hu).2.1 h
        · exact nslot b hu h
        · rcases putO_cases h with ⟨_, h⟩ | ⟨_, h⟩
          · first | exact nn h | cases h
          · exact oldOwn j' b h hu
    · rw [gt_pt_other hj] at hu
      obtain ⟨hp, y, u', hy, hr, hv⟩ := S.vals j u hu
      refine ⟨hp, y, u', hy, T.other y (nmne j y hy hj) _ hr, ?_⟩
      rw [putO_other hj]
      cases ho : O j with
      | some b =>
        rw [ho] at hv
        exact ⟨hv.1, let ⟨l, e, il⟩ := hv.2; ⟨l, e, il.at fun o e => (T.rest _ (S.own j b ho).2.2.2.1).trans e⟩⟩
      | none =>
        rw [ho] at hv
        refine hv.keeps hp (fun b o g e => (T.rest b fun hs => g.1 (.inr (.inl hs))).trans e) fun b g _ => ⟨fun h => ?_, fun h => g.2 h.1⟩
        rcases fbd' b h with h | h
        · exact g.1 h
        · exact g.2 (hU b h).1
  · rcases putO_cases ho with ⟨hj, ho⟩ | ⟨hj, ho⟩
    · obtain ⟨hm, hu, _, l, ev, _⟩ := hb.at_ b ho
      rw [hj]
      exact ⟨hm, (hU _ hu).2.2, (hU _ hu).2.1, nslot _ hu, fun h => h.2 hu, l, ev ▸ gt_pt_same hi⟩
    · obtain ⟨h1, h2, h3, h4, h5, h6⟩ := S.own j b ho
      exact ⟨h1, h2, h3, h4, fun h => h5 h.1, by rw [gt_pt_other hj]; exact h6⟩
  · rcases putO_cases h1 with ⟨e1, h1⟩ | ⟨e1, h1⟩ <;> rcases putO_cases h2 with ⟨e2, h2⟩ | ⟨e2, h2⟩
    · rw [e1, e2]
    · exact absurd (hb.at_ b h1).2.1 (oldOwn _ _ h2)
    · exact absurd (hb.at_ b h2).2.1 (oldOwn _ _ h1)
    · exact S.inj _ _ _ h1 h2
  · by_cases hj : j = i
    · rw [hj] at hl hm ⊢
      rw [gt_pt_same hi] at hl
      rw [putO_same]
      exact hb.mode l hm (Option.some.inj hl)
    · rw [gt_pt_other hj] at hl
      rw [putO_other hj]
      exact S.mode j l hm hl
end
end NN

/-! statements: what stands after one -/
namespace NN
open PySem PySem.W PyProof.Rows PySem.Calls

noncomputable def shapeOk (s s' : Shared) : Prop := ∃ h tk, s' = { s with heap := h, toks := tk }
theorem shapeOk.refl (s : Shared) : shapeOk s s := ⟨_, _, rfl⟩
theorem shapeOk.trans {a b c : Shared} (x : shapeOk a b) (y : shapeOk b c) : shapeOk a c := by
  obtain ⟨h, tk, rfl⟩ := x; obtain ⟨h', tk', rfl⟩ := y; exact ⟨_, _, rfl⟩

structure Out (h₀ : Heap) (env : Env) (nm : List Str) (B : Bxa) (M : Nat → Bool) (X W : Addr → Prop) (mt : List Nat) (O : Own) (s : Shared) (σ' : Ev) (O' : Own) (bx' : Bx) (s' : Shared) : Prop where
  shape : shapeOk s s'
  own : ∀ i a, O' i = some a → O i = some a ∨ s.heap.get? a = none
  mod : ∀ b o, ¬ isBx B b → ¬ slot env nm b → ¬ W b → (∀ i ∈ mt, O i ≠ some b) → s.heap.get? b = some o → s'.heap.get? b = some o
  dom : ∀ b o, s.heap.get? b = some o → ∃ o', s'.heap.get? b = some o'
  st : StOk h₀ env nm B M X σ' O' bx' s'

section
variable {A : Around} {hB h₀ : Heap} {k : Nat} {env : Env} {nm : List Str} {gs cs ls : Str → Bool} {B : Bxa} {M : Nat → Bool} {X Y U W : Addr → Prop} {σ σ₁ σ₂ : Ev} {O O₁ O₂ : Own} {bx bx₁ bx₂ bx' : Bx} {s s₁ s₂ : Shared} {v : V} {val : Value} {mt mt' mt₂ : List Nat}

theorem none_of_dom (h : ∀ b o, s.heap.get? b = some o → ∃ o', s₁.heap.get? b = some o') {b : Addr} (e : s₁.heap.get? b = none) : s.heap.get? b = none := by
  cases q : s.heap.get? b with
  | none => rfl
  | some o => obtain ⟨o', e'⟩ := h b o q; rw [e] at e'; first | exact nn e' | cases e'

theorem Out.start (S : StOk h₀ env nm B M X σ O bx s) : Out h₀ env nm B M X W mt O s σ O bx s :=
  ⟨.refl s, fun _ _ h => .inl h, fun _ _ _ _ _ _ e => e, fun _ o e => ⟨o, e⟩, S⟩

theorem Out.more (o : Out h₀ env nm B M X W mt O s σ₁ O₁ bx₁ s₁) (hm : ∀ i ∈ mt, i ∈ mt') : Out h₀ env nm B M X W mt' O s σ₁ O₁ bx₁ s₁ :=
  ⟨o.shape, o.own, fun b o' h1 h2 h3 h4 e => o.mod b o' h1 h2 h3 (fun i hi => h4 i (hm i hi)) e, o.dom, o.st⟩
theorem Out.moreW {W' : Addr → Prop} (o : Out h₀ env nm B M X W mt O s σ₁ O₁ bx₁ s₁) (hm : ∀ b, W b → W' b ∨ s.heap.get? b = none) : Out h₀ env nm B M X W' mt O s σ₁ O₁ bx₁ s₁ :=
  ⟨o.shape, o.own, fun b o' h1 h2 h3 h4 e => o.mod b o' h1 h2 (fun h => by rcases hm b h with h | h; exact h3 h; rw [h] at e; cases e) h4 e, o.dom, o.st⟩

theorem Out.trans (o : Out h₀ env nm B M X W mt O s σ₁ O₁ bx₁ s₁) (p : Out h₀ env nm B M Y W mt O₁ s₁ σ₂ O₂ bx₂ s₂) : Out h₀ env nm B M Y W mt O s σ₂ O₂ bx₂ s₂ where
  shape := o.shape.trans p.shape
  own := fun i a h => by
    rcases p.own i a h with h | h
    · exact o.own i a h
    · exact .inr (none_of_dom o.dom h)
  mod := fun b ob h1 h2 h3 h4 e => p.mod b ob h1 h2 h3 (fun i hi h => by
    rcases o.own i b h with h | h
    · exact h4 i hi h
    · rw [h] at e; cases e) (o.mod b ob h1 h2 h3 h4 e)
  dom := fun b ob e => by obtain ⟨o', e'⟩ := o.dom b ob e; exact p.dom b o' e'
  st := p.st

theorem kp_dom (q : Kp B s s₁) (hb : BoxOk B s₁.heap bx) {b : Addr} {o : Obj} (e : s.heap.get? b = some o) : ∃ o', s₁.heap.get? b = some o' := by
  by_cases h : isBx B b
  · exact hb.has h
  · exact ⟨o, q.2 b o h e⟩

theorem Out.eval (F : FrOk A hB h₀ k env nm gs cs ls B) (o : Out h₀ env nm B M X W mt O s σ₁ O₁ bx₁ s₁) (q : Kp B s₁ s₂) (hb : BoxOk B s₂.heap bx₂) (hY : ∀ b, Y b → X b ∨ s₁.heap.get? b = none) : Out h₀ env nm B M Y W mt O s σ₁ O₁ bx₂ s₂ where
  shape := o.shape.trans q.1
  own := o.own
  mod := fun b ob h1 h2 h3 h4 e => q.2 b ob h1 (o.mod b ob h1 h2 h3 h4 e)
  dom := fun b ob e => by obtain ⟨o', e'⟩ := o.dom b ob e; exact kp_dom q hb e'
  st := o.st.step F q hb hY

theorem Out.weak (F : FrOk A hB h₀ k env nm gs cs ls B) (o : Out h₀ env nm B M X W mt O s σ₁ O₁ bx₁ s₁) (hY : ∀ b, Y b → X b) : Out h₀ env nm B M Y W mt O s σ₁ O₁ bx₁ s₁ :=
  o.eval F (.refl B s₁) o.st.box fun b h => .inl (hY b h)

theorem Out.bind (F : FrOk A hB h₀ k env nm gs cs ls B) (o : Out h₀ env nm B M X W mt O s σ₁ O₁ bx₁ s₁) {i : Nat} {x : Str} {a : Option Addr} (hx : nm[i]? = some x) (hb : Bound M B U i s₁.heap v val a)
    (hU : ∀ b, U b → X b ∧ ¬ isBx B b ∧ h₀.get? b = none ∧ s.heap.get? b = none) {h' : Heap} {tk : Nat} (T : Stored env nm B x val s₁ h') :
    Out h₀ env nm B M (fun b => X b ∧ ¬ U b) W mt O s (pt σ₁ i v) (putO O₁ i a) bx₁ { s₁ with heap := h', toks := tk } where
  shape := o.shape.trans ⟨_, _, rfl⟩
  own := fun j b h => by
    rcases putO_cases h with ⟨_, h⟩ | ⟨_, h⟩
    · exact .inr (hU _ (hb.at_ b h).2.1).2.2.2
    · exact o.own j b h
  mod := fun b ob h1 h2 h3 h4 e => (T.rest b h2).trans (o.mod b ob h1 h2 h3 h4 e)
  dom := fun b ob e => by obtain ⟨o', e'⟩ := o.dom b ob e; exact T.has b o' e'
  st := o.st.bind F hx hb (fun b h => let ⟨h1, h2, h3, _⟩ := hU b h; ⟨h1, h2, h3⟩) T

theorem RdAt.slots {x : Str} {h h' : Heap} (hx : x ∈ nm) (r : RdAt B env h x val) (hk : ∀ b o, slot env nm b → h.get? b = some o → h'.get? b = some o) : RdAt B env h' x val := by
  rcases r with ⟨k, ⟨m, hn, hm⟩, nb⟩ | ⟨c, k, hc, ⟨o, ho, hd⟩, nb⟩
  · exact .inl ⟨k, ⟨m, hn.at' fun o e => hk _ o (.inl rfl) e, hm⟩, nb⟩
  · exact .inr ⟨c, k, hc, ⟨o, hk _ o (.inr ⟨x, hx, k, hc⟩) ho, hd⟩, nb⟩

/-- a place that nothing leans on has moved -/
theorem StOk.away (S : StOk h₀ env nm B M X σ O bx s) {h' : Heap} {tk : Nat} (hW : ∀ b, W b → X b ∧ ¬ isBx B b ∧ h₀.get? b = none) (hk : ∀ b o, ¬ W b → s.heap.get? b = some o → h'.get? b = some o) :
    StOk h₀ env nm B M X σ O bx { s with heap := h', toks := tk } where
  keep := fun b o nb e => hk b o (fun h => by rw [(hW b h).2.2] at e; cases e) (S.keep b o nb e)
  box := box_keeps S.box fun b o hb e => hk b o (fun h => (hW b h).2.1 hb) e
  ns := let ⟨m, hn⟩ := S.ns; ⟨m, hn.at' fun o e => hk _ o (fun h => S.slotX _ (.inl rfl) (hW _ h).1) e⟩
  cells := fun x hx hkd c hc => let ⟨v, o, e, d⟩ := S.cells x hx hkd c hc; ⟨v, o, hk _ o (fun h => S.slotX _ (.inr ⟨x, hx, hkd, hc⟩) (hW _ h).1) e, d⟩
  len := S.len
  vals := fun i v hv => by
    obtain ⟨hp, x, val, hx, hr, hv'⟩ := S.vals i v hv
    refine ⟨hp, x, val, hx, hr.slots (List.mem_of_getElem? hx) fun b o hs e => hk b o (fun h => S.slotX b hs (hW b h).1) e, ?_⟩
    cases ho : O i with
    | some a =>
      rw [ho] at hv'
      obtain ⟨rfl, l, rfl, il⟩ := hv'
      exact ⟨rfl, l, rfl, il.at fun o e => hk _ o (fun h => (S.own i a ho).2.2.2.2.1 (hW a h).1) e⟩
    | none =>
      rw [ho] at hv'
      exact hv'.keeps hp (fun b o g e => hk b o (fun h => g.2 (hW b h).1) e) fun b g _ => g
  own := S.own
  inj := S.inj
  mode := S.mode
  slotX := S.slotX

/-- an own list changed in place -/
theorem StOk.poke (S : StOk h₀ env nm B M X σ O bx s) {h' : Heap} {tk i : Nat} {a : Addr} {l' : List Int} (ho : O i = some a) (hs : Heap.SameBut a s.heap h') (il : IntL h' a l') :
    StOk h₀ env nm B M X (pt σ i (.il l')) O bx { s with heap := h', toks := tk } := by
  obtain ⟨hM, h0a, nba, nsa, nXa, l, hl⟩ := S.own i a ho
  have hi : i < σ.length := by
    apply Nat.lt_of_not_le; intro h
    have : ∀ (σ : Ev) (i : Nat), σ.length ≤ i → gt σ i = none := by
      intro σ
      induction σ with
      | nil => intro i _; rfl
      | cons x r ih => intro i h; cases i with
        | zero => simp at h
        | succ i => exact ih i (by simpa using h)
    rw [this σ i h] at hl; first | exact nn hl | cases hl
  have hk : ∀ b o, b ≠ a → s.heap.get? b = some o → h'.get? b = some o := fun b o hb e => (hs.2 b hb).trans e
  have slotk : ∀ b o, slot env nm b → s.heap.get? b = some o → h'.get? b = some o := fun b o hb e => hk b o (fun z => nsa (z ▸ hb)) e
  refine ⟨fun b o nb e => hk b o (fun z => by rw [z, h0a] at e; cases e) (S.keep b o nb e), box_keeps S.box fun b o hb e => hk b o (fun z => nba (z ▸ hb)) e,
    (let ⟨m, hn⟩ := S.ns; ⟨m, hn.at' fun o e => slotk _ o (.inl rfl) e⟩), fun x hx hkd c hc => (let ⟨v, o, e, d⟩ := S.cells x hx hkd c hc; ⟨v, o, slotk _ o (.inr ⟨x, hx, hkd, hc⟩) e, d⟩), by rw [pt_length]; exact S.len,
    fun j u hu => ?_, fun j b hb => ?_, S.inj, fun j l hm hj => ?_, S.slotX⟩
  · by_cases hj : j = i
    · subst hj
      rw [gt_pt_same hi] at hu
      cases hu
      obtain ⟨_, x, val, hx, hr, hv⟩ := S.vals j _ hl
      rw [ho] at hv
      obtain ⟨rfl, l₀, _, _⟩ := hv
      refine ⟨(fun _ e => by cases e), x, _, hx, hr.slots (List.mem_of_getElem? hx) slotk, ?_⟩
      rw [ho]
      exact ⟨rfl, l', rfl, il⟩
    · rw [gt_pt_other hj] at hu
      obtain ⟨hp, x, val, hx, hr, hv⟩ := S.vals j u hu
      refine ⟨hp, x, val, hx, hr.slots (List.mem_of_getElem? hx) slotk, ?_⟩
      cases hoj : O j with
      | some b =>
        rw [hoj] at hv
        obtain ⟨rfl, l₁, rfl, il₁⟩ := hv
        exact ⟨rfl, l₁, rfl, il₁.at fun o e => hk b o (fun z => hj (S.inj j i a (z ▸ hoj) ho)) e⟩
      | none =>
        rw [hoj] at hv
        exact hv.keeps hp (fun b o g e => hk b o (fun z => g.1 (.inr (.inr ⟨i, z ▸ ho⟩))) e) fun b g _ => g
  · obtain ⟨h1, h2, h3, h4, h5, l₁, h6⟩ := S.own j b hb
    by_cases hj : j = i
    · subst hj; exact ⟨h1, h2, h3, h4, h5, l', gt_pt_same hi⟩
    · exact ⟨h1, h2, h3, h4, h5, l₁, by rw [gt_pt_other hj]; exact h6⟩
  · by_cases hji : j = i
    · subst hji; exact ⟨a, ho⟩
    · rw [gt_pt_other hji] at hj; exact S.mode j l hm hj

theorem Out.poke (o : Out h₀ env nm B M X W mt O s σ₁ O₁ bx₁ s₁) {h' : Heap} {tk i : Nat} {a : Addr} {l' : List Int} (hi : i ∈ mt) (ho : O₁ i = some a) (hs : Heap.SameBut a s₁.heap h') (il : IntL h' a l') :
    Out h₀ env nm B M X W mt O s (pt σ₁ i (.il l')) O₁ bx₁ { s₁ with heap := h', toks := tk } where
  shape := o.shape.trans ⟨_, _, rfl⟩
  own := o.own
  mod := fun b ob h1 h2 h3 h4 e => (hs.2 b (fun z => by
    subst z
    rcases o.own i b ho with h | h
    · exact h4 i hi h
    · rw [h] at e; cases e)).trans (o.mod b ob h1 h2 h3 h4 e)
  dom := fun b ob e => by
    obtain ⟨o', e'⟩ := o.dom b ob e
    by_cases hb : b = a
    · subst hb; exact il.has
    · exact ⟨o', (hs.2 b hb).trans e'⟩
  st := o.st.poke ho hs il

noncomputable def RetOk (h₀ : Heap) (B : Bxa) (s : Shared) (v : V) (bx' : Bx) (val : Value) (s' : Shared) : Prop :=
  shapeOk s s' ∧ (∀ b o, ¬ isBx B b → h₀.get? b = some o → s'.heap.get? b = some o) ∧ BoxOk B s'.heap bx' ∧ Rep B s'.heap (fun b => ¬ isBx B b ∧ h₀.get? b = none) v val

noncomputable def Done (h₀ : Heap) (env : Env) (nm : List Str) (B : Bxa) (M : Nat → Bool) (X W : Addr → Prop) (mt : List Nat) (O : Own) (s : Shared) (r : St × Fl) (f : Flow) (s' : Shared) : Prop :=
  match r.2 with
  | .next => f = .next ∧ ∃ O', Out h₀ env nm B M X W mt O s r.1.1 O' r.1.2 s'
  | .ret v => ∃ val, f = .ret val ∧ RetOk h₀ B s v r.1.2 val s'

theorem Done.after {r : St × Fl} {f : Flow} (o : Out h₀ env nm B M X W mt O s σ₁ O₁ bx₁ s₁) (d : Done h₀ env nm B M Y W mt O₁ s₁ r f s₂) : Done h₀ env nm B M Y W mt O s r f s₂ := by
  obtain ⟨⟨σ', b'⟩, fl⟩ := r
  cases fl with
  | next => obtain ⟨rfl, O', p⟩ := d; exact ⟨rfl, O', o.trans p⟩
  | ret v => obtain ⟨val, rfl, h1, h2⟩ := d; exact ⟨val, rfl, o.shape.trans h1, h2⟩
theorem Done.more {r : St × Fl} {f : Flow} (hm : ∀ i ∈ mt, i ∈ mt') (d : Done h₀ env nm B M X W mt O s r f s₁) : Done h₀ env nm B M X W mt' O s r f s₁ := by
  obtain ⟨⟨σ', b'⟩, fl⟩ := r
  cases fl with
  | next => obtain ⟨rfl, O', p⟩ := d; exact ⟨rfl, O', p.more hm⟩
  | ret v => exact d
end

noncomputable abbrev noW : Addr → Prop := fun _ => False

noncomputable def SoundS (prog : Program) (w : PySem.World) (hB : Heap) (k : Nat) (P : Fns) (N : Nat) (M : Nat → Bool) (st : S) : Prop :=
  ∀ {A : Around} {h₀ : Heap} {env : Env} {nm : List Str} {gs cs ls : Str → Bool} {B : Bxa} {X : Addr → Prop} {σ : Ev} {O : Own} {bx : Bx} {s : Shared} {r : St × Fl} {ps : List Stmt},
    FrOk A hB h₀ k env nm gs cs ls B → StOk h₀ env nm B M X σ O bx s → (∀ b, X b → ∃ o, s.heap.get? b = some o) → mS nm gs cs ls st ps = true → execS P N M st (σ, bx) = some r →
    ∀ E : Value → Shared → Prop, wpAny (model prog w) A (execs ps env) (Done h₀ env nm B M X noW st.mut O s r) E s

end NN

/-! statements: the stores of names -/
namespace NN
open PySem PySem.W PyProof.Rows PySem.Calls

section
variable {prog : Program} {w : PySem.World} {P : Fns} {N : Nat} {A : Around} {hB h₀ : Heap} {k : Nat} {env : Env} {nm : List Str} {gs cs ls : Str → Bool} {B : Bxa} {M : Nat → Bool} {X Y U W Z G : Addr → Prop} {σ σ₁ σ₂ : Ev} {O O₁ O₂ : Own} {bx bx₁ bx₂ bx' : Bx} {s s₁ s₂ : Shared} {v : V} {val : Value} {mt mt' mt₂ : List Nat}
  {E : Value → Shared → Prop}

theorem StOk.h0none (S : StOk h₀ env nm B M X σ O bx s) {b : Addr} (nb : ¬ isBx B b) (e : s.heap.get? b = none) : h₀.get? b = none := by
  cases h : h₀.get? b with
  | none => rfl
  | some o => rw [S.keep b o nb h] at e; first | exact nn e | cases e

theorem Out.away (o : Out h₀ env nm B M X W mt O s σ₁ O₁ bx₁ s₁) {h' : Heap} {tk : Nat} (hZ : ∀ b, Z b → X b ∧ ¬ isBx B b ∧ h₀.get? b = none ∧ (s.heap.get? b = none ∨ W b)) (hk : ∀ b o, ¬ Z b → s₁.heap.get? b = some o → h'.get? b = some o)
    (hd : ∀ b, Z b → s.heap.get? b = none ∨ ∃ o', h'.get? b = some o') : Out h₀ env nm B M X W mt O s σ₁ O₁ bx₁ { s₁ with heap := h', toks := tk } where
  shape := o.shape.trans ⟨_, _, rfl⟩
  own := o.own
  mod := fun b ob h1 h2 h3 h4 e => hk b ob (fun h => by
    rcases (hZ b h).2.2.2 with h | h
    · rw [h] at e; first | exact nn e | cases e
    · exact h3 h) (o.mod b ob h1 h2 h3 h4 e)
  dom := fun b ob e => by
    obtain ⟨o', e'⟩ := o.dom b ob e
    by_cases h : Z b
    · rcases hd b h with h | h
      · rw [h] at e; first | exact nn e | cases e
      · exact h
    · exact ⟨o', hk b o' h e'⟩
  st := o.st.away (fun b h => let ⟨h1, h2, h3, _⟩ := hZ b h; ⟨h1, h2, h3⟩) hk

theorem bound_of {i : Nat} {e : NN.E} {h : Heap} (hok : asgOk M i e v = true) (r : Rep B h (fun b => ¬ isBx B b ∧ (e.fresh = true → G b)) v val) :
    ∃ a, Bound M B (fun b => ¬ isBx B b ∧ G b ∧ ∃ o, h.get? b = some o) i h v val a := by
  cases v with
  | int n => exact ⟨none, .scalar rfl r⟩
  | bool c => exact ⟨none, .scalar rfl r⟩
  | il l =>
    have hf : e.fresh = true := hok
    obtain ⟨a, rfl, ⟨nb, g⟩, il⟩ := r
    cases hm : M i with
    | true => exact ⟨some a, .own hm ⟨nb, g hf, il.has⟩ il⟩
    | false => exact ⟨none, .imm hm (fun _ e => by cases e) ⟨a, rfl, ⟨nb, g hf, il.has⟩, il⟩⟩
  | rl l =>
    simp only [asgOk, Bool.and_eq_true, Bool.not_eq_true'] at hok
    exact ⟨none, .imm hok.2 (fun _ e => by cases e) (r.keeps (fun _ e => by cases e) (fun _ _ _ e => e) fun b g ho => ⟨g.1, g.2 hok.1, ho⟩)⟩
  | box => first | exact nn hok | cases hok
  | arg l => first | exact nn hok | cases hok
  | prs l => first | exact nn hok | cases hok
  | rng l => first | exact nn hok | cases hok

/-- a value put into a name -/
theorem put {A' : Around} (F : FrOk A hB h₀ k env nm gs cs ls B) (o : Out h₀ env nm B M X noW mt O s σ₁ O₁ bx₁ s₁) {i : Nat} {x : Str} {e : NN.E} (hx : nm[i]? = some x) (hok : asgOk M i e v = true) (rep : Rep B s₁.heap (fun b => ¬ isBx B b ∧ (e.fresh = true → G b)) v val)
    (hG : ∀ b, G b → ¬ isBx B b → X b ∧ h₀.get? b = none ∧ s.heap.get? b = none) {Q : Unit → Shared → Prop}
    (hq : ∀ O₂ s₂, Out h₀ env nm B M (fun b => X b ∧ ¬ (¬ isBx B b ∧ G b ∧ ∃ o, s₁.heap.get? b = some o)) noW mt O s (pt σ₁ i v) O₂ bx₁ s₂ → (∀ b, ¬ slot env nm b → s₂.heap.get? b = s₁.heap.get? b) → shapeOk s₁ s₂ → Q () s₂) : wpAny (model prog w) A' (storeName env x val) Q E s₁ := by
  obtain ⟨a, hb⟩ := bound_of hok rep
  refine store_ok F o.st.ns o.st.cells (List.mem_of_getElem? hx) val fun h' tk T => ?_
  exact hq _ _ (o.bind F hx hb (fun b h => let ⟨h1, h2, h3⟩ := hG b h.2.1 h.1; ⟨h1, h.1, h2, h3⟩) T) T.rest ⟨_, _, rfl⟩

/-- an int, a bool put into a name: nothing is leant on -/
theorem put0 {A' : Around} (F : FrOk A hB h₀ k env nm gs cs ls B) (o : Out h₀ env nm B M X W mt O s σ₁ O₁ bx₁ s₁) {i : Nat} {x : Str} (hx : nm[i]? = some x) (hok : isScalar v = true) (rep : Rep B s₁.heap U v val) {Q : Unit → Shared → Prop}
    (hq : ∀ O₂ s₂, Out h₀ env nm B M X W mt O s (pt σ₁ i v) O₂ bx₁ s₂ → (∀ b, ¬ slot env nm b → s₂.heap.get? b = s₁.heap.get? b) → shapeOk s₁ s₂ → Q () s₂) : wpAny (model prog w) A' (storeName env x val) Q E s₁ := by
  refine store_ok F o.st.ns o.st.cells (List.mem_of_getElem? hx) val fun h' tk T => ?_
  have rep' : Rep B s₁.heap (fun _ => False) v val := by cases v <;> first | exact rep | cases hok
  exact hq _ _ ((o.bind F hx (.scalar hok rep') (fun b h => h.elim) T).weak F fun b h => ⟨h, fun q => q⟩) T.rest ⟨_, _, rfl⟩

theorem one {p : Stmt} {Q : Flow → Shared → Prop} {M : Model} (h : wpAny M A (exec p env) Q E s) : wpAny M A (execs [p] env) Q E s :=
  wpAny_execs_cons (wpAny_mono h (fun f s' h' => by cases f <;> first | exact wpAny_execs_nil h' | exact h') fun _ _ z => z)

theorem swaps_notComp {p : Expr} (h : notComp p = true) (t : Option Expr) (n : Nat) (env : Env) : swapsWith p t n env = pure false := by
  cases p <;> first | rfl | cases h

theorem new_of (hX : ∀ b, X b → ∃ o, s.heap.get? b = some o) {R : Addr → Prop} {b : Addr} (h : X b) : (X b ∨ s.heap.get? b = none) ∧ ¬ (¬ isBx B b ∧ s.heap.get? b = none ∧ R b) := by
  refine ⟨.inl h, fun g => ?_⟩
  obtain ⟨o, e⟩ := hX b h
  rw [g.2.1] at e; first | exact nn e | cases e

theorem sound_asg {x : Nat} {e : NN.E} (hE : SoundE prog w hB k P e) : SoundS prog w hB k P N M (.asg x e) := fun {A h₀ env nm gs cs ls B X σ O bx s r ps} F S hX hm he E => by
  refine ex_asg he fun v' b' e1 hc => ?_
  refine on1_e hm fun p hm => onAsg_e hm fun ts v pos hm => on1_e hm fun t hm => ?_
  obtain ⟨h1, h2, h3⟩ := and3 hm
  refine isTgt_e h1 fun y py hy => one (wpAny_Assign_Name (wpAny_mono ((hE (S.cx F) h3 e1).1 E) (fun val s₁ h₁ => ?_) fun _ _ z => z) (swaps_notComp h2 _ _ _))
  obtain ⟨q, hb, rep⟩ := h₁
  have o1 := (Out.start (mt := []) (W := noW) S).eval F q hb (Y := fun b => X b ∨ s.heap.get? b = none) (fun b h => h)
  exact put F o1 hy hc rep (fun b g nb => ⟨.inr g, S.h0none nb g, g⟩) fun O₂ s₂ o2 _ _ => ⟨rfl, O₂, o2.weak F fun b h => new_of (R := fun b => ∃ o, s₁.heap.get? b = some o) hX h⟩

/-! ## comprehensions that end in a name -/
theorem comp_use {rw two : Bool} {src cond elt : NN.E} {caps : List Nat} (hs : SoundE prog w hB k P src) (hc : SoundE prog w hB k P cond) (hel : SoundE prog w hB k P elt) {pe : Expr} (C : Cx A hB k env nm gs cs B σ bx s)
    (hm : mE nm gs cs (.comp rw two src cond elt caps) pe = true) (he : evalE P (.comp rw two src cond elt caps) σ bx = some (v, bx')) (use : Value → Sem Unit) {Q : Shared → Prop}
    (hQ : ∀ D C s' m', s.heap.get? D = none → s.heap.get? C = none → ¬ isBx B C → D ≠ C → s'.heap.Ns C m' → BoxOk B s'.heap bx' → Rep B s'.heap (fun b => ¬ isBx B b ∧ b ≠ C ∧ s.heap.get? b = none) v (.ref D) → Kp B s s' →
      wpAny (model prog w) A (use (.ref D)) (fun _ s'' => ∃ m, s''.heap.Ns C m ∧ ∀ h', Heap.SameBut C s''.heap h' → Q { s'' with heap := h' }) E s') :
    wpAny (model prog w) A (evalThenUse pe env use) (fun _ s' => Q s') E s := by
  refine comp_e hm fun pel tg it ifs sc pos ts htg m1 m2 m3 m4 => ?_
  have F := scope_fits m2
  rw [evr_comp] at he
  obtain ⟨u, b₁, e1, he⟩ := two_some he
  cases hits : itemsOf two u with
  | none => rw [hits] at he; first | exact nn he | cases he
  | some its =>
    rw [hits] at he
    obtain ⟨hcf, vs, hlp, hpk⟩ := comp_some he
    rw [Bool.and_eq_true] at hcf
    obtain ⟨d, hpr, _⟩ := hs C m1 e1
    show wpAny _ A (do let _ ← comprehension (.ListComp pel [⟨tg, it, ifs, 0⟩] sc pos) sc env _ (newList []) false (eval it env) (some use)) _ _ s
    exact wpAny_bind (wpAny_mono (wpAny_comprehension_free (use := some use) (Q := fun _ s' => Q s') rfl (folded_ok m1 env) (closureFor_ok (free_cells F C)) F.kind F.locs
      (comp_go (RR := fun acc C => compPost (model prog w) A E (some use) (fun _ s' => Q s') acc C) F C htg hits hpr d (of_decide_eq_true hcf.1) hlp hpk (fun e b ov b' hf env' s' Y => round_ok (rw := rw) hc hel hcf.2 m3 m4 hf Y) (fun D C' s' m' hD hC nC hDC hns hbx hrep q => hQ D C' s' m' hD hC nC hDC hns hbx hrep q) E)) (fun _ s' h => wpAny_pure h) fun _ _ z => z)

theorem compAsg_swaps {y : Str} {py : Pos} {n : Nat} {p : Expr} (F : FrOk A hB h₀ k env nm gs cs ls B) (h : compAsg ls y py n p = true) : swapsWith p (some (.Name y py)) n env = pure true := by
  refine onLC_e h fun el ge sc pos h => ?_
  obtain ⟨h1, h2, h3, h4⟩ := and4 h
  have k1 : (env.blockKind == .function) = true := by
    have := F.ok.kind
    simp [Env.blockKind, this]
  have k2 : (env.kindOf y == some .local) = true := by rw [F.hls y h3]; rfl
  have k3 : (py.line == pos.line) = true := by simpa using of_decide_eq_true h2
  show (pure (env.blockKind == .function && env.kindOf y == some .local && py.line == (Expr.ListComp el ge sc pos).pos.line && !(sc.names.any fun (n, k) => n == y && (k == .local || k == .cell))) : Sem Bool) = _
  rw [k1, k2]
  show (pure (true && true && (py.line == pos.line) && !(sc.names.any fun (n, k) => n == y && (k == .local || k == .cell))) : Sem Bool) = _
  rw [k3, h4]
  rfl

theorem sound_asgC {x : Nat} {rw two : Bool} {src cond elt : NN.E} {caps : List Nat} (hs : SoundE prog w hB k P src) (hc : SoundE prog w hB k P cond) (hel : SoundE prog w hB k P elt) : SoundS prog w hB k P N M (.asgC x (.comp rw two src cond elt caps)) := fun {A h₀ env nm gs cs ls B X σ O bx s r ps} F S hX hm he E => by
  refine ex_asgC he fun v' b' e1 hcc => ?_
  refine on1_e hm fun p hm => onAsg_e hm fun ts v pos hm => on1_e hm fun t hm => onName_e hm fun y py hm => ?_
  obtain ⟨h1, _, h2, h3⟩ := and4 hm
  have hy := of_decide_eq_true h1
  refine one ?_
  rw [exec_Assign_Name_used _ _ _ _ (compAsg_swaps F h2)]
  refine wpAny_bind (wpAny_standAt (wpAny_bind (wpAny_mono (comp_use (Q := fun s' => Done h₀ env nm B M X noW [] O s ((pt σ x v', b'), Fl.next) .next s') hs hc hel (S.cx F) h3 e1 (assign (.Name y py) env) ?_) (fun _ s' h => wpAny_pure h) fun _ _ z => z)))
  intro D C s' m' hD hC nC hDC hns hb rep q
  have o1 := (Out.start (mt := []) (W := noW) S).eval F q hb (Y := fun b => X b ∨ s.heap.get? b = none) (fun b h => h)
  have nsC : ¬ slot env nm C := fun h => o1.st.slotX C h (.inr hC)
  refine wpAny_assign_Name (put (e := .int 0) (G := fun b => b ≠ C ∧ s.heap.get? b = none) F o1 hy (by
      cases v' <;> first | rfl | exact hcc) (rep.weaken fun b g => ⟨g.1, fun _ => ⟨g.2.1, g.2.2⟩⟩) (fun b g nb => ⟨.inr g.2, S.h0none nb g.2, g.2⟩) fun O₂ s₂ o2 hr sh => ?_)
  refine ⟨m', hns.at' fun o e => (hr C nsC).trans e, fun h' hs' => ⟨rfl, O₂, ?_⟩⟩
  refine (o2.away (Z := fun b => b = C) (h' := h') (tk := s₂.toks) (fun b hb => ?_) (fun b o hb e => (hs'.2 b hb).trans e) fun b hb => .inl (by rw [hb]; exact hC)).weak F fun b h => ⟨.inl h, fun g => ?_⟩
  · subst hb
    exact ⟨⟨.inr hC, fun g => g.2.1.1 rfl⟩, nC, S.h0none nC hC, .inl hC⟩
  · obtain ⟨o, e⟩ := hX b h
    rw [g.2.1.2] at e; first | exact nn e | cases e
end
end NN

/-! statements: several names at once -/
namespace NN
open PySem PySem.W PyProof.Rows PySem.Calls

noncomputable def nmE (p : Str × Pos) : Expr := .Name p.1 p.2

theorem names_all {g : Expr → Option Str} {c : Str × Pos → Bool} (hg : ∀ p, g (nmE p) = if c p = true then some p.1 else none) : ∀ xs : List (Str × Pos), ((xs.map nmE).filterMap g).length = xs.length → (xs.map nmE).filterMap g = xs.map (·.1)
  | [], _ => rfl
  | p :: r, h => by
    have hle := List.length_filterMap_le g (r.map nmE)
    rw [List.length_map] at hle
    rw [List.map_cons, List.filterMap_cons, hg p] at h ⊢
    cases hc : c p with
    | true => rw [hc] at h; exact congrArg (p.1 :: ·) (names_all hg r (Nat.succ.inj h))
    | false =>
      rw [hc] at h
      have h : ((r.map nmE).filterMap g).length = r.length + 1 := h
      rw [h] at hle
      exact absurd hle (Nat.not_succ_le_self _)

theorem swapped_any {xs : List (Str × Pos)} {kk k2 : Nat} {tp p2 : Pos} {vs : List Expr} {env : Env} (hp : partsOk vs = true) :
    ∃ r, swappedStores [.Tuple (xs.map nmE) kk tp] (.Tuple vs k2 p2) env = pure r ∧ (r = none ∨ r = some (xs.map (·.1))) := by
  unfold swappedStores
  dsimp only
  split
  · exact ⟨none, rfl, .inl rfl⟩
  · split
    · exact ⟨none, rfl, .inl rfl⟩
    · split
      · exact ⟨none, rfl, .inl rfl⟩
      · rename_i h3
        split
        · exact ⟨none, rfl, .inl rfl⟩
        · rename_i h4
          split
          · rename_i h5
            unfold partsOk at hp
            rw [Bool.or_eq_true, Bool.not_eq_true'] at hp
            rcases hp with h | h
            · exact absurd h h4
            · rw [h] at h5; first | exact nn h5 | cases h5
          · refine ⟨_, rfl, .inr ?_⟩
            congr 1
            refine names_all (c := fun p => env.kindOf p.1 == some .local && p.2.line == ((xs.map nmE).head?.map (fun x => x.pos.line)).getD 0) (fun _ => rfl) xs ?_
            rw [Bool.or_eq_true, not_or] at h3
            have := h3.1
            rw [bne_iff_ne, ne_eq, Decidable.not_not, List.length_map] at this
            exact this

section
variable {prog : Program} {w : PySem.World} {P : Fns} {N : Nat} {A : Around} {hB h₀ : Heap} {k : Nat} {env : Env} {nm : List Str} {gs cs ls : Str → Bool} {B : Bxa} {M : Nat → Bool} {X Y U W Z G : Addr → Prop} {σ σ₁ σ₂ : Ev} {O O₁ O₂ : Own} {bx bx₁ bx₂ bx' : Bx} {s s₁ s₂ : Shared} {v : V} {val : Value} {mt mt' mt₂ : List Nat}
  {E : Value → Shared → Prop}

noncomputable def storeAll (M : Model) (A : Around) (env : Env) (Q : Unit → Shared → Prop) (E : Value → Shared → Prop) : List (Str × Value) → Shared → Prop
  | [], s => Q () s
  | (x, val) :: r, s => wpAny M A (storeName env x val) (fun _ s₁ => storeAll M A env Q E r s₁) E s

theorem order_bind {M : Model} {Q : Unit → Shared → Prop} : ∀ (l : List (Str × Value)) (s : Shared), storeAll M A env Q E l s → wpAny M A (assignInOrder ((l.map (·.1)).map fun n => bindName env n) (l.map (·.2))) Q E s
  | [], s, h => wpAny_pure h
  | (x, val) :: r, s, h => wpAny_bind (wpAny_holding (wpAny_bindName (wpAny_mono h (fun _ s₁ h₁ => order_bind r s₁ h₁) fun _ _ z => z)))
theorem order_names {M : Model} {Q : Unit → Shared → Prop} : ∀ (xs : List (Str × Pos)) (vs : List Value) (s : Shared), storeAll M A env Q E ((xs.map (·.1)).zip vs) s → wpAny M A (assignInOrder ((assignEach (xs.map nmE) env).map (·.2)) vs) Q E s
  | [], vs, s, h => by cases vs <;> exact wpAny_pure h
  | p :: r, [], s, h => wpAny_pure h
  | p :: r, val :: vs, s, h => wpAny_bind (wpAny_holding (wpAny_assign_Name (wpAny_mono h (fun _ s₁ h₁ => order_names r vs s₁ h₁) fun _ _ z => z)))
theorem each_len (env : Env) : ∀ xs : List (Str × Pos), (assignEach (xs.map nmE) env).length = xs.length
  | [] => rfl
  | _ :: r => by show (assignEach (r.map nmE) env).length + 1 = r.length + 1; rw [each_len env r]
theorem each_star (env : Env) : ∀ xs : List (Str × Pos), (assignEach (xs.map nmE) env).findIdx? (·.1) = none
  | [] => rfl
  | p :: r => by
    show List.findIdx? _ ((false, assign (nmE p) env) :: assignEach (r.map nmE) env) = none
    rw [List.findIdx?_cons]
    simp [each_star env r]

/-- values put into names, in the one order or the other -/
theorem Assign_tuple {xs : List (Str × Pos)} {kk k2 : Nat} {tp p2 pos : Pos} {es : List Expr} {Q : Flow → Shared → Prop} (hh : A.handled = none) (hp : partsOk es = true) (hlen : xs.length ≤ sizeLine)
    (h : wpAny (model prog w) A (spliced (backTo p2 (starEach es env))) (fun vs s₁ => vs.length = xs.length ∧ ∀ h', (∀ b o, s₁.heap.get? b = some o → h'.get? b = some o) →
      storeAll (model prog w) A env (fun _ => Q .next) E ((xs.map (·.1)).zip vs) { s₁ with heap := h' } ∧ storeAll (model prog w) A env (fun _ => Q .next) E ((xs.map (·.1)).zip vs).reverse { s₁ with heap := h' }) E s) :
    wpAny (model prog w) A (exec (.Assign [.Tuple (xs.map nmE) kk tp] (.Tuple es k2 p2) pos) env) Q E s := by
  obtain ⟨r, hw, hr⟩ := swapped_any (xs := xs) (kk := kk) (k2 := k2) (tp := tp) (p2 := p2) (env := env) hp
  have keepT : ∀ {s₁ : Shared} {h' : Heap} {o : Obj}, Heap.ExtBut (s₁.heap.push o).objs.size (s₁.heap.push o) h' → ∀ b ob, s₁.heap.get? b = some ob → h'.get? b = some ob := fun {s₁ h' o} hx b ob e =>
    hx b ob (Nat.ne_of_lt (by rw [Heap.size_push]; exact Nat.lt_succ_of_lt (Heap.lt_size e))) (Heap.get?_push_of_some _ e)
  rcases hr with rfl | rfl
  · refine PyProof.Rows.Assign_Tuple (PySem.wpAny_Tuple (wpAny_mono h (fun vs s₁ h₁ => ⟨by rw [h₁.1]; exact hlen, ?_⟩) fun _ _ z => z)) rfl hw
    refine assign_Tuple_tuple (items := vs.toArray) hh ⟨_, Heap.get?_push_size _ rfl, rfl, 0, rfl⟩ (by rw [each_len, List.size_toArray]; exact h₁.1.symm) (each_star env xs) fun h' hx => ?_
    exact order_names xs _ _ (h₁.2 h' (keepT hx)).1
  · refine PyProof.Rows.Assign_Tuple_swapped (PySem.wpAny_Tuple (wpAny_mono h (fun vs s₁ h₁ => ⟨by rw [h₁.1]; exact hlen, ?_⟩) fun _ _ z => z)) rfl hw
    have hsz : (xs.map (·.1)).length = vs.toArray.size := by rw [List.length_map, List.size_toArray]; exact h₁.1.symm
    rw [hsz]
    refine unpackItems_tuple (items := vs.toArray) hh ⟨_, Heap.get?_push_size _ rfl, rfl, 0, rfl⟩ fun h' hx => ?_
    have := order_bind (M := model prog w) (A := A) (E := E) (Q := fun _ => Q .next) (env := env) _ _ (h₁.2 h' (keepT hx)).2
    have e1 : ((xs.map (·.1)).zip vs).reverse.map (·.1) = (xs.map (·.1)).reverse := by rw [List.map_reverse, List.map_fst_zip (by rw [List.length_map, h₁.1]; exact Nat.le_refl _)]
    have e2 : ((xs.map (·.1)).zip vs).reverse.map (·.2) = vs.reverse := by rw [List.map_reverse, List.map_snd_zip (by rw [List.length_map, h₁.1]; exact Nat.le_refl _)]
    rw [e1, e2] at this
    exact this

structure Item where
  i : Nat
  x : Str
  e : NN.E
  v : V
  val : Value
  G : Addr → Prop

noncomputable def putAll (σ : Ev) (l : List Item) : Ev := l.foldl (fun σ it => pt σ it.i it.v) σ

theorem put_all {A' : Around} {Q : Unit → Shared → Prop} (F : FrOk A hB h₀ k env nm gs cs ls B) : ∀ (l : List Item) (X : Addr → Prop) (σ₁ : Ev) (O₁ : Own) (s₁ : Shared), Out h₀ env nm B M X noW mt O s σ₁ O₁ bx₁ s₁ →
    (∀ it ∈ l, nm[it.i]? = some it.x ∧ asgOk M it.i it.e it.v = true ∧ Rep B s₁.heap (fun b => ¬ isBx B b ∧ (it.e.fresh = true → it.G b)) it.v it.val ∧ ∀ b, it.G b → ¬ isBx B b → X b ∧ h₀.get? b = none ∧ s.heap.get? b = none) →
    l.Pairwise (fun a b => ∀ c, a.G c → b.G c → False) →
    (∀ O₂ s₂ X', Out h₀ env nm B M X' noW mt O s (putAll σ₁ l) O₂ bx₁ s₂ → (∀ b, X b → (∀ it ∈ l, ¬ it.G b) → X' b) → Q () s₂) → storeAll (model prog w) A' env Q E (l.map fun it => (it.x, it.val)) s₁
  | [], X, σ₁, O₁, s₁, o, _, _, hq => hq O₁ s₁ X o fun b h _ => h
  | it :: r, X, σ₁, O₁, s₁, o, hl, hd, hq => by
    obtain ⟨hx, hok, rep, hG⟩ := hl it (.head _)
    rw [List.pairwise_cons] at hd
    refine put F o hx hok rep hG fun O₂ s₂ o2 hr _ => ?_
    refine put_all F r _ _ O₂ s₂ o2 (fun it' h' => ?_) hd.2 fun O₃ s₃ X' o3 hX' => ?_
    · obtain ⟨hx', hok', rep', hG'⟩ := hl it' (.tail _ h')
      refine ⟨hx', hok', ?_, fun b g nb => ?_⟩
      · have hfr : it'.e.fresh = true ∨ isScalar it'.v = true := by
          unfold asgOk at hok'
          split at hok'
          · rename_i hv; rw [hv]; exact .inr rfl
          · rename_i hv; rw [hv]; exact .inr rfl
          · exact .inl hok'
          · rw [Bool.and_eq_true] at hok'; exact .inl hok'.1
          · first | exact nn hok' | cases hok'
        rcases hfr with hf | hs
        · refine rep'.keeps (fun l e => by rw [e] at hok'; cases hok') (fun b ob g e => (hr b fun hsl => ?_).trans e) fun b g _ => g
          exact o.st.slotX b hsl (hG' b (g.2 hf) g.1).1
        · revert rep' hs; cases it'.v <;> intro rep' hs <;> first | exact rep' | cases hs
      · obtain ⟨h1, h2, h3⟩ := hG' b g nb
        exact ⟨⟨h1, fun q => hd.1 it' h' b q.2.1 g⟩, h2, h3⟩
    · exact hq O₃ s₃ X' o3 fun b hb hn => hX' b ⟨hb, fun q => hn it (.head _) q.2.1⟩ fun it' h' => hn it' (.tail _ h')

theorem pt_comm {σ : Ev} {i j : Nat} {u v : V} (h : i ≠ j) : pt (pt σ i u) j v = pt (pt σ j v) i u := by
  induction σ generalizing i j with
  | nil => rfl
  | cons x r ih =>
    cases i with
    | zero =>
      cases j with
      | zero => exact absurd rfl h
      | succ j => rfl
    | succ i =>
      cases j with
      | zero => rfl
      | succ j => show x :: _ = x :: _; rw [ih (by (first | lia | omega))]

theorem sound_asg2 {x y : Nat} {e₁ e₂ : NN.E} (h1 : SoundE prog w hB k P e₁) (h2 : SoundE prog w hB k P e₂) : SoundS prog w hB k P N M (.asg2 x y e₁ e₂) := fun {A h₀ env nm gs cs ls B X σ O bx s r ps} F S hX hm he E => by
  refine ex_asg2 he fun v₁ b₁ v₂ b₂ ev1 ev2 c1 c2 hne => ?_
  refine on1_e hm fun p hm => onAsg_e hm fun ts v pos hm => on1_e hm fun t hm => onTup_e hm fun us kk tp hm => on2_e hm fun t u hm => onTup_e hm fun vs k2 p2 hm => on2_e hm fun a b hm => ?_
  obtain ⟨m1, m2, m3, m4, m5⟩ := and5 hm
  refine isTgt_e m1 fun xn px hx => isTgt_e m2 fun yn py hy => ?_
  have C := S.cx F
  refine one (Assign_tuple (xs := [(xn, px), (yn, py)]) F.room.hd m3 (by simp [sizeLine_eq]) ?_)
  refine wpAny_items_cons (wpAny_mono ((h1 C m4 ev1).1 E) (fun val₁ s₁ p₁ => ?_) fun _ _ z => z) (star_of m4 _ _)
  have C₁ := C.next p₁.1 p₁.2.1
  refine wpAny_items_cons (wpAny_mono ((h2 C₁ m5 ev2).1 E) (fun val₂ s₂ p₂ => ?_) fun _ _ z => z) (star_of m5 _ _)
  refine wpAny_items_nil ⟨rfl, fun h' hk => ?_⟩
  have q : Kp B s { s₂ with heap := h' } := (p₁.1.trans p₂.1).trans ⟨⟨h', s₂.toks, rfl⟩, fun b o _ e => hk b o e⟩
  have hb : BoxOk B h' b₂ := p₂.2.1.keeps hk
  have o := (Out.start (mt := []) (W := noW) S).eval F q hb (Y := fun b => X b ∨ s.heap.get? b = none) (fun b h => h)
  have npr : ∀ l, v₁ ≠ .prs l := fun l e => by rw [e] at c1; first | exact nn c1 | cases c1
  have npr₂ : ∀ l, v₂ ≠ .prs l := fun l e => by rw [e] at c2; first | exact nn c2 | cases c2
  have r₁ : Rep B h' (fun b => ¬ isBx B b ∧ (e₁.fresh = true → (s.heap.get? b = none ∧ ∃ o, s₁.heap.get? b = some o))) v₁ val₁ :=
    p₁.2.2.keeps npr (fun b o g e => hk b o (p₂.1.2 b o g.1 e)) fun b g ex => ⟨g.1, fun f => ⟨g.2 f, ex⟩⟩
  have r₂ : Rep B h' (fun b => ¬ isBx B b ∧ (e₂.fresh = true → s₁.heap.get? b = none)) v₂ val₂ := p₂.2.2.keeps npr₂ (fun b o g e => hk b o e) fun b g _ => g
  have go := fun (l : List Item) (h1 h2) (hσ : putAll σ l = pt (pt σ x v₁) y v₂) (hl : ∀ it ∈ l, ∀ b, it.G b → ¬ X b) => put_all (prog := prog) (w := w) (A' := A) (E := E) (Q := fun _ s' => Done h₀ env nm B M X noW [] O s ((pt (pt σ x v₁) y v₂, b₂), Fl.next) .next s') F l _ σ O _ o h1 h2
    fun O₂ s₃ X' o3 hX' => ⟨rfl, O₂, by rw [← hσ]; exact o3.weak F fun b h => hX' b (.inl h) fun it hi g => hl it hi b g h⟩
  let i₁ : Item := ⟨x, xn, e₁, v₁, val₁, fun b => ¬ isBx B b ∧ s.heap.get? b = none ∧ ∃ o, s₁.heap.get? b = some o⟩
  let i₂ : Item := ⟨y, yn, e₂, v₂, val₂, fun b => ¬ isBx B b ∧ s₁.heap.get? b = none⟩
  have k₁ : ∀ b, ¬ isBx B b → s₁.heap.get? b = none → s.heap.get? b = none := fun b nb e => fresh_old p₁.1 nb e
  have g₁ : nm[i₁.i]? = some i₁.x ∧ asgOk M i₁.i i₁.e i₁.v = true ∧ Rep B h' (fun b => ¬ isBx B b ∧ (i₁.e.fresh = true → i₁.G b)) i₁.v i₁.val ∧ ∀ b, i₁.G b → ¬ isBx B b → (X b ∨ s.heap.get? b = none) ∧ h₀.get? b = none ∧ s.heap.get? b = none :=
    ⟨hx, c1, r₁.weaken fun b g => ⟨g.1, fun f => ⟨g.1, g.2 f⟩⟩, fun b g nb => ⟨.inr g.2.1, S.h0none nb g.2.1, g.2.1⟩⟩
  have g₂ : nm[i₂.i]? = some i₂.x ∧ asgOk M i₂.i i₂.e i₂.v = true ∧ Rep B h' (fun b => ¬ isBx B b ∧ (i₂.e.fresh = true → i₂.G b)) i₂.v i₂.val ∧ ∀ b, i₂.G b → ¬ isBx B b → (X b ∨ s.heap.get? b = none) ∧ h₀.get? b = none ∧ s.heap.get? b = none :=
    ⟨hy, c2, r₂.weaken fun b g => ⟨g.1, fun f => ⟨g.1, g.2 f⟩⟩, fun b g nb => ⟨.inr (k₁ b nb g.2), S.h0none nb (k₁ b nb g.2), k₁ b nb g.2⟩⟩
  have x₁ : ∀ b, i₁.G b → ¬ X b := fun b g h => by obtain ⟨o, e⟩ := hX b h; rw [g.2.1] at e; first | exact nn e | cases e
  have x₂ : ∀ b, i₂.G b → ¬ X b := fun b g h => by obtain ⟨o, e⟩ := hX b h; rw [k₁ b g.1 g.2] at e; first | exact nn e | cases e
  have d : ∀ c, i₁.G c → i₂.G c → False := fun c a b => by obtain ⟨_, _, o, e⟩ := a; rw [b.2] at e; first | exact nn e | cases e
  refine ⟨go [i₁, i₂] ?_ ?_ rfl ?_, go [i₂, i₁] ?_ ?_ (pt_comm (Ne.symm hne)) ?_⟩
  · intro it hi; rcases List.mem_cons.mp hi with rfl | hi; exact g₁; rcases List.mem_cons.mp hi with rfl | hi; exact g₂; first | exact nn hi | cases hi
  · simp only [List.pairwise_cons, List.mem_cons, List.not_mem_nil, or_false, forall_eq, false_implies, implies_true, List.Pairwise.nil, and_true]; exact d
  · intro it hi; rcases List.mem_cons.mp hi with rfl | hi; exact x₁; rcases List.mem_cons.mp hi with rfl | hi; exact x₂; first | exact nn hi | cases hi
  · intro it hi; rcases List.mem_cons.mp hi with rfl | hi; exact g₂; rcases List.mem_cons.mp hi with rfl | hi; exact g₁; first | exact nn hi | cases hi
  · simp only [List.pairwise_cons, List.mem_cons, List.not_mem_nil, or_false, forall_eq, false_implies, implies_true, List.Pairwise.nil, and_true]; exact fun c a b => d c b a
  · intro it hi; rcases List.mem_cons.mp hi with rfl | hi; exact x₂; rcases List.mem_cons.mp hi with rfl | hi; exact x₁; first | exact nn hi | cases hi
end
end NN

/-! statements: lists changed in place, one after another, either, return -/
namespace NN
open PySem PySem.W PyProof.Rows PySem.Calls

noncomputable abbrev paList := F.plainAttrs_list
noncomputable abbrev slAppend := F.slot_list_append
noncomputable abbrev slPop := F.slot_list_pop
noncomputable abbrev tyAppend := F.type_list_append
noncomputable abbrev tyPop := F.type_list_pop

section
variable {prog : Program} {w : PySem.World} {P : Fns} {N : Nat} {A : Around} {hB h₀ : Heap} {k : Nat} {env : Env} {nm : List Str} {gs cs ls : Str → Bool} {B : Bxa} {M : Nat → Bool} {X Y U W Z G : Addr → Prop} {σ σ₁ σ₂ : Ev} {O O₁ O₂ : Own} {bx bx₁ bx₂ bx' : Bx} {s s₁ s₂ : Shared} {v : V} {val : Value} {mt mt' mt₂ : List Nat}
  {E : Value → Shared → Prop}

theorem setItem_L {l : Addr} {items : Array Value} {n : Nat} {j : Int} {t : Tok} {v : Value} {Q : Unit → Shared → Prop} (hl : IsL s.heap l items n)
    (h0 : 0 ≤ j) (hfit : j < 2 ^ 63) (hn : j < items.size)
    (hQ : Q () { s with heap := s.heap.update l (Obj.mapSeq (·.setIfInBounds j.toNat v)) }) :
    wpAny (model prog w) A (setItem (.ref l) (.int j t) v) Q E s := by
  unfold setItem
  try with_reducible refine wpAny_holding ?_
  first | refine wpAny_bind (wpAny_pure ?_) | skip
  refine wpAny_bind (wpAny_sequenceKey hl.isList.typeIs (by decide) ?_)
  refine wpAny_bind (wpAny_callSpecial?_slot (name := Str.ofString "__setitem__") hl.isList.typeIs slot_list_setitem
    (wpAny_call_entry slot_list_setitem hl.isList.typeIs entry_list_setitem ?_ (args_list_setitem _ _ _)))
  show wpAny _ _ (Builtin.List.listSubscript? (.int j t) >>= _) _ _ s
  refine wpAny_bind (wpAny_listSubscript_int (fitsIndex_of h0 hfit) ?_)
  clear hfit
  obtain ⟨j, rfl⟩ := Int.eq_ofNat_of_zero_le h0
  have hj : j < items.size := by (first | lia | omega)
  have hx' : items[j]? = some items[j] := Array.getElem?_eq_getElem hj
  show wpAny _ _ ((seqItemAt l j >>= fun r => pure (r.map (j, ·))) >>= _) _ _ s
  refine wpAny_bind (wpAny_bind (wpAny_seqItemAt hl rfl (wpAny_pure ?_)))
  rw [hx']
  show wpAny _ _ (setSeqItemAt l j v >>= _) _ _ s
  refine wpAny_bind (wpAny_setSeqItemAt hl rfl ?_)
  first
    | exact wpAny_bind (wpAny_pure (wpAny_pure ⟨.none, rfl, wpAny_pure hQ⟩))
    | exact wpAny_pure ⟨.none, rfl, wpAny_pure hQ⟩

theorem eval_own {p : Expr} {i : Nat} {a : Addr} {A' : Around} (F : FrOk A hB h₀ k env nm gs cs ls B) (S : StOk h₀ env nm B M X σ O bx s) (ho : O i = some a) (hm : isVar nm i p = true) {Q : Value → Shared → Prop} (h : Q (.ref a) s) : wpAny (model prog w) A' (eval p env) Q E s := by
  refine isVar_e hm fun y pos hy hd => ?_
  obtain ⟨l, _, _, x, hx, hr⟩ := own_has S ho
  rw [hy] at hx; first | exact nn hx | cases hx
  exact wpAny_Name (rd_load F.ok.kind hr h) hd

theorem set_ok {h : Heap} {a : Addr} {l : List Int} {j : Nat} {v : Int} {t : Tok} (il : IntL h a l) : ∃ vs n, IsL h a vs.toArray n ∧ vs.length = l.length ∧ IntsAre vs l ∧ IntL (h.update a (Obj.mapSeq (·.setIfInBounds j (.int v t)))) a (l.set j v) := by
  obtain ⟨vs, n, hl, hI⟩ := il
  have := hl.update (·.setIfInBounds j (.int v t))
  rw [List.setIfInBounds_toArray] at this
  exact ⟨vs, n, hl, hI.length, hI, vs.set j (.int v t), _, this, ints_put hI j⟩

theorem sound_setI {x : Nat} {i e : NN.E} (hi : SoundE prog w hB k P i) (hE : SoundE prog w hB k P e) : SoundS prog w hB k P N M (.setI x i e) := fun {A h₀ env nm gs cs ls B X σ O bx s r ps} F S hX hm he E => by
  refine ex_setI he fun v' b₁ l j b₂ e1 hgt e2 hM hc => ?_
  refine on1_e hm fun p hm => onAsg_e hm fun ts v pos hm => on1_e hm fun t hm => onSub_e hm fun a b sp hm => ?_
  obtain ⟨m1, m2, m3, m4, m5⟩ := and5 hm
  obtain ⟨h0, hj, hcap⟩ := hc
  obtain ⟨a', ho⟩ := S.mode x l hM hgt
  refine one (wpAny_Assign_Subscript (wpAny_mono ((hE (S.cx F) m5 e1).1 E) (fun val s₁ p₁ => ?_) fun _ _ z => z) (swaps_notComp m3 _ _ _))
  have o₁ := (Out.start (mt := [x]) (W := noW) S).eval F p₁.1 p₁.2.1 (Y := X) fun b h => .inl h
  refine eval_own F o₁.st ho m1 (wpAny_mono ((hi (o₁.st.cx F) m4 e2).1 E) (fun iv s₂ p₂ => ?_) fun _ _ z => z)
  have o₂ := o₁.eval F p₂.1 p₂.2.1 (Y := X) fun b h => .inl h
  obtain ⟨t, rfl⟩ := p₁.2.2
  obtain ⟨t', rfl⟩ := p₂.2.2
  obtain ⟨l', hg', il, _⟩ := own_has o₂.st ho
  rw [hgt] at hg'; first | exact nn hg' | cases hg'
  obtain ⟨vs, n, hl, hlen, _, il'⟩ := set_ok (j := j.toNat) (v := v') (t := t) il
  have hcap' : l.length ≤ 100000 := hcap
  refine setItem_L hl h0 (by (first | lia | omega)) (by rw [List.size_toArray]; (first | lia | omega)) ⟨rfl, O, ?_⟩
  exact o₂.poke (tk := s₂.toks) (.head _) ho (Heap.SameBut.update ..) il'

theorem augStore_plain {i : Expr} (h : isSlice i = false) (ov iv new : Value) : augStore i ov iv new = (do holding [new, ov, iv] (setItem ov iv new); release [new, ov, iv] []; pure .next) := by
  cases i <;> first | rfl | cases h

theorem sound_augI {x : Nat} {i e : NN.E} {o : Op} (hi : SoundE prog w hB k P i) (hE : SoundE prog w hB k P e) : SoundS prog w hB k P N M (.augI x i o e) := fun {A h₀ env nm gs cs ls B X σ O bx s r ps} F S hX hm he E => by
  refine ex_augI he fun l j b₁ v' b₂ z hgt e1 hM hc e2 hop => ?_
  refine on1_e hm fun p hm => onAug_e hm fun t q v pos hm => onSub_e hm fun a b sp hm => ?_
  obtain ⟨m1, m2, m3, m4, m5⟩ := and5 hm
  have m2 := not_of m2
  obtain ⟨h0, hj, hcap⟩ := hc
  obtain ⟨a', ho⟩ := S.mode x l hM hgt
  refine one (wpAny_AugAssign_SubscriptAny (eval_own F S ho m1 (wpAny_mono ((hi (S.cx F) m4 e1).1 E) (fun iv s₁ p₁ => ?_) fun _ _ z => z)) (augStore_plain m2))
  have o₁ := (Out.start (mt := [x]) (W := noW) S).eval F p₁.1 p₁.2.1 (Y := X) fun b h => .inl h
  obtain ⟨t', rfl⟩ := p₁.2.2
  obtain ⟨l', hg', il, _⟩ := own_has o₁.st ho
  rw [hgt] at hg'; first | exact nn hg' | cases hg'
  obtain ⟨vs, hl, hI⟩ := il.isList
  have hcap' : l.length ≤ 100000 := hcap
  have hget : l[j.toNat]? = some (l.getD j.toNat 0) := by
    rw [List.getD_eq_getElem?_getD, List.getElem?_eq_getElem hj]; rfl
  obtain ⟨t₁, hx⟩ := hI.get j.toNat _ hget
  refine wpAny_getItem_list hl h0 (by (first | lia | omega)) (by simpa using hx) ?_
  refine wpAny_mono ((hE (o₁.st.cx F) m5 e2).1 E) (fun ov s₂ p₂ => ?_) fun _ _ z => z
  have o₂ := o₁.eval F p₂.1 p₂.2.1 (Y := X) fun b h => .inl h
  obtain ⟨t₂, rfl⟩ := p₂.2.2
  refine iop_sound m3 hop ?_
  obtain ⟨l', hg', il₂, _⟩ := own_has o₂.st ho
  rw [hgt] at hg'; first | exact nn hg' | cases hg'
  obtain ⟨vs, n, hl, hlen, _, il'⟩ := set_ok (j := j.toNat) (v := z) (t := s₂.toks) il₂
  refine setItem_L hl h0 (by (first | lia | omega)) (by rw [List.size_toArray]; (first | lia | omega)) ⟨rfl, O, ?_⟩
  exact o₂.poke (tk := s₂.toks + 1) (.head _) ho (Heap.SameBut.update ..) il'

theorem sound_aug {x : Nat} {e : NN.E} {o : Op} (hE : SoundE prog w hB k P e) : SoundS prog w hB k P N M (.aug x o e) := fun {A h₀ env nm gs cs ls B X σ O bx s r ps} F S hX hm he E => by
  refine ex_aug he fun i j c b hgt e1 hop' => ?_
  refine on1_e hm fun p hm => onAug_e hm fun t q v pos hm => ?_
  obtain ⟨m1, m2, m3⟩ := and3 hm
  refine isVar_e m1 fun y py hy hd => ?_
  obtain ⟨_, xn, val, hx, hr, hv⟩ := S.vals x _ hgt
  rw [hy] at hx; first | exact nn hx | cases hx
  have hrep : ∃ t, val = .int i t := by
    cases ho : O x with
    | some a => rw [ho] at hv; obtain ⟨_, _, e, _⟩ := hv; first | exact nn e | cases e
    | none => rw [ho] at hv; exact hv
  obtain ⟨t, rfl⟩ := hrep
  refine one (wpAny_AugAssign_Name (rd_load F.ok.kind hr (wpAny_mono ((hE (S.cx F) m3 e1).1 E) (fun ov s₁ p₁ => ?_) fun _ _ z => z)))
  obtain ⟨t', rfl⟩ := p₁.2.2
  refine iop_sound m2 hop' ?_
  have o₁ := (Out.start (mt := []) (W := noW) S).eval F (p₁.1.trans (.tok B s₁ (s₁.toks + 1))) p₁.2.1 (Y := X) fun b h => .inl h
  exact put0 F o₁ hy (v := .int c) (U := fun _ => False) rfl ⟨s₁.toks, rfl⟩ fun O₂ s₂ o2 _ _ => ⟨rfl, O₂, o2⟩

theorem sound_app {x : Nat} {e : NN.E} (hE : SoundE prog w hB k P e) : SoundS prog w hB k P N M (.app x e) := fun {A h₀ env nm gs cs ls B X σ O bx s r ps} F S hX hm he E => by
  refine ex_app he fun l v' b₁ hgt e1 hM hcap => ?_
  refine on1_e hm fun p hm => onExpr_e hm fun p spos hm => meth_e hm fun a apos as pos m1 hl3 hm => on1_e hm fun b m4 => ?_
  obtain ⟨a', ho⟩ := S.mode x l hM hgt
  have st := star_of m4 [] env
  obtain ⟨y, py, rfl⟩ : ∃ y py, a = .Name y py := isVar_e (C := fun a => ∃ y py, a = .Name y py) m1 fun y q _ _ => ⟨y, q, rfl⟩
  have hi : interactive env = false := by
    unfold interactive
    rw [F.ok.kind]
    rfl
  refine one (wpAny_Expr_any (wpAny_Call_method (T := "list") (id := "list.append") rfl (by rw [st]; rfl) hl3 paList slAppend tyAppend (eval_own F S ho m1 ?_)) hi rfl)
  obtain ⟨l₀, hg₀, ⟨vs₀, n₀, hl₀, _⟩, _⟩ := own_has S ho
  refine ⟨hl₀.isList.typeIs, fun a e => by cases e; exact ⟨_, hl₀, rfl⟩, ?_⟩
  rw [st]
  refine PySem.P.append_list (wpAny_mono ((hE (S.cx F) m4 e1).1 E) (fun ov s₁ p₁ => ?_) fun _ _ z => z)
  have o₁ := (Out.start (mt := [x]) (W := noW) S).eval F p₁.1 p₁.2.1 (Y := X) fun b h => .inl h
  obtain ⟨t, rfl⟩ := p₁.2.2
  obtain ⟨l', hg', ⟨vs, n, hl, hI⟩, _⟩ := own_has o₁.st ho
  rw [hgt] at hg'; first | exact nn hg' | cases hg'
  refine ⟨vs.toArray, n, by rw [List.size_toArray, hI.length]; exact cap_line (Nat.le_of_lt hcap), hl, rfl, O, ?_⟩
  have := hl.update (·.push (.int v' t))
  rw [List.push_toArray] at this
  exact o₁.poke (tk := s₁.toks) (.head _) ho (Heap.SameBut.update ..) ⟨vs ++ [.int v' t], _, this, hI.append (.cons v' t .nil)⟩

theorem ints_take {vs : List Value} {l : List Int} (h : IntsAre vs l) : ∀ n, IntsAre (vs.take n) (l.take n) := by
  induction h with
  | nil => intro n; rw [List.take_nil, List.take_nil]; exact .nil
  | cons i t _ ih => intro n; cases n with
    | zero => exact .nil
    | succ n => exact .cons i t (ih n)
theorem ints_dropLast {vs : List Value} {l : List Int} (h : IntsAre vs l) : IntsAre vs.dropLast l.dropLast := by
  rw [List.dropLast_eq_take, List.dropLast_eq_take, h.length]
  exact ints_take h _

theorem sound_pop {x : Nat} : SoundS prog w hB k P N M (.pop x) := fun {A h₀ env nm gs cs ls B X σ O bx s r ps} F S hX hm he E => by
  refine ex_pop he fun l hgt hM hcap => ?_
  refine on1_e hm fun p hm => onExpr_e hm fun p spos hm => meth_e hm fun a apos as pos m1 hl3 hm => onNil_e hm fun _ => ?_
  obtain ⟨a', ho⟩ := S.mode x l hM hgt
  obtain ⟨y, py, rfl⟩ : ∃ y py, a = .Name y py := isVar_e (C := fun a => ∃ y py, a = .Name y py) m1 fun y q _ _ => ⟨y, q, rfl⟩
  have hi : interactive env = false := by
    unfold interactive
    rw [F.ok.kind]
    rfl
  refine one (wpAny_Expr_any (wpAny_Call_method (T := "list") (id := "list.pop") rfl rfl hl3 paList slPop tyPop (eval_own F S ho m1 ?_)) hi rfl)
  obtain ⟨l', hg', ⟨vs, n, hl, hI⟩, _⟩ := own_has S ho
  rw [hgt] at hg'; first | exact nn hg' | cases hg'
  refine ⟨hl.isList.typeIs, fun a e => by cases e; exact ⟨_, hl, rfl⟩, ?_⟩
  have hlen := hI.length
  have hpos : vs.toArray.size - 1 < vs.toArray.size := by rw [List.size_toArray]; (first | lia | omega)
  refine PySem.P.pop_list hl (y := vs.toArray[vs.toArray.size - 1]) (Array.getElem?_eq_getElem hpos) ⟨rfl, O, ?_⟩ (by rw [List.size_toArray, hlen]; exact cap_line hcap.2)
  have := hl.update (·.eraseIdxIfInBounds (vs.toArray.size - 1))
  have e : vs.toArray.eraseIdxIfInBounds (vs.toArray.size - 1) = vs.dropLast.toArray := by
    rw [Array.eraseIdxIfInBounds, dif_pos hpos]
    simp
  rw [e] at this
  exact (Out.start (mt := [x]) (W := noW) S).poke (tk := s.toks) (.head _) ho (Heap.SameBut.update ..) ⟨vs.dropLast, _, this, ints_dropLast hI⟩

theorem sound_setB {x : Nat} {e : NN.E} (hE : SoundE prog w hB k P e) : SoundS prog w hB k P N M (.setB x e) := fun {A h₀ env nm gs cs ls B X σ O bx s r ps} F S hX hm he E => by
  refine ex_setB he fun v' l k' hgt e1 => ?_
  refine on1_e hm fun p hm => onAsg_e hm fun ts v pos hm => on1_e hm fun t hm => onSub_e hm fun a j sp hm => ?_
  obtain ⟨m1, m2, m3, m4⟩ := and4 hm
  refine intIs_e m2 fun kk p1 => ?_
  refine one (wpAny_Assign_Subscript (wpAny_mono ((hE (S.cx F) m4 e1).1 E) (fun val s₁ p₁ => ?_) fun _ _ z => z) (swaps_notComp m3 _ _ _))
  have o₁ := (Out.start (mt := []) (W := noW) S).eval F p₁.1 p₁.2.1 (Y := X) fun b h => .inl h
  refine isVar_e m1 fun y py hy hd => ?_
  obtain ⟨_, xn, bv, hx, hr, hv⟩ := (o₁.st.cx F).vars x _ hgt
  rw [hy] at hx; first | exact nn hx | cases hx
  obtain ⟨⟨aB', aL'⟩, hBs, rfl⟩ := hv
  obtain ⟨aB, aL, t₀, vs, n, m, hB2, hne, hl1, hl2, hI⟩ := p₁.2.1
  rw [hBs] at hB2; first | exact nn hB2 | cases hB2
  obtain ⟨t, rfl⟩ := p₁.2.2
  refine wpAny_Name (rd_load F.ok.kind hr (wpAny_Constant_int ?_)) hd
  refine setItem_L (s := { s₁ with toks := s₁.toks + 1 }) hl1 (by decide) (by decide) (by show (1 : Int) < ((2 : Nat) : Int); decide) ⟨rfl, O, ?_⟩
  have hs : Heap.SameBut aB' s₁.heap (s₁.heap.update aB' (Obj.mapSeq (·.setIfInBounds (1 : Int).toNat (.int v' t)))) := Heap.SameBut.update ..
  refine o₁.eval F (s₂ := { s₁ with heap := s₁.heap.update aB' (Obj.mapSeq (·.setIfInBounds (1 : Int).toNat (.int v' t))), toks := s₁.toks + 1 }) ⟨⟨_, _, rfl⟩, fun b o nb e => (hs.2 b fun z => nb ⟨_, hBs, .inl z⟩).trans e⟩ ?_ fun b h => .inl h
  refine ⟨aB', aL', t, vs, _, m, hBs, hne, hl1.update _, (hs.2 _ (Ne.symm hne)).trans hl2, hI⟩

theorem ret_own (S : StOk h₀ env nm B M X σ O bx s) {x : Nat} (hM : M x = true) {l : List Int} (hgt : gt σ x = some (.il l)) : ∃ a, O x = some a ∧ h₀.get? a = none ∧ ¬ isBx B a := by
  obtain ⟨a, ho⟩ := S.mode x l hM hgt
  obtain ⟨_, h2, h3, _⟩ := S.own x a ho
  exact ⟨a, ho, h2, h3⟩

theorem isIl_e {v : V} (h : v.isIl = true) : ∃ l, v = .il l := by cases v <;> first | exact ⟨_, rfl⟩ | cases h
theorem sound_ret {e : NN.E} (hE : SoundE prog w hB k P e) : SoundS prog w hB k P N M (.ret e) := fun {A h₀ env nm gs cs ls B X σ O bx s r ps} F S hX hm he E => by
  refine ex_ret he fun v' b e1 hr => ?_
  refine on1_e hm fun p hm => onRet_e hm fun o pos hm => onSome_e hm fun v hm => ?_
  have hk : ∀ {s₁ : Shared}, Kp B s s₁ → ∀ b o, ¬ isBx B b → h₀.get? b = some o → s₁.heap.get? b = some o := fun q b o nb e => q.2 b o nb (S.keep b o nb e)
  have go : (∀ val s₁, Post B s e.fresh v' b val s₁ → Rep B s₁.heap (fun b => ¬ isBx B b ∧ h₀.get? b = none) v' val) → wpAny (model prog w) A (execs [.Return (some v) pos] env) (Done h₀ env nm B M X noW [] O s ((σ, b), .ret v')) E s := fun h =>
    one (wpAny_Return_some (wpAny_mono ((hE (S.cx F) hm e1).1 E) (fun val s₁ p₁ => ⟨val, rfl, p₁.1.1, hk p₁.1, p₁.2.1, h val s₁ p₁⟩) fun _ _ z => z))
  unfold retOk at hr
  rw [Bool.or_eq_true, Bool.or_eq_true] at hr
  rcases hr with (hs | hf) | hx
  · refine go fun val s₁ p₁ => ?_
    have := p₁.2.2
    revert this hs
    cases v' <;> intro hs this <;> first | exact this | cases hs
  · exact go fun val s₁ p₁ => p₁.2.2.weaken fun b g => ⟨g.1, S.h0none g.1 (g.2 hf)⟩
  · obtain ⟨hv, ho⟩ := and2 hx
    obtain ⟨l, rfl⟩ := isIl_e hv
    obtain ⟨x, rfl, hx⟩ : ∃ x, e = .var x ∧ M x = true := NN.E.var.elim (motive := fun e => ownVar M e = true → ∃ x, e = .var x ∧ M x = true) e (dt ho) (fun x h => ⟨x, rfl, h⟩) ho
    rw [evr_var] at e1
    obtain ⟨u, hg, e1⟩ := map_some e1
    cases e1
    obtain ⟨a, ho, h2, h3⟩ := ret_own S hx hg
    refine one (wpAny_Return_some (eval_own F S ho hm ⟨_, rfl, .refl s, hk (.refl B s), S.box, a, rfl, ⟨h3, h2⟩, ?_⟩))
    obtain ⟨l', hg', il, _⟩ := own_has S ho
    rw [hg] at hg'; first | exact nn hg' | cases hg'
    exact il

theorem sound_skip : SoundS prog w hB k P N M .skip := fun {A h₀ env nm gs cs ls B X σ O bx s r ps} F S hX hm he E => by
  cases he
  exact onNil_e hm fun _ => wpAny_execs_nil ⟨rfl, O, .start S⟩

theorem exec_of_one {p : Stmt} {Q : Flow → Shared → Prop} {M : Model} (h : wpAny M A (execs [p] env) Q E s) : wpAny M A (exec p env) Q E s := fun Γ pp hΓ => by
  have := h Γ pp hΓ
  rw [execs_cons, Sem.wp_bind'] at this
  refine Sem.wp_mono M Γ _ (fun f p' s' h' => ?_) (fun _ _ _ h' => h') _ _ this
  cases f <;> exact h'

theorem sound_seq {a b : S} (ha : SoundS prog w hB k P N M a) (hb : SoundS prog w hB k P N M b) : SoundS prog w hB k P N M (.seq a b) := fun {A h₀ env nm gs cs ls B X σ O bx s r ps} F S hX hm he E => by
  refine onCons_e hm fun p rest hm => ?_
  obtain ⟨hm1, hm2⟩ := and2 hm
  refine wpAny_execs_cons (exec_of_one ?_)
  rcases ex_seq he with ⟨⟨σ', b'⟩, e1, he⟩ | ⟨s', v, e1, rfl⟩
  · refine wpAny_mono (ha F S hX hm1 e1 E) (fun f s₁ d => ?_) fun _ _ z => z
    obtain ⟨rfl, O', o⟩ := d
    have o' := o.more (mt' := (NN.S.seq a b).mut) fun i h => List.mem_append_left _ h
    exact wpAny_mono (hb F o'.st (fun b h => let ⟨o1, e1⟩ := hX b h; o'.dom b o1 e1) hm2 he E) (fun f s₂ d => (d.more fun i h => List.mem_append_right _ h).after o') fun _ _ z => z
  · refine wpAny_mono (ha F S hX hm1 e1 E) (fun f s₁ d => ?_) fun _ _ z => z
    obtain ⟨val, rfl, h1⟩ := d
    exact ⟨val, rfl, h1⟩

theorem sound_ite {c : NN.E} {a b : S} (hc : SoundE prog w hB k P c) (ha : SoundS prog w hB k P N M a) (hb : SoundS prog w hB k P N M b) : SoundS prog w hB k P N M (.ite c a b) := fun {A h₀ env nm gs cs ls B X σ O bx s r ps} F S hX hm he E => by
  refine on1_e hm fun st hm => onIf_e hm fun t p q pos hm => ?_
  obtain ⟨m1, m2, m3⟩ := and3 hm
  have go : ∀ {bb : Bool} {b₁ : Bx} {d : NN.S} {pd : List Stmt}, evalE P c σ bx = some (.bool bb, b₁) → SoundS prog w hB k P N M d → mS nm gs cs ls d pd = true → execS P N M d (σ, b₁) = some r → (∀ i ∈ d.mut, i ∈ (NN.S.ite c a b).mut) → (if bb = true then p else q) = pd →
      wpAny (model prog w) A (execs [.If t p q pos] env) (Done h₀ env nm B M X noW (NN.S.ite c a b).mut O s r) E s := fun {bb b₁ d pd} e1 hd md he hmt hpd => by
    refine one (wpAny_If (wpAny_mono ((hc (S.cx F) m1 e1).2.2 _ rfl E) (fun cc s₁ p₁ => ?_) fun _ _ z => z))
    obtain ⟨rfl, q₁, hb₁⟩ := p₁
    have o := (Out.start (mt := (NN.S.ite c a b).mut) (W := noW) S).eval F q₁ hb₁ (Y := X) fun b h => .inl h
    have fin := wpAny_mono (hd F o.st (fun b h => let ⟨o1, e1⟩ := hX b h; o.dom b o1 e1) md he E) (fun f s₂ d => (d.more hmt).after o) fun _ _ z => z
    subst hpd
    cases cc <;> exact fin
  rcases ex_ite he with ⟨b₁, e1, he⟩ | ⟨b₁, e1, he⟩
  · exact go e1 ha m2 he (fun i h => List.mem_append_left _ h) rfl
  · exact go e1 hb m3 he (fun i h => List.mem_append_right _ h) rfl
end
end NN

/-! statements: loops -/
namespace NN
open PySem PySem.W PyProof.Rows PySem.Calls

section
variable {prog : Program} {w : PySem.World} {P : Fns} {N : Nat} {A : Around} {hB h₀ : Heap} {fnA : Str → Option Addr} {k : Nat} {env : Env} {nm : List Str} {gs cs ls : Str → Bool} {B : Bxa} {M : Nat → Bool} {X Y U W Z G : Addr → Prop} {σ σ₁ σ₂ : Ev} {O O₁ O₂ : Own} {bx bx₁ bx₂ bx' : Bx} {s s₁ s₂ : Shared} {v : V} {val : Value} {mt mt' mt₂ : List Nat}
  {E : Value → Shared → Prop}

theorem sound_asg3 {x y z : Nat} {e₁ e₂ e₃ : NN.E} (h1 : SoundE prog w hB k P e₁) (h2 : SoundE prog w hB k P e₂) (h3 : SoundE prog w hB k P e₃) : SoundS prog w hB k P N M (.asg3 x y z e₁ e₂ e₃) := fun {A h₀ env nm gs cs ls B X σ O bx s r ps} F S hX hm he E => by
  refine ex_asg3 he fun v₁ b₁ v₂ b₂ v₃ b₃ ev1 ev2 ev3 c1 c2 c3 hne1 hne2 hne3 => ?_
  refine on1_e hm fun p hm => onAsg_e hm fun ts v pos hm => on1_e hm fun t hm => onTup_e hm fun us kk tp hm => on3_e hm fun t u q hm => onTup_e hm fun vs k2 p2 hm => on3_e hm fun a b c hm => ?_
  obtain ⟨m1, m2, m2', m3, m4, m5, m6⟩ := and7 hm
  refine isTgt_e m1 fun xn px hx => isTgt_e m2 fun yn py hy => isTgt_e m2' fun zn pz hz => ?_
  have C := S.cx F
  refine one (Assign_tuple (xs := [(xn, px), (yn, py), (zn, pz)]) F.room.hd m3 (by simp [sizeLine_eq]) ?_)
  refine wpAny_items_cons (wpAny_mono ((h1 C m4 ev1).1 E) (fun val₁ s₁ p₁ => ?_) fun _ _ z => z) (star_of m4 _ _)
  have C₁ := C.next p₁.1 p₁.2.1
  refine wpAny_items_cons (wpAny_mono ((h2 C₁ m5 ev2).1 E) (fun val₂ s₂ p₂ => ?_) fun _ _ z => z) (star_of m5 _ _)
  have C₂ := C₁.next p₂.1 p₂.2.1
  refine wpAny_items_cons (wpAny_mono ((h3 C₂ m6 ev3).1 E) (fun val₃ s₃ p₃ => ?_) fun _ _ z => z) (star_of m6 _ _)
  refine wpAny_items_nil ⟨rfl, fun h' hk => ?_⟩
  have q : Kp B s { s₃ with heap := h' } := (p₁.1.trans (p₂.1.trans p₃.1)).trans ⟨⟨h', s₃.toks, rfl⟩, fun b o _ e => hk b o e⟩
  have hb : BoxOk B h' b₃ := p₃.2.1.keeps hk
  have o := (Out.start (mt := []) (W := noW) S).eval F q hb (Y := fun b => X b ∨ s.heap.get? b = none) (fun b h => h)
  have npr : ∀ l, v₁ ≠ .prs l := fun l e => by rw [e] at c1; first | exact nn c1 | cases c1
  have npr₂ : ∀ l, v₂ ≠ .prs l := fun l e => by rw [e] at c2; first | exact nn c2 | cases c2
  have npr₃ : ∀ l, v₃ ≠ .prs l := fun l e => by rw [e] at c3; first | exact nn c3 | cases c3
  have r₁ : Rep B h' (fun b => ¬ isBx B b ∧ (e₁.fresh = true → (s.heap.get? b = none ∧ ∃ o, s₁.heap.get? b = some o))) v₁ val₁ :=
    p₁.2.2.keeps npr (fun b o g e => hk b o (p₃.1.2 b o g.1 (p₂.1.2 b o g.1 e))) fun b g ex => ⟨g.1, fun f => ⟨g.2 f, ex⟩⟩
  have r₂ : Rep B h' (fun b => ¬ isBx B b ∧ (e₂.fresh = true → (s₁.heap.get? b = none ∧ ∃ o, s₂.heap.get? b = some o))) v₂ val₂ :=
    p₂.2.2.keeps npr₂ (fun b o g e => hk b o (p₃.1.2 b o g.1 e)) fun b g ex => ⟨g.1, fun f => ⟨g.2 f, ex⟩⟩
  have r₃ : Rep B h' (fun b => ¬ isBx B b ∧ (e₃.fresh = true → s₂.heap.get? b = none)) v₃ val₃ := p₃.2.2.keeps npr₃ (fun b o g e => hk b o e) fun b g _ => g
  have go := fun (l : List Item) (h1 h2) (hσ : putAll σ l = pt (pt (pt σ x v₁) y v₂) z v₃) (hl : ∀ it ∈ l, ∀ b, it.G b → ¬ X b) => put_all (prog := prog) (w := w) (A' := A) (E := E) (Q := fun _ s' => Done h₀ env nm B M X noW [] O s ((pt (pt (pt σ x v₁) y v₂) z v₃, b₃), Fl.next) .next s') F l _ σ O _ o h1 h2
    fun O₂ s₃ X' o3 hX' => ⟨rfl, O₂, by rw [← hσ]; exact o3.weak F fun b h => hX' b (.inl h) fun it hi g => hl it hi b g h⟩
  let i₁ : Item := ⟨x, xn, e₁, v₁, val₁, fun b => ¬ isBx B b ∧ s.heap.get? b = none ∧ ∃ o, s₁.heap.get? b = some o⟩
  let i₂ : Item := ⟨y, yn, e₂, v₂, val₂, fun b => ¬ isBx B b ∧ s₁.heap.get? b = none ∧ ∃ o, s₂.heap.get? b = some o⟩
  let i₃ : Item := ⟨z, zn, e₃, v₃, val₃, fun b => ¬ isBx B b ∧ s₂.heap.get? b = none⟩
  have k₁ : ∀ b, ¬ isBx B b → s₁.heap.get? b = none → s.heap.get? b = none := fun b nb e => fresh_old p₁.1 nb e
  have k₂ : ∀ b, ¬ isBx B b → s₂.heap.get? b = none → s₁.heap.get? b = none := fun b nb e => fresh_old p₂.1 nb e
  let GG : Item → Prop := fun it => nm[it.i]? = some it.x ∧ asgOk M it.i it.e it.v = true ∧ Rep B h' (fun b => ¬ isBx B b ∧ (it.e.fresh = true → it.G b)) it.v it.val ∧ ∀ b, it.G b → ¬ isBx B b → (X b ∨ s.heap.get? b = none) ∧ h₀.get? b = none ∧ s.heap.get? b = none
  have g₁ : GG i₁ := ⟨hx, c1, r₁.weaken fun b g => ⟨g.1, fun f => ⟨g.1, g.2 f⟩⟩, fun b g nb => ⟨.inr g.2.1, S.h0none nb g.2.1, g.2.1⟩⟩
  have g₂ : GG i₂ := ⟨hy, c2, r₂.weaken fun b g => ⟨g.1, fun f => ⟨g.1, g.2 f⟩⟩, fun b g nb => ⟨.inr (k₁ b nb g.2.1), S.h0none nb (k₁ b nb g.2.1), k₁ b nb g.2.1⟩⟩
  have g₃ : GG i₃ := ⟨hz, c3, r₃.weaken fun b g => ⟨g.1, fun f => ⟨g.1, g.2 f⟩⟩, fun b g nb => ⟨.inr (k₁ b nb (k₂ b nb g.2)), S.h0none nb (k₁ b nb (k₂ b nb g.2)), k₁ b nb (k₂ b nb g.2)⟩⟩
  have x₁ : ∀ b, i₁.G b → ¬ X b := fun b g h => by obtain ⟨o, e⟩ := hX b h; rw [g.2.1] at e; first | exact nn e | cases e
  have x₂ : ∀ b, i₂.G b → ¬ X b := fun b g h => by obtain ⟨o, e⟩ := hX b h; rw [k₁ b g.1 g.2.1] at e; first | exact nn e | cases e
  have x₃ : ∀ b, i₃.G b → ¬ X b := fun b g h => by obtain ⟨o, e⟩ := hX b h; rw [k₁ b g.1 (k₂ b g.1 g.2)] at e; first | exact nn e | cases e
  have d12 : ∀ c, i₁.G c → i₂.G c → False := fun c a b => by obtain ⟨_, _, o, e⟩ := a; rw [b.2.1] at e; first | exact nn e | cases e
  have d23 : ∀ c, i₂.G c → i₃.G c → False := fun c a b => by obtain ⟨_, _, o, e⟩ := a; rw [b.2] at e; first | exact nn e | cases e
  have d13 : ∀ c, i₁.G c → i₃.G c → False := fun c a b => by obtain ⟨_, _, o, e⟩ := a; rw [k₂ c b.1 b.2] at e; first | exact nn e | cases e
  have all3 : ∀ {p : Item → Prop} {a b c : Item}, p a → p b → p c → ∀ it ∈ [a, b, c], p it := fun ha hb hc it hi => by
    rcases List.mem_cons.mp hi with rfl | hi
    · exact ha
    rcases List.mem_cons.mp hi with rfl | hi
    · exact hb
    rcases List.mem_cons.mp hi with rfl | hi
    · exact hc
    cases hi
  refine ⟨go [i₁, i₂, i₃] (all3 (p := GG) g₁ g₂ g₃) ?_ rfl (all3 (p := fun it => ∀ b, it.G b → ¬ X b) x₁ x₂ x₃), go [i₃, i₂, i₁] (all3 (p := GG) g₃ g₂ g₁) ?_ ?_ (all3 (p := fun it => ∀ b, it.G b → ¬ X b) x₃ x₂ x₁)⟩
  · refine .cons (fun it hi => ?_) (.cons (fun it hi => ?_) (.cons (fun it hi => by cases hi) .nil))
    · rcases List.mem_cons.mp hi with rfl | hi
      · exact d12
      rcases List.mem_cons.mp hi with rfl | hi
      · exact d13
      cases hi
    · rcases List.mem_cons.mp hi with rfl | hi
      · exact d23
      cases hi
  · refine .cons (fun it hi => ?_) (.cons (fun it hi => ?_) (.cons (fun it hi => by cases hi) .nil))
    · rcases List.mem_cons.mp hi with rfl | hi
      · exact fun c a b => d23 c b a
      rcases List.mem_cons.mp hi with rfl | hi
      · exact fun c a b => d13 c b a
      cases hi
    · rcases List.mem_cons.mp hi with rfl | hi
      · exact fun c a b => d12 c b a
      cases hi
  · show pt (pt (pt σ z v₃) y v₂) x v₁ = pt (pt (pt σ x v₁) y v₂) z v₃
    rw [pt_comm (σ := σ) (Ne.symm hne3), pt_comm (σ := pt σ y v₂) (Ne.symm hne2), pt_comm (σ := σ) (Ne.symm hne1)]

/-! ## while -/
theorem loopW_succ {c : St → Option (Bool × St)} {f : St → Rt} {n : Nat} {t : St} {r : St × Fl} (h : loopW c f (n + 1) t = some r) :
    (∃ t₁, c t = some (false, t₁) ∧ r = (t₁, .next)) ∨ (∃ t₁, c t = some (true, t₁) ∧ ((∃ t₂, f t₁ = some (t₂, .next) ∧ loopW c f n t₂ = some r) ∨ ∃ t₂ v, f t₁ = some (t₂, .ret v) ∧ r = (t₂, .ret v))) := by
  have h : (match c t with
    | none => none
    | some (false, s₁) => some (s₁, .next)
    | some (true, s₁) => match f s₁ with
      | none => none
      | some (s₂, .next) => loopW c f n s₂
      | some (s₂, .ret v) => some (s₂, .ret v)) = some r := h
  cases e : c t with
  | none => rw [e] at h; first | exact nn h | cases h
  | some q =>
    obtain ⟨b, t₁⟩ := q
    rw [e] at h
    cases b with
    | false => cases h; exact .inl ⟨t₁, rfl, rfl⟩
    | true =>
      refine .inr ⟨t₁, rfl, ?_⟩
      rcases fl_some h with h | ⟨t₂, v, e2, h⟩
      · exact .inl h
      · exact .inr ⟨t₂, v, e2, (Option.some.inj h).symm⟩

theorem cond_some {β : Type} {x : Rs} {g : Bool → Bx → Option β} {q : β} (h : (match x with | some (.bool t, b) => g t b | _ => none) = some q) : ∃ t b, x = some (.bool t, b) ∧ g t b = some q := by
  cases x with
  | none => exact nn h
  | some y =>
    obtain ⟨v, b⟩ := y
    cases v with
    | bool t => exact ⟨t, b, rfl, h⟩
    | _ => exact nn h
theorem sound_while {c : NN.E} {a : S} (hc : SoundE prog w hB k P c) (ha : SoundS prog w hB k P N M a) : SoundS prog w hB k P N M (.while c a) := fun {A h₀ env nm gs cs ls B X σ O bx s r ps} F S hX hm he E => by
  refine on1_e hm fun st hm => onWhile_e hm fun t p q pos hm => onNil_e hm fun hm => ?_
  obtain ⟨hm1, hm2⟩ := and2 hm
  have he := ex_while he
  refine one (wpAny_While (codeAny_whileLoop (fun n s' => ∃ σ' O' bx', Out h₀ env nm B M X noW a.mut O s σ' O' bx' s' ∧
    loopW (fun s => match evalE P c s.1 s.2 with | some (.bool t, b) => some (t, (s.1, b)) | _ => none) (execS P N M a) n (σ', bx') = some r) ?_ N ⟨σ, O, bx, .start S, he⟩))
  rintro n s' ⟨σ', O', bx', o, hl⟩
  cases n with
  | zero => first | exact nn hl | cases hl
  | succ n =>
    have key : ∀ {t₁ : St} {bb : Bool}, (match evalE P c σ' bx' with | some (.bool t, b) => some (t, (σ', b)) | _ => none) = some (bb, t₁) → ∃ b₁, t₁ = (σ', b₁) ∧ evalE P c σ' bx' = some (.bool bb, b₁) := fun {t₁ bb} h => by
        obtain ⟨t, b, e, h⟩ := cond_some h
        cases h
        exact ⟨_, rfl, e⟩
    rcases loopW_succ hl with ⟨t₁, e1, rfl⟩ | ⟨t₁, e1, h2⟩
    · obtain ⟨b₁, rfl, e1'⟩ := key e1
      refine wpAny_mono ((hc (o.st.cx F) hm1 e1').2.2 _ rfl _) (fun bb s₁ p₁ => ?_) fun _ _ z => z
      obtain ⟨rfl, q, hb⟩ := p₁
      simp only [Bool.false_eq_true, if_false]
      exact wpAny_execs_nil ⟨rfl, O', o.eval F q hb fun b h => .inl h⟩
    · obtain ⟨b₁, rfl, e1'⟩ := key e1
      refine wpAny_mono ((hc (o.st.cx F) hm1 e1').2.2 _ rfl _) (fun bb s₁ p₁ => ?_) fun _ _ z => z
      obtain ⟨rfl, q, hb⟩ := p₁
      simp only [if_true]
      have o₁ := o.eval F q hb (Y := X) fun b h => .inl h
      have hX₁ : ∀ b, X b → ∃ o, s₁.heap.get? b = some o := fun b h => let ⟨oo, e⟩ := hX b h; o₁.dom b oo e
      rcases h2 with ⟨⟨σ₂, bx₂⟩, e2, h2⟩ | ⟨t₂, v, e2, rfl⟩
      · refine wpAny_mono (ha F o₁.st hX₁ hm2 e2 _) (fun f s₂ d => ?_) fun _ _ z => z
        obtain ⟨rfl, O₂, o2⟩ := d
        exact ⟨n, Nat.lt_succ_self n, σ₂, O₂, bx₂, o₁.trans o2, h2⟩
      · refine wpAny_mono (ha F o₁.st hX₁ hm2 e2 _) (fun f s₂ d => ?_) fun _ _ z => z
        obtain ⟨val, rfl, h3, h4⟩ := d
        exact ⟨val, rfl, o₁.shape.trans h3, h4⟩


/-! ## for -/
inductive Binds (nm : List Str) (B : Bxa) : List Str → List Value → List (Nat × V) → Prop
  | one {x : Nat} {xn : Str} {v : V} {val : Value} : nm[x]? = some xn → isScalar v = true → (∀ h U, Rep B h U v val) → Binds nm B [xn] [val] [(x, v)]
  | two {x y : Nat} {xn yn : Str} {v u : V} {val val' : Value} : nm[x]? = some xn → isScalar v = true → (∀ h U, Rep B h U v val) → nm[y]? = some yn → isScalar u = true → (∀ h U, Rep B h U u val') → Binds nm B [xn, yn] [val, val'] [(x, v), (y, u)]

noncomputable def bindAll (bs : List (Nat × V)) (t : St) : St := (bs.foldl (fun σ p => pt σ p.1 p.2) t.1, t.2)

theorem stores_put {A' : Around} (F : FrOk A hB h₀ k env nm gs cs ls B) (o : Out h₀ env nm B M X W mt O s σ₁ O₁ bx₁ s₁) {ts : List Str} {vals : List Value} {bs : List (Nat × V)} (hb : Binds nm B ts vals bs) {Q : Unit → Shared → Prop}
    (hq : ∀ O₂ s₂, Out h₀ env nm B M X W mt O s (bindAll bs (σ₁, bx₁)).1 O₂ bx₁ s₂ → (∀ b, ¬ slot env nm b → s₂.heap.get? b = s₁.heap.get? b) → Q () s₂) : stores (model prog w) A' env ts vals Q E s₁ := by
  cases hb with
  | one h1 h2 h3 => exact put0 F o h1 h2 (h3 _ (fun _ => False)) fun O₂ s₂ o2 hr _ => hq O₂ s₂ o2 hr
  | two h1 h2 h3 h4 h5 h6 => exact put0 F o h1 h2 (h3 _ (fun _ => False)) fun O₂ s₂ o2 hr _ => put0 F o2 h4 h5 (h6 _ (fun _ => False)) fun O₃ s₃ o3 hr' _ => hq O₃ s₃ o3 fun b hb => (hr' b hb).trans (hr b hb)

theorem loopF_cons {α : Type} {f : α → St → Rt} {a : α} {rest : List α} {t : St} {r : St × Fl} (h : loopF f (a :: rest) t = some r) :
    (∃ t₂, f a t = some (t₂, .next) ∧ loopF f rest t₂ = some r) ∨ ∃ t₂ v, f a t = some (t₂, .ret v) ∧ r = (t₂, .ret v) := by
  rcases fl_some (x := f a t) h with h | ⟨t₂, v, e2, h⟩
  · exact .inl h
  · exact .inr ⟨t₂, v, e2, (Option.some.inj h).symm⟩

theorem for_go {α : Type} {a : S} {items : List α} {bs : α → List (Nat × V)} {target : Expr} {ts : List Str} {Rd : Nat → List Value → Prop} {it : Value} {p : List Stmt} {r : St × Fl} {R : Result → Shared → Prop}
    (ha : SoundS prog w hB k P N M a) (F : FrOk A hB h₀ k env nm gs cs ls B) (S : StOk h₀ env nm B M X σ O bx s) (hX : ∀ b, X b → ∃ o, s.heap.get? b = some o) (hm : mS nm gs cs ls a p = true) (q : Kp B s s₂) (hb : BoxOk B s₂.heap bx₁)
    (rd : Ready prog w A target ts items.length Rd (fun b => ¬ isBx B b ∧ ¬ slot env nm b ∧ ∀ i ∈ a.mut, O i ≠ some b) (fun b => ¬ isBx B b ∧ s.heap.get? b = none) it s₂.heap)
    (hR : ∀ (i : Nat) x vals, items[i]? = some x → Rd i vals → Binds nm B ts vals (bs x))
    (he : loopF (fun x t => execS P N M a (bindAll (bs x) t)) items (σ, bx₁) = some r)
    (hQ : ∀ f s', Done h₀ env nm B M X noW a.mut O s r f s' → R (.ok f) s') : codeAny (model prog w) A (.forLoop target it p [] env) R s₂ := by
  obtain ⟨I, fp, wr, St, rfl, T, st₀, hfp, hwr⟩ := rd
  have o₀ := (Out.start (mt := a.mut) (W := fun b => b ∈ wr) S).eval F q hb (Y := fun b => X b ∨ b ∈ wr) fun b h => by
    rcases h with h | h
    · exact .inl h
    · exact .inr (hwr b h).2
  have finish : ∀ {σ' O' bx' s'}, Out h₀ env nm B M (fun b => X b ∨ b ∈ wr) (fun b => b ∈ wr) a.mut O s₂ σ' O' bx' s' → ∀ (h' : Heap) tk, (∀ b o, b ∉ wr → s'.heap.get? b = some o → h'.get? b = some o) →
      Out h₀ env nm B M X noW a.mut O s σ' O' bx' { s' with heap := h', toks := tk } := fun {σ' O' bx' s'} o h' tk hk => by
    refine ((o₀.trans o).away (Z := fun b => b ∈ wr) (fun b h => ⟨.inr h, (hwr b h).1, S.h0none (hwr b h).1 (hwr b h).2, .inl (hwr b h).2⟩) hk fun b h => .inl (hwr b h).2).weak F (Y := X) (fun b h => .inl h) |>.moreW fun b h => .inr (hwr b h).2
  obtain ⟨Inv, hInv⟩ : ∃ Inv : Nat → Shared → Prop, Inv = fun n s' => ∃ i σ' O' bx', Out h₀ env nm B M (fun b => X b ∨ b ∈ wr) (fun b => b ∈ wr) a.mut O s₂ σ' O' bx' s' ∧ St i s'.heap ∧ n = items.length - i ∧ i ≤ items.length ∧
    loopF (fun x t => execS P N M a (bindAll (bs x) t)) (items.drop i) (σ', bx') = some r := ⟨_, rfl⟩
  refine codeAny_forLoop_any Inv ?_ items.length (by rw [hInv]; exact ⟨0, σ, O, bx₁, .start o₀.st, st₀, rfl, Nat.zero_le _, he⟩)
  intro n s' hI
  rw [hInv] at hI
  obtain ⟨i, σ', O', bx', o, st, hn, hi, hl⟩ := hI
  by_cases hlt : i < items.length
  · rw [List.drop_eq_getElem_cons hlt] at hl
    have hix : items[i]? = some items[i] := List.getElem?_eq_getElem hlt
    generalize items[i] = x at hl hix
    refine wpAny_mono (T.turn i hlt env s' (fun _ s₃ => wpAny (model prog w) A (execs p env) (fun f s₃ => match f with | .next | .cont => ∃ m, m < n ∧ Inv m s₃ | .brk => R (.ok .next) s₃ | .ret v => R (.ok (.ret v)) s₃) (notedBy (model prog w) A env fun e s' => R (.error e) s') s₃) _ st fun vals h' tk hRd st' hk => ?_) (fun rr s₁ h₁ => ?_) fun _ _ z => z
    · have o₁ : Out h₀ env nm B M (fun b => X b ∨ b ∈ wr) (fun b => b ∈ wr) a.mut O s₂ σ' O' bx' { s' with heap := h', toks := tk } :=
        o.away (Z := fun b => b ∈ wr) (fun b h => ⟨.inr h, (hwr b h).1, S.h0none (hwr b h).1 (hwr b h).2, .inr h⟩) hk fun b h => .inr (T.has _ _ st' b (T.sub b h))
      refine stores_put F o₁ (hR i x vals hix hRd) fun O₂ s₃ o2 hr => ?_
      have st₃ : St (i + 1) s₃.heap := T.frame _ _ _ st' fun b hb o e => (hr b (hfp b hb).1.2.1).trans e
      have hX₃ : ∀ b, (X b ∨ b ∈ wr) → ∃ o, s₃.heap.get? b = some o := fun b h => by
        rcases h with h | h
        · obtain ⟨oo, e⟩ := hX b h
          obtain ⟨o', e'⟩ := o₀.dom b oo e
          exact o2.dom b o' e'
        · exact T.has _ _ st₃ b (T.sub b h)
      rcases loopF_cons hl with ⟨⟨σ₃, bx₃⟩, e2, h2⟩ | ⟨t₂, v, e2, rfl⟩
      · refine wpAny_mono (ha F o2.st hX₃ hm e2 _) (fun f s₄ d => ?_) fun _ _ z => z
        obtain ⟨rfl, O₄, o4⟩ := d
        refine ⟨items.length - (i + 1), by (first | lia | omega), ?_⟩
        rw [hInv]
        refine ⟨i + 1, σ₃, O₄, bx₃, o2.trans (o4.moreW fun b h => h.elim), ?_, rfl, hlt, h2⟩
        refine T.frame _ _ _ st₃ fun b hb ob e => o4.mod b ob (hfp b hb).1.1 (hfp b hb).1.2.1 (fun h => h) (fun j hj hj' => ?_) e
        rcases o2.own j b hj' with h | h
        · exact (hfp b hb).1.2.2 j hj h
        · obtain ⟨oo, e'⟩ := (hfp b hb).2
          rw [h] at e'; first | exact nn e' | cases e'
      · refine wpAny_mono (ha F o2.st hX₃ hm e2 _) (fun f s₄ d => ?_) fun _ _ z => z
        obtain ⟨val, rfl, h3, h4⟩ := d
        exact hQ _ _ ⟨val, rfl, (o₀.trans o2).shape.trans h3, h4⟩
    · obtain ⟨v, rfl, h₁⟩ := h₁
      exact h₁
  · have hie : i = items.length := by (first | lia | omega)
    subst hie
    rw [List.drop_length] at hl
    cases hl
    exact T.done s' _ _ st fun h' tk hk => wpAny_execs_nil (hQ _ _ ⟨rfl, O', finish o h' tk hk⟩)

theorem slot_lt (F : FrOk A hB h₀ k env nm gs cs ls B) (S : StOk h₀ env nm B M X σ O bx s) {b : Addr} (nb : ¬ isBx B b) (e : s.heap.get? b = none) : ¬ isBx B b ∧ ¬ slot env nm b ∧ ∀ i ∈ mt, O i ≠ some b := by
  refine ⟨nb, fun h => ?_, fun i _ h => ?_⟩
  · obtain ⟨o, e'⟩ := slot_has F S h; rw [e] at e'; first | exact nn e' | cases e'
  · obtain ⟨l, _, il, _⟩ := own_has S h
    obtain ⟨o, e'⟩ := il.has
    rw [e] at e'; first | exact nn e' | cases e'

theorem var_list (S : StOk h₀ env nm B M X σ O bx s) {y : Nat} {l : List Int} (hgt : gt σ y = some (.il l)) (hy : mt.contains y = false) :
    ∃ xn a, nm[y]? = some xn ∧ RdAt B env s.heap xn (.ref a) ∧ IntL s.heap a l ∧ ¬ isBx B a ∧ ¬ slot env nm a ∧ ∀ i ∈ mt, O i ≠ some a := by
  obtain ⟨_, xn, val, hx, hr, hv⟩ := S.vals y _ hgt
  cases ho : O y with
  | some a =>
    rw [ho] at hv
    obtain ⟨rfl, l', e, il⟩ := hv
    cases e
    obtain ⟨_, _, h3, h4, _⟩ := S.own y a ho
    refine ⟨xn, a, hx, hr, il, h3, h4, fun i hi h => ?_⟩
    have e := S.inj i y a h ho
    subst e
    have : mt.contains i = true := by simpa using hi
    rw [this] at hy; first | exact nn hy | cases hy
  | none =>
    rw [ho] at hv
    obtain ⟨a, rfl, g, il⟩ := hv
    exact ⟨xn, a, hx, hr, il, fun h => g.1 (.inl h), fun h => g.1 (.inr (.inl h)), fun i _ h => g.1 (.inr (.inr ⟨i, h⟩))⟩

theorem binds_int {x : Nat} {xn : Str} (hx : nm[x]? = some xn) {l : List Int} (i : Nat) (n : Int) (vals : List Value) (hi : l[i]? = some n) (hr : intR l i vals) : Binds nm B [xn] vals [(x, .int n)] := by
  obtain ⟨t, rfl⟩ := hr
  refine .one hx rfl fun h U => ⟨t, ?_⟩
  rw [List.getD_eq_getElem?_getD, hi]; rfl
theorem binds_pair {x y : Nat} {xn yn : Str} (hx : nm[x]? = some xn) (hy : nm[y]? = some yn) {l : List (Int × Int)} (i : Nat) (p : Int × Int) (vals : List Value) (hi : l[i]? = some p) (hr : pairR l i vals) : Binds nm B [xn, yn] vals [(x, .int p.1), (y, .int p.2)] := by
  obtain ⟨p', t, u, hp, rfl⟩ := hr
  rw [hi] at hp; first | exact nn hp | cases hp
  exact .two hx rfl (fun h U => ⟨t, rfl⟩) hy rfl fun h U => ⟨u, rfl⟩

theorem sound_for1 {x : Nat} {src : NN.E} {a : S} (hs : SoundE prog w hB k P src) (ha : SoundS prog w hB k P N M a) : SoundS prog w hB k P N M (.for1 x src a) := fun {A h₀ env nm gs cs ls B X σ O bx s r ps} F S hX hm he E => by
  refine on1_e hm fun st hm => onFor_e hm fun t it p q pos hm => onNil_e hm fun hm => ?_
  obtain ⟨m1, m2, m3⟩ := and3 hm
  refine isTgt_e m1 fun xn px hx => ?_
  obtain ⟨l, b, e1, hc, he⟩ := ex_for1 he
  have go : ∀ {fr : Bool} {u : V} (it' : Value) {s₁ s₂ : Shared}, Post B s fr u b it' s₁ → ∀ itv, Kp none s₁ s₂ → Ready prog w A (.Name xn px) [xn] l.length (intR l) (fun b => ¬ isBx B b ∧ ¬ slot env nm b ∧ ∀ i ∈ a.mut, O i ≠ some b) (fun b => ¬ isBx B b ∧ s.heap.get? b = none) itv s₂.heap →
      codeAny (model prog w) A (.forLoop (.Name xn px) itv p [] env) (fun res s' => ∃ f, res = .ok f ∧ Done h₀ env nm B M X noW a.mut O s r f s') s₂ := by
    intro _ _ it' s₁ s₂ p₁ itv q₂ rd
    exact for_go (bs := fun n => [(x, .int n)]) ha F S hX m3 (p₁.1.trans (q₂.none B)) (p₁.2.1.keeps fun b o e => q₂.get e) rd (fun i n vals hi hr => binds_int hx i n vals hi hr) he fun f s' d => ⟨f, rfl, d⟩
  rcases e1 with e1 | e1
  · refine one (wpAny_For (wpAny_mono ((hs (S.cx F) m2 e1).1 E) (fun val s₁ p₁ => ?_) fun _ _ z => z) (folded_ok m2 env))
    have p₁' := p₁
    obtain ⟨q, hb, a', rfl, g, il⟩ := p₁
    refine iter_ints xn px (G := fun b => ¬ isBx B b ∧ ¬ slot env nm b ∧ ∀ i ∈ a.mut, O i ≠ some b) (H := fun b => ¬ isBx B b ∧ s.heap.get? b = none) F.room.hd (slot_lt F S g.1 (g.2 hc)) (slot_lt F S (fresh_at hb (size_none _)) (fresh_old q (fresh_at hb (size_none _)) (size_none _)))
      ⟨fresh_at hb (size_none _), fresh_old q (fresh_at hb (size_none _)) (size_none _)⟩ il fun it s₂ q₂ rd => ?_
    exact codeAny_mono (go _ p₁' it q₂ rd) fun res s' ⟨f, e, d⟩ => by subst e; exact d
  · refine one (wpAny_For (wpAny_mono ((hs (S.cx F) m2 e1).1 E) (fun val s₁ p₁ => ?_) fun _ _ z => z) (folded_ok m2 env))
    have p₁' := p₁
    obtain ⟨q, hb, rp⟩ := p₁
    refine iter_rng xn px (G := fun b => ¬ isBx B b ∧ ¬ slot env nm b ∧ ∀ i ∈ a.mut, O i ≠ some b) (H := fun b => ¬ isBx B b ∧ s.heap.get? b = none) F.room.hd (slot_lt F S (fresh_at hb (size_none _)) (fresh_old q (fresh_at hb (size_none _)) (size_none _)))
      ⟨fresh_at hb (size_none _), fresh_old q (fresh_at hb (size_none _)) (size_none _)⟩ rp fun it s₂ q₂ rd => ?_
    exact codeAny_mono (go _ p₁' it q₂ rd) fun res s' ⟨f, e, d⟩ => by subst e; exact d

theorem not_set_name {p : Expr} {i : Nat} (h : isVar nm i p = true) (env : Env) (x : Value) : foldedSetIterable p env x = pure x := by
  exact isVar_e (C := fun p => foldedSetIterable p env x = pure x) h fun _ _ _ _ => rfl

theorem eval_at {p : Expr} {i : Nat} {a : Value} {xn : Str} {A' : Around} (hk : env.scope.kind = .function) (hn : nm[i]? = some xn) (hr : RdAt B env s.heap xn a) (hm : isVar nm i p = true) {Q : Value → Shared → Prop} (h : Q a s) : wpAny (model prog w) A' (eval p env) Q E s := by
  refine isVar_e hm fun y pos hy hd => ?_
  rw [hy] at hn; first | exact nn hn | cases hn
  exact wpAny_Name (rd_load hk hr h) hd

theorem sound_forV {x y : Nat} {a : S} (ha : SoundS prog w hB k P N M a) : SoundS prog w hB k P N M (.forV x y a) := fun {A h₀ env nm gs cs ls B X σ O bx s r ps} F S hX hm he E => by
  refine on1_e hm fun st hm => onFor_e hm fun t it p q pos hm => onNil_e hm fun hm => ?_
  obtain ⟨m1, m2, m3⟩ := and3 hm
  refine isTgt_e m1 fun xn px hx => ?_
  obtain ⟨l, hgt, hc, he⟩ := ex_forV he
  obtain ⟨yn, a', hy, hr, il, n1, n2, n3⟩ := var_list (mt := a.mut) S hgt hc
  refine one (wpAny_For (eval_at F.ok.kind hy hr m2 ?_) (not_set_name m2 env))
  have nz := fresh_at S.box (size_none s.heap)
  refine iter_ints xn px (G := fun b => ¬ isBx B b ∧ ¬ slot env nm b ∧ ∀ i ∈ a.mut, O i ≠ some b) (H := fun b => ¬ isBx B b ∧ s.heap.get? b = none) F.room.hd ⟨n1, n2, n3⟩ (slot_lt F S nz (size_none _)) ⟨nz, size_none _⟩ il fun it s₂ q₂ rd => ?_
  exact for_go (bs := fun n => [(x, .int n)]) ha F S hX m3 (q₂.none B) (S.box.keeps fun b o e => q₂.get e) rd (fun i n vals hi hr => binds_int hx i n vals hi hr) he fun f s' d => d

theorem star_var' {i : Nat} {p : Expr} (h : isVar nm i p = true) (r : List Expr) (env : Env) : starEach (p :: r) env = (false, eval p env) :: starEach r env := star_var h r env

theorem sound_forZ (bs : Base hB fnA) {x y l₁ l₂ : Nat} {a : S} (ha : SoundS prog w hB k P N M a) : SoundS prog w hB k P N M (.forZ x y l₁ l₂ a) := fun {A h₀ env nm gs cs ls B X σ O bx s r ps} F S hX hm he E => by
  refine on1_e hm fun st hm => onFor_e hm fun t it p q pos hm => onNil_e hm fun hm => onTup_e hm fun us kk tp hm => on2_e hm fun t u hm => fnCall_e hm fun _ as pc g1 g2 hm => on2_e hm fun b c hm => ?_
  obtain ⟨m1, m2, m4, m5, m6⟩ := and5 hm
  refine isTgt_e m1 fun xn px hx => isTgt_e m2 fun yn py hy => ?_
  obtain ⟨l, r', hg1, hg2, c1, c2, he⟩ := ex_forZ he
  obtain ⟨n1, a1, hn1, hr1, il1, b1, d1, f1⟩ := var_list (mt := a.mut) S hg1 c1
  obtain ⟨n2, a2, hn2, hr2, il2, b2, d2, f2⟩ := var_list (mt := a.mut) S hg2 c2
  have C := S.cx F
  refine one (wpAny_For (call_go (hB := hB) (f := .type "zip") (.inr (.inl ⟨_, rfl⟩)) rfl (fun Q' h => nm_blt bs C g1 g2 (by simp) h) (star_var m4 _ _) (by rw [star_var m5]; rfl) ?_) fun _ => rfl)
  refine wpAny_items_cons (eval_at F.ok.kind hn1 hr1 m4 (wpAny_items_cons (eval_at F.ok.kind hn2 hr2 m5 (wpAny_items_nil ⟨C.base, ?_⟩)) (star_var m5 _ _))) (star_var m4 _ _)
  refine zip_any (G := fun b => ¬ isBx B b ∧ s.heap.get? b = none) (fun c e => ⟨fresh_at S.box e, e⟩) il1 il2 fun z s₂ q hz => ?_
  have rd := zip_ready (prog := prog) (w := w) (A := A) xn yn tp px py kk (G := fun b => ¬ isBx B b ∧ ¬ slot env nm b ∧ ∀ i ∈ a.mut, O i ≠ some b) F.room.hd hz (fun b h => slot_lt F S h.1 h.2) ⟨b1, d1, f1⟩ ⟨b2, d2, f2⟩ (il1.at fun o e => q.get e) (il2.at fun o e => q.get e)
  refine isIter_of_ready rd ?_
  exact for_go (α := Int × Int) (bs := fun p : Int × Int => [(x, .int p.1), (y, .int p.2)]) ha F S hX m6 (q.none B) (S.box.keeps fun b o e => q.get e) rd (fun i n vals hi hr => binds_pair hx hy i n vals hi hr) he fun f s' d => d

theorem sound_forN (bs : Base hB fnA) {x y l₁ : Nat} {a : S} (ha : SoundS prog w hB k P N M a) : SoundS prog w hB k P N M (.forN x y l₁ a) := fun {A h₀ env nm gs cs ls B X σ O bx s r ps} F S hX hm he E => by
  refine on1_e hm fun st hm => onFor_e hm fun t it p q pos hm => onNil_e hm fun hm => onTup_e hm fun us kk tp hm => on2_e hm fun t u hm => fnCall_e hm fun _ as pc g1 g2 hm => on1_e hm fun b hm => ?_
  obtain ⟨m1, m2, m4, m6⟩ := and4 hm
  refine isTgt_e m1 fun xn px hx => isTgt_e m2 fun yn py hy => ?_
  obtain ⟨l, hg1, c1, he⟩ := ex_forN he
  obtain ⟨n1, a1, hn1, hr1, il1, b1, d1, f1⟩ := var_list (mt := a.mut) S hg1 c1
  have C := S.cx F
  refine one (wpAny_For (call_go (hB := hB) (f := .type "enumerate") (.inr (.inl ⟨_, rfl⟩)) rfl (fun Q' h => nm_blt bs C g1 g2 (by simp) h) (star_var m4 _ _) rfl ?_) fun _ => rfl)
  refine wpAny_items_cons (eval_at F.ok.kind hn1 hr1 m4 (wpAny_items_nil ⟨C.base, ?_⟩)) (star_var m4 _ _)
  refine enum_any (G := fun b => ¬ isBx B b ∧ s.heap.get? b = none) (fun c e => ⟨fresh_at S.box e, e⟩) il1 fun z s₂ q hz => ?_
  have rd := enum_ready (prog := prog) (w := w) (A := A) xn yn tp px py kk (G := fun b => ¬ isBx B b ∧ ¬ slot env nm b ∧ ∀ i ∈ a.mut, O i ≠ some b) F.room.hd hz (fun b h => slot_lt F S h.1 h.2) ⟨b1, d1, f1⟩ (il1.at fun o e => q.get e)
  refine isIter_of_ready rd ?_
  exact for_go (α := Int × Int) (bs := fun p : Int × Int => [(x, .int p.1), (y, .int p.2)]) ha F S hX m6 (q.none B) (S.box.keeps fun b o e => q.get e) rd (fun i n vals hi hr => binds_pair hx hy i n vals hi hr) he fun f s' d => d

/-- an asgC is of a comprehension (else it does not match) -/
theorem sound_asgC' {x : Nat} {e : NN.E} (h : ∀ e, SoundE prog w hB k P e) : SoundS prog w hB k P N M (.asgC x e) := fun {A h₀ env nm gs cs ls B X σ O bx s r ps} F S hX hm he E => by
  have hlc : isComp e = true :=
    on1_e (C := fun _ => isComp e = true) hm fun p hm => onAsg_e (C := fun _ => isComp e = true) hm fun ts v pos hm => on1_e (C := fun _ => isComp e = true) hm fun t hm => onName_e (C := fun _ => isComp e = true) hm fun y py hm => (and4 hm).2.1
  obtain ⟨rw, two, src, cond, elt, caps, rfl⟩ := lc_comp hlc
  exact sound_asgC (h _) (h _) (h _) F S hX hm he E

theorem sound_all_S (bs : Base hB fnA) (hF : FnsOk prog w hB fnA k P) (st : S) : SoundS prog w hB k P N M st := by
  have hE : ∀ e, SoundE prog w hB k P e := sound_all_E bs hF
  induction st with
  | skip => exact sound_skip
  | seq a b h1 h2 => exact sound_seq h1 h2
  | asg x e => exact sound_asg (hE e)
  | asgC x e => exact sound_asgC' hE
  | asg2 x y e₁ e₂ => exact sound_asg2 (hE _) (hE _)
  | asg3 x y z e₁ e₂ e₃ => exact sound_asg3 (hE _) (hE _) (hE _)
  | aug x o e => exact sound_aug (hE _)
  | setI x i e => exact sound_setI (hE _) (hE _)
  | augI x i o e => exact sound_augI (hE _) (hE _)
  | app x e => exact sound_app (hE _)
  | pop x => exact sound_pop
  | setB x e => exact sound_setB (hE _)
  | ite c a b h1 h2 => exact sound_ite (hE _) h1 h2
  | «while» c a h1 => exact sound_while (hE _) h1
  | for1 x src a h1 => exact sound_for1 (hE _) h1
  | forV x y a h1 => exact sound_forV h1
  | forZ x y l r a h1 => exact sound_forZ bs h1
  | forN x y l a h1 => exact sound_forN bs h1
  | ret e => exact sound_ret (hE _)
  | stuck =>
    intro A h₀ env nm gs cs ls B X σ O bx s r ps F S hX hm he E
    cases he
end
end NN

/-! calls of the text's defs: from the tree to the contract -/
namespace NN
open PySem PySem.W PyProof.Rows PySem.Calls

noncomputable def csOf (sc : Scope) (x : Str) : Bool := decide (sc.names.lookup x = some .cell)
noncomputable def lsOf (sc : Scope) (x : Str) : Bool := decide (sc.names.lookup x = some .local)
noncomputable def cellNames (sc : Scope) : List Str := (cellsFrom 0 sc.names []).map (·.1)

/-- a def's names: what they are, and that the first are its parameters -/
noncomputable def fitsFn (d : DefRec) (nm ps : List Str) : Bool :=
  decide (d.scope.kind = .function) && !d.scope.isCoroutine && !d.scope.isGenerator && decide nm.Nodup && decide (ps = nm.take ps.length) &&
  nm.all (fun x => lsOf d.scope x || (csOf d.scope x && (cellNames d.scope).contains x)) && d.scope.names.all (fun p => !csOf d.scope p.1 || (cellNames d.scope).contains p.1)

theorem cellsFrom_fst (names : List (Str × NameKind)) (n : Nat) : ∀ (m : Nat) (acc acc' : List (Str × Addr)), acc.map (·.1) = acc'.map (·.1) → (cellsFrom m names acc).map (·.1) = (cellsFrom n names acc').map (·.1) := fun m acc acc' h =>
  cellsFrom_names names m n acc acc' h

theorem lookup_of_fst {α : Type} : ∀ {l : List (Str × α)} {x : Str}, x ∈ l.map (·.1) → ∃ c, l.lookup x = some c
  | (k, v) :: r, x, h => by
    rw [List.lookup_cons]
    cases hb : x == k with
    | true => exact ⟨v, rfl⟩
    | false =>
      rw [List.map_cons] at h
      rcases List.mem_cons.mp h with e | h
      · rw [e] at hb; simp at hb
      · exact lookup_of_fst h

theorem bindL_skip (kf : Str → Option NameKind) : ∀ (l : List (Str × Value)) (m : Str → Option Value) (x : Str), x ∉ l.map (·.1) → bindL kf l m x = m x
  | [], _, _, _ => rfl
  | (n, v) :: r, m, x, h => by
    rw [List.map_cons, List.mem_cons, not_or] at h
    unfold bindL
    rw [bindL_skip kf r _ x h.2]
    split
    · exact if_neg h.1
    · rfl
theorem bindL_get (kf : Str → Option NameKind) : ∀ (l : List (Str × Value)) (m : Str → Option Value) (x : Str) (v : Value), (l.map (·.1)).Nodup → (x, v) ∈ l → kf x = some .local → bindL kf l m x = some v := fun l => by
  induction l with
  | nil => exact fun m x v hn h _ => nomatch h
  | cons p r ih =>
    obtain ⟨n, u⟩ := p
    intro m x v hn h hk
    rw [List.map_cons, List.nodup_cons] at hn
    unfold bindL
    rcases List.mem_cons.mp h with e | h
    · first | exact nn e | cases e
      rw [bindL_skip kf r _ _ hn.1, if_pos hk]
      simp
    · exact ih _ x v hn.2 h hk
theorem bindC_skip (kf : Str → Option NameKind) : ∀ (l : List (Str × Value)) (m : Str → Option Value) (x : Str), x ∉ l.map (·.1) → bindC kf l m x = m x
  | [], _, _, _ => rfl
  | (n, v) :: r, m, x, h => by
    rw [List.map_cons, List.mem_cons, not_or] at h
    unfold bindC
    rw [bindC_skip kf r _ x h.2]
    split
    · rfl
    · exact if_neg h.1
theorem bindC_get (kf : Str → Option NameKind) : ∀ (l : List (Str × Value)) (m : Str → Option Value) (x : Str) (v : Value), (l.map (·.1)).Nodup → (x, v) ∈ l → kf x = some .cell → bindC kf l m x = some v := fun l => by
  induction l with
  | nil => exact fun m x v hn h _ => nomatch h
  | cons p r ih =>
    obtain ⟨n, u⟩ := p
    intro m x v hn h hk
    rw [List.map_cons, List.nodup_cons] at hn
    unfold bindC
    rcases List.mem_cons.mp h with e | h
    · first | exact nn e | cases e
      rw [bindC_skip kf r _ _ hn.1, if_neg (by rw [hk]; decide)]
      simp
    · exact ih _ x v hn.2 h hk

theorem gt_args (vs : List V) (n : Nat) (i : Nat) (v : V) (h : gt (vs.map some ++ List.replicate n none) i = some v) : vs[i]? = some v := by
  induction vs generalizing i with
  | nil =>
    exfalso
    have : ∀ (n i : Nat), gt (List.replicate n none) i = none := by
      intro n
      induction n with
      | zero => intro i; rfl
      | succ n ih => intro i; cases i with
        | zero => rfl
        | succ i => exact ih i
    rw [List.map_nil, List.nil_append, this] at h
    cases h
  | cons x r ih =>
    cases i with
    | zero => exact h
    | succ i => exact ih i h

section
variable {prog : Program} {w : PySem.World} {hB : Heap} {fnA : Str → Option Addr} {k N : Nat} {P : Fns} {M : Nat → Bool}

/-- a def made in the base heap -/
structure FnAt (hB : Heap) (d : DefRec) (a : Addr) : Prop where
  at_ : ∃ o pm code doc, hB.get? a = some o ∧ o.data = .func (docDef d.name d.params d.body d.scope pm code doc) ∧ hB.CodeRec code d.name
  nolimit : hB.NoLimit

noncomputable def bindsOk (d : DefRec) (ps : List Str) : Prop := ∀ pm code doc vals, vals.length = ps.length → bindArgs (docDef d.name d.params d.body d.scope pm code doc) ⟨vals, []⟩ = pure (ps.zip vals)

theorem call_setup {d : DefRec} {a : Addr} {nm ps : List Str} (hf : FnAt hB d a) (hfit : fitsFn d nm ps = true) (hbind : bindsOk d ps) {A : Around} {s : Shared} {args : List Value} {R : Result → Shared → Prop} {B : Bxa} {bx : Bx} {vs : List V}
    (room : Room A (k + 2)) (sub : SubH hB s.heap) (bxh : ∀ b, isBx B b → hB.get? b = none) (box : BoxOk B s.heap bx) (hargs : Paired (fun v x => Rep B s.heap (fun b => ¬ isBx B b) v x) vs args) (hlen : vs.length = ps.length)
    (hM : ∀ i l, vs[i]? = some (.il l) → M i = false) (hpr : ∀ v ∈ vs, ∀ l, v ≠ .prs l)
    (h : ∀ env s₁, FrOk (A.deeper env) hB s.heap k env nm (gsOf d.scope) (csOf d.scope) (lsOf d.scope) B → StOk s.heap env nm B M noW (vs.map some ++ List.replicate (nm.length - vs.length) none) (fun _ => none) bx s₁ → shapeOk s s₁ →
      (∀ b o, s.heap.get? b = some o → s₁.heap.get? b = some o) →
      ∀ E : Value → Shared → Prop, wpAny (model prog w) (A.deeper env) (execs d.body env) (fun f s' => R (.ok (.ret (match f with | .ret v => v | _ => .none))) s') E s₁) :
    codeAny (model prog w) A (.call (.ref a) ⟨args, []⟩) R s := by
  obtain ⟨⟨o, pm, code, doc, ho, hd, hcd⟩, hlim⟩ := hf
  simp only [fitsFn, Bool.and_eq_true, Bool.not_eq_true', decide_eq_true_iff, List.all_eq_true, Bool.or_eq_true] at hfit
  obtain ⟨⟨⟨⟨⟨⟨f1, f2⟩, f3⟩, f4⟩, f5⟩, f6⟩, f7⟩ := hfit
  have hla : args.length = ps.length := by rw [← hargs.length, hlen]
  have hcell : ∀ n x, csOf d.scope x = true → x ∈ cellNames d.scope → ∃ c, (cellsFrom n d.scope.names []).lookup x = some c := fun n x _ hx =>
    lookup_of_fst (by rw [cellsFrom_fst d.scope.names 0 n [] [] rfl]; exact hx)
  have hnm : ∀ x ∈ nm, d.scope.names.lookup x = some .local ∨ (d.scope.names.lookup x = some .cell ∧ x ∈ cellNames d.scope) := fun x hx => by
    rcases f6 x hx with h | h
    · exact .inl (of_decide_eq_true h)
    · exact .inr ⟨of_decide_eq_true h.1, by simpa using h.2⟩
  have hsub : ∀ x ∈ ps, x ∈ nm := fun x hx => by rw [f5] at hx; exact List.mem_of_mem_take hx
  have hroom : A.depth < recursionLimit := by have := room.depth; show A.depth < 1000; (first | lia | omega)
  refine codeAny_call_cells (fd := docDef d.name d.params d.body d.scope pm code doc) (body := d.body) (binds := ps.zip args) hroom (sub _ _ ho) hd (hlim.keeps sub) (hcd.keeps sub) rfl (hbind pm code doc args hla) rfl (fun x hx => ?_) (fun s₁ I => ?_) f2 f3 f1
  · have hx1 : x.1 ∈ ps := (List.of_mem_zip (a := x.1) (b := x.2) hx).1
    rcases hnm x.1 (hsub _ hx1) with h | ⟨h, h2⟩
    · exact .inl h
    · obtain ⟨c, hc⟩ := hcell (s.heap.objs.size + 1) x.1 (decide_eq_true h) h2
      refine .inr ⟨h, ?_⟩
      show ((cellsFrom (s.heap.objs.size + 1) d.scope.names []).lookup x.1).isSome = true
      rw [hc]; rfl
  · generalize henv : callEnvC (docDef d.name d.params d.body d.scope pm code doc) s.heap.objs.size a = env at I ⊢
    have esc : env.scope = d.scope := by rw [← henv]; rfl
    have ekind : ∀ x, env.kindOf x = d.scope.names.lookup x := fun x => by show env.scope.names.lookup x = _; rw [esc]
    have ecells : env.cells = cellsFrom (s.heap.objs.size + 1) d.scope.names [] := by rw [← henv]; rfl
    have eloc : env.locals = s.heap.objs.size := by rw [← henv]; rfl
    have sl : ∀ b, slot env nm b → s.heap.objs.size ≤ b := fun b hb => by
      rcases hb with rfl | ⟨x, _, _, hc⟩
      · exact Nat.le_of_eq eloc.symm
      · have := I.above x b (mem_of_lookup hc)
        rw [eloc] at this
        exact Nat.le_of_lt this
    have slN : ∀ b, slot env nm b → s.heap.get? b = none := fun b hb => by
      cases e : s.heap.get? b with
      | none => rfl
      | some o => exact absurd (Heap.lt_size e) (Nat.not_lt.mpr (sl b hb))
    have F : FrOk (A.deeper env) hB s.heap k env nm (gsOf d.scope) (csOf d.scope) (lsOf d.scope) B := {
      room := ⟨room.hd, by have := room.depth; show A.depth + 1 + (k + 1) < 900; (first | lia | omega), by have := room.units; show A.units + 3 + 10 * (k + 1) < 9800; (first | lia | omega)⟩
      ok := ⟨by rw [esc]; exact f1, by rw [← henv]; rfl, by rw [← henv]; rfl⟩
      hgs := fun x hx => by rw [ekind]; exact of_decide_eq_true hx
      hcs := fun x hx => by
        refine ⟨by rw [ekind]; exact of_decide_eq_true hx, ?_⟩
        rw [ecells]
        refine hcell _ x hx ?_
        have hm := mem_of_lookup (of_decide_eq_true hx : d.scope.names.lookup x = some .cell)
        rcases f7 _ hm with h | h
        · dsimp only at h; rw [hx] at h; first | exact nn h | cases h
        · simpa using h
      hls := fun x hx => by rw [ekind]; exact of_decide_eq_true hx
      nodup := f4
      kinds := fun x hx => by
        rw [ekind]
        rcases hnm x hx with h | ⟨h, h2⟩
        · exact .inl h
        · exact .inr ⟨h, by rw [ecells]; exact hcell _ x (decide_eq_true h) h2⟩
      inj := fun x y c hx hy => name_of_addr I.apart (mem_of_lookup hx) (mem_of_lookup hy)
      apart := fun x c hx e => by
        have := I.above x c (mem_of_lookup hx)
        rw [e] at this; exact Nat.lt_irrefl _ this
      fresh := slN
      nbx := fun b hb hx => by
        obtain ⟨o, e⟩ := box.has hx
        rw [slN b hb] at e; first | exact nn e | cases e
      base := sub
      bxh := bxh }
    obtain ⟨h₁, tk, hs₁, hk⟩ := I.done
    have hk' : ∀ b o, s.heap.get? b = some o → s₁.heap.get? b = some o := I.toInCall.keep
    refine h env s₁ F ?_ ⟨h₁, tk, hs₁⟩ hk' _
    refine ⟨fun b o _ e => hk' b o e, box.keeps hk', ⟨_, I.toInCall.ns⟩, fun x hx hkd c hc => ⟨_, I.cell x c hc⟩, ?_, fun i v hv => ?_, (fun _ _ e => by cases e), (fun _ _ _ e => by cases e), fun i l hm hv => ?_, fun _ _ h => h⟩
    · have : vs.length ≤ nm.length := by
        rw [hlen, f5, List.length_take]; exact Nat.min_le_right _ _
      simp only [List.length_append, List.length_map, List.length_replicate]
      (first | lia | omega)
    · have hvi := gt_args vs _ i v hv
      have hil : i < vs.length := (List.getElem?_eq_some_iff.mp hvi).1
      obtain ⟨val, hval, rep⟩ := paired_get hargs i v hvi
      have hip : i < ps.length := by (first | lia | omega)
      have hxi : ps[i]? = some ps[i] := List.getElem?_eq_getElem hip
      have hni : nm[i]? = some ps[i] := by
        have : (nm.take ps.length)[i]? = some ps[i] := by rw [← f5]; exact hxi
        rw [List.getElem?_take_of_lt hip] at this
        exact this
      generalize ps[i] = x at hxi hni
      have hmem : (x, val) ∈ ps.zip args := List.mem_of_getElem? (i := i) (by rw [List.getElem?_zip_eq_some]; exact ⟨hxi, hval⟩)
      have hnd : ((ps.zip args).map (·.1)).Nodup := by
        rw [List.map_fst_zip (Nat.le_of_eq hla.symm), f5]
        exact List.Nodup.sublist (List.take_sublist _ _) f4
      refine ⟨hpr v (List.mem_of_getElem? hvi), x, val, hni, ?_, ?_⟩
      · rcases hnm x (List.mem_of_getElem? hni) with h | ⟨h, h2⟩
        · refine .inl ⟨by rw [ekind]; exact h, ⟨_, I.toInCall.ns, ?_⟩, F.nbx _ (.inl rfl)⟩
          exact bindL_get _ _ _ x val hnd hmem (by rw [ekind]; exact h)
        · obtain ⟨c, hc⟩ := hcell (s.heap.objs.size + 1) x (decide_eq_true h) h2
          rw [← ecells] at hc
          refine .inr ⟨c, by rw [ekind]; exact h, hc, ?_, F.nbx _ (.inr ⟨x, List.mem_of_getElem? hni, by rw [ekind]; exact h, hc⟩)⟩
          have := I.cell x c hc
          rw [bindC_get _ _ _ x val hnd hmem (by rw [ekind]; exact h)] at this
          exact this
      · refine rep.keeps (hpr v (List.mem_of_getElem? hvi)) (fun b o _ e => hk' b o e) fun b g ho => ⟨fun hf => ?_, fun h => h⟩
        rcases hf with hf | hf | ⟨j, hj⟩
        · exact g hf
        · obtain ⟨o, e⟩ := ho
          rw [slN b hf] at e; first | exact nn e | cases e
        · first | exact nn hj | cases hj
    · have := hM i l (gt_args vs _ i _ hv)
      rw [this] at hm; first | exact nn hm | cases hm

theorem call_run (bs : Base hB fnA) (hF : FnsOk prog w hB fnA k P) {d : DefRec} {a : Addr} {nm ps : List Str} {st : S} (hf : FnAt hB d a) (hfit : fitsFn d nm ps = true) (hbind : bindsOk d ps)
    (hm : mS nm (gsOf d.scope) (csOf d.scope) (lsOf d.scope) st d.body = true) {B : Bxa} {bx bx' : Bx} {vs : List V} {σ' : Ev} {r : V} (hlen : vs.length = ps.length)
    (hM : ∀ i l, vs[i]? = some (.il l) → M i = false) (hpr : ∀ v ∈ vs, ∀ l, v ≠ .prs l)
    (hex : execS P N M st (vs.map some ++ List.replicate (nm.length - vs.length) none, bx) = some ((σ', bx'), .ret r))
    {A : Around} {s : Shared} {args : List Value} {R : Result → Shared → Prop} (room : Room A (k + 2)) (sub : SubH hB s.heap) (bxh : ∀ b, isBx B b → hB.get? b = none) (box : BoxOk B s.heap bx)
    (hargs : Paired (fun v x => Rep B s.heap (fun b => ¬ isBx B b) v x) vs args)
    (hR : ∀ val s', Kp B s s' → BoxOk B s'.heap bx' → Rep B s'.heap (fun b => ¬ isBx B b ∧ s.heap.get? b = none) r val → R (.ok (.ret val)) s') :
    codeAny (model prog w) A (.call (.ref a) ⟨args, []⟩) R s := by
  refine call_setup (nm := nm) (M := M) hf hfit hbind room sub bxh box hargs hlen hM hpr fun env s₁ F S sh hk E => ?_
  refine wpAny_mono (sound_all_S bs hF st F S (fun _ h => h.elim) hm hex E) (fun f s' dn => ?_) fun _ _ z => z
  obtain ⟨val, rfl, h1, h2, h3, h4⟩ := dn
  exact hR val s' ⟨sh.trans h1, h2⟩ h3 h4

theorem contract_of (bs : Base hB fnA) (hF : FnsOk prog w hB fnA k P) {d : DefRec} {a : Addr} {nm ps : List Str} {st : S} (hf : FnAt hB d a) (hfit : fitsFn d nm ps = true) (hbind : bindsOk d ps)
    (hm : mS nm (gsOf d.scope) (csOf d.scope) (lsOf d.scope) st d.body = true) {vs : List V} {σ' : Ev} {bx' : Bx} {r : V} (hlen : vs.length = ps.length)
    (hM : ∀ i l, vs[i]? = some (.il l) → M i = false) (hpl : ∀ v ∈ vs, plainV v = true)
    (hex : execS P N M st (vs.map some ++ List.replicate (nm.length - vs.length) none, none) = some ((σ', bx'), .ret r)) : Contract prog w hB (k + 2) a vs r := fun A s args R room sub hargs hR =>
  call_run (B := none) bs hF hf hfit hbind hm hlen hM (fun v hv l e => by have := hpl v hv; rw [e] at this; cases this) hex room sub (fun b h => absurd h (isBx_none b)) rfl
    (Paired.mono' (fun _ _ h => h.weaken fun b _ => isBx_none b) hargs) fun val s' q _ h4 => hR val s' q (h4.weaken fun b g => g.2)

theorem contractB_of (bs : Base hB fnA) (hF : FnsOk prog w hB fnA k P) {d : DefRec} {a : Addr} {nm ps : List Str} {st : S} (hf : FnAt hB d a) (hfit : fitsFn d nm ps = true) (hbind : bindsOk d ps)
    (hm : mS nm (gsOf d.scope) (csOf d.scope) (lsOf d.scope) st d.body = true) {m : Int} {bx bx' : List Int × Int} {σ' : Ev} {r : V} (hlen : ps.length = 2)
    (hex : execS P N M st ([some .box, some (.int m)] ++ List.replicate (nm.length - 2) none, some bx) = some ((σ', some bx'), .ret r)) : ContractB prog w hB (k + 2) a m bx r bx' := fun A B s p t R room sub hB' box bxh hR =>
  call_run (B := B) (vs := [.box, .int m]) bs hF hf hfit hbind hm hlen.symm (fun i l e => by
      cases i with
      | zero => first | exact nn e | cases e
      | succ i => cases i with
        | zero => first | exact nn e | cases e
        | succ i => cases e) (fun v hv l e => by
      subst e
      rcases List.mem_cons.mp hv with h | h
      · first | exact nn h | cases h
      rcases List.mem_cons.mp h with h | h
      · first | exact nn h | cases h
      cases h) hex room sub bxh box (.cons ⟨p, hB', rfl⟩ (.cons ⟨t, rfl⟩ .nil)) hR

theorem Contract.le {k' : Nat} {a : Addr} {vs : List V} {r : V} (h : Contract prog w hB k a vs r) (hk : k ≤ k') : Contract prog w hB k' a vs r := fun A s args R room => h A s args R (room.le hk)
theorem ContractB.le {k' : Nat} {a : Addr} {m : Int} {bx bx' : List Int × Int} {r : V} (h : ContractB prog w hB k a m bx r bx') (hk : k ≤ k') : ContractB prog w hB k' a m bx r bx' := fun A B s p t R room => h A B s p t R (room.le hk)
theorem FnsOk.le {k' : Nat} (h : FnsOk prog w hB fnA k P) (hk : k ≤ k') : FnsOk prog w hB fnA k' P :=
  ⟨fun f vs r e => let ⟨h1, h2, a, h3, h4⟩ := h.fn f vs r e; ⟨h1, h2, a, h3, h4.le hk⟩, fun m bx r bx' e => let ⟨a, h3, h4⟩ := h.take m bx r bx' e; ⟨a, h3, h4.le hk⟩, fun m bx r bx' e => let ⟨a, h3, h4⟩ := h.drawn m bx r bx' e; ⟨a, h3, h4.le hk⟩⟩
end
end NN

/-! the program's defs, as small trees -/
namespace NN
open PySem PySem.W PyProof.Rows PySem.Calls

noncomputable def recs : List DefRec := recsOf PySem.Challenge.rw_nn0013_01.row.prog
noncomputable def theRec (x : Str) : DefRec := (recs.find? fun d => d.name == x).getD ⟨x, { posonlyargs := [], args := [], vararg := none, kwonlyargs := [], kw_defaults := [], kwarg := none, defaults := [] }, [], { kind := .function, names := [], isGenerator := false, isCoroutine := false }, { line := 0, col := 0, endLine := 0, endCol := 0 }⟩

namespace T
noncomputable abbrev v := E.var
noncomputable abbrev i := E.int
noncomputable abbrev add := E.bin .add
noncomputable abbrev sub := E.bin .sub
noncomputable abbrev mul := E.bin .mul
noncomputable abbrev fdiv := E.bin .fdiv
noncomputable abbrev mod := E.bin .mod
noncomputable abbrev shl := E.bin .shl
noncomputable abbrev shr := E.bin .shr
noncomputable abbrev band := E.bin .band
noncomputable abbrev lt := E.cmp .lt
noncomputable abbrev le := E.cmp .le
noncomputable abbrev gt := E.cmp .gt
noncomputable abbrev ge := E.cmp .ge
noncomputable abbrev eq := E.cmp .eq
noncomputable abbrev ne := E.cmp .ne
noncomputable abbrev no := S.ret (.bool false)

noncomputable def normal : S :=
  S.seq (.asg 1 (.len (v 0))) (S.seq (.while (.and (gt (v 1) (i 0)) (eq (.idx (v 0) (sub (v 1) (i 1))) (i 0))) (.aug 1 .sub (i 1))) (.ret (.upto (v 0) (v 1))))
noncomputable def isSmallPrime : S :=
  S.seq (.ite (lt (v 0) (i 2)) no .skip) (S.seq (.asg 1 (i 2)) (S.seq (.while (le (mul (v 1) (v 1)) (v 0)) (S.seq (.ite (eq (mod (v 0) (v 1)) (i 0)) no .skip) (.aug 1 .add (i 1)))) (.ret (.bool true))))
noncomputable def primeFor : S :=
  S.seq (.asg 2 (add (sub (v 1) (mod (v 1) (v 0))) (i 1))) (S.seq (.while (.or (le (v 2) (v 1)) (.not (.call1 "is_small_prime" (v 2)))) (.aug 2 .add (v 0))) (.ret (v 2)))
noncomputable def primesFor : S :=
  S.seq (.asg 3 (.lit [])) (S.seq (.asg 4 (i 1)) (S.seq (.while (le (v 4) (v 2)) (S.seq (.asg 1 (.call2 "prime_for" (v 0) (v 1))) (S.seq (.app 3 (v 1)) (.aug 4 .mul (v 1))))) (.ret (v 3))))
noncomputable def plainPower : S :=
  S.seq (.asg 3 (mod (i 1) (v 2))) (S.seq (.while (gt (v 1) (i 0)) (S.seq (.ite (eq (mod (v 1) (i 2)) (i 1)) (.asg 3 (mod (mul (v 3) (v 0)) (v 2))) .skip) (S.seq (.asg 0 (mod (mul (v 0) (v 0)) (v 2))) (.aug 1 .fdiv (i 2))))) (.ret (v 3)))
noncomputable def rootOfUnity : S :=
  S.seq (.ite (ne (mod (sub (v 1) (i 1)) (v 0)) (i 0)) .stuck .skip) (S.seq (.ite (eq (v 0) (i 1)) (.ret (i 1)) .skip) (S.seq (.asg 2 (i 2)) (S.seq (.while (ne (.call3 "plain_power" (v 2) (fdiv (sub (v 1) (i 1)) (i 2)) (v 1)) (sub (v 1) (i 1))) (.aug 2 .add (i 1))) (.ret (.call3 "plain_power" (v 2) (fdiv (sub (v 1) (i 1)) (v 0)) (v 1))))))
noncomputable def powersOf : S :=
  S.seq (.asg 3 (.lst1 (mod (i 1) (v 2)))) (S.seq (.while (lt (.len (v 3)) (v 1)) (.app 3 (mod (mul (.idx (v 3) (sub (.len (v 3)) (i 1))) (v 0)) (v 2)))) (.ret (.upto (v 3) (v 1))))
/-- row root p found half steps begin at one other -/
noncomputable def fwdIn : S :=
  S.seq (.asg2 8 9 (.idx (v 3) (add (v 6) (v 7))) (.idx (v 3) (add (add (v 6) (v 7)) (v 4)))) (S.seq (.setI 3 (add (v 6) (v 7)) (mod (add (v 8) (v 9)) (v 2))) (.setI 3 (add (add (v 6) (v 7)) (v 4)) (mod (mul (sub (v 8) (v 9)) (.idx (v 5) (v 7))) (v 2))))
noncomputable def forward : S :=
  S.seq (.asgC 3 (.comp false false (v 0) (.bool true) (mod (v 0) (v 1)) [2])) (S.seq (.asg 4 (fdiv (.len (v 0)) (i 2))) (S.seq (.while (gt (v 4) (i 0)) (S.seq (.asg 5 (.call3 "powers_of" (v 1) (v 4) (v 2))) (S.seq (.for1 6 (.range3 (i 0) (.len (v 0)) (mul (i 2) (v 4))) (.for1 7 (.range1 (v 4)) fwdIn)) (S.seq (.asg 1 (mod (mul (v 1) (v 1)) (v 2))) (.aug 4 .fdiv (i 2)))))) (.ret (v 3))))
/-- row root p found size turned half steps begin at one other share -/
noncomputable def bwdIn : S :=
  S.seq (.asg2 10 11 (.idx (v 3) (add (v 8) (v 9))) (mod (mul (.idx (v 3) (add (add (v 8) (v 9)) (v 6))) (.idx (v 7) (v 9))) (v 2))) (S.seq (.setI 3 (add (v 8) (v 9)) (mod (add (v 10) (v 11)) (v 2))) (.setI 3 (add (add (v 8) (v 9)) (v 6)) (mod (sub (v 10) (v 11)) (v 2))))
noncomputable def backward : S :=
  S.seq (.asg 3 (.all (v 0))) (S.seq (.asg 4 (.len (v 0))) (S.seq (.asg 5 (.call3 "plain_power" (v 1) (sub (v 4) (i 1)) (v 2))) (S.seq (.asg 6 (i 1)) (S.seq (.while (lt (v 6) (v 4)) (S.seq (.asg 7 (.call3 "powers_of" (.call3 "plain_power" (v 5) (fdiv (v 4) (mul (i 2) (v 6))) (v 2)) (v 6) (v 2))) (S.seq (.for1 8 (.range3 (i 0) (v 4) (mul (i 2) (v 6))) (.for1 9 (.range1 (v 6)) bwdIn)) (.aug 6 .mul (i 2))))) (S.seq (.asg 12 (.call3 "plain_power" (v 4) (sub (v 2) (i 2)) (v 2))) (.ret (.comp false false (v 3) (.bool true) (mod (mul (v 0) (v 1)) (v 2)) [12, 2])))))))
noncomputable def filled : S :=
  .ret (.cat (v 0) (.rep (.lit [0]) (sub (v 1) (.len (v 0)))))
/-- a b size p root here there -/
noncomputable def convolve : S :=
  S.seq (.asg 4 (.call2 "root_of_unity" (v 2) (v 3))) (S.seq (.asg2 5 6 (.call3 "forward" (.call2 "filled" (v 0) (v 2)) (v 4) (v 3)) (.call3 "forward" (.call2 "filled" (v 1) (v 2)) (v 4) (v 3))) (.ret (.call3 "backward" (.comp false true (.zip (v 5) (v 6)) (.bool true) (mod (mul (v 0) (v 1)) (v 2)) [3]) (v 4) (v 3))))
/-- rests primes found at p value unit digit other -/
noncomputable def mixedDigits : S :=
  S.seq (.asg 2 (.lit [])) (S.seq (.forN 3 4 1 (S.seq (.asg2 5 6 (i 0) (i 1)) (S.seq (.forZ 7 8 2 1 (S.seq (.asg 5 (mod (add (v 5) (mul (v 7) (v 6))) (v 4))) (.asg 6 (mod (mul (v 6) (v 8)) (v 4))))) (.app 2 (mod (mul (sub (.idx (v 0) (v 3)) (v 5)) (.call3 "plain_power" (v 6) (sub (v 4) (i 2)) (v 4))) (v 4)))))) (.ret (v 2)))
/-- row factor more w found mask limb -/
noncomputable def scaled : S :=
  S.seq (.asg2 4 5 (.lit []) (sub (shl (i 1) (v 3)) (i 1))) (S.seq (.forV 6 0 (S.seq (.aug 2 .add (mul (v 6) (v 1))) (S.seq (.app 4 (band (v 2) (v 5))) (.aug 2 .shr (v 3))))) (S.seq (.while (gt (v 2) (i 0)) (S.seq (.app 4 (band (v 2) (v 5))) (.aug 2 .shr (v 3)))) (.ret (.call1 "normal" (v 4)))))
/-- rests primes w digits found at -/
noncomputable def joined : S :=
  S.seq (.asg 3 (.call2 "mixed_digits" (v 0) (v 1))) (S.seq (.asg 4 (.lit [])) (S.seq (.for1 5 (.range3 (sub (.len (v 1)) (i 1)) (i (-1)) (i (-1))) (.asg 4 (.call4 "scaled" (v 4) (.idx (v 1) (v 5)) (.idx (v 3) (v 5)) (v 2)))) (.ret (v 4))))
/-- columns w found carry mask column -/
noncomputable def settled : S :=
  S.seq (.asg3 2 3 4 (.lit []) (i 0) (sub (shl (i 1) (v 1)) (i 1))) (S.seq (.forV 5 0 (S.seq (.aug 3 .add (v 5)) (S.seq (.app 2 (band (v 3) (v 4))) (.aug 3 .shr (v 1))))) (S.seq (.while (gt (v 3) (i 0)) (S.seq (.app 2 (band (v 3) (v 4))) (.aug 3 .shr (v 1)))) (.ret (.call1 "normal" (v 2)))))
noncomputable def sizeFor : S :=
  S.seq (.asg 1 (i 1)) (S.seq (.while (lt (v 1) (v 0)) (.aug 1 .mul (i 2))) (.ret (v 1)))
/-- a b w bound size primes rows columns at limbs spot limb -/
noncomputable def mulPrimes : S :=
  S.seq (.ite (.or (eq (.len (v 0)) (i 0)) (eq (.len (v 1)) (i 0))) (.ret (.lit [])) .skip) (S.seq (.asg 4 (.call1 "size_for" (sub (add (.len (v 0)) (.len (v 1))) (i 1)))) (S.seq (.asg 5 (.call3 "primes_for" (v 4) (v 3) (mul (mul (.min2 (.len (v 0)) (.len (v 1))) (sub (shl (i 1) (v 2)) (i 1))) (sub (shl (i 1) (v 2)) (i 1))))) (S.seq (.asgC 6 (.comp true false (v 5) (.bool true) (.call4 "convolve" (v 1) (v 2) (v 3) (v 0)) [0, 1, 4])) (S.seq (.asg 7 (.lit [])) (S.seq (.for1 8 (.range1 (v 4)) (S.seq (.asg 9 (.call3 "joined" (.comp false false (v 6) (.bool true) (.idx (v 0) (v 1)) [8]) (v 5) (v 2))) (S.seq (.asg 7 (.call2 "filled" (v 7) (add (v 8) (.len (v 9))))) (.forN 10 11 9 (.augI 7 (add (v 8) (v 10)) .add (v 11)))))) (.ret (.call2 "settled" (v 7) (v 2))))))))
noncomputable def lawRow : S :=
  S.seq (.asg 2 (.lit [])) (S.seq (.while (gt (v 0) (i 0)) (S.seq (.app 2 (mod (v 0) (shl (i 1) (v 1)))) (.asg 0 (shr (v 0) (v 1))))) (.ret (v 2)))
noncomputable def lawOf : S :=
  S.seq (.asg 2 (i 0)) (S.seq (.for1 3 (.rev (v 0)) (.asg 2 (add (shl (v 2) (v 1)) (v 3)))) (.ret (v 2)))
/-- box w found turn form -/
noncomputable def lawDrawn : S :=
  S.seq (.asg 2 (.lit [])) (S.seq (.for1 3 (.range1 (.take 0 (i 10))) (S.seq (.asg 4 (.take 0 (i 4))) (.app 2 (.ife (eq (v 4) (i 1)) (sub (shl (i 1) (v 1)) (i 1)) (.ife (eq (v 4) (i 2)) (i 0) (.take 0 (shl (i 1) (v 1)))))))) (S.seq (.while (.and (ne (v 2) (.lit [])) (eq (.idx (v 2) (sub (.len (v 2)) (i 1))) (i 0))) (.pop 2)) (.ret (v 2))))
/-- script box one w bound here there first second greatest size primes whole p columns times_by more many told -/
noncomputable def law : S :=
  S.seq (.for1 2 (.upto (v 0) (i 40)) (.setB 1 (mod (add (mul (.box1 1) (i 31)) (v 2)) (i 1000003)))) (S.seq (.asg2 3 4 (add (i 2) (.take 1 (i 8))) (add (i 1) (.take 1 (i 200)))) (S.seq (.asg2 5 6 (.drawn 1 (v 3)) (.drawn 1 (v 3))) (S.seq (.asg2 7 8 (.toList (v 5)) (.toList (v 6))) (S.seq (.ite (ne (.call4 "mul_primes" (v 5) (v 6) (v 3) (v 4)) (.call2 "_law_row" (mul (.call2 "_law_of" (v 7) (v 3)) (.call2 "_law_of" (v 8) (v 3))) (v 3))) no .skip) (S.seq (.ite (.or (ne (.call4 "mul_primes" (v 6) (v 5) (v 3) (i 1)) (.call4 "mul_primes" (v 5) (v 6) (v 3) (v 4))) (ne (.rows2 (v 5) (v 6)) (.rows2 (v 7) (v 8)))) no .skip) (S.seq (.asg2 9 10 (.take 1 (i 100000)) (.idx (.lit [1, 2, 4, 8]) (.take 1 (i 4)))) (S.seq (.asg2 11 12 (.call3 "primes_for" (v 10) (v 4) (v 9)) (i 1)) (S.seq (.forV 13 11 (S.seq (.ite (.or (gt (v 12) (v 9)) (.or (le (v 13) (v 4)) (ne (mod (v 13) (v 10)) (mod (i 1) (v 10))))) no .skip) (.asg 12 (mul (v 12) (v 13))))) (S.seq (.ite (.or (le (v 12) (v 9)) (ne (.comp false true (.zip (v 11) (.from1 (v 11) 1)) (le (v 1) (v 0)) (i 1) []) (.lit []))) no .skip) (S.seq (.asgC 14 (.comp false false (.range1 (.take 1 (i 6))) (.bool true) (.take 1 (i 5000)) [1])) (S.seq (.ite (ne (.call2 "settled" (v 14) (v 3)) (.call2 "_law_row" (.sum (.comp false true (.enum (v 14)) (.bool true) (shl (v 1) (mul (v 2) (v 0))) [3])) (v 3))) no .skip) (S.seq (.asg2 15 16 (.take 1 (i 3000)) (.take 1 (i 3000))) (S.seq (.ite (ne (.call4 "scaled" (v 5) (v 15) (v 16) (v 3)) (.call2 "_law_row" (add (mul (.call2 "_law_of" (v 5) (v 3)) (v 15)) (v 16)) (v 3))) no .skip) (S.seq (.asg 17 (add (i 1) (.take 1 (i 300)))) (S.seq (.asg 18 (.call1 "size_for" (v 17))) (.ret (.and (ge (v 18) (v 17)) (.and (.or (eq (v 17) (i 1)) (lt (v 18) (mul (i 2) (v 17)))) (eq (band (v 18) (sub (v 18) (i 1))) (i 0))))))))))))))))))))
end T

noncomputable def fits (f : Str) (nm ps : List Str) (st : S) (body : List Stmt) : Bool := let d := theRec f; fitsFn d nm ps && mS nm (gsOf d.scope) (csOf d.scope) (lsOf d.scope) st body
noncomputable def fitsB (f : Str) (nm ps : List Str) (st : S) : Bool := fits f nm ps st (theRec f).body

theorem fit_normal : fitsB "normal" ["a", "end"] ["a"] T.normal = true := by decide +kernel
theorem fit_is_small_prime : fitsB "is_small_prime" ["n", "at"] ["n"] T.isSmallPrime = true := by decide +kernel
theorem fit_prime_for : fitsB "prime_for" ["size", "bound", "found"] ["size", "bound"] T.primeFor = true := by decide +kernel
theorem fit_primes_for : fitsB "primes_for" ["size", "bound", "greatest", "found", "product"] ["size", "bound", "greatest"] T.primesFor = true := by decide +kernel
theorem fit_plain_power : fitsB "plain_power" ["a", "n", "p", "found"] ["a", "n", "p"] T.plainPower = true := by decide +kernel
theorem fit_root_of_unity : fitsB "root_of_unity" ["size", "p", "base"] ["size", "p"] T.rootOfUnity = true := by decide +kernel
theorem fit_powers_of : fitsB "powers_of" ["root", "many", "p", "found"] ["root", "many", "p"] T.powersOf = true := by decide +kernel
theorem fit_forward : fitsB "forward" ["row", "root", "p", "found", "half", "steps", "begin", "at", "one", "other"] ["row", "root", "p"] T.forward = true := by decide +kernel
theorem fit_backward : fitsB "backward" ["row", "root", "p", "found", "size", "turned", "half", "steps", "begin", "at", "one", "other", "share"] ["row", "root", "p"] T.backward = true := by decide +kernel
theorem fit_filled : fitsB "filled" ["row", "size"] ["row", "size"] T.filled = true := by decide +kernel
theorem fit_convolve : fitsB "convolve" ["a", "b", "size", "p", "root", "here", "there"] ["a", "b", "size", "p"] T.convolve = true := by decide +kernel
theorem fit_mixed_digits : fitsB "mixed_digits" ["rests", "primes", "found", "at", "p", "value", "unit", "digit", "other"] ["rests", "primes"] T.mixedDigits = true := by decide +kernel
theorem fit_scaled : fitsB "scaled" ["row", "factor", "more", "w", "found", "mask", "limb"] ["row", "factor", "more", "w"] T.scaled = true := by decide +kernel
theorem fit_joined : fitsB "joined" ["rests", "primes", "w", "digits", "found", "at"] ["rests", "primes", "w"] T.joined = true := by decide +kernel
theorem fit_settled : fitsB "settled" ["columns", "w", "found", "carry", "mask", "column"] ["columns", "w"] T.settled = true := by decide +kernel
theorem fit_size_for : fitsB "size_for" ["many", "found"] ["many"] T.sizeFor = true := by decide +kernel
theorem fit_mul_primes : fitsB "mul_primes" ["a", "b", "w", "bound", "size", "primes", "rows", "columns", "at", "limbs", "spot", "limb"] ["a", "b", "w", "bound"] T.mulPrimes = true := by decide +kernel
theorem fit_law_row : fitsB "_law_row" ["number", "w", "found"] ["number", "w"] T.lawRow = true := by decide +kernel
theorem fit_law_of : fitsB "_law_of" ["row", "w", "found", "limb"] ["row", "w"] T.lawOf = true := by decide +kernel
theorem fit_law_drawn : fitsB "_law_drawn" ["box", "w", "found", "turn", "form"] ["box", "w"] T.lawDrawn = true := by decide +kernel
theorem fit_law : fits "law" ["script", "box", "one", "w", "bound", "here", "there", "first", "second", "greatest", "size", "primes", "whole", "p", "columns", "times_by", "more", "many", "told"] ["script"] T.law ((theRec "law").body.drop 1) = true := by decide +kernel
end NN

/-! the small language run: rules for the plain laws -/
namespace NN
open PySem PySem.W PyProof.Rows PySem.Calls

noncomputable def Wp (P : Fns) (N : Nat) (M : Nat → Bool) (st : S) (s : St) (Q : St → Fl → Prop) : Prop := ∃ s' f, execS P N M st s = some (s', f) ∧ Q s' f

noncomputable def thenQ (P : Fns) (N : Nat) (M : Nat → Bool) (b : S) (Q : St → Fl → Prop) (s : St) : Fl → Prop
  | .next => Wp P N M b s Q
  | .ret v => Q s (.ret v)

section
variable {P : Fns} {N : Nat} {M : Nat → Bool} {a b : S} {σ : Ev} {bx : Bx} {s : St} {Q Q' : St → Fl → Prop}

noncomputable def wpo (r : Rt) (Q : St → Fl → Prop) : Prop := match r with | some q => Q q.1 q.2 | none => False
theorem wp_eq : Wp P N M a s Q = wpo (execS P N M a s) Q := by
  unfold Wp
  generalize execS P N M a s = r
  cases r with
  | none => exact propext ⟨fun ⟨_, _, e, _⟩ => (nomatch e), fun h => h.elim⟩
  | some q => exact propext ⟨fun ⟨_, _, e, h⟩ => (Option.some.inj e) ▸ h, fun h => ⟨q.1, q.2, rfl, h⟩⟩
theorem wpo_if {c : Bool} {f : Fl} : wpo (if c = true then some (s, f) else none) Q = (c = true ∧ Q s f) := by
  cases c with
  | true => exact propext ⟨fun h => ⟨rfl, h⟩, fun h => h.2⟩
  | false => exact propext ⟨fun h => h.elim, fun h => nomatch h.1⟩
theorem wpo_if' {c : Bool} {r : Rt} : wpo (if c = true then r else none) Q = (c = true ∧ wpo r Q) := by
  cases c with
  | true => exact propext ⟨fun h => ⟨rfl, h⟩, fun h => h.2⟩
  | false => exact propext ⟨fun h => h.elim, fun h => nomatch h.1⟩
theorem and2_eq {a b : Bool} : ((a && b) = true) = (a = true ∧ b = true) := propext ⟨and2, fun h => by rw [h.1, h.2]; rfl⟩
theorem and5_eq {a b c d e : Bool} : ((a && b && c && d && e) = true) = (a = true ∧ b = true ∧ c = true ∧ d = true ∧ e = true) := propext ⟨and5, fun h => by rw [h.1, h.2.1, h.2.2.1, h.2.2.2.1, h.2.2.2.2]; rfl⟩
theorem andd_eq {a : Bool} {p : Prop} [Decidable p] : ((a && decide p) = true) = (a = true ∧ p) := propext ⟨fun h => ⟨(and2 h).1, of_decide_eq_true (and2 h).2⟩, fun h => by rw [h.1, decide_eq_true h.2]; rfl⟩

theorem wp_seq : Wp P N M (.seq a b) s Q = Wp P N M a s (thenQ P N M b Q) := by
  rw [wp_eq, wp_eq]
  show wpo (match execS P N M a s with | none => none | some (s₁, .next) => execS P N M b s₁ | some (s₁, .ret v) => some (s₁, .ret v)) Q = _
  generalize execS P N M a s = r
  cases r with
  | none => rfl
  | some q =>
    obtain ⟨s₁, f⟩ := q
    cases f with
    | next => exact wp_eq.symm
    | ret v => rfl
theorem thenQ_next : thenQ P N M b Q s .next = Wp P N M b s Q := rfl
theorem thenQ_ret {v : V} : thenQ P N M b Q s (.ret v) = Q s (.ret v) := rfl

theorem wp_skip : Wp P N M .skip s Q = Q s .next := wp_eq

theorem wp_asg {x : Nat} {e : E} : Wp P N M (.asg x e) (σ, bx) Q = (match evalE P e σ bx with | some (v, b) => (asgOk M x e v = true ∧ inEv x σ = true) ∧ Q (pt σ x v, b) .next | none => False) := by
  refine wp_eq.trans ?_
  show wpo (match evalE P e σ bx with | none => none | some (v, b) => if asgOk M x e v && inEv x σ then some ((pt σ x v, b), .next) else none) Q = _
  generalize evalE P e σ bx = r
  cases r with
  | none => rfl
  | some q => exact wpo_if.trans (congrArg (· ∧ _) and2_eq)
theorem wp_asgC {x : Nat} {e : E} : Wp P N M (.asgC x e) (σ, bx) Q = (match evalE P e σ bx with | some (v, b) => (asgOk M x e v = true ∧ inEv x σ = true) ∧ Q (pt σ x v, b) .next | none => False) := by
  have h : Wp P N M (.asgC x e) (σ, bx) Q = Wp P N M (.asg x e) (σ, bx) Q := rfl
  rw [h]; exact wp_asg
theorem wp_asg2 {x y : Nat} {e₁ e₂ : E} : Wp P N M (.asg2 x y e₁ e₂) (σ, bx) Q = (match evalE P e₁ σ bx with
    | some (v₁, b₁) => (match evalE P e₂ σ b₁ with
      | some (v₂, b₂) => (asgOk M x e₁ v₁ = true ∧ asgOk M y e₂ v₂ = true ∧ inEv x σ = true ∧ inEv y σ = true ∧ (x != y) = true) ∧ Q (pt (pt σ x v₁) y v₂, b₂) .next
      | none => False)
    | none => False) := by
  refine wp_eq.trans ?_
  show wpo (match evalE P e₁ σ bx with
    | none => none
    | some (v₁, b₁) => match evalE P e₂ σ b₁ with
      | none => none
      | some (v₂, b₂) => if asgOk M x e₁ v₁ && asgOk M y e₂ v₂ && inEv x σ && inEv y σ && x != y then some ((pt (pt σ x v₁) y v₂, b₂), .next) else none) Q = _
  generalize evalE P e₁ σ bx = r
  cases r with
  | none => rfl
  | some q =>
    obtain ⟨v₁, b₁⟩ := q
    dsimp only
    generalize evalE P e₂ σ b₁ = r
    cases r with
    | none => rfl
    | some q => exact wpo_if.trans (congrArg (· ∧ _) and5_eq)
theorem wp_asg3 {x y z : Nat} {e₁ e₂ e₃ : E} : Wp P N M (.asg3 x y z e₁ e₂ e₃) (σ, bx) Q = (match evalE P e₁ σ bx with
    | some (v₁, b₁) => (match evalE P e₂ σ b₁ with
      | some (v₂, b₂) => (match evalE P e₃ σ b₂ with
        | some (v₃, b₃) => (asgOk M x e₁ v₁ && asgOk M y e₂ v₂ && asgOk M z e₃ v₃ && inEv x σ && inEv y σ && inEv z σ && x != y && x != z && y != z) = true ∧ Q (pt (pt (pt σ x v₁) y v₂) z v₃, b₃) .next
        | none => False)
      | none => False)
    | none => False) := by
  refine wp_eq.trans ?_
  show wpo (match evalE P e₁ σ bx with
    | none => none
    | some (v₁, b₁) => match evalE P e₂ σ b₁ with
      | none => none
      | some (v₂, b₂) => match evalE P e₃ σ b₂ with
        | none => none
        | some (v₃, b₃) => if asgOk M x e₁ v₁ && asgOk M y e₂ v₂ && asgOk M z e₃ v₃ && inEv x σ && inEv y σ && inEv z σ && x != y && x != z && y != z then some ((pt (pt (pt σ x v₁) y v₂) z v₃, b₃), .next) else none) Q = _
  generalize evalE P e₁ σ bx = r
  cases r with
  | none => rfl
  | some q =>
    obtain ⟨v₁, b₁⟩ := q
    dsimp only
    generalize evalE P e₂ σ b₁ = r
    cases r with
    | none => rfl
    | some q =>
      obtain ⟨v₂, b₂⟩ := q
      dsimp only
      generalize evalE P e₃ σ b₂ = r
      cases r with
      | none => rfl
      | some q => exact wpo_if
theorem wp_aug {x : Nat} {o : Op} {e : E} : Wp P N M (.aug x o e) (σ, bx) Q = (match gt σ x with
    | some u => (match evalE P e σ bx with | some (v, b) => (match vBin o u v with | some r => Q (pt σ x r, b) .next | none => False) | none => False)
    | none => False) := by
  refine wp_eq.trans ?_
  show wpo (match gt σ x with
    | none => none
    | some u => match evalE P e σ bx with
      | none => none
      | some (v, b) => (vBin o u v).map fun r => ((pt σ x r, b), .next)) Q = _
  cases gt σ x with
  | none => rfl
  | some u =>
    generalize evalE P e σ bx = r
    cases r with
    | none => rfl
    | some q =>
      obtain ⟨v, b⟩ := q
      dsimp only
      generalize vBin o u v = r
      cases r <;> rfl
theorem wp_ite {c : E} : Wp P N M (.ite c a b) (σ, bx) Q = (match evalE P c σ bx with | some (.bool t, b₁) => (if t = true then Wp P N M a (σ, b₁) Q else Wp P N M b (σ, b₁) Q) | _ => False) := by
  refine wp_eq.trans ?_
  show wpo (match evalE P c σ bx with | some (.bool true, b₁) => execS P N M a (σ, b₁) | some (.bool false, b₁) => execS P N M b (σ, b₁) | _ => none) Q = _
  generalize evalE P c σ bx = r
  cases r with
  | none => rfl
  | some q =>
    obtain ⟨v, b₁⟩ := q
    cases v with
    | bool t => cases t <;> exact wp_eq.symm
    | _ => rfl
theorem wp_ret {e : E} : Wp P N M (.ret e) (σ, bx) Q = (match evalE P e σ bx with | some (v, b) => retOk M e v = true ∧ Q (σ, b) (.ret v) | none => False) := by
  refine wp_eq.trans ?_
  show wpo (match evalE P e σ bx with | none => none | some (v, b) => if retOk M e v then some ((σ, b), .ret v) else none) Q = _
  generalize evalE P e σ bx = r
  cases r with
  | none => rfl
  | some q => exact wpo_if
theorem wp_app {x : Nat} {e : E} : Wp P N M (.app x e) (σ, bx) Q = (match gt σ x with
    | some (.il l) => (match evalE P e σ bx with | some (.int v, b) => (M x = true ∧ l.length < cap) ∧ Q (pt σ x (.il (l ++ [v])), b) .next | _ => False)
    | _ => False) := by
  refine wp_eq.trans ?_
  show wpo (match gt σ x with
      | some (.il l) => (match evalE P e σ bx with
        | some (.int v, b) => if M x && decide (l.length < cap) then some ((pt σ x (.il (l ++ [v])), b), .next) else none
        | _ => none)
      | _ => none) Q = _
  cases gt σ x with
  | none => rfl
  | some u => cases u with
    | il l =>
      dsimp only
      generalize evalE P e σ bx = r
      cases r with
      | none => rfl
      | some q =>
        obtain ⟨v, b⟩ := q
        cases v with
        | int v => exact wpo_if.trans (congrArg (· ∧ _) andd_eq)
        | _ => rfl
    | _ => rfl
theorem wp_pop {x : Nat} : Wp P N M (.pop x) (σ, bx) Q = (match gt σ x with
    | some (.il l) => (M x = true ∧ 0 < l.length ∧ l.length ≤ cap) ∧ Q (pt σ x (.il l.dropLast), bx) .next
    | _ => False) := by
  refine wp_eq.trans ?_
  show wpo (match gt σ x with
      | some (.il l) => if M x && decide (0 < l.length ∧ l.length ≤ cap) then some ((pt σ x (.il l.dropLast), bx), .next) else none
      | _ => none) Q = _
  cases gt σ x with
  | none => rfl
  | some u => cases u with
    | il l => exact wpo_if.trans (congrArg (· ∧ _) andd_eq)
    | _ => rfl
theorem wp_setI {x : Nat} {i e : E} : Wp P N M (.setI x i e) (σ, bx) Q = (match evalE P e σ bx with
    | some (.int v, b) => (match gt σ x with
      | some (.il l) => (match evalE P i σ b with | some (.int k, b₁) => (M x = true ∧ 0 ≤ k ∧ k.toNat < l.length ∧ l.length ≤ cap) ∧ Q (pt σ x (.il (l.set k.toNat v)), b₁) .next | _ => False)
      | _ => False)
    | _ => False) := by
  refine wp_eq.trans ?_
  show wpo (match evalE P e σ bx with
    | some (.int v, b) => (match gt σ x with
      | some (.il l) => (match evalE P i σ b with
        | some (.int k, b₁) => if M x && decide (0 ≤ k ∧ k.toNat < l.length ∧ l.length ≤ cap) then some ((pt σ x (.il (l.set k.toNat v)), b₁), .next) else none
        | _ => none)
      | _ => none)
    | _ => none) Q = _
  generalize evalE P e σ bx = r
  cases r with
  | none => rfl
  | some q =>
    obtain ⟨v, b⟩ := q
    cases v with
    | int v =>
      dsimp only
      cases gt σ x with
      | none => rfl
      | some u => cases u with
        | il l =>
          dsimp only
          generalize evalE P i σ b = r
          cases r with
          | none => rfl
          | some q =>
            obtain ⟨v', b₁⟩ := q
            cases v' with
            | int j => exact wpo_if.trans (congrArg (· ∧ _) andd_eq)
            | _ => rfl
        | _ => rfl
    | _ => rfl
theorem wp_augI {x : Nat} {o : Op} {i e : E} : Wp P N M (.augI x i o e) (σ, bx) Q = (match gt σ x with
    | some (.il l) => (match evalE P i σ bx with
      | some (.int k, b₁) => (M x = true ∧ 0 ≤ k ∧ k.toNat < l.length ∧ l.length ≤ cap) ∧ (match evalE P e σ b₁ with
        | some (.int v, b₂) => (match opI o (l.getD k.toNat 0) v with | some r => Q (pt σ x (.il (l.set k.toNat r)), b₂) .next | none => False)
        | _ => False)
      | _ => False)
    | _ => False) := by
  refine wp_eq.trans ?_
  show wpo (match gt σ x with
      | some (.il l) => (match evalE P i σ bx with
        | some (.int k, b₁) => if M x && decide (0 ≤ k ∧ k.toNat < l.length ∧ l.length ≤ cap) then
            (match evalE P e σ b₁ with
            | some (.int v, b₂) => (opI o (l.getD k.toNat 0) v).map fun r => ((pt σ x (.il (l.set k.toNat r)), b₂), .next)
            | _ => none)
          else none
        | _ => none)
      | _ => none) Q = _
  cases gt σ x with
  | none => rfl
  | some u => cases u with
    | il l =>
      dsimp only
      generalize evalE P i σ bx = r
      cases r with
      | none => rfl
      | some q =>
        obtain ⟨v, b₁⟩ := q
        cases v with
        | int j =>
          refine (wpo_if'.trans (congrArg (· ∧ _) andd_eq)).trans (congrArg (And (M x = true ∧ 0 ≤ j ∧ j.toNat < l.length ∧ l.length ≤ cap)) ?_)
          generalize evalE P e σ b₁ = r
          cases r with
          | none => rfl
          | some q =>
            obtain ⟨v', b₂⟩ := q
            cases v' with
            | int v' =>
              dsimp only
              generalize opI o (l.getD j.toNat 0) v' = r
              cases r <;> rfl
            | _ => rfl
        | _ => rfl
    | _ => rfl
theorem wp_setB {x : Nat} {e : E} : Wp P N M (.setB x e) (σ, bx) Q = (match gt σ x with
    | some .box => (match evalE P e σ bx with | some (.int v, some (l, _)) => Q (σ, some (l, v)) .next | _ => False)
    | _ => False) := by
  refine wp_eq.trans ?_
  show wpo (match gt σ x with
    | some .box => (match evalE P e σ bx with
      | some (.int v, some (l, _)) => some ((σ, some (l, v)), .next)
      | _ => none)
    | _ => none) Q = _
  cases gt σ x with
  | none => rfl
  | some u => cases u with
    | box =>
      dsimp only
      generalize evalE P e σ bx = r
      cases r with
      | none => rfl
      | some q =>
        obtain ⟨v, b⟩ := q
        cases v with
        | int v => cases b <;> rfl
        | _ => rfl
    | _ => rfl

/-! ## loops -/
theorem wp_while {c : E} {a : S} (I : Nat → St → Prop)
    (step : ∀ n σ bx, I n (σ, bx) → ∃ t b₁, evalE P c σ bx = some (.bool t, b₁) ∧ (t = false → Q (σ, b₁) .next) ∧ (t = true → Wp P N M a (σ, b₁) fun s' f => match f with | .next => ∃ m, m < n ∧ I m s' | .ret v => Q s' (.ret v)))
    (n : Nat) (hn : n < N) (h : I n s) : Wp P N M (.while c a) s Q := by
  have key : ∀ K n s, n < K → I n s → ∃ s' f, loopW (fun s => match evalE P c s.1 s.2 with | some (.bool t, b) => some (t, (s.1, b)) | _ => none) (execS P N M a) K s = some (s', f) ∧ Q s' f := by
    intro K
    induction K with
    | zero => intro n s hn; exact absurd hn (Nat.not_lt_zero _)
    | succ K ih =>
      rintro n ⟨σ, bx⟩ hn hI
      obtain ⟨t, b₁, e, h1, h2⟩ := step n σ bx hI
      cases t with
      | false => exact ⟨(σ, b₁), .next, by simp only [loopW, e], h1 rfl⟩
      | true =>
        obtain ⟨s₂, f, e2, q⟩ := h2 rfl
        cases f with
        | next =>
          obtain ⟨m, hm, hI'⟩ := q
          obtain ⟨s', f, e3, q⟩ := ih m s₂ (by (first | lia | omega)) hI'
          exact ⟨s', f, by simp only [loopW, e, e2, e3], q⟩
        | ret v => exact ⟨s₂, .ret v, by simp only [loopW, e, e2], q⟩
  obtain ⟨s', f, e, q⟩ := key N n s hn h
  exact ⟨s', f, e, q⟩

theorem loopF_run {α : Type} {f : α → St → Rt} {l : List α} (I : Nat → St → Prop)
    (step : ∀ i x s, l[i]? = some x → I i s → ∃ s' fl, f x s = some (s', fl) ∧ match fl with | .next => I (i + 1) s' | .ret v => Q s' (.ret v)) (h : I 0 s) (hQ : ∀ s', I l.length s' → Q s' .next) :
    ∃ s' fl, loopF f l s = some (s', fl) ∧ Q s' fl := by
  have key : ∀ (r : List α) i s, l.drop i = r → i ≤ l.length → I i s → ∃ s' fl, loopF f r s = some (s', fl) ∧ Q s' fl := by
    intro r
    induction r with
    | nil =>
      intro i s hd hi hI
      have : i = l.length := by
        have := congrArg List.length hd
        simp at this; (first | lia | omega)
      subst this
      exact ⟨s, .next, rfl, hQ s hI⟩
    | cons x r ih =>
      intro i s hd hi hI
      have hx : l[i]? = some x := by
        have := congrArg (·[0]?) hd
        simpa using this
      have hlt := (List.getElem?_eq_some_iff.mp hx).1
      have hd' : l.drop (i + 1) = r := by
        have := congrArg (List.drop 1) hd
        simpa using this
      obtain ⟨s', fl, e, q⟩ := step i x s hx hI
      cases fl with
      | next =>
        obtain ⟨s'', fl, e', q⟩ := ih (i + 1) s' hd' hlt q
        exact ⟨s'', fl, by simp only [loopF, e, e'], q⟩
      | ret v => exact ⟨s', .ret v, by simp only [loopF, e], q⟩
  exact key l 0 s rfl (Nat.zero_le _) h

noncomputable def loopQ (I : Nat → St → Prop) (Q : St → Fl → Prop) (i : Nat) (s' : St) : Fl → Prop
  | .next => I (i + 1) s'
  | .ret v => Q s' (.ret v)

theorem wp_for1 {x : Nat} {src : E} {a : S} {l : List Int} {b₁ : Bx} (I : Nat → St → Prop) (he : evalE P src σ bx = some (.il l, b₁) ∨ evalE P src σ bx = some (.rng l, b₁)) (hf : src.fresh = true) (hx : inEv x σ = true)
    (step : ∀ i n σ bx, l[i]? = some n → I i (σ, bx) → Wp P N M a (pt σ x (.int n), bx) (loopQ I Q i)) (h : I 0 (σ, b₁)) (hQ : ∀ s', I l.length s' → Q s' .next) : Wp P N M (.for1 x src a) (σ, bx) Q := by
  have := loopF_run (f := fun i s => execS P N M a (setV x (.int i) s)) (Q := Q) I (fun i n s hi hI => by
    obtain ⟨s', f, e, q⟩ := step i n s.1 s.2 hi hI
    exact ⟨s', f, e, by cases f <;> exact q⟩) h hQ
  obtain ⟨s', f, e, q⟩ := this
  refine ⟨s', f, ?_, q⟩
  show (match evalE P src σ bx with
    | some (.il l, b) => if src.fresh && inEv x σ then loopF (fun i s => execS P N M a (setV x (.int i) s)) l (σ, b) else none
    | some (.rng l, b) => if src.fresh && inEv x σ then loopF (fun i s => execS P N M a (setV x (.int i) s)) l (σ, b) else none
    | _ => none) = _
  rcases he with he | he <;> rw [he] <;> exact (if_pos (and2_eq ▸ ⟨hf, hx⟩)).trans e
theorem wp_forV {x y : Nat} {a : S} {l : List Int} (I : Nat → St → Prop) (he : gt σ y = some (.il l)) (hc : (!a.mut.contains y && inEv x σ && x != y) = true)
    (step : ∀ i n σ bx, l[i]? = some n → I i (σ, bx) → Wp P N M a (pt σ x (.int n), bx) (loopQ I Q i)) (h : I 0 (σ, bx)) (hQ : ∀ s', I l.length s' → Q s' .next) : Wp P N M (.forV x y a) (σ, bx) Q := by
  have := loopF_run (f := fun i s => execS P N M a (setV x (.int i) s)) (Q := Q) I (fun i n s hi hI => by
    obtain ⟨s', f, e, q⟩ := step i n s.1 s.2 hi hI
    exact ⟨s', f, e, by cases f <;> exact q⟩) h hQ
  obtain ⟨s', f, e, q⟩ := this
  refine ⟨s', f, ?_, q⟩
  show (match gt σ y with
    | some (.il l) => if !a.mut.contains y && inEv x σ && x != y then loopF (fun i s => execS P N M a (setV x (.int i) s)) l (σ, bx) else none
    | _ => none) = _
  rw [he]
  exact (if_pos hc).trans e
theorem wp_forZ {x y p q : Nat} {a : S} {l r : List Int} (I : Nat → St → Prop) (he : gt σ p = some (.il l)) (he' : gt σ q = some (.il r)) (hc : (!a.mut.contains p && !a.mut.contains q && inEv x σ && inEv y σ && x != y) = true) (h1 : l.length ≤ cap) (h2 : r.length ≤ cap)
    (step : ∀ i n σ bx, (l.zip r)[i]? = some n → I i (σ, bx) → Wp P N M a (pt (pt σ x (.int n.1)) y (.int n.2), bx) (loopQ I Q i)) (h : I 0 (σ, bx)) (hQ : ∀ s', I (l.zip r).length s' → Q s' .next) : Wp P N M (.forZ x y p q a) (σ, bx) Q := by
  have := loopF_run (l := l.zip r) (f := fun i s => execS P N M a (setV y (.int i.2) (setV x (.int i.1) s))) (Q := Q) I (fun i n s hi hI => by
    obtain ⟨s', f, e, q⟩ := step i n s.1 s.2 hi hI
    exact ⟨s', f, e, by cases f <;> exact q⟩) h hQ
  obtain ⟨s', f, e, hqq⟩ := this
  refine ⟨s', f, ?_, hqq⟩
  show (match gt σ p, gt σ q with
    | some (.il l), some (.il r) => if !a.mut.contains p && !a.mut.contains q && inEv x σ && inEv y σ && x != y && decide (l.length ≤ cap) && decide (r.length ≤ cap) then
        loopF (fun (i : Int × Int) s => execS P N M a (setV y (.int i.2) (setV x (.int i.1) s))) (l.zip r) (σ, bx) else none
    | _, _ => none) = _
  rw [he, he']
  exact (if_pos (by rw [hc, decide_eq_true h1, decide_eq_true h2]; rfl)).trans e
theorem wp_forN {x y p : Nat} {a : S} {l : List Int} (I : Nat → St → Prop) (he : gt σ p = some (.il l)) (hc : (!a.mut.contains p && inEv x σ && inEv y σ && x != y) = true) (h1 : l.length ≤ cap)
    (step : ∀ i n σ bx, (enumL l)[i]? = some n → I i (σ, bx) → Wp P N M a (pt (pt σ x (.int n.1)) y (.int n.2), bx) (loopQ I Q i)) (h : I 0 (σ, bx)) (hQ : ∀ s', I l.length s' → Q s' .next) : Wp P N M (.forN x y p a) (σ, bx) Q := by
  have := loopF_run (l := enumL l) (f := fun i s => execS P N M a (setV y (.int i.2) (setV x (.int i.1) s))) (Q := Q) I (fun i n s hi hI => by
    obtain ⟨s', f, e, q⟩ := step i n s.1 s.2 hi hI
    exact ⟨s', f, e, by cases f <;> exact q⟩) h (by rw [enumL_len]; exact hQ)
  obtain ⟨s', f, e, hqq⟩ := this
  refine ⟨s', f, ?_, hqq⟩
  show (match gt σ p with
    | some (.il l) => if !a.mut.contains p && inEv x σ && inEv y σ && x != y && decide (l.length ≤ cap) then
        loopF (fun (i : Int × Int) s => execS P N M a (setV y (.int i.2) (setV x (.int i.1) s))) (enumL l) (σ, bx) else none
    | _ => none) = _
  rw [he]
  exact (if_pos (by rw [hc, decide_eq_true h1]; rfl)).trans e
end
theorem loopQ_next {I : Nat → St → Prop} {Q : St → Fl → Prop} {i : Nat} {s : St} : loopQ I Q i s .next = I (i + 1) s := rfl
theorem loopQ_ret {I : Nat → St → Prop} {Q : St → Fl → Prop} {i : Nat} {s : St} {v : V} : loopQ I Q i s (.ret v) = Q s (.ret v) := rfl
end NN

/-! the operations, when they answer -/
namespace NN
open PySem PySem.W PyProof.Rows PySem.Calls

section
variable {P : Fns} {s : Ev} {b : Bx} {l r e e₁ e₂ e₃ e₄ c : E}

theorem okI_of {a : Int} (h : -1267650600228229401496703205376 ≤ a ∧ a ≤ 1267650600228229401496703205376) : okI a = true := Nat.ble_eq_true_of_le (by (first | lia | omega))
theorem op_add {a b : Int} : opI .add a b = some (a + b) := rfl
theorem op_sub {a b : Int} : opI .sub a b = some (a - b) := rfl
theorem op_mul {a b : Int} (h1 : -1267650600228229401496703205376 ≤ a ∧ a ≤ 1267650600228229401496703205376) (h2 : -1267650600228229401496703205376 ≤ b ∧ b ≤ 1267650600228229401496703205376) : opI .mul a b = some (a * b) := by
  simp only [opI, okI_of h1, okI_of h2, Bool.and_true, if_true]
theorem op_mul_s {a b : Int} (h1 : -1000000000 ≤ a ∧ a ≤ 1000000000) (h2 : -1000000000 ≤ b ∧ b ≤ 1000000000) : opI .mul a b = some (a * b) := op_mul (by (first | lia | omega)) (by (first | lia | omega))
theorem op_fdiv {a b : Int} (h1 : 0 < b ∧ b ≤ 1267650600228229401496703205376) : opI .fdiv a b = some (a / b) := by
  have h2 : okI b = true := okI_of (by (first | lia | omega))
  have h3 : b ≠ 0 := by (first | lia | omega)
  simp only [opI, h2, h3, ne_eq, not_false_eq_true, decide_true, Bool.and_true, if_true, Int.fdiv_eq_ediv_of_nonneg _ (Int.le_of_lt h1.1)]
theorem op_mod {a b : Int} (h1 : 0 < b) : opI .mod a b = some (a % b) := by
  have h3 : b ≠ 0 := by (first | lia | omega)
  simp only [opI, h3, ne_eq, not_false_eq_true, if_true, Int.fmod_eq_emod_of_nonneg _ (Int.le_of_lt h1)]
theorem op_shl {a b : Int} (h1 : -1267650600228229401496703205376 ≤ a ∧ a ≤ 1267650600228229401496703205376) (h2 : 0 ≤ b ∧ b ≤ 1000) : opI .shl a b = some (a * 2 ^ b.toNat) := by
  have h3 : Nat.ble b.natAbs 1000 = true := Nat.ble_eq_true_of_le (by (first | lia | omega))
  simp only [opI, okI_of h1, h2.1, h3, decide_true, Bool.and_true, if_true]
theorem op_shr {a b : Int} (h2 : 0 ≤ b) : opI .shr a b = some (a / 2 ^ b.toNat) := by
  have : (0 : Int) ≤ 2 ^ b.toNat := Int.le_of_lt (Int.pow_pos (by decide))
  simp only [opI, h2, if_true, Int.fdiv_eq_ediv_of_nonneg _ this]
theorem op_band {a b : Int} (h : 0 ≤ a ∧ 0 ≤ b) : opI .band a b = some ((a.toNat &&& b.toNat : Nat) : Int) := by
  simp only [opI, h, and_self, if_true]

theorem cm_lt {a b : Int} : cmI .lt a b = decide (a < b) := rfl
theorem cm_le {a b : Int} : cmI .le a b = decide (a ≤ b) := rfl
theorem cm_gt {a b : Int} : cmI .gt a b = decide (b < a) := rfl
theorem cm_ge {a b : Int} : cmI .ge a b = decide (b ≤ a) := rfl
theorem cm_eq {a b : Int} : cmI .eq a b = decide (a = b) := rfl
theorem cm_ne {a b : Int} : cmI .ne a b = decide (a ≠ b) := by show (!decide (a = b)) = _; rw [decide_not]

theorem ev_int {i : Int} : evalE P (.int i) s b = some (.int i, b) := rfl
theorem ev_bool {c : Bool} : evalE P (.bool c) s b = some (.bool c, b) := rfl
theorem ev_var {x : Nat} : evalE P (.var x) s b = (gt s x).map (·, b) := rfl
theorem ev_bin {o : Op} : evalE P (.bin o l r) s b = (match evalE P l s b with | none => none | some (u, b₁) => op1 (vBin o u) (evalE P r s b₁)) := rfl
theorem ev_cmp {o : Cm} : evalE P (.cmp o l r) s b = (match evalE P l s b with | none => none | some (u, b₁) => op1 (vCmp o u) (evalE P r s b₁)) := rfl
theorem ev_not : evalE P (.not e) s b = op1 vNot (evalE P e s b) := rfl
theorem ev_and : evalE P (.and l r) s b = (match evalE P l s b with | some (.bool t, b₁) => (if t = true then (match evalE P r s b₁ with | some (.bool c, b₂) => some (.bool c, b₂) | _ => none) else some (.bool false, b₁)) | _ => none) := by
  rw [evr_and]
  cases evalE P l s b with
  | none => rfl
  | some q => obtain ⟨v, b₁⟩ := q; cases v with
    | bool t => cases t <;> rfl
    | _ => rfl
theorem ev_or : evalE P (.or l r) s b = (match evalE P l s b with | some (.bool t, b₁) => (if t = true then some (.bool true, b₁) else (match evalE P r s b₁ with | some (.bool c, b₂) => some (.bool c, b₂) | _ => none)) | _ => none) := by
  rw [evr_or]
  cases evalE P l s b with
  | none => rfl
  | some q => obtain ⟨v, b₁⟩ := q; cases v with
    | bool t => cases t <;> rfl
    | _ => rfl
theorem ev_ife : evalE P (.ife c l r) s b = (match evalE P c s b with | some (.bool t, b₁) => (if t = true then (match evalE P l s b₁ with | some (.int i, b₂) => some (.int i, b₂) | _ => none) else (match evalE P r s b₁ with | some (.int i, b₂) => some (.int i, b₂) | _ => none)) | _ => none) := by
  rw [evr_ife]
  cases evalE P c s b with
  | none => rfl
  | some q => obtain ⟨v, b₁⟩ := q; cases v with
    | bool t => cases t <;> rfl
    | _ => rfl
theorem ev_idx : evalE P (.idx l r) s b = (match evalE P l s b with | none => none | some (u, b₁) => op1 (vIdx u) (evalE P r s b₁)) := rfl
theorem ev_upto : evalE P (.upto l r) s b = (match evalE P l s b with | none => none | some (u, b₁) => op1 (vUpto u) (evalE P r s b₁)) := rfl
theorem ev_from1 {k : Nat} : evalE P (.from1 l k) s b = op1 (vList fun x => some (.il (x.drop k))) (evalE P l s b) := rfl
theorem ev_all : evalE P (.all l) s b = op1 (vList fun x => some (.il x)) (evalE P l s b) := rfl
theorem ev_rev : evalE P (.rev l) s b = op1 (vList fun x => some (.il x.reverse)) (evalE P l s b) := rfl
theorem ev_cat : evalE P (.cat l r) s b = (match evalE P l s b with | none => none | some (u, b₁) => op1 (vCat u) (evalE P r s b₁)) := rfl
theorem ev_rep : evalE P (.rep l r) s b = (match evalE P l s b with | none => none | some (u, b₁) => op1 (vRep u) (evalE P r s b₁)) := rfl
theorem ev_lit {x : List Int} (h : x.length ≤ cap) : evalE P (.lit x) s b = some (.il x, b) := if_pos h
theorem ev_lit0 : evalE P (.lit []) s b = some (.il [], b) := rfl
theorem ev_lit1 {x : Int} : evalE P (.lit [x]) s b = some (.il [x], b) := rfl
theorem ev_lst1 : evalE P (.lst1 e) s b = op1 vLst1 (evalE P e s b) := rfl
theorem ev_rows2 : evalE P (.rows2 l r) s b = (match evalE P l s b with | none => none | some (u, b₁) => op1 (vRows2 u) (evalE P r s b₁)) := rfl
theorem ev_call1 {f : Str} : evalE P (.call1 f e) s b = op1 (fun v => P.fn f [v]) (evalE P e s b) := rfl
theorem ev_call2 {f : Str} : evalE P (.call2 f e₁ e₂) s b = (match evalE P e₁ s b with | none => none | some (v₁, b₁) => op1 (fun v => P.fn f [v₁, v]) (evalE P e₂ s b₁)) := rfl
theorem ev_call3 {f : Str} : evalE P (.call3 f e₁ e₂ e₃) s b = (match evalE P e₁ s b with | none => none | some (v₁, b₁) => (match evalE P e₂ s b₁ with | none => none | some (v₂, b₂) => op1 (fun v => P.fn f [v₁, v₂, v]) (evalE P e₃ s b₂))) := rfl
theorem ev_call4 {f : Str} : evalE P (.call4 f e₁ e₂ e₃ e₄) s b = (match evalE P e₁ s b with | none => none | some (v₁, b₁) => (match evalE P e₂ s b₁ with | none => none | some (v₂, b₂) => (match evalE P e₃ s b₂ with | none => none | some (v₃, b₃) => op1 (fun v => P.fn f [v₁, v₂, v₃, v]) (evalE P e₄ s b₃)))) := rfl
theorem ev_len : evalE P (.len e) s b = op1 (vList fun x => some (.int x.length)) (evalE P e s b) := rfl
theorem ev_min2 : evalE P (.min2 l r) s b = (match evalE P l s b with | none => none | some (u, b₁) => op1 (vMin u) (evalE P r s b₁)) := rfl
theorem ev_sum : evalE P (.sum e) s b = op1 vSum (evalE P e s b) := rfl
theorem ev_toInt : evalE P (.toInt e) s b = op1 vToInt (evalE P e s b) := rfl
theorem ev_toList : evalE P (.toList e) s b = op1 (vList fun x => some (.il x)) (evalE P e s b) := rfl
theorem ev_range1 : evalE P (.range1 e) s b = op1 (fun v => vRange (.int 0) v (.int 1)) (evalE P e s b) := rfl
theorem ev_range3 : evalE P (.range3 e₁ e₂ e₃) s b = (match evalE P e₁ s b with | none => none | some (u, b₁) => (match evalE P e₂ s b₁ with | none => none | some (v, b₂) => op1 (vRange u v) (evalE P e₃ s b₂))) := rfl
theorem ev_zip : evalE P (.zip l r) s b = (match evalE P l s b with | none => none | some (u, b₁) => op1 (vZip u) (evalE P r s b₁)) := rfl
theorem ev_enum : evalE P (.enum e) s b = op1 vEnum (evalE P e s b) := rfl

theorem op1_some' {f : V → Option V} {v : V} : op1 f (some (v, b)) = (f v).map (·, b) := rfl
theorem op1_none' {f : V → Option V} : op1 f none = none := rfl
theorem vBin_int {o : Op} {x y : Int} : vBin o (.int x) (.int y) = (opI o x y).map .int := rfl
theorem vCmp_int {o : Cm} {x y : Int} : vCmp o (.int x) (.int y) = some (.bool (cmI o x y)) := by cases o <;> rfl
theorem vNot_bool {c : Bool} : vNot (.bool c) = some (.bool (!c)) := rfl
theorem vIdx_il {x : List Int} {i : Int} (h : 0 ≤ i ∧ i < x.length) (hc : x.length ≤ 100000) : vIdx (.il x) (.int i) = some (.int (x.getD i.toNat 0)) := by
  have h1 : smI i = true := smI_of (by (first | lia | omega))
  have h2 : i.toNat < x.length := by (first | lia | omega)
  refine (if_pos (by rw [h1, decide_eq_true h.1]; rfl)).trans ?_
  rw [List.getElem?_eq_getElem h2, List.getD_eq_getElem?_getD, List.getElem?_eq_getElem h2]; rfl
theorem vUpto_il {x : List Int} {i : Int} (h : 0 ≤ i ∧ (x.length : Int) ≤ 100000) : vUpto (.il x) (.int i) = some (.il (x.take i.toNat)) := by
  have h1 : 0 ≤ i ∧ x.length ≤ cap := ⟨h.1, by show x.length ≤ 100000; (first | lia | omega)⟩
  exact if_pos h1
theorem vUpto_arg {x : List Int} {i : Int} (h : 0 ≤ i ∧ (x.length : Int) ≤ 100000) : vUpto (.arg x) (.int i) = some (.il (x.take i.toNat)) := by
  have h1 : 0 ≤ i ∧ x.length ≤ cap := ⟨h.1, by show x.length ≤ 100000; (first | lia | omega)⟩
  exact if_pos h1
theorem vList_il' {x : List Int} {f : List Int → Option V} (h : (x.length : Int) ≤ 100000) : vList f (.il x) = f x := by
  have h1 : x.length ≤ cap := by show x.length ≤ 100000; (first | lia | omega)
  exact if_pos h1
theorem vCat_il {x y : List Int} (h : (x.length : Int) ≤ 100000 ∧ (y.length : Int) ≤ 100000) : vCat (.il x) (.il y) = some (.il (x ++ y)) := by
  have h1 : x.length ≤ cap ∧ y.length ≤ cap := ⟨by show x.length ≤ 100000; (first | lia | omega), by show y.length ≤ 100000; (first | lia | omega)⟩
  exact if_pos h1
theorem vRep_il {a n : Int} (h : -100000 ≤ n ∧ n ≤ 100000) : vRep (.il [a]) (.int n) = some (.il (List.replicate n.toNat a)) := by
  have h1 : Nat.ble n.natAbs 100000 = true := Nat.ble_eq_true_of_le (by (first | lia | omega))
  exact if_pos h1
theorem vMin_int {x y : Int} : vMin (.int x) (.int y) = some (.int (min x y)) := rfl
theorem vLst1_int {x : Int} : vLst1 (.int x) = some (.il [x]) := rfl
theorem vRows2_il {x y : List Int} : vRows2 (.il x) (.il y) = some (.rl [x, y]) := rfl
theorem vSum_il {x : List Int} : vSum (.il x) = some (.int x.sum) := rfl
theorem vToInt_int {x : Int} : vToInt (.int x) = some (.int x) := rfl
theorem vZip_il {x y : List Int} (h : (x.length : Int) ≤ 100000 ∧ (y.length : Int) ≤ 100000) : vZip (.il x) (.il y) = some (.prs (x.zip y)) := by
  have h1 : x.length ≤ cap ∧ y.length ≤ cap := ⟨by show x.length ≤ 100000; (first | lia | omega), by show y.length ≤ 100000; (first | lia | omega)⟩
  exact if_pos h1
theorem vEnum_il {x : List Int} (h : (x.length : Int) ≤ 100000) : vEnum (.il x) = some (.prs (enumL x)) := by
  have h1 : x.length ≤ cap := by show x.length ≤ 100000; (first | lia | omega)
  exact if_pos h1
theorem vNe_il {x y : List Int} (h : (x.length : Int) ≤ 100000 ∧ (y.length : Int) ≤ 100000) : vCmp .ne (.il x) (.il y) = some (.bool (decide (x ≠ y))) := by
  have h1 : x.length ≤ cap ∧ y.length ≤ cap := ⟨by show x.length ≤ 100000; (first | lia | omega), by show y.length ≤ 100000; (first | lia | omega)⟩
  refine (if_pos h1).trans ?_
  rw [← decide_not]

theorem vRange_up {a c : Int} {n : Nat} (h : 0 ≤ a ∧ a ≤ 100000 ∧ 1 ≤ c ∧ c ≤ 100000 ∧ (n : Int) * c ≤ 100000) : vRange (.int a) (.int (a + n * c)) (.int c) = some (.rng (rangeL a c n)) := by
  obtain ⟨h1, h2, h3, h4, h5⟩ := h
  have hn0 : 0 ≤ (n : Int) * c := Int.mul_nonneg (by (first | lia | omega)) (by (first | lia | omega))
  have hnc : (n : Int) ≤ n * c := by
    have := Int.mul_le_mul_of_nonneg_left h3 (Int.natCast_nonneg n)
    simpa using this
  have hr : rangeN a (a + n * c) c = n := by
    unfold rangeN
    rw [if_pos (by (first | lia | omega))]
    by_cases hz : n = 0
    · subst hz
      rw [if_neg (by simp)]; rfl
    · have hpos : 0 < (n : Int) * c := Int.mul_pos (by (first | lia | omega)) (by (first | lia | omega))
      rw [if_pos (by (first | lia | omega))]
      have e : (a + n * c - a - 1) / c = (n : Int) - 1 := by
        have : a + n * c - a - 1 = (c - 1) + ((n : Int) - 1) * c := by rw [Int.sub_mul]; (first | lia | omega)
        rw [this, Int.add_mul_ediv_right _ _ (by (first | lia | omega)), Int.ediv_eq_zero_of_lt (by (first | lia | omega)) (by (first | lia | omega))]
        (first | lia | omega)
      rw [e]; (first | lia | omega)
  have s1 : smI a = true := smI_of (by (first | lia | omega))
  have s2 : smI (a + n * c) = true := smI_of (by (first | lia | omega))
  have s3 : smI c = true := smI_of (by (first | lia | omega))
  have hc : c ≠ 0 := by (first | lia | omega)
  have hcap : n ≤ cap := by show n ≤ 100000; (first | lia | omega)
  refine (if_pos ?_).trans (by rw [hr])
  rw [s1, s2, s3, decide_eq_true hc, hr, decide_eq_true hcap]; rfl

theorem vRange_1 {m : Int} (h : 0 ≤ m ∧ m ≤ 100000) : vRange (.int 0) (.int m) (.int 1) = some (.rng (rangeL 0 1 m.toNat)) := by
  have := vRange_up (a := 0) (c := 1) (n := m.toNat) ⟨by decide, by decide, by decide, by decide, by (first | lia | omega)⟩
  rw [show (0 : Int) + (m.toNat : Int) * 1 = m by (first | lia | omega)] at this
  exact this
theorem vRange_dn {m : Int} (h : -1 ≤ m ∧ m < 100000) : vRange (.int m) (.int (-1)) (.int (-1)) = some (.rng (rangeL m (-1) (m + 1).toNat)) := by
  have hr : rangeN m (-1) (-1) = (m + 1).toNat := by
    unfold rangeN
    rw [if_neg (by (first | lia | omega))]
    by_cases hz : (-1 : Int) < m
    · rw [if_pos hz, show (-(-1) : Int) = 1 by decide, Int.ediv_one]; congr 1; (first | lia | omega)
    · rw [if_neg hz]; congr 1; (first | lia | omega)
  have s1 : smI m = true := smI_of (by (first | lia | omega))
  have s2 : smI (-1) = true := by decide
  have hcap : (m + 1).toNat ≤ cap := by show (m + 1).toNat ≤ 100000; (first | lia | omega)
  refine (if_pos ?_).trans (by rw [hr])
  rw [s1, s2, hr, decide_eq_true hcap]; rfl
end

/-- a def run on plain values -/
noncomputable def run (P : Fns) (N : Nat) (M : Nat → Bool) (st : S) (n np : Nat) (vs : List V) : Option V :=
  if (vs.all plainV && decide (vs.length = np)) = true then
    (match execS P N M st (vs.map some ++ List.replicate (n - vs.length) none, none) with
    | some (_, .ret r) => if plainV r = true then some r else none
    | _ => none)
  else none

inductive RetQ (R : V → Prop) (s : St) (f : Fl) : Prop
  | mk (r : V) (h1 : f = .ret r) (h2 : plainV r = true) (h3 : R r) : RetQ R s f
theorem run_of {P : Fns} {N : Nat} {M : Nat → Bool} {st : S} {n np : Nat} {vs : List V} {R : V → Prop} (h1 : (vs.all plainV && decide (vs.length = np)) = true)
    (h : Wp P N M st (vs.map some ++ List.replicate (n - vs.length) none, none) (RetQ R)) : ∃ r, run P N M st n np vs = some r ∧ R r := by
  obtain ⟨s', f, e, r, rfl, hp, hr⟩ := h
  refine ⟨r, ?_, hr⟩
  unfold run
  rw [if_pos h1, e]
  simp only [hp, if_true]

noncomputable def mk (P : Fns) (f : Str) (F : List V → Option V) : Fns := { P with fn := fun g vs => if g = f then F vs else P.fn g vs }
theorem mk_same {P : Fns} {f : Str} {F : List V → Option V} : (mk P f F).fn f = F := by funext vs; simp [mk]
theorem mk_other {P : Fns} {f g : Str} {F : List V → Option V} (h : g ≠ f) : (mk P f F).fn g = P.fn g := by funext vs; simp [mk, h]

section
variable {prog : Program} {w : PySem.World} {hB : Heap} {fnA : Str → Option Addr} {k N : Nat} {P : Fns} {M : Nat → Bool}
theorem fnsOk_mk (bs : Base hB fnA) (hF : FnsOk prog w hB fnA k P) {f : Str} {a : Addr} {nm ps : List Str} {st : S} (ha : fnA f = some a) (hf : FnAt hB (theRec f) a) (hfit : fitsB f nm ps st = true) (hbind : bindsOk (theRec f) ps)
    (hM : ∀ i, i < ps.length → M i = false) : FnsOk prog w hB fnA (k + 2) (mk P f (run P N M st nm.length ps.length)) := by
  have h2 := hF.le (Nat.le_add_right k 2)
  refine ⟨fun g vs r e => ?_, h2.take, h2.drawn⟩
  by_cases hg : g = f
  · subst hg
    rw [mk_same] at e
    unfold run at e
    split at e
    · rename_i hc
      rw [Bool.and_eq_true, List.all_eq_true, decide_eq_true_iff] at hc
      split at e
      · rename_i s' r' he
        split at e
        · rename_i hp
          cases e
          refine ⟨hc.1, hp, a, ha, ?_⟩
          unfold fitsB fits at hfit
          rw [Bool.and_eq_true] at hfit
          obtain ⟨σ', bx'⟩ := s'
          exact contract_of (M := M) bs hF hf hfit.1 hbind hfit.2 hc.2 (fun i l hi => hM i (by have := (List.getElem?_eq_some_iff.mp hi).1; (first | lia | omega))) hc.1 he
        · first | exact nn e | cases e
      · first | exact nn e | cases e
    · first | exact nn e | cases e
  · rw [mk_other hg] at e
    exact h2.fn g vs r e
end
end NN

/-! plain maths: rows of limbs -/
namespace NN

noncomputable def val (b : Int) : List Int → Int
  | [] => 0
  | x :: r => x + b * val b r

noncomputable def norm : List Int → List Int
  | [] => []
  | x :: r => match norm r with
    | [] => if x = 0 then [] else [x]
    | y :: t => x :: y :: t

theorem norm_cons_nil {x : Int} {r : List Int} (h : norm r = []) : norm (x :: r) = if x = 0 then [] else [x] := by simp only [norm, h]
theorem norm_cons_cons {x y : Int} {r t : List Int} (h : norm r = y :: t) : norm (x :: r) = x :: y :: t := by simp only [norm, h]

theorem val_append (b : Int) (l m : List Int) : val b (l ++ m) = val b l + b ^ l.length * val b m := by
  induction l with
  | nil => simp [val]
  | cons x r ih =>
    simp only [List.cons_append, val, ih, List.length_cons, Int.pow_succ]
    rw [Int.mul_add, Int.mul_comm (b ^ r.length) b, Int.mul_assoc, Int.add_assoc]

theorem val_norm (b : Int) (l : List Int) : val b (norm l) = val b l := by
  induction l with
  | nil => rfl
  | cons x r ih =>
    cases h : norm r with
    | nil =>
      rw [norm_cons_nil h]
      rw [h] at ih
      have e : val b r = 0 := ih.symm
      by_cases hx : x = 0
      · rw [if_pos hx]; simp [val, hx, e]
      · rw [if_neg hx]; simp [val, e]
    | cons y t =>
      rw [norm_cons_cons h, show val b (x :: y :: t) = x + b * val b (y :: t) from rfl, ← h, ih]; rfl

theorem norm_append_zero (l : List Int) : norm (l ++ [0]) = norm l := by
  induction l with
  | nil => rfl
  | cons x r ih =>
    rw [List.cons_append]
    cases h : norm r with
    | nil => rw [norm_cons_nil h, norm_cons_nil (ih.trans h)]
    | cons y t => rw [norm_cons_cons h, norm_cons_cons (ih.trans h)]

theorem norm_last {l : List Int} {x : Int} (h : x ≠ 0) : norm (l ++ [x]) = l ++ [x] := by
  induction l with
  | nil => simp [norm, h]
  | cons y r ih =>
    rw [List.cons_append]
    cases hr : r ++ [x] with
    | nil => simp at hr
    | cons z t => rw [hr] at ih; rw [norm_cons_cons ih]

theorem mem_norm {l : List Int} {x : Int} (h : x ∈ norm l) : x ∈ l := by
  induction l with
  | nil => exact h
  | cons y r ih =>
    cases hr : norm r with
    | nil =>
      rw [norm_cons_nil hr] at h
      split at h
      · cases h
      · rcases List.mem_cons.mp h with rfl | h
        · exact .head _
        · cases h
    | cons z t =>
      rw [norm_cons_cons hr] at h
      rcases List.mem_cons.mp h with rfl | h
      · exact .head _
      · exact .tail _ (ih (hr ▸ h))

theorem norm_len (l : List Int) : (norm l).length ≤ l.length := by
  induction l with
  | nil => exact Nat.le_refl _
  | cons y r ih =>
    cases hr : norm r with
    | nil =>
      rw [norm_cons_nil hr]
      split <;> simp
    | cons z t =>
      rw [norm_cons_cons hr]
      rw [hr] at ih
      simpa using ih

/-- a row that ends in no nought -/
noncomputable def Lst (l : List Int) : Prop := l = [] ∨ ∃ r x, l = r ++ [x] ∧ x ≠ 0
theorem norm_lst {l : List Int} (h : Lst l) : norm l = l := by
  rcases h with rfl | ⟨r, x, rfl, hx⟩
  · rfl
  · exact norm_last hx
theorem lst_norm (l : List Int) : Lst (norm l) := by
  induction l with
  | nil => exact .inl rfl
  | cons x r ih =>
    cases h : norm r with
    | nil =>
      rw [norm_cons_nil h]
      split
      · exact .inl rfl
      · rename_i hx; exact .inr ⟨[], x, rfl, hx⟩
    | cons y t =>
      rw [norm_cons_cons h]
      rw [h] at ih
      rcases ih with e | ⟨r', z, e, hz⟩
      · cases e
      · exact .inr ⟨x :: r', z, by rw [e]; rfl, hz⟩
theorem norm_norm (l : List Int) : norm (norm l) = norm l := norm_lst (lst_norm l)

noncomputable def Dg (b : Int) (l : List Int) : Prop := ∀ x ∈ l, 0 ≤ x ∧ x < b
noncomputable def Nf (b : Int) (l : List Int) : Prop := Dg b l ∧ norm l = l

theorem val_nonneg {b : Int} (hb : 0 ≤ b) {l : List Int} (h : ∀ x ∈ l, 0 ≤ x) : 0 ≤ val b l := by
  induction l with
  | nil => exact Int.le_refl _
  | cons x r ih =>
    have h1 := h x (.head _)
    have h2 := Int.mul_nonneg hb (ih fun y hy => h y (.tail _ hy))
    show 0 ≤ x + b * val b r
    (first | lia | omega)

theorem nf_zero {b : Int} (hb : 2 ≤ b) {l : List Int} (h : Nf b l) (hv : val b l = 0) : l = [] := by
  induction l with
  | nil => rfl
  | cons x r ih =>
    exfalso
    obtain ⟨hd, hn⟩ := h
    have h0 := hd x (.head _)
    have hr : Dg b r := fun y hy => hd y (.tail _ hy)
    have hv' : x + b * val b r = 0 := hv
    have hvr : 0 ≤ val b r := val_nonneg (by (first | lia | omega)) fun y hy => (hr y hy).1
    have hbv : 0 ≤ b * val b r := Int.mul_nonneg (by (first | lia | omega)) hvr
    have hx : x = 0 := by (first | lia | omega)
    have hz : b * val b r = 0 := by (first | lia | omega)
    have hvr0 : val b r = 0 := by
      rcases Int.mul_eq_zero.mp hz with h | h
      · (first | lia | omega)
      · exact h
    cases hr' : norm r with
    | nil =>
      rw [norm_cons_nil hr', if_pos hx] at hn
      cases hn
    | cons y t =>
      rw [norm_cons_cons hr'] at hn
      have e : r = y :: t := (List.cons.inj hn).2.symm
      have := ih ⟨hr, by rw [hr', e]⟩ hvr0
      rw [this] at e; cases e

theorem nf_uniq {b : Int} (hb : 2 ≤ b) {l m : List Int} (hl : Nf b l) (hm : Nf b m) (hv : val b l = val b m) : l = m := by
  induction l generalizing m with
  | nil => exact (nf_zero hb hm (by rw [← hv]; rfl)).symm
  | cons x r ih =>
    cases m with
    | nil => exact nf_zero hb hl hv
    | cons y t =>
      have h1 := hl.1 x (.head _)
      have h2 := hm.1 y (.head _)
      have tail : ∀ {z : Int} {q : List Int}, norm (z :: q) = z :: q → norm q = q := fun {z q} h => by
        cases hq : norm q with
        | nil =>
          rw [norm_cons_nil hq] at h
          split at h
          · cases h
          · exact (List.cons.inj h).2
        | cons a c =>
          rw [norm_cons_cons hq] at h
          exact (List.cons.inj h).2
      have e : x + b * val b r = y + b * val b t := hv
      have ex : x = y := by
        have e1 : (x + b * val b r) % b = x := by rw [Int.add_mul_emod_self_left]; exact Int.emod_eq_of_lt h1.1 h1.2
        have e2 : (y + b * val b t) % b = y := by rw [Int.add_mul_emod_self_left]; exact Int.emod_eq_of_lt h2.1 h2.2
        rw [← e1, ← e2, e]
      subst ex
      have ev : val b r = val b t := Int.eq_of_mul_eq_mul_left (a := b) (by (first | lia | omega)) (by (first | lia | omega))
      rw [ih ⟨fun z hz => hl.1 z (.tail _ hz), tail hl.2⟩ ⟨fun z hz => hm.1 z (.tail _ hz), tail hm.2⟩ ev]

theorem dg_norm {b : Int} {l : List Int} (h : Dg b l) : Nf b (norm l) := ⟨fun x hx => h x (mem_norm hx), norm_norm l⟩
theorem dg_append {b : Int} {l m : List Int} (h : Dg b l) (h' : Dg b m) : Dg b (l ++ m) := fun x hx => by
  rcases List.mem_append.mp hx with hx | hx
  · exact h x hx
  · exact h' x hx
theorem dg_one {b x : Int} (h : 0 ≤ x ∧ x < b) : Dg b [x] := fun y hy => by
  rcases List.mem_cons.mp hy with rfl | hy
  · exact h
  · cases hy
theorem dg_nil {b : Int} : Dg b [] := fun _ h => nomatch h

theorem val_snoc (b : Int) (l : List Int) (x : Int) : val b (l ++ [x]) = val b l + b ^ l.length * x := by
  rw [val_append]; simp [val]
end NN

/-! what the defs compute: rows -/
namespace NN
open PySem

noncomputable def fuel : Nat := 100000
noncomputable def mOf (i : Nat) : Nat → Bool := fun j => j == i
noncomputable def mNo : Nat → Bool := fun _ => false

theorem asg_int {M : Nat → Bool} {x : Nat} {e : E} {i : Int} : asgOk M x e (.int i) = true := rfl
theorem asg_il {M : Nat → Bool} {x : Nat} {e : E} {l : List Int} : asgOk M x e (.il l) = e.fresh := rfl
theorem ret_int {M : Nat → Bool} {e : E} {i : Int} : retOk M e (.int i) = true := rfl
theorem ret_bool {M : Nat → Bool} {e : E} {i : Bool} : retOk M e (.bool i) = true := rfl
theorem ret_il {M : Nat → Bool} {x : Nat} {l : List Int} : retOk M (.var x) (.il l) = M x := rfl
theorem ret_fresh {M : Nat → Bool} {e : E} {l : List Int} : retOk M e (.il l) = (false || e.fresh || ownVar M e) := rfl
theorem own_var {M : Nat → Bool} {x : Nat} : ownVar M (.var x) = M x := rfl
theorem fr_var {x : Nat} : (E.var x).fresh = false := rfl
theorem fr_idx {a b : E} : (E.idx a b).fresh = true := rfl
theorem fr_upto {a b : E} : (E.upto a b).fresh = true := rfl
theorem fr_from1 {a : E} {b : Nat} : (E.from1 a b).fresh = true := rfl
theorem fr_all {a : E} : (E.all a).fresh = true := rfl
theorem fr_rev {a : E} : (E.rev a).fresh = true := rfl
theorem fr_cat {a b : E} : (E.cat a b).fresh = true := rfl
theorem fr_rep {a b : E} : (E.rep a b).fresh = true := rfl
theorem fr_lit {a : List Int} : (E.lit a).fresh = true := rfl
theorem fr_lst1 {a : E} : (E.lst1 a).fresh = true := rfl
theorem fr_call1 {a : Str} {b : E} : (E.call1 a b).fresh = true := rfl
theorem fr_call2 {a : Str} {b c : E} : (E.call2 a b c).fresh = true := rfl
theorem fr_call3 {a : Str} {b c d : E} : (E.call3 a b c d).fresh = true := rfl
theorem fr_call4 {a : Str} {b c d e : E} : (E.call4 a b c d e).fresh = true := rfl
theorem fr_toList {a : E} : (E.toList a).fresh = true := rfl
theorem fr_drawn {a : Nat} {b : E} : (E.drawn a b).fresh = true := rfl
theorem fr_comp {a b : Bool} {c d e : E} {f : List Nat} : (E.comp a b c d e f).fresh = true := rfl


theorem take_snoc {l : List Int} {n : Nat} (h : n < l.length) : l.take (n + 1) = l.take n ++ [l.getD n 0] := by
  rw [List.take_add_one, List.getElem?_eq_getElem h, List.getD_eq_getElem?_getD, List.getElem?_eq_getElem h]; rfl

noncomputable def SpNormal (F : List V → Option V) : Prop := ∀ l : List Int, l.length ≤ 1000 → ∃ r, F [.il l] = some r ∧ r = .il (norm l)

inductive NormI (l : List Int) (n : Nat) (s : St) : Prop
  | mk (e : Nat) (h0 : n = e) (h1 : s = ([some (.il l), some (.int e)], none)) (h2 : e ≤ l.length) (h3 : norm l = norm (l.take e)) : NormI l n s
theorem sp_normal (P : Fns) : SpNormal (run P fuel mNo T.normal 2 1) := fun l hl => by
  refine run_of rfl ?_
  show Wp P fuel mNo T.normal ([some (.il l), none], none) _
  unfold T.normal
  (repeat (first | (simp (disch := first | lia | omega) only [thenQ_ret, loopQ_next, loopQ_ret, wp_skip, wp_asg, wp_asg2, wp_asg3, wp_aug, wp_ite, wp_ret, wp_app, wp_pop, wp_setI, wp_augI, wp_setB, op_add, op_sub, op_mul_s, op_mul, op_fdiv, op_mod, op_shl, op_shr, op_band, cm_lt, cm_le, cm_gt, cm_ge, cm_eq, cm_ne, ev_int, ev_bool, ev_var, ev_bin, ev_cmp, ev_not, ev_and, ev_or, ev_ife, ev_idx, ev_upto, ev_from1, ev_all, ev_rev, ev_cat, ev_rep, ev_lit0, ev_lit1, ev_lst1, ev_rows2, ev_call1, ev_call2, ev_call3, ev_call4, ev_len, ev_min2, ev_sum, ev_toInt, ev_toList, ev_range1, ev_range3, ev_zip, ev_enum, op1_some', op1_none', vBin_int, vCmp_int, vNot_bool, vIdx_il, vUpto_il, vUpto_arg, vList_il', vCat_il, vRep_il, vMin_int, vLst1_int, vRows2_il, vSum_il, vToInt_int, vZip_il, vEnum_il, vRange_1, vRange_dn, asg_int, asg_il, ret_int, ret_bool, ret_il, ret_fresh, own_var, fr_var, fr_idx, fr_upto, fr_from1, fr_all, fr_rev, fr_cat, fr_rep, fr_lit, fr_lst1, fr_call1, fr_call2, fr_call3, fr_call4, fr_toList, fr_drawn, fr_comp, gt, pt, inEv, Option.map_some, Option.map_none, List.length_cons, List.length_nil, Nat.reduceAdd, Nat.reduceLT, decide_true, decide_false, decide_eq_true_eq, Bool.or_true, Bool.true_or, Bool.false_or, Bool.or_false, Int.toNat_natCast, and_self, true_and, and_true, if_true, if_false, Bool.false_eq_true, Bool.true_and, Bool.and_true, Nat.reduceBEq, bne_self_eq_false, Nat.reduceBNe, mOf, cap]) | rw [thenQ_next] | rw [wp_seq] | simp only [wp_seq, thenQ_next]))
  refine wp_while (NormI l) ?_ l.length (by show l.length < 100000; (first | lia | omega)) ⟨l.length, rfl, rfl, Nat.le_refl _, by rw [List.take_length]⟩
  rintro n σ bx ⟨e, rfl, hs, he, hn⟩
  cases hs
  (repeat (first | (simp (disch := first | lia | omega) only [thenQ_ret, loopQ_next, loopQ_ret, wp_skip, wp_asg, wp_asg2, wp_asg3, wp_aug, wp_ite, wp_ret, wp_app, wp_pop, wp_setI, wp_augI, wp_setB, op_add, op_sub, op_mul_s, op_mul, op_fdiv, op_mod, op_shl, op_shr, op_band, cm_lt, cm_le, cm_gt, cm_ge, cm_eq, cm_ne, ev_int, ev_bool, ev_var, ev_bin, ev_cmp, ev_not, ev_and, ev_or, ev_ife, ev_idx, ev_upto, ev_from1, ev_all, ev_rev, ev_cat, ev_rep, ev_lit0, ev_lit1, ev_lst1, ev_rows2, ev_call1, ev_call2, ev_call3, ev_call4, ev_len, ev_min2, ev_sum, ev_toInt, ev_toList, ev_range1, ev_range3, ev_zip, ev_enum, op1_some', op1_none', vBin_int, vCmp_int, vNot_bool, vIdx_il, vUpto_il, vUpto_arg, vList_il', vCat_il, vRep_il, vMin_int, vLst1_int, vRows2_il, vSum_il, vToInt_int, vZip_il, vEnum_il, vRange_1, vRange_dn, asg_int, asg_il, ret_int, ret_bool, ret_il, ret_fresh, own_var, fr_var, fr_idx, fr_upto, fr_from1, fr_all, fr_rev, fr_cat, fr_rep, fr_lit, fr_lst1, fr_call1, fr_call2, fr_call3, fr_call4, fr_toList, fr_drawn, fr_comp, gt, pt, inEv, Option.map_some, Option.map_none, List.length_cons, List.length_nil, Nat.reduceAdd, Nat.reduceLT, decide_true, decide_false, decide_eq_true_eq, Bool.or_true, Bool.true_or, Bool.false_or, Bool.or_false, Int.toNat_natCast, and_self, true_and, and_true, if_true, if_false, Bool.false_eq_true, Bool.true_and, Bool.and_true, Nat.reduceBEq, bne_self_eq_false, Nat.reduceBNe, mOf, cap]) | rw [thenQ_next] | rw [wp_seq] | simp only [wp_seq, thenQ_next]))
  by_cases h0 : n = 0
  · subst h0
    refine ⟨false, none, rfl, fun _ => ⟨_, rfl, rfl, ?_⟩, fun h => by cases h⟩
    rw [hn]; rfl
  · obtain ⟨m, rfl⟩ : ∃ m, n = m + 1 := ⟨n - 1, by (first | lia | omega)⟩
    rw [if_pos (by (first | lia | omega))]
    have e1 : ((m + 1 : Nat) : Int) - 1 = (m : Nat) := by (first | lia | omega)
    rw [e1, Int.toNat_natCast]
    have ht := take_snoc (l := l) (n := m) (by (first | lia | omega))
    by_cases hz : l.getD m 0 = 0
    · refine ⟨true, none, by rw [decide_eq_true hz], (fun h => by cases h), fun _ => ⟨m, by (first | lia | omega), m, rfl, rfl, by (first | lia | omega), ?_⟩⟩
      rw [hn, ht, hz, norm_append_zero]
    · refine ⟨false, none, by rw [decide_eq_false hz], fun _ => ⟨_, rfl, rfl, ?_⟩, fun h => by cases h⟩
      rw [hn, ht, norm_last hz]

/-! ## limbs -/
theorem mask_mod {a : Int} (h : 0 ≤ a) (w : Nat) : ((a.toNat &&& ((2 : Int) ^ w - 1).toNat : Nat) : Int) = a % 2 ^ w := by
  have e : ((2 : Int) ^ w - 1).toNat = 2 ^ w - 1 := by
    have : (2 : Int) ^ w = ((2 ^ w : Nat) : Int) := by simp
    rw [this]
    have := Nat.one_le_two_pow (n := w)
    (first | lia | omega)
  rw [e, Nat.and_two_pow_sub_one_eq_mod]
  obtain ⟨n, rfl⟩ := Int.eq_ofNat_of_zero_le h
  simp

theorem mod_dg {a b : Int} (hb : 0 < b) : 0 ≤ a % b ∧ a % b < b := ⟨Int.emod_nonneg _ (by (first | lia | omega)), Int.emod_lt_of_pos _ hb⟩

noncomputable def SpSettled (F : List V → Option V) : Prop := ∀ (cs : List Int) (w : Nat), w ≤ 9 → 1 ≤ w → cs.length ≤ 100 → (∀ x ∈ cs, 0 ≤ x ∧ x ≤ 1000000000000) → ∃ r, F [.il cs, .int w] = some r ∧ ∃ l, r = .il l ∧ Nf (2 ^ w) l ∧ val (2 ^ w) l = val (2 ^ w) cs

theorem pow_bounds {w : Nat} (h : w ≤ 9) (h1 : 1 ≤ w) : 2 ≤ (2 : Int) ^ w ∧ (2 : Int) ^ w ≤ 512 :=
  (by decide +kernel : ∀ w : Fin 10, 1 ≤ w.val → 2 ≤ (2 : Int) ^ w.val ∧ (2 : Int) ^ w.val ≤ 512) ⟨w, Nat.lt_succ_of_le h⟩ h1

theorem carry_down {c : Int} {w n : Nat} (h1 : 1 ≤ w) (h : 0 ≤ c ∧ c < 2 ^ (n + 1)) : 0 ≤ c / 2 ^ w ∧ c / 2 ^ w < 2 ^ n := by
  have hp : (0 : Int) < 2 ^ w := Int.pow_pos (by decide)
  refine ⟨Int.ediv_nonneg h.1 (Int.le_of_lt hp), ?_⟩
  apply Int.ediv_lt_of_lt_mul hp
  have hw : (2 : Int) ≤ 2 ^ w := by
    obtain ⟨m, rfl⟩ : ∃ m, w = m + 1 := ⟨w - 1, by (first | lia | omega)⟩
    rw [Int.pow_succ]
    have : (0 : Int) < 2 ^ m := Int.pow_pos (by decide)
    (first | lia | omega)
  have h2 : (2 : Int) ^ n * 2 ≤ 2 ^ n * 2 ^ w := Int.mul_le_mul_of_nonneg_left hw (Int.le_of_lt (Int.pow_pos (by decide)))
  rw [Int.pow_succ] at h
  (first | lia | omega)

/-- the last rounds: a carry goes into limbs; used by scaled and settled -/
theorem carry_step (b c : Int) (f : List Int) (hb : 0 < b) : val b (f ++ [c % b]) + b ^ (f ++ [c % b]).length * (c / b) = val b f + b ^ f.length * c := by
  rw [val_snoc, List.length_append, List.length_singleton, Int.pow_succ, Int.add_assoc, Int.mul_assoc, ← Int.mul_add]
  congr 2
  exact Int.emod_add_mul_ediv c b

inductive SetJ (cs : List Int) (w : Nat) (b : Int) (n : Nat) (s : St) : Prop
  | mk (f : List Int) (c : Int) (z : Option V) (h0 : s = ([some (.il cs), some (.int w), some (.il f), some (.int c), some (.int (b - 1)), z], none)) (h1 : 0 ≤ c) (h2 : c < 2 ^ n) (h3 : f.length + n ≤ 200) (h4 : Dg b f) (h5 : val b f + b ^ f.length * c = val b cs) : SetJ cs w b n s
inductive SetI (cs : List Int) (w : Nat) (b : Int) (i : Nat) (s : St) : Prop
  | mk (f : List Int) (c : Int) (z : Option V) (h0 : s = ([some (.il cs), some (.int w), some (.il f), some (.int c), some (.int (b - 1)), z], none)) (h1 : 0 ≤ c) (h2 : c ≤ 2000000000000) (h3 : f.length = i) (h4 : Dg b f) (h5 : val b f + b ^ f.length * c = val b (cs.take i)) : SetI cs w b i s
theorem sp_settled (P : Fns) (hn : SpNormal (P.fn "normal")) : SpSettled (run P fuel (mOf 2) T.settled 6 2) := fun cs w hw9 hw1 hlen hcs => by
  have hb := pow_bounds hw9 hw1
  refine run_of rfl ?_
  show Wp P fuel (mOf 2) T.settled ([some (.il cs), some (.int w), none, none, none, none], none) _
  unfold T.settled
  (repeat (first | (simp (disch := first | lia | omega) only [thenQ_ret, loopQ_next, loopQ_ret, wp_skip, wp_asg, wp_asg2, wp_asg3, wp_aug, wp_ite, wp_ret, wp_app, wp_pop, wp_setI, wp_augI, wp_setB, op_add, op_sub, op_mul_s, op_mul, op_fdiv, op_mod, op_shl, op_shr, op_band, cm_lt, cm_le, cm_gt, cm_ge, cm_eq, cm_ne, ev_int, ev_bool, ev_var, ev_bin, ev_cmp, ev_not, ev_and, ev_or, ev_ife, ev_idx, ev_upto, ev_from1, ev_all, ev_rev, ev_cat, ev_rep, ev_lit0, ev_lit1, ev_lst1, ev_rows2, ev_call1, ev_call2, ev_call3, ev_call4, ev_len, ev_min2, ev_sum, ev_toInt, ev_toList, ev_range1, ev_range3, ev_zip, ev_enum, op1_some', op1_none', vBin_int, vCmp_int, vNot_bool, vIdx_il, vUpto_il, vUpto_arg, vList_il', vCat_il, vRep_il, vMin_int, vLst1_int, vRows2_il, vSum_il, vToInt_int, vZip_il, vEnum_il, vRange_1, vRange_dn, asg_int, asg_il, ret_int, ret_bool, ret_il, ret_fresh, own_var, fr_var, fr_idx, fr_upto, fr_from1, fr_all, fr_rev, fr_cat, fr_rep, fr_lit, fr_lst1, fr_call1, fr_call2, fr_call3, fr_call4, fr_toList, fr_drawn, fr_comp, gt, pt, inEv, Option.map_some, Option.map_none, List.length_cons, List.length_nil, Nat.reduceAdd, Nat.reduceLT, decide_true, decide_false, decide_eq_true_eq, Bool.or_true, Bool.true_or, Bool.false_or, Bool.or_false, Int.toNat_natCast, and_self, true_and, and_true, if_true, if_false, Bool.false_eq_true, Bool.true_and, Bool.and_true, Nat.reduceBEq, bne_self_eq_false, Nat.reduceBNe, mOf, cap]) | rw [thenQ_next] | rw [wp_seq] | simp only [wp_seq, thenQ_next]))
  generalize hB : (2 : Int) ^ w = b at hb ⊢
  rw [Int.one_mul]
  refine wp_forV (l := cs) (SetI cs w b) rfl rfl ?_ ⟨[], 0, none, rfl, by decide, by decide, rfl, dg_nil, by simp [val]⟩ ?_
  · rintro i n σ bx hi ⟨f, c, z, hs, hc0, hc1, hf, hd, hv⟩
    cases hs
    have hilt := (List.getElem?_eq_some_iff.mp hi).1
    have hnm := hcs n (List.mem_of_getElem? hi)
    (repeat (first | (simp (disch := first | lia | omega) only [thenQ_ret, loopQ_next, loopQ_ret, wp_skip, wp_asg, wp_asg2, wp_asg3, wp_aug, wp_ite, wp_ret, wp_app, wp_pop, wp_setI, wp_augI, wp_setB, op_add, op_sub, op_mul_s, op_mul, op_fdiv, op_mod, op_shl, op_shr, op_band, cm_lt, cm_le, cm_gt, cm_ge, cm_eq, cm_ne, ev_int, ev_bool, ev_var, ev_bin, ev_cmp, ev_not, ev_and, ev_or, ev_ife, ev_idx, ev_upto, ev_from1, ev_all, ev_rev, ev_cat, ev_rep, ev_lit0, ev_lit1, ev_lst1, ev_rows2, ev_call1, ev_call2, ev_call3, ev_call4, ev_len, ev_min2, ev_sum, ev_toInt, ev_toList, ev_range1, ev_range3, ev_zip, ev_enum, op1_some', op1_none', vBin_int, vCmp_int, vNot_bool, vIdx_il, vUpto_il, vUpto_arg, vList_il', vCat_il, vRep_il, vMin_int, vLst1_int, vRows2_il, vSum_il, vToInt_int, vZip_il, vEnum_il, vRange_1, vRange_dn, asg_int, asg_il, ret_int, ret_bool, ret_il, ret_fresh, own_var, fr_var, fr_idx, fr_upto, fr_from1, fr_all, fr_rev, fr_cat, fr_rep, fr_lit, fr_lst1, fr_call1, fr_call2, fr_call3, fr_call4, fr_toList, fr_drawn, fr_comp, gt, pt, inEv, Option.map_some, Option.map_none, List.length_cons, List.length_nil, Nat.reduceAdd, Nat.reduceLT, decide_true, decide_false, decide_eq_true_eq, Bool.or_true, Bool.true_or, Bool.false_or, Bool.or_false, Int.toNat_natCast, and_self, true_and, and_true, if_true, if_false, Bool.false_eq_true, Bool.true_and, Bool.and_true, Nat.reduceBEq, bne_self_eq_false, Nat.reduceBNe, mOf, cap]) | rw [thenQ_next] | rw [wp_seq] | simp only [wp_seq, thenQ_next]))
    rw [← hB, mask_mod (by (first | lia | omega))]
    rw [hB]
    have hq : 0 ≤ (c + n) / b ∧ (c + n) / b ≤ 2000000000000 := by
      refine ⟨Int.ediv_nonneg (by (first | lia | omega)) (by (first | lia | omega)), ?_⟩
      have : (c + n) / b ≤ (c + n) / 2 := by
        apply Int.le_ediv_of_mul_le (by decide)
        have h1 := Int.ediv_mul_le (c + n) (b := b) (by (first | lia | omega))
        have h2 : 0 ≤ (c + n) / b := Int.ediv_nonneg (by (first | lia | omega)) (by (first | lia | omega))
        have h3 : (c + n) / b * 2 ≤ (c + n) / b * b := Int.mul_le_mul_of_nonneg_left hb.1 h2
        (first | lia | omega)
      (first | lia | omega)
    refine ⟨by (first | lia | omega), _, _, _, rfl, hq.1, hq.2, by simp [hf], dg_append hd (dg_one (mod_dg (by (first | lia | omega)))), ?_⟩
    rw [carry_step b (c + n) f (by (first | lia | omega)), take_snoc (by (first | lia | omega)), val_snoc, Int.mul_add, ← Int.add_assoc, hv]
    have hg : cs.getD i 0 = n := by rw [List.getD_eq_getElem?_getD, hi]; rfl
    rw [hg, List.length_take, Nat.min_eq_left (by (first | lia | omega)), hf]
  · rintro s ⟨f, c, z, rfl, hc0, hc1, hf, hd, hv⟩
    (repeat (first | (simp (disch := first | lia | omega) only [thenQ_ret, loopQ_next, loopQ_ret, wp_skip, wp_asg, wp_asg2, wp_asg3, wp_aug, wp_ite, wp_ret, wp_app, wp_pop, wp_setI, wp_augI, wp_setB, op_add, op_sub, op_mul_s, op_mul, op_fdiv, op_mod, op_shl, op_shr, op_band, cm_lt, cm_le, cm_gt, cm_ge, cm_eq, cm_ne, ev_int, ev_bool, ev_var, ev_bin, ev_cmp, ev_not, ev_and, ev_or, ev_ife, ev_idx, ev_upto, ev_from1, ev_all, ev_rev, ev_cat, ev_rep, ev_lit0, ev_lit1, ev_lst1, ev_rows2, ev_call1, ev_call2, ev_call3, ev_call4, ev_len, ev_min2, ev_sum, ev_toInt, ev_toList, ev_range1, ev_range3, ev_zip, ev_enum, op1_some', op1_none', vBin_int, vCmp_int, vNot_bool, vIdx_il, vUpto_il, vUpto_arg, vList_il', vCat_il, vRep_il, vMin_int, vLst1_int, vRows2_il, vSum_il, vToInt_int, vZip_il, vEnum_il, vRange_1, vRange_dn, asg_int, asg_il, ret_int, ret_bool, ret_il, ret_fresh, own_var, fr_var, fr_idx, fr_upto, fr_from1, fr_all, fr_rev, fr_cat, fr_rep, fr_lit, fr_lst1, fr_call1, fr_call2, fr_call3, fr_call4, fr_toList, fr_drawn, fr_comp, gt, pt, inEv, Option.map_some, Option.map_none, List.length_cons, List.length_nil, Nat.reduceAdd, Nat.reduceLT, decide_true, decide_false, decide_eq_true_eq, Bool.or_true, Bool.true_or, Bool.false_or, Bool.or_false, Int.toNat_natCast, and_self, true_and, and_true, if_true, if_false, Bool.false_eq_true, Bool.true_and, Bool.and_true, Nat.reduceBEq, bne_self_eq_false, Nat.reduceBNe, mOf, cap]) | rw [thenQ_next] | rw [wp_seq] | simp only [wp_seq, thenQ_next]))
    rw [List.take_length] at hv
    refine wp_while (SetJ cs w b) ?_ 50 (by decide) ⟨f, c, z, rfl, hc0, by (first | lia | omega), by (first | lia | omega), hd, hv⟩
    rintro n σ bx ⟨f, c, z, hs, hc0, hc1, hf, hd, hv⟩
    cases hs
    (repeat (first | (simp (disch := first | lia | omega) only [thenQ_ret, loopQ_next, loopQ_ret, wp_skip, wp_asg, wp_asg2, wp_asg3, wp_aug, wp_ite, wp_ret, wp_app, wp_pop, wp_setI, wp_augI, wp_setB, op_add, op_sub, op_mul_s, op_mul, op_fdiv, op_mod, op_shl, op_shr, op_band, cm_lt, cm_le, cm_gt, cm_ge, cm_eq, cm_ne, ev_int, ev_bool, ev_var, ev_bin, ev_cmp, ev_not, ev_and, ev_or, ev_ife, ev_idx, ev_upto, ev_from1, ev_all, ev_rev, ev_cat, ev_rep, ev_lit0, ev_lit1, ev_lst1, ev_rows2, ev_call1, ev_call2, ev_call3, ev_call4, ev_len, ev_min2, ev_sum, ev_toInt, ev_toList, ev_range1, ev_range3, ev_zip, ev_enum, op1_some', op1_none', vBin_int, vCmp_int, vNot_bool, vIdx_il, vUpto_il, vUpto_arg, vList_il', vCat_il, vRep_il, vMin_int, vLst1_int, vRows2_il, vSum_il, vToInt_int, vZip_il, vEnum_il, vRange_1, vRange_dn, asg_int, asg_il, ret_int, ret_bool, ret_il, ret_fresh, own_var, fr_var, fr_idx, fr_upto, fr_from1, fr_all, fr_rev, fr_cat, fr_rep, fr_lit, fr_lst1, fr_call1, fr_call2, fr_call3, fr_call4, fr_toList, fr_drawn, fr_comp, gt, pt, inEv, Option.map_some, Option.map_none, List.length_cons, List.length_nil, Nat.reduceAdd, Nat.reduceLT, decide_true, decide_false, decide_eq_true_eq, Bool.or_true, Bool.true_or, Bool.false_or, Bool.or_false, Int.toNat_natCast, and_self, true_and, and_true, if_true, if_false, Bool.false_eq_true, Bool.true_and, Bool.and_true, Nat.reduceBEq, bne_self_eq_false, Nat.reduceBNe, mOf, cap]) | rw [thenQ_next] | rw [wp_seq] | simp only [wp_seq, thenQ_next]))
    refine ⟨decide (0 < c), none, rfl, fun hz => ?_, fun hz => ?_⟩
    · have hz := of_decide_eq_false hz
      have hc : c = 0 := by (first | lia | omega)
      subst hc
      obtain ⟨r, hr, rfl⟩ := hn f (by (first | lia | omega))
      rw [hr]
      (repeat (first | (simp (disch := first | lia | omega) only [thenQ_ret, loopQ_next, loopQ_ret, wp_skip, wp_asg, wp_asg2, wp_asg3, wp_aug, wp_ite, wp_ret, wp_app, wp_pop, wp_setI, wp_augI, wp_setB, op_add, op_sub, op_mul_s, op_mul, op_fdiv, op_mod, op_shl, op_shr, op_band, cm_lt, cm_le, cm_gt, cm_ge, cm_eq, cm_ne, ev_int, ev_bool, ev_var, ev_bin, ev_cmp, ev_not, ev_and, ev_or, ev_ife, ev_idx, ev_upto, ev_from1, ev_all, ev_rev, ev_cat, ev_rep, ev_lit0, ev_lit1, ev_lst1, ev_rows2, ev_call1, ev_call2, ev_call3, ev_call4, ev_len, ev_min2, ev_sum, ev_toInt, ev_toList, ev_range1, ev_range3, ev_zip, ev_enum, op1_some', op1_none', vBin_int, vCmp_int, vNot_bool, vIdx_il, vUpto_il, vUpto_arg, vList_il', vCat_il, vRep_il, vMin_int, vLst1_int, vRows2_il, vSum_il, vToInt_int, vZip_il, vEnum_il, vRange_1, vRange_dn, asg_int, asg_il, ret_int, ret_bool, ret_il, ret_fresh, own_var, fr_var, fr_idx, fr_upto, fr_from1, fr_all, fr_rev, fr_cat, fr_rep, fr_lit, fr_lst1, fr_call1, fr_call2, fr_call3, fr_call4, fr_toList, fr_drawn, fr_comp, gt, pt, inEv, Option.map_some, Option.map_none, List.length_cons, List.length_nil, Nat.reduceAdd, Nat.reduceLT, decide_true, decide_false, decide_eq_true_eq, Bool.or_true, Bool.true_or, Bool.false_or, Bool.or_false, Int.toNat_natCast, and_self, true_and, and_true, if_true, if_false, Bool.false_eq_true, Bool.true_and, Bool.and_true, Nat.reduceBEq, bne_self_eq_false, Nat.reduceBNe, mOf, cap]) | rw [thenQ_next] | rw [wp_seq] | simp only [wp_seq, thenQ_next]))
      refine ⟨_, rfl, rfl, _, rfl, dg_norm hd, ?_⟩
      rw [val_norm, ← hv]; simp
    · have hz := of_decide_eq_true hz
      obtain ⟨m, rfl⟩ : ∃ m, n = m + 1 := by
        cases n with
        | zero => simp at hc1; (first | lia | omega)
        | succ m => exact ⟨m, rfl⟩
      rw [← hB, mask_mod (by (first | lia | omega))]
      have hq := carry_down (n := m) hw1 ⟨hc0, hc1⟩
      rw [hB] at hq ⊢
      refine ⟨by (first | lia | omega), m, by (first | lia | omega), _, _, _, rfl, hq.1, hq.2, by simp; (first | lia | omega), dg_append hd (dg_one (mod_dg (by (first | lia | omega)))), ?_⟩
      rw [carry_step b c f (by (first | lia | omega)), hv]
end NN

/-! what the defs compute: limbs, numbers -/
namespace NN
open PySem

theorem val_lt {b : Int} (hb : 0 ≤ b ∧ b ≤ 512) : ∀ {l : List Int}, Dg b l → 0 ≤ val b l ∧ val b l < 512 ^ l.length
  | [], _ => ⟨Int.le_refl 0, by show (0 : Int) < 1; decide⟩
  | x :: r, h => by
    have h1 := h x (.head _)
    have h2 := val_lt hb (l := r) fun y hy => h y (.tail _ hy)
    have h3 : 0 ≤ b * val b r := Int.mul_nonneg hb.1 h2.1
    have h4 : b * val b r ≤ 512 * val b r := Int.mul_le_mul_of_nonneg_right hb.2 h2.1
    rw [List.length_cons, Int.pow_succ]
    show 0 ≤ x + b * val b r ∧ x + b * val b r < _
    (first | lia | omega)

theorem pow512 {n : Nat} (h : n ≤ 10) : (512 : Int) ^ n ≤ 1237940039285380274899124224 :=
  (by decide +kernel : ∀ n : Fin 11, (512 : Int) ^ n.val ≤ 1237940039285380274899124224) ⟨n, Nat.lt_succ_of_le h⟩

noncomputable def SpScaled (F : List V → Option V) : Prop := ∀ (row : List Int) (f m : Int) (w : Nat), w ≤ 9 → 1 ≤ w → row.length ≤ 100 → Dg (2 ^ w) row → 0 ≤ f ∧ f ≤ 1000000 → 0 ≤ m ∧ m ≤ 1000000 →
  ∃ r, F [.il row, .int f, .int m, .int w] = some r ∧ ∃ l, r = .il l ∧ Nf (2 ^ w) l ∧ val (2 ^ w) l = val (2 ^ w) row * f + m ∧ l.length ≤ row.length + 50

theorem half_of {a b m : Int} (ha : 0 ≤ a) (hb : 2 ≤ b) (h : a ≤ 2 * m) : 0 ≤ a / b ∧ a / b ≤ m := by
  have h2 : 0 ≤ a / b := Int.ediv_nonneg ha (by (first | lia | omega))
  refine ⟨h2, ?_⟩
  have h1 := Int.ediv_mul_le a (b := b) (by (first | lia | omega))
  have h3 : a / b * 2 ≤ a / b * b := Int.mul_le_mul_of_nonneg_left hb h2
  (first | lia | omega)

inductive ScaJ (row : List Int) (f : Int) (m : Int) (w : Nat) (b : Int) (n : Nat) (s : St) : Prop
  | mk (g : List Int) (c : Int) (z : Option V) (h0 : s = ([some (.il row), some (.int f), some (.int c), some (.int w), some (.il g), some (.int (b - 1)), z], none)) (h1 : 0 ≤ c) (h2 : c < 2 ^ n) (h3 : g.length + n ≤ row.length + 50) (h4 : Dg b g) (h5 : val b g + b ^ g.length * c = val b row * f + m) : ScaJ row f m w b n s
inductive ScaI (row : List Int) (f : Int) (m : Int) (w : Nat) (b : Int) (i : Nat) (s : St) : Prop
  | mk (g : List Int) (c : Int) (z : Option V) (h0 : s = ([some (.il row), some (.int f), some (.int c), some (.int w), some (.il g), some (.int (b - 1)), z], none)) (h1 : 0 ≤ c) (h2 : c ≤ 1000000000) (h3 : g.length = i) (h4 : Dg b g) (h5 : val b g + b ^ g.length * c = val b (row.take i) * f + m) : ScaI row f m w b i s
theorem sp_scaled (P : Fns) (hn : SpNormal (P.fn "normal")) : SpScaled (run P fuel (mOf 4) T.scaled 7 4) := fun row f m w hw9 hw1 hlen hdr hf0 hm0 => by
  have hb := pow_bounds hw9 hw1
  refine run_of rfl ?_
  show Wp P fuel (mOf 4) T.scaled ([some (.il row), some (.int f), some (.int m), some (.int w), none, none, none], none) _
  unfold T.scaled
  (repeat (first | (simp (disch := first | lia | omega) only [thenQ_ret, loopQ_next, loopQ_ret, wp_skip, wp_asg, wp_asg2, wp_asg3, wp_aug, wp_ite, wp_ret, wp_app, wp_pop, wp_setI, wp_augI, wp_setB, op_add, op_sub, op_mul_s, op_mul, op_fdiv, op_mod, op_shl, op_shr, op_band, cm_lt, cm_le, cm_gt, cm_ge, cm_eq, cm_ne, ev_int, ev_bool, ev_var, ev_bin, ev_cmp, ev_not, ev_and, ev_or, ev_ife, ev_idx, ev_upto, ev_from1, ev_all, ev_rev, ev_cat, ev_rep, ev_lit0, ev_lit1, ev_lst1, ev_rows2, ev_call1, ev_call2, ev_call3, ev_call4, ev_len, ev_min2, ev_sum, ev_toInt, ev_toList, ev_range1, ev_range3, ev_zip, ev_enum, op1_some', op1_none', vBin_int, vCmp_int, vNot_bool, vIdx_il, vUpto_il, vUpto_arg, vList_il', vCat_il, vRep_il, vMin_int, vLst1_int, vRows2_il, vSum_il, vToInt_int, vZip_il, vEnum_il, vRange_1, vRange_dn, asg_int, asg_il, ret_int, ret_bool, ret_il, ret_fresh, own_var, fr_var, fr_idx, fr_upto, fr_from1, fr_all, fr_rev, fr_cat, fr_rep, fr_lit, fr_lst1, fr_call1, fr_call2, fr_call3, fr_call4, fr_toList, fr_drawn, fr_comp, gt, pt, inEv, Option.map_some, Option.map_none, List.length_cons, List.length_nil, Nat.reduceAdd, Nat.reduceLT, decide_true, decide_false, decide_eq_true_eq, Bool.or_true, Bool.true_or, Bool.false_or, Bool.or_false, Int.toNat_natCast, and_self, true_and, and_true, if_true, if_false, Bool.false_eq_true, Bool.true_and, Bool.and_true, Nat.reduceBEq, bne_self_eq_false, Nat.reduceBNe, mOf, cap]) | rw [thenQ_next] | rw [wp_seq] | simp only [wp_seq, thenQ_next]))
  generalize hB : (2 : Int) ^ w = b at hb hdr ⊢
  rw [Int.one_mul]
  refine wp_forV (l := row) (ScaI row f m w b) rfl rfl ?_ ⟨[], m, none, rfl, by (first | lia | omega), by (first | lia | omega), rfl, dg_nil, by simp [val]⟩ ?_
  · rintro i n σ bx hi ⟨g, c, z, hs, hc0, hc1, hg, hd, hv⟩
    cases hs
    have hilt := (List.getElem?_eq_some_iff.mp hi).1
    have hnm := hdr n (List.mem_of_getElem? hi)
    have hnf : 0 ≤ n * f ∧ n * f ≤ 512000000 := by
      refine ⟨Int.mul_nonneg hnm.1 hf0.1, ?_⟩
      have h1 : n * f ≤ 512 * f := Int.mul_le_mul_of_nonneg_right (by (first | lia | omega)) hf0.1
      (first | lia | omega)
    (repeat (first | (simp (disch := first | lia | omega) only [thenQ_ret, loopQ_next, loopQ_ret, wp_skip, wp_asg, wp_asg2, wp_asg3, wp_aug, wp_ite, wp_ret, wp_app, wp_pop, wp_setI, wp_augI, wp_setB, op_add, op_sub, op_mul_s, op_mul, op_fdiv, op_mod, op_shl, op_shr, op_band, cm_lt, cm_le, cm_gt, cm_ge, cm_eq, cm_ne, ev_int, ev_bool, ev_var, ev_bin, ev_cmp, ev_not, ev_and, ev_or, ev_ife, ev_idx, ev_upto, ev_from1, ev_all, ev_rev, ev_cat, ev_rep, ev_lit0, ev_lit1, ev_lst1, ev_rows2, ev_call1, ev_call2, ev_call3, ev_call4, ev_len, ev_min2, ev_sum, ev_toInt, ev_toList, ev_range1, ev_range3, ev_zip, ev_enum, op1_some', op1_none', vBin_int, vCmp_int, vNot_bool, vIdx_il, vUpto_il, vUpto_arg, vList_il', vCat_il, vRep_il, vMin_int, vLst1_int, vRows2_il, vSum_il, vToInt_int, vZip_il, vEnum_il, vRange_1, vRange_dn, asg_int, asg_il, ret_int, ret_bool, ret_il, ret_fresh, own_var, fr_var, fr_idx, fr_upto, fr_from1, fr_all, fr_rev, fr_cat, fr_rep, fr_lit, fr_lst1, fr_call1, fr_call2, fr_call3, fr_call4, fr_toList, fr_drawn, fr_comp, gt, pt, inEv, Option.map_some, Option.map_none, List.length_cons, List.length_nil, Nat.reduceAdd, Nat.reduceLT, decide_true, decide_false, decide_eq_true_eq, Bool.or_true, Bool.true_or, Bool.false_or, Bool.or_false, Int.toNat_natCast, and_self, true_and, and_true, if_true, if_false, Bool.false_eq_true, Bool.true_and, Bool.and_true, Nat.reduceBEq, bne_self_eq_false, Nat.reduceBNe, mOf, cap]) | rw [thenQ_next] | rw [wp_seq] | simp only [wp_seq, thenQ_next]))
    rw [← hB, mask_mod (by (first | lia | omega))]
    rw [hB]
    have hq := half_of (a := c + n * f) (m := 1000000000) (by (first | lia | omega)) hb.1 (by (first | lia | omega))
    refine ⟨by (first | lia | omega), _, _, _, rfl, hq.1, hq.2, by simp [hg], dg_append hd (dg_one (mod_dg (by (first | lia | omega)))), ?_⟩
    rw [carry_step b (c + n * f) g (by (first | lia | omega)), take_snoc (by (first | lia | omega)), val_snoc, Int.mul_add, ← Int.add_assoc, hv]
    have hg' : row.getD i 0 = n := by rw [List.getD_eq_getElem?_getD, hi]; rfl
    rw [hg', List.length_take, Nat.min_eq_left (by (first | lia | omega)), hg, Int.add_mul, Int.mul_assoc]
    (first | lia | omega)
  · rintro s ⟨g, c, z, rfl, hc0, hc1, hg, hd, hv⟩
    (repeat (first | (simp (disch := first | lia | omega) only [thenQ_ret, loopQ_next, loopQ_ret, wp_skip, wp_asg, wp_asg2, wp_asg3, wp_aug, wp_ite, wp_ret, wp_app, wp_pop, wp_setI, wp_augI, wp_setB, op_add, op_sub, op_mul_s, op_mul, op_fdiv, op_mod, op_shl, op_shr, op_band, cm_lt, cm_le, cm_gt, cm_ge, cm_eq, cm_ne, ev_int, ev_bool, ev_var, ev_bin, ev_cmp, ev_not, ev_and, ev_or, ev_ife, ev_idx, ev_upto, ev_from1, ev_all, ev_rev, ev_cat, ev_rep, ev_lit0, ev_lit1, ev_lst1, ev_rows2, ev_call1, ev_call2, ev_call3, ev_call4, ev_len, ev_min2, ev_sum, ev_toInt, ev_toList, ev_range1, ev_range3, ev_zip, ev_enum, op1_some', op1_none', vBin_int, vCmp_int, vNot_bool, vIdx_il, vUpto_il, vUpto_arg, vList_il', vCat_il, vRep_il, vMin_int, vLst1_int, vRows2_il, vSum_il, vToInt_int, vZip_il, vEnum_il, vRange_1, vRange_dn, asg_int, asg_il, ret_int, ret_bool, ret_il, ret_fresh, own_var, fr_var, fr_idx, fr_upto, fr_from1, fr_all, fr_rev, fr_cat, fr_rep, fr_lit, fr_lst1, fr_call1, fr_call2, fr_call3, fr_call4, fr_toList, fr_drawn, fr_comp, gt, pt, inEv, Option.map_some, Option.map_none, List.length_cons, List.length_nil, Nat.reduceAdd, Nat.reduceLT, decide_true, decide_false, decide_eq_true_eq, Bool.or_true, Bool.true_or, Bool.false_or, Bool.or_false, Int.toNat_natCast, and_self, true_and, and_true, if_true, if_false, Bool.false_eq_true, Bool.true_and, Bool.and_true, Nat.reduceBEq, bne_self_eq_false, Nat.reduceBNe, mOf, cap]) | rw [thenQ_next] | rw [wp_seq] | simp only [wp_seq, thenQ_next]))
    rw [List.take_length] at hv
    refine wp_while (ScaJ row f m w b) ?_ 50 (by decide) ⟨g, c, z, rfl, hc0, by (first | lia | omega), by (first | lia | omega), hd, hv⟩
    rintro n σ bx ⟨g, c, z, hs, hc0, hc1, hg, hd, hv⟩
    cases hs
    (repeat (first | (simp (disch := first | lia | omega) only [thenQ_ret, loopQ_next, loopQ_ret, wp_skip, wp_asg, wp_asg2, wp_asg3, wp_aug, wp_ite, wp_ret, wp_app, wp_pop, wp_setI, wp_augI, wp_setB, op_add, op_sub, op_mul_s, op_mul, op_fdiv, op_mod, op_shl, op_shr, op_band, cm_lt, cm_le, cm_gt, cm_ge, cm_eq, cm_ne, ev_int, ev_bool, ev_var, ev_bin, ev_cmp, ev_not, ev_and, ev_or, ev_ife, ev_idx, ev_upto, ev_from1, ev_all, ev_rev, ev_cat, ev_rep, ev_lit0, ev_lit1, ev_lst1, ev_rows2, ev_call1, ev_call2, ev_call3, ev_call4, ev_len, ev_min2, ev_sum, ev_toInt, ev_toList, ev_range1, ev_range3, ev_zip, ev_enum, op1_some', op1_none', vBin_int, vCmp_int, vNot_bool, vIdx_il, vUpto_il, vUpto_arg, vList_il', vCat_il, vRep_il, vMin_int, vLst1_int, vRows2_il, vSum_il, vToInt_int, vZip_il, vEnum_il, vRange_1, vRange_dn, asg_int, asg_il, ret_int, ret_bool, ret_il, ret_fresh, own_var, fr_var, fr_idx, fr_upto, fr_from1, fr_all, fr_rev, fr_cat, fr_rep, fr_lit, fr_lst1, fr_call1, fr_call2, fr_call3, fr_call4, fr_toList, fr_drawn, fr_comp, gt, pt, inEv, Option.map_some, Option.map_none, List.length_cons, List.length_nil, Nat.reduceAdd, Nat.reduceLT, decide_true, decide_false, decide_eq_true_eq, Bool.or_true, Bool.true_or, Bool.false_or, Bool.or_false, Int.toNat_natCast, and_self, true_and, and_true, if_true, if_false, Bool.false_eq_true, Bool.true_and, Bool.and_true, Nat.reduceBEq, bne_self_eq_false, Nat.reduceBNe, mOf, cap]) | rw [thenQ_next] | rw [wp_seq] | simp only [wp_seq, thenQ_next]))
    refine ⟨decide (0 < c), none, rfl, fun hz => ?_, fun hz => ?_⟩
    · have hz := of_decide_eq_false hz
      have hc : c = 0 := by (first | lia | omega)
      subst hc
      obtain ⟨r, hr, rfl⟩ := hn g (by (first | lia | omega))
      rw [hr]
      (repeat (first | (simp (disch := first | lia | omega) only [thenQ_ret, loopQ_next, loopQ_ret, wp_skip, wp_asg, wp_asg2, wp_asg3, wp_aug, wp_ite, wp_ret, wp_app, wp_pop, wp_setI, wp_augI, wp_setB, op_add, op_sub, op_mul_s, op_mul, op_fdiv, op_mod, op_shl, op_shr, op_band, cm_lt, cm_le, cm_gt, cm_ge, cm_eq, cm_ne, ev_int, ev_bool, ev_var, ev_bin, ev_cmp, ev_not, ev_and, ev_or, ev_ife, ev_idx, ev_upto, ev_from1, ev_all, ev_rev, ev_cat, ev_rep, ev_lit0, ev_lit1, ev_lst1, ev_rows2, ev_call1, ev_call2, ev_call3, ev_call4, ev_len, ev_min2, ev_sum, ev_toInt, ev_toList, ev_range1, ev_range3, ev_zip, ev_enum, op1_some', op1_none', vBin_int, vCmp_int, vNot_bool, vIdx_il, vUpto_il, vUpto_arg, vList_il', vCat_il, vRep_il, vMin_int, vLst1_int, vRows2_il, vSum_il, vToInt_int, vZip_il, vEnum_il, vRange_1, vRange_dn, asg_int, asg_il, ret_int, ret_bool, ret_il, ret_fresh, own_var, fr_var, fr_idx, fr_upto, fr_from1, fr_all, fr_rev, fr_cat, fr_rep, fr_lit, fr_lst1, fr_call1, fr_call2, fr_call3, fr_call4, fr_toList, fr_drawn, fr_comp, gt, pt, inEv, Option.map_some, Option.map_none, List.length_cons, List.length_nil, Nat.reduceAdd, Nat.reduceLT, decide_true, decide_false, decide_eq_true_eq, Bool.or_true, Bool.true_or, Bool.false_or, Bool.or_false, Int.toNat_natCast, and_self, true_and, and_true, if_true, if_false, Bool.false_eq_true, Bool.true_and, Bool.and_true, Nat.reduceBEq, bne_self_eq_false, Nat.reduceBNe, mOf, cap]) | rw [thenQ_next] | rw [wp_seq] | simp only [wp_seq, thenQ_next]))
      refine ⟨_, rfl, rfl, _, rfl, dg_norm hd, ?_, ?_⟩
      · rw [val_norm, ← hv]; simp
      · have := norm_len g; (first | lia | omega)
    · have hz := of_decide_eq_true hz
      obtain ⟨j, rfl⟩ : ∃ j, n = j + 1 := by
        cases n with
        | zero => simp at hc1; (first | lia | omega)
        | succ j => exact ⟨j, rfl⟩
      rw [← hB, mask_mod (by (first | lia | omega))]
      have hq := carry_down (n := j) hw1 ⟨hc0, hc1⟩
      rw [hB] at hq ⊢
      refine ⟨by (first | lia | omega), j, by (first | lia | omega), _, _, _, rfl, hq.1, hq.2, by simp; (first | lia | omega), dg_append hd (dg_one (mod_dg (by (first | lia | omega)))), ?_⟩
      rw [carry_step b c g (by (first | lia | omega)), hv]

noncomputable def SpLawRow (F : List V → Option V) : Prop := ∀ (n : Int) (w : Nat), w ≤ 9 → 1 ≤ w → 0 ≤ n ∧ n < 2 ^ 300 → ∃ r, F [.int n, .int w] = some r ∧ ∃ l, r = .il l ∧ Nf (2 ^ w) l ∧ val (2 ^ w) l = n ∧ l.length ≤ 300

inductive RowI (n₀ : Int) (w : Nat) (b : Int) (n : Nat) (s : St) : Prop
  | mk (g : List Int) (c : Int) (h0 : s = ([some (.int c), some (.int w), some (.il g)], none)) (h1 : 0 ≤ c) (h2 : c < 2 ^ n) (h3 : g.length + n ≤ 300) (h4 : Dg b g) (h5 : val b g + b ^ g.length * c = n₀) (h6 : (c = 0 → norm g = g)) : RowI n₀ w b n s
theorem sp_law_row (P : Fns) : SpLawRow (run P fuel (mOf 2) T.lawRow 3 2) := fun n₀ w hw9 hw1 hn₀ => by
  have hb := pow_bounds hw9 hw1
  refine run_of rfl ?_
  show Wp P fuel (mOf 2) T.lawRow ([some (.int n₀), some (.int w), none], none) _
  unfold T.lawRow
  (repeat (first | (simp (disch := first | lia | omega) only [thenQ_ret, loopQ_next, loopQ_ret, wp_skip, wp_asg, wp_asg2, wp_asg3, wp_aug, wp_ite, wp_ret, wp_app, wp_pop, wp_setI, wp_augI, wp_setB, op_add, op_sub, op_mul_s, op_mul, op_fdiv, op_mod, op_shl, op_shr, op_band, cm_lt, cm_le, cm_gt, cm_ge, cm_eq, cm_ne, ev_int, ev_bool, ev_var, ev_bin, ev_cmp, ev_not, ev_and, ev_or, ev_ife, ev_idx, ev_upto, ev_from1, ev_all, ev_rev, ev_cat, ev_rep, ev_lit0, ev_lit1, ev_lst1, ev_rows2, ev_call1, ev_call2, ev_call3, ev_call4, ev_len, ev_min2, ev_sum, ev_toInt, ev_toList, ev_range1, ev_range3, ev_zip, ev_enum, op1_some', op1_none', vBin_int, vCmp_int, vNot_bool, vIdx_il, vUpto_il, vUpto_arg, vList_il', vCat_il, vRep_il, vMin_int, vLst1_int, vRows2_il, vSum_il, vToInt_int, vZip_il, vEnum_il, vRange_1, vRange_dn, asg_int, asg_il, ret_int, ret_bool, ret_il, ret_fresh, own_var, fr_var, fr_idx, fr_upto, fr_from1, fr_all, fr_rev, fr_cat, fr_rep, fr_lit, fr_lst1, fr_call1, fr_call2, fr_call3, fr_call4, fr_toList, fr_drawn, fr_comp, gt, pt, inEv, Option.map_some, Option.map_none, List.length_cons, List.length_nil, Nat.reduceAdd, Nat.reduceLT, decide_true, decide_false, decide_eq_true_eq, Bool.or_true, Bool.true_or, Bool.false_or, Bool.or_false, Int.toNat_natCast, and_self, true_and, and_true, if_true, if_false, Bool.false_eq_true, Bool.true_and, Bool.and_true, Nat.reduceBEq, bne_self_eq_false, Nat.reduceBNe, mOf, cap]) | rw [thenQ_next] | rw [wp_seq] | simp only [wp_seq, thenQ_next]))
  generalize hB : (2 : Int) ^ w = b at hb ⊢
  refine wp_while (RowI n₀ w b) ?_ 300 (by decide)
    ⟨[], n₀, rfl, hn₀.1, hn₀.2, by decide, dg_nil, by simp [val], fun _ => rfl⟩
  rintro n σ bx ⟨g, c, hs, hc0, hc1, hg, hd, hv, hl⟩
  cases hs
  (repeat (first | (simp (disch := first | lia | omega) only [thenQ_ret, loopQ_next, loopQ_ret, wp_skip, wp_asg, wp_asg2, wp_asg3, wp_aug, wp_ite, wp_ret, wp_app, wp_pop, wp_setI, wp_augI, wp_setB, op_add, op_sub, op_mul_s, op_mul, op_fdiv, op_mod, op_shl, op_shr, op_band, cm_lt, cm_le, cm_gt, cm_ge, cm_eq, cm_ne, ev_int, ev_bool, ev_var, ev_bin, ev_cmp, ev_not, ev_and, ev_or, ev_ife, ev_idx, ev_upto, ev_from1, ev_all, ev_rev, ev_cat, ev_rep, ev_lit0, ev_lit1, ev_lst1, ev_rows2, ev_call1, ev_call2, ev_call3, ev_call4, ev_len, ev_min2, ev_sum, ev_toInt, ev_toList, ev_range1, ev_range3, ev_zip, ev_enum, op1_some', op1_none', vBin_int, vCmp_int, vNot_bool, vIdx_il, vUpto_il, vUpto_arg, vList_il', vCat_il, vRep_il, vMin_int, vLst1_int, vRows2_il, vSum_il, vToInt_int, vZip_il, vEnum_il, vRange_1, vRange_dn, asg_int, asg_il, ret_int, ret_bool, ret_il, ret_fresh, own_var, fr_var, fr_idx, fr_upto, fr_from1, fr_all, fr_rev, fr_cat, fr_rep, fr_lit, fr_lst1, fr_call1, fr_call2, fr_call3, fr_call4, fr_toList, fr_drawn, fr_comp, gt, pt, inEv, Option.map_some, Option.map_none, List.length_cons, List.length_nil, Nat.reduceAdd, Nat.reduceLT, decide_true, decide_false, decide_eq_true_eq, Bool.or_true, Bool.true_or, Bool.false_or, Bool.or_false, Int.toNat_natCast, and_self, true_and, and_true, if_true, if_false, Bool.false_eq_true, Bool.true_and, Bool.and_true, Nat.reduceBEq, bne_self_eq_false, Nat.reduceBNe, mOf, cap]) | rw [thenQ_next] | rw [wp_seq] | simp only [wp_seq, thenQ_next]))
  refine ⟨decide (0 < c), none, rfl, fun hz => ?_, fun hz => ?_⟩
  · have hz := of_decide_eq_false hz
    have hc : c = 0 := by (first | lia | omega)
    subst hc
    refine ⟨_, rfl, rfl, _, rfl, ⟨hd, hl rfl⟩, ?_, by (first | lia | omega)⟩
    rw [← hv]; simp
  · have hz := of_decide_eq_true hz
    obtain ⟨j, rfl⟩ : ∃ j, n = j + 1 := by
      cases n with
      | zero => simp at hc1; (first | lia | omega)
      | succ j => exact ⟨j, rfl⟩
    have hq := carry_down (n := j) hw1 ⟨hc0, hc1⟩
    rw [hB] at hq
    rw [Int.one_mul, hB]
    refine ⟨by (first | lia | omega), j, by (first | lia | omega), _, _, rfl, hq.1, hq.2, by simp; (first | lia | omega), dg_append hd (dg_one (mod_dg (by (first | lia | omega)))), ?_, fun h0 => ?_⟩
    · rw [carry_step b c g (by (first | lia | omega)), hv]
    · refine norm_last fun hm => ?_
      have := Int.emod_add_mul_ediv c b
      rw [h0, hm] at this
      (first | lia | omega)

noncomputable def SpLawOf (F : List V → Option V) : Prop := ∀ (row : List Int) (w : Nat), w ≤ 9 → 1 ≤ w → row.length ≤ 10 → Dg (2 ^ w) row → ∃ r, F [.il row, .int w] = some r ∧ r = .int (val (2 ^ w) row)

theorem sp_law_of (P : Fns) : SpLawOf (run P fuel mNo T.lawOf 4 2) := fun row w hw9 hw1 hlen hd => by
  have hb := pow_bounds hw9 hw1
  refine run_of rfl ?_
  show Wp P fuel mNo T.lawOf ([some (.il row), some (.int w), none, none], none) _
  unfold T.lawOf
  (repeat (first | (simp (disch := first | lia | omega) only [thenQ_ret, loopQ_next, loopQ_ret, wp_skip, wp_asg, wp_asg2, wp_asg3, wp_aug, wp_ite, wp_ret, wp_app, wp_pop, wp_setI, wp_augI, wp_setB, op_add, op_sub, op_mul_s, op_mul, op_fdiv, op_mod, op_shl, op_shr, op_band, cm_lt, cm_le, cm_gt, cm_ge, cm_eq, cm_ne, ev_int, ev_bool, ev_var, ev_bin, ev_cmp, ev_not, ev_and, ev_or, ev_ife, ev_idx, ev_upto, ev_from1, ev_all, ev_rev, ev_cat, ev_rep, ev_lit0, ev_lit1, ev_lst1, ev_rows2, ev_call1, ev_call2, ev_call3, ev_call4, ev_len, ev_min2, ev_sum, ev_toInt, ev_toList, ev_range1, ev_range3, ev_zip, ev_enum, op1_some', op1_none', vBin_int, vCmp_int, vNot_bool, vIdx_il, vUpto_il, vUpto_arg, vList_il', vCat_il, vRep_il, vMin_int, vLst1_int, vRows2_il, vSum_il, vToInt_int, vZip_il, vEnum_il, vRange_1, vRange_dn, asg_int, asg_il, ret_int, ret_bool, ret_il, ret_fresh, own_var, fr_var, fr_idx, fr_upto, fr_from1, fr_all, fr_rev, fr_cat, fr_rep, fr_lit, fr_lst1, fr_call1, fr_call2, fr_call3, fr_call4, fr_toList, fr_drawn, fr_comp, gt, pt, inEv, Option.map_some, Option.map_none, List.length_cons, List.length_nil, Nat.reduceAdd, Nat.reduceLT, decide_true, decide_false, decide_eq_true_eq, Bool.or_true, Bool.true_or, Bool.false_or, Bool.or_false, Int.toNat_natCast, and_self, true_and, and_true, if_true, if_false, Bool.false_eq_true, Bool.true_and, Bool.and_true, Nat.reduceBEq, bne_self_eq_false, Nat.reduceBNe, mOf, cap]) | rw [thenQ_next] | rw [wp_seq] | simp only [wp_seq, thenQ_next]))
  refine wp_for1 (l := row.reverse) (b₁ := none) (fun i s => ∃ z, s = ([some (.il row), some (.int w), some (.int (val (2 ^ w) ((row.reverse.take i).reverse))), z], none)) (.inl (by (repeat (first | (simp (disch := first | lia | omega) only [thenQ_ret, loopQ_next, loopQ_ret, wp_skip, wp_asg, wp_asg2, wp_asg3, wp_aug, wp_ite, wp_ret, wp_app, wp_pop, wp_setI, wp_augI, wp_setB, op_add, op_sub, op_mul_s, op_mul, op_fdiv, op_mod, op_shl, op_shr, op_band, cm_lt, cm_le, cm_gt, cm_ge, cm_eq, cm_ne, ev_int, ev_bool, ev_var, ev_bin, ev_cmp, ev_not, ev_and, ev_or, ev_ife, ev_idx, ev_upto, ev_from1, ev_all, ev_rev, ev_cat, ev_rep, ev_lit0, ev_lit1, ev_lst1, ev_rows2, ev_call1, ev_call2, ev_call3, ev_call4, ev_len, ev_min2, ev_sum, ev_toInt, ev_toList, ev_range1, ev_range3, ev_zip, ev_enum, op1_some', op1_none', vBin_int, vCmp_int, vNot_bool, vIdx_il, vUpto_il, vUpto_arg, vList_il', vCat_il, vRep_il, vMin_int, vLst1_int, vRows2_il, vSum_il, vToInt_int, vZip_il, vEnum_il, vRange_1, vRange_dn, asg_int, asg_il, ret_int, ret_bool, ret_il, ret_fresh, own_var, fr_var, fr_idx, fr_upto, fr_from1, fr_all, fr_rev, fr_cat, fr_rep, fr_lit, fr_lst1, fr_call1, fr_call2, fr_call3, fr_call4, fr_toList, fr_drawn, fr_comp, gt, pt, inEv, Option.map_some, Option.map_none, List.length_cons, List.length_nil, Nat.reduceAdd, Nat.reduceLT, decide_true, decide_false, decide_eq_true_eq, Bool.or_true, Bool.true_or, Bool.false_or, Bool.or_false, Int.toNat_natCast, and_self, true_and, and_true, if_true, if_false, Bool.false_eq_true, Bool.true_and, Bool.and_true, Nat.reduceBEq, bne_self_eq_false, Nat.reduceBNe, mOf, cap]) | rw [thenQ_next] | rw [wp_seq] | simp only [wp_seq, thenQ_next])))) rfl rfl ?_ ⟨none, rfl⟩ ?_
  · rintro i n σ bx hi ⟨z, hs⟩
    cases hs
    have hilt := (List.getElem?_eq_some_iff.mp hi).1
    have hD : Dg (2 ^ w) (row.reverse.take i).reverse := fun x hx => hd x (by
      have := List.mem_reverse.mp hx
      exact List.mem_reverse.mp (List.mem_of_mem_take this))
    have hvl := val_lt ⟨by (first | lia | omega), hb.2⟩ hD
    have hL : (row.reverse.take i).reverse.length ≤ 10 := by
      rw [List.length_reverse, List.length_take, List.length_reverse]; (first | lia | omega)
    have := pow512 hL
    (repeat (first | (simp (disch := first | lia | omega) only [thenQ_ret, loopQ_next, loopQ_ret, wp_skip, wp_asg, wp_asg2, wp_asg3, wp_aug, wp_ite, wp_ret, wp_app, wp_pop, wp_setI, wp_augI, wp_setB, op_add, op_sub, op_mul_s, op_mul, op_fdiv, op_mod, op_shl, op_shr, op_band, cm_lt, cm_le, cm_gt, cm_ge, cm_eq, cm_ne, ev_int, ev_bool, ev_var, ev_bin, ev_cmp, ev_not, ev_and, ev_or, ev_ife, ev_idx, ev_upto, ev_from1, ev_all, ev_rev, ev_cat, ev_rep, ev_lit0, ev_lit1, ev_lst1, ev_rows2, ev_call1, ev_call2, ev_call3, ev_call4, ev_len, ev_min2, ev_sum, ev_toInt, ev_toList, ev_range1, ev_range3, ev_zip, ev_enum, op1_some', op1_none', vBin_int, vCmp_int, vNot_bool, vIdx_il, vUpto_il, vUpto_arg, vList_il', vCat_il, vRep_il, vMin_int, vLst1_int, vRows2_il, vSum_il, vToInt_int, vZip_il, vEnum_il, vRange_1, vRange_dn, asg_int, asg_il, ret_int, ret_bool, ret_il, ret_fresh, own_var, fr_var, fr_idx, fr_upto, fr_from1, fr_all, fr_rev, fr_cat, fr_rep, fr_lit, fr_lst1, fr_call1, fr_call2, fr_call3, fr_call4, fr_toList, fr_drawn, fr_comp, gt, pt, inEv, Option.map_some, Option.map_none, List.length_cons, List.length_nil, Nat.reduceAdd, Nat.reduceLT, decide_true, decide_false, decide_eq_true_eq, Bool.or_true, Bool.true_or, Bool.false_or, Bool.or_false, Int.toNat_natCast, and_self, true_and, and_true, if_true, if_false, Bool.false_eq_true, Bool.true_and, Bool.and_true, Nat.reduceBEq, bne_self_eq_false, Nat.reduceBNe, mOf, cap]) | rw [thenQ_next] | rw [wp_seq] | simp only [wp_seq, thenQ_next]))
    refine ⟨some (.int n), ?_⟩
    have hn' : row.reverse.getD i 0 = n := by rw [List.getD_eq_getElem?_getD, hi]; rfl
    rw [take_snoc hilt, hn', List.reverse_append, List.reverse_singleton, List.singleton_append]
    show _ = ([_, _, some (V.int (n + 2 ^ w * val (2 ^ w) _)), _], _)
    rw [Int.add_comm, Int.mul_comm]
  · rintro s ⟨z, rfl⟩
    (repeat (first | (simp (disch := first | lia | omega) only [thenQ_ret, loopQ_next, loopQ_ret, wp_skip, wp_asg, wp_asg2, wp_asg3, wp_aug, wp_ite, wp_ret, wp_app, wp_pop, wp_setI, wp_augI, wp_setB, op_add, op_sub, op_mul_s, op_mul, op_fdiv, op_mod, op_shl, op_shr, op_band, cm_lt, cm_le, cm_gt, cm_ge, cm_eq, cm_ne, ev_int, ev_bool, ev_var, ev_bin, ev_cmp, ev_not, ev_and, ev_or, ev_ife, ev_idx, ev_upto, ev_from1, ev_all, ev_rev, ev_cat, ev_rep, ev_lit0, ev_lit1, ev_lst1, ev_rows2, ev_call1, ev_call2, ev_call3, ev_call4, ev_len, ev_min2, ev_sum, ev_toInt, ev_toList, ev_range1, ev_range3, ev_zip, ev_enum, op1_some', op1_none', vBin_int, vCmp_int, vNot_bool, vIdx_il, vUpto_il, vUpto_arg, vList_il', vCat_il, vRep_il, vMin_int, vLst1_int, vRows2_il, vSum_il, vToInt_int, vZip_il, vEnum_il, vRange_1, vRange_dn, asg_int, asg_il, ret_int, ret_bool, ret_il, ret_fresh, own_var, fr_var, fr_idx, fr_upto, fr_from1, fr_all, fr_rev, fr_cat, fr_rep, fr_lit, fr_lst1, fr_call1, fr_call2, fr_call3, fr_call4, fr_toList, fr_drawn, fr_comp, gt, pt, inEv, Option.map_some, Option.map_none, List.length_cons, List.length_nil, Nat.reduceAdd, Nat.reduceLT, decide_true, decide_false, decide_eq_true_eq, Bool.or_true, Bool.true_or, Bool.false_or, Bool.or_false, Int.toNat_natCast, and_self, true_and, and_true, if_true, if_false, Bool.false_eq_true, Bool.true_and, Bool.and_true, Nat.reduceBEq, bne_self_eq_false, Nat.reduceBNe, mOf, cap]) | rw [thenQ_next] | rw [wp_seq] | simp only [wp_seq, thenQ_next]))
    refine ⟨_, rfl, rfl, ?_⟩
    rw [List.take_length, List.reverse_reverse]

noncomputable def SpSizeFor (F : List V → Option V) : Prop := ∀ many : Int, 1 ≤ many ∧ many ≤ 400 → ∃ r, F [.int many] = some r ∧ ∃ k : Nat, r = .int (2 ^ k) ∧ k ≤ 9 ∧ many ≤ 2 ^ k ∧ (many = 1 ∧ k = 0 ∨ 2 ^ k < 2 * many)

theorem pow2_le {k : Nat} (h : k ≤ 12) : (1 : Int) ≤ 2 ^ k ∧ (2 : Int) ^ k ≤ 4096 :=
  (by decide +kernel : ∀ k : Fin 13, (1 : Int) ≤ 2 ^ k.val ∧ (2 : Int) ^ k.val ≤ 4096) ⟨k, Nat.lt_succ_of_le h⟩

inductive SizI (many : Int) (n : Nat) (s : St) : Prop
  | mk (k : Nat) (h0 : n = 9 - k) (h1 : k ≤ 9) (h2 : s = ([some (.int many), some (.int (2 ^ k))], none)) (h3 : (k = 0 ∨ 2 ^ k < 2 * many)) : SizI many n s
theorem sp_size_for (P : Fns) : SpSizeFor (run P fuel mNo T.sizeFor 2 1) := fun many hm => by
  refine run_of rfl ?_
  show Wp P fuel mNo T.sizeFor ([some (.int many), none], none) _
  unfold T.sizeFor
  (repeat (first | (simp (disch := first | lia | omega) only [thenQ_ret, loopQ_next, loopQ_ret, wp_skip, wp_asg, wp_asg2, wp_asg3, wp_aug, wp_ite, wp_ret, wp_app, wp_pop, wp_setI, wp_augI, wp_setB, op_add, op_sub, op_mul_s, op_mul, op_fdiv, op_mod, op_shl, op_shr, op_band, cm_lt, cm_le, cm_gt, cm_ge, cm_eq, cm_ne, ev_int, ev_bool, ev_var, ev_bin, ev_cmp, ev_not, ev_and, ev_or, ev_ife, ev_idx, ev_upto, ev_from1, ev_all, ev_rev, ev_cat, ev_rep, ev_lit0, ev_lit1, ev_lst1, ev_rows2, ev_call1, ev_call2, ev_call3, ev_call4, ev_len, ev_min2, ev_sum, ev_toInt, ev_toList, ev_range1, ev_range3, ev_zip, ev_enum, op1_some', op1_none', vBin_int, vCmp_int, vNot_bool, vIdx_il, vUpto_il, vUpto_arg, vList_il', vCat_il, vRep_il, vMin_int, vLst1_int, vRows2_il, vSum_il, vToInt_int, vZip_il, vEnum_il, vRange_1, vRange_dn, asg_int, asg_il, ret_int, ret_bool, ret_il, ret_fresh, own_var, fr_var, fr_idx, fr_upto, fr_from1, fr_all, fr_rev, fr_cat, fr_rep, fr_lit, fr_lst1, fr_call1, fr_call2, fr_call3, fr_call4, fr_toList, fr_drawn, fr_comp, gt, pt, inEv, Option.map_some, Option.map_none, List.length_cons, List.length_nil, Nat.reduceAdd, Nat.reduceLT, decide_true, decide_false, decide_eq_true_eq, Bool.or_true, Bool.true_or, Bool.false_or, Bool.or_false, Int.toNat_natCast, and_self, true_and, and_true, if_true, if_false, Bool.false_eq_true, Bool.true_and, Bool.and_true, Nat.reduceBEq, bne_self_eq_false, Nat.reduceBNe, mOf, cap]) | rw [thenQ_next] | rw [wp_seq] | simp only [wp_seq, thenQ_next]))
  refine wp_while (SizI many) ?_ 9 (by decide) ⟨0, rfl, by decide, rfl, .inl rfl⟩
  rintro n σ bx ⟨k, rfl, hk, hs, hlt⟩
  cases hs
  have hp := pow2_le (k := k) (by (first | lia | omega))
  (repeat (first | (simp (disch := first | lia | omega) only [thenQ_ret, loopQ_next, loopQ_ret, wp_skip, wp_asg, wp_asg2, wp_asg3, wp_aug, wp_ite, wp_ret, wp_app, wp_pop, wp_setI, wp_augI, wp_setB, op_add, op_sub, op_mul_s, op_mul, op_fdiv, op_mod, op_shl, op_shr, op_band, cm_lt, cm_le, cm_gt, cm_ge, cm_eq, cm_ne, ev_int, ev_bool, ev_var, ev_bin, ev_cmp, ev_not, ev_and, ev_or, ev_ife, ev_idx, ev_upto, ev_from1, ev_all, ev_rev, ev_cat, ev_rep, ev_lit0, ev_lit1, ev_lst1, ev_rows2, ev_call1, ev_call2, ev_call3, ev_call4, ev_len, ev_min2, ev_sum, ev_toInt, ev_toList, ev_range1, ev_range3, ev_zip, ev_enum, op1_some', op1_none', vBin_int, vCmp_int, vNot_bool, vIdx_il, vUpto_il, vUpto_arg, vList_il', vCat_il, vRep_il, vMin_int, vLst1_int, vRows2_il, vSum_il, vToInt_int, vZip_il, vEnum_il, vRange_1, vRange_dn, asg_int, asg_il, ret_int, ret_bool, ret_il, ret_fresh, own_var, fr_var, fr_idx, fr_upto, fr_from1, fr_all, fr_rev, fr_cat, fr_rep, fr_lit, fr_lst1, fr_call1, fr_call2, fr_call3, fr_call4, fr_toList, fr_drawn, fr_comp, gt, pt, inEv, Option.map_some, Option.map_none, List.length_cons, List.length_nil, Nat.reduceAdd, Nat.reduceLT, decide_true, decide_false, decide_eq_true_eq, Bool.or_true, Bool.true_or, Bool.false_or, Bool.or_false, Int.toNat_natCast, and_self, true_and, and_true, if_true, if_false, Bool.false_eq_true, Bool.true_and, Bool.and_true, Nat.reduceBEq, bne_self_eq_false, Nat.reduceBNe, mOf, cap]) | rw [thenQ_next] | rw [wp_seq] | simp only [wp_seq, thenQ_next]))
  refine ⟨decide (2 ^ k < many), none, rfl, fun hz => ?_, fun hz => ?_⟩
  · have hz := of_decide_eq_false hz
    refine ⟨_, rfl, rfl, k, rfl, hk, by (first | lia | omega), ?_⟩
    rcases hlt with h | h
    · subst h
      have e : (2 : Int) ^ 0 = 1 := rfl
      rw [e] at hz ⊢
      (first | lia | omega)
    · exact .inr h
  · have hz := of_decide_eq_true hz
    have h9 : k < 9 := by
      apply Nat.lt_of_le_of_ne hk
      rintro rfl
      have e : (2 : Int) ^ 9 = 512 := rfl
      rw [e] at hz; (first | lia | omega)
    refine ⟨8 - k, by (first | lia | omega), k + 1, by (first | lia | omega), by (first | lia | omega), ?_, .inr ?_⟩
    · rw [Int.pow_succ]
    · rw [Int.pow_succ]; (first | lia | omega)

noncomputable def SpFilled (F : List V → Option V) : Prop := ∀ (row : List Int) (n : Nat), row.length ≤ 1000 → n ≤ 1000 → ∃ r, F [.il row, .int n] = some r ∧ r = .il (row ++ List.replicate (n - row.length) 0)

theorem sp_filled (P : Fns) : SpFilled (run P fuel mNo T.filled 2 2) := fun row n hr hn => by
  refine run_of rfl ?_
  show Wp P fuel mNo T.filled ([some (.il row), some (.int n)], none) _
  unfold T.filled
  (repeat (first | (simp (disch := first | lia | omega) only [thenQ_ret, loopQ_next, loopQ_ret, wp_skip, wp_asg, wp_asg2, wp_asg3, wp_aug, wp_ite, wp_ret, wp_app, wp_pop, wp_setI, wp_augI, wp_setB, op_add, op_sub, op_mul_s, op_mul, op_fdiv, op_mod, op_shl, op_shr, op_band, cm_lt, cm_le, cm_gt, cm_ge, cm_eq, cm_ne, ev_int, ev_bool, ev_var, ev_bin, ev_cmp, ev_not, ev_and, ev_or, ev_ife, ev_idx, ev_upto, ev_from1, ev_all, ev_rev, ev_cat, ev_rep, ev_lit0, ev_lit1, ev_lst1, ev_rows2, ev_call1, ev_call2, ev_call3, ev_call4, ev_len, ev_min2, ev_sum, ev_toInt, ev_toList, ev_range1, ev_range3, ev_zip, ev_enum, op1_some', op1_none', vBin_int, vCmp_int, vNot_bool, vIdx_il, vUpto_il, vUpto_arg, vList_il', vCat_il, vRep_il, vMin_int, vLst1_int, vRows2_il, vSum_il, vToInt_int, vZip_il, vEnum_il, vRange_1, vRange_dn, asg_int, asg_il, ret_int, ret_bool, ret_il, ret_fresh, own_var, fr_var, fr_idx, fr_upto, fr_from1, fr_all, fr_rev, fr_cat, fr_rep, fr_lit, fr_lst1, fr_call1, fr_call2, fr_call3, fr_call4, fr_toList, fr_drawn, fr_comp, gt, pt, inEv, Option.map_some, Option.map_none, List.length_cons, List.length_nil, Nat.reduceAdd, Nat.reduceLT, decide_true, decide_false, decide_eq_true_eq, Bool.or_true, Bool.true_or, Bool.false_or, Bool.or_false, Int.toNat_natCast, and_self, true_and, and_true, if_true, if_false, Bool.false_eq_true, Bool.true_and, Bool.and_true, Nat.reduceBEq, bne_self_eq_false, Nat.reduceBNe, mOf, cap]) | rw [thenQ_next] | rw [wp_seq] | simp only [wp_seq, thenQ_next]))
  have e : ((n : Int) - row.length).toNat = n - row.length := by (first | lia | omega)
  rw [e]
  rw [vCat_il (by rw [List.length_replicate]; (first | lia | omega))]
  (repeat (first | (simp (disch := first | lia | omega) only [thenQ_ret, loopQ_next, loopQ_ret, wp_skip, wp_asg, wp_asg2, wp_asg3, wp_aug, wp_ite, wp_ret, wp_app, wp_pop, wp_setI, wp_augI, wp_setB, op_add, op_sub, op_mul_s, op_mul, op_fdiv, op_mod, op_shl, op_shr, op_band, cm_lt, cm_le, cm_gt, cm_ge, cm_eq, cm_ne, ev_int, ev_bool, ev_var, ev_bin, ev_cmp, ev_not, ev_and, ev_or, ev_ife, ev_idx, ev_upto, ev_from1, ev_all, ev_rev, ev_cat, ev_rep, ev_lit0, ev_lit1, ev_lst1, ev_rows2, ev_call1, ev_call2, ev_call3, ev_call4, ev_len, ev_min2, ev_sum, ev_toInt, ev_toList, ev_range1, ev_range3, ev_zip, ev_enum, op1_some', op1_none', vBin_int, vCmp_int, vNot_bool, vIdx_il, vUpto_il, vUpto_arg, vList_il', vCat_il, vRep_il, vMin_int, vLst1_int, vRows2_il, vSum_il, vToInt_int, vZip_il, vEnum_il, vRange_1, vRange_dn, asg_int, asg_il, ret_int, ret_bool, ret_il, ret_fresh, own_var, fr_var, fr_idx, fr_upto, fr_from1, fr_all, fr_rev, fr_cat, fr_rep, fr_lit, fr_lst1, fr_call1, fr_call2, fr_call3, fr_call4, fr_toList, fr_drawn, fr_comp, gt, pt, inEv, Option.map_some, Option.map_none, List.length_cons, List.length_nil, Nat.reduceAdd, Nat.reduceLT, decide_true, decide_false, decide_eq_true_eq, Bool.or_true, Bool.true_or, Bool.false_or, Bool.or_false, Int.toNat_natCast, and_self, true_and, and_true, if_true, if_false, Bool.false_eq_true, Bool.true_and, Bool.and_true, Nat.reduceBEq, bne_self_eq_false, Nat.reduceBNe, mOf, cap]) | rw [thenQ_next] | rw [wp_seq] | simp only [wp_seq, thenQ_next]))
  exact ⟨_, rfl, rfl, rfl⟩
end NN

/-! what the defs compute: powers, primes -/
namespace NN
open PySem

noncomputable def SpPower (F : List V → Option V) : Prop := ∀ a n p : Nat, 1 ≤ p → p ≤ 5000 → a ≤ 5000 → n ≤ 50000 → ∃ r, F [.int a, .int n, .int p] = some r ∧ r = .int (a ^ n % p : Nat)

theorem pow_step (f a p n : Nat) (h : n % 2 = 1) : ((f * a % p) * (a * a % p) ^ (n / 2)) % p = (f * a ^ n) % p := by
  have e : a ^ n = a * (a * a) ^ (n / 2) := by
    have : n = 2 * (n / 2) + 1 := by (first | lia | omega)
    rw [← Nat.pow_two, ← Nat.pow_mul]
    conv => lhs; rw [this, Nat.pow_succ, Nat.mul_comm]
  rw [e, Nat.mul_mod, Nat.mod_mod, Nat.pow_mod, Nat.mod_mod, ← Nat.pow_mod, ← Nat.mul_mod, Nat.mul_assoc]
theorem pow_step0 (f a p n : Nat) (h : n % 2 = 0) : (f * (a * a % p) ^ (n / 2)) % p = (f * a ^ n) % p := by
  have e : a ^ n = (a * a) ^ (n / 2) := by
    have : n = 2 * (n / 2) := by (first | lia | omega)
    rw [← Nat.pow_two, ← Nat.pow_mul]
    conv => lhs; rw [this]
  rw [e, Nat.mul_mod, Nat.pow_mod, Nat.mod_mod, ← Nat.pow_mod, ← Nat.mul_mod]

inductive PowI (a : Nat) (n : Nat) (p : Nat) (m : Nat) (s : St) : Prop
  | mk (f a' : Nat) (h0 : s = ([some (.int a'), some (.int m), some (.int p), some (.int f)], none)) (h1 : f < p) (h2 : a' ≤ 5000) (h3 : m ≤ 50000) (h4 : (f * a' ^ m) % p = a ^ n % p) : PowI a n p m s
theorem sp_power (P : Fns) : SpPower (run P fuel mNo T.plainPower 4 3) := fun a n p hp1 hp2 ha hn => by
  refine run_of rfl ?_
  show Wp P fuel mNo T.plainPower ([some (.int a), some (.int n), some (.int p), none], none) _
  unfold T.plainPower
  (repeat (first | (simp (disch := first | lia | omega) only [thenQ_ret, loopQ_next, loopQ_ret, wp_skip, wp_asg, wp_asg2, wp_asg3, wp_aug, wp_ite, wp_ret, wp_app, wp_pop, wp_setI, wp_augI, wp_setB, op_add, op_sub, op_mul_s, op_mul, op_fdiv, op_mod, op_shl, op_shr, op_band, cm_lt, cm_le, cm_gt, cm_ge, cm_eq, cm_ne, ev_int, ev_bool, ev_var, ev_bin, ev_cmp, ev_not, ev_and, ev_or, ev_ife, ev_idx, ev_upto, ev_from1, ev_all, ev_rev, ev_cat, ev_rep, ev_lit0, ev_lit1, ev_lst1, ev_rows2, ev_call1, ev_call2, ev_call3, ev_call4, ev_len, ev_min2, ev_sum, ev_toInt, ev_toList, ev_range1, ev_range3, ev_zip, ev_enum, op1_some', op1_none', vBin_int, vCmp_int, vNot_bool, vIdx_il, vUpto_il, vUpto_arg, vList_il', vCat_il, vRep_il, vMin_int, vLst1_int, vRows2_il, vSum_il, vToInt_int, vZip_il, vEnum_il, vRange_1, vRange_dn, asg_int, asg_il, ret_int, ret_bool, ret_il, ret_fresh, own_var, fr_var, fr_idx, fr_upto, fr_from1, fr_all, fr_rev, fr_cat, fr_rep, fr_lit, fr_lst1, fr_call1, fr_call2, fr_call3, fr_call4, fr_toList, fr_drawn, fr_comp, gt, pt, inEv, Option.map_some, Option.map_none, List.length_cons, List.length_nil, Nat.reduceAdd, Nat.reduceLT, decide_true, decide_false, decide_eq_true_eq, Bool.or_true, Bool.true_or, Bool.false_or, Bool.or_false, Int.toNat_natCast, and_self, true_and, and_true, if_true, if_false, Bool.false_eq_true, Bool.true_and, Bool.and_true, Nat.reduceBEq, bne_self_eq_false, Nat.reduceBNe, mOf, cap]) | rw [thenQ_next] | rw [wp_seq] | simp only [wp_seq, thenQ_next]))
  refine wp_while (PowI a n p) ?_ n (by show n < 100000; (first | lia | omega)) ⟨1 % p, a, rfl, Nat.mod_lt _ (by (first | lia | omega)), ha, hn, ?_⟩
  · rintro m σ bx ⟨f, a', hs, hf, ha', hm, hv⟩
    cases hs
    have hq : f * a' % p < p := Nat.mod_lt _ (by (first | lia | omega))
    have hq' : a' * a' % p < p := Nat.mod_lt _ (by (first | lia | omega))
    (repeat (first | (simp (disch := first | lia | omega) only [thenQ_ret, loopQ_next, loopQ_ret, wp_skip, wp_asg, wp_asg2, wp_asg3, wp_aug, wp_ite, wp_ret, wp_app, wp_pop, wp_setI, wp_augI, wp_setB, op_add, op_sub, op_mul_s, op_mul, op_fdiv, op_mod, op_shl, op_shr, op_band, cm_lt, cm_le, cm_gt, cm_ge, cm_eq, cm_ne, ev_int, ev_bool, ev_var, ev_bin, ev_cmp, ev_not, ev_and, ev_or, ev_ife, ev_idx, ev_upto, ev_from1, ev_all, ev_rev, ev_cat, ev_rep, ev_lit0, ev_lit1, ev_lst1, ev_rows2, ev_call1, ev_call2, ev_call3, ev_call4, ev_len, ev_min2, ev_sum, ev_toInt, ev_toList, ev_range1, ev_range3, ev_zip, ev_enum, op1_some', op1_none', vBin_int, vCmp_int, vNot_bool, vIdx_il, vUpto_il, vUpto_arg, vList_il', vCat_il, vRep_il, vMin_int, vLst1_int, vRows2_il, vSum_il, vToInt_int, vZip_il, vEnum_il, vRange_1, vRange_dn, asg_int, asg_il, ret_int, ret_bool, ret_il, ret_fresh, own_var, fr_var, fr_idx, fr_upto, fr_from1, fr_all, fr_rev, fr_cat, fr_rep, fr_lit, fr_lst1, fr_call1, fr_call2, fr_call3, fr_call4, fr_toList, fr_drawn, fr_comp, gt, pt, inEv, Option.map_some, Option.map_none, List.length_cons, List.length_nil, Nat.reduceAdd, Nat.reduceLT, decide_true, decide_false, decide_eq_true_eq, Bool.or_true, Bool.true_or, Bool.false_or, Bool.or_false, Int.toNat_natCast, and_self, true_and, and_true, if_true, if_false, Bool.false_eq_true, Bool.true_and, Bool.and_true, Nat.reduceBEq, bne_self_eq_false, Nat.reduceBNe, mOf, cap]) | rw [thenQ_next] | rw [wp_seq] | simp only [wp_seq, thenQ_next]))
    refine ⟨decide ((0 : Int) < m), none, rfl, fun hz => ?_, fun hz => ?_⟩
    · have hz := of_decide_eq_false hz
      have : m = 0 := by (first | lia | omega)
      subst this
      refine ⟨_, rfl, rfl, ?_⟩
      rw [Nat.pow_zero, Nat.mul_one, Nat.mod_eq_of_lt hf] at hv
      rw [hv]
    · have hz := of_decide_eq_true hz
      split
      · rename_i h1
        refine ⟨m / 2, by (first | lia | omega), f * a' % p, a' * a' % p, rfl, hq, by (first | lia | omega), by (first | lia | omega), ?_⟩
        rw [pow_step _ _ _ _ (by (first | lia | omega)), hv]
      · rename_i h1
        refine ⟨m / 2, by (first | lia | omega), f, a' * a' % p, rfl, hf, by (first | lia | omega), by (first | lia | omega), ?_⟩
        rw [pow_step0 _ _ _ _ (by (first | lia | omega)), hv]
  · rw [Nat.mul_mod, Nat.mod_mod, ← Nat.mul_mod, Nat.one_mul]

noncomputable def pws (root many p : Nat) : List Int := (List.range many).map fun k => ((root ^ k % p : Nat) : Int)
theorem pws_len (root many p : Nat) : (pws root many p).length = many := by simp [pws]
theorem pws_get (root many p k : Nat) (h : k < many) : (pws root many p).getD k 0 = ((root ^ k % p : Nat) : Int) := by
  simp [pws, List.getD_eq_getElem?_getD, h]
theorem pws_succ (root many p : Nat) : pws root (many + 1) p = pws root many p ++ [((root ^ many % p : Nat) : Int)] := by simp [pws, List.range_succ]

noncomputable def SpPowersOf (F : List V → Option V) : Prop := ∀ root many p : Nat, 1 ≤ p → p ≤ 5000 → root ≤ 5000 → 1 ≤ many → many ≤ 200 → ∃ r, F [.int root, .int many, .int p] = some r ∧ r = .il (pws root many p)

inductive PwsI (root : Nat) (many : Nat) (p : Nat) (n : Nat) (s : St) : Prop
  | mk j (h0 : s = ([some (.int root), some (.int many), some (.int p), some (.il (pws root j p))], none)) (h1 : 1 ≤ j) (h2 : j ≤ many) (h3 : n = many - j) : PwsI root many p n s
theorem sp_powers_of (P : Fns) : SpPowersOf (run P fuel (mOf 3) T.powersOf 4 3) := fun root many p hp1 hp2 hr hm1 hm2 => by
  refine run_of rfl ?_
  show Wp P fuel (mOf 3) T.powersOf ([some (.int root), some (.int many), some (.int p), none], none) _
  unfold T.powersOf
  (repeat (first | (simp (disch := first | lia | omega) only [thenQ_ret, loopQ_next, loopQ_ret, wp_skip, wp_asg, wp_asg2, wp_asg3, wp_aug, wp_ite, wp_ret, wp_app, wp_pop, wp_setI, wp_augI, wp_setB, op_add, op_sub, op_mul_s, op_mul, op_fdiv, op_mod, op_shl, op_shr, op_band, cm_lt, cm_le, cm_gt, cm_ge, cm_eq, cm_ne, ev_int, ev_bool, ev_var, ev_bin, ev_cmp, ev_not, ev_and, ev_or, ev_ife, ev_idx, ev_upto, ev_from1, ev_all, ev_rev, ev_cat, ev_rep, ev_lit0, ev_lit1, ev_lst1, ev_rows2, ev_call1, ev_call2, ev_call3, ev_call4, ev_len, ev_min2, ev_sum, ev_toInt, ev_toList, ev_range1, ev_range3, ev_zip, ev_enum, op1_some', op1_none', vBin_int, vCmp_int, vNot_bool, vIdx_il, vUpto_il, vUpto_arg, vList_il', vCat_il, vRep_il, vMin_int, vLst1_int, vRows2_il, vSum_il, vToInt_int, vZip_il, vEnum_il, vRange_1, vRange_dn, asg_int, asg_il, ret_int, ret_bool, ret_il, ret_fresh, own_var, fr_var, fr_idx, fr_upto, fr_from1, fr_all, fr_rev, fr_cat, fr_rep, fr_lit, fr_lst1, fr_call1, fr_call2, fr_call3, fr_call4, fr_toList, fr_drawn, fr_comp, gt, pt, inEv, Option.map_some, Option.map_none, List.length_cons, List.length_nil, Nat.reduceAdd, Nat.reduceLT, decide_true, decide_false, decide_eq_true_eq, Bool.or_true, Bool.true_or, Bool.false_or, Bool.or_false, Int.toNat_natCast, and_self, true_and, and_true, if_true, if_false, Bool.false_eq_true, Bool.true_and, Bool.and_true, Nat.reduceBEq, bne_self_eq_false, Nat.reduceBNe, mOf, cap]) | rw [thenQ_next] | rw [wp_seq] | simp only [wp_seq, thenQ_next]))
  refine wp_while (PwsI root many p) ?_ (many - 1) (by show many - 1 < 100000; (first | lia | omega)) ⟨1, ?_, by (first | lia | omega), hm1, rfl⟩
  · rintro n σ bx ⟨j, hs, hj1, hj2, rfl⟩
    cases hs
    have hl := pws_len root j p
    (repeat (first | (simp (disch := first | lia | omega) only [thenQ_ret, loopQ_next, loopQ_ret, wp_skip, wp_asg, wp_asg2, wp_asg3, wp_aug, wp_ite, wp_ret, wp_app, wp_pop, wp_setI, wp_augI, wp_setB, op_add, op_sub, op_mul_s, op_mul, op_fdiv, op_mod, op_shl, op_shr, op_band, cm_lt, cm_le, cm_gt, cm_ge, cm_eq, cm_ne, ev_int, ev_bool, ev_var, ev_bin, ev_cmp, ev_not, ev_and, ev_or, ev_ife, ev_idx, ev_upto, ev_from1, ev_all, ev_rev, ev_cat, ev_rep, ev_lit0, ev_lit1, ev_lst1, ev_rows2, ev_call1, ev_call2, ev_call3, ev_call4, ev_len, ev_min2, ev_sum, ev_toInt, ev_toList, ev_range1, ev_range3, ev_zip, ev_enum, op1_some', op1_none', vBin_int, vCmp_int, vNot_bool, vIdx_il, vUpto_il, vUpto_arg, vList_il', vCat_il, vRep_il, vMin_int, vLst1_int, vRows2_il, vSum_il, vToInt_int, vZip_il, vEnum_il, vRange_1, vRange_dn, asg_int, asg_il, ret_int, ret_bool, ret_il, ret_fresh, own_var, fr_var, fr_idx, fr_upto, fr_from1, fr_all, fr_rev, fr_cat, fr_rep, fr_lit, fr_lst1, fr_call1, fr_call2, fr_call3, fr_call4, fr_toList, fr_drawn, fr_comp, gt, pt, inEv, Option.map_some, Option.map_none, List.length_cons, List.length_nil, Nat.reduceAdd, Nat.reduceLT, decide_true, decide_false, decide_eq_true_eq, Bool.or_true, Bool.true_or, Bool.false_or, Bool.or_false, Int.toNat_natCast, and_self, true_and, and_true, if_true, if_false, Bool.false_eq_true, Bool.true_and, Bool.and_true, Nat.reduceBEq, bne_self_eq_false, Nat.reduceBNe, mOf, cap, hl]) | rw [thenQ_next] | rw [wp_seq] | simp only [wp_seq, thenQ_next]))
    refine ⟨decide ((j : Int) < many), none, rfl, fun hz => ?_, fun hz => ?_⟩
    · have hz := of_decide_eq_false hz
      have : j = many := by (first | lia | omega)
      subst this
      refine ⟨_, rfl, rfl, ?_⟩
      rw [List.take_of_length_le (by rw [hl]; exact Nat.le_refl _)]
    · have hz := of_decide_eq_true hz
      have e1 : ((j : Int) - 1).toNat = j - 1 := by (first | lia | omega)
      have hg := pws_get root j p (j - 1) (by (first | lia | omega))
      have hb : root ^ (j - 1) % p < p := Nat.mod_lt _ (by (first | lia | omega))
      rw [e1, hg]
      (repeat (first | (simp (disch := first | lia | omega) only [thenQ_ret, loopQ_next, loopQ_ret, wp_skip, wp_asg, wp_asg2, wp_asg3, wp_aug, wp_ite, wp_ret, wp_app, wp_pop, wp_setI, wp_augI, wp_setB, op_add, op_sub, op_mul_s, op_mul, op_fdiv, op_mod, op_shl, op_shr, op_band, cm_lt, cm_le, cm_gt, cm_ge, cm_eq, cm_ne, ev_int, ev_bool, ev_var, ev_bin, ev_cmp, ev_not, ev_and, ev_or, ev_ife, ev_idx, ev_upto, ev_from1, ev_all, ev_rev, ev_cat, ev_rep, ev_lit0, ev_lit1, ev_lst1, ev_rows2, ev_call1, ev_call2, ev_call3, ev_call4, ev_len, ev_min2, ev_sum, ev_toInt, ev_toList, ev_range1, ev_range3, ev_zip, ev_enum, op1_some', op1_none', vBin_int, vCmp_int, vNot_bool, vIdx_il, vUpto_il, vUpto_arg, vList_il', vCat_il, vRep_il, vMin_int, vLst1_int, vRows2_il, vSum_il, vToInt_int, vZip_il, vEnum_il, vRange_1, vRange_dn, asg_int, asg_il, ret_int, ret_bool, ret_il, ret_fresh, own_var, fr_var, fr_idx, fr_upto, fr_from1, fr_all, fr_rev, fr_cat, fr_rep, fr_lit, fr_lst1, fr_call1, fr_call2, fr_call3, fr_call4, fr_toList, fr_drawn, fr_comp, gt, pt, inEv, Option.map_some, Option.map_none, List.length_cons, List.length_nil, Nat.reduceAdd, Nat.reduceLT, decide_true, decide_false, decide_eq_true_eq, Bool.or_true, Bool.true_or, Bool.false_or, Bool.or_false, Int.toNat_natCast, and_self, true_and, and_true, if_true, if_false, Bool.false_eq_true, Bool.true_and, Bool.and_true, Nat.reduceBEq, bne_self_eq_false, Nat.reduceBNe, mOf, cap]) | rw [thenQ_next] | rw [wp_seq] | simp only [wp_seq, thenQ_next]))
      refine ⟨by (first | lia | omega), _, ?_, j + 1, ?_, by (first | lia | omega), by (first | lia | omega), rfl⟩
      · (first | lia | omega)
      · rw [pws_succ]
        have : (((root ^ (j - 1) % p : Nat) : Int) * root) % p = ((root ^ j % p : Nat) : Int) := by
          have e : root ^ j = root ^ (j - 1) * root := by rw [← Nat.pow_succ]; congr 1; (first | lia | omega)
          rw [e]
          show (((root ^ (j - 1) % p) * root % p : Nat) : Int) = _
          rw [Nat.mod_mul_mod]
        rw [this]
  · rfl

noncomputable def tr : Nat → Nat → Nat → Bool
  | 0, _, _ => true
  | k + 1, i, n => if i * i ≤ n then (if n % i = 0 then false else tr k (i + 1) n) else true
noncomputable def isP (n : Nat) : Bool := if n < 2 then false else tr 60 2 n

noncomputable def SpIsPrime (F : List V → Option V) : Prop := ∀ n : Nat, n ≤ 3000 → ∃ r, F [.int n] = some r ∧ r = .bool (isP n)

inductive PriI (n : Nat) (k : Nat) (s : St) : Prop
  | mk (i : Nat) (h0 : s = ([some (.int n), some (.int i)], none)) (h1 : 2 ≤ i) (h2 : i + k = 62) (h3 : tr k i n = tr 60 2 n) : PriI n k s
theorem sp_is_small_prime (P : Fns) : SpIsPrime (run P fuel mNo T.isSmallPrime 2 1) := fun n hn => by
  refine run_of rfl ?_
  show Wp P fuel mNo T.isSmallPrime ([some (.int n), none], none) _
  unfold T.isSmallPrime isP
  (repeat (first | (simp (disch := first | lia | omega) only [thenQ_ret, loopQ_next, loopQ_ret, wp_skip, wp_asg, wp_asg2, wp_asg3, wp_aug, wp_ite, wp_ret, wp_app, wp_pop, wp_setI, wp_augI, wp_setB, op_add, op_sub, op_mul_s, op_mul, op_fdiv, op_mod, op_shl, op_shr, op_band, cm_lt, cm_le, cm_gt, cm_ge, cm_eq, cm_ne, ev_int, ev_bool, ev_var, ev_bin, ev_cmp, ev_not, ev_and, ev_or, ev_ife, ev_idx, ev_upto, ev_from1, ev_all, ev_rev, ev_cat, ev_rep, ev_lit0, ev_lit1, ev_lst1, ev_rows2, ev_call1, ev_call2, ev_call3, ev_call4, ev_len, ev_min2, ev_sum, ev_toInt, ev_toList, ev_range1, ev_range3, ev_zip, ev_enum, op1_some', op1_none', vBin_int, vCmp_int, vNot_bool, vIdx_il, vUpto_il, vUpto_arg, vList_il', vCat_il, vRep_il, vMin_int, vLst1_int, vRows2_il, vSum_il, vToInt_int, vZip_il, vEnum_il, vRange_1, vRange_dn, asg_int, asg_il, ret_int, ret_bool, ret_il, ret_fresh, own_var, fr_var, fr_idx, fr_upto, fr_from1, fr_all, fr_rev, fr_cat, fr_rep, fr_lit, fr_lst1, fr_call1, fr_call2, fr_call3, fr_call4, fr_toList, fr_drawn, fr_comp, gt, pt, inEv, Option.map_some, Option.map_none, List.length_cons, List.length_nil, Nat.reduceAdd, Nat.reduceLT, decide_true, decide_false, decide_eq_true_eq, Bool.or_true, Bool.true_or, Bool.false_or, Bool.or_false, Int.toNat_natCast, and_self, true_and, and_true, if_true, if_false, Bool.false_eq_true, Bool.true_and, Bool.and_true, Nat.reduceBEq, bne_self_eq_false, Nat.reduceBNe, mOf, cap]) | rw [thenQ_next] | rw [wp_seq] | simp only [wp_seq, thenQ_next]))
  by_cases h2 : n < 2
  · rw [if_pos (by (first | lia | omega)), if_pos h2]
    exact ⟨_, rfl, rfl, rfl⟩
  · rw [if_neg (by (first | lia | omega)), if_neg h2]
    refine wp_while (PriI n) ?_ 60 (by decide) ⟨2, rfl, by decide, rfl, rfl⟩
    rintro k σ bx ⟨i, hs, hi, hik, hv⟩
    cases hs
    (repeat (first | (simp (disch := first | lia | omega) only [thenQ_ret, loopQ_next, loopQ_ret, wp_skip, wp_asg, wp_asg2, wp_asg3, wp_aug, wp_ite, wp_ret, wp_app, wp_pop, wp_setI, wp_augI, wp_setB, op_add, op_sub, op_mul_s, op_mul, op_fdiv, op_mod, op_shl, op_shr, op_band, cm_lt, cm_le, cm_gt, cm_ge, cm_eq, cm_ne, ev_int, ev_bool, ev_var, ev_bin, ev_cmp, ev_not, ev_and, ev_or, ev_ife, ev_idx, ev_upto, ev_from1, ev_all, ev_rev, ev_cat, ev_rep, ev_lit0, ev_lit1, ev_lst1, ev_rows2, ev_call1, ev_call2, ev_call3, ev_call4, ev_len, ev_min2, ev_sum, ev_toInt, ev_toList, ev_range1, ev_range3, ev_zip, ev_enum, op1_some', op1_none', vBin_int, vCmp_int, vNot_bool, vIdx_il, vUpto_il, vUpto_arg, vList_il', vCat_il, vRep_il, vMin_int, vLst1_int, vRows2_il, vSum_il, vToInt_int, vZip_il, vEnum_il, vRange_1, vRange_dn, asg_int, asg_il, ret_int, ret_bool, ret_il, ret_fresh, own_var, fr_var, fr_idx, fr_upto, fr_from1, fr_all, fr_rev, fr_cat, fr_rep, fr_lit, fr_lst1, fr_call1, fr_call2, fr_call3, fr_call4, fr_toList, fr_drawn, fr_comp, gt, pt, inEv, Option.map_some, Option.map_none, List.length_cons, List.length_nil, Nat.reduceAdd, Nat.reduceLT, decide_true, decide_false, decide_eq_true_eq, Bool.or_true, Bool.true_or, Bool.false_or, Bool.or_false, Int.toNat_natCast, and_self, true_and, and_true, if_true, if_false, Bool.false_eq_true, Bool.true_and, Bool.and_true, Nat.reduceBEq, bne_self_eq_false, Nat.reduceBNe, mOf, cap]) | rw [thenQ_next] | rw [wp_seq] | simp only [wp_seq, thenQ_next]))
    refine ⟨decide ((i : Int) * i ≤ n), none, rfl, fun hz => ?_, fun hz => ?_⟩
    · have hz := of_decide_eq_false hz
      have hz' : ¬ i * i ≤ n := fun h => hz (by exact_mod_cast h)
      refine ⟨_, rfl, rfl, ?_⟩
      rw [← hv]
      cases k with
      | zero => rfl
      | succ k => simp [tr, hz']
    · have hz := of_decide_eq_true hz
      have hz' : i * i ≤ n := by exact_mod_cast hz
      cases k with
      | zero =>
        exfalso
        have : i = 62 := by (first | lia | omega)
        subst this
        (first | lia | omega)
      | succ k =>
        have e : ((n : Int) % i = 0) ↔ n % i = 0 := by
          have : ((n : Int) % i) = ((n % i : Nat) : Int) := rfl
          rw [this]; (first | lia | omega)
        by_cases h0 : n % i = 0
        · rw [if_pos (e.mpr h0)]
          refine ⟨_, rfl, rfl, ?_⟩
          rw [← hv]; simp [tr, hz', h0]
        · rw [if_neg (fun h => h0 (e.mp h))]
          refine ⟨k, Nat.lt_succ_self k, i + 1, rfl, by (first | lia | omega), by (first | lia | omega), ?_⟩
          rw [← hv]; simp [tr, hz', h0]

noncomputable def nx : Nat → Nat → Nat → Nat → Option Nat
  | 0, _, _, _ => none
  | k + 1, size, bound, f => if 3000 < f then none else if f ≤ bound then nx k size bound (f + size) else if isP f then some f else nx k size bound (f + size)

noncomputable def SpPrimeFor (F : List V → Option V) : Prop := ∀ size bound p : Nat, 1 ≤ size → bound ≤ 3000 → nx 100 size bound (bound - bound % size + 1) = some p → ∃ r, F [.int size, .int bound] = some r ∧ r = .int p

inductive PfI (size : Nat) (bound : Nat) (p : Nat) (k : Nat) (s : St) : Prop
  | mk (f : Nat) (h0 : s = ([some (.int size), some (.int bound), some (.int f)], none)) (h1 : nx k size bound f = some p) : PfI size bound p k s
theorem sp_prime_for (P : Fns) (hP : SpIsPrime (P.fn "is_small_prime")) : SpPrimeFor (run P fuel mNo T.primeFor 3 2) := fun size bound p hs1 hb hnx => by
  refine run_of rfl ?_
  show Wp P fuel mNo T.primeFor ([some (.int size), some (.int bound), none], none) _
  unfold T.primeFor
  (repeat (first | (simp (disch := first | lia | omega) only [thenQ_ret, loopQ_next, loopQ_ret, wp_skip, wp_asg, wp_asg2, wp_asg3, wp_aug, wp_ite, wp_ret, wp_app, wp_pop, wp_setI, wp_augI, wp_setB, op_add, op_sub, op_mul_s, op_mul, op_fdiv, op_mod, op_shl, op_shr, op_band, cm_lt, cm_le, cm_gt, cm_ge, cm_eq, cm_ne, ev_int, ev_bool, ev_var, ev_bin, ev_cmp, ev_not, ev_and, ev_or, ev_ife, ev_idx, ev_upto, ev_from1, ev_all, ev_rev, ev_cat, ev_rep, ev_lit0, ev_lit1, ev_lst1, ev_rows2, ev_call1, ev_call2, ev_call3, ev_call4, ev_len, ev_min2, ev_sum, ev_toInt, ev_toList, ev_range1, ev_range3, ev_zip, ev_enum, op1_some', op1_none', vBin_int, vCmp_int, vNot_bool, vIdx_il, vUpto_il, vUpto_arg, vList_il', vCat_il, vRep_il, vMin_int, vLst1_int, vRows2_il, vSum_il, vToInt_int, vZip_il, vEnum_il, vRange_1, vRange_dn, asg_int, asg_il, ret_int, ret_bool, ret_il, ret_fresh, own_var, fr_var, fr_idx, fr_upto, fr_from1, fr_all, fr_rev, fr_cat, fr_rep, fr_lit, fr_lst1, fr_call1, fr_call2, fr_call3, fr_call4, fr_toList, fr_drawn, fr_comp, gt, pt, inEv, Option.map_some, Option.map_none, List.length_cons, List.length_nil, Nat.reduceAdd, Nat.reduceLT, decide_true, decide_false, decide_eq_true_eq, Bool.or_true, Bool.true_or, Bool.false_or, Bool.or_false, Int.toNat_natCast, and_self, true_and, and_true, if_true, if_false, Bool.false_eq_true, Bool.true_and, Bool.and_true, Nat.reduceBEq, bne_self_eq_false, Nat.reduceBNe, mOf, cap]) | rw [thenQ_next] | rw [wp_seq] | simp only [wp_seq, thenQ_next]))
  have hle : bound % size ≤ bound := Nat.mod_le _ _
  refine wp_while (PfI size bound p) ?_ 100 (by decide) ⟨bound - bound % size + 1, ?_, hnx⟩
  · rintro k σ bx ⟨f, hs, hv⟩
    cases hs
    cases k with
    | zero => first | exact nn hv | cases hv
    | succ k =>
      simp only [nx] at hv
      split at hv
      · first | exact nn hv | cases hv
      rename_i hf
      obtain ⟨r, hr, rfl⟩ := hP f (by (first | lia | omega))
      (repeat (first | (simp (disch := first | lia | omega) only [thenQ_ret, loopQ_next, loopQ_ret, wp_skip, wp_asg, wp_asg2, wp_asg3, wp_aug, wp_ite, wp_ret, wp_app, wp_pop, wp_setI, wp_augI, wp_setB, op_add, op_sub, op_mul_s, op_mul, op_fdiv, op_mod, op_shl, op_shr, op_band, cm_lt, cm_le, cm_gt, cm_ge, cm_eq, cm_ne, ev_int, ev_bool, ev_var, ev_bin, ev_cmp, ev_not, ev_and, ev_or, ev_ife, ev_idx, ev_upto, ev_from1, ev_all, ev_rev, ev_cat, ev_rep, ev_lit0, ev_lit1, ev_lst1, ev_rows2, ev_call1, ev_call2, ev_call3, ev_call4, ev_len, ev_min2, ev_sum, ev_toInt, ev_toList, ev_range1, ev_range3, ev_zip, ev_enum, op1_some', op1_none', vBin_int, vCmp_int, vNot_bool, vIdx_il, vUpto_il, vUpto_arg, vList_il', vCat_il, vRep_il, vMin_int, vLst1_int, vRows2_il, vSum_il, vToInt_int, vZip_il, vEnum_il, vRange_1, vRange_dn, asg_int, asg_il, ret_int, ret_bool, ret_il, ret_fresh, own_var, fr_var, fr_idx, fr_upto, fr_from1, fr_all, fr_rev, fr_cat, fr_rep, fr_lit, fr_lst1, fr_call1, fr_call2, fr_call3, fr_call4, fr_toList, fr_drawn, fr_comp, gt, pt, inEv, Option.map_some, Option.map_none, List.length_cons, List.length_nil, Nat.reduceAdd, Nat.reduceLT, decide_true, decide_false, decide_eq_true_eq, Bool.or_true, Bool.true_or, Bool.false_or, Bool.or_false, Int.toNat_natCast, and_self, true_and, and_true, if_true, if_false, Bool.false_eq_true, Bool.true_and, Bool.and_true, Nat.reduceBEq, bne_self_eq_false, Nat.reduceBNe, mOf, cap, hr]) | rw [thenQ_next] | rw [wp_seq] | simp only [wp_seq, thenQ_next]))
      split at hv
      · rename_i hfb
        rw [if_pos (by (first | lia | omega))]
        exact ⟨true, none, rfl, (fun h => by cases h), fun _ => ⟨k, Nat.lt_succ_self k, f + size, rfl, hv⟩⟩
      · rename_i hfb
        rw [if_neg (by (first | lia | omega))]
        split at hv
        · rename_i hp
          cases hv
          exact ⟨false, none, by rw [hp]; rfl, fun _ => ⟨_, rfl, rfl, rfl⟩, fun h => by cases h⟩
        · rename_i hp
          exact ⟨true, none, by rw [Bool.not_eq_true] at hp; rw [hp]; rfl, (fun h => by cases h), fun _ => ⟨k, Nat.lt_succ_self k, f + size, rfl, hv⟩⟩
  · have : ((bound : Int) - (bound : Int) % size + 1) = ((bound - bound % size + 1 : Nat) : Int) := by
      have e : ((bound : Int) % size) = ((bound % size : Nat) : Int) := rfl
      rw [e]; (first | lia | omega)
    rw [this]

noncomputable def chain : Nat → Nat → Nat → Nat → Nat → Option (List Nat)
  | 0, _, _, _, _ => none
  | k + 1, size, bound, q, g => if q ≤ g then (match nx 100 size bound (bound - bound % size + 1) with | none => none | some p => if 3000 < p then none else (chain k size p (q * p) g).map (p :: ·)) else some []

noncomputable def natL (l : List Nat) : List Int := l.map fun n : Nat => (n : Int)

noncomputable def SpPrimesFor (F : List V → Option V) : Prop := ∀ (size bound g : Nat) (l : List Nat), 1 ≤ size → bound ≤ 3000 → g ≤ 10000000 → chain 12 size bound 1 g = some l → ∃ r, F [.int size, .int bound, .int g] = some r ∧ r = .il (natL l)

inductive PsI (size : Nat) (g : Nat) (l : List Nat) (k : Nat) (s : St) : Prop
  | mk (b q : Nat) (f t : List Nat) (h0 : s = ([some (.int size), some (.int b), some (.int g), some (.il (natL f)), some (.int q)], none)) (h1 : b ≤ 3000) (h2 : q ≤ 30000000000) (h3 : f.length + k ≤ 12) (h4 : chain k size b q g = some t) (h5 : l = f ++ t) : PsI size g l k s
theorem sp_primes_for (P : Fns) (hP : SpPrimeFor (P.fn "prime_for")) : SpPrimesFor (run P fuel (mOf 3) T.primesFor 5 3) := fun size bound g l hs1 hb hg hc => by
  refine run_of rfl ?_
  show Wp P fuel (mOf 3) T.primesFor ([some (.int size), some (.int bound), some (.int g), none, none], none) _
  unfold T.primesFor
  (repeat (first | (simp (disch := first | lia | omega) only [thenQ_ret, loopQ_next, loopQ_ret, wp_skip, wp_asg, wp_asg2, wp_asg3, wp_aug, wp_ite, wp_ret, wp_app, wp_pop, wp_setI, wp_augI, wp_setB, op_add, op_sub, op_mul_s, op_mul, op_fdiv, op_mod, op_shl, op_shr, op_band, cm_lt, cm_le, cm_gt, cm_ge, cm_eq, cm_ne, ev_int, ev_bool, ev_var, ev_bin, ev_cmp, ev_not, ev_and, ev_or, ev_ife, ev_idx, ev_upto, ev_from1, ev_all, ev_rev, ev_cat, ev_rep, ev_lit0, ev_lit1, ev_lst1, ev_rows2, ev_call1, ev_call2, ev_call3, ev_call4, ev_len, ev_min2, ev_sum, ev_toInt, ev_toList, ev_range1, ev_range3, ev_zip, ev_enum, op1_some', op1_none', vBin_int, vCmp_int, vNot_bool, vIdx_il, vUpto_il, vUpto_arg, vList_il', vCat_il, vRep_il, vMin_int, vLst1_int, vRows2_il, vSum_il, vToInt_int, vZip_il, vEnum_il, vRange_1, vRange_dn, asg_int, asg_il, ret_int, ret_bool, ret_il, ret_fresh, own_var, fr_var, fr_idx, fr_upto, fr_from1, fr_all, fr_rev, fr_cat, fr_rep, fr_lit, fr_lst1, fr_call1, fr_call2, fr_call3, fr_call4, fr_toList, fr_drawn, fr_comp, gt, pt, inEv, Option.map_some, Option.map_none, List.length_cons, List.length_nil, Nat.reduceAdd, Nat.reduceLT, decide_true, decide_false, decide_eq_true_eq, Bool.or_true, Bool.true_or, Bool.false_or, Bool.or_false, Int.toNat_natCast, and_self, true_and, and_true, if_true, if_false, Bool.false_eq_true, Bool.true_and, Bool.and_true, Nat.reduceBEq, bne_self_eq_false, Nat.reduceBNe, mOf, cap]) | rw [thenQ_next] | rw [wp_seq] | simp only [wp_seq, thenQ_next]))
  refine wp_while (PsI size g l) ?_ 12 (by decide) ⟨bound, 1, [], l, rfl, hb, by decide, by decide, hc, rfl⟩
  rintro k σ bx ⟨b, q, f, t, hs, hb, hq, hf, hv, hl⟩
  cases hs
  cases k with
  | zero => first | exact nn hv | cases hv
  | succ k =>
    simp only [chain] at hv
    (repeat (first | (simp (disch := first | lia | omega) only [thenQ_ret, loopQ_next, loopQ_ret, wp_skip, wp_asg, wp_asg2, wp_asg3, wp_aug, wp_ite, wp_ret, wp_app, wp_pop, wp_setI, wp_augI, wp_setB, op_add, op_sub, op_mul_s, op_mul, op_fdiv, op_mod, op_shl, op_shr, op_band, cm_lt, cm_le, cm_gt, cm_ge, cm_eq, cm_ne, ev_int, ev_bool, ev_var, ev_bin, ev_cmp, ev_not, ev_and, ev_or, ev_ife, ev_idx, ev_upto, ev_from1, ev_all, ev_rev, ev_cat, ev_rep, ev_lit0, ev_lit1, ev_lst1, ev_rows2, ev_call1, ev_call2, ev_call3, ev_call4, ev_len, ev_min2, ev_sum, ev_toInt, ev_toList, ev_range1, ev_range3, ev_zip, ev_enum, op1_some', op1_none', vBin_int, vCmp_int, vNot_bool, vIdx_il, vUpto_il, vUpto_arg, vList_il', vCat_il, vRep_il, vMin_int, vLst1_int, vRows2_il, vSum_il, vToInt_int, vZip_il, vEnum_il, vRange_1, vRange_dn, asg_int, asg_il, ret_int, ret_bool, ret_il, ret_fresh, own_var, fr_var, fr_idx, fr_upto, fr_from1, fr_all, fr_rev, fr_cat, fr_rep, fr_lit, fr_lst1, fr_call1, fr_call2, fr_call3, fr_call4, fr_toList, fr_drawn, fr_comp, gt, pt, inEv, Option.map_some, Option.map_none, List.length_cons, List.length_nil, Nat.reduceAdd, Nat.reduceLT, decide_true, decide_false, decide_eq_true_eq, Bool.or_true, Bool.true_or, Bool.false_or, Bool.or_false, Int.toNat_natCast, and_self, true_and, and_true, if_true, if_false, Bool.false_eq_true, Bool.true_and, Bool.and_true, Nat.reduceBEq, bne_self_eq_false, Nat.reduceBNe, mOf, cap]) | rw [thenQ_next] | rw [wp_seq] | simp only [wp_seq, thenQ_next]))
    by_cases hqg : q ≤ g
    · rw [if_pos hqg] at hv
      cases hn : nx 100 size b (b - b % size + 1) with
      | none => rw [hn] at hv; first | exact nn hv | cases hv
      | some p =>
        rw [hn] at hv
        dsimp only at hv
        split at hv
        · first | exact nn hv | cases hv
        rename_i hp3
        cases hc' : chain k size p (q * p) g with
        | none => rw [hc'] at hv; first | exact nn hv | cases hv
        | some t' =>
          rw [hc'] at hv
          cases hv
          obtain ⟨r, hr, rfl⟩ := hP size b p hs1 hb hn
          refine ⟨true, none, by rw [decide_eq_true (by (first | lia | omega))], (fun h => by cases h), fun _ => ?_⟩
          rw [hr]
          (repeat (first | (simp (disch := first | lia | omega) only [thenQ_ret, loopQ_next, loopQ_ret, wp_skip, wp_asg, wp_asg2, wp_asg3, wp_aug, wp_ite, wp_ret, wp_app, wp_pop, wp_setI, wp_augI, wp_setB, op_add, op_sub, op_mul_s, op_mul, op_fdiv, op_mod, op_shl, op_shr, op_band, cm_lt, cm_le, cm_gt, cm_ge, cm_eq, cm_ne, ev_int, ev_bool, ev_var, ev_bin, ev_cmp, ev_not, ev_and, ev_or, ev_ife, ev_idx, ev_upto, ev_from1, ev_all, ev_rev, ev_cat, ev_rep, ev_lit0, ev_lit1, ev_lst1, ev_rows2, ev_call1, ev_call2, ev_call3, ev_call4, ev_len, ev_min2, ev_sum, ev_toInt, ev_toList, ev_range1, ev_range3, ev_zip, ev_enum, op1_some', op1_none', vBin_int, vCmp_int, vNot_bool, vIdx_il, vUpto_il, vUpto_arg, vList_il', vCat_il, vRep_il, vMin_int, vLst1_int, vRows2_il, vSum_il, vToInt_int, vZip_il, vEnum_il, vRange_1, vRange_dn, asg_int, asg_il, ret_int, ret_bool, ret_il, ret_fresh, own_var, fr_var, fr_idx, fr_upto, fr_from1, fr_all, fr_rev, fr_cat, fr_rep, fr_lit, fr_lst1, fr_call1, fr_call2, fr_call3, fr_call4, fr_toList, fr_drawn, fr_comp, gt, pt, inEv, Option.map_some, Option.map_none, List.length_cons, List.length_nil, Nat.reduceAdd, Nat.reduceLT, decide_true, decide_false, decide_eq_true_eq, Bool.or_true, Bool.true_or, Bool.false_or, Bool.or_false, Int.toNat_natCast, and_self, true_and, and_true, if_true, if_false, Bool.false_eq_true, Bool.true_and, Bool.and_true, Nat.reduceBEq, bne_self_eq_false, Nat.reduceBNe, mOf, cap]) | rw [thenQ_next] | rw [wp_seq] | simp only [wp_seq, thenQ_next]))
          have hlen : (natL f).length = f.length := by simp [natL]
          rw [hlen]
          have hqp : q * p ≤ 10000000 * 3000 := Nat.mul_le_mul (by (first | lia | omega)) (by (first | lia | omega))
          refine ⟨by (first | lia | omega), k, Nat.lt_succ_self k, p, q * p, f ++ [p], t', ?_, by (first | lia | omega), by (first | lia | omega), by simp; (first | lia | omega), hc', by rw [hl]; simp⟩
          simp [natL]
    · rw [if_neg hqg] at hv
      cases hv
      refine ⟨false, none, by rw [decide_eq_false (by (first | lia | omega))], fun _ => ⟨_, rfl, rfl, by rw [hl, List.append_nil]⟩, fun h => by cases h⟩

noncomputable def rt : Nat → Nat → Nat → Option Nat
  | 0, _, _ => none
  | k + 1, p, b => if b ^ ((p - 1) / 2) % p = p - 1 then some b else rt k p (b + 1)

noncomputable def rootOf (size p : Nat) : Option Nat := if size = 1 then some 1 else (rt 100 p 2).map fun b => b ^ ((p - 1) / size) % p

noncomputable def SpRoot (F : List V → Option V) : Prop := ∀ size p r : Nat, 1 ≤ size → size ≤ 64 → 2 ≤ p → p ≤ 3000 → (p - 1) % size = 0 → rootOf size p = some r → ∃ v, F [.int size, .int p] = some v ∧ v = .int r

inductive RootI (size : Nat) (p : Nat) (b₀ : Nat) (k : Nat) (s : St) : Prop
  | mk (b : Nat) (h0 : s = ([some (.int size), some (.int p), some (.int b)], none)) (h1 : rt k p b = some b₀) (h2 : b + k ≤ 102) : RootI size p b₀ k s
theorem sp_root (P : Fns) (hP : SpPower (P.fn "plain_power")) : SpRoot (run P fuel mNo T.rootOfUnity 3 2) := fun size p r hs1 hs2 hp1 hp2 hd hr => by
  refine run_of rfl ?_
  show Wp P fuel mNo T.rootOfUnity ([some (.int size), some (.int p), none], none) _
  unfold T.rootOfUnity
  have e1 : ((p : Int) - 1) = ((p - 1 : Nat) : Int) := by (first | lia | omega)
  have e2 : (((p - 1 : Nat) : Int) % size) = 0 := by
    have : (((p - 1 : Nat) : Int) % size) = (((p - 1) % size : Nat) : Int) := rfl
    rw [this, hd]; rfl
  (repeat (first | (simp (disch := first | lia | omega) only [thenQ_ret, loopQ_next, loopQ_ret, wp_skip, wp_asg, wp_asg2, wp_asg3, wp_aug, wp_ite, wp_ret, wp_app, wp_pop, wp_setI, wp_augI, wp_setB, op_add, op_sub, op_mul_s, op_mul, op_fdiv, op_mod, op_shl, op_shr, op_band, cm_lt, cm_le, cm_gt, cm_ge, cm_eq, cm_ne, ev_int, ev_bool, ev_var, ev_bin, ev_cmp, ev_not, ev_and, ev_or, ev_ife, ev_idx, ev_upto, ev_from1, ev_all, ev_rev, ev_cat, ev_rep, ev_lit0, ev_lit1, ev_lst1, ev_rows2, ev_call1, ev_call2, ev_call3, ev_call4, ev_len, ev_min2, ev_sum, ev_toInt, ev_toList, ev_range1, ev_range3, ev_zip, ev_enum, op1_some', op1_none', vBin_int, vCmp_int, vNot_bool, vIdx_il, vUpto_il, vUpto_arg, vList_il', vCat_il, vRep_il, vMin_int, vLst1_int, vRows2_il, vSum_il, vToInt_int, vZip_il, vEnum_il, vRange_1, vRange_dn, asg_int, asg_il, ret_int, ret_bool, ret_il, ret_fresh, own_var, fr_var, fr_idx, fr_upto, fr_from1, fr_all, fr_rev, fr_cat, fr_rep, fr_lit, fr_lst1, fr_call1, fr_call2, fr_call3, fr_call4, fr_toList, fr_drawn, fr_comp, gt, pt, inEv, Option.map_some, Option.map_none, List.length_cons, List.length_nil, Nat.reduceAdd, Nat.reduceLT, decide_true, decide_false, decide_eq_true_eq, Bool.or_true, Bool.true_or, Bool.false_or, Bool.or_false, Int.toNat_natCast, and_self, true_and, and_true, if_true, if_false, Bool.false_eq_true, Bool.true_and, Bool.and_true, Nat.reduceBEq, bne_self_eq_false, Nat.reduceBNe, mOf, cap, e1, e2, ne_eq, not_true_eq_false]) | rw [thenQ_next] | rw [wp_seq] | simp only [wp_seq, thenQ_next]))
  unfold rootOf at hr
  by_cases h1 : size = 1
  · rw [if_pos (by (first | lia | omega))]
    rw [if_pos h1] at hr
    cases hr
    exact ⟨_, rfl, rfl, rfl⟩
  · rw [if_neg (by (first | lia | omega))]
    rw [if_neg h1] at hr
    cases hrt : rt 100 p 2 with
    | none => rw [hrt] at hr; first | exact nn hr | cases hr
    | some b₀ =>
      rw [hrt] at hr
      cases hr
      refine wp_while (RootI size p b₀) ?_ 100 (by decide) ⟨2, rfl, hrt, by decide⟩
      rintro k σ bx ⟨b, hs, hv, hbk⟩
      cases hs
      cases k with
      | zero => first | exact nn hv | cases hv
      | succ k =>
        simp only [rt] at hv
        obtain ⟨v, hv1, rfl⟩ := hP b ((p - 1) / 2) p (by (first | lia | omega)) (by (first | lia | omega)) (by (first | lia | omega)) (by (first | lia | omega))
        have e3 : (((p - 1 : Nat) : Int) / 2) = (((p - 1) / 2 : Nat) : Int) := rfl
        have e4 : (((p - 1 : Nat) : Int) / size) = (((p - 1) / size : Nat) : Int) := rfl
        (repeat (first | (simp (disch := first | lia | omega) only [thenQ_ret, loopQ_next, loopQ_ret, wp_skip, wp_asg, wp_asg2, wp_asg3, wp_aug, wp_ite, wp_ret, wp_app, wp_pop, wp_setI, wp_augI, wp_setB, op_add, op_sub, op_mul_s, op_mul, op_fdiv, op_mod, op_shl, op_shr, op_band, cm_lt, cm_le, cm_gt, cm_ge, cm_eq, cm_ne, ev_int, ev_bool, ev_var, ev_bin, ev_cmp, ev_not, ev_and, ev_or, ev_ife, ev_idx, ev_upto, ev_from1, ev_all, ev_rev, ev_cat, ev_rep, ev_lit0, ev_lit1, ev_lst1, ev_rows2, ev_call1, ev_call2, ev_call3, ev_call4, ev_len, ev_min2, ev_sum, ev_toInt, ev_toList, ev_range1, ev_range3, ev_zip, ev_enum, op1_some', op1_none', vBin_int, vCmp_int, vNot_bool, vIdx_il, vUpto_il, vUpto_arg, vList_il', vCat_il, vRep_il, vMin_int, vLst1_int, vRows2_il, vSum_il, vToInt_int, vZip_il, vEnum_il, vRange_1, vRange_dn, asg_int, asg_il, ret_int, ret_bool, ret_il, ret_fresh, own_var, fr_var, fr_idx, fr_upto, fr_from1, fr_all, fr_rev, fr_cat, fr_rep, fr_lit, fr_lst1, fr_call1, fr_call2, fr_call3, fr_call4, fr_toList, fr_drawn, fr_comp, gt, pt, inEv, Option.map_some, Option.map_none, List.length_cons, List.length_nil, Nat.reduceAdd, Nat.reduceLT, decide_true, decide_false, decide_eq_true_eq, Bool.or_true, Bool.true_or, Bool.false_or, Bool.or_false, Int.toNat_natCast, and_self, true_and, and_true, if_true, if_false, Bool.false_eq_true, Bool.true_and, Bool.and_true, Nat.reduceBEq, bne_self_eq_false, Nat.reduceBNe, mOf, cap, e1, e3, hv1]) | rw [thenQ_next] | rw [wp_seq] | simp only [wp_seq, thenQ_next]))
        by_cases hb : b ^ ((p - 1) / 2) % p = p - 1
        · rw [if_pos hb] at hv
          cases hv
          obtain ⟨v, hv2, rfl⟩ := hP b₀ ((p - 1) / size) p (by (first | lia | omega)) (by (first | lia | omega)) (by (first | lia | omega)) (by have := Nat.div_le_self (p - 1) size; (first | lia | omega))
          refine ⟨false, none, by rw [hb]; simp, fun _ => ?_, fun h => by cases h⟩
          (repeat (first | (simp (disch := first | lia | omega) only [thenQ_ret, loopQ_next, loopQ_ret, wp_skip, wp_asg, wp_asg2, wp_asg3, wp_aug, wp_ite, wp_ret, wp_app, wp_pop, wp_setI, wp_augI, wp_setB, op_add, op_sub, op_mul_s, op_mul, op_fdiv, op_mod, op_shl, op_shr, op_band, cm_lt, cm_le, cm_gt, cm_ge, cm_eq, cm_ne, ev_int, ev_bool, ev_var, ev_bin, ev_cmp, ev_not, ev_and, ev_or, ev_ife, ev_idx, ev_upto, ev_from1, ev_all, ev_rev, ev_cat, ev_rep, ev_lit0, ev_lit1, ev_lst1, ev_rows2, ev_call1, ev_call2, ev_call3, ev_call4, ev_len, ev_min2, ev_sum, ev_toInt, ev_toList, ev_range1, ev_range3, ev_zip, ev_enum, op1_some', op1_none', vBin_int, vCmp_int, vNot_bool, vIdx_il, vUpto_il, vUpto_arg, vList_il', vCat_il, vRep_il, vMin_int, vLst1_int, vRows2_il, vSum_il, vToInt_int, vZip_il, vEnum_il, vRange_1, vRange_dn, asg_int, asg_il, ret_int, ret_bool, ret_il, ret_fresh, own_var, fr_var, fr_idx, fr_upto, fr_from1, fr_all, fr_rev, fr_cat, fr_rep, fr_lit, fr_lst1, fr_call1, fr_call2, fr_call3, fr_call4, fr_toList, fr_drawn, fr_comp, gt, pt, inEv, Option.map_some, Option.map_none, List.length_cons, List.length_nil, Nat.reduceAdd, Nat.reduceLT, decide_true, decide_false, decide_eq_true_eq, Bool.or_true, Bool.true_or, Bool.false_or, Bool.or_false, Int.toNat_natCast, and_self, true_and, and_true, if_true, if_false, Bool.false_eq_true, Bool.true_and, Bool.and_true, Nat.reduceBEq, bne_self_eq_false, Nat.reduceBNe, mOf, cap, e4, hv2]) | rw [thenQ_next] | rw [wp_seq] | simp only [wp_seq, thenQ_next]))
          exact ⟨_, rfl, rfl, rfl⟩
        · rw [if_neg hb] at hv
          refine ⟨true, none, by have this : (((b ^ ((p - 1) / 2) % p : Nat) : Int) ≠ ((p - 1 : Nat) : Int)) := fun h => hb (by (first | lia | omega)); rw [decide_eq_true this], (fun h => by cases h), fun _ => ⟨k, Nat.lt_succ_self k, b + 1, rfl, hv, by (first | lia | omega)⟩⟩
end NN

/-! plain maths: the transform and back -/
namespace NN

noncomputable abbrev Cg (p a b : Int) : Prop := a % p = b % p
section
variable {p a b c d : Int}
theorem Cg.add (h : Cg p a b) (h' : Cg p c d) : Cg p (a + c) (b + d) := by unfold Cg at *; rw [Int.add_emod, h, h', ← Int.add_emod]
theorem Cg.sub (h : Cg p a b) (h' : Cg p c d) : Cg p (a - c) (b - d) := by unfold Cg at *; rw [Int.sub_emod, h, h', ← Int.sub_emod]
theorem Cg.mul (h : Cg p a b) (h' : Cg p c d) : Cg p (a * c) (b * d) := by unfold Cg at *; rw [Int.mul_emod, h, h', ← Int.mul_emod]
theorem Cg.pow (h : Cg p a b) : ∀ n : Nat, Cg p (a ^ n) (b ^ n)
  | 0 => by rw [Int.pow_zero, Int.pow_zero]
  | n + 1 => by rw [Int.pow_succ, Int.pow_succ]; exact (Cg.pow h n).mul h
theorem cg_mod (p a : Int) : Cg p (a % p) a := Int.emod_emod ..
theorem cg_nat (p a : Nat) : Cg p ((a % p : Nat) : Int) a := by
  show ((a : Int) % p) % p = (a : Int) % p
  exact Int.emod_emod ..
theorem Cg.rf : Cg p a a := rfl
theorem Cg.sy (h : Cg p a b) : Cg p b a := Eq.symm h
theorem Cg.tr (h : Cg p a b) (h' : Cg p b c) : Cg p a c := Eq.trans h h'
end

theorem take_sn {l : List Int} {n : Nat} (h : n < l.length) : l.take (n + 1) = l.take n ++ [l.getD n 0] := by
  rw [List.take_add_one, List.getElem?_eq_getElem h, List.getD_eq_getElem?_getD, List.getElem?_eq_getElem h]; rfl
theorem drop_getD (l : List Int) (h j : Nat) : (l.drop h).getD j 0 = l.getD (h + j) 0 := by
  rw [List.getD_eq_getElem?_getD, List.getD_eq_getElem?_getD, List.getElem?_drop]
noncomputable def bu (p h : Nat) (b : List Int) : List Int := (List.range h).map fun i => (b.getD i 0 + b.getD (i + h) 0) % (p : Int)
noncomputable def bv (p r h : Nat) (b : List Int) : List Int := (List.range h).map fun i => ((b.getD i 0 - b.getD (i + h) 0) * ((r ^ i % p : Nat) : Int)) % (p : Int)
theorem bu_len (p h : Nat) (b : List Int) : (bu p h b).length = h := by simp [bu]
theorem bv_len (p r h : Nat) (b : List Int) : (bv p r h b).length = h := by simp [bv]

/-- entries that are rests -/
noncomputable def Red (p : Nat) (b : List Int) : Prop := ∀ x ∈ b, 0 ≤ x ∧ x < (p : Int)
theorem red_map {p : Nat} (hp : 0 < p) (n : Nat) (f : Nat → Int) : Red p ((List.range n).map fun i => f i % (p : Int)) := fun x hx => by
  obtain ⟨i, _, rfl⟩ := List.mem_map.mp hx
  exact ⟨Int.emod_nonneg _ (by (first | lia | omega)), Int.emod_lt_of_pos _ (by (first | lia | omega))⟩

theorem val_bu (p : Nat) (x : Int) (b : List Int) (h : Nat) (hb : 2 * h ≤ b.length) : ∀ j ≤ h, Cg p (val x ((List.range j).map fun i => (b.getD i 0 + b.getD (i + h) 0) % (p : Int))) (val x (b.take j) + val x ((b.drop h).take j))
  | 0, _ => rfl
  | j + 1, hj => by
    have ih := val_bu p x b h hb j (by (first | lia | omega))
    rw [List.range_succ, List.map_append, List.map_singleton, val_snoc, take_sn (l := b) (by (first | lia | omega)), take_sn (l := b.drop h) (by rw [List.length_drop]; (first | lia | omega)), val_snoc, val_snoc, drop_getD, List.length_map, List.length_range, List.length_take, List.length_take, List.length_drop,
      Nat.min_eq_left (by (first | lia | omega)), Nat.min_eq_left (by (first | lia | omega))]
    have e := ih.add (Cg.mul (Cg.rf (p := (p : Int)) (a := x ^ j)) (cg_mod p (b.getD j 0 + b.getD (j + h) 0)))
    refine e.tr ?_
    unfold Cg
    congr 1
    rw [Nat.add_comm j h]
    grind

theorem val_bv (p r : Nat) (y : Int) (b : List Int) (h : Nat) (hb : 2 * h ≤ b.length) : ∀ j ≤ h, Cg p (val y ((List.range j).map fun i => ((b.getD i 0 - b.getD (i + h) 0) * ((r ^ i % p : Nat) : Int)) % (p : Int))) (val (r * y) (b.take j) - val (r * y) ((b.drop h).take j))
  | 0, _ => rfl
  | j + 1, hj => by
    have ih := val_bv p r y b h hb j (by (first | lia | omega))
    rw [List.range_succ, List.map_append, List.map_singleton, val_snoc, take_sn (l := b) (by (first | lia | omega)), take_sn (l := b.drop h) (by rw [List.length_drop]; (first | lia | omega)), val_snoc, val_snoc, drop_getD, List.length_map, List.length_range, List.length_take, List.length_take, List.length_drop,
      Nat.min_eq_left (by (first | lia | omega)), Nat.min_eq_left (by (first | lia | omega))]
    have e := ih.add (Cg.mul (Cg.rf (p := (p : Int)) (a := y ^ j)) ((cg_mod p ((b.getD j 0 - b.getD (j + h) 0) * ((r ^ j % p : Nat) : Int))).tr (Cg.mul Cg.rf (cg_nat p (r ^ j)))))
    refine e.tr ?_
    unfold Cg
    congr 1
    rw [Nat.add_comm j h, Int.mul_pow]
    have : ((r ^ j : Nat) : Int) = (r : Int) ^ j := by simp
    rw [this]
    grind

/-- the transform of a block of 2^k -/
noncomputable def F (p : Nat) : Nat → Nat → List Int → List Int
  | 0, _, b => b
  | k + 1, r, b => F p k (r * r % p) (bu p (2 ^ k) b) ++ F p k (r * r % p) (bv p r (2 ^ k) b)
theorem F_len (p : Nat) : ∀ (k r : Nat) (b : List Int), b.length = 2 ^ k → (F p k r b).length = 2 ^ k
  | 0, _, _, h => h
  | k + 1, r, b, h => by
    unfold F
    rw [List.length_append, F_len p k _ _ (bu_len ..), F_len p k _ _ (bv_len ..), Nat.pow_succ]; (first | lia | omega)

/-- the points -/
noncomputable def pts (p : Nat) : Nat → Nat → List Int
  | 0, _ => [1]
  | k + 1, r => pts p k (r * r % p) ++ (pts p k (r * r % p)).map fun y => (r : Int) * y

/-- a root that goes to -1 halfway -/
noncomputable def Half (p : Nat) : Nat → Nat → Prop
  | 0, _ => True
  | k + 1, r => Cg p ((r : Int) ^ (2 ^ k)) (-1)

theorem half_next {p k r : Nat} (h : Half p (k + 1) r) : Half p k (r * r % p) := by
  cases k with
  | zero => trivial
  | succ k =>
    show Cg p (((r * r % p : Nat) : Int) ^ (2 ^ k)) (-1)
    refine ((cg_nat p (r * r)).pow (2 ^ k)).tr ?_
    have e : ((r * r : Nat) : Int) ^ (2 ^ k) = (r : Int) ^ (2 ^ (k + 1)) := by
      rw [Nat.pow_succ, Nat.mul_comm (2 ^ k) 2, Int.pow_mul]
      congr 1
      show ((r * r : Nat) : Int) = (r : Int) ^ 2
      rw [Int.pow_succ, Int.pow_succ]; simp
    rw [e]; exact h

theorem pts_pow (p : Nat) : ∀ (k r : Nat), Half p k r → ∀ y ∈ pts p k r, Cg p (y ^ (2 ^ k)) 1
  | 0, r, _, y, hy => by
    rcases List.mem_cons.mp hy with rfl | hy
    · rfl
    · first | exact nn hy | cases hy
  | k + 1, r, h, y, hy => by
    have ih := pts_pow p k (r * r % p) (half_next h)
    have sq : ∀ z : Int, z ^ (2 ^ (k + 1)) = (z ^ (2 ^ k)) * (z ^ (2 ^ k)) := fun z => by rw [Nat.pow_succ, Int.pow_mul, Int.pow_succ, Int.pow_succ, Int.pow_zero, Int.one_mul]
    rcases List.mem_append.mp hy with hy | hy
    · rw [sq]; exact (ih y hy).mul (ih y hy)
    · obtain ⟨z, hz, rfl⟩ := List.mem_map.mp hy
      rw [sq, Int.mul_pow]
      have h1 : Cg p ((r : Int) ^ (2 ^ k) * z ^ (2 ^ k)) (-1 * 1) := Cg.mul h (ih z hz)
      exact h1.mul h1

theorem val_half (p : Nat) (x : Int) (b : List Int) (h : Nat) (hb : b.length = 2 * h) : val x b = val x (b.take h) + x ^ h * val x ((b.drop h).take h) := by
  have e : b = b.take h ++ (b.drop h).take h := by
    rw [List.take_of_length_le (l := b.drop h) (by rw [List.length_drop]; (first | lia | omega)), List.take_append_drop]
  conv => lhs; rw [e]
  rw [val_append, List.length_take, Nat.min_eq_left (by (first | lia | omega))]

theorem F_eval {p : Nat} (hp : 0 < p) : ∀ (k r : Nat) (b : List Int), Half p k r → b.length = 2 ^ k → Red p b → F p k r b = (pts p k r).map fun y => val y b % (p : Int)
  | 0, r, b, _, hb, hr => by
    obtain ⟨x, rfl⟩ : ∃ x, b = [x] := by
      match b, hb with
      | [x], _ => exact ⟨x, rfl⟩
    have h := hr x (.head _)
    show [x] = [val 1 [x] % (p : Int)]
    have : val 1 [x] = x := by show x + 1 * 0 = x; (first | lia | omega)
    rw [this, Int.emod_eq_of_lt h.1 h.2]
  | k + 1, r, b, hh, hb, hr => by
    have hb2 : b.length = 2 * 2 ^ k := by rw [hb, Nat.pow_succ]; (first | lia | omega)
    have hn := half_next hh
    unfold F pts
    rw [F_eval hp k _ _ hn (bu_len ..) (red_map hp _ _), F_eval hp k _ _ hn (bv_len ..) (red_map hp _ _), List.map_append, List.map_map]
    congr 1
    · apply List.map_congr_left
      intro y hy
      have h1 := val_bu p y b (2 ^ k) (by (first | lia | omega)) (2 ^ k) (Nat.le_refl _)
      have h2 := pts_pow p k _ hn y hy
      refine h1.tr ?_
      rw [val_half p y b (2 ^ k) hb2]
      exact Cg.add Cg.rf ((Cg.mul h2 Cg.rf).tr (by rw [Int.one_mul])).sy
    · apply List.map_congr_left
      intro y hy
      have h1 := val_bv p r y b (2 ^ k) (by (first | lia | omega)) (2 ^ k) (Nat.le_refl _)
      have h2 := pts_pow p k _ hn y hy
      refine h1.tr ?_
      show _ = val ((r : Int) * y) b % _
      rw [val_half p ((r : Int) * y) b (2 ^ k) hb2, Int.mul_pow]
      have h3 : Cg p ((r : Int) ^ (2 ^ k) * y ^ (2 ^ k)) (-1 * 1) := Cg.mul hh h2
      refine (Cg.add (Cg.rf (a := val ((r : Int) * y) (b.take (2 ^ k)))) ((Cg.mul h3 (Cg.rf (a := val ((r : Int) * y) ((b.drop (2 ^ k)).take (2 ^ k))))).tr ?_)).sy
      show _ = (-val ((r : Int) * y) ((b.drop (2 ^ k)).take (2 ^ k))) % _
      congr 1
      (first | lia | omega)

/-! ## the way back -/
noncomputable def cb (p t h : Nat) (b : List Int) : List Int :=
  ((List.range h).map fun i => (b.getD i 0 + b.getD (i + h) 0 * ((t ^ i % p : Nat) : Int) % (p : Int)) % (p : Int)) ++
  ((List.range h).map fun i => (b.getD i 0 - b.getD (i + h) 0 * ((t ^ i % p : Nat) : Int) % (p : Int)) % (p : Int))
theorem cb_len (p t h : Nat) (b : List Int) : (cb p t h b).length = 2 * h := by simp [cb]; (first | lia | omega)

theorem get_getD {l : List Int} {i : Nat} (h : i < l.length) : l[i] = l.getD i 0 := by rw [List.getD_eq_getElem?_getD, List.getElem?_eq_getElem h]; rfl
theorem cb_lo (p t h : Nat) (b : List Int) (i : Nat) (hi : i < h) : (cb p t h b).getD i 0 = (b.getD i 0 + b.getD (i + h) 0 * ((t ^ i % p : Nat) : Int) % (p : Int)) % (p : Int) := by
  unfold cb
  rw [List.getD_eq_getElem?_getD, List.getElem?_append_left (by simp; exact hi), List.getElem?_map, List.getElem?_range hi]; rfl
theorem cb_hi (p t h : Nat) (b : List Int) (i : Nat) (hi : i < h) : (cb p t h b).getD (i + h) 0 = (b.getD i 0 - b.getD (i + h) 0 * ((t ^ i % p : Nat) : Int) % (p : Int)) % (p : Int) := by
  unfold cb
  rw [List.getD_eq_getElem?_getD, List.getElem?_append_right (by simp), List.length_map, List.length_range, Nat.add_sub_cancel, List.getElem?_map, List.getElem?_range hi]; rfl

noncomputable def G (p : Nat) (tw : Nat → Nat) : Nat → List Int → List Int
  | 0, b => b
  | k + 1, b => cb p (tw k) (2 ^ k) (G p tw k (b.take (2 ^ k)) ++ G p tw k (b.drop (2 ^ k)))
theorem G_len (p : Nat) (tw : Nat → Nat) : ∀ (k : Nat) (b : List Int), b.length = 2 ^ k → (G p tw k b).length = 2 ^ k
  | 0, _, h => h
  | k + 1, b, h => by unfold G; rw [cb_len, Nat.pow_succ]; (first | lia | omega)

/-- each level's root undone -/
noncomputable def Undo (p : Nat) (tw : Nat → Nat) : Nat → Nat → Prop
  | 0, _ => True
  | k + 1, r => Cg p ((r : Int) * tw k) 1 ∧ Undo p tw k (r * r % p)

theorem GF {p : Nat} (hp : 0 < p) (tw : Nat → Nat) : ∀ (k r : Nat) (b : List Int), Undo p tw k r → b.length = 2 ^ k → Red p b → G p tw k (F p k r b) = b.map fun x => (2 ^ k * x) % (p : Int)
  | 0, r, b, _, _, hr => by
    show b = b.map fun x => (2 ^ 0 * x) % (p : Int)
    conv => lhs; rw [← List.map_id b]
    apply List.map_congr_left
    intro x hx
    have h := hr x hx
    rw [Int.pow_zero, Int.one_mul, Int.emod_eq_of_lt h.1 h.2]; rfl
  | k + 1, r, b, hu, hb, hr => by
    have hb2 : b.length = 2 * 2 ^ k := by rw [hb, Nat.pow_succ]; (first | lia | omega)
    have hl1 := F_len p k (r * r % p) _ (bu_len p (2 ^ k) b)
    have hl2 := F_len p k (r * r % p) _ (bv_len p r (2 ^ k) b)
    unfold F G
    rw [List.take_left' hl1, List.drop_left' hl1, GF hp tw k _ _ hu.2 (bu_len ..) (red_map hp _ _), GF hp tw k _ _ hu.2 (bv_len ..) (red_map hp _ _)]
    generalize hA : (bu p (2 ^ k) b).map (fun x => (2 ^ k * x) % (p : Int)) = A
    generalize hB : (bv p r (2 ^ k) b).map (fun x => (2 ^ k * x) % (p : Int)) = B
    have hAl : A.length = 2 ^ k := by rw [← hA, List.length_map, bu_len]
    have hBl : B.length = 2 ^ k := by rw [← hB, List.length_map, bv_len]
    have gA : ∀ i < 2 ^ k, Cg p ((A ++ B).getD i 0) (2 ^ k * (b.getD i 0 + b.getD (i + 2 ^ k) 0)) := fun i hi => by
      have e : (A ++ B).getD i 0 = (2 ^ k * ((b.getD i 0 + b.getD (i + 2 ^ k) 0) % (p : Int))) % (p : Int) := by
        rw [List.getD_eq_getElem?_getD, List.getElem?_append_left (by (first | lia | omega)), ← hA, List.getElem?_map, bu, List.getElem?_map, List.getElem?_range hi]; rfl
      rw [e]
      exact (cg_mod _ _).tr (Cg.mul Cg.rf (cg_mod _ _))
    have gB : ∀ i < 2 ^ k, Cg p ((A ++ B).getD (i + 2 ^ k) 0) (2 ^ k * ((b.getD i 0 - b.getD (i + 2 ^ k) 0) * (r : Int) ^ i)) := fun i hi => by
      have e : (A ++ B).getD (i + 2 ^ k) 0 = (2 ^ k * (((b.getD i 0 - b.getD (i + 2 ^ k) 0) * ((r ^ i % p : Nat) : Int)) % (p : Int))) % (p : Int) := by
        rw [List.getD_eq_getElem?_getD, List.getElem?_append_right (by (first | lia | omega)), hAl, Nat.add_sub_cancel, ← hB, List.getElem?_map, bv, List.getElem?_map, List.getElem?_range hi]; rfl
      rw [e]
      refine (cg_mod _ _).tr (Cg.mul Cg.rf ((cg_mod _ _).tr (Cg.mul Cg.rf ((cg_nat p (r ^ i)).tr ?_))))
      have : ((r ^ i : Nat) : Int) = (r : Int) ^ i := by simp
      rw [this]
    have tt : ∀ i, Cg p ((r : Int) ^ i * ((tw k ^ i % p : Nat) : Int)) 1 := fun i => by
      refine (Cg.mul Cg.rf (cg_nat p (tw k ^ i))).tr ?_
      have : ((tw k ^ i : Nat) : Int) = (tw k : Int) ^ i := by simp
      rw [this, ← Int.mul_pow]
      have h1 := Cg.pow hu.1 i
      rw [Int.one_pow] at h1
      exact h1
    have g2 : ∀ i < 2 ^ k, Cg p ((A ++ B).getD (i + 2 ^ k) 0 * ((tw k ^ i % p : Nat) : Int) % (p : Int)) (2 ^ k * (b.getD i 0 - b.getD (i + 2 ^ k) 0)) := fun i hi => by
      refine (cg_mod _ _).tr ((Cg.mul (gB i hi) Cg.rf).tr ?_)
      have e : 2 ^ k * ((b.getD i 0 - b.getD (i + 2 ^ k) 0) * (r : Int) ^ i) * ((tw k ^ i % p : Nat) : Int) = 2 ^ k * (b.getD i 0 - b.getD (i + 2 ^ k) 0) * ((r : Int) ^ i * ((tw k ^ i % p : Nat) : Int)) := by grind
      rw [e]
      refine (Cg.mul Cg.rf (tt i)).tr ?_
      rw [Int.mul_one]
    have hk : (2 : Int) ^ (k + 1) = 2 * 2 ^ k := by rw [Int.pow_succ]; (first | lia | omega)
    have bg : ∀ i (hi : i < b.length), b[i] = b.getD i 0 := fun i hi => by rw [List.getD_eq_getElem?_getD, List.getElem?_eq_getElem hi]; rfl
    apply List.ext_getElem
    · rw [cb_len, List.length_map, hb2]
    · intro i h1 h2
      rw [get_getD h1]
      rw [cb_len] at h1
      rw [List.getElem_map, bg i (by (first | lia | omega))]
      by_cases hi : i < 2 ^ k
      · rw [cb_lo _ _ _ _ _ hi]
        refine (Cg.add (gA i hi) (g2 i hi)).tr ?_
        unfold Cg; congr 1
        rw [hk]; grind
      · obtain ⟨j, rfl⟩ : ∃ j, i = j + 2 ^ k := ⟨i - 2 ^ k, by (first | lia | omega)⟩
        have hj : j < 2 ^ k := by (first | lia | omega)
        rw [cb_hi _ _ _ _ _ hj]
        refine (Cg.sub (gA j hj) (g2 j hj)).tr ?_
        unfold Cg; congr 1
        rw [hk]; grind

/-! ## level by level -/
noncomputable def lev (m : Nat) (f : List Int → List Int) : Nat → List Int → List Int
  | 0, _ => []
  | n + 1, X => f (X.take m) ++ lev m f n (X.drop m)

theorem lev_succ (m : Nat) (f : List Int → List Int) (n : Nat) (X : List Int) : lev m f (n + 1) X = f (X.take m) ++ lev m f n (X.drop m) := rfl
theorem lev_len {m : Nat} {f : List Int → List Int} (hf : ∀ c, c.length = m → (f c).length = m) : ∀ (n : Nat) (X : List Int), X.length = n * m → (lev m f n X).length = n * m
  | 0, _, _ => by simp [lev]
  | n + 1, X, h => by
    have h' : (n + 1) * m = n * m + m := Nat.succ_mul n m
    unfold lev
    rw [List.length_append, hf _ (by rw [List.length_take]; (first | lia | omega)), lev_len hf n _ (by rw [List.length_drop]; (first | lia | omega))]
    (first | lia | omega)

/-- a level of wide blocks, then one of narrow ones -/
theorem lev_down {m : Nat} {f g : List Int → List Int} (hf : ∀ c, c.length = 2 * m → (f c).length = 2 * m) : ∀ (n : Nat) (X : List Int), X.length = n * (2 * m) → lev m g (2 * n) (lev (2 * m) f n X) = lev (2 * m) (fun c => g ((f c).take m) ++ g ((f c).drop m)) n X
  | 0, _, _ => rfl
  | n + 1, X, h => by
    have h' : (n + 1) * (2 * m) = n * (2 * m) + 2 * m := Nat.succ_mul n _
    have hfl := hf (X.take (2 * m)) (by rw [List.length_take]; (first | lia | omega))
    have e2 : 2 * (n + 1) = 2 * n + 1 + 1 := by (first | lia | omega)
    rw [e2, lev_succ (2 * m) f, lev_succ m g (2 * n + 1), lev_succ m g (2 * n), lev_succ (2 * m),
      List.take_append_of_le_length (by (first | lia | omega)), List.drop_append_of_le_length (by (first | lia | omega))]
    have hd : ((f (X.take (2 * m))).drop m).length = m := by rw [List.length_drop]; (first | lia | omega)
    rw [List.take_left' hd, List.drop_left' hd, lev_down hf n _ (by rw [List.length_drop]; (first | lia | omega)), List.append_assoc]
/-- a level of narrow blocks, then one of wide ones -/
theorem lev_up {m : Nat} {f g : List Int → List Int} (hg : ∀ c, c.length = m → (g c).length = m) : ∀ (n : Nat) (X : List Int), X.length = n * (2 * m) → lev (2 * m) f n (lev m g (2 * n) X) = lev (2 * m) (fun c => f (g (c.take m) ++ g (c.drop m))) n X
  | 0, _, _ => rfl
  | n + 1, X, h => by
    have h' : (n + 1) * (2 * m) = n * (2 * m) + 2 * m := Nat.succ_mul n _
    have e2 : 2 * (n + 1) = 2 * n + 1 + 1 := by (first | lia | omega)
    rw [e2]
    have l1 := hg (X.take m) (by rw [List.length_take]; (first | lia | omega))
    have l2 := hg ((X.drop m).take m) (by rw [List.length_take, List.length_drop]; (first | lia | omega))
    have e3 : lev m g (2 * n + 1 + 1) X = (g (X.take m) ++ g ((X.drop m).take m)) ++ lev m g (2 * n) (X.drop (2 * m)) := by
      rw [lev_succ, lev_succ, List.drop_drop, ← List.append_assoc, show m + m = 2 * m by (first | lia | omega)]
    rw [e3]
    have hl : (g (X.take m) ++ g ((X.drop m).take m)).length = 2 * m := by rw [List.length_append]; (first | lia | omega)
    have t1 : (X.take (2 * m)).take m = X.take m := by rw [List.take_take, Nat.min_eq_left (by (first | lia | omega))]
    have t2 : (X.take (2 * m)).drop m = (X.drop m).take m := by rw [List.drop_take]; congr 1; (first | lia | omega)
    show f ((_ ++ lev m g (2 * n) (X.drop (2 * m))).take (2 * m)) ++ lev (2 * m) f n ((_ ++ lev m g (2 * n) (X.drop (2 * m))).drop (2 * m)) = _
    rw [List.take_left' hl, List.drop_left' hl, lev_up hg n _ (by rw [List.length_drop]; (first | lia | omega))]
    show _ = f (g ((X.take (2 * m)).take m) ++ g ((X.take (2 * m)).drop m)) ++ _
    rw [t1, t2]
theorem lev_one (m : Nat) (f : List Int → List Int) (X : List Int) (h : X.length = m) : lev m f 1 X = f X := by
  unfold lev; unfold lev
  rw [List.take_of_length_le (by (first | lia | omega)), List.append_nil]
theorem lev_id (m : Nat) : ∀ (n : Nat) (X : List Int), X.length = n * m → lev m (fun c => c) n X = X
  | 0, X, h => by
    have : X.length = 0 := by rw [h, Nat.zero_mul]
    unfold lev
    exact (List.eq_nil_of_length_eq_zero this).symm
  | n + 1, X, h => by
    have h' : (n + 1) * m = n * m + m := Nat.succ_mul n m
    unfold lev
    rw [lev_id m n _ (by rw [List.length_drop]; (first | lia | omega)), List.take_append_drop]
/-- one more block -/
theorem lev_snoc (m : Nat) (f : List Int → List Int) : ∀ (n : Nat) (X : List Int), lev m f (n + 1) X = lev m f n X ++ f ((X.drop (n * m)).take m)
  | 0, X => by unfold lev; unfold lev; simp
  | n + 1, X => by
    have e : lev m f (n + 1 + 1) X = f (X.take m) ++ lev m f (n + 1) (X.drop m) := rfl
    have h' : (n + 1) * m = m + n * m := by rw [Nat.succ_mul]; (first | lia | omega)
    rw [e, lev_snoc m f n (X.drop m), List.drop_drop, h', ← List.append_assoc]; rfl
end NN

/-! what the defs compute: the transform -/
namespace NN
open PySem

/-! ## comprehensions -/
section
variable {P : Fns} {s : Ev} {b b₁ : Bx}
theorem packI_ints' (l : List Int) : packI (l.map V.int) = some l := by
  induction l with
  | nil => rfl
  | cons x r ih => simp only [List.map_cons, packI, ih, Option.map_some]
theorem packL_rows' (l : List (List Int)) : packL (l.map V.il) = some l := by
  induction l with
  | nil => rfl
  | cons x r ih => simp only [List.map_cons, packL, ih, Option.map_some]

theorem ev_comp {rw two : Bool} {src elt : E} {caps : List Nat} {u r : V} {its : List Ev} (vs : List V) (hs : evalE P src s b = some (u, b₁)) (hi : itemsOf two u = some its) (hc : its.length ≤ cap) (hf : elt.fresh = true) (hl : vs.length = its.length)
    (he : ∀ (i : Nat) (e : Ev) (v : V), its[i]? = some e → vs[i]? = some v → evalE P elt (e ++ caps.map (gt s)) b₁ = some (v, b₁) ∧ eltOk v = true) (hp : pack rw vs = some r) :
    evalE P (.comp rw two src (.bool true) elt caps) s b = some (r, b₁) := by
  have loop : ∀ (its : List Ev) (vs : List V), vs.length = its.length → (∀ (i : Nat) (e : Ev) (v : V), its[i]? = some e → vs[i]? = some v → evalE P elt (e ++ caps.map (gt s)) b₁ = some (v, b₁) ∧ eltOk v = true) →
      compLoop (fun e b' => match evalE P (.bool true) (e ++ caps.map (gt s)) b' with
            | some (.bool true, b₂) => (match evalE P elt (e ++ caps.map (gt s)) b₂ with | some (v, b₃) => if eltOk v then some (some v, b₃) else none | none => none)
            | some (.bool false, b₂) => some (none, b₂)
            | _ => none) its b₁ = some (vs, b₁) := by
    intro its
    induction its with
    | nil =>
      intro vs hl _
      have : vs = [] := List.eq_nil_of_length_eq_zero hl
      subst this; rfl
    | cons e r ih =>
      intro vs hl he
      cases vs with
      | nil => first | exact nn hl | cases hl
      | cons v t =>
        obtain ⟨h1, h2⟩ := he 0 e v rfl rfl
        have h3 := ih t (by simpa using hl) fun i e v h h' => he (i + 1) e v h h'
        simp only [ev_bool] at h3
        simp only [compLoop, ev_bool, h1, h2, if_true, h3]
        rfl
  rw [evr_comp]
  simp only [hs, hi, hf, hc, decide_true, Bool.and_true, if_true]
  have := loop its vs hl he
  exact (congrArg (fun q : Option (List V × Bx) => match q with | none => none | some (vs, b₂) => (pack rw vs).map (·, b₂)) this).trans (by show (pack rw vs).map (·, b₁) = _; rw [hp])

theorem ev_comp_ints {src elt : E} {caps : List Nat} {l : List Int} (f : Int → Int) (hs : evalE P src s b = some (.il l, b₁)) (hc : l.length ≤ cap) (hf : elt.fresh = true)
    (he : ∀ x ∈ l, evalE P elt (some (.int x) :: caps.map (gt s)) b₁ = some (.int (f x), b₁)) : evalE P (.comp false false src (.bool true) elt caps) s b = some (.il (l.map f), b₁) := by
  refine ev_comp (its := l.map fun i => [some (.int i)]) ((l.map f).map V.int) hs rfl (by simpa using hc) hf (by simp) (fun i e v h h' => ?_) (by unfold pack; simp only [Bool.false_eq_true, if_false]; rw [packI_ints']; rfl)
  rw [List.getElem?_map] at h
  rw [List.getElem?_map, List.getElem?_map] at h'
  cases hx : l[i]? with
  | none => rw [hx] at h; first | exact nn h | cases h
  | some x =>
    rw [hx] at h h'
    cases h; first | exact nn h' | cases h'
    exact ⟨he x (List.mem_of_getElem? hx), rfl⟩
end

/-! ## one block in place -/
noncomputable def pairOp (f1 f2 : Nat → Int → Int → Int) (h : Nat) (b : List Int) : List Int :=
  ((List.range h).map fun i => f1 i (b.getD i 0) (b.getD (i + h) 0)) ++ ((List.range h).map fun i => f2 i (b.getD i 0) (b.getD (i + h) 0))
theorem pairOp_len (f1 f2 : Nat → Int → Int → Int) (h : Nat) (b : List Int) : (pairOp f1 f2 h b).length = 2 * h := by simp [pairOp]; (first | lia | omega)

noncomputable def Inv (f1 f2 : Nat → Int → Int → Int) (B h : Nat) (Y : List Int) (at_ : Nat) (Z : List Int) : Prop :=
  Z.length = Y.length ∧ ∀ i, Z.getD i 0 = if B ≤ i ∧ i < B + at_ then f1 (i - B) (Y.getD i 0) (Y.getD (i + h) 0) else if B + h ≤ i ∧ i < B + h + at_ then f2 (i - h - B) (Y.getD (i - h) 0) (Y.getD i 0) else Y.getD i 0

theorem getD_set {l : List Int} {i j : Nat} {a : Int} (h : i < l.length) : (l.set i a).getD j 0 = if i = j then a else l.getD j 0 := by
  rw [List.getD_eq_getElem?_getD, List.getD_eq_getElem?_getD]
  by_cases e : i = j
  · subst e; rw [List.getElem?_set_self h, if_pos rfl]; rfl
  · rw [List.getElem?_set_ne e, if_neg e]

theorem inv_step {f1 f2 : Nat → Int → Int → Int} {B h : Nat} {Y Z : List Int} {j : Nat} (I : Inv f1 f2 B h Y j Z) (hj : j < h) (hB : B + 2 * h ≤ Y.length) :
    Inv f1 f2 B h Y (j + 1) ((Z.set (B + j) (f1 j (Z.getD (B + j) 0) (Z.getD (B + j + h) 0))).set (B + j + h) (f2 j (Z.getD (B + j) 0) (Z.getD (B + j + h) 0))) := by
  obtain ⟨hl, hg⟩ := I
  have e1 : Z.getD (B + j) 0 = Y.getD (B + j) 0 := by rw [hg, if_neg (by (first | lia | omega)), if_neg (by (first | lia | omega))]
  have e2 : Z.getD (B + j + h) 0 = Y.getD (B + j + h) 0 := by rw [hg, if_neg (by (first | lia | omega)), if_neg (by (first | lia | omega))]
  refine ⟨by rw [List.length_set, List.length_set, hl], fun i => ?_⟩
  rw [getD_set (by rw [List.length_set]; (first | lia | omega)), getD_set (by (first | lia | omega)), e1, e2]
  by_cases h1 : B + j + h = i
  · subst h1
    rw [if_pos rfl, if_neg (by (first | lia | omega)), if_pos (by (first | lia | omega))]
    have a1 : B + j + h - h - B = j := by (first | lia | omega)
    have a2 : B + j + h - h = B + j := by (first | lia | omega)
    rw [a1, a2]
  · rw [if_neg h1]
    by_cases h2 : B + j = i
    · subst h2
      rw [if_pos rfl, if_pos (by (first | lia | omega))]
      have a1 : B + j - B = j := by (first | lia | omega)
      rw [a1]
    · rw [if_neg h2, hg]
      by_cases c1 : B ≤ i ∧ i < B + j
      · rw [if_pos c1, if_pos (by (first | lia | omega))]
      · rw [if_neg c1, if_neg (show ¬ (B ≤ i ∧ i < B + (j + 1)) by (first | lia | omega))]
        by_cases c2 : B + h ≤ i ∧ i < B + h + j
        · rw [if_pos c2, if_pos (by (first | lia | omega))]
        · rw [if_neg c2, if_neg (show ¬ (B + h ≤ i ∧ i < B + h + (j + 1)) by (first | lia | omega))]

theorem inv_start {f1 f2 : Nat → Int → Int → Int} {B h : Nat} {Y : List Int} : Inv f1 f2 B h Y 0 Y := ⟨rfl, fun i => by rw [if_neg (by (first | lia | omega)), if_neg (by (first | lia | omega))]⟩

theorem inv_done {f1 f2 : Nat → Int → Int → Int} {B h : Nat} {Y Z : List Int} (I : Inv f1 f2 B h Y h Z) (hB : B + 2 * h ≤ Y.length) : Z = Y.take B ++ (pairOp f1 f2 h ((Y.drop B).take (2 * h)) ++ Y.drop (B + 2 * h)) := by
  obtain ⟨hl, hg⟩ := I
  have hblk : ∀ i, i < 2 * h → ((Y.drop B).take (2 * h)).getD i 0 = Y.getD (B + i) 0 := fun i hi => by
    rw [List.getD_eq_getElem?_getD, List.getElem?_take_of_lt hi, List.getElem?_drop, ← List.getD_eq_getElem?_getD]
  have hp := pairOp_len f1 f2 h ((Y.drop B).take (2 * h))
  apply List.ext_getElem
  · rw [List.length_append, List.length_append, hp, List.length_take, List.length_drop, hl]; (first | lia | omega)
  · intro i h1 h2
    rw [get_getD h1, hg, get_getD h2]
    by_cases c0 : i < B
    · rw [if_neg (by (first | lia | omega)), if_neg (by (first | lia | omega)), List.getD_eq_getElem?_getD, List.getD_eq_getElem?_getD, List.getElem?_append_left (by rw [List.length_take]; (first | lia | omega)), List.getElem?_take_of_lt c0]
    · obtain ⟨j, rfl⟩ : ∃ j, i = B + j := ⟨i - B, by (first | lia | omega)⟩
      have eR : (Y.take B ++ (pairOp f1 f2 h ((Y.drop B).take (2 * h)) ++ Y.drop (B + 2 * h))).getD (B + j) 0 = (pairOp f1 f2 h ((Y.drop B).take (2 * h)) ++ Y.drop (B + 2 * h)).getD j 0 := by
        rw [List.getD_eq_getElem?_getD, List.getElem?_append_right (by rw [List.length_take]; (first | lia | omega)), List.length_take, Nat.min_eq_left (by (first | lia | omega)), Nat.add_sub_cancel_left, ← List.getD_eq_getElem?_getD]
      rw [eR]
      by_cases c1 : j < h
      · rw [if_pos (by (first | lia | omega)), List.getD_eq_getElem?_getD (l := _ ++ _), List.getElem?_append_left (by (first | lia | omega))]
        unfold pairOp
        rw [List.getElem?_append_left (by simp; exact c1), List.getElem?_map, List.getElem?_range c1]
        show _ = f1 j _ _
        rw [hblk j (by (first | lia | omega)), hblk (j + h) (by (first | lia | omega)), Nat.add_sub_cancel_left]
        congr 2; (first | lia | omega)
      · rw [if_neg (by (first | lia | omega))]
        by_cases c2 : j < 2 * h
        · rw [if_pos (by (first | lia | omega)), List.getD_eq_getElem?_getD (l := _ ++ _), List.getElem?_append_left (by (first | lia | omega))]
          unfold pairOp
          rw [List.getElem?_append_right (by simp; (first | lia | omega)), List.getElem?_map, List.length_map, List.length_range, List.getElem?_range (by (first | lia | omega))]
          show _ = f2 (j - h) _ _
          rw [hblk (j - h) (by (first | lia | omega)), hblk (j - h + h) (by (first | lia | omega))]
          have a1 : B + j - h - B = j - h := by (first | lia | omega)
          have a2 : B + j - h = B + (j - h) := by (first | lia | omega)
          have a3 : j - h + h = j := by (first | lia | omega)
          rw [a1, a2, a3]
        · rw [if_neg (by (first | lia | omega)), List.getD_eq_getElem?_getD (l := _ ++ _), List.getElem?_append_right (by (first | lia | omega)), hp, List.getElem?_drop, ← List.getD_eq_getElem?_getD]
          congr 1; (first | lia | omega)

theorem red_set {p : Nat} {l : List Int} {i : Nat} {a : Int} (hr : Red p l) (ha : 0 ≤ a ∧ a < (p : Int)) : Red p (l.set i a) := fun x hx => by
  rcases List.mem_or_eq_of_mem_set hx with h | h
  · exact hr x h
  · rw [h]; exact ha
theorem red_get {p : Nat} {l : List Int} (hr : Red p l) {i : Nat} (h : i < l.length) : 0 ≤ l.getD i 0 ∧ l.getD i 0 < (p : Int) := by
  rw [← get_getD h]; exact hr _ (List.getElem_mem h)

theorem lev_length {m : Nat} {f : List Int → List Int} (hf : ∀ c, c.length = m → (f c).length = m) : ∀ (t : Nat) (X : List Int), t * m ≤ X.length → (lev m f t X).length = t * m
  | 0, _, _ => by simp [lev]
  | t + 1, X, h => by
    rw [Nat.succ_mul] at h ⊢
    rw [lev_succ, List.length_append, hf _ (by rw [List.length_take]; (first | lia | omega)), lev_length hf t _ (by rw [List.length_drop]; (first | lia | omega))]
    (first | lia | omega)

/-- a level in the making -/
theorem lev_next {m : Nat} {f : List Int → List Int} {t n : Nat} {X Z : List Int} (hf : ∀ c, c.length = m → (f c).length = m) (hX : X.length = n * m) (ht : t < n)
    (hZ : Z = (lev m f t X ++ X.drop (t * m)).take (t * m) ++ (f (((lev m f t X ++ X.drop (t * m)).drop (t * m)).take m) ++ (lev m f t X ++ X.drop (t * m)).drop (t * m + m))) : Z = lev m f (t + 1) X ++ X.drop ((t + 1) * m) := by
  have hle : t * m + m ≤ n * m := by rw [← Nat.succ_mul]; exact Nat.mul_le_mul_right m ht
  have hl : (lev m f t X).length = t * m := by
    have : ∀ (t : Nat) (X : List Int), t * m ≤ X.length → (lev m f t X).length = t * m := by
      intro t
      induction t with
      | zero => intro X _; simp [lev]
      | succ t ih =>
        intro X h
        rw [Nat.succ_mul] at h ⊢
        rw [lev_succ, List.length_append, hf _ (by rw [List.length_take]; (first | lia | omega)), ih _ (by rw [List.length_drop]; (first | lia | omega))]
        (first | lia | omega)
    exact this t X (by (first | lia | omega))
  have d1 : (lev m f t X ++ X.drop (t * m)).drop (t * m + m) = X.drop (t * m + m) := by
    rw [List.drop_append, List.drop_of_length_le (by (first | lia | omega)), hl, List.nil_append, List.drop_drop]
    congr 1; (first | lia | omega)
  rw [List.take_left' hl, List.drop_left' hl, d1] at hZ
  rw [hZ, lev_snoc, List.append_assoc, Nat.succ_mul]
end NN

/-! what the defs compute: forward -/
set_option maxRecDepth 100000
namespace NN
open PySem

theorem rangeL_idx {a c : Int} {n i : Nat} {x : Int} (h : (rangeL a c n)[i]? = some x) : i < n ∧ x = a + (i : Int) * c := by
  unfold rangeL at h
  rw [List.getElem?_map] at h
  cases hr : (List.range n)[i]? with
  | none => rw [hr] at h; first | exact nn h | cases h
  | some j =>
    rw [hr] at h
    have hi : i < n := by
      have := (List.getElem?_eq_some_iff.mp hr).1
      simpa using this
    rw [List.getElem?_range hi] at hr
    cases hr; first | exact nn h | cases h
    exact ⟨hi, rfl⟩

noncomputable def f1F (p : Nat) (_ : Nat) (x y : Int) : Int := (x + y) % (p : Int)
noncomputable def f2F (p r : Nat) (i : Nat) (x y : Int) : Int := ((x - y) * ((r ^ i % p : Nat) : Int)) % (p : Int)
theorem pair_F (p r h : Nat) (b : List Int) : pairOp (f1F p) (f2F p r) h b = bu p h b ++ bv p r h b := rfl

section
variable {P : Fns} {N : Nat} {Q : St → Fl → Prop}

inductive FwbI (row : List Int) (Y : List Int) (sl : List Int) (root : Nat) (r : Nat) (p : Nat) (h : Nat) (B : Nat) (j : Nat) (s : St) : Prop
  | mk Z z7 z8 z9 (h0 : s = ([some (.il row), some (.int root), some (.int p), some (.il Z), some (.int h), some (.il sl), some (.int B), z7, z8, z9], none)) (h1 : Inv (f1F p) (f2F p r) B h Y j Z) (h2 : Red p Z) : FwbI row Y sl root r p h B j s
theorem wp_fwd_block {row Y sl : List Int} {root r p h B : Nat} {z7 z8 z9 : Option V} (hp : 2 ≤ p ∧ p ≤ 3000) (hh : h ≤ 64) (hB : B + 2 * h ≤ Y.length) (hY : Y.length ≤ 64) (hr : Red p Y) (hps : sl.length = h) (hst : ∀ j, j < h → sl.getD j 0 = ((r ^ j % p : Nat) : Int))
    (hQ : ∀ z7 z8 z9, Red p (Y.take B ++ (pairOp (f1F p) (f2F p r) h ((Y.drop B).take (2 * h)) ++ Y.drop (B + 2 * h))) →
      Q ([some (.il row), some (.int root), some (.int p), some (.il (Y.take B ++ (pairOp (f1F p) (f2F p r) h ((Y.drop B).take (2 * h)) ++ Y.drop (B + 2 * h)))), some (.int h), some (.il sl), some (.int B), z7, z8, z9], none) .next) :
    Wp P N (mOf 3) (.for1 7 (.range1 (T.v 4)) T.fwdIn) ([some (.il row), some (.int root), some (.int p), some (.il Y), some (.int h), some (.il sl), some (.int B), z7, z8, z9], none) Q := by
  refine wp_for1 (l := rangeL 0 1 h) (b₁ := none) (FwbI row Y sl root r p h B)
    (.inr (by (repeat (first | (simp (disch := first | lia | omega) only [thenQ_ret, loopQ_next, loopQ_ret, wp_skip, wp_asg, wp_asg2, wp_asg3, wp_aug, wp_ite, wp_ret, wp_app, wp_pop, wp_setI, wp_augI, wp_setB, op_add, op_sub, op_mul_s, op_mul, op_fdiv, op_mod, op_shl, op_shr, op_band, cm_lt, cm_le, cm_gt, cm_ge, cm_eq, cm_ne, ev_int, ev_bool, ev_var, ev_bin, ev_cmp, ev_not, ev_and, ev_or, ev_ife, ev_idx, ev_upto, ev_from1, ev_all, ev_rev, ev_cat, ev_rep, ev_lit0, ev_lit1, ev_lst1, ev_rows2, ev_call1, ev_call2, ev_call3, ev_call4, ev_len, ev_min2, ev_sum, ev_toInt, ev_toList, ev_range1, ev_range3, ev_zip, ev_enum, op1_some', op1_none', vBin_int, vCmp_int, vNot_bool, vIdx_il, vUpto_il, vUpto_arg, vList_il', vCat_il, vRep_il, vMin_int, vLst1_int, vRows2_il, vSum_il, vToInt_int, vZip_il, vEnum_il, vRange_1, vRange_dn, asg_int, asg_il, ret_int, ret_bool, ret_il, ret_fresh, own_var, fr_var, fr_idx, fr_upto, fr_from1, fr_all, fr_rev, fr_cat, fr_rep, fr_lit, fr_lst1, fr_call1, fr_call2, fr_call3, fr_call4, fr_toList, fr_drawn, fr_comp, gt, pt, inEv, Option.map_some, Option.map_none, List.length_cons, List.length_nil, Nat.reduceAdd, Nat.reduceLT, decide_true, decide_false, decide_eq_true_eq, Bool.or_true, Bool.true_or, Bool.false_or, Bool.or_false, Int.toNat_natCast, and_self, true_and, and_true, if_true, if_false, Bool.false_eq_true, Bool.true_and, Bool.and_true, Nat.reduceBEq, bne_self_eq_false, Nat.reduceBNe, mOf, cap]) | rw [thenQ_next] | rw [wp_seq] | simp only [wp_seq, thenQ_next])))) rfl rfl ?_ ⟨Y, z7, z8, z9, rfl, inv_start, hr⟩ ?_
  · rintro j n σ bx hi ⟨Z, z7, z8, z9, hs, hI, hZ⟩
    cases hs
    obtain ⟨hj, rfl⟩ := rangeL_idx hi
    have e0 : (0 : Int) + (j : Int) * 1 = j := by (first | lia | omega)
    rw [e0]
    have hZl : Z.length = Y.length := hI.1
    have e1 : ((B : Int) + (j : Int)).toNat = B + j := by (first | lia | omega)
    have e2 : ((B : Int) + (j : Int) + (h : Int)).toNat = B + j + h := by (first | lia | omega)
    have g1 := red_get hZ (i := B + j) (by (first | lia | omega))
    have g2 := red_get hZ (i := B + j + h) (by (first | lia | omega))
    have hpg := hst j hj
    have hm : r ^ j % p < p := Nat.mod_lt _ (by (first | lia | omega))
    have hI' := inv_step hI hj hB
    simp only [f1F, f2F] at hI'
    generalize r ^ j % p = q at hpg hm hI'
    unfold T.fwdIn
    (repeat (first | (simp (disch := first | lia | omega) only [thenQ_ret, loopQ_next, loopQ_ret, wp_skip, wp_asg, wp_asg2, wp_asg3, wp_aug, wp_ite, wp_ret, wp_app, wp_pop, wp_setI, wp_augI, wp_setB, op_add, op_sub, op_mul_s, op_mul, op_fdiv, op_mod, op_shl, op_shr, op_band, cm_lt, cm_le, cm_gt, cm_ge, cm_eq, cm_ne, ev_int, ev_bool, ev_var, ev_bin, ev_cmp, ev_not, ev_and, ev_or, ev_ife, ev_idx, ev_upto, ev_from1, ev_all, ev_rev, ev_cat, ev_rep, ev_lit0, ev_lit1, ev_lst1, ev_rows2, ev_call1, ev_call2, ev_call3, ev_call4, ev_len, ev_min2, ev_sum, ev_toInt, ev_toList, ev_range1, ev_range3, ev_zip, ev_enum, op1_some', op1_none', vBin_int, vCmp_int, vNot_bool, vIdx_il, vUpto_il, vUpto_arg, vList_il', vCat_il, vRep_il, vMin_int, vLst1_int, vRows2_il, vSum_il, vToInt_int, vZip_il, vEnum_il, vRange_1, vRange_dn, asg_int, asg_il, ret_int, ret_bool, ret_il, ret_fresh, own_var, fr_var, fr_idx, fr_upto, fr_from1, fr_all, fr_rev, fr_cat, fr_rep, fr_lit, fr_lst1, fr_call1, fr_call2, fr_call3, fr_call4, fr_toList, fr_drawn, fr_comp, gt, pt, inEv, Option.map_some, Option.map_none, List.length_cons, List.length_nil, Nat.reduceAdd, Nat.reduceLT, decide_true, decide_false, decide_eq_true_eq, Bool.or_true, Bool.true_or, Bool.false_or, Bool.or_false, Int.toNat_natCast, and_self, true_and, and_true, if_true, if_false, Bool.false_eq_true, Bool.true_and, Bool.and_true, Nat.reduceBEq, bne_self_eq_false, Nat.reduceBNe, mOf, cap, e1, e2, hZl, hps, hpg, List.length_set]) | rw [thenQ_next] | rw [wp_seq] | simp only [wp_seq, thenQ_next]))
    refine ⟨by (first | lia | omega), by (first | lia | omega), _, _, _, _, rfl, hI', ?_⟩
    refine red_set (red_set hZ ⟨Int.emod_nonneg _ (by (first | lia | omega)), Int.emod_lt_of_pos _ (by (first | lia | omega))⟩) ⟨Int.emod_nonneg _ (by (first | lia | omega)), Int.emod_lt_of_pos _ (by (first | lia | omega))⟩
  · rintro s ⟨Z, z7, z8, z9, rfl, hI, hZ⟩
    rw [rangeL_len] at hI
    have := inv_done hI hB
    subst this
    exact hQ z7 z8 z9 hZ
end

theorem two_pow_le {q : Nat} (h : q ≤ 5) : 1 ≤ 2 ^ q ∧ 2 ^ q ≤ 32 := ⟨Nat.one_le_two_pow, by
  have := Nat.pow_le_pow_right (n := 2) (by decide) h
  exact this⟩

noncomputable def SpForward (F₀ : List V → Option V) : Prop := ∀ (row : List Int) (k r p : Nat), row.length = 2 ^ k → k ≤ 5 → 2 ≤ p → p ≤ 3000 → r ≤ 3000 →
  ∃ v, F₀ [.il row, .int r, .int p] = some v ∧ v = .il (F p k r (row.map (· % (p : Int))))

inductive FwJ (row : List Int) (X : List Int) (r' : Nat) (p : Nat) (h : Nat) (t : Nat) (s : St) : Prop
  | mk (z6 z7 z8 z9 : Option V) (h0 : s = ([some (.il row), some (.int r'), some (.int p), some (.il (lev (2 * h) (pairOp (f1F p) (f2F p r') h) t X ++ X.drop (t * (2 * h)))), some (.int h), some (.il (pws r' h p)), z6, z7, z8, z9], none)) (h1 : Red p (lev (2 * h) (pairOp (f1F p) (f2F p r') h) t X ++ X.drop (t * (2 * h)))) : FwJ row X r' p h t s
inductive FwI (row : List Int) (X₀ : List Int) (r : Nat) (p : Nat) (k : Nat) (q : Nat) (s : St) : Prop
  | mk (X : List Int) (r' : Nat) (z5 z6 z7 z8 z9 : Option V) (h0 : s = ([some (.il row), some (.int r'), some (.int p), some (.il X), some (.int (2 ^ q / 2 : Nat)), z5, z6, z7, z8, z9], none)) (h1 : Red p X) (h2 : X.length = 2 ^ k) (h3 : r' ≤ 3000) (h4 : q ≤ k) (h5 : F p k r X₀ = lev (2 ^ q) (F p q r') (2 ^ (k - q)) X) : FwI row X₀ r p k q s
theorem sp_forward (P : Fns) (hP : SpPowersOf (P.fn "powers_of")) : SpForward (run P fuel (mOf 3) T.forward 10 3) := fun row k r p hrow hk hp2 hp3 hr => by
  have hkk := two_pow_le hk
  refine run_of rfl ?_
  show Wp P fuel (mOf 3) T.forward ([some (.il row), some (.int r), some (.int p), none, none, none, none, none, none, none], none) _
  unfold T.forward
  have hc := ev_comp_ints (P := P) (src := T.v 0) (elt := T.mod (T.v 0) (T.v 1)) (caps := [2]) (s := [some (.il row), some (.int r), some (.int p), none, none, none, none, none, none, none]) (b := none) (b₁ := none) (l := row) (fun x => x % (p : Int)) rfl (by show row.length ≤ 100000; (first | lia | omega)) rfl
    (fun x _ => by
      show evalE P (T.mod (T.v 0) (T.v 1)) [some (.int x), some (.int p)] none = _
      (repeat (first | (simp (disch := first | lia | omega) only [thenQ_ret, loopQ_next, loopQ_ret, wp_skip, wp_asg, wp_asg2, wp_asg3, wp_aug, wp_ite, wp_ret, wp_app, wp_pop, wp_setI, wp_augI, wp_setB, op_add, op_sub, op_mul_s, op_mul, op_fdiv, op_mod, op_shl, op_shr, op_band, cm_lt, cm_le, cm_gt, cm_ge, cm_eq, cm_ne, ev_int, ev_bool, ev_var, ev_bin, ev_cmp, ev_not, ev_and, ev_or, ev_ife, ev_idx, ev_upto, ev_from1, ev_all, ev_rev, ev_cat, ev_rep, ev_lit0, ev_lit1, ev_lst1, ev_rows2, ev_call1, ev_call2, ev_call3, ev_call4, ev_len, ev_min2, ev_sum, ev_toInt, ev_toList, ev_range1, ev_range3, ev_zip, ev_enum, op1_some', op1_none', vBin_int, vCmp_int, vNot_bool, vIdx_il, vUpto_il, vUpto_arg, vList_il', vCat_il, vRep_il, vMin_int, vLst1_int, vRows2_il, vSum_il, vToInt_int, vZip_il, vEnum_il, vRange_1, vRange_dn, asg_int, asg_il, ret_int, ret_bool, ret_il, ret_fresh, own_var, fr_var, fr_idx, fr_upto, fr_from1, fr_all, fr_rev, fr_cat, fr_rep, fr_lit, fr_lst1, fr_call1, fr_call2, fr_call3, fr_call4, fr_toList, fr_drawn, fr_comp, gt, pt, inEv, Option.map_some, Option.map_none, List.length_cons, List.length_nil, Nat.reduceAdd, Nat.reduceLT, decide_true, decide_false, decide_eq_true_eq, Bool.or_true, Bool.true_or, Bool.false_or, Bool.or_false, Int.toNat_natCast, and_self, true_and, and_true, if_true, if_false, Bool.false_eq_true, Bool.true_and, Bool.and_true, Nat.reduceBEq, bne_self_eq_false, Nat.reduceBNe, mOf, cap]) | rw [thenQ_next] | rw [wp_seq] | simp only [wp_seq, thenQ_next])))
  (repeat (first | (simp (disch := first | lia | omega) only [thenQ_ret, loopQ_next, loopQ_ret, wp_skip, wp_asg, wp_asg2, wp_asg3, wp_aug, wp_ite, wp_ret, wp_app, wp_pop, wp_setI, wp_augI, wp_setB, op_add, op_sub, op_mul_s, op_mul, op_fdiv, op_mod, op_shl, op_shr, op_band, cm_lt, cm_le, cm_gt, cm_ge, cm_eq, cm_ne, ev_int, ev_bool, ev_var, ev_bin, ev_cmp, ev_not, ev_and, ev_or, ev_ife, ev_idx, ev_upto, ev_from1, ev_all, ev_rev, ev_cat, ev_rep, ev_lit0, ev_lit1, ev_lst1, ev_rows2, ev_call1, ev_call2, ev_call3, ev_call4, ev_len, ev_min2, ev_sum, ev_toInt, ev_toList, ev_range1, ev_range3, ev_zip, ev_enum, op1_some', op1_none', vBin_int, vCmp_int, vNot_bool, vIdx_il, vUpto_il, vUpto_arg, vList_il', vCat_il, vRep_il, vMin_int, vLst1_int, vRows2_il, vSum_il, vToInt_int, vZip_il, vEnum_il, vRange_1, vRange_dn, asg_int, asg_il, ret_int, ret_bool, ret_il, ret_fresh, own_var, fr_var, fr_idx, fr_upto, fr_from1, fr_all, fr_rev, fr_cat, fr_rep, fr_lit, fr_lst1, fr_call1, fr_call2, fr_call3, fr_call4, fr_toList, fr_drawn, fr_comp, gt, pt, inEv, Option.map_some, Option.map_none, List.length_cons, List.length_nil, Nat.reduceAdd, Nat.reduceLT, decide_true, decide_false, decide_eq_true_eq, Bool.or_true, Bool.true_or, Bool.false_or, Bool.or_false, Int.toNat_natCast, and_self, true_and, and_true, if_true, if_false, Bool.false_eq_true, Bool.true_and, Bool.and_true, Nat.reduceBEq, bne_self_eq_false, Nat.reduceBNe, mOf, cap, wp_asgC, hc]) | rw [thenQ_next] | rw [wp_seq] | simp only [wp_seq, thenQ_next]))
  generalize hX₀ : row.map (fun x => x % (p : Int)) = X₀
  have hX₀l : X₀.length = 2 ^ k := by rw [← hX₀, List.length_map, hrow]
  have hX₀r : Red p X₀ := fun x hx => by
    rw [← hX₀] at hx
    obtain ⟨y, _, rfl⟩ := List.mem_map.mp hx
    exact ⟨Int.emod_nonneg _ (by (first | lia | omega)), Int.emod_lt_of_pos _ (by (first | lia | omega))⟩
  have eh : ((row.length : Int) / 2) = ((2 ^ k / 2 : Nat) : Int) := by rw [hrow]; rfl
  rw [eh]
  refine wp_while (FwI row X₀ r p k) ?_ k (by show k < 100000; (first | lia | omega)) ⟨X₀, r, none, none, none, none, none, rfl, hX₀r, hX₀l, hr, Nat.le_refl _, by rw [Nat.sub_self, Nat.pow_zero, lev_one _ _ _ hX₀l]⟩
  rintro q σ bx ⟨X, r', z5, z6, z7, z8, z9, hs, hXr, hXl, hr', hqk, hF⟩
  cases hs
  cases q with
  | zero =>
    refine ⟨false, none, by (repeat (first | (simp (disch := first | lia | omega) only [thenQ_ret, loopQ_next, loopQ_ret, wp_skip, wp_asg, wp_asg2, wp_asg3, wp_aug, wp_ite, wp_ret, wp_app, wp_pop, wp_setI, wp_augI, wp_setB, op_add, op_sub, op_mul_s, op_mul, op_fdiv, op_mod, op_shl, op_shr, op_band, cm_lt, cm_le, cm_gt, cm_ge, cm_eq, cm_ne, ev_int, ev_bool, ev_var, ev_bin, ev_cmp, ev_not, ev_and, ev_or, ev_ife, ev_idx, ev_upto, ev_from1, ev_all, ev_rev, ev_cat, ev_rep, ev_lit0, ev_lit1, ev_lst1, ev_rows2, ev_call1, ev_call2, ev_call3, ev_call4, ev_len, ev_min2, ev_sum, ev_toInt, ev_toList, ev_range1, ev_range3, ev_zip, ev_enum, op1_some', op1_none', vBin_int, vCmp_int, vNot_bool, vIdx_il, vUpto_il, vUpto_arg, vList_il', vCat_il, vRep_il, vMin_int, vLst1_int, vRows2_il, vSum_il, vToInt_int, vZip_il, vEnum_il, vRange_1, vRange_dn, asg_int, asg_il, ret_int, ret_bool, ret_il, ret_fresh, own_var, fr_var, fr_idx, fr_upto, fr_from1, fr_all, fr_rev, fr_cat, fr_rep, fr_lit, fr_lst1, fr_call1, fr_call2, fr_call3, fr_call4, fr_toList, fr_drawn, fr_comp, gt, pt, inEv, Option.map_some, Option.map_none, List.length_cons, List.length_nil, Nat.reduceAdd, Nat.reduceLT, decide_true, decide_false, decide_eq_true_eq, Bool.or_true, Bool.true_or, Bool.false_or, Bool.or_false, Int.toNat_natCast, and_self, true_and, and_true, if_true, if_false, Bool.false_eq_true, Bool.true_and, Bool.and_true, Nat.reduceBEq, bne_self_eq_false, Nat.reduceBNe, mOf, cap]) | rw [thenQ_next] | rw [wp_seq] | simp only [wp_seq, thenQ_next])); rfl, fun _ => ?_, fun h => by cases h⟩
    (repeat (first | (simp (disch := first | lia | omega) only [thenQ_ret, loopQ_next, loopQ_ret, wp_skip, wp_asg, wp_asg2, wp_asg3, wp_aug, wp_ite, wp_ret, wp_app, wp_pop, wp_setI, wp_augI, wp_setB, op_add, op_sub, op_mul_s, op_mul, op_fdiv, op_mod, op_shl, op_shr, op_band, cm_lt, cm_le, cm_gt, cm_ge, cm_eq, cm_ne, ev_int, ev_bool, ev_var, ev_bin, ev_cmp, ev_not, ev_and, ev_or, ev_ife, ev_idx, ev_upto, ev_from1, ev_all, ev_rev, ev_cat, ev_rep, ev_lit0, ev_lit1, ev_lst1, ev_rows2, ev_call1, ev_call2, ev_call3, ev_call4, ev_len, ev_min2, ev_sum, ev_toInt, ev_toList, ev_range1, ev_range3, ev_zip, ev_enum, op1_some', op1_none', vBin_int, vCmp_int, vNot_bool, vIdx_il, vUpto_il, vUpto_arg, vList_il', vCat_il, vRep_il, vMin_int, vLst1_int, vRows2_il, vSum_il, vToInt_int, vZip_il, vEnum_il, vRange_1, vRange_dn, asg_int, asg_il, ret_int, ret_bool, ret_il, ret_fresh, own_var, fr_var, fr_idx, fr_upto, fr_from1, fr_all, fr_rev, fr_cat, fr_rep, fr_lit, fr_lst1, fr_call1, fr_call2, fr_call3, fr_call4, fr_toList, fr_drawn, fr_comp, gt, pt, inEv, Option.map_some, Option.map_none, List.length_cons, List.length_nil, Nat.reduceAdd, Nat.reduceLT, decide_true, decide_false, decide_eq_true_eq, Bool.or_true, Bool.true_or, Bool.false_or, Bool.or_false, Int.toNat_natCast, and_self, true_and, and_true, if_true, if_false, Bool.false_eq_true, Bool.true_and, Bool.and_true, Nat.reduceBEq, bne_self_eq_false, Nat.reduceBNe, mOf, cap]) | rw [thenQ_next] | rw [wp_seq] | simp only [wp_seq, thenQ_next]))
    refine ⟨_, rfl, rfl, ?_⟩
    rw [hF]
    have : F p 0 r' = fun c => c := by funext c; rfl
    rw [this, lev_id _ _ _ (by rw [hXl]; simp)]
  | succ q =>
    have eq2 : 2 ^ (q + 1) / 2 = 2 ^ q := by rw [Nat.pow_succ]; (first | lia | omega)
    have hqq := two_pow_le (q := q) (by (first | lia | omega))
    obtain ⟨n, hn⟩ : ∃ n, n = 2 ^ (k - (q + 1)) := ⟨_, rfl⟩
    have hnk : n * (2 * 2 ^ q) = 2 ^ k := by
      rw [hn, show 2 * 2 ^ q = 2 ^ (q + 1) by rw [Nat.pow_succ]; (first | lia | omega), ← Nat.pow_add]
      congr 1; (first | lia | omega)
    rw [eq2]
    generalize hH : 2 ^ q = h at *
    have hn32 : n ≤ 32 := by
      have : n * 1 ≤ n * (2 * h) := Nat.mul_le_mul_left n (by (first | lia | omega))
      (first | lia | omega)
    obtain ⟨w, hw, rfl⟩ := hP r' h p (by (first | lia | omega)) (by (first | lia | omega)) (by (first | lia | omega)) (by (first | lia | omega)) (by (first | lia | omega))
    refine ⟨true, none, by (repeat (first | (simp (disch := first | lia | omega) only [thenQ_ret, loopQ_next, loopQ_ret, wp_skip, wp_asg, wp_asg2, wp_asg3, wp_aug, wp_ite, wp_ret, wp_app, wp_pop, wp_setI, wp_augI, wp_setB, op_add, op_sub, op_mul_s, op_mul, op_fdiv, op_mod, op_shl, op_shr, op_band, cm_lt, cm_le, cm_gt, cm_ge, cm_eq, cm_ne, ev_int, ev_bool, ev_var, ev_bin, ev_cmp, ev_not, ev_and, ev_or, ev_ife, ev_idx, ev_upto, ev_from1, ev_all, ev_rev, ev_cat, ev_rep, ev_lit0, ev_lit1, ev_lst1, ev_rows2, ev_call1, ev_call2, ev_call3, ev_call4, ev_len, ev_min2, ev_sum, ev_toInt, ev_toList, ev_range1, ev_range3, ev_zip, ev_enum, op1_some', op1_none', vBin_int, vCmp_int, vNot_bool, vIdx_il, vUpto_il, vUpto_arg, vList_il', vCat_il, vRep_il, vMin_int, vLst1_int, vRows2_il, vSum_il, vToInt_int, vZip_il, vEnum_il, vRange_1, vRange_dn, asg_int, asg_il, ret_int, ret_bool, ret_il, ret_fresh, own_var, fr_var, fr_idx, fr_upto, fr_from1, fr_all, fr_rev, fr_cat, fr_rep, fr_lit, fr_lst1, fr_call1, fr_call2, fr_call3, fr_call4, fr_toList, fr_drawn, fr_comp, gt, pt, inEv, Option.map_some, Option.map_none, List.length_cons, List.length_nil, Nat.reduceAdd, Nat.reduceLT, decide_true, decide_false, decide_eq_true_eq, Bool.or_true, Bool.true_or, Bool.false_or, Bool.or_false, Int.toNat_natCast, and_self, true_and, and_true, if_true, if_false, Bool.false_eq_true, Bool.true_and, Bool.and_true, Nat.reduceBEq, bne_self_eq_false, Nat.reduceBNe, mOf, cap]) | rw [thenQ_next] | rw [wp_seq] | simp only [wp_seq, thenQ_next])); rw [decide_eq_true (by (first | lia | omega))], (fun h => by cases h), fun _ => ?_⟩
    have hrg : vRange (.int 0) (.int (row.length : Int)) (.int (2 * (h : Int))) = some (.rng (rangeL 0 (2 * (h : Int)) n)) := by
      have hnn : (n : Int) * (2 * (h : Int)) = ((2 ^ k : Nat) : Int) := by rw [← hnk]; simp
      have := vRange_up (a := 0) (c := 2 * (h : Int)) (n := n) ⟨by decide, by decide, by (first | lia | omega), by (first | lia | omega), by (first | lia | omega)⟩
      rw [Int.zero_add, hnn] at this
      rw [hrow]; exact this
    (repeat (first | (simp (disch := first | lia | omega) only [thenQ_ret, loopQ_next, loopQ_ret, wp_skip, wp_asg, wp_asg2, wp_asg3, wp_aug, wp_ite, wp_ret, wp_app, wp_pop, wp_setI, wp_augI, wp_setB, op_add, op_sub, op_mul_s, op_mul, op_fdiv, op_mod, op_shl, op_shr, op_band, cm_lt, cm_le, cm_gt, cm_ge, cm_eq, cm_ne, ev_int, ev_bool, ev_var, ev_bin, ev_cmp, ev_not, ev_and, ev_or, ev_ife, ev_idx, ev_upto, ev_from1, ev_all, ev_rev, ev_cat, ev_rep, ev_lit0, ev_lit1, ev_lst1, ev_rows2, ev_call1, ev_call2, ev_call3, ev_call4, ev_len, ev_min2, ev_sum, ev_toInt, ev_toList, ev_range1, ev_range3, ev_zip, ev_enum, op1_some', op1_none', vBin_int, vCmp_int, vNot_bool, vIdx_il, vUpto_il, vUpto_arg, vList_il', vCat_il, vRep_il, vMin_int, vLst1_int, vRows2_il, vSum_il, vToInt_int, vZip_il, vEnum_il, vRange_1, vRange_dn, asg_int, asg_il, ret_int, ret_bool, ret_il, ret_fresh, own_var, fr_var, fr_idx, fr_upto, fr_from1, fr_all, fr_rev, fr_cat, fr_rep, fr_lit, fr_lst1, fr_call1, fr_call2, fr_call3, fr_call4, fr_toList, fr_drawn, fr_comp, gt, pt, inEv, Option.map_some, Option.map_none, List.length_cons, List.length_nil, Nat.reduceAdd, Nat.reduceLT, decide_true, decide_false, decide_eq_true_eq, Bool.or_true, Bool.true_or, Bool.false_or, Bool.or_false, Int.toNat_natCast, and_self, true_and, and_true, if_true, if_false, Bool.false_eq_true, Bool.true_and, Bool.and_true, Nat.reduceBEq, bne_self_eq_false, Nat.reduceBNe, mOf, cap, hw]) | rw [thenQ_next] | rw [wp_seq] | simp only [wp_seq, thenQ_next]))
    refine wp_for1 (l := rangeL 0 (2 * (h : Int)) n) (b₁ := none) (FwJ row X r' p h)
      (.inr (by (repeat (first | (simp (disch := first | lia | omega) only [thenQ_ret, loopQ_next, loopQ_ret, wp_skip, wp_asg, wp_asg2, wp_asg3, wp_aug, wp_ite, wp_ret, wp_app, wp_pop, wp_setI, wp_augI, wp_setB, op_add, op_sub, op_mul_s, op_mul, op_fdiv, op_mod, op_shl, op_shr, op_band, cm_lt, cm_le, cm_gt, cm_ge, cm_eq, cm_ne, ev_int, ev_bool, ev_var, ev_bin, ev_cmp, ev_not, ev_and, ev_or, ev_ife, ev_idx, ev_upto, ev_from1, ev_all, ev_rev, ev_cat, ev_rep, ev_lit0, ev_lit1, ev_lst1, ev_rows2, ev_call1, ev_call2, ev_call3, ev_call4, ev_len, ev_min2, ev_sum, ev_toInt, ev_toList, ev_range1, ev_range3, ev_zip, ev_enum, op1_some', op1_none', vBin_int, vCmp_int, vNot_bool, vIdx_il, vUpto_il, vUpto_arg, vList_il', vCat_il, vRep_il, vMin_int, vLst1_int, vRows2_il, vSum_il, vToInt_int, vZip_il, vEnum_il, vRange_1, vRange_dn, asg_int, asg_il, ret_int, ret_bool, ret_il, ret_fresh, own_var, fr_var, fr_idx, fr_upto, fr_from1, fr_all, fr_rev, fr_cat, fr_rep, fr_lit, fr_lst1, fr_call1, fr_call2, fr_call3, fr_call4, fr_toList, fr_drawn, fr_comp, gt, pt, inEv, Option.map_some, Option.map_none, List.length_cons, List.length_nil, Nat.reduceAdd, Nat.reduceLT, decide_true, decide_false, decide_eq_true_eq, Bool.or_true, Bool.true_or, Bool.false_or, Bool.or_false, Int.toNat_natCast, and_self, true_and, and_true, if_true, if_false, Bool.false_eq_true, Bool.true_and, Bool.and_true, Nat.reduceBEq, bne_self_eq_false, Nat.reduceBNe, mOf, cap, hrg]) | rw [thenQ_next] | rw [wp_seq] | simp only [wp_seq, thenQ_next])))) rfl rfl ?_ ⟨z6, z7, z8, z9, by simp [lev], by simpa [lev] using hXr⟩ ?_
    · rintro t m σ bx hi ⟨z6, z7, z8, z9, hs, hRed⟩
      cases hs
      obtain ⟨ht, rfl⟩ := rangeL_idx hi
      have e0 : (0 : Int) + (t : Int) * (2 * (h : Int)) = ((t * (2 * h) : Nat) : Int) := by rw [Int.zero_add]; simp
      rw [e0]
      (repeat (first | (simp (disch := first | lia | omega) only [thenQ_ret, loopQ_next, loopQ_ret, wp_skip, wp_asg, wp_asg2, wp_asg3, wp_aug, wp_ite, wp_ret, wp_app, wp_pop, wp_setI, wp_augI, wp_setB, op_add, op_sub, op_mul_s, op_mul, op_fdiv, op_mod, op_shl, op_shr, op_band, cm_lt, cm_le, cm_gt, cm_ge, cm_eq, cm_ne, ev_int, ev_bool, ev_var, ev_bin, ev_cmp, ev_not, ev_and, ev_or, ev_ife, ev_idx, ev_upto, ev_from1, ev_all, ev_rev, ev_cat, ev_rep, ev_lit0, ev_lit1, ev_lst1, ev_rows2, ev_call1, ev_call2, ev_call3, ev_call4, ev_len, ev_min2, ev_sum, ev_toInt, ev_toList, ev_range1, ev_range3, ev_zip, ev_enum, op1_some', op1_none', vBin_int, vCmp_int, vNot_bool, vIdx_il, vUpto_il, vUpto_arg, vList_il', vCat_il, vRep_il, vMin_int, vLst1_int, vRows2_il, vSum_il, vToInt_int, vZip_il, vEnum_il, vRange_1, vRange_dn, asg_int, asg_il, ret_int, ret_bool, ret_il, ret_fresh, own_var, fr_var, fr_idx, fr_upto, fr_from1, fr_all, fr_rev, fr_cat, fr_rep, fr_lit, fr_lst1, fr_call1, fr_call2, fr_call3, fr_call4, fr_toList, fr_drawn, fr_comp, gt, pt, inEv, Option.map_some, Option.map_none, List.length_cons, List.length_nil, Nat.reduceAdd, Nat.reduceLT, decide_true, decide_false, decide_eq_true_eq, Bool.or_true, Bool.true_or, Bool.false_or, Bool.or_false, Int.toNat_natCast, and_self, true_and, and_true, if_true, if_false, Bool.false_eq_true, Bool.true_and, Bool.and_true, Nat.reduceBEq, bne_self_eq_false, Nat.reduceBNe, mOf, cap]) | rw [thenQ_next] | rw [wp_seq] | simp only [wp_seq, thenQ_next]))
      have hYl : (lev (2 * h) (pairOp (f1F p) (f2F p r') h) t X ++ X.drop (t * (2 * h))).length = 2 ^ k := by
        have hle : t * (2 * h) + 2 * h ≤ n * (2 * h) := by rw [← Nat.succ_mul]; exact Nat.mul_le_mul_right _ ht
        rw [List.length_append, List.length_drop, lev_length (fun c hc => by rw [pairOp_len]) t X (by (first | lia | omega))]
        (first | lia | omega)
      have hle : t * (2 * h) + 2 * h ≤ n * (2 * h) := by rw [← Nat.succ_mul]; exact Nat.mul_le_mul_right _ ht
      refine wp_fwd_block (r := r') (h := h) (B := t * (2 * h)) ⟨by (first | lia | omega), by (first | lia | omega)⟩ (by (first | lia | omega)) (by (first | lia | omega)) (by (first | lia | omega)) hRed (pws_len r' h p) (fun j hj => pws_get r' h p j hj) fun z7 z8 z9 hRed' => ?_
      have hnext := lev_next (f := pairOp (f1F p) (f2F p r') h) (m := 2 * h) (t := t) (n := n) (X := X) (fun c _ => pairOp_len ..) (by (first | lia | omega)) ht rfl
      rw [hnext] at hRed' ⊢
      exact ⟨_, z7, z8, z9, rfl, hRed'⟩
    · rintro s ⟨z6, z7, z8, z9, rfl, hRed⟩
      rw [rangeL_len] at hRed ⊢
      have hdn : X.drop (n * (2 * h)) = [] := List.drop_of_length_le (by (first | lia | omega))
      rw [hdn, List.append_nil] at hRed ⊢
      (repeat (first | (simp (disch := first | lia | omega) only [thenQ_ret, loopQ_next, loopQ_ret, wp_skip, wp_asg, wp_asg2, wp_asg3, wp_aug, wp_ite, wp_ret, wp_app, wp_pop, wp_setI, wp_augI, wp_setB, op_add, op_sub, op_mul_s, op_mul, op_fdiv, op_mod, op_shl, op_shr, op_band, cm_lt, cm_le, cm_gt, cm_ge, cm_eq, cm_ne, ev_int, ev_bool, ev_var, ev_bin, ev_cmp, ev_not, ev_and, ev_or, ev_ife, ev_idx, ev_upto, ev_from1, ev_all, ev_rev, ev_cat, ev_rep, ev_lit0, ev_lit1, ev_lst1, ev_rows2, ev_call1, ev_call2, ev_call3, ev_call4, ev_len, ev_min2, ev_sum, ev_toInt, ev_toList, ev_range1, ev_range3, ev_zip, ev_enum, op1_some', op1_none', vBin_int, vCmp_int, vNot_bool, vIdx_il, vUpto_il, vUpto_arg, vList_il', vCat_il, vRep_il, vMin_int, vLst1_int, vRows2_il, vSum_il, vToInt_int, vZip_il, vEnum_il, vRange_1, vRange_dn, asg_int, asg_il, ret_int, ret_bool, ret_il, ret_fresh, own_var, fr_var, fr_idx, fr_upto, fr_from1, fr_all, fr_rev, fr_cat, fr_rep, fr_lit, fr_lst1, fr_call1, fr_call2, fr_call3, fr_call4, fr_toList, fr_drawn, fr_comp, gt, pt, inEv, Option.map_some, Option.map_none, List.length_cons, List.length_nil, Nat.reduceAdd, Nat.reduceLT, decide_true, decide_false, decide_eq_true_eq, Bool.or_true, Bool.true_or, Bool.false_or, Bool.or_false, Int.toNat_natCast, and_self, true_and, and_true, if_true, if_false, Bool.false_eq_true, Bool.true_and, Bool.and_true, Nat.reduceBEq, bne_self_eq_false, Nat.reduceBNe, mOf, cap]) | rw [thenQ_next] | rw [wp_seq] | simp only [wp_seq, thenQ_next]))
      refine ⟨q, Nat.lt_succ_self q, _, r' * r' % p, some (.il (pws r' h p)), z6, z7, z8, z9, ?_, hRed, ?_, ?_, by (first | lia | omega), ?_⟩
      · rw [hH]; rfl
      · rw [lev_len (fun c _ => pairOp_len ..) n X (by (first | lia | omega))]; (first | lia | omega)
      · have : r' * r' % p < p := Nat.mod_lt _ (by (first | lia | omega))
        (first | lia | omega)
      · rw [hF, ← hn, Nat.pow_succ, hH, Nat.mul_comm h 2]
        have e1 : (2 : Nat) ^ (k - q) = 2 * n := by
          rw [hn, show k - q = k - (q + 1) + 1 by (first | lia | omega), Nat.pow_succ]; (first | lia | omega)
        rw [e1, lev_down (fun c _ => pairOp_len ..) n X (by (first | lia | omega))]
        congr 1
        funext c
        rw [pair_F, List.take_left' (bu_len ..), List.drop_left' (bu_len ..), ← hH]
        rfl
end NN

/-! what the defs compute: backward -/
namespace NN
open PySem

noncomputable def f1B (p t : Nat) (i : Nat) (x y : Int) : Int := (x + y * ((t ^ i % p : Nat) : Int) % (p : Int)) % (p : Int)
noncomputable def f2B (p t : Nat) (i : Nat) (x y : Int) : Int := (x - y * ((t ^ i % p : Nat) : Int) % (p : Int)) % (p : Int)
theorem pair_B (p t h : Nat) (b : List Int) : pairOp (f1B p t) (f2B p t) h b = cb p t h b := rfl

section
variable {P : Fns} {N : Nat} {Q : St → Fl → Prop}

inductive BwbI (row : List Int) (Y : List Int) (sl : List Int) (root : Nat) (r : Nat) (p : Nat) (h : Nat) (B : Nat) (size : Nat) (tv : Int) (z12 : Option V) (j : Nat) (s : St) : Prop
  | mk Z z9 z10 z11 (h0 : s = ([some (.il row), some (.int root), some (.int p), some (.il Z), some (.int size), some (.int tv), some (.int h), some (.il sl), some (.int B), z9, z10, z11, z12], none)) (h1 : Inv (f1B p r) (f2B p r) B h Y j Z) (h2 : Red p Z) : BwbI row Y sl root r p h B size tv z12 j s
theorem wp_bwd_block {row Y sl : List Int} {root r p h B size : Nat} {tv : Int} {z9 z10 z11 z12 : Option V} (hp : 2 ≤ p ∧ p ≤ 3000) (hh : h ≤ 64) (hB : B + 2 * h ≤ Y.length) (hY : Y.length ≤ 64) (hr : Red p Y) (hps : sl.length = h) (hst : ∀ j, j < h → sl.getD j 0 = ((r ^ j % p : Nat) : Int))
    (hQ : ∀ z9 z10 z11, Red p (Y.take B ++ (pairOp (f1B p r) (f2B p r) h ((Y.drop B).take (2 * h)) ++ Y.drop (B + 2 * h))) →
      Q ([some (.il row), some (.int root), some (.int p), some (.il (Y.take B ++ (pairOp (f1B p r) (f2B p r) h ((Y.drop B).take (2 * h)) ++ Y.drop (B + 2 * h)))), some (.int size), some (.int tv), some (.int h), some (.il sl), some (.int B), z9, z10, z11, z12], none) .next) :
    Wp P N (mOf 3) (.for1 9 (.range1 (T.v 6)) T.bwdIn) ([some (.il row), some (.int root), some (.int p), some (.il Y), some (.int size), some (.int tv), some (.int h), some (.il sl), some (.int B), z9, z10, z11, z12], none) Q := by
  refine wp_for1 (l := rangeL 0 1 h) (b₁ := none) (BwbI row Y sl root r p h B size tv z12)
    (.inr (by (repeat (first | (simp (disch := first | lia | omega) only [thenQ_ret, loopQ_next, loopQ_ret, wp_skip, wp_asg, wp_asg2, wp_asg3, wp_aug, wp_ite, wp_ret, wp_app, wp_pop, wp_setI, wp_augI, wp_setB, op_add, op_sub, op_mul_s, op_mul, op_fdiv, op_mod, op_shl, op_shr, op_band, cm_lt, cm_le, cm_gt, cm_ge, cm_eq, cm_ne, ev_int, ev_bool, ev_var, ev_bin, ev_cmp, ev_not, ev_and, ev_or, ev_ife, ev_idx, ev_upto, ev_from1, ev_all, ev_rev, ev_cat, ev_rep, ev_lit0, ev_lit1, ev_lst1, ev_rows2, ev_call1, ev_call2, ev_call3, ev_call4, ev_len, ev_min2, ev_sum, ev_toInt, ev_toList, ev_range1, ev_range3, ev_zip, ev_enum, op1_some', op1_none', vBin_int, vCmp_int, vNot_bool, vIdx_il, vUpto_il, vUpto_arg, vList_il', vCat_il, vRep_il, vMin_int, vLst1_int, vRows2_il, vSum_il, vToInt_int, vZip_il, vEnum_il, vRange_1, vRange_dn, asg_int, asg_il, ret_int, ret_bool, ret_il, ret_fresh, own_var, fr_var, fr_idx, fr_upto, fr_from1, fr_all, fr_rev, fr_cat, fr_rep, fr_lit, fr_lst1, fr_call1, fr_call2, fr_call3, fr_call4, fr_toList, fr_drawn, fr_comp, gt, pt, inEv, Option.map_some, Option.map_none, List.length_cons, List.length_nil, Nat.reduceAdd, Nat.reduceLT, decide_true, decide_false, decide_eq_true_eq, Bool.or_true, Bool.true_or, Bool.false_or, Bool.or_false, Int.toNat_natCast, and_self, true_and, and_true, if_true, if_false, Bool.false_eq_true, Bool.true_and, Bool.and_true, Nat.reduceBEq, bne_self_eq_false, Nat.reduceBNe, mOf, cap]) | rw [thenQ_next] | rw [wp_seq] | simp only [wp_seq, thenQ_next])))) rfl rfl ?_ ⟨Y, z9, z10, z11, rfl, inv_start, hr⟩ ?_
  · rintro j n σ bx hi ⟨Z, z9, z10, z11, hs, hI, hZ⟩
    cases hs
    obtain ⟨hj, rfl⟩ := rangeL_idx hi
    have e0 : (0 : Int) + (j : Int) * 1 = j := by (first | lia | omega)
    rw [e0]
    have hZl : Z.length = Y.length := hI.1
    have e1 : ((B : Int) + (j : Int)).toNat = B + j := by (first | lia | omega)
    have e2 : ((B : Int) + (j : Int) + (h : Int)).toNat = B + j + h := by (first | lia | omega)
    have g1 := red_get hZ (i := B + j) (by (first | lia | omega))
    have g2 := red_get hZ (i := B + j + h) (by (first | lia | omega))
    have hpg := hst j hj
    have hm : r ^ j % p < p := Nat.mod_lt _ (by (first | lia | omega))
    have hI' := inv_step hI hj hB
    simp only [f1B, f2B] at hI'
    generalize r ^ j % p = q at hpg hm hI'
    unfold T.bwdIn
    (repeat (first | (simp (disch := first | lia | omega) only [thenQ_ret, loopQ_next, loopQ_ret, wp_skip, wp_asg, wp_asg2, wp_asg3, wp_aug, wp_ite, wp_ret, wp_app, wp_pop, wp_setI, wp_augI, wp_setB, op_add, op_sub, op_mul_s, op_mul, op_fdiv, op_mod, op_shl, op_shr, op_band, cm_lt, cm_le, cm_gt, cm_ge, cm_eq, cm_ne, ev_int, ev_bool, ev_var, ev_bin, ev_cmp, ev_not, ev_and, ev_or, ev_ife, ev_idx, ev_upto, ev_from1, ev_all, ev_rev, ev_cat, ev_rep, ev_lit0, ev_lit1, ev_lst1, ev_rows2, ev_call1, ev_call2, ev_call3, ev_call4, ev_len, ev_min2, ev_sum, ev_toInt, ev_toList, ev_range1, ev_range3, ev_zip, ev_enum, op1_some', op1_none', vBin_int, vCmp_int, vNot_bool, vIdx_il, vUpto_il, vUpto_arg, vList_il', vCat_il, vRep_il, vMin_int, vLst1_int, vRows2_il, vSum_il, vToInt_int, vZip_il, vEnum_il, vRange_1, vRange_dn, asg_int, asg_il, ret_int, ret_bool, ret_il, ret_fresh, own_var, fr_var, fr_idx, fr_upto, fr_from1, fr_all, fr_rev, fr_cat, fr_rep, fr_lit, fr_lst1, fr_call1, fr_call2, fr_call3, fr_call4, fr_toList, fr_drawn, fr_comp, gt, pt, inEv, Option.map_some, Option.map_none, List.length_cons, List.length_nil, Nat.reduceAdd, Nat.reduceLT, decide_true, decide_false, decide_eq_true_eq, Bool.or_true, Bool.true_or, Bool.false_or, Bool.or_false, Int.toNat_natCast, and_self, true_and, and_true, if_true, if_false, Bool.false_eq_true, Bool.true_and, Bool.and_true, Nat.reduceBEq, bne_self_eq_false, Nat.reduceBNe, mOf, cap, e1, e2, hZl, hps, hpg, List.length_set]) | rw [thenQ_next] | rw [wp_seq] | simp only [wp_seq, thenQ_next]))
    refine ⟨by (first | lia | omega), by (first | lia | omega), _, _, _, _, rfl, hI', ?_⟩
    refine red_set (red_set hZ ⟨Int.emod_nonneg _ (by (first | lia | omega)), Int.emod_lt_of_pos _ (by (first | lia | omega))⟩) ⟨Int.emod_nonneg _ (by (first | lia | omega)), Int.emod_lt_of_pos _ (by (first | lia | omega))⟩
  · rintro s ⟨Z, z9, z10, z11, rfl, hI, hZ⟩
    rw [rangeL_len] at hI
    have := inv_done hI hB
    subst this
    exact hQ z9 z10 z11 hZ
end

noncomputable def turned (p r k : Nat) : Nat := r ^ (2 ^ k - 1) % p
noncomputable def twB (p r k : Nat) (j : Nat) : Nat := turned p r k ^ (2 ^ k / (2 * 2 ^ j)) % p
noncomputable def share (p k : Nat) : Nat := (2 ^ k) ^ (p - 2) % p

noncomputable def SpBackward (F₀ : List V → Option V) : Prop := ∀ (row : List Int) (k r p : Nat), row.length = 2 ^ k → k ≤ 5 → 2 ≤ p → p ≤ 3000 → r ≤ 3000 → Red p row →
  ∃ v, F₀ [.il row, .int r, .int p] = some v ∧ v = .il ((G p (twB p r k) k row).map fun x => x * (share p k : Int) % (p : Int))

inductive BwJ (row : List Int) (X : List Int) (sl : List Int) (r : Nat) (p : Nat) (t : Nat) (tu : Nat) (h : Nat) (K : Nat) (i : Nat) (s : St) : Prop
  | mk (z8 z9 z10 z11 z12 : Option V) (h0 : s = ([some (.il row), some (.int r), some (.int p), some (.il (lev (2 * h) (pairOp (f1B p t) (f2B p t) h) i X ++ X.drop (i * (2 * h)))), some (.int K), some (.int tu), some (.int h), some (.il sl), z8, z9, z10, z11, z12], none)) (h1 : Red p (lev (2 * h) (pairOp (f1B p t) (f2B p t) h) i X ++ X.drop (i * (2 * h)))) : BwJ row X sl r p t tu h K i s
inductive BwI (row : List Int) (r : Nat) (p : Nat) (k : Nat) (K : Nat) (tu : Nat) (n : Nat) (s : St) : Prop
  | mk (j : Nat) (z7 z8 z9 z10 z11 z12 : Option V) (h0 : s = ([some (.il row), some (.int r), some (.int p), some (.il (lev (2 ^ j) (G p (twB p r k) j) (2 ^ (k - j)) row)), some (.int K), some (.int tu), some (.int (2 ^ j : Nat)), z7, z8, z9, z10, z11, z12], none)) (h1 : Red p (lev (2 ^ j) (G p (twB p r k) j) (2 ^ (k - j)) row)) (h2 : n = k - j) (h3 : j ≤ k) : BwI row r p k K tu n s
theorem sp_backward (P : Fns) (hW : SpPower (P.fn "plain_power")) (hP : SpPowersOf (P.fn "powers_of")) : SpBackward (run P fuel (mOf 3) T.backward 13 3) := fun row k r p hrow hk hp2 hp3 hr hRed₀ => by
  have hkk := two_pow_le hk
  refine run_of rfl ?_
  show Wp P fuel (mOf 3) T.backward ([some (.il row), some (.int r), some (.int p), none, none, none, none, none, none, none, none, none, none], none) _
  unfold T.backward
  obtain ⟨w₁, hw₁, rfl⟩ := hW r (2 ^ k - 1) p (by (first | lia | omega)) (by (first | lia | omega)) (by (first | lia | omega)) (by (first | lia | omega))
  have e1 : (((2 ^ k : Nat) : Int) - 1) = ((2 ^ k - 1 : Nat) : Int) := by (first | lia | omega)
  (repeat (first | (simp (disch := first | lia | omega) only [thenQ_ret, loopQ_next, loopQ_ret, wp_skip, wp_asg, wp_asg2, wp_asg3, wp_aug, wp_ite, wp_ret, wp_app, wp_pop, wp_setI, wp_augI, wp_setB, op_add, op_sub, op_mul_s, op_mul, op_fdiv, op_mod, op_shl, op_shr, op_band, cm_lt, cm_le, cm_gt, cm_ge, cm_eq, cm_ne, ev_int, ev_bool, ev_var, ev_bin, ev_cmp, ev_not, ev_and, ev_or, ev_ife, ev_idx, ev_upto, ev_from1, ev_all, ev_rev, ev_cat, ev_rep, ev_lit0, ev_lit1, ev_lst1, ev_rows2, ev_call1, ev_call2, ev_call3, ev_call4, ev_len, ev_min2, ev_sum, ev_toInt, ev_toList, ev_range1, ev_range3, ev_zip, ev_enum, op1_some', op1_none', vBin_int, vCmp_int, vNot_bool, vIdx_il, vUpto_il, vUpto_arg, vList_il', vCat_il, vRep_il, vMin_int, vLst1_int, vRows2_il, vSum_il, vToInt_int, vZip_il, vEnum_il, vRange_1, vRange_dn, asg_int, asg_il, ret_int, ret_bool, ret_il, ret_fresh, own_var, fr_var, fr_idx, fr_upto, fr_from1, fr_all, fr_rev, fr_cat, fr_rep, fr_lit, fr_lst1, fr_call1, fr_call2, fr_call3, fr_call4, fr_toList, fr_drawn, fr_comp, gt, pt, inEv, Option.map_some, Option.map_none, List.length_cons, List.length_nil, Nat.reduceAdd, Nat.reduceLT, decide_true, decide_false, decide_eq_true_eq, Bool.or_true, Bool.true_or, Bool.false_or, Bool.or_false, Int.toNat_natCast, and_self, true_and, and_true, if_true, if_false, Bool.false_eq_true, Bool.true_and, Bool.and_true, Nat.reduceBEq, bne_self_eq_false, Nat.reduceBNe, mOf, cap, e1, hw₁, hrow]) | rw [thenQ_next] | rw [wp_seq] | simp only [wp_seq, thenQ_next]))
  have htu : turned p r k < p := Nat.mod_lt _ (by (first | lia | omega))
  rw [show (r ^ (2 ^ k - 1) % p) = turned p r k from rfl]
  refine wp_while (BwI row r p k (2 ^ k) (turned p r k)) ?_ k (by show k < 100000; (first | lia | omega)) ⟨0, none, none, none, none, none, none, ?_, ?_, by (first | lia | omega), by (first | lia | omega)⟩
  · rintro n σ bx ⟨j, z7, z8, z9, z10, z11, z12, hs, hXr, rfl, hjk⟩
    cases hs
    by_cases hj : j = k
    · subst hj
      refine ⟨false, none, by (repeat (first | (simp (disch := first | lia | omega) only [thenQ_ret, loopQ_next, loopQ_ret, wp_skip, wp_asg, wp_asg2, wp_asg3, wp_aug, wp_ite, wp_ret, wp_app, wp_pop, wp_setI, wp_augI, wp_setB, op_add, op_sub, op_mul_s, op_mul, op_fdiv, op_mod, op_shl, op_shr, op_band, cm_lt, cm_le, cm_gt, cm_ge, cm_eq, cm_ne, ev_int, ev_bool, ev_var, ev_bin, ev_cmp, ev_not, ev_and, ev_or, ev_ife, ev_idx, ev_upto, ev_from1, ev_all, ev_rev, ev_cat, ev_rep, ev_lit0, ev_lit1, ev_lst1, ev_rows2, ev_call1, ev_call2, ev_call3, ev_call4, ev_len, ev_min2, ev_sum, ev_toInt, ev_toList, ev_range1, ev_range3, ev_zip, ev_enum, op1_some', op1_none', vBin_int, vCmp_int, vNot_bool, vIdx_il, vUpto_il, vUpto_arg, vList_il', vCat_il, vRep_il, vMin_int, vLst1_int, vRows2_il, vSum_il, vToInt_int, vZip_il, vEnum_il, vRange_1, vRange_dn, asg_int, asg_il, ret_int, ret_bool, ret_il, ret_fresh, own_var, fr_var, fr_idx, fr_upto, fr_from1, fr_all, fr_rev, fr_cat, fr_rep, fr_lit, fr_lst1, fr_call1, fr_call2, fr_call3, fr_call4, fr_toList, fr_drawn, fr_comp, gt, pt, inEv, Option.map_some, Option.map_none, List.length_cons, List.length_nil, Nat.reduceAdd, Nat.reduceLT, decide_true, decide_false, decide_eq_true_eq, Bool.or_true, Bool.true_or, Bool.false_or, Bool.or_false, Int.toNat_natCast, and_self, true_and, and_true, if_true, if_false, Bool.false_eq_true, Bool.true_and, Bool.and_true, Nat.reduceBEq, bne_self_eq_false, Nat.reduceBNe, mOf, cap]) | rw [thenQ_next] | rw [wp_seq] | simp only [wp_seq, thenQ_next])); rw [decide_eq_false (by (first | lia | omega))], fun _ => ?_, fun h => by cases h⟩
      obtain ⟨w₂, hw₂, rfl⟩ := hW (2 ^ j) (p - 2) p (by (first | lia | omega)) (by (first | lia | omega)) (by (first | lia | omega)) (by (first | lia | omega))
      have e2 : ((p : Int) - 2) = ((p - 2 : Nat) : Int) := by (first | lia | omega)
      have hsh : share p j < p := Nat.mod_lt _ (by (first | lia | omega))
      rw [Nat.sub_self, Nat.pow_zero, lev_one _ _ _ hrow] at hXr ⊢
      have hGl := G_len p (twB p r j) j row hrow
      (repeat (first | (simp (disch := first | lia | omega) only [thenQ_ret, loopQ_next, loopQ_ret, wp_skip, wp_asg, wp_asg2, wp_asg3, wp_aug, wp_ite, wp_ret, wp_app, wp_pop, wp_setI, wp_augI, wp_setB, op_add, op_sub, op_mul_s, op_mul, op_fdiv, op_mod, op_shl, op_shr, op_band, cm_lt, cm_le, cm_gt, cm_ge, cm_eq, cm_ne, ev_int, ev_bool, ev_var, ev_bin, ev_cmp, ev_not, ev_and, ev_or, ev_ife, ev_idx, ev_upto, ev_from1, ev_all, ev_rev, ev_cat, ev_rep, ev_lit0, ev_lit1, ev_lst1, ev_rows2, ev_call1, ev_call2, ev_call3, ev_call4, ev_len, ev_min2, ev_sum, ev_toInt, ev_toList, ev_range1, ev_range3, ev_zip, ev_enum, op1_some', op1_none', vBin_int, vCmp_int, vNot_bool, vIdx_il, vUpto_il, vUpto_arg, vList_il', vCat_il, vRep_il, vMin_int, vLst1_int, vRows2_il, vSum_il, vToInt_int, vZip_il, vEnum_il, vRange_1, vRange_dn, asg_int, asg_il, ret_int, ret_bool, ret_il, ret_fresh, own_var, fr_var, fr_idx, fr_upto, fr_from1, fr_all, fr_rev, fr_cat, fr_rep, fr_lit, fr_lst1, fr_call1, fr_call2, fr_call3, fr_call4, fr_toList, fr_drawn, fr_comp, gt, pt, inEv, Option.map_some, Option.map_none, List.length_cons, List.length_nil, Nat.reduceAdd, Nat.reduceLT, decide_true, decide_false, decide_eq_true_eq, Bool.or_true, Bool.true_or, Bool.false_or, Bool.or_false, Int.toNat_natCast, and_self, true_and, and_true, if_true, if_false, Bool.false_eq_true, Bool.true_and, Bool.and_true, Nat.reduceBEq, bne_self_eq_false, Nat.reduceBNe, mOf, cap, e2, hw₂]) | rw [thenQ_next] | rw [wp_seq] | simp only [wp_seq, thenQ_next]))
      rw [show (2 ^ j) ^ (p - 2) % p = share p j from rfl]
      generalize hs' : share p j = sh at hsh ⊢
      have hc := ev_comp_ints (P := P) (src := T.v 3) (elt := T.mod (T.mul (T.v 0) (T.v 1)) (T.v 2)) (caps := [12, 2]) (s := [some (.il row), some (.int r), some (.int p), some (.il (G p (twB p r j) j row)), some (.int (2 ^ j : Nat)), some (.int (turned p r j)), some (.int (2 ^ j : Nat)), z7, z8, z9, z10, z11, some (.int sh)]) (b := none) (b₁ := none) (l := G p (twB p r j) j row) (fun x => x * (sh : Int) % (p : Int)) rfl (by show (G p (twB p r j) j row).length ≤ 100000; (first | lia | omega)) rfl
        (fun x hx => by
          show evalE P (T.mod (T.mul (T.v 0) (T.v 1)) (T.v 2)) [some (.int x), some (.int sh), some (.int p)] none = _
          have := hXr x hx
          (repeat (first | (simp (disch := first | lia | omega) only [thenQ_ret, loopQ_next, loopQ_ret, wp_skip, wp_asg, wp_asg2, wp_asg3, wp_aug, wp_ite, wp_ret, wp_app, wp_pop, wp_setI, wp_augI, wp_setB, op_add, op_sub, op_mul_s, op_mul, op_fdiv, op_mod, op_shl, op_shr, op_band, cm_lt, cm_le, cm_gt, cm_ge, cm_eq, cm_ne, ev_int, ev_bool, ev_var, ev_bin, ev_cmp, ev_not, ev_and, ev_or, ev_ife, ev_idx, ev_upto, ev_from1, ev_all, ev_rev, ev_cat, ev_rep, ev_lit0, ev_lit1, ev_lst1, ev_rows2, ev_call1, ev_call2, ev_call3, ev_call4, ev_len, ev_min2, ev_sum, ev_toInt, ev_toList, ev_range1, ev_range3, ev_zip, ev_enum, op1_some', op1_none', vBin_int, vCmp_int, vNot_bool, vIdx_il, vUpto_il, vUpto_arg, vList_il', vCat_il, vRep_il, vMin_int, vLst1_int, vRows2_il, vSum_il, vToInt_int, vZip_il, vEnum_il, vRange_1, vRange_dn, asg_int, asg_il, ret_int, ret_bool, ret_il, ret_fresh, own_var, fr_var, fr_idx, fr_upto, fr_from1, fr_all, fr_rev, fr_cat, fr_rep, fr_lit, fr_lst1, fr_call1, fr_call2, fr_call3, fr_call4, fr_toList, fr_drawn, fr_comp, gt, pt, inEv, Option.map_some, Option.map_none, List.length_cons, List.length_nil, Nat.reduceAdd, Nat.reduceLT, decide_true, decide_false, decide_eq_true_eq, Bool.or_true, Bool.true_or, Bool.false_or, Bool.or_false, Int.toNat_natCast, and_self, true_and, and_true, if_true, if_false, Bool.false_eq_true, Bool.true_and, Bool.and_true, Nat.reduceBEq, bne_self_eq_false, Nat.reduceBNe, mOf, cap]) | rw [thenQ_next] | rw [wp_seq] | simp only [wp_seq, thenQ_next])))
      (repeat (first | (simp (disch := first | lia | omega) only [thenQ_ret, loopQ_next, loopQ_ret, wp_skip, wp_asg, wp_asg2, wp_asg3, wp_aug, wp_ite, wp_ret, wp_app, wp_pop, wp_setI, wp_augI, wp_setB, op_add, op_sub, op_mul_s, op_mul, op_fdiv, op_mod, op_shl, op_shr, op_band, cm_lt, cm_le, cm_gt, cm_ge, cm_eq, cm_ne, ev_int, ev_bool, ev_var, ev_bin, ev_cmp, ev_not, ev_and, ev_or, ev_ife, ev_idx, ev_upto, ev_from1, ev_all, ev_rev, ev_cat, ev_rep, ev_lit0, ev_lit1, ev_lst1, ev_rows2, ev_call1, ev_call2, ev_call3, ev_call4, ev_len, ev_min2, ev_sum, ev_toInt, ev_toList, ev_range1, ev_range3, ev_zip, ev_enum, op1_some', op1_none', vBin_int, vCmp_int, vNot_bool, vIdx_il, vUpto_il, vUpto_arg, vList_il', vCat_il, vRep_il, vMin_int, vLst1_int, vRows2_il, vSum_il, vToInt_int, vZip_il, vEnum_il, vRange_1, vRange_dn, asg_int, asg_il, ret_int, ret_bool, ret_il, ret_fresh, own_var, fr_var, fr_idx, fr_upto, fr_from1, fr_all, fr_rev, fr_cat, fr_rep, fr_lit, fr_lst1, fr_call1, fr_call2, fr_call3, fr_call4, fr_toList, fr_drawn, fr_comp, gt, pt, inEv, Option.map_some, Option.map_none, List.length_cons, List.length_nil, Nat.reduceAdd, Nat.reduceLT, decide_true, decide_false, decide_eq_true_eq, Bool.or_true, Bool.true_or, Bool.false_or, Bool.or_false, Int.toNat_natCast, and_self, true_and, and_true, if_true, if_false, Bool.false_eq_true, Bool.true_and, Bool.and_true, Nat.reduceBEq, bne_self_eq_false, Nat.reduceBNe, mOf, cap, hc]) | rw [thenQ_next] | rw [wp_seq] | simp only [wp_seq, thenQ_next]))
      exact ⟨_, rfl, rfl, rfl⟩
    · have hjk' : j < k := by (first | lia | omega)
      obtain ⟨n, hn⟩ : ∃ n, n = 2 ^ (k - (j + 1)) := ⟨_, rfl⟩
      have hnk : n * (2 * 2 ^ j) = 2 ^ k := by
        rw [hn, show 2 * 2 ^ j = 2 ^ (j + 1) by rw [Nat.pow_succ]; (first | lia | omega), ← Nat.pow_add]
        congr 1; (first | lia | omega)
      have hn2 : 2 ^ (k - j) = 2 * n := by
        rw [hn, show k - j = k - (j + 1) + 1 by (first | lia | omega), Nat.pow_succ]; (first | lia | omega)
      have hjj := two_pow_le (q := j) (by (first | lia | omega))
      have hlt : 2 ^ j < 2 ^ k := Nat.pow_lt_pow_right (by decide) hjk'
      obtain ⟨X, hX⟩ : ∃ X, X = lev (2 ^ j) (G p (twB p r k) j) (2 ^ (k - j)) row := ⟨_, rfl⟩
      have hXl : X.length = 2 ^ k := by
        rw [hX, lev_len (G_len p _ j) _ _ (by rw [hrow, ← Nat.pow_add]; congr 1; (first | lia | omega)), ← Nat.pow_add]; congr 1; (first | lia | omega)
      have hnext : lev (2 * 2 ^ j) (pairOp (f1B p (twB p r k j)) (f2B p (twB p r k j)) (2 ^ j)) n X = lev (2 ^ (j + 1)) (G p (twB p r k) (j + 1)) (2 ^ (k - (j + 1))) row := by
        rw [hX, hn2, lev_up (G_len p _ j) n row (by (first | lia | omega)), ← hn, Nat.pow_succ, Nat.mul_comm (2 ^ j) 2]
        rfl
      rw [← hX] at hXr ⊢
      obtain ⟨w₂, hw₂, rfl⟩ := hW (turned p r k) (2 ^ k / (2 * 2 ^ j)) p (by (first | lia | omega)) (by (first | lia | omega)) (by (first | lia | omega)) (by have := Nat.div_le_self (2 ^ k) (2 * 2 ^ j); (first | lia | omega))
      have ht : twB p r k j < p := Nat.mod_lt _ (by (first | lia | omega))
      rw [show turned p r k ^ (2 ^ k / (2 * 2 ^ j)) % p = twB p r k j from rfl] at hw₂
      obtain ⟨w₃, hw₃, rfl⟩ := hP (twB p r k j) (2 ^ j) p (by (first | lia | omega)) (by (first | lia | omega)) (by (first | lia | omega)) (by (first | lia | omega)) (by (first | lia | omega))
      have hps := pws_len (twB p r k j) (2 ^ j) p
      have hpg := fun i hi => pws_get (twB p r k j) (2 ^ j) p i hi
      generalize pws (twB p r k j) (2 ^ j) p = sl at hw₃ hps hpg
      generalize twB p r k j = t at *
      generalize turned p r k = tu at *
      rw [show 2 ^ (j + 1) = 2 * 2 ^ j by rw [Nat.pow_succ]; (first | lia | omega)] at hnext
      have hE : ∀ (h K : Nat), h = 2 ^ j → K = 2 ^ k → _ := fun h K h1 h2 => (⟨h1, h2⟩ : h = 2 ^ j ∧ K = 2 ^ k)
      have hrgK : vRange (.int 0) (.int ((2 ^ k : Nat) : Int)) (.int (2 * ((2 ^ j : Nat) : Int))) = some (.rng (rangeL 0 (2 * ((2 ^ j : Nat) : Int)) n)) := by
        have hnn : (n : Int) * (2 * ((2 ^ j : Nat) : Int)) = ((2 ^ k : Nat) : Int) := by rw [← hnk]; simp
        have := vRange_up (a := 0) (c := 2 * ((2 ^ j : Nat) : Int)) (n := n) ⟨by decide, by decide, by (first | lia | omega), by (first | lia | omega), by (first | lia | omega)⟩
        rw [Int.zero_add, hnn] at this
        exact this
      have ediv : (((2 ^ k : Nat) : Int) / (2 * ((2 ^ j : Nat) : Int))) = ((2 ^ k / (2 * 2 ^ j) : Nat) : Int) := by simp
      refine ⟨true, none, by (repeat (first | (simp (disch := first | lia | omega) only [thenQ_ret, loopQ_next, loopQ_ret, wp_skip, wp_asg, wp_asg2, wp_asg3, wp_aug, wp_ite, wp_ret, wp_app, wp_pop, wp_setI, wp_augI, wp_setB, op_add, op_sub, op_mul_s, op_mul, op_fdiv, op_mod, op_shl, op_shr, op_band, cm_lt, cm_le, cm_gt, cm_ge, cm_eq, cm_ne, ev_int, ev_bool, ev_var, ev_bin, ev_cmp, ev_not, ev_and, ev_or, ev_ife, ev_idx, ev_upto, ev_from1, ev_all, ev_rev, ev_cat, ev_rep, ev_lit0, ev_lit1, ev_lst1, ev_rows2, ev_call1, ev_call2, ev_call3, ev_call4, ev_len, ev_min2, ev_sum, ev_toInt, ev_toList, ev_range1, ev_range3, ev_zip, ev_enum, op1_some', op1_none', vBin_int, vCmp_int, vNot_bool, vIdx_il, vUpto_il, vUpto_arg, vList_il', vCat_il, vRep_il, vMin_int, vLst1_int, vRows2_il, vSum_il, vToInt_int, vZip_il, vEnum_il, vRange_1, vRange_dn, asg_int, asg_il, ret_int, ret_bool, ret_il, ret_fresh, own_var, fr_var, fr_idx, fr_upto, fr_from1, fr_all, fr_rev, fr_cat, fr_rep, fr_lit, fr_lst1, fr_call1, fr_call2, fr_call3, fr_call4, fr_toList, fr_drawn, fr_comp, gt, pt, inEv, Option.map_some, Option.map_none, List.length_cons, List.length_nil, Nat.reduceAdd, Nat.reduceLT, decide_true, decide_false, decide_eq_true_eq, Bool.or_true, Bool.true_or, Bool.false_or, Bool.or_false, Int.toNat_natCast, and_self, true_and, and_true, if_true, if_false, Bool.false_eq_true, Bool.true_and, Bool.and_true, Nat.reduceBEq, bne_self_eq_false, Nat.reduceBNe, mOf, cap]) | rw [thenQ_next] | rw [wp_seq] | simp only [wp_seq, thenQ_next])); rw [decide_eq_true (by (first | lia | omega))], (fun h => by cases h), fun _ => ?_⟩
      have hpow : ((2 ^ (j + 1) : Nat) : Int) = ((2 ^ j : Nat) : Int) * 2 := by rw [Nat.pow_succ]; simp
      generalize hH : 2 ^ j = h at *
      generalize hK : 2 ^ k = K at *
      have hn32 : n ≤ 32 := by
        have : n * 1 ≤ n * (2 * h) := Nat.mul_le_mul_left n (by (first | lia | omega))
        (first | lia | omega)
      (repeat (first | (simp (disch := first | lia | omega) only [thenQ_ret, loopQ_next, loopQ_ret, wp_skip, wp_asg, wp_asg2, wp_asg3, wp_aug, wp_ite, wp_ret, wp_app, wp_pop, wp_setI, wp_augI, wp_setB, op_add, op_sub, op_mul_s, op_mul, op_fdiv, op_mod, op_shl, op_shr, op_band, cm_lt, cm_le, cm_gt, cm_ge, cm_eq, cm_ne, ev_int, ev_bool, ev_var, ev_bin, ev_cmp, ev_not, ev_and, ev_or, ev_ife, ev_idx, ev_upto, ev_from1, ev_all, ev_rev, ev_cat, ev_rep, ev_lit0, ev_lit1, ev_lst1, ev_rows2, ev_call1, ev_call2, ev_call3, ev_call4, ev_len, ev_min2, ev_sum, ev_toInt, ev_toList, ev_range1, ev_range3, ev_zip, ev_enum, op1_some', op1_none', vBin_int, vCmp_int, vNot_bool, vIdx_il, vUpto_il, vUpto_arg, vList_il', vCat_il, vRep_il, vMin_int, vLst1_int, vRows2_il, vSum_il, vToInt_int, vZip_il, vEnum_il, vRange_1, vRange_dn, asg_int, asg_il, ret_int, ret_bool, ret_il, ret_fresh, own_var, fr_var, fr_idx, fr_upto, fr_from1, fr_all, fr_rev, fr_cat, fr_rep, fr_lit, fr_lst1, fr_call1, fr_call2, fr_call3, fr_call4, fr_toList, fr_drawn, fr_comp, gt, pt, inEv, Option.map_some, Option.map_none, List.length_cons, List.length_nil, Nat.reduceAdd, Nat.reduceLT, decide_true, decide_false, decide_eq_true_eq, Bool.or_true, Bool.true_or, Bool.false_or, Bool.or_false, Int.toNat_natCast, and_self, true_and, and_true, if_true, if_false, Bool.false_eq_true, Bool.true_and, Bool.and_true, Nat.reduceBEq, bne_self_eq_false, Nat.reduceBNe, mOf, cap, ediv, hw₂, hw₃]) | rw [thenQ_next] | rw [wp_seq] | simp only [wp_seq, thenQ_next]))
      refine wp_for1 (l := rangeL 0 (2 * (h : Int)) n) (b₁ := none) (BwJ row X sl r p t tu h K)
        (.inr (by (repeat (first | (simp (disch := first | lia | omega) only [thenQ_ret, loopQ_next, loopQ_ret, wp_skip, wp_asg, wp_asg2, wp_asg3, wp_aug, wp_ite, wp_ret, wp_app, wp_pop, wp_setI, wp_augI, wp_setB, op_add, op_sub, op_mul_s, op_mul, op_fdiv, op_mod, op_shl, op_shr, op_band, cm_lt, cm_le, cm_gt, cm_ge, cm_eq, cm_ne, ev_int, ev_bool, ev_var, ev_bin, ev_cmp, ev_not, ev_and, ev_or, ev_ife, ev_idx, ev_upto, ev_from1, ev_all, ev_rev, ev_cat, ev_rep, ev_lit0, ev_lit1, ev_lst1, ev_rows2, ev_call1, ev_call2, ev_call3, ev_call4, ev_len, ev_min2, ev_sum, ev_toInt, ev_toList, ev_range1, ev_range3, ev_zip, ev_enum, op1_some', op1_none', vBin_int, vCmp_int, vNot_bool, vIdx_il, vUpto_il, vUpto_arg, vList_il', vCat_il, vRep_il, vMin_int, vLst1_int, vRows2_il, vSum_il, vToInt_int, vZip_il, vEnum_il, vRange_1, vRange_dn, asg_int, asg_il, ret_int, ret_bool, ret_il, ret_fresh, own_var, fr_var, fr_idx, fr_upto, fr_from1, fr_all, fr_rev, fr_cat, fr_rep, fr_lit, fr_lst1, fr_call1, fr_call2, fr_call3, fr_call4, fr_toList, fr_drawn, fr_comp, gt, pt, inEv, Option.map_some, Option.map_none, List.length_cons, List.length_nil, Nat.reduceAdd, Nat.reduceLT, decide_true, decide_false, decide_eq_true_eq, Bool.or_true, Bool.true_or, Bool.false_or, Bool.or_false, Int.toNat_natCast, and_self, true_and, and_true, if_true, if_false, Bool.false_eq_true, Bool.true_and, Bool.and_true, Nat.reduceBEq, bne_self_eq_false, Nat.reduceBNe, mOf, cap, hrgK]) | rw [thenQ_next] | rw [wp_seq] | simp only [wp_seq, thenQ_next])))) rfl rfl ?_ ⟨z8, z9, z10, z11, z12, by simp [lev], by simpa [lev] using hXr⟩ ?_
      · rintro i m σ bx hi ⟨z8, z9, z10, z11, z12, hs, hRed⟩
        cases hs
        obtain ⟨hti, rfl⟩ := rangeL_idx hi
        have e0 : (0 : Int) + (i : Int) * (2 * (h : Int)) = ((i * (2 * h) : Nat) : Int) := by rw [Int.zero_add]; simp
        rw [e0]
        (repeat (first | (simp (disch := first | lia | omega) only [thenQ_ret, loopQ_next, loopQ_ret, wp_skip, wp_asg, wp_asg2, wp_asg3, wp_aug, wp_ite, wp_ret, wp_app, wp_pop, wp_setI, wp_augI, wp_setB, op_add, op_sub, op_mul_s, op_mul, op_fdiv, op_mod, op_shl, op_shr, op_band, cm_lt, cm_le, cm_gt, cm_ge, cm_eq, cm_ne, ev_int, ev_bool, ev_var, ev_bin, ev_cmp, ev_not, ev_and, ev_or, ev_ife, ev_idx, ev_upto, ev_from1, ev_all, ev_rev, ev_cat, ev_rep, ev_lit0, ev_lit1, ev_lst1, ev_rows2, ev_call1, ev_call2, ev_call3, ev_call4, ev_len, ev_min2, ev_sum, ev_toInt, ev_toList, ev_range1, ev_range3, ev_zip, ev_enum, op1_some', op1_none', vBin_int, vCmp_int, vNot_bool, vIdx_il, vUpto_il, vUpto_arg, vList_il', vCat_il, vRep_il, vMin_int, vLst1_int, vRows2_il, vSum_il, vToInt_int, vZip_il, vEnum_il, vRange_1, vRange_dn, asg_int, asg_il, ret_int, ret_bool, ret_il, ret_fresh, own_var, fr_var, fr_idx, fr_upto, fr_from1, fr_all, fr_rev, fr_cat, fr_rep, fr_lit, fr_lst1, fr_call1, fr_call2, fr_call3, fr_call4, fr_toList, fr_drawn, fr_comp, gt, pt, inEv, Option.map_some, Option.map_none, List.length_cons, List.length_nil, Nat.reduceAdd, Nat.reduceLT, decide_true, decide_false, decide_eq_true_eq, Bool.or_true, Bool.true_or, Bool.false_or, Bool.or_false, Int.toNat_natCast, and_self, true_and, and_true, if_true, if_false, Bool.false_eq_true, Bool.true_and, Bool.and_true, Nat.reduceBEq, bne_self_eq_false, Nat.reduceBNe, mOf, cap]) | rw [thenQ_next] | rw [wp_seq] | simp only [wp_seq, thenQ_next]))
        have hle : i * (2 * h) + 2 * h ≤ n * (2 * h) := by rw [← Nat.succ_mul]; exact Nat.mul_le_mul_right _ hti
        have hYl : (lev (2 * h) (pairOp (f1B p t) (f2B p t) h) i X ++ X.drop (i * (2 * h))).length = K := by
          rw [List.length_append, List.length_drop, lev_length (fun c hc => by rw [pairOp_len]) i X (by (first | lia | omega))]
          (first | lia | omega)
        refine wp_bwd_block (r := t) (h := h) (B := i * (2 * h)) ⟨by (first | lia | omega), by (first | lia | omega)⟩ (by (first | lia | omega)) (by (first | lia | omega)) (by (first | lia | omega)) hRed hps hpg fun z9 z10 z11 hRed' => ?_
        have hnx := lev_next (f := pairOp (f1B p t) (f2B p t) h) (m := 2 * h) (t := i) (n := n) (X := X) (fun c _ => pairOp_len ..) (by (first | lia | omega)) hti rfl
        rw [hnx] at hRed' ⊢
        exact ⟨_, z9, z10, z11, z12, rfl, hRed'⟩
      · rintro s ⟨z8, z9, z10, z11, z12, rfl, hRed⟩
        rw [rangeL_len] at hRed ⊢
        have hdn : X.drop (n * (2 * h)) = [] := List.drop_of_length_le (by (first | lia | omega))
        rw [hdn, List.append_nil] at hRed ⊢
        (repeat (first | (simp (disch := first | lia | omega) only [thenQ_ret, loopQ_next, loopQ_ret, wp_skip, wp_asg, wp_asg2, wp_asg3, wp_aug, wp_ite, wp_ret, wp_app, wp_pop, wp_setI, wp_augI, wp_setB, op_add, op_sub, op_mul_s, op_mul, op_fdiv, op_mod, op_shl, op_shr, op_band, cm_lt, cm_le, cm_gt, cm_ge, cm_eq, cm_ne, ev_int, ev_bool, ev_var, ev_bin, ev_cmp, ev_not, ev_and, ev_or, ev_ife, ev_idx, ev_upto, ev_from1, ev_all, ev_rev, ev_cat, ev_rep, ev_lit0, ev_lit1, ev_lst1, ev_rows2, ev_call1, ev_call2, ev_call3, ev_call4, ev_len, ev_min2, ev_sum, ev_toInt, ev_toList, ev_range1, ev_range3, ev_zip, ev_enum, op1_some', op1_none', vBin_int, vCmp_int, vNot_bool, vIdx_il, vUpto_il, vUpto_arg, vList_il', vCat_il, vRep_il, vMin_int, vLst1_int, vRows2_il, vSum_il, vToInt_int, vZip_il, vEnum_il, vRange_1, vRange_dn, asg_int, asg_il, ret_int, ret_bool, ret_il, ret_fresh, own_var, fr_var, fr_idx, fr_upto, fr_from1, fr_all, fr_rev, fr_cat, fr_rep, fr_lit, fr_lst1, fr_call1, fr_call2, fr_call3, fr_call4, fr_toList, fr_drawn, fr_comp, gt, pt, inEv, Option.map_some, Option.map_none, List.length_cons, List.length_nil, Nat.reduceAdd, Nat.reduceLT, decide_true, decide_false, decide_eq_true_eq, Bool.or_true, Bool.true_or, Bool.false_or, Bool.or_false, Int.toNat_natCast, and_self, true_and, and_true, if_true, if_false, Bool.false_eq_true, Bool.true_and, Bool.and_true, Nat.reduceBEq, bne_self_eq_false, Nat.reduceBNe, mOf, cap]) | rw [thenQ_next] | rw [wp_seq] | simp only [wp_seq, thenQ_next]))
        refine ⟨k - (j + 1), by (first | lia | omega), j + 1, some (.il sl), z8, z9, z10, z11, z12, ?_, ?_, rfl, by (first | lia | omega)⟩
        · rw [show (2 : Nat) ^ (j + 1) = 2 * h by rw [Nat.pow_succ, hH]; (first | lia | omega), ← hnext]
          have : ((2 * h : Nat) : Int) = (h : Int) * 2 := by (first | lia | omega)
          rw [this]
        · rw [show (2 : Nat) ^ (j + 1) = 2 * h by rw [Nat.pow_succ, hH]; (first | lia | omega), ← hnext]
          exact hRed
  · have : G p (twB p r k) 0 = fun c => c := by funext c; rfl
    rw [this, lev_id _ _ _ (by rw [hrow]; simp)]
    rfl
  · have : G p (twB p r k) 0 = fun c => c := by funext c; rfl
    rw [this, lev_id _ _ _ (by rw [hrow]; simp)]
    exact hRed₀
end NN

/-! plain maths: products of rows, by the transform -/
namespace NN

noncomputable def addp : List Int → List Int → List Int
  | [], l => l
  | a :: r, [] => a :: r
  | a :: r, b :: t => (a + b) :: addp r t
theorem val_addp (x : Int) : ∀ l m : List Int, val x (addp l m) = val x l + val x m
  | [], l => by show val x l = 0 + val x l; (first | lia | omega)
  | a :: r, [] => by show val x (a :: r) = val x (a :: r) + 0; (first | lia | omega)
  | a :: r, b :: t => by
    show (a + b) + x * val x (addp r t) = (a + x * val x r) + (b + x * val x t)
    rw [val_addp x r t, Int.mul_add]; (first | lia | omega)
theorem addp_len : ∀ l m : List Int, (addp l m).length = max l.length m.length
  | [], l => by show l.length = max 0 l.length; (first | lia | omega)
  | a :: r, [] => by show (a :: r).length = max (a :: r).length 0; (first | lia | omega)
  | a :: r, b :: t => by
    show (addp r t).length + 1 = max (r.length + 1) (t.length + 1)
    rw [addp_len r t]; (first | lia | omega)
noncomputable def pm : List Int → List Int → List Int
  | [], _ => []
  | a :: A, B => addp (B.map (a * ·)) (0 :: pm A B)
theorem val_scale (x a : Int) : ∀ l : List Int, val x (l.map (a * ·)) = a * val x l
  | [] => by simp [val]
  | b :: r => by
    show a * b + x * val x (r.map (a * ·)) = a * (b + x * val x r)
    rw [val_scale x a r, Int.mul_add, Int.mul_left_comm]
theorem val_pm (x : Int) : ∀ A B : List Int, val x (pm A B) = val x A * val x B
  | [], B => by show (0 : Int) = 0 * _; (first | lia | omega)
  | a :: A, B => by
    show val x (addp (B.map (a * ·)) (0 :: pm A B)) = (a + x * val x A) * val x B
    rw [val_addp, val_scale]
    show a * val x B + (0 + x * val x (pm A B)) = _
    rw [val_pm x A B, Int.add_mul, Int.mul_assoc]; (first | lia | omega)
theorem pm_len : ∀ A B : List Int, A ≠ [] → B ≠ [] → (pm A B).length = A.length + B.length - 1
  | [a], B, _, hB => by
    have : 0 < B.length := List.length_pos_iff.mpr hB
    show (addp (B.map (a * ·)) [0]).length = _
    rw [addp_len, List.length_map]; simp; (first | lia | omega)
  | a :: a' :: A, B, _, hB => by
    have : 0 < B.length := List.length_pos_iff.mpr hB
    have ih := pm_len (a' :: A) B (by simp) hB
    show (addp (B.map (a * ·)) (0 :: pm (a' :: A) B)).length = _
    rw [addp_len, List.length_map, List.length_cons, ih]; simp; (first | lia | omega)

theorem val_zeros (x : Int) (l : List Int) (n : Nat) : val x (l ++ List.replicate n 0) = val x l := by
  rw [val_append]
  have : ∀ n, val x (List.replicate n 0) = 0 := by
    intro n
    induction n with
    | zero => rfl
    | succ n ih => rw [List.replicate_succ]; show 0 + x * val x _ = 0; rw [ih]; (first | lia | omega)
  rw [this]; (first | lia | omega)
theorem val_mods (p : Int) (x : Int) : ∀ l : List Int, Cg p (val x (l.map (· % p))) (val x l)
  | [] => rfl
  | a :: r => Cg.add (cg_mod p a) (Cg.mul Cg.rf (val_mods p x r))

/-- what a root must be, and the share -/
noncomputable def Good (k p r : Nat) : Prop := 2 ≤ p ∧ p ≤ 3000 ∧ r ≤ 3000 ∧ Half p k r ∧ Cg p ((2 : Int) ^ k * (((2 ^ k) ^ (p - 2) % p : Nat) : Int)) 1

theorem zip_map_map {α : Type} (f g : α → Int) (h : Int → Int → Int) : ∀ l : List α, ((l.map f).zip (l.map g)).map (fun q => h q.1 q.2) = l.map fun x => h (f x) (g x)
  | [] => rfl
  | x :: r => by
    show h (f x) (g x) :: ((r.map f).zip (r.map g)).map (fun q => h q.1 q.2) = _
    rw [zip_map_map f g h r]; rfl

noncomputable def padTo (n : Nat) (l : List Int) : List Int := l ++ List.replicate (n - l.length) 0
theorem padTo_len {n : Nat} {l : List Int} (h : l.length ≤ n) : (padTo n l).length = n := by simp [padTo]; (first | lia | omega)

theorem red_mods {p : Nat} (hp : 2 ≤ p) (l : List Int) : Red p (l.map (· % (p : Int))) := fun x hx => by
  obtain ⟨y, _, rfl⟩ := List.mem_map.mp hx
  exact ⟨Int.emod_nonneg _ (by (first | lia | omega)), Int.emod_lt_of_pos _ (by (first | lia | omega))⟩

theorem conv_points {k p r : Nat} (g : Good k p r) (A B : List Int) (hA : A.length ≤ 2 ^ k) (hB : B.length ≤ 2 ^ k) (hC : (pm A B).length ≤ 2 ^ k) :
    ((F p k r ((padTo (2 ^ k) A).map (· % (p : Int)))).zip (F p k r ((padTo (2 ^ k) B).map (· % (p : Int))))).map (fun q => q.1 * q.2 % (p : Int)) = F p k r ((padTo (2 ^ k) (pm A B)).map (· % (p : Int))) := by
  obtain ⟨h2, _, _, hh, _⟩ := g
  have e := fun (l : List Int) (hl : l.length ≤ 2 ^ k) => F_eval (by (first | lia | omega) : 0 < p) k r ((padTo (2 ^ k) l).map (· % (p : Int))) hh (by rw [List.length_map, padTo_len hl]) (red_mods h2 _)
  rw [e A hA, e B hB, e _ hC, zip_map_map (h := fun a b => a * b % (p : Int))]
  apply List.map_congr_left
  intro y _
  have c := fun (l : List Int) => (val_mods (p : Int) y (padTo (2 ^ k) l)).tr (by show val y (padTo (2 ^ k) l) % (p : Int) = val y l % (p : Int); rw [padTo, val_zeros])
  show (val y _ % (p : Int)) * (val y _ % (p : Int)) % (p : Int) = _
  refine (Cg.mul ((cg_mod _ _).tr (c A)) ((cg_mod _ _).tr (c B))).tr ?_
  rw [← val_pm]
  exact (c (pm A B)).sy

theorem half_one {p k r : Nat} (h : Half p (k + 1) r) : Cg p ((r : Int) ^ (2 ^ (k + 1))) 1 := by
  have h1 : Cg p ((r : Int) ^ (2 ^ k)) (-1) := h
  have := h1.mul h1
  rw [Nat.pow_succ, Int.pow_mul, Int.pow_succ, Int.pow_succ, Int.pow_zero, Int.one_mul]
  exact this

theorem undo_ok {p k r : Nat} (tu : Nat) (hk : k ≠ 0) (hh : Half p k r) (htu : Cg p (tu : Int) ((r : Int) ^ (2 ^ k - 1))) : ∀ (m rr : Nat), m ≤ k → Cg p (rr : Int) ((r : Int) ^ (2 ^ (k - m))) → Undo p (fun j => tu ^ (2 ^ k / (2 * 2 ^ j)) % p) m rr
  | 0, _, _, _ => trivial
  | m + 1, rr, hm, hr => by
    have e1 : 2 ^ k / (2 * 2 ^ m) = 2 ^ (k - (m + 1)) := by
      rw [show 2 * 2 ^ m = 2 ^ (m + 1) by rw [Nat.pow_succ]; (first | lia | omega), Nat.pow_div hm (by decide)]
    have one : Cg p ((r : Int) ^ (2 ^ k)) 1 := by
      obtain ⟨k', rfl⟩ : ∃ k', k = k' + 1 := ⟨k - 1, by (first | lia | omega)⟩
      exact half_one hh
    refine ⟨?_, undo_ok tu hk hh htu m _ (by (first | lia | omega)) ?_⟩
    · show Cg p ((rr : Int) * ((tu ^ (2 ^ k / (2 * 2 ^ m)) % p : Nat) : Int)) 1
      rw [e1]
      refine (Cg.mul (d := ((r : Int) ^ (2 ^ k - 1)) ^ (2 ^ (k - (m + 1)))) hr ((cg_nat p _).tr ?_)).tr ?_
      · show ((tu ^ (2 ^ (k - (m + 1))) : Nat) : Int) % (p : Int) = _
        rw [show ((tu ^ (2 ^ (k - (m + 1))) : Nat) : Int) = (tu : Int) ^ (2 ^ (k - (m + 1))) by simp]
        exact htu.pow _
      · rw [← Int.mul_pow]
        have e2 : (r : Int) * (r : Int) ^ (2 ^ k - 1) = (r : Int) ^ (2 ^ k) := by
          have : 1 ≤ 2 ^ k := Nat.one_le_two_pow
          conv => rhs; rw [show 2 ^ k = (2 ^ k - 1) + 1 by (first | lia | omega), Int.pow_succ]
          rw [Int.mul_comm]
        rw [e2]
        have := one.pow (2 ^ (k - (m + 1)))
        rw [Int.one_pow] at this
        exact this
    · refine (cg_nat p (rr * rr)).tr ?_
      have : ((rr * rr : Nat) : Int) = (rr : Int) * rr := by simp
      rw [this]
      refine (Cg.mul hr hr).tr ?_
      rw [show k - m = k - (m + 1) + 1 by (first | lia | omega), Nat.pow_succ, Int.pow_mul, Int.pow_succ, Int.pow_succ, Int.pow_zero, Int.one_mul]

theorem conv_back {k p r : Nat} (g : Good k p r) (C : List Int) (hC : C.length = 2 ^ k) (tu : Nat) (htu : Cg p (tu : Int) ((r : Int) ^ (2 ^ k - 1))) :
    (G p (fun j => tu ^ (2 ^ k / (2 * 2 ^ j)) % p) k (F p k r (C.map (· % (p : Int))))).map (fun x => x * (((2 ^ k) ^ (p - 2) % p : Nat) : Int) % (p : Int)) = C.map (· % (p : Int)) := by
  obtain ⟨h2, _, _, hh, hs⟩ := g
  have hu : Undo p (fun j => tu ^ (2 ^ k / (2 * 2 ^ j)) % p) k r := by
    by_cases hk : k = 0
    · subst hk; trivial
    · exact undo_ok tu hk hh htu k r (Nat.le_refl _) (by rw [Nat.sub_self]; show _ = ((r : Int) ^ 1) % _; rw [Int.pow_succ, Int.pow_zero, Int.one_mul])
  rw [GF (by (first | lia | omega)) _ k r _ hu (by rw [List.length_map, hC]) (red_mods h2 _), List.map_map, List.map_map]
  apply List.map_congr_left
  intro x _
  show (2 ^ k * (x % (p : Int)) % (p : Int)) * (((2 ^ k) ^ (p - 2) % p : Nat) : Int) % (p : Int) = x % (p : Int)
  refine (Cg.mul ((cg_mod _ _).tr (Cg.mul Cg.rf (cg_mod _ _))) Cg.rf).tr ?_
  rw [Int.mul_right_comm]
  refine (Cg.mul hs Cg.rf).tr ?_
  rw [Int.one_mul]
end NN

/-! what the defs compute: convolve -/
namespace NN
open PySem

theorem ev_comp_pairs {P : Fns} {s : Ev} {b b₁ : Bx} {src elt : E} {caps : List Nat} {l : List (Int × Int)} (f : Int × Int → Int) (hs : evalE P src s b = some (.prs l, b₁)) (hc : l.length ≤ cap) (hf : elt.fresh = true)
    (he : ∀ x ∈ l, evalE P elt (some (.int x.1) :: some (.int x.2) :: caps.map (gt s)) b₁ = some (.int (f x), b₁)) : evalE P (.comp false true src (.bool true) elt caps) s b = some (.il (l.map f), b₁) := by
  refine ev_comp (its := l.map fun i => [some (.int i.1), some (.int i.2)]) ((l.map f).map V.int) hs rfl (by simpa using hc) hf (by simp) (fun i e v h h' => ?_) (by unfold pack; simp only [Bool.false_eq_true, if_false]; rw [packI_ints']; rfl)
  rw [List.getElem?_map] at h
  rw [List.getElem?_map, List.getElem?_map] at h'
  cases hx : l[i]? with
  | none => rw [hx] at h; first | exact nn h | cases h
  | some x =>
    rw [hx] at h h'
    cases h; first | exact nn h' | cases h'
    exact ⟨he x (List.mem_of_getElem? hx), rfl⟩

noncomputable def SpConvolve (F₀ : List V → Option V) : Prop := ∀ (A B : List Int) (k p r : Nat), Good k p r → (p - 1) % 2 ^ k = 0 → rootOf (2 ^ k) p = some r → k ≤ 5 → A.length ≤ 2 ^ k → B.length ≤ 2 ^ k → (pm A B).length ≤ 2 ^ k →
  ∃ v, F₀ [.il A, .il B, .int (2 ^ k : Nat), .int p] = some v ∧ v = .il ((padTo (2 ^ k) (pm A B)).map (· % (p : Int)))

theorem F_red {p : Nat} (hp : 2 ≤ p) {k r : Nat} {b : List Int} (h : Half p k r) (hb : b.length = 2 ^ k) (hr : Red p b) : Red p (F p k r b) := by
  rw [F_eval (by (first | lia | omega)) k r b h hb hr]
  intro x hx
  obtain ⟨y, _, rfl⟩ := List.mem_map.mp hx
  exact ⟨Int.emod_nonneg _ (by (first | lia | omega)), Int.emod_lt_of_pos _ (by (first | lia | omega))⟩

theorem sp_convolve (P : Fns) (hR : SpRoot (P.fn "root_of_unity")) (hFl : SpFilled (P.fn "filled")) (hF : SpForward (P.fn "forward")) (hB : SpBackward (P.fn "backward")) : SpConvolve (run P fuel mNo T.convolve 7 4) := fun A B k p r g hd hrt hk hA hB' hC => by
  have hkk := two_pow_le hk
  obtain ⟨h2, h3, hr3, hh, hs⟩ := id g
  refine run_of rfl ?_
  show Wp P fuel mNo T.convolve ([some (.il A), some (.il B), some (.int (2 ^ k : Nat)), some (.int p), none, none, none], none) _
  unfold T.convolve
  obtain ⟨w₁, hw₁, rfl⟩ := hR (2 ^ k) p r (by (first | lia | omega)) (by (first | lia | omega)) h2 h3 hd hrt
  obtain ⟨w₂, hw₂, rfl⟩ := hFl A (2 ^ k) (by (first | lia | omega)) (by (first | lia | omega))
  obtain ⟨w₃, hw₃, rfl⟩ := hFl B (2 ^ k) (by (first | lia | omega)) (by (first | lia | omega))
  rw [show A ++ List.replicate (2 ^ k - A.length) 0 = padTo (2 ^ k) A from rfl] at hw₂
  rw [show B ++ List.replicate (2 ^ k - B.length) 0 = padTo (2 ^ k) B from rfl] at hw₃
  obtain ⟨w₄, hw₄, rfl⟩ := hF (padTo (2 ^ k) A) k r p (padTo_len hA) hk h2 h3 hr3
  obtain ⟨w₅, hw₅, rfl⟩ := hF (padTo (2 ^ k) B) k r p (padTo_len hB') hk h2 h3 hr3
  have hpt := conv_points g A B hA hB' hC
  have rA : Red p (F p k r ((padTo (2 ^ k) A).map (· % (p : Int)))) := F_red h2 hh (by rw [List.length_map, padTo_len hA]) (red_mods h2 _)
  have rB : Red p (F p k r ((padTo (2 ^ k) B).map (· % (p : Int)))) := F_red h2 hh (by rw [List.length_map, padTo_len hB']) (red_mods h2 _)
  have lA : (F p k r ((padTo (2 ^ k) A).map (· % (p : Int)))).length = 2 ^ k := F_len p k r _ (by rw [List.length_map, padTo_len hA])
  have lB : (F p k r ((padTo (2 ^ k) B).map (· % (p : Int)))).length = 2 ^ k := F_len p k r _ (by rw [List.length_map, padTo_len hB'])
  have lC : (F p k r ((padTo (2 ^ k) (pm A B)).map (· % (p : Int)))).length = 2 ^ k := F_len p k r _ (by rw [List.length_map, padTo_len hC])
  have rC : Red p (F p k r ((padTo (2 ^ k) (pm A B)).map (· % (p : Int)))) := F_red h2 hh (by rw [List.length_map, padTo_len hC]) (red_mods h2 _)
  obtain ⟨w₆, hw₆, rfl⟩ := hB (F p k r ((padTo (2 ^ k) (pm A B)).map (· % (p : Int)))) k r p lC hk h2 h3 hr3 rC
  have hback := conv_back g (padTo (2 ^ k) (pm A B)) (padTo_len hC) (turned p r k) (by
    show ((r ^ (2 ^ k - 1) % p : Nat) : Int) % (p : Int) = _
    refine (cg_nat p _).tr ?_
    rw [show ((r ^ (2 ^ k - 1) : Nat) : Int) = (r : Int) ^ (2 ^ k - 1) by simp])
  have e6 : (G p (twB p r k) k (F p k r ((padTo (2 ^ k) (pm A B)).map (· % (p : Int))))).map (fun x => x * (share p k : Int) % (p : Int)) = (padTo (2 ^ k) (pm A B)).map (· % (p : Int)) := hback
  rw [e6] at hw₆
  generalize F p k r ((padTo (2 ^ k) A).map (· % (p : Int))) = FA at *
  generalize F p k r ((padTo (2 ^ k) B).map (· % (p : Int))) = FB at *
  generalize F p k r ((padTo (2 ^ k) (pm A B)).map (· % (p : Int))) = FC at *
  (repeat (first | (simp (disch := first | lia | omega) only [thenQ_ret, loopQ_next, loopQ_ret, wp_skip, wp_asg, wp_asg2, wp_asg3, wp_aug, wp_ite, wp_ret, wp_app, wp_pop, wp_setI, wp_augI, wp_setB, op_add, op_sub, op_mul_s, op_mul, op_fdiv, op_mod, op_shl, op_shr, op_band, cm_lt, cm_le, cm_gt, cm_ge, cm_eq, cm_ne, ev_int, ev_bool, ev_var, ev_bin, ev_cmp, ev_not, ev_and, ev_or, ev_ife, ev_idx, ev_upto, ev_from1, ev_all, ev_rev, ev_cat, ev_rep, ev_lit0, ev_lit1, ev_lst1, ev_rows2, ev_call1, ev_call2, ev_call3, ev_call4, ev_len, ev_min2, ev_sum, ev_toInt, ev_toList, ev_range1, ev_range3, ev_zip, ev_enum, op1_some', op1_none', vBin_int, vCmp_int, vNot_bool, vIdx_il, vUpto_il, vUpto_arg, vList_il', vCat_il, vRep_il, vMin_int, vLst1_int, vRows2_il, vSum_il, vToInt_int, vZip_il, vEnum_il, vRange_1, vRange_dn, asg_int, asg_il, ret_int, ret_bool, ret_il, ret_fresh, own_var, fr_var, fr_idx, fr_upto, fr_from1, fr_all, fr_rev, fr_cat, fr_rep, fr_lit, fr_lst1, fr_call1, fr_call2, fr_call3, fr_call4, fr_toList, fr_drawn, fr_comp, gt, pt, inEv, Option.map_some, Option.map_none, List.length_cons, List.length_nil, Nat.reduceAdd, Nat.reduceLT, decide_true, decide_false, decide_eq_true_eq, Bool.or_true, Bool.true_or, Bool.false_or, Bool.or_false, Int.toNat_natCast, and_self, true_and, and_true, if_true, if_false, Bool.false_eq_true, Bool.true_and, Bool.and_true, Nat.reduceBEq, bne_self_eq_false, Nat.reduceBNe, mOf, cap, hw₁, hw₂, hw₃, hw₄, hw₅]) | rw [thenQ_next] | rw [wp_seq] | simp only [wp_seq, thenQ_next]))
  have hc := ev_comp_pairs (P := P) (src := .zip (T.v 5) (T.v 6)) (elt := T.mod (T.mul (T.v 0) (T.v 1)) (T.v 2)) (caps := [3]) (s := [some (.il A), some (.il B), some (.int (2 ^ k : Nat)), some (.int p), some (.int r), some (.il FA), some (.il FB)]) (b := none) (b₁ := none) (l := FA.zip FB) (fun q => q.1 * q.2 % (p : Int))
    (by (repeat (first | (simp (disch := first | lia | omega) only [thenQ_ret, loopQ_next, loopQ_ret, wp_skip, wp_asg, wp_asg2, wp_asg3, wp_aug, wp_ite, wp_ret, wp_app, wp_pop, wp_setI, wp_augI, wp_setB, op_add, op_sub, op_mul_s, op_mul, op_fdiv, op_mod, op_shl, op_shr, op_band, cm_lt, cm_le, cm_gt, cm_ge, cm_eq, cm_ne, ev_int, ev_bool, ev_var, ev_bin, ev_cmp, ev_not, ev_and, ev_or, ev_ife, ev_idx, ev_upto, ev_from1, ev_all, ev_rev, ev_cat, ev_rep, ev_lit0, ev_lit1, ev_lst1, ev_rows2, ev_call1, ev_call2, ev_call3, ev_call4, ev_len, ev_min2, ev_sum, ev_toInt, ev_toList, ev_range1, ev_range3, ev_zip, ev_enum, op1_some', op1_none', vBin_int, vCmp_int, vNot_bool, vIdx_il, vUpto_il, vUpto_arg, vList_il', vCat_il, vRep_il, vMin_int, vLst1_int, vRows2_il, vSum_il, vToInt_int, vZip_il, vEnum_il, vRange_1, vRange_dn, asg_int, asg_il, ret_int, ret_bool, ret_il, ret_fresh, own_var, fr_var, fr_idx, fr_upto, fr_from1, fr_all, fr_rev, fr_cat, fr_rep, fr_lit, fr_lst1, fr_call1, fr_call2, fr_call3, fr_call4, fr_toList, fr_drawn, fr_comp, gt, pt, inEv, Option.map_some, Option.map_none, List.length_cons, List.length_nil, Nat.reduceAdd, Nat.reduceLT, decide_true, decide_false, decide_eq_true_eq, Bool.or_true, Bool.true_or, Bool.false_or, Bool.or_false, Int.toNat_natCast, and_self, true_and, and_true, if_true, if_false, Bool.false_eq_true, Bool.true_and, Bool.and_true, Nat.reduceBEq, bne_self_eq_false, Nat.reduceBNe, mOf, cap]) | rw [thenQ_next] | rw [wp_seq] | simp only [wp_seq, thenQ_next]))) (by show (FA.zip FB).length ≤ 100000; rw [List.length_zip]; (first | lia | omega)) rfl
    (fun x hx => by
      show evalE P (T.mod (T.mul (T.v 0) (T.v 1)) (T.v 2)) [some (.int x.1), some (.int x.2), some (.int p)] none = _
      have h1 := rA x.1 (List.of_mem_zip (a := x.1) (b := x.2) hx).1
      have h2' := rB x.2 (List.of_mem_zip (a := x.1) (b := x.2) hx).2
      (repeat (first | (simp (disch := first | lia | omega) only [thenQ_ret, loopQ_next, loopQ_ret, wp_skip, wp_asg, wp_asg2, wp_asg3, wp_aug, wp_ite, wp_ret, wp_app, wp_pop, wp_setI, wp_augI, wp_setB, op_add, op_sub, op_mul_s, op_mul, op_fdiv, op_mod, op_shl, op_shr, op_band, cm_lt, cm_le, cm_gt, cm_ge, cm_eq, cm_ne, ev_int, ev_bool, ev_var, ev_bin, ev_cmp, ev_not, ev_and, ev_or, ev_ife, ev_idx, ev_upto, ev_from1, ev_all, ev_rev, ev_cat, ev_rep, ev_lit0, ev_lit1, ev_lst1, ev_rows2, ev_call1, ev_call2, ev_call3, ev_call4, ev_len, ev_min2, ev_sum, ev_toInt, ev_toList, ev_range1, ev_range3, ev_zip, ev_enum, op1_some', op1_none', vBin_int, vCmp_int, vNot_bool, vIdx_il, vUpto_il, vUpto_arg, vList_il', vCat_il, vRep_il, vMin_int, vLst1_int, vRows2_il, vSum_il, vToInt_int, vZip_il, vEnum_il, vRange_1, vRange_dn, asg_int, asg_il, ret_int, ret_bool, ret_il, ret_fresh, own_var, fr_var, fr_idx, fr_upto, fr_from1, fr_all, fr_rev, fr_cat, fr_rep, fr_lit, fr_lst1, fr_call1, fr_call2, fr_call3, fr_call4, fr_toList, fr_drawn, fr_comp, gt, pt, inEv, Option.map_some, Option.map_none, List.length_cons, List.length_nil, Nat.reduceAdd, Nat.reduceLT, decide_true, decide_false, decide_eq_true_eq, Bool.or_true, Bool.true_or, Bool.false_or, Bool.or_false, Int.toNat_natCast, and_self, true_and, and_true, if_true, if_false, Bool.false_eq_true, Bool.true_and, Bool.and_true, Nat.reduceBEq, bne_self_eq_false, Nat.reduceBNe, mOf, cap]) | rw [thenQ_next] | rw [wp_seq] | simp only [wp_seq, thenQ_next])))
  rw [hpt] at hc
  (repeat (first | (simp (disch := first | lia | omega) only [thenQ_ret, loopQ_next, loopQ_ret, wp_skip, wp_asg, wp_asg2, wp_asg3, wp_aug, wp_ite, wp_ret, wp_app, wp_pop, wp_setI, wp_augI, wp_setB, op_add, op_sub, op_mul_s, op_mul, op_fdiv, op_mod, op_shl, op_shr, op_band, cm_lt, cm_le, cm_gt, cm_ge, cm_eq, cm_ne, ev_int, ev_bool, ev_var, ev_bin, ev_cmp, ev_not, ev_and, ev_or, ev_ife, ev_idx, ev_upto, ev_from1, ev_all, ev_rev, ev_cat, ev_rep, ev_lit0, ev_lit1, ev_lst1, ev_rows2, ev_call1, ev_call2, ev_call3, ev_call4, ev_len, ev_min2, ev_sum, ev_toInt, ev_toList, ev_range1, ev_range3, ev_zip, ev_enum, op1_some', op1_none', vBin_int, vCmp_int, vNot_bool, vIdx_il, vUpto_il, vUpto_arg, vList_il', vCat_il, vRep_il, vMin_int, vLst1_int, vRows2_il, vSum_il, vToInt_int, vZip_il, vEnum_il, vRange_1, vRange_dn, asg_int, asg_il, ret_int, ret_bool, ret_il, ret_fresh, own_var, fr_var, fr_idx, fr_upto, fr_from1, fr_all, fr_rev, fr_cat, fr_rep, fr_lit, fr_lst1, fr_call1, fr_call2, fr_call3, fr_call4, fr_toList, fr_drawn, fr_comp, gt, pt, inEv, Option.map_some, Option.map_none, List.length_cons, List.length_nil, Nat.reduceAdd, Nat.reduceLT, decide_true, decide_false, decide_eq_true_eq, Bool.or_true, Bool.true_or, Bool.false_or, Bool.or_false, Int.toNat_natCast, and_self, true_and, and_true, if_true, if_false, Bool.false_eq_true, Bool.true_and, Bool.and_true, Nat.reduceBEq, bne_self_eq_false, Nat.reduceBNe, mOf, cap, hc, hw₆]) | rw [thenQ_next] | rw [wp_seq] | simp only [wp_seq, thenQ_next]))
  exact ⟨_, rfl, rfl, rfl⟩
end NN

/-! what the defs compute: remainders put together -/
namespace NN
open PySem

noncomputable def prd : List Nat → Nat
  | [] => 1
  | p :: r => p * prd r
theorem prd_snoc (l : List Nat) (p : Nat) : prd (l ++ [p]) = prd l * p := by
  induction l with
  | nil => simp [prd]
  | cons q r ih => rw [List.cons_append, prd, ih, prd, Nat.mul_assoc]
noncomputable def pfx (ps : List Nat) (i : Nat) : Nat := prd (ps.take i)
theorem pfx_succ {ps : List Nat} {i p : Nat} (h : ps[i]? = some p) : pfx ps (i + 1) = pfx ps i * p := by
  unfold pfx
  rw [List.take_add_one, h]
  exact prd_snoc _ _
noncomputable def dgt (ps : List Nat) (N i : Nat) : Nat := N / pfx ps i % ps.getD i 1
noncomputable def dl (ps : List Nat) (N n : Nat) : List Int := (List.range n).map fun i => (dgt ps N i : Int)
theorem dl_len (ps : List Nat) (N n : Nat) : (dl ps N n).length = n := by simp [dl]
theorem dl_succ (ps : List Nat) (N n : Nat) : dl ps N (n + 1) = dl ps N n ++ [(dgt ps N n : Int)] := by simp [dl, List.range_succ]
theorem dl_get {ps : List Nat} {N n i : Nat} (h : i < n) : (dl ps N n)[i]? = some (dgt ps N i : Int) := by simp [dl, h]

/-- each product undone modulo the next prime -/
noncomputable def InvOk (ps : List Nat) : Prop := ∀ (i p : Nat), ps[i]? = some p → ((pfx ps i % p) ^ (p - 2) % p * pfx ps i) % p = 1 % p
noncomputable def Small (ps : List Nat) : Prop := ps.length ≤ 12 ∧ ∀ p ∈ ps, 2 ≤ p ∧ p ≤ 3000

noncomputable def SpMixed (F₀ : List V → Option V) : Prop := ∀ (ps : List Nat) (N : Nat), Small ps → InvOk ps → ∃ v, F₀ [.il (natL (ps.map (N % ·))), .il (natL ps)] = some v ∧ v = .il (dl ps N ps.length)

theorem natL_get {l : List Nat} {i n : Nat} (h : l[i]? = some n) : (natL l).getD i 0 = (n : Int) := by
  unfold natL
  rw [List.getD_eq_getElem?_getD, List.getElem?_map, h]; rfl

theorem digit_int {N U p v u : Nat} (hp : 2 ≤ p) (hv : v % p = N % U % p) (hu : u % p = U % p) (hi : ((U % p) ^ (p - 2) % p * U) % p = 1 % p) :
    ((((N % p : Nat) : Int) - (v : Int)) * ((u ^ (p - 2) % p : Nat) : Int)) % (p : Int) = ((N / U % p : Nat) : Int) := by
  have h1 : Cg p (((N % p : Nat) : Int) - (v : Int)) ((N : Int) - ((N % U : Nat) : Int)) := by
    refine Cg.sub (cg_nat p N) ?_
    show (v : Int) % p = ((N % U : Nat) : Int) % p
    exact_mod_cast hv
  have h2 : ((N : Int) - ((N % U : Nat) : Int)) = (U : Int) * ((N / U : Nat) : Int) := by
    have := Nat.div_add_mod N U
    have h3 : ((U * (N / U) + N % U : Nat) : Int) = (N : Int) := by rw [this]
    rw [Int.natCast_add, Int.natCast_mul] at h3
    (first | lia | omega)
  have h4 : u ^ (p - 2) % p = (U % p) ^ (p - 2) % p := by rw [Nat.pow_mod, hu]
  rw [h4]
  have h5 : Cg p ((((U % p) ^ (p - 2) % p : Nat) : Int) * (U : Int)) 1 := by
    show ((((U % p) ^ (p - 2) % p : Nat) : Int) * (U : Int)) % (p : Int) = (1 : Int) % (p : Int)
    exact_mod_cast hi
  have h6 : Cg p ((((N % p : Nat) : Int) - (v : Int)) * (((U % p) ^ (p - 2) % p : Nat) : Int)) ((N / U : Nat) : Int) := by
    refine (Cg.mul h1 Cg.rf).tr ?_
    rw [h2]
    have e : (U : Int) * ((N / U : Nat) : Int) * (((U % p) ^ (p - 2) % p : Nat) : Int) = ((((U % p) ^ (p - 2) % p : Nat) : Int) * (U : Int)) * ((N / U : Nat) : Int) := by grind
    rw [e]
    refine (Cg.mul h5 Cg.rf).tr ?_
    rw [Int.one_mul]
  exact h6

inductive MixJ (ps : List Nat) (N : Nat) (i : Nat) (p : Nat) (j : Nat) (s : St) : Prop
  | mk (v u : Nat) (z7 z8 : Option V) (h0 : s = ([some (.il (natL (ps.map (N % ·)))), some (.il (natL ps)), some (.il (dl ps N i)), some (.int i), some (.int p), some (.int v), some (.int u), z7, z8], none)) (h1 : v < p) (h2 : u ≤ p) (h3 : v % p = N % pfx ps j % p) (h4 : u % p = pfx ps j % p) : MixJ ps N i p j s
inductive MixI (ps : List Nat) (N : Nat) (i : Nat) (s : St) : Prop
  | mk (z3 z4 z5 z6 z7 z8 : Option V) (h0 : s = ([some (.il (natL (ps.map (N % ·)))), some (.il (natL ps)), some (.il (dl ps N i)), z3, z4, z5, z6, z7, z8], none)) : MixI ps N i s
theorem sp_mixed (P : Fns) (hW : SpPower (P.fn "plain_power")) : SpMixed (run P fuel (mOf 2) T.mixedDigits 9 2) := fun ps N hS hI => by
  refine run_of rfl ?_
  show Wp P fuel (mOf 2) T.mixedDigits ([some (.il (natL (ps.map (N % ·)))), some (.il (natL ps)), none, none, none, none, none, none, none], none) _
  unfold T.mixedDigits
  (repeat (first | (simp (disch := first | lia | omega) only [thenQ_ret, loopQ_next, loopQ_ret, wp_skip, wp_asg, wp_asg2, wp_asg3, wp_aug, wp_ite, wp_ret, wp_app, wp_pop, wp_setI, wp_augI, wp_setB, op_add, op_sub, op_mul_s, op_mul, op_fdiv, op_mod, op_shl, op_shr, op_band, cm_lt, cm_le, cm_gt, cm_ge, cm_eq, cm_ne, ev_int, ev_bool, ev_var, ev_bin, ev_cmp, ev_not, ev_and, ev_or, ev_ife, ev_idx, ev_upto, ev_from1, ev_all, ev_rev, ev_cat, ev_rep, ev_lit0, ev_lit1, ev_lst1, ev_rows2, ev_call1, ev_call2, ev_call3, ev_call4, ev_len, ev_min2, ev_sum, ev_toInt, ev_toList, ev_range1, ev_range3, ev_zip, ev_enum, op1_some', op1_none', vBin_int, vCmp_int, vNot_bool, vIdx_il, vUpto_il, vUpto_arg, vList_il', vCat_il, vRep_il, vMin_int, vLst1_int, vRows2_il, vSum_il, vToInt_int, vZip_il, vEnum_il, vRange_1, vRange_dn, asg_int, asg_il, ret_int, ret_bool, ret_il, ret_fresh, own_var, fr_var, fr_idx, fr_upto, fr_from1, fr_all, fr_rev, fr_cat, fr_rep, fr_lit, fr_lst1, fr_call1, fr_call2, fr_call3, fr_call4, fr_toList, fr_drawn, fr_comp, gt, pt, inEv, Option.map_some, Option.map_none, List.length_cons, List.length_nil, Nat.reduceAdd, Nat.reduceLT, decide_true, decide_false, decide_eq_true_eq, Bool.or_true, Bool.true_or, Bool.false_or, Bool.or_false, Int.toNat_natCast, and_self, true_and, and_true, if_true, if_false, Bool.false_eq_true, Bool.true_and, Bool.and_true, Nat.reduceBEq, bne_self_eq_false, Nat.reduceBNe, mOf, cap]) | rw [thenQ_next] | rw [wp_seq] | simp only [wp_seq, thenQ_next]))
  have hl : (natL ps).length = ps.length := by simp [natL]
  have hl2 : (natL (ps.map (N % ·))).length = ps.length := by simp [natL]
  have h12 := hS.1
  refine wp_forN (l := natL ps) (MixI ps N) rfl rfl (by show (natL ps).length ≤ 100000; (first | lia | omega)) ?_ ⟨none, none, none, none, none, none, rfl⟩ ?_
  · rintro i n σ bx hi ⟨z3, z4, z5, z6, z7, z8, hs⟩
    cases hs
    obtain ⟨hil, p, hps, rfl⟩ : i < ps.length ∧ ∃ p, ps[i]? = some p ∧ n = ((i : Int), (p : Int)) := by
      unfold enumL at hi
      rw [List.getElem?_map] at hi
      have hlt : i < (natL ps).length := by
        cases hr : (List.range (natL ps).length)[i]? with
        | none => rw [hr] at hi; first | exact nn hi | cases hi
        | some j => have := (List.getElem?_eq_some_iff.mp hr).1; simpa using this
      rw [List.getElem?_range hlt] at hi
      rw [hl] at hlt
      refine ⟨hlt, ps[i], List.getElem?_eq_getElem hlt, ?_⟩
      have := natL_get (l := ps) (i := i) (List.getElem?_eq_getElem hlt)
      have hi' := Option.some.inj hi
      rw [← hi']
      show ((i : Int), (natL ps).getD i 0) = _
      rw [this]
    obtain ⟨hp2, hp3⟩ := hS.2 p (List.mem_of_getElem? hps)
    (repeat (first | (simp (disch := first | lia | omega) only [thenQ_ret, loopQ_next, loopQ_ret, wp_skip, wp_asg, wp_asg2, wp_asg3, wp_aug, wp_ite, wp_ret, wp_app, wp_pop, wp_setI, wp_augI, wp_setB, op_add, op_sub, op_mul_s, op_mul, op_fdiv, op_mod, op_shl, op_shr, op_band, cm_lt, cm_le, cm_gt, cm_ge, cm_eq, cm_ne, ev_int, ev_bool, ev_var, ev_bin, ev_cmp, ev_not, ev_and, ev_or, ev_ife, ev_idx, ev_upto, ev_from1, ev_all, ev_rev, ev_cat, ev_rep, ev_lit0, ev_lit1, ev_lst1, ev_rows2, ev_call1, ev_call2, ev_call3, ev_call4, ev_len, ev_min2, ev_sum, ev_toInt, ev_toList, ev_range1, ev_range3, ev_zip, ev_enum, op1_some', op1_none', vBin_int, vCmp_int, vNot_bool, vIdx_il, vUpto_il, vUpto_arg, vList_il', vCat_il, vRep_il, vMin_int, vLst1_int, vRows2_il, vSum_il, vToInt_int, vZip_il, vEnum_il, vRange_1, vRange_dn, asg_int, asg_il, ret_int, ret_bool, ret_il, ret_fresh, own_var, fr_var, fr_idx, fr_upto, fr_from1, fr_all, fr_rev, fr_cat, fr_rep, fr_lit, fr_lst1, fr_call1, fr_call2, fr_call3, fr_call4, fr_toList, fr_drawn, fr_comp, gt, pt, inEv, Option.map_some, Option.map_none, List.length_cons, List.length_nil, Nat.reduceAdd, Nat.reduceLT, decide_true, decide_false, decide_eq_true_eq, Bool.or_true, Bool.true_or, Bool.false_or, Bool.or_false, Int.toNat_natCast, and_self, true_and, and_true, if_true, if_false, Bool.false_eq_true, Bool.true_and, Bool.and_true, Nat.reduceBEq, bne_self_eq_false, Nat.reduceBNe, mOf, cap]) | rw [thenQ_next] | rw [wp_seq] | simp only [wp_seq, thenQ_next]))
    refine wp_forZ (l := dl ps N i) (r := natL ps) (MixJ ps N i p) rfl rfl rfl (by show (dl ps N i).length ≤ 100000; rw [dl_len]; (first | lia | omega)) (by show (natL ps).length ≤ 100000; (first | lia | omega)) ?_ ⟨0, 1, z7, z8, rfl, by (first | lia | omega), by (first | lia | omega), ?_, rfl⟩ ?_
    · rintro j q σ bx hq ⟨v, u, z7, z8, hs, hv, hu, hvN, huN⟩
      cases hs
      rw [List.getElem?_zip_eq_some] at hq
      obtain ⟨hq1, hq2⟩ := hq
      have hj : j < i := by
        have := (List.getElem?_eq_some_iff.mp hq1).1
        rw [dl_len] at this; exact this
      rw [dl_get hj] at hq1
      have hpj : ps[j]? = some ps[j] := List.getElem?_eq_getElem (by (first | lia | omega))
      have hq2' : (natL ps)[j]? = some ((ps[j] : Nat) : Int) := by unfold natL; rw [List.getElem?_map, hpj]; rfl
      rw [hq2'] at hq2
      have e1 := Option.some.inj hq1
      have e2 := Option.some.inj hq2
      obtain ⟨q1, q2⟩ := q
      dsimp only at e1 e2 ⊢
      subst e1; subst e2
      obtain ⟨hs2, hs3⟩ := hS.2 _ (List.mem_of_getElem? hpj)
      have hd : dgt ps N j < ps[j] := by
        unfold dgt
        rw [List.getD_eq_getElem?_getD, hpj]
        exact Nat.mod_lt _ (by show 0 < ps[j]; (first | lia | omega))
      have hpf := pfx_succ hpj
      have hdg : dgt ps N j = N / pfx ps j % ps[j] := by unfold dgt; rw [List.getD_eq_getElem?_getD, hpj]; rfl
      generalize ps[j] = pj at *
      (repeat (first | (simp (disch := first | lia | omega) only [thenQ_ret, loopQ_next, loopQ_ret, wp_skip, wp_asg, wp_asg2, wp_asg3, wp_aug, wp_ite, wp_ret, wp_app, wp_pop, wp_setI, wp_augI, wp_setB, op_add, op_sub, op_mul_s, op_mul, op_fdiv, op_mod, op_shl, op_shr, op_band, cm_lt, cm_le, cm_gt, cm_ge, cm_eq, cm_ne, ev_int, ev_bool, ev_var, ev_bin, ev_cmp, ev_not, ev_and, ev_or, ev_ife, ev_idx, ev_upto, ev_from1, ev_all, ev_rev, ev_cat, ev_rep, ev_lit0, ev_lit1, ev_lst1, ev_rows2, ev_call1, ev_call2, ev_call3, ev_call4, ev_len, ev_min2, ev_sum, ev_toInt, ev_toList, ev_range1, ev_range3, ev_zip, ev_enum, op1_some', op1_none', vBin_int, vCmp_int, vNot_bool, vIdx_il, vUpto_il, vUpto_arg, vList_il', vCat_il, vRep_il, vMin_int, vLst1_int, vRows2_il, vSum_il, vToInt_int, vZip_il, vEnum_il, vRange_1, vRange_dn, asg_int, asg_il, ret_int, ret_bool, ret_il, ret_fresh, own_var, fr_var, fr_idx, fr_upto, fr_from1, fr_all, fr_rev, fr_cat, fr_rep, fr_lit, fr_lst1, fr_call1, fr_call2, fr_call3, fr_call4, fr_toList, fr_drawn, fr_comp, gt, pt, inEv, Option.map_some, Option.map_none, List.length_cons, List.length_nil, Nat.reduceAdd, Nat.reduceLT, decide_true, decide_false, decide_eq_true_eq, Bool.or_true, Bool.true_or, Bool.false_or, Bool.or_false, Int.toNat_natCast, and_self, true_and, and_true, if_true, if_false, Bool.false_eq_true, Bool.true_and, Bool.and_true, Nat.reduceBEq, bne_self_eq_false, Nat.reduceBNe, mOf, cap]) | rw [thenQ_next] | rw [wp_seq] | simp only [wp_seq, thenQ_next]))
      refine ⟨(v + dgt ps N j * u) % p, u * pj % p, _, _, rfl, Nat.mod_lt _ (by (first | lia | omega)), Nat.le_of_lt (Nat.mod_lt _ (by (first | lia | omega))), ?_, ?_⟩
      · rw [hpf, Nat.mod_mul, Nat.mod_mod, ← hdg, Nat.add_mod, hvN, Nat.mul_mod, huN, ← Nat.mul_mod, ← Nat.add_mod, Nat.mul_comm]
      · rw [hpf, Nat.mod_mod, Nat.mul_mod, huN, ← Nat.mul_mod]
    · show 0 % p = N % 1 % p
      rw [Nat.mod_one]
    · rintro s ⟨v, u, z7, z8, rfl, hv, hu, hvN, huN⟩
      have hz : ((dl ps N i).zip (natL ps)).length = i := by rw [List.length_zip, dl_len, hl]; (first | lia | omega)
      rw [hz] at hvN huN
      obtain ⟨w, hw, rfl⟩ := hW u (p - 2) p (by (first | lia | omega)) (by (first | lia | omega)) (by (first | lia | omega)) (by (first | lia | omega))
      have e2 : ((p : Int) - 2) = ((p - 2 : Nat) : Int) := by (first | lia | omega)
      have hg := natL_get (l := ps.map (N % ·)) (i := i) (n := N % p) (by rw [List.getElem?_map, hps]; rfl)
      have hNp : N % p < p := Nat.mod_lt _ (by (first | lia | omega))
      have hup : u ^ (p - 2) % p < p := Nat.mod_lt _ (by (first | lia | omega))
      have hdi := digit_int (N := N) hp2 hvN huN (hI i p hps)
      have hdl := dl_len ps N i
      have hdg : dgt ps N i = N / pfx ps i % p := by unfold dgt; rw [List.getD_eq_getElem?_getD, hps]; rfl
      rw [← hdg] at hdi
      generalize u ^ (p - 2) % p = up at *
      generalize N % p = Np at *
      (repeat (first | (simp (disch := first | lia | omega) only [thenQ_ret, loopQ_next, loopQ_ret, wp_skip, wp_asg, wp_asg2, wp_asg3, wp_aug, wp_ite, wp_ret, wp_app, wp_pop, wp_setI, wp_augI, wp_setB, op_add, op_sub, op_mul_s, op_mul, op_fdiv, op_mod, op_shl, op_shr, op_band, cm_lt, cm_le, cm_gt, cm_ge, cm_eq, cm_ne, ev_int, ev_bool, ev_var, ev_bin, ev_cmp, ev_not, ev_and, ev_or, ev_ife, ev_idx, ev_upto, ev_from1, ev_all, ev_rev, ev_cat, ev_rep, ev_lit0, ev_lit1, ev_lst1, ev_rows2, ev_call1, ev_call2, ev_call3, ev_call4, ev_len, ev_min2, ev_sum, ev_toInt, ev_toList, ev_range1, ev_range3, ev_zip, ev_enum, op1_some', op1_none', vBin_int, vCmp_int, vNot_bool, vIdx_il, vUpto_il, vUpto_arg, vList_il', vCat_il, vRep_il, vMin_int, vLst1_int, vRows2_il, vSum_il, vToInt_int, vZip_il, vEnum_il, vRange_1, vRange_dn, asg_int, asg_il, ret_int, ret_bool, ret_il, ret_fresh, own_var, fr_var, fr_idx, fr_upto, fr_from1, fr_all, fr_rev, fr_cat, fr_rep, fr_lit, fr_lst1, fr_call1, fr_call2, fr_call3, fr_call4, fr_toList, fr_drawn, fr_comp, gt, pt, inEv, Option.map_some, Option.map_none, List.length_cons, List.length_nil, Nat.reduceAdd, Nat.reduceLT, decide_true, decide_false, decide_eq_true_eq, Bool.or_true, Bool.true_or, Bool.false_or, Bool.or_false, Int.toNat_natCast, and_self, true_and, and_true, if_true, if_false, Bool.false_eq_true, Bool.true_and, Bool.and_true, Nat.reduceBEq, bne_self_eq_false, Nat.reduceBNe, mOf, cap, e2, hw, hl2, hg, hdl]) | rw [thenQ_next] | rw [wp_seq] | simp only [wp_seq, thenQ_next]))
      rw [hdi, ← dl_succ]
      exact ⟨by (first | lia | omega), _, _, _, _, _, _, rfl⟩
  · rintro s ⟨z3, z4, z5, z6, z7, z8, rfl⟩
    rw [hl]
    (repeat (first | (simp (disch := first | lia | omega) only [thenQ_ret, loopQ_next, loopQ_ret, wp_skip, wp_asg, wp_asg2, wp_asg3, wp_aug, wp_ite, wp_ret, wp_app, wp_pop, wp_setI, wp_augI, wp_setB, op_add, op_sub, op_mul_s, op_mul, op_fdiv, op_mod, op_shl, op_shr, op_band, cm_lt, cm_le, cm_gt, cm_ge, cm_eq, cm_ne, ev_int, ev_bool, ev_var, ev_bin, ev_cmp, ev_not, ev_and, ev_or, ev_ife, ev_idx, ev_upto, ev_from1, ev_all, ev_rev, ev_cat, ev_rep, ev_lit0, ev_lit1, ev_lst1, ev_rows2, ev_call1, ev_call2, ev_call3, ev_call4, ev_len, ev_min2, ev_sum, ev_toInt, ev_toList, ev_range1, ev_range3, ev_zip, ev_enum, op1_some', op1_none', vBin_int, vCmp_int, vNot_bool, vIdx_il, vUpto_il, vUpto_arg, vList_il', vCat_il, vRep_il, vMin_int, vLst1_int, vRows2_il, vSum_il, vToInt_int, vZip_il, vEnum_il, vRange_1, vRange_dn, asg_int, asg_il, ret_int, ret_bool, ret_il, ret_fresh, own_var, fr_var, fr_idx, fr_upto, fr_from1, fr_all, fr_rev, fr_cat, fr_rep, fr_lit, fr_lst1, fr_call1, fr_call2, fr_call3, fr_call4, fr_toList, fr_drawn, fr_comp, gt, pt, inEv, Option.map_some, Option.map_none, List.length_cons, List.length_nil, Nat.reduceAdd, Nat.reduceLT, decide_true, decide_false, decide_eq_true_eq, Bool.or_true, Bool.true_or, Bool.false_or, Bool.or_false, Int.toNat_natCast, and_self, true_and, and_true, if_true, if_false, Bool.false_eq_true, Bool.true_and, Bool.and_true, Nat.reduceBEq, bne_self_eq_false, Nat.reduceBNe, mOf, cap]) | rw [thenQ_next] | rw [wp_seq] | simp only [wp_seq, thenQ_next]))
    exact ⟨_, rfl, rfl, rfl⟩

theorem nf_len {b : Int} (hb : 2 ≤ b) {l : List Int} {m : Nat} (h : Nf b l) (hv : val b l < 2 ^ m) : l.length ≤ m := by
  have hl := lst_norm l
  rw [h.2] at hl
  rcases hl with rfl | ⟨r, x, rfl, hx⟩
  · exact Nat.zero_le _
  · have h1 := h.1 x (by simp)
    have h2 := val_nonneg (b := b) (by (first | lia | omega)) (l := r) fun y hy => (h.1 y (by simp [hy])).1
    rw [val_snoc] at hv
    have h3 : (2 : Int) ^ r.length ≤ b ^ r.length := by
      have : ∀ n : Nat, (0 : Int) < 2 ^ n ∧ (2 : Int) ^ n ≤ b ^ n := by
        intro n
        induction n with
        | zero => exact ⟨by decide, by rw [Int.pow_zero, Int.pow_zero]; exact Int.le_refl _⟩
        | succ n ih =>
          rw [Int.pow_succ, Int.pow_succ]
          refine ⟨by (first | lia | omega), ?_⟩
          have h5 : (2 : Int) ^ n * 2 ≤ 2 ^ n * b := Int.mul_le_mul_of_nonneg_left hb (by (first | lia | omega))
          have h6 : (2 : Int) ^ n * b ≤ b ^ n * b := Int.mul_le_mul_of_nonneg_right ih.2 (by (first | lia | omega))
          (first | lia | omega)
      exact (this r.length).2
    have h4 : b ^ r.length * 1 ≤ b ^ r.length * x := Int.mul_le_mul_of_nonneg_left (by (first | lia | omega)) (Int.le_of_lt (Int.pow_pos (by (first | lia | omega))))
    rw [List.length_append, List.length_singleton]
    apply Nat.lt_of_not_le
    intro hle
    have h7 : (2 : Int) ^ m ≤ 2 ^ r.length := by
      have := Nat.pow_le_pow_right (n := 2) (by decide) hle
      exact_mod_cast this
    (first | lia | omega)

noncomputable def SpJoined (F₀ : List V → Option V) : Prop := ∀ (ps : List Nat) (N w : Nat), Small ps → InvOk ps → N < prd ps → N ≤ 10000000 → w ≤ 9 → 1 ≤ w →
  ∃ v, F₀ [.il (natL (ps.map (N % ·))), .il (natL ps), .int w] = some v ∧ ∃ l, v = .il l ∧ Nf (2 ^ w) l ∧ val (2 ^ w) l = N ∧ l.length ≤ 30

inductive JoiI (ps : List Nat) (N : Nat) (w : Nat) (t : Nat) (s : St) : Prop
  | mk (g : List Int) (z : Option V) (h0 : s = ([some (.il (natL (ps.map (N % ·)))), some (.il (natL ps)), some (.int w), some (.il (dl ps N ps.length)), some (.il g), z], none)) (h1 : t ≤ ps.length) (h2 : Nf (2 ^ w) g) (h3 : val (2 ^ w) g = ((N / pfx ps (ps.length - t) : Nat) : Int)) : JoiI ps N w t s
theorem sp_joined (P : Fns) (hM : SpMixed (P.fn "mixed_digits")) (hSc : SpScaled (P.fn "scaled")) : SpJoined (run P fuel (mOf 4) T.joined 6 3) := fun ps N w hS hI hN hN7 hw9 hw1 => by
  have hb := pow_bounds hw9 hw1
  refine run_of rfl ?_
  show Wp P fuel (mOf 4) T.joined ([some (.il (natL (ps.map (N % ·)))), some (.il (natL ps)), some (.int w), none, none, none], none) _
  unfold T.joined
  obtain ⟨v, hv, rfl⟩ := hM ps N hS hI
  have hl : (natL ps).length = ps.length := by simp [natL]
  have h12 := hS.1
  have hdl := dl_len ps N ps.length
  (repeat (first | (simp (disch := first | lia | omega) only [thenQ_ret, loopQ_next, loopQ_ret, wp_skip, wp_asg, wp_asg2, wp_asg3, wp_aug, wp_ite, wp_ret, wp_app, wp_pop, wp_setI, wp_augI, wp_setB, op_add, op_sub, op_mul_s, op_mul, op_fdiv, op_mod, op_shl, op_shr, op_band, cm_lt, cm_le, cm_gt, cm_ge, cm_eq, cm_ne, ev_int, ev_bool, ev_var, ev_bin, ev_cmp, ev_not, ev_and, ev_or, ev_ife, ev_idx, ev_upto, ev_from1, ev_all, ev_rev, ev_cat, ev_rep, ev_lit0, ev_lit1, ev_lst1, ev_rows2, ev_call1, ev_call2, ev_call3, ev_call4, ev_len, ev_min2, ev_sum, ev_toInt, ev_toList, ev_range1, ev_range3, ev_zip, ev_enum, op1_some', op1_none', vBin_int, vCmp_int, vNot_bool, vIdx_il, vUpto_il, vUpto_arg, vList_il', vCat_il, vRep_il, vMin_int, vLst1_int, vRows2_il, vSum_il, vToInt_int, vZip_il, vEnum_il, vRange_1, vRange_dn, asg_int, asg_il, ret_int, ret_bool, ret_il, ret_fresh, own_var, fr_var, fr_idx, fr_upto, fr_from1, fr_all, fr_rev, fr_cat, fr_rep, fr_lit, fr_lst1, fr_call1, fr_call2, fr_call3, fr_call4, fr_toList, fr_drawn, fr_comp, gt, pt, inEv, Option.map_some, Option.map_none, List.length_cons, List.length_nil, Nat.reduceAdd, Nat.reduceLT, decide_true, decide_false, decide_eq_true_eq, Bool.or_true, Bool.true_or, Bool.false_or, Bool.or_false, Int.toNat_natCast, and_self, true_and, and_true, if_true, if_false, Bool.false_eq_true, Bool.true_and, Bool.and_true, Nat.reduceBEq, bne_self_eq_false, Nat.reduceBNe, mOf, cap, hv]) | rw [thenQ_next] | rw [wp_seq] | simp only [wp_seq, thenQ_next]))
  have fin : ∀ l : List Int, Nf (2 ^ w) l → val (2 ^ w) l ≤ N → l.length ≤ 24 := fun l h1 h2 => nf_len hb.1 h1 (by
    have : (2 : Int) ^ 24 = 16777216 := by decide
    (first | lia | omega))
  refine wp_for1 (l := rangeL ((ps.length : Int) - 1) (-1) ps.length) (b₁ := none) (JoiI ps N w)
    (.inr (by
      have e : ((ps.length : Int) - 1 + 1).toNat = ps.length := by (first | lia | omega)
      (repeat (first | (simp (disch := first | lia | omega) only [thenQ_ret, loopQ_next, loopQ_ret, wp_skip, wp_asg, wp_asg2, wp_asg3, wp_aug, wp_ite, wp_ret, wp_app, wp_pop, wp_setI, wp_augI, wp_setB, op_add, op_sub, op_mul_s, op_mul, op_fdiv, op_mod, op_shl, op_shr, op_band, cm_lt, cm_le, cm_gt, cm_ge, cm_eq, cm_ne, ev_int, ev_bool, ev_var, ev_bin, ev_cmp, ev_not, ev_and, ev_or, ev_ife, ev_idx, ev_upto, ev_from1, ev_all, ev_rev, ev_cat, ev_rep, ev_lit0, ev_lit1, ev_lst1, ev_rows2, ev_call1, ev_call2, ev_call3, ev_call4, ev_len, ev_min2, ev_sum, ev_toInt, ev_toList, ev_range1, ev_range3, ev_zip, ev_enum, op1_some', op1_none', vBin_int, vCmp_int, vNot_bool, vIdx_il, vUpto_il, vUpto_arg, vList_il', vCat_il, vRep_il, vMin_int, vLst1_int, vRows2_il, vSum_il, vToInt_int, vZip_il, vEnum_il, vRange_1, vRange_dn, asg_int, asg_il, ret_int, ret_bool, ret_il, ret_fresh, own_var, fr_var, fr_idx, fr_upto, fr_from1, fr_all, fr_rev, fr_cat, fr_rep, fr_lit, fr_lst1, fr_call1, fr_call2, fr_call3, fr_call4, fr_toList, fr_drawn, fr_comp, gt, pt, inEv, Option.map_some, Option.map_none, List.length_cons, List.length_nil, Nat.reduceAdd, Nat.reduceLT, decide_true, decide_false, decide_eq_true_eq, Bool.or_true, Bool.true_or, Bool.false_or, Bool.or_false, Int.toNat_natCast, and_self, true_and, and_true, if_true, if_false, Bool.false_eq_true, Bool.true_and, Bool.and_true, Nat.reduceBEq, bne_self_eq_false, Nat.reduceBNe, mOf, cap, hl, e]) | rw [thenQ_next] | rw [wp_seq] | simp only [wp_seq, thenQ_next])))) rfl rfl ?_ ⟨[], none, rfl, Nat.zero_le _, ⟨dg_nil, rfl⟩, ?_⟩ ?_
  · rintro t n σ bx hi ⟨g, z, hs, ht, hg, hgv⟩
    cases hs
    obtain ⟨htl, rfl⟩ := rangeL_idx hi
    obtain ⟨a, ha⟩ : ∃ a, a = ps.length - (t + 1) := ⟨_, rfl⟩
    have e0 : (ps.length : Int) - 1 + (t : Int) * -1 = (a : Int) := by (first | lia | omega)
    rw [e0]
    have hal : a < ps.length := by (first | lia | omega)
    have hpa : ps[a]? = some ps[a] := List.getElem?_eq_getElem hal
    obtain ⟨hs2, hs3⟩ := hS.2 _ (List.mem_of_getElem? hpa)
    have hga := natL_get hpa
    have hda : (dl ps N ps.length).getD a 0 = (dgt ps N a : Int) := by rw [List.getD_eq_getElem?_getD, dl_get hal]; rfl
    have hdg : dgt ps N a = N / pfx ps a % ps[a] := by unfold dgt; rw [List.getD_eq_getElem?_getD, hpa]; rfl
    have hd : dgt ps N a < ps[a] := by rw [hdg]; exact Nat.mod_lt _ (by (first | lia | omega))
    have hpf := pfx_succ hpa
    have et : ps.length - t = a + 1 := by (first | lia | omega)
    rw [et] at hgv
    have hle : val (2 ^ w) g ≤ N := by
      rw [hgv]
      have := Nat.div_le_self N (pfx ps (a + 1))
      (first | lia | omega)
    have hlen := fin g hg hle
    generalize ps[a] = pa at *
    obtain ⟨v, hv2, l, rfl, hnf, hval, _⟩ := hSc g pa (dgt ps N a) w hw9 hw1 (by (first | lia | omega)) hg.1 ⟨by (first | lia | omega), by (first | lia | omega)⟩ ⟨by (first | lia | omega), by (first | lia | omega)⟩
    (repeat (first | (simp (disch := first | lia | omega) only [thenQ_ret, loopQ_next, loopQ_ret, wp_skip, wp_asg, wp_asg2, wp_asg3, wp_aug, wp_ite, wp_ret, wp_app, wp_pop, wp_setI, wp_augI, wp_setB, op_add, op_sub, op_mul_s, op_mul, op_fdiv, op_mod, op_shl, op_shr, op_band, cm_lt, cm_le, cm_gt, cm_ge, cm_eq, cm_ne, ev_int, ev_bool, ev_var, ev_bin, ev_cmp, ev_not, ev_and, ev_or, ev_ife, ev_idx, ev_upto, ev_from1, ev_all, ev_rev, ev_cat, ev_rep, ev_lit0, ev_lit1, ev_lst1, ev_rows2, ev_call1, ev_call2, ev_call3, ev_call4, ev_len, ev_min2, ev_sum, ev_toInt, ev_toList, ev_range1, ev_range3, ev_zip, ev_enum, op1_some', op1_none', vBin_int, vCmp_int, vNot_bool, vIdx_il, vUpto_il, vUpto_arg, vList_il', vCat_il, vRep_il, vMin_int, vLst1_int, vRows2_il, vSum_il, vToInt_int, vZip_il, vEnum_il, vRange_1, vRange_dn, asg_int, asg_il, ret_int, ret_bool, ret_il, ret_fresh, own_var, fr_var, fr_idx, fr_upto, fr_from1, fr_all, fr_rev, fr_cat, fr_rep, fr_lit, fr_lst1, fr_call1, fr_call2, fr_call3, fr_call4, fr_toList, fr_drawn, fr_comp, gt, pt, inEv, Option.map_some, Option.map_none, List.length_cons, List.length_nil, Nat.reduceAdd, Nat.reduceLT, decide_true, decide_false, decide_eq_true_eq, Bool.or_true, Bool.true_or, Bool.false_or, Bool.or_false, Int.toNat_natCast, and_self, true_and, and_true, if_true, if_false, Bool.false_eq_true, Bool.true_and, Bool.and_true, Nat.reduceBEq, bne_self_eq_false, Nat.reduceBNe, mOf, cap, hl, hdl, hga, hda, hv2]) | rw [thenQ_next] | rw [wp_seq] | simp only [wp_seq, thenQ_next]))
    refine ⟨l, _, rfl, by (first | lia | omega), hnf, ?_⟩
    rw [hval, hgv, hpf, ← Nat.div_div_eq_div_mul, hdg, ← ha]
    have := Nat.div_add_mod (N / pfx ps a) pa
    have h3 : ((pa * (N / pfx ps a / pa) + N / pfx ps a % pa : Nat) : Int) = ((N / pfx ps a : Nat) : Int) := by rw [this]
    rw [Int.natCast_add, Int.natCast_mul] at h3
    rw [Int.mul_comm]; exact h3
  · rw [Nat.sub_zero]
    unfold pfx
    rw [List.take_length, Nat.div_eq_of_lt hN]; rfl
  · rintro s ⟨g, z, rfl, ht, hg, hgv⟩
    rw [rangeL_len, Nat.sub_self] at hgv
    have e1 : pfx ps 0 = 1 := rfl
    rw [e1, Nat.div_one] at hgv
    have := fin g hg (by (first | lia | omega))
    (repeat (first | (simp (disch := first | lia | omega) only [thenQ_ret, loopQ_next, loopQ_ret, wp_skip, wp_asg, wp_asg2, wp_asg3, wp_aug, wp_ite, wp_ret, wp_app, wp_pop, wp_setI, wp_augI, wp_setB, op_add, op_sub, op_mul_s, op_mul, op_fdiv, op_mod, op_shl, op_shr, op_band, cm_lt, cm_le, cm_gt, cm_ge, cm_eq, cm_ne, ev_int, ev_bool, ev_var, ev_bin, ev_cmp, ev_not, ev_and, ev_or, ev_ife, ev_idx, ev_upto, ev_from1, ev_all, ev_rev, ev_cat, ev_rep, ev_lit0, ev_lit1, ev_lst1, ev_rows2, ev_call1, ev_call2, ev_call3, ev_call4, ev_len, ev_min2, ev_sum, ev_toInt, ev_toList, ev_range1, ev_range3, ev_zip, ev_enum, op1_some', op1_none', vBin_int, vCmp_int, vNot_bool, vIdx_il, vUpto_il, vUpto_arg, vList_il', vCat_il, vRep_il, vMin_int, vLst1_int, vRows2_il, vSum_il, vToInt_int, vZip_il, vEnum_il, vRange_1, vRange_dn, asg_int, asg_il, ret_int, ret_bool, ret_il, ret_fresh, own_var, fr_var, fr_idx, fr_upto, fr_from1, fr_all, fr_rev, fr_cat, fr_rep, fr_lit, fr_lst1, fr_call1, fr_call2, fr_call3, fr_call4, fr_toList, fr_drawn, fr_comp, gt, pt, inEv, Option.map_some, Option.map_none, List.length_cons, List.length_nil, Nat.reduceAdd, Nat.reduceLT, decide_true, decide_false, decide_eq_true_eq, Bool.or_true, Bool.true_or, Bool.false_or, Bool.or_false, Int.toNat_natCast, and_self, true_and, and_true, if_true, if_false, Bool.false_eq_true, Bool.true_and, Bool.and_true, Nat.reduceBEq, bne_self_eq_false, Nat.reduceBNe, mOf, cap]) | rw [thenQ_next] | rw [wp_seq] | simp only [wp_seq, thenQ_next]))
    exact ⟨_, rfl, rfl, g, rfl, hg, hgv, by (first | lia | omega)⟩
end NN

/-! the primes: a check by the kernel -/
namespace NN
open PySem

noncomputable def okPrime (k p U bound : Nat) : Bool :=
  Nat.ble 2 p && Nat.ble p 3000 && Nat.blt bound p && Nat.beq ((p - 1) % 2 ^ k) 0 && Nat.beq ((U % p) ^ (p - 2) % p * U % p) (1 % p) && Nat.beq (2 ^ k * ((2 ^ k) ^ (p - 2) % p) % p) (1 % p) &&
  (match rootOf (2 ^ k) p with
  | some r => Nat.ble r 3000 && (match k with | 0 => true | j + 1 => Nat.beq (r ^ (2 ^ j) % p) (p - 1))
  | none => false)

noncomputable def chk : Nat → Nat → Nat → Nat → Bool
  | 0, _, _, _ => false
  | n + 1, k, bound, q => if q ≤ 2350089 then (match nx 100 (2 ^ k) bound (bound - bound % 2 ^ k + 1) with | none => false | some p => okPrime k p q bound && chk n k p (q * p)) else true

noncomputable def chkAll : Bool := (List.range 6).all fun k => (List.range 201).all fun b => chk 12 k b 1
theorem chkAll_ok : chkAll = true := by decide +kernel

theorem chk_at {k b : Nat} (hk : k ≤ 5) (hb : b ≤ 200) : chk 12 k b 1 = true := by
  have h := chkAll_ok
  unfold chkAll at h
  rw [List.all_eq_true] at h
  have h1 := h k (List.mem_range.mpr (by (first | lia | omega)))
  rw [List.all_eq_true] at h1
  exact h1 b (List.mem_range.mpr (by (first | lia | omega)))

inductive Ch (k g : Nat) : Nat → Nat → List Nat → Prop
  | done {bound q : Nat} : g < q → Ch k g bound q []
  | more {bound q p : Nat} {l : List Nat} : q ≤ g → okPrime k p q bound = true → Ch k g p (q * p) l → Ch k g bound q (p :: l)

theorem okPrime_parts {k p U bound : Nat} (h : okPrime k p U bound = true) : 2 ≤ p ∧ p ≤ 3000 ∧ bound < p ∧ (p - 1) % 2 ^ k = 0 ∧ ((U % p) ^ (p - 2) % p * U) % p = 1 % p ∧ ∃ r, rootOf (2 ^ k) p = some r ∧ Good k p r := by
  unfold okPrime at h
  simp only [Bool.and_eq_true] at h
  obtain ⟨⟨⟨⟨⟨⟨h1, h2⟩, h3⟩, h4⟩, h5⟩, h6⟩, h7⟩ := h
  have h1 := Nat.le_of_ble_eq_true h1
  have h2 := Nat.le_of_ble_eq_true h2
  have h3 : bound < p := Nat.le_of_ble_eq_true h3
  have h4 := Nat.eq_of_beq_eq_true h4
  have h5 := Nat.eq_of_beq_eq_true h5
  have h6 := Nat.eq_of_beq_eq_true h6
  refine ⟨h1, h2, h3, h4, h5, ?_⟩
  split at h7
  · rename_i r hr
    rw [Bool.and_eq_true] at h7
    refine ⟨r, hr, h1, h2, Nat.le_of_ble_eq_true h7.1, ?_, ?_⟩
    · cases k with
      | zero => trivial
      | succ j =>
        have h8 := Nat.eq_of_beq_eq_true h7.2
        show ((r : Int) ^ (2 ^ j)) % (p : Int) = (-1) % (p : Int)
        have e1 : ((r : Int) ^ (2 ^ j)) % (p : Int) = ((r ^ (2 ^ j) % p : Nat) : Int) := by simp
        have e2 : (-1 : Int) % (p : Int) = ((p - 1 : Nat) : Int) := by
          have : (-1 : Int) = ((p - 1 : Nat) : Int) + (p : Int) * (-1) := by (first | lia | omega)
          rw [this, Int.add_mul_emod_self_left, Int.emod_eq_of_lt (by (first | lia | omega)) (by (first | lia | omega))]
        rw [e1, e2, h8]
    · show ((2 : Int) ^ k * (((2 ^ k) ^ (p - 2) % p : Nat) : Int)) % (p : Int) = 1 % (p : Int)
      have e : ((2 : Int) ^ k * (((2 ^ k) ^ (p - 2) % p : Nat) : Int)) % (p : Int) = ((2 ^ k * ((2 ^ k) ^ (p - 2) % p) % p : Nat) : Int) := by
        rw [show (2 : Int) ^ k = ((2 ^ k : Nat) : Int) by simp]
        rfl
      rw [e, h6]; rfl
  · first | exact nn h7 | cases h7

theorem ch_of_chk {k g : Nat} (hg : g ≤ 2350089) : ∀ (n bound q : Nat), chk n k bound q = true → ∃ l, chain n (2 ^ k) bound q g = some l ∧ Ch k g bound q l ∧ l.length ≤ n
  | 0, _, _, h => by cases h
  | n + 1, bound, q, h => by
    simp only [chk] at h
    simp only [chain]
    by_cases hq : q ≤ g
    · rw [if_pos (by (first | lia | omega))] at h
      rw [if_pos hq]
      cases hn : nx 100 (2 ^ k) bound (bound - bound % 2 ^ k + 1) with
      | none => rw [hn] at h; first | exact nn h | cases h
      | some p =>
        rw [hn] at h
        dsimp only at h ⊢
        rw [Bool.and_eq_true] at h
        have hp := okPrime_parts h.1
        obtain ⟨l, h1, h2, h3⟩ := ch_of_chk hg n p (q * p) h.2
        rw [if_neg (by (first | lia | omega)), h1]
        exact ⟨p :: l, rfl, .more hq h.1 h2, by simpa using h3⟩
    · rw [if_neg hq]
      exact ⟨[], rfl, .done (by (first | lia | omega)), by simp⟩

theorem ch_get {k g : Nat} {bound q : Nat} {l : List Nat} (h : Ch k g bound q l) : ∀ (i p : Nat), l[i]? = some p → ∃ b, okPrime k p (q * pfx l i) b = true ∧ bound ≤ b ∧ q * pfx l i ≤ g ∧ (i = 0 → b = bound) ∧ ∀ j p', i = j + 1 → l[j]? = some p' → b = p' := by
  induction h with
  | done => intro i p hp; first | exact nn hp | cases hp
  | @more bound q p₀ l hq ho hc ih =>
    intro i p hp
    cases i with
    | zero =>
      cases hp
      refine ⟨bound, ?_, Nat.le_refl _, ?_, fun _ => rfl, fun j p' h => by cases h⟩
      · show okPrime k p₀ (q * 1) bound = true
        rw [Nat.mul_one]; exact ho
      · show q * 1 ≤ g
        (first | lia | omega)
    | succ i =>
      obtain ⟨b, h1, h2, h3, h4, h5⟩ := ih i p hp
      have e : q * pfx (p₀ :: l) (i + 1) = q * p₀ * pfx l i := by
        show q * (p₀ * pfx l i) = _
        rw [Nat.mul_assoc]
      rw [e]
      have hb := (okPrime_parts ho).2.2.1
      refine ⟨b, h1, by (first | lia | omega), h3, (fun h => by cases h), fun j p' hj hp' => ?_⟩
      cases i with
      | zero =>
        have : j = 0 := by (first | lia | omega)
        subst this
        rw [h4 rfl]
        exact Option.some.inj hp'
      | succ i =>
        have : j = i + 1 := by (first | lia | omega)
        subst this
        exact h5 i p' rfl hp'

theorem ch_small {k g bound : Nat} {l : List Nat} (h : Ch k g bound 1 l) (hl : l.length ≤ 12) : Small l := by
  refine ⟨hl, fun p hp => ?_⟩
  obtain ⟨i, hi, e⟩ := List.getElem_of_mem hp
  obtain ⟨b, h1, _⟩ := ch_get h i p (by rw [List.getElem?_eq_getElem hi, e])
  have := okPrime_parts h1
  exact ⟨this.1, this.2.1⟩
theorem ch_inv {k g bound : Nat} {l : List Nat} (h : Ch k g bound 1 l) : InvOk l := fun i p hp => by
  obtain ⟨b, h1, _⟩ := ch_get h i p hp
  have := (okPrime_parts h1).2.2.2.2.1
  rw [Nat.one_mul] at this
  exact this
theorem ch_good {k g bound : Nat} {l : List Nat} (h : Ch k g bound 1 l) {p : Nat} (hp : p ∈ l) : (p - 1) % 2 ^ k = 0 ∧ ∃ r, rootOf (2 ^ k) p = some r ∧ Good k p r := by
  obtain ⟨i, hi, e⟩ := List.getElem_of_mem hp
  obtain ⟨b, h1, _⟩ := ch_get h i p (by rw [List.getElem?_eq_getElem hi, e])
  have := okPrime_parts h1
  exact ⟨this.2.2.2.1, this.2.2.2.2.2⟩

theorem ch_over {k g : Nat} {bound q : Nat} {l : List Nat} (h : Ch k g bound q l) : g < q * prd l := by
  induction h with
  | done h => show g < _ * 1; (first | lia | omega)
  | more _ _ _ ih => show g < _ * (_ * prd _); rw [← Nat.mul_assoc]; exact ih
end NN

/-! plain maths: how big the coefficients are; columns -/
namespace NN

theorem addp_getD : ∀ (l m : List Int) (i : Nat), (addp l m).getD i 0 = l.getD i 0 + m.getD i 0
  | [], l, i => by show l.getD i 0 = 0 + l.getD i 0; (first | lia | omega)
  | a :: r, [], i => by show (a :: r).getD i 0 = (a :: r).getD i 0 + 0; (first | lia | omega)
  | a :: r, b :: t, 0 => rfl
  | a :: r, b :: t, i + 1 => addp_getD r t i
theorem map_getD (a : Int) : ∀ (l : List Int) (i : Nat), (l.map (a * ·)).getD i 0 = a * l.getD i 0
  | [], i => by show (0 : Int) = a * 0; (first | lia | omega)
  | x :: r, 0 => rfl
  | x :: r, i + 1 => map_getD a r i
theorem take_sum (l : List Int) : ∀ n : Nat, (l.take (n + 1)).sum = (l.take n).sum + l.getD n 0 := by
  induction l with
  | nil => intro n; simp
  | cons x r ih =>
    intro n
    cases n with
    | zero => simp
    | succ n => rw [List.take_succ_cons, List.sum_cons, ih n, List.take_succ_cons, List.sum_cons]; show _ = x + _ + r.getD n 0; (first | lia | omega)
theorem getD_bd {m : Int} (hm : 0 ≤ m) : ∀ {l : List Int}, (∀ x ∈ l, 0 ≤ x ∧ x ≤ m) → ∀ i : Nat, 0 ≤ l.getD i 0 ∧ l.getD i 0 ≤ m
  | [], _, i => ⟨Int.le_refl 0, hm⟩
  | x :: r, h, 0 => h x (.head _)
  | x :: r, h, i + 1 => getD_bd hm (fun y hy => h y (.tail _ hy)) i
theorem sum_bd {m : Int} (hm : 0 ≤ m) : ∀ {l : List Int}, (∀ x ∈ l, 0 ≤ x ∧ x ≤ m) → 0 ≤ l.sum ∧ l.sum ≤ m * l.length
  | [], _ => by simp
  | x :: r, h => by
    have h1 := h x (.head _)
    have h2 := sum_bd hm (l := r) fun y hy => h y (.tail _ hy)
    rw [List.sum_cons, List.length_cons, Int.natCast_add, Int.mul_add]
    show 0 ≤ x + r.sum ∧ x + r.sum ≤ m * r.length + m * 1
    (first | lia | omega)

theorem pm_nonneg {m : Int} (hm : 0 ≤ m) : ∀ {A B : List Int}, (∀ x ∈ A, 0 ≤ x ∧ x ≤ m) → (∀ x ∈ B, 0 ≤ x ∧ x ≤ m) → ∀ i : Nat, 0 ≤ (pm A B).getD i 0 ∧ (pm A B).getD i 0 ≤ m * m * A.length ∧ (pm A B).getD i 0 ≤ m * (B.take (i + 1)).sum
  | [], B, _, hB, i => by
    have := sum_bd hm (l := B.take (i + 1)) fun x hx => hB x (List.mem_of_mem_take hx)
    refine ⟨Int.le_refl 0, ?_, Int.mul_nonneg hm this.1⟩
    show (0 : Int) ≤ m * m * 0
    (first | lia | omega)
  | a :: A, B, hA, hB, i => by
    have ha := hA a (.head _)
    have hb := getD_bd hm hB i
    have hab : 0 ≤ a * B.getD i 0 := Int.mul_nonneg ha.1 hb.1
    have h1 : a * B.getD i 0 ≤ m * B.getD i 0 := Int.mul_le_mul_of_nonneg_right ha.2 hb.1
    have h2 : m * B.getD i 0 ≤ m * m := Int.mul_le_mul_of_nonneg_left hb.2 hm
    have hmm : 0 ≤ m * m := Int.mul_nonneg hm hm
    have hle : m * m * ((A.length + 1 : Nat) : Int) = m * m * A.length + m * m := by rw [Int.natCast_add, Int.mul_add]; (first | lia | omega)
    show 0 ≤ (addp (B.map (a * ·)) (0 :: pm A B)).getD i 0 ∧ (addp (B.map (a * ·)) (0 :: pm A B)).getD i 0 ≤ m * m * ((A.length + 1 : Nat) : Int) ∧ _
    rw [show (pm (a :: A) B) = addp (B.map (a * ·)) (0 :: pm A B) from rfl, addp_getD, map_getD, hle, take_sum, Int.mul_add]
    cases i with
    | zero =>
      show 0 ≤ a * B.getD 0 0 + 0 ∧ a * B.getD 0 0 + 0 ≤ _ ∧ a * B.getD 0 0 + 0 ≤ m * (B.take 0).sum + _
      have : 0 ≤ m * m * (A.length : Int) := Int.mul_nonneg hmm (by (first | lia | omega))
      have e : (B.take 0).sum = 0 := by simp
      rw [e]
      (first | lia | omega)
    | succ i =>
      have ih := pm_nonneg hm (A := A) (fun x hx => hA x (.tail _ hx)) hB i
      show 0 ≤ a * B.getD (i + 1) 0 + (pm A B).getD i 0 ∧ a * B.getD (i + 1) 0 + (pm A B).getD i 0 ≤ _ ∧ a * B.getD (i + 1) 0 + (pm A B).getD i 0 ≤ _
      (first | lia | omega)

theorem pm_bd {m : Int} (hm : 0 ≤ m) {A B : List Int} (hA : ∀ x ∈ A, 0 ≤ x ∧ x ≤ m) (hB : ∀ x ∈ B, 0 ≤ x ∧ x ≤ m) (i : Nat) : 0 ≤ (pm A B).getD i 0 ∧ (pm A B).getD i 0 ≤ ((min A.length B.length : Nat) : Int) * m * m := by
  obtain ⟨h0, h1, h2⟩ := pm_nonneg hm hA hB i
  refine ⟨h0, ?_⟩
  have hs := sum_bd hm (l := B.take (i + 1)) fun x hx => hB x (List.mem_of_mem_take hx)
  have hl : ((B.take (i + 1)).length : Int) ≤ B.length := by rw [List.length_take]; (first | lia | omega)
  have h3 : m * (B.take (i + 1)).sum ≤ m * (m * B.length) := by
    refine Int.mul_le_mul_of_nonneg_left ?_ hm
    have := Int.mul_le_mul_of_nonneg_left hl hm
    (first | lia | omega)
  have e : ∀ n : Int, n * m * m = m * m * n := fun n => by grind
  rw [e]
  by_cases h : A.length ≤ B.length
  · rw [Nat.min_eq_left h]; exact h1
  · rw [Nat.min_eq_right (by (first | lia | omega))]
    have : m * (m * B.length) = m * m * (B.length : Int) := by grind
    (first | lia | omega)

theorem val_set (b : Int) : ∀ (l : List Int) (i : Nat) (x : Int), i < l.length → val b (l.set i x) = val b l + b ^ i * (x - l.getD i 0)
  | y :: r, 0, x, _ => by
    show x + b * val b r = y + b * val b r + b ^ 0 * (x - y)
    rw [Int.pow_zero]; (first | lia | omega)
  | y :: r, i + 1, x, h => by
    have ih := val_set b r i x (by simpa using h)
    show y + b * val b (r.set i x) = y + b * val b r + b ^ (i + 1) * (x - r.getD i 0)
    rw [ih, Int.pow_succ]; grind
theorem padTo_getD (n : Nat) (l : List Int) (i : Nat) : (padTo n l).getD i 0 = l.getD i 0 := by
  unfold padTo
  by_cases h : i < l.length
  · rw [List.getD_eq_getElem?_getD, List.getElem?_append_left h, ← List.getD_eq_getElem?_getD]
  · have e : l.getD i 0 = 0 := by rw [List.getD_eq_getElem?_getD, List.getElem?_eq_none (by (first | lia | omega))]; rfl
    rw [e, List.getD_eq_getElem?_getD, List.getElem?_append_right (by (first | lia | omega)), List.getElem?_replicate]
    split <;> rfl
end NN

/-! what the defs compute: mul_primes -/
namespace NN
open PySem

noncomputable def SpMul (F₀ : List V → Option V) : Prop := ∀ (A B : List Int) (w bound : Nat), w ≤ 9 → 1 ≤ w → bound ≤ 200 → A.length ≤ 9 → B.length ≤ 9 → Dg (2 ^ w) A → Dg (2 ^ w) B →
  ∃ v, F₀ [.il A, .il B, .int w, .int bound] = some v ∧ ∃ l, v = .il l ∧ Nf (2 ^ w) l ∧ val (2 ^ w) l = val (2 ^ w) A * val (2 ^ w) B

theorem min_cast (a b : Nat) : min (a : Int) (b : Int) = ((min a b : Nat) : Int) := by (first | lia | omega)

section
variable {P : Fns} {N : Nat} {Q : St → Fl → Prop}

/-- columns[at + spot] += limb, for each limb -/
inductive ColI (z0 : Option V) (z1 : Option V) (z2 : Option V) (z3 : Option V) (z4 : Option V) (z5 : Option V) (z6 : Option V) (cols : List Int) (limbs : List Int) (a : Nat) (M : Nat) (b : Int) (j : Nat) (s : St) : Prop
  | mk (g : List Int) (z10 z11 : Option V) (h0 : s = ([z0, z1, z2, z3, z4, z5, z6, some (.il g), some (.int a), some (.il limbs), z10, z11], none)) (h1 : g.length = cols.length) (h2 : (∀ x ∈ g, 0 ≤ x ∧ x ≤ ((M + 512 * j : Nat) : Int))) (h3 : val b g = val b cols + b ^ a * val b (limbs.take j)) : ColI z0 z1 z2 z3 z4 z5 z6 cols limbs a M b j s
theorem wp_columns {z0 z1 z2 z3 z4 z5 z6 z10 z11 : Option V} {cols limbs : List Int} {a M : Nat} {b : Int} (hlen : a + limbs.length ≤ cols.length) (hcl : cols.length ≤ 100) (hb : ∀ x ∈ limbs, 0 ≤ x ∧ x ≤ 512) (hc : ∀ x ∈ cols, 0 ≤ x ∧ x ≤ (M : Int)) 
    (hQ : ∀ cols' z10 z11, cols'.length = cols.length → (∀ x ∈ cols', 0 ≤ x ∧ x ≤ ((M + 512 * limbs.length : Nat) : Int)) → val b cols' = val b cols + b ^ a * val b limbs → Q ([z0, z1, z2, z3, z4, z5, z6, some (.il cols'), some (.int a), some (.il limbs), z10, z11], none) .next) :
    Wp P N (mOf 7) (.forN 10 11 9 (.augI 7 (T.add (T.v 8) (T.v 10)) .add (T.v 11))) ([z0, z1, z2, z3, z4, z5, z6, some (.il cols), some (.int a), some (.il limbs), z10, z11], none) Q := by
  refine wp_forN (l := limbs) (ColI z0 z1 z2 z3 z4 z5 z6 cols limbs a M b)
    rfl rfl (by show limbs.length ≤ 100000; (first | lia | omega)) ?_ ⟨cols, z10, z11, rfl, rfl, by simpa using hc, by simp [val]⟩ ?_
  · rintro j n σ bx hi ⟨g, z10, z11, hs, hgl, hg, hv⟩
    cases hs
    obtain ⟨hj, rfl⟩ : j < limbs.length ∧ n = ((j : Int), limbs.getD j 0) := by
      unfold enumL at hi
      rw [List.getElem?_map] at hi
      have hlt : j < limbs.length := by
        cases hr : (List.range limbs.length)[j]? with
        | none => rw [hr] at hi; first | exact nn hi | cases hi
        | some i => have := (List.getElem?_eq_some_iff.mp hr).1; simpa using this
      rw [List.getElem?_range hlt] at hi
      exact ⟨hlt, (Option.some.inj hi).symm⟩
    have hx := getD_bd (m := 512) (by decide) hb j
    have hgx := getD_bd (m := ((M + 512 * j : Nat) : Int)) (by (first | lia | omega)) hg (a + j)
    have e1 : ((a : Int) + (j : Int)).toNat = a + j := by (first | lia | omega)
    (repeat (first | (simp (disch := first | lia | omega) only [thenQ_ret, loopQ_next, loopQ_ret, wp_skip, wp_asg, wp_asg2, wp_asg3, wp_aug, wp_ite, wp_ret, wp_app, wp_pop, wp_setI, wp_augI, wp_setB, op_add, op_sub, op_mul_s, op_mul, op_fdiv, op_mod, op_shl, op_shr, op_band, cm_lt, cm_le, cm_gt, cm_ge, cm_eq, cm_ne, ev_int, ev_bool, ev_var, ev_bin, ev_cmp, ev_not, ev_and, ev_or, ev_ife, ev_idx, ev_upto, ev_from1, ev_all, ev_rev, ev_cat, ev_rep, ev_lit0, ev_lit1, ev_lst1, ev_rows2, ev_call1, ev_call2, ev_call3, ev_call4, ev_len, ev_min2, ev_sum, ev_toInt, ev_toList, ev_range1, ev_range3, ev_zip, ev_enum, op1_some', op1_none', vBin_int, vCmp_int, vNot_bool, vIdx_il, vUpto_il, vUpto_arg, vList_il', vCat_il, vRep_il, vMin_int, vLst1_int, vRows2_il, vSum_il, vToInt_int, vZip_il, vEnum_il, vRange_1, vRange_dn, asg_int, asg_il, ret_int, ret_bool, ret_il, ret_fresh, own_var, fr_var, fr_idx, fr_upto, fr_from1, fr_all, fr_rev, fr_cat, fr_rep, fr_lit, fr_lst1, fr_call1, fr_call2, fr_call3, fr_call4, fr_toList, fr_drawn, fr_comp, gt, pt, inEv, Option.map_some, Option.map_none, List.length_cons, List.length_nil, Nat.reduceAdd, Nat.reduceLT, decide_true, decide_false, decide_eq_true_eq, Bool.or_true, Bool.true_or, Bool.false_or, Bool.or_false, Int.toNat_natCast, and_self, true_and, and_true, if_true, if_false, Bool.false_eq_true, Bool.true_and, Bool.and_true, Nat.reduceBEq, bne_self_eq_false, Nat.reduceBNe, mOf, cap, e1, hgl]) | rw [thenQ_next] | rw [wp_seq] | simp only [wp_seq, thenQ_next]))
    refine ⟨by (first | lia | omega), _, _, _, rfl, by rw [List.length_set, hgl], fun x hx' => ?_, ?_⟩
    · rcases List.mem_or_eq_of_mem_set hx' with h | h
      · have := hg x h; (first | lia | omega)
      · rw [h]; (first | lia | omega)
    · rw [val_set b g (a + j) _ (by (first | lia | omega)), hv, take_sn hj, val_snoc, List.length_take, Nat.min_eq_left (by (first | lia | omega)), Int.mul_add, ← Int.mul_assoc, ← Int.pow_add]
      have : g.getD (a + j) 0 + limbs.getD j 0 - g.getD (a + j) 0 = limbs.getD j 0 := by (first | lia | omega)
      rw [this]; (first | lia | omega)
  · rintro s ⟨g, z10, z11, rfl, hgl, hg, hv⟩
    rw [List.take_length] at hv
    exact hQ g z10 z11 hgl hg hv
end

theorem asg_rl {M : Nat → Bool} {x : Nat} {e : E} {l : List (List Int)} : asgOk M x e (.rl l) = (e.fresh && !M x) := rfl
noncomputable def rowsOf (C : List Int) (ps : List Nat) : List (List Int) := ps.map fun p : Nat => C.map (· % (p : Int))

inductive MulI (A : List Int) (B : List Int) (C : List Int) (w : Nat) (bound : Nat) (k : Nat) (ps : List Nat) (t : Nat) (s : St) : Prop
  | mk (cols : List Int) (z8 z9 z10 z11 : Option V) (h0 : s = ([some (.il A), some (.il B), some (.int w), some (.int bound), some (.int (2 ^ k : Nat)), some (.il (natL ps)), some (.rl (rowsOf C ps)), some (.il cols), z8, z9, z10, z11], none)) (h1 : cols.length ≤ t + 30) (h2 : (∀ x ∈ cols, 0 ≤ x ∧ x ≤ ((15360 * t : Nat) : Int))) (h3 : val (2 ^ w) cols = val (2 ^ w) (C.take t)) : MulI A B C w bound k ps t s
theorem sp_mul (P : Fns) (hZ : SpSizeFor (P.fn "size_for")) (hPr : SpPrimesFor (P.fn "primes_for")) (hCv : SpConvolve (P.fn "convolve")) (hJ : SpJoined (P.fn "joined")) (hFl : SpFilled (P.fn "filled")) (hSe : SpSettled (P.fn "settled")) :
    SpMul (run P fuel (mOf 7) T.mulPrimes 12 4) := fun A B w bound hw9 hw1 hb200 hA9 hB9 hA hB => by
  have hb := pow_bounds hw9 hw1
  refine run_of rfl ?_
  show Wp P fuel (mOf 7) T.mulPrimes ([some (.il A), some (.il B), some (.int w), some (.int bound), none, none, none, none, none, none, none, none], none) _
  unfold T.mulPrimes
  (repeat (first | (simp (disch := first | lia | omega) only [thenQ_ret, loopQ_next, loopQ_ret, wp_skip, wp_asg, wp_asg2, wp_asg3, wp_aug, wp_ite, wp_ret, wp_app, wp_pop, wp_setI, wp_augI, wp_setB, op_add, op_sub, op_mul_s, op_mul, op_fdiv, op_mod, op_shl, op_shr, op_band, cm_lt, cm_le, cm_gt, cm_ge, cm_eq, cm_ne, ev_int, ev_bool, ev_var, ev_bin, ev_cmp, ev_not, ev_and, ev_or, ev_ife, ev_idx, ev_upto, ev_from1, ev_all, ev_rev, ev_cat, ev_rep, ev_lit0, ev_lit1, ev_lst1, ev_rows2, ev_call1, ev_call2, ev_call3, ev_call4, ev_len, ev_min2, ev_sum, ev_toInt, ev_toList, ev_range1, ev_range3, ev_zip, ev_enum, op1_some', op1_none', vBin_int, vCmp_int, vNot_bool, vIdx_il, vUpto_il, vUpto_arg, vList_il', vCat_il, vRep_il, vMin_int, vLst1_int, vRows2_il, vSum_il, vToInt_int, vZip_il, vEnum_il, vRange_1, vRange_dn, asg_int, asg_il, ret_int, ret_bool, ret_il, ret_fresh, own_var, fr_var, fr_idx, fr_upto, fr_from1, fr_all, fr_rev, fr_cat, fr_rep, fr_lit, fr_lst1, fr_call1, fr_call2, fr_call3, fr_call4, fr_toList, fr_drawn, fr_comp, gt, pt, inEv, Option.map_some, Option.map_none, List.length_cons, List.length_nil, Nat.reduceAdd, Nat.reduceLT, decide_true, decide_false, decide_eq_true_eq, Bool.or_true, Bool.true_or, Bool.false_or, Bool.or_false, Int.toNat_natCast, and_self, true_and, and_true, if_true, if_false, Bool.false_eq_true, Bool.true_and, Bool.and_true, Nat.reduceBEq, bne_self_eq_false, Nat.reduceBNe, mOf, cap]) | rw [thenQ_next] | rw [wp_seq] | simp only [wp_seq, thenQ_next]))
  by_cases hA0 : A.length = 0
  · have : A = [] := List.eq_nil_of_length_eq_zero hA0
    subst this
    refine ⟨_, rfl, rfl, [], rfl, ⟨dg_nil, rfl⟩, ?_⟩
    show (0 : Int) = 0 * _
    (first | lia | omega)
  by_cases hB0 : B.length = 0
  · have : B = [] := List.eq_nil_of_length_eq_zero hB0
    subst this
    rw [if_neg (by (first | lia | omega))]
    refine ⟨_, rfl, rfl, [], rfl, ⟨dg_nil, rfl⟩, ?_⟩
    show (0 : Int) = _ * 0
    (first | lia | omega)
  have hAn : A ≠ [] := fun h => hA0 (by rw [h]; rfl)
  have hBn : B ≠ [] := fun h => hB0 (by rw [h]; rfl)
  rw [if_neg (show ¬ ((A.length : Int) = 0) by (first | lia | omega))]
  obtain ⟨w₁, hw₁, k, rfl, hk9, hmk, hlt⟩ := hZ ((A.length : Int) + B.length - 1) (by (first | lia | omega))
  have e2k : (2 : Int) ^ k = ((2 ^ k : Nat) : Int) := by simp
  rw [e2k] at hw₁ hmk hlt
  have hk5 : k ≤ 5 := by
    apply Nat.le_of_not_lt
    intro h
    have := Nat.pow_le_pow_right (n := 2) (by decide) h
    (first | lia | omega)
  have hkk := two_pow_le hk5
  have hpl := pm_len A B hAn hBn
  have hC : (pm A B).length ≤ 2 ^ k := by (first | lia | omega)
  have em : (1 * (2 : Int) ^ w - 1) = ((2 ^ w - 1 : Nat) : Int) := by
    have h1 : (2 : Int) ^ w = ((2 ^ w : Nat) : Int) := by simp
    have h2 := Nat.one_le_two_pow (n := w)
    rw [h1]; (first | lia | omega)
  obtain ⟨m, hm⟩ : ∃ m, m = 2 ^ w - 1 := ⟨_, rfl⟩
  rw [← hm] at em
  have hm511 : m ≤ 511 := by (first | lia | omega)
  obtain ⟨g, hg⟩ : ∃ g, g = min A.length B.length * m * m := ⟨_, rfl⟩
  have hmm1 : min A.length B.length * m ≤ 9 * 511 := Nat.mul_le_mul (by (first | lia | omega)) hm511
  have hg2 : g ≤ 2350089 := by
    rw [hg]
    exact Nat.mul_le_mul hmm1 hm511
  obtain ⟨ps, hch, hCh, hpl12⟩ := ch_of_chk hg2 12 bound 1 (chk_at hk5 hb200)
  have hover := ch_over hCh
  rw [Nat.one_mul] at hover
  obtain ⟨w₂, hw₂, rfl⟩ := hPr (2 ^ k) bound g ps (by (first | lia | omega)) (by (first | lia | omega)) (by (first | lia | omega)) hch
  have hgi : min (A.length : Int) (B.length : Int) * (m : Int) * (m : Int) = (g : Int) := by
    rw [min_cast, hg]; simp
  have hgi1 : min (A.length : Int) (B.length : Int) * (m : Int) = ((min A.length B.length * m : Nat) : Int) := by
    rw [min_cast]; simp
  have hgb : 0 ≤ min (A.length : Int) (B.length : Int) * (m : Int) ∧ min (A.length : Int) (B.length : Int) * (m : Int) ≤ 4599 := by rw [hgi1]; (first | lia | omega)
  obtain ⟨C, hCd⟩ : ∃ C, C = padTo (2 ^ k) (pm A B) := ⟨_, rfl⟩
  have hCl : C.length = 2 ^ k := by rw [hCd, padTo_len hC]
  have hCb : ∀ i, 0 ≤ C.getD i 0 ∧ C.getD i 0 ≤ (g : Int) := fun i => by
    rw [hCd, padTo_getD, hg]
    have := pm_bd (m := (m : Int)) (by (first | lia | omega)) (A := A) (B := B) (fun x hx => by have := hA x hx; (first | lia | omega)) (fun x hx => by have := hB x hx; (first | lia | omega)) i
    have e : ((min A.length B.length * m * m : Nat) : Int) = ((min A.length B.length : Nat) : Int) * m * m := by simp
    rw [e]; exact this
  have hconv : ∀ p ∈ ps, P.fn "convolve" [.il A, .il B, .int (2 ^ k : Nat), .int p] = some (.il (C.map (· % (p : Int)))) := fun p hp => by
    obtain ⟨h1, r, h2, h3⟩ := ch_good hCh hp
    obtain ⟨v, hv, rfl⟩ := hCv A B k p r h3 h1 h2 hk5 (by (first | lia | omega)) (by (first | lia | omega)) hC
    rw [hv, hCd]
  have hnl : (natL ps).length = ps.length := by simp [natL]
  (repeat (first | (simp (disch := first | lia | omega) only [thenQ_ret, loopQ_next, loopQ_ret, wp_skip, wp_asg, wp_asg2, wp_asg3, wp_aug, wp_ite, wp_ret, wp_app, wp_pop, wp_setI, wp_augI, wp_setB, op_add, op_sub, op_mul_s, op_mul, op_fdiv, op_mod, op_shl, op_shr, op_band, cm_lt, cm_le, cm_gt, cm_ge, cm_eq, cm_ne, ev_int, ev_bool, ev_var, ev_bin, ev_cmp, ev_not, ev_and, ev_or, ev_ife, ev_idx, ev_upto, ev_from1, ev_all, ev_rev, ev_cat, ev_rep, ev_lit0, ev_lit1, ev_lst1, ev_rows2, ev_call1, ev_call2, ev_call3, ev_call4, ev_len, ev_min2, ev_sum, ev_toInt, ev_toList, ev_range1, ev_range3, ev_zip, ev_enum, op1_some', op1_none', vBin_int, vCmp_int, vNot_bool, vIdx_il, vUpto_il, vUpto_arg, vList_il', vCat_il, vRep_il, vMin_int, vLst1_int, vRows2_il, vSum_il, vToInt_int, vZip_il, vEnum_il, vRange_1, vRange_dn, asg_int, asg_il, ret_int, ret_bool, ret_il, ret_fresh, own_var, fr_var, fr_idx, fr_upto, fr_from1, fr_all, fr_rev, fr_cat, fr_rep, fr_lit, fr_lst1, fr_call1, fr_call2, fr_call3, fr_call4, fr_toList, fr_drawn, fr_comp, gt, pt, inEv, Option.map_some, Option.map_none, List.length_cons, List.length_nil, Nat.reduceAdd, Nat.reduceLT, decide_true, decide_false, decide_eq_true_eq, Bool.or_true, Bool.true_or, Bool.false_or, Bool.or_false, Int.toNat_natCast, and_self, true_and, and_true, if_true, if_false, Bool.false_eq_true, Bool.true_and, Bool.and_true, Nat.reduceBEq, bne_self_eq_false, Nat.reduceBNe, mOf, cap, hw₁, em, hgi, hw₂, wp_asgC]) | rw [thenQ_next] | rw [wp_seq] | simp only [wp_seq, thenQ_next]))
  have hrow := ev_comp (P := P) (rw := true) (two := false) (src := T.v 5) (elt := .call4 "convolve" (T.v 1) (T.v 2) (T.v 3) (T.v 0)) (caps := [0, 1, 4])
    (s := [some (.il A), some (.il B), some (.int w), some (.int bound), some (.int (2 ^ k : Nat)), some (.il (natL ps)), none, none, none, none, none, none]) (b := none) (b₁ := none) (u := .il (natL ps)) (r := .rl (rowsOf C ps))
    (its := (natL ps).map fun i => [some (.int i)]) (ps.map fun p : Nat => V.il (C.map (· % (p : Int)))) rfl rfl (by show ((natL ps).map _).length ≤ 100000; rw [List.length_map]; (first | lia | omega)) rfl (by simp [natL])
    (fun i e v h h' => by
      rw [List.getElem?_map] at h h'
      cases hx : ps[i]? with
      | none => rw [hx] at h'; first | exact nn h' | cases h'
      | some p =>
        rw [hx] at h'
        have hx' : (natL ps)[i]? = some ((p : Nat) : Int) := by unfold natL; rw [List.getElem?_map, hx]; rfl
        rw [hx'] at h
        cases h; first | exact nn h' | cases h'
        refine ⟨?_, rfl⟩
        show evalE P (.call4 "convolve" (T.v 1) (T.v 2) (T.v 3) (T.v 0)) [some (.int p), some (.il A), some (.il B), some (.int (2 ^ k : Nat))] none = _
        (repeat (first | (simp (disch := first | lia | omega) only [thenQ_ret, loopQ_next, loopQ_ret, wp_skip, wp_asg, wp_asg2, wp_asg3, wp_aug, wp_ite, wp_ret, wp_app, wp_pop, wp_setI, wp_augI, wp_setB, op_add, op_sub, op_mul_s, op_mul, op_fdiv, op_mod, op_shl, op_shr, op_band, cm_lt, cm_le, cm_gt, cm_ge, cm_eq, cm_ne, ev_int, ev_bool, ev_var, ev_bin, ev_cmp, ev_not, ev_and, ev_or, ev_ife, ev_idx, ev_upto, ev_from1, ev_all, ev_rev, ev_cat, ev_rep, ev_lit0, ev_lit1, ev_lst1, ev_rows2, ev_call1, ev_call2, ev_call3, ev_call4, ev_len, ev_min2, ev_sum, ev_toInt, ev_toList, ev_range1, ev_range3, ev_zip, ev_enum, op1_some', op1_none', vBin_int, vCmp_int, vNot_bool, vIdx_il, vUpto_il, vUpto_arg, vList_il', vCat_il, vRep_il, vMin_int, vLst1_int, vRows2_il, vSum_il, vToInt_int, vZip_il, vEnum_il, vRange_1, vRange_dn, asg_int, asg_il, ret_int, ret_bool, ret_il, ret_fresh, own_var, fr_var, fr_idx, fr_upto, fr_from1, fr_all, fr_rev, fr_cat, fr_rep, fr_lit, fr_lst1, fr_call1, fr_call2, fr_call3, fr_call4, fr_toList, fr_drawn, fr_comp, gt, pt, inEv, Option.map_some, Option.map_none, List.length_cons, List.length_nil, Nat.reduceAdd, Nat.reduceLT, decide_true, decide_false, decide_eq_true_eq, Bool.or_true, Bool.true_or, Bool.false_or, Bool.or_false, Int.toNat_natCast, and_self, true_and, and_true, if_true, if_false, Bool.false_eq_true, Bool.true_and, Bool.and_true, Nat.reduceBEq, bne_self_eq_false, Nat.reduceBNe, mOf, cap, hconv p (List.mem_of_getElem? hx)]) | rw [thenQ_next] | rw [wp_seq] | simp only [wp_seq, thenQ_next])))
    (by
      have : (ps.map fun p : Nat => V.il (C.map (· % (p : Int)))) = (rowsOf C ps).map V.il := by unfold rowsOf; rw [List.map_map]; rfl
      unfold pack
      rw [if_pos rfl, this, packL_rows']; rfl)
  (repeat (first | (simp (disch := first | lia | omega) only [thenQ_ret, loopQ_next, loopQ_ret, wp_skip, wp_asg, wp_asg2, wp_asg3, wp_aug, wp_ite, wp_ret, wp_app, wp_pop, wp_setI, wp_augI, wp_setB, op_add, op_sub, op_mul_s, op_mul, op_fdiv, op_mod, op_shl, op_shr, op_band, cm_lt, cm_le, cm_gt, cm_ge, cm_eq, cm_ne, ev_int, ev_bool, ev_var, ev_bin, ev_cmp, ev_not, ev_and, ev_or, ev_ife, ev_idx, ev_upto, ev_from1, ev_all, ev_rev, ev_cat, ev_rep, ev_lit0, ev_lit1, ev_lst1, ev_rows2, ev_call1, ev_call2, ev_call3, ev_call4, ev_len, ev_min2, ev_sum, ev_toInt, ev_toList, ev_range1, ev_range3, ev_zip, ev_enum, op1_some', op1_none', vBin_int, vCmp_int, vNot_bool, vIdx_il, vUpto_il, vUpto_arg, vList_il', vCat_il, vRep_il, vMin_int, vLst1_int, vRows2_il, vSum_il, vToInt_int, vZip_il, vEnum_il, vRange_1, vRange_dn, asg_int, asg_il, ret_int, ret_bool, ret_il, ret_fresh, own_var, fr_var, fr_idx, fr_upto, fr_from1, fr_all, fr_rev, fr_cat, fr_rep, fr_lit, fr_lst1, fr_call1, fr_call2, fr_call3, fr_call4, fr_toList, fr_drawn, fr_comp, gt, pt, inEv, Option.map_some, Option.map_none, List.length_cons, List.length_nil, Nat.reduceAdd, Nat.reduceLT, decide_true, decide_false, decide_eq_true_eq, Bool.or_true, Bool.true_or, Bool.false_or, Bool.or_false, Int.toNat_natCast, and_self, true_and, and_true, if_true, if_false, Bool.false_eq_true, Bool.true_and, Bool.and_true, Nat.reduceBEq, bne_self_eq_false, Nat.reduceBNe, mOf, cap, hrow, asg_rl, Bool.not_false]) | rw [thenQ_next] | rw [wp_seq] | simp only [wp_seq, thenQ_next]))
  rw [if_neg (show ¬ ((B.length : Int) = 0) by (first | lia | omega))]
  obtain ⟨K, hK⟩ : ∃ K, K = 2 ^ k := ⟨_, rfl⟩
  refine wp_for1 (l := rangeL 0 1 (2 ^ k)) (b₁ := none) (MulI A B C w bound k ps) (.inr (by
      show evalE P (.range1 (T.v 4)) [some (.il A), some (.il B), some (.int w), some (.int bound), some (.int (2 ^ k : Nat)), some (.il (natL ps)), some (.rl (rowsOf C ps)), some (.il []), none, none, none, none] none = _
      (repeat (first | (simp (disch := first | lia | omega) only [thenQ_ret, loopQ_next, loopQ_ret, wp_skip, wp_asg, wp_asg2, wp_asg3, wp_aug, wp_ite, wp_ret, wp_app, wp_pop, wp_setI, wp_augI, wp_setB, op_add, op_sub, op_mul_s, op_mul, op_fdiv, op_mod, op_shl, op_shr, op_band, cm_lt, cm_le, cm_gt, cm_ge, cm_eq, cm_ne, ev_int, ev_bool, ev_var, ev_bin, ev_cmp, ev_not, ev_and, ev_or, ev_ife, ev_idx, ev_upto, ev_from1, ev_all, ev_rev, ev_cat, ev_rep, ev_lit0, ev_lit1, ev_lst1, ev_rows2, ev_call1, ev_call2, ev_call3, ev_call4, ev_len, ev_min2, ev_sum, ev_toInt, ev_toList, ev_range1, ev_range3, ev_zip, ev_enum, op1_some', op1_none', vBin_int, vCmp_int, vNot_bool, vIdx_il, vUpto_il, vUpto_arg, vList_il', vCat_il, vRep_il, vMin_int, vLst1_int, vRows2_il, vSum_il, vToInt_int, vZip_il, vEnum_il, vRange_1, vRange_dn, asg_int, asg_il, ret_int, ret_bool, ret_il, ret_fresh, own_var, fr_var, fr_idx, fr_upto, fr_from1, fr_all, fr_rev, fr_cat, fr_rep, fr_lit, fr_lst1, fr_call1, fr_call2, fr_call3, fr_call4, fr_toList, fr_drawn, fr_comp, gt, pt, inEv, Option.map_some, Option.map_none, List.length_cons, List.length_nil, Nat.reduceAdd, Nat.reduceLT, decide_true, decide_false, decide_eq_true_eq, Bool.or_true, Bool.true_or, Bool.false_or, Bool.or_false, Int.toNat_natCast, and_self, true_and, and_true, if_true, if_false, Bool.false_eq_true, Bool.true_and, Bool.and_true, Nat.reduceBEq, bne_self_eq_false, Nat.reduceBNe, mOf, cap]) | rw [thenQ_next] | rw [wp_seq] | simp only [wp_seq, thenQ_next])))) rfl rfl ?_ ⟨[], none, none, none, none, rfl, Nat.zero_le _, (fun _ h => nomatch h), rfl⟩ ?_
  · rintro t n σ bx hi ⟨cols, z8, z9, z10, z11, hs, hcl, hcb, hcv⟩
    cases hs
    obtain ⟨ht, rfl⟩ := rangeL_idx hi
    have e0 : (0 : Int) + (t : Int) * 1 = t := by (first | lia | omega)
    rw [e0]
    obtain ⟨n, hn⟩ : ∃ n : Nat, C.getD t 0 = (n : Int) := Int.eq_ofNat_of_zero_le (hCb t).1
    have hnb := (hCb t).2
    rw [hn] at hnb
    have hrest := ev_comp (P := P) (rw := false) (two := false) (src := T.v 6) (elt := .idx (T.v 0) (T.v 1)) (caps := [8])
      (s := [some (.il A), some (.il B), some (.int w), some (.int bound), some (.int (2 ^ k : Nat)), some (.il (natL ps)), some (.rl (rowsOf C ps)), some (.il cols), some (.int t), z9, z10, z11]) (b := none) (b₁ := none) (u := .rl (rowsOf C ps)) (r := .il (natL (ps.map (n % ·))))
      (its := (rowsOf C ps).map fun i => [some (.il i)]) (ps.map fun p : Nat => V.int ((n % p : Nat) : Int)) rfl rfl (by show ((rowsOf C ps).map _).length ≤ 100000; rw [List.length_map, rowsOf, List.length_map]; (first | lia | omega)) rfl (by simp [rowsOf])
      (fun i e v h h' => by
        rw [List.getElem?_map] at h h'
        cases hx : ps[i]? with
        | none => rw [hx] at h'; first | exact nn h' | cases h'
        | some p =>
          rw [hx] at h'
          have hx' : (rowsOf C ps)[i]? = some (C.map (· % (p : Int))) := by unfold rowsOf; rw [List.getElem?_map, hx]; rfl
          rw [hx'] at h
          cases h; first | exact nn h' | cases h'
          refine ⟨?_, rfl⟩
          show evalE P (.idx (T.v 0) (T.v 1)) [some (.il (C.map (· % (p : Int)))), some (.int t)] none = _
          have hl : (C.map (· % (p : Int))).length = 2 ^ k := by rw [List.length_map, hCl]
          have hg : (C.map (· % (p : Int))).getD t 0 = ((n % p : Nat) : Int) := by
            have h1 : C[t]? = some (n : Int) := by
              have := get_getD (l := C) (i := t) (by (first | lia | omega))
              rw [List.getElem?_eq_getElem (by (first | lia | omega)), this, hn]
            rw [List.getD_eq_getElem?_getD, List.getElem?_map, h1]; rfl
          (repeat (first | (simp (disch := first | lia | omega) only [thenQ_ret, loopQ_next, loopQ_ret, wp_skip, wp_asg, wp_asg2, wp_asg3, wp_aug, wp_ite, wp_ret, wp_app, wp_pop, wp_setI, wp_augI, wp_setB, op_add, op_sub, op_mul_s, op_mul, op_fdiv, op_mod, op_shl, op_shr, op_band, cm_lt, cm_le, cm_gt, cm_ge, cm_eq, cm_ne, ev_int, ev_bool, ev_var, ev_bin, ev_cmp, ev_not, ev_and, ev_or, ev_ife, ev_idx, ev_upto, ev_from1, ev_all, ev_rev, ev_cat, ev_rep, ev_lit0, ev_lit1, ev_lst1, ev_rows2, ev_call1, ev_call2, ev_call3, ev_call4, ev_len, ev_min2, ev_sum, ev_toInt, ev_toList, ev_range1, ev_range3, ev_zip, ev_enum, op1_some', op1_none', vBin_int, vCmp_int, vNot_bool, vIdx_il, vUpto_il, vUpto_arg, vList_il', vCat_il, vRep_il, vMin_int, vLst1_int, vRows2_il, vSum_il, vToInt_int, vZip_il, vEnum_il, vRange_1, vRange_dn, asg_int, asg_il, ret_int, ret_bool, ret_il, ret_fresh, own_var, fr_var, fr_idx, fr_upto, fr_from1, fr_all, fr_rev, fr_cat, fr_rep, fr_lit, fr_lst1, fr_call1, fr_call2, fr_call3, fr_call4, fr_toList, fr_drawn, fr_comp, gt, pt, inEv, Option.map_some, Option.map_none, List.length_cons, List.length_nil, Nat.reduceAdd, Nat.reduceLT, decide_true, decide_false, decide_eq_true_eq, Bool.or_true, Bool.true_or, Bool.false_or, Bool.or_false, Int.toNat_natCast, and_self, true_and, and_true, if_true, if_false, Bool.false_eq_true, Bool.true_and, Bool.and_true, Nat.reduceBEq, bne_self_eq_false, Nat.reduceBNe, mOf, cap, hl, hg]) | rw [thenQ_next] | rw [wp_seq] | simp only [wp_seq, thenQ_next])))
      (by
        have : (ps.map fun p : Nat => V.int ((n % p : Nat) : Int)) = (natL (ps.map (n % ·))).map V.int := by unfold natL; rw [List.map_map, List.map_map]; rfl
        unfold pack
        rw [if_neg (by decide), this, packI_ints']; rfl)
    obtain ⟨v, hv, l, rfl, hnf, hval, hll⟩ := hJ ps n w (ch_small hCh hpl12) (ch_inv hCh) (by (first | lia | omega)) (by (first | lia | omega)) hw9 hw1
    obtain ⟨v2, hv2, rfl⟩ := hFl cols (t + l.length) (by (first | lia | omega)) (by (first | lia | omega))
    have ec : (t : Int) + (l.length : Int) = ((t + l.length : Nat) : Int) := by (first | lia | omega)
    (repeat (first | (simp (disch := first | lia | omega) only [thenQ_ret, loopQ_next, loopQ_ret, wp_skip, wp_asg, wp_asg2, wp_asg3, wp_aug, wp_ite, wp_ret, wp_app, wp_pop, wp_setI, wp_augI, wp_setB, op_add, op_sub, op_mul_s, op_mul, op_fdiv, op_mod, op_shl, op_shr, op_band, cm_lt, cm_le, cm_gt, cm_ge, cm_eq, cm_ne, ev_int, ev_bool, ev_var, ev_bin, ev_cmp, ev_not, ev_and, ev_or, ev_ife, ev_idx, ev_upto, ev_from1, ev_all, ev_rev, ev_cat, ev_rep, ev_lit0, ev_lit1, ev_lst1, ev_rows2, ev_call1, ev_call2, ev_call3, ev_call4, ev_len, ev_min2, ev_sum, ev_toInt, ev_toList, ev_range1, ev_range3, ev_zip, ev_enum, op1_some', op1_none', vBin_int, vCmp_int, vNot_bool, vIdx_il, vUpto_il, vUpto_arg, vList_il', vCat_il, vRep_il, vMin_int, vLst1_int, vRows2_il, vSum_il, vToInt_int, vZip_il, vEnum_il, vRange_1, vRange_dn, asg_int, asg_il, ret_int, ret_bool, ret_il, ret_fresh, own_var, fr_var, fr_idx, fr_upto, fr_from1, fr_all, fr_rev, fr_cat, fr_rep, fr_lit, fr_lst1, fr_call1, fr_call2, fr_call3, fr_call4, fr_toList, fr_drawn, fr_comp, gt, pt, inEv, Option.map_some, Option.map_none, List.length_cons, List.length_nil, Nat.reduceAdd, Nat.reduceLT, decide_true, decide_false, decide_eq_true_eq, Bool.or_true, Bool.true_or, Bool.false_or, Bool.or_false, Int.toNat_natCast, and_self, true_and, and_true, if_true, if_false, Bool.false_eq_true, Bool.true_and, Bool.and_true, Nat.reduceBEq, bne_self_eq_false, Nat.reduceBNe, mOf, cap, hrest, hv, ec, hv2]) | rw [thenQ_next] | rw [wp_seq] | simp only [wp_seq, thenQ_next]))
    refine wp_columns (b := 2 ^ w) (M := 15360 * t) (by rw [List.length_append, List.length_replicate]; (first | lia | omega)) (by rw [List.length_append, List.length_replicate]; (first | lia | omega)) (fun x hx => by have := hnf.1 x hx; (first | lia | omega))
      (fun x hx => by
        rcases List.mem_append.mp hx with h | h
        · exact hcb x h
        · have := List.eq_of_mem_replicate h; (first | lia | omega)) fun cols' z10 z11 hl' hb' hv' => ?_
    refine ⟨cols', _, _, z10, z11, rfl, ?_, fun x hx => ?_, ?_⟩
    · rw [hl', List.length_append, List.length_replicate]; (first | lia | omega)
    · have := hb' x hx; (first | lia | omega)
    · rw [hv', val_zeros, hcv, hval, take_sn (by (first | lia | omega)), val_snoc, List.length_take, Nat.min_eq_left (by (first | lia | omega)), hn]
  · rintro s ⟨cols, z8, z9, z10, z11, rfl, hcl, hcb, hcv⟩
    rw [rangeL_len] at hcl hcb hcv
    obtain ⟨v, hv, l, rfl, hnf, hval⟩ := hSe cols w hw9 hw1 (by (first | lia | omega)) (fun x hx => by have := hcb x hx; (first | lia | omega))
    (repeat (first | (simp (disch := first | lia | omega) only [thenQ_ret, loopQ_next, loopQ_ret, wp_skip, wp_asg, wp_asg2, wp_asg3, wp_aug, wp_ite, wp_ret, wp_app, wp_pop, wp_setI, wp_augI, wp_setB, op_add, op_sub, op_mul_s, op_mul, op_fdiv, op_mod, op_shl, op_shr, op_band, cm_lt, cm_le, cm_gt, cm_ge, cm_eq, cm_ne, ev_int, ev_bool, ev_var, ev_bin, ev_cmp, ev_not, ev_and, ev_or, ev_ife, ev_idx, ev_upto, ev_from1, ev_all, ev_rev, ev_cat, ev_rep, ev_lit0, ev_lit1, ev_lst1, ev_rows2, ev_call1, ev_call2, ev_call3, ev_call4, ev_len, ev_min2, ev_sum, ev_toInt, ev_toList, ev_range1, ev_range3, ev_zip, ev_enum, op1_some', op1_none', vBin_int, vCmp_int, vNot_bool, vIdx_il, vUpto_il, vUpto_arg, vList_il', vCat_il, vRep_il, vMin_int, vLst1_int, vRows2_il, vSum_il, vToInt_int, vZip_il, vEnum_il, vRange_1, vRange_dn, asg_int, asg_il, ret_int, ret_bool, ret_il, ret_fresh, own_var, fr_var, fr_idx, fr_upto, fr_from1, fr_all, fr_rev, fr_cat, fr_rep, fr_lit, fr_lst1, fr_call1, fr_call2, fr_call3, fr_call4, fr_toList, fr_drawn, fr_comp, gt, pt, inEv, Option.map_some, Option.map_none, List.length_cons, List.length_nil, Nat.reduceAdd, Nat.reduceLT, decide_true, decide_false, decide_eq_true_eq, Bool.or_true, Bool.true_or, Bool.false_or, Bool.or_false, Int.toNat_natCast, and_self, true_and, and_true, if_true, if_false, Bool.false_eq_true, Bool.true_and, Bool.and_true, Nat.reduceBEq, bne_self_eq_false, Nat.reduceBNe, mOf, cap, hv]) | rw [thenQ_next] | rw [wp_seq] | simp only [wp_seq, thenQ_next]))
    refine ⟨_, rfl, rfl, l, rfl, hnf, ?_⟩
    rw [hval, hcv, List.take_of_length_le (by (first | lia | omega)), hCd, padTo, val_zeros, val_pm]
end NN

/-! _law_take, by hand -/
namespace NN
open PySem PySem.W PyProof.Rows PySem.Calls

noncomputable def takeHead (nm : List Str) (gs : Str → Bool) (st : Stmt) : Bool :=
  onIf st fun t body els => onNil els (onCmp t fun a qs bs => on1 qs fun q => on1 bs fun z1 => cmIs .gt q && intIs 0 z1 && (fnCall gs "len" a fun as => on1 as fun s => onSub s fun b0 z0 => isVar nm 0 b0 && intIs 0 z0) &&
    on1 body fun r => onRet r fun v => onSome v fun e => onBin e fun c o l => opIs .mod o && isVar nm 1 l && onCall c fun g as ks cpos => onNil ks (onAttr g fun s n apos => decide (n = ("pop" : Str)) && decide (apos.endLine = cpos.line) && on1 as (fun z3 => intIs 0 z3) && onSub s fun b1 z2 => isVar nm 0 b1 && intIs 0 z2))
@[elab_as_elim] theorem takeHead_e {nm : List Str} {gs : Str → Bool} {C : Stmt → Prop} {st : Stmt} (h : takeHead nm gs st = true)
    (k : ∀ q b0 n0 p0 ps pc n1 p1 pt b1 n2 p2 pb pa n3 p3 pcl l pbin pret pif, gs "len" = true → (("len" : Str) == ("__debug__" : Str)) = false → isVar nm 0 b0 = true → isVar nm 0 b1 = true → isVar nm 1 l = true → (pa.endLine == pcl.line) = true →
      C (.If (.Compare (.Call (.Name "len" q) [.Subscript b0 (.Constant (.int 0) n0 p0) ps] [] pc) [.Gt] [.Constant (.int 0) n1 p1] pt) [.Return (some (.BinOp (.Call (.Attribute (.Subscript b1 (.Constant (.int 0) n2 p2) pb) "pop" pa) [.Constant (.int 0) n3 p3] [] pcl) .Mod l pbin)) pret] [] pif)) : C st := by
  refine onIf_e h fun t body els pif h => onNil_e h fun h => onCmp_e h fun a qs bs pt h => on1_e h fun q h => on1_e h fun z1 h => ?_
  obtain ⟨h1, h2, h3, h4⟩ := and4 h
  obtain rfl : q = .Gt := of_decide_eq_true h1
  refine intIs_e h2 fun n1 p1 => fnCall_e h3 fun q as pc g1 g2 h3 => on1_e h3 fun s h3 => onSub_e h3 fun b0 z0 ps h3 => intIs_e (and2 h3).2 fun n0 p0 => ?_
  refine on1_e h4 fun r h4 => onRet_e h4 fun v pret h4 => onSome_e h4 fun e h4 => onBin_e h4 fun c o l pbin h4 => ?_
  obtain ⟨h5, h6, h7⟩ := and3 h4
  obtain rfl : o = .Mod := of_decide_eq_true h5
  refine onCall_e h7 fun g as ks cpos h7 => onNil_e h7 fun h7 => onAttr_e h7 fun s n apos h7 => ?_
  obtain ⟨h8, h9, h10, h11⟩ := and4 h7
  have e := of_decide_eq_true h8
  subst e
  refine on1_e h10 fun z3 h10 => intIs_e h10 fun n3 p3 => onSub_e h11 fun b1 z2 pb h11 => intIs_e (and2 h11).2 fun n2 p2 => ?_
  exact k _ _ _ _ _ _ _ _ _ _ _ _ _ _ _ _ _ _ _ _ _ g1 g2 (and2 h3).1 (and2 h11).1 h6 (beq_iff_eq.mpr (of_decide_eq_true h9))
/-- box limit: what comes after the first statement -/
noncomputable def T.takeRest : S :=
  S.seq (.setB 0 (T.mod (T.add (T.mul (.box1 0) (T.i 4093)) (T.i 12289)) (T.i 1000003))) (.ret (T.mod (T.fdiv (.box1 0) (T.i 8)) (T.v 1)))
noncomputable def takeFits : Bool := let d := theRec "_law_take"; fitsFn d ["box", "limit"] ["box", "limit"] &&
  (match d.body with | st :: r => takeHead ["box", "limit"] (gsOf d.scope) st && mS ["box", "limit"] (gsOf d.scope) (csOf d.scope) (lsOf d.scope) T.takeRest r | [] => false)
theorem takeFits_ok : takeFits = true := by decide +kernel

noncomputable def takeF (m : Int) : (List Int × Int) → Option (Int × (List Int × Int))
  | (x :: r, k) => if 0 < m ∧ r.length < 1000 then some (x % m, (r, k)) else none
  | ([], k) => if 0 < m ∧ (0 ≤ k ∧ k < 1000003) then some ((k * 4093 + 12289) % 1000003 / 8 % m, ([], (k * 4093 + 12289) % 1000003)) else none

section
variable {prog : Program} {w : PySem.World} {P : Fns} {N : Nat} {A : Around} {hB h₀ : Heap} {fnA : Str → Option Addr} {k : Nat} {env : Env} {nm : List Str} {gs cs ls : Str → Bool} {B : Bxa} {M : Nat → Bool} {σ : Ev} {bx : Bx} {s : Shared} {E : Value → Shared → Prop}

theorem eval_box0 {p : Expr} {kk : Nat} {pi pos : Pos} {l : List Int} {n : Int} (C : Cx A hB k env nm gs cs B σ (some (l, n)) s) (hm : isVar nm 0 p = true) (hx : gt σ 0 = some .box) {Q : Value → Shared → Prop}
    (hq : ∀ aB aL t vs n₁ m, B = some (aB, aL) → aB ≠ aL → IsL s.heap aB #[.ref aL, .int n t] n₁ → IsL s.heap aL vs.toArray m → IntsAre vs l → Q (.ref aL) { s with toks := s.toks + 1 }) :
    wpAny (model prog w) A (eval (.Subscript p (.Constant (.int 0) kk pi) pos) env) Q E s := by
  obtain ⟨_, xn, val, hn, hr, hv⟩ := C.vars 0 _ hx
  obtain ⟨pp, hB', rfl⟩ := hv
  obtain ⟨aB, aL, t, vs, n₁, m, e', hne, i1, i2, hI⟩ := C.box
  rw [hB'] at e'; first | exact nn e' | cases e'
  refine Subscript_ (eval_at C.ok.kind hn hr hm (wpAny_Constant_int ?_))
  have il : s.heap.IsList aB #[.ref aL, .int n t] := i1.isList
  exact tail_any (s := { s with toks := s.toks + 1 }) (ops := [.ref aB, .int 0 s.toks]) (Heap.IsList.typeIs (s := { s with toks := s.toks + 1 }) il) slot_list_getitem.lookup
    (wpAny_getItem_list (s := { s with toks := s.toks + 1 }) (x := .ref aL) il (by decide) (by decide) rfl (hq aB aL t vs n₁ m hB' hne i1 i2 hI)) rfl

theorem take_test (bs : Base hB fnA) {b0 : Expr} {np : Pos} {kk k2 : Nat} {p1 p2 p3 p4 p5 : Pos} {l : List Int} {n : Int} {whole : Sem Value} (C : Cx A hB k env nm gs cs B σ (some (l, n)) s) (g1 : gs "len" = true) (g2 : (("len" : Str) == ("__debug__" : Str)) = false) (hm : isVar nm 0 b0 = true) (hx : gt σ 0 = some .box) (hl : l.length ≤ 1000)
    {Q : Bool → Shared → Prop} (hq : ∀ s₁, Kp none s s₁ → Q (decide (0 < l.length)) s₁) :
    wpAny (model prog w) A (isTrue (.Compare (.Call (.Name "len" np) [.Subscript b0 (.Constant (.int 0) kk p1) p2] [] p3) [.Gt] [.Constant (.int 0) k2 p4] p5) env whole) Q E s := by
  refine wpAny_isTrue_Compare1 (call_go (hB := hB) (f := .builtin "len") (.inl ⟨_, rfl⟩) rfl (fun Q' h => nm_blt bs C g1 g2 (by simp) h) rfl rfl ?_)
  refine wpAny_items_cons (eval_box0 C hm hx fun aB aL t vs n₁ m hB' hne i1 i2 hI => wpAny_items_nil ⟨C.base, ?_⟩) rfl
  refine call_len_list (s := { s with toks := s.toks + 1 }) i2.isList (by rw [List.size_toArray, hI.length]; (first | lia | omega)) ?_
  rw [List.size_toArray, hI.length]
  refine wpAny_Constant_int (cm_sound (c := .gt) rfl (wpAny_truthy_bool ?_))
  have e : cmI .gt (l.length : Int) 0 = decide (0 < l.length) := by
    show decide ((0 : Int) < l.length) = _
    by_cases h : 0 < l.length
    · rw [decide_eq_true h, decide_eq_true (by (first | lia | omega))]
    · rw [decide_eq_false h, decide_eq_false (by (first | lia | omega))]
  rw [e]
  exact hq _ (.of_keep fun _ _ e => e)

theorem take_pop {b1 : Expr} {l : Expr} {kk k2 : Nat} {p1 p2 p3 p4 p5 p6 : Pos} {x : Int} {r : List Int} {n m : Int} (C : Cx A hB k env nm gs cs B σ (some (x :: r, n)) s) (hm : isVar nm 0 b1 = true) (hx : gt σ 0 = some .box) (hl : isVar nm 1 l = true) (hlm : gt σ 1 = some (.int m)) (hm0 : 0 < m) (hr : r.length < 1000)
    (hline : (p3.endLine == p5.line) = true) {Q : Value → Shared → Prop} (hq : ∀ s₁ t, Kp B s s₁ → BoxOk B s₁.heap (some (r, n)) → Q (.int (x % m) t) s₁) :
    wpAny (model prog w) A (eval (.BinOp (.Call (.Attribute (.Subscript b1 (.Constant (.int 0) kk p1) p2) "pop" p3) [.Constant (.int 0) k2 p4] [] p5) .Mod l p6) env) Q E s := by
  refine wpAny_BinOp (wpAny_Call_method (T := "list") (id := "list.pop") rfl rfl hline paList slPop tyPop (eval_box0 C hm hx fun aB aL t vs n₁ mm hB' hne i1 i2 hI => ?_))
  refine ⟨i2.isList.typeIs, fun a e => by cases e; exact ⟨_, i2, rfl⟩, ?_⟩
  refine PySem.P.pop_at_list (x := eval (.Constant (.int 0) k2 p4) env) (wpAny_Constant_int ?_)
  obtain ⟨t', vs', rfl, hI'⟩ := hI.cons_inv
  have hlen := hI'.length
  refine ⟨_, mm, 0, _, 0, .int x t', by rw [List.size_toArray, List.length_cons, hlen]; exact cap_line (by show r.length + 1 ≤ 100000; (first | lia | omega)), rfl, i2, by decide, ?_, rfl, ?_⟩
  · simp [seqIndex?]
  · have hu := i2.update (·.eraseIdxIfInBounds 0)
    have e : ((Value.int x t' :: vs').toArray).eraseIdxIfInBounds 0 = vs'.toArray := by
      rw [Array.eraseIdxIfInBounds, dif_pos (by simp)]
      simp
    rw [e] at hu
    have hs : Heap.SameBut aL s.heap (s.heap.update aL (Obj.mapSeq (·.eraseIdxIfInBounds 0))) := Heap.SameBut.update ..
    have q : Kp B s { s with heap := s.heap.update aL (Obj.mapSeq (·.eraseIdxIfInBounds 0)), toks := s.toks + 1 + 1 } := ⟨⟨_, _, rfl⟩, fun b o nb e => (hs.2 b fun z => nb ⟨_, hB', .inr z⟩).trans e⟩
    have hb : BoxOk B (s.heap.update aL (Obj.mapSeq (·.eraseIdxIfInBounds 0))) (some (r, n)) := ⟨aB, aL, t, vs', _, _, hB', hne, (hs.2 aB hne).trans i1, hu, hI'⟩
    have C' := C.next q hb
    refine wpAny_mono (do_var hl C' hlm E) (fun y s₂ h₂ => ?_) fun _ _ z => z
    obtain ⟨q₂, hb₂, t₂, rfl⟩ := h₂
    exact op_sound (o := .mod) rfl (op_mod hm0) (hq _ _ ((q.trans q₂).trans (.tok B _ _)) hb₂)

theorem rest_runs {m n n' : Int} (hm : 0 < m) (hn : 0 ≤ n ∧ n < 1000003) (e : n' = (n * 4093 + 12289) % 1000003) : execS P N mNo T.takeRest ([some .box, some (.int m)], some ([], n)) = some (([some .box, some (.int m)], some ([], n')), .ret (.int (n' / 8 % m))) := by
  subst e
  have h1 : evalE P (T.mod (T.add (T.mul (.box1 0) (T.i 4093)) (T.i 12289)) (T.i 1000003)) [some .box, some (.int m)] (some ([], n)) = some (.int ((n * 4093 + 12289) % 1000003), some ([], n)) := by
    have hb : evalE P (.box1 0) [some .box, some (.int m)] (some ([], n)) = some (.int n, some ([], n)) := rfl
    (repeat (first | (simp (disch := first | lia | omega) only [thenQ_ret, loopQ_next, loopQ_ret, wp_skip, wp_asg, wp_asg2, wp_asg3, wp_aug, wp_ite, wp_ret, wp_app, wp_pop, wp_setI, wp_augI, wp_setB, op_add, op_sub, op_mul_s, op_mul, op_fdiv, op_mod, op_shl, op_shr, op_band, cm_lt, cm_le, cm_gt, cm_ge, cm_eq, cm_ne, ev_int, ev_bool, ev_var, ev_bin, ev_cmp, ev_not, ev_and, ev_or, ev_ife, ev_idx, ev_upto, ev_from1, ev_all, ev_rev, ev_cat, ev_rep, ev_lit0, ev_lit1, ev_lst1, ev_rows2, ev_call1, ev_call2, ev_call3, ev_call4, ev_len, ev_min2, ev_sum, ev_toInt, ev_toList, ev_range1, ev_range3, ev_zip, ev_enum, op1_some', op1_none', vBin_int, vCmp_int, vNot_bool, vIdx_il, vUpto_il, vUpto_arg, vList_il', vCat_il, vRep_il, vMin_int, vLst1_int, vRows2_il, vSum_il, vToInt_int, vZip_il, vEnum_il, vRange_1, vRange_dn, asg_int, asg_il, ret_int, ret_bool, ret_il, ret_fresh, own_var, fr_var, fr_idx, fr_upto, fr_from1, fr_all, fr_rev, fr_cat, fr_rep, fr_lit, fr_lst1, fr_call1, fr_call2, fr_call3, fr_call4, fr_toList, fr_drawn, fr_comp, gt, pt, inEv, Option.map_some, Option.map_none, List.length_cons, List.length_nil, Nat.reduceAdd, Nat.reduceLT, decide_true, decide_false, decide_eq_true_eq, Bool.or_true, Bool.true_or, Bool.false_or, Bool.or_false, Int.toNat_natCast, and_self, true_and, and_true, if_true, if_false, Bool.false_eq_true, Bool.true_and, Bool.and_true, Nat.reduceBEq, bne_self_eq_false, Nat.reduceBNe, mOf, cap, hb]) | rw [thenQ_next] | rw [wp_seq] | simp only [wp_seq, thenQ_next]))
  have h2 : evalE P (T.mod (T.fdiv (.box1 0) (T.i 8)) (T.v 1)) [some .box, some (.int m)] (some ([], (n * 4093 + 12289) % 1000003)) = some (.int ((n * 4093 + 12289) % 1000003 / 8 % m), some ([], (n * 4093 + 12289) % 1000003)) := by
    have hb : evalE P (.box1 0) [some .box, some (.int m)] (some ([], (n * 4093 + 12289) % 1000003)) = some (.int ((n * 4093 + 12289) % 1000003), some ([], (n * 4093 + 12289) % 1000003)) := rfl
    (repeat (first | (simp (disch := first | lia | omega) only [thenQ_ret, loopQ_next, loopQ_ret, wp_skip, wp_asg, wp_asg2, wp_asg3, wp_aug, wp_ite, wp_ret, wp_app, wp_pop, wp_setI, wp_augI, wp_setB, op_add, op_sub, op_mul_s, op_mul, op_fdiv, op_mod, op_shl, op_shr, op_band, cm_lt, cm_le, cm_gt, cm_ge, cm_eq, cm_ne, ev_int, ev_bool, ev_var, ev_bin, ev_cmp, ev_not, ev_and, ev_or, ev_ife, ev_idx, ev_upto, ev_from1, ev_all, ev_rev, ev_cat, ev_rep, ev_lit0, ev_lit1, ev_lst1, ev_rows2, ev_call1, ev_call2, ev_call3, ev_call4, ev_len, ev_min2, ev_sum, ev_toInt, ev_toList, ev_range1, ev_range3, ev_zip, ev_enum, op1_some', op1_none', vBin_int, vCmp_int, vNot_bool, vIdx_il, vUpto_il, vUpto_arg, vList_il', vCat_il, vRep_il, vMin_int, vLst1_int, vRows2_il, vSum_il, vToInt_int, vZip_il, vEnum_il, vRange_1, vRange_dn, asg_int, asg_il, ret_int, ret_bool, ret_il, ret_fresh, own_var, fr_var, fr_idx, fr_upto, fr_from1, fr_all, fr_rev, fr_cat, fr_rep, fr_lit, fr_lst1, fr_call1, fr_call2, fr_call3, fr_call4, fr_toList, fr_drawn, fr_comp, gt, pt, inEv, Option.map_some, Option.map_none, List.length_cons, List.length_nil, Nat.reduceAdd, Nat.reduceLT, decide_true, decide_false, decide_eq_true_eq, Bool.or_true, Bool.true_or, Bool.false_or, Bool.or_false, Int.toNat_natCast, and_self, true_and, and_true, if_true, if_false, Bool.false_eq_true, Bool.true_and, Bool.and_true, Nat.reduceBEq, bne_self_eq_false, Nat.reduceBNe, mOf, cap, hb]) | rw [thenQ_next] | rw [wp_seq] | simp only [wp_seq, thenQ_next]))
  have key : Wp P N mNo T.takeRest ([some .box, some (.int m)], some ([], n)) fun s f => s = ([some .box, some (.int m)], some ([], (n * 4093 + 12289) % 1000003)) ∧ f = .ret (.int ((n * 4093 + 12289) % 1000003 / 8 % m)) := by
    unfold T.takeRest
    (repeat (first | (simp (disch := first | lia | omega) only [thenQ_ret, loopQ_next, loopQ_ret, wp_skip, wp_asg, wp_asg2, wp_asg3, wp_aug, wp_ite, wp_ret, wp_app, wp_pop, wp_setI, wp_augI, wp_setB, op_add, op_sub, op_mul_s, op_mul, op_fdiv, op_mod, op_shl, op_shr, op_band, cm_lt, cm_le, cm_gt, cm_ge, cm_eq, cm_ne, ev_int, ev_bool, ev_var, ev_bin, ev_cmp, ev_not, ev_and, ev_or, ev_ife, ev_idx, ev_upto, ev_from1, ev_all, ev_rev, ev_cat, ev_rep, ev_lit0, ev_lit1, ev_lst1, ev_rows2, ev_call1, ev_call2, ev_call3, ev_call4, ev_len, ev_min2, ev_sum, ev_toInt, ev_toList, ev_range1, ev_range3, ev_zip, ev_enum, op1_some', op1_none', vBin_int, vCmp_int, vNot_bool, vIdx_il, vUpto_il, vUpto_arg, vList_il', vCat_il, vRep_il, vMin_int, vLst1_int, vRows2_il, vSum_il, vToInt_int, vZip_il, vEnum_il, vRange_1, vRange_dn, asg_int, asg_il, ret_int, ret_bool, ret_il, ret_fresh, own_var, fr_var, fr_idx, fr_upto, fr_from1, fr_all, fr_rev, fr_cat, fr_rep, fr_lit, fr_lst1, fr_call1, fr_call2, fr_call3, fr_call4, fr_toList, fr_drawn, fr_comp, gt, pt, inEv, Option.map_some, Option.map_none, List.length_cons, List.length_nil, Nat.reduceAdd, Nat.reduceLT, decide_true, decide_false, decide_eq_true_eq, Bool.or_true, Bool.true_or, Bool.false_or, Bool.or_false, Int.toNat_natCast, and_self, true_and, and_true, if_true, if_false, Bool.false_eq_true, Bool.true_and, Bool.and_true, Nat.reduceBEq, bne_self_eq_false, Nat.reduceBNe, mOf, cap, h1, h2]) | rw [thenQ_next] | rw [wp_seq] | simp only [wp_seq, thenQ_next]))
  obtain ⟨s', f, e, rfl, rfl⟩ := key
  exact e

theorem contract_take (bs : Base hB fnA) (hF : FnsOk prog w hB fnA k P) {a : Addr} (hf : FnAt hB (theRec "_law_take") a) (hbind : bindsOk (theRec "_law_take") ["box", "limit"]) {m r : Int} {bx bx' : List Int × Int} (h : takeF m bx = some (r, bx')) :
    ContractB prog w hB (k + 2) a m bx (.int r) bx' := fun A B s p t R room sub hB' box bxh hR => by
  have hfit := takeFits_ok
  unfold takeFits at hfit
  rw [Bool.and_eq_true] at hfit
  obtain ⟨hfit, hbody⟩ := hfit
  refine call_setup (nm := ["box", "limit"]) (ps := ["box", "limit"]) (M := mNo) (vs := [.box, .int m]) hf hfit hbind room sub bxh box (.cons ⟨p, hB', rfl⟩ (.cons ⟨t, rfl⟩ .nil)) rfl (fun i l e => by
      cases i with
      | zero => first | exact nn e | cases e
      | succ i => cases i with
        | zero => first | exact nn e | cases e
        | succ i => cases e) (fun v hv l e => by
      subst e
      rcases List.mem_cons.mp hv with h | h
      · first | exact nn h | cases h
      rcases List.mem_cons.mp h with h | h
      · first | exact nn h | cases h
      cases h) fun env s₁ F S sh hk E => ?_
  split at hbody
  · rename_i st rest hb
    rw [hb]
    rw [Bool.and_eq_true] at hbody
    obtain ⟨hh, hm⟩ := hbody
    refine takeHead_e hh fun q b0 n0 p0 ps pc n1 p1 pt b1 n2 p2 pb pa n3 p3 pcl l pbin pret pif g1 g2 m0 m1 ml hli => ?_
    have C := S.cx F
    obtain ⟨l, n⟩ := bx
    cases l with
    | nil =>
      simp only [takeF] at h
      split at h
      · rename_i hc
        cases h
        refine wpAny_execs_cons (wpAny_If (take_test bs C g1 g2 m0 rfl (by decide) fun s₂ q₂ => ?_))
        simp only [List.length_nil, Nat.lt_irrefl, decide_false, Bool.false_eq_true, if_false]
        refine wpAny_execs_nil ?_
        have o := (Out.start (mt := []) (W := noW) S).eval F (q₂.none B) (S.box.keeps fun b o e => q₂.get e) (Y := noW) fun b h => .inl h
        refine wpAny_mono (sound_all_S (N := 0) (M := mNo) bs hF T.takeRest F o.st (fun _ h => h.elim) hm (rest_runs hc.1 hc.2 rfl) _) (fun f s' dn => ?_) fun _ _ z => z
        obtain ⟨val, rfl, g1, g2, g3, g4⟩ := dn
        exact hR val s' ⟨(sh.trans (q₂.none B).1).trans g1, g2⟩ g3 g4
      · first | exact nn h | cases h
    | cons x r' =>
      simp only [takeF] at h
      split at h
      · rename_i hc
        cases h
        refine wpAny_execs_cons (wpAny_If (take_test bs C g1 g2 m0 rfl (by simp; (first | lia | omega)) fun s₂ q₂ => ?_))
        simp only [List.length_cons, Nat.zero_lt_succ, decide_true, if_true]
        have C₂ := C.next (q₂.none B) (S.box.keeps fun b o e => q₂.get e)
        refine one (wpAny_Return_some (take_pop C₂ m1 rfl ml rfl hc.1 hc.2 hli fun s₃ t₃ q₃ hb₃ => ?_))
        refine hR _ s₃ ⟨(sh.trans (q₂.none B).1).trans q₃.1, fun b o nb e => q₃.2 b o nb (q₂.get (hk b o e))⟩ hb₃ ⟨t₃, rfl⟩
      · first | exact nn h | cases h
  · first | exact nn hbody | cases hbody
end
end NN

/-! the law's draws -/
namespace NN
open PySem PySem.W PyProof.Rows PySem.Calls

noncomputable def withTake (P : Fns) : Fns := { P with take := takeF }
noncomputable def drawnF (P : Fns) (m : Int) (bx : List Int × Int) : Option (List Int × (List Int × Int)) :=
  match execS P fuel (mOf 2) T.lawDrawn ([some .box, some (.int m)] ++ List.replicate 3 none, some bx) with
  | some ((_, some bx'), .ret (.il l)) => some (l, bx')
  | _ => none
theorem drawn_inv {r : Rt} {l' : List Int} {b' : List Int × Int} (h : (match (generalizing := false) r with | some ((_, some bx'), .ret (.il l)) => some (l, bx') | _ => none) = some (l', b')) : ∃ σ', r = some ((σ', some b'), .ret (.il l')) := by
  cases r with
  | none => exact nn h
  | some p =>
    obtain ⟨⟨σ', b⟩, f⟩ := p
    cases b with
    | none => exact nn h
    | some b => cases f with
      | next => exact nn h
      | ret v => cases v <;> first | exact nn h | (obtain ⟨rfl, rfl⟩ := Prod.mk.inj (Option.some.inj h); exact ⟨σ', rfl⟩)
noncomputable def withDrawn (P : Fns) : Fns := { P with drawn := drawnF P }

section
variable {prog : Program} {w : PySem.World} {hB : Heap} {fnA : Str → Option Addr} {k : Nat} {P : Fns}
theorem fnsOk_take (bs : Base hB fnA) (hF : FnsOk prog w hB fnA k P) {a : Addr} (ha : fnA "_law_take" = some a) (hf : FnAt hB (theRec "_law_take") a) (hbind : bindsOk (theRec "_law_take") ["box", "limit"]) : FnsOk prog w hB fnA (k + 2) (withTake P) :=
  let h2 := hF.le (Nat.le_add_right k 2)
  ⟨h2.fn, fun m bx r bx' e => ⟨a, ha, contract_take bs hF hf hbind e⟩, h2.drawn⟩
theorem fnsOk_drawn (bs : Base hB fnA) (hF : FnsOk prog w hB fnA k P) {a : Addr} (ha : fnA "_law_drawn" = some a) (hf : FnAt hB (theRec "_law_drawn") a) (hbind : bindsOk (theRec "_law_drawn") ["box", "w"]) : FnsOk prog w hB fnA (k + 2) (withDrawn P) := by
  have h2 := hF.le (Nat.le_add_right k 2)
  refine ⟨h2.fn, h2.take, fun m bx r bx' e => ⟨a, ha, ?_⟩⟩
  have e : drawnF P m bx = some (r, bx') := e
  unfold drawnF at e
  have hfit := fit_law_drawn
  unfold fitsB fits at hfit
  rw [Bool.and_eq_true] at hfit
  obtain ⟨σ', he⟩ := drawn_inv e
  exact contractB_of bs hF hf hfit.1 hbind hfit.2 rfl he
end

/-- a box to draw from -/
noncomputable def Bg (bx : List Int × Int) : Prop := bx.1.length ≤ 40 ∧ 0 ≤ bx.2 ∧ bx.2 < 1000003
theorem take_ok {m : Int} {bx : List Int × Int} (hm : 0 < m) (hb : Bg bx) : ∃ r bx', takeF m bx = some (r, bx') ∧ 0 ≤ r ∧ r < m ∧ Bg bx' := by
  obtain ⟨l, n⟩ := bx
  obtain ⟨h1, h2, h3⟩ := hb
  cases l with
  | nil =>
    refine ⟨(n * 4093 + 12289) % 1000003 / 8 % m, ([], (n * 4093 + 12289) % 1000003), if_pos ⟨hm, h2, h3⟩, Int.emod_nonneg _ (by (first | lia | omega)), Int.emod_lt_of_pos _ hm, Nat.zero_le _, Int.emod_nonneg _ (by decide), Int.emod_lt_of_pos _ (by decide)⟩
  | cons x r =>
    have : r.length + 1 ≤ 40 := h1
    refine ⟨x % m, (r, n), if_pos ⟨hm, by (first | lia | omega)⟩, Int.emod_nonneg _ (by (first | lia | omega)), Int.emod_lt_of_pos _ hm, by show r.length ≤ 40; (first | lia | omega), h2, h3⟩

theorem ev_take {P : Fns} {x : Nat} {e : E} {s : Ev} {b : Bx} {m r : Int} {bx bx' : List Int × Int} (hx : gt s x = some .box) (he : evalE P e s b = some (.int m, some bx)) (ht : P.take m bx = some (r, bx')) : evalE P (.take x e) s b = some (.int r, some bx') := by
  rw [evr_take, hx]
  dsimp only
  rw [he]
  dsimp only
  rw [ht]
  rfl
theorem ev_drawn {P : Fns} {x : Nat} {e : E} {s : Ev} {b : Bx} {m : Int} {r : List Int} {bx bx' : List Int × Int} (hx : gt s x = some .box) (he : evalE P e s b = some (.int m, some bx)) (ht : P.drawn m bx = some (r, bx')) : evalE P (.drawn x e) s b = some (.il r, some bx') := by
  rw [evr_drawn, hx]
  dsimp only
  rw [he]
  dsimp only
  rw [ht]
  rfl

noncomputable def SpDrawn (D : Int → (List Int × Int) → Option (List Int × (List Int × Int))) : Prop := ∀ (w : Nat) (bx : List Int × Int), w ≤ 9 → 1 ≤ w → Bg bx → ∃ l bx', D w bx = some (l, bx') ∧ Bg bx' ∧ Nf (2 ^ w) l ∧ l.length ≤ 9
end NN

/-! the law's draws: rows -/
namespace NN
open PySem

theorem vNe_nil {x : List Int} (h : (x.length : Int) ≤ 100000) : vCmp .ne (.il x) (.il []) = some (.bool (decide (x ≠ []))) := vNe_il ⟨h, by decide⟩

inductive DrJ (w : Nat) (z3 : Option V) (z4 : Option V) (bxi : List Int × Int) (n : Nat) (s : St) : Prop
  | mk (g : List Int) (h0 : s = ([some .box, some (.int w), some (.il g), z3, z4], some bxi)) (h1 : g.length = n) (h2 : n ≤ 9) (h3 : Dg (2 ^ w) g) : DrJ w z3 z4 bxi n s
inductive DrI (w : Nat) (i : Nat) (s : St) : Prop
  | mk (f : List Int) (bxi : List Int × Int) (z3 z4 : Option V) (h0 : s = ([some .box, some (.int w), some (.il f), z3, z4], some bxi)) (h1 : Bg bxi) (h2 : f.length = i) (h3 : Dg (2 ^ w) f) : DrI w i s
theorem sp_drawn (P : Fns) (ht : P.take = takeF) : SpDrawn (drawnF P) := fun w bx hw9 hw1 hbx => by
  have hb := pow_bounds hw9 hw1
  have key : Wp P fuel (mOf 2) T.lawDrawn ([some .box, some (.int w), none, none, none], some bx) (fun s f => ∃ bx' l, s.2 = some bx' ∧ f = .ret (.il l) ∧ Bg bx' ∧ Nf (2 ^ w) l ∧ l.length ≤ 9) := by
    obtain ⟨n, bx₁, h1, hn0, hn10, hb1⟩ := take_ok (m := 10) (by decide) hbx
    unfold T.lawDrawn
    (repeat (first | (simp (disch := first | lia | omega) only [thenQ_ret, loopQ_next, loopQ_ret, wp_skip, wp_asg, wp_asg2, wp_asg3, wp_aug, wp_ite, wp_ret, wp_app, wp_pop, wp_setI, wp_augI, wp_setB, op_add, op_sub, op_mul_s, op_mul, op_fdiv, op_mod, op_shl, op_shr, op_band, cm_lt, cm_le, cm_gt, cm_ge, cm_eq, cm_ne, ev_int, ev_bool, ev_var, ev_bin, ev_cmp, ev_not, ev_and, ev_or, ev_ife, ev_idx, ev_upto, ev_from1, ev_all, ev_rev, ev_cat, ev_rep, ev_lit0, ev_lit1, ev_lst1, ev_rows2, ev_call1, ev_call2, ev_call3, ev_call4, ev_len, ev_min2, ev_sum, ev_toInt, ev_toList, ev_range1, ev_range3, ev_zip, ev_enum, op1_some', op1_none', vBin_int, vCmp_int, vNot_bool, vIdx_il, vUpto_il, vUpto_arg, vList_il', vCat_il, vRep_il, vMin_int, vLst1_int, vRows2_il, vSum_il, vToInt_int, vZip_il, vEnum_il, vRange_1, vRange_dn, asg_int, asg_il, ret_int, ret_bool, ret_il, ret_fresh, own_var, fr_var, fr_idx, fr_upto, fr_from1, fr_all, fr_rev, fr_cat, fr_rep, fr_lit, fr_lst1, fr_call1, fr_call2, fr_call3, fr_call4, fr_toList, fr_drawn, fr_comp, gt, pt, inEv, Option.map_some, Option.map_none, List.length_cons, List.length_nil, Nat.reduceAdd, Nat.reduceLT, decide_true, decide_false, decide_eq_true_eq, Bool.or_true, Bool.true_or, Bool.false_or, Bool.or_false, Int.toNat_natCast, and_self, true_and, and_true, if_true, if_false, Bool.false_eq_true, Bool.true_and, Bool.and_true, Nat.reduceBEq, bne_self_eq_false, Nat.reduceBNe, mOf, cap]) | rw [thenQ_next] | rw [wp_seq] | simp only [wp_seq, thenQ_next]))
    refine wp_for1 (l := rangeL 0 1 n.toNat) (b₁ := some bx₁) (DrI w) (.inr ?_) rfl rfl ?_ ⟨[], bx₁, none, none, rfl, hb1, rfl, dg_nil⟩ ?_
    · have e1 : evalE P (.take 0 (T.i 10)) [some .box, some (.int w), some (.il []), none, none] (some bx) = some (.int n, some bx₁) := ev_take rfl rfl (by rw [ht]; exact h1)
      (repeat (first | (simp (disch := first | lia | omega) only [thenQ_ret, loopQ_next, loopQ_ret, wp_skip, wp_asg, wp_asg2, wp_asg3, wp_aug, wp_ite, wp_ret, wp_app, wp_pop, wp_setI, wp_augI, wp_setB, op_add, op_sub, op_mul_s, op_mul, op_fdiv, op_mod, op_shl, op_shr, op_band, cm_lt, cm_le, cm_gt, cm_ge, cm_eq, cm_ne, ev_int, ev_bool, ev_var, ev_bin, ev_cmp, ev_not, ev_and, ev_or, ev_ife, ev_idx, ev_upto, ev_from1, ev_all, ev_rev, ev_cat, ev_rep, ev_lit0, ev_lit1, ev_lst1, ev_rows2, ev_call1, ev_call2, ev_call3, ev_call4, ev_len, ev_min2, ev_sum, ev_toInt, ev_toList, ev_range1, ev_range3, ev_zip, ev_enum, op1_some', op1_none', vBin_int, vCmp_int, vNot_bool, vIdx_il, vUpto_il, vUpto_arg, vList_il', vCat_il, vRep_il, vMin_int, vLst1_int, vRows2_il, vSum_il, vToInt_int, vZip_il, vEnum_il, vRange_1, vRange_dn, asg_int, asg_il, ret_int, ret_bool, ret_il, ret_fresh, own_var, fr_var, fr_idx, fr_upto, fr_from1, fr_all, fr_rev, fr_cat, fr_rep, fr_lit, fr_lst1, fr_call1, fr_call2, fr_call3, fr_call4, fr_toList, fr_drawn, fr_comp, gt, pt, inEv, Option.map_some, Option.map_none, List.length_cons, List.length_nil, Nat.reduceAdd, Nat.reduceLT, decide_true, decide_false, decide_eq_true_eq, Bool.or_true, Bool.true_or, Bool.false_or, Bool.or_false, Int.toNat_natCast, and_self, true_and, and_true, if_true, if_false, Bool.false_eq_true, Bool.true_and, Bool.and_true, Nat.reduceBEq, bne_self_eq_false, Nat.reduceBNe, mOf, cap, e1]) | rw [thenQ_next] | rw [wp_seq] | simp only [wp_seq, thenQ_next]))
    · rintro i x σ b hi ⟨f, bxi, z3, z4, hs, hbi, hf, hd⟩
      cases hs
      obtain ⟨hin, rfl⟩ := rangeL_idx hi
      obtain ⟨m, bx₂, h2, hm0, hm4, hb2⟩ := take_ok (m := 4) (by decide) hbi
      have e1 : evalE P (.take 0 (T.i 4)) [some .box, some (.int w), some (.il f), some (.int (0 + (i : Int) * 1)), z4] (some bxi) = some (.int m, some bx₂) := ev_take rfl rfl (by rw [ht]; exact h2)
      obtain ⟨q, bx₃, h3, hq0, hqb, hb3⟩ := take_ok (m := 1 * 2 ^ w) (by (first | lia | omega)) hb2
      have e2 : evalE P (.take 0 (T.shl (T.i 1) (T.v 1))) [some .box, some (.int w), some (.il f), some (.int (0 + (i : Int) * 1)), some (.int m)] (some bx₂) = some (.int q, some bx₃) := by
        refine ev_take rfl ?_ (by rw [ht]; exact h3)
        (repeat (first | (simp (disch := first | lia | omega) only [thenQ_ret, loopQ_next, loopQ_ret, wp_skip, wp_asg, wp_asg2, wp_asg3, wp_aug, wp_ite, wp_ret, wp_app, wp_pop, wp_setI, wp_augI, wp_setB, op_add, op_sub, op_mul_s, op_mul, op_fdiv, op_mod, op_shl, op_shr, op_band, cm_lt, cm_le, cm_gt, cm_ge, cm_eq, cm_ne, ev_int, ev_bool, ev_var, ev_bin, ev_cmp, ev_not, ev_and, ev_or, ev_ife, ev_idx, ev_upto, ev_from1, ev_all, ev_rev, ev_cat, ev_rep, ev_lit0, ev_lit1, ev_lst1, ev_rows2, ev_call1, ev_call2, ev_call3, ev_call4, ev_len, ev_min2, ev_sum, ev_toInt, ev_toList, ev_range1, ev_range3, ev_zip, ev_enum, op1_some', op1_none', vBin_int, vCmp_int, vNot_bool, vIdx_il, vUpto_il, vUpto_arg, vList_il', vCat_il, vRep_il, vMin_int, vLst1_int, vRows2_il, vSum_il, vToInt_int, vZip_il, vEnum_il, vRange_1, vRange_dn, asg_int, asg_il, ret_int, ret_bool, ret_il, ret_fresh, own_var, fr_var, fr_idx, fr_upto, fr_from1, fr_all, fr_rev, fr_cat, fr_rep, fr_lit, fr_lst1, fr_call1, fr_call2, fr_call3, fr_call4, fr_toList, fr_drawn, fr_comp, gt, pt, inEv, Option.map_some, Option.map_none, List.length_cons, List.length_nil, Nat.reduceAdd, Nat.reduceLT, decide_true, decide_false, decide_eq_true_eq, Bool.or_true, Bool.true_or, Bool.false_or, Bool.or_false, Int.toNat_natCast, and_self, true_and, and_true, if_true, if_false, Bool.false_eq_true, Bool.true_and, Bool.and_true, Nat.reduceBEq, bne_self_eq_false, Nat.reduceBNe, mOf, cap]) | rw [thenQ_next] | rw [wp_seq] | simp only [wp_seq, thenQ_next]))
      (repeat (first | (simp (disch := first | lia | omega) only [thenQ_ret, loopQ_next, loopQ_ret, wp_skip, wp_asg, wp_asg2, wp_asg3, wp_aug, wp_ite, wp_ret, wp_app, wp_pop, wp_setI, wp_augI, wp_setB, op_add, op_sub, op_mul_s, op_mul, op_fdiv, op_mod, op_shl, op_shr, op_band, cm_lt, cm_le, cm_gt, cm_ge, cm_eq, cm_ne, ev_int, ev_bool, ev_var, ev_bin, ev_cmp, ev_not, ev_and, ev_or, ev_ife, ev_idx, ev_upto, ev_from1, ev_all, ev_rev, ev_cat, ev_rep, ev_lit0, ev_lit1, ev_lst1, ev_rows2, ev_call1, ev_call2, ev_call3, ev_call4, ev_len, ev_min2, ev_sum, ev_toInt, ev_toList, ev_range1, ev_range3, ev_zip, ev_enum, op1_some', op1_none', vBin_int, vCmp_int, vNot_bool, vIdx_il, vUpto_il, vUpto_arg, vList_il', vCat_il, vRep_il, vMin_int, vLst1_int, vRows2_il, vSum_il, vToInt_int, vZip_il, vEnum_il, vRange_1, vRange_dn, asg_int, asg_il, ret_int, ret_bool, ret_il, ret_fresh, own_var, fr_var, fr_idx, fr_upto, fr_from1, fr_all, fr_rev, fr_cat, fr_rep, fr_lit, fr_lst1, fr_call1, fr_call2, fr_call3, fr_call4, fr_toList, fr_drawn, fr_comp, gt, pt, inEv, Option.map_some, Option.map_none, List.length_cons, List.length_nil, Nat.reduceAdd, Nat.reduceLT, decide_true, decide_false, decide_eq_true_eq, Bool.or_true, Bool.true_or, Bool.false_or, Bool.or_false, Int.toNat_natCast, and_self, true_and, and_true, if_true, if_false, Bool.false_eq_true, Bool.true_and, Bool.and_true, Nat.reduceBEq, bne_self_eq_false, Nat.reduceBNe, mOf, cap, e1, e2]) | rw [thenQ_next] | rw [wp_seq] | simp only [wp_seq, thenQ_next]))
      by_cases c1 : m = 1
      · rw [if_pos c1]
        exact ⟨by (first | lia | omega), _, _, _, _, rfl, hb2, by simp [hf], dg_append hd (dg_one (by (first | lia | omega)))⟩
      · rw [if_neg c1]
        by_cases c2 : m = 2
        · rw [if_pos c2]
          exact ⟨by (first | lia | omega), _, _, _, _, rfl, hb2, by simp [hf], dg_append hd (dg_one (by (first | lia | omega)))⟩
        · rw [if_neg c2]
          exact ⟨by (first | lia | omega), _, _, _, _, rfl, hb3, by simp [hf], dg_append hd (dg_one (by (first | lia | omega)))⟩
    · rintro s ⟨f, bxi, z3, z4, rfl, hbi, hf, hd⟩
      rw [rangeL_len] at hf
      (repeat (first | (simp (disch := first | lia | omega) only [thenQ_ret, loopQ_next, loopQ_ret, wp_skip, wp_asg, wp_asg2, wp_asg3, wp_aug, wp_ite, wp_ret, wp_app, wp_pop, wp_setI, wp_augI, wp_setB, op_add, op_sub, op_mul_s, op_mul, op_fdiv, op_mod, op_shl, op_shr, op_band, cm_lt, cm_le, cm_gt, cm_ge, cm_eq, cm_ne, ev_int, ev_bool, ev_var, ev_bin, ev_cmp, ev_not, ev_and, ev_or, ev_ife, ev_idx, ev_upto, ev_from1, ev_all, ev_rev, ev_cat, ev_rep, ev_lit0, ev_lit1, ev_lst1, ev_rows2, ev_call1, ev_call2, ev_call3, ev_call4, ev_len, ev_min2, ev_sum, ev_toInt, ev_toList, ev_range1, ev_range3, ev_zip, ev_enum, op1_some', op1_none', vBin_int, vCmp_int, vNot_bool, vIdx_il, vUpto_il, vUpto_arg, vList_il', vCat_il, vRep_il, vMin_int, vLst1_int, vRows2_il, vSum_il, vToInt_int, vZip_il, vEnum_il, vRange_1, vRange_dn, asg_int, asg_il, ret_int, ret_bool, ret_il, ret_fresh, own_var, fr_var, fr_idx, fr_upto, fr_from1, fr_all, fr_rev, fr_cat, fr_rep, fr_lit, fr_lst1, fr_call1, fr_call2, fr_call3, fr_call4, fr_toList, fr_drawn, fr_comp, gt, pt, inEv, Option.map_some, Option.map_none, List.length_cons, List.length_nil, Nat.reduceAdd, Nat.reduceLT, decide_true, decide_false, decide_eq_true_eq, Bool.or_true, Bool.true_or, Bool.false_or, Bool.or_false, Int.toNat_natCast, and_self, true_and, and_true, if_true, if_false, Bool.false_eq_true, Bool.true_and, Bool.and_true, Nat.reduceBEq, bne_self_eq_false, Nat.reduceBNe, mOf, cap]) | rw [thenQ_next] | rw [wp_seq] | simp only [wp_seq, thenQ_next]))
      refine wp_while (DrJ w z3 z4 bxi) ?_ f.length (by show f.length < 100000; (first | lia | omega)) ⟨f, rfl, rfl, by (first | lia | omega), hd⟩
      rintro n σ b ⟨g, hs, hg, hn9, hdg⟩
      cases hs
      by_cases hg0 : g = []
      · subst hg0
        (repeat (first | (simp (disch := first | lia | omega) only [thenQ_ret, loopQ_next, loopQ_ret, wp_skip, wp_asg, wp_asg2, wp_asg3, wp_aug, wp_ite, wp_ret, wp_app, wp_pop, wp_setI, wp_augI, wp_setB, op_add, op_sub, op_mul_s, op_mul, op_fdiv, op_mod, op_shl, op_shr, op_band, cm_lt, cm_le, cm_gt, cm_ge, cm_eq, cm_ne, ev_int, ev_bool, ev_var, ev_bin, ev_cmp, ev_not, ev_and, ev_or, ev_ife, ev_idx, ev_upto, ev_from1, ev_all, ev_rev, ev_cat, ev_rep, ev_lit0, ev_lit1, ev_lst1, ev_rows2, ev_call1, ev_call2, ev_call3, ev_call4, ev_len, ev_min2, ev_sum, ev_toInt, ev_toList, ev_range1, ev_range3, ev_zip, ev_enum, op1_some', op1_none', vBin_int, vCmp_int, vNot_bool, vIdx_il, vUpto_il, vUpto_arg, vList_il', vCat_il, vRep_il, vMin_int, vLst1_int, vRows2_il, vSum_il, vToInt_int, vZip_il, vEnum_il, vRange_1, vRange_dn, asg_int, asg_il, ret_int, ret_bool, ret_il, ret_fresh, own_var, fr_var, fr_idx, fr_upto, fr_from1, fr_all, fr_rev, fr_cat, fr_rep, fr_lit, fr_lst1, fr_call1, fr_call2, fr_call3, fr_call4, fr_toList, fr_drawn, fr_comp, gt, pt, inEv, Option.map_some, Option.map_none, List.length_cons, List.length_nil, Nat.reduceAdd, Nat.reduceLT, decide_true, decide_false, decide_eq_true_eq, Bool.or_true, Bool.true_or, Bool.false_or, Bool.or_false, Int.toNat_natCast, and_self, true_and, and_true, if_true, if_false, Bool.false_eq_true, Bool.true_and, Bool.and_true, Nat.reduceBEq, bne_self_eq_false, Nat.reduceBNe, mOf, cap, vNe_nil]) | rw [thenQ_next] | rw [wp_seq] | simp only [wp_seq, thenQ_next]))
        refine ⟨false, some bxi, by simp, fun _ => ⟨bxi, [], rfl, rfl, hbi, ⟨dg_nil, rfl⟩, by simp⟩, fun h => by cases h⟩
      · have hlen : 0 < g.length := List.length_pos_iff.mpr hg0
        obtain ⟨r, x, rfl⟩ : ∃ r x, g = r ++ [x] := ⟨g.dropLast, g.getLast hg0, (List.dropLast_concat_getLast hg0).symm⟩
        have e1 : (r ++ [x]).getD (((r ++ [x]).length : Int) - 1).toNat 0 = x := by
          rw [List.length_append, List.length_singleton]
          have : (((r.length + 1 : Nat) : Int) - 1).toNat = r.length := by (first | lia | omega)
          rw [this, List.getD_eq_getElem?_getD, List.getElem?_append_right (Nat.le_refl _)]
          simp
        (repeat (first | (simp (disch := first | lia | omega) only [thenQ_ret, loopQ_next, loopQ_ret, wp_skip, wp_asg, wp_asg2, wp_asg3, wp_aug, wp_ite, wp_ret, wp_app, wp_pop, wp_setI, wp_augI, wp_setB, op_add, op_sub, op_mul_s, op_mul, op_fdiv, op_mod, op_shl, op_shr, op_band, cm_lt, cm_le, cm_gt, cm_ge, cm_eq, cm_ne, ev_int, ev_bool, ev_var, ev_bin, ev_cmp, ev_not, ev_and, ev_or, ev_ife, ev_idx, ev_upto, ev_from1, ev_all, ev_rev, ev_cat, ev_rep, ev_lit0, ev_lit1, ev_lst1, ev_rows2, ev_call1, ev_call2, ev_call3, ev_call4, ev_len, ev_min2, ev_sum, ev_toInt, ev_toList, ev_range1, ev_range3, ev_zip, ev_enum, op1_some', op1_none', vBin_int, vCmp_int, vNot_bool, vIdx_il, vUpto_il, vUpto_arg, vList_il', vCat_il, vRep_il, vMin_int, vLst1_int, vRows2_il, vSum_il, vToInt_int, vZip_il, vEnum_il, vRange_1, vRange_dn, asg_int, asg_il, ret_int, ret_bool, ret_il, ret_fresh, own_var, fr_var, fr_idx, fr_upto, fr_from1, fr_all, fr_rev, fr_cat, fr_rep, fr_lit, fr_lst1, fr_call1, fr_call2, fr_call3, fr_call4, fr_toList, fr_drawn, fr_comp, gt, pt, inEv, Option.map_some, Option.map_none, List.length_cons, List.length_nil, Nat.reduceAdd, Nat.reduceLT, decide_true, decide_false, decide_eq_true_eq, Bool.or_true, Bool.true_or, Bool.false_or, Bool.or_false, Int.toNat_natCast, and_self, true_and, and_true, if_true, if_false, Bool.false_eq_true, Bool.true_and, Bool.and_true, Nat.reduceBEq, bne_self_eq_false, Nat.reduceBNe, mOf, cap, vNe_nil, e1, hg0, ne_eq, not_false_eq_true]) | rw [thenQ_next] | rw [wp_seq] | simp only [wp_seq, thenQ_next]))
        have hrl : r.length + 1 = n := by rw [← hg, List.length_append, List.length_singleton]
        refine ⟨decide (x = 0), some bxi, rfl, fun hz => ?_, fun _ => ⟨by (first | lia | omega), r.length, by (first | lia | omega), r, by rw [List.dropLast_concat], rfl, by (first | lia | omega), fun y hy => hdg y (List.mem_append_left _ hy)⟩⟩
        have hz := of_decide_eq_false hz
        exact ⟨bxi, _, rfl, rfl, hbi, ⟨hdg, norm_last hz⟩, by (first | lia | omega)⟩
  obtain ⟨s', f, e, bx', l, h1, rfl, h2, h3, h4⟩ := key
  obtain ⟨σ', b'⟩ := s'
  dsimp only at h1
  subst h1
  refine ⟨l, bx', ?_, h2, h3, h4⟩
  unfold drawnF
  have e' : execS P fuel (mOf 2) T.lawDrawn ([some .box, some (.int w)] ++ List.replicate 3 none, some bx) = some ((σ', some bx'), .ret (.il l)) := e
  rw [e']
end NN

/-! the law: its comprehensions, what it leans on -/
namespace NN
open PySem

section
variable {P : Fns} {s : Ev} {b b₁ : Bx} {src : E}

theorem compLoop_two {f : Ev → Bx → Option (Option V × Bx)} {e : Ev} {r : List Ev} {b b' b'' : Bx} {v : Option V} {vs : List V} (h : f e b = some (v, b')) (h2 : compLoop f r b' = some (vs, b'')) : compLoop f (e :: r) b = some (v.toList ++ vs, b'') := by
  simp only [compLoop, h, h2]

theorem loop_take (ht : P.take = takeF) : ∀ (xs : List Int) (bx : List Int × Int), Bg bx → ∃ (l : List Int) (bx' : List Int × Int),
    compLoop (fun e b' => match evalE P (.bool true) (e ++ [some V.box]) b' with
            | some (.bool true, b₂) => (match evalE P (.take 1 (T.i 5000)) (e ++ [some V.box]) b₂ with | some (v, b₃) => if eltOk v then some (some v, b₃) else none | none => none)
            | some (.bool false, b₂) => some (none, b₂)
            | _ => none) (xs.map fun i => [some (.int i)]) (some bx) = some (l.map V.int, some bx') ∧ Bg bx' ∧ l.length = xs.length ∧ ∀ x ∈ l, 0 ≤ x ∧ x < 5000
  | [], bx, hb => ⟨[], bx, rfl, hb, rfl, fun _ h => nomatch h⟩
  | x :: xs, bx, hb => by
    obtain ⟨r, bx₁, h1, h2, h3, h4⟩ := take_ok (m := 5000) (by decide) hb
    obtain ⟨l, bx', e, g1, g2, g3⟩ := loop_take ht xs bx₁ h4
    refine ⟨r :: l, bx', ?_, g1, by simp [g2], fun y hy => ?_⟩
    · have e1 : evalE P (.take 1 (T.i 5000)) ([some (.int x)] ++ [some V.box]) (some bx) = some (.int r, some bx₁) := ev_take rfl rfl (by rw [ht]; exact h1)
      exact compLoop_two (v := some (.int r)) (by
        show (match evalE P (.take 1 (T.i 5000)) ([some (.int x)] ++ [some V.box]) (some bx) with | some (v, b₃) => if eltOk v then some (some v, b₃) else none | none => none) = _
        rw [e1]; rfl) e
    · rcases List.mem_cons.mp hy with rfl | hy
      · exact ⟨h2, h3⟩
      · exact g3 y hy

theorem ev_comp_take (ht : P.take = takeF) {n : Nat} {bx : List Int × Int} (hn : n ≤ 100) (hb : Bg bx) :
    ∃ l bx', (∀ (src : E) (s : Ev) (b : Bx), evalE P src s b = some (.rng (rangeL 0 1 n), some bx) → gt s 1 = some .box → evalE P (.comp false false src (.bool true) (.take 1 (T.i 5000)) [1]) s b = some (.il l, some bx')) ∧ Bg bx' ∧ l.length = n ∧ ∀ x ∈ l, 0 ≤ x ∧ x < 5000 := by
  obtain ⟨l, bx', e, g1, g2, g3⟩ := loop_take ht (rangeL 0 1 n) bx hb
  refine ⟨l, bx', fun src s b hs hbox => ?_, g1, by rw [g2, rangeL_len], g3⟩
  have hi : itemsOf false (.rng (rangeL 0 1 n)) = some ((rangeL 0 1 n).map fun i => [some (.int i)]) := rfl
  have hc : ((rangeL 0 1 n).map fun i : Int => [some (V.int i)]).length ≤ cap := by rw [List.length_map, rangeL_len]; show n ≤ 100000; (first | lia | omega)
  have hf : (E.take 1 (T.i 5000)).fresh = true := rfl
  have hp : pack false (l.map V.int) = some (.il l) := by
    unfold pack
    rw [if_neg (by decide), packI_ints']; rfl
  have hbb : [1].map (gt s) = [some V.box] := by rw [List.map_cons, hbox]; rfl
  rw [evr_comp]
  simp only [hs, hi, hf, hc, decide_true, Bool.and_true, if_true, hbb]
  exact (congrArg (fun q : Option (List V × Bx) => match q with | none => none | some (vs, b₂) => (pack false vs).map (·, b₂)) e).trans (by show (pack false (l.map V.int)).map (·, some bx') = _; rw [hp])

theorem ev_comp_none {cond elt : E} {u : V} {its : List Ev} (hs : evalE P src s b = some (u, b₁)) (hi : itemsOf true u = some its) (hc : its.length ≤ cap) (hf : elt.fresh = true)
    (he : ∀ e ∈ its, evalE P cond (e ++ []) b₁ = some (.bool false, b₁)) : evalE P (.comp false true src cond elt []) s b = some (.il [], b₁) := by
  have loop : ∀ its : List Ev, (∀ e ∈ its, evalE P cond (e ++ []) b₁ = some (.bool false, b₁)) → compLoop (fun e b' => match evalE P cond (e ++ [].map (gt s)) b' with
            | some (.bool true, b₂) => (match evalE P elt (e ++ [].map (gt s)) b₂ with | some (v, b₃) => if eltOk v then some (some v, b₃) else none | none => none)
            | some (.bool false, b₂) => some (none, b₂)
            | _ => none) its b₁ = some ([], b₁) := by
    intro its
    induction its with
    | nil => intro _; rfl
    | cons e r ih =>
      intro he
      have h1 := he e (.head _)
      have h2 := ih fun e h => he e (.tail _ h)
      simp only [List.map_nil] at h2 ⊢
      simp only [compLoop, h1, h2]
      rfl
  have := loop its he
  rw [evr_comp]
  simp only [hs, hi, hf, hc, decide_true, Bool.and_true, if_true]
  exact (congrArg (fun q : Option (List V × Bx) => match q with | none => none | some (vs, b₂) => (pack false vs).map (·, b₂)) this).trans rfl

theorem enumL_getv {l : List Int} {i : Nat} {p : Int × Int} (h : (enumL l)[i]? = some p) : i < l.length ∧ p = ((i : Int), l.getD i 0) := by
  unfold enumL at h
  rw [List.getElem?_map] at h
  have hlt : i < l.length := by
    cases hr : (List.range l.length)[i]? with
    | none => rw [hr] at h; first | exact nn h | cases h
    | some i => have := (List.getElem?_eq_some_iff.mp hr).1; simpa using this
  rw [List.getElem?_range hlt] at h
  exact ⟨hlt, (Option.some.inj h).symm⟩

theorem sum_val (b : Int) (l : List Int) : ∀ n : Nat, n ≤ l.length → ((List.range n).map fun i : Nat => l.getD i 0 * b ^ i).sum = val b (l.take n)
  | 0, _ => by simp [val]
  | n + 1, h => by
    rw [List.range_succ, List.map_append, List.sum_append, sum_val b l n (by (first | lia | omega)), take_snoc (by (first | lia | omega)), val_snoc, List.length_take, Nat.min_eq_left (by (first | lia | omega))]
    simp [Int.mul_comm]

noncomputable def shifts (w : Nat) (l : List Int) : List Int := (enumL l).map fun p => p.2 * ((2 : Int) ^ w) ^ p.1.toNat
theorem shifts_sum (w : Nat) (l : List Int) : (shifts w l).sum = val (2 ^ w) l := by
  have hs := sum_val ((2 : Int) ^ w) l l.length (Nat.le_refl _)
  rw [List.take_length] at hs
  rw [← hs]
  unfold shifts enumL
  rw [List.map_map]
  rfl
theorem ev_shifts {l : List Int} {w : Nat} (hw : w ≤ 9) (hl : l.length ≤ 10) (hb : ∀ x ∈ l, 0 ≤ x ∧ x < 5000) (h14 : gt s 14 = some (.il l)) (h3 : gt s 3 = some (.int w)) :
    evalE P (.comp false true (.enum (T.v 14)) (.bool true) (T.shl (T.v 1) (T.mul (T.v 2) (T.v 0))) [3]) s b = some (.il (shifts w l), b) := by
  have hlc : (l.length : Int) ≤ 100000 := by (first | lia | omega)
  exact ev_comp (P := P) (rw := false) (two := true) (src := .enum (T.v 14)) (elt := T.shl (T.v 1) (T.mul (T.v 2) (T.v 0))) (caps := [3]) (s := s) (b := b) (b₁ := b) (u := .prs (enumL l))
    (r := .il (shifts w l)) (its := (enumL l).map fun p => [some (.int p.1), some (.int p.2)]) ((shifts w l).map V.int)
    (by rw [ev_enum, ev_var, h14, Option.map_some, op1_some', vEnum_il hlc]; rfl) rfl (by rw [List.length_map, enumL_len]; show l.length ≤ 100000; (first | lia | omega)) rfl (by simp [shifts])
    (fun i e v h h' => by
      unfold shifts at h'
      rw [List.getElem?_map] at h
      rw [List.getElem?_map, List.getElem?_map] at h'
      cases hx : (enumL l)[i]? with
      | none => rw [hx] at h; first | exact nn h | cases h
      | some p =>
        rw [hx] at h h'
        cases h; first | exact nn h' | cases h'
        obtain ⟨hi, rfl⟩ := enumL_getv hx
        refine ⟨?_, rfl⟩
        have hg := getD_bd (m := 5000) (by decide) (fun x hx => ⟨(hb x hx).1, Int.le_of_lt (hb x hx).2⟩) i
        show evalE P (T.shl (T.v 1) (T.mul (T.v 2) (T.v 0))) [some (.int (i : Int)), some (.int (l.getD i 0)), gt s 3] b = _
        rw [h3]
        have hwi : (w : Int) * (i : Int) = ((w * i : Nat) : Int) := by simp
        have hwi2 : w * i ≤ 9 * 10 := Nat.mul_le_mul hw (by (first | lia | omega))
        (repeat (first | (simp (disch := first | lia | omega) only [thenQ_ret, loopQ_next, loopQ_ret, wp_skip, wp_asg, wp_asg2, wp_asg3, wp_aug, wp_ite, wp_ret, wp_app, wp_pop, wp_setI, wp_augI, wp_setB, op_add, op_sub, op_mul_s, op_mul, op_fdiv, op_mod, op_shl, op_shr, op_band, cm_lt, cm_le, cm_gt, cm_ge, cm_eq, cm_ne, ev_int, ev_bool, ev_var, ev_bin, ev_cmp, ev_not, ev_and, ev_or, ev_ife, ev_idx, ev_upto, ev_from1, ev_all, ev_rev, ev_cat, ev_rep, ev_lit0, ev_lit1, ev_lst1, ev_rows2, ev_call1, ev_call2, ev_call3, ev_call4, ev_len, ev_min2, ev_sum, ev_toInt, ev_toList, ev_range1, ev_range3, ev_zip, ev_enum, op1_some', op1_none', vBin_int, vCmp_int, vNot_bool, vIdx_il, vUpto_il, vUpto_arg, vList_il', vCat_il, vRep_il, vMin_int, vLst1_int, vRows2_il, vSum_il, vToInt_int, vZip_il, vEnum_il, vRange_1, vRange_dn, asg_int, asg_il, ret_int, ret_bool, ret_il, ret_fresh, own_var, fr_var, fr_idx, fr_upto, fr_from1, fr_all, fr_rev, fr_cat, fr_rep, fr_lit, fr_lst1, fr_call1, fr_call2, fr_call3, fr_call4, fr_toList, fr_drawn, fr_comp, gt, pt, inEv, Option.map_some, Option.map_none, List.length_cons, List.length_nil, Nat.reduceAdd, Nat.reduceLT, decide_true, decide_false, decide_eq_true_eq, Bool.or_true, Bool.true_or, Bool.false_or, Bool.or_false, Int.toNat_natCast, and_self, true_and, and_true, if_true, if_false, Bool.false_eq_true, Bool.true_and, Bool.and_true, Nat.reduceBEq, bne_self_eq_false, Nat.reduceBNe, mOf, cap, hwi]) | rw [thenQ_next] | rw [wp_seq] | simp only [wp_seq, thenQ_next]))
        rw [Int.pow_mul])
    (by unfold pack; rw [if_neg (by decide), packI_ints']; rfl)

theorem val_bd {b : Int} (hb : 0 ≤ b ∧ b ≤ 512) : ∀ {l : List Int}, (∀ x ∈ l, 0 ≤ x ∧ x < 5000) → 0 ≤ val b l ∧ val b l < 5000 * 513 ^ l.length
  | [], _ => ⟨Int.le_refl 0, by show (0 : Int) < 5000 * 1; decide⟩
  | x :: r, h => by
    have h1 := h x (.head _)
    have h2 := val_bd hb (l := r) fun y hy => h y (.tail _ hy)
    have h3 : 0 ≤ b * val b r := Int.mul_nonneg hb.1 h2.1
    have h4 : b * val b r ≤ 512 * val b r := Int.mul_le_mul_of_nonneg_right hb.2 h2.1
    have h5 : (0 : Int) < 513 ^ r.length := Int.pow_pos (by decide)
    rw [List.length_cons, Int.pow_succ]
    show 0 ≤ x + b * val b r ∧ x + b * val b r < _
    (first | lia | omega)
theorem pow513 {n : Nat} (h : n ≤ 5) : (513 : Int) ^ n ≤ 35530000000000 :=
  (by decide +kernel : ∀ n : Fin 6, (513 : Int) ^ n.val ≤ 35530000000000) ⟨n, Nat.lt_succ_of_le h⟩

end

structure Sps (P : Fns) : Prop where
  take : P.take = takeF
  drawn : SpDrawn P.drawn
  row : SpLawRow (P.fn "_law_row")
  of : SpLawOf (P.fn "_law_of")
  mul : SpMul (P.fn "mul_primes")
  primes : SpPrimesFor (P.fn "primes_for")
  settled : SpSettled (P.fn "settled")
  scaled : SpScaled (P.fn "scaled")
  size : SpSizeFor (P.fn "size_for")
end NN

/-! the law ends and says yes -/
namespace NN
open PySem

section
variable {P : Fns}
theorem ev_box1' {z0 : Option V} {r : Ev} {l : List Int} {k : Int} : evalE P (.box1 1) (z0 :: some .box :: r) (some (l, k)) = some (.int k, some (l, k)) := rfl
theorem ev_take' (ht : P.take = takeF) {m r : Int} {bx bx' : List Int × Int} (h : takeF m bx = some (r, bx')) (z0 : Option V) (rest : Ev) : evalE P (.take 1 (T.i m)) (z0 :: some .box :: rest) (some bx) = some (.int r, some bx') :=
  ev_take rfl rfl (by rw [ht]; exact h)
theorem ev_drawn' {w : Nat} {r : List Int} {bx bx' : List Int × Int} (h : P.drawn w bx = some (r, bx')) (z0 z2 : Option V) (rest : Ev) : evalE P (.drawn 1 (T.v 3)) (z0 :: some .box :: z2 :: some (.int w) :: rest) (some bx) = some (.il r, some bx') :=
  ev_drawn rfl rfl h

theorem vNe_rl {x y : List (List Int)} (h : (x.length : Int) ≤ 100000 ∧ (y.length : Int) ≤ 100000) (h1 : ∀ a ∈ x, a.length ≤ 100) (h2 : ∀ a ∈ y, a.length ≤ 100) : vCmp .ne (.rl x) (.rl y) = some (.bool (!decide (x = y))) := by
  have h1 : x.length ≤ cap ∧ y.length ≤ cap ∧ (∀ a ∈ x, a.length ≤ cap) ∧ (∀ a ∈ y, a.length ≤ cap) := ⟨by show x.length ≤ 100000; (first | lia | omega), by show y.length ≤ 100000; (first | lia | omega), fun a ha => Nat.le_trans (h1 a ha) (by decide), fun a ha => Nat.le_trans (h2 a ha) (by decide)⟩
  exact if_pos h1

theorem law_true (H : Sps P) (l : List Int) (hl : l.length ≤ 63) : Wp P fuel mNo T.law ([some (.arg l), some .box] ++ List.replicate 17 none, some (l.take 40, 7)) fun _ f => f = .ret (.bool true) := by
  show Wp P fuel mNo T.law ([some (.arg l), some .box, none, none, none, none, none, none, none, none, none, none, none, none, none, none, none, none, none], some (l.take 40, 7)) fun _ f => f = .ret (.bool true)
  have ht := H.take
  unfold T.law
  rw [wp_seq]
  refine wp_for1 (l := l.take 40) (b₁ := some (l.take 40, 7)) (fun i s => ∃ k z, s = ([some (.arg l), some .box, z, none, none, none, none, none, none, none, none, none, none, none, none, none, none, none, none], some (l.take 40, k)) ∧ 0 ≤ k ∧ k < 1000003) (.inl ?_) rfl rfl ?_ ⟨7, none, rfl, by decide, by decide⟩ ?_
  · (repeat (first | (simp (disch := first | lia | omega) only [thenQ_ret, loopQ_next, loopQ_ret, wp_skip, wp_asg, wp_asg2, wp_asg3, wp_aug, wp_ite, wp_ret, wp_app, wp_pop, wp_setI, wp_augI, wp_setB, op_add, op_sub, op_mul_s, op_mul, op_fdiv, op_mod, op_shl, op_shr, op_band, cm_lt, cm_le, cm_gt, cm_ge, cm_eq, cm_ne, ev_int, ev_bool, ev_var, ev_bin, ev_cmp, ev_not, ev_and, ev_or, ev_ife, ev_idx, ev_upto, ev_from1, ev_all, ev_rev, ev_cat, ev_rep, ev_lit0, ev_lit1, ev_lst1, ev_rows2, ev_call1, ev_call2, ev_call3, ev_call4, ev_len, ev_min2, ev_sum, ev_toInt, ev_toList, ev_range1, ev_range3, ev_zip, ev_enum, op1_some', op1_none', vBin_int, vCmp_int, vNot_bool, vIdx_il, vUpto_il, vUpto_arg, vList_il', vCat_il, vRep_il, vMin_int, vLst1_int, vRows2_il, vSum_il, vToInt_int, vZip_il, vEnum_il, vRange_1, vRange_dn, asg_int, asg_il, ret_int, ret_bool, ret_il, ret_fresh, own_var, fr_var, fr_idx, fr_upto, fr_from1, fr_all, fr_rev, fr_cat, fr_rep, fr_lit, fr_lst1, fr_call1, fr_call2, fr_call3, fr_call4, fr_toList, fr_drawn, fr_comp, gt, pt, inEv, Option.map_some, Option.map_none, List.length_cons, List.length_nil, Nat.reduceAdd, Nat.reduceLT, decide_true, decide_false, decide_eq_true_eq, Bool.or_true, Bool.true_or, Bool.false_or, Bool.or_false, Int.toNat_natCast, and_self, true_and, and_true, if_true, if_false, Bool.false_eq_true, Bool.true_and, Bool.and_true, Nat.reduceBEq, bne_self_eq_false, Nat.reduceBNe, mOf, cap]) | rw [thenQ_next] | rw [wp_seq] | simp only [wp_seq, thenQ_next]))
    rfl
  · rintro i n σ bx hi ⟨k, z, hs, hk⟩
    cases hs
    (repeat (first | (simp (disch := first | lia | omega) only [thenQ_ret, loopQ_next, loopQ_ret, wp_skip, wp_asg, wp_asg2, wp_asg3, wp_aug, wp_ite, wp_ret, wp_app, wp_pop, wp_setI, wp_augI, wp_setB, op_add, op_sub, op_mul_s, op_mul, op_fdiv, op_mod, op_shl, op_shr, op_band, cm_lt, cm_le, cm_gt, cm_ge, cm_eq, cm_ne, ev_int, ev_bool, ev_var, ev_bin, ev_cmp, ev_not, ev_and, ev_or, ev_ife, ev_idx, ev_upto, ev_from1, ev_all, ev_rev, ev_cat, ev_rep, ev_lit0, ev_lit1, ev_lst1, ev_rows2, ev_call1, ev_call2, ev_call3, ev_call4, ev_len, ev_min2, ev_sum, ev_toInt, ev_toList, ev_range1, ev_range3, ev_zip, ev_enum, op1_some', op1_none', vBin_int, vCmp_int, vNot_bool, vIdx_il, vUpto_il, vUpto_arg, vList_il', vCat_il, vRep_il, vMin_int, vLst1_int, vRows2_il, vSum_il, vToInt_int, vZip_il, vEnum_il, vRange_1, vRange_dn, asg_int, asg_il, ret_int, ret_bool, ret_il, ret_fresh, own_var, fr_var, fr_idx, fr_upto, fr_from1, fr_all, fr_rev, fr_cat, fr_rep, fr_lit, fr_lst1, fr_call1, fr_call2, fr_call3, fr_call4, fr_toList, fr_drawn, fr_comp, gt, pt, inEv, Option.map_some, Option.map_none, List.length_cons, List.length_nil, Nat.reduceAdd, Nat.reduceLT, decide_true, decide_false, decide_eq_true_eq, Bool.or_true, Bool.true_or, Bool.false_or, Bool.or_false, Int.toNat_natCast, and_self, true_and, and_true, if_true, if_false, Bool.false_eq_true, Bool.true_and, Bool.and_true, Nat.reduceBEq, bne_self_eq_false, Nat.reduceBNe, mOf, cap, ev_box1']) | rw [thenQ_next] | rw [wp_seq] | simp only [wp_seq, thenQ_next]))
    exact ⟨_, _, rfl, Int.emod_nonneg _ (by decide), Int.emod_lt_of_pos _ (by decide)⟩
  · rintro s ⟨k, z, rfl, hk⟩
    have hb0 : Bg (l.take 40, k) := ⟨by show (l.take 40).length ≤ 40; rw [List.length_take]; (first | lia | omega), hk⟩
    obtain ⟨n1, bx1, d1, h1, h1', hb1⟩ := take_ok (m := 8) (by decide) hb0
    obtain ⟨n2, bx2, d2, h2, h2', hb2⟩ := take_ok (m := 200) (by decide) hb1
    obtain ⟨w, hw⟩ : ∃ w : Nat, 2 + n1 = (w : Int) := Int.eq_ofNat_of_zero_le (by (first | lia | omega))
    obtain ⟨bd, hbd⟩ : ∃ w : Nat, 1 + n2 = (w : Int) := Int.eq_ofNat_of_zero_le (by (first | lia | omega))
    have hw9 : w ≤ 9 := by (first | lia | omega)
    have hw1 : 1 ≤ w := by (first | lia | omega)
    have hb := pow_bounds hw9 hw1
    obtain ⟨A, bx3, d3, hb3, hA, hAl⟩ := H.drawn w bx2 hw9 hw1 hb2
    obtain ⟨B, bx4, d4, hb4, hB, hBl⟩ := H.drawn w bx3 hw9 hw1 hb3
    obtain ⟨_, m1, l1, rfl, n1', v1⟩ := H.mul A B w bd hw9 hw1 (by (first | lia | omega)) hAl hBl hA.1 hB.1
    obtain ⟨_, m2, l2, rfl, n2', v2⟩ := H.mul B A w 1 hw9 hw1 (by decide) hBl hAl hB.1 hA.1
    obtain ⟨_, oA, rfl⟩ := H.of A w hw9 hw1 (by (first | lia | omega)) hA.1
    obtain ⟨_, oB, rfl⟩ := H.of B w hw9 hw1 (by (first | lia | omega)) hB.1
    have vA := val_lt ⟨by (first | lia | omega), hb.2⟩ hA.1
    have vB := val_lt ⟨by (first | lia | omega), hb.2⟩ hB.1
    have pA := pow512 (n := A.length) (by (first | lia | omega))
    have pB := pow512 (n := B.length) (by (first | lia | omega))
    have hAB : 0 ≤ val (2 ^ w) A * val (2 ^ w) B ∧ val (2 ^ w) A * val (2 ^ w) B < 2 ^ 300 := by
      refine ⟨Int.mul_nonneg vA.1 vB.1, ?_⟩
      have e1 : val (2 ^ w) A * val (2 ^ w) B ≤ 1237940039285380274899124224 * val (2 ^ w) B := Int.mul_le_mul_of_nonneg_right (by (first | lia | omega)) vB.1
      (first | lia | omega)
    obtain ⟨_, r1, l3, rfl, n3', v3, hl3⟩ := H.row (val (2 ^ w) A * val (2 ^ w) B) w hw9 hw1 hAB
    have e13 : l1 = l3 := nf_uniq hb.1 n1' n3' (by rw [v1, v3])
    have e23 : l2 = l3 := nf_uniq hb.1 n2' n3' (by rw [v2, v3, Int.mul_comm])
    subst e13; subst e23
    obtain ⟨g, bx5, d5, h5, h5', hb5⟩ := take_ok (m := 100000) (by decide) hb4
    obtain ⟨j, bx6, d6, h6, h6', hb6⟩ := take_ok (m := 4) (by decide) hb5
    obtain ⟨G, rfl⟩ := Int.eq_ofNat_of_zero_le h5
    obtain ⟨J, rfl⟩ := Int.eq_ofNat_of_zero_le h6
    have hlit : ∀ (s : Ev) (b : Bx), evalE P (.lit [1, 2, 4, 8]) s b = some (.il [1, 2, 4, 8], b) := fun s b => ev_lit (by decide)
    have hidx : vIdx (.il [1, 2, 4, 8]) (.int (J : Int)) = some (.int (2 ^ J : Nat)) := by
      rw [vIdx_il ⟨by (first | lia | omega), by show (J : Int) < 4; (first | lia | omega)⟩ (by decide)]
      have hJ : J = 0 ∨ J = 1 ∨ J = 2 ∨ J = 3 := by (first | lia | omega)
      rcases hJ with rfl | rfl | rfl | rfl <;> rfl
    have hlA : ∀ a ∈ [A, B], a.length ≤ 100 := fun a ha => by
      rcases List.mem_cons.mp ha with rfl | ha
      · (first | lia | omega)
      · rcases List.mem_cons.mp ha with rfl | ha
        · (first | lia | omega)
        · first | exact nn ha | cases ha
    have hne : vCmp .ne (.rl [A, B]) (.rl [A, B]) = some (.bool false) := by
      rw [vNe_rl ⟨(by show (2 : Int) ≤ 100000; decide), (by show (2 : Int) ≤ 100000; decide)⟩ hlA hlA, decide_eq_true rfl]; rfl
    have m2 : P.fn "mul_primes" [.il B, .il A, .int w, .int 1] = some (.il l2) := m2
    obtain ⟨ps, hch, hCh, hpl⟩ := ch_of_chk (g := G) (by (first | lia | omega)) 12 bd 1 (chk_at (k := J) (b := bd) (by (first | lia | omega)) (by (first | lia | omega)))
    have hJ1 := Nat.one_le_two_pow (n := J)
    have hJ8 : 2 ^ J ≤ 8 := by
      have := Nat.pow_le_pow_right (n := 2) (i := J) (j := 3) (by decide) (by (first | lia | omega))
      exact this
    obtain ⟨_, q1, rfl⟩ := H.primes (2 ^ J) bd G ps hJ1 (by (first | lia | omega)) (by (first | lia | omega)) hch
    obtain ⟨K, hK⟩ : ∃ K, K = 2 ^ J := ⟨_, rfl⟩
    rw [← hK] at hch q1 hJ1 hJ8 hidx
    have hAc : (A.length : Int) ≤ 100000 := by (first | lia | omega)
    have hBc : (B.length : Int) ≤ 100000 := by (first | lia | omega)
    have hl3c : (l2.length : Int) ≤ 100000 := by (first | lia | omega)
    (repeat (first | (simp (disch := first | lia | omega) only [thenQ_ret, loopQ_next, loopQ_ret, wp_skip, wp_asg, wp_asg2, wp_asg3, wp_aug, wp_ite, wp_ret, wp_app, wp_pop, wp_setI, wp_augI, wp_setB, op_add, op_sub, op_mul_s, op_mul, op_fdiv, op_mod, op_shl, op_shr, op_band, cm_lt, cm_le, cm_gt, cm_ge, cm_eq, cm_ne, ev_int, ev_bool, ev_var, ev_bin, ev_cmp, ev_not, ev_and, ev_or, ev_ife, ev_idx, ev_upto, ev_from1, ev_all, ev_rev, ev_cat, ev_rep, ev_lit0, ev_lit1, ev_lst1, ev_rows2, ev_call1, ev_call2, ev_call3, ev_call4, ev_len, ev_min2, ev_sum, ev_toInt, ev_toList, ev_range1, ev_range3, ev_zip, ev_enum, op1_some', op1_none', vBin_int, vCmp_int, vNot_bool, vIdx_il, vUpto_il, vUpto_arg, vList_il', vCat_il, vRep_il, vMin_int, vLst1_int, vRows2_il, vSum_il, vToInt_int, vZip_il, vEnum_il, vRange_1, vRange_dn, asg_int, asg_il, ret_int, ret_bool, ret_il, ret_fresh, own_var, fr_var, fr_idx, fr_upto, fr_from1, fr_all, fr_rev, fr_cat, fr_rep, fr_lit, fr_lst1, fr_call1, fr_call2, fr_call3, fr_call4, fr_toList, fr_drawn, fr_comp, gt, pt, inEv, Option.map_some, Option.map_none, List.length_cons, List.length_nil, Nat.reduceAdd, Nat.reduceLT, decide_true, decide_false, decide_eq_true_eq, Bool.or_true, Bool.true_or, Bool.false_or, Bool.or_false, Int.toNat_natCast, and_self, true_and, and_true, if_true, if_false, Bool.false_eq_true, Bool.true_and, Bool.and_true, Nat.reduceBEq, bne_self_eq_false, Nat.reduceBNe, mOf, cap, ev_take' ht d1, ev_take' ht d2, hw, hbd, ev_drawn' d3, ev_drawn' d4, m1, m2, oA, oB, r1, vNe_il, ne_eq, not_true_eq_false, hlit, hidx, ev_take' ht d5, ev_take' ht d6, hne, q1]) | rw [thenQ_next] | rw [wp_seq] | simp only [wp_seq, thenQ_next]))
    have hnl : (natL ps).length = ps.length := by simp [natL]
    refine wp_forV (l := natL ps) (fun i s => ∃ z', s = ([some (.arg l), some .box, z, some (.int w), some (.int bd), some (.il A), some (.il B), some (.il A), some (.il B), some (.int G), some (.int K), some (.il (natL ps)), some (.int (pfx ps i)), z', none, none, none, none, none], some bx6)) rfl rfl ?_ ⟨none, rfl⟩ ?_
    · rintro i n σ bx hi ⟨z', hs⟩
      cases hs
      obtain ⟨p, hp, rfl⟩ : ∃ p, ps[i]? = some p ∧ n = (p : Int) := by
        unfold natL at hi
        rw [List.getElem?_map] at hi
        cases hx : ps[i]? with
        | none => rw [hx] at hi; first | exact nn hi | cases hi
        | some p => rw [hx] at hi; cases hi; exact ⟨p, rfl, rfl⟩
      obtain ⟨b, o1, o2, o3, _, _⟩ := ch_get hCh i p hp
      obtain ⟨g1, g2, g3, g4, _⟩ := okPrime_parts o1
      rw [← hK] at g4
      have c1 : ((G : Int) < (pfx ps i : Int)) = False := eq_false (by (first | lia | omega))
      have c2 : ((p : Int) ≤ (bd : Int)) = False := eq_false (by (first | lia | omega))
      have c3 : (p : Int) % (K : Int) = 1 % (K : Int) := by
        have e : p % K = 1 % K := by
          obtain ⟨q, rfl⟩ : ∃ q, p = q + 1 := ⟨p - 1, by (first | lia | omega)⟩
          rw [Nat.add_mod, show q % K = 0 from g4, Nat.zero_add, Nat.mod_mod]
        exact_mod_cast e
      (repeat (first | (simp (disch := first | lia | omega) only [thenQ_ret, loopQ_next, loopQ_ret, wp_skip, wp_asg, wp_asg2, wp_asg3, wp_aug, wp_ite, wp_ret, wp_app, wp_pop, wp_setI, wp_augI, wp_setB, op_add, op_sub, op_mul_s, op_mul, op_fdiv, op_mod, op_shl, op_shr, op_band, cm_lt, cm_le, cm_gt, cm_ge, cm_eq, cm_ne, ev_int, ev_bool, ev_var, ev_bin, ev_cmp, ev_not, ev_and, ev_or, ev_ife, ev_idx, ev_upto, ev_from1, ev_all, ev_rev, ev_cat, ev_rep, ev_lit0, ev_lit1, ev_lst1, ev_rows2, ev_call1, ev_call2, ev_call3, ev_call4, ev_len, ev_min2, ev_sum, ev_toInt, ev_toList, ev_range1, ev_range3, ev_zip, ev_enum, op1_some', op1_none', vBin_int, vCmp_int, vNot_bool, vIdx_il, vUpto_il, vUpto_arg, vList_il', vCat_il, vRep_il, vMin_int, vLst1_int, vRows2_il, vSum_il, vToInt_int, vZip_il, vEnum_il, vRange_1, vRange_dn, asg_int, asg_il, ret_int, ret_bool, ret_il, ret_fresh, own_var, fr_var, fr_idx, fr_upto, fr_from1, fr_all, fr_rev, fr_cat, fr_rep, fr_lit, fr_lst1, fr_call1, fr_call2, fr_call3, fr_call4, fr_toList, fr_drawn, fr_comp, gt, pt, inEv, Option.map_some, Option.map_none, List.length_cons, List.length_nil, Nat.reduceAdd, Nat.reduceLT, decide_true, decide_false, decide_eq_true_eq, Bool.or_true, Bool.true_or, Bool.false_or, Bool.or_false, Int.toNat_natCast, and_self, true_and, and_true, if_true, if_false, Bool.false_eq_true, Bool.true_and, Bool.and_true, Nat.reduceBEq, bne_self_eq_false, Nat.reduceBNe, mOf, cap, c1, c2, c3, ne_eq, not_true_eq_false]) | rw [thenQ_next] | rw [wp_seq] | simp only [wp_seq, thenQ_next]))
      refine ⟨some (.int p), ?_⟩
      rw [pfx_succ hp]; simp
    · rintro s ⟨z', rfl⟩
      rw [hnl]
      have hover := ch_over hCh
      rw [Nat.one_mul] at hover
      have hpf : pfx ps ps.length = prd ps := by unfold pfx; rw [List.take_length]
      rw [hpf]
      have c1 : ((prd ps : Int) ≤ (G : Int)) = False := eq_false (by (first | lia | omega))
      have hnone : ∀ (s : Ev) (b : Bx), gt s 11 = some (.il (natL ps)) → evalE P (.comp false true (.zip (T.v 11) (.from1 (T.v 11) 1)) (T.le (T.v 1) (T.v 0)) (T.i 1) []) s b = some (.il [], b) := fun s b h11 => by
        refine ev_comp_none (u := .prs ((natL ps).zip ((natL ps).drop 1))) (its := ((natL ps).zip ((natL ps).drop 1)).map fun p => [some (.int p.1), some (.int p.2)]) ?_ rfl ?_ rfl ?_
        · have hd : (((natL ps).drop 1).length : Int) ≤ 100000 := by rw [List.length_drop]; (first | lia | omega)
          have hd' : ((natL ps).length : Int) ≤ 100000 := by (first | lia | omega)
          (repeat (first | (simp (disch := first | lia | omega) only [thenQ_ret, loopQ_next, loopQ_ret, wp_skip, wp_asg, wp_asg2, wp_asg3, wp_aug, wp_ite, wp_ret, wp_app, wp_pop, wp_setI, wp_augI, wp_setB, op_add, op_sub, op_mul_s, op_mul, op_fdiv, op_mod, op_shl, op_shr, op_band, cm_lt, cm_le, cm_gt, cm_ge, cm_eq, cm_ne, ev_int, ev_bool, ev_var, ev_bin, ev_cmp, ev_not, ev_and, ev_or, ev_ife, ev_idx, ev_upto, ev_from1, ev_all, ev_rev, ev_cat, ev_rep, ev_lit0, ev_lit1, ev_lst1, ev_rows2, ev_call1, ev_call2, ev_call3, ev_call4, ev_len, ev_min2, ev_sum, ev_toInt, ev_toList, ev_range1, ev_range3, ev_zip, ev_enum, op1_some', op1_none', vBin_int, vCmp_int, vNot_bool, vIdx_il, vUpto_il, vUpto_arg, vList_il', vCat_il, vRep_il, vMin_int, vLst1_int, vRows2_il, vSum_il, vToInt_int, vZip_il, vEnum_il, vRange_1, vRange_dn, asg_int, asg_il, ret_int, ret_bool, ret_il, ret_fresh, own_var, fr_var, fr_idx, fr_upto, fr_from1, fr_all, fr_rev, fr_cat, fr_rep, fr_lit, fr_lst1, fr_call1, fr_call2, fr_call3, fr_call4, fr_toList, fr_drawn, fr_comp, gt, pt, inEv, Option.map_some, Option.map_none, List.length_cons, List.length_nil, Nat.reduceAdd, Nat.reduceLT, decide_true, decide_false, decide_eq_true_eq, Bool.or_true, Bool.true_or, Bool.false_or, Bool.or_false, Int.toNat_natCast, and_self, true_and, and_true, if_true, if_false, Bool.false_eq_true, Bool.true_and, Bool.and_true, Nat.reduceBEq, bne_self_eq_false, Nat.reduceBNe, mOf, cap, h11]) | rw [thenQ_next] | rw [wp_seq] | simp only [wp_seq, thenQ_next]))
        · rw [List.length_map, List.length_zip]; show min _ _ ≤ 100000; (first | lia | omega)
        · intro e he
          obtain ⟨q, hq, rfl⟩ := List.mem_map.mp he
          obtain ⟨i, hi⟩ := List.getElem?_of_mem hq
          rw [List.getElem?_zip_eq_some] at hi
          obtain ⟨i1, i2⟩ := hi
          rw [List.getElem?_drop] at i2
          unfold natL at i1 i2
          rw [List.getElem?_map] at i1 i2
          cases hx1 : ps[i]? with
          | none => rw [hx1] at i1; first | exact nn i1 | cases i1
          | some p1 =>
            cases hx2 : ps[1 + i]? with
            | none => rw [hx2] at i2; first | exact nn i2 | cases i2
            | some p2 =>
              rw [hx1] at i1; rw [hx2] at i2
              have i1 : (p1 : Int) = q.1 := Option.some.inj i1
              have i2 : (p2 : Int) = q.2 := Option.some.inj i2
              obtain ⟨b', o1, o2, o3, _, o5⟩ := ch_get hCh (1 + i) p2 hx2
              have hbb := o5 i p1 (by (first | lia | omega)) hx1
              have g3 := (okPrime_parts o1).2.2.1
              subst hbb
              show evalE P (T.le (T.v 1) (T.v 0)) [some (.int q.1), some (.int q.2)] b = _
              (repeat (first | (simp (disch := first | lia | omega) only [thenQ_ret, loopQ_next, loopQ_ret, wp_skip, wp_asg, wp_asg2, wp_asg3, wp_aug, wp_ite, wp_ret, wp_app, wp_pop, wp_setI, wp_augI, wp_setB, op_add, op_sub, op_mul_s, op_mul, op_fdiv, op_mod, op_shl, op_shr, op_band, cm_lt, cm_le, cm_gt, cm_ge, cm_eq, cm_ne, ev_int, ev_bool, ev_var, ev_bin, ev_cmp, ev_not, ev_and, ev_or, ev_ife, ev_idx, ev_upto, ev_from1, ev_all, ev_rev, ev_cat, ev_rep, ev_lit0, ev_lit1, ev_lst1, ev_rows2, ev_call1, ev_call2, ev_call3, ev_call4, ev_len, ev_min2, ev_sum, ev_toInt, ev_toList, ev_range1, ev_range3, ev_zip, ev_enum, op1_some', op1_none', vBin_int, vCmp_int, vNot_bool, vIdx_il, vUpto_il, vUpto_arg, vList_il', vCat_il, vRep_il, vMin_int, vLst1_int, vRows2_il, vSum_il, vToInt_int, vZip_il, vEnum_il, vRange_1, vRange_dn, asg_int, asg_il, ret_int, ret_bool, ret_il, ret_fresh, own_var, fr_var, fr_idx, fr_upto, fr_from1, fr_all, fr_rev, fr_cat, fr_rep, fr_lit, fr_lst1, fr_call1, fr_call2, fr_call3, fr_call4, fr_toList, fr_drawn, fr_comp, gt, pt, inEv, Option.map_some, Option.map_none, List.length_cons, List.length_nil, Nat.reduceAdd, Nat.reduceLT, decide_true, decide_false, decide_eq_true_eq, Bool.or_true, Bool.true_or, Bool.false_or, Bool.or_false, Int.toNat_natCast, and_self, true_and, and_true, if_true, if_false, Bool.false_eq_true, Bool.true_and, Bool.and_true, Nat.reduceBEq, bne_self_eq_false, Nat.reduceBNe, mOf, cap]) | rw [thenQ_next] | rw [wp_seq] | simp only [wp_seq, thenQ_next]))
              rw [decide_eq_false (by rw [← i1, ← i2]; (first | lia | omega))]
      obtain ⟨n6, bx7, d7, h7, h7', hb7⟩ := take_ok (m := 6) (by decide) hb6
      obtain ⟨cs, bx8, ecs, hb8, hcl, hcb⟩ := ev_comp_take ht (n := n6.toNat) (by (first | lia | omega)) hb7
      obtain ⟨_, s1, l4, rfl, n4', v4⟩ := H.settled cs w hw9 hw1 (by (first | lia | omega)) (fun x hx => by have := hcb x hx; (first | lia | omega))
      have vcs := val_bd (b := 2 ^ w) ⟨by (first | lia | omega), hb.2⟩ hcb
      have p513 := pow513 (n := cs.length) (by (first | lia | omega))
      obtain ⟨_, r2, l5, rfl, n5', v5, hl5⟩ := H.row (val (2 ^ w) cs) w hw9 hw1 ⟨vcs.1, by (first | lia | omega)⟩
      have e45 : l4 = l5 := nf_uniq hb.1 n4' n5' (by rw [v4, v5])
      subst e45
      obtain ⟨t1, bx9, d9, h9, h9', hb9⟩ := take_ok (m := 3000) (by decide) hb8
      obtain ⟨t2, bx10, d10, h10, h10', hb10⟩ := take_ok (m := 3000) (by decide) hb9
      obtain ⟨_, s2, l6, rfl, n6', v6, hl6⟩ := H.scaled A t1 t2 w hw9 hw1 (by (first | lia | omega)) hA.1 (by (first | lia | omega)) (by (first | lia | omega))
      have hAt : 0 ≤ val (2 ^ w) A * t1 ∧ val (2 ^ w) A * t1 ≤ 1237940039285380274899124224 * 3000 := by
        refine ⟨Int.mul_nonneg vA.1 h9, ?_⟩
        have e1 : val (2 ^ w) A * t1 ≤ 1237940039285380274899124224 * t1 := Int.mul_le_mul_of_nonneg_right (by (first | lia | omega)) h9
        (first | lia | omega)
      obtain ⟨_, r3, l7, rfl, n7', v7, hl7⟩ := H.row (val (2 ^ w) A * t1 + t2) w hw9 hw1 (by (first | lia | omega))
      have e67 : l6 = l7 := nf_uniq hb.1 n6' n7' (by rw [v6, v7])
      subst e67
      obtain ⟨t3, bx11, d11, h11, h11', hb11⟩ := take_ok (m := 300) (by decide) hb10
      obtain ⟨_, z1, k, rfl, hk9, hmk, hlt⟩ := H.size (1 + t3) (by (first | lia | omega))
      have hl4c : (l4.length : Int) ≤ 100000 := by (first | lia | omega)
      have hl6c : (l6.length : Int) ≤ 100000 := by (first | lia | omega)
      have hkk := pow2_le (k := k) (by (first | lia | omega))
      have hnone' := fun (a0 a1 a2 a3 a4 a5 a6 a7 a8 a9 a10 : Option V) (r : Ev) (b : Bx) => hnone (a0 :: a1 :: a2 :: a3 :: a4 :: a5 :: a6 :: a7 :: a8 :: a9 :: a10 :: some (.il (natL ps)) :: r) b rfl
      have hsh := fun (a0 a1 a2 a4 a5 a6 a7 a8 a9 a10 a11 a12 a13 : Option V) (r : Ev) (b : Bx) => ev_shifts (P := P) (s := a0 :: a1 :: a2 :: some (.int w) :: a4 :: a5 :: a6 :: a7 :: a8 :: a9 :: a10 :: a11 :: a12 :: a13 :: some (.il cs) :: r) (b := b) (w := w) (l := cs) hw9 (by (first | lia | omega)) hcb rfl rfl
      have hcs := fun (z0 : Option V) (r : Ev) => ecs (.range1 (.take 1 (T.i 6))) (z0 :: some .box :: r) (some bx6) (by (repeat (first | (simp (disch := first | lia | omega) only [thenQ_ret, loopQ_next, loopQ_ret, wp_skip, wp_asg, wp_asg2, wp_asg3, wp_aug, wp_ite, wp_ret, wp_app, wp_pop, wp_setI, wp_augI, wp_setB, op_add, op_sub, op_mul_s, op_mul, op_fdiv, op_mod, op_shl, op_shr, op_band, cm_lt, cm_le, cm_gt, cm_ge, cm_eq, cm_ne, ev_int, ev_bool, ev_var, ev_bin, ev_cmp, ev_not, ev_and, ev_or, ev_ife, ev_idx, ev_upto, ev_from1, ev_all, ev_rev, ev_cat, ev_rep, ev_lit0, ev_lit1, ev_lst1, ev_rows2, ev_call1, ev_call2, ev_call3, ev_call4, ev_len, ev_min2, ev_sum, ev_toInt, ev_toList, ev_range1, ev_range3, ev_zip, ev_enum, op1_some', op1_none', vBin_int, vCmp_int, vNot_bool, vIdx_il, vUpto_il, vUpto_arg, vList_il', vCat_il, vRep_il, vMin_int, vLst1_int, vRows2_il, vSum_il, vToInt_int, vZip_il, vEnum_il, vRange_1, vRange_dn, asg_int, asg_il, ret_int, ret_bool, ret_il, ret_fresh, own_var, fr_var, fr_idx, fr_upto, fr_from1, fr_all, fr_rev, fr_cat, fr_rep, fr_lit, fr_lst1, fr_call1, fr_call2, fr_call3, fr_call4, fr_toList, fr_drawn, fr_comp, gt, pt, inEv, Option.map_some, Option.map_none, List.length_cons, List.length_nil, Nat.reduceAdd, Nat.reduceLT, decide_true, decide_false, decide_eq_true_eq, Bool.or_true, Bool.true_or, Bool.false_or, Bool.or_false, Int.toNat_natCast, and_self, true_and, and_true, if_true, if_false, Bool.false_eq_true, Bool.true_and, Bool.and_true, Nat.reduceBEq, bne_self_eq_false, Nat.reduceBNe, mOf, cap, ev_take' ht d7]) | rw [thenQ_next] | rw [wp_seq] | simp only [wp_seq, thenQ_next]))) rfl
      have hnn : vCmp .ne (.il []) (.il []) = some (.bool false) := by
        rw [vNe_nil (by decide)]; rfl
      have hmul : ((2 : Int) ^ k).toNat &&& ((2 : Int) ^ k - 1).toNat = 0 := by
        have := mask_mod (a := (2 : Int) ^ k) (by (first | lia | omega)) k
        rw [Int.emod_self] at this
        exact_mod_cast this
      have c3 : (1 + t3 ≤ (2 : Int) ^ k) = True := eq_true hmk
      (repeat (first | (simp (disch := first | lia | omega) only [thenQ_ret, loopQ_next, loopQ_ret, wp_skip, wp_asg, wp_asg2, wp_asg3, wp_aug, wp_ite, wp_ret, wp_app, wp_pop, wp_setI, wp_augI, wp_setB, op_add, op_sub, op_mul_s, op_mul, op_fdiv, op_mod, op_shl, op_shr, op_band, cm_lt, cm_le, cm_gt, cm_ge, cm_eq, cm_ne, ev_int, ev_bool, ev_var, ev_bin, ev_cmp, ev_not, ev_and, ev_or, ev_ife, ev_idx, ev_upto, ev_from1, ev_all, ev_rev, ev_cat, ev_rep, ev_lit0, ev_lit1, ev_lst1, ev_rows2, ev_call1, ev_call2, ev_call3, ev_call4, ev_len, ev_min2, ev_sum, ev_toInt, ev_toList, ev_range1, ev_range3, ev_zip, ev_enum, op1_some', op1_none', vBin_int, vCmp_int, vNot_bool, vIdx_il, vUpto_il, vUpto_arg, vList_il', vCat_il, vRep_il, vMin_int, vLst1_int, vRows2_il, vSum_il, vToInt_int, vZip_il, vEnum_il, vRange_1, vRange_dn, asg_int, asg_il, ret_int, ret_bool, ret_il, ret_fresh, own_var, fr_var, fr_idx, fr_upto, fr_from1, fr_all, fr_rev, fr_cat, fr_rep, fr_lit, fr_lst1, fr_call1, fr_call2, fr_call3, fr_call4, fr_toList, fr_drawn, fr_comp, gt, pt, inEv, Option.map_some, Option.map_none, List.length_cons, List.length_nil, Nat.reduceAdd, Nat.reduceLT, decide_true, decide_false, decide_eq_true_eq, Bool.or_true, Bool.true_or, Bool.false_or, Bool.or_false, Int.toNat_natCast, and_self, true_and, and_true, if_true, if_false, Bool.false_eq_true, Bool.true_and, Bool.and_true, Nat.reduceBEq, bne_self_eq_false, Nat.reduceBNe, mOf, cap, hnone', c1, hnn, ne_eq, not_true_eq_false, wp_asgC, hcs, s1, hsh, shifts_sum, r2, vNe_il, ev_take' ht d9, ev_take' ht d10, s2, oA, r3, ev_take' ht d11, z1, hmul, c3]) | rw [thenQ_next] | rw [wp_seq] | simp only [wp_seq, thenQ_next]))
      by_cases c4 : 1 + t3 = 1
      · rw [if_pos c4]
        exact ⟨rfl, rfl⟩
      · rw [if_neg c4]
        have c5 : decide ((2 : Int) ^ k < 2 * (1 + t3)) = true := decide_eq_true (by (first | lia | omega))
        rw [c5]
        exact ⟨rfl, rfl⟩
end
end NN

/-! the law's call: its first statement by hand -/
namespace NN
open PySem PySem.W PyProof.Rows PySem.Calls

noncomputable def lawNm : List Str := ["script", "box", "one", "w", "bound", "here", "there", "first", "second", "greatest", "size", "primes", "whole", "p", "columns", "times_by", "more", "many", "told"]
noncomputable def T.boxE : E := .comp false false (.upto (T.v 0) (T.i 40)) (.bool true) (.toInt (T.v 0)) []
noncomputable def lawHead (nm : List Str) (gs cs : Str → Bool) (st : Stmt) : Bool := onAsg st fun ts v _ => on1 ts fun t => onList v fun es => on2 es fun p q => isTgt nm 1 t && mE nm gs cs T.boxE p && mE nm gs cs (.int 7) q
noncomputable def lawHeadOk : Bool := match (theRec "law").body with | st :: _ => lawHead lawNm (gsOf (theRec "law").scope) (csOf (theRec "law").scope) st | [] => false
theorem lawHead_ok : lawHeadOk = true := by decide +kernel

theorem ev_boxE (P : Fns) {l : List Int} (hl : l.length ≤ 63) (r : Ev) : evalE P T.boxE (some (.arg l) :: r) none = some (.il (l.take 40), none) := by
  have hc : (l.take 40).length ≤ 63 := by rw [List.length_take]; (first | lia | omega)
  have := ev_comp_ints (P := P) (src := .upto (T.v 0) (T.i 40)) (elt := .toInt (T.v 0)) (caps := []) (s := some (.arg l) :: r) (b := none) (b₁ := none) (l := l.take 40) (fun x => x)
    (by (repeat (first | (simp (disch := first | lia | omega) only [thenQ_ret, loopQ_next, loopQ_ret, wp_skip, wp_asg, wp_asg2, wp_asg3, wp_aug, wp_ite, wp_ret, wp_app, wp_pop, wp_setI, wp_augI, wp_setB, op_add, op_sub, op_mul_s, op_mul, op_fdiv, op_mod, op_shl, op_shr, op_band, cm_lt, cm_le, cm_gt, cm_ge, cm_eq, cm_ne, ev_int, ev_bool, ev_var, ev_bin, ev_cmp, ev_not, ev_and, ev_or, ev_ife, ev_idx, ev_upto, ev_from1, ev_all, ev_rev, ev_cat, ev_rep, ev_lit0, ev_lit1, ev_lst1, ev_rows2, ev_call1, ev_call2, ev_call3, ev_call4, ev_len, ev_min2, ev_sum, ev_toInt, ev_toList, ev_range1, ev_range3, ev_zip, ev_enum, op1_some', op1_none', vBin_int, vCmp_int, vNot_bool, vIdx_il, vUpto_il, vUpto_arg, vList_il', vCat_il, vRep_il, vMin_int, vLst1_int, vRows2_il, vSum_il, vToInt_int, vZip_il, vEnum_il, vRange_1, vRange_dn, asg_int, asg_il, ret_int, ret_bool, ret_il, ret_fresh, own_var, fr_var, fr_idx, fr_upto, fr_from1, fr_all, fr_rev, fr_cat, fr_rep, fr_lit, fr_lst1, fr_call1, fr_call2, fr_call3, fr_call4, fr_toList, fr_drawn, fr_comp, gt, pt, inEv, Option.map_some, Option.map_none, List.length_cons, List.length_nil, Nat.reduceAdd, Nat.reduceLT, decide_true, decide_false, decide_eq_true_eq, Bool.or_true, Bool.true_or, Bool.false_or, Bool.or_false, Int.toNat_natCast, and_self, true_and, and_true, if_true, if_false, Bool.false_eq_true, Bool.true_and, Bool.and_true, Nat.reduceBEq, bne_self_eq_false, Nat.reduceBNe, mOf, cap]) | rw [thenQ_next] | rw [wp_seq] | simp only [wp_seq, thenQ_next])); rfl) (by show _ ≤ 100000; (first | lia | omega)) rfl (fun x _ => by rfl)
  rw [List.map_id'] at this
  exact this

section
variable {prog : Program} {w : PySem.World} {P : Fns} {hB : Heap} {fnA : Str → Option Addr} {k : Nat}

theorem law_walk (bs : Base hB fnA) (hF : FnsOk prog w hB fnA k P) (H : Sps P) {fa : Addr} (hf : FnAt hB (theRec "law") fa) (hbind : bindsOk (theRec "law") ["script"]) {A : Around} {s : Shared} {a : Addr} {vs : List Value} {l : List Int} {R : Result → Shared → Prop}
    (room : Room A (k + 2)) (sub : SubH hB s.heap) (hL : s.heap.IsList a vs.toArray) (hI : IntsAre vs l) (hl : l.length ≤ 63) (hR : ∀ s', Kp none s s' → R (.ok (.ret (.bool true))) s') : codeAny (model prog w) A (.call (.ref fa) ⟨[.ref a], []⟩) R s := by
  have hfit := fit_law
  unfold fits at hfit
  rw [Bool.and_eq_true] at hfit
  have hh := lawHead_ok
  unfold lawHeadOk at hh
  refine call_setup (B := none) (bx := none) (nm := lawNm) (ps := ["script"]) (M := mNo) (vs := [.arg l]) hf hfit.1 hbind room sub (fun b h => absurd h (isBx_none b)) rfl (.cons ⟨a, vs, rfl, isBx_none a, hL, hI⟩ .nil) rfl (fun _ _ _ => rfl) (fun v hv l' e => by
    subst e
    rcases List.mem_cons.mp hv with h | h
    · first | exact nn h | cases h
    · cases h) fun env s₁ F S sh hk E => ?_
  split at hh
  · rename_i st rest hb
    have hm := hfit.2
    rw [hb] at hm ⊢
    have hm : mS lawNm (gsOf (theRec "law").scope) (csOf (theRec "law").scope) (lsOf (theRec "law").scope) T.law rest = true := hm
    refine onAsg_e hh fun ts v pos hh => on1_e hh fun t hh => onList_e hh fun es lp hh => on2_e hh fun p q hh => ?_
    obtain ⟨h1, h2, h3⟩ := and3 hh
    refine isTgt_e h1 fun y py hy => ?_
    cases hy
    have C := S.cx F
    refine wpAny_execs_cons (wpAny_Assign_Name (wpAny_List (wpAny_items_cons (wpAny_mono ((sound_all_E bs hF T.boxE C h2 (ev_boxE P hl _)).1 _) (fun x s₂ h₂ => ?_) fun _ _ z => z) (star_of h2 _ _))) (swaps_notComp rfl _ _ _))
    obtain ⟨q₂, _, rep₂⟩ := h₂
    have C₂ := C.next (bx₁ := none) q₂ rfl
    refine wpAny_items_cons (wpAny_mono ((sound_all_E (v := .int 7) (bx' := none) bs hF (.int 7) C₂ h3 rfl).1 _) (fun x' s₃ h₃ => wpAny_items_nil ⟨by simp [sizeLine_eq], ?_⟩) fun _ _ z => z) (star_of h3 _ _)
    obtain ⟨q₃, _, t₃, rfl⟩ := h₃
    obtain ⟨aL, rfl, gL, il⟩ := rep₂
    have e1 : s₁.heap.get? aL = none := gL.2 rfl
    have e2 : s₃.heap.get? s₃.heap.objs.size = none := size_none _
    generalize haB : s₃.heap.objs.size = aB at e2 ⊢
    have e3 : s₁.heap.get? aB = none := fresh_old (q₂.trans q₃) (isBx_none aB) e2
    have il₃ : IntL s₃.heap aL (l.take 40) := il.at fun _ e => q₃.get e
    have hne : aB ≠ aL := fun h => by
      obtain ⟨o, e⟩ := il₃.has
      rw [← h, e2] at e; first | exact nn e | cases e
    obtain ⟨s₄, hs₄⟩ : ∃ s₄ : Shared, s₄ = { s₃ with heap := s₃.heap.push { cls := .type "list", data := .seq #[.ref aL, .int 7 t₃] } } := ⟨_, rfl⟩
    have q₄ : Kp none s₃ s₄ := by rw [hs₄]; exact .push none s₃ _
    have q : Kp none s₁ s₄ := (q₂.trans q₃).trans q₄
    have i1 : ∃ n, IsL s₄.heap aB #[.ref aL, .int 7 t₃] n := by
      rw [hs₄, ← haB]; exact ⟨_, IsL.new _ _⟩
    have il₄ : IntL s₄.heap aL (l.take 40) := il₃.at fun _ e => q₄.get e
    have S₄ := S.step F (bx' := none) (Y := noW) q rfl fun b h => .inl h
    show wpAny (model prog w) (A.deeper env) (storeName env "box" (.ref aB)) _ E { s₃ with heap := s₃.heap.push { cls := .type "list", data := .seq #[.ref aL, .int 7 t₃] } }
    rw [← hs₄]
    refine store_ok F S₄.ns S₄.cells (x := "box") (by decide) (.ref aB) fun h' tk St => ?_
    have nsl : ∀ b, slot env lawNm b → b ≠ aB ∧ b ≠ aL := fun b hb => by
      obtain ⟨o, e⟩ := slot_has F S hb
      exact ⟨fun h => by (rw [h, e3] at e; cases e), fun h => by (rw [h, e1] at e; cases e)⟩
    have nB : ¬ slot env lawNm aB := fun h => (nsl _ h).1 rfl
    have nL : ¬ slot env lawNm aL := fun h => (nsl _ h).2 rfl
    have bxB : ∀ b, isBx (some (aB, aL)) b → b = aB ∨ b = aL := fun b ⟨p, hp, h⟩ => by cases hp; exact h
    have nbx : ∀ b, slot env lawNm b → ¬ isBx (some (aB, aL)) b := fun b hs hb => by
      rcases bxB b hb with h | h
      · exact (nsl b hs).1 h
      · exact (nsl b hs).2 h
    have nold : ∀ b o, s₁.heap.get? b = some o → ¬ isBx (some (aB, aL)) b := fun b o e hb => by
      rcases bxB b hb with h | h
      · rw [h, e3] at e; first | exact nn e | cases e
      · rw [h, e1] at e; first | exact nn e | cases e
    have rd : ∀ x v, x ∈ lawNm → RdAt none env h' x v → RdAt (some (aB, aL)) env h' x v := fun x v hx r => by
      rcases r with ⟨k, r, _⟩ | ⟨c, k, hc, r, _⟩
      · exact .inl ⟨k, r, nbx _ (.inl rfl)⟩
      · exact .inr ⟨c, k, hc, r, nbx _ (.inr ⟨x, hx, k, hc⟩)⟩
    have F' : FrOk (A.deeper env) hB s.heap k env lawNm (gsOf (theRec "law").scope) (csOf (theRec "law").scope) (lsOf (theRec "law").scope) (some (aB, aL)) := { F with
      nbx := nbx
      bxh := fun b hb => by
        cases e : hB.get? b with
        | none => rfl
        | some o => exact absurd hb (nold b o (hk b o (sub b o e))) }
    have bOk : BoxOk (some (aB, aL)) h' (some (l.take 40, 7)) := by
      obtain ⟨n, i1⟩ := i1
      obtain ⟨us, m, i2, hU⟩ := il₄
      exact ⟨aB, aL, t₃, us, n, m, rfl, hne, (St.rest aB nB).trans i1, (St.rest aL nL).trans i2, hU⟩
    have S' : StOk s.heap env lawNm (some (aB, aL)) mNo noW ([some (.arg l), some .box] ++ List.replicate 17 none) (fun _ => none) (some (l.take 40, 7)) { s₄ with heap := h', toks := tk } := by
      refine ⟨fun b o _ e => (St.rest b fun hs => by rw [F.fresh b hs] at e; cases e).trans (q.get (hk b o e)), bOk, St.ns, St.cells, rfl, fun i v hv => ?_, (fun _ _ e => by cases e), (fun _ _ _ e => by cases e), (fun i l' hm _ => by cases hm), fun _ _ h => h⟩
      cases i with
      | zero =>
        cases hv
        obtain ⟨hp, x, val, hx, hr, hv'⟩ := S.vals 0 (.arg l) rfl
        cases hx
        refine ⟨hp, _, val, rfl, rd _ _ (by decide) (St.other _ (by decide) _ (hr.keeps q.2)), ?_⟩
        obtain ⟨a', us, rfl, g, hl', hU⟩ := hv'
        have hl'' := hl'
        obtain ⟨o, eo, _⟩ := hl'
        have nsa : ¬ slot env lawNm a' := fun h => g.1 (.inr (.inl h))
        refine ⟨a', us, rfl, ⟨fun h => ?_, fun h => h⟩, hl''.at fun o e => (St.rest a' nsa).trans (q.get e), hU⟩
        rcases h with h | h | ⟨j, hj⟩
        · exact nold a' o eo h
        · exact nsa h
        · first | exact nn hj | cases hj
      | succ i =>
        cases i with
        | zero =>
          cases hv
          exact ⟨(fun l' e => by cases e), _, _, rfl, rd _ _ (by decide) St.here, ⟨(aB, aL), rfl, rfl⟩⟩
        | succ i =>
          have := gt_args [] 17 i v hv
          cases this
    obtain ⟨s', f, e, rfl⟩ := law_true H l hl
    refine wpAny_mono (sound_all_S (N := fuel) (M := mNo) bs hF T.law F' S' (fun _ h => h.elim) hm e _) (fun f s'' dn => ?_) fun _ _ z => z
    obtain ⟨val, rfl, g1, g2, g3, g4⟩ := dn
    cases g4
    have sh4 : shapeOk s₁ { s₄ with heap := h', toks := tk } := shapeOk.trans q.1 ⟨_, _, rfl⟩
    exact hR s'' ⟨(sh.trans sh4).trans g1, fun b o _ e => g2 b o (nold b o (hk b o e)) e⟩
  · first | exact nn hh | cases hh
end
end NN

/-! the text's defs in the heap; how they bind -/
namespace NN
open PySem PySem.W PyProof.Rows PySem.Calls

/-! ## parameters -/
noncomputable def plainA (a : Arguments) (k : List Arg → Bool) : Bool := a.posonlyargs.isEmpty && a.vararg.isNone && a.kwonlyargs.isEmpty && a.kwarg.isNone && k a.args
noncomputable def argIs (x : Str) (p : Arg) : Bool := decide (p.arg = x)
theorem plainA_e {C : Arguments → Prop} {a : Arguments} {k : List Arg → Bool} (h : plainA a k = true) (K : ∀ as kd df, k as = true → C ⟨[], as, none, [], kd, none, df⟩) : C a := by
  obtain ⟨po, ar, va, ko, kd, kw, df⟩ := a
  obtain ⟨h1, h2, h3, h4, h5⟩ := and5 h
  cases po with
  | cons _ _ => exact ff h1
  | nil => cases va with
    | some _ => exact ff h2
    | none => cases ko with
      | cons _ _ => exact ff h3
      | nil => cases kw with
        | some _ => exact ff h4
        | none => exact K ar kd df h5
theorem argIs_e {C : Arg → Prop} {p : Arg} {x : Str} (h : argIs x p = true) (K : ∀ an q, C ⟨x, an, q⟩) : C p := by
  obtain ⟨a, an, q⟩ := p
  have e := of_decide_eq_true h
  dsimp only at e
  subst e
  exact K an q
theorem bindsOk_1 {f : Str} {x : Str} (h : plainA (theRec f).params (fun as => on1 as (argIs x)) = true)
    (hb : ∀ nm a0 q0 kd df body sc pm code doc u0, bindArgs (docDef nm ⟨[], [⟨x, a0, q0⟩], none, [], kd, none, df⟩ body sc pm code doc) ⟨[u0], []⟩ = pure [(x, u0)]) : bindsOk (theRec f) [x] := fun pm code doc vals hl => by
  refine plainA_e (C := fun A => bindArgs (docDef (theRec f).name A (theRec f).body (theRec f).scope pm code doc) ⟨vals, []⟩ = pure ([x].zip vals)) h fun as kd df h => ?_
  refine on1_e (C := fun as => bindArgs (docDef (theRec f).name ⟨[], as, none, [], kd, none, df⟩ (theRec f).body (theRec f).scope pm code doc) ⟨vals, []⟩ = pure ([x].zip vals)) h fun p0 h0 => ?_
  refine argIs_e (C := fun p => bindArgs (docDef (theRec f).name ⟨[], [p], none, [], kd, none, df⟩ (theRec f).body (theRec f).scope pm code doc) ⟨vals, []⟩ = pure ([x].zip vals)) h0 fun a0 q0 => ?_
  obtain ⟨u0, v0, rfl, k0⟩ := len_cons hl
  obtain rfl := len_nil k0
  exact hb _ _ _ kd df _ _ pm code doc u0
theorem bindsOk_2 {f : Str} {x y : Str} (h : plainA (theRec f).params (fun as => on2 as fun a b => argIs x a && argIs y b) = true)
    (hb : ∀ nm a0 a1 q0 q1 kd df body sc pm code doc u0 u1, bindArgs (docDef nm ⟨[], [⟨x, a0, q0⟩, ⟨y, a1, q1⟩], none, [], kd, none, df⟩ body sc pm code doc) ⟨[u0, u1], []⟩ = pure [(x, u0), (y, u1)]) : bindsOk (theRec f) [x, y] := fun pm code doc vals hl => by
  refine plainA_e (C := fun A => bindArgs (docDef (theRec f).name A (theRec f).body (theRec f).scope pm code doc) ⟨vals, []⟩ = pure ([x, y].zip vals)) h fun as kd df h => ?_
  refine on2_e (C := fun as => bindArgs (docDef (theRec f).name ⟨[], as, none, [], kd, none, df⟩ (theRec f).body (theRec f).scope pm code doc) ⟨vals, []⟩ = pure ([x, y].zip vals)) h fun p0 p1 h => ?_
  obtain ⟨h0, h1⟩ := and2 h
  refine argIs_e (C := fun p => bindArgs (docDef (theRec f).name ⟨[], [p, p1], none, [], kd, none, df⟩ (theRec f).body (theRec f).scope pm code doc) ⟨vals, []⟩ = pure ([x, y].zip vals)) h0 fun a0 q0 => ?_
  refine argIs_e (C := fun p => bindArgs (docDef (theRec f).name ⟨[], [⟨x, a0, q0⟩, p], none, [], kd, none, df⟩ (theRec f).body (theRec f).scope pm code doc) ⟨vals, []⟩ = pure ([x, y].zip vals)) h1 fun a1 q1 => ?_
  obtain ⟨u0, v0, rfl, k0⟩ := len_cons hl
  obtain ⟨u1, v1, rfl, k1⟩ := len_cons k0
  obtain rfl := len_nil k1
  exact hb _ _ _ _ _ kd df _ _ pm code doc u0 u1
theorem bindsOk_3 {f : Str} {x y z : Str} (h : plainA (theRec f).params (fun as => on3 as fun a b c => argIs x a && argIs y b && argIs z c) = true)
    (hb : ∀ nm a0 a1 a2 q0 q1 q2 kd df body sc pm code doc u0 u1 u2, bindArgs (docDef nm ⟨[], [⟨x, a0, q0⟩, ⟨y, a1, q1⟩, ⟨z, a2, q2⟩], none, [], kd, none, df⟩ body sc pm code doc) ⟨[u0, u1, u2], []⟩ = pure [(x, u0), (y, u1), (z, u2)]) : bindsOk (theRec f) [x, y, z] := fun pm code doc vals hl => by
  refine plainA_e (C := fun A => bindArgs (docDef (theRec f).name A (theRec f).body (theRec f).scope pm code doc) ⟨vals, []⟩ = pure ([x, y, z].zip vals)) h fun as kd df h => ?_
  refine on3_e (C := fun as => bindArgs (docDef (theRec f).name ⟨[], as, none, [], kd, none, df⟩ (theRec f).body (theRec f).scope pm code doc) ⟨vals, []⟩ = pure ([x, y, z].zip vals)) h fun p0 p1 p2 h => ?_
  obtain ⟨h0, h1, h2⟩ := and3 h
  refine argIs_e (C := fun p => bindArgs (docDef (theRec f).name ⟨[], [p, p1, p2], none, [], kd, none, df⟩ (theRec f).body (theRec f).scope pm code doc) ⟨vals, []⟩ = pure ([x, y, z].zip vals)) h0 fun a0 q0 => ?_
  refine argIs_e (C := fun p => bindArgs (docDef (theRec f).name ⟨[], [⟨x, a0, q0⟩, p, p2], none, [], kd, none, df⟩ (theRec f).body (theRec f).scope pm code doc) ⟨vals, []⟩ = pure ([x, y, z].zip vals)) h1 fun a1 q1 => ?_
  refine argIs_e (C := fun p => bindArgs (docDef (theRec f).name ⟨[], [⟨x, a0, q0⟩, ⟨y, a1, q1⟩, p], none, [], kd, none, df⟩ (theRec f).body (theRec f).scope pm code doc) ⟨vals, []⟩ = pure ([x, y, z].zip vals)) h2 fun a2 q2 => ?_
  obtain ⟨u0, v0, rfl, k0⟩ := len_cons hl
  obtain ⟨u1, v1, rfl, k1⟩ := len_cons k0
  obtain ⟨u2, v2, rfl, k2⟩ := len_cons k1
  obtain rfl := len_nil k2
  exact hb _ _ _ _ _ _ _ kd df _ _ pm code doc u0 u1 u2
theorem bindsOk_4 {f : Str} {x y z t : Str} (h : plainA (theRec f).params (fun as => on4 as fun a b c d => argIs x a && argIs y b && argIs z c && argIs t d) = true)
    (hb : ∀ nm a0 a1 a2 a3 q0 q1 q2 q3 kd df body sc pm code doc u0 u1 u2 u3, bindArgs (docDef nm ⟨[], [⟨x, a0, q0⟩, ⟨y, a1, q1⟩, ⟨z, a2, q2⟩, ⟨t, a3, q3⟩], none, [], kd, none, df⟩ body sc pm code doc) ⟨[u0, u1, u2, u3], []⟩ = pure [(x, u0), (y, u1), (z, u2), (t, u3)]) : bindsOk (theRec f) [x, y, z, t] := fun pm code doc vals hl => by
  refine plainA_e (C := fun A => bindArgs (docDef (theRec f).name A (theRec f).body (theRec f).scope pm code doc) ⟨vals, []⟩ = pure ([x, y, z, t].zip vals)) h fun as kd df h => ?_
  refine on4_e (C := fun as => bindArgs (docDef (theRec f).name ⟨[], as, none, [], kd, none, df⟩ (theRec f).body (theRec f).scope pm code doc) ⟨vals, []⟩ = pure ([x, y, z, t].zip vals)) h fun p0 p1 p2 p3 h => ?_
  obtain ⟨h0, h1, h2, h3⟩ := and4 h
  refine argIs_e (C := fun p => bindArgs (docDef (theRec f).name ⟨[], [p, p1, p2, p3], none, [], kd, none, df⟩ (theRec f).body (theRec f).scope pm code doc) ⟨vals, []⟩ = pure ([x, y, z, t].zip vals)) h0 fun a0 q0 => ?_
  refine argIs_e (C := fun p => bindArgs (docDef (theRec f).name ⟨[], [⟨x, a0, q0⟩, p, p2, p3], none, [], kd, none, df⟩ (theRec f).body (theRec f).scope pm code doc) ⟨vals, []⟩ = pure ([x, y, z, t].zip vals)) h1 fun a1 q1 => ?_
  refine argIs_e (C := fun p => bindArgs (docDef (theRec f).name ⟨[], [⟨x, a0, q0⟩, ⟨y, a1, q1⟩, p, p3], none, [], kd, none, df⟩ (theRec f).body (theRec f).scope pm code doc) ⟨vals, []⟩ = pure ([x, y, z, t].zip vals)) h2 fun a2 q2 => ?_
  refine argIs_e (C := fun p => bindArgs (docDef (theRec f).name ⟨[], [⟨x, a0, q0⟩, ⟨y, a1, q1⟩, ⟨z, a2, q2⟩, p], none, [], kd, none, df⟩ (theRec f).body (theRec f).scope pm code doc) ⟨vals, []⟩ = pure ([x, y, z, t].zip vals)) h3 fun a3 q3 => ?_
  obtain ⟨u0, v0, rfl, k0⟩ := len_cons hl
  obtain ⟨u1, v1, rfl, k1⟩ := len_cons k0
  obtain ⟨u2, v2, rfl, k2⟩ := len_cons k1
  obtain ⟨u3, v3, rfl, k3⟩ := len_cons k2
  obtain rfl := len_nil k3
  exact hb _ _ _ _ _ _ _ _ _ kd df _ _ pm code doc u0 u1 u2 u3

theorem b_normal : bindsOk (theRec "normal") ["a"] := bindsOk_1 (by decide +kernel) fun _ _ _ _ _ _ _ _ _ _ _ => rfl
theorem b_is_small_prime : bindsOk (theRec "is_small_prime") ["n"] := bindsOk_1 (by decide +kernel) fun _ _ _ _ _ _ _ _ _ _ _ => rfl
theorem b_prime_for : bindsOk (theRec "prime_for") ["size", "bound"] := bindsOk_2 (by decide +kernel) fun _ _ _ _ _ _ _ _ _ _ _ _ _ _ => rfl
theorem b_primes_for : bindsOk (theRec "primes_for") ["size", "bound", "greatest"] := bindsOk_3 (by decide +kernel) fun _ _ _ _ _ _ _ _ _ _ _ _ _ _ _ _ _ => rfl
theorem b_plain_power : bindsOk (theRec "plain_power") ["a", "n", "p"] := bindsOk_3 (by decide +kernel) fun _ _ _ _ _ _ _ _ _ _ _ _ _ _ _ _ _ => rfl
theorem b_root_of_unity : bindsOk (theRec "root_of_unity") ["size", "p"] := bindsOk_2 (by decide +kernel) fun _ _ _ _ _ _ _ _ _ _ _ _ _ _ => rfl
theorem b_powers_of : bindsOk (theRec "powers_of") ["root", "many", "p"] := bindsOk_3 (by decide +kernel) fun _ _ _ _ _ _ _ _ _ _ _ _ _ _ _ _ _ => rfl
theorem b_forward : bindsOk (theRec "forward") ["row", "root", "p"] := bindsOk_3 (by decide +kernel) fun _ _ _ _ _ _ _ _ _ _ _ _ _ _ _ _ _ => rfl
theorem b_backward : bindsOk (theRec "backward") ["row", "root", "p"] := bindsOk_3 (by decide +kernel) fun _ _ _ _ _ _ _ _ _ _ _ _ _ _ _ _ _ => rfl
theorem b_filled : bindsOk (theRec "filled") ["row", "size"] := bindsOk_2 (by decide +kernel) fun _ _ _ _ _ _ _ _ _ _ _ _ _ _ => rfl
theorem b_convolve : bindsOk (theRec "convolve") ["a", "b", "size", "p"] := bindsOk_4 (by decide +kernel) fun _ _ _ _ _ _ _ _ _ _ _ _ _ _ _ _ _ _ _ _ => rfl
theorem b_mixed_digits : bindsOk (theRec "mixed_digits") ["rests", "primes"] := bindsOk_2 (by decide +kernel) fun _ _ _ _ _ _ _ _ _ _ _ _ _ _ => rfl
theorem b_scaled : bindsOk (theRec "scaled") ["row", "factor", "more", "w"] := bindsOk_4 (by decide +kernel) fun _ _ _ _ _ _ _ _ _ _ _ _ _ _ _ _ _ _ _ _ => rfl
theorem b_joined : bindsOk (theRec "joined") ["rests", "primes", "w"] := bindsOk_3 (by decide +kernel) fun _ _ _ _ _ _ _ _ _ _ _ _ _ _ _ _ _ => rfl
theorem b_settled : bindsOk (theRec "settled") ["columns", "w"] := bindsOk_2 (by decide +kernel) fun _ _ _ _ _ _ _ _ _ _ _ _ _ _ => rfl
theorem b_size_for : bindsOk (theRec "size_for") ["many"] := bindsOk_1 (by decide +kernel) fun _ _ _ _ _ _ _ _ _ _ _ => rfl
theorem b_mul_primes : bindsOk (theRec "mul_primes") ["a", "b", "w", "bound"] := bindsOk_4 (by decide +kernel) fun _ _ _ _ _ _ _ _ _ _ _ _ _ _ _ _ _ _ _ _ => rfl
theorem b_law_row : bindsOk (theRec "_law_row") ["number", "w"] := bindsOk_2 (by decide +kernel) fun _ _ _ _ _ _ _ _ _ _ _ _ _ _ => rfl
theorem b_law_of : bindsOk (theRec "_law_of") ["row", "w"] := bindsOk_2 (by decide +kernel) fun _ _ _ _ _ _ _ _ _ _ _ _ _ _ => rfl
theorem b_law_take : bindsOk (theRec "_law_take") ["box", "limit"] := bindsOk_2 (by decide +kernel) fun _ _ _ _ _ _ _ _ _ _ _ _ _ _ => rfl
theorem b_law_drawn : bindsOk (theRec "_law_drawn") ["box", "w"] := bindsOk_2 (by decide +kernel) fun _ _ _ _ _ _ _ _ _ _ _ _ _ _ => rfl
theorem b_law : bindsOk (theRec "law") ["script"] := bindsOk_1 (by decide +kernel) fun _ _ _ _ _ _ _ _ _ _ _ => rfl

/-! ## the base heap -/
noncomputable def fnAof (mg : Str → Option Value) (f : Str) : Option Addr := if (recs.find? fun d => d.name == f).isSome = true then (match mg f with | some (.ref a) => some a | _ => none) else none
noncomputable def bltNames : List Str := ["len", "min", "sum", "int", "list", "range", "zip", "enumerate"]
noncomputable def bltTable : List (Str × Value) := [("len", .builtin "len"), ("min", .builtin "min"), ("sum", .builtin "sum"), ("int", .type "int"), ("list", .type "list"), ("range", .type "range"), ("zip", .type "zip"), ("enumerate", .type "enumerate")]
theorem blt_boot : ∀ p ∈ bltTable, bootBuiltins p.1 = some p.2 ∧ p.1 ∈ bltNames ∧ p.1 ≠ "__name__" := by
  intro p hp
  unfold bltTable at hp
  simp only [List.mem_cons, List.not_mem_nil, or_false] at hp
  rcases hp with rfl | rfl | rfl | rfl | rfl | rfl | rfl | rfl
  all_goals exact ⟨by kernel_rfl, by decide, by decide⟩

section
variable {p : Program} {loose : List Str} {mean : ExcName → Option Value} {mg mb : Str → Option Value} {h : Heap}

theorem rec_at (T : Top p loose mean mg mb h) (hr : recsOf p = recs) {f : Str} (hf : (recs.find? fun d => d.name == f).isSome = true) : ∃ a, mg f = some (.ref a) ∧ fnAof mg f = some a ∧ FnAt h (theRec f) a := by
  obtain ⟨d, hd⟩ := Option.isSome_iff_exists.mp hf
  have e : theRec f = d := by unfold theRec; rw [hd]; rfl
  have hn : d.name = f := by
    have := List.find?_some hd
    exact beq_iff_eq.mp this
  have hm : d ∈ recsOf p := by rw [hr]; exact List.mem_of_find?_eq_some hd
  obtain ⟨a, o, pm, code, doc, h1, h2, h3, h4⟩ := T.fn d hm
  rw [hn] at h1
  refine ⟨a, h1, ?_, ?_⟩
  · unfold fnAof
    rw [if_pos hf, h1]
  · rw [e]
    exact ⟨⟨o, pm, code, doc, h2, h3, h4⟩, T.nolimit⟩

theorem base_of_top (T : Top p loose mean mg mb h) (hr : recsOf p = recs)
    (hfree : ∀ x ∈ bltNames, x ∉ startupNames ∧ x ∉ loose ∧ x ∉ (recsOf p).map (·.name) ∧ x ∉ (litsOf p).map (·.1) ∧ x ∉ (clssOf p loose).map (·.name)) : Base h (fnAof mg) := by
  have key : ∀ f a, fnAof mg f = some a → (recs.find? fun d => d.name == f).isSome = true ∧ mg f = some (.ref a) := fun f a e => by
    unfold fnAof at e
    split at e
    · rename_i hf
      split at e
      · rename_i a' hm
        cases e; exact ⟨hf, hm⟩
      · first | exact nn e | cases e
    · first | exact nn e | cases e
  refine ⟨⟨mg, mb, T.g, T.b, fun f a e => (key f a e).2, fun x v hx => ?_⟩, T.nolimit, fun f a e => ?_⟩
  · obtain ⟨h1, h2, h3⟩ := blt_boot (x, v) hx
    obtain ⟨g1, g2, g3, g4, g5⟩ := hfree x h2
    exact ⟨T.free x g1 g2 g3 g4 g5, (T.builtins x h3).trans h1⟩
  · obtain ⟨hf, hm⟩ := key f a e
    obtain ⟨a', h1, _, ⟨o, pm, code, doc, h2, h3, _⟩, _⟩ := rec_at T hr hf
    rw [h1] at hm; first | exact nn hm | cases hm
    exact ⟨o, _, h2, h3⟩
end
end NN

/-! the defs one after another: each by those before it -/
namespace NN
open PySem PySem.W PyProof.Rows PySem.Calls

theorem mOf_lt {j n : Nat} (h : n ≤ j) : ∀ i, i < n → mOf j i = false := fun i hi => by
  unfold mOf
  have : i ≠ j := by (first | lia | omega)
  simp [this]

noncomputable def P0 : Fns := ⟨fun _ _ => none, fun _ _ => none, fun _ _ => none⟩

section
variable {prog : Program} {w : PySem.World} {hB : Heap} {fnA : Str → Option Addr} {k : Nat} {P : Fns} {M : Nat → Bool}

theorem add_fn (bs : Base hB fnA) (hAt : ∀ f, (recs.find? fun d => d.name == f).isSome = true → ∃ a, fnA f = some a ∧ FnAt hB (theRec f) a) (hF : FnsOk prog w hB fnA k P) {f : Str} {nm ps : List Str} {st : S} {R : (List V → Option V) → Prop}
    (hf : (recs.find? fun d => d.name == f).isSome = true) (hfit : fitsB f nm ps st = true) (hbind : bindsOk (theRec f) ps) (hM : ∀ i, i < ps.length → M i = false) (hR : R (run P fuel M st nm.length ps.length)) :
    ∃ P', FnsOk prog w hB fnA (k + 2) P' ∧ R (P'.fn f) ∧ (∀ g, g ≠ f → P'.fn g = P.fn g) := by
  obtain ⟨a, ha, hfa⟩ := hAt f hf
  exact ⟨mk P f (run P fuel M st nm.length ps.length), fnsOk_mk bs hF ha hfa hfit hbind hM, by rw [mk_same]; exact hR, fun g h => mk_other h⟩

theorem all_fns (bs : Base hB fnA) (hAt : ∀ f, (recs.find? fun d => d.name == f).isSome = true → ∃ a, fnA f = some a ∧ FnAt hB (theRec f) a) : ∃ P, Sps P ∧ FnsOk prog w hB fnA 42 P := by
  have F0 : FnsOk prog w hB fnA 0 P0 := ⟨(fun _ _ _ e => by cases e), (fun _ _ _ _ e => by cases e), (fun _ _ _ _ e => by cases e)⟩
  obtain ⟨P1, F1, r_normal, o1⟩ := add_fn (P := P0) (M := mNo) (f := "normal") (nm := ["a", "end"]) (ps := ["a"]) (st := T.normal) (R := SpNormal) bs hAt F0 (by decide +kernel) fit_normal b_normal (fun _ _ => rfl) (sp_normal _ )
  obtain ⟨P2, F2, r_is_small_prime, o2⟩ := add_fn (P := P1) (M := mNo) (f := "is_small_prime") (nm := ["n", "at"]) (ps := ["n"]) (st := T.isSmallPrime) (R := SpIsPrime) bs hAt F1 (by decide +kernel) fit_is_small_prime b_is_small_prime (fun _ _ => rfl) (sp_is_small_prime _ )
  have r_normal : SpNormal (P2.fn "normal") := by rw [o2 _ (by decide)]; exact r_normal
  obtain ⟨P3, F3, r_prime_for, o3⟩ := add_fn (P := P2) (M := mNo) (f := "prime_for") (nm := ["size", "bound", "found"]) (ps := ["size", "bound"]) (st := T.primeFor) (R := SpPrimeFor) bs hAt F2 (by decide +kernel) fit_prime_for b_prime_for (fun _ _ => rfl) (sp_prime_for _ r_is_small_prime)
  have r_normal : SpNormal (P3.fn "normal") := by rw [o3 _ (by decide)]; exact r_normal
  obtain ⟨P4, F4, r_primes_for, o4⟩ := add_fn (P := P3) (M := mOf 3) (f := "primes_for") (nm := ["size", "bound", "greatest", "found", "product"]) (ps := ["size", "bound", "greatest"]) (st := T.primesFor) (R := SpPrimesFor) bs hAt F3 (by decide +kernel) fit_primes_for b_primes_for (mOf_lt (by decide)) (sp_primes_for _ r_prime_for)
  have r_normal : SpNormal (P4.fn "normal") := by rw [o4 _ (by decide)]; exact r_normal
  obtain ⟨P5, F5, r_plain_power, o5⟩ := add_fn (P := P4) (M := mNo) (f := "plain_power") (nm := ["a", "n", "p", "found"]) (ps := ["a", "n", "p"]) (st := T.plainPower) (R := SpPower) bs hAt F4 (by decide +kernel) fit_plain_power b_plain_power (fun _ _ => rfl) (sp_power _ )
  have r_normal : SpNormal (P5.fn "normal") := by rw [o5 _ (by decide)]; exact r_normal
  have r_primes_for : SpPrimesFor (P5.fn "primes_for") := by rw [o5 _ (by decide)]; exact r_primes_for
  obtain ⟨P6, F6, r_root_of_unity, o6⟩ := add_fn (P := P5) (M := mNo) (f := "root_of_unity") (nm := ["size", "p", "base"]) (ps := ["size", "p"]) (st := T.rootOfUnity) (R := SpRoot) bs hAt F5 (by decide +kernel) fit_root_of_unity b_root_of_unity (fun _ _ => rfl) (sp_root _ r_plain_power)
  have r_normal : SpNormal (P6.fn "normal") := by rw [o6 _ (by decide)]; exact r_normal
  have r_primes_for : SpPrimesFor (P6.fn "primes_for") := by rw [o6 _ (by decide)]; exact r_primes_for
  have r_plain_power : SpPower (P6.fn "plain_power") := by rw [o6 _ (by decide)]; exact r_plain_power
  obtain ⟨P7, F7, r_powers_of, o7⟩ := add_fn (P := P6) (M := mOf 3) (f := "powers_of") (nm := ["root", "many", "p", "found"]) (ps := ["root", "many", "p"]) (st := T.powersOf) (R := SpPowersOf) bs hAt F6 (by decide +kernel) fit_powers_of b_powers_of (mOf_lt (by decide)) (sp_powers_of _ )
  have r_normal : SpNormal (P7.fn "normal") := by rw [o7 _ (by decide)]; exact r_normal
  have r_primes_for : SpPrimesFor (P7.fn "primes_for") := by rw [o7 _ (by decide)]; exact r_primes_for
  have r_plain_power : SpPower (P7.fn "plain_power") := by rw [o7 _ (by decide)]; exact r_plain_power
  have r_root_of_unity : SpRoot (P7.fn "root_of_unity") := by rw [o7 _ (by decide)]; exact r_root_of_unity
  obtain ⟨P8, F8, r_forward, o8⟩ := add_fn (P := P7) (M := mOf 3) (f := "forward") (nm := ["row", "root", "p", "found", "half", "steps", "begin", "at", "one", "other"]) (ps := ["row", "root", "p"]) (st := T.forward) (R := SpForward) bs hAt F7 (by decide +kernel) fit_forward b_forward (mOf_lt (by decide)) (sp_forward _ r_powers_of)
  have r_normal : SpNormal (P8.fn "normal") := by rw [o8 _ (by decide)]; exact r_normal
  have r_primes_for : SpPrimesFor (P8.fn "primes_for") := by rw [o8 _ (by decide)]; exact r_primes_for
  have r_plain_power : SpPower (P8.fn "plain_power") := by rw [o8 _ (by decide)]; exact r_plain_power
  have r_root_of_unity : SpRoot (P8.fn "root_of_unity") := by rw [o8 _ (by decide)]; exact r_root_of_unity
  have r_powers_of : SpPowersOf (P8.fn "powers_of") := by rw [o8 _ (by decide)]; exact r_powers_of
  obtain ⟨P9, F9, r_backward, o9⟩ := add_fn (P := P8) (M := mOf 3) (f := "backward") (nm := ["row", "root", "p", "found", "size", "turned", "half", "steps", "begin", "at", "one", "other", "share"]) (ps := ["row", "root", "p"]) (st := T.backward) (R := SpBackward) bs hAt F8 (by decide +kernel) fit_backward b_backward (mOf_lt (by decide)) (sp_backward _ r_plain_power r_powers_of)
  have r_normal : SpNormal (P9.fn "normal") := by rw [o9 _ (by decide)]; exact r_normal
  have r_primes_for : SpPrimesFor (P9.fn "primes_for") := by rw [o9 _ (by decide)]; exact r_primes_for
  have r_plain_power : SpPower (P9.fn "plain_power") := by rw [o9 _ (by decide)]; exact r_plain_power
  have r_root_of_unity : SpRoot (P9.fn "root_of_unity") := by rw [o9 _ (by decide)]; exact r_root_of_unity
  have r_forward : SpForward (P9.fn "forward") := by rw [o9 _ (by decide)]; exact r_forward
  obtain ⟨P10, F10, r_filled, o10⟩ := add_fn (P := P9) (M := mNo) (f := "filled") (nm := ["row", "size"]) (ps := ["row", "size"]) (st := T.filled) (R := SpFilled) bs hAt F9 (by decide +kernel) fit_filled b_filled (fun _ _ => rfl) (sp_filled _ )
  have r_normal : SpNormal (P10.fn "normal") := by rw [o10 _ (by decide)]; exact r_normal
  have r_primes_for : SpPrimesFor (P10.fn "primes_for") := by rw [o10 _ (by decide)]; exact r_primes_for
  have r_plain_power : SpPower (P10.fn "plain_power") := by rw [o10 _ (by decide)]; exact r_plain_power
  have r_root_of_unity : SpRoot (P10.fn "root_of_unity") := by rw [o10 _ (by decide)]; exact r_root_of_unity
  have r_forward : SpForward (P10.fn "forward") := by rw [o10 _ (by decide)]; exact r_forward
  have r_backward : SpBackward (P10.fn "backward") := by rw [o10 _ (by decide)]; exact r_backward
  obtain ⟨P11, F11, r_convolve, o11⟩ := add_fn (P := P10) (M := mNo) (f := "convolve") (nm := ["a", "b", "size", "p", "root", "here", "there"]) (ps := ["a", "b", "size", "p"]) (st := T.convolve) (R := SpConvolve) bs hAt F10 (by decide +kernel) fit_convolve b_convolve (fun _ _ => rfl) (sp_convolve _ r_root_of_unity r_filled r_forward r_backward)
  have r_normal : SpNormal (P11.fn "normal") := by rw [o11 _ (by decide)]; exact r_normal
  have r_primes_for : SpPrimesFor (P11.fn "primes_for") := by rw [o11 _ (by decide)]; exact r_primes_for
  have r_plain_power : SpPower (P11.fn "plain_power") := by rw [o11 _ (by decide)]; exact r_plain_power
  have r_filled : SpFilled (P11.fn "filled") := by rw [o11 _ (by decide)]; exact r_filled
  obtain ⟨P12, F12, r_mixed_digits, o12⟩ := add_fn (P := P11) (M := mOf 2) (f := "mixed_digits") (nm := ["rests", "primes", "found", "at", "p", "value", "unit", "digit", "other"]) (ps := ["rests", "primes"]) (st := T.mixedDigits) (R := SpMixed) bs hAt F11 (by decide +kernel) fit_mixed_digits b_mixed_digits (mOf_lt (by decide)) (sp_mixed _ r_plain_power)
  have r_normal : SpNormal (P12.fn "normal") := by rw [o12 _ (by decide)]; exact r_normal
  have r_primes_for : SpPrimesFor (P12.fn "primes_for") := by rw [o12 _ (by decide)]; exact r_primes_for
  have r_filled : SpFilled (P12.fn "filled") := by rw [o12 _ (by decide)]; exact r_filled
  have r_convolve : SpConvolve (P12.fn "convolve") := by rw [o12 _ (by decide)]; exact r_convolve
  obtain ⟨P13, F13, r_scaled, o13⟩ := add_fn (P := P12) (M := mOf 4) (f := "scaled") (nm := ["row", "factor", "more", "w", "found", "mask", "limb"]) (ps := ["row", "factor", "more", "w"]) (st := T.scaled) (R := SpScaled) bs hAt F12 (by decide +kernel) fit_scaled b_scaled (mOf_lt (by decide)) (sp_scaled _ r_normal)
  have r_normal : SpNormal (P13.fn "normal") := by rw [o13 _ (by decide)]; exact r_normal
  have r_primes_for : SpPrimesFor (P13.fn "primes_for") := by rw [o13 _ (by decide)]; exact r_primes_for
  have r_filled : SpFilled (P13.fn "filled") := by rw [o13 _ (by decide)]; exact r_filled
  have r_convolve : SpConvolve (P13.fn "convolve") := by rw [o13 _ (by decide)]; exact r_convolve
  have r_mixed_digits : SpMixed (P13.fn "mixed_digits") := by rw [o13 _ (by decide)]; exact r_mixed_digits
  obtain ⟨P14, F14, r_joined, o14⟩ := add_fn (P := P13) (M := mOf 4) (f := "joined") (nm := ["rests", "primes", "w", "digits", "found", "at"]) (ps := ["rests", "primes", "w"]) (st := T.joined) (R := SpJoined) bs hAt F13 (by decide +kernel) fit_joined b_joined (mOf_lt (by decide)) (sp_joined _ r_mixed_digits r_scaled)
  have r_normal : SpNormal (P14.fn "normal") := by rw [o14 _ (by decide)]; exact r_normal
  have r_primes_for : SpPrimesFor (P14.fn "primes_for") := by rw [o14 _ (by decide)]; exact r_primes_for
  have r_filled : SpFilled (P14.fn "filled") := by rw [o14 _ (by decide)]; exact r_filled
  have r_convolve : SpConvolve (P14.fn "convolve") := by rw [o14 _ (by decide)]; exact r_convolve
  have r_scaled : SpScaled (P14.fn "scaled") := by rw [o14 _ (by decide)]; exact r_scaled
  obtain ⟨P15, F15, r_settled, o15⟩ := add_fn (P := P14) (M := mOf 2) (f := "settled") (nm := ["columns", "w", "found", "carry", "mask", "column"]) (ps := ["columns", "w"]) (st := T.settled) (R := SpSettled) bs hAt F14 (by decide +kernel) fit_settled b_settled (mOf_lt (by decide)) (sp_settled _ r_normal)
  have r_primes_for : SpPrimesFor (P15.fn "primes_for") := by rw [o15 _ (by decide)]; exact r_primes_for
  have r_filled : SpFilled (P15.fn "filled") := by rw [o15 _ (by decide)]; exact r_filled
  have r_convolve : SpConvolve (P15.fn "convolve") := by rw [o15 _ (by decide)]; exact r_convolve
  have r_scaled : SpScaled (P15.fn "scaled") := by rw [o15 _ (by decide)]; exact r_scaled
  have r_joined : SpJoined (P15.fn "joined") := by rw [o15 _ (by decide)]; exact r_joined
  obtain ⟨P16, F16, r_size_for, o16⟩ := add_fn (P := P15) (M := mNo) (f := "size_for") (nm := ["many", "found"]) (ps := ["many"]) (st := T.sizeFor) (R := SpSizeFor) bs hAt F15 (by decide +kernel) fit_size_for b_size_for (fun _ _ => rfl) (sp_size_for _ )
  have r_primes_for : SpPrimesFor (P16.fn "primes_for") := by rw [o16 _ (by decide)]; exact r_primes_for
  have r_filled : SpFilled (P16.fn "filled") := by rw [o16 _ (by decide)]; exact r_filled
  have r_convolve : SpConvolve (P16.fn "convolve") := by rw [o16 _ (by decide)]; exact r_convolve
  have r_scaled : SpScaled (P16.fn "scaled") := by rw [o16 _ (by decide)]; exact r_scaled
  have r_joined : SpJoined (P16.fn "joined") := by rw [o16 _ (by decide)]; exact r_joined
  have r_settled : SpSettled (P16.fn "settled") := by rw [o16 _ (by decide)]; exact r_settled
  obtain ⟨P17, F17, r_mul_primes, o17⟩ := add_fn (P := P16) (M := mOf 7) (f := "mul_primes") (nm := ["a", "b", "w", "bound", "size", "primes", "rows", "columns", "at", "limbs", "spot", "limb"]) (ps := ["a", "b", "w", "bound"]) (st := T.mulPrimes) (R := SpMul) bs hAt F16 (by decide +kernel) fit_mul_primes b_mul_primes (mOf_lt (by decide)) (sp_mul _ r_size_for r_primes_for r_convolve r_joined r_filled r_settled)
  have r_primes_for : SpPrimesFor (P17.fn "primes_for") := by rw [o17 _ (by decide)]; exact r_primes_for
  have r_scaled : SpScaled (P17.fn "scaled") := by rw [o17 _ (by decide)]; exact r_scaled
  have r_settled : SpSettled (P17.fn "settled") := by rw [o17 _ (by decide)]; exact r_settled
  have r_size_for : SpSizeFor (P17.fn "size_for") := by rw [o17 _ (by decide)]; exact r_size_for
  obtain ⟨P18, F18, r__law_row, o18⟩ := add_fn (P := P17) (M := mOf 2) (f := "_law_row") (nm := ["number", "w", "found"]) (ps := ["number", "w"]) (st := T.lawRow) (R := SpLawRow) bs hAt F17 (by decide +kernel) fit_law_row b_law_row (mOf_lt (by decide)) (sp_law_row _ )
  have r_primes_for : SpPrimesFor (P18.fn "primes_for") := by rw [o18 _ (by decide)]; exact r_primes_for
  have r_scaled : SpScaled (P18.fn "scaled") := by rw [o18 _ (by decide)]; exact r_scaled
  have r_settled : SpSettled (P18.fn "settled") := by rw [o18 _ (by decide)]; exact r_settled
  have r_size_for : SpSizeFor (P18.fn "size_for") := by rw [o18 _ (by decide)]; exact r_size_for
  have r_mul_primes : SpMul (P18.fn "mul_primes") := by rw [o18 _ (by decide)]; exact r_mul_primes
  obtain ⟨P19, F19, r__law_of, o19⟩ := add_fn (P := P18) (M := mNo) (f := "_law_of") (nm := ["row", "w", "found", "limb"]) (ps := ["row", "w"]) (st := T.lawOf) (R := SpLawOf) bs hAt F18 (by decide +kernel) fit_law_of b_law_of (fun _ _ => rfl) (sp_law_of _ )
  have r_primes_for : SpPrimesFor (P19.fn "primes_for") := by rw [o19 _ (by decide)]; exact r_primes_for
  have r_scaled : SpScaled (P19.fn "scaled") := by rw [o19 _ (by decide)]; exact r_scaled
  have r_settled : SpSettled (P19.fn "settled") := by rw [o19 _ (by decide)]; exact r_settled
  have r_size_for : SpSizeFor (P19.fn "size_for") := by rw [o19 _ (by decide)]; exact r_size_for
  have r_mul_primes : SpMul (P19.fn "mul_primes") := by rw [o19 _ (by decide)]; exact r_mul_primes
  have r__law_row : SpLawRow (P19.fn "_law_row") := by rw [o19 _ (by decide)]; exact r__law_row
  obtain ⟨aT, haT, hfT⟩ := hAt "_law_take" (by decide +kernel)
  obtain ⟨aD, haD, hfD⟩ := hAt "_law_drawn" (by decide +kernel)
  have FT := fnsOk_take bs F19 haT hfT b_law_take
  have FD := fnsOk_drawn bs FT haD hfD b_law_drawn
  exact ⟨withDrawn (withTake P19), ⟨rfl, sp_drawn (withTake P19) rfl, r__law_row, r__law_of, r_mul_primes, r_primes_for, r_settled, r_scaled, r_size_for⟩, FD⟩
end
end NN

/-! the law's call in the laid world -/
namespace NN
open PySem PySem.W PyProof.Rows PySem.Calls

theorem room_caller : Room callerA 44 := ⟨rfl, by decide, by decide⟩

theorem law_goal {p : Program} {loose : List Str} {mean : ExcName → Option Value} {mg mb : Str → Option Value} {prog : Program} {w : PySem.World} {s : Shared} (T : Top p loose mean mg mb s.heap) (hr : recsOf p = recs)
    (hfree : ∀ x ∈ bltNames, x ∉ startupNames ∧ x ∉ loose ∧ x ∉ (recsOf p).map (·.name) ∧ x ∉ (litsOf p).map (·.1) ∧ x ∉ (clssOf p loose).map (·.name)) {fa : Addr} (hmg : mg "law" = some (.ref fa))
    {a : Addr} {vs : List Value} {l : List Int} (hL : s.heap.IsList a vs.toArray) (hI : IntsAre vs l) (hl : l.length ≤ 63) {R : Result → Shared → Prop} (hR : ∀ s', Kp none s s' → R (.ok (.ret (.bool true))) s') :
    codeAny (model prog w) callerA (.call (.ref fa) ⟨[.ref a], []⟩) R s := by
  obtain ⟨a', h1, h2, h3⟩ := rec_at T hr (f := "law") (by decide +kernel)
  rw [h1] at hmg
  cases hmg
  have bs := base_of_top T hr hfree
  obtain ⟨P, HS, HF⟩ := all_fns (prog := prog) (w := w) bs fun f hf => let ⟨a, _, h2, h3⟩ := rec_at T hr hf; ⟨a, h2, h3⟩
  exact law_walk bs HF HS h3 b_law room_caller (fun _ _ e => e) hL hI hl hR

theorem law_good {c : ClaimW} {cl : Str → Option Addr} {mean : ExcName → Option Value} {args : List WData} {s s' : Shared} (q : Kp none s s') (hg : s.gens = #[]) (hn : ∀ cls, c.raises args cls = false) (hp : c.post args (.bool true) args = true) :
    GoodW c cl mean args s (.ok (.ret (.bool true))) s' := by
  obtain ⟨⟨h, tk, rfl⟩, hk⟩ := q
  exact ⟨.inl ⟨.bool true, .bool true, [], rfl, hn, .bool true, hp, fun _ => ⟨.nil, fun _ h => nomatch h⟩⟩, fun b o e => hk b o (isBx_none b) e, rfl, hg⟩
end NN

end
open PySem PySem.W PyProof.Rows
set_option maxRecDepth 100000 in
set_option maxHeartbeats 8000000 in
theorem PySem.Challenge.cw_nn0013_01_holds : PySem.Challenge.rw_nn0013_01.Holds := by
  (w_on; o_law; o_head Hook.none; (case hw => w_witness2); w_strict (
    intro w s₀ s₁ mg mb G Y fa o pm cd doc dV kV ho hd hcd hD hmg hg args vals as hpre hlay hrd hwl hlo
    refine Ground.open G ?_
    intro T B D TE TW
    wrow_args hpre hlay hrd hwl hlo
    all_goals (
      first | refine callC_kw (enter_call ?_) | refine enter_call ?_ | refine callC_kw (enter_callW ?_) | refine enter_callW ?_
      refine codeAny_mono ?_ (fun _ _ g => GoodW.toG g)
      exact NN.law_goal T (by kernel_rfl) (by decide +kernel) hmg (by assumption) (by assumption) (by omega) (fun s' q => NN.law_good q hg (fun _ => rfl) (postW_of (by wrow_shape) (by wtm_val) rfl))
      )))
