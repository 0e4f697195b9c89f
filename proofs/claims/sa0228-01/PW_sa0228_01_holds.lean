import PyProof.Rows.All
import Wide.All
import OpenK.AllK
import Wide.FinOn
import Lean
import PySem.Challenge.RW_sa0228_01
open PySem PySem.W PyProof.Rows
set_option Elab.async false
set_option maxRecDepth 100000
set_option compiler.extract_closed false
set_option linter.unusedVariables false
set_option linter.unusedSimpArgs false
section
set_option genSizeOfSpec false
set_option genInjectivity true
namespace Mine
noncomputable section

/-! many at once: one case, no chains -/
inductive Ex1 {A0 : Type} (p : A0 → Prop) : Prop
  | mk (x0 : A0) (h : p x0)
inductive Ex2 {A0 A1 : Type} (p : A0 → A1 → Prop) : Prop
  | mk (x0 : A0) (x1 : A1) (h : p x0 x1)
inductive All2 (A0 A1 : Prop) : Prop
  | mk (h0 : A0) (h1 : A1)
inductive Ex3 {A0 A1 A2 : Type} (p : A0 → A1 → A2 → Prop) : Prop
  | mk (x0 : A0) (x1 : A1) (x2 : A2) (h : p x0 x1 x2)
inductive All3 (A0 A1 A2 : Prop) : Prop
  | mk (h0 : A0) (h1 : A1) (h2 : A2)
inductive Ex4 {A0 A1 A2 A3 : Type} (p : A0 → A1 → A2 → A3 → Prop) : Prop
  | mk (x0 : A0) (x1 : A1) (x2 : A2) (x3 : A3) (h : p x0 x1 x2 x3)
inductive All4 (A0 A1 A2 A3 : Prop) : Prop
  | mk (h0 : A0) (h1 : A1) (h2 : A2) (h3 : A3)
inductive Ex5 {A0 A1 A2 A3 A4 : Type} (p : A0 → A1 → A2 → A3 → A4 → Prop) : Prop
  | mk (x0 : A0) (x1 : A1) (x2 : A2) (x3 : A3) (x4 : A4) (h : p x0 x1 x2 x3 x4)
inductive All5 (A0 A1 A2 A3 A4 : Prop) : Prop
  | mk (h0 : A0) (h1 : A1) (h2 : A2) (h3 : A3) (h4 : A4)
inductive Ex6 {A0 A1 A2 A3 A4 A5 : Type} (p : A0 → A1 → A2 → A3 → A4 → A5 → Prop) : Prop
  | mk (x0 : A0) (x1 : A1) (x2 : A2) (x3 : A3) (x4 : A4) (x5 : A5) (h : p x0 x1 x2 x3 x4 x5)
inductive All6 (A0 A1 A2 A3 A4 A5 : Prop) : Prop
  | mk (h0 : A0) (h1 : A1) (h2 : A2) (h3 : A3) (h4 : A4) (h5 : A5)
inductive Ex7 {A0 A1 A2 A3 A4 A5 A6 : Type} (p : A0 → A1 → A2 → A3 → A4 → A5 → A6 → Prop) : Prop
  | mk (x0 : A0) (x1 : A1) (x2 : A2) (x3 : A3) (x4 : A4) (x5 : A5) (x6 : A6) (h : p x0 x1 x2 x3 x4 x5 x6)
inductive All7 (A0 A1 A2 A3 A4 A5 A6 : Prop) : Prop
  | mk (h0 : A0) (h1 : A1) (h2 : A2) (h3 : A3) (h4 : A4) (h5 : A5) (h6 : A6)
inductive Ex8 {A0 A1 A2 A3 A4 A5 A6 A7 : Type} (p : A0 → A1 → A2 → A3 → A4 → A5 → A6 → A7 → Prop) : Prop
  | mk (x0 : A0) (x1 : A1) (x2 : A2) (x3 : A3) (x4 : A4) (x5 : A5) (x6 : A6) (x7 : A7) (h : p x0 x1 x2 x3 x4 x5 x6 x7)
inductive All8 (A0 A1 A2 A3 A4 A5 A6 A7 : Prop) : Prop
  | mk (h0 : A0) (h1 : A1) (h2 : A2) (h3 : A3) (h4 : A4) (h5 : A5) (h6 : A6) (h7 : A7)
inductive Ex9 {A0 A1 A2 A3 A4 A5 A6 A7 A8 : Type} (p : A0 → A1 → A2 → A3 → A4 → A5 → A6 → A7 → A8 → Prop) : Prop
  | mk (x0 : A0) (x1 : A1) (x2 : A2) (x3 : A3) (x4 : A4) (x5 : A5) (x6 : A6) (x7 : A7) (x8 : A8) (h : p x0 x1 x2 x3 x4 x5 x6 x7 x8)
inductive All9 (A0 A1 A2 A3 A4 A5 A6 A7 A8 : Prop) : Prop
  | mk (h0 : A0) (h1 : A1) (h2 : A2) (h3 : A3) (h4 : A4) (h5 : A5) (h6 : A6) (h7 : A7) (h8 : A8)
/-! abstract values, the small language, its weakest preconditions -/
inductive V where
  | d (x : PyData)
  | l (n : Nat)
abbrev Rho := List (Option V)
abbrev Store := List (Option (List PyData))

inductive BOp | add | sub | mul | div | mod | pow
inductive COp | eq | ne | lt | le | gt | ge | inn | nin

inductive IE where
  | var (i : Nat) | int (i : Int) | bool (b : Bool)
  | bin (o : BOp) (a b : IE) | neg (a : IE) | not (a : IE)
  | and (a b : IE) | or (a b : IE)
  | cmp (a : IE) (o : COp) (b : IE) | cmp2 (a : IE) (o : COp) (b : IE) (o' : COp) (c : IE)
  | ite (c a b : IE)
  | idx (a i : IE) | slc (a : IE) (lo hi : Nat)
  | tup (es : IE) | lst (es : IE) | nil | cons (a r : IE)
  | comp (e src cond : IE)
  | rng1 (b : IE) | rng (a b : IE)
  | len (a : IE) | min2 (a b : IE) | tupOf (a : IE) | lstOf (a : IE) | tget (a b : IE)
  | app (x : Nat) (e : IE) | pop (x : Nat)
  | call (f : Str) (es : IE)

inductive IS where
  | skip | seq (a b : IS)
  | asg (x : Nat) (e : IE) | asgNew (x : Nat) (e : IE) | asgT (xs : List Nat) (e : IE)
  | aug (x : Nat) (o : BOp) (e : IE)
  | setIdx (x : Nat) (i v : IE)
  | ite (c : IE) (a b : IS)
  | loop (x : Nat) (src : IE) (body : IS)
  | wloop (c : IE) (body : IS)
  | frz (x : Nat)
  | ret (e : IE) | ex (e : IE) | fail

inductive Fl where
  | next
  | ret (v : V)

noncomputable def ob {α : Type} (o : Option α) (f : α → Prop) : Prop := match o with | some a => f a | none => False
@[simp] theorem ob_some {α : Type} (a : α) (f : α → Prop) : ob (some a) f = f a := rfl
@[simp] theorem ob_none {α : Type} (f : α → Prop) : ob (none : Option α) f = False := rfl
theorem ob_mono {α : Type} {o : Option α} {f g : α → Prop} (h : ob o f) (k : ∀ a, f a → g a) : ob o g := by
  cases o with | none => exact h | some a => exact k a h
theorem ob_iff {α : Type} {o : Option α} {f : α → Prop} : ob o f ↔ ∃ a, o = some a ∧ f a := by
  cases o with | none => simp [ob] | some a => simp [ob]

noncomputable def rdV (σ : Store) : V → Option PyData
  | .d x => some x
  | .l n => match σ[n]? with | some (some xs) => some (.list xs) | _ => none
noncomputable def rdD : V → Option PyData
  | .d x => some x
  | .l _ => none
noncomputable def loc? : V → Option Nat
  | .d _ => none
  | .l n => some n
noncomputable def seqP : PyData → Option (List PyData)
  | .list xs => some xs
  | .tuple xs => some xs
  | _ => none
noncomputable def listP : PyData → Option (List PyData)
  | .list xs => some xs
  | _ => none
noncomputable def tupP : PyData → Option (List PyData)
  | .tuple xs => some xs
  | _ => none
noncomputable def plainP : PyData → Bool
  | .list _ | .tuple _ => false
  | _ => true
noncomputable def flK : Fl → Prop → (V → Prop) → Prop
  | .next, P, _ => P
  | .ret v, _, Q => Q v
@[simp] theorem flK_next (P : Prop) (Q : V → Prop) : flK .next P Q = P := rfl
@[simp] theorem flK_ret (v : V) (P : Prop) (Q : V → Prop) : flK (.ret v) P Q = Q v := rfl
theorem flK_mono {fl : Fl} {P P' : Prop} {Q Q' : V → Prop} (h : flK fl P Q) (hp : P → P') (hq : ∀ v, Q v → Q' v) : flK fl P' Q' := by
  cases fl with
  | next => exact hp h
  | ret v => exact hq v h
noncomputable def intP : PyData → Option Int
  | .int i => some i
  | _ => none
noncomputable def truthP : PyData → Bool
  | .bool b => b
  | .int i => i != 0
  | .list xs => !xs.isEmpty
  | .tuple xs => !xs.isEmpty
  | _ => false

theorem lim_ex : ∃ n : Nat, n = 1048576 := ⟨_, rfl⟩
noncomputable def lim : Nat := lim_ex.choose
theorem lim_eq : lim = 1048576 := lim_ex.choose_spec
theorem big_ex : ∃ n : Int, n = 4611686018427387904 := ⟨_, rfl⟩
/-- a bound for ints that are multiplied or counted -/
noncomputable def big : Int := big_ex.choose
theorem big_eq : big = 4611686018427387904 := big_ex.choose_spec

noncomputable def intK {α : Type} (f : Int → Option α) (X : PyData) : Option α := match intP X with | some a => f a | none => none
noncomputable def intK2 {α : Type} (f : Int → Int → Option α) (X Y : PyData) : Option α := intK (fun a => intK (fun b => f a b) Y) X
noncomputable def addP (X Y : PyData) : Option PyData := match listP X with
  | some a => (match listP Y with | some b => if a.length + b.length ≤ lim then some (.list (a ++ b)) else none | none => none)
  | none => intK2 (fun a b => some (.int (a + b))) X Y
noncomputable def mulP (X Y : PyData) : Option PyData := match listP X with
  | some a => intK (fun b => if a ≠ [] ∧ b < big ∧ -big < b ∧ a.length * b.toNat ≤ lim then some (.list (List.replicate b.toNat a).flatten) else none) Y
  | none => intK2 (fun a b => if -big < a ∧ a < big ∧ -big < b ∧ b < big then some (.int (a * b)) else none) X Y
noncomputable def binP : BOp → PyData → PyData → Option PyData
  | .add => addP
  | .sub => intK2 fun a b => some (.int (a - b))
  | .mul => mulP
  | .div => intK2 fun a b => if 0 < b ∧ b < 1073741824 then some (.int (a.fdiv b)) else none
  | .mod => intK2 fun a b => if 0 < b then some (.int (a.fmod b)) else none
  | .pow => intK2 fun a b => if a = 5 ∧ 0 ≤ b ∧ b ≤ 8 then some (.int (a ^ b.toNat)) else none
theorem intP_some {X : PyData} {a : Int} (h : intP X = some a) : X = .int a := by
  unfold intP at h
  split at h
  · rw [Option.some.inj h]
  · cases h
theorem listP_some {X : PyData} {a : List PyData} (h : listP X = some a) : X = .list a := by
  unfold listP at h
  split at h
  · rw [Option.some.inj h]
  · cases h
theorem intK_some {α : Type} {f : Int → Option α} {X : PyData} {z : α} (h : intK f X = some z) : ∃ a, X = .int a ∧ f a = some z := by
  unfold intK at h
  split at h
  · rename_i a e; exact ⟨a, intP_some e, h⟩
  · cases h
theorem intK2_some {α : Type} {f : Int → Int → Option α} {X Y : PyData} {z : α} (h : intK2 f X Y = some z) : ∃ a b, X = .int a ∧ Y = .int b ∧ f a b = some z := by
  obtain ⟨a, e, h⟩ := intK_some h
  obtain ⟨b, e', h⟩ := intK_some h
  exact ⟨a, b, e, e', h⟩
theorem ite_some {α : Type} {c : Prop} [Decidable c] {a z : α} (h : (if c then some a else none) = some z) : c ∧ a = z := by
  by_cases hc : c
  · rw [if_pos hc] at h; exact ⟨hc, Option.some.inj h⟩
  · rw [if_neg hc] at h; cases h
theorem addP_some {X Y Z : PyData} (h : addP X Y = some Z) : (∃ a b, X = .list a ∧ Y = .list b ∧ a.length + b.length ≤ lim ∧ .list (a ++ b) = Z) ∨ (∃ a b, X = .int a ∧ Y = .int b ∧ .int (a + b) = Z) := by
  unfold addP at h
  split at h
  · rename_i a e
    split at h
    · rename_i b e'
      exact .inl ⟨a, b, listP_some e, listP_some e', ite_some h⟩
    · cases h
  · obtain ⟨a, b, e, e', h⟩ := intK2_some h
    exact .inr ⟨a, b, e, e', Option.some.inj h⟩
theorem mulP_some {X Y Z : PyData} (h : mulP X Y = some Z) : (∃ a b, X = .list a ∧ Y = .int b ∧ (a ≠ [] ∧ b < big ∧ -big < b ∧ a.length * b.toNat ≤ lim) ∧ .list (List.replicate b.toNat a).flatten = Z) ∨ (∃ a b, X = .int a ∧ Y = .int b ∧ (-big < a ∧ a < big ∧ -big < b ∧ b < big) ∧ .int (a * b) = Z) := by
  unfold mulP at h
  split at h
  · rename_i a e
    obtain ⟨b, e', h⟩ := intK_some h
    exact .inl ⟨a, b, listP_some e, e', ite_some h⟩
  · obtain ⟨a, b, e, e', h⟩ := intK2_some h
    exact .inr ⟨a, b, e, e', ite_some h⟩

noncomputable def eqP (X Y : PyData) : Option Bool := match intK2 (fun a b => some (decide (a = b))) X Y with
  | some z => some z
  | none => if SeqAt.shaped X && SeqAt.shaped Y then some (PyData.eqv X Y) else none
noncomputable def inP (x c : PyData) : Option Bool := match seqP c with
  | some ys => if SeqAt.shaped x && SeqAt.shaped c then some (ys.any fun y => PyData.eqv y x) else none
  | none => none
noncomputable def notP (o : Option Bool) : Option Bool := match o with | some b => some (!b) | none => none
noncomputable def cmpP : COp → PyData → PyData → Option Bool
  | .eq => eqP
  | .ne => fun X Y => notP (eqP X Y)
  | .lt => intK2 fun a b => some (decide (a < b))
  | .le => intK2 fun a b => some (decide (a ≤ b))
  | .gt => intK2 fun a b => some (decide (b < a))
  | .ge => intK2 fun a b => some (decide (b ≤ a))
  | .inn => inP
  | .nin => fun X Y => notP (inP X Y)
theorem eqP_some {X Y : PyData} {z : Bool} (h : eqP X Y = some z) : (∃ a b, X = .int a ∧ Y = .int b ∧ decide (a = b) = z) ∨ ((SeqAt.shaped X = true ∧ SeqAt.shaped Y = true) ∧ PyData.eqv X Y = z) := by
  unfold eqP at h
  split at h
  · rename_i z' e
    obtain rfl := Option.some.inj h
    obtain ⟨a, b, e1, e2, e3⟩ := intK2_some e
    exact .inl ⟨a, b, e1, e2, Option.some.inj e3⟩
  · obtain ⟨c, e⟩ := ite_some h
    exact .inr ⟨Bool.and_eq_true_iff.mp c, e⟩
theorem inP_some {X Y : PyData} {z : Bool} (h : inP X Y = some z) : ∃ ys, seqP Y = some ys ∧ (SeqAt.shaped X = true ∧ SeqAt.shaped Y = true) ∧ (ys.any fun y => PyData.eqv y X) = z := by
  unfold inP at h
  split at h
  · rename_i ys e
    obtain ⟨c, e'⟩ := ite_some h
    exact ⟨ys, e, Bool.and_eq_true_iff.mp c, e'⟩
  · cases h
theorem notP_some {o : Option Bool} {z : Bool} (h : notP o = some z) : ∃ b, o = some b ∧ (!b) = z := by
  unfold notP at h
  split at h
  · rename_i b; exact ⟨b, rfl, Option.some.inj h⟩
  · cases h

noncomputable def idxP (c i : PyData) : Option PyData := match seqP c, i with
  | some xs, .int k => if 0 ≤ k then xs[k.toNat]? else none
  | _, _ => none
noncomputable def slcP (lo hi : Nat) : PyData → Option PyData
  | .list xs => some (.list ((xs.take hi).drop lo))
  | .tuple xs => if lo ≤ xs.length then some (.tuple ((xs.take hi).drop lo)) else none
  | _ => none
noncomputable def rangeP (a b : Int) : List PyData := (List.range (b - a).toNat).map fun (i : Nat) => PyData.int (a + i)
noncomputable def getR (ρ : Rho) (i : Nat) : Option V := match ρ[i]? with | some v => v | none => none
noncomputable def setR (ρ : Rho) (i : Nat) (v : V) : Rho := ρ.set i (some v)
noncomputable def setRs : Rho → List Nat → List PyData → Rho
  | ρ, i :: is, x :: xs => setRs (setR ρ i (.d x)) is xs
  | ρ, _, _ => ρ
noncomputable def frzR (n : Nat) (xs : List PyData) (ρ : Rho) : Rho := ρ.map fun o => match o with
  | some (.l m) => if m = n then some (.d (.list xs)) else some (.l m)
  | o => o
noncomputable def getS (σ : Store) (n : Nat) : Option (List PyData) := match σ[n]? with | some xs => xs | none => none

abbrev KV := V → Store → Prop
abbrev KB := Bool → Store → Prop
abbrev KL := List V → Store → Prop
abbrev KD := List PyData → Store → Prop
abbrev KS := Fl → Rho → Store → Prop
structure R where
  E : Rho → Store → KV → Prop
  T : Rho → Store → KB → Prop
  L : Rho → Store → KL → Prop
  I : Rho → Store → KD → Prop

noncomputable def compV (t : Rho → Store → KB → Prop) (e : Rho → Store → KV → Prop) (ρ : Rho) : List PyData → List PyData → Store → KV → Prop
  | [], acc, σ, Q => Q (.d (.list acc)) σ
  | x :: xs, acc, σ, Q => t (some (.d x) :: ρ) σ fun b σ1 =>
      if b then e (some (.d x) :: ρ) σ1 fun v σ2 => ob (rdD v) fun X => compV t e ρ xs (acc ++ [X]) σ2 Q else compV t e ρ xs acc σ1 Q

noncomputable def ofE (E : Rho → Store → KV → Prop) : R where
  E := E
  T := fun ρ σ Q => E ρ σ fun v σ1 => ob (rdV σ1 v) fun X => Q (truthP X) σ1
  L := fun _ _ _ => False
  I := fun ρ σ Q => E ρ σ fun v σ1 => ob (rdD v) fun X => ob (seqP X) fun xs => Q xs σ1

section
variable (C : Str → List V → Store → KV → Prop) (tab : Int → Option Int)

noncomputable def vcX : IE → R
  | .var i => ofE fun ρ σ Q => ob (getR ρ i) fun v => Q v σ
  | .int i => ofE fun _ σ Q => Q (.d (.int i)) σ
  | .bool b => ofE fun _ σ Q => Q (.d (.bool b)) σ
  | .bin o a b => ofE fun ρ σ Q => (vcX a).E ρ σ fun x σ1 => (vcX b).E ρ σ1 fun y σ2 => ob (rdV σ2 x) fun X => ob (rdV σ2 y) fun Y => ob (binP o X Y) fun Z => Q (.d Z) σ2
  | .neg a => ofE fun ρ σ Q => (vcX a).E ρ σ fun x σ1 => ob (rdV σ1 x) fun X => ob (intP X) fun i => Q (.d (.int (-i))) σ1
  | .not a => { ofE (fun ρ σ Q => (vcX a).E ρ σ fun x σ1 => ob (rdV σ1 x) fun X => Q (.d (.bool (!truthP X))) σ1) with
      T := fun ρ σ Q => (vcX a).T ρ σ fun b σ1 => Q (!b) σ1 }
  | .and a b => { ofE (fun ρ σ Q => (vcX a).E ρ σ fun x σ1 => ob (rdV σ1 x) fun X => if truthP X then (vcX b).E ρ σ1 Q else Q x σ1) with
      T := fun ρ σ Q => (vcX a).T ρ σ fun x σ1 => if x then (vcX b).T ρ σ1 Q else Q false σ1 }
  | .or a b => { ofE (fun ρ σ Q => (vcX a).E ρ σ fun x σ1 => ob (rdV σ1 x) fun X => if truthP X then Q x σ1 else (vcX b).E ρ σ1 Q) with
      T := fun ρ σ Q => (vcX a).T ρ σ fun x σ1 => if x then Q true σ1 else (vcX b).T ρ σ1 Q }
  | .cmp a o b => ofE fun ρ σ Q => (vcX a).E ρ σ fun x σ1 => (vcX b).E ρ σ1 fun y σ2 => ob (rdV σ2 x) fun X => ob (rdV σ2 y) fun Y => ob (cmpP o X Y) fun z => Q (.d (.bool z)) σ2
  | .cmp2 a o b o' c => ofE fun ρ σ Q => (vcX a).E ρ σ fun x σ1 => (vcX b).E ρ σ1 fun y σ2 => ob (rdV σ2 x) fun X => ob (rdV σ2 y) fun Y => ob (cmpP o X Y) fun z =>
      if z then (vcX c).E ρ σ2 fun y' σ3 => ob (rdV σ3 y) fun Y => ob (rdV σ3 y') fun Y' => ob (cmpP o' Y Y') fun z => Q (.d (.bool z)) σ3 else Q (.d (.bool false)) σ2
  | .ite c a b => { ofE (fun ρ σ Q => (vcX c).T ρ σ fun t σ1 => if t then (vcX a).E ρ σ1 Q else (vcX b).E ρ σ1 Q) with
      T := fun ρ σ Q => (vcX c).T ρ σ fun t σ1 => if t then (vcX a).T ρ σ1 Q else (vcX b).T ρ σ1 Q }
  | .idx a i => ofE fun ρ σ Q => (vcX a).E ρ σ fun x σ1 => (vcX i).E ρ σ1 fun y σ2 => ob (rdV σ2 x) fun X => ob (rdV σ2 y) fun Y => ob (idxP X Y) fun Z => Q (.d Z) σ2
  | .slc a lo hi => ofE fun ρ σ Q => (vcX a).E ρ σ fun x σ1 => ob (rdV σ1 x) fun X => ob (slcP lo hi X) fun Z => Q (.d Z) σ1
  | .tup es => ofE fun ρ σ Q => (vcX es).L ρ σ fun vs σ1 => ob (vs.mapM rdD) fun xs => xs.length ≤ lim ∧ Q (.d (.tuple xs)) σ1
  | .lst es => ofE fun ρ σ Q => (vcX es).L ρ σ fun vs σ1 => ob (vs.mapM rdD) fun xs => xs.length ≤ lim ∧ Q (.d (.list xs)) σ1
  | .nil => { E := fun _ _ _ => False, T := fun _ σ Q => Q true σ, L := fun _ σ Q => Q [] σ, I := fun _ _ _ => False }
  | .cons a r => { E := fun _ _ _ => False
                   T := fun ρ σ Q => (vcX a).T ρ σ fun x σ1 => if x then (vcX r).T ρ σ1 Q else Q false σ1
                   L := fun ρ σ Q => (vcX a).E ρ σ fun v σ1 => (vcX r).L ρ σ1 fun vs σ2 => Q (v :: vs) σ2
                   I := fun _ _ _ => False }
  | .comp e src cond => ofE fun ρ σ Q => (vcX src).I ρ σ fun xs σ1 => xs.length ≤ lim ∧ compV (vcX cond).T (vcX e).E ρ xs [] σ1 Q
  | .rng1 b => { E := fun _ _ _ => False, T := fun _ _ _ => False, L := fun _ _ _ => False
                 I := fun ρ σ Q => (vcX b).E ρ σ fun y σ1 => ob (rdD y) fun Y => ob (intP Y) fun j => -big < j ∧ j < big ∧ (rangeP 0 j).length ≤ 2 * lim + 2 * lim ∧ Q (rangeP 0 j) σ1 }
  | .rng a b => { E := fun _ _ _ => False, T := fun _ _ _ => False, L := fun _ _ _ => False
                  I := fun ρ σ Q => (vcX a).E ρ σ fun x σ1 => (vcX b).E ρ σ1 fun y σ2 => ob (rdD x) fun X => ob (rdD y) fun Y => ob (intP X) fun i => ob (intP Y) fun j =>
                    -big < i ∧ i < big ∧ -big < j ∧ j < big ∧ (rangeP i j).length ≤ 2 * lim + 2 * lim ∧ Q (rangeP i j) σ2 }
  | .len a => ofE fun ρ σ Q => (vcX a).E ρ σ fun x σ1 => ob (rdV σ1 x) fun X => ob (seqP X) fun xs => Q (.d (.int xs.length)) σ1
  | .min2 a b => ofE fun ρ σ Q => (vcX a).E ρ σ fun x σ1 => (vcX b).E ρ σ1 fun y σ2 => ob (rdD x) fun X => ob (rdD y) fun Y => ob (intP X) fun i => ob (intP Y) fun j => Q (.d (.int (if j < i then j else i))) σ2
  | .tupOf a => ofE fun ρ σ Q => (vcX a).E ρ σ fun x σ1 => ob (rdV σ1 x) fun X => ob (listP X) fun xs => Q (.d (.tuple xs)) σ1
  | .lstOf a => ofE fun ρ σ Q => (vcX a).E ρ σ fun x σ1 => ob (rdV σ1 x) fun X => ob (seqP X) fun xs => Q (.d (.list xs)) σ1
  | .tget a b => ofE fun ρ σ Q => (vcX a).E ρ σ fun x σ1 => (vcX b).E ρ σ1 fun y σ2 => ob (rdD x) fun X => ob (rdD y) fun Y => ob (intP X) fun i => ob (intP Y) fun j => Q (.d (.int ((tab i).getD j))) σ2
  | .app x e => ofE fun ρ σ Q => ob (getR ρ x) fun v => ob (loc? v) fun n => ob (getS σ n) fun _ => (vcX e).E ρ σ fun w σ1 => ob (rdD w) fun X => ob (getS σ1 n) fun xs => xs.length < lim ∧ Q (.d .none) (σ1.set n (some (xs ++ [X])))
  | .pop x => ofE fun ρ σ Q => ob (getR ρ x) fun v => ob (loc? v) fun n => ob (getS σ n) fun xs => ob xs.getLast? fun X => Q (.d X) (σ.set n (some xs.dropLast))
  | .call f es => ofE fun ρ σ Q => (vcX es).L ρ σ fun vs σ1 => C f vs σ1 Q

noncomputable def forV (f : PyData → Rho → Store → KS → Prop) : List PyData → Rho → Store → KS → Prop
  | [], ρ, σ, Q => Q .next ρ σ
  | x :: xs, ρ, σ, Q => f x ρ σ fun fl ρ1 σ1 => flK fl (forV f xs ρ1 σ1 Q) fun v => Q (.ret v) ρ1 σ1
noncomputable def whileV (t : Rho → Store → KB → Prop) (f : Rho → Store → KS → Prop) : Nat → Rho → Store → KS → Prop
  | 0, _, _, _ => False
  | n + 1, ρ, σ, Q => t ρ σ fun b σ1 => if b then f ρ σ1 fun fl ρ1 σ1 => flK fl (whileV t f n ρ1 σ1 Q) fun v => Q (.ret v) ρ1 σ1
      else Q .next ρ σ1

noncomputable def vcS : IS → Rho → Store → KS → Prop
  | .skip, ρ, σ, Q => Q .next ρ σ
  | .seq a b, ρ, σ, Q => vcS a ρ σ fun fl ρ1 σ1 => flK fl (vcS b ρ1 σ1 Q) fun v => Q (.ret v) ρ1 σ1
  | .asg x e, ρ, σ, Q => (vcX C tab e).E ρ σ fun v σ1 => Q .next (setR ρ x v) σ1
  | .asgNew x e, ρ, σ, Q => (vcX C tab e).E ρ σ fun v σ1 => ob (rdD v) fun X => ob (listP X) fun xs => Q .next (setR ρ x (.l σ1.length)) (σ1 ++ [some xs])
  | .asgT is e, ρ, σ, Q => (vcX C tab e).E ρ σ fun v σ1 => ob (rdD v) fun X => ob (tupP X) fun xs => xs.length = is.length ∧ Q .next (setRs ρ is xs) σ1
  | .aug x o e, ρ, σ, Q => ob (getR ρ x) fun old => ob (rdD old) fun X => ob (intP X) fun i => (vcX C tab e).E ρ σ fun v σ1 => ob (rdD v) fun Y => ob (intP Y) fun j => o = .add ∧ Q .next (setR ρ x (.d (.int (i + j)))) σ1
  | .setIdx x i v, ρ, σ, Q => (vcX C tab v).E ρ σ fun vv σ1 => ob (rdD vv) fun X => ob (getR ρ x) fun lv => ob (loc? lv) fun n => (vcX C tab i).E ρ σ1 fun iv σ2 => ob (rdD iv) fun I => ob (intP I) fun j =>
      ob (getS σ2 n) fun xs => 0 ≤ j ∧ j < xs.length ∧ Q .next ρ (σ2.set n (some (xs.set j.toNat X)))
  | .ite c a b, ρ, σ, Q => (vcX C tab c).T ρ σ fun t σ1 => if t then vcS a ρ σ1 Q else vcS b ρ σ1 Q
  | .loop x src body, ρ, σ, Q => (vcX C tab src).I ρ σ fun xs σ1 => forV (fun v ρ σ K => vcS body (setR ρ x (.d v)) σ K) xs ρ σ1 Q
  | .wloop c body, ρ, σ, Q => ∃ n, whileV (vcX C tab c).T (fun ρ σ K => vcS body ρ σ K) n ρ σ Q
  | .frz x, ρ, σ, Q => ob (getR ρ x) fun v => ob (loc? v) fun n => ob (getS σ n) fun xs => Q .next (frzR n xs ρ) (σ.set n none)
  | .ret e, ρ, σ, Q => (vcX C tab e).E ρ σ fun v σ1 => Q (.ret v) ρ σ1
  | .ex e, ρ, σ, Q => (vcX C tab e).E ρ σ fun v σ1 => Q .next ρ σ1
  | .fail, _, _, _ => False
end

/-! monotone -/
noncomputable def MonoC (C : Str → List V → Store → KV → Prop) : Prop := ∀ f vs σ (Q Q' : KV), C f vs σ Q → (∀ v σ', Q v σ' → Q' v σ') → C f vs σ Q'
structure R.Mono (r : R) : Prop where
  E : ∀ ρ σ (Q Q' : KV), r.E ρ σ Q → (∀ v σ', Q v σ' → Q' v σ') → r.E ρ σ Q'
  T : ∀ ρ σ (Q Q' : KB), r.T ρ σ Q → (∀ v σ', Q v σ' → Q' v σ') → r.T ρ σ Q'
  L : ∀ ρ σ (Q Q' : KL), r.L ρ σ Q → (∀ v σ', Q v σ' → Q' v σ') → r.L ρ σ Q'
  I : ∀ ρ σ (Q Q' : KD), r.I ρ σ Q → (∀ v σ', Q v σ' → Q' v σ') → r.I ρ σ Q'
theorem R.Mono.ofE {E : Rho → Store → KV → Prop} (h : ∀ ρ σ (Q Q' : KV), E ρ σ Q → (∀ v σ', Q v σ' → Q' v σ') → E ρ σ Q') : (Mine.ofE E).Mono where
  E := h
  T := fun ρ σ Q Q' a k => h _ _ _ _ a fun v σ' q => ob_mono q fun _ q => k _ _ q
  L := fun _ _ _ _ a _ => a
  I := fun ρ σ Q Q' a k => h _ _ _ _ a fun v σ' q => ob_mono q fun _ q => ob_mono q fun _ q => k _ _ q
theorem compV_mono {t : Rho → Store → KB → Prop} {e : Rho → Store → KV → Prop} (ht : ∀ ρ σ (Q Q' : KB), t ρ σ Q → (∀ v σ', Q v σ' → Q' v σ') → t ρ σ Q')
    (he : ∀ ρ σ (Q Q' : KV), e ρ σ Q → (∀ v σ', Q v σ' → Q' v σ') → e ρ σ Q') (ρ : Rho) : ∀ xs acc σ (Q Q' : KV), compV t e ρ xs acc σ Q → (∀ v σ', Q v σ' → Q' v σ') → compV t e ρ xs acc σ Q'
  | [], _, _, _, _, a, k => k _ _ a
  | x :: xs, acc, σ, Q, Q', a, k => ht _ _ _ _ a fun b σ1 q => by
      cases b with
      | true => simp only [if_true] at q ⊢; exact he _ _ _ _ q fun v σ2 q => ob_mono q fun X q => compV_mono ht he ρ xs _ _ _ _ q k
      | false => simp only [Bool.false_eq_true, if_false] at q ⊢; exact compV_mono ht he ρ xs _ _ _ _ q k
theorem ite_mono {b : Bool} {P Q P' Q' : Prop} (h : if b then P else Q) (hp : P → P') (hq : Q → Q') : if b then P' else Q' := by
  cases b <;> simp_all

theorem vcX_mono {C : Str → List V → Store → KV → Prop} {tab : Int → Option Int} (hC : MonoC C) (e : IE) : (vcX C tab e).Mono := by
  induction e with
  | var i => exact .ofE fun _ _ _ _ a k => ob_mono a fun _ q => k _ _ q
  | int i => exact .ofE fun _ _ _ _ a k => k _ _ a
  | bool b => exact .ofE fun _ _ _ _ a k => k _ _ a
  | bin o a b ha hb => exact .ofE fun _ _ _ _ q k => ha.E _ _ _ _ q fun _ _ q => hb.E _ _ _ _ q fun _ _ q => ob_mono q fun _ q => ob_mono q fun _ q => ob_mono q fun _ q => k _ _ q
  | neg a ha => exact .ofE fun _ _ _ _ q k => ha.E _ _ _ _ q fun _ _ q => ob_mono q fun _ q => ob_mono q fun _ q => k _ _ q
  | not a ha =>
    have h := R.Mono.ofE (E := fun ρ σ Q => (vcX C tab a).E ρ σ fun x σ1 => ob (rdV σ1 x) fun X => Q (.d (.bool (!truthP X))) σ1) fun _ _ _ _ q k => ha.E _ _ _ _ q fun _ _ q => ob_mono q fun _ q => k _ _ q
    exact ⟨h.E, fun _ _ _ _ q k => ha.T _ _ _ _ q fun _ _ q => k _ _ q, h.L, h.I⟩
  | and a b ha hb =>
    have h := R.Mono.ofE (E := fun ρ σ Q => (vcX C tab a).E ρ σ fun x σ1 => ob (rdV σ1 x) fun X => if truthP X then (vcX C tab b).E ρ σ1 Q else Q x σ1) fun _ _ _ _ q k => ha.E _ _ _ _ q fun _ _ q => ob_mono q fun _ q => ite_mono q (fun q => hb.E _ _ _ _ q k) fun q => k _ _ q
    exact ⟨h.E, fun _ _ _ _ q k => ha.T _ _ _ _ q fun _ _ q => ite_mono q (fun q => hb.T _ _ _ _ q k) fun q => k _ _ q, h.L, h.I⟩
  | or a b ha hb =>
    have h := R.Mono.ofE (E := fun ρ σ Q => (vcX C tab a).E ρ σ fun x σ1 => ob (rdV σ1 x) fun X => if truthP X then Q x σ1 else (vcX C tab b).E ρ σ1 Q) fun _ _ _ _ q k => ha.E _ _ _ _ q fun _ _ q => ob_mono q fun _ q => ite_mono q (fun q => k _ _ q) fun q => hb.E _ _ _ _ q k
    exact ⟨h.E, fun _ _ _ _ q k => ha.T _ _ _ _ q fun _ _ q => ite_mono q (fun q => k _ _ q) fun q => hb.T _ _ _ _ q k, h.L, h.I⟩
  | cmp a o b ha hb => exact .ofE fun _ _ _ _ q k => ha.E _ _ _ _ q fun _ _ q => hb.E _ _ _ _ q fun _ _ q => ob_mono q fun _ q => ob_mono q fun _ q => ob_mono q fun _ q => k _ _ q
  | cmp2 a o b o' c ha hb hc => exact .ofE fun _ _ _ _ q k => ha.E _ _ _ _ q fun _ _ q => hb.E _ _ _ _ q fun _ _ q => ob_mono q fun _ q => ob_mono q fun _ q => ob_mono q fun _ q => ite_mono q (fun q => hc.E _ _ _ _ q fun _ _ q => ob_mono q fun _ q => ob_mono q fun _ q => ob_mono q fun _ q => k _ _ q) fun q => k _ _ q
  | ite c a b hc ha hb =>
    have h := R.Mono.ofE (E := fun ρ σ Q => (vcX C tab c).T ρ σ fun t σ1 => if t then (vcX C tab a).E ρ σ1 Q else (vcX C tab b).E ρ σ1 Q) fun _ _ _ _ q k => hc.T _ _ _ _ q fun _ _ q => ite_mono q (fun q => ha.E _ _ _ _ q k) fun q => hb.E _ _ _ _ q k
    exact ⟨h.E, fun _ _ _ _ q k => hc.T _ _ _ _ q fun _ _ q => ite_mono q (fun q => ha.T _ _ _ _ q k) fun q => hb.T _ _ _ _ q k, h.L, h.I⟩
  | idx a b ha hb => exact .ofE fun _ _ _ _ q k => ha.E _ _ _ _ q fun _ _ q => hb.E _ _ _ _ q fun _ _ q => ob_mono q fun _ q => ob_mono q fun _ q => ob_mono q fun _ q => k _ _ q
  | slc a lo hi ha => exact .ofE fun _ _ _ _ q k => ha.E _ _ _ _ q fun _ _ q => ob_mono q fun _ q => ob_mono q fun _ q => k _ _ q
  | tup es h => exact .ofE fun _ _ _ _ q k => h.L _ _ _ _ q fun _ _ q => ob_mono q fun _ q => ⟨q.1, k _ _ q.2⟩
  | lst es h => exact .ofE fun _ _ _ _ q k => h.L _ _ _ _ q fun _ _ q => ob_mono q fun _ q => ⟨q.1, k _ _ q.2⟩
  | nil => exact ⟨fun _ _ _ _ q _ => q, fun _ _ _ _ q k => k _ _ q, fun _ _ _ _ q k => k _ _ q, fun _ _ _ _ q _ => q⟩
  | cons a r ha hr => exact ⟨fun _ _ _ _ q _ => q, fun _ _ _ _ q k => ha.T _ _ _ _ q fun _ _ q => ite_mono q (fun q => hr.T _ _ _ _ q k) fun q => k _ _ q,
      fun _ _ _ _ q k => ha.E _ _ _ _ q fun _ _ q => hr.L _ _ _ _ q fun _ _ q => k _ _ q, fun _ _ _ _ q _ => q⟩
  | comp e src cond he hs hc => exact .ofE fun _ _ _ _ q k => hs.I _ _ _ _ q fun _ _ q => ⟨q.1, compV_mono hc.T he.E _ _ _ _ _ _ q.2 k⟩
  | rng1 b hb => exact ⟨fun _ _ _ _ q _ => q, fun _ _ _ _ q _ => q, fun _ _ _ _ q _ => q, fun _ _ _ _ q k => hb.E _ _ _ _ q fun _ _ q => ob_mono q fun _ q => ob_mono q fun _ q => ⟨q.1, q.2.1, q.2.2.1, k _ _ q.2.2.2⟩⟩
  | rng a b ha hb => exact ⟨fun _ _ _ _ q _ => q, fun _ _ _ _ q _ => q, fun _ _ _ _ q _ => q, fun _ _ _ _ q k => ha.E _ _ _ _ q fun _ _ q => hb.E _ _ _ _ q fun _ _ q => ob_mono q fun _ q => ob_mono q fun _ q => ob_mono q fun _ q => ob_mono q fun _ q => ⟨q.1, q.2.1, q.2.2.1, q.2.2.2.1, q.2.2.2.2.1, k _ _ q.2.2.2.2.2⟩⟩
  | len a ha => exact .ofE fun _ _ _ _ q k => ha.E _ _ _ _ q fun _ _ q => ob_mono q fun _ q => ob_mono q fun _ q => k _ _ q
  | min2 a b ha hb => exact .ofE fun _ _ _ _ q k => ha.E _ _ _ _ q fun _ _ q => hb.E _ _ _ _ q fun _ _ q => ob_mono q fun _ q => ob_mono q fun _ q => ob_mono q fun _ q => ob_mono q fun _ q => k _ _ q
  | tupOf a ha => exact .ofE fun _ _ _ _ q k => ha.E _ _ _ _ q fun _ _ q => ob_mono q fun _ q => ob_mono q fun _ q => k _ _ q
  | lstOf a ha => exact .ofE fun _ _ _ _ q k => ha.E _ _ _ _ q fun _ _ q => ob_mono q fun _ q => ob_mono q fun _ q => k _ _ q
  | tget a b ha hb => exact .ofE fun _ _ _ _ q k => ha.E _ _ _ _ q fun _ _ q => hb.E _ _ _ _ q fun _ _ q => ob_mono q fun _ q => ob_mono q fun _ q => ob_mono q fun _ q => ob_mono q fun _ q => k _ _ q
  | app x e he => exact .ofE fun _ _ _ _ q k => ob_mono q fun _ q => ob_mono q fun _ q => ob_mono q fun _ q => he.E _ _ _ _ q fun _ _ q => ob_mono q fun _ q => ob_mono q fun _ q => ⟨q.1, k _ _ q.2⟩
  | pop x => exact .ofE fun _ _ _ _ q k => ob_mono q fun _ q => ob_mono q fun _ q => ob_mono q fun _ q => ob_mono q fun _ q => k _ _ q
  | call f es h => exact .ofE fun _ _ _ _ q k => h.L _ _ _ _ q fun _ _ q => hC _ _ _ _ _ q k

theorem forV_mono {f : PyData → Rho → Store → KS → Prop} (hf : ∀ x ρ σ (Q Q' : KS), f x ρ σ Q → (∀ fl ρ' σ', Q fl ρ' σ' → Q' fl ρ' σ') → f x ρ σ Q') :
    ∀ xs ρ σ (Q Q' : KS), forV f xs ρ σ Q → (∀ fl ρ' σ', Q fl ρ' σ' → Q' fl ρ' σ') → forV f xs ρ σ Q'
  | [], _, _, _, _, q, k => k _ _ _ q
  | x :: xs, ρ, σ, Q, Q', q, k => hf _ _ _ _ _ q fun _ _ _ q => flK_mono q (fun q => forV_mono hf xs _ _ _ _ q k) fun _ q => k _ _ _ q
theorem whileV_mono {t : Rho → Store → KB → Prop} {f : Rho → Store → KS → Prop} (ht : ∀ ρ σ (Q Q' : KB), t ρ σ Q → (∀ v σ', Q v σ' → Q' v σ') → t ρ σ Q')
    (hf : ∀ ρ σ (Q Q' : KS), f ρ σ Q → (∀ fl ρ' σ', Q fl ρ' σ' → Q' fl ρ' σ') → f ρ σ Q') :
    ∀ n ρ σ (Q Q' : KS), whileV t f n ρ σ Q → (∀ fl ρ' σ', Q fl ρ' σ' → Q' fl ρ' σ') → whileV t f n ρ σ Q'
  | 0, _, _, _, _, q, _ => q
  | n + 1, ρ, σ, Q, Q', q, k => ht _ _ _ _ q fun b σ1 q => ite_mono q (fun q => hf _ _ _ _ q fun _ _ _ q => flK_mono q (fun q => whileV_mono ht hf n _ _ _ _ q k) fun _ q => k _ _ _ q) fun q => k _ _ _ q

theorem vcS_mono {C : Str → List V → Store → KV → Prop} {tab : Int → Option Int} (hC : MonoC C) (e : IS) : ∀ ρ σ (Q Q' : KS), vcS C tab e ρ σ Q → (∀ fl ρ' σ', Q fl ρ' σ' → Q' fl ρ' σ') → vcS C tab e ρ σ Q' := by
  have hX := fun e => vcX_mono (tab := tab) hC e
  induction e with
  | skip => exact fun _ _ _ _ q k => k _ _ _ q
  | seq a b ha hb => exact fun _ _ _ _ q k => ha _ _ _ _ q fun _ _ _ q => flK_mono q (fun q => hb _ _ _ _ q k) fun _ q => k _ _ _ q
  | asg x e => exact fun _ _ _ _ q k => (hX e).E _ _ _ _ q fun _ _ q => k _ _ _ q
  | asgNew x e => exact fun _ _ _ _ q k => (hX e).E _ _ _ _ q fun _ _ q => ob_mono q fun _ q => ob_mono q fun _ q => k _ _ _ q
  | asgT x e => exact fun _ _ _ _ q k => (hX e).E _ _ _ _ q fun _ _ q => ob_mono q fun _ q => ob_mono q fun _ q => ⟨q.1, k _ _ _ q.2⟩
  | aug x o e => exact fun _ _ _ _ q k => ob_mono q fun _ q => ob_mono q fun _ q => ob_mono q fun _ q => (hX e).E _ _ _ _ q fun _ _ q => ob_mono q fun _ q => ob_mono q fun _ q => ⟨q.1, k _ _ _ q.2⟩
  | setIdx x i v => exact fun _ _ _ _ q k => (hX v).E _ _ _ _ q fun _ _ q => ob_mono q fun _ q => ob_mono q fun _ q => ob_mono q fun _ q => (hX i).E _ _ _ _ q fun _ _ q => ob_mono q fun _ q => ob_mono q fun _ q => ob_mono q fun _ q => ⟨q.1, q.2.1, k _ _ _ q.2.2⟩
  | ite c a b ha hb => exact fun _ _ _ _ q k => (hX c).T _ _ _ _ q fun _ _ q => ite_mono q (fun q => ha _ _ _ _ q k) fun q => hb _ _ _ _ q k
  | loop x src body hb => exact fun _ _ _ _ q k => (hX src).I _ _ _ _ q fun _ _ q => forV_mono (fun v ρ σ Q Q' q k => hb (setR ρ x (.d v)) σ Q Q' q k) _ _ _ _ _ q k
  | wloop c body hb => exact fun _ _ _ _ ⟨n, q⟩ k => ⟨n, whileV_mono (hX c).T (fun ρ σ Q Q' q k => hb ρ σ Q Q' q k) _ _ _ _ _ q k⟩
  | frz x => exact fun _ _ _ _ q k => ob_mono q fun _ q => ob_mono q fun _ q => ob_mono q fun _ q => k _ _ _ q
  | ret e => exact fun _ _ _ _ q k => (hX e).E _ _ _ _ q fun _ _ q => k _ _ _ q
  | ex e => exact fun _ _ _ _ q k => (hX e).E _ _ _ _ q fun _ _ q => k _ _ _ q
  | fail => exact fun _ _ _ _ q _ => q
end
end Mine
end
section
namespace Mine

noncomputable def Muts (α : List Addr) (σ : Store) (a : Addr) : Prop := ∃ (n : Nat) (xs : List PyData), α[n]? = some a ∧ σ[n]? = some (some xs)
noncomputable def Mu (H : Addr → Prop) (α : List Addr) (σ : Store) (a : Addr) : Prop := H a ∨ Muts α σ a
noncomputable def isSeq (o : Obj) : Prop := ∃ xs n, o.data = .seq xs n

mutual
noncomputable def Rd (h : Heap) (M : Addr → Prop) : PyData → Value → Prop
  | .none, v => v = .none
  | .bool b, v => v = .bool b
  | .int i, v => ∃ t, v = .int i t
  | .str _, _ => False
  | .list xs, v => ∃ a vs, v = .ref a ∧ ¬ M a ∧ h.IsList a vs.toArray ∧ xs.length ≤ lim ∧ RdAll h M xs vs
  | .tuple xs, v => ∃ a vs, v = .ref a ∧ ¬ M a ∧ IsTup h a vs.toArray ∧ xs.length ≤ lim ∧ RdAll h M xs vs
  | .dict _, _ => False
noncomputable def RdAll (h : Heap) (M : Addr → Prop) : List PyData → List Value → Prop
  | [], vs => vs = []
  | x :: xs, vs => ∃ v r, vs = v :: r ∧ Rd h M x v ∧ RdAll h M xs r
end

section
variable {h h' : Heap} {M M' : Addr → Prop}
mutual
theorem Rd.mono (hk : ∀ a o, h.get? a = some o → ¬ M a → isSeq o → h'.get? a = some o) (hm : ∀ a o, h.get? a = some o → M' a → M a) : ∀ (d : PyData) (v : Value), Rd h M d v → Rd h' M' d v
  | .none, _, q => by rw [Rd] at q ⊢; exact q
  | .bool _, _, q => by rw [Rd] at q ⊢; exact q
  | .int _, _, q => by rw [Rd] at q ⊢; exact q
  | .str _, _, q => by rw [Rd] at q; exact q.elim
  | .dict _, _, q => by rw [Rd] at q; exact q.elim
  | .list xs, _, q => by
    rw [Rd] at q ⊢
    obtain ⟨a, vs, e, hn, ⟨o, ho, hc, n, hd⟩, hl, r⟩ := q
    exact ⟨a, vs, e, fun x => hn (hm _ _ ho x), ⟨o, hk _ _ ho hn ⟨_, _, hd⟩, hc, n, hd⟩, hl, RdAll.mono hk hm _ _ r⟩
  | .tuple xs, _, q => by
    rw [Rd] at q ⊢
    obtain ⟨a, vs, e, hn, ⟨o, ho, hc, n, hd⟩, hl, r⟩ := q
    exact ⟨a, vs, e, fun x => hn (hm _ _ ho x), ⟨o, hk _ _ ho hn ⟨_, _, hd⟩, hc, n, hd⟩, hl, RdAll.mono hk hm _ _ r⟩
theorem RdAll.mono (hk : ∀ a o, h.get? a = some o → ¬ M a → isSeq o → h'.get? a = some o) (hm : ∀ a o, h.get? a = some o → M' a → M a) : ∀ (ds : List PyData) (vs : List Value), RdAll h M ds vs → RdAll h' M' ds vs
  | [], _, q => by rw [RdAll] at q ⊢; exact q
  | x :: xs, _, q => by
    rw [RdAll] at q ⊢
    obtain ⟨v, r, e, q1, q2⟩ := q
    exact ⟨v, r, e, Rd.mono hk hm _ _ q1, RdAll.mono hk hm _ _ q2⟩
end
end

section
variable {h : Heap} {M : Addr → Prop}
theorem RdAll.length : ∀ {ds : List PyData} {vs : List Value}, RdAll h M ds vs → vs.length = ds.length
  | [], _, q => by rw [RdAll] at q; rw [q]; rfl
  | x :: xs, _, q => by
    rw [RdAll] at q
    obtain ⟨v, r, e, _, q2⟩ := q
    rw [e, List.length_cons, List.length_cons, RdAll.length q2]
theorem RdAll.get : ∀ {ds : List PyData} {vs : List Value} {i : Nat} {d : PyData}, RdAll h M ds vs → ds[i]? = some d → ∃ v, vs[i]? = some v ∧ Rd h M d v
  | [], _, _, _, _, e => by simp at e
  | x :: xs, _, i, d, q, e => by
    rw [RdAll] at q
    obtain ⟨v, r, rfl, q1, q2⟩ := q
    cases i with
    | zero => simp at e; subst e; exact ⟨v, by simp, q1⟩
    | succ i => simp at e ⊢; exact RdAll.get q2 e
theorem RdAll.append : ∀ {ds es : List PyData} {vs ws : List Value}, RdAll h M ds vs → RdAll h M es ws → RdAll h M (ds ++ es) (vs ++ ws)
  | [], _, _, _, q, p => by rw [RdAll] at q; subst q; exact p
  | x :: xs, _, _, _, q, p => by
    rw [RdAll] at q
    obtain ⟨v, r, rfl, q1, q2⟩ := q
    rw [List.cons_append, RdAll]
    exact ⟨v, _, rfl, q1, RdAll.append q2 p⟩
theorem RdAll.one {d : PyData} {v : Value} (q : Rd h M d v) : RdAll h M [d] [v] := by rw [RdAll]; exact ⟨v, [], rfl, q, by rw [RdAll]⟩
theorem RdAll.nil : RdAll h M [] [] := by rw [RdAll]
theorem RdAll.cons {d : PyData} {v : Value} {ds : List PyData} {vs : List Value} (q : Rd h M d v) (r : RdAll h M ds vs) : RdAll h M (d :: ds) (v :: vs) := by rw [RdAll]; exact ⟨v, _, rfl, q, r⟩
theorem RdAll.uncons {d : PyData} {ds : List PyData} {vs : List Value} (q : RdAll h M (d :: ds) vs) : ∃ v r, vs = v :: r ∧ Rd h M d v ∧ RdAll h M ds r := by rw [RdAll] at q; exact q
theorem RdAll.set : ∀ {ds : List PyData} {vs : List Value} {i : Nat} {d : PyData} {v : Value}, RdAll h M ds vs → Rd h M d v → RdAll h M (ds.set i d) (vs.set i v)
  | [], _, _, _, _, q, _ => by rw [RdAll] at q; subst q; simpa using RdAll.nil
  | x :: xs, _, i, d, w, q, p => by
    obtain ⟨v, r, rfl, q1, q2⟩ := q.uncons
    cases i with
    | zero => simp only [List.set_cons_zero]; exact .cons p q2
    | succ i => simp only [List.set_cons_succ]; exact .cons q1 (RdAll.set q2 p)
theorem RdAll.take : ∀ {ds : List PyData} {vs : List Value} (n : Nat), RdAll h M ds vs → RdAll h M (ds.take n) (vs.take n)
  | [], _, _, q => by rw [RdAll] at q; subst q; simpa using RdAll.nil
  | x :: xs, _, n, q => by
    obtain ⟨v, r, rfl, q1, q2⟩ := q.uncons
    cases n with
    | zero => simpa using RdAll.nil
    | succ n => simp only [List.take_succ_cons]; exact .cons q1 (RdAll.take n q2)
theorem RdAll.drop : ∀ {ds : List PyData} {vs : List Value} (n : Nat), RdAll h M ds vs → RdAll h M (ds.drop n) (vs.drop n)
  | [], _, _, q => by rw [RdAll] at q; subst q; simpa using RdAll.nil
  | x :: xs, _, n, q => by
    obtain ⟨v, r, rfl, q1, q2⟩ := q.uncons
    cases n with
    | zero => simpa using RdAll.cons q1 q2
    | succ n => simp only [List.drop_succ_cons]; exact RdAll.drop n q2
theorem RdAll.flat {ds : List PyData} {vs : List Value} (q : RdAll h M ds vs) : ∀ n : Nat, RdAll h M (List.replicate n ds).flatten (List.replicate n vs).flatten
  | 0 => by simpa using RdAll.nil
  | n + 1 => by simp only [List.replicate_succ, List.flatten_cons]; exact q.append (RdAll.flat q n)

theorem Rd.int {i : Int} {v : Value} (q : Rd h M (.int i) v) : ∃ t, v = .int i t := by rw [Rd] at q; exact q
theorem Rd.ofInt (i : Int) (t : Tok) : Rd h M (.int i) (.int i t) := by rw [Rd]; exact ⟨t, rfl⟩
theorem Rd.bool {b : Bool} {v : Value} (q : Rd h M (.bool b) v) : v = .bool b := by rw [Rd] at q; exact q
theorem Rd.ofBool (b : Bool) : Rd h M (.bool b) (.bool b) := by rw [Rd]
theorem Rd.ofNone : Rd h M .none .none := by rw [Rd]
theorem Rd.list {xs : List PyData} {v : Value} (q : Rd h M (.list xs) v) : ∃ a vs, v = .ref a ∧ ¬ M a ∧ h.IsList a vs.toArray ∧ xs.length ≤ lim ∧ RdAll h M xs vs := by rw [Rd] at q; exact q
theorem Rd.tuple {xs : List PyData} {v : Value} (q : Rd h M (.tuple xs) v) : ∃ a vs, v = .ref a ∧ ¬ M a ∧ IsTup h a vs.toArray ∧ xs.length ≤ lim ∧ RdAll h M xs vs := by rw [Rd] at q; exact q
theorem Rd.ofList {xs : List PyData} {a : Addr} {vs : List Value} (h1 : ¬ M a) (h2 : h.IsList a vs.toArray) (h3 : xs.length ≤ lim) (h4 : RdAll h M xs vs) : Rd h M (.list xs) (.ref a) := by rw [Rd]; exact ⟨a, vs, rfl, h1, h2, h3, h4⟩
theorem Rd.ofTuple {xs : List PyData} {a : Addr} {vs : List Value} (h1 : ¬ M a) (h2 : IsTup h a vs.toArray) (h3 : xs.length ≤ lim) (h4 : RdAll h M xs vs) : Rd h M (.tuple xs) (.ref a) := by rw [Rd]; exact ⟨a, vs, rfl, h1, h2, h3, h4⟩

mutual
theorem Rd.reads : ∀ {d : PyData} {v : Value}, Rd h M d v → ∃ as, Reads h v d as
  | .none, _, q => by rw [Rd] at q; subst q; exact ⟨_, .none⟩
  | .bool b, _, q => by rw [Rd] at q; subst q; exact ⟨_, .bool b⟩
  | .int i, _, q => by rw [Rd] at q; obtain ⟨t, rfl⟩ := q; exact ⟨_, .int i t⟩
  | .str _, _, q => by rw [Rd] at q; exact q.elim
  | .dict _, _, q => by rw [Rd] at q; exact q.elim
  | .list xs, _, q => by
    rw [Rd] at q
    obtain ⟨a, vs, rfl, hn, ⟨o, ho, hc, n, hd⟩, hl, r⟩ := q
    obtain ⟨as, p⟩ := RdAll.reads r
    exact ⟨_, reads_list_at ho hc hd (by simpa using p)⟩
  | .tuple xs, _, q => by
    rw [Rd] at q
    obtain ⟨a, vs, rfl, hn, ⟨o, ho, hc, n, hd⟩, hl, r⟩ := q
    obtain ⟨as, p⟩ := RdAll.reads r
    exact ⟨_, reads_tuple_at ho hc hd (by simpa using p)⟩
theorem RdAll.reads : ∀ {ds : List PyData} {vs : List Value}, RdAll h M ds vs → ∃ as, ReadsAll h vs ds as
  | [], _, q => by rw [RdAll] at q; subst q; exact ⟨_, .nil⟩
  | x :: xs, _, q => by
    rw [RdAll] at q
    obtain ⟨v, r, rfl, q1, q2⟩ := q
    obtain ⟨as, p1⟩ := Rd.reads q1
    obtain ⟨bs, p2⟩ := RdAll.reads q2
    exact ⟨_, .cons p1 p2⟩
end
end

noncomputable def Rp (H : Addr → Prop) (α : List Addr) (σ : Store) (h : Heap) : V → Value → Prop
  | .d x, v => Rd h (Mu H α σ) x v
  | .l n, v => ∃ a, v = .ref a ∧ α[n]? = some a

structure SR (base : Heap) (H : Addr → Prop) (α : List Addr) (σ : Store) (h : Heap) : Prop where
  len : α.length = σ.length
  nod : α.Nodup
  old : ∀ b o, base.get? b = some o → h.get? b = some o
  new : ∀ a ∈ α, base.get? a = none
  ali : ∀ a ∈ α, ∃ o, h.get? a = some o
  lst : ∀ (n : Nat) (a : Addr) (xs : List PyData), α[n]? = some a → σ[n]? = some (some xs) → ∃ vs, h.PlainList a vs.toArray ∧ xs.length ≤ lim ∧ RdAll h (Mu H α σ) xs vs
  hid : ∀ a, H a → ∃ o, h.get? a = some o
  hna : ∀ a, H a → a ∉ α

structure Ext (O : Addr → Prop) (α : List Addr) (σ : Store) (h : Heap) (α' : List Addr) (σ' : Store) (h' : Heap) : Prop where
  pre : α <+: α'
  keep : ∀ a o, h.get? a = some o → ¬ Muts α σ a → ¬ O a → h'.get? a = some o
  muts : ∀ a, Muts α' σ' a → Muts α σ a ∨ h.get? a = none
  alive : ∀ a o, h.get? a = some o → ∃ o', h'.get? a = some o'
  nw : ∀ a ∈ α', a ∈ α ∨ h.get? a = none
abbrev NoO : Addr → Prop := fun _ => False

section
variable {base h h' h'' : Heap} {H O O' : Addr → Prop} {α α' α'' : List Addr} {σ σ' σ'' : Store}
theorem Ext.refl : Ext O α σ h α σ h := ⟨List.prefix_refl _, fun _ _ e _ _ => e, fun _ m => .inl m, fun _ o e => ⟨o, e⟩, fun _ m => .inl m⟩
theorem Ext.trans (x : Ext O α σ h α' σ' h') (y : Ext O α' σ' h' α'' σ'' h'') : Ext O α σ h α'' σ'' h'' where
  pre := x.pre.trans y.pre
  keep := fun a o e hm hO => y.keep a o (x.keep a o e hm hO) (fun m => (x.muts a m).elim hm fun n => by rw [n] at e; cases e) hO
  muts := fun a m => by
    rcases y.muts a m with m' | n
    · exact x.muts a m'
    · cases e : h.get? a with
      | none => exact .inr rfl
      | some o => obtain ⟨o', e'⟩ := x.alive a o e; rw [n] at e'; cases e'
  alive := fun a o e => by obtain ⟨o', e'⟩ := x.alive a o e; exact y.alive a o' e'
  nw := fun a m => by
    rcases y.nw a m with m' | n
    · exact x.nw a m'
    · cases e : h.get? a with
      | none => exact .inr rfl
      | some o => obtain ⟨o', e'⟩ := x.alive a o e; rw [n] at e'; cases e'
theorem Ext.weak (x : Ext O α σ h α' σ' h') (k : ∀ a, O a → O' a) : Ext O' α σ h α' σ' h' := ⟨x.pre, fun a o e m hO => x.keep a o e m fun z => hO (k a z), x.muts, x.alive, x.nw⟩

theorem SR.isList (S : SR base H α σ h) {a : Addr} (m : Muts α σ a) : ∃ vs, h.IsList a vs := by
  obtain ⟨n, xs, e1, e2⟩ := m
  obtain ⟨vs, q, _⟩ := S.lst n a xs e1 e2
  exact ⟨_, q.isList⟩
theorem SR.mu_alive (S : SR base H α σ h) {a : Addr} (m : Mu H α σ a) : ∃ o, h.get? a = some o := by
  rcases m with m | m
  · exact S.hid a m
  · obtain ⟨vs, o, ho, _⟩ := S.isList m; exact ⟨o, ho⟩
theorem SR.fresh (S : SR base H α σ h) {a : Addr} (e : h.get? a = none) : ¬ Mu H α σ a := fun m => by
  obtain ⟨o, ho⟩ := S.mu_alive m; rw [e] at ho; cases ho
theorem SR.tup (S : SR base H α σ h) {a : Addr} {o : Obj} (e : h.get? a = some o) (hc : o.cls ≠ .type "list") : ¬ Muts α σ a := fun m => by
  obtain ⟨vs, o', ho, hc', _⟩ := S.isList m; rw [e] at ho; cases ho; exact hc hc'

/-- what is frozen stays -/
theorem Rd.ext (S : SR base H α σ h) (x : Ext O α σ h α' σ' h') (hO : ∀ a o, O a → h.get? a = some o → ¬ isSeq o) {d : PyData} {v : Value} (q : Rd h (Mu H α σ) d v) : Rd h' (Mu H α' σ') d v :=
  Rd.mono (fun a o e m sq => x.keep a o e (fun z => m (.inr z)) fun z => hO a o z e sq)
    (fun a o e m => m.imp id fun m => (x.muts a m).elim id fun n => by rw [n] at e; cases e) _ _ q
theorem RdAll.ext (S : SR base H α σ h) (x : Ext O α σ h α' σ' h') (hO : ∀ a o, O a → h.get? a = some o → ¬ isSeq o) {d : List PyData} {v : List Value} (q : RdAll h (Mu H α σ) d v) : RdAll h' (Mu H α' σ') d v :=
  RdAll.mono (fun a o e m sq => x.keep a o e (fun z => m (.inr z)) fun z => hO a o z e sq)
    (fun a o e m => m.imp id fun m => (x.muts a m).elim id fun n => by rw [n] at e; cases e) _ _ q
theorem prefix_get {T : Type} {l l' : List T} (h : l <+: l') {n : Nat} {a : T} (e : l[n]? = some a) : l'[n]? = some a := by
  obtain ⟨r, rfl⟩ := h
  have : n < l.length := by
    rcases Nat.lt_or_ge n l.length with q | q
    · exact q
    · rw [List.getElem?_eq_none q] at e; cases e
  rw [List.getElem?_append_left this]; exact e
theorem Rp.ext (S : SR base H α σ h) (x : Ext O α σ h α' σ' h') (hO : ∀ a o, O a → h.get? a = some o → ¬ isSeq o) {V : V} {v : Value} (q : Rp H α σ h V v) : Rp H α' σ' h' V v := by
  cases V with
  | d y => exact Rd.ext S x hO q
  | l n => obtain ⟨a, e, q⟩ := q; exact ⟨a, e, prefix_get x.pre q⟩
theorem noO : ∀ a o, NoO a → h.get? a = some o → ¬ isSeq o := fun _ _ z => z.elim

/-- a heap that only grows -/
theorem SR.grow (S : SR base H α σ h) (k : ∀ b o, h.get? b = some o → h'.get? b = some o) : SR base H α σ h' where
  len := S.len
  nod := S.nod
  old := fun b o e => k _ _ (S.old b o e)
  new := S.new
  ali := fun a m => let ⟨o, e⟩ := S.ali a m; ⟨o, k _ _ e⟩
  lst := fun n a xs e1 e2 => by
    obtain ⟨vs, pl, hl, q⟩ := S.lst n a xs e1 e2
    exact ⟨vs, pl.at fun o e => k _ _ e, hl, RdAll.mono (fun a o e _ _ => k a o e) (fun _ _ _ m => m) _ _ q⟩
  hid := fun a m => let ⟨o, e⟩ := S.hid a m; ⟨o, k _ _ e⟩
  hna := S.hna
theorem Ext.grow (k : ∀ b o, h.get? b = some o → h'.get? b = some o) : Ext O α σ h α σ h' :=
  ⟨List.prefix_refl _, fun a o e _ _ => k a o e, fun _ m => .inl m, fun a o e => ⟨o, k _ _ e⟩, fun _ m => .inl m⟩

/-- a store that is not read by what is frozen: an object that is no list of ours turns -/
theorem SR.but {b : Addr} (S : SR base H α σ h) (k : Heap.SameBut b h h') (hb : base.get? b = none) (hq : ∀ o, h.get? b = some o → ¬ isSeq o) (hal : ∃ o', h'.get? b = some o') : SR base H α σ h' where
  len := S.len
  nod := S.nod
  old := fun c o e => k.extBut c o (fun z => by rw [z, hb] at e; cases e) (S.old c o e)
  new := S.new
  ali := fun a m => by
    by_cases z : a = b
    · rw [z]; exact hal
    · obtain ⟨o, e⟩ := S.ali a m; exact ⟨o, k.extBut a o z e⟩
  lst := fun n a xs e1 e2 => by
    obtain ⟨vs, ⟨i, ho⟩, hl, q⟩ := S.lst n a xs e1 e2
    exact ⟨vs, ⟨i, k.extBut a _ (fun z => hq _ (z ▸ ho) ⟨_, _, rfl⟩) ho⟩, hl, RdAll.mono (fun c o e _ sq => k.extBut c o (fun z => hq o (z ▸ e) sq) e) (fun _ _ _ m => m) _ _ q⟩
  hid := fun a m => by
    by_cases z : a = b
    · rw [z]; exact hal
    · obtain ⟨o, e⟩ := S.hid a m; exact ⟨o, k.extBut a o z e⟩
  hna := S.hna
theorem Ext.but {b : Addr} (k : Heap.SameBut b h h') (hO : O b) (hal : ∃ o', h'.get? b = some o') : Ext O α σ h α σ h' :=
  ⟨List.prefix_refl _, fun a o e _ z => k.extBut a o (fun q => z (q ▸ hO)) e, fun _ m => .inl m, fun a o e => by
    by_cases z : a = b
    · rw [z]; exact hal
    · exact ⟨o, k.extBut a o z e⟩, fun _ m => .inl m⟩

theorem muts_set {n : Nat} {xs ys : List PyData} (e : σ[n]? = some (some xs)) (a : Addr) : Muts α (σ.set n (some ys)) a ↔ Muts α σ a := by
  constructor
  · rintro ⟨m, zs, e1, e2⟩
    by_cases q : n = m
    · subst q; exact ⟨n, xs, e1, e⟩
    · rw [List.getElem?_set_ne q] at e2; exact ⟨m, zs, e1, e2⟩
  · rintro ⟨m, zs, e1, e2⟩
    by_cases q : n = m
    · subst q
      have : n < σ.length := by
        rcases Nat.lt_or_ge n σ.length with q | q
        · exact q
        · rw [List.getElem?_eq_none q] at e2; cases e2
      exact ⟨n, ys, e1, by rw [List.getElem?_set_self this]⟩
    · exact ⟨m, zs, e1, by rw [List.getElem?_set_ne q]; exact e2⟩
theorem mu_set {H : Addr → Prop} {n : Nat} {xs ys : List PyData} (e : σ[n]? = some (some xs)) (a : Addr) : Mu H α (σ.set n (some ys)) a ↔ Mu H α σ a := or_congr_right (muts_set e a)
theorem nodup_idx (hn : α.Nodup) {i j : Nat} {a : Addr} (e1 : α[i]? = some a) (e2 : α[j]? = some a) : i = j := by
  have hi : i < α.length := by
    rcases Nat.lt_or_ge i α.length with q | q
    · exact q
    · rw [List.getElem?_eq_none q] at e1; cases e1
  exact (List.getElem?_inj hi hn).mp (e1.trans e2.symm)

/-- one list of ours turns -/
theorem SR.turn {n : Nat} {a : Addr} {xs ys : List PyData} {vs : List Value} (S : SR base H α σ h) (ea : α[n]? = some a) (ex : σ[n]? = some (some xs))
    (k : Heap.SameBut a h h') (hl : h'.PlainList a vs.toArray) (hz : ys.length ≤ lim) (hy : RdAll h (Mu H α σ) ys vs) : SR base H α (σ.set n (some ys)) h' := by
  have hm : Mu H α σ a := .inr ⟨n, xs, ea, ex⟩
  have hk : ∀ c o, h.get? c = some o → ¬ Mu H α σ c → isSeq o → h'.get? c = some o := fun c o e m _ => k.extBut c o (fun z => m (z ▸ hm)) e
  have hM : ∀ c o, h.get? c = some o → Mu H α (σ.set n (some ys)) c → Mu H α σ c := fun c _ _ m => (mu_set ex c).mp m
  have hal : ∃ o', h'.get? a = some o' := let ⟨_, ho⟩ := hl; ⟨_, ho⟩
  refine ⟨by rw [List.length_set]; exact S.len, S.nod, fun c o e => k.extBut c o (fun z => ?_) (S.old c o e), S.new, fun c m => ?_, fun m c zs e1 e2 => ?_, fun c m => ?_, S.hna⟩
  · have := S.new a (List.mem_of_getElem? ea); rw [z, this] at e; cases e
  · by_cases z : c = a
    · rw [z]; exact hal
    · obtain ⟨o, e⟩ := S.ali c m; exact ⟨o, k.extBut c o z e⟩
  · by_cases q : n = m
    · subst q
      rw [ea] at e1; cases e1
      have : n < σ.length := by
        rcases Nat.lt_or_ge n σ.length with q | q
        · exact q
        · rw [List.getElem?_eq_none q] at ex; cases ex
      rw [List.getElem?_set_self this] at e2
      cases e2
      exact ⟨vs, hl, hz, RdAll.mono hk hM _ _ hy⟩
    · rw [List.getElem?_set_ne q] at e2
      obtain ⟨ws, pl, hl', q'⟩ := S.lst m c zs e1 e2
      exact ⟨ws, pl.extBut k.extBut (fun z => q (nodup_idx S.nod ea (z ▸ e1))), hl', RdAll.mono hk hM _ _ q'⟩
  · by_cases z : c = a
    · rw [z]; exact hal
    · obtain ⟨o, e⟩ := S.hid c m; exact ⟨o, k.extBut c o z e⟩
theorem Ext.turn {n : Nat} {a : Addr} {xs ys : List PyData} (ea : α[n]? = some a) (ex : σ[n]? = some (some xs))
    (k : Heap.SameBut a h h') (hal : ∃ o', h'.get? a = some o') : Ext O α σ h α (σ.set n (some ys)) h' :=
  ⟨List.prefix_refl _, fun c o e m _ => k.extBut c o (fun z => m ⟨n, xs, z ▸ ea, ex⟩) e, fun c m => .inl ((muts_set ex c).mp m), fun c o e => by
    by_cases z : c = a
    · rw [z]; exact hal
    · exact ⟨o, k.extBut c o z e⟩, fun _ m => .inl m⟩

theorem muts_push {a : Addr} {xs : List PyData} (hl : α.length = σ.length) (c : Addr) : Muts (α ++ [a]) (σ ++ [some xs]) c ↔ (Muts α σ c ∨ c = a) := by
  constructor
  · rintro ⟨m, zs, e1, e2⟩
    rcases Nat.lt_trichotomy m α.length with q | q | q
    · rw [List.getElem?_append_left q] at e1; rw [List.getElem?_append_left (hl ▸ q)] at e2; exact .inl ⟨m, zs, e1, e2⟩
    · subst q; simp at e1; exact .inr e1.symm
    · rw [List.getElem?_eq_none (by rw [List.length_append, List.length_singleton]; omega)] at e1; cases e1
  · rintro (⟨m, zs, e1, e2⟩ | rfl)
    · exact ⟨m, zs, prefix_get (List.prefix_append _ _) e1, prefix_get (List.prefix_append _ _) e2⟩
    · exact ⟨α.length, xs, by simp, by rw [hl]; simp⟩

/-- a list made anew becomes ours -/
theorem SR.take {a : Addr} {xs : List PyData} {vs : List Value} (S : SR base H α σ h) (hf : h.get? a = none) (k : ∀ b o, h.get? b = some o → h'.get? b = some o) (hl : h'.PlainList a vs.toArray) (hz : xs.length ≤ lim)
    (hx : RdAll h (Mu H α σ) xs vs) : SR base H (α ++ [a]) (σ ++ [some xs]) h' := by
  have hM : ∀ c o, h.get? c = some o → Mu H (α ++ [a]) (σ ++ [some xs]) c → Mu H α σ c := fun c o e m => by
    rcases m with m | m
    · exact .inl m
    · exact ((muts_push S.len c).mp m).elim .inr fun z => by rw [z, hf] at e; cases e
  have hna : a ∉ α := fun m => by obtain ⟨o, e⟩ := S.ali a m; rw [hf] at e; cases e
  refine ⟨by simp [S.len], ?_, fun b o e => k _ _ (S.old b o e), ?_, ?_, ?_, fun c m => let ⟨o, e⟩ := S.hid c m; ⟨o, k _ _ e⟩, fun c m q => (List.mem_append.mp q).elim (S.hna c m) fun q => by rw [List.mem_singleton.mp q] at m; obtain ⟨o, e⟩ := S.hid a m; rw [hf] at e; cases e⟩
  · exact List.nodup_append.mpr ⟨S.nod, by simp, fun x hx y hy => by simp at hy; rintro rfl; exact hna (hy ▸ hx)⟩
  · intro c m
    rcases List.mem_append.mp m with m | m
    · exact S.new c m
    · rw [List.mem_singleton.mp m]
      cases e : base.get? a with
      | none => rfl
      | some o => have := S.old _ _ e; rw [hf] at this; cases this
  · intro c m
    rcases List.mem_append.mp m with m | m
    · obtain ⟨o, e⟩ := S.ali c m; exact ⟨o, k _ _ e⟩
    · rw [List.mem_singleton.mp m]; obtain ⟨_, ho⟩ := hl; exact ⟨_, ho⟩
  · intro n b ys e1 e2
    rcases Nat.lt_trichotomy n α.length with q | q | q
    · rw [List.getElem?_append_left q] at e1; rw [List.getElem?_append_left (S.len ▸ q)] at e2
      obtain ⟨ws, h1, h2, h3⟩ := S.lst n b ys e1 e2
      exact ⟨ws, h1.at fun o e => k _ _ e, h2, RdAll.mono (fun c o e _ _ => k c o e) hM _ _ h3⟩
    · subst q; simp at e1; subst e1; rw [S.len] at e2; simp at e2; subst e2
      exact ⟨vs, hl, hz, RdAll.mono (fun c o e _ _ => k c o e) hM _ _ hx⟩
    · rw [List.getElem?_eq_none (by rw [List.length_append, List.length_singleton]; omega)] at e1; cases e1
theorem Ext.take {O : Addr → Prop} {a : Addr} {xs : List PyData} (hlen : α.length = σ.length) (hf : h.get? a = none) (k : ∀ b o, h.get? b = some o → h'.get? b = some o) : Ext O α σ h (α ++ [a]) (σ ++ [some xs]) h' :=
  ⟨List.prefix_append _ _, fun c o e _ _ => k c o e, fun c m => ((muts_push hlen c).mp m).imp id fun z => by rw [z]; exact hf, fun c o e => ⟨o, k _ _ e⟩, fun c m => (List.mem_append.mp m).imp id fun z => by rw [List.mem_singleton.mp z]; exact hf⟩

/-- a list of ours is given up: nobody changes it any more -/
theorem muts_frz {n : Nat} {xs : List PyData} (nod : α.Nodup) (ex : σ[n]? = some (some xs)) (c : Addr) : Muts α (σ.set n none) c ↔ (Muts α σ c ∧ α[n]? ≠ some c) := by
  constructor
  · rintro ⟨m, zs, e1, e2⟩
    by_cases q : n = m
    · subst q
      rw [List.getElem?_set] at e2
      simp at e2
    · rw [List.getElem?_set_ne q] at e2
      exact ⟨⟨m, zs, e1, e2⟩, fun z => q (nodup_idx nod z e1)⟩
  · rintro ⟨⟨m, zs, e1, e2⟩, hne⟩
    have q : n ≠ m := fun z => hne (z ▸ e1)
    exact ⟨m, zs, e1, by rw [List.getElem?_set_ne q]; exact e2⟩
theorem SR.frz {n : Nat} {xs : List PyData} (S : SR base H α σ h) (ex : σ[n]? = some (some xs)) : SR base H α (σ.set n none) h where
  len := by rw [List.length_set]; exact S.len
  nod := S.nod
  old := S.old
  new := S.new
  ali := S.ali
  lst := fun m a ys e1 e2 => by
    have q : n ≠ m := fun z => by subst z; rw [List.getElem?_set] at e2; simp at e2
    rw [List.getElem?_set_ne q] at e2
    obtain ⟨vs, pl, hl, r⟩ := S.lst m a ys e1 e2
    exact ⟨vs, pl, hl, RdAll.mono (fun _ _ e _ _ => e) (fun c _ _ m => m.imp id fun m => ((muts_frz S.nod ex c).mp m).1) _ _ r⟩
  hid := S.hid
  hna := S.hna
theorem Ext.frz {O : Addr → Prop} {n : Nat} {xs : List PyData} (nod : α.Nodup) (ex : σ[n]? = some (some xs)) : Ext O α σ h α (σ.set n none) h :=
  ⟨List.prefix_refl _, fun _ _ e _ _ => e, fun c m => .inl ((muts_frz nod ex c).mp m).1, fun _ o e => ⟨o, e⟩, fun _ m => .inl m⟩
theorem Rd.frz {n : Nat} {a : Addr} {xs : List PyData} (S : SR base H α σ h) (ea : α[n]? = some a) (ex : σ[n]? = some (some xs)) : Rd h (Mu H α (σ.set n none)) (.list xs) (.ref a) := by
  have hH : ¬ H a := fun m => S.hna a m (List.mem_of_getElem? ea)
  obtain ⟨vs, pl, hl, r⟩ := S.lst n a xs ea ex
  exact .ofList (fun m => m.elim hH fun m => ((muts_frz S.nod ex a).mp m).2 ea) pl.isList hl (RdAll.mono (fun _ _ e _ _ => e) (fun c _ _ m => m.imp id fun m => ((muts_frz S.nod ex c).mp m).1) _ _ r)
/-- what a list of ours holds, read now -/
theorem SR.reads {n : Nat} {a : Addr} {xs : List PyData} (S : SR base H α σ h) (ea : α[n]? = some a) (ex : σ[n]? = some (some xs)) : Rd h (fun _ => False) (.list xs) (.ref a) := by
  obtain ⟨vs, pl, hl, r⟩ := S.lst n a xs ea ex
  exact .ofList (fun m => m) pl.isList hl (RdAll.mono (fun _ _ e _ _ => e) (fun c _ _ m => m.elim) _ _ r)
end
end Mine
end
section
namespace Mine

/-- the value Z comes, the heap only grows -/
noncomputable def Gr (M : Addr → Prop) (s : Shared) (Z : PyData) (Q : Value → Shared → Prop) : Prop :=
  ∀ v h' tk, (∀ b o, s.heap.get? b = some o → h'.get? b = some o) → Rd h' M Z v → Q v { s with heap := h', toks := tk }
theorem Gr.here {M : Addr → Prop} {s : Shared} {Z : PyData} {Q : Value → Shared → Prop} (k : Gr M s Z Q) {v : Value} (r : Rd s.heap M Z v) (tk : Tok) : Q v { s with toks := tk } := k v s.heap tk (fun _ _ e => e) r
theorem Gr.same {M : Addr → Prop} {s : Shared} {Z : PyData} {Q : Value → Shared → Prop} (k : Gr M s Z Q) {v : Value} (r : Rd s.heap M Z v) : Q v s := k v s.heap s.toks (fun _ _ e => e) r

noncomputable def pyB : BOp → Operator
  | .add => .Add | .sub => .Sub | .mul => .Mult | .div => .FloorDiv | .mod => .Mod | .pow => .Pow
noncomputable def pyC : COp → CmpOp
  | .eq => .Eq | .ne => .NotEq | .lt => .Lt | .le => .LtE | .gt => .Gt | .ge => .GtE | .inn => .In | .nin => .NotIn

theorem Rd.grow {h h' : Heap} {M : Addr → Prop} (k : ∀ b o, h.get? b = some o → h'.get? b = some o) {d : PyData} {v : Value} (q : Rd h M d v) : Rd h' M d v := Rd.mono (fun a o e _ _ => k a o e) (fun _ _ _ m => m) _ _ q
theorem RdAll.grow {h h' : Heap} {M : Addr → Prop} (k : ∀ b o, h.get? b = some o → h'.get? b = some o) {d : List PyData} {v : List Value} (q : RdAll h M d v) : RdAll h' M d v := RdAll.mono (fun a o e _ _ => k a o e) (fun _ _ _ m => m) _ _ q
/-- a thing read now, whoever may change it later -/
noncomputable def Rv (h : Heap) (M : Addr → Prop) (d : PyData) (v : Value) : Prop := match d with
  | .list xs => ∃ a vs, v = .ref a ∧ True ∧ h.IsList a vs.toArray ∧ xs.length ≤ lim ∧ RdAll h M xs vs
  | .tuple xs => ∃ a vs, v = .ref a ∧ True ∧ IsTup h a vs.toArray ∧ xs.length ≤ lim ∧ RdAll h M xs vs
  | d => Rd h M d v
theorem Rd.rv {h : Heap} {M : Addr → Prop} {d : PyData} {v : Value} (q : Rd h M d v) : Rv h M d v := by
  cases d with
  | list xs => obtain ⟨a, vs, e, _, r⟩ := q.list; exact ⟨a, vs, e, trivial, r⟩
  | tuple xs => obtain ⟨a, vs, e, _, r⟩ := q.tuple; exact ⟨a, vs, e, trivial, r⟩
  | _ => exact q
theorem Rv.list {h : Heap} {M : Addr → Prop} {xs : List PyData} {v : Value} (q : Rv h M (.list xs) v) : ∃ a vs, v = .ref a ∧ True ∧ h.IsList a vs.toArray ∧ xs.length ≤ lim ∧ RdAll h M xs vs := q
theorem Rv.tuple {h : Heap} {M : Addr → Prop} {xs : List PyData} {v : Value} (q : Rv h M (.tuple xs) v) : ∃ a vs, v = .ref a ∧ True ∧ IsTup h a vs.toArray ∧ xs.length ≤ lim ∧ RdAll h M xs vs := q
theorem Rv.int {h : Heap} {M : Addr → Prop} {i : Int} {v : Value} (q : Rv h M (.int i) v) : ∃ t, v = .int i t := Rd.int (h := h) (M := M) q
theorem Rv.bool {h : Heap} {M : Addr → Prop} {b : Bool} {v : Value} (q : Rv h M (.bool b) v) : v = .bool b := Rd.bool (h := h) (M := M) q
theorem Rv.reads {h : Heap} {M : Addr → Prop} {d : PyData} {v : Value} (q : Rv h M d v) : ∃ as, Reads h v d as := by
  cases d with
  | list xs =>
    obtain ⟨a, vs, rfl, _, ⟨o, ho, hc, n, hd⟩, hl, r⟩ := q.list
    obtain ⟨as, p⟩ := RdAll.reads r
    exact ⟨_, reads_list_at ho hc hd (by simpa using p)⟩
  | tuple xs =>
    obtain ⟨a, vs, rfl, _, ⟨o, ho, hc, n, hd⟩, hl, r⟩ := q.tuple
    obtain ⟨as, p⟩ := RdAll.reads r
    exact ⟨_, reads_tuple_at ho hc hd (by simpa using p)⟩
  | _ => exact Rd.reads (M := M) q
theorem lim_line : lim ≤ sizeLine := by rw [sizeLine_eq, lim_eq]; decide
theorem lim_lt : lim < 2 ^ 24 := by rw [lim_eq]; decide

section
variable {prog : Program} {w : World} {A : Around} {s : Shared} {M : Addr → Prop} {E : Value → Shared → Prop}

/-- a list made of frozen things -/
theorem Gr.newList {xs : List PyData} {vs : List Value} {Q : Value → Shared → Prop} (k : Gr M s (.list xs) Q) (hM : ∀ a, s.heap.get? a = none → ¬ M a) (hz : xs.length ≤ lim) (r : RdAll s.heap M xs vs) {o : Obj} (ho : o = { cls := .type "list", data := .seq vs.toArray }) :
    Q (.ref s.heap.objs.size) { s with heap := s.heap.push o } := by
  subst ho
  refine k _ _ s.toks (fun b o e => Heap.get?_push_of_some _ e) (.ofList (vs := vs) (hM _ ?_) ⟨_, Heap.get?_push_size _ rfl, rfl, _, rfl⟩ hz (r.grow fun b o e => Heap.get?_push_of_some _ e))
  cases e : s.heap.get? s.heap.objs.size with
  | none => rfl
  | some o => exact absurd (Heap.lt_size e) (Nat.lt_irrefl _)
theorem Gr.newTuple {xs : List PyData} {vs : List Value} {Q : Value → Shared → Prop} (k : Gr M s (.tuple xs) Q) (hM : ∀ a, s.heap.get? a = none → ¬ M a) (hz : xs.length ≤ lim) (r : RdAll s.heap M xs vs) {o : Obj} (ho : o = { cls := .type "tuple", data := .seq vs.toArray }) :
    Q (.ref s.heap.objs.size) { s with heap := s.heap.push o } := by
  subst ho
  refine k _ _ s.toks (fun b o e => Heap.get?_push_of_some _ e) (.ofTuple (vs := vs) (hM _ ?_) ⟨_, Heap.get?_push_size _ rfl, rfl, _, rfl⟩ hz (r.grow fun b o e => Heap.get?_push_of_some _ e))
  cases e : s.heap.get? s.heap.objs.size with
  | none => rfl
  | some o => exact absurd (Heap.lt_size e) (Nat.lt_irrefl _)

/-- two lists joined; a list repeated: an object anew -/
theorem op_cat {l b : Addr} {vs ws : List Value} {Q : Value → Shared → Prop} (hl : s.heap.IsList l vs.toArray) (hb : s.heap.IsList b ws.toArray)
    (h : Q (.ref s.heap.objs.size) { s with heap := s.heap.push { cls := .type "list", data := .seq (vs ++ ws).toArray } }) (hsz : vs.length + ws.length ≤ sizeLine) : wpAny (model prog w) A (binaryOp .Add (.ref l) (.ref b)) Q E s := by
  obtain ⟨⟨cls, dd, data, sl⟩, ho, hc, n, hd⟩ := id hl
  obtain ⟨⟨cls2, dd2, data2, sl2⟩, ho2, hc2, n2, hd2⟩ := id hb
  simp only at hc hd hc2 hd2
  subst hc hd hc2 hd2
  have e : vs.toArray ++ ws.toArray = (vs ++ ws).toArray := by simp
  refine concat_meets ⟨_, ho, rfl⟩ ⟨_, ho2, rfl⟩ noFill_list_add seq_list_add PySem.F.slot_list_add PySem.F.entry_list_add (PySem.F.args_list_add_2 _ _) (list_addW l b vs.toArray ws.toArray n n2 dd dd2 sl sl2 (by simpa using hsz)) ⟨ho, ho2, ?_⟩
  rw [e]
  exact h

theorem op_rep {l : Addr} {vs : List Value} {x : Int} {u : Tok} {Q : Value → Shared → Prop} (hl : s.heap.IsList l vs.toArray)
    (hlo : -(2 ^ 63 : Int) ≤ x) (hhi : x < 2 ^ 63) (hsz : vs.length * x.toNat ≤ 2 ^ 24)
    (h : Q (.ref s.heap.objs.size) { s with heap := s.heap.push { cls := .type "list", data := .seq (List.replicate x.toNat vs).flatten.toArray } }) :
    wpAny (model prog w) A (binaryOp .Mult (.ref l) (.int x u)) Q E s := by
  obtain ⟨⟨cls, d, data, sl⟩, ho, hcl, k, hd⟩ := id hl
  simp only at hcl hd
  subst hcl hd
  have hsz' : vs.toArray.size * x.toNat ≤ 2 ^ 24 := by simpa using hsz
  refine wpAny_binaryOp_repeat_ref (T := "list") (U := "int") (by decide) ⟨_, ho, rfl⟩ (fun s' => typeIs_int s' x u) noFill_list_mul F.fills_int_mul F.slot_int_rmul repeat_list F.slot_int_index.lookup
    (call_meets F.slot_int_rmul (typeIs_int s x u) F.entry_int_rmul (F.args_int_rmul_2 _ _) (lm_int_rmul_list_any x u l vs.toArray k d sl)
      ⟨ho, rfl, ⟨_, ho, rfl⟩, call_meets F.slot_list_mul ⟨_, ho, rfl⟩ F.entry_list_mul (F.args_list_mul_2 _ _)
        (lm_list_mul_any l vs.toArray k d sl x u (by simp [Builtin.List.listFitsIndex]; omega) (by omega) (by simp [Builtin.List.listTooLong, sizeLine]; omega))
        ⟨ho, ?_⟩⟩)
  rw [listMul_foldl_if]
  exact h

theorem op_bin {o : BOp} {X Y Z : PyData} {x y : Value} {Q : Value → Shared → Prop} (hM : ∀ a, s.heap.get? a = none → ¬ M a) (hx : Rv s.heap M X x) (hy : Rv s.heap M Y y) (hz : binP o X Y = some Z) (k : Gr M s Z Q) :
    wpAny (model prog w) A (binaryOp (pyB o) x y) Q E s := by
  have hline := lim_line
  have hInts : ∀ {a b : Int}, X = .int a → Y = .int b → ∃ t u, x = .int a t ∧ y = .int b u := fun e1 e2 => by
    subst e1 e2
    obtain ⟨t, rfl⟩ := hx.int
    obtain ⟨u, rfl⟩ := hy.int
    exact ⟨t, u, rfl, rfl⟩
  cases o with
  | add =>
    rcases addP_some hz with ⟨a, b, rfl, rfl, hb, rfl⟩ | ⟨a, b, e1, e2, rfl⟩
    · obtain ⟨l, vs, rfl, hn, hl, hla, r⟩ := hx.list
      obtain ⟨l', ws, rfl, hn', hl', hlb, r'⟩ := hy.list
      refine op_cat hl hl' (k.newList hM (by rw [List.length_append]; exact hb) (r.append r') rfl) ?_
      rw [r.length, r'.length]; omega
    · obtain ⟨t, u, rfl, rfl⟩ := hInts e1 e2
      exact wpAny_add_int (k.here (.ofInt _ _) _)
  | sub =>
    obtain ⟨a, b, e1, e2, e3⟩ := intK2_some hz
    obtain rfl := Option.some.inj e3
    obtain ⟨t, u, rfl, rfl⟩ := hInts e1 e2
    exact P.sub_int (k.here (.ofInt _ _) _)
  | mul =>
    rcases mulP_some hz with ⟨a, b, rfl, rfl, hb, rfl⟩ | ⟨a, b, e1, e2, hb, rfl⟩
    · obtain ⟨l, vs, rfl, hn, hl, hla, r⟩ := hx.list
      obtain ⟨u, rfl⟩ := hy.int
      simp only [big_eq] at hb
      refine op_rep hl (by omega) (by omega) (by rw [r.length]; have := lim_lt; omega) (k.newList hM ?_ (r.flat _) rfl)
      simp only [List.length_flatten, List.map_replicate, List.sum_replicate_nat]
      rw [Nat.mul_comm]; exact hb.2.2.2
    · obtain ⟨t, u, rfl, rfl⟩ := hInts e1 e2
      simp only [big_eq] at hb
      exact P.mul_int (k.here (.ofInt _ _) _) (.of_left (intBits_le_64 (by omega) (by omega)))
  | div =>
    obtain ⟨a, b, e1, e2, e3⟩ := intK2_some hz
    obtain ⟨hb, rfl⟩ := ite_some e3
    obtain ⟨t, u, rfl, rfl⟩ := hInts e1 e2
    exact floordiv_int (by omega) (k.here (.ofInt _ _) _) (.inl (PyProof.noPylong_small (by omega)))
  | mod =>
    obtain ⟨a, b, e1, e2, e3⟩ := intK2_some hz
    obtain ⟨hb, rfl⟩ := ite_some e3
    obtain ⟨t, u, rfl, rfl⟩ := hInts e1 e2
    exact mod_int' (by omega) (k.here (.ofInt _ _) _)
  | pow =>
    obtain ⟨a, b, e1, e2, e3⟩ := intK2_some hz
    obtain ⟨⟨rfl, h0, h8⟩, rfl⟩ := ite_some e3
    obtain ⟨t, u, rfl, rfl⟩ := hInts e1 e2
    refine pow_int h0 ?_ (k.here (.ofInt _ _) _)
    have : ((Builtin.Int.intBits 5 : Nat) : Int) = 3 := by decide +kernel
    rw [this]; omega

theorem op_cmp {o : COp} {X Y : PyData} {z : Bool} {x y : Value} {Q : Value → Shared → Prop} (hu : A.units + 200 < cLine) (hx : Rv s.heap M X x) (hy : Rv s.heap M Y y) (hz : cmpP o X Y = some z) (k : Q (.bool z) s) :
    wpAny (model prog w) A (compareOp (pyC o) x y) Q E s := by
  have hEq : SeqAt.shaped X = true → SeqAt.shaped Y = true → PyData.eqv X Y = z → wpAny (model prog w) A (compareOp .Eq x y) Q E s := fun h1 h2 h3 => by
    obtain ⟨as, ra⟩ := hx.reads
    obtain ⟨bs, rb⟩ := hy.reads
    exact eq_dataH ra rb h1 h2 (by omega) (by rw [h3]; exact k)
  have hNe : SeqAt.shaped X = true → SeqAt.shaped Y = true → (!PyData.eqv X Y) = z → wpAny (model prog w) A (compareOp .NotEq x y) Q E s := fun h1 h2 h3 => by
    obtain ⟨as, ra⟩ := hx.reads
    obtain ⟨bs, rb⟩ := hy.reads
    exact ne_dataH ra rb h1 h2 (by omega) (by rw [h3]; exact k)
  have hIn : ∀ (neg : Bool) (ys : List PyData), seqP Y = some ys → SeqAt.shaped X = true → SeqAt.shaped Y = true → (if neg then !ys.any fun y => PyData.eqv y X else ys.any fun y => PyData.eqv y X) = z →
      wpAny (model prog w) A (compareOp (if neg then .NotIn else .In) x y) Q E s := fun neg ys h0 h1 h2 h3 => by
    obtain ⟨as, ra⟩ := hx.reads
    obtain ⟨bs, rb⟩ := hy.reads
    have c1 := SeqAt.canLay_of_shaped h1
    have c2 := SeqAt.canLay_of_shaped h2
    have d1 := SeqAt.depth_of_shaped h1
    have d2 := SeqAt.depth_of_shaped h2
    cases Y with
    | list l =>
      simp only [seqP, Option.some.injEq] at h0
      subst h0
      simp only [PyData.canLay0, PyData.depth] at c2 d2
      have hu' : A.units + 1 + min (PyData.depthAll l) X.depth < cLine := by have := Nat.min_le_right (PyData.depthAll l) X.depth; omega
      cases neg with
      | true => exact SeqAt.notIn_list_reads rb ra c2 c1 hu' (by rw [show (!l.any fun y => PyData.eqv y X) = z from h3]; exact k)
      | false => exact SeqAt.in_list_reads rb ra c2 c1 hu' (by rw [show (l.any fun y => PyData.eqv y X) = z from h3]; exact k)
    | tuple l =>
      simp only [seqP, Option.some.injEq] at h0
      subst h0
      simp only [PyData.canLay0, PyData.depth] at c2 d2
      have hu' : A.units + 1 + min (PyData.depthAll l) X.depth < cLine := by have := Nat.min_le_right (PyData.depthAll l) X.depth; omega
      cases neg with
      | true => exact SeqAt.notIn_tuple_reads rb ra c2 c1 hu' (by rw [show (!l.any fun y => PyData.eqv y X) = z from h3]; exact k)
      | false => exact SeqAt.in_tuple_reads rb ra c2 c1 hu' (by rw [show (l.any fun y => PyData.eqv y X) = z from h3]; exact k)
    | _ => simp [seqP] at h0
  have hInts : ∀ {a b : Int}, X = .int a → Y = .int b → ∃ t u, x = .int a t ∧ y = .int b u := fun e1 e2 => by
    subst e1 e2
    obtain ⟨t, rfl⟩ := hx.int
    obtain ⟨u, rfl⟩ := hy.int
    exact ⟨t, u, rfl, rfl⟩
  have ord : ∀ {f : Int → Int → Bool}, intK2 (fun a b => some (f a b)) X Y = some z → ∃ a b t u, x = .int a t ∧ y = .int b u ∧ f a b = z := fun h => by
    obtain ⟨a, b, e1, e2, e3⟩ := intK2_some h
    obtain ⟨t, u, h1, h2⟩ := hInts e1 e2
    exact ⟨a, b, t, u, h1, h2, Option.some.inj e3⟩
  cases o with
  | eq =>
    rcases eqP_some hz with ⟨a, b, e1, e2, e3⟩ | ⟨⟨h1, h2⟩, h3⟩
    · obtain ⟨t, u, rfl, rfl⟩ := hInts e1 e2
      exact eq_int (by rw [show (a == b) = z from e3]; exact k)
    · exact hEq h1 h2 h3
  | ne =>
    obtain ⟨q, e, hq⟩ := notP_some hz
    rcases eqP_some e with ⟨a, b, e1, e2, e3⟩ | ⟨⟨h1, h2⟩, h3⟩
    · obtain ⟨t, u, rfl, rfl⟩ := hInts e1 e2
      subst e3
      exact P.ne_int (by rw [show (a != b) = z from hq]; exact k)
    · subst h3; exact hNe h1 h2 hq
  | lt => obtain ⟨a, b, t, u, rfl, rfl, e⟩ := ord hz; exact lt_int (by rw [e]; exact k)
  | le => obtain ⟨a, b, t, u, rfl, rfl, e⟩ := ord hz; exact le_int (by rw [e]; exact k)
  | gt => obtain ⟨a, b, t, u, rfl, rfl, e⟩ := ord hz; exact gt_int (by rw [e]; exact k)
  | ge => obtain ⟨a, b, t, u, rfl, rfl, e⟩ := ord hz; exact ge_int (by rw [e]; exact k)
  | inn =>
    obtain ⟨ys, h0, ⟨h1, h2⟩, h3⟩ := inP_some hz
    exact hIn false ys h0 h1 h2 h3
  | nin =>
    obtain ⟨q, e, hq⟩ := notP_some hz
    obtain ⟨ys, h0, ⟨h1, h2⟩, h3⟩ := inP_some e
    subst h3
    exact hIn true ys h0 h1 h2 hq

theorem op_truthy {X : PyData} {x : Value} {Q : Bool → Shared → Prop} (hx : Rv s.heap M X x) (k : ∀ tk, Q (truthP X) { s with toks := tk }) : wpAny (model prog w) A (truthy x) Q E s := by
  have hlim : (lim : Int) < 2 ^ 63 := by rw [lim_eq]; decide
  cases X with
  | none => change Rd _ _ _ _ at hx; rw [Rd] at hx; subst hx; exact truthy_none (k s.toks)
  | bool b => cases hx.bool; exact wpAny_truthy_bool (k s.toks)
  | int i => obtain ⟨t, rfl⟩ := hx.int; exact P.truthy_int (k s.toks)
  | list xs =>
    obtain ⟨l, vs, rfl, _, hl, hz, r⟩ := hx.list
    refine wpAny_truthy_list hl (by simp only [List.size_toArray]; rw [r.length]; omega) ?_
    rw [show (!vs.toArray.isEmpty) = truthP (.list xs) from by
      have := r.length
      cases vs <;> cases xs <;> simp_all [truthP]]
    exact k _
  | tuple xs =>
    obtain ⟨l, vs, rfl, _, hl, hz, r⟩ := hx.tuple
    refine truthy_tuple hl (by simp only [List.size_toArray]; rw [r.length]; omega) ?_
    rw [show (!vs.toArray.isEmpty) = truthP (.tuple xs) from by
      have := r.length
      cases vs <;> cases xs <;> simp_all [truthP]]
    exact k _
  | str _ => change Rd _ _ _ _ at hx; rw [Rd] at hx; exact hx.elim
  | dict _ => change Rd _ _ _ _ at hx; rw [Rd] at hx; exact hx.elim

theorem op_len {X : PyData} {xs : List PyData} {x : Value} {Q : Value → Shared → Prop} (hx : Rv s.heap M X x) (hs : seqP X = some xs) (k : Gr (fun _ => False) s (.int xs.length) Q) : wpAny (model prog w) A (call (.builtin "len") [x]) Q E s := by
  have hlim : (lim : Int) < 2 ^ 63 := by rw [lim_eq]; decide
  cases X with
  | list ys =>
    simp only [seqP, Option.some.injEq] at hs; subst hs
    obtain ⟨l, vs, rfl, _, hl, hz, r⟩ := hx.list
    refine len_list hl (by simp only [List.size_toArray]; rw [r.length]; omega) ?_
    simp only [List.size_toArray, r.length]
    exact k.here (.ofInt _ _) _
  | tuple ys =>
    simp only [seqP, Option.some.injEq] at hs; subst hs
    obtain ⟨l, vs, rfl, _, hl, hz, r⟩ := hx.tuple
    refine PyProof.Rows.len_tuple hl (by simp only [List.size_toArray]; rw [r.length]; omega) ?_
    simp only [List.size_toArray, r.length]
    exact k.here (.ofInt _ _) _
  | _ => simp [seqP] at hs

theorem op_idx {value slice : Expr} {X I Z : PyData} {x i : Value} {Q : Value → Shared → Prop} (hx : Rv s.heap M X x) (hi : Rv s.heap M I i) (hz : idxP X I = some Z) (k : ∀ v, Rd s.heap M Z v → Q v s)
    (hs : ∀ o i, subscripted slice false o i = operate [o, i] (getItem o i)) : wpAny (model prog w) A (subscriptTail value slice x i) Q E s := by
  have hlim : (lim : Int) < 2 ^ 62 := by rw [lim_eq]; decide
  cases I with
  | int j =>
    obtain ⟨t, rfl⟩ := hi.int
    cases X with
    | list xs =>
      obtain ⟨l, vs, rfl, _, hl, hzz, r⟩ := hx.list
      simp only [idxP, seqP] at hz
      split at hz
      · rename_i h0
        obtain ⟨v, ev, rv⟩ := r.get hz
        have hj : j.toNat < xs.length := by
          rcases Nat.lt_or_ge j.toNat xs.length with q | q
          · exact q
          · rw [List.getElem?_eq_none q] at hz; cases hz
        exact tail_any hl.typeIs slot_list_getitem.lookup (wpAny_getItem_list hl h0 (by omega) (by simpa using ev) (k v rv)) (hs _ _)
      · cases hz
    | tuple xs =>
      obtain ⟨l, vs, rfl, _, hl, hzz, r⟩ := hx.tuple
      simp only [idxP, seqP] at hz
      split at hz
      · rename_i h0
        obtain ⟨v, ev, rv⟩ := r.get hz
        have hj : j.toNat < xs.length := by
          rcases Nat.lt_or_ge j.toNat xs.length with q | q
          · exact q
          · rw [List.getElem?_eq_none q] at hz; cases hz
        have hq : seqIndex? j vs.toArray.size = some j.toNat := by
          simp only [seqIndex?, List.size_toArray, r.length]
          rw [if_neg (show ¬ j < 0 by omega), if_pos (by simp; omega)]
        exact tail_any hl.typeIs slot_tuple_getitem.lookup (PyProof.Rows.getItem_tuple hl (by omega) (by omega) hq (by simpa using ev) (k v rv)) (hs _ _)
      · cases hz
    | _ => simp [idxP, seqP] at hz
  | _ => cases X <;> simp [idxP, seqP] at hz

theorem op_tupOf {xs : List PyData} {x : Value} {Q : Value → Shared → Prop} (hM : ∀ a, s.heap.get? a = none → ¬ M a) (hx : Rv s.heap M (.list xs) x) (k : Gr M s (.tuple xs) Q) : wpAny (model prog w) A (call (.type "tuple") [x]) Q E s := by
  obtain ⟨l, vs, rfl, _, hl, hz, r⟩ := hx.list
  refine call_tuple_list hl (fun h' hk => ?_) (by simp only [List.size_toArray]; rw [r.length]; exact Nat.le_trans hz lim_line)
  have k' : Gr M { s with heap := h' } (.tuple xs) Q := fun v h'' tk hk' r' => k v h'' tk (fun b o e => hk' b o (hk b o e)) r'
  refine k'.newTuple (fun a e => hM a ?_) hz (r.grow hk) rfl
  cases q : s.heap.get? a with
  | none => rfl
  | some o => have := hk _ _ q; rw [e] at this; cases this

theorem op_lstOf {X : PyData} {xs : List PyData} {x : Value} {Q : Value → Shared → Prop} (hM : ∀ a, s.heap.get? a = none → ¬ M a) (hx : Rv s.heap M X x) (hs : seqP X = some xs) (k : Gr M s (.list xs) Q) : wpAny (model prog w) A (call (.type "list") [x]) Q E s := by
  have main : ∀ (T : String) (l : Addr) (vs : List Value) (o : Obj) (n : Nat), (T = "list" ∨ T = "tuple") → s.heap.get? l = some o → o.cls = .type T → o.data = .seq vs.toArray n → xs.length ≤ lim → RdAll s.heap M xs vs → wpAny (model prog w) A (call (.type "list") [.ref l]) Q E s := by
    intro T l vs o n hT ho hc hd hz r
    refine call_list_seq l hT ho hc hd (fun h' c' hk hD => ?_) (by simp only [List.size_toArray]; rw [r.length]; exact Nat.le_trans hz lim_line)
    refine k _ _ s.toks hk (.ofList (vs := vs) (hM _ ?_) ⟨_, hD, rfl, _, rfl⟩ hz (r.grow hk))
    cases e : s.heap.get? s.heap.objs.size with
    | none => rfl
    | some o => exact absurd (Heap.lt_size e) (Nat.lt_irrefl _)
  cases X with
  | list ys =>
    simp only [seqP, Option.some.injEq] at hs; subst hs
    obtain ⟨l, vs, rfl, _, ⟨o, ho, hc, n, hd⟩, hz, r⟩ := hx.list
    exact main "list" l vs o n (.inl rfl) ho hc hd hz r
  | tuple ys =>
    simp only [seqP, Option.some.injEq] at hs; subst hs
    obtain ⟨l, vs, rfl, _, ⟨o, ho, hc, n, hd⟩, hz, r⟩ := hx.tuple
    exact main "tuple" l vs o n (.inr rfl) ho hc hd hz r
  | _ => simp [seqP] at hs

theorem Obj.mapSeq_set_plain (its : Array Value) (n : Nat) (j : Nat) (x : Value) :
    ∃ n', Obj.mapSeq (·.setIfInBounds j x) { cls := .type "list", data := .seq its n } = { cls := .type "list", data := .seq (its.setIfInBounds j x) n' } := ⟨_, rfl⟩

/-- a store into a list, whatever else it is -/
theorem op_set {l : Addr} {items : Array Value} {k : Int} {t : Tok} {v : Value} {Q : Unit → Shared → Prop} (hl : s.heap.PlainList l items)
    (h0 : 0 ≤ k) (hfit : k < 2 ^ 63) (hn : k < items.size)
    (hQ : ∀ h', h'.PlainList l (items.setIfInBounds k.toNat v) → Heap.SameBut l s.heap h' → Q () { s with heap := h' }) :
    wpAny (model prog w) A (setItem (.ref l) (.int k t) v) Q E s := by
  obtain ⟨ne, ho⟩ := id hl
  have hd : ({ cls := .type "list", data := .seq items ne } : Obj).data = .seq items ne := rfl
  unfold setItem
  try with_reducible refine wpAny_holding ?_
  first | refine wpAny_bind (wpAny_pure ?_) | skip
  refine wpAny_bind (wpAny_sequenceKey hl.isList.typeIs (by decide) ?_)
  refine wpAny_bind (wpAny_callSpecial?_slot (name := Str.ofString "__setitem__") hl.isList.typeIs slot_list_setitem
    (wpAny_call_entry slot_list_setitem hl.isList.typeIs entry_list_setitem ?_ (args_list_setitem _ _ _)))
  show wpAny _ _ (Builtin.List.listSubscript? (.int k t) >>= _) _ _ s
  refine wpAny_bind (wpAny_listSubscript_int (fitsIndex_of h0 hfit) ?_)
  clear hfit
  obtain ⟨j, rfl⟩ := Int.eq_ofNat_of_zero_le h0
  have hj : j < items.size := by omega
  have hx' : items[j]? = some items[j] := Array.getElem?_eq_getElem hj
  show wpAny _ _ ((seqItemAt l j >>= fun r => pure (r.map (j, ·))) >>= _) _ _ s
  refine wpAny_bind (wpAny_bind (wpAny_seqItemAt ho hd (wpAny_pure ?_)))
  rw [hx']
  show wpAny _ _ (setSeqItemAt l j v >>= _) _ _ s
  obtain ⟨n', e'⟩ := Obj.mapSeq_set_plain items ne j v
  have hfin : (s.heap.update l (Obj.mapSeq (·.setIfInBounds j v))).PlainList l (items.setIfInBounds j v) :=
    ⟨n', by rw [Heap.get?_update_self _ ho (by rw [e']; rfl), e']⟩
  refine wpAny_bind (wpAny_setSeqItemAt ho hd ?_)
  first
    | exact wpAny_bind (wpAny_pure (wpAny_pure ⟨.none, rfl, wpAny_pure (hQ _ hfin (Heap.SameBut.update ..))⟩))
    | exact wpAny_pure ⟨.none, rfl, wpAny_pure (hQ _ hfin (Heap.SameBut.update ..))⟩

theorem pop_plain {l : Addr} {vs : List Value} {h : Heap} {n : Nat} (ho : h.get? l = some { cls := .type "list", data := .seq vs.toArray n }) :
    (h.update l (Obj.mapSeq fun xs => xs.eraseIdxIfInBounds (vs.toArray.size - 1))).PlainList l vs.dropLast.toArray := by
  have e1 : vs.toArray.eraseIdxIfInBounds (vs.toArray.size - 1) = vs.dropLast.toArray := by rw [← List.eraseIdx_length_sub_one]; simp
  have e2 : ∃ n', Obj.mapSeq (fun xs => xs.eraseIdxIfInBounds (vs.toArray.size - 1)) { cls := .type "list", data := .seq vs.toArray n } = { cls := .type "list", data := .seq (vs.toArray.eraseIdxIfInBounds (vs.toArray.size - 1)) n' } := ⟨_, rfl⟩
  obtain ⟨n', e⟩ := e2
  rw [e1] at e
  exact ⟨n', by rw [Heap.get?_update_self _ ho (by rw [e]; rfl), e]⟩
end
end Mine
end
section
namespace Mine

abbrev Fls : Value → Shared → Prop := fun _ _ => False
structure Room (k : Nat) (A : Around) : Prop where
  hh : A.handled = none
  dep : A.depth + k < 500
  un : A.units + 4 * k + 300 < cLine

noncomputable def ix : List Str → Str → Option Nat
  | [], _ => none
  | y :: ys, x => if x == y then some 0 else (ix ys x).map (· + 1)

inductive PostE (base : Heap) (H : Addr → Prop) (α : List Addr) (σ : Store) (s : Shared) (Q : KV) (v : Value) (s' : Shared) : Prop
  | mk (α' : List Addr) (σ' : Store) (W : V) (h : Heap) (tk : Nat) (e : s' = { s with heap := h, toks := tk }) (S : SR base H α' σ' h) (X : Ext NoO α σ s.heap α' σ' h) (r : Rp H α' σ' h W v) (q : Q W σ')
inductive PostT (base : Heap) (H : Addr → Prop) (α : List Addr) (σ : Store) (s : Shared) (Q : KB) (b : Bool) (s' : Shared) : Prop
  | mk (α' : List Addr) (σ' : Store) (h : Heap) (tk : Nat) (e : s' = { s with heap := h, toks := tk }) (S : SR base H α' σ' h) (X : Ext NoO α σ s.heap α' σ' h) (q : Q b σ')
inductive RpL (H : Addr → Prop) (α : List Addr) (σ : Store) (h : Heap) : List V → List Value → Prop
  | nil : RpL H α σ h [] []
  | cons {V v Vs vs} : Rp H α σ h V v → RpL H α σ h Vs vs → RpL H α σ h (V :: Vs) (v :: vs)
inductive PostL (base : Heap) (H : Addr → Prop) (α : List Addr) (σ : Store) (s : Shared) (Q : KL) (vs : List Value) (s' : Shared) : Prop
  | mk (α' : List Addr) (σ' : Store) (Ws : List V) (h : Heap) (tk : Nat) (e : s' = { s with heap := h, toks := tk }) (S : SR base H α' σ' h) (X : Ext NoO α σ s.heap α' σ' h) (r : RpL H α' σ' h Ws vs) (q : Q Ws σ')

section
variable {base h h' : Heap} {H O : Addr → Prop} {α α' : List Addr} {σ σ' : Store}
theorem RpL.ext (S : SR base H α σ h) (x : Ext O α σ h α' σ' h') (hO : ∀ a o, O a → h.get? a = some o → ¬ isSeq o) {Vs : List V} {vs : List Value} (q : RpL H α σ h Vs vs) : RpL H α' σ' h' Vs vs := by
  induction q with
  | nil => exact .nil
  | cons r _ ih => exact .cons (r.ext S x hO) ih
theorem RpL.rdAll {Vs : List V} {vs : List Value} (q : RpL H α σ h Vs vs) : ∀ {ds : List PyData}, Vs.mapM rdD = some ds → RdAll h (Mu H α σ) ds vs := by
  induction q with
  | nil => intro ds e; simp at e; subst e; exact .nil
  | @cons V v Vs vs r _ ih =>
    intro ds e
    rw [List.mapM_cons] at e
    cases V with
    | l n => simp [rdD] at e
    | d x =>
      simp only [rdD, Option.pure_def, Option.bind_eq_bind, Option.bind_some] at e
      cases e' : Vs.mapM rdD with
      | none => rw [e'] at e; cases e
      | some xs => rw [e'] at e; cases e; exact .cons r (ih e')
theorem Rp.rv (S : SR base H α σ h) {V : V} {v : Value} {X : PyData} (q : Rp H α σ h V v) (e : rdV σ V = some X) : Rv h (Mu H α σ) X v := by
  cases V with
  | d x => simp only [rdV, Option.some.injEq] at e; subst e; exact Rd.rv q
  | l n =>
    obtain ⟨a, rfl, ea⟩ := q
    simp only [rdV] at e
    split at e
    · rename_i xs ex
      simp only [Option.some.injEq] at e; subst e
      obtain ⟨vs, pl, hl, r⟩ := S.lst n a xs ea ex
      exact ⟨a, vs, rfl, trivial, pl.isList, hl, r⟩
    · cases e
theorem Rp.rd {V : V} {v : Value} {X : PyData} (q : Rp H α σ h V v) (e : rdD V = some X) : Rd h (Mu H α σ) X v := by
  cases V with
  | d x => simp only [rdD, Option.some.injEq] at e; subst e; exact q
  | l n => simp [rdD] at e
end

noncomputable def Look (env : Env) (h : Heap) (x : Str) (P : Value → Prop) : Prop := match env.kindOf x with
  | some .local => ∃ m v, h.Ns env.locals m ∧ m x = some v ∧ P v
  | some .cell => ∃ c v, env.cells.lookup x = some c ∧ h.IsCell c (some v) ∧ P v
  | some .free => ∃ c v, env.cells.lookup x = some c ∧ h.IsCell c (some v) ∧ P v
  | _ => True

structure EV (env : Env) (names : List Str) (ρ : Rho) (H : Addr → Prop) (α : List Addr) (σ : Store) (h : Heap) : Prop where
  kind : env.scope.kind = .function
  glob : env.globals = mainGlobals
  bui : env.builtins = builtinsNs
  vars : ∀ x i V, ix names x = some i → getR ρ i = some V → Look env h x fun v => Rp H α σ h V v
  ns : ∃ m, h.Ns env.locals m
  cel : ∀ x c, env.cells.lookup x = some c → ∃ v, h.IsCell c v
  inj : ∀ x y c, env.cells.lookup x = some c → env.cells.lookup y = some c → x = y
  has : ∀ x kd, env.kindOf x = some kd → (kd = .cell ∨ kd = .free) → ∃ a, env.cells.lookup x = some a

section
variable {base h h' : Heap} {H O : Addr → Prop} {α α' : List Addr} {σ σ' : Store} {env : Env} {names : List Str} {ρ : Rho}
theorem SR.notMut (S : SR base H α σ h) {a : Addr} {o : Obj} (e : h.get? a = some o) (hq : ¬ isSeq o) : ¬ Muts α σ a := fun m => by
  obtain ⟨vs, o', ho, _, n, hd⟩ := S.isList m
  rw [e] at ho; cases ho
  exact hq ⟨_, _, hd⟩
theorem notSeq_dict {o : Obj} {es ep} (hd : o.data = .dict es ep) : ¬ isSeq o := fun ⟨_, _, e⟩ => by rw [hd] at e; cases e
theorem notSeq_cell {o : Obj} {v} (hd : o.data = .cell v) : ¬ isSeq o := fun ⟨_, _, e⟩ => by rw [hd] at e; cases e
theorem notSeq_fields {o : Obj} {v} (hd : o.data = .fields v) : ¬ isSeq o := fun ⟨_, _, e⟩ => by rw [hd] at e; cases e
theorem ns_ext (S : SR base H α σ h) (x : Ext O α σ h α' σ' h') {a : Addr} {m} (hO : ¬ O a) (n : h.Ns a m) : h'.Ns a m :=
  n.at' fun o e => x.keep a o e (by obtain ⟨o', es, ep, ho, hd, _⟩ := n; rw [e] at ho; cases ho; exact S.notMut e (notSeq_dict hd)) hO
theorem cell_ext (S : SR base H α σ h) (x : Ext O α σ h α' σ' h') {a : Addr} {v} (hO : ¬ O a) (n : h.IsCell a v) : h'.IsCell a v :=
  let ⟨o, ho, hd⟩ := n; ⟨o, x.keep a o ho (S.notMut ho (notSeq_cell hd)) hO, hd⟩
theorem Look.mono {x : Str} {P P' : Value → Prop} (q : Look env h x P) (hn : ∀ m, h.Ns env.locals m → h'.Ns env.locals m) (hc : ∀ c v, env.cells.lookup x = some c → h.IsCell c v → h'.IsCell c v) (hP : ∀ v, P v → P' v) : Look env h' x P' := by
  unfold Look at q ⊢
  split at q
  · obtain ⟨m, v, a, b, c⟩ := q; exact ⟨m, v, hn m a, b, hP v c⟩
  · obtain ⟨c, v, a, b, d⟩ := q; exact ⟨c, v, a, hc c _ a b, hP v d⟩
  · obtain ⟨c, v, a, b, d⟩ := q; exact ⟨c, v, a, hc c _ a b, hP v d⟩
  · trivial
theorem EV.ext (V : EV env names ρ H α σ h) (S : SR base H α σ h) (x : Ext NoO α σ h α' σ' h') : EV env names ρ H α' σ' h' where
  kind := V.kind
  glob := V.glob
  bui := V.bui
  vars := fun y i W e1 e2 => (V.vars y i W e1 e2).mono (fun m n => ns_ext S x (fun z => z) n) (fun c v _ n => cell_ext S x (fun z => z) n) fun v r => r.ext S x noO
  ns := let ⟨m, n⟩ := V.ns; ⟨m, ns_ext S x (fun z => z) n⟩
  cel := fun y c e => let ⟨v, n⟩ := V.cel y c e; ⟨v, cell_ext S x (fun z => z) n⟩
  inj := V.inj
  has := V.has
end

/-- the ground: what the top's run leaves -/
structure GB (base : Heap) (mg mb : Str → Option Value) : Prop where
  g : base.Ns mainGlobals mg
  b : base.Ns builtinsNs mb
  lim : base.NoLimit

noncomputable def CallOK (prog : Program) (w : World) (base : Heap) (mg : Str → Option Value) (k : Nat) (f : Str) (Vs : List V) (σ : Store) (Q : KV) : Prop :=
  ∀ (A : Around) (H : Addr → Prop) (α : List Addr) (s : Shared) (vs : List Value) (fv : Addr) (o : Obj) (fd : FuncData), Room k A → SR base H α σ s.heap → mg f = some (.ref fv) → base.get? fv = some o → o.data = .func fd → RpL H α σ s.heap Vs vs →
    codeAny (model prog w) A (.call (.ref fv) ⟨vs, []⟩) (fun r s' => match r with | .ok (.ret v) => PostE base H α σ s Q v s' | _ => False) s

theorem PostE.mono {base : Heap} {H : Addr → Prop} {α : List Addr} {σ : Store} {s s' : Shared} {Q Q' : KV} {v : Value} (p : PostE base H α σ s Q v s') (k : ∀ v σ', Q v σ' → Q' v σ') : PostE base H α σ s Q' v s' := by
  obtain ⟨α', σ', V, h, tk, e, a, b, c, q⟩ := p
  exact ⟨α', σ', V, h, tk, e, a, b, c, k _ _ q⟩
theorem CallOK.mono {prog : Program} {w : World} {base : Heap} {mg : Str → Option Value} {k : Nat} : MonoC (CallOK prog w base mg k) := fun f Vs σ Q Q' h hQ A H α s vs fv o fd hR S e1 e2 e3 r =>
  codeAny_mono (h A H α s vs fv o fd hR S e1 e2 e3 r) fun r s' p => by
    cases r with
    | error e => exact p
    | ok f => cases f with
      | ret v => exact p.mono hQ
      | _ => exact p
theorem Room.mono {k k' : Nat} {A : Around} (h : Room k A) (l : k' ≤ k) : Room k' A := ⟨h.hh, by have := h.dep; omega, by have := h.un; omega⟩
theorem CallOK.le {prog : Program} {w : World} {base : Heap} {mg : Str → Option Value} {k k' : Nat} {f : Str} {Vs : List V} {σ : Store} {Q : KV} (h : CallOK prog w base mg k f Vs σ Q) (l : k ≤ k') : CallOK prog w base mg k' f Vs σ Q :=
  fun A H α s vs fv o fd hR => h A H α s vs fv o fd (hR.mono l)

structure CX where
  prog : Program
  w : World
  base : Heap
  mg : Str → Option Value
  mb : Str → Option Value
  tab : Int → Option Int
  k : Nat
  names : List Str
  kinds : List (Str × NameKind)
abbrev CX.M (c : CX) : Model := model c.prog c.w
abbrev CX.C (c : CX) : Str → List V → Store → KV → Prop := CallOK c.prog c.w c.base c.mg c.k
noncomputable abbrev CX.X (c : CX) : IE → R := vcX c.C c.tab
noncomputable def DenE (c : CX) (e : Expr) (ir : IE) : Prop := ∀ env ρ H α σ s A (Q : KV), env.scope.names = c.kinds → EV env c.names ρ H α σ s.heap → SR c.base H α σ s.heap → Room c.k A → (c.X ir).E ρ σ Q →
  wpAny c.M A (eval e env) (PostE c.base H α σ s Q) Fls s
noncomputable def DenT (c : CX) (e : Expr) (ir : IE) : Prop := ∀ env ρ H α σ s A (Q : KB), env.scope.names = c.kinds → EV env c.names ρ H α σ s.heap → SR c.base H α σ s.heap → Room c.k A → (c.X ir).T ρ σ Q →
  wpAny c.M A (isTrue e env (eval e env)) (PostT c.base H α σ s Q) Fls s
noncomputable def DenL (c : CX) (es : List Expr) (ir : IE) : Prop := ∀ env ρ H α σ s A (Q : KL) pos, env.scope.names = c.kinds → EV env c.names ρ H α σ s.heap → SR c.base H α σ s.heap → Room c.k A → (c.X ir).L ρ σ Q →
  wpAny c.M A (spliced (backTo pos (starEach es env))) (PostL c.base H α σ s Q) Fls s

/-- a value that is there, or comes by growth -/
theorem PostE.gr {base : Heap} {H : Addr → Prop} {α : List Addr} {σ : Store} {s s₁ : Shared} {α₁ : List Addr} {σ₁ : Store} {h₁ : Heap} {tk₁ : Nat} {Q : KV} {Z : PyData} (e : s₁ = { s with heap := h₁, toks := tk₁ }) (S : SR base H α₁ σ₁ h₁) (x : Ext NoO α σ s.heap α₁ σ₁ h₁) (q : Q (.d Z) σ₁) :
    Gr (Mu H α₁ σ₁) s₁ Z (PostE base H α σ s Q) := fun v h' tk hk r => by
  subst e
  exact ⟨α₁, σ₁, .d Z, h', tk, rfl, S.grow hk, x.trans (.grow hk), r, q⟩
theorem SR.hM {base : Heap} {H : Addr → Prop} {α : List Addr} {σ : Store} {s : Shared} (S : SR base H α σ s.heap) : ∀ a, s.heap.get? a = none → ¬ Mu H α σ a := fun a e => S.fresh e
theorem PostE.val {base : Heap} {H : Addr → Prop} {α : List Addr} {σ : Store} {s s₁ : Shared} {α₁ : List Addr} {σ₁ : Store} {h₁ : Heap} {tk₁ : Nat} {Q : KV} {Z : V} {v : Value} (e : s₁ = { s with heap := h₁, toks := tk₁ }) (S : SR base H α₁ σ₁ h₁) (x : Ext NoO α σ s.heap α₁ σ₁ h₁) (r : Rp H α₁ σ₁ h₁ Z v) (q : Q Z σ₁) : PostE base H α σ s Q v s₁ :=
  ⟨α₁, σ₁, Z, h₁, tk₁, e, S, x, r, q⟩
theorem PostE.trans {base : Heap} {H : Addr → Prop} {α : List Addr} {σ : Store} {s s₂ : Shared} {α₁ : List Addr} {σ₁ : Store} {h₁ : Heap} {tk₁ : Nat} {Q : KV} {v : Value} (x : Ext NoO α σ s.heap α₁ σ₁ h₁) (p : PostE base H α₁ σ₁ { s with heap := h₁, toks := tk₁ } Q v s₂) : PostE base H α σ s Q v s₂ := by
  obtain ⟨α', σ', V, h, tk, e, a, b, r, q⟩ := p
  exact ⟨α', σ', V, h, tk, e, a, x.trans b, r, q⟩
theorem PostT.trans {base : Heap} {H : Addr → Prop} {α : List Addr} {σ : Store} {s s₂ : Shared} {α₁ : List Addr} {σ₁ : Store} {h₁ : Heap} {tk₁ : Nat} {Q : KB} {v : Bool} (x : Ext NoO α σ s.heap α₁ σ₁ h₁) (p : PostT base H α₁ σ₁ { s with heap := h₁, toks := tk₁ } Q v s₂) : PostT base H α σ s Q v s₂ := by
  obtain ⟨α', σ', h, tk, e, a, b, q⟩ := p
  exact ⟨α', σ', h, tk, e, a, x.trans b, q⟩

section
variable {c : CX}

theorem DenE.bin {l r : Expr} {pos : Pos} {a b : IE} {o : BOp} (ha : DenE c l a) (hb : DenE c r b) : DenE c (.BinOp l (pyB o) r pos) (.bin o a b) := by
  intro env ρ H α σ s A Q hk V S hR q
  refine wpAny_BinOp (wpAny_mono (ha env ρ H α σ s A _ hk V S hR q) ?_ fun _ _ f => f.elim)
  rintro x s1 ⟨α1, σ1, X, h1, tk1, rfl, S1, X1, rx, q1⟩
  refine wpAny_mono (hb env ρ H α1 σ1 _ A _ hk (V.ext S X1) S1 hR q1) ?_ fun _ _ f => f.elim
  rintro y s2 ⟨α2, σ2, Y, h2, tk2, rfl, S2, X2, ry, q2⟩
  simp only [ob_iff] at q2
  obtain ⟨DX, e1, DY, e2, DZ, e3, q3⟩ := q2
  exact op_bin (M := Mu H α2 σ2) S2.hM ((rx.ext S1 X2 noO).rv S2 e1) (ry.rv S2 e2) e3 (.gr rfl S2 (X1.trans X2) q3)

theorem DenE.neg {x : Expr} {pos : Pos} {a : IE} (ha : DenE c x a) : DenE c (.UnaryOp .USub x pos) (.neg a) := by
  intro env ρ H α σ s A Q hk V S hR q
  refine wpAny_UnaryOp (wpAny_mono (ha env ρ H α σ s A _ hk V S hR q) ?_ fun _ _ f => f.elim)
  rintro x s1 ⟨α1, σ1, X, h1, tk1, rfl, S1, X1, rx, q1⟩
  simp only [ob_iff] at q1
  obtain ⟨DX, e1, i, e2, q1⟩ := q1
  cases DX <;> simp only [intP, reduceCtorEq, Option.some.injEq] at e2
  subst e2
  obtain ⟨t, rfl⟩ := (rx.rv S1 e1).int
  exact P.neg_int ((PostE.gr rfl S1 X1 q1).here (.ofInt _ _) _)

theorem DenE.not {x : Expr} {pos : Pos} {a : IE} (ha : DenE c x a) : DenE c (.UnaryOp .Not x pos) (.not a) := by
  intro env ρ H α σ s A Q hk V S hR q
  refine wpAny_UnaryOp (wpAny_mono (ha env ρ H α σ s A _ hk V S hR q) ?_ fun _ _ f => f.elim)
  rintro x s1 ⟨α1, σ1, X, h1, tk1, rfl, S1, X1, rx, q1⟩
  simp only [ob_iff] at q1
  obtain ⟨DX, e1, q1⟩ := q1
  exact not_value (op_truthy (M := Mu H α1 σ1) (rx.rv S1 e1) fun tk => (PostE.gr rfl S1 X1 q1).here (.ofBool _) _)
theorem DenT.not {x : Expr} {pos : Pos} {a : IE} (ha : DenT c x a) : DenT c (.UnaryOp .Not x pos) (.not a) := by
  intro env ρ H α σ s A Q hk V S hR q
  refine wpAny_isTrue_Not (wpAny_mono (ha env ρ H α σ s A _ hk V S hR q) ?_ fun _ _ f => f.elim)
  rintro b s1 ⟨α1, σ1, h1, tk1, rfl, S1, X1, q1⟩
  exact ⟨α1, σ1, h1, tk1, rfl, S1, X1, q1⟩

theorem DenE.int {i : Int} {j : Nat} {pos : Pos} : DenE c (.Constant (.int i) j pos) (.int i) := by
  intro env ρ H α σ s A Q hk V S hR q
  exact wpAny_Constant_int ((PostE.gr (s₁ := s) rfl S .refl q).here (.ofInt _ _) _)
theorem DenE.bool {b : Bool} {j : Nat} {pos : Pos} : DenE c (.Constant (.bool b) j pos) (.bool b) := by
  intro env ρ H α σ s A Q hk V S hR q
  exact wpAny_Constant_bool ((PostE.gr (s₁ := s) rfl S .refl q).same (.ofBool _))

theorem Env.kindOf_of {env : Env} {c : CX} (hk : env.scope.names = c.kinds) (x : Str) : env.kindOf x = c.kinds.lookup x := by unfold Env.kindOf; rw [hk]

theorem load_var {env : Env} {h : Heap} {x : Str} {P : Value → Prop} {kd : NameKind} {A : Around} {s : Shared} {E : Value → Shared → Prop} {Q : Value → Shared → Prop} (hkind : env.scope.kind = .function) (hx : env.kindOf x = some kd) (hkd : kd = .local ∨ kd = .cell ∨ kd = .free) (hcl : (x == ("__classdict__" : Str)) = false)
    (L : Look env s.heap x P) (k : ∀ v, P v → Q v s) : wpAny c.M A (loadName env x) Q E s := by
  unfold Look at L
  rw [hx] at L
  rcases hkd with rfl | rfl | rfl
  · obtain ⟨m, v, n, e, p⟩ := L; exact wpAny_loadName_local hkind hx n e (k v p)
  · obtain ⟨cc, v, e, n, p⟩ := L; exact wpAny_loadName_cell hkind hx e n (k v p)
  · obtain ⟨cc, v, e, n, p⟩ := L; exact wpAny_loadName_free hkind hx e n (k v p) hcl

theorem DenE.var {x : Str} {pos : Pos} {i : Nat} {kd : NameKind} (hx : c.kinds.lookup x = some kd) (hkd : kd = .local ∨ kd = .cell ∨ kd = .free) (hi : ix c.names x = some i) (hcl : (x == ("__classdict__" : Str)) = false) (hd : (x == ("__debug__" : Str)) = false) : DenE c (.Name x pos) (.var i) := by
  intro env ρ H α σ s A Q hk V S hR q
  refine wpAny_Name ?_ hd
  obtain ⟨W, e, q⟩ := ob_iff.mp q
  exact load_var (h := s.heap) V.kind ((Env.kindOf_of hk x).trans hx) hkd hcl (V.vars x i W hi e) fun v r => .val (s₁ := s) rfl S .refl r q

/-- a global of the top's: an int -/
theorem DenE.gint {x : Str} {pos : Pos} {i : Int} {t : Tok} {mb : Str → Option Value} (G : GB c.base c.mg mb) (hx : c.kinds.lookup x = some .globalImplicit) (hi : c.mg x = some (.int i t)) (hd : (x == ("__debug__" : Str)) = false) : DenE c (.Name x pos) (.int i) := by
  intro env ρ H α σ s A Q hk V S hR q
  have hg : s.heap.Ns env.globals c.mg := V.glob ▸ G.g.keeps S.old
  exact Calls.Name_function_global V.kind ((Env.kindOf_of hk x).trans hx) (Calls.loadGlobal_global hg hi ((PostE.gr (s₁ := s) rfl S .refl q).same (.ofInt _ _))) hd
end
end Mine
end
section
namespace Mine
section
variable {c : CX}

/-- a test that is a plain value -/
theorem DenT.ofE {e : Expr} {ir : IE} (h : DenE c e ir) (hT : ∀ ρ σ (Q : KB), (c.X ir).T ρ σ Q → (c.X ir).E ρ σ fun v σ1 => ob (rdV σ1 v) fun X => Q (truthP X) σ1)
    (he : ∀ env whole, isTrue e env whole = (do let v ← whole; standAt e.pos; holding [v] (truthy v))) : DenT c e ir := by
  intro env ρ H α σ s A Q hk V S hR q
  refine wpAny_isTrue_value (wpAny_mono (h env ρ H α σ s A _ hk V S hR (hT _ _ _ q)) ?_ fun _ _ f => f.elim) (he _ _)
  rintro x s1 ⟨α1, σ1, X, h1, tk1, rfl, S1, X1, rx, q1⟩
  obtain ⟨DX, e1, q1⟩ := ob_iff.mp q1
  exact op_truthy (M := Mu H α1 σ1) (rx.rv S1 e1) fun tk => ⟨α1, σ1, h1, tk, rfl, S1, X1, q1⟩

noncomputable def DenBE (c : CX) (op : BoolOp) (es : List Expr) (ir : IE) : Prop := ∀ env ρ H α σ s A (Q : KV) pos, env.scope.names = c.kinds → EV env c.names ρ H α σ s.heap → SR c.base H α σ s.heap → Room c.k A → (c.X ir).E ρ σ Q →
  wpAny c.M A (boolOp pos op (evalEach es env)) (PostE c.base H α σ s Q) Fls s
noncomputable def DenBT (c : CX) (op : BoolOp) (es : List Expr) (ir : IE) : Prop := ∀ env ρ H α σ s A (Q : KB), env.scope.names = c.kinds → EV env c.names ρ H α σ s.heap → SR c.base H α σ s.heap → Room c.k A → (c.X ir).T ρ σ Q →
  wpAny c.M A (allTrue op es env) (PostT c.base H α σ s Q) Fls s
theorem DenBE.one {op : BoolOp} {x : Expr} {a : IE} (h : DenE c x a) : DenBE c op [x] a := fun env ρ H α σ s A Q pos hk V S hR q => h env ρ H α σ s A Q hk V S hR q
theorem DenBT.one {op : BoolOp} {x : Expr} {a : IE} (h : DenT c x a) : DenBT c op [x] a := by
  intro env ρ H α σ s A Q hk V S hR q
  cases op with
  | And =>
    refine wpAny_allTrue_And_cons (wpAny_mono (h env ρ H α σ s A _ hk V S hR q) ?_ fun _ _ f => f.elim)
    intro b s1 p
    cases b with
    | true => exact wpAny_allTrue_And_nil p
    | false => exact p
  | Or =>
    refine wpAny_allTrue_Or_cons (wpAny_mono (h env ρ H α σ s A _ hk V S hR q) ?_ fun _ _ f => f.elim)
    intro b s1 p
    cases b with
    | true => exact p
    | false => exact wpAny_allTrue_Or_nil p
theorem boolOp_more {M : Model} {A : Around} {pos : Pos} {op : BoolOp} {x y : Sem Value} {r : List (Sem Value)} {Q E : Value → Shared → Prop} {s : Shared}
    (h : wpAny M A x (fun v s1 => wpAny M A (truthy v) (fun t s2 => match op, t with | .And, false => Q v s2 | .Or, true => Q v s2 | _, _ => wpAny M A (boolOp pos op (y :: r)) Q E s2) E s1) E s) : wpAny M A (boolOp pos op (x :: y :: r)) Q E s := by
  show wpAny M A (do
    let v ← x
    standAt pos
    let t ← holding [v] (truthy v)
    match op, t with
    | .And, false | .Or, true => pure v
    | _, _ => boolOp pos op (y :: r)) Q E s
  refine wpAny_bind (wpAny_mono h (fun v s1 h1 => wpAny_bind (wpAny_standAt (wpAny_bind (wpAny_holding (wpAny_mono h1 (fun t s2 h2 => ?_) fun _ _ e => e))))) fun _ _ e => e)
  cases op <;> cases t <;> first | exact h2 | exact wpAny_pure h2
theorem DenBE.and {x y : Expr} {r : List Expr} {a b : IE} (ha : DenE c x a) (hb : DenBE c .And (y :: r) b) : DenBE c .And (x :: y :: r) (.and a b) := by
  intro env ρ H α σ s A Q pos hk V S hR q
  refine boolOp_more (wpAny_mono (ha env ρ H α σ s A _ hk V S hR q) ?_ fun _ _ f => f.elim)
  rintro x s1 ⟨α1, σ1, X, h1, tk1, rfl, S1, X1, rx, q1⟩
  obtain ⟨DX, e1, q1⟩ := ob_iff.mp q1
  refine op_truthy (M := Mu H α1 σ1) (rx.rv S1 e1) fun tk => ?_
  cases ht : truthP DX with
  | true =>
    simp only [ht, if_true] at q1
    exact wpAny_mono (hb env ρ H α1 σ1 _ A _ pos hk (V.ext S X1) S1 hR q1) (fun _ _ p => PostE.trans (h₁ := h1) (tk₁ := tk) X1 p) fun _ _ f => f.elim
  | false =>
    simp only [ht, Bool.false_eq_true, if_false] at q1
    exact .val (s₁ := { s with heap := h1, toks := tk }) rfl S1 X1 rx q1
theorem DenBE.or {x y : Expr} {r : List Expr} {a b : IE} (ha : DenE c x a) (hb : DenBE c .Or (y :: r) b) : DenBE c .Or (x :: y :: r) (.or a b) := by
  intro env ρ H α σ s A Q pos hk V S hR q
  refine boolOp_more (wpAny_mono (ha env ρ H α σ s A _ hk V S hR q) ?_ fun _ _ f => f.elim)
  rintro x s1 ⟨α1, σ1, X, h1, tk1, rfl, S1, X1, rx, q1⟩
  obtain ⟨DX, e1, q1⟩ := ob_iff.mp q1
  refine op_truthy (M := Mu H α1 σ1) (rx.rv S1 e1) fun tk => ?_
  cases ht : truthP DX with
  | false =>
    simp only [ht, Bool.false_eq_true, if_false] at q1
    exact wpAny_mono (hb env ρ H α1 σ1 _ A _ pos hk (V.ext S X1) S1 hR q1) (fun _ _ p => PostE.trans (h₁ := h1) (tk₁ := tk) X1 p) fun _ _ f => f.elim
  | true =>
    simp only [ht, if_true] at q1
    exact .val (s₁ := { s with heap := h1, toks := tk }) rfl S1 X1 rx q1
theorem DenBT.and {x y : Expr} {r : List Expr} {a b : IE} (ha : DenT c x a) (hb : DenBT c .And (y :: r) b) : DenBT c .And (x :: y :: r) (.and a b) := by
  intro env ρ H α σ s A Q hk V S hR q
  refine wpAny_allTrue_And_cons (wpAny_mono (ha env ρ H α σ s A _ hk V S hR q) ?_ fun _ _ f => f.elim)
  rintro b s1 ⟨α1, σ1, h1, tk1, rfl, S1, X1, q1⟩
  cases b with
  | true =>
    simp only [if_true] at q1 ⊢
    exact wpAny_mono (hb env ρ H α1 σ1 _ A _ hk (V.ext S X1) S1 hR q1) (fun _ _ p => PostT.trans X1 p) fun _ _ f => f.elim
  | false =>
    simp only [Bool.false_eq_true, if_false] at q1 ⊢
    exact ⟨α1, σ1, h1, tk1, rfl, S1, X1, q1⟩
theorem DenBT.or {x y : Expr} {r : List Expr} {a b : IE} (ha : DenT c x a) (hb : DenBT c .Or (y :: r) b) : DenBT c .Or (x :: y :: r) (.or a b) := by
  intro env ρ H α σ s A Q hk V S hR q
  refine wpAny_allTrue_Or_cons (wpAny_mono (ha env ρ H α σ s A _ hk V S hR q) ?_ fun _ _ f => f.elim)
  rintro b s1 ⟨α1, σ1, h1, tk1, rfl, S1, X1, q1⟩
  cases b with
  | false =>
    simp only [Bool.false_eq_true, if_false] at q1 ⊢
    exact wpAny_mono (hb env ρ H α1 σ1 _ A _ hk (V.ext S X1) S1 hR q1) (fun _ _ p => PostT.trans X1 p) fun _ _ f => f.elim
  | true =>
    simp only [if_true] at q1 ⊢
    exact ⟨α1, σ1, h1, tk1, rfl, S1, X1, q1⟩
theorem DenE.boolOp {op : BoolOp} {es : List Expr} {pos : Pos} {a : IE} (h : DenBE c op es a) : DenE c (.BoolOp op es pos) a := by
  intro env ρ H α σ s A Q hk V S hR q
  rw [arm_eval_BoolOp]
  exact h env ρ H α σ s A Q pos hk V S hR q
theorem DenT.boolOp {op : BoolOp} {es : List Expr} {pos : Pos} {a : IE} (h : DenBT c op es a) : DenT c (.BoolOp op es pos) a := fun env ρ H α σ s A Q hk V S hR q =>
  wpAny_isTrue_BoolOp (h env ρ H α σ s A Q hk V S hR q)

theorem DenE.cmp {l r : Expr} {pos : Pos} {a b : IE} {o : COp} (ha : DenE c l a) (hb : DenE c r b) (hm : behindInMarks (pyC o) r = false) : DenE c (.Compare l [pyC o] [r] pos) (.cmp a o b) := by
  intro env ρ H α σ s A Q hk V S hR q
  refine wpAny_Compare1 (wpAny_mono (ha env ρ H α σ s A _ hk V S hR q) ?_ fun _ _ f => f.elim) hm
  rintro x s1 ⟨α1, σ1, X, h1, tk1, rfl, S1, X1, rx, q1⟩
  refine wpAny_mono (hb env ρ H α1 σ1 _ A _ hk (V.ext S X1) S1 hR q1) ?_ fun _ _ f => f.elim
  rintro y s2 ⟨α2, σ2, Y, h2, tk2, rfl, S2, X2, ry, q2⟩
  simp only [ob_iff] at q2
  obtain ⟨DX, e1, DY, e2, z, e3, q3⟩ := q2
  exact op_cmp (M := Mu H α2 σ2) (by have := hR.un; omega) ((rx.ext S1 X2 noO).rv S2 e1) (ry.rv S2 e2) e3 ((PostE.gr rfl S2 (X1.trans X2) q3).same (.ofBool _))
theorem DenT.cmp {l r : Expr} {pos : Pos} {a b : IE} {o : COp} (ha : DenE c l a) (hb : DenE c r b) (hm : behindInMarks (pyC o) r = false) : DenT c (.Compare l [pyC o] [r] pos) (.cmp a o b) := by
  intro env ρ H α σ s A Q hk V S hR q
  refine wpAny_isTrue_Compare1 (wpAny_mono (ha env ρ H α σ s A _ hk V S hR q) ?_ fun _ _ f => f.elim) hm
  rintro x s1 ⟨α1, σ1, X, h1, tk1, rfl, S1, X1, rx, q1⟩
  refine wpAny_mono (hb env ρ H α1 σ1 _ A _ hk (V.ext S X1) S1 hR q1) ?_ fun _ _ f => f.elim
  rintro y s2 ⟨α2, σ2, Y, h2, tk2, rfl, S2, X2, ry, q2⟩
  simp only [ob_iff] at q2
  obtain ⟨DX, e1, DY, e2, z, e3, D, e4, q3⟩ := q2
  simp only [rdV, Option.some.injEq] at e4
  subst e4
  exact op_cmp (M := Mu H α2 σ2) (by have := hR.un; omega) ((rx.ext S1 X2 noO).rv S2 e1) (ry.rv S2 e2) e3 (wpAny_truthy_bool ⟨α2, σ2, h2, tk2, rfl, S2, X1.trans X2, q3⟩)

theorem DenE.cmp2 {l r r' : Expr} {pos : Pos} {a b d : IE} {o o' : COp} (ha : DenE c l a) (hb : DenE c r b) (hd : DenE c r' d) (hm : lastMarks [pyC o, pyC o'] [r, r'] = false) : DenE c (.Compare l [pyC o, pyC o'] [r, r'] pos) (.cmp2 a o b o' d) := by
  intro env ρ H α σ s A Q hk V S hR q
  refine Compare_chain (ops := []) (rs := []) (wpAny_mono (ha env ρ H α σ s A _ hk V S hR q) ?_ fun _ _ f => f.elim) hm
  rintro x s1 ⟨α1, σ1, X, h1, tk1, rfl, S1, X1, rx, q1⟩
  refine chain_link (wpAny_mono (hb env ρ H α1 σ1 _ A _ hk (V.ext S X1) S1 hR q1) ?_ fun _ _ f => f.elim)
  rintro y s2 ⟨α2, σ2, Y, h2, tk2, rfl, S2, X2, ry, q2⟩
  simp only [ob_iff] at q2
  obtain ⟨DX, e1, DY, e2, z, e3, q3⟩ := q2
  refine op_cmp (M := Mu H α2 σ2) (by have := hR.un; omega) ((rx.ext S1 X2 noO).rv S2 e1) (ry.rv S2 e2) e3 (wpAny_truthy_bool ?_)
  cases z with
  | false => simp only [Bool.false_eq_true, if_false] at q3 ⊢; exact (PostE.gr rfl S2 (X1.trans X2) q3).same (.ofBool _)
  | true =>
    simp only [if_true] at q3 ⊢
    refine chain_last (wpAny_mono (hd env ρ H α2 σ2 _ A _ hk (V.ext S (X1.trans X2)) S2 hR q3) ?_ fun _ _ f => f.elim)
    rintro y' s3 ⟨α3, σ3, Y', h3, tk3, rfl, S3, X3, ry', q4⟩
    obtain ⟨DY2, e4, DY', e5, z, e6, q5⟩ := q4
    exact op_cmp (M := Mu H α3 σ3) (by have := hR.un; omega) ((ry.ext S2 X3 noO).rv S3 e4) (ry'.rv S3 e5) e6 ((PostE.gr rfl S3 ((X1.trans X2).trans X3) q5).same (.ofBool _))
theorem DenT.cmp2 {l r r' : Expr} {pos : Pos} {a b d : IE} {o o' : COp} (ha : DenE c l a) (hb : DenE c r b) (hd : DenE c r' d) (hm : lastMarks [pyC o, pyC o'] [r, r'] = false) : DenT c (.Compare l [pyC o, pyC o'] [r, r'] pos) (.cmp2 a o b o' d) := by
  intro env ρ H α σ s A Q hk V S hR q
  refine isTrue_chain (ops := []) (rs := []) (wpAny_mono (ha env ρ H α σ s A _ hk V S hR q) ?_ fun _ _ f => f.elim) hm
  rintro x s1 ⟨α1, σ1, X, h1, tk1, rfl, S1, X1, rx, q1⟩
  refine test_link (wpAny_mono (hb env ρ H α1 σ1 _ A _ hk (V.ext S X1) S1 hR q1) ?_ fun _ _ f => f.elim)
  rintro y s2 ⟨α2, σ2, Y, h2, tk2, rfl, S2, X2, ry, q2⟩
  simp only [ob_iff] at q2
  obtain ⟨DX, e1, DY, e2, z, e3, q3⟩ := q2
  refine op_cmp (M := Mu H α2 σ2) (by have := hR.un; omega) ((rx.ext S1 X2 noO).rv S2 e1) (ry.rv S2 e2) e3 (wpAny_truthy_bool ?_)
  cases z with
  | false =>
    simp only [Bool.false_eq_true, if_false] at q3 ⊢
    obtain ⟨D, e4, q3⟩ := q3
    simp only [rdV, Option.some.injEq] at e4
    subst e4
    exact ⟨α2, σ2, h2, tk2, rfl, S2, X1.trans X2, q3⟩
  | true =>
    simp only [if_true] at q3 ⊢
    refine test_last (wpAny_mono (hd env ρ H α2 σ2 _ A _ hk (V.ext S (X1.trans X2)) S2 hR q3) ?_ fun _ _ f => f.elim)
    rintro y' s3 ⟨α3, σ3, Y', h3, tk3, rfl, S3, X3, ry', q4⟩
    obtain ⟨DY2, e4, DY', e5, z, e6, D, e7, q5⟩ := q4
    simp only [rdV, Option.some.injEq] at e7
    subst e7
    exact op_cmp (M := Mu H α3 σ3) (by have := hR.un; omega) ((ry.ext S2 X3 noO).rv S3 e4) (ry'.rv S3 e5) e6 (wpAny_truthy_bool ⟨α3, σ3, h3, tk3, rfl, S3, (X1.trans X2).trans X3, q5⟩)

theorem DenE.ite {t x y : Expr} {pos : Pos} {d a b : IE} (hd : DenT c t d) (ha : DenE c x a) (hb : DenE c y b) : DenE c (.IfExp t x y pos) (.ite d a b) := by
  intro env ρ H α σ s A Q hk V S hR q
  refine wpAny_IfExp (wpAny_mono (hd env ρ H α σ s A _ hk V S hR q) ?_ fun _ _ f => f.elim)
  rintro z s1 ⟨α1, σ1, h1, tk1, rfl, S1, X1, q1⟩
  cases z with
  | true => simp only [if_true] at q1 ⊢; exact wpAny_mono (ha env ρ H α1 σ1 _ A _ hk (V.ext S X1) S1 hR q1) (fun _ _ p => PostE.trans X1 p) fun _ _ f => f.elim
  | false => simp only [Bool.false_eq_true, if_false] at q1 ⊢; exact wpAny_mono (hb env ρ H α1 σ1 _ A _ hk (V.ext S X1) S1 hR q1) (fun _ _ p => PostE.trans X1 p) fun _ _ f => f.elim

theorem DenE.idx {v i : Expr} {pos : Pos} {a b : IE} (ha : DenE c v a) (hb : DenE c i b) (hs : ∀ o j, subscripted i false o j = operate [o, j] (getItem o j)) : DenE c (.Subscript v i pos) (.idx a b) := by
  intro env ρ H α σ s A Q hk V S hR q
  refine Subscript_ (wpAny_mono (ha env ρ H α σ s A _ hk V S hR q) ?_ fun _ _ f => f.elim)
  rintro x s1 ⟨α1, σ1, X, h1, tk1, rfl, S1, X1, rx, q1⟩
  refine wpAny_mono (hb env ρ H α1 σ1 _ A _ hk (V.ext S X1) S1 hR q1) ?_ fun _ _ f => f.elim
  rintro y s2 ⟨α2, σ2, Y, h2, tk2, rfl, S2, X2, ry, q2⟩
  simp only [ob_iff] at q2
  obtain ⟨DX, e1, DY, e2, DZ, e3, q3⟩ := q2
  exact op_idx (M := Mu H α2 σ2) ((rx.ext S1 X2 noO).rv S2 e1) (ry.rv S2 e2) e3 (fun v r => (PostE.gr rfl S2 (X1.trans X2) q3).same r) hs

/-! lists of expressions -/
theorem DenL.nil : DenL c [] .nil := fun env ρ H α σ s A Q pos hk V S hR q => wpAny_items_nil ⟨α, σ, [], s.heap, s.toks, rfl, S, .refl, .nil, q⟩
theorem DenL.cons {x : Expr} {r : List Expr} {a b : IE} (ha : DenE c x a) (hb : DenL c r b) (he : ∀ env, starEach (x :: r) env = (false, eval x env) :: starEach r env) : DenL c (x :: r) (.cons a b) := by
  intro env ρ H α σ s A Q pos hk V S hR q
  refine wpAny_items_cons (wpAny_mono (ha env ρ H α σ s A _ hk V S hR q) ?_ fun _ _ f => f.elim) (he env)
  rintro x s1 ⟨α1, σ1, X, h1, tk1, rfl, S1, X1, rx, q1⟩
  refine wpAny_mono (hb env ρ H α1 σ1 _ A _ pos hk (V.ext S X1) S1 hR q1) ?_ fun _ _ f => f.elim
  rintro vs s2 ⟨α2, σ2, Vs, h2, tk2, rfl, S2, X2, rs, q2⟩
  exact ⟨α2, σ2, X :: Vs, h2, tk2, rfl, S2, X1.trans X2, .cons (rx.ext S1 X2 noO) rs, q2⟩

theorem DenE.tup {es : List Expr} {j : Nat} {pos : Pos} {a : IE} (h : DenL c es a) : DenE c (.Tuple es j pos) (.tup a) := by
  intro env ρ H α σ s A Q hk V S hR q
  refine wpAny_Tuple (wpAny_mono (h env ρ H α σ s A _ pos hk V S hR q) ?_ fun _ _ f => f.elim)
  rintro vs s1 ⟨α1, σ1, Vs, h1, tk1, rfl, S1, X1, rs, q1⟩
  obtain ⟨xs, e, hz, q1⟩ := ob_iff.mp q1
  have r := rs.rdAll e
  refine ⟨by rw [r.length]; exact Nat.le_trans hz lim_line, ?_⟩
  exact (PostE.gr rfl S1 X1 q1).newTuple (s := { s with heap := h1, toks := tk1 }) (SR.hM (s := { s with heap := h1, toks := tk1 }) S1) hz r rfl

/-- a list made anew: nobody else knows it -/
inductive PostN (base : Heap) (H : Addr → Prop) (α : List Addr) (σ : Store) (s : Shared) (Q : KV) (v : Value) (s' : Shared) : Prop
  | mk (α' : List Addr) (σ' : Store) (xs : List PyData) (vs : List Value) (h : Heap) (tk : Nat) (a : Addr) (h' : Heap) (e : s' = { s with heap := h', toks := tk }) (S : SR base H α' σ' h) (X : Ext NoO α σ s.heap α' σ' h) (kp : ∀ b o, h.get? b = some o → h'.get? b = some o) (fr : h.get? a = none) (ev : v = .ref a) (pl : h'.PlainList a vs.toArray) (hz : xs.length ≤ lim) (r : RdAll h (Mu H α' σ') xs vs) (q : Q (.d (.list xs)) σ')
noncomputable def DenN (c : CX) (e : Expr) (ir : IE) : Prop := ∀ env ρ H α σ s A (Q : KV), env.scope.names = c.kinds → EV env c.names ρ H α σ s.heap → SR c.base H α σ s.heap → Room c.k A → (c.X ir).E ρ σ Q →
  wpAny c.M A (eval e env) (PostN c.base H α σ s Q) Fls s
theorem PostN.toE {base : Heap} {H : Addr → Prop} {α : List Addr} {σ : Store} {s s' : Shared} {Q : KV} {v : Value} (p : PostN base H α σ s Q v s') : PostE base H α σ s Q v s' := by
  obtain ⟨α', σ', xs, vs, h, tk, a, h', rfl, S, X, hk, hf, rfl, pl, hz, r, q⟩ := p
  exact ⟨α', σ', .d (.list xs), h', tk, rfl, S.grow hk, X.trans (.grow hk), Rd.ofList (S.fresh hf) pl.isList hz (r.grow hk), q⟩
theorem DenN.toE {e : Expr} {ir : IE} (h : DenN c e ir) : DenE c e ir := fun env ρ H α σ s A Q hk V S hR q => wpAny_mono (h env ρ H α σ s A Q hk V S hR q) (fun _ _ p => p.toE) fun _ _ f => f
theorem size_none (h : Heap) : h.get? h.objs.size = none := by
  cases e : h.get? h.objs.size with
  | none => rfl
  | some o => exact absurd (Heap.lt_size e) (Nat.lt_irrefl _)
theorem DenN.lst {es : List Expr} {pos : Pos} {a : IE} (h : DenL c es a) : DenN c (.List es pos) (.lst a) := by
  intro env ρ H α σ s A Q hk V S hR q
  refine wpAny_List (wpAny_mono (h env ρ H α σ s A _ pos hk V S hR q) ?_ fun _ _ f => f.elim)
  rintro vs s1 ⟨α1, σ1, Vs, h1, tk1, rfl, S1, X1, rs, q1⟩
  obtain ⟨xs, e, hz, q1⟩ := ob_iff.mp q1
  have r := rs.rdAll e
  refine ⟨by rw [r.length]; exact Nat.le_trans hz lim_line, ?_⟩
  exact ⟨α1, σ1, xs, vs, h1, tk1, _, _, rfl, S1, X1, fun b o e => Heap.get?_push_of_some _ e, size_none _, rfl, ⟨_, Heap.get?_push_size _ rfl⟩, hz, r, q1⟩
/-- a written list, repeated -/
theorem DenN.rep {l r : Expr} {pos : Pos} {a b : IE} (ha : DenE c l a) (hb : DenE c r b) (hl : ∀ ρ σ (Q : KV), (c.X (.bin .mul a b)).E ρ σ Q → (c.X a).E ρ σ fun x σ1 => ∃ xs, x = .d (.list xs) ∧ (c.X b).E ρ σ1 fun y σ2 => ∃ j : Int, y = .d (.int j) ∧ -big < j ∧ j < big ∧ xs.length * j.toNat ≤ lim ∧ Q (.d (.list (List.replicate j.toNat xs).flatten)) σ2) :
    DenN c (.BinOp l .Mult r pos) (.bin .mul a b) := by
  intro env ρ H α σ s A Q hk V S hR q
  refine wpAny_BinOp (wpAny_mono (ha env ρ H α σ s A _ hk V S hR (hl _ _ _ q)) ?_ fun _ _ f => f.elim)
  rintro x s1 ⟨α1, σ1, X, h1, tk1, rfl, S1, X1, rx, xs, rfl, q1⟩
  refine wpAny_mono (hb env ρ H α1 σ1 _ A _ hk (V.ext S X1) S1 hR q1) ?_ fun _ _ f => f.elim
  rintro y s2 ⟨α2, σ2, Y, h2, tk2, rfl, S2, X2, ry, j, rfl, hlo, hhi, hz, q2⟩
  obtain ⟨l, vs, rfl, _, hl, _, r⟩ := Rd.list (Rp.ext S1 X2 noO rx)
  obtain ⟨u, rfl⟩ := Rd.int (h := h2) (M := Mu H α2 σ2) ry
  have hlt := lim_lt
  simp only [big_eq] at hlo hhi
  refine op_rep hl (by omega) (by omega) (by rw [r.length]; omega) ?_
  refine ⟨α2, σ2, _, _, h2, tk2, _, _, rfl, S2, X1.trans X2, fun b o e => Heap.get?_push_of_some _ e, size_none _, rfl, ⟨_, Heap.get?_push_size _ rfl⟩, ?_, r.flat _, q2⟩
  simp only [List.length_flatten, List.map_replicate, List.sum_replicate_nat]
  rw [Nat.mul_comm]; exact hz
end
end Mine
end
section
namespace Mine
section
variable {c : CX}
abbrev NS (e : Expr) : Prop := ∀ (r : List Expr) env, starEach (e :: r) env = (false, eval e env) :: starEach r env

theorem name_glob {env : Env} {ρ : Rho} {H : Addr → Prop} {α : List Addr} {σ : Store} {s : Shared} {A : Around} {E Q : Value → Shared → Prop} {x : Str} {pos : Pos} {v : Value} (G : GB c.base c.mg c.mb) (hk : env.scope.names = c.kinds) (V : EV env c.names ρ H α σ s.heap) (S : SR c.base H α σ s.heap)
    (hx : c.kinds.lookup x = some .globalImplicit) (hv : c.mg x = some v) (hd : (x == ("__debug__" : Str)) = false) (h : Q v s) : wpAny c.M A (eval (.Name x pos) env) Q E s :=
  Calls.Name_function_global V.kind ((Env.kindOf_of hk x).trans hx) (Calls.loadGlobal_global (V.glob ▸ G.g.keeps S.old) hv h) hd
theorem name_bui {env : Env} {ρ : Rho} {H : Addr → Prop} {α : List Addr} {σ : Store} {s : Shared} {A : Around} {E Q : Value → Shared → Prop} {x : Str} {pos : Pos} {v : Value} (G : GB c.base c.mg c.mb) (hk : env.scope.names = c.kinds) (V : EV env c.names ρ H α σ s.heap) (S : SR c.base H α σ s.heap)
    (hx : c.kinds.lookup x = some .globalImplicit) (hv : c.mg x = none) (hb : c.mb x = some v) (hd : (x == ("__debug__" : Str)) = false) (h : Q v s) : wpAny c.M A (eval (.Name x pos) env) Q E s :=
  Calls.Name_function_global V.kind ((Env.kindOf_of hk x).trans hx) (Calls.loadGlobal_builtin (V.glob ▸ G.g.keeps S.old) hv (V.bui ▸ G.b.keeps S.old) hb h) hd

theorem fls_any {α : Type} {M : Model} {A : Around} {t : Sem α} {Q : α → Shared → Prop} {E : Value → Shared → Prop} {s : Shared} (h : wpAny M A t Q Fls s) : wpAny M A t Q E s := wpAny_mono h (fun _ _ q => q) fun _ _ f => f.elim

structure Bui (c : CX) (x : Str) (v : Value) : Prop where
  k : c.kinds.lookup x = some .globalImplicit
  g : c.mg x = none
  b : c.mb x = some v
  d : (x == ("__debug__" : Str)) = false

theorem DenE.len {e : Expr} {p pos : Pos} {a : IE} (G : GB c.base c.mg c.mb) (B : Bui c "len" (.builtin "len")) (ha : DenE c e a) (hs : NS e) : DenE c (.Call (.Name "len" p) [e] [] pos) (.len a) := by
  intro env ρ H α σ s A Q hk V S hR q
  refine Call_ (name_bui G hk V S B.k B.g B.b B.d (callWith_builtin1 (args_cons (wpAny_mono (ha env ρ H α σ s A _ hk V S hR q) ?_ fun _ _ f => f.elim) (hs _ _)) (hs _ _))) rfl
  rintro x s1 ⟨α1, σ1, X, h1, tk1, rfl, S1, X1, rx, q1⟩
  refine args_nil ?_
  simp only [ob_iff] at q1
  obtain ⟨DX, e1, xs, e2, q1⟩ := q1
  refine op_len (M := Mu H α1 σ1) (rx.rv S1 e1) e2 fun v h' tk hk' r => (PostE.gr (s₁ := { s with heap := h1, toks := tk1 }) rfl S1 X1 q1) v h' tk hk' ?_
  obtain ⟨t, rfl⟩ := Rd.int r
  exact .ofInt _ _

theorem DenE.tupOf {e : Expr} {p pos : Pos} {a : IE} (G : GB c.base c.mg c.mb) (B : Bui c "tuple" (.type "tuple")) (ha : DenE c e a) (hs : NS e) : DenE c (.Call (.Name "tuple" p) [e] [] pos) (.tupOf a) := by
  intro env ρ H α σ s A Q hk V S hR q
  refine Call_ (name_bui G hk V S B.k B.g B.b B.d (callWith_type1 (args_cons (wpAny_mono (ha env ρ H α σ s A _ hk V S hR q) ?_ fun _ _ f => f.elim) (hs _ _)) (hs _ _))) rfl
  rintro x s1 ⟨α1, σ1, X, h1, tk1, rfl, S1, X1, rx, q1⟩
  refine args_nil ?_
  simp only [ob_iff] at q1
  obtain ⟨DX, e1, xs, e2, q1⟩ := q1
  cases DX <;> simp only [listP, reduceCtorEq, Option.some.injEq] at e2
  subst e2
  exact op_tupOf (M := Mu H α1 σ1) (SR.hM (s := { s with heap := h1, toks := tk1 }) S1) (rx.rv S1 e1) (PostE.gr (s₁ := { s with heap := h1, toks := tk1 }) rfl S1 X1 q1)

theorem DenE.lstOf {e : Expr} {p pos : Pos} {a : IE} (G : GB c.base c.mg c.mb) (B : Bui c "list" (.type "list")) (ha : DenE c e a) (hs : NS e) : DenE c (.Call (.Name "list" p) [e] [] pos) (.lstOf a) := by
  intro env ρ H α σ s A Q hk V S hR q
  refine Call_ (name_bui G hk V S B.k B.g B.b B.d (callWith_type1 (args_cons (wpAny_mono (ha env ρ H α σ s A _ hk V S hR q) ?_ fun _ _ f => f.elim) (hs _ _)) (hs _ _))) rfl
  rintro x s1 ⟨α1, σ1, X, h1, tk1, rfl, S1, X1, rx, q1⟩
  refine args_nil ?_
  simp only [ob_iff] at q1
  obtain ⟨DX, e1, xs, e2, q1⟩ := q1
  exact op_lstOf (M := Mu H α1 σ1) (SR.hM (s := { s with heap := h1, toks := tk1 }) S1) (rx.rv S1 e1) e2 (PostE.gr (s₁ := { s with heap := h1, toks := tk1 }) rfl S1 X1 q1)

theorem any_false1 {e : Expr} {env : Env} {pos : Pos} (hs : NS e) : (backTo pos (starEach [e] env)).any (·.1) = false := by
  rw [hs [] env]; rfl

theorem DenE.min2 {e f : Expr} {p pos : Pos} {a b : IE} (G : GB c.base c.mg c.mb) (B : Bui c "min" (.builtin "min")) (ha : DenE c e a) (hb : DenE c f b) (hs : NS e) (hs' : NS f) : DenE c (.Call (.Name "min" p) [e, f] [] pos) (.min2 a b) := by
  intro env ρ H α σ s A Q hk V S hR q
  refine Call_ (name_bui G hk V S B.k B.g B.b B.d (callWith_builtin1 (args_cons (wpAny_mono (ha env ρ H α σ s A _ hk V S hR q) ?_ fun _ _ f => f.elim) (hs _ _)) (hs _ _) (any_false1 hs'))) rfl
  rintro x s1 ⟨α1, σ1, X, h1, tk1, rfl, S1, X1, rx, q1⟩
  refine args_cons (wpAny_mono (hb env ρ H α1 σ1 _ A _ hk (V.ext S X1) S1 hR q1) ?_ fun _ _ f => f.elim) (hs' _ _)
  rintro y s2 ⟨α2, σ2, Y, h2, tk2, rfl, S2, X2, ry, q2⟩
  refine args_nil ?_
  simp only [ob_iff] at q2
  obtain ⟨DX, e1, DY, e2, i, e3, j, e4, q2⟩ := q2
  cases DX <;> simp only [intP, reduceCtorEq, Option.some.injEq] at e3
  cases DY <;> simp only [intP, reduceCtorEq, Option.some.injEq] at e4
  subst e3 e4
  obtain ⟨t, rfl⟩ := Rd.int ((rx.ext S1 X2 noO).rd e1)
  obtain ⟨u, rfl⟩ := Rd.int (ry.rd e2)
  refine min_two_ints hR.hh fun h' tk hk' => (PostE.gr (s₁ := { s with heap := h2, toks := tk2 }) rfl S2 (X1.trans X2) q2) _ h' tk hk' ?_
  split
  · exact .ofInt _ _
  · exact .ofInt _ _

/-- a def of the text, called -/
structure FnAt (c : CX) (f : Str) : Prop where
  k : c.kinds.lookup f = some .globalImplicit
  d : (f == ("__debug__" : Str)) = false
  a : ∃ (fv : Addr) (o : Obj) (fd : FuncData), c.mg f = some (.ref fv) ∧ c.base.get? fv = some o ∧ o.data = .func fd
theorem PostE.after {base : Heap} {H : Addr → Prop} {α α₁ : List Addr} {σ σ₁ : Store} {s : Shared} {h₁ : Heap} {tk₁ : Nat} {Q : KV} {v : Value} {s₂ : Shared} (x : Ext NoO α σ s.heap α₁ σ₁ h₁) (p : PostE base H α₁ σ₁ { s with heap := h₁, toks := tk₁ } Q v s₂) : PostE base H α σ s Q v s₂ := p.trans x
theorem DenE.call {f : Str} {p pos : Pos} {e : Expr} {es : List Expr} {a : IE} (G : GB c.base c.mg c.mb) (F : FnAt c f) (ha : DenL c (e :: es) a) (hs : NS e) : DenE c (.Call (.Name f p) (e :: es) [] pos) (.call f a) := by
  intro env ρ H α σ s A Q hk V S hR q
  obtain ⟨fv, o, fd, e1, e2, e3⟩ := F.a
  refine Call_ (name_glob G hk V S F.k e1 F.d (callWith_def e3 (wpAny_mono (ha env ρ H α σ s A _ pos hk V S hR q) ?_ fun _ _ f => f.elim) (hs _ _))) rfl
  rintro vs s1 ⟨α1, σ1, Vs, h1, tk1, rfl, S1, X1, rs, q1⟩
  refine ⟨S1.old _ _ e2, wpAny_call (codeAny_mono (q1 A H α1 { s with heap := h1, toks := tk1 } vs fv o fd hR S1 e1 e2 e3 rs) ?_)⟩
  intro r s2 p
  match r, p with
  | .ok (.ret v), p => exact PostE.trans X1 p
  | .ok .next, p => exact p.elim
  | .ok .brk, p => exact p.elim
  | .ok .cont, p => exact p.elim
  | .error _, p => exact p.elim

/-! append, pop -/
theorem methods_ok {e : Expr} {env : Env} {pos : Pos} (hs : NS e) : ((backTo pos (starEach [e] env)).all (fun x => !x.1) && (backToKw pos (keywordEach [] env)).all (fun x => x.1.isSome)
      && decide (([e] : List Expr).length + ([] : List Keyword).length + (if ([] : List Keyword).isEmpty then 0 else 1) < 30)) = true := by
  rw [hs [] env]; rfl
theorem trees1 {e : Expr} {env : Env} (hs : NS e) : starEach [e] env = [(false, eval e env)] := by rw [hs [] env]; rfl

theorem getR_lookup {names : List Str} {ρ : Rho} {x : Str} {i : Nat} (hi : ix names x = some i) : ix names x = some i := hi

theorem DenE.app {x : Str} {px apos pos : Pos} {e : Expr} {i : Nat} {kd : NameKind} {a : IE} (hx : c.kinds.lookup x = some kd) (hkd : kd = .local ∨ kd = .cell ∨ kd = .free) (hi : ix c.names x = some i) (hcl : (x == ("__classdict__" : Str)) = false) (hd : (x == ("__debug__" : Str)) = false)
    (hline : (apos.endLine == pos.line) = true) (ha : DenE c e a) (hs : NS e) : DenE c (.Call (.Attribute (.Name x px) "append" apos) [e] [] pos) (.app i a) := by
  intro env ρ H α σ s A Q hk V S hR q
  replace q : ob (getR ρ i) fun v => ob (loc? v) fun n => ob (getS σ n) fun _ => (c.X a).E ρ σ fun w σ1 => ob (rdD w) fun X => ob (getS σ1 n) fun xs => xs.length < lim ∧ Q (.d .none) (σ1.set n (some (xs ++ [X]))) := q
  obtain ⟨W, eW, q⟩ := ob_iff.mp q
  obtain ⟨n, en, q⟩ := ob_iff.mp q
  obtain ⟨xs0, ex0, q⟩ := ob_iff.mp q
  refine wpAny_Call_append rfl (methods_ok hs) hline (by rw [trees1 hs]; rfl) ?_
  refine wpAny_Name (load_var (c := c) (h := s.heap) V.kind ((Env.kindOf_of hk x).trans hx) hkd hcl (V.vars x i W hi eW) fun v r => ?_) hd
  cases W with
  | d _ => simp [loc?] at en
  | l n' =>
    simp only [loc?, Option.some.injEq] at en
    subst en
    obtain ⟨b, rfl, eb⟩ := r
    have hget : ∀ {σ : Store} {n : Nat} {ys : List PyData}, getS σ n = some ys → σ[n]? = some (some ys) := fun {σ n ys} h => by
      unfold getS at h; split at h
      · rename_i o e; rw [e, h]
      · cases h
    obtain ⟨vs0, ⟨nn, hob⟩, _, _⟩ := S.lst _ _ _ eb (hget ex0)
    refine ⟨b, vs0.toArray, rfl, ⟨_, nn, hob, rfl, rfl, rfl⟩, wpAny_mono (ha env ρ H α σ s A _ hk V S hR q) ?_ fun _ _ f => f.elim⟩
    rintro y s1 ⟨α1, σ1, Y, h1, tk1, rfl, S1, X1, ry, q1⟩
    simp only [ob_iff] at q1
    obtain ⟨DY, e1, xs, e2, hz, q1⟩ := q1
    have eb1 := prefix_get X1.pre eb
    obtain ⟨vs, pl, hl, r⟩ := S1.lst _ _ _ eb1 (hget e2)
    refine wpAny_list_append_plain (s := { s with heap := h1, toks := tk1 }) pl (fun h' pl' hsb => ?_) (by simp only [List.size_toArray]; rw [r.length]; exact Nat.le_trans hl lim_line)
    have pl'' : h'.PlainList b (vs ++ [y]).toArray := by simpa using pl'
    exact ⟨α1, _, .d .none, h', tk1, rfl, S1.turn eb1 (hget e2) hsb pl'' (by rw [List.length_append, List.length_singleton]; exact hz) (r.append (.one (ry.rd e1))), X1.trans (Ext.turn eb1 (hget e2) hsb ⟨_, pl'.isList.choose_spec.1⟩), by show Rd _ _ _ _; exact .ofNone, q1⟩

theorem getS_some {σ : Store} {n : Nat} {ys : List PyData} (h : getS σ n = some ys) : σ[n]? = some (some ys) := by
  unfold getS at h; split at h
  · rename_i o e; rw [e, h]
  · cases h

theorem DenE.pop {x : Str} {px apos pos : Pos} {i : Nat} {kd : NameKind} (hx : c.kinds.lookup x = some kd) (hkd : kd = .local ∨ kd = .cell ∨ kd = .free) (hi : ix c.names x = some i) (hcl : (x == ("__classdict__" : Str)) = false) (hd : (x == ("__debug__" : Str)) = false)
    (hline : (apos.endLine == pos.line) = true) : DenE c (.Call (.Attribute (.Name x px) "pop" apos) [] [] pos) (.pop i) := by
  intro env ρ H α σ s A Q hk V S hR q
  replace q : ob (getR ρ i) fun v => ob (loc? v) fun n => ob (getS σ n) fun xs => ob xs.getLast? fun X => Q (.d X) (σ.set n (some xs.dropLast)) := q
  obtain ⟨W, eW, q⟩ := ob_iff.mp q
  obtain ⟨n, en, q⟩ := ob_iff.mp q
  obtain ⟨xs, ex, q⟩ := ob_iff.mp q
  obtain ⟨X, eX, q⟩ := ob_iff.mp q
  refine wpAny_Call_method (T := "list") (id := "list.pop") rfl rfl hline F.plainAttrs_list F.slot_list_pop F.type_list_pop ?_
  refine wpAny_Name (load_var (c := c) (h := s.heap) V.kind ((Env.kindOf_of hk x).trans hx) hkd hcl (V.vars x i W hi eW) fun v r => ?_) hd
  cases W with
  | d _ => simp [loc?] at en
  | l n' =>
    simp only [loc?, Option.some.injEq] at en
    subst en
    obtain ⟨b, rfl, eb⟩ := r
    obtain ⟨vs, ⟨nn, hob⟩, hl, r⟩ := S.lst _ _ _ eb (getS_some ex)
    refine ⟨⟨_, hob, rfl⟩, fun a e => by cases e; exact ⟨_, hob, rfl⟩, callWith_method0 ?_⟩
    have hne : xs ≠ [] := by rintro rfl; simp at eX
    have hlen := r.length
    have hpos : 0 < xs.length := List.length_pos_iff.mpr hne
    rw [List.getLast?_eq_getElem?] at eX
    obtain ⟨y, ey, ry⟩ := r.get eX
    have hy : vs.toArray[vs.toArray.size - 1]? = some y := by simpa [hlen] using ey
    refine call_meets F.slot_list_pop ⟨_, hob, rfl⟩ F.entry_list_pop (F.args_list_pop_1 _) (MeetsSeq.list_pop_last b vs.toArray nn y hy (by simp only [List.size_toArray]; rw [hlen]; exact Nat.le_trans hl lim_line)) ⟨hob, ?_⟩
    have pl := pop_plain (h := s.heap) hob
    have hsb : Heap.SameBut b s.heap _ := Heap.SameBut.update (h := s.heap) (a := b) (f := Obj.mapSeq fun xs => xs.eraseIdxIfInBounds (vs.toArray.size - 1))
    have rd : RdAll s.heap (Mu H α σ) xs.dropLast vs.dropLast := by
      have := r.take (xs.length - 1)
      rw [List.dropLast_eq_take, List.dropLast_eq_take, hlen]; exact this
    have S2 := S.turn eb (getS_some ex) hsb pl (by rw [List.length_dropLast]; omega) rd
    refine ⟨α, _, .d X, _, s.toks, rfl, S2, Ext.turn eb (getS_some ex) hsb ⟨_, pl.isList.choose_spec.1⟩, ?_, q⟩
    exact Rd.mono (fun c o e hm sq => hsb.extBut c o (fun z => hm (z ▸ .inr ⟨_, _, eb, getS_some ex⟩)) e) (fun c _ _ m => (mu_set (getS_some ex) c).mp m) _ _ ry

/-! the table's get -/
structure TabOK (c : CX) (x : Str) : Prop where
  k : c.kinds.lookup x = some .globalImplicit
  d : (x == ("__debug__" : Str)) = false
  t : ∃ d kvs, c.mg x = some (.ref d) ∧ (d == sysModules) = false ∧ c.base.DictOf (intKind c.prog c.w) d kvs ∧ ∀ (k j : Int) (u : Tok), ∃ t, (valueAt kvs k).getD (.int j u) = .int ((c.tab k).getD j) t
theorem DenE.tget {x : Str} {px apos pos : Pos} {e f : Expr} {a b : IE} (G : GB c.base c.mg c.mb) (T : TabOK c x) (hline : (apos.endLine == pos.line) = true) (ha : DenE c e a) (hb : DenE c f b) (hs : NS e) (hs' : NS f) :
    DenE c (.Call (.Attribute (.Name x px) "get" apos) [e, f] [] pos) (.tget a b) := by
  intro env ρ H α σ s A Q hk V S hR q
  obtain ⟨d, kvs, e1, lo, hd0, hD⟩ := T.t
  have hd := hd0.keep S.old
  obtain ⟨o, es, ep, ho, hex, hdd, _⟩ := id hd
  refine wpAny_Call_method (T := "dict") (id := "dict.get") rfl (by rw [hs [f] env, hs' [] env]; rfl) hline F.plainAttrs_dict F.slot_dict_get F.type_dict_get ?_
  refine name_glob G hk V S T.k e1 T.d ⟨hd.typeIs, fun a e => ?_, ?_⟩
  · cases e; exact ⟨o, ho, by have := hex; exact this.2.1⟩
  refine callWith_method1 (args_cons (wpAny_mono (ha env ρ H α σ s A _ hk V S hR q) ?_ fun _ _ f => f.elim) (hs _ _)) (hs _ _) (any_false1 hs')
  rintro x s1 ⟨α1, σ1, X, h1, tk1, rfl, S1, X1, rx, q1⟩
  refine args_cons (wpAny_mono (hb env ρ H α1 σ1 _ A _ hk (V.ext S X1) S1 hR q1) ?_ fun _ _ f => f.elim) (hs' _ _)
  rintro y s2 ⟨α2, σ2, Y, h2, tk2, rfl, S2, X2, ry, q2⟩
  refine args_nil ?_
  simp only [ob_iff] at q2
  obtain ⟨DX, e1, DY, e2, i, e3, j, e4, q2⟩ := q2
  cases DX <;> simp only [intP, reduceCtorEq, Option.some.injEq] at e3
  cases DY <;> simp only [intP, reduceCtorEq, Option.some.injEq] at e4
  subst e3 e4
  obtain ⟨t, rfl⟩ := Rd.int ((rx.ext S1 X2 noO).rd e1)
  obtain ⟨u, rfl⟩ := Rd.int (ry.rd e2)
  rename_i i j
  have hd2 := hd0.keep S2.old
  refine call_meetsIn F.slot_dict_get (Heap.DictOf.typeIs (s := { s with heap := h2, toks := tk2 }) hd2) F.entry_dict_get (F.args_dict_get_3 _ _ _) (meets_dict_get_default (intKind c.prog c.w) d (intKind_is c.prog c.w i t) lo (.int j u)) ⟨_, hd2.mapOf, ?_⟩
  obtain ⟨t', e'⟩ := hD i j u
  rw [e']
  exact (PostE.gr (s₁ := { s with heap := h2, toks := tk2 }) rfl S2 (X1.trans X2) q2).here (.ofInt _ _) _
end
end Mine
end
section
namespace Mine
section
variable {prog : Program} {w : World} {A : Around} {E : Value → Shared → Prop} {s : Shared}

theorem adjust_two (a b n : Nat) (h : a ≤ b) (hb : a ≤ n) : Builtin.Slice.sliceAdjust (some (a : Int)) (some (b : Int)) 1 (n : Int) = ((a : Int), ((min b n : Nat) : Int)) := by
  unfold Builtin.Slice.sliceAdjust
  have h1 : ¬ ((1 : Int) < 0) := by omega
  have h2 : ¬ ((a : Int) < 0) := by omega
  have h3 : ¬ ((b : Int) < 0) := by omega
  simp only [h1, h2, h3, if_false]
  congr 1 <;> omega
theorem places_two (a b n : Nat) (h : a ≤ b) (hb : a ≤ n) : Builtin.Slice.slicePlaces (a : Int) ((min b n : Nat) : Int) 1 = min b n - a := by
  unfold Builtin.Slice.slicePlaces
  have h1 : (1 : Int) > 0 := by omega
  simp only [h1, if_true, Int.ediv_one]
  split <;> omega
theorem sliceApplied_two {sl : Addr} {a b n : Nat} {u u' : Tok} {Q : Int × Int × Nat → Shared → Prop} (hs : s.heap.IsSliceOf sl (.int a u) (.int b u') .none) (h0 : a ≤ b) (ha : a ≤ n) (h : Q ((a : Int), 1, min b n - a) s) :
    wpAny (model prog w) A (Builtin.Slice.sliceApplied (.ref sl) (pure (n : Int))) Q E s := by
  obtain ⟨os, hos, hcs, hds⟩ := id hs
  unfold Builtin.Slice.sliceApplied Builtin.Slice.sliceFields
  refine wpAny_bind (wpAny_bind (wpAny_field hos hds (x := .int a u) rfl (wpAny_bind (wpAny_field hos hds (x := .int b u') rfl (wpAny_bind (wpAny_field hos hds (x := .none) rfl (wpAny_pure ?_)))))))
  refine wpAny_bind (slicePart_none ?_)
  show wpAny _ _ (if ((1 : Int) == 0) = true then _ else _) _ _ s
  rw [if_neg (by decide)]
  refine wpAny_bind (slicePart_int (wpAny_bind (slicePart_int (wpAny_bind (wpAny_pure ?_)))))
  show wpAny _ _ (match Builtin.Slice.sliceAdjust (some (a : Int)) (some (b : Int)) 1 (n : Int) with | (lo, hi) => pure (lo, (1 : Int), Builtin.Slice.slicePlaces lo hi 1)) _ _ s
  rw [adjust_two a b n h0 ha]
  show wpAny _ _ (pure ((a : Int), (1 : Int), Builtin.Slice.slicePlaces (a : Int) ((min b n : Nat) : Int) 1)) _ _ s
  rw [places_two a b n h0 ha]
  exact wpAny_pure h
theorem pick_two (xs : Array Value) (a k : Nat) : ((List.range k).filterMap fun (j : Nat) => xs[((a : Int) + (j : Int) * 1).toNat]?).toArray = ((xs.toList.drop a).take k).toArray := by
  have e : (fun (k : Nat) => xs[((a : Int) + (k : Int) * 1).toNat]?) = fun k => xs[a + k]? := by
    funext k
    have : ((a : Int) + (k : Int) * 1).toNat = a + k := by omega
    rw [this]
  rw [e]
  have := pick_run xs a k
  rw [List.filterMap_map] at this
  have e2 : ((fun x => xs[x]?) ∘ fun x => a + x) = fun k => xs[a + k]? := rfl
  rw [e2] at this
  rw [this]
theorem getItem_tuple_two {t sl : Addr} {vs : List Value} {a b : Nat} {u u' : Tok} {Q : Value → Shared → Prop} (ht : IsTup s.heap t vs.toArray) (hs : s.heap.IsSliceOf sl (.int a u) (.int b u') .none) (h1 : 1 ≤ a) (h0 : a ≤ b) (ha : a ≤ vs.length)
    (h : Q (.ref s.heap.objs.size) { s with heap := s.heap.push { cls := .type "tuple", data := .seq ((vs.take b).drop a).toArray } })
    (hsz : vs.length ≤ sizeLine) : wpAny (model prog w) A (getItem (.ref t) (.ref sl)) Q E s := by
  have e : (vs.drop a).take (min b vs.length - a) = (vs.take b).drop a := by
    rw [List.drop_take]
    by_cases q : b ≤ vs.length
    · rw [Nat.min_eq_left q]
    · rw [Nat.min_eq_right (by omega), List.take_of_length_le (by simp), List.take_of_length_le (by simp; omega)]
  rw [← e] at h
  have hdrop : sizeOk (.seq ((vs.drop a).take (min b vs.length - a)).toArray) := by
    show ((vs.drop a).take (min b vs.length - a)).toArray.size ≤ sizeLine
    rw [List.size_toArray, List.length_take, List.length_drop]
    omega
  obtain ⟨os, hos, hcs, hds⟩ := id hs
  have hTs : s.TypeIs (.ref sl) "slice" := ⟨os, hos, hcs⟩
  unfold getItem
  try with_reducible refine wpAny_holding ?_
  first | refine wpAny_bind (wpAny_pure ?_) | skip
  refine wpAny_bind (wpAny_sequenceKey ht.typeIs (by decide) ?_)
  refine wpAny_bind (wpAny_callSpecial?_slot (name := Str.ofString "__getitem__") ht.typeIs slot_tuple_getitem
    (wpAny_call_entry slot_tuple_getitem ht.typeIs entry_tuple_getitem ?_ (args_tuple_getitem _ _)))
  show wpAny _ _ (Builtin.Tuple.tupleItemsOf (.ref t) >>= _) _ _ s
  refine wpAny_bind (tupleItemsOf_ ht ?_)
  refine wpAny_bind (wpAny_typeOf hTs ?_)
  rw [if_pos (by decide)]
  have hsz' : vs.toArray.size = vs.length := by simp
  rw [hsz']
  refine wpAny_bind (sliceApplied_two hs h0 ha ?_)
  have hno : ¬ (((a : Int) == 0 && (1 : Int) == 1 && (min b vs.length - a) == vs.length) = true) := by
    have : ((a : Int) == 0) = false := by rw [beq_eq_false_iff_ne]; omega
    rw [this]; simp
  first
    | (show wpAny _ _ (if ((a : Int) == 0 && (1 : Int) == 1 && (min b vs.length - a) == vs.toArray.size) = true then _ else _) _ _ s; rw [hsz'])
    | show wpAny _ _ (if ((a : Int) == 0 && (1 : Int) == 1 && (min b vs.length - a) == vs.length) = true then _ else _) _ _ s
  rw [if_neg hno, pick_two]
  first
    | exact wpAny_bind (m := Builtin.Tuple.tupleExact _) (wpAny_newObj_type (wpAny_pure ⟨_, rfl, wpAny_pure h⟩) hdrop)
    | exact wpAny_bind (m := Builtin.Tuple.tupleExact _) (wpAny_newObj_type (wpAny_bind (wpAny_pure (wpAny_pure ⟨_, rfl, wpAny_pure h⟩))) hdrop)
    | exact wpAny_bind (wpAny_bind (m := Builtin.Tuple.tupleExact _) (wpAny_newObj_type (wpAny_pure (wpAny_pure ⟨_, rfl, wpAny_pure h⟩)) hdrop))
    | exact wpAny_bind (wpAny_bind (m := Builtin.Tuple.tupleExact _) (wpAny_newObj_type (wpAny_pure ⟨_, rfl, wpAny_pure h⟩) hdrop))
end

section
variable {c : CX}
theorem sliceBounds_beyond {a b n : Nat} (hb : n ≤ b) : sliceBounds (some (a : Int)) (some (b : Int)) none n = sliceBounds (some ((min a n : Nat) : Int)) (some (n : Int)) none n := by
  have h1 : (1 : Int) > 0 := by decide
  have h0 : ∀ k : Nat, ¬ ((k : Int) < 0) := fun k => Int.not_lt.mpr (Int.natCast_nonneg k)
  simp only [sliceBounds, Option.getD_none, h1, h0, if_true, if_false]
  refine Prod.ext ?_ (Prod.ext ?_ rfl)
  · show max 0 (min (a : Int) n) = max 0 (min ((min a n : Nat) : Int) n)
    rw [show ((min a n : Nat) : Int) = min (a : Int) n by omega, Int.min_assoc, Int.min_self]
  · show max 0 (min (b : Int) n) = max 0 (min (n : Int) n)
    rw [Int.min_eq_right (Int.ofNat_le.mpr hb), Int.min_self]
theorem slicePick_two (vs : List Value) (a b : Nat) (h : a ≤ b) : (slicePick vs.toArray (some (a : Int)) (some (b : Int)) none).toList = (vs.take b).drop a := by
  by_cases hb : b ≤ vs.length
  · rw [slicePick_run vs.toArray a b (by simpa using hb) h]
    simp [List.drop_take]
  · have e1 : slicePick vs.toArray (some (a : Int)) (some (b : Int)) none = slicePick vs.toArray (some ((min a vs.length : Nat) : Int)) (some (vs.length : Int)) none := by
      unfold slicePick
      rw [show vs.toArray.size = vs.length from by simp, sliceBounds_beyond (by omega)]
    rw [e1, slicePick_run vs.toArray (min a vs.length) vs.length (by simp) (Nat.min_le_right _ _)]
    rw [List.take_of_length_le (by omega : vs.length ≤ b)]
    simp only [List.take_of_length_le (show (List.drop (min a vs.length) vs).length ≤ vs.length - min a vs.length by simp)]
    by_cases q : a ≤ vs.length
    · rw [Nat.min_eq_left q]
    · rw [Nat.min_eq_right (by omega), List.drop_of_length_le (by omega), List.drop_of_length_le (by omega)]

theorem DenE.slc {v : Expr} {lo hi k1 k2 : Nat} {p1 p2 p pos : Pos} {a : IE} (ha : DenE c v a) (hl1 : 1 ≤ lo) (h2 : lo ≤ hi) (hg : ∀ o r, letTemporaryGo v o r = pure ()) :
    DenE c (.Subscript v (.Slice (some (.Constant (.int lo) k1 p1)) (some (.Constant (.int hi) k2 p2)) none p) pos) (.slc a lo hi) := by
  intro env ρ H α σ s A Q hk V S hR q
  refine Subscript_ (wpAny_mono (ha env ρ H α σ s A _ hk V S hR q) ?_ fun _ _ f => f.elim)
  rintro x s1 ⟨α1, σ1, X, h1, tk1, rfl, S1, X1, rx, q1⟩
  refine wpAny_Slice (wpAny_Constant_int (k := k1) (pos := p1) (wpAny_Constant_int (k := k2) (pos := p2) (wpAny_pure ?_)))
  simp only [ob_iff] at q1
  obtain ⟨DX, e1, DZ, e2, q1⟩ := q1
  have hk1 : ∀ b o, h1.get? b = some o → (h1.push { cls := .type "slice", data := .fields #[.int lo tk1, .int hi (tk1 + 1), .none] }).get? b = some o := fun b o e => Heap.get?_push_of_some _ e
  cases DX with
  | list xs =>
    simp only [slcP, Option.some.injEq] at e2
    subst e2
    obtain ⟨l, vs, rfl, _, hl, hz, r⟩ := (rx.rv S1 e1).list
    refine subscriptTail_ops (T := "list") (id := "list.__getitem__") (ops := [.ref h1.objs.size, .ref l]) (Heap.IsList.typeIs (hl.push _)) list_getitem_lookup (wpAny_getItem_list_slice (hl.push _) (Heap.IsSliceOf.new ..) (.int _ _) (.int _ _) .none (by simp) ?_ (by simp only [List.size_toArray]; rw [r.length]; exact Nat.le_trans hz lim_line)) rfl (fun r => hg _ r)
    have k := PostE.gr (s₁ := { s with heap := h1, toks := tk1 }) rfl S1 X1 q1
    have k' : Gr (Mu H α1 σ1) { s with heap := h1.push { cls := .type "slice", data := .fields #[.int lo tk1, .int hi (tk1 + 1), .none] }, toks := tk1 + 1 + 1 } (.list ((xs.take hi).drop lo)) (PostE c.base H α σ s Q) := fun v h' tk hk' r' => k v h' tk (fun b o e => hk' b o (hk1 b o e)) r'
    have e3 := slicePick_two vs lo hi h2
    refine k'.newList (vs := (vs.take hi).drop lo) (fun a e => S1.fresh ?_) ?_ (((r.grow hk1).take hi).drop lo) (by rw [← e3])
    · cases q : h1.get? a with
      | none => rfl
      | some o => have := hk1 _ _ q; rw [show (h1.push _).get? a = none from e] at this; cases this
    · simp only [List.length_drop, List.length_take]; omega
  | tuple xs =>
    simp only [slcP] at e2
    split at e2 <;> simp only [reduceCtorEq, Option.some.injEq] at e2
    rename_i hlo
    subst e2
    obtain ⟨l, vs, rfl, _, hl, hz, r⟩ := (rx.rv S1 e1).tuple
    have hl' : IsTup (h1.push { cls := .type "slice", data := .fields #[.int lo tk1, .int hi (tk1 + 1), .none] }) l vs.toArray := hl.keeps hk1
    have hlo' : lo ≤ vs.length := by rw [r.length]; exact hlo
    refine subscriptTail_ops (T := "tuple") (ops := [.ref h1.objs.size, .ref l]) hl'.typeIs slot_tuple_getitem.lookup (getItem_tuple_two hl' (Heap.IsSliceOf.new ..) hl1 h2 hlo' ?_ (by rw [r.length]; exact Nat.le_trans hz lim_line)) rfl (fun r => hg _ r)
    have k := PostE.gr (s₁ := { s with heap := h1, toks := tk1 }) rfl S1 X1 q1
    have k' : Gr (Mu H α1 σ1) { s with heap := h1.push { cls := .type "slice", data := .fields #[.int lo tk1, .int hi (tk1 + 1), .none] }, toks := tk1 + 1 + 1 } (.tuple ((xs.take hi).drop lo)) (PostE c.base H α σ s Q) := fun v h' tk hk' r' => k v h' tk (fun b o e => hk' b o (hk1 b o e)) r'
    refine k'.newTuple (vs := (vs.take hi).drop lo) (fun a e => S1.fresh ?_) ?_ (((r.grow hk1).take hi).drop lo) rfl
    · cases q : h1.get? a with
      | none => rfl
      | some o => have := hk1 _ _ q; rw [show (h1.push _).get? a = none from e] at this; cases this
    · simp only [List.length_drop, List.length_take]; omega
  | _ => simp [slcP] at e2
end
end Mine
end
section
namespace Mine
section
variable {base h h' h0 : Heap} {H O : Addr → Prop} {α α' α0 : List Addr} {σ σ' σ0 : Store} {b : Addr}
theorem SR.butD (S : SR base H α σ h) (k : Heap.ExtBut b h h') (hb : base.get? b = none) (hq : ∀ o, h.get? b = some o → ¬ isSeq o) (ha : b ∉ α) (hH : ¬ H b) : SR base H α σ h' where
  len := S.len
  nod := S.nod
  old := fun c o e => k c o (fun z => by rw [z, hb] at e; cases e) (S.old c o e)
  new := S.new
  ali := fun a m => by
    obtain ⟨o, e⟩ := S.ali a m; exact ⟨o, k a o (fun z => ha (z ▸ m)) e⟩
  lst := fun n a xs e1 e2 => by
    obtain ⟨vs, ⟨i, ho⟩, hl, q⟩ := S.lst n a xs e1 e2
    exact ⟨vs, ⟨i, k a _ (fun z => hq _ (z ▸ ho) ⟨_, _, rfl⟩) ho⟩, hl, RdAll.mono (fun c o e _ sq => k c o (fun z => hq o (z ▸ e) sq) e) (fun _ _ _ m => m) _ _ q⟩
  hid := fun a m => by
    obtain ⟨o, e⟩ := S.hid a m; exact ⟨o, k a o (fun z => hH (z ▸ m)) e⟩
  hna := S.hna
theorem Ext.butD (x : Ext O α0 σ0 h0 α σ h) (k : Heap.ExtBut b h h') (hb : h0.get? b = none) : Ext O α0 σ0 h0 α σ h' where
  pre := x.pre
  keep := fun a o e hm hO => k a o (fun z => by rw [z, hb] at e; cases e) (x.keep a o e hm hO)
  muts := x.muts
  alive := fun a o e => by obtain ⟨o', e'⟩ := x.alive a o e; exact ⟨o', k a o' (fun z => by rw [z, hb] at e; cases e) e'⟩
  nw := x.nw
theorem Rd.butD {M : Addr → Prop} (k : Heap.ExtBut b h h') (hq : ∀ o, h.get? b = some o → ¬ isSeq o) {d : PyData} {v : Value} (r : Rd h M d v) : Rd h' M d v :=
  Rd.mono (fun c o e _ sq => k c o (fun z => hq o (z ▸ e) sq) e) (fun _ _ _ m => m) _ _ r
theorem RdAll.butD {M : Addr → Prop} (k : Heap.ExtBut b h h') (hq : ∀ o, h.get? b = some o → ¬ isSeq o) {d : List PyData} {v : List Value} (r : RdAll h M d v) : RdAll h' M d v :=
  RdAll.mono (fun c o e _ sq => k c o (fun z => hq o (z ▸ e) sq) e) (fun _ _ _ m => m) _ _ r
end

structure IterAt (c : CX) (A : Around) (h0 : Heap) (H : Addr → Prop) (α : List Addr) (σ : Store) (h : Heap) (I : Addr) (fp : List Addr) (P : Nat → Value → Prop) (St : Nat → Heap → Prop) (xs : List PyData) : Prop where
  w : Walks c.prog c.w A I fp [I] xs.length P St
  st : St 0 h
  bas : c.base.get? I = none
  nal : I ∉ α
  nH : ¬ H I
  old : h0.get? I = none
  ali : ∃ o, h.get? I = some o
  nsq : ∀ i h', St i h' → ∃ o vs, h'.get? I = some o ∧ o.data = .fields vs
  fp : ∀ b ∈ fp, b ≠ I → (∃ o, h.get? b = some o ∧ isSeq o) ∧ ¬ Mu H α σ b
  val : ∀ i v, P i v → ∃ x, xs[i]? = some x ∧ Rd h (Mu H α σ) x v

inductive PostI (c : CX) (A : Around) (H : Addr → Prop) (α : List Addr) (σ : Store) (s : Shared) (Q : KD) (it : Value) (s' : Shared) : Prop
  | mk (α' : List Addr) (σ' : Store) (xs : List PyData) (h : Heap) (tk : Nat) (I : Addr) (fp : List Addr) (P : Nat → Value → Prop) (St : Nat → Heap → Prop) (e : s' = { s with heap := h, toks := tk }) (S : SR c.base H α' σ' h) (X : Ext NoO α σ s.heap α' σ' h) (ei : it = .ref I) (it' : IterAt c A s.heap H α' σ' h I fp P St xs) (hz : xs.length ≤ 2 * lim + 2 * lim) (q : Q xs σ')
noncomputable def DenI (c : CX) (e : Expr) (ir : IE) : Prop := ∀ env ρ H α σ s A (Q : KD), env.scope.names = c.kinds → EV env c.names ρ H α σ s.heap → SR c.base H α σ s.heap → Room c.k A → (c.X ir).I ρ σ Q →
  wpAny c.M A (eval e env) (fun xv s1 => wpAny c.M A (pyIter xv) (PostI c A H α σ s Q) Fls s1) Fls s

section
variable {c : CX}
theorem get_none_of_lt {h : Heap} {a : Addr} (hk : h.objs.size ≤ a) : h.get? a = none := by
  cases e : h.get? a with
  | none => rfl
  | some o => exact absurd (Heap.lt_size e) (Nat.not_lt.mpr hk)
theorem none_back {h h' : Heap} {a : Addr} (k : ∀ b o, h.get? b = some o → h'.get? b = some o) (e : h'.get? a = none) : h.get? a = none := by
  cases q : h.get? a with
  | none => rfl
  | some o => rw [k _ _ q] at e; cases e
theorem alive_back {base : Heap} {H O : Addr → Prop} {α α' : List Addr} {σ σ' : Store} {h h' : Heap} {a : Addr} (x : Ext O α σ h α' σ' h') (e : h'.get? a = none) : h.get? a = none := by
  cases q : h.get? a with
  | none => rfl
  | some o => obtain ⟨o', e'⟩ := x.alive _ _ q; rw [e] at e'; cases e'

theorem DenI.seq {e : Expr} {ir : IE} (ha : DenE c e ir) (hI : ∀ ρ σ (Q : KD), (c.X ir).I ρ σ Q → (c.X ir).E ρ σ fun v σ1 => ob (rdD v) fun X => ob (seqP X) fun xs => Q xs σ1) : DenI c e ir := by
  intro env ρ H α σ s A Q hk V S hR q
  refine wpAny_mono (ha env ρ H α σ s A _ hk V S hR (hI _ _ _ q)) ?_ fun _ _ f => f.elim
  rintro x s1 ⟨α1, σ1, X, h1, tk1, rfl, S1, X1, rx, q1⟩
  simp only [ob_iff] at q1
  obtain ⟨DX, e1, xs, e2, q1⟩ := q1
  have rd := rx.rd e1
  have hI0 : h1.get? h1.objs.size = none := size_none _
  have hS0 : s.heap.get? h1.objs.size = none := alive_back (base := c.base) (H := H) X1 hI0
  have hb0 : c.base.get? h1.objs.size = none := none_back S1.old hI0
  have nal : h1.objs.size ∉ α1 := fun m => by obtain ⟨o, e⟩ := S1.ali _ m; rw [hI0] at e; cases e
  have nH : ¬ H h1.objs.size := fun m => by obtain ⟨o, e⟩ := S1.hid _ m; rw [hI0] at e; cases e
  cases DX with
  | list ys =>
    simp only [seqP, Option.some.injEq] at e2; subst e2
    obtain ⟨l, vs, rfl, hn, hl, hz, r⟩ := rd.list
    refine wpAny_pyIter_list hl ?_
    have hk1 : ∀ b o, h1.get? b = some o → (h1.push { cls := .type "list_iterator", data := .fields #[.ref l, .int 0 0] }).get? b = some o := fun b o e => Heap.get?_push_of_some _ e
    have hne : l ≠ h1.objs.size := fun z => by obtain ⟨o, ho, _⟩ := hl; rw [z, hI0] at ho; cases ho
    refine ⟨α1, σ1, ys, _, tk1, h1.objs.size, [h1.objs.size, l], (fun i v => vs.toArray[i]? = some v), (fun i h => h.IsListIter h1.objs.size l i ∧ h.IsList l vs.toArray), rfl, S1.grow hk1, X1.trans (.grow hk1), rfl, ⟨by have W := Walks.list (prog := c.prog) (w := c.w) (A := A) hR.hh h1.objs.size l hne vs.toArray; rwa [show vs.toArray.size = ys.length from by simp [r.length]] at W, ⟨⟨_, Heap.get?_push_size _ rfl, rfl, rfl⟩, hl.push _⟩, hb0, nal, nH, hS0, ⟨_, Heap.get?_push_size _ rfl⟩, ?_, ?_, ?_⟩, by omega, q1⟩
    · rintro i h' ⟨⟨o, ho, _, hd⟩, _⟩
      exact ⟨o, _, ho, hd⟩
    · intro b hb hbI
      simp only [List.mem_cons, List.not_mem_nil, or_false] at hb
      rcases hb with rfl | rfl
      · exact absurd rfl hbI
      · obtain ⟨o, ho, _, n, hd⟩ := hl
        exact ⟨⟨o, hk1 _ _ ho, _, _, hd⟩, hn⟩
    · intro i v hv
      have hi : i < ys.length := by
        have := (Array.getElem?_eq_some_iff.mp hv).1
        simpa [r.length] using this
      have ex : ys[i]? = some ys[i] := List.getElem?_eq_getElem hi
      obtain ⟨v', ev, rv⟩ := r.get ex
      have : v = v' := by rw [List.getElem?_toArray, ev] at hv; exact (Option.some.inj hv).symm
      subst this
      exact ⟨_, ex, rv.grow hk1⟩
  | tuple ys =>
    simp only [seqP, Option.some.injEq] at e2; subst e2
    obtain ⟨l, vs, rfl, hn, hl, hz, r⟩ := rd.tuple
    refine wpAny_pyIter_tuple hl ?_
    have hk1 : ∀ b o, h1.get? b = some o → (h1.push { cls := .type "tuple_iterator", data := .fields #[.ref l, .int 0 0] }).get? b = some o := fun b o e => Heap.get?_push_of_some _ e
    have hne : l ≠ h1.objs.size := fun z => by obtain ⟨o, ho, _⟩ := hl; rw [z, hI0] at ho; cases ho
    refine ⟨α1, σ1, ys, _, tk1, h1.objs.size, [h1.objs.size, l], (fun i v => vs.toArray[i]? = some v), (fun i h => h.IsTupleIter h1.objs.size l i ∧ h.IsTuple l vs.toArray), rfl, S1.grow hk1, X1.trans (.grow hk1), rfl, ⟨by have W := Walks.tuple (prog := c.prog) (w := c.w) (A := A) hR.hh h1.objs.size l hne vs.toArray; rwa [show vs.toArray.size = ys.length from by simp [r.length]] at W, ⟨⟨_, Heap.get?_push_size _ rfl, rfl, rfl⟩, IsTup.keeps hl hk1⟩, hb0, nal, nH, hS0, ⟨_, Heap.get?_push_size _ rfl⟩, ?_, ?_, ?_⟩, by omega, q1⟩
    · rintro i h' ⟨⟨o, ho, _, hd⟩, _⟩
      exact ⟨o, _, ho, hd⟩
    · intro b hb hbI
      simp only [List.mem_cons, List.not_mem_nil, or_false] at hb
      rcases hb with rfl | rfl
      · exact absurd rfl hbI
      · obtain ⟨o, ho, _, n, hd⟩ := hl
        exact ⟨⟨o, hk1 _ _ ho, _, _, hd⟩, hn⟩
    · intro i v hv
      have hi : i < ys.length := by
        have := (Array.getElem?_eq_some_iff.mp hv).1
        simpa [r.length] using this
      have ex : ys[i]? = some ys[i] := List.getElem?_eq_getElem hi
      obtain ⟨v', ev, rv⟩ := r.get ex
      have : v = v' := by rw [List.getElem?_toArray, ev] at hv; exact (Option.some.inj hv).symm
      subst this
      exact ⟨_, ex, rv.grow hk1⟩
  | _ => simp [seqP] at e2

theorem range_iter {H : Addr → Prop} {α α1 : List Addr} {σ σ1 : Store} {s : Shared} {A : Around} {Q : KD} {a b : Int} {t u v : Tok} {h1 : Heap} {tk : Nat} (hR : Room c.k A) (S1 : SR c.base H α1 σ1 h1) (X1 : Ext NoO α σ s.heap α1 σ1 h1)
    (ha : -big < a) (ha' : a < big) (hb : -big < b) (hb' : b < big) (hz : (rangeP a b).length ≤ 2 * lim + 2 * lim) (q : Q (rangeP a b) σ1) :
    wpAny c.M A (pyIter (.ref h1.objs.size)) (PostI c A H α σ s Q) Fls { s with heap := h1.push { cls := .type "range", data := .fields #[.int a t, .int b u, .int 1 v] }, toks := tk } := by
  simp only [big_eq] at ha ha' hb hb'
  refine wpAny_pyIter_range (IsRange.new h1 a b 1 t u v) (small_one (by omega) (by omega) (by omega) (by omega)) ?_
  have hk1 : ∀ b' o, h1.get? b' = some o → ((h1.push { cls := .type "range", data := .fields #[.int a t, .int b u, .int 1 v] }).push { cls := .type "range_iterator", data := .fields #[rawInt a, rawInt (Builtin.Range.rangeSize a b 1), rawInt 1] }).get? b' = some o := fun b' o e => Heap.get?_push_of_some _ (Heap.get?_push_of_some _ e)
  have hsz : (h1.push { cls := .type "range", data := .fields #[.int a t, .int b u, .int 1 v] }).objs.size = h1.objs.size + 1 := Heap.size_push ..
  have hI0 : h1.get? (h1.objs.size + 1) = none := get_none_of_lt (Nat.le_succ _)
  have hS0 : s.heap.get? (h1.objs.size + 1) = none := alive_back (base := c.base) (H := H) X1 hI0
  have hb0 : c.base.get? (h1.objs.size + 1) = none := none_back S1.old hI0
  have nal : h1.objs.size + 1 ∉ α1 := fun m => by obtain ⟨o, e⟩ := S1.ali _ m; rw [hI0] at e; cases e
  have nH : ¬ H (h1.objs.size + 1) := fun m => by obtain ⟨o, e⟩ := S1.hid _ m; rw [hI0] at e; cases e
  have hlen : (rangeP a b).length = (b - a).toNat := by simp [rangeP]
  have W := (Walks.range (prog := c.prog) (w := c.w) (A := A) hR.hh (h1.objs.size + 1) a 1 (b - a).toNat).bound
  refine ⟨α1, σ1, rangeP a b, _, tk, h1.objs.size + 1, [h1.objs.size + 1], (fun i v => i < (b - a).toNat ∧ ∃ t, v = .int (a + i * 1) t), (fun i h => IsRangeIter h (h1.objs.size + 1) (a + (i : Nat) * 1) (((b - a).toNat : Int) - (i : Nat)) 1), rfl, S1.grow hk1, X1.trans (.grow hk1), by rw [hsz], ⟨by rw [hlen]; exact W, ?_, hb0, nal, nH, hS0, ⟨_, hsz ▸ Heap.get?_push_size _ rfl⟩, ?_, ?_, ?_⟩, hz, q⟩
  · have e : Builtin.Range.rangeSize a b 1 = (((b - a).toNat : Nat) : Int) := by rw [rangeSize_one]; split <;> omega
    rw [e]
    have : IsRangeIter ((h1.push { cls := .type "range", data := .fields #[.int a t, .int b u, .int 1 v] }).push { cls := .type "range_iterator", data := .fields #[rawInt a, rawInt (((b - a).toNat : Nat) : Int), rawInt 1] }) (h1.objs.size + 1) a (((b - a).toNat : Nat) : Int) 1 := hsz ▸ Heap.get?_push_size _ rfl
    simpa using this
  · intro i h' st
    have st' : h'.get? (h1.objs.size + 1) = some _ := st
    exact ⟨_, _, st', rfl⟩
  · intro b' hb' hbI
    simp only [List.mem_cons, List.not_mem_nil, or_false] at hb'
    exact absurd hb' hbI
  · rintro i v ⟨hi, t, rfl⟩
    refine ⟨.int (a + i), ?_, ?_⟩
    · simp [rangeP, hi]
    · rw [Int.mul_one]; exact .ofInt _ _

theorem DenI.rng1 {f : Expr} {p pos : Pos} {b : IE} (G : GB c.base c.mg c.mb) (B : Bui c "range" (.type "range")) (hb : DenE c f b) (hs : NS f) : DenI c (.Call (.Name "range" p) [f] [] pos) (.rng1 b) := by
  intro env ρ H α σ s A Q hk V S hR q
  refine Call_ (name_bui G hk V S B.k B.g B.b B.d (callWith_type1 (args_cons (wpAny_mono (hb env ρ H α σ s A _ hk V S hR q) ?_ fun _ _ f => f.elim) (hs _ _)) (hs _ _))) rfl
  rintro x s1 ⟨α1, σ1, X, h1, tk1, rfl, S1, X1, rx, q1⟩
  refine args_nil ?_
  simp only [ob_iff] at q1
  obtain ⟨DX, e1, j, e2, h3, h4, h5, q1⟩ := q1
  cases DX <;> simp only [intP, reduceCtorEq, Option.some.injEq] at e2
  subst e2
  obtain ⟨t, rfl⟩ := Rd.int (rx.rd e1)
  refine call_range_1 ?_
  exact range_iter hR S1 X1 (by rw [big_eq]; decide) (by rw [big_eq]; decide) h3 h4 h5 q1
theorem DenI.rng {e f : Expr} {p pos : Pos} {a b : IE} (G : GB c.base c.mg c.mb) (B : Bui c "range" (.type "range")) (ha : DenE c e a) (hb : DenE c f b) (hs : NS e) (hs' : NS f) : DenI c (.Call (.Name "range" p) [e, f] [] pos) (.rng a b) := by
  intro env ρ H α σ s A Q hk V S hR q
  refine Call_ (name_bui G hk V S B.k B.g B.b B.d (callWith_type1 (args_cons (wpAny_mono (ha env ρ H α σ s A _ hk V S hR q) ?_ fun _ _ f => f.elim) (hs _ _)) (hs _ _) (any_false1 hs'))) rfl
  rintro x s1 ⟨α1, σ1, X, h1, tk1, rfl, S1, X1, rx, q1⟩
  refine args_cons (wpAny_mono (hb env ρ H α1 σ1 _ A _ hk (V.ext S X1) S1 hR q1) ?_ fun _ _ f => f.elim) (hs' _ _)
  rintro y s2 ⟨α2, σ2, Y, h2, tk2, rfl, S2, X2, ry, q2⟩
  refine args_nil ?_
  simp only [ob_iff] at q2
  obtain ⟨DX, e1, DY, e2, i, e3, j, e4, h3, h4, h5, h6, h7, q2⟩ := q2
  cases DX <;> simp only [intP, reduceCtorEq, Option.some.injEq] at e3
  cases DY <;> simp only [intP, reduceCtorEq, Option.some.injEq] at e4
  subst e3 e4
  obtain ⟨t, rfl⟩ := Rd.int ((rx.ext S1 X2 noO).rd e1)
  obtain ⟨u, rfl⟩ := Rd.int (ry.rd e2)
  refine call_range_2 ?_
  exact range_iter hR S2 (X1.trans X2) h3 h4 h5 h6 h7 q2
end
end Mine
end
section
namespace Mine

theorem cellOf_eq {env : Env} {n : Str} {a : Addr} (h : env.cells.lookup n = some a) : cellOf env n = pure a := by
  unfold cellOf; rw [h]

theorem closure_loop {env : Env} : ∀ (names : List (Str × NameKind)) (cs : List (Str × Addr)), (∀ y ∈ names, y.2 = .free → ∃ a, env.cells.lookup y.1 = some a) →
    (∀ y a, cs.lookup y = some a → env.cells.lookup y = some a) →
    ∃ cl, (forIn names cs fun (x : Str × NameKind) (r : List (Str × Addr)) => (do
        if (x.2 == NameKind.free) = true then do
          let a ← cellOf env x.1
          pure (ForInStep.yield ((x.1, a) :: r))
        else pure (ForInStep.yield r) : Sem (ForInStep (List (Str × Addr))))) = pure cl ∧ (∀ y a, cl.lookup y = some a → env.cells.lookup y = some a) ∧
      (∀ y a, cs.lookup y = some a → ∃ b, cl.lookup y = some b) ∧ (∀ y ∈ names, y.2 = .free → ∃ a, cl.lookup y.1 = some a)
  | [], cs, _, hcs => ⟨cs, by rw [List.forIn_nil], hcs, fun y a e => ⟨a, e⟩, fun _ h => (by cases h)⟩
  | (n, k) :: r, cs, h, hcs => by
    by_cases hk : k = .free
    · subst hk
      obtain ⟨a, ha⟩ := h (n, .free) List.mem_cons_self rfl
      simp only at ha
      have hcs' : ∀ y b, List.lookup y ((n, a) :: cs) = some b → env.cells.lookup y = some b := fun y b e => by
        rw [List.lookup_cons] at e
        cases hb : y == n with
        | true => rw [hb] at e; cases e; rw [eq_of_beq hb]; exact ha
        | false => rw [hb] at e; exact hcs y b e
      obtain ⟨cl, e, h1, h2, h3⟩ := closure_loop r ((n, a) :: cs) (fun y hy => h y (List.mem_cons_of_mem _ hy)) hcs'
      refine ⟨cl, ?_, h1, fun y b eb => ?_, fun y hy hf => ?_⟩
      · rw [List.forIn_cons]
        simp only [beq_self_eq_true, if_true, cellOf_eq ha, pure_bind]
        exact e
      · cases hb : y == n with
        | true => exact h2 y a (by rw [List.lookup_cons, hb])
        | false => exact h2 y b (by rw [List.lookup_cons, hb]; exact eb)
      · rcases List.mem_cons.mp hy with rfl | hy
        · exact h2 n a (by rw [List.lookup_cons, beq_self_eq_true])
        · exact h3 y hy hf
    · obtain ⟨cl, e, h1, h2, h3⟩ := closure_loop r cs (fun y hy => h y (List.mem_cons_of_mem _ hy)) hcs
      have hb : (k == NameKind.free) = false := by simpa using hk
      refine ⟨cl, ?_, h1, h2, fun y hy hf => ?_⟩
      · rw [List.forIn_cons]
        simp only [hb, Bool.false_eq_true, if_false, pure_bind]
        exact e
      · rcases List.mem_cons.mp hy with rfl | hy
        · exact absurd hf hk
        · exact h3 y hy hf
theorem closureFor_is {env : Env} {scope : Scope} (h : ∀ y ∈ scope.names, y.2 = .free → ∃ a, env.cells.lookup y.1 = some a) :
    ∃ cl, closureFor scope env = pure cl ∧ (∀ y a, cl.lookup y = some a → env.cells.lookup y = some a) ∧ (∀ y ∈ scope.names, y.2 = .free → ∃ a, cl.lookup y.1 = some a) := by
  obtain ⟨cl, e, h1, _, h3⟩ := closure_loop scope.names [] h (fun y a e => by simp at e)
  refine ⟨cl, ?_, h1, h3⟩
  unfold closureFor
  have : (forIn scope.names ([] : List (Str × Addr)) fun (x : Str × NameKind) (r : List (Str × Addr)) => (do
        if (x.2 == NameKind.free) = true then do
          let a ← cellOf env x.1
          pure (ForInStep.yield ((x.1, a) :: r))
        else pure (ForInStep.yield r) : Sem (ForInStep (List (Str × Addr))))) >>= (fun cs => pure cs) = pure cl := by rw [e, pure_bind]
  exact this

noncomputable def relK (kinds names : List (Str × NameKind)) : List (Str × NameKind) := names.map fun (n, k) => if (k == .free && kinds.lookup n == some .cell) then (n, .cell) else (n, k)
noncomputable def CX.comp (c : CX) (x : Str) (scope : Scope) : CX := { c with names := x :: c.names, kinds := relK c.kinds scope.names }

theorem relabel_names {c : CX} {env : Env} {scope : Scope} (hkind : env.scope.kind = .function) (hk : env.scope.names = c.kinds) : (relabel scope env).names = relK c.kinds scope.names := by
  unfold relabel relK
  simp only [hkind, Env.kindOf_of hk, beq_self_eq_true, Bool.and_true]

theorem lookup_relK {kinds : List (Str × NameKind)} : ∀ {names : List (Str × NameKind)} {y : Str} {k : NameKind}, (relK kinds names).lookup y = some k →
    (names.lookup y = some k ∧ ¬ (k = .free ∧ kinds.lookup y = some .cell)) ∨ (k = .cell ∧ names.lookup y = some .free ∧ kinds.lookup y = some .cell)
  | [], _, _, h => by simp [relK] at h
  | (n, k') :: r, y, k, h => by
    have ih := @lookup_relK kinds r y k
    simp only [relK, List.map_cons] at h ih
    by_cases hc : (k' == NameKind.free && kinds.lookup n == some .cell) = true
    · rw [if_pos hc, List.lookup_cons] at h
      rw [List.lookup_cons]
      cases hb : y == n with
      | true =>
        rw [hb] at h; cases h
        have := eq_of_beq hb; subst this
        simp at hc
        exact .inr ⟨rfl, by rw [hc.1], hc.2⟩
      | false => rw [hb] at h; exact ih h
    · rw [if_neg hc, List.lookup_cons] at h
      rw [List.lookup_cons]
      cases hb : y == n with
      | true =>
        rw [hb] at h; cases h
        have := eq_of_beq hb; subst this
        refine .inl ⟨rfl, fun z => hc ?_⟩
        simp [z.1, z.2]
      | false => rw [hb] at h; exact ih h

theorem mem_of_lk {names : List (Str × NameKind)} {y : Str} {k : NameKind} (h : names.lookup y = some k) : (y, k) ∈ names := by
  induction names with
  | nil => simp at h
  | cons p r ih =>
    obtain ⟨n, k'⟩ := p
    rw [List.lookup_cons] at h
    cases hb : y == n with
    | true => rw [hb] at h; cases h; rw [eq_of_beq hb]; exact List.mem_cons_self
    | false => rw [hb] at h; exact List.mem_cons_of_mem _ (ih h)

structure CompOK (c : CX) (x : Str) (scope : Scope) : Prop where
  cell : ∀ y ∈ scope.names, y.2 ≠ .cell
  kind : scope.kind = .function
  nam : ∀ y ∈ scope.names, y.2 = .local → scope.names.lookup y.1 = some .local
  var : scope.names.lookup x = some .local
  loc : ∀ y ∈ scope.names, y.2 = .local → y.1 = x ∨ ix c.names y.1 = none
  free : ∀ y ∈ scope.names, y.2 = .free → c.kinds.lookup y.1 = some .cell ∨ c.kinds.lookup y.1 = some .free

theorem ix_cons {names : List Str} {x y : Str} {i : Nat} (h : ix (x :: names) y = some i) : (y = x ∧ i = 0) ∨ (y ≠ x ∧ ∃ j, i = j + 1 ∧ ix names y = some j) := by
  unfold ix at h
  cases hb : y == x with
  | true => simp [hb] at h; exact .inl ⟨eq_of_beq hb, h.symm⟩
  | false =>
    simp only [hb, Bool.false_eq_true, if_false, Option.map_eq_some_iff] at h
    obtain ⟨j, e, rfl⟩ := h
    exact .inr ⟨fun z => by simp [z] at hb, j, rfl, e⟩

section
variable {c : CX}
theorem EV.comp {env : Env} {ρ : Rho} {H : Addr → Prop} {α : List Addr} {σ : Store} {h : Heap} {x : Str} {scope : Scope} {cl : List (Str × Addr)} {C : Addr} {m : Str → Option Value} {X : PyData} {v : Value} (hk : env.scope.names = c.kinds) (V : EV env c.names ρ H α σ h) (K : CompOK c x scope)
    (hcl : ∀ y a, cl.lookup y = some a → env.cells.lookup y = some a) (hcl' : ∀ y ∈ scope.names, y.2 = .free → ∃ a, cl.lookup y.1 = some a) (hn : h.Ns C m) (hm : m x = some v) (r : Rd h (Mu H α σ) X v) :
    EV (compEnvC scope cl C env) (c.comp x scope).names (some (.d X) :: ρ) H α σ h where
  kind := K.kind
  glob := V.glob
  bui := V.bui
  vars := fun y i W e1 e2 => by
    have hko : Env.kindOf (compEnvC scope cl C env) y = (relK c.kinds scope.names).lookup y := by
      show (relabel scope env).names.lookup y = _
      rw [relabel_names V.kind hk]
    unfold Look
    rw [hko]
    rcases ix_cons e1 with ⟨rfl, rfl⟩ | ⟨hne, j, rfl, e3⟩
    · have hl : (relK c.kinds scope.names).lookup y = some .local := by
        have := lookup_relabel_local (env := env) K.var
        rw [← relabel_names V.kind hk]; exact this
      rw [hl]
      have : W = .d X := by simpa [getR] using e2.symm
      subst this
      exact ⟨m, v, hn, hm, r⟩
    · have e2' : getR ρ j = some W := by simpa [getR] using e2
      have L := V.vars y j W e3 e2'
      cases hq : (relK c.kinds scope.names).lookup y with
      | none => trivial
      | some k =>
        have cellcase : (scope.names.lookup y = some .free) → ∃ cc v, cl.lookup y = some cc ∧ h.IsCell cc (some v) ∧ Rp H α σ h W v := fun hf => by
          obtain ⟨cc, ec⟩ := hcl' (y, .free) (mem_of_lk hf) rfl
          unfold Look at L
          rw [Env.kindOf_of hk] at L
          rcases K.free (y, .free) (mem_of_lk hf) rfl with q | q
          · simp only [q] at L
            obtain ⟨c', v, a, b, d⟩ := L
            have := hcl y cc ec
            rw [a] at this; cases this
            exact ⟨_, v, ec, b, d⟩
          · simp only [q] at L
            obtain ⟨c', v, a, b, d⟩ := L
            have := hcl y cc ec
            rw [a] at this; cases this
            exact ⟨_, v, ec, b, d⟩
        rcases lookup_relK hq with ⟨hs, _⟩ | ⟨rfl, hs, _⟩
        · cases k with
          | «local» =>
            rcases K.loc (y, .local) (mem_of_lk hs) rfl with q | q
            · exact absurd q hne
            · simp only at q; rw [q] at e3; cases e3
          | cell => exact absurd rfl (K.cell (y, .cell) (mem_of_lk hs))
          | free => exact cellcase hs
          | _ => trivial
        · exact cellcase hs
  ns := ⟨m, hn⟩
  cel := fun y a e => V.cel y a (hcl y a e)
  inj := fun y z a e1 e2 => V.inj y z a (hcl y a e1) (hcl z a e2)
  has := fun y kd e1 e2 => by
    have hko : Env.kindOf (compEnvC scope cl C env) y = (relK c.kinds scope.names).lookup y := by
      show (relabel scope env).names.lookup y = _
      rw [relabel_names V.kind hk]
    rw [hko] at e1
    rcases lookup_relK e1 with ⟨hs, _⟩ | ⟨rfl, hs, _⟩
    · rcases e2 with rfl | rfl
      · exact absurd rfl (K.cell (y, .cell) (mem_of_lk hs))
      · exact hcl' (y, .free) (mem_of_lk hs) rfl
    · exact hcl' (y, .free) (mem_of_lk hs) rfl

/-- something else is changed: what we know stands -/
theorem Rd.chg {h h' : Heap} {M : Addr → Prop} {b : Addr} (k : Heap.ExtBut b h h') (hb : M b ∨ ∀ o, h.get? b = some o → ¬ isSeq o) {d : PyData} {v : Value} (r : Rd h M d v) : Rd h' M d v :=
  Rd.mono (fun c o e hm sq => k c o (fun z => by subst z; rcases hb with hb | hb; exact hm hb; exact hb o e sq) e) (fun _ _ _ m => m) _ _ r
theorem RdAll.chg {h h' : Heap} {M : Addr → Prop} {b : Addr} (k : Heap.ExtBut b h h') (hb : M b ∨ ∀ o, h.get? b = some o → ¬ isSeq o) {d : List PyData} {v : List Value} (r : RdAll h M d v) : RdAll h' M d v :=
  RdAll.mono (fun c o e hm sq => k c o (fun z => by subst z; rcases hb with hb | hb; exact hm hb; exact hb o e sq) e) (fun _ _ _ m => m) _ _ r
theorem Rp.chg {h h' : Heap} {H : Addr → Prop} {α : List Addr} {σ : Store} {b : Addr} (k : Heap.ExtBut b h h') (hb : Mu H α σ b ∨ ∀ o, h.get? b = some o → ¬ isSeq o) {W : V} {v : Value} (r : Rp H α σ h W v) : Rp H α σ h' W v := by
  cases W with
  | d x => exact Rd.chg k hb r
  | l n => exact r
theorem EV.chg {env : Env} {names : List Str} {ρ : Rho} {H : Addr → Prop} {α : List Addr} {σ : Store} {h h' : Heap} {b : Addr} (V : EV env names ρ H α σ h) (k : Heap.ExtBut b h h') (hb : Mu H α σ b ∨ ∀ o, h.get? b = some o → ¬ isSeq o)
    (hL : env.locals ≠ b) (hC : ∀ x a, env.cells.lookup x = some a → a ≠ b) : EV env names ρ H α σ h' where
  kind := V.kind
  glob := V.glob
  bui := V.bui
  vars := fun y i W e1 e2 => (V.vars y i W e1 e2).mono (fun m n => n.at' fun o e => k _ o hL e) (fun a v ea n => let ⟨o, ho, hd⟩ := n; ⟨o, k _ o (hC y a ea) ho, hd⟩) fun v r => r.chg k hb
  ns := let ⟨m, n⟩ := V.ns; ⟨m, n.at' fun o e => k _ o hL e⟩
  cel := fun y a e => let ⟨v, o, ho, hd⟩ := V.cel y a e; ⟨v, o, k _ o (hC y a e) ho, hd⟩
  inj := V.inj
  has := V.has
/-- more is hidden, but nothing that was there -/
theorem EV.hide {env : Env} {names : List Str} {ρ : Rho} {H H' : Addr → Prop} {α : List Addr} {σ : Store} {h h' : Heap} (V : EV env names ρ H α σ h) (k : ∀ b o, h.get? b = some o → h'.get? b = some o) (hm : ∀ a o, h.get? a = some o → H' a → H a) : EV env names ρ H' α σ h' where
  kind := V.kind
  glob := V.glob
  bui := V.bui
  vars := fun y i W e1 e2 => (V.vars y i W e1 e2).mono (fun m n => n.keeps k) (fun a v ea n => let ⟨o, ho, hd⟩ := n; ⟨o, k _ o ho, hd⟩) fun v r => by
    cases W with
    | d x => exact Rd.mono (fun a o e _ _ => k a o e) (fun a o e m => m.imp (hm a o e) id) _ _ r
    | l n => exact r
  ns := let ⟨m, n⟩ := V.ns; ⟨m, n.keeps k⟩
  cel := fun y a e => let ⟨v, o, ho, hd⟩ := V.cel y a e; ⟨v, o, k _ o ho, hd⟩
  inj := V.inj
  has := V.has
end
end Mine
end
section
namespace Mine

noncomputable def Hid (H : Addr → Prop) (D : Addr) (a : Addr) : Prop := H a ∨ a = D

/-- what a comprehension's loop keeps -/
structure LI (c : CX) (env : Env) (ρ : Rho) (h0 : Heap) (H : Addr → Prop) (α0 : List Addr) (σ0 : Store) (D C B I : Addr) (fp : List Addr) (P : Nat → Value → Prop) (xs : List PyData) (α : List Addr) (σ : Store) (h : Heap) : Prop where
  S : SR c.base (Hid H D) α σ h
  X : Ext NoO α0 σ0 h0 α σ h
  V : EV env c.names ρ (Hid H D) α σ h
  nI : I ∉ α
  nC : C ∉ α
  nB : B ∉ α
  fp : ∀ b ∈ fp, b ≠ I → (∃ o, h.get? b = some o ∧ isSeq o) ∧ ¬ Mu (Hid H D) α σ b
  val : ∀ j v, P j v → ∃ x, xs[j]? = some x ∧ Rd h (Mu (Hid H D) α σ) x v

/-- the three new things are apart from all else -/
structure Fresh3 (c : CX) (env : Env) (h0 : Heap) (H : Addr → Prop) (D C B I : Addr) : Prop where
  dD : h0.get? D = none
  dC : h0.get? C = none
  dI : h0.get? I = none
  bD : c.base.get? D = none
  bC : c.base.get? C = none
  bI : c.base.get? I = none
  hD : ¬ H D
  hC : ¬ H C
  hI : ¬ H I
  DC : D ≠ C
  DI : D ≠ I
  CI : C ≠ I
  dB : h0.get? B = none
  bB : c.base.get? B = none
  hB : ¬ H B
  DB : D ≠ B
  BI : B ≠ I
  loc : ∃ o, h0.get? env.locals = some o
  cel : ∀ x a, env.cells.lookup x = some a → ∃ o, h0.get? a = some o

section
variable {c : CX} {env : Env} {ρ : Rho} {h0 : Heap} {H : Addr → Prop} {α0 : List Addr} {σ0 : Store} {D C B I : Addr} {fp : List Addr} {P : Nat → Value → Prop} {xs : List PyData} {α α' : List Addr} {σ σ' : Store} {h h' : Heap}

theorem Fresh3.locNe (F : Fresh3 c env h0 H D C B I) {a : Addr} (e : h0.get? a = none) : env.locals ≠ a := fun z => by
  obtain ⟨o, q⟩ := F.loc; rw [z, e] at q; cases q
theorem Fresh3.celNe (F : Fresh3 c env h0 H D C B I) {a : Addr} (e : h0.get? a = none) : ∀ x b, env.cells.lookup x = some b → b ≠ a := fun x b q z => by
  obtain ⟨o, q⟩ := F.cel x b q; rw [z, e] at q; cases q
theorem LI.chgI (L : LI c env ρ h0 H α0 σ0 D C B I fp P xs α σ h) (F : Fresh3 c env h0 H D C B I) (k : Heap.ExtBut I h h') (hq : ∀ o, h.get? I = some o → ¬ isSeq o) : LI c env ρ h0 H α0 σ0 D C B I fp P xs α σ h' where
  S := L.S.butD k F.bI hq L.nI (fun z => z.elim F.hI fun z => F.DI z.symm)
  X := L.X.butD k F.dI
  V := L.V.chg k (.inr hq) (F.locNe F.dI) (F.celNe F.dI)
  nI := L.nI
  nC := L.nC
  nB := L.nB
  fp := fun b hb hne => let ⟨⟨o, e, q⟩, m⟩ := L.fp b hb hne; ⟨⟨o, k _ o hne e, q⟩, m⟩
  val := fun j v p => let ⟨x, e, r⟩ := L.val j v p; ⟨x, e, r.chg k (.inr hq)⟩
theorem LI.chgC (L : LI c env ρ h0 H α0 σ0 D C B I fp P xs α σ h) (F : Fresh3 c env h0 H D C B I) (k : Heap.ExtBut B h h') (hq : ∀ o, h.get? B = some o → ¬ isSeq o) : LI c env ρ h0 H α0 σ0 D C B I fp P xs α σ h' where
  S := L.S.butD k F.bB hq L.nB (fun z => z.elim F.hB fun z => F.DB z.symm)
  X := L.X.butD k F.dB
  V := L.V.chg k (.inr hq) (F.locNe F.dB) (F.celNe F.dB)
  nI := L.nI
  nC := L.nC
  nB := L.nB
  fp := fun b hb hne => let ⟨⟨o, e, q⟩, m⟩ := L.fp b hb hne; ⟨⟨o, k _ o (fun z => hq o (z ▸ e) q) e, q⟩, m⟩
  val := fun j v p => let ⟨x, e, r⟩ := L.val j v p; ⟨x, e, r.chg k (.inr hq)⟩
theorem LI.body (L : LI c env ρ h0 H α0 σ0 D C B I fp P xs α σ h) (F : Fresh3 c env h0 H D C B I) (hI : ∃ o, h.get? I = some o) (hC : ∃ o, h.get? C = some o) (hB : ∃ o, h.get? B = some o) (S : SR c.base (Hid H D) α' σ' h') (X : Ext NoO α σ h α' σ' h') : LI c env ρ h0 H α0 σ0 D C B I fp P xs α' σ' h' where
  S := S
  X := L.X.trans X
  V := L.V.ext L.S X
  nI := fun m => by
    rcases X.nw _ m with q | q
    · exact L.nI q
    · obtain ⟨o, e⟩ := hI; rw [q] at e; cases e
  nC := fun m => by
    rcases X.nw _ m with q | q
    · exact L.nC q
    · obtain ⟨o, e⟩ := hC; rw [q] at e; cases e
  nB := fun m => by
    rcases X.nw _ m with q | q
    · exact L.nB q
    · obtain ⟨o, e⟩ := hB; rw [q] at e; cases e
  fp := fun b hb hne => by
    obtain ⟨⟨o, e, q⟩, m⟩ := L.fp b hb hne
    refine ⟨⟨o, X.keep _ o e (fun z => m (.inr z)) (fun z => z), q⟩, fun z => z.elim (fun z => m (.inl z)) fun z => ?_⟩
    rcases X.muts _ z with z | z
    · exact m (.inr z)
    · rw [z] at e; cases e
  val := fun j v p => let ⟨x, e, r⟩ := L.val j v p; ⟨x, e, Rd.ext L.S X noO r⟩
/-- the list under way grows -/
theorem LI.chgD (L : LI c env ρ h0 H α0 σ0 D C B I fp P xs α σ h) (F : Fresh3 c env h0 H D C B I) (k : Heap.ExtBut D h h') (hal : ∃ o, h'.get? D = some o) : LI c env ρ h0 H α0 σ0 D C B I fp P xs α σ h' where
  S := {
    len := L.S.len
    nod := L.S.nod
    old := fun b o e => k b o (fun z => by rw [z, F.bD] at e; cases e) (L.S.old b o e)
    new := L.S.new
    ali := fun a m => let ⟨o, e⟩ := L.S.ali a m; ⟨o, k a o (fun z => L.S.hna D (.inr rfl) (z ▸ m)) e⟩
    lst := fun n a ys e1 e2 => by
      obtain ⟨vs, pl, hl, q⟩ := L.S.lst n a ys e1 e2
      exact ⟨vs, pl.at fun o e => k a o (fun z => L.S.hna D (.inr rfl) (z ▸ List.mem_of_getElem? e1)) e, hl, q.chg k (.inl (.inl (.inr rfl)))⟩
    hid := fun a m => by
      by_cases z : a = D
      · rw [z]; exact hal
      · obtain ⟨o, e⟩ := L.S.hid a m; exact ⟨o, k a o z e⟩
    hna := L.S.hna }
  X := L.X.butD k F.dD
  V := L.V.chg k (.inl (.inl (.inr rfl))) (F.locNe F.dD) (F.celNe F.dD)
  nI := L.nI
  nC := L.nC
  nB := L.nB
  fp := fun b hb hne => let ⟨⟨o, e, q⟩, m⟩ := L.fp b hb hne; ⟨⟨o, k _ o (fun z => m (.inl (.inr z))) e, q⟩, m⟩
  val := fun j v p => let ⟨x, e, r⟩ := L.val j v p; ⟨x, e, r.chg k (.inl (.inl (.inr rfl)))⟩

noncomputable def condTree (ifs : List Expr) (env : Env) : Sem Bool := forIn ifs true fun c r => if r = true then do let ok ← isTrue c env (eval c env); pure (ForInStep.yield ok) else pure (ForInStep.yield r)
noncomputable def DenIf (c : CX) (ifs : List Expr) (ir : IE) : Prop := ∀ env ρ H α σ s A (Q : KB), env.scope.names = c.kinds → EV env c.names ρ H α σ s.heap → SR c.base H α σ s.heap → Room c.k A → (c.X ir).T ρ σ Q →
  wpAny c.M A (condTree ifs env) (PostT c.base H α σ s Q) Fls s
theorem DenIf.nil : DenIf c [] .nil := fun env ρ H α σ s A Q hk V S hR q => by
  unfold condTree; rw [List.forIn_nil]; exact wpAny_pure ⟨α, σ, s.heap, s.toks, rfl, S, .refl, q⟩
theorem DenIf.one {e : Expr} {ir : IE} (h : DenT c e ir) : DenIf c [e] ir := fun env ρ H α σ s A Q hk V S hR q => by
  unfold condTree
  rw [List.forIn_cons]
  refine wpAny_bind ?_
  rw [if_pos rfl]
  refine wpAny_bind (wpAny_mono (h env ρ H α σ s A Q hk V S hR q) (fun b s1 p => wpAny_pure ?_) fun _ _ f => f.elim)
  show wpAny _ _ (forIn [] b _) _ _ _
  rw [List.forIn_nil]
  exact wpAny_pure p

structure CFrame (c : CX) (env cenv : Env) (x : Str) (scope : Scope) (C B : Addr) (Fm : Option Value → Heap → Prop) : Prop where
  names : cenv.scope.names = (c.comp x scope).kinds
  stab : ∀ v (h h' : Heap), Fm v h → (∀ o, h.get? C = some o → h'.get? C = some o) → (∀ o, h.get? B = some o → h'.get? B = some o) → Fm v h'
  store : ∀ (A : Around) (v0 : Option Value) (v : Value) (s : Shared) (Q : Unit → Shared → Prop) (E : Value → Shared → Prop), Fm v0 s.heap → (∀ h' tk, Fm (some v) h' → Heap.ExtBut B s.heap h' → Q () { s with heap := h', toks := tk }) → wpAny c.M A (storeName cenv x v) Q E s
  ev : ∀ (ρ : Rho) (H : Addr → Prop) (α : List Addr) (σ : Store) (h : Heap) (X : PyData) (v : Value), EV env c.names ρ H α σ h → Fm (some v) h → Rd h (Mu H α σ) X v → EV cenv (c.comp x scope).names (some (.d X) :: ρ) H α σ h
  ns : ∀ v (h : Heap), Fm v h → ∃ m, h.Ns C m
  ali : ∀ v (h : Heap), Fm v h → ∃ o, h.get? B = some o ∧ ¬ isSeq o

theorem comp_loop {elt iter : Expr} {x : Str} {px : Pos} {ifs : List Expr} {scope : Scope} {cenv : Env} {Fm : Option Value → Heap → Prop} {pos : Pos} {ie ic : IE} {A : Around} {s2 : Shared} {R : Result → Shared → Prop} {Q : KV} {St : Nat → Heap → Prop}
    (hR : Room c.k A) (CF : CFrame c env cenv x scope C B Fm)
    (he : DenE (c.comp x scope) elt ie) (hc : DenIf (c.comp x scope) ifs ic)
    (W : Walks c.prog c.w A I fp [I] xs.length P St) (hns : ∀ i h', St i h' → ∃ o vs, h'.get? I = some o ∧ o.data = .fields vs) (F : Fresh3 c env h0 H D C B I)
    (hz : xs.length ≤ lim)
    (fin : ∀ α' σ' acc h tk v, LI c env ρ h0 H α0 σ0 D C B I fp P xs α' σ' h → Fm v h → (∃ ys, h.PlainList D (List.toArray ys) ∧ RdAll h (Mu (Hid H D) α' σ') acc ys) → acc.length ≤ lim → Q (.d (.list acc)) σ' → R (.ok .next) { s2 with heap := h, toks := tk })
    (L : LI c env ρ h0 H α0 σ0 D C B I fp P xs α σ s2.heap) (hst : St 0 s2.heap) {v0 : Option Value} (hn : Fm v0 s2.heap) (hD : s2.heap.PlainList D #[])
    (q : compV ((c.comp x scope).X ic).T ((c.comp x scope).X ie).E ρ xs [] σ Q) :
    codeAny c.M A (.compLoop (.ListComp elt [⟨.Name x px, iter, ifs, 0⟩] scope pos) 0 (.ref I) (.ref D) cenv) R s2 := by
  have hBfp : ∀ {h α σ v}, LI c env ρ h0 H α0 σ0 D C B I fp P xs α σ h → Fm v h → B ∉ fp := fun {h α σ v} L hC hm => by
    obtain ⟨⟨o, e, sq⟩, _⟩ := L.fp B hm F.BI
    obtain ⟨o', ho, hq⟩ := CF.ali _ _ hC
    rw [ho] at e; cases e; exact hq sq
  have hDfp : ∀ {h α σ}, LI c env ρ h0 H α0 σ0 D C B I fp P xs α σ h → D ∉ fp := fun {h α σ} L hm => (L.fp D hm F.DI).2 (.inl (.inr rfl))
  refine codeAny_compLoop_tests (I := fun k s' => Ex8 fun i acc ys α σ h tk v => All9 (s' = { s2 with heap := h, toks := tk }) (i ≤ xs.length) (k = xs.length + 1 - i) (St i h) (LI c env ρ h0 H α0 σ0 D C B I fp P xs α σ h) (Fm v h) (h.PlainList D (List.toArray ys))
      (RdAll h (Mu (Hid H D) α σ) acc ys) (All2 (acc.length ≤ i) (compV ((c.comp x scope).X ic).T ((c.comp x scope).X ie).E ρ (xs.drop i) acc σ Q))) ?_ (xs.length + 1)
    ⟨0, [], [], α, σ, s2.heap, s2.toks, v0, rfl, Nat.zero_le _, rfl, hst, L, hn, hD, .nil, Nat.zero_le _, q⟩
  rintro k s' ⟨i, acc, ys, α, σ, h, tk, v0, rfl, hi, rfl, hst, L, hn, hD, ra, hai, q⟩
  obtain ⟨oI, vsI, eI, dI⟩ := hns i h hst
  have hqI : ∀ o, h.get? I = some o → ¬ isSeq o := fun o e => by rw [eI] at e; cases e; exact notSeq_fields dI
  by_cases hlt : i < xs.length
  · refine W.item i _ _ _ hlt hst fun v h1 tk1 hPv hst1 hk1 => ?_
    have kI : Heap.ExtBut I h h1 := fun b o hne e => hk1 b o (by simpa using hne) e
    have L1 := L.chgI F kI hqI
    have hn1 : Fm v0 h1 := CF.stab _ _ _ hn (fun o e => kI _ o F.CI e) (fun o e => kI _ o F.BI e)
    have hD1 : h1.PlainList D ys.toArray := hD.at fun o e => kI _ o F.DI e
    have ra1 : RdAll h1 (Mu (Hid H D) α σ) acc ys := ra.chg kI (.inr hqI)
    obtain ⟨X, eX, rX⟩ := L1.val i v hPv
    have hdrop : xs.drop i = X :: xs.drop (i + 1) := by
      rw [List.drop_eq_getElem_cons hlt]; congr 1
      exact Option.some.inj ((List.getElem?_eq_getElem hlt).symm.trans eX)
    rw [hdrop] at q
    refine wpAny_assign_Name (CF.store A v0 v _ _ _ hn1 fun h2 tk2 hn2 hs2 => ?_)
    have hqC : ∀ o, h1.get? B = some o → ¬ isSeq o := fun o e => by
      obtain ⟨o', ho, hq⟩ := CF.ali _ _ hn1; rw [e] at ho; cases ho; exact hq
    have L2 := L1.chgC F hs2 hqC
    have hD2 : h2.PlainList D ys.toArray := hD1.at fun o e => hs2 _ o F.DB e
    have ra2 : RdAll h2 (Mu (Hid H D) α σ) acc ys := ra1.chg hs2 (.inr hqC)
    have rX2 : Rd h2 (Mu (Hid H D) α σ) X v := rX.chg hs2 (.inr hqC)
    have hst2 : St (i + 1) h2 := W.frame _ _ _ hst1 fun b hb o e => hs2 b o (fun z => hBfp L1 hn1 ((show b = B from z) ▸ hb)) e
    have V2 := CF.ev ρ _ _ _ _ X v L2.V hn2 rX2
    have hcx : cenv.scope.names = (c.comp x scope).kinds := CF.names
    obtain ⟨oI2, vsI2, eI2, dI2⟩ := hns _ _ hst2
    obtain ⟨mC2, oC2, _, _, eC2, _⟩ := CF.ns _ _ hn2
    obtain ⟨oB2, eB2, _⟩ := CF.ali _ _ hn2
    refine wpAny_mono (hc cenv _ (Hid H D) α σ _ A _ hcx V2 L2.S hR q) ?_ fun _ _ f => f.elim
    rintro ok s3 ⟨α3, σ3, h3, tk3, rfl, S3, X3, q3⟩
    have L3 := L2.body F ⟨_, eI2⟩ ⟨_, eC2⟩ ⟨_, eB2⟩ S3 X3
    have ext3 : ∀ {b}, ¬ Mu (Hid H D) α σ b ∨ b = D → ∀ o, h2.get? b = some o → h3.get? b = some o := fun {b} hb o e => X3.keep b o e (fun z => by
      rcases hb with hb | rfl
      · exact hb (.inr z)
      · obtain ⟨n, _, e, _⟩ := z; exact L2.S.hna b (.inr rfl) (List.mem_of_getElem? e)) (fun z => z)
    have nMu : ∀ {b}, b ∉ α → ¬ Hid H D b → ¬ Mu (Hid H D) α σ b := fun h1 h2 z => z.elim h2 fun ⟨n, _, e, _⟩ => h1 (List.mem_of_getElem? e)
    have hD3 : h3.PlainList D ys.toArray := hD2.at fun o e => ext3 (.inr rfl) o e
    have hn3 := CF.stab _ _ h3 hn2 (fun o e => ext3 (.inl (nMu L2.nC (fun z => z.elim F.hC fun z => F.DC z.symm))) o e) (fun o e => ext3 (.inl (nMu L2.nB (fun z => z.elim F.hB fun z => F.DB z.symm))) o e)
    have ra3 : RdAll h3 (Mu (Hid H D) α3 σ3) acc ys := RdAll.ext L2.S X3 noO ra2
    have hst3 : St (i + 1) h3 := W.frame _ _ _ hst2 fun b hb o e => by
      by_cases hbI : b = I
      · subst hbI; exact ext3 (.inl (nMu L2.nI (fun z => z.elim F.hI fun z => F.DI z.symm))) o e
      · exact ext3 (.inl (L2.fp b hb hbI).2) o e
    have V3 := V2.ext L2.S X3
    cases ok with
    | false =>
      simp only [Bool.false_eq_true, if_false] at q3 ⊢
      exact ⟨xs.length + 1 - (i + 1), by omega, i + 1, acc, ys, α3, σ3, h3, tk3, _, rfl, hlt, rfl, hst3, L3, hn3, hD3, ra3, by omega, q3⟩
    | true =>
      simp only [if_true] at q3 ⊢
      refine wpAny_mono (he cenv _ (Hid H D) α3 σ3 _ A _ hcx V3 S3 hR q3) ?_ fun _ _ f => f.elim
      rintro y s4 ⟨α4, σ4, Y, h4, tk4, rfl, S4, X4, ry, q4⟩
      obtain ⟨DY, e1, q4⟩ := ob_iff.mp q4
      have rd := ry.rd e1
      obtain ⟨oI3, vsI3, eI3, dI3⟩ := hns _ _ hst3
      obtain ⟨mC3, oC3, _, _, eC3, _⟩ := CF.ns _ _ hn3
      obtain ⟨oB3, eB3, _⟩ := CF.ali _ _ hn3
      have L4 := L3.body F ⟨_, eI3⟩ ⟨_, eC3⟩ ⟨_, eB3⟩ S4 X4
      have ext4 : ∀ {b}, ¬ Mu (Hid H D) α3 σ3 b ∨ b = D → ∀ o, h3.get? b = some o → h4.get? b = some o := fun {b} hb o e => X4.keep b o e (fun z => by
        rcases hb with hb | rfl
        · exact hb (.inr z)
        · obtain ⟨n, _, e, _⟩ := z; exact L3.S.hna b (.inr rfl) (List.mem_of_getElem? e)) (fun z => z)
      have nMu3 : ∀ {b}, b ∉ α3 → ¬ Hid H D b → ¬ Mu (Hid H D) α3 σ3 b := fun h1 h2 z => z.elim h2 fun ⟨n, _, e, _⟩ => h1 (List.mem_of_getElem? e)
      have hD4 : h4.PlainList D ys.toArray := hD3.at fun o e => ext4 (.inr rfl) o e
      have hn4 := CF.stab _ _ h4 hn3 (fun o e => ext4 (.inl (nMu3 L3.nC (fun z => z.elim F.hC fun z => F.DC z.symm))) o e) (fun o e => ext4 (.inl (nMu3 L3.nB (fun z => z.elim F.hB fun z => F.DB z.symm))) o e)
      have ra4 : RdAll h4 (Mu (Hid H D) α4 σ4) acc ys := RdAll.ext L3.S X4 noO ra3
      have hst4 : St (i + 1) h4 := W.frame _ _ _ hst3 fun b hb o e => by
        by_cases hbI : b = I
        · subst hbI; exact ext4 (.inl (nMu3 L3.nI (fun z => z.elim F.hI fun z => F.DI z.symm))) o e
        · exact ext4 (.inl (L3.fp b hb hbI).2) o e
      have hlen := ra4.length
      refine wpAny_list_append_plain (s := { s2 with heap := h4, toks := tk4 }) hD4 (fun h5 hD5 hs5 => ?_) (by simp only [List.size_toArray]; have := lim_line; omega)
      have hD5' : h5.PlainList D (ys ++ [y]).toArray := by simpa using hD5
      obtain ⟨nD5, eD5⟩ := id hD5
      have L5 := L4.chgD F hs5.extBut ⟨_, eD5⟩
      have hst5 : St (i + 1) h5 := W.frame _ _ _ hst4 fun b hb o e => hs5.extBut b o (fun z => hDfp L4 (z ▸ hb)) e
      refine ⟨xs.length + 1 - (i + 1), by omega, i + 1, acc ++ [DY], ys ++ [y], α4, σ4, h5, tk4, _, rfl, hlt, rfl, hst5, L5, CF.stab _ _ h5 hn4 (fun o e => hs5.extBut _ o (Ne.symm F.DC) e) (fun o e => hs5.extBut _ o (Ne.symm F.DB) e), hD5', ?_, by rw [List.length_append, List.length_singleton]; omega, q4⟩
      exact (ra4.append (.one rd)).chg hs5.extBut (.inl (.inl (.inr rfl)))
  · have hin : i = xs.length := by omega
    subst hin
    refine W.done _ _ _ hst fun h1 tk1 hk1 => ?_
    have kI : Heap.ExtBut I h h1 := fun b o hne e => hk1 b o (by simpa using hne) e
    have L1 := L.chgI F kI hqI
    rw [List.drop_length] at q
    exact fin α σ acc h1 tk1 v0 L1 (CF.stab _ _ h1 hn (fun o e => kI _ o F.CI e) (fun o e => kI _ o F.BI e)) ⟨ys, hD.at fun o e => kI _ o F.DI e, ra.chg kI (.inr hqI)⟩ (by omega) q
end
end Mine
end
section
namespace Mine

theorem SR.unhide {base h : Heap} {H H' : Addr → Prop} {α : List Addr} {σ : Store} (S : SR base H' α σ h) (hm : ∀ a, H a → H' a) : SR base H α σ h where
  len := S.len
  nod := S.nod
  old := S.old
  new := S.new
  ali := S.ali
  lst := fun n a xs e1 e2 => by
    obtain ⟨vs, pl, hl, q⟩ := S.lst n a xs e1 e2
    exact ⟨vs, pl, hl, RdAll.mono (fun _ _ e _ _ => e) (fun a _ _ m => m.imp (hm a) id) _ _ q⟩
  hid := fun a m => S.hid a (hm a m)
  hna := fun a m => S.hna a (hm a m)

section
variable {c : CX}
/-- the loop, once the list and the frame are laid -/
theorem comp_core {env cenv : Env} {ρ : Rho} {H : Addr → Prop} {α α1 : List Addr} {σ σ1 : Store} {s s3 : Shared} {A : Around} {Q : KV} {elt iter : Expr} {x : Str} {px : Pos} {ifs : List Expr} {scope : Scope} {pos : Pos} {ie ic : IE}
    {h2 h₁ : Heap} {tk3 : Nat} {I C B : Addr} {fp : List Addr} {P : Nat → Value → Prop} {St : Nat → Heap → Prop} {xs : List PyData} {R : Result → Shared → Prop} {Fm : Option Value → Heap → Prop}
    (V : EV env c.names ρ H α σ s.heap) (S : SR c.base H α σ s.heap) (hR : Room c.k A) (CF : CFrame c env cenv x scope C B Fm)
    (he : DenE (c.comp x scope) elt ie) (hc : DenIf (c.comp x scope) ifs ic) (S2 : SR c.base H α1 σ1 h2) (X2 : Ext NoO α σ s.heap α1 σ1 h2) (it : IterAt c A s.heap H α1 σ1 h2 I fp P St xs) (hz : xs.length ≤ lim)
    (q : compV (c.X ic).T (c.X ie).E ρ xs [] σ1 Q) (hs3 : s3 = { s with heap := h₁, toks := tk3 })
    (up : ∀ b o, h2.get? b = some o → h₁.get? b = some o) (hacc : h₁.PlainList h2.objs.size #[]) (hC : h2.objs.size < C) (hB : h2.objs.size < B) {v0 : Option Value} (hfm : Fm v0 h₁)
    (fin : ∀ D α' σ' acc h tk m, SR c.base H α' σ' h → Ext NoO α σ s.heap α' σ' h → h.Ns C m → Rd h (Mu H α' σ') (.list acc) (.ref D) → EV env c.names ρ H α' σ' h → s.heap.get? C = none → c.base.get? C = none → C ∉ α' → ¬ H C → D ≠ C →
      Q (.d (.list acc)) σ' → D = h2.objs.size → R (.ok .next) { s with heap := h, toks := tk }) :
    codeAny c.M A (.compStart (.ListComp elt [⟨.Name x px, iter, ifs, 0⟩] scope pos) 0 (.ref I) (.ref h2.objs.size) cenv) R s3 := by
  have fD : h2.get? h2.objs.size = none := size_none _
  have fC : h2.get? C = none := get_none_of_lt (Nat.le_of_lt hC)
  have fB : h2.get? B = none := get_none_of_lt (Nat.le_of_lt hB)
  obtain ⟨oI, eI⟩ := it.ali
  have hIlt := Heap.lt_size eI
  have aH : ∀ a, H a → ∃ o, h2.get? a = some o := S2.hid
  have F : Fresh3 c env s.heap H h2.objs.size C B I := {
    dD := alive_back (base := c.base) (H := H) X2 fD
    dC := alive_back (base := c.base) (H := H) X2 fC
    dI := it.old
    bD := none_back S2.old fD
    bC := none_back S2.old fC
    bI := it.bas
    hD := fun z => by obtain ⟨o, e⟩ := aH _ z; rw [fD] at e; cases e
    hC := fun z => by obtain ⟨o, e⟩ := aH _ z; rw [fC] at e; cases e
    hI := it.nH
    DC := Nat.ne_of_lt hC
    DI := Nat.ne_of_gt hIlt
    CI := Nat.ne_of_gt (Nat.lt_trans hIlt hC)
    dB := alive_back (base := c.base) (H := H) X2 fB
    bB := none_back S2.old fB
    hB := fun z => by obtain ⟨o, e⟩ := aH _ z; rw [fB] at e; cases e
    DB := Nat.ne_of_lt hB
    BI := Nat.ne_of_gt (Nat.lt_trans hIlt hB)
    loc := let ⟨m, o, _, _, e, _⟩ := V.ns; ⟨o, e⟩
    cel := fun x a e => let ⟨_, o, ho, _⟩ := V.cel x a e; ⟨o, ho⟩ }
  have hm : ∀ a o, h2.get? a = some o → Hid H h2.objs.size a → H a := fun a o e z => z.elim id fun z => by rw [z, fD] at e; cases e
  have Vx := V.ext S X2
  have S1 : SR c.base (Hid H h2.objs.size) α1 σ1 h₁ := {
    len := S2.len
    nod := S2.nod
    old := fun b o e => up b o (S2.old b o e)
    new := S2.new
    ali := fun a m => let ⟨o, e⟩ := S2.ali a m; ⟨o, up _ _ e⟩
    lst := fun n a ys e1 e2 => by
      obtain ⟨vs, pl, hl, r⟩ := S2.lst n a ys e1 e2
      exact ⟨vs, pl.at fun o e => up _ _ e, hl, RdAll.mono (fun a o e _ _ => up a o e) (fun a o e m => m.imp (hm a o e) id) _ _ r⟩
    hid := fun a z => z.elim (fun z => let ⟨o, e⟩ := aH a z; ⟨o, up _ _ e⟩) fun z => by rw [z]; obtain ⟨n, e⟩ := hacc; exact ⟨_, e⟩
    hna := fun a z => z.elim (S2.hna a) fun z m => by obtain ⟨o, e⟩ := S2.ali a m; rw [z, fD] at e; cases e }
  have L : LI c env ρ s.heap H α σ h2.objs.size C B I fp P xs α1 σ1 h₁ := {
    S := S1
    X := X2.trans (.grow up)
    V := Vx.hide up hm
    nI := it.nal
    nC := fun m => by obtain ⟨o, e⟩ := S2.ali _ m; rw [fC] at e; cases e
    nB := fun m => by obtain ⟨o, e⟩ := S2.ali _ m; rw [fB] at e; cases e
    fp := fun b hb hne => by
      obtain ⟨⟨o, e, sq⟩, m⟩ := it.fp b hb hne
      exact ⟨⟨o, up _ _ e, sq⟩, fun z => m (z.imp (hm b o e) id)⟩
    val := fun j v p => let ⟨x, e, r⟩ := it.val j v p; ⟨x, e, Rd.mono (fun a o e _ _ => up a o e) (fun a o e m => m.imp (hm a o e) id) _ _ r⟩ }
  have hst1 : St 0 h₁ := it.w.frame _ _ _ it.st fun b _ o e => up b o e
  have loop : codeAny c.M A (.compLoop (.ListComp elt [⟨.Name x px, iter, ifs, 0⟩] scope pos) 0 (.ref I) (.ref h2.objs.size) cenv) R s3 := by
    subst hs3
    refine comp_loop (c := c) (s2 := { s with heap := h₁, toks := tk3 }) (Q := Q) hR CF he hc it.w (fun i h' st => it.nsq i h' st) F hz ?_ L hst1 hfm hacc q
    intro α' σ' acc h tk v L' hn ⟨ys, hpl, ra⟩ hal hq
    obtain ⟨m, hnm⟩ := CF.ns _ _ hn
    refine fin h2.objs.size α' σ' acc h tk m (L'.S.unhide fun a z => .inl z) L'.X hnm ?_ (L'.V.hide (fun _ _ e => e) fun a _ _ z => .inl z) F.dC F.bC L'.nC F.hC F.DC hq rfl
    have hnD : ¬ Mu H α' σ' h2.objs.size := fun z => z.elim F.hD fun ⟨n, _, e, _⟩ => L'.S.hna _ (.inr rfl) (List.mem_of_getElem? e)
    exact .ofList hnD hpl.isList hal (RdAll.mono (fun _ _ e _ _ => e) (fun a _ _ m => m.imp .inl id) _ _ ra)
  exact codeAny_compStart_list loop (it.w.self 0 _ _ _ (hs3 ▸ hst1) loop)

theorem comp_free {env : Env} {ρ : Rho} {H : Addr → Prop} {α : List Addr} {σ : Store} {h : Heap} {scope : Scope} (hk : env.scope.names = c.kinds) (V : EV env c.names ρ H α σ h) (K : ∀ y ∈ scope.names, y.2 = .free → c.kinds.lookup y.1 = some .cell ∨ c.kinds.lookup y.1 = some .free) :
    ∃ cl, closureFor scope env = pure cl ∧ (∀ y a, cl.lookup y = some a → env.cells.lookup y = some a) ∧ (∀ y ∈ scope.names, y.2 = .free → ∃ a, cl.lookup y.1 = some a) :=
  closureFor_is fun y hy hf => by
    rcases K y hy hf with q | q
    · exact V.has y.1 _ ((Env.kindOf_of hk _).trans q) (.inl rfl)
    · exact V.has y.1 _ ((Env.kindOf_of hk _).trans q) (.inr rfl)

/-- the frame of a comprehension whose name is a plain local -/
theorem frame_local {env : Env} {x : Str} {scope : Scope} {cl : List (Str × Addr)} {C : Addr} (hk : env.scope.names = c.kinds) (hkf : env.scope.kind = .function) (K : CompOK c x scope) (hcl : ∀ y a, cl.lookup y = some a → env.cells.lookup y = some a) (hcl' : ∀ y ∈ scope.names, y.2 = .free → ∃ a, cl.lookup y.1 = some a) :
    CFrame c env (compEnvC scope cl C env) x scope C C (fun v h => ∃ m, h.Ns C m ∧ ∀ u, v = some u → m x = some u) where
  names := relabel_names hkf hk
  stab := fun v h h' ⟨m, n, e⟩ k _ => ⟨m, n.at' k, e⟩
  store := fun A v0 v s Q E ⟨m, n, _⟩ h => by
    refine wpAny_storeName_local (lookup_relabel_local K.var) n (fun h' hn' hs => h h' _ ⟨_, hn', fun u e => by cases e; simp⟩ hs.extBut) ?_
    simp [compEnvC, relabel, K.kind]
  ev := fun ρ H α σ h X v V ⟨m, n, e⟩ r => EV.comp hk V K hcl hcl' n (e v rfl) r
  ns := fun v h ⟨m, n, _⟩ => ⟨m, n⟩
  ali := fun v h ⟨m, ⟨o, es, ep, ho, hd, _⟩, _⟩ => ⟨o, ho, notSeq_dict hd⟩

/-! a comprehension whose name is a cell -/
structure CompOKC (c : CX) (x : Str) (scope : Scope) : Prop where
  cell : scope.names.filter (fun y => y.2 == .cell) = [(x, .cell)]
  kind : scope.kind = .function
  nam : ∀ y ∈ scope.names, y.2 = .local → scope.names.lookup y.1 = some .local
  var : scope.names.lookup x = some .cell
  loc : ∀ y ∈ scope.names, y.2 = .local → ix c.names y.1 = none ∧ y.1 ≠ x
  free : ∀ y ∈ scope.names, y.2 = .free → c.kinds.lookup y.1 = some .cell ∨ c.kinds.lookup y.1 = some .free
theorem CompOKC.only {x : Str} {scope : Scope} (K : CompOKC c x scope) {y : Str} (h : (y, NameKind.cell) ∈ scope.names) : y = x := by
  have : (y, NameKind.cell) ∈ scope.names.filter (fun y => y.2 == .cell) := List.mem_filter.mpr ⟨h, rfl⟩
  rw [K.cell] at this
  simpa using this
theorem lookup_relK_cell {kinds : List (Str × NameKind)} : ∀ {names : List (Str × NameKind)} {y : Str}, names.lookup y = some .cell → (relK kinds names).lookup y = some .cell
  | [], _, h => by simp at h
  | (n, k') :: r, y, h => by
    have ih := @lookup_relK_cell kinds r y
    simp only [relK, List.map_cons] at ih ⊢
    rw [List.lookup_cons] at h
    cases hb : y == n with
    | true =>
      rw [hb] at h; cases h
      rw [if_neg (by simp), List.lookup_cons, hb]
    | false =>
      rw [hb] at h
      split
      · rw [List.lookup_cons, hb]; exact ih h
      · rw [List.lookup_cons, hb]; exact ih h
noncomputable def cenvC (scope : Scope) (cl : List (Str × Addr)) (C B : Addr) (x : Str) (env : Env) : Env := { compEnvC scope cl C env with cells := (x, B) :: cl }
theorem EV.compC {env : Env} {ρ : Rho} {H : Addr → Prop} {α : List Addr} {σ : Store} {h : Heap} {x : Str} {scope : Scope} {cl : List (Str × Addr)} {C B : Addr} {m : Str → Option Value} {X : PyData} {v : Value} (hk : env.scope.names = c.kinds) (V : EV env c.names ρ H α σ h) (K : CompOKC c x scope)
    (hcl : ∀ y a, cl.lookup y = some a → env.cells.lookup y = some a) (hcl' : ∀ y ∈ scope.names, y.2 = .free → ∃ a, cl.lookup y.1 = some a) (hB : ∀ y a, env.cells.lookup y = some a → a ≠ B) (hn : h.Ns C m) (hm : h.IsCell B (some v)) (r : Rd h (Mu H α σ) X v) :
    EV (cenvC scope cl C B x env) (c.comp x scope).names (some (.d X) :: ρ) H α σ h := by
  have hko : ∀ y, Env.kindOf (cenvC scope cl C B x env) y = (relK c.kinds scope.names).lookup y := fun y => by
    show (relabel scope env).names.lookup y = _
    rw [relabel_names V.kind hk]
  have hlk : ∀ {y a}, y ≠ x → cl.lookup y = some a → List.lookup y ((x, B) :: cl) = some a := fun {y a} hne e => by
    rw [List.lookup_cons]
    have : (y == x) = false := by simpa using hne
    rw [this]; exact e
  have hlk' : ∀ {y a}, List.lookup y ((x, B) :: cl) = some a → (y = x ∧ a = B) ∨ (y ≠ x ∧ cl.lookup y = some a) := fun {y a} e => by
    rw [List.lookup_cons] at e
    cases hb : y == x with
    | true => rw [hb] at e; cases e; exact .inl ⟨eq_of_beq hb, rfl⟩
    | false => rw [hb] at e; exact .inr ⟨by simpa using hb, e⟩
  refine ⟨K.kind, V.glob, V.bui, fun y i W e1 e2 => ?_, ⟨m, hn⟩, fun y a e => ?_, fun y z a e1 e2 => ?_, fun y kd e1 e2 => ?_⟩
  · unfold Look
    rw [hko]
    rcases ix_cons e1 with ⟨rfl, rfl⟩ | ⟨hne, j, rfl, e3⟩
    · rw [lookup_relK_cell K.var]
      have : W = .d X := by simpa [getR] using e2.symm
      subst this
      exact ⟨B, v, by show List.lookup y ((y, B) :: cl) = _; rw [List.lookup_cons, beq_self_eq_true], hm, r⟩
    · have e2' : getR ρ j = some W := by simpa [getR] using e2
      have L := V.vars y j W e3 e2'
      cases hq : (relK c.kinds scope.names).lookup y with
      | none => trivial
      | some k =>
        have cellcase : (scope.names.lookup y = some .free) → ∃ cc v, List.lookup y ((x, B) :: cl) = some cc ∧ h.IsCell cc (some v) ∧ Rp H α σ h W v := fun hf => by
          obtain ⟨cc, ec⟩ := hcl' (y, .free) (mem_of_lk hf) rfl
          unfold Look at L
          rw [Env.kindOf_of hk] at L
          rcases K.free (y, .free) (mem_of_lk hf) rfl with q | q
          · simp only [q] at L
            obtain ⟨c', v, a, b, d⟩ := L
            have := hcl y cc ec
            rw [a] at this; cases this
            exact ⟨_, v, hlk hne ec, b, d⟩
          · simp only [q] at L
            obtain ⟨c', v, a, b, d⟩ := L
            have := hcl y cc ec
            rw [a] at this; cases this
            exact ⟨_, v, hlk hne ec, b, d⟩
        rcases lookup_relK hq with ⟨hs, _⟩ | ⟨rfl, hs, _⟩
        · cases k with
          | «local» => have := (K.loc (y, .local) (mem_of_lk hs) rfl).1; simp only at this; rw [this] at e3; cases e3
          | cell => exact absurd (K.only (mem_of_lk hs)) hne
          | free => exact cellcase hs
          | _ => trivial
        · exact cellcase hs
  · rcases hlk' e with ⟨rfl, rfl⟩ | ⟨_, e⟩
    · exact ⟨_, hm⟩
    · exact V.cel y a (hcl y a e)
  · rcases hlk' e1 with ⟨f1, f1'⟩ | ⟨_, f1⟩
    · rcases hlk' e2 with ⟨f2, _⟩ | ⟨_, f2⟩
      · rw [f1, f2]
      · exact absurd f1' (hB z _ (hcl z _ f2))
    · rcases hlk' e2 with ⟨f2, f2'⟩ | ⟨_, f2⟩
      · exact absurd f2' (hB y _ (hcl y _ f1))
      · exact V.inj y z a (hcl y a f1) (hcl z a f2)
  · rw [hko] at e1
    show ∃ a, List.lookup y ((x, B) :: cl) = some a
    by_cases hyx : y = x
    · subst hyx; exact ⟨B, by rw [List.lookup_cons, beq_self_eq_true]⟩
    · rcases lookup_relK e1 with ⟨hs, _⟩ | ⟨rfl, hs, _⟩
      · rcases e2 with rfl | rfl
        · exact absurd (K.only (mem_of_lk hs)) hyx
        · obtain ⟨a, ea⟩ := hcl' (y, .free) (mem_of_lk hs) rfl
          exact ⟨a, hlk hyx ea⟩
      · obtain ⟨a, ea⟩ := hcl' (y, .free) (mem_of_lk hs) rfl
        exact ⟨a, hlk hyx ea⟩
theorem frame_cell {env : Env} {x : Str} {scope : Scope} {cl : List (Str × Addr)} {C B : Addr} (hk : env.scope.names = c.kinds) (hkf : env.scope.kind = .function) (K : CompOKC c x scope) (hcl : ∀ y a, cl.lookup y = some a → env.cells.lookup y = some a) (hcl' : ∀ y ∈ scope.names, y.2 = .free → ∃ a, cl.lookup y.1 = some a) (hB : ∀ y a, env.cells.lookup y = some a → a ≠ B) (hCB : C ≠ B) :
    CFrame c env (cenvC scope cl C B x env) x scope C B (fun v h => (∃ m, h.Ns C m) ∧ h.IsCell B v) where
  names := relabel_names hkf hk
  stab := fun v h h' ⟨⟨m, n⟩, o, ho, hd⟩ k k' => ⟨⟨m, n.at' k⟩, o, k' o ho, hd⟩
  store := fun A v0 v s Q E ⟨⟨m, n⟩, hc⟩ h => by
    have hkx : (cenvC scope cl C B x env).kindOf x = some .cell := by
      show (relabel scope env).names.lookup x = _
      rw [relabel_names hkf hk]; exact lookup_relK_cell K.var
    refine wpAny_storeName_cell K.kind hkx (c := B) (by show List.lookup x ((x, B) :: cl) = _; rw [List.lookup_cons, beq_self_eq_true]) hc fun h' hv' hs => ?_
    exact h h' s.toks ⟨⟨m, n.at' fun o e => hs.extBut _ o hCB e⟩, hv'⟩ hs.extBut
  ev := fun ρ H α σ h X v V ⟨⟨m, n⟩, hc⟩ r => EV.compC hk V K hcl hcl' hB n hc r
  ns := fun v h ⟨n, _⟩ => n
  ali := fun v h ⟨_, o, ho, hd⟩ => ⟨o, ho, notSeq_cell hd⟩

theorem no_cells : ∀ {names : List (Str × NameKind)} {k : Nat} {acc : List (Str × Addr)}, names.filter (fun y => y.2 == .cell) = [] → cellsFrom k names acc = acc
  | [], _, _, _ => rfl
  | (n, kd) :: r, k, acc, h => by
    rw [List.filter_cons] at h
    unfold cellsFrom
    split at h
    · cases h
    · rename_i hn
      rw [if_neg (by simpa using hn)]
      exact no_cells h
theorem no_cells_h : ∀ {names : List (Str × NameKind)} {h : Heap}, names.filter (fun y => y.2 == .cell) = [] → pushCells h names = h
  | [], _, _ => rfl
  | (n, kd) :: r, h, hf => by
    rw [List.filter_cons] at hf
    unfold pushCells
    split at hf
    · cases hf
    · rename_i hn
      rw [if_neg (by simpa using hn)]
      exact no_cells_h hf
theorem one_cell {x : Str} : ∀ {names : List (Str × NameKind)} {k : Nat} {acc : List (Str × Addr)} {h : Heap}, names.filter (fun y => y.2 == .cell) = [(x, .cell)] → cellsFrom k names acc = (x, k) :: acc ∧ pushCells h names = h.push { cls := .type "cell", data := .cell none }
  | [], _, _, _, hf => by simp at hf
  | (n, kd) :: r, k, acc, h, hf => by
    rw [List.filter_cons] at hf
    unfold cellsFrom pushCells
    split at hf
    · rename_i hn
      have e1 : n = x := by injection hf with a _; injection a
      have e2 : r.filter (fun y => y.2 == .cell) = [] := by injection hf
      rw [if_pos (by simpa using hn), if_pos (by simpa using hn), e1]
      exact ⟨no_cells e2, no_cells_h e2⟩
    · rename_i hn
      rw [if_neg (by simpa using hn), if_neg (by simpa using hn)]
      exact one_cell hf

theorem newEnv_cell {M : Model} {A : Around} {E : Value → Shared → Prop} {s : Shared} {scope : Scope} {x : Str} {globals : Addr} {closure : List (Str × Addr)} {qual : Str} {outer : Env} {Q : Env → Shared → Prop} (hf : scope.names.filter (fun y => y.2 == .cell) = [(x, .cell)])
    (hQ : Q { scope, locals := s.heap.objs.size, globals, cells := (x, s.heap.objs.size + 1) :: closure, qual, func := none, code := outer.code, frame := outer.frame, builtins := outer.builtins }
      { s with heap := (s.heap.push { cls := .type "dict", data := .dict #[] }).push { cls := .type "cell", data := .cell none } }) :
    wpAny M A (newFunctionEnv scope globals closure [] qual none .none (some outer)) Q E s := by
  simp only [newFunctionEnv, Option.isSome_some, if_true]
  refine wpAny_bind (wpAny_alloc ?_)
  refine wpAny_bind (wpAny_layCells _ (fun name kind cells => rfl) scope.names closure _ _ ?_)
  have e := one_cell (h := s.heap.push { cls := .type "dict", data := .dict #[] }) (k := (s.heap.push { cls := .type "dict", data := .dict #[] }).objs.size) (acc := closure) hf
  rw [e.1, e.2]
  refine wpAny_bind ?_
  rw [List.forIn_nil]
  refine wpAny_pure (wpAny_pure ?_)
  rw [show (s.heap.push { cls := .type "dict", data := .dict #[] }).objs.size = s.heap.objs.size + 1 from Heap.size_push ..]
  exact hQ

/-- either sort of comprehension: what its laying and its loop give -/
noncomputable def CompEither (c : CX) (x : Str) (scope : Scope) : Prop := CompOK c x scope ∨ CompOKC c x scope
theorem CompEither.kind {x : Str} {scope : Scope} (K : CompEither c x scope) : scope.kind = .function := K.elim (·.kind) (·.kind)
theorem CompEither.nam {x : Str} {scope : Scope} (K : CompEither c x scope) : ∀ y ∈ scope.names, y.2 = .local → scope.names.lookup y.1 = some .local := K.elim (·.nam) (·.nam)
theorem CompEither.free {x : Str} {scope : Scope} (K : CompEither c x scope) : ∀ y ∈ scope.names, y.2 = .free → c.kinds.lookup y.1 = some .cell ∨ c.kinds.lookup y.1 = some .free := K.elim (·.free) (·.free)

theorem comp_block {env : Env} {ρ : Rho} {H : Addr → Prop} {α α1 : List Addr} {σ σ1 : Store} {s s2 : Shared} {A : Around} {Q : KV} {E : Value → Shared → Prop} {elt iter : Expr} {x : Str} {px : Pos} {ifs : List Expr} {scope : Scope} {cl : List (Str × Addr)} {pos : Pos} {ie ic : IE}
    {h2 : Heap} {tk2 : Nat} {I : Addr} {fp : List Addr} {P : Nat → Value → Prop} {St : Nat → Heap → Prop} {xs : List PyData} {RR : Value → Addr → Result → Shared → Prop}
    (hk : env.scope.names = c.kinds) (V : EV env c.names ρ H α σ s.heap) (S : SR c.base H α σ s.heap) (hR : Room c.k A) (K : CompEither c x scope) (hcl : ∀ y a, cl.lookup y = some a → env.cells.lookup y = some a) (hcl' : ∀ y ∈ scope.names, y.2 = .free → ∃ a, cl.lookup y.1 = some a)
    (he : DenE (c.comp x scope) elt ie) (hc : DenIf (c.comp x scope) ifs ic) (hs2 : s2 = { s with heap := h2, toks := tk2 }) (S2 : SR c.base H α1 σ1 h2) (X2 : Ext NoO α σ s.heap α1 σ1 h2) (it : IterAt c A s.heap H α1 σ1 h2 I fp P St xs) (hz : xs.length ≤ lim)
    (q : compV (c.X ic).T (c.X ie).E ρ xs [] σ1 Q)
    (fin : ∀ D C α' σ' acc h tk m, SR c.base H α' σ' h → Ext NoO α σ s.heap α' σ' h → h.Ns C m → Rd h (Mu H α' σ') (.list acc) (.ref D) → EV env c.names ρ H α' σ' h → s.heap.get? C = none → c.base.get? C = none → C ∉ α' → ¬ H C → D ≠ C →
      Q (.d (.list acc)) σ' → RR (.ref D) C (.ok .next) { s with heap := h, toks := tk }) :
    wpAny c.M A (newList []) (fun acc s₃ => wpAny c.M A (newFunctionEnv scope env.globals cl [] env.qual none .none (some env)) (fun cenv s₄ =>
      codeAny c.M A (.compStart (.ListComp elt [⟨.Name x px, iter, ifs, 0⟩] scope pos) 0 (.ref I) acc { cenv with scope := relabel scope env }) (RR acc cenv.locals) s₄) E s₃) E s2 := by
  subst hs2
  rcases K with K | K
  · refine wpAny_newObj_type (wpAny_newFunctionEnv K.cell (by intro y hy; simp at hy) (fun h₁ hns₁ hsb₁ => ?_) K.kind)
    dsimp only at hns₁ hsb₁ ⊢
    generalize hH3 : h2.push { cls := .type "list", dict := none, data := .seq ([] : List Value).toArray } = h3 at hns₁ hsb₁ ⊢
    have hC : h3.objs.size = h2.objs.size + 1 := by rw [← hH3, Heap.size_push]
    have hDC : h2.objs.size ≠ h3.objs.size := by rw [hC]; exact Nat.ne_of_lt (Nat.lt_succ_self _)
    have hlt : h2.objs.size < h3.objs.size := by rw [hC]; exact Nat.lt_succ_self _
    have up : ∀ b o, h2.get? b = some o → h₁.get? b = some o := fun b o e => hsb₁.extBut b o (by rw [hC]; exact Nat.ne_of_lt (Nat.lt_succ_of_lt (Heap.lt_size e))) (Heap.get?_push_of_some _ (hH3 ▸ Heap.get?_push_of_some _ e))
    have hacc : h₁.PlainList h2.objs.size #[] := ⟨_, hsb₁.extBut _ _ hDC (Heap.get?_push_of_some _ (hH3 ▸ Heap.get?_push_size _ rfl))⟩
    refine comp_core (v0 := none) V S hR (frame_local (C := h3.objs.size) hk V.kind K hcl hcl') he hc S2 X2 it hz q rfl up hacc hlt hlt ⟨_, hns₁, fun u e => by cases e⟩ ?_
    intro D α' σ' acc h tk m S' X' hn rd V' dC bC nC hC hDC hq hD
    subst hD
    exact fin _ _ α' σ' acc h tk m S' X' hn rd V' dC bC nC hC hDC hq
  · refine wpAny_newObj_type (newEnv_cell K.cell ?_)
    dsimp only
    generalize hH3 : h2.push { cls := .type "list", dict := none, data := .seq ([] : List Value).toArray } = h3
    have hC : h3.objs.size = h2.objs.size + 1 := by rw [← hH3, Heap.size_push]
    have up3 : ∀ b o, h3.get? b = some o → ((h3.push { cls := .type "dict", data := .dict #[] }).push { cls := .type "cell", data := .cell none }).get? b = some o := fun b o e => Heap.get?_push_of_some _ (Heap.get?_push_of_some _ e)
    have up : ∀ b o, h2.get? b = some o → ((h3.push { cls := .type "dict", data := .dict #[] }).push { cls := .type "cell", data := .cell none }).get? b = some o := fun b o e => up3 b o (hH3 ▸ Heap.get?_push_of_some _ e)
    have hacc : ((h3.push { cls := .type "dict", data := .dict #[] }).push { cls := .type "cell", data := .cell none }).PlainList h2.objs.size #[] := ⟨_, up3 _ _ (hH3 ▸ Heap.get?_push_size _ rfl)⟩
    have hlt : h2.objs.size < h3.objs.size := by rw [hC]; exact Nat.lt_succ_self _
    have hlt2 : h2.objs.size < h3.objs.size + 1 := Nat.lt_succ_of_lt hlt
    have hsz : (h3.push { cls := .type "dict", data := .dict #[] }).objs.size = h3.objs.size + 1 := Heap.size_push ..
    have hBne : ∀ y a, env.cells.lookup y = some a → a ≠ h3.objs.size + 1 := fun y a e z => by
      obtain ⟨_, o, ho, _⟩ := (V.ext S X2).cel y a e
      have := Heap.lt_size ho
      rw [z] at this
      exact absurd (Nat.lt_trans this hlt2) (Nat.lt_irrefl _)
    refine comp_core (v0 := none) V S hR (frame_cell (C := h3.objs.size) (B := h3.objs.size + 1) hk V.kind K hcl hcl' hBne (Nat.ne_of_lt (Nat.lt_succ_self _))) he hc S2 X2 it hz q rfl up hacc hlt hlt2 ⟨⟨_, (Heap.Ns.new h3 _).push _⟩, ?_⟩ ?_
    · exact ⟨_, hsz ▸ Heap.get?_push_size _ rfl, rfl⟩
    · intro D α' σ' acc h tk m S' X' hn rd V' dC bC nC hC hDC hq hD
      subst hD
      exact fin _ _ α' σ' acc h tk m S' X' hn rd V' dC bC nC hC hDC hq

theorem compI {is ie ic : IE} {ρ : Rho} {σ : Store} {Q : KV} (q : (c.X (.comp ie is ic)).E ρ σ Q) : (c.X is).I ρ σ fun xs σ1 => xs.length ≤ lim ∧ compV (c.X ic).T (c.X ie).E ρ xs [] σ1 Q := q

theorem DenE.comp {elt iter : Expr} {x : Str} {px : Pos} {ifs : List Expr} {scope : Scope} {pos : Pos} {is ie ic : IE} (K : CompEither c x scope) (hi : DenI c iter is) (he : DenE (c.comp x scope) elt ie) (hc : DenIf (c.comp x scope) ifs ic)
    (hs : ∀ env x, foldedSetIterable iter env x = pure x) : DenE c (.ListComp elt [⟨.Name x px, iter, ifs, 0⟩] scope pos) (.comp ie is ic) := by
  intro env ρ H α σ s A Q hk V S hR q
  obtain ⟨cl, e1, hcl, hcl'⟩ := comp_free hk V K.free
  rw [eval_ListComp]
  refine wpAny_comprehension_free (use := none) rfl (hs env) e1 K.kind K.nam (wpAny_mono (hi env ρ H α σ s A _ hk V S hR (compI q)) (fun xv s₁ h₁ => wpAny_mono h₁ (fun it s₂ h₂ => ?_) fun _ _ e => e) fun _ _ e => e)
  obtain ⟨α1, σ1, xs, h2, tk2, I, fp, P, St, rfl, S2, X2, rfl, itr, _, hz, q2⟩ := h₂
  refine comp_block (RR := fun acc C => compPost c.M A Fls none (PostE c.base H α σ s Q) acc C) hk V S hR K hcl hcl' he hc rfl S2 X2 itr hz q2 ?_
  intro D C α' σ' acc h tk m S' X' hn rd V' dC bC nC hC hDC hq
  have hqC : ∀ o, h.get? C = some o → ¬ isSeq o := fun o e => by obtain ⟨o', es, ep, ho, hd, _⟩ := hn; rw [e] at ho; cases ho; exact notSeq_dict hd
  exact ⟨m, hn, fun h' hsb => ⟨α', σ', .d (.list acc), h', tk, rfl, S'.butD hsb.extBut bC hqC nC hC, X'.butD hsb.extBut dC, rd.butD hsb.extBut hqC, hq⟩⟩
end
end Mine
end
section
namespace Mine

noncomputable def Own (env : Env) (a : Addr) : Prop := a = env.locals ∨ ∃ x, env.cells.lookup x = some a
structure FrNew (base : Heap) (env : Env) : Prop where
  l : base.get? env.locals = none
  c : ∀ x a, env.cells.lookup x = some a → base.get? a = none

theorem ns_uniq {h : Heap} {a : Addr} {m m' : Str → Option Value} (n : h.Ns a m) (n' : h.Ns a m') : m = m' := by
  obtain ⟨o, es, ep, ho, hd, _, hm⟩ := n
  obtain ⟨o', es', ep', ho', hd', _, hm'⟩ := n'
  rw [ho] at ho'; cases ho'
  rw [hd] at hd'; cases hd'
  funext x
  rw [← hm, ← hm']
theorem ix_inj : ∀ {names : List Str} {x y : Str} {i : Nat}, ix names x = some i → ix names y = some i → x = y
  | [], _, _, _, h, _ => by simp [ix] at h
  | z :: r, x, y, i, h1, h2 => by
    rcases ix_cons h1 with ⟨rfl, rfl⟩ | ⟨_, j, rfl, e1⟩
    · rcases ix_cons h2 with ⟨rfl, _⟩ | ⟨_, j, e, _⟩
      · rfl
      · cases e
    · rcases ix_cons h2 with ⟨_, e⟩ | ⟨_, j', e, e2⟩
      · cases e
      · cases e; exact ix_inj e1 e2
theorem getR_set {ρ : Rho} {i j : Nat} {W W' : V} (e : getR (setR ρ i W) j = some W') : (i = j ∧ W' = W) ∨ (i ≠ j ∧ getR ρ j = some W') := by
  unfold getR setR at e
  by_cases q : i = j
  · subst q
    rw [List.getElem?_set] at e
    simp only [if_true] at e
    by_cases hl : i < ρ.length
    · rw [if_pos hl] at e; simp only [Option.some.injEq] at e; exact .inl ⟨rfl, e.symm⟩
    · rw [if_neg hl] at e; cases e
  · rw [List.getElem?_set_ne q] at e
    exact .inr ⟨q, e⟩

section
variable {c : CX} {env : Env} {names : List Str} {ρ : Rho} {H : Addr → Prop} {α : List Addr} {σ : Store} {h h' : Heap}
theorem EV.ownNS (V : EV env names ρ H α σ h) : ∀ a o, Own env a → h.get? a = some o → ¬ isSeq o := by
  rintro a o (rfl | ⟨x, e⟩) ho
  · obtain ⟨m, o', _, _, ho', hd, _⟩ := V.ns; rw [ho] at ho'; cases ho'; exact notSeq_dict hd
  · obtain ⟨v, o', ho', hd⟩ := V.cel x a e; rw [ho] at ho'; cases ho'; exact notSeq_cell hd
theorem EV.locNC (V : EV env names ρ H α σ h) {x : Str} {a : Addr} (e : env.cells.lookup x = some a) : env.locals ≠ a := fun z => by
  obtain ⟨m, o', _, _, ho', hd, _⟩ := V.ns
  obtain ⟨v, o, ho, hd'⟩ := V.cel x a e
  rw [z, ho] at ho'; cases ho'; rw [hd'] at hd; cases hd

theorem EV.setLocal (V : EV env names ρ H α σ h) {x : Str} {i : Nat} {W : Mine.V} {v : Value} {m : Str → Option Value} (hx : env.kindOf x = some .local) (hi : ix names x = some i) (hn : h.Ns env.locals m) (hn' : h'.Ns env.locals (fun y => if y = x then some v else m y)) (hs : Heap.SameBut env.locals h h')
    (rp : Rp H α σ h' W v) : EV env names (setR ρ i W) H α σ h' where
  kind := V.kind
  glob := V.glob
  bui := V.bui
  vars := fun y j W' e1 e2 => by
    have hq : ∀ o, h.get? env.locals = some o → ¬ isSeq o := fun o e => V.ownNS _ o (.inl rfl) e
    rcases getR_set e2 with ⟨rfl, rfl⟩ | ⟨hne, e2⟩
    · have := ix_inj hi e1; subst this
      unfold Look; rw [hx]
      exact ⟨_, v, hn', by simp, rp⟩
    · have hxy : y ≠ x := fun z => by subst z; rw [hi] at e1; cases e1; exact hne rfl
      have L := V.vars y j W' e1 e2
      unfold Look at L ⊢
      split
      · rename_i hk; simp only [hk] at L
        obtain ⟨m', v', a, b, d⟩ := L
        have := ns_uniq a hn; subst this
        exact ⟨_, v', hn', by simp [hxy, b], d.chg hs.extBut (.inr hq)⟩
      · rename_i hk; simp only [hk] at L
        obtain ⟨c', v', a, ⟨o, ho, hd⟩, d⟩ := L
        exact ⟨c', v', a, ⟨o, hs.extBut _ o (Ne.symm (V.locNC a)) ho, hd⟩, d.chg hs.extBut (.inr hq)⟩
      · rename_i hk; simp only [hk] at L
        obtain ⟨c', v', a, ⟨o, ho, hd⟩, d⟩ := L
        exact ⟨c', v', a, ⟨o, hs.extBut _ o (Ne.symm (V.locNC a)) ho, hd⟩, d.chg hs.extBut (.inr hq)⟩
      · trivial
  ns := ⟨_, hn'⟩
  cel := fun y a e => let ⟨v, o, ho, hd⟩ := V.cel y a e; ⟨v, o, hs.extBut _ o (Ne.symm (V.locNC e)) ho, hd⟩
  inj := V.inj
  has := V.has
theorem EV.setCell (V : EV env names ρ H α σ h) {x : Str} {i : Nat} {W : Mine.V} {v : Value} {a : Addr} (hx : env.kindOf x = some .cell) (hi : ix names x = some i) (ea : env.cells.lookup x = some a) (hv : h'.IsCell a (some v)) (hs : Heap.SameBut a h h')
    (rp : Rp H α σ h' W v) : EV env names (setR ρ i W) H α σ h' where
  kind := V.kind
  glob := V.glob
  bui := V.bui
  vars := fun y j W' e1 e2 => by
    have hq : ∀ o, h.get? a = some o → ¬ isSeq o := fun o e => V.ownNS _ o (.inr ⟨x, ea⟩) e
    rcases getR_set e2 with ⟨rfl, rfl⟩ | ⟨hne, e2⟩
    · have := ix_inj hi e1; subst this
      unfold Look; rw [hx]
      exact ⟨_, v, ea, hv, rp⟩
    · have hxy : y ≠ x := fun z => by subst z; rw [hi] at e1; cases e1; exact hne rfl
      have L := V.vars y j W' e1 e2
      unfold Look at L ⊢
      have hne : ∀ {b}, env.cells.lookup y = some b → b ≠ a := fun {b} e z => hxy (V.inj y x a (z ▸ e) ea)
      split
      · rename_i hk; simp only [hk] at L
        obtain ⟨m', v', n, b, d⟩ := L
        exact ⟨_, v', n.at' fun o e => hs.extBut _ o (V.locNC ea) e, b, d.chg hs.extBut (.inr hq)⟩
      · rename_i hk; simp only [hk] at L
        obtain ⟨c', v', e, ⟨o, ho, hd⟩, d⟩ := L
        exact ⟨c', v', e, ⟨o, hs.extBut _ o (hne e) ho, hd⟩, d.chg hs.extBut (.inr hq)⟩
      · rename_i hk; simp only [hk] at L
        obtain ⟨c', v', e, ⟨o, ho, hd⟩, d⟩ := L
        exact ⟨c', v', e, ⟨o, hs.extBut _ o (hne e) ho, hd⟩, d.chg hs.extBut (.inr hq)⟩
      · trivial
  ns := let ⟨m, n⟩ := V.ns; ⟨m, n.at' fun o e => hs.extBut _ o (V.locNC ea) e⟩
  cel := fun y b e => by
    by_cases z : b = a
    · subst z; exact ⟨_, hv⟩
    · obtain ⟨v, o, ho, hd⟩ := V.cel y b e; exact ⟨v, o, hs.extBut _ o z ho, hd⟩
  inj := V.inj
  has := V.has

theorem store_rule {s : Shared} {A : Around} {E : Value → Shared → Prop} {x : Str} {i : Nat} {kd : NameKind} {W : Mine.V} {v : Value} {Q : Unit → Shared → Prop} (hk : env.scope.names = c.kinds) (hx : c.kinds.lookup x = some kd) (hkd : kd = .local ∨ kd = .cell) (hi : ix c.names x = some i)
    (V : EV env c.names ρ H α σ s.heap) (S : SR c.base H α σ s.heap) (N : FrNew c.base env) (rp : Rp H α σ s.heap W v)
    (K : ∀ h' tk, SR c.base H α σ h' → Ext (Own env) α σ s.heap α σ h' → EV env c.names (setR ρ i W) H α σ h' → Q () { s with heap := h', toks := tk }) : wpAny c.M A (storeName env x v) Q E s := by
  have hxk := (Env.kindOf_of hk x).trans hx
  rcases hkd with rfl | rfl
  · obtain ⟨m, hn⟩ := V.ns
    have hq : ∀ o, s.heap.get? env.locals = some o → ¬ isSeq o := fun o e => V.ownNS _ o (.inl rfl) e
    refine wpAny_storeName_local hxk hn (fun h' hn' hs => ?_) (by simp [V.kind])
    have hal : ∃ o, h'.get? env.locals = some o := let ⟨o, _, _, e, _⟩ := hn'; ⟨o, e⟩
    exact K h' _ (S.but hs N.l hq hal) (.but hs (.inl rfl) hal) (V.setLocal hxk hi hn hn' hs (rp.chg hs.extBut (.inr hq)))
  · obtain ⟨a, ea⟩ := V.has x _ hxk (.inl rfl)
    obtain ⟨v₀, hv₀⟩ := V.cel x a ea
    have hq : ∀ o, s.heap.get? a = some o → ¬ isSeq o := fun o e => V.ownNS _ o (.inr ⟨x, ea⟩) e
    refine wpAny_storeName_cell V.kind hxk ea hv₀ (fun h' hv' hs => ?_)
    have hal : ∃ o, h'.get? a = some o := let ⟨o, e, _⟩ := hv'; ⟨o, e⟩
    exact K h' s.toks (S.but hs (N.c x a ea) hq hal) (.but hs (.inr ⟨x, ea⟩) hal) (V.setCell hxk hi ea hv' hs (rp.chg hs.extBut (.inr hq)))
end

inductive FlR (H : Addr → Prop) (α : List Addr) (σ : Store) (h : Heap) : Flow → Fl → Prop
  | next : FlR H α σ h .next .next
  | ret {v V} : Rp H α σ h V v → FlR H α σ h (.ret v) (.ret V)
inductive PostS (c : CX) (env : Env) (H : Addr → Prop) (α : List Addr) (σ : Store) (s : Shared) (Q : KS) (f : Flow) (s' : Shared) : Prop
  | mk (α' : List Addr) (σ' : Store) (ρ' : Rho) (fl : Fl) (h : Heap) (tk : Nat) (e : s' = { s with heap := h, toks := tk }) (S : SR c.base H α' σ' h) (X : Ext (Own env) α σ s.heap α' σ' h) (V : EV env c.names ρ' H α' σ' h) (r : FlR H α' σ' h f fl) (q : Q fl ρ' σ')
noncomputable def DenS (c : CX) (st : Stmt) (ir : IS) : Prop := ∀ env ρ H α σ s A (Q : KS), env.scope.names = c.kinds → FrNew c.base env → EV env c.names ρ H α σ s.heap → SR c.base H α σ s.heap → Room c.k A → vcS c.C c.tab ir ρ σ Q →
  wpAny c.M A (exec st env) (PostS c env H α σ s Q) Fls s
noncomputable def DenSs (c : CX) (st : List Stmt) (ir : IS) : Prop := ∀ env ρ H α σ s A (Q : KS), env.scope.names = c.kinds → FrNew c.base env → EV env c.names ρ H α σ s.heap → SR c.base H α σ s.heap → Room c.k A → vcS c.C c.tab ir ρ σ Q →
  wpAny c.M A (execs st env) (PostS c env H α σ s Q) Fls s

section
variable {c : CX}
theorem Ext.own {env : Env} {α α' : List Addr} {σ σ' : Store} {h h' : Heap} (x : Ext NoO α σ h α' σ' h') : Ext (Own env) α σ h α' σ' h' := x.weak fun _ z => z.elim
theorem PostS.trans {env : Env} {H : Addr → Prop} {α α₁ : List Addr} {σ σ₁ : Store} {s s₂ : Shared} {h₁ : Heap} {tk₁ : Nat} {Q : KS} {f : Flow} (x : Ext (Own env) α σ s.heap α₁ σ₁ h₁) (p : PostS c env H α₁ σ₁ { s with heap := h₁, toks := tk₁ } Q f s₂) : PostS c env H α σ s Q f s₂ := by
  obtain ⟨α', σ', ρ', fl, h, tk, e, a, b, v, r, q⟩ := p
  exact ⟨α', σ', ρ', fl, h, tk, e, a, x.trans b, v, r, q⟩

theorem DenSs.nil : DenSs c [] .skip := fun env ρ H α σ s A Q hk N V S hR q => wpAny_execs_nil ⟨α, σ, ρ, .next, s.heap, s.toks, rfl, S, .refl, V, .next, q⟩
theorem DenSs.cons {st : Stmt} {r : List Stmt} {a b : IS} (ha : DenS c st a) (hb : DenSs c r b) : DenSs c (st :: r) (.seq a b) := by
  intro env ρ H α σ s A Q hk N V S hR q
  refine wpAny_execs_cons (wpAny_mono (ha env ρ H α σ s A _ hk N V S hR q) ?_ fun _ _ f => f.elim)
  rintro f s1 ⟨α1, σ1, ρ1, fl, h1, tk1, rfl, S1, X1, V1, r1, q1⟩
  cases r1 with
  | next => exact wpAny_mono (hb env ρ1 H α1 σ1 _ A _ hk N V1 S1 hR q1) (fun _ _ p => p.trans X1) fun _ _ f => f
  | ret rv => exact ⟨α1, σ1, ρ1, _, h1, tk1, rfl, S1, X1, V1, .ret rv, q1⟩
/-- the last statement -/
theorem DenSs.one {st : Stmt} {a : IS} (ha : DenS c st a) : DenSs c [st] a := by
  intro env ρ H α σ s A Q hk N V S hR q
  refine wpAny_execs_cons (wpAny_mono (ha env ρ H α σ s A _ hk N V S hR q) ?_ fun _ _ f => f.elim)
  rintro f s1 ⟨α1, σ1, ρ1, fl, h1, tk1, rfl, S1, X1, V1, r1, q1⟩
  cases r1 with
  | next => exact wpAny_execs_nil ⟨α1, σ1, ρ1, _, h1, tk1, rfl, S1, X1, V1, .next, q1⟩
  | ret rv => exact ⟨α1, σ1, ρ1, _, h1, tk1, rfl, S1, X1, V1, .ret rv, q1⟩
/-- a list is given up ahead of the rest -/
theorem DenSs.frz {st : List Stmt} {i : Nat} {b : IS} (hb : DenSs c st b) : DenSs c st (.seq (.frz i) b) := by
  intro env ρ H α σ s A Q hk N V S hR q
  replace q : ob (getR ρ i) fun v => ob (loc? v) fun n => ob (getS σ n) fun xs => vcS c.C c.tab b (frzR n xs ρ) (σ.set n none) Q := q
  obtain ⟨W, e1, q⟩ := ob_iff.mp q
  obtain ⟨n, e2, q⟩ := ob_iff.mp q
  obtain ⟨xs, e3, q⟩ := ob_iff.mp q
  have ex := getS_some e3
  have S1 := S.frz ex
  have X1 : Ext NoO α σ s.heap α (σ.set n none) s.heap := .frz S.nod ex
  have V1 : EV env c.names (frzR n xs ρ) H α (σ.set n none) s.heap := {
    kind := V.kind
    glob := V.glob
    bui := V.bui
    vars := fun y j W' e4 e5 => by
      have : ∃ W0, getR ρ j = some W0 ∧ W' = (match W0 with | .l m => if m = n then .d (.list xs) else .l m | w => w) := by
        unfold getR frzR at e5
        rw [List.getElem?_map] at e5
        unfold getR
        cases hq : ρ[j]? with
        | none => rw [hq] at e5; simp at e5
        | some o =>
          rw [hq] at e5
          cases o with
          | none => simp at e5
          | some w =>
            refine ⟨w, rfl, ?_⟩
            cases w with
            | d x => simp at e5; exact e5.symm
            | l m =>
              simp only [Option.map_some] at e5
              split at e5
              · rename_i hm; simp only [Option.some.injEq] at e5; simp [hm, e5]
              · rename_i hm; simp only [Option.some.injEq] at e5; simp [hm, e5]
      obtain ⟨W0, e6, rfl⟩ := this
      refine (V.vars y j W0 e4 e6).mono (fun m n => n) (fun _ _ _ n => n) fun v r => ?_
      cases W0 with
      | d x => exact Rd.ext S X1 noO r
      | l m =>
        obtain ⟨a, rfl, ea⟩ := r
        simp only
        split
        · rename_i hm; subst hm; exact Rd.frz S ea ex
        · exact ⟨a, rfl, ea⟩
    ns := V.ns
    cel := V.cel
    inj := V.inj
    has := V.has }
  exact wpAny_mono (hb env _ H α _ s A Q hk N V1 S1 hR q) (fun _ _ p => PostS.trans (h₁ := s.heap) (tk₁ := s.toks) X1.own p) fun _ _ f => f

abbrev NoSwap (c : CX) (value : Expr) (t : Expr) (line : Nat) : Prop := ∀ env : Env, env.scope.kind = .function → env.scope.names = c.kinds → swapsWith value (some t) line env = pure false

theorem DenS.asg {x : Str} {px pos : Pos} {e : Expr} {i : Nat} {kd : NameKind} {a : IE} (hx : c.kinds.lookup x = some kd) (hkd : kd = .local ∨ kd = .cell) (hi : ix c.names x = some i) (ha : DenE c e a) (hs : NoSwap c e (.Name x px) pos.line) : DenS c (.Assign [.Name x px] e pos) (.asg i a) := by
  intro env ρ H α σ s A Q hk N V S hR q
  refine wpAny_Assign_Name (wpAny_mono (ha env ρ H α σ s A _ hk V S hR q) ?_ fun _ _ f => f.elim) (hs env V.kind hk)
  rintro v s1 ⟨α1, σ1, W, h1, tk1, rfl, S1, X1, rx, q1⟩
  refine store_rule (c := c) hk hx hkd hi (V.ext S X1) S1 N rx fun h' tk S2 X2 V2 => ?_
  exact ⟨α1, σ1, _, .next, h', tk, rfl, S2, X1.own.trans X2, V2, .next, q1⟩

theorem DenS.asgNew {x : Str} {px pos : Pos} {e : Expr} {i : Nat} {kd : NameKind} {a : IE} (hx : c.kinds.lookup x = some kd) (hkd : kd = .local ∨ kd = .cell) (hi : ix c.names x = some i) (ha : DenN c e a) (hs : NoSwap c e (.Name x px) pos.line) : DenS c (.Assign [.Name x px] e pos) (.asgNew i a) := by
  intro env ρ H α σ s A Q hk N V S hR q
  refine wpAny_Assign_Name (wpAny_mono (ha env ρ H α σ s A _ hk V S hR q) ?_ fun _ _ f => f.elim) (hs env V.kind hk)
  rintro v s1 ⟨α1, σ1, xs, vs, h1, tk1, b, h2, rfl, S1, X1, hk2, hf, rfl, pl, hz, r, q1⟩
  simp only [rdD, ob_some, listP] at q1
  have S2 := S1.take hf hk2 pl hz r
  have X2 : Ext NoO α1 σ1 h1 (α1 ++ [b]) (σ1 ++ [some xs]) h2 := .take S1.len hf hk2
  refine store_rule (c := c) (s := { s with heap := h2, toks := tk1 }) (W := .l σ1.length) hk hx hkd hi ((V.ext S X1).ext S1 X2) S2 N ⟨b, rfl, by rw [← S1.len]; simp⟩ fun h' tk S3 X3 V3 => ?_
  exact ⟨_, _, _, .next, h', tk, rfl, S3, (X1.trans X2).own.trans X3, V3, .next, q1⟩

/-- a comprehension bound to a local name: the model stores it ahead of the letting go -/
theorem DenS.asgComp {x y : Str} {px py pos spos : Pos} {elt iter : Expr} {ifs : List Expr} {scope : Scope} {i : Nat} {is ie ic : IE} (hy : c.kinds.lookup y = some .local) (hi : ix c.names y = some i) (K : CompEither c x scope) (hit : DenI c iter is) (he : DenE (c.comp x scope) elt ie) (hc : DenIf (c.comp x scope) ifs ic)
    (hs : ∀ env x, foldedSetIterable iter env x = pure x) (hline : (py.line == pos.line) = true) (hno : (scope.names.any fun (n, k) => n == y && (k == .local || k == .cell)) = false) :
    DenS c (.Assign [.Name y py] (.ListComp elt [⟨.Name x px, iter, ifs, 0⟩] scope pos) spos) (.asg i (.comp ie is ic)) := by
  intro env ρ H α σ s A Q hk N V S hR q
  obtain ⟨cl, e1, hcl, hcl'⟩ := comp_free hk V K.free
  have hsw : swapsWith (.ListComp elt [⟨.Name x px, iter, ifs, 0⟩] scope pos) (some (.Name y py)) spos.line env = pure true := by
    show (pure (env.blockKind == .function && env.kindOf y == some .local && py.line == pos.line && !(scope.names.any fun (n, k) => n == y && (k == .local || k == .cell))) : Sem Bool) = _
    have hb : env.blockKind = .function := by unfold Env.blockKind; rw [V.kind]; rfl
    rw [hb, (Env.kindOf_of hk y).trans hy, hline, hno]; rfl
  rw [exec_Assign_Name_used _ _ _ _ hsw]
  refine wpAny_bind (wpAny_standAt (wpAny_bind ?_))
  show wpAny _ A (do let _ ← comprehension (.ListComp elt [⟨.Name x px, iter, ifs, 0⟩] scope pos) scope env _ (newList []) false (eval iter env) (some (assign (.Name y py) env))) _ _ s
  refine wpAny_bind (wpAny_mono (wpAny_comprehension_free (use := some (assign (.Name y py) env)) (Q := fun _ s' => PostS c env H α σ s Q .next s') (E := Fls) rfl (hs env) e1 K.kind K.nam
    (wpAny_mono (hit env ρ H α σ s A _ hk V S hR (compI (c := c) q)) (fun xv s₁ h₁ => wpAny_mono h₁ (fun it s₂ h₂ => ?_) fun _ _ e => e) fun _ _ e => e)) (fun _ s' hq => wpAny_pure (wpAny_pure hq)) fun _ _ e => e.elim)
  obtain ⟨α1, σ1, xs, h2, tk2, I, fp, P, St, rfl, S2, X2, rfl, itr, _, hz, q2⟩ := h₂
  refine comp_block (RR := fun acc C => compPost c.M A Fls (some (assign (.Name y py) env)) (fun _ s' => PostS c env H α σ s Q .next s') acc C) hk V S hR K hcl hcl' he hc rfl S2 X2 itr hz q2 ?_
  intro D C α' σ' acc h tk m S' X' hn rd V' dC bC nC hC hDC hq
  show wpAny _ A (assign (.Name y py) env (.ref D)) _ _ _
  refine wpAny_assign_Name (store_rule (c := c) (s := { s with heap := h, toks := tk }) (W := .d (.list acc)) hk hy (.inl rfl) hi V' S' N rd fun h' tk' S3 X3 V3 => ?_)
  have hnC : ∀ o, h.get? C = some o → ¬ isSeq o := fun o e => by obtain ⟨o', es, ep, ho, hd, _⟩ := hn; rw [e] at ho; cases ho; exact notSeq_dict hd
  have hCO : ¬ Own env C := by
    rintro (z | ⟨x, z⟩)
    · obtain ⟨_, o, _, _, e, _⟩ := V.ns; rw [← z, dC] at e; cases e
    · obtain ⟨_, o, e, _⟩ := V.cel x C z; rw [dC] at e; cases e
  obtain ⟨oC, _, _, eC, dC', _⟩ := id hn
  have hC3 : ∀ o, h.get? C = some o → h'.get? C = some o := fun o e => X3.keep C o e (fun z => nC (let ⟨n, _, e, _⟩ := z; List.mem_of_getElem? e)) hCO
  have hn3 := hn.at' hC3
  have hq3 : ∀ o, h'.get? C = some o → ¬ isSeq o := fun o e => by obtain ⟨o', es, ep, ho, hd, _⟩ := hn3; rw [e] at ho; cases ho; exact notSeq_dict hd
  refine ⟨m, hn3, fun h4 hs4 => ?_⟩
  exact ⟨α', σ', _, .next, h4, tk', rfl, S3.butD hs4.extBut bC hq3 nC hC, (X'.own.trans X3).butD hs4.extBut dC, V3.chg hs4.extBut (.inr hq3) (fun z => hCO (.inl z.symm)) (fun x a e z => hCO (.inr ⟨x, z ▸ e⟩)), .next, hq⟩

theorem DenS.aug {x : Str} {px pos : Pos} {e : Expr} {i : Nat} {kd : NameKind} {a : IE} (hx : c.kinds.lookup x = some kd) (hkd : kd = .local ∨ kd = .cell) (hi : ix c.names x = some i) (hcl : (x == ("__classdict__" : Str)) = false) (ha : DenE c e a) : DenS c (.AugAssign (.Name x px) .Add e pos) (.aug i .add a) := by
  intro env ρ H α σ s A Q hk N V S hR q
  replace q : ob (getR ρ i) fun old => ob (rdD old) fun X => ob (intP X) fun i0 => (c.X a).E ρ σ fun v σ1 => ob (rdD v) fun Y => ob (intP Y) fun j => BOp.add = .add ∧ Q .next (setR ρ i (.d (.int (i0 + j)))) σ1 := q
  obtain ⟨W, e1, q⟩ := ob_iff.mp q
  obtain ⟨X, e2, q⟩ := ob_iff.mp q
  obtain ⟨i0, e3, q⟩ := ob_iff.mp q
  refine wpAny_AugAssign_Name (load_var (c := c) (h := s.heap) V.kind ((Env.kindOf_of hk x).trans hx) (hkd.imp id .inl) hcl (V.vars x i W hi e1) fun v r => ?_)
  refine wpAny_mono (ha env ρ H α σ s A _ hk V S hR q) ?_ fun _ _ f => f.elim
  rintro v' s1 ⟨α1, σ1, W', h1, tk1, rfl, S1, X1, rx, q1⟩
  obtain ⟨Y, e4, q1⟩ := ob_iff.mp q1
  obtain ⟨j, e5, _, q1⟩ := ob_iff.mp q1
  cases X <;> simp only [intP, reduceCtorEq, Option.some.injEq] at e3
  cases Y <;> simp only [intP, reduceCtorEq, Option.some.injEq] at e5
  subst e3 e5
  obtain ⟨t, rfl⟩ := Rd.int (r.rd e2)
  obtain ⟨u, rfl⟩ := Rd.int (rx.rd e4)
  refine wpAny_iadd_int ?_
  refine store_rule (c := c) (s := { s with heap := h1, toks := tk1 + 1 }) (W := .d (.int _)) hk hx hkd hi (V.ext S X1) S1 N (Rd.ofInt (h := h1) (M := Mu H α1 σ1) _ _) fun h' tk S2 X2 V2 => ?_
  exact ⟨α1, σ1, _, .next, h', tk, rfl, S2, X1.own.trans X2, V2, .next, q1⟩

theorem DenS.setIdx {x : Str} {px ps pos : Pos} {ei e : Expr} {i : Nat} {kd : NameKind} {a b : IE} (hx : c.kinds.lookup x = some kd) (hkd : kd = .local ∨ kd = .cell ∨ kd = .free) (hi : ix c.names x = some i) (hcl : (x == ("__classdict__" : Str)) = false) (hd : (x == ("__debug__" : Str)) = false) (ha : DenE c ei a) (hb : DenE c e b)
    (hs : NoSwap c e (.Subscript (.Name x px) ei ps) pos.line) : DenS c (.Assign [.Subscript (.Name x px) ei ps] e pos) (.setIdx i a b) := by
  intro env ρ H α σ s A Q hk N V S hR q
  replace q : (c.X b).E ρ σ fun vv σ1 => ob (rdD vv) fun X => ob (getR ρ i) fun lv => ob (loc? lv) fun n => (c.X a).E ρ σ1 fun iv σ2 => ob (rdD iv) fun I => ob (intP I) fun j =>
      ob (getS σ2 n) fun xs => 0 ≤ j ∧ j < xs.length ∧ Q .next ρ (σ2.set n (some (xs.set j.toNat X))) := q
  refine wpAny_Assign_Subscript (wpAny_mono (hb env ρ H α σ s A _ hk V S hR q) ?_ fun _ _ f => f.elim) (hs env V.kind hk)
  rintro v s1 ⟨α1, σ1, W, h1, tk1, rfl, S1, X1, rx, q1⟩
  obtain ⟨X, e1, q1⟩ := ob_iff.mp q1
  obtain ⟨W', e2, q1⟩ := ob_iff.mp q1
  obtain ⟨n, e3, q1⟩ := ob_iff.mp q1
  have V1 := V.ext S X1
  refine wpAny_Name (load_var (c := c) (s := { s with heap := h1, toks := tk1 }) (h := h1) V.kind ((Env.kindOf_of hk x).trans hx) hkd hcl (V1.vars x i W' hi e2) fun lv rl => ?_) hd
  cases W' with
  | d _ => simp [loc?] at e3
  | l n' =>
    simp only [loc?, Option.some.injEq] at e3; subst e3
    obtain ⟨l, rfl, el⟩ := rl
    refine wpAny_mono (ha env ρ H α1 σ1 _ A _ hk V1 S1 hR q1) ?_ fun _ _ f => f.elim
    rintro iv s2 ⟨α2, σ2, IV, h2, tk2, rfl, S2, X2, ri, q2⟩
    obtain ⟨I, e4, q2⟩ := ob_iff.mp q2
    obtain ⟨j, e5, q2⟩ := ob_iff.mp q2
    obtain ⟨xs, e6, h0, hlt, q2⟩ := ob_iff.mp q2
    obtain ⟨j', rfl⟩ : ∃ j', I = .int j' := by cases I <;> first | exact ⟨_, rfl⟩ | simp [intP] at e5
    simp only [intP, Option.some.injEq] at e5
    subst e5
    obtain ⟨t, rfl⟩ := Rd.int (ri.rd e4)
    have el2 := prefix_get X2.pre el
    obtain ⟨vs, pl, hz, r⟩ := S2.lst _ _ _ el2 (getS_some e6)
    have hlen := r.length
    have hlim : (lim : Int) < 2 ^ 62 := by rw [lim_eq]; decide
    refine op_set (s := { s with heap := h2, toks := tk2 }) pl h0 (by omega) (by simp only [List.size_toArray]; omega) fun h' pl' hsb => ?_
    have pl'' : h'.PlainList l (vs.set j'.toNat v).toArray := by simpa using pl'
    have rv := Rd.ext S1 X2 noO (rx.rd e1)
    obtain ⟨nn, epl⟩ := id pl''
    have X3 : Ext NoO α2 σ2 h2 α2 (σ2.set n' (some (xs.set j'.toNat X))) h' := .turn el2 (getS_some e6) hsb ⟨_, epl⟩
    have S3 := S2.turn el2 (getS_some e6) hsb pl'' (by rw [List.length_set]; exact hz) (r.set (i := j'.toNat) rv)
    exact ⟨α2, _, ρ, .next, h', tk2, rfl, S3, ((X1.trans X2).trans X3).own, (V1.ext S1 X2).ext S2 X3, .next, q2⟩

theorem DenS.ite {t : Expr} {th el : List Stmt} {pos : Pos} {d : IE} {a b : IS} (hd : DenT c t d) (ha : DenSs c th a) (hb : DenSs c el b) : DenS c (.If t th el pos) (.ite d a b) := by
  intro env ρ H α σ s A Q hk N V S hR q
  refine wpAny_If (wpAny_mono (hd env ρ H α σ s A _ hk V S hR q) ?_ fun _ _ f => f.elim)
  rintro z s1 ⟨α1, σ1, h1, tk1, rfl, S1, X1, q1⟩
  cases z with
  | true => simp only [if_true] at q1 ⊢; exact wpAny_mono (ha env ρ H α1 σ1 _ A _ hk N (V.ext S X1) S1 hR q1) (fun _ _ p => p.trans X1.own) fun _ _ f => f
  | false => simp only [Bool.false_eq_true, if_false] at q1 ⊢; exact wpAny_mono (hb env ρ H α1 σ1 _ A _ hk N (V.ext S X1) S1 hR q1) (fun _ _ p => p.trans X1.own) fun _ _ f => f
theorem DenS.ret {e : Expr} {pos : Pos} {a : IE} (ha : DenE c e a) : DenS c (.Return (some e) pos) (.ret a) := by
  intro env ρ H α σ s A Q hk N V S hR q
  refine wpAny_Return_some (wpAny_mono (ha env ρ H α σ s A _ hk V S hR q) ?_ fun _ _ f => f.elim)
  rintro v s1 ⟨α1, σ1, W, h1, tk1, rfl, S1, X1, rx, q1⟩
  exact ⟨α1, σ1, ρ, _, h1, tk1, rfl, S1, X1.own, V.ext S X1, .ret rx, q1⟩
theorem DenS.ex {e : Expr} {pos : Pos} {a : IE} (ha : DenE c e a) (hs : ∀ env, swapsWith e none pos.line env = pure false) : DenS c (.Expr e pos) (.ex a) := by
  intro env ρ H α σ s A Q hk N V S hR q
  refine wpAny_Expr_any (wpAny_mono (ha env ρ H α σ s A _ hk V S hR q) ?_ fun _ _ f => f.elim) (by unfold interactive; rw [V.kind]; rfl) (hs env)
  rintro v s1 ⟨α1, σ1, W, h1, tk1, rfl, S1, X1, rx, q1⟩
  exact ⟨α1, σ1, ρ, .next, h1, tk1, rfl, S1, X1.own, V.ext S X1, .next, q1⟩
theorem DenS.fail {st : Stmt} : DenS c st .fail := fun env ρ H α σ s A Q hk N V S hR q => q.elim
end
end Mine
end
section
namespace Mine

/-! unpacking into names -/
inductive TgtOK (c : CX) : List Expr → List Nat → Prop
  | nil : TgtOK c [] []
  | cons {x px i kd es is} : c.kinds.lookup x = some kd → (kd = .local ∨ kd = .cell) → ix c.names x = some i → TgtOK c es is → TgtOK c (.Name x px :: es) (i :: is)
theorem assignEach_name (x : Str) (px : Pos) (r : List Expr) (env : Env) : assignEach (.Name x px :: r) env = (false, assign (.Name x px) env) :: assignEach r env := rfl
theorem assignEach_nil (env : Env) : assignEach [] env = [] := rfl
section
variable {c : CX}
theorem TgtOK.each {es : List Expr} {is : List Nat} (T : TgtOK c es is) (env : Env) : (assignEach es env).length = is.length ∧ (assignEach es env).findIdx? (·.1) = none := by
  induction T with
  | nil => rw [assignEach_nil]; exact ⟨rfl, rfl⟩
  | cons _ _ _ _ ih =>
    rw [assignEach_name]
    refine ⟨by simp [ih.1], ?_⟩
    rw [List.findIdx?_cons]
    simp [ih.2]
theorem assign_all {env : Env} {H : Addr → Prop} {A : Around} {E : Value → Shared → Prop} {Q : Unit → Shared → Prop} (hk : env.scope.names = c.kinds) (N : FrNew c.base env) {es : List Expr} {is : List Nat} (T : TgtOK c es is) :
    ∀ {xs : List PyData} {vs : List Value} {ρ : Rho} {α : List Addr} {σ : Store} {s : Shared}, xs.length = is.length → RdAll s.heap (Mu H α σ) xs vs → EV env c.names ρ H α σ s.heap → SR c.base H α σ s.heap →
      (∀ h' tk, SR c.base H α σ h' → Ext (Own env) α σ s.heap α σ h' → EV env c.names (setRs ρ is xs) H α σ h' → Q () { s with heap := h', toks := tk }) →
      wpAny c.M A (assignInOrder ((assignEach es env).map (·.2)) vs) Q E s := by
  induction T with
  | nil =>
    intro xs vs ρ α σ s hl r V S K
    rw [assignEach_nil]
    refine assignInOrder_nil (K s.heap s.toks S .refl ?_)
    cases xs with
    | nil => exact V
    | cons _ _ => simp at hl
  | @cons x px i kd es is hx hkd hi T ih =>
    intro xs vs ρ α σ s hl r V S K
    cases xs with
    | nil => simp at hl
    | cons X xs =>
      obtain ⟨v, vs', rfl, rv, r'⟩ := r.uncons
      rw [assignEach_name, List.map_cons]
      refine assignInOrder_cons (wpAny_assign_Name (store_rule (c := c) (W := .d X) hk hx hkd hi V S N rv fun h1 tk S1 X1 V1 => ?_))
      refine ih (by simpa using hl) (RdAll.ext S X1 V.ownNS r') V1 S1 fun h2 tk2 S2 X2 V2 => ?_
      exact K h2 tk2 S2 (X1.trans X2) V2

theorem DenS.asgT {es : List Expr} {k : Nat} {tpos pos : Pos} {e : Expr} {is : List Nat} {a : IE} (T : TgtOK c es is) (ha : DenE c e a) (hs : ∀ env : Env, swapsWithSole [.Tuple es k tpos] e pos.line env = pure false) (hw : ∀ env : Env, swappedStores [.Tuple es k tpos] e env = pure none) :
    DenS c (.Assign [.Tuple es k tpos] e pos) (.asgT is a) := by
  intro env ρ H α σ s A Q hk N V S hR q
  refine Assign_Tuple (wpAny_mono (ha env ρ H α σ s A _ hk V S hR q) ?_ fun _ _ f => f.elim) (hs env) (hw env)
  rintro v s1 ⟨α1, σ1, W, h1, tk1, rfl, S1, X1, rx, q1⟩
  obtain ⟨X, e1, q2⟩ := ob_iff.mp q1
  obtain ⟨xs, e2, hl, q3⟩ := ob_iff.mp q2
  clear q1 q2
  obtain rfl : X = .tuple xs := by cases X <;> simp [tupP] at e2; rw [e2]
  obtain ⟨t, vs, rfl, hn, ht, hz, r⟩ := (rx.rd e1).tuple
  obtain ⟨t1, t2⟩ := T.each env
  refine wpAny_assign_Tuple (s := { s with heap := h1, toks := tk1 }) hR.hh ht (by simp only [List.size_toArray]; rw [t1, r.length, hl]) t2 fun h' hx => ?_
  have hb : h1.get? h1.objs.size = none := size_none _
  have hq : ∀ o, h1.get? h1.objs.size = some o → ¬ isSeq o := fun o e => by rw [hb] at e; cases e
  have S2 : SR c.base H α1 σ1 h' := S1.butD hx (none_back S1.old hb) hq (fun m => by obtain ⟨o, e⟩ := S1.ali _ m; rw [hb] at e; cases e) (fun m => by obtain ⟨o, e⟩ := S1.hid _ m; rw [hb] at e; cases e)
  have V1 := V.ext S X1
  have V2 : EV env c.names ρ H α1 σ1 h' := V1.chg hx (.inr hq) (fun z => by obtain ⟨_, o, _, _, e, _⟩ := V1.ns; rw [z, hb] at e; cases e) (fun x a e z => by obtain ⟨_, o, e', _⟩ := V1.cel x a e; rw [z, hb] at e'; cases e')
  refine assign_all (s := { s with heap := h', toks := tk1 }) hk N T hl (r.chg hx (.inr hq)) V2 S2 fun h2 tk2 S3 X3 V3 => ?_
  exact ⟨α1, σ1, _, .next, h2, tk2, rfl, S3, (X1.own.butD hx (alive_back (base := c.base) (H := H) X1 hb)).trans X3, V3, .next, q3⟩

/-! loops -/
structure LF (c : CX) (env : Env) (h0 : Heap) (H : Addr → Prop) (α0 : List Addr) (σ0 : Store) (I : Addr) (fp : List Addr) (P : Nat → Value → Prop) (xs : List PyData) (ρ : Rho) (α : List Addr) (σ : Store) (h : Heap) : Prop where
  S : SR c.base H α σ h
  X : Ext (Own env) α0 σ0 h0 α σ h
  V : EV env c.names ρ H α σ h
  nI : I ∉ α
  fp : ∀ b ∈ fp, b ≠ I → (∃ o, h.get? b = some o ∧ isSeq o) ∧ ¬ Mu H α σ b
  val : ∀ j v, P j v → ∃ x, xs[j]? = some x ∧ Rd h (Mu H α σ) x v

variable {env : Env} {h0 : Heap} {H : Addr → Prop} {α0 : List Addr} {σ0 : Store} {I : Addr} {fp : List Addr} {P : Nat → Value → Prop} {xs : List PyData} {ρ ρ' : Rho} {α α' : List Addr} {σ σ' : Store} {h h' : Heap}
theorem LF.chgI (L : LF c env h0 H α0 σ0 I fp P xs ρ α σ h) (k : Heap.ExtBut I h h') (hq : ∀ o, h.get? I = some o → ¬ isSeq o) (hO : ¬ Own env I) (hb : c.base.get? I = none) (hH : ¬ H I) (h0I : h0.get? I = none) : LF c env h0 H α0 σ0 I fp P xs ρ α σ h' where
  S := L.S.butD k hb hq L.nI hH
  X := L.X.butD k h0I
  V := L.V.chg k (.inr hq) (fun z => hO (.inl z.symm)) (fun x a e z => hO (.inr ⟨x, z ▸ e⟩))
  nI := L.nI
  fp := fun b hb hne => let ⟨⟨o, e, q⟩, m⟩ := L.fp b hb hne; ⟨⟨o, k _ o hne e, q⟩, m⟩
  val := fun j v p => let ⟨x, e, r⟩ := L.val j v p; ⟨x, e, r.chg k (.inr hq)⟩
theorem LF.body (L : LF c env h0 H α0 σ0 I fp P xs ρ α σ h) (hI : ∃ o, h.get? I = some o) (S : SR c.base H α' σ' h') (X : Ext (Own env) α σ h α' σ' h') (V : EV env c.names ρ' H α' σ' h') : LF c env h0 H α0 σ0 I fp P xs ρ' α' σ' h' where
  S := S
  X := L.X.trans X
  V := V
  nI := fun m => by
    rcases X.nw _ m with q | q
    · exact L.nI q
    · obtain ⟨o, e⟩ := hI; rw [q] at e; cases e
  fp := fun b hb hne => by
    obtain ⟨⟨o, e, q⟩, m⟩ := L.fp b hb hne
    refine ⟨⟨o, X.keep _ o e (fun z => m (.inr z)) (fun z => L.V.ownNS b o z e q), q⟩, fun z => z.elim (fun z => m (.inl z)) fun z => ?_⟩
    rcases X.muts _ z with z | z
    · exact m (.inr z)
    · rw [z] at e; cases e
  val := fun j v p => let ⟨x, e, r⟩ := L.val j v p; ⟨x, e, Rd.ext L.S X L.V.ownNS r⟩

theorem DenS.loop {x : Str} {px pos : Pos} {iter : Expr} {body : List Stmt} {i : Nat} {kd : NameKind} {is : IE} {b : IS} (hx : c.kinds.lookup x = some kd) (hkd : kd = .local ∨ kd = .cell) (hi : ix c.names x = some i) (hit : DenI c iter is) (hb : DenSs c body b)
    (hs : ∀ env x, foldedSetIterable iter env x = pure x) : DenS c (.For (.Name x px) iter body [] pos) (.loop i is b) := by
  intro env ρ H α σ s A Q hk N V S hR q
  refine wpAny_For (wpAny_mono (hit env ρ H α σ s A _ hk V S hR q) (fun xv s1 h1 => wpAny_mono h1 ?_ fun _ _ f => f.elim) fun _ _ f => f.elim) (hs env)
  rintro it s2 ⟨α1, σ1, xs, h1, tk1, I, fp, P, St, rfl, S1, X1, rfl, itr, _, q1⟩
  have hO : ¬ Own env I := by
    rintro (z | ⟨y, z⟩)
    · obtain ⟨_, o, _, _, e, _⟩ := V.ns; rw [← z, itr.old] at e; cases e
    · obtain ⟨_, o, e, _⟩ := V.cel y I z; rw [itr.old] at e; cases e
  have L0 : LF c env s.heap H α σ I fp P xs ρ α1 σ1 h1 := ⟨S1, X1.own, V.ext S X1, itr.nal, itr.fp, itr.val⟩
  refine codeAny_forLoop (fun n s' => Ex6 fun j ρ α' σ' h tk => All6 (s' = { s with heap := h, toks := tk }) (j ≤ xs.length) (n = xs.length + 1 - j) (St j h) (LF c env s.heap H α σ I fp P xs ρ α' σ' h) (forV (fun v ρ σ K => vcS c.C c.tab b (setR ρ i (.d v)) σ K) (xs.drop j) ρ σ' Q)) ?_ (xs.length + 1) ⟨0, ρ, α1, σ1, h1, tk1, rfl, Nat.zero_le _, rfl, itr.st, L0, q1⟩
  rintro n s' ⟨j, ρ, α2, σ2, h2, tk2, rfl, hj, rfl, hst, L, q2⟩
  obtain ⟨oI, vsI, eI, dI⟩ := itr.nsq j h2 hst
  have hqI : ∀ o, h2.get? I = some o → ¬ isSeq o := fun o e => by rw [eI] at e; cases e; exact notSeq_fields dI
  by_cases hlt : j < xs.length
  · refine itr.w.item j _ _ _ hlt hst fun v h3 tk3 hPv hst3 hk3 => ?_
    have kI : Heap.ExtBut I h2 h3 := fun b o hne e => hk3 b o (by simpa using hne) e
    have L3 := L.chgI kI hqI hO itr.bas itr.nH itr.old
    obtain ⟨X, eX, rX⟩ := L3.val j v hPv
    have hdrop : xs.drop j = X :: xs.drop (j + 1) := by
      rw [List.drop_eq_getElem_cons hlt]; congr 1
      exact Option.some.inj ((List.getElem?_eq_getElem hlt).symm.trans eX)
    rw [hdrop] at q2
    obtain ⟨oI3, vsI3, eI3, dI3⟩ := itr.nsq _ _ hst3
    refine wpAny_assign_Name (store_rule (c := c) (s := { s with heap := h3, toks := tk3 }) (W := .d X) hk hx hkd hi L3.V L3.S N rX fun h4 tk4 S4 X4 V4 => ?_)
    have L4 := L3.body ⟨_, eI3⟩ S4 X4 V4
    have fr3 : ∀ b, b ∈ fp → ∀ o, h3.get? b = some o → h4.get? b = some o := fun b hb o e => by
      by_cases hbI : b = I
      · subst hbI; exact X4.keep _ o e (fun z => L3.nI (let ⟨n, _, e, _⟩ := z; List.mem_of_getElem? e)) hO
      · obtain ⟨⟨o', e', q⟩, m⟩ := L3.fp b hb hbI
        rw [e] at e'; cases e'
        exact X4.keep _ o e (fun z => m (.inr z)) (fun z => L3.V.ownNS b o z e q)
    have hst4 : St (j + 1) h4 := itr.w.frame _ _ _ hst3 fun b hb o e => fr3 b hb o e
    obtain ⟨oI4, vsI4, eI4, dI4⟩ := itr.nsq _ _ hst4
    refine wpAny_mono (hb env _ H α2 σ2 _ A _ hk N V4 S4 hR q2) ?_ fun _ _ f => f.elim
    rintro f s5 ⟨α5, σ5, ρ5, fl, h5, tk5, rfl, S5, X5, V5, rf, q5⟩
    have L5 := L4.body ⟨_, eI4⟩ S5 X5 V5
    have fr4 : ∀ b, b ∈ fp → ∀ o, h4.get? b = some o → h5.get? b = some o := fun b hb o e => by
      by_cases hbI : b = I
      · subst hbI; exact X5.keep _ o e (fun z => L4.nI (let ⟨n, _, e, _⟩ := z; List.mem_of_getElem? e)) hO
      · obtain ⟨⟨o', e', q⟩, m⟩ := L4.fp b hb hbI
        rw [e] at e'; cases e'
        exact X5.keep _ o e (fun z => m (.inr z)) (fun z => L4.V.ownNS b o z e q)
    cases rf with
    | next => exact ⟨xs.length + 1 - (j + 1), by omega, j + 1, ρ5, α5, σ5, h5, tk5, rfl, hlt, rfl, itr.w.frame _ _ _ hst4 fr4, L5, q5⟩
    | ret rv => exact ⟨α5, σ5, ρ5, _, h5, tk5, rfl, S5, L5.X, V5, .ret rv, q5⟩
  · have hin : j = xs.length := by omega
    subst hin
    refine itr.w.done _ _ _ hst fun h3 tk3 hk3 => ?_
    have kI : Heap.ExtBut I h2 h3 := fun b o hne e => hk3 b o (by simpa using hne) e
    have L3 := L.chgI kI hqI hO itr.bas itr.nH itr.old
    rw [List.drop_length] at q2
    exact wpAny_execs_nil ⟨α2, σ2, ρ, .next, h3, tk3, rfl, L3.S, L3.X, L3.V, .next, q2⟩

theorem DenS.wloop {t : Expr} {body : List Stmt} {pos : Pos} {d : IE} {b : IS} (hd : DenT c t d) (hb : DenSs c body b) : DenS c (.While t body [] pos) (.wloop d b) := by
  intro env ρ H α σ s A Q hk N V S hR q
  replace q : ∃ n, whileV (c.X d).T (fun ρ σ K => vcS c.C c.tab b ρ σ K) n ρ σ Q := q
  obtain ⟨n, q⟩ := q
  refine wpAny_While (codeAny_whileLoop (fun n s' => Ex5 fun ρ α' σ' h tk => All5 (s' = { s with heap := h, toks := tk }) (SR c.base H α' σ' h) (Ext (Own env) α σ s.heap α' σ' h) (EV env c.names ρ H α' σ' h) (whileV (c.X d).T (fun ρ σ K => vcS c.C c.tab b ρ σ K) n ρ σ' Q)) ?_ n ⟨ρ, α, σ, s.heap, s.toks, rfl, S, .refl, V, q⟩)
  rintro n s' ⟨ρ, α1, σ1, h1, tk1, rfl, S1, X1, V1, q1⟩
  cases n with
  | zero => exact q1.elim
  | succ n =>
    refine wpAny_mono (hd env ρ H α1 σ1 _ A _ hk V1 S1 hR q1) ?_ fun _ _ f => f.elim
    rintro z s2 ⟨α2, σ2, h2, tk2, rfl, S2, X2, q2⟩
    have V2 := V1.ext S1 X2
    cases z with
    | false =>
      simp only [Bool.false_eq_true, if_false] at q2 ⊢
      exact wpAny_execs_nil ⟨α2, σ2, ρ, .next, h2, tk2, rfl, S2, X1.trans X2.own, V2, .next, q2⟩
    | true =>
      simp only [if_true] at q2 ⊢
      refine wpAny_mono (hb env ρ H α2 σ2 _ A _ hk N V2 S2 hR q2) ?_ fun _ _ f => f.elim
      rintro f s3 ⟨α3, σ3, ρ3, fl, h3, tk3, rfl, S3, X3, V3, rf, q3⟩
      have X4 := (X1.trans X2.own).trans X3
      cases rf with
      | next => exact ⟨n, Nat.lt_succ_self _, ρ3, α3, σ3, h3, tk3, rfl, S3, X4, V3, q3⟩
      | ret rv => exact ⟨α3, σ3, ρ3, _, h3, tk3, rfl, S3, X4, V3, .ret rv, q3⟩
end
end Mine
end
section
namespace Mine

theorem take_pre {T : Type} {l l' : List T} (h : l <+: l') : l'.take l.length = l := by
  obtain ⟨r, rfl⟩ := h; simp
section
variable {base h : Heap} {H : Addr → Prop} {α α' : List Addr} {σ' : Store}
theorem muts_trunc (pre : α <+: α') {a : Addr} (m : Muts α (σ'.take α.length) a) : Muts α' σ' a := by
  obtain ⟨n, xs, e1, e2⟩ := m
  refine ⟨n, xs, prefix_get pre e1, ?_⟩
  rw [List.getElem?_take] at e2
  split at e2
  · exact e2
  · cases e2
theorem SR.trunc (S : SR base H α' σ' h) (pre : α <+: α') : SR base H α (σ'.take α.length) h where
  len := by
    have h1 := S.len
    have h2 := pre.length_le
    rw [List.length_take]; omega
  nod := by obtain ⟨r, rfl⟩ := pre; exact (List.nodup_append.mp S.nod).1
  old := S.old
  new := fun a m => S.new a (pre.subset m)
  ali := fun a m => S.ali a (pre.subset m)
  lst := fun n a xs e1 e2 => by
    have e2' : σ'[n]? = some (some xs) := by
      rw [List.getElem?_take] at e2
      split at e2
      · exact e2
      · cases e2
    obtain ⟨vs, pl, hl, q⟩ := S.lst n a xs (prefix_get pre e1) e2'
    exact ⟨vs, pl, hl, RdAll.mono (fun _ _ e _ _ => e) (fun a _ _ m => m.imp id (muts_trunc pre)) _ _ q⟩
  hid := S.hid
  hna := fun a m q => S.hna a m (pre.subset q)
end

/-- what a call hands back, the callee's own lists let go -/
noncomputable def RetQ (σ : Store) (Q : KV) (fl : Fl) (ρ : Rho) (σ' : Store) : Prop := match fl with
  | .next => Q (.d .none) (σ'.take σ.length)
  | .ret (.d x) => Q (.d x) (σ'.take σ.length)
  | .ret (.l n) => Q (.l n) σ'

theorem bindL_other {kindOf : Str → Option NameKind} : ∀ {binds : List (Str × Value)} {m : Str → Option Value} {y : Str}, y ∉ binds.map (·.1) → bindL kindOf binds m y = m y
  | [], _, _, _ => rfl
  | (n, v) :: r, m, y, h => by
    rw [bindL, bindL_other (fun hm => h (List.mem_cons_of_mem _ hm))]
    have : y ≠ n := fun z => h (by rw [z]; exact List.mem_cons_self)
    split
    · simp [this]
    · rfl
theorem bindC_other {kindOf : Str → Option NameKind} : ∀ {binds : List (Str × Value)} {m : Str → Option Value} {y : Str}, y ∉ binds.map (·.1) → bindC kindOf binds m y = m y
  | [], _, _, _ => rfl
  | (n, v) :: r, m, y, h => by
    rw [bindC, bindC_other (fun hm => h (List.mem_cons_of_mem _ hm))]
    have : y ≠ n := fun z => h (by rw [z]; exact List.mem_cons_self)
    split
    · rfl
    · simp [this]
theorem bindL_get {kindOf : Str → Option NameKind} : ∀ {binds : List (Str × Value)} {m : Str → Option Value} {y : Str} {v : Value}, (binds.map (·.1)).Nodup → (y, v) ∈ binds → kindOf y = some .local → bindL kindOf binds m y = some v
  | (n, w) :: r, m, y, v, hd, hm, hk => by
    rw [List.map_cons, List.nodup_cons] at hd
    rcases List.mem_cons.mp hm with e | hm
    · cases e
      rw [bindL, bindL_other hd.1, if_pos hk, if_pos rfl]
    · rw [bindL]; exact bindL_get hd.2 hm hk
theorem bindC_get {kindOf : Str → Option NameKind} : ∀ {binds : List (Str × Value)} {m : Str → Option Value} {y : Str} {v : Value}, (binds.map (·.1)).Nodup → (y, v) ∈ binds → kindOf y = some .cell → bindC kindOf binds m y = some v
  | (n, w) :: r, m, y, v, hd, hm, hk => by
    rw [List.map_cons, List.nodup_cons] at hd
    rcases List.mem_cons.mp hm with e | hm
    · cases e
      rw [bindC, bindC_other hd.1, if_neg (by rw [hk]; decide), if_pos rfl]
    · rw [bindC]; exact bindC_get hd.2 hm hk

theorem cellsFrom_acc : ∀ {names : List (Str × NameKind)} {k : Nat} {acc : List (Str × Addr)} {y : Str}, (acc.lookup y).isSome = true → ((cellsFrom k names acc).lookup y).isSome = true
  | [], _, _, _, h => h
  | (n, kd) :: r, k, acc, y, h => by
    unfold cellsFrom
    split
    · refine cellsFrom_acc ?_
      rw [List.lookup_cons]
      split
      · rfl
      · exact h
    · exact cellsFrom_acc h
theorem cellsFrom_has : ∀ {names : List (Str × NameKind)} {k : Nat} {acc : List (Str × Addr)} {y : Str}, (y, NameKind.cell) ∈ names → ((cellsFrom k names acc).lookup y).isSome = true
  | (n, kd) :: r, k, acc, y, h => by
    unfold cellsFrom
    rcases List.mem_cons.mp h with e | h
    · cases e
      rw [if_pos (by rfl)]
      exact cellsFrom_acc (by rw [List.lookup_cons, beq_self_eq_true]; rfl)
    · split <;> exact cellsFrom_has h

theorem ix_get : ∀ {names : List Str} {y : Str} {i : Nat}, ix names y = some i → names[i]? = some y
  | [], _, _, h => by simp [ix] at h
  | z :: r, y, i, h => by
    rcases ix_cons h with ⟨rfl, rfl⟩ | ⟨_, j, rfl, e⟩
    · rfl
    · simpa using ix_get e

structure DefAt (c : CX) (f : Str) (params : Arguments) (body : List Stmt) (scope : Scope) : Prop where
  a : ∃ (fv : Addr) (o : Obj) (pm cd doc : Value), c.mg f = some (.ref fv) ∧ c.base.get? fv = some o ∧ o.data = .func (Calls.docDef f params body scope pm cd doc) ∧ c.base.CodeRec cd f
structure FunOK (f : Str) (params : Arguments) (body : List Stmt) (scope : Scope) (ps : List Str) : Prop where
  bind : ∀ pm cd doc (vs : List Value), vs.length = ps.length → bindArgs (Calls.docDef f params body scope pm cd doc) ⟨vs, []⟩ = pure (ps.zip vs)
  loc : ∀ p ∈ ps, scope.names.lookup p = some .local ∨ scope.names.lookup p = some .cell
  nod : ps.Nodup
  nofree : ∀ y ∈ scope.names, y.2 ≠ .free
  co : scope.isCoroutine = false
  gen : scope.isGenerator = false
  kd : scope.kind = .function

theorem RpL.len {H : Addr → Prop} {α : List Addr} {σ : Store} {h : Heap} {Vs : List V} {vs : List Value} (q : RpL H α σ h Vs vs) : vs.length = Vs.length := by
  induction q with
  | nil => rfl
  | cons _ _ ih => simp [ih]
theorem RpL.get {H : Addr → Prop} {α : List Addr} {σ : Store} {h : Heap} {Vs : List V} {vs : List Value} (q : RpL H α σ h Vs vs) : ∀ {i : Nat} {W : V}, Vs[i]? = some W → ∃ v, vs[i]? = some v ∧ Rp H α σ h W v := by
  induction q with
  | nil => intro i W e; simp at e
  | cons r _ ih =>
    intro i W e
    cases i with
    | zero => simp at e; subst e; exact ⟨_, by simp, r⟩
    | succ i => simp at e ⊢; exact ih e

theorem CallOK.of_body {c : CX} {f : Str} {params : Arguments} {body : List Stmt} {scope : Scope} {ps os : List Str} {ir : IS} {Vs : List V} {σ : Store} {Q : KV} (G : GB c.base c.mg c.mb) (D : DefAt c f params body scope) (F : FunOK f params body scope ps)
    (hn : c.names = ps ++ os) (hk : c.kinds = scope.names) (hd : DenSs c body ir) (hl : Vs.length = ps.length)
    (q : vcS c.C c.tab ir (Vs.map some ++ List.replicate os.length none) σ (RetQ σ Q)) : CallOK c.prog c.w c.base c.mg (c.k + 1) f Vs σ Q := by
  intro A H α s vs fv' o' fd' hR S e1 e2 e3 r
  obtain ⟨fv, o, pm, cd, doc, d1, d2, d3, d4⟩ := D.a
  rw [d1] at e1; cases e1
  rw [d2] at e2; cases e2
  have hvl : vs.length = ps.length := r.len.trans hl
  have hmap : (ps.zip vs).map (·.1) = ps := List.map_fst_zip (by omega)
  refine call_cells_ret (by have := hR.dep; have : recursionLimit = 1000 := rfl; omega) (S.old _ _ d2) d3 (G.lim.keeps S.old) (d4.keeps S.old) (F.bind pm cd doc vs hvl) (fun x hx => ?_) (fun h₁ tk Fr Cl => ?_) F.co F.gen F.kd
  · have hxp : x.1 ∈ ps := by rw [← hmap]; exact List.mem_map_of_mem hx
    rcases F.loc _ hxp with q | q
    · exact .inl q
    · exact .inr ⟨q, cellsFrom_has (mem_of_lk q)⟩
  · have dead : ∀ a, s.heap.objs.size ≤ a → s.heap.get? a = none := fun a ha => get_none_of_lt ha
    have dL : s.heap.get? s.heap.objs.size = none := dead _ (Nat.le_refl _)
    have dC : ∀ x a, (cellsFrom (s.heap.objs.size + 1) scope.names []).lookup x = some a → s.heap.get? a = none := fun x a e => dead a (Nat.le_of_lt (Cl.above x a (mem_of_lookup e)))
    have S1 : SR c.base H α σ h₁ := S.grow Fr.keep
    have V1 : EV (envOfC f scope s.heap.objs.size fv' cd) c.names (Vs.map some ++ List.replicate os.length none) H α σ h₁ := {
      kind := F.kd
      glob := rfl
      bui := rfl
      vars := fun y i W h1 h2 => by
        have hi : Vs[i]? = some W := by
          unfold getR at h2
          rw [List.getElem?_append] at h2
          split at h2
          · rename_i v hv
            split at hv
            · rw [List.getElem?_map] at hv
              cases hq : Vs[i]? with
              | none => rw [hq] at hv; cases hv
              | some w => rw [hq] at hv; simp only [Option.map_some, Option.some.injEq] at hv; rw [← hv] at h2; exact h2
            · rw [List.getElem?_replicate] at hv
              split at hv
              · simp only [Option.some.injEq] at hv; rw [← hv] at h2; cases h2
              · cases hv
          · cases h2
        obtain ⟨v, hv, rp⟩ := r.get hi
        have hil : i < ps.length := by
          rcases Nat.lt_or_ge i vs.length with q | q
          · omega
          · rw [List.getElem?_eq_none q] at hv; cases hv
        have hy : ps[i]? = some y := by
          have := ix_get h1
          rw [hn, List.getElem?_append_left hil] at this; exact this
        have hmem : (y, v) ∈ ps.zip vs := by
          have : (ps.zip vs)[i]? = some (y, v) := by rw [List.getElem?_zip_eq_some]; exact ⟨hy, hv⟩
          exact List.mem_of_getElem? this
        have rp1 : Rp H α σ h₁ W v := rp.ext S (Ext.grow (O := NoO) Fr.keep) noO
        unfold Look
        show match (envOfC f scope s.heap.objs.size fv' cd).kindOf y with | some .local => _ | some .cell => _ | some .free => _ | _ => True
        have hko : (envOfC f scope s.heap.objs.size fv' cd).kindOf y = scope.names.lookup y := rfl
        rcases F.loc y (List.mem_of_getElem? hy) with q | q
        · rw [hko, q]
          exact ⟨_, v, Fr.ns, bindL_get (by rw [hmap]; exact F.nod) hmem (hko.trans q), rp1⟩
        · rw [hko, q]
          obtain ⟨a, ea⟩ := Option.isSome_iff_exists.mp (cellsFrom_has (k := s.heap.objs.size + 1) (acc := []) (mem_of_lk q))
          have hc := Cl.cell y a ea
          rw [bindC_get (by rw [hmap]; exact F.nod) hmem (hko.trans q)] at hc
          exact ⟨a, v, ea, hc, rp1⟩
      ns := ⟨_, Fr.ns⟩
      cel := fun x a e => ⟨_, Cl.cell x a e⟩
      inj := fun x y a ex ey => by
        have hp := Cl.apart
        have m1 := mem_of_lookup ex
        have m2 := mem_of_lookup ey
        by_cases z : x = y
        · exact z
        · exfalso
          have key : ∀ {l : List (Str × Addr)}, l.Pairwise (fun x y => x.2 ≠ y.2) → (x, a) ∈ l → (y, a) ∈ l → False := by
            intro l hp
            induction hp with
            | nil => intro h; cases h
            | @cons b l hb _ ih =>
              intro h1 h2
              rcases List.mem_cons.mp h1 with e1 | h1
              · rcases List.mem_cons.mp h2 with e2 | h2
                · rw [← e1] at e2; exact z (by injection e2 with q _; exact q.symm)
                · exact hb _ h2 (by rw [← e1])
              · rcases List.mem_cons.mp h2 with e2 | h2
                · exact hb _ h1 (by rw [← e2])
                · exact ih h1 h2
          exact key hp m1 m2
      has := fun x kd e1 e2 => by
        have hko : scope.names.lookup x = some kd := e1
        rcases e2 with rfl | rfl
        · exact Option.isSome_iff_exists.mp (cellsFrom_has (mem_of_lk hko))
        · exact absurd rfl (F.nofree (x, .free) (mem_of_lk hko)) }
    have N1 : FrNew c.base (envOfC f scope s.heap.objs.size fv' cd) := ⟨none_back S.old dL, fun x a e => none_back S.old (dC x a e)⟩
    have R1 : Room c.k (A.deeper (envOfC f scope s.heap.objs.size fv' cd)) := ⟨hR.hh, by have := hR.dep; show A.depth + 1 + c.k < 500; omega, by have := hR.un; show A.units + 3 + 4 * c.k + 300 < cLine; omega⟩
    have hd' := hd (envOfC f scope s.heap.objs.size fv' cd) _ H α σ { s with heap := h₁, toks := tk } (A.deeper (envOfC f scope s.heap.objs.size fv' cd)) (RetQ σ Q) hk.symm N1 V1 S1 R1 q
    refine wpAny_mono hd' ?_ fun _ _ f => f
    rintro fl s2 ⟨α', σ', ρ', fl', h2, tk2, rfl, S2, X2, V2, rf, q2⟩
    have own : ∀ a o, s.heap.get? a = some o → ¬ Own (envOfC f scope s.heap.objs.size fv' cd) a := fun a o e z => by
      rcases z with z | ⟨x, z⟩
      · have : some o = none := e.symm.trans (z ▸ dL)
        cases this
      · have : some o = none := e.symm.trans (dC x a z)
        cases this
    have X3 : Ext NoO α σ s.heap α' σ' h2 := {
      pre := X2.pre
      keep := fun a o e m _ => X2.keep a o (Fr.keep a o e) m (own a o e)
      muts := fun a m => (X2.muts a m).imp id fun z => none_back Fr.keep z
      alive := fun a o e => X2.alive a o (Fr.keep a o e)
      nw := fun a m => (X2.nw a m).imp id fun z => none_back Fr.keep z }
    have hsl : α.length = σ.length := S.len
    have X4 : Ext NoO α σ s.heap α (σ'.take σ.length) h2 := {
      pre := List.prefix_refl _
      keep := X3.keep
      muts := fun a m => X3.muts a (muts_trunc X3.pre (hsl ▸ m))
      alive := X3.alive
      nw := fun a m => .inl m }
    have S4 : SR c.base H α (σ'.take σ.length) h2 := hsl ▸ S2.trunc X3.pre
    cases rf with
    | next => exact ⟨α, _, .d .none, h2, tk2, rfl, S4, X4, (by show Rd _ _ _ _; exact .ofNone), q2⟩
    | @ret v W rv =>
      cases W with
      | d x => exact ⟨α, _, .d x, h2, tk2, rfl, S4, X4, Rd.mono (fun _ _ e _ _ => e) (fun a _ _ m => m.imp id fun m => muts_trunc X3.pre (hsl ▸ m)) _ _ rv, q2⟩
      | l n => exact ⟨α', σ', .l n, h2, tk2, rfl, S2, X3, rv, q2⟩
end Mine
end
section
namespace Mine

/-- ends_flow: 0 op -/
noncomputable def nm_ends_flow : List Str := ["op"]
noncomputable def ir_ends_flow : IS :=
  (.seq (.ite (.or (.cmp (.var 0) .eq (.int 56)) (.or (.cmp (.var 0) .eq (.int 42)) (.or (.cmp (.var 0) .eq (.int 122)) (.cmp (.var 0) .eq (.int 221)))))
  (.ret (.bool true))
  .skip) (.ret (.or (.cmp (.var 0) .eq (.int 65050)) (.or (.cmp (.var 0) .eq (.int 220)) (.cmp (.var 0) .eq (.int 65041))))))
/-- is_branch: 0 op -/
noncomputable def nm_is_branch : List Str := ["op"]
noncomputable def ir_is_branch : IS :=
  (.ret (.cmp (.tget (.var 0) (.neg (.int 1))) .eq (.int 5)))
/-- targets: 0 ins -/
noncomputable def nm_targets : List Str := ["ins"]
noncomputable def ir_targets : IS :=
  (.seq (.ite (.cmp (.idx (.var 0) (.int 0)) .eq (.int 69))
  (.ret (.idx (.var 0) (.int 1)))
  .skip) (.seq (.ite (.call "is_branch" (.cons (.idx (.var 0) (.int 0)) .nil))
  (.ret (.tup (.cons (.idx (.var 0) (.int 1)) .nil)))
  .skip) (.ret (.tup .nil))))
/-- prefix_goal: 0 op -/
noncomputable def nm_prefix_goal : List Str := ["op"]
noncomputable def ir_prefix_goal : IS :=
  (.seq (.ite (.cmp (.var 0) .eq (.int 65046))
  (.ret (.int 111))
  .skip) (.seq (.ite (.cmp (.var 0) .eq (.int 65054))
  (.ret (.int 143))
  .skip) (.ret (.neg (.int 1)))))
/-- clause_edges: 0 clause -/
noncomputable def nm_clause_edges : List Str := ["clause"]
noncomputable def ir_clause_edges : IS :=
  (.seq (.ite (.cmp (.idx (.var 0) (.int 0)) .eq (.int 1))
  (.ret (.tup (.cons (.idx (.var 0) (.int 1)) (.cons (.idx (.var 0) (.int 2)) (.cons (.idx (.var 0) (.int 3)) (.cons (.idx (.var 0) (.int 4)) (.cons (.idx (.var 0) (.int 5)) .nil)))))))
  .skip) (.ret (.tup (.cons (.idx (.var 0) (.int 1)) (.cons (.idx (.var 0) (.int 2)) (.cons (.idx (.var 0) (.int 3)) (.cons (.idx (.var 0) (.int 4)) .nil)))))))
/-- check_edges: 0 code, 1 clauses, 2 count, 3 at, 4 clause, 5 edge -/
noncomputable def nm_check_edges : List Str := ["code", "clauses", "count", "at", "clause", "edge"]
noncomputable def ir_check_edges : IS :=
  (.seq (.asg 2 (.len (.var 0))) (.loop 3 (.rng1 (.len (.var 1)))
  (.seq (.asg 4 (.idx (.var 1) (.var 3))) (.seq (.ite (.or (.cmp (.idx (.var 4) (.int 1)) .ge (.var 2)) (.or (.cmp (.idx (.var 4) (.int 3)) .ge (.var 2)) (.and (.cmp (.idx (.var 4) (.int 0)) .eq (.int 1)) (.cmp (.idx (.var 4) (.int 5)) .ge (.var 2)))))
  .fail
  .skip) (.loop 5 (.call "clause_edges" (.cons (.var 4) .nil))
  (.ite (.or (.cmp (.var 5) .lt (.int 0)) (.or (.cmp (.var 5) .gt (.var 2)) (.and (.cmp (.var 5) .gt (.int 0)) (.cmp (.call "prefix_goal" (.cons (.idx (.idx (.var 0) (.bin .sub (.var 5) (.int 1))) (.int 0)) .nil)) .ge (.int 0)))))
  .fail
  .skip))))))
/-- successors: 0 code, 1 i, 2 count, 3 out, 4 goal -/
noncomputable def nm_successors : List Str := ["code", "i", "count", "out", "goal"]
noncomputable def ir_successors : IS :=
  (.seq (.asg 2 (.len (.var 0))) (.seq (.asgNew 3 (.lst .nil)) (.seq (.ite (.and (.not (.call "ends_flow" (.cons (.idx (.idx (.var 0) (.var 1)) (.int 0)) .nil))) (.cmp (.bin .add (.var 1) (.int 1)) .lt (.var 2)))
  (.ex (.app 3 (.bin .add (.var 1) (.int 1))))
  .skip) (.seq (.loop 4 (.call "targets" (.cons (.idx (.var 0) (.var 1)) .nil))
  (.seq (.ite (.or (.cmp (.var 4) .lt (.int 0)) (.cmp (.var 4) .ge (.var 2)))
  .fail
  .skip) (.ite (.cmp (.var 4) .nin (.var 3))
  (.ex (.app 3 (.var 4)))
  .skip))) (.ret (.tupOf (.var 3)))))))
/-- reach_one: 0 seen, 1 work, 2 i -/
noncomputable def nm_reach_one : List Str := ["seen", "work", "i"]
noncomputable def ir_reach_one : IS :=
  (.ite (.and (.cmp (.var 2) .ge (.int 0)) (.and (.cmp (.var 2) .lt (.len (.var 0))) (.not (.idx (.var 0) (.var 2)))))
  (.seq (.setIdx 0 (.var 2) (.bool true)) (.ex (.app 1 (.var 2))))
  .skip)
/-- reachable: 0 code, 1 clauses, 2 seen, 3 work, 4 i, 5 goal, 6 clause -/
noncomputable def nm_reachable : List Str := ["code", "clauses", "seen", "work", "i", "goal", "clause"]
noncomputable def ir_reachable : IS :=
  (.seq (.asgNew 2 (.bin .mul (.lst (.cons (.bool false) .nil)) (.len (.var 0)))) (.seq (.asgNew 3 (.lst .nil)) (.seq (.ex (.call "reach_one" (.cons (.var 2) (.cons (.var 3) (.cons (.int 0) .nil))))) (.seq (.wloop (.cmp (.len (.var 3)) .gt (.int 0))
  (.seq (.asg 4 (.pop 3)) (.seq (.loop 5 (.call "successors" (.cons (.var 0) (.cons (.var 4) .nil)))
  (.ex (.call "reach_one" (.cons (.var 2) (.cons (.var 3) (.cons (.var 5) .nil)))))) (.loop 6 (.var 1)
  (.ite (.and (.cmp (.idx (.var 6) (.int 1)) .le (.var 4)) (.cmp (.var 4) .lt (.idx (.var 6) (.int 2))))
  (.seq (.ex (.call "reach_one" (.cons (.var 2) (.cons (.var 3) (.cons (.idx (.var 6) (.int 3)) .nil))))) (.ite (.cmp (.idx (.var 6) (.int 0)) .eq (.int 1))
  (.ex (.call "reach_one" (.cons (.var 2) (.cons (.var 3) (.cons (.idx (.var 6) (.int 5)) .nil)))))
  .skip))
  .skip))))) (.ret (.var 2))))))
/-- new_places: 0 flags, 1 out, 2 count, 3 one -/
noncomputable def nm_new_places : List Str := ["flags", "out", "count", "one"]
noncomputable def ir_new_places : IS :=
  (.seq (.asgNew 1 (.lst .nil)) (.seq (.asg 2 (.int 0)) (.seq (.loop 3 (.var 0)
  (.seq (.ex (.app 1 (.var 2))) (.ite (.var 3)
  (.aug 2 .add (.int 1))
  .skip))) (.seq (.ex (.app 1 (.var 2))) (.seq (.frz 1) (.ret (.var 1)))))))
/-- move_targets: 0 ins, 1 places, 2 out, 3 goal -/
noncomputable def nm_move_targets : List Str := ["ins", "places", "out", "goal"]
noncomputable def ir_move_targets : IS :=
  (.seq (.ite (.cmp (.idx (.var 0) (.int 0)) .eq (.int 69))
  (.seq (.asgNew 2 (.lst .nil)) (.seq (.loop 3 (.idx (.var 0) (.int 1))
  (.ex (.app 2 (.idx (.var 1) (.var 3))))) (.ret (.tup (.cons (.idx (.var 0) (.int 0)) (.cons (.tupOf (.var 2)) .nil))))))
  .skip) (.seq (.ite (.call "is_branch" (.cons (.idx (.var 0) (.int 0)) .nil))
  (.ret (.tup (.cons (.idx (.var 0) (.int 0)) (.cons (.idx (.var 1) (.idx (.var 0) (.int 1))) .nil))))
  .skip) (.ret (.var 0))))
/-- move_clause: 0 clause, 1 places, 2 extra -/
noncomputable def nm_move_clause : List Str := ["clause", "places", "extra"]
noncomputable def ir_move_clause : IS :=
  (.seq (.asg 2 (.idx (.var 0) (.int 5))) (.seq (.ite (.cmp (.idx (.var 0) (.int 0)) .eq (.int 1))
  (.asg 2 (.idx (.var 1) (.var 2)))
  .skip) (.ret (.tup (.cons (.idx (.var 0) (.int 0)) (.cons (.idx (.var 1) (.idx (.var 0) (.int 1))) (.cons (.idx (.var 1) (.idx (.var 0) (.int 2))) (.cons (.idx (.var 1) (.idx (.var 0) (.int 3))) (.cons (.idx (.var 1) (.idx (.var 0) (.int 4))) (.cons (.var 2) .nil))))))))))
/-- keep_only: 0 code, 1 clauses, 2 kept, 3 places, 4 out, 5 i, 6 edges, 7 clause -/
noncomputable def nm_keep_only : List Str := ["code", "clauses", "kept", "places", "out", "i", "edges", "clause"]
noncomputable def ir_keep_only : IS :=
  (.seq (.asg 3 (.call "new_places" (.cons (.var 2) .nil))) (.seq (.asgNew 4 (.lst .nil)) (.seq (.loop 5 (.rng1 (.len (.var 0)))
  (.ite (.idx (.var 2) (.var 5))
  (.ex (.app 4 (.call "move_targets" (.cons (.idx (.var 0) (.var 5)) (.cons (.var 3) .nil)))))
  .skip)) (.seq (.asgNew 6 (.lst .nil)) (.seq (.loop 7 (.var 1)
  (.ex (.app 6 (.call "move_clause" (.cons (.var 7) (.cons (.var 3) .nil)))))) (.seq (.frz 4) (.seq (.frz 6) (.ret (.tup (.cons (.var 4) (.cons (.var 6) (.cons (.var 3) .nil))))))))))))
/-- clause_lives: 0 clause, 1 kept, 2 i -/
noncomputable def nm_clause_lives : List Str := ["clause", "kept", "i"]
noncomputable def ir_clause_lives : IS :=
  (.seq (.loop 2 (.rng (.idx (.var 0) (.int 1)) (.idx (.var 0) (.int 2)))
  (.ite (.idx (.var 1) (.var 2))
  (.ret (.bool true))
  .skip)) (.ret (.bool false)))
/-- drop_dead: 0 code, 1 clauses, 2 handled, 3 kept, 4 live, 5 clause -/
noncomputable def nm_drop_dead : List Str := ["code", "clauses", "handled", "kept", "live", "clause"]
noncomputable def ir_drop_dead : IS :=
  (.seq (.ex (.call "check_edges" (.cons (.var 0) (.cons (.var 1) .nil)))) (.seq (.asg 2 (.comp (.var 0) (.var 1) (.cmp (.idx (.var 0) (.int 3)) .lt (.idx (.var 0) (.int 4))))) (.seq (.asg 3 (.call "reachable" (.cons (.var 0) (.cons (.var 2) .nil)))) (.seq (.asgNew 4 (.lst .nil)) (.seq (.loop 5 (.var 2)
  (.ite (.call "clause_lives" (.cons (.var 5) (.cons (.var 3) .nil)))
  (.ex (.app 4 (.var 5)))
  .skip)) (.seq (.frz 4) (.seq (.loop 5 (.var 4)
  (.ite (.and (.cmp (.idx (.var 5) (.int 0)) .eq (.int 1)) (.and (.cmp (.idx (.var 5) (.int 3)) .gt (.int 0)) (.cmp (.idx (.idx (.var 0) (.bin .sub (.idx (.var 5) (.int 3)) (.int 1))) (.int 0)) .eq (.int 65041))))
  (.setIdx 3 (.bin .sub (.idx (.var 5) (.int 3)) (.int 1)) (.bool true))
  .skip)) (.seq (.frz 3) (.ret (.call "keep_only" (.cons (.var 0) (.cons (.var 4) (.cons (.var 3) .nil)))))))))))))
/-- region_key: 0 clauses, 1 i, 2 out, 3 place, 4 clause -/
noncomputable def nm_region_key : List Str := ["clauses", "i", "out", "place", "clause"]
noncomputable def ir_region_key : IS :=
  (.seq (.asgNew 2 (.lst .nil)) (.seq (.loop 3 (.rng1 (.len (.var 0)))
  (.seq (.asg 4 (.idx (.var 0) (.var 3))) (.seq (.ite (.and (.cmp (.idx (.var 4) (.int 1)) .le (.var 1)) (.cmp (.var 1) .lt (.idx (.var 4) (.int 2))))
  (.ex (.app 2 (.bin .mul (.int 3) (.var 3))))
  .skip) (.seq (.ite (.and (.cmp (.idx (.var 4) (.int 0)) .eq (.int 1)) (.and (.cmp (.idx (.var 4) (.int 5)) .le (.var 1)) (.cmp (.var 1) .lt (.idx (.var 4) (.int 3)))))
  (.ex (.app 2 (.bin .add (.bin .mul (.int 3) (.var 3)) (.int 1))))
  .skip) (.ite (.and (.cmp (.idx (.var 4) (.int 3)) .le (.var 1)) (.cmp (.var 1) .lt (.idx (.var 4) (.int 4))))
  (.ex (.app 2 (.bin .add (.bin .mul (.int 3) (.var 3)) (.int 2))))
  .skip))))) (.ret (.tupOf (.var 2)))))
/-- chain_end: 0 code, 1 clauses, 2 i, 3 goal, 4 key, 5 seen, 6 at -/
noncomputable def nm_chain_end : List Str := ["code", "clauses", "i", "goal", "key", "seen", "at"]
noncomputable def ir_chain_end : IS :=
  (.seq (.asg 4 (.call "region_key" (.cons (.var 1) (.cons (.var 2) .nil)))) (.seq (.asgNew 5 (.lst .nil)) (.seq (.asg 6 (.call "checked_goal" (.cons (.var 0) (.cons (.var 2) (.cons (.var 3) .nil))))) (.seq (.wloop (.and (.cmp (.idx (.idx (.var 0) (.var 6)) (.int 0)) .eq (.int 56)) (.cmp (.call "region_key" (.cons (.var 1) (.cons (.var 6) .nil))) .eq (.var 4)))
  (.seq (.ite (.cmp (.var 6) .inn (.var 5))
  (.ret (.var 3))
  .skip) (.seq (.ex (.app 5 (.var 6))) (.asg 6 (.call "checked_goal" (.cons (.var 0) (.cons (.var 6) (.cons (.idx (.idx (.var 0) (.var 6)) (.int 1)) .nil)))))))) (.ret (.var 6))))))
/-- checked_goal: 0 code, 1 i, 2 goal -/
noncomputable def nm_checked_goal : List Str := ["code", "i", "goal"]
noncomputable def ir_checked_goal : IS :=
  (.seq (.ite (.or (.cmp (.var 2) .lt (.int 0)) (.cmp (.var 2) .ge (.len (.var 0))))
  .fail
  .skip) (.ret (.var 2)))
/-- thread_one: 0 code, 1 clauses, 2 i, 3 ins, 4 out, 5 goal -/
noncomputable def nm_thread_one : List Str := ["code", "clauses", "i", "ins", "out", "goal"]
noncomputable def ir_thread_one : IS :=
  (.seq (.asg 3 (.idx (.var 0) (.var 2))) (.seq (.ite (.cmp (.idx (.var 3) (.int 0)) .eq (.int 69))
  (.seq (.asgNew 4 (.lst .nil)) (.seq (.loop 5 (.idx (.var 3) (.int 1))
  (.ex (.app 4 (.call "chain_end" (.cons (.var 0) (.cons (.var 1) (.cons (.var 2) (.cons (.var 5) .nil)))))))) (.ret (.tup (.cons (.idx (.var 3) (.int 0)) (.cons (.tupOf (.var 4)) .nil))))))
  .skip) (.seq (.ite (.and (.call "is_branch" (.cons (.idx (.var 3) (.int 0)) .nil)) (.cmp (.idx (.var 3) (.int 0)) .ne (.int 221)))
  (.ret (.tup (.cons (.idx (.var 3) (.int 0)) (.cons (.call "chain_end" (.cons (.var 0) (.cons (.var 1) (.cons (.var 2) (.cons (.idx (.var 3) (.int 1)) .nil))))) .nil))))
  .skip) (.seq (.ite (.cmp (.idx (.var 3) (.int 0)) .eq (.int 221))
  (.ex (.call "checked_goal" (.cons (.var 0) (.cons (.var 2) (.cons (.idx (.var 3) (.int 1)) .nil)))))
  .skip) (.ret (.var 3))))))
/-- is_edge: 0 clauses, 1 i, 2 clause -/
noncomputable def nm_is_edge : List Str := ["clauses", "i", "clause"]
noncomputable def ir_is_edge : IS :=
  (.seq (.loop 2 (.var 0)
  (.ite (.cmp (.var 1) .inn (.call "clause_edges" (.cons (.var 2) .nil)))
  (.ret (.bool true))
  .skip)) (.ret (.bool false)))
/-- thread_in: 0 code, 1 clauses, 2 count -/
noncomputable def nm_thread_in : List Str := ["code", "clauses", "count"]
noncomputable def ir_thread_in : IS :=
  (.seq (.ex (.call "check_edges" (.cons (.var 0) (.cons (.var 1) .nil)))) (.seq (.asg 2 (.bin .add (.len (.var 0)) (.int 1))) (.seq (.wloop (.cmp (.len (.var 0)) .lt (.var 2))
  (.seq (.asg 2 (.len (.var 0))) (.asgT [0, 1] (.call "thread_round" (.cons (.var 0) (.cons (.var 1) .nil)))))) (.ret (.tup (.cons (.var 0) (.cons (.var 1) .nil)))))))
/-- thread_round: 0 code, 1 clauses, 2 rows, 3 i, 4 kept, 5 idle, 6 out -/
noncomputable def nm_thread_round : List Str := ["code", "clauses", "rows", "i", "kept", "idle", "out"]
noncomputable def ir_thread_round : IS :=
  (.seq (.asgNew 2 (.lst .nil)) (.seq (.loop 3 (.rng1 (.len (.var 0)))
  (.ex (.app 2 (.call "thread_one" (.cons (.var 0) (.cons (.var 1) (.cons (.var 3) .nil))))))) (.seq (.asgNew 4 (.lst .nil)) (.seq (.loop 3 (.rng1 (.len (.var 2)))
  (.seq (.asg 5 (.and (.cmp (.idx (.idx (.var 2) (.var 3)) (.int 0)) .eq (.int 56)) (.and (.cmp (.idx (.idx (.var 2) (.var 3)) (.int 1)) .eq (.bin .add (.var 3) (.int 1))) (.cmp (.bin .add (.var 3) (.int 1)) .lt (.len (.var 2)))))) (.ex (.app 4 (.or (.not (.var 5)) (.or (.call "is_edge" (.cons (.var 1) (.cons (.var 3) .nil))) (.call "is_edge" (.cons (.var 1) (.cons (.bin .add (.var 3) (.int 1)) .nil))))))))) (.seq (.frz 2) (.seq (.frz 4) (.seq (.asg 6 (.call "keep_only" (.cons (.var 2) (.cons (.var 1) (.cons (.var 4) .nil))))) (.ret (.tup (.cons (.idx (.var 6) (.int 0)) (.cons (.idx (.var 6) (.int 1)) .nil)))))))))))
/-- _law_row: 0 v, 1 size, 2 k, 3 t -/
noncomputable def nm_law_row : List Str := ["v", "size", "k", "t"]
noncomputable def ir_law_row : IS :=
  (.seq (.asg 2 (.bin .mod (.var 0) (.int 8))) (.seq (.asg 3 (.bin .div (.var 0) (.int 8))) (.seq (.ite (.cmp (.var 2) .lt (.int 2))
  (.ret (.tup (.cons (.int 32) (.cons (.bin .mod (.var 3) (.int 50)) .nil))))
  .skip) (.seq (.ite (.cmp (.var 2) .lt (.int 4))
  (.ret (.tup (.cons (.int 56) (.cons (.bin .mod (.var 3) (.var 1)) .nil))))
  .skip) (.seq (.ite (.cmp (.var 2) .eq (.int 4))
  (.ret (.tup (.cons (.idx (.tup (.cons (.int 57) (.cons (.int 58) (.cons (.int 59) (.cons (.int 68) .nil))))) (.bin .mod (.var 3) (.int 4))) (.cons (.bin .mod (.bin .div (.var 3) (.int 4)) (.var 1)) .nil))))
  .skip) (.seq (.ite (.cmp (.var 2) .eq (.int 5))
  (.ret (.tup (.cons (.int 69) (.cons (.tupOf (.comp (.bin .mod (.bin .add (.bin .div (.var 4) (.int 3)) (.bin .mul (.bin .mul (.int 3) (.var 0)) (.var 0))) (.var 2)) (.rng1 (.bin .add (.bin .mod (.var 3) (.int 3)) (.int 1))) .nil)) .nil))))
  .skip) (.seq (.ite (.cmp (.var 2) .eq (.int 6))
  (.ret (.tup (.cons (.int 221) (.cons (.bin .mod (.var 3) (.var 1)) .nil))))
  .skip) (.ret (.tup (.cons (.idx (.tup (.cons (.int 122) (.cons (.int 220) (.cons (.int 65041) (.cons (.int 42) (.cons (.int 0) .nil)))))) (.bin .mod (.var 3) (.int 5))) (.cons (.int 0) .nil)))))))))))
/-- _law_clauses: 0 q, 1 size, 2 out, 3 j, 4 w, 5 sort, 6 t0, 7 h0 -/
noncomputable def nm_law_clauses : List Str := ["q", "size", "out", "j", "w", "sort", "t0", "h0"]
noncomputable def ir_law_clauses : IS :=
  (.seq (.asgNew 2 (.lst .nil)) (.seq (.loop 3 (.rng1 (.bin .mod (.var 0) (.int 4)))
  (.seq (.asg 4 (.bin .add (.bin .div (.var 0) (.int 4)) (.bin .mul (.int 1003) (.var 3)))) (.seq (.asg 5 (.idx (.tup (.cons (.int 0) (.cons (.int 1) (.cons (.int 2) (.cons (.int 4) .nil))))) (.bin .mod (.bin .div (.var 4) (.bin .add (.int 1) (.bin .mul (.int 2) (.var 3)))) (.int 4)))) (.seq (.asg 6 (.bin .mod (.bin .div (.var 4) (.int 4)) (.bin .sub (.var 1) (.int 1)))) (.seq (.asg 7 (.bin .add (.int 1) (.bin .mod (.bin .div (.var 4) (.int 16)) (.bin .sub (.var 1) (.int 1))))) (.ex (.app 2 (.tup (.cons (.var 5) (.cons (.var 6) (.cons (.min2 (.bin .add (.bin .add (.var 6) (.int 1)) (.bin .mod (.bin .div (.var 4) (.int 64)) (.int 5))) (.var 1)) (.cons (.var 7) (.cons (.min2 (.bin .add (.bin .add (.var 7) (.int 1)) (.bin .mod (.bin .div (.var 4) (.int 256)) (.int 4))) (.var 1)) (.cons (.ite (.cmp (.var 5) .eq (.int 1)) (.bin .mod (.bin .div (.var 4) (.int 128)) (.var 7)) (.int 0)) .nil)))))))))))))) (.seq (.frz 2) (.ret (.var 2)))))
/-- _law_thrown: 0 clauses, 1 conts, 2 first, 3 at, 4 j, 5 sort, 6 t0, 7 t1, 8 h0, 9 h1, 10 extra -/
noncomputable def nm_law_thrown : List Str := ["clauses", "conts", "first", "at", "j", "sort", "t0", "t1", "h0", "h1", "extra"]
noncomputable def ir_law_thrown : IS :=
  (.seq (.loop 4 (.rng (.var 2) (.len (.var 0)))
  (.seq (.asgT [5, 6, 7, 8, 9, 10] (.idx (.var 0) (.var 4))) (.ite (.cmp2 (.var 6) .le (.var 3) .lt (.var 7))
  (.seq (.ite (.var 5)
  (.ex (.app 1 (.tup (.cons (.int 1) (.cons (.var 4) (.cons (.var 3) (.cons (.int 0) .nil)))))))
  .skip) (.ret (.ite (.cmp (.var 5) .eq (.int 1)) (.var 10) (.var 8))))
  .skip))) (.ret (.neg (.int 1))))
/-- _law_leaving: 0 clauses, 1 conts, 2 first, 3 at, 4 goal, 5 j, 6 sort, 7 t0, 8 t1, 9 h0, 10 h1, 11 extra -/
noncomputable def nm_law_leaving : List Str := ["clauses", "conts", "first", "at", "goal", "j", "sort", "t0", "t1", "h0", "h1", "extra"]
noncomputable def ir_law_leaving : IS :=
  (.seq (.loop 5 (.rng (.var 2) (.len (.var 0)))
  (.seq (.asgT [6, 7, 8, 9, 10, 11] (.idx (.var 0) (.var 5))) (.ite (.and (.cmp (.var 6) .eq (.int 2)) (.and (.cmp2 (.var 7) .le (.var 3) .lt (.var 8)) (.not (.cmp2 (.var 7) .le (.var 4) .lt (.var 8)))))
  (.seq (.ex (.app 1 (.tup (.cons (.int 2) (.cons (.var 5) (.cons (.var 3) (.cons (.var 4) .nil))))))) (.ret (.var 9)))
  .skip))) (.ret (.var 4)))
/-- _law_ended: 0 clauses, 1 conts, 2 answer, 3 sort, 4 j, 5 at, 6 goal -/
noncomputable def nm_law_ended : List Str := ["clauses", "conts", "answer", "sort", "j", "at", "goal"]
noncomputable def ir_law_ended : IS :=
  (.seq (.ite (.cmp (.var 1) .eq (.lst .nil))
  (.ret (.neg (.int 2)))
  .skip) (.seq (.asgT [3, 4, 5, 6] (.pop 1)) (.seq (.ite (.cmp (.var 3) .eq (.int 2))
  (.ret (.call "_law_leaving" (.cons (.var 0) (.cons (.var 1) (.cons (.bin .add (.var 4) (.int 1)) (.cons (.var 5) (.cons (.var 6) .nil)))))))
  .skip) (.seq (.ite (.var 2)
  (.ret (.idx (.idx (.var 0) (.var 4)) (.int 3)))
  .skip) (.ret (.call "_law_thrown" (.cons (.var 0) (.cons (.var 1) (.cons (.bin .add (.var 4) (.int 1)) (.cons (.var 5) .nil))))))))))
/-- _law_move: 0 code, 1 clauses, 2 conts, 3 at, 4 choice, 5 op, 6 goal, 7 way -/
noncomputable def nm_law_move : List Str := ["code", "clauses", "conts", "at", "choice", "op", "goal", "way"]
noncomputable def ir_law_move : IS :=
  (.seq (.asgT [5, 6] (.idx (.var 0) (.var 3))) (.seq (.ite (.or (.cmp (.var 5) .eq (.int 32)) (.cmp (.var 5) .eq (.int 0)))
  (.ret (.ite (.cmp (.bin .mod (.var 4) (.int 4)) .eq (.int 3)) (.call "_law_thrown" (.cons (.var 1) (.cons (.var 2) (.cons (.int 0) (.cons (.var 3) .nil))))) (.bin .add (.var 3) (.int 1))))
  .skip) (.seq (.ite (.cmp (.var 5) .eq (.int 69))
  (.seq (.asg 7 (.bin .mod (.var 4) (.bin .add (.len (.var 6)) (.int 1)))) (.ret (.ite (.cmp (.var 7) .lt (.len (.var 6))) (.idx (.var 6) (.var 7)) (.bin .add (.var 3) (.int 1)))))
  .skip) (.seq (.ite (.cmp (.var 5) .eq (.int 221))
  (.ret (.call "_law_leaving" (.cons (.var 1) (.cons (.var 2) (.cons (.int 0) (.cons (.var 3) (.cons (.var 6) .nil)))))))
  .skip) (.seq (.ite (.cmp (.var 5) .eq (.int 122))
  (.ret (.call "_law_thrown" (.cons (.var 1) (.cons (.var 2) (.cons (.int 0) (.cons (.var 3) .nil))))))
  .skip) (.seq (.ite (.cmp (.var 5) .eq (.int 220))
  (.ret (.call "_law_ended" (.cons (.var 1) (.cons (.var 2) (.cons (.bool false) .nil)))))
  .skip) (.seq (.ite (.cmp (.var 5) .eq (.int 65041))
  (.ret (.call "_law_ended" (.cons (.var 1) (.cons (.var 2) (.cons (.cmp (.bin .mod (.var 4) (.int 2)) .eq (.int 1)) .nil)))))
  .skip) (.seq (.ite (.cmp (.var 5) .eq (.int 42))
  (.ret (.neg (.int 3)))
  .skip) (.ret (.ite (.bin .mod (.var 4) (.int 2)) (.var 6) (.bin .add (.var 3) (.int 1))))))))))))
/-- _law_run: 0 code, 1 clauses, 2 tape, 3 seen, 4 conts, 5 at, 6 still, 7 op, 8 goal, 9 choice -/
noncomputable def nm_law_run : List Str := ["code", "clauses", "tape", "seen", "conts", "at", "still", "op", "goal", "choice"]
noncomputable def ir_law_run : IS :=
  (.seq (.asgNew 3 (.lst .nil)) (.seq (.asgNew 4 (.lst .nil)) (.seq (.asg 5 (.int 0)) (.seq (.asg 6 (.int 0)) (.seq (.wloop (.and (.cmp2 (.int 0) .le (.var 5) .lt (.len (.var 0))) (.cmp (.len (.var 3)) .lt (.int 30)))
  (.seq (.asgT [7, 8] (.idx (.var 0) (.var 5))) (.ite (.cmp (.var 7) .eq (.int 56))
  (.seq (.aug 6 .add (.int 1)) (.seq (.ite (.cmp (.var 6) .gt (.len (.var 0)))
  (.ret (.bin .add (.var 3) (.lst (.cons (.tup (.cons (.neg (.int 4)) (.cons (.int 0) .nil))) .nil))))
  .skip) (.asg 5 (.var 8))))
  (.seq (.asg 6 (.int 0)) (.seq (.asg 9 (.bin .add (.idx (.var 2) (.bin .mod (.len (.var 3)) (.len (.var 2)))) (.bin .div (.len (.var 3)) (.len (.var 2))))) (.seq (.ex (.app 3 (.tup (.cons (.var 7) (.cons (.ite (.cmp (.var 7) .eq (.int 32)) (.var 8) (.int 0)) .nil))))) (.asg 5 (.call "_law_move" (.cons (.var 0) (.cons (.var 1) (.cons (.var 4) (.cons (.var 5) (.cons (.var 9) .nil))))))))))))) (.ret (.bin .add (.var 3) (.lst (.cons (.tup (.cons (.min2 (.var 5) (.int 0)) (.cons (.int 0) .nil))) .nil)))))))))
/-- _law_goals: 0 row -/
noncomputable def nm_law_goals : List Str := ["row"]
noncomputable def ir_law_goals : IS :=
  (.seq (.ite (.cmp (.idx (.var 0) (.int 0)) .eq (.int 69))
  (.ret (.lstOf (.idx (.var 0) (.int 1))))
  .skip) (.seq (.ite (.cmp2 (.int 56) .le (.idx (.var 0) (.int 0)) .lt (.int 69))
  (.ret (.lst (.cons (.idx (.var 0) (.int 1)) .nil)))
  .skip) (.ret (.lst .nil))))
/-- _law_parts: 0 clauses, 1 i -/
noncomputable def nm_law_parts : List Str := ["clauses", "i"]
noncomputable def ir_law_parts : IS :=
  (.ret (.comp (.tup (.cons (.cmp2 (.idx (.var 0) (.int 1)) .le (.var 2) .lt (.idx (.var 0) (.int 2))) (.cons (.and (.cmp (.idx (.var 0) (.int 0)) .eq (.int 1)) (.cmp2 (.idx (.var 0) (.int 5)) .le (.var 2) .lt (.idx (.var 0) (.int 3)))) (.cons (.cmp2 (.idx (.var 0) (.int 3)) .le (.var 2) .lt (.idx (.var 0) (.int 4))) .nil)))) (.var 0) .nil))
/-- _law_threaded: 0 code, 1 clauses, 2 i, 3 goal, 4 at, 5 steps -/
noncomputable def nm_law_threaded : List Str := ["code", "clauses", "i", "goal", "at", "steps"]
noncomputable def ir_law_threaded : IS :=
  (.seq (.loop 2 (.rng1 (.len (.var 0)))
  (.seq (.loop 3 (.call "_law_goals" (.cons (.idx (.var 0) (.var 2)) .nil))
  (.seq (.asg 4 (.var 3)) (.seq (.asg 5 (.int 0)) (.seq (.wloop (.and (.cmp (.var 5) .le (.len (.var 0))) (.and (.cmp (.idx (.idx (.var 0) (.var 4)) (.int 0)) .eq (.int 56)) (.cmp (.call "_law_parts" (.cons (.var 1) (.cons (.var 4) .nil))) .eq (.call "_law_parts" (.cons (.var 1) (.cons (.var 2) .nil))))))
  (.seq (.asg 4 (.idx (.idx (.var 0) (.var 4)) (.int 1))) (.aug 5 .add (.int 1)))) (.ite (.cmp2 (.int 0) .lt (.var 5) .le (.len (.var 0)))
  (.ret (.bool false))
  .skip))))) (.ite (.and (.cmp (.idx (.var 0) (.var 2)) .eq (.tup (.cons (.int 56) (.cons (.bin .add (.var 2) (.int 1)) .nil)))) (.cmp (.bin .add (.var 2) (.int 1)) .lt (.len (.var 0))))
  (.ite (.not (.comp (.var 0) (.var 1) (.or (.cmp (.var 3) .inn (.call "_law_edges" (.cons (.var 0) .nil))) (.cmp (.bin .add (.var 3) (.int 1)) .inn (.call "_law_edges" (.cons (.var 0) .nil))))))
  (.ret (.bool false))
  .skip)
  .skip))) (.ret (.bool true)))
/-- _law_edges: 0 c -/
noncomputable def nm_law_edges : List Str := ["c"]
noncomputable def ir_law_edges : IS :=
  (.ret (.ite (.cmp (.idx (.var 0) (.int 0)) .eq (.int 1)) (.lstOf (.slc (.var 0) 1 6)) (.lstOf (.slc (.var 0) 1 5))))
/-- _law_came: 0 code, 1 clauses, 2 came, 3 turn, 4 i, 5 goals, 6 c, 7 goal -/
noncomputable def nm_law_came : List Str := ["code", "clauses", "came", "turn", "i", "goals", "c", "goal"]
noncomputable def ir_law_came : IS :=
  (.seq (.asgNew 2 (.lst (.cons (.int 0) .nil))) (.seq (.asg 3 (.int 0)) (.seq (.wloop (.cmp (.var 3) .lt (.len (.var 2)))
  (.seq (.asg 4 (.idx (.var 2) (.var 3))) (.seq (.aug 3 .add (.int 1)) (.seq (.asg 5 (.call "_law_goals" (.cons (.idx (.var 0) (.var 4)) .nil))) (.seq (.ite (.cmp (.idx (.idx (.var 0) (.var 4)) (.int 0)) .eq (.int 221))
  (.asg 5 (.lst (.cons (.idx (.idx (.var 0) (.var 4)) (.int 1)) .nil)))
  .skip) (.seq (.ite (.cmp (.idx (.idx (.var 0) (.var 4)) (.int 0)) .nin (.tup (.cons (.int 56) (.cons (.int 42) (.cons (.int 122) (.cons (.int 220) (.cons (.int 65041) (.cons (.int 221) .nil))))))))
  (.asg 5 (.bin .add (.var 5) (.lst (.cons (.bin .add (.var 4) (.int 1)) .nil))))
  .skip) (.seq (.loop 6 (.var 1)
  (.ite (.cmp2 (.idx (.var 6) (.int 1)) .le (.var 4) .lt (.idx (.var 6) (.int 2)))
  (.asg 5 (.bin .add (.var 5) (.ite (.cmp (.idx (.var 6) (.int 0)) .eq (.int 1)) (.lst (.cons (.idx (.var 6) (.int 3)) (.cons (.idx (.var 6) (.int 5)) .nil))) (.lst (.cons (.idx (.var 6) (.int 3)) .nil)))))
  .skip)) (.loop 7 (.var 5)
  (.ite (.and (.cmp (.var 7) .lt (.len (.var 0))) (.cmp (.var 7) .nin (.var 2)))
  (.ex (.app 2 (.var 7)))
  .skip))))))))) (.seq (.frz 2) (.ret (.var 2))))))
/-- _law_left: 0 first, 1 edges, 2 dropped, 3 came, 4 lives, 5 closing, 6 stay, 7 places, 8 want, 9 c, 10 rest, 11 kept, 12 given -/
noncomputable def nm_law_left : List Str := ["first", "edges", "dropped", "came", "lives", "closing", "stay", "places", "want", "c", "rest", "kept", "given"]
noncomputable def ir_law_left : IS :=
  (.seq (.asg 3 (.call "_law_came" (.cons (.var 0) (.cons (.var 1) .nil)))) (.seq (.asg 4 (.comp (.var 0) (.var 1) (.comp (.var 0) (.var 4) (.cmp2 (.idx (.var 1) (.int 1)) .le (.var 0) .lt (.idx (.var 1) (.int 2)))))) (.seq (.asg 5 (.comp (.bin .sub (.idx (.var 0) (.int 3)) (.int 1)) (.var 4) (.and (.cmp (.idx (.var 0) (.int 0)) .eq (.int 1)) (.and (.cmp (.idx (.var 0) (.int 3)) .gt (.int 0)) (.cmp (.idx (.idx (.var 1) (.bin .sub (.idx (.var 0) (.int 3)) (.int 1))) (.int 0)) .eq (.int 65041)))))) (.seq (.asg 6 (.comp (.var 0) (.rng1 (.len (.var 0))) (.or (.cmp (.var 0) .inn (.var 4)) (.cmp (.var 0) .inn (.var 6))))) (.seq (.asg 7 (.comp (.len (.comp (.var 0) (.var 7) (.cmp (.var 0) .lt (.var 1)))) (.rng1 (.bin .add (.len (.var 0)) (.int 1))) .nil)) (.seq (.asgNew 8 (.lst .nil)) (.seq (.loop 9 (.var 4)
  (.ex (.app 8 (.tup (.cons (.idx (.var 9) (.int 0)) (.cons (.idx (.var 7) (.idx (.var 9) (.int 1))) (.cons (.idx (.var 7) (.idx (.var 9) (.int 2))) (.cons (.idx (.var 7) (.idx (.var 9) (.int 3))) (.cons (.idx (.var 7) (.idx (.var 9) (.int 4))) (.cons (.ite (.cmp (.idx (.var 9) (.int 0)) .eq (.int 1)) (.idx (.var 7) (.idx (.var 9) (.int 5))) (.idx (.var 9) (.int 5))) .nil)))))))))) (.seq (.asgT [10, 11, 12] (.var 2)) (.ret (.and (.cmp (.var 12) .eq (.var 7)) (.and (.cmp (.var 11) .eq (.var 8)) (.cmp (.comp (.idx (.var 0) (.int 0)) (.var 10) .nil) .eq (.comp (.idx (.idx (.var 1) (.var 0)) (.int 0)) (.var 6) .nil)))))))))))))
/-- law: 0 script, 1 numbers, 2 size, 3 code, 4 clauses, 5 seed, 6 tape, 7 before, 8 first, 9 edges, 10 dropped -/
noncomputable def nm_law : List Str := ["script", "numbers", "size", "code", "clauses", "seed", "tape", "before", "first", "edges", "dropped"]
noncomputable def ir_law : IS :=
  (.seq (.asg 1 (.ite (.cmp (.len (.var 0)) .gt (.int 2)) (.slc (.var 0) 2 18) (.lst (.cons (.int 18) (.cons (.int 29) (.cons (.int 4) (.cons (.int 0) .nil))))))) (.seq (.asg 2 (.bin .add (.len (.var 1)) (.int 2))) (.seq (.asg 3 (.bin .add (.comp (.call "_law_row" (.cons (.var 0) (.cons (.var 3) .nil))) (.var 1) .nil) (.lst (.cons (.tup (.cons (.int 32) (.cons (.int 77) .nil))) (.cons (.tup (.cons (.int 42) (.cons (.int 0) .nil))) .nil))))) (.seq (.asg 4 (.call "_law_clauses" (.cons (.ite (.cmp (.len (.var 0)) .gt (.int 1)) (.idx (.var 0) (.int 1)) (.int 1)) (.cons (.var 2) .nil)))) (.seq (.asg 5 (.ite (.var 0) (.idx (.var 0) (.int 0)) (.int 6))) (.seq (.asg 6 (.comp (.bin .mod (.bin .div (.var 6) (.bin .pow (.int 5) (.var 0))) (.int 5)) (.rng1 (.int 9)) .nil)) (.seq (.asg 7 (.call "_law_run" (.cons (.var 3) (.cons (.var 4) (.cons (.var 6) .nil))))) (.seq (.asgT [8, 9] (.call "thread_in" (.cons (.lstOf (.var 3)) (.cons (.lstOf (.var 4)) .nil)))) (.seq (.ite (.or (.cmp (.len (.var 8)) .gt (.len (.var 3))) (.not (.call "_law_threaded" (.cons (.var 8) (.cons (.var 9) .nil)))))
  (.ret (.bool false))
  .skip) (.seq (.asg 10 (.call "drop_dead" (.cons (.lstOf (.var 8)) (.cons (.lstOf (.var 9)) .nil)))) (.seq (.ite (.not (.call "_law_left" (.cons (.var 8) (.cons (.var 9) (.cons (.var 10) .nil)))))
  (.ret (.bool false))
  .skip) (.ret (.and (.cmp (.call "_law_run" (.cons (.var 8) (.cons (.var 9) (.cons (.var 6) .nil)))) .eq (.var 7)) (.cmp (.call "_law_run" (.cons (.idx (.var 10) (.int 0)) (.cons (.idx (.var 10) (.int 1)) (.cons (.var 6) .nil)))) .eq (.var 7)))))))))))))))
end Mine
end
section
namespace Mine

noncomputable def constTab : List (Str × Int) := [("OP_RET", 42), ("OP_BR", 56), ("OP_SWITCH", 69), ("OP_CALLVIRT", 111), ("OP_THROW", 122), ("OP_LDELEMA", 143), ("OP_ENDFINALLY", 220), ("OP_LEAVE", 221), ("OP_ENDFILTER", 65041), ("OP_CONSTRAINED", 65046), ("OP_RETHROW", 65050), ("OP_READONLY", 65054), ("EC_FILTER", 1), ("SO_BRANCH", 5)]
noncomputable def buiTab : List (Str × Value) := [("len", .builtin "len"), ("min", .builtin "min"), ("tuple", .type "tuple"), ("list", .type "list"), ("range", .type "range")]
noncomputable def fnNames : List Str := (["ends_flow", "is_branch", "targets", "prefix_goal", "clause_edges", "check_edges", "successors", "reach_one", "reachable", "new_places", "move_targets", "move_clause", "keep_only", "clause_lives", "drop_dead", "region_key"] : List Str) ++
  (["chain_end", "checked_goal", "thread_one", "is_edge", "thread_in", "thread_round", "_law_row", "_law_clauses", "_law_thrown", "_law_leaving", "_law_ended", "_law_move", "_law_run", "_law_goals", "_law_parts", "_law_threaded", "_law_edges", "_law_came", "_law_left"] : List Str)
structure GX (c : CX) : Prop where
  gb : GB c.base c.mg c.mb
  consts : ∀ x i, constTab.lookup x = some i → ∃ t, c.mg x = some (.int i t)
  bui : ∀ x v, buiTab.lookup x = some v → c.mg x = none ∧ c.mb x = some v
  fns : ∀ f, fnNames.contains f = true → ∃ (fv : Addr) (o : Obj) (fd : FuncData), c.mg f = some (.ref fv) ∧ c.base.get? fv = some o ∧ o.data = .func fd
  tab : ∃ d kvs, c.mg "OP_SORT" = some (.ref d) ∧ (d == sysModules) = false ∧ c.base.DictOf (intKind c.prog c.w) d kvs ∧ ∀ (k j : Int) (u : Tok), ∃ t, (valueAt kvs k).getD (.int j u) = .int ((c.tab k).getD j) t

noncomputable def isGlob (c : CX) (x : Str) : Bool := c.kinds.lookup x == some .globalImplicit && !(x == ("__debug__" : Str))
noncomputable def varOK (c : CX) (x : Str) (i : Nat) : Bool := (c.kinds.lookup x == some .local || c.kinds.lookup x == some .cell || c.kinds.lookup x == some .free) && ix c.names x == some i && !(x == ("__classdict__" : Str)) && !(x == ("__debug__" : Str))
noncomputable def setOK (c : CX) (x : Str) (i : Nat) : Bool := (c.kinds.lookup x == some .local || c.kinds.lookup x == some .cell) && ix c.names x == some i && !(x == ("__classdict__" : Str))

section
variable {c : CX}
theorem GX.comp (X : GX c) (x : Str) (s : Scope) : GX (c.comp x s) := ⟨X.gb, X.consts, X.bui, X.fns, X.tab⟩
theorem isGlob_of {x : Str} (h : isGlob c x = true) : c.kinds.lookup x = some .globalImplicit ∧ (x == ("__debug__" : Str)) = false := by
  unfold isGlob at h; simp only [Bool.and_eq_true, beq_iff_eq, Bool.not_eq_true'] at h; exact h
theorem varOK_of {x : Str} {i : Nat} (h : varOK c x i = true) : ∃ kd, c.kinds.lookup x = some kd ∧ (kd = .local ∨ kd = .cell ∨ kd = .free) ∧ ix c.names x = some i ∧ (x == ("__classdict__" : Str)) = false ∧ (x == ("__debug__" : Str)) = false := by
  unfold varOK at h
  simp only [Bool.and_eq_true, Bool.or_eq_true, beq_iff_eq, Bool.not_eq_true'] at h
  obtain ⟨⟨⟨h1, h2⟩, h3⟩, h4⟩ := h
  rcases h1 with (h1 | h1) | h1
  · exact ⟨_, h1, .inl rfl, h2, h3, h4⟩
  · exact ⟨_, h1, .inr (.inl rfl), h2, h3, h4⟩
  · exact ⟨_, h1, .inr (.inr rfl), h2, h3, h4⟩
theorem setOK_of {x : Str} {i : Nat} (h : setOK c x i = true) : ∃ kd, c.kinds.lookup x = some kd ∧ (kd = .local ∨ kd = .cell) ∧ ix c.names x = some i ∧ (x == ("__classdict__" : Str)) = false := by
  unfold setOK at h
  simp only [Bool.and_eq_true, Bool.or_eq_true, beq_iff_eq, Bool.not_eq_true'] at h
  obtain ⟨⟨h1, h2⟩, h3⟩ := h
  rcases h1 with h1 | h1
  · exact ⟨_, h1, .inl rfl, h2, h3⟩
  · exact ⟨_, h1, .inr rfl, h2, h3⟩

namespace D
theorem var {x : Str} {pos : Pos} {i : Nat} (h : varOK c x i = true) : DenE c (.Name x pos) (.var i) := let ⟨_, a, b, d, e, f⟩ := varOK_of h; DenE.var a b d e f
theorem gint (X : GX c) {x : Str} {pos : Pos} {i : Int} (h : isGlob c x = true) (hi : constTab.lookup x = some i) : DenE c (.Name x pos) (.int i) := let ⟨a, b⟩ := isGlob_of h; let ⟨t, e⟩ := X.consts x i hi; DenE.gint (t := t) X.gb a e b
theorem bui (X : GX c) {x : Str} {v : Value} (h : isGlob c x = true) (hv : buiTab.lookup x = some v) : Bui c x v := let ⟨a, b⟩ := isGlob_of h; let ⟨e, f⟩ := X.bui x v hv; ⟨a, e, f, b⟩
theorem len (X : GX c) {e : Expr} {p pos : Pos} {a : IE} (h : isGlob c "len" = true) (ha : DenE c e a) (hs : NS e) : DenE c (.Call (.Name "len" p) [e] [] pos) (.len a) := DenE.len X.gb (bui X h rfl) ha hs
theorem tupOf (X : GX c) {e : Expr} {p pos : Pos} {a : IE} (h : isGlob c "tuple" = true) (ha : DenE c e a) (hs : NS e) : DenE c (.Call (.Name "tuple" p) [e] [] pos) (.tupOf a) := DenE.tupOf X.gb (bui X h rfl) ha hs
theorem lstOf (X : GX c) {e : Expr} {p pos : Pos} {a : IE} (h : isGlob c "list" = true) (ha : DenE c e a) (hs : NS e) : DenE c (.Call (.Name "list" p) [e] [] pos) (.lstOf a) := DenE.lstOf X.gb (bui X h rfl) ha hs
theorem min2 (X : GX c) {e f : Expr} {p pos : Pos} {a b : IE} (h : isGlob c "min" = true) (ha : DenE c e a) (hb : DenE c f b) (hs : NS e) (hs' : NS f) : DenE c (.Call (.Name "min" p) [e, f] [] pos) (.min2 a b) := DenE.min2 X.gb (bui X h rfl) ha hb hs hs'
theorem rng1 (X : GX c) {f : Expr} {p pos : Pos} {b : IE} (h : isGlob c "range" = true) (hb : DenE c f b) (hs : NS f) : DenI c (.Call (.Name "range" p) [f] [] pos) (.rng1 b) := DenI.rng1 X.gb (bui X h rfl) hb hs
theorem rng (X : GX c) {e f : Expr} {p pos : Pos} {a b : IE} (h : isGlob c "range" = true) (ha : DenE c e a) (hb : DenE c f b) (hs : NS e) (hs' : NS f) : DenI c (.Call (.Name "range" p) [e, f] [] pos) (.rng a b) := DenI.rng X.gb (bui X h rfl) ha hb hs hs'
theorem call (X : GX c) {f : Str} {p pos : Pos} {e : Expr} {es : List Expr} {a : IE} (h : isGlob c f = true) (hf : fnNames.contains f = true) (ha : DenL c (e :: es) a) (hs : NS e) : DenE c (.Call (.Name f p) (e :: es) [] pos) (.call f a) :=
  let ⟨u, v⟩ := isGlob_of h; DenE.call X.gb ⟨u, v, X.fns f hf⟩ ha hs
theorem app {x : Str} {px apos pos : Pos} {e : Expr} {i : Nat} {a : IE} (h : varOK c x i = true) (hline : (apos.endLine == pos.line) = true) (ha : DenE c e a) (hs : NS e) : DenE c (.Call (.Attribute (.Name x px) "append" apos) [e] [] pos) (.app i a) :=
  let ⟨_, p, q, r, s, t⟩ := varOK_of h; DenE.app p q r s t hline ha hs
theorem pop {x : Str} {px apos pos : Pos} {i : Nat} (h : varOK c x i = true) (hline : (apos.endLine == pos.line) = true) : DenE c (.Call (.Attribute (.Name x px) "pop" apos) [] [] pos) (.pop i) :=
  let ⟨_, p, q, r, s, t⟩ := varOK_of h; DenE.pop p q r s t hline
theorem tget (X : GX c) {px apos pos : Pos} {e f : Expr} {a b : IE} (h : isGlob c "OP_SORT" = true) (hline : (apos.endLine == pos.line) = true) (ha : DenE c e a) (hb : DenE c f b) (hs : NS e) (hs' : NS f) :
    DenE c (.Call (.Attribute (.Name "OP_SORT" px) "get" apos) [e, f] [] pos) (.tget a b) := let ⟨u, v⟩ := isGlob_of h; DenE.tget X.gb ⟨u, v, X.tab⟩ hline ha hb hs hs'
theorem idx {v i : Expr} {pos : Pos} {a b : IE} (ha : DenE c v a) (hb : DenE c i b) (hs : ∀ o j, subscripted i false o j = operate [o, j] (getItem o j)) : DenE c (.Subscript v i pos) (.idx a b) := DenE.idx ha hb hs

noncomputable def compOK0 (c : CX) (x : Str) (scope : Scope) : Bool :=
  (scope.names.all fun y => !(y.2 == .cell)) && scope.kind == .function && (scope.names.all fun y => !(y.2 == .local) || scope.names.lookup y.1 == some .local) && scope.names.lookup x == some .local &&
  (scope.names.all fun y => !(y.2 == .local) || y.1 == x || ix c.names y.1 == none) && (scope.names.all fun y => !(y.2 == .free) || c.kinds.lookup y.1 == some .cell || c.kinds.lookup y.1 == some .free)
theorem compOK_of0 {x : Str} {scope : Scope} (h : compOK0 c x scope = true) : CompOK c x scope := by
  unfold compOK0 at h
  simp only [Bool.and_eq_true, List.all_eq_true, Bool.or_eq_true, Bool.not_eq_true', beq_iff_eq, beq_eq_false_iff_ne] at h
  obtain ⟨⟨⟨⟨⟨h1, h2⟩, h3⟩, h4⟩, h5⟩, h6⟩ := h
  refine ⟨h1, h2, fun y hy hl => ?_, h4, fun y hy hl => ?_, fun y hy hl => ?_⟩
  · exact (h3 y hy).resolve_left fun z => z hl
  · rcases h5 y hy with (z | z) | z
    · exact absurd hl z
    · exact .inl z
    · exact .inr z
  · rcases h6 y hy with (z | z) | z
    · exact absurd hl z
    · exact .inl z
    · exact .inr z
noncomputable def compOKC (c : CX) (x : Str) (scope : Scope) : Bool :=
  (scope.names.filter (fun y => y.2 == .cell)) == [(x, .cell)] && scope.kind == .function && (scope.names.all fun y => !(y.2 == .local) || scope.names.lookup y.1 == some .local) && scope.names.lookup x == some .cell &&
  (scope.names.all fun y => !(y.2 == .local) || (ix c.names y.1 == none && !(y.1 == x))) && (scope.names.all fun y => !(y.2 == .free) || c.kinds.lookup y.1 == some .cell || c.kinds.lookup y.1 == some .free)
theorem compOK_ofC {x : Str} {scope : Scope} (h : compOKC c x scope = true) : CompOKC c x scope := by
  unfold compOKC at h
  simp only [Bool.and_eq_true, List.all_eq_true, Bool.or_eq_true, Bool.not_eq_true', beq_iff_eq, beq_eq_false_iff_ne] at h
  obtain ⟨⟨⟨⟨⟨h1, h2⟩, h3⟩, h4⟩, h5⟩, h6⟩ := h
  refine ⟨h1, h2, fun y hy hl => ?_, h4, fun y hy hl => ?_, fun y hy hl => ?_⟩
  · exact (h3 y hy).resolve_left fun z => z hl
  · exact (h5 y hy).resolve_left fun z => z hl
  · rcases h6 y hy with (z | z) | z
    · exact absurd hl z
    · exact .inl z
    · exact .inr z
noncomputable def compOK (c : CX) (x : Str) (scope : Scope) : Bool := compOK0 c x scope || compOKC c x scope
theorem compOK_of {x : Str} {scope : Scope} (h : compOK c x scope = true) : CompEither c x scope := by
  unfold compOK at h
  rw [Bool.or_eq_true] at h
  exact h.imp compOK_of0 compOK_ofC
theorem comp {elt iter : Expr} {x : Str} {px : Pos} {ifs : List Expr} {scope : Scope} {pos : Pos} {is ie ic : IE} (K : compOK c x scope = true) (hi : DenI c iter is) (he : DenE (c.comp x scope) elt ie) (hc : DenIf (c.comp x scope) ifs ic)
    (hs : ∀ env x, foldedSetIterable iter env x = pure x) : DenE c (.ListComp elt [⟨.Name x px, iter, ifs, 0⟩] scope pos) (.comp ie is ic) := DenE.comp (compOK_of K) hi he hc hs

theorem rep {es : List Expr} {lpos : Pos} {r : Expr} {pos : Pos} {a b : IE} (ha : DenL c es a) (hb : DenE c r b) : DenN c (.BinOp (.List es lpos) .Mult r pos) (.bin .mul (.lst a) b) := by
  refine DenN.rep (DenN.lst ha).toE hb fun ρ σ Q q => ?_
  have mL := (vcX_mono (C := c.C) (tab := c.tab) CallOK.mono a).L
  have mE := (vcX_mono (C := c.C) (tab := c.tab) CallOK.mono b).E
  refine mL ρ σ _ _ q fun vs σ1 q => ob_mono q fun xs ⟨hl, q⟩ => ⟨hl, xs, rfl, ?_⟩
  refine mE ρ σ1 _ _ q fun y σ2 q => ?_
  obtain ⟨DX, e1, q1⟩ := ob_iff.mp q
  obtain ⟨DY, e2, q2⟩ := ob_iff.mp q1
  obtain ⟨DZ, e3, q3⟩ := ob_iff.mp q2
  clear q q1 q2
  simp only [rdV, Option.some.injEq] at e1
  subst e1
  have e3 : mulP (.list xs) DY = some DZ := e3
  rcases mulP_some e3 with ⟨a, j, e4, rfl, hb, rfl⟩ | ⟨a, j, e4, _⟩
  · obtain rfl := PyData.list.inj e4
    cases y with
    | d Y =>
      simp only [rdV, Option.some.injEq] at e2
      subst e2
      exact ⟨j, rfl, hb.2.2.1, hb.2.1, hb.2.2.2, q3⟩
    | l n =>
      simp only [rdV] at e2
      split at e2 <;> cases e2
  · cases e4

/-! statements -/
theorem asg {x : Str} {px pos : Pos} {e : Expr} {i : Nat} {a : IE} (h : setOK c x i = true) (ha : DenE c e a) (hs : ∀ (t : Expr) (l : Nat) env, swapsWith e (some t) l env = pure false) : DenS c (.Assign [.Name x px] e pos) (.asg i a) :=
  let ⟨_, p, q, r, _⟩ := setOK_of h; DenS.asg p q r ha fun env _ _ => hs _ _ env
theorem asgNew {x : Str} {px pos : Pos} {e : Expr} {i : Nat} {a : IE} (h : setOK c x i = true) (ha : DenN c e a) (hs : ∀ (t : Expr) (l : Nat) env, swapsWith e (some t) l env = pure false) : DenS c (.Assign [.Name x px] e pos) (.asgNew i a) :=
  let ⟨_, p, q, r, _⟩ := setOK_of h; DenS.asgNew p q r ha fun env _ _ => hs _ _ env
theorem asgComp {x y : Str} {px py pos spos : Pos} {elt iter : Expr} {ifs : List Expr} {scope : Scope} {i : Nat} {is ie ic : IE} (hy : (c.kinds.lookup y == some .local && ix c.names y == some i && py.line == pos.line && !(scope.names.any fun (n, k) => n == y && (k == .local || k == .cell))) = true) (K : compOK c x scope = true) (hit : DenI c iter is) (he : DenE (c.comp x scope) elt ie) (hc : DenIf (c.comp x scope) ifs ic)
    (hs : ∀ env x, foldedSetIterable iter env x = pure x) :
    DenS c (.Assign [.Name y py] (.ListComp elt [⟨.Name x px, iter, ifs, 0⟩] scope pos) spos) (.asg i (.comp ie is ic)) := by
  simp only [Bool.and_eq_true, beq_iff_eq, Bool.not_eq_true'] at hy
  exact DenS.asgComp hy.1.1.1 hy.1.1.2 (compOK_of K) hit he hc hs (by simpa using hy.1.2) hy.2
/-- the name is a cell: stored behind -/
theorem asgCompC {x y : Str} {px py pos spos : Pos} {elt iter : Expr} {ifs : List Expr} {scope : Scope} {i : Nat} {is ie ic : IE} (hy : (c.kinds.lookup y == some .cell && ix c.names y == some i) = true) (K : compOK c x scope = true) (hit : DenI c iter is) (he : DenE (c.comp x scope) elt ie) (hc : DenIf (c.comp x scope) ifs ic)
    (hs : ∀ env x, foldedSetIterable iter env x = pure x) :
    DenS c (.Assign [.Name y py] (.ListComp elt [⟨.Name x px, iter, ifs, 0⟩] scope pos) spos) (.asg i (.comp ie is ic)) := by
  simp only [Bool.and_eq_true, beq_iff_eq] at hy
  refine DenS.asg hy.1 (.inr rfl) hy.2 (comp K hit he hc hs) fun env hk hn => ?_
  show (pure (env.blockKind == .function && env.kindOf y == some .local && py.line == pos.line && !(scope.names.any fun (n, k) => n == y && (k == .local || k == .cell))) : Sem Bool) = _
  rw [(Env.kindOf_of hn y).trans hy.1]
  have : (some NameKind.cell == some NameKind.local) = false := rfl
  rw [this]; simp
theorem aug {x : Str} {px pos : Pos} {e : Expr} {i : Nat} {a : IE} (h : setOK c x i = true) (ha : DenE c e a) : DenS c (.AugAssign (.Name x px) .Add e pos) (.aug i .add a) := let ⟨_, p, q, r, s⟩ := setOK_of h; DenS.aug p q r s ha
theorem setIdx {x : Str} {px ps pos : Pos} {ei e : Expr} {i : Nat} {a b : IE} (h : varOK c x i = true) (ha : DenE c ei a) (hb : DenE c e b) (hs : ∀ (t : Expr) (l : Nat) env, swapsWith e (some t) l env = pure false) : DenS c (.Assign [.Subscript (.Name x px) ei ps] e pos) (.setIdx i a b) :=
  let ⟨_, p, q, r, s, t⟩ := varOK_of h; DenS.setIdx p q r s t ha hb fun env _ _ => hs _ _ env
theorem loop {x : Str} {px pos : Pos} {iter : Expr} {body : List Stmt} {i : Nat} {is : IE} {b : IS} (h : setOK c x i = true) (hit : DenI c iter is) (hb : DenSs c body b) (hs : ∀ env x, foldedSetIterable iter env x = pure x) : DenS c (.For (.Name x px) iter body [] pos) (.loop i is b) :=
  let ⟨_, p, q, r, _⟩ := setOK_of h; DenS.loop p q r hit hb hs
theorem tgtCons {x : Str} {px : Pos} {i : Nat} {es : List Expr} {is : List Nat} (h : setOK c x i = true) (T : TgtOK c es is) : TgtOK c (.Name x px :: es) (i :: is) := let ⟨_, p, q, r, _⟩ := setOK_of h; .cons p q r T
end D
end
end Mine
end
section
namespace Mine
structure FD where
  name : Str
  params : Arguments
  body : List Stmt
  scope : Scope
noncomputable def theDefs : List FD := PySem.Challenge.pw_sa0228_01.main.body.filterMap fun
  | .FunctionDef n a b _ _ _ s _ _ _ => some ⟨n, a, b, s⟩
  | _ => none
noncomputable def fdOf (i : Nat) : FD := match theDefs[i]? with | some d => d | none => ⟨"", { posonlyargs := [], args := [], vararg := none, kwonlyargs := [], kw_defaults := [], kwarg := none, defaults := [] }, [], { kind := .module, names := [], isGenerator := false, isCoroutine := false, more := [] }⟩
set_option maxHeartbeats 4000000
section
variable {prog : Program} {w : World} {base : Heap} {mg mb : Str → Option Value} {tab : Int → Option Int} {k : Nat}

noncomputable def cx_ends_flow (prog : Program) (w : World) (base : Heap) (mg mb : Str → Option Value) (tab : Int → Option Int) (k : Nat) : CX := ⟨prog, w, base, mg, mb, tab, k, nm_ends_flow, (fdOf 0).scope.names⟩
theorem d_ends_flow (X : GX (cx_ends_flow prog w base mg mb tab k)) : DenSs (cx_ends_flow prog w base mg mb tab k) (fdOf 0).body ir_ends_flow :=
  (DenSs.cons (DenS.ite (DenT.boolOp (DenBT.or (DenT.cmp (o := .eq) (D.var (by kernel_rfl)) (D.gint X (by kernel_rfl) (by kernel_rfl)) (by kernel_rfl)) (DenBT.or (DenT.cmp (o := .eq) (D.var (by kernel_rfl)) (D.gint X (by kernel_rfl) (by kernel_rfl)) (by kernel_rfl)) (DenBT.or (DenT.cmp (o := .eq) (D.var (by kernel_rfl)) (D.gint X (by kernel_rfl) (by kernel_rfl)) (by kernel_rfl)) (DenBT.one (DenT.cmp (o := .eq) (D.var (by kernel_rfl)) (D.gint X (by kernel_rfl) (by kernel_rfl)) (by kernel_rfl)))))))
  (DenSs.one (DenS.ret DenE.bool))
  DenSs.nil) (DenSs.one (DenS.ret (DenE.boolOp (DenBE.or (DenE.cmp (o := .eq) (D.var (by kernel_rfl)) (D.gint X (by kernel_rfl) (by kernel_rfl)) (by kernel_rfl)) (DenBE.or (DenE.cmp (o := .eq) (D.var (by kernel_rfl)) (D.gint X (by kernel_rfl) (by kernel_rfl)) (by kernel_rfl)) (DenBE.one (DenE.cmp (o := .eq) (D.var (by kernel_rfl)) (D.gint X (by kernel_rfl) (by kernel_rfl)) (by kernel_rfl)))))))))
noncomputable def cx_is_branch (prog : Program) (w : World) (base : Heap) (mg mb : Str → Option Value) (tab : Int → Option Int) (k : Nat) : CX := ⟨prog, w, base, mg, mb, tab, k, nm_is_branch, (fdOf 1).scope.names⟩
theorem d_is_branch (X : GX (cx_is_branch prog w base mg mb tab k)) : DenSs (cx_is_branch prog w base mg mb tab k) (fdOf 1).body ir_is_branch :=
  (DenSs.one (DenS.ret (DenE.cmp (o := .eq) (D.tget X (by kernel_rfl) (by kernel_rfl) (D.var (by kernel_rfl)) (DenE.neg DenE.int) (fun _ _ => rfl) (fun _ _ => rfl)) (D.gint X (by kernel_rfl) (by kernel_rfl)) (by kernel_rfl))))
noncomputable def cx_targets (prog : Program) (w : World) (base : Heap) (mg mb : Str → Option Value) (tab : Int → Option Int) (k : Nat) : CX := ⟨prog, w, base, mg, mb, tab, k, nm_targets, (fdOf 2).scope.names⟩
theorem d_targets (X : GX (cx_targets prog w base mg mb tab k)) : DenSs (cx_targets prog w base mg mb tab k) (fdOf 2).body ir_targets :=
  (DenSs.cons (DenS.ite (DenT.cmp (o := .eq) (D.idx (D.var (by kernel_rfl)) DenE.int (fun _ _ => rfl)) (D.gint X (by kernel_rfl) (by kernel_rfl)) (by kernel_rfl))
  (DenSs.one (DenS.ret (D.idx (D.var (by kernel_rfl)) DenE.int (fun _ _ => rfl))))
  DenSs.nil) (DenSs.cons (DenS.ite (DenT.ofE (D.call X (by kernel_rfl) (by kernel_rfl) (DenL.cons (D.idx (D.var (by kernel_rfl)) DenE.int (fun _ _ => rfl)) DenL.nil (fun _ => rfl)) (fun _ _ => rfl)) (fun _ _ _ q => q) (fun _ _ => rfl))
  (DenSs.one (DenS.ret (DenE.tup (DenL.cons (D.idx (D.var (by kernel_rfl)) DenE.int (fun _ _ => rfl)) DenL.nil (fun _ => rfl)))))
  DenSs.nil) (DenSs.one (DenS.ret (DenE.tup DenL.nil)))))
noncomputable def cx_prefix_goal (prog : Program) (w : World) (base : Heap) (mg mb : Str → Option Value) (tab : Int → Option Int) (k : Nat) : CX := ⟨prog, w, base, mg, mb, tab, k, nm_prefix_goal, (fdOf 3).scope.names⟩
theorem d_prefix_goal (X : GX (cx_prefix_goal prog w base mg mb tab k)) : DenSs (cx_prefix_goal prog w base mg mb tab k) (fdOf 3).body ir_prefix_goal :=
  (DenSs.cons (DenS.ite (DenT.cmp (o := .eq) (D.var (by kernel_rfl)) (D.gint X (by kernel_rfl) (by kernel_rfl)) (by kernel_rfl))
  (DenSs.one (DenS.ret (D.gint X (by kernel_rfl) (by kernel_rfl))))
  DenSs.nil) (DenSs.cons (DenS.ite (DenT.cmp (o := .eq) (D.var (by kernel_rfl)) (D.gint X (by kernel_rfl) (by kernel_rfl)) (by kernel_rfl))
  (DenSs.one (DenS.ret (D.gint X (by kernel_rfl) (by kernel_rfl))))
  DenSs.nil) (DenSs.one (DenS.ret (DenE.neg DenE.int)))))
noncomputable def cx_clause_edges (prog : Program) (w : World) (base : Heap) (mg mb : Str → Option Value) (tab : Int → Option Int) (k : Nat) : CX := ⟨prog, w, base, mg, mb, tab, k, nm_clause_edges, (fdOf 4).scope.names⟩
theorem d_clause_edges (X : GX (cx_clause_edges prog w base mg mb tab k)) : DenSs (cx_clause_edges prog w base mg mb tab k) (fdOf 4).body ir_clause_edges :=
  (DenSs.cons (DenS.ite (DenT.cmp (o := .eq) (D.idx (D.var (by kernel_rfl)) DenE.int (fun _ _ => rfl)) (D.gint X (by kernel_rfl) (by kernel_rfl)) (by kernel_rfl))
  (DenSs.one (DenS.ret (DenE.tup (DenL.cons (D.idx (D.var (by kernel_rfl)) DenE.int (fun _ _ => rfl)) (DenL.cons (D.idx (D.var (by kernel_rfl)) DenE.int (fun _ _ => rfl)) (DenL.cons (D.idx (D.var (by kernel_rfl)) DenE.int (fun _ _ => rfl)) (DenL.cons (D.idx (D.var (by kernel_rfl)) DenE.int (fun _ _ => rfl)) (DenL.cons (D.idx (D.var (by kernel_rfl)) DenE.int (fun _ _ => rfl)) DenL.nil (fun _ => rfl)) (fun _ => rfl)) (fun _ => rfl)) (fun _ => rfl)) (fun _ => rfl)))))
  DenSs.nil) (DenSs.one (DenS.ret (DenE.tup (DenL.cons (D.idx (D.var (by kernel_rfl)) DenE.int (fun _ _ => rfl)) (DenL.cons (D.idx (D.var (by kernel_rfl)) DenE.int (fun _ _ => rfl)) (DenL.cons (D.idx (D.var (by kernel_rfl)) DenE.int (fun _ _ => rfl)) (DenL.cons (D.idx (D.var (by kernel_rfl)) DenE.int (fun _ _ => rfl)) DenL.nil (fun _ => rfl)) (fun _ => rfl)) (fun _ => rfl)) (fun _ => rfl))))))
noncomputable def cx_check_edges (prog : Program) (w : World) (base : Heap) (mg mb : Str → Option Value) (tab : Int → Option Int) (k : Nat) : CX := ⟨prog, w, base, mg, mb, tab, k, nm_check_edges, (fdOf 5).scope.names⟩
theorem d_check_edges (X : GX (cx_check_edges prog w base mg mb tab k)) : DenSs (cx_check_edges prog w base mg mb tab k) (fdOf 5).body ir_check_edges :=
  (DenSs.cons (D.asg (by kernel_rfl) (D.len X (by kernel_rfl) (D.var (by kernel_rfl)) (fun _ _ => rfl)) (fun _ _ _ => rfl)) (DenSs.one (D.loop (by kernel_rfl) (D.rng1 X (by kernel_rfl) (D.len X (by kernel_rfl) (D.var (by kernel_rfl)) (fun _ _ => rfl)) (fun _ _ => rfl))
  (DenSs.cons (D.asg (by kernel_rfl) (D.idx (D.var (by kernel_rfl)) (D.var (by kernel_rfl)) (fun _ _ => rfl)) (fun _ _ _ => rfl)) (DenSs.cons (DenS.ite (DenT.boolOp (DenBT.or (DenT.cmp (o := .ge) (D.idx (D.var (by kernel_rfl)) DenE.int (fun _ _ => rfl)) (D.var (by kernel_rfl)) (by kernel_rfl)) (DenBT.or (DenT.cmp (o := .ge) (D.idx (D.var (by kernel_rfl)) DenE.int (fun _ _ => rfl)) (D.var (by kernel_rfl)) (by kernel_rfl)) (DenBT.one (DenT.boolOp (DenBT.and (DenT.cmp (o := .eq) (D.idx (D.var (by kernel_rfl)) DenE.int (fun _ _ => rfl)) (D.gint X (by kernel_rfl) (by kernel_rfl)) (by kernel_rfl)) (DenBT.one (DenT.cmp (o := .ge) (D.idx (D.var (by kernel_rfl)) DenE.int (fun _ _ => rfl)) (D.var (by kernel_rfl)) (by kernel_rfl)))))))))
  (DenSs.one DenS.fail)
  DenSs.nil) (DenSs.one (D.loop (by kernel_rfl) (DenI.seq (D.call X (by kernel_rfl) (by kernel_rfl) (DenL.cons (D.var (by kernel_rfl)) DenL.nil (fun _ => rfl)) (fun _ _ => rfl)) (fun _ _ _ q => q))
  (DenSs.one (DenS.ite (DenT.boolOp (DenBT.or (DenT.cmp (o := .lt) (D.var (by kernel_rfl)) DenE.int (by kernel_rfl)) (DenBT.or (DenT.cmp (o := .gt) (D.var (by kernel_rfl)) (D.var (by kernel_rfl)) (by kernel_rfl)) (DenBT.one (DenT.boolOp (DenBT.and (DenT.cmp (o := .gt) (D.var (by kernel_rfl)) DenE.int (by kernel_rfl)) (DenBT.one (DenT.cmp (o := .ge) (D.call X (by kernel_rfl) (by kernel_rfl) (DenL.cons (D.idx (D.idx (D.var (by kernel_rfl)) (DenE.bin (o := .sub) (D.var (by kernel_rfl)) DenE.int) (fun _ _ => rfl)) DenE.int (fun _ _ => rfl)) DenL.nil (fun _ => rfl)) (fun _ _ => rfl)) DenE.int (by kernel_rfl)))))))))
  (DenSs.one DenS.fail)
  DenSs.nil)) (fun _ _ => rfl))))) (fun _ _ => rfl))))
noncomputable def cx_successors (prog : Program) (w : World) (base : Heap) (mg mb : Str → Option Value) (tab : Int → Option Int) (k : Nat) : CX := ⟨prog, w, base, mg, mb, tab, k, nm_successors, (fdOf 6).scope.names⟩
theorem d_successors (X : GX (cx_successors prog w base mg mb tab k)) : DenSs (cx_successors prog w base mg mb tab k) (fdOf 6).body ir_successors :=
  (DenSs.cons (D.asg (by kernel_rfl) (D.len X (by kernel_rfl) (D.var (by kernel_rfl)) (fun _ _ => rfl)) (fun _ _ _ => rfl)) (DenSs.cons (D.asgNew (by kernel_rfl) (DenN.lst DenL.nil) (fun _ _ _ => rfl)) (DenSs.cons (DenS.ite (DenT.boolOp (DenBT.and (DenT.not (DenT.ofE (D.call X (by kernel_rfl) (by kernel_rfl) (DenL.cons (D.idx (D.idx (D.var (by kernel_rfl)) (D.var (by kernel_rfl)) (fun _ _ => rfl)) DenE.int (fun _ _ => rfl)) DenL.nil (fun _ => rfl)) (fun _ _ => rfl)) (fun _ _ _ q => q) (fun _ _ => rfl))) (DenBT.one (DenT.cmp (o := .lt) (DenE.bin (o := .add) (D.var (by kernel_rfl)) DenE.int) (D.var (by kernel_rfl)) (by kernel_rfl)))))
  (DenSs.one (DenS.ex (D.app (by kernel_rfl) (by kernel_rfl) (DenE.bin (o := .add) (D.var (by kernel_rfl)) DenE.int) (fun _ _ => rfl)) (fun _ => rfl)))
  DenSs.nil) (DenSs.cons (D.loop (by kernel_rfl) (DenI.seq (D.call X (by kernel_rfl) (by kernel_rfl) (DenL.cons (D.idx (D.var (by kernel_rfl)) (D.var (by kernel_rfl)) (fun _ _ => rfl)) DenL.nil (fun _ => rfl)) (fun _ _ => rfl)) (fun _ _ _ q => q))
  (DenSs.cons (DenS.ite (DenT.boolOp (DenBT.or (DenT.cmp (o := .lt) (D.var (by kernel_rfl)) DenE.int (by kernel_rfl)) (DenBT.one (DenT.cmp (o := .ge) (D.var (by kernel_rfl)) (D.var (by kernel_rfl)) (by kernel_rfl)))))
  (DenSs.one DenS.fail)
  DenSs.nil) (DenSs.one (DenS.ite (DenT.cmp (o := .nin) (D.var (by kernel_rfl)) (D.var (by kernel_rfl)) (by kernel_rfl))
  (DenSs.one (DenS.ex (D.app (by kernel_rfl) (by kernel_rfl) (D.var (by kernel_rfl)) (fun _ _ => rfl)) (fun _ => rfl)))
  DenSs.nil))) (fun _ _ => rfl)) (DenSs.one (DenS.ret (D.tupOf X (by kernel_rfl) (D.var (by kernel_rfl)) (fun _ _ => rfl))))))))
noncomputable def cx_reach_one (prog : Program) (w : World) (base : Heap) (mg mb : Str → Option Value) (tab : Int → Option Int) (k : Nat) : CX := ⟨prog, w, base, mg, mb, tab, k, nm_reach_one, (fdOf 7).scope.names⟩
theorem d_reach_one (X : GX (cx_reach_one prog w base mg mb tab k)) : DenSs (cx_reach_one prog w base mg mb tab k) (fdOf 7).body ir_reach_one :=
  (DenSs.one (DenS.ite (DenT.boolOp (DenBT.and (DenT.cmp (o := .ge) (D.var (by kernel_rfl)) DenE.int (by kernel_rfl)) (DenBT.and (DenT.cmp (o := .lt) (D.var (by kernel_rfl)) (D.len X (by kernel_rfl) (D.var (by kernel_rfl)) (fun _ _ => rfl)) (by kernel_rfl)) (DenBT.one (DenT.not (DenT.ofE (D.idx (D.var (by kernel_rfl)) (D.var (by kernel_rfl)) (fun _ _ => rfl)) (fun _ _ _ q => q) (fun _ _ => rfl)))))))
  (DenSs.cons (D.setIdx (by kernel_rfl) (D.var (by kernel_rfl)) DenE.bool (fun _ _ _ => rfl)) (DenSs.one (DenS.ex (D.app (by kernel_rfl) (by kernel_rfl) (D.var (by kernel_rfl)) (fun _ _ => rfl)) (fun _ => rfl))))
  DenSs.nil))
noncomputable def cx_reachable (prog : Program) (w : World) (base : Heap) (mg mb : Str → Option Value) (tab : Int → Option Int) (k : Nat) : CX := ⟨prog, w, base, mg, mb, tab, k, nm_reachable, (fdOf 8).scope.names⟩
theorem d_reachable (X : GX (cx_reachable prog w base mg mb tab k)) : DenSs (cx_reachable prog w base mg mb tab k) (fdOf 8).body ir_reachable :=
  (DenSs.cons (D.asgNew (by kernel_rfl) (D.rep (DenL.cons DenE.bool DenL.nil (fun _ => rfl)) (D.len X (by kernel_rfl) (D.var (by kernel_rfl)) (fun _ _ => rfl))) (fun _ _ _ => rfl)) (DenSs.cons (D.asgNew (by kernel_rfl) (DenN.lst DenL.nil) (fun _ _ _ => rfl)) (DenSs.cons (DenS.ex (D.call X (by kernel_rfl) (by kernel_rfl) (DenL.cons (D.var (by kernel_rfl)) (DenL.cons (D.var (by kernel_rfl)) (DenL.cons DenE.int DenL.nil (fun _ => rfl)) (fun _ => rfl)) (fun _ => rfl)) (fun _ _ => rfl)) (fun _ => rfl)) (DenSs.cons (DenS.wloop (DenT.cmp (o := .gt) (D.len X (by kernel_rfl) (D.var (by kernel_rfl)) (fun _ _ => rfl)) DenE.int (by kernel_rfl))
  (DenSs.cons (D.asg (by kernel_rfl) (D.pop (by kernel_rfl) (by kernel_rfl)) (fun _ _ _ => rfl)) (DenSs.cons (D.loop (by kernel_rfl) (DenI.seq (D.call X (by kernel_rfl) (by kernel_rfl) (DenL.cons (D.var (by kernel_rfl)) (DenL.cons (D.var (by kernel_rfl)) DenL.nil (fun _ => rfl)) (fun _ => rfl)) (fun _ _ => rfl)) (fun _ _ _ q => q))
  (DenSs.one (DenS.ex (D.call X (by kernel_rfl) (by kernel_rfl) (DenL.cons (D.var (by kernel_rfl)) (DenL.cons (D.var (by kernel_rfl)) (DenL.cons (D.var (by kernel_rfl)) DenL.nil (fun _ => rfl)) (fun _ => rfl)) (fun _ => rfl)) (fun _ _ => rfl)) (fun _ => rfl))) (fun _ _ => rfl)) (DenSs.one (D.loop (by kernel_rfl) (DenI.seq (D.var (by kernel_rfl)) (fun _ _ _ q => q))
  (DenSs.one (DenS.ite (DenT.boolOp (DenBT.and (DenT.cmp (o := .le) (D.idx (D.var (by kernel_rfl)) DenE.int (fun _ _ => rfl)) (D.var (by kernel_rfl)) (by kernel_rfl)) (DenBT.one (DenT.cmp (o := .lt) (D.var (by kernel_rfl)) (D.idx (D.var (by kernel_rfl)) DenE.int (fun _ _ => rfl)) (by kernel_rfl)))))
  (DenSs.cons (DenS.ex (D.call X (by kernel_rfl) (by kernel_rfl) (DenL.cons (D.var (by kernel_rfl)) (DenL.cons (D.var (by kernel_rfl)) (DenL.cons (D.idx (D.var (by kernel_rfl)) DenE.int (fun _ _ => rfl)) DenL.nil (fun _ => rfl)) (fun _ => rfl)) (fun _ => rfl)) (fun _ _ => rfl)) (fun _ => rfl)) (DenSs.one (DenS.ite (DenT.cmp (o := .eq) (D.idx (D.var (by kernel_rfl)) DenE.int (fun _ _ => rfl)) (D.gint X (by kernel_rfl) (by kernel_rfl)) (by kernel_rfl))
  (DenSs.one (DenS.ex (D.call X (by kernel_rfl) (by kernel_rfl) (DenL.cons (D.var (by kernel_rfl)) (DenL.cons (D.var (by kernel_rfl)) (DenL.cons (D.idx (D.var (by kernel_rfl)) DenE.int (fun _ _ => rfl)) DenL.nil (fun _ => rfl)) (fun _ => rfl)) (fun _ => rfl)) (fun _ _ => rfl)) (fun _ => rfl)))
  DenSs.nil)))
  DenSs.nil)) (fun _ _ => rfl)))))) (DenSs.one (DenS.ret (D.var (by kernel_rfl))))))))
noncomputable def cx_new_places (prog : Program) (w : World) (base : Heap) (mg mb : Str → Option Value) (tab : Int → Option Int) (k : Nat) : CX := ⟨prog, w, base, mg, mb, tab, k, nm_new_places, (fdOf 9).scope.names⟩
theorem d_new_places (X : GX (cx_new_places prog w base mg mb tab k)) : DenSs (cx_new_places prog w base mg mb tab k) (fdOf 9).body ir_new_places :=
  (DenSs.cons (D.asgNew (by kernel_rfl) (DenN.lst DenL.nil) (fun _ _ _ => rfl)) (DenSs.cons (D.asg (by kernel_rfl) DenE.int (fun _ _ _ => rfl)) (DenSs.cons (D.loop (by kernel_rfl) (DenI.seq (D.var (by kernel_rfl)) (fun _ _ _ q => q))
  (DenSs.cons (DenS.ex (D.app (by kernel_rfl) (by kernel_rfl) (D.var (by kernel_rfl)) (fun _ _ => rfl)) (fun _ => rfl)) (DenSs.one (DenS.ite (DenT.ofE (D.var (by kernel_rfl)) (fun _ _ _ q => q) (fun _ _ => rfl))
  (DenSs.one (D.aug (by kernel_rfl) DenE.int))
  DenSs.nil))) (fun _ _ => rfl)) (DenSs.cons (DenS.ex (D.app (by kernel_rfl) (by kernel_rfl) (D.var (by kernel_rfl)) (fun _ _ => rfl)) (fun _ => rfl)) (DenSs.frz (DenSs.one (DenS.ret (D.var (by kernel_rfl)))))))))
noncomputable def cx_move_targets (prog : Program) (w : World) (base : Heap) (mg mb : Str → Option Value) (tab : Int → Option Int) (k : Nat) : CX := ⟨prog, w, base, mg, mb, tab, k, nm_move_targets, (fdOf 10).scope.names⟩
theorem d_move_targets (X : GX (cx_move_targets prog w base mg mb tab k)) : DenSs (cx_move_targets prog w base mg mb tab k) (fdOf 10).body ir_move_targets :=
  (DenSs.cons (DenS.ite (DenT.cmp (o := .eq) (D.idx (D.var (by kernel_rfl)) DenE.int (fun _ _ => rfl)) (D.gint X (by kernel_rfl) (by kernel_rfl)) (by kernel_rfl))
  (DenSs.cons (D.asgNew (by kernel_rfl) (DenN.lst DenL.nil) (fun _ _ _ => rfl)) (DenSs.cons (D.loop (by kernel_rfl) (DenI.seq (D.idx (D.var (by kernel_rfl)) DenE.int (fun _ _ => rfl)) (fun _ _ _ q => q))
  (DenSs.one (DenS.ex (D.app (by kernel_rfl) (by kernel_rfl) (D.idx (D.var (by kernel_rfl)) (D.var (by kernel_rfl)) (fun _ _ => rfl)) (fun _ _ => rfl)) (fun _ => rfl))) (fun _ _ => rfl)) (DenSs.one (DenS.ret (DenE.tup (DenL.cons (D.idx (D.var (by kernel_rfl)) DenE.int (fun _ _ => rfl)) (DenL.cons (D.tupOf X (by kernel_rfl) (D.var (by kernel_rfl)) (fun _ _ => rfl)) DenL.nil (fun _ => rfl)) (fun _ => rfl)))))))
  DenSs.nil) (DenSs.cons (DenS.ite (DenT.ofE (D.call X (by kernel_rfl) (by kernel_rfl) (DenL.cons (D.idx (D.var (by kernel_rfl)) DenE.int (fun _ _ => rfl)) DenL.nil (fun _ => rfl)) (fun _ _ => rfl)) (fun _ _ _ q => q) (fun _ _ => rfl))
  (DenSs.one (DenS.ret (DenE.tup (DenL.cons (D.idx (D.var (by kernel_rfl)) DenE.int (fun _ _ => rfl)) (DenL.cons (D.idx (D.var (by kernel_rfl)) (D.idx (D.var (by kernel_rfl)) DenE.int (fun _ _ => rfl)) (fun _ _ => rfl)) DenL.nil (fun _ => rfl)) (fun _ => rfl)))))
  DenSs.nil) (DenSs.one (DenS.ret (D.var (by kernel_rfl))))))
noncomputable def cx_move_clause (prog : Program) (w : World) (base : Heap) (mg mb : Str → Option Value) (tab : Int → Option Int) (k : Nat) : CX := ⟨prog, w, base, mg, mb, tab, k, nm_move_clause, (fdOf 11).scope.names⟩
theorem d_move_clause (X : GX (cx_move_clause prog w base mg mb tab k)) : DenSs (cx_move_clause prog w base mg mb tab k) (fdOf 11).body ir_move_clause :=
  (DenSs.cons (D.asg (by kernel_rfl) (D.idx (D.var (by kernel_rfl)) DenE.int (fun _ _ => rfl)) (fun _ _ _ => rfl)) (DenSs.cons (DenS.ite (DenT.cmp (o := .eq) (D.idx (D.var (by kernel_rfl)) DenE.int (fun _ _ => rfl)) (D.gint X (by kernel_rfl) (by kernel_rfl)) (by kernel_rfl))
  (DenSs.one (D.asg (by kernel_rfl) (D.idx (D.var (by kernel_rfl)) (D.var (by kernel_rfl)) (fun _ _ => rfl)) (fun _ _ _ => rfl)))
  DenSs.nil) (DenSs.one (DenS.ret (DenE.tup (DenL.cons (D.idx (D.var (by kernel_rfl)) DenE.int (fun _ _ => rfl)) (DenL.cons (D.idx (D.var (by kernel_rfl)) (D.idx (D.var (by kernel_rfl)) DenE.int (fun _ _ => rfl)) (fun _ _ => rfl)) (DenL.cons (D.idx (D.var (by kernel_rfl)) (D.idx (D.var (by kernel_rfl)) DenE.int (fun _ _ => rfl)) (fun _ _ => rfl)) (DenL.cons (D.idx (D.var (by kernel_rfl)) (D.idx (D.var (by kernel_rfl)) DenE.int (fun _ _ => rfl)) (fun _ _ => rfl)) (DenL.cons (D.idx (D.var (by kernel_rfl)) (D.idx (D.var (by kernel_rfl)) DenE.int (fun _ _ => rfl)) (fun _ _ => rfl)) (DenL.cons (D.var (by kernel_rfl)) DenL.nil (fun _ => rfl)) (fun _ => rfl)) (fun _ => rfl)) (fun _ => rfl)) (fun _ => rfl)) (fun _ => rfl)))))))
noncomputable def cx_keep_only (prog : Program) (w : World) (base : Heap) (mg mb : Str → Option Value) (tab : Int → Option Int) (k : Nat) : CX := ⟨prog, w, base, mg, mb, tab, k, nm_keep_only, (fdOf 12).scope.names⟩
theorem d_keep_only (X : GX (cx_keep_only prog w base mg mb tab k)) : DenSs (cx_keep_only prog w base mg mb tab k) (fdOf 12).body ir_keep_only :=
  (DenSs.cons (D.asg (by kernel_rfl) (D.call X (by kernel_rfl) (by kernel_rfl) (DenL.cons (D.var (by kernel_rfl)) DenL.nil (fun _ => rfl)) (fun _ _ => rfl)) (fun _ _ _ => rfl)) (DenSs.cons (D.asgNew (by kernel_rfl) (DenN.lst DenL.nil) (fun _ _ _ => rfl)) (DenSs.cons (D.loop (by kernel_rfl) (D.rng1 X (by kernel_rfl) (D.len X (by kernel_rfl) (D.var (by kernel_rfl)) (fun _ _ => rfl)) (fun _ _ => rfl))
  (DenSs.one (DenS.ite (DenT.ofE (D.idx (D.var (by kernel_rfl)) (D.var (by kernel_rfl)) (fun _ _ => rfl)) (fun _ _ _ q => q) (fun _ _ => rfl))
  (DenSs.one (DenS.ex (D.app (by kernel_rfl) (by kernel_rfl) (D.call X (by kernel_rfl) (by kernel_rfl) (DenL.cons (D.idx (D.var (by kernel_rfl)) (D.var (by kernel_rfl)) (fun _ _ => rfl)) (DenL.cons (D.var (by kernel_rfl)) DenL.nil (fun _ => rfl)) (fun _ => rfl)) (fun _ _ => rfl)) (fun _ _ => rfl)) (fun _ => rfl)))
  DenSs.nil)) (fun _ _ => rfl)) (DenSs.cons (D.asgNew (by kernel_rfl) (DenN.lst DenL.nil) (fun _ _ _ => rfl)) (DenSs.cons (D.loop (by kernel_rfl) (DenI.seq (D.var (by kernel_rfl)) (fun _ _ _ q => q))
  (DenSs.one (DenS.ex (D.app (by kernel_rfl) (by kernel_rfl) (D.call X (by kernel_rfl) (by kernel_rfl) (DenL.cons (D.var (by kernel_rfl)) (DenL.cons (D.var (by kernel_rfl)) DenL.nil (fun _ => rfl)) (fun _ => rfl)) (fun _ _ => rfl)) (fun _ _ => rfl)) (fun _ => rfl))) (fun _ _ => rfl)) (DenSs.frz (DenSs.frz (DenSs.one (DenS.ret (DenE.tup (DenL.cons (D.var (by kernel_rfl)) (DenL.cons (D.var (by kernel_rfl)) (DenL.cons (D.var (by kernel_rfl)) DenL.nil (fun _ => rfl)) (fun _ => rfl)) (fun _ => rfl))))))))))))
noncomputable def cx_clause_lives (prog : Program) (w : World) (base : Heap) (mg mb : Str → Option Value) (tab : Int → Option Int) (k : Nat) : CX := ⟨prog, w, base, mg, mb, tab, k, nm_clause_lives, (fdOf 13).scope.names⟩
theorem d_clause_lives (X : GX (cx_clause_lives prog w base mg mb tab k)) : DenSs (cx_clause_lives prog w base mg mb tab k) (fdOf 13).body ir_clause_lives :=
  (DenSs.cons (D.loop (by kernel_rfl) (D.rng X (by kernel_rfl) (D.idx (D.var (by kernel_rfl)) DenE.int (fun _ _ => rfl)) (D.idx (D.var (by kernel_rfl)) DenE.int (fun _ _ => rfl)) (fun _ _ => rfl) (fun _ _ => rfl))
  (DenSs.one (DenS.ite (DenT.ofE (D.idx (D.var (by kernel_rfl)) (D.var (by kernel_rfl)) (fun _ _ => rfl)) (fun _ _ _ q => q) (fun _ _ => rfl))
  (DenSs.one (DenS.ret DenE.bool))
  DenSs.nil)) (fun _ _ => rfl)) (DenSs.one (DenS.ret DenE.bool)))
noncomputable def cx_drop_dead (prog : Program) (w : World) (base : Heap) (mg mb : Str → Option Value) (tab : Int → Option Int) (k : Nat) : CX := ⟨prog, w, base, mg, mb, tab, k, nm_drop_dead, (fdOf 14).scope.names⟩
theorem d_drop_dead (X : GX (cx_drop_dead prog w base mg mb tab k)) : DenSs (cx_drop_dead prog w base mg mb tab k) (fdOf 14).body ir_drop_dead :=
  (DenSs.cons (DenS.ex (D.call X (by kernel_rfl) (by kernel_rfl) (DenL.cons (D.var (by kernel_rfl)) (DenL.cons (D.var (by kernel_rfl)) DenL.nil (fun _ => rfl)) (fun _ => rfl)) (fun _ _ => rfl)) (fun _ => rfl)) (DenSs.cons (D.asgComp (by kernel_rfl) (by kernel_rfl) (DenI.seq (D.var (by kernel_rfl)) (fun _ _ _ q => q)) (D.var (by kernel_rfl)) (DenIf.one (DenT.cmp (o := .lt) (D.idx (D.var (by kernel_rfl)) DenE.int (fun _ _ => rfl)) (D.idx (D.var (by kernel_rfl)) DenE.int (fun _ _ => rfl)) (by kernel_rfl))) (fun _ _ => rfl)) (DenSs.cons (D.asg (by kernel_rfl) (D.call X (by kernel_rfl) (by kernel_rfl) (DenL.cons (D.var (by kernel_rfl)) (DenL.cons (D.var (by kernel_rfl)) DenL.nil (fun _ => rfl)) (fun _ => rfl)) (fun _ _ => rfl)) (fun _ _ _ => rfl)) (DenSs.cons (D.asgNew (by kernel_rfl) (DenN.lst DenL.nil) (fun _ _ _ => rfl)) (DenSs.cons (D.loop (by kernel_rfl) (DenI.seq (D.var (by kernel_rfl)) (fun _ _ _ q => q))
  (DenSs.one (DenS.ite (DenT.ofE (D.call X (by kernel_rfl) (by kernel_rfl) (DenL.cons (D.var (by kernel_rfl)) (DenL.cons (D.var (by kernel_rfl)) DenL.nil (fun _ => rfl)) (fun _ => rfl)) (fun _ _ => rfl)) (fun _ _ _ q => q) (fun _ _ => rfl))
  (DenSs.one (DenS.ex (D.app (by kernel_rfl) (by kernel_rfl) (D.var (by kernel_rfl)) (fun _ _ => rfl)) (fun _ => rfl)))
  DenSs.nil)) (fun _ _ => rfl)) (DenSs.frz (DenSs.cons (D.loop (by kernel_rfl) (DenI.seq (D.var (by kernel_rfl)) (fun _ _ _ q => q))
  (DenSs.one (DenS.ite (DenT.boolOp (DenBT.and (DenT.cmp (o := .eq) (D.idx (D.var (by kernel_rfl)) DenE.int (fun _ _ => rfl)) (D.gint X (by kernel_rfl) (by kernel_rfl)) (by kernel_rfl)) (DenBT.and (DenT.cmp (o := .gt) (D.idx (D.var (by kernel_rfl)) DenE.int (fun _ _ => rfl)) DenE.int (by kernel_rfl)) (DenBT.one (DenT.cmp (o := .eq) (D.idx (D.idx (D.var (by kernel_rfl)) (DenE.bin (o := .sub) (D.idx (D.var (by kernel_rfl)) DenE.int (fun _ _ => rfl)) DenE.int) (fun _ _ => rfl)) DenE.int (fun _ _ => rfl)) (D.gint X (by kernel_rfl) (by kernel_rfl)) (by kernel_rfl))))))
  (DenSs.one (D.setIdx (by kernel_rfl) (DenE.bin (o := .sub) (D.idx (D.var (by kernel_rfl)) DenE.int (fun _ _ => rfl)) DenE.int) DenE.bool (fun _ _ _ => rfl)))
  DenSs.nil)) (fun _ _ => rfl)) (DenSs.frz (DenSs.one (DenS.ret (D.call X (by kernel_rfl) (by kernel_rfl) (DenL.cons (D.var (by kernel_rfl)) (DenL.cons (D.var (by kernel_rfl)) (DenL.cons (D.var (by kernel_rfl)) DenL.nil (fun _ => rfl)) (fun _ => rfl)) (fun _ => rfl)) (fun _ _ => rfl))))))))))))
noncomputable def cx_region_key (prog : Program) (w : World) (base : Heap) (mg mb : Str → Option Value) (tab : Int → Option Int) (k : Nat) : CX := ⟨prog, w, base, mg, mb, tab, k, nm_region_key, (fdOf 15).scope.names⟩
theorem d_region_key (X : GX (cx_region_key prog w base mg mb tab k)) : DenSs (cx_region_key prog w base mg mb tab k) (fdOf 15).body ir_region_key :=
  (DenSs.cons (D.asgNew (by kernel_rfl) (DenN.lst DenL.nil) (fun _ _ _ => rfl)) (DenSs.cons (D.loop (by kernel_rfl) (D.rng1 X (by kernel_rfl) (D.len X (by kernel_rfl) (D.var (by kernel_rfl)) (fun _ _ => rfl)) (fun _ _ => rfl))
  (DenSs.cons (D.asg (by kernel_rfl) (D.idx (D.var (by kernel_rfl)) (D.var (by kernel_rfl)) (fun _ _ => rfl)) (fun _ _ _ => rfl)) (DenSs.cons (DenS.ite (DenT.boolOp (DenBT.and (DenT.cmp (o := .le) (D.idx (D.var (by kernel_rfl)) DenE.int (fun _ _ => rfl)) (D.var (by kernel_rfl)) (by kernel_rfl)) (DenBT.one (DenT.cmp (o := .lt) (D.var (by kernel_rfl)) (D.idx (D.var (by kernel_rfl)) DenE.int (fun _ _ => rfl)) (by kernel_rfl)))))
  (DenSs.one (DenS.ex (D.app (by kernel_rfl) (by kernel_rfl) (DenE.bin (o := .mul) DenE.int (D.var (by kernel_rfl))) (fun _ _ => rfl)) (fun _ => rfl)))
  DenSs.nil) (DenSs.cons (DenS.ite (DenT.boolOp (DenBT.and (DenT.cmp (o := .eq) (D.idx (D.var (by kernel_rfl)) DenE.int (fun _ _ => rfl)) (D.gint X (by kernel_rfl) (by kernel_rfl)) (by kernel_rfl)) (DenBT.and (DenT.cmp (o := .le) (D.idx (D.var (by kernel_rfl)) DenE.int (fun _ _ => rfl)) (D.var (by kernel_rfl)) (by kernel_rfl)) (DenBT.one (DenT.cmp (o := .lt) (D.var (by kernel_rfl)) (D.idx (D.var (by kernel_rfl)) DenE.int (fun _ _ => rfl)) (by kernel_rfl))))))
  (DenSs.one (DenS.ex (D.app (by kernel_rfl) (by kernel_rfl) (DenE.bin (o := .add) (DenE.bin (o := .mul) DenE.int (D.var (by kernel_rfl))) DenE.int) (fun _ _ => rfl)) (fun _ => rfl)))
  DenSs.nil) (DenSs.one (DenS.ite (DenT.boolOp (DenBT.and (DenT.cmp (o := .le) (D.idx (D.var (by kernel_rfl)) DenE.int (fun _ _ => rfl)) (D.var (by kernel_rfl)) (by kernel_rfl)) (DenBT.one (DenT.cmp (o := .lt) (D.var (by kernel_rfl)) (D.idx (D.var (by kernel_rfl)) DenE.int (fun _ _ => rfl)) (by kernel_rfl)))))
  (DenSs.one (DenS.ex (D.app (by kernel_rfl) (by kernel_rfl) (DenE.bin (o := .add) (DenE.bin (o := .mul) DenE.int (D.var (by kernel_rfl))) DenE.int) (fun _ _ => rfl)) (fun _ => rfl)))
  DenSs.nil))))) (fun _ _ => rfl)) (DenSs.one (DenS.ret (D.tupOf X (by kernel_rfl) (D.var (by kernel_rfl)) (fun _ _ => rfl))))))
noncomputable def cx_chain_end (prog : Program) (w : World) (base : Heap) (mg mb : Str → Option Value) (tab : Int → Option Int) (k : Nat) : CX := ⟨prog, w, base, mg, mb, tab, k, nm_chain_end, (fdOf 16).scope.names⟩
theorem d_chain_end (X : GX (cx_chain_end prog w base mg mb tab k)) : DenSs (cx_chain_end prog w base mg mb tab k) (fdOf 16).body ir_chain_end :=
  (DenSs.cons (D.asg (by kernel_rfl) (D.call X (by kernel_rfl) (by kernel_rfl) (DenL.cons (D.var (by kernel_rfl)) (DenL.cons (D.var (by kernel_rfl)) DenL.nil (fun _ => rfl)) (fun _ => rfl)) (fun _ _ => rfl)) (fun _ _ _ => rfl)) (DenSs.cons (D.asgNew (by kernel_rfl) (DenN.lst DenL.nil) (fun _ _ _ => rfl)) (DenSs.cons (D.asg (by kernel_rfl) (D.call X (by kernel_rfl) (by kernel_rfl) (DenL.cons (D.var (by kernel_rfl)) (DenL.cons (D.var (by kernel_rfl)) (DenL.cons (D.var (by kernel_rfl)) DenL.nil (fun _ => rfl)) (fun _ => rfl)) (fun _ => rfl)) (fun _ _ => rfl)) (fun _ _ _ => rfl)) (DenSs.cons (DenS.wloop (DenT.boolOp (DenBT.and (DenT.cmp (o := .eq) (D.idx (D.idx (D.var (by kernel_rfl)) (D.var (by kernel_rfl)) (fun _ _ => rfl)) DenE.int (fun _ _ => rfl)) (D.gint X (by kernel_rfl) (by kernel_rfl)) (by kernel_rfl)) (DenBT.one (DenT.cmp (o := .eq) (D.call X (by kernel_rfl) (by kernel_rfl) (DenL.cons (D.var (by kernel_rfl)) (DenL.cons (D.var (by kernel_rfl)) DenL.nil (fun _ => rfl)) (fun _ => rfl)) (fun _ _ => rfl)) (D.var (by kernel_rfl)) (by kernel_rfl)))))
  (DenSs.cons (DenS.ite (DenT.cmp (o := .inn) (D.var (by kernel_rfl)) (D.var (by kernel_rfl)) (by kernel_rfl))
  (DenSs.one (DenS.ret (D.var (by kernel_rfl))))
  DenSs.nil) (DenSs.cons (DenS.ex (D.app (by kernel_rfl) (by kernel_rfl) (D.var (by kernel_rfl)) (fun _ _ => rfl)) (fun _ => rfl)) (DenSs.one (D.asg (by kernel_rfl) (D.call X (by kernel_rfl) (by kernel_rfl) (DenL.cons (D.var (by kernel_rfl)) (DenL.cons (D.var (by kernel_rfl)) (DenL.cons (D.idx (D.idx (D.var (by kernel_rfl)) (D.var (by kernel_rfl)) (fun _ _ => rfl)) DenE.int (fun _ _ => rfl)) DenL.nil (fun _ => rfl)) (fun _ => rfl)) (fun _ => rfl)) (fun _ _ => rfl)) (fun _ _ _ => rfl)))))) (DenSs.one (DenS.ret (D.var (by kernel_rfl))))))))
noncomputable def cx_checked_goal (prog : Program) (w : World) (base : Heap) (mg mb : Str → Option Value) (tab : Int → Option Int) (k : Nat) : CX := ⟨prog, w, base, mg, mb, tab, k, nm_checked_goal, (fdOf 17).scope.names⟩
theorem d_checked_goal (X : GX (cx_checked_goal prog w base mg mb tab k)) : DenSs (cx_checked_goal prog w base mg mb tab k) (fdOf 17).body ir_checked_goal :=
  (DenSs.cons (DenS.ite (DenT.boolOp (DenBT.or (DenT.cmp (o := .lt) (D.var (by kernel_rfl)) DenE.int (by kernel_rfl)) (DenBT.one (DenT.cmp (o := .ge) (D.var (by kernel_rfl)) (D.len X (by kernel_rfl) (D.var (by kernel_rfl)) (fun _ _ => rfl)) (by kernel_rfl)))))
  (DenSs.one DenS.fail)
  DenSs.nil) (DenSs.one (DenS.ret (D.var (by kernel_rfl)))))
noncomputable def cx_thread_one (prog : Program) (w : World) (base : Heap) (mg mb : Str → Option Value) (tab : Int → Option Int) (k : Nat) : CX := ⟨prog, w, base, mg, mb, tab, k, nm_thread_one, (fdOf 18).scope.names⟩
theorem d_thread_one (X : GX (cx_thread_one prog w base mg mb tab k)) : DenSs (cx_thread_one prog w base mg mb tab k) (fdOf 18).body ir_thread_one :=
  (DenSs.cons (D.asg (by kernel_rfl) (D.idx (D.var (by kernel_rfl)) (D.var (by kernel_rfl)) (fun _ _ => rfl)) (fun _ _ _ => rfl)) (DenSs.cons (DenS.ite (DenT.cmp (o := .eq) (D.idx (D.var (by kernel_rfl)) DenE.int (fun _ _ => rfl)) (D.gint X (by kernel_rfl) (by kernel_rfl)) (by kernel_rfl))
  (DenSs.cons (D.asgNew (by kernel_rfl) (DenN.lst DenL.nil) (fun _ _ _ => rfl)) (DenSs.cons (D.loop (by kernel_rfl) (DenI.seq (D.idx (D.var (by kernel_rfl)) DenE.int (fun _ _ => rfl)) (fun _ _ _ q => q))
  (DenSs.one (DenS.ex (D.app (by kernel_rfl) (by kernel_rfl) (D.call X (by kernel_rfl) (by kernel_rfl) (DenL.cons (D.var (by kernel_rfl)) (DenL.cons (D.var (by kernel_rfl)) (DenL.cons (D.var (by kernel_rfl)) (DenL.cons (D.var (by kernel_rfl)) DenL.nil (fun _ => rfl)) (fun _ => rfl)) (fun _ => rfl)) (fun _ => rfl)) (fun _ _ => rfl)) (fun _ _ => rfl)) (fun _ => rfl))) (fun _ _ => rfl)) (DenSs.one (DenS.ret (DenE.tup (DenL.cons (D.idx (D.var (by kernel_rfl)) DenE.int (fun _ _ => rfl)) (DenL.cons (D.tupOf X (by kernel_rfl) (D.var (by kernel_rfl)) (fun _ _ => rfl)) DenL.nil (fun _ => rfl)) (fun _ => rfl)))))))
  DenSs.nil) (DenSs.cons (DenS.ite (DenT.boolOp (DenBT.and (DenT.ofE (D.call X (by kernel_rfl) (by kernel_rfl) (DenL.cons (D.idx (D.var (by kernel_rfl)) DenE.int (fun _ _ => rfl)) DenL.nil (fun _ => rfl)) (fun _ _ => rfl)) (fun _ _ _ q => q) (fun _ _ => rfl)) (DenBT.one (DenT.cmp (o := .ne) (D.idx (D.var (by kernel_rfl)) DenE.int (fun _ _ => rfl)) (D.gint X (by kernel_rfl) (by kernel_rfl)) (by kernel_rfl)))))
  (DenSs.one (DenS.ret (DenE.tup (DenL.cons (D.idx (D.var (by kernel_rfl)) DenE.int (fun _ _ => rfl)) (DenL.cons (D.call X (by kernel_rfl) (by kernel_rfl) (DenL.cons (D.var (by kernel_rfl)) (DenL.cons (D.var (by kernel_rfl)) (DenL.cons (D.var (by kernel_rfl)) (DenL.cons (D.idx (D.var (by kernel_rfl)) DenE.int (fun _ _ => rfl)) DenL.nil (fun _ => rfl)) (fun _ => rfl)) (fun _ => rfl)) (fun _ => rfl)) (fun _ _ => rfl)) DenL.nil (fun _ => rfl)) (fun _ => rfl)))))
  DenSs.nil) (DenSs.cons (DenS.ite (DenT.cmp (o := .eq) (D.idx (D.var (by kernel_rfl)) DenE.int (fun _ _ => rfl)) (D.gint X (by kernel_rfl) (by kernel_rfl)) (by kernel_rfl))
  (DenSs.one (DenS.ex (D.call X (by kernel_rfl) (by kernel_rfl) (DenL.cons (D.var (by kernel_rfl)) (DenL.cons (D.var (by kernel_rfl)) (DenL.cons (D.idx (D.var (by kernel_rfl)) DenE.int (fun _ _ => rfl)) DenL.nil (fun _ => rfl)) (fun _ => rfl)) (fun _ => rfl)) (fun _ _ => rfl)) (fun _ => rfl)))
  DenSs.nil) (DenSs.one (DenS.ret (D.var (by kernel_rfl))))))))
noncomputable def cx_is_edge (prog : Program) (w : World) (base : Heap) (mg mb : Str → Option Value) (tab : Int → Option Int) (k : Nat) : CX := ⟨prog, w, base, mg, mb, tab, k, nm_is_edge, (fdOf 19).scope.names⟩
theorem d_is_edge (X : GX (cx_is_edge prog w base mg mb tab k)) : DenSs (cx_is_edge prog w base mg mb tab k) (fdOf 19).body ir_is_edge :=
  (DenSs.cons (D.loop (by kernel_rfl) (DenI.seq (D.var (by kernel_rfl)) (fun _ _ _ q => q))
  (DenSs.one (DenS.ite (DenT.cmp (o := .inn) (D.var (by kernel_rfl)) (D.call X (by kernel_rfl) (by kernel_rfl) (DenL.cons (D.var (by kernel_rfl)) DenL.nil (fun _ => rfl)) (fun _ _ => rfl)) (by kernel_rfl))
  (DenSs.one (DenS.ret DenE.bool))
  DenSs.nil)) (fun _ _ => rfl)) (DenSs.one (DenS.ret DenE.bool)))
noncomputable def cx_thread_in (prog : Program) (w : World) (base : Heap) (mg mb : Str → Option Value) (tab : Int → Option Int) (k : Nat) : CX := ⟨prog, w, base, mg, mb, tab, k, nm_thread_in, (fdOf 20).scope.names⟩
theorem d_thread_in (X : GX (cx_thread_in prog w base mg mb tab k)) : DenSs (cx_thread_in prog w base mg mb tab k) (fdOf 20).body ir_thread_in :=
  (DenSs.cons (DenS.ex (D.call X (by kernel_rfl) (by kernel_rfl) (DenL.cons (D.var (by kernel_rfl)) (DenL.cons (D.var (by kernel_rfl)) DenL.nil (fun _ => rfl)) (fun _ => rfl)) (fun _ _ => rfl)) (fun _ => rfl)) (DenSs.cons (D.asg (by kernel_rfl) (DenE.bin (o := .add) (D.len X (by kernel_rfl) (D.var (by kernel_rfl)) (fun _ _ => rfl)) DenE.int) (fun _ _ _ => rfl)) (DenSs.cons (DenS.wloop (DenT.cmp (o := .lt) (D.len X (by kernel_rfl) (D.var (by kernel_rfl)) (fun _ _ => rfl)) (D.var (by kernel_rfl)) (by kernel_rfl))
  (DenSs.cons (D.asg (by kernel_rfl) (D.len X (by kernel_rfl) (D.var (by kernel_rfl)) (fun _ _ => rfl)) (fun _ _ _ => rfl)) (DenSs.one (DenS.asgT (D.tgtCons (by kernel_rfl) (D.tgtCons (by kernel_rfl) TgtOK.nil)) (D.call X (by kernel_rfl) (by kernel_rfl) (DenL.cons (D.var (by kernel_rfl)) (DenL.cons (D.var (by kernel_rfl)) DenL.nil (fun _ => rfl)) (fun _ => rfl)) (fun _ _ => rfl)) (fun _ => rfl) (fun _ => rfl))))) (DenSs.one (DenS.ret (DenE.tup (DenL.cons (D.var (by kernel_rfl)) (DenL.cons (D.var (by kernel_rfl)) DenL.nil (fun _ => rfl)) (fun _ => rfl))))))))
noncomputable def cx_thread_round (prog : Program) (w : World) (base : Heap) (mg mb : Str → Option Value) (tab : Int → Option Int) (k : Nat) : CX := ⟨prog, w, base, mg, mb, tab, k, nm_thread_round, (fdOf 21).scope.names⟩
theorem d_thread_round (X : GX (cx_thread_round prog w base mg mb tab k)) : DenSs (cx_thread_round prog w base mg mb tab k) (fdOf 21).body ir_thread_round :=
  (DenSs.cons (D.asgNew (by kernel_rfl) (DenN.lst DenL.nil) (fun _ _ _ => rfl)) (DenSs.cons (D.loop (by kernel_rfl) (D.rng1 X (by kernel_rfl) (D.len X (by kernel_rfl) (D.var (by kernel_rfl)) (fun _ _ => rfl)) (fun _ _ => rfl))
  (DenSs.one (DenS.ex (D.app (by kernel_rfl) (by kernel_rfl) (D.call X (by kernel_rfl) (by kernel_rfl) (DenL.cons (D.var (by kernel_rfl)) (DenL.cons (D.var (by kernel_rfl)) (DenL.cons (D.var (by kernel_rfl)) DenL.nil (fun _ => rfl)) (fun _ => rfl)) (fun _ => rfl)) (fun _ _ => rfl)) (fun _ _ => rfl)) (fun _ => rfl))) (fun _ _ => rfl)) (DenSs.cons (D.asgNew (by kernel_rfl) (DenN.lst DenL.nil) (fun _ _ _ => rfl)) (DenSs.cons (D.loop (by kernel_rfl) (D.rng1 X (by kernel_rfl) (D.len X (by kernel_rfl) (D.var (by kernel_rfl)) (fun _ _ => rfl)) (fun _ _ => rfl))
  (DenSs.cons (D.asg (by kernel_rfl) (DenE.boolOp (DenBE.and (DenE.cmp (o := .eq) (D.idx (D.idx (D.var (by kernel_rfl)) (D.var (by kernel_rfl)) (fun _ _ => rfl)) DenE.int (fun _ _ => rfl)) (D.gint X (by kernel_rfl) (by kernel_rfl)) (by kernel_rfl)) (DenBE.and (DenE.cmp (o := .eq) (D.idx (D.idx (D.var (by kernel_rfl)) (D.var (by kernel_rfl)) (fun _ _ => rfl)) DenE.int (fun _ _ => rfl)) (DenE.bin (o := .add) (D.var (by kernel_rfl)) DenE.int) (by kernel_rfl)) (DenBE.one (DenE.cmp (o := .lt) (DenE.bin (o := .add) (D.var (by kernel_rfl)) DenE.int) (D.len X (by kernel_rfl) (D.var (by kernel_rfl)) (fun _ _ => rfl)) (by kernel_rfl)))))) (fun _ _ _ => rfl)) (DenSs.one (DenS.ex (D.app (by kernel_rfl) (by kernel_rfl) (DenE.boolOp (DenBE.or (DenE.not (D.var (by kernel_rfl))) (DenBE.or (D.call X (by kernel_rfl) (by kernel_rfl) (DenL.cons (D.var (by kernel_rfl)) (DenL.cons (D.var (by kernel_rfl)) DenL.nil (fun _ => rfl)) (fun _ => rfl)) (fun _ _ => rfl)) (DenBE.one (D.call X (by kernel_rfl) (by kernel_rfl) (DenL.cons (D.var (by kernel_rfl)) (DenL.cons (DenE.bin (o := .add) (D.var (by kernel_rfl)) DenE.int) DenL.nil (fun _ => rfl)) (fun _ => rfl)) (fun _ _ => rfl)))))) (fun _ _ => rfl)) (fun _ => rfl)))) (fun _ _ => rfl)) (DenSs.frz (DenSs.frz (DenSs.cons (D.asg (by kernel_rfl) (D.call X (by kernel_rfl) (by kernel_rfl) (DenL.cons (D.var (by kernel_rfl)) (DenL.cons (D.var (by kernel_rfl)) (DenL.cons (D.var (by kernel_rfl)) DenL.nil (fun _ => rfl)) (fun _ => rfl)) (fun _ => rfl)) (fun _ _ => rfl)) (fun _ _ _ => rfl)) (DenSs.one (DenS.ret (DenE.tup (DenL.cons (D.idx (D.var (by kernel_rfl)) DenE.int (fun _ _ => rfl)) (DenL.cons (D.idx (D.var (by kernel_rfl)) DenE.int (fun _ _ => rfl)) DenL.nil (fun _ => rfl)) (fun _ => rfl))))))))))))
noncomputable def cx_law_row (prog : Program) (w : World) (base : Heap) (mg mb : Str → Option Value) (tab : Int → Option Int) (k : Nat) : CX := ⟨prog, w, base, mg, mb, tab, k, nm_law_row, (fdOf 22).scope.names⟩
theorem d_law_row (X : GX (cx_law_row prog w base mg mb tab k)) : DenSs (cx_law_row prog w base mg mb tab k) (fdOf 22).body ir_law_row :=
  (DenSs.cons (D.asg (by kernel_rfl) (DenE.bin (o := .mod) (D.var (by kernel_rfl)) DenE.int) (fun _ _ _ => rfl)) (DenSs.cons (D.asg (by kernel_rfl) (DenE.bin (o := .div) (D.var (by kernel_rfl)) DenE.int) (fun _ _ _ => rfl)) (DenSs.cons (DenS.ite (DenT.cmp (o := .lt) (D.var (by kernel_rfl)) DenE.int (by kernel_rfl))
  (DenSs.one (DenS.ret (DenE.tup (DenL.cons DenE.int (DenL.cons (DenE.bin (o := .mod) (D.var (by kernel_rfl)) DenE.int) DenL.nil (fun _ => rfl)) (fun _ => rfl)))))
  DenSs.nil) (DenSs.cons (DenS.ite (DenT.cmp (o := .lt) (D.var (by kernel_rfl)) DenE.int (by kernel_rfl))
  (DenSs.one (DenS.ret (DenE.tup (DenL.cons DenE.int (DenL.cons (DenE.bin (o := .mod) (D.var (by kernel_rfl)) (D.var (by kernel_rfl))) DenL.nil (fun _ => rfl)) (fun _ => rfl)))))
  DenSs.nil) (DenSs.cons (DenS.ite (DenT.cmp (o := .eq) (D.var (by kernel_rfl)) DenE.int (by kernel_rfl))
  (DenSs.one (DenS.ret (DenE.tup (DenL.cons (D.idx (DenE.tup (DenL.cons DenE.int (DenL.cons DenE.int (DenL.cons DenE.int (DenL.cons DenE.int DenL.nil (fun _ => rfl)) (fun _ => rfl)) (fun _ => rfl)) (fun _ => rfl))) (DenE.bin (o := .mod) (D.var (by kernel_rfl)) DenE.int) (fun _ _ => rfl)) (DenL.cons (DenE.bin (o := .mod) (DenE.bin (o := .div) (D.var (by kernel_rfl)) DenE.int) (D.var (by kernel_rfl))) DenL.nil (fun _ => rfl)) (fun _ => rfl)))))
  DenSs.nil) (DenSs.cons (DenS.ite (DenT.cmp (o := .eq) (D.var (by kernel_rfl)) DenE.int (by kernel_rfl))
  (DenSs.one (DenS.ret (DenE.tup (DenL.cons DenE.int (DenL.cons (D.tupOf X (by kernel_rfl) (D.comp (by kernel_rfl) (D.rng1 X (by kernel_rfl) (DenE.bin (o := .add) (DenE.bin (o := .mod) (D.var (by kernel_rfl)) DenE.int) DenE.int) (fun _ _ => rfl)) (DenE.bin (o := .mod) (DenE.bin (o := .add) (DenE.bin (o := .div) (D.var (by kernel_rfl)) DenE.int) (DenE.bin (o := .mul) (DenE.bin (o := .mul) DenE.int (D.var (by kernel_rfl))) (D.var (by kernel_rfl)))) (D.var (by kernel_rfl))) DenIf.nil (fun _ _ => rfl)) (fun _ _ => rfl)) DenL.nil (fun _ => rfl)) (fun _ => rfl)))))
  DenSs.nil) (DenSs.cons (DenS.ite (DenT.cmp (o := .eq) (D.var (by kernel_rfl)) DenE.int (by kernel_rfl))
  (DenSs.one (DenS.ret (DenE.tup (DenL.cons DenE.int (DenL.cons (DenE.bin (o := .mod) (D.var (by kernel_rfl)) (D.var (by kernel_rfl))) DenL.nil (fun _ => rfl)) (fun _ => rfl)))))
  DenSs.nil) (DenSs.one (DenS.ret (DenE.tup (DenL.cons (D.idx (DenE.tup (DenL.cons DenE.int (DenL.cons DenE.int (DenL.cons DenE.int (DenL.cons DenE.int (DenL.cons DenE.int DenL.nil (fun _ => rfl)) (fun _ => rfl)) (fun _ => rfl)) (fun _ => rfl)) (fun _ => rfl))) (DenE.bin (o := .mod) (D.var (by kernel_rfl)) DenE.int) (fun _ _ => rfl)) (DenL.cons DenE.int DenL.nil (fun _ => rfl)) (fun _ => rfl))))))))))))
noncomputable def cx_law_clauses (prog : Program) (w : World) (base : Heap) (mg mb : Str → Option Value) (tab : Int → Option Int) (k : Nat) : CX := ⟨prog, w, base, mg, mb, tab, k, nm_law_clauses, (fdOf 23).scope.names⟩
theorem d_law_clauses (X : GX (cx_law_clauses prog w base mg mb tab k)) : DenSs (cx_law_clauses prog w base mg mb tab k) (fdOf 23).body ir_law_clauses :=
  (DenSs.cons (D.asgNew (by kernel_rfl) (DenN.lst DenL.nil) (fun _ _ _ => rfl)) (DenSs.cons (D.loop (by kernel_rfl) (D.rng1 X (by kernel_rfl) (DenE.bin (o := .mod) (D.var (by kernel_rfl)) DenE.int) (fun _ _ => rfl))
  (DenSs.cons (D.asg (by kernel_rfl) (DenE.bin (o := .add) (DenE.bin (o := .div) (D.var (by kernel_rfl)) DenE.int) (DenE.bin (o := .mul) DenE.int (D.var (by kernel_rfl)))) (fun _ _ _ => rfl)) (DenSs.cons (D.asg (by kernel_rfl) (D.idx (DenE.tup (DenL.cons DenE.int (DenL.cons DenE.int (DenL.cons DenE.int (DenL.cons DenE.int DenL.nil (fun _ => rfl)) (fun _ => rfl)) (fun _ => rfl)) (fun _ => rfl))) (DenE.bin (o := .mod) (DenE.bin (o := .div) (D.var (by kernel_rfl)) (DenE.bin (o := .add) DenE.int (DenE.bin (o := .mul) DenE.int (D.var (by kernel_rfl))))) DenE.int) (fun _ _ => rfl)) (fun _ _ _ => rfl)) (DenSs.cons (D.asg (by kernel_rfl) (DenE.bin (o := .mod) (DenE.bin (o := .div) (D.var (by kernel_rfl)) DenE.int) (DenE.bin (o := .sub) (D.var (by kernel_rfl)) DenE.int)) (fun _ _ _ => rfl)) (DenSs.cons (D.asg (by kernel_rfl) (DenE.bin (o := .add) DenE.int (DenE.bin (o := .mod) (DenE.bin (o := .div) (D.var (by kernel_rfl)) DenE.int) (DenE.bin (o := .sub) (D.var (by kernel_rfl)) DenE.int))) (fun _ _ _ => rfl)) (DenSs.one (DenS.ex (D.app (by kernel_rfl) (by kernel_rfl) (DenE.tup (DenL.cons (D.var (by kernel_rfl)) (DenL.cons (D.var (by kernel_rfl)) (DenL.cons (D.min2 X (by kernel_rfl) (DenE.bin (o := .add) (DenE.bin (o := .add) (D.var (by kernel_rfl)) DenE.int) (DenE.bin (o := .mod) (DenE.bin (o := .div) (D.var (by kernel_rfl)) DenE.int) DenE.int)) (D.var (by kernel_rfl)) (fun _ _ => rfl) (fun _ _ => rfl)) (DenL.cons (D.var (by kernel_rfl)) (DenL.cons (D.min2 X (by kernel_rfl) (DenE.bin (o := .add) (DenE.bin (o := .add) (D.var (by kernel_rfl)) DenE.int) (DenE.bin (o := .mod) (DenE.bin (o := .div) (D.var (by kernel_rfl)) DenE.int) DenE.int)) (D.var (by kernel_rfl)) (fun _ _ => rfl) (fun _ _ => rfl)) (DenL.cons (DenE.ite (DenT.cmp (o := .eq) (D.var (by kernel_rfl)) DenE.int (by kernel_rfl)) (DenE.bin (o := .mod) (DenE.bin (o := .div) (D.var (by kernel_rfl)) DenE.int) (D.var (by kernel_rfl))) DenE.int) DenL.nil (fun _ => rfl)) (fun _ => rfl)) (fun _ => rfl)) (fun _ => rfl)) (fun _ => rfl)) (fun _ => rfl))) (fun _ _ => rfl)) (fun _ => rfl))))))) (fun _ _ => rfl)) (DenSs.frz (DenSs.one (DenS.ret (D.var (by kernel_rfl)))))))
noncomputable def cx_law_thrown (prog : Program) (w : World) (base : Heap) (mg mb : Str → Option Value) (tab : Int → Option Int) (k : Nat) : CX := ⟨prog, w, base, mg, mb, tab, k, nm_law_thrown, (fdOf 24).scope.names⟩
theorem d_law_thrown (X : GX (cx_law_thrown prog w base mg mb tab k)) : DenSs (cx_law_thrown prog w base mg mb tab k) (fdOf 24).body ir_law_thrown :=
  (DenSs.cons (D.loop (by kernel_rfl) (D.rng X (by kernel_rfl) (D.var (by kernel_rfl)) (D.len X (by kernel_rfl) (D.var (by kernel_rfl)) (fun _ _ => rfl)) (fun _ _ => rfl) (fun _ _ => rfl))
  (DenSs.cons (DenS.asgT (D.tgtCons (by kernel_rfl) (D.tgtCons (by kernel_rfl) (D.tgtCons (by kernel_rfl) (D.tgtCons (by kernel_rfl) (D.tgtCons (by kernel_rfl) (D.tgtCons (by kernel_rfl) TgtOK.nil)))))) (D.idx (D.var (by kernel_rfl)) (D.var (by kernel_rfl)) (fun _ _ => rfl)) (fun _ => rfl) (fun _ => rfl)) (DenSs.one (DenS.ite (DenT.cmp2 (o := .le) (o' := .lt) (D.var (by kernel_rfl)) (D.var (by kernel_rfl)) (D.var (by kernel_rfl)) (by kernel_rfl))
  (DenSs.cons (DenS.ite (DenT.ofE (D.var (by kernel_rfl)) (fun _ _ _ q => q) (fun _ _ => rfl))
  (DenSs.one (DenS.ex (D.app (by kernel_rfl) (by kernel_rfl) (DenE.tup (DenL.cons DenE.int (DenL.cons (D.var (by kernel_rfl)) (DenL.cons (D.var (by kernel_rfl)) (DenL.cons DenE.int DenL.nil (fun _ => rfl)) (fun _ => rfl)) (fun _ => rfl)) (fun _ => rfl))) (fun _ _ => rfl)) (fun _ => rfl)))
  DenSs.nil) (DenSs.one (DenS.ret (DenE.ite (DenT.cmp (o := .eq) (D.var (by kernel_rfl)) DenE.int (by kernel_rfl)) (D.var (by kernel_rfl)) (D.var (by kernel_rfl))))))
  DenSs.nil))) (fun _ _ => rfl)) (DenSs.one (DenS.ret (DenE.neg DenE.int))))
noncomputable def cx_law_leaving (prog : Program) (w : World) (base : Heap) (mg mb : Str → Option Value) (tab : Int → Option Int) (k : Nat) : CX := ⟨prog, w, base, mg, mb, tab, k, nm_law_leaving, (fdOf 25).scope.names⟩
theorem d_law_leaving (X : GX (cx_law_leaving prog w base mg mb tab k)) : DenSs (cx_law_leaving prog w base mg mb tab k) (fdOf 25).body ir_law_leaving :=
  (DenSs.cons (D.loop (by kernel_rfl) (D.rng X (by kernel_rfl) (D.var (by kernel_rfl)) (D.len X (by kernel_rfl) (D.var (by kernel_rfl)) (fun _ _ => rfl)) (fun _ _ => rfl) (fun _ _ => rfl))
  (DenSs.cons (DenS.asgT (D.tgtCons (by kernel_rfl) (D.tgtCons (by kernel_rfl) (D.tgtCons (by kernel_rfl) (D.tgtCons (by kernel_rfl) (D.tgtCons (by kernel_rfl) (D.tgtCons (by kernel_rfl) TgtOK.nil)))))) (D.idx (D.var (by kernel_rfl)) (D.var (by kernel_rfl)) (fun _ _ => rfl)) (fun _ => rfl) (fun _ => rfl)) (DenSs.one (DenS.ite (DenT.boolOp (DenBT.and (DenT.cmp (o := .eq) (D.var (by kernel_rfl)) DenE.int (by kernel_rfl)) (DenBT.and (DenT.cmp2 (o := .le) (o' := .lt) (D.var (by kernel_rfl)) (D.var (by kernel_rfl)) (D.var (by kernel_rfl)) (by kernel_rfl)) (DenBT.one (DenT.not (DenT.cmp2 (o := .le) (o' := .lt) (D.var (by kernel_rfl)) (D.var (by kernel_rfl)) (D.var (by kernel_rfl)) (by kernel_rfl)))))))
  (DenSs.cons (DenS.ex (D.app (by kernel_rfl) (by kernel_rfl) (DenE.tup (DenL.cons DenE.int (DenL.cons (D.var (by kernel_rfl)) (DenL.cons (D.var (by kernel_rfl)) (DenL.cons (D.var (by kernel_rfl)) DenL.nil (fun _ => rfl)) (fun _ => rfl)) (fun _ => rfl)) (fun _ => rfl))) (fun _ _ => rfl)) (fun _ => rfl)) (DenSs.one (DenS.ret (D.var (by kernel_rfl)))))
  DenSs.nil))) (fun _ _ => rfl)) (DenSs.one (DenS.ret (D.var (by kernel_rfl)))))
noncomputable def cx_law_ended (prog : Program) (w : World) (base : Heap) (mg mb : Str → Option Value) (tab : Int → Option Int) (k : Nat) : CX := ⟨prog, w, base, mg, mb, tab, k, nm_law_ended, (fdOf 26).scope.names⟩
theorem d_law_ended (X : GX (cx_law_ended prog w base mg mb tab k)) : DenSs (cx_law_ended prog w base mg mb tab k) (fdOf 26).body ir_law_ended :=
  (DenSs.cons (DenS.ite (DenT.cmp (o := .eq) (D.var (by kernel_rfl)) (DenN.toE (DenN.lst DenL.nil)) (by kernel_rfl))
  (DenSs.one (DenS.ret (DenE.neg DenE.int)))
  DenSs.nil) (DenSs.cons (DenS.asgT (D.tgtCons (by kernel_rfl) (D.tgtCons (by kernel_rfl) (D.tgtCons (by kernel_rfl) (D.tgtCons (by kernel_rfl) TgtOK.nil)))) (D.pop (by kernel_rfl) (by kernel_rfl)) (fun _ => rfl) (fun _ => rfl)) (DenSs.cons (DenS.ite (DenT.cmp (o := .eq) (D.var (by kernel_rfl)) DenE.int (by kernel_rfl))
  (DenSs.one (DenS.ret (D.call X (by kernel_rfl) (by kernel_rfl) (DenL.cons (D.var (by kernel_rfl)) (DenL.cons (D.var (by kernel_rfl)) (DenL.cons (DenE.bin (o := .add) (D.var (by kernel_rfl)) DenE.int) (DenL.cons (D.var (by kernel_rfl)) (DenL.cons (D.var (by kernel_rfl)) DenL.nil (fun _ => rfl)) (fun _ => rfl)) (fun _ => rfl)) (fun _ => rfl)) (fun _ => rfl)) (fun _ _ => rfl))))
  DenSs.nil) (DenSs.cons (DenS.ite (DenT.ofE (D.var (by kernel_rfl)) (fun _ _ _ q => q) (fun _ _ => rfl))
  (DenSs.one (DenS.ret (D.idx (D.idx (D.var (by kernel_rfl)) (D.var (by kernel_rfl)) (fun _ _ => rfl)) DenE.int (fun _ _ => rfl))))
  DenSs.nil) (DenSs.one (DenS.ret (D.call X (by kernel_rfl) (by kernel_rfl) (DenL.cons (D.var (by kernel_rfl)) (DenL.cons (D.var (by kernel_rfl)) (DenL.cons (DenE.bin (o := .add) (D.var (by kernel_rfl)) DenE.int) (DenL.cons (D.var (by kernel_rfl)) DenL.nil (fun _ => rfl)) (fun _ => rfl)) (fun _ => rfl)) (fun _ => rfl)) (fun _ _ => rfl))))))))
noncomputable def cx_law_move (prog : Program) (w : World) (base : Heap) (mg mb : Str → Option Value) (tab : Int → Option Int) (k : Nat) : CX := ⟨prog, w, base, mg, mb, tab, k, nm_law_move, (fdOf 27).scope.names⟩
theorem d_law_move (X : GX (cx_law_move prog w base mg mb tab k)) : DenSs (cx_law_move prog w base mg mb tab k) (fdOf 27).body ir_law_move :=
  (DenSs.cons (DenS.asgT (D.tgtCons (by kernel_rfl) (D.tgtCons (by kernel_rfl) TgtOK.nil)) (D.idx (D.var (by kernel_rfl)) (D.var (by kernel_rfl)) (fun _ _ => rfl)) (fun _ => rfl) (fun _ => rfl)) (DenSs.cons (DenS.ite (DenT.boolOp (DenBT.or (DenT.cmp (o := .eq) (D.var (by kernel_rfl)) DenE.int (by kernel_rfl)) (DenBT.one (DenT.cmp (o := .eq) (D.var (by kernel_rfl)) DenE.int (by kernel_rfl)))))
  (DenSs.one (DenS.ret (DenE.ite (DenT.cmp (o := .eq) (DenE.bin (o := .mod) (D.var (by kernel_rfl)) DenE.int) DenE.int (by kernel_rfl)) (D.call X (by kernel_rfl) (by kernel_rfl) (DenL.cons (D.var (by kernel_rfl)) (DenL.cons (D.var (by kernel_rfl)) (DenL.cons DenE.int (DenL.cons (D.var (by kernel_rfl)) DenL.nil (fun _ => rfl)) (fun _ => rfl)) (fun _ => rfl)) (fun _ => rfl)) (fun _ _ => rfl)) (DenE.bin (o := .add) (D.var (by kernel_rfl)) DenE.int))))
  DenSs.nil) (DenSs.cons (DenS.ite (DenT.cmp (o := .eq) (D.var (by kernel_rfl)) DenE.int (by kernel_rfl))
  (DenSs.cons (D.asg (by kernel_rfl) (DenE.bin (o := .mod) (D.var (by kernel_rfl)) (DenE.bin (o := .add) (D.len X (by kernel_rfl) (D.var (by kernel_rfl)) (fun _ _ => rfl)) DenE.int)) (fun _ _ _ => rfl)) (DenSs.one (DenS.ret (DenE.ite (DenT.cmp (o := .lt) (D.var (by kernel_rfl)) (D.len X (by kernel_rfl) (D.var (by kernel_rfl)) (fun _ _ => rfl)) (by kernel_rfl)) (D.idx (D.var (by kernel_rfl)) (D.var (by kernel_rfl)) (fun _ _ => rfl)) (DenE.bin (o := .add) (D.var (by kernel_rfl)) DenE.int)))))
  DenSs.nil) (DenSs.cons (DenS.ite (DenT.cmp (o := .eq) (D.var (by kernel_rfl)) DenE.int (by kernel_rfl))
  (DenSs.one (DenS.ret (D.call X (by kernel_rfl) (by kernel_rfl) (DenL.cons (D.var (by kernel_rfl)) (DenL.cons (D.var (by kernel_rfl)) (DenL.cons DenE.int (DenL.cons (D.var (by kernel_rfl)) (DenL.cons (D.var (by kernel_rfl)) DenL.nil (fun _ => rfl)) (fun _ => rfl)) (fun _ => rfl)) (fun _ => rfl)) (fun _ => rfl)) (fun _ _ => rfl))))
  DenSs.nil) (DenSs.cons (DenS.ite (DenT.cmp (o := .eq) (D.var (by kernel_rfl)) DenE.int (by kernel_rfl))
  (DenSs.one (DenS.ret (D.call X (by kernel_rfl) (by kernel_rfl) (DenL.cons (D.var (by kernel_rfl)) (DenL.cons (D.var (by kernel_rfl)) (DenL.cons DenE.int (DenL.cons (D.var (by kernel_rfl)) DenL.nil (fun _ => rfl)) (fun _ => rfl)) (fun _ => rfl)) (fun _ => rfl)) (fun _ _ => rfl))))
  DenSs.nil) (DenSs.cons (DenS.ite (DenT.cmp (o := .eq) (D.var (by kernel_rfl)) DenE.int (by kernel_rfl))
  (DenSs.one (DenS.ret (D.call X (by kernel_rfl) (by kernel_rfl) (DenL.cons (D.var (by kernel_rfl)) (DenL.cons (D.var (by kernel_rfl)) (DenL.cons DenE.bool DenL.nil (fun _ => rfl)) (fun _ => rfl)) (fun _ => rfl)) (fun _ _ => rfl))))
  DenSs.nil) (DenSs.cons (DenS.ite (DenT.cmp (o := .eq) (D.var (by kernel_rfl)) DenE.int (by kernel_rfl))
  (DenSs.one (DenS.ret (D.call X (by kernel_rfl) (by kernel_rfl) (DenL.cons (D.var (by kernel_rfl)) (DenL.cons (D.var (by kernel_rfl)) (DenL.cons (DenE.cmp (o := .eq) (DenE.bin (o := .mod) (D.var (by kernel_rfl)) DenE.int) DenE.int (by kernel_rfl)) DenL.nil (fun _ => rfl)) (fun _ => rfl)) (fun _ => rfl)) (fun _ _ => rfl))))
  DenSs.nil) (DenSs.cons (DenS.ite (DenT.cmp (o := .eq) (D.var (by kernel_rfl)) DenE.int (by kernel_rfl))
  (DenSs.one (DenS.ret (DenE.neg DenE.int)))
  DenSs.nil) (DenSs.one (DenS.ret (DenE.ite (DenT.ofE (DenE.bin (o := .mod) (D.var (by kernel_rfl)) DenE.int) (fun _ _ _ q => q) (fun _ _ => rfl)) (D.var (by kernel_rfl)) (DenE.bin (o := .add) (D.var (by kernel_rfl)) DenE.int))))))))))))
noncomputable def cx_law_run (prog : Program) (w : World) (base : Heap) (mg mb : Str → Option Value) (tab : Int → Option Int) (k : Nat) : CX := ⟨prog, w, base, mg, mb, tab, k, nm_law_run, (fdOf 28).scope.names⟩
theorem d_law_run (X : GX (cx_law_run prog w base mg mb tab k)) : DenSs (cx_law_run prog w base mg mb tab k) (fdOf 28).body ir_law_run :=
  (DenSs.cons (D.asgNew (by kernel_rfl) (DenN.lst DenL.nil) (fun _ _ _ => rfl)) (DenSs.cons (D.asgNew (by kernel_rfl) (DenN.lst DenL.nil) (fun _ _ _ => rfl)) (DenSs.cons (D.asg (by kernel_rfl) DenE.int (fun _ _ _ => rfl)) (DenSs.cons (D.asg (by kernel_rfl) DenE.int (fun _ _ _ => rfl)) (DenSs.cons (DenS.wloop (DenT.boolOp (DenBT.and (DenT.cmp2 (o := .le) (o' := .lt) DenE.int (D.var (by kernel_rfl)) (D.len X (by kernel_rfl) (D.var (by kernel_rfl)) (fun _ _ => rfl)) (by kernel_rfl)) (DenBT.one (DenT.cmp (o := .lt) (D.len X (by kernel_rfl) (D.var (by kernel_rfl)) (fun _ _ => rfl)) DenE.int (by kernel_rfl)))))
  (DenSs.cons (DenS.asgT (D.tgtCons (by kernel_rfl) (D.tgtCons (by kernel_rfl) TgtOK.nil)) (D.idx (D.var (by kernel_rfl)) (D.var (by kernel_rfl)) (fun _ _ => rfl)) (fun _ => rfl) (fun _ => rfl)) (DenSs.one (DenS.ite (DenT.cmp (o := .eq) (D.var (by kernel_rfl)) DenE.int (by kernel_rfl))
  (DenSs.cons (D.aug (by kernel_rfl) DenE.int) (DenSs.cons (DenS.ite (DenT.cmp (o := .gt) (D.var (by kernel_rfl)) (D.len X (by kernel_rfl) (D.var (by kernel_rfl)) (fun _ _ => rfl)) (by kernel_rfl))
  (DenSs.one (DenS.ret (DenE.bin (o := .add) (D.var (by kernel_rfl)) (DenN.toE (DenN.lst (DenL.cons (DenE.tup (DenL.cons (DenE.neg DenE.int) (DenL.cons DenE.int DenL.nil (fun _ => rfl)) (fun _ => rfl))) DenL.nil (fun _ => rfl)))))))
  DenSs.nil) (DenSs.one (D.asg (by kernel_rfl) (D.var (by kernel_rfl)) (fun _ _ _ => rfl)))))
  (DenSs.cons (D.asg (by kernel_rfl) DenE.int (fun _ _ _ => rfl)) (DenSs.cons (D.asg (by kernel_rfl) (DenE.bin (o := .add) (D.idx (D.var (by kernel_rfl)) (DenE.bin (o := .mod) (D.len X (by kernel_rfl) (D.var (by kernel_rfl)) (fun _ _ => rfl)) (D.len X (by kernel_rfl) (D.var (by kernel_rfl)) (fun _ _ => rfl))) (fun _ _ => rfl)) (DenE.bin (o := .div) (D.len X (by kernel_rfl) (D.var (by kernel_rfl)) (fun _ _ => rfl)) (D.len X (by kernel_rfl) (D.var (by kernel_rfl)) (fun _ _ => rfl)))) (fun _ _ _ => rfl)) (DenSs.cons (DenS.ex (D.app (by kernel_rfl) (by kernel_rfl) (DenE.tup (DenL.cons (D.var (by kernel_rfl)) (DenL.cons (DenE.ite (DenT.cmp (o := .eq) (D.var (by kernel_rfl)) DenE.int (by kernel_rfl)) (D.var (by kernel_rfl)) DenE.int) DenL.nil (fun _ => rfl)) (fun _ => rfl))) (fun _ _ => rfl)) (fun _ => rfl)) (DenSs.one (D.asg (by kernel_rfl) (D.call X (by kernel_rfl) (by kernel_rfl) (DenL.cons (D.var (by kernel_rfl)) (DenL.cons (D.var (by kernel_rfl)) (DenL.cons (D.var (by kernel_rfl)) (DenL.cons (D.var (by kernel_rfl)) (DenL.cons (D.var (by kernel_rfl)) DenL.nil (fun _ => rfl)) (fun _ => rfl)) (fun _ => rfl)) (fun _ => rfl)) (fun _ => rfl)) (fun _ _ => rfl)) (fun _ _ _ => rfl)))))))))) (DenSs.one (DenS.ret (DenE.bin (o := .add) (D.var (by kernel_rfl)) (DenN.toE (DenN.lst (DenL.cons (DenE.tup (DenL.cons (D.min2 X (by kernel_rfl) (D.var (by kernel_rfl)) DenE.int (fun _ _ => rfl) (fun _ _ => rfl)) (DenL.cons DenE.int DenL.nil (fun _ => rfl)) (fun _ => rfl))) DenL.nil (fun _ => rfl))))))))))))
noncomputable def cx_law_goals (prog : Program) (w : World) (base : Heap) (mg mb : Str → Option Value) (tab : Int → Option Int) (k : Nat) : CX := ⟨prog, w, base, mg, mb, tab, k, nm_law_goals, (fdOf 29).scope.names⟩
theorem d_law_goals (X : GX (cx_law_goals prog w base mg mb tab k)) : DenSs (cx_law_goals prog w base mg mb tab k) (fdOf 29).body ir_law_goals :=
  (DenSs.cons (DenS.ite (DenT.cmp (o := .eq) (D.idx (D.var (by kernel_rfl)) DenE.int (fun _ _ => rfl)) DenE.int (by kernel_rfl))
  (DenSs.one (DenS.ret (D.lstOf X (by kernel_rfl) (D.idx (D.var (by kernel_rfl)) DenE.int (fun _ _ => rfl)) (fun _ _ => rfl))))
  DenSs.nil) (DenSs.cons (DenS.ite (DenT.cmp2 (o := .le) (o' := .lt) DenE.int (D.idx (D.var (by kernel_rfl)) DenE.int (fun _ _ => rfl)) DenE.int (by kernel_rfl))
  (DenSs.one (DenS.ret (DenN.toE (DenN.lst (DenL.cons (D.idx (D.var (by kernel_rfl)) DenE.int (fun _ _ => rfl)) DenL.nil (fun _ => rfl))))))
  DenSs.nil) (DenSs.one (DenS.ret (DenN.toE (DenN.lst DenL.nil))))))
noncomputable def cx_law_parts (prog : Program) (w : World) (base : Heap) (mg mb : Str → Option Value) (tab : Int → Option Int) (k : Nat) : CX := ⟨prog, w, base, mg, mb, tab, k, nm_law_parts, (fdOf 30).scope.names⟩
theorem d_law_parts (X : GX (cx_law_parts prog w base mg mb tab k)) : DenSs (cx_law_parts prog w base mg mb tab k) (fdOf 30).body ir_law_parts :=
  (DenSs.one (DenS.ret (D.comp (by kernel_rfl) (DenI.seq (D.var (by kernel_rfl)) (fun _ _ _ q => q)) (DenE.tup (DenL.cons (DenE.cmp2 (o := .le) (o' := .lt) (D.idx (D.var (by kernel_rfl)) DenE.int (fun _ _ => rfl)) (D.var (by kernel_rfl)) (D.idx (D.var (by kernel_rfl)) DenE.int (fun _ _ => rfl)) (by kernel_rfl)) (DenL.cons (DenE.boolOp (DenBE.and (DenE.cmp (o := .eq) (D.idx (D.var (by kernel_rfl)) DenE.int (fun _ _ => rfl)) DenE.int (by kernel_rfl)) (DenBE.one (DenE.cmp2 (o := .le) (o' := .lt) (D.idx (D.var (by kernel_rfl)) DenE.int (fun _ _ => rfl)) (D.var (by kernel_rfl)) (D.idx (D.var (by kernel_rfl)) DenE.int (fun _ _ => rfl)) (by kernel_rfl))))) (DenL.cons (DenE.cmp2 (o := .le) (o' := .lt) (D.idx (D.var (by kernel_rfl)) DenE.int (fun _ _ => rfl)) (D.var (by kernel_rfl)) (D.idx (D.var (by kernel_rfl)) DenE.int (fun _ _ => rfl)) (by kernel_rfl)) DenL.nil (fun _ => rfl)) (fun _ => rfl)) (fun _ => rfl))) DenIf.nil (fun _ _ => rfl))))
noncomputable def cx_law_threaded (prog : Program) (w : World) (base : Heap) (mg mb : Str → Option Value) (tab : Int → Option Int) (k : Nat) : CX := ⟨prog, w, base, mg, mb, tab, k, nm_law_threaded, (fdOf 31).scope.names⟩
theorem d_law_threaded (X : GX (cx_law_threaded prog w base mg mb tab k)) : DenSs (cx_law_threaded prog w base mg mb tab k) (fdOf 31).body ir_law_threaded :=
  (DenSs.cons (D.loop (by kernel_rfl) (D.rng1 X (by kernel_rfl) (D.len X (by kernel_rfl) (D.var (by kernel_rfl)) (fun _ _ => rfl)) (fun _ _ => rfl))
  (DenSs.cons (D.loop (by kernel_rfl) (DenI.seq (D.call X (by kernel_rfl) (by kernel_rfl) (DenL.cons (D.idx (D.var (by kernel_rfl)) (D.var (by kernel_rfl)) (fun _ _ => rfl)) DenL.nil (fun _ => rfl)) (fun _ _ => rfl)) (fun _ _ _ q => q))
  (DenSs.cons (D.asg (by kernel_rfl) (D.var (by kernel_rfl)) (fun _ _ _ => rfl)) (DenSs.cons (D.asg (by kernel_rfl) DenE.int (fun _ _ _ => rfl)) (DenSs.cons (DenS.wloop (DenT.boolOp (DenBT.and (DenT.cmp (o := .le) (D.var (by kernel_rfl)) (D.len X (by kernel_rfl) (D.var (by kernel_rfl)) (fun _ _ => rfl)) (by kernel_rfl)) (DenBT.and (DenT.cmp (o := .eq) (D.idx (D.idx (D.var (by kernel_rfl)) (D.var (by kernel_rfl)) (fun _ _ => rfl)) DenE.int (fun _ _ => rfl)) DenE.int (by kernel_rfl)) (DenBT.one (DenT.cmp (o := .eq) (D.call X (by kernel_rfl) (by kernel_rfl) (DenL.cons (D.var (by kernel_rfl)) (DenL.cons (D.var (by kernel_rfl)) DenL.nil (fun _ => rfl)) (fun _ => rfl)) (fun _ _ => rfl)) (D.call X (by kernel_rfl) (by kernel_rfl) (DenL.cons (D.var (by kernel_rfl)) (DenL.cons (D.var (by kernel_rfl)) DenL.nil (fun _ => rfl)) (fun _ => rfl)) (fun _ _ => rfl)) (by kernel_rfl))))))
  (DenSs.cons (D.asg (by kernel_rfl) (D.idx (D.idx (D.var (by kernel_rfl)) (D.var (by kernel_rfl)) (fun _ _ => rfl)) DenE.int (fun _ _ => rfl)) (fun _ _ _ => rfl)) (DenSs.one (D.aug (by kernel_rfl) DenE.int)))) (DenSs.one (DenS.ite (DenT.cmp2 (o := .lt) (o' := .le) DenE.int (D.var (by kernel_rfl)) (D.len X (by kernel_rfl) (D.var (by kernel_rfl)) (fun _ _ => rfl)) (by kernel_rfl))
  (DenSs.one (DenS.ret DenE.bool))
  DenSs.nil))))) (fun _ _ => rfl)) (DenSs.one (DenS.ite (DenT.boolOp (DenBT.and (DenT.cmp (o := .eq) (D.idx (D.var (by kernel_rfl)) (D.var (by kernel_rfl)) (fun _ _ => rfl)) (DenE.tup (DenL.cons DenE.int (DenL.cons (DenE.bin (o := .add) (D.var (by kernel_rfl)) DenE.int) DenL.nil (fun _ => rfl)) (fun _ => rfl))) (by kernel_rfl)) (DenBT.one (DenT.cmp (o := .lt) (DenE.bin (o := .add) (D.var (by kernel_rfl)) DenE.int) (D.len X (by kernel_rfl) (D.var (by kernel_rfl)) (fun _ _ => rfl)) (by kernel_rfl)))))
  (DenSs.one (DenS.ite (DenT.not (DenT.ofE (D.comp (by kernel_rfl) (DenI.seq (D.var (by kernel_rfl)) (fun _ _ _ q => q)) (D.var (by kernel_rfl)) (DenIf.one (DenT.boolOp (DenBT.or (DenT.cmp (o := .inn) (D.var (by kernel_rfl)) (D.call (GX.comp X _ _) (by kernel_rfl) (by kernel_rfl) (DenL.cons (D.var (by kernel_rfl)) DenL.nil (fun _ => rfl)) (fun _ _ => rfl)) (by kernel_rfl)) (DenBT.one (DenT.cmp (o := .inn) (DenE.bin (o := .add) (D.var (by kernel_rfl)) DenE.int) (D.call (GX.comp X _ _) (by kernel_rfl) (by kernel_rfl) (DenL.cons (D.var (by kernel_rfl)) DenL.nil (fun _ => rfl)) (fun _ _ => rfl)) (by kernel_rfl)))))) (fun _ _ => rfl)) (fun _ _ _ q => q) (fun _ _ => rfl)))
  (DenSs.one (DenS.ret DenE.bool))
  DenSs.nil))
  DenSs.nil))) (fun _ _ => rfl)) (DenSs.one (DenS.ret DenE.bool)))
noncomputable def cx_law_edges (prog : Program) (w : World) (base : Heap) (mg mb : Str → Option Value) (tab : Int → Option Int) (k : Nat) : CX := ⟨prog, w, base, mg, mb, tab, k, nm_law_edges, (fdOf 32).scope.names⟩
theorem d_law_edges (X : GX (cx_law_edges prog w base mg mb tab k)) : DenSs (cx_law_edges prog w base mg mb tab k) (fdOf 32).body ir_law_edges :=
  (DenSs.one (DenS.ret (DenE.ite (DenT.cmp (o := .eq) (D.idx (D.var (by kernel_rfl)) DenE.int (fun _ _ => rfl)) DenE.int (by kernel_rfl)) (D.lstOf X (by kernel_rfl) (DenE.slc (lo := 1) (hi := 6) (D.var (by kernel_rfl)) (by decide) (by decide) (fun _ _ => rfl)) (fun _ _ => rfl)) (D.lstOf X (by kernel_rfl) (DenE.slc (lo := 1) (hi := 5) (D.var (by kernel_rfl)) (by decide) (by decide) (fun _ _ => rfl)) (fun _ _ => rfl)))))
noncomputable def cx_law_came (prog : Program) (w : World) (base : Heap) (mg mb : Str → Option Value) (tab : Int → Option Int) (k : Nat) : CX := ⟨prog, w, base, mg, mb, tab, k, nm_law_came, (fdOf 33).scope.names⟩
theorem d_law_came (X : GX (cx_law_came prog w base mg mb tab k)) : DenSs (cx_law_came prog w base mg mb tab k) (fdOf 33).body ir_law_came :=
  (DenSs.cons (D.asgNew (by kernel_rfl) (DenN.lst (DenL.cons DenE.int DenL.nil (fun _ => rfl))) (fun _ _ _ => rfl)) (DenSs.cons (D.asg (by kernel_rfl) DenE.int (fun _ _ _ => rfl)) (DenSs.cons (DenS.wloop (DenT.cmp (o := .lt) (D.var (by kernel_rfl)) (D.len X (by kernel_rfl) (D.var (by kernel_rfl)) (fun _ _ => rfl)) (by kernel_rfl))
  (DenSs.cons (D.asg (by kernel_rfl) (D.idx (D.var (by kernel_rfl)) (D.var (by kernel_rfl)) (fun _ _ => rfl)) (fun _ _ _ => rfl)) (DenSs.cons (D.aug (by kernel_rfl) DenE.int) (DenSs.cons (D.asg (by kernel_rfl) (D.call X (by kernel_rfl) (by kernel_rfl) (DenL.cons (D.idx (D.var (by kernel_rfl)) (D.var (by kernel_rfl)) (fun _ _ => rfl)) DenL.nil (fun _ => rfl)) (fun _ _ => rfl)) (fun _ _ _ => rfl)) (DenSs.cons (DenS.ite (DenT.cmp (o := .eq) (D.idx (D.idx (D.var (by kernel_rfl)) (D.var (by kernel_rfl)) (fun _ _ => rfl)) DenE.int (fun _ _ => rfl)) DenE.int (by kernel_rfl))
  (DenSs.one (D.asg (by kernel_rfl) (DenN.toE (DenN.lst (DenL.cons (D.idx (D.idx (D.var (by kernel_rfl)) (D.var (by kernel_rfl)) (fun _ _ => rfl)) DenE.int (fun _ _ => rfl)) DenL.nil (fun _ => rfl)))) (fun _ _ _ => rfl)))
  DenSs.nil) (DenSs.cons (DenS.ite (DenT.cmp (o := .nin) (D.idx (D.idx (D.var (by kernel_rfl)) (D.var (by kernel_rfl)) (fun _ _ => rfl)) DenE.int (fun _ _ => rfl)) (DenE.tup (DenL.cons DenE.int (DenL.cons DenE.int (DenL.cons DenE.int (DenL.cons DenE.int (DenL.cons DenE.int (DenL.cons DenE.int DenL.nil (fun _ => rfl)) (fun _ => rfl)) (fun _ => rfl)) (fun _ => rfl)) (fun _ => rfl)) (fun _ => rfl))) (by kernel_rfl))
  (DenSs.one (D.asg (by kernel_rfl) (DenE.bin (o := .add) (D.var (by kernel_rfl)) (DenN.toE (DenN.lst (DenL.cons (DenE.bin (o := .add) (D.var (by kernel_rfl)) DenE.int) DenL.nil (fun _ => rfl))))) (fun _ _ _ => rfl)))
  DenSs.nil) (DenSs.cons (D.loop (by kernel_rfl) (DenI.seq (D.var (by kernel_rfl)) (fun _ _ _ q => q))
  (DenSs.one (DenS.ite (DenT.cmp2 (o := .le) (o' := .lt) (D.idx (D.var (by kernel_rfl)) DenE.int (fun _ _ => rfl)) (D.var (by kernel_rfl)) (D.idx (D.var (by kernel_rfl)) DenE.int (fun _ _ => rfl)) (by kernel_rfl))
  (DenSs.one (D.asg (by kernel_rfl) (DenE.bin (o := .add) (D.var (by kernel_rfl)) (DenE.ite (DenT.cmp (o := .eq) (D.idx (D.var (by kernel_rfl)) DenE.int (fun _ _ => rfl)) DenE.int (by kernel_rfl)) (DenN.toE (DenN.lst (DenL.cons (D.idx (D.var (by kernel_rfl)) DenE.int (fun _ _ => rfl)) (DenL.cons (D.idx (D.var (by kernel_rfl)) DenE.int (fun _ _ => rfl)) DenL.nil (fun _ => rfl)) (fun _ => rfl)))) (DenN.toE (DenN.lst (DenL.cons (D.idx (D.var (by kernel_rfl)) DenE.int (fun _ _ => rfl)) DenL.nil (fun _ => rfl)))))) (fun _ _ _ => rfl)))
  DenSs.nil)) (fun _ _ => rfl)) (DenSs.one (D.loop (by kernel_rfl) (DenI.seq (D.var (by kernel_rfl)) (fun _ _ _ q => q))
  (DenSs.one (DenS.ite (DenT.boolOp (DenBT.and (DenT.cmp (o := .lt) (D.var (by kernel_rfl)) (D.len X (by kernel_rfl) (D.var (by kernel_rfl)) (fun _ _ => rfl)) (by kernel_rfl)) (DenBT.one (DenT.cmp (o := .nin) (D.var (by kernel_rfl)) (D.var (by kernel_rfl)) (by kernel_rfl)))))
  (DenSs.one (DenS.ex (D.app (by kernel_rfl) (by kernel_rfl) (D.var (by kernel_rfl)) (fun _ _ => rfl)) (fun _ => rfl)))
  DenSs.nil)) (fun _ _ => rfl)))))))))) (DenSs.frz (DenSs.one (DenS.ret (D.var (by kernel_rfl))))))))
noncomputable def cx_law_left (prog : Program) (w : World) (base : Heap) (mg mb : Str → Option Value) (tab : Int → Option Int) (k : Nat) : CX := ⟨prog, w, base, mg, mb, tab, k, nm_law_left, (fdOf 34).scope.names⟩
theorem d_law_left (X : GX (cx_law_left prog w base mg mb tab k)) : DenSs (cx_law_left prog w base mg mb tab k) (fdOf 34).body ir_law_left :=
  (DenSs.cons (D.asg (by kernel_rfl) (D.call X (by kernel_rfl) (by kernel_rfl) (DenL.cons (D.var (by kernel_rfl)) (DenL.cons (D.var (by kernel_rfl)) DenL.nil (fun _ => rfl)) (fun _ => rfl)) (fun _ _ => rfl)) (fun _ _ _ => rfl)) (DenSs.cons (D.asgComp (by kernel_rfl) (by kernel_rfl) (DenI.seq (D.var (by kernel_rfl)) (fun _ _ _ q => q)) (D.var (by kernel_rfl)) (DenIf.one (DenT.ofE (D.comp (by kernel_rfl) (DenI.seq (D.var (by kernel_rfl)) (fun _ _ _ q => q)) (D.var (by kernel_rfl)) (DenIf.one (DenT.cmp2 (o := .le) (o' := .lt) (D.idx (D.var (by kernel_rfl)) DenE.int (fun _ _ => rfl)) (D.var (by kernel_rfl)) (D.idx (D.var (by kernel_rfl)) DenE.int (fun _ _ => rfl)) (by kernel_rfl))) (fun _ _ => rfl)) (fun _ _ _ q => q) (fun _ _ => rfl))) (fun _ _ => rfl)) (DenSs.cons (D.asgCompC (by kernel_rfl) (by kernel_rfl) (DenI.seq (D.var (by kernel_rfl)) (fun _ _ _ q => q)) (DenE.bin (o := .sub) (D.idx (D.var (by kernel_rfl)) DenE.int (fun _ _ => rfl)) DenE.int) (DenIf.one (DenT.boolOp (DenBT.and (DenT.cmp (o := .eq) (D.idx (D.var (by kernel_rfl)) DenE.int (fun _ _ => rfl)) DenE.int (by kernel_rfl)) (DenBT.and (DenT.cmp (o := .gt) (D.idx (D.var (by kernel_rfl)) DenE.int (fun _ _ => rfl)) DenE.int (by kernel_rfl)) (DenBT.one (DenT.cmp (o := .eq) (D.idx (D.idx (D.var (by kernel_rfl)) (DenE.bin (o := .sub) (D.idx (D.var (by kernel_rfl)) DenE.int (fun _ _ => rfl)) DenE.int) (fun _ _ => rfl)) DenE.int (fun _ _ => rfl)) DenE.int (by kernel_rfl))))))) (fun _ _ => rfl)) (DenSs.cons (D.asgCompC (by kernel_rfl) (by kernel_rfl) (D.rng1 X (by kernel_rfl) (D.len X (by kernel_rfl) (D.var (by kernel_rfl)) (fun _ _ => rfl)) (fun _ _ => rfl)) (D.var (by kernel_rfl)) (DenIf.one (DenT.boolOp (DenBT.or (DenT.cmp (o := .inn) (D.var (by kernel_rfl)) (D.var (by kernel_rfl)) (by kernel_rfl)) (DenBT.one (DenT.cmp (o := .inn) (D.var (by kernel_rfl)) (D.var (by kernel_rfl)) (by kernel_rfl)))))) (fun _ _ => rfl)) (DenSs.cons (D.asgComp (by kernel_rfl) (by kernel_rfl) (D.rng1 X (by kernel_rfl) (DenE.bin (o := .add) (D.len X (by kernel_rfl) (D.var (by kernel_rfl)) (fun _ _ => rfl)) DenE.int) (fun _ _ => rfl)) (D.len (GX.comp X _ _) (by kernel_rfl) (D.comp (by kernel_rfl) (DenI.seq (D.var (by kernel_rfl)) (fun _ _ _ q => q)) (D.var (by kernel_rfl)) (DenIf.one (DenT.cmp (o := .lt) (D.var (by kernel_rfl)) (D.var (by kernel_rfl)) (by kernel_rfl))) (fun _ _ => rfl)) (fun _ _ => rfl)) DenIf.nil (fun _ _ => rfl)) (DenSs.cons (D.asgNew (by kernel_rfl) (DenN.lst DenL.nil) (fun _ _ _ => rfl)) (DenSs.cons (D.loop (by kernel_rfl) (DenI.seq (D.var (by kernel_rfl)) (fun _ _ _ q => q))
  (DenSs.one (DenS.ex (D.app (by kernel_rfl) (by kernel_rfl) (DenE.tup (DenL.cons (D.idx (D.var (by kernel_rfl)) DenE.int (fun _ _ => rfl)) (DenL.cons (D.idx (D.var (by kernel_rfl)) (D.idx (D.var (by kernel_rfl)) DenE.int (fun _ _ => rfl)) (fun _ _ => rfl)) (DenL.cons (D.idx (D.var (by kernel_rfl)) (D.idx (D.var (by kernel_rfl)) DenE.int (fun _ _ => rfl)) (fun _ _ => rfl)) (DenL.cons (D.idx (D.var (by kernel_rfl)) (D.idx (D.var (by kernel_rfl)) DenE.int (fun _ _ => rfl)) (fun _ _ => rfl)) (DenL.cons (D.idx (D.var (by kernel_rfl)) (D.idx (D.var (by kernel_rfl)) DenE.int (fun _ _ => rfl)) (fun _ _ => rfl)) (DenL.cons (DenE.ite (DenT.cmp (o := .eq) (D.idx (D.var (by kernel_rfl)) DenE.int (fun _ _ => rfl)) DenE.int (by kernel_rfl)) (D.idx (D.var (by kernel_rfl)) (D.idx (D.var (by kernel_rfl)) DenE.int (fun _ _ => rfl)) (fun _ _ => rfl)) (D.idx (D.var (by kernel_rfl)) DenE.int (fun _ _ => rfl))) DenL.nil (fun _ => rfl)) (fun _ => rfl)) (fun _ => rfl)) (fun _ => rfl)) (fun _ => rfl)) (fun _ => rfl))) (fun _ _ => rfl)) (fun _ => rfl))) (fun _ _ => rfl)) (DenSs.cons (DenS.asgT (D.tgtCons (by kernel_rfl) (D.tgtCons (by kernel_rfl) (D.tgtCons (by kernel_rfl) TgtOK.nil))) (D.var (by kernel_rfl)) (fun _ => rfl) (fun _ => rfl)) (DenSs.one (DenS.ret (DenE.boolOp (DenBE.and (DenE.cmp (o := .eq) (D.var (by kernel_rfl)) (D.var (by kernel_rfl)) (by kernel_rfl)) (DenBE.and (DenE.cmp (o := .eq) (D.var (by kernel_rfl)) (D.var (by kernel_rfl)) (by kernel_rfl)) (DenBE.one (DenE.cmp (o := .eq) (D.comp (by kernel_rfl) (DenI.seq (D.var (by kernel_rfl)) (fun _ _ _ q => q)) (D.idx (D.var (by kernel_rfl)) DenE.int (fun _ _ => rfl)) DenIf.nil (fun _ _ => rfl)) (D.comp (by kernel_rfl) (DenI.seq (D.var (by kernel_rfl)) (fun _ _ _ q => q)) (D.idx (D.idx (D.var (by kernel_rfl)) (D.var (by kernel_rfl)) (fun _ _ => rfl)) DenE.int (fun _ _ => rfl)) DenIf.nil (fun _ _ => rfl)) (by kernel_rfl))))))))))))))))
noncomputable def cx_law (prog : Program) (w : World) (base : Heap) (mg mb : Str → Option Value) (tab : Int → Option Int) (k : Nat) : CX := ⟨prog, w, base, mg, mb, tab, k, nm_law, (fdOf 35).scope.names⟩
theorem d_law (X : GX (cx_law prog w base mg mb tab k)) : DenSs (cx_law prog w base mg mb tab k) (fdOf 35).body ir_law :=
  (DenSs.cons (D.asg (by kernel_rfl) (DenE.ite (DenT.cmp (o := .gt) (D.len X (by kernel_rfl) (D.var (by kernel_rfl)) (fun _ _ => rfl)) DenE.int (by kernel_rfl)) (DenE.slc (lo := 2) (hi := 18) (D.var (by kernel_rfl)) (by decide) (by decide) (fun _ _ => rfl)) (DenN.toE (DenN.lst (DenL.cons DenE.int (DenL.cons DenE.int (DenL.cons DenE.int (DenL.cons DenE.int DenL.nil (fun _ => rfl)) (fun _ => rfl)) (fun _ => rfl)) (fun _ => rfl))))) (fun _ _ _ => rfl)) (DenSs.cons (D.asg (by kernel_rfl) (DenE.bin (o := .add) (D.len X (by kernel_rfl) (D.var (by kernel_rfl)) (fun _ _ => rfl)) DenE.int) (fun _ _ _ => rfl)) (DenSs.cons (D.asg (by kernel_rfl) (DenE.bin (o := .add) (D.comp (by kernel_rfl) (DenI.seq (D.var (by kernel_rfl)) (fun _ _ _ q => q)) (D.call (GX.comp X _ _) (by kernel_rfl) (by kernel_rfl) (DenL.cons (D.var (by kernel_rfl)) (DenL.cons (D.var (by kernel_rfl)) DenL.nil (fun _ => rfl)) (fun _ => rfl)) (fun _ _ => rfl)) DenIf.nil (fun _ _ => rfl)) (DenN.toE (DenN.lst (DenL.cons (DenE.tup (DenL.cons DenE.int (DenL.cons DenE.int DenL.nil (fun _ => rfl)) (fun _ => rfl))) (DenL.cons (DenE.tup (DenL.cons DenE.int (DenL.cons DenE.int DenL.nil (fun _ => rfl)) (fun _ => rfl))) DenL.nil (fun _ => rfl)) (fun _ => rfl))))) (fun _ _ _ => rfl)) (DenSs.cons (D.asg (by kernel_rfl) (D.call X (by kernel_rfl) (by kernel_rfl) (DenL.cons (DenE.ite (DenT.cmp (o := .gt) (D.len X (by kernel_rfl) (D.var (by kernel_rfl)) (fun _ _ => rfl)) DenE.int (by kernel_rfl)) (D.idx (D.var (by kernel_rfl)) DenE.int (fun _ _ => rfl)) DenE.int) (DenL.cons (D.var (by kernel_rfl)) DenL.nil (fun _ => rfl)) (fun _ => rfl)) (fun _ _ => rfl)) (fun _ _ _ => rfl)) (DenSs.cons (D.asg (by kernel_rfl) (DenE.ite (DenT.ofE (D.var (by kernel_rfl)) (fun _ _ _ q => q) (fun _ _ => rfl)) (D.idx (D.var (by kernel_rfl)) DenE.int (fun _ _ => rfl)) DenE.int) (fun _ _ _ => rfl)) (DenSs.cons (D.asgComp (by kernel_rfl) (by kernel_rfl) (D.rng1 X (by kernel_rfl) DenE.int (fun _ _ => rfl)) (DenE.bin (o := .mod) (DenE.bin (o := .div) (D.var (by kernel_rfl)) (DenE.bin (o := .pow) DenE.int (D.var (by kernel_rfl)))) DenE.int) DenIf.nil (fun _ _ => rfl)) (DenSs.cons (D.asg (by kernel_rfl) (D.call X (by kernel_rfl) (by kernel_rfl) (DenL.cons (D.var (by kernel_rfl)) (DenL.cons (D.var (by kernel_rfl)) (DenL.cons (D.var (by kernel_rfl)) DenL.nil (fun _ => rfl)) (fun _ => rfl)) (fun _ => rfl)) (fun _ _ => rfl)) (fun _ _ _ => rfl)) (DenSs.cons (DenS.asgT (D.tgtCons (by kernel_rfl) (D.tgtCons (by kernel_rfl) TgtOK.nil)) (D.call X (by kernel_rfl) (by kernel_rfl) (DenL.cons (D.lstOf X (by kernel_rfl) (D.var (by kernel_rfl)) (fun _ _ => rfl)) (DenL.cons (D.lstOf X (by kernel_rfl) (D.var (by kernel_rfl)) (fun _ _ => rfl)) DenL.nil (fun _ => rfl)) (fun _ => rfl)) (fun _ _ => rfl)) (fun _ => rfl) (fun _ => rfl)) (DenSs.cons (DenS.ite (DenT.boolOp (DenBT.or (DenT.cmp (o := .gt) (D.len X (by kernel_rfl) (D.var (by kernel_rfl)) (fun _ _ => rfl)) (D.len X (by kernel_rfl) (D.var (by kernel_rfl)) (fun _ _ => rfl)) (by kernel_rfl)) (DenBT.one (DenT.not (DenT.ofE (D.call X (by kernel_rfl) (by kernel_rfl) (DenL.cons (D.var (by kernel_rfl)) (DenL.cons (D.var (by kernel_rfl)) DenL.nil (fun _ => rfl)) (fun _ => rfl)) (fun _ _ => rfl)) (fun _ _ _ q => q) (fun _ _ => rfl))))))
  (DenSs.one (DenS.ret DenE.bool))
  DenSs.nil) (DenSs.cons (D.asg (by kernel_rfl) (D.call X (by kernel_rfl) (by kernel_rfl) (DenL.cons (D.lstOf X (by kernel_rfl) (D.var (by kernel_rfl)) (fun _ _ => rfl)) (DenL.cons (D.lstOf X (by kernel_rfl) (D.var (by kernel_rfl)) (fun _ _ => rfl)) DenL.nil (fun _ => rfl)) (fun _ => rfl)) (fun _ _ => rfl)) (fun _ _ _ => rfl)) (DenSs.cons (DenS.ite (DenT.not (DenT.ofE (D.call X (by kernel_rfl) (by kernel_rfl) (DenL.cons (D.var (by kernel_rfl)) (DenL.cons (D.var (by kernel_rfl)) (DenL.cons (D.var (by kernel_rfl)) DenL.nil (fun _ => rfl)) (fun _ => rfl)) (fun _ => rfl)) (fun _ _ => rfl)) (fun _ _ _ q => q) (fun _ _ => rfl)))
  (DenSs.one (DenS.ret DenE.bool))
  DenSs.nil) (DenSs.one (DenS.ret (DenE.boolOp (DenBE.and (DenE.cmp (o := .eq) (D.call X (by kernel_rfl) (by kernel_rfl) (DenL.cons (D.var (by kernel_rfl)) (DenL.cons (D.var (by kernel_rfl)) (DenL.cons (D.var (by kernel_rfl)) DenL.nil (fun _ => rfl)) (fun _ => rfl)) (fun _ => rfl)) (fun _ _ => rfl)) (D.var (by kernel_rfl)) (by kernel_rfl)) (DenBE.one (DenE.cmp (o := .eq) (D.call X (by kernel_rfl) (by kernel_rfl) (DenL.cons (D.idx (D.var (by kernel_rfl)) DenE.int (fun _ _ => rfl)) (DenL.cons (D.idx (D.var (by kernel_rfl)) DenE.int (fun _ _ => rfl)) (DenL.cons (D.var (by kernel_rfl)) DenL.nil (fun _ => rfl)) (fun _ => rfl)) (fun _ => rfl)) (fun _ _ => rfl)) (D.var (by kernel_rfl)) (by kernel_rfl))))))))))))))))))
end
end Mine
end
section
namespace Mine

/-! typed data: rows, clauses -/
structure Cl where
  sort : Int
  t0 : Nat
  t1 : Nat
  h0 : Nat
  h1 : Nat
  ex : Nat
inductive Arg where
  | one (g : Nat)
  | many (gs : List Nat)
structure Row where
  op : Int
  arg : Arg
noncomputable def eN (n : Nat) : PyData := .int (n : Int)
noncomputable def eArg : Arg → PyData
  | .one g => eN g
  | .many gs => .tuple (gs.map eN)
noncomputable def eRow (r : Row) : PyData := .tuple [.int r.op, eArg r.arg]
noncomputable def eCl (c : Cl) : PyData := .tuple [.int c.sort, eN c.t0, eN c.t1, eN c.h0, eN c.h1, eN c.ex]
noncomputable def eRows (l : List Row) : PyData := .list (l.map eRow)
noncomputable def eCls (l : List Cl) : PyData := .list (l.map eCl)
noncomputable def isBr (op : Int) : Bool := (56 ≤ op && op ≤ 68) || op == 221
noncomputable def endsFlow (op : Int) : Bool := op == 56 || op == 42 || op == 122 || op == 221 || op == 65050 || op == 220 || op == 65041
noncomputable def Arg.goal : Arg → Nat
  | .one g => g
  | .many _ => 0
noncomputable def Arg.goals : Arg → List Nat
  | .one _ => []
  | .many l => l
noncomputable def Row.targets (r : Row) : List Nat := if r.op = 69 then r.arg.goals else if isBr r.op then [r.arg.goal] else []
@[reducible] noncomputable def Cl.inT (c : Cl) (i : Nat) : Prop := c.t0 ≤ i ∧ i < c.t1
noncomputable def Cl.edges (c : Cl) : List Nat := if c.sort = 1 then [c.t0, c.t1, c.h0, c.h1, c.ex] else [c.t0, c.t1, c.h0, c.h1]

/-- the shape of rows that the law and its code hold -/
structure RowOK (n : Nat) (r : Row) : Prop where
  ops : r.op = 32 ∨ r.op = 0 ∨ (56 ≤ r.op ∧ r.op ≤ 59) ∨ r.op = 68 ∨ r.op = 69 ∨ r.op = 221 ∨ r.op = 122 ∨ r.op = 220 ∨ r.op = 65041 ∨ r.op = 42
  many : r.op = 69 → ∃ gs, r.arg = .many gs ∧ gs.length ≤ 3
  one : r.op ≠ 69 → ∃ g, r.arg = .one g
  tg : ∀ g ∈ r.targets, g < n
structure CodeOK (code : List Row) : Prop where
  rows : ∀ r ∈ code, RowOK code.length r
  len : code.length ≤ 18
structure ClOK (n : Nat) (c : Cl) : Prop where
  so : c.sort = 0 ∨ c.sort = 1 ∨ c.sort = 2 ∨ c.sort = 4
  t0 : c.t0 < c.t1
  t1 : c.t1 ≤ n
  h0 : c.h0 < c.h1
  h1 : c.h1 ≤ n
  ex : c.sort = 1 → c.ex < n
structure ClsOK (n : Nat) (cls : List Cl) : Prop where
  each : ∀ c ∈ cls, ClOK n c
  len : cls.length ≤ 3
noncomputable def opsL : List Int := [32, 0, 56, 57, 58, 59, 68, 69, 221, 122, 220, 65041, 42]
theorem op_all {op : Int} {l : List Int} (P : Int → Prop) [DecidablePred P] (h : op ∈ l) (d : (l.all fun o => decide (P o)) = true) : P op := of_decide_eq_true (List.all_eq_true.mp d op h)
theorem ops_mid {op : Int} (h : 56 ≤ op ∧ op ≤ 59) : op = 56 ∨ op = 57 ∨ op = 58 ∨ op = 59 := by omega
theorem RowOK.mem {n : Nat} {r : Row} (h : RowOK n r) : r.op ∈ opsL := by
  rcases h.ops with h | h | h | h | h | h | h | h | h | h
  case inr.inr.inl => rcases ops_mid h with h | h | h | h <;> rw [h] <;> decide
  all_goals rw [h]; decide
end Mine
end
section
namespace Mine
structure Gd (prog : Program) (w : World) (base : Heap) (mg mb : Str → Option Value) (tab : Int → Option Int) : Prop where
  x : ∀ k names kinds, GX ⟨prog, w, base, mg, mb, tab, k, names, kinds⟩
  d : ∀ i, i < 36 → ∃ (fv : Addr) (o : Obj) (pm cd doc : Value), mg (fdOf i).name = some (.ref fv) ∧ base.get? fv = some o ∧ o.data = .func (Calls.docDef (fdOf i).name (fdOf i).params (fdOf i).body (fdOf i).scope pm cd doc) ∧ base.CodeRec cd (fdOf i).name
  t : ∀ op : Int, decide ((tab op).getD (-1) = 5) = isBr op
theorem Gd.def_at {prog : Program} {w : World} {base : Heap} {mg mb : Str → Option Value} {tab : Int → Option Int} (Γ : Gd prog w base mg mb tab) {k : Nat} {names : List Str} {kinds : List (Str × NameKind)} (i : Nat) (hi : i < 36) {n : Str} (hn : (fdOf i).name = n) :
    DefAt ⟨prog, w, base, mg, mb, tab, k, names, kinds⟩ n (fdOf i).params (fdOf i).body (fdOf i).scope := by subst hn; obtain ⟨fv, o, pm, cd, doc, h⟩ := Γ.d i hi; exact ⟨fv, o, pm, cd, doc, h⟩
theorem len0 {P : List Value → Prop} {vs : List Value} (h : vs.length = 0) (k : P []) : P vs := by cases vs with | nil => exact k | cons a l => cases h
theorem lenS {P : List Value → Prop} {vs : List Value} {n : Nat} (h : vs.length = n + 1) (k : ∀ a l, l.length = n → P (a :: l)) : P vs := by cases vs with | nil => cases h | cons a l => exact k a l (Nat.succ.inj h)
@[elab_as_elim] theorem len1 {P : List Value → Prop} {vs : List Value} (h : vs.length = 1) (k : ∀ a0, P [a0]) : P vs := lenS h fun a _ hl => len0 (P := fun l => P (a :: l)) hl (k a)
@[elab_as_elim] theorem len2 {P : List Value → Prop} {vs : List Value} (h : vs.length = 2) (k : ∀ a0 a1, P [a0, a1]) : P vs := lenS h fun a _ hl => len1 (P := fun l => P (a :: l)) hl (k a)
@[elab_as_elim] theorem len3 {P : List Value → Prop} {vs : List Value} (h : vs.length = 3) (k : ∀ a0 a1 a2, P [a0, a1, a2]) : P vs := lenS h fun a _ hl => len2 (P := fun l => P (a :: l)) hl (k a)
@[elab_as_elim] theorem len4 {P : List Value → Prop} {vs : List Value} (h : vs.length = 4) (k : ∀ a0 a1 a2 a3, P [a0, a1, a2, a3]) : P vs := lenS h fun a _ hl => len3 (P := fun l => P (a :: l)) hl (k a)
@[elab_as_elim] theorem len5 {P : List Value → Prop} {vs : List Value} (h : vs.length = 5) (k : ∀ a0 a1 a2 a3 a4, P [a0, a1, a2, a3, a4]) : P vs := lenS h fun a _ hl => len4 (P := fun l => P (a :: l)) hl (k a)
section
variable {prog : Program} {w : World} {base : Heap} {mg mb : Str → Option Value} {tab : Int → Option Int}

theorem f_ends_flow : FunOK "ends_flow" (fdOf 0).params (fdOf 0).body (fdOf 0).scope ["op"] where
  bind := fun pm cd doc vs hl => len1 hl fun a0 => rfl
  loc := by decide +kernel
  nod := by decide +kernel
  nofree := by decide +kernel
  co := by kernel_rfl
  gen := by kernel_rfl
  kd := by kernel_rfl
theorem call_ends_flow (Γ : Gd prog w base mg mb tab) {k : Nat} {Vs : List V} {σ : Store} {Q : KV} (hl : Vs.length = 1) (q : vcS (CallOK prog w base mg k) tab ir_ends_flow (Vs.map some ++ List.replicate 0 none) σ (RetQ σ Q)) : CallOK prog w base mg (k + 1) "ends_flow" Vs σ Q :=
  CallOK.of_body (c := cx_ends_flow prog w base mg mb tab k) (ps := ["op"]) (os := []) (Γ.x _ _ _).gb (Γ.def_at 0 (by decide) (by kernel_rfl)) f_ends_flow rfl rfl (d_ends_flow (Γ.x _ _ _)) hl q
theorem f_is_branch : FunOK "is_branch" (fdOf 1).params (fdOf 1).body (fdOf 1).scope ["op"] where
  bind := fun pm cd doc vs hl => len1 hl fun a0 => rfl
  loc := by decide +kernel
  nod := by decide +kernel
  nofree := by decide +kernel
  co := by kernel_rfl
  gen := by kernel_rfl
  kd := by kernel_rfl
theorem call_is_branch (Γ : Gd prog w base mg mb tab) {k : Nat} {Vs : List V} {σ : Store} {Q : KV} (hl : Vs.length = 1) (q : vcS (CallOK prog w base mg k) tab ir_is_branch (Vs.map some ++ List.replicate 0 none) σ (RetQ σ Q)) : CallOK prog w base mg (k + 1) "is_branch" Vs σ Q :=
  CallOK.of_body (c := cx_is_branch prog w base mg mb tab k) (ps := ["op"]) (os := []) (Γ.x _ _ _).gb (Γ.def_at 1 (by decide) (by kernel_rfl)) f_is_branch rfl rfl (d_is_branch (Γ.x _ _ _)) hl q
theorem f_targets : FunOK "targets" (fdOf 2).params (fdOf 2).body (fdOf 2).scope ["ins"] where
  bind := fun pm cd doc vs hl => len1 hl fun a0 => rfl
  loc := by decide +kernel
  nod := by decide +kernel
  nofree := by decide +kernel
  co := by kernel_rfl
  gen := by kernel_rfl
  kd := by kernel_rfl
theorem call_targets (Γ : Gd prog w base mg mb tab) {k : Nat} {Vs : List V} {σ : Store} {Q : KV} (hl : Vs.length = 1) (q : vcS (CallOK prog w base mg k) tab ir_targets (Vs.map some ++ List.replicate 0 none) σ (RetQ σ Q)) : CallOK prog w base mg (k + 1) "targets" Vs σ Q :=
  CallOK.of_body (c := cx_targets prog w base mg mb tab k) (ps := ["ins"]) (os := []) (Γ.x _ _ _).gb (Γ.def_at 2 (by decide) (by kernel_rfl)) f_targets rfl rfl (d_targets (Γ.x _ _ _)) hl q
theorem f_prefix_goal : FunOK "prefix_goal" (fdOf 3).params (fdOf 3).body (fdOf 3).scope ["op"] where
  bind := fun pm cd doc vs hl => len1 hl fun a0 => rfl
  loc := by decide +kernel
  nod := by decide +kernel
  nofree := by decide +kernel
  co := by kernel_rfl
  gen := by kernel_rfl
  kd := by kernel_rfl
theorem call_prefix_goal (Γ : Gd prog w base mg mb tab) {k : Nat} {Vs : List V} {σ : Store} {Q : KV} (hl : Vs.length = 1) (q : vcS (CallOK prog w base mg k) tab ir_prefix_goal (Vs.map some ++ List.replicate 0 none) σ (RetQ σ Q)) : CallOK prog w base mg (k + 1) "prefix_goal" Vs σ Q :=
  CallOK.of_body (c := cx_prefix_goal prog w base mg mb tab k) (ps := ["op"]) (os := []) (Γ.x _ _ _).gb (Γ.def_at 3 (by decide) (by kernel_rfl)) f_prefix_goal rfl rfl (d_prefix_goal (Γ.x _ _ _)) hl q
theorem f_clause_edges : FunOK "clause_edges" (fdOf 4).params (fdOf 4).body (fdOf 4).scope ["clause"] where
  bind := fun pm cd doc vs hl => len1 hl fun a0 => rfl
  loc := by decide +kernel
  nod := by decide +kernel
  nofree := by decide +kernel
  co := by kernel_rfl
  gen := by kernel_rfl
  kd := by kernel_rfl
theorem call_clause_edges (Γ : Gd prog w base mg mb tab) {k : Nat} {Vs : List V} {σ : Store} {Q : KV} (hl : Vs.length = 1) (q : vcS (CallOK prog w base mg k) tab ir_clause_edges (Vs.map some ++ List.replicate 0 none) σ (RetQ σ Q)) : CallOK prog w base mg (k + 1) "clause_edges" Vs σ Q :=
  CallOK.of_body (c := cx_clause_edges prog w base mg mb tab k) (ps := ["clause"]) (os := []) (Γ.x _ _ _).gb (Γ.def_at 4 (by decide) (by kernel_rfl)) f_clause_edges rfl rfl (d_clause_edges (Γ.x _ _ _)) hl q
theorem f_check_edges : FunOK "check_edges" (fdOf 5).params (fdOf 5).body (fdOf 5).scope ["code", "clauses"] where
  bind := fun pm cd doc vs hl => len2 hl fun a0 a1 => rfl
  loc := by decide +kernel
  nod := by decide +kernel
  nofree := by decide +kernel
  co := by kernel_rfl
  gen := by kernel_rfl
  kd := by kernel_rfl
theorem call_check_edges (Γ : Gd prog w base mg mb tab) {k : Nat} {Vs : List V} {σ : Store} {Q : KV} (hl : Vs.length = 2) (q : vcS (CallOK prog w base mg k) tab ir_check_edges (Vs.map some ++ List.replicate 4 none) σ (RetQ σ Q)) : CallOK prog w base mg (k + 1) "check_edges" Vs σ Q :=
  CallOK.of_body (c := cx_check_edges prog w base mg mb tab k) (ps := ["code", "clauses"]) (os := ["count", "at", "clause", "edge"]) (Γ.x _ _ _).gb (Γ.def_at 5 (by decide) (by kernel_rfl)) f_check_edges rfl rfl (d_check_edges (Γ.x _ _ _)) hl q
theorem f_successors : FunOK "successors" (fdOf 6).params (fdOf 6).body (fdOf 6).scope ["code", "i"] where
  bind := fun pm cd doc vs hl => len2 hl fun a0 a1 => rfl
  loc := by decide +kernel
  nod := by decide +kernel
  nofree := by decide +kernel
  co := by kernel_rfl
  gen := by kernel_rfl
  kd := by kernel_rfl
theorem call_successors (Γ : Gd prog w base mg mb tab) {k : Nat} {Vs : List V} {σ : Store} {Q : KV} (hl : Vs.length = 2) (q : vcS (CallOK prog w base mg k) tab ir_successors (Vs.map some ++ List.replicate 3 none) σ (RetQ σ Q)) : CallOK prog w base mg (k + 1) "successors" Vs σ Q :=
  CallOK.of_body (c := cx_successors prog w base mg mb tab k) (ps := ["code", "i"]) (os := ["count", "out", "goal"]) (Γ.x _ _ _).gb (Γ.def_at 6 (by decide) (by kernel_rfl)) f_successors rfl rfl (d_successors (Γ.x _ _ _)) hl q
theorem f_reach_one : FunOK "reach_one" (fdOf 7).params (fdOf 7).body (fdOf 7).scope ["seen", "work", "i"] where
  bind := fun pm cd doc vs hl => len3 hl fun a0 a1 a2 => rfl
  loc := by decide +kernel
  nod := by decide +kernel
  nofree := by decide +kernel
  co := by kernel_rfl
  gen := by kernel_rfl
  kd := by kernel_rfl
theorem call_reach_one (Γ : Gd prog w base mg mb tab) {k : Nat} {Vs : List V} {σ : Store} {Q : KV} (hl : Vs.length = 3) (q : vcS (CallOK prog w base mg k) tab ir_reach_one (Vs.map some ++ List.replicate 0 none) σ (RetQ σ Q)) : CallOK prog w base mg (k + 1) "reach_one" Vs σ Q :=
  CallOK.of_body (c := cx_reach_one prog w base mg mb tab k) (ps := ["seen", "work", "i"]) (os := []) (Γ.x _ _ _).gb (Γ.def_at 7 (by decide) (by kernel_rfl)) f_reach_one rfl rfl (d_reach_one (Γ.x _ _ _)) hl q
theorem f_reachable : FunOK "reachable" (fdOf 8).params (fdOf 8).body (fdOf 8).scope ["code", "clauses"] where
  bind := fun pm cd doc vs hl => len2 hl fun a0 a1 => rfl
  loc := by decide +kernel
  nod := by decide +kernel
  nofree := by decide +kernel
  co := by kernel_rfl
  gen := by kernel_rfl
  kd := by kernel_rfl
theorem call_reachable (Γ : Gd prog w base mg mb tab) {k : Nat} {Vs : List V} {σ : Store} {Q : KV} (hl : Vs.length = 2) (q : vcS (CallOK prog w base mg k) tab ir_reachable (Vs.map some ++ List.replicate 5 none) σ (RetQ σ Q)) : CallOK prog w base mg (k + 1) "reachable" Vs σ Q :=
  CallOK.of_body (c := cx_reachable prog w base mg mb tab k) (ps := ["code", "clauses"]) (os := ["seen", "work", "i", "goal", "clause"]) (Γ.x _ _ _).gb (Γ.def_at 8 (by decide) (by kernel_rfl)) f_reachable rfl rfl (d_reachable (Γ.x _ _ _)) hl q
theorem f_new_places : FunOK "new_places" (fdOf 9).params (fdOf 9).body (fdOf 9).scope ["flags"] where
  bind := fun pm cd doc vs hl => len1 hl fun a0 => rfl
  loc := by decide +kernel
  nod := by decide +kernel
  nofree := by decide +kernel
  co := by kernel_rfl
  gen := by kernel_rfl
  kd := by kernel_rfl
theorem call_new_places (Γ : Gd prog w base mg mb tab) {k : Nat} {Vs : List V} {σ : Store} {Q : KV} (hl : Vs.length = 1) (q : vcS (CallOK prog w base mg k) tab ir_new_places (Vs.map some ++ List.replicate 3 none) σ (RetQ σ Q)) : CallOK prog w base mg (k + 1) "new_places" Vs σ Q :=
  CallOK.of_body (c := cx_new_places prog w base mg mb tab k) (ps := ["flags"]) (os := ["out", "count", "one"]) (Γ.x _ _ _).gb (Γ.def_at 9 (by decide) (by kernel_rfl)) f_new_places rfl rfl (d_new_places (Γ.x _ _ _)) hl q
theorem f_move_targets : FunOK "move_targets" (fdOf 10).params (fdOf 10).body (fdOf 10).scope ["ins", "places"] where
  bind := fun pm cd doc vs hl => len2 hl fun a0 a1 => rfl
  loc := by decide +kernel
  nod := by decide +kernel
  nofree := by decide +kernel
  co := by kernel_rfl
  gen := by kernel_rfl
  kd := by kernel_rfl
theorem call_move_targets (Γ : Gd prog w base mg mb tab) {k : Nat} {Vs : List V} {σ : Store} {Q : KV} (hl : Vs.length = 2) (q : vcS (CallOK prog w base mg k) tab ir_move_targets (Vs.map some ++ List.replicate 2 none) σ (RetQ σ Q)) : CallOK prog w base mg (k + 1) "move_targets" Vs σ Q :=
  CallOK.of_body (c := cx_move_targets prog w base mg mb tab k) (ps := ["ins", "places"]) (os := ["out", "goal"]) (Γ.x _ _ _).gb (Γ.def_at 10 (by decide) (by kernel_rfl)) f_move_targets rfl rfl (d_move_targets (Γ.x _ _ _)) hl q
theorem f_move_clause : FunOK "move_clause" (fdOf 11).params (fdOf 11).body (fdOf 11).scope ["clause", "places"] where
  bind := fun pm cd doc vs hl => len2 hl fun a0 a1 => rfl
  loc := by decide +kernel
  nod := by decide +kernel
  nofree := by decide +kernel
  co := by kernel_rfl
  gen := by kernel_rfl
  kd := by kernel_rfl
theorem call_move_clause (Γ : Gd prog w base mg mb tab) {k : Nat} {Vs : List V} {σ : Store} {Q : KV} (hl : Vs.length = 2) (q : vcS (CallOK prog w base mg k) tab ir_move_clause (Vs.map some ++ List.replicate 1 none) σ (RetQ σ Q)) : CallOK prog w base mg (k + 1) "move_clause" Vs σ Q :=
  CallOK.of_body (c := cx_move_clause prog w base mg mb tab k) (ps := ["clause", "places"]) (os := ["extra"]) (Γ.x _ _ _).gb (Γ.def_at 11 (by decide) (by kernel_rfl)) f_move_clause rfl rfl (d_move_clause (Γ.x _ _ _)) hl q
theorem f_keep_only : FunOK "keep_only" (fdOf 12).params (fdOf 12).body (fdOf 12).scope ["code", "clauses", "kept"] where
  bind := fun pm cd doc vs hl => len3 hl fun a0 a1 a2 => rfl
  loc := by decide +kernel
  nod := by decide +kernel
  nofree := by decide +kernel
  co := by kernel_rfl
  gen := by kernel_rfl
  kd := by kernel_rfl
theorem call_keep_only (Γ : Gd prog w base mg mb tab) {k : Nat} {Vs : List V} {σ : Store} {Q : KV} (hl : Vs.length = 3) (q : vcS (CallOK prog w base mg k) tab ir_keep_only (Vs.map some ++ List.replicate 5 none) σ (RetQ σ Q)) : CallOK prog w base mg (k + 1) "keep_only" Vs σ Q :=
  CallOK.of_body (c := cx_keep_only prog w base mg mb tab k) (ps := ["code", "clauses", "kept"]) (os := ["places", "out", "i", "edges", "clause"]) (Γ.x _ _ _).gb (Γ.def_at 12 (by decide) (by kernel_rfl)) f_keep_only rfl rfl (d_keep_only (Γ.x _ _ _)) hl q
theorem f_clause_lives : FunOK "clause_lives" (fdOf 13).params (fdOf 13).body (fdOf 13).scope ["clause", "kept"] where
  bind := fun pm cd doc vs hl => len2 hl fun a0 a1 => rfl
  loc := by decide +kernel
  nod := by decide +kernel
  nofree := by decide +kernel
  co := by kernel_rfl
  gen := by kernel_rfl
  kd := by kernel_rfl
theorem call_clause_lives (Γ : Gd prog w base mg mb tab) {k : Nat} {Vs : List V} {σ : Store} {Q : KV} (hl : Vs.length = 2) (q : vcS (CallOK prog w base mg k) tab ir_clause_lives (Vs.map some ++ List.replicate 1 none) σ (RetQ σ Q)) : CallOK prog w base mg (k + 1) "clause_lives" Vs σ Q :=
  CallOK.of_body (c := cx_clause_lives prog w base mg mb tab k) (ps := ["clause", "kept"]) (os := ["i"]) (Γ.x _ _ _).gb (Γ.def_at 13 (by decide) (by kernel_rfl)) f_clause_lives rfl rfl (d_clause_lives (Γ.x _ _ _)) hl q
theorem f_drop_dead : FunOK "drop_dead" (fdOf 14).params (fdOf 14).body (fdOf 14).scope ["code", "clauses"] where
  bind := fun pm cd doc vs hl => len2 hl fun a0 a1 => rfl
  loc := by decide +kernel
  nod := by decide +kernel
  nofree := by decide +kernel
  co := by kernel_rfl
  gen := by kernel_rfl
  kd := by kernel_rfl
theorem call_drop_dead (Γ : Gd prog w base mg mb tab) {k : Nat} {Vs : List V} {σ : Store} {Q : KV} (hl : Vs.length = 2) (q : vcS (CallOK prog w base mg k) tab ir_drop_dead (Vs.map some ++ List.replicate 4 none) σ (RetQ σ Q)) : CallOK prog w base mg (k + 1) "drop_dead" Vs σ Q :=
  CallOK.of_body (c := cx_drop_dead prog w base mg mb tab k) (ps := ["code", "clauses"]) (os := ["handled", "kept", "live", "clause"]) (Γ.x _ _ _).gb (Γ.def_at 14 (by decide) (by kernel_rfl)) f_drop_dead rfl rfl (d_drop_dead (Γ.x _ _ _)) hl q
theorem f_region_key : FunOK "region_key" (fdOf 15).params (fdOf 15).body (fdOf 15).scope ["clauses", "i"] where
  bind := fun pm cd doc vs hl => len2 hl fun a0 a1 => rfl
  loc := by decide +kernel
  nod := by decide +kernel
  nofree := by decide +kernel
  co := by kernel_rfl
  gen := by kernel_rfl
  kd := by kernel_rfl
theorem call_region_key (Γ : Gd prog w base mg mb tab) {k : Nat} {Vs : List V} {σ : Store} {Q : KV} (hl : Vs.length = 2) (q : vcS (CallOK prog w base mg k) tab ir_region_key (Vs.map some ++ List.replicate 3 none) σ (RetQ σ Q)) : CallOK prog w base mg (k + 1) "region_key" Vs σ Q :=
  CallOK.of_body (c := cx_region_key prog w base mg mb tab k) (ps := ["clauses", "i"]) (os := ["out", "place", "clause"]) (Γ.x _ _ _).gb (Γ.def_at 15 (by decide) (by kernel_rfl)) f_region_key rfl rfl (d_region_key (Γ.x _ _ _)) hl q
theorem f_chain_end : FunOK "chain_end" (fdOf 16).params (fdOf 16).body (fdOf 16).scope ["code", "clauses", "i", "goal"] where
  bind := fun pm cd doc vs hl => len4 hl fun a0 a1 a2 a3 => rfl
  loc := by decide +kernel
  nod := by decide +kernel
  nofree := by decide +kernel
  co := by kernel_rfl
  gen := by kernel_rfl
  kd := by kernel_rfl
theorem call_chain_end (Γ : Gd prog w base mg mb tab) {k : Nat} {Vs : List V} {σ : Store} {Q : KV} (hl : Vs.length = 4) (q : vcS (CallOK prog w base mg k) tab ir_chain_end (Vs.map some ++ List.replicate 3 none) σ (RetQ σ Q)) : CallOK prog w base mg (k + 1) "chain_end" Vs σ Q :=
  CallOK.of_body (c := cx_chain_end prog w base mg mb tab k) (ps := ["code", "clauses", "i", "goal"]) (os := ["key", "seen", "at"]) (Γ.x _ _ _).gb (Γ.def_at 16 (by decide) (by kernel_rfl)) f_chain_end rfl rfl (d_chain_end (Γ.x _ _ _)) hl q
theorem f_checked_goal : FunOK "checked_goal" (fdOf 17).params (fdOf 17).body (fdOf 17).scope ["code", "i", "goal"] where
  bind := fun pm cd doc vs hl => len3 hl fun a0 a1 a2 => rfl
  loc := by decide +kernel
  nod := by decide +kernel
  nofree := by decide +kernel
  co := by kernel_rfl
  gen := by kernel_rfl
  kd := by kernel_rfl
theorem call_checked_goal (Γ : Gd prog w base mg mb tab) {k : Nat} {Vs : List V} {σ : Store} {Q : KV} (hl : Vs.length = 3) (q : vcS (CallOK prog w base mg k) tab ir_checked_goal (Vs.map some ++ List.replicate 0 none) σ (RetQ σ Q)) : CallOK prog w base mg (k + 1) "checked_goal" Vs σ Q :=
  CallOK.of_body (c := cx_checked_goal prog w base mg mb tab k) (ps := ["code", "i", "goal"]) (os := []) (Γ.x _ _ _).gb (Γ.def_at 17 (by decide) (by kernel_rfl)) f_checked_goal rfl rfl (d_checked_goal (Γ.x _ _ _)) hl q
theorem f_thread_one : FunOK "thread_one" (fdOf 18).params (fdOf 18).body (fdOf 18).scope ["code", "clauses", "i"] where
  bind := fun pm cd doc vs hl => len3 hl fun a0 a1 a2 => rfl
  loc := by decide +kernel
  nod := by decide +kernel
  nofree := by decide +kernel
  co := by kernel_rfl
  gen := by kernel_rfl
  kd := by kernel_rfl
theorem call_thread_one (Γ : Gd prog w base mg mb tab) {k : Nat} {Vs : List V} {σ : Store} {Q : KV} (hl : Vs.length = 3) (q : vcS (CallOK prog w base mg k) tab ir_thread_one (Vs.map some ++ List.replicate 3 none) σ (RetQ σ Q)) : CallOK prog w base mg (k + 1) "thread_one" Vs σ Q :=
  CallOK.of_body (c := cx_thread_one prog w base mg mb tab k) (ps := ["code", "clauses", "i"]) (os := ["ins", "out", "goal"]) (Γ.x _ _ _).gb (Γ.def_at 18 (by decide) (by kernel_rfl)) f_thread_one rfl rfl (d_thread_one (Γ.x _ _ _)) hl q
theorem f_is_edge : FunOK "is_edge" (fdOf 19).params (fdOf 19).body (fdOf 19).scope ["clauses", "i"] where
  bind := fun pm cd doc vs hl => len2 hl fun a0 a1 => rfl
  loc := by decide +kernel
  nod := by decide +kernel
  nofree := by decide +kernel
  co := by kernel_rfl
  gen := by kernel_rfl
  kd := by kernel_rfl
theorem call_is_edge (Γ : Gd prog w base mg mb tab) {k : Nat} {Vs : List V} {σ : Store} {Q : KV} (hl : Vs.length = 2) (q : vcS (CallOK prog w base mg k) tab ir_is_edge (Vs.map some ++ List.replicate 1 none) σ (RetQ σ Q)) : CallOK prog w base mg (k + 1) "is_edge" Vs σ Q :=
  CallOK.of_body (c := cx_is_edge prog w base mg mb tab k) (ps := ["clauses", "i"]) (os := ["clause"]) (Γ.x _ _ _).gb (Γ.def_at 19 (by decide) (by kernel_rfl)) f_is_edge rfl rfl (d_is_edge (Γ.x _ _ _)) hl q
theorem f_thread_in : FunOK "thread_in" (fdOf 20).params (fdOf 20).body (fdOf 20).scope ["code", "clauses"] where
  bind := fun pm cd doc vs hl => len2 hl fun a0 a1 => rfl
  loc := by decide +kernel
  nod := by decide +kernel
  nofree := by decide +kernel
  co := by kernel_rfl
  gen := by kernel_rfl
  kd := by kernel_rfl
theorem call_thread_in (Γ : Gd prog w base mg mb tab) {k : Nat} {Vs : List V} {σ : Store} {Q : KV} (hl : Vs.length = 2) (q : vcS (CallOK prog w base mg k) tab ir_thread_in (Vs.map some ++ List.replicate 1 none) σ (RetQ σ Q)) : CallOK prog w base mg (k + 1) "thread_in" Vs σ Q :=
  CallOK.of_body (c := cx_thread_in prog w base mg mb tab k) (ps := ["code", "clauses"]) (os := ["count"]) (Γ.x _ _ _).gb (Γ.def_at 20 (by decide) (by kernel_rfl)) f_thread_in rfl rfl (d_thread_in (Γ.x _ _ _)) hl q
theorem f_thread_round : FunOK "thread_round" (fdOf 21).params (fdOf 21).body (fdOf 21).scope ["code", "clauses"] where
  bind := fun pm cd doc vs hl => len2 hl fun a0 a1 => rfl
  loc := by decide +kernel
  nod := by decide +kernel
  nofree := by decide +kernel
  co := by kernel_rfl
  gen := by kernel_rfl
  kd := by kernel_rfl
theorem call_thread_round (Γ : Gd prog w base mg mb tab) {k : Nat} {Vs : List V} {σ : Store} {Q : KV} (hl : Vs.length = 2) (q : vcS (CallOK prog w base mg k) tab ir_thread_round (Vs.map some ++ List.replicate 5 none) σ (RetQ σ Q)) : CallOK prog w base mg (k + 1) "thread_round" Vs σ Q :=
  CallOK.of_body (c := cx_thread_round prog w base mg mb tab k) (ps := ["code", "clauses"]) (os := ["rows", "i", "kept", "idle", "out"]) (Γ.x _ _ _).gb (Γ.def_at 21 (by decide) (by kernel_rfl)) f_thread_round rfl rfl (d_thread_round (Γ.x _ _ _)) hl q
theorem f_law_row : FunOK "_law_row" (fdOf 22).params (fdOf 22).body (fdOf 22).scope ["v", "size"] where
  bind := fun pm cd doc vs hl => len2 hl fun a0 a1 => rfl
  loc := by decide +kernel
  nod := by decide +kernel
  nofree := by decide +kernel
  co := by kernel_rfl
  gen := by kernel_rfl
  kd := by kernel_rfl
theorem call_law_row (Γ : Gd prog w base mg mb tab) {k : Nat} {Vs : List V} {σ : Store} {Q : KV} (hl : Vs.length = 2) (q : vcS (CallOK prog w base mg k) tab ir_law_row (Vs.map some ++ List.replicate 2 none) σ (RetQ σ Q)) : CallOK prog w base mg (k + 1) "_law_row" Vs σ Q :=
  CallOK.of_body (c := cx_law_row prog w base mg mb tab k) (ps := ["v", "size"]) (os := ["k", "t"]) (Γ.x _ _ _).gb (Γ.def_at 22 (by decide) (by kernel_rfl)) f_law_row rfl rfl (d_law_row (Γ.x _ _ _)) hl q
theorem f_law_clauses : FunOK "_law_clauses" (fdOf 23).params (fdOf 23).body (fdOf 23).scope ["q", "size"] where
  bind := fun pm cd doc vs hl => len2 hl fun a0 a1 => rfl
  loc := by decide +kernel
  nod := by decide +kernel
  nofree := by decide +kernel
  co := by kernel_rfl
  gen := by kernel_rfl
  kd := by kernel_rfl
theorem call_law_clauses (Γ : Gd prog w base mg mb tab) {k : Nat} {Vs : List V} {σ : Store} {Q : KV} (hl : Vs.length = 2) (q : vcS (CallOK prog w base mg k) tab ir_law_clauses (Vs.map some ++ List.replicate 6 none) σ (RetQ σ Q)) : CallOK prog w base mg (k + 1) "_law_clauses" Vs σ Q :=
  CallOK.of_body (c := cx_law_clauses prog w base mg mb tab k) (ps := ["q", "size"]) (os := ["out", "j", "w", "sort", "t0", "h0"]) (Γ.x _ _ _).gb (Γ.def_at 23 (by decide) (by kernel_rfl)) f_law_clauses rfl rfl (d_law_clauses (Γ.x _ _ _)) hl q
theorem f_law_thrown : FunOK "_law_thrown" (fdOf 24).params (fdOf 24).body (fdOf 24).scope ["clauses", "conts", "first", "at"] where
  bind := fun pm cd doc vs hl => len4 hl fun a0 a1 a2 a3 => rfl
  loc := by decide +kernel
  nod := by decide +kernel
  nofree := by decide +kernel
  co := by kernel_rfl
  gen := by kernel_rfl
  kd := by kernel_rfl
theorem call_law_thrown (Γ : Gd prog w base mg mb tab) {k : Nat} {Vs : List V} {σ : Store} {Q : KV} (hl : Vs.length = 4) (q : vcS (CallOK prog w base mg k) tab ir_law_thrown (Vs.map some ++ List.replicate 7 none) σ (RetQ σ Q)) : CallOK prog w base mg (k + 1) "_law_thrown" Vs σ Q :=
  CallOK.of_body (c := cx_law_thrown prog w base mg mb tab k) (ps := ["clauses", "conts", "first", "at"]) (os := ["j", "sort", "t0", "t1", "h0", "h1", "extra"]) (Γ.x _ _ _).gb (Γ.def_at 24 (by decide) (by kernel_rfl)) f_law_thrown rfl rfl (d_law_thrown (Γ.x _ _ _)) hl q
theorem f_law_leaving : FunOK "_law_leaving" (fdOf 25).params (fdOf 25).body (fdOf 25).scope ["clauses", "conts", "first", "at", "goal"] where
  bind := fun pm cd doc vs hl => len5 hl fun a0 a1 a2 a3 a4 => rfl
  loc := by decide +kernel
  nod := by decide +kernel
  nofree := by decide +kernel
  co := by kernel_rfl
  gen := by kernel_rfl
  kd := by kernel_rfl
theorem call_law_leaving (Γ : Gd prog w base mg mb tab) {k : Nat} {Vs : List V} {σ : Store} {Q : KV} (hl : Vs.length = 5) (q : vcS (CallOK prog w base mg k) tab ir_law_leaving (Vs.map some ++ List.replicate 7 none) σ (RetQ σ Q)) : CallOK prog w base mg (k + 1) "_law_leaving" Vs σ Q :=
  CallOK.of_body (c := cx_law_leaving prog w base mg mb tab k) (ps := ["clauses", "conts", "first", "at", "goal"]) (os := ["j", "sort", "t0", "t1", "h0", "h1", "extra"]) (Γ.x _ _ _).gb (Γ.def_at 25 (by decide) (by kernel_rfl)) f_law_leaving rfl rfl (d_law_leaving (Γ.x _ _ _)) hl q
theorem f_law_ended : FunOK "_law_ended" (fdOf 26).params (fdOf 26).body (fdOf 26).scope ["clauses", "conts", "answer"] where
  bind := fun pm cd doc vs hl => len3 hl fun a0 a1 a2 => rfl
  loc := by decide +kernel
  nod := by decide +kernel
  nofree := by decide +kernel
  co := by kernel_rfl
  gen := by kernel_rfl
  kd := by kernel_rfl
theorem call_law_ended (Γ : Gd prog w base mg mb tab) {k : Nat} {Vs : List V} {σ : Store} {Q : KV} (hl : Vs.length = 3) (q : vcS (CallOK prog w base mg k) tab ir_law_ended (Vs.map some ++ List.replicate 4 none) σ (RetQ σ Q)) : CallOK prog w base mg (k + 1) "_law_ended" Vs σ Q :=
  CallOK.of_body (c := cx_law_ended prog w base mg mb tab k) (ps := ["clauses", "conts", "answer"]) (os := ["sort", "j", "at", "goal"]) (Γ.x _ _ _).gb (Γ.def_at 26 (by decide) (by kernel_rfl)) f_law_ended rfl rfl (d_law_ended (Γ.x _ _ _)) hl q
theorem f_law_move : FunOK "_law_move" (fdOf 27).params (fdOf 27).body (fdOf 27).scope ["code", "clauses", "conts", "at", "choice"] where
  bind := fun pm cd doc vs hl => len5 hl fun a0 a1 a2 a3 a4 => rfl
  loc := by decide +kernel
  nod := by decide +kernel
  nofree := by decide +kernel
  co := by kernel_rfl
  gen := by kernel_rfl
  kd := by kernel_rfl
theorem call_law_move (Γ : Gd prog w base mg mb tab) {k : Nat} {Vs : List V} {σ : Store} {Q : KV} (hl : Vs.length = 5) (q : vcS (CallOK prog w base mg k) tab ir_law_move (Vs.map some ++ List.replicate 3 none) σ (RetQ σ Q)) : CallOK prog w base mg (k + 1) "_law_move" Vs σ Q :=
  CallOK.of_body (c := cx_law_move prog w base mg mb tab k) (ps := ["code", "clauses", "conts", "at", "choice"]) (os := ["op", "goal", "way"]) (Γ.x _ _ _).gb (Γ.def_at 27 (by decide) (by kernel_rfl)) f_law_move rfl rfl (d_law_move (Γ.x _ _ _)) hl q
theorem f_law_run : FunOK "_law_run" (fdOf 28).params (fdOf 28).body (fdOf 28).scope ["code", "clauses", "tape"] where
  bind := fun pm cd doc vs hl => len3 hl fun a0 a1 a2 => rfl
  loc := by decide +kernel
  nod := by decide +kernel
  nofree := by decide +kernel
  co := by kernel_rfl
  gen := by kernel_rfl
  kd := by kernel_rfl
theorem call_law_run (Γ : Gd prog w base mg mb tab) {k : Nat} {Vs : List V} {σ : Store} {Q : KV} (hl : Vs.length = 3) (q : vcS (CallOK prog w base mg k) tab ir_law_run (Vs.map some ++ List.replicate 7 none) σ (RetQ σ Q)) : CallOK prog w base mg (k + 1) "_law_run" Vs σ Q :=
  CallOK.of_body (c := cx_law_run prog w base mg mb tab k) (ps := ["code", "clauses", "tape"]) (os := ["seen", "conts", "at", "still", "op", "goal", "choice"]) (Γ.x _ _ _).gb (Γ.def_at 28 (by decide) (by kernel_rfl)) f_law_run rfl rfl (d_law_run (Γ.x _ _ _)) hl q
theorem f_law_goals : FunOK "_law_goals" (fdOf 29).params (fdOf 29).body (fdOf 29).scope ["row"] where
  bind := fun pm cd doc vs hl => len1 hl fun a0 => rfl
  loc := by decide +kernel
  nod := by decide +kernel
  nofree := by decide +kernel
  co := by kernel_rfl
  gen := by kernel_rfl
  kd := by kernel_rfl
theorem call_law_goals (Γ : Gd prog w base mg mb tab) {k : Nat} {Vs : List V} {σ : Store} {Q : KV} (hl : Vs.length = 1) (q : vcS (CallOK prog w base mg k) tab ir_law_goals (Vs.map some ++ List.replicate 0 none) σ (RetQ σ Q)) : CallOK prog w base mg (k + 1) "_law_goals" Vs σ Q :=
  CallOK.of_body (c := cx_law_goals prog w base mg mb tab k) (ps := ["row"]) (os := []) (Γ.x _ _ _).gb (Γ.def_at 29 (by decide) (by kernel_rfl)) f_law_goals rfl rfl (d_law_goals (Γ.x _ _ _)) hl q
theorem f_law_parts : FunOK "_law_parts" (fdOf 30).params (fdOf 30).body (fdOf 30).scope ["clauses", "i"] where
  bind := fun pm cd doc vs hl => len2 hl fun a0 a1 => rfl
  loc := by decide +kernel
  nod := by decide +kernel
  nofree := by decide +kernel
  co := by kernel_rfl
  gen := by kernel_rfl
  kd := by kernel_rfl
theorem call_law_parts (Γ : Gd prog w base mg mb tab) {k : Nat} {Vs : List V} {σ : Store} {Q : KV} (hl : Vs.length = 2) (q : vcS (CallOK prog w base mg k) tab ir_law_parts (Vs.map some ++ List.replicate 0 none) σ (RetQ σ Q)) : CallOK prog w base mg (k + 1) "_law_parts" Vs σ Q :=
  CallOK.of_body (c := cx_law_parts prog w base mg mb tab k) (ps := ["clauses", "i"]) (os := []) (Γ.x _ _ _).gb (Γ.def_at 30 (by decide) (by kernel_rfl)) f_law_parts rfl rfl (d_law_parts (Γ.x _ _ _)) hl q
theorem f_law_threaded : FunOK "_law_threaded" (fdOf 31).params (fdOf 31).body (fdOf 31).scope ["code", "clauses"] where
  bind := fun pm cd doc vs hl => len2 hl fun a0 a1 => rfl
  loc := by decide +kernel
  nod := by decide +kernel
  nofree := by decide +kernel
  co := by kernel_rfl
  gen := by kernel_rfl
  kd := by kernel_rfl
theorem call_law_threaded (Γ : Gd prog w base mg mb tab) {k : Nat} {Vs : List V} {σ : Store} {Q : KV} (hl : Vs.length = 2) (q : vcS (CallOK prog w base mg k) tab ir_law_threaded (Vs.map some ++ List.replicate 4 none) σ (RetQ σ Q)) : CallOK prog w base mg (k + 1) "_law_threaded" Vs σ Q :=
  CallOK.of_body (c := cx_law_threaded prog w base mg mb tab k) (ps := ["code", "clauses"]) (os := ["i", "goal", "at", "steps"]) (Γ.x _ _ _).gb (Γ.def_at 31 (by decide) (by kernel_rfl)) f_law_threaded rfl rfl (d_law_threaded (Γ.x _ _ _)) hl q
theorem f_law_edges : FunOK "_law_edges" (fdOf 32).params (fdOf 32).body (fdOf 32).scope ["c"] where
  bind := fun pm cd doc vs hl => len1 hl fun a0 => rfl
  loc := by decide +kernel
  nod := by decide +kernel
  nofree := by decide +kernel
  co := by kernel_rfl
  gen := by kernel_rfl
  kd := by kernel_rfl
theorem call_law_edges (Γ : Gd prog w base mg mb tab) {k : Nat} {Vs : List V} {σ : Store} {Q : KV} (hl : Vs.length = 1) (q : vcS (CallOK prog w base mg k) tab ir_law_edges (Vs.map some ++ List.replicate 0 none) σ (RetQ σ Q)) : CallOK prog w base mg (k + 1) "_law_edges" Vs σ Q :=
  CallOK.of_body (c := cx_law_edges prog w base mg mb tab k) (ps := ["c"]) (os := []) (Γ.x _ _ _).gb (Γ.def_at 32 (by decide) (by kernel_rfl)) f_law_edges rfl rfl (d_law_edges (Γ.x _ _ _)) hl q
theorem f_law_came : FunOK "_law_came" (fdOf 33).params (fdOf 33).body (fdOf 33).scope ["code", "clauses"] where
  bind := fun pm cd doc vs hl => len2 hl fun a0 a1 => rfl
  loc := by decide +kernel
  nod := by decide +kernel
  nofree := by decide +kernel
  co := by kernel_rfl
  gen := by kernel_rfl
  kd := by kernel_rfl
theorem call_law_came (Γ : Gd prog w base mg mb tab) {k : Nat} {Vs : List V} {σ : Store} {Q : KV} (hl : Vs.length = 2) (q : vcS (CallOK prog w base mg k) tab ir_law_came (Vs.map some ++ List.replicate 6 none) σ (RetQ σ Q)) : CallOK prog w base mg (k + 1) "_law_came" Vs σ Q :=
  CallOK.of_body (c := cx_law_came prog w base mg mb tab k) (ps := ["code", "clauses"]) (os := ["came", "turn", "i", "goals", "c", "goal"]) (Γ.x _ _ _).gb (Γ.def_at 33 (by decide) (by kernel_rfl)) f_law_came rfl rfl (d_law_came (Γ.x _ _ _)) hl q
theorem f_law_left : FunOK "_law_left" (fdOf 34).params (fdOf 34).body (fdOf 34).scope ["first", "edges", "dropped"] where
  bind := fun pm cd doc vs hl => len3 hl fun a0 a1 a2 => rfl
  loc := by decide +kernel
  nod := by decide +kernel
  nofree := by decide +kernel
  co := by kernel_rfl
  gen := by kernel_rfl
  kd := by kernel_rfl
theorem call_law_left (Γ : Gd prog w base mg mb tab) {k : Nat} {Vs : List V} {σ : Store} {Q : KV} (hl : Vs.length = 3) (q : vcS (CallOK prog w base mg k) tab ir_law_left (Vs.map some ++ List.replicate 10 none) σ (RetQ σ Q)) : CallOK prog w base mg (k + 1) "_law_left" Vs σ Q :=
  CallOK.of_body (c := cx_law_left prog w base mg mb tab k) (ps := ["first", "edges", "dropped"]) (os := ["came", "lives", "closing", "stay", "places", "want", "c", "rest", "kept", "given"]) (Γ.x _ _ _).gb (Γ.def_at 34 (by decide) (by kernel_rfl)) f_law_left rfl rfl (d_law_left (Γ.x _ _ _)) hl q
theorem f_law : FunOK "law" (fdOf 35).params (fdOf 35).body (fdOf 35).scope ["script"] where
  bind := fun pm cd doc vs hl => len1 hl fun a0 => rfl
  loc := by decide +kernel
  nod := by decide +kernel
  nofree := by decide +kernel
  co := by kernel_rfl
  gen := by kernel_rfl
  kd := by kernel_rfl
theorem call_law (Γ : Gd prog w base mg mb tab) {k : Nat} {Vs : List V} {σ : Store} {Q : KV} (hl : Vs.length = 1) (q : vcS (CallOK prog w base mg k) tab ir_law (Vs.map some ++ List.replicate 10 none) σ (RetQ σ Q)) : CallOK prog w base mg (k + 1) "law" Vs σ Q :=
  CallOK.of_body (c := cx_law prog w base mg mb tab k) (ps := ["script"]) (os := ["numbers", "size", "code", "clauses", "seed", "tape", "before", "first", "edges", "dropped"]) (Γ.x _ _ _).gb (Γ.def_at 35 (by decide) (by kernel_rfl)) f_law rfl rfl (d_law (Γ.x _ _ _)) hl q
end
end Mine
end
namespace Mine
section
theorem getS_app0 (σ l : Store) : getS (σ ++ l) σ.length = getS l 0 := by unfold getS; rw [List.getElem?_append_right (Nat.le_refl _), Nat.sub_self]
theorem getS_app (σ l : Store) (i : Nat) : getS (σ ++ l) (σ.length + i) = getS l i := by unfold getS; rw [List.getElem?_append_right (Nat.le_add_right _ _), Nat.add_sub_cancel_left]
theorem set_app0 (σ l : Store) (v : Option (List PyData)) : (σ ++ l).set σ.length v = σ ++ l.set 0 v := by rw [List.set_append_right _ _ (Nat.le_refl _), Nat.sub_self]
theorem set_app (σ l : Store) (i : Nat) (v : Option (List PyData)) : (σ ++ l).set (σ.length + i) v = σ ++ l.set i v := by rw [List.set_append_right _ _ (Nat.le_add_right _ _), Nat.add_sub_cancel_left]
theorem rdV_l (σ : Store) (n : Nat) : rdV σ (.l n) = (getS σ n).map PyData.list := by
  simp only [rdV, getS]
  rcases hq : σ[n]? with _ | _ | xs <;> rfl
theorem rdV_d (σ : Store) (x : PyData) : rdV σ (.d x) = some x := rfl
theorem rdD_d (x : PyData) : rdD (.d x) = some x := rfl
theorem getS_c0 (x : Option (List PyData)) (l : Store) : getS (x :: l) 0 = x := rfl
theorem getS_cs (x : Option (List PyData)) (l : Store) (n : Nat) : getS (x :: l) (n + 1) = getS l n := rfl
theorem getR_c0 (x : Option V) (l : Rho) : getR (x :: l) 0 = x := rfl
theorem getR_cs (x : Option V) (l : Rho) (n : Nat) : getR (x :: l) (n + 1) = getR l n := rfl
theorem setR_c0 (x : Option V) (l : Rho) (v : V) : setR (x :: l) 0 v = some v :: l := rfl
theorem setR_cs (x : Option V) (l : Rho) (n : Nat) (v : V) : setR (x :: l) (n + 1) v = x :: setR l n v := rfl
theorem take_app (σ l : Store) : (σ ++ l).take σ.length = σ := by simp
theorem take_set_app (σ l : Store) (n : Nat) (v : Option (List PyData)) : ((σ.set n v) ++ l).take σ.length = σ.set n v := by
  have : (σ.set n v).length = σ.length := List.length_set
  rw [← this, List.take_left']; rfl
theorem take_set (σ : Store) (n : Nat) (v : Option (List PyData)) : (σ.set n v).take σ.length = σ.set n v := by
  have : (σ.set n v).length = σ.length := List.length_set
  rw [← this, List.take_length]

section
variable {C : Str → List V → Store → KV → Prop} {tab : Int → Option Int}
/-- one straight statement, then the rest -/
theorem seq_step {a b : IS} {ρ ρ' : Rho} {σ σ' : Store} {Q : KS} (ha : ∀ K : KS, K .next ρ' σ' → vcS C tab a ρ σ K) (hb : vcS C tab b ρ' σ' Q) : vcS C tab (.seq a b) ρ σ Q := ha _ hb
theorem seq_cut {a b : IS} {ρ : Rho} {σ : Store} {Q : KS} (P : KS) (hC : MonoC C) (ha : vcS C tab a ρ σ P) (hb : ∀ fl ρ' σ', P fl ρ' σ' → flK fl (vcS C tab b ρ' σ' Q) fun v => Q (.ret v) ρ' σ') : vcS C tab (.seq a b) ρ σ Q := vcS_mono hC a _ _ _ _ ha hb
theorem seq_assoc {a b d : IS} {ρ : Rho} {σ : Store} {Q : KS} (h : vcS C tab (.seq a (.seq b d)) ρ σ Q) (hC : MonoC C) : vcS C tab (.seq (.seq a b) d) ρ σ Q :=
  vcS_mono hC a ρ σ _ _ h fun fl ρ1 σ1 q => by
    cases fl with
    | next => exact q
    | ret v => exact q
theorem seq_ite {c : IE} {a b d : IS} {ρ : Rho} {σ σ' : Store} {Q : KS} (t : Bool) (hc : ∀ K : KB, K t σ' → (vcX C tab c).T ρ σ K) (h1 : t = true → vcS C tab (.seq a d) ρ σ' Q) (h2 : t = false → vcS C tab (.seq b d) ρ σ' Q) : vcS C tab (.seq (.ite c a b) d) ρ σ Q :=
  hc _ (by cases t <;> simp only [Bool.false_eq_true, if_false, if_true]; exact h2 rfl; exact h1 rfl)
theorem ite_i {c : IE} {a b : IS} {ρ : Rho} {σ σ' : Store} {Q : KS} (t : Bool) (hc : ∀ K : KB, K t σ' → (vcX C tab c).T ρ σ K) (h1 : t = true → vcS C tab a ρ σ' Q) (h2 : t = false → vcS C tab b ρ σ' Q) : vcS C tab (.ite c a b) ρ σ Q :=
  hc _ (by cases t <;> simp only [Bool.false_eq_true, if_false, if_true]; exact h2 rfl; exact h1 rfl)
theorem seq_skip {b : IS} {ρ : Rho} {σ : Store} {Q : KS} (h : vcS C tab b ρ σ Q) : vcS C tab (.seq .skip b) ρ σ Q := h
theorem skip_i {ρ : Rho} {σ : Store} {Q : KS} (h : Q .next ρ σ) : vcS C tab .skip ρ σ Q := h
theorem seq_ret {e : IE} {b : IS} {ρ : Rho} {σ : Store} {Q : KS} (h : vcS C tab (.ret e) ρ σ Q) (hC : MonoC C) : vcS C tab (.seq (.ret e) b) ρ σ Q := (vcX_mono hC e).E ρ σ _ _ h fun v σ1 q => q
theorem ret_i {e : IE} {ρ : Rho} {σ σ' : Store} {v : V} {Q : KS} (he : ∀ K : KV, K v σ' → (vcX C tab e).E ρ σ K) (h : Q (.ret v) ρ σ') : vcS C tab (.ret e) ρ σ Q := he _ h
theorem loop_i {x : Nat} {src : IE} {body : IS} {ρ : Rho} {σ σ' : Store} {xs : List PyData} {Q : KS} (hs : ∀ K : KD, K xs σ' → (vcX C tab src).I ρ σ K) (h : forV (fun v ρ σ K => vcS C tab body (setR ρ x (.d v)) σ K) xs ρ σ' Q) : vcS C tab (.loop x src body) ρ σ Q := hs _ h

theorem forV_ind {α : Type} {enc : α → PyData} {x : Nat} {body : IS} {Q : KS} (hC : MonoC C) (I : List α → Rho → Store → Prop)
    (step : ∀ a l ρ σ, I (a :: l) ρ σ → vcS C tab body (setR ρ x (.d (enc a))) σ fun fl ρ' σ' => flK fl (I l ρ' σ') fun v => Q (.ret v) ρ' σ')
    (fin : ∀ ρ σ, I [] ρ σ → Q .next ρ σ) : ∀ l ρ σ, I l ρ σ → forV (fun v ρ σ K => vcS C tab body (setR ρ x (.d v)) σ K) (l.map enc) ρ σ Q
  | [], ρ, σ, h => fin ρ σ h
  | a :: l, ρ, σ, h => vcS_mono hC body _ _ _ _ (step a l ρ σ h) fun fl ρ1 σ1 q => flK_mono q (fun q => forV_ind hC I step fin l ρ1 σ1 q) fun v q => q
theorem whileV_le {t : Rho → Store → KB → Prop} {f : Rho → Store → KS → Prop} (ht : ∀ ρ σ (Q Q' : KB), t ρ σ Q → (∀ v σ', Q v σ' → Q' v σ') → t ρ σ Q')
    (hf : ∀ ρ σ (Q Q' : KS), f ρ σ Q → (∀ fl ρ' σ', Q fl ρ' σ' → Q' fl ρ' σ') → f ρ σ Q') : ∀ n n' ρ σ Q, n ≤ n' → whileV t f n ρ σ Q → whileV t f n' ρ σ Q
  | 0, _, _, _, _, _, q => q.elim
  | n + 1, 0, _, _, _, h, _ => by omega
  | n + 1, n' + 1, ρ, σ, Q, h, q => ht _ _ _ _ q fun b σ1 q => ite_mono q (fun q => hf _ _ _ _ q fun _ _ _ q => flK_mono q (fun q => whileV_le ht hf n n' _ _ _ (by omega) q) fun _ q => q) fun q => q
theorem while_i {c : IE} {body : IS} {Q : KS} (hC : MonoC C) (I : Nat → Rho → Store → Prop)
    (step : ∀ m ρ σ, I m ρ σ → (vcX C tab c).T ρ σ fun b σ1 => if b then vcS C tab body ρ σ1 (fun fl ρ' σ' => flK fl (∃ m', m' < m ∧ I m' ρ' σ') fun v => Q (.ret v) ρ' σ') else Q .next ρ σ1)
    (m : Nat) (ρ : Rho) (σ : Store) (h : I m ρ σ) : vcS C tab (.wloop c body) ρ σ Q := by
  have ht := (vcX_mono (tab := tab) hC c).T
  have hf := fun ρ σ (Q Q' : KS) q k => vcS_mono (tab := tab) hC body ρ σ Q Q' q k
  have key : ∀ m ρ σ, I m ρ σ → whileV (vcX C tab c).T (fun ρ σ K => vcS C tab body ρ σ K) (m + 1) ρ σ Q := by
    intro m
    induction m using Nat.strongRecOn with
    | ind m ih =>
      intro ρ σ h
      refine ht _ _ _ _ (step m ρ σ h) fun b σ1 q => ite_mono q (fun q => hf _ _ _ _ q fun fl ρ1 σ1 q => flK_mono q (fun ⟨m', hm, h'⟩ => ?_) fun _ q => q) fun q => q
      exact whileV_le ht hf (m' + 1) m ρ1 σ1 Q (by omega) (ih m' hm ρ1 σ1 h')
  exact ⟨m + 1, key m ρ σ h⟩
end

/-! numbers -/
theorem lim_of {n : Nat} (h : n ≤ 10000) : n ≤ lim := Nat.le_trans h (by rw [lim_eq]; decide)
theorem lim_lt_of {n : Nat} (h : n ≤ 10000) : n < lim := Nat.lt_of_le_of_lt h (by rw [lim_eq]; decide)
theorem big_ok {n : Nat} (h : n ≤ 10000) : -big < (n : Int) ∧ (n : Int) < big := by rw [big_eq]; omega
theorem lim4_ok {n : Nat} (h : n ≤ 10000) : n ≤ 2 * lim + 2 * lim := by have := lim_of h; omega
theorem rng_ok {n : Nat} {P : Prop} (h : n ≤ 10000) (k : P) : -big < (n : Int) ∧ (n : Int) < big ∧ n ≤ 2 * lim + 2 * lim ∧ P := ⟨(big_ok h).1, (big_ok h).2, lim4_ok h, k⟩
theorem rng_ok2 {a b n : Nat} {P : Prop} (ha : a ≤ 10000) (hb : b ≤ 10000) (h : n ≤ 10000) (k : P) : -big < (a : Int) ∧ (a : Int) < big ∧ -big < (b : Int) ∧ (b : Int) < big ∧ n ≤ 2 * lim + 2 * lim ∧ P := ⟨(big_ok ha).1, (big_ok ha).2, (big_ok hb).1, (big_ok hb).2, lim4_ok h, k⟩
theorem le_trans4 {n m : Nat} (h : n ≤ m) (k : m ≤ 10000) : n ≤ 10000 := Nat.le_trans h k
theorem le_lim0 : (0 ≤ lim) = True := eq_true (lim_of (by decide))
theorem le_lim1 : (1 ≤ lim) = True := eq_true (lim_of (by decide))
theorem le_lim2 : (2 ≤ lim) = True := eq_true (lim_of (by decide))
theorem le_lim3 : (3 ≤ lim) = True := eq_true (lim_of (by decide))
theorem le_lim4 : (4 ≤ lim) = True := eq_true (lim_of (by decide))
theorem le_lim5 : (5 ≤ lim) = True := eq_true (lim_of (by decide))
theorem le_lim6 : (6 ≤ lim) = True := eq_true (lim_of (by decide))
theorem lt_lim0 : (0 < lim) = True := eq_true (lim_lt_of (by decide))
theorem int_cast (n : Nat) : PyData.int (n : Int) = eN n := rfl
theorem int_cast1 (n : Nat) : PyData.int ((n : Int) + 1) = eN (n + 1) := rfl
theorem dec_some {p q : Prop} [Decidable p] [Decidable q] (h : p ↔ q) : some (decide p) = some (decide q) := congrArg some (decide_eq_decide.mpr h)
theorem eq_nn (a b : Nat) : cmpP .eq (eN a) (eN b) = some (decide (a = b)) := dec_some (p := (a : Int) = (b : Int)) Int.ofNat_inj
theorem ne_nn (a b : Nat) : cmpP .ne (eN a) (eN b) = some (!decide (a = b)) := congrArg notP (eq_nn a b)
theorem lt_nn (a b : Nat) : cmpP .lt (eN a) (eN b) = some (decide (a < b)) := dec_some (p := (a : Int) < (b : Int)) Int.ofNat_lt
theorem le_nn (a b : Nat) : cmpP .le (eN a) (eN b) = some (decide (a ≤ b)) := dec_some (p := (a : Int) ≤ (b : Int)) Int.ofNat_le
theorem gt_nn (a b : Nat) : cmpP .gt (eN a) (eN b) = some (decide (b < a)) := lt_nn b a
theorem ge_nn (a b : Nat) : cmpP .ge (eN a) (eN b) = some (decide (b ≤ a)) := le_nn b a
theorem lt_n0 (a : Nat) : cmpP .lt (eN a) (.int 0) = some false := congrArg some (decide_eq_false (p := (a : Int) < 0) (by omega))
theorem gt_n0 (a : Nat) : cmpP .gt (eN a) (.int 0) = some (decide (0 < a)) := lt_nn 0 a
theorem eq_ii (a b : Int) : cmpP .eq (.int a) (.int b) = some (decide (a = b)) := rfl
theorem ne_ii (a b : Int) : cmpP .ne (.int a) (.int b) = some (!decide (a = b)) := rfl
theorem lt_ii (a b : Int) : cmpP .lt (.int a) (.int b) = some (decide (a < b)) := rfl
theorem le_ii (a b : Int) : cmpP .le (.int a) (.int b) = some (decide (a ≤ b)) := rfl
theorem gt_ii (a b : Int) : cmpP .gt (.int a) (.int b) = some (decide (b < a)) := rfl
theorem ge_ii (a b : Int) : cmpP .ge (.int a) (.int b) = some (decide (b ≤ a)) := rfl
theorem add_n1 (a : Nat) : binP .add (eN a) (.int 1) = some (eN (a + 1)) := rfl
theorem sub_n1 (a : Nat) (h : 0 < a) : binP .sub (eN a) (.int 1) = some (eN (a - 1)) := congrArg (fun i => some (PyData.int i)) (show (a : Int) - 1 = ((a - 1 : Nat) : Int) by omega)
theorem add_ii (a b : Int) : binP .add (.int a) (.int b) = some (.int (a + b)) := rfl
theorem sub_ii (a b : Int) : binP .sub (.int a) (.int b) = some (.int (a - b)) := rfl
theorem int_n (a : Nat) : intP (eN a) = some (a : Int) := rfl
theorem int_i (a : Int) : intP (.int a) = some a := rfl
theorem idx_tup (xs : List PyData) (k : Int) : idxP (.tuple xs) (.int k) = if 0 ≤ k then xs[k.toNat]? else none := rfl
theorem idx_tupN (xs : List PyData) (k : Nat) : idxP (.tuple xs) (eN k) = xs[k]? := by
  show (if 0 ≤ (k : Int) then xs[(k : Int).toNat]? else none) = _
  rw [if_pos (by omega)]; rfl
theorem idx_lstN (xs : List PyData) (k : Nat) : idxP (.list xs) (eN k) = xs[k]? := by
  show (if 0 ≤ (k : Int) then xs[(k : Int).toNat]? else none) = _
  rw [if_pos (by omega)]; rfl
theorem idx_lst (xs : List PyData) (k : Int) : idxP (.list xs) (.int k) = if 0 ≤ k then xs[k.toNat]? else none := rfl
theorem seqP_l (xs : List PyData) : seqP (.list xs) = some xs := rfl
theorem seqP_t (xs : List PyData) : seqP (.tuple xs) = some xs := rfl
theorem listP_l (xs : List PyData) : listP (.list xs) = some xs := rfl
theorem tupP_t (xs : List PyData) : tupP (.tuple xs) = some xs := rfl
theorem seqP_rows (l : List Row) : seqP (eRows l) = some (l.map eRow) := rfl
theorem seqP_cls (l : List Cl) : seqP (eCls l) = some (l.map eCl) := rfl
theorem idx_rows (l : List Row) (k : Nat) : idxP (eRows l) (eN k) = (l[k]?).map eRow := by rw [eRows, idx_lstN, List.getElem?_map]
theorem idx_cls (l : List Cl) (k : Nat) : idxP (eCls l) (eN k) = (l[k]?).map eCl := by rw [eCls, idx_lstN, List.getElem?_map]
theorem idx_row0 (r : Row) : idxP (eRow r) (.int 0) = some (.int r.op) := rfl
theorem idx_row1 (r : Row) : idxP (eRow r) (.int 1) = some (eArg r.arg) := rfl
theorem idx_c0 (c : Cl) : idxP (eCl c) (.int 0) = some (.int c.sort) := rfl
theorem idx_c1 (c : Cl) : idxP (eCl c) (.int 1) = some (eN c.t0) := rfl
theorem idx_c2 (c : Cl) : idxP (eCl c) (.int 2) = some (eN c.t1) := rfl
theorem idx_c3 (c : Cl) : idxP (eCl c) (.int 3) = some (eN c.h0) := rfl
theorem idx_c4 (c : Cl) : idxP (eCl c) (.int 4) = some (eN c.h1) := rfl
theorem idx_c5 (c : Cl) : idxP (eCl c) (.int 5) = some (eN c.ex) := rfl
theorem truth_b (b : Bool) : truthP (.bool b) = b := rfl
theorem truth_l (xs : List PyData) : truthP (.list xs) = !xs.isEmpty := rfl
theorem truth_i (i : Int) : truthP (.int i) = (i != 0) := rfl
theorem rangeP0 (n : Nat) : rangeP 0 (n : Int) = (List.range n).map eN := by
  unfold rangeP
  rw [show ((n : Int) - 0).toNat = n by omega]
  apply List.map_congr_left; intro i _; simp [eN]
theorem rangePN (a b : Nat) : rangeP (a : Int) (b : Int) = (List.range' a (b - a)).map eN := by
  unfold rangeP
  rw [show ((b : Int) - a).toNat = b - a by omega, List.range'_eq_map_range, List.map_map]
  apply List.map_congr_left; intro i _; simp [eN]
theorem rangeP_len (a b : Int) : (rangeP a b).length = (b - a).toNat := by simp [rangeP]

noncomputable def compG (C : Str → List V → Store → KV → Prop) (tab : Int → Option Int) (cond e : IE) (ρ : Rho) (xs acc : List PyData) (σ : Store) (Q : KV) : Prop := compV (vcX C tab cond).T (vcX C tab e).E ρ xs acc σ Q
theorem vcx_comp {C : Str → List V → Store → KV → Prop} {tab : Int → Option Int} (e src cond : IE) (ρ : Rho) (σ : Store) (Q : KV) : (vcX C tab (.comp e src cond)).E ρ σ Q = (vcX C tab src).I ρ σ fun xs σ1 => xs.length ≤ lim ∧ compG C tab cond e ρ xs [] σ1 Q := rfl
theorem vcx_compT {C : Str → List V → Store → KV → Prop} {tab : Int → Option Int} (e src cond : IE) (ρ : Rho) (σ : Store) (Q : KB) : (vcX C tab (.comp e src cond)).T ρ σ Q = (vcX C tab src).I ρ σ fun xs σ1 => xs.length ≤ lim ∧ compG C tab cond e ρ xs [] σ1 fun v σ1 => ob (rdV σ1 v) fun X => Q (truthP X) σ1 := rfl
theorem vcx_compI {C : Str → List V → Store → KV → Prop} {tab : Int → Option Int} (e src cond : IE) (ρ : Rho) (σ : Store) (Q : KD) : (vcX C tab (.comp e src cond)).I ρ σ Q = (vcX C tab src).I ρ σ fun xs σ1 => xs.length ≤ lim ∧ compG C tab cond e ρ xs [] σ1 fun v σ1 => ob (rdD v) fun X => ob (seqP X) fun xs => Q xs σ1 := rfl
theorem flK_n {P : Prop} {Q : V → Prop} (h : P) : flK .next P Q := h
theorem flK_r {P : Prop} {Q : V → Prop} {v : V} (h : Q v) : flK (.ret v) P Q := h
theorem map_c {α β : Type} (f : α → β) (a : α) (l : List α) : (a :: l).map f = f a :: l.map f := rfl
theorem map_n {α β : Type} (f : α → β) : ([] : List α).map f = [] := rfl
theorem app_c {α : Type} (a : α) (l r : List α) : (a :: l) ++ r = a :: (l ++ r) := rfl
theorem app_n {α : Type} (r : List α) : [] ++ r = r := rfl
theorem set_z {α : Type} (a x : α) (l : List α) : (a :: l).set 0 x = x :: l := rfl
theorem set_s {α : Type} (a x : α) (l : List α) (n : Nat) : (a :: l).set (n + 1) x = a :: l.set n x := rfl
theorem len_c {α : Type} (a : α) (l : List α) : (a :: l).length = l.length + 1 := rfl
theorem len_n {α : Type} : ([] : List α).length = 0 := rfl
theorem get_z {α : Type} (a : α) (l : List α) : (a :: l)[0]? = some a := rfl
theorem get_s {α : Type} (a : α) (l : List α) (n : Nat) : (a :: l)[n + 1]? = l[n]? := rfl
theorem omap_s {α β : Type} (f : α → β) (a : α) : (some a).map f = some (f a) := rfl
theorem omap_n {α β : Type} (f : α → β) : (none : Option α).map f = none := rfl
theorem rep_z {α : Type} (a : α) : List.replicate 0 a = [] := rfl
theorem rep_s {α : Type} (a : α) (n : Nat) : List.replicate (n + 1) a = a :: List.replicate n a := rfl
theorem nadd_z (n : Nat) : n + 0 = n := rfl
theorem ob_cong {α : Type} {o o' : Option α} {f : α → Prop} (h : o = o') (k : ob o' f) : ob o f := by rw [h]; exact k
theorem lim_and {n : Nat} {P : Prop} (h : n ≤ lim) (k : P) : n ≤ lim ∧ P := ⟨h, k⟩
theorem limt_and {n : Nat} {P : Prop} (h : n < lim) (k : P) : n < lim ∧ P := ⟨h, k⟩
theorem ite_tt {P Q : Prop} : (if true = true then P else Q) = P := rfl
theorem ite_ff {P Q : Prop} : (if false = true then P else Q) = Q := rfl
theorem ite_T {P Q : Prop} : (if True then P else Q) = P := rfl
theorem mapM_0 : List.mapM rdD [] = some [] := rfl
theorem mapM_1 (a : PyData) : List.mapM rdD [.d a] = some [a] := rfl
theorem mapM_2 (a b : PyData) : List.mapM rdD [.d a, .d b] = some [a, b] := rfl
theorem mapM_3 (a b c : PyData) : List.mapM rdD [.d a, .d b, .d c] = some [a, b, c] := rfl
theorem mapM_4 (a b c d : PyData) : List.mapM rdD [.d a, .d b, .d c, .d d] = some [a, b, c, d] := rfl
theorem mapM_5 (a b c d e : PyData) : List.mapM rdD [.d a, .d b, .d c, .d d, .d e] = some [a, b, c, d, e] := rfl
theorem mapM_6 (a b c d e f : PyData) : List.mapM rdD [.d a, .d b, .d c, .d d, .d e, .d f] = some [a, b, c, d, e, f] := rfl
theorem idx_t0 (xs : List PyData) : idxP (.tuple xs) (.int 0) = xs[0]? := rfl
theorem idx_t1 (xs : List PyData) : idxP (.tuple xs) (.int 1) = xs[1]? := rfl
theorem idx_t2 (xs : List PyData) : idxP (.tuple xs) (.int 2) = xs[2]? := rfl
theorem idx_t3 (xs : List PyData) : idxP (.tuple xs) (.int 3) = xs[3]? := rfl
theorem idx_t4 (xs : List PyData) : idxP (.tuple xs) (.int 4) = xs[4]? := rfl
theorem idx_t5 (xs : List PyData) : idxP (.tuple xs) (.int 5) = xs[5]? := rfl
theorem idx_l0 (xs : List PyData) : idxP (.list xs) (.int 0) = xs[0]? := rfl
theorem idx_l1 (xs : List PyData) : idxP (.list xs) (.int 1) = xs[1]? := rfl
end
set_option hygiene false
local macro_rules | `(tactic| walk_at "vcf") => `(tactic| simp -implicitDefEqProofs only [rdV_l, getS_app0, getS_app, set_app0, set_app, List.append_assoc, List.length_append, List.length_map, List.length_range, List.length_range', idx_rows, idx_cls, idx_tupN, idx_lstN, eq_nn, ne_nn, lt_nn, le_nn, gt_nn, ge_nn, lt_n0, gt_n0, rangeP0, rangePN, Bool.false_eq_true, if_true, if_false, Nat.zero_add, Int.reduceLE, Int.reduceNeg, le_lim0, le_lim1, le_lim2, le_lim3, le_lim4, le_lim5, le_lim6, lt_lim0, Nat.reduceLeDiff, true_and, and_true])
local macro_rules | `(tactic| walk_at "vcg") => `(tactic| ((first | walk_at "vcf" | walk_at "vcd"); (repeat (first | walk_at "vcf" | walk_at "vcd"))))
local macro_rules | `(tactic| walk_at "vcd") => `(tactic| dsimp only [↓vcx_comp, ↓vcx_compT, ↓vcx_compI, vcX, ofE, ob_some, rdV_d, rdD_d, omap_s, omap_n, getR_c0, getR_cs, setR_c0, setR_cs, getS_c0, getS_cs, set_z, set_s, app_c, app_n, len_c, len_n, loc?, seqP_l, seqP_t, seqP_rows, seqP_cls, listP_l, tupP_t, idx_row0, idx_row1, idx_c0, idx_c1, idx_c2, idx_c3, idx_c4, idx_c5, idx_t0, idx_t1, idx_t2, idx_t3, idx_t4, idx_t5, idx_l0, idx_l1, idx_tup, idx_lst, truth_b, truth_l, truth_i, eq_ii, ne_ii, lt_ii, le_ii, gt_ii, ge_ii, add_n1, add_ii, sub_ii, int_n, int_i, int_cast, int_cast1, setRs, mapM_0, mapM_1, mapM_2, mapM_3, mapM_4, mapM_5, mapM_6, map_c, map_n, rep_z, rep_s, ite_tt, ite_ff, ite_T, nadd_z, get_z, get_s, Nat.reduceAdd, Int.reduceToNat])
local macro_rules | `(tactic| walk_at "vco") => `(tactic| first
  | ((focus (with_reducible show flK .next _ _)); refine flK_n ?_)
  | ((focus (with_reducible show flK (.ret _) _ _)); refine flK_r ?_)
  | ((focus (with_reducible show ob _ _)); refine ob_cong (by walk_at "vcf"; (repeat walk_at "vcf"); exact rfl) ?_)
  | (with_reducible refine lim_and (lim_of (by decide)) ?_)
  | (with_reducible refine limt_and (lim_lt_of (by decide)) ?_))
local macro_rules | `(tactic| walk_at "vce") => `(tactic| first
  | (focus (with_reducible show ob _ _))
  | (focus (with_reducible show vcS _ _ _ _ _ _))
  | (focus (with_reducible show CallOK _ _ _ _ _ _ _ _))
  | walk_at "vcg")
local macro_rules | `(tactic| walk_at "vc") => `(tactic| first
  | ((first | walk_at "vco" | walk_at "vcd"); (repeat (first | walk_at "vcd" | walk_at "vco")); (try walk_at "vce"))
  | walk_at "vcg")
local macro_rules | `(tactic| walk_at "st") => `(tactic| (dsimp only [vcS]; walk_at "vc"))
local macro_rules | `(tactic| walk_at "stf") => `(tactic| (dsimp only [vcS]; walk_at "vcg"))
set_option hygiene true
local macro_rules | `(tactic| walk_at "ret") => `(tactic| (refine ret_i (v := ?v) (σ' := ?s) (fun K hK => ?_) ?_; rotate_left 2; (walk_at "vc"; exact hK)))
local macro_rules | `(tactic| walk_at "step") => `(tactic| (refine seq_step (ρ' := ?r) (σ' := ?s) (fun K hK => ?_) ?_; rotate_left 2; (walk_at "st"; exact hK)))
local macro_rules | `(tactic| walk_at "app") => `(tactic| (refine seq_step (ρ' := ?r) (σ' := ?s) (fun K hK => ?_) ?_; rotate_left 2; (walk_at "st"; refine ⟨lim_lt_of (by first | omega | (simp; omega)), ?_⟩; exact hK)))
local macro_rules | `(tactic| walk_at "retf") => `(tactic| (refine ret_i (v := ?v) (σ' := ?s) (fun K hK => ?_) ?_; rotate_left 2; (walk_at "vcg"; exact hK)))
local macro_rules | `(tactic| walk_at "stepf") => `(tactic| (refine seq_step (ρ' := ?r) (σ' := ?s) (fun K hK => ?_) ?_; rotate_left 2; (walk_at "stf"; exact hK)))
local macro_rules | `(tactic| walk_at "appf") => `(tactic| (refine seq_step (ρ' := ?r) (σ' := ?s) (fun K hK => ?_) ?_; rotate_left 2; (walk_at "stf"; refine ⟨lim_lt_of (by first | omega | (simp; omega)), ?_⟩; exact hK)))
section
section
variable {prog : Program} {w : World} {base : Heap} {mg mb : Str → Option Value} {tab : Int → Option Int}

theorem c_ends_flow (Γ : Gd prog w base mg mb tab) {k : Nat} {op : Int} {σ : Store} {Q : KV} (h : Q (.d (.bool (endsFlow op))) σ) : CallOK prog w base mg (k + 1) "ends_flow" [.d (.int op)] σ Q := by
  refine call_ends_flow Γ rfl ?_
  simp only [ir_ends_flow]
  refine seq_ite (σ' := σ) (op == 56 || op == 42 || op == 122 || op == 221) (fun K hK => ?_) (fun ht => ?_) fun ht => ?_
  · walk_at "vc"
    grind
  · refine seq_ret ?_ CallOK.mono
    refine ret_i (v := ?v) (σ' := ?s) (fun K hK => ?_) ?_
    rotate_left 2
    · walk_at "vc"; exact hK
    · simp only [RetQ, List.take_length]
      rw [show endsFlow op = true by unfold endsFlow; grind] at h
      exact h
  · refine seq_skip (ret_i (v := .d (.bool (endsFlow op))) (σ' := σ) (fun K hK => ?_) ?_)
    · walk_at "vc"
      unfold endsFlow at hK
      grind
    · simp only [RetQ, List.take_length]; exact h
theorem c_is_branch (Γ : Gd prog w base mg mb tab) {k : Nat} {op : Int} {σ : Store} {Q : KV} (h : Q (.d (.bool (isBr op))) σ) : CallOK prog w base mg (k + 1) "is_branch" [.d (.int op)] σ Q := by
  refine call_is_branch Γ rfl ?_
  simp only [ir_is_branch]
  walk_at "ret"
  simp only [RetQ, List.take_length, Γ.t]
  exact h

theorem c_targets (Γ : Gd prog w base mg mb tab) {k n : Nat} {r : Row} (hr : RowOK n r) {σ : Store} {Q : KV} (h : Q (.d (.tuple (r.targets.map eN))) σ) : CallOK prog w base mg (k + 1 + 1) "targets" [.d (eRow r)] σ Q := by
  refine call_targets Γ rfl ?_
  simp only [ir_targets]
  refine seq_ite (σ' := σ) (decide (r.op = 69)) (fun K hK => ?_) (fun ht => ?_) fun ht => seq_skip ?_
  · walk_at "vc"; exact hK
  · refine seq_ret ?_ CallOK.mono
    walk_at "ret"
    simp only [RetQ, List.take_length]
    have ht' : r.op = 69 := by simpa using ht
    obtain ⟨gs, e, _⟩ := hr.many ht'
    rw [e]
    simp only [Row.targets, ht', e, if_true, Arg.goals] at h
    exact h
  · have ht' : r.op ≠ 69 := by simpa using ht
    obtain ⟨g, e⟩ := hr.one ht'
    refine seq_ite (σ' := σ) (isBr r.op) (fun K hK => ?_) (fun ht => ?_) fun ht => seq_skip ?_
    · walk_at "vc"
      exact c_is_branch Γ hK
    · refine seq_ret ?_ CallOK.mono
      walk_at "ret"
      simp only [RetQ, List.take_length]
      rw [e]
      simp only [Row.targets, ht', e, ht, if_true, if_false, Arg.goal] at h
      exact h
    · walk_at "ret"
      simp only [RetQ, List.take_length]
      simp only [Row.targets, ht', ht, if_false, Bool.false_eq_true] at h
      exact h
end

end
section
section
variable {prog : Program} {w : World} {base : Heap} {mg mb : Str → Option Value} {tab : Int → Option Int}

theorem RowOK.noPrefix {n : Nat} {r : Row} (h : RowOK n r) : r.op ≠ 65046 ∧ r.op ≠ 65054 := by
  rcases h.ops with h | h | h | h | h | h | h | h | h | h <;> omega
theorem c_prefix_goal (Γ : Gd prog w base mg mb tab) {k : Nat} {op : Int} (h1 : op ≠ 65046) (h2 : op ≠ 65054) {σ : Store} {Q : KV} (h : Q (.d (.int (-1))) σ) : CallOK prog w base mg (k + 1) "prefix_goal" [.d (.int op)] σ Q := by
  refine call_prefix_goal Γ rfl ?_
  simp only [ir_prefix_goal]
  refine seq_ite (σ' := σ) (decide (op = 65046)) (fun K hK => ?_) (fun ht => absurd (by simpa using ht) h1) fun ht => seq_skip ?_
  · walk_at "vc"; exact hK
  refine seq_ite (σ' := σ) (decide (op = 65054)) (fun K hK => ?_) (fun ht => absurd (by simpa using ht) h2) fun ht => seq_skip ?_
  · walk_at "vc"; exact hK
  walk_at "ret"
  simp only [RetQ, List.take_length]
  exact h

theorem c_clause_edges (Γ : Gd prog w base mg mb tab) {k : Nat} {c : Cl} {σ : Store} {Q : KV} (h : Q (.d (.tuple (c.edges.map eN))) σ) : CallOK prog w base mg (k + 1) "clause_edges" [.d (eCl c)] σ Q := by
  refine call_clause_edges Γ rfl ?_
  simp only [ir_clause_edges]
  refine seq_ite (σ' := σ) (decide (c.sort = 1)) (fun K hK => ?_) (fun ht => ?_) fun ht => seq_skip ?_
  · walk_at "vc"; exact hK
  · refine seq_ret ?_ CallOK.mono
    walk_at "ret"
    simp only [RetQ, List.take_length]
    simp only [Cl.edges, of_decide_eq_true ht, if_true, List.map_cons, List.map_nil] at h
    exact h
  · walk_at "ret"
    simp only [RetQ, List.take_length]
    simp only [Cl.edges, of_decide_eq_false ht, if_false, List.map_cons, List.map_nil] at h
    exact h

theorem c_check_edges (Γ : Gd prog w base mg mb tab) {k : Nat} {code : List Row} {cls : List Cl} (hc : CodeOK code) (hl : ClsOK code.length cls) {σ : Store} {Q : KV} (h : Q (.d .none) σ) :
    CallOK prog w base mg (k + 1 + 1) "check_edges" [.d (eRows code), .d (eCls cls)] σ Q := by
  refine call_check_edges Γ rfl ?_
  simp only [ir_check_edges]
  walk_at "step"
  refine loop_i (xs := (List.range cls.length).map eN) (σ' := σ) (fun K hK => ?_) ?_
  · walk_at "vc"
    have := hl.len
    exact rng_ok (by omega) hK
  · refine forV_ind (enc := eN) CallOK.mono (fun l ρ σ' => All3 (σ = σ') ((∀ i ∈ l, i < cls.length)) (Ex3 fun a b d => ρ = [some (.d (eRows code)), some (.d (eCls cls)), some (.d (eN code.length)), a, b, d])) ?_ ?_ _ _ _ ⟨rfl, fun i hi => by simpa using hi, _, _, _, rfl⟩
    · rintro i l ρ _ ⟨rfl, hm, a, b, d, rfl⟩
      obtain ⟨c, ec⟩ : ∃ c, cls[i]? = some c := ⟨_, List.getElem?_eq_getElem (hm i List.mem_cons_self)⟩
      have hc1 := hl.each c (List.mem_of_getElem? ec)
      walk_at "vc"
      refine seq_step (ρ' := ?r) (σ' := ?s) (fun K hK => ?_) ?_
      rotate_left 2
      · walk_at "st"; rw [ec]; walk_at "vc"; exact hK
      refine seq_ite (σ' := σ) false (fun K hK => ?_) (fun ht => by cases ht) fun _ => seq_skip ?_
      · walk_at "vc"
        have h1 := hc1.t0
        have h2 := hc1.t1
        have h3 := hc1.h0
        have h4 := hc1.h1
        have h5 := hc1.ex
        rw [if_neg (by simp; omega), if_neg (by simp; omega)]
        split
        · rename_i hs
          rw [show decide (code.length ≤ c.ex) = false by simp; exact h5 (by simpa using hs)]
          exact hK
        · exact hK
      refine loop_i (xs := (c.edges).map eN) (σ' := σ) (fun K hK => ?_) ?_
      · walk_at "vc"
        exact c_clause_edges Γ (by walk_at "vc"; exact hK)
      · have hle : ∀ e ∈ c.edges, e ≤ code.length := by
          intro e he
          have h1 := hc1.t0
          have h2 := hc1.t1
          have h3 := hc1.h0
          have h4 := hc1.h1
          have h5 := hc1.ex
          unfold Cl.edges at he
          split at he <;> simp at he <;> rcases he with rfl | rfl | rfl | rfl | rfl <;> omega
        refine forV_ind (enc := eN) CallOK.mono (fun l' ρ σ' => All3 (σ = σ') ((∀ e ∈ l', e ≤ code.length)) (Ex1 fun d => ρ = [some (.d (eRows code)), some (.d (eCls cls)), some (.d (eN code.length)), some (.d (eN i)), some (.d (eCl c)), d])) ?_ ?_ _ _ _ ⟨rfl, hle, _, rfl⟩
        · rintro e l' ρ _ ⟨rfl, he, d, rfl⟩
          have hee := he e List.mem_cons_self
          walk_at "vc"
          refine ite_i (σ' := σ) false (fun K hK => ?_) (fun ht => by cases ht) fun _ => ?_
          · walk_at "vc"
            rw [if_neg (by simp; omega)]
            split
            · rename_i hp
              have hp' : 0 < e := by simpa using hp
              obtain ⟨r, er⟩ : ∃ r, code[e - 1]? = some r := ⟨_, List.getElem?_eq_getElem (by omega)⟩
              have hr := hc.rows r (List.mem_of_getElem? er)
              rw [sub_n1 e hp']
              walk_at "vc"
              rw [er]
              walk_at "vc"
              exact c_prefix_goal Γ hr.noPrefix.1 hr.noPrefix.2 (by walk_at "vc"; exact hK)
            · exact hK
          · exact skip_i ⟨rfl, fun e he' => he e (List.mem_cons_of_mem _ he'), _, rfl⟩
        · rintro ρ _ ⟨rfl, _, d, rfl⟩
          exact ⟨rfl, fun j hj => hm j (List.mem_cons_of_mem _ hj), _, _, _, rfl⟩
    · rintro ρ _ ⟨rfl, _, a, b, d, rfl⟩
      simp only [RetQ, List.take_length]
      exact h
end

end
section
/-! equality over typed data -/
noncomputable def Shp (m : Nat) (d : PyData) : Prop := d.canLay0 = true ∧ d.depth ≤ m
theorem Shp.ok {m : Nat} {d : PyData} (h : Shp m d) (hm : m ≤ 64) : SeqAt.shaped d = true := by
  unfold SeqAt.shaped; rw [h.1]; simp; have := h.2; omega
theorem shp_int (i : Int) : Shp 0 (.int i) := ⟨by simp [PyData.canLay0], by simp [PyData.depth]⟩
theorem shp_n (n : Nat) : Shp 0 (eN n) := shp_int _
theorem shp_bool (b : Bool) : Shp 0 (.bool b) := ⟨by simp [PyData.canLay0], by simp [PyData.depth]⟩
theorem Shp.le {m m' : Nat} {d : PyData} (h : Shp m d) (hm : m ≤ m') : Shp m' d := ⟨h.1, Nat.le_trans h.2 hm⟩
theorem shp_all {m : Nat} : ∀ {xs : List PyData}, (∀ x ∈ xs, Shp m x) → PyData.canLayAll0 xs = true ∧ PyData.depthAll xs ≤ m
  | [], _ => ⟨by simp [PyData.canLayAll0], by simp [PyData.depthAll]⟩
  | x :: xs, h => by
    have h1 := h x List.mem_cons_self
    have h2 := shp_all fun y hy => h y (List.mem_cons_of_mem _ hy)
    refine ⟨by simp [PyData.canLayAll0, h1.1, h2.1], ?_⟩
    simp only [PyData.depthAll]
    have := h1.2; have := h2.2; omega
theorem shp_list {m : Nat} {xs : List PyData} (h : ∀ x ∈ xs, Shp m x) : Shp (m + 1) (.list xs) := by
  have := shp_all h; exact ⟨by simpa [PyData.canLay0] using this.1, by simp only [PyData.depth]; omega⟩
theorem shp_tup {m : Nat} {xs : List PyData} (h : ∀ x ∈ xs, Shp m x) : Shp (m + 1) (.tuple xs) := by
  have := shp_all h; exact ⟨by simpa [PyData.canLay0] using this.1, by simp only [PyData.depth]; omega⟩
theorem shp_map {α : Type} {m : Nat} {f : α → PyData} (h : ∀ a, Shp m (f a)) (l : List α) : ∀ x ∈ l.map f, Shp m x := fun x hx => by
  obtain ⟨a, _, rfl⟩ := List.mem_map.mp hx; exact h a
theorem shp_ns (l : List Nat) : Shp 1 (.list (l.map eN)) := shp_list (shp_map shp_n l)
theorem shp_nt (l : List Nat) : Shp 1 (.tuple (l.map eN)) := shp_tup (shp_map shp_n l)
theorem shp_arg (a : Arg) : Shp 1 (eArg a) := by
  cases a with
  | one g => exact (shp_n g).le (by omega)
  | many l => exact shp_nt l
theorem shp_row (r : Row) : Shp 2 (eRow r) := shp_tup fun x hx => by
  simp at hx; rcases hx with rfl | rfl
  · exact (shp_int _).le (by omega)
  · exact shp_arg _
theorem shp_cl (c : Cl) : Shp 1 (eCl c) := shp_tup fun x hx => by
  simp at hx; rcases hx with rfl | rfl | rfl | rfl | rfl | rfl <;> first | exact shp_int _ | exact shp_n _

theorem eqv_n (a b : Nat) : PyData.eqv (eN a) (eN b) = decide (a = b) := by
  unfold eN; simp only [PyData.eqv]; rw [Bool.eq_iff_iff]; simp; omega
theorem eqv_map {α : Type} {f : α → PyData} {eq : α → α → Bool} (h : ∀ a b, PyData.eqv (f a) (f b) = eq a b) (he : ∀ a b, eq a b = true ↔ a = b) : ∀ (l l' : List α), PyData.eqvAll (l.map f) (l'.map f) = true ↔ l = l'
  | [], [] => by simp [PyData.eqvAll]
  | [], _ :: _ => by simp [PyData.eqvAll]
  | _ :: _, [] => by simp [PyData.eqvAll]
  | a :: l, b :: l' => by simp [PyData.eqvAll, h, he, eqv_map h he l l']
theorem eqv_ns (l l' : List Nat) : PyData.eqv (.list (l.map eN)) (.list (l'.map eN)) = decide (l = l') := by
  rw [Bool.eq_iff_iff]; simp only [PyData.eqv, decide_eq_true_eq]
  exact eqv_map eqv_n (by simp) l l'
theorem eqv_nt (l l' : List Nat) : PyData.eqv (.tuple (l.map eN)) (.tuple (l'.map eN)) = decide (l = l') := by
  rw [Bool.eq_iff_iff]; simp only [PyData.eqv, decide_eq_true_eq]
  exact eqv_map eqv_n (by simp) l l'
theorem any_n (l : List Nat) (a : Nat) : ((l.map eN).any fun y => PyData.eqv y (eN a)) = decide (a ∈ l) := by
  induction l with
  | nil => simp
  | cons b l ih => rw [List.map_cons, List.any_cons, ih, eqv_n, Bool.eq_iff_iff]; simp; constructor <;> (rintro (h | h) <;> simp [h])
theorem in_P {x c : PyData} {ys : List PyData} (h : seqP c = some ys) (h1 : SeqAt.shaped x = true) (h2 : SeqAt.shaped c = true) : inP x c = some (ys.any fun y => PyData.eqv y x) := by
  unfold inP; rw [h, h1, h2]; rfl
theorem in_nl (a : Nat) (l : List Nat) : cmpP .inn (eN a) (.list (l.map eN)) = some (decide (a ∈ l)) := (in_P rfl ((shp_n a).ok (by omega)) ((shp_ns l).ok (by omega))).trans (congrArg some (any_n l a))
theorem in_nt (a : Nat) (l : List Nat) : cmpP .inn (eN a) (.tuple (l.map eN)) = some (decide (a ∈ l)) := (in_P rfl ((shp_n a).ok (by omega)) ((shp_nt l).ok (by omega))).trans (congrArg some (any_n l a))
theorem nin_nl (a : Nat) (l : List Nat) : cmpP .nin (eN a) (.list (l.map eN)) = some (!decide (a ∈ l)) := congrArg notP (in_nl a l)

/-! the succeeding rows -/
noncomputable def addNew (out : List Nat) (g : Nat) : List Nat := if g ∈ out then out else out ++ [g]
noncomputable def succs (code : List Row) (i : Nat) (r : Row) : List Nat := r.targets.foldl addNew (if !endsFlow r.op && decide (i + 1 < code.length) then [i + 1] else [])

end
set_option hygiene false
local macro_rules | `(tactic| walk_at "vcf") => `(tactic| simp -implicitDefEqProofs only [in_nl, in_nt, nin_nl])
set_option hygiene true
section
section
variable {prog : Program} {w : World} {base : Heap} {mg mb : Str → Option Value} {tab : Int → Option Int}

theorem c_successors (Γ : Gd prog w base mg mb tab) {k i : Nat} {code : List Row} {r : Row} (hc : CodeOK code) (er : code[i]? = some r) {σ : Store} {Q : KV} (h : Q (.d (.tuple ((succs code i r).map eN))) σ) :
    CallOK prog w base mg (k + 1 + 1 + 1) "successors" [.d (eRows code), .d (eN i)] σ Q := by
  have hr := hc.rows r (List.mem_of_getElem? er)
  have hlen := hc.len
  refine call_successors Γ rfl ?_
  simp only [ir_successors]
  walk_at "step"
  walk_at "step"
  refine seq_ite (σ' := σ ++ [some []]) (!endsFlow r.op && decide (i + 1 < code.length)) (fun K hK => ?_) (fun ht => ?_) fun ht => seq_skip ?_
  · walk_at "vc"; rw [er]; walk_at "vc"
    refine c_ends_flow Γ ?_
    walk_at "vc"
    cases hq : endsFlow r.op <;> simp [hq] at hK ⊢ <;> exact hK
  all_goals
    have key : ∀ out : List Nat, out.length ≤ 1 → (r.targets.foldl addNew out = succs code i r) → vcS (CallOK prog w base mg (k + 1 + 1)) tab
        (.seq (.loop 4 (.call "targets" (.cons (.idx (.var 0) (.var 1)) .nil))
          (.seq (.ite (.or (.cmp (.var 4) .lt (.int 0)) (.cmp (.var 4) .ge (.var 2))) .fail .skip) (.ite (.cmp (.var 4) .nin (.var 3)) (.ex (.app 3 (.var 4))) .skip))) (.ret (.tupOf (.var 3))))
        [some (.d (eRows code)), some (.d (eN i)), some (.d (eN code.length)), some (.l σ.length), none] (σ ++ [some (out.map eN)]) (RetQ σ Q) := by
      intro out hout hs
      have hT : r.targets.length ≤ 3 := by
        unfold Row.targets
        split
        · rename_i h69
          obtain ⟨gs, e, hg⟩ := hr.many h69
          rw [e]; exact hg
        · split <;> simp
      refine seq_cut (fun fl ρ' σ' => All2 (fl = .next) (Ex1 fun d => All2 (ρ' = [some (.d (eRows code)), some (.d (eN i)), some (.d (eN code.length)), some (.l σ.length), d]) (σ' = σ ++ [some ((succs code i r).map eN)]))) CallOK.mono ?_ ?_
      · refine loop_i (xs := r.targets.map eN) (σ' := σ ++ [some (out.map eN)]) (fun K hK => ?_) ?_
        · walk_at "vc"; rw [er]; walk_at "vc"
          exact c_targets Γ hr (by walk_at "vc"; exact hK)
        · refine forV_ind (enc := eN) CallOK.mono (fun l ρ σ' => All2 ((∀ g ∈ l, g < code.length)) (Ex2 fun d o => All4 (ρ = [some (.d (eRows code)), some (.d (eN i)), some (.d (eN code.length)), some (.l σ.length), d]) (σ' = σ ++ [some (List.map eN o)]) (o.length + l.length ≤ 4) (l.foldl addNew o = succs code i r))) ?_ ?_ _ _ _ ⟨hr.tg, _, out, rfl, rfl, by omega, hs⟩
          · rintro g l ρ _ ⟨hg, d, o, rfl, rfl, hl, he⟩
            have hgl := hg g List.mem_cons_self
            walk_at "vc"
            refine seq_ite (σ' := σ ++ [some (o.map eN)]) false (fun K hK => ?_) (fun ht => by cases ht) fun _ => seq_skip ?_
            · walk_at "vc"
              rw [show decide (code.length ≤ g) = false by simp; exact hgl]
              exact hK
            refine ite_i (σ' := σ ++ [some (o.map eN)]) (!decide (g ∈ o)) (fun K hK => ?_) (fun ht => ?_) fun ht => ?_
            · walk_at "vc"; exact hK
            · walk_at "st"
              simp only [List.length_cons] at hl
              refine ⟨lim_lt_of (by omega), fun g' h' => hg g' (List.mem_cons_of_mem _ h'), _, o ++ [g], rfl, by simp, by simp; omega, ?_⟩
              rw [List.foldl_cons] at he
              simpa [addNew, show g ∉ o by simpa using ht] using he
            · refine skip_i ⟨fun g' h' => hg g' (List.mem_cons_of_mem _ h'), _, o, rfl, rfl, by simp only [List.length_cons] at hl; omega, ?_⟩
              rw [List.foldl_cons] at he
              simpa [addNew, show g ∈ o by simpa using ht] using he
          · rintro ρ _ ⟨_, d, o, rfl, rfl, _, he⟩
            exact ⟨rfl, d, rfl, by rw [← he]; rfl⟩
      · rintro fl ρ' σ' ⟨rfl, d, rfl, rfl⟩
        walk_at "vc"
        walk_at "ret"
        simp only [RetQ, take_app]
        exact h
  · refine seq_step (ρ' := ?r) (σ' := ?s) (fun K hK => ?_) ?_
    rotate_left 2
    · walk_at "st"; exact hK
    · exact key [i + 1] (by simp) (by unfold succs; rw [ht]; rfl)
  · exact key [] (by simp) (by unfold succs; rw [ht]; rfl)
end

end
section
theorem setOf_same {σ : Store} {a : Nat} {xs : List PyData} (h : getS σ a = some xs) : σ.set a (some xs) = σ := by
  have e := getS_some h
  apply List.ext_getElem?
  intro i
  rw [List.getElem?_set]
  split
  · rename_i hi; subst hi
    have : a < σ.length := by
      rcases Nat.lt_or_ge a σ.length with q | q
      · exact q
      · rw [List.getElem?_eq_none q] at e; cases e
    rw [if_pos this, e]
  · rfl
theorem getS_set_ne {σ : Store} {a b : Nat} {v : Option (List PyData)} (h : a ≠ b) : getS (σ.set a v) b = getS σ b := by unfold getS; rw [List.getElem?_set_ne h]
theorem getS_set_eq {σ : Store} {a : Nat} {xs ys : List PyData} (h : getS σ a = some xs) : getS (σ.set a (some ys)) a = some ys := by
  have e := getS_some h
  have : a < σ.length := by
    rcases Nat.lt_or_ge a σ.length with q | q
    · exact q
    · rw [List.getElem?_eq_none q] at e; cases e
  unfold getS; rw [List.getElem?_set_self this]

noncomputable def addF (fl : List Bool) (wk : List Nat) (j : Nat) : List Bool × List Nat := if fl[j]? = some true then (fl, wk) else (fl.set j true, wk ++ [j])
noncomputable def Edge (code : List Row) (cls : List Cl) (i j : Nat) : Prop := (∃ r, code[i]? = some r ∧ j ∈ succs code i r) ∨ ∃ c ∈ cls, c.inT i ∧ (j = c.h0 ∨ (c.sort = 1 ∧ j = c.ex))
inductive Reach (code : List Row) (cls : List Cl) : Nat → Prop
  | zero : Reach code cls 0
  | step {i j} : Reach code cls i → Edge code cls i j → Reach code cls j

structure RI (code : List Row) (cls : List Cl) (i : Nat) (fl : List Bool) (wk : List Nat) : Prop where
  len : fl.length = code.length
  wks : ∀ x ∈ wk, fl[x]? = some true
  re : ∀ x : Nat, fl[x]? = some true → Reach code cls x
  z : fl[0]? = some true
  cl : ∀ x : Nat, fl[x]? = some true → x ∉ wk → x = i ∨ ∀ j, Edge code cls x j → fl[j]? = some true
  sum : fl.count false + wk.length ≤ code.length
  hi : fl[i]? = some true

theorem count_set : ∀ {fl : List Bool} {j : Nat}, fl[j]? = some false → (fl.set j true).count false + 1 = fl.count false
  | [], _, h => by simp at h
  | b :: fl, 0, h => by simp at h; subst h; simp
  | b :: fl, j + 1, h => by
    simp at h
    have := count_set (fl := fl) (j := j) (by simpa using h)
    rw [List.set_cons_succ, List.count_cons, List.count_cons]; omega
theorem get_false {fl : List Bool} {j : Nat} (hj : j < fl.length) (h : fl[j]? ≠ some true) : fl[j]? = some false := by
  rw [List.getElem?_eq_getElem hj] at h ⊢
  cases hb : fl[j] with
  | true => rw [hb] at h; exact absurd rfl h
  | false => rfl
theorem get_set_true {fl : List Bool} {j x : Nat} (hj : j < fl.length) : (fl.set j true)[x]? = some true ↔ x = j ∨ fl[x]? = some true := by
  rw [List.getElem?_set]
  split
  · rename_i h; subst h; simp [hj]
  · rename_i h; constructor
    · exact .inr
    · rintro (q | q)
      · exact absurd q.symm h
      · exact q
theorem RI.add {code : List Row} {cls : List Cl} {i j : Nat} {fl : List Bool} {wk : List Nat} (R : RI code cls i fl wk) (hj : j < code.length) (he : Edge code cls i j) :
    RI code cls i (addF fl wk j).1 (addF fl wk j).2 ∧ (addF fl wk j).1[j]? = some true ∧ (∀ x : Nat, fl[x]? = some true → (addF fl wk j).1[x]? = some true) ∧
      2 * (addF fl wk j).1.count false + (addF fl wk j).2.length ≤ 2 * fl.count false + wk.length := by
  have hl : j < fl.length := by rw [R.len]; exact hj
  unfold addF
  split
  · rename_i h; exact ⟨R, h, fun _ h => h, Nat.le_refl _⟩
  · rename_i h
    have hf := get_false hl h
    have hc := count_set hf
    refine ⟨⟨by simp [R.len], fun x hx => ?_, fun x hx => ?_, ?_, fun x hx hn => ?_, ?_, ?_⟩, ?_, fun x hx => ?_, ?_⟩
    · rw [get_set_true hl]
      rcases List.mem_append.mp hx with q | q
      · exact .inr (R.wks x q)
      · exact .inl (List.mem_singleton.mp q)
    · rcases (get_set_true hl).mp hx with rfl | q
      · exact .step (R.re i R.hi) he
      · exact R.re x q
    · exact (get_set_true hl).mpr (.inr R.z)
    · rcases (get_set_true hl).mp hx with rfl | q
      · exact absurd (List.mem_append_right _ (List.mem_singleton.mpr rfl)) hn
      · rcases R.cl x q (fun z => hn (List.mem_append_left _ z)) with z | z
        · exact .inl z
        · exact .inr fun y hy => (get_set_true hl).mpr (.inr (z y hy))
    · have := R.sum
      simp only [List.length_append, List.length_singleton]; omega
    · exact (get_set_true hl).mpr (.inr R.hi)
    · exact (get_set_true hl).mpr (.inl rfl)
    · exact (get_set_true hl).mpr (.inr hx)
    · simp only [List.length_append, List.length_singleton]; omega
theorem rep1 (x : PyData) (n : Nat) (h : n ≤ 1000) : binP .mul (.list [x]) (eN n) = some (.list (List.replicate n x)) := by
  show (if [x] ≠ [] ∧ (n : Int) < big ∧ -big < (n : Int) ∧ [x].length * ((n : Int)).toNat ≤ lim then some (PyData.list (List.replicate ((n : Int)).toNat [x]).flatten) else none) = _
  rw [if_pos ⟨by simp, (big_ok (by omega)).2, (big_ok (by omega)).1, by rw [lim_eq]; simp; omega⟩]
  congr 2
  rw [show ((n : Int)).toNat = n by omega]
  clear h
  induction n with
  | zero => rfl
  | succ n ih => rw [List.replicate_succ, List.flatten_cons, ih]; rfl
theorem ge_n0 (a : Nat) : cmpP .ge (eN a) (.int 0) = some true := congrArg some (decide_eq_true (p := (0 : Int) ≤ (a : Int)) (by omega))

end
set_option hygiene false
local macro_rules | `(tactic| walk_at "vcf") => `(tactic| simp -implicitDefEqProofs only [ge_n0])
set_option hygiene true
section


section
variable {prog : Program} {w : World} {base : Heap} {mg mb : Str → Option Value} {tab : Int → Option Int}

theorem c_reach_one (Γ : Gd prog w base mg mb tab) {k a b j : Nat} {fl : List Bool} {wk : List Nat} {σ : Store} {Q : KV} (ha : getS σ a = some (fl.map .bool)) (hb : getS σ b = some (wk.map eN)) (hab : a ≠ b) (hj : j < fl.length) (hw : wk.length ≤ 100)
    (h : Q (.d .none) ((σ.set a (some ((addF fl wk j).1.map .bool))).set b (some ((addF fl wk j).2.map eN)))) : CallOK prog w base mg (k + 1) "reach_one" [.l a, .l b, .d (eN j)] σ Q := by
  refine call_reach_one Γ rfl ?_
  simp only [ir_reach_one]
  have e1 : fl[j]? = some fl[j] := List.getElem?_eq_getElem hj
  refine ite_i (σ' := σ) (!fl[j]) (fun K hK => ?_) (fun ht => ?_) fun ht => ?_
  · walk_at "vc"
    rw [ha]
    walk_at "vc"
    rw [if_pos (decide_eq_true (by simpa using hj)), ha]
    walk_at "vc"
    rw [List.getElem?_map, e1]
    walk_at "vc"
    exact hK
  · have hf : fl[j] = false := by simpa using ht
    refine seq_step (ρ' := ?r) (σ' := ?s) (fun K hK => ?_) ?_
    rotate_left 2
    · walk_at "st"; rw [ha]; walk_at "vc"; refine ⟨by omega, by omega, ?_⟩; exact hK
    walk_at "st"
    rw [getS_set_ne hab, hb]
    walk_at "vc"
    refine ⟨lim_lt_of (by omega), ?_⟩
    simp only [RetQ]
    rw [List.take_of_length_le (by simp)]
    have : addF fl wk j = (fl.set j true, wk ++ [j]) := by unfold addF; rw [e1, hf]; rfl
    rw [this] at h
    simpa [List.map_set] using h
  · have hf : fl[j] = true := by simpa using ht
    refine skip_i ?_
    simp only [RetQ, List.take_length]
    have : addF fl wk j = (fl, wk) := by unfold addF; rw [e1, hf]; rfl
    rw [this] at h
    simp only [setOf_same ha, setOf_same hb] at h
    exact h

theorem reach_lt {code : List Row} {cls : List Cl} (hc : CodeOK code) (hl : ClsOK code.length cls) (h0 : 0 < code.length) : ∀ {i}, Reach code cls i → i < code.length := by
  intro i h
  induction h with
  | zero => exact h0
  | @step i j _ he _ =>
    rcases he with ⟨r, er, hj⟩ | ⟨c, hcm, _, hj⟩
    · have hr := hc.rows r (List.mem_of_getElem? er)
      have key : ∀ (l out : List Nat), (∀ g ∈ l, g < code.length) → (∀ g ∈ out, g < code.length) → ∀ g ∈ l.foldl addNew out, g < code.length := by
        intro l
        induction l with
        | nil => intro out _ h; exact h
        | cons a l ih =>
          intro out h1 h2
          refine ih _ (fun g hg => h1 g (List.mem_cons_of_mem _ hg)) ?_
          unfold addNew
          split
          · exact h2
          · intro g hg
            rcases List.mem_append.mp hg with q | q
            · exact h2 g q
            · rw [List.mem_singleton.mp q]; exact h1 a List.mem_cons_self
      refine key _ _ hr.tg (fun g hg => ?_) j hj
      split at hg
      · rename_i hq
        simp at hg hq
        omega
      · simp at hg
    · have h1 := hl.each c hcm
      rcases hj with rfl | ⟨hs, rfl⟩
      · have := h1.h0; have := h1.h1; omega
      · exact h1.ex hs

theorem c_reachable (Γ : Gd prog w base mg mb tab) {k : Nat} {code : List Row} {cls : List Cl} (hc : CodeOK code) (hl : ClsOK code.length cls) (h0 : 0 < code.length) {σ : Store} {Q : KV}
    (h : ∀ fl : List Bool, fl.length = code.length → (∀ i : Nat, fl[i]? = some true ↔ Reach code cls i) → Q (.l σ.length) (σ ++ [some (fl.map .bool), some []])) :
    CallOK prog w base mg (k + 1 + 1 + 1 + 1) "reachable" [.d (eRows code), .d (eCls cls)] σ Q := by
  have hn := hc.len
  have hcl := hl.len
  refine call_reachable Γ rfl ?_
  simp only [ir_reachable]
  refine seq_step (ρ' := [some (.d (eRows code)), some (.d (eCls cls)), some (.l σ.length), none, none, none, none]) (σ' := σ ++ [some ((List.replicate code.length false).map .bool)]) (fun K hK => ?_) ?_
  · walk_at "st"
    rw [rep1 _ _ (by omega)]
    walk_at "vc"
    rw [List.map_replicate] at hK
    exact hK
  walk_at "step"
  have hz : (List.replicate code.length false)[0]? ≠ some true := by rw [List.getElem?_replicate]; split <;> simp
  have e0 : addF (List.replicate code.length false) [] 0 = ((List.replicate code.length false).set 0 true, [0]) := by unfold addF; rw [if_neg hz]; rfl
  refine seq_step (ρ' := [some (.d (eRows code)), some (.d (eCls cls)), some (.l σ.length), some (.l (σ.length + 1)), none, none, none]) (σ' := σ ++ [some (((List.replicate code.length false).set 0 true).map .bool), some ([0].map eN)]) (fun K hK => ?_) ?_
  · walk_at "st"
    refine c_reach_one Γ (j := 0) (fl := List.replicate code.length false) (wk := []) ?_ ?_ (by omega) (by simpa using h0) (by simp) ?_
    · walk_at "vc"
    · walk_at "vc"
    · rw [e0]; walk_at "vc"; exact hK
  refine seq_cut (fun fl ρ σ' => All2 (fl = .next) (Ex4 fun a b d (f : List Bool) => All4 (ρ = [some (.d (eRows code)), some (.d (eCls cls)), some (.l σ.length), some (.l (σ.length + 1)), a, b, d]) (σ' = σ ++ [some (f.map .bool), some []]) (f.length = code.length) (∀ i : Nat, f[i]? = some true ↔ Reach code cls i))) CallOK.mono ?_ ?_
  · refine while_i CallOK.mono (fun m ρ σ' => Ex6 fun a b d (f : List Bool) (wk : List Nat) (i : Nat) => All4 (ρ = [some (.d (eRows code)), some (.d (eCls cls)), some (.l σ.length), some (.l (σ.length + 1)), a, b, d]) (σ' = σ ++ [some (f.map .bool), some (wk.map eN)]) ((RI code cls i f wk ∧ ∀ j, i ∉ wk → Edge code cls i j → f[j]? = some true)) (2 * f.count false + wk.length ≤ m)) ?_ (2 * code.length + 1) _ _ ⟨_, _, _, (List.replicate code.length false).set 0 true, [0], 0, rfl, rfl, ⟨?_, fun j hj => absurd (by simp) hj⟩, ?_⟩
    · rintro m ρ _ ⟨a, b, d, f, wk, i, rfl, rfl, ⟨R, hR⟩, hm⟩
      walk_at "vc"
      have hlim := R.sum
      rcases List.eq_nil_or_concat wk with rfl | ⟨wk', x, rfl⟩
      · simp only [List.length_nil, Nat.lt_irrefl, decide_false, Bool.false_eq_true, if_false, List.map_nil]
        refine ⟨trivial, _, _, _, f, rfl, rfl, R.len, fun i' => ⟨R.re i', fun hr => ?_⟩⟩
        induction hr with
        | zero => exact R.z
        | step hi he ih =>
          rcases R.cl _ ih (by simp) with z | z
          · subst z; exact hR _ (by simp) he
          · exact z _ he
      · have hx : f[x]? = some true := R.wks x (by simp)
        have hxn : x < code.length := by
          rw [← R.len]
          rcases Nat.lt_or_ge x f.length with q | q
          · exact q
          · rw [List.getElem?_eq_none q] at hx; cases hx
        obtain ⟨r, er⟩ : ∃ r, code[x]? = some r := ⟨_, List.getElem?_eq_getElem hxn⟩
        have hlt : ∀ {j}, Edge code cls x j → j < code.length := fun he => reach_lt hc hl h0 (.step (R.re x hx) he)
        have R0 : RI code cls x f wk' := by
          refine ⟨R.len, fun y hy => R.wks y (by simp [hy]), R.re, R.z, fun y hy hn => ?_, ?_, hx⟩
          · by_cases hyx : y = x
            · exact .inl hyx
            · have hnw : y ∉ wk'.concat x := by simp [hn, hyx]
              rcases R.cl y hy hnw with z | z
              · subst z; exact .inr fun j he => hR j hnw he
              · exact .inr z
          · simp only [List.concat_eq_append, List.length_append, List.length_singleton] at hlim; omega
        rw [List.concat_eq_append] at hm ⊢
        rw [if_pos (by simp)]
        refine seq_step (ρ' := [some (.d (eRows code)), some (.d (eCls cls)), some (.l σ.length), some (.l (σ.length + 1)), some (.d (eN x)), b, d]) (σ' := σ ++ [some (f.map .bool), some (wk'.map eN)]) (fun K hK => ?_) ?_
        · walk_at "stf"
          rw [List.map_append, List.map_cons, List.map_nil, List.getLast?_append]
          simp only [List.getLast?_singleton, Option.some_or, ob_some, List.dropLast_concat]
          exact hK
        simp only [List.length_append, List.length_singleton] at hm
        refine seq_cut (fun fl ρ σ' => All2 (fl = .next) (Ex4 fun b d (f' : List Bool) (w' : List Nat) => All5 (ρ = [some (.d (eRows code)), some (.d (eCls cls)), some (.l σ.length), some (.l (σ.length + 1)), some (.d (eN x)), b, d]) (σ' = σ ++ [some (f'.map .bool), some (w'.map eN)]) (RI code cls x f' w') ((∀ j ∈ succs code x r, f'[j]? = some true)) (2 * f'.count false + w'.length < m))) CallOK.mono ?_ ?_
        · refine loop_i (xs := (succs code x r).map eN) (σ' := σ ++ [some (f.map .bool), some (wk'.map eN)]) (fun K hK => ?_) ?_
          · walk_at "vc"
            exact c_successors Γ hc er (by walk_at "vc"; exact hK)
          · refine forV_ind (enc := eN) CallOK.mono (fun l ρ σ' => Ex5 fun b d (f' : List Bool) (w' : List Nat) (dn : List Nat) => All6 (ρ = [some (.d (eRows code)), some (.d (eCls cls)), some (.l σ.length), some (.l (σ.length + 1)), some (.d (eN x)), b, d]) (σ' = σ ++ [some (f'.map .bool), some (w'.map eN)]) (RI code cls x f' w') (dn ++ l = succs code x r) ((∀ j ∈ dn, f'[j]? = some true)) (2 * f'.count false + w'.length < m)) ?_ ?_ _ _ _ ⟨_, _, f, wk', [], rfl, rfl, R0, rfl, by simp, by omega⟩
            · rintro j l ρ _ ⟨b, d, f', w', dn, rfl, rfl, R', hdn, hd, hm'⟩
              have he : Edge code cls x j := .inl ⟨r, er, by rw [← hdn]; simp⟩
              obtain ⟨R1, h1, h2, h3⟩ := R'.add (hlt he) he
              have hs' := R'.sum
              walk_at "vc"
              walk_at "st"
              refine c_reach_one Γ (j := j) (fl := f') (wk := w') ?_ ?_ (by omega) (by rw [R'.len]; exact hlt he) (by omega) ?_
              · walk_at "vc"
              · walk_at "vc"
              · walk_at "vc"
                refine ⟨_, _, _, _, dn ++ [j], rfl, rfl, R1, by simpa using hdn, fun y hy => ?_, by omega⟩
                rcases List.mem_append.mp hy with q | q
                · exact h2 y (hd y q)
                · rw [List.mem_singleton.mp q]; exact h1
            · rintro ρ _ ⟨b, d, f', w', dn, rfl, rfl, R', hdn, hd, hm'⟩
              rw [List.append_nil] at hdn
              exact ⟨rfl, _, _, f', w', rfl, rfl, R', hdn ▸ hd, hm'⟩
        · rintro fl ρ σ' ⟨rfl, b, d, f1, w1, rfl, rfl, R1, hs1, hm1⟩
          walk_at "vc"
          refine loop_i (xs := cls.map eCl) (σ' := σ ++ [some (f1.map .bool), some (w1.map eN)]) (fun K hK => ?_) ?_
          · walk_at "vc"; exact hK
          · refine forV_ind (enc := eCl) CallOK.mono (fun l ρ σ' => Ex5 fun b d (f' : List Bool) (w' : List Nat) (dn : List Cl) => All7 (ρ = [some (.d (eRows code)), some (.d (eCls cls)), some (.l σ.length), some (.l (σ.length + 1)), some (.d (eN x)), b, d]) (σ' = σ ++ [some (f'.map .bool), some (w'.map eN)]) (RI code cls x f' w') (dn ++ l = cls) ((∀ j ∈ succs code x r, f'[j]? = some true)) ((∀ c ∈ dn, c.inT x → f'[c.h0]? = some true ∧ (c.sort = 1 → f'[c.ex]? = some true))) (2 * f'.count false + w'.length < m)) ?_ ?_ _ _ _ ⟨_, _, f1, w1, [], rfl, rfl, R1, rfl, hs1, by simp, hm1⟩
            · rintro c l ρ _ ⟨b, d, f', w', dn, rfl, rfl, R', hdn, hs', hd, hm'⟩
              have hcm : c ∈ cls := by rw [← hdn]; simp
              walk_at "vc"
              refine ite_i (σ' := σ ++ [some (f'.map .bool), some (w'.map eN)]) (decide (c.inT x)) (fun K hK => ?_) (fun ht => ?_) fun ht => ?_
              · walk_at "vc"
                unfold Cl.inT at hK
                by_cases h1 : c.t0 ≤ x
                · by_cases h2 : x < c.t1
                  · simpa [h1, h2] using hK
                  · simpa [h1, h2] using hK
                · simpa [h1] using hK
              · have hin : c.inT x := by simpa using ht
                have he0 : Edge code cls x c.h0 := .inr ⟨c, hcm, hin, .inl rfl⟩
                obtain ⟨R2, h21, h22, h23⟩ := R'.add (hlt he0) he0
                have hsm := R'.sum
                have hsm2 := R2.sum
                refine seq_step (ρ' := [some (.d (eRows code)), some (.d (eCls cls)), some (.l σ.length), some (.l (σ.length + 1)), some (.d (eN x)), b, some (.d (eCl c))]) (σ' := σ ++ [some ((addF f' w' c.h0).1.map .bool), some ((addF f' w' c.h0).2.map eN)]) (fun K hK => ?_) ?_
                · walk_at "st"
                  refine c_reach_one Γ (j := c.h0) (fl := f') (wk := w') ?_ ?_ (by omega) (by rw [R'.len]; exact hlt he0) (by omega) ?_
                  · walk_at "vc"
                  · walk_at "vc"
                  · walk_at "vc"; exact hK
                refine ite_i (σ' := σ ++ [some ((addF f' w' c.h0).1.map .bool), some ((addF f' w' c.h0).2.map eN)]) (decide (c.sort = 1)) (fun K hK => ?_) (fun ht => ?_) fun ht => ?_
                · walk_at "vc"; exact hK
                · have hso : c.sort = 1 := by simpa using ht
                  have he1 : Edge code cls x c.ex := .inr ⟨c, hcm, hin, .inr ⟨hso, rfl⟩⟩
                  obtain ⟨R3, h31, h32, h33⟩ := R2.add (hlt he1) he1
                  walk_at "st"
                  refine c_reach_one Γ (j := c.ex) (fl := (addF f' w' c.h0).1) (wk := (addF f' w' c.h0).2) ?_ ?_ (by omega) (by rw [R2.len]; exact hlt he1) (by omega) ?_
                  · walk_at "vc"
                  · walk_at "vc"
                  · walk_at "vc"
                    refine ⟨_, _, _, _, dn ++ [c], rfl, rfl, R3, by simpa using hdn, fun j hj => h32 j (h22 j (hs' j hj)), fun c' hc' hin' => ?_, by omega⟩
                    rcases List.mem_append.mp hc' with q | q
                    · exact ⟨h32 _ (h22 _ (hd c' q hin').1), fun z => h32 _ (h22 _ ((hd c' q hin').2 z))⟩
                    · rw [List.mem_singleton.mp q]; exact ⟨h32 _ h21, fun _ => h31⟩
                · have hso : c.sort ≠ 1 := by simpa using ht
                  refine skip_i ⟨_, _, _, _, dn ++ [c], rfl, rfl, R2, by simpa using hdn, fun j hj => h22 j (hs' j hj), fun c' hc' hin' => ?_, by omega⟩
                  rcases List.mem_append.mp hc' with q | q
                  · exact ⟨h22 _ (hd c' q hin').1, fun z => h22 _ ((hd c' q hin').2 z)⟩
                  · rw [List.mem_singleton.mp q]; exact ⟨h21, fun z => absurd z hso⟩
              · have hin : ¬ c.inT x := by simpa using ht
                refine skip_i ⟨_, _, f', w', dn ++ [c], rfl, rfl, R', by simpa using hdn, hs', fun c' hc' hin' => ?_, hm'⟩
                rcases List.mem_append.mp hc' with q | q
                · exact hd c' q hin'
                · rw [List.mem_singleton.mp q] at hin'; exact absurd hin' hin
            · rintro ρ _ ⟨b, d, f', w', dn, rfl, rfl, R', hdn, hs', hd, hm'⟩
              rw [List.append_nil] at hdn
              subst hdn
              refine ⟨_, hm', _, _, _, f', w', x, rfl, rfl, ⟨R', fun j _ he => ?_⟩, Nat.le_refl _⟩
              rcases he with ⟨r', er', hj⟩ | ⟨c, hcm, hin, hj⟩
              · rw [er] at er'; cases er'; exact hs' j hj
              · rcases hj with rfl | ⟨hso, rfl⟩
                · exact (hd c hcm hin).1
                · exact (hd c hcm hin).2 hso
    · have hr0 : ((List.replicate code.length false).set 0 true)[0]? = some true := by
        rw [get_set_true (by simpa using h0)]; exact .inl rfl
      refine ⟨by simp, fun x hx => ?_, fun x hx => ?_, hr0, fun x hx hn => ?_, ?_, hr0⟩
      · rw [List.mem_singleton.mp hx]; exact hr0
      · rcases (get_set_true (by simpa using h0)).mp hx with rfl | q
        · exact .zero
        · rw [List.getElem?_replicate] at q; split at q <;> simp at q
      · rcases (get_set_true (by simpa using h0)).mp hx with rfl | q
        · exact .inl rfl
        · rw [List.getElem?_replicate] at q; split at q <;> simp at q
      · have := count_set (fl := List.replicate code.length false) (j := 0) (by rw [List.getElem?_replicate, if_pos h0])
        rw [List.count_replicate] at this
        simp at this ⊢; omega
    · have := count_set (fl := List.replicate code.length false) (j := 0) (by rw [List.getElem?_replicate, if_pos h0])
      rw [List.count_replicate] at this
      simp at this ⊢; omega
  · rintro fl ρ σ' ⟨rfl, a, b, d, f, rfl, rfl, hf, hr⟩
    walk_at "vc"
    walk_at "ret"
    simp only [RetQ]
    exact h f hf hr
end

end
section
noncomputable def plc (fl : List Bool) (i : Nat) : Nat := (fl.take i).count true
noncomputable def placesOf (fl : List Bool) : List Nat := (List.range (fl.length + 1)).map (plc fl)
noncomputable def moveRow (p : Nat → Nat) (r : Row) : Row := if r.op = 69 then ⟨r.op, .many (r.arg.goals.map p)⟩ else if isBr r.op then ⟨r.op, .one (p r.arg.goal)⟩ else r
noncomputable def moveCl (p : Nat → Nat) (c : Cl) : Cl := ⟨c.sort, p c.t0, p c.t1, p c.h0, p c.h1, if c.sort = 1 then p c.ex else c.ex⟩
noncomputable def keepRows (fl : List Bool) (code : List Row) : List Row := (List.range code.length).filterMap fun i => if fl[i]? = some true then (code[i]?).map (moveRow (plc fl)) else none
theorem placesOf_get {fl : List Bool} {i : Nat} (h : i ≤ fl.length) : (placesOf fl)[i]? = some (plc fl i) := by
  unfold placesOf; rw [List.getElem?_map, List.getElem?_range (by omega)]; rfl
theorem plc_succ {fl : List Bool} {i : Nat} {b : Bool} (h : fl[i]? = some b) : plc fl (i + 1) = plc fl i + (if b then 1 else 0) := by
  unfold plc
  rw [List.take_add_one, h, List.count_append]
  cases b <;> simp
theorem plc_le (fl : List Bool) (i : Nat) : plc fl i ≤ fl.length := by
  unfold plc
  exact Nat.le_trans List.count_le_length (by rw [List.length_take]; omega)
noncomputable def frzO (n : Nat) (xs : List PyData) (o : Option V) : Option V := match o with
  | some (.l m) => if m = n then some (.d (.list xs)) else some (.l m)
  | o => o
theorem frzR_nil (n : Nat) (xs : List PyData) : frzR n xs [] = [] := rfl
theorem frzR_cons (n : Nat) (xs : List PyData) (o : Option V) (r : Rho) : frzR n xs (o :: r) = frzO n xs o :: frzR n xs r := by
  cases o with
  | none => rfl
  | some v => cases v <;> rfl
theorem frzO_d (n : Nat) (xs : List PyData) (x : PyData) : frzO n xs (some (.d x)) = some (.d x) := rfl
theorem frzO_none (n : Nat) (xs : List PyData) : frzO n xs none = none := rfl
theorem frzO_same (n : Nat) (xs : List PyData) : frzO n xs (some (.l n)) = some (.d (.list xs)) := by simp [frzO]
theorem frzO_ne {n m : Nat} (xs : List PyData) (h : m ≠ n) : frzO n xs (some (.l m)) = some (.l m) := by simp [frzO, h]
theorem frzO_s1 (n : Nat) (xs : List PyData) : frzO n xs (some (.l (n + 1))) = some (.l (n + 1)) := frzO_ne xs (by omega)
theorem frzO_1s (n : Nat) (xs : List PyData) : frzO (n + 1) xs (some (.l n)) = some (.l n) := frzO_ne xs (by omega)

end
set_option hygiene false
local macro_rules | `(tactic| walk_at "vcd") => `(tactic| dsimp only [frzR_nil, frzO_d, frzO_none])
local macro_rules | `(tactic| walk_at "vcf") => `(tactic| simp -implicitDefEqProofs only [frzR_cons, frzO_same, frzO_s1, frzO_1s])
set_option hygiene true
section


section
variable {prog : Program} {w : World} {base : Heap} {mg mb : Str → Option Value} {tab : Int → Option Int}

theorem c_new_places (Γ : Gd prog w base mg mb tab) {k : Nat} {fl : List Bool} (hf : fl.length ≤ 100) {σ : Store} {Q : KV} (h : Q (.d (.list ((placesOf fl).map eN))) σ) :
    CallOK prog w base mg (k + 1) "new_places" [.d (.list (fl.map .bool))] σ Q := by
  refine call_new_places Γ rfl ?_
  simp only [ir_new_places]
  walk_at "step"
  walk_at "step"
  refine seq_cut (fun f ρ σ' => All2 (f = .next) (Ex1 fun d => All2 (ρ = [some (.d (.list (fl.map .bool))), some (.l σ.length), some (.d (eN (plc fl fl.length))), d]) (σ' = σ ++ [some (((List.range fl.length).map (plc fl)).map eN)]))) CallOK.mono ?_ ?_
  · refine loop_i (xs := fl.map .bool) (σ' := σ ++ [some []]) (fun K hK => ?_) ?_
    · walk_at "vc"; exact hK
    · refine forV_ind (enc := PyData.bool) CallOK.mono (fun l ρ σ' => ∃ (d : Option V) (dn : List Bool), dn ++ l = fl ∧ ρ = [some (.d (.list (fl.map .bool))), some (.l σ.length), some (.d (eN (plc fl dn.length))), d] ∧ σ' = σ ++ [some (((List.range dn.length).map (plc fl)).map eN)]) ?_ ?_ _ _ _ ⟨none, [], rfl, rfl, rfl⟩
      · rintro b l ρ _ ⟨d, dn, hdn, rfl, rfl⟩
        have hl : dn.length < fl.length := by rw [← hdn]; simp
        have hb : fl[dn.length]? = some b := by rw [← hdn]; simp
        walk_at "vc"
        walk_at "app"
        have hout : (((List.range dn.length).map (plc fl)).map eN) ++ [eN (plc fl dn.length)] = ((List.range (dn ++ [b]).length).map (plc fl)).map eN := by
          rw [List.length_append, List.length_singleton, List.range_succ]; simp
        rw [hout]
        obtain ⟨o, ho⟩ : ∃ o, o = ((List.range (dn ++ [b]).length).map (plc fl)).map eN := ⟨_, rfl⟩
        rw [← ho]
        have hsucc := plc_succ hb
        refine ite_i (σ' := σ ++ [some o]) b (fun K hK => ?_) (fun ht => ?_) fun ht => ?_
        · walk_at "vc"; exact hK
        · walk_at "st"
          refine ⟨some (.d (.bool b)), dn ++ [b], by simpa using hdn, ?_, by rw [ho]⟩
          rw [List.length_append, List.length_singleton, hsucc, ht]; rfl
        · rw [ho]
          refine skip_i ⟨some (.d (.bool b)), dn ++ [b], by simpa using hdn, ?_, rfl⟩
          rw [List.length_append, List.length_singleton, hsucc, ht]; rfl
      · rintro ρ _ ⟨d, dn, hdn, rfl, rfl⟩
        rw [List.append_nil] at hdn
        subst hdn
        exact ⟨rfl, d, rfl, rfl⟩
  · rintro f ρ σ' ⟨rfl, d, rfl, rfl⟩
    walk_at "app"
    have hout : (((List.range fl.length).map (plc fl)).map eN) ++ [eN (plc fl fl.length)] = (placesOf fl).map eN := by
      unfold placesOf; rw [List.range_succ]; simp
    rw [hout]
    walk_at "step"
    · walk_at "ret"
      simp only [RetQ, take_app]
      exact h
end

end
section
theorem eRow_mk (op : Int) (a : Arg) : PyData.tuple [.int op, eArg a] = eRow ⟨op, a⟩ := rfl
theorem isBr_not69 {op : Int} (h : isBr op = true) : op ≠ 69 := by
  rintro rfl; simp [isBr] at h
theorem moveRow_69 {p : Nat → Nat} {r : Row} {gs : List Nat} (h : r.op = 69) (e : r.arg = .many gs) : moveRow p r = ⟨r.op, .many (gs.map p)⟩ := by
  unfold moveRow; rw [if_pos h, e]; rfl
theorem moveRow_br {p : Nat → Nat} {r : Row} {g : Nat} (h : isBr r.op = true) (e : r.arg = .one g) : moveRow p r = ⟨r.op, .one (p g)⟩ := by
  unfold moveRow; rw [if_neg (isBr_not69 h), if_pos h, e]; rfl
theorem moveRow_no {p : Nat → Nat} {r : Row} (h : r.op ≠ 69) (h' : isBr r.op = false) : moveRow p r = r := by
  unfold moveRow; rw [if_neg h, if_neg (by simp [h'])]
theorem targets_69 {r : Row} {gs : List Nat} (h : r.op = 69) (e : r.arg = .many gs) : r.targets = gs := by unfold Row.targets; rw [if_pos h, e]; rfl
theorem targets_br {r : Row} {g : Nat} (h : isBr r.op = true) (e : r.arg = .one g) : r.targets = [g] := by unfold Row.targets; rw [if_neg (isBr_not69 h), if_pos h, e]; rfl
theorem get_places {fl : List Bool} {i : Nat} (h : i ≤ fl.length) : ((placesOf fl).map eN)[i]? = some (eN (plc fl i)) := by
  rw [List.getElem?_map, placesOf_get h]; rfl



section
variable {prog : Program} {w : World} {base : Heap} {mg mb : Str → Option Value} {tab : Int → Option Int}

theorem c_move_targets (Γ : Gd prog w base mg mb tab) {k n : Nat} {r : Row} {fl : List Bool} (hr : RowOK n r) (hn : n ≤ fl.length) {σ : Store} {Q : KV} (h : Q (.d (eRow (moveRow (plc fl) r))) σ) :
    CallOK prog w base mg (k + 1 + 1) "move_targets" [.d (eRow r), .d (.list ((placesOf fl).map eN))] σ Q := by
  refine call_move_targets Γ rfl ?_
  simp only [ir_move_targets]
  refine seq_ite (σ' := σ) (decide (r.op = 69)) (fun K hK => ?_) (fun ht => ?_) fun ht => seq_skip ?_
  · walk_at "vc"; exact hK
  · have ht' : r.op = 69 := by simpa using ht
    obtain ⟨gs, e, hg⟩ := hr.many ht'
    have htg : ∀ g ∈ gs, g < n := fun g hm => hr.tg g (by rw [targets_69 ht' e]; exact hm)
    refine seq_assoc ?_ CallOK.mono
    walk_at "step"
    refine seq_assoc ?_ CallOK.mono
    refine seq_cut (fun f ρ σ' => f = .next ∧ ∃ d, ρ = [some (.d (eRow r)), some (.d (.list ((placesOf fl).map eN))), some (.l σ.length), d] ∧ σ' = σ ++ [some ((gs.map (plc fl)).map eN)]) CallOK.mono ?_ ?_
    · refine loop_i (xs := gs.map eN) (σ' := σ ++ [some []]) (fun K hK => ?_) ?_
      · walk_at "vc"; rw [e]; exact hK
      · refine forV_ind (enc := eN) CallOK.mono (fun l ρ σ' => ∃ (d : Option V) (dn : List Nat), dn ++ l = gs ∧ ρ = [some (.d (eRow r)), some (.d (.list ((placesOf fl).map eN))), some (.l σ.length), d] ∧ σ' = σ ++ [some ((dn.map (plc fl)).map eN)]) ?_ ?_ _ _ _ ⟨none, [], rfl, rfl, rfl⟩
        · rintro g l ρ _ ⟨d, dn, hdn, rfl, rfl⟩
          have hlen : dn.length < 3 := by have : dn.length + (g :: l).length ≤ 3 := by rw [← List.length_append, hdn]; exact hg
                                          simp only [List.length_cons] at this; omega
          have hgn := htg g (by rw [← hdn]; simp)
          walk_at "vc"
          walk_at "st"
          rw [get_places (by omega)]
          walk_at "vc"
          refine ⟨lim_lt_of (by omega), _, dn ++ [g], by simpa using hdn, rfl, by simp⟩
        · rintro ρ _ ⟨d, dn, hdn, rfl, rfl⟩
          rw [List.append_nil] at hdn
          subst hdn
          exact ⟨rfl, d, rfl, rfl⟩
    · rintro f ρ σ' ⟨rfl, d, rfl, rfl⟩
      walk_at "vc"
      refine seq_ret ?_ CallOK.mono
      walk_at "ret"
      simp only [RetQ, take_app]
      rw [moveRow_69 ht' e] at h
      exact h
  · have ht' : r.op ≠ 69 := by simpa using ht
    obtain ⟨g, e⟩ := hr.one ht'
    refine seq_ite (σ' := σ) (isBr r.op) (fun K hK => ?_) (fun ht => ?_) fun ht => seq_skip ?_
    · walk_at "vc"
      exact c_is_branch Γ hK
    · have hgn : g < n := hr.tg g (by rw [targets_br ht e]; simp)
      refine seq_ret ?_ CallOK.mono
      refine ret_i (v := .d (eRow (moveRow (plc fl) r))) (σ' := σ) (fun K hK => ?_) ?_
      · walk_at "vc"
        rw [e]
        show ob (idxP (.list ((placesOf fl).map eN)) (eN g)) _
        rw [idx_lstN, get_places (by omega)]
        walk_at "vc"
        rw [moveRow_br ht e] at hK
        exact hK
      · simp only [RetQ, List.take_length]; exact h
    · walk_at "ret"
      simp only [RetQ, List.take_length]
      rw [moveRow_no ht' ht] at h
      exact h

theorem c_move_clause (Γ : Gd prog w base mg mb tab) {k n : Nat} {c : Cl} {fl : List Bool} (hc : ClOK n c) (hn : n ≤ fl.length) {σ : Store} {Q : KV} (h : Q (.d (eCl (moveCl (plc fl) c))) σ) :
    CallOK prog w base mg (k + 1) "move_clause" [.d (eCl c), .d (.list ((placesOf fl).map eN))] σ Q := by
  have h1 := hc.t0
  have h2 := hc.t1
  have h3 := hc.h0
  have h4 := hc.h1
  have h5 := hc.ex
  refine call_move_clause Γ rfl ?_
  simp only [ir_move_clause]
  walk_at "step"
  refine seq_cut (fun f ρ σ' => f = .next ∧ ρ = [some (.d (eCl c)), some (.d (.list ((placesOf fl).map eN))), some (.d (eN (if c.sort = 1 then plc fl c.ex else c.ex)))] ∧ σ' = σ) CallOK.mono ?_ ?_
  · refine ite_i (σ' := σ) (decide (c.sort = 1)) (fun K hK => ?_) (fun ht => ?_) fun ht => ?_
    · walk_at "vc"; exact hK
    · have hs : c.sort = 1 := by simpa using ht
      have := h5 hs
      walk_at "st"
      rw [get_places (by omega)]
      walk_at "vc"
      rw [if_pos hs]
    · have hs : c.sort ≠ 1 := by simpa using ht
      rw [if_neg hs]
      exact skip_i ⟨rfl, rfl, rfl⟩
  · rintro f ρ σ' ⟨rfl, rfl, rfl⟩
    walk_at "vc"
    refine ret_i (v := .d (eCl (moveCl (plc fl) c))) (σ' := σ') (fun K hK => ?_) ?_
    · walk_at "vc"
      rw [get_places (by omega)]
      walk_at "vc"
      rw [get_places (by omega)]
      walk_at "vc"
      rw [get_places (by omega)]
      walk_at "vc"
      rw [get_places (by omega)]
      walk_at "vc"
      exact hK
    · simp only [RetQ, List.take_length]; exact h

theorem c_clause_lives (Γ : Gd prog w base mg mb tab) {k n a : Nat} {c : Cl} {fl : List Bool} (hc : ClOK n c) (hn : n ≤ fl.length) (hl : n ≤ 100) {σ : Store} (ha : getS σ a = some (fl.map .bool)) {Q : KV} (h : Q (.d (.bool ((List.range' c.t0 (c.t1 - c.t0)).any fun i => fl[i]? == some true))) σ) :
    CallOK prog w base mg (k + 1) "clause_lives" [.d (eCl c), .l a] σ Q := by
  have h1 := hc.t0
  have h2 := hc.t1
  refine call_clause_lives Γ rfl ?_
  simp only [ir_clause_lives]
  refine seq_cut (fun f ρ σ' => σ' = σ ∧ ((f = .ret (.d (.bool true)) ∧ ((List.range' c.t0 (c.t1 - c.t0)).any fun i => fl[i]? == some true) = true) ∨ (f = .next ∧ ((List.range' c.t0 (c.t1 - c.t0)).any fun i => fl[i]? == some true) = false))) CallOK.mono ?_ ?_
  · refine loop_i (xs := (List.range' c.t0 (c.t1 - c.t0)).map eN) (σ' := σ) (fun K hK => ?_) ?_
    · walk_at "vc"
      exact rng_ok2 (by omega) (by omega) (by omega) hK
    · refine forV_ind (enc := eN) CallOK.mono (fun l ρ σ' => σ = σ' ∧ ∃ (d : Option V) (dn : List Nat), dn ++ l = List.range' c.t0 (c.t1 - c.t0) ∧ (dn.any fun i => fl[i]? == some true) = false ∧ ρ = [some (.d (eCl c)), some (.l a), d]) ?_ ?_ _ _ _ ⟨rfl, none, [], rfl, rfl, rfl⟩
      · rintro i l ρ _ ⟨rfl, d, dn, hdn, hany, rfl⟩
        have hi : i < n := by
          have : i ∈ List.range' c.t0 (c.t1 - c.t0) := by rw [← hdn]; simp
          rw [List.mem_range'_1] at this; omega
        have e1 : fl[i]? = some fl[i] := List.getElem?_eq_getElem (by omega)
        walk_at "vc"
        refine ite_i (σ' := σ) fl[i] (fun K hK => ?_) (fun ht => ?_) fun ht => ?_
        · walk_at "vc"
          rw [ha]
          walk_at "vc"
          rw [List.getElem?_map, e1]
          exact hK
        · walk_at "st"
          refine .inl ?_
          rw [← hdn, List.any_append, List.any_cons, e1, ht]; simp
        · refine skip_i ⟨rfl, _, dn ++ [i], by simpa using hdn, ?_, rfl⟩
          rw [List.any_append, hany, List.any_cons, e1, ht]; rfl
      · rintro ρ _ ⟨rfl, d, dn, hdn, hany, rfl⟩
        rw [List.append_nil] at hdn
        subst hdn
        exact ⟨rfl, .inr ⟨rfl, hany⟩⟩
  · rintro f ρ σ' ⟨rfl, ⟨rfl, ha'⟩ | ⟨rfl, ha'⟩⟩
    · simp only [flK_ret, RetQ, List.take_length]
      rw [ha'] at h; exact h
    · simp only [flK_next]
      walk_at "ret"
      simp only [RetQ, List.take_length]
      rw [ha'] at h; exact h
end

end
section
theorem compV_filter {α : Type} {enc g : α → PyData} {p : α → Bool} {t : Rho → Store → KB → Prop} {e : Rho → Store → KV → Prop} {ρ : Rho} :
    ∀ (l : List α) (acc : List PyData) (σ : Store) (Q : KV), (∀ a ∈ l, ∀ K : KB, K (p a) σ → t (some (.d (enc a)) :: ρ) σ K) → (∀ a ∈ l, p a = true → ∀ K : KV, K (.d (g a)) σ → e (some (.d (enc a)) :: ρ) σ K) →
      Q (.d (.list (acc ++ (l.filter p).map g))) σ → compV t e ρ (l.map enc) acc σ Q
  | [], acc, σ, Q, _, _, h => by simpa [compV] using h
  | a :: l, acc, σ, Q, ht, he, h => by
    rw [List.map_cons, compV]
    refine ht a List.mem_cons_self _ ?_
    cases hp : p a with
    | false =>
      simp only [Bool.false_eq_true, if_false]
      refine compV_filter l acc σ Q (fun b hb => ht b (List.mem_cons_of_mem _ hb)) (fun b hb => he b (List.mem_cons_of_mem _ hb)) ?_
      rw [List.filter_cons_of_neg (by simp [hp])] at h; exact h
    | true =>
      simp only [if_true]
      refine he a List.mem_cons_self hp _ ?_
      show compV t e ρ (l.map enc) (acc ++ [g a]) σ Q
      refine compV_filter l (acc ++ [g a]) σ Q (fun b hb => ht b (List.mem_cons_of_mem _ hb)) (fun b hb => he b (List.mem_cons_of_mem _ hb)) ?_
      rw [List.filter_cons_of_pos (by simp [hp])] at h
      simpa using h
theorem filter_all {α : Type} {p : α → Bool} {l : List α} (h : ∀ a ∈ l, p a = true) : l.filter p = l := List.filter_eq_self.mpr h

noncomputable def keepT (fl : List Bool) (code : List Row) (cls : List Cl) : PyData := .tuple [eRows (keepRows fl code), eCls (cls.map (moveCl (plc fl))), .list ((placesOf fl).map eN)]
noncomputable def livesOf (fl : List Bool) (cls : List Cl) : List Cl := cls.filter fun c => (List.range' c.t0 (c.t1 - c.t0)).any fun i => fl[i]? == some true
noncomputable def closes (code : List Row) (c : Cl) : Bool := c.sort == 1 && decide (0 < c.h0) && (match code[c.h0 - 1]? with | some r => r.op == 65041 | none => false)
noncomputable def closeF (code : List Row) (cls : List Cl) (fl : List Bool) : List Bool := cls.foldl (fun f c => if closes code c then f.set (c.h0 - 1) true else f) fl
theorem closeF_len (code : List Row) : ∀ (cls : List Cl) (fl : List Bool), (closeF code cls fl).length = fl.length
  | [], _ => rfl
  | c :: r, fl => by
    unfold closeF; rw [List.foldl_cons]
    have := closeF_len code r (if closes code c = true then fl.set (c.h0 - 1) true else fl)
    unfold closeF at this; rw [this]; split <;> simp
noncomputable def keepOne (fl : List Bool) (code : List Row) (i : Nat) : Option Row := if fl[i]? = some true then (code[i]?).map (moveRow (plc fl)) else none
theorem keepRows_eq (fl : List Bool) (code : List Row) : keepRows fl code = (List.range code.length).filterMap (keepOne fl code) := rfl



section
variable {prog : Program} {w : World} {base : Heap} {mg mb : Str → Option Value} {tab : Int → Option Int}

theorem c_keep_only (Γ : Gd prog w base mg mb tab) {k : Nat} {code : List Row} {cls : List Cl} {fl : List Bool} (hc : CodeOK code) (hl : ClsOK code.length cls) (hf : fl.length = code.length) {σ : Store} {Q : KV} (h : Q (.d (keepT fl code cls)) σ) :
    CallOK prog w base mg (k + 1 + 1 + 1) "keep_only" [.d (eRows code), .d (eCls cls), .d (.list (fl.map .bool))] σ Q := by
  have hn := hc.len
  have hcl := hl.len
  refine call_keep_only Γ rfl ?_
  simp only [ir_keep_only]
  refine seq_step (ρ' := [some (.d (eRows code)), some (.d (eCls cls)), some (.d (.list (fl.map .bool))), some (.d (.list ((placesOf fl).map eN))), none, none, none, none]) (σ' := σ) (fun K hK => ?_) ?_
  · walk_at "st"
    exact c_new_places Γ (by omega) hK
  walk_at "step"
  refine seq_cut (fun f ρ σ' => All2 (f = .next) (Ex1 fun d => All2 (ρ = [some (.d (eRows code)), some (.d (eCls cls)), some (.d (.list (fl.map .bool))), some (.d (.list ((placesOf fl).map eN))), some (.l σ.length), d, none, none]) (σ' = σ ++ [some ((keepRows fl code).map eRow)]))) CallOK.mono ?_ ?_
  · refine loop_i (xs := (List.range code.length).map eN) (σ' := σ ++ [some []]) (fun K hK => ?_) ?_
    · walk_at "vc"
      exact rng_ok (by omega) hK
    · refine forV_ind (enc := eN) CallOK.mono (fun l ρ σ' => Ex2 fun (d : Option V) (dn : List Nat) => All3 (dn ++ l = List.range code.length) (ρ = [some (.d (eRows code)), some (.d (eCls cls)), some (.d (.list (fl.map .bool))), some (.d (.list ((placesOf fl).map eN))), some (.l σ.length), d, none, none]) (σ' = σ ++ [some ((dn.filterMap (keepOne fl code)).map eRow)])) ?_ ?_ _ _ _ ⟨none, [], rfl, rfl, rfl⟩
      · rintro i l ρ _ ⟨d, dn, hdn, rfl, rfl⟩
        have hi : i < code.length := by
          have : i ∈ List.range code.length := by rw [← hdn]; simp
          exact List.mem_range.mp this
        have hdl : dn.length ≤ 18 := by
          have : dn.length + (i :: l).length = code.length := by rw [← List.length_append, hdn, List.length_range]
          omega
        obtain ⟨r, er⟩ : ∃ r, code[i]? = some r := ⟨_, List.getElem?_eq_getElem hi⟩
        have e1 : fl[i]? = some fl[i] := List.getElem?_eq_getElem (by omega)
        walk_at "vc"
        refine ite_i (σ' := σ ++ [some ((dn.filterMap (keepOne fl code)).map eRow)]) fl[i] (fun K hK => ?_) (fun ht => ?_) fun ht => ?_
        · walk_at "vc"
          rw [List.getElem?_map, e1]
          exact hK
        · have hk1 : keepOne fl code i = some (moveRow (plc fl) r) := by unfold keepOne; rw [e1, ht, er]; rfl
          walk_at "st"
          rw [er]
          walk_at "vc"
          refine c_move_targets Γ (hc.rows r (List.mem_of_getElem? er)) (by omega) ?_
          walk_at "vc"
          have hle : (dn.filterMap (keepOne fl code)).length ≤ dn.length := List.length_filterMap_le _ _
          refine ⟨lim_lt_of (by omega), _, dn ++ [i], by simpa using hdn, rfl, ?_⟩
          rw [List.filterMap_append, List.filterMap_cons, hk1]; simp
        · have hk1 : keepOne fl code i = none := by unfold keepOne; rw [e1, ht]; rfl
          refine skip_i ⟨_, dn ++ [i], by simpa using hdn, rfl, ?_⟩
          rw [List.filterMap_append, List.filterMap_cons, hk1]; simp
      · rintro ρ _ ⟨d, dn, hdn, rfl, rfl⟩
        rw [List.append_nil] at hdn
        subst hdn
        exact ⟨rfl, d, rfl, rfl⟩
  rintro f ρ σ' ⟨rfl, d, rfl, rfl⟩
  walk_at "vc"
  walk_at "step"
  refine seq_cut (fun f ρ σ' => All2 (f = .next) (Ex1 fun d' => All2 (ρ = [some (.d (eRows code)), some (.d (eCls cls)), some (.d (.list (fl.map .bool))), some (.d (.list ((placesOf fl).map eN))), some (.l σ.length), d, some (.l (σ.length + 1)), d']) (σ' = σ ++ [some ((keepRows fl code).map eRow), some ((cls.map (moveCl (plc fl))).map eCl)]))) CallOK.mono ?_ ?_
  · refine loop_i (xs := cls.map eCl) (σ' := σ ++ [some ((keepRows fl code).map eRow), some []]) (fun K hK => ?_) ?_
    · walk_at "vc"; exact hK
    · refine forV_ind (enc := eCl) CallOK.mono (fun l ρ σ' => Ex2 fun (d' : Option V) (dn : List Cl) => All3 (dn ++ l = cls) (ρ = [some (.d (eRows code)), some (.d (eCls cls)), some (.d (.list (fl.map .bool))), some (.d (.list ((placesOf fl).map eN))), some (.l σ.length), d, some (.l (σ.length + 1)), d']) (σ' = σ ++ [some ((keepRows fl code).map eRow), some ((dn.map (moveCl (plc fl))).map eCl)])) ?_ ?_ _ _ _ ⟨none, [], rfl, rfl, rfl⟩
      · rintro c l ρ _ ⟨d', dn, hdn, rfl, rfl⟩
        have hdl : dn.length ≤ 3 := by
          have : dn.length + (c :: l).length = cls.length := by rw [← List.length_append, hdn]
          omega
        walk_at "vc"
        walk_at "st"
        refine c_move_clause Γ (hl.each c (by rw [← hdn]; simp)) (by omega) ?_
        walk_at "vc"
        refine ⟨lim_lt_of (by omega), _, dn ++ [c], by simpa using hdn, rfl, by simp⟩
      · rintro ρ _ ⟨d', dn, hdn, rfl, rfl⟩
        rw [List.append_nil] at hdn
        subst hdn
        exact ⟨rfl, d', rfl, rfl⟩
  rintro f ρ σ' ⟨rfl, d', rfl, rfl⟩
  walk_at "vc"
  walk_at "step"
  walk_at "step"
  walk_at "ret"
  simp only [RetQ, take_app]
  exact h
end

end
section
theorem add_n2 (a : Nat) : binP .add (eN a) (.int 2) = some (eN (a + 2)) := rfl
theorem mul3 (a : Nat) (h : a ≤ 100) : binP .mul (.int 3) (eN a) = some (eN (3 * a)) := by
  show (if -big < (3 : Int) ∧ (3 : Int) < big ∧ -big < (a : Int) ∧ (a : Int) < big then some (PyData.int (3 * (a : Int))) else none) = _
  rw [if_pos ⟨by simp only [big_eq]; omega, by simp only [big_eq]; omega, by simp only [big_eq]; omega, by simp only [big_eq]; omega⟩]
  simp only [eN, Option.some.injEq, PyData.int.injEq]; omega
theorem eq_nt (l l' : List Nat) : cmpP .eq (.tuple (l.map eN)) (.tuple (l'.map eN)) = some (decide (l = l')) := by
  show (if SeqAt.shaped (.tuple (l.map eN)) && SeqAt.shaped (.tuple (l'.map eN)) then some (PyData.eqv (.tuple (l.map eN)) (.tuple (l'.map eN))) else none) = _
  rw [(shp_nt l).ok (by omega), (shp_nt l').ok (by omega), eqv_nt]; rfl
noncomputable def rkAt (p : Nat) (c : Cl) (i : Nat) : List Nat := (if c.inT i then [3 * p] else []) ++ (if c.sort = 1 ∧ c.ex ≤ i ∧ i < c.h0 then [3 * p + 1] else []) ++ (if c.h0 ≤ i ∧ i < c.h1 then [3 * p + 2] else [])
noncomputable def rkOne (cls : List Cl) (i p : Nat) : List Nat := match cls[p]? with | some c => rkAt p c i | none => []
noncomputable def regionKey (cls : List Cl) (i : Nat) : List Nat := (List.range cls.length).flatMap (rkOne cls i)
theorem rkAt_len (p : Nat) (c : Cl) (i : Nat) : (rkAt p c i).length ≤ 3 := by
  unfold rkAt
  split <;> split <;> split <;> simp
theorem flatMap_len (cls : List Cl) (i : Nat) : ∀ l : List Nat, (l.flatMap (rkOne cls i)).length ≤ 3 * l.length
  | [] => by simp
  | p :: l => by
    rw [List.flatMap_cons, List.length_append, List.length_cons]
    have h1 : (rkOne cls i p).length ≤ 3 := by
      unfold rkOne; split
      · exact rkAt_len _ _ _
      · simp
    have := flatMap_len cls i l
    omega

/-- a list of different numbers below n is no longer than n -/
theorem pigeon : ∀ (n : Nat) (l : List Nat), l.Nodup → (∀ x ∈ l, x < n) → l.length ≤ n
  | 0, l, _, h => by
    cases l with
    | nil => simp
    | cons a l => exact absurd (h a List.mem_cons_self) (by omega)
  | n + 1, l, hd, h => by
    have h1 : (l.erase n).Nodup := hd.erase n
    have h2 : ∀ x ∈ l.erase n, x < n := fun x hx => by
      have := h x (List.mem_of_mem_erase hx)
      have hne : x ≠ n := fun z => by subst z; exact (List.Nodup.not_mem_erase hd) hx
      omega
    have := pigeon n _ h1 h2
    have h3 := List.length_erase (a := n) (l := l)
    split at h3 <;> omega
noncomputable def chainGo (code : List Row) (cls : List Cl) (i goal : Nat) : Nat → List Nat → Nat → Nat
  | 0, _, _ => goal
  | f + 1, seen, at_ => match code[at_]? with
    | some r => if r.op = 56 ∧ regionKey cls at_ = regionKey cls i then (if at_ ∈ seen then goal else chainGo code cls i goal f (seen ++ [at_]) r.arg.goal) else at_
    | none => goal
noncomputable def chainEnd (code : List Row) (cls : List Cl) (i goal : Nat) : Nat := chainGo code cls i goal (code.length + 2) [] goal
noncomputable def threadRow (code : List Row) (cls : List Cl) (i : Nat) (r : Row) : Row :=
  if r.op = 69 then ⟨r.op, .many (r.arg.goals.map (chainEnd code cls i))⟩ else if isBr r.op = true ∧ r.op ≠ 221 then ⟨r.op, .one (chainEnd code cls i r.arg.goal)⟩ else r
noncomputable def isEdge (cls : List Cl) (i : Nat) : Bool := cls.any fun c => decide (i ∈ c.edges)

end
set_option hygiene false
local macro_rules | `(tactic| walk_at "vcd") => `(tactic| dsimp only [add_n2])
local macro_rules | `(tactic| walk_at "vcf") => `(tactic| simp -implicitDefEqProofs only [eq_nt])
set_option hygiene true
section


section
variable {prog : Program} {w : World} {base : Heap} {mg mb : Str → Option Value} {tab : Int → Option Int}

theorem c_drop_dead (Γ : Gd prog w base mg mb tab) {k : Nat} {code : List Row} {cls : List Cl} (hc : CodeOK code) (hl : ClsOK code.length cls) (h0 : 0 < code.length) {σ : Store} {Q : KV}
    (h : ∀ fl : List Bool, fl.length = code.length → (∀ i : Nat, fl[i]? = some true ↔ Reach code cls i) → Q (.d (keepT (closeF code (livesOf fl cls) fl) code (livesOf fl cls))) σ) :
    CallOK prog w base mg (k + 1 + 1 + 1 + 1 + 1) "drop_dead" [.d (eRows code), .d (eCls cls)] σ Q := by
  have hn := hc.len
  have hcl := hl.len
  refine call_drop_dead Γ rfl ?_
  simp only [ir_drop_dead]
  refine seq_step (ρ' := [some (.d (eRows code)), some (.d (eCls cls)), none, none, none, none]) (σ' := σ) (fun K hK => ?_) ?_
  · walk_at "st"
    exact c_check_edges Γ hc hl hK
  refine seq_step (ρ' := [some (.d (eRows code)), some (.d (eCls cls)), some (.d (eCls cls)), none, none, none]) (σ' := σ) (fun K hK => ?_) ?_
  · walk_at "st"
    have hfe : cls.filter (fun c => decide (c.h0 < c.h1)) = cls := filter_all fun c hm => by simpa using (hl.each c hm).h0
    refine ⟨lim_of (by omega), compV_filter (enc := eCl) (g := eCl) (p := fun c => decide (c.h0 < c.h1)) cls [] σ _ (fun c _ K hK => ?_) (fun c _ _ K hK => ?_) ?_⟩
    · walk_at "vc"; exact hK
    · walk_at "vc"; exact hK
    · rw [hfe]; exact hK
  refine seq_cut (fun f ρ σ' => f = .next ∧ ∃ fl : List Bool, fl.length = code.length ∧ (∀ i : Nat, fl[i]? = some true ↔ Reach code cls i) ∧ ρ = [some (.d (eRows code)), some (.d (eCls cls)), some (.d (eCls cls)), some (.l σ.length), none, none] ∧ σ' = σ ++ [some (fl.map .bool), some []]) CallOK.mono ?_ ?_
  · walk_at "st"
    exact c_reachable Γ hc hl h0 fun fl h1 h2 => by walk_at "vc"; exact ⟨fl, h1, h2, rfl⟩
  rintro f ρ σ' ⟨rfl, fl, hfl, hr, rfl, rfl⟩
  have h := h fl hfl hr
  walk_at "vc"
  refine seq_step (ρ' := [some (.d (eRows code)), some (.d (eCls cls)), some (.d (eCls cls)), some (.l σ.length), some (.l (σ.length + 2)), none]) (σ' := σ ++ [some (fl.map .bool), some [], some []]) (fun K hK => ?_) ?_
  · walk_at "st"; exact hK
  have hpc : ∀ c ∈ livesOf fl cls, c ∈ cls := fun c hm => (List.mem_filter.mp hm).1
  refine seq_cut (fun f ρ σ' => f = .next ∧ ∃ d, ρ = [some (.d (eRows code)), some (.d (eCls cls)), some (.d (eCls cls)), some (.l σ.length), some (.l (σ.length + 2)), d] ∧ σ' = σ ++ [some (fl.map .bool), some [], some ((livesOf fl cls).map eCl)]) CallOK.mono ?_ ?_
  · refine loop_i (xs := cls.map eCl) (σ' := σ ++ [some (fl.map .bool), some [], some []]) (fun K hK => ?_) ?_
    · walk_at "vc"; exact hK
    · refine forV_ind (enc := eCl) CallOK.mono (fun l ρ σ' => ∃ (d : Option V) (dn : List Cl), dn ++ l = cls ∧ ρ = [some (.d (eRows code)), some (.d (eCls cls)), some (.d (eCls cls)), some (.l σ.length), some (.l (σ.length + 2)), d] ∧ σ' = σ ++ [some (fl.map .bool), some [], some ((livesOf fl dn).map eCl)]) ?_ ?_ _ _ _ ⟨none, [], rfl, rfl, rfl⟩
      · rintro c l ρ _ ⟨d, dn, hdn, rfl, rfl⟩
        have hdl : dn.length ≤ 3 := by
          have : dn.length + (c :: l).length = cls.length := by rw [← List.length_append, hdn]
          omega
        have hcm : c ∈ cls := by rw [← hdn]; simp
        obtain ⟨o, ho⟩ : ∃ o, o = (livesOf fl dn).map eCl := ⟨_, rfl⟩
        rw [← ho]
        have hol : o.length ≤ 3 := by rw [ho, List.length_map]; exact Nat.le_trans (List.length_filter_le _ _) hdl
        walk_at "vc"
        refine ite_i (σ' := σ ++ [some (fl.map .bool), some [], some o]) ((List.range' c.t0 (c.t1 - c.t0)).any fun i => fl[i]? == some true) (fun K hK => ?_) (fun ht => ?_) fun ht => ?_
        · walk_at "vc"
          refine c_clause_lives (n := code.length) (fl := fl) Γ (hl.each c hcm) (by omega) (by omega) (by walk_at "vc") ?_
          walk_at "vc"; exact hK
        · walk_at "st"
          refine ⟨lim_lt_of (by omega), _, dn ++ [c], by simpa using hdn, rfl, ?_⟩
          rw [ho]; unfold livesOf; rw [List.filter_append, List.filter_cons_of_pos (by exact ht)]; simp
        · refine skip_i ⟨_, dn ++ [c], by simpa using hdn, rfl, ?_⟩
          rw [ho]; unfold livesOf; rw [List.filter_append, List.filter_cons_of_neg (by simp [ht])]; simp
      · rintro ρ _ ⟨d, dn, hdn, rfl, rfl⟩
        rw [List.append_nil] at hdn
        subst hdn
        exact ⟨rfl, d, rfl, rfl⟩
  rintro f ρ σ' ⟨rfl, d, rfl, rfl⟩
  walk_at "vc"
  refine seq_step (ρ' := [some (.d (eRows code)), some (.d (eCls cls)), some (.d (eCls cls)), some (.l σ.length), some (.d (eCls (livesOf fl cls))), frzO (σ.length + 2) ((livesOf fl cls).map eCl) d]) (σ' := σ ++ [some (fl.map .bool), some [], none]) (fun K hK => ?_) ?_
  · walk_at "st"
    rw [frzO_ne _ (by omega)]; exact hK
  have hllen : (livesOf fl cls).length ≤ 3 := Nat.le_trans (List.length_filter_le _ _) hcl
  refine seq_cut (fun f ρ σ' => f = .next ∧ ∃ d, ρ = [some (.d (eRows code)), some (.d (eCls cls)), some (.d (eCls cls)), some (.l σ.length), some (.d (eCls (livesOf fl cls))), d] ∧ σ' = σ ++ [some ((closeF code (livesOf fl cls) fl).map .bool), some [], none]) CallOK.mono ?_ ?_
  · refine loop_i (xs := (livesOf fl cls).map eCl) (σ' := σ ++ [some (fl.map .bool), some [], none]) (fun K hK => ?_) ?_
    · walk_at "vc"; exact hK
    · refine forV_ind (enc := eCl) CallOK.mono (fun l ρ σ' => ∃ (d : Option V) (dn : List Cl), dn ++ l = livesOf fl cls ∧ ρ = [some (.d (eRows code)), some (.d (eCls cls)), some (.d (eCls cls)), some (.l σ.length), some (.d (eCls (livesOf fl cls))), d] ∧ σ' = σ ++ [some ((closeF code dn fl).map .bool), some [], none]) ?_ ?_ _ _ _ ⟨_, [], rfl, rfl, rfl⟩
      · rintro c l ρ _ ⟨d, dn, hdn, rfl, rfl⟩
        have hcm : c ∈ cls := hpc c (by rw [← hdn]; simp)
        have hck := hl.each c hcm
        have h1 := hck.h0
        have h2 := hck.h1
        have hfold : closeF code (dn ++ [c]) fl = if closes code c then (closeF code dn fl).set (c.h0 - 1) true else closeF code dn fl := by
          unfold closeF; rw [List.foldl_append]; rfl
        have hlen := closeF_len code dn fl
        obtain ⟨f1, hf1⟩ : ∃ f1, f1 = closeF code dn fl := ⟨_, rfl⟩
        rw [← hf1] at hlen hfold ⊢
        obtain ⟨r, er⟩ : ∃ r, code[c.h0 - 1]? = some r := ⟨_, List.getElem?_eq_getElem (by omega)⟩
        walk_at "vc"
        refine ite_i (σ' := σ ++ [some (f1.map .bool), some [], none]) (closes code c) (fun K hK => ?_) (fun ht => ?_) fun ht => ?_
        · walk_at "vc"
          unfold closes at hK
          rw [er] at hK
          by_cases hs : c.sort = 1
          · simp only [hs, decide_true, if_true, beq_self_eq_true, Bool.true_and] at hK ⊢
            by_cases hp : 0 < c.h0
            · simp only [hp, decide_true, if_true, Bool.true_and] at hK ⊢
              rw [sub_n1 _ hp]
              walk_at "vc"
              rw [er]
              walk_at "vc"
              exact hK
            · simp only [hp, decide_false, Bool.false_eq_true, if_false, Bool.false_and] at hK ⊢
              exact hK
          · simp only [hs, decide_false, Bool.false_eq_true, if_false] at hK ⊢
            rw [show (c.sort == 1) = false by simpa using hs] at hK
            exact hK
        · have hp : 0 < c.h0 := by
            unfold closes at ht; simp at ht; omega
          walk_at "st"
          rw [sub_n1 _ hp]
          walk_at "vc"
          refine ⟨by omega, by omega, _, dn ++ [c], by simpa using hdn, rfl, ?_⟩
          rw [hfold, ht, if_pos rfl, List.map_set]; rfl
        · refine skip_i ⟨_, dn ++ [c], by simpa using hdn, rfl, ?_⟩
          rw [hfold, ht]; rfl
      · rintro ρ _ ⟨d, dn, hdn, rfl, rfl⟩
        rw [List.append_nil] at hdn
        subst hdn
        exact ⟨rfl, d, rfl, rfl⟩
  rintro f ρ σ' ⟨rfl, d2, rfl, rfl⟩
  walk_at "vc"
  walk_at "step"
  refine ret_i (v := .d (keepT (closeF code (livesOf fl cls) fl) code (livesOf fl cls))) (σ' := σ ++ [none, some [], none]) (fun K hK => ?_) ?_
  · walk_at "vc"
    refine c_keep_only Γ hc ⟨fun c hm => hl.each c (hpc c hm), hllen⟩ (by rw [closeF_len, hfl]) ?_
    exact hK
  · simp only [RetQ, take_app]
    exact h
end

end
section


section
variable {prog : Program} {w : World} {base : Heap} {mg mb : Str → Option Value} {tab : Int → Option Int}

theorem c_region_key (Γ : Gd prog w base mg mb tab) {k i : Nat} {cls : List Cl} (hl : cls.length ≤ 3) {σ : Store} {Q : KV} (h : Q (.d (.tuple ((regionKey cls i).map eN))) σ) :
    CallOK prog w base mg (k + 1) "region_key" [.d (eCls cls), .d (eN i)] σ Q := by
  refine call_region_key Γ rfl ?_
  simp only [ir_region_key]
  walk_at "step"
  refine seq_cut (fun f ρ σ' => f = .next ∧ ∃ a b, ρ = [some (.d (eCls cls)), some (.d (eN i)), some (.l σ.length), a, b] ∧ σ' = σ ++ [some ((regionKey cls i).map eN)]) CallOK.mono ?_ ?_
  · refine loop_i (xs := (List.range cls.length).map eN) (σ' := σ ++ [some []]) (fun K hK => ?_) ?_
    · walk_at "vc"
      exact rng_ok (by omega) hK
    · refine forV_ind (enc := eN) CallOK.mono (fun l ρ σ' => ∃ (a b : Option V) (dn : List Nat), dn ++ l = List.range cls.length ∧ ρ = [some (.d (eCls cls)), some (.d (eN i)), some (.l σ.length), a, b] ∧ σ' = σ ++ [some ((dn.flatMap (rkOne cls i)).map eN)]) ?_ ?_ _ _ _ ⟨none, none, [], rfl, rfl, rfl⟩
      · rintro p l ρ _ ⟨a, b, dn, hdn, rfl, rfl⟩
        have hp : p < cls.length := by
          have : p ∈ List.range cls.length := by rw [← hdn]; simp
          exact List.mem_range.mp this
        have hdl : dn.length ≤ 3 := by
          have : dn.length + (p :: l).length = cls.length := by rw [← List.length_append, hdn, List.length_range]
          omega
        obtain ⟨c, ec⟩ : ∃ c, cls[p]? = some c := ⟨_, List.getElem?_eq_getElem hp⟩
        have ho := flatMap_len cls i dn
        obtain ⟨o, eo⟩ : ∃ o, o = dn.flatMap (rkOne cls i) := ⟨_, rfl⟩
        rw [← eo] at ho ⊢
        walk_at "vc"
        refine seq_step (ρ' := [some (.d (eCls cls)), some (.d (eN i)), some (.l σ.length), some (.d (eN p)), some (.d (eCl c))]) (σ' := σ ++ [some (o.map eN)]) (fun K hK => ?_) ?_
        · walk_at "st"; rw [ec]; exact hK
        refine seq_cut (fun f ρ σ' => f = .next ∧ ρ = [some (.d (eCls cls)), some (.d (eN i)), some (.l σ.length), some (.d (eN p)), some (.d (eCl c))] ∧ σ' = σ ++ [some ((o ++ (if c.inT i then [3 * p] else [])).map eN)]) CallOK.mono ?_ ?_
        · refine ite_i (σ' := σ ++ [some (o.map eN)]) (decide (c.inT i)) (fun K hK => ?_) (fun ht => ?_) fun ht => ?_
          · walk_at "vc"
            unfold Cl.inT at hK
            by_cases h1 : c.t0 ≤ i
            · by_cases h2 : i < c.t1
              · simpa [h1, h2] using hK
              · simpa [h1, h2] using hK
            · simpa [h1] using hK
          · walk_at "st"
            rw [mul3 _ (by omega)]
            walk_at "vc"
            refine ⟨lim_lt_of (by omega), ?_⟩
            rw [if_pos (by simpa using ht)]; simp
          · refine skip_i ⟨rfl, rfl, ?_⟩
            rw [if_neg (by simpa using ht)]; simp
        rintro f ρ σ' ⟨rfl, rfl, rfl⟩
        obtain ⟨o1, eo1⟩ : ∃ o1, o1 = o ++ (if c.inT i then [3 * p] else []) := ⟨_, rfl⟩
        have ho1 : o1.length ≤ 10 := by rw [eo1, List.length_append]; split <;> simp <;> omega
        rw [← eo1]
        walk_at "vc"
        refine seq_cut (fun f ρ σ' => f = .next ∧ ρ = [some (.d (eCls cls)), some (.d (eN i)), some (.l σ.length), some (.d (eN p)), some (.d (eCl c))] ∧ σ' = σ ++ [some ((o1 ++ (if c.sort = 1 ∧ c.ex ≤ i ∧ i < c.h0 then [3 * p + 1] else [])).map eN)]) CallOK.mono ?_ ?_
        · refine ite_i (σ' := σ ++ [some (o1.map eN)]) (decide (c.sort = 1 ∧ c.ex ≤ i ∧ i < c.h0)) (fun K hK => ?_) (fun ht => ?_) fun ht => ?_
          · walk_at "vc"
            by_cases h0 : c.sort = 1
            · by_cases h1 : c.ex ≤ i
              · by_cases h2 : i < c.h0
                · simpa [h0, h1, h2] using hK
                · simpa [h0, h1, h2] using hK
              · simpa [h0, h1] using hK
            · simpa [h0] using hK
          · walk_at "st"
            rw [mul3 _ (by omega)]
            walk_at "vc"
            refine ⟨lim_lt_of (by omega), ?_⟩
            rw [if_pos (by simpa using ht)]; simp
          · refine skip_i ⟨rfl, rfl, ?_⟩
            rw [if_neg (by simpa using ht)]; simp
        rintro f ρ σ' ⟨rfl, rfl, rfl⟩
        obtain ⟨o2, eo2⟩ : ∃ o2, o2 = o1 ++ (if c.sort = 1 ∧ c.ex ≤ i ∧ i < c.h0 then [3 * p + 1] else []) := ⟨_, rfl⟩
        have ho2 : o2.length ≤ 11 := by rw [eo2, List.length_append]; split <;> simp <;> omega
        have hfin : (dn ++ [p]).flatMap (rkOne cls i) = o2 ++ (if c.h0 ≤ i ∧ i < c.h1 then [3 * p + 2] else []) := by
          rw [List.flatMap_append, List.flatMap_cons, List.flatMap_nil, List.append_nil, eo2, eo1, eo]
          unfold rkOne; rw [ec]; unfold rkAt; simp
        rw [← eo2]
        walk_at "vc"
        refine ite_i (σ' := σ ++ [some (o2.map eN)]) (decide (c.h0 ≤ i ∧ i < c.h1)) (fun K hK => ?_) (fun ht => ?_) fun ht => ?_
        · walk_at "vc"
          by_cases h1 : c.h0 ≤ i
          · by_cases h2 : i < c.h1
            · simpa [h1, h2] using hK
            · simpa [h1, h2] using hK
          · simpa [h1] using hK
        · walk_at "st"
          rw [mul3 _ (by omega)]
          walk_at "vc"
          refine ⟨lim_lt_of (by omega), _, _, dn ++ [p], by simpa using hdn, rfl, ?_⟩
          rw [hfin, if_pos (by simpa using ht)]; simp
        · refine skip_i ⟨_, _, dn ++ [p], by simpa using hdn, rfl, ?_⟩
          rw [hfin, if_neg (by simpa using ht)]; simp
      · rintro ρ _ ⟨a, b, dn, hdn, rfl, rfl⟩
        rw [List.append_nil] at hdn
        subst hdn
        exact ⟨rfl, a, b, rfl, rfl⟩
  rintro f ρ σ' ⟨rfl, a, b, rfl, rfl⟩
  walk_at "vc"
  walk_at "ret"
  simp only [RetQ, take_app]
  exact h

theorem c_checked_goal (Γ : Gd prog w base mg mb tab) {k i g : Nat} {code : List Row} (hg : g < code.length) {V : V} {σ : Store} (hV : rdV σ V = some (eRows code)) {Q : KV} (h : Q (.d (eN g)) σ) :
    CallOK prog w base mg (k + 1) "checked_goal" [V, .d (eN i), .d (eN g)] σ Q := by
  refine call_checked_goal Γ rfl ?_
  simp only [ir_checked_goal]
  refine seq_ite (σ' := σ) false (fun K hK => ?_) (fun ht => by cases ht) fun _ => seq_skip ?_
  · walk_at "vc"
    rw [hV]
    walk_at "vc"
    rw [show decide (code.length ≤ g) = false by simp; exact hg]
    exact hK
  walk_at "ret"
  simp only [RetQ, List.take_length]
  exact h

theorem c_is_edge (Γ : Gd prog w base mg mb tab) {k i : Nat} {cls : List Cl} {σ : Store} {Q : KV} (h : Q (.d (.bool (isEdge cls i))) σ) :
    CallOK prog w base mg (k + 1 + 1) "is_edge" [.d (eCls cls), .d (eN i)] σ Q := by
  refine call_is_edge Γ rfl ?_
  simp only [ir_is_edge]
  refine seq_cut (fun f ρ σ' => σ' = σ ∧ ((f = .ret (.d (.bool true)) ∧ isEdge cls i = true) ∨ (f = .next ∧ isEdge cls i = false))) CallOK.mono ?_ ?_
  · refine loop_i (xs := cls.map eCl) (σ' := σ) (fun K hK => ?_) ?_
    · walk_at "vc"; exact hK
    · refine forV_ind (enc := eCl) CallOK.mono (fun l ρ σ' => σ = σ' ∧ ∃ (d : Option V) (dn : List Cl), dn ++ l = cls ∧ isEdge dn i = false ∧ ρ = [some (.d (eCls cls)), some (.d (eN i)), d]) ?_ ?_ _ _ _ ⟨rfl, none, [], rfl, rfl, rfl⟩
      · rintro c l ρ _ ⟨rfl, d, dn, hdn, hany, rfl⟩
        walk_at "vc"
        refine ite_i (σ' := σ) (decide (i ∈ c.edges)) (fun K hK => ?_) (fun ht => ?_) fun ht => ?_
        · walk_at "vc"
          exact c_clause_edges Γ (by walk_at "vc"; exact hK)
        · walk_at "st"
          refine .inl ?_
          rw [← hdn]; unfold isEdge; rw [List.any_append, List.any_cons, ht]; simp
        · refine skip_i ⟨rfl, _, dn ++ [c], by simpa using hdn, ?_, rfl⟩
          unfold isEdge at hany ⊢
          rw [List.any_append, hany, List.any_cons, ht]; rfl
      · rintro ρ _ ⟨rfl, d, dn, hdn, hany, rfl⟩
        rw [List.append_nil] at hdn
        subst hdn
        exact ⟨rfl, .inr ⟨rfl, hany⟩⟩
  · rintro f ρ σ' ⟨rfl, ⟨rfl, ha'⟩ | ⟨rfl, ha'⟩⟩
    · simp only [flK_ret, RetQ, List.take_length]
      rw [ha'] at h; exact h
    · simp only [flK_next]
      walk_at "ret"
      simp only [RetQ, List.take_length]
      rw [ha'] at h; exact h

theorem c_chain_end (Γ : Gd prog w base mg mb tab) {k i g : Nat} {code : List Row} {cls : List Cl} (hc : CodeOK code) (hl : cls.length ≤ 3) (hg : g < code.length) {σ : Store} {Q : KV} (h : Q (.d (eN (chainEnd code cls i g))) σ) :
    CallOK prog w base mg (k + 1 + 1) "chain_end" [.d (eRows code), .d (eCls cls), .d (eN i), .d (eN g)] σ Q := by
  have hn := hc.len
  refine call_chain_end Γ rfl ?_
  simp only [ir_chain_end]
  refine seq_step (ρ' := [some (.d (eRows code)), some (.d (eCls cls)), some (.d (eN i)), some (.d (eN g)), some (.d (.tuple ((regionKey cls i).map eN))), none, none]) (σ' := σ) (fun K hK => ?_) ?_
  · walk_at "st"; exact c_region_key Γ hl hK
  walk_at "step"
  refine seq_step (ρ' := [some (.d (eRows code)), some (.d (eCls cls)), some (.d (eN i)), some (.d (eN g)), some (.d (.tuple ((regionKey cls i).map eN))), some (.l σ.length), some (.d (eN g))]) (σ' := σ ++ [some []]) (fun K hK => ?_) ?_
  · walk_at "st"; exact c_checked_goal Γ hg rfl hK
  refine seq_cut (fun f ρ σ' => ∃ sn : List Nat, σ' = σ ++ [some (sn.map eN)] ∧ ((f = .ret (.d (eN (chainEnd code cls i g)))) ∨ (f = .next ∧ ρ = [some (.d (eRows code)), some (.d (eCls cls)), some (.d (eN i)), some (.d (eN g)), some (.d (.tuple ((regionKey cls i).map eN))), some (.l σ.length), some (.d (eN (chainEnd code cls i g)))]))) CallOK.mono ?_ ?_
  · refine while_i CallOK.mono (fun m ρ σ' => ∃ (sn : List Nat) (a : Nat), sn.Nodup ∧ (∀ x ∈ sn, x < code.length) ∧ a < code.length ∧ chainGo code cls i g (code.length + 2 - sn.length) sn a = chainEnd code cls i g ∧ code.length + 1 ≤ m + sn.length ∧
      ρ = [some (.d (eRows code)), some (.d (eCls cls)), some (.d (eN i)), some (.d (eN g)), some (.d (.tuple ((regionKey cls i).map eN))), some (.l σ.length), some (.d (eN a))] ∧ σ' = σ ++ [some (sn.map eN)]) ?_ (code.length + 1) _ _ ⟨[], g, by simp, by simp, hg, rfl, by simp, rfl, rfl⟩
    rintro m ρ _ ⟨sn, a, hnd, hlt, ha, hgo, hm, rfl, rfl⟩
    have hsn := pigeon _ _ hnd hlt
    obtain ⟨r, er⟩ : ∃ r, code[a]? = some r := ⟨_, List.getElem?_eq_getElem ha⟩
    have hr := hc.rows r (List.mem_of_getElem? er)
    rw [show code.length + 2 - sn.length = (code.length + 1 - sn.length) + 1 by omega, chainGo, er] at hgo
    simp only at hgo
    walk_at "vc"
    rw [er]
    walk_at "vc"
    by_cases h56 : r.op = 56
    · rw [if_pos (by simpa using h56)]
      refine c_region_key Γ hl ?_
      walk_at "vc"
      by_cases hk : regionKey cls a = regionKey cls i
      · rw [if_pos (by simpa using hk)]
        rw [if_pos ⟨h56, hk⟩] at hgo
        obtain ⟨g', eg⟩ := hr.one (by omega)
        have hg' : g' < code.length := hr.tg g' (by rw [targets_br (by rw [h56]; rfl) eg]; simp)
        refine seq_ite (σ' := σ ++ [some (sn.map eN)]) (decide (a ∈ sn)) (fun K hK => ?_) (fun ht => ?_) fun ht => seq_skip ?_
        · walk_at "vc"; exact hK
        · rw [if_pos (by simpa using ht)] at hgo
          refine seq_ret ?_ CallOK.mono
          walk_at "ret"
          walk_at "vc"
          exact ⟨sn, rfl, .inl (congrArg (fun x => Fl.ret (.d (eN x))) hgo)⟩
        · have hns : a ∉ sn := by simpa using ht
          rw [if_neg hns, eg] at hgo
          refine seq_step (ρ' := [some (.d (eRows code)), some (.d (eCls cls)), some (.d (eN i)), some (.d (eN g)), some (.d (.tuple ((regionKey cls i).map eN))), some (.l σ.length), some (.d (eN a))]) (σ' := σ ++ [some ((sn ++ [a]).map eN)]) (fun K hK => ?_) ?_
          · walk_at "st"; refine ⟨lim_lt_of (by omega), ?_⟩
            rw [List.map_append] at hK; exact hK
          walk_at "st"
          rw [er]
          walk_at "vc"
          rw [eg]
          refine c_checked_goal Γ hg' rfl ?_
          refine ⟨m - 1, ?_, sn ++ [a], g', ?_, ?_, hg', ?_, ?_, rfl, ?_⟩
          · omega
          · rw [List.nodup_append]; exact ⟨hnd, by simp, fun x hx y hy => by simp at hy; subst hy; rintro rfl; exact hns hx⟩
          · intro x hx
            rcases List.mem_append.mp hx with q | q
            · exact hlt x q
            · rw [List.mem_singleton.mp q]; exact ha
          · rw [List.length_append, List.length_singleton, show code.length + 2 - (sn.length + 1) = code.length + 1 - sn.length by omega]; exact hgo
          · simp only [List.length_append, List.length_singleton]; omega
          · rfl
      · rw [if_neg (by simpa using hk)]
        rw [if_neg (fun z => hk z.2)] at hgo
        refine ⟨sn, rfl, .inr ?_⟩
        rw [hgo]
    · rw [if_neg (by simpa using h56)]
      rw [if_neg (fun z => h56 z.1)] at hgo
      refine ⟨sn, rfl, .inr ?_⟩
      rw [hgo]
  · rintro f ρ σ' ⟨sn, rfl, rfl | ⟨rfl, rfl⟩⟩
    · simp only [flK_ret, RetQ, take_app]; exact h
    · simp only [flK_next]
      walk_at "ret"
      simp only [RetQ, take_app]; exact h
end

end
section
theorem chainGo_lt {code : List Row} {cls : List Cl} {i goal : Nat} (hc : CodeOK code) (hg : goal < code.length) : ∀ (f : Nat) (seen : List Nat) (a : Nat), a < code.length → chainGo code cls i goal f seen a < code.length
  | 0, _, _, _ => hg
  | f + 1, seen, a, ha => by
    obtain ⟨r, er⟩ : ∃ r, code[a]? = some r := ⟨_, List.getElem?_eq_getElem ha⟩
    have hr := hc.rows r (List.mem_of_getElem? er)
    rw [chainGo, er]
    simp only
    split
    · rename_i h
      split
      · exact hg
      · obtain ⟨g', eg⟩ := hr.one (by omega)
        have hg' : g' < code.length := hr.tg g' (by rw [targets_br (by rw [h.1]; rfl) eg]; simp)
        rw [eg]
        exact chainGo_lt hc hg f _ _ hg'
    · exact ha
theorem chainEnd_lt {code : List Row} {cls : List Cl} {i g : Nat} (hc : CodeOK code) (hg : g < code.length) : chainEnd code cls i g < code.length := chainGo_lt hc hg _ _ _ hg
theorem thread_69 {code : List Row} {cls : List Cl} {i : Nat} {r : Row} {gs : List Nat} (h : r.op = 69) (e : r.arg = .many gs) : threadRow code cls i r = ⟨r.op, .many (gs.map (chainEnd code cls i))⟩ := by
  unfold threadRow; rw [if_pos h, e]; rfl
theorem thread_br {code : List Row} {cls : List Cl} {i : Nat} {r : Row} {g : Nat} (h : isBr r.op = true) (h' : r.op ≠ 221) (e : r.arg = .one g) : threadRow code cls i r = ⟨r.op, .one (chainEnd code cls i g)⟩ := by
  unfold threadRow; rw [if_neg (isBr_not69 h), if_pos ⟨h, h'⟩, e]; rfl
theorem thread_no {code : List Row} {cls : List Cl} {i : Nat} {r : Row} (h : r.op ≠ 69) (h' : ¬(isBr r.op = true ∧ r.op ≠ 221)) : threadRow code cls i r = r := by
  unfold threadRow; rw [if_neg h, if_neg h']
theorem threadRow_op (code : List Row) (cls : List Cl) (i : Nat) (r : Row) : (threadRow code cls i r).op = r.op := by
  unfold threadRow; split
  · rfl
  · split <;> rfl
noncomputable def thrAt (code : List Row) (cls : List Cl) (i : Nat) : Row := match code[i]? with | some r => threadRow code cls i r | none => ⟨0, .one 0⟩
noncomputable def threadRows (code : List Row) (cls : List Cl) : List Row := (List.range code.length).map (thrAt code cls)
theorem threadRows_len (code : List Row) (cls : List Cl) : (threadRows code cls).length = code.length := by simp [threadRows]
theorem thrAt_some {code : List Row} {cls : List Cl} {i : Nat} {r : Row} (h : code[i]? = some r) : thrAt code cls i = threadRow code cls i r := by unfold thrAt; rw [h]
theorem threadRows_get {code : List Row} {cls : List Cl} {i : Nat} {r : Row} (h : code[i]? = some r) : (threadRows code cls)[i]? = some (threadRow code cls i r) := by
  obtain ⟨hi, _⟩ := List.getElem?_eq_some_iff.mp h
  unfold threadRows; rw [List.getElem?_map, List.getElem?_range hi, Option.map_some, thrAt_some h]
theorem threadRow_ok {code : List Row} {cls : List Cl} {i : Nat} {r : Row} (hc : CodeOK code) (hr : RowOK code.length r) : RowOK code.length (threadRow code cls i r) := by
  by_cases h : r.op = 69
  · obtain ⟨gs, e, hg⟩ := hr.many h
    rw [thread_69 h e]
    refine ⟨hr.ops, fun _ => ⟨_, rfl, by simpa using hg⟩, fun z => absurd h z, fun g hm => ?_⟩
    rw [targets_69 (r := ⟨r.op, .many (gs.map (chainEnd code cls i))⟩) h rfl] at hm
    obtain ⟨x, hx, rfl⟩ := List.mem_map.mp hm
    exact chainEnd_lt hc (hr.tg x (by rw [targets_69 h e]; exact hx))
  · by_cases h' : isBr r.op = true ∧ r.op ≠ 221
    · obtain ⟨g, e⟩ := hr.one h
      rw [thread_br h'.1 h'.2 e]
      refine ⟨hr.ops, fun z => absurd z h, fun _ => ⟨_, rfl⟩, fun x hm => ?_⟩
      rw [targets_br (r := ⟨r.op, .one (chainEnd code cls i g)⟩) h'.1 rfl, List.mem_singleton] at hm
      rw [hm]
      exact chainEnd_lt hc (hr.tg g (by rw [targets_br h'.1 e]; simp))
    · rw [thread_no h h']; exact hr
theorem threadRows_ok {code : List Row} {cls : List Cl} (hc : CodeOK code) : CodeOK (threadRows code cls) := by
  refine ⟨fun r hm => ?_, by rw [threadRows_len]; exact hc.len⟩
  rw [threadRows_len]
  unfold threadRows at hm
  obtain ⟨i, hi, rfl⟩ := List.mem_map.mp hm
  have hi := List.mem_range.mp hi
  obtain ⟨r, er⟩ : ∃ r, code[i]? = some r := ⟨_, List.getElem?_eq_getElem hi⟩
  rw [thrAt_some er]
  exact threadRow_ok hc (hc.rows r (List.mem_of_getElem? er))
noncomputable def idleAt (rows : List Row) (i : Nat) : Bool := match rows[i]? with | some r => r.op == 56 && decide (r.arg.goal = i + 1) && decide (i + 1 < rows.length) | none => false
theorem idleAt_some {rows : List Row} {i : Nat} {r : Row} (h : rows[i]? = some r) : idleAt rows i = (r.op == 56 && decide (r.arg.goal = i + 1) && decide (i + 1 < rows.length)) := by unfold idleAt; rw [h]
noncomputable def keptAt (rows : List Row) (cls : List Cl) (i : Nat) : Bool := !idleAt rows i || (isEdge cls i || isEdge cls (i + 1))
noncomputable def keptF (rows : List Row) (cls : List Cl) : List Bool := (List.range rows.length).map (keptAt rows cls)
noncomputable def roundF (code : List Row) (cls : List Cl) : List Bool := keptF (threadRows code cls) cls
noncomputable def roundC (code : List Row) (cls : List Cl) : List Row := keepRows (roundF code cls) (threadRows code cls)
noncomputable def roundL (code : List Row) (cls : List Cl) : List Cl := cls.map (moveCl (plc (roundF code cls)))
theorem roundF_len (code : List Row) (cls : List Cl) : (roundF code cls).length = code.length := by simp [roundF, keptF, threadRows_len]
theorem roundC_len (code : List Row) (cls : List Cl) : (roundC code cls).length ≤ code.length := by
  unfold roundC; rw [keepRows_eq]
  refine Nat.le_trans (List.length_filterMap_le _ _) ?_
  rw [List.length_range, threadRows_len]; exact Nat.le_refl _




section
variable {prog : Program} {w : World} {base : Heap} {mg mb : Str → Option Value} {tab : Int → Option Int}

theorem c_thread_one (Γ : Gd prog w base mg mb tab) {k i : Nat} {code : List Row} {cls : List Cl} (hc : CodeOK code) (hl : cls.length ≤ 3) {r : Row} (er : code[i]? = some r) {σ : Store} {Q : KV} (h : Q (.d (eRow (threadRow code cls i r))) σ) :
    CallOK prog w base mg (k + 1 + 1 + 1) "thread_one" [.d (eRows code), .d (eCls cls), .d (eN i)] σ Q := by
  have hr := hc.rows r (List.mem_of_getElem? er)
  refine call_thread_one Γ rfl ?_
  simp only [ir_thread_one]
  refine seq_step (ρ' := [some (.d (eRows code)), some (.d (eCls cls)), some (.d (eN i)), some (.d (eRow r)), none, none]) (σ' := σ) (fun K hK => ?_) ?_
  · walk_at "st"; rw [er]; exact hK
  refine seq_ite (σ' := σ) (decide (r.op = 69)) (fun K hK => ?_) (fun ht => ?_) fun ht => seq_skip ?_
  · walk_at "vc"; exact hK
  · have ht' : r.op = 69 := by simpa using ht
    obtain ⟨gs, e, hg⟩ := hr.many ht'
    have htg : ∀ g ∈ gs, g < code.length := fun g hm => hr.tg g (by rw [targets_69 ht' e]; exact hm)
    refine seq_assoc ?_ CallOK.mono
    walk_at "step"
    refine seq_assoc ?_ CallOK.mono
    refine seq_cut (fun f ρ σ' => f = .next ∧ ∃ d, ρ = [some (.d (eRows code)), some (.d (eCls cls)), some (.d (eN i)), some (.d (eRow r)), some (.l σ.length), d] ∧ σ' = σ ++ [some ((gs.map (chainEnd code cls i)).map eN)]) CallOK.mono ?_ ?_
    · refine loop_i (xs := gs.map eN) (σ' := σ ++ [some []]) (fun K hK => ?_) ?_
      · walk_at "vc"; rw [e]; exact hK
      · refine forV_ind (enc := eN) CallOK.mono (fun l ρ σ' => ∃ (d : Option V) (dn : List Nat), dn ++ l = gs ∧ ρ = [some (.d (eRows code)), some (.d (eCls cls)), some (.d (eN i)), some (.d (eRow r)), some (.l σ.length), d] ∧ σ' = σ ++ [some ((dn.map (chainEnd code cls i)).map eN)]) ?_ ?_ _ _ _ ⟨none, [], rfl, rfl, rfl⟩
        · rintro g l ρ _ ⟨d, dn, hdn, rfl, rfl⟩
          have hlen : dn.length < 3 := by have : dn.length + (g :: l).length ≤ 3 := by rw [← List.length_append, hdn]; exact hg
                                          simp only [List.length_cons] at this; omega
          have hgn := htg g (by rw [← hdn]; simp)
          walk_at "vc"
          walk_at "st"
          refine c_chain_end Γ hc hl hgn ?_
          walk_at "vc"
          refine ⟨lim_lt_of (by omega), _, dn ++ [g], by simpa using hdn, rfl, by simp⟩
        · rintro ρ _ ⟨d, dn, hdn, rfl, rfl⟩
          rw [List.append_nil] at hdn
          subst hdn
          exact ⟨rfl, d, rfl, rfl⟩
    · rintro f ρ σ' ⟨rfl, d, rfl, rfl⟩
      walk_at "vc"
      refine seq_ret ?_ CallOK.mono
      walk_at "ret"
      simp only [RetQ, take_app]
      rw [thread_69 ht' e] at h
      exact h
  · have ht' : r.op ≠ 69 := by simpa using ht
    obtain ⟨g, e⟩ := hr.one ht'
    refine seq_ite (σ' := σ) (isBr r.op && !decide (r.op = 221)) (fun K hK => ?_) (fun ht => ?_) fun ht => seq_skip ?_
    · walk_at "vc"
      refine c_is_branch Γ ?_
      walk_at "vc"
      cases hb : isBr r.op with
      | true => rw [hb] at hK; simpa using hK
      | false => rw [hb] at hK; simpa using hK
    · have ht : isBr r.op = true ∧ r.op ≠ 221 := by simpa using ht
      have hgn : g < code.length := hr.tg g (by rw [targets_br ht.1 e]; simp)
      refine seq_ret ?_ CallOK.mono
      refine ret_i (v := .d (eRow (threadRow code cls i r))) (σ' := σ) (fun K hK => ?_) ?_
      · walk_at "vc"
        rw [e]
        refine c_chain_end (g := g) Γ hc hl hgn ?_
        walk_at "vc"
        rw [thread_br ht.1 ht.2 e] at hK
        exact hK
      · simp only [RetQ, List.take_length]; exact h
    · have ht : ¬(isBr r.op = true ∧ r.op ≠ 221) := by
        rintro ⟨a, b⟩; simp [a, b] at ht
      rw [thread_no ht' ht] at h
      refine seq_ite (σ' := σ) (decide (r.op = 221)) (fun K hK => ?_) (fun ht => ?_) fun ht => seq_skip ?_
      · walk_at "vc"; exact hK
      · have ht : r.op = 221 := by simpa using ht
        have hgn : g < code.length := hr.tg g (by rw [targets_br (by rw [ht]; rfl) e]; simp)
        refine seq_step (ρ' := [some (.d (eRows code)), some (.d (eCls cls)), some (.d (eN i)), some (.d (eRow r)), none, none]) (σ' := σ) (fun K hK => ?_) ?_
        · walk_at "st"
          rw [e]
          exact c_checked_goal (g := g) Γ hgn rfl hK
        walk_at "ret"
        simp only [RetQ, List.take_length]; exact h
      · walk_at "ret"
        simp only [RetQ, List.take_length]; exact h

theorem c_thread_round (Γ : Gd prog w base mg mb tab) {k : Nat} {code : List Row} {cls : List Cl} (hc : CodeOK code) (hl : ClsOK code.length cls) {σ : Store} {Q : KV} (h : Q (.d (.tuple [eRows (roundC code cls), eCls (roundL code cls)])) σ) :
    CallOK prog w base mg (k + 1 + 1 + 1 + 1) "thread_round" [.d (eRows code), .d (eCls cls)] σ Q := by
  have hn := hc.len
  have hcl := hl.len
  refine call_thread_round Γ rfl ?_
  simp only [ir_thread_round]
  walk_at "step"
  refine seq_cut (fun f ρ σ' => f = .next ∧ ∃ d, ρ = [some (.d (eRows code)), some (.d (eCls cls)), some (.l σ.length), d, none, none, none] ∧ σ' = σ ++ [some ((threadRows code cls).map eRow)]) CallOK.mono ?_ ?_
  · refine loop_i (xs := (List.range code.length).map eN) (σ' := σ ++ [some []]) (fun K hK => ?_) ?_
    · walk_at "vc"
      exact rng_ok (by omega) hK
    · refine forV_ind (enc := eN) CallOK.mono (fun l ρ σ' => ∃ (d : Option V) (dn : List Nat), dn ++ l = List.range code.length ∧ ρ = [some (.d (eRows code)), some (.d (eCls cls)), some (.l σ.length), d, none, none, none] ∧ σ' = σ ++ [some ((dn.map (thrAt code cls)).map eRow)]) ?_ ?_ _ _ _ ⟨none, [], rfl, rfl, rfl⟩
      · rintro i l ρ _ ⟨d, dn, hdn, rfl, rfl⟩
        have hi : i < code.length := by
          have : i ∈ List.range code.length := by rw [← hdn]; simp
          exact List.mem_range.mp this
        have hdl : dn.length ≤ 18 := by
          have : dn.length + (i :: l).length = code.length := by rw [← List.length_append, hdn, List.length_range]
          omega
        obtain ⟨r, er⟩ : ∃ r, code[i]? = some r := ⟨_, List.getElem?_eq_getElem hi⟩
        walk_at "vc"
        walk_at "st"
        refine c_thread_one Γ hc hcl er ?_
        walk_at "vc"
        refine ⟨lim_lt_of (by omega), _, dn ++ [i], by simpa using hdn, rfl, ?_⟩
        rw [List.map_append, List.map_cons, thrAt_some er]; simp
      · rintro ρ _ ⟨d, dn, hdn, rfl, rfl⟩
        rw [List.append_nil] at hdn
        subst hdn
        exact ⟨rfl, d, rfl, rfl⟩
  rintro f ρ σ' ⟨rfl, d, rfl, rfl⟩
  walk_at "vc"
  walk_at "step"
  have htl := threadRows_len code cls
  have hto := threadRows_ok (cls := cls) hc
  obtain ⟨rows, erows⟩ : ∃ rows, rows = threadRows code cls := ⟨_, rfl⟩
  unfold roundC roundL roundF at h
  rw [← erows] at htl hto h ⊢
  refine seq_cut (fun f ρ σ' => f = .next ∧ ∃ d e, ρ = [some (.d (eRows code)), some (.d (eCls cls)), some (.l σ.length), d, some (.l (σ.length + 1)), e, none] ∧ σ' = σ ++ [some (rows.map eRow), some ((keptF rows cls).map .bool)]) CallOK.mono ?_ ?_
  · refine loop_i (xs := (List.range rows.length).map eN) (σ' := σ ++ [some (rows.map eRow), some []]) (fun K hK => ?_) ?_
    · walk_at "vc"
      exact rng_ok (by omega) hK
    · refine forV_ind (enc := eN) CallOK.mono (fun l ρ σ' => ∃ (d e : Option V) (dn : List Nat), dn ++ l = List.range rows.length ∧ ρ = [some (.d (eRows code)), some (.d (eCls cls)), some (.l σ.length), d, some (.l (σ.length + 1)), e, none] ∧ σ' = σ ++ [some (rows.map eRow), some ((dn.map (keptAt rows cls)).map .bool)]) ?_ ?_ _ _ _ ⟨d, none, [], rfl, rfl, rfl⟩
      · rintro i l ρ _ ⟨d, e, dn, hdn, rfl, rfl⟩
        have hi : i < rows.length := by
          have : i ∈ List.range rows.length := by rw [← hdn]; simp
          exact List.mem_range.mp this
        have hdl : dn.length ≤ 18 := by
          have : dn.length + (i :: l).length = rows.length := by rw [← List.length_append, hdn, List.length_range]
          omega
        obtain ⟨r, er⟩ : ∃ r, rows[i]? = some r := ⟨_, List.getElem?_eq_getElem hi⟩
        have hr := hto.rows r (List.mem_of_getElem? er)
        walk_at "vc"
        refine seq_step (ρ' := [some (.d (eRows code)), some (.d (eCls cls)), some (.l σ.length), some (.d (eN i)), some (.l (σ.length + 1)), some (.d (.bool (idleAt rows i))), none]) (σ' := σ ++ [some (rows.map eRow), some ((dn.map (keptAt rows cls)).map .bool)]) (fun K hK => ?_) ?_
        · walk_at "st"
          rw [List.getElem?_map, er]
          walk_at "vc"
          rw [idleAt_some er] at hK
          by_cases h56 : r.op = 56
          · obtain ⟨g, eg⟩ := hr.one (by omega)
            rw [if_pos (by simpa using h56), List.getElem?_map, er]
            walk_at "vc"
            rw [eg] at hK ⊢
            show ob (cmpP .eq (eN g) (eN (i + 1))) _
            rw [eq_nn]
            walk_at "vc"
            by_cases hgi : g = i + 1
            · rw [if_pos (decide_eq_true hgi)]
              rw [show (r.op == 56 && decide ((Arg.one g).goal = i + 1)) = true by simp [h56, hgi, Arg.goal], Bool.true_and] at hK
              exact hK
            · rw [if_neg (by simpa using hgi), decide_eq_false hgi]
              rw [show (r.op == 56 && decide ((Arg.one g).goal = i + 1)) = false by simp [hgi, Arg.goal], Bool.false_and] at hK
              exact hK
          · rw [if_neg (by simpa using h56), decide_eq_false h56]
            rw [show (r.op == 56) = false by simpa using h56, Bool.false_and, Bool.false_and] at hK
            exact hK
        have hk : keptAt rows cls i = (!idleAt rows i || (isEdge cls i || isEdge cls (i + 1))) := rfl
        obtain ⟨b, hb⟩ : ∃ b, b = idleAt rows i := ⟨_, rfl⟩
        rw [← hb] at hk ⊢
        cases b with
        | false =>
          walk_at "st"
          refine ⟨lim_lt_of (by omega), _, _, dn ++ [i], by simpa using hdn, rfl, ?_⟩
          rw [List.map_append, List.map_cons, hk]; simp
        | true =>
          walk_at "st"
          refine c_is_edge Γ ?_
          walk_at "vc"
          cases h1 : isEdge cls i with
          | true =>
            walk_at "vc"
            refine ⟨lim_lt_of (by omega), _, _, dn ++ [i], by simpa using hdn, rfl, ?_⟩
            rw [List.map_append, List.map_cons, hk, h1]; simp
          | false =>
            walk_at "vc"
            refine c_is_edge Γ ?_
            walk_at "vc"
            refine ⟨lim_lt_of (by omega), _, _, dn ++ [i], by simpa using hdn, rfl, ?_⟩
            rw [List.map_append, List.map_cons, hk, h1]; simp
      · rintro ρ _ ⟨d, e, dn, hdn, rfl, rfl⟩
        rw [List.append_nil] at hdn
        subst hdn
        exact ⟨rfl, d, e, rfl, rfl⟩
  rintro f ρ σ' ⟨rfl, d, e, rfl, rfl⟩
  walk_at "vc"
  walk_at "step"
  walk_at "step"
  have hkf : (keptF rows cls).length = rows.length := by simp [keptF]
  obtain ⟨z, ez⟩ : ∃ z, z = keepT (keptF rows cls) rows cls := ⟨_, rfl⟩
  refine seq_cut (fun f ρ σ' => f = .next ∧ ∃ a0 a1 a2 a3 a4 a5, ρ = [a0, a1, a2, a3, a4, a5, some (.d z)] ∧ σ' = σ ++ [none, none]) CallOK.mono ?_ ?_
  · walk_at "st"
    refine c_keep_only Γ hto (by rw [htl]; exact hl) hkf ?_
    rw [← ez]
    exact ⟨_, _, _, _, _, _, rfl, rfl⟩
  rintro f ρ σ' ⟨rfl, a0, a1, a2, a3, a4, a5, rfl, rfl⟩
  walk_at "vc"
  refine ret_i (v := .d (.tuple [eRows (keepRows (keptF rows cls) rows), eCls (cls.map (moveCl (plc (keptF rows cls))))])) (σ' := σ ++ [none, none]) (fun K hK => ?_) ?_
  · rw [ez]
    unfold keepT
    walk_at "vc"
    exact hK
  simp only [RetQ, take_app]
  exact h

theorem c_thread_in (Γ : Gd prog w base mg mb tab) {k : Nat} {code : List Row} {cls : List Cl} (P : List Row → List Cl → Prop)
    (hP0 : P code cls) (hP : ∀ c l, P c l → P (roundC c l) (roundL c l)) (hok : ∀ c l, P c l → CodeOK c ∧ ClsOK c.length l) {σ : Store} {Q : KV}
    (h : ∀ c l, P c l → (roundC c l).length = c.length → Q (.d (.tuple [eRows (roundC c l), eCls (roundL c l)])) σ) :
    CallOK prog w base mg (k + 1 + 1 + 1 + 1 + 1) "thread_in" [.d (eRows code), .d (eCls cls)] σ Q := by
  have hok0 := hok _ _ hP0
  have hn := hok0.1.len
  refine call_thread_in Γ rfl ?_
  simp only [ir_thread_in]
  refine seq_step (ρ' := [some (.d (eRows code)), some (.d (eCls cls)), none]) (σ' := σ) (fun K hK => ?_) ?_
  · walk_at "st"
    exact c_check_edges Γ hok0.1 hok0.2 hK
  refine seq_step (ρ' := [some (.d (eRows code)), some (.d (eCls cls)), some (.d (eN (code.length + 1)))]) (σ' := σ) (fun K hK => ?_) ?_
  · walk_at "st"
    have := lim_of (n := code.length) (by omega)
    exact hK
  refine seq_cut (fun f ρ σ' => f = .next ∧ σ = σ' ∧ ∃ c l z, P c l ∧ (roundC c l).length = c.length ∧ ρ = [some (.d (eRows (roundC c l))), some (.d (eCls (roundL c l))), z]) CallOK.mono ?_ ?_
  · refine while_i CallOK.mono (fun m ρ σ' => σ = σ' ∧ ∃ c l, P c l ∧ ∃ n : Nat, n ≤ m ∧ ρ = [some (.d (eRows c)), some (.d (eCls l)), some (.d (eN n))] ∧ (c.length < n ∨ (c.length = n ∧ ∃ c' l', P c' l' ∧ (roundC c' l').length = c'.length ∧ c = roundC c' l' ∧ l = roundL c' l'))) ?_ (code.length + 1) _ _ ⟨rfl, code, cls, hP0, code.length + 1, by omega, rfl, .inl (by omega)⟩
    rintro m ρ _ ⟨rfl, c, l, hp, n, hm, rfl, hcase⟩
    have hk := hok _ _ hp
    have hcl := hk.1.len
    walk_at "vc"
    by_cases hlt : c.length < n
    · rw [if_pos (by simpa using hlt)]
      refine seq_step (ρ' := [some (.d (eRows c)), some (.d (eCls l)), some (.d (eN c.length))]) (σ' := σ) (fun K hK => ?_) ?_
      · walk_at "st"; exact hK
      walk_at "st"
      refine c_thread_round Γ hk.1 hk.2 ?_
      walk_at "vc"
      refine ⟨c.length, by omega, _, _, hP c l hp, c.length, Nat.le_refl _, rfl, ?_⟩
      have := roundC_len c l
      rcases Nat.lt_or_eq_of_le this with q | q
      · exact .inl q
      · exact .inr ⟨q, c, l, hp, q, rfl, rfl⟩
    · rw [if_neg (by simpa using hlt)]
      rcases hcase with q | ⟨q, c', l', hp', he', rfl, rfl⟩
      · exact absurd q hlt
      · exact ⟨c', l', _, hp', he', rfl⟩
  rintro f ρ σ' ⟨rfl, rfl, c, l, z, hp, he, rfl⟩
  walk_at "vc"
  walk_at "ret"
  simp only [RetQ, List.take_length]
  exact h c l hp he
end

end
section
noncomputable def md (a : Int) (b : Nat) : Nat := (a.fmod (b : Int)).toNat
theorem md_lt (a : Int) {b : Nat} (h : 0 < b) : md a b < b := by
  have h1 := Int.fmod_lt_of_pos a (show (0 : Int) < b by omega)
  have h2 := Int.fmod_nonneg_of_pos a (show (0 : Int) < b by omega)
  unfold md; omega
theorem mod_in (a : Int) {b : Nat} (h : 0 < b) : binP .mod (.int a) (eN b) = some (eN (md a b)) := by
  have h2 := Int.fmod_nonneg_of_pos a (show (0 : Int) < b by omega)
  show (if (0 : Int) < (b : Int) then some (PyData.int (a.fmod b)) else none) = _
  rw [if_pos (by omega)]
  unfold md eN; rw [Int.toNat_of_nonneg h2]
theorem mod_nn (a : Nat) {b : Nat} (h : 0 < b) : binP .mod (eN a) (eN b) = some (eN (a % b)) := by
  show (if (0 : Int) < (b : Int) then some (PyData.int ((a : Int).fmod b)) else none) = _
  rw [if_pos (by omega), Int.fmod_eq_emod_of_nonneg _ (by omega)]
  unfold eN; rw [Int.natCast_emod]
theorem mod_8 (a : Int) : binP .mod (.int a) (.int 8) = some (eN (md a 8)) := mod_in a (by decide)
theorem mod_50 (a : Int) : binP .mod (.int a) (.int 50) = some (eN (md a 50)) := mod_in a (by decide)
theorem mod_4 (a : Int) : binP .mod (.int a) (.int 4) = some (eN (md a 4)) := mod_in a (by decide)
theorem mod_3 (a : Int) : binP .mod (.int a) (.int 3) = some (eN (md a 3)) := mod_in a (by decide)
theorem mod_5 (a : Int) : binP .mod (.int a) (.int 5) = some (eN (md a 5)) := mod_in a (by decide)
theorem mod_2 (a : Int) : binP .mod (.int a) (.int 2) = some (eN (md a 2)) := mod_in a (by decide)
theorem div_ii (a b : Int) : binP .div (.int a) (.int b) = if 0 < b ∧ b < 1073741824 then some (.int (a.fdiv b)) else none := rfl
theorem div_in (a : Int) {b : Nat} (h : 0 < b) (h' : b ≤ 1000) : binP .div (.int a) (eN b) = some (.int (a.fdiv b)) := by
  show (if (0 : Int) < (b : Int) ∧ (b : Int) < 1073741824 then some (PyData.int (a.fdiv b)) else none) = _
  rw [if_pos (by omega)]
theorem mul_nn (a b : Nat) (h : a ≤ 2000) (h' : b ≤ 2000) : binP .mul (eN a) (eN b) = some (eN (a * b)) := by
  show (if -big < (a : Int) ∧ (a : Int) < big ∧ -big < (b : Int) ∧ (b : Int) < big then some (PyData.int ((a : Int) * (b : Int))) else none) = _
  rw [if_pos ⟨by simp only [big_eq]; omega, by simp only [big_eq]; omega, by simp only [big_eq]; omega, by simp only [big_eq]; omega⟩]
  unfold eN; rw [Int.natCast_mul]
theorem mul2 (a : Nat) (h : a ≤ 2000) : binP .mul (.int 2) (eN a) = some (eN (2 * a)) := mul_nn 2 a (by decide) h
theorem mul1003 (a : Nat) (h : a ≤ 2000) : binP .mul (.int 1003) (eN a) = some (eN (1003 * a)) := mul_nn 1003 a (by decide) h
theorem add_in (a : Int) (b : Nat) : binP .add (.int a) (eN b) = some (.int (a + b)) := rfl
theorem add_1n (b : Nat) : binP .add (.int 1) (eN b) = some (eN (1 + b)) := by
  rw [add_in]; unfold eN; rw [Int.natCast_add]; rfl
theorem add_nn (a b : Nat) : binP .add (eN a) (eN b) = some (eN (a + b)) := rfl
theorem lt_ni (a : Nat) (b : Int) : cmpP .lt (eN a) (.int b) = some (decide ((a : Int) < b)) := rfl
theorem eq_ni (a : Nat) (b : Int) : cmpP .eq (eN a) (.int b) = some (decide ((a : Int) = b)) := rfl
theorem min_n (a b : Nat) : PyData.int (if (b : Int) < (a : Int) then (b : Int) else (a : Int)) = eN (min a b) := by
  unfold eN
  by_cases h : b < a
  · rw [if_pos (by omega), Nat.min_eq_right (by omega)]
  · rw [if_neg (by omega), Nat.min_eq_left (by omega)]
noncomputable def wAt (q : Int) (j : Nat) : Int := q.fdiv 4 + ((1003 * j : Nat) : Int)
theorem pre_lt {dn l : List Nat} {j n : Nat} (h : dn ++ j :: l = List.range n) : j < n ∧ dn.length < n := by
  have h1 : j ∈ List.range n := by rw [← h]; simp
  have h2 := congrArg List.length h
  rw [List.length_append, List.length_range, List.length_cons] at h2
  exact ⟨List.mem_range.mp h1, by omega⟩
theorem fin4 {j : Nat} (h : j < 4) : j = 0 ∨ j = 1 ∨ j = 2 ∨ j = 3 := by omega
theorem fin5 {j : Nat} (h : j < 5) : j = 0 ∨ j = 1 ∨ j = 2 ∨ j = 3 ∨ j = 4 := by omega
theorem compV_map {α : Type} {enc g : α → PyData} {t : Rho → Store → KB → Prop} {e : Rho → Store → KV → Prop} {ρ : Rho}
    (l : List α) (σ : Store) (Q : KV) (ht : ∀ a ∈ l, ∀ K : KB, K true σ → t (some (.d (enc a)) :: ρ) σ K) (he : ∀ a ∈ l, ∀ K : KV, K (.d (g a)) σ → e (some (.d (enc a)) :: ρ) σ K)
    (h : Q (.d (.list (l.map g))) σ) : compV t e ρ (l.map enc) [] σ Q :=
  compV_filter (p := fun _ => true) l [] σ Q ht (fun a ha _ => he a ha) (by rw [filter_all fun _ _ => rfl]; exact h)
theorem rowOK_one {n : Nat} {op : Int} {g : Nat} (h : op ∈ ([32, 0, 56, 57, 58, 59, 68, 221, 122, 220, 65041, 42] : List Int)) (hg : isBr op = true → g < n) : RowOK n ⟨op, .one g⟩ := by
  have h69 : op ≠ 69 := op_all (fun op => op ≠ 69) h (by decide)
  refine ⟨op_all (fun op : Int => op = 32 ∨ op = 0 ∨ (56 ≤ op ∧ op ≤ 59) ∨ op = 68 ∨ op = 69 ∨ op = 221 ∨ op = 122 ∨ op = 220 ∨ op = 65041 ∨ op = 42) h (by decide), fun z => absurd z h69, fun _ => ⟨g, rfl⟩, fun x hx => ?_⟩
  unfold Row.targets at hx
  rw [if_neg h69] at hx
  split at hx
  · rename_i hb
    rw [List.mem_singleton] at hx; rw [hx]; exact hg hb
  · cases hx


end
set_option hygiene false
local macro_rules | `(tactic| walk_at "vcd") => `(tactic| dsimp only [add_nn, lt_ni, eq_ni])
local macro_rules | `(tactic| walk_at "vcf") => `(tactic| simp -implicitDefEqProofs only [add_1n, Int.reduceLT, and_self])
set_option hygiene true
section
set_option hygiene false
local macro_rules | `(tactic| walk_at "vcd") => `(tactic| dsimp only [div_ii])
local macro_rules | `(tactic| walk_at "vcf") => `(tactic| simp -implicitDefEqProofs only [mod_8, mod_50, mod_4, mod_3, mod_5, mod_2])
set_option hygiene true


section
variable {prog : Program} {w : World} {base : Heap} {mg mb : Str → Option Value} {tab : Int → Option Int}

theorem c_law_row (Γ : Gd prog w base mg mb tab) {k size : Nat} {v : Int} (hs : 0 < size) (hs' : size ≤ 100) {σ : Store} {Q : KV} (h : ∀ r, RowOK size r → Q (.d (eRow r)) σ) :
    CallOK prog w base mg (k + 1) "_law_row" [.d (.int v), .d (eN size)] σ Q := by
  refine call_law_row Γ rfl ?_
  simp only [ir_law_row]
  walk_at "step"
  walk_at "step"
  have hk8 := md_lt v (b := 8) (by decide)
  obtain ⟨m, hm⟩ : ∃ m, m = md v 8 := ⟨_, rfl⟩
  rw [← hm] at hk8 ⊢
  obtain ⟨T, hT⟩ : ∃ T, T = v.fdiv 8 := ⟨_, rfl⟩
  rw [← hT]
  have hms := fun a => md_lt a hs
  refine seq_ite (σ' := σ) (decide ((m : Int) < 2)) (fun K hK => ?_) (fun ht => ?_) fun ht => seq_skip ?_
  · walk_at "vc"; exact hK
  · refine seq_ret ?_ CallOK.mono
    walk_at "ret"
    simp only [RetQ, List.take_length]
    exact h ⟨32, .one _⟩ (rowOK_one (by decide) (fun z => absurd z (by decide)))
  refine seq_ite (σ' := σ) (decide ((m : Int) < 4)) (fun K hK => ?_) (fun ht => ?_) fun ht => seq_skip ?_
  · walk_at "vc"; exact hK
  · refine seq_ret ?_ CallOK.mono
    refine ret_i (v := .d (eRow ⟨56, .one (md T size)⟩)) (σ' := σ) (fun K hK => ?_) ?_
    · walk_at "vc"; rw [mod_in _ hs]; walk_at "vc"; exact hK
    simp only [RetQ, List.take_length]
    exact h ⟨56, .one _⟩ (rowOK_one (by decide) fun _ => hms _)
  refine seq_ite (σ' := σ) (decide ((m : Int) = 4)) (fun K hK => ?_) (fun ht => ?_) fun ht => seq_skip ?_
  · walk_at "vc"; exact hK
  · refine seq_ret ?_ CallOK.mono
    obtain ⟨op, hop, he⟩ : ∃ op : Int, op ∈ ([57, 58, 59, 68] : List Int) ∧ ([PyData.int 57, .int 58, .int 59, .int 68] : List PyData)[md T 4]? = some (.int op) := by
      rcases fin4 (md_lt T (b := 4) (by decide)) with e | e | e | e <;> rw [e]
      · exact ⟨57, by decide, rfl⟩
      · exact ⟨58, by decide, rfl⟩
      · exact ⟨59, by decide, rfl⟩
      · exact ⟨68, by decide, rfl⟩
    refine ret_i (v := .d (eRow ⟨op, .one (md (T.fdiv 4) size)⟩)) (σ' := σ) (fun K hK => ?_) ?_
    · walk_at "vc"; rw [he]; walk_at "vc"; rw [mod_in _ hs]; walk_at "vc"; exact hK
    simp only [RetQ, List.take_length]
    exact h ⟨op, .one _⟩ (rowOK_one (op_all (fun op => op ∈ ([32, 0, 56, 57, 58, 59, 68, 221, 122, 220, 65041, 42] : List Int)) hop (by decide)) fun _ => hms _)
  refine seq_ite (σ' := σ) (decide ((m : Int) = 5)) (fun K hK => ?_) (fun ht => ?_) fun ht => seq_skip ?_
  · walk_at "vc"; exact hK
  · refine seq_ret ?_ CallOK.mono
    have h3 := md_lt T (b := 3) (by decide)
    refine ret_i (v := .d (eRow ⟨69, .many ((List.range (md T 3 + 1)).map fun j => md (T.fdiv 3 + ((3 * j * j : Nat) : Int)) size)⟩)) (σ' := σ) (fun K hK => ?_) ?_
    · walk_at "vc"
      refine rng_ok (by omega) ⟨lim_of (by omega), ?_⟩
      refine compV_map (enc := eN) (g := fun j => eN (md (T.fdiv 3 + ((3 * j * j : Nat) : Int)) size)) _ _ _ (fun j _ K hK => hK) (fun j hj K hK => ?_) ?_
      · have hj := List.mem_range.mp hj
        walk_at "vc"
        rw [mul3 _ (by omega)]
        walk_at "vc"
        rw [mul_nn _ _ (by omega) (by omega)]
        walk_at "vc"
        rw [add_in]
        walk_at "vc"
        rw [mod_in _ hs]
        walk_at "vc"
        exact hK
      · walk_at "vc"
        rw [show eRow ⟨69, .many ((List.range (md T 3 + 1)).map fun j => md (T.fdiv 3 + ((3 * j * j : Nat) : Int)) size)⟩ = .tuple [.int 69, .tuple ((List.range (md T 3 + 1)).map fun j => eN (md (T.fdiv 3 + ((3 * j * j : Nat) : Int)) size))] by
          show PyData.tuple [.int 69, .tuple ((List.map _ _).map eN)] = _
          rw [List.map_map]; rfl] at hK
        exact hK
    simp only [RetQ, List.take_length]
    refine h _ ⟨by simp, fun _ => ⟨_, rfl, by simp; omega⟩, fun z => absurd rfl z, fun g hg => ?_⟩
    rw [targets_69 (r := ⟨69, .many ((List.range (md T 3 + 1)).map fun j => md (T.fdiv 3 + ((3 * j * j : Nat) : Int)) size)⟩) rfl rfl] at hg
    obtain ⟨j, _, rfl⟩ := List.mem_map.mp hg
    exact hms _
  refine seq_ite (σ' := σ) (decide ((m : Int) = 6)) (fun K hK => ?_) (fun ht => ?_) fun ht => seq_skip ?_
  · walk_at "vc"; exact hK
  · refine seq_ret ?_ CallOK.mono
    refine ret_i (v := .d (eRow ⟨221, .one (md T size)⟩)) (σ' := σ) (fun K hK => ?_) ?_
    · walk_at "vc"; rw [mod_in _ hs]; walk_at "vc"; exact hK
    simp only [RetQ, List.take_length]
    exact h ⟨221, .one _⟩ (rowOK_one (by decide) fun _ => hms _)
  obtain ⟨op, hop, he⟩ : ∃ op : Int, op ∈ ([122, 220, 65041, 42, 0] : List Int) ∧ ([PyData.int 122, .int 220, .int 65041, .int 42, .int 0] : List PyData)[md T 5]? = some (.int op) := by
    rcases fin5 (md_lt T (b := 5) (by decide)) with e | e | e | e | e <;> rw [e]
    · exact ⟨122, by decide, rfl⟩
    · exact ⟨220, by decide, rfl⟩
    · exact ⟨65041, by decide, rfl⟩
    · exact ⟨42, by decide, rfl⟩
    · exact ⟨0, by decide, rfl⟩
  refine ret_i (v := .d (eRow ⟨op, .one 0⟩)) (σ' := σ) (fun K hK => ?_) ?_
  · walk_at "vc"; rw [he]; walk_at "vc"; exact hK
  simp only [RetQ, List.take_length]
  exact h ⟨op, .one _⟩ (rowOK_one (op_all (fun op => op ∈ ([32, 0, 56, 57, 58, 59, 68, 221, 122, 220, 65041, 42] : List Int)) hop (by decide)) fun _ => hs)


theorem c_law_clauses (Γ : Gd prog w base mg mb tab) {k size : Nat} {q : Int} (hs : 2 < size) (hs' : size ≤ 100) {σ : Store} {Q : KV} (h : ∀ cls, ClsOK size cls → Q (.d (eCls cls)) σ) :
    CallOK prog w base mg (k + 1) "_law_clauses" [.d (.int q), .d (eN size)] σ Q := by
  refine call_law_clauses Γ rfl ?_
  simp only [ir_law_clauses]
  walk_at "step"
  refine seq_cut (fun f ρ σ' => All2 (f = .next) (Ex6 fun a b c d e o => All3 (ClsOK size o) (ρ = [some (.d (.int q)), some (.d (eN size)), some (.l σ.length), a, b, c, d, e]) (σ' = σ ++ [some (o.map eCl)]))) CallOK.mono ?_ ?_
  · have h4 := md_lt q (b := 4) (by decide)
    refine loop_i (xs := (List.range (md q 4)).map eN) (σ' := σ ++ [some []]) (fun K hK => ?_) ?_
    · walk_at "vc"
      exact rng_ok (by omega) hK
    · refine forV_ind (enc := eN) CallOK.mono (fun l ρ σ' => Ex7 fun (a : Option V) (b : Option V) (c : Option V) (d : Option V) (e : Option V) (dn : List Nat) (o : List Cl) => All5 (dn ++ l = List.range (md q 4)) (o.length = dn.length) ((∀ c ∈ o, ClOK size c)) (ρ = [some (.d (.int q)), some (.d (eN size)), some (.l σ.length), a, b, c, d, e]) (σ' = σ ++ [some (o.map eCl)])) ?_ ?_ _ _ _ ⟨_, _, _, _, _, [], [], rfl, rfl, by simp, rfl, rfl⟩
      · rintro j l ρ _ ⟨a, b, c, d, e, dn, o, hdn, hol, hok, rfl, rfl⟩
        have hj := (pre_lt hdn).1
        have hdl : dn.length ≤ 3 := Nat.le_of_lt_succ (Nat.lt_trans (pre_lt hdn).2 h4)
        walk_at "vc"
        refine seq_step (ρ' := [some (.d (.int q)), some (.d (eN size)), some (.l σ.length), some (.d (eN j)), some (.d (.int (wAt q j))), c, d, e]) (σ' := σ ++ [some (o.map eCl)]) (fun K hK => ?_) ?_
        · walk_at "st"; rw [mul1003 _ (by omega)]; walk_at "vc"; rw [add_in]; walk_at "vc"; unfold wAt at hK; exact hK
        obtain ⟨W, hW⟩ : ∃ W, W = wAt q j := ⟨_, rfl⟩
        rw [← hW]
        obtain ⟨so, hso, he⟩ : ∃ so : Int, (so = 0 ∨ so = 1 ∨ so = 2 ∨ so = 4) ∧ ([PyData.int 0, .int 1, .int 2, .int 4] : List PyData)[md (W.fdiv ((1 + 2 * j : Nat) : Int)) 4]? = some (.int so) := by
          rcases fin4 (md_lt (W.fdiv ((1 + 2 * j : Nat) : Int)) (b := 4) (by decide)) with e | e | e | e <;> rw [e]
          · exact ⟨0, by decide, rfl⟩
          · exact ⟨1, by decide, rfl⟩
          · exact ⟨2, by decide, rfl⟩
          · exact ⟨4, by decide, rfl⟩
        refine seq_step (ρ' := [some (.d (.int q)), some (.d (eN size)), some (.l σ.length), some (.d (eN j)), some (.d (.int W)), some (.d (.int so)), d, e]) (σ' := σ ++ [some (o.map eCl)]) (fun K hK => ?_) ?_
        · walk_at "st"; rw [mul2 _ (by omega)]; walk_at "vc"; rw [div_in _ (by omega) (by omega)]; walk_at "vc"; rw [he]; exact hK
        have hs1 : 0 < size - 1 := by omega
        obtain ⟨t0, et0⟩ : ∃ t0, t0 = md (W.fdiv 4) (size - 1) := ⟨_, rfl⟩
        have ht0 := md_lt (W.fdiv 4) hs1
        rw [← et0] at ht0
        refine seq_step (ρ' := [some (.d (.int q)), some (.d (eN size)), some (.l σ.length), some (.d (eN j)), some (.d (.int W)), some (.d (.int so)), some (.d (eN t0)), e]) (σ' := σ ++ [some (o.map eCl)]) (fun K hK => ?_) ?_
        · walk_at "st"; rw [sub_n1 _ (by omega)]; walk_at "vc"; rw [mod_in _ hs1]; rw [et0] at hK; exact hK
        obtain ⟨h0, eh0⟩ : ∃ h0, h0 = 1 + md (W.fdiv 16) (size - 1) := ⟨_, rfl⟩
        have hh0 := md_lt (W.fdiv 16) hs1
        refine seq_step (ρ' := [some (.d (.int q)), some (.d (eN size)), some (.l σ.length), some (.d (eN j)), some (.d (.int W)), some (.d (.int so)), some (.d (eN t0)), some (.d (eN h0))]) (σ' := σ ++ [some (o.map eCl)]) (fun K hK => ?_) ?_
        · walk_at "st"; rw [sub_n1 _ (by omega)]; walk_at "vc"; rw [mod_in _ hs1]; walk_at "vc"; rw [eh0] at hK; exact hK
        have hx := md_lt (W.fdiv 128) (show 0 < h0 by omega)
        walk_at "st"
        rw [min_n, min_n]
        by_cases h1 : so = 1
        · subst h1
          walk_at "vc"
          rw [mod_in _ (by omega)]
          walk_at "vc"
          refine ⟨lim_lt_of (by omega), _, _, _, _, _, dn ++ [j], o ++ [⟨1, t0, min (t0 + 1 + md (W.fdiv 64) 5) size, h0, min (h0 + 1 + md (W.fdiv 256) 4) size, md (W.fdiv 128) h0⟩], by simpa using hdn, by simp [hol], ?_, rfl, ?_⟩
          · intro c hc
            rcases List.mem_append.mp hc with z | z
            · exact hok c z
            · rw [List.mem_singleton.mp z]
              exact ⟨by simp, by simp only; omega, by simp only; omega, by simp only; omega, by simp only; omega, fun _ => by simp only; omega⟩
          · rw [List.map_append]; rfl
        · have : decide (so = 1) = false := by simpa using h1
          rw [this]
          walk_at "vc"
          refine ⟨lim_lt_of (by omega), _, _, _, _, _, dn ++ [j], o ++ [⟨so, t0, min (t0 + 1 + md (W.fdiv 64) 5) size, h0, min (h0 + 1 + md (W.fdiv 256) 4) size, 0⟩], by simpa using hdn, by simp [hol], ?_, rfl, ?_⟩
          · intro c hc
            rcases List.mem_append.mp hc with z | z
            · exact hok c z
            · rw [List.mem_singleton.mp z]
              exact ⟨hso, by simp only; omega, by simp only; omega, by simp only; omega, by simp only; omega, fun z => absurd z h1⟩
          · rw [List.map_append]; rfl
      · rintro ρ _ ⟨a, b, c, d, e, dn, o, hdn, hol, hok, rfl, rfl⟩
        rw [List.append_nil] at hdn
        subst hdn
        exact ⟨rfl, a, b, c, d, e, o, ⟨hok, by rw [hol, List.length_range]; omega⟩, rfl, rfl⟩
  rintro f ρ σ' ⟨rfl, a, b, c, d, e, o, hok, rfl, rfl⟩
  walk_at "vc"
  walk_at "step"
  walk_at "ret"
  simp only [RetQ, take_app]
  exact h o hok
end

end
section
structure Ct where
  s : Int
  j : Nat
  at_ : Nat
  goal : Nat
noncomputable def eCt (c : Ct) : PyData := .tuple [.int c.s, eN c.j, eN c.at_, eN c.goal]
noncomputable def pAt (p : Cl → Bool) (cls : List Cl) (j : Nat) : Bool := match cls[j]? with | some c => p c | none => false
noncomputable def findFrom (p : Cl → Bool) (cls : List Cl) (first : Nat) : Option Nat := (List.range' first (cls.length - first)).find? (pAt p cls)
noncomputable def hitT (a : Nat) (c : Cl) : Bool := decide (c.inT a)
noncomputable def hitL (a goal : Nat) (c : Cl) : Bool := decide (c.sort = 2 ∧ c.inT a ∧ ¬ c.inT goal)
noncomputable def thrown (cls : List Cl) (first a : Nat) (cs : List Ct) : Int × List Ct := match findFrom (hitT a) cls first with
  | some j => match cls[j]? with
    | some c => (((if c.sort = 1 then c.ex else c.h0 : Nat) : Int), if c.sort ≠ 0 then cs ++ [⟨1, j, a, 0⟩] else cs)
    | none => (-1, cs)
  | none => (-1, cs)
noncomputable def leaving (cls : List Cl) (first a goal : Nat) (cs : List Ct) : Int × List Ct := match findFrom (hitL a goal) cls first with
  | some j => match cls[j]? with
    | some c => ((c.h0 : Int), cs ++ [⟨2, j, a, goal⟩])
    | none => ((goal : Int), cs)
  | none => ((goal : Int), cs)
noncomputable def ended (cls : List Cl) (cs : List Ct) (answer : Bool) : Int × List Ct := match cs.getLast? with
  | none => (-2, cs)
  | some k => if k.s = 2 then leaving cls (k.j + 1) k.at_ k.goal cs.dropLast
    else if answer then (match cls[k.j]? with | some c => (c.h0 : Int) | none => 0, cs.dropLast) else thrown cls (k.j + 1) k.at_ cs.dropLast
noncomputable def move (r : Row) (cls : List Cl) (cs : List Ct) (a ch : Nat) : Int × List Ct :=
  if r.op = 32 ∨ r.op = 0 then (if ch % 4 = 3 then thrown cls 0 a cs else (((a + 1 : Nat) : Int), cs))
  else if r.op = 69 then (((match r.arg.goals[ch % (r.arg.goals.length + 1)]? with | some g => g | none => a + 1 : Nat) : Int), cs)
  else if r.op = 221 then leaving cls 0 a r.arg.goal cs
  else if r.op = 122 then thrown cls 0 a cs
  else if r.op = 220 then ended cls cs false
  else if r.op = 65041 then ended cls cs (decide (ch % 2 = 1))
  else if r.op = 42 then (-3, cs)
  else (((if ch % 2 ≠ 0 then r.arg.goal else a + 1 : Nat) : Int), cs)
abbrev Ev := Int × Int
noncomputable def eEv (e : Ev) : PyData := .tuple [.int e.1, .int e.2]
noncomputable def choiceAt (tape : List Nat) (n : Nat) : Nat := (match tape[n % tape.length]? with | some c => c | none => 0) + n / tape.length
noncomputable def runGo (code : List Row) (cls : List Cl) (tape : List Nat) : Nat → List Ev → List Ct → Int → Nat → List Ev
  | 0, seen, _, _, _ => seen
  | f + 1, seen, cs, a, still =>
    if 0 ≤ a ∧ a.toNat < code.length ∧ seen.length < 30 then
      match code[a.toNat]? with
      | some r => if r.op = 56 then (if code.length < still + 1 then seen ++ [((-4 : Int), (0 : Int))] else runGo code cls tape f seen cs r.arg.goal (still + 1))
        else runGo code cls tape f (seen ++ [(r.op, ((if r.op = 32 then r.arg.goal else 0 : Nat) : Int))]) (move r cls cs a.toNat (choiceAt tape seen.length)).2 (move r cls cs a.toNat (choiceAt tape seen.length)).1 0
      | none => seen
    else seen ++ [(if 0 < a then 0 else a, (0 : Int))]
noncomputable def runAll (code : List Row) (cls : List Cl) (tape : List Nat) : List Ev := runGo code cls tape (30 * (code.length + 2) + code.length + 2) [] [] 0 0
noncomputable def CtsOK (cls : List Cl) (cs : List Ct) : Prop := ∀ k ∈ cs, k.j < cls.length

theorem findFrom_lt {p : Cl → Bool} {cls : List Cl} {first j : Nat} (h : findFrom p cls first = some j) : j < cls.length ∧ first ≤ j ∧ pAt p cls j = true := by
  have h1 := List.mem_of_find?_eq_some h
  have h2 := List.find?_some h
  rw [List.mem_range'_1] at h1
  exact ⟨by omega, by omega, h2⟩
theorem thrown_ok {cls : List Cl} {first a : Nat} {cs : List Ct} (h : CtsOK cls cs) : CtsOK cls (thrown cls first a cs).2 ∧ (thrown cls first a cs).2.length ≤ cs.length + 1 := by
  unfold thrown
  split
  · rename_i j hj
    obtain ⟨hl, _⟩ := findFrom_lt hj
    split
    · dsimp only
      split
      · refine ⟨fun k hk => ?_, by simp⟩
        rcases List.mem_append.mp hk with q | q
        · exact h k q
        · rw [List.mem_singleton.mp q]; exact hl
      · exact ⟨h, by simp⟩
    · exact ⟨h, by simp⟩
  · exact ⟨h, by simp⟩
theorem leaving_ok {cls : List Cl} {first a goal : Nat} {cs : List Ct} (h : CtsOK cls cs) : CtsOK cls (leaving cls first a goal cs).2 ∧ (leaving cls first a goal cs).2.length ≤ cs.length + 1 := by
  unfold leaving
  split
  · rename_i j hj
    obtain ⟨hl, _⟩ := findFrom_lt hj
    split
    · refine ⟨fun k hk => ?_, by simp⟩
      rcases List.mem_append.mp hk with q | q
      · exact h k q
      · rw [List.mem_singleton.mp q]; exact hl
    · exact ⟨h, by simp⟩
  · exact ⟨h, by simp⟩
theorem drop_ok {cls : List Cl} {cs : List Ct} (h : CtsOK cls cs) : CtsOK cls cs.dropLast := fun k hk => h k ((List.dropLast_sublist cs).subset hk)
theorem ended_ok {cls : List Cl} {cs : List Ct} {b : Bool} (h : CtsOK cls cs) : CtsOK cls (ended cls cs b).2 ∧ (ended cls cs b).2.length ≤ cs.length + 1 := by
  have hd := drop_ok h
  have hl : cs.dropLast.length ≤ cs.length := by simp
  unfold ended
  split
  · exact ⟨h, by simp⟩
  · split
    · have := leaving_ok (first := ‹Ct›.j + 1) (a := ‹Ct›.at_) (goal := ‹Ct›.goal) hd
      exact ⟨this.1, by omega⟩
    · split
      · exact ⟨hd, by dsimp only; omega⟩
      · have := thrown_ok (first := ‹Ct›.j + 1) (a := ‹Ct›.at_) hd
        exact ⟨this.1, by omega⟩
theorem move_ok {r : Row} {cls : List Cl} {cs : List Ct} {a ch : Nat} (h : CtsOK cls cs) : CtsOK cls (move r cls cs a ch).2 ∧ (move r cls cs a ch).2.length ≤ cs.length + 1 := by
  unfold move
  split
  · split
    · exact thrown_ok h
    · exact ⟨h, by simp⟩
  split
  · exact ⟨h, by simp⟩
  split
  · exact leaving_ok h
  split
  · exact thrown_ok h
  split
  · exact ended_ok h
  split
  · exact ended_ok h
  split
  · exact ⟨h, by simp⟩
  · exact ⟨h, by simp⟩

theorem tupP_row (r : Row) : tupP (eRow r) = some [.int r.op, eArg r.arg] := rfl
theorem tupP_cl (c : Cl) : tupP (eCl c) = some [.int c.sort, eN c.t0, eN c.t1, eN c.h0, eN c.h1, eN c.ex] := rfl
theorem tupP_ct (c : Ct) : tupP (eCt c) = some [.int c.s, eN c.j, eN c.at_, eN c.goal] := rfl
theorem div_nn (a : Nat) {b : Nat} (h : 0 < b) (h' : b ≤ 1000) : binP .div (eN a) (eN b) = some (eN (a / b)) := by
  show (if (0 : Int) < (b : Int) ∧ (b : Int) < 1073741824 then some (PyData.int ((a : Int).fdiv b)) else none) = _
  rw [if_pos (by omega), Int.fdiv_eq_ediv_of_nonneg _ (by omega)]
  unfold eN; rw [Int.natCast_ediv]
theorem shp_ct (c : Ct) : Shp 1 (eCt c) := shp_tup fun x hx => by
  rcases List.mem_cons.mp hx with rfl | hx
  · exact shp_int _
  rcases List.mem_cons.mp hx with rfl | hx
  · exact shp_n _
  rcases List.mem_cons.mp hx with rfl | hx
  · exact shp_n _
  rcases List.mem_cons.mp hx with rfl | hx
  · exact shp_n _
  · cases hx
theorem eq_ct_nil (cs : List Ct) : cmpP .eq (.list (cs.map eCt)) (.list []) = some (decide (cs = [])) := by
  show (if SeqAt.shaped (.list (cs.map eCt)) && SeqAt.shaped (.list []) then some (PyData.eqv (.list (cs.map eCt)) (.list [])) else none) = _
  rw [(shp_list (shp_map shp_ct cs)).ok (by omega), (shp_list (m := 0) (xs := []) (by simp)).ok (by omega)]
  cases cs with
  | nil => rfl
  | cons a l => simp [PyData.eqv, PyData.eqvAll]
theorem set_same {σ : Store} {a : Nat} {xs : List PyData} (h : getS σ a = some xs) : σ.set a (some xs) = σ := by
  refine List.ext_getElem? fun i => ?_
  rw [List.getElem?_set]
  split
  · rename_i e; subst e
    unfold getS at h
    split at h
    · rename_i v hv
      obtain ⟨hi, _⟩ := List.getElem?_eq_some_iff.mp hv
      rw [if_pos hi, hv, h]
    · cases h
  · rfl


end
set_option hygiene false
local macro_rules | `(tactic| walk_at "vcd") => `(tactic| dsimp only [tupP_row, tupP_cl, tupP_ct])
set_option hygiene true
section


section
variable {prog : Program} {w : World} {base : Heap} {mg mb : Str → Option Value} {tab : Int → Option Int}

theorem c_law_thrown (Γ : Gd prog w base mg mb tab) {k a first i : Nat} {cls : List Cl} {cs : List Ct} (hl : cls.length ≤ 3) (hf : first ≤ 4) (hcs : cs.length ≤ 1000) {σ : Store} (ha : getS σ a = some (cs.map eCt)) {Q : KV}
    (h : Q (.d (.int (thrown cls first i cs).1)) (σ.set a (some ((thrown cls first i cs).2.map eCt)))) :
    CallOK prog w base mg (k + 1) "_law_thrown" [.d (eCls cls), .l a, .d (eN first), .d (eN i)] σ Q := by
  refine call_law_thrown Γ rfl ?_
  simp only [ir_law_thrown]
  refine seq_cut (fun f ρ σ' => (f = .ret (.d (.int (thrown cls first i cs).1)) ∧ σ' = σ.set a (some ((thrown cls first i cs).2.map eCt))) ∨ (f = .next ∧ σ = σ' ∧ findFrom (hitT i) cls first = none)) CallOK.mono ?_ ?_
  · refine loop_i (xs := (List.range' first (cls.length - first)).map eN) (σ' := σ) (fun K hK => ?_) ?_
    · walk_at "vc"
      exact rng_ok2 (by omega) (by omega) (by omega) hK
    · refine forV_ind (enc := eN) CallOK.mono (fun l ρ σ' => σ = σ' ∧ ∃ (x0 x1 x2 x3 x4 x5 x6 : Option V) (dn : List Nat), dn ++ l = List.range' first (cls.length - first) ∧ dn.find? (pAt (hitT i) cls) = none ∧ ρ = [some (.d (eCls cls)), some (.l a), some (.d (eN first)), some (.d (eN i)), x0, x1, x2, x3, x4, x5, x6]) ?_ ?_ _ _ _ ⟨rfl, _, _, _, _, _, _, _, [], rfl, rfl, rfl⟩
      · rintro j l ρ _ ⟨rfl, x0, x1, x2, x3, x4, x5, x6, dn, hdn, hany, rfl⟩
        have hj : j < cls.length := by
          have : j ∈ List.range' first (cls.length - first) := by rw [← hdn]; simp
          rw [List.mem_range'_1] at this; omega
        obtain ⟨c, ec⟩ : ∃ c, cls[j]? = some c := ⟨_, List.getElem?_eq_getElem hj⟩
        have hp : pAt (hitT i) cls j = decide (c.inT i) := by unfold pAt; rw [ec]; rfl
        walk_at "vc"
        refine seq_step (ρ' := [some (.d (eCls cls)), some (.l a), some (.d (eN first)), some (.d (eN i)), some (.d (eN j)), some (.d (.int c.sort)), some (.d (eN c.t0)), some (.d (eN c.t1)), some (.d (eN c.h0)), some (.d (eN c.h1)), some (.d (eN c.ex))]) (σ' := σ) (fun K hK => ?_) ?_
        · walk_at "st"; rw [ec]; walk_at "vc"; exact hK
        refine ite_i (σ' := σ) (decide (c.inT i)) (fun K hK => ?_) (fun ht => ?_) fun ht => ?_
        · walk_at "vc"
          unfold Cl.inT at hK
          by_cases h1 : c.t0 ≤ i
          · by_cases h2 : i < c.t1
            · simpa [h1, h2] using hK
            · simpa [h1, h2] using hK
          · simpa [h1] using hK
        · have hfd : findFrom (hitT i) cls first = some j := by
            unfold findFrom; rw [← hdn, List.find?_append, hany, List.find?_cons_of_pos (by rw [hp]; exact ht)]; rfl
          have hth : thrown cls first i cs = (((if c.sort = 1 then c.ex else c.h0 : Nat) : Int), if c.sort ≠ 0 then cs ++ [⟨1, j, i, 0⟩] else cs) := by
            unfold thrown; rw [hfd]; simp only; rw [ec]
          rw [hth]
          have hcs' := lim_lt_of (n := cs.length) (by omega)
          by_cases h0 : c.sort = 0
          · refine seq_step (ρ' := [some (.d (eCls cls)), some (.l a), some (.d (eN first)), some (.d (eN i)), some (.d (eN j)), some (.d (.int c.sort)), some (.d (eN c.t0)), some (.d (eN c.t1)), some (.d (eN c.h0)), some (.d (eN c.h1)), some (.d (eN c.ex))]) (σ' := σ) (fun K hK => ?_) ?_
            · walk_at "st"
              rw [show (c.sort != 0) = false by simpa using h0]
              exact hK
            rw [if_neg (by omega), if_neg (by omega), set_same ha]
            refine ret_i (v := .d (.int (c.h0 : Int))) (σ' := σ) (fun K hK => ?_) (.inl ⟨rfl, rfl⟩)
            walk_at "vc"
            rw [show decide (c.sort = 1) = false by simp; omega]
            exact hK
          · refine seq_step (ρ' := [some (.d (eCls cls)), some (.l a), some (.d (eN first)), some (.d (eN i)), some (.d (eN j)), some (.d (.int c.sort)), some (.d (eN c.t0)), some (.d (eN c.t1)), some (.d (eN c.h0)), some (.d (eN c.h1)), some (.d (eN c.ex))]) (σ' := σ.set a (some ((cs ++ [(⟨1, j, i, 0⟩ : Ct)]).map eCt))) (fun K hK => ?_) ?_
            · walk_at "st"
              rw [show (c.sort != 0) = true by simpa using h0]
              walk_at "vc"
              rw [ha]
              walk_at "vc"
              refine ⟨hcs', ?_⟩
              rw [List.map_append] at hK
              exact hK
            refine ret_i (v := .d (.int ((if c.sort = 1 then c.ex else c.h0 : Nat) : Int))) (σ' := σ.set a (some ((cs ++ [(⟨1, j, i, 0⟩ : Ct)]).map eCt))) (fun K hK => ?_) ?_
            · walk_at "vc"
              by_cases h1 : c.sort = 1
              · rw [if_pos h1] at hK; simp only [h1, decide_true, if_true]; exact hK
              · rw [if_neg h1] at hK; simp only [h1, decide_false, if_false, Bool.false_eq_true]; exact hK
            refine .inl ⟨rfl, ?_⟩
            rw [if_pos h0]
        · refine skip_i ⟨rfl, _, _, _, _, _, _, _, dn ++ [j], by simpa using hdn, ?_, rfl⟩
          rw [List.find?_append, hany, List.find?_cons_of_neg (by rw [hp, ht]; simp)]; rfl
      · rintro ρ _ ⟨rfl, x0, x1, x2, x3, x4, x5, x6, dn, hdn, hany, rfl⟩
        rw [List.append_nil] at hdn
        refine .inr ⟨rfl, rfl, ?_⟩
        unfold findFrom; rw [← hdn]; exact hany
  rintro f ρ σ' (⟨rfl, rfl⟩ | ⟨rfl, rfl, hn⟩)
  · simp only [flK_ret, RetQ, take_set]; exact h
  · simp only [flK_next]
    walk_at "ret"
    simp only [RetQ, List.take_length]
    unfold thrown at h
    rw [hn] at h
    simp only at h
    rw [set_same ha] at h
    exact h
end

end
section
theorem last_split {α : Type} {cs : List α} {k : α} (h : cs.getLast? = some k) : cs = cs.dropLast ++ [k] := by
  cases cs with
  | nil => cases h
  | cons a l =>
    rw [List.getLast?_eq_some_getLast (by simp)] at h
    have := List.dropLast_concat_getLast (l := a :: l) (by simp)
    rw [Option.some.inj h] at this
    exact this.symm
theorem set_set (σ : Store) (a : Nat) (x y : Option (List PyData)) : (σ.set a x).set a y = σ.set a y := by simp
theorem getS_set {σ : Store} {a : Nat} {xs ys : List PyData} (h : getS σ a = some xs) : getS (σ.set a (some ys)) a = some ys := by
  unfold getS at h ⊢
  split at h
  · rename_i v hv
    obtain ⟨hi, _⟩ := List.getElem?_eq_some_iff.mp hv
    rw [List.getElem?_set_self hi]
  · cases h
theorem mod_nn4 (a : Nat) : binP .mod (eN a) (.int 4) = some (eN (a % 4)) := mod_nn a (by decide)
theorem mod_nn2 (a : Nat) : binP .mod (eN a) (.int 2) = some (eN (a % 2)) := mod_nn a (by decide)




section
variable {prog : Program} {w : World} {base : Heap} {mg mb : Str → Option Value} {tab : Int → Option Int}

theorem c_law_leaving (Γ : Gd prog w base mg mb tab) {k a first i goal : Nat} {cls : List Cl} {cs : List Ct} (hl : cls.length ≤ 3) (hf : first ≤ 4) (hcs : cs.length ≤ 1000) {σ : Store} (ha : getS σ a = some (cs.map eCt)) {Q : KV}
    (h : Q (.d (.int (leaving cls first i goal cs).1)) (σ.set a (some ((leaving cls first i goal cs).2.map eCt)))) :
    CallOK prog w base mg (k + 1) "_law_leaving" [.d (eCls cls), .l a, .d (eN first), .d (eN i), .d (eN goal)] σ Q := by
  refine call_law_leaving Γ rfl ?_
  simp only [ir_law_leaving]
  refine seq_cut (fun f ρ σ' => (f = .ret (.d (.int (leaving cls first i goal cs).1)) ∧ σ' = σ.set a (some ((leaving cls first i goal cs).2.map eCt))) ∨ (f = .next ∧ σ = σ' ∧ findFrom (hitL i goal) cls first = none ∧ ∃ (x0 x1 x2 x3 x4 x5 x6 : Option V), ρ = [some (.d (eCls cls)), some (.l a), some (.d (eN first)), some (.d (eN i)), some (.d (eN goal)), x0, x1, x2, x3, x4, x5, x6])) CallOK.mono ?_ ?_
  · refine loop_i (xs := (List.range' first (cls.length - first)).map eN) (σ' := σ) (fun K hK => ?_) ?_
    · walk_at "vc"
      exact rng_ok2 (by omega) (by omega) (by omega) hK
    · refine forV_ind (enc := eN) CallOK.mono (fun l ρ σ' => σ = σ' ∧ ∃ (x0 x1 x2 x3 x4 x5 x6 : Option V) (dn : List Nat), dn ++ l = List.range' first (cls.length - first) ∧ dn.find? (pAt (hitL i goal) cls) = none ∧ ρ = [some (.d (eCls cls)), some (.l a), some (.d (eN first)), some (.d (eN i)), some (.d (eN goal)), x0, x1, x2, x3, x4, x5, x6]) ?_ ?_ _ _ _ ⟨rfl, _, _, _, _, _, _, _, [], rfl, rfl, rfl⟩
      · rintro j l ρ _ ⟨rfl, x0, x1, x2, x3, x4, x5, x6, dn, hdn, hany, rfl⟩
        have hj : j < cls.length := by
          have : j ∈ List.range' first (cls.length - first) := by rw [← hdn]; simp
          rw [List.mem_range'_1] at this; omega
        obtain ⟨c, ec⟩ : ∃ c, cls[j]? = some c := ⟨_, List.getElem?_eq_getElem hj⟩
        have hp : pAt (hitL i goal) cls j = decide (c.sort = 2 ∧ c.inT i ∧ ¬ c.inT goal) := by unfold pAt; rw [ec]; rfl
        walk_at "vc"
        refine seq_step (ρ' := [some (.d (eCls cls)), some (.l a), some (.d (eN first)), some (.d (eN i)), some (.d (eN goal)), some (.d (eN j)), some (.d (.int c.sort)), some (.d (eN c.t0)), some (.d (eN c.t1)), some (.d (eN c.h0)), some (.d (eN c.h1)), some (.d (eN c.ex))]) (σ' := σ) (fun K hK => ?_) ?_
        · walk_at "st"; rw [ec]; walk_at "vc"; exact hK
        refine ite_i (σ' := σ) (decide (c.sort = 2 ∧ c.inT i ∧ ¬ c.inT goal)) (fun K hK => ?_) (fun ht => ?_) fun ht => ?_
        · walk_at "vc"
          unfold Cl.inT at hK
          by_cases h0 : c.sort = 2
          · by_cases h1 : c.t0 ≤ i
            · by_cases h2 : i < c.t1
              · by_cases h3 : c.t0 ≤ goal
                · by_cases h4 : goal < c.t1
                  · simpa [h0, h1, h2, h3, h4] using hK
                  · simpa [h0, h1, h2, h3, h4] using hK
                · simpa [h0, h1, h2, h3] using hK
              · simpa [h0, h1, h2] using hK
            · simpa [h0, h1] using hK
          · simpa [h0] using hK
        · have hfd : findFrom (hitL i goal) cls first = some j := by
            unfold findFrom; rw [← hdn, List.find?_append, hany, List.find?_cons_of_pos (by rw [hp]; exact ht)]; rfl
          have hth : leaving cls first i goal cs = ((c.h0 : Int), cs ++ [⟨2, j, i, goal⟩]) := by
            unfold leaving; rw [hfd]; simp only; rw [ec]
          rw [hth]
          have hcs' := lim_lt_of (n := cs.length) (by omega)
          refine seq_step (ρ' := [some (.d (eCls cls)), some (.l a), some (.d (eN first)), some (.d (eN i)), some (.d (eN goal)), some (.d (eN j)), some (.d (.int c.sort)), some (.d (eN c.t0)), some (.d (eN c.t1)), some (.d (eN c.h0)), some (.d (eN c.h1)), some (.d (eN c.ex))]) (σ' := σ.set a (some ((cs ++ [(⟨2, j, i, goal⟩ : Ct)]).map eCt))) (fun K hK => ?_) ?_
          · walk_at "st"
            rw [ha]
            walk_at "vc"
            refine ⟨hcs', ?_⟩
            rw [List.map_append] at hK
            exact hK
          walk_at "ret"
          exact .inl ⟨rfl, rfl⟩
        · refine skip_i ⟨rfl, _, _, _, _, _, _, _, dn ++ [j], by simpa using hdn, ?_, rfl⟩
          rw [List.find?_append, hany, List.find?_cons_of_neg (by rw [hp, ht]; simp)]; rfl
      · rintro ρ _ ⟨rfl, x0, x1, x2, x3, x4, x5, x6, dn, hdn, hany, rfl⟩
        rw [List.append_nil] at hdn
        refine .inr ⟨rfl, rfl, ?_, _, _, _, _, _, _, _, rfl⟩
        unfold findFrom; rw [← hdn]; exact hany
  rintro f ρ σ' (⟨rfl, rfl⟩ | ⟨rfl, rfl, hn, x0, x1, x2, x3, x4, x5, x6, rfl⟩)
  · simp only [flK_ret, RetQ, take_set]; exact h
  · simp only [flK_next]
    walk_at "ret"
    simp only [RetQ, List.take_length]
    unfold leaving at h
    rw [hn] at h
    simp only at h
    rw [set_same ha] at h
    exact h

theorem c_law_ended (Γ : Gd prog w base mg mb tab) {k a : Nat} {b : Bool} {cls : List Cl} {cs : List Ct} (hl : cls.length ≤ 3) (hcs : cs.length ≤ 1000) (hk : CtsOK cls cs) {σ : Store} (ha : getS σ a = some (cs.map eCt)) {Q : KV}
    (h : Q (.d (.int (ended cls cs b).1)) (σ.set a (some ((ended cls cs b).2.map eCt)))) :
    CallOK prog w base mg (k + 1 + 1) "_law_ended" [.d (eCls cls), .l a, .d (.bool b)] σ Q := by
  refine call_law_ended Γ rfl ?_
  simp only [ir_law_ended]
  refine seq_ite (σ' := σ) (decide (cs = [])) (fun K hK => ?_) (fun ht => ?_) fun ht => seq_skip ?_
  · walk_at "vc"; rw [ha]; walk_at "vc"; rw [eq_ct_nil]; exact hK
  · have ht : cs = [] := by simpa using ht
    subst ht
    refine seq_ret ?_ CallOK.mono
    walk_at "ret"
    simp only [RetQ, List.take_length]
    unfold ended at h
    simp only [List.getLast?_nil] at h
    rw [set_same ha] at h
    exact h
  have ht : cs ≠ [] := by simpa using ht
  obtain ⟨c, ec⟩ : ∃ c, cs.getLast? = some c := ⟨_, List.getLast?_eq_some_getLast ht⟩
  have hsp := last_split ec
  have hcj : c.j < cls.length := hk c (by rw [hsp]; simp)
  obtain ⟨ds, eds⟩ : ∃ ds, ds = cs.dropLast := ⟨_, rfl⟩
  have hds : ds.length ≤ 1000 := by rw [eds, List.length_dropLast]; omega
  have he : ended cls cs b = if c.s = 2 then leaving cls (c.j + 1) c.at_ c.goal ds else if b then (match cls[c.j]? with | some c => (c.h0 : Int) | none => 0, ds) else thrown cls (c.j + 1) c.at_ ds := by
    (unfold ended; rw [ec, eds]) <;> rfl
  rw [he] at h
  have e1 : (cs.map eCt).getLast? = some (eCt c) := by rw [List.getLast?_map, ec]; rfl
  have e2 : (cs.map eCt).dropLast = ds.map eCt := by rw [eds, List.map_dropLast]
  refine seq_step (ρ' := [some (.d (eCls cls)), some (.l a), some (.d (.bool b)), some (.d (.int c.s)), some (.d (eN c.j)), some (.d (eN c.at_)), some (.d (eN c.goal))]) (σ' := σ.set a (some (ds.map eCt))) (fun K hK => ?_) ?_
  · walk_at "st"
    rw [ha]
    simp only [ob_some]
    rw [e1, e2]
    walk_at "vc"
    exact hK
  have hg := getS_set (ys := ds.map eCt) ha
  refine seq_ite (σ' := σ.set a (some (ds.map eCt))) (decide (c.s = 2)) (fun K hK => ?_) (fun ht => ?_) fun ht => seq_skip ?_
  · walk_at "vc"; exact hK
  · rw [if_pos (by simpa using ht)] at h
    refine seq_ret ?_ CallOK.mono
    walk_at "st"
    refine c_law_leaving Γ hl (by omega) hds hg ?_
    simp only [RetQ, set_set, take_set]
    exact h
  rw [if_neg (by simpa using ht)] at h
  refine seq_ite (σ' := σ.set a (some (ds.map eCt))) b (fun K hK => ?_) (fun ht => ?_) fun ht => seq_skip ?_
  · walk_at "vc"; exact hK
  · rw [if_pos ht] at h
    obtain ⟨q, eq⟩ : ∃ q, cls[c.j]? = some q := ⟨_, List.getElem?_eq_getElem hcj⟩
    rw [eq] at h
    refine seq_ret ?_ CallOK.mono
    refine ret_i (v := .d (eN q.h0)) (σ' := σ.set a (some (ds.map eCt))) (fun K hK => ?_) ?_
    · walk_at "vc"; rw [eq]; walk_at "vc"; exact hK
    simp only [RetQ, take_set]
    exact h
  · rw [if_neg (by simp [ht])] at h
    walk_at "st"
    refine c_law_thrown Γ hl (by omega) hds hg ?_
    simp only [RetQ, set_set, take_set]
    exact h

theorem c_law_move (Γ : Gd prog w base mg mb tab) {k a i ch : Nat} {code : List Row} {r : Row} {cls : List Cl} {cs : List Ct} (er : code[i]? = some r) (hr : RowOK code.length r) (h56 : r.op ≠ 56) (hl : cls.length ≤ 3) (hcs : cs.length ≤ 1000) (hk : CtsOK cls cs) {σ : Store} (ha : getS σ a = some (cs.map eCt)) {Q : KV}
    (h : Q (.d (.int (move r cls cs i ch).1)) (σ.set a (some ((move r cls cs i ch).2.map eCt)))) :
    CallOK prog w base mg (k + 1 + 1 + 1) "_law_move" [.d (eRows code), .d (eCls cls), .l a, .d (eN i), .d (eN ch)] σ Q := by
  refine call_law_move Γ rfl ?_
  simp only [ir_law_move]
  refine seq_step (ρ' := [some (.d (eRows code)), some (.d (eCls cls)), some (.l a), some (.d (eN i)), some (.d (eN ch)), some (.d (.int r.op)), some (.d (eArg r.arg)), none]) (σ' := σ) (fun K hK => ?_) ?_
  · walk_at "st"; rw [er]; walk_at "vc"; exact hK
  unfold move at h
  refine seq_ite (σ' := σ) (decide (r.op = 32 ∨ r.op = 0)) (fun K hK => ?_) (fun ht => ?_) fun ht => seq_skip ?_
  · walk_at "vc"
    by_cases h1 : r.op = 32
    · simpa [h1] using hK
    · by_cases h2 : r.op = 0
      · simpa [h1, h2] using hK
      · simpa [h1, h2] using hK
  · rw [if_pos (by simpa using ht)] at h
    refine seq_ret ?_ CallOK.mono
    walk_at "st"
    rw [mod_nn4]
    walk_at "vc"
    by_cases h3 : ch % 4 = 3
    · rw [if_pos h3] at h
      rw [if_pos (by simp only [decide_eq_true_eq]; omega)]
      refine c_law_thrown (first := 0) Γ hl (by omega) hcs ha ?_
      simp only [RetQ, take_set]
      exact h
    · rw [if_neg h3] at h
      rw [if_neg (by simp only [decide_eq_true_eq]; omega)]
      rw [set_same ha] at h
      simp only [RetQ, List.take_length]
      exact h
  rw [if_neg (by simpa using ht)] at h
  refine seq_ite (σ' := σ) (decide (r.op = 69)) (fun K hK => ?_) (fun ht => ?_) fun ht => seq_skip ?_
  · walk_at "vc"; exact hK
  · have ht : r.op = 69 := by simpa using ht
    obtain ⟨gs, eg, hgl⟩ := hr.many ht
    rw [if_pos ht, eg] at h
    simp only [Arg.goals] at h
    rw [set_same ha] at h
    refine seq_assoc ?_ CallOK.mono
    refine seq_step (ρ' := [some (.d (eRows code)), some (.d (eCls cls)), some (.l a), some (.d (eN i)), some (.d (eN ch)), some (.d (.int r.op)), some (.d (eArg r.arg)), some (.d (eN (ch % (gs.length + 1))))]) (σ' := σ) (fun K hK => ?_) ?_
    · walk_at "st"
      rw [eg]
      simp only [eArg]
      walk_at "vc"
      rw [mod_nn _ (by omega)]
      walk_at "vc"
      rw [eg] at hK
      exact hK
    refine seq_ret ?_ CallOK.mono
    refine ret_i (v := .d (.int ((match gs[ch % (gs.length + 1)]? with | some g => g | none => i + 1 : Nat) : Int))) (σ' := σ) (fun K hK => ?_) ?_
    · walk_at "vc"
      rw [eg]
      simp only [eArg]
      walk_at "vc"
      by_cases hw : ch % (gs.length + 1) < gs.length
      · obtain ⟨g, e⟩ : ∃ g, gs[ch % (gs.length + 1)]? = some g := ⟨_, List.getElem?_eq_getElem hw⟩
        rw [e] at hK
        rw [if_pos (by simpa using hw), List.getElem?_map, e]
        exact hK
      · have e : gs[ch % (gs.length + 1)]? = none := List.getElem?_eq_none (by omega)
        rw [e] at hK
        rw [if_neg (by simpa using hw)]
        exact hK
    simp only [RetQ, List.take_length]
    exact h
  have h69 : r.op ≠ 69 := by simpa using ht
  rw [if_neg h69] at h
  obtain ⟨g, eg⟩ := hr.one h69
  rw [eg] at h ⊢
  simp only [Arg.goal] at h
  refine seq_ite (σ' := σ) (decide (r.op = 221)) (fun K hK => ?_) (fun ht => ?_) fun ht => seq_skip ?_
  · walk_at "vc"; exact hK
  · rw [if_pos (by simpa using ht)] at h
    refine seq_ret ?_ CallOK.mono
    walk_at "st"
    refine c_law_leaving (first := 0) (goal := g) Γ hl (by omega) hcs ha ?_
    simp only [RetQ, take_set]
    exact h
  rw [if_neg (by simpa using ht)] at h
  refine seq_ite (σ' := σ) (decide (r.op = 122)) (fun K hK => ?_) (fun ht => ?_) fun ht => seq_skip ?_
  · walk_at "vc"; exact hK
  · rw [if_pos (by simpa using ht)] at h
    refine seq_ret ?_ CallOK.mono
    walk_at "st"
    refine c_law_thrown (first := 0) Γ hl (by omega) hcs ha ?_
    simp only [RetQ, take_set]
    exact h
  rw [if_neg (by simpa using ht)] at h
  refine seq_ite (σ' := σ) (decide (r.op = 220)) (fun K hK => ?_) (fun ht => ?_) fun ht => seq_skip ?_
  · walk_at "vc"; exact hK
  · rw [if_pos (by simpa using ht)] at h
    refine seq_ret ?_ CallOK.mono
    walk_at "st"
    refine c_law_ended Γ hl hcs hk ha ?_
    simp only [RetQ, take_set]
    exact h
  rw [if_neg (by simpa using ht)] at h
  refine seq_ite (σ' := σ) (decide (r.op = 65041)) (fun K hK => ?_) (fun ht => ?_) fun ht => seq_skip ?_
  · walk_at "vc"; exact hK
  · rw [if_pos (by simpa using ht)] at h
    refine seq_ret ?_ CallOK.mono
    walk_at "st"
    rw [mod_nn2]
    walk_at "vc"
    rw [show decide (((ch % 2 : Nat) : Int) = 1) = decide (ch % 2 = 1) by rw [decide_eq_decide]; omega]
    refine c_law_ended Γ hl hcs hk ha ?_
    simp only [RetQ, take_set]
    exact h
  rw [if_neg (by simpa using ht)] at h
  refine seq_ite (σ' := σ) (decide (r.op = 42)) (fun K hK => ?_) (fun ht => ?_) fun ht => seq_skip ?_
  · walk_at "vc"; exact hK
  · rw [if_pos (by simpa using ht)] at h
    refine seq_ret ?_ CallOK.mono
    walk_at "ret"
    rw [set_same ha] at h
    simp only [RetQ, List.take_length]
    exact h
  rw [if_neg (by simpa using ht), set_same ha] at h
  refine ret_i (v := .d (.int ((if ch % 2 ≠ 0 then g else i + 1 : Nat) : Int))) (σ' := σ) (fun K hK => ?_) ?_
  · walk_at "vc"
    rw [mod_nn2]
    walk_at "vc"
    by_cases h2 : ch % 2 = 0
    · rw [if_neg (by omega)] at hK
      rw [h2]; exact hK
    · rw [if_pos (by omega)] at hK
      have : ch % 2 = 1 := by omega
      rw [this]; exact hK
  simp only [RetQ, List.take_length]
  exact h
end

end
section
theorem lt_in (a : Int) (b : Nat) : cmpP .lt (.int a) (eN b) = some (decide (a < b)) := rfl
theorem add_ll (a b : List PyData) : binP .add (.list a) (.list b) = if a.length + b.length ≤ lim then some (.list (a ++ b)) else none := rfl
theorem ev_mk (a b : Int) : PyData.tuple [.int a, .int b] = eEv (a, b) := rfl
noncomputable def seenOf (l : List Ev) : PyData := .list (l.map eEv)


end
set_option hygiene false
local macro_rules | `(tactic| walk_at "vcd") => `(tactic| dsimp only [lt_in])
set_option hygiene true
section


section
variable {prog : Program} {w : World} {base : Heap} {mg mb : Str → Option Value} {tab : Int → Option Int}

theorem c_law_run (Γ : Gd prog w base mg mb tab) {k : Nat} {code : List Row} {cls : List Cl} {tape : List Nat} (hc : CodeOK code) (hl : cls.length ≤ 3) (ht0 : tape.length = 9) {σ : Store} {Q : KV}
    (h : Q (.d (seenOf (runAll code cls tape))) σ) :
    CallOK prog w base mg (k + 1 + 1 + 1 + 1) "_law_run" [.d (eRows code), .d (eCls cls), .d (.list (tape.map eN))] σ Q := by
  have hn := hc.len
  refine call_law_run Γ rfl ?_
  simp only [ir_law_run]
  walk_at "step"
  walk_at "step"
  walk_at "step"
  walk_at "step"
  refine seq_cut (fun f ρ σ' => (f = .ret (.d (seenOf (runAll code cls tape))) ∧ ∃ a b, σ' = σ ++ [a, b]) ∨ (f = .next ∧ ∃ (seen : List Ev) (cs : List Ct) (a : Int) (still : Nat) (x0 x1 x2 : Option V), seen.length ≤ 30 ∧ seen ++ [(if 0 < a then 0 else a, (0 : Int))] = runAll code cls tape ∧
      ρ = [some (.d (eRows code)), some (.d (eCls cls)), some (.d (.list (tape.map eN))), some (.l σ.length), some (.l (σ.length + 1)), some (.d (.int a)), some (.d (eN still)), x0, x1, x2] ∧ σ' = σ ++ [some (seen.map eEv), some (cs.map eCt)])) CallOK.mono ?_ ?_
  · refine while_i CallOK.mono (fun m ρ σ' => Ex7 fun (seen : List Ev) (cs : List Ct) (a : Int) (still : Nat) (x0 : Option V) (x1 : Option V) (x2 : Option V) => All8 (seen.length ≤ 30) (cs.length ≤ seen.length) (CtsOK cls cs) (still ≤ code.length) (runGo code cls tape m seen cs a still = runAll code cls tape) ((30 - seen.length) * (code.length + 2) + (code.length + 1 - still) < m) (ρ = [some (.d (eRows code)), some (.d (eCls cls)), some (.d (.list (tape.map eN))), some (.l σ.length), some (.l (σ.length + 1)), some (.d (.int a)), some (.d (eN still)), x0, x1, x2]) (σ' = σ ++ [some (seen.map eEv), some (cs.map eCt)])) ?_ (30 * (code.length + 2) + code.length + 2) _ _ ⟨[], [], 0, 0, none, none, none, by simp, by simp, (fun _ h => by cases h), by omega, rfl, (by simp; omega), rfl, rfl⟩
    rintro m ρ _ ⟨seen, cs, a, still, x0, x1, x2, hs, hcl, hk, hst, hgo, hm, rfl, rfl⟩
    obtain ⟨f, rfl⟩ : ∃ f, m = f + 1 := ⟨m - 1, by omega⟩
    rw [runGo] at hgo
    walk_at "vc"
    by_cases h0 : 0 ≤ a
    · rw [if_pos (by simpa using h0)]
      by_cases h1 : a < code.length
      · rw [if_pos (by simpa using h1)]
        by_cases h2 : seen.length < 30
        · rw [if_pos (by simp only [decide_eq_true_eq]; omega)]
          rw [if_pos ⟨h0, by omega, h2⟩] at hgo
          obtain ⟨i, rfl⟩ : ∃ i : Nat, a = (i : Int) := ⟨a.toNat, by omega⟩
          have hi : i < code.length := by omega
          rw [Int.toNat_natCast] at hgo
          obtain ⟨r, er⟩ : ∃ r, code[i]? = some r := ⟨_, List.getElem?_eq_getElem hi⟩
          have hr := hc.rows r (List.mem_of_getElem? er)
          rw [er] at hgo
          simp only at hgo
          refine seq_step (ρ' := [some (.d (eRows code)), some (.d (eCls cls)), some (.d (.list (tape.map eN))), some (.l σ.length), some (.l (σ.length + 1)), some (.d (eN i)), some (.d (eN still)), some (.d (.int r.op)), some (.d (eArg r.arg)), x2]) (σ' := σ ++ [some (seen.map eEv), some (cs.map eCt)]) (fun K hK => ?_) ?_
          · walk_at "st"; rw [er]; walk_at "vc"; exact hK
          refine ite_i (σ' := σ ++ [some (seen.map eEv), some (cs.map eCt)]) (decide (r.op = 56)) (fun K hK => ?_) (fun ht => ?_) fun ht => ?_
          · walk_at "vc"; exact hK
          · have ht : r.op = 56 := by simpa using ht
            rw [if_pos ht] at hgo
            obtain ⟨g, eg⟩ := hr.one (by omega)
            rw [eg] at hgo ⊢
            simp only [Arg.goal, eArg] at hgo ⊢
            walk_at "step"
            refine seq_ite (σ' := σ ++ [some (seen.map eEv), some (cs.map eCt)]) (decide (code.length < still + 1)) (fun K hK => ?_) (fun ht => ?_) fun ht => seq_skip ?_
            · walk_at "vc"; exact hK
            · rw [if_pos (by simpa using ht)] at hgo
              refine seq_ret ?_ CallOK.mono
              refine ret_i (v := .d (seenOf (runAll code cls tape))) (σ' := σ ++ [some (seen.map eEv), some (cs.map eCt)]) (fun K hK => ?_) (.inl ⟨rfl, _, _, rfl⟩)
              walk_at "vc"
              rw [add_ll, if_pos (by rw [List.length_map]; exact lim_of (by simp; omega))]
              walk_at "vc"
              rw [← hgo, seenOf, List.map_append] at hK
              exact hK
            · have ht : ¬ code.length < still + 1 := by simpa using ht
              rw [if_neg ht] at hgo
              walk_at "st"
              exact ⟨f, by omega, seen, cs, g, still + 1, _, _, _, hs, hcl, hk, by omega, hgo, by omega, rfl, rfl⟩
          · have ht : r.op ≠ 56 := by simpa using ht
            rw [if_neg ht] at hgo
            walk_at "step"
            have htl : seen.length % tape.length < tape.length := Nat.mod_lt _ (by omega)
            obtain ⟨t, et⟩ : ∃ t, tape[seen.length % tape.length]? = some t := ⟨_, List.getElem?_eq_getElem htl⟩
            have hch : choiceAt tape seen.length = t + seen.length / tape.length := by unfold choiceAt; rw [et]
            rw [hch] at hgo
            refine seq_step (ρ' := [some (.d (eRows code)), some (.d (eCls cls)), some (.d (.list (tape.map eN))), some (.l σ.length), some (.l (σ.length + 1)), some (.d (eN i)), some (.d (eN 0)), some (.d (.int r.op)), some (.d (eArg r.arg)), some (.d (eN (t + seen.length / tape.length)))]) (σ' := σ ++ [some (seen.map eEv), some (cs.map eCt)]) (fun K hK => ?_) ?_
            · walk_at "st"
              rw [mod_nn _ (by omega)]
              walk_at "vc"
              rw [List.getElem?_map, et]
              walk_at "vc"
              rw [div_nn _ (by omega) (by omega)]
              walk_at "vc"
              exact hK
            obtain ⟨ch, ech⟩ : ∃ ch, ch = t + seen.length / tape.length := ⟨_, rfl⟩
            rw [← ech] at hgo ⊢
            obtain ⟨ev, eev⟩ : ∃ ev : Ev, ev = (r.op, ((if r.op = 32 then r.arg.goal else 0 : Nat) : Int)) := ⟨_, rfl⟩
            rw [← eev] at hgo
            have hsl := lim_lt_of (n := seen.length) (by omega)
            refine seq_step (ρ' := [some (.d (eRows code)), some (.d (eCls cls)), some (.d (.list (tape.map eN))), some (.l σ.length), some (.l (σ.length + 1)), some (.d (eN i)), some (.d (eN 0)), some (.d (.int r.op)), some (.d (eArg r.arg)), some (.d (eN ch))]) (σ' := σ ++ [some ((seen ++ [ev]).map eEv), some (cs.map eCt)]) (fun K hK => ?_) ?_
            · rw [List.map_append, List.map_cons, List.map_nil, eev] at hK
              walk_at "st"
              by_cases h32 : r.op = 32
              · obtain ⟨g, eg⟩ := hr.one (by omega)
                rw [if_pos h32, eg] at hK
                rw [if_pos (by simpa using h32), eg]
                simp only [eArg]
                exact ⟨hsl, hK⟩
              · rw [if_neg h32] at hK
                rw [if_neg (by simpa using h32)]
                exact ⟨hsl, hK⟩
            have hmo := move_ok (r := r) (a := i) (ch := ch) hk
            walk_at "st"
            refine c_law_move (cs := cs) Γ er hr ht hl (by omega) hk (by walk_at "vc") ?_
            walk_at "vc"
            refine ⟨f, by omega, seen ++ [ev], _, _, 0, _, _, _, (by simp; omega), (by simp; omega), hmo.1, by omega, hgo, ?_, rfl, rfl⟩
            rw [List.length_append, List.length_singleton]
            have : (30 - seen.length) * (code.length + 2) = (30 - (seen.length + 1)) * (code.length + 2) + (code.length + 2) := by
              rw [show 30 - seen.length = (30 - (seen.length + 1)) + 1 by omega, Nat.add_mul, Nat.one_mul]
            omega
        · rw [if_neg (by simp only [decide_eq_true_eq]; omega)]
          rw [if_neg (fun z => h2 z.2.2)] at hgo
          exact .inr ⟨seen, cs, a, still, _, _, _, hs, hgo, rfl, rfl⟩
      · rw [if_neg (by simpa using h1)]
        rw [if_neg (fun z => h1 (by have := z.2.1; omega))] at hgo
        exact .inr ⟨seen, cs, a, still, _, _, _, hs, hgo, rfl, rfl⟩
    · rw [if_neg (by simpa using h0)]
      rw [if_neg (fun z => h0 z.1)] at hgo
      exact .inr ⟨seen, cs, a, still, _, _, _, hs, hgo, rfl, rfl⟩
  rintro f ρ σ' (⟨rfl, a, b, rfl⟩ | ⟨rfl, seen, cs, a, still, x0, x1, x2, hs, hgo, rfl, rfl⟩)
  · simp only [flK_ret, RetQ, take_app]; exact h
  · simp only [flK_next]
    refine ret_i (v := .d (seenOf (runAll code cls tape))) (σ' := σ ++ [some (seen.map eEv), some (cs.map eCt)]) (fun K hK => ?_) ?_
    · walk_at "vc"
      rw [add_ll, if_pos (by rw [List.length_map]; exact lim_of (by simp; omega))]
      walk_at "vc"
      rw [← hgo, seenOf, List.map_append] at hK
      exact hK
    simp only [RetQ, take_app]
    exact h
end

end
section
noncomputable def goalsOf (r : Row) : List Nat := if r.op = 69 then r.arg.goals else if 56 ≤ r.op ∧ r.op < 69 then [r.arg.goal] else []
abbrev Part := Bool × Bool × Bool
noncomputable def partB (i : Nat) (c : Cl) : Part := (decide (c.inT i), decide (c.sort = 1 ∧ c.ex ≤ i ∧ i < c.h0), decide (c.h0 ≤ i ∧ i < c.h1))
noncomputable def parts (cls : List Cl) (i : Nat) : List Part := cls.map (partB i)
noncomputable def ePart (p : Part) : PyData := .tuple [.bool p.1, .bool p.2.1, .bool p.2.2]
theorem shp_part (p : Part) : Shp 1 (ePart p) := shp_tup fun x hx => by
  rcases List.mem_cons.mp hx with rfl | hx
  · exact shp_bool _
  rcases List.mem_cons.mp hx with rfl | hx
  · exact shp_bool _
  rcases List.mem_cons.mp hx with rfl | hx
  · exact shp_bool _
  · cases hx
theorem eqv_part (p q : Part) : PyData.eqv (ePart p) (ePart q) = decide (p = q) := by
  obtain ⟨a, b, c⟩ := p
  obtain ⟨a', b', c'⟩ := q
  cases a <;> cases b <;> cases c <;> cases a' <;> cases b' <;> cases c' <;> rfl
theorem eq_parts (l l' : List Part) : cmpP .eq (.list (l.map ePart)) (.list (l'.map ePart)) = some (decide (l = l')) := by
  show (if SeqAt.shaped (.list (l.map ePart)) && SeqAt.shaped (.list (l'.map ePart)) then some (PyData.eqv (.list (l.map ePart)) (.list (l'.map ePart))) else none) = _
  rw [(shp_list (shp_map shp_part l)).ok (by omega), (shp_list (shp_map shp_part l')).ok (by omega)]
  have : PyData.eqv (.list (l.map ePart)) (.list (l'.map ePart)) = decide (l = l') := by
    rw [Bool.eq_iff_iff]; simp only [PyData.eqv, decide_eq_true_eq]
    exact eqv_map eqv_part (by simp) l l'
  rw [this]; rfl
noncomputable def is56 (r : Row) (m : Nat) : Bool := r.op == 56 && (match r.arg with | .one g => decide (g = m) | .many _ => false)
theorem eq_row56 (r : Row) (m : Nat) : cmpP .eq (eRow r) (.tuple [.int 56, eN m]) = some (is56 r m) := by
  show (if SeqAt.shaped (eRow r) && SeqAt.shaped (.tuple [.int 56, eN m]) then some (PyData.eqv (eRow r) (.tuple [.int 56, eN m])) else none) = _
  rw [(shp_row r).ok (by omega), (shp_tup (m := 0) (xs := [.int 56, eN m]) (by simp [shp_int, shp_n])).ok (by omega)]
  obtain ⟨op, a⟩ := r
  have : PyData.eqv (eRow ⟨op, a⟩) (.tuple [.int 56, eN m]) = is56 ⟨op, a⟩ m := by
    unfold eRow is56
    cases a with
    | one g => simp only [PyData.eqv, PyData.eqvAll, eArg, eqv_n]; simp
    | many gs => simp [PyData.eqv, PyData.eqvAll, eArg, eN]
  rw [this]; rfl
noncomputable def stay (code : List Row) (cls : List Cl) (i a : Nat) : Prop := (∃ r, code[a]? = some r ∧ r.op = 56) ∧ parts cls a = parts cls i
structure Threaded (code : List Row) (cls : List Cl) : Prop where
  chain : ∀ i r g, code[i]? = some r → g ∈ goalsOf r → ∃ S : Nat → Prop, (¬ stay code cls i g ∨ S g) ∧ ∀ a, S a → parts cls a = parts cls i ∧ ∃ r', code[a]? = some r' ∧ r'.op = 56 ∧ S r'.arg.goal
  idle : ∀ i r, code[i]? = some r → is56 r (i + 1) = true → i + 1 < code.length → ∃ c ∈ cls, i ∈ c.edges ∨ i + 1 ∈ c.edges
theorem goalsOf_tg {n : Nat} {r : Row} (hr : RowOK n r) : ∀ g ∈ goalsOf r, g < n := by
  intro g hg
  unfold goalsOf at hg
  by_cases h : r.op = 69
  · obtain ⟨gs, e, _⟩ := hr.many h
    rw [if_pos h, e] at hg
    exact hr.tg g (by rw [targets_69 h e]; exact hg)
  · rw [if_neg h] at hg
    obtain ⟨x, e⟩ := hr.one h
    split at hg
    · rename_i h'
      rw [e] at hg
      rw [List.mem_singleton.mp hg]
      exact hr.tg _ (by rw [targets_br (by unfold isBr; simp; omega) e]; simp [Arg.goal])
    · cases hg




section
variable {prog : Program} {w : World} {base : Heap} {mg mb : Str → Option Value} {tab : Int → Option Int}

theorem c_law_goals (Γ : Gd prog w base mg mb tab) {k n : Nat} {r : Row} (hr : RowOK n r) {σ : Store} {Q : KV} (h : Q (.d (.list ((goalsOf r).map eN))) σ) :
    CallOK prog w base mg (k + 1) "_law_goals" [.d (eRow r)] σ Q := by
  refine call_law_goals Γ rfl ?_
  simp only [ir_law_goals]
  refine seq_ite (σ' := σ) (decide (r.op = 69)) (fun K hK => ?_) (fun ht => ?_) fun ht => seq_skip ?_
  · walk_at "vc"; exact hK
  · have ht : r.op = 69 := by simpa using ht
    obtain ⟨gs, e, _⟩ := hr.many ht
    unfold goalsOf at h
    rw [if_pos ht, e] at h
    refine seq_ret ?_ CallOK.mono
    refine ret_i (v := .d (.list (gs.map eN))) (σ' := σ) (fun K hK => ?_) ?_
    · walk_at "vc"; rw [e]; simp only [eArg]; walk_at "vc"; exact hK
    simp only [RetQ, List.take_length]; exact h
  have ht : r.op ≠ 69 := by simpa using ht
  obtain ⟨g, e⟩ := hr.one ht
  unfold goalsOf at h
  rw [if_neg ht, e] at h
  refine seq_ite (σ' := σ) (decide (56 ≤ r.op ∧ r.op < 69)) (fun K hK => ?_) (fun ht => ?_) fun ht => seq_skip ?_
  · walk_at "vc"
    by_cases h1 : 56 ≤ r.op
    · by_cases h2 : r.op < 69
      · simpa [h1, h2] using hK
      · simpa [h1, h2] using hK
    · simpa [h1] using hK
  · rw [if_pos (by simpa using ht)] at h
    refine seq_ret ?_ CallOK.mono
    refine ret_i (v := .d (.list [eN g])) (σ' := σ) (fun K hK => ?_) ?_
    · walk_at "vc"; rw [e]; exact hK
    simp only [RetQ, List.take_length]; exact h
  · rw [if_neg (by simpa using ht)] at h
    walk_at "ret"
    simp only [RetQ, List.take_length]; exact h

theorem c_law_parts (Γ : Gd prog w base mg mb tab) {k i : Nat} {cls : List Cl} (hl : cls.length ≤ 3) {σ : Store} {Q : KV} (h : Q (.d (.list ((parts cls i).map ePart))) σ) :
    CallOK prog w base mg (k + 1) "_law_parts" [.d (eCls cls), .d (eN i)] σ Q := by
  refine call_law_parts Γ rfl ?_
  simp only [ir_law_parts]
  refine ret_i (v := .d (.list ((parts cls i).map ePart))) (σ' := σ) (fun K hK => ?_) ?_
  · walk_at "vc"
    refine ⟨lim_of (by omega), compV_map (enc := eCl) (g := fun c => ePart (partB i c)) _ _ _ (fun c _ K hK => hK) (fun c _ K hK => ?_) ?_⟩
    · walk_at "vc"
      unfold ePart partB Cl.inT at hK
      by_cases h1 : c.t0 ≤ i
      · by_cases h0 : c.sort = 1
        · by_cases h2 : c.ex ≤ i
          · by_cases h3 : c.h0 ≤ i
            · simpa [h0, h1, h2, h3] using hK
            · simpa [h0, h1, h2, h3] using hK
          · by_cases h3 : c.h0 ≤ i
            · simpa [h0, h1, h2, h3] using hK
            · simpa [h0, h1, h2, h3] using hK
        · by_cases h3 : c.h0 ≤ i
          · simpa [h0, h1, h3] using hK
          · simpa [h0, h1, h3] using hK
      · by_cases h0 : c.sort = 1
        · by_cases h2 : c.ex ≤ i
          · by_cases h3 : c.h0 ≤ i
            · simpa [h0, h1, h2, h3] using hK
            · simpa [h0, h1, h2, h3] using hK
          · by_cases h3 : c.h0 ≤ i
            · simpa [h0, h1, h2, h3] using hK
            · simpa [h0, h1, h2, h3] using hK
        · by_cases h3 : c.h0 ≤ i
          · simpa [h0, h1, h3] using hK
          · simpa [h0, h1, h3] using hK
    · unfold parts at hK
      rw [List.map_map] at hK
      exact hK
  simp only [RetQ, List.take_length]; exact h

theorem c_law_edges (Γ : Gd prog w base mg mb tab) {k : Nat} {c : Cl} {σ : Store} {Q : KV} (h : Q (.d (.list (c.edges.map eN))) σ) :
    CallOK prog w base mg (k + 1) "_law_edges" [.d (eCl c)] σ Q := by
  refine call_law_edges Γ rfl ?_
  simp only [ir_law_edges]
  refine ret_i (v := .d (.list (c.edges.map eN))) (σ' := σ) (fun K hK => ?_) ?_
  · walk_at "vc"
    unfold Cl.edges at hK
    by_cases h1 : c.sort = 1
    · rw [if_pos h1] at hK
      rw [if_pos (by simpa using h1)]
      exact hK
    · rw [if_neg h1] at hK
      rw [if_neg (by simpa using h1)]
      exact hK
  simp only [RetQ, List.take_length]; exact h

theorem c_law_threaded (Γ : Gd prog w base mg mb tab) {k : Nat} {code : List Row} {cls : List Cl} (hc : CodeOK code) (hl : cls.length ≤ 3) (ht : Threaded code cls) {σ : Store} {Q : KV} (h : Q (.d (.bool true)) σ) :
    CallOK prog w base mg (k + 1 + 1) "_law_threaded" [.d (eRows code), .d (eCls cls)] σ Q := by
  have hn := hc.len
  refine call_law_threaded Γ rfl ?_
  simp only [ir_law_threaded]
  refine seq_cut (fun f ρ σ' => f = .next ∧ σ = σ') CallOK.mono ?_ ?_
  · refine loop_i (xs := (List.range code.length).map eN) (σ' := σ) (fun K hK => ?_) ?_
    · walk_at "vc"
      exact rng_ok (by omega) hK
    · refine forV_ind (enc := eN) CallOK.mono (fun l ρ σ' => σ = σ' ∧ ∃ (x0 x1 x2 x3 : Option V) (dn : List Nat), dn ++ l = List.range code.length ∧ ρ = [some (.d (eRows code)), some (.d (eCls cls)), x0, x1, x2, x3]) ?_ (fun ρ σ' z => ⟨rfl, z.1⟩) _ _ _ ⟨rfl, _, _, _, _, [], rfl, rfl⟩
      rintro i l ρ _ ⟨rfl, x0, x1, x2, x3, dn, hdn, rfl⟩
      have hi := (pre_lt hdn).1
      obtain ⟨r, er⟩ : ∃ r, code[i]? = some r := ⟨_, List.getElem?_eq_getElem hi⟩
      have hr := hc.rows r (List.mem_of_getElem? er)
      walk_at "vc"
      refine seq_cut (fun f ρ σ' => f = .next ∧ σ = σ' ∧ ∃ (x1 x2 x3 : Option V), ρ = [some (.d (eRows code)), some (.d (eCls cls)), some (.d (eN i)), x1, x2, x3]) CallOK.mono ?_ ?_
      · refine loop_i (xs := (goalsOf r).map eN) (σ' := σ) (fun K hK => ?_) ?_
        · walk_at "vc"
          rw [er]
          walk_at "vc"
          refine c_law_goals Γ hr ?_
          walk_at "vc"
          exact hK
        · refine forV_ind (enc := eN) CallOK.mono (fun l ρ σ' => σ = σ' ∧ ∃ (x1 x2 x3 : Option V), (∀ g ∈ l, g ∈ goalsOf r) ∧ ρ = [some (.d (eRows code)), some (.d (eCls cls)), some (.d (eN i)), x1, x2, x3]) ?_ (fun ρ σ' z => ⟨rfl, z.1, z.2.choose, z.2.choose_spec.choose, z.2.choose_spec.choose_spec.choose, z.2.choose_spec.choose_spec.choose_spec.2⟩) _ _ _ ⟨rfl, _, _, _, fun g hg => hg, rfl⟩
          rintro g l ρ _ ⟨rfl, x1, x2, x3, hsub, rfl⟩
          have hgm := hsub g (by simp)
          have hgn := goalsOf_tg hr g hgm
          obtain ⟨S, hS0, hS⟩ := ht.chain i r g er hgm
          walk_at "vc"
          walk_at "step"
          walk_at "step"
          refine seq_cut (fun f ρ σ' => f = .next ∧ σ = σ' ∧ ∃ (at_ : Nat) (st : Nat), (st = 0 ∨ st = code.length + 1) ∧ ρ = [some (.d (eRows code)), some (.d (eCls cls)), some (.d (eN i)), some (.d (eN g)), some (.d (eN at_)), some (.d (eN st))]) CallOK.mono ?_ ?_
          · refine while_i CallOK.mono (fun m ρ σ' => σ = σ' ∧ ∃ (at_ st : Nat), at_ < code.length ∧ st ≤ code.length + 1 ∧ code.length + 1 ≤ m + st ∧ ((st = 0 ∧ ¬ stay code cls i at_) ∨ S at_) ∧ ρ = [some (.d (eRows code)), some (.d (eCls cls)), some (.d (eN i)), some (.d (eN g)), some (.d (eN at_)), some (.d (eN st))]) ?_ (code.length + 1) _ _ ⟨rfl, g, 0, hgn, by omega, by omega, ?_, rfl⟩
            · rintro m ρ _ ⟨rfl, a, st, ha, hst, hm, hor, rfl⟩
              obtain ⟨q, eq⟩ : ∃ q, code[a]? = some q := ⟨_, List.getElem?_eq_getElem ha⟩
              walk_at "vc"
              by_cases h1 : st ≤ code.length
              · rw [if_pos (by simpa using h1), eq]
                walk_at "vc"
                by_cases h2 : q.op = 56
                · rw [if_pos (by simpa using h2)]
                  refine c_law_parts Γ hl ?_
                  walk_at "vc"
                  refine c_law_parts Γ hl ?_
                  walk_at "vc"
                  rw [eq_parts]
                  simp only [ob_some]
                  by_cases h3 : parts cls a = parts cls i
                  · rw [if_pos (by simpa using h3)]
                    have hSa : S a := by
                      rcases hor with ⟨_, z⟩ | z
                      · exact absurd ⟨⟨q, eq, h2⟩, h3⟩ z
                      · exact z
                    obtain ⟨_, r', er', h56, hS'⟩ := hS a hSa
                    rw [eq] at er'
                    obtain rfl := Option.some.inj er'
                    obtain ⟨g', eg'⟩ := (hc.rows q (List.mem_of_getElem? eq)).one (by omega)
                    rw [eg'] at hS'
                    have hg' : g' < code.length := (hc.rows q (List.mem_of_getElem? eq)).tg g' (by rw [targets_br (by rw [h2]; rfl) eg']; simp)
                    refine seq_step (ρ' := [some (.d (eRows code)), some (.d (eCls cls)), some (.d (eN i)), some (.d (eN g)), some (.d (eN g')), some (.d (eN st))]) (σ' := σ) (fun K hK => ?_) ?_
                    · walk_at "st"; rw [eq]; walk_at "vc"; rw [eg']; exact hK
                    walk_at "st"
                    exact ⟨m - 1, by omega, g', st + 1, hg', by omega, by omega, .inr hS', rfl⟩
                  · rw [if_neg (by simpa using h3)]
                    refine ⟨trivial, a, st, .inl ?_, rfl⟩
                    rcases hor with ⟨z, _⟩ | z
                    · exact z
                    · exact absurd (hS a z).1 h3
                · rw [if_neg (by simpa using h2)]
                  refine ⟨a, st, .inl ?_, rfl⟩
                  rcases hor with ⟨z, _⟩ | z
                  · exact z
                  · obtain ⟨_, r', er', h56, _⟩ := hS a z
                    rw [eq] at er'
                    obtain rfl := Option.some.inj er'
                    exact absurd h56 h2
              · rw [if_neg (by simpa using h1)]
                exact ⟨a, st, .inr (by omega), rfl⟩
            · rcases hS0 with z | z
              · exact .inl ⟨rfl, z⟩
              · exact .inr z
          rintro f ρ σ' ⟨rfl, rfl, at_, st, hst, rfl⟩
          walk_at "vc"
          refine ite_i (σ' := σ) false (fun K hK => ?_) (fun z => by cases z) fun _ => skip_i ⟨rfl, _, _, _, fun g hg => hsub g (List.mem_cons_of_mem _ hg), rfl⟩
          walk_at "vc"
          rcases hst with rfl | rfl
          · simpa using hK
          · have e : decide (code.length + 1 ≤ code.length) = false := by simp only [decide_eq_false_iff_not]; omega
            rw [e]
            simpa using hK
      rintro f ρ σ' ⟨rfl, rfl, x1, x2, x3, rfl⟩
      walk_at "vc"
      refine ite_i (σ' := σ) (is56 r (i + 1) && decide (i + 1 < code.length)) (fun K hK => ?_) (fun hb => ?_) fun hb => ?_
      · walk_at "vc"
        rw [er]
        walk_at "vc"
        rw [eq_row56]
        simp only [ob_some]
        by_cases hb : is56 r (i + 1) = true
        · rw [if_pos hb]
          walk_at "vc"
          rw [hb, Bool.true_and] at hK
          exact hK
        · rw [if_neg hb]
          rw [(by simpa using hb : is56 r (i + 1) = false), Bool.false_and] at hK
          exact hK
      · have hb : is56 r (i + 1) = true ∧ i + 1 < code.length := by simpa using hb
        obtain ⟨c, hcm, hce⟩ := ht.idle i r er hb.1 hb.2
        refine ite_i (σ' := σ) false (fun K hK => ?_) (fun z => by cases z) fun _ => skip_i ⟨rfl, _, _, _, _, dn ++ [i], by simpa using hdn, rfl⟩
        walk_at "vc"
        refine ⟨lim_of (by omega), compV_filter (enc := eCl) (g := eCl) (p := fun c => decide (i ∈ c.edges) || decide (i + 1 ∈ c.edges)) cls [] σ _ (fun c _ K hK => ?_) (fun c _ _ K hK => ?_) ?_⟩
        · walk_at "vc"
          refine c_law_edges Γ ?_
          walk_at "vc"
          by_cases h1 : i ∈ c.edges
          · simpa [h1] using hK
          · rw [if_neg (by simpa using h1)]
            refine c_law_edges Γ ?_
            walk_at "vc"
            simpa [h1] using hK
        · walk_at "vc"; exact hK
        · have hne : cls.filter (fun c => decide (i ∈ c.edges) || decide (i + 1 ∈ c.edges)) ≠ [] := by
            intro z
            have : c ∈ cls.filter (fun c => decide (i ∈ c.edges) || decide (i + 1 ∈ c.edges)) := List.mem_filter.mpr ⟨hcm, by simpa using hce⟩
            rw [z] at this; cases this
          obtain ⟨y, ys, e⟩ := List.exists_cons_of_ne_nil hne
          rw [e]
          exact hK
      · exact skip_i ⟨rfl, _, _, _, _, dn ++ [i], by simpa using hdn, rfl⟩
  rintro f ρ σ' ⟨rfl, rfl⟩
  simp only [flK_next]
  walk_at "ret"
  simp only [RetQ, List.take_length]; exact h
end

end
section
noncomputable def cameOps : List Int := [56, 42, 122, 220, 65041, 221]
noncomputable def eI (i : Int) : PyData := .int i
theorem eqv_i (a b : Int) : PyData.eqv (eI a) (eI b) = decide (a = b) := by
  unfold eI; simp only [PyData.eqv]; rw [Bool.eq_iff_iff]; simp
theorem any_i (l : List Int) (a : Int) : ((l.map eI).any fun y => PyData.eqv y (eI a)) = decide (a ∈ l) := by
  induction l with
  | nil => simp
  | cons b l ih => rw [List.map_cons, List.any_cons, ih, eqv_i, Bool.eq_iff_iff]; simp; constructor <;> (rintro (h | h) <;> simp [h])
theorem nin_ops (a : Int) : cmpP .nin (.int a) (.tuple [.int 56, .int 42, .int 122, .int 220, .int 65041, .int 221]) = some (!decide (a ∈ cameOps)) := by
  show cmpP .nin (eI a) (.tuple (cameOps.map eI)) = _
  exact congrArg notP ((in_P rfl ((show Shp 0 (eI a) from shp_int a).ok (by omega)) ((shp_tup (shp_map (m := 0) (f := eI) shp_int cameOps)).ok (by omega))).trans (congrArg some (any_i _ _)))
noncomputable def clGoals (i : Nat) (c : Cl) : List Nat := if c.inT i then (if c.sort = 1 then [c.h0, c.ex] else [c.h0]) else []
noncomputable def rowGoals (i : Nat) (r : Row) : List Nat := (if r.op = 221 then [r.arg.goal] else goalsOf r) ++ (if r.op ∈ cameOps then [] else [i + 1])
noncomputable def cameGoals (cls : List Cl) (i : Nat) (r : Row) : List Nat := rowGoals i r ++ cls.flatMap (clGoals i)
noncomputable def addC (n : Nat) (acc : List Nat) (g : Nat) : List Nat := if g < n ∧ g ∉ acc then acc ++ [g] else acc
theorem clGoals_len (i : Nat) (c : Cl) : (clGoals i c).length ≤ 2 := by
  unfold clGoals; split
  · split <;> simp
  · simp
theorem clGoals_flat (i : Nat) : ∀ l : List Cl, (l.flatMap (clGoals i)).length ≤ 2 * l.length
  | [] => by simp
  | c :: l => by
    rw [List.flatMap_cons, List.length_append, List.length_cons]
    have := clGoals_len i c
    have := clGoals_flat i l
    omega
theorem goalsOf_len {n : Nat} {r : Row} (hr : RowOK n r) : (goalsOf r).length ≤ 3 := by
  unfold goalsOf
  by_cases h : r.op = 69
  · obtain ⟨gs, e, hl⟩ := hr.many h
    rw [if_pos h, e]; exact hl
  · rw [if_neg h]; split <;> simp
theorem mem_addNew : ∀ (gs l : List Nat) (x : Nat), x ∈ gs.foldl addNew l ↔ x ∈ l ∨ x ∈ gs
  | [], l, x => by simp
  | g :: gs, l, x => by
    rw [List.foldl_cons, mem_addNew gs (addNew l g) x]
    unfold addNew
    by_cases h : g ∈ l
    · rw [if_pos h, List.mem_cons]
      constructor
      · rintro (a | a)
        · exact .inl a
        · exact .inr (.inr a)
      · rintro (a | rfl | a)
        · exact .inl a
        · exact .inl h
        · exact .inr a
    · rw [if_neg h]; simp [or_assoc]
theorem mem_succs {code : List Row} {i : Nat} {r : Row} {j : Nat} : j ∈ succs code i r ↔ (endsFlow r.op = false ∧ i + 1 < code.length ∧ j = i + 1) ∨ j ∈ r.targets := by
  unfold succs
  rw [mem_addNew]
  by_cases h : endsFlow r.op = false ∧ i + 1 < code.length
  · rw [if_pos (by simp [h])]; simp [h]
  · rw [if_neg (by simpa using h)]
    simp only [List.not_mem_nil, false_or]
    constructor
    · exact .inr
    · rintro (⟨a, b, _⟩ | z)
      · exact absurd ⟨a, b⟩ h
      · exact z
theorem ends_came {n : Nat} {r : Row} (hr : RowOK n r) : endsFlow r.op = false ↔ r.op ∉ cameOps := by
  exact op_all (fun op => endsFlow op = false ↔ op ∉ cameOps) hr.mem (by decide)
theorem mem_rowGoals {code : List Row} {i : Nat} {r : Row} (hr : RowOK code.length r) {j : Nat} (hj : j < code.length) : j ∈ rowGoals i r ↔ j ∈ succs code i r := by
  rw [mem_succs, ends_came hr]
  unfold rowGoals
  rw [List.mem_append]
  have h1 : j ∈ (if r.op = 221 then [r.arg.goal] else goalsOf r) ↔ j ∈ r.targets := by
    by_cases h : r.op = 69
    · unfold goalsOf Row.targets
      rw [if_neg (by omega), if_pos h, if_pos h]
    · by_cases h2 : r.op = 221
      · rw [if_pos h2]; unfold Row.targets; rw [if_neg h, if_pos (by rw [h2]; rfl)]
      · rw [if_neg h2]; unfold goalsOf Row.targets
        rw [if_neg h, if_neg h]
        by_cases h3 : 56 ≤ r.op ∧ r.op < 69
        · rw [if_pos h3, if_pos (by unfold isBr; simp; omega)]
        · rw [if_neg h3, if_neg (by unfold isBr; simp; omega)]
  rw [h1]
  by_cases h : r.op ∈ cameOps
  · rw [if_pos h]; simp [h]
  · rw [if_neg h]
    simp only [List.mem_singleton, h, not_false_eq_true, true_and]
    constructor
    · rintro (a | a)
      · exact .inr a
      · exact .inl ⟨by omega, a⟩
    · rintro (a | a)
      · exact .inr a.2
      · exact .inl a
theorem came_edge {code : List Row} {cls : List Cl} {i : Nat} {r : Row} (hc : CodeOK code) (er : code[i]? = some r) {j : Nat} (hj : j < code.length) : j ∈ cameGoals cls i r ↔ Edge code cls i j := by
  have hr := hc.rows r (List.mem_of_getElem? er)
  unfold cameGoals Edge
  rw [List.mem_append, mem_rowGoals hr hj, List.mem_flatMap]
  constructor
  · rintro (a | ⟨c, hcm, a⟩)
    · exact .inl ⟨r, er, a⟩
    · refine .inr ⟨c, hcm, ?_⟩
      unfold clGoals at a
      split at a
      · rename_i h
        refine ⟨h, ?_⟩
        split at a
        · rename_i h1; simp at a; rcases a with a | a
          · exact .inl a
          · exact .inr ⟨h1, a⟩
        · simp at a; exact .inl a
      · cases a
  · rintro (⟨r', er', a⟩ | ⟨c, hcm, h, a⟩)
    · rw [er] at er'; obtain rfl := Option.some.inj er'; exact .inl a
    · refine .inr ⟨c, hcm, ?_⟩
      unfold clGoals
      rw [if_pos h]
      rcases a with a | ⟨h1, a⟩
      · split <;> simp [a]
      · rw [if_pos h1]; simp [a]
theorem edge_lt {code : List Row} {cls : List Cl} (hc : CodeOK code) (hl : ClsOK code.length cls) {i j : Nat} (h : Edge code cls i j) : j < code.length := by
  rcases h with ⟨r, er, h⟩ | ⟨c, hcm, h, a⟩
  · rw [mem_succs] at h
    rcases h with ⟨_, a, b⟩ | h
    · omega
    · exact (hc.rows r (List.mem_of_getElem? er)).tg j h
  · have hk := hl.each c hcm
    have h1 := hk.h0
    have h2 := hk.h1
    rcases a with a | ⟨h3, a⟩
    · omega
    · have := hk.ex h3; omega
theorem addC_fold (n : Nat) : ∀ (gs acc : List Nat), acc.Nodup → (∀ x ∈ acc, x < n) → (gs.foldl (addC n) acc).Nodup ∧ (∀ x ∈ gs.foldl (addC n) acc, x < n) ∧ (∃ ext, gs.foldl (addC n) acc = acc ++ ext ∧ ∀ x ∈ ext, x ∈ gs) ∧ ∀ x ∈ gs, x < n → x ∈ gs.foldl (addC n) acc
  | [], acc, h1, h2 => ⟨h1, h2, ⟨[], by simp, by simp⟩, by simp⟩
  | g :: gs, acc, h1, h2 => by
    rw [List.foldl_cons]
    by_cases h : g < n ∧ g ∉ acc
    · have e : addC n acc g = acc ++ [g] := by unfold addC; rw [if_pos h]
      rw [e]
      have hd : (acc ++ [g]).Nodup := by
        rw [List.nodup_append]; exact ⟨h1, by simp, fun x hx y hy => by simp at hy; subst hy; rintro rfl; exact h.2 hx⟩
      have hlt : ∀ x ∈ acc ++ [g], x < n := fun x hx => by
        rcases List.mem_append.mp hx with q | q
        · exact h2 x q
        · rw [List.mem_singleton.mp q]; exact h.1
      obtain ⟨a, b, ⟨ext, ee, em⟩, d⟩ := addC_fold n gs (acc ++ [g]) hd hlt
      refine ⟨a, b, ⟨g :: ext, by rw [ee]; simp, fun x hx => ?_⟩, fun x hx hn => ?_⟩
      · rcases List.mem_cons.mp hx with rfl | q
        · simp
        · exact List.mem_cons_of_mem _ (em x q)
      · rcases List.mem_cons.mp hx with rfl | q
        · rw [ee]; simp
        · exact d x q hn
    · have e : addC n acc g = acc := by unfold addC; rw [if_neg h]
      rw [e]
      obtain ⟨a, b, ⟨ext, ee, em⟩, d⟩ := addC_fold n gs acc h1 h2
      refine ⟨a, b, ⟨ext, ee, fun x hx => List.mem_cons_of_mem _ (em x hx)⟩, fun x hx hn => ?_⟩
      rcases List.mem_cons.mp hx with rfl | q
      · have : x ∈ acc := by
          by_cases hm : x ∈ acc
          · exact hm
          · exact absurd ⟨hn, hm⟩ h
        rw [ee]; exact List.mem_append.mpr (.inl this)
      · exact d x q hn




section
variable {prog : Program} {w : World} {base : Heap} {mg mb : Str → Option Value} {tab : Int → Option Int}

structure CI (code : List Row) (cls : List Cl) (turn : Nat) (came : List Nat) : Prop where
  nd : came.Nodup
  lt : ∀ x ∈ came, x < code.length
  re : ∀ x ∈ came, Reach code cls x
  z : 0 ∈ came
  cl : ∀ t, t < turn → ∀ x, came[t]? = some x → ∀ j, Edge code cls x j → j ∈ came
  tn : turn ≤ came.length

theorem c_law_came (Γ : Gd prog w base mg mb tab) {k : Nat} {code : List Row} {cls : List Cl} (hc : CodeOK code) (hl : ClsOK code.length cls) (h0 : 0 < code.length) {σ : Store} {Q : KV}
    (h : ∀ came : List Nat, came.length ≤ code.length → (∀ x, x ∈ came ↔ Reach code cls x) → Q (.d (.list (came.map eN))) σ) :
    CallOK prog w base mg (k + 1 + 1) "_law_came" [.d (eRows code), .d (eCls cls)] σ Q := by
  have hn := hc.len
  have hcl := hl.len
  refine call_law_came Γ rfl ?_
  simp only [ir_law_came]
  walk_at "step"
  walk_at "step"
  refine seq_cut (fun f ρ σ' => f = .next ∧ ∃ (came : List Nat) (x0 x1 x2 x3 x4 : Option V), CI code cls came.length came ∧ ρ = [some (.d (eRows code)), some (.d (eCls cls)), some (.l σ.length), x0, x1, x2, x3, x4] ∧ (∀ n, x1 ≠ some (.l n)) ∧ σ' = σ ++ [some (came.map eN)]) CallOK.mono ?_ ?_
  · refine while_i CallOK.mono (fun m ρ σ' => Ex6 fun (came : List Nat) (turn : Nat) (x1 : Option V) (x2 : Option V) (x3 : Option V) (x4 : Option V) => All5 (CI code cls turn came) (code.length ≤ m + turn) (ρ = [some (.d (eRows code)), some (.d (eCls cls)), some (.l σ.length), some (.d (eN turn)), x1, x2, x3, x4]) ((∀ n, x1 ≠ some (.l n))) (σ' = σ ++ [some (came.map eN)])) ?_ code.length _ _ ⟨[0], 0, _, _, _, _, ⟨by simp, by simp; exact h0, fun x hx => by (rw [List.mem_singleton.mp hx]; exact .zero), by simp, fun t ht => by omega, by simp⟩, by omega, rfl, fun n z => by (cases z), rfl⟩
    rintro m ρ _ ⟨came, turn, x1, x2, x3, x4, C, hm, rfl, hx1, rfl⟩
    have hcm := pigeon _ _ C.nd C.lt
    walk_at "vc"
    by_cases ht : turn < came.length
    · rw [if_pos (by simpa using ht)]
      obtain ⟨i, ei⟩ : ∃ i, came[turn]? = some i := ⟨_, List.getElem?_eq_getElem ht⟩
      have him := List.mem_of_getElem? ei
      have hi := C.lt i him
      obtain ⟨r, er⟩ : ∃ r, code[i]? = some r := ⟨_, List.getElem?_eq_getElem hi⟩
      have hr := hc.rows r (List.mem_of_getElem? er)
      refine seq_step (ρ' := [some (.d (eRows code)), some (.d (eCls cls)), some (.l σ.length), some (.d (eN turn)), some (.d (eN i)), x2, x3, x4]) (σ' := σ ++ [some (came.map eN)]) (fun K hK => ?_) ?_
      · walk_at "st"; rw [List.getElem?_map, ei]; exact hK
      walk_at "step"
      refine seq_step (ρ' := [some (.d (eRows code)), some (.d (eCls cls)), some (.l σ.length), some (.d (eN (turn + 1))), some (.d (eN i)), some (.d (.list ((goalsOf r).map eN))), x3, x4]) (σ' := σ ++ [some (came.map eN)]) (fun K hK => ?_) ?_
      · walk_at "st"; rw [er]; walk_at "vc"; exact c_law_goals Γ hr hK
      refine seq_cut (fun f ρ σ' => f = .next ∧ ρ = [some (.d (eRows code)), some (.d (eCls cls)), some (.l σ.length), some (.d (eN (turn + 1))), some (.d (eN i)), some (.d (.list ((if r.op = 221 then [r.arg.goal] else goalsOf r).map eN))), x3, x4] ∧ σ' = σ ++ [some (came.map eN)]) CallOK.mono ?_ ?_
      · refine ite_i (σ' := σ ++ [some (came.map eN)]) (decide (r.op = 221)) (fun K hK => ?_) (fun hb => ?_) fun hb => ?_
        · walk_at "vc"; rw [er]; walk_at "vc"; exact hK
        · have hb : r.op = 221 := by simpa using hb
          obtain ⟨g, eg⟩ := hr.one (by omega)
          walk_at "st"
          rw [er]
          walk_at "vc"
          rw [if_pos hb, eg]; rfl
        · refine skip_i ⟨rfl, ?_, rfl⟩
          rw [if_neg (by simpa using hb)]
      rintro f ρ σ' ⟨rfl, rfl, rfl⟩
      walk_at "vc"
      have hbl : (if r.op = 221 then [r.arg.goal] else goalsOf r).length ≤ 3 := by
        split
        · simp
        · exact goalsOf_len hr
      have hrg : rowGoals i r = (if r.op = 221 then [r.arg.goal] else goalsOf r) ++ (if r.op ∈ cameOps then [] else [i + 1]) := rfl
      obtain ⟨bs, ebs⟩ : ∃ bs, bs = (if r.op = 221 then [r.arg.goal] else goalsOf r) := ⟨_, rfl⟩
      rw [← ebs] at hbl hrg ⊢
      refine seq_cut (fun f ρ σ' => f = .next ∧ ρ = [some (.d (eRows code)), some (.d (eCls cls)), some (.l σ.length), some (.d (eN (turn + 1))), some (.d (eN i)), some (.d (.list ((rowGoals i r).map eN))), x3, x4] ∧ σ' = σ ++ [some (came.map eN)]) CallOK.mono ?_ ?_
      · refine ite_i (σ' := σ ++ [some (came.map eN)]) (!decide (r.op ∈ cameOps)) (fun K hK => ?_) (fun hb => ?_) fun hb => ?_
        · walk_at "vc"; rw [er]; walk_at "vc"; rw [nin_ops]; exact hK
        · walk_at "st"
          rw [add_ll, if_pos (by rw [List.length_map]; exact lim_of (by simp; omega))]
          walk_at "vc"
          rw [hrg, if_neg (by simpa using hb), List.map_append]; rfl
        · refine skip_i ⟨rfl, ?_, rfl⟩
          rw [hrg, if_pos (by simpa using hb), List.append_nil]
      rintro f ρ σ' ⟨rfl, rfl, rfl⟩
      walk_at "vc"
      have hrl : (rowGoals i r).length ≤ 4 := by
        rw [hrg, List.length_append]; split <;> simp <;> omega
      obtain ⟨rg, erg⟩ : ∃ rg, rg = rowGoals i r := ⟨_, rfl⟩
      rw [← erg] at hrl ⊢
      refine seq_cut (fun f ρ σ' => f = .next ∧ ∃ x3, ρ = [some (.d (eRows code)), some (.d (eCls cls)), some (.l σ.length), some (.d (eN (turn + 1))), some (.d (eN i)), some (.d (.list ((rg ++ cls.flatMap (clGoals i)).map eN))), x3, x4] ∧ σ' = σ ++ [some (came.map eN)]) CallOK.mono ?_ ?_
      · refine loop_i (xs := cls.map eCl) (σ' := σ ++ [some (came.map eN)]) (fun K hK => ?_) ?_
        · walk_at "vc"; exact hK
        · refine forV_ind (enc := eCl) CallOK.mono (fun l ρ σ' => Ex2 fun (x3 : Option V) (dn : List Cl) => All3 (dn ++ l = cls) (ρ = [some (.d (eRows code)), some (.d (eCls cls)), some (.l σ.length), some (.d (eN (turn + 1))), some (.d (eN i)), some (.d (.list ((rg ++ dn.flatMap (clGoals i)).map eN))), x3, x4]) (σ' = σ ++ [some (came.map eN)])) ?_ ?_ _ _ _ ⟨x3, [], rfl, by simp, rfl⟩
          · rintro c l ρ _ ⟨x3, dn, hdn, rfl, rfl⟩
            have hdl : dn.length ≤ 3 := by
              have : dn.length + (c :: l).length = cls.length := by rw [← List.length_append, hdn]
              omega
            have hfl := clGoals_flat i dn
            have hacc : rg ++ (dn ++ [c]).flatMap (clGoals i) = (rg ++ dn.flatMap (clGoals i)) ++ clGoals i c := by simp
            obtain ⟨ac, eac⟩ : ∃ ac, ac = rg ++ dn.flatMap (clGoals i) := ⟨_, rfl⟩
            have hacl : ac.length ≤ 10 := by rw [eac, List.length_append]; omega
            rw [← eac] at hacc ⊢
            walk_at "vc"
            refine ite_i (σ' := σ ++ [some (came.map eN)]) (decide (c.inT i)) (fun K hK => ?_) (fun hb => ?_) fun hb => ?_
            · walk_at "vc"
              unfold Cl.inT at hK
              by_cases h1 : c.t0 ≤ i
              · by_cases h2 : i < c.t1
                · simpa [h1, h2] using hK
                · simpa [h1, h2] using hK
              · simpa [h1] using hK
            · have hb : c.inT i := by simpa using hb
              walk_at "st"
              by_cases h1 : c.sort = 1
              · rw [if_pos (by simpa using h1)]
                rw [add_ll, if_pos (by rw [List.length_map]; exact lim_of (by simp; omega))]
                walk_at "vc"
                refine ⟨some (.d (eCl c)), dn ++ [c], by simpa using hdn, ?_, trivial⟩
                rw [hacc]; unfold clGoals; rw [if_pos hb, if_pos h1, List.map_append]; rfl
              · rw [if_neg (by simpa using h1)]
                rw [add_ll, if_pos (by rw [List.length_map]; exact lim_of (by simp; omega))]
                walk_at "vc"
                refine ⟨some (.d (eCl c)), dn ++ [c], by simpa using hdn, ?_, trivial⟩
                rw [hacc]; unfold clGoals; rw [if_pos hb, if_neg h1, List.map_append]; rfl
            · have hb : ¬ c.inT i := by simpa using hb
              refine skip_i ⟨some (.d (eCl c)), dn ++ [c], by simpa using hdn, ?_, rfl⟩
              rw [hacc]; unfold clGoals; rw [if_neg hb, List.append_nil]
          · rintro ρ _ ⟨x3, dn, hdn, rfl, rfl⟩
            rw [List.append_nil] at hdn
            subst hdn
            exact ⟨rfl, x3, rfl, rfl⟩
      rintro f ρ σ' ⟨rfl, x3', rfl, rfl⟩
      walk_at "vc"
      have hgs : rg ++ cls.flatMap (clGoals i) = cameGoals cls i r := by unfold cameGoals; rw [erg]
      rw [hgs]
      obtain ⟨gs, egs⟩ : ∃ gs, gs = cameGoals cls i r := ⟨_, rfl⟩
      rw [← egs]
      obtain ⟨hN, hL, ⟨ext, ee, em⟩, hA⟩ := addC_fold code.length gs came C.nd C.lt
      refine loop_i (xs := gs.map eN) (σ' := σ ++ [some (came.map eN)]) (fun K hK => ?_) ?_
      · walk_at "vc"; exact hK
      refine forV_ind (enc := eN) CallOK.mono (fun l ρ σ' => Ex2 fun (x4 : Option V) (acc : List Nat) => All5 (acc.Nodup) ((∀ x ∈ acc, x < code.length)) (l.foldl (addC code.length) acc = gs.foldl (addC code.length) came) (ρ = [some (.d (eRows code)), some (.d (eCls cls)), some (.l σ.length), some (.d (eN (turn + 1))), some (.d (eN i)), some (.d (.list (gs.map eN))), x3', x4]) (σ' = σ ++ [some (acc.map eN)])) ?_ ?_ _ _ _ ⟨_, came, C.nd, C.lt, rfl, rfl, rfl⟩
      · rintro g l ρ _ ⟨x4, acc, hnd, hlt, hf, rfl, rfl⟩
        have hal := pigeon _ _ hnd hlt
        walk_at "vc"
        refine ite_i (σ' := σ ++ [some (acc.map eN)]) (decide (g < code.length ∧ g ∉ acc)) (fun K hK => ?_) (fun hb => ?_) fun hb => ?_
        · walk_at "vc"
          by_cases h1 : g < code.length
          · by_cases h2 : g ∈ acc
            · simpa [h1, h2] using hK
            · simpa [h1, h2] using hK
          · simpa [h1] using hK
        · have hb : g < code.length ∧ g ∉ acc := by simpa using hb
          walk_at "st"
          refine ⟨lim_lt_of (by omega), _, acc ++ [g], ?_, ?_, ?_, rfl, ?_⟩
          · rw [List.nodup_append]; exact ⟨hnd, by simp, fun x hx y hy => by simp at hy; subst hy; rintro rfl; exact hb.2 hx⟩
          · intro x hx
            rcases List.mem_append.mp hx with q | q
            · exact hlt x q
            · rw [List.mem_singleton.mp q]; exact hb.1
          · rw [← hf, List.foldl_cons]; unfold addC; rw [if_pos hb]
          · rw [List.map_append]; rfl
        · have hb : ¬ (g < code.length ∧ g ∉ acc) := by
            intro z; rw [decide_eq_false_iff_not] at hb; exact hb z
          refine skip_i ⟨_, acc, hnd, hlt, ?_, rfl, rfl⟩
          rw [← hf, List.foldl_cons]; unfold addC; rw [if_neg hb]
      · rintro ρ _ ⟨x4, acc, hnd, hlt, hf, rfl, rfl⟩
        rw [List.foldl_nil] at hf
        refine ⟨m - 1, by omega, acc, turn + 1, _, _, _, _, ?_, by omega, rfl, fun n z => by (cases z), rfl⟩
        rw [hf]
        refine ⟨hN, hL, fun x hx => ?_, ?_, fun t ht' x hx j hj => ?_, ?_⟩
        · rw [ee] at hx
          rcases List.mem_append.mp hx with q | q
          · exact C.re x q
          · refine .step (C.re i him) ((came_edge (cls := cls) hc er (hL x (by rw [ee]; exact hx))).mp ?_)
            rw [← egs]; exact em x q
        · rw [ee]; exact List.mem_append.mpr (.inl C.z)
        · have hx' : came[t]? = some x := by
            rw [ee, List.getElem?_append_left (by omega)] at hx; exact hx
          by_cases htt : t < turn
          · rw [ee]; exact List.mem_append.mpr (.inl (C.cl t htt x hx' j hj))
          · obtain rfl : t = turn := by omega
            rw [ei] at hx'
            obtain rfl := Option.some.inj hx'
            refine hA j ?_ (edge_lt hc hl hj)
            rw [egs]
            exact (came_edge hc er (edge_lt hc hl hj)).mpr hj
        · rw [ee, List.length_append]; omega
    · rw [if_neg (by simpa using ht)]
      have := C.tn
      obtain rfl : turn = came.length := by omega
      exact ⟨came, _, _, _, _, _, C, rfl, hx1, rfl⟩
  rintro f ρ σ' ⟨rfl, came, x0, x1, x2, x3, x4, C, rfl, hx1, rfl⟩
  walk_at "vc"
  walk_at "step"
  walk_at "ret"
  simp only [RetQ, take_app]
  refine h came (pigeon _ _ C.nd C.lt) fun x => ⟨fun hx => C.re x hx, fun hx => ?_⟩
  induction hx with
  | zero => exact C.z
  | step hr he ih =>
    obtain ⟨t, ht, e⟩ := List.mem_iff_getElem.mp ih
    exact C.cl t ht _ (by rw [List.getElem?_eq_getElem ht, e]) _ he
end

end
section
theorem closes_lt {code : List Row} {c : Cl} (h : closes code c = true) : c.h0 - 1 < code.length := by
  unfold closes at h
  cases e : code[c.h0 - 1]? with
  | none => rw [e] at h; simp at h
  | some r => exact (List.getElem?_eq_some_iff.mp e).1
theorem closeF_get (code : List Row) (i : Nat) : ∀ (cls : List Cl) (fl : List Bool), fl.length = code.length → ((closeF code cls fl)[i]? = some true ↔ fl[i]? = some true ∨ ∃ c ∈ cls, closes code c = true ∧ i = c.h0 - 1)
  | [], fl, _ => by unfold closeF; simp
  | c :: l, fl, hf => by
    have e : closeF code (c :: l) fl = closeF code l (if closes code c = true then fl.set (c.h0 - 1) true else fl) := rfl
    rw [e, closeF_get code i l _ (by split <;> simp [hf])]
    by_cases h : closes code c = true
    · rw [if_pos h, get_set_true (by rw [hf]; exact closes_lt h)]
      constructor
      · rintro ((a | a) | ⟨d, hd, a⟩)
        · exact .inr ⟨c, List.mem_cons_self, h, a⟩
        · exact .inl a
        · exact .inr ⟨d, List.mem_cons_of_mem _ hd, a⟩
      · rintro (a | ⟨d, hd, a⟩)
        · exact .inl (.inr a)
        · rcases List.mem_cons.mp hd with rfl | hd
          · exact .inl (.inl a.2)
          · exact .inr ⟨d, hd, a⟩
    · rw [if_neg h]
      constructor
      · rintro (a | ⟨d, hd, a⟩)
        · exact .inl a
        · exact .inr ⟨d, List.mem_cons_of_mem _ hd, a⟩
      · rintro (a | ⟨d, hd, a⟩)
        · exact .inl a
        · rcases List.mem_cons.mp hd with rfl | hd
          · exact absurd a.1 h
          · exact .inr ⟨d, hd, a⟩
noncomputable def keptB (fl : List Bool) (i : Nat) : Bool := fl[i]? == some true
theorem keptB_iff {fl : List Bool} {i : Nat} : keptB fl i = true ↔ fl[i]? = some true := by unfold keptB; simp
theorem plc_cnt (fl : List Bool) : ∀ i, i ≤ fl.length → plc fl i = ((List.range i).filter (keptB fl)).length
  | 0, _ => by unfold plc; simp
  | i + 1, h => by
    have e : fl[i]? = some fl[i] := List.getElem?_eq_getElem (by omega)
    rw [plc_succ e, plc_cnt fl i (by omega), List.range_succ, List.filter_append, List.length_append]
    congr 1
    cases hb : fl[i] with
    | true => rw [List.filter_cons_of_pos (by unfold keptB; rw [e, hb]; rfl)]; rfl
    | false => rw [List.filter_cons_of_neg (by unfold keptB; rw [e, hb]; decide)]; rfl
theorem filter_lt (p : Nat → Bool) {n i : Nat} (h : i ≤ n) : ((List.range n).filter p).filter (fun x => decide (x < i)) = (List.range i).filter p := by
  obtain ⟨d, rfl⟩ : ∃ d, n = i + d := ⟨n - i, by omega⟩
  have e1 : ((List.range i).filter p).filter (fun x => decide (x < i)) = (List.range i).filter p := List.filter_eq_self.mpr fun x hx => by
    have := List.mem_range.mp (List.mem_filter.mp hx).1
    simpa using this
  have e2 : (((List.range d).map (fun x => i + x)).filter p).filter (fun x => decide (x < i)) = [] := List.filter_eq_nil_iff.mpr fun x hx => by
    obtain ⟨y, _, rfl⟩ := List.mem_map.mp (List.mem_filter.mp hx).1
    simp
  rw [List.range_add, List.filter_append, List.filter_append, e1, e2, List.append_nil]
theorem places_stay (fl : List Bool) : (List.range (fl.length + 1)).map (fun i => eN ((((List.range fl.length).filter (keptB fl)).filter (fun x => decide (x < i))).length)) = (placesOf fl).map eN := by
  unfold placesOf
  rw [List.map_map]
  refine List.map_congr_left fun i hi => ?_
  have hi := List.mem_range.mp hi
  rw [filter_lt _ (by omega), ← plc_cnt fl i (by omega)]; rfl
theorem moveRow_op (p : Nat → Nat) (r : Row) : (moveRow p r).op = r.op := by
  unfold moveRow; split
  · rfl
  · split <;> rfl
noncomputable def opAt (code : List Row) (i : Nat) : Int := match code[i]? with | some r => r.op | none => 0
theorem keep_ops (fl : List Bool) (code : List Row) : ∀ l : List Nat, (∀ i ∈ l, i < code.length) → (l.filterMap (keepOne fl code)).map (fun r => eI r.op) = (l.filter (keptB fl)).map (fun i => eI (opAt code i))
  | [], _ => rfl
  | i :: l, h => by
    have ih := keep_ops fl code l fun j hj => h j (List.mem_cons_of_mem _ hj)
    obtain ⟨r, er⟩ : ∃ r, code[i]? = some r := ⟨_, List.getElem?_eq_getElem (h i List.mem_cons_self)⟩
    by_cases hb : fl[i]? = some true
    · have e : keepOne fl code i = some (moveRow (plc fl) r) := by unfold keepOne; rw [if_pos hb, er]; rfl
      rw [List.filterMap_cons, e, List.filter_cons_of_pos (keptB_iff.mpr hb), List.map_cons, List.map_cons, ih, moveRow_op]
      unfold opAt; rw [er]
    · have e : keepOne fl code i = none := by unfold keepOne; rw [if_neg hb]
      rw [List.filterMap_cons, e, List.filter_cons_of_neg (fun z => hb (keptB_iff.mp z)), ih]
theorem eqvAll_refl : ∀ xs : List PyData, (∀ x ∈ xs, PyData.eqv x x = true) → PyData.eqvAll xs xs = true
  | [], _ => by simp [PyData.eqvAll]
  | x :: xs, h => by
    simp only [PyData.eqvAll, h x List.mem_cons_self, eqvAll_refl xs fun y hy => h y (List.mem_cons_of_mem _ hy), Bool.and_self]
theorem cmp_refl {m : Nat} {xs : List PyData} (h : ∀ x ∈ xs, Shp m x) (hm : m ≤ 60) (he : ∀ x ∈ xs, PyData.eqv x x = true) : cmpP .eq (.list xs) (.list xs) = some true := by
  show (if SeqAt.shaped (.list xs) && SeqAt.shaped (.list xs) then some (PyData.eqv (.list xs) (.list xs)) else none) = _
  rw [(shp_list h).ok (by omega)]
  simp only [PyData.eqv, eqvAll_refl xs he, Bool.and_self, if_true]
theorem cmp_eI {α : Type} (f : α → Int) (l : List α) : cmpP .eq (.list (l.map fun a => eI (f a))) (.list (l.map fun a => eI (f a))) = some true :=
  cmp_refl (m := 0) (fun x hx => by obtain ⟨a, _, rfl⟩ := List.mem_map.mp hx; exact shp_int _) (by omega) fun x hx => by
    obtain ⟨a, _, rfl⟩ := List.mem_map.mp hx; rw [eqv_i]; simp
theorem eqv_cl (c : Cl) : PyData.eqv (eCl c) (eCl c) = true := by
  unfold eCl eN; simp [PyData.eqv, PyData.eqvAll]
theorem map_all {α : Type} {f : α → PyData} {P : PyData → Prop} (h : ∀ a, P (f a)) (l : List α) : ∀ x ∈ l.map f, P x := fun x hx => by
  obtain ⟨a, _, rfl⟩ := List.mem_map.mp hx; exact h a
theorem tupP_keep (fl : List Bool) (code : List Row) (cls : List Cl) : tupP (keepT fl code cls) = some [eRows (keepRows fl code), eCls (cls.map (moveCl (plc fl))), .list ((placesOf fl).map eN)] := rfl
theorem lives_came {code : List Row} {cls : List Cl} {fl : List Bool} {came : List Nat} (h1 : ∀ x, x ∈ came ↔ Reach code cls x) (h2 : ∀ i : Nat, fl[i]? = some true ↔ Reach code cls i) :
    (cls.filter fun c => !(came.filter fun i => decide (c.inT i)).isEmpty) = livesOf fl cls := by
  unfold livesOf
  refine List.filter_congr fun c _ => ?_
  rw [Bool.eq_iff_iff]
  simp only [Bool.not_eq_true', List.isEmpty_eq_false_iff, ne_eq, List.filter_eq_nil_iff, List.any_eq_true, List.mem_range'_1, beq_iff_eq, decide_eq_true_eq]
  constructor
  · intro h
    have : ∃ x, x ∈ came ∧ c.inT x := by
      refine Classical.byContradiction fun z => h fun x hx hi => z ⟨x, hx, hi⟩
    obtain ⟨x, hx, hi⟩ := this
    exact ⟨x, ⟨hi.1, by have := hi.2; have := hi.1; omega⟩, (h2 x).mpr ((h1 x).mp hx)⟩
  · rintro ⟨x, ⟨ha, hb⟩, hf⟩ z
    exact z x ((h1 x).mpr ((h2 x).mp hf)) ⟨ha, by omega⟩




section
variable {prog : Program} {w : World} {base : Heap} {mg mb : Str → Option Value} {tab : Int → Option Int}

theorem c_law_left (Γ : Gd prog w base mg mb tab) {k : Nat} {code : List Row} {cls : List Cl} (hc : CodeOK code) (hl : ClsOK code.length cls) (h0 : 0 < code.length) {fl : List Bool} (hfl : fl.length = code.length)
    (hr : ∀ i : Nat, fl[i]? = some true ↔ Reach code cls i) {σ : Store} {Q : KV} (h : Q (.d (.bool true)) σ) :
    CallOK prog w base mg (k + 1 + 1 + 1) "_law_left" [.d (eRows code), .d (eCls cls), .d (keepT (closeF code (livesOf fl cls) fl) code (livesOf fl cls))] σ Q := by
  have hn := hc.len
  have hcl := hl.len
  obtain ⟨lv, elv⟩ : ∃ lv, lv = livesOf fl cls := ⟨_, rfl⟩
  obtain ⟨kf, ekf⟩ : ∃ kf, kf = closeF code lv fl := ⟨_, rfl⟩
  have hkl : kf.length = code.length := by rw [ekf, closeF_len, hfl]
  have hlv : ∀ c ∈ lv, c ∈ cls := fun c hm => by rw [elv] at hm; exact (List.mem_filter.mp hm).1
  have hll : lv.length ≤ 3 := by rw [elv]; exact Nat.le_trans (List.length_filter_le _ _) hcl
  rw [← elv, ← ekf]
  refine call_law_left Γ rfl ?_
  simp only [ir_law_left]
  obtain ⟨D, eD⟩ : ∃ D, D = keepT kf code lv := ⟨_, rfl⟩
  rw [← eD]
  refine seq_cut (fun f ρ σ' => f = .next ∧ σ = σ' ∧ ∃ came : List Nat, came.length ≤ code.length ∧ (∀ x, x ∈ came ↔ Reach code cls x) ∧ ρ = [some (.d (eRows code)), some (.d (eCls cls)), some (.d D), some (.d (.list (came.map eN))), none, none, none, none, none, none, none, none, none]) CallOK.mono ?_ ?_
  · walk_at "st"
    exact c_law_came Γ hc hl h0 fun came h1 h2 => by walk_at "vc"; exact ⟨came, h1, h2, rfl⟩
  rintro f ρ σ' ⟨rfl, rfl, came, hca, hcm, rfl⟩
  walk_at "vc"
  have hliv := lives_came (cls := cls) hcm hr
  rw [← elv] at hliv
  refine seq_step (ρ' := [some (.d (eRows code)), some (.d (eCls cls)), some (.d D), some (.d (.list (came.map eN))), some (.d (eCls lv)), none, none, none, none, none, none, none, none]) (σ' := σ) (fun K hK => ?_) ?_
  · walk_at "st"
    refine ⟨lim_of (by omega), compV_filter (enc := eCl) (g := eCl) (p := fun c => !(came.filter fun i => decide (c.inT i)).isEmpty) cls [] σ _ (fun c _ K hK => ?_) (fun c _ _ K hK => ?_) ?_⟩
    · walk_at "vc"
      refine ⟨lim_of (by omega), compV_filter (enc := eN) (g := eN) (p := fun i => decide (c.inT i)) came [] σ _ (fun i _ K hK => ?_) (fun i _ _ K hK => ?_) ?_⟩
      · walk_at "vc"
        unfold Cl.inT at hK
        by_cases h1 : c.t0 ≤ i
        · by_cases h2 : i < c.t1
          · simpa [h1, h2] using hK
          · simpa [h1, h2] using hK
        · simpa [h1] using hK
      · walk_at "vc"; exact hK
      · walk_at "vc"
        rw [List.isEmpty_map]
        exact hK
    · walk_at "vc"; exact hK
    · rw [hliv]; exact hK
  refine seq_step (ρ' := [some (.d (eRows code)), some (.d (eCls cls)), some (.d D), some (.d (.list (came.map eN))), some (.d (eCls lv)), some (.d (.list (((lv.filter (closes code)).map fun c => c.h0 - 1).map eN))), none, none, none, none, none, none, none]) (σ' := σ) (fun K hK => ?_) ?_
  · walk_at "st"
    refine ⟨lim_of (by omega), compV_filter (enc := eCl) (g := fun c => eN (c.h0 - 1)) (p := closes code) lv [] σ _ (fun c hcm K hK => ?_) (fun c hcm hp K hK => ?_) ?_⟩
    · have hck := hl.each c (hlv c hcm)
      have h1 := hck.h0
      have h2 := hck.h1
      obtain ⟨r, er⟩ : ∃ r, code[c.h0 - 1]? = some r := ⟨_, List.getElem?_eq_getElem (by omega)⟩
      walk_at "vc"
      unfold closes at hK
      rw [er] at hK
      by_cases hs : c.sort = 1
      · simp only [hs, decide_true, if_true, beq_self_eq_true, Bool.true_and] at hK ⊢
        by_cases hp : 0 < c.h0
        · simp only [hp, decide_true, if_true, Bool.true_and] at hK ⊢
          rw [sub_n1 _ hp]
          walk_at "vc"
          rw [er]
          walk_at "vc"
          exact hK
        · simp only [hp, decide_false, Bool.false_eq_true, if_false, Bool.false_and] at hK ⊢
          exact hK
      · simp only [hs, decide_false, Bool.false_eq_true, if_false] at hK ⊢
        rw [show (c.sort == 1) = false by simpa using hs] at hK
        exact hK
    · have hp0 : 0 < c.h0 := by unfold closes at hp; simp at hp; omega
      walk_at "vc"
      rw [sub_n1 _ hp0]
      walk_at "vc"
      exact hK
    · rw [List.map_map] at hK
      exact hK
  obtain ⟨cg, ecg⟩ : ∃ cg, cg = (lv.filter (closes code)).map fun c => c.h0 - 1 := ⟨_, rfl⟩
  rw [← ecg]
  have hstay : (List.range code.length).filter (fun i => decide (i ∈ came) || decide (i ∈ cg)) = (List.range code.length).filter (keptB kf) := by
    refine List.filter_congr fun i _ => ?_
    rw [Bool.eq_iff_iff, keptB_iff, ekf, closeF_get code i lv fl hfl]
    simp only [Bool.or_eq_true, decide_eq_true_eq, hcm, hr, ecg, List.mem_map, List.mem_filter]
    constructor
    · rintro (a | ⟨c, ⟨h1, h2⟩, rfl⟩)
      · exact .inl a
      · exact .inr ⟨c, h1, h2, rfl⟩
    · rintro (a | ⟨c, h1, h2, rfl⟩)
      · exact .inl a
      · exact .inr ⟨c, ⟨h1, h2⟩, rfl⟩
  obtain ⟨sy, esy⟩ : ∃ sy, sy = (List.range code.length).filter (keptB kf) := ⟨_, rfl⟩
  have hpl : (List.range (code.length + 1)).map (fun i => eN ((sy.filter (fun x => decide (x < i))).length)) = (placesOf kf).map eN := by rw [esy, ← hkl]; exact places_stay kf
  have hsyl : sy.length ≤ 18 := by
    rw [esy]; refine Nat.le_trans (List.length_filter_le _ _) ?_; rw [List.length_range]; exact hn
  refine seq_step (ρ' := [some (.d (eRows code)), some (.d (eCls cls)), some (.d D), some (.d (.list (came.map eN))), some (.d (eCls lv)), some (.d (.list (cg.map eN))), some (.d (.list (sy.map eN))), none, none, none, none, none, none]) (σ' := σ) (fun K hK => ?_) ?_
  · walk_at "st"
    refine rng_ok (by omega) ⟨lim_of (by omega), ?_⟩
    refine compV_filter (enc := eN) (g := eN) (p := fun i => decide (i ∈ came) || decide (i ∈ cg)) _ [] σ _ (fun i _ K hK => ?_) (fun i _ _ K hK => ?_) ?_
    · walk_at "vc"
      by_cases h1 : i ∈ came
      · simpa [h1] using hK
      · simpa [h1] using hK
    · walk_at "vc"; exact hK
    · rw [hstay, ← esy]; exact hK
  refine seq_step (ρ' := [some (.d (eRows code)), some (.d (eCls cls)), some (.d D), some (.d (.list (came.map eN))), some (.d (eCls lv)), some (.d (.list (cg.map eN))), some (.d (.list (sy.map eN))), some (.d (.list ((placesOf kf).map eN))), none, none, none, none, none]) (σ' := σ) (fun K hK => ?_) ?_
  · walk_at "st"
    refine rng_ok (by omega) ⟨lim_of (by omega), ?_⟩
    refine compV_map (enc := eN) (g := fun i => eN ((sy.filter (fun x => decide (x < i))).length)) _ _ _ (fun i _ K hK => hK) (fun i _ K hK => ?_) ?_
    · walk_at "vc"
      refine ⟨lim_of (by omega), compV_filter (enc := eN) (g := eN) (p := fun x => decide (x < i)) sy [] σ _ (fun x _ K hK => ?_) (fun x _ _ K hK => ?_) ?_⟩
      · walk_at "vc"; exact hK
      · walk_at "vc"; exact hK
      · walk_at "vc"; exact hK
    · rw [hpl]; exact hK
  walk_at "step"
  refine seq_cut (fun f ρ σ' => f = .next ∧ ∃ x, ρ = [some (.d (eRows code)), some (.d (eCls cls)), some (.d D), some (.d (.list (came.map eN))), some (.d (eCls lv)), some (.d (.list (cg.map eN))), some (.d (.list (sy.map eN))), some (.d (.list ((placesOf kf).map eN))), some (.l σ.length), x, none, none, none] ∧ σ' = σ ++ [some ((lv.map (moveCl (plc kf))).map eCl)]) CallOK.mono ?_ ?_
  · refine loop_i (xs := lv.map eCl) (σ' := σ ++ [some []]) (fun K hK => ?_) ?_
    · walk_at "vc"; exact hK
    · refine forV_ind (enc := eCl) CallOK.mono (fun l ρ σ' => Ex2 fun (x : Option V) (dn : List Cl) => All3 (dn ++ l = lv) (ρ = [some (.d (eRows code)), some (.d (eCls cls)), some (.d D), some (.d (.list (came.map eN))), some (.d (eCls lv)), some (.d (.list (cg.map eN))), some (.d (.list (sy.map eN))), some (.d (.list ((placesOf kf).map eN))), some (.l σ.length), x, none, none, none]) (σ' = σ ++ [some ((dn.map (moveCl (plc kf))).map eCl)])) ?_ ?_ _ _ _ ⟨none, [], rfl, rfl, rfl⟩
      · rintro c l ρ _ ⟨x, dn, hdn, rfl, rfl⟩
        have hdl : dn.length ≤ 3 := by
          have : dn.length + (c :: l).length = lv.length := by rw [← List.length_append, hdn]
          omega
        have hck := hl.each c (hlv c (by rw [← hdn]; simp))
        have g1 := hck.t0
        have g2 := hck.t1
        have g3 := hck.h0
        have g4 := hck.h1
        have g5 := hck.ex
        walk_at "vc"
        walk_at "st"
        rw [get_places (by omega)]
        walk_at "vc"
        rw [get_places (by omega)]
        walk_at "vc"
        rw [get_places (by omega)]
        walk_at "vc"
        rw [get_places (by omega)]
        walk_at "vc"
        by_cases hs : c.sort = 1
        · have := g5 hs
          rw [if_pos (by simpa using hs), get_places (by omega)]
          walk_at "vc"
          refine ⟨lim_lt_of (by omega), some (.d (eCl c)), dn ++ [c], by simpa using hdn, rfl, ?_⟩
          rw [List.map_append, List.map_append]
          unfold moveCl eCl; simp [hs]
        · rw [if_neg (by simpa using hs)]
          refine ⟨lim_lt_of (by omega), some (.d (eCl c)), dn ++ [c], by simpa using hdn, rfl, ?_⟩
          rw [List.map_append, List.map_append]
          unfold moveCl eCl; simp [hs]
      · rintro ρ _ ⟨x, dn, hdn, rfl, rfl⟩
        rw [List.append_nil] at hdn
        subst hdn
        exact ⟨rfl, x, rfl, rfl⟩
  rintro f ρ σ' ⟨rfl, x, rfl, rfl⟩
  walk_at "vc"
  obtain ⟨rest, erest⟩ : ∃ rest, rest = keepRows kf code := ⟨_, rfl⟩
  have hrestl : rest.length ≤ 18 := by
    rw [erest, keepRows_eq]; refine Nat.le_trans (List.length_filterMap_le _ _) ?_; rw [List.length_range]; exact hn
  obtain ⟨W, eW⟩ : ∃ W, W = (lv.map (moveCl (plc kf))).map eCl := ⟨_, rfl⟩
  have hDt : tupP D = some [eRows rest, .list W, .list ((placesOf kf).map eN)] := by rw [eD, tupP_keep, erest, eW]; rfl
  rw [← eW]
  refine seq_step (ρ' := [some (.d (eRows code)), some (.d (eCls cls)), some (.d D), some (.d (.list (came.map eN))), some (.d (eCls lv)), some (.d (.list (cg.map eN))), some (.d (.list (sy.map eN))), some (.d (.list ((placesOf kf).map eN))), some (.l σ.length), x, some (.d (eRows rest)), some (.d (.list W)), some (.d (.list ((placesOf kf).map eN)))]) (σ' := σ ++ [some W]) (fun K hK => ?_) ?_
  · walk_at "st"; rw [hDt]; walk_at "vc"; exact hK
  refine ret_i (v := .d (.bool true)) (σ' := σ ++ [some W]) (fun K hK => ?_) ?_
  · walk_at "vc"
    rw [cmp_refl (m := 0) (map_all shp_n _) (by omega) (map_all (fun a => by rw [eqv_n]; simp) _)]
    walk_at "vc"
    rw [eW, cmp_refl (m := 1) (map_all shp_cl _) (by omega) (map_all eqv_cl _), ← eW]
    walk_at "vc"
    refine ⟨lim_of (by omega), compV_map (enc := eRow) (g := fun r => eI r.op) _ _ _ (fun r _ K hK => hK) (fun r _ K hK => ?_) ?_⟩
    · walk_at "vc"; exact hK
    refine ⟨lim_of (by omega), compV_map (enc := eN) (g := fun i => eI (opAt code i)) _ _ _ (fun r _ K hK => hK) (fun i hi K hK => ?_) ?_⟩
    · rw [esy] at hi
      have hi := List.mem_range.mp (List.mem_filter.mp hi).1
      obtain ⟨r, er⟩ : ∃ r, code[i]? = some r := ⟨_, List.getElem?_eq_getElem hi⟩
      walk_at "vc"
      rw [er]
      walk_at "vc"
      unfold opAt at hK; rw [er] at hK
      exact hK
    walk_at "vc"
    rw [erest, keepRows_eq, keep_ops kf code (List.range code.length) (fun i hi => List.mem_range.mp hi), ← esy]
    rw [cmp_eI]
    exact hK
  simp only [RetQ, take_app]
  exact h
end

end
section
structure OK (c : List Row) (l : List Cl) : Prop where
  co : CodeOK c
  cl : ClsOK c.length l
  ne : 0 < c.length
noncomputable def dropF (c : List Row) (l : List Cl) (fl : List Bool) : List Bool := closeF c (livesOf fl l) fl
noncomputable def dropC (c : List Row) (l : List Cl) (fl : List Bool) : List Row := keepRows (dropF c l fl) c
noncomputable def dropL (c : List Row) (l : List Cl) (fl : List Bool) : List Cl := (livesOf fl l).map (moveCl (plc (dropF c l fl)))
/-- what the plain law has to give -/
structure PlainLaw : Prop where
  ok : ∀ c l, OK c l → OK (roundC c l) (roundL c l)
  run : ∀ c l tape, OK c l → runAll (roundC c l) (roundL c l) tape = runAll c l tape
  thr : ∀ c l, OK c l → (roundC c l).length = c.length → Threaded (roundC c l) (roundL c l)
  dok : ∀ c l fl, OK c l → fl.length = c.length → (∀ i : Nat, fl[i]? = some true ↔ Reach c l i) → CodeOK (dropC c l fl)
  drun : ∀ c l fl tape, OK c l → fl.length = c.length → (∀ i : Nat, fl[i]? = some true ↔ Reach c l i) → runAll (dropC c l fl) (dropL c l fl) tape = runAll c l tape
theorem compV_ex {α β : Type} {enc : α → PyData} {g : β → PyData} {R : β → Prop} {t : Rho → Store → KB → Prop} {e : Rho → Store → KV → Prop} {ρ : Rho} :
    ∀ (l : List α) (acc : List β) (σ : Store) (Q : KV), (∀ a ∈ l, ∀ K : KB, K true σ → t (some (.d (enc a)) :: ρ) σ K) → (∀ a ∈ l, ∀ K : KV, (∀ b, R b → K (.d (g b)) σ) → e (some (.d (enc a)) :: ρ) σ K) →
      (∀ bs : List β, bs.length = l.length → (∀ b ∈ bs, R b) → Q (.d (.list ((acc ++ bs).map g))) σ) → compV t e ρ (l.map enc) (acc.map g) σ Q
  | [], acc, σ, Q, _, _, h => by
    have := h [] rfl (by simp)
    rw [List.append_nil] at this
    simpa [compV] using this
  | a :: l, acc, σ, Q, ht, he, h => by
    rw [List.map_cons, compV]
    refine ht a List.mem_cons_self _ ?_
    simp only [if_true]
    refine he a List.mem_cons_self _ fun b hb => ?_
    show compV t e ρ (l.map enc) (acc.map g ++ [g b]) σ Q
    have e1 : acc.map g ++ [g b] = (acc ++ [b]).map g := by simp
    rw [e1]
    refine compV_ex l (acc ++ [b]) σ Q (fun x hx => ht x (List.mem_cons_of_mem _ hx)) (fun x hx => he x (List.mem_cons_of_mem _ hx)) fun bs hl hr => ?_
    have := h (b :: bs) (by simp [hl]) (fun x hx => by
      rcases List.mem_cons.mp hx with rfl | q
      · exact hb
      · exact hr x q)
    simpa using this
theorem pow5 {j : Nat} (h : j ≤ 8) : binP .pow (.int 5) (eN j) = some (eN (5 ^ j)) := by
  show (if (5 : Int) = 5 ∧ (0 : Int) ≤ (j : Int) ∧ (j : Int) ≤ 8 then some (PyData.int (5 ^ (j : Int).toNat)) else none) = _
  rw [if_pos ⟨rfl, by omega, by omega⟩, Int.toNat_natCast]
  unfold eN; rw [Int.natCast_pow]; rfl
theorem div_big (a : Int) {b : Nat} (h : 0 < b) (h' : b < 1073741824) : binP .div (.int a) (eN b) = some (.int (a.fdiv b)) := by
  show (if (0 : Int) < (b : Int) ∧ (b : Int) < 1073741824 then some (PyData.int (a.fdiv b)) else none) = _
  rw [if_pos (by omega)]
theorem pow5_lt {j : Nat} (h : j ≤ 8) : 0 < 5 ^ j ∧ 5 ^ j < 1073741824 := by
  refine ⟨Nat.pow_pos (by decide), ?_⟩
  exact Nat.lt_of_le_of_lt (Nat.pow_le_pow_right (by decide) h) (by decide)
theorem eqv_ev (e : Ev) : PyData.eqv (eEv e) (eEv e) = true := by
  unfold eEv; simp [PyData.eqv, PyData.eqvAll]
theorem shp_ev (e : Ev) : Shp 1 (eEv e) := shp_tup fun x hx => by
  rcases List.mem_cons.mp hx with rfl | hx
  · exact shp_int _
  rcases List.mem_cons.mp hx with rfl | hx
  · exact shp_int _
  · cases hx
theorem eq_seen (l : List Ev) : cmpP .eq (seenOf l) (seenOf l) = some true := cmp_refl (m := 1) (map_all shp_ev _) (by omega) (map_all eqv_ev _)
theorem seqP_i (l : List Int) : seqP (.list (l.map eI)) = some (l.map eI) := rfl
theorem gt_ni (a : Nat) (b : Int) : cmpP .gt (eN a) (.int b) = some (decide (b < (a : Int))) := rfl
theorem rowOK_app {n : Nat} {rs : List Row} (h : ∀ r ∈ rs, RowOK n r) (hn : rs.length + 2 = n) (hn' : n ≤ 18) : CodeOK (rs ++ [⟨32, .one 77⟩, ⟨42, .one 0⟩]) := by
  have hl : (rs ++ [(⟨32, .one 77⟩ : Row), ⟨42, .one 0⟩]).length = n := by rw [List.length_append]; simpa using hn
  refine ⟨fun r hr => ?_, by rw [hl]; exact hn'⟩
  rw [hl]
  rcases List.mem_append.mp hr with q | q
  · exact h r q
  · rcases List.mem_cons.mp q with rfl | q
    · exact rowOK_one (by decide) (fun z => absurd z (by decide))
    · rw [List.mem_singleton.mp q]; exact rowOK_one (by decide) (fun z => absurd z (by decide))


end
set_option hygiene false
local macro_rules | `(tactic| walk_at "vcd") => `(tactic| dsimp only [gt_ni, slcP])
local macro_rules | `(tactic| walk_at "vcf") => `(tactic| simp -implicitDefEqProofs only [mod_5])
set_option hygiene true
section


section
variable {prog : Program} {w : World} {base : Heap} {mg mb : Str → Option Value} {tab : Int → Option Int}

theorem c_law (Γ : Gd prog w base mg mb tab) (PL : PlainLaw) {k : Nat} {script : List Int} {σ : Store} {Q : KV} (h : Q (.d (.bool true)) σ) :
    CallOK prog w base mg (k + 1 + 1 + 1 + 1 + 1 + 1) "law" [.d (.list (script.map eI))] σ Q := by
  refine call_law Γ rfl ?_
  simp only [ir_law]
  refine seq_cut (fun f ρ σ' => f = .next ∧ σ = σ' ∧ ∃ nums : List Int, 1 ≤ nums.length ∧ nums.length ≤ 16 ∧ ρ = [some (.d (.list (script.map eI))), some (.d (.list (nums.map eI))), none, none, none, none, none, none, none, none, none]) CallOK.mono ?_ ?_
  · walk_at "st"
    by_cases h2 : 2 < script.length
    · rw [if_pos (by simp only [decide_eq_true_eq]; omega)]
      refine ⟨(script.take 18).drop 2, ?_, ?_, ?_⟩
      · rw [List.length_drop, List.length_take]; omega
      · rw [List.length_drop, List.length_take]; omega
      · rw [List.map_drop, List.map_take]
    · rw [if_neg (by simp only [decide_eq_true_eq]; omega)]
      exact ⟨[18, 29, 4, 0], by decide, by decide, rfl⟩
  rintro f ρ σ' ⟨rfl, rfl, nums, hn1, hn2, rfl⟩
  walk_at "vc"
  walk_at "step"
  refine seq_cut (fun f ρ σ' => f = .next ∧ σ = σ' ∧ ∃ code : List Row, CodeOK code ∧ code.length = nums.length + 2 ∧ ρ = [some (.d (.list (script.map eI))), some (.d (.list (nums.map eI))), some (.d (eN (nums.length + 2))), some (.d (eRows code)), none, none, none, none, none, none, none]) CallOK.mono ?_ ?_
  · walk_at "st"
    refine ⟨lim_of (by omega), compV_ex (enc := eI) (g := eRow) (R := RowOK (nums.length + 2)) nums [] σ _ (fun v _ K hK => hK) (fun v _ K hK => ?_) fun bs hbl hbr => ?_⟩
    · walk_at "vc"
      exact c_law_row Γ (by omega) (by omega) hK
    · rw [List.nil_append]
      walk_at "vc"
      rw [add_ll, if_pos (by rw [List.length_map]; exact lim_of (by simp; omega))]
      walk_at "vc"
      exact ⟨bs ++ [⟨32, .one 77⟩, ⟨42, .one 0⟩], rowOK_app hbr (by omega) (by omega), by simp [hbl], by unfold eRows; rw [List.map_append]; rfl⟩
  rintro f ρ σ' ⟨rfl, rfl, code, hc, hcn, rfl⟩
  walk_at "vc"
  refine seq_cut (fun f ρ σ' => f = .next ∧ σ = σ' ∧ ∃ cls : List Cl, ClsOK (nums.length + 2) cls ∧ ρ = [some (.d (.list (script.map eI))), some (.d (.list (nums.map eI))), some (.d (eN (nums.length + 2))), some (.d (eRows code)), some (.d (eCls cls)), none, none, none, none, none, none]) CallOK.mono ?_ ?_
  · walk_at "st"
    by_cases h2 : 1 < script.length
    · obtain ⟨v, ev⟩ : ∃ v, script[1]? = some v := ⟨_, List.getElem?_eq_getElem h2⟩
      rw [if_pos (by simp only [decide_eq_true_eq]; omega), List.getElem?_map, ev]
      refine c_law_clauses (q := v) Γ (by omega) (by omega) fun cls hk => ?_
      walk_at "vc"
      exact ⟨cls, hk, rfl⟩
    · rw [if_neg (by simp only [decide_eq_true_eq]; omega)]
      refine c_law_clauses (q := 1) Γ (by omega) (by omega) fun cls hk => ?_
      walk_at "vc"
      exact ⟨cls, hk, rfl⟩
  rintro f ρ σ' ⟨rfl, rfl, cls, hk, rfl⟩
  walk_at "vc"
  have hok : OK code cls := ⟨hc, by rw [hcn]; exact hk, by omega⟩
  refine seq_cut (fun f ρ σ' => f = .next ∧ σ = σ' ∧ ∃ seed : Int, ρ = [some (.d (.list (script.map eI))), some (.d (.list (nums.map eI))), some (.d (eN (nums.length + 2))), some (.d (eRows code)), some (.d (eCls cls)), some (.d (.int seed)), none, none, none, none, none]) CallOK.mono ?_ ?_
  · walk_at "st"
    cases script with
    | nil => exact ⟨6, rfl⟩
    | cons v r => exact ⟨v, rfl⟩
  rintro f ρ σ' ⟨rfl, rfl, seed, rfl⟩
  walk_at "vc"
  obtain ⟨tape, etape⟩ : ∃ tape, tape = (List.range 9).map fun j => md (seed.fdiv ((5 ^ j : Nat) : Int)) 5 := ⟨_, rfl⟩
  have htl : tape.length = 9 := by rw [etape]; simp
  refine seq_step (ρ' := [some (.d (.list (script.map eI))), some (.d (.list (nums.map eI))), some (.d (eN (nums.length + 2))), some (.d (eRows code)), some (.d (eCls cls)), some (.d (.int seed)), some (.d (.list (tape.map eN))), none, none, none, none]) (σ' := σ) (fun K hK => ?_) ?_
  · walk_at "st"
    rw [show rangeP 0 9 = (List.range 9).map eN from rangeP0 9]
    refine ⟨by simp only [big_eq]; omega, by simp only [big_eq]; omega, (by have := lim_of (n := ((List.range 9).map eN).length) (by simp); omega), lim_of (by simp), ?_⟩
    refine compV_map (enc := eN) (g := fun j => eN (md (seed.fdiv ((5 ^ j : Nat) : Int)) 5)) _ _ _ (fun j _ K hK => hK) (fun j hj K hK => ?_) ?_
    · have hj := List.mem_range.mp hj
      have := pow5_lt (j := j) (by omega)
      walk_at "vc"
      rw [pow5 (by omega)]
      walk_at "vc"
      rw [div_big _ this.1 this.2]
      walk_at "vc"
      exact hK
    · rw [etape, List.map_map] at hK; exact hK
  refine seq_step (ρ' := [some (.d (.list (script.map eI))), some (.d (.list (nums.map eI))), some (.d (eN (nums.length + 2))), some (.d (eRows code)), some (.d (eCls cls)), some (.d (.int seed)), some (.d (.list (tape.map eN))), some (.d (seenOf (runAll code cls tape))), none, none, none]) (σ' := σ) (fun K hK => ?_) ?_
  · walk_at "st"
    exact c_law_run Γ hc hk.len htl hK
  obtain ⟨before, eb⟩ : ∃ before, before = runAll code cls tape := ⟨_, rfl⟩
  rw [← eb]
  refine seq_cut (fun f ρ σ' => f = .next ∧ σ = σ' ∧ ∃ (c : List Row) (l : List Cl), OK c l ∧ runAll c l tape = before ∧ c.length ≤ code.length ∧ Threaded c l ∧ ρ = [some (.d (.list (script.map eI))), some (.d (.list (nums.map eI))), some (.d (eN (nums.length + 2))), some (.d (eRows code)), some (.d (eCls cls)), some (.d (.int seed)), some (.d (.list (tape.map eN))), some (.d (seenOf before)), some (.d (eRows c)), some (.d (eCls l)), none]) CallOK.mono ?_ ?_
  · walk_at "st"
    refine c_thread_in (code := code) (cls := cls) Γ (fun c l => OK c l ∧ runAll c l tape = before ∧ c.length ≤ code.length) ⟨hok, eb.symm, Nat.le_refl _⟩ ?_ (fun c l p => ⟨p.1.co, p.1.cl⟩) ?_
    · rintro c l ⟨p1, p2, p3⟩
      exact ⟨PL.ok c l p1, by rw [PL.run c l tape p1]; exact p2, Nat.le_trans (roundC_len c l) p3⟩
    · rintro c l ⟨p1, p2, p3⟩ he
      walk_at "vc"
      exact ⟨_, _, PL.ok c l p1, by rw [PL.run c l tape p1]; exact p2, Nat.le_trans (roundC_len c l) p3, PL.thr c l p1 he, rfl⟩
  rintro f ρ σ' ⟨rfl, rfl, c, l, ho, hrun, hle, hth, rfl⟩
  walk_at "vc"
  refine seq_ite (σ' := σ) false (fun K hK => ?_) (fun z => by cases z) fun _ => seq_skip ?_
  · walk_at "vc"
    rw [if_neg (by simp only [decide_eq_true_eq]; omega)]
    refine c_law_threaded Γ ho.co ho.cl.len hth ?_
    walk_at "vc"
    exact hK
  refine seq_cut (fun f ρ σ' => f = .next ∧ σ = σ' ∧ ∃ fl : List Bool, fl.length = c.length ∧ (∀ i : Nat, fl[i]? = some true ↔ Reach c l i) ∧ ρ = [some (.d (.list (script.map eI))), some (.d (.list (nums.map eI))), some (.d (eN (nums.length + 2))), some (.d (eRows code)), some (.d (eCls cls)), some (.d (.int seed)), some (.d (.list (tape.map eN))), some (.d (seenOf before)), some (.d (eRows c)), some (.d (eCls l)), some (.d (keepT (closeF c (livesOf fl l) fl) c (livesOf fl l)))]) CallOK.mono ?_ ?_
  · walk_at "st"
    refine c_drop_dead (code := c) (cls := l) Γ ho.co ho.cl ho.ne fun fl h1 h2 => ?_
    walk_at "vc"
    exact ⟨fl, h1, h2, rfl⟩
  rintro f ρ σ' ⟨rfl, rfl, fl, hfl, hre, rfl⟩
  walk_at "vc"
  refine seq_ite (σ' := σ) false (fun K hK => ?_) (fun z => by cases z) fun _ => seq_skip ?_
  · walk_at "vc"
    refine c_law_left Γ ho.co ho.cl ho.ne hfl hre ?_
    walk_at "vc"
    exact hK
  have hd1 := PL.dok c l fl ho hfl hre
  have hd2 := PL.drun c l fl tape ho hfl hre
  have hd3 : (dropL c l fl).length ≤ 3 := by
    unfold dropL livesOf; rw [List.length_map]; exact Nat.le_trans (List.length_filter_le _ _) ho.cl.len
  refine ret_i (v := .d (.bool true)) (σ' := σ) (fun K hK => ?_) ?_
  · walk_at "vc"
    refine c_law_run Γ ho.co ho.cl.len htl ?_
    walk_at "vc"
    rw [hrun, eq_seen]
    walk_at "vc"
    rw [show keepT (closeF c (livesOf fl l) fl) c (livesOf fl l) = .tuple [eRows (dropC c l fl), eCls (dropL c l fl), .list ((placesOf (dropF c l fl)).map eN)] from rfl]
    walk_at "vc"
    refine c_law_run Γ hd1 hd3 htl ?_
    walk_at "vc"
    rw [hd2, hrun, eq_seen]
    exact hK
  simp only [RetQ, List.take_length]
  exact h
end

end
end Mine
section
namespace Mine

/-! where the plain jumps end -/
inductive LandsK (C : List Row) : Nat → Nat → Nat → Prop
  | here {a : Nat} : (∀ r, C[a]? = some r → r.op ≠ 56) → LandsK C 0 a a
  | hop {k a b : Nat} {r : Row} : C[a]? = some r → r.op = 56 → LandsK C k r.arg.goal b → LandsK C (k + 1) a b
noncomputable def Lands (C : List Row) (a b : Nat) : Prop := ∃ k, LandsK C k a b
theorem LandsK.det {C : List Row} {k k' a b b' : Nat} (h : LandsK C k a b) (h' : LandsK C k' a b') : k = k' ∧ b = b' := by
  induction h generalizing k' b' with
  | here h =>
    cases h' with
    | here _ => exact ⟨rfl, rfl⟩
    | hop e o _ => exact absurd o (h _ e)
  | hop e o _ ih =>
    cases h' with
    | here h => exact absurd o (h _ e)
    | hop e' o' q =>
      rw [e] at e'; obtain rfl := Option.some.inj e'
      obtain ⟨rfl, rfl⟩ := ih q
      exact ⟨rfl, rfl⟩
theorem Lands.det {C : List Row} {a b b' : Nat} (h : Lands C a b) (h' : Lands C a b') : b = b' := by
  obtain ⟨k, h⟩ := h; obtain ⟨k', h'⟩ := h'; exact (h.det h').2
theorem Lands.here {C : List Row} {a : Nat} (h : ∀ r, C[a]? = some r → r.op ≠ 56) : Lands C a a := ⟨0, .here h⟩
theorem Lands.hop {C : List Row} {a b : Nat} {r : Row} (e : C[a]? = some r) (o : r.op = 56) (h : Lands C r.arg.goal b) : Lands C a b := by
  obtain ⟨k, h⟩ := h; exact ⟨k + 1, .hop e o h⟩
theorem lands_hop {C : List Row} {a b : Nat} {r : Row} (e : C[a]? = some r) (o : r.op = 56) : Lands C a b ↔ Lands C r.arg.goal b := by
  constructor
  · rintro ⟨k, h⟩
    cases h with
    | here h => exact absurd o (h _ e)
    | hop e' _ q => rw [e] at e'; obtain rfl := Option.some.inj e'; exact ⟨_, q⟩
  · exact Lands.hop e o
theorem LandsK.end_ {C : List Row} {k a b : Nat} (h : LandsK C k a b) : ∀ r, C[b]? = some r → r.op ≠ 56 := by
  induction h with
  | here h => exact h
  | hop _ _ _ ih => exact ih
theorem LandsK.path {C : List Row} {k a b : Nat} (h : LandsK C k a b) : ∃ l : List Nat, l.length = k ∧ l.Nodup ∧ (∀ x ∈ l, x < C.length) ∧ ∀ x ∈ l, ∃ j, j ≤ k ∧ LandsK C j x b := by
  induction h with
  | here h => exact ⟨[], rfl, by simp, by simp, by simp⟩
  | @hop k a b r e o q ih =>
    obtain ⟨l, hl, hn, hlt, hx⟩ := ih
    refine ⟨a :: l, by simp [hl], ?_, ?_, ?_⟩
    · rw [List.nodup_cons]
      refine ⟨fun hm => ?_, hn⟩
      obtain ⟨j, hj, hq⟩ := hx a hm
      have := (hq.det (.hop e o q)).1
      omega
    · intro x hm
      rcases List.mem_cons.mp hm with rfl | hm
      · exact (List.getElem?_eq_some_iff.mp e).1
      · exact hlt x hm
    · intro x hm
      rcases List.mem_cons.mp hm with rfl | hm
      · exact ⟨k + 1, Nat.le_refl _, .hop e o q⟩
      · obtain ⟨j, hj, hq⟩ := hx x hm
        exact ⟨j, by omega, hq⟩
theorem LandsK.le {C : List Row} {k a b : Nat} (h : LandsK C k a b) : k ≤ C.length := by
  obtain ⟨l, hl, hn, hlt, _⟩ := h.path
  rw [← hl]; exact pigeon _ _ hn hlt

noncomputable def landN (C : List Row) : Nat → Nat → Option Nat
  | 0, _ => none
  | f + 1, a => match C[a]? with
    | some r => if r.op = 56 then landN C f r.arg.goal else some a
    | none => some a
theorem landN_some {C : List Row} : ∀ {f a b : Nat}, landN C f a = some b → Lands C a b
  | f + 1, a, b, h => by
    rw [landN] at h
    cases e : C[a]? with
    | none => rw [e] at h; simp only at h; obtain rfl := Option.some.inj h; exact .here (by rw [e]; simp)
    | some r =>
      rw [e] at h; simp only at h
      by_cases o : r.op = 56
      · rw [if_pos o] at h; exact .hop e o (landN_some h)
      · rw [if_neg o] at h; obtain rfl := Option.some.inj h; exact .here (by rw [e]; simp [o])
theorem landN_of {C : List Row} {k a b : Nat} (h : LandsK C k a b) : ∀ {f : Nat}, k < f → landN C f a = some b := by
  induction h with
  | @here a h =>
    intro f hf
    obtain ⟨f, rfl⟩ : ∃ g, f = g + 1 := ⟨f - 1, by omega⟩
    rw [landN]
    cases e : C[a]? with
    | none => rfl
    | some r => simp only; rw [if_neg (h r e)]
  | hop e o _ ih =>
    intro f hf
    obtain ⟨f, rfl⟩ : ∃ g, f = g + 1 := ⟨f - 1, by omega⟩
    rw [landN, e]; simp only; rw [if_pos o]; exact ih (by omega)
theorem landN_iff {C : List Row} {a b : Nat} : landN C (C.length + 1) a = some b ↔ Lands C a b :=
  ⟨landN_some, fun ⟨k, h⟩ => landN_of h (by have := h.le; omega)⟩

/-! the runner in big steps -/
noncomputable def evOf (r : Row) : Ev := (r.op, ((if r.op = 32 then r.arg.goal else 0 : Nat) : Int))
noncomputable def runM (C : List Row) (L : List Cl) (tape : List Nat) : Nat → List Ev → List Ct → Int → List Ev
  | 0, seen, _, a => seen ++ [(if 0 < a then 0 else a, (0 : Int))]
  | k + 1, seen, cs, a => if a < 0 then seen ++ [(a, (0 : Int))] else
    match landN C (C.length + 1) a.toNat with
    | none => seen ++ [((-4 : Int), (0 : Int))]
    | some b => match C[b]? with
      | none => seen ++ [((0 : Int), (0 : Int))]
      | some r => runM C L tape k (seen ++ [evOf r]) (move r L cs b (choiceAt tape seen.length)).2 (move r L cs b (choiceAt tape seen.length)).1
theorem runGo_land (C : List Row) (L : List Cl) (tape : List Nat) (seen : List Ev) (cs : List Ct) (hs : seen.length < 30) : ∀ (j f still a : Nat), still + j = C.length + 1 → (30 - seen.length) * (C.length + 2) + j ≤ f →
    ∃ f0, (30 - (seen.length + 1)) * (C.length + 2) + (C.length + 1) ≤ f0 ∧ runGo C L tape f seen cs (a : Int) still = match landN C j a with
      | none => if j = 0 then runGo C L tape f seen cs (a : Int) still else seen ++ [((-4 : Int), (0 : Int))]
      | some b => match C[b]? with
        | none => seen ++ [((0 : Int), (0 : Int))]
        | some r => runGo C L tape f0 (seen ++ [evOf r]) (move r L cs b (choiceAt tape seen.length)).2 (move r L cs b (choiceAt tape seen.length)).1 0 := by
  intro j
  induction j with
  | zero => intro f still a hj hf; exact ⟨_, Nat.le_refl _, by rw [landN]; simp⟩
  | succ j ih =>
    intro f still a hj hf
    have hmul : (30 - seen.length) * (C.length + 2) = (30 - (seen.length + 1)) * (C.length + 2) + (C.length + 2) := by
      rw [show 30 - seen.length = (30 - (seen.length + 1)) + 1 by omega, Nat.add_mul, Nat.one_mul]
    obtain ⟨f, rfl⟩ : ∃ g, f = g + 1 := ⟨f - 1, by omega⟩
    rw [runGo, landN]
    by_cases ha : a < C.length
    · obtain ⟨r, er⟩ : ∃ r, C[a]? = some r := ⟨_, List.getElem?_eq_getElem ha⟩
      rw [if_pos ⟨by omega, by rw [Int.toNat_natCast]; exact ha, hs⟩, Int.toNat_natCast, er]
      simp only
      by_cases o : r.op = 56
      · rw [if_pos o, if_pos o]
        cases j with
        | zero =>
          rw [if_pos (by omega)]
          exact ⟨_, Nat.le_refl _, by rw [landN]; simp⟩
        | succ j =>
          rw [if_neg (by omega)]
          obtain ⟨f0, h0, e⟩ := ih f (still + 1) r.arg.goal (by omega) (by omega)
          refine ⟨f0, h0, ?_⟩
          rw [e]
          cases landN C (j + 1) r.arg.goal with
          | none => simp
          | some b => rfl
      · rw [if_neg o, if_neg o]
        simp only
        rw [er]
        exact ⟨f, by omega, rfl⟩
    · have e : C[a]? = none := List.getElem?_eq_none (by omega)
      rw [if_neg (fun z => ha (by have := z.2.1; rw [Int.toNat_natCast] at this; exact this)), e]
      simp only
      rw [e]
      refine ⟨_, Nat.le_refl _, ?_⟩
      simp only
      rw [show (if (0 : Int) < (a : Int) then (0 : Int) else (a : Int)) = 0 by split <;> omega]
theorem runGo_M (C : List Row) (L : List Cl) (tape : List Nat) : ∀ (k f : Nat) (seen : List Ev) (cs : List Ct) (a : Int), seen.length + k = 30 → k * (C.length + 2) + (C.length + 1) ≤ f → 0 < f → runGo C L tape f seen cs a 0 = runM C L tape k seen cs a
  | 0, f, seen, cs, a, hk, hf, hp => by
    obtain ⟨f, rfl⟩ : ∃ g, f = g + 1 := ⟨f - 1, by omega⟩
    rw [runGo, if_neg (fun z => by have := z.2.2; omega), runM]
  | k + 1, f, seen, cs, a, hk, hf, hp => by
    rw [runM]
    by_cases h0 : a < 0
    · rw [if_pos h0]
      obtain ⟨f, rfl⟩ : ∃ g, f = g + 1 := ⟨f - 1, by omega⟩
      rw [runGo, if_neg (fun z => by have := z.1; omega), if_neg (by omega)]
    · rw [if_neg h0]
      obtain ⟨i, rfl⟩ : ∃ i : Nat, a = (i : Int) := ⟨a.toNat, by omega⟩
      rw [Int.toNat_natCast]
      obtain ⟨f0, h1, e⟩ := runGo_land C L tape seen cs (by omega) (C.length + 1) f 0 i (by omega) (by rw [show 30 - seen.length = k + 1 by omega]; exact hf)
      rw [e]
      cases landN C (C.length + 1) i with
      | none => simp
      | some b =>
        simp only
        cases C[b]? with
        | none => rfl
        | some r =>
          simp only
          refine runGo_M C L tape k f0 _ _ _ (by simp; omega) ?_ (by omega)
          rw [show 30 - (seen.length + 1) = k by omega] at h1
          exact h1
theorem runAll_M (C : List Row) (L : List Cl) (tape : List Nat) : runAll C L tape = runM C L tape 30 [] [] 0 :=
  runGo_M C L tape 30 _ [] [] 0 rfl (by omega) (by omega)
end Mine
end
section
namespace Mine

noncomputable def Pos (C C' : List Row) (p : Nat → Nat) (X : Nat → Prop) (a a' : Nat) : Prop :=
  (∃ b, X b ∧ Lands C a b ∧ Lands C' a' (p b)) ∨ ((∀ b, ¬ Lands C a b) ∧ ∀ b, ¬ Lands C' a' b)
structure RowRel (C C' : List Row) (p : Nat → Nat) (X : Nat → Prop) (b : Nat) (r r' : Row) : Prop where
  op : r'.op = r.op
  ev : r.op = 32 → r'.arg.goal = r.arg.goal
  sw : r.op = 69 → r'.arg.goals.length = r.arg.goals.length ∧ ∀ (i g g' : Nat), r.arg.goals[i]? = some g → r'.arg.goals[i]? = some g' → Pos C C' p X g g'
  lv : r.op = 221 → X r.arg.goal ∧ r'.arg.goal = p r.arg.goal ∧ Pos C C' p X r.arg.goal (p r.arg.goal)
  br : isBr r.op = true → r.op ≠ 221 → Pos C C' p X r.arg.goal r'.arg.goal
  ft : endsFlow r.op = false → Pos C C' p X (b + 1) (p b + 1)
structure Sim (C C' : List Row) (L L' : List Cl) (p : Nat → Nat) (live : Cl → Bool) (X : Nat → Prop) : Prop where
  ok : ∀ r ∈ C, RowOK C.length r
  hL : L' = (L.filter live).map (moveCl p)
  out : ∀ b, X b → C[b]? = none → C'[p b]? = none
  row : ∀ b r, X b → C[b]? = some r → r.op ≠ 56 → ∃ r', C'[p b]? = some r' ∧ RowRel C C' p X b r r'
  hand : ∀ b c, X b → c ∈ L → c.inT b → Pos C C' p X c.h0 (p c.h0) ∧ (c.sort = 1 → Pos C C' p X c.ex (p c.ex))
  dead : ∀ b c, X b → c ∈ L → live c = false → ¬ c.inT b
  inT : ∀ x c, X x → c ∈ L → live c = true → (x < c.t0 ↔ p x < p c.t0) ∧ (x < c.t1 ↔ p x < p c.t1)

section
variable {C C' : List Row} {L L' : List Cl} {p : Nat → Nat} {live : Cl → Bool} {X : Nat → Prop}

noncomputable def Suf (L L' : List Cl) (p : Nat → Nat) (live : Cl → Bool) (j j' : Nat) : Prop := L'.drop j' = ((L.drop j).filter live).map (moveCl p)
structure RelK (C C' : List Row) (L L' : List Cl) (p : Nat → Nat) (live : Cl → Bool) (X : Nat → Prop) (k k' : Ct) : Prop where
  s : k'.s = k.s
  xa : X k.at_
  pa : k'.at_ = p k.at_
  cl : ∃ c, L[k.j]? = some c ∧ L'[k'.j]? = some (moveCl p c) ∧ c.inT k.at_
  sf : Suf L L' p live (k.j + 1) (k'.j + 1)
  lv : k.s = 2 → X k.goal ∧ k'.goal = p k.goal ∧ Pos C C' p X k.goal (p k.goal)
inductive RelC (C C' : List Row) (L L' : List Cl) (p : Nat → Nat) (live : Cl → Bool) (X : Nat → Prop) : List Ct → List Ct → Prop
  | nil : RelC C C' L L' p live X [] []
  | snoc {cs cs' k k'} : RelC C C' L L' p live X cs cs' → RelK C C' L L' p live X k k' → RelC C C' L L' p live X (cs ++ [k]) (cs' ++ [k'])
noncomputable def RelI (C C' : List Row) (p : Nat → Nat) (X : Nat → Prop) (i i' : Int) : Prop := (i < 0 ∧ i' = i) ∨ ∃ a a' : Nat, i = (a : Int) ∧ i' = (a' : Int) ∧ Pos C C' p X a a'
noncomputable def RelM (C C' : List Row) (L L' : List Cl) (p : Nat → Nat) (live : Cl → Bool) (X : Nat → Prop) (m m' : Int × List Ct) : Prop := RelI C C' p X m.1 m'.1 ∧ RelC C C' L L' p live X m.2 m'.2

theorem findFrom_none {q : Cl → Bool} {l : List Cl} {j : Nat} (h : l[j]? = none) : findFrom q l j = none := by
  have : l.length ≤ j := List.getElem?_eq_none_iff.mp h
  unfold findFrom; rw [show l.length - j = 0 by omega]; rfl
theorem findFrom_some {q : Cl → Bool} {l : List Cl} {j : Nat} {c : Cl} (h : l[j]? = some c) : findFrom q l j = if q c then some j else findFrom q l (j + 1) := by
  obtain ⟨hj, _⟩ := List.getElem?_eq_some_iff.mp h
  unfold findFrom
  rw [show l.length - j = (l.length - (j + 1)) + 1 by omega, List.range'_succ]
  have e : pAt q l j = q c := by unfold pAt; rw [h]
  cases hq : q c with
  | true => rw [List.find?_cons_of_pos (by rw [e, hq])]; rfl
  | false => rw [List.find?_cons_of_neg (by rw [e, hq]; simp)]; rfl
theorem find_sim {q q' : Cl → Bool} (h1 : ∀ c ∈ L, live c = true → q' (moveCl p c) = q c) (h2 : ∀ c ∈ L, live c = false → q c = false) :
    ∀ (d first first' : Nat), L.length - first = d → Suf L L' p live first first' → (findFrom q L first = none ∧ findFrom q' L' first' = none) ∨
      ∃ j j' c, findFrom q L first = some j ∧ findFrom q' L' first' = some j' ∧ L[j]? = some c ∧ L'[j']? = some (moveCl p c) ∧ q c = true ∧ c ∈ L ∧ live c = true ∧ Suf L L' p live (j + 1) (j' + 1) := by
  intro d
  induction d with
  | zero =>
    intro first first' hd hs
    have e : L[first]? = none := List.getElem?_eq_none (by omega)
    have e0 : L.drop first = [] := List.drop_eq_nil_of_le (by omega)
    unfold Suf at hs
    rw [e0] at hs
    have hl : L'.length ≤ first' := List.drop_eq_nil_iff.mp hs
    exact .inl ⟨findFrom_none e, findFrom_none (List.getElem?_eq_none hl)⟩
  | succ d ih =>
    intro first first' hd hs
    obtain ⟨c, ec⟩ : ∃ c, L[first]? = some c := ⟨_, List.getElem?_eq_getElem (by omega)⟩
    have hcm := List.mem_of_getElem? ec
    have ed : L.drop first = c :: L.drop (first + 1) := by
      obtain ⟨hj, e⟩ := List.getElem?_eq_some_iff.mp ec
      rw [List.drop_eq_getElem_cons hj, e]
    unfold Suf at hs
    rw [ed] at hs
    cases hc : live c with
    | false =>
      rw [List.filter_cons_of_neg (by simp [hc])] at hs
      rw [findFrom_some ec, h2 c hcm hc]
      exact ih (first + 1) first' (by omega) hs
    | true =>
      rw [List.filter_cons_of_pos hc, List.map_cons] at hs
      have ec' : L'[first']? = some (moveCl p c) := by
        have := congrArg (fun l => l[0]?) hs
        simpa using this
      have hs' : Suf L L' p live (first + 1) (first' + 1) := by
        have := congrArg (List.drop 1) hs
        rw [List.drop_drop] at this
        exact this
      rw [findFrom_some ec, findFrom_some ec', h1 c hcm hc]
      cases hq : q c with
      | true => exact .inr ⟨first, first', c, rfl, rfl, ec, ec', hq, hcm, hc, hs'⟩
      | false => exact ih (first + 1) (first' + 1) (by omega) hs'

theorem Sim.hitT (S : Sim C C' L L' p live X) {b : Nat} (hb : X b) {c : Cl} (hc : c ∈ L) (hl : live c = true) : (moveCl p c).inT (p b) ↔ c.inT b := by
  obtain ⟨h1, h2⟩ := S.inT b c hb hc hl
  show p c.t0 ≤ p b ∧ p b < p c.t1 ↔ c.t0 ≤ b ∧ b < c.t1
  omega
theorem thrown_sim (S : Sim C C' L L' p live X) {b first first' : Nat} (hb : X b) (hs : Suf L L' p live first first') {cs cs' : List Ct} (hr : RelC C C' L L' p live X cs cs') :
    RelM C C' L L' p live X (thrown L first b cs) (thrown L' first' (p b) cs') := by
  unfold thrown
  rcases find_sim (q := Mine.hitT b) (q' := Mine.hitT (p b)) (fun c hc hl => by unfold Mine.hitT; rw [decide_eq_decide]; exact S.hitT hb hc hl) (fun c hc hl => by unfold Mine.hitT; simpa using S.dead b c hb hc hl) _ first first' rfl hs with ⟨e, e'⟩ | ⟨j, j', c, e, e', ec, ec', hq, hcm, hl, hs'⟩
  · rw [e, e']; exact ⟨.inl ⟨show (-1 : Int) < 0 by decide, rfl⟩, hr⟩
  · rw [e, e']; simp only; rw [ec, ec']
    have hin : c.inT b := by unfold Mine.hitT at hq; simpa using hq
    obtain ⟨p1, p2⟩ := S.hand b c hb hcm hin
    have hsort : (moveCl p c).sort = c.sort := rfl
    have hh0 : (moveCl p c).h0 = p c.h0 := rfl
    refine ⟨.inr ⟨_, _, rfl, rfl, ?_⟩, ?_⟩
    · rw [hsort]
      by_cases h1 : c.sort = 1
      · rw [if_pos h1, if_pos h1]
        have : (moveCl p c).ex = p c.ex := by show (if c.sort = 1 then p c.ex else c.ex) = _; rw [if_pos h1]
        rw [this]; exact p2 h1
      · rw [if_neg h1, if_neg h1, hh0]; exact p1
    · simp only [hsort]
      by_cases h0 : c.sort = 0
      · rw [if_neg (by simpa using h0), if_neg (by simpa using h0)]; exact hr
      · rw [if_pos h0, if_pos h0]
        exact .snoc hr ⟨rfl, hb, rfl, ⟨c, ec, ec', hin⟩, hs', fun z => by simp at z⟩
theorem leaving_sim (S : Sim C C' L L' p live X) {b g first first' : Nat} (hb : X b) (hg : X g) (hp : Pos C C' p X g (p g)) (hs : Suf L L' p live first first') {cs cs' : List Ct} (hr : RelC C C' L L' p live X cs cs') :
    RelM C C' L L' p live X (leaving L first b g cs) (leaving L' first' (p b) (p g) cs') := by
  unfold leaving
  rcases find_sim (q := hitL b g) (q' := hitL (p b) (p g)) (fun c hc hl => by
      unfold hitL; rw [decide_eq_decide]
      have h1 := S.hitT hb hc hl
      have h2 := S.hitT hg hc hl
      exact and_congr Iff.rfl (and_congr h1 (not_congr h2))) (fun c hc hl => by
      unfold hitL
      have := S.dead b c hb hc hl
      rw [decide_eq_false_iff_not]; exact fun z => this z.2.1) _ first first' rfl hs with ⟨e, e'⟩ | ⟨j, j', c, e, e', ec, ec', hq, hcm, hl, hs'⟩
  · rw [e, e']; exact ⟨.inr ⟨g, p g, rfl, rfl, hp⟩, hr⟩
  · rw [e, e']; simp only; rw [ec, ec']
    have hin : c.sort = 2 ∧ c.inT b ∧ ¬ c.inT g := by unfold hitL at hq; exact of_decide_eq_true hq
    obtain ⟨p1, p2⟩ := S.hand b c hb hcm hin.2.1
    exact ⟨.inr ⟨_, _, rfl, rfl, p1⟩, .snoc hr ⟨rfl, hb, rfl, ⟨c, ec, ec', hin.2.1⟩, hs', fun _ => ⟨hg, rfl, hp⟩⟩⟩
theorem ended_sim (S : Sim C C' L L' p live X) {ans : Bool} {cs cs' : List Ct} (hr : RelC C C' L L' p live X cs cs') :
    RelM C C' L L' p live X (ended L cs ans) (ended L' cs' ans) := by
  unfold ended
  cases hr with
  | nil => exact ⟨.inl ⟨show (-2 : Int) < 0 by decide, rfl⟩, .nil⟩
  | @snoc cs cs' k k' hr hk =>
    rw [List.getLast?_concat, List.getLast?_concat, List.dropLast_concat, List.dropLast_concat]
    simp only
    rw [hk.s]
    by_cases h2 : k.s = 2
    · rw [if_pos h2, if_pos h2]
      obtain ⟨a, b, c⟩ := hk.lv h2
      rw [hk.pa, b]
      exact leaving_sim S hk.xa a c hk.sf hr
    · rw [if_neg h2, if_neg h2]
      cases ans with
      | true =>
        obtain ⟨c, ec, ec', hin⟩ := hk.cl
        rw [if_pos rfl, if_pos rfl, ec, ec']
        exact ⟨.inr ⟨_, _, rfl, rfl, (S.hand k.at_ c hk.xa (List.mem_of_getElem? ec) hin).1⟩, hr⟩
      | false =>
        rw [if_neg (by decide), if_neg (by decide), hk.pa]
        exact thrown_sim S hk.xa hk.sf hr
theorem suf0 (S : Sim C C' L L' p live X) : Suf L L' p live 0 0 := S.hL
theorem move_sim (S : Sim C C' L L' p live X) {b ch : Nat} {r r' : Row} (hb : X b) (er : C[b]? = some r) (h56 : r.op ≠ 56) (hrr : RowRel C C' p X b r r') {cs cs' : List Ct} (hr : RelC C C' L L' p live X cs cs') :
    RelM C C' L L' p live X (move r L cs b ch) (move r' L' cs' (p b) ch) := by
  have hro := S.ok r (List.mem_of_getElem? er)
  unfold move
  rw [hrr.op]
  by_cases h1 : r.op = 32 ∨ r.op = 0
  · rw [if_pos h1, if_pos h1]
    by_cases h3 : ch % 4 = 3
    · rw [if_pos h3, if_pos h3]; exact thrown_sim S hb (suf0 S) hr
    · rw [if_neg h3, if_neg h3]
      exact ⟨.inr ⟨_, _, rfl, rfl, hrr.ft (by rcases h1 with h | h <;> rw [h] <;> decide)⟩, hr⟩
  rw [if_neg h1, if_neg h1]
  by_cases h2 : r.op = 69
  · rw [if_pos h2, if_pos h2]
    obtain ⟨hlen, hgs⟩ := hrr.sw h2
    rw [hlen]
    refine ⟨.inr ⟨_, _, rfl, rfl, ?_⟩, hr⟩
    cases e : r.arg.goals[ch % (r.arg.goals.length + 1)]? with
    | none =>
      have e' : r'.arg.goals[ch % (r.arg.goals.length + 1)]? = none := by
        rw [List.getElem?_eq_none_iff] at e ⊢; omega
      rw [e']
      exact hrr.ft (by rw [h2]; decide)
    | some g =>
      obtain ⟨hi, _⟩ := List.getElem?_eq_some_iff.mp e
      obtain ⟨g', e'⟩ : ∃ g', r'.arg.goals[ch % (r.arg.goals.length + 1)]? = some g' := ⟨_, List.getElem?_eq_getElem (by omega)⟩
      rw [e']
      exact hgs _ g g' e e'
  rw [if_neg h2, if_neg h2]
  by_cases h3 : r.op = 221
  · rw [if_pos h3, if_pos h3]
    obtain ⟨a, b', c⟩ := hrr.lv h3
    rw [b']
    exact leaving_sim S hb a c (suf0 S) hr
  rw [if_neg h3, if_neg h3]
  by_cases h4 : r.op = 122
  · rw [if_pos h4, if_pos h4]; exact thrown_sim S hb (suf0 S) hr
  rw [if_neg h4, if_neg h4]
  by_cases h5 : r.op = 220
  · rw [if_pos h5, if_pos h5]; exact ended_sim S hr
  rw [if_neg h5, if_neg h5]
  by_cases h6 : r.op = 65041
  · rw [if_pos h6, if_pos h6]; exact ended_sim S hr
  rw [if_neg h6, if_neg h6]
  by_cases h7 : r.op = 42
  · rw [if_pos h7, if_pos h7]; exact ⟨.inl ⟨show (-3 : Int) < 0 by decide, rfl⟩, hr⟩
  rw [if_neg h7, if_neg h7]
  have hbr := op_all (fun op => ¬(op = 32 ∨ op = 0) → op ≠ 69 → op ≠ 221 → op ≠ 122 → op ≠ 220 → op ≠ 65041 → op ≠ 42 → op ≠ 56 → isBr op = true ∧ endsFlow op = false) hro.mem (by decide) h1 h2 h3 h4 h5 h6 h7 h56
  refine ⟨.inr ⟨_, _, rfl, rfl, ?_⟩, hr⟩
  by_cases h8 : ch % 2 ≠ 0
  · rw [if_pos h8, if_pos h8]
    exact hrr.br hbr.1 h3
  · rw [if_neg h8, if_neg h8]
    exact hrr.ft hbr.2
theorem sim_run (S : Sim C C' L L' p live X) (tape : List Nat) : ∀ (k : Nat) (seen : List Ev) (cs cs' : List Ct) (i i' : Int), RelI C C' p X i i' → RelC C C' L L' p live X cs cs' →
    runM C' L' tape k seen cs' i' = runM C L tape k seen cs i
  | 0, seen, cs, cs', i, i', hi, hr => by
    rw [runM, runM]
    rcases hi with ⟨_, rfl⟩ | ⟨a, a', rfl, rfl, _⟩
    · rfl
    · rw [show (if (0 : Int) < (a : Int) then (0 : Int) else (a : Int)) = 0 by split <;> omega, show (if (0 : Int) < (a' : Int) then (0 : Int) else (a' : Int)) = 0 by split <;> omega]
  | k + 1, seen, cs, cs', i, i', hi, hr => by
    rw [runM, runM]
    rcases hi with ⟨hn, rfl⟩ | ⟨a, a', rfl, rfl, hp⟩
    · rw [if_pos hn, if_pos hn]
    · rw [if_neg (by omega), if_neg (by omega), Int.toNat_natCast, Int.toNat_natCast]
      rcases hp with ⟨b, hb, l1, l2⟩ | ⟨n1, n2⟩
      · rw [landN_iff.mpr l1, landN_iff.mpr l2]
        simp only
        cases er : C[b]? with
        | none => rw [S.out b hb er]
        | some r =>
          have h56 : r.op ≠ 56 := by
            obtain ⟨_, l1⟩ := l1; exact l1.end_ r er
          obtain ⟨r', er', hrr⟩ := S.row b r hb er h56
          rw [er']
          simp only
          have hev : evOf r' = evOf r := by
            unfold evOf; rw [hrr.op]
            by_cases h : r.op = 32
            · rw [if_pos h, if_pos h, hrr.ev h]
            · rw [if_neg h, if_neg h]
          rw [hev]
          have hm := move_sim (ch := choiceAt tape seen.length) S hb er h56 hrr hr
          exact sim_run S tape k _ _ _ _ _ hm.1 hm.2
      · have e1 : landN C (C.length + 1) a = none := by
          cases e : landN C (C.length + 1) a with
          | none => rfl
          | some b => exact absurd (landN_some e) (n1 b)
        have e2 : landN C' (C'.length + 1) a' = none := by
          cases e : landN C' (C'.length + 1) a' with
          | none => rfl
          | some b => exact absurd (landN_some e) (n2 b)
        rw [e1, e2]
theorem sim_all (S : Sim C C' L L' p live X) (tape : List Nat) (h0 : Pos C C' p X 0 0) : runAll C' L' tape = runAll C L tape := by
  rw [runAll_M, runAll_M]
  exact sim_run S tape 30 [] [] [] 0 0 (.inr ⟨0, 0, rfl, rfl, h0⟩) .nil
end
end Mine
end
section
namespace Mine

theorem lands_le {C : List Row} (hc : CodeOK C) {a b : Nat} (h : Lands C a b) (ha : a ≤ C.length) : b ≤ C.length := by
  obtain ⟨k, h⟩ := h
  induction h with
  | here _ => exact ha
  | hop e o _ ih =>
    have hr := hc.rows _ (List.mem_of_getElem? e)
    obtain ⟨g, eg⟩ := hr.one (by omega)
    refine ih ?_
    rw [eg]
    exact Nat.le_of_lt (hr.tg g (by rw [targets_br (by rw [o]; rfl) eg]; simp))
theorem chainGo_lands {C : List Row} {L : List Cl} {i goal : Nat} : ∀ (f : Nat) (seen : List Nat) (a : Nat), (∀ b, Lands C goal b ↔ Lands C a b) → ∀ b, Lands C goal b ↔ Lands C (chainGo C L i goal f seen a) b
  | 0, _, _, _ => fun b => Iff.rfl
  | f + 1, seen, a, h => by
    rw [chainGo]
    cases e : C[a]? with
    | none => exact fun b => Iff.rfl
    | some r =>
      simp only
      by_cases o : r.op = 56 ∧ regionKey L a = regionKey L i
      · rw [if_pos o]
        by_cases hs : a ∈ seen
        · rw [if_pos hs]; exact fun b => Iff.rfl
        · rw [if_neg hs]
          exact chainGo_lands f _ _ fun b => (h b).trans (lands_hop e o.1)
      · rw [if_neg o]; exact h
theorem chainEnd_lands (C : List Row) (L : List Cl) (i g b : Nat) : Lands C g b ↔ Lands C (chainEnd C L i g) b := chainGo_lands _ _ _ (fun _ => Iff.rfl) b
theorem chainGo_K {C : List Row} {L : List Cl} {i goal k b : Nat} (hk : LandsK C k goal b) : ∀ (f : Nat) (seen : List Nat) (a : Nat), (∃ k', k' ≤ k ∧ LandsK C k' a b) → ∃ k', k' ≤ k ∧ LandsK C k' (chainGo C L i goal f seen a) b
  | 0, _, _, _ => ⟨k, Nat.le_refl _, hk⟩
  | f + 1, seen, a, h => by
    rw [chainGo]
    cases e : C[a]? with
    | none => exact ⟨k, Nat.le_refl _, hk⟩
    | some r =>
      simp only
      by_cases o : r.op = 56 ∧ regionKey L a = regionKey L i
      · rw [if_pos o]
        by_cases hs : a ∈ seen
        · rw [if_pos hs]; exact ⟨k, Nat.le_refl _, hk⟩
        · rw [if_neg hs]
          refine chainGo_K hk f _ _ ?_
          obtain ⟨k', h1, h2⟩ := h
          cases h2 with
          | here q => exact absurd o.1 (q r e)
          | hop e' _ q => rw [e] at e'; obtain rfl := Option.some.inj e'; exact ⟨_, by omega, q⟩
      · rw [if_neg o]; exact h
theorem thread_back {C : List Row} {L : List Cl} {a : Nat} {r' : Row} (h : (threadRows C L)[a]? = some r') : ∃ r, C[a]? = some r ∧ r' = threadRow C L a r := by
  obtain ⟨hi, _⟩ := List.getElem?_eq_some_iff.mp h
  rw [threadRows_len] at hi
  obtain ⟨r, er⟩ : ∃ r, C[a]? = some r := ⟨_, List.getElem?_eq_getElem hi⟩
  rw [threadRows_get er] at h
  exact ⟨r, er, (Option.some.inj h).symm⟩
theorem thread_56 {C : List Row} {L : List Cl} (hc : CodeOK C) {a : Nat} {r : Row} (e : C[a]? = some r) (o : r.op = 56) : (threadRow C L a r).arg.goal = chainEnd C L a r.arg.goal := by
  have hr := hc.rows _ (List.mem_of_getElem? e)
  obtain ⟨g, eg⟩ := hr.one (by omega)
  rw [thread_br (by rw [o]; rfl) (by omega) eg, eg]; rfl
theorem thread_lands {C : List Row} {L : List Cl} (hc : CodeOK C) (a b : Nat) : Lands C a b ↔ Lands (threadRows C L) a b := by
  constructor
  · rintro ⟨k, h⟩
    induction k using Nat.strongRecOn generalizing a with
    | ind k ih =>
      cases h with
      | here q =>
        refine .here fun r' e => ?_
        obtain ⟨r, er, rfl⟩ := thread_back e
        rw [threadRow_op]; exact q r er
      | @hop k a b r e o q =>
        obtain ⟨k', h1, h2⟩ := chainGo_K (L := L) (i := a) q (C.length + 2) [] r.arg.goal ⟨_, Nat.le_refl _, q⟩
        refine .hop (threadRows_get e) (by rw [threadRow_op]; exact o) ?_
        rw [thread_56 hc e o]
        exact ih k' (by omega) _ h2
  · rintro ⟨k, h⟩
    induction h with
    | here q =>
      refine .here fun r e => ?_
      have := q _ (threadRows_get e)
      rwa [threadRow_op] at this
    | hop e o _ ih =>
      obtain ⟨r, er, rfl⟩ := thread_back e
      rw [threadRow_op] at o
      rw [thread_56 hc er o, ← chainEnd_lands] at ih
      exact .hop er o ih
theorem moveCl_id (c : Cl) : moveCl id c = c := by
  unfold moveCl
  obtain ⟨s, a, b, d, e, f⟩ := c
  simp
theorem thread_sim {C : List Row} {L : List Cl} (h : OK C L) : Sim C (threadRows C L) L L id (fun _ => true) (fun x => x ≤ C.length) := by
  have pos : ∀ a a', a ≤ C.length → (∀ b, Lands C a b ↔ Lands C a' b) → Pos C (threadRows C L) id (fun x => x ≤ C.length) a a' := fun a a' ha he => by
    by_cases hl : ∃ b, Lands C a b
    · obtain ⟨b, hb⟩ := hl
      exact .inl ⟨b, lands_le h.co hb ha, hb, (thread_lands h.co _ _).mp ((he b).mp hb)⟩
    · exact .inr ⟨fun b hb => hl ⟨b, hb⟩, fun b hb => hl ⟨b, (he b).mpr ((thread_lands h.co _ _).mpr hb)⟩⟩
  refine ⟨h.co.rows, ?_, ?_, ?_, ?_, ?_, ?_⟩
  · rw [List.filter_eq_self.mpr (fun _ _ => rfl)]
    rw [show (moveCl id) = id from funext moveCl_id, List.map_id]
  · intro b hb e
    have hl : C.length ≤ b := List.getElem?_eq_none_iff.mp e
    exact List.getElem?_eq_none (by rw [threadRows_len]; exact hl)
  · intro b r hb e h56
    have hr := h.co.rows _ (List.mem_of_getElem? e)
    refine ⟨_, threadRows_get e, ⟨threadRow_op _ _ _ _, fun h32 => ?_, fun h69 => ?_, fun h221 => ?_, fun hbr hn => ?_, fun _ => ?_⟩⟩
    · rw [thread_no (by omega) (by rw [h32]; decide)]
    · obtain ⟨gs, eg, _⟩ := hr.many h69
      rw [thread_69 h69 eg, eg]
      refine ⟨by simp [Arg.goals], fun i g g' e1 e2 => ?_⟩
      simp only [Arg.goals] at e1 e2
      rw [List.getElem?_map, e1] at e2
      obtain rfl := Option.some.inj e2
      exact pos _ _ (Nat.le_of_lt (hr.tg g (by rw [targets_69 h69 eg]; exact List.mem_of_getElem? e1))) fun b => chainEnd_lands _ _ _ _ _
    · obtain ⟨g, eg⟩ := hr.one (by omega)
      rw [thread_no (by omega) (by rintro ⟨_, q⟩; exact q h221), eg]
      have hg : g ≤ C.length := Nat.le_of_lt (hr.tg g (by rw [targets_br (by rw [h221]; rfl) eg]; simp))
      exact ⟨hg, rfl, pos _ _ hg fun _ => Iff.rfl⟩
    · obtain ⟨g, eg⟩ := hr.one (isBr_not69 hbr)
      rw [thread_br hbr hn eg, eg]
      exact pos _ _ (Nat.le_of_lt (hr.tg g (by rw [targets_br hbr eg]; simp))) fun b => chainEnd_lands _ _ _ _ _
    · obtain ⟨hi, _⟩ := List.getElem?_eq_some_iff.mp e
      exact pos _ _ hi fun _ => Iff.rfl
  · intro b c hb hc hin
    have hk := h.cl.each c hc
    have h1 := hk.h0
    have h2 := hk.h1
    exact ⟨pos _ _ (by omega) fun _ => Iff.rfl, fun hs => pos _ _ (Nat.le_of_lt (hk.ex hs)) fun _ => Iff.rfl⟩
  · intro b c _ _ z; cases z
  · intro x c _ _ _; exact ⟨Iff.rfl, Iff.rfl⟩
theorem run_thread {C : List Row} {L : List Cl} (h : OK C L) (tape : List Nat) : runAll (threadRows C L) L tape = runAll C L tape := by
  refine sim_all (thread_sim h) tape ?_
  by_cases hl : ∃ b, Lands C 0 b
  · obtain ⟨b, hb⟩ := hl
    exact .inl ⟨b, lands_le h.co hb (by omega), hb, (thread_lands h.co _ _).mp hb⟩
  · exact .inr ⟨fun b hb => hl ⟨b, hb⟩, fun b hb => hl ⟨b, (thread_lands h.co _ _).mpr hb⟩⟩
theorem thread_OK {C : List Row} {L : List Cl} (h : OK C L) : OK (threadRows C L) L := ⟨threadRows_ok h.co, by rw [threadRows_len]; exact h.cl, by rw [threadRows_len]; exact h.ne⟩
end Mine
end
section
namespace Mine

theorem plc_zero (fl : List Bool) : plc fl 0 = 0 := by unfold plc; simp
theorem plc_step (fl : List Bool) (i : Nat) : plc fl i ≤ plc fl (i + 1) ∧ plc fl (i + 1) ≤ plc fl i + 1 := by
  cases e : fl[i]? with
  | some b => rw [plc_succ e]; cases b <;> simp
  | none =>
    have h : fl.length ≤ i := List.getElem?_eq_none_iff.mp e
    unfold plc
    rw [List.take_of_length_le h, List.take_of_length_le (by omega)]; omega
theorem plc_mono (fl : List Bool) {i j : Nat} (h : i ≤ j) : plc fl i ≤ plc fl j := by
  induction h with
  | refl => exact Nat.le_refl _
  | step _ ih => exact Nat.le_trans ih (plc_step fl _).1
theorem plc_add (fl : List Bool) (i : Nat) : ∀ d, plc fl (i + d) ≤ plc fl i + d
  | 0 => Nat.le_refl _
  | d + 1 => by have := plc_add fl i d; have := (plc_step fl (i + d)).2; rw [← Nat.add_assoc]; omega
theorem keep_pre {fl : List Bool} {C : List Row} (hf : fl.length = C.length) : ∀ i, i ≤ C.length → ((List.range i).filterMap (keepOne fl C)).length = plc fl i
  | 0, _ => by rw [plc_zero]; rfl
  | i + 1, h => by
    have e : fl[i]? = some fl[i] := List.getElem?_eq_getElem (by omega)
    obtain ⟨r, er⟩ : ∃ r, C[i]? = some r := ⟨_, List.getElem?_eq_getElem (by omega)⟩
    rw [List.range_succ, List.filterMap_append, List.length_append, keep_pre hf i (by omega), plc_succ e]
    cases hb : fl[i] with
    | true =>
      have : keepOne fl C i = some (moveRow (plc fl) r) := by unfold keepOne; rw [e, hb, er]; rfl
      rw [List.filterMap_cons, this]; rfl
    | false =>
      have : keepOne fl C i = none := by unfold keepOne; rw [e, hb]; rfl
      rw [List.filterMap_cons, this]; rfl
theorem keepRows_len {fl : List Bool} {C : List Row} (hf : fl.length = C.length) : (keepRows fl C).length = plc fl C.length := by
  rw [keepRows_eq]; exact keep_pre hf _ (Nat.le_refl _)
theorem keepRows_get {fl : List Bool} {C : List Row} (hf : fl.length = C.length) {i : Nat} {r : Row} (h : fl[i]? = some true) (er : C[i]? = some r) : (keepRows fl C)[plc fl i]? = some (moveRow (plc fl) r) := by
  obtain ⟨hi, _⟩ := List.getElem?_eq_some_iff.mp er
  have hk : keepOne fl C i = some (moveRow (plc fl) r) := by unfold keepOne; rw [if_pos h, er]; rfl
  obtain ⟨m, hm⟩ : ∃ m, C.length = i + (m + 1) := ⟨C.length - i - 1, by omega⟩
  have hr : List.range C.length = List.range i ++ i :: (List.range' (i + 1) m) := by
    rw [List.range_eq_range', hm, ← List.range'_append_1, List.range'_succ, List.range_eq_range', Nat.zero_add]
  rw [keepRows_eq, hr, List.filterMap_append, List.getElem?_append_right (by rw [keep_pre hf i (by omega)]; exact Nat.le_refl _), keep_pre hf i (by omega), Nat.sub_self, List.filterMap_cons, hk]
  rfl
theorem keepRows_mem {fl : List Bool} {C : List Row} {q : Row} (h : q ∈ keepRows fl C) : ∃ (i : Nat) (r : Row), fl[i]? = some true ∧ C[i]? = some r ∧ q = moveRow (plc fl) r := by
  rw [keepRows_eq] at h
  obtain ⟨i, _, e⟩ := List.mem_filterMap.mp h
  unfold keepOne at e
  split at e
  · rename_i hf
    cases er : C[i]? with
    | none => rw [er] at e; cases e
    | some r => rw [er] at e; exact ⟨i, r, hf, er, (Option.some.inj e).symm⟩
  · cases e
theorem moveRow_ok {n m : Nat} {p : Nat → Nat} {r : Row} (hr : RowOK n r) (h : ∀ g ∈ r.targets, p g < m) : RowOK m (moveRow p r) := by
  by_cases h69 : r.op = 69
  · obtain ⟨gs, e, hl⟩ := hr.many h69
    rw [moveRow_69 h69 e]
    refine ⟨hr.ops, fun _ => ⟨_, rfl, by simpa using hl⟩, fun z => absurd h69 z, fun g hg => ?_⟩
    rw [targets_69 (r := ⟨r.op, .many (gs.map p)⟩) h69 rfl] at hg
    obtain ⟨x, hx, rfl⟩ := List.mem_map.mp hg
    exact h x (by rw [targets_69 h69 e]; exact hx)
  · obtain ⟨g, e⟩ := hr.one h69
    cases hb : isBr r.op with
    | true =>
      rw [moveRow_br hb e]
      refine ⟨hr.ops, fun z => absurd z h69, fun _ => ⟨_, rfl⟩, fun x hx => ?_⟩
      rw [targets_br (r := ⟨r.op, .one (p g)⟩) hb rfl, List.mem_singleton] at hx
      rw [hx]; exact h g (by rw [targets_br hb e]; simp)
    | false =>
      rw [moveRow_no h69 hb]
      refine ⟨hr.ops, hr.many, hr.one, fun x hx => ?_⟩
      unfold Row.targets at hx
      rw [if_neg h69, if_neg (by simp [hb])] at hx; cases hx
theorem keep_ok {fl : List Bool} {C : List Row} (hc : CodeOK C) (hf : fl.length = C.length) (h : ∀ (i : Nat) (r : Row), fl[i]? = some true → C[i]? = some r → ∀ g ∈ r.targets, plc fl g < plc fl C.length) : CodeOK (keepRows fl C) := by
  refine ⟨fun q hq => ?_, ?_⟩
  · obtain ⟨i, r, h1, h2, rfl⟩ := keepRows_mem hq
    rw [keepRows_len hf]
    exact moveRow_ok (hc.rows r (List.mem_of_getElem? h2)) (h i r h1 h2)
  · rw [keepRows_len hf]
    have := plc_le fl C.length
    have := hc.len; omega

structure Keep (C : List Row) (L : List Cl) (kf : List Bool) (live : Cl → Bool) (X : Nat → Prop) : Prop where
  co : CodeOK C
  len : kf.length = C.length
  k1 : ∀ x, X x → x ≤ C.length
  k2 : ∀ (x : Nat) (r : Row), X x → C[x]? = some r → kf[x]? = some true ∨ (kf[x]? = some false ∧ r.op = 56 ∧ r.arg.goal = x + 1)
  k3 : ∀ (x : Nat) (r : Row), X x → C[x]? = some r → ∀ g ∈ r.targets, X g
  k4 : ∀ (x : Nat) (r : Row), X x → C[x]? = some r → endsFlow r.op = false → X (x + 1)
  k5 : ∀ x c, X x → c ∈ L → c.inT x → X c.h0 ∧ (c.sort = 1 → X c.ex)
  k6 : ∀ x c, X x → c ∈ L → live c = false → ¬ c.inT x
  k7 : ∀ x c, X x → c ∈ L → live c = true → (x < c.t0 ↔ plc kf x < plc kf c.t0) ∧ (x < c.t1 ↔ plc kf x < plc kf c.t1)

section
variable {C : List Row} {L : List Cl} {kf : List Bool} {live : Cl → Bool} {X : Nat → Prop}

theorem Keep.out (K : Keep C L kf live X) {b : Nat} (hb : X b) (e : C[b]? = none) : (keepRows kf C)[plc kf b]? = none := by
  have h1 : C.length ≤ b := List.getElem?_eq_none_iff.mp e
  have h2 := K.k1 b hb
  obtain rfl : b = C.length := by omega
  exact List.getElem?_eq_none (by rw [keepRows_len K.len]; exact Nat.le_refl _)
theorem Keep.kept (K : Keep C L kf live X) {b : Nat} {r : Row} (hb : X b) (e : C[b]? = some r) (o : r.op ≠ 56) : kf[b]? = some true := by
  rcases K.k2 b r hb e with q | ⟨_, q, _⟩
  · exact q
  · exact absurd q o
theorem jump_goal (hc : CodeOK C) {x : Nat} {r : Row} (e : C[x]? = some r) (o : r.op = 56) : r.arg.goal ∈ r.targets ∧ ∀ p, (moveRow p r).arg.goal = p r.arg.goal ∧ (moveRow p r).op = 56 := by
  have hr := hc.rows _ (List.mem_of_getElem? e)
  obtain ⟨g, eg⟩ := hr.one (by omega)
  have hb : isBr r.op = true := by rw [o]; rfl
  refine ⟨by rw [targets_br hb eg, eg]; simp [Arg.goal], fun p => ?_⟩
  rw [moveRow_br hb eg, eg]; exact ⟨rfl, o⟩
theorem Keep.l1 (K : Keep C L kf live X) {k x b : Nat} (h : LandsK C k x b) (hx : X x) : X b ∧ Lands (keepRows kf C) (plc kf x) (plc kf b) := by
  induction h with
  | @here a q =>
    refine ⟨hx, .here ?_⟩
    cases e : C[a]? with
    | none => rw [K.out hx e]; simp
    | some r =>
      rw [keepRows_get K.len (K.kept hx e (q r e)) e]
      rintro r' hr'
      obtain rfl := Option.some.inj hr'
      rw [moveRow_op]; exact q r e
  | @hop k a b r e o q ih =>
    obtain ⟨ht, hm⟩ := jump_goal K.co e o
    obtain ⟨i1, i2⟩ := ih (K.k3 a r hx e _ ht)
    refine ⟨i1, ?_⟩
    rcases K.k2 a r hx e with hk | ⟨hk, _, hg⟩
    · obtain ⟨m1, m2⟩ := hm (plc kf)
      exact .hop (keepRows_get K.len hk e) m2 (by rw [m1]; exact i2)
    · have := plc_succ hk
      rw [hg] at i2
      rw [show plc kf (a + 1) = plc kf a by simpa using this] at i2
      exact i2
theorem Keep.l2 (K : Keep C L kf live X) : ∀ (k d x b' : Nat), C.length - x = d → X x → LandsK (keepRows kf C) k (plc kf x) b' → ∃ b, Lands C x b := by
  intro k
  induction k with
  | zero =>
    intro d
    induction d with
    | zero =>
      intro x b' hd hx h
      exact ⟨x, .here (by rw [List.getElem?_eq_none (by omega)]; simp)⟩
    | succ d ihd =>
      intro x b' hd hx h
      obtain ⟨r, er⟩ : ∃ r, C[x]? = some r := ⟨_, List.getElem?_eq_getElem (by omega)⟩
      by_cases o : r.op = 56
      · obtain ⟨ht, hm⟩ := jump_goal K.co er o
        rcases K.k2 x r hx er with hk | ⟨hk, _, hg⟩
        · cases h with
          | here q => exact absurd (hm (plc kf)).2 (q _ (keepRows_get K.len hk er))
        · have := plc_succ hk
          rw [show plc kf x = plc kf (x + 1) by simpa using this.symm] at h
          obtain ⟨b, hb⟩ := ihd (x + 1) b' (by omega) (by rw [← hg]; exact K.k3 x r hx er _ ht) h
          exact ⟨b, .hop er o (by rw [hg]; exact hb)⟩
      · exact ⟨x, .here (by rw [er]; simp [o])⟩
  | succ k ihk =>
    intro d
    induction d with
    | zero =>
      intro x b' hd hx h
      exact ⟨x, .here (by rw [List.getElem?_eq_none (by omega)]; simp)⟩
    | succ d ihd =>
      intro x b' hd hx h
      obtain ⟨r, er⟩ : ∃ r, C[x]? = some r := ⟨_, List.getElem?_eq_getElem (by omega)⟩
      by_cases o : r.op = 56
      · obtain ⟨ht, hm⟩ := jump_goal K.co er o
        rcases K.k2 x r hx er with hk | ⟨hk, _, hg⟩
        · cases h with
          | hop e' o' q =>
            rw [keepRows_get K.len hk er] at e'
            obtain rfl := Option.some.inj e'
            rw [(hm (plc kf)).1] at q
            obtain ⟨b, hb⟩ := ihk _ r.arg.goal b' rfl (K.k3 x r hx er _ ht) q
            exact ⟨b, .hop er o hb⟩
        · have := plc_succ hk
          rw [show plc kf x = plc kf (x + 1) by simpa using this.symm] at h
          obtain ⟨b, hb⟩ := ihd (x + 1) b' (by omega) (by rw [← hg]; exact K.k3 x r hx er _ ht) h
          exact ⟨b, .hop er o (by rw [hg]; exact hb)⟩
      · exact ⟨x, .here (by rw [er]; simp [o])⟩
theorem Keep.pos (K : Keep C L kf live X) {x : Nat} (hx : X x) : Pos C (keepRows kf C) (plc kf) X x (plc kf x) := by
  by_cases hl : ∃ b, Lands C x b
  · obtain ⟨b, k, hb⟩ := hl
    obtain ⟨h1, h2⟩ := K.l1 hb hx
    exact .inl ⟨b, h1, ⟨k, hb⟩, h2⟩
  · refine .inr ⟨fun b hb => hl ⟨b, hb⟩, fun b ⟨k, hb⟩ => hl (K.l2 k _ x b rfl hx hb)⟩
theorem Keep.sim (K : Keep C L kf live X) : Sim C (keepRows kf C) L ((L.filter live).map (moveCl (plc kf))) (plc kf) live X := by
  refine ⟨K.co.rows, rfl, fun b hb e => K.out hb e, fun b r hb e o => ?_, fun b c hb hc hi => ?_, K.k6, K.k7⟩
  · have hk := K.kept hb e o
    have hr := K.co.rows _ (List.mem_of_getElem? e)
    refine ⟨_, keepRows_get K.len hk e, ⟨moveRow_op _ _, fun h32 => ?_, fun h69 => ?_, fun h221 => ?_, fun hbr hn => ?_, fun hft => ?_⟩⟩
    · rw [moveRow_no (by omega) (by rw [h32]; rfl)]
    · obtain ⟨gs, eg, _⟩ := hr.many h69
      rw [moveRow_69 h69 eg, eg]
      refine ⟨by simp [Arg.goals], fun i g g' e1 e2 => ?_⟩
      simp only [Arg.goals] at e1 e2
      rw [List.getElem?_map, e1] at e2
      obtain rfl := Option.some.inj e2
      exact K.pos (K.k3 b r hb e g (by rw [targets_69 h69 eg]; exact List.mem_of_getElem? e1))
    · obtain ⟨g, eg⟩ := hr.one (by omega)
      have hbr : isBr r.op = true := by rw [h221]; rfl
      have hg := K.k3 b r hb e g (by rw [targets_br hbr eg]; simp)
      rw [moveRow_br hbr eg, eg]
      exact ⟨hg, rfl, K.pos hg⟩
    · obtain ⟨g, eg⟩ := hr.one (isBr_not69 hbr)
      rw [moveRow_br hbr eg, eg]
      exact K.pos (K.k3 b r hb e g (by rw [targets_br hbr eg]; simp))
    · have := plc_succ hk
      have h1 := K.pos (K.k4 b r hb e hft)
      rw [this] at h1
      exact h1
  · obtain ⟨h1, h2⟩ := K.k5 b c hb hc hi
    exact ⟨K.pos h1, fun hs => K.pos (h2 hs)⟩
theorem Keep.run (K : Keep C L kf live X) (h0 : X 0) (tape : List Nat) : runAll (keepRows kf C) ((L.filter live).map (moveCl (plc kf))) tape = runAll C L tape := by
  refine sim_all K.sim tape ?_
  have := K.pos h0
  rw [plc_zero] at this; exact this
end
theorem edge_mono {kf : List Bool} {e : Nat} (h : 0 < e → kf[e - 1]? = some true) (x : Nat) : x < e ↔ plc kf x < plc kf e := by
  constructor
  · intro hx
    have h1 := plc_succ (h (by omega))
    rw [show e - 1 + 1 = e by omega] at h1
    have := plc_mono kf (show x ≤ e - 1 by omega)
    simp only [if_true] at h1; omega
  · intro hx
    refine Classical.byContradiction fun z => ?_
    have := plc_mono kf (show e ≤ x by omega)
    omega
theorem kept_mono {kf : List Bool} {x : Nat} (h : kf[x]? = some true) (e : Nat) : x < e ↔ plc kf x < plc kf e := by
  constructor
  · intro hx
    have h1 := plc_succ h
    have := plc_mono kf (show x + 1 ≤ e by omega)
    simp only [if_true] at h1; omega
  · intro hx
    refine Classical.byContradiction fun z => ?_
    have := plc_mono kf (show e ≤ x by omega)
    omega
end Mine
end
section
namespace Mine

/-! a round -/
section
variable {C : List Row} {L : List Cl}
theorem keptF_len (C : List Row) (L : List Cl) : (keptF C L).length = C.length := by simp [keptF]
theorem keptF_get {i : Nat} (h : i < C.length) : (keptF C L)[i]? = some (keptAt C L i) := by
  unfold keptF; rw [List.getElem?_map, List.getElem?_range h]; rfl
theorem kept_edge {e : Nat} {c : Cl} (hc : c ∈ L) (he : e ∈ c.edges) (hn : e ≤ C.length) : 0 < e → (keptF C L)[e - 1]? = some true := by
  intro h
  rw [keptF_get (by omega)]
  have h1 : isEdge L e = true := by unfold isEdge; rw [List.any_eq_true]; exact ⟨c, hc, by simpa using he⟩
  unfold keptAt
  rw [show e - 1 + 1 = e by omega, h1]; simp
theorem kept_last (h : 0 < C.length) : (keptF C L)[C.length - 1]? = some true := by
  rw [keptF_get (by omega)]
  have h1 : idleAt C (C.length - 1) = false := by
    obtain ⟨r, er⟩ : ∃ r, C[C.length - 1]? = some r := ⟨_, List.getElem?_eq_getElem (by omega)⟩
    rw [idleAt_some er, show C.length - 1 + 1 = C.length by omega]; simp
  unfold keptAt; rw [h1]; rfl
theorem edges_t0 (c : Cl) : c.t0 ∈ c.edges ∧ c.t1 ∈ c.edges ∧ c.h0 ∈ c.edges ∧ c.h1 ∈ c.edges := by
  unfold Cl.edges; split <;> simp
theorem keep2 (h : OK C L) : Keep C L (keptF C L) (fun _ => true) (fun x => x ≤ C.length) := by
  have hr : ∀ (x : Nat) (r : Row), C[x]? = some r → RowOK C.length r := fun x r e => h.co.rows _ (List.mem_of_getElem? e)
  refine ⟨h.co, keptF_len C L, fun _ q => q, ?_, ?_, ?_, ?_, ?_, ?_⟩
  · intro x r _ e
    obtain ⟨hx, _⟩ := List.getElem?_eq_some_iff.mp e
    rw [keptF_get hx]
    cases hk : keptAt C L x with
    | true => exact .inl rfl
    | false =>
      unfold keptAt at hk
      have h1 : idleAt C x = true := by simp at hk; exact hk.1
      rw [idleAt_some e] at h1
      simp at h1
      exact .inr ⟨rfl, h1.1.1, h1.1.2⟩
  · intro x r _ e g hg; exact Nat.le_of_lt ((hr x r e).tg g hg)
  · intro x r _ e _
    obtain ⟨hx, _⟩ := List.getElem?_eq_some_iff.mp e
    exact hx
  · intro x c _ hc _
    have hk := h.cl.each c hc
    have h1 := hk.h0
    have h2 := hk.h1
    exact ⟨by omega, fun hs => Nat.le_of_lt (hk.ex hs)⟩
  · intro x c _ _ z; cases z
  · intro x c _ hc _
    have hk := h.cl.each c hc
    have h1 := hk.t0
    have h2 := hk.t1
    obtain ⟨e1, e2, _, _⟩ := edges_t0 c
    exact ⟨edge_mono (kept_edge hc e1 (by omega)) x, edge_mono (kept_edge hc e2 h2) x⟩
theorem plc_last (h : OK C L) {g : Nat} (hg : g < C.length) : plc (keptF C L) g < plc (keptF C L) C.length := by
  have h1 := plc_succ (kept_last (L := L) h.ne)
  rw [show C.length - 1 + 1 = C.length by omega] at h1
  have := plc_mono (keptF C L) (show g ≤ C.length - 1 by omega)
  simp only [if_true] at h1; omega
theorem keep2_OK (h : OK C L) : OK (keepRows (keptF C L) C) (L.map (moveCl (plc (keptF C L)))) := by
  have hl := keepRows_len (keptF_len C L)
  refine ⟨?_, ?_, ?_⟩
  · exact keep_ok h.co (keptF_len C L) fun i r _ e g hg => plc_last h ((h.co.rows _ (List.mem_of_getElem? e)).tg g hg)
  · rw [hl]
    refine ⟨fun d hd => ?_, by rw [List.length_map]; exact h.cl.len⟩
    obtain ⟨c, hc, rfl⟩ := List.mem_map.mp hd
    have hk := h.cl.each c hc
    obtain ⟨e1, e2, e3, e4⟩ := edges_t0 c
    have h1 := hk.t0
    have h2 := hk.t1
    have h3 := hk.h0
    have h4 := hk.h1
    refine ⟨hk.so, ?_, plc_mono _ h2, ?_, plc_mono _ h4, fun hs => ?_⟩
    · exact (edge_mono (kept_edge hc e2 h2) c.t0).mp h1
    · exact (edge_mono (kept_edge hc e4 h4) c.h0).mp h3
    · have hs : c.sort = 1 := hs
      show (if c.sort = 1 then plc _ c.ex else c.ex) < _
      rw [if_pos hs]; exact plc_last h (hk.ex hs)
  · rw [hl]
    have := plc_last h h.ne
    omega
theorem keep2_run (h : OK C L) (tape : List Nat) : runAll (keepRows (keptF C L) C) (L.map (moveCl (plc (keptF C L)))) tape = runAll C L tape := by
  have := (keep2 h).run (Nat.zero_le _) tape
  rw [List.filter_eq_self.mpr (fun _ _ => rfl)] at this
  exact this
theorem round_OK (h : OK C L) : OK (roundC C L) (roundL C L) := keep2_OK (thread_OK h)
theorem round_run (h : OK C L) (tape : List Nat) : runAll (roundC C L) (roundL C L) tape = runAll C L tape := by
  have h1 := keep2_run (thread_OK h) tape
  rw [run_thread h tape] at h1
  exact h1

/-! dropping the dead rows -/
theorem reach_edge {x : Nat} {r : Row} (hx : Reach C L x) (e : C[x]? = some r) {g : Nat} (hg : g ∈ r.targets) : Reach C L g :=
  .step hx (.inl ⟨r, e, mem_succs.mpr (.inr hg)⟩)
theorem keep3 (h : OK C L) {fl : List Bool} (hf : fl.length = C.length) (hr : ∀ i : Nat, fl[i]? = some true ↔ Reach C L i) :
    Keep C L (dropF C L fl) (fun c => (List.range' c.t0 (c.t1 - c.t0)).any fun i => fl[i]? == some true) (fun x => Reach C L x ∨ x = C.length) := by
  have hfl : (dropF C L fl).length = C.length := by unfold dropF; rw [closeF_len, hf]
  have hkept : ∀ x, Reach C L x → (dropF C L fl)[x]? = some true := fun x hx => (closeF_get C x _ fl hf).mpr (.inl ((hr x).mpr hx))
  have hlt : ∀ x, Reach C L x → x < C.length := fun x hx => reach_lt h.co h.cl h.ne hx
  have hnone : ∀ (x : Nat) (r : Row), x = C.length → C[x]? = some r → False := fun x r z e => by
    have := (List.getElem?_eq_some_iff.mp e).1; omega
  have hnin : ∀ (x : Nat) (c : Cl), x = C.length → c ∈ L → c.inT x → False := fun x c z hc hi => by
    have := (h.cl.each c hc).t1
    have := hi.2
    omega
  refine ⟨h.co, hfl, ?_, ?_, ?_, ?_, ?_, ?_, ?_⟩
  · rintro x (hx | rfl)
    · exact Nat.le_of_lt (hlt x hx)
    · exact Nat.le_refl _
  · rintro x r (hx | z) e
    · exact .inl (hkept x hx)
    · exact (hnone x r z e).elim
  · rintro x r (hx | z) e g hg
    · exact .inl (reach_edge hx e hg)
    · exact (hnone x r z e).elim
  · rintro x r (hx | z) e hft
    · by_cases h1 : x + 1 < C.length
      · exact .inl (.step hx (.inl ⟨r, e, mem_succs.mpr (.inl ⟨hft, h1, rfl⟩)⟩))
      · have := hlt x hx; exact .inr (by omega)
    · exact (hnone x r z e).elim
  · rintro x c (hx | z) hc hi
    · exact ⟨.inl (.step hx (.inr ⟨c, hc, hi, .inl rfl⟩)), fun hs => .inl (.step hx (.inr ⟨c, hc, hi, .inr ⟨hs, rfl⟩⟩))⟩
    · exact (hnin x c z hc hi).elim
  · rintro x c (hx | z) hc hl hi
    · have : ((List.range' c.t0 (c.t1 - c.t0)).any fun i => fl[i]? == some true) = true := by
        rw [List.any_eq_true]
        refine ⟨x, ?_, by simpa using (hr x).mpr hx⟩
        rw [List.mem_range'_1]
        have h1 := hi.1
        have h2 := hi.2
        omega
      rw [this] at hl; cases hl
    · exact hnin x c z hc hi
  · rintro x c (hx | rfl) hc hl
    · exact ⟨kept_mono (hkept x hx) _, kept_mono (hkept x hx) _⟩
    · have hk := h.cl.each c hc
      have h1 := hk.t0
      have h2 := hk.t1
      have p1 := plc_mono (dropF C L fl) (show c.t0 ≤ C.length by omega)
      have p2 := plc_mono (dropF C L fl) h2
      constructor <;> constructor <;> intro z <;> omega
theorem drop_run (h : OK C L) {fl : List Bool} (hf : fl.length = C.length) (hr : ∀ i : Nat, fl[i]? = some true ↔ Reach C L i) (tape : List Nat) : runAll (dropC C L fl) (dropL C L fl) tape = runAll C L tape :=
  (keep3 h hf hr).run (.inl .zero) tape
theorem drop_ok2 (h : OK C L) {fl : List Bool} (hf : fl.length = C.length) (hr : ∀ i : Nat, fl[i]? = some true ↔ Reach C L i) : CodeOK (dropC C L fl) := by
  have hfl : (dropF C L fl).length = C.length := by unfold dropF; rw [closeF_len, hf]
  refine keep_ok h.co hfl fun i r hk e g hg => ?_
  rcases (closeF_get C i _ fl hf).mp hk with q | ⟨c, hc, hcl, rfl⟩
  · have hg' := reach_edge ((hr i).mp q) e hg
    have hkg : (dropF C L fl)[g]? = some true := (closeF_get C g _ fl hf).mpr (.inl ((hr g).mpr hg'))
    exact (kept_mono hkg _).mp (reach_lt h.co h.cl h.ne hg')
  · unfold closes at hcl
    rw [e] at hcl
    have ho : r.op = 65041 := by simp at hcl; exact hcl.2
    unfold Row.targets at hg
    rw [if_neg (by rw [ho]; decide), if_neg (by rw [ho]; decide)] at hg
    cases hg
end
end Mine
end
section
namespace Mine

/-! region keys and parts say the same -/
theorem rkAt_congr {p : Nat} {c : Cl} {a i : Nat} (h : partB a c = partB i c) : rkAt p c a = rkAt p c i := by
  unfold partB at h
  have h1 := congrArg (fun q : Part => q.1) h
  have h2 := congrArg (fun q : Part => q.2.1) h
  have h3 := congrArg (fun q : Part => q.2.2) h
  simp only [decide_eq_decide] at h1 h2 h3
  unfold rkAt
  simp only [h1, h2, h3]
theorem parts_get {L : List Cl} {a i : Nat} (h : parts L a = parts L i) {p : Nat} {c : Cl} (e : L[p]? = some c) : partB a c = partB i c := by
  have := congrArg (fun l => l[p]?) h
  unfold parts at this
  simp only [List.getElem?_map, e, Option.map_some, Option.some.injEq] at this
  exact this
theorem key_of_parts {L : List Cl} {a i : Nat} (h : parts L a = parts L i) : regionKey L a = regionKey L i := by
  unfold regionKey
  have : rkOne L a = rkOne L i := by
    funext p
    unfold rkOne
    cases e : L[p]? with
    | none => rfl
    | some c => exact rkAt_congr (parts_get h e)
  rw [this]
theorem mem_rkAt {p : Nat} {c : Cl} {a x : Nat} : x ∈ rkAt p c a ↔ (x = 3 * p ∧ c.inT a) ∨ (x = 3 * p + 1 ∧ c.sort = 1 ∧ c.ex ≤ a ∧ a < c.h0) ∨ (x = 3 * p + 2 ∧ c.h0 ≤ a ∧ a < c.h1) := by
  unfold rkAt
  rw [List.mem_append, List.mem_append]
  constructor
  · rintro ((h | h) | h)
    · split at h
      · rename_i q; exact .inl ⟨by simpa using h, q⟩
      · cases h
    · split at h
      · rename_i q; exact .inr (.inl ⟨by simpa using h, q⟩)
      · cases h
    · split at h
      · rename_i q; exact .inr (.inr ⟨by simpa using h, q⟩)
      · cases h
  · rintro (⟨rfl, q⟩ | ⟨rfl, q⟩ | ⟨rfl, q⟩)
    · rw [if_pos q]; simp
    · rw [if_pos q]; simp
    · rw [if_pos q]; simp
theorem mem_key {L : List Cl} {a p : Nat} {c : Cl} (e : L[p]? = some c) (d : Nat) (hd : d < 3) : 3 * p + d ∈ regionKey L a ↔ 3 * p + d ∈ rkAt p c a := by
  unfold regionKey
  rw [List.mem_flatMap]
  constructor
  · rintro ⟨q, _, h⟩
    unfold rkOne at h
    cases eq : L[q]? with
    | none => rw [eq] at h; cases h
    | some c' =>
      rw [eq] at h
      have : q = p := by
        rcases mem_rkAt.mp h with h | h | h <;> omega
      subst this
      rw [e] at eq; obtain rfl := Option.some.inj eq
      exact h
  · intro h
    refine ⟨p, List.mem_range.mpr (List.getElem?_eq_some_iff.mp e).1, ?_⟩
    unfold rkOne; rw [e]; exact h
theorem parts_of_key {L : List Cl} {a i : Nat} (h : regionKey L a = regionKey L i) : parts L a = parts L i := by
  unfold parts
  refine List.map_congr_left fun c hc => ?_
  obtain ⟨p, hp, e⟩ := List.mem_iff_getElem.mp hc
  have ep : L[p]? = some c := by rw [List.getElem?_eq_getElem hp, e]
  have k0 : 3 * p + 0 ∈ rkAt p c a ↔ 3 * p + 0 ∈ rkAt p c i := by rw [← mem_key ep 0 (by omega), ← mem_key ep 0 (by omega), h]
  have k1 : 3 * p + 1 ∈ rkAt p c a ↔ 3 * p + 1 ∈ rkAt p c i := by rw [← mem_key ep 1 (by omega), ← mem_key ep 1 (by omega), h]
  have k2 : 3 * p + 2 ∈ rkAt p c a ↔ 3 * p + 2 ∈ rkAt p c i := by rw [← mem_key ep 2 (by omega), ← mem_key ep 2 (by omega), h]
  have d0 : ∀ x, 3 * p + 0 ∈ rkAt p c x ↔ c.inT x := fun x => by
    rw [mem_rkAt]
    constructor
    · rintro (⟨_, q⟩ | ⟨q, _⟩ | ⟨q, _⟩)
      · exact q
      · omega
      · omega
    · exact fun q => .inl ⟨rfl, q⟩
  have d1 : ∀ x, 3 * p + 1 ∈ rkAt p c x ↔ (c.sort = 1 ∧ c.ex ≤ x ∧ x < c.h0) := fun x => by
    rw [mem_rkAt]
    constructor
    · rintro (⟨q, _⟩ | ⟨_, q⟩ | ⟨q, _⟩)
      · omega
      · exact q
      · omega
    · exact fun q => .inr (.inl ⟨rfl, q⟩)
  have d2 : ∀ x, 3 * p + 2 ∈ rkAt p c x ↔ (c.h0 ≤ x ∧ x < c.h1) := fun x => by
    rw [mem_rkAt]
    constructor
    · rintro (⟨q, _⟩ | ⟨q, _⟩ | ⟨_, q⟩)
      · omega
      · omega
      · exact q
    · exact fun q => .inr (.inr ⟨rfl, q⟩)
  rw [d0, d0] at k0
  rw [d1, d1] at k1
  rw [d2, d2] at k2
  unfold partB
  rw [decide_eq_decide.mpr k0, decide_eq_decide.mpr k1, decide_eq_decide.mpr k2]

/-! where a chain ends -/
section
variable {C : List Row} {L : List Cl}
noncomputable def Going (C : List Row) (L : List Cl) (i a : Nat) : Prop := (∃ r, C[a]? = some r ∧ r.op = 56) ∧ regionKey L a = regionKey L i
theorem chainGo_in {S : Nat → Prop} (hS : ∀ a r, S a → C[a]? = some r → S r.arg.goal) {i goal : Nat} (hg : S goal) : ∀ (f : Nat) (seen : List Nat) (a : Nat), S a → S (chainGo C L i goal f seen a)
  | 0, _, _, _ => hg
  | f + 1, seen, a, ha => by
    rw [chainGo]
    cases e : C[a]? with
    | none => exact hg
    | some r =>
      simp only
      by_cases o : r.op = 56 ∧ regionKey L a = regionKey L i
      · rw [if_pos o]
        by_cases hs : a ∈ seen
        · rw [if_pos hs]; exact hg
        · rw [if_neg hs]; exact chainGo_in hS hg f _ _ (hS a r ha e)
      · rw [if_neg o]; exact ha
theorem chainGo_end {i goal : Nat} (hc : CodeOK C) (hgl : goal < C.length) : ∀ (f : Nat) (seen : List Nat) (a : Nat), a < C.length → seen.Nodup → (∀ x ∈ seen, x < C.length ∧ Going C L i x ∧ ∀ r, C[x]? = some r → r.arg.goal ∈ seen ∨ r.arg.goal = a) → (goal ∈ seen ∨ goal = a) → C.length + 2 ≤ f + seen.length →
    ¬ Going C L i (chainGo C L i goal f seen a) ∨ (chainGo C L i goal f seen a = goal ∧ ∃ S : Nat → Prop, S goal ∧ ∀ x, S x → Going C L i x ∧ ∀ r, C[x]? = some r → S r.arg.goal)
  | 0, seen, a, ha, hn, hs, hg, hf => by
    have := pigeon _ _ hn fun x hx => (hs x hx).1
    omega
  | f + 1, seen, a, ha, hn, hs, hg, hf => by
    rw [chainGo]
    obtain ⟨r, er⟩ : ∃ r, C[a]? = some r := ⟨_, List.getElem?_eq_getElem ha⟩
    rw [er]
    simp only
    by_cases o : r.op = 56 ∧ regionKey L a = regionKey L i
    · rw [if_pos o]
      by_cases hm : a ∈ seen
      · rw [if_pos hm]
        refine .inr ⟨rfl, fun x => x ∈ seen, ?_, fun x hx => ⟨(hs x hx).2.1, fun r' e' => ?_⟩⟩
        · rcases hg with q | rfl
          · exact q
          · exact hm
        · rcases (hs x hx).2.2 r' e' with q | q
          · exact q
          · show r'.arg.goal ∈ seen
            rw [q]; exact hm
      · rw [if_neg hm]
        have hr := hc.rows _ (List.mem_of_getElem? er)
        obtain ⟨g', eg⟩ := hr.one (by omega)
        have hg' : r.arg.goal < C.length := by
          rw [eg]; exact hr.tg g' (by rw [targets_br (by rw [o.1]; rfl) eg]; simp)
        refine chainGo_end hc hgl f (seen ++ [a]) r.arg.goal hg' ?_ ?_ ?_ (by simp; omega)
        · rw [List.nodup_append]; exact ⟨hn, by simp, fun x hx y hy => by simp at hy; subst hy; rintro rfl; exact hm hx⟩
        · intro x hx
          rcases List.mem_append.mp hx with q | q
          · obtain ⟨h1, h2, h3⟩ := hs x q
            refine ⟨h1, h2, fun r' e' => ?_⟩
            rcases h3 r' e' with z | z
            · exact .inl (List.mem_append.mpr (.inl z))
            · exact .inl (by rw [z]; simp)
          · obtain rfl := List.mem_singleton.mp q
            refine ⟨ha, ⟨⟨r, er, o.1⟩, o.2⟩, fun r' e' => ?_⟩
            rw [er] at e'; obtain rfl := Option.some.inj e'; exact .inr rfl
        · rcases hg with q | rfl
          · exact .inl (List.mem_append.mpr (.inl q))
          · exact .inl (by simp)
    · rw [if_neg o]
      refine .inl ?_
      rintro ⟨⟨r', e', o'⟩, k'⟩
      rw [er] at e'; obtain rfl := Option.some.inj e'
      exact o ⟨o', k'⟩
theorem thread_stay {i a : Nat} : stay (threadRows C L) L i a ↔ Going C L i a := by
  unfold stay Going
  constructor
  · rintro ⟨⟨r', e, o⟩, k⟩
    obtain ⟨r, er, rfl⟩ := thread_back e
    rw [threadRow_op] at o
    exact ⟨⟨r, er, o⟩, key_of_parts k⟩
  · rintro ⟨⟨r, e, o⟩, k⟩
    exact ⟨⟨_, threadRows_get e, by rw [threadRow_op]; exact o⟩, parts_of_key k⟩
theorem thread_goals {i : Nat} {r : Row} (hr : RowOK C.length r) {g' : Nat} (h : g' ∈ goalsOf (threadRow C L i r)) : ∃ g, g < C.length ∧ g' = chainEnd C L i g := by
  by_cases h69 : r.op = 69
  · obtain ⟨gs, eg, _⟩ := hr.many h69
    rw [thread_69 h69 eg] at h
    unfold goalsOf at h
    rw [if_pos h69] at h
    simp only [Arg.goals] at h
    obtain ⟨g, hg, rfl⟩ := List.mem_map.mp h
    exact ⟨g, hr.tg g (by rw [targets_69 h69 eg]; exact hg), rfl⟩
  · obtain ⟨g, eg⟩ := hr.one h69
    by_cases hb : 56 ≤ r.op ∧ r.op < 69
    · have hbr : isBr r.op = true := by unfold isBr; simp; omega
      rw [thread_br hbr (by omega) eg] at h
      unfold goalsOf at h
      rw [if_neg h69, if_pos hb] at h
      exact ⟨g, hr.tg g (by rw [targets_br hbr eg]; simp), by simpa [Arg.goal] using h⟩
    · unfold goalsOf at h
      rw [threadRow_op, if_neg h69, if_neg hb] at h
      cases h
theorem thread_threaded (h : OK C L) (hk : ∀ i, i < C.length → keptAt (threadRows C L) L i = true) : Threaded (threadRows C L) L := by
  refine ⟨fun i r g e hg => ?_, fun i r e hi hlt => ?_⟩
  · obtain ⟨r0, er0, rfl⟩ := thread_back e
    obtain ⟨g0, hg0, rfl⟩ := thread_goals (h.co.rows _ (List.mem_of_getElem? er0)) hg
    have := chainGo_end (L := L) (i := i) h.co hg0 (C.length + 2) [] g0 hg0 (by simp) (by simp) (.inr rfl) (by simp)
    rcases this with q | ⟨q, S, hS0, hS⟩
    · exact ⟨fun _ => False, .inl fun z => q (thread_stay.mp z), fun a z => z.elim⟩
    · refine ⟨S, .inr ?_, fun a ha => ?_⟩
      · show S (chainEnd C L i g0)
        rw [show chainEnd C L i g0 = g0 from q]; exact hS0
      · obtain ⟨⟨⟨r, er, o⟩, k⟩, hn⟩ := hS a ha
        refine ⟨parts_of_key k, _, threadRows_get er, by rw [threadRow_op]; exact o, ?_⟩
        rw [thread_56 h.co er o]
        exact chainGo_in (fun x r' hx e' => (hS x hx).2 r' e') (hn r er) _ _ _ (hn r er)
  · obtain ⟨hx, _⟩ := List.getElem?_eq_some_iff.mp e
    have h1 := hk i (by rw [threadRows_len] at hx; exact hx)
    have h2 : idleAt (threadRows C L) i = true := by
      rw [idleAt_some e]
      unfold is56 at hi
      cases ea : r.arg with
      | one g => rw [ea] at hi; simp at hi; simp [Arg.goal, hi, hlt]
      | many gs => rw [ea] at hi; simp at hi
    unfold keptAt at h1
    rw [h2] at h1
    simp only [Bool.not_true, Bool.false_or, Bool.or_eq_true] at h1
    unfold isEdge at h1
    rcases h1 with q | q
    · obtain ⟨c, hc, hm⟩ := List.any_eq_true.mp q
      exact ⟨c, hc, .inl (by simpa using hm)⟩
    · obtain ⟨c, hc, hm⟩ := List.any_eq_true.mp q
      exact ⟨c, hc, .inr (by simpa using hm)⟩

/-! nothing struck: nothing moved -/
theorem plc_all {fl : List Bool} {n : Nat} (h : plc fl n = n) : ∀ i, i ≤ n → plc fl i = i := by
  intro i hi
  have h1 := plc_add fl i (n - i)
  rw [show i + (n - i) = n by omega, h] at h1
  have h2 := plc_add fl 0 i
  rw [plc_zero, Nat.zero_add] at h2
  omega
theorem kept_all {fl : List Bool} (h : plc fl fl.length = fl.length) {i : Nat} (hi : i < fl.length) : fl[i]? = some true := by
  have e : fl[i]? = some fl[i] := List.getElem?_eq_getElem hi
  have h1 := plc_succ e
  rw [plc_all h i (by omega), plc_all h (i + 1) (by omega)] at h1
  rw [e]
  cases hb : fl[i] with
  | true => rfl
  | false => rw [hb] at h1; simp at h1
theorem moveRow_same {n : Nat} {p : Nat → Nat} (hp : ∀ i, i ≤ n → p i = i) {r : Row} (hr : RowOK n r) : moveRow p r = r := by
  obtain ⟨op, a⟩ := r
  by_cases h69 : op = 69
  · obtain ⟨gs, e, _⟩ := hr.many h69
    obtain rfl : a = .many gs := e
    rw [moveRow_69 (r := ⟨op, .many gs⟩) h69 rfl]
    have : gs.map p = gs := by
      refine (List.map_congr_left fun g hg => ?_).trans (List.map_id gs)
      exact hp g (Nat.le_of_lt (hr.tg g (by rw [targets_69 (r := ⟨op, .many gs⟩) h69 rfl]; exact hg)))
    rw [this]
  · obtain ⟨g, e⟩ := hr.one h69
    obtain rfl : a = .one g := e
    cases hb : isBr op with
    | true =>
      rw [moveRow_br (r := ⟨op, .one g⟩) hb rfl]
      rw [hp g (Nat.le_of_lt (hr.tg g (by rw [targets_br (r := ⟨op, .one g⟩) hb rfl]; simp)))]
    | false => exact moveRow_no (r := ⟨op, .one g⟩) h69 hb
theorem moveCl_same {n : Nat} {p : Nat → Nat} (hp : ∀ i, i ≤ n → p i = i) {c : Cl} (hc : ClOK n c) : moveCl p c = c := by
  have h1 := hc.t0
  have h2 := hc.t1
  have h3 := hc.h0
  have h4 := hc.h1
  have h5 := hc.ex
  obtain ⟨s, t0, t1, h0, h1', ex⟩ := c
  unfold moveCl
  simp only at h1 h2 h3 h4 h5 ⊢
  rw [hp t0 (by omega), hp t1 (by omega), hp h0 (by omega), hp h1' (by omega)]
  by_cases hs : s = 1
  · rw [if_pos hs, hp ex (Nat.le_of_lt (h5 hs))]
  · rw [if_neg hs]
theorem keep_same {fl : List Bool} (hc : CodeOK C) (hf : fl.length = C.length) (h : plc fl C.length = C.length) : keepRows fl C = C := by
  have hl := keepRows_len hf
  have hp := plc_all h
  refine List.ext_getElem? fun i => ?_
  by_cases hi : i < C.length
  · obtain ⟨r, er⟩ : ∃ r, C[i]? = some r := ⟨_, List.getElem?_eq_getElem hi⟩
    have := keepRows_get hf (kept_all (by rw [hf]; exact h) (by omega)) er
    rw [hp i (by omega), moveRow_same hp (hc.rows _ (List.mem_of_getElem? er))] at this
    rw [this, er]
  · rw [List.getElem?_eq_none (by rw [hl, h]; omega), List.getElem?_eq_none (by omega)]
theorem round_threaded (h : OK C L) (he : (roundC C L).length = C.length) : Threaded (roundC C L) (roundL C L) := by
  have h1 := thread_OK h
  have hf : (roundF C L).length = (threadRows C L).length := by rw [roundF_len, threadRows_len]
  have hp : plc (roundF C L) (threadRows C L).length = (threadRows C L).length := by
    rw [← keepRows_len hf, threadRows_len]; exact he
  have e1 : roundC C L = threadRows C L := keep_same h1.co hf hp
  have e2 : roundL C L = L := by
    unfold roundL
    refine (List.map_congr_left fun c hc => ?_).trans (List.map_id L)
    exact moveCl_same (plc_all hp) (h1.cl.each c hc)
  rw [e1, e2]
  refine thread_threaded h fun i hi => ?_
  have hk := kept_all (fl := roundF C L) (by rw [hf]; exact hp) (by rw [hf, threadRows_len]; exact hi)
  unfold roundF at hk
  rw [keptF_get (by rw [threadRows_len]; exact hi)] at hk
  exact Option.some.inj hk
end
theorem plainLaw : PlainLaw where
  ok _ _ h := round_OK h
  run _ _ tape h := round_run h tape
  thr _ _ h e := round_threaded h e
  dok _ _ _ h hf hr := drop_ok2 h hf hr
  drun _ _ _ tape h hf hr := drop_run h hf hr tape
end Mine
end
section
namespace Mine
/-! the facts of the top, taken from the head's Ground -/
noncomputable def kvOf (e : DictEntry) : Int × Value := (match e.key with | .int k _ => k | _ => 0, e.val)
noncomputable def kvsOf (es : List DictEntry) : List (Int × Value) := es.map kvOf
noncomputable def tabOf (es : List DictEntry) (k : Int) : Option Int := match valueAt (kvsOf es) k with | some (.int i _) => some i | _ => none
noncomputable def entryOK (e : DictEntry) : Bool := match e.key, e.val with | .int k _, .int v _ => e.hash == hashInt k && (decide (v = 5) == isBr k) | _, _ => false
noncomputable def brOps : List Int := [56, 57, 58, 59, 60, 61, 62, 63, 64, 65, 66, 67, 68, 221]
noncomputable def nodupB (l : List Int) : Bool := match l with | [] => true | a :: r => !(r.any fun b => b == a) && nodupB r
noncomputable def sortOK (es : List DictEntry) : Bool := es.all entryOK && nodupB ((kvsOf es).map (·.1)) && brOps.all fun k => (kvsOf es).any fun q => q.1 == k
theorem nodupB_of : ∀ {l : List Int}, nodupB l = true → l.Nodup
  | [], _ => by simp
  | a :: r, h => by
    unfold nodupB at h
    simp only [Bool.and_eq_true, Bool.not_eq_true', List.any_eq_false, beq_iff_eq] at h
    rw [List.nodup_cons]
    exact ⟨fun hm => h.1 a hm rfl, nodupB_of h.2⟩
theorem entry_cases {e : DictEntry} (h : entryOK e = true) : ∃ k t v u, e.key = .int k t ∧ e.val = .int v u ∧ e.hash = hashInt k ∧ decide (v = 5) = isBr k := by
  unfold entryOK at h
  split at h
  · rename_i k t v u h1 h2
    simp only [Bool.and_eq_true, beq_iff_eq] at h
    exact ⟨k, t, v, u, h1, h2, h.1, h.2⟩
  · cases h
theorem pairs_of {prog : Program} {w : World} : ∀ {es : List DictEntry}, (∀ e ∈ es, entryOK e = true) → Pairs (intKind prog w) es (kvsOf es)
  | [], _ => .nil
  | e :: r, h => by
    obtain ⟨k, t, v, u, h1, h2, _, _⟩ := entry_cases (h e List.mem_cons_self)
    refine .cons ?_ rfl (pairs_of fun x hx => h x (List.mem_cons_of_mem _ hx))
    show Value.isInt (kvOf e).1 e.key = true
    unfold kvOf; rw [h1]; exact beq_self_eq_true _
theorem valueAt_mem {kvs : List (Int × Value)} {k : Int} {v : Value} (h : valueAt kvs k = some v) : (k, v) ∈ kvs := by
  unfold valueAt at h
  cases e : kvs.find? (fun kv => decide (kv.1 = k)) with
  | none => rw [e] at h; cases h
  | some q =>
    rw [e] at h
    have h1 := List.find?_some e
    have h2 := List.mem_of_find?_eq_some e
    simp only [decide_eq_true_eq] at h1
    simp only [Option.map_some, Option.some.injEq] at h
    rw [← h1, ← h]; exact h2
theorem valueAt_none {kvs : List (Int × Value)} {k : Int} (h : valueAt kvs k = none) : ∀ q ∈ kvs, q.1 ≠ k := by
  unfold valueAt at h
  rw [Option.map_eq_none_iff, List.find?_eq_none] at h
  intro q hq hk
  exact h q hq (by simpa using hk)
theorem tab_val {es : List DictEntry} (h : ∀ e ∈ es, entryOK e = true) (k j : Int) (u : Tok) : ∃ t, (valueAt (kvsOf es) k).getD (.int j u) = .int ((tabOf es k).getD j) t := by
  unfold tabOf
  cases e : valueAt (kvsOf es) k with
  | none => exact ⟨u, rfl⟩
  | some v =>
    obtain ⟨x, hx, hq⟩ := List.mem_map.mp (valueAt_mem e)
    obtain ⟨k', t, v', u', h1, h2, _, _⟩ := entry_cases (h x hx)
    have : v = .int v' u' := by
      have := congrArg (·.2) hq
      simp only [kvOf] at this
      rw [← this, h2]
    subst this
    exact ⟨u', rfl⟩
theorem mid_ops : ∀ n : Fin 13, (56 + (n.val : Int)) ∈ brOps := by decide
theorem mid_at {op : Int} (a : 56 ≤ op) (b : op ≤ 68) : ∃ n : Nat, n < 13 ∧ op = 56 + (n : Int) := ⟨(op - 56).toNat, by omega, by omega⟩
theorem isBr_ops {op : Int} (h : isBr op = true) : op ∈ brOps := by
  unfold isBr at h
  simp only [Bool.or_eq_true, Bool.and_eq_true, decide_eq_true_eq, beq_iff_eq] at h
  rcases h with ⟨h1, h2⟩ | rfl
  · obtain ⟨n, hn, rfl⟩ := mid_at h1 h2
    exact mid_ops ⟨n, hn⟩
  · decide
theorem tab_br {es : List DictEntry} (h : sortOK es = true) (op : Int) : decide ((tabOf es op).getD (-1) = 5) = isBr op := by
  unfold sortOK at h
  simp only [Bool.and_eq_true, List.all_eq_true] at h
  obtain ⟨⟨h1, _⟩, h3⟩ := h
  unfold tabOf
  cases e : valueAt (kvsOf es) op with
  | none =>
    cases hb : isBr op with
    | false => rfl
    | true =>
      obtain ⟨q, hq, hk⟩ := List.any_eq_true.mp (h3 op (isBr_ops hb))
      exact absurd (by simpa using hk) (valueAt_none e q hq)
  | some v =>
    obtain ⟨x, hx, hq⟩ := List.mem_map.mp (valueAt_mem e)
    obtain ⟨k', t, v', u', e1, e2, _, e4⟩ := entry_cases (h1 x hx)
    have hk : k' = op := by
      have := congrArg (·.1) hq
      simp only [kvOf, e1] at this; exact this
    have : v = .int v' u' := by
      have := congrArg (·.2) hq
      simp only [kvOf] at this
      rw [← this, e2]
    subst this
    rw [← hk, ← e4]; rfl
theorem dict_of {prog : Program} {w : World} {h : Heap} {d : Addr} {o : Obj} {es : Array DictEntry} {ep : Nat} (ho : h.get? d = some o) (hx : o.ExactDict) (hd : o.data = .dict es ep) (ok : sortOK es.toList = true) : h.DictOf (intKind prog w) d (kvsOf es.toList) := by
  unfold sortOK at ok
  simp only [Bool.and_eq_true, List.all_eq_true] at ok
  obtain ⟨⟨h1, h2⟩, _⟩ := ok
  refine ⟨o, es, ep, ho, hx, hd, fun e he => ?_, pairs_of h1, nodupB_of h2⟩
  obtain ⟨k, t, v, u, e1, _, e3, _⟩ := entry_cases (h1 e (Array.mem_toList_iff.mpr he))
  exact ⟨k, by rw [e1]; exact beq_self_eq_true _, e3⟩
end Mine
end
section
namespace Mine
/-! what is seen of the top's objects: the text's defs, its numbers, the free names, OP_SORT -/
noncomputable def dictOf? (o : Obj) : Option (Array DictEntry) := match o.data with
  | .dict es _ => some es
  | _ => none
theorem dictOf_some {o : Obj} {es : Array DictEntry} (h : dictOf? o = some es) : ∃ ep, o.data = .dict es ep := by
  unfold dictOf? at h
  split at h
  · rename_i es' ep e
    obtain rfl := Option.some.inj h
    exact ⟨ep, e⟩
  · cases h
noncomputable def bareFn (fd : FuncData) : FuncData := { fd with pyModule := .none, code := .none, doc := .none }
noncomputable def recB (h : Heap) (cd : Value) (q : Str) : Bool := match cd with
  | .ref c => (match h.get? c with
    | some o => (match o.data with
      | .fields vs => (match (vs[1]? : Option Value) with | some (.str n _) => n == q | _ => false)
      | _ => false)
    | none => false)
  | _ => false
noncomputable def fnAt (h : Heap) (es : Array DictEntry) (n : Str) : Option (FuncData × Bool) := match nsFind es n with
  | some (.ref a) => (match h.get? a with
    | some o => (match o.data with | .func fd => some (bareFn fd, recB h fd.code n) | _ => none)
    | none => none)
  | _ => none
noncomputable def sortB (h : Heap) (es : Array DictEntry) : Bool := match nsFind es "OP_SORT" with
  | some (.ref d) => !(d == sysModules) && (match h.get? d with
    | some o => (match o.cls, o.dict, o.slots with
      | .type "dict", none, ⟨[]⟩ => (match dictOf? o with | some es => sortOK es.toList | none => false)
      | _, _, _ => false)
    | none => false)
  | _ => false
noncomputable def intB (es : Array DictEntry) (q : Str × Int) : Bool := match nsFind es q.1 with | some (.int j _) => j == q.2 | _ => false
noncomputable def seenIn (h : Heap) : Option (List (Option (FuncData × Bool)) × Bool) := match h.get? mainGlobals with
  | some o => (match dictOf? o with
    | some es => some ((List.range 36).map fun i => fnAt h es (fdOf i).name, constTab.all (intB es) && (buiTab.all (fun q => (nsFind es q.1).isNone) && sortB h es))
    | none => none)
  | none => none
noncomputable def seenGood : Option (List (Option (FuncData × Bool)) × Bool) := some ((List.range 36).map fun i => some (Calls.docDef (fdOf i).name (fdOf i).params (fdOf i).body (fdOf i).scope .none .none .none, true), true)
structure Seen (h : Heap) (mg : Str → Option Value) : Prop where
  defs : ∀ i, i < 36 → ∃ (fv : Addr) (o : Obj) (pm cd doc : Value), mg (fdOf i).name = some (.ref fv) ∧ h.get? fv = some o ∧ o.data = .func (Calls.docDef (fdOf i).name (fdOf i).params (fdOf i).body (fdOf i).scope pm cd doc) ∧ h.CodeRec cd (fdOf i).name
  const : ∀ q ∈ constTab, ∃ t, mg q.1 = some (.int q.2 t)
  free : ∀ q ∈ buiTab, mg q.1 = none
  sort : ∃ d o es ep, mg "OP_SORT" = some (.ref d) ∧ (d == sysModules) = false ∧ h.get? d = some o ∧ o.ExactDict ∧ o.data = .dict es ep ∧ sortOK es.toList = true
theorem rec_of {h : Heap} {cd : Value} {q : Str} (e : recB h cd q = true) : h.CodeRec cd q := by
  unfold recB at e
  split at e
  · rename_i c
    split at e
    · rename_i o ho
      split at e
      · rename_i vs hv
        split at e
        · rename_i n t hn
          rw [beq_iff_eq] at e
          exact ⟨c, o, vs, t, rfl, ho, hv, by rw [hn, e]⟩
        · cases e
      · cases e
    · cases e
  · cases e
theorem fn_of {h : Heap} {es : Array DictEntry} {i : Nat} (e : fnAt h es (fdOf i).name = some (Calls.docDef (fdOf i).name (fdOf i).params (fdOf i).body (fdOf i).scope .none .none .none, true)) :
    ∃ (fv : Addr) (o : Obj) (pm cd doc : Value), nsFind es (fdOf i).name = some (.ref fv) ∧ h.get? fv = some o ∧ o.data = .func (Calls.docDef (fdOf i).name (fdOf i).params (fdOf i).body (fdOf i).scope pm cd doc) ∧ h.CodeRec cd (fdOf i).name := by
  unfold fnAt at e
  split at e
  · rename_i a ha
    split at e
    · rename_i o ho
      split at e
      · rename_i fd hd
        obtain ⟨e1, e2⟩ := Prod.mk.inj (Option.some.inj e)
        have e3 : fd = Calls.docDef (fdOf i).name (fdOf i).params (fdOf i).body (fdOf i).scope fd.pyModule fd.code fd.doc :=
          congrArg (fun d : FuncData => { d with pyModule := fd.pyModule, code := fd.code, doc := fd.doc }) e1
        exact ⟨a, o, _, _, _, ha, ho, by rw [hd]; exact congrArg Data.func e3, rec_of e2⟩
      · cases e
    · cases e
  · cases e
theorem sort_of {h : Heap} {es : Array DictEntry} (e : sortB h es = true) : ∃ d o es' ep, nsFind es "OP_SORT" = some (.ref d) ∧ (d == sysModules) = false ∧ h.get? d = some o ∧ o.ExactDict ∧ o.data = .dict es' ep ∧ sortOK es'.toList = true := by
  unfold sortB at e
  split at e
  · rename_i d hd
    obtain ⟨e1, e2⟩ := Bool.and_eq_true_iff.mp e
    split at e2
    · rename_i o ho
      split at e2
      · rename_i c1 c2 c3
        split at e2
        · rename_i es' he
          obtain ⟨ep, hdd⟩ := dictOf_some he
          exact ⟨d, o, es', ep, hd, by simpa using e1, ho, ⟨c1, c2, c3⟩, hdd, e2⟩
        · cases e2
      · cases e2
    · cases e2
  · cases e
theorem seen_of {h : Heap} (e : seenIn h = seenGood) : (∃ o, h.get? mainGlobals = some o) ∧ ∀ mg, h.Ns mainGlobals mg → Seen h mg := by
  unfold seenIn seenGood at e
  split at e
  · rename_i o ho
    split at e
    · rename_i es hes
      obtain ⟨ep, hd⟩ := dictOf_some hes
      obtain ⟨e1, e2⟩ := Prod.mk.inj (Option.some.inj e)
      simp only [Bool.and_eq_true, List.all_eq_true] at e2
      obtain ⟨e2, e3, e4⟩ := e2
      refine ⟨⟨o, ho⟩, fun mg G => ?_⟩
      obtain ⟨o', es', ep', ho', hd', _, hf⟩ := G
      rw [ho] at ho'
      obtain rfl := Option.some.inj ho'
      rw [hd] at hd'
      cases hd'
      refine ⟨fun i hi => ?_, fun q hq => ?_, fun q hq => ?_, ?_⟩
      · rw [← hf]
        exact fn_of (List.map_inj_left.mp e1 i (List.mem_range.mpr hi))
      · have := e2 q hq
        unfold intB at this
        split at this
        · rename_i j t hj
          rw [beq_iff_eq] at this
          exact ⟨t, by rw [← hf, hj, this]⟩
        · cases this
      · rw [← hf]; exact Option.isNone_iff_eq_none.mp (e3 q hq)
      · rw [← hf]; exact sort_of e4
    · cases e
  · cases e
theorem rec_keeps {h h' : Heap} {cd : Value} {q : Str} (c : h.CodeRec cd q) (k : ∀ b o, h.get? b = some o → h'.get? b = some o) : h'.CodeRec cd q := by
  obtain ⟨c, o, vs, t, a, b, d⟩ := c
  exact ⟨c, o, vs, t, a, k _ _ b, d⟩
theorem seen_keeps {h h' : Heap} (q : (∃ o, h.get? mainGlobals = some o) ∧ ∀ mg, h.Ns mainGlobals mg → Seen h mg) (k : ∀ b o, h.get? b = some o → h'.get? b = some o) : (∃ o, h'.get? mainGlobals = some o) ∧ ∀ mg, h'.Ns mainGlobals mg → Seen h' mg := by
  obtain ⟨⟨o, ho⟩, q⟩ := q
  refine ⟨⟨o, k _ _ ho⟩, fun mg G => ?_⟩
  obtain ⟨o', es', ep', ho', hd', hs', hf⟩ := G
  rw [k _ _ ho] at ho'
  obtain rfl := Option.some.inj ho'
  have S := q mg ⟨_, es', ep', ho, hd', hs', hf⟩
  refine ⟨fun i hi => ?_, S.const, S.free, ?_⟩
  · obtain ⟨fv, o, pm, cd, doc, a, b, c, d⟩ := S.defs i hi
    exact ⟨fv, o, pm, cd, doc, a, k _ _ b, c, rec_keeps d k⟩
  · obtain ⟨d, o, es, ep, a, b, c, r⟩ := S.sort
    exact ⟨d, o, es, ep, a, b, k _ _ c, r⟩
theorem gd_of {prog : Program} {w : World} {q : Program} {loose : List Str} {mean : ExcName → Option Value} {mg mb : Str → Option Value} {h : Heap} (T : Top q loose mean mg mb h) (S : Seen h mg)
    (e4 : fnNames = (List.range 35).map fun i => (fdOf i).name) : ∃ tab, Gd prog w h mg mb tab := by
  obtain ⟨d, o, es, ep, hD, hsys, ho, hx, hd, ok⟩ := S.sort
  refine ⟨tabOf es.toList, fun k names kinds => ⟨⟨T.g, T.b, T.nolimit⟩, fun x i hl => S.const _ (mem_lookup hl), fun x v hl => ?_, fun f hf => ?_, ?_⟩, S.defs, tab_br ok⟩
  · have hm := mem_lookup hl
    refine ⟨S.free _ hm, ?_⟩
    have hb : ∀ q ∈ buiTab, q.1 ≠ "__name__" ∧ bootBuiltins q.1 = some q.2 := by
      intro q hq
      simp only [buiTab, List.mem_cons, List.not_mem_nil, or_false] at hq
      rcases hq with rfl | rfl | rfl | rfl | rfl
      all_goals exact ⟨by decide +kernel, by with_unfolding_all rfl⟩
    show mb x = some v
    rw [T.builtins x (hb _ hm).1]
    exact (hb _ hm).2
  · have : f ∈ fnNames := by simpa using hf
    rw [e4] at this
    obtain ⟨i, hi, rfl⟩ := List.mem_map.mp this
    obtain ⟨fv, o, pm, cd, doc, h1, h2, h3, _⟩ := S.defs i (Nat.lt_trans (List.mem_range.mp hi) (by decide))
    exact ⟨fv, o, _, h1, h2, h3⟩
  · have hok : ∀ e ∈ es.toList, entryOK e = true := by
      have := ok
      unfold sortOK at this
      simp only [Bool.and_eq_true] at this
      exact List.all_eq_true.mp this.1.1
    exact ⟨d, kvsOf es.toList, hD, hsys, dict_of ho hx hd ok, fun k j u => tab_val hok k j u⟩
end Mine
end
section
namespace Mine
theorem rdAll_ints {h : Heap} {M : Addr → Prop} : ∀ {vs : List Value} {xs : List Int}, IntsAre vs xs → RdAll h M (xs.map eI) vs := by
  intro vs xs q
  induction q with
  | nil => trivial
  | cons n t _ ih => exact ⟨_, _, rfl, ⟨t, rfl⟩, ih⟩
theorem fin {prog : Program} {w : World} {mg mb : Str → Option Value} {tab : Int → Option Int} {s : Shared} {fa a : Addr} {vs : List Value} {xs : List Int} {E : Value → Shared → Prop} {Q : Value → Shared → Prop}
    (Γ : Gd prog w s.heap mg mb tab) (hfa : mg "law" = some (.ref fa)) (hL : s.heap.IsList a vs.toArray) (hI : IntsAre vs xs) (hlen : xs.length ≤ 63)
    (h : ∀ s' : Shared, (∀ b o, s.heap.get? b = some o → s'.heap.get? b = some o) → s'.os = s.os → s'.gens = s.gens → Q (.bool true) s') :
    wpAny (model prog w) callerA (call (.ref fa) [.ref a]) Q E s := by
  obtain ⟨fv, o, pm, cd, doc, h1, h2, h3, _⟩ := Γ.d 35 (by decide)
  have hn : (fdOf 35).name = "law" := by with_unfolding_all rfl
  rw [hn] at h1
  rw [hfa] at h1; cases h1
  have hc := c_law (k := 0) (script := xs) (σ := []) (Q := fun V _ => V = .d (.bool true)) Γ plainLaw rfl
  refine wpAny_call (codeAny_mono (hc callerA (fun _ => False) [] s [.ref a] fa o _ ⟨rfl, by decide, by decide⟩ ⟨rfl, by simp, fun _ _ e => e, by simp, by simp, by simp, fun _ z => z.elim, fun _ z => z.elim⟩ hfa h2 h3 (.cons ?_ .nil)) ?_)
  · exact ⟨a, vs, rfl, fun z => z.elim id (fun ⟨n, _, e, _⟩ => by simp at e), hL, lim_of (by rw [List.length_map]; omega), rdAll_ints hI⟩
  · intro r s' p
    cases r with
    | error e => exact p.elim
    | ok f => cases f with
      | ret v =>
        obtain ⟨α', σ', V, h', tk, rfl, S', X, rp, rfl⟩ := p
        have hv : v = .bool true := rp
        subst hv
        exact h _ (fun b o e => S'.old b o e) rfl rfl
      | _ => exact p.elim
theorem good {c : ClaimW} {cl : Str → Option Addr} {mean : ExcName → Option Value} {args : List WData} {s s' : Shared} (hr : ∀ cls, c.raises args cls = false) (hp : c.post args (.bool true) args = true)
    (h1 : ∀ b o, s.heap.get? b = some o → s'.heap.get? b = some o) (h2 : s'.os = s.os) (h3 : s'.gens = s.gens) (hg : s.gens = #[]) : GoodWG c cl mean args s (.ok (.ret (.bool true))) s' :=
  ⟨.inl ⟨_, .bool true, [], rfl, hr, .bool true, hp, fun _ => ⟨.nil, by simp⟩⟩, .of_keep h1, h2, .of_eq (h3.trans hg)⟩
end Mine
end
section
set_option maxHeartbeats 8000000
namespace Mine
noncomputable section
/-! the run of the top over a tree of objects, in one piece -/
noncomputable def loadT : List Obj → BT → Nat → Option (BT × Nat)
  | [], t, n => some (t, n)
  | o :: l, t, n => match ((t.ins n o).get n).isSome with
    | true => loadT l (t.ins n o) (n + 1)
    | false => none
noncomputable def runT (ok : Thread → Bool) (stp : SharedT → Thread → Option (SharedT × Thread)) : Nat → SharedT → Thread → Option SharedT
  | 0, _, _ => none
  | n + 1, s, t => match through t with
    | true => some s
    | false => match ok t with
      | false => none
      | true => match stp s t with
        | some (s', t') => runT ok stp n s' t'
        | none => none
theorem loadT_abs {life : Life} : ∀ {l : List Obj} {t t' : BT} {n n' : Nat}, loadT l t n = some (t', n') → absHeap t' n' life = ⟨((absHeap t n life).objs.toList ++ l).toArray, life⟩
  | [], t, t', n, n', h => by
    obtain ⟨rfl, rfl⟩ := Prod.mk.inj (Option.some.inj h)
    rw [List.append_nil]; rfl
  | o :: l, t, t', n, n', h => by
    unfold loadT at h
    cases e : ((t.ins n o).get n).isSome with
    | false => rw [e] at h; cases h
    | true =>
      rw [e] at h
      have q := loadT_abs (life := life) h
      rw [q, absHeap_ins e]
      show Heap.mk _ _ = Heap.mk _ _
      congr 2
      show ((absHeap t n life).objs.push o).toList ++ l = _
      rw [Array.toList_push, List.append_assoc]; rfl
theorem runT_spec {p : Program} {w : World} {n₀ : Nat} {ann : Option Value} : ∀ {n : Nat} {s r : SharedT} {t : Thread}, runT (stepOk n₀ ann) (stepT (denote treeTable) p w) n s t = some r → topRun treeTable p w n₀ ann n s.abs t = some r.abs
  | 0, _, _, _, h => by cases h
  | n + 1, s, r, t, h => by
    unfold runT at h
    unfold topRun
    cases ht : through t with
    | true => rw [ht] at h; cases h; rfl
    | false =>
      rw [ht] at h
      cases hk : stepOk n₀ ann t with
      | false => rw [hk] at h; cases h
      | true =>
        rw [hk] at h
        cases hs : stepT (denote treeTable) p w s t with
        | none => rw [hs] at h; cases h
        | some x => obtain ⟨s₂, t₂⟩ := x; rw [hs] at h; rw [stepT_spec hs]; exact runT_spec h

noncomputable def runK (ok : Thread → Bool) (stp : SharedT → Thread → Option (SharedT × Thread)) : Nat → SharedT → Thread → Option (SharedT × Thread)
  | 0, s, t => some (s, t)
  | n + 1, s, t => match through t with
    | true => none
    | false => match ok t with
      | false => none
      | true => match stp s t with
        | some (s', t') => runK ok stp n s' t'
        | none => none
theorem runK_spec {p : Program} {w : World} {n₀ : Nat} {ann : Option Value} : ∀ {n : Nat} {s r : SharedT} {t u : Thread}, runK (stepOk n₀ ann) (stepT (denote treeTable) p w) n s t = some (r, u) → topGo treeTable p w n₀ ann n s.abs t = some (r.abs, u)
  | 0, _, _, _, _, h => by obtain ⟨rfl, rfl⟩ := Prod.mk.inj (Option.some.inj h); rfl
  | n + 1, s, r, t, u, h => by
    unfold runK at h
    unfold topGo
    cases ht : through t with
    | true => rw [ht] at h; cases h
    | false =>
      rw [ht] at h
      cases hk : stepOk n₀ ann t with
      | false => rw [hk] at h; cases h
      | true =>
        rw [hk] at h
        cases hs : stepT (denote treeTable) p w s t with
        | none => rw [hs] at h; cases h
        | some x => obtain ⟨s₂, t₂⟩ := x; rw [hs] at h; rw [stepT_spec hs]; exact runK_spec h
/-! a dict's places, told along the list of its entries -/
noncomputable def eqI : Int → Int → Bool
  | .ofNat a, .ofNat b => Nat.beq a b
  | .negSucc a, .negSucc b => Nat.beq a b
  | _, _ => false
theorem eqI_eq : ∀ a b : Int, (some a == some b) = eqI a b
  | .ofNat a, .ofNat b => by
    show _ = Nat.beq a b
    rw [Bool.eq_iff_iff, beq_iff_eq, Option.some.injEq, Int.ofNat.injEq, Nat.beq_eq]
  | .negSucc a, .negSucc b => by
    show _ = Nat.beq a b
    rw [Bool.eq_iff_iff, beq_iff_eq, Option.some.injEq, Int.negSucc.injEq, Nat.beq_eq]
  | .ofNat a, .negSucc b => beq_eq_false_iff_ne.mpr (fun e => Int.noConfusion (Option.some.inj e))
  | .negSucc a, .ofNat b => beq_eq_false_iff_ne.mpr (fun e => Int.noConfusion (Option.some.inj e))
noncomputable def plQ (h : Int) (l : List DictEntry) : Nat → List Nat :=
  @List.rec DictEntry (fun _ => Nat → List Nat) (fun _ => []) (fun e _ ih i => match eqI e.hash h with | true => i :: ih (i + 1) | false => ih (i + 1)) l
theorem plQ_eq (h : Int) : ∀ (l pre : List DictEntry), (List.range' pre.length l.length).filter (fun i => ((pre ++ l)[i]?.map (·.hash)) == some h) = plQ h l pre.length
  | [], pre => rfl
  | e :: l, pre => by
    have ih := plQ_eq h l (pre ++ [e])
    rw [List.append_assoc, List.length_append] at ih
    rw [List.length_cons, List.range'_succ, List.filter_cons]
    have e0 : (pre ++ e :: l)[pre.length]? = some e := by rw [List.getElem?_append_right (Nat.le_refl _), Nat.sub_self]; rfl
    rw [e0]
    have ih' : (List.range' (pre.length + 1) l.length).filter (fun i => ((pre ++ e :: l)[i]?.map (·.hash)) == some h) = plQ h l (pre.length + 1) := ih
    rw [ih']
    show (if (some e.hash == some h) = true then _ else _) = (match eqI e.hash h with | true => pre.length :: plQ h l (pre.length + 1) | false => plQ h l (pre.length + 1))
    rw [eqI_eq]
    cases eqI e.hash h <;> rfl
theorem places_q (es : Array DictEntry) (h : Int) : PySem.W.Fast.tw2965532104302071907 es.size (fun i => Option.map (fun x => x.hash) es[i]?) h = plQ h es.toList 0 := by
  rw [← PySem.W.Fast.te2965532104302071907]
  unfold placesWithHash
  have := plQ_eq h es.toList []
  rw [List.length_nil, List.nil_append] at this
  rw [← this, List.range_eq_range', Array.length_toList]
  simp only [Array.getElem?_toList]
noncomputable def fFind : {f : Addr → Value → Int → Sem (Option Nat) // @PySem.W.Fast.tw7228091826238408665 = f} := ⟨_, by delta PySem.W.Fast.tw7228091826238408665; simp only [places_q]; rfl⟩
noncomputable def fSetH : {f : Addr → Value → Int → Value → Sem Unit // @PySem.W.Fast.tw4359058424727691002 = f} := ⟨_, by delta PySem.W.Fast.tw4359058424727691002; rw [fFind.2]⟩
noncomputable def fSet : {f : Addr → Value → Value → Sem Unit // @PySem.W.Fast.tw11925912800584824493 = f} := ⟨_, by delta PySem.W.Fast.tw11925912800584824493; rw [fSetH.2]⟩
noncomputable def fPut : {f : Addr → Int → Value → Value → Sem Unit // @PySem.W.Fast.tw9652029157277244616 = f} := ⟨_, by delta PySem.W.Fast.tw9652029157277244616; rw [fFind.2]⟩
noncomputable def fSub : {f : List (Sem Value × Sem Value) → Sem Addr // @PySem.W.Fast.tw11913375310210876947 = f} := ⟨_, by delta PySem.W.Fast.tw11913375310210876947; rw [fSet.2]⟩
noncomputable def fMerge : {f : Addr → Value → Bool → Sem Unit // @PySem.W.Fast.tw8596071696976842438 = f} := ⟨_, by delta PySem.W.Fast.tw8596071696976842438; rw [fPut.2]⟩
noncomputable def fDisp : {f : List (Option (Sem Value) × Sem Value) → Sem Value // @PySem.W.Fast.tw11216187645035866516 = f} := ⟨_, by delta PySem.W.Fast.tw11216187645035866516; rw [fSub.2, fMerge.2]⟩
/-! the text's statements -/
noncomputable def pwT : Program := PySem.Challenge.pw_sa0228_01
noncomputable def bodyT : List Stmt := behindTheImports PySem.Challenge.pw_sa0228_01
noncomputable def st29 : Stmt := match bodyT[29]? with | some s => s | none => .Pass ⟨0, 0, 0, 0⟩
noncomputable def l1T : List Stmt := bodyT.take 29
noncomputable def l3T : List Stmt := bodyT.drop 30
noncomputable def asgOf : Stmt → List Expr × PySem.Pos | .Assign t _ p => (t, p) | _ => ([], ⟨0, 0, 0, 0⟩)
noncomputable def dicOf : Stmt → List (Option Expr) × List Expr × PySem.Pos | .Assign _ (.Dict k v p) _ => (k, v, p) | _ => ([], [], ⟨0, 0, 0, 0⟩)
theorem st29_form : st29 = .Assign (asgOf st29).1 (.Dict (dicOf st29).1 (dicOf st29).2.1 (dicOf st29).2.2) (asgOf st29).2 := by kernel_rfl
theorem body_split : bodyT = l1T ++ (st29 :: (l3T ++ [])) := by kernel_rfl
noncomputable def envT : Env := { scope := PySem.Challenge.pw_sa0228_01.main.scope, locals := mainNs, globals := mainNs, cells := [], code := .ref 13, frame := some 14 }
noncomputable def x29 : {x : Sem Flow // exec st29 envT = x} := ⟨_, by
  rw [st29_form, arm_exec_Assign, arm_eval_Dict, PySem.W.Fast.te12456147031677567982, PySem.W.Fast.te7783108440312521181, PySem.W.Fast.te1406442740598737775, PySem.W.Fast.te15591190973536708279, PySem.W.Fast.te15628205474173192105, PySem.W.Fast.te4016559146275205325, PySem.W.Fast.te2470068587113613483, PySem.W.Fast.te10458482166411082596, PySem.W.Fast.te11216187645035866516, fDisp.2]⟩

noncomputable def pos0 : PySem.Pos := ⟨0, 0, 0, 0⟩
noncomputable def B0 : List Frame := [topFrame pos0]
noncomputable def codeT : Code := .body bodyT envT
noncomputable def nextOf {α : Type} (o : Option (Flow × α)) : Option α := o.bind fun x => match x.1 with | .next => some x.2 | _ => none
theorem nextOf_some {α : Type} {o : Option (Flow × α)} {a : α} (h : nextOf o = some a) : o = some (.next, a) := by
  obtain ⟨⟨f, b⟩, e, k⟩ := Option.bind_eq_some_iff.mp h
  rw [e]
  cases f with
  | next => obtain rfl := Option.some.inj k; rfl
  | _ => cases k
abbrev Runner := SharedT → Thread → Option (SharedT × Thread)
noncomputable def goG (ok : Thread → Bool) (stp : Runner) (sg : Nat → SharedT → Thread → Option (Flow × SharedT × Code × PySem.Pos)) (stub : Thread) (t0 : PySem.Pos → Thread) (t1 : List Stmt → PySem.Pos → Thread) (x : Sem Flow) (s : SharedT) : Option (SharedT × Thread × Code × Code × Code × Code) :=
  (runK ok stp 12 s stub).bind fun a =>
  (nextOf (sg 3 a.1 (t0 pos0))).bind fun b0 =>
  (nextOf (sg 1000 b0.1 (t1 l1T b0.2.2))).bind fun b1 =>
  (nextOf (sg 3000 b1.1 ⟨x.wrap doneF deadEnd id id, codeT, b1.2.2, B0⟩)).bind fun b2 =>
  (nextOf (sg 3000 b2.1 (t1 l3T b2.2.2))).bind fun b3 =>
  (runT ok stp 10 b3.1 ⟨doneF .next, codeT, b3.2.2, B0⟩).map fun r => (r, a.2, b0.2.1, b1.2.1, b2.2.1, b3.2.1)
noncomputable def goF (w : World) (s : SharedT) : Option (SharedT × Thread × Code × Code × Code × Code) :=
  goG (stepOk 11 (some (.ref 6))) (stepT (denote treeTable) pwT w) (segRunT treeTable pwT w 11 (some (.ref 6)) 1) (topStub pwT) (fun p => blockOf bodyT envT codeT p B0) (fun l p => piecesOf l envT codeT p B0) (exec st29 envT) s
theorem goF_spec {w : World} {s r : SharedT} (h : goF w s = some (r, ⟨denote treeTable codeT, codeT, pos0, B0⟩, codeT, codeT, codeT, codeT)) :
    topRun treeTable pwT w 11 (some (.ref 6)) (12 + (3 + (1000 + (3000 + (3000 + 10))))) s.abs (topStub pwT) = some r.abs := by
  unfold goF goG at h
  obtain ⟨⟨sa, ta⟩, e0, h⟩ := Option.bind_eq_some_iff.mp h
  obtain ⟨⟨s0, c0, p0⟩, e1, h⟩ := Option.bind_eq_some_iff.mp h
  obtain ⟨⟨s1, c1, p1⟩, e2, h⟩ := Option.bind_eq_some_iff.mp h
  obtain ⟨⟨s2, c2, p2⟩, e3, h⟩ := Option.bind_eq_some_iff.mp h
  obtain ⟨⟨s3, c3, p3⟩, e4, h⟩ := Option.bind_eq_some_iff.mp h
  obtain ⟨r', e5, h⟩ := Option.map_eq_some_iff.mp h
  obtain ⟨h0, h⟩ := Prod.mk.inj h
  obtain ⟨h1, h⟩ := Prod.mk.inj h
  obtain ⟨h2, h⟩ := Prod.mk.inj h
  obtain ⟨h3, h⟩ := Prod.mk.inj h
  obtain ⟨h4, h5⟩ := Prod.mk.inj h
  obtain rfl : r' = r := h0
  obtain rfl : ta = ⟨denote treeTable codeT, codeT, pos0, B0⟩ := h1
  obtain rfl : c0 = codeT := h2
  obtain rfl : c1 = codeT := h3
  obtain rfl : c2 = codeT := h4
  obtain rfl : c3 = codeT := h5
  refine go_top (runK_spec e0) (piece_block (segRun_of (nextOf_some e1)) ?_)
  rw [body_split]
  refine piece_app (segRun_of (nextOf_some e2)) (piece_cons (segRun_of (nextOf_some e3)) (piece_app (segRun_of (nextOf_some e4)) (piece_nil (runT_spec e5))))

/-- what is looked at when the top is through -/
noncomputable def looksAt {α : Type} (q : Program) (loose : List Str) (Xt : Shared → Bool) (Yf : Shared → α) (h₀ : Heap) (s : Shared) :=
  (staticsOk (importedModules pwT.main.body) h₀ s.heap && namesBound pwT s.heap && gensDone s && laidKept h₀ s.heap, openSeen q loose (importedModules pwT.main.body) Xt true s, Yf s)
noncomputable def allF {α : Type} (q : Program) (loose : List Str) (Xt : Shared → Bool) (Yf : Shared → α) (w : World) (os : OsState) :=
  (loadT (boot_heap w.params).objs.toList .nil 0).bind fun x => (goF w ⟨x.1, x.2, (boot_heap w.params).life, .mk [], boot_drawn, boot_toks, os⟩).map fun y => (looksAt q loose Xt Yf (boot_heap w.params) y.1.abs, y.2)
theorem boot_size (w : World) : ((boot_heap w.params).isNs mainGlobals && true, (boot_heap w.params).objs.size, (boot_heap w.params).nsMap mainGlobals "__annotations__") = (true, 11, some (.ref 6)) := by kernel_rfl
theorem left_a {q : Program} {loose : List Str} {Xt : Shared → Bool} {α : Type} {Yf : Shared → α} {Ya : World → α} {w : World} {os : OsState}
    (h : allF q loose Xt Yf w = fun _ => some ((true, openGood q loose, Ya w), ⟨denote treeTable codeT, codeT, pos0, B0⟩, codeT, codeT, codeT, codeT)) : ∃ t n r, loadT (boot_heap w.params).objs.toList .nil 0 = some (t, n) ∧ goF w ⟨t, n, (boot_heap w.params).life, .mk [], boot_drawn, boot_toks, os⟩ = some (r, ⟨denote treeTable codeT, codeT, pos0, B0⟩, codeT, codeT, codeT, codeT) ∧ looksAt q loose Xt Yf (boot_heap w.params) r.abs = (true, openGood q loose, Ya w) := by
  obtain ⟨⟨t, n⟩, g0, g1⟩ := Option.bind_eq_some_iff.mp (congrFun h os)
  obtain ⟨⟨r, th⟩, g2, g3⟩ := Option.map_eq_some_iff.mp g1
  obtain ⟨g3, g4⟩ := Prod.mk.inj g3
  obtain rfl : th = (⟨denote treeTable codeT, codeT, pos0, B0⟩, codeT, codeT, codeT, codeT) := g4
  exact ⟨t, n, r, g0, g2, g3⟩
theorem left_b {w : World} {os : OsState} {t : BT} {n : Nat} {r : SharedT} (g0 : loadT (boot_heap w.params).objs.toList .nil 0 = some (t, n)) (g2 : goF w ⟨t, n, (boot_heap w.params).life, .mk [], boot_drawn, boot_toks, os⟩ = some (r, ⟨denote treeTable codeT, codeT, pos0, B0⟩, codeT, codeT, codeT, codeT)) : topRun treeTable pwT w 11 (some (.ref 6)) (12 + (3 + (1000 + (3000 + (3000 + 10))))) ⟨boot_heap w.params, .mk [], boot_drawn, boot_toks, os⟩ (topStub pwT) = some r.abs := by
  have a := loadT_abs (life := (boot_heap w.params).life) g0
  have b : (absHeap BT.nil 0 (boot_heap w.params).life).objs.toList = [] := rfl
  rw [b, List.nil_append] at a
  have c : absHeap t n (boot_heap w.params).life = boot_heap w.params := by rw [a]
  have t1 := goF_spec g2
  unfold SharedT.abs at t1
  dsimp only at t1
  rw [c] at t1
  exact t1
theorem left_c {w : World} {os : OsState} {r : SharedT} (t1 : topRun treeTable pwT w 11 (some (.ref 6)) (12 + (3 + (1000 + (3000 + (3000 + 10))))) ⟨boot_heap w.params, .mk [], boot_drawn, boot_toks, os⟩ (topStub pwT) = some r.abs)
   (l1 : (staticsOk (importedModules pwT.main.body) (boot_heap w.params) r.abs.heap && namesBound pwT r.abs.heap && gensDone r.abs && laidKept (boot_heap w.params) r.abs.heap) = true) : topFrom treeTable pwT w 7025 ⟨boot_heap w.params, .mk [], boot_drawn, boot_toks, os⟩ = some r.abs := by
  obtain ⟨z1, z2⟩ := Prod.mk.inj (boot_size w)
  obtain ⟨z2, z3⟩ := Prod.mk.inj z2
  unfold topFrom
  show (match (boot_heap w.params).isNs mainGlobals && true with | true => _ | false => _) = _
  rw [z1]
  show (topRun treeTable pwT w (boot_heap w.params).objs.size ((boot_heap w.params).nsMap mainGlobals "__annotations__") (12 + (3 + (1000 + (3000 + (3000 + 10))))) _ (topStub pwT)).bind _ = _
  rw [z2, z3, t1]
  show (match staticsOk (importedModules pwT.main.body) (boot_heap w.params) r.abs.heap && namesBound pwT r.abs.heap && gensDone r.abs && laidKept (boot_heap w.params) r.abs.heap with | true => _ | false => _) = _
  rw [l1]
theorem left_d {w : World} (e : opening pwT = plainProg pwT.main.scope.names) (f : ∀ s, fenceModules? pwT s = some s) : ∃ os, fencedOpening treeTable pwT w 7025 = some ⟨boot_heap w.params, .mk [], boot_drawn, boot_toks, os⟩ := by
  obtain ⟨⟨hp, gs, d, k, os⟩, e1, e2⟩ := Option.map_eq_some_iff.mp (boot_open (N := 7025) e rfl f w)
  obtain ⟨h1, e2⟩ := Prod.mk.inj e2
  obtain ⟨h2, e2⟩ := Prod.mk.inj e2
  obtain ⟨h3, h4⟩ := Prod.mk.inj e2
  cases h1; cases h2; cases h3; cases h4
  exact ⟨os, e1⟩
theorem left_e {q : Program} {loose : List Str} {Xt : Shared → Bool} {α : Type} {Yf : Shared → α} {Ya : World → α} {w : World} {s r : Shared} (e1 : fencedOpening treeTable pwT w 7025 = some s) (u : topFrom treeTable pwT w 7025 s = some r) (l2 : (openSeen q loose (importedModules pwT.main.body) Xt true r, Yf r) = (openGood q loose, Ya w)) : (openEnds treeTable pwT w 7025).map (fun s => (openSeen q loose (importedModules pwT.main.body) Xt true s, Yf s)) = some (openGood q loose, Ya w) := by
  unfold openEnds
  rw [e1]
  show (topFrom treeTable pwT w _ _).map _ = _
  rw [u]
  exact congrArg some l2
theorem left_of {q : Program} {loose : List Str} {Xt : Shared → Bool} {α : Type} {Yf : Shared → α} {Ya : World → α} (e : opening pwT = plainProg pwT.main.scope.names) (f : ∀ s, fenceModules? pwT s = some s)
    (h : ∀ w : World, allF q loose Xt Yf w = fun _ => some ((true, openGood q loose, Ya w), ⟨denote treeTable codeT, codeT, pos0, B0⟩, codeT, codeT, codeT, codeT)) : LeftO pwT q loose Xt Yf Ya 7025 := fun w => by
  obtain ⟨os, e1⟩ := left_d e f (w := w)
  obtain ⟨t, n, r, g0, g2, g3⟩ := left_a (h w) (os := os)
  obtain ⟨l1, l2⟩ := Prod.mk.inj g3
  exact left_e e1 (left_c (left_b g0 g2) l1) l2
noncomputable def theView : Program := view PySem.Challenge.pw_sa0228_01 [67]
noncomputable def theLoose : List Str := PySem.Challenge.pw_sa0228_01.boundNames.filter fun x => !(x == "law")
noncomputable def Xt0 (s : Shared) : Bool := recOk (RowW.records PySem.Challenge.rw_sa0228_01.row.toRowW) s
abbrev LookAt (w : World) : Prop := allF theView theLoose Xt0 (fun s => seenIn s.heap) w = fun _ => some ((true, openGood theView theLoose, seenGood), ⟨denote treeTable codeT, codeT, pos0, B0⟩, codeT, codeT, codeT, codeT)
theorem look_false (w : World) : LookAt (w.withFollow "special-get-raises" false) := by
  unfold LookAt allF goF goG looksAt topStub piecesOf B0 topFrame topAfter staticsOk namesBound gensDone laidKept seenIn fnAt sortB intB
  rw [x29.2, PySem.W.R.bindR_eq, PySem.W.Fast.te16335722595253787840, PySem.W.Fast.te10110043849684766642, PySem.W.Fast.te11892475500146522536, PySem.W.Fast.te14364793385576792824, PySem.W.Fast.te10156331382660048174, PySem.W.Fast.te6613529449190102663, PySem.W.Fast.te12456147031677567982, PySem.W.Fast.te17154629097778926822, PySem.W.Fast.te12822647523644345616, PySem.W.Fast.te6905046200447255374, PySem.W.Fast.te4187177175401517315, PySem.W.Fast.te15056007747304108558, PySem.W.Fast.te4857012375875476094, PySem.W.Fast.te1584917186373303978, PySem.W.Fast.te3471404346716756564, PySem.W.Fast.te14846217769314788766, PySem.W.Fast.te8920871248978507458, PySem.W.Fast.te7966671052430208091, PySem.W.Fast.te12749700546528644094, PySem.W.Fast.te18344453789297297638, PySem.W.Fast.te5923862056798008813, PySem.W.Fast.te12563942051412417395]
  kernel_rfl
theorem look_true (w : World) : LookAt (w.withFollow "special-get-raises" true) := by
  unfold LookAt allF goF goG looksAt topStub piecesOf B0 topFrame topAfter staticsOk namesBound gensDone laidKept seenIn fnAt sortB intB
  rw [x29.2, PySem.W.R.bindR_eq, PySem.W.Fast.te16335722595253787840, PySem.W.Fast.te10110043849684766642, PySem.W.Fast.te11892475500146522536, PySem.W.Fast.te14364793385576792824, PySem.W.Fast.te10156331382660048174, PySem.W.Fast.te6613529449190102663, PySem.W.Fast.te12456147031677567982, PySem.W.Fast.te17154629097778926822, PySem.W.Fast.te12822647523644345616, PySem.W.Fast.te6905046200447255374, PySem.W.Fast.te4187177175401517315, PySem.W.Fast.te15056007747304108558, PySem.W.Fast.te4857012375875476094, PySem.W.Fast.te1584917186373303978, PySem.W.Fast.te3471404346716756564, PySem.W.Fast.te14846217769314788766, PySem.W.Fast.te8920871248978507458, PySem.W.Fast.te7966671052430208091, PySem.W.Fast.te12749700546528644094, PySem.W.Fast.te18344453789297297638, PySem.W.Fast.te5923862056798008813, PySem.W.Fast.te12563942051412417395]
  kernel_rfl
theorem left : LeftO pwT theView theLoose Xt0 (fun s => seenIn s.heap) (fun _ => seenGood) 7025 := left_of (by kernel_rfl) (fun s => by kernel_rfl) (byRow2 "special-get-raises" look_false look_true)
end
end Mine
end
set_option maxHeartbeats 8000000
namespace Mine
noncomputable def lawRec : DefRec := match recsOf theView with | d :: _ => d | [] => ⟨(fdOf 35).name, (fdOf 35).params, (fdOf 35).body, (fdOf 35).scope, ⟨0, 0, 0, 0⟩⟩
/-! a look of many parts, in three checks -/
set_option genSizeOfSpec false
set_option genInjectivity false
structure Parts (b : Bool) where
  l : List Bool
  h : l.all id = true → b = true
theorem all_one {b : Bool} (h : [b].all id = true) : b = true := by rwa [List.all_cons, List.all_nil, Bool.and_true] at h
theorem all_two {a b : Bool} {l r : List Bool} (p : l.all id = true → a = true) (q : r.all id = true → b = true) (h : (l ++ r).all id = true) : (a && b) = true := by
  rw [List.all_append, Bool.and_eq_true] at h
  rw [p h.1, q h.2]; rfl
theorem all_cut {l : List Bool} (n : Nat) (h : (l.take n).all id = true) (k : (l.drop n).all id = true) : l.all id = true := by
  rw [← List.take_append_drop n l, List.all_append, h, k]; rfl
noncomputable def Parts.one (b : Bool) : Parts b := ⟨[b], all_one⟩
noncomputable def Parts.two {a b : Bool} (p : Parts a) (q : Parts b) : Parts (a && b) := ⟨p.l ++ q.l, all_two p.h q.h⟩
noncomputable def sp : Parts (PySem.W.Fast.tw9446332074065402090 PySem.Challenge.rw_sa0228_01) := by
  delta PySem.W.Fast.tw9446332074065402090 PySem.W.Fast.tw17960256430627541270 PySem.W.Fast.tw2436336058641802641 PySem.W.Fast.tw12908688711261696721
  dsimp only
  repeat' (first | with_reducible apply Parts.two | with_reducible apply Parts.one)
theorem said_a : (sp.l.take 4).all id = true := by kernel_rfl
theorem said_b : ((sp.l.drop 4).take 1).all id = true := by kernel_rfl
theorem said_c : (((sp.l.drop 4).drop 1).take 22).all id = true := by kernel_rfl
theorem said_d : (((sp.l.drop 4).drop 1).drop 22).all id = true := by kernel_rfl
theorem said : PySem.Challenge.rw_sa0228_01.wellSaid = true := by
  rw [PySem.W.Fast.te9446332074065402090]
  exact sp.h (all_cut 4 said_a (all_cut 1 said_b (all_cut 22 said_c said_d)))
theorem e4 : fnNames = (List.range 35).map fun i => (fdOf i).name := by kernel_rfl
theorem hdef : defOf theView PySem.Challenge.rw_sa0228_01.row.toRowW.name = some (lawRec, []) := by kernel_rfl
theorem hthe : PySem.Challenge.rw_sa0228_01.row.toRowW.prog.theDef PySem.Challenge.rw_sa0228_01.row.toRowW.name = some (lawRec.params, lawRec.body, lawRec.scope) := by kernel_rfl
theorem hkw : kwWritten? lawRec.params.kwonlyargs lawRec.params.kw_defaults = some [] := by kernel_rfl
theorem hok : (chainsOk theView && opensWell PySem.Challenge.rw_sa0228_01.row.toRowW.prog && (frees PySem.Challenge.rw_sa0228_01.row.toRowW && PySem.Challenge.rw_sa0228_01.row.toRowW.within.isEmpty)) = true := by kernel_rfl
end Mine
theorem PySem.Challenge.cw_sa0228_01_holds : PySem.Challenge.rw_sa0228_01.Holds := by
  refine holds_law Mine.said fun said => ?_
  refine holds_open (r := PySem.Challenge.rw_sa0228_01.row) (XP := fun _ _ => True) (YP := fun _ h => (∃ o, h.get? mainGlobals = some o) ∧ ∀ mg, h.Ns mainGlobals mg → Mine.Seen h mg) (d := Mine.lawRec) (kwd := []) Mine.left (fun _ _ e => Mine.seen_of e) (fun _ _ _ q k => Mine.seen_keeps q k)
    (fun _ _ => trivial) (fun _ _ _ _ _ => trivial) Mine.hdef Mine.hthe Mine.hkw (fun s e => recFacts_of e) rfl said Mine.hok ⟨rfl, rfl, rfl, rfl, rfl, by decide +kernel⟩ ?hw ?hc
  case hw => w_witness2
  case hc =>
    intro w s₀ s₁ mg mb G Y fa o pm cd doc dV kV ho hd hcd hD hmg hg args vals as hpre hlay hrd hwl hlo
    have hfa : mg "law" = some (.ref fa) := hmg
    clear ho hd hcd hD hmg
    obtain ⟨tab, Γ⟩ := Mine.gd_of (prog := PySem.Challenge.rw_sa0228_01.row.prog) (w := w) G.T (Y.2 mg G.T.g) Mine.e4
    clear Y
    wrow_args hpre hlay hrd hwl hlo
    refine Mine.fin Γ hfa (by assumption) (by assumption) (by omega) fun s' k1 k2 k3 => ?_
    refine Mine.good (fun _ => rfl) ?_ k1 k2 k3 hg
    first | with_unfolding_all rfl | w_fin
