import PyProof.Rows.All
import Wide.All
import OpenK.AllK
import Wide.FinOn
import HandS.Words
import HandS.ForMost
import HandS.Defaults
import HandS.Style
import HandS.IsInst
import HandS.Gcd
import HandS.Wide
import HandS.WideBits
import HandS.Conv
import HandS.DictComp
import HandS.WordsExc
import KE.GoesEnum
import PyProof.ReprRoads
import HandS.Evl
import HandS.Walk
import HandS.Ends
import HandS.HeadEnd
import KE.KStateDown
import Lean
import HandS.Base
import HandS.Call
import HandS.More
import HandS.Head0
import HandS.Head1
import HandS.Head2
import HandS.Head3
import HandS.HeadHook1
import HandS.HeadHook2
import PySem.Challenge.RW_bandsplits_k60_whole_all_partners_made
set_option Elab.async false
set_option linter.all false
set_option maxRecDepth 100000
set_option exponentiation.threshold 1000
set_option maxHeartbeats 0
namespace BS
/-! Laurent polynomials with rational numbers: formal sums and the functions they are -/
abbrev Pol := List (Int × Rat)
def coef : Pol → Int → Rat
  | [], _ => 0
  | x :: r, k => (if x.1 = k then x.2 else 0) + coef r k
def dot : Pol → (Int → Rat) → Rat
  | [], _ => 0
  | x :: r, g => x.2 * g x.1 + dot r g
theorem coef_nil (k : Int) : coef [] k = 0 := rfl
theorem coef_cons (x : Int × Rat) (r : Pol) (k : Int) : coef (x :: r) k = (if x.1 = k then x.2 else 0) + coef r k := rfl
theorem coef_append : ∀ (A B : Pol) (k : Int), coef (A ++ B) k = coef A k + coef B k
  | [], B, k => by simp [coef, Rat.zero_add]
  | x :: r, B, k => by
    show _ + coef (r ++ B) k = _ + coef r k + coef B k
    rw [coef_append r B k, Rat.add_assoc]
theorem dot_congr : ∀ (A : Pol) {g h : Int → Rat}, (∀ i, g i = h i) → dot A g = dot A h
  | [], _, _, _ => rfl
  | x :: r, g, h, e => by
    show _ + dot r g = _ + dot r h
    rw [dot_congr r e, e]
theorem dot_add : ∀ (A : Pol) (g h : Int → Rat), dot A (fun i => g i + h i) = dot A g + dot A h
  | [], _, _ => by simp [dot, Rat.zero_add]
  | x :: r, g, h => by
    show x.2 * (g x.1 + h x.1) + dot r _ = _
    rw [dot_add r g h]
    show _ = (x.2 * g x.1 + dot r g) + (x.2 * h x.1 + dot r h)
    grind
theorem dot_mul : ∀ (A : Pol) (c : Rat) (g : Int → Rat), dot A (fun i => c * g i) = c * dot A g
  | [], _, _ => by simp [dot, Rat.mul_zero]
  | x :: r, c, g => by
    show x.2 * (c * g x.1) + dot r _ = c * (x.2 * g x.1 + dot r g)
    rw [dot_mul r c g]
    grind
theorem dot_zero : ∀ (A : Pol), dot A (fun _ => 0) = 0
  | [] => rfl
  | x :: r => by
    show x.2 * 0 + dot r _ = 0
    rw [dot_zero r, Rat.mul_zero, Rat.add_zero]
theorem dot_append : ∀ (A B : Pol) (g : Int → Rat), dot (A ++ B) g = dot A g + dot B g
  | [], B, g => by simp [dot, Rat.zero_add]
  | x :: r, B, g => by
    show _ + dot (r ++ B) g = _ + dot r g + dot B g
    rw [dot_append r B g, Rat.add_assoc]
theorem dot_one (A : Pol) (i : Int) : ∀ k, dot A (fun j => if j = k then 1 else 0) = coef A k := by
  intro k
  induction A with
  | nil => rfl
  | cons x r ih =>
    show x.2 * (if x.1 = k then 1 else 0) + _ = _
    rw [ih, coef_cons]
    split
    · rw [Rat.mul_one]
    · rw [Rat.mul_zero]
/-- the swap of two sums -/
theorem dot_swap : ∀ (A B : Pol) (f : Int → Int → Rat), dot A (fun i => dot B (fun j => f i j)) = dot B (fun j => dot A (fun i => f i j))
  | [], B, f => by
    show 0 = dot B (fun _ => 0)
    rw [dot_zero]
  | x :: r, B, f => by
    show x.2 * dot B (fun j => f x.1 j) + dot r _ = dot B (fun j => x.2 * f x.1 j + dot r fun i => f i j)
    rw [dot_swap r B f, dot_add B (fun j => x.2 * f x.1 j) (fun j => dot r fun i => f i j), dot_mul]
theorem coef_dot (A : Pol) (k : Int) : coef A k = dot A (fun i => if i = k then 1 else 0) := (dot_one A 0 k).symm
/-- a sum over a formal sum hangs on its numbers alone -/
theorem dot_coef {A A' : Pol} (h : ∀ k, coef A k = coef A' k) (B : Pol) (c : Int) : dot A (fun i => coef B (c - i)) = dot A' (fun i => coef B (c - i)) := by
  have key : ∀ A : Pol, dot A (fun i => coef B (c - i)) = dot B (fun j => coef A (c - j)) := fun A => by
    have e1 : dot A (fun i => coef B (c - i)) = dot A (fun i => dot B (fun j => if j = c - i then 1 else 0)) := dot_congr A fun i => coef_dot B _
    rw [e1, dot_swap]
    refine dot_congr B fun j => ?_
    rw [coef_dot A]
    refine dot_congr A fun i => ?_
    have : (j = c - i) ↔ (i = c - j) := by omega
    by_cases q : j = c - i
    · rw [if_pos q, if_pos (this.mp q)]
    · rw [if_neg q, if_neg fun z => q (this.mpr z)]
  rw [key A, key A']
  exact dot_congr B fun j => h _
/-! ### products -/
def mulL (A B : Pol) : Pol := A.flatMap fun a => B.map fun b => (a.1 + b.1, a.2 * b.2)
theorem coef_row (a : Int × Rat) : ∀ (B : Pol) (k : Int), coef (B.map fun b => (a.1 + b.1, a.2 * b.2)) k = a.2 * coef B (k - a.1)
  | [], k => by simp [coef, Rat.mul_zero]
  | b :: r, k => by
    show (if a.1 + b.1 = k then a.2 * b.2 else 0) + coef _ k = a.2 * ((if b.1 = k - a.1 then b.2 else 0) + coef r (k - a.1))
    rw [coef_row a r k, Rat.mul_add]
    by_cases h : a.1 + b.1 = k
    · rw [if_pos h, if_pos (by omega)]
    · rw [if_neg h, if_neg (by omega), Rat.mul_zero]
theorem coef_mulL : ∀ (A B : Pol) (k : Int), coef (mulL A B) k = dot A (fun i => coef B (k - i))
  | [], B, k => rfl
  | a :: r, B, k => by
    show coef ((B.map fun b => (a.1 + b.1, a.2 * b.2)) ++ mulL r B) k = a.2 * coef B (k - a.1) + dot r _
    rw [coef_append, coef_row, coef_mulL r B k]
theorem dot_mulL (A B : Pol) (g : Int → Rat) : dot (mulL A B) g = dot A (fun i => dot B (fun j => g (i + j))) := by
  induction A with
  | nil => rfl
  | cons a r ih =>
    show dot ((B.map fun b => (a.1 + b.1, a.2 * b.2)) ++ mulL r B) g = a.2 * dot B (fun j => g (a.1 + j)) + dot r _
    rw [dot_append, ih]
    congr 1
    clear ih
    induction B with
    | nil => simp [dot, Rat.mul_zero]
    | cons b s ih =>
      show a.2 * b.2 * g (a.1 + b.1) + dot (s.map _) g = a.2 * (b.2 * g (a.1 + b.1) + dot s _)
      rw [ih]
      grind
theorem mulL_comm (A B : Pol) (k : Int) : coef (mulL A B) k = coef (mulL B A) k := by
  rw [coef_dot, dot_mulL, coef_dot, dot_mulL, dot_swap]
  refine dot_congr B fun j => dot_congr A fun i => ?_
  rw [Int.add_comm]
theorem mulL_congr {A A' B B' : Pol} (h : ∀ k, coef A k = coef A' k) (h' : ∀ k, coef B k = coef B' k) (k : Int) : coef (mulL A B) k = coef (mulL A' B') k := by
  rw [coef_mulL, dot_coef h B k, coef_mulL]
  exact dot_congr A' fun i => h' _
theorem mulL_assoc (A B C : Pol) (k : Int) : coef (mulL (mulL A B) C) k = coef (mulL A (mulL B C)) k := by
  rw [coef_mulL, dot_mulL, coef_mulL]
  refine dot_congr A fun i => ?_
  rw [coef_mulL]
  refine dot_congr B fun j => ?_
  congr 1
  omega
/-! ### the ring -/
def LP := { f : Int → Rat // ∃ L : Pol, coef L = f }
namespace LP
instance : CoeFun LP (fun _ => Int → Rat) := ⟨Subtype.val⟩
def of (L : Pol) : LP := ⟨coef L, L, rfl⟩
noncomputable def rep (f : LP) : Pol := f.2.choose
theorem rep_spec (f : LP) : coef f.rep = f.1 := f.2.choose_spec
theorem of_rep (f : LP) : of f.rep = f := Subtype.ext (rep_spec f)
theorem ext {f g : LP} (h : ∀ k, f k = g k) : f = g := Subtype.ext (funext h)
theorem of_coef (L : Pol) (k : Int) : (of L) k = coef L k := rfl
theorem of_eq {L M : Pol} (h : ∀ k, coef L k = coef M k) : of L = of M := ext h
def negL (A : Pol) : Pol := A.map fun a => (a.1, -a.2)
theorem coef_negL : ∀ (A : Pol) (k : Int), coef (negL A) k = - coef A k
  | [], k => by simp [negL, coef]
  | a :: r, k => by
    show (if a.1 = k then -a.2 else 0) + coef (negL r) k = -((if a.1 = k then a.2 else 0) + coef r k)
    rw [coef_negL r k]
    split <;> grind
noncomputable def add (f g : LP) : LP := of (f.rep ++ g.rep)
noncomputable def mul (f g : LP) : LP := of (mulL f.rep g.rep)
noncomputable def neg (f : LP) : LP := of (negL f.rep)
noncomputable instance : Add LP := ⟨add⟩
noncomputable instance : Mul LP := ⟨mul⟩
noncomputable instance : Neg LP := ⟨neg⟩
noncomputable instance : Sub LP := ⟨fun f g => f + -g⟩
def mono (c : Rat) (d : Int) : LP := of [(d, c)]
theorem mono_at (c : Rat) (d k : Int) : (mono c d) k = if d = k then c else 0 := by
  show coef [(d, c)] k = _
  rw [coef_cons, coef_nil, Rat.add_zero]
theorem add_at (f g : LP) (k : Int) : (f + g) k = f k + g k := by
  show coef (f.rep ++ g.rep) k = _
  rw [coef_append, rep_spec, rep_spec]
theorem neg_at (f : LP) (k : Int) : (-f) k = - f k := by
  show coef (negL f.rep) k = _
  rw [coef_negL, rep_spec]
theorem sub_at (f g : LP) (k : Int) : (f - g) k = f k - g k := by
  show (f + -g) k = _
  rw [add_at, neg_at, Rat.sub_eq_add_neg]
theorem of_append (A B : Pol) : of (A ++ B) = of A + of B := ext fun k => by
  rw [add_at]
  exact coef_append A B k
theorem of_mulL (A B : Pol) : of (mulL A B) = of A * of B := ext fun k =>
  mulL_congr (fun k => (congrFun (rep_spec (of A)) k).symm) (fun k => (congrFun (rep_spec (of B)) k).symm) k
theorem ofind {P : LP → Prop} (h : ∀ L, P (of L)) (f : LP) : P f := by
  rw [← of_rep f]
  exact h _
theorem ex (f : LP) : ∃ A, f = of A := ⟨f.rep, (of_rep f).symm⟩
theorem zero_at : ∀ k, (of []) k = 0 := fun _ => rfl
noncomputable instance : NatCast LP := ⟨fun n => mono n 0⟩
noncomputable instance : IntCast LP := ⟨fun n => mono n 0⟩
noncomputable instance (n : Nat) : OfNat LP n := ⟨mono n 0⟩
noncomputable instance : SMul Nat LP := ⟨fun n f => mono n 0 * f⟩
noncomputable instance : SMul Int LP := ⟨fun n f => mono n 0 * f⟩
noncomputable def npow (f : LP) : Nat → LP
  | 0 => mono (1 : Nat) 0
  | n + 1 => npow f n * f
noncomputable instance : HPow LP Nat LP := ⟨npow⟩
theorem zero_eq : (0 : LP) = of [] := ext fun k => by
  show (mono ((0 : Nat) : Rat) 0) k = 0
  rw [mono_at]
  split <;> rfl
theorem zero_at' (k : Int) : (0 : LP) k = 0 := by rw [zero_eq]; rfl
theorem mul_comm' (f g : LP) : f * g = g * f := by
  obtain ⟨A, rfl⟩ := ex f
  obtain ⟨B, rfl⟩ := ex g
  rw [← of_mulL, ← of_mulL]
  exact ext fun k => mulL_comm A B k
theorem mul_assoc' (f g h : LP) : f * g * h = f * (g * h) := by
  obtain ⟨A, rfl⟩ := ex f
  obtain ⟨B, rfl⟩ := ex g
  obtain ⟨C, rfl⟩ := ex h
  rw [← of_mulL, ← of_mulL, ← of_mulL, ← of_mulL]
  exact ext fun k => mulL_assoc A B C k
theorem mono_mul_at (c : Rat) (d : Int) (f : LP) (k : Int) : (mono c d * f) k = c * f (k - d) := by
  refine ofind (P := fun f => (mono c d * f) k = c * f (k - d)) (fun B => ?_) f
  show (of [(d, c)] * of B) k = _
  rw [← of_mulL]
  show coef (mulL [(d, c)] B) k = _
  rw [coef_mulL]
  show c * coef B (k - d) + 0 = _
  rw [Rat.add_zero]
  rfl
theorem one_mul' (f : LP) : (1 : LP) * f = f := ext fun k => by
  show (mono ((1 : Nat) : Rat) 0 * f) k = f k
  rw [mono_mul_at, Int.sub_zero]
  show (1 : Rat) * _ = _
  rw [Rat.one_mul]
theorem mul_add' (f g h : LP) : f * (g + h) = f * g + f * h := by
  obtain ⟨A, rfl⟩ := ex f
  obtain ⟨B, rfl⟩ := ex g
  obtain ⟨C, rfl⟩ := ex h
  rw [← of_append, ← of_mulL, ← of_mulL, ← of_mulL, ← of_append]
  refine ext fun k => ?_
  show coef _ k = coef _ k
  rw [coef_append, coef_mulL, coef_mulL, coef_mulL, ← dot_add]
  exact dot_congr A fun i => coef_append _ _ _
theorem mono_add (a b : Rat) (d : Int) : mono (a + b) d = mono a d + mono b d := ext fun k => by
  rw [add_at, mono_at, mono_at, mono_at]
  split
  · rfl
  · rw [Rat.add_zero]
theorem mono_neg (a : Rat) (d : Int) : mono (-a) d = - mono a d := ext fun k => by
  rw [neg_at, mono_at, mono_at]
  split
  · rfl
  · rfl
theorem mono_mul (a b : Rat) (d e : Int) : mono a d * mono b e = mono (a * b) (d + e) := ext fun k => by
  rw [mono_mul_at, mono_at, mono_at]
  by_cases h : e = k - d
  · rw [if_pos h, if_pos (by omega)]
  · rw [if_neg h, if_neg (by omega), Rat.mul_zero]
theorem neg_add_cancel' (f : LP) : -f + f = 0 := ext fun k => by
  rw [add_at, neg_at, zero_at', Rat.neg_add_cancel]
noncomputable instance : Lean.Grind.CommRing LP where
  add_zero f := ext fun k => by rw [add_at, zero_at', Rat.add_zero]
  add_comm f g := ext fun k => by rw [add_at, add_at, Rat.add_comm]
  add_assoc f g h := ext fun k => by rw [add_at, add_at, add_at, add_at, Rat.add_assoc]
  mul_assoc := mul_assoc'
  mul_one f := by rw [mul_comm', one_mul']
  one_mul := one_mul'
  left_distrib := mul_add'
  right_distrib f g h := by rw [mul_comm', mul_add', mul_comm' h f, mul_comm' h g]
  zero_mul f := ext fun k => by
    show (mono ((0 : Nat) : Rat) 0 * f) k = _
    rw [mono_mul_at, zero_at']
    exact Rat.zero_mul _
  mul_zero f := by
    rw [mul_comm']
    exact ext fun k => by
      show (mono ((0 : Nat) : Rat) 0 * f) k = _
      rw [mono_mul_at, zero_at']
      exact Rat.zero_mul _
  pow_zero f := rfl
  pow_succ f n := rfl
  ofNat_succ n := by
    show mono ((n + 1 : Nat) : Rat) 0 = mono ((n : Nat) : Rat) 0 + mono ((1 : Nat) : Rat) 0
    rw [← mono_add, Rat.natCast_add]
  neg_add_cancel := neg_add_cancel'
  sub_eq_add_neg f g := rfl
  neg_zsmul n f := by
    show mono ((-n : Int) : Rat) 0 * f = -(mono (n : Rat) 0 * f)
    exact ext fun k => by
      rw [mono_mul_at, neg_at, mono_mul_at, Rat.intCast_neg, Rat.neg_mul]
  mul_comm := mul_comm'
  intCast_neg n := by
    show mono ((-n : Int) : Rat) 0 = -(mono (n : Rat) 0)
    rw [Rat.intCast_neg, mono_neg]
example (a b c d : LP) : (a + b * c) * d - (d * c) * b = a * d := by grind
end LP
end BS
namespace BS
open LP
/-! ### spread out, even and odd parts, the determinant -/
def evL (A : Pol) : Pol := A.filterMap fun a => if a.1 % 2 = 0 then some (a.1 / 2, a.2) else none
theorem coef_evL : ∀ (A : Pol) (k : Int), coef (evL A) k = coef A (2 * k)
  | [], k => rfl
  | a :: r, k => by
    have ih := coef_evL r k
    unfold evL at ih ⊢
    rw [List.filterMap_cons]
    by_cases h : a.1 % 2 = 0
    · rw [if_pos h]
      show (if a.1 / 2 = k then a.2 else 0) + coef _ k = (if a.1 = 2 * k then a.2 else 0) + coef r (2 * k)
      rw [ih]
      by_cases q : a.1 = 2 * k
      · rw [if_pos q, if_pos (by omega)]
      · rw [if_neg q, if_neg (by omega)]
    · rw [if_neg h]
      show coef _ k = (if a.1 = 2 * k then a.2 else 0) + coef r (2 * k)
      rw [ih, if_neg (by omega), Rat.zero_add]
def spL (A : Pol) : Pol := A.map fun a => (2 * a.1, a.2)
theorem coef_spL : ∀ (A : Pol) (k : Int), coef (spL A) k = if k % 2 = 0 then coef A (k / 2) else 0
  | [], k => by simp [spL, coef]
  | a :: r, k => by
    show (if 2 * a.1 = k then a.2 else 0) + coef (spL r) k = _
    rw [coef_spL r k]
    by_cases h : k % 2 = 0
    · rw [if_pos h, if_pos h, coef_cons]
      by_cases q : 2 * a.1 = k
      · rw [if_pos q, if_pos (by omega)]
      · rw [if_neg q, if_neg (by omega)]
    · rw [if_neg h, if_neg h, if_neg (by omega), Rat.zero_add]
theorem dot_spL : ∀ (A : Pol) (g : Int → Rat), dot (spL A) g = dot A fun i => g (2 * i)
  | [], g => rfl
  | a :: r, g => by
    show a.2 * g (2 * a.1) + dot (spL r) g = a.2 * g (2 * a.1) + dot r _
    rw [dot_spL r g]
namespace LP
noncomputable def ev (f : LP) : LP := of (evL f.rep)
noncomputable def sp (f : LP) : LP := of (spL f.rep)
theorem ev_at (f : LP) (k : Int) : (ev f) k = f (2 * k) := by
  show coef (evL f.rep) k = _
  rw [coef_evL, rep_spec]
theorem sp_at (f : LP) (k : Int) : (sp f) k = if k % 2 = 0 then f (k / 2) else 0 := by
  show coef (spL f.rep) k = _
  rw [coef_spL, rep_spec]
theorem ev_of (A : Pol) : ev (of A) = of (evL A) := ext fun k => by rw [ev_at]; exact (coef_evL A k).symm
theorem sp_of (A : Pol) : sp (of A) = of (spL A) := ext fun k => by rw [sp_at]; exact (coef_spL A k).symm
noncomputable def od (f : LP) : LP := ev (mono 1 (-1) * f)
theorem od_at (f : LP) (k : Int) : (od f) k = f (2 * k + 1) := by
  unfold od
  rw [ev_at, mono_mul_at, Rat.one_mul]
  congr 1
theorem ev_add (f g : LP) : ev (f + g) = ev f + ev g := ext fun k => by rw [ev_at, add_at, add_at, ev_at, ev_at]
theorem od_add (f g : LP) : od (f + g) = od f + od g := ext fun k => by rw [od_at, add_at, add_at, od_at, od_at]
theorem ev_sp_mul (s f : LP) : ev (sp s * f) = s * ev f := by
  obtain ⟨A, rfl⟩ := ex s
  obtain ⟨B, rfl⟩ := ex f
  rw [sp_of, ← of_mulL, ev_of, ev_of, ← of_mulL]
  refine ext fun k => ?_
  show coef _ k = coef _ k
  rw [coef_evL, coef_mulL, dot_spL, coef_mulL]
  refine dot_congr A fun i => ?_
  rw [coef_evL]
  congr 1
  omega
theorem od_sp_mul (s f : LP) : od (sp s * f) = s * od f := by
  unfold od
  rw [← ev_sp_mul]
  congr 1
  grind
theorem sp_mono (c : Rat) (d : Int) : sp (mono c d) = mono c (2 * d) := ext fun k => by
  rw [sp_at, mono_at, mono_at]
  by_cases h : k % 2 = 0
  · rw [if_pos h]
    by_cases q : d = k / 2
    · rw [if_pos q, if_pos (by omega)]
    · rw [if_neg q, if_neg (by omega)]
  · rw [if_neg h, if_neg (by omega)]
theorem sp_mul (f g : LP) : sp (f * g) = sp f * sp g := by
  obtain ⟨A, rfl⟩ := ex f
  obtain ⟨B, rfl⟩ := ex g
  rw [sp_of, sp_of, ← of_mulL, ← of_mulL, sp_of]
  congr 1
  unfold spL mulL
  rw [List.map_flatMap, List.flatMap_map]
  congr 1
  funext a
  rw [List.map_map, List.map_map]
  congr 1
  funext b
  simp only [Function.comp_apply]
  rw [Int.mul_add]
theorem one_eq : (1 : LP) = mono 1 0 := rfl
noncomputable def det (h k : LP) : LP := ev h * od k - od h * ev k
theorem ev_mono_mul (c : Rat) (j : Int) (f : LP) : ev (mono c (2 * j) * f) = mono c j * ev f := by rw [← sp_mono, ev_sp_mul]
theorem od_mono_mul (c : Rat) (j : Int) (f : LP) : od (mono c (2 * j) * f) = mono c j * od f := by rw [← sp_mono, od_sp_mul]
/-- what is made of a partner -/
noncomputable def made (h k : LP) (c : Rat) (j : Int) (s : LP) : LP := mono c (2 * j) * k + sp s * h
theorem det_made (h k : LP) (c : Rat) (j : Int) (s : LP) : det h (made h k c j s) = mono c j * det h k := by
  unfold det made
  rw [od_add, ev_add, ev_mono_mul, od_mono_mul, ev_sp_mul, od_sp_mul]
  grind
theorem det_swap (h k : LP) : det k h = mono (-1) 0 * det h k := by
  have e : mono (-1) 0 = -(1 : LP) := by rw [one_eq, ← mono_neg]
  rw [e]
  unfold det
  grind
theorem made_back (h k : LP) (c : Rat) (j : Int) (s : LP) (hc : c ≠ 0) : made h (made h k c j s) c⁻¹ (-j) (mono 1 (-j) * (mono (-c⁻¹) 0 * s)) = k := by
  unfold made
  rw [sp_mul, sp_mono, sp_mul, sp_mono]
  have e1 : mono c⁻¹ (2 * -j) * mono c (2 * j) = 1 := by
    rw [mono_mul, Rat.inv_mul_cancel c hc, one_eq]
    congr 1
    omega
  have e2 : mono 1 (2 * -j) * mono (-c⁻¹) (2 * 0) = - mono c⁻¹ (2 * -j) := by
    rw [mono_mul, Rat.one_mul, ← mono_neg]
    congr 1
    omega
  grind
/-- a table's determinant as it is at the end -/
theorem ev_pair (a b : LP) : ev (sp a + mono 1 (-1) * sp b) = a := ext fun k => by
  rw [ev_at, add_at, sp_at, mono_mul_at, sp_at, if_pos (by omega), if_neg (by omega), Rat.mul_zero, Rat.add_zero, show 2 * k / 2 = k by omega]
theorem od_pair (a b : LP) : od (sp a + mono 1 (-1) * sp b) = mono 1 (-1) * b := ext fun k => by
  rw [od_at, add_at, sp_at, mono_mul_at, sp_at, if_neg (by omega), if_pos (by omega), Rat.zero_add, mono_mul_at, show (2 * k + 1 - -1) / 2 = k - -1 by omega]
theorem det_pair (a b c d : LP) : det (sp a + mono 1 (-1) * sp b) (sp c + mono 1 (-1) * sp d) = mono 1 (-1) * (a * d - b * c) := by
  unfold det
  rw [ev_pair, ev_pair, od_pair, od_pair]
  grind
def Single (f : LP) : Prop := ∃ c d, c ≠ 0 ∧ f = mono c d
theorem Single.mul {f : LP} (h : Single f) {c : Rat} {d : Int} (hc : c ≠ 0) : Single (mono c d * f) := by
  obtain ⟨e, k, he, rfl⟩ := h
  refine ⟨c * e, d + k, fun z => ?_, mono_mul _ _ _ _⟩
  rcases Rat.mul_eq_zero.mp z with z | z
  · exact hc z
  · exact he z
end LP
end BS
namespace BS
open LP
/-! ### sizes: a common denominator, the sum of the numerators -/
abbrev IPol := List (Int × Int)
def ratL (D : Nat) (l : IPol) : Pol := l.map fun x => (x.1, (x.2 : Rat) / (D : Rat))
def nrm (l : IPol) : Nat := (l.map fun x => x.2.natAbs).sum
def icoef : IPol → Int → Int
  | [], _ => 0
  | x :: r, k => (if x.1 = k then x.2 else 0) + icoef r k
def BL (D N : Nat) (L : Pol) : Prop := ∃ l, L = ratL D l ∧ nrm l ≤ N
def QB (D N : Nat) (q : Rat) : Prop := ∃ m : Int, q = (m : Rat) / (D : Rat) ∧ m.natAbs ≤ N
def Sz (D a : Nat) (f : LP) : Prop := 1 ≤ D ∧ ∃ l, f = of (ratL D l) ∧ nrm l ≤ 2 ^ a
theorem nrm_append (l m : IPol) : nrm (l ++ m) = nrm l + nrm m := by
  unfold nrm
  rw [List.map_append, List.sum_append]
theorem ratL_append (D : Nat) (l m : IPol) : ratL D (l ++ m) = ratL D l ++ ratL D m := List.map_append
theorem coef_ratL : ∀ (D : Nat) (l : IPol) (k : Int), coef (ratL D l) k = (icoef l k : Rat) / (D : Rat)
  | D, [], k => by
    show (0 : Rat) = ((0 : Int) : Rat) / (D : Rat)
    rw [Rat.div_def]
    exact (Rat.zero_mul _).symm
  | D, x :: r, k => by
    show (if x.1 = k then (x.2 : Rat) / (D : Rat) else 0) + coef (ratL D r) k = _
    rw [coef_ratL D r k]
    show _ = (((if x.1 = k then x.2 else 0) + icoef r k : Int) : Rat) / (D : Rat)
    rw [Rat.intCast_add, Rat.div_def, Rat.div_def, Rat.div_def, Rat.add_mul]
    split
    · rfl
    · rw [show ((0 : Int) : Rat) = 0 from rfl, Rat.zero_mul]
theorem icoef_le : ∀ (l : IPol) (k : Int), (icoef l k).natAbs ≤ nrm l
  | [], k => Nat.le_refl _
  | x :: r, k => by
    have ih := icoef_le r k
    show ((if x.1 = k then x.2 else 0) + icoef r k).natAbs ≤ x.2.natAbs + nrm r
    split <;> omega
theorem BL.coef {D N : Nat} {L : Pol} (h : BL D N L) (k : Int) : QB D N (coef L k) := by
  obtain ⟨l, rfl, hl⟩ := h
  exact ⟨icoef l k, coef_ratL D l k, Nat.le_trans (icoef_le l k) hl⟩
theorem le_nrm : ∀ {l : IPol} {y : Int × Int}, y ∈ l → y.2.natAbs ≤ nrm l
  | x :: r, y, h => by
    show _ ≤ x.2.natAbs + nrm r
    rcases List.mem_cons.mp h with e | e
    · rw [e]; omega
    · have := le_nrm e; omega
theorem BL.mem {D N : Nat} {L : Pol} (h : BL D N L) {x : Int × Rat} (hx : x ∈ L) : QB D N x.2 := by
  obtain ⟨l, rfl, hl⟩ := h
  obtain ⟨y, hy, rfl⟩ := List.mem_map.mp hx
  refine ⟨y.2, rfl, Nat.le_trans ?_ hl⟩
  exact le_nrm hy
theorem BL.left {D N : Nat} {A B : Pol} (h : BL D N (A ++ B)) : BL D N A := by
  obtain ⟨l, e, hl⟩ := h
  obtain ⟨l1, l2, rfl, e1, e2⟩ := List.map_eq_append_iff.mp (show l.map _ = A ++ B from e.symm)
  rw [nrm_append] at hl
  exact ⟨l1, e1.symm, by omega⟩
theorem nrm_mul_row (x : Int × Int) (m : IPol) : nrm (m.map fun y => (x.1 + y.1, x.2 * y.2)) = x.2.natAbs * nrm m := by
  induction m with
  | nil => rfl
  | cons y r ih =>
    show (x.2 * y.2).natAbs + nrm (r.map _) = x.2.natAbs * (y.2.natAbs + nrm r)
    rw [ih, Int.natAbs_mul, Nat.mul_add]
def mulI (l m : IPol) : IPol := l.flatMap fun x => m.map fun y => (x.1 + y.1, x.2 * y.2)
theorem nrm_mulI : ∀ (l m : IPol), nrm (mulI l m) = nrm l * nrm m
  | [], m => by simp [mulI, nrm]
  | x :: r, m => by
    show nrm ((m.map fun y => (x.1 + y.1, x.2 * y.2)) ++ mulI r m) = (x.2.natAbs + nrm r) * nrm m
    rw [nrm_append, nrm_mul_row, nrm_mulI r m, Nat.add_mul]
theorem div_mul_div (a b : Int) (D E : Nat) : ((a : Rat) / (D : Rat)) * ((b : Rat) / (E : Rat)) = ((a * b : Int) : Rat) / ((D * E : Nat) : Rat) := by
  rw [Rat.div_def, Rat.div_def, Rat.div_def, Rat.intCast_mul, Rat.natCast_mul, Rat.inv_mul_rev]
  grind
theorem ratL_mul (D E : Nat) (l m : IPol) : mulL (ratL D l) (ratL E m) = ratL (D * E) (mulI l m) := by
  unfold mulL ratL mulI
  rw [List.map_flatMap, List.flatMap_map]
  congr 1
  funext x
  rw [List.map_map, List.map_map]
  congr 1
  funext y
  simp only [Function.comp_apply]
  rw [div_mul_div]
theorem BL.mul {D E N M : Nat} {A B : Pol} (h : BL D N A) (h' : BL E M B) : BL (D * E) (N * M) (mulL A B) := by
  obtain ⟨l, rfl, hl⟩ := h
  obtain ⟨m, rfl, hm⟩ := h'
  refine ⟨mulI l m, ratL_mul D E l m, ?_⟩
  rw [nrm_mulI]
  exact Nat.mul_le_mul hl hm
/-! sums of numbers at different places -/
theorem sum_ite {k0 : Int} {c : Nat} : ∀ (ks : List Int), ks.Nodup → (ks.map fun k => if k0 = k then c else 0).sum ≤ c
  | [], _ => Nat.zero_le _
  | k :: r, h => by
    have hn := List.nodup_cons.mp h
    have ih := sum_ite (k0 := k0) (c := c) r hn.2
    rw [List.map_cons, List.sum_cons]
    by_cases e : k0 = k
    · rw [if_pos e]
      have z : ∀ ks : List Int, k ∉ ks → (ks.map fun k' => if k0 = k' then c else 0).sum = 0 := by
        intro ks
        induction ks with
        | nil => intro _; rfl
        | cons k1 r1 ih1 =>
          intro hk
          rw [List.map_cons, List.sum_cons, ih1 (fun q => hk (List.mem_cons_of_mem _ q)), if_neg]
          intro q
          exact hk (by rw [← e, q]; exact List.mem_cons_self)
      rw [z r hn.1]
      omega
    · rw [if_neg e]
      omega
theorem sum_le_sum {α : Type} {f g : α → Nat} : ∀ (l : List α), (∀ x, f x ≤ g x) → (l.map f).sum ≤ (l.map g).sum
  | [], _ => Nat.le_refl _
  | x :: r, h => by
    rw [List.map_cons, List.map_cons, List.sum_cons, List.sum_cons]
    exact Nat.add_le_add (h x) (sum_le_sum r h)
theorem sum_add {α : Type} (f g : α → Nat) : ∀ (l : List α), (l.map fun x => f x + g x).sum = (l.map f).sum + (l.map g).sum
  | [] => rfl
  | x :: r => by
    rw [List.map_cons, List.map_cons, List.map_cons, List.sum_cons, List.sum_cons, List.sum_cons, sum_add f g r]
    omega
theorem sum_icoef : ∀ (l : IPol) (ks : List Int), ks.Nodup → (ks.map fun k => (icoef l k).natAbs).sum ≤ nrm l
  | [], ks, _ => by
    have : (ks.map fun k => (icoef [] k).natAbs).sum ≤ (ks.map fun _ => 0).sum := sum_le_sum ks fun _ => Nat.le_refl _
    refine Nat.le_trans this ?_
    clear this
    induction ks with
    | nil => exact Nat.le_refl _
    | cons k r ih => rw [List.map_cons, List.sum_cons, Nat.zero_add]; exact ih (List.nodup_cons.mp (by assumption)).2
  | x :: r, ks, h => by
    have ih := sum_icoef r ks h
    have h1 : (ks.map fun k => (icoef (x :: r) k).natAbs).sum ≤ (ks.map fun k => (if x.1 = k then x.2.natAbs else 0) + (icoef r k).natAbs).sum := sum_le_sum ks fun k => by
      show ((if x.1 = k then x.2 else 0) + icoef r k).natAbs ≤ _
      split <;> omega
    rw [sum_add] at h1
    have h2 := sum_ite (k0 := x.1) (c := x.2.natAbs) ks h
    show _ ≤ x.2.natAbs + nrm r
    omega
theorem coef_mem : ∀ {A : Pol} {x : Int × Rat}, (A.map (·.1)).Nodup → x ∈ A → coef A x.1 = x.2
  | [], _, _, h => by cases h
  | a :: r, x, hn, h => by
    have hn2 := List.nodup_cons.mp hn
    have z : ∀ (r : Pol) (k : Int), k ∉ r.map (·.1) → coef r k = 0 := by
      intro r k
      induction r with
      | nil => intro _; rfl
      | cons b s ih =>
        intro hk
        rw [coef_cons, ih (fun q => hk (List.mem_cons_of_mem _ q)), if_neg, Rat.add_zero]
        intro q
        exact hk (by rw [List.map_cons, q]; exact List.mem_cons_self)
    rw [coef_cons]
    rcases List.mem_cons.mp h with e | e
    · rw [e, if_pos rfl, z r a.1 hn2.1, Rat.add_zero]
    · rw [coef_mem hn2.2 e, if_neg, Rat.zero_add]
      intro q
      exact hn2.1 (by show a.1 ∈ _; rw [q]; exact List.mem_map_of_mem e)
theorem coef_none : ∀ {r : Pol} {k : Int}, k ∉ r.map (·.1) → coef r k = 0
  | [], _, _ => rfl
  | b :: s, k, hk => by
    rw [coef_cons, coef_none (r := s) (fun q => hk (List.mem_cons_of_mem _ q)), if_neg, Rat.add_zero]
    intro q
    exact hk (by rw [List.map_cons, q]; exact List.mem_cons_self)
/-- the numbers told one by one have the same sum of sizes -/
theorem Sz.can {D a : Nat} {f : LP} (h : Sz D a f) {A : Pol} (hn : (A.map (·.1)).Nodup) (e : of A = f) : BL D (2 ^ a) A := by
  obtain ⟨_, l, rfl, hl⟩ := h
  have e1 : ∀ k, coef A k = (icoef l k : Rat) / (D : Rat) := fun k => by
    rw [← coef_ratL]
    exact congrArg (fun f : LP => f k) e
  refine ⟨A.map fun x => (x.1, icoef l x.1), ?_, ?_⟩
  · unfold ratL
    rw [List.map_map]
    refine ((List.map_congr_left fun x hx => ?_).trans (List.map_id _)).symm
    show (x.1, (icoef l x.1 : Rat) / (D : Rat)) = x
    rw [← e1, coef_mem hn hx]
  · have := sum_icoef l (A.map (·.1)) hn
    unfold nrm
    rw [List.map_map] at this ⊢
    exact Nat.le_trans this hl
theorem Sz.at {D a : Nat} {f : LP} (h : Sz D a f) (k : Int) : QB D (2 ^ a) (f k) := by
  obtain ⟨_, l, rfl, hl⟩ := h
  exact BL.coef ⟨l, rfl, hl⟩ k
theorem Sz.mono {D a b : Nat} {f : LP} (h : Sz D a f) (hab : a ≤ b) : Sz D b f := by
  obtain ⟨h1, l, e, hl⟩ := h
  exact ⟨h1, l, e, Nat.le_trans hl (Nat.pow_le_pow_right (by decide) hab)⟩
theorem Sz.zero {D a : Nat} (h : 1 ≤ D) : Sz D a (of []) := ⟨h, [], rfl, Nat.zero_le _⟩
theorem Sz.add {D a : Nat} {f g : LP} (h : Sz D a f) (h' : Sz D a g) : Sz D (a + 1) (f + g) := by
  obtain ⟨h1, l, rfl, hl⟩ := h
  obtain ⟨_, m, rfl, hm⟩ := h'
  refine ⟨h1, l ++ m, ?_, ?_⟩
  · rw [ratL_append, of_append]
  · rw [nrm_append, Nat.pow_succ]
    omega
theorem Sz.mul {D E a b : Nat} {f g : LP} (h : Sz D a f) (h' : Sz E b g) : Sz (D * E) (a + b) (f * g) := by
  obtain ⟨h1, l, rfl, hl⟩ := h
  obtain ⟨h2, m, rfl, hm⟩ := h'
  refine ⟨Nat.mul_pos h1 h2, mulI l m, ?_, ?_⟩
  · rw [← ratL_mul, of_mulL]
  · rw [nrm_mulI, Nat.pow_add]
    exact Nat.mul_le_mul hl hm
theorem icoef_map_neg : ∀ l : IPol, negL (ratL D l) = ratL D (l.map fun x => (x.1, -x.2))
  | [] => rfl
  | x :: r => by
    show (x.1, -((x.2 : Rat) / (D : Rat))) :: negL (ratL D r) = (x.1, ((-x.2 : Int) : Rat) / (D : Rat)) :: ratL D (r.map _)
    rw [icoef_map_neg r, Rat.intCast_neg, Rat.div_def, Rat.div_def, Rat.neg_mul]
theorem neg_of (A : Pol) : -(of A) = of (negL A) := ext fun k => by
  rw [neg_at]
  exact (coef_negL A k).symm
theorem Sz.neg {D a : Nat} {f : LP} (h : Sz D a f) : Sz D a (-f) := by
  obtain ⟨h1, l, rfl, hl⟩ := h
  refine ⟨h1, l.map fun x => (x.1, -x.2), ?_, ?_⟩
  · rw [neg_of, icoef_map_neg]
  · refine Nat.le_trans (Nat.le_of_eq ?_) hl
    unfold nrm
    rw [List.map_map]
    congr 1
    refine List.map_congr_left fun x _ => ?_
    exact Int.natAbs_neg _
theorem Sz.sub {D a : Nat} {f g : LP} (h : Sz D a f) (h' : Sz D a g) : Sz D (a + 1) (f - g) := h.add h'.neg
theorem Sz.sp {D a : Nat} {f : LP} (h : Sz D a f) : Sz D a (sp f) := by
  obtain ⟨h1, l, rfl, hl⟩ := h
  refine ⟨h1, l.map fun x => (2 * x.1, x.2), ?_, ?_⟩
  · rw [sp_of]
    congr 1
    unfold spL ratL
    rw [List.map_map, List.map_map]
    rfl
  · refine Nat.le_trans (Nat.le_of_eq ?_) hl
    unfold nrm
    rw [List.map_map]
    rfl
theorem Sz.ev {D a : Nat} {f : LP} (h : Sz D a f) : Sz D a (ev f) := by
  obtain ⟨h1, l, rfl, hl⟩ := h
  refine ⟨h1, l.filterMap fun x => if x.1 % 2 = 0 then some (x.1 / 2, x.2) else none, ?_, Nat.le_trans ?_ hl⟩
  · rw [ev_of]
    congr 1
    unfold evL ratL
    rw [List.filterMap_map, List.map_filterMap]
    congr 1
    funext x
    simp only [Function.comp_apply]
    split <;> rfl
  · clear hl
    induction l with
    | nil => exact Nat.le_refl _
    | cons x r ih =>
      rw [List.filterMap_cons]
      split
      · show _ ≤ x.2.natAbs + nrm r
        omega
      · rename_i y e
        have : y.2 = x.2 := by
          split at e
          · cases e; rfl
          · cases e
        show y.2.natAbs + nrm (r.filterMap _) ≤ x.2.natAbs + nrm r
        rw [this]
        omega
theorem Sz.one (d : Int) : Sz 1 0 (LP.mono 1 d) := ⟨Nat.le_refl _, [(d, 1)], by
  show of [(d, (1 : Rat))] = of [(d, ((1 : Int) : Rat) / ((1 : Nat) : Rat))]
  rw [show ((1 : Int) : Rat) / ((1 : Nat) : Rat) = 1 by decide +kernel], Nat.le_refl _⟩
theorem Sz.shift {D a : Nat} {f : LP} (h : Sz D a f) (d : Int) : Sz D a (LP.mono 1 d * f) := by
  have := (Sz.one d).mul h
  rw [Nat.one_mul, Nat.zero_add] at this
  exact this
theorem Sz.od {D a : Nat} {f : LP} (h : Sz D a f) : Sz D a (od f) := (h.shift (-1)).ev
/-- a greater common denominator -/
theorem Sz.wide {D a b : Nat} {f : LP} (E : Nat) (h : Sz D a f) (hE : 1 ≤ E) (hb : E ≤ 2 ^ b) : Sz (E * D) (b + a) f := by
  have h1 : Sz E b (1 : LP) := ⟨hE, [(0, (E : Int))], by
    show of [((0 : Int), (1 : Rat))] = of [((0 : Int), (((E : Nat) : Int) : Rat) / (E : Rat))]
    congr 3
    rw [Rat.intCast_natCast, Rat.div_def, Rat.mul_inv_cancel]
    intro z
    have := Rat.natCast_eq_zero_iff.mp z
    omega, by
    show (E : Int).natAbs + 0 ≤ _
    simpa using hb⟩
  have := h1.mul h
  rw [LP.one_mul'] at this
  exact this
end BS
namespace BS
open LP
/-! ### fractions as pairs -/
def big : Nat := 2 ^ 900
theorem big_eq : big = 2 ^ 900 := rfl
def Fit (q : Rat) : Prop := q.num.natAbs ≤ big ∧ q.den ≤ big
theorem fit_of {D N : Nat} {q : Rat} (h : QB D N q) (h1 : 1 ≤ D) (hD : D ≤ big) (hN : N ≤ big) : Fit q := by
  obtain ⟨m, rfl, hm⟩ := h
  have e : (m : Rat) / (D : Rat) = Rat.divInt m (D : Int) := by rw [Rat.divInt_eq_div]; rfl
  rw [e]
  constructor
  · rw [Rat.num_divInt, Int.sign_eq_one_of_pos (by omega), Int.one_mul]
    refine Nat.le_trans ?_ (Nat.le_trans hm hN)
    rw [← Int.natAbs_natCast (Int.gcd _ _)]
    refine Nat.le_trans (Int.natAbs_ediv_le_natAbs _ _) (Nat.le_refl _)
  · rw [Rat.den_divInt, if_neg (by omega)]
    exact Nat.le_trans (Nat.div_le_self _ _) (by simpa using hD)
def Fits (f : LP) : Prop := ∀ k, Fit (f k)
theorem Sz.fits {D a : Nat} {f : LP} (h : Sz D a f) (hD : D ≤ big) (ha : 2 ^ a ≤ big) : Fits f := fun k => fit_of (h.at k) h.1 hD ha
theorem fit_zero : Fit 0 := ⟨Nat.zero_le _, by rw [big_eq]; decide +kernel⟩
/-- the parts of a fraction made of two whole numbers -/
theorem ratio_parts (a b : Int) (hb : b ≠ 0) {p : Int} (hp : p = if 0 < b then ((Int.gcd b a : Nat) : Int) else -((Int.gcd b a : Nat) : Int)) : a.fdiv p = (Rat.divInt a b).num ∧ b.fdiv p = ((Rat.divInt a b).den : Int) := by
  have hg : (Int.gcd b a : Int) ≠ 0 := by
    intro z
    have := Int.gcd_eq_zero_iff.mp (by omega : Int.gcd b a = 0)
    exact hb this.1
  have da : ((Int.gcd b a : Nat) : Int) ∣ a := Int.gcd_dvd_right ..
  have db : ((Int.gcd b a : Nat) : Int) ∣ b := Int.gcd_dvd_left ..
  rw [Rat.num_divInt, Rat.den_divInt, if_neg hb]
  generalize hG : ((Int.gcd b a : Nat) : Int) = g at *
  obtain ⟨x, hx⟩ := da
  obtain ⟨y, hy⟩ := db
  have ed : (((b.natAbs / Int.gcd b a : Nat)) : Int) = (b.natAbs : Int) / g := by rw [← hG]; exact Int.natCast_ediv _ _
  rw [ed]
  have gp : 0 < g := by omega
  by_cases h : 0 < b
  · rw [if_pos h] at hp
    rw [hp, Int.fdiv_eq_ediv_of_nonneg _ (by omega), Int.fdiv_eq_ediv_of_nonneg _ (by omega), Int.sign_eq_one_of_pos h, Int.one_mul, show (b.natAbs : Int) = b by omega]
    exact ⟨rfl, rfl⟩
  · rw [if_neg h] at hp
    have hs : b.sign = -1 := Int.sign_eq_neg_one_of_neg (by omega)
    rw [hp, hs, show (b.natAbs : Int) = -b by omega]
    constructor
    · rw [Int.fdiv_eq_of_eq_mul_right (by omega) (show a = -g * (-x) by rw [hx]; grind)]
      refine (Int.ediv_eq_of_eq_mul_right (by omega) ?_).symm
      rw [hx]; grind
    · rw [Int.fdiv_eq_of_eq_mul_right (by omega) (show b = -g * (-y) by rw [hy]; grind)]
      refine (Int.ediv_eq_of_eq_mul_right (by omega) ?_).symm
      rw [hy]; grind
theorem add_divInt (p q : Rat) : Rat.divInt (p.num * (q.den : Int) + q.num * (p.den : Int)) ((p.den : Int) * (q.den : Int)) = p + q := by
  rw [Rat.add_def', show ((p.den : Int) * (q.den : Int)) = ((p.den * q.den : Nat) : Int) from (Int.natCast_mul _ _).symm, Rat.divInt_ofNat]
theorem mul_divInt (p q : Rat) : Rat.divInt (p.num * q.num) ((p.den : Int) * (q.den : Int)) = p * q := by
  rw [Rat.mul_def', show ((p.den : Int) * (q.den : Int)) = ((p.den * q.den : Nat) : Int) from (Int.natCast_mul _ _).symm, Rat.divInt_ofNat]
theorem den_pos (q : Rat) : (0 : Int) < (q.den : Int) := by
  have := q.den_pos
  omega
theorem rat_of {q : Rat} {n : Int} {d : Nat} (hd : d ≠ 0) (hc : n.natAbs.gcd d = 1) (h1 : q.num = n) (h2 : q.den = d) : q = ⟨n, d, hd, hc⟩ := Rat.ext h1 h2
/-! ### rows -/
def posL : Int → List Rat → Pol
  | _, [] => []
  | s, q :: r => (s, q) :: posL (s + 1) r
theorem coef_posL : ∀ (s : Int) (qs : List Rat) (k : Int), coef (posL s qs) k = if s ≤ k then qs.getD (k - s).toNat 0 else 0
  | s, [], k => by
    show (0 : Rat) = _
    split
    · rfl
    · rfl
  | s, q :: r, k => by
    show (if s = k then q else 0) + coef (posL (s + 1) r) k = _
    rw [coef_posL (s + 1) r k]
    by_cases h : s = k
    · subst h
      rw [if_pos rfl, if_neg (by omega), if_pos (by omega), show (s - s).toNat = 0 by omega, Rat.add_zero]
      rfl
    · rw [if_neg h, Rat.zero_add]
      by_cases h2 : s ≤ k
      · rw [if_pos (by omega), if_pos h2, show (k - s).toNat = (k - (s + 1)).toNat + 1 by omega]
        rfl
      · rw [if_neg (by omega), if_neg h2]
theorem posL_at (s : Int) (qs : List Rat) (i : Nat) : coef (posL s qs) (s + i) = qs.getD i 0 := by
  rw [coef_posL, if_pos (by omega), show (s + (i : Int) - s).toNat = i by omega]
theorem posL_keys : ∀ (s : Int) (qs : List Rat), (posL s qs).map (·.1) = (List.range qs.length).map fun i : Nat => s + (i : Int)
  | s, [] => rfl
  | s, q :: r => by
    show s :: (posL (s + 1) r).map (·.1) = _
    rw [posL_keys (s + 1) r, List.length_cons, List.range_succ_eq_map, List.map_cons, List.map_map]
    congr 1
    · omega
    · refine List.map_congr_left fun i _ => ?_
      show s + 1 + (i : Int) = s + ((i + 1 : Nat) : Int)
      omega
theorem posL_nodup (s : Int) (qs : List Rat) : ((posL s qs).map (·.1)).Nodup := by
  rw [posL_keys]
  exact List.Pairwise.map _ (fun a b (h : a ≠ b) => by
    show s + (a : Int) ≠ s + (b : Int)
    omega) List.nodup_range
def Can (s : Int) (qs : List Rat) : Prop := (qs = [] ∧ s = 0) ∨ (qs ≠ [] ∧ qs.getD 0 0 ≠ 0 ∧ qs.getD (qs.length - 1) 0 ≠ 0)
theorem getD_ge {qs : List Rat} {i : Nat} (h : qs.length ≤ i) : qs.getD i 0 = 0 := by
  rw [List.getD_eq_getElem?_getD, List.getElem?_eq_none h]
  rfl
theorem can_unique {s t : Int} {qs rs : List Rat} (h : Can s qs) (h' : Can t rs) (e : ∀ k, coef (posL s qs) k = coef (posL t rs) k) : s = t ∧ qs = rs := by
  rcases h with ⟨h1, h2⟩ | ⟨h1, h2, h3⟩
  · rcases h' with ⟨g1, g2⟩ | ⟨g1, g2, g3⟩
    · exact ⟨h2.trans g2.symm, h1.trans g1.symm⟩
    · exfalso
      have := e (t + (0 : Nat))
      rw [posL_at, h1] at this
      exact g2 this.symm
  · rcases h' with ⟨g1, g2⟩ | ⟨g1, g2, g3⟩
    · exfalso
      have := e (s + (0 : Nat))
      rw [posL_at, g1] at this
      exact h2 this
    · have l1 : 0 < qs.length := List.length_pos_iff.mpr h1
      have l2 : 0 < rs.length := List.length_pos_iff.mpr g1
      have a1 : t ≤ s := by
        refine Int.not_lt.mp fun z => h2 ?_
        have := e (s + (0 : Nat))
        rw [posL_at, coef_posL, if_neg (by omega)] at this
        exact this
      have a2 : s ≤ t := by
        refine Int.not_lt.mp fun z => g2 ?_
        have := e (t + (0 : Nat))
        rw [posL_at, coef_posL, if_neg (by omega)] at this
        exact this.symm
      have est : s = t := by omega
      subst est
      have ei : ∀ i : Nat, qs.getD i 0 = rs.getD i 0 := fun i => by
        have := e (s + i)
        rw [posL_at, posL_at] at this
        exact this
      have b1 : rs.length ≤ qs.length := Nat.not_lt.mp fun z => g3 (by rw [← ei]; exact getD_ge (by omega))
      have b2 : qs.length ≤ rs.length := Nat.not_lt.mp fun z => h3 (by rw [ei]; exact getD_ge (by omega))
      refine ⟨rfl, List.ext_getElem (by omega) fun i q1 q2 => ?_⟩
      have := ei i
      rw [List.getD_eq_getElem?_getD, List.getD_eq_getElem?_getD, List.getElem?_eq_getElem q1, List.getElem?_eq_getElem q2] at this
      exact this
/-- the row (s, qs) is that of f -/
def RowOf (s : Int) (qs : List Rat) (f : LP) : Prop := Can s qs ∧ of (posL s qs) = f
theorem RowOf.unique {s t : Int} {qs rs : List Rat} {f : LP} (h : RowOf s qs f) (h' : RowOf t rs f) : s = t ∧ qs = rs :=
  can_unique h.1 h'.1 fun k => congrArg (fun g : LP => g k) (h.2.trans h'.2.symm)
theorem RowOf.at {s : Int} {qs : List Rat} {f : LP} (h : RowOf s qs f) (k : Int) : f k = if s ≤ k then qs.getD (k - s).toNat 0 else 0 := by
  rw [← h.2]
  exact coef_posL s qs k
theorem RowOf.nil {s : Int} {qs : List Rat} {f : LP} (h : RowOf s qs f) : qs = [] ↔ f = 0 := by
  constructor
  · intro e
    rw [← h.2, e, zero_eq]
    rfl
  · intro e
    rcases h.1 with ⟨h1, _⟩ | ⟨h1, h2, _⟩
    · exact h1
    · exfalso
      have := h.at (s + (0 : Nat))
      rw [e, zero_at', if_pos (by omega), show (s + ((0 : Nat) : Int) - s).toNat = 0 by omega] at this
      exact h2 this.symm
theorem RowOf.zero : RowOf 0 [] 0 := ⟨.inl ⟨rfl, rfl⟩, by rw [zero_eq]; rfl⟩
theorem RowOf.start_of_nil {s : Int} {f : LP} (h : RowOf s [] f) : s = 0 := by
  rcases h.1 with ⟨_, h⟩ | ⟨h, _⟩
  · exact h
  · exact absurd rfl h
theorem RowOf.single {s : Int} {qs : List Rat} {f : LP} (h : RowOf s qs f) (hf : Single f) : qs.length = 1 := by
  obtain ⟨c, d, hc, rfl⟩ := hf
  have h2 : RowOf d [c] (LP.mono c d) := ⟨.inr ⟨List.cons_ne_nil _ _, hc, hc⟩, rfl⟩
  rw [(h.unique h2).2]
  rfl
/-- what is left when noughts at the ends are left out -/
theorem trim_row {st : Int} {ns : List Rat} {lo hi : Nat} (hh : hi ≤ ns.length) (h1 : ∀ i, i < lo → ns.getD i 0 = 0) (h2 : ∀ i, hi ≤ i → ns.getD i 0 = 0) (hl : lo < hi) (a : ns.getD lo 0 ≠ 0) (b : ns.getD (hi - 1) 0 ≠ 0) :
    RowOf (st + lo) ((ns.drop lo).take (hi - lo)) (of (posL st ns)) := by
  have gd : ∀ i, i < hi - lo → ((ns.drop lo).take (hi - lo)).getD i 0 = ns.getD (lo + i) 0 := fun i hi' => by
    rw [List.getD_eq_getElem?_getD, List.getElem?_take, if_pos hi', List.getElem?_drop, List.getD_eq_getElem?_getD]
  have ln : ((ns.drop lo).take (hi - lo)).length = hi - lo := by
    rw [List.length_take, List.length_drop]
    omega
  refine ⟨.inr ⟨fun z => ?_, ?_, ?_⟩, of_eq fun k => ?_⟩
  · rw [z] at ln
    have : (0 : Nat) = hi - lo := ln
    omega
  · rw [gd 0 (by omega)]
    exact a
  · rw [ln, gd _ (by omega), show lo + (hi - lo - 1) = hi - 1 by omega]
    exact b
  · rw [coef_posL, coef_posL]
    by_cases q : st + lo ≤ k
    · rw [if_pos q, if_pos (by omega)]
      by_cases q2 : (k - (st + lo)).toNat < hi - lo
      · rw [gd _ q2]
        congr 1
        omega
      · rw [getD_ge (by omega), h2 _ (by omega)]
    · rw [if_neg q]
      split
      · rw [h1 _ (by omega)]
      · rfl
theorem trim_none {st : Int} {ns : List Rat} (h : ∀ i, ns.getD i 0 = 0) : of (posL st ns) = 0 := ext fun k => by
  rw [zero_at']
  show coef (posL st ns) k = 0
  rw [coef_posL]
  split
  · exact h _
  · rfl
/-! ### places -/
def Sup (r : Nat) (f : LP) : Prop := ∀ k, f k ≠ 0 → k.natAbs ≤ r
theorem Sup.mono {r s : Nat} {f : LP} (h : Sup r f) (e : r ≤ s) : Sup s f := fun k hk => Nat.le_trans (h k hk) e
theorem Sup.add {r : Nat} {f g : LP} (h : Sup r f) (h' : Sup r g) : Sup r (f + g) := fun k hk => by
  by_cases e : f k = 0
  · refine h' k fun z => hk ?_
    rw [add_at, e, z, Rat.add_zero]
  · exact h k e
theorem Sup.neg {r : Nat} {f : LP} (h : Sup r f) : Sup r (-f) := fun k hk => h k fun z => hk (by rw [neg_at, z]; rfl)
theorem Sup.sub {r : Nat} {f g : LP} (h : Sup r f) (h' : Sup r g) : Sup r (f - g) := h.add h'.neg
theorem dot_zero_of : ∀ (A : Pol) (g : Int → Rat), (∀ x ∈ A, g x.1 = 0) → dot A g = 0
  | [], _, _ => rfl
  | x :: r, g, h => by
    show x.2 * g x.1 + dot r g = 0
    rw [h x List.mem_cons_self, dot_zero_of r g fun y hy => h y (List.mem_cons_of_mem _ hy), Rat.mul_zero, Rat.add_zero]
/-- a formal sum at a row's places alone -/
theorem Sup.rep {r : Nat} {f : LP} (h : Sup r f) : ∃ A, f = of A ∧ ∀ x ∈ A, x.1.natAbs ≤ r := by
  refine ⟨f.rep.filter fun x => decide (x.1.natAbs ≤ r), ext fun k => ?_, fun x hx => of_decide_eq_true (List.mem_filter.mp hx).2⟩
  have key : ∀ (A : Pol) (k : Int), coef (A.filter fun x => decide (x.1.natAbs ≤ r)) k = if k.natAbs ≤ r then coef A k else 0 := by
    intro A k
    induction A with
    | nil => simp [coef]
    | cons x s ih =>
      rw [List.filter_cons]
      by_cases q : x.1.natAbs ≤ r
      · rw [if_pos (decide_eq_true q), coef_cons, ih, coef_cons]
        by_cases z : k.natAbs ≤ r
        · rw [if_pos z, if_pos z]
        · rw [if_neg z, if_neg z, if_neg (fun e => z (by rw [← e]; exact q)), Rat.add_zero]
      · rw [if_neg (by simpa using q), ih, coef_cons]
        by_cases z : k.natAbs ≤ r
        · rw [if_pos z, if_pos z, if_neg (fun e => q (by rw [e]; exact z)), Rat.zero_add]
        · rw [if_neg z, if_neg z]
  show f k = coef _ k
  rw [key, rep_spec]
  split
  · rfl
  · rename_i z
    exact Classical.byContradiction fun q => z (h k q)
theorem Sup.mul {r s : Nat} {f g : LP} (h : Sup r f) (h' : Sup s g) : Sup (r + s) (f * g) := by
  obtain ⟨A, rfl, hA⟩ := h.rep
  intro k hk
  refine Classical.byContradiction fun z => hk ?_
  obtain ⟨B, rfl⟩ := ex g
  rw [← of_mulL]
  show coef _ k = 0
  rw [coef_mulL]
  refine dot_zero_of A _ fun x hx => ?_
  refine Classical.byContradiction fun q => z ?_
  have h1 := hA x hx
  have h2 := h' (k - x.1) q
  omega
theorem Sup.one (d : Int) (c : Rat) : Sup d.natAbs (LP.mono c d) := fun k hk => by
  rw [mono_at] at hk
  split at hk
  · rename_i e; rw [e]; exact Nat.le_refl _
  · exact absurd rfl hk
theorem Sup.sp {r : Nat} {f : LP} (h : Sup r f) : Sup (2 * r) (sp f) := fun k hk => by
  rw [sp_at] at hk
  split at hk
  · have := h _ hk
    omega
  · exact absurd rfl hk
theorem Sup.ev {r : Nat} {f : LP} (h : Sup r f) : Sup r (ev f) := fun k hk => by
  rw [ev_at] at hk
  have := h _ hk
  omega
theorem Sup.od {r : Nat} {f : LP} (h : Sup r f) : Sup r (od f) := fun k hk => by
  rw [od_at] at hk
  have := h _ hk
  omega
theorem Sup.row {r : Nat} {st : Int} {qs : List Rat} {f : LP} (h : RowOf st qs f) (hs : Sup r f) : st.natAbs ≤ r ∧ qs.length ≤ 2 * r + 1 ∧ (qs ≠ [] → (st + qs.length - 1).natAbs ≤ r) := by
  rcases h.1 with ⟨h1, h2⟩ | ⟨h1, h2, h3⟩
  · rw [h1, h2]
    exact ⟨Nat.zero_le _, Nat.zero_le _, fun z => absurd rfl z⟩
  · have l1 : 0 < qs.length := List.length_pos_iff.mpr h1
    have e1 := hs st (by
      rw [h.at, if_pos (by omega), show (st - st).toNat = 0 by omega]
      exact h2)
    have e2 := hs (st + (qs.length - 1 : Nat)) (by
      rw [h.at, if_pos (by omega), show (st + ((qs.length - 1 : Nat) : Int) - st).toNat = qs.length - 1 by omega]
      exact h3)
    refine ⟨e1, by omega, fun _ => by omega⟩
end BS
namespace BH
open PySem PySem.Spec PyProof.Rows L2
def topS (i : Nat) : Stmt := PySem.Challenge.pw_bandsplits_k60_whole_all_partners_made.main.body.getD i (.Pass ⟨0, 0, 0, 0⟩)

abbrev s_is_whole : Stmt := topS 8
abbrev s_is_between : Stmt := topS 9
abbrev s_are_wholes : Stmt := topS 10
abbrev s_divisor_of : Stmt := topS 11
abbrev s_is_ratio : Stmt := topS 14
abbrev s_ratio : Stmt := topS 15
abbrev s_plus : Stmt := topS 16
abbrev s_times : Stmt := topS 17
abbrev s_row_by : Stmt := topS 20
abbrev s_end_of : Stmt := topS 21
abbrev s_at_place : Stmt := topS 22
abbrev s_row_sum : Stmt := topS 23
abbrev s_row_scaled : Stmt := topS 24
abbrev s_row_less : Stmt := topS 25
abbrev s_row_shift : Stmt := topS 26
abbrev s_row_product : Stmt := topS 27
abbrev s_part_from : Stmt := topS 28
abbrev s_even_of : Stmt := topS 29
abbrev s_odd_of : Stmt := topS 30
abbrev s_spread_out : Stmt := topS 31
abbrev s_is_single : Stmt := topS 32
abbrev s_is_laid : Stmt := topS 34
abbrev s_check_row : Stmt := topS 35
abbrev s_check_factor : Stmt := topS 38
abbrev s_check_places : Stmt := topS 39
abbrev s_pair_determinant : Stmt := topS 40
abbrev s_are_partners : Stmt := topS 41
abbrev s_partner_made : Stmt := topS 42
abbrev s_is_partner : Stmt := topS 43
abbrev s_partner_by : Stmt := topS 44
abbrev s__law_well : Stmt := topS 46
abbrev s__law_take : Stmt := topS 47
abbrev s__law_pick : Stmt := topS 48
abbrev s__law_rounds : Stmt := topS 49
abbrev s__law_common : Stmt := topS 50
abbrev s__law_ratio : Stmt := topS 51
abbrev s__law_sum : Stmt := topS 52
abbrev s__law_product : Stmt := topS 53
abbrev s__law_over : Stmt := topS 54
abbrev s__law_cleared : Stmt := topS 55
abbrev s__law_line : Stmt := topS 56
abbrev s__law_plus : Stmt := topS 57
abbrev s__law_times : Stmt := topS 58
abbrev s__law_scaled : Stmt := topS 59
abbrev s__law_later : Stmt := topS 60
abbrev s__law_spread : Stmt := topS 61
abbrev s__law_part : Stmt := topS 62
abbrev s__law_pair : Stmt := topS 63
abbrev s__law_lines : Stmt := topS 64
abbrev s__law_fits : Stmt := topS 65
abbrev s__law_number : Stmt := topS 66
abbrev s__law_near : Stmt := topS 67
abbrev s__law_steps : Stmt := topS 68
abbrev s__law_scale : Stmt := topS 69
abbrev s__law_led : Stmt := topS 70
abbrev s__law_of_ladder : Stmt := topS 71
abbrev s__law_lossless : Stmt := topS 72
abbrev s__law_partner_made : Stmt := topS 73
abbrev s__law_right : Stmt := topS 74
abbrev s_law : Stmt := topS 75
end BH
namespace BW
open PySem PySem.Spec PyProof.Rows L2
/-! ### enumerate of a tuple -/
theorem meets_enumT (t : Addr) (items : Array Value) :
    Meets (Builtin.«enumerate.__new__» ⟨[.type "enumerate", .ref t], []⟩) (fun _ R s => s.heap.IsTuple t items ∧
      R (.ok (.ret (.ref (s.heap.push { cls := .type "tuple_iterator", data := .fields #[.ref t, .int 0 0] }).objs.size)))
        { s with heap := (s.heap.push { cls := .type "tuple_iterator", data := .fields #[.ref t, .int 0 0] }).push { cls := .type "enumerate", data := .fields #[.none, .bool false, .ref s.heap.objs.size, rawInt 0, .none, .none] } }) :=
  .of_wp fun prog w A R s h => by
    obtain ⟨hp, g, d, tk, os⟩ := s
    obtain ⟨ht, hR⟩ := h
    have sub := sub_enumerate
    have it : ∀ {B : Around} {E : Value → Shared → Prop} {Q : Value → Shared → Prop}, Q (.ref hp.objs.size) ⟨hp.push { cls := .type "tuple_iterator", data := .fields #[.ref t, .int 0 0] }, g, d, tk, os⟩ → wpAny (model prog w) B (pyIter (.ref t)) Q E ⟨hp, g, d, tk, os⟩ :=
      fun q => wpAny_pyIter_tuple (s := ⟨hp, g, d, tk, os⟩) ht q
    obtain ⟨⟨c, dct, dt, sl⟩, hl, hc, n, hd⟩ := id ht
    have hl' : (Shared.heap ⟨hp, g, d, tk, os⟩).get? t = some ⟨c, dct, dt, sl⟩ := hl
    wp_walk using AutoSeq1.wpAny_loadPart' hl'
    refine wpAny_stack_any fun st => wpAny_pure ?_
    split
    · rename_i cc _ _ _ _ _
      cases (cc == Value.type "enumerate")
      all_goals
        wp_walk using AutoSeq1.wpAny_loadPart' hl', it
        exact ⟨_, rfl, hR⟩
    · wp_walk using AutoSeq1.wpAny_loadPart' hl', it
      exact ⟨_, rfl, hR⟩
section
variable {prog : Program} {w : World} {A : Around} {E : Value → Shared → Prop} {s : Shared}
theorem call_enumT {t : Addr} {items : Array Value} {Q : Value → Shared → Prop} (ht : s.heap.IsTuple t items)
    (h : ∀ h', IsEnum h' (s.heap.objs.size + 1) s.heap.objs.size 0 .none → h'.IsTupleIter s.heap.objs.size t 0 →
      (∀ b o, s.heap.get? b = some o → h'.get? b = some o) → Q (.ref (s.heap.objs.size + 1)) { s with heap := h' }) :
    wpAny (model prog w) A (call (.type "enumerate") [.ref t]) Q E s := by
  refine callType_new F.called_enumerate (by decide) (F.typeCall_enumerate_1 _) (F.newCall_enumerate_1 _) (fun ob => F.args_object_init_2 ob _) F.entry_enumerate_new (meets_enumT t items) ⟨ht, ?_⟩
  have sz : (s.heap.push { cls := .type "tuple_iterator", data := .fields #[.ref t, .int 0 0] }).objs.size = s.heap.objs.size + 1 := Heap.size_push ..
  show _ ∧ _
  rw [sz]
  have he : IsEnum ((s.heap.push { cls := .type "tuple_iterator", data := .fields #[.ref t, .int 0 0] }).push { cls := .type "enumerate", data := .fields #[.none, .bool false, .ref s.heap.objs.size, rawInt 0, .none, .none] }) (s.heap.objs.size + 1) s.heap.objs.size 0 .none := by
    have e1 := Heap.get?_push_size (s.heap.push { cls := .type "tuple_iterator", data := .fields #[.ref t, .int 0 0] }) (o := { cls := .type "enumerate", data := .fields #[.none, .bool false, .ref s.heap.objs.size, rawInt 0, .none, .none] }) rfl
    rw [sz] at e1
    exact e1
  exact ⟨⟨_, he, rfl⟩, h _ he ⟨_, Heap.get?_push_of_some _ (Heap.get?_push_size _ rfl), rfl, rfl⟩ fun b o y => Heap.get?_push_of_some _ (Heap.get?_push_of_some _ y)⟩
end
/-- the tuple at a, each item in a new pair with its place -/
def IteT (K : PySem.W.Frag) (a : Addr) : It :=
  ⟨fun i H => ∃ (xs : List V) (x : V), SqT K H a xs ∧ xs[i]? = some x, fun i H v H' => ∃ T x, v = .ref T ∧ H T = none ∧ H' = upd H T (.tup [.int (i : Nat), x]) ∧ ∀ xs, SqT K H a xs → xs[i]? = some x,
    fun i H => ∃ xs : List V, SqT K H a xs ∧ xs.length ≤ i⟩
/-- where the two records of enumerate stand -/
def EnT (a e it : Addr) (i : Nat) (h : Heap) : Prop := (∃ old, IsEnum h e it ((i : Nat) : Int) old) ∧ h.IsTupleIter it a i ∧ e ≠ it ∧ a ≠ it ∧ a ≠ e
theorem turn_enumT {P : Program} {w : World} {K : PySem.W.Frag} {elts : List Expr} {kk : Nat} {tpos : Pos} (a e it : Addr) : Turn P w K (.Tuple elts kk tpos) (IteT K a) [e, it] e (EnT a e it) where
  mem := List.mem_cons_self
  obj := fun i h st b hb => by
    obtain ⟨⟨old, he⟩, ⟨o, ho, hc, hd⟩, _⟩ := st
    rcases List.mem_cons.mp hb with z | z
    · rw [z]
      exact ⟨_, he, fun v q => nomatch q⟩
    · have z2 := List.mem_singleton.mp z
      exact ⟨o, z2 ▸ ho, fun v q => by rw [hd] at q; cases q⟩
  keep := fun i h h' st k => by
    obtain ⟨⟨old, he⟩, hi, hn⟩ := st
    exact ⟨⟨old, k e List.mem_cons_self _ he⟩, hi.at fun o q => k it (List.mem_cons_of_mem _ List.mem_cons_self) o q, hn⟩
  item := by
    intro X hP hw hK hcalm i pins s σ H E I hf st hg
    cases hP
    cases hw
    cases hK
    obtain ⟨⟨old, he⟩, hit, hne, hai, hae⟩ := st
    obtain ⟨xs, x, hq, hx⟩ := hg
    obtain ⟨its, rv, hT, _⟩ := I.tuple hq
    obtain ⟨u, hu, ru⟩ := rv.get hx
    have le : e < s.heap.objs.size := Heap.lt_size he
    have li : it < s.heap.objs.size := by
      obtain ⟨_, q, _⟩ := hit
      exact Heap.lt_size q
    have hlt : i < its.toArray.size := by
      have := (List.getElem?_eq_some_iff.mp hu).1
      simpa using this
    have hT1 : s.heap.IsTuple a its.toArray := hT
    refine wpAny_pyNext_enum_itemD (P := fun i v => its.toArray[i]? = some v) (St := fun i h => h.IsTupleIter it a i ∧ h.IsTuple a its.toArray) (Draws.tuple (A := X.A.in1) (I.ok.hd hcalm) it a hai its.toArray) he ⟨hit, hT1⟩ hlt hne (by simp [hne, Ne.symm hae]) fun y h' tk hy ho hst hcell hsz hk => ?_
    have ey : y = u := by
      have e1 : its[i]? = some y := by simpa using hy
      exact Option.some.inj (e1.symm.trans hu)
    subst ey
    refine ⟨_, rfl, wpAny_letOwnedTupleGo_enum (s := { s with heap := h', toks := tk + 1 }) ho fun h2 he2 sb => ?_⟩
    have cell2 : h2.get? s.heap.objs.size = some { cls := .type "tuple", data := .seq #[.int i tk, y] } := (sb.2 _ (Nat.ne_of_gt le)).trans hcell
    have new : ObjOk X.prog X.w (upd H s.heap.objs.size (.tup [.int (i : Nat), x])) h2 s.heap.objs.size (.tup [.int (i : Nat), x]) :=
      ⟨by show 2 ≤ sizeLine; decide, [.int i tk, y], .cons ⟨_, rfl⟩ (.cons ru .nil), ⟨_, cell2, rfl, _, rfl⟩⟩
    have I1 : Inv X pins σ (upd H s.heap.objs.size (.tup [.int (i : Nat), x])) { s with heap := h2, toks := tk + 1 } :=
      I.turnedNew (ch := [e, it]) (fun b o hb q => (sb.2 b fun z => hb (by simp [z])).trans (hk b o (fun z => hb (by simp [z])) (fun z => hb (by simp [z])) q)) hf (Nat.le_refl _) new
    refine ⟨.ref s.heap.objs.size, _, I1, rfl, ⟨_, x, rfl, I.hok.fresh (Nat.le_refl _), rfl, fun ys hy => by rw [I.tuple_inj hy hq]; exact hx⟩, ⟨⟨y, ?_⟩, hst.1.at fun o q => (sb.2 it (Ne.symm hne)).trans q, hne, hai, hae⟩, fun b hb => ?_⟩
    · rw [Int.natCast_add]
      exact he2
    · have lb : b < s.heap.objs.size := by
        rcases List.mem_cons.mp hb with z | z
        · rw [z]; exact le
        · rw [List.mem_singleton.mp z]; exact li
      rw [upd_ne (Nat.ne_of_lt lb)]
      exact (hf b hb).1
  done := by
    intro X hP hw hK hcalm i pins s σ H E I hf st hg
    cases hP
    cases hw
    cases hK
    obtain ⟨⟨old, he⟩, hit, hne, hai, hae⟩ := st
    obtain ⟨xs, hq, hx⟩ := hg
    obtain ⟨its, rv, hT, _⟩ := I.tuple hq
    obtain ⟨f0, f1, f2, f3, f4, f5⟩ := hf it (List.mem_cons_of_mem _ List.mem_cons_self)
    have hl := rv.length
    have hT1 : s.heap.IsTuple a its.toArray := hT
    have D : Draws X.prog X.w X.A.in1 it [it, a] 0 (fun _ _ => False) (fun _ h => h.IsTupleIter it a i ∧ h.IsTuple a its.toArray) := {
      live := fun _ _ st => let ⟨o, ho, _⟩ := st.1; ⟨o, ho⟩
      frame := fun _ _ _ st hk => ⟨st.1.at fun o q => hk it List.mem_cons_self o q, st.2.at fun o q => hk a (List.mem_cons_of_mem _ List.mem_cons_self) o q⟩
      item := fun j s' Q E' hj _ _ => absurd hj (Nat.not_lt_zero j)
      done := fun s' Q E' st hE => wpAny_nextOf_tuple_end (I.ok.hd hcalm) st.1 st.2 (by simp; omega) hE }
    exact wpAny_pyNext_enum_endD D he ⟨hit, hT1⟩ fun h' eb => ⟨rfl, I.turned (t' := s.toks) (fun b o hb q => eb b o hb q) f0 f1 f3 f4 f5⟩
  self := fun A i s Q E st h => by
    obtain ⟨⟨_, he⟩, _⟩ := st
    exact wpAny_pyIter_enum he h
def iEnumT (K : PySem.W.Frag) (ta : TA) : TI := fun σ H R => ta σ H fun vs H1 => ∃ a xs, vs = [.ref a] ∧ SqT K H1 a xs ∧ R (IteT K a) H1
theorem pi_enumT {X : Cx} {e : Expr} {ta : TA} {p pos tpos : Pos} {elts : List Expr} {kk : Nat} (hg : Gl X "enumerate") (hm : X.mg "enumerate" = none) (ha : PA X [e] ta) (hs : starEach [e] X.env = [(false, eval e X.env)] := by rfl) :
    PI X (.Tuple elts kk tpos) (.Call (.Name "enumerate" p) [e] [] pos) (iEnumT X.K ta) := by
  refine ⟨fun pins s σ H R I h => Call_ (ld_blt I hg hm boot_enumerate (PyProof.Rows.callWith_type1 (thn (ha.run pos pins s σ H _ I h) fun us s1 ⟨vs, H1, I1, r1, q1⟩ => ?_) hs rfl))⟩
  obtain ⟨a, xs, rfl, hq, q⟩ := q1
  obtain ⟨u, rfl, hu⟩ := vals1 r1
  cases hu
  obtain ⟨its, rv, hT, _⟩ := I1.tuple hq
  have la : a < s1.heap.objs.size := IsTup.lt hT
  refine call_enumT (t := a) (items := its.toArray) hT fun h' he hit hk => wpAny_pyIter_enum he ?_
  have I2 : Inv X pins σ H1 { s1 with heap := h' } := I1.kept (t' := s1.toks) hk
  refine ⟨s1.heap.objs.size + 1, [s1.heap.objs.size + 1, s1.heap.objs.size], _, _, H1, rfl, I2, turn_enumT a (s1.heap.objs.size + 1) s1.heap.objs.size, ⟨⟨.none, he⟩, hit, Nat.succ_ne_self _, Nat.ne_of_lt la, Nat.ne_of_lt (Nat.lt_succ_of_lt la)⟩, fun b hb => ?_, q⟩
  have hle : s1.heap.objs.size ≤ b := by
    rcases List.mem_cons.mp hb with z | z
    · rw [z]; exact Nat.le_succ _
    · rw [List.mem_singleton.mp z]; exact Nat.le_refl _
  exact I1.fpOk hle (I1.hok.fresh hle)
/-- the reading of a for over enumerate of a tuple -/
theorem for_enumT {K : PySem.W.Frag} {a : Addr} {xs : List V} {g : TG} {tb : TS} {D : Ends} {σ : L2.St} {H : Hp} (Pv : Nat → L2.St → Hp → Prop) (h0 : Pv 0 σ H) (hl : ∀ i σ H, i ≤ xs.length → Pv i σ H → SqT K H a xs)
    (hs : ∀ i x σ H T, xs[i]? = some x → Pv i σ H → H T = none → g (.ref T) σ (upd H T (.tup [.int (i : Nat), x])) fun σ2 H2 => tb { D with nx := Pv (i + 1), bk := D.nx, ct := Pv (i + 1) } σ2 H2) (hd : ∀ σ H, Pv xs.length σ H → D.nx σ H) :
    ∃ W : Nat → Nat → L2.St → Hp → Prop, (∃ m, W 0 m σ H) ∧ ∀ i m σ H, W i m σ H →
      ((IteT K a).stop i H ∧ D.nx σ H) ∨ ((IteT K a).go i H ∧ ∃ N : L2.St → Hp → Prop, (∀ σ' H', N σ' H' → ∃ m', m' < m ∧ W (i + 1) m' σ' H') ∧ ∀ x H', (IteT K a).yld i H x H' → g x σ H' fun σ2 H2 => tb { D with nx := N, ct := N, bk := D.nx } σ2 H2) := by
  refine ⟨fun i m σ H => m = xs.length - i ∧ i ≤ xs.length ∧ Pv i σ H, ⟨xs.length, by simp, Nat.zero_le _, h0⟩, ?_⟩
  rintro i m σ H ⟨rfl, hi, p⟩
  have q := hl i σ H hi p
  by_cases e : i < xs.length
  · refine .inr ⟨⟨xs, xs[i], q, List.getElem?_eq_getElem e⟩, Pv (i + 1), fun σ' H' n => ⟨_, by omega, rfl, e, n⟩, ?_⟩
    rintro v H' ⟨T, x, rfl, hT, rfl, hx⟩
    exact hs i x σ H T (hx xs q) p hT
  · have e2 : i = xs.length := by omega
    subst e2
    exact .inl ⟨⟨xs, q, Nat.le_refl _⟩, hd σ H p⟩
/-! ### floor division by any divisor but great ones -/
def CDivG (_ j : Int) : Prop := j ≠ 0 ∧ j.natAbs.log2 < 9000
theorem op_fdivG {X : Cx} : OpR X (binaryOp .FloorDiv) (rI CDivG fun i j => .int (i.fdiv j)) := opI fun i j _ _ _ _ _ hc q => floordiv_int hc.1 q (.inl (PyProof.noPylong_of_log2 hc.2))
/-! ### a dict beside the empty one -/
def rEq0 (neg : Bool) : R2 := fun x y H Q => ∃ a b ks, x = .ref a ∧ y = .ref b ∧ H a = some (.dK ks) ∧ H b = some (.dK []) ∧ Q (.bl (if neg then !ks.isEmpty else ks.isEmpty)) H
theorem op_eq0 {X : Cx} (hu : X.A.units < cLine) : OpR X (compareOp .Eq) (rEq0 false) := by
  intro pins s σ H x y v u Q I rx ry h
  obtain ⟨a, b, ks, rfl, rfl, ea, eb, q⟩ := h
  cases rx
  cases ry
  obtain ⟨_, ya, va, ra, da⟩ := (show ObjOk X.prog X.w H s.heap a (.dK ks) from I.hok a _ ea)
  obtain ⟨_, yb, vb, rb, db⟩ := (show ObjOk X.prog X.w H s.heap b (.dK []) from I.hok b _ eb)
  cases rb
  refine PySem.W.keq_eq (knd := mixKind X.prog X.w) (r := true) ya yb da db hu (fun hl => ?_) (fin_bl I q ?_)
  · have : va = [] := List.length_eq_zero_iff.mp hl
    rw [this]
    exact .nil
  · cases ra <;> rfl
theorem op_ne0 {X : Cx} (hu : X.A.units < cLine) : OpR X (compareOp .NotEq) (rEq0 true) := by
  intro pins s σ H x y v u Q I rx ry h
  obtain ⟨a, b, ks, rfl, rfl, ea, eb, q⟩ := h
  cases rx
  cases ry
  obtain ⟨_, ya, va, ra, da⟩ := (show ObjOk X.prog X.w H s.heap a (.dK ks) from I.hok a _ ea)
  obtain ⟨_, yb, vb, rb, db⟩ := (show ObjOk X.prog X.w H s.heap b (.dK []) from I.hok b _ eb)
  cases rb
  refine PySem.W.keq_ne (knd := mixKind X.prog X.w) (r := true) ya yb da db hu (fun hl => ?_) (fin_bl I q ?_)
  · have : va = [] := List.length_eq_zero_iff.mp hl
    rw [this]
    exact .nil
  · cases ra <;> rfl
/-! ### repr of data -/
def rRepr (K : PySem.W.Frag) : List V → Hp → VK → Prop := fun vs H Q => ∃ a d, vs = [.ref a] ∧ Dp K H (.ref a) d ∧ d.showable = true ∧ d.hasDict = false ∧ d.depth ≤ 60 ∧ d.shown.length ≤ sizeLine ∧ Q (.str d.shown) H
theorem cr_repr {X : Cx} (hg : X.A.guards = some []) (hu : X.A.units + 64 < cLine) : CallR X (.builtin "repr") (rRepr X.K) := by
  intro pins s σ H vs us Q I r h
  obtain ⟨a, d, rfl, hd, hsh, hnd, hdp, hsz, q⟩ := h
  obtain ⟨u, rfl, ru⟩ := vals1 r
  obtain ⟨as, hr⟩ := Dp.reads I d _ _ hd ru
  cases ru
  exact repr_of_reads' hr hsh (fun z => by rw [hnd] at z; cases z) hg (by omega) (fun _ _ e => e) (fun h' u tk hk => ⟨.str d.shown, H, I.kept (t' := tk) hk, ⟨u, rfl⟩, q⟩) hsz
end BW
namespace BW
open PySem PySem.Spec PyProof.Rows L2 BS
/-! ### heaps -/
theorem same_t {K : PySem.W.Frag} {H H' : Hp} {a : Addr} {xs : List V} (e : Same H H') (h : SqT K H a xs) : SqT K H' a xs := by
  rcases h with (h | ⟨o, h⟩) | h
  · exact .inl (.inl (e _ _ h))
  · exact .inl (.inr ⟨o, e _ _ h⟩)
  · exact .inr h
theorem same_new {H : Hp} {p : Addr} {o : HO} (h : H p = none) : Same H (upd H p o) := fun b x e => by
  rw [upd_ne (ne_of_none e h)]
  exact e
/-- an object that H does not know may change -/
theorem same_mut {H H' : Hp} {p : Addr} {o : HO} (e : Same H H') (h : H p = none) : Same H (upd H' p o) := fun b x ha => by
  rw [upd_ne (ne_of_none ha h)]
  exact e b x ha
theorem tup_at {K : PySem.W.Frag} {H : Hp} {a : Addr} {xs : List V} (h : H a = some (.tup xs)) : SqT K H a xs := .inl (.inl h)
theorem lst_at {K : PySem.W.Frag} {H : Hp} {a : Addr} {xs : List V} (h : H a = some (.lst xs)) : SqL K H a xs := .inl (.inl h)
theorem tup_new {K : PySem.W.Frag} {H : Hp} {a : Addr} {xs : List V} : SqT K (upd H a (.tup xs)) a xs := tup_at upd_same
theorem lst_new {K : PySem.W.Frag} {H : Hp} {a : Addr} {xs : List V} : SqL K (upd H a (.lst xs)) a xs := lst_at upd_same
/-! ### fractions, rows -/
def Fr (K : PySem.W.Frag) (H : Hp) (v : V) (q : Rat) : Prop := ∃ a, v = .ref a ∧ SqT K H a [.int q.num, .int (q.den : Int)]
theorem Fr.mono {K : PySem.W.Frag} {H H' : Hp} {v : V} {q : Rat} (h : Fr K H v q) (e : Same H H') : Fr K H' v q := by
  obtain ⟨a, rfl, h⟩ := h
  exact ⟨a, rfl, same_t e h⟩
def FrL (K : PySem.W.Frag) (H : Hp) (vs : List V) (qs : List Rat) : Prop := Paired (fun v q => Fr K H v q) vs qs
theorem FrL.mono {K : PySem.W.Frag} {H H' : Hp} {vs : List V} {qs : List Rat} (h : FrL K H vs qs) (e : Same H H') : FrL K H' vs qs := Paired.mapP h fun _ _ x => x.mono e
theorem FrL.len {K : PySem.W.Frag} {H : Hp} {vs : List V} {qs : List Rat} (h : FrL K H vs qs) : vs.length = qs.length := Paired.length h
section
variable {α β : Type} {F : α → β → Prop}
theorem pr_get : ∀ {xs : List α} {ys : List β} {i : Nat} {x : α}, Paired F xs ys → xs[i]? = some x → ∃ y, ys[i]? = some y ∧ F x y
  | _, _, i, _, .nil, e => by simp at e
  | _, _, 0, _, .cons r _, e => ⟨_, rfl, (Option.some.inj e) ▸ r⟩
  | _, _, i + 1, x, .cons _ t, e => pr_get (i := i) t e
theorem pr_get2 : ∀ {xs : List α} {ys : List β} {i : Nat} {y : β}, Paired F xs ys → ys[i]? = some y → ∃ x, xs[i]? = some x ∧ F x y
  | _, _, i, _, .nil, e => by simp at e
  | _, _, 0, _, .cons r _, e => ⟨_, rfl, (Option.some.inj e) ▸ r⟩
  | _, _, i + 1, x, .cons _ t, e => pr_get2 (i := i) t e
theorem pr_append : ∀ {xs xs' : List α} {ys ys' : List β}, Paired F xs ys → Paired F xs' ys' → Paired F (xs ++ xs') (ys ++ ys')
  | _, _, _, _, .nil, h => h
  | _, _, _, _, .cons r t, h => .cons r (pr_append t h)
theorem pr_take : ∀ {xs : List α} {ys : List β} (n : Nat), Paired F xs ys → Paired F (xs.take n) (ys.take n)
  | _, _, 0, _ => .nil
  | _, _, _ + 1, .nil => .nil
  | _, _, n + 1, .cons r t => .cons r (pr_take n t)
theorem pr_drop : ∀ {xs : List α} {ys : List β} (n : Nat), Paired F xs ys → Paired F (xs.drop n) (ys.drop n)
  | _, _, 0, h => h
  | _, _, _ + 1, .nil => .nil
  | _, _, n + 1, .cons _ t => pr_drop n t
theorem pr_set : ∀ {xs : List α} {ys : List β} {x : α} {y : β} (i : Nat), F x y → Paired F xs ys → Paired F (xs.set i x) (ys.set i y)
  | _, _, _, _, _, _, .nil => .nil
  | _, _, _, _, 0, r, .cons _ t => .cons r t
  | _, _, _, _, i + 1, r, .cons q t => .cons q (pr_set i r t)
theorem pr_rep {x : α} {y : β} (h : F x y) : ∀ n : Nat, Paired F (List.replicate n x) (List.replicate n y)
  | 0 => .nil
  | n + 1 => .cons h (pr_rep h n)
end
def Row (K : PySem.W.Frag) (H : Hp) (v : V) (f : LP) : Prop := ∃ a b st vs qs, v = .ref a ∧ SqT K H a [.int st, .ref b] ∧ SqT K H b vs ∧ FrL K H vs qs ∧ RowOf st qs f
theorem Row.mono {K : PySem.W.Frag} {H H' : Hp} {v : V} {f : LP} (h : Row K H v f) (e : Same H H') : Row K H' v f := by
  obtain ⟨a, b, st, vs, qs, rfl, h1, h2, h3, h4⟩ := h
  exact ⟨a, b, st, vs, qs, rfl, same_t e h1, same_t e h2, h3.mono e, h4⟩
/-! ### promises -/
def Ret (R : V → Hp → Prop) (H : Hp) (Q : VK) : Prop := ∀ v H', Same H H' → R v H' → Q v H'
def sp1 (p : V → Hp → VK → Prop) : Sp := fun vs H Q _ => ∃ a, vs = [a] ∧ p a H Q
def sp2 (p : V → V → Hp → VK → Prop) : Sp := fun vs H Q _ => ∃ a b, vs = [a, b] ∧ p a b H Q
def sp3 (p : V → V → V → Hp → VK → Prop) : Sp := fun vs H Q _ => ∃ a b c, vs = [a, b, c] ∧ p a b c H Q
def sp5 (p : V → V → V → V → V → Hp → VK → Prop) : Sp := fun vs H Q _ => ∃ a b c d e, vs = [a, b, c, d, e] ∧ p a b c d e H Q
/-! ### the text's facts -/
structure Tx (K : PySem.W.Frag) (mg : Str → Option Value) (za na nb : Addr) (pt : Tok) : Prop where
  zero : mg "ZERO" = some (.ref za)
  zeroT : ∀ H, SqT K H za [.int 0, .int 1]
  nought : mg "NOUGHT" = some (.ref na)
  noughtT : ∀ H, SqT K H na [.int 0, .ref nb]
  noughtB : ∀ H, SqT K H nb []
  places : mg "MOST_PLACES" = some (.int 1000 pt)
  gcd : mg "gcd" = some (.builtin "math.gcd")
  len : mg "len" = none
  isinstance : mg "isinstance" = none
  int : mg "int" = none
  bool : mg "bool" = none
  tuple : mg "tuple" = none
  all : mg "all" = none
  enumerate : mg "enumerate" = none
  range : mg "range" = none
  min : mg "min" = none
  max : mg "max" = none
  abs : mg "abs" = none
  dict : mg "dict" = none
  list : mg "list" = none
  divmod : mg "divmod" = none
  repr : mg "repr" = none
/-- a def of the text as it stands -/
def Df (K : PySem.W.Frag) (mg : Str → Option Value) (x : Str) (st : Stmt) : Prop := ∃ f fd, FunD K x x (defArgs st) (defBody st) (defScope st) [] [] f fd ∧ mg x = some (.ref f)
/-- a def that keeps its promise -/
structure Cl (P : Program) (w : World) (K : PySem.W.Frag) (mg : Str → Option Value) (base : Heap) (k : Nat) (x : Str) (ps : List Str) (sp : Sp) : Prop where
  ex : ∃ f fd, FnOk P w K mg base CX0 k f fd ps sp ∧ mg x = some (.ref f) ∧ PySem.W.keepIn K (.ref f) = true ∧ Binds K fd ps []
section
variable {P : Program} {w : World} {K : PySem.W.Frag} {mg : Str → Option Value} {base : Heap}
theorem Df.ok {x : Str} {st : Stmt} {N ps : List Str} {k : Nat} {sp : Sp} (D : Df K mg x st) (S : FnScope N ps (defScope st))
    (hb : ∀ (kV doc pm : Value) (an : Option Addr) (cdv ct : Value) (us : List Value), us.length = ps.length → bindArgs (PySem.W.fnOf x x (defArgs st) (defBody st) (defScope st) .none kV doc pm an cdv ct) ⟨us, []⟩ = pure (ps.zip us))
    (len : ∀ vs H Q E, sp vs H Q E → vs.length = ps.length)
    (body : ∀ (f : Addr) (cdv : Value) (A : Around) (outer : List Env) (s : Shared) (H : Hp) (vs : List V) (Q : VK) (E : XK), Room k (A.deeper (envOfC x (defScope st) s.heap.objs.size f cdv)) → sp vs H Q E →
      ∃ t, PSs (cxOf CX0 P w K mg base N x (defScope st) f cdv A outer s H E).nox (defBody st) t ∧ t { nx := fun _ H' => Q .non H', rt := Q } (start N vs) H) : Cl P w K mg base (k + 1) x ps sp := by
  obtain ⟨f, fd, F, hm⟩ := D
  refine ⟨f, fd, F.ok S len fun cdv A outer s H vs Q E hr h => ?_, hm, F.kp, F.bindsN hb⟩
  obtain ⟨t, h1, h2⟩ := body f cdv A outer s H vs Q E hr h
  exact ⟨t, h1.nox, h2⟩
end
theorem hu64_of {A : Around} {k : Nat} (hr : Room k A) : A.units + 64 < cLine := by
  have := hr.un
  omega
section
variable {X : Cx} {k : Nat} {x : Str} {ps : List Str} {sp : Sp} {p pos : Pos} {e : Expr} {es : List Expr} {t : TA}
theorem pe_cl (C : Cl X.prog X.w X.K X.mg X.base k x ps sp) (hr : Room k X.A) (hg : Gl X x) (ha : PA X (e :: es) t) (hdb : (x == ("__debug__" : Str)) = false := by decide)
    (he : starEach (e :: es) X.env = (false, eval e X.env) :: starEach es X.env := by rfl) (hpl : (backTo pos (starEach es X.env)).any (·.1) = false := by rfl) : PE X (.Call (.Name x p) (e :: es) [] pos) (tCall sp [] E0 t) := by
  obtain ⟨f, fd, F, hm, kp, b⟩ := C.ex
  exact pe_call F hr hg hm kp b .nil pass0 ha hdb he hpl
end
end BW
namespace BW
open PySem PySem.Spec PyProof.Rows L2 BS
section
variable {K : PySem.W.Frag} {H H' : Hp} {a : Addr} {xs : List V}
theorem ty_tup (h : SqT K H a xs) : TyX K H (.ref a) (.type "tuple") := by
  rcases h with (h | ⟨o, h⟩) | ⟨o, its, n, hk, hc, _⟩
  · exact .base (.tup h)
  · exact .fTuple h
  · exact .kTuple hk hc
theorem len_tup (h : SqT K H a xs) : LenV K (.ref a) H xs.length := .inr ⟨xs, h, rfl⟩
theorem len_lst (h : SqL K H a xs) : LenV K (.ref a) H xs.length := .inl ⟨xs, h, rfl⟩
theorem small5 {n : Nat} (h : n ≤ 100000) : n ≤ sizeLine := Nat.le_trans h (by decide)
theorem small5l {n : Nat} (h : n < 100000) : n < sizeLine := Nat.lt_of_lt_of_le h (by decide)
theorem dec_i {i j : Int} : decide (V.int i = V.int j) = decide (i = j) := by
  rw [Bool.eq_iff_iff]
  simp
theorem wipe1 {σ : L2.St} {j : Nat} (x : Option V) : wipe ((wipe σ [j]).set j x) [j] = wipe σ [j] := by
  show ((σ.set j none).set j x).set j none = σ.set j none
  rw [List.set_set, List.set_set]
theorem wipe1_at {σ : L2.St} {j i : Nat} {x : Option V} (h : i ≠ j) : ((wipe σ [j]).set j x)[i]? = σ[i]? := by
  show ((σ.set j none).set j x)[i]? = σ[i]?
  rw [List.getElem?_set_ne (Ne.symm h), List.getElem?_set_ne (Ne.symm h)]
end
/-! ### what is no list stands -/
def SI (H H' : Hp) : Prop := ∀ b o, (∀ xs, o ≠ HO.lst xs) → H b = some o → H' b = some o
section
variable {K : PySem.W.Frag} {H H' H2 : Hp} {a p : Addr} {xs ys : List V}
theorem SI.of (e : Same H H') : SI H H' := fun b o _ h => e b o h
theorem SI.refl (H : Hp) : SI H H := fun _ _ _ h => h
theorem SI.trans (e : SI H H') (f : SI H' H2) : SI H H2 := fun b o n h => f b o n (e b o n h)
theorem si_set (h : H p = some (.lst xs)) : SI H (upd H p (.lst ys)) := fun b o n e => by
  rw [upd_ne]
  · exact e
  · intro z
    rw [z, h] at e
    exact n xs (Option.some.inj e).symm
theorem si_new {o : HO} (h : H p = none) : SI H (upd H p o) := SI.of (same_new h)
theorem si_t (e : SI H H') (h : SqT K H a xs) : SqT K H' a xs := by
  rcases h with (h | ⟨o, h⟩) | h
  · exact .inl (.inl (e _ _ (fun _ z => nomatch z) h))
  · exact .inl (.inr ⟨o, e _ _ (fun _ z => nomatch z) h⟩)
  · exact .inr h
theorem Fr.si {v : V} {q : Rat} (h : Fr K H v q) (e : SI H H') : Fr K H' v q := by
  obtain ⟨a, rfl, h⟩ := h
  exact ⟨a, rfl, si_t e h⟩
theorem FrL.si {vs : List V} {qs : List Rat} (h : FrL K H vs qs) (e : SI H H') : FrL K H' vs qs := Paired.mapP h fun _ _ x => x.si e
theorem Row.si {v : V} {f : LP} (h : Row K H v f) (e : SI H H') : Row K H' v f := by
  obtain ⟨a, b, st, vs, qs, rfl, h1, h2, h3, h4⟩ := h
  exact ⟨a, b, st, vs, qs, rfl, si_t e h1, si_t e h2, h3.si e, h4⟩
end
/-! ### comprehensions that only make new things: one value for each item -/
section
variable {K : PySem.W.Frag} {a : Addr} {xs : List V} {te : TE} {j : Nat} {σ : L2.St} {H1 : Hp} {D : Addr} {Qd : Hp → Prop} {β : Type}
/-- what stands at D behind i turns -/
def LcI (R : Hp → V → β → Prop) (ys : List β) (H1 : Hp) (D : Addr) (i : Nat) (H : Hp) : Prop := ∃ acc, Same H1 H ∧ H D = some (.lst acc) ∧ Paired (R H) acc (ys.take i)
theorem lcm_step {H : Hp} {ys : List β} {i : Nat} {y : β} {R : Hp → V → β → Prop} (mono : ∀ H H' v y, R H v y → SI H H' → R H' v y) (hD : H1 D = none) (p : LcI R ys H1 D i H) (hy : ys[i]? = some y) (small : ys.length ≤ 50000)
    {σ2 : L2.St} (turn : ∀ Q : VK, (∀ v H', Same H H' → R H' v y → Q v H') → te σ2 H Q) :
    te σ2 H fun v H4 => ∃ acc, H4 D = some (.lst acc) ∧ acc.length < sizeLine ∧ LcI R ys H1 D (i + 1) (upd H4 D (.lst (acc ++ [v]))) := by
  obtain ⟨acc, e, hacc, hp⟩ := p
  refine turn _ fun v H4 e4 r => ⟨acc, e4 _ _ hacc, small5l ?_, acc ++ [v], same_mut (e.trans e4) hD, upd_same, ?_⟩
  · have := Paired.length hp
    rw [this, List.length_take]
    have := (List.getElem?_eq_some_iff.mp hy).1
    omega
  · have s4 : SI H4 (upd H4 D (.lst (acc ++ [v]))) := si_set (e4 _ _ hacc)
    rw [List.take_add_one, hy]
    exact pr_append (Paired.mapP hp fun _ _ x => mono _ _ _ _ (mono _ _ _ _ x (SI.of e4)) s4) (.cons (mono _ _ _ _ r s4) .nil)
theorem lcm_start {R : Hp → V → β → Prop} {ys : List β} (hD : H1 D = none) : LcI R ys H1 D 0 (upd H1 D (.lst [])) := ⟨[], same_new hD, upd_same, .nil⟩
theorem lcm_tup (ys : List β) (R : Hp → V → β → Prop) (mono : ∀ H H' v y, R H v y → SI H H' → R H' v y) (hD : H1 D = none) (hx : SqT K H1 a xs) (hl : xs.length = ys.length) (small : ys.length ≤ 50000)
    (turn : ∀ (i : Nat) x y H, xs[i]? = some x → ys[i]? = some y → Same H1 H → ∀ Q : VK, (∀ v H', Same H H' → R H' v y → Q v H') → te ((wipe σ [j]).set j (some x)) H Q)
    (done : ∀ H vs, Same H1 H → H D = some (.lst vs) → Paired (R H) vs ys → Qd H) :
    ∃ W : Nat → Nat → Hp → Prop, (∃ m, W 0 m (upd H1 D (.lst []))) ∧ ∀ i m H, W i m H →
      ((Itt K a).stop i H ∧ Qd H) ∨ ((Itt K a).go i H ∧ ∃ Nx : Hp → Prop, (∀ H', Nx H' → ∃ m', m' < m ∧ W (i + 1) m' H') ∧ ∀ x H', (Itt K a).yld i H x H' → gName j x (wipe σ [j]) H' fun σ2 H2 => wipe σ2 [j] = wipe σ [j] ∧ tYes σ2 H2 fun b H3 =>
        if b = true then te σ2 H3 fun y H4 => ∃ acc, H4 D = some (.lst acc) ∧ acc.length < sizeLine ∧ Nx (upd H4 D (.lst (acc ++ [y]))) else Nx H3) :=
  lc_tup (K := K) (a := a) (xs := xs) (LcI R ys H1 D) (lcm_start hD) (fun i H _ ⟨_, e, _, _⟩ => same_t e hx) (fun i x H hi p => ⟨wipe1 _, by
    obtain ⟨h1, e1⟩ := List.getElem?_eq_some_iff.mp hi
    have h2 : ys[i]? = some ys[i] := List.getElem?_eq_getElem (by omega)
    have e := p.choose_spec.1
    unfold tYes
    exact iteT (lcm_step mono hD p h2 small fun Q q => turn i x _ H hi h2 e Q q)⟩) fun H p => by
    obtain ⟨acc, e, h1, h2⟩ := p
    rw [hl, List.take_length] at h2
    exact done H acc e h1 h2
theorem lcm_list (ys : List β) (R : Hp → V → β → Prop) (mono : ∀ H H' v y, R H v y → SI H H' → R H' v y) (hD : H1 D = none) (hx : SqL K H1 a xs) (hl : xs.length = ys.length) (small : ys.length ≤ 50000)
    (turn : ∀ (i : Nat) x y H, xs[i]? = some x → ys[i]? = some y → Same H1 H → ∀ Q : VK, (∀ v H', Same H H' → R H' v y → Q v H') → te ((wipe σ [j]).set j (some x)) H Q)
    (done : ∀ H vs, Same H1 H → H D = some (.lst vs) → Paired (R H) vs ys → Qd H) :
    ∃ W : Nat → Nat → Hp → Prop, (∃ m, W 0 m (upd H1 D (.lst []))) ∧ ∀ i m H, W i m H →
      ((Itl K a).stop i H ∧ Qd H) ∨ ((Itl K a).go i H ∧ ∃ Nx : Hp → Prop, (∀ H', Nx H' → ∃ m', m' < m ∧ W (i + 1) m' H') ∧ ∀ x H', (Itl K a).yld i H x H' → gName j x (wipe σ [j]) H' fun σ2 H2 => wipe σ2 [j] = wipe σ [j] ∧ tYes σ2 H2 fun b H3 =>
        if b = true then te σ2 H3 fun y H4 => ∃ acc, H4 D = some (.lst acc) ∧ acc.length < sizeLine ∧ Nx (upd H4 D (.lst (acc ++ [y]))) else Nx H3) :=
  lc_list (K := K) (a := a) (xs := xs) (LcI R ys H1 D) (lcm_start hD) (fun i H _ ⟨_, e, _, _⟩ => e.seq hx) (fun i x H hi p => ⟨wipe1 _, by
    obtain ⟨h1, e1⟩ := List.getElem?_eq_some_iff.mp hi
    have h2 : ys[i]? = some ys[i] := List.getElem?_eq_getElem (by omega)
    have e := p.choose_spec.1
    unfold tYes
    exact iteT (lcm_step mono hD p h2 small fun Q q => turn i x _ H hi h2 e Q q)⟩) fun H p => by
    obtain ⟨acc, e, h1, h2⟩ := p
    rw [hl, List.take_length] at h2
    exact done H acc e h1 h2
theorem lcm_range {lo : Int} {n : Nat} (ys : List β) (R : Hp → V → β → Prop) (mono : ∀ H H' v y, R H v y → SI H H' → R H' v y) (hD : H1 D = none) (hl : n = ys.length) (small : ys.length ≤ 50000)
    (turn : ∀ (i : Nat) y H, i < n → ys[i]? = some y → Same H1 H → ∀ Q : VK, (∀ v H', Same H H' → R H' v y → Q v H') → te ((wipe σ [j]).set j (some (.int (lo + (i : Int))))) H Q)
    (done : ∀ H vs, Same H1 H → H D = some (.lst vs) → Paired (R H) vs ys → Qd H) :
    ∃ W : Nat → Nat → Hp → Prop, (∃ m, W 0 m (upd H1 D (.lst []))) ∧ ∀ i m H, W i m H →
      ((Itr lo n).stop i H ∧ Qd H) ∨ ((Itr lo n).go i H ∧ ∃ Nx : Hp → Prop, (∀ H', Nx H' → ∃ m', m' < m ∧ W (i + 1) m' H') ∧ ∀ x H', (Itr lo n).yld i H x H' → gName j x (wipe σ [j]) H' fun σ2 H2 => wipe σ2 [j] = wipe σ [j] ∧ tYes σ2 H2 fun b H3 =>
        if b = true then te σ2 H3 fun y H4 => ∃ acc, H4 D = some (.lst acc) ∧ acc.length < sizeLine ∧ Nx (upd H4 D (.lst (acc ++ [y]))) else Nx H3) :=
  lc_range (lo := lo) (n := n) (LcI R ys H1 D) (lcm_start hD) (fun i H hi p => ⟨wipe1 _, by
    have h2 : ys[i]? = some ys[i] := List.getElem?_eq_getElem (by omega)
    have e := p.choose_spec.1
    unfold tYes
    exact iteT (lcm_step mono hD p h2 small fun Q q => turn i _ H hi h2 e Q q)⟩) fun H p => by
    obtain ⟨acc, e, h1, h2⟩ := p
    rw [hl, List.take_length] at h2
    exact done H acc e h1 h2
end
end BW
namespace BW
open PySem PySem.Spec PyProof.Rows L2 BS
section
variable {P : Program} {w : World} {K : PySem.W.Frag} {mg : Str → Option Value} {base : Heap} {za na nb : Addr} {pt : Tok}
/-! ### numbers -/
theorem log2_small {a n : Nat} (h : a < 2 ^ n) (hn : 0 < n) : a.log2 < n := by
  by_cases z : a = 0
  · rw [z]
    exact hn
  · exact (Nat.log2_lt z).mpr h
theorem big_log {a : Nat} (h : a ≤ big) : a.log2 < 901 := log2_small (Nat.lt_of_le_of_lt h (by rw [big_eq]; exact Nat.pow_lt_pow_right (by decide) (by decide))) (by decide)
theorem fit_mulW {a b : Int} (ha : a.natAbs ≤ big) (hb : b.natAbs ≤ big) : CMulW a b := by
  have h1 := big_log ha
  have h2 := big_log hb
  unfold CMulW
  omega
theorem big_mul {a b : Int} (ha : a.natAbs ≤ big) (hb : b.natAbs ≤ big) : (a * b).natAbs < 2 ^ 8999 := by
  rw [Int.natAbs_mul]
  have h1 : a.natAbs * b.natAbs ≤ big * big := Nat.mul_le_mul ha hb
  refine Nat.lt_of_le_of_lt h1 ?_
  rw [big_eq, ← Nat.pow_add]
  exact Nat.pow_lt_pow_right (by decide) (by decide)
theorem sm0 : 0 ≤ sizeLine := Nat.zero_le _
theorem sm1 : 1 ≤ sizeLine := by decide
theorem sm2 : 2 ≤ sizeLine := by decide
theorem den_abs (q : Rat) : ((q.den : Int)).natAbs = q.den := Int.natAbs_natCast _
def gcdL (ns : List Int) : Int := ns.foldl (fun g n => ((Nat.gcd g.natAbs n.natAbs : Nat) : Int)) 0
theorem gcdL_succ {ns : List Int} {i : Nat} {n : Int} (h : ns[i]? = some n) : gcdL (ns.take (i + 1)) = ((Nat.gcd (gcdL (ns.take i)).natAbs n.natAbs : Nat) : Int) := by
  unfold gcdL
  rw [List.take_add_one, h]
  show List.foldl _ 0 (ns.take i ++ [n]) = _
  rw [List.foldl_append]
  rfl
theorem gcdL_two (a b : Int) : gcdL [a, b] = ((Int.gcd b a : Nat) : Int) := by
  show ((Nat.gcd ((Nat.gcd (0 : Int).natAbs a.natAbs : Nat) : Int).natAbs b.natAbs : Nat) : Int) = _
  rw [Int.natAbs_natCast, show (0 : Int).natAbs = 0 from rfl, Nat.gcd_zero_left, Nat.gcd_comm]
  rfl
theorem map_int_get {ns : List Int} {i : Nat} {x : V} (h : (ns.map V.int)[i]? = some x) : ∃ n, ns[i]? = some n ∧ x = .int n := by
  rw [List.getElem?_map] at h
  cases e : ns[i]? with
  | none =>
    rw [e] at h
    cases h
  | some n =>
    rw [e] at h
    exact ⟨n, rfl, (Option.some.inj h).symm⟩
theorem all_true {β : Type} {vs : List V} {ys : List β} (h : Paired (fun v _ => v = V.bl true) vs ys) : ∃ bs : List Bool, vs = bs.map V.bl ∧ bs.all id = true := by
  induction h with
  | nil => exact ⟨[], rfl, rfl⟩
  | cons r t ih =>
    obtain ⟨bs, e1, e2⟩ := ih
    exact ⟨true :: bs, by rw [r, e1]; rfl, e2⟩
/-! ### whole numbers -/
def sp_is_whole (K : PySem.W.Frag) : Sp := sp1 fun a H Q => ∃ i : Int, a = .int i ∧ Q (.bl true) H
abbrev N_is_whole : List Str := ["value"]
theorem sc_is_whole : FnScope N_is_whole ["value"] (defScope BH.s_is_whole) := ⟨rfl, rfl, rfl, by decide +kernel, rfl, by decide +kernel, by decide +kernel⟩
theorem w_is_whole (T : Tx K mg za na nb pt) (D_ : Df K mg "is_whole" BH.s_is_whole)  : Cl P w K mg base 1 "is_whole" ["value"] (sp_is_whole K) := by
  refine D_.ok sc_is_whole (fun _ _ _ _ _ _ us hl => match us, hl with | [_], _ => rfl) (fun vs H Q E h => ?_) (fun f cdv A outer s H vs Q E hr h => ?_)
  · obtain ⟨_, rfl, _⟩ := h
    rfl
  · have hu := hu_of hr
    have hu64 := hu64_of hr
    obtain ⟨v_value, rfl, h⟩ := h
    refine ⟨_, (pss_one (ps_ret (pe_and (pe_callB call_isi (by rfl) T.isinstance (by decide +kernel) (pa_cons (pv 0) (pa_cons (pe_bltn (v := .ty "int") (by rfl) T.int (by decide +kernel) rfl) pa_nil))) (pe_one (pe_not (pe_callB call_isi (by rfl) T.isinstance (by decide +kernel) (pa_cons (pv 0) (pa_cons (pe_bltn (v := .ty "bool") (by rfl) T.bool (by decide +kernel) rfl) pa_nil)))))))), ?_⟩
    obtain ⟨i, rfl, hQ⟩ := h
    refine ⟨_, rfl, _, _, _, _, true, rfl, .ty _, .base (.int i), kit_ty (by decide +kernel), true, rfl, iteT ?_⟩
    exact ⟨_, rfl, _, _, _, _, false, rfl, .ty _, .base (.int i), kit_ty (by decide +kernel), false, rfl, hQ⟩
def sp_is_between (K : PySem.W.Frag) : Sp := sp3 fun a b c H Q => ∃ i l r : Int, a = .int i ∧ b = .int l ∧ c = .int r ∧ l ≤ i ∧ i ≤ r ∧ Q (.bl true) H
abbrev N_is_between : List Str := ["value", "low", "high"]
theorem sc_is_between : FnScope N_is_between ["value", "low", "high"] (defScope BH.s_is_between) := ⟨rfl, rfl, rfl, by decide +kernel, rfl, by decide +kernel, by decide +kernel⟩
theorem w_is_between (T : Tx K mg za na nb pt) (D_ : Df K mg "is_between" BH.s_is_between) (c_is_whole : Cl P w K mg base 1 "is_whole" ["value"] (sp_is_whole K)) : Cl P w K mg base 2 "is_between" ["value", "low", "high"] (sp_is_between K) := by
  refine D_.ok sc_is_between (fun _ _ _ _ _ _ us hl => match us, hl with | [_, _, _], _ => rfl) (fun vs H Q E h => ?_) (fun f cdv A outer s H vs Q E hr h => ?_)
  · obtain ⟨_, _, _, rfl, _⟩ := h
    rfl
  · have hu := hu_of hr
    have hu64 := hu64_of hr
    obtain ⟨v_value, v_low, v_high, rfl, h⟩ := h
    refine ⟨_, (pss_one (ps_ret (pe_and (pe_cl c_is_whole (hr.mono (by decide)) (by rfl) (pa_cons (pv 0) pa_nil)) (pe_one (pe_chain op_le op_le (pv 1) (pv 0) (pv 2)))))), ?_⟩
    obtain ⟨i, l, r, rfl, rfl, rfl, h1, h2, hQ⟩ := h
    refine ⟨_, rfl, _, rfl, i, rfl, true, rfl, iteT ?_⟩
    refine ⟨_, rfl, _, rfl, _, _, rfl, rfl, true, congrArg V.bl (decide_eq_true h1), iteT ⟨_, rfl, _, _, rfl, rfl, ?_⟩⟩
    show Q (.bl (decide (i ≤ r))) H
    rw [decide_eq_true h2]
    exact hQ
def sp_are_wholes (K : PySem.W.Frag) : Sp := sp2 fun a b H Q => ∃ (p : Addr) (ns : List Int), a = .ref p ∧ SqT K H p (ns.map V.int) ∧ b = .int ns.length ∧ ns.length ≤ 1000 ∧ ∀ H', Same H H' → Q (.bl true) H'
abbrev N_are_wholes : List Str := ["value", "many", "each"]
theorem sc_are_wholes : FnScope N_are_wholes ["value", "many"] (defScope BH.s_are_wholes) := ⟨rfl, rfl, rfl, by decide +kernel, rfl, by decide +kernel, by decide +kernel⟩
theorem w_are_wholes (T : Tx K mg za na nb pt) (D_ : Df K mg "are_wholes" BH.s_are_wholes) (c_is_whole : Cl P w K mg base 1 "is_whole" ["value"] (sp_is_whole K)) : Cl P w K mg base 2 "are_wholes" ["value", "many"] (sp_are_wholes K) := by
  refine D_.ok sc_are_wholes (fun _ _ _ _ _ _ us hl => match us, hl with | [_, _], _ => rfl) (fun vs H Q E h => ?_) (fun f cdv A outer s H vs Q E hr h => ?_)
  · obtain ⟨_, _, rfl, _⟩ := h
    rfl
  · have hu := hu_of hr
    have hu64 := hu64_of hr
    obtain ⟨v_value, v_many, rfl, h⟩ := h
    refine ⟨_, (pss_one (ps_ret (pe_and (pe_callB call_isi (by rfl) T.isinstance (by decide +kernel) (pa_cons (pv 0) (pa_cons (pe_bltn (v := .ty "tuple") (by rfl) T.tuple (by decide +kernel) rfl) pa_nil))) (pe_and (pe_cmpR op_eq (pe_callB call_len (by rfl) T.len (by decide +kernel) (pa_cons (pv 0) pa_nil)) (pv 1) (nomark _)) (pe_one (pe_callB (cr_all rfl) (by rfl) T.all (by decide +kernel) (pa_cons (pe_lc (own := [("each", 2)]) (g := gName 2) rfl sc_are_wholes.nd (pi_tup (pv 0)) (blkOk_by (own := [("each", 2)]) (N := N_are_wholes) (sc := defScope BH.s_are_wholes) (by decide +kernel)) (fun _ _ _ _ _ => pg_name (i := 2) sc_are_wholes.nd rfl (Or.inl rfl)) (fun _ _ _ _ _ => pts_nil) (fun _ _ _ _ _ => (pe_cl c_is_whole (hr.mono (by decide)) (by rfl) (pa_cons (pv 2) pa_nil)))) pa_nil))))))), ?_⟩
    obtain ⟨p, ns, rfl, hT, rfl, hl, hQ⟩ := h
    refine ⟨_, rfl, _, _, _, _, true, rfl, .ty _, ty_tup hT, kit_ty (by decide +kernel), true, rfl, iteT ?_⟩
    refine ⟨_, rfl, _, _, rfl, len_tup hT, _, rfl, rfl, true, congrArg V.bl (by rw [List.length_map]; exact decide_eq_true rfl), iteT ?_⟩
    refine ⟨_, rfl, _, rfl, ⟨_, hT⟩, fun D hD => lcm_tup ns (fun _ v _ => v = .bl true) (fun _ _ _ _ h _ => h) hD hT (by simp) (by omega) (fun i x y H2 hx hy e Q2 q => ?_) (fun H2 vs e hv hp => ?_)⟩
    · obtain ⟨n, hn, rfl⟩ := map_int_get hx
      exact ⟨_, rfl, _, rfl, n, rfl, q _ _ (Same.refl _) rfl⟩
    · obtain ⟨bs, rfl, hb⟩ := all_true hp
      refine ⟨D, bs, rfl, lst_at hv, ?_⟩
      rw [hb]
      exact hQ H2 e
def sp_divisor_of (K : PySem.W.Frag) : Sp := sp1 fun a H Q => ∃ (p : Addr) (ns : List Int), a = .ref p ∧ SqT K H p (ns.map V.int) ∧ Q (.int (gcdL ns)) H
abbrev N_divisor_of : List Str := ["numbers", "found", "each"]
theorem sc_divisor_of : FnScope N_divisor_of ["numbers"] (defScope BH.s_divisor_of) := ⟨rfl, rfl, rfl, by decide +kernel, rfl, by decide +kernel, by decide +kernel⟩
theorem w_divisor_of (T : Tx K mg za na nb pt) (D_ : Df K mg "divisor_of" BH.s_divisor_of)  : Cl P w K mg base 1 "divisor_of" ["numbers"] (sp_divisor_of K) := by
  refine D_.ok sc_divisor_of (fun _ _ _ _ _ _ us hl => match us, hl with | [_], _ => rfl) (fun vs H Q E h => ?_) (fun f cdv A outer s H vs Q E hr h => ?_)
  · obtain ⟨_, rfl, _⟩ := h
    rfl
  · have hu := hu_of hr
    have hu64 := hu64_of hr
    obtain ⟨v_numbers, rfl, h⟩ := h
    refine ⟨_, (pss_cons (ps_set (i := 1) sc_divisor_of.nd rfl (.inl rfl) pe_int)
      (pss_cons (ps_for PassesOwn.never rfl (pi_tup (pv 0)) (pg_name (i := 2) sc_divisor_of.nd rfl (.inl rfl)) (pss_one (ps_set (i := 1) sc_divisor_of.nd rfl (.inl rfl) (pe_callBfun cr_gcd (by rfl) T.gcd (pa_cons (pv 1) (pa_cons (pv 2) pa_nil))))))
      (pss_one (ps_ret (pv 1))))), ?_⟩
    obtain ⟨p, ns, rfl, hT, hQ⟩ := h
    refine ⟨_, rfl, _, rfl, ⟨_, hT⟩, for_tup (K := K) (a := p) (xs := ns.map V.int) (fun i σ' H' => H' = H ∧ ∃ z, σ' = [some (.ref p), some (.int (gcdL (ns.take i))), z]) ⟨rfl, none, rfl⟩ (fun i σ' H' _ ⟨e, _⟩ => e ▸ hT) ?_ ?_⟩
    · rintro i x σ' H' hx ⟨rfl, z, rfl⟩
      obtain ⟨n, hn, rfl⟩ := map_int_get hx
      exact ⟨_, rfl, _, rfl, _, _, rfl, rfl, some (.int n), by rw [gcdL_succ hn]; rfl⟩
    · rintro σ' H' ⟨rfl, z, rfl⟩
      rw [List.length_map, List.take_length]
      exact ⟨_, rfl, hQ⟩
/-! ### fractions -/
def sp_is_ratio (K : PySem.W.Frag) : Sp := sp1 fun a H Q => ∃ q, Fr K H a q ∧ ∀ H', Same H H' → Q (.bl true) H'
abbrev N_is_ratio : List Str := ["value"]
theorem sc_is_ratio : FnScope N_is_ratio ["value"] (defScope BH.s_is_ratio) := ⟨rfl, rfl, rfl, by decide +kernel, rfl, by decide +kernel, by decide +kernel⟩
theorem w_is_ratio (T : Tx K mg za na nb pt) (D_ : Df K mg "is_ratio" BH.s_is_ratio) (c_are_wholes : Cl P w K mg base 2 "are_wholes" ["value", "many"] (sp_are_wholes K)) (c_divisor_of : Cl P w K mg base 1 "divisor_of" ["numbers"] (sp_divisor_of K)) : Cl P w K mg base 3 "is_ratio" ["value"] (sp_is_ratio K) := by
  refine D_.ok sc_is_ratio (fun _ _ _ _ _ _ us hl => match us, hl with | [_], _ => rfl) (fun vs H Q E h => ?_) (fun f cdv A outer s H vs Q E hr h => ?_)
  · obtain ⟨_, rfl, _⟩ := h
    rfl
  · have hu := hu_of hr
    have hu64 := hu64_of hr
    obtain ⟨v_value, rfl, h⟩ := h
    refine ⟨_, (pss_one (ps_ret (pe_and (pe_cl c_are_wholes (hr.mono (by decide)) (by rfl) (pa_cons (pv 0) (pa_cons pe_int pa_nil))) (pe_and (pe_cmpR op_gt (pe_ix ix_tup (pv 0) pe_int (fun _ _ => rfl)) pe_int (nomark _)) (pe_one (pe_cmpR op_eq (pe_cl c_divisor_of (hr.mono (by decide)) (by rfl) (pa_cons (pv 0) pa_nil)) pe_int (nomark _))))))), ?_⟩
    obtain ⟨q, ⟨p, rfl, hT⟩, hQ⟩ := h
    refine ⟨_, rfl, _, _, rfl, p, [q.num, (q.den : Int)], rfl, hT, rfl, (by show 2 ≤ 1000; decide), fun H1 e1 => ⟨true, rfl, iteT ?_⟩⟩
    refine ⟨_, rfl, _, _, _, _, rfl, rfl, same_t e1 hT, rfl, _, _, rfl, rfl, true, congrArg V.bl (decide_eq_true (den_pos q)), iteT ?_⟩
    refine ⟨_, rfl, _, rfl, p, [q.num, (q.den : Int)], rfl, same_t e1 hT, rfl, ?_⟩
    show Q (.bl (decide (V.int (gcdL [q.num, (q.den : Int)]) = V.int 1))) H1
    rw [gcdL_two, show Int.gcd (q.den : Int) q.num = 1 from (Nat.gcd_comm _ _).trans q.reduced]
    exact hQ H1 e1
def sp_ratio (K : PySem.W.Frag) : Sp := sp2 fun a b H Q => ∃ n d : Int, a = .int n ∧ b = .int d ∧ 0 < d ∧ d.natAbs < 2 ^ 8999 ∧ Ret (fun v H' => Fr K H' v (Rat.divInt n d)) H Q
abbrev N_ratio : List Str := ["top", "low", "part"]
theorem sc_ratio : FnScope N_ratio ["top", "low"] (defScope BH.s_ratio) := ⟨rfl, rfl, rfl, by decide +kernel, rfl, by decide +kernel, by decide +kernel⟩
theorem w_ratio (T : Tx K mg za na nb pt) (D_ : Df K mg "ratio" BH.s_ratio) (c_divisor_of : Cl P w K mg base 1 "divisor_of" ["numbers"] (sp_divisor_of K)) : Cl P w K mg base 2 "ratio" ["top", "low"] (sp_ratio K) := by
  refine D_.ok sc_ratio (fun _ _ _ _ _ _ us hl => match us, hl with | [_, _], _ => rfl) (fun vs H Q E h => ?_) (fun f cdv A outer s H vs Q E hr h => ?_)
  · obtain ⟨_, _, rfl, _⟩ := h
    rfl
  · have hu := hu_of hr
    have hu64 := hu64_of hr
    obtain ⟨v_top, v_low, rfl, h⟩ := h
    refine ⟨_, (pss_cons (ps_set (i := 2) sc_ratio.nd rfl (.inl rfl) (pe_ifExp (pt_cmpR op_gt (pv 1) pe_int (nomark _)) (pe_cl c_divisor_of (hr.mono (by decide)) (by rfl) (pa_cons (pe_tup (pa_cons (pv 0) (pa_cons (pv 1) pa_nil))) pa_nil)) (pe_un un_neg (pe_cl c_divisor_of (hr.mono (by decide)) (by rfl) (pa_cons (pe_tup (pa_cons (pv 0) (pa_cons (pv 1) pa_nil))) pa_nil)))))
      (pss_one (ps_ret (pe_tup (pa_cons (pe_op op_fdivG (pv 0) (pv 2)) (pa_cons (pe_op op_fdivG (pv 1) (pv 2)) pa_nil)))))), ?_⟩
    obtain ⟨n, d, rfl, rfl, hd, hs, hQ⟩ := h
    obtain ⟨e1, e2⟩ := ratio_parts n d (by omega) (p := gcdL [n, d]) (by rw [if_pos hd, gcdL_two])
    have hg : CDivG 0 (gcdL [n, d]) := by
      rw [gcdL_two]
      have h0 : Int.gcd d n ≠ 0 := fun z => by
        have := Int.gcd_eq_zero_iff.mp z
        omega
      refine ⟨by omega, ?_⟩
      rw [Int.natAbs_natCast]
      refine Nat.lt_trans (log2_small (Nat.lt_of_le_of_lt (Nat.le_of_dvd (by omega) ?_) hs) (by decide)) (by decide)
      exact Nat.gcd_dvd_left _ _
    refine ⟨_, rfl, _, _, rfl, rfl, true, congrArg V.bl (decide_eq_true hd), iteT ?_⟩
    refine ⟨_, rfl, _, rfl, sm2, fun p hp => ⟨_, rfl, p, [n, d], rfl, tup_new, ?_⟩⟩
    refine ⟨_, rfl, _, rfl, _, _, rfl, rfl, hg, _, rfl, _, rfl, _, _, rfl, rfl, hg, sm2, fun r hr => ?_⟩
    refine hQ _ _ ((same_new hp).trans (same_new hr)) ⟨r, rfl, ?_⟩
    rw [← e1, ← e2]
    exact tup_new
def sp_plus (K : PySem.W.Frag) : Sp := sp2 fun a b H Q => ∃ p q, Fr K H a p ∧ Fr K H b q ∧ Fit p ∧ Fit q ∧ Ret (fun v H' => Fr K H' v (p + q)) H Q
abbrev N_plus : List Str := ["one", "two"]
theorem sc_plus : FnScope N_plus ["one", "two"] (defScope BH.s_plus) := ⟨rfl, rfl, rfl, by decide +kernel, rfl, by decide +kernel, by decide +kernel⟩
theorem w_plus (T : Tx K mg za na nb pt) (D_ : Df K mg "plus" BH.s_plus) (c_ratio : Cl P w K mg base 2 "ratio" ["top", "low"] (sp_ratio K)) : Cl P w K mg base 3 "plus" ["one", "two"] (sp_plus K) := by
  refine D_.ok sc_plus (fun _ _ _ _ _ _ us hl => match us, hl with | [_, _], _ => rfl) (fun vs H Q E h => ?_) (fun f cdv A outer s H vs Q E hr h => ?_)
  · obtain ⟨_, _, rfl, _⟩ := h
    rfl
  · have hu := hu_of hr
    have hu64 := hu64_of hr
    obtain ⟨v_one, v_two, rfl, h⟩ := h
    refine ⟨_, (pss_one (ps_ret (pe_cl c_ratio (hr.mono (by decide)) (by rfl) (pa_cons (pe_op op_add (pe_op op_mulW (pe_ix ix_tup (pv 0) pe_int (fun _ _ => rfl)) (pe_ix ix_tup (pv 1) pe_int (fun _ _ => rfl))) (pe_op op_mulW (pe_ix ix_tup (pv 1) pe_int (fun _ _ => rfl)) (pe_ix ix_tup (pv 0) pe_int (fun _ _ => rfl)))) (pa_cons (pe_op op_mulW (pe_ix ix_tup (pv 0) pe_int (fun _ _ => rfl)) (pe_ix ix_tup (pv 1) pe_int (fun _ _ => rfl))) pa_nil))))), ?_⟩
    obtain ⟨p, q, ⟨a1, rfl, h1⟩, ⟨a2, rfl, h2⟩, ⟨f1, f2⟩, ⟨g1, g2⟩, hQ⟩ := h
    rw [← den_abs] at f2 g2
    refine ⟨_, rfl, _, _, _, _, rfl, rfl, h1, rfl, _, rfl, _, _, _, _, rfl, rfl, h2, rfl, _, _, rfl, rfl, fit_mulW f1 g2, _, rfl, _, _, _, _, rfl, rfl, h2, rfl, _, rfl, _, _, _, _, rfl, rfl, h1, rfl, _, _, rfl, rfl, fit_mulW g1 f2, _, _, rfl, rfl, _, rfl, _, _, _, _, rfl, rfl, h1, rfl, _, rfl, _, _, _, _, rfl, rfl, h2, rfl, _, _, rfl, rfl, fit_mulW f2 g2,
      _, _, rfl, _, _, rfl, rfl, Int.mul_pos (den_pos p) (den_pos q), big_mul f2 g2, fun v H' e r => ?_⟩
    rw [add_divInt] at r
    exact hQ v H' e r
def sp_times (K : PySem.W.Frag) : Sp := sp2 fun a b H Q => ∃ p q, Fr K H a p ∧ Fr K H b q ∧ Fit p ∧ Fit q ∧ Ret (fun v H' => Fr K H' v (p * q)) H Q
abbrev N_times : List Str := ["one", "two"]
theorem sc_times : FnScope N_times ["one", "two"] (defScope BH.s_times) := ⟨rfl, rfl, rfl, by decide +kernel, rfl, by decide +kernel, by decide +kernel⟩
theorem w_times (T : Tx K mg za na nb pt) (D_ : Df K mg "times" BH.s_times) (c_ratio : Cl P w K mg base 2 "ratio" ["top", "low"] (sp_ratio K)) : Cl P w K mg base 3 "times" ["one", "two"] (sp_times K) := by
  refine D_.ok sc_times (fun _ _ _ _ _ _ us hl => match us, hl with | [_, _], _ => rfl) (fun vs H Q E h => ?_) (fun f cdv A outer s H vs Q E hr h => ?_)
  · obtain ⟨_, _, rfl, _⟩ := h
    rfl
  · have hu := hu_of hr
    have hu64 := hu64_of hr
    obtain ⟨v_one, v_two, rfl, h⟩ := h
    refine ⟨_, (pss_one (ps_ret (pe_cl c_ratio (hr.mono (by decide)) (by rfl) (pa_cons (pe_op op_mulW (pe_ix ix_tup (pv 0) pe_int (fun _ _ => rfl)) (pe_ix ix_tup (pv 1) pe_int (fun _ _ => rfl))) (pa_cons (pe_op op_mulW (pe_ix ix_tup (pv 0) pe_int (fun _ _ => rfl)) (pe_ix ix_tup (pv 1) pe_int (fun _ _ => rfl))) pa_nil))))), ?_⟩
    obtain ⟨p, q, ⟨a1, rfl, h1⟩, ⟨a2, rfl, h2⟩, ⟨f1, f2⟩, ⟨g1, g2⟩, hQ⟩ := h
    rw [← den_abs] at f2 g2
    refine ⟨_, rfl, _, _, _, _, rfl, rfl, h1, rfl, _, rfl, _, _, _, _, rfl, rfl, h2, rfl, _, _, rfl, rfl, fit_mulW f1 g1, _, rfl, _, _, _, _, rfl, rfl, h1, rfl, _, rfl, _, _, _, _, rfl, rfl, h2, rfl, _, _, rfl, rfl, fit_mulW f2 g2,
      _, _, rfl, _, _, rfl, rfl, Int.mul_pos (den_pos p) (den_pos q), big_mul f2 g2, fun v H' e r => ?_⟩
    rw [mul_divInt] at r
    exact hQ v H' e r

end
end BW
namespace BW
open PySem PySem.Spec PyProof.Rows L2 BS
section
variable {P : Program} {w : World} {K : PySem.W.Frag} {mg : Str → Option Value} {base : Heap} {za na nb : Addr} {pt : Tok}
/-! ### rows -/
theorem cut_nat (vs : List V) (lo hi : Nat) (h : hi ≤ vs.length) (hl : lo ≤ hi) : cutV vs (some (lo : Int)) (some (hi : Int)) = (vs.drop lo).take (hi - lo) := by
  unfold cutV
  rw [HT.sIx_nat, HT.sIx_nat, Nat.min_eq_left h, Nat.min_eq_left (Nat.le_trans hl h)]
theorem FrL.get {H : Hp} {vs : List V} {qs : List Rat} (h : FrL K H vs qs) {i : Nat} (hi : i < qs.length) : ∃ a, vs[i]? = some (.ref a) ∧ SqT K H a [.int (qs.getD i 0).num, .int ((qs.getD i 0).den : Int)] := by
  obtain ⟨v, hv, a, rfl, h2⟩ := pr_get2 h (List.getElem?_eq_getElem hi)
  refine ⟨a, hv, ?_⟩
  rw [List.getD_eq_getElem?_getD, List.getElem?_eq_getElem hi]
  exact h2
theorem num_zero {q : Rat} : q.num = 0 ↔ q = 0 := Rat.num_eq_zero
def sp_row_by (K : PySem.W.Frag) : Sp := sp2 fun a b H Q => ∃ (st : Int) (l : Addr) (vs : List V) (qs : List Rat), a = .int st ∧ b = .ref l ∧ SqL K H l vs ∧ FrL K H vs qs ∧ qs.length ≤ 50000 ∧ Ret (fun v H' => Row K H' v (LP.of (posL st qs))) H Q
abbrev N_row_by : List Str := ["start", "numbers", "low", "high"]
theorem sc_row_by : FnScope N_row_by ["start", "numbers"] (defScope BH.s_row_by) := ⟨rfl, rfl, rfl, by decide +kernel, rfl, by decide +kernel, by decide +kernel⟩
theorem w_row_by (T : Tx K mg za na nb pt) (D_ : Df K mg "row_by" BH.s_row_by)  : Cl P w K mg base 1 "row_by" ["start", "numbers"] (sp_row_by K) := by
  refine D_.ok sc_row_by (fun _ _ _ _ _ _ us hl => match us, hl with | [_, _], _ => rfl) (fun vs H Q E h => ?_) (fun f cdv A outer s H vs Q E hr h => ?_)
  · obtain ⟨_, _, rfl, _⟩ := h
    rfl
  · have hu := hu_of hr
    have hu64 := hu64_of hr
    obtain ⟨v_start, v_numbers, rfl, h⟩ := h
    refine ⟨_, (pss_cons (ps_par rfl sc_row_by.nd (i := 2) (j := 3) rfl rfl (by decide) rfl rfl (pa_cons pe_int (pa_cons (pe_callB call_len (by rfl) T.len (by decide +kernel) (pa_cons (pv 1) pa_nil)) pa_nil)) (by rfl))
      (Evl.pss_cut (ps_while PassesOwn.never (PW.pt (pw_and (pt_cmpR op_lt (pv 2) (pv 3) (nomark _)) (pw_and1 (pt_cmpR op_eq (pe_ix ix_tup (pe_ix ix_list (pv 1) (pv 2) (fun _ _ => rfl)) pe_int (fun _ _ => rfl)) pe_int (nomark _))))) (pss_one (ps_aug (i := 2) sc_row_by.nd rfl (.inl rfl) pe_int ip_add)))
      (Evl.pss_cut (ps_while PassesOwn.never (PW.pt (pw_and (pt_cmpR op_lt (pv 2) (pv 3) (nomark _)) (pw_and1 (pt_cmpR op_eq (pe_ix ix_tup (pe_ix ix_list (pv 1) (pe_op op_sub (pv 3) pe_int) (fun _ _ => rfl)) pe_int (fun _ _ => rfl)) pe_int (nomark _))))) (pss_one (ps_aug (i := 3) sc_row_by.nd rfl (.inl rfl) pe_int ip_sub)))
      (pss_one (ps_ret (pe_ifExp (pt_cmpR op_lt (pv 2) (pv 3) (nomark _)) (pe_tup (pa_cons (pe_op op_add (pv 0) (pv 2)) (pa_cons (pe_callTy call_tuple_of (by rfl) T.tuple (by decide +kernel) (pa_cons (pe_slice sl_list (pv 1) (po_some (pv 2)) (po_some (pv 3))) pa_nil)) pa_nil))) (pe_glob (v := .ref na) (by rfl) T.nought rfl))))))), ?_⟩
    obtain ⟨st, l, vs, qs, rfl, rfl, hS, hF, hn, hQ⟩ := h
    have hl : vs.length = qs.length := hF.len
    have low : ∀ i : Nat, i < qs.length → ∃ a, atI vs (i : Int) = some (.ref a) ∧ SqT K H a [.int (qs.getD i 0).num, .int ((qs.getD i 0).den : Int)] := fun i hi => by
      obtain ⟨a, h1, h2⟩ := hF.get hi
      exact ⟨a, atI_nat h1, h2⟩
    refine ⟨_, rfl, _, _, rfl, len_lst hS, _, _, rfl, ?_⟩
    rw [hl]
    refine ⟨fun σ' H' => H' = H ∧ ∃ lo : Nat, σ' = [some (.int st), some (.ref l), some (.int (lo : Int)), some (.int (qs.length : Int))] ∧ lo ≤ qs.length ∧ (∀ i, i < lo → qs.getD i 0 = 0) ∧ (lo < qs.length → qs.getD lo 0 ≠ 0), ?_, ?_⟩
    · -- the first while
      refine ⟨fun m σ' H' => H' = H ∧ ∃ lo : Nat, σ' = [some (.int st), some (.ref l), some (.int (lo : Int)), some (.int (qs.length : Int))] ∧ m = qs.length - lo ∧ lo ≤ qs.length ∧ ∀ i, i < lo → qs.getD i 0 = 0, ⟨qs.length, rfl, 0, rfl, rfl, Nat.zero_le _, fun i hi => absurd hi (Nat.not_lt_zero i)⟩, ?_⟩
      rintro m σ' H' ⟨rfl, lo, rfl, rfl, h1, h2⟩
      by_cases hlt : lo < qs.length
      · obtain ⟨a, ha, hT⟩ := low lo hlt
        refine ⟨_, rfl, _, rfl, _, _, rfl, rfl, true, congrArg V.bl (decide_eq_true (by omega)), iteT ?_⟩
        refine ⟨_, rfl, _, rfl, _, _, _, _, rfl, rfl, hS, ha, _, _, _, _, rfl, rfl, hT, rfl, rfl, ?_⟩
        by_cases hz : qs.getD lo 0 = 0
        · refine ⟨true, congrArg V.bl (by rw [dec_i]; exact decide_eq_true (num_zero.mpr hz)), iteT ?_⟩
          refine ⟨fun σ2 H2 => H2 = H' ∧ σ2 = [some (.int st), some (.ref l), some (.int ((lo + 1 : Nat) : Int)), some (.int (qs.length : Int))], ?_, ?_⟩
          · rintro σ2 H2 ⟨rfl, rfl⟩
            refine ⟨qs.length - (lo + 1), by omega, rfl, lo + 1, rfl, rfl, hlt, fun i hi => ?_⟩
            by_cases e : i = lo
            · rw [e]; exact hz
            · exact h2 i (by omega)
          · exact ⟨_, rfl, _, _, rfl, rfl, rfl, rfl⟩
        · exact ⟨false, congrArg V.bl (by rw [dec_i]; exact decide_eq_false fun z => hz (num_zero.mp z)), iteF ⟨rfl, lo, rfl, h1, h2, fun _ => hz⟩⟩
      · exact ⟨_, rfl, _, rfl, _, _, rfl, rfl, false, congrArg V.bl (decide_eq_false (by omega)), iteF (iteF ⟨rfl, lo, rfl, h1, h2, fun z => absurd z hlt⟩)⟩
    · rintro σ' H' ⟨rfl, lo, rfl, h1, h2, h3⟩
      refine ⟨fun σ' H2 => H2 = H' ∧ ∃ hi : Nat, σ' = [some (.int st), some (.ref l), some (.int (lo : Int)), some (.int (hi : Int))] ∧ lo ≤ hi ∧ hi ≤ qs.length ∧ (∀ i, hi ≤ i → qs.getD i 0 = 0) ∧ (lo < hi → qs.getD (hi - 1) 0 ≠ 0), ?_, ?_⟩
      · -- the second while
        refine ⟨fun m σ' H2 => H2 = H' ∧ ∃ hi : Nat, σ' = [some (.int st), some (.ref l), some (.int (lo : Int)), some (.int (hi : Int))] ∧ m = hi ∧ lo ≤ hi ∧ hi ≤ qs.length ∧ ∀ i, hi ≤ i → qs.getD i 0 = 0, ⟨qs.length, rfl, qs.length, rfl, rfl, h1, Nat.le_refl _, fun i hi => getD_ge hi⟩, ?_⟩
        rintro m σ' H2 ⟨rfl, hi, rfl, rfl, g1, g2, g3⟩
        by_cases hlt : lo < m
        · obtain ⟨a, ha, hT⟩ := low (m - 1) (by omega)
          rw [show ((m - 1 : Nat) : Int) = (m : Int) - 1 by omega] at ha
          refine ⟨_, rfl, _, rfl, _, _, rfl, rfl, true, congrArg V.bl (decide_eq_true (by omega)), iteT ?_⟩
          refine ⟨_, rfl, _, rfl, _, _, rfl, rfl, _, _, _, _, rfl, rfl, hS, ha, _, _, _, _, rfl, rfl, hT, rfl, rfl, ?_⟩
          by_cases hz : qs.getD (m - 1) 0 = 0
          · refine ⟨true, congrArg V.bl (by rw [dec_i]; exact decide_eq_true (num_zero.mpr hz)), iteT ?_⟩
            refine ⟨fun σ2 H3 => H3 = H2 ∧ σ2 = [some (.int st), some (.ref l), some (.int (lo : Int)), some (.int ((m : Int) - 1))], ?_, ?_⟩
            · rintro σ2 H3 ⟨rfl, rfl⟩
              refine ⟨m - 1, by omega, rfl, m - 1, by rw [show ((m - 1 : Nat) : Int) = (m : Int) - 1 by omega], rfl, by omega, by omega, fun i hi => ?_⟩
              by_cases e : i = m - 1
              · rw [e]; exact hz
              · exact g3 i (by omega)
            · exact ⟨_, rfl, _, _, rfl, rfl, rfl, rfl⟩
          · exact ⟨false, congrArg V.bl (by rw [dec_i]; exact decide_eq_false fun z => hz (num_zero.mp z)), iteF ⟨rfl, m, rfl, g1, g2, g3, fun _ => hz⟩⟩
        · exact ⟨_, rfl, _, rfl, _, _, rfl, rfl, false, congrArg V.bl (decide_eq_false (by omega)), iteF (iteF ⟨rfl, m, rfl, g1, g2, g3, fun z => absurd z hlt⟩)⟩
      · rintro σ' H2 ⟨rfl, hi, rfl, g1, g2, g3, g4⟩
        by_cases hlt : lo < hi
        · refine ⟨_, rfl, _, rfl, _, _, rfl, rfl, true, congrArg V.bl (decide_eq_true (by omega)), iteT ?_⟩
          refine ⟨_, rfl, _, rfl, _, _, rfl, rfl, _, rfl, _, rfl, _, rfl, _, rfl, _, rfl, _, _, rfl, hS, fun c hc => ⟨c, _, rfl, .inl ⟨lst_new, fun d hd => ⟨sm2, fun e he => ?_⟩⟩⟩⟩
          rw [cut_nat vs lo hi (by omega) g1] at *
          have s1 : Same H2 (upd H2 c (.lst ((vs.drop lo).take (hi - lo)))) := same_new hc
          have s2 := s1.trans (same_new (o := .tup ((vs.drop lo).take (hi - lo))) hd)
          refine hQ _ _ (s2.trans (same_new he)) ⟨e, d, _, _, (qs.drop lo).take (hi - lo), rfl, tup_new, same_t (same_new he) tup_new, FrL.mono (pr_take _ (pr_drop _ hF)) (s2.trans (same_new he)), ?_⟩
          exact trim_row g2 h2 g3 hlt (h3 (by omega)) (g4 hlt)
        · refine ⟨_, rfl, _, rfl, _, _, rfl, rfl, false, congrArg V.bl (decide_eq_false (by omega)), iteF ?_⟩
          refine hQ _ _ (Same.refl _) ⟨na, nb, 0, [], [], rfl, T.noughtT _, T.noughtB _, .nil, ?_⟩
          rw [trim_none]
          · exact RowOf.zero
          · intro i
            by_cases e : i < lo
            · exact h2 i e
            · exact g3 i (by omega)
def sp_end_of (K : PySem.W.Frag) : Sp := sp1 fun a H Q => ∃ (p b : Addr) (st : Int) (vs : List V), a = .ref p ∧ SqT K H p [.int st, .ref b] ∧ SqT K H b vs ∧ Q (.int (st + (vs.length : Int))) H
abbrev N_end_of : List Str := ["row"]
theorem sc_end_of : FnScope N_end_of ["row"] (defScope BH.s_end_of) := ⟨rfl, rfl, rfl, by decide +kernel, rfl, by decide +kernel, by decide +kernel⟩
theorem w_end_of (T : Tx K mg za na nb pt) (D_ : Df K mg "end_of" BH.s_end_of)  : Cl P w K mg base 1 "end_of" ["row"] (sp_end_of K) := by
  refine D_.ok sc_end_of (fun _ _ _ _ _ _ us hl => match us, hl with | [_], _ => rfl) (fun vs H Q E h => ?_) (fun f cdv A outer s H vs Q E hr h => ?_)
  · obtain ⟨_, rfl, _⟩ := h
    rfl
  · have hu := hu_of hr
    have hu64 := hu64_of hr
    obtain ⟨v_row, rfl, h⟩ := h
    refine ⟨_, (pss_one (ps_ret (pe_op op_add (pe_ix ix_tup (pv 0) pe_int (fun _ _ => rfl)) (pe_callB call_len (by rfl) T.len (by decide +kernel) (pa_cons (pe_ix ix_tup (pv 0) pe_int (fun _ _ => rfl)) pa_nil))))), ?_⟩
    obtain ⟨p, b, st, vs, rfl, h1, h2, hQ⟩ := h
    exact ⟨_, rfl, _, _, _, _, rfl, rfl, h1, rfl, _, rfl, _, _, _, _, rfl, rfl, h1, rfl, _, _, rfl, len_tup h2, _, _, rfl, rfl, hQ⟩
theorem fr_zero (T : Tx K mg za na nb pt) (H : Hp) : Fr K H (.ref za) 0 := ⟨za, rfl, T.zeroT H⟩
def sp_at_place (K : PySem.W.Frag) : Sp := sp2 fun a b H Q => ∃ (f : LP) (k : Int), Row K H a f ∧ b = .int k ∧ ∀ v, Fr K H v (f k) → Q v H
abbrev N_at_place : List Str := ["row", "place"]
theorem sc_at_place : FnScope N_at_place ["row", "place"] (defScope BH.s_at_place) := ⟨rfl, rfl, rfl, by decide +kernel, rfl, by decide +kernel, by decide +kernel⟩
theorem w_at_place (T : Tx K mg za na nb pt) (D_ : Df K mg "at_place" BH.s_at_place) (c_end_of : Cl P w K mg base 1 "end_of" ["row"] (sp_end_of K)) : Cl P w K mg base 2 "at_place" ["row", "place"] (sp_at_place K) := by
  refine D_.ok sc_at_place (fun _ _ _ _ _ _ us hl => match us, hl with | [_, _], _ => rfl) (fun vs H Q E h => ?_) (fun f cdv A outer s H vs Q E hr h => ?_)
  · obtain ⟨_, _, rfl, _⟩ := h
    rfl
  · have hu := hu_of hr
    have hu64 := hu64_of hr
    obtain ⟨v_row, v_place, rfl, h⟩ := h
    refine ⟨_, (pss_one (ps_ret (pe_ifExp (pt_chain op_le op_lt (pe_ix ix_tup (pv 0) pe_int (fun _ _ => rfl)) (pv 1) (pe_cl c_end_of (hr.mono (by decide)) (by rfl) (pa_cons (pv 0) pa_nil))) (pe_ix ix_tup (pe_ix ix_tup (pv 0) pe_int (fun _ _ => rfl)) (pe_op op_sub (pv 1) (pe_ix ix_tup (pv 0) pe_int (fun _ _ => rfl))) (fun _ _ => rfl)) (pe_glob (v := .ref za) (by rfl) T.zero rfl)))), ?_⟩
    obtain ⟨f, k, ⟨p, b, st, vs, qs, rfl, h1, h2, hF, hR⟩, rfl, hQ⟩ := h
    have hl : vs.length = qs.length := hF.len
    by_cases hk : st ≤ k
    · refine ⟨_, rfl, _, _, _, _, rfl, rfl, h1, rfl, _, rfl, _, _, rfl, rfl, true, congrArg V.bl (decide_eq_true hk), iteT ?_⟩
      refine ⟨_, rfl, _, rfl, _, _, _, _, rfl, h1, h2, _, _, rfl, rfl, ?_⟩
      by_cases hk2 : k < st + (vs.length : Int)
      · refine ⟨true, congrArg V.bl (decide_eq_true hk2), iteT ?_⟩
        obtain ⟨a, ha, hT⟩ := hF.get (i := (k - st).toNat) (by omega)
        refine ⟨_, rfl, _, _, _, _, rfl, rfl, h1, rfl, _, rfl, _, rfl, _, _, _, _, rfl, rfl, h1, rfl, _, _, rfl, rfl, _, _, _, _, rfl, rfl, h2, at_of (by omega) ha, hQ _ ⟨a, rfl, ?_⟩⟩
        rw [hR.at, if_pos hk]
        exact hT
      · refine ⟨false, congrArg V.bl (decide_eq_false hk2), iteF (hQ _ ?_)⟩
        rw [hR.at, if_pos hk, getD_ge (by omega)]
        exact fr_zero T H
    · refine ⟨_, rfl, _, _, _, _, rfl, rfl, h1, rfl, _, rfl, _, _, rfl, rfl, false, congrArg V.bl (decide_eq_false hk), iteF ⟨false, rfl, iteF (hQ _ ?_)⟩⟩
      rw [hR.at, if_neg hk]
      exact fr_zero T H

end
end BW
namespace BW
open PySem PySem.Spec PyProof.Rows L2 BS
section
variable {P : Program} {w : World} {K : PySem.W.Frag} {mg : Str → Option Value} {base : Heap} {za na nb : Addr} {pt : Tok}
/-! ### rows beside the nought row -/
def frD (q : Rat) : PyData := .tuple [.int q.num, .int (q.den : Int)]
def rowD (st : Int) (qs : List Rat) : PyData := .tuple [.int st, .tuple (qs.map frD)]
def noughtD : PyData := .tuple [.int 0, .tuple []]
theorem fr_dp {H : Hp} {v : V} {q : Rat} (h : Fr K H v q) : Dp K H v (frD q) := by
  obtain ⟨a, rfl, h⟩ := h
  exact .tup h (.cons (.int _) (.cons (.int _) .nil))
theorem frl_dp {H : Hp} : ∀ {vs : List V} {qs : List Rat}, FrL K H vs qs → DpAll K H vs (qs.map frD)
  | _, _, .nil => .nil
  | _, _, .cons r t => .cons (fr_dp r) (frl_dp t)
theorem lay_frs : ∀ qs : List Rat, PyData.canLayAll0 (qs.map frD) = true
  | [] => rfl
  | q :: r => by
    show (PyData.canLay0 (frD q) && PyData.canLayAll0 (r.map frD)) = true
    rw [lay_frs r]
    rfl
theorem dep_frs : ∀ qs : List Rat, PyData.depthAll (qs.map frD) ≤ 1
  | [] => Nat.zero_le _
  | q :: r => by
    show max (PyData.depth (frD q)) (PyData.depthAll (r.map frD)) ≤ 1
    have := dep_frs r
    have h : PyData.depth (frD q) = 1 := rfl
    omega
theorem shaped_row (st : Int) (qs : List Rat) : SeqAt.shaped (rowD st qs) = true := by
  unfold SeqAt.shaped
  have h1 : PyData.canLay0 (rowD st qs) = true := by
    show (true && (PyData.canLayAll0 (qs.map frD) && true)) = true
    rw [lay_frs]
    rfl
  have h2 : PyData.depth (rowD st qs) ≤ 64 := by
    show max 0 (max (PyData.depthAll (qs.map frD) + 1) 0) + 1 ≤ 64
    have := dep_frs qs
    omega
  rw [h1, decide_eq_true h2]
  rfl
theorem shaped_nought : SeqAt.shaped noughtD = true := by decide +kernel
theorem nought_dp (T : Tx K mg za na nb pt) (H : Hp) : Dp K H (.ref na) noughtD := .tup (T.noughtT H) (.cons (.int 0) (.cons (.tup (T.noughtB H) .nil) .nil))
theorem eqv_nought {st : Int} {qs : List Rat} {f : LP} (h : RowOf st qs f) : (f = 0 → PyData.eqv (rowD st qs) noughtD = true) ∧ (f ≠ 0 → PyData.eqv (rowD st qs) noughtD = false) := by
  constructor
  · intro e
    have hq := h.nil.mpr e
    subst hq
    rw [h.start_of_nil]
    decide +kernel
  · intro e
    cases qs with
    | nil => exact absurd (h.nil.mp rfl) e
    | cons q r =>
      show ((st == 0) && (false && true)) = false
      cases st == 0 <;> rfl
/-- what a row is asked beside NOUGHT -/
theorem row_eq (T : Tx K mg za na nb pt) {H : Hp} {v : V} {f : LP} (h : Row K H v f) : ∃ d e, Dp K H v d ∧ Dp K H (.ref na) e ∧ SeqAt.shaped d = true ∧ SeqAt.shaped e = true ∧ (f = 0 → PyData.eqv d e = true) ∧ (f ≠ 0 → PyData.eqv d e = false) := by
  obtain ⟨a, b, st, vs, qs, rfl, h1, h2, h3, h4⟩ := h
  exact ⟨rowD st qs, noughtD, .tup h1 (.cons (.int st) (.cons (.tup h2 (frl_dp h3)) .nil)), nought_dp T H, shaped_row st qs, shaped_nought, eqv_nought h4⟩
theorem posL_range (lo : Int) (n : Nat) (F : LP) (h1 : ∀ k, k < lo → F k = 0) (h2 : ∀ k, lo + (n : Int) ≤ k → F k = 0) : LP.of (posL lo ((List.range n).map fun i : Nat => F (lo + (i : Int)))) = F := LP.ext fun k => by
  show coef (posL lo _) k = F k
  rw [coef_posL]
  by_cases hk : lo ≤ k
  · rw [if_pos hk, List.getD_eq_getElem?_getD, List.getElem?_map]
    by_cases hk2 : (k - lo).toNat < n
    · rw [List.getElem?_range hk2]
      show F (lo + (((k - lo).toNat : Nat) : Int)) = F k
      rw [show lo + (((k - lo).toNat : Nat) : Int) = k by omega]
    · rw [List.getElem?_eq_none (by rw [List.length_range]; omega), h2 k (by omega)]
      rfl
  · rw [if_neg hk, h1 k (by omega)]
theorem range_get {α : Type} {n : Nat} {g : Nat → α} {i : Nat} {y : α} (h : ((List.range n).map g)[i]? = some y) : i < n ∧ y = g i := by
  obtain ⟨h1, h2⟩ := List.getElem?_eq_some_iff.mp h
  rw [List.length_map, List.length_range] at h1
  rw [List.getElem_map, List.getElem_range] at h2
  exact ⟨h1, h2.symm⟩
theorem _root_.BS.RowOf.before {st : Int} {qs : List Rat} {f : LP} (h : RowOf st qs f) {k : Int} (hk : k < st) : f k = 0 := by rw [h.at, if_neg (by omega)]
theorem _root_.BS.RowOf.behind {st : Int} {qs : List Rat} {f : LP} (h : RowOf st qs f) {k : Int} (hk : st + (qs.length : Int) ≤ k) : f k = 0 := by
  rw [h.at]
  split
  · exact getD_ge (by omega)
  · rfl
def sp_row_sum (K : PySem.W.Frag) : Sp := sp2 fun a b H Q => ∃ f g : LP, Row K H a f ∧ Row K H b g ∧ Fits f ∧ Fits g ∧ Sup 10000 f ∧ Sup 10000 g ∧ Ret (fun v H' => Row K H' v (f + g)) H Q
abbrev N_row_sum : List Str := ["one", "two", "low", "high", "at"]
theorem sc_row_sum : FnScope N_row_sum ["one", "two"] (defScope BH.s_row_sum) := ⟨rfl, rfl, rfl, by decide +kernel, rfl, by decide +kernel, by decide +kernel⟩
theorem w_row_sum (T : Tx K mg za na nb pt) (D_ : Df K mg "row_sum" BH.s_row_sum) (c_at_place : Cl P w K mg base 2 "at_place" ["row", "place"] (sp_at_place K)) (c_end_of : Cl P w K mg base 1 "end_of" ["row"] (sp_end_of K)) (c_plus : Cl P w K mg base 3 "plus" ["one", "two"] (sp_plus K)) (c_row_by : Cl P w K mg base 1 "row_by" ["start", "numbers"] (sp_row_by K)) : Cl P w K mg base 4 "row_sum" ["one", "two"] (sp_row_sum K) := by
  refine D_.ok sc_row_sum (fun _ _ _ _ _ _ us hl => match us, hl with | [_, _], _ => rfl) (fun vs H Q E h => ?_) (fun f cdv A outer s H vs Q E hr h => ?_)
  · obtain ⟨_, _, rfl, _⟩ := h
    rfl
  · have hu := hu_of hr
    have hu64 := hu64_of hr
    obtain ⟨v_one, v_two, rfl, h⟩ := h
    refine ⟨_, (pss_cons (ps_if (PW.pt (pw_or (pt_cmpR (op_eqD hu64) (pv 0) (pe_glob (v := .ref na) (by rfl) T.nought rfl) (nomark _)) (pw_or1 (pt_cmpR (op_eqD hu64) (pv 1) (pe_glob (v := .ref na) (by rfl) T.nought rfl) (nomark _))))) (pss_one (ps_ret (pe_ifExp (pt_cmpR (op_eqD hu64) (pv 0) (pe_glob (v := .ref na) (by rfl) T.nought rfl) (nomark _)) (pv 1) (pv 0)))) pss_nil)
      (pss_cons (ps_par rfl sc_row_sum.nd (i := 2) (j := 3) rfl rfl (by decide) rfl rfl (pa_cons (pe_callB (call_min2 rfl) (by rfl) T.min (by decide +kernel) (pa_cons (pe_ix ix_tup (pv 0) pe_int (fun _ _ => rfl)) (pa_cons (pe_ix ix_tup (pv 1) pe_int (fun _ _ => rfl)) pa_nil))) (pa_cons (pe_callB (call_max2 rfl) (by rfl) T.max (by decide +kernel) (pa_cons (pe_cl c_end_of (hr.mono (by decide)) (by rfl) (pa_cons (pv 0) pa_nil)) (pa_cons (pe_cl c_end_of (hr.mono (by decide)) (by rfl) (pa_cons (pv 1) pa_nil)) pa_nil))) pa_nil)) (by rfl))
      (pss_one (ps_ret (pe_cl c_row_by (hr.mono (by decide)) (by rfl) (pa_cons (pv 2) (pa_cons (pe_lc (own := [("at", 4)]) (g := gName 4) rfl sc_row_sum.nd (pi_range2 (by rfl) T.range (pa_cons (pv 2) (pa_cons (pv 3) pa_nil))) (blkOk_by (own := [("at", 4)]) (N := N_row_sum) (sc := defScope BH.s_row_sum) (by decide +kernel)) (fun _ _ _ _ _ => pg_name (i := 4) sc_row_sum.nd rfl (Or.inl rfl)) (fun _ _ _ _ _ => pts_nil) (fun _ _ _ _ _ => (pe_cl c_plus (hr.mono (by decide)) (by rfl) (pa_cons (pe_cl c_at_place (hr.mono (by decide)) (by rfl) (pa_cons (pv 0) (pa_cons (pv 4) pa_nil))) (pa_cons (pe_cl c_at_place (hr.mono (by decide)) (by rfl) (pa_cons (pv 1) (pa_cons (pv 4) pa_nil))) pa_nil))))) pa_nil))))))), ?_⟩
    obtain ⟨f1, g1, R1, R2, F1, F2, S1, S2, hQ⟩ := h
    obtain ⟨d1, e1, p1, p2, p3, p4, p5, p6⟩ := row_eq T R1
    obtain ⟨d2, e2, q1, q2, q3, q4, q5, q6⟩ := row_eq T R2
    by_cases z1 : f1 = 0
    · refine ⟨_, rfl, d1, e1, p1, p2, p3, p4, true, congrArg V.bl (p5 z1), iteT (iteT ?_)⟩
      refine ⟨_, rfl, d1, e1, p1, p2, p3, p4, true, congrArg V.bl (p5 z1), iteT ⟨_, rfl, hQ _ _ (Same.refl _) ?_⟩⟩
      rw [z1, show (0 : LP) + g1 = g1 by grind]
      exact R2
    refine ⟨_, rfl, d1, e1, p1, p2, p3, p4, false, congrArg V.bl (p6 z1), iteF ?_⟩
    by_cases z2 : g1 = 0
    · refine ⟨_, rfl, d2, e2, q1, q2, q3, q4, true, congrArg V.bl (q5 z2), iteT ?_⟩
      refine ⟨_, rfl, d1, e1, p1, p2, p3, p4, false, congrArg V.bl (p6 z1), iteF ⟨_, rfl, hQ _ _ (Same.refl _) ?_⟩⟩
      rw [z2, show f1 + (0 : LP) = f1 by grind]
      exact R1
    refine ⟨_, rfl, d2, e2, q1, q2, q3, q4, false, congrArg V.bl (q6 z2), iteF ?_⟩
    obtain ⟨a1, b1, s1, vs1, qs1, rfl, t1, t2, t3, t4⟩ := id R1
    obtain ⟨a2, b2, s2, vs2, qs2, rfl, u1, u2, u3, u4⟩ := id R2
    have l1 := t3.len
    have l2 := u3.len
    obtain ⟨m1, m2, m3⟩ := Sup.row t4 S1
    obtain ⟨n1, n2, n3⟩ := Sup.row u4 S2
    refine ⟨_, rfl, _, _, _, _, rfl, rfl, t1, rfl, _, rfl, _, _, _, _, rfl, rfl, u1, rfl, _, _, rfl, _, rfl, _, rfl, _, _, _, _, rfl, t1, t2, _, rfl, _, rfl, _, _, _, _, rfl, u1, u2, _, _, rfl, _, _, rfl, ?_⟩
    generalize hlo : (if s2 < s1 then s2 else s1) = lo
    generalize hhi : (if s2 + (vs2.length : Int) > s1 + (vs1.length : Int) then s2 + (vs2.length : Int) else s1 + (vs1.length : Int)) = hi
    have hb : -40000 ≤ lo ∧ lo ≤ 40000 ∧ -40000 ≤ hi ∧ hi ≤ 40000 ∧ lo ≤ s1 ∧ lo ≤ s2 ∧ s1 + (vs1.length : Int) ≤ hi ∧ s2 + (vs2.length : Int) ≤ hi := by
      split at hlo <;> split at hhi <;> omega
    refine ⟨_, rfl, _, rfl, _, rfl, _, _, rfl, (by omega), fun D hD => ?_⟩
    refine lcm_range (n := (hi - lo).toNat) ((List.range (hi - lo).toNat).map fun i : Nat => (f1 + g1) (lo + (i : Int))) (fun H v y => Fr K H v y) (fun _ _ _ _ h e => h.si e) hD (by rw [List.length_map, List.length_range]) (by rw [List.length_map, List.length_range]; omega) (fun i y H2 hi hy e Q2 q => ?_) (fun H2 vs e hv hp => ?_)
    · obtain ⟨_, rfl⟩ := range_get hy
      refine ⟨_, rfl, _, rfl, _, _, rfl, f1, _, R1.mono e, rfl, fun v1 h1 => ⟨_, rfl, _, rfl, _, _, rfl, g1, _, R2.mono e, rfl, fun v2 h2 => ⟨_, _, rfl, _, _, h1, h2, F1 _, F2 _, fun v H' e' r => q v H' e' ?_⟩⟩⟩
      rw [LP.add_at]
      exact r
    · refine ⟨_, _, rfl, lo, D, vs, _, rfl, rfl, lst_at hv, hp, by rw [List.length_map, List.length_range]; omega, fun v H' e' r => hQ v H' (e.trans e') ?_⟩
      rw [posL_range] at r
      · exact r
      · intro k hk
        rw [LP.add_at, t4.before (by omega), u4.before (by omega)]
        exact Rat.add_zero 0
      · intro k hk
        rw [LP.add_at, t4.behind (by omega), u4.behind (by omega)]
        exact Rat.add_zero 0
theorem posL_map (st : Int) (qs : List Rat) (c : Rat) : LP.of (posL st (qs.map fun q => q * c)) = LP.mono c 0 * LP.of (posL st qs) := LP.ext fun k => by
  rw [LP.mono_mul_at, Int.sub_zero]
  show coef _ k = c * coef _ k
  rw [coef_posL, coef_posL]
  split
  · rw [List.getD_eq_getElem?_getD, List.getElem?_map, List.getD_eq_getElem?_getD]
    cases qs[(k - st).toNat]? with
    | none => exact (Rat.mul_zero c).symm
    | some q => exact Rat.mul_comm q c
  · exact (Rat.mul_zero c).symm
def sp_row_scaled (K : PySem.W.Frag) : Sp := sp2 fun a b H Q => ∃ (f : LP) (c : Rat), Row K H a f ∧ Fr K H b c ∧ Fits f ∧ Fit c ∧ Sup 10000 f ∧ Ret (fun v H' => Row K H' v (LP.mono c 0 * f)) H Q
abbrev N_row_scaled : List Str := ["row", "number", "each"]
theorem sc_row_scaled : FnScope N_row_scaled ["row", "number"] (defScope BH.s_row_scaled) := ⟨rfl, rfl, rfl, by decide +kernel, rfl, by decide +kernel, by decide +kernel⟩
theorem w_row_scaled (T : Tx K mg za na nb pt) (D_ : Df K mg "row_scaled" BH.s_row_scaled) (c_row_by : Cl P w K mg base 1 "row_by" ["start", "numbers"] (sp_row_by K)) (c_times : Cl P w K mg base 3 "times" ["one", "two"] (sp_times K)) : Cl P w K mg base 4 "row_scaled" ["row", "number"] (sp_row_scaled K) := by
  refine D_.ok sc_row_scaled (fun _ _ _ _ _ _ us hl => match us, hl with | [_, _], _ => rfl) (fun vs H Q E h => ?_) (fun f cdv A outer s H vs Q E hr h => ?_)
  · obtain ⟨_, _, rfl, _⟩ := h
    rfl
  · have hu := hu_of hr
    have hu64 := hu64_of hr
    obtain ⟨v_row, v_number, rfl, h⟩ := h
    refine ⟨_, (pss_one (ps_ret (pe_cl c_row_by (hr.mono (by decide)) (by rfl) (pa_cons (pe_ix ix_tup (pv 0) pe_int (fun _ _ => rfl)) (pa_cons (pe_lc (own := [("each", 2)]) (g := gName 2) rfl sc_row_scaled.nd (pi_tup (pe_ix ix_tup (pv 0) pe_int (fun _ _ => rfl))) (blkOk_by (own := [("each", 2)]) (N := N_row_scaled) (sc := defScope BH.s_row_scaled) (by decide +kernel)) (fun _ _ _ _ _ => pg_name (i := 2) sc_row_scaled.nd rfl (Or.inl rfl)) (fun _ _ _ _ _ => pts_nil) (fun _ _ _ _ _ => (pe_cl c_times (hr.mono (by decide)) (by rfl) (pa_cons (pv 2) (pa_cons (pv 1) pa_nil))))) pa_nil))))), ?_⟩
    obtain ⟨f1, c, R1, hc, F1, Fc, S1, hQ⟩ := h
    obtain ⟨a1, b1, s1, vs1, qs1, rfl, t1, t2, t3, t4⟩ := id R1
    obtain ⟨m1, m2, m3⟩ := Sup.row t4 S1
    have l1 := t3.len
    refine ⟨_, rfl, _, _, _, _, rfl, rfl, t1, rfl, _, rfl, _, _, _, _, rfl, rfl, t1, rfl, _, rfl, ⟨_, t2⟩, fun D hD => ?_⟩
    refine lcm_tup (qs1.map fun q => q * c) (fun H v y => Fr K H v y) (fun _ _ _ _ h e => h.si e) hD t2 (by rw [List.length_map, l1]) (by rw [List.length_map]; omega) (fun i x y H2 hx hy e Q2 q => ?_) (fun H2 vs e hv hp => ?_)
    · obtain ⟨q0, hq0, hF⟩ := pr_get t3 hx
      rw [List.getElem?_map, hq0] at hy
      cases hy
      have hfit : Fit q0 := by
        have := F1 (s1 + (i : Int))
        rw [← t4.2] at this
        have e2 : coef (posL s1 qs1) (s1 + (i : Int)) = q0 := by
          rw [posL_at, List.getD_eq_getElem?_getD, hq0]
          rfl
        rw [← e2]
        exact this
      exact ⟨_, rfl, _, rfl, _, _, rfl, _, _, hF.mono e, hc.mono e, hfit, Fc, q⟩
    · refine ⟨_, _, rfl, s1, D, vs, _, rfl, rfl, lst_at hv, hp, by rw [List.length_map]; omega, fun v H' e' r => hQ v H' (e.trans e') ?_⟩
      rw [posL_map, t4.2] at r
      exact r
theorem fit_neg1 : Fit (-1) := ⟨Nat.one_le_two_pow, Nat.one_le_two_pow⟩
theorem fit_one : Fit 1 := ⟨Nat.one_le_two_pow, Nat.one_le_two_pow⟩
theorem fits_neg {f : LP} (h : Fits f) : Fits (LP.mono (-1) 0 * f) := fun k => by
  rw [LP.mono_mul_at, Int.sub_zero, Rat.neg_mul, Rat.one_mul]
  refine ⟨?_, (h k).2⟩
  rw [Rat.neg_num, Int.natAbs_neg]
  exact (h k).1
theorem mono_neg1 (f : LP) : LP.mono (-1) 0 * f = -f := LP.ext fun k => by
  rw [LP.mono_mul_at, Int.sub_zero, Rat.neg_mul, Rat.one_mul, LP.neg_at]
def sp_row_less (K : PySem.W.Frag) : Sp := sp2 fun a b H Q => ∃ f g : LP, Row K H a f ∧ Row K H b g ∧ Fits f ∧ Fits g ∧ Sup 10000 f ∧ Sup 10000 g ∧ Ret (fun v H' => Row K H' v (f - g)) H Q
abbrev N_row_less : List Str := ["one", "two"]
theorem sc_row_less : FnScope N_row_less ["one", "two"] (defScope BH.s_row_less) := ⟨rfl, rfl, rfl, by decide +kernel, rfl, by decide +kernel, by decide +kernel⟩
theorem w_row_less (T : Tx K mg za na nb pt) (D_ : Df K mg "row_less" BH.s_row_less) (c_row_scaled : Cl P w K mg base 4 "row_scaled" ["row", "number"] (sp_row_scaled K)) (c_row_sum : Cl P w K mg base 4 "row_sum" ["one", "two"] (sp_row_sum K)) : Cl P w K mg base 5 "row_less" ["one", "two"] (sp_row_less K) := by
  refine D_.ok sc_row_less (fun _ _ _ _ _ _ us hl => match us, hl with | [_, _], _ => rfl) (fun vs H Q E h => ?_) (fun f cdv A outer s H vs Q E hr h => ?_)
  · obtain ⟨_, _, rfl, _⟩ := h
    rfl
  · have hu := hu_of hr
    have hu64 := hu64_of hr
    obtain ⟨v_one, v_two, rfl, h⟩ := h
    refine ⟨_, (pss_one (ps_ret (pe_cl c_row_sum (hr.mono (by decide)) (by rfl) (pa_cons (pv 0) (pa_cons (pe_cl c_row_scaled (hr.mono (by decide)) (by rfl) (pa_cons (pv 1) (pa_cons (pe_tup (pa_cons (pe_un un_neg pe_int) (pa_cons pe_int pa_nil))) pa_nil))) pa_nil))))), ?_⟩
    obtain ⟨f1, g1, R1, R2, F1, F2, S1, S2, hQ⟩ := h
    refine ⟨_, rfl, _, rfl, _, rfl, sm2, fun p hp => ?_⟩
    have e1 : Same H (upd H p (.tup [.int (-1), .int 1])) := same_new hp
    refine ⟨_, _, rfl, g1, -1, R2.mono e1, ⟨p, rfl, tup_new⟩, F2, fit_neg1, S2, fun v2 H2 e2 r2 => ?_⟩
    rw [mono_neg1] at r2
    refine ⟨_, _, rfl, f1, -g1, R1.mono (e1.trans e2), r2, F1, ?_, S1, S2.neg, fun v H' e' r => hQ v H' ((e1.trans e2).trans e') r⟩
    rw [← mono_neg1]
    exact fits_neg F2
theorem row_shift_of {st : Int} {qs : List Rat} {f : LP} (h : RowOf st qs f) (hn : f ≠ 0) (d : Int) : RowOf (st + d) qs (LP.mono 1 d * f) := by
  constructor
  · rcases h.1 with ⟨h1, _⟩ | h1
    · exact absurd (h.nil.mp h1) hn
    · exact .inr h1
  · refine LP.ext fun k => ?_
    rw [LP.mono_mul_at, Rat.one_mul, h.at]
    show coef _ k = _
    rw [coef_posL]
    by_cases z : st + d ≤ k
    · rw [if_pos z, if_pos (by omega)]
      congr 1
      omega
    · rw [if_neg z, if_neg (by omega)]
def sp_row_shift (K : PySem.W.Frag) : Sp := sp2 fun a b H Q => ∃ (f : LP) (d : Int), Row K H a f ∧ b = .int d ∧ Ret (fun v H' => Row K H' v (LP.mono 1 d * f)) H Q
abbrev N_row_shift : List Str := ["row", "places"]
theorem sc_row_shift : FnScope N_row_shift ["row", "places"] (defScope BH.s_row_shift) := ⟨rfl, rfl, rfl, by decide +kernel, rfl, by decide +kernel, by decide +kernel⟩
theorem w_row_shift (T : Tx K mg za na nb pt) (D_ : Df K mg "row_shift" BH.s_row_shift)  : Cl P w K mg base 1 "row_shift" ["row", "places"] (sp_row_shift K) := by
  refine D_.ok sc_row_shift (fun _ _ _ _ _ _ us hl => match us, hl with | [_, _], _ => rfl) (fun vs H Q E h => ?_) (fun f cdv A outer s H vs Q E hr h => ?_)
  · obtain ⟨_, _, rfl, _⟩ := h
    rfl
  · have hu := hu_of hr
    have hu64 := hu64_of hr
    obtain ⟨v_row, v_places, rfl, h⟩ := h
    refine ⟨_, (pss_one (ps_ret (pe_ifExp (pt_cmpR (op_neD hu64) (pv 0) (pe_glob (v := .ref na) (by rfl) T.nought rfl) (nomark _)) (pe_tup (pa_cons (pe_op op_add (pe_ix ix_tup (pv 0) pe_int (fun _ _ => rfl)) (pv 1)) (pa_cons (pe_ix ix_tup (pv 0) pe_int (fun _ _ => rfl)) pa_nil))) (pe_glob (v := .ref na) (by rfl) T.nought rfl)))), ?_⟩
    obtain ⟨f1, d, R1, rfl, hQ⟩ := h
    obtain ⟨d1, e1, p1, p2, p3, p4, p5, p6⟩ := row_eq T R1
    by_cases z1 : f1 = 0
    · refine ⟨_, rfl, d1, e1, p1, p2, p3, p4, false, congrArg V.bl (by rw [p5 z1]; rfl), iteF (hQ _ _ (Same.refl _) ⟨na, nb, 0, [], [], rfl, T.noughtT _, T.noughtB _, .nil, ?_⟩)⟩
      rw [z1, show LP.mono 1 d * (0 : LP) = 0 by grind]
      exact RowOf.zero
    · obtain ⟨a1, b1, s1, vs1, qs1, rfl, t1, t2, t3, t4⟩ := id R1
      refine ⟨_, rfl, d1, e1, p1, p2, p3, p4, true, congrArg V.bl (by rw [p6 z1]; rfl), iteT ?_⟩
      refine ⟨_, rfl, _, _, _, _, rfl, rfl, t1, rfl, _, rfl, _, _, rfl, rfl, _, rfl, _, _, _, _, rfl, rfl, t1, rfl, sm2, fun p hp => ?_⟩
      exact hQ _ _ (same_new hp) ⟨p, b1, _, vs1, qs1, rfl, tup_new, same_t (same_new hp) t2, t3.mono (same_new hp), row_shift_of t4 z1 d⟩

end
end BW
namespace BW
open PySem PySem.Spec PyProof.Rows L2 BS
section
variable {P : Program} {w : World} {K : PySem.W.Frag} {mg : Str → Option Value} {base : Heap} {za na nb : Addr} {pt : Tok}
/-! ### products of rows -/
theorem posL_len : ∀ (s : Int) (qs : List Rat), (posL s qs).length = qs.length
  | _, [] => rfl
  | s, q :: r => by
    show (posL (s + 1) r).length + 1 = r.length + 1
    rw [posL_len (s + 1) r]
theorem posL_get : ∀ (s : Int) (qs : List Rat) (i : Nat) (q : Rat), qs[i]? = some q → (posL s qs)[i]? = some (s + (i : Int), q)
  | _, [], i, q, h => by simp at h
  | s, x :: r, 0, q, h => by
    have e : x = q := Option.some.inj h
    show some (s, x) = some (s + ((0 : Nat) : Int), q)
    rw [e, show s + ((0 : Nat) : Int) = s by omega]
  | s, x :: r, i + 1, q, h => by
    show (posL (s + 1) r)[i]? = _
    rw [posL_get (s + 1) r i q h, show s + 1 + (i : Int) = s + ((i + 1 : Nat) : Int) by omega]
theorem posL_mem {s : Int} {qs : List Rat} {x : Int × Rat} (h : x ∈ posL s qs) : s ≤ x.1 ∧ x.1 < s + (qs.length : Int) := by
  have : x.1 ∈ (posL s qs).map (·.1) := List.mem_map_of_mem h
  rw [posL_keys] at this
  obtain ⟨i, hi, e⟩ := List.mem_map.mp this
  have := List.mem_range.mp hi
  omega
theorem prod_outside {s1 s2 k : Int} {qs1 qs2 : List Rat} (h1 : 0 < qs1.length) (h2 : 0 < qs2.length) (h : k < s1 + s2 ∨ s1 + s2 + ((qs1.length + qs2.length - 1 : Nat) : Int) ≤ k) : coef (mulL (posL s1 qs1) (posL s2 qs2)) k = 0 := by
  rw [coef_mulL]
  refine dot_zero_of _ _ fun x hx => ?_
  have hm := posL_mem hx
  rw [coef_posL]
  split
  · exact getD_ge (by omega)
  · rfl
/-- what is gone through behind i turns outside and j inside -/
def got (A B : Pol) (i j : Nat) (a : Int × Rat) : Pol := mulL (A.take i) B ++ (B.take j).map fun b => (a.1 + b.1, a.2 * b.2)
theorem got_zero (A B : Pol) (i : Nat) (a : Int × Rat) : got A B i 0 a = mulL (A.take i) B := by
  unfold got
  rw [List.take_zero, List.map_nil, List.append_nil]
theorem got_all {A B : Pol} {i : Nat} {a : Int × Rat} (h : A[i]? = some a) : got A B i B.length a = mulL (A.take (i + 1)) B := by
  unfold got mulL
  rw [List.take_length, List.take_add_one, h, List.flatMap_append]
  congr 1
  show _ = (B.map fun b => (a.1 + b.1, a.2 * b.2)) ++ []
  rw [List.append_nil]
theorem got_succ {A B : Pol} {i j : Nat} {a b : Int × Rat} (h : B[j]? = some b) : got A B i (j + 1) a = got A B i j a ++ [(a.1 + b.1, a.2 * b.2)] := by
  unfold got
  rw [List.take_add_one, h, List.map_append, List.append_assoc]
  rfl
theorem got_part {A B : Pol} {i j : Nat} {a : Int × Rat} (h : A[i]? = some a) : ∃ C, mulL A B = got A B i j a ++ C := by
  obtain ⟨h1, h2⟩ := List.getElem?_eq_some_iff.mp h
  refine ⟨(B.drop j).map (fun b => (a.1 + b.1, a.2 * b.2)) ++ mulL (A.drop (i + 1)) B, ?_⟩
  have e1 : mulL A B = mulL (A.take i) B ++ mulL (A.drop i) B := by
    unfold mulL
    rw [← List.flatMap_append, List.take_append_drop]
  have e2 : mulL (A.drop i) B = (B.map fun b => (a.1 + b.1, a.2 * b.2)) ++ mulL (A.drop (i + 1)) B := by
    rw [List.drop_eq_getElem_cons h1, h2]
    rfl
  have e3 : (B.map fun b => (a.1 + b.1, a.2 * b.2)) = (B.take j).map (fun b => (a.1 + b.1, a.2 * b.2)) ++ (B.drop j).map fun b => (a.1 + b.1, a.2 * b.2) := by
    rw [← List.map_append, List.take_append_drop]
  rw [e1, e2, e3]
  unfold got
  simp only [List.append_assoc]
/-- the numbers of a formal sum at n places from lo on -/
def tab (lo : Int) (n : Nat) (L : Pol) : List Rat := (List.range n).map fun c : Nat => coef L (lo + (c : Int))
theorem tab_len (lo : Int) (n : Nat) (L : Pol) : (tab lo n L).length = n := by
  unfold tab
  rw [List.length_map, List.length_range]
theorem tab_get {lo : Int} {n : Nat} {L : Pol} {c : Nat} (h : c < n) : (tab lo n L)[c]? = some (coef L (lo + (c : Int))) := by
  unfold tab
  rw [List.getElem?_map, List.getElem?_range h]
  rfl
theorem tab_snoc {lo : Int} {n : Nat} {L : Pol} {c : Nat} {q : Rat} : tab lo n (L ++ [(lo + (c : Int), q)]) = (tab lo n L).set c (coef L (lo + (c : Int)) + q) := by
  refine List.ext_getElem? fun d => ?_
  by_cases hd : d < n
  · rw [tab_get hd, coef_append, coef_cons, coef_nil, Rat.add_zero]
    by_cases e : c = d
    · subst e
      rw [if_pos rfl, List.getElem?_set_self (by rw [tab_len]; exact hd)]
    · rw [if_neg (by omega), Rat.add_zero, List.getElem?_set_ne e, tab_get hd]
  · rw [List.getElem?_eq_none (by rw [tab_len]; omega), List.getElem?_eq_none (by rw [List.length_set, tab_len]; omega)]
theorem tab_nil (lo : Int) (n : Nat) : tab lo n [] = List.replicate n 0 := by
  refine List.ext_getElem? fun d => ?_
  by_cases hd : d < n
  · rw [tab_get hd, List.getElem?_replicate, if_pos hd]
    rfl
  · rw [List.getElem?_eq_none (by rw [tab_len]; omega), List.getElem?_eq_none (by rw [List.length_replicate]; omega)]
theorem flat_rep {α : Type} (x : α) : ∀ n : Nat, (List.replicate n [x]).flatten = List.replicate n x
  | 0 => rfl
  | n + 1 => by
    rw [List.replicate_succ, List.flatten_cons, flat_rep x n]
    rfl
theorem nx_of_nat {n k : Nat} (h : k < n) {z : Int} (e : z = (k : Int)) : ixN n z = some k := by
  unfold ixN
  rw [e, if_pos (by omega), if_pos (by omega), Int.toNat_natCast]
def sp_row_product (K : PySem.W.Frag) : Sp := sp2 fun a b H Q => ∃ (f g : LP) (D E m n : Nat), Row K H a f ∧ Row K H b g ∧ Sz D m f ∧ Sz E n g ∧ D * E ≤ big ∧ 2 ^ (m + n) ≤ big ∧ Sup 10000 f ∧ Sup 10000 g ∧ Ret (fun v H' => Row K H' v (f * g)) H Q
abbrev N_row_product : List Str := ["one", "two", "found", "at", "mine", "place", "its"]
theorem sc_row_product : FnScope N_row_product ["one", "two"] (defScope BH.s_row_product) := ⟨rfl, rfl, rfl, by decide +kernel, rfl, by decide +kernel, by decide +kernel⟩
theorem w_row_product (T : Tx K mg za na nb pt) (D_ : Df K mg "row_product" BH.s_row_product) (c_plus : Cl P w K mg base 3 "plus" ["one", "two"] (sp_plus K)) (c_row_by : Cl P w K mg base 1 "row_by" ["start", "numbers"] (sp_row_by K)) (c_times : Cl P w K mg base 3 "times" ["one", "two"] (sp_times K)) : Cl P w K mg base 4 "row_product" ["one", "two"] (sp_row_product K) := by
  refine D_.ok sc_row_product (fun _ _ _ _ _ _ us hl => match us, hl with | [_, _], _ => rfl) (fun vs H Q E h => ?_) (fun f cdv A outer s H vs Q E hr h => ?_)
  · obtain ⟨_, _, rfl, _⟩ := h
    rfl
  · have hu := hu_of hr
    have hu64 := hu64_of hr
    obtain ⟨v_one, v_two, rfl, h⟩ := h
    refine ⟨_, (pss_cons (ps_if (PW.pt (pw_or (pt_cmpR (op_eqD hu64) (pv 0) (pe_glob (v := .ref na) (by rfl) T.nought rfl) (nomark _)) (pw_or1 (pt_cmpR (op_eqD hu64) (pv 1) (pe_glob (v := .ref na) (by rfl) T.nought rfl) (nomark _))))) (pss_one (ps_ret (pe_glob (v := .ref na) (by rfl) T.nought rfl))) pss_nil)
      (pss_cons (ps_set (i := 2) sc_row_product.nd rfl (.inl rfl) (pe_op op_rep (pe_lst (pa_cons (pe_glob (v := .ref za) (by rfl) T.zero rfl) pa_nil)) (pe_op op_sub (pe_op op_add (pe_callB call_len (by rfl) T.len (by decide +kernel) (pa_cons (pe_ix ix_tup (pv 0) pe_int (fun _ _ => rfl)) pa_nil)) (pe_callB call_len (by rfl) T.len (by decide +kernel) (pa_cons (pe_ix ix_tup (pv 1) pe_int (fun _ _ => rfl)) pa_nil))) pe_int)))
      (pss_cons (ps_for PassesOwn.never rfl (pi_enumT (by rfl) T.enumerate (pa_cons (pe_ix ix_tup (pv 0) pe_int (fun _ _ => rfl)) pa_nil)) (pg_tup rfl (pgs_cons (pg_name (i := 3) sc_row_product.nd rfl (.inl rfl)) (pgs_cons (pg_name (i := 4) sc_row_product.nd rfl (.inl rfl)) pgs_nil))) (pss_one (ps_for PassesOwn.never rfl (pi_enumT (by rfl) T.enumerate (pa_cons (pe_ix ix_tup (pv 1) pe_int (fun _ _ => rfl)) pa_nil)) (pg_tup rfl (pgs_cons (pg_name (i := 5) sc_row_product.nd rfl (.inl rfl)) (pgs_cons (pg_name (i := 6) sc_row_product.nd rfl (.inl rfl)) pgs_nil))) (pss_one (ps_asg (pe_cl c_plus (hr.mono (by decide)) (by rfl) (pa_cons (pe_ix ix_list (pv 2) (pe_op op_add (pv 3) (pv 5)) (fun _ _ => rfl)) (pa_cons (pe_cl c_times (hr.mono (by decide)) (by rfl) (pa_cons (pv 4) (pa_cons (pv 6) pa_nil))) pa_nil))) (pg_sub (pv 2) (pe_op op_add (pv 3) (pv 5)) set_list))))))
      (pss_one (ps_ret (pe_cl c_row_by (hr.mono (by decide)) (by rfl) (pa_cons (pe_op op_add (pe_ix ix_tup (pv 0) pe_int (fun _ _ => rfl)) (pe_ix ix_tup (pv 1) pe_int (fun _ _ => rfl))) (pa_cons (pv 2) pa_nil)))))))), ?_⟩
    obtain ⟨f1, g1, D1, E1, m1, n1, R1, R2, Z1, Z2, hDE, hmn, S1, S2, hQ⟩ := h
    obtain ⟨d1, e1, p1, p2, p3, p4, p5, p6⟩ := row_eq T R1
    obtain ⟨d2, e2, q1, q2, q3, q4, q5, q6⟩ := row_eq T R2
    have nil : ∀ H2, Same H H2 → f1 * g1 = 0 → Q (.ref na) H2 := fun H2 e z => hQ _ _ e ⟨na, nb, 0, [], [], rfl, T.noughtT _, T.noughtB _, .nil, by rw [z]; exact RowOf.zero⟩
    by_cases z1 : f1 = 0
    · exact ⟨_, rfl, d1, e1, p1, p2, p3, p4, true, congrArg V.bl (p5 z1), iteT (iteT (nil _ (Same.refl _) (by rw [z1]; grind)))⟩
    refine ⟨_, rfl, d1, e1, p1, p2, p3, p4, false, congrArg V.bl (p6 z1), iteF ?_⟩
    by_cases z2 : g1 = 0
    · exact ⟨_, rfl, d2, e2, q1, q2, q3, q4, true, congrArg V.bl (q5 z2), iteT (nil _ (Same.refl _) (by rw [z2]; grind))⟩
    refine ⟨_, rfl, d2, e2, q1, q2, q3, q4, false, congrArg V.bl (q6 z2), iteF ?_⟩
    obtain ⟨a1, b1, s1, vs1, qs1, rfl, t1, t2, t3, t4⟩ := id R1
    obtain ⟨a2, b2, s2, vs2, qs2, rfl, u1, u2, u3, u4⟩ := id R2
    have l1 := t3.len
    have l2 := u3.len
    obtain ⟨_, m2, _⟩ := Sup.row t4 S1
    obtain ⟨_, n2, _⟩ := Sup.row u4 S2
    have c1 : 0 < qs1.length := List.length_pos_iff.mpr fun z => z1 (t4.nil.mp z)
    have c2 : 0 < qs2.length := List.length_pos_iff.mpr fun z => z2 (u4.nil.mp z)
    have B1 := Z1.can (posL_nodup s1 qs1) t4.2
    have B2 := Z2.can (posL_nodup s2 qs2) u4.2
    have B12 : BL (D1 * E1) (2 ^ (m1 + n1)) (mulL (posL s1 qs1) (posL s2 qs2)) := by
      rw [Nat.pow_add]
      exact B1.mul B2
    have hD1 : 1 ≤ D1 := Z1.1
    have hE1 : 1 ≤ E1 := Z2.1
    have hDb : D1 ≤ big := Nat.le_trans (Nat.le_mul_of_pos_right _ hE1) hDE
    have hEb : E1 ≤ big := Nat.le_trans (Nat.le_mul_of_pos_left _ hD1) hDE
    have hmb : 2 ^ m1 ≤ big := Nat.le_trans (Nat.pow_le_pow_right (by decide) (by omega)) hmn
    have hnb : 2 ^ n1 ≤ big := Nat.le_trans (Nat.pow_le_pow_right (by decide) (by omega)) hmn
    -- found = [ZERO] * (..)
    refine ⟨sm1, fun p0 hp0 => ?_⟩
    have x0 : Same H (upd H p0 (.lst [.ref za])) := same_new hp0
    refine ⟨_, rfl, _, _, _, _, rfl, rfl, same_t x0 t1, rfl, _, _, rfl, len_tup (same_t x0 t2), _, rfl, _, _, _, _, rfl, rfl, same_t x0 u1, rfl, _, _, rfl, len_tup (same_t x0 u2), _, _, rfl, rfl, _, _, rfl, rfl, p0, _, _, rfl, rfl, upd_same, (by omega), (by omega), ?_, fun l hl => ?_⟩
    · show 1 * _ ≤ _
      exact small5 (by omega)
    generalize hn : qs1.length + qs2.length - 1 = n
    have en : ((vs1.length : Int) + (vs2.length : Int) - 1).toNat = n := by omega
    have hl0 : H l = none := x0.free hl
    have x1 : Same H (upd (upd H p0 (.lst [.ref za])) l (.lst (List.replicate ((vs1.length : Int) + (vs2.length : Int) - 1).toNat [V.ref za]).flatten)) := x0.trans (same_new hl)
    rw [en, flat_rep] at x1 ⊢
    refine ⟨_, rfl, _, _, _, _, rfl, rfl, same_t x1 t1, rfl, b1, vs1, rfl, same_t x1 t2, for_enumT (K := K) (a := b1) (xs := vs1) (fun i σ' H' => Same H H' ∧ ∃ z3 z4 z5 z6 cs, σ' = [some (.ref a1), some (.ref a2), some (.ref l), z3, z4, z5, z6] ∧ H' l = some (.lst cs) ∧ FrL K H' cs (tab (s1 + s2) n (mulL ((posL s1 qs1).take i) (posL s2 qs2)))) ⟨x1, none, none, none, none, _, rfl, upd_same, ?_⟩ (fun i σ' H' _ ⟨e, _⟩ => same_t e t2) ?_ ?_⟩
    · show FrL K _ _ (tab _ _ [])
      rw [tab_nil]
      exact pr_rep (fr_zero T _) n
    · rintro i x σ' H' T1 hx ⟨e, z3, z4, z5, z6, cs, rfl, hcs, hF⟩ hT1
      obtain ⟨q1, hq1, hFq⟩ := pr_get t3 hx
      have hA : (posL s1 qs1)[i]? = some (s1 + (i : Int), q1) := posL_get s1 qs1 i q1 hq1
      have y0 : Same H' (upd H' T1 (.tup [.int (i : Nat), x])) := same_new hT1
      refine ⟨_, _, rfl, tup_new, rfl, _, _, rfl, _, _, rfl, rfl, ?_⟩
      refine ⟨_, rfl, _, _, _, _, rfl, rfl, same_t (e.trans y0) u1, rfl, b2, vs2, rfl, same_t (e.trans y0) u2, for_enumT (K := K) (a := b2) (xs := vs2) (fun j σ' H2 => Same H H2 ∧ ∃ z5 z6 cs, σ' = [some (.ref a1), some (.ref a2), some (.ref l), some (.int (i : Nat)), some x, z5, z6] ∧ H2 l = some (.lst cs) ∧ FrL K H2 cs (tab (s1 + s2) n (got (posL s1 qs1) (posL s2 qs2) i j (s1 + (i : Int), q1)))) ⟨e.trans y0, z5, z6, cs, rfl, y0 _ _ hcs, ?_⟩ (fun j σ' H2 _ ⟨e, _⟩ => same_t e u2) ?_ ?_⟩
      · rw [got_zero]
        exact hF.mono y0
      · rintro j y σ' H2 T2 hy ⟨e2, z5, z6, cs, rfl, hcs, hF⟩ hT2
        obtain ⟨q2, hq2, hFq2⟩ := pr_get u3 hy
        have hB : (posL s2 qs2)[j]? = some (s2 + (j : Int), q2) := posL_get s2 qs2 j q2 hq2
        have i1 := (List.getElem?_eq_some_iff.mp hq1).1
        have j1 := (List.getElem?_eq_some_iff.mp hq2).1
        have hc : i + j < n := by omega
        obtain ⟨C, hC⟩ := got_part (A := posL s1 qs1) (B := posL s2 qs2) (i := i) (j := j + 1) hA
        have BT : BL (D1 * E1) (2 ^ (m1 + n1)) (got (posL s1 qs1) (posL s2 qs2) i (j + 1) (s1 + (i : Int), q1)) := BL.left (by rw [← hC]; exact B12)
        rw [got_succ hB] at BT
        have fT : Fit (coef (got (posL s1 qs1) (posL s2 qs2) i j (s1 + (i : Int), q1)) (s1 + s2 + ((i + j : Nat) : Int))) := fit_of (BT.left.coef _) (Nat.mul_pos hD1 hE1) hDE hmn
        have fm : Fit (q1 * q2) := fit_of (BT.mem (x := (s1 + (i : Int) + (s2 + (j : Int)), q1 * q2)) (List.mem_append_right _ List.mem_cons_self)) (Nat.mul_pos hD1 hE1) hDE hmn
        have f1' : Fit q1 := fit_of (B1.mem (x := (s1 + (i : Int), q1)) (List.mem_of_getElem? hA)) hD1 hDb hmb
        have f2' : Fit q2 := fit_of (B2.mem (x := (s2 + (j : Int), q2)) (List.mem_of_getElem? hB)) hE1 hEb hnb
        have y2 : Same H2 (upd H2 T2 (.tup [.int (j : Nat), y])) := same_new hT2
        obtain ⟨v0, hv0, hFv⟩ := pr_get2 hF (tab_get hc)
        have hcl : cs.length = n := by rw [hF.len, tab_len]
        refine ⟨_, _, rfl, tup_new, rfl, _, _, rfl, _, _, rfl, rfl, ?_⟩
        refine ⟨_, rfl, _, rfl, _, rfl, _, _, rfl, rfl, _, _, _, _, rfl, rfl, lst_at (y2 _ _ hcs), at_of (by omega) hv0, _, rfl, _, rfl, _, _, rfl, _, _, hFq.mono (e2.trans y2), hFq2.mono (e2.trans y2), f1', f2', fun v1 H3 e3 r1 => ?_⟩
        refine ⟨_, _, rfl, _, _, hFv.mono (y2.trans e3), r1, fT, fm, fun v2 H4 e4 r2 => ?_⟩
        have hcs4 : H4 l = some (.lst cs) := e4 _ _ (e3 _ _ (y2 _ _ hcs))
        refine ⟨_, rfl, _, rfl, _, rfl, _, _, rfl, rfl, l, cs, _, i + j, rfl, rfl, hcs4, nx_of_nat (by omega) (by omega), ?_⟩
        have s5 : SI H4 (upd H4 l (.lst (cs.set (i + j) v2))) := si_set hcs4
        refine ⟨same_mut (e2.trans (y2.trans (e3.trans e4))) hl0, _, _, _, rfl, upd_same, ?_⟩
        rw [got_succ hB, show s1 + (i : Int) + (s2 + (j : Int)) = s1 + s2 + ((i + j : Nat) : Int) by omega]
        show FrL K _ _ (tab _ _ (_ ++ [(_, q1 * q2)]))
        rw [tab_snoc]
        exact FrL.si (pr_set _ r2 (hF.mono (y2.trans (e3.trans e4)))) s5
      · rintro σ' H2 ⟨e2, z5, z6, cs, rfl, hcs, hF⟩
        refine ⟨e2, _, _, _, _, cs, rfl, hcs, ?_⟩
        rw [← got_all hA, posL_len, ← l2]
        exact hF
    · rintro σ' H' ⟨e, z3, z4, z5, z6, cs, rfl, hcs, hF⟩
      refine ⟨_, rfl, _, _, _, _, rfl, rfl, same_t e t1, rfl, _, rfl, _, _, _, _, rfl, rfl, same_t e u1, rfl, _, _, rfl, rfl, _, rfl, _, _, rfl, s1 + s2, l, cs, _, rfl, rfl, lst_at hcs, hF, by rw [tab_len]; omega, fun v H2 e2 r => hQ v H2 (e.trans e2) ?_⟩
      rw [l1, ← posL_len s1 qs1, List.take_length] at r
      have key := posL_range (s1 + s2) n (LP.of (mulL (posL s1 qs1) (posL s2 qs2))) (fun k hk => prod_outside c1 c2 (.inl hk)) (fun k hk => prod_outside c1 c2 (.inr (by omega)))
      have key2 : LP.of (posL (s1 + s2) (tab (s1 + s2) n (mulL (posL s1 qs1) (posL s2 qs2)))) = f1 * g1 := Eq.trans key (by rw [LP.of_mulL, t4.2, u4.2])
      rw [key2] at r
      exact r

theorem part_math {st : Int} {qs : List Rat} {f : LP} (h : RowOf st qs f) (first : Int) (hf : first = 0 ∨ first = 1) (F : LP) (hF : ∀ k, F k = f (2 * k + first)) :
    LP.of (posL ((st - first + 1) / 2) ((List.range ((st + (qs.length : Int) - first + 1) / 2 - (st - first + 1) / 2).toNat).map fun i : Nat => F ((st - first + 1) / 2 + (i : Int)))) = F := by
  refine posL_range _ _ F (fun k hk => ?_) (fun k hk => ?_)
  · rw [hF]
    exact h.before (by omega)
  · rw [hF]
    exact h.behind (by omega)
def sp_part_from (K : PySem.W.Frag) : Sp := sp2 fun a b H Q => ∃ (f F : LP) (i : Int), Row K H a f ∧ b = .int i ∧ (i = 0 ∨ i = 1) ∧ (∀ k, F k = f (2 * k + i)) ∧ Sup 10000 f ∧ Ret (fun v H' => Row K H' v F) H Q
abbrev N_part_from : List Str := ["row", "first", "low", "high", "at"]
theorem sc_part_from : FnScope N_part_from ["row", "first"] (defScope BH.s_part_from) := ⟨rfl, rfl, rfl, by decide +kernel, rfl, by decide +kernel, by decide +kernel⟩
theorem w_part_from (T : Tx K mg za na nb pt) (D_ : Df K mg "part_from" BH.s_part_from) (c_at_place : Cl P w K mg base 2 "at_place" ["row", "place"] (sp_at_place K)) (c_end_of : Cl P w K mg base 1 "end_of" ["row"] (sp_end_of K)) (c_row_by : Cl P w K mg base 1 "row_by" ["start", "numbers"] (sp_row_by K)) : Cl P w K mg base 3 "part_from" ["row", "first"] (sp_part_from K) := by
  refine D_.ok sc_part_from (fun _ _ _ _ _ _ us hl => match us, hl with | [_, _], _ => rfl) (fun vs H Q E h => ?_) (fun f cdv A outer s H vs Q E hr h => ?_)
  · obtain ⟨_, _, rfl, _⟩ := h
    rfl
  · have hu := hu_of hr
    have hu64 := hu64_of hr
    obtain ⟨v_row, v_first, rfl, h⟩ := h
    refine ⟨_, (pss_cons (ps_set (i := 2) sc_part_from.nd rfl (.inl rfl) (pe_op op_fdiv (pe_op op_add (pe_op op_sub (pe_ix ix_tup (pv 0) pe_int (fun _ _ => rfl)) (pv 1)) pe_int) pe_int))
      (pss_cons (ps_set (i := 3) sc_part_from.nd rfl (.inl rfl) (pe_op op_fdiv (pe_op op_add (pe_op op_sub (pe_cl c_end_of (hr.mono (by decide)) (by rfl) (pa_cons (pv 0) pa_nil)) (pv 1)) pe_int) pe_int))
      (pss_one (ps_ret (pe_cl c_row_by (hr.mono (by decide)) (by rfl) (pa_cons (pv 2) (pa_cons (pe_lc (own := [("at", 4)]) (g := gName 4) rfl sc_part_from.nd (pi_range2 (by rfl) T.range (pa_cons (pv 2) (pa_cons (pv 3) pa_nil))) (blkOk_by (own := [("at", 4)]) (N := N_part_from) (sc := defScope BH.s_part_from) (by decide +kernel)) (fun _ _ _ _ _ => pg_name (i := 4) sc_part_from.nd rfl (Or.inl rfl)) (fun _ _ _ _ _ => pts_nil) (fun _ _ _ _ _ => (pe_cl c_at_place (hr.mono (by decide)) (by rfl) (pa_cons (pv 0) (pa_cons (pe_op op_add (pe_op op_mul pe_int (pv 4)) (pv 1)) pa_nil))))) pa_nil))))))), ?_⟩
    obtain ⟨f1, F, i0, R1, rfl, hi0, hF, S1, hQ⟩ := h
    obtain ⟨a1, b1, s1, vs1, qs1, rfl, t1, t2, t3, t4⟩ := id R1
    have l1 := t3.len
    obtain ⟨m1, m2, m3⟩ := Sup.row t4 S1
    refine ⟨_, rfl, _, _, _, _, rfl, rfl, t1, rfl, _, rfl, _, _, rfl, rfl, _, _, rfl, rfl, _, _, rfl, rfl, (by show (0 : Int) < 2 ∧ (2 : Int) < 1073741824; decide), ?_⟩
    refine ⟨_, rfl, _, rfl, _, _, _, _, rfl, t1, t2, _, rfl, _, _, rfl, rfl, _, _, rfl, rfl, _, _, rfl, rfl, (by show (0 : Int) < 2 ∧ (2 : Int) < 1073741824; decide), ?_⟩
    rw [l1]
    refine ⟨_, rfl, _, rfl, _, rfl, _, _, rfl, (by omega), fun D hD => ?_⟩
    refine lcm_range ((List.range ((s1 + (qs1.length : Int) - i0 + 1) / 2 - (s1 - i0 + 1) / 2).toNat).map fun i : Nat => F ((s1 - i0 + 1) / 2 + (i : Int))) (fun H v y => Fr K H v y) (fun _ _ _ _ h e => h.si e) hD (by rw [List.length_map, List.length_range]) (by rw [List.length_map, List.length_range]; omega) (fun i y H2 hi hy e Q2 q => ?_) (fun H2 vs e hv hp => ?_)
    · obtain ⟨_, rfl⟩ := range_get hy
      refine ⟨_, rfl, _, rfl, _, _, rfl, rfl, .inl (by decide), _, rfl, _, _, rfl, rfl, _, _, rfl, f1, _, R1.mono e, rfl, fun v1 h1 => q v1 H2 (Same.refl _) ?_⟩
      rw [hF]
      exact h1
    · refine ⟨_, _, rfl, _, D, vs, _, rfl, rfl, lst_at hv, hp, by rw [List.length_map, List.length_range]; omega, fun v H' e' r => hQ v H' (e.trans e') ?_⟩
      rw [part_math t4 i0 hi0 F hF] at r
      exact r
def sp_even_of (K : PySem.W.Frag) : Sp := sp1 fun a H Q => ∃ f : LP, Row K H a f ∧ Sup 10000 f ∧ Ret (fun v H' => Row K H' v (LP.ev f)) H Q
abbrev N_even_of : List Str := ["row"]
theorem sc_even_of : FnScope N_even_of ["row"] (defScope BH.s_even_of) := ⟨rfl, rfl, rfl, by decide +kernel, rfl, by decide +kernel, by decide +kernel⟩
theorem w_even_of (T : Tx K mg za na nb pt) (D_ : Df K mg "even_of" BH.s_even_of) (c_part_from : Cl P w K mg base 3 "part_from" ["row", "first"] (sp_part_from K)) : Cl P w K mg base 4 "even_of" ["row"] (sp_even_of K) := by
  refine D_.ok sc_even_of (fun _ _ _ _ _ _ us hl => match us, hl with | [_], _ => rfl) (fun vs H Q E h => ?_) (fun f cdv A outer s H vs Q E hr h => ?_)
  · obtain ⟨_, rfl, _⟩ := h
    rfl
  · have hu := hu_of hr
    have hu64 := hu64_of hr
    obtain ⟨v_row, rfl, h⟩ := h
    refine ⟨_, (pss_one (ps_ret (pe_cl c_part_from (hr.mono (by decide)) (by rfl) (pa_cons (pv 0) (pa_cons pe_int pa_nil))))), ?_⟩
    obtain ⟨f1, R1, S1, hQ⟩ := h
    exact ⟨_, rfl, _, _, rfl, f1, LP.ev f1, 0, R1, rfl, .inl rfl, fun k => by rw [LP.ev_at, Int.add_zero], S1, hQ⟩
def sp_odd_of (K : PySem.W.Frag) : Sp := sp1 fun a H Q => ∃ f : LP, Row K H a f ∧ Sup 10000 f ∧ Ret (fun v H' => Row K H' v (LP.od f)) H Q
abbrev N_odd_of : List Str := ["row"]
theorem sc_odd_of : FnScope N_odd_of ["row"] (defScope BH.s_odd_of) := ⟨rfl, rfl, rfl, by decide +kernel, rfl, by decide +kernel, by decide +kernel⟩
theorem w_odd_of (T : Tx K mg za na nb pt) (D_ : Df K mg "odd_of" BH.s_odd_of) (c_part_from : Cl P w K mg base 3 "part_from" ["row", "first"] (sp_part_from K)) : Cl P w K mg base 4 "odd_of" ["row"] (sp_odd_of K) := by
  refine D_.ok sc_odd_of (fun _ _ _ _ _ _ us hl => match us, hl with | [_], _ => rfl) (fun vs H Q E h => ?_) (fun f cdv A outer s H vs Q E hr h => ?_)
  · obtain ⟨_, rfl, _⟩ := h
    rfl
  · have hu := hu_of hr
    have hu64 := hu64_of hr
    obtain ⟨v_row, rfl, h⟩ := h
    refine ⟨_, (pss_one (ps_ret (pe_cl c_part_from (hr.mono (by decide)) (by rfl) (pa_cons (pv 0) (pa_cons pe_int pa_nil))))), ?_⟩
    obtain ⟨f1, R1, S1, hQ⟩ := h
    exact ⟨_, rfl, _, _, rfl, f1, LP.od f1, 1, R1, rfl, .inr rfl, fun k => LP.od_at f1 k, S1, hQ⟩
def sp_is_single (K : PySem.W.Frag) : Sp := sp1 fun a H Q => ∃ f : LP, Row K H a f ∧ LP.Single f ∧ Q (.bl true) H
abbrev N_is_single : List Str := ["row"]
theorem sc_is_single : FnScope N_is_single ["row"] (defScope BH.s_is_single) := ⟨rfl, rfl, rfl, by decide +kernel, rfl, by decide +kernel, by decide +kernel⟩
theorem w_is_single (T : Tx K mg za na nb pt) (D_ : Df K mg "is_single" BH.s_is_single)  : Cl P w K mg base 1 "is_single" ["row"] (sp_is_single K) := by
  refine D_.ok sc_is_single (fun _ _ _ _ _ _ us hl => match us, hl with | [_], _ => rfl) (fun vs H Q E h => ?_) (fun f cdv A outer s H vs Q E hr h => ?_)
  · obtain ⟨_, rfl, _⟩ := h
    rfl
  · have hu := hu_of hr
    have hu64 := hu64_of hr
    obtain ⟨v_row, rfl, h⟩ := h
    refine ⟨_, (pss_one (ps_ret (pe_cmpR op_eq (pe_callB call_len (by rfl) T.len (by decide +kernel) (pa_cons (pe_ix ix_tup (pv 0) pe_int (fun _ _ => rfl)) pa_nil)) pe_int (nomark _)))), ?_⟩
    obtain ⟨f1, ⟨a1, b1, s1, vs1, qs1, rfl, t1, t2, t3, t4⟩, h1, hQ⟩ := h
    refine ⟨_, rfl, _, _, _, _, rfl, rfl, t1, rfl, _, _, rfl, len_tup t2, rfl, ?_⟩
    rw [t3.len, t4.single h1]
    exact hQ
/-! ### spread out -/
def weaveL : List Rat → List Rat
  | [] => []
  | q :: r => q :: 0 :: weaveL r
theorem weaveL_len : ∀ qs : List Rat, (weaveL qs).length = 2 * qs.length
  | [] => rfl
  | q :: r => by
    show (weaveL r).length + 1 + 1 = 2 * (r.length + 1)
    rw [weaveL_len r]
    omega
theorem weaveL_append (a b : List Rat) : weaveL (a ++ b) = weaveL a ++ weaveL b := by
  induction a with
  | nil => rfl
  | cons q r ih =>
    show q :: 0 :: weaveL (r ++ b) = q :: 0 :: (weaveL r ++ weaveL b)
    rw [ih]
theorem weave_pos : ∀ (s : Int) (qs : List Rat) (k : Int), coef (posL (2 * s) (weaveL qs)) k = coef (spL (posL s qs)) k
  | s, [], k => rfl
  | s, q :: r, k => by
    show (if 2 * s = k then q else 0) + ((if 2 * s + 1 = k then (0 : Rat) else 0) + coef (posL (2 * s + 1 + 1) (weaveL r)) k) = (if 2 * s = k then q else 0) + coef (spL (posL (s + 1) r)) k
    rw [show 2 * s + 1 + 1 = 2 * (s + 1) by omega, weave_pos (s + 1) r k]
    split <;> simp only [ite_self, Rat.zero_add]
def sp_spread_out (K : PySem.W.Frag) : Sp := sp1 fun a H Q => ∃ f : LP, Row K H a f ∧ Sup 10000 f ∧ Ret (fun v H' => Row K H' v (LP.sp f)) H Q
abbrev N_spread_out : List Str := ["row", "found", "each"]
theorem sc_spread_out : FnScope N_spread_out ["row"] (defScope BH.s_spread_out) := ⟨rfl, rfl, rfl, by decide +kernel, rfl, by decide +kernel, by decide +kernel⟩
theorem w_spread_out (T : Tx K mg za na nb pt) (D_ : Df K mg "spread_out" BH.s_spread_out) (c_row_by : Cl P w K mg base 1 "row_by" ["start", "numbers"] (sp_row_by K)) : Cl P w K mg base 2 "spread_out" ["row"] (sp_spread_out K) := by
  refine D_.ok sc_spread_out (fun _ _ _ _ _ _ us hl => match us, hl with | [_], _ => rfl) (fun vs H Q E h => ?_) (fun f cdv A outer s H vs Q E hr h => ?_)
  · obtain ⟨_, rfl, _⟩ := h
    rfl
  · have hu := hu_of hr
    have hu64 := hu64_of hr
    obtain ⟨v_row, rfl, h⟩ := h
    refine ⟨_, (pss_cons (ps_if (pt_cmpR (op_eqD hu64) (pv 0) (pe_glob (v := .ref na) (by rfl) T.nought rfl) (nomark _)) (pss_one (ps_ret (pe_glob (v := .ref na) (by rfl) T.nought rfl))) pss_nil)
      (pss_cons (ps_set (i := 1) sc_spread_out.nd rfl (.inl rfl) (pe_lst pa_nil))
      (pss_cons (ps_for PassesOwn.never rfl (pi_tup (pe_ix ix_tup (pv 0) pe_int (fun _ _ => rfl))) (pg_name (i := 2) sc_spread_out.nd rfl (.inl rfl)) (pss_one (ps_set (i := 1) sc_spread_out.nd rfl (.inl rfl) (pe_op op_cat (pv 1) (pe_lst (pa_cons (pv 2) (pa_cons (pe_glob (v := .ref za) (by rfl) T.zero rfl) pa_nil)))))))
      (pss_one (ps_ret (pe_cl c_row_by (hr.mono (by decide)) (by rfl) (pa_cons (pe_op op_mul pe_int (pe_ix ix_tup (pv 0) pe_int (fun _ _ => rfl))) (pa_cons (pv 1) pa_nil)))))))), ?_⟩
    obtain ⟨f1, R1, S1, hQ⟩ := h
    obtain ⟨d1, e1, p1, p2, p3, p4, p5, p6⟩ := row_eq T R1
    by_cases z1 : f1 = 0
    · refine ⟨_, rfl, d1, e1, p1, p2, p3, p4, true, congrArg V.bl (p5 z1), iteT (hQ _ _ (Same.refl _) ⟨na, nb, 0, [], [], rfl, T.noughtT _, T.noughtB _, .nil, ?_⟩)⟩
      rw [z1, show LP.sp 0 = 0 from LP.ext fun k => by rw [LP.sp_at, LP.zero_at', LP.zero_at']; split <;> rfl]
      exact RowOf.zero
    refine ⟨_, rfl, d1, e1, p1, p2, p3, p4, false, congrArg V.bl (p6 z1), iteF ?_⟩
    obtain ⟨a1, b1, s1, vs1, qs1, rfl, t1, t2, t3, t4⟩ := id R1
    have l1 := t3.len
    obtain ⟨_, m2, _⟩ := Sup.row t4 S1
    refine ⟨sm0, fun l0 hl0 => ?_⟩
    have x0 : Same H (upd H l0 (.lst [])) := same_new hl0
    refine ⟨_, rfl, _, _, _, _, rfl, rfl, same_t x0 t1, rfl, _, rfl, ⟨_, same_t x0 t2⟩, for_tup (K := K) (a := b1) (xs := vs1) (fun i σ' H' => Same H H' ∧ ∃ l z cs, σ' = [some (.ref a1), some (.ref l), z] ∧ H' l = some (.lst cs) ∧ FrL K H' cs (weaveL (qs1.take i))) ⟨x0, l0, none, [], rfl, upd_same, .nil⟩ (fun i σ' H' _ ⟨e, _⟩ => same_t e t2) ?_ ?_⟩
    · rintro i x σ' H' hx ⟨e, l, z, cs, rfl, hcs, hF⟩
      obtain ⟨q1, hq1, hFq⟩ := pr_get t3 hx
      have i1 := (List.getElem?_eq_some_iff.mp hq1).1
      have hcl : cs.length ≤ 40002 := by
        rw [hF.len, weaveL_len, List.length_take]
        omega
      refine ⟨_, rfl, _, rfl, sm2, fun p hp => ?_⟩
      have y0 : Same H' (upd H' p (.lst [x, .ref za])) := same_new hp
      refine ⟨l, p, cs, _, rfl, rfl, y0 _ _ hcs, upd_same, small5 (by show cs.length + 2 ≤ 100000; omega), fun l2 hl2 => ?_⟩
      have y1 := y0.trans (same_new (o := .lst (cs ++ [x, .ref za])) hl2)
      refine ⟨e.trans y1, l2, _, _, rfl, upd_same, ?_⟩
      rw [List.take_add_one, hq1]
      show FrL K _ _ (weaveL (_ ++ [q1]))
      rw [weaveL_append]
      exact pr_append (hF.mono y1) (.cons (hFq.mono (e.trans y1)) (.cons (fr_zero T _) .nil))
    · rintro σ' H' ⟨e, l, z, cs, rfl, hcs, hF⟩
      rw [l1, List.take_length] at hF
      refine ⟨_, rfl, _, _, _, _, rfl, rfl, same_t e t1, rfl, _, _, rfl, rfl, .inl (by decide), _, rfl, _, _, rfl, _, l, cs, _, rfl, rfl, lst_at hcs, hF, by rw [weaveL_len]; omega, fun v H2 e2 r => hQ v H2 (e.trans e2) ?_⟩
      have key : LP.of (posL (2 * s1) (weaveL qs1)) = LP.sp f1 := by
        rw [LP.of_eq (weave_pos s1 qs1), ← LP.sp_of, t4.2]
      rw [key] at r
      exact r

end
end BW
namespace BW
open PySem PySem.Spec PyProof.Rows L2 BS
section
variable {P : Program} {w : World} {K : PySem.W.Frag} {mg : Str → Option Value} {base : Heap} {za na nb : Addr} {pt : Tok}
/-! ### what the arguments are asked -/
def sp_is_laid (K : PySem.W.Frag) : Sp := sp1 fun a H Q => ∃ f : LP, Row K H a f ∧ Sup 10000 f ∧ ∀ H', Same H H' → Q (.bl true) H'
abbrev N_is_laid : List Str := ["value", "each"]
theorem sc_is_laid : FnScope N_is_laid ["value"] (defScope BH.s_is_laid) := ⟨rfl, rfl, rfl, by decide +kernel, rfl, by decide +kernel, by decide +kernel⟩
theorem w_is_laid (T : Tx K mg za na nb pt) (D_ : Df K mg "is_laid" BH.s_is_laid) (c_is_ratio : Cl P w K mg base 3 "is_ratio" ["value"] (sp_is_ratio K)) (c_is_whole : Cl P w K mg base 1 "is_whole" ["value"] (sp_is_whole K)) : Cl P w K mg base 4 "is_laid" ["value"] (sp_is_laid K) := by
  refine D_.ok sc_is_laid (fun _ _ _ _ _ _ us hl => match us, hl with | [_], _ => rfl) (fun vs H Q E h => ?_) (fun f cdv A outer s H vs Q E hr h => ?_)
  · obtain ⟨_, rfl, _⟩ := h
    rfl
  · have hu := hu_of hr
    have hu64 := hu64_of hr
    obtain ⟨v_value, rfl, h⟩ := h
    refine ⟨_, (pss_cons (ps_if (PW.pt (pw_or (pt_not (pt_val (pe_callB call_isi (by rfl) T.isinstance (by decide +kernel) (pa_cons (pv 0) (pa_cons (pe_bltn (v := .ty "tuple") (by rfl) T.tuple (by decide +kernel) rfl) pa_nil))))) (pw_or (pt_cmpR op_ne (pe_callB call_len (by rfl) T.len (by decide +kernel) (pa_cons (pv 0) pa_nil)) pe_int (nomark _)) (pw_or (pt_not (pt_val (pe_cl c_is_whole (hr.mono (by decide)) (by rfl) (pa_cons (pe_ix ix_tup (pv 0) pe_int (fun _ _ => rfl)) pa_nil)))) (pw_or1 (pt_not (pt_val (pe_callB call_isi (by rfl) T.isinstance (by decide +kernel) (pa_cons (pe_ix ix_tup (pv 0) pe_int (fun _ _ => rfl)) (pa_cons (pe_bltn (v := .ty "tuple") (by rfl) T.tuple (by decide +kernel) rfl) pa_nil)))))))))) (pss_one (ps_ret pe_bl)) pss_nil)
      (pss_cons (ps_if (pt_cmpR (op_eqD hu64) (pe_ix ix_tup (pv 0) pe_int (fun _ _ => rfl)) (pe_tup pa_nil) (nomark _)) (pss_one (ps_ret (pe_cmpR op_eq (pe_ix ix_tup (pv 0) pe_int (fun _ _ => rfl)) pe_int (nomark _)))) pss_nil)
      (pss_one (ps_ret (pe_and (pe_callB (cr_all rfl) (by rfl) T.all (by decide +kernel) (pa_cons (pe_lc (own := [("each", 1)]) (g := gName 1) rfl sc_is_laid.nd (pi_tup (pe_ix ix_tup (pv 0) pe_int (fun _ _ => rfl))) (blkOk_by (own := [("each", 1)]) (N := N_is_laid) (sc := defScope BH.s_is_laid) (by decide +kernel)) (fun _ _ _ _ _ => pg_name (i := 1) sc_is_laid.nd rfl (Or.inl rfl)) (fun _ _ _ _ _ => pts_nil) (fun _ _ _ _ _ => (pe_cl c_is_ratio (hr.mono (by decide)) (by rfl) (pa_cons (pv 1) pa_nil)))) pa_nil)) (pe_and (pe_cmpR op_ne (pe_ix ix_tup (pe_ix ix_tup (pe_ix ix_tup (pv 0) pe_int (fun _ _ => rfl)) pe_int (fun _ _ => rfl)) pe_int (fun _ _ => rfl)) pe_int (nomark _)) (pe_one (pe_cmpR op_ne (pe_ix ix_tup (pe_ix ix_tup (pe_ix ix_tup (pv 0) pe_int (fun _ _ => rfl)) (pe_un un_neg pe_int) (fun _ _ => rfl)) pe_int (fun _ _ => rfl)) pe_int (nomark _))))))))), ?_⟩
    obtain ⟨f1, ⟨a1, b1, s1, vs1, qs1, rfl, t1, t2, t3, t4⟩, S1, hQ⟩ := h
    have l1 := t3.len
    obtain ⟨_, m2, _⟩ := Sup.row t4 S1
    refine ⟨_, rfl, _, _, _, _, true, rfl, .ty _, ty_tup t1, kit_ty (by decide +kernel), true, rfl, iteF ?_⟩
    refine ⟨_, rfl, _, _, rfl, len_tup t1, rfl, false, rfl, iteF ?_⟩
    refine ⟨_, rfl, _, _, _, _, rfl, rfl, t1, rfl, _, rfl, s1, rfl, true, rfl, iteF ?_⟩
    refine ⟨_, rfl, _, _, _, _, rfl, rfl, t1, rfl, _, _, _, _, true, rfl, .ty _, ty_tup t2, kit_ty (by decide +kernel), true, rfl, iteF ?_⟩
    have lay : SeqAt.shaped (.tuple (qs1.map frD)) = true := by
      unfold SeqAt.shaped
      have h2 : PyData.depth (.tuple (qs1.map frD)) ≤ 64 := by
        show PyData.depthAll (qs1.map frD) + 1 ≤ 64
        have := dep_frs qs1
        omega
      rw [show PyData.canLay0 (.tuple (qs1.map frD)) = true from lay_frs qs1, decide_eq_true h2]
      rfl
    refine ⟨_, rfl, _, _, _, _, rfl, rfl, t1, rfl, sm0, fun p hp => ?_⟩
    have x0 : Same H (upd H p (.tup [])) := same_new hp
    refine ⟨.tuple (qs1.map frD), .tuple [], .tup (same_t x0 t2) (frl_dp (t3.mono x0)), .tup tup_new .nil, lay, by decide +kernel, ?_⟩
    cases qs1 with
    | nil =>
      refine ⟨true, rfl, iteT ⟨_, rfl, _, _, _, _, rfl, rfl, same_t x0 t1, rfl, rfl, ?_⟩⟩
      rw [t4.start_of_nil]
      exact hQ _ x0
    | cons q0 r0 =>
      have hc : (q0 :: r0).getD 0 0 ≠ 0 ∧ (q0 :: r0).getD ((q0 :: r0).length - 1) 0 ≠ 0 := by
        rcases t4.1 with ⟨z, _⟩ | ⟨_, z⟩
        · cases z
        · exact z
      refine ⟨false, rfl, iteF ?_⟩
      refine ⟨_, rfl, _, _, _, _, rfl, rfl, same_t x0 t1, rfl, _, rfl, ⟨_, same_t x0 t2⟩, fun D hD => ?_⟩
      refine lcm_tup (q0 :: r0) (fun _ v _ => v = .bl true) (fun _ _ _ _ h _ => h) hD (same_t x0 t2) l1 (by omega) (fun i x y H2 hx hy e Q2 q => ?_) (fun H2 vs e hv hp2 => ?_)
      · obtain ⟨q1, hq1, hF⟩ := pr_get t3 hx
        exact ⟨_, rfl, _, rfl, q1, hF.mono (x0.trans e), fun H3 e3 => q _ _ e3 rfl⟩
      · obtain ⟨bs, rfl, hb⟩ := all_true hp2
        have x1 := x0.trans e
        obtain ⟨v0, g0, w0⟩ := t3.get (i := 0) (Nat.succ_pos _)
        obtain ⟨v9, g9, w9⟩ := t3.get (i := (q0 :: r0).length - 1) (Nat.sub_lt (Nat.succ_pos _) (by decide))
        refine ⟨D, bs, rfl, lst_at hv, true, congrArg V.bl hb, iteT ?_⟩
        refine ⟨_, rfl, _, _, _, _, rfl, rfl, same_t x1 t1, rfl, _, _, _, _, rfl, rfl, same_t x1 t2, at_of (z := 0) (j := 0) rfl g0, _, _, _, _, rfl, rfl, same_t x1 w0, rfl, rfl, true, congrArg V.bl (by rw [dec_i, decide_eq_false fun z => hc.1 (num_zero.mp z)]; rfl), iteT ?_⟩
        refine ⟨_, rfl, _, _, _, _, rfl, rfl, same_t x1 t1, rfl, _, rfl, _, _, _, _, rfl, rfl, same_t x1 t2, ?_, _, _, _, _, rfl, rfl, same_t x1 w9, rfl, rfl, ?_⟩
        · show atI vs1 (-1) = _
          unfold atI ixN
          rw [if_neg (by omega), if_pos (by rw [l1]; simp; omega), l1]
          show vs1[((-1 : Int) + (((q0 :: r0).length : Nat) : Int)).toNat]? = _
          rw [show ((-1 : Int) + (((q0 :: r0).length : Nat) : Int)).toNat = (q0 :: r0).length - 1 by omega]
          exact g9
        · rw [dec_i, decide_eq_false fun z => hc.2 (num_zero.mp z)]
          exact hQ _ x1
def sp_check_row (K : PySem.W.Frag) : Sp := sp1 fun a H Q => ∃ f : LP, Row K H a f ∧ Sup 10000 f ∧ ∀ H', Same H H' → Q .non H'
abbrev N_check_row : List Str := ["value"]
theorem sc_check_row : FnScope N_check_row ["value"] (defScope BH.s_check_row) := ⟨rfl, rfl, rfl, by decide +kernel, rfl, by decide +kernel, by decide +kernel⟩
theorem w_check_row (T : Tx K mg za na nb pt) (D_ : Df K mg "check_row" BH.s_check_row) (c_is_laid : Cl P w K mg base 4 "is_laid" ["value"] (sp_is_laid K)) : Cl P w K mg base 5 "check_row" ["value"] (sp_check_row K) := by
  refine D_.ok sc_check_row (fun _ _ _ _ _ _ us hl => match us, hl with | [_], _ => rfl) (fun vs H Q E h => ?_) (fun f cdv A outer s H vs Q E hr h => ?_)
  · obtain ⟨_, rfl, _⟩ := h
    rfl
  · have hu := hu_of hr
    have hu64 := hu64_of hr
    obtain ⟨v_value, rfl, h⟩ := h
    refine ⟨_, (pss_one (ps_if (pt_not (pt_val (pe_cl c_is_laid (hr.mono (by decide)) (by rfl) (pa_cons (pv 0) pa_nil)))) (pss_one ps_never) pss_nil)), ?_⟩
    obtain ⟨f1, R1, S1, hQ⟩ := h
    exact ⟨_, rfl, _, rfl, f1, R1, S1, fun H1 e => ⟨true, rfl, iteF (hQ H1 e)⟩⟩
def sp_check_factor (K : PySem.W.Frag) : Sp := sp1 fun a H Q => ∃ c, Fr K H a c ∧ c ≠ 0 ∧ ∀ H', Same H H' → Q .non H'
abbrev N_check_factor : List Str := ["value"]
theorem sc_check_factor : FnScope N_check_factor ["value"] (defScope BH.s_check_factor) := ⟨rfl, rfl, rfl, by decide +kernel, rfl, by decide +kernel, by decide +kernel⟩
theorem w_check_factor (T : Tx K mg za na nb pt) (D_ : Df K mg "check_factor" BH.s_check_factor) (c_is_ratio : Cl P w K mg base 3 "is_ratio" ["value"] (sp_is_ratio K)) : Cl P w K mg base 4 "check_factor" ["value"] (sp_check_factor K) := by
  refine D_.ok sc_check_factor (fun _ _ _ _ _ _ us hl => match us, hl with | [_], _ => rfl) (fun vs H Q E h => ?_) (fun f cdv A outer s H vs Q E hr h => ?_)
  · obtain ⟨_, rfl, _⟩ := h
    rfl
  · have hu := hu_of hr
    have hu64 := hu64_of hr
    obtain ⟨v_value, rfl, h⟩ := h
    refine ⟨_, (pss_one (ps_if (PW.pt (pw_or (pt_not (pt_val (pe_cl c_is_ratio (hr.mono (by decide)) (by rfl) (pa_cons (pv 0) pa_nil)))) (pw_or1 (pt_cmpR op_eq (pe_ix ix_tup (pv 0) pe_int (fun _ _ => rfl)) pe_int (nomark _))))) (pss_one ps_never) pss_nil)), ?_⟩
    obtain ⟨c, R1, hc, hQ⟩ := h
    obtain ⟨a1, rfl, t1⟩ := id R1
    refine ⟨_, rfl, _, rfl, c, R1, fun H1 e => ⟨true, rfl, iteF ?_⟩⟩
    exact ⟨_, rfl, _, _, _, _, rfl, rfl, same_t e t1, rfl, rfl, false, congrArg V.bl (by rw [dec_i, decide_eq_false fun z => hc (num_zero.mp z)]), iteF (hQ H1 e)⟩
def sp_check_places (K : PySem.W.Frag) : Sp := sp1 fun a H Q => ∃ i : Int, a = .int i ∧ i.natAbs ≤ 1000 ∧ Q .non H
abbrev N_check_places : List Str := ["value"]
theorem sc_check_places : FnScope N_check_places ["value"] (defScope BH.s_check_places) := ⟨rfl, rfl, rfl, by decide +kernel, rfl, by decide +kernel, by decide +kernel⟩
theorem w_check_places (T : Tx K mg za na nb pt) (D_ : Df K mg "check_places" BH.s_check_places) (c_is_between : Cl P w K mg base 2 "is_between" ["value", "low", "high"] (sp_is_between K)) : Cl P w K mg base 3 "check_places" ["value"] (sp_check_places K) := by
  refine D_.ok sc_check_places (fun _ _ _ _ _ _ us hl => match us, hl with | [_], _ => rfl) (fun vs H Q E h => ?_) (fun f cdv A outer s H vs Q E hr h => ?_)
  · obtain ⟨_, rfl, _⟩ := h
    rfl
  · have hu := hu_of hr
    have hu64 := hu64_of hr
    obtain ⟨v_value, rfl, h⟩ := h
    refine ⟨_, (pss_one (ps_if (pt_not (pt_val (pe_cl c_is_between (hr.mono (by decide)) (by rfl) (pa_cons (pv 0) (pa_cons (pe_un un_neg (pe_glob (v := .int 1000) (by rfl) T.places ⟨_, rfl⟩)) (pa_cons (pe_glob (v := .int 1000) (by rfl) T.places ⟨_, rfl⟩) pa_nil)))))) (pss_one ps_never) pss_nil)), ?_⟩
    obtain ⟨i, rfl, hi, hQ⟩ := h
    exact ⟨_, rfl, _, rfl, _, _, _, rfl, i, -1000, 1000, rfl, rfl, rfl, by omega, by omega, true, rfl, iteF hQ⟩
/-! ### partners -/
def OkDet (f g : LP) : Prop := ∃ D E m n, Sz D m f ∧ Sz E n g ∧ D * E ≤ big ∧ 2 ^ (m + n) ≤ big ∧ Sup 5000 f ∧ Sup 5000 g
def OkMade (f g : LP) (c : Rat) (j : Int) (s : LP) : Prop := Fits g ∧ Fit c ∧ Fits (LP.mono c (2 * j) * g) ∧ (∃ D E m n, Sz D m s ∧ Sz E n f ∧ D * E ≤ big ∧ 2 ^ (m + n) ≤ big) ∧ Sup 2000 f ∧ Sup 2000 g ∧ Sup 1000 s ∧ j.natAbs ≤ 1000
def sp_pair_determinant (K : PySem.W.Frag) : Sp := sp2 fun a b H Q => ∃ f g : LP, Row K H a f ∧ Row K H b g ∧ OkDet f g ∧ Ret (fun v H' => Row K H' v (LP.det f g)) H Q
abbrev N_pair_determinant : List Str := ["row", "other"]
theorem sc_pair_determinant : FnScope N_pair_determinant ["row", "other"] (defScope BH.s_pair_determinant) := ⟨rfl, rfl, rfl, by decide +kernel, rfl, by decide +kernel, by decide +kernel⟩
theorem w_pair_determinant (T : Tx K mg za na nb pt) (D_ : Df K mg "pair_determinant" BH.s_pair_determinant) (c_even_of : Cl P w K mg base 4 "even_of" ["row"] (sp_even_of K)) (c_odd_of : Cl P w K mg base 4 "odd_of" ["row"] (sp_odd_of K)) (c_row_less : Cl P w K mg base 5 "row_less" ["one", "two"] (sp_row_less K)) (c_row_product : Cl P w K mg base 4 "row_product" ["one", "two"] (sp_row_product K)) : Cl P w K mg base 6 "pair_determinant" ["row", "other"] (sp_pair_determinant K) := by
  refine D_.ok sc_pair_determinant (fun _ _ _ _ _ _ us hl => match us, hl with | [_, _], _ => rfl) (fun vs H Q E h => ?_) (fun f cdv A outer s H vs Q E hr h => ?_)
  · obtain ⟨_, _, rfl, _⟩ := h
    rfl
  · have hu := hu_of hr
    have hu64 := hu64_of hr
    obtain ⟨v_row, v_other, rfl, h⟩ := h
    refine ⟨_, (pss_one (ps_ret (pe_cl c_row_less (hr.mono (by decide)) (by rfl) (pa_cons (pe_cl c_row_product (hr.mono (by decide)) (by rfl) (pa_cons (pe_cl c_even_of (hr.mono (by decide)) (by rfl) (pa_cons (pv 0) pa_nil)) (pa_cons (pe_cl c_odd_of (hr.mono (by decide)) (by rfl) (pa_cons (pv 1) pa_nil)) pa_nil))) (pa_cons (pe_cl c_row_product (hr.mono (by decide)) (by rfl) (pa_cons (pe_cl c_odd_of (hr.mono (by decide)) (by rfl) (pa_cons (pv 0) pa_nil)) (pa_cons (pe_cl c_even_of (hr.mono (by decide)) (by rfl) (pa_cons (pv 1) pa_nil)) pa_nil))) pa_nil))))), ?_⟩
    obtain ⟨f1, g1, R1, R2, ⟨D1, E1, m1, n1, Z1, Z2, hDE, hmn, S1, S2⟩, hQ⟩ := h
    have SS1 := S1.mono (s := 10000) (by decide)
    have SS2 := S2.mono (s := 10000) (by decide)
    have M1 := Z1.ev.mul Z2.od
    have M2 := Z1.od.mul Z2.ev
    refine ⟨_, rfl, _, rfl, f1, R1, SS1, fun v1 H1 e1 r1 => ⟨_, rfl, _, rfl, g1, R2.mono e1, SS2, fun v2 H2 e2 r2 => ?_⟩⟩
    refine ⟨_, _, rfl, _, _, D1, E1, m1, n1, r1.mono e2, r2, Z1.ev, Z2.od, hDE, hmn, SS1.ev, SS2.od, fun v3 H3 e3 r3 => ?_⟩
    have x3 := (e1.trans e2).trans e3
    refine ⟨_, rfl, _, rfl, f1, R1.mono x3, SS1, fun v4 H4 e4 r4 => ⟨_, rfl, _, rfl, g1, R2.mono (x3.trans e4), SS2, fun v5 H5 e5 r5 => ?_⟩⟩
    refine ⟨_, _, rfl, _, _, D1, E1, m1, n1, r4.mono e5, r5, Z1.od, Z2.ev, hDE, hmn, SS1.od, SS2.ev, fun v6 H6 e6 r6 => ?_⟩
    have x6 := (e4.trans e5).trans e6
    exact ⟨_, _, rfl, _, _, r3.mono x6, r6, M1.fits hDE hmn, M2.fits hDE hmn, S1.ev.mul S2.od, S1.od.mul S2.ev, fun v H' e r => hQ v H' ((x3.trans x6).trans e) r⟩
def sp_are_partners (K : PySem.W.Frag) : Sp := sp2 fun a b H Q => ∃ f g : LP, Row K H a f ∧ Row K H b g ∧ OkDet f g ∧ LP.Single (LP.det f g) ∧ ∀ H', Same H H' → Q (.bl true) H'
abbrev N_are_partners : List Str := ["row", "other"]
theorem sc_are_partners : FnScope N_are_partners ["row", "other"] (defScope BH.s_are_partners) := ⟨rfl, rfl, rfl, by decide +kernel, rfl, by decide +kernel, by decide +kernel⟩
theorem w_are_partners (T : Tx K mg za na nb pt) (D_ : Df K mg "are_partners" BH.s_are_partners) (c_is_single : Cl P w K mg base 1 "is_single" ["row"] (sp_is_single K)) (c_pair_determinant : Cl P w K mg base 6 "pair_determinant" ["row", "other"] (sp_pair_determinant K)) : Cl P w K mg base 7 "are_partners" ["row", "other"] (sp_are_partners K) := by
  refine D_.ok sc_are_partners (fun _ _ _ _ _ _ us hl => match us, hl with | [_, _], _ => rfl) (fun vs H Q E h => ?_) (fun f cdv A outer s H vs Q E hr h => ?_)
  · obtain ⟨_, _, rfl, _⟩ := h
    rfl
  · have hu := hu_of hr
    have hu64 := hu64_of hr
    obtain ⟨v_row, v_other, rfl, h⟩ := h
    refine ⟨_, (pss_one (ps_ret (pe_cl c_is_single (hr.mono (by decide)) (by rfl) (pa_cons (pe_cl c_pair_determinant (hr.mono (by decide)) (by rfl) (pa_cons (pv 0) (pa_cons (pv 1) pa_nil))) pa_nil)))), ?_⟩
    obtain ⟨f1, g1, R1, R2, ok, hs, hQ⟩ := h
    exact ⟨_, rfl, _, rfl, _, _, rfl, f1, g1, R1, R2, ok, fun v H' e r => ⟨_, rfl, _, r, hs, hQ H' e⟩⟩
def sp_partner_made (K : PySem.W.Frag) : Sp := sp5 fun a b c d e H Q => ∃ (f g : LP) (q : Rat) (j : Int) (s : LP), Row K H a f ∧ Row K H b g ∧ Fr K H c q ∧ d = .int j ∧ Row K H e s ∧ OkMade f g q j s ∧ Ret (fun v H' => Row K H' v (LP.made f g q j s)) H Q
abbrev N_partner_made : List Str := ["row", "other", "factor", "places", "step"]
theorem sc_partner_made : FnScope N_partner_made ["row", "other", "factor", "places", "step"] (defScope BH.s_partner_made) := ⟨rfl, rfl, rfl, by decide +kernel, rfl, by decide +kernel, by decide +kernel⟩
theorem w_partner_made (T : Tx K mg za na nb pt) (D_ : Df K mg "partner_made" BH.s_partner_made) (c_row_product : Cl P w K mg base 4 "row_product" ["one", "two"] (sp_row_product K)) (c_row_scaled : Cl P w K mg base 4 "row_scaled" ["row", "number"] (sp_row_scaled K)) (c_row_shift : Cl P w K mg base 1 "row_shift" ["row", "places"] (sp_row_shift K)) (c_row_sum : Cl P w K mg base 4 "row_sum" ["one", "two"] (sp_row_sum K)) (c_spread_out : Cl P w K mg base 2 "spread_out" ["row"] (sp_spread_out K)) : Cl P w K mg base 5 "partner_made" ["row", "other", "factor", "places", "step"] (sp_partner_made K) := by
  refine D_.ok sc_partner_made (fun _ _ _ _ _ _ us hl => match us, hl with | [_, _, _, _, _], _ => rfl) (fun vs H Q E h => ?_) (fun f cdv A outer s H vs Q E hr h => ?_)
  · obtain ⟨_, _, _, _, _, rfl, _⟩ := h
    rfl
  · have hu := hu_of hr
    have hu64 := hu64_of hr
    obtain ⟨v_row, v_other, v_factor, v_places, v_step, rfl, h⟩ := h
    refine ⟨_, (pss_one (ps_ret (pe_cl c_row_sum (hr.mono (by decide)) (by rfl) (pa_cons (pe_cl c_row_shift (hr.mono (by decide)) (by rfl) (pa_cons (pe_cl c_row_scaled (hr.mono (by decide)) (by rfl) (pa_cons (pv 1) (pa_cons (pv 2) pa_nil))) (pa_cons (pe_op op_mul pe_int (pv 3)) pa_nil))) (pa_cons (pe_cl c_row_product (hr.mono (by decide)) (by rfl) (pa_cons (pe_cl c_spread_out (hr.mono (by decide)) (by rfl) (pa_cons (pv 4) pa_nil)) (pa_cons (pv 0) pa_nil))) pa_nil))))), ?_⟩
    obtain ⟨f1, g1, c, j, s1, R1, R2, hc, rfl, R3, ⟨F2, Fc, F3, ⟨D1, E1, m1, n1, Z1, Z2, hDE, hmn⟩, S1, S2, S3, hj⟩, hQ⟩ := h
    have e0 : LP.mono 1 (2 * j) * (LP.mono c 0 * g1) = LP.mono c (2 * j) * g1 := by
      have : LP.mono 1 (2 * j) * LP.mono c 0 = LP.mono c (2 * j) := by
        rw [LP.mono_mul, Rat.one_mul, Int.add_zero]
      rw [← this]
      grind
    have SA : Sup 10000 (LP.mono c (2 * j) * g1) := ((Sup.one (2 * j) c).mul S2).mono (by omega)
    have SB : Sup 10000 (LP.sp s1 * f1) := (S3.sp.mul S1).mono (by decide)
    have ZB := Z1.sp.mul Z2
    refine ⟨_, rfl, _, rfl, _, _, rfl, g1, c, R2, hc, F2, Fc, S2.mono (by decide), fun v1 H1 e1 r1 => ⟨_, rfl, _, _, rfl, rfl, .inl (by decide), ?_⟩⟩
    refine ⟨_, _, rfl, _, _, r1, rfl, fun v2 H2 e2 r2 => ?_⟩
    rw [e0] at r2
    have x2 := e1.trans e2
    refine ⟨_, rfl, _, rfl, s1, R3.mono x2, S3.mono (by decide), fun v3 H3 e3 r3 => ⟨_, rfl, _, _, rfl, _, _, D1, E1, m1, n1, r3, R1.mono (x2.trans e3), Z1.sp, Z2, hDE, hmn, S3.sp.mono (by decide), S1.mono (by decide), fun v4 H4 e4 r4 => ?_⟩⟩
    exact ⟨_, _, rfl, _, _, r2.mono (e3.trans e4), r4, F3, ZB.fits hDE hmn, SA, SB, fun v H' e r => hQ v H' ((x2.trans (e3.trans e4)).trans e) r⟩
def sp_is_partner (K : PySem.W.Frag) : Sp := sp2 fun a b H Q => ∃ f g : LP, Row K H a f ∧ Row K H b g ∧ OkDet f g ∧ LP.Single (LP.det f g) ∧ ∀ H', Same H H' → Q (.bl true) H'
abbrev N_is_partner : List Str := ["row", "other"]
theorem sc_is_partner : FnScope N_is_partner ["row", "other"] (defScope BH.s_is_partner) := ⟨rfl, rfl, rfl, by decide +kernel, rfl, by decide +kernel, by decide +kernel⟩
theorem w_is_partner (T : Tx K mg za na nb pt) (D_ : Df K mg "is_partner" BH.s_is_partner) (c_are_partners : Cl P w K mg base 7 "are_partners" ["row", "other"] (sp_are_partners K)) (c_check_row : Cl P w K mg base 5 "check_row" ["value"] (sp_check_row K)) : Cl P w K mg base 8 "is_partner" ["row", "other"] (sp_is_partner K) := by
  refine D_.ok sc_is_partner (fun _ _ _ _ _ _ us hl => match us, hl with | [_, _], _ => rfl) (fun vs H Q E h => ?_) (fun f cdv A outer s H vs Q E hr h => ?_)
  · obtain ⟨_, _, rfl, _⟩ := h
    rfl
  · have hu := hu_of hr
    have hu64 := hu64_of hr
    obtain ⟨v_row, v_other, rfl, h⟩ := h
    refine ⟨_, (pss_cons (ps_expr (pe_cl c_check_row (hr.mono (by decide)) (by rfl) (pa_cons (pv 0) pa_nil)))
      (pss_cons (ps_expr (pe_cl c_check_row (hr.mono (by decide)) (by rfl) (pa_cons (pv 1) pa_nil)))
      (pss_one (ps_ret (pe_cl c_are_partners (hr.mono (by decide)) (by rfl) (pa_cons (pv 0) (pa_cons (pv 1) pa_nil))))))), ?_⟩
    obtain ⟨f1, g1, R1, R2, ok, hs, hQ⟩ := h
    obtain ⟨_, _, _, _, _, _, _, _, S1, S2⟩ := id ok
    refine ⟨_, rfl, _, rfl, f1, R1, S1.mono (by decide), fun H1 e1 => ⟨_, rfl, _, rfl, g1, R2.mono e1, S2.mono (by decide), fun H2 e2 => ?_⟩⟩
    have x2 := e1.trans e2
    exact ⟨_, rfl, _, rfl, _, _, rfl, f1, g1, R1.mono x2, R2.mono x2, ok, hs, fun H3 e3 => hQ H3 (x2.trans e3)⟩
def sp_partner_by (K : PySem.W.Frag) : Sp := sp5 fun a b c d e H Q => ∃ (f g : LP) (q : Rat) (j : Int) (s : LP), Row K H a f ∧ Row K H b g ∧ Fr K H c q ∧ d = .int j ∧ Row K H e s ∧ q ≠ 0 ∧ OkDet f g ∧ LP.Single (LP.det f g) ∧ OkMade f g q j s ∧ Ret (fun v H' => Row K H' v (LP.made f g q j s)) H Q
abbrev N_partner_by : List Str := ["row", "other", "factor", "places", "step"]
theorem sc_partner_by : FnScope N_partner_by ["row", "other", "factor", "places", "step"] (defScope BH.s_partner_by) := ⟨rfl, rfl, rfl, by decide +kernel, rfl, by decide +kernel, by decide +kernel⟩
theorem w_partner_by (T : Tx K mg za na nb pt) (D_ : Df K mg "partner_by" BH.s_partner_by) (c_are_partners : Cl P w K mg base 7 "are_partners" ["row", "other"] (sp_are_partners K)) (c_check_factor : Cl P w K mg base 4 "check_factor" ["value"] (sp_check_factor K)) (c_check_places : Cl P w K mg base 3 "check_places" ["value"] (sp_check_places K)) (c_check_row : Cl P w K mg base 5 "check_row" ["value"] (sp_check_row K)) (c_partner_made : Cl P w K mg base 5 "partner_made" ["row", "other", "factor", "places", "step"] (sp_partner_made K)) : Cl P w K mg base 8 "partner_by" ["row", "other", "factor", "places", "step"] (sp_partner_by K) := by
  refine D_.ok sc_partner_by (fun _ _ _ _ _ _ us hl => match us, hl with | [_, _, _, _, _], _ => rfl) (fun vs H Q E h => ?_) (fun f cdv A outer s H vs Q E hr h => ?_)
  · obtain ⟨_, _, _, _, _, rfl, _⟩ := h
    rfl
  · have hu := hu_of hr
    have hu64 := hu64_of hr
    obtain ⟨v_row, v_other, v_factor, v_places, v_step, rfl, h⟩ := h
    refine ⟨_, (pss_cons (ps_expr (pe_cl c_check_row (hr.mono (by decide)) (by rfl) (pa_cons (pv 0) pa_nil)))
      (pss_cons (ps_expr (pe_cl c_check_row (hr.mono (by decide)) (by rfl) (pa_cons (pv 1) pa_nil)))
      (pss_cons (ps_expr (pe_cl c_check_factor (hr.mono (by decide)) (by rfl) (pa_cons (pv 2) pa_nil)))
      (pss_cons (ps_expr (pe_cl c_check_places (hr.mono (by decide)) (by rfl) (pa_cons (pv 3) pa_nil)))
      (pss_cons (ps_expr (pe_cl c_check_row (hr.mono (by decide)) (by rfl) (pa_cons (pv 4) pa_nil)))
      (pss_cons (ps_if (pt_not (pt_val (pe_cl c_are_partners (hr.mono (by decide)) (by rfl) (pa_cons (pv 0) (pa_cons (pv 1) pa_nil))))) (pss_one ps_never) pss_nil)
      (pss_one (ps_ret (pe_cl c_partner_made (hr.mono (by decide)) (by rfl) (pa_cons (pv 0) (pa_cons (pv 1) (pa_cons (pv 2) (pa_cons (pv 3) (pa_cons (pv 4) pa_nil)))))))))))))), ?_⟩
    obtain ⟨f1, g1, c, j, s1, R1, R2, hc, rfl, R3, hc0, ok, hs, om, hQ⟩ := h
    obtain ⟨_, _, _, _, _, _, _, _, S1, S2⟩ := id ok
    obtain ⟨_, _, _, _, _, _, S3, hj⟩ := id om
    refine ⟨_, rfl, _, rfl, f1, R1, S1.mono (by decide), fun H1 e1 => ⟨_, rfl, _, rfl, g1, R2.mono e1, S2.mono (by decide), fun H2 e2 => ?_⟩⟩
    have x2 := e1.trans e2
    refine ⟨_, rfl, _, rfl, c, hc.mono x2, hc0, fun H3 e3 => ⟨_, rfl, _, rfl, j, rfl, hj, ?_⟩⟩
    have x3 := x2.trans e3
    refine ⟨_, rfl, _, rfl, s1, R3.mono x3, S3.mono (by decide), fun H4 e4 => ?_⟩
    have x4 := x3.trans e4
    refine ⟨_, rfl, _, rfl, _, _, rfl, f1, g1, R1.mono x4, R2.mono x4, ok, hs, fun H5 e5 => ⟨true, rfl, iteF ?_⟩⟩
    have x5 := x4.trans e5
    exact ⟨_, rfl, _, rfl, _, rfl, _, rfl, _, rfl, _, _, _, _, _, rfl, f1, g1, c, j, s1, R1.mono x5, R2.mono x5, hc.mono x5, rfl, R3.mono x5, om, fun v H' e r => hQ v H' (x5.trans e) r⟩

end
end BW
namespace BW
open PySem PySem.Spec PyProof.Rows L2 BS
section
variable {P : Program} {w : World} {K : PySem.W.Frag} {mg : Str → Option Value} {base : Heap} {za na nb : Addr} {pt : Tok}
/-! ### the law's draws -/
def WellAt (H : Hp) (a : Addr) : Prop := ∃ o m c : Int, H a = some (.lst [.int o, .int m, .int c]) ∧ 0 ≤ o ∧ 0 ≤ m ∧ m < 2147483648
/-- all but what stands at a is kept -/
def SameW (a : Addr) (H H' : Hp) : Prop := ∀ b o, b ≠ a → H b = some o → H' b = some o
theorem SameW.refl (a : Addr) (H : Hp) : SameW a H H := fun _ _ _ h => h
theorem SameW.trans {a : Addr} {H H1 H2 : Hp} (e : SameW a H H1) (f : SameW a H1 H2) : SameW a H H2 := fun b o n h => f b o n (e b o n h)
theorem SameW.of {a : Addr} {H H' : Hp} (e : Same H H') : SameW a H H' := fun b o _ h => e b o h
theorem sw_upd {a : Addr} {H : Hp} {o : HO} : SameW a H (upd H a o) := fun b x n h => by
  rw [upd_ne n]
  exact h
theorem SameW.si {a : Addr} {H H' : Hp} (e : SameW a H H') (h : WellAt H a) : SI H H' := fun b o n hb => by
  obtain ⟨_, _, _, hw, _⟩ := h
  refine e b o (fun z => ?_) hb
  rw [z, hw] at hb
  exact n _ (Option.some.inj hb).symm
theorem WellAt.mono {a : Addr} {H H' : Hp} (h : WellAt H a) (e : Same H H') : WellAt H' a := by
  obtain ⟨o, m, c, hw, r⟩ := h
  exact ⟨o, m, c, e _ _ hw, r⟩
def RetW (a : Addr) (R : V → Hp → Prop) (H : Hp) (Q : VK) : Prop := ∀ v H', SameW a H H' → WellAt H' a → R v H' → Q v H'
theorem log62 {j : Int} (h0 : 1 ≤ j) (h : j < 2 ^ 62) : j.natAbs.log2 < 9000 := Nat.lt_trans (log2_small (n := 62) (by omega) (by decide)) (by decide)
def sp__law_well (K : PySem.W.Frag) : Sp := sp2 fun a b H Q => ∃ (p : Addr) (ns : List Int) (t : Int), a = .ref p ∧ SqL K H p (ns.map V.int) ∧ b = .int t ∧ 0 ≤ t ∧ Ret (fun v H' => ∃ l, v = .ref l ∧ H l = none ∧ WellAt H' l) H Q
abbrev N__law_well : List Str := ["_law_script", "_law_turn", "_law_mixed", "_law_cell", "_law_own"]
theorem sc__law_well : FnScope N__law_well ["_law_script", "_law_turn"] (defScope BH.s__law_well) := ⟨rfl, rfl, rfl, by decide +kernel, rfl, by decide +kernel, by decide +kernel⟩
theorem w__law_well (T : Tx K mg za na nb pt) (D_ : Df K mg "_law_well" BH.s__law_well)  : Cl P w K mg base 1 "_law_well" ["_law_script", "_law_turn"] (sp__law_well K) := by
  refine D_.ok sc__law_well (fun _ _ _ _ _ _ us hl => match us, hl with | [_, _], _ => rfl) (fun vs H Q E h => ?_) (fun f cdv A outer s H vs Q E hr h => ?_)
  · obtain ⟨_, _, rfl, _⟩ := h
    rfl
  · have hu := hu_of hr
    have hu64 := hu64_of hr
    obtain ⟨v_script, v_turn, rfl, h⟩ := h
    refine ⟨_, (pss_cons (ps_set (i := 2) sc__law_well.nd rfl (.inl rfl) (pe_op op_add pe_int (pe_op op_mul pe_int (pv 1))))
      (pss_cons (ps_for PassesOwn.never rfl (pi_list (pe_slice sl_list (pv 0) po_none (po_some pe_int))) (pg_name (i := 3) sc__law_well.nd rfl (.inl rfl)) (pss_one (ps_set (i := 2) sc__law_well.nd rfl (.inl rfl) (pe_op op_mod (pe_callTy call_int1 (by rfl) T.int (by decide +kernel) (pa_cons (pe_op op_add (pe_op op_add (pe_op op_mul (pv 2) pe_int) (pe_op op_mod (pe_callTy call_int1 (by rfl) T.int (by decide +kernel) (pa_cons (pv 3) pa_nil)) pe_int)) pe_int) pa_nil)) pe_int))))
      (pss_cons (ps_set (i := 4) sc__law_well.nd rfl (.inl rfl) (pe_ifExp (pt_cmpR op_lt (pv 1) (pe_callB call_len (by rfl) T.len (by decide +kernel) (pa_cons (pv 0) pa_nil)) (nomark _)) (pe_callB call_abs (by rfl) T.abs (by decide +kernel) (pa_cons (pe_callTy call_int1 (by rfl) T.int (by decide +kernel) (pa_cons (pe_ix ix_list (pv 0) (pv 1) (fun _ _ => rfl)) pa_nil)) pa_nil)) (pe_op op_add pe_int (pe_op op_mul pe_int (pv 1)))))
      (pss_cons (ps_set (i := 2) sc__law_well.nd rfl (.inl rfl) (pe_op op_mod (pe_callTy call_int1 (by rfl) T.int (by decide +kernel) (pa_cons (pe_op op_add (pe_op op_add (pe_op op_mul (pv 2) pe_int) (pe_op op_mul (pe_op op_mod (pe_callTy call_int1 (by rfl) T.int (by decide +kernel) (pa_cons (pv 4) pa_nil)) pe_int) pe_int)) pe_int) pa_nil)) pe_int))
      (pss_one (ps_ret (pe_lst (pa_cons (pe_ifExp (pt_cmpR op_ge (pv 4) (pe_op op_pow pe_int pe_int) (nomark _)) (pv 4) pe_int) (pa_cons (pv 2) (pa_cons pe_int pa_nil)))))))))), ?_⟩
    obtain ⟨p, ns, t, rfl, hS, rfl, ht, hQ⟩ := h
    refine ⟨_, rfl, _, _, rfl, rfl, .inl (by decide), _, _, rfl, rfl, ?_⟩
    have cutI : cutV (ns.map V.int) none (some 10) = (ns.take 10).map V.int := by
      show cutV _ none (some ((10 : Nat) : Int)) = _
      unfold cutV
      rw [HT.sIx_none, HT.sIx_nat, List.drop_zero, Nat.sub_zero, List.map_take]
      by_cases z : 10 ≤ (ns.map V.int).length
      · rw [Nat.min_eq_left z]
      · rw [Nat.min_eq_right (by omega), List.take_of_length_le (Nat.le_refl _), List.take_of_length_le (by omega)]
    refine ⟨_, rfl, _, rfl, _, _, rfl, hS, fun c hc => ⟨c, rfl, ⟨_, lst_new⟩, ?_⟩⟩
    rw [cutI]
    have x0 : Same H (upd H c (.lst ((ns.take 10).map V.int))) := same_new hc
    refine for_list (K := K) (a := c) (xs := (ns.take 10).map V.int) (fun i σ' H' => H' = upd H c (.lst ((ns.take 10).map V.int)) ∧ ∃ (mx : Int) (z : Option V), σ' = [some (.ref p), some (.int t), some (.int mx), z, none]) ⟨rfl, _, none, rfl⟩ (fun i σ' H' _ ⟨e, _⟩ => by rw [e]; exact lst_new) ?_ ?_
    · rintro i x σ' H' hx ⟨rfl, mx, z, rfl⟩
      obtain ⟨n, hn, rfl⟩ := map_int_get hx
      refine ⟨_, rfl, _, _, rfl, rfl, .inr (by decide), _, rfl, .inl ⟨_, rfl, _, _, rfl, rfl, (show (0 : Int) < 2147483563 by decide), _, _, rfl, rfl, _, _, rfl, rfl, .inl ⟨_, rfl, _, _, rfl, rfl, (show (0 : Int) < 2147483629 by decide), rfl, _, _, rfl⟩⟩⟩
    · rintro σ' H' ⟨rfl, mx, z, rfl⟩
      have fin : ∀ own : Int, 0 ≤ own → ∀ (u : TE), u = u → True := fun _ _ _ _ => trivial
      have hS0 : SqL K (upd H c (.lst ((ns.take 10).map V.int))) p (ns.map V.int) := x0.seq hS
      have done : ∀ own mx2 : Int, 0 ≤ own → 0 ≤ mx2 → mx2 < 2147483648 → ∀ q, (upd H c (.lst ((ns.take 10).map V.int))) q = none → Q (.ref q) (upd (upd H c (.lst ((ns.take 10).map V.int))) q (.lst [.int own, .int mx2, .int 0])) := fun own mx2 h1 h2 h3 q hq =>
        hQ _ _ (x0.trans (same_new hq)) ⟨q, rfl, x0.free hq, own, mx2, 0, upd_same, h1, h2, h3⟩
      have nz : (2147483629 : Int) ≠ 0 := by decide
      have hp18 : CPow 10 18 := by
        refine ⟨by decide, by decide, by decide⟩
      by_cases hlt : t < ((ns.map V.int).length : Int)
      · refine ⟨_, rfl, _, rfl, _, _, rfl, len_lst hS0, _, _, rfl, rfl, true, congrArg V.bl (decide_eq_true hlt), iteT ?_⟩
        have hi : t.toNat < ns.length := by
          rw [List.length_map] at hlt
          omega
        refine ⟨_, rfl, _, rfl, _, _, _, _, rfl, rfl, hS0, at_of (j := t.toNat) (by omega) (by rw [List.getElem?_map, List.getElem?_eq_getElem hi]; rfl), .inl ⟨_, rfl, _, rfl, ?_⟩⟩
        generalize hown : (if ns[t.toNat] < 0 then -ns[t.toNat] else ns[t.toNat]) = own
        have h0 : 0 ≤ own := by
          split at hown <;> omega
        refine ⟨_, rfl, _, _, rfl, rfl, .inr (by decide), _, rfl, .inl ⟨_, rfl, _, _, rfl, rfl, (show (0 : Int) < 2147483549 by decide), _, _, rfl, rfl, .inr (by decide), _, _, rfl, rfl, _, _, rfl, rfl, .inl ⟨_, rfl, _, _, rfl, rfl, (show (0 : Int) < 2147483629 by decide), ?_⟩⟩⟩
        refine ⟨_, rfl, _, _, rfl, rfl, hp18, _, _, rfl, rfl, ?_⟩
        by_cases hbig : (10 : Int) ^ (18 : Int).toNat ≤ own
        · exact ⟨true, congrArg V.bl (decide_eq_true hbig), iteT ⟨_, rfl, _, rfl, small5 (by show 3 ≤ 100000; decide), done own _ h0 (Int.emod_nonneg _ nz) (Int.lt_trans (Int.emod_lt_of_pos _ (show (0 : Int) < 2147483629 by decide)) (by decide))⟩⟩
        · exact ⟨false, congrArg V.bl (decide_eq_false hbig), iteF ⟨_, rfl, small5 (by show 3 ≤ 100000; decide), done 0 _ (Int.le_refl _) (Int.emod_nonneg _ nz) (Int.lt_trans (Int.emod_lt_of_pos _ (show (0 : Int) < 2147483629 by decide)) (by decide))⟩⟩
      · refine ⟨_, rfl, _, rfl, _, _, rfl, len_lst hS0, _, _, rfl, rfl, false, congrArg V.bl (decide_eq_false hlt), iteF ?_⟩
        refine ⟨_, rfl, _, _, rfl, rfl, .inl (by decide), _, _, rfl, rfl, ?_⟩
        have h0 : 0 ≤ 104711 + 31 * t := by omega
        refine ⟨_, rfl, _, _, rfl, rfl, .inr (by decide), _, rfl, .inl ⟨_, rfl, _, _, rfl, rfl, (show (0 : Int) < 2147483549 by decide), _, _, rfl, rfl, .inr (by decide), _, _, rfl, rfl, _, _, rfl, rfl, .inl ⟨_, rfl, _, _, rfl, rfl, (show (0 : Int) < 2147483629 by decide), ?_⟩⟩⟩
        refine ⟨_, rfl, _, _, rfl, rfl, hp18, _, _, rfl, rfl, ?_⟩
        by_cases hbig : (10 : Int) ^ (18 : Int).toNat ≤ 104711 + 31 * t
        · exact ⟨true, congrArg V.bl (decide_eq_true hbig), iteT ⟨_, rfl, _, rfl, small5 (by show 3 ≤ 100000; decide), done (104711 + 31 * t) _ h0 (Int.emod_nonneg _ nz) (Int.lt_trans (Int.emod_lt_of_pos _ (show (0 : Int) < 2147483629 by decide)) (by decide))⟩⟩
        · exact ⟨false, congrArg V.bl (decide_eq_false hbig), iteF ⟨_, rfl, small5 (by show 3 ≤ 100000; decide), done 0 _ (Int.le_refl _) (Int.emod_nonneg _ nz) (Int.lt_trans (Int.emod_lt_of_pos _ (show (0 : Int) < 2147483629 by decide)) (by decide))⟩⟩
theorem mod_0 (x : Int) : 0 ≤ x % 2147483647 := Int.emod_nonneg _ (by decide)
theorem mod_1 (x : Int) : x % 2147483647 < 2147483648 := Int.lt_trans (Int.emod_lt_of_pos _ (by decide)) (by decide)
theorem mod_b (x : Int) : -(2 ^ 64) < x % 2147483647 ∧ x % 2147483647 < 2 ^ 64 := by
  have h0 := mod_0 x
  have h1 := mod_1 x
  omega
def sp__law_take (K : PySem.W.Frag) : Sp := sp2 fun a b H Q => ∃ (p : Addr) (n : Int), a = .ref p ∧ WellAt H p ∧ b = .int n ∧ 1 ≤ n ∧ n < 2 ^ 62 ∧ RetW p (fun v _ => ∃ d : Int, v = .int d ∧ 0 ≤ d ∧ d < n) H Q
abbrev N__law_take : List Str := ["_law_well_here", "_law_count", "_law_digit"]
theorem sc__law_take : FnScope N__law_take ["_law_well_here", "_law_count"] (defScope BH.s__law_take) := ⟨rfl, rfl, rfl, by decide +kernel, rfl, by decide +kernel, by decide +kernel⟩
theorem w__law_take (T : Tx K mg za na nb pt) (D_ : Df K mg "_law_take" BH.s__law_take)  : Cl P w K mg base 1 "_law_take" ["_law_well_here", "_law_count"] (sp__law_take K) := by
  refine D_.ok sc__law_take (fun _ _ _ _ _ _ us hl => match us, hl with | [_, _], _ => rfl) (fun vs H Q E h => ?_) (fun f cdv A outer s H vs Q E hr h => ?_)
  · obtain ⟨_, _, rfl, _⟩ := h
    rfl
  · have hu := hu_of hr
    have hu64 := hu64_of hr
    obtain ⟨v_well_here, v_count, rfl, h⟩ := h
    refine ⟨_, (pss_cons (ps_if (pt_cmpR op_gt (pe_ix ix_list (pv 0) pe_int (fun _ _ => rfl)) pe_int (nomark _)) (pss_cons (ps_asg (pe_callB call_divmodW (by rfl) T.divmod (by decide +kernel) (pa_cons (pe_ix ix_list (pv 0) pe_int (fun _ _ => rfl)) (pa_cons (pv 1) pa_nil))) (pg_tup rfl (pgs_cons (pg_sub (pv 0) pe_int set_list) (pgs_cons (pg_name (i := 2) sc__law_take.nd rfl (.inl rfl)) pgs_nil))))
      (pss_one (ps_ret (pv 2)))) pss_nil)
      (pss_cons (ps_asg (pe_op op_add (pe_ix ix_list (pv 0) pe_int (fun _ _ => rfl)) pe_int) (pg_sub (pv 0) pe_int set_list))
      (pss_cons (ps_asg (pe_op op_mod (pe_callTy call_int1 (by rfl) T.int (by decide +kernel) (pa_cons (pe_op op_add (pe_op op_add (pe_op op_mul (pe_ix ix_list (pv 0) pe_int (fun _ _ => rfl)) (pe_op op_add pe_int (pe_op op_mul pe_int (pe_ix ix_list (pv 0) pe_int (fun _ _ => rfl))))) (pe_op op_mul pe_int (pe_ix ix_list (pv 0) pe_int (fun _ _ => rfl)))) pe_int) pa_nil)) pe_int) (pg_sub (pv 0) pe_int set_list))
      (pss_one (ps_ret (pe_op op_mod (pe_callTy call_int1 (by rfl) T.int (by decide +kernel) (pa_cons (pe_op op_fdiv (pe_op op_mod (pe_callTy call_int1 (by rfl) T.int (by decide +kernel) (pa_cons (pe_op op_mul (pe_ix ix_list (pv 0) pe_int (fun _ _ => rfl)) (pe_op op_add (pe_ix ix_list (pv 0) pe_int (fun _ _ => rfl)) pe_int)) pa_nil)) pe_int) pe_int) pa_nil)) (pv 1))))))), ?_⟩
    obtain ⟨p, n, rfl, ⟨o, m, c, hW, ho, hm, hm2⟩, rfl, h1, h2, hQ⟩ := h
    have hn := log62 h1 h2
    by_cases hz : 0 < o
    · refine ⟨_, rfl, _, _, _, _, rfl, rfl, lst_at hW, rfl, _, _, rfl, rfl, true, congrArg V.bl (decide_eq_true hz), iteT ?_⟩
      refine ⟨_, rfl, _, _, _, _, rfl, rfl, lst_at hW, rfl, _, rfl, _, _, rfl, ⟨by omega, PyProof.noPylong_of_log2 hn⟩, fun t ht => ?_⟩
      have hW2 : (upd H t (.tup [.int (o / n), .int (o % n)])) p = some (.lst [.int o, .int m, .int c]) := same_new ht _ _ hW
      refine ⟨t, _, rfl, tup_new, rfl, _, _, rfl, _, rfl, p, _, _, 0, rfl, rfl, hW2, rfl, _, _, rfl, rfl, _, rfl, ?_⟩
      exact hQ _ _ (SameW.trans (SameW.of (same_new ht)) sw_upd) ⟨o / n, m, c, upd_same, Int.ediv_nonneg ho (by omega), hm, hm2⟩ ⟨_, rfl, Int.emod_nonneg _ (by omega), Int.emod_lt_of_pos _ (by omega)⟩
    · refine ⟨_, rfl, _, _, _, _, rfl, rfl, lst_at hW, rfl, _, _, rfl, rfl, false, congrArg V.bl (decide_eq_false hz), iteF ?_⟩
      refine ⟨_, rfl, _, _, _, _, rfl, rfl, lst_at hW, rfl, _, _, rfl, rfl, _, rfl, p, _, _, 2, rfl, rfl, hW, rfl, ?_⟩
      show _
      have w1 : (upd H p (.lst [.int o, .int m, .int (c + 1)])) p = some (.lst [.int o, .int m, .int (c + 1)]) := upd_same
      refine ⟨_, rfl, _, _, _, _, rfl, rfl, lst_at w1, rfl, _, rfl, _, _, _, _, rfl, rfl, lst_at w1, rfl, _, _, rfl, rfl, .inl (by decide), _, _, rfl, rfl, _, _, rfl, rfl, .inl (by omega), _, rfl, _, _, _, _, rfl, rfl, lst_at w1, rfl, _, _, rfl, rfl, .inl (by decide), _, _, rfl, rfl, _, _, rfl, rfl, .inl ⟨_, rfl, _, _, rfl, rfl, (show (0 : Int) < 2147483647 by decide), _, rfl, p, _, _, 1, rfl, rfl, w1, rfl, ?_⟩⟩
      refine ⟨_, rfl, _, _, _, _, rfl, rfl, lst_at upd_same, rfl, _, rfl, _, _, _, _, rfl, rfl, lst_at upd_same, rfl, _, _, rfl, rfl, _, _, rfl, rfl, .inl (mod_b _), .inl ⟨_, rfl, _, _, rfl, rfl, (show (0 : Int) < 2147483629 by decide), _, _, rfl, rfl, (show (0 : Int) < 23 ∧ (23 : Int) < 1073741824 by decide), .inl ⟨_, rfl, _, rfl, _, _, rfl, rfl, (by omega), ?_⟩⟩⟩
      exact hQ _ _ (SameW.trans sw_upd sw_upd) ⟨o, _, c + 1, upd_same, ho, mod_0 _, mod_1 _⟩ ⟨_, rfl, Int.emod_nonneg _ (by omega), Int.emod_lt_of_pos _ (by omega)⟩
def sp__law_pick (K : PySem.W.Frag) : Sp := sp2 fun a b H Q => ∃ (p q : Addr) (xs : List V), a = .ref p ∧ WellAt H p ∧ b = .ref q ∧ SqT K H q xs ∧ 1 ≤ xs.length ∧ xs.length ≤ 1000 ∧ RetW p (fun v _ => v ∈ xs) H Q
abbrev N__law_pick : List Str := ["_law_well_here", "_law_some"]
theorem sc__law_pick : FnScope N__law_pick ["_law_well_here", "_law_some"] (defScope BH.s__law_pick) := ⟨rfl, rfl, rfl, by decide +kernel, rfl, by decide +kernel, by decide +kernel⟩
theorem w__law_pick (T : Tx K mg za na nb pt) (D_ : Df K mg "_law_pick" BH.s__law_pick) (c__law_take : Cl P w K mg base 1 "_law_take" ["_law_well_here", "_law_count"] (sp__law_take K)) : Cl P w K mg base 2 "_law_pick" ["_law_well_here", "_law_some"] (sp__law_pick K) := by
  refine D_.ok sc__law_pick (fun _ _ _ _ _ _ us hl => match us, hl with | [_, _], _ => rfl) (fun vs H Q E h => ?_) (fun f cdv A outer s H vs Q E hr h => ?_)
  · obtain ⟨_, _, rfl, _⟩ := h
    rfl
  · have hu := hu_of hr
    have hu64 := hu64_of hr
    obtain ⟨v_well_here, v_some, rfl, h⟩ := h
    refine ⟨_, (pss_one (ps_ret (pe_ix ix_tup (pv 1) (pe_cl c__law_take (hr.mono (by decide)) (by rfl) (pa_cons (pv 0) (pa_cons (pe_callB call_len (by rfl) T.len (by decide +kernel) (pa_cons (pv 1) pa_nil)) pa_nil))) (fun _ _ => rfl)))), ?_⟩
    obtain ⟨p, q, xs, rfl, hW, rfl, hT, h1, h2, hQ⟩ := h
    refine ⟨_, rfl, _, rfl, _, rfl, _, _, rfl, len_tup hT, _, _, rfl, p, _, rfl, hW, rfl, by omega, by omega, fun v H' e w ⟨d, ev, d0, d1⟩ => ?_⟩
    have hi : d.toNat < xs.length := by omega
    exact ⟨_, _, _, xs[d.toNat], rfl, ev, si_t (e.si hW) hT, at_of (j := d.toNat) (by omega) (List.getElem?_eq_getElem hi), hQ _ _ e w (List.getElem_mem hi)⟩
def sp__law_rounds (K : PySem.W.Frag) : Sp := sp1 fun a H Q => ∃ (p : Addr) (xs : List V), a = .ref p ∧ SqL K H p xs ∧ ∀ r : Int, 2 ≤ r → r ≤ 3 → Q (.int r) H
abbrev N__law_rounds : List Str := ["_law_script"]
theorem sc__law_rounds : FnScope N__law_rounds ["_law_script"] (defScope BH.s__law_rounds) := ⟨rfl, rfl, rfl, by decide +kernel, rfl, by decide +kernel, by decide +kernel⟩
theorem w__law_rounds (T : Tx K mg za na nb pt) (D_ : Df K mg "_law_rounds" BH.s__law_rounds)  : Cl P w K mg base 1 "_law_rounds" ["_law_script"] (sp__law_rounds K) := by
  refine D_.ok sc__law_rounds (fun _ _ _ _ _ _ us hl => match us, hl with | [_], _ => rfl) (fun vs H Q E h => ?_) (fun f cdv A outer s H vs Q E hr h => ?_)
  · obtain ⟨_, rfl, _⟩ := h
    rfl
  · have hu := hu_of hr
    have hu64 := hu64_of hr
    obtain ⟨v_script, rfl, h⟩ := h
    refine ⟨_, (pss_one (ps_ret (pe_callB (call_max2 rfl) (by rfl) T.max (by decide +kernel) (pa_cons pe_int (pa_cons (pe_callB (call_min2 rfl) (by rfl) T.min (by decide +kernel) (pa_cons (pe_callB call_len (by rfl) T.len (by decide +kernel) (pa_cons (pv 0) pa_nil)) (pa_cons pe_int pa_nil))) pa_nil))))), ?_⟩
    obtain ⟨p, xs, rfl, hS, hQ⟩ := h
    refine ⟨_, rfl, _, _, rfl, len_lst hS, _, _, rfl, _, _, rfl, ?_⟩
    refine hQ _ ?_ ?_
    · split <;> split <;> omega
    · split <;> split <;> omega

end
end BW
namespace BW
open PySem PySem.Spec PyProof.Rows L2 BS
section
variable {P : Program} {w : World} {K : PySem.W.Frag} {mg : Str → Option Value} {base : Heap} {za na nb : Addr} {pt : Tok}
/-! ### the law's own fractions -/
theorem abs_eq (i : Int) : (if i < 0 then -i else i) = (i.natAbs : Int) := by
  split <;> omega
def sp__law_common (K : PySem.W.Frag) : Sp := sp2 fun a b H Q => ∃ i j : Int, a = .int i ∧ b = .int j ∧ Q (.int ((Int.gcd j i : Nat) : Int)) H
abbrev N__law_common : List Str := ["_law_one", "_law_two"]
theorem sc__law_common : FnScope N__law_common ["_law_one", "_law_two"] (defScope BH.s__law_common) := ⟨rfl, rfl, rfl, by decide +kernel, rfl, by decide +kernel, by decide +kernel⟩
theorem w__law_common (T : Tx K mg za na nb pt) (D_ : Df K mg "_law_common" BH.s__law_common)  : Cl P w K mg base 1 "_law_common" ["_law_one", "_law_two"] (sp__law_common K) := by
  refine D_.ok sc__law_common (fun _ _ _ _ _ _ us hl => match us, hl with | [_, _], _ => rfl) (fun vs H Q E h => ?_) (fun f cdv A outer s H vs Q E hr h => ?_)
  · obtain ⟨_, _, rfl, _⟩ := h
    rfl
  · have hu := hu_of hr
    have hu64 := hu64_of hr
    obtain ⟨v_one, v_two, rfl, h⟩ := h
    refine ⟨_, (pss_cons (ps_par rfl sc__law_common.nd (i := 0) (j := 1) rfl rfl (by decide) rfl rfl (pa_cons (pe_callB call_abs (by rfl) T.abs (by decide +kernel) (pa_cons (pv 0) pa_nil)) (pa_cons (pe_callB call_abs (by rfl) T.abs (by decide +kernel) (pa_cons (pv 1) pa_nil)) pa_nil)) (by rfl))
      (Evl.pss_cut (ps_while PassesOwn.never (pt_cmpR op_gt (pv 1) pe_int (nomark _)) (pss_one (ps_par rfl sc__law_common.nd (i := 0) (j := 1) rfl rfl (by decide) rfl rfl (pa_cons (pv 1) (pa_cons (pe_op op_mod (pe_callTy call_int1 (by rfl) T.int (by decide +kernel) (pa_cons (pv 0) pa_nil)) (pv 1)) pa_nil)) (by rfl))))
      (pss_one (ps_ret (pv 0))))), ?_⟩
    obtain ⟨i, j, rfl, rfl, hQ⟩ := h
    refine ⟨_, rfl, _, rfl, _, rfl, _, rfl, _, _, rfl, ?_⟩
    rw [abs_eq, abs_eq]
    refine ⟨fun σ' H' => H' = H ∧ ∃ z, σ' = [some (.int ((Int.gcd j i : Nat) : Int)), z], ?_, ?_⟩
    · refine ⟨fun m σ' H' => H' = H ∧ ∃ x y : Nat, σ' = [some (.int (x : Int)), some (.int (y : Int))] ∧ m = y ∧ Nat.gcd x y = Int.gcd j i, ⟨j.natAbs, rfl, i.natAbs, j.natAbs, rfl, rfl, Nat.gcd_comm _ _⟩, ?_⟩
      rintro m σ' H' ⟨rfl, x, y, rfl, rfl, hg⟩
      by_cases hy : 0 < (m : Int)
      · refine ⟨_, rfl, _, _, rfl, rfl, true, congrArg V.bl (decide_eq_true hy), iteT ?_⟩
        refine ⟨fun σ2 H2 => H2 = H' ∧ σ2 = [some (.int (m : Int)), some (.int (((x % m : Nat)) : Int))], ?_, ?_⟩
        · rintro σ2 H2 ⟨rfl, rfl⟩
          exact ⟨x % m, Nat.mod_lt _ (by omega), rfl, m, x % m, rfl, rfl, by rw [← hg, Nat.gcd_comm x m, Nat.gcd_rec m x, Nat.gcd_comm]⟩
        · exact ⟨_, rfl, _, rfl, .inl ⟨_, rfl, _, rfl, _, _, rfl, rfl, hy, _, _, rfl, rfl, rfl⟩⟩
      · refine ⟨_, rfl, _, _, rfl, rfl, false, congrArg V.bl (decide_eq_false hy), iteF ⟨rfl, some (.int (m : Int)), ?_⟩⟩
        have : m = 0 := by omega
        subst this
        rw [← hg, Nat.gcd_zero_right]
    · rintro σ' H' ⟨rfl, z, rfl⟩
      exact ⟨_, rfl, hQ⟩
def sp__law_ratio (K : PySem.W.Frag) : Sp := sp2 fun a b H Q => ∃ n m : Int, a = .int n ∧ b = .int m ∧ m ≠ 0 ∧ m.natAbs < 2 ^ 8999 ∧ Ret (fun v H' => Fr K H' v (Rat.divInt n m)) H Q
abbrev N__law_ratio : List Str := ["_law_n", "_law_m", "_law_by"]
theorem sc__law_ratio : FnScope N__law_ratio ["_law_n", "_law_m"] (defScope BH.s__law_ratio) := ⟨rfl, rfl, rfl, by decide +kernel, rfl, by decide +kernel, by decide +kernel⟩
theorem w__law_ratio (T : Tx K mg za na nb pt) (D_ : Df K mg "_law_ratio" BH.s__law_ratio) (c__law_common : Cl P w K mg base 1 "_law_common" ["_law_one", "_law_two"] (sp__law_common K)) : Cl P w K mg base 2 "_law_ratio" ["_law_n", "_law_m"] (sp__law_ratio K) := by
  refine D_.ok sc__law_ratio (fun _ _ _ _ _ _ us hl => match us, hl with | [_, _], _ => rfl) (fun vs H Q E h => ?_) (fun f cdv A outer s H vs Q E hr h => ?_)
  · obtain ⟨_, _, rfl, _⟩ := h
    rfl
  · have hu := hu_of hr
    have hu64 := hu64_of hr
    obtain ⟨v_n, v_m, rfl, h⟩ := h
    refine ⟨_, (pss_cons (ps_set (i := 2) sc__law_ratio.nd rfl (.inl rfl) (pe_cl c__law_common (hr.mono (by decide)) (by rfl) (pa_cons (pv 0) (pa_cons (pv 1) pa_nil))))
      (pss_cons (ps_set (i := 2) sc__law_ratio.nd rfl (.inl rfl) (pe_ifExp (pt_cmpR op_gt (pv 1) pe_int (nomark _)) (pv 2) (pe_op op_sub pe_int (pv 2))))
      (pss_one (ps_ret (pe_tup (pa_cons (pe_op op_fdivG (pv 0) (pv 2)) (pa_cons (pe_op op_fdivG (pv 1) (pv 2)) pa_nil))))))), ?_⟩
    obtain ⟨n, m, rfl, rfl, hm, hs, hQ⟩ := h
    have hg0 : Int.gcd m n ≠ 0 := fun z => hm (Int.gcd_eq_zero_iff.mp z).1
    have hgl : (Int.gcd m n).log2 < 9000 := Nat.lt_trans (log2_small (Nat.lt_of_le_of_lt (Nat.le_of_dvd (by omega) (Nat.gcd_dvd_left _ _)) hs) (by decide)) (by decide)
    have done : ∀ by_ : Int, by_ = (if 0 < m then ((Int.gcd m n : Nat) : Int) else -((Int.gcd m n : Nat) : Int)) → CDivG 0 by_ ∧ ∀ p, H p = none → Q (.ref p) (upd H p (.tup [.int (n.fdiv by_), .int (m.fdiv by_)])) := fun by_ e => by
      obtain ⟨e1, e2⟩ := ratio_parts n m hm e
      refine ⟨⟨?_, ?_⟩, fun p hp => hQ _ _ (same_new hp) ⟨p, rfl, ?_⟩⟩
      · split at e <;> omega
      · have : by_.natAbs = Int.gcd m n := by split at e <;> omega
        rw [this]
        exact hgl
      · rw [← e1, ← e2]
        exact tup_new
    refine ⟨_, rfl, _, rfl, _, _, rfl, n, m, rfl, rfl, ?_⟩
    by_cases hp : 0 < m
    · obtain ⟨c, q⟩ := done _ (by rw [if_pos hp])
      exact ⟨_, rfl, _, _, rfl, rfl, true, congrArg V.bl (decide_eq_true hp), iteT ⟨_, rfl, _, rfl, _, rfl, _, _, rfl, rfl, c, _, rfl, _, rfl, _, _, rfl, rfl, c, sm2, q⟩⟩
    · obtain ⟨c, q⟩ := done (0 - ((Int.gcd m n : Nat) : Int)) (by rw [if_neg hp, Int.zero_sub])
      exact ⟨_, rfl, _, _, rfl, rfl, false, congrArg V.bl (decide_eq_false hp), iteF ⟨_, rfl, _, _, rfl, rfl, _, rfl, _, rfl, _, _, rfl, rfl, c, _, rfl, _, rfl, _, _, rfl, rfl, c, sm2, q⟩⟩
theorem whole_add {p q : Rat} (h1 : (p.den : Int) = 1) (h2 : (q.den : Int) = 1) : (p + q).num = p.num + q.num ∧ (p + q).den = 1 := by
  have a1 : p.den = 1 := by omega
  have a2 : q.den = 1 := by omega
  rw [← add_divInt, a1, a2, Rat.num_divInt, Rat.den_divInt]
  simp
theorem whole_mul {p q : Rat} (h1 : (p.den : Int) = 1) (h2 : (q.den : Int) = 1) : (p * q).num = p.num * q.num ∧ (p * q).den = 1 := by
  have a1 : p.den = 1 := by omega
  have a2 : q.den = 1 := by omega
  rw [← mul_divInt, a1, a2, Rat.num_divInt, Rat.den_divInt]
  simp
theorem den_ne (p q : Rat) : (p.den : Int) * (q.den : Int) ≠ 0 := by
  have := Int.mul_pos (den_pos p) (den_pos q)
  omega
def sp__law_sum (K : PySem.W.Frag) : Sp := sp2 fun a b H Q => ∃ p q, Fr K H a p ∧ Fr K H b q ∧ Fit p ∧ Fit q ∧ Ret (fun v H' => Fr K H' v (p + q)) H Q
abbrev N__law_sum : List Str := ["_law_a", "_law_b"]
theorem sc__law_sum : FnScope N__law_sum ["_law_a", "_law_b"] (defScope BH.s__law_sum) := ⟨rfl, rfl, rfl, by decide +kernel, rfl, by decide +kernel, by decide +kernel⟩
theorem w__law_sum (T : Tx K mg za na nb pt) (D_ : Df K mg "_law_sum" BH.s__law_sum) (c__law_ratio : Cl P w K mg base 2 "_law_ratio" ["_law_n", "_law_m"] (sp__law_ratio K)) : Cl P w K mg base 3 "_law_sum" ["_law_a", "_law_b"] (sp__law_sum K) := by
  refine D_.ok sc__law_sum (fun _ _ _ _ _ _ us hl => match us, hl with | [_, _], _ => rfl) (fun vs H Q E h => ?_) (fun f cdv A outer s H vs Q E hr h => ?_)
  · obtain ⟨_, _, rfl, _⟩ := h
    rfl
  · have hu := hu_of hr
    have hu64 := hu64_of hr
    obtain ⟨v_a, v_b, rfl, h⟩ := h
    refine ⟨_, (pss_cons (ps_if (PW.pt (pw_and (pt_cmpR op_eq (pe_ix ix_tup (pv 0) pe_int (fun _ _ => rfl)) pe_int (nomark _)) (pw_and1 (pt_cmpR op_eq (pe_ix ix_tup (pv 1) pe_int (fun _ _ => rfl)) pe_int (nomark _))))) (pss_one (ps_ret (pe_tup (pa_cons (pe_op op_add (pe_ix ix_tup (pv 0) pe_int (fun _ _ => rfl)) (pe_ix ix_tup (pv 1) pe_int (fun _ _ => rfl))) (pa_cons pe_int pa_nil))))) pss_nil)
      (pss_one (ps_ret (pe_cl c__law_ratio (hr.mono (by decide)) (by rfl) (pa_cons (pe_op op_add (pe_op op_mulW (pe_ix ix_tup (pv 0) pe_int (fun _ _ => rfl)) (pe_ix ix_tup (pv 1) pe_int (fun _ _ => rfl))) (pe_op op_mulW (pe_ix ix_tup (pv 1) pe_int (fun _ _ => rfl)) (pe_ix ix_tup (pv 0) pe_int (fun _ _ => rfl)))) (pa_cons (pe_op op_mulW (pe_ix ix_tup (pv 0) pe_int (fun _ _ => rfl)) (pe_ix ix_tup (pv 1) pe_int (fun _ _ => rfl))) pa_nil)))))), ?_⟩
    obtain ⟨p, q, ⟨a1, rfl, h1⟩, ⟨a2, rfl, h2⟩, ⟨f1, f2⟩, ⟨g1, g2⟩, hQ⟩ := h
    rw [← den_abs] at f2 g2
    have rest : ∀ R : VK, (∀ v H', Same H H' → Fr K H' v (p + q) → R v H') → tCall (sp__law_ratio K) [] E0 (tCons (tOp (rI0 fun i j => .int (i + j)) (tOp (rI CMulW fun i j => .int (i * j)) (tOp (rIxT K) (tVar 0) (tC (.int 0))) (tOp (rIxT K) (tVar 1) (tC (.int 1)))) (tOp (rI CMulW fun i j => .int (i * j)) (tOp (rIxT K) (tVar 1) (tC (.int 0))) (tOp (rIxT K) (tVar 0) (tC (.int 1))))) (tCons (tOp (rI CMulW fun i j => .int (i * j)) (tOp (rIxT K) (tVar 0) (tC (.int 1))) (tOp (rIxT K) (tVar 1) (tC (.int 1)))) tNil)) [some (.ref a1), some (.ref a2)] H R := fun R hR => by
      refine ⟨_, rfl, _, _, _, _, rfl, rfl, h1, rfl, _, rfl, _, _, _, _, rfl, rfl, h2, rfl, _, _, rfl, rfl, fit_mulW f1 g2, _, rfl, _, _, _, _, rfl, rfl, h2, rfl, _, rfl, _, _, _, _, rfl, rfl, h1, rfl, _, _, rfl, rfl, fit_mulW g1 f2, _, _, rfl, rfl, _, rfl, _, _, _, _, rfl, rfl, h1, rfl, _, rfl, _, _, _, _, rfl, rfl, h2, rfl, _, _, rfl, rfl, fit_mulW f2 g2,
        _, _, rfl, _, _, rfl, rfl, den_ne p q, big_mul f2 g2, fun v H' e r => ?_⟩
      rw [add_divInt] at r
      exact hR v H' e r
    by_cases z1 : (p.den : Int) = 1
    · refine ⟨_, rfl, _, _, _, _, rfl, rfl, h1, rfl, rfl, true, congrArg V.bl (by rw [dec_i, decide_eq_true z1]), iteT ?_⟩
      by_cases z2 : (q.den : Int) = 1
      · refine ⟨_, rfl, _, _, _, _, rfl, rfl, h2, rfl, rfl, true, congrArg V.bl (by rw [dec_i, decide_eq_true z2]), iteT ?_⟩
        refine ⟨_, rfl, _, _, _, _, rfl, rfl, h1, rfl, _, rfl, _, _, _, _, rfl, rfl, h2, rfl, _, _, rfl, rfl, sm2, fun r hr => hQ _ _ (same_new hr) ⟨r, rfl, ?_⟩⟩
        obtain ⟨e1, e2⟩ := whole_add z1 z2
        rw [e1, e2]
        exact tup_new
      · exact ⟨_, rfl, _, _, _, _, rfl, rfl, h2, rfl, rfl, false, congrArg V.bl (by rw [dec_i, decide_eq_false z2]), iteF (rest _ hQ)⟩
    · exact ⟨_, rfl, _, _, _, _, rfl, rfl, h1, rfl, rfl, false, congrArg V.bl (by rw [dec_i, decide_eq_false z1]), iteF (iteF (rest _ hQ))⟩
def sp__law_product (K : PySem.W.Frag) : Sp := sp2 fun a b H Q => ∃ p q, Fr K H a p ∧ Fr K H b q ∧ Fit p ∧ Fit q ∧ Ret (fun v H' => Fr K H' v (p * q)) H Q
abbrev N__law_product : List Str := ["_law_a", "_law_b"]
theorem sc__law_product : FnScope N__law_product ["_law_a", "_law_b"] (defScope BH.s__law_product) := ⟨rfl, rfl, rfl, by decide +kernel, rfl, by decide +kernel, by decide +kernel⟩
theorem w__law_product (T : Tx K mg za na nb pt) (D_ : Df K mg "_law_product" BH.s__law_product) (c__law_ratio : Cl P w K mg base 2 "_law_ratio" ["_law_n", "_law_m"] (sp__law_ratio K)) : Cl P w K mg base 3 "_law_product" ["_law_a", "_law_b"] (sp__law_product K) := by
  refine D_.ok sc__law_product (fun _ _ _ _ _ _ us hl => match us, hl with | [_, _], _ => rfl) (fun vs H Q E h => ?_) (fun f cdv A outer s H vs Q E hr h => ?_)
  · obtain ⟨_, _, rfl, _⟩ := h
    rfl
  · have hu := hu_of hr
    have hu64 := hu64_of hr
    obtain ⟨v_a, v_b, rfl, h⟩ := h
    refine ⟨_, (pss_cons (ps_if (PW.pt (pw_and (pt_cmpR op_eq (pe_ix ix_tup (pv 0) pe_int (fun _ _ => rfl)) pe_int (nomark _)) (pw_and1 (pt_cmpR op_eq (pe_ix ix_tup (pv 1) pe_int (fun _ _ => rfl)) pe_int (nomark _))))) (pss_one (ps_ret (pe_tup (pa_cons (pe_op op_mulW (pe_ix ix_tup (pv 0) pe_int (fun _ _ => rfl)) (pe_ix ix_tup (pv 1) pe_int (fun _ _ => rfl))) (pa_cons pe_int pa_nil))))) pss_nil)
      (pss_one (ps_ret (pe_cl c__law_ratio (hr.mono (by decide)) (by rfl) (pa_cons (pe_op op_mulW (pe_ix ix_tup (pv 0) pe_int (fun _ _ => rfl)) (pe_ix ix_tup (pv 1) pe_int (fun _ _ => rfl))) (pa_cons (pe_op op_mulW (pe_ix ix_tup (pv 0) pe_int (fun _ _ => rfl)) (pe_ix ix_tup (pv 1) pe_int (fun _ _ => rfl))) pa_nil)))))), ?_⟩
    obtain ⟨p, q, ⟨a1, rfl, h1⟩, ⟨a2, rfl, h2⟩, ⟨f1, f2⟩, ⟨g1, g2⟩, hQ⟩ := h
    rw [← den_abs] at f2 g2
    have m1 : CMul p.num q.num → True := fun _ => trivial
    have rest : ∀ R : VK, (∀ v H', Same H H' → Fr K H' v (p * q) → R v H') → tCall (sp__law_ratio K) [] E0 (tCons (tOp (rI CMulW fun i j => .int (i * j)) (tOp (rIxT K) (tVar 0) (tC (.int 0))) (tOp (rIxT K) (tVar 1) (tC (.int 0)))) (tCons (tOp (rI CMulW fun i j => .int (i * j)) (tOp (rIxT K) (tVar 0) (tC (.int 1))) (tOp (rIxT K) (tVar 1) (tC (.int 1)))) tNil)) [some (.ref a1), some (.ref a2)] H R := fun R hR => by
      refine ⟨_, rfl, _, _, _, _, rfl, rfl, h1, rfl, _, rfl, _, _, _, _, rfl, rfl, h2, rfl, _, _, rfl, rfl, fit_mulW f1 g1, _, rfl, _, _, _, _, rfl, rfl, h1, rfl, _, rfl, _, _, _, _, rfl, rfl, h2, rfl, _, _, rfl, rfl, fit_mulW f2 g2,
        _, _, rfl, _, _, rfl, rfl, den_ne p q, big_mul f2 g2, fun v H' e r => ?_⟩
      rw [mul_divInt] at r
      exact hR v H' e r
    by_cases z1 : (p.den : Int) = 1
    · refine ⟨_, rfl, _, _, _, _, rfl, rfl, h1, rfl, rfl, true, congrArg V.bl (by rw [dec_i, decide_eq_true z1]), iteT ?_⟩
      by_cases z2 : (q.den : Int) = 1
      · refine ⟨_, rfl, _, _, _, _, rfl, rfl, h2, rfl, rfl, true, congrArg V.bl (by rw [dec_i, decide_eq_true z2]), iteT ?_⟩
        refine ⟨_, rfl, _, _, _, _, rfl, rfl, h1, rfl, _, rfl, _, _, _, _, rfl, rfl, h2, rfl, _, _, rfl, rfl, fit_mulW f1 g1, sm2, fun r hr => hQ _ _ (same_new hr) ⟨r, rfl, ?_⟩⟩
        obtain ⟨e1, e2⟩ := whole_mul z1 z2
        rw [e1, e2]
        exact tup_new
      · exact ⟨_, rfl, _, _, _, _, rfl, rfl, h2, rfl, rfl, false, congrArg V.bl (by rw [dec_i, decide_eq_false z2]), iteF (rest _ hQ)⟩
    · exact ⟨_, rfl, _, _, _, _, rfl, rfl, h1, rfl, rfl, false, congrArg V.bl (by rw [dec_i, decide_eq_false z1]), iteF (iteF (rest _ hQ))⟩
theorem div_divInt (p q : Rat) (hq : q ≠ 0) : Rat.divInt (p.num * (q.den : Int)) ((p.den : Int) * q.num) = p * q⁻¹ := by
  rw [Rat.inv_def]
  have e := Rat.divInt_mul_divInt p.num (q.den : Int) (d₁ := (p.den : Int)) (d₂ := q.num)
  rw [Rat.num_divInt_den] at e
  exact e.symm
def sp__law_over (K : PySem.W.Frag) : Sp := sp2 fun a b H Q => ∃ p q, Fr K H a p ∧ Fr K H b q ∧ Fit p ∧ Fit q ∧ q ≠ 0 ∧ Ret (fun v H' => Fr K H' v (p * q⁻¹)) H Q
abbrev N__law_over : List Str := ["_law_a", "_law_b"]
theorem sc__law_over : FnScope N__law_over ["_law_a", "_law_b"] (defScope BH.s__law_over) := ⟨rfl, rfl, rfl, by decide +kernel, rfl, by decide +kernel, by decide +kernel⟩
theorem w__law_over (T : Tx K mg za na nb pt) (D_ : Df K mg "_law_over" BH.s__law_over) (c__law_ratio : Cl P w K mg base 2 "_law_ratio" ["_law_n", "_law_m"] (sp__law_ratio K)) : Cl P w K mg base 3 "_law_over" ["_law_a", "_law_b"] (sp__law_over K) := by
  refine D_.ok sc__law_over (fun _ _ _ _ _ _ us hl => match us, hl with | [_, _], _ => rfl) (fun vs H Q E h => ?_) (fun f cdv A outer s H vs Q E hr h => ?_)
  · obtain ⟨_, _, rfl, _⟩ := h
    rfl
  · have hu := hu_of hr
    have hu64 := hu64_of hr
    obtain ⟨v_a, v_b, rfl, h⟩ := h
    refine ⟨_, (pss_one (ps_ret (pe_cl c__law_ratio (hr.mono (by decide)) (by rfl) (pa_cons (pe_op op_mulW (pe_ix ix_tup (pv 0) pe_int (fun _ _ => rfl)) (pe_ix ix_tup (pv 1) pe_int (fun _ _ => rfl))) (pa_cons (pe_op op_mulW (pe_ix ix_tup (pv 0) pe_int (fun _ _ => rfl)) (pe_ix ix_tup (pv 1) pe_int (fun _ _ => rfl))) pa_nil))))), ?_⟩
    obtain ⟨p, q, ⟨a1, rfl, h1⟩, ⟨a2, rfl, h2⟩, ⟨f1, f2⟩, ⟨g1, g2⟩, hq, hQ⟩ := h
    rw [← den_abs] at f2 g2
    have nz : (p.den : Int) * q.num ≠ 0 := fun z => by
      rcases Int.mul_eq_zero.mp z with z | z
      · have := den_pos p
        omega
      · exact hq (num_zero.mp z)
    refine ⟨_, rfl, _, _, _, _, rfl, rfl, h1, rfl, _, rfl, _, _, _, _, rfl, rfl, h2, rfl, _, _, rfl, rfl, fit_mulW f1 g2, _, rfl, _, _, _, _, rfl, rfl, h1, rfl, _, rfl, _, _, _, _, rfl, rfl, h2, rfl, _, _, rfl, rfl, fit_mulW f2 g1,
      _, _, rfl, _, _, rfl, rfl, nz, big_mul f2 g1, fun v H' e r => ?_⟩
    rw [div_divInt p q hq] at r
    exact hQ v H' e r
/-! ### a drawn number -/
def NumOk (q : Rat) : Prop := q ≠ 0 ∧ q.num.natAbs ≤ 10 ^ 9 ∧ q.den ∣ 84
theorem numOk_of {t b : Int} (h1 : t ≠ 0) (h2 : t.natAbs ≤ 10 ^ 9) (h3 : 0 < b) (h4 : b.natAbs ∣ 84) : NumOk (Rat.divInt t b) := by
  refine ⟨fun z => ?_, ?_, ?_⟩
  · rw [← Rat.num_eq_zero, Rat.num_divInt, Int.sign_eq_one_of_pos h3, Int.one_mul] at z
    have := Int.eq_zero_of_ediv_eq_zero (Int.gcd_dvd_right _ _) z
    exact h1 this
  · rw [Rat.num_divInt, Int.sign_eq_one_of_pos h3, Int.one_mul]
    exact Nat.le_trans (Int.natAbs_ediv_le_natAbs _ _) h2
  · rw [Rat.den_divInt, if_neg (by omega)]
    exact Nat.dvd_trans (Nat.div_dvd_of_dvd (Nat.gcd_dvd_left _ _)) h4
def sp__law_number (K : PySem.W.Frag) : Sp := sp1 fun a H Q => ∃ p, a = .ref p ∧ WellAt H p ∧ RetW p (fun v H' => ∃ q, Fr K H' v q ∧ NumOk q) H Q
abbrev N__law_number : List Str := ["_law_well_here", "_law_tip", "_law_below"]
theorem sc__law_number : FnScope N__law_number ["_law_well_here"] (defScope BH.s__law_number) := ⟨rfl, rfl, rfl, by decide +kernel, rfl, by decide +kernel, by decide +kernel⟩
theorem w__law_number (T : Tx K mg za na nb pt) (D_ : Df K mg "_law_number" BH.s__law_number) (c__law_pick : Cl P w K mg base 2 "_law_pick" ["_law_well_here", "_law_some"] (sp__law_pick K)) (c__law_ratio : Cl P w K mg base 2 "_law_ratio" ["_law_n", "_law_m"] (sp__law_ratio K)) (c__law_take : Cl P w K mg base 1 "_law_take" ["_law_well_here", "_law_count"] (sp__law_take K)) : Cl P w K mg base 3 "_law_number" ["_law_well_here"] (sp__law_number K) := by
  refine D_.ok sc__law_number (fun _ _ _ _ _ _ us hl => match us, hl with | [_], _ => rfl) (fun vs H Q E h => ?_) (fun f cdv A outer s H vs Q E hr h => ?_)
  · obtain ⟨_, rfl, _⟩ := h
    rfl
  · have hu := hu_of hr
    have hu64 := hu64_of hr
    obtain ⟨v_well_here, rfl, h⟩ := h
    refine ⟨_, (Evl.pss_cut (ps_set (i := 1) sc__law_number.nd rfl (.inl rfl) (pe_ifExp (pt_cmpR op_gt (pe_cl c__law_take (hr.mono (by decide)) (by rfl) (pa_cons (pv 0) (pa_cons pe_int pa_nil))) pe_int (nomark _)) (pe_op op_add pe_int (pe_cl c__law_take (hr.mono (by decide)) (by rfl) (pa_cons (pv 0) (pa_cons pe_int pa_nil)))) (pe_op op_add pe_int (pe_cl c__law_take (hr.mono (by decide)) (by rfl) (pa_cons (pv 0) (pa_cons (pe_op op_pow pe_int pe_int) pa_nil))))))
      (Evl.pss_cut (ps_set (i := 2) sc__law_number.nd rfl (.inl rfl) (pe_cl c__law_pick (hr.mono (by decide)) (by rfl) (pa_cons (pv 0) (pa_cons (pe_tup (pa_cons pe_int (pa_cons pe_int (pa_cons pe_int (pa_cons pe_int (pa_cons pe_int (pa_cons pe_int (pa_cons pe_int (pa_cons pe_int pa_nil))))))))) pa_nil))))
      (pss_one (ps_ret (pe_cl c__law_ratio (hr.mono (by decide)) (by rfl) (pa_cons (pe_ifExp (pt_cmpR op_eq (pe_cl c__law_take (hr.mono (by decide)) (by rfl) (pa_cons (pv 0) (pa_cons pe_int pa_nil))) pe_int (nomark _)) (pv 1) (pe_op op_sub pe_int (pv 1))) (pa_cons (pv 2) pa_nil))))))), ?_⟩
    obtain ⟨p, rfl, hW, hQ⟩ := h
    refine ⟨fun σ' H' => ∃ tip : Int, σ' = [some (.ref p), some (.int tip), none] ∧ SameW p H H' ∧ WellAt H' p ∧ 1 ≤ tip ∧ tip ≤ 10 ^ 9, ?_, ?_⟩
    · refine ⟨_, rfl, _, _, rfl, p, 8, rfl, hW, rfl, by decide, by decide, fun v H1 e1 w1 ⟨d, hv, d0, d1⟩ => ⟨_, _, hv, rfl, ?_⟩⟩
      by_cases hd : 0 < d
      · refine ⟨true, congrArg V.bl (decide_eq_true hd), iteT ⟨_, rfl, _, _, rfl, p, 5, rfl, w1, rfl, by decide, by decide, fun v H2 e2 w2 ⟨d2, hv2, d3, d4⟩ => ⟨_, _, rfl, hv2, _, rfl, e1.trans e2, w2, by omega, by omega⟩⟩⟩
      · refine ⟨false, congrArg V.bl (decide_eq_false hd), iteF ⟨_, rfl, _, _, rfl, rfl, ⟨by decide, by decide, by decide⟩, _, _, rfl, p, 10 ^ 9, rfl, w1, rfl, by decide, by decide, fun v H2 e2 w2 ⟨d2, hv2, d3, d4⟩ => ⟨_, _, rfl, hv2, _, rfl, e1.trans e2, w2, by omega, by omega⟩⟩⟩
    · rintro σ' H1 ⟨tip, rfl, e1, w1, t1, t2⟩
      refine ⟨fun σ' H' => ∃ b : Int, σ' = [some (.ref p), some (.int tip), some (.int b)] ∧ SameW p H H' ∧ WellAt H' p ∧ 0 < b ∧ b < 8 ∧ b.natAbs ∣ 84, ?_, ?_⟩
      · refine ⟨_, rfl, small5 (by show 8 ≤ 100000; decide), fun t ht => ⟨_, _, rfl, p, t, _, rfl, w1.mono (same_new ht), rfl, tup_new, by decide, by decide, fun v H2 e2 w2 hv => ?_⟩⟩
        have x2 : SameW p H H2 := e1.trans ((SameW.of (same_new ht)).trans e2)
        simp only [List.mem_cons, List.not_mem_nil, or_false] at hv
        rcases hv with rfl | rfl | rfl | rfl | rfl | rfl | rfl | rfl
        all_goals exact ⟨_, rfl, x2, w2, by decide, by decide, by decide⟩
      · rintro σ' H2 ⟨b, rfl, e2, w2, b0, b1, b2⟩
        have bs : b.natAbs < 2 ^ 8999 := Nat.lt_of_lt_of_le (show b.natAbs < 2 ^ 3 by omega) (Nat.pow_le_pow_right (by decide) (by decide))
        refine ⟨_, rfl, _, _, rfl, p, 2, rfl, w2, rfl, by decide, by decide, fun v H3 e3 w3 ⟨d, hv, d0, d1⟩ => ?_⟩
        subst hv
        refine ⟨rfl, ?_⟩
        by_cases hd : d = 0
        · refine ⟨true, congrArg V.bl (by rw [dec_i, decide_eq_true hd]), iteT ⟨_, rfl, _, rfl, _, _, rfl, _, _, rfl, rfl, by omega, bs, fun v H4 e4 r => hQ v H4 ((e2.trans e3).trans (SameW.of e4)) (w3.mono e4) ⟨_, r, numOk_of (by omega) (by omega) b0 b2⟩⟩⟩
        · refine ⟨false, congrArg V.bl (by rw [dec_i, decide_eq_false hd]), iteF ⟨_, rfl, _, _, rfl, rfl, _, rfl, _, _, rfl, _, _, rfl, rfl, by omega, bs, fun v H4 e4 r => hQ v H4 ((e2.trans e3).trans (SameW.of e4)) (w3.mono e4) ⟨_, r, numOk_of (by omega) (by omega) b0 b2⟩⟩⟩

end
end BW
namespace BW
open PySem PySem.Spec PyProof.Rows L2 BS
/-! ### tuples stand -/
def ST (H H' : Hp) : Prop := ∀ b xs, Rd H b (.tup xs) → Rd H' b (.tup xs)
section
variable {K : PySem.W.Frag} {H H' H2 : Hp} {a d : Addr} {xs : List V}
theorem ST.of (e : Same H H') : ST H H' := fun b xs h => by
  rcases h with h | ⟨o, h⟩
  · exact .inl (e _ _ h)
  · exact .inr ⟨o, e _ _ h⟩
theorem ST.si (e : SI H H') : ST H H' := fun b xs h => by
  rcases h with h | ⟨o, h⟩
  · exact .inl (e _ _ (fun _ z => nomatch z) h)
  · exact .inr ⟨o, e _ _ (fun _ z => nomatch z) h⟩
theorem ST.trans (e : ST H H') (f : ST H' H2) : ST H H2 := fun b xs h => f b xs (e b xs h)
theorem st_t (e : ST H H') (h : SqT K H a xs) : SqT K H' a xs := by
  rcases h with h | h
  · exact .inl (e _ _ h)
  · exact .inr h
theorem Fr.st {v : V} {q : Rat} (h : Fr K H v q) (e : ST H H') : Fr K H' v q := by
  obtain ⟨a, rfl, h⟩ := h
  exact ⟨a, rfl, st_t e h⟩
theorem st_upd {u o : HO} (h : H d = some u) (n1 : ∀ xs, u ≠ .tup xs) (n2 : ∀ ob xs, u ≠ .frz ob (.tup xs)) : ST H (upd H d o) := fun b xs r => by
  rcases r with r | ⟨ob, r⟩
  · refine .inl ?_
    rw [upd_ne]
    · exact r
    · intro z
      rw [z, h] at r
      exact n1 xs (Option.some.inj r)
  · refine .inr ⟨ob, ?_⟩
    rw [upd_ne]
    · exact r
    · intro z
      rw [z, h] at r
      exact n2 ob xs (Option.some.inj r)
theorem st_dict {kvs : List (Key × V)} {o : HO} (h : H d = some (.dK kvs)) : ST H (upd H d o) := st_upd h (fun _ z => nomatch z) fun _ _ z => nomatch z
theorem st_lock {kvs : List (Key × V)} {ob : Obj} {o : HO} (h : H d = some (.frz ob (.dK kvs))) : ST H (upd H d o) := st_upd h (fun _ z => nomatch z) fun _ _ z => nomatch z
/-- behind a lock all is as it was -/
theorem unlock {u : HO} {od : Obj} (hd : H d = some u) (e : Same (upd H d (.frz od u)) H') : Same H (upd H' d u) := fun b o h => by
  by_cases z : b = d
  · rw [z, hd] at h
    rw [z, upd_same]
    exact h
  · rw [upd_ne z]
    exact e _ _ (by rw [upd_ne z]; exact h)
end
/-! ### the law's lots -/
def LotRep (K : PySem.W.Frag) (H : Hp) (kvs : List (Key × V)) (L : Pol) : Prop := Paired (fun (kv : Key × V) (x : Int × Rat) => kv.1 = Sum.inl x.1 ∧ Fr K H kv.2 x.2) kvs L
def LotL (K : PySem.W.Frag) (H : Hp) (v : V) (L : Pol) : Prop := ∃ a kvs, v = .ref a ∧ H a = some (.dK kvs) ∧ LotRep K H kvs L ∧ (L.map (·.1)).Nodup
def Lot (K : PySem.W.Frag) (H : Hp) (v : V) (f : LP) : Prop := ∃ L, LotL K H v L ∧ (∀ x ∈ L, x.2 ≠ 0) ∧ LP.of L = f
section
variable {K : PySem.W.Frag} {H H' : Hp} {kvs : List (Key × V)} {L : Pol}
theorem LotRep.st (h : LotRep K H kvs L) (e : ST H H') : LotRep K H' kvs L := Paired.mapP h fun _ _ x => ⟨x.1, x.2.st e⟩
theorem LotL.si {v : V} (h : LotL K H v L) (e : SI H H') : LotL K H' v L := by
  obtain ⟨a, kvs, rfl, ha, hr, hn⟩ := h
  exact ⟨a, kvs, rfl, e _ _ (fun _ z => nomatch z) ha, hr.st (ST.si e), hn⟩
theorem Lot.si {v : V} {f : LP} (h : Lot K H v f) (e : SI H H') : Lot K H' v f := by
  obtain ⟨L, hL, hc, hf⟩ := h
  exact ⟨L, hL.si e, hc, hf⟩
theorem Lot.mono {v : V} {f : LP} (h : Lot K H v f) (e : Same H H') : Lot K H' v f := h.si (SI.of e)
/-- the value at a key -/
theorem lot_find : ∀ {kvs : List (Key × V)} {L : Pol}, LotRep K H kvs L → (L.map (·.1)).Nodup → ∀ k : Int, (∃ v, valV kvs (Sum.inl k) = some v ∧ Fr K H v (coef L k)) ∨ (valV kvs (Sum.inl k) = none ∧ k ∉ L.map (·.1))
  | _, _, .nil, _, k => .inr ⟨rfl, by simp⟩
  | (k1, v1) :: r, (x :: L), .cons ⟨e1, h1⟩ t, hn, k => by
    have e1' : k1 = Sum.inl x.1 := e1
    subst e1'
    have hn2 := List.nodup_cons.mp hn
    by_cases e : x.1 = k
    · refine .inl ⟨v1, valV_pos (p := (Sum.inl x.1, v1)) (congrArg Sum.inl e), ?_⟩
      rw [coef_cons, if_pos e, coef_none (by rw [← e]; exact hn2.1), Rat.add_zero]
      exact h1
    · have ne : ¬ (Sum.inl x.1 : Key) = Sum.inl k := fun z => e (Sum.inl.inj z)
      rw [valV_neg (p := (Sum.inl x.1, v1)) ne, coef_cons, if_neg e, Rat.zero_add]
      rcases lot_find t hn2.2 k with ⟨v, hv, hf⟩ | ⟨hv, hk⟩
      · exact .inl ⟨v, hv, hf⟩
      · refine .inr ⟨hv, fun z => ?_⟩
        rcases List.mem_cons.mp z with z | z
        · exact e z.symm
        · exact hk z
theorem lot_get (h : LotRep K H kvs L) (hn : (L.map (·.1)).Nodup) {x : Int × Rat} (hx : x ∈ L) : ∃ v, valV kvs (Sum.inl x.1) = some v ∧ Fr K H v x.2 := by
  rcases lot_find h hn x.1 with ⟨v, hv, hf⟩ | ⟨_, hk⟩
  · rw [coef_mem hn hx] at hf
    exact ⟨v, hv, hf⟩
  · exact absurd (List.mem_map_of_mem hx) hk
/-- a number at a place -/
def putP (L : Pol) (k : Int) (q : Rat) : Pol := if k ∈ L.map (·.1) then L.map (fun x => if x.1 = k then (x.1, q) else x) else L ++ [(k, q)]
theorem putP_keys (L : Pol) (k : Int) (q : Rat) : (L.map fun x => if x.1 = k then (x.1, q) else x).map (·.1) = L.map (·.1) := by
  rw [List.map_map]
  refine List.map_congr_left fun x _ => ?_
  show (if x.1 = k then (x.1, q) else x).1 = x.1
  split <;> rfl
theorem coef_putm : ∀ (L : Pol) (k : Int) (q : Rat), (L.map (·.1)).Nodup → k ∈ L.map (·.1) → ∀ k', coef (L.map fun x => if x.1 = k then (x.1, q) else x) k' = if k' = k then q else coef L k'
  | [], k, q, _, h, _ => by simp at h
  | x :: r, k, q, hn, h, k' => by
    have hn2 := List.nodup_cons.mp hn
    rw [List.map_cons, coef_cons, coef_cons]
    by_cases e : x.1 = k
    · rw [if_pos e]
      have hr : (r.map fun x => if x.1 = k then (x.1, q) else x) = r := by
        refine (List.map_congr_left fun y hy => ?_).trans (List.map_id _)
        rw [if_neg]
        · rfl
        · intro z
          exact hn2.1 (by show x.1 ∈ _; rw [e, ← z]; exact List.mem_map_of_mem hy)
      rw [hr]
      by_cases e2 : k' = k
      · rw [if_pos e2, if_pos (by rw [e, e2]), coef_none (by rw [e2, ← e]; exact hn2.1), Rat.add_zero]
      · rw [if_neg e2, if_neg (by rw [e]; exact fun z => e2 z.symm), if_neg (by rw [e]; exact fun z => e2 z.symm)]
    · have hm : k ∈ r.map (·.1) := by
        rcases List.mem_cons.mp h with z | z
        · exact absurd z.symm e
        · exact z
      rw [if_neg e, coef_putm r k q hn2.2 hm k']
      by_cases e2 : k' = k
      · rw [if_pos e2, if_pos e2, if_neg (by rw [e2]; exact e), Rat.zero_add]
      · rw [if_neg e2, if_neg e2]
theorem putP_nodup {k : Int} {q : Rat} (hn : (L.map (·.1)).Nodup) : ((putP L k q).map (·.1)).Nodup := by
  unfold putP
  split
  · rw [putP_keys]
    exact hn
  · rename_i h
    rw [List.map_append]
    exact List.nodup_append.mpr ⟨hn, by simp, fun a ha b hb z => h (by
      rw [← List.mem_singleton.mp (show b ∈ [k] from hb), ← z]
      exact ha)⟩
theorem putP_coef {k : Int} {q : Rat} (hn : (L.map (·.1)).Nodup) (k' : Int) : coef (putP L k q) k' = if k' = k then q else coef L k' := by
  unfold putP
  split
  · rename_i h
    exact coef_putm L k q hn h k'
  · rename_i h
    rw [coef_append, coef_cons, coef_nil, Rat.add_zero]
    by_cases e : k' = k
    · rw [if_pos e, if_pos e.symm, e, coef_none h, Rat.zero_add]
    · rw [if_neg e, if_neg (fun z => e z.symm), Rat.add_zero]
theorem putP_len {k : Int} {q : Rat} : (putP L k q).length ≤ L.length + 1 := by
  unfold putP
  split
  · rw [List.length_map]
    exact Nat.le_succ _
  · rw [List.length_append]
    exact Nat.le_refl _
theorem pr_map {α β α' β' : Type} {F : α → β → Prop} {G : α' → β' → Prop} {f : α → α'} {g : β → β'} (h : ∀ a b, F a b → G (f a) (g b)) : ∀ {xs : List α} {ys : List β}, Paired F xs ys → Paired G (xs.map f) (ys.map g)
  | _, _, .nil => .nil
  | _, _, .cons r t => .cons (h _ _ r) (pr_map h t)
theorem keys_of (h : LotRep K H kvs L) (k : Int) : (kvs.any fun kv => decide (kv.1 = Sum.inl k)) = decide (k ∈ L.map (·.1)) := by
  induction h with
  | nil => rfl
  | @cons kv x _ _ r t ih =>
    rw [List.any_cons, ih, r.1, List.map_cons, Bool.eq_iff_iff]
    simp only [Bool.or_eq_true, decide_eq_true_eq, List.mem_cons]
    constructor
    · rintro (z | z)
      · exact .inl (Sum.inl.inj z).symm
      · exact .inr z
    · rintro (z | z)
      · exact .inl (congrArg Sum.inl z.symm)
      · exact .inr z
theorem putK_rep {v : V} {q : Rat} (h : LotRep K H kvs L) (k : Int) (hv : Fr K H v q) : LotRep K H (putK kvs (Sum.inl k) v) (putP L k q) := by
  unfold putK putP
  rw [keys_of h k]
  by_cases e : k ∈ L.map (·.1)
  · rw [if_pos (decide_eq_true e), if_pos e]
    refine pr_map (fun kv x r => ?_) h
    by_cases z : x.1 = k
    · have z2 : kv.1 = Sum.inl k := by rw [r.1, z]
      rw [if_pos z2, if_pos z]
      exact ⟨r.1, hv⟩
    · have z2 : ¬ kv.1 = Sum.inl k := fun w => z (Sum.inl.inj (r.1.symm.trans w))
      rw [if_neg z2, if_neg z]
      exact r
  · rw [if_neg (by simpa using e), if_neg e]
    exact pr_append h (.cons ⟨rfl, hv⟩ .nil)
theorem put_same {κ : Type} [DecidableEq κ] {more kvs : List (κ × V)} : (∀ kv ∈ more, ∀ kv2 ∈ kvs, kv2.1 ≠ kv.1) → (more.map (·.1)).Nodup → more.foldl (fun acc kv => putK acc kv.1 kv.2) kvs = kvs ++ more := by
  induction more generalizing kvs with
  | nil => intro _ _; rw [List.append_nil]; rfl
  | cons kv r ih =>
    intro h hn
    have hn2 := List.nodup_cons.mp hn
    rw [List.foldl_cons]
    have e : putK kvs kv.1 kv.2 = kvs ++ [(kv.1, kv.2)] := by
      unfold putK
      rw [if_neg]
      intro z
      obtain ⟨kv2, h2, e2⟩ := List.any_eq_true.mp z
      exact h kv List.mem_cons_self kv2 h2 (of_decide_eq_true e2)
    rw [e, ih _ hn2.2, List.append_assoc]
    · rfl
    · intro kv3 h3 kv2 h2
      rcases List.mem_append.mp h2 with h2 | h2
      · exact h kv3 (List.mem_cons_of_mem _ h3) kv2 h2
      · rw [List.mem_singleton.mp h2]
        exact fun z => hn2.1 (by show kv.1 ∈ _; rw [show kv.1 = kv3.1 from z]; exact List.mem_map_of_mem h3)
theorem keys_map (h : LotRep K H kvs L) : kvs.map (·.1) = (L.map (·.1)).map Sum.inl := by
  induction h with
  | nil => rfl
  | cons r t ih => rw [List.map_cons, ih, r.1]; rfl
theorem merge_rep (h : LotRep K H kvs L) (hn : (L.map (·.1)).Nodup) : mergeK [] kvs = kvs := by
  unfold mergeK
  rw [put_same (fun _ _ _ z => by cases z)]
  · rfl
  · rw [keys_map h]
    exact List.Pairwise.map _ (fun a b (z : a ≠ b) w => z (Sum.inl.inj w)) hn
end
/-! ### dict([(.., ..) for k in lot if ..]) -/
section
variable {K : PySem.W.Frag} {tt : TT} {te : TE} {i j : Nat} {σ : L2.St} {H : Hp} {a : Addr} {kvs : List (Key × V)} {L : Pol} {Q : VK}
def PairAt (K : PySem.W.Frag) (H : Hp) (q : Addr) (x : Int × Rat) : Prop := ∃ vv, SqT K H q [.int x.1, vv] ∧ Fr K H vv x.2
theorem PairAt.si {H H' : Hp} {q : Addr} {x : Int × Rat} (h : PairAt K H q x) (e : SI H H') : PairAt K H' q x := by
  obtain ⟨vv, h1, h2⟩ := h
  exact ⟨vv, si_t e h1, h2.si e⟩
theorem PairAt.st {H H' : Hp} {q : Addr} {x : Int × Rat} (h : PairAt K H q x) (e : ST H H') : PairAt K H' q x := by
  obtain ⟨vv, h1, h2⟩ := h
  exact ⟨vv, st_t e h1, h2.st e⟩
theorem dlc (hσ : σ[i]? = some (some (.ref a))) (ha : H a = some (.dK kvs)) (hL : LotRep K H kvs L) (hn : (L.map (·.1)).Nodup) (small : L.length ≤ 50000) (p : Int × Rat → Bool) (g : Int × Rat → Int × Rat)
    (test : ∀ x ∈ L, ∀ v H2, DGet H2 a (.int x.1) (some v) → Fr K H2 v x.2 → ST H H2 → ∀ Q2 : Bool → Hp → Prop, (∀ H3, Same H2 H3 → Q2 (p x) H3) → tt ((wipe σ [j]).set j (some (.int x.1))) H2 Q2)
    (elt : ∀ x ∈ L, p x = true → ∀ v H2, DGet H2 a (.int x.1) (some v) → Fr K H2 v x.2 → ST H H2 → ∀ Q2 : VK, (∀ q H3, Same H2 H3 → PairAt K H3 q (g x) → Q2 (.ref q) H3) → te ((wipe σ [j]).set j (some (.int x.1))) H2 Q2)
    (done : ∀ D ps H', Same H H' → H' D = some (.lst (ps.map V.ref)) → Paired (fun q x => PairAt K H' q x) ps ((L.filter p).map g) → Q (.ref D) H') :
    tLockE (tLc (iKeys (tVar i)) (gName j) tt te [j]) σ H Q := by
  refine ⟨a, _, ha, trivial, fun od => ⟨_, hσ, a, od, rfl, .inl ⟨kvs, upd_same, fun D hD => ?_⟩⟩⟩
  have hlen : kvs.length = L.length := Paired.length hL
  have s0 : ST H (upd H a (.frz od (.dK kvs))) := st_dict ha
  refine lc_it walk_keys (fun i H2 => ∃ ps : List Addr, Same (upd H a (.frz od (.dK kvs))) H2 ∧ H2 D = some (.lst (ps.map V.ref)) ∧ Paired (fun q x => PairAt K H2 q x) ps (((L.take i).filter p).map g)) ⟨[], same_new hD, upd_same, .nil⟩ (fun i H2 _ ⟨_, e, _⟩ => e _ _ upd_same) ?_ ?_
  · rintro m x H9 H2 hm ⟨ps, e, hacc, hps⟩ ⟨e9, k, v, hk, rfl⟩
    subst e9
    obtain ⟨x0, hx0, ek, hv⟩ := pr_get hL hk
    have ek' : k = Sum.inl x0.1 := ek
    subst ek'
    have hxL : x0 ∈ L := List.mem_of_getElem? hx0
    have st2 : ST H H2 := s0.trans (ST.of e)
    have hval : valV kvs (Sum.inl x0.1) = some v := by
      obtain ⟨v', hv', _⟩ := lot_get hL hn hxL
      have nk : (kvs.map (·.1)).Nodup := by
        rw [keys_map hL]
        exact List.Pairwise.map _ (fun a b (z : a ≠ b) w => z (Sum.inl.inj w)) hn
      obtain ⟨kv, h1, h2⟩ := Option.map_eq_some_iff.mp (show (kvs.find? fun kv => decide (kv.1 = Sum.inl x0.1)).map (·.2) = some v' from hv')
      have h3 : kv.1 = Sum.inl x0.1 := of_decide_eq_true (List.find?_some (p := fun kv : Key × V => decide (kv.1 = Sum.inl x0.1)) h1)
      obtain ⟨n, hn1, hn2⟩ := List.getElem_of_mem (List.mem_of_find?_eq_some h1)
      have h5 : kvs[n]? = some kv := by rw [List.getElem?_eq_getElem hn1, hn2]
      have e1 : (kvs.map (·.1))[n]? = some (Sum.inl x0.1) := by rw [List.getElem?_map, h5]; exact congrArg some h3
      have e2 : (kvs.map (·.1))[m]? = some (Sum.inl x0.1) := by rw [List.getElem?_map, hk]; rfl
      have e3 : n = m := nd_ix nk e1 e2
      rw [e3, hk] at h5
      have h6 : (Sum.inl x0.1, v) = kv := Option.some.inj h5
      rw [hv', ← h2, ← h6]
    have hget : DGet H2 a (.int x0.1) (some v) := .inl ⟨kvs, Sum.inl x0.1, .inr ⟨od, e _ _ upd_same⟩, rfl, hval.symm⟩
    refine ⟨wipe1 _, test x0 hxL v H2 hget (hv.st st2) st2 _ fun H3 e3 => ?_⟩
    have hget3 : DGet H3 a (.int x0.1) (some v) := .inl ⟨kvs, Sum.inl x0.1, .inr ⟨od, e3 _ _ (e _ _ upd_same)⟩, rfl, hval.symm⟩
    have tk : (L.take (m + 1)).filter p = (L.take m).filter p ++ [x0].filter p := by
      rw [List.take_add_one, hx0, List.filter_append]
      rfl
    cases hp : p x0 with
    | true =>
      refine iteT (elt x0 hxL hp v H3 hget3 (hv.st (st2.trans (ST.of e3))) (st2.trans (ST.of e3)) _ fun q H4 e4 hq => ?_)
      have e34 := e3.trans e4
      have hacc4 := e34 _ _ hacc
      have s4 : SI H4 (upd H4 D (.lst (ps.map V.ref ++ [.ref q]))) := si_set hacc4
      refine ⟨_, hacc4, small5l ?_, ps ++ [q], same_mut (e.trans e34) hD, by rw [upd_same, List.map_append]; rfl, ?_⟩
      · rw [List.length_map, Paired.length hps, List.length_map]
        have h1 := List.length_filter_le p (L.take m)
        have h2 := List.length_take_le m L
        omega
      · rw [tk, List.filter_cons, if_pos hp, List.map_append]
        exact pr_append (Paired.mapP hps fun _ _ z => (z.si (SI.of e34)).si s4) (.cons (hq.si s4) .nil)
    | false =>
      refine iteF ⟨ps, e.trans e3, e3 _ _ hacc, ?_⟩
      rw [tk, List.filter_cons, if_neg (by rw [hp]; decide), List.filter_nil, List.append_nil]
      exact Paired.mapP hps fun _ _ z => z.si (SI.of e3)
  · rintro H2 ⟨ps, e, hacc, hps⟩
    rw [hlen, List.take_length] at hps
    have hfr : H2 a = some (.frz od (.dK kvs)) := e _ _ upd_same
    refine ⟨hfr, done D ps _ (unlock ha e) ?_ (Paired.mapP hps fun _ _ z => z.st (st_lock hfr))⟩
    rw [upd_ne]
    · exact hacc
    · intro z
      rw [z, hfr] at hacc
      cases hacc
/-- the dict that is made of the pairs -/
theorem dict_done {D : Addr} {ps : List Addr} {L' : Pol} (hD : H D = some (.lst (ps.map V.ref))) (hp : Paired (fun q x => PairAt K H q x) ps L') (hn : (L'.map (·.1)).Nodup)
    (q : ∀ l kvs, H l = none → LotRep K (upd H l (.dK kvs)) kvs L' → Q (.ref l) (upd H l (.dK kvs))) :
    ∃ (b : Addr) (qs : List Addr) (kvs : List (Key × V)), [V.ref D] = [.ref b] ∧ SqL K H b (qs.map V.ref) ∧ Paired (fun p kv => SqT K H p [kV kv.1, kv.2]) qs kvs ∧ ∀ p, H p = none → Q (.ref p) (upd H p (.dK (mergeK [] kvs))) := by
  have key : ∀ {ps : List Addr} {L' : Pol}, Paired (fun q x => PairAt K H q x) ps L' → ∃ kvs : List (Key × V), Paired (fun p kv => SqT K H p [kV kv.1, kv.2]) ps kvs ∧ LotRep K H kvs L' := by
    intro ps L' h
    induction h with
    | nil => exact ⟨[], .nil, .nil⟩
    | @cons q x _ _ r t ih =>
      obtain ⟨kvs, h1, h2⟩ := ih
      obtain ⟨vv, r1, r2⟩ := r
      exact ⟨(Sum.inl x.1, vv) :: kvs, .cons r1 h1, .cons ⟨rfl, r2⟩ h2⟩
  obtain ⟨kvs, h1, h2⟩ := key hp
  refine ⟨D, ps, kvs, rfl, lst_at hD, h1, fun l hl => ?_⟩
  rw [merge_rep h2 hn]
  exact q l kvs hl (h2.st (ST.of (same_new hl)))
end
end BW
namespace BW
open PySem PySem.Spec PyProof.Rows L2 BS
section
variable {P : Program} {w : World} {K : PySem.W.Frag} {mg : Str → Option Value} {base : Heap} {za na nb : Addr} {pt : Tok}
/-! ### formal sums and lots -/
section
variable {K : PySem.W.Frag} {H H' : Hp}
theorem of_nz (L : Pol) : LP.of (L.filter fun x => decide (x.2 ≠ 0)) = LP.of L := by
  refine LP.of_eq fun k => ?_
  induction L with
  | nil => rfl
  | cons x r ih =>
    rw [List.filter_cons, coef_cons]
    by_cases q : x.2 = 0
    · rw [if_neg (by simpa using q), ih, q, ite_self, Rat.zero_add]
    · rw [if_pos (decide_eq_true q), coef_cons, ih]
theorem of_later (L : Pol) (d : Int) : LP.of (L.map fun x => (x.1 + d, x.2)) = LP.mono 1 d * LP.of L := by
  show _ = LP.of [(d, (1 : Rat))] * LP.of L
  rw [← LP.of_mulL]
  unfold mulL
  rw [List.flatMap_cons, List.flatMap_nil, List.append_nil]
  congr 1
  refine List.map_congr_left fun x _ => ?_
  show (x.1 + d, x.2) = (d + x.1, 1 * x.2)
  rw [Int.add_comm, Rat.one_mul]
theorem of_times (L : Pol) (c : Rat) : LP.of (L.map fun x => (x.1, x.2 * c)) = LP.mono c 0 * LP.of L := by
  show _ = LP.of [((0 : Int), c)] * LP.of L
  rw [← LP.of_mulL]
  unfold mulL
  rw [List.flatMap_cons, List.flatMap_nil, List.append_nil]
  congr 1
  refine List.map_congr_left fun x _ => ?_
  show (x.1, x.2 * c) = (0 + x.1, c * x.2)
  rw [Int.zero_add, Rat.mul_comm]
theorem of_part (L : Pol) (i : Int) (k : Int) : coef ((L.filter fun x => decide ((x.1 - i) % 2 = 0)).map fun x => ((x.1 - i) / 2, x.2)) k = coef L (2 * k + i) := by
  induction L with
  | nil => rfl
  | cons x r ih =>
    rw [List.filter_cons]
    by_cases q : (x.1 - i) % 2 = 0
    · rw [if_pos (decide_eq_true q), List.map_cons, coef_cons, ih, coef_cons]
      congr 1
      by_cases e : x.1 = 2 * k + i
      · rw [if_pos e, if_pos (by show (x.1 - i) / 2 = k; omega)]
      · rw [if_neg e, if_neg (by show ¬ (x.1 - i) / 2 = k; omega)]
    · rw [if_neg (by simpa using q), ih, coef_cons, if_neg (by omega), Rat.zero_add]
theorem nd_map {L : Pol} (f : Int → Int) (g : Int × Rat → Rat) (hf : ∀ a b, f a = f b → a = b) (h : (L.map (·.1)).Nodup) : ((L.map fun x => (f x.1, g x)).map (·.1)).Nodup := by
  rw [List.map_map, show ((fun x : Int × Rat => x.1) ∘ fun x : Int × Rat => (f x.1, g x)) = f ∘ (·.1) from rfl, ← List.map_map]
  exact List.Pairwise.map _ (fun a b (z : a ≠ b) w => z (hf _ _ w)) h
theorem nd_filter {L : Pol} (p : Int × Rat → Bool) (h : (L.map (·.1)).Nodup) : ((L.filter p).map (·.1)).Nodup := List.Pairwise.sublist (List.Sublist.map _ List.filter_sublist) h
theorem nd_part {L : Pol} (i : Int) (h : (L.map (·.1)).Nodup) : (((L.filter fun x => decide ((x.1 - i) % 2 = 0)).map fun x => ((x.1 - i) / 2, x.2)).map (·.1)).Nodup := by
  have h2 := nd_filter (fun x => decide ((x.1 - i) % 2 = 0)) h
  rw [List.map_map]
  refine (List.pairwise_map.mpr ?_)
  refine List.Pairwise.imp_of_mem (fun {a b} ha hb (z : a.1 ≠ b.1) w => z ?_) (List.pairwise_map.mp h2)
  have h1 := of_decide_eq_true (List.mem_filter.mp ha).2
  have h3 := of_decide_eq_true (List.mem_filter.mp hb).2
  have w2 : (a.1 - i) / 2 = (b.1 - i) / 2 := w
  omega
/-- few places, few numbers -/
theorem few {ks : List Int} {r : Nat} (hn : ks.Nodup) (h : ∀ k ∈ ks, k.natAbs ≤ r) : ks.length ≤ 2 * r + 1 := by
  let l : IPol := (List.range (2 * r + 1)).map fun i : Nat => ((i : Int) - (r : Int), (1 : Int))
  have ones : ∀ (l : IPol), (∀ x ∈ l, x.2 = 1) → ∀ k, 0 ≤ icoef l k ∧ ((k, (1 : Int)) ∈ l → 1 ≤ icoef l k) := by
    intro l
    induction l with
    | nil => intro _ k; exact ⟨Int.le_refl _, fun z => by cases z⟩
    | cons x s ih =>
      intro hx k
      obtain ⟨i1, i2⟩ := ih (fun y hy => hx y (List.mem_cons_of_mem _ hy)) k
      have x1 := hx x List.mem_cons_self
      constructor
      · show 0 ≤ (if x.1 = k then x.2 else 0) + icoef s k
        split <;> omega
      · intro hm
        show 1 ≤ (if x.1 = k then x.2 else 0) + icoef s k
        rcases List.mem_cons.mp hm with e | e
        · rw [if_pos (by rw [← e])]
          omega
        · have := i2 e
          split <;> omega
  have hl : nrm l = 2 * r + 1 := by
    show (((List.range (2 * r + 1)).map fun i : Nat => ((i : Int) - (r : Int), (1 : Int))).map fun x => x.2.natAbs).sum = _
    rw [List.map_map]
    show ((List.range (2 * r + 1)).map fun _ => 1).sum = _
    rw [List.map_const', List.sum_replicate_nat, List.length_range, Nat.mul_one]
  have h1 := sum_icoef l ks hn
  rw [hl] at h1
  have h2 : (ks.map fun _ => 1).sum = ks.length := by rw [List.map_const', List.sum_replicate_nat, Nat.mul_one]
  rw [← h2]
  refine Nat.le_trans ?_ h1
  have : ∀ ms : List Int, (∀ k ∈ ms, k ∈ ks) → (ms.map fun _ => 1).sum ≤ (ms.map fun k => (icoef l k).natAbs).sum := by
    intro ms
    induction ms with
    | nil => intro _; exact Nat.le_refl _
    | cons k s ih =>
      intro hk
      rw [List.map_cons, List.map_cons, List.sum_cons, List.sum_cons]
      refine Nat.add_le_add ?_ (ih fun y hy => hk y (List.mem_cons_of_mem _ hy))
      have hr := h k (hk k List.mem_cons_self)
      have := (ones l (fun x hx => by obtain ⟨_, _, rfl⟩ := List.mem_map.mp hx; rfl) k).2 (List.mem_map.mpr ⟨(k + r).toNat, List.mem_range.mpr (by omega), by
        show (((k + r).toNat : Int) - (r : Int), (1 : Int)) = (k, 1)
        rw [show (((k + r).toNat : Int) - (r : Int)) = k by omega]⟩)
      omega
  exact this ks fun _ h => h
theorem sup_keys {L : Pol} {f : LP} {r : Nat} (hn : (L.map (·.1)).Nodup) (hc : ∀ x ∈ L, x.2 ≠ 0) (hf : LP.of L = f) (hs : Sup r f) : (∀ x ∈ L, x.1.natAbs ≤ r) ∧ L.length ≤ 2 * r + 1 := by
  have k1 : ∀ x ∈ L, x.1.natAbs ≤ r := fun x hx => hs _ (by
    rw [← hf]
    show coef L x.1 ≠ 0
    rw [coef_mem hn hx]
    exact hc x hx)
  refine ⟨k1, ?_⟩
  have := few (r := r) hn fun k hk => by
    obtain ⟨x, hx, rfl⟩ := List.mem_map.mp hk
    exact k1 x hx
  rwa [List.length_map] at this
/-- a thing that was not there before -/
def Nw (H : Hp) (v : V) : Prop := ∃ l, v = .ref l ∧ H l = none
theorem Nw.of {v : V} (h : Nw H' v) (e : Same H H') : Nw H v := by
  obtain ⟨l, rfl, h⟩ := h
  exact ⟨l, rfl, e.free h⟩
def RetN (R : V → Hp → Prop) (H : Hp) (Q : VK) : Prop := ∀ v H', Same H H' → Nw H v → R v H' → Q v H'
/-- a lot's list is short -/
theorem Lot.open {v : V} {f : LP} {r : Nat} (h : Lot K H v f) (hs : Sup r f) : ∃ L a kvs, v = .ref a ∧ H a = some (.dK kvs) ∧ LotRep K H kvs L ∧ (L.map (·.1)).Nodup ∧ (∀ x ∈ L, x.2 ≠ 0) ∧ LP.of L = f ∧ (∀ x ∈ L, x.1.natAbs ≤ r) ∧ L.length ≤ 2 * r + 1 := by
  obtain ⟨L, ⟨a, kvs, rfl, ha, hr, hn⟩, hc, hf⟩ := h
  obtain ⟨k1, k2⟩ := sup_keys hn hc hf hs
  exact ⟨L, a, kvs, rfl, ha, hr, hn, hc, hf, k1, k2⟩
/-- the pairs' dict is a lot -/
theorem lotL_done {Q : VK} {D : Addr} {ps : List Addr} {L' : Pol} (hD : H D = some (.lst (ps.map V.ref))) (hp : Paired (fun q x => PairAt K H q x) ps L') (hn : (L'.map (·.1)).Nodup) (q : ∀ v H', Same H H' → Nw H v → LotL K H' v L' → Q v H') :
    ∃ (b : Addr) (qs : List Addr) (kvs : List (Key × V)), [V.ref D] = [.ref b] ∧ SqL K H b (qs.map V.ref) ∧ Paired (fun p kv => SqT K H p [kV kv.1, kv.2]) qs kvs ∧ ∀ p, H p = none → Q (.ref p) (upd H p (.dK (mergeK [] kvs))) :=
  dict_done hD hp hn fun l kvs hl hr => q _ _ (same_new hl) ⟨l, rfl, hl⟩ ⟨l, kvs, rfl, upd_same, hr, hn⟩
theorem fmod2 (i : Int) : i.fmod 2 = i % 2 := Int.fmod_eq_emod_of_nonneg _ (by decide)
theorem fdiv2 (i : Int) : i.fdiv 2 = i / 2 := Int.fdiv_eq_ediv_of_nonneg _ (by decide)
end
def sp__law_cleared (K : PySem.W.Frag) : Sp := sp1 fun a H Q => ∃ L, LotL K H a L ∧ L.length ≤ 50000 ∧ RetN (fun v H' => Lot K H' v (LP.of L)) H Q
abbrev N__law_cleared : List Str := ["_law_lot", "_law_k"]
theorem sc__law_cleared : FnScope N__law_cleared ["_law_lot"] (defScope BH.s__law_cleared) := ⟨rfl, rfl, rfl, by decide +kernel, rfl, by decide +kernel, by decide +kernel⟩
theorem w__law_cleared (T : Tx K mg za na nb pt) (D_ : Df K mg "_law_cleared" BH.s__law_cleared)  : Cl P w K mg base 1 "_law_cleared" ["_law_lot"] (sp__law_cleared K) := by
  refine D_.ok sc__law_cleared (fun _ _ _ _ _ _ us hl => match us, hl with | [_], _ => rfl) (fun vs H Q E h => ?_) (fun f cdv A outer s H vs Q E hr h => ?_)
  · obtain ⟨_, rfl, _⟩ := h
    rfl
  · have hu := hu_of hr
    have hu64 := hu64_of hr
    obtain ⟨v_lot, rfl, h⟩ := h
    refine ⟨_, (pss_one (ps_ret (pe_callTy (call_dictP rfl) (by rfl) T.dict (by decide +kernel) (pa_cons (pe_lock (pe_lc (own := [("_law_k", 1)]) (g := gName 1) rfl sc__law_cleared.nd (pi_keys (pv 0)) (blkOk_by (own := [("_law_k", 1)]) (N := N__law_cleared) (sc := defScope BH.s__law_cleared) (by decide +kernel)) (fun _ _ _ _ _ => pg_name (i := 1) sc__law_cleared.nd rfl (Or.inl rfl)) (fun _ _ _ _ _ => (pts_one (pt_cmpR op_ne (pe_ix (show IxR _ (rIxT K) from ix_tup) (pe_dget hu (pv 0) (pv 1) (fun _ _ => rfl)) pe_int (fun _ _ => rfl)) pe_int (nomark _)))) (fun _ _ _ _ _ => (pe_tup (pa_cons (pv 1) (pa_cons (pe_dget hu (pv 0) (pv 1) (fun _ _ => rfl)) pa_nil)))))) pa_nil)))), ?_⟩
    obtain ⟨L, ⟨a, kvs, rfl, ha, hL, hn⟩, hs, hQ⟩ := h
    refine dlc rfl ha hL hn hs (fun x => decide (x.2 ≠ 0)) (fun x => x) (fun x hx v H2 hg hv hst Q2 hQ2 => ?_) (fun x hx hp v H2 hg hv hst Q2 hQ2 => ?_) (fun D ps H' e hD hp => ?_)
    · obtain ⟨p, rfl, ht⟩ := id hv
      refine ⟨_, rfl, _, rfl, _, _, rfl, hg, _, _, _, _, rfl, rfl, ht, rfl, rfl, _, congrArg V.bl ?_, hQ2 _ (Same.refl _)⟩
      simp
    · exact ⟨_, rfl, _, rfl, _, rfl, _, _, rfl, hg, sm2, fun q hq => hQ2 q _ (same_new hq) ⟨v, tup_new, hv.mono (same_new hq)⟩⟩
    · refine lotL_done hD hp (by rw [List.map_id']; exact nd_filter _ hn) fun v H2 e2 n2 hl => hQ _ _ (e.trans e2) (n2.of e) ⟨_, hl, ?_, ?_⟩
      · intro x hx
        rw [List.map_id'] at hx
        exact of_decide_eq_true (List.mem_filter.mp hx).2
      · rw [List.map_id']
        exact of_nz L
def sp__law_later (K : PySem.W.Frag) : Sp := sp2 fun a b H Q => ∃ f d, Lot K H a f ∧ Sup 20000 f ∧ b = .int d ∧ RetN (fun v H' => Lot K H' v (LP.mono 1 d * f)) H Q
abbrev N__law_later : List Str := ["_law_lot", "_law_by", "_law_k"]
theorem sc__law_later : FnScope N__law_later ["_law_lot", "_law_by"] (defScope BH.s__law_later) := ⟨rfl, rfl, rfl, by decide +kernel, rfl, by decide +kernel, by decide +kernel⟩
theorem w__law_later (T : Tx K mg za na nb pt) (D_ : Df K mg "_law_later" BH.s__law_later)  : Cl P w K mg base 1 "_law_later" ["_law_lot", "_law_by"] (sp__law_later K) := by
  refine D_.ok sc__law_later (fun _ _ _ _ _ _ us hl => match us, hl with | [_, _], _ => rfl) (fun vs H Q E h => ?_) (fun f cdv A outer s H vs Q E hr h => ?_)
  · obtain ⟨_, _, rfl, _⟩ := h
    rfl
  · have hu := hu_of hr
    have hu64 := hu64_of hr
    obtain ⟨v_lot, v_by, rfl, h⟩ := h
    refine ⟨_, (pss_one (ps_ret (pe_callTy (call_dictP rfl) (by rfl) T.dict (by decide +kernel) (pa_cons (pe_lock (pe_lc (own := [("_law_k", 2)]) (g := gName 2) rfl sc__law_later.nd (pi_keys (pv 0)) (blkOk_by (own := [("_law_k", 2)]) (N := N__law_later) (sc := defScope BH.s__law_later) (by decide +kernel)) (fun _ _ _ _ _ => pg_name (i := 2) sc__law_later.nd rfl (Or.inl rfl)) (fun _ _ _ _ _ => pts_nil) (fun _ _ _ _ _ => (pe_tup (pa_cons (pe_op op_add (pv 2) (pv 1)) (pa_cons (pe_dget hu (pv 0) (pv 2) (fun _ _ => rfl)) pa_nil)))))) pa_nil)))), ?_⟩
    obtain ⟨f1, d, F1, S1, rfl, hQ⟩ := h
    obtain ⟨L, a, kvs, rfl, ha, hL, hn, hc, rfl, hk, hs⟩ := F1.open S1
    refine dlc rfl ha hL hn (by omega) (fun x => true) (fun x => (x.1 + d, x.2)) (fun x hx v H2 hg hv hst Q2 hQ2 => ?_) (fun x hx hp v H2 hg hv hst Q2 hQ2 => ?_) (fun D ps H' e hD hp => ?_)
    · exact hQ2 H2 (Same.refl _)
    · exact ⟨_, rfl, _, rfl, _, _, rfl, rfl, _, rfl, _, rfl, _, _, rfl, hg, sm2, fun q hq => hQ2 q _ (same_new hq) ⟨v, tup_new, hv.mono (same_new hq)⟩⟩
    · rw [List.filter_eq_self.mpr fun _ _ => rfl] at hp
      refine lotL_done hD hp (nd_map (· + d) (·.2) (fun a b h => by omega) hn) fun v H2 e2 n2 hl => hQ _ _ (e.trans e2) (n2.of e) ⟨_, hl, ?_, of_later L d⟩
      intro x hx
      obtain ⟨y, hy, rfl⟩ := List.mem_map.mp hx
      exact hc y hy
def sp__law_spread (K : PySem.W.Frag) : Sp := sp1 fun a H Q => ∃ f, Lot K H a f ∧ Sup 20000 f ∧ RetN (fun v H' => Lot K H' v (LP.sp f)) H Q
abbrev N__law_spread : List Str := ["_law_lot", "_law_k"]
theorem sc__law_spread : FnScope N__law_spread ["_law_lot"] (defScope BH.s__law_spread) := ⟨rfl, rfl, rfl, by decide +kernel, rfl, by decide +kernel, by decide +kernel⟩
theorem w__law_spread (T : Tx K mg za na nb pt) (D_ : Df K mg "_law_spread" BH.s__law_spread)  : Cl P w K mg base 1 "_law_spread" ["_law_lot"] (sp__law_spread K) := by
  refine D_.ok sc__law_spread (fun _ _ _ _ _ _ us hl => match us, hl with | [_], _ => rfl) (fun vs H Q E h => ?_) (fun f cdv A outer s H vs Q E hr h => ?_)
  · obtain ⟨_, rfl, _⟩ := h
    rfl
  · have hu := hu_of hr
    have hu64 := hu64_of hr
    obtain ⟨v_lot, rfl, h⟩ := h
    refine ⟨_, (pss_one (ps_ret (pe_callTy (call_dictP rfl) (by rfl) T.dict (by decide +kernel) (pa_cons (pe_lock (pe_lc (own := [("_law_k", 1)]) (g := gName 1) rfl sc__law_spread.nd (pi_keys (pv 0)) (blkOk_by (own := [("_law_k", 1)]) (N := N__law_spread) (sc := defScope BH.s__law_spread) (by decide +kernel)) (fun _ _ _ _ _ => pg_name (i := 1) sc__law_spread.nd rfl (Or.inl rfl)) (fun _ _ _ _ _ => pts_nil) (fun _ _ _ _ _ => (pe_tup (pa_cons (pe_op op_mul pe_int (pv 1)) (pa_cons (pe_dget hu (pv 0) (pv 1) (fun _ _ => rfl)) pa_nil)))))) pa_nil)))), ?_⟩
    obtain ⟨f1, F1, S1, hQ⟩ := h
    obtain ⟨L, a, kvs, rfl, ha, hL, hn, hc, rfl, hk, hs⟩ := F1.open S1
    refine dlc rfl ha hL hn (by omega) (fun x => true) (fun x => (2 * x.1, x.2)) (fun x hx v H2 hg hv hst Q2 hQ2 => ?_) (fun x hx hp v H2 hg hv hst Q2 hQ2 => ?_) (fun D ps H' e hD hp => ?_)
    · exact hQ2 H2 (Same.refl _)
    · exact ⟨_, rfl, _, _, rfl, rfl, .inl (by decide), _, rfl, _, rfl, _, _, rfl, hg, sm2, fun q hq => hQ2 q _ (same_new hq) ⟨v, tup_new, hv.mono (same_new hq)⟩⟩
    · rw [List.filter_eq_self.mpr fun _ _ => rfl] at hp
      refine lotL_done hD hp (nd_map (2 * ·) (·.2) (fun a b h => by omega) hn) fun v H2 e2 n2 hl => hQ _ _ (e.trans e2) (n2.of e) ⟨_, hl, ?_, (LP.sp_of L).symm⟩
      intro x hx
      obtain ⟨y, hy, rfl⟩ := List.mem_map.mp hx
      exact hc y hy
def sp__law_part (K : PySem.W.Frag) : Sp := sp2 fun a b H Q => ∃ (f F : LP) (i : Int), Lot K H a f ∧ Sup 20000 f ∧ b = .int i ∧ (∀ k, F k = f (2 * k + i)) ∧ RetN (fun v H' => Lot K H' v F) H Q
abbrev N__law_part : List Str := ["_law_lot", "_law_odd", "_law_k"]
theorem sc__law_part : FnScope N__law_part ["_law_lot", "_law_odd"] (defScope BH.s__law_part) := ⟨rfl, rfl, rfl, by decide +kernel, rfl, by decide +kernel, by decide +kernel⟩
theorem w__law_part (T : Tx K mg za na nb pt) (D_ : Df K mg "_law_part" BH.s__law_part)  : Cl P w K mg base 1 "_law_part" ["_law_lot", "_law_odd"] (sp__law_part K) := by
  refine D_.ok sc__law_part (fun _ _ _ _ _ _ us hl => match us, hl with | [_, _], _ => rfl) (fun vs H Q E h => ?_) (fun f cdv A outer s H vs Q E hr h => ?_)
  · obtain ⟨_, _, rfl, _⟩ := h
    rfl
  · have hu := hu_of hr
    have hu64 := hu64_of hr
    obtain ⟨v_lot, v_odd, rfl, h⟩ := h
    refine ⟨_, (pss_one (ps_ret (pe_callTy (call_dictP rfl) (by rfl) T.dict (by decide +kernel) (pa_cons (pe_lock (pe_lc (own := [("_law_k", 2)]) (g := gName 2) rfl sc__law_part.nd (pi_keys (pv 0)) (blkOk_by (own := [("_law_k", 2)]) (N := N__law_part) (sc := defScope BH.s__law_part) (by decide +kernel)) (fun _ _ _ _ _ => pg_name (i := 2) sc__law_part.nd rfl (Or.inl rfl)) (fun _ _ _ _ _ => (pts_one (pt_cmpR op_eq (pe_op op_mod (pe_callTy call_int1 (by rfl) T.int (by decide +kernel) (pa_cons (pe_op op_sub (pv 2) (pv 1)) pa_nil)) pe_int) pe_int (nomark _)))) (fun _ _ _ _ _ => (pe_tup (pa_cons (pe_op op_fdiv (pe_op op_sub (pv 2) (pv 1)) pe_int) (pa_cons (pe_dget hu (pv 0) (pv 2) (fun _ _ => rfl)) pa_nil)))))) pa_nil)))), ?_⟩
    obtain ⟨f1, F, i, F1, S1, rfl, hF, hQ⟩ := h
    obtain ⟨L, a, kvs, rfl, ha, hL, hn, hc, rfl, hk, hs⟩ := F1.open S1
    refine dlc rfl ha hL hn (by omega) (fun x => decide ((x.1 - i) % 2 = 0)) (fun x => ((x.1 - i) / 2, x.2)) (fun x hx v H2 hg hv hst Q2 hQ2 => ?_) (fun x hx hp v H2 hg hv hst Q2 hQ2 => ?_) (fun D ps H' e hD hp => ?_)
    · refine ⟨_, rfl, _, rfl, _, _, rfl, rfl, .inl ⟨_, rfl, _, _, rfl, rfl, (show (0 : Int) < 2 by decide), rfl, _, congrArg V.bl ?_, hQ2 H2 (Same.refl _)⟩⟩
      rw [dec_i]
    · exact ⟨_, rfl, _, rfl, _, _, rfl, rfl, _, _, rfl, rfl, (by show (0 : Int) < 2 ∧ (2 : Int) < 1073741824; decide), _, rfl, _, rfl, _, _, rfl, hg, sm2, fun q hq => hQ2 q _ (same_new hq) ⟨v, tup_new, hv.mono (same_new hq)⟩⟩
    · refine lotL_done hD hp (nd_part i hn) fun v H2 e2 n2 hl => hQ _ _ (e.trans e2) (n2.of e) ⟨_, hl, ?_, ?_⟩
      · intro x hx
        obtain ⟨y, hy, rfl⟩ := List.mem_map.mp hx
        exact hc y (List.mem_filter.mp hy).1
      · refine LP.ext fun k => ?_
        rw [hF]
        exact of_part L i k
def sp__law_scaled (K : PySem.W.Frag) : Sp := sp2 fun a b H Q => ∃ f c, Lot K H a f ∧ Sup 20000 f ∧ Fr K H b c ∧ Fits f ∧ Fit c ∧ RetN (fun v H' => Lot K H' v (LP.mono c 0 * f)) H Q
abbrev N__law_scaled : List Str := ["_law_lot", "_law_by", "_law_k"]
theorem sc__law_scaled : FnScope N__law_scaled ["_law_lot", "_law_by"] (defScope BH.s__law_scaled) := ⟨rfl, rfl, rfl, by decide +kernel, rfl, by decide +kernel, by decide +kernel⟩
theorem w__law_scaled (T : Tx K mg za na nb pt) (D_ : Df K mg "_law_scaled" BH.s__law_scaled) (c__law_cleared : Cl P w K mg base 1 "_law_cleared" ["_law_lot"] (sp__law_cleared K)) (c__law_product : Cl P w K mg base 3 "_law_product" ["_law_a", "_law_b"] (sp__law_product K)) : Cl P w K mg base 4 "_law_scaled" ["_law_lot", "_law_by"] (sp__law_scaled K) := by
  refine D_.ok sc__law_scaled (fun _ _ _ _ _ _ us hl => match us, hl with | [_, _], _ => rfl) (fun vs H Q E h => ?_) (fun f cdv A outer s H vs Q E hr h => ?_)
  · obtain ⟨_, _, rfl, _⟩ := h
    rfl
  · have hu := hu_of hr
    have hu64 := hu64_of hr
    obtain ⟨v_lot, v_by, rfl, h⟩ := h
    refine ⟨_, (pss_one (ps_ret (pe_cl c__law_cleared (hr.mono (by decide)) (by rfl) (pa_cons (pe_callTy (call_dictP rfl) (by rfl) T.dict (by decide +kernel) (pa_cons (pe_lock (pe_lc (own := [("_law_k", 2)]) (g := gName 2) rfl sc__law_scaled.nd (pi_keys (pv 0)) (blkOk_by (own := [("_law_k", 2)]) (N := N__law_scaled) (sc := defScope BH.s__law_scaled) (by decide +kernel)) (fun _ _ _ _ _ => pg_name (i := 2) sc__law_scaled.nd rfl (Or.inl rfl)) (fun _ _ _ _ _ => pts_nil) (fun _ _ _ _ _ => (pe_tup (pa_cons (pv 2) (pa_cons (pe_cl c__law_product (hr.mono (by decide)) (by rfl) (pa_cons (pe_dget hu (pv 0) (pv 2) (fun _ _ => rfl)) (pa_cons (pv 1) pa_nil))) pa_nil)))))) pa_nil)) pa_nil)))), ?_⟩
    obtain ⟨f1, c, F1, S1, hb, Z1, Z2, hQ⟩ := h
    obtain ⟨L, a, kvs, rfl, ha, hL, hn, hc, rfl, hk, hs⟩ := F1.open S1
    refine dlc rfl ha hL hn (by omega) (fun x => true) (fun x => (x.1, x.2 * c)) (fun x hx v H2 hg hv hst Q2 hQ2 => ?_) (fun x hx hp v H2 hg hv hst Q2 hQ2 => ?_) (fun D ps H' e hD hp => ?_)
    · exact hQ2 H2 (Same.refl _)
    · have hfx : Fit x.2 := by
        have := Z1 x.1
        rw [show (LP.of L) x.1 = x.2 from coef_mem hn hx] at this
        exact this
      refine ⟨_, rfl, _, rfl, _, rfl, _, _, rfl, hg, _, rfl, _, _, rfl, x.2, c, hv, hb.st hst, hfx, Z2, fun v2 H3 e3 hv2 => ⟨sm2, fun q hq => hQ2 q _ (e3.trans (same_new hq)) ⟨v2, tup_new, hv2.mono (same_new hq)⟩⟩⟩
    · rw [List.filter_eq_self.mpr fun _ _ => rfl] at hp
      refine lotL_done (Q := fun v H2 => sp__law_cleared K [v] H2 Q E0) hD hp (nd_map (fun k => k) (fun x => x.2 * c) (fun a b h => h) hn) fun v H2 e2 n2 hl => ?_
      refine ⟨_, rfl, _, hl, (by rw [List.length_map]; omega), fun v2 H3 e3 n3 hv2 => hQ _ _ ((e.trans e2).trans e3) (n3.of (e.trans e2)) ?_⟩
      rw [of_times] at hv2
      exact hv2

end
end BW
namespace BW
open PySem PySem.Spec PyProof.Rows L2 BS
section
variable {P : Program} {w : World} {K : PySem.W.Frag} {mg : Str → Option Value} {base : Heap} {za na nb : Addr} {pt : Tok}
section
variable {K : PySem.W.Frag} {H H' : Hp} {kvs : List (Key × V)} {L : Pol}
/-- a key's own value -/
theorem val_at (hL : LotRep K H kvs L) (hn : (L.map (·.1)).Nodup) {m : Nat} {k : Key} {v : V} (hk : kvs[m]? = some (k, v)) : valV kvs k = some v := by
  have nk : (kvs.map (·.1)).Nodup := by
    rw [keys_map hL]
    exact List.Pairwise.map _ (fun a b (z : a ≠ b) w => z (Sum.inl.inj w)) hn
  obtain ⟨x0, hx0, ek, hv⟩ := pr_get hL hk
  have ek' : k = Sum.inl x0.1 := ek
  subst ek'
  obtain ⟨v', hv', _⟩ := lot_get hL hn (List.mem_of_getElem? hx0)
  obtain ⟨kv, h1, h2⟩ := Option.map_eq_some_iff.mp (show (kvs.find? fun kv => decide (kv.1 = Sum.inl x0.1)).map (·.2) = some v' from hv')
  have h3 : kv.1 = Sum.inl x0.1 := of_decide_eq_true (List.find?_some (p := fun kv : Key × V => decide (kv.1 = Sum.inl x0.1)) h1)
  obtain ⟨n, hn1, hn2⟩ := List.getElem_of_mem (List.mem_of_find?_eq_some h1)
  have h5 : kvs[n]? = some kv := by rw [List.getElem?_eq_getElem hn1, hn2]
  have e1 : (kvs.map (·.1))[n]? = some (Sum.inl x0.1) := by rw [List.getElem?_map, h5]; exact congrArg some h3
  have e2 : (kvs.map (·.1))[m]? = some (Sum.inl x0.1) := by rw [List.getElem?_map, hk]; rfl
  have e3 : n = m := nd_ix nk e1 e2
  rw [e3, hk] at h5
  have h6 : (Sum.inl x0.1, v) = kv := Option.some.inj h5
  rw [hv', ← h2, ← h6]
/-- lot.get(k, (0, 1)) with the pair new at p -/
theorem lot_getD (hL : LotRep K H kvs L) (hn : (L.map (·.1)).Nodup) {p : Addr} (hp : SqT K H p [.int 0, .int 1]) (k : Int) : Fr K H ((valV kvs (Sum.inl k)).getD (.ref p)) (coef L k) := by
  rcases lot_find hL hn k with ⟨v, hv, hf⟩ | ⟨hv, hk⟩
  · rw [hv]
    exact hf
  · rw [hv, coef_none hk]
    exact ⟨p, rfl, hp⟩
theorem not_in_take {i : Nat} {x : Int × Rat} (hn : (L.map (·.1)).Nodup) (hx : L[i]? = some x) : coef (L.take i) x.1 = 0 := by
  refine coef_none fun z => ?_
  obtain ⟨y, hy, e⟩ := List.mem_map.mp z
  obtain ⟨j, hj, hj2⟩ := List.getElem_of_mem hy
  have hj3 : (L.take i)[j]? = some y := by rw [List.getElem?_eq_getElem hj, hj2]
  rw [List.getElem?_take] at hj3
  split at hj3
  · rename_i hlt
    have e1 : (L.map (·.1))[j]? = some x.1 := by rw [List.getElem?_map, hj3, ← e]; rfl
    have e2 : (L.map (·.1))[i]? = some x.1 := by rw [List.getElem?_map, hx]; rfl
    have := nd_ix hn e1 e2
    omega
  · cases hj3
theorem putP_keys_le {k : Int} {q : Rat} {r : Nat} (h : ∀ x ∈ L, x.1.natAbs ≤ r) (hk : k.natAbs ≤ r) : ∀ x ∈ putP L k q, x.1.natAbs ≤ r := by
  intro x hx
  unfold putP at hx
  split at hx
  · obtain ⟨y, hy, rfl⟩ := List.mem_map.mp hx
    have := h y hy
    split
    · exact this
    · exact this
  · rcases List.mem_append.mp hx with hx | hx
    · exact h x hx
    · rw [List.mem_singleton.mp hx]
      exact hk
theorem keys_few {r : Nat} (hn : (L.map (·.1)).Nodup) (h : ∀ x ∈ L, x.1.natAbs ≤ r) : L.length ≤ 2 * r + 1 := by
  have := few (r := r) hn fun k hk => by
    obtain ⟨x, hx, rfl⟩ := List.mem_map.mp hk
    exact h x hx
  rwa [List.length_map] at this
theorem dict_parts {ps : List Addr} (hp : Paired (fun q x => PairAt K H q x) ps L) (hn : (L.map (·.1)).Nodup) : ∃ kvs, Paired (fun p kv => SqT K H p [kV kv.1, kv.2]) ps kvs ∧ mergeK [] kvs = kvs ∧ LotRep K H kvs L := by
  have key : ∀ {ps : List Addr} {L' : Pol}, Paired (fun q x => PairAt K H q x) ps L' → ∃ kvs : List (Key × V), Paired (fun p kv => SqT K H p [kV kv.1, kv.2]) ps kvs ∧ LotRep K H kvs L' := by
    intro ps L' h
    induction h with
    | nil => exact ⟨[], .nil, .nil⟩
    | @cons q x _ _ r t ih =>
      obtain ⟨kvs, h1, h2⟩ := ih
      obtain ⟨vv, r1, r2⟩ := r
      exact ⟨(Sum.inl x.1, vv) :: kvs, .cons r1 h1, .cons ⟨rfl, r2⟩ h2⟩
  obtain ⟨kvs, h1, h2⟩ := key hp
  exact ⟨kvs, h1, merge_rep h2 hn, h2⟩
theorem LotRep.len (h : LotRep K H kvs L) : kvs.length = L.length := Paired.length h
end
def sp__law_plus (K : PySem.W.Frag) : Sp := sp2 fun a b H Q => ∃ f g, Lot K H a f ∧ Lot K H b g ∧ Sup 5000 f ∧ Sup 5000 g ∧ Fits f ∧ Fits g ∧ RetN (fun v H' => Lot K H' v (f + g)) H Q
abbrev N__law_plus : List Str := ["_law_one", "_law_two", "_law_found", "_law_k"]
theorem sc__law_plus : FnScope N__law_plus ["_law_one", "_law_two"] (defScope BH.s__law_plus) := ⟨rfl, rfl, rfl, by decide +kernel, rfl, by decide +kernel, by decide +kernel⟩
theorem w__law_plus (T : Tx K mg za na nb pt) (D_ : Df K mg "_law_plus" BH.s__law_plus) (c__law_cleared : Cl P w K mg base 1 "_law_cleared" ["_law_lot"] (sp__law_cleared K)) (c__law_sum : Cl P w K mg base 3 "_law_sum" ["_law_a", "_law_b"] (sp__law_sum K)) : Cl P w K mg base 4 "_law_plus" ["_law_one", "_law_two"] (sp__law_plus K) := by
  refine D_.ok sc__law_plus (fun _ _ _ _ _ _ us hl => match us, hl with | [_, _], _ => rfl) (fun vs H Q E h => ?_) (fun f cdv A outer s H vs Q E hr h => ?_)
  · obtain ⟨_, _, rfl, _⟩ := h
    rfl
  · have hu := hu_of hr
    have hu64 := hu64_of hr
    obtain ⟨v_one, v_two, rfl, h⟩ := h
    refine ⟨_, (pss_cons (ps_set (i := 2) sc__law_plus.nd rfl (.inl rfl) (pe_callTy (call_dictP rfl) (by rfl) T.dict (by decide +kernel) (pa_cons (pe_lock (pe_lc (own := [("_law_k", 3)]) (g := gName 3) rfl sc__law_plus.nd (pi_keys (pv 0)) (blkOk_by (own := [("_law_k", 3)]) (N := N__law_plus) (sc := defScope BH.s__law_plus) (by decide +kernel)) (fun _ _ _ _ _ => pg_name (i := 3) sc__law_plus.nd rfl (Or.inl rfl)) (fun _ _ _ _ _ => pts_nil) (fun _ _ _ _ _ => (pe_tup (pa_cons (pv 3) (pa_cons (pe_dget hu (pv 0) (pv 3) (fun _ _ => rfl)) pa_nil)))))) pa_nil)))
      (pss_cons (ps_lock (ps_for PassesOwn.never rfl (pi_keys (pv 1)) (pg_name (i := 3) sc__law_plus.nd rfl (.inl rfl)) (pss_one (ps_dput hu (pv 2) (pv 3) (pe_cl c__law_sum (hr.mono (by decide)) (by rfl) (pa_cons (pe_dget2 hu (pv 2) (pv 3) (pe_tup (pa_cons pe_int (pa_cons pe_int pa_nil))) (by exact ⟨rfl, rfl, rfl, rfl⟩)) (pa_cons (pe_dget hu (pv 1) (pv 3) (fun _ _ => rfl)) pa_nil))) rfl))))
      (pss_one (ps_ret (pe_cl c__law_cleared (hr.mono (by decide)) (by rfl) (pa_cons (pv 2) pa_nil)))))), ?_⟩
    obtain ⟨f1, g1, F1, F2, S1, S2, Z1, Z2, hQ⟩ := h
    obtain ⟨L1, a, kvs1, rfl, ha, hL1, hn1, hc1, rfl, hk1, hs1⟩ := F1.open S1
    obtain ⟨L2, b, kvs2, rfl, hb, hL2, hn2, hc2, rfl, hk2, hs2⟩ := F2.open S2
    refine dlc rfl ha hL1 hn1 (by omega) (fun x => true) (fun x => x) (fun x hx v H2 hg hv hst Q2 hQ2 => hQ2 H2 (Same.refl _)) (fun x hx hp v H2 hg hv hst Q2 hQ2 => ⟨_, rfl, _, rfl, _, rfl, _, _, rfl, hg, sm2, fun q hq => hQ2 q _ (same_new hq) ⟨v, tup_new, hv.mono (same_new hq)⟩⟩) (fun D ps H' e hD hp => ?_)
    rw [List.filter_eq_self.mpr fun _ _ => rfl, List.map_id'] at hp
    obtain ⟨kvs3, d1, d2, hL3'⟩ := dict_parts hp hn1
    refine ⟨D, ps, kvs3, rfl, lst_at hD, d1, fun l hl => ?_⟩
    rw [d2]
    have hL3 := hL3'.st (ST.of (same_new (o := .dK kvs3) hl))
    have hl0 : H l = none := e.free hl
    have e1 : Same H (upd H' l (.dK kvs3)) := e.trans (same_new hl)
    have hb1 := e1 _ _ hb
    have nlb : l ≠ b := fun z => by rw [z, hb] at hl0; cases hl0
    refine ⟨b, _, hb1, trivial, fun od => ?_⟩
    have hlk : (upd (upd H' l (.dK kvs3)) b (.frz od (.dK kvs2))) l = some (.dK kvs3) := by rw [upd_ne nlb, upd_same]
    refine ⟨_, rfl, b, od, rfl, .inl ⟨kvs2, upd_same, for_it walk_keys (fun i σ' H2 => ∃ kvsF LF z, σ' = [some (.ref a), some (.ref b), some (.ref l), z] ∧ H2 b = some (.frz od (.dK kvs2)) ∧ H2 l = some (.dK kvsF) ∧ LotRep K H2 kvsF LF ∧ (LF.map (·.1)).Nodup ∧ (∀ x ∈ LF, x.1.natAbs ≤ 5000) ∧ (∀ k, coef LF k = coef (L1 ++ L2.take i) k) ∧ SameW b H H2 ∧ ST H H2)
      ⟨kvs3, L1, none, rfl, upd_same, hlk, hL3.st (st_dict hb1), hn1, hk1, fun k => by rw [List.take_zero, List.append_nil], (SameW.of e1).trans sw_upd, (ST.of e1).trans (st_dict hb1)⟩ (fun i σ' H2 _ ⟨_, _, _, _, h, _⟩ => h) ?_ ?_⟩⟩
    · rintro i x σ' H9 H2 hi ⟨kvsF, LF, z, rfl, h1, h2, h3, h4, h5, h6, h7, h8⟩ ⟨e9, k, v, hk, rfl⟩
      subst e9
      obtain ⟨x0, hx0, ek, hv⟩ := pr_get hL2 hk
      have ek' : k = Sum.inl x0.1 := ek
      subst ek'
      have hxL : x0 ∈ L2 := List.mem_of_getElem? hx0
      have hq : coef LF x0.1 = (LP.of L1) x0.1 := by
        rw [h6, coef_append, not_in_take hn2 hx0, Rat.add_zero]
        rfl
      have hg : (LP.of L2) x0.1 = x0.2 := coef_mem hn2 hxL
      refine ⟨_, rfl, l, rfl, .inl ⟨kvsF, .inl h2⟩, _, rfl, sm2, fun p hp => ⟨_, .inl ⟨kvsF, Sum.inl x0.1, .inl (same_new hp _ _ h2), rfl, rfl⟩, _, rfl, _, rfl, b, v, rfl, .inl ⟨kvs2, Sum.inl x0.1, .inr ⟨od, same_new hp _ _ h1⟩, rfl, (val_at hL2 hn2 hk).symm⟩, ?_⟩⟩
      have p0 : Same H2 (upd H2 p (.tup [.int 0, .int 1])) := same_new hp
      refine ⟨_, _, rfl, _, _, lot_getD (h3.st (ST.of p0)) h4 tup_new x0.1, hv.st (h8.trans (ST.of p0)), by rw [hq]; exact Z1 _, by rw [← hg]; exact Z2 _, fun v' H3 e3 hv' => ?_⟩
      have e23 := p0.trans e3
      have h2' := e23 _ _ h2
      have hlen := keys_few h4 h5
      refine ⟨_, rfl, _, rfl, l, _, rfl, DPut.k (k := Sum.inl x0.1) h2' (by rw [h3.len]; exact small5l (by omega)), ?_⟩
      have s4 : ST H3 (upd H3 l (.dK (putK kvsF (Sum.inl x0.1) v'))) := st_dict h2'
      refine ⟨_, putP LF x0.1 (coef LF x0.1 + x0.2), _, rfl, by rw [upd_ne (Ne.symm nlb)]; exact e23 _ _ h1, upd_same, (putK_rep (h3.st (ST.of e23)) x0.1 hv').st s4, putP_nodup h4, putP_keys_le h5 (hk2 x0 hxL), fun k => ?_, fun y o ny hy => ?_, h8.trans ((ST.of e23).trans s4)⟩
      · rw [putP_coef h4, List.take_add_one, hx0, ← List.append_assoc, coef_append, ← h6]
        show _ = _ + ((if x0.1 = k then x0.2 else 0) + 0)
        rw [Rat.add_zero]
        by_cases ek : k = x0.1
        · rw [if_pos ek, if_pos ek.symm, ek]
        · rw [if_neg ek, if_neg (Ne.symm ek), Rat.add_zero]
      · rw [upd_ne (ne_of_none hy hl0)]
        exact e23 _ _ (h7 y o ny hy)
    · rintro σ' H2 ⟨kvsF, LF, z, rfl, h1, h2, h3, h4, h5, h6, h7, h8⟩
      refine ⟨h1, _, rfl, _, rfl, LF, ⟨l, kvsF, rfl, by rw [upd_ne nlb]; exact h2, h3.st (st_lock h1), h4⟩, ?_, fun v H3 e3 n3 hv => ?_⟩
      · have := keys_few h4 h5
        omega
      · have eH : Same H (upd H2 b (.dK kvs2)) := fun y o hy => by
          by_cases ey : y = b
          · rw [ey, hb] at hy
            rw [ey, upd_same]
            exact hy
          · rw [upd_ne ey]
            exact h7 y o ey hy
        refine hQ _ _ (eH.trans e3) (n3.of eH) ?_
        have : LP.of LF = LP.of L1 + LP.of L2 := by
          rw [← LP.of_append]
          refine LP.of_eq fun k => ?_
          rw [h6, hL2.len, List.take_length]
        rw [← this]
        exact hv
def sp__law_times (K : PySem.W.Frag) : Sp := sp2 fun a b H Q => ∃ (f g : LP) (D E m n : Nat), a ≠ b ∧ Lot K H a f ∧ Lot K H b g ∧ Sz D m f ∧ Sz E n g ∧ D * E ≤ big ∧ 2 ^ (m + n) ≤ big ∧ Sup 5000 f ∧ Sup 5000 g ∧ RetN (fun v H' => Lot K H' v (f * g)) H Q
abbrev N__law_times : List Str := ["_law_one", "_law_two", "_law_found", "_law_j", "_law_k"]
theorem sc__law_times : FnScope N__law_times ["_law_one", "_law_two"] (defScope BH.s__law_times) := ⟨rfl, rfl, rfl, by decide +kernel, rfl, by decide +kernel, by decide +kernel⟩
theorem w__law_times (T : Tx K mg za na nb pt) (D_ : Df K mg "_law_times" BH.s__law_times) (c__law_cleared : Cl P w K mg base 1 "_law_cleared" ["_law_lot"] (sp__law_cleared K)) (c__law_product : Cl P w K mg base 3 "_law_product" ["_law_a", "_law_b"] (sp__law_product K)) (c__law_sum : Cl P w K mg base 3 "_law_sum" ["_law_a", "_law_b"] (sp__law_sum K)) : Cl P w K mg base 4 "_law_times" ["_law_one", "_law_two"] (sp__law_times K) := by
  refine D_.ok sc__law_times (fun _ _ _ _ _ _ us hl => match us, hl with | [_, _], _ => rfl) (fun vs H Q E h => ?_) (fun f cdv A outer s H vs Q E hr h => ?_)
  · obtain ⟨_, _, rfl, _⟩ := h
    rfl
  · have hu := hu_of hr
    have hu64 := hu64_of hr
    obtain ⟨v_one, v_two, rfl, h⟩ := h
    refine ⟨_, (pss_cons (ps_set (i := 2) sc__law_times.nd rfl (.inl rfl) pe_dnewK)
      (pss_cons (ps_lock (ps_for PassesOwn.never rfl (pi_keys (pv 0)) (pg_name (i := 3) sc__law_times.nd rfl (.inl rfl)) (pss_one (ps_lock (ps_for PassesOwn.never rfl (pi_keys (pv 1)) (pg_name (i := 4) sc__law_times.nd rfl (.inl rfl)) (pss_one (ps_dput hu (pv 2) (pe_op op_add (pv 3) (pv 4)) (pe_cl c__law_sum (hr.mono (by decide)) (by rfl) (pa_cons (pe_dget2 hu (pv 2) (pe_op op_add (pv 3) (pv 4)) (pe_tup (pa_cons pe_int (pa_cons pe_int pa_nil))) (by exact ⟨rfl, rfl, rfl, rfl⟩)) (pa_cons (pe_cl c__law_product (hr.mono (by decide)) (by rfl) (pa_cons (pe_dget hu (pv 0) (pv 3) (fun _ _ => rfl)) (pa_cons (pe_dget hu (pv 1) (pv 4) (fun _ _ => rfl)) pa_nil))) pa_nil))) rfl)))))))
      (pss_one (ps_ret (pe_cl c__law_cleared (hr.mono (by decide)) (by rfl) (pa_cons (pv 2) pa_nil)))))), ?_⟩
    obtain ⟨f1, g1, D1, E1, m1, n1, nab, F1, F2, Z1, Z2, hDE, hmn, S1, S2, hQ⟩ := h
    obtain ⟨L1, a, kvs1, rfl, ha, hL1, hn1, hc1, rfl, hk1, hs1⟩ := F1.open S1
    obtain ⟨L2, b, kvs2, rfl, hb, hL2, hn2, hc2, rfl, hk2, hs2⟩ := F2.open S2
    have nab : a ≠ b := fun z => nab (by rw [z])
    have B1 := Z1.can hn1 rfl
    have B2 := Z2.can hn2 rfl
    have B12 : BL (D1 * E1) (2 ^ (m1 + n1)) (mulL L1 L2) := by
      rw [Nat.pow_add]
      exact B1.mul B2
    have hD1 : 1 ≤ D1 := Z1.1
    have hE1 : 1 ≤ E1 := Z2.1
    have hDb : D1 ≤ big := Nat.le_trans (Nat.le_mul_of_pos_right _ hE1) hDE
    have hEb : E1 ≤ big := Nat.le_trans (Nat.le_mul_of_pos_left _ hD1) hDE
    have hmb : 2 ^ m1 ≤ big := Nat.le_trans (Nat.pow_le_pow_right (by decide) (by omega)) hmn
    have hnb : 2 ^ n1 ≤ big := Nat.le_trans (Nat.pow_le_pow_right (by decide) (by omega)) hmn
    intro l hl
    have x0 : Same H (upd H l (.dK [])) := same_new hl
    have nla : l ≠ a := fun z => by rw [z, ha] at hl; cases hl
    have nlb : l ≠ b := fun z => by rw [z, hb] at hl; cases hl
    refine ⟨a, _, x0 _ _ ha, trivial, fun oa => ⟨_, rfl, a, oa, rfl, .inl ⟨kvs1, upd_same, for_it walk_keys (fun i σ' H2 => ∃ kvsF LF z w, σ' = [some (.ref a), some (.ref b), some (.ref l), z, w] ∧ H2 a = some (.frz oa (.dK kvs1)) ∧ H2 b = some (.dK kvs2) ∧ H2 l = some (.dK kvsF) ∧ LotRep K H2 kvsF LF ∧ (LF.map (·.1)).Nodup ∧ (∀ x ∈ LF, x.1.natAbs ≤ 10000) ∧ (∀ k, coef LF k = coef (mulL (L1.take i) L2) k) ∧ (∀ y o, y ≠ a → y ≠ b → H y = some o → H2 y = some o) ∧ ST H H2)
      ⟨[], [], none, none, rfl, upd_same, ?_, ?_, .nil, List.nodup_nil, (fun _ z => by cases z), (fun _ => rfl), fun y o n1 n2 hy => ?_, (ST.of x0).trans (st_dict (x0 _ _ ha))⟩ (fun i σ' H2 _ ⟨_, _, _, _, _, h, _⟩ => h) ?_ ?_⟩⟩⟩
    · rw [upd_ne (Ne.symm nab)]; exact x0 _ _ hb
    · rw [upd_ne nla, upd_same]
    · rw [upd_ne n1]; exact x0 _ _ hy
    · rintro i x σ' H9 H2 hi ⟨kvsF, LF, z, w1, rfl, ga, gb, h2, h3, h4, h5, h6, h7, h8⟩ ⟨e9, k, v, hk, rfl⟩
      subst e9
      obtain ⟨x0', hx0, ek, hv⟩ := pr_get hL1 hk
      have ek' : k = Sum.inl x0'.1 := ek
      subst ek'
      have hxL : x0' ∈ L1 := List.mem_of_getElem? hx0
      refine ⟨b, _, gb, trivial, fun ob => ⟨_, rfl, b, ob, rfl, .inl ⟨kvs2, upd_same, for_it walk_keys (fun j σ' H2 => ∃ kvsF LF w, σ' = [some (.ref a), some (.ref b), some (.ref l), some (.int x0'.1), w] ∧ H2 a = some (.frz oa (.dK kvs1)) ∧ H2 b = some (.frz ob (.dK kvs2)) ∧ H2 l = some (.dK kvsF) ∧ LotRep K H2 kvsF LF ∧ (LF.map (·.1)).Nodup ∧ (∀ x ∈ LF, x.1.natAbs ≤ 10000) ∧ (∀ k, coef LF k = coef (got L1 L2 i j x0') k) ∧ (∀ y o, y ≠ a → y ≠ b → H y = some o → H2 y = some o) ∧ ST H H2)
        ⟨kvsF, LF, w1, rfl, ?_, upd_same, ?_, h3.st (st_dict gb), h4, h5, (fun k => by rw [got_zero]; exact h6 k), fun y o n1 n2 hy => ?_, h8.trans (st_dict gb)⟩ (fun j σ' H2 _ ⟨_, _, _, _, _, h, _⟩ => h) ?_ ?_⟩⟩⟩
      · rw [upd_ne nab]; exact ga
      · rw [upd_ne nlb]; exact h2
      · rw [upd_ne n2]; exact h7 y o n1 n2 hy
      · clear h2 h3 h4 h5 h6 h7 h8 ga gb
        rintro j y σ' H8 H2 hj ⟨kvsF, LF, w1, rfl, ga, gb, h2, h3, h4, h5, h6, h7, h8⟩ ⟨e9, k2, v2, hk2', rfl⟩
        subst e9
        obtain ⟨y0, hy0, ek, hv2⟩ := pr_get hL2 hk2'
        have ek' : k2 = Sum.inl y0.1 := ek
        subst ek'
        have hyL : y0 ∈ L2 := List.mem_of_getElem? hy0
        obtain ⟨C, hC⟩ := got_part (A := L1) (B := L2) (i := i) (j := j + 1) hx0
        have BT : BL (D1 * E1) (2 ^ (m1 + n1)) (got L1 L2 i (j + 1) x0') := BL.left (by rw [← hC]; exact B12)
        rw [got_succ hy0] at BT
        have fT : Fit (coef LF (x0'.1 + y0.1)) := by
          rw [h6]
          exact fit_of (BT.left.coef _) (Nat.mul_pos hD1 hE1) hDE hmn
        have fm : Fit (x0'.2 * y0.2) := fit_of (BT.mem (x := (x0'.1 + y0.1, x0'.2 * y0.2)) (List.mem_append_right _ List.mem_cons_self)) (Nat.mul_pos hD1 hE1) hDE hmn
        have f1' : Fit x0'.2 := fit_of (B1.mem hxL) hD1 hDb hmb
        have f2' : Fit y0.2 := fit_of (B2.mem hyL) hE1 hEb hnb
        refine ⟨_, rfl, l, rfl, .inl ⟨kvsF, .inl h2⟩, _, rfl, _, rfl, _, _, rfl, rfl, sm2, fun p hp => ⟨_, .inl ⟨kvsF, Sum.inl (x0'.1 + y0.1), .inl (same_new hp _ _ h2), rfl, rfl⟩, ?_⟩⟩
        have p0 : Same H2 (upd H2 p (.tup [.int 0, .int 1])) := same_new hp
        refine ⟨_, rfl, _, rfl, a, v, rfl, .inl ⟨kvs1, Sum.inl x0'.1, .inr ⟨oa, p0 _ _ ga⟩, rfl, (val_at hL1 hn1 hk).symm⟩, _, rfl, _, rfl, b, v2, rfl, .inl ⟨kvs2, Sum.inl y0.1, .inr ⟨ob, p0 _ _ gb⟩, rfl, (val_at hL2 hn2 hk2').symm⟩, _, _, rfl, _, _, hv.st (h8.trans (ST.of p0)), hv2.st (h8.trans (ST.of p0)), f1', f2', fun v3 H3 e3 r3 => ?_⟩
        refine ⟨_, _, rfl, _, _, (lot_getD (h3.st (ST.of p0)) h4 tup_new (x0'.1 + y0.1)).mono e3, r3, fT, fm, fun v4 H4 e4 r4 => ?_⟩
        have e24 := (p0.trans e3).trans e4
        have h2' := e24 _ _ h2
        have hlen := keys_few h4 h5
        refine ⟨_, rfl, _, rfl, _, rfl, _, _, rfl, rfl, l, _, rfl, DPut.k (k := Sum.inl (x0'.1 + y0.1)) h2' (by rw [h3.len]; exact small5l (by omega)), ?_⟩
        have s4 : ST H4 (upd H4 l (.dK (putK kvsF (Sum.inl (x0'.1 + y0.1)) v4))) := st_dict h2'
        have b1 := hk1 x0' hxL
        have b2 := hk2 y0 hyL
        refine ⟨_, putP LF (x0'.1 + y0.1) (coef LF (x0'.1 + y0.1) + x0'.2 * y0.2), _, rfl, ?_, ?_, upd_same, (putK_rep (h3.st (ST.of e24)) _ r4).st s4, putP_nodup h4, putP_keys_le h5 (by omega), fun k => ?_, fun y o n1 n2 hy => ?_, h8.trans ((ST.of e24).trans s4)⟩
        · rw [upd_ne (Ne.symm nla)]; exact e24 _ _ ga
        · rw [upd_ne (Ne.symm nlb)]; exact e24 _ _ gb
        · rw [putP_coef h4, got_succ hy0, coef_append, ← h6]
          show _ = _ + ((if x0'.1 + y0.1 = k then x0'.2 * y0.2 else 0) + 0)
          rw [Rat.add_zero]
          by_cases ek : k = x0'.1 + y0.1
          · rw [if_pos ek, if_pos ek.symm, ek]
          · rw [if_neg ek, if_neg (Ne.symm ek), Rat.add_zero]
        · rw [upd_ne (ne_of_none hy hl)]
          exact e24 _ _ (h7 y o n1 n2 hy)
      · clear h2 h3 h4 h5 h6 h7 h8 ga gb
        rintro σ' H2 ⟨kvsF, LF, w1, rfl, ga, gb, h2, h3, h4, h5, h6, h7, h8⟩
        refine ⟨gb, kvsF, LF, _, _, rfl, ?_, upd_same, ?_, h3.st (st_lock gb), h4, h5, fun k => ?_, fun y o n1 n2 hy => ?_, h8.trans (st_lock gb)⟩
        · rw [upd_ne nab]; exact ga
        · rw [upd_ne nlb]; exact h2
        · rw [h6, hL2.len, got_all hx0]
        · rw [upd_ne n2]; exact h7 y o n1 n2 hy
    · rintro σ' H2 ⟨kvsF, LF, z, w1, rfl, ga, gb, h2, h3, h4, h5, h6, h7, h8⟩
      refine ⟨ga, _, rfl, _, rfl, LF, ⟨l, kvsF, rfl, by rw [upd_ne nla]; exact h2, h3.st (st_lock ga), h4⟩, ?_, fun v H3 e3 n3 hv => ?_⟩
      · have := keys_few h4 h5
        omega
      · have eH : Same H (upd H2 a (.dK kvs1)) := fun y o hy => by
          by_cases ey : y = a
          · rw [ey, ha] at hy
            rw [ey, upd_same]
            exact hy
          · rw [upd_ne ey]
            by_cases ez : y = b
            · rw [ez, hb] at hy
              rw [ez, gb]
              exact hy
            · exact h7 y o ey ez hy
        refine hQ _ _ (eH.trans e3) (n3.of eH) ?_
        have : LP.of LF = LP.of L1 * LP.of L2 := by
          rw [← LP.of_mulL]
          refine LP.of_eq fun k => ?_
          rw [h6, hL1.len, List.take_length]
        rw [← this]
        exact hv
theorem keysV {K : PySem.W.Frag} {H : Hp} {kvs : List (Key × V)} {L : Pol} (h : LotRep K H kvs L) : (kvs.map fun kv => kV kv.1) = (L.map (·.1)).map V.int := by
  induction h with
  | nil => rfl
  | cons r t ih => rw [List.map_cons, List.map_cons, List.map_cons, ih, r.1]; rfl
theorem line_row {L : Pol} (hn : (L.map (·.1)).Nodup) (hc : ∀ x ∈ L, x.2 ≠ 0) {m M : Int} (hm : m ∈ L.map (·.1)) (hm2 : ∀ y, y ∈ L.map (·.1) → m ≤ y) (hM : M ∈ L.map (·.1)) (hM2 : ∀ y, y ∈ L.map (·.1) → y ≤ M) :
    RowOf m ((List.range (M + 1 - m).toNat).map fun i : Nat => (LP.of L) (m + (i : Int))) (LP.of L) := by
  have nz : ∀ k, k ∈ L.map (·.1) → (LP.of L) k ≠ 0 := fun k hk => by
    obtain ⟨x, hx, rfl⟩ := List.mem_map.mp hk
    show coef L x.1 ≠ 0
    rw [coef_mem hn hx]
    exact hc x hx
  have le := hm2 M hM
  have gd : ∀ i : Nat, i < (M + 1 - m).toNat → ((List.range (M + 1 - m).toNat).map fun i : Nat => (LP.of L) (m + (i : Int))).getD i 0 = (LP.of L) (m + (i : Int)) := fun i hi => by
    rw [List.getD_eq_getElem?_getD, List.getElem?_map, List.getElem?_range hi]
    rfl
  refine ⟨.inr ⟨fun z => ?_, ?_, ?_⟩, posL_range _ _ _ (fun k hk => coef_none fun z => ?_) (fun k hk => coef_none fun z => ?_)⟩
  · have := congrArg List.length z
    rw [List.length_map, List.length_range, List.length_nil] at this
    omega
  · rw [gd 0 (by omega), show m + ((0 : Nat) : Int) = m by omega]
    exact nz m hm
  · rw [List.length_map, List.length_range, gd _ (by omega), show m + (((M + 1 - m).toNat - 1 : Nat) : Int) = M by omega]
    exact nz M hM
  · have := hm2 k z
    omega
  · have := hM2 k z
    omega
def sp__law_line (K : PySem.W.Frag) : Sp := sp1 fun a H Q => ∃ f, Lot K H a f ∧ Sup 5000 f ∧ Ret (fun v H' => Row K H' v f) H Q
abbrev N__law_line : List Str := ["_law_lot", "_law_first", "_law_k"]
theorem sc__law_line : FnScope N__law_line ["_law_lot"] (defScope BH.s__law_line) := ⟨rfl, rfl, rfl, by decide +kernel, rfl, by decide +kernel, by decide +kernel⟩
theorem w__law_line (T : Tx K mg za na nb pt) (D_ : Df K mg "_law_line" BH.s__law_line)  : Cl P w K mg base 1 "_law_line" ["_law_lot"] (sp__law_line K) := by
  refine D_.ok sc__law_line (fun _ _ _ _ _ _ us hl => match us, hl with | [_], _ => rfl) (fun vs H Q E h => ?_) (fun f cdv A outer s H vs Q E hr h => ?_)
  · obtain ⟨_, rfl, _⟩ := h
    rfl
  · have hu := hu_of hr
    have hu64 := hu64_of hr
    obtain ⟨v_lot, rfl, h⟩ := h
    refine ⟨_, (pss_cons (ps_if (pt_cmpR (op_eq0 (Nat.lt_of_succ_lt hu)) (pv 0) pe_dnewK (nomark _)) (pss_one (ps_ret (pe_tup (pa_cons pe_int (pa_cons (pe_tup pa_nil) pa_nil))))) pss_nil)
      (pss_cons (ps_set (i := 1) sc__law_line.nd rfl (.inl rfl) (pe_callB (cr_min rfl) (by rfl) T.min (by decide +kernel) (pa_cons (pe_callTy (call_list_dK rfl) (by rfl) T.list (by decide +kernel) (pa_cons (pv 0) pa_nil)) pa_nil)))
      (pss_one (ps_ret (pe_tup (pa_cons (pv 1) (pa_cons (pe_callTy call_tuple_of (by rfl) T.tuple (by decide +kernel) (pa_cons (pe_lc (own := [("_law_k", 2)]) (g := gName 2) rfl sc__law_line.nd (pi_range2 (by rfl) T.range (pa_cons (pv 1) (pa_cons (pe_op op_add (pe_callB (cr_max rfl) (by rfl) T.max (by decide +kernel) (pa_cons (pe_callTy (call_list_dK rfl) (by rfl) T.list (by decide +kernel) (pa_cons (pv 0) pa_nil)) pa_nil)) pe_int) pa_nil))) (blkOk_by (own := [("_law_k", 2)]) (N := N__law_line) (sc := defScope BH.s__law_line) (by decide +kernel)) (fun _ _ _ _ _ => pg_name (i := 2) sc__law_line.nd rfl (Or.inl rfl)) (fun _ _ _ _ _ => pts_nil) (fun _ _ _ _ _ => (pe_dget2 hu (pv 0) (pv 2) (pe_tup (pa_cons pe_int (pa_cons pe_int pa_nil))) (by exact ⟨rfl, rfl, rfl, rfl⟩)))) pa_nil)) pa_nil))))))), ?_⟩
    obtain ⟨f1, F1, S1, hQ⟩ := h
    obtain ⟨L, a, kvs, rfl, ha, hL, hn, hc, rfl, hk, hs⟩ := F1.open S1
    refine ⟨_, rfl, fun p hp => ⟨a, p, kvs, rfl, rfl, same_new hp _ _ ha, upd_same, _, rfl, ?_⟩⟩
    have e0 : Same H (upd H p (.dK [])) := same_new hp
    have hlen := hL.len
    by_cases hz : L = []
    · have hz2 : kvs = [] := List.length_eq_zero_iff.mp (by rw [hlen, hz]; rfl)
      rw [hz2]
      refine iteT ⟨small5 (Nat.zero_le _), fun e he => ⟨sm2, fun q hq => hQ _ _ ((e0.trans (same_new he)).trans (same_new hq)) ⟨q, e, 0, [], [], rfl, tup_new, same_t (same_new hq) tup_new, .nil, ?_⟩⟩⟩
      rw [hz, ← LP.zero_eq]
      exact RowOf.zero
    · have hz2 : kvs ≠ [] := fun z => hz (List.length_eq_zero_iff.mp (by rw [← hlen, z]; rfl))
      have hemp : kvs.isEmpty = false := by
        cases kvs with
        | nil => exact absurd rfl hz2
        | cons _ _ => rfl
      rw [hemp]
      have pos : 0 < (L.map (·.1)).length := by
        rw [List.length_map]
        exact List.length_pos_iff.mpr hz
      refine iteF ?_
      refine ⟨_, rfl, a, kvs, rfl, e0 _ _ ha, fun q hq => ⟨q, L.map (·.1), rfl, ?_, pos, fun m hm hm2 => ?_⟩⟩
      · rw [keysV hL]
        exact lst_new
      have e1 := e0.trans (same_new (o := .lst (kvs.map fun kv => kV kv.1)) hq)
      refine ⟨_, rfl, _, rfl, _, rfl, a, kvs, rfl, e1 _ _ ha, fun q2 hq2 => ⟨q2, L.map (·.1), rfl, ?_, pos, fun M hM hM2 => ?_⟩⟩
      · rw [keysV hL]
        exact lst_new
      have e2 := e1.trans (same_new (o := .lst (kvs.map fun kv => kV kv.1)) hq2)
      have bm : m.natAbs ≤ 5000 := by
        obtain ⟨x, hx, rfl⟩ := List.mem_map.mp hm
        exact hk x hx
      have bM : M.natAbs ≤ 5000 := by
        obtain ⟨x, hx, rfl⟩ := List.mem_map.mp hM
        exact hk x hx
      refine ⟨_, _, rfl, rfl, _, _, rfl, (by omega), fun D hD => ?_⟩
      refine lcm_range ((List.range (M + 1 - m).toNat).map fun i : Nat => (LP.of L) (m + (i : Int))) (fun H v y => Fr K H v y) (fun _ _ _ _ h e => h.si e) hD (by rw [List.length_map, List.length_range]) (by rw [List.length_map, List.length_range]; omega) (fun i y H2 hi hy e Q2 q => ?_) (fun H2 vs e hv hp => ?_)
      · obtain ⟨_, rfl⟩ := range_get hy
        have ha2 := e _ _ (e2 _ _ ha)
        refine ⟨_, rfl, a, rfl, .inl ⟨kvs, .inl ha2⟩, _, rfl, sm2, fun p2 hp2 => ⟨_, .inl ⟨kvs, Sum.inl (m + (i : Int)), .inl (same_new hp2 _ _ ha2), rfl, rfl⟩, q _ _ (same_new hp2) ?_⟩⟩
        exact lot_getD (hL.st (((ST.of e2).trans (ST.of e)).trans (ST.of (same_new hp2)))) hn tup_new _
      · refine ⟨D, vs, rfl, .inl ⟨lst_at hv, fun t ht => ⟨sm2, fun u hu => hQ _ _ (((e2.trans e).trans (same_new ht)).trans (same_new hu)) ⟨u, t, m, vs, _, rfl, tup_new, same_t (same_new hu) tup_new, FrL.mono hp ((same_new ht).trans (same_new hu)), line_row hn hc hm hm2 hM hM2⟩⟩⟩⟩

end
end BW
namespace BW
open PySem PySem.Spec PyProof.Rows L2 BS
section
variable {P : Program} {w : World} {K : PySem.W.Frag} {mg : Str → Option Value} {base : Heap} {za na nb : Addr} {pt : Tok}
/-! ### sizes of what is drawn -/
theorem num84 {q : Rat} (h : NumOk q) : QB 84 (2 ^ 37) q := by
  obtain ⟨_, h2, d, hd⟩ := h
  refine ⟨q.num * (d : Int), ?_, ?_⟩
  · have e : q = Rat.divInt q.num (q.den : Int) := (Rat.num_divInt_den q).symm
    have hdn : (q.den : Int) ≠ 0 := by
      have := den_pos q
      omega
    have hd0 : (d : Int) ≠ 0 := fun z => by
      have : d = 0 := by omega
      rw [this] at hd
      simp at hd
    rw [show ((84 : Nat) : Rat) = ((84 : Int) : Rat) from rfl, ← Rat.divInt_eq_div, show (84 : Int) = (q.den : Int) * (d : Int) by rw [← Int.natCast_mul, ← hd]; rfl, Rat.divInt_mul_right hd0]
    exact e
  · rw [Int.natAbs_mul, Int.natAbs_natCast]
    have : d ≤ 84 := Nat.le_of_dvd (by decide) ⟨q.den, by rw [hd, Nat.mul_comm]⟩
    exact Nat.le_trans (Nat.mul_le_mul h2 this) (by decide)
theorem nums_sz {L : Pol} (h : ∀ x ∈ L, NumOk x.2) : ∃ l, L = ratL 84 l ∧ nrm l ≤ L.length * 2 ^ 37 := by
  induction L with
  | nil => exact ⟨[], rfl, Nat.zero_le _⟩
  | cons x r ih =>
    obtain ⟨l, e, hl⟩ := ih fun y hy => h y (List.mem_cons_of_mem _ hy)
    obtain ⟨m, em, hm⟩ := num84 (h x List.mem_cons_self)
    refine ⟨(x.1, m) :: l, ?_, ?_⟩
    · rw [e]
      show x :: ratL 84 l = (x.1, (m : Rat) / ((84 : Nat) : Rat)) :: ratL 84 l
      rw [← em]
    · show m.natAbs + nrm l ≤ (r.length + 1) * 2 ^ 37
      omega
theorem lot_sz {L : Pol} {a : Nat} (h : ∀ x ∈ L, NumOk x.2) (hl : L.length * 2 ^ 37 ≤ 2 ^ a) : Sz 84 a (LP.of L) := by
  obtain ⟨l, e, hn⟩ := nums_sz h
  exact ⟨by decide, l, by rw [← e], Nat.le_trans hn hl⟩
theorem lot_sup {L : Pol} {r : Nat} (h : ∀ x ∈ L, x.1.natAbs ≤ r) : Sup r (LP.of L) := fun k hk => by
  refine Classical.byContradiction fun z => hk (coef_none fun q => z ?_)
  obtain ⟨x, hx, rfl⟩ := List.mem_map.mp q
  exact h x hx
theorem mono_sz {q : Rat} (h : NumOk q) (d : Int) : Sz 84 37 (LP.mono q d) := lot_sz (L := [(d, q)]) (fun x hx => by rw [List.mem_singleton.mp hx]; exact h) (by show 1 * 2 ^ 37 ≤ 2 ^ 37; decide)
section
variable {K : PySem.W.Frag} {H H' : Hp}
/-! ### comprehensions that draw -/
theorem wlc {tt : TT} {te : TE} {j : Nat} {σ : L2.St} {H1 : Hp} {D p : Addr} {Qd : Hp → Prop} {lo : Int} {n : Nat} (hW : WellAt H1 p) (hD : H1 D = none) (small : n ≤ 1000)
    (test : ∀ i H2, i < n → SameW p H1 H2 → WellAt H2 p → ∀ Q2 : Bool → Hp → Prop, (∀ b H3, SameW p H2 H3 → WellAt H3 p → Q2 b H3) → tt ((wipe σ [j]).set j (some (.int (lo + (i : Int))))) H2 Q2)
    (elt : ∀ i H2, i < n → SameW p H1 H2 → WellAt H2 p → ∀ Q2 : VK, (∀ q c H3, SameW p H2 H3 → WellAt H3 p → PairAt K H3 q (lo + (i : Int), c) → NumOk c → Q2 (.ref q) H3) → te ((wipe σ [j]).set j (some (.int (lo + (i : Int))))) H2 Q2)
    (done : ∀ H2 (ps : List Addr) L, SameW p H1 H2 → WellAt H2 p → H2 D = some (.lst (ps.map V.ref)) → Paired (fun q x => PairAt K H2 q x) ps L → (L.map (·.1)).Nodup → (∀ x ∈ L, NumOk x.2 ∧ lo ≤ x.1 ∧ x.1 < lo + (n : Int)) → L.length ≤ n → Qd H2) :
    ∃ W : Nat → Nat → Hp → Prop, (∃ m, W 0 m (upd H1 D (.lst []))) ∧ ∀ i m H, W i m H →
      ((Itr lo n).stop i H ∧ Qd H) ∨ ((Itr lo n).go i H ∧ ∃ Nx : Hp → Prop, (∀ H', Nx H' → ∃ m', m' < m ∧ W (i + 1) m' H') ∧ ∀ x H', (Itr lo n).yld i H x H' → gName j x (wipe σ [j]) H' fun σ2 H2 => wipe σ2 [j] = wipe σ [j] ∧ tt σ2 H2 fun b H3 =>
        if b = true then te σ2 H3 fun y H4 => ∃ acc, H4 D = some (.lst acc) ∧ acc.length < sizeLine ∧ Nx (upd H4 D (.lst (acc ++ [y]))) else Nx H3) := by
  have nD : D ≠ p := fun z => by
    obtain ⟨_, _, _, h, _⟩ := hW
    rw [z, h] at hD
    cases hD
  refine lc_range (lo := lo) (n := n) (fun i H2 => ∃ (ps : List Addr) (L : Pol), SameW p H1 H2 ∧ WellAt H2 p ∧ H2 D = some (.lst (ps.map V.ref)) ∧ Paired (fun q x => PairAt K H2 q x) ps L ∧ (L.map (·.1)).Nodup ∧ (∀ x ∈ L, NumOk x.2 ∧ lo ≤ x.1 ∧ x.1 < lo + (i : Int)) ∧ L.length ≤ i) ?_ ?_ ?_
  · exact ⟨[], [], SameW.of (same_new hD), hW.mono (same_new hD), upd_same, .nil, List.nodup_nil, (fun _ z => by cases z), Nat.le_refl _⟩
  · rintro i H2 hi ⟨ps, L, e, w, hd, hp, hn, hk, hl⟩
    refine ⟨wipe1 _, test i H2 hi e w _ fun b H3 e3 w3 => ?_⟩
    have hd3 := e3 _ _ nD hd
    cases b with
    | true =>
      refine iteT (elt i H3 hi (e.trans e3) w3 _ fun q c H4 e4 w4 hq hc => ?_)
      have hd4 := e4 _ _ nD hd3
      have s4 : SI H4 (upd H4 D (.lst (ps.map V.ref ++ [.ref q]))) := si_set hd4
      refine ⟨_, hd4, small5l (by rw [List.length_map, Paired.length hp]; omega), ps ++ [q], L ++ [(lo + (i : Int), c)], ?_, ?_, by rw [upd_same, List.map_append]; rfl, ?_, ?_, ?_, ?_⟩
      · intro y o ny hy
        rw [upd_ne (ne_of_none hy hD)]
        exact e4 _ _ ny (e3 _ _ ny (e _ _ ny hy))
      · obtain ⟨o, m, c, hw, r⟩ := w4
        exact ⟨o, m, c, by rw [upd_ne (Ne.symm nD)]; exact hw, r⟩
      · exact pr_append (Paired.mapP hp fun _ _ z => ((z.si (e3.si w)).si (e4.si w3)).si s4) (.cons (hq.si s4) .nil)
      · rw [List.map_append]
        refine List.nodup_append.mpr ⟨hn, by simp, fun a ha b hb z => ?_⟩
        obtain ⟨x, hx, rfl⟩ := List.mem_map.mp ha
        have := (hk x hx).2.2
        have hb' : b = lo + (i : Int) := List.mem_singleton.mp hb
        omega
      · intro x hx
        rcases List.mem_append.mp hx with hx | hx
        · obtain ⟨h1, h2, h3⟩ := hk x hx
          exact ⟨h1, h2, by omega⟩
        · rw [List.mem_singleton.mp hx]
          exact ⟨hc, by show lo ≤ lo + (i : Int); omega, by show lo + (i : Int) < lo + ((i + 1 : Nat) : Int); omega⟩
      · rw [List.length_append]
        show _ + 1 ≤ i + 1
        omega
    | false =>
      refine iteF ⟨ps, L, e.trans e3, w3, hd3, Paired.mapP hp fun _ _ z => z.si (e3.si w), hn, fun x hx => ?_, by omega⟩
      obtain ⟨h1, h2, h3⟩ := hk x hx
      exact ⟨h1, h2, by omega⟩
  · rintro H2 ⟨ps, L, e, w, hd, hp, hn, hk, hl⟩
    exact done H2 ps L e w hd hp hn hk hl
end
def sp__law_near (K : PySem.W.Frag) : Sp := sp2 fun a b H Q => ∃ p, a = .ref p ∧ WellAt H p ∧ b = .int 3 ∧ RetW p (fun v H' => ∃ f, Lot K H' v f ∧ Sz 84 39 f ∧ Sup 5 f) H Q
abbrev N__law_near : List Str := ["_law_well_here", "_law_most", "_law_first", "_law_length", "_law_k"]
theorem sc__law_near : FnScope N__law_near ["_law_well_here", "_law_most"] (defScope BH.s__law_near) := ⟨rfl, rfl, rfl, by decide +kernel, rfl, by decide +kernel, by decide +kernel⟩
theorem w__law_near (T : Tx K mg za na nb pt) (D_ : Df K mg "_law_near" BH.s__law_near) (c__law_number : Cl P w K mg base 3 "_law_number" ["_law_well_here"] (sp__law_number K)) (c__law_take : Cl P w K mg base 1 "_law_take" ["_law_well_here", "_law_count"] (sp__law_take K)) : Cl P w K mg base 4 "_law_near" ["_law_well_here", "_law_most"] (sp__law_near K) := by
  refine D_.ok sc__law_near (fun _ _ _ _ _ _ us hl => match us, hl with | [_, _], _ => rfl) (fun vs H Q E h => ?_) (fun f cdv A outer s H vs Q E hr h => ?_)
  · obtain ⟨_, _, rfl, _⟩ := h
    rfl
  · have hu := hu_of hr
    have hu64 := hu64_of hr
    obtain ⟨v_well_here, v_most, rfl, h⟩ := h
    refine ⟨_, (pss_cons (ps_asg (pe_tup (pa_cons (pe_op op_sub (pe_cl c__law_take (hr.mono (by decide)) (by rfl) (pa_cons (pv 0) (pa_cons pe_int pa_nil))) pe_int) (pa_cons (pe_op op_add pe_int (pe_cl c__law_take (hr.mono (by decide)) (by rfl) (pa_cons (pv 0) (pa_cons (pv 1) pa_nil)))) pa_nil))) (pg_tup rfl (pgs_cons (pg_name (i := 2) sc__law_near.nd rfl (.inr rfl)) (pgs_cons (pg_name (i := 3) sc__law_near.nd rfl (.inr rfl)) pgs_nil))))
      (pss_one (ps_ret (pe_callTy (call_dictP rfl) (by rfl) T.dict (by decide +kernel) (pa_cons (pe_lc (own := [("_law_k", 4)]) (g := gName 4) rfl sc__law_near.nd (pi_range2 (by rfl) T.range (pa_cons (pv 2) (pa_cons (pe_op op_add (pv 2) (pv 3)) pa_nil))) (blkOk_by (own := [("_law_k", 4)]) (N := N__law_near) (sc := defScope BH.s__law_near) (by decide +kernel)) (fun _ _ _ _ _ => pg_name (i := 4) sc__law_near.nd rfl (Or.inl rfl)) (fun _ _ _ _ _ => (pts_one (PW.pt (pw_or (pt_cmpR (show OpR _ (compareOp .In) (rIn K false) from op_in_seq) (pv 4) (pe_tup (pa_cons (pv 2) (pa_cons (pe_op op_sub (pe_op op_add (pv 2) (pv 3)) pe_int) pa_nil))) rfl) (pw_or1 (pt_cmpR op_gt (pe_cl c__law_take (hr.mono (by decide)) (by rfl) (pa_cons (pv 0) (pa_cons pe_int pa_nil))) pe_int (nomark _))))))) (fun _ _ _ _ _ => (pe_tup (pa_cons (pv 4) (pa_cons (pe_cl c__law_number (hr.mono (by decide)) (by rfl) (pa_cons (pv 0) pa_nil)) pa_nil))))) pa_nil))))), ?_⟩
    obtain ⟨p, rfl, hW, rfl, hQ⟩ := h
    refine ⟨_, rfl, _, _, rfl, p, 4, rfl, hW, rfl, by decide, by decide, fun v H1 e1 w1 ⟨d, hv, d0, d1⟩ => ?_⟩
    subst hv
    refine ⟨_, _, rfl, rfl, _, rfl, _, rfl, _, _, rfl, p, 3, rfl, w1, rfl, by decide, by decide, fun v H2 e2 w2 ⟨d2, hv, d3, d4⟩ => ?_⟩
    subst hv
    refine ⟨_, _, rfl, rfl, sm2, fun t ht => ?_⟩
    have e3 := (e1.trans e2).trans (SameW.of (same_new (o := .tup [.int (d - 2), .int (1 + d2)]) ht))
    have w3 := w2.mono (same_new (o := .tup [.int (d - 2), .int (1 + d2)]) ht)
    refine ⟨t, _, rfl, tup_new, rfl, _, _, rfl, _, _, rfl, rfl, ?_⟩
    refine ⟨_, rfl, _, rfl, _, rfl, _, _, rfl, rfl, _, _, rfl, (by omega), fun D hD => ?_⟩
    refine wlc (K := K) w3 hD (by omega) (fun i H2 hi e w Q2 hQ2 => ?_) (fun i H2 hi e w Q2 hQ2 => ?_) (fun H2 ps L e w hd hp hn hk hl => ?_)
    · refine ⟨_, rfl, _, rfl, _, rfl, _, rfl, _, _, rfl, rfl, _, _, rfl, rfl, sm2, fun t2 ht2 => ⟨t2, _, rfl, .inr tup_new, rfl, rfl, inV _ _, rfl, ?_⟩⟩
      have y0 := same_new (o := .tup [.int (d - 2), .int (d - 2 + (1 + d2) - 1)]) ht2
      generalize inV _ _ = b
      cases b with
      | true => exact iteT (hQ2 _ _ (SameW.of y0) (w.mono y0))
      | false =>
        refine iteF ⟨_, rfl, _, _, rfl, p, 4, rfl, w.mono y0, rfl, by decide, by decide, fun v H3 e3 w3 ⟨d3, hv, d4, d5⟩ => ?_⟩
        subst hv
        exact ⟨_, _, rfl, rfl, _, rfl, hQ2 _ _ ((SameW.of y0).trans e3) w3⟩
    · refine ⟨_, rfl, _, rfl, _, rfl, p, rfl, w, fun v H3 e3 w3 ⟨c, hv, hc⟩ => ⟨sm2, fun q hq => hQ2 q c _ (e3.trans (SameW.of (same_new hq))) (w3.mono (same_new hq)) ⟨v, tup_new, hv.mono (same_new hq)⟩ hc⟩⟩
    · have hnl : ((d - 2 + (1 + d2)) - (d - 2)).toNat ≤ 3 := by omega
      obtain ⟨kvs, q1, q2, q3⟩ := dict_parts hp hn
      refine ⟨D, ps, kvs, rfl, lst_at hd, q1, fun l hl2 => ?_⟩
      rw [q2]
      refine hQ _ _ ((e3.trans e).trans (SameW.of (same_new hl2))) (w.mono (same_new hl2)) ⟨LP.of L, ⟨L, ⟨l, kvs, rfl, upd_same, q3.st (ST.of (same_new hl2)), hn⟩, fun x hx => (hk x hx).1.1, rfl⟩, lot_sz (fun x hx => (hk x hx).1) ?_, lot_sup fun x hx => ?_⟩
      · exact Nat.le_trans (Nat.mul_le_mul_right _ (Nat.le_trans hl hnl)) (by decide)
      · obtain ⟨_, b1, b2⟩ := hk x hx
        omega
/-! ### steps, scales -/
def StepAt (K : PySem.W.Frag) (H : Hp) (x : V) (s : Bool × LP) : Prop := ∃ q e, x = .ref q ∧ SqT K H q [.str (if s.1 then "low" else "high"), e] ∧ Lot K H e s.2
theorem StepAt.si {K : PySem.W.Frag} {H H' : Hp} {x : V} {s : Bool × LP} (h : StepAt K H x s) (e : SI H H') : StepAt K H' x s := by
  obtain ⟨q, y, rfl, h1, h2⟩ := h
  exact ⟨q, y, rfl, si_t e h1, h2.si e⟩
def StepsAt (K : PySem.W.Frag) (H : Hp) (v : V) (ss : List (Bool × LP)) : Prop := ∃ p xs, v = .ref p ∧ SqL K H p xs ∧ Paired (StepAt K H) xs ss
theorem StepsAt.mono {K : PySem.W.Frag} {H H' : Hp} {v : V} {ss : List (Bool × LP)} (h : StepsAt K H v ss) (e : Same H H') : StepsAt K H' v ss := by
  obtain ⟨p, xs, rfl, h1, h2⟩ := h
  exact ⟨p, xs, rfl, e.seq h1, Paired.mapP h2 fun _ _ z => z.si (SI.of e)⟩
def StepOk (ss : List (Bool × LP)) : Prop := ∀ s ∈ ss, Sz 84 38 s.2 ∧ Sup 5 s.2
def sp__law_steps (K : PySem.W.Frag) : Sp := sp2 fun a b H Q => ∃ p, a = .ref p ∧ WellAt H p ∧ b = .int 3 ∧ RetW p (fun v H' => ∃ ss, StepsAt K H' v ss ∧ ss.length ≤ 3 ∧ StepOk ss ∧ Nw H v) H Q
abbrev N__law_steps : List Str := ["_law_well_here", "_law_most", "_law_found", "_law_turn", "_law_first", "_law_some", "_law_k"]
theorem sc__law_steps : FnScope N__law_steps ["_law_well_here", "_law_most"] (defScope BH.s__law_steps) := ⟨rfl, rfl, rfl, by decide +kernel, rfl, by decide +kernel, by decide +kernel⟩
theorem w__law_steps (T : Tx K mg za na nb pt) (D_ : Df K mg "_law_steps" BH.s__law_steps) (c__law_number : Cl P w K mg base 3 "_law_number" ["_law_well_here"] (sp__law_number K)) (c__law_pick : Cl P w K mg base 2 "_law_pick" ["_law_well_here", "_law_some"] (sp__law_pick K)) (c__law_take : Cl P w K mg base 1 "_law_take" ["_law_well_here", "_law_count"] (sp__law_take K)) : Cl P w K mg base 4 "_law_steps" ["_law_well_here", "_law_most"] (sp__law_steps K) := by
  refine D_.ok sc__law_steps (fun _ _ _ _ _ _ us hl => match us, hl with | [_, _], _ => rfl) (fun vs H Q E h => ?_) (fun f cdv A outer s H vs Q E hr h => ?_)
  · obtain ⟨_, _, rfl, _⟩ := h
    rfl
  · have hu := hu_of hr
    have hu64 := hu64_of hr
    obtain ⟨v_well_here, v_most, rfl, h⟩ := h
    refine ⟨_, (pss_cons (ps_set (i := 2) sc__law_steps.nd rfl (.inl rfl) (pe_lst pa_nil))
      (pss_cons (ps_for PassesOwn.never rfl (pi_range1 (by rfl) T.range (pa_cons (pe_cl c__law_take (hr.mono (by decide)) (by rfl) (pa_cons (pv 0) (pa_cons (pe_op op_add (pv 1) pe_int) pa_nil))) pa_nil)) (pg_name (i := 3) sc__law_steps.nd rfl (.inl rfl)) (pss_cons (ps_par rfl sc__law_steps.nd (i := 4) (j := 5) rfl rfl (by decide) rfl rfl (pa_cons (pe_op op_sub (pe_cl c__law_take (hr.mono (by decide)) (by rfl) (pa_cons (pv 0) (pa_cons pe_int pa_nil))) pe_int) (pa_cons pe_dnewK pa_nil)) (by rfl))
      (pss_cons (ps_for PassesOwn.never rfl (pi_range1 (by rfl) T.range (pa_cons (pe_cl c__law_pick (hr.mono (by decide)) (by rfl) (pa_cons (pv 0) (pa_cons (pe_tup (pa_cons pe_int (pa_cons pe_int (pa_cons pe_int (pa_cons pe_int (pa_cons pe_int pa_nil)))))) pa_nil))) pa_nil)) (pg_name (i := 6) sc__law_steps.nd rfl (.inl rfl)) (pss_one (ps_dput hu (pv 5) (pe_op op_add (pv 4) (pv 6)) (pe_cl c__law_number (hr.mono (by decide)) (by rfl) (pa_cons (pv 0) pa_nil)) rfl)))
      (pss_one (ps_expr (pe_bm PySem.F.plainAttrs_list PySem.F.slot_list_append PySem.F.type_list_append mt_append (pv 2) (pa_cons (pe_tup (pa_cons (pe_cl c__law_pick (hr.mono (by decide)) (by rfl) (pa_cons (pv 0) (pa_cons (pe_tup (pa_cons pe_str (pa_cons pe_str pa_nil))) pa_nil))) (pa_cons (pv 5) pa_nil))) pa_nil)))))))
      (pss_one (ps_ret (pv 2))))), ?_⟩
    obtain ⟨p, rfl, hW, rfl, hQ⟩ := h
    have npH : H p ≠ none := by
      obtain ⟨_, _, _, h, _⟩ := hW
      rw [h]
      exact fun z => by cases z
    refine ⟨small5 (Nat.zero_le _), fun F hF => ?_⟩
    have nF : F ≠ p := fun z => npH (z ▸ hF)
    have f0 : Same H (upd H F (.lst [])) := same_new hF
    refine ⟨_, rfl, _, rfl, _, _, rfl, rfl, _, _, rfl, p, 4, rfl, hW.mono f0, rfl, by decide, by decide, fun v H1 e1 w1 ⟨n, hv, n0, n1⟩ => ?_⟩
    subst hv
    refine ⟨_, rfl, (by omega), (by omega), for_range (lo := 0) (n := n.toNat) (fun i σ' H' => ∃ z3 z4 z5 z6 xs ss, σ' = [some (.ref p), some (.int 3), some (.ref F), z3, z4, z5, z6] ∧ SameW p H H' ∧ WellAt H' p ∧ H' F = some (.lst xs) ∧ Paired (StepAt K H') xs ss ∧ ss.length = i ∧ StepOk ss)
      ⟨none, none, none, none, [], [], rfl, (SameW.of f0).trans e1, w1, e1 _ _ nF upd_same, .nil, rfl, fun _ z => by cases z⟩ ?_ ?_⟩
    · rintro i σ' H2 hi ⟨z3, z4, z5, z6, xs, ss, rfl, e2, w2, hF2, hs, hl, ok⟩
      have np2 : H2 p ≠ none := by
        obtain ⟨_, _, _, h, _⟩ := w2
        rw [h]
        exact fun z => by cases z
      refine ⟨_, rfl, _, _, rfl, p, 3, rfl, w2, rfl, by decide, by decide, fun v H3 e3 w3 ⟨d, hv, d0, d1⟩ => ?_⟩
      subst hv
      have np3 : H3 p ≠ none := by
        obtain ⟨_, _, _, h, _⟩ := w3
        rw [h]
        exact fun z => by cases z
      refine ⟨_, _, rfl, rfl, fun S hS => ?_⟩
      have hS2 : H2 S = none := by
        cases hz : H2 S with
        | none => rfl
        | some o =>
          have nS : S ≠ p := fun z => np3 (z ▸ hS)
          rw [e3 _ _ nS hz] at hS
          cases hS
      have nS : S ≠ p := fun z => np2 (z ▸ hS2)
      have nSF : S ≠ F := fun z => by rw [z, hF2] at hS2; cases hS2
      have s0 : Same H3 (upd H3 S (.dK [])) := same_new hS
      refine ⟨_, _, rfl, _, rfl, small5 (by show 5 ≤ 100000; decide), fun t ht => ?_⟩
      have t0 : Same (upd H3 S (.dK [])) (upd (upd H3 S (.dK [])) t (.tup [.int 1, .int 1, .int 2, .int 2, .int 0])) := same_new ht
      refine ⟨_, _, rfl, p, t, _, rfl, (w3.mono s0).mono t0, rfl, tup_new, by decide, by decide, fun v H4 e4 w4 hv => ?_⟩
      have hm : ∃ m : Int, v = .int m ∧ 0 ≤ m ∧ m ≤ 2 := by
        simp only [List.mem_cons, List.not_mem_nil, or_false] at hv
        rcases hv with rfl | rfl | rfl | rfl | rfl
        all_goals exact ⟨_, rfl, by decide, by decide⟩
      obtain ⟨m, rfl, m0, m1⟩ := hm
      have e24 : SameW p H2 H4 := (e3.trans ((SameW.of s0).trans (SameW.of t0))).trans e4
      refine ⟨_, rfl, (by omega), (by omega), for_range (lo := 0) (n := m.toNat) (fun j σ' H5 => ∃ z6 kvs L, σ' = [some (.ref p), some (.int 3), some (.ref F), some (.int (0 + (i : Int))), some (.int (d - 1)), some (.ref S), z6] ∧ SameW p H2 H5 ∧ WellAt H5 p ∧ H5 S = some (.dK kvs) ∧ LotRep K H5 kvs L ∧ (L.map (·.1)).Nodup ∧ (∀ x ∈ L, NumOk x.2 ∧ d - 1 ≤ x.1 ∧ x.1 < d - 1 + (j : Int)) ∧ L.length ≤ j)
        ⟨z6, [], [], rfl, e24, w4, e4 _ _ nS (t0 _ _ upd_same), .nil, List.nodup_nil, (fun _ z => by cases z), Nat.le_refl _⟩ ?_ ?_⟩
      · rintro j σ' H5 hj ⟨z6, kvs, L, rfl, e5, w5, h1, h2, h3, h4, h5⟩
        refine ⟨_, rfl, _, rfl, p, rfl, w5, fun v H6 e6 w6 ⟨c, hv, hc⟩ => ?_⟩
        have h1' := e6 _ _ nS h1
        have hk : d - 1 + (0 + (j : Int)) = d - 1 + (j : Int) := by omega
        refine ⟨_, rfl, _, rfl, _, rfl, _, _, rfl, rfl, S, _, rfl, DPut.k (k := Sum.inl (d - 1 + (0 + (j : Int)))) h1' (by rw [h2.len]; exact small5l (by omega)), ?_⟩
        have s7 : ST H6 (upd H6 S (.dK (putK kvs (Sum.inl (d - 1 + (0 + (j : Int)))) v))) := st_dict h1'
        have hne : d - 1 + (0 + (j : Int)) ∉ L.map (·.1) := fun z => by
          obtain ⟨x, hx, e⟩ := List.mem_map.mp z
          have := (h4 x hx).2.2
          omega
        have eP : putP L (d - 1 + (0 + (j : Int))) c = L ++ [(d - 1 + (0 + (j : Int)), c)] := if_neg hne
        refine ⟨_, _, putP L (d - 1 + (0 + (j : Int))) c, rfl, fun y o ny hy => ?_, ?_, upd_same, (putK_rep (h2.st (ST.si (e6.si w5))) _ hv).st s7, putP_nodup h3, ?_, ?_⟩
        · rw [upd_ne (ne_of_none hy hS2)]
          exact e6 _ _ ny (e5 _ _ ny hy)
        · obtain ⟨o, m, c, hw, r⟩ := w6
          exact ⟨o, m, c, by rw [upd_ne (Ne.symm nS)]; exact hw, r⟩
        · rw [eP]
          intro x hx
          rcases List.mem_append.mp hx with hx | hx
          · obtain ⟨g1, g2, g3⟩ := h4 x hx
            exact ⟨g1, g2, by omega⟩
          · rw [List.mem_singleton.mp hx]
            exact ⟨hc, by show d - 1 ≤ d - 1 + (0 + (j : Int)); omega, by show d - 1 + (0 + (j : Int)) < d - 1 + ((j + 1 : Nat) : Int); omega⟩
        · have := putP_len (L := L) (k := d - 1 + (0 + (j : Int))) (q := c)
          omega
      · rintro σ' H5 ⟨z6, kvs, L, rfl, e5, w5, h1, h2, h3, h4, h5⟩
        have hF5 := e5 _ _ nF hF2
        refine ⟨_, rfl, .inl ⟨rfl, _, lst_at hF5⟩, _, rfl, sm2, fun t2 ht2 => ?_⟩
        have t20 := same_new (o := .tup [.str ("low" : Str), .str ("high" : Str)]) ht2
        refine ⟨_, _, rfl, p, t2, _, rfl, w5.mono t20, rfl, tup_new, by decide, by decide, fun v H6 e6 w6 hv => ?_⟩
        have hb : ∃ b : Bool, v = .str (if b then "low" else "high") := by
          simp only [List.mem_cons, List.not_mem_nil, or_false] at hv
          rcases hv with rfl | rfl
          · exact ⟨true, rfl⟩
          · exact ⟨false, rfl⟩
        obtain ⟨b, rfl⟩ := hb
        have e56 : SameW p H5 H6 := (SameW.of t20).trans e6
        refine ⟨_, rfl, sm2, fun q hq => ?_⟩
        have q0 : Same H6 (upd H6 q (.tup [.str (if b then "low" else "high"), .ref S])) := same_new hq
        have e57 : SameW p H5 (upd H6 q (.tup [.str (if b then "low" else "high"), .ref S])) := e56.trans (SameW.of q0)
        have w7 := w6.mono q0
        have hF7 := e57 _ _ nF hF5
        have hlen : xs.length = i := by rw [Paired.length hs, hl]
        refine ⟨F, xs, _, rfl, rfl, hF7, small5l (by omega), ?_⟩
        have s8 : SI (upd H6 q (.tup [.str (if b then "low" else "high"), .ref S])) (upd (upd H6 q (.tup [.str (if b then "low" else "high"), .ref S])) F (.lst (xs ++ [.ref q]))) := si_set hF7
        have si27 : SI H2 (upd (upd H6 q (.tup [.str (if b then "low" else "high"), .ref S])) F (.lst (xs ++ [.ref q]))) := ((e5.trans e57).si w2).trans s8
        have si57 : SI H5 (upd (upd H6 q (.tup [.str (if b then "low" else "high"), .ref S])) F (.lst (xs ++ [.ref q]))) := (e57.si w5).trans s8
        refine ⟨_, _, _, _, xs ++ [.ref q], ss ++ [(b, LP.of L)], rfl, fun y o ny hy => ?_, ?_, upd_same, pr_append (Paired.mapP hs fun _ _ z => z.si si27) (.cons ⟨q, .ref S, rfl, si_t s8 tup_new, L, ⟨S, kvs, rfl, si57 _ _ (fun _ z => nomatch z) h1, h2.st (ST.si si57), h3⟩, fun x hx => (h4 x hx).1.1, rfl⟩ .nil), ?_, ?_⟩
        · rw [upd_ne (ne_of_none hy hF)]
          exact e57 _ _ ny (e5 _ _ ny (e2 _ _ ny hy))
        · obtain ⟨o, m, c, hw, r⟩ := w7
          exact ⟨o, m, c, by rw [upd_ne (Ne.symm nF)]; exact hw, r⟩
        · rw [List.length_append, hl]
          rfl
        · intro s hs'
          rcases List.mem_append.mp hs' with hs' | hs'
          · exact ok s hs'
          · rw [List.mem_singleton.mp hs']
            refine ⟨lot_sz (fun x hx => (h4 x hx).1) ?_, lot_sup fun x hx => ?_⟩
            · exact Nat.le_trans (Nat.mul_le_mul_right _ (show L.length ≤ 2 by omega)) (by decide)
            · obtain ⟨_, b1, b2⟩ := h4 x hx
              omega
    · rintro σ' H2 ⟨z3, z4, z5, z6, xs, ss, rfl, e2, w2, hF2, hs, hl, ok⟩
      exact ⟨_, rfl, hQ _ _ e2 w2 ⟨ss, ⟨F, xs, rfl, lst_at hF2, hs⟩, by omega, ok, F, rfl, hF⟩⟩

end
end BW
namespace BW
open PySem PySem.Spec PyProof.Rows L2 BS
section
variable {P : Program} {w : World} {K : PySem.W.Frag} {mg : Str → Option Value} {base : Heap} {za na nb : Addr} {pt : Tok}
/-! ### scales, pairs -/
def ScaleAt (K : PySem.W.Frag) (H : Hp) (v : V) (c0 : Rat) (d0 : Int) (c1 : Rat) (d1 : Int) : Prop := ∃ p q0 q1 n0 n1, v = .ref p ∧ SqT K H p [.ref q0, .ref q1] ∧ SqT K H q0 [n0, .int d0] ∧ SqT K H q1 [n1, .int d1] ∧ Fr K H n0 c0 ∧ Fr K H n1 c1
theorem ScaleAt.si {K : PySem.W.Frag} {H H' : Hp} {v : V} {c0 c1 : Rat} {d0 d1 : Int} (h : ScaleAt K H v c0 d0 c1 d1) (e : SI H H') : ScaleAt K H' v c0 d0 c1 d1 := by
  obtain ⟨p, q0, q1, n0, n1, rfl, h1, h2, h3, h4, h5⟩ := h
  exact ⟨p, q0, q1, n0, n1, rfl, si_t e h1, si_t e h2, si_t e h3, h4.si e, h5.si e⟩
def sp__law_scale (K : PySem.W.Frag) : Sp := sp1 fun a H Q => ∃ p, a = .ref p ∧ WellAt H p ∧ RetW p (fun v H' => ∃ c0 d0 c1 d1, ScaleAt K H' v c0 d0 c1 d1 ∧ NumOk c0 ∧ NumOk c1 ∧ d0.natAbs ≤ 2 ∧ d1.natAbs ≤ 2) H Q
abbrev N__law_scale : List Str := ["_law_well_here"]
theorem sc__law_scale : FnScope N__law_scale ["_law_well_here"] (defScope BH.s__law_scale) := ⟨rfl, rfl, rfl, by decide +kernel, rfl, by decide +kernel, by decide +kernel⟩
theorem w__law_scale (T : Tx K mg za na nb pt) (D_ : Df K mg "_law_scale" BH.s__law_scale) (c__law_number : Cl P w K mg base 3 "_law_number" ["_law_well_here"] (sp__law_number K)) (c__law_pick : Cl P w K mg base 2 "_law_pick" ["_law_well_here", "_law_some"] (sp__law_pick K)) : Cl P w K mg base 4 "_law_scale" ["_law_well_here"] (sp__law_scale K) := by
  refine D_.ok sc__law_scale (fun _ _ _ _ _ _ us hl => match us, hl with | [_], _ => rfl) (fun vs H Q E h => ?_) (fun f cdv A outer s H vs Q E hr h => ?_)
  · obtain ⟨_, rfl, _⟩ := h
    rfl
  · have hu := hu_of hr
    have hu64 := hu64_of hr
    obtain ⟨v_well_here, rfl, h⟩ := h
    refine ⟨_, (pss_one (ps_ret (pe_tup (pa_cons (pe_tup (pa_cons (pe_cl c__law_number (hr.mono (by decide)) (by rfl) (pa_cons (pv 0) pa_nil)) (pa_cons (pe_cl c__law_pick (hr.mono (by decide)) (by rfl) (pa_cons (pv 0) (pa_cons (pe_tup (pa_cons pe_int (pa_cons pe_int (pa_cons pe_int (pa_cons (pe_un un_neg pe_int) (pa_cons pe_int pa_nil)))))) pa_nil))) pa_nil))) (pa_cons (pe_tup (pa_cons (pe_cl c__law_number (hr.mono (by decide)) (by rfl) (pa_cons (pv 0) pa_nil)) (pa_cons (pe_cl c__law_pick (hr.mono (by decide)) (by rfl) (pa_cons (pv 0) (pa_cons (pe_tup (pa_cons pe_int (pa_cons pe_int (pa_cons (pe_un un_neg pe_int) (pa_cons pe_int (pa_cons (pe_un un_neg pe_int) pa_nil)))))) pa_nil))) pa_nil))) pa_nil))))), ?_⟩
    obtain ⟨p, rfl, hW, hQ⟩ := h
    refine ⟨_, rfl, _, rfl, p, rfl, hW, fun n0 H1 e1 w1 ⟨c0, hc0, ok0⟩ => ⟨_, rfl, _, rfl, small5 (by show 5 ≤ 100000; decide), fun t ht => ?_⟩⟩
    have t0 := same_new (o := .tup [.int 0, .int 0, .int 1, .int (-1), .int 2]) ht
    refine ⟨_, _, rfl, p, t, _, rfl, w1.mono t0, rfl, tup_new, by decide, by decide, fun v H2 e2 w2 hv => ?_⟩
    have hm : ∃ m : Int, v = .int m ∧ m.natAbs ≤ 2 := by
      simp only [List.mem_cons, List.not_mem_nil, or_false] at hv
      rcases hv with rfl | rfl | rfl | rfl | rfl
      all_goals exact ⟨_, rfl, by decide⟩
    obtain ⟨d0, rfl, hd0⟩ := hm
    refine ⟨sm2, fun q0 hq0 => ?_⟩
    have s0 := same_new (o := .tup [n0, .int d0]) hq0
    have e13 := ((SameW.of t0).trans e2).trans (SameW.of s0)
    have w3 := w2.mono s0
    refine ⟨_, rfl, _, rfl, p, rfl, w3, fun n1 H4 e4 w4 ⟨c1, hc1, ok1⟩ => ⟨_, rfl, _, rfl, _, rfl, small5 (by show 5 ≤ 100000; decide), fun t2 ht2 => ?_⟩⟩
    have t20 := same_new (o := .tup [.int 0, .int 0, .int (-1), .int 1, .int (-2)]) ht2
    refine ⟨_, _, rfl, p, t2, _, rfl, w4.mono t20, rfl, tup_new, by decide, by decide, fun v H5 e5 w5 hv => ?_⟩
    have hm : ∃ m : Int, v = .int m ∧ m.natAbs ≤ 2 := by
      simp only [List.mem_cons, List.not_mem_nil, or_false] at hv
      rcases hv with rfl | rfl | rfl | rfl | rfl
      all_goals exact ⟨_, rfl, by decide⟩
    obtain ⟨d1, rfl, hd1⟩ := hm
    refine ⟨sm2, fun q1 hq1 => ?_⟩
    have s1 := same_new (o := .tup [n1, .int d1]) hq1
    have e46 := ((SameW.of t20).trans e5).trans (SameW.of s1)
    refine ⟨sm2, fun q hq => ?_⟩
    have s2 := same_new (o := .tup [.ref q0, .ref q1]) hq
    have x3 : SI (upd H2 q0 (.tup [n0, .int d0])) (upd (upd H5 q1 (.tup [n1, .int d1])) q (.tup [.ref q0, .ref q1])) := ((e4.trans e46).trans (SameW.of s2)).si w3
    have x4 := (e46.trans (SameW.of s2)).si w4
    refine hQ _ _ ((((e1.trans e13).trans e4).trans e46).trans (SameW.of s2)) ((w5.mono s1).mono s2) ⟨c0, d0, c1, d1, ⟨q, q0, q1, n0, n1, rfl, tup_new, si_t x3 tup_new, same_t s2 tup_new, (hc0.si (e13.si w1)).si x3, hc1.si x4⟩, ok0, ok1, hd0, hd1⟩
/-- a list of two lots -/
def PairLot (K : PySem.W.Frag) (H : Hp) (v : V) (f g : LP) : Prop := ∃ p x y, v = .ref p ∧ SqL K H p [x, y] ∧ Lot K H x f ∧ Lot K H y g
theorem PairLot.mono {K : PySem.W.Frag} {H H' : Hp} {v : V} {f g : LP} (h : PairLot K H v f g) (e : Same H H') : PairLot K H' v f g := by
  obtain ⟨p, x, y, rfl, h1, h2, h3⟩ := h
  exact ⟨p, x, y, rfl, e.seq h1, h2.mono e, h3.mono e⟩
/-- all that is asked of a lot -/
def Okl (D m r : Nat) (f : LP) : Prop := Sz D m f ∧ D ≤ big ∧ 2 ^ m ≤ big ∧ Sup r f
theorem Okl.fits {D m r : Nat} {f : LP} (h : Okl D m r f) : Fits f := h.1.fits h.2.1 h.2.2.1
theorem small_big {m : Nat} (h : m ≤ 900) : 2 ^ m ≤ big := Nat.pow_le_pow_right (by decide) h
noncomputable def pairF (a b : LP) : LP := LP.sp a + LP.mono 1 (-1) * LP.sp b
def sp__law_pair (K : PySem.W.Frag) : Sp := sp1 fun a H Q => ∃ p q0 q1 x0 y0 x1 y1 f0 g0 f1 g1 D m, a = .ref p ∧ SqL K H p [.ref q0, .ref q1] ∧ SqL K H q0 [x0, y0] ∧ SqL K H q1 [x1, y1] ∧ Lot K H x0 f0 ∧ Lot K H y0 g0 ∧ Lot K H x1 f1 ∧ Lot K H y1 g1 ∧
  Okl D m 100 f0 ∧ Okl D m 100 g0 ∧ Okl D m 100 f1 ∧ Okl D m 100 g1 ∧ Ret (fun v H' => PairLot K H' v (pairF f0 g0) (pairF f1 g1)) H Q
abbrev N__law_pair : List Str := ["_law_table", "_law_side"]
theorem sc__law_pair : FnScope N__law_pair ["_law_table"] (defScope BH.s__law_pair) := ⟨rfl, rfl, rfl, by decide +kernel, rfl, by decide +kernel, by decide +kernel⟩
theorem w__law_pair (T : Tx K mg za na nb pt) (D_ : Df K mg "_law_pair" BH.s__law_pair) (c__law_later : Cl P w K mg base 1 "_law_later" ["_law_lot", "_law_by"] (sp__law_later K)) (c__law_plus : Cl P w K mg base 4 "_law_plus" ["_law_one", "_law_two"] (sp__law_plus K)) (c__law_spread : Cl P w K mg base 1 "_law_spread" ["_law_lot"] (sp__law_spread K)) : Cl P w K mg base 5 "_law_pair" ["_law_table"] (sp__law_pair K) := by
  refine D_.ok sc__law_pair (fun _ _ _ _ _ _ us hl => match us, hl with | [_], _ => rfl) (fun vs H Q E h => ?_) (fun f cdv A outer s H vs Q E hr h => ?_)
  · obtain ⟨_, rfl, _⟩ := h
    rfl
  · have hu := hu_of hr
    have hu64 := hu64_of hr
    obtain ⟨v_table, rfl, h⟩ := h
    refine ⟨_, (pss_one (ps_ret (pe_lc (own := [("_law_side", 1)]) (g := gName 1) rfl sc__law_pair.nd (pi_list (pv 0)) (blkOk_by (own := [("_law_side", 1)]) (N := N__law_pair) (sc := defScope BH.s__law_pair) (by decide +kernel)) (fun _ _ _ _ _ => pg_name (i := 1) sc__law_pair.nd rfl (Or.inl rfl)) (fun _ _ _ _ _ => pts_nil) (fun _ _ _ _ _ => (pe_cl c__law_plus (hr.mono (by decide)) (by rfl) (pa_cons (pe_cl c__law_spread (hr.mono (by decide)) (by rfl) (pa_cons (pe_ix (show IxR _ (rIxL K) from ix_list) (pv 1) pe_int (fun _ _ => rfl)) pa_nil)) (pa_cons (pe_cl c__law_later (hr.mono (by decide)) (by rfl) (pa_cons (pe_cl c__law_spread (hr.mono (by decide)) (by rfl) (pa_cons (pe_ix (show IxR _ (rIxL K) from ix_list) (pv 1) pe_int (fun _ _ => rfl)) pa_nil)) (pa_cons (pe_un un_neg pe_int) pa_nil))) pa_nil))))))), ?_⟩
    obtain ⟨p, q0, q1, x0, y0, x1, y1, f0, g0, f1, g1, D0, m, rfl, h0, h1, h2, F0, G0, F1, G1, O0, O1, O2, O3, hQ⟩ := h
    refine ⟨_, rfl, p, rfl, ⟨_, h0⟩, fun D hD => ?_⟩
    refine lcm_list (K := K) (a := p) (xs := [.ref q0, .ref q1]) [pairF f0 g0, pairF f1 g1] (fun H v y => Lot K H v y) (fun _ _ _ _ h e => h.si e) hD h0 rfl (by show 2 ≤ 50000; decide) (fun i xi yi H2 hx hy e Q2 q => ?_) (fun H2 vs e hv hp => ?_)
    · have hh : ∃ q x y f g, xi = .ref q ∧ SqL K H q [x, y] ∧ Lot K H x f ∧ Lot K H y g ∧ Okl D0 m 100 f ∧ Okl D0 m 100 g ∧ yi = pairF f g := by
        match i, hx, hy with
        | 0, hx, hy => exact ⟨q0, x0, y0, f0, g0, (Option.some.inj hx).symm, h1, F0, G0, O0, O1, (Option.some.inj hy).symm⟩
        | 1, hx, hy => exact ⟨q1, x1, y1, f1, g1, (Option.some.inj hx).symm, h2, F1, G1, O2, O3, (Option.some.inj hy).symm⟩
        | n + 2, hx, _ => simp at hx
      obtain ⟨q', x, y, f, g, rfl, hl, Ff, Fg, Of, Og, rfl⟩ := hh
      obtain ⟨Z1, D1, M1, S1⟩ := Of
      obtain ⟨Z2, D2, M2, S2⟩ := Og
      refine ⟨_, rfl, _, _, _, _, rfl, rfl, e.seq hl, rfl, _, rfl, f, Ff.mono e, S1.mono (by decide), fun v1 H3 e3 n3 r3 => ?_⟩
      refine ⟨_, rfl, _, _, _, _, rfl, rfl, (e.trans e3).seq hl, rfl, _, rfl, g, Fg.mono (e.trans e3), S2.mono (by decide), fun v2 H4 e4 n4 r4 => ?_⟩
      refine ⟨_, rfl, _, _, rfl, LP.sp g, _, r4, S2.sp.mono (by decide), rfl, fun v3 H5 e5 n5 r5 => ?_⟩
      refine ⟨_, _, rfl, LP.sp f, LP.mono 1 (-1) * LP.sp g, r3.mono (e4.trans e5), r5, S1.sp.mono (by decide), ((Sup.one (-1) 1).mul S2.sp).mono (by decide), Z1.sp.fits D1 M1, (Z2.sp.shift (-1)).fits D2 M2, fun v6 H6 e6 n6 r6 => q v6 H6 (((e3.trans e4).trans e5).trans e6) r6⟩
    · obtain ⟨u, w, rfl, hu, hw⟩ : ∃ u w, vs = [u, w] ∧ Lot K H2 u (pairF f0 g0) ∧ Lot K H2 w (pairF f1 g1) := by
        cases hp with
        | cons r t =>
          cases t with
          | cons r2 t2 =>
            cases t2
            exact ⟨_, _, rfl, r, r2⟩
      exact hQ _ _ e ⟨D, u, w, rfl, lst_at hv, hu, hw⟩
def sp__law_lines (K : PySem.W.Frag) : Sp := sp1 fun a H Q => ∃ f g, PairLot K H a f g ∧ Sup 5000 f ∧ Sup 5000 g ∧ Ret (fun v H' => ∃ p x y, v = .ref p ∧ SqT K H' p [x, y] ∧ Row K H' x f ∧ Row K H' y g) H Q
abbrev N__law_lines : List Str := ["_law_pair_here"]
theorem sc__law_lines : FnScope N__law_lines ["_law_pair_here"] (defScope BH.s__law_lines) := ⟨rfl, rfl, rfl, by decide +kernel, rfl, by decide +kernel, by decide +kernel⟩
theorem w__law_lines (T : Tx K mg za na nb pt) (D_ : Df K mg "_law_lines" BH.s__law_lines) (c__law_line : Cl P w K mg base 1 "_law_line" ["_law_lot"] (sp__law_line K)) : Cl P w K mg base 2 "_law_lines" ["_law_pair_here"] (sp__law_lines K) := by
  refine D_.ok sc__law_lines (fun _ _ _ _ _ _ us hl => match us, hl with | [_], _ => rfl) (fun vs H Q E h => ?_) (fun f cdv A outer s H vs Q E hr h => ?_)
  · obtain ⟨_, rfl, _⟩ := h
    rfl
  · have hu := hu_of hr
    have hu64 := hu64_of hr
    obtain ⟨v_pair_here, rfl, h⟩ := h
    refine ⟨_, (pss_one (ps_ret (pe_tup (pa_cons (pe_cl c__law_line (hr.mono (by decide)) (by rfl) (pa_cons (pe_ix ix_list (pv 0) pe_int (fun _ _ => rfl)) pa_nil)) (pa_cons (pe_cl c__law_line (hr.mono (by decide)) (by rfl) (pa_cons (pe_ix ix_list (pv 0) pe_int (fun _ _ => rfl)) pa_nil)) pa_nil))))), ?_⟩
    obtain ⟨f1, g1, ⟨p, x, y, rfl, h1, h2, h3⟩, S1, S2, hQ⟩ := h
    refine ⟨_, rfl, _, _, _, _, rfl, rfl, h1, rfl, _, rfl, f1, h2, S1, fun v1 H1 e1 r1 => ?_⟩
    refine ⟨_, rfl, _, _, _, _, rfl, rfl, e1.seq h1, rfl, _, rfl, g1, h3.mono e1, S2, fun v2 H2 e2 r2 => ?_⟩
    exact ⟨sm2, fun q hq => hQ _ _ ((e1.trans e2).trans (same_new hq)) ⟨q, v1, v2, rfl, tup_new, r1.mono (e2.trans (same_new hq)), r2.mono (same_new hq)⟩⟩
def sp__law_fits (K : PySem.W.Frag) : Sp := sp1 fun a H Q => ∃ f g, PairLot K H a f g ∧ Sup 5000 f ∧ Sup 5000 g ∧ ∀ b H', Same H H' → Q (.bl b) H'
abbrev N__law_fits : List Str := ["_law_pair_here", "_law_lot"]
theorem sc__law_fits : FnScope N__law_fits ["_law_pair_here"] (defScope BH.s__law_fits) := ⟨rfl, rfl, rfl, by decide +kernel, rfl, by decide +kernel, by decide +kernel⟩
theorem w__law_fits (T : Tx K mg za na nb pt) (D_ : Df K mg "_law_fits" BH.s__law_fits)  : Cl P w K mg base 1 "_law_fits" ["_law_pair_here"] (sp__law_fits K) := by
  refine D_.ok sc__law_fits (fun _ _ _ _ _ _ us hl => match us, hl with | [_], _ => rfl) (fun vs H Q E h => ?_) (fun f cdv A outer s H vs Q E hr h => ?_)
  · obtain ⟨_, rfl, _⟩ := h
    rfl
  · have hu := hu_of hr
    have hu64 := hu64_of hr
    obtain ⟨v_pair_here, rfl, h⟩ := h
    refine ⟨_, (pss_cons (ps_for PassesOwn.never rfl (pi_list (pv 0)) (pg_name (i := 1) sc__law_fits.nd rfl (.inl rfl)) (pss_one (ps_if (PW.pt (pw_and (pt_cmpR (op_ne0 (Nat.lt_of_succ_lt hu)) (pv 1) pe_dnewK (nomark _)) (pw_and1 (PW.pt (pw_or (pt_cmpR op_gt (pe_op op_sub (pe_callB (cr_max rfl) (by rfl) T.max (by decide +kernel) (pa_cons (pe_callTy (call_list_dK rfl) (by rfl) T.list (by decide +kernel) (pa_cons (pv 1) pa_nil)) pa_nil)) (pe_callB (cr_min rfl) (by rfl) T.min (by decide +kernel) (pa_cons (pe_callTy (call_list_dK rfl) (by rfl) T.list (by decide +kernel) (pa_cons (pv 1) pa_nil)) pa_nil))) pe_int (nomark _)) (pw_or (pt_cmpR op_gt (pe_callB (cr_max rfl) (by rfl) T.max (by decide +kernel) (pa_cons (pe_callTy (call_list_dK rfl) (by rfl) T.list (by decide +kernel) (pa_cons (pv 1) pa_nil)) pa_nil)) pe_int (nomark _)) (pw_or1 (pt_cmpR op_lt (pe_callB (cr_min rfl) (by rfl) T.min (by decide +kernel) (pa_cons (pe_callTy (call_list_dK rfl) (by rfl) T.list (by decide +kernel) (pa_cons (pv 1) pa_nil)) pa_nil)) (pe_un un_neg pe_int) (nomark _))))))))) (pss_one (ps_ret pe_bl)) pss_nil)))
      (pss_one (ps_ret pe_bl))), ?_⟩
    obtain ⟨f1, g1, ⟨p, x, y, rfl, h1, h2, h3⟩, S1, S2, hQ⟩ := h
    refine ⟨_, rfl, p, rfl, ⟨_, h1⟩, for_list (K := K) (a := p) (xs := [x, y]) (fun i σ' H' => Same H H' ∧ ∃ z, σ' = [some (.ref p), z]) ⟨Same.refl _, none, rfl⟩ (fun i σ' H' _ ⟨e, _⟩ => e.seq h1) ?_ ?_⟩
    · rintro i xi σ' H' hx ⟨e, z, rfl⟩
      have hh : ∃ f, Lot K H xi f ∧ Sup 5000 f := by
        match i, hx with
        | 0, hx => exact ⟨f1, (Option.some.inj hx) ▸ h2, S1⟩
        | 1, hx => exact ⟨g1, (Option.some.inj hx) ▸ h3, S2⟩
        | n + 2, hx => simp at hx
      obtain ⟨f, Ff, Sf⟩ := hh
      obtain ⟨L, a, kvs, rfl, ha, hL, hn, hc, rfl, hk, hs⟩ := (Ff.mono e).open Sf
      refine ⟨_, rfl, fun p2 hp2 => ⟨a, p2, kvs, rfl, rfl, same_new hp2 _ _ ha, upd_same, _, rfl, ?_⟩⟩
      have e0 : Same H' (upd H' p2 (.dK [])) := same_new hp2
      have nx : ∀ H2, Same H' H2 → Same H H2 ∧ ∃ z2, [some (.ref p), some (V.ref a)] = [some (.ref p), z2] := fun H2 e2 => ⟨e.trans e2, _, rfl⟩
      by_cases hz : kvs = []
      · rw [hz]
        exact iteF (iteF (nx _ e0))
      · have hemp : kvs.isEmpty = false := by
          cases kvs with
          | nil => exact absurd rfl hz
          | cons _ _ => rfl
        rw [hemp]
        have kv0 : kvs.map (fun kv => kV kv.1) = (L.map (·.1)).map V.int := keysV hL
        have pos : 0 < (L.map (·.1)).length := by
          rw [List.length_map, ← hL.len]
          exact List.length_pos_iff.mpr hz
        refine iteT ?_
        generalize L.map (·.1) = ns at kv0 pos
        have sq : ∀ (H2 : Hp) (q : Addr), SqL K (upd H2 q (.lst (kvs.map fun kv => kV kv.1))) q (ns.map V.int) := fun H2 q => by
          rw [kv0]
          exact lst_new
        refine ⟨_, rfl, a, kvs, rfl, e0 _ _ ha, fun q hq => ⟨q, ns, rfl, sq _ _, pos, fun M hM hM2 => ?_⟩⟩
        have e1 := e0.trans (same_new (o := .lst (kvs.map fun kv => kV kv.1)) hq)
        refine ⟨_, rfl, a, kvs, rfl, e1 _ _ ha, fun q2 hq2 => ⟨q2, ns, rfl, sq _ _, pos, fun m hm hm2 => ?_⟩⟩
        have e2 := e1.trans (same_new (o := .lst (kvs.map fun kv => kV kv.1)) hq2)
        refine ⟨_, _, rfl, rfl, _, _, rfl, rfl, ?_⟩
        by_cases b1 : 23 < M - m
        · exact ⟨true, congrArg V.bl (decide_eq_true b1), iteT (iteT (hQ false _ (e.trans e2)))⟩
        refine ⟨false, congrArg V.bl (decide_eq_false b1), iteF ?_⟩
        refine ⟨_, rfl, a, kvs, rfl, e2 _ _ ha, fun q3 hq3 => ⟨q3, ns, rfl, sq _ _, pos, fun M3 hM3 hM4 => ?_⟩⟩
        have e3 := e2.trans (same_new (o := .lst (kvs.map fun kv => kV kv.1)) hq3)
        refine ⟨_, _, rfl, rfl, ?_⟩
        by_cases b2 : 1000 < M3
        · exact ⟨true, congrArg V.bl (decide_eq_true b2), iteT (iteT (hQ false _ (e.trans e3)))⟩
        refine ⟨false, congrArg V.bl (decide_eq_false b2), iteF ?_⟩
        refine ⟨_, rfl, a, kvs, rfl, e3 _ _ ha, fun q4 hq4 => ⟨q4, ns, rfl, sq _ _, pos, fun m4 hm4 hm5 => ?_⟩⟩
        have e4 := e3.trans (same_new (o := .lst (kvs.map fun kv => kV kv.1)) hq4)
        refine ⟨_, rfl, _, _, rfl, rfl, ?_⟩
        by_cases b3 : m4 < -1000
        · exact ⟨true, congrArg V.bl (decide_eq_true b3), iteT (hQ false _ (e.trans e4))⟩
        · exact ⟨false, congrArg V.bl (decide_eq_false b3), iteF (nx _ e4)⟩
    · rintro σ' H' ⟨e, _⟩
      exact hQ true _ e

end
end BW
namespace BW
open PySem PySem.Spec PyProof.Rows L2 BS
section
variable {P : Program} {w : World} {K : PySem.W.Frag} {mg : Str → Option Value} {base : Heap} {za na nb : Addr} {pt : Tok}
/-! ### the ladder -/
noncomputable def ledStep (p : LP × LP) (s : Bool × LP) : LP × LP := if s.1 then (p.1 + s.2 * p.2, p.2) else (p.1, p.2 + s.2 * p.1)
noncomputable def ledF (ss : List (Bool × LP)) (p : LP × LP) : LP × LP := ss.foldl ledStep p
theorem led_det : ∀ (ss : List (Bool × LP)) (a b : LP × LP), (ledF ss a).1 * (ledF ss b).2 - (ledF ss a).2 * (ledF ss b).1 = a.1 * b.2 - a.2 * b.1
  | [], _, _ => rfl
  | s :: r, a, b => by
    show (ledF r (ledStep a s)).1 * (ledF r (ledStep b s)).2 - (ledF r (ledStep a s)).2 * (ledF r (ledStep b s)).1 = _
    rw [led_det r]
    obtain ⟨q, e⟩ := s
    cases q
    · show a.1 * (b.2 + e * b.1) - (a.2 + e * a.1) * b.1 = _
      grind
    · show (a.1 + e * a.2) * b.2 - a.2 * (b.1 + e * b.2) = _
      grind
def PairSz (t : Nat) (p : LP × LP) : Prop := (Sz (84 ^ (t + 1)) (37 + 39 * t) p.1 ∧ Sup (4 + 5 * t) p.1) ∧ Sz (84 ^ (t + 1)) (37 + 39 * t) p.2 ∧ Sup (4 + 5 * t) p.2
theorem sz_up {t : Nat} {f : LP} (h : Sz (84 ^ (t + 1)) (37 + 39 * t) f) : Sz (84 ^ (t + 1 + 1)) (37 + 39 * t + 38) f := by
  have := h.wide 84 (by decide) (show 84 ≤ 2 ^ 7 by decide)
  rw [← Nat.pow_succ'] at this
  exact this.mono (by omega)
theorem sz_step {t : Nat} {f g s : LP} (h : Sz (84 ^ (t + 1)) (37 + 39 * t) f) (h' : Sz (84 ^ (t + 1)) (37 + 39 * t) g) (hs : Sz 84 38 s) : Sz (84 ^ (t + 1 + 1)) (37 + 39 * (t + 1)) (f + s * g) := by
  have a := sz_up h
  have b := hs.mul h'
  rw [← Nat.pow_succ'] at b
  exact (a.add (b.mono (b := 37 + 39 * t + 38) (by omega))).mono (by omega)
theorem PairSz.up {t : Nat} {p : LP × LP} (h : PairSz t p) : PairSz (t + 1) p :=
  ⟨⟨(sz_up h.1.1).mono (by omega), h.1.2.mono (by omega)⟩, (sz_up h.2.1).mono (by omega), h.2.2.mono (by omega)⟩
theorem PairSz.step {t : Nat} {p : LP × LP} {s : Bool × LP} (h : PairSz t p) (h1 : Sz 84 38 s.2) (h2 : Sup 5 s.2) : PairSz (t + 1) (ledStep p s) := by
  have u := h.up
  obtain ⟨⟨a1, a2⟩, b1, b2⟩ := h
  obtain ⟨q, e⟩ := s
  cases q
  · exact ⟨u.1, sz_step b1 a1 h1, (b2.mono (by omega)).add ((h2.mul a2).mono (by omega))⟩
  · exact ⟨⟨sz_step a1 b1 h1, (a2.mono (by omega)).add ((h2.mul b2).mono (by omega))⟩, u.2⟩
theorem led_succ {ss : List (Bool × LP)} {p : LP × LP} {i : Nat} {s : Bool × LP} (h : ss[i]? = some s) : ledF (ss.take (i + 1)) p = ledStep (ledF (ss.take i) p) s := by
  unfold ledF
  rw [List.take_add_one, h, List.foldl_append]
  rfl
theorem led_sz {ss : List (Bool × LP)} {p : LP × LP} (hp : PairSz 0 p) (ok : StepOk ss) : ∀ i, i ≤ ss.length → PairSz i (ledF (ss.take i) p)
  | 0, _ => hp
  | i + 1, hi => by
    have h1 : ss[i]? = some ss[i] := List.getElem?_eq_getElem (by omega)
    rw [led_succ h1]
    obtain ⟨o1, o2⟩ := ok _ (List.mem_of_getElem? h1)
    exact (led_sz hp ok i (by omega)).step o1 o2
theorem PairSz.three {t : Nat} {p : LP × LP} (h : PairSz t p) (ht : t ≤ 3) : PairSz 3 p := by
  match t, h, ht with
  | 0, h, _ => exact h.up.up.up
  | 1, h, _ => exact h.up.up
  | 2, h, _ => exact h.up
  | 3, h, _ => exact h
  | n + 4, _, ht => omega
noncomputable def initF (f : LP) (c0 : Rat) (d0 : Int) (c1 : Rat) (d1 : Int) : LP × LP := (LP.mono 1 (d0 + 0) * (LP.mono c0 0 * LP.ev f), LP.mono 1 (d1 + 1) * (LP.mono c1 0 * LP.od f))
theorem init1 {F : LP} {c : Rat} {d : Int} (h : Sz 1 0 F) (hs : Sup 1 F) (hc : NumOk c) (hd : d.natAbs ≤ 3) : Sz 84 37 (LP.mono 1 d * (LP.mono c 0 * F)) ∧ Sup 4 (LP.mono 1 d * (LP.mono c 0 * F)) :=
  ⟨((mono_sz hc 0).mul h).shift d, ((Sup.one d 1).mul ((Sup.one 0 c).mul hs)).mono (by show d.natAbs + (0 + 1) ≤ 4; omega)⟩
theorem init_sz {f : LP} {c0 c1 : Rat} {d0 d1 : Int} (h : Sz 1 0 f) (hs : Sup 1 f) (h0 : NumOk c0) (h1 : NumOk c1) (hd0 : d0.natAbs ≤ 2) (hd1 : d1.natAbs ≤ 2) : PairSz 0 (initF f c0 d0 c1 d1) :=
  ⟨init1 h.ev hs.ev h0 (by omega), init1 h.od hs.od h1 (by omega)⟩
theorem ev0 : LP.ev (LP.mono 1 0) = LP.mono 1 0 := LP.ext fun k => by
  rw [LP.ev_at, LP.mono_at, LP.mono_at]
  by_cases z : k = 0
  · rw [if_pos (by omega), if_pos (by omega)]
  · rw [if_neg (by omega), if_neg (by omega)]
theorem od0 : LP.od (LP.mono 1 0) = 0 := LP.ext fun k => by
  rw [LP.od_at, LP.mono_at, LP.zero_at', if_neg (by omega)]
theorem ev1 : LP.ev (LP.mono 1 1) = 0 := LP.ext fun k => by
  rw [LP.ev_at, LP.mono_at, LP.zero_at', if_neg (by omega)]
theorem od1 : LP.od (LP.mono 1 1) = LP.mono 1 0 := LP.ext fun k => by
  rw [LP.od_at, LP.mono_at, LP.mono_at]
  by_cases z : k = 0
  · rw [if_pos (by omega), if_pos (by omega)]
  · rw [if_neg (by omega), if_neg (by omega)]
theorem init_det {c0 c1 : Rat} {d0 d1 : Int} (h0 : c0 ≠ 0) (h1 : c1 ≠ 0) :
    LP.Single ((initF (LP.mono 1 0) c0 d0 c1 d1).1 * (initF (LP.mono 1 1) c0 d0 c1 d1).2 - (initF (LP.mono 1 0) c0 d0 c1 d1).2 * (initF (LP.mono 1 1) c0 d0 c1 d1).1) := by
  show LP.Single (LP.mono 1 (d0 + 0) * (LP.mono c0 0 * LP.ev (LP.mono 1 0)) * (LP.mono 1 (d1 + 1) * (LP.mono c1 0 * LP.od (LP.mono 1 1))) - LP.mono 1 (d1 + 1) * (LP.mono c1 0 * LP.od (LP.mono 1 0)) * (LP.mono 1 (d0 + 0) * (LP.mono c0 0 * LP.ev (LP.mono 1 1))))
  rw [ev0, od0, ev1, od1]
  have e : LP.mono 1 (d0 + 0) * (LP.mono c0 0 * LP.mono 1 0) * (LP.mono 1 (d1 + 1) * (LP.mono c1 0 * LP.mono 1 0)) - LP.mono 1 (d1 + 1) * (LP.mono c1 0 * 0) * (LP.mono 1 (d0 + 0) * (LP.mono c0 0 * 0)) = LP.mono 1 (d0 + 0) * (LP.mono c0 0 * (LP.mono 1 0 * (LP.mono 1 (d1 + 1) * (LP.mono c1 0 * LP.mono 1 0)))) := by grind
  rw [e]
  have o : ∀ d, LP.Single (LP.mono 1 d) := fun d => ⟨1, d, by decide, rfl⟩
  exact ((((o 0).mul h1).mul (by decide)).mul (by decide)).mul h0 |>.mul (by decide)
theorem fit_num {c : Rat} (h : NumOk c) : Fit c := fit_of (num84 h) (by decide) (by rw [big_eq]; exact Nat.le_trans (show 84 ≤ 2 ^ 7 by decide) (Nat.pow_le_pow_right (by decide) (by decide))) (small_big (by decide))
theorem p84 {t : Nat} (h : t ≤ 20) : 84 ^ t ≤ big := Nat.le_trans (Nat.pow_le_pow_left (show 84 ≤ 2 ^ 7 by decide) t) (by rw [← Nat.pow_mul]; exact small_big (by omega))
def sp__law_led (K : PySem.W.Frag) : Sp := sp3 fun a b c H Q => ∃ ss f c0 d0 c1 d1, StepsAt K H a ss ∧ ss.length ≤ 3 ∧ StepOk ss ∧ ScaleAt K H b c0 d0 c1 d1 ∧ NumOk c0 ∧ NumOk c1 ∧ d0.natAbs ≤ 2 ∧ d1.natAbs ≤ 2 ∧ Lot K H c f ∧ Sz 1 0 f ∧ Sup 1 f ∧
  Ret (fun v H' => PairLot K H' v (ledF ss (initF f c0 d0 c1 d1)).1 (ledF ss (initF f c0 d0 c1 d1)).2) H Q
abbrev N__law_led : List Str := ["_law_steps_here", "_law_scale_here", "_law_lot", "_law_pair_here", "_law_way", "_law_each", "_law_at", "_law_k"]
theorem sc__law_led : FnScope N__law_led ["_law_steps_here", "_law_scale_here", "_law_lot"] (defScope BH.s__law_led) := ⟨rfl, rfl, rfl, by decide +kernel, rfl, by decide +kernel, by decide +kernel⟩
theorem w__law_led (T : Tx K mg za na nb pt) (D_ : Df K mg "_law_led" BH.s__law_led) (c__law_later : Cl P w K mg base 1 "_law_later" ["_law_lot", "_law_by"] (sp__law_later K)) (c__law_part : Cl P w K mg base 1 "_law_part" ["_law_lot", "_law_odd"] (sp__law_part K)) (c__law_plus : Cl P w K mg base 4 "_law_plus" ["_law_one", "_law_two"] (sp__law_plus K)) (c__law_scaled : Cl P w K mg base 4 "_law_scaled" ["_law_lot", "_law_by"] (sp__law_scaled K)) (c__law_times : Cl P w K mg base 4 "_law_times" ["_law_one", "_law_two"] (sp__law_times K)) : Cl P w K mg base 5 "_law_led" ["_law_steps_here", "_law_scale_here", "_law_lot"] (sp__law_led K) := by
  refine D_.ok sc__law_led (fun _ _ _ _ _ _ us hl => match us, hl with | [_, _, _], _ => rfl) (fun vs H Q E h => ?_) (fun f cdv A outer s H vs Q E hr h => ?_)
  · obtain ⟨_, _, _, rfl, _⟩ := h
    rfl
  · have hu := hu_of hr
    have hu64 := hu64_of hr
    obtain ⟨v_steps_here, v_scale_here, v_lot, rfl, h⟩ := h
    refine ⟨_, (pss_cons (ps_setLc (i := 3) (own := [("_law_k", 7)]) (g := gName 7) rfl sc__law_led.nd rfl rfl (sw_true rfl rfl rfl (by decide +kernel)) (pi_tup (pe_tup (pa_cons pe_int (pa_cons pe_int pa_nil)))) (blkOk_by (own := [("_law_k", 7)]) (N := N__law_led) (sc := defScope BH.s__law_led) (by decide +kernel)) (fun _ _ _ _ _ => pg_name (i := 7) sc__law_led.nd rfl (Or.inl rfl)) (fun _ _ _ _ _ => pts_nil) (fun _ _ _ _ _ => (pe_cl c__law_later (hr.mono (by decide)) (by rfl) (pa_cons (pe_cl c__law_scaled (hr.mono (by decide)) (by rfl) (pa_cons (pe_cl c__law_part (hr.mono (by decide)) (by rfl) (pa_cons (pv 2) (pa_cons (pv 7) pa_nil))) (pa_cons (pe_ix (show IxR _ (rIxT K) from ix_tup) (pe_ix (show IxR _ (rIxT K) from ix_tup) (pv 1) (pv 7) (fun _ _ => rfl)) pe_int (fun _ _ => rfl)) pa_nil))) (pa_cons (pe_op op_add (pe_ix (show IxR _ (rIxT K) from ix_tup) (pe_ix (show IxR _ (rIxT K) from ix_tup) (pv 1) (pv 7) (fun _ _ => rfl)) pe_int (fun _ _ => rfl)) (pv 7)) pa_nil)))))
      (pss_cons (ps_for PassesOwn.never rfl (pi_list (pv 0)) (pg_tup rfl (pgs_cons (pg_name (i := 4) sc__law_led.nd rfl (.inl rfl)) (pgs_cons (pg_name (i := 5) sc__law_led.nd rfl (.inl rfl)) pgs_nil))) (pss_cons (ps_set (i := 6) sc__law_led.nd rfl (.inl rfl) (pe_ifExp (pt_cmpR op_eq (pv 4) pe_str (nomark _)) pe_int pe_int))
      (pss_one (ps_asg (pe_cl c__law_plus (hr.mono (by decide)) (by rfl) (pa_cons (pe_ix ix_list (pv 3) (pv 6) (fun _ _ => rfl)) (pa_cons (pe_cl c__law_times (hr.mono (by decide)) (by rfl) (pa_cons (pv 5) (pa_cons (pe_ix ix_list (pv 3) (pe_op op_sub pe_int (pv 6)) (fun _ _ => rfl)) pa_nil))) pa_nil))) (pg_sub (pv 3) (pv 6) set_list)))))
      (pss_one (ps_ret (pv 3))))), ?_⟩
    obtain ⟨ss, f1, c0, d0, c1, d1, hSt, hl, ok, hSc, ok0, ok1, hd0, hd1, F1, Z1, S1, hQ⟩ := h
    have hP0 := init_sz Z1 S1 ok0 ok1 hd0 hd1
    obtain ⟨sp_, sx, rfl, hsx, hst⟩ := id hSt
    obtain ⟨pp, q0, q1, n0, n1, rfl, g1, g2, g3, g4, g5⟩ := id hSc
    refine ⟨sm2, fun t ht => ?_⟩
    have t0 : Same H (upd H t (.tup [.int 0, .int 1])) := same_new ht
    refine ⟨t, rfl, ⟨_, tup_new⟩, fun D hD => ?_⟩
    have hDH := t0.free hD
    refine lcm_tup (K := K) (a := t) (xs := [.int 0, .int 1]) [(initF f1 c0 d0 c1 d1).1, (initF f1 c0 d0 c1 d1).2] (fun H2 v y => Lot K H2 v y ∧ Nw H v) (fun _ _ _ _ h e => ⟨h.1.si e, h.2⟩) hD tup_new rfl (by show 2 ≤ 50000; decide) (fun i xi yi H2 hx hy e Q2 q => ?_) (fun H2 vs e hv hp => ?_)
    · have e0 := t0.trans e
      have hh : ∃ (k : Int) (q : Addr) (n : V) (c : Rat) (d : Int) (F : LP), xi = .int k ∧ atI [V.ref q0, V.ref q1] k = some (.ref q) ∧ SqT K H q [n, .int d] ∧ Fr K H n c ∧ NumOk c ∧ (d + k).natAbs ≤ 3 ∧ (∀ j, F j = f1 (2 * j + k)) ∧ Sz 1 0 F ∧ Sup 1 F ∧ yi = LP.mono 1 (d + k) * (LP.mono c 0 * F) := by
        match i, hx, hy with
        | 0, hx, hy => exact ⟨0, q0, n0, c0, d0, LP.ev f1, (Option.some.inj hx).symm, rfl, g2, g4, ok0, by omega, fun j => by rw [LP.ev_at, Int.add_zero], Z1.ev, S1.ev, (Option.some.inj hy).symm⟩
        | 1, hx, hy => exact ⟨1, q1, n1, c1, d1, LP.od f1, (Option.some.inj hx).symm, rfl, g3, g5, ok1, by omega, fun j => LP.od_at f1 j, Z1.od, S1.od, (Option.some.inj hy).symm⟩
        | n + 2, hx, _ => simp at hx
      obtain ⟨k, q', n, c, d, F, rfl, hat, hq', hn, okc, hdk, hF, ZF, SF, rfl⟩ := hh
      refine ⟨_, rfl, _, rfl, _, _, rfl, f1, F, k, F1.mono e0, S1.mono (by decide), rfl, hF, fun v1 H3 e3 n3 r3 => ?_⟩
      have e03 := e0.trans e3
      refine ⟨_, rfl, _, rfl, _, _, _, _, rfl, rfl, same_t e03 g1, hat, _, _, _, _, rfl, rfl, same_t e03 hq', rfl, _, _, rfl, F, c, r3, SF.mono (by decide), hn.mono e03, ZF.fits (by rw [big_eq]; exact Nat.pos_of_ne_zero (by decide +kernel)) (small_big (by decide)), fit_num okc, fun v2 H4 e4 n4 r4 => ?_⟩
      have e04 := e03.trans e4
      refine ⟨_, rfl, _, rfl, _, _, _, _, rfl, rfl, same_t e04 g1, hat, _, _, _, _, rfl, rfl, same_t e04 hq', rfl, _, rfl, _, _, rfl, rfl, _, _, rfl, LP.mono c 0 * F, _, r4, ((Sup.one 0 c).mul SF).mono (by decide), rfl, fun v5 H5 e5 n5 r5 => q v5 H5 ((e3.trans e4).trans e5) ⟨r5, n5.of e04⟩⟩
    obtain ⟨u, w, rfl, hu, hw⟩ : ∃ u w, vs = [u, w] ∧ (Lot K H2 u (initF f1 c0 d0 c1 d1).1 ∧ Nw H u) ∧ (Lot K H2 w (initF f1 c0 d0 c1 d1).2 ∧ Nw H w) := by
      cases hp with
      | cons r t =>
        cases t with
        | cons r2 t2 =>
          cases t2
          exact ⟨_, _, rfl, r, r2⟩
    have e0 := t0.trans e
    refine ⟨_, rfl, sp_, rfl, ⟨_, e0.seq hsx⟩, for_list (K := K) (a := sp_) (xs := sx) (fun i σ' H3 => Same H H3 ∧ ∃ z4 z5 z6 z7 x0 x1, σ' = [some (.ref sp_), some (.ref pp), some v_lot, some (.ref D), z4, z5, z6, z7] ∧ H3 D = some (.lst [x0, x1]) ∧ (Lot K H3 x0 (ledF (ss.take i) (initF f1 c0 d0 c1 d1)).1 ∧ Nw H x0) ∧ (Lot K H3 x1 (ledF (ss.take i) (initF f1 c0 d0 c1 d1)).2 ∧ Nw H x1)) ⟨e0, _, _, _, _, u, w, rfl, hv, hu, hw⟩ (fun i σ' H' _ ⟨e, _⟩ => e.seq hsx) ?_ ?_⟩
    · rintro i x σ' H3 hx ⟨e3, z4, z5, z6, z7, x0, x1, rfl, hD3, ⟨hx0, nx0⟩, hx1, nx1⟩
      obtain ⟨s, hs, q, ea, rfl, hq, hE⟩ := pr_get hst hx
      have hi := (List.getElem?_eq_some_iff.mp hs).1
      obtain ⟨⟨za1, za2⟩, zb1, zb2⟩ := led_sz hP0 ok i (by omega)
      obtain ⟨os1, os2⟩ := ok s (List.mem_of_getElem? hs)
      have hne : ∀ y, Nw H y → ea ≠ y := fun y ⟨l, e1, e2⟩ z => by
        obtain ⟨_, ⟨a', _, e3, e4, _⟩, _⟩ := hE
        rw [e3, e1] at z
        injection z with z
        rw [z, e2] at e4
        cases e4
      have b1 : 84 * 84 ^ (i + 1) ≤ big := by
        rw [← Nat.pow_succ']
        exact p84 (by omega)
      have b2 : 2 ^ (38 + (37 + 39 * i)) ≤ big := small_big (by omega)
      have b3 : 84 ^ (i + 1) ≤ big := p84 (by omega)
      have b4 : 2 ^ (37 + 39 * i) ≤ big := small_big (by omega)
      refine ⟨q, _, rfl, same_t e3 hq, rfl, _, _, rfl, _, _, rfl, rfl, ?_⟩
      rw [led_succ hs]
      obtain ⟨b, E1⟩ := s
      cases b
      · refine ⟨_, rfl, rfl, false, rfl, iteF ?_⟩
        refine ⟨_, rfl, _, rfl, _, _, _, _, rfl, rfl, lst_at hD3, rfl, _, rfl, _, rfl, _, rfl, _, _, rfl, rfl, _, _, _, _, rfl, rfl, lst_at hD3, rfl, _, _, rfl, E1, (ledF (ss.take i) (initF f1 c0 d0 c1 d1)).1, 84, 84 ^ (i + 1), 38, 37 + 39 * i, hne _ nx0, hE.mono e3, hx0, os1, za1, b1, b2, os2.mono (by decide), za2.mono (by omega), fun v1 H4 e4 n4 r4 => ?_⟩
        refine ⟨_, _, rfl, _, _, hx1.mono e4, r4, zb2.mono (by omega), (os2.mul za2).mono (by omega), zb1.fits b3 b4, (os1.mul za1).fits b1 b2, fun v2 H5 e5 n5 r5 => ?_⟩
        have e35 := e3.trans (e4.trans e5)
        have hD5 := e5 _ _ (e4 _ _ hD3)
        have s6 : SI H5 (upd H5 D (.lst [x0, v2])) := si_set hD5
        exact ⟨_, rfl, _, rfl, D, [x0, x1], _, 1, rfl, rfl, hD5, rfl, same_mut e35 hDH, _, _, _, _, x0, v2, rfl, upd_same, ⟨((hx0.mono e4).mono e5).si s6, nx0⟩, r5.si s6, n5.of (e3.trans e4)⟩
      · refine ⟨_, rfl, rfl, true, rfl, iteT ?_⟩
        refine ⟨_, rfl, _, rfl, _, _, _, _, rfl, rfl, lst_at hD3, rfl, _, rfl, _, rfl, _, rfl, _, _, rfl, rfl, _, _, _, _, rfl, rfl, lst_at hD3, rfl, _, _, rfl, E1, (ledF (ss.take i) (initF f1 c0 d0 c1 d1)).2, 84, 84 ^ (i + 1), 38, 37 + 39 * i, hne _ nx1, hE.mono e3, hx1, os1, zb1, b1, b2, os2.mono (by decide), zb2.mono (by omega), fun v1 H4 e4 n4 r4 => ?_⟩
        refine ⟨_, _, rfl, _, _, hx0.mono e4, r4, za2.mono (by omega), (os2.mul zb2).mono (by omega), za1.fits b3 b4, (os1.mul zb1).fits b1 b2, fun v2 H5 e5 n5 r5 => ?_⟩
        have e35 := e3.trans (e4.trans e5)
        have hD5 := e5 _ _ (e4 _ _ hD3)
        have s6 : SI H5 (upd H5 D (.lst [v2, x1])) := si_set hD5
        exact ⟨_, rfl, _, rfl, D, [x0, x1], _, 0, rfl, rfl, hD5, rfl, same_mut e35 hDH, _, _, _, _, v2, x1, rfl, upd_same, ⟨r5.si s6, n5.of (e3.trans e4)⟩, ((hx1.mono e4).mono e5).si s6, nx1⟩
    · rintro σ' H3 ⟨e3, z4, z5, z6, z7, x0, x1, rfl, hD3, ⟨hx0, nx0⟩, hx1, nx1⟩
      rw [Paired.length hst, List.take_length] at hx0 hx1
      exact ⟨_, rfl, hQ _ _ e3 ⟨D, x0, x1, rfl, lst_at hD3, hx0, hx1⟩⟩

end
end BW
namespace BW
open PySem PySem.Spec PyProof.Rows L2 BS
section
variable {P : Program} {w : World} {K : PySem.W.Frag} {mg : Str → Option Value} {base : Heap} {za na nb : Addr} {pt : Tok}
section
variable {K : PySem.W.Frag} {H : Hp}
/-- {k: (1, 1)} -/
theorem one_lot {p q : Addr} (k : Int) (hp : H p = none) (hq : (upd H p (.dK [])) q = none) :
    (upd (upd H p (.dK [])) q (.tup [.int 1, .int 1])) p = some (.dK []) ∧ Same H (upd (upd (upd H p (.dK [])) q (.tup [.int 1, .int 1])) p (.dK (mergeK [] [(Sum.inl k, V.ref q)]))) ∧
    Lot K (upd (upd (upd H p (.dK [])) q (.tup [.int 1, .int 1])) p (.dK (mergeK [] [(Sum.inl k, V.ref q)]))) (.ref p) (LP.mono 1 k) := by
  have x0 : Same H (upd H p (.dK [])) := same_new hp
  have x1 : Same (upd H p (.dK [])) (upd (upd H p (.dK [])) q (.tup [.int 1, .int 1])) := same_new hq
  have npq : q ≠ p := fun z => by rw [z, upd_same] at hq; cases hq
  have hd := x1 _ _ upd_same
  refine ⟨hd, same_mut (x0.trans x1) hp, [(k, 1)], ⟨p, _, rfl, upd_same, .cons ⟨rfl, q, rfl, ?_⟩ .nil, by simp⟩, fun x hx => ?_, rfl⟩
  · refine tup_at ?_
    rw [upd_ne npq, upd_same]
    rfl
  · rw [List.mem_singleton.mp hx]
    exact (by decide : (1 : Rat) ≠ 0)
end
def PairGood (K : PySem.W.Frag) (H : Hp) (v : V) : Prop := ∃ f g, PairLot K H v f g ∧ LP.Single (LP.det f g) ∧ Okl (84 ^ 4) 155 100 f ∧ Okl (84 ^ 4) 155 100 g
def sp__law_of_ladder (K : PySem.W.Frag) : Sp := sp2 fun a b H Q => ∃ ss c0 d0 c1 d1, StepsAt K H a ss ∧ ss.length ≤ 3 ∧ StepOk ss ∧ ScaleAt K H b c0 d0 c1 d1 ∧ NumOk c0 ∧ NumOk c1 ∧ d0.natAbs ≤ 2 ∧ d1.natAbs ≤ 2 ∧ Ret (fun v H' => PairGood K H' v) H Q
abbrev N__law_of_ladder : List Str := ["_law_steps_here", "_law_scale_here", "_law_one", "_law_two"]
theorem sc__law_of_ladder : FnScope N__law_of_ladder ["_law_steps_here", "_law_scale_here"] (defScope BH.s__law_of_ladder) := ⟨rfl, rfl, rfl, by decide +kernel, rfl, by decide +kernel, by decide +kernel⟩
theorem w__law_of_ladder (T : Tx K mg za na nb pt) (D_ : Df K mg "_law_of_ladder" BH.s__law_of_ladder)  (c__law_led : Cl P w K mg base 5 "_law_led" ["_law_steps_here", "_law_scale_here", "_law_lot"] (sp__law_led K)) (c__law_pair : Cl P w K mg base 5 "_law_pair" ["_law_table"] (sp__law_pair K)) : Cl P w K mg base 6 "_law_of_ladder" ["_law_steps_here", "_law_scale_here"] (sp__law_of_ladder K) := by
  refine D_.ok sc__law_of_ladder (fun _ _ _ _ _ _ us hl => match us, hl with | [_, _], _ => rfl) (fun vs H Q E h => ?_) (fun f cdv A outer s H vs Q E hr h => ?_)
  · obtain ⟨_, _, rfl, _⟩ := h
    rfl
  · have hu := hu_of hr
    have hu64 := hu64_of hr
    obtain ⟨v_steps_here, v_scale_here, rfl, h⟩ := h
    refine ⟨_, (pss_cons (ps_par rfl sc__law_of_ladder.nd (i := 2) (j := 3) rfl rfl (by decide) rfl rfl (pa_cons (pe_cl c__law_led (hr.mono (by decide)) (by rfl) (pa_cons (pv 0) (pa_cons (pv 1) (pa_cons (pe_disp (pps_cons pe_int (pe_tup (pa_cons pe_int (pa_cons pe_int pa_nil))) pps_nil) (by rfl) (by rfl) (fun z => by cases z) (by decide)) pa_nil)))) (pa_cons (pe_cl c__law_led (hr.mono (by decide)) (by rfl) (pa_cons (pv 0) (pa_cons (pv 1) (pa_cons (pe_disp (pps_cons pe_int (pe_tup (pa_cons pe_int (pa_cons pe_int pa_nil))) pps_nil) (by rfl) (by rfl) (fun z => by cases z) (by decide)) pa_nil)))) pa_nil)) (by rfl))
      (pss_one (ps_ret (pe_cl c__law_pair (hr.mono (by decide)) (by rfl) (pa_cons (pe_lst (pa_cons (pe_lst (pa_cons (pe_ix ix_list (pv 2) pe_int (fun _ _ => rfl)) (pa_cons (pe_ix ix_list (pv 3) pe_int (fun _ _ => rfl)) pa_nil))) (pa_cons (pe_lst (pa_cons (pe_ix ix_list (pv 2) pe_int (fun _ _ => rfl)) (pa_cons (pe_ix ix_list (pv 3) pe_int (fun _ _ => rfl)) pa_nil))) pa_nil))) pa_nil))))), ?_⟩
    obtain ⟨ss, c0, d0, c1, d1, hSt, hl, ok, hSc, ok0, ok1, hd0, hd1, hQ⟩ := h
    refine ⟨_, rfl, _, rfl, fun p hp => ⟨sm2, fun q hq => ?_⟩⟩
    obtain ⟨m1, m2, m3⟩ := one_lot (K := K) 0 hp hq
    refine ⟨m1, [(Sum.inl 0, .ref q)], rfl, (show 1 ≤ 15 by decide), _, _, _, rfl, ss, LP.mono 1 0, c0, d0, c1, d1, hSt.mono m2, hl, ok, hSc.si (SI.of m2), ok0, ok1, hd0, hd1, m3, Sz.one 0, (Sup.one 0 1).mono (by decide), fun v1 H1 e1 r1 => ?_⟩
    have x1 := m2.trans e1
    refine ⟨_, rfl, _, rfl, fun p hp => ⟨sm2, fun q hq => ?_⟩⟩
    obtain ⟨m1, m2, m3⟩ := one_lot (K := K) 1 hp hq
    have x2 := x1.trans m2
    refine ⟨m1, [(Sum.inl 1, .ref q)], rfl, (show 1 ≤ 15 by decide), _, _, _, rfl, ss, LP.mono 1 1, c0, d0, c1, d1, hSt.mono x2, hl, ok, hSc.si (SI.of x2), ok0, ok1, hd0, hd1, m3, Sz.one 1, Sup.one 1 1, fun v2 H2 e2 r2 => ?_⟩
    obtain ⟨p1, u1, w1, rfl, s1, k1, l1⟩ := r1.mono (m2.trans e2)
    obtain ⟨p2, u2, w2, rfl, s2, k2, l2⟩ := r2
    have x3 := x2.trans e2
    refine ⟨_, _, rfl, ?_⟩
    refine ⟨_, rfl, _, _, _, _, rfl, rfl, s1, rfl, _, rfl, _, _, _, _, rfl, rfl, s2, rfl, sm2, fun q0 hq0 => ?_⟩
    have y0 := same_new (o := .lst [u1, u2]) hq0
    refine ⟨_, rfl, _, _, _, _, rfl, rfl, y0.seq s1, rfl, _, rfl, _, _, _, _, rfl, rfl, y0.seq s2, rfl, sm2, fun q1 hq1 => ⟨sm2, fun q hq => ?_⟩⟩
    have y1 := same_new (o := .lst [w1, w2]) hq1
    have y2 := same_new (o := .lst [.ref q0, .ref q1]) hq
    have y12 := y1.trans y2
    have y02 := y0.trans y12
    have z1 := (led_sz (init_sz (f := LP.mono 1 0) (Sz.one 0) ((Sup.one 0 1).mono (by decide)) ok0 ok1 hd0 hd1) ok ss.length (Nat.le_refl _)).three hl
    have z2 := (led_sz (init_sz (f := LP.mono 1 1) (Sz.one 1) (Sup.one 1 1) ok0 ok1 hd0 hd1) ok ss.length (Nat.le_refl _)).three hl
    rw [List.take_length] at z1 z2
    obtain ⟨⟨za1, za2⟩, zb1, zb2⟩ := z1
    obtain ⟨⟨zc1, zc2⟩, zd1, zd2⟩ := z2
    have b1 : 84 ^ 4 ≤ big := p84 (by decide)
    have b2 : 2 ^ 154 ≤ big := small_big (by decide)
    have b3 : 2 ^ 155 ≤ big := small_big (by decide)
    have pf : ∀ a b, Sz (84 ^ 4) 154 a → Sup 19 a → Sz (84 ^ 4) 154 b → Sup 19 b → Okl (84 ^ 4) 155 100 (pairF a b) := fun a b h1 h2 h3 h4 =>
      ⟨h1.sp.add (h3.sp.shift (-1)), b1, b3, (h2.sp.mono (by decide)).add (((Sup.one (-1) 1).mul h4.sp).mono (by decide))⟩
    refine ⟨_, rfl, q, q0, q1, u1, u2, w1, w2, _, _, _, _, 84 ^ 4, 154, rfl, lst_new, y12.seq lst_new, y2.seq lst_new, k1.mono y02, k2.mono y02, l1.mono y02, l2.mono y02,
      ⟨za1, b1, b2, za2.mono (by decide)⟩, ⟨zc1, b1, b2, zc2.mono (by decide)⟩, ⟨zb1, b1, b2, zb2.mono (by decide)⟩, ⟨zd1, b1, b2, zd2.mono (by decide)⟩, fun v H3 e3 r3 => hQ v H3 ((x3.trans y02).trans e3) ⟨_, _, r3, ?_, pf _ _ za1 za2 zc1 zc2, pf _ _ zb1 zb2 zd1 zd2⟩⟩
    unfold pairF
    rw [LP.det_pair]
    refine LP.Single.mul ?_ (by decide)
    have key := led_det ss (initF (LP.mono 1 0) c0 d0 c1 d1) (initF (LP.mono 1 1) c0 d0 c1 d1)
    rw [LP.mul_comm' (ledF ss (initF (LP.mono 1 1) c0 d0 c1 d1)).1 (ledF ss (initF (LP.mono 1 0) c0 d0 c1 d1)).2, key]
    exact init_det ok0.1 ok1.1
theorem okl_one (d : Int) (h : d.natAbs ≤ 100) : Okl (84 ^ 4) 155 100 (LP.mono 1 d) := by
  have := (Sz.one d).wide (84 ^ 4) (by decide) (show 84 ^ 4 ≤ 2 ^ 28 by decide)
  rw [Nat.mul_one] at this
  exact ⟨this.mono (by decide), p84 (by decide), small_big (by decide), (Sup.one d 1).mono h⟩
theorem det_ones : LP.Single (LP.det (LP.mono 1 0) (LP.mono 1 1)) := by
  unfold LP.det
  rw [ev0, od1, od0, ev1]
  have e : LP.mono 1 0 * LP.mono 1 0 - (0 : LP) * 0 = LP.mono 1 0 * LP.mono 1 0 := by grind
  rw [e]
  exact LP.Single.mul ⟨1, 0, by decide, rfl⟩ (by decide)
def sp__law_lossless (K : PySem.W.Frag) : Sp := sp2 fun a b H Q => ∃ p, a = .ref p ∧ WellAt H p ∧ b = .int 3 ∧ RetW p (fun v H' => PairGood K H' v) H Q
abbrev N__law_lossless : List Str := ["_law_well_here", "_law_most", "_law_steps_here", "_law_scale_here", "_law_turn", "_law_pair_here"]
theorem sc__law_lossless : FnScope N__law_lossless ["_law_well_here", "_law_most"] (defScope BH.s__law_lossless) := ⟨rfl, rfl, rfl, by decide +kernel, rfl, by decide +kernel, by decide +kernel⟩
theorem w__law_lossless (T : Tx K mg za na nb pt) (D_ : Df K mg "_law_lossless" BH.s__law_lossless)  (c__law_fits : Cl P w K mg base 1 "_law_fits" ["_law_pair_here"] (sp__law_fits K)) (c__law_of_ladder : Cl P w K mg base 6 "_law_of_ladder" ["_law_steps_here", "_law_scale_here"] (sp__law_of_ladder K)) (c__law_scale : Cl P w K mg base 4 "_law_scale" ["_law_well_here"] (sp__law_scale K)) (c__law_steps : Cl P w K mg base 4 "_law_steps" ["_law_well_here", "_law_most"] (sp__law_steps K)) : Cl P w K mg base 7 "_law_lossless" ["_law_well_here", "_law_most"] (sp__law_lossless K) := by
  refine D_.ok sc__law_lossless (fun _ _ _ _ _ _ us hl => match us, hl with | [_, _], _ => rfl) (fun vs H Q E h => ?_) (fun f cdv A outer s H vs Q E hr h => ?_)
  · obtain ⟨_, _, rfl, _⟩ := h
    rfl
  · have hu := hu_of hr
    have hu64 := hu64_of hr
    obtain ⟨v_well_here, v_most, rfl, h⟩ := h
    refine ⟨_, (pss_cons (ps_par rfl sc__law_lossless.nd (i := 2) (j := 3) rfl rfl (by decide) rfl rfl (pa_cons (pe_cl c__law_steps (hr.mono (by decide)) (by rfl) (pa_cons (pv 0) (pa_cons (pv 1) pa_nil))) (pa_cons (pe_cl c__law_scale (hr.mono (by decide)) (by rfl) (pa_cons (pv 0) pa_nil)) pa_nil)) (by rfl))
      (pss_cons (ps_for PassesOwn.never rfl (pi_range1 (by rfl) T.range (pa_cons (pe_op op_add (pv 1) pe_int) pa_nil)) (pg_name (i := 4) sc__law_lossless.nd rfl (.inl rfl)) (pss_cons (ps_set (i := 5) sc__law_lossless.nd rfl (.inl rfl) (pe_cl c__law_of_ladder (hr.mono (by decide)) (by rfl) (pa_cons (pv 2) (pa_cons (pv 3) pa_nil))))
      (pss_cons (ps_if (pt_val (pe_cl c__law_fits (hr.mono (by decide)) (by rfl) (pa_cons (pv 5) pa_nil))) (pss_one (ps_ret (pv 5))) pss_nil)
      (pss_one (ps_set (i := 2) sc__law_lossless.nd rfl (.inl rfl) (pe_slice sl_list (pv 2) po_none (po_some (pe_un un_neg pe_int))))))))
      (pss_one (ps_ret (pe_lst (pa_cons (pe_disp (pps_cons pe_int (pe_tup (pa_cons pe_int (pa_cons pe_int pa_nil))) pps_nil) (by rfl) (by rfl) (fun z => by cases z) (by decide)) (pa_cons (pe_disp (pps_cons pe_int (pe_tup (pa_cons pe_int (pa_cons pe_int pa_nil))) pps_nil) (by rfl) (by rfl) (fun z => by cases z) (by decide)) pa_nil))))))), ?_⟩
    obtain ⟨p, rfl, hW, rfl, hQ⟩ := h
    refine ⟨_, rfl, _, rfl, _, _, rfl, p, rfl, hW, rfl, fun v1 H1 e1 w1 ⟨ss, hss, hl, ok, hnw⟩ => ?_⟩
    refine ⟨_, rfl, _, rfl, p, rfl, w1, fun v2 H2 e2 w2 ⟨c0, d0, c1, d1, hSc, ok0, ok1, hd0, hd1⟩ => ?_⟩
    refine ⟨_, _, rfl, ?_⟩
    have hss2 : StepsAt K H2 v1 ss := by
      obtain ⟨q, xs, rfl, h1, h2⟩ := hss
      obtain ⟨l, el, hl0⟩ := hnw
      injection el with el
      have nq : q ≠ p := fun z => by
        obtain ⟨_, _, _, hw, _⟩ := hW
        rw [← el, z, hw] at hl0
        cases hl0
      refine ⟨q, xs, rfl, ?_, Paired.mapP h2 fun _ _ z => z.si (e2.si w1)⟩
      rcases h1 with (h1 | ⟨o, h1⟩) | h1
      · exact .inl (.inl (e2 _ _ nq h1))
      · exact .inl (.inr ⟨o, e2 _ _ nq h1⟩)
      · exact .inr h1
    refine ⟨_, rfl, _, _, rfl, rfl, _, rfl, (by decide), (by decide), for_range (lo := 0) (n := (3 + 1 : Int).toNat) (fun i σ' H' => SameW p H H' ∧ WellAt H' p ∧ ScaleAt K H' v2 c0 d0 c1 d1 ∧ ∃ z4 z5 vs ss, σ' = [some (.ref p), some (.int 3), some vs, some v2, z4, z5] ∧ StepsAt K H' vs ss ∧ ss.length ≤ 3 ∧ StepOk ss)
      ⟨e1.trans e2, w2, hSc, none, none, v1, ss, rfl, hss2, hl, ok⟩ ?_ ?_⟩
    · rintro i σ' H3 hi ⟨e3, w3, hSc3, z4, z5, vs, ss, rfl, hs3, hl3, ok3⟩
      refine ⟨_, rfl, _, rfl, _, _, rfl, ss, c0, d0, c1, d1, hs3, hl3, ok3, hSc3, ok0, ok1, hd0, hd1, fun v4 H4 e4 ⟨f, g, hfg, hs, o1, o2⟩ => ?_⟩
      have w4 := w3.mono e4
      have e34 := e3.trans (SameW.of e4)
      refine ⟨_, rfl, _, rfl, f, g, hfg, o1.2.2.2.mono (by decide), o2.2.2.2.mono (by decide), fun b H5 e5 => ⟨b, rfl, ?_⟩⟩
      have e35 := e34.trans (SameW.of e5)
      cases b
      · obtain ⟨sp_, xs, rfl, hx, hp⟩ := hs3.mono (e4.trans e5)
        refine iteF ⟨_, rfl, _, rfl, _, rfl, sp_, xs, rfl, hx, fun l hl => ?_⟩
        have l0 := same_new (o := .lst (cutV xs none (some (-1)))) hl
        refine ⟨e35.trans (SameW.of l0), (w4.mono e5).mono l0, hSc3.si (SI.of ((e4.trans e5).trans l0)), _, _, .ref l, _, rfl, ⟨l, _, rfl, lst_new, Paired.mapP (pr_take _ (pr_drop _ hp)) fun _ _ z => z.si (SI.of l0)⟩, ?_, fun s hs => ok3 s (List.mem_of_mem_drop (List.mem_of_mem_take hs))⟩
        rw [List.length_take, List.length_drop]
        omega
      · exact iteT ⟨_, rfl, hQ _ _ e35 (w4.mono e5) ⟨f, g, hfg.mono e5, hs, o1, o2⟩⟩
    · rintro σ' H3 ⟨e3, w3, hSc3, z4, z5, vs, ss, rfl, hs3, hl3, ok3⟩
      intro p1 hp1
      refine ⟨sm2, fun q1 hq1 => ?_⟩
      obtain ⟨m1, m2, m3⟩ := one_lot (K := K) 0 hp1 hq1
      refine ⟨m1, [(Sum.inl 0, .ref q1)], rfl, (show 1 ≤ 15 by decide), fun p2 hp2 => ⟨sm2, fun q2 hq2 => ?_⟩⟩
      obtain ⟨m4, m5, m6⟩ := one_lot (K := K) 1 hp2 hq2
      refine ⟨m4, [(Sum.inl 1, .ref q2)], rfl, (show 1 ≤ 15 by decide), sm2, fun l hl => ?_⟩
      have l0 := same_new (o := .lst [.ref p1, .ref p2]) hl
      have x := (m2.trans m5).trans l0
      exact hQ _ _ (e3.trans (SameW.of x)) (w3.mono x) ⟨_, _, ⟨l, _, _, rfl, lst_new, (m3.mono m5).mono l0, m6.mono l0⟩, det_ones, okl_one 0 (by decide), okl_one 1 (by decide)⟩
def sp__law_partner_made (K : PySem.W.Frag) : Sp := sp5 fun a b c d e H Q => ∃ (f g : LP) (q : Rat) (j : Int) (s : LP), Lot K H a f ∧ Lot K H b g ∧ Fr K H c q ∧ d = .int j ∧ Lot K H e s ∧ OkMade f g q j s ∧ RetN (fun v H' => Lot K H' v (LP.made f g q j s)) H Q
abbrev N__law_partner_made : List Str := ["_law_lot", "_law_two", "_law_number_here", "_law_by", "_law_third_lot"]
theorem sc__law_partner_made : FnScope N__law_partner_made ["_law_lot", "_law_two", "_law_number_here", "_law_by", "_law_third_lot"] (defScope BH.s__law_partner_made) := ⟨rfl, rfl, rfl, by decide +kernel, rfl, by decide +kernel, by decide +kernel⟩
theorem w__law_partner_made (T : Tx K mg za na nb pt) (D_ : Df K mg "_law_partner_made" BH.s__law_partner_made)  (c__law_later : Cl P w K mg base 1 "_law_later" ["_law_lot", "_law_by"] (sp__law_later K)) (c__law_plus : Cl P w K mg base 4 "_law_plus" ["_law_one", "_law_two"] (sp__law_plus K)) (c__law_scaled : Cl P w K mg base 4 "_law_scaled" ["_law_lot", "_law_by"] (sp__law_scaled K)) (c__law_spread : Cl P w K mg base 1 "_law_spread" ["_law_lot"] (sp__law_spread K)) (c__law_times : Cl P w K mg base 4 "_law_times" ["_law_one", "_law_two"] (sp__law_times K)) : Cl P w K mg base 5 "_law_partner_made" ["_law_lot", "_law_two", "_law_number_here", "_law_by", "_law_third_lot"] (sp__law_partner_made K) := by
  refine D_.ok sc__law_partner_made (fun _ _ _ _ _ _ us hl => match us, hl with | [_, _, _, _, _], _ => rfl) (fun vs H Q E h => ?_) (fun f cdv A outer s H vs Q E hr h => ?_)
  · obtain ⟨_, _, _, _, _, rfl, _⟩ := h
    rfl
  · have hu := hu_of hr
    have hu64 := hu64_of hr
    obtain ⟨v_lot, v_two, v_number_here, v_by, v_third_lot, rfl, h⟩ := h
    refine ⟨_, (pss_one (ps_ret (pe_cl c__law_plus (hr.mono (by decide)) (by rfl) (pa_cons (pe_cl c__law_later (hr.mono (by decide)) (by rfl) (pa_cons (pe_cl c__law_scaled (hr.mono (by decide)) (by rfl) (pa_cons (pv 1) (pa_cons (pv 2) pa_nil))) (pa_cons (pe_op op_mul pe_int (pv 3)) pa_nil))) (pa_cons (pe_cl c__law_times (hr.mono (by decide)) (by rfl) (pa_cons (pe_cl c__law_spread (hr.mono (by decide)) (by rfl) (pa_cons (pv 4) pa_nil)) (pa_cons (pv 0) pa_nil))) pa_nil))))), ?_⟩
    obtain ⟨f1, g1, c, j, s1, R1, R2, hc, rfl, R3, ⟨F2, Fc, F3, ⟨D1, E1, m1, n1, Z1, Z2, hDE, hmn⟩, S1, S2, S3, hj⟩, hQ⟩ := h
    have e0 : LP.mono 1 (2 * j) * (LP.mono c 0 * g1) = LP.mono c (2 * j) * g1 := by
      have : LP.mono 1 (2 * j) * LP.mono c 0 = LP.mono c (2 * j) := by
        rw [LP.mono_mul, Rat.one_mul, Int.add_zero]
      rw [← this]
      grind
    have SA : Sup 5000 (LP.mono c (2 * j) * g1) := ((Sup.one (2 * j) c).mul S2).mono (by omega)
    have SB : Sup 5000 (LP.sp s1 * f1) := (S3.sp.mul S1).mono (by decide)
    have ZB := Z1.sp.mul Z2
    refine ⟨_, rfl, _, rfl, _, _, rfl, g1, c, R2, S2.mono (by decide), hc, F2, Fc, fun v1 H1 e1 n1 r1 => ⟨_, rfl, _, _, rfl, rfl, .inl (by decide), ?_⟩⟩
    refine ⟨_, _, rfl, LP.mono c 0 * g1, _, r1, ((Sup.one 0 c).mul S2).mono (by decide), rfl, fun v2 H2 e2 n2 r2 => ?_⟩
    rw [e0] at r2
    have x2 := e1.trans e2
    refine ⟨_, rfl, _, rfl, s1, R3.mono x2, S3.mono (by decide), fun v3 H3 e3 n3 r3 => ⟨_, rfl, _, _, rfl, _, f1, _, _, _, _, ?_, r3, R1.mono (x2.trans e3), Z1.sp, Z2, hDE, hmn, S3.sp.mono (by decide), S1.mono (by decide), fun v4 H4 e4 n4 r4 => ?_⟩⟩
    · intro z
      obtain ⟨l, el, hl⟩ := n3.of x2
      obtain ⟨_, ⟨a', _, ea, ha, _⟩, _⟩ := id R1
      rw [el, ea] at z
      injection z with z
      rw [z, ha] at hl
      cases hl
    · have x4 := x2.trans (e3.trans e4)
      exact ⟨_, _, rfl, _, _, r2.mono (e3.trans e4), r4, SA, SB, F3, ZB.fits hDE hmn, fun v5 H5 e5 n5 r5 => hQ v5 H5 (x4.trans e5) (n5.of x4) r5⟩

end
end BW
namespace BW
open PySem PySem.Spec PyProof.Rows L2 BS
/-! ### defs that need to know that no repr is under way -/
/-- a function's promise, where no guard is up -/
structure FnG (P : Program) (w : World) (K : PySem.W.Frag) (mg : Str → Option Value) (base : Heap) (k : Nat) (f : Addr) (fd : FuncData) (ps : List Str) (sp : Sp) : Prop where
  len : ∀ vs H Q E, sp vs H Q E → vs.length = ps.length
  go : ∀ (A : Around) (outer : List Env) (s : Shared) (H : Hp) (us : List Value) (vs : List V) (Q : VK) (E : XK), A.guards = some [] → Room k A → Env0 P w K mg base A outer s H → Vals vs us → sp vs H Q E →
    BindsTo s fd ⟨us, []⟩ (ps.zip us) → codeAny (model P w) A (.call (.ref f) ⟨us, []⟩) (CR CX0 outer P w H s Q E) s
structure ClG (P : Program) (w : World) (K : PySem.W.Frag) (mg : Str → Option Value) (base : Heap) (k : Nat) (x : Str) (ps : List Str) (sp : Sp) : Prop where
  ex : ∃ f fd, FnG P w K mg base k f fd ps sp ∧ mg x = some (.ref f) ∧ PySem.W.keepIn K (.ref f) = true ∧ Binds K fd ps []
section
variable {P : Program} {w : World} {K : PySem.W.Frag} {mg : Str → Option Value} {base : Heap}
theorem Df.okG {x : Str} {st : Stmt} {N ps : List Str} {k : Nat} {sp : Sp} (D : Df K mg x st) (S : FnScope N ps (defScope st))
    (hb : ∀ (kV doc pm : Value) (an : Option Addr) (cdv ct : Value) (us : List Value), us.length = ps.length → bindArgs (PySem.W.fnOf x x (defArgs st) (defBody st) (defScope st) .none kV doc pm an cdv ct) ⟨us, []⟩ = pure (ps.zip us))
    (len : ∀ vs H Q E, sp vs H Q E → vs.length = ps.length)
    (body : ∀ (f : Addr) (cdv : Value) (A : Around) (outer : List Env) (s : Shared) (H : Hp) (vs : List V) (Q : VK) (E : XK), (A.deeper (envOfC x (defScope st) s.heap.objs.size f cdv)).guards = some [] →
      Room k (A.deeper (envOfC x (defScope st) s.heap.objs.size f cdv)) → sp vs H Q E →
      ∃ t, PSs (cxOf CX0 P w K mg base N x (defScope st) f cdv A outer s H E).nox (defBody st) t ∧ t { nx := fun _ H' => Q .non H', rt := Q } (start N vs) H) : ClG P w K mg base (k + 1) x ps sp := by
  obtain ⟨f, fd, F, hm⟩ := D
  refine ⟨f, fd, ⟨len, fun A outer s H us vs Q E hg hr e0 r hsp hbd => ?_⟩, hm, F.kp, F.bindsN hb⟩
  obtain ⟨oc, od, dV, kV, doc, pm, an, cdv, ct, osl, rfl, lk, hcd, _, _⟩ := F.ex
  have same : ∀ b o, base.get? b = some o → s.heap.get? b = some o := fun b o e => (e0.bs b o e).1
  have KX : K.In s.heap := e0.mod.kin.keeps same
  refine codeAny_call_function hr.depth (KX _ _ lk) rfl S.co S.gen rfl (PySem.W.codeRec_of KX hcd) (hbd _ _ _ _ ?_)
  refine wpAny_newFunctionEnv_cells S.kind (fun q hq => (S.par q.1 (List.of_mem_zip (show (q.1, q.2) ∈ _ from hq)).1).imp id fun z => ⟨z, PySem.W.cellsFrom_some _ _ _ (.inl z)⟩) fun env he s1 x1 => ?_
  subst he
  obtain ⟨t, ht, hq⟩ := body f cdv A outer s H vs Q E hg (hr.deeper _) hsp
  refine ⟨(e0.mod.nolimit.keeps same).keeps x1.toInCall.keep, codeAny_func (wpAny_mono (ht.nox.run [] s1 (start N vs) H _ (inv_start S hr.hd e0 (len _ _ _ _ hsp) r x1) hq) (fun fl s' hs => ?_) fun _ _ hs => hs)⟩
  match fl, hs with
  | .ret u, ⟨v, σ', H', J, rv, q⟩ => exact ⟨v, H', J.os, J.bare, J.base, J.hok, rv, q⟩
  | .next, ⟨σ', H', J, q⟩ => exact ⟨.non, H', J.os, J.bare, J.base, J.hok, rfl, q⟩
  | .brk, ⟨_, _, _, q⟩ => exact q.elim
  | .cont, ⟨_, _, _, q⟩ => exact q.elim
end
section
variable {X : Cx} {k : Nat} {x : Str} {ps : List Str} {sp : Sp} {p pos : Pos} {e : Expr} {es : List Expr} {t : TA}
theorem pe_clG (C : ClG X.prog X.w X.K X.mg X.base k x ps sp) (hgd : X.A.guards = some []) (hr : Room k X.A) (hg : Gl X x) (ha : PA X (e :: es) t) (hdb : (x == ("__debug__" : Str)) = false := by decide)
    (he : starEach (e :: es) X.env = (false, eval e X.env) :: starEach es X.env := by rfl) (hpl : (backTo pos (starEach es X.env)).any (·.1) = false := by rfl) : PE X (.Call (.Name x p) (e :: es) [] pos) (tCall sp [] E0 t) := by
  obtain ⟨f, fd, F, hm, kp, b⟩ := C.ex
  refine ⟨fun pins s σ H Q I h => wpAny_Call_Name_kw (ld_glob I hg hm ?_ hdb)⟩
  refine PySem.W.callWith_K (h₀ := X.base) I.ok.mod.kin kp (thn (ha.run pos pins s σ H _ I h) fun us s1 ⟨vs, H1, I1, r, q⟩ => ⟨I1.kIn, ?_⟩) he hpl
  have q' : sp vs H1 Q E0 := by
    have q0 : sp (vs ++ []) H1 Q E0 := q
    rwa [List.append_nil] at q0
  have hl : us.length = ps.length := by rw [← r.length]; exact F.len _ _ _ _ q'
  have bd := b s1 us I1.kIn (by rw [List.append_nil]; exact hl)
  rw [List.append_nil] at bd
  refine wpAny_call (codeAny_mono (F.go X.A X.stack s1 H1 us vs Q E0 hgd hr I1.env0 r q' bd) fun res s' hq => ?_)
  match res, hq with
  | .error _, hq => exact hq.elim
  | .ok (.ret u), hq => exact I1.after hq
  | .ok .next, hq => exact hq.elim
  | .ok .brk, hq => exact hq.elim
  | .ok .cont, hq => exact hq.elim
end
end BW
namespace BW
open PySem PySem.Spec PyProof.Rows L2 BS
/-! ### a call by keywords alone -/
structure ClK (P : Program) (w : World) (K : PySem.W.Frag) (mg : Str → Option Value) (base : Heap) (k : Nat) (x : Str) (ps : List Str) (sp : Sp) : Prop where
  ex : ∃ f fd, FnOk P w K mg base CX0 k f fd ps sp ∧ mg x = some (.ref f) ∧ PySem.W.keepIn K (.ref f) = true ∧ ∀ (s : Shared) (ws : List Value), ws.length = ps.length → BindsTo s fd ⟨[], ps.zip ws⟩ (ps.zip ws)
section
variable {P : Program} {w : World} {K : PySem.W.Frag} {mg : Str → Option Value} {base : Heap}
theorem Df.okK {x : Str} {st : Stmt} {N ps : List Str} {k : Nat} {sp : Sp} (D : Df K mg x st) (S : FnScope N ps (defScope st))
    (hb : ∀ (kV doc pm : Value) (an : Option Addr) (cdv ct : Value) (us : List Value), us.length = ps.length → bindArgs (PySem.W.fnOf x x (defArgs st) (defBody st) (defScope st) .none kV doc pm an cdv ct) ⟨[], ps.zip us⟩ = pure (ps.zip us))
    (len : ∀ vs H Q E, sp vs H Q E → vs.length = ps.length)
    (body : ∀ (f : Addr) (cdv : Value) (A : Around) (outer : List Env) (s : Shared) (H : Hp) (vs : List V) (Q : VK) (E : XK), Room k (A.deeper (envOfC x (defScope st) s.heap.objs.size f cdv)) → sp vs H Q E →
      ∃ t, PSs (cxOf CX0 P w K mg base N x (defScope st) f cdv A outer s H E).nox (defBody st) t ∧ t { nx := fun _ H' => Q .non H', rt := Q } (start N vs) H) : ClK P w K mg base (k + 1) x ps sp := by
  obtain ⟨f, fd, F, hm⟩ := D
  refine ⟨f, fd, F.ok S len fun cdv A outer s H vs Q E hr h => ?_, hm, F.kp, fun s ws hl => ?_⟩
  · obtain ⟨t, h1, h2⟩ := body f cdv A outer s H vs Q E hr h
    exact ⟨t, h1.nox, h2⟩
  · obtain ⟨oc, od, dV, kV, doc, pm, an, cdv, ct, osl, rfl, lk, hcd, hD, _⟩ := F.ex
    rcases hD with ⟨_, rfl⟩ | ⟨e, _⟩
    · exact .of_eq (hb kV doc pm an cdv ct ws hl)
    · exact absurd rfl e
end
section
variable {X : Cx} {k : Nat} {x : Str} {ps : List Str} {sp : Sp} {p pos : Pos} {kws : List Keyword} {t : TA}
theorem pe_clk (C : ClK X.prog X.w X.K X.mg X.base k x ps sp) (hr : Room k X.A) (hg : Gl X x) (ha : PK X kws t) (hdb : (x == ("__debug__" : Str)) = false := by decide)
    (hall : (backToKw pos (keywordEach kws X.env)).all (·.1.isSome) = true := by rfl) (hks : (backToKw pos (keywordEach kws X.env)).filterMap (·.1) = ps := by rfl)
    (hpl : ((backTo pos (starEach [] X.env)).any (·.1) || (backToKw pos (keywordEach kws X.env)).any (·.1.isNone)) = false := by rfl) : PE X (.Call (.Name x p) [] kws pos) (tCall sp [] E0 t) := by
  obtain ⟨f, fd, F, hm, kp, b⟩ := C.ex
  refine ⟨fun pins s σ H Q I h => wpAny_Call_Name_kw (ld_glob I hg hm ?_ hdb)⟩
  refine PySem.W.callWith_KW0 (h₀ := X.base) I.ok.mod.kin kp hall (thn (ha.run pos pins s σ H _ I h) fun ws s1 ⟨zs, H1, I1, rz, q⟩ => ⟨I1.kIn, ?_⟩) hpl
  rw [hks]
  have q' : sp zs H1 Q E0 := by
    have q0 : sp (zs ++ []) H1 Q E0 := q
    rwa [List.append_nil] at q0
  have hl : ws.length = ps.length := by rw [← rz.length]; exact F.len _ _ _ _ q'
  refine wpAny_call (codeAny_mono (F.run X.A X.stack s1 H1 ⟨[], ps.zip ws⟩ ws zs Q E0 hr I1.env0 (b s1 ws hl) rz q') fun res s' hq => ?_)
  match res, hq with
  | .error _, hq => exact hq.elim
  | .ok (.ret u), hq => exact I1.after hq
  | .ok .next, hq => exact hq.elim
  | .ok .brk, hq => exact hq.elim
  | .ok .cont, hq => exact hq.elim
end
end BW
namespace BW
open PySem PySem.Spec PyProof.Rows L2 BS
/-! ### rows as data, their texts -/
def frDat (q : Rat) : PyData := .tuple [.int q.num, .int (q.den : Int)]
def rowDat (st : Int) (qs : List Rat) : PyData := .tuple [.int st, .tuple (qs.map frDat)]
theorem piled_le (B : Nat) : ∀ ts : List Str, (∀ t ∈ ts, t.length ≤ B) → piled ts ≤ ts.length * (B + 2)
  | [], _ => Nat.zero_le _
  | t :: r, h => by
    have h1 := h t List.mem_cons_self
    have h2 := piled_le B r fun x hx => h x (List.mem_cons_of_mem _ hx)
    show (t.length + 2) + piled r ≤ (r.length + 1) * (B + 2)
    rw [Nat.add_mul]
    omega
theorem tup_le (B : Nat) (ts : List Str) (h : ∀ t ∈ ts, t.length ≤ B) : (tupleText ts).length ≤ 3 + ts.length * (B + 2) := by
  have h1 := piled_le B ts h
  have h2 : (Str.join ", " ts).length ≤ piled ts := by
    cases ts with
    | nil => exact Nat.le_refl _
    | cons t r => have := join_length_add (t :: r) (by simp); omega
  unfold tupleText
  rw [strLen_append, strLen_append]
  have h3 : (("(" : String) : Str).length = 1 := rfl
  have h4 : (((if ts.length == 1 then ",)" else ")" : String)) : Str).length ≤ 2 := by
    split <;> decide
  omega
theorem lst_le (B : Nat) (ts : List Str) (h : ∀ t ∈ ts, t.length ≤ B) : (listText ts).length ≤ 2 + ts.length * (B + 2) := by
  have h1 := textFrom_len_le ts 0 "["
  have h2 : ∀ ts : List Str, (∀ t ∈ ts, t.length ≤ B) → (ts.map (·.length)).sum + 2 * ts.length ≤ ts.length * (B + 2) := by
    intro ts
    induction ts with
    | nil => intro _; simp
    | cons t r ih =>
      intro h
      have a1 := h t List.mem_cons_self
      have a2 := ih fun x hx => h x (List.mem_cons_of_mem _ hx)
      rw [List.map_cons, List.sum_cons, List.length_cons, Nat.add_mul]
      omega
  have h3 := h2 ts h
  unfold listText
  rw [strLen_append]
  have h4 : (("[" : String) : Str).length = 1 := rfl
  have h5 : (("]" : String) : Str).length = 1 := rfl
  omega
theorem shownAll_map (f : Rat → PyData) : ∀ qs : List Rat, PyData.shownAll (qs.map f) = qs.map fun q => PyData.shown (f q)
  | [] => rfl
  | q :: r => by
    show PyData.shown (f q) :: PyData.shownAll (r.map f) = _
    rw [shownAll_map f r]
    rfl
theorem int_le {i : Int} (h : i.natAbs ≤ big) : (PyData.shown (.int i)).length ≤ 902 := by
  show (Str.ofString (toString i)).length ≤ 902
  rw [PySem.ofString_length]
  refine int_text_length_le (k := 901) (by decide) ?_
  by_cases z : i.natAbs = 0
  · rw [z]; decide
  · exact (Nat.log2_lt z).mpr (Nat.lt_of_le_of_lt h (by rw [big_eq]; exact Nat.pow_lt_pow_right (by decide) (by decide)))
theorem int_show {i : Int} (h : i.natAbs ≤ big) : i.natAbs.log2 < 1920 := by
  by_cases z : i.natAbs = 0
  · rw [z]; decide
  · exact (Nat.log2_lt z).mpr (Nat.lt_of_le_of_lt h (by rw [big_eq]; exact Nat.pow_lt_pow_right (by decide) (by decide)))
theorem fr_le {q : Rat} (h : Fit q) : (PyData.shown (frDat q)).length ≤ 1811 := by
  show (tupleText [PyData.shown (.int q.num), PyData.shown (.int (q.den : Int))]).length ≤ _
  refine Nat.le_trans (tup_le 902 _ fun t ht => ?_) (Nat.le_refl _)
  rcases List.mem_cons.mp ht with e | e
  · rw [e]; exact int_le h.1
  · rw [List.mem_singleton.mp e]; exact int_le (by rw [Int.natAbs_natCast]; exact h.2)
theorem row_le {st : Int} {qs : List Rat} (h : ∀ q ∈ qs, Fit q) (hs : st.natAbs ≤ big) (hl : qs.length ≤ 2001) : (PyData.shown (rowDat st qs)).length ≤ 7300000 := by
  show (tupleText [PyData.shown (.int st), tupleText (PyData.shownAll (qs.map frDat))]).length ≤ _
  rw [shownAll_map]
  have h1 := tup_le 1811 (qs.map fun q => PyData.shown (frDat q)) fun t ht => by
    obtain ⟨q, hq, rfl⟩ := List.mem_map.mp ht
    exact fr_le (h q hq)
  rw [List.length_map] at h1
  have h2 : (tupleText (qs.map fun q => PyData.shown (frDat q))).length ≤ 3640000 := by
    have : qs.length * (1811 + 2) ≤ 2001 * 1813 := Nat.mul_le_mul_right _ hl
    omega
  refine Nat.le_trans (tup_le 3640000 _ fun t ht => ?_) (by show 3 + 2 * (3640000 + 2) ≤ 7300000; decide)
  rcases List.mem_cons.mp ht with e | e
  · rw [e]; have := int_le hs; omega
  · rw [List.mem_singleton.mp e]; exact h2
theorem sh_all {qs : List Rat} (h : ∀ q ∈ qs, Fit q) : PyData.showableAll (qs.map frDat) = true := by
  induction qs with
  | nil => rfl
  | cons q r ih =>
    show (PyData.showable (frDat q) && PyData.showableAll (r.map frDat)) = true
    rw [ih fun x hx => h x (List.mem_cons_of_mem _ hx), Bool.and_true]
    have hq := h q List.mem_cons_self
    show (decide (q.num.natAbs.log2 < 1920) && (decide ((q.den : Int).natAbs.log2 < 1920) && true)) = true
    rw [decide_eq_true (int_show hq.1), decide_eq_true (int_show (by rw [Int.natAbs_natCast]; exact hq.2))]
    rfl
theorem row_show {st : Int} {qs : List Rat} (h : ∀ q ∈ qs, Fit q) (hs : st.natAbs ≤ big) : PyData.showable (rowDat st qs) = true := by
  show (decide (st.natAbs.log2 < 1920) && (PyData.showableAll (qs.map frDat) && true)) = true
  rw [decide_eq_true (int_show hs), sh_all h]
  rfl
theorem row_nodict (st : Int) (qs : List Rat) : PyData.hasDict (rowDat st qs) = false := by
  have : ∀ qs : List Rat, PyData.hasDictAll (qs.map frDat) = false := by
    intro qs
    induction qs with
    | nil => rfl
    | cons q r ih =>
      show (PyData.hasDict (frDat q) || PyData.hasDictAll (r.map frDat)) = false
      rw [ih]
      rfl
  show (false || (PyData.hasDictAll (qs.map frDat) || false)) = false
  rw [this]
  rfl
theorem row_depth (st : Int) (qs : List Rat) : PyData.depth (rowDat st qs) ≤ 3 := by
  have : ∀ qs : List Rat, PyData.depthAll (qs.map frDat) ≤ 1 := by
    intro qs
    induction qs with
    | nil => exact Nat.zero_le _
    | cons q r ih =>
      show max (PyData.depth (frDat q)) (PyData.depthAll (r.map frDat)) ≤ 1
      have : PyData.depth (frDat q) = 1 := rfl
      omega
  show max 0 (max (PyData.depthAll (qs.map frDat) + 1) 0) + 1 ≤ 3
  have := this qs
  omega
section
variable {K : PySem.W.Frag} {H H' : Hp}
theorem fr_dat {v : V} {q : Rat} (h : Fr K H v q) : Dp K H v (frDat q) := by
  obtain ⟨a, rfl, h⟩ := h
  exact .tup h (.cons (.int _) (.cons (.int _) .nil))
theorem frl_dat {vs : List V} {qs : List Rat} (h : FrL K H vs qs) : DpAll K H vs (qs.map frDat) := by
  induction h with
  | nil => exact .nil
  | cons r t ih => exact .cons (fr_dat r) ih
theorem Row.dp {v : V} {f : LP} {st : Int} {qs : List Rat} (h : Row K H v f) (hr : RowOf st qs f) : Dp K H v (rowDat st qs) := by
  obtain ⟨a, b, st', vs, qs', rfl, h1, h2, h3, h4⟩ := h
  obtain ⟨e1, e2⟩ := hr.unique h4
  rw [e1, e2]
  exact .tup h1 (.cons (.int _) (.cons (.tup h2 (frl_dat h3)) .nil))
theorem row_fit {f : LP} {st : Int} {qs : List Rat} (hr : RowOf st qs f) (hf : Fits f) (hs : Sup 1000 f) : (∀ q ∈ qs, Fit q) ∧ st.natAbs ≤ big ∧ qs.length ≤ 2001 := by
  obtain ⟨s1, s2, _⟩ := Sup.row hr hs
  refine ⟨fun q hq => ?_, ?_, by omega⟩
  · obtain ⟨i, hi, rfl⟩ := List.getElem_of_mem hq
    have := hf (st + (i : Int))
    rw [hr.at, if_pos (by omega), show (st + (i : Int) - st).toNat = i by omega, List.getD_eq_getElem?_getD, List.getElem?_eq_getElem hi] at this
    exact this
  · refine Nat.le_trans s1 ?_
    rw [big_eq]
    exact Nat.le_trans (show 1000 ≤ 2 ^ 10 by decide) (Nat.pow_le_pow_right (by decide) (by decide))
theorem Row.ref {v : V} {f : LP} (h : Row K H v f) : ∃ a, v = .ref a := by
  obtain ⟨a, _, _, _, _, e, _⟩ := h
  exact ⟨a, e⟩
/-- repr of a row -/
def Tells (K : PySem.W.Frag) (H : Hp) (v : V) (d : PyData) : Prop := Dp K H v d ∧ d.showable = true ∧ d.hasDict = false ∧ d.depth ≤ 60 ∧ d.shown.length ≤ sizeLine
theorem row_repr {v : V} {f : LP} {st : Int} {qs : List Rat} (h : Row K H v f) (hr : RowOf st qs f) (hf : Fits f) (hs : Sup 1000 f) : Tells K H v (rowDat st qs) := by
  obtain ⟨h1, h2, h3⟩ := row_fit hr hf hs
  exact ⟨h.dp hr, row_show h1 h2, row_nodict _ _, Nat.le_trans (row_depth _ _) (by decide), Nat.le_trans (row_le h1 h2 h3) (by decide)⟩
/-- repr of a list of two rows -/
theorem two_repr {p : Addr} {v w : V} {f : LP} {st : Int} {qs : List Rat} (hp : SqL K H p [v, w]) (h : Row K H v f) (h' : Row K H w f) (hr : RowOf st qs f) (hf : Fits f) (hs : Sup 1000 f) : Tells K H (.ref p) (.list [rowDat st qs, rowDat st qs]) := by
  obtain ⟨h1, h2, h3⟩ := row_fit hr hf hs
  refine ⟨.lst hp (.cons (h.dp hr) (.cons (h'.dp hr) .nil)), ?_, ?_, ?_, ?_⟩
  · show (PyData.showable (rowDat st qs) && (PyData.showable (rowDat st qs) && true)) = true
    rw [row_show h1 h2]
    rfl
  · show (PyData.hasDict (rowDat st qs) || (PyData.hasDict (rowDat st qs) || false)) = false
    rw [row_nodict]
    rfl
  · show max (PyData.depth (rowDat st qs)) (max (PyData.depth (rowDat st qs)) 0) + 1 ≤ 60
    have := row_depth st qs
    omega
  · show (listText [PyData.shown (rowDat st qs), PyData.shown (rowDat st qs)]).length ≤ _
    refine Nat.le_trans (lst_le 7300000 _ fun t ht => ?_) (by show 2 + 2 * (7300000 + 2) ≤ sizeLine; decide)
    have e : t = PyData.shown (rowDat st qs) := by
      rcases List.mem_cons.mp ht with e | e
      · exact e
      · exact List.mem_singleton.mp e
    rw [e]
    exact row_le h1 h2 h3
end
/-! ### the sizes of what is told -/
theorem inv_qb {c : Rat} (h : NumOk c) : ∃ D : Nat, 1 ≤ D ∧ D ≤ 2 ^ 30 ∧ QB D (2 ^ 7) c⁻¹ ∧ QB D (2 ^ 7) (-c⁻¹) := by
  obtain ⟨h1, h2, d, hd⟩ := h
  have n0 : c.num ≠ 0 := fun z => h1 (num_zero.mp z)
  have hden : c.den ≤ 84 := Nat.le_of_dvd (by decide) ⟨d, hd⟩
  have e : c⁻¹ = ((c.num.sign * (c.den : Int) : Int) : Rat) / ((c.num.natAbs : Nat) : Rat) := by
    rw [Rat.inv_def, show ((c.num.natAbs : Nat) : Rat) = (((c.num.natAbs : Nat) : Int) : Rat) from rfl, ← Rat.divInt_eq_div]
    by_cases z : 0 < c.num
    · rw [Int.sign_eq_one_of_pos z, Int.one_mul, show ((c.num.natAbs : Nat) : Int) = c.num by omega]
    · rw [Int.sign_eq_neg_one_of_neg (by omega), show ((c.num.natAbs : Nat) : Int) = -c.num by omega, Rat.divInt_eq_div, Rat.divInt_eq_div, Int.neg_mul, Int.one_mul, Rat.intCast_neg, Rat.intCast_neg]
      grind
  have hs : (c.num.sign * (c.den : Int)).natAbs ≤ 2 ^ 7 := by
    rw [Int.natAbs_mul, Int.natAbs_sign_of_ne_zero n0, Nat.one_mul, Int.natAbs_natCast]
    omega
  refine ⟨c.num.natAbs, by omega, Nat.le_trans h2 (by decide), ⟨_, e, hs⟩, ⟨-(c.num.sign * (c.den : Int)), ?_, by rw [Int.natAbs_neg]; exact hs⟩⟩
  rw [e, Rat.intCast_neg, Rat.div_def, Rat.div_def, Rat.neg_mul]
theorem qb_mono {D a : Nat} {q : Rat} (h : QB D (2 ^ a) q) (h1 : 1 ≤ D) (d : Int) : Sz D a (LP.mono q d) := by
  obtain ⟨m, e, hm⟩ := h
  refine ⟨h1, [(d, m)], ?_, by show m.natAbs + 0 ≤ _; omega⟩
  show LP.of [(d, q)] = LP.of [(d, (m : Rat) / (D : Rat))]
  rw [e]
theorem DD {D : Nat} (h : D ≤ 2 ^ 30) (t : Nat) (ht : t ≤ 20) : D * 84 ^ t ≤ big := by
  refine Nat.le_trans (Nat.mul_le_mul h (Nat.pow_le_pow_left (show 84 ≤ 2 ^ 7 by decide) t)) ?_
  rw [← Nat.pow_mul, ← Nat.pow_add]
  exact small_big (by omega)
/-- all that the law's round needs of numbers -/
structure Good (f g : LP) (c : Rat) (j : Int) (s : LP) : Prop where
  gf : Okl (84 ^ 4) 155 100 f
  gg : Okl (84 ^ 4) 155 100 g
  one : LP.Single (LP.det f g)
  gc : NumOk c
  gj : j.natAbs ≤ 15
  gs : Sz 84 39 s
  gr : Sup 5 s
section
variable {f g s : LP} {c : Rat} {j : Int}
theorem Good.made (h : Good f g c j s) : Sz (84 ^ 5) 195 (LP.made f g c j s) ∧ Sup 130 (LP.made f g c j s) := by
  have a := (mono_sz h.gc (2 * j)).mul h.gg.1
  have b := h.gs.sp.mul h.gf.1
  have hj := h.gj
  have e5 : 84 * 84 ^ 4 = 84 ^ 5 := by decide
  rw [e5] at a b
  refine ⟨(a.mono (b := 194) (by decide)).add (b.mono (b := 194) (by decide)), (((Sup.one (2 * j) c).mul h.gg.2.2.2).mono (by omega)).add ((h.gr.sp.mul h.gf.2.2.2).mono (s := 130) (by decide))⟩
theorem Good.ok1 (h : Good f g c j s) : OkMade f g c j s := by
  have hj := h.gj
  refine ⟨h.gg.fits, fit_num h.gc, ((mono_sz h.gc (2 * j)).mul h.gg.1).fits (by show 84 * 84 ^ 4 ≤ big; exact p84 (t := 5) (by decide)) (small_big (by decide)), ⟨84, 84 ^ 4, 39, 155, h.gs, h.gf.1, p84 (t := 5) (by decide), small_big (by decide)⟩, h.gf.2.2.2.mono (by decide), h.gg.2.2.2.mono (by decide), h.gr.mono (by decide), by omega⟩
theorem Good.det1 (h : Good f g c j s) : OkDet f g := ⟨84 ^ 4, 84 ^ 4, 155, 155, h.gf.1, h.gg.1, p84 (t := 8) (by decide), small_big (by decide), h.gf.2.2.2.mono (by decide), h.gg.2.2.2.mono (by decide)⟩
theorem Good.det2 (h : Good f g c j s) : OkDet f (LP.made f g c j s) := ⟨84 ^ 4, 84 ^ 5, 155, 195, h.gf.1, h.made.1, p84 (t := 9) (by decide), small_big (by decide), h.gf.2.2.2.mono (by decide), h.made.2.mono (by decide)⟩
theorem Good.one2 (h : Good f g c j s) : LP.Single (LP.det f (LP.made f g c j s)) := by
  rw [LP.det_made]
  exact h.one.mul h.gc.1
theorem Good.fits (h : Good f g c j s) : Fits (LP.made f g c j s) := h.made.1.fits (p84 (by decide)) (small_big (by decide))
noncomputable def lessF (c : Rat) (j : Int) (s : LP) : LP := LP.mono 1 (-j) * (LP.mono (-c⁻¹) 0 * s)
theorem Good.less (h : Good f g c j s) : ∃ D, D ≤ 2 ^ 30 ∧ 1 ≤ D ∧ Sz (D * 84) 46 (LP.mono (-c⁻¹) 0 * s) ∧ Sz (D * 84) 46 (lessF c j s) ∧ Sup 20 (lessF c j s) ∧ Fit c⁻¹ ∧ Fit (-c⁻¹) ∧ QB D (2 ^ 7) c⁻¹ := by
  obtain ⟨D, d1, d2, q1, q2⟩ := inv_qb h.gc
  have hj := h.gj
  have z : Sz (D * 84) 46 (LP.mono (-c⁻¹) 0 * s) := (qb_mono q2 d1 0).mul h.gs
  have db : D ≤ big := by have := DD d2 0 (by decide); omega
  refine ⟨D, d2, d1, z, z.shift (-j), ((Sup.one (-j) 1).mul ((Sup.one 0 (-c⁻¹)).mul h.gr)).mono (by have : (-j).natAbs = j.natAbs := Int.natAbs_neg j; show (-j).natAbs + (0 + 5) ≤ 20; omega), fit_of q1 d1 db (small_big (by decide)), fit_of q2 d1 db (small_big (by decide)), q1⟩
theorem Good.ok2 (h : Good f g c j s) : OkMade f (LP.made f g c j s) c⁻¹ (-j) (lessF c j s) := by
  obtain ⟨D, d2, d1, z1, z2, z3, z4, z5, q1⟩ := h.less
  have hj := h.gj
  have e : (-j).natAbs = j.natAbs := Int.natAbs_neg j
  refine ⟨h.fits, z4, ((qb_mono q1 d1 (2 * -j)).mul h.made.1).fits (DD d2 5 (by decide)) (small_big (by decide)), ⟨D * 84, 84 ^ 4, 46, 155, z2, h.gf.1, ?_, small_big (by decide)⟩, h.gf.2.2.2.mono (by decide), h.made.2.mono (by decide), z3.mono (by decide), by omega⟩
  rw [Nat.mul_assoc]
  exact DD d2 5 (by decide)
theorem Good.back (h : Good f g c j s) : LP.made f (LP.made f g c j s) c⁻¹ (-j) (lessF c j s) = g := LP.made_back f g c j s h.gc.1
end
end BW
namespace BW
open PySem PySem.Spec PyProof.Rows L2 BS
section
variable {P : Program} {w : World} {K : PySem.W.Frag} {mg : Str → Option Value} {base : Heap} {za na nb : Addr} {pt : Tok}

theorem wk_partner_by (T : Tx K mg za na nb pt) (D_ : Df K mg "partner_by" BH.s_partner_by)  (c_are_partners : Cl P w K mg base 7 "are_partners" ["row", "other"] (sp_are_partners K)) (c_check_factor : Cl P w K mg base 4 "check_factor" ["value"] (sp_check_factor K)) (c_check_places : Cl P w K mg base 3 "check_places" ["value"] (sp_check_places K)) (c_check_row : Cl P w K mg base 5 "check_row" ["value"] (sp_check_row K)) (c_partner_made : Cl P w K mg base 5 "partner_made" ["row", "other", "factor", "places", "step"] (sp_partner_made K)) : ClK P w K mg base 8 "partner_by" ["row", "other", "factor", "places", "step"] (sp_partner_by K) := by
  refine D_.okK sc_partner_by (fun _ _ _ _ _ _ us hl => match us, hl with | [_, _, _, _, _], _ => rfl) (fun vs H Q E h => ?_) (fun f cdv A outer s H vs Q E hr h => ?_)
  · obtain ⟨_, _, _, _, _, rfl, _⟩ := h
    rfl
  · have hu := hu_of hr
    have hu64 := hu64_of hr
    obtain ⟨v_row, v_other, v_factor, v_places, v_step, rfl, h⟩ := h
    refine ⟨_, (pss_cons (ps_expr (pe_cl c_check_row (hr.mono (by decide)) (by rfl) (pa_cons (pv 0) pa_nil)))
      (pss_cons (ps_expr (pe_cl c_check_row (hr.mono (by decide)) (by rfl) (pa_cons (pv 1) pa_nil)))
      (pss_cons (ps_expr (pe_cl c_check_factor (hr.mono (by decide)) (by rfl) (pa_cons (pv 2) pa_nil)))
      (pss_cons (ps_expr (pe_cl c_check_places (hr.mono (by decide)) (by rfl) (pa_cons (pv 3) pa_nil)))
      (pss_cons (ps_expr (pe_cl c_check_row (hr.mono (by decide)) (by rfl) (pa_cons (pv 4) pa_nil)))
      (pss_cons (ps_if (pt_not (pt_val (pe_cl c_are_partners (hr.mono (by decide)) (by rfl) (pa_cons (pv 0) (pa_cons (pv 1) pa_nil))))) (pss_one ps_never) pss_nil)
      (pss_one (ps_ret (pe_cl c_partner_made (hr.mono (by decide)) (by rfl) (pa_cons (pv 0) (pa_cons (pv 1) (pa_cons (pv 2) (pa_cons (pv 3) (pa_cons (pv 4) pa_nil)))))))))))))), ?_⟩
    obtain ⟨f1, g1, c, j, s1, R1, R2, hc, rfl, R3, hc0, ok, hs, om, hQ⟩ := h
    obtain ⟨_, _, _, _, _, _, _, _, S1, S2⟩ := id ok
    obtain ⟨_, _, _, _, _, _, S3, hj⟩ := id om
    refine ⟨_, rfl, _, rfl, f1, R1, S1.mono (by decide), fun H1 e1 => ⟨_, rfl, _, rfl, g1, R2.mono e1, S2.mono (by decide), fun H2 e2 => ?_⟩⟩
    have x2 := e1.trans e2
    refine ⟨_, rfl, _, rfl, c, hc.mono x2, hc0, fun H3 e3 => ⟨_, rfl, _, rfl, j, rfl, hj, ?_⟩⟩
    have x3 := x2.trans e3
    refine ⟨_, rfl, _, rfl, s1, R3.mono x3, S3.mono (by decide), fun H4 e4 => ?_⟩
    have x4 := x3.trans e4
    refine ⟨_, rfl, _, rfl, _, _, rfl, f1, g1, R1.mono x4, R2.mono x4, ok, hs, fun H5 e5 => ⟨true, rfl, iteF ?_⟩⟩
    have x5 := x4.trans e5
    exact ⟨_, rfl, _, rfl, _, rfl, _, rfl, _, rfl, _, _, _, _, _, rfl, f1, g1, c, j, s1, R1.mono x5, R2.mono x5, hc.mono x5, rfl, R3.mono x5, om, fun v H' e r => hQ v H' (x5.trans e) r⟩
section
variable {K : PySem.W.Frag} {H H' : Hp} {p : Addr}
theorem PairLot.wl {v : V} {f g : LP} (h : PairLot K H v f g) (e : SameW p H H') (w : WellAt H p) : PairLot K H' v f g := by
  obtain ⟨r, x, y, rfl, h1, h2, h3⟩ := h
  refine ⟨r, x, y, rfl, ?_, h2.si (e.si w), h3.si (e.si w)⟩
  obtain ⟨o, m, c, hw, _⟩ := w
  rcases h1 with (h1 | ⟨ob, h1⟩) | h1
  · refine .inl (.inl (e _ _ (fun z => ?_) h1))
    rw [z, hw] at h1
    injection h1 with h1
    injection h1 with h1
    simp at h1
  · refine .inl (.inr ⟨ob, e _ _ (fun z => ?_) h1⟩)
    rw [z, hw] at h1
    cases h1
  · exact .inr h1
theorem Row.wl {v : V} {f : LP} (h : Row K H v f) (e : SameW p H H') (w : WellAt H p) : Row K H' v f := h.si (e.si w)
theorem Fr.wl {v : V} {q : Rat} (h : Fr K H v q) (e : SameW p H H') (w : WellAt H p) : Fr K H' v q := h.si (e.si w)
end
def sp__law_right (K : PySem.W.Frag) : Sp := sp1 fun a H Q => ∃ p, a = .ref p ∧ WellAt H p ∧ RetW p (fun v _ => v = .bl true) H Q
abbrev N__law_right : List Str := ["_law_well_here", "_law_pair_here", "_law_line_here", "_law_near_here", "_law_turn", "_law_number_here", "_law_by", "_law_some", "_law_made", "_law_told", "_law_again", "_law_upside", "_law_less"]
theorem sc__law_right : FnScope N__law_right ["_law_well_here"] (defScope BH.s__law_right) := ⟨rfl, rfl, rfl, by decide +kernel, rfl, by decide +kernel, by decide +kernel⟩
theorem w__law_right (T : Tx K mg za na nb pt) (D_ : Df K mg "_law_right" BH.s__law_right) (k_partner_by : ClK P w K mg base 8 "partner_by" ["row", "other", "factor", "places", "step"] (sp_partner_by K)) (c__law_later : Cl P w K mg base 1 "_law_later" ["_law_lot", "_law_by"] (sp__law_later K)) (c__law_line : Cl P w K mg base 1 "_law_line" ["_law_lot"] (sp__law_line K)) (c__law_lines : Cl P w K mg base 2 "_law_lines" ["_law_pair_here"] (sp__law_lines K)) (c__law_lossless : Cl P w K mg base 7 "_law_lossless" ["_law_well_here", "_law_most"] (sp__law_lossless K)) (c__law_near : Cl P w K mg base 4 "_law_near" ["_law_well_here", "_law_most"] (sp__law_near K)) (c__law_number : Cl P w K mg base 3 "_law_number" ["_law_well_here"] (sp__law_number K)) (c__law_over : Cl P w K mg base 3 "_law_over" ["_law_a", "_law_b"] (sp__law_over K)) (c__law_partner_made : Cl P w K mg base 5 "_law_partner_made" ["_law_lot", "_law_two", "_law_number_here", "_law_by", "_law_third_lot"] (sp__law_partner_made K)) (c__law_pick : Cl P w K mg base 2 "_law_pick" ["_law_well_here", "_law_some"] (sp__law_pick K)) (c__law_scaled : Cl P w K mg base 4 "_law_scaled" ["_law_lot", "_law_by"] (sp__law_scaled K)) (c__law_take : Cl P w K mg base 1 "_law_take" ["_law_well_here", "_law_count"] (sp__law_take K)) (c_is_partner : Cl P w K mg base 8 "is_partner" ["row", "other"] (sp_is_partner K)) (c_partner_by : Cl P w K mg base 8 "partner_by" ["row", "other", "factor", "places", "step"] (sp_partner_by K)) : ClG P w K mg base 9 "_law_right" ["_law_well_here"] (sp__law_right K) := by
  refine D_.okG sc__law_right (fun _ _ _ _ _ _ us hl => match us, hl with | [_], _ => rfl) (fun vs H Q E h => ?_) (fun f cdv A outer s H vs Q E hgd hr h => ?_)
  · obtain ⟨_, rfl, _⟩ := h
    rfl
  · have hu := hu_of hr
    have hu64 := hu64_of hr
    obtain ⟨v_well_here, rfl, h⟩ := h
    refine ⟨_, (pss_cons (ps_set (i := 1) sc__law_right.nd rfl (.inl rfl) (pe_cl c__law_lossless (hr.mono (by decide)) (by rfl) (pa_cons (pv 0) (pa_cons pe_int pa_nil))))
      (Evl.pss_cut (ps_if (pt_cmpR op_eq (pe_cl c__law_take (hr.mono (by decide)) (by rfl) (pa_cons (pv 0) (pa_cons pe_int pa_nil))) pe_int (nomark _)) (pss_one (ps_set (i := 1) sc__law_right.nd rfl (.inl rfl) (pe_lst (pa_cons (pe_ix ix_list (pv 1) pe_int (fun _ _ => rfl)) (pa_cons (pe_ix ix_list (pv 1) pe_int (fun _ _ => rfl)) pa_nil))))) pss_nil)
      (pss_cons (ps_asg (pe_cl c__law_lines (hr.mono (by decide)) (by rfl) (pa_cons (pv 1) pa_nil)) (pg_tup rfl (pgs_cons (pg_name (i := 2) sc__law_right.nd rfl (.inl rfl)) (pgs_cons (pg_name (i := 3) sc__law_right.nd rfl (.inl rfl)) pgs_nil))))
      (pss_cons (ps_for PassesOwn.never rfl (pi_range1 (by rfl) T.range (pa_cons pe_int pa_nil)) (pg_name (i := 4) sc__law_right.nd rfl (.inl rfl)) (pss_cons (ps_par rfl sc__law_right.nd (i := 5) (j := 6) rfl rfl (by decide) rfl rfl (pa_cons (pe_cl c__law_number (hr.mono (by decide)) (by rfl) (pa_cons (pv 0) pa_nil)) (pa_cons (pe_cl c__law_pick (hr.mono (by decide)) (by rfl) (pa_cons (pv 0) (pa_cons (pe_tup (pa_cons pe_int (pa_cons pe_int (pa_cons (pe_op op_sub (pe_cl c__law_take (hr.mono (by decide)) (by rfl) (pa_cons (pv 0) (pa_cons pe_int pa_nil))) pe_int) (pa_cons (pe_op op_sub (pe_cl c__law_take (hr.mono (by decide)) (by rfl) (pa_cons (pv 0) (pa_cons pe_int pa_nil))) pe_int) (pa_cons (pe_op op_sub (pe_cl c__law_take (hr.mono (by decide)) (by rfl) (pa_cons (pv 0) (pa_cons pe_int pa_nil))) pe_int) pa_nil)))))) pa_nil))) pa_nil)) (by rfl))
      (Evl.pss_cut (ps_set (i := 7) sc__law_right.nd rfl (.inl rfl) (pe_ifExp (pt_cmpR op_eq (pe_cl c__law_take (hr.mono (by decide)) (by rfl) (pa_cons (pv 0) (pa_cons pe_int pa_nil))) pe_int (nomark _)) pe_dnewK (pe_cl c__law_near (hr.mono (by decide)) (by rfl) (pa_cons (pv 0) (pa_cons pe_int pa_nil)))))
      (pss_cons (ps_set (i := 8) sc__law_right.nd rfl (.inl rfl) (pe_cl c__law_line (hr.mono (by decide)) (by rfl) (pa_cons (pe_cl c__law_partner_made (hr.mono (by decide)) (by rfl) (pa_cons (pe_ix ix_list (pv 1) pe_int (fun _ _ => rfl)) (pa_cons (pe_ix ix_list (pv 1) pe_int (fun _ _ => rfl)) (pa_cons (pv 5) (pa_cons (pv 6) (pa_cons (pv 7) pa_nil)))))) pa_nil)))
      (pss_cons (ps_set (i := 9) sc__law_right.nd rfl (.inl rfl) (pe_cl c_partner_by (hr.mono (by decide)) (by rfl) (pa_cons (pv 2) (pa_cons (pv 3) (pa_cons (pv 5) (pa_cons (pv 6) (pa_cons (pe_cl c__law_line (hr.mono (by decide)) (by rfl) (pa_cons (pv 7) pa_nil)) pa_nil)))))))
      (pss_cons (ps_set (i := 10) sc__law_right.nd rfl (.inl rfl) (pe_clk k_partner_by (hr.mono (by decide)) (by rfl) (pk_cons (pv 2) (pk_cons (pv 3) (pk_cons (pv 5) (pk_cons (pv 6) (pk_cons (pe_cl c__law_line (hr.mono (by decide)) (by rfl) (pa_cons (pv 7) pa_nil)) pk_nil)))))))
      (pss_cons (ps_if (PW.pt (pw_or (pt_cmpR op_ne (pe_callB (cr_repr hgd hu64) (by rfl) T.repr (by decide +kernel) (pa_cons (pe_lst (pa_cons (pv 9) (pa_cons (pv 10) pa_nil))) pa_nil)) (pe_callB (cr_repr hgd hu64) (by rfl) T.repr (by decide +kernel) (pa_cons (pe_lst (pa_cons (pv 8) (pa_cons (pv 8) pa_nil))) pa_nil)) (nomark _)) (pw_or1 (pt_cmpR op_notBl (pe_cl c_is_partner (hr.mono (by decide)) (by rfl) (pa_cons (pv 2) (pa_cons (pv 9) pa_nil))) pe_bl (nomark _))))) (pss_one (ps_ret pe_bl)) pss_nil)
      (pss_cons (ps_set (i := 11) sc__law_right.nd rfl (.inl rfl) (pe_cl c__law_over (hr.mono (by decide)) (by rfl) (pa_cons (pe_tup (pa_cons pe_int (pa_cons pe_int pa_nil))) (pa_cons (pv 5) pa_nil))))
      (pss_cons (ps_set (i := 12) sc__law_right.nd rfl (.inl rfl) (pe_cl c__law_later (hr.mono (by decide)) (by rfl) (pa_cons (pe_cl c__law_scaled (hr.mono (by decide)) (by rfl) (pa_cons (pv 7) (pa_cons (pe_tup (pa_cons (pe_op op_sub pe_int (pe_ix ix_tup (pv 11) pe_int (fun _ _ => rfl))) (pa_cons (pe_ix ix_tup (pv 11) pe_int (fun _ _ => rfl)) pa_nil))) pa_nil))) (pa_cons (pe_op op_sub pe_int (pv 6)) pa_nil))))
      (pss_one (ps_if (pt_cmpR op_ne (pe_callB (cr_repr hgd hu64) (by rfl) T.repr (by decide +kernel) (pa_cons (pe_cl c_partner_by (hr.mono (by decide)) (by rfl) (pa_cons (pv 2) (pa_cons (pv 9) (pa_cons (pv 11) (pa_cons (pe_op op_sub pe_int (pv 6)) (pa_cons (pe_cl c__law_line (hr.mono (by decide)) (by rfl) (pa_cons (pv 12) pa_nil)) pa_nil)))))) pa_nil)) (pe_callB (cr_repr hgd hu64) (by rfl) T.repr (by decide +kernel) (pa_cons (pv 3) pa_nil)) (nomark _)) (pss_one (ps_ret pe_bl)) pss_nil)))))))))))
      (pss_one (ps_ret pe_bl)))))), ?_⟩
    obtain ⟨p, rfl, hW, hQ⟩ := h
    refine ⟨_, rfl, _, _, rfl, p, rfl, hW, rfl, fun v1 H1 e1 w1 ⟨f1, g1, hfg, h1, o1, o2⟩ => ?_⟩
    refine ⟨fun σ' H' => ∃ v2 f g, σ' = [some (.ref p), some v2, none, none, none, none, none, none, none, none, none, none, none] ∧ SameW p H H' ∧ WellAt H' p ∧ PairLot K H' v2 f g ∧ LP.Single (LP.det f g) ∧ Okl (84 ^ 4) 155 100 f ∧ Okl (84 ^ 4) 155 100 g, ?_, ?_⟩
    · refine ⟨_, rfl, _, _, rfl, p, 2, rfl, w1, rfl, by decide, by decide, fun v H2 e2 w2 ⟨d, hv, d0, d1⟩ => ?_⟩
      subst hv
      refine ⟨rfl, ?_⟩
      obtain ⟨r, x, y, rfl, hs, hx, hy⟩ := hfg.wl e2 w1
      by_cases hd : d = 0
      · refine ⟨true, congrArg V.bl (by rw [dec_i, decide_eq_true hd]), iteT ⟨_, rfl, _, _, _, _, rfl, rfl, hs, rfl, _, rfl, _, _, _, _, rfl, rfl, hs, rfl, sm2, fun q hq => ?_⟩⟩
        have q0 := same_new (o := .lst [y, x]) hq
        refine ⟨_, g1, f1, rfl, (e1.trans e2).trans (SameW.of q0), w2.mono q0, ⟨q, y, x, rfl, lst_new, hy.mono q0, hx.mono q0⟩, ?_, o2, o1⟩
        rw [LP.det_swap]
        exact h1.mul (by decide)
      · exact ⟨false, congrArg V.bl (by rw [dec_i, decide_eq_false hd]), iteF ⟨_, f1, g1, rfl, e1.trans e2, w2, ⟨r, x, y, rfl, hs, hx, hy⟩, h1, o1, o2⟩⟩
    clear h1 o1 o2 hfg w1 e1
    rintro σ' H2 ⟨v2, f, g, rfl, e2, w2, hfg, h1, o1, o2⟩
    refine ⟨_, rfl, _, rfl, f, g, hfg, o1.2.2.2.mono (by decide), o2.2.2.2.mono (by decide), fun v H3 e3 ⟨q, x, y, hvq, hT, r1, r2⟩ => ?_⟩
    subst hvq
    refine ⟨q, _, rfl, hT, rfl, _, _, rfl, _, _, rfl, rfl, ?_⟩
    refine ⟨_, rfl, (by decide), (by decide), for_range (lo := 0) (n := (2 : Int).toNat) (fun i σ' H' => SameW p H H' ∧ WellAt H' p ∧ PairLot K H' v2 f g ∧ Row K H' x f ∧ Row K H' y g ∧ ∃ z4 z5 z6 z7 z8 z9 z10 z11 z12, σ' = [some (.ref p), some v2, some x, some y, z4, z5, z6, z7, z8, z9, z10, z11, z12])
      ⟨e2.trans (SameW.of e3), w2.mono e3, hfg.mono e3, r1, r2, _, _, _, _, _, _, _, _, _, rfl⟩ ?_ ?_⟩
    · clear r1 r2 hfg e2 w2 e3 hT
      rintro i σ' H4 hi ⟨e4, w4, hfg, r1, r2, z4, z5, z6, z7, z8, z9, z10, z11, z12, rfl⟩
      refine ⟨_, rfl, _, rfl, p, rfl, w4, fun vn H5 e5 w5 ⟨c, hc, okc⟩ => ?_⟩
      refine ⟨_, rfl, _, rfl, _, _, rfl, p, 7, rfl, w5, rfl, by decide, by decide, fun v H6 e6 w6 ⟨d1, hv, a1, b1⟩ => ?_⟩
      subst hv
      refine ⟨_, _, rfl, rfl, _, rfl, _, _, rfl, p, 7, rfl, w6, rfl, by decide, by decide, fun v H7 e7 w7 ⟨d2, hv, a2, b2⟩ => ?_⟩
      subst hv
      refine ⟨_, _, rfl, rfl, _, rfl, _, _, rfl, p, 30, rfl, w7, rfl, by decide, by decide, fun v H8 e8 w8 ⟨d3, hv, a3, b3⟩ => ?_⟩
      subst hv
      refine ⟨_, _, rfl, rfl, small5 (by show 5 ≤ 100000; decide), fun t ht => ?_⟩
      have t0 := same_new (o := .tup [.int 0, .int 1, .int (d1 - 3), .int (d2 - 3), .int (d3 - 15)]) ht
      refine ⟨_, _, rfl, p, t, _, rfl, w8.mono t0, rfl, tup_new, (show 1 ≤ 5 by decide), (show 5 ≤ 1000 by decide), fun v H9 e9 w9 hv => ?_⟩
      have hm : ∃ j : Int, v = .int j ∧ j.natAbs ≤ 15 := by
        simp only [List.mem_cons, List.not_mem_nil, or_false] at hv
        rcases hv with rfl | rfl | rfl | rfl | rfl
        all_goals exact ⟨_, rfl, by omega⟩
      obtain ⟨j, rfl, hj⟩ := hm
      refine ⟨_, _, rfl, ?_⟩
      have e59 : SameW p H5 H9 := (((e6.trans e7).trans e8).trans (SameW.of t0)).trans e9
      have e49 : SameW p H4 H9 := e5.trans e59
      have hc9 := hc.wl e59 w5
      have hfg9 := hfg.wl e49 w4
      have r19 := r1.wl e49 w4
      have r29 := r2.wl e49 w4
      have e09 := e4.trans e49
      clear hfg r1 r2 hc e4 w4 e5 w5 e6 w6 e7 w7 e8 w8 e9 ht t0 e59 e49
      refine ⟨fun σ' H' => SameW p H H' ∧ WellAt H' p ∧ PairLot K H' v2 f g ∧ Row K H' x f ∧ Row K H' y g ∧ Fr K H' vn c ∧ ∃ vs s, σ' = [some (.ref p), some v2, some x, some y, some (.int (0 + (i : Int))), some vn, some (.int j), some vs, z8, z9, z10, z11, z12] ∧ Lot K H' vs s ∧ Sz 84 39 s ∧ Sup 5 s, ?_, ?_⟩
      · refine ⟨_, rfl, _, _, rfl, p, 5, rfl, w9, rfl, by decide, by decide, fun v H10 e10 w10 ⟨d, hv, a1, b1⟩ => ?_⟩
        subst hv
        refine ⟨rfl, ?_⟩
        have e010 := e09.trans e10
        by_cases hd : d = 0
        · refine ⟨true, congrArg V.bl (by rw [dec_i, decide_eq_true hd]), iteT fun l hl => ?_⟩
          have l0 := same_new (o := .dK []) hl
          refine ⟨e010.trans (SameW.of l0), w10.mono l0, (hfg9.wl e10 w9).mono l0, (r19.wl e10 w9).mono l0, (r29.wl e10 w9).mono l0, (hc9.wl e10 w9).mono l0, .ref l, LP.of [], rfl, ⟨[], ⟨l, [], rfl, upd_same, .nil, List.nodup_nil⟩, (fun _ z => by cases z), rfl⟩, Sz.zero (by decide), fun k hk => absurd rfl hk⟩
        · refine ⟨false, congrArg V.bl (by rw [dec_i, decide_eq_false hd]), iteF ⟨_, rfl, _, _, rfl, p, rfl, w10, rfl, fun vs H11 e11 w11 ⟨s, hs, zs, ss⟩ => ?_⟩⟩
          have e911 := e10.trans e11
          exact ⟨e09.trans e911, w11, hfg9.wl e911 w9, r19.wl e911 w9, r29.wl e911 w9, hc9.wl e911 w9, vs, s, rfl, hs, zs, ss⟩
      clear hfg9 r19 r29 hc9 e09 w9
      rintro σ' H5 ⟨e5, w5, hfg, r1, r2, hc, vs, s, rfl, hs, zs, ss⟩
      have G : Good f g c j s := ⟨o1, o2, h1, okc, hj, zs, ss⟩
      obtain ⟨rp, u1, u2, rfl, hsq, hu1, hu2⟩ := id hfg
      -- made
      refine ⟨_, rfl, _, _, _, _, rfl, rfl, hsq, rfl, _, rfl, _, _, _, _, rfl, rfl, hsq, rfl, _, rfl, _, rfl, _, rfl, _, _, _, _, _, rfl, f, g, c, j, s, hu1, hu2, hc, rfl, hs, G.ok1, fun vm H6 e6 n6 rm => ?_⟩
      refine ⟨_, rfl, _, rm, G.made.2.mono (by decide), fun v8 H7 e7 r8 => ?_⟩
      have e57 := e6.trans e7
      -- told
      refine ⟨_, rfl, _, rfl, _, rfl, _, rfl, _, rfl, _, rfl, s, hs.mono e57, ss.mono (by decide), fun vl H8 e8 rl => ?_⟩
      have e58 := e57.trans e8
      refine ⟨_, _, _, _, _, rfl, f, g, c, j, s, r1.mono e58, r2.mono e58, hc.mono e58, rfl, rl, okc.1, G.det1, h1, G.ok1, fun v9 H9 e9 r9 => ?_⟩
      have e59 := e58.trans e9
      -- again
      refine ⟨_, rfl, _, rfl, _, rfl, _, rfl, _, rfl, _, rfl, s, hs.mono e59, ss.mono (by decide), fun vl2 H10 e10 rl2 => ?_⟩
      have e510 := e59.trans e10
      refine ⟨_, _, _, _, _, rfl, f, g, c, j, s, r1.mono e510, r2.mono e510, hc.mono e510, rfl, rl2, okc.1, G.det1, h1, G.ok1, fun v10 H11 e11 r10 => ?_⟩
      have e511 := e510.trans e11
      obtain ⟨_, _, st, _, qs, _, _, _, _, hro⟩ := id r8
      -- the reprs
      refine ⟨_, rfl, _, rfl, sm2, fun q1 hq1 => ?_⟩
      have y1 := same_new (o := .lst [v9, v10]) hq1
      obtain ⟨k1, k2, k3, k4, k5⟩ := two_repr (K := K) lst_new ((r9.mono (e10.trans e11)).mono y1) (r10.mono y1) hro G.fits (G.made.2.mono (by decide))
      refine ⟨q1, _, rfl, k1, k2, k3, k4, k5, ?_⟩
      refine ⟨_, rfl, _, rfl, sm2, fun q2 hq2 => ?_⟩
      have y2 := same_new (o := .lst [v8, v8]) hq2
      have r8' := ((r8.mono ((e8.trans e9).trans (e10.trans e11))).mono y1).mono y2
      obtain ⟨k1, k2, k3, k4, k5⟩ := two_repr (K := K) lst_new r8' r8' hro G.fits (G.made.2.mono (by decide))
      refine ⟨q2, _, rfl, k1, k2, k3, k4, k5, ?_⟩
      refine ⟨rfl, false, congrArg V.bl (by simp), iteF ?_⟩
      have e512 := (e511.trans y1).trans y2
      have r9' := ((r9.mono (e10.trans e11)).mono y1).mono y2
      refine ⟨_, rfl, _, rfl, _, _, rfl, f, _, r1.mono e512, r9', G.det2, G.one2, fun H12 e12 => ⟨true, true, rfl, rfl, false, rfl, iteF ?_⟩⟩
      have e513 := e512.trans e12
      -- upside
      refine ⟨sm2, fun t1 ht1 => ⟨_, rfl, _, _, rfl, 1, c, ⟨t1, rfl, tup_new⟩, (hc.mono e513).mono (same_new ht1), ?_, fit_num okc, okc.1, fun v11 H13 e13 r11 => ?_⟩⟩
      · exact ⟨show 1 ≤ big from p84 (t := 0) (by decide), show 1 ≤ big from p84 (t := 0) (by decide)⟩
      rw [Rat.one_mul] at r11
      have e514 := (e513.trans (same_new ht1)).trans e13
      obtain ⟨D, d2, d1, zl1, zl2, zl3, fi1, fi2, _⟩ := G.less
      obtain ⟨t11, rfl, hT11⟩ := id r11
      -- less
      refine ⟨_, rfl, _, rfl, _, _, _, _, rfl, rfl, hT11, rfl, _, _, rfl, rfl, _, rfl, _, _, _, _, rfl, rfl, hT11, rfl, sm2, fun t2 ht2 => ?_⟩
      have e515 := e514.trans (same_new (o := .tup [.int (0 - (c⁻¹).num), .int ((c⁻¹).den : Int)]) ht2)
      refine ⟨_, _, rfl, s, -c⁻¹, hs.mono e515, ss.mono (by decide), ⟨t2, rfl, ?_⟩, zs.fits (p84 (t := 1) (by decide)) (small_big (by decide)), fi2, fun vl3 H14 e14 n14 r14 => ?_⟩
      · rw [Rat.neg_num, Rat.neg_den, ← Int.zero_sub]
        exact tup_new
      refine ⟨_, rfl, _, _, rfl, rfl, _, _, rfl, _, 0 - j, r14, ?_, rfl, fun v12 H15 e15 n15 r15 => ?_⟩
      · exact ((Sup.one 0 (-c⁻¹)).mul ss).mono (by decide)
      rw [Int.zero_sub] at r15
      have e516 := (e515.trans e14).trans e15
      have e915 : Same H9 H15 := (((((e10.trans e11).trans y1).trans y2).trans e12).trans (same_new ht1)).trans ((e13.trans (same_new ht2)).trans (e14.trans e15))
      have e1315 : Same H13 H15 := (same_new ht2).trans (e14.trans e15)
      -- back
      refine ⟨_, rfl, _, rfl, _, rfl, _, rfl, _, _, rfl, rfl, _, rfl, _, rfl, lessF c j s, r15, zl3.mono (by decide), fun vl4 H16 e16 r16 => ?_⟩
      have e517 := e516.trans e16
      refine ⟨_, _, _, _, _, rfl, f, LP.made f g c j s, c⁻¹, -j, lessF c j s, r1.mono e517, (r9.mono e915).mono e16, (r11.mono e1315).mono e16, (by show V.int (0 - j) = V.int (-j); rw [Int.zero_sub]), r16, ?_, G.det2, G.one2, G.ok2, fun v17 H17 e17 r17 => ?_⟩
      · intro z
        have h1 := Rat.mul_inv_cancel c okc.1
        rw [z, Rat.mul_zero] at h1
        exact absurd h1 (by decide)
      rw [G.back] at r17
      obtain ⟨_, _, st2, _, qs2, _, _, _, _, hro2⟩ := id r2
      have e518 := e517.trans e17
      obtain ⟨k1, k2, k3, k4, k5⟩ := row_repr r17 hro2 o2.fits (o2.2.2.2.mono (by decide))
      obtain ⟨a17, ha17⟩ := r17.ref
      subst ha17
      refine ⟨a17, _, rfl, k1, k2, k3, k4, k5, ?_⟩
      obtain ⟨k1, k2, k3, k4, k5⟩ := row_repr (r2.mono e518) hro2 o2.fits (o2.2.2.2.mono (by decide))
      obtain ⟨a18, ha18⟩ := r2.ref
      subst ha18
      refine ⟨_, rfl, a18, _, rfl, k1, k2, k3, k4, k5, ?_⟩
      refine ⟨rfl, false, congrArg V.bl (by simp), iteF ?_⟩
      exact ⟨e5.trans (SameW.of e518), w5.mono e518, hfg.mono e518, r1.mono e518, r2.mono e518, _, _, _, _, _, _, _, _, _, rfl⟩
    · rintro σ' H4 ⟨e4, w4, _, _, _, z4, z5, z6, z7, z8, z9, z10, z11, z12, rfl⟩
      exact hQ _ _ e4 w4 rfl
def sp_law (K : PySem.W.Frag) : Sp := sp1 fun a H Q => ∃ (p : Addr) (ns : List Int), a = .ref p ∧ SqL K H p (ns.map V.int) ∧ ∀ H', Q (.bl true) H'
abbrev N_law : List Str := ["_law_script", "_law_turn"]
theorem sc_law : FnScope N_law ["_law_script"] (defScope BH.s_law) := ⟨rfl, rfl, rfl, by decide +kernel, rfl, by decide +kernel, by decide +kernel⟩
theorem w_law (T : Tx K mg za na nb pt) (D_ : Df K mg "law" BH.s_law)  (c__law_right : ClG P w K mg base 9 "_law_right" ["_law_well_here"] (sp__law_right K)) (c__law_rounds : Cl P w K mg base 1 "_law_rounds" ["_law_script"] (sp__law_rounds K)) (c__law_well : Cl P w K mg base 1 "_law_well" ["_law_script", "_law_turn"] (sp__law_well K)) : ClG P w K mg base 10 "law" ["_law_script"] (sp_law K) := by
  refine D_.okG sc_law (fun _ _ _ _ _ _ us hl => match us, hl with | [_], _ => rfl) (fun vs H Q E h => ?_) (fun f cdv A outer s H vs Q E hgd hr h => ?_)
  · obtain ⟨_, rfl, _⟩ := h
    rfl
  · have hu := hu_of hr
    have hu64 := hu64_of hr
    obtain ⟨v_script, rfl, h⟩ := h
    refine ⟨_, (pss_one (ps_ret (pe_callB (cr_all rfl) (by rfl) T.all (by decide +kernel) (pa_cons (pe_lc (own := [("_law_turn", 1)]) (g := gName 1) rfl sc_law.nd (pi_range1 (by rfl) T.range (pa_cons (pe_cl c__law_rounds (hr.mono (by decide)) (by rfl) (pa_cons (pv 0) pa_nil)) pa_nil)) (blkOk_by (own := [("_law_turn", 1)]) (N := N_law) (sc := defScope BH.s_law) (by decide +kernel)) (fun _ _ _ _ _ => pg_name (i := 1) sc_law.nd rfl (Or.inl rfl)) (fun _ _ _ _ _ => pts_nil) (fun _ _ _ _ _ => (pe_clG c__law_right hgd (hr.mono (by decide)) (by rfl) (pa_cons (pe_cl c__law_well (hr.mono (by decide)) (by rfl) (pa_cons (pv 0) (pa_cons (pv 1) pa_nil))) pa_nil)))) pa_nil)))), ?_⟩
    obtain ⟨p, ns, rfl, hS, hQ⟩ := h
    refine ⟨_, rfl, _, rfl, p, _, rfl, hS, fun r r0 r1 => ⟨_, rfl, by omega, by omega, fun D hD => ?_⟩⟩
    refine lcm_range (lo := 0) (n := r.toNat) (List.replicate r.toNat true) (fun _ v y => v = .bl y) (fun _ _ _ _ h _ => h) hD (by rw [List.length_replicate]) (by rw [List.length_replicate]; omega) (fun i y H2 hi hy e Q2 q => ?_) (fun H2 vs e hv hp => ?_)
    · have hy2 : y = true := by
        rw [List.getElem?_replicate, if_pos hi] at hy
        exact (Option.some.inj hy).symm
      subst hy2
      refine ⟨_, rfl, _, rfl, _, _, rfl, p, ns, _, rfl, e.seq hS, rfl, by omega, fun v3 H3 e3 ⟨l, hl, hl0, w3⟩ => ?_⟩
      subst hl
      refine ⟨_, rfl, l, rfl, w3, fun v4 H4 e4 w4 hv4 => q v4 H4 (fun b o hb => e4 b o (fun z => ?_) (e3 b o hb)) hv4⟩
      rw [z, hl0] at hb
      cases hb
    · have hall : ∀ (n : Nat) (vs : List V), Paired (fun (v : V) (y : Bool) => v = .bl y) vs (List.replicate n true) → vs = (List.replicate n true).map V.bl := by
        intro n
        induction n with
        | zero => intro vs h; cases h; rfl
        | succ n ih =>
          intro vs h
          rw [List.replicate_succ] at h
          cases h with
          | cons r t => rw [r, ih _ t]; rfl
      refine ⟨D, List.replicate r.toNat true, rfl, ?_, ?_⟩
      · rw [← hall _ _ hp]
        exact lst_at hv
      · have : (List.replicate r.toNat true).all id = true := by
          rw [List.all_replicate]
          simp
        rw [this]
        exact hQ H2

end
end BW
namespace BH
open PySem PySem.Spec PyProof.Rows L2
def d_is_whole : He.DefD := ⟨("is_whole", none), "is_whole", "is_whole", defArgs s_is_whole, defBody s_is_whole, defScope s_is_whole, [], []⟩
def d_is_between : He.DefD := ⟨("is_between", none), "is_between", "is_between", defArgs s_is_between, defBody s_is_between, defScope s_is_between, [], []⟩
def d_are_wholes : He.DefD := ⟨("are_wholes", none), "are_wholes", "are_wholes", defArgs s_are_wholes, defBody s_are_wholes, defScope s_are_wholes, [], []⟩
def d_divisor_of : He.DefD := ⟨("divisor_of", none), "divisor_of", "divisor_of", defArgs s_divisor_of, defBody s_divisor_of, defScope s_divisor_of, [], []⟩
def d_is_ratio : He.DefD := ⟨("is_ratio", none), "is_ratio", "is_ratio", defArgs s_is_ratio, defBody s_is_ratio, defScope s_is_ratio, [], []⟩
def d_ratio : He.DefD := ⟨("ratio", none), "ratio", "ratio", defArgs s_ratio, defBody s_ratio, defScope s_ratio, [], []⟩
def d_plus : He.DefD := ⟨("plus", none), "plus", "plus", defArgs s_plus, defBody s_plus, defScope s_plus, [], []⟩
def d_times : He.DefD := ⟨("times", none), "times", "times", defArgs s_times, defBody s_times, defScope s_times, [], []⟩
def d_row_by : He.DefD := ⟨("row_by", none), "row_by", "row_by", defArgs s_row_by, defBody s_row_by, defScope s_row_by, [], []⟩
def d_end_of : He.DefD := ⟨("end_of", none), "end_of", "end_of", defArgs s_end_of, defBody s_end_of, defScope s_end_of, [], []⟩
def d_at_place : He.DefD := ⟨("at_place", none), "at_place", "at_place", defArgs s_at_place, defBody s_at_place, defScope s_at_place, [], []⟩
def d_row_sum : He.DefD := ⟨("row_sum", none), "row_sum", "row_sum", defArgs s_row_sum, defBody s_row_sum, defScope s_row_sum, [], []⟩
def d_row_scaled : He.DefD := ⟨("row_scaled", none), "row_scaled", "row_scaled", defArgs s_row_scaled, defBody s_row_scaled, defScope s_row_scaled, [], []⟩
def d_row_less : He.DefD := ⟨("row_less", none), "row_less", "row_less", defArgs s_row_less, defBody s_row_less, defScope s_row_less, [], []⟩
def d_row_shift : He.DefD := ⟨("row_shift", none), "row_shift", "row_shift", defArgs s_row_shift, defBody s_row_shift, defScope s_row_shift, [], []⟩
def d_row_product : He.DefD := ⟨("row_product", none), "row_product", "row_product", defArgs s_row_product, defBody s_row_product, defScope s_row_product, [], []⟩
def d_part_from : He.DefD := ⟨("part_from", none), "part_from", "part_from", defArgs s_part_from, defBody s_part_from, defScope s_part_from, [], []⟩
def d_even_of : He.DefD := ⟨("even_of", none), "even_of", "even_of", defArgs s_even_of, defBody s_even_of, defScope s_even_of, [], []⟩
def d_odd_of : He.DefD := ⟨("odd_of", none), "odd_of", "odd_of", defArgs s_odd_of, defBody s_odd_of, defScope s_odd_of, [], []⟩
def d_spread_out : He.DefD := ⟨("spread_out", none), "spread_out", "spread_out", defArgs s_spread_out, defBody s_spread_out, defScope s_spread_out, [], []⟩
def d_is_single : He.DefD := ⟨("is_single", none), "is_single", "is_single", defArgs s_is_single, defBody s_is_single, defScope s_is_single, [], []⟩
def d_is_laid : He.DefD := ⟨("is_laid", none), "is_laid", "is_laid", defArgs s_is_laid, defBody s_is_laid, defScope s_is_laid, [], []⟩
def d_check_row : He.DefD := ⟨("check_row", none), "check_row", "check_row", defArgs s_check_row, defBody s_check_row, defScope s_check_row, [], []⟩
def d_check_factor : He.DefD := ⟨("check_factor", none), "check_factor", "check_factor", defArgs s_check_factor, defBody s_check_factor, defScope s_check_factor, [], []⟩
def d_check_places : He.DefD := ⟨("check_places", none), "check_places", "check_places", defArgs s_check_places, defBody s_check_places, defScope s_check_places, [], []⟩
def d_pair_determinant : He.DefD := ⟨("pair_determinant", none), "pair_determinant", "pair_determinant", defArgs s_pair_determinant, defBody s_pair_determinant, defScope s_pair_determinant, [], []⟩
def d_are_partners : He.DefD := ⟨("are_partners", none), "are_partners", "are_partners", defArgs s_are_partners, defBody s_are_partners, defScope s_are_partners, [], []⟩
def d_partner_made : He.DefD := ⟨("partner_made", none), "partner_made", "partner_made", defArgs s_partner_made, defBody s_partner_made, defScope s_partner_made, [], []⟩
def d_is_partner : He.DefD := ⟨("is_partner", none), "is_partner", "is_partner", defArgs s_is_partner, defBody s_is_partner, defScope s_is_partner, [], []⟩
def d_partner_by : He.DefD := ⟨("partner_by", none), "partner_by", "partner_by", defArgs s_partner_by, defBody s_partner_by, defScope s_partner_by, [], []⟩
def d__law_well : He.DefD := ⟨("_law_well", none), "_law_well", "_law_well", defArgs s__law_well, defBody s__law_well, defScope s__law_well, [], []⟩
def d__law_take : He.DefD := ⟨("_law_take", none), "_law_take", "_law_take", defArgs s__law_take, defBody s__law_take, defScope s__law_take, [], []⟩
def d__law_pick : He.DefD := ⟨("_law_pick", none), "_law_pick", "_law_pick", defArgs s__law_pick, defBody s__law_pick, defScope s__law_pick, [], []⟩
def d__law_rounds : He.DefD := ⟨("_law_rounds", none), "_law_rounds", "_law_rounds", defArgs s__law_rounds, defBody s__law_rounds, defScope s__law_rounds, [], []⟩
def d__law_common : He.DefD := ⟨("_law_common", none), "_law_common", "_law_common", defArgs s__law_common, defBody s__law_common, defScope s__law_common, [], []⟩
def d__law_ratio : He.DefD := ⟨("_law_ratio", none), "_law_ratio", "_law_ratio", defArgs s__law_ratio, defBody s__law_ratio, defScope s__law_ratio, [], []⟩
def d__law_sum : He.DefD := ⟨("_law_sum", none), "_law_sum", "_law_sum", defArgs s__law_sum, defBody s__law_sum, defScope s__law_sum, [], []⟩
def d__law_product : He.DefD := ⟨("_law_product", none), "_law_product", "_law_product", defArgs s__law_product, defBody s__law_product, defScope s__law_product, [], []⟩
def d__law_over : He.DefD := ⟨("_law_over", none), "_law_over", "_law_over", defArgs s__law_over, defBody s__law_over, defScope s__law_over, [], []⟩
def d__law_cleared : He.DefD := ⟨("_law_cleared", none), "_law_cleared", "_law_cleared", defArgs s__law_cleared, defBody s__law_cleared, defScope s__law_cleared, [], []⟩
def d__law_line : He.DefD := ⟨("_law_line", none), "_law_line", "_law_line", defArgs s__law_line, defBody s__law_line, defScope s__law_line, [], []⟩
def d__law_plus : He.DefD := ⟨("_law_plus", none), "_law_plus", "_law_plus", defArgs s__law_plus, defBody s__law_plus, defScope s__law_plus, [], []⟩
def d__law_times : He.DefD := ⟨("_law_times", none), "_law_times", "_law_times", defArgs s__law_times, defBody s__law_times, defScope s__law_times, [], []⟩
def d__law_scaled : He.DefD := ⟨("_law_scaled", none), "_law_scaled", "_law_scaled", defArgs s__law_scaled, defBody s__law_scaled, defScope s__law_scaled, [], []⟩
def d__law_later : He.DefD := ⟨("_law_later", none), "_law_later", "_law_later", defArgs s__law_later, defBody s__law_later, defScope s__law_later, [], []⟩
def d__law_spread : He.DefD := ⟨("_law_spread", none), "_law_spread", "_law_spread", defArgs s__law_spread, defBody s__law_spread, defScope s__law_spread, [], []⟩
def d__law_part : He.DefD := ⟨("_law_part", none), "_law_part", "_law_part", defArgs s__law_part, defBody s__law_part, defScope s__law_part, [], []⟩
def d__law_pair : He.DefD := ⟨("_law_pair", none), "_law_pair", "_law_pair", defArgs s__law_pair, defBody s__law_pair, defScope s__law_pair, [], []⟩
def d__law_lines : He.DefD := ⟨("_law_lines", none), "_law_lines", "_law_lines", defArgs s__law_lines, defBody s__law_lines, defScope s__law_lines, [], []⟩
def d__law_fits : He.DefD := ⟨("_law_fits", none), "_law_fits", "_law_fits", defArgs s__law_fits, defBody s__law_fits, defScope s__law_fits, [], []⟩
def d__law_number : He.DefD := ⟨("_law_number", none), "_law_number", "_law_number", defArgs s__law_number, defBody s__law_number, defScope s__law_number, [], []⟩
def d__law_near : He.DefD := ⟨("_law_near", none), "_law_near", "_law_near", defArgs s__law_near, defBody s__law_near, defScope s__law_near, [], []⟩
def d__law_steps : He.DefD := ⟨("_law_steps", none), "_law_steps", "_law_steps", defArgs s__law_steps, defBody s__law_steps, defScope s__law_steps, [], []⟩
def d__law_scale : He.DefD := ⟨("_law_scale", none), "_law_scale", "_law_scale", defArgs s__law_scale, defBody s__law_scale, defScope s__law_scale, [], []⟩
def d__law_led : He.DefD := ⟨("_law_led", none), "_law_led", "_law_led", defArgs s__law_led, defBody s__law_led, defScope s__law_led, [], []⟩
def d__law_of_ladder : He.DefD := ⟨("_law_of_ladder", none), "_law_of_ladder", "_law_of_ladder", defArgs s__law_of_ladder, defBody s__law_of_ladder, defScope s__law_of_ladder, [], []⟩
def d__law_lossless : He.DefD := ⟨("_law_lossless", none), "_law_lossless", "_law_lossless", defArgs s__law_lossless, defBody s__law_lossless, defScope s__law_lossless, [], []⟩
def d__law_partner_made : He.DefD := ⟨("_law_partner_made", none), "_law_partner_made", "_law_partner_made", defArgs s__law_partner_made, defBody s__law_partner_made, defScope s__law_partner_made, [], []⟩
def d__law_right : He.DefD := ⟨("_law_right", none), "_law_right", "_law_right", defArgs s__law_right, defBody s__law_right, defScope s__law_right, [], []⟩
def d_law : He.DefD := ⟨("law", none), "law", "law", defArgs s_law, defBody s_law, defScope s_law, [], []⟩
def fn0 : List He.DefD := [d_is_whole, d_is_between, d_are_wholes, d_divisor_of, d_is_ratio, d_ratio, d_plus, d_times, d_row_by, d_end_of, d_at_place, d_row_sum, d_row_scaled, d_row_less, d_row_shift, d_row_product, d_part_from, d_even_of, d_odd_of, d_spread_out, d_is_single, d_is_laid, d_check_row, d_check_factor, d_check_places, d_pair_determinant, d_are_partners, d_partner_made, d_is_partner, d_partner_by]
def fn1 : List He.DefD := [d__law_well, d__law_take, d__law_pick, d__law_rounds, d__law_common, d__law_ratio, d__law_sum, d__law_product, d__law_over, d__law_cleared, d__law_line, d__law_plus, d__law_times, d__law_scaled, d__law_later, d__law_spread, d__law_part, d__law_pair, d__law_lines, d__law_fits, d__law_number, d__law_near, d__law_steps, d__law_scale, d__law_led, d__law_of_ladder, d__law_lossless, d__law_partner_made, d__law_right, d_law]
def fn : List He.DefD := fn0 ++ fn1
def fa0 : List He.Fa := [.glo "is_whole", .glo "is_between", .glo "are_wholes", .glo "divisor_of", .glo "is_ratio", .glo "ratio", .glo "plus", .glo "times", .glo "row_by", .glo "end_of", .glo "at_place", .glo "row_sum", .glo "row_scaled", .glo "row_less", .glo "row_shift", .glo "row_product", .glo "part_from", .glo "even_of", .glo "odd_of", .glo "spread_out", .glo "is_single", .glo "is_laid", .glo "check_row", .glo "check_factor", .glo "check_places", .glo "pair_determinant", .glo "are_partners", .glo "partner_made", .glo "is_partner", .glo "partner_by"]
def fa1 : List He.Fa := [.glo "_law_well", .glo "_law_take", .glo "_law_pick", .glo "_law_rounds", .glo "_law_common", .glo "_law_ratio", .glo "_law_sum", .glo "_law_product", .glo "_law_over", .glo "_law_cleared", .glo "_law_line", .glo "_law_plus", .glo "_law_times", .glo "_law_scaled", .glo "_law_later", .glo "_law_spread", .glo "_law_part", .glo "_law_pair", .glo "_law_lines", .glo "_law_fits", .glo "_law_number", .glo "_law_near", .glo "_law_steps", .glo "_law_scale", .glo "_law_led", .glo "_law_of_ladder", .glo "_law_lossless", .glo "_law_partner_made", .glo "_law_right", .glo "law"]
def fa2 : List He.Fa := [.glo "ZERO", .glo "NOUGHT", .int "MOST_PLACES" 1000, .free "len", .free "isinstance", .free "int", .free "bool", .free "tuple", .free "all", .free "enumerate", .free "range", .free "min", .free "max", .free "abs", .free "dict", .free "list", .free "divmod", .free "repr"]
def fa : List He.Fa := fa0 ++ fa1 ++ fa2
def nm0 : List Str := ["BandError", "InvalidFraction", "InvalidNumber", "InvalidRow", "NotAPartner", "ZERO", "NOUGHT", "MOST_PLACES", "is_whole", "is_between", "are_wholes", "divisor_of", "is_ratio", "ratio", "plus", "times", "row_by", "end_of", "at_place", "row_sum", "row_scaled", "row_less", "row_shift", "row_product", "part_from", "even_of", "odd_of", "spread_out", "is_single", "is_laid"]
def nm1 : List Str := ["check_row", "check_factor", "check_places", "pair_determinant", "are_partners", "partner_made", "is_partner", "partner_by", "_law_well", "_law_take", "_law_pick", "_law_rounds", "_law_common", "_law_ratio", "_law_sum", "_law_product", "_law_over", "_law_cleared", "_law_line", "_law_plus", "_law_times", "_law_scaled", "_law_later", "_law_spread", "_law_part", "_law_pair", "_law_lines", "_law_fits", "_law_number", "_law_near"]
def nm2 : List Str := ["_law_steps", "_law_scale", "_law_led", "_law_of_ladder", "_law_lossless", "_law_partner_made", "_law_right"]
def nm : List Str := nm0 ++ nm1 ++ nm2
def lawAt : Nat := 75
/-! my own Hook: one more Bool -/
abbrev AlM : Type := He.AlD × Bool
def obsM (ex : PySem.W.Frag → Bool) (fa : List He.Fa) (fn : List He.DefD) (K : PySem.W.Frag) : AlM := (He.obsD fa fn K, ex K)
def obsMG (ex : PySem.W.Frag → Bool) (n : Nat) (fa : List He.Fa) (fn : List He.DefD) (g : Addr → Option Obj) : AlM := obsM ex fa fn (He.frG g (He.asD g n))
def hookM (ex : PySem.W.Frag → Bool) (n : Nat) (fa : List He.Fa) (fn : List He.DefD) : PySem.W.Hook where
  α := AlM
  obs := fun s => obsMG ex n fa fn s.heap.get?
  val := fun _ => (He.valD fn, true)
  says := fun _ h => ∃ K : PySem.W.Frag, K.In h ∧ He.SaysD fa fn K ∧ ex K = true
  of := fun _ _ e => ⟨_, He.frG_in, congrArg (fun z : AlM => z.1) e, congrArg (fun z : AlM => z.2) e⟩
  keeps := fun _ _ _ ⟨K, hK, c⟩ k => ⟨K, PySem.W.Frag.In.keeps hK k, c⟩
theorem obsMG_eq {ex : PySem.W.Frag → Bool} {n : Nat} {fa : List He.Fa} {fn : List He.DefD} {g : Addr → Option Obj} {s : Shared} (h : ∀ a, g a = s.heap.get? a) : obsMG ex n fa fn g = (hookM ex n fa fn).obs s := by
  have e : g = s.heap.get? := funext h
  rw [e] <;> rfl
/-- the second item of the tuple x of the module -/
def itemAt (x : Str) (i : Nat) (K : PySem.W.Frag) : Addr := match K.lookup (He.ga K x) with
  | some ⟨_, _, .seq its _, _⟩ => (match its.toList[i]? with
    | some (.ref a) => a
    | _ => 0)
  | _ => 0
def tupAtB (K : PySem.W.Frag) (a : Addr) (vs : List He.Dv) : Bool := match K.lookup a with
  | some ⟨.type c, _, .seq its _, _⟩ => decide (c = "tuple") && (decide (its.size ≤ sizeLine) && He.relAll (vs.map (He.Dv.v K)) its.toList)
  | _ => false
theorem tupAtB_ok {K : PySem.W.Frag} {a : Addr} {vs : List He.Dv} (h : tupAtB K a vs = true) (H : Hp) : SqT K H a (vs.map (He.Dv.v K)) := by
  unfold tupAtB at h
  cases q : K.lookup a with
  | none =>
    rw [q] at h
    cases h
  | some o =>
    obtain ⟨oc, od, dt, osl⟩ := o
    rw [q] at h
    cases oc with
    | type c =>
      cases dt with
      | seq its n =>
        obtain ⟨h1, h2⟩ := He.ba (show (decide (c = "tuple") && (decide (its.size ≤ sizeLine) && He.relAll (vs.map (He.Dv.v K)) its.toList)) = true from h)
        obtain ⟨h3, h4⟩ := He.ba h2
        exact .inr ⟨_, its, n, q, congrArg Value.type (of_decide_eq_true h1), rfl, of_decide_eq_true h3, He.relAll_ok h4⟩
      | _ => cases h
    | _ => cases dt <;> cases h
def ex (K : PySem.W.Frag) : Bool := He.eqO (PySem.W.nsIn K mainGlobals "gcd") (some (some (.builtin "math.gcd"))) && (He.tupB K "ZERO" [.int 0, .int 1] && (He.tupB K "NOUGHT" [.int 0, .adr (itemAt "NOUGHT" 1)] && tupAtB K (itemAt "NOUGHT" 1 K) []))
abbrev R : PySem.W.OpenRow := PySem.W.OpenLaw.row PySem.Challenge.rw_bandsplits_k60_whole_all_partners_made
abbrev hk : PySem.W.Hook := hookM ex 2 fa fn
def ob (s : PySem.W.SharedT) : AlM := obsMG ex 2 fa fn (HandSHeadRun.getT s)
theorem ob_eq (s : PySem.W.SharedT) : ob s = hk.obs s.abs := obsMG_eq (HandSHeadRun.getT_eq s)

theorem run (w : World) : HandSHeadRun.RunEqI R (PySem.W.view R.prog [0, lawAt]) hk ob 4200 nm w := by
  unfold HandSHeadRun.RunEqI
  kernel_rfl
end BH
namespace BW
open PySem PySem.Spec PyProof.Rows L2 BS
/-! ### all defs, from the head's facts -/
theorem all_ok {P : Program} {w : World} {K : PySem.W.Frag} {h : Heap} {mg : Str → Option Value} (X : K.In h) (G : h.Ns mainGlobals mg) (c : He.SaysD BH.fa BH.fn K) (e : BH.ex K = true) (base : Heap) :
    ClG P w K mg base 10 "law" ["_law_script"] (sp_law K) := by
  obtain ⟨e1, e2⟩ := He.ba (show (He.eqO (PySem.W.nsIn K mainGlobals "gcd") (some (some (.builtin "math.gcd"))) && (He.tupB K "ZERO" [.int 0, .int 1] && (He.tupB K "NOUGHT" [.int 0, .adr (BH.itemAt "NOUGHT" 1)] && BH.tupAtB K (BH.itemAt "NOUGHT" 1 K) []))) = true from e)
  obtain ⟨e2, e3⟩ := He.ba e2
  obtain ⟨e3, e4⟩ := He.ba e3
  obtain ⟨pt, hpl⟩ := He.int_ok X G (c.fact 62 (f := .int "MOST_PLACES" 1000) rfl)
  have T : Tx K mg (He.ga K "ZERO") (He.ga K "NOUGHT") (BH.itemAt "NOUGHT" 1 K) pt :=
    { zero := He.glo_ok X G (c.fact 60 (f := .glo "ZERO") rfl)
      zeroT := fun H => He.tupB_ok e2 H
      nought := He.glo_ok X G (c.fact 61 (f := .glo "NOUGHT") rfl)
      noughtT := fun H => He.tupB_ok e3 H
      noughtB := fun H => BH.tupAtB_ok e4 H
      places := hpl
      gcd := PySem.W.mg_of X G (He.eqO_ok e1)
      len := He.free_ok X G (c.fact 63 (f := .free "len") rfl)
      isinstance := He.free_ok X G (c.fact 64 (f := .free "isinstance") rfl)
      int := He.free_ok X G (c.fact 65 (f := .free "int") rfl)
      bool := He.free_ok X G (c.fact 66 (f := .free "bool") rfl)
      tuple := He.free_ok X G (c.fact 67 (f := .free "tuple") rfl)
      all := He.free_ok X G (c.fact 68 (f := .free "all") rfl)
      enumerate := He.free_ok X G (c.fact 69 (f := .free "enumerate") rfl)
      range := He.free_ok X G (c.fact 70 (f := .free "range") rfl)
      min := He.free_ok X G (c.fact 71 (f := .free "min") rfl)
      max := He.free_ok X G (c.fact 72 (f := .free "max") rfl)
      abs := He.free_ok X G (c.fact 73 (f := .free "abs") rfl)
      dict := He.free_ok X G (c.fact 74 (f := .free "dict") rfl)
      list := He.free_ok X G (c.fact 75 (f := .free "list") rfl)
      divmod := He.free_ok X G (c.fact 76 (f := .free "divmod") rfl)
      repr := He.free_ok X G (c.fact 77 (f := .free "repr") rfl) }
  obtain ⟨fd0, F0⟩ := c.def_ 0 (d := BH.d_is_whole) rfl
  have D_is_whole : Df K mg "is_whole" BH.s_is_whole := ⟨_, fd0, F0, He.glo_ok X G (c.fact 0 (f := .glo "is_whole") rfl)⟩
  obtain ⟨fd1, F1⟩ := c.def_ 1 (d := BH.d_is_between) rfl
  have D_is_between : Df K mg "is_between" BH.s_is_between := ⟨_, fd1, F1, He.glo_ok X G (c.fact 1 (f := .glo "is_between") rfl)⟩
  obtain ⟨fd2, F2⟩ := c.def_ 2 (d := BH.d_are_wholes) rfl
  have D_are_wholes : Df K mg "are_wholes" BH.s_are_wholes := ⟨_, fd2, F2, He.glo_ok X G (c.fact 2 (f := .glo "are_wholes") rfl)⟩
  obtain ⟨fd3, F3⟩ := c.def_ 3 (d := BH.d_divisor_of) rfl
  have D_divisor_of : Df K mg "divisor_of" BH.s_divisor_of := ⟨_, fd3, F3, He.glo_ok X G (c.fact 3 (f := .glo "divisor_of") rfl)⟩
  obtain ⟨fd4, F4⟩ := c.def_ 4 (d := BH.d_is_ratio) rfl
  have D_is_ratio : Df K mg "is_ratio" BH.s_is_ratio := ⟨_, fd4, F4, He.glo_ok X G (c.fact 4 (f := .glo "is_ratio") rfl)⟩
  obtain ⟨fd5, F5⟩ := c.def_ 5 (d := BH.d_ratio) rfl
  have D_ratio : Df K mg "ratio" BH.s_ratio := ⟨_, fd5, F5, He.glo_ok X G (c.fact 5 (f := .glo "ratio") rfl)⟩
  obtain ⟨fd6, F6⟩ := c.def_ 6 (d := BH.d_plus) rfl
  have D_plus : Df K mg "plus" BH.s_plus := ⟨_, fd6, F6, He.glo_ok X G (c.fact 6 (f := .glo "plus") rfl)⟩
  obtain ⟨fd7, F7⟩ := c.def_ 7 (d := BH.d_times) rfl
  have D_times : Df K mg "times" BH.s_times := ⟨_, fd7, F7, He.glo_ok X G (c.fact 7 (f := .glo "times") rfl)⟩
  obtain ⟨fd8, F8⟩ := c.def_ 8 (d := BH.d_row_by) rfl
  have D_row_by : Df K mg "row_by" BH.s_row_by := ⟨_, fd8, F8, He.glo_ok X G (c.fact 8 (f := .glo "row_by") rfl)⟩
  obtain ⟨fd9, F9⟩ := c.def_ 9 (d := BH.d_end_of) rfl
  have D_end_of : Df K mg "end_of" BH.s_end_of := ⟨_, fd9, F9, He.glo_ok X G (c.fact 9 (f := .glo "end_of") rfl)⟩
  obtain ⟨fd10, F10⟩ := c.def_ 10 (d := BH.d_at_place) rfl
  have D_at_place : Df K mg "at_place" BH.s_at_place := ⟨_, fd10, F10, He.glo_ok X G (c.fact 10 (f := .glo "at_place") rfl)⟩
  obtain ⟨fd11, F11⟩ := c.def_ 11 (d := BH.d_row_sum) rfl
  have D_row_sum : Df K mg "row_sum" BH.s_row_sum := ⟨_, fd11, F11, He.glo_ok X G (c.fact 11 (f := .glo "row_sum") rfl)⟩
  obtain ⟨fd12, F12⟩ := c.def_ 12 (d := BH.d_row_scaled) rfl
  have D_row_scaled : Df K mg "row_scaled" BH.s_row_scaled := ⟨_, fd12, F12, He.glo_ok X G (c.fact 12 (f := .glo "row_scaled") rfl)⟩
  obtain ⟨fd13, F13⟩ := c.def_ 13 (d := BH.d_row_less) rfl
  have D_row_less : Df K mg "row_less" BH.s_row_less := ⟨_, fd13, F13, He.glo_ok X G (c.fact 13 (f := .glo "row_less") rfl)⟩
  obtain ⟨fd14, F14⟩ := c.def_ 14 (d := BH.d_row_shift) rfl
  have D_row_shift : Df K mg "row_shift" BH.s_row_shift := ⟨_, fd14, F14, He.glo_ok X G (c.fact 14 (f := .glo "row_shift") rfl)⟩
  obtain ⟨fd15, F15⟩ := c.def_ 15 (d := BH.d_row_product) rfl
  have D_row_product : Df K mg "row_product" BH.s_row_product := ⟨_, fd15, F15, He.glo_ok X G (c.fact 15 (f := .glo "row_product") rfl)⟩
  obtain ⟨fd16, F16⟩ := c.def_ 16 (d := BH.d_part_from) rfl
  have D_part_from : Df K mg "part_from" BH.s_part_from := ⟨_, fd16, F16, He.glo_ok X G (c.fact 16 (f := .glo "part_from") rfl)⟩
  obtain ⟨fd17, F17⟩ := c.def_ 17 (d := BH.d_even_of) rfl
  have D_even_of : Df K mg "even_of" BH.s_even_of := ⟨_, fd17, F17, He.glo_ok X G (c.fact 17 (f := .glo "even_of") rfl)⟩
  obtain ⟨fd18, F18⟩ := c.def_ 18 (d := BH.d_odd_of) rfl
  have D_odd_of : Df K mg "odd_of" BH.s_odd_of := ⟨_, fd18, F18, He.glo_ok X G (c.fact 18 (f := .glo "odd_of") rfl)⟩
  obtain ⟨fd19, F19⟩ := c.def_ 19 (d := BH.d_spread_out) rfl
  have D_spread_out : Df K mg "spread_out" BH.s_spread_out := ⟨_, fd19, F19, He.glo_ok X G (c.fact 19 (f := .glo "spread_out") rfl)⟩
  obtain ⟨fd20, F20⟩ := c.def_ 20 (d := BH.d_is_single) rfl
  have D_is_single : Df K mg "is_single" BH.s_is_single := ⟨_, fd20, F20, He.glo_ok X G (c.fact 20 (f := .glo "is_single") rfl)⟩
  obtain ⟨fd21, F21⟩ := c.def_ 21 (d := BH.d_is_laid) rfl
  have D_is_laid : Df K mg "is_laid" BH.s_is_laid := ⟨_, fd21, F21, He.glo_ok X G (c.fact 21 (f := .glo "is_laid") rfl)⟩
  obtain ⟨fd22, F22⟩ := c.def_ 22 (d := BH.d_check_row) rfl
  have D_check_row : Df K mg "check_row" BH.s_check_row := ⟨_, fd22, F22, He.glo_ok X G (c.fact 22 (f := .glo "check_row") rfl)⟩
  obtain ⟨fd23, F23⟩ := c.def_ 23 (d := BH.d_check_factor) rfl
  have D_check_factor : Df K mg "check_factor" BH.s_check_factor := ⟨_, fd23, F23, He.glo_ok X G (c.fact 23 (f := .glo "check_factor") rfl)⟩
  obtain ⟨fd24, F24⟩ := c.def_ 24 (d := BH.d_check_places) rfl
  have D_check_places : Df K mg "check_places" BH.s_check_places := ⟨_, fd24, F24, He.glo_ok X G (c.fact 24 (f := .glo "check_places") rfl)⟩
  obtain ⟨fd25, F25⟩ := c.def_ 25 (d := BH.d_pair_determinant) rfl
  have D_pair_determinant : Df K mg "pair_determinant" BH.s_pair_determinant := ⟨_, fd25, F25, He.glo_ok X G (c.fact 25 (f := .glo "pair_determinant") rfl)⟩
  obtain ⟨fd26, F26⟩ := c.def_ 26 (d := BH.d_are_partners) rfl
  have D_are_partners : Df K mg "are_partners" BH.s_are_partners := ⟨_, fd26, F26, He.glo_ok X G (c.fact 26 (f := .glo "are_partners") rfl)⟩
  obtain ⟨fd27, F27⟩ := c.def_ 27 (d := BH.d_partner_made) rfl
  have D_partner_made : Df K mg "partner_made" BH.s_partner_made := ⟨_, fd27, F27, He.glo_ok X G (c.fact 27 (f := .glo "partner_made") rfl)⟩
  obtain ⟨fd28, F28⟩ := c.def_ 28 (d := BH.d_is_partner) rfl
  have D_is_partner : Df K mg "is_partner" BH.s_is_partner := ⟨_, fd28, F28, He.glo_ok X G (c.fact 28 (f := .glo "is_partner") rfl)⟩
  obtain ⟨fd29, F29⟩ := c.def_ 29 (d := BH.d_partner_by) rfl
  have D_partner_by : Df K mg "partner_by" BH.s_partner_by := ⟨_, fd29, F29, He.glo_ok X G (c.fact 29 (f := .glo "partner_by") rfl)⟩
  obtain ⟨fd30, F30⟩ := c.def_ 30 (d := BH.d__law_well) rfl
  have D__law_well : Df K mg "_law_well" BH.s__law_well := ⟨_, fd30, F30, He.glo_ok X G (c.fact 30 (f := .glo "_law_well") rfl)⟩
  obtain ⟨fd31, F31⟩ := c.def_ 31 (d := BH.d__law_take) rfl
  have D__law_take : Df K mg "_law_take" BH.s__law_take := ⟨_, fd31, F31, He.glo_ok X G (c.fact 31 (f := .glo "_law_take") rfl)⟩
  obtain ⟨fd32, F32⟩ := c.def_ 32 (d := BH.d__law_pick) rfl
  have D__law_pick : Df K mg "_law_pick" BH.s__law_pick := ⟨_, fd32, F32, He.glo_ok X G (c.fact 32 (f := .glo "_law_pick") rfl)⟩
  obtain ⟨fd33, F33⟩ := c.def_ 33 (d := BH.d__law_rounds) rfl
  have D__law_rounds : Df K mg "_law_rounds" BH.s__law_rounds := ⟨_, fd33, F33, He.glo_ok X G (c.fact 33 (f := .glo "_law_rounds") rfl)⟩
  obtain ⟨fd34, F34⟩ := c.def_ 34 (d := BH.d__law_common) rfl
  have D__law_common : Df K mg "_law_common" BH.s__law_common := ⟨_, fd34, F34, He.glo_ok X G (c.fact 34 (f := .glo "_law_common") rfl)⟩
  obtain ⟨fd35, F35⟩ := c.def_ 35 (d := BH.d__law_ratio) rfl
  have D__law_ratio : Df K mg "_law_ratio" BH.s__law_ratio := ⟨_, fd35, F35, He.glo_ok X G (c.fact 35 (f := .glo "_law_ratio") rfl)⟩
  obtain ⟨fd36, F36⟩ := c.def_ 36 (d := BH.d__law_sum) rfl
  have D__law_sum : Df K mg "_law_sum" BH.s__law_sum := ⟨_, fd36, F36, He.glo_ok X G (c.fact 36 (f := .glo "_law_sum") rfl)⟩
  obtain ⟨fd37, F37⟩ := c.def_ 37 (d := BH.d__law_product) rfl
  have D__law_product : Df K mg "_law_product" BH.s__law_product := ⟨_, fd37, F37, He.glo_ok X G (c.fact 37 (f := .glo "_law_product") rfl)⟩
  obtain ⟨fd38, F38⟩ := c.def_ 38 (d := BH.d__law_over) rfl
  have D__law_over : Df K mg "_law_over" BH.s__law_over := ⟨_, fd38, F38, He.glo_ok X G (c.fact 38 (f := .glo "_law_over") rfl)⟩
  obtain ⟨fd39, F39⟩ := c.def_ 39 (d := BH.d__law_cleared) rfl
  have D__law_cleared : Df K mg "_law_cleared" BH.s__law_cleared := ⟨_, fd39, F39, He.glo_ok X G (c.fact 39 (f := .glo "_law_cleared") rfl)⟩
  obtain ⟨fd40, F40⟩ := c.def_ 40 (d := BH.d__law_line) rfl
  have D__law_line : Df K mg "_law_line" BH.s__law_line := ⟨_, fd40, F40, He.glo_ok X G (c.fact 40 (f := .glo "_law_line") rfl)⟩
  obtain ⟨fd41, F41⟩ := c.def_ 41 (d := BH.d__law_plus) rfl
  have D__law_plus : Df K mg "_law_plus" BH.s__law_plus := ⟨_, fd41, F41, He.glo_ok X G (c.fact 41 (f := .glo "_law_plus") rfl)⟩
  obtain ⟨fd42, F42⟩ := c.def_ 42 (d := BH.d__law_times) rfl
  have D__law_times : Df K mg "_law_times" BH.s__law_times := ⟨_, fd42, F42, He.glo_ok X G (c.fact 42 (f := .glo "_law_times") rfl)⟩
  obtain ⟨fd43, F43⟩ := c.def_ 43 (d := BH.d__law_scaled) rfl
  have D__law_scaled : Df K mg "_law_scaled" BH.s__law_scaled := ⟨_, fd43, F43, He.glo_ok X G (c.fact 43 (f := .glo "_law_scaled") rfl)⟩
  obtain ⟨fd44, F44⟩ := c.def_ 44 (d := BH.d__law_later) rfl
  have D__law_later : Df K mg "_law_later" BH.s__law_later := ⟨_, fd44, F44, He.glo_ok X G (c.fact 44 (f := .glo "_law_later") rfl)⟩
  obtain ⟨fd45, F45⟩ := c.def_ 45 (d := BH.d__law_spread) rfl
  have D__law_spread : Df K mg "_law_spread" BH.s__law_spread := ⟨_, fd45, F45, He.glo_ok X G (c.fact 45 (f := .glo "_law_spread") rfl)⟩
  obtain ⟨fd46, F46⟩ := c.def_ 46 (d := BH.d__law_part) rfl
  have D__law_part : Df K mg "_law_part" BH.s__law_part := ⟨_, fd46, F46, He.glo_ok X G (c.fact 46 (f := .glo "_law_part") rfl)⟩
  obtain ⟨fd47, F47⟩ := c.def_ 47 (d := BH.d__law_pair) rfl
  have D__law_pair : Df K mg "_law_pair" BH.s__law_pair := ⟨_, fd47, F47, He.glo_ok X G (c.fact 47 (f := .glo "_law_pair") rfl)⟩
  obtain ⟨fd48, F48⟩ := c.def_ 48 (d := BH.d__law_lines) rfl
  have D__law_lines : Df K mg "_law_lines" BH.s__law_lines := ⟨_, fd48, F48, He.glo_ok X G (c.fact 48 (f := .glo "_law_lines") rfl)⟩
  obtain ⟨fd49, F49⟩ := c.def_ 49 (d := BH.d__law_fits) rfl
  have D__law_fits : Df K mg "_law_fits" BH.s__law_fits := ⟨_, fd49, F49, He.glo_ok X G (c.fact 49 (f := .glo "_law_fits") rfl)⟩
  obtain ⟨fd50, F50⟩ := c.def_ 50 (d := BH.d__law_number) rfl
  have D__law_number : Df K mg "_law_number" BH.s__law_number := ⟨_, fd50, F50, He.glo_ok X G (c.fact 50 (f := .glo "_law_number") rfl)⟩
  obtain ⟨fd51, F51⟩ := c.def_ 51 (d := BH.d__law_near) rfl
  have D__law_near : Df K mg "_law_near" BH.s__law_near := ⟨_, fd51, F51, He.glo_ok X G (c.fact 51 (f := .glo "_law_near") rfl)⟩
  obtain ⟨fd52, F52⟩ := c.def_ 52 (d := BH.d__law_steps) rfl
  have D__law_steps : Df K mg "_law_steps" BH.s__law_steps := ⟨_, fd52, F52, He.glo_ok X G (c.fact 52 (f := .glo "_law_steps") rfl)⟩
  obtain ⟨fd53, F53⟩ := c.def_ 53 (d := BH.d__law_scale) rfl
  have D__law_scale : Df K mg "_law_scale" BH.s__law_scale := ⟨_, fd53, F53, He.glo_ok X G (c.fact 53 (f := .glo "_law_scale") rfl)⟩
  obtain ⟨fd54, F54⟩ := c.def_ 54 (d := BH.d__law_led) rfl
  have D__law_led : Df K mg "_law_led" BH.s__law_led := ⟨_, fd54, F54, He.glo_ok X G (c.fact 54 (f := .glo "_law_led") rfl)⟩
  obtain ⟨fd55, F55⟩ := c.def_ 55 (d := BH.d__law_of_ladder) rfl
  have D__law_of_ladder : Df K mg "_law_of_ladder" BH.s__law_of_ladder := ⟨_, fd55, F55, He.glo_ok X G (c.fact 55 (f := .glo "_law_of_ladder") rfl)⟩
  obtain ⟨fd56, F56⟩ := c.def_ 56 (d := BH.d__law_lossless) rfl
  have D__law_lossless : Df K mg "_law_lossless" BH.s__law_lossless := ⟨_, fd56, F56, He.glo_ok X G (c.fact 56 (f := .glo "_law_lossless") rfl)⟩
  obtain ⟨fd57, F57⟩ := c.def_ 57 (d := BH.d__law_partner_made) rfl
  have D__law_partner_made : Df K mg "_law_partner_made" BH.s__law_partner_made := ⟨_, fd57, F57, He.glo_ok X G (c.fact 57 (f := .glo "_law_partner_made") rfl)⟩
  obtain ⟨fd58, F58⟩ := c.def_ 58 (d := BH.d__law_right) rfl
  have D__law_right : Df K mg "_law_right" BH.s__law_right := ⟨_, fd58, F58, He.glo_ok X G (c.fact 58 (f := .glo "_law_right") rfl)⟩
  obtain ⟨fd59, F59⟩ := c.def_ 59 (d := BH.d_law) rfl
  have D_law : Df K mg "law" BH.s_law := ⟨_, fd59, F59, He.glo_ok X G (c.fact 59 (f := .glo "law") rfl)⟩
  have c_is_whole : Cl P w K mg base 1 "is_whole" ["value"] (sp_is_whole K) := w_is_whole T D_is_whole
  have c_divisor_of : Cl P w K mg base 1 "divisor_of" ["numbers"] (sp_divisor_of K) := w_divisor_of T D_divisor_of
  have c_row_by : Cl P w K mg base 1 "row_by" ["start", "numbers"] (sp_row_by K) := w_row_by T D_row_by
  have c_end_of : Cl P w K mg base 1 "end_of" ["row"] (sp_end_of K) := w_end_of T D_end_of
  have c_row_shift : Cl P w K mg base 1 "row_shift" ["row", "places"] (sp_row_shift K) := w_row_shift T D_row_shift
  have c_is_single : Cl P w K mg base 1 "is_single" ["row"] (sp_is_single K) := w_is_single T D_is_single
  have c__law_well : Cl P w K mg base 1 "_law_well" ["_law_script", "_law_turn"] (sp__law_well K) := w__law_well T D__law_well
  have c__law_take : Cl P w K mg base 1 "_law_take" ["_law_well_here", "_law_count"] (sp__law_take K) := w__law_take T D__law_take
  have c__law_rounds : Cl P w K mg base 1 "_law_rounds" ["_law_script"] (sp__law_rounds K) := w__law_rounds T D__law_rounds
  have c__law_common : Cl P w K mg base 1 "_law_common" ["_law_one", "_law_two"] (sp__law_common K) := w__law_common T D__law_common
  have c__law_cleared : Cl P w K mg base 1 "_law_cleared" ["_law_lot"] (sp__law_cleared K) := w__law_cleared T D__law_cleared
  have c__law_line : Cl P w K mg base 1 "_law_line" ["_law_lot"] (sp__law_line K) := w__law_line T D__law_line
  have c__law_later : Cl P w K mg base 1 "_law_later" ["_law_lot", "_law_by"] (sp__law_later K) := w__law_later T D__law_later
  have c__law_spread : Cl P w K mg base 1 "_law_spread" ["_law_lot"] (sp__law_spread K) := w__law_spread T D__law_spread
  have c__law_part : Cl P w K mg base 1 "_law_part" ["_law_lot", "_law_odd"] (sp__law_part K) := w__law_part T D__law_part
  have c__law_fits : Cl P w K mg base 1 "_law_fits" ["_law_pair_here"] (sp__law_fits K) := w__law_fits T D__law_fits
  have c_is_between : Cl P w K mg base 2 "is_between" ["value", "low", "high"] (sp_is_between K) := w_is_between T D_is_between c_is_whole
  have c_are_wholes : Cl P w K mg base 2 "are_wholes" ["value", "many"] (sp_are_wholes K) := w_are_wholes T D_are_wholes c_is_whole
  have c_ratio : Cl P w K mg base 2 "ratio" ["top", "low"] (sp_ratio K) := w_ratio T D_ratio c_divisor_of
  have c_at_place : Cl P w K mg base 2 "at_place" ["row", "place"] (sp_at_place K) := w_at_place T D_at_place c_end_of
  have c_spread_out : Cl P w K mg base 2 "spread_out" ["row"] (sp_spread_out K) := w_spread_out T D_spread_out c_row_by
  have c__law_pick : Cl P w K mg base 2 "_law_pick" ["_law_well_here", "_law_some"] (sp__law_pick K) := w__law_pick T D__law_pick c__law_take
  have c__law_ratio : Cl P w K mg base 2 "_law_ratio" ["_law_n", "_law_m"] (sp__law_ratio K) := w__law_ratio T D__law_ratio c__law_common
  have c__law_lines : Cl P w K mg base 2 "_law_lines" ["_law_pair_here"] (sp__law_lines K) := w__law_lines T D__law_lines c__law_line
  have c_is_ratio : Cl P w K mg base 3 "is_ratio" ["value"] (sp_is_ratio K) := w_is_ratio T D_is_ratio c_are_wholes c_divisor_of
  have c_plus : Cl P w K mg base 3 "plus" ["one", "two"] (sp_plus K) := w_plus T D_plus c_ratio
  have c_times : Cl P w K mg base 3 "times" ["one", "two"] (sp_times K) := w_times T D_times c_ratio
  have c_part_from : Cl P w K mg base 3 "part_from" ["row", "first"] (sp_part_from K) := w_part_from T D_part_from c_at_place c_end_of c_row_by
  have c_check_places : Cl P w K mg base 3 "check_places" ["value"] (sp_check_places K) := w_check_places T D_check_places c_is_between
  have c__law_sum : Cl P w K mg base 3 "_law_sum" ["_law_a", "_law_b"] (sp__law_sum K) := w__law_sum T D__law_sum c__law_ratio
  have c__law_product : Cl P w K mg base 3 "_law_product" ["_law_a", "_law_b"] (sp__law_product K) := w__law_product T D__law_product c__law_ratio
  have c__law_over : Cl P w K mg base 3 "_law_over" ["_law_a", "_law_b"] (sp__law_over K) := w__law_over T D__law_over c__law_ratio
  have c__law_number : Cl P w K mg base 3 "_law_number" ["_law_well_here"] (sp__law_number K) := w__law_number T D__law_number c__law_pick c__law_ratio c__law_take
  have c_row_sum : Cl P w K mg base 4 "row_sum" ["one", "two"] (sp_row_sum K) := w_row_sum T D_row_sum c_at_place c_end_of c_plus c_row_by
  have c_row_scaled : Cl P w K mg base 4 "row_scaled" ["row", "number"] (sp_row_scaled K) := w_row_scaled T D_row_scaled c_row_by c_times
  have c_row_product : Cl P w K mg base 4 "row_product" ["one", "two"] (sp_row_product K) := w_row_product T D_row_product c_plus c_row_by c_times
  have c_even_of : Cl P w K mg base 4 "even_of" ["row"] (sp_even_of K) := w_even_of T D_even_of c_part_from
  have c_odd_of : Cl P w K mg base 4 "odd_of" ["row"] (sp_odd_of K) := w_odd_of T D_odd_of c_part_from
  have c_is_laid : Cl P w K mg base 4 "is_laid" ["value"] (sp_is_laid K) := w_is_laid T D_is_laid c_is_ratio c_is_whole
  have c_check_factor : Cl P w K mg base 4 "check_factor" ["value"] (sp_check_factor K) := w_check_factor T D_check_factor c_is_ratio
  have c__law_plus : Cl P w K mg base 4 "_law_plus" ["_law_one", "_law_two"] (sp__law_plus K) := w__law_plus T D__law_plus c__law_cleared c__law_sum
  have c__law_times : Cl P w K mg base 4 "_law_times" ["_law_one", "_law_two"] (sp__law_times K) := w__law_times T D__law_times c__law_cleared c__law_product c__law_sum
  have c__law_scaled : Cl P w K mg base 4 "_law_scaled" ["_law_lot", "_law_by"] (sp__law_scaled K) := w__law_scaled T D__law_scaled c__law_cleared c__law_product
  have c__law_near : Cl P w K mg base 4 "_law_near" ["_law_well_here", "_law_most"] (sp__law_near K) := w__law_near T D__law_near c__law_number c__law_take
  have c__law_steps : Cl P w K mg base 4 "_law_steps" ["_law_well_here", "_law_most"] (sp__law_steps K) := w__law_steps T D__law_steps c__law_number c__law_pick c__law_take
  have c__law_scale : Cl P w K mg base 4 "_law_scale" ["_law_well_here"] (sp__law_scale K) := w__law_scale T D__law_scale c__law_number c__law_pick
  have c_row_less : Cl P w K mg base 5 "row_less" ["one", "two"] (sp_row_less K) := w_row_less T D_row_less c_row_scaled c_row_sum
  have c_check_row : Cl P w K mg base 5 "check_row" ["value"] (sp_check_row K) := w_check_row T D_check_row c_is_laid
  have c_partner_made : Cl P w K mg base 5 "partner_made" ["row", "other", "factor", "places", "step"] (sp_partner_made K) := w_partner_made T D_partner_made c_row_product c_row_scaled c_row_shift c_row_sum c_spread_out
  have c__law_pair : Cl P w K mg base 5 "_law_pair" ["_law_table"] (sp__law_pair K) := w__law_pair T D__law_pair c__law_later c__law_plus c__law_spread
  have c__law_led : Cl P w K mg base 5 "_law_led" ["_law_steps_here", "_law_scale_here", "_law_lot"] (sp__law_led K) := w__law_led T D__law_led c__law_later c__law_part c__law_plus c__law_scaled c__law_times
  have c__law_partner_made : Cl P w K mg base 5 "_law_partner_made" ["_law_lot", "_law_two", "_law_number_here", "_law_by", "_law_third_lot"] (sp__law_partner_made K) := w__law_partner_made T D__law_partner_made c__law_later c__law_plus c__law_scaled c__law_spread c__law_times
  have c_pair_determinant : Cl P w K mg base 6 "pair_determinant" ["row", "other"] (sp_pair_determinant K) := w_pair_determinant T D_pair_determinant c_even_of c_odd_of c_row_less c_row_product
  have c__law_of_ladder : Cl P w K mg base 6 "_law_of_ladder" ["_law_steps_here", "_law_scale_here"] (sp__law_of_ladder K) := w__law_of_ladder T D__law_of_ladder c__law_led c__law_pair
  have c_are_partners : Cl P w K mg base 7 "are_partners" ["row", "other"] (sp_are_partners K) := w_are_partners T D_are_partners c_is_single c_pair_determinant
  have c__law_lossless : Cl P w K mg base 7 "_law_lossless" ["_law_well_here", "_law_most"] (sp__law_lossless K) := w__law_lossless T D__law_lossless c__law_fits c__law_of_ladder c__law_scale c__law_steps
  have c_is_partner : Cl P w K mg base 8 "is_partner" ["row", "other"] (sp_is_partner K) := w_is_partner T D_is_partner c_are_partners c_check_row
  have c_partner_by : Cl P w K mg base 8 "partner_by" ["row", "other", "factor", "places", "step"] (sp_partner_by K) := w_partner_by T D_partner_by c_are_partners c_check_factor c_check_places c_check_row c_partner_made
  have k_partner_by : ClK P w K mg base 8 "partner_by" ["row", "other", "factor", "places", "step"] (sp_partner_by K) := wk_partner_by T D_partner_by c_are_partners c_check_factor c_check_places c_check_row c_partner_made
  have c__law_right : ClG P w K mg base 9 "_law_right" ["_law_well_here"] (sp__law_right K) := w__law_right T D__law_right k_partner_by c__law_later c__law_line c__law_lines c__law_lossless c__law_near c__law_number c__law_over c__law_partner_made c__law_pick c__law_scaled c__law_take c_is_partner c_partner_by
  have c_law : ClG P w K mg base 10 "law" ["_law_script"] (sp_law K) := w_law T D_law c__law_right c__law_rounds c__law_well
  exact c_law
/-! ### the law's call, from the heap behind the top -/
section
variable {P : Program} {w : World} {K : PySem.W.Frag} {mg mb : Str → Option Value} {s₁ : Shared} {vs : List Value} {ns : List Int} {a fa : Addr}
/-- the script alone is tracked, and only if the module does not hold it -/
noncomputable def scriptH (K : PySem.W.Frag) (a : Addr) (ob : Obj) (ns : List Int) : Hp := fun b => if b = a ∧ K.lookup a = none then some (.frz ob (.lst (ns.map V.int))) else none
theorem scriptH_some {ob : Obj} {b : Addr} {u : HO} (h : scriptH K a ob ns b = some u) : b = a ∧ K.lookup a = none ∧ u = .frz ob (.lst (ns.map V.int)) := by
  unfold scriptH at h
  split at h
  · rename_i z
    exact ⟨z.1, z.2, (Option.some.inj h).symm⟩
  · cases h
theorem law_goes {k : Nat} {x y : Str} {sp : Sp} (KX : K.In s₁.heap) (hns : s₁.heap.Ns mainGlobals mg) (hb : s₁.heap.Ns builtinsNs mb) (hbb : ∀ x : Str, x ≠ "__name__" → mb x = bootBuiltins x) (hlim : s₁.heap.NoLimit) (hg : s₁.gens = #[])
    (ha : s₁.heap.get? a = some { cls := .type "list", data := .seq vs.toArray }) (hi : IntsAre vs ns) (hl : ns.length ≤ sizeLine) (hr : Room k callerA) (F : ∀ base : Heap, ClG P w K mg base k y [x] sp) (hmy : mg y = some (.ref fa))
    (hsp : ∀ H : Hp, SqL K H a (ns.map V.int) → sp [.ref a] H (fun v _ => v = .bl true) fun _ _ _ => False) :
    codeAny (model P w) callerA (.call (.ref fa) ⟨[.ref a], []⟩) (fun r s' => r = .ok (.ret (.bool true)) ∧ OldK s₁.heap s'.heap ∧ s'.os = s₁.os ∧ AllBare s'.gens) s₁ := by
  have rv : Vals (ns.map V.int) vs := vals_ints hi
  have stays : ∀ {b : Addr} {o : Obj}, s₁.heap.get? b = some o → (b = a → K.lookup a ≠ none) → (hidT s₁.heap (scriptH K a { cls := .type "list", data := .seq vs.toArray } ns)).get? b = some o := fun {b o} hbo hne => by
    refine hidT_get hbo ?_
    cases q : scriptH K a { cls := .type "list", data := .seq vs.toArray } ns b with
    | none => rfl
    | some u =>
      obtain ⟨z1, z2, _⟩ := scriptH_some q
      exact absurd z2 (hne z1)
  have dict_ne : ∀ {b : Addr} {o : Obj} {es : Array DictEntry} {ep : Nat}, s₁.heap.get? b = some o → o.data = .dict es ep → b ≠ a := fun {b o es ep} h1 h2 z => by
    rw [z, ha] at h1
    cases h1
    cases (show Data.seq vs.toArray _ = Data.dict es ep from h2)
  have ns_st : ∀ {b : Addr} {m : Str → Option Value}, s₁.heap.Ns b m → (hidT s₁.heap (scriptH K a { cls := .type "list", data := .seq vs.toArray } ns)).Ns b m :=
    fun {b m} ⟨o, es, ep, h1, h2, h3⟩ => ⟨o, es, ep, stays h1 fun z => absurd z (dict_ne h1 h2), h2, h3⟩
  have kin : K.In (hidT s₁.heap (scriptH K a { cls := .type "list", data := .seq vs.toArray } ns)) := fun b o h1 => stays (KX b o h1) fun z => by
    rw [← z, h1]
    exact fun q => by cases q
  have hok : HOk P w (scriptH K a { cls := .type "list", data := .seq vs.toArray } ns) s₁.heap := fun b u h1 => by
    obtain ⟨rfl, _, rfl⟩ := scriptH_some h1
    exact ⟨ha, by rw [List.length_map]; exact hl, vs, _, rv, ha⟩
  have sq : SqL K (scriptH K a { cls := .type "list", data := .seq vs.toArray } ns) a (ns.map V.int) := by
    cases q : K.lookup a with
    | none => exact .inl (.inr ⟨_, if_pos ⟨rfl, q⟩⟩)
    | some o =>
      have h1 := KX a o q
      rw [ha] at h1
      cases h1
      exact .inr ⟨_, vs.toArray, _, q, rfl, rfl, rfl, by rw [List.size_toArray, hi.length]; exact hl, by simpa using rv⟩
  have env : Env0 P w K mg (hidT s₁.heap (scriptH K a { cls := .type "list", data := .seq vs.toArray } ns)) callerA [] s₁ (scriptH K a { cls := .type "list", data := .seq vs.toArray } ns) :=
    { frames := rfl
      mod := ⟨kin, ns_st hns, ⟨mb, ns_st hb, hbb⟩, hlim.imp fun mc q => ⟨ns_st q.1, q.2⟩⟩
      bs := fun b o q => of_hidT q
      bsz := Nat.le_of_eq (hidT_size _ _)
      funs := trivial
      frf := fun b q => absurd (show b ∈ ([] : List Addr) from q) (by simp)
      hok := hok
      bare := .of_eq hg }
  obtain ⟨f, fd, FG, hm, _, b⟩ := (F (hidT s₁.heap (scriptH K a { cls := .type "list", data := .seq vs.toArray } ns))).ex
  obtain rfl : f = fa := Value.ref.inj (Option.some.inj (hm.symm.trans hmy))
  refine codeAny_mono (FG.go callerA [] s₁ _ [.ref a] [.ref a] _ _ rfl hr env (.cons rfl .nil) (hsp _ sq) (b s₁ [.ref a] KX rfl)) fun r s' q => ?_
  match r, q with
  | .error _, q => exact q.elim
  | .ok .next, q => exact q.elim
  | .ok .brk, q => exact q.elim
  | .ok .cont, q => exact q.elim
  | .ok (.ret u), ⟨v, H', os, bare, un, hok', rv', qv⟩ =>
    obtain rfl : v = .bl true := qv
    obtain rfl : u = Value.bool true := rv'
    refine ⟨rfl, OldK.of_keep fun b o hbo => ?_, os, bare⟩
    cases z : scriptH K a { cls := .type "list", data := .seq vs.toArray } ns b with
    | none => exact un.keep b o hbo z (fun y => absurd (show b ∈ ([] : List Addr) from y) (by simp)) (by simp)
    | some u =>
      obtain ⟨_, _, rfl⟩ := scriptH_some z
      have k1 := (hok b _ z).1
      have k2 := (hok' b _ (un.frzs b _ _ z)).1
      rw [hbo] at k1
      cases k1
      exact k2
end
end BW
open PySem PySem.W PySem.Calls PyProof.Rows
theorem PySem.Challenge.cw_bandsplits_k60_whole_all_partners_made_holds : PySem.Challenge.rw_bandsplits_k60_whole_all_partners_made.Holds := by
  w_on; o_law
  refine HandSHeadRun.head_imp (r := OpenLaw.row PySem.Challenge.rw_bandsplits_k60_whole_all_partners_made) (q := view (OpenLaw.row PySem.Challenge.rw_bandsplits_k60_whole_all_partners_made).prog [0, BH.lawAt]) (H := BH.hk) (ob := BH.ob) (M := 4200) (loose := BH.nm) (d := HandSHeadRun.topDef (OpenLaw.row PySem.Challenge.rw_bandsplits_k60_whole_all_partners_made).prog BH.lawAt) (kwd := []) BH.ob_eq
    BH.run (by kernel_rfl) (by kernel_rfl) (by rfl) (by first | assumption | decide +kernel) (by decide +kernel) (by kernel_rfl) ⟨rfl, rfl, rfl, rfl, rfl, by decide +kernel⟩ ?hw ?hc
  case hw => w_witness2
  case hc =>
    refine Att.attach_call (l := PySem.Challenge.rw_bandsplits_k60_whole_all_partners_made) (n := 63) rfl (by kernel_rfl) fun w s₀ s₁ mg mb fa o pm cd doc a vs ns G Y ho hd hcd hmg0 hobj hints hlen hg => ?_
    obtain ⟨K, KX, c, ce⟩ := Y
    have hmg : mg ("law" : PySem.Str) = some (.ref fa) := by
      have e : (HandSHeadRun.topDef (OpenLaw.row PySem.Challenge.rw_bandsplits_k60_whole_all_partners_made).prog BH.lawAt).name = ("law" : PySem.Str) := by kernel_rfl
      rw [← e]
      exact hmg0
    exact BW.law_goes (k := 10) KX G.T.g G.T.b G.T.builtins G.T.nolimit hg hobj hints (Nat.le_trans hlen (by decide)) ⟨rfl, by decide, by decide⟩ (fun base => BW.all_ok KX G.T.g c ce base) hmg fun H hS => ⟨.ref a, rfl, a, ns, rfl, hS, fun _ => rfl⟩
