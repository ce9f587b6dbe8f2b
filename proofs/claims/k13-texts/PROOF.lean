import PyProof.Rows.All
import Wide.All
import OpenK.AllK
import Wide.FinOn
import HandS.ForMost
import HandS.ForExc
import HandS.IsInst
import HandS.Wide
import HandS.Deep
import HandS.Style
import HandS.CallSlots
import HandS.Codes
import HandS.Conv
import HandS.SortKw
import HandS.TryOnly
import HandS.Remove
import HandS.ExcOwn
import HandS.ExcIs
import HandS.Exc
import HandS.Lambda
import HandS.Ends
import HandS.Words
import HandS.WordsExc
import PyProof.ReprReads
import PyProof.ReprRoads
import KE.GoesComp
import KE.GoesRaise
import HandS.RaiseFrom
import HandS.SuiteRaise
import HandS.StrMore
import HandS.Iter
import PyProof.StrOps2
import PyProof.FitsStr
import HandS.Text
import PyProof.Rows.StrCut
import KE.IntTextLaws
import PySem.Challenge.RW_unseen_k13_texts
set_option Elab.async false
set_option linter.all false
set_option maxRecDepth 100000
set_option maxHeartbeats 8000000
namespace UU
/-! ### parity: sums over all subsets, taking one out, putting one in -/
def XS : Nat → (List Bool → Bool) → Bool
  | 0, F => F []
  | n + 1, F => XS n (fun l => F (true :: l)) ^^ XS n (fun l => F (false :: l))
def outS (g : List Bool → Bool) : List Bool → Bool
  | [] => false
  | b :: l => (b && g (false :: l)) ^^ outS (fun l' => g (b :: l')) l
def inS (h : List Bool → Bool) : List Bool → Bool
  | [] => false
  | b :: l => (!b && h (true :: l)) ^^ inS (fun l' => h (b :: l')) l
theorem XS_congr {F G : List Bool → Bool} : ∀ {n : Nat}, (∀ l, l.length = n → F l = G l) → XS n F = XS n G
  | 0, h => h [] rfl
  | n + 1, h => by
    show (_ ^^ _) = (_ ^^ _)
    rw [XS_congr (G := fun l => G (true :: l)) fun l hl => h (true :: l) (by rw [List.length_cons, hl]), XS_congr (F := fun l => F (false :: l)) (G := fun l => G (false :: l)) fun l hl => h (false :: l) (by rw [List.length_cons, hl])]
theorem XS_xor (F G : List Bool → Bool) : ∀ n : Nat, XS n (fun l => F l ^^ G l) = (XS n F ^^ XS n G)
  | 0 => rfl
  | n + 1 => by
    show (XS n (fun l => F (true :: l) ^^ G (true :: l)) ^^ XS n (fun l => F (false :: l) ^^ G (false :: l))) = ((_ ^^ _) ^^ (_ ^^ _))
    rw [XS_xor (fun l => F (true :: l)), XS_xor (fun l => F (false :: l))]
    cases XS n (fun l => F (true :: l)) <;> cases XS n (fun l => F (false :: l)) <;> cases XS n (fun l => G (true :: l)) <;> cases XS n (fun l => G (false :: l)) <;> rfl
theorem adjoint : ∀ (n : Nat) (g h : List Bool → Bool), XS n (fun l => outS g l && h l) = XS n (fun l => g l && inS h l)
  | 0, g, h => by show (false && h []) = (g [] && false); rw [Bool.and_false, Bool.false_and]
  | n + 1, g, h => by
    have a := adjoint n (fun l => g (true :: l)) (fun l => h (true :: l))
    have b := adjoint n (fun l => g (false :: l)) (fun l => h (false :: l))
    have e1 : XS n (fun l => outS g (true :: l) && h (true :: l)) = (XS n (fun l => g (false :: l) && h (true :: l)) ^^ XS n (fun l => outS (fun l => g (true :: l)) l && h (true :: l))) := by
      rw [← XS_xor]
      refine XS_congr fun l _ => ?_
      show ((true && g (false :: l) ^^ outS (fun l' => g (true :: l')) l) && h (true :: l)) = _
      cases g (false :: l) <;> cases h (true :: l) <;> cases outS (fun l' => g (true :: l')) l <;> rfl
    have e2 : XS n (fun l => outS g (false :: l) && h (false :: l)) = XS n (fun l => outS (fun l => g (false :: l)) l && h (false :: l)) := XS_congr fun l _ => by
      show ((false && g (false :: l) ^^ outS (fun l' => g (false :: l')) l) && h (false :: l)) = _
      rw [Bool.false_and, Bool.false_xor]
    have e3 : XS n (fun l => g (true :: l) && inS h (true :: l)) = XS n (fun l => g (true :: l) && inS (fun l => h (true :: l)) l) := XS_congr fun l _ => by
      show (g (true :: l) && ((!true && h (true :: l)) ^^ inS (fun l' => h (true :: l')) l)) = _
      rw [Bool.not_true, Bool.false_and, Bool.false_xor]
    have e4 : XS n (fun l => g (false :: l) && inS h (false :: l)) = (XS n (fun l => g (false :: l) && h (true :: l)) ^^ XS n (fun l => g (false :: l) && inS (fun l => h (false :: l)) l)) := by
      rw [← XS_xor]
      refine XS_congr fun l _ => ?_
      show (g (false :: l) && ((!false && h (true :: l)) ^^ inS (fun l' => h (false :: l')) l)) = _
      cases g (false :: l) <;> cases h (true :: l) <;> cases inS (fun l' => h (false :: l')) l <;> rfl
    show (XS n (fun l => outS g (true :: l) && h (true :: l)) ^^ XS n (fun l => outS g (false :: l) && h (false :: l))) = (XS n (fun l => g (true :: l) && inS h (true :: l)) ^^ XS n (fun l => g (false :: l) && inS h (false :: l)))
    rw [e1, e2, e3, e4, a, b]
    generalize XS n (fun l => g (false :: l) && h (true :: l)) = p
    generalize XS n (fun l => g (true :: l) && inS (fun l => h (true :: l)) l) = q
    generalize XS n (fun l => g (false :: l) && inS (fun l => h (false :: l)) l) = r
    cases p <;> cases q <;> cases r <;> rfl
/-- taking out gives nothing of the one, putting in nothing of the other: together even -/
theorem even_pairs {n : Nat} {f h : List Bool → Bool} (hf : ∀ l, l.length = n + 1 → outS f l = false) (hh : ∀ l, l.length = n + 1 → inS h l = false) : XS (n + 1) (fun l => f l && h l) = false := by
  have e0 : ∀ l, l.length = n → f (false :: l) = outS (fun l => f (true :: l)) l := fun l hl => by
    have : (true && f (false :: l) ^^ outS (fun l' => f (true :: l')) l) = false := hf (true :: l) (by rw [List.length_cons, hl])
    rw [Bool.true_and] at this
    revert this
    cases f (false :: l) <;> cases outS (fun l' => f (true :: l')) l <;> decide
  have e1 : ∀ l, l.length = n → h (true :: l) = inS (fun l => h (false :: l)) l := fun l hl => by
    have : ((!false && h (true :: l)) ^^ inS (fun l' => h (false :: l')) l) = false := hh (false :: l) (by rw [List.length_cons, hl])
    rw [Bool.not_false, Bool.true_and] at this
    revert this
    cases h (true :: l) <;> cases inS (fun l' => h (false :: l')) l <;> decide
  show (XS n (fun l => f (true :: l) && h (true :: l)) ^^ XS n (fun l => f (false :: l) && h (false :: l))) = false
  rw [XS_congr (G := fun l => (fun l => f (true :: l)) l && inS (fun l => h (false :: l)) l) fun l hl => by rw [e1 l hl], XS_congr (F := fun l => f (false :: l) && h (false :: l)) (G := fun l => outS (fun l => f (true :: l)) l && (fun l => h (false :: l)) l) fun l hl => by rw [e0 l hl], adjoint]
  exact Bool.xor_self _
theorem XS_one {G : List Bool → Bool} : ∀ {n : Nat} {l0 : List Bool}, l0.length = n → G l0 = true → (∀ l, l.length = n → l ≠ l0 → G l = false) → XS n G = true
  | 0, l0, h, h0, _ => by
    rw [List.eq_nil_of_length_eq_zero h] at h0
    exact h0
  | n + 1, [], h, _, _ => by cases h
  | n + 1, b :: l0, h, h0, ho => by
    have hl : l0.length = n := by simpa using h
    have zero : ∀ c, c ≠ b → XS n (fun l => G (c :: l)) = false := fun c hc => by
      rw [XS_congr (G := fun _ => false) fun l hl' => ho (c :: l) (by rw [List.length_cons, hl']) fun z => hc (List.cons.inj z).1]
      clear ho h0 h hl
      induction n with
      | zero => rfl
      | succ n ih => show (XS n (fun _ => false) ^^ XS n (fun _ => false)) = false; rw [Bool.xor_self]
    have one : XS n (fun l => G (b :: l)) = true := XS_one hl h0 fun l hl' ne => ho (b :: l) (by rw [List.length_cons, hl']) fun z => ne (List.cons.inj z).2
    show (XS n (fun l => G (true :: l)) ^^ XS n (fun l => G (false :: l))) = true
    cases b with
    | true => rw [one, zero false (by decide)]; rfl
    | false => rw [one, zero true (by decide)]; rfl
theorem in_out (f : List Bool → Bool) : ∀ l : List Bool, inS (fun l => f (l.map (!·))) l = outS f (l.map (!·))
  | [] => rfl
  | b :: l => by
    show ((!b && f ((true :: l).map (!·))) ^^ inS (fun l' => f ((b :: l').map (!·))) l) = ((!b && f (false :: l.map (!·))) ^^ outS (fun l' => f ((!b) :: l')) (l.map (!·)))
    rw [← in_out (fun l' => f ((!b) :: l')) l]
    rfl
/-- the chosen ones -/
def selL {α : Type} : List α → List Bool → List α
  | c :: cs, true :: l => c :: selL cs l
  | _ :: cs, false :: l => selL cs l
  | _, _ => []
def remX {α : Type} (P : List α → Bool) : List α → Bool
  | [] => false
  | v :: vs => P vs ^^ remX (fun vs' => P (v :: vs')) vs
theorem out_sel {α : Type} : ∀ (cs : List α) (P : List α → Bool) (l : List Bool), l.length = cs.length → outS (fun l => P (selL cs l)) l = remX P (selL cs l)
  | [], P, [], _ => rfl
  | c :: cs, P, [], h => by cases h
  | [], P, b :: l, h => by cases h
  | c :: cs, P, true :: l, h => by
    show ((true && P (selL cs l)) ^^ outS (fun l' => P (c :: selL cs l')) l) = (P (selL cs l) ^^ remX (fun vs' => P (c :: vs')) (selL cs l))
    rw [out_sel cs (fun vs => P (c :: vs)) l (by simpa using h), Bool.true_and]
  | c :: cs, P, false :: l, h => by
    show ((false && P (selL cs l)) ^^ outS (fun l' => P (selL cs l')) l) = remX P (selL cs l)
    rw [out_sel cs P l (by simpa using h), Bool.false_and, Bool.false_xor]
theorem remX_no {α : Type} : ∀ (vs : List α) (P : List α → Bool), (∀ us, us.length + 1 = vs.length → P us = false) → remX P vs = false
  | [], _, _ => rfl
  | v :: vs, P, h => by
    show (P vs ^^ remX (fun us => P (v :: us)) vs) = false
    rw [h vs rfl, remX_no vs (fun us => P (v :: us)) fun us hu => h (v :: us) (by rw [List.length_cons, List.length_cons, hu])]
    rfl
/-! ### four columns -/
structure V4 where
  a : Rat
  b : Rat
  c : Rat
  d : Rat
def D4 (p q r s : V4) : Rat :=
  p.a * (q.b * (r.c * s.d - r.d * s.c) - q.c * (r.b * s.d - r.d * s.b) + q.d * (r.b * s.c - r.c * s.b))
  - p.b * (q.a * (r.c * s.d - r.d * s.c) - q.c * (r.a * s.d - r.d * s.a) + q.d * (r.a * s.c - r.c * s.a))
  + p.c * (q.a * (r.b * s.d - r.d * s.b) - q.b * (r.a * s.d - r.d * s.a) + q.d * (r.a * s.b - r.b * s.a))
  - p.d * (q.a * (r.b * s.c - r.c * s.b) - q.b * (r.a * s.c - r.c * s.a) + q.c * (r.a * s.b - r.b * s.a))
theorem cr_a (p q r s b : V4) : D4 b q r s * p.a + D4 p b r s * q.a + D4 p q b s * r.a + D4 p q r b * s.a = D4 p q r s * b.a := by unfold D4; grind
theorem cr_b (p q r s b : V4) : D4 b q r s * p.b + D4 p b r s * q.b + D4 p q b s * r.b + D4 p q r b * s.b = D4 p q r s * b.b := by unfold D4; grind
theorem cr_c (p q r s b : V4) : D4 b q r s * p.c + D4 p b r s * q.c + D4 p q b s * r.c + D4 p q r b * s.c = D4 p q r s * b.c := by unfold D4; grind
theorem cr_d (p q r s b : V4) : D4 b q r s * p.d + D4 p b r s * q.d + D4 p q b s * r.d + D4 p q r b * s.d = D4 p q r s * b.d := by unfold D4; grind
def lin (p q r s : V4) (x y z w : Rat) : V4 := ⟨x * p.a + y * q.a + z * r.a + w * s.a, x * p.b + y * q.b + z * r.b + w * s.b, x * p.c + y * q.c + z * r.c + w * s.c, x * p.d + y * q.d + z * r.d + w * s.d⟩
theorem un1 (p q r s : V4) (x y z w : Rat) : D4 (lin p q r s x y z w) q r s = x * D4 p q r s := by unfold D4 lin; grind
theorem un2 (p q r s : V4) (x y z w : Rat) : D4 p (lin p q r s x y z w) r s = y * D4 p q r s := by unfold D4 lin; grind
theorem un3 (p q r s : V4) (x y z w : Rat) : D4 p q (lin p q r s x y z w) s = z * D4 p q r s := by unfold D4 lin; grind
theorem un4 (p q r s : V4) (x y z w : Rat) : D4 p q r (lin p q r s x y z w) = w * D4 p q r s := by unfold D4 lin; grind
theorem argmin (t : Nat → Rat) : ∀ L : List Nat, L ≠ [] → ∃ e ∈ L, ∀ f ∈ L, t e ≤ t f
  | [], h => absurd rfl h
  | [x], _ => ⟨x, List.mem_cons_self, fun f hf => by
    rcases List.mem_cons.mp hf with rfl | hf
    · exact Rat.le_refl
    · cases hf⟩
  | x :: y :: L, _ => by
    obtain ⟨e, he, h⟩ := argmin t (y :: L) (by simp)
    by_cases hx : t x ≤ t e
    · refine ⟨x, List.mem_cons_self, fun f hf => ?_⟩
      rcases List.mem_cons.mp hf with rfl | hf
      · exact Rat.le_refl
      · exact Rat.le_trans hx (h f hf)
    · refine ⟨e, List.mem_cons_of_mem _ he, fun f hf => ?_⟩
      rcases List.mem_cons.mp hf with rfl | hf
      · exact Rat.le_of_lt (Rat.not_le.mp hx)
      · exact h f hf
def Feas (v : Nat → Rat) (u : Nat → Nat → Rat) (e : Nat) : Prop := v e ≠ 0 ∧ ∀ j, j < 5 → j ≠ e → 0 < u e j
theorem ea_pos {v φ : Nat → Rat} {u : Nat → Nat → Rat} (rel : ∀ e f j, e < 5 → f < 5 → j < 5 → v e ≠ 0 → v f ≠ 0 → u f j = u e j - u e f / v f * v j) (self : ∀ e, e < 5 → v e ≠ 0 → u e e = 0)
    (gen : ∀ e j, e < 5 → j < 5 → v e ≠ 0 → j ≠ e → u e j ≠ 0) (pos : ∀ j, j < 5 → 0 < φ j) (bal : v 0 * φ 0 + v 1 * φ 1 + v 2 * φ 2 + v 3 * φ 3 + v 4 * φ 4 = 0)
    {e0 : Nat} (h0 : e0 < 5) (hv : 0 < v e0) (hf : ∀ j, j < 5 → j ≠ e0 → 0 < u e0 j) : ∃ e1, e1 < 5 ∧ e1 ≠ e0 ∧ Feas v u e1 ∧ ∀ e, e < 5 → Feas v u e → e = e0 ∨ e = e1 := by
  have hv0 : v e0 ≠ 0 := fun z => by rw [z] at hv; exact absurd hv (by decide)
  have p0 := self e0 h0 hv0
  have ne : (List.range 5).filter (fun j => decide (v j < 0)) ≠ [] := fun z => by
    have nn : ∀ j, j < 5 → 0 ≤ v j := fun j hj => by
      by_cases hn : v j < 0
      · have : j ∈ (List.range 5).filter (fun j => decide (v j < 0)) := List.mem_filter.mpr ⟨List.mem_range.mpr hj, decide_eq_true hn⟩
        rw [z] at this
        cases this
      · exact Rat.not_lt.mp hn
    have m : ∀ j, j < 5 → 0 ≤ v j * φ j := fun j hj => Rat.mul_nonneg (nn j hj) (Rat.le_of_lt (pos j hj))
    have mp := Rat.mul_pos hv (pos e0 h0)
    have m0 := m 0 (by decide)
    have m1 := m 1 (by decide)
    have m2 := m 2 (by decide)
    have m3 := m 3 (by decide)
    have m4 := m 4 (by decide)
    have : e0 = 0 ∨ e0 = 1 ∨ e0 = 2 ∨ e0 = 3 ∨ e0 = 4 := by omega
    rcases this with rfl | rfl | rfl | rfl | rfl <;> grind
  obtain ⟨e1, he1, hmin⟩ := argmin (fun e => u e0 e / -(v e)) _ ne
  have memN : ∀ {j}, j ∈ (List.range 5).filter (fun j => decide (v j < 0)) ↔ j < 5 ∧ v j < 0 := fun {j} => by
    rw [List.mem_filter, List.mem_range, decide_eq_true_eq]
  obtain ⟨l1, n1⟩ := memN.mp he1
  have e10 : e1 ≠ e0 := fun z => by
    rw [z] at n1
    grind
  have pe1 := hf e1 l1 e10
  have v1 : v e1 ≠ 0 := fun z => by rw [z] at n1; exact absurd n1 (by decide)
  have T : ∀ e, v e < 0 → 0 < u e0 e → 0 < u e0 e / -(v e) ∧ u e0 e / -(v e) * v e = -(u e0 e) := fun e hn hp => by
    have hn' : 0 < -(v e) := by grind
    refine ⟨?_, by grind⟩
    rw [Rat.div_def]
    exact Rat.mul_pos hp (Rat.inv_pos.mpr hn')
  have form : ∀ e j, e < 5 → j < 5 → v e ≠ 0 → u e j = u e0 j + u e0 e / -(v e) * v j := fun e j he hj hve => by
    rw [rel e0 e j h0 he hj hv0 hve]
    grind
  obtain ⟨T1, T1v⟩ := T e1 n1 pe1
  refine ⟨e1, l1, e10, ⟨v1, fun j hj hne => ?_⟩, fun e he hfe => ?_⟩
  · have g := gen e1 j l1 hj v1 hne
    rw [form e1 j l1 hj v1] at g ⊢
    by_cases hj0 : j = e0
    · subst hj0
      rw [p0, Rat.zero_add]
      exact Rat.mul_pos T1 hv
    · have pj := hf j hj hj0
      by_cases hn : v j < 0
      · obtain ⟨Tj, Tjv⟩ := T j hn pj
        have le := hmin j (memN.mpr ⟨hj, hn⟩)
        have hn' : 0 ≤ -(v j) := by grind
        have := Rat.mul_le_mul_of_nonneg_right le hn'
        generalize u e0 e1 / -(v e1) = a at *
        generalize u e0 j / -(v j) = b at *
        grind
      · have hn' := Rat.not_lt.mp hn
        have := Rat.mul_nonneg (Rat.le_of_lt T1) hn'
        grind
  · by_cases hee : e = e0
    · exact .inl hee
    refine .inr (Classical.byContradiction fun h1 => ?_)
    obtain ⟨hve, hpos⟩ := hfe
    have pe := hf e he hee
    have a0 := hpos e0 h0 (fun z => hee z.symm)
    rw [form e e0 he h0 hve, p0, Rat.zero_add] at a0
    have hn : v e < 0 := by
      by_cases hn : v e < 0
      · exact hn
      · exfalso
        have hp : 0 < v e := by
          have := Rat.not_lt.mp hn
          grind
        have q : 0 < u e0 e / v e := by
          rw [Rat.div_def]
          exact Rat.mul_pos pe (Rat.inv_pos.mpr hp)
        have := Rat.mul_pos q hv
        have e2 : u e0 e / -(v e) = -(u e0 e / v e) := by grind
        rw [e2] at a0
        grind
    obtain ⟨Te, Tev⟩ := T e hn pe
    have a1 := hpos e1 l1 (fun z => h1 z.symm)
    rw [form e e1 he l1 hve] at a1
    have le := hmin e (memN.mpr ⟨he, hn⟩)
    have hn' : 0 ≤ -(v e1) := by grind
    have := Rat.mul_le_mul_of_nonneg_right le hn'
    generalize u e0 e1 / -(v e1) = a at *
    generalize u e0 e / -(v e) = b at *
    grind
theorem ea {v φ : Nat → Rat} {u : Nat → Nat → Rat} (rel : ∀ e f j, e < 5 → f < 5 → j < 5 → v e ≠ 0 → v f ≠ 0 → u f j = u e j - u e f / v f * v j) (self : ∀ e, e < 5 → v e ≠ 0 → u e e = 0)
    (gen : ∀ e j, e < 5 → j < 5 → v e ≠ 0 → j ≠ e → u e j ≠ 0) (pos : ∀ j, j < 5 → 0 < φ j) (bal : v 0 * φ 0 + v 1 * φ 1 + v 2 * φ 2 + v 3 * φ 3 + v 4 * φ 4 = 0)
    {e0 : Nat} (h0 : e0 < 5) (hf : Feas v u e0) : ∃ e1, e1 < 5 ∧ e1 ≠ e0 ∧ Feas v u e1 ∧ ∀ e, e < 5 → Feas v u e → e = e0 ∨ e = e1 := by
  by_cases hp : 0 < v e0
  · exact ea_pos rel self gen pos bal h0 hp hf.2
  · have hn : 0 < -(v e0) := by
      have := Rat.not_lt.mp hp
      have := hf.1
      grind
    have nz : ∀ {e}, -(v e) ≠ 0 → v e ≠ 0 := fun {e} h z => h (by rw [z]; rfl)
    have nz' : ∀ {e}, v e ≠ 0 → -(v e) ≠ 0 := fun {e} h z => h (by grind)
    obtain ⟨e1, a, b, c, d⟩ := ea_pos (v := fun e => -(v e)) (u := u) (φ := φ) (fun e f j he hf' hj h1 h2 => by
      rw [rel e f j he hf' hj (nz h1) (nz h2)]
      have := nz h2
      grind) (fun e he h => self e he (nz h)) (fun e j he hj h hne => gen e j he hj (nz h) hne) pos (by grind) h0 hn hf.2
    exact ⟨e1, a, b, ⟨nz c.1, c.2⟩, fun e he h => d e he ⟨nz' h.1, h.2⟩⟩
/-- two or none of five -/
theorem five_even (F : Nat → Bool) (h : ∀ e0, e0 < 5 → F e0 = true → ∃ e1, e1 < 5 ∧ e1 ≠ e0 ∧ F e1 = true ∧ ∀ e, e < 5 → F e = true → e = e0 ∨ e = e1) : (F 0 ^^ (F 1 ^^ (F 2 ^^ (F 3 ^^ (F 4 ^^ false))))) = false := by
  have ex : (∃ e0, e0 < 5 ∧ F e0 = true) ∨ ∀ e, e < 5 → F e = false := by
    by_cases z : ∃ e0, e0 < 5 ∧ F e0 = true
    · exact .inl z
    · refine .inr fun e he => ?_
      cases hF : F e with
      | false => rfl
      | true => exact absurd ⟨e, he, hF⟩ z
  rcases ex with ⟨e0, l0, t0⟩ | z
  · obtain ⟨e1, l1, ne, t1, only⟩ := h e0 l0 t0
    have no : ∀ e, e < 5 → e ≠ e0 → e ≠ e1 → F e = false := fun e he a b => by
      cases hF : F e with
      | false => rfl
      | true => rcases only e he hF with c | c <;> contradiction
    have c0 : e0 = 0 ∨ e0 = 1 ∨ e0 = 2 ∨ e0 = 3 ∨ e0 = 4 := by omega
    have c1 : e1 = 0 ∨ e1 = 1 ∨ e1 = 2 ∨ e1 = 3 ∨ e1 = 4 := by omega
    have n0 := no 0 (by decide)
    have n1 := no 1 (by decide)
    have n2 := no 2 (by decide)
    have n3 := no 3 (by decide)
    have n4 := no 4 (by decide)
    rcases c0 with rfl | rfl | rfl | rfl | rfl <;> rcases c1 with rfl | rfl | rfl | rfl | rfl <;> first | exact absurd rfl ne | simp_all
  · rw [z 0 (by decide), z 1 (by decide), z 2 (by decide), z 3 (by decide), z 4 (by decide)]
    rfl
def FeasP (b p q r s : V4) : Prop := D4 p q r s ≠ 0 ∧ 0 < D4 b q r s / D4 p q r s ∧ 0 < D4 p b r s / D4 p q r s ∧ 0 < D4 p q b s / D4 p q r s ∧ 0 < D4 p q r b / D4 p q r s
instance (b p q r s : V4) : Decidable (FeasP b p q r s) := by unfold FeasP; infer_instance
def feasB (b : V4) : List V4 → Bool
  | [p, q, r, s] => decide (FeasP b p q r s)
  | _ => false
def GenP (b p q r s : V4) : Prop := D4 p q r s ≠ 0 → D4 b q r s ≠ 0 ∧ D4 p b r s ≠ 0 ∧ D4 p q b s ≠ 0 ∧ D4 p q r b ≠ 0
theorem div_sum {x y z w D p q r s t : Rat} (hD : D ≠ 0) (h : x * p + y * q + z * r + w * s = D * t) : x / D * p + y / D * q + z / D * r + w / D * s = t := by grind
theorem lin_zero {p q r s : V4} {x y z w : Rat} (hD : D4 p q r s ≠ 0) (ha : x * p.a + y * q.a + z * r.a + w * s.a = 0) (hb : x * p.b + y * q.b + z * r.b + w * s.b = 0) (hc : x * p.c + y * q.c + z * r.c + w * s.c = 0) (hd : x * p.d + y * q.d + z * r.d + w * s.d = 0) : x = 0 ∧ y = 0 ∧ z = 0 ∧ w = 0 := by
  have e : lin p q r s x y z w = ⟨0, 0, 0, 0⟩ := by unfold lin; rw [ha, hb, hc, hd]
  have h1 := un1 p q r s x y z w
  have h2 := un2 p q r s x y z w
  have h3 := un3 p q r s x y z w
  have h4 := un4 p q r s x y z w
  rw [e] at h1 h2 h3 h4
  have z1 : D4 ⟨0, 0, 0, 0⟩ q r s = 0 := by unfold D4; grind
  have z2 : D4 p ⟨0, 0, 0, 0⟩ r s = 0 := by unfold D4; grind
  have z3 : D4 p q ⟨0, 0, 0, 0⟩ s = 0 := by unfold D4; grind
  have z4 : D4 p q r ⟨0, 0, 0, 0⟩ = 0 := by unfold D4; grind
  rw [z1] at h1
  rw [z2] at h2
  rw [z3] at h3
  rw [z4] at h4
  generalize D4 p q r s = D at *
  refine ⟨?_, ?_, ?_, ?_⟩ <;> grind
section
variable (v0 v1 v2 v3 v4 b : V4)
def kerV : Nat → Rat
  | 0 => D4 v1 v2 v3 v4
  | 1 => -(D4 v0 v2 v3 v4)
  | 2 => D4 v0 v1 v3 v4
  | 3 => -(D4 v0 v1 v2 v4)
  | _ => D4 v0 v1 v2 v3
def solU : Nat → Nat → Rat
  | 0, 0 => 0
  | 0, 1 => D4 b v2 v3 v4 / D4 v1 v2 v3 v4
  | 0, 2 => D4 v1 b v3 v4 / D4 v1 v2 v3 v4
  | 0, 3 => D4 v1 v2 b v4 / D4 v1 v2 v3 v4
  | 0, _ => D4 v1 v2 v3 b / D4 v1 v2 v3 v4
  | 1, 0 => D4 b v2 v3 v4 / D4 v0 v2 v3 v4
  | 1, 1 => 0
  | 1, 2 => D4 v0 b v3 v4 / D4 v0 v2 v3 v4
  | 1, 3 => D4 v0 v2 b v4 / D4 v0 v2 v3 v4
  | 1, _ => D4 v0 v2 v3 b / D4 v0 v2 v3 v4
  | 2, 0 => D4 b v1 v3 v4 / D4 v0 v1 v3 v4
  | 2, 1 => D4 v0 b v3 v4 / D4 v0 v1 v3 v4
  | 2, 2 => 0
  | 2, 3 => D4 v0 v1 b v4 / D4 v0 v1 v3 v4
  | 2, _ => D4 v0 v1 v3 b / D4 v0 v1 v3 v4
  | 3, 0 => D4 b v1 v2 v4 / D4 v0 v1 v2 v4
  | 3, 1 => D4 v0 b v2 v4 / D4 v0 v1 v2 v4
  | 3, 2 => D4 v0 v1 b v4 / D4 v0 v1 v2 v4
  | 3, 3 => 0
  | 3, _ => D4 v0 v1 v2 b / D4 v0 v1 v2 v4
  | _, 0 => D4 b v1 v2 v3 / D4 v0 v1 v2 v3
  | _, 1 => D4 v0 b v2 v3 / D4 v0 v1 v2 v3
  | _, 2 => D4 v0 v1 b v3 / D4 v0 v1 v2 v3
  | _, 3 => D4 v0 v1 v2 b / D4 v0 v1 v2 v3
  | _, _ => 0
def detE : Nat → Rat
  | 0 => D4 v1 v2 v3 v4
  | 1 => D4 v0 v2 v3 v4
  | 2 => D4 v0 v1 v3 v4
  | 3 => D4 v0 v1 v2 v4
  | _ => D4 v0 v1 v2 v3
def feasE : Nat → Prop
  | 0 => FeasP b v1 v2 v3 v4
  | 1 => FeasP b v0 v2 v3 v4
  | 2 => FeasP b v0 v1 v3 v4
  | 3 => FeasP b v0 v1 v2 v4
  | _ => FeasP b v0 v1 v2 v3
def feasD : Nat → Bool
  | 0 => decide (FeasP b v1 v2 v3 v4)
  | 1 => decide (FeasP b v0 v2 v3 v4)
  | 2 => decide (FeasP b v0 v1 v3 v4)
  | 3 => decide (FeasP b v0 v1 v2 v4)
  | _ => decide (FeasP b v0 v1 v2 v3)
def sumS (f : V4 → Rat) (x : Nat → Rat) : Rat := x 0 * f v0 + x 1 * f v1 + x 2 * f v2 + x 3 * f v3 + x 4 * f v4
theorem lt5 {P : Nat → Prop} (h0 : P 0) (h1 : P 1) (h2 : P 2) (h3 : P 3) (h4 : P 4) : ∀ j, j < 5 → P j := fun j hj => by
  have : j = 0 ∨ j = 1 ∨ j = 2 ∨ j = 3 ∨ j = 4 := by omega
  rcases this with rfl | rfl | rfl | rfl | rfl <;> assumption
theorem ker_ne (e : Nat) (he : e < 5) : kerV v0 v1 v2 v3 v4 e ≠ 0 → detE v0 v1 v2 v3 v4 e ≠ 0 := by
  revert e
  refine lt5 ?_ ?_ ?_ ?_ ?_ <;> intro h <;> simp only [kerV, detE] at h ⊢ <;> first | exact h | (intro z; exact h (by rw [z]; rfl))
theorem sol_is (e : Nat) (he : e < 5) (h : kerV v0 v1 v2 v3 v4 e ≠ 0) : sumS v0 v1 v2 v3 v4 V4.a (solU v0 v1 v2 v3 v4 b e) = b.a ∧ sumS v0 v1 v2 v3 v4 V4.b (solU v0 v1 v2 v3 v4 b e) = b.b ∧ sumS v0 v1 v2 v3 v4 V4.c (solU v0 v1 v2 v3 v4 b e) = b.c ∧ sumS v0 v1 v2 v3 v4 V4.d (solU v0 v1 v2 v3 v4 b e) = b.d := by
  have k := ker_ne v0 v1 v2 v3 v4 e he h
  clear h
  revert k
  revert e
  refine lt5 ?_ ?_ ?_ ?_ ?_ <;> intro k <;> simp only [detE] at k <;> unfold sumS <;> simp only [solU]
  · have a := div_sum k (cr_a v1 v2 v3 v4 b)
    have c := div_sum k (cr_b v1 v2 v3 v4 b)
    have d := div_sum k (cr_c v1 v2 v3 v4 b)
    have f := div_sum k (cr_d v1 v2 v3 v4 b)
    refine ⟨?_, ?_, ?_, ?_⟩ <;> grind
  · have a := div_sum k (cr_a v0 v2 v3 v4 b)
    have c := div_sum k (cr_b v0 v2 v3 v4 b)
    have d := div_sum k (cr_c v0 v2 v3 v4 b)
    have f := div_sum k (cr_d v0 v2 v3 v4 b)
    refine ⟨?_, ?_, ?_, ?_⟩ <;> grind
  · have a := div_sum k (cr_a v0 v1 v3 v4 b)
    have c := div_sum k (cr_b v0 v1 v3 v4 b)
    have d := div_sum k (cr_c v0 v1 v3 v4 b)
    have f := div_sum k (cr_d v0 v1 v3 v4 b)
    refine ⟨?_, ?_, ?_, ?_⟩ <;> grind
  · have a := div_sum k (cr_a v0 v1 v2 v4 b)
    have c := div_sum k (cr_b v0 v1 v2 v4 b)
    have d := div_sum k (cr_c v0 v1 v2 v4 b)
    have f := div_sum k (cr_d v0 v1 v2 v4 b)
    refine ⟨?_, ?_, ?_, ?_⟩ <;> grind
  · have a := div_sum k (cr_a v0 v1 v2 v3 b)
    have c := div_sum k (cr_b v0 v1 v2 v3 b)
    have d := div_sum k (cr_c v0 v1 v2 v3 b)
    have f := div_sum k (cr_d v0 v1 v2 v3 b)
    refine ⟨?_, ?_, ?_, ?_⟩ <;> grind
theorem ker_is : sumS v0 v1 v2 v3 v4 V4.a (kerV v0 v1 v2 v3 v4) = 0 ∧ sumS v0 v1 v2 v3 v4 V4.b (kerV v0 v1 v2 v3 v4) = 0 ∧ sumS v0 v1 v2 v3 v4 V4.c (kerV v0 v1 v2 v3 v4) = 0 ∧ sumS v0 v1 v2 v3 v4 V4.d (kerV v0 v1 v2 v3 v4) = 0 := by
  unfold sumS
  simp only [kerV]
  refine ⟨?_, ?_, ?_, ?_⟩ <;> unfold D4 <;> grind
theorem sol_un (f : Nat) (hf : f < 5) (h : kerV v0 v1 v2 v3 v4 f ≠ 0) {z : Nat → Rat} (za : sumS v0 v1 v2 v3 v4 V4.a z = 0) (zb : sumS v0 v1 v2 v3 v4 V4.b z = 0) (zc : sumS v0 v1 v2 v3 v4 V4.c z = 0) (zd : sumS v0 v1 v2 v3 v4 V4.d z = 0) (z0 : z f = 0) : ∀ j, j < 5 → z j = 0 := by
  have k := ker_ne v0 v1 v2 v3 v4 f hf h
  clear h
  unfold sumS at za zb zc zd
  revert k z0
  revert f
  refine lt5 ?_ ?_ ?_ ?_ ?_ <;> intro z0 k <;> simp only [detE] at k <;> rw [z0] at za zb zc zd
  · obtain ⟨a, c, d, e⟩ := lin_zero (x := z 1) (y := z 2) (z := z 3) (w := z 4) k (by grind) (by grind) (by grind) (by grind)
    exact lt5 z0 a c d e
  · obtain ⟨a, c, d, e⟩ := lin_zero (x := z 0) (y := z 2) (z := z 3) (w := z 4) k (by grind) (by grind) (by grind) (by grind)
    exact lt5 a z0 c d e
  · obtain ⟨a, c, d, e⟩ := lin_zero (x := z 0) (y := z 1) (z := z 3) (w := z 4) k (by grind) (by grind) (by grind) (by grind)
    exact lt5 a c z0 d e
  · obtain ⟨a, c, d, e⟩ := lin_zero (x := z 0) (y := z 1) (z := z 2) (w := z 4) k (by grind) (by grind) (by grind) (by grind)
    exact lt5 a c d z0 e
  · obtain ⟨a, c, d, e⟩ := lin_zero (x := z 0) (y := z 1) (z := z 2) (w := z 3) k (by grind) (by grind) (by grind) (by grind)
    exact lt5 a c d e z0
def tot (v : V4) : Rat := v.a + v.b + v.c + v.d
theorem feas_iff : ∀ e, e < 5 → (Feas (kerV v0 v1 v2 v3 v4) (solU v0 v1 v2 v3 v4 b) e ↔ feasE v0 v1 v2 v3 v4 b e) := by
  refine lt5 ?_ ?_ ?_ ?_ ?_ <;> unfold Feas <;> simp only [feasE, kerV] <;> unfold FeasP <;> constructor
  all_goals first
    | (rintro ⟨h, g⟩
       refine ⟨fun z => h (by first | exact z | (rw [z]; rfl)), ?_⟩
       have g0 := g 0 (by decide)
       have g1 := g 1 (by decide)
       have g2 := g 2 (by decide)
       have g3 := g 3 (by decide)
       have g4 := g 4 (by decide)
       simp [solU] at g0 g1 g2 g3 g4
       first | exact ⟨g1, g2, g3, g4⟩ | exact ⟨g0, g2, g3, g4⟩ | exact ⟨g0, g1, g3, g4⟩ | exact ⟨g0, g1, g2, g4⟩ | exact ⟨g0, g1, g2, g3⟩)
    | (rintro ⟨h, a, c, d, f⟩
       refine ⟨fun z => h (by first | exact z | grind), lt5 ?_ ?_ ?_ ?_ ?_⟩ <;> intro ne <;> first | exact absurd rfl ne | (simp only [solU]; assumption))
theorem even5 (pos : 0 < tot v0 ∧ 0 < tot v1 ∧ 0 < tot v2 ∧ 0 < tot v3 ∧ 0 < tot v4) (g0 : GenP b v1 v2 v3 v4) (g1 : GenP b v0 v2 v3 v4) (g2 : GenP b v0 v1 v3 v4) (g3 : GenP b v0 v1 v2 v4) (g4 : GenP b v0 v1 v2 v3) : remX (feasB b) [v0, v1, v2, v3, v4] = false := by
  obtain ⟨p0, p1, p2, p3, p4⟩ := pos
  have key := five_even (feasD v0 v1 v2 v3 v4 b) fun e0 l0 t0 => by
    have hF : ∀ e, e < 5 → (feasD v0 v1 v2 v3 v4 b e = true ↔ Feas (kerV v0 v1 v2 v3 v4) (solU v0 v1 v2 v3 v4 b) e) := by
      refine lt5 ?_ ?_ ?_ ?_ ?_ <;> rw [feas_iff v0 v1 v2 v3 v4 b _ (by decide)] <;> exact decide_eq_true_iff
    have bal : kerV v0 v1 v2 v3 v4 0 * tot v0 + kerV v0 v1 v2 v3 v4 1 * tot v1 + kerV v0 v1 v2 v3 v4 2 * tot v2 + kerV v0 v1 v2 v3 v4 3 * tot v3 + kerV v0 v1 v2 v3 v4 4 * tot v4 = 0 := by
      obtain ⟨a, c, d, e⟩ := ker_is v0 v1 v2 v3 v4
      unfold sumS at a c d e
      unfold tot
      generalize kerV v0 v1 v2 v3 v4 = K at *
      grind
    obtain ⟨e1, l1, ne, f1, only⟩ := ea (v := kerV v0 v1 v2 v3 v4) (u := solU v0 v1 v2 v3 v4 b) (φ := fun j => match j with | 0 => tot v0 | 1 => tot v1 | 2 => tot v2 | 3 => tot v3 | _ => tot v4)
      (fun e f j he hf hj h1 h2 => by
        obtain ⟨a1, c1, d1, x1⟩ := sol_is v0 v1 v2 v3 v4 b e he h1
        obtain ⟨a2, c2, d2, x2⟩ := sol_is v0 v1 v2 v3 v4 b f hf h2
        obtain ⟨a3, c3, d3, x3⟩ := ker_is v0 v1 v2 v3 v4
        have sf : solU v0 v1 v2 v3 v4 b f f = 0 := by
          clear h1 h2 a1 a2 a3 c1 c2 c3 d1 d2 d3 x1 x2 x3 hj
          revert f
          exact lt5 rfl rfl rfl rfl rfl
        have := sol_un v0 v1 v2 v3 v4 f hf h2 (z := fun j => solU v0 v1 v2 v3 v4 b f j - (solU v0 v1 v2 v3 v4 b e j - solU v0 v1 v2 v3 v4 b e f / kerV v0 v1 v2 v3 v4 f * kerV v0 v1 v2 v3 v4 j)) (by
          unfold sumS at *
          generalize solU v0 v1 v2 v3 v4 b e f / kerV v0 v1 v2 v3 v4 f = c
          grind) (by
          unfold sumS at *
          generalize solU v0 v1 v2 v3 v4 b e f / kerV v0 v1 v2 v3 v4 f = c
          grind) (by
          unfold sumS at *
          generalize solU v0 v1 v2 v3 v4 b e f / kerV v0 v1 v2 v3 v4 f = c
          grind) (by
          unfold sumS at *
          generalize solU v0 v1 v2 v3 v4 b e f / kerV v0 v1 v2 v3 v4 f = c
          grind) (by
          show solU v0 v1 v2 v3 v4 b f f - _ = 0
          rw [sf]
          generalize kerV v0 v1 v2 v3 v4 f = k at *
          generalize solU v0 v1 v2 v3 v4 b e f = m
          grind) j hj
        grind)
      (fun e he _ => by
        revert e
        refine lt5 ?_ ?_ ?_ ?_ ?_ <;> intro _ <;> rfl)
      (fun e j he hj h1 hne => by
        have k := ker_ne v0 v1 v2 v3 v4 e he h1
        have nz : ∀ {x y : Rat}, x ≠ 0 → y ≠ 0 → x / y ≠ 0 := fun {x y} hx hy z => hx (by grind)
        clear h1
        revert hne k
        revert e
        refine lt5 ?_ ?_ ?_ ?_ ?_ <;> intro hne k <;> simp only [detE] at k <;> revert hne <;> revert j
        · obtain ⟨x, y, z, w⟩ := g0 k
          refine lt5 ?_ ?_ ?_ ?_ ?_ <;> intro hne <;> first | exact absurd rfl hne | (simp only [solU]; apply nz <;> assumption)
        · obtain ⟨x, y, z, w⟩ := g1 k
          refine lt5 ?_ ?_ ?_ ?_ ?_ <;> intro hne <;> first | exact absurd rfl hne | (simp only [solU]; apply nz <;> assumption)
        · obtain ⟨x, y, z, w⟩ := g2 k
          refine lt5 ?_ ?_ ?_ ?_ ?_ <;> intro hne <;> first | exact absurd rfl hne | (simp only [solU]; apply nz <;> assumption)
        · obtain ⟨x, y, z, w⟩ := g3 k
          refine lt5 ?_ ?_ ?_ ?_ ?_ <;> intro hne <;> first | exact absurd rfl hne | (simp only [solU]; apply nz <;> assumption)
        · obtain ⟨x, y, z, w⟩ := g4 k
          refine lt5 ?_ ?_ ?_ ?_ ?_ <;> intro hne <;> first | exact absurd rfl hne | (simp only [solU]; apply nz <;> assumption))
      (lt5 p0 p1 p2 p3 p4) bal l0 ((hF e0 l0).mp t0)
    exact ⟨e1, l1, ne, (hF e1 l1).mpr f1, fun e he h => only e he ((hF e he).mp h)⟩
  exact key
end
/-! ### a little more on the right, so that nothing is nought by chance -/
def SmallP (P : Rat → Prop) : Prop := ∃ e0 : Rat, 0 < e0 ∧ ∀ e, 0 < e → e ≤ e0 → P e
theorem SmallP.and {P Q : Rat → Prop} (h : SmallP P) (g : SmallP Q) : SmallP fun e => P e ∧ Q e := by
  obtain ⟨a, ha, h⟩ := h
  obtain ⟨b, hb, g⟩ := g
  by_cases z : a ≤ b
  · exact ⟨a, ha, fun e p q => ⟨h e p q, g e p (Rat.le_trans q z)⟩⟩
  · have z' := Rat.le_of_lt (Rat.not_le.mp z)
    exact ⟨b, hb, fun e p q => ⟨h e p (Rat.le_trans q z'), g e p q⟩⟩
theorem SmallP.imp {P Q : Rat → Prop} (h : SmallP P) (g : ∀ e, P e → Q e) : SmallP Q := let ⟨a, ha, h⟩ := h; ⟨a, ha, fun e p q => g e (h e p q)⟩
theorem SmallP.all {α : Type} {P : α → Rat → Prop} : ∀ {L : List α}, (∀ x ∈ L, SmallP (P x)) → SmallP fun e => ∀ x ∈ L, P x e
  | [], _ => ⟨1, by decide, fun _ _ _ _ h => nomatch h⟩
  | x :: L, h => by
    refine ((h x List.mem_cons_self).and (SmallP.all fun y hy => h y (List.mem_cons_of_mem _ hy))).imp fun e g y hy => ?_
    rcases List.mem_cons.mp hy with rfl | hy
    · exact g.1
    · exact g.2 y hy
def evP (e : Rat) : List Rat → Rat
  | [] => 0
  | a :: l => a + e * evP e l
theorem evP_bd : ∀ l : List Rat, ∃ M : Rat, 0 ≤ M ∧ ∀ e, 0 < e → e ≤ 1 → -M ≤ evP e l ∧ evP e l ≤ M
  | [] => ⟨0, Rat.le_refl, fun e _ _ => by unfold evP; exact ⟨by grind, Rat.le_refl⟩⟩
  | a :: l => by
    obtain ⟨M, hM, h⟩ := evP_bd l
    refine ⟨(if 0 ≤ a then a else -a) + M, by split <;> grind, fun e h0 h1 => ?_⟩
    obtain ⟨x, y⟩ := h e h0 h1
    unfold evP
    generalize evP e l = v at *
    have e1 : e * v ≤ M := by
      have h2 : e * v ≤ e * M := Rat.mul_le_mul_of_nonneg_left y (Rat.le_of_lt h0)
      have h3 : e * M ≤ 1 * M := Rat.mul_le_mul_of_nonneg_right h1 hM
      grind
    have e2 : -M ≤ e * v := by
      have h2 : e * (-v) ≤ e * M := Rat.mul_le_mul_of_nonneg_left (by grind) (Rat.le_of_lt h0)
      have h3 : e * M ≤ 1 * M := Rat.mul_le_mul_of_nonneg_right h1 hM
      grind
    split <;> constructor <;> grind
theorem evP_sign : ∀ l : List Rat, (∃ x ∈ l, x ≠ 0) → (SmallP (fun e => 0 < evP e l) ∧ 0 ≤ l.headD 0) ∨ (SmallP (fun e => evP e l < 0) ∧ l.headD 0 ≤ 0)
  | [], h => absurd h (by rintro ⟨_, z, _⟩; cases z)
  | a :: l, h => by
    by_cases h0 : a = 0
    · subst h0
      have h' : ∃ x ∈ l, x ≠ 0 := by
        obtain ⟨x, hx, ne⟩ := h
        rcases List.mem_cons.mp hx with rfl | hx
        · exact absurd rfl ne
        · exact ⟨x, hx, ne⟩
      rcases evP_sign l h' with ⟨⟨e0, p, g⟩, _⟩ | ⟨⟨e0, p, g⟩, _⟩
      · refine .inl ⟨⟨e0, p, fun e h1 h2 => ?_⟩, Rat.le_refl⟩
        have := Rat.mul_pos h1 (g e h1 h2)
        show 0 < 0 + e * evP e l
        grind
      · refine .inr ⟨⟨e0, p, fun e h1 h2 => ?_⟩, Rat.le_refl⟩
        have := Rat.mul_pos h1 (show 0 < -(evP e l) by have := g e h1 h2; grind)
        show 0 + e * evP e l < 0
        grind
    · obtain ⟨M, hM, bd⟩ := evP_bd l
      -- e * M < |a|
      have key : ∀ c : Rat, 0 < c → SmallP fun e => e * M < c ∧ e ≤ 1 := fun c hc => by
        have hq : 0 < c / (M + 1) := by
          rw [Rat.div_def]
          exact Rat.mul_pos hc (Rat.inv_pos.mpr (by grind))
        have s1 : SmallP fun e => e * M < c := ⟨c / (M + 1), hq, fun e p q => by
          have h1 : e * (M + 1) ≤ c / (M + 1) * (M + 1) := Rat.mul_le_mul_of_nonneg_right q (by grind)
          have h2 : c / (M + 1) * (M + 1) = c := by
            have : M + 1 ≠ 0 := by grind
            grind
          grind⟩
        exact s1.and ⟨1, by decide, fun e _ q => q⟩
      by_cases hp : 0 < a
      · refine .inl ⟨?_, Rat.le_of_lt hp⟩
        obtain ⟨e0, p, g⟩ := key a hp
        refine ⟨e0, p, fun e h1 h2 => ?_⟩
        obtain ⟨x, y⟩ := g e h1 h2
        obtain ⟨u, w⟩ := bd e h1 y
        have : e * (-(evP e l)) ≤ e * M := Rat.mul_le_mul_of_nonneg_left (by grind) (Rat.le_of_lt h1)
        show 0 < a + e * evP e l
        grind
      · have hn : a < 0 := by
          have := Rat.not_lt.mp hp
          grind
        refine .inr ⟨?_, Rat.le_of_lt hn⟩
        obtain ⟨e0, p, g⟩ := key (-a) (by grind)
        refine ⟨e0, p, fun e h1 h2 => ?_⟩
        obtain ⟨x, y⟩ := g e h1 h2
        obtain ⟨u, w⟩ := bd e h1 y
        have : e * evP e l ≤ e * M := Rat.mul_le_mul_of_nonneg_left w (Rat.le_of_lt h1)
        show a + e * evP e l < 0
        grind
def oneV : V4 := ⟨1, 1, 1, 1⟩
def bV (e : Rat) : V4 := ⟨1 + e, 1 + e * e, 1 + e * e * e, 1 + e * e * e * e⟩
def uV (i : Nat) : V4 := ⟨if i = 0 then 1 else 0, if i = 1 then 1 else 0, if i = 2 then 1 else 0, if i = 3 then 1 else 0⟩
/-- of a number that is linear in what stands on the right -/
theorem small_lin {F : V4 → Rat} {D : Rat} (hD : D ≠ 0) (hl : ∀ v, F v = v.a * F (uV 0) + v.b * F (uV 1) + v.c * F (uV 2) + v.d * F (uV 3)) (hn : ∃ v, F v ≠ 0) : SmallP fun e => F (bV e) ≠ 0 ∧ (0 < F (bV e) / D → 0 ≤ F oneV / D) := by
  have ev : ∀ e, F (bV e) = evP e [F oneV, F (uV 0), F (uV 1), F (uV 2), F (uV 3)] := fun e => by
    rw [hl (bV e), hl oneV]
    unfold evP evP evP evP evP evP
    unfold bV oneV
    dsimp only
    grind
  have nz : ∃ x ∈ [F oneV, F (uV 0), F (uV 1), F (uV 2), F (uV 3)], x ≠ 0 := by
    refine Classical.byContradiction fun z => ?_
    have all : ∀ x ∈ [F oneV, F (uV 0), F (uV 1), F (uV 2), F (uV 3)], x = 0 := fun x hx => Classical.byContradiction fun w => z ⟨x, hx, w⟩
    obtain ⟨v, hv⟩ := hn
    have a0 := all (F (uV 0)) (by simp)
    have a1 := all (F (uV 1)) (by simp)
    have a2 := all (F (uV 2)) (by simp)
    have a3 := all (F (uV 3)) (by simp)
    apply hv
    rw [hl v, a0, a1, a2, a3]
    grind
  have dv : ∀ {x : Rat}, x / D = x * D⁻¹ := fun {x} => Rat.div_def x D
  rcases evP_sign _ nz with ⟨s, h⟩ | ⟨s, h⟩
  · refine s.imp fun e g => ?_
    rw [← ev] at g
    replace h : 0 ≤ F oneV := h
    refine ⟨fun z => by rw [z] at g; exact absurd g (by decide), fun q => ?_⟩
    rw [dv] at q ⊢
    by_cases hi : 0 < D⁻¹
    · exact Rat.mul_nonneg h (Rat.le_of_lt hi)
    · exfalso
      have := Rat.mul_nonneg (Rat.le_of_lt g) (show 0 ≤ -(D⁻¹) by have := Rat.not_lt.mp hi; grind)
      grind
  · refine s.imp fun e g => ?_
    rw [← ev] at g
    replace h : F oneV ≤ 0 := h
    refine ⟨fun z => by rw [z] at g; exact absurd g (by decide), fun q => ?_⟩
    rw [dv] at q ⊢
    by_cases hi : 0 < D⁻¹
    · exfalso
      have := Rat.mul_pos (show 0 < -(F (bV e)) by grind) hi
      grind
    · have := Rat.mul_nonneg (show 0 ≤ -(F oneV) by grind) (show 0 ≤ -(D⁻¹) by have := Rat.not_lt.mp hi; grind)
      grind
def NonP (p q r s : V4) : Prop := 0 ≤ D4 oneV q r s / D4 p q r s ∧ 0 ≤ D4 p oneV r s / D4 p q r s ∧ 0 ≤ D4 p q oneV s / D4 p q r s ∧ 0 ≤ D4 p q r oneV / D4 p q r s
theorem good4 (p q r s : V4) : SmallP fun e => GenP (bV e) p q r s ∧ (FeasP (bV e) p q r s → NonP p q r s) := by
  by_cases hD : D4 p q r s = 0
  · exact ⟨1, by decide, fun e _ _ => ⟨fun z => absurd hD z, fun z => absurd hD z.1⟩⟩
  have s1 := small_lin (F := fun v => D4 v q r s) hD (fun v => by unfold D4 uV; simp; grind) ⟨p, hD⟩
  have s2 := small_lin (F := fun v => D4 p v r s) hD (fun v => by unfold D4 uV; simp; grind) ⟨q, hD⟩
  have s3 := small_lin (F := fun v => D4 p q v s) hD (fun v => by unfold D4 uV; simp; grind) ⟨r, hD⟩
  have s4 := small_lin (F := fun v => D4 p q r v) hD (fun v => by unfold D4 uV; simp; grind) ⟨s, hD⟩
  exact ((s1.and s2).and (s3.and s4)).imp fun e h => ⟨fun _ => ⟨h.1.1.1, h.1.2.1, h.2.1.1, h.2.2.1⟩, fun f => ⟨h.1.1.2 f.2.1, h.1.2.2 f.2.2.1, h.2.1.2 f.2.2.2.1, h.2.2.2 f.2.2.2.2⟩⟩
theorem good_all (cs : List V4) : SmallP fun e => ∀ p ∈ cs, ∀ q ∈ cs, ∀ r ∈ cs, ∀ s ∈ cs, GenP (bV e) p q r s ∧ (FeasP (bV e) p q r s → NonP p q r s) :=
  SmallP.all fun p _ => SmallP.all fun q _ => SmallP.all fun r _ => SmallP.all fun s _ => good4 p q r s
theorem sel_mem {α : Type} : ∀ {cs : List α} {l : List Bool} {x : α}, x ∈ selL cs l → x ∈ cs
  | c :: cs, true :: l, x, h => by
    rcases List.mem_cons.mp h with rfl | h
    · exact List.mem_cons_self
    · exact List.mem_cons_of_mem _ (sel_mem h)
  | c :: cs, false :: l, x, h => List.mem_cons_of_mem _ (sel_mem (cs := cs) (l := l) h)
  | [], _, x, h => by unfold selL at h; cases h
  | c :: cs, [], x, h => by unfold selL at h; cases h
theorem feasB_len {b : V4} {w : List V4} (h : w.length ≠ 4) : feasB b w = false := by
  match w, h with
  | [], _ => rfl
  | [_], _ => rfl
  | [_, _], _ => rfl
  | [_, _, _], _ => rfl
  | [_, _, _, _], h => exact absurd rfl h
  | _ :: _ :: _ :: _ :: _ :: _, _ => rfl
theorem out_zero {e : Rat} {cs : List V4} (hp : ∀ c ∈ cs, 0 < tot c) (hg : ∀ p ∈ cs, ∀ q ∈ cs, ∀ r ∈ cs, ∀ s ∈ cs, GenP (bV e) p q r s ∧ (FeasP (bV e) p q r s → NonP p q r s)) (l : List Bool) (hl : l.length = cs.length) : outS (fun l => feasB (bV e) (selL cs l)) l = false := by
  rw [out_sel cs (feasB (bV e)) l hl]
  by_cases h5 : (selL cs l).length = 5
  · have mem : ∀ x ∈ selL cs l, x ∈ cs := fun x hx => sel_mem hx
    match hs : selL cs l, h5 with
    | [v0, v1, v2, v3, v4], _ =>
      rw [hs] at mem
      have m0 := mem v0 (by simp)
      have m1 := mem v1 (by simp)
      have m2 := mem v2 (by simp)
      have m3 := mem v3 (by simp)
      have m4 := mem v4 (by simp)
      exact even5 v0 v1 v2 v3 v4 (bV e) ⟨hp _ m0, hp _ m1, hp _ m2, hp _ m3, hp _ m4⟩ (hg _ m1 _ m2 _ m3 _ m4).1 (hg _ m0 _ m2 _ m3 _ m4).1 (hg _ m0 _ m1 _ m3 _ m4).1 (hg _ m0 _ m1 _ m2 _ m4).1 (hg _ m0 _ m1 _ m2 _ m3).1
  · exact remX_no _ _ fun us hu => feasB_len (by omega)
def units : List V4 := [uV 0, uV 1, uV 2, uV 3]
theorem feas_units {e : Rat} (h : 0 < e) : feasB (bV e) units = true := by
  have h2 := Rat.mul_pos h h
  have h3 := Rat.mul_pos h2 h
  have h4 := Rat.mul_pos h3 h
  refine decide_eq_true ?_
  have d : D4 (uV 0) (uV 1) (uV 2) (uV 3) = 1 := by unfold D4 uV; simp; grind
  have d1 : D4 (bV e) (uV 1) (uV 2) (uV 3) = 1 + e := by unfold D4 uV bV; simp; grind
  have d2 : D4 (uV 0) (bV e) (uV 2) (uV 3) = 1 + e * e := by unfold D4 uV bV; simp; grind
  have d3 : D4 (uV 0) (uV 1) (bV e) (uV 3) = 1 + e * e * e := by unfold D4 uV bV; simp; grind
  have d4 : D4 (uV 0) (uV 1) (uV 2) (bV e) = 1 + e * e * e * e := by unfold D4 uV bV; simp; grind
  unfold FeasP
  rw [d, d1, d2, d3, d4]
  refine ⟨by decide, ?_, ?_, ?_, ?_⟩ <;> grind
/-- another pair of complementary choices -/
theorem another (ca cb : List V4) (la : ca.length = 4) (lb : cb.length = 4) (pa : ∀ c ∈ ca, 0 < tot c) (pb : ∀ c ∈ cb, 0 < tot c) : ∃ (e : Rat) (l : List Bool), 0 < e ∧ l.length = 8 ∧ l ≠ [false, false, false, false, true, true, true, true] ∧
    feasB (bV e) (selL (ca ++ units) l) = true ∧ feasB (bV e) (selL (units ++ cb) (l.map (!·))) = true ∧
    (∀ p q r s, selL (ca ++ units) l = [p, q, r, s] → NonP p q r s) ∧ (∀ p q r s, selL (units ++ cb) (l.map (!·)) = [p, q, r, s] → NonP p q r s) := by
  have pu : ∀ c ∈ units, 0 < tot c := fun c hc => by
    unfold units at hc
    simp only [List.mem_cons, List.mem_nil_iff, or_false] at hc
    rcases hc with rfl | rfl | rfl | rfl <;> (unfold tot uV; simp; grind)
  have p1 : ∀ c ∈ ca ++ units, 0 < tot c := fun c hc => (List.mem_append.mp hc).elim (pa c) (pu c)
  have p2 : ∀ c ∈ units ++ cb, 0 < tot c := fun c hc => (List.mem_append.mp hc).elim (pu c) (pb c)
  obtain ⟨e, he, g⟩ := (good_all (ca ++ units)).and (good_all (units ++ cb))
  obtain ⟨g1, g2⟩ := g e he Rat.le_refl
  have l1 : (ca ++ units).length = 8 := by rw [List.length_append, la]; rfl
  have l2 : (units ++ cb).length = 8 := by rw [List.length_append, lb]; rfl
  have ev := even_pairs (n := 7) (f := fun l => feasB (bV e) (selL (ca ++ units) l)) (h := fun l => feasB (bV e) (selL (units ++ cb) (l.map (!·)))) (fun l hl => out_zero p1 g1 l (by rw [l1, hl])) (fun l hl => by
    rw [in_out (fun l => feasB (bV e) (selL (units ++ cb) l)) l]
    exact out_zero p2 g2 _ (by rw [List.length_map, l2, hl]))
  have four : ∀ {c : List V4}, c.length = 4 → ∃ a b c' d, c = [a, b, c', d] := fun {c} h => match c, h with | [a, b, c', d], _ => ⟨a, b, c', d, rfl⟩
  obtain ⟨a0, a1, a2, a3, rfl⟩ := four la
  obtain ⟨b0, b1, b2, b3, rfl⟩ := four lb
  have ex : ∃ l, l.length = 8 ∧ l ≠ [false, false, false, false, true, true, true, true] ∧ (feasB (bV e) (selL ([a0, a1, a2, a3] ++ units) l) && feasB (bV e) (selL (units ++ [b0, b1, b2, b3]) (l.map (!·)))) = true := by
    refine Classical.byContradiction fun z => ?_
    have one := XS_one (n := 8) (G := fun l => feasB (bV e) (selL ([a0, a1, a2, a3] ++ units) l) && feasB (bV e) (selL (units ++ [b0, b1, b2, b3]) (l.map (!·)))) (l0 := [false, false, false, false, true, true, true, true]) rfl (by
      show (feasB (bV e) units && feasB (bV e) units) = true
      rw [feas_units he]
      rfl) fun l hl ne => by
        cases h : (feasB (bV e) (selL ([a0, a1, a2, a3] ++ units) l) && feasB (bV e) (selL (units ++ [b0, b1, b2, b3]) (l.map (!·)))) with
        | false => rfl
        | true => exact absurd ⟨l, hl, ne, h⟩ z
    rw [ev] at one
    cases one
  obtain ⟨l, hl, ne, h⟩ := ex
  rw [Bool.and_eq_true] at h
  refine ⟨e, l, he, hl, ne, h.1, h.2, fun p q r s hs => ?_, fun p q r s hs => ?_⟩
  · have mem : ∀ x ∈ selL ([a0, a1, a2, a3] ++ units) l, x ∈ [a0, a1, a2, a3] ++ units := fun x hx => sel_mem hx
    have h1 := h.1
    rw [hs] at mem h1
    exact (g1 p (mem p (by simp)) q (mem q (by simp)) r (mem r (by simp)) s (mem s (by simp))).2 (of_decide_eq_true h1)
  · have mem : ∀ x ∈ selL (units ++ [b0, b1, b2, b3]) (l.map (!·)), x ∈ units ++ [b0, b1, b2, b3] := fun x hx => sel_mem hx
    have h1 := h.2
    rw [hs] at mem h1
    exact (g2 p (mem p (by simp)) q (mem q (by simp)) r (mem r (by simp)) s (mem s (by simp))).2 (of_decide_eq_true h1)
/-! Data-level reasoning over the hand layer: what a program's text computes, said of PyData alone. F is the part of the abstract heap that never changes again; lists that a def grows itself are its own (ow). -/
open PySem L2

/-! ### the quiet part grows -/
structure Go (F H F' H' : Hp) : Prop where
  ff : Same F F'
  hh : Same H H'
  fh : Same F' H'
  nw : ∀ a o, H a = some o → F' a = F a
theorem Go.refl {F H : Hp} (h : Same F H) : Go F H F H := ⟨.refl F, .refl H, h, fun _ _ _ => rfl⟩
theorem Go.trans {F H F1 H1 F2 H2 : Hp} (a : Go F H F1 H1) (b : Go F1 H1 F2 H2) : Go F H F2 H2 :=
  ⟨a.ff.trans b.ff, a.hh.trans b.hh, b.fh, fun x o e => (b.nw x o (a.hh x o e)).trans (a.nw x o e)⟩
/-- the heap alone grows -/
theorem Go.heap {F H H' : Hp} (h : Same F H) (e : Same H H') : Go F H F H' := ⟨.refl F, e, h.trans e, fun _ _ _ => rfl⟩
theorem same_new {H : Hp} {p : Addr} {o : HO} (h : H p = none) : Same H (upd H p o) := fun a u e => by
  rw [upd_ne (ne_of_none e h)]
  exact e
theorem same_upd {F H : Hp} {p : Addr} {o : HO} (e : Same F H) (h : F p = none) : Same F (upd H p o) := fun a u q => by
  rw [upd_ne (ne_of_none q h)]
  exact e a u q
theorem same_updF {F H : Hp} {p : Addr} {o : HO} (e : Same F H) (h : H p = some o) : Same (upd F p o) H := fun a u q => by
  by_cases hp : a = p
  · subst hp
    rw [upd_same] at q
    exact h.trans q
  · rw [upd_ne hp] at q
    exact e a u q
theorem same_both {F H : Hp} {p : Addr} {o : HO} (e : Same F H) : Same (upd F p o) (upd H p o) := fun a u q => by
  by_cases hp : a = p
  · subst hp
    rw [upd_same] at q ⊢
    exact q
  · rw [upd_ne hp] at q ⊢
    exact e a u q
/-- a new object that is quiet from the start -/
theorem Go.new {F H : Hp} {p : Addr} {o : HO} (h : Same F H) (hp : H p = none) : Go F H (upd F p o) (upd H p o) :=
  ⟨same_new (h.free hp), same_new hp, same_both h, fun a u e => upd_ne (ne_of_none e hp)⟩

theorem seqT {K : PySem.W.Frag} {H H' : Hp} {a : Addr} {xs : List V} (e : Same H H') (h : SqT K H a xs) : SqT K H' a xs := by
  rcases h with h | h
  · rcases h with h | ⟨o, h⟩
    · exact .inl (.inl (e _ _ h))
    · exact .inl (.inr ⟨o, e _ _ h⟩)
  · exact .inr h

section
variable {K : PySem.W.Frag}
mutual
theorem dp_mono {F F' : Hp} (e : Same F F') : ∀ {v : V} {d : PyData}, Dp K F v d → Dp K F' v d
  | _, _, .non => .non
  | _, _, .bl b => .bl b
  | _, _, .int i => .int i
  | _, _, .str x => .str x
  | _, _, .lst h a => .lst (Same.seq e h) (dpAll_mono e a)
  | _, _, .tup h a => .tup (seqT e h) (dpAll_mono e a)
theorem dpAll_mono {F F' : Hp} (e : Same F F') : ∀ {vs : List V} {ds : List PyData}, DpAll K F vs ds → DpAll K F' vs ds
  | _, _, .nil => .nil
  | _, _, .cons h t => .cons (dp_mono e h) (dpAll_mono e t)
end
theorem dpAll_len {F : Hp} : ∀ {vs : List V} {ds : List PyData}, DpAll K F vs ds → vs.length = ds.length
  | _, _, .nil => rfl
  | _, _, .cons _ t => by rw [List.length_cons, List.length_cons, dpAll_len t]
theorem dpAll_get {F : Hp} : ∀ {vs : List V} {ds : List PyData} {i : Nat} {d : PyData}, DpAll K F vs ds → ds[i]? = some d → ∃ v, vs[i]? = some v ∧ Dp K F v d
  | _, _, _, _, .nil, e => by simp at e
  | _, _, 0, _, .cons h _, e => by simp at e; subst e; exact ⟨_, rfl, h⟩
  | _, _, i + 1, d, .cons _ t, e => by
    obtain ⟨v, h1, h2⟩ := dpAll_get (i := i) (d := d) t (by simpa using e)
    exact ⟨v, by simpa using h1, h2⟩
theorem dpAll_getV {F : Hp} : ∀ {vs : List V} {ds : List PyData} {i : Nat} {v : V}, DpAll K F vs ds → vs[i]? = some v → ∃ d, ds[i]? = some d ∧ Dp K F v d
  | _, _, _, _, .nil, e => by simp at e
  | _, _, 0, _, .cons h _, e => by simp at e; subst e; exact ⟨_, rfl, h⟩
  | _, _, i + 1, v, .cons _ t, e => by
    obtain ⟨d, h1, h2⟩ := dpAll_getV (i := i) (v := v) t (by simpa using e)
    exact ⟨d, by simpa using h1, h2⟩
theorem dpAll_append {F : Hp} : ∀ {vs ws : List V} {ds es : List PyData}, DpAll K F vs ds → DpAll K F ws es → DpAll K F (vs ++ ws) (ds ++ es)
  | _, _, _, _, .nil, s => s
  | _, _, _, _, .cons r t, s => .cons r (dpAll_append t s)
theorem dpAll_set {F : Hp} {v : V} {d : PyData} (h : Dp K F v d) : ∀ {vs : List V} {ds : List PyData} (i : Nat), DpAll K F vs ds → DpAll K F (vs.set i v) (ds.set i d)
  | _, _, _, .nil => .nil
  | _, _, 0, .cons _ t => .cons h t
  | _, _, i + 1, .cons r t => .cons r (dpAll_set h i t)
theorem dpAll_take {F : Hp} : ∀ {vs : List V} {ds : List PyData} (n : Nat), DpAll K F vs ds → DpAll K F (vs.take n) (ds.take n)
  | _, _, 0, _ => .nil
  | _, _, _ + 1, .nil => .nil
  | _, _, n + 1, .cons r t => .cons r (dpAll_take n t)
theorem dpAll_drop {F : Hp} : ∀ {vs : List V} {ds : List PyData} (n : Nat), DpAll K F vs ds → DpAll K F (vs.drop n) (ds.drop n)
  | _, _, 0, r => r
  | _, _, _ + 1, .nil => .nil
  | _, _, n + 1, .cons _ t => dpAll_drop n t
theorem dpAll_erase {F : Hp} : ∀ {vs : List V} {ds : List PyData} (i : Nat), DpAll K F vs ds → DpAll K F (vs.eraseIdx i) (ds.eraseIdx i)
  | _, _, _, .nil => .nil
  | _, _, 0, .cons _ t => t
  | _, _, i + 1, .cons r t => .cons r (dpAll_erase i t)
theorem dpAll_rev {F : Hp} : ∀ {vs : List V} {ds : List PyData}, DpAll K F vs ds → DpAll K F vs.reverse ds.reverse
  | _, _, .nil => .nil
  | _, _, .cons r t => by rw [List.reverse_cons, List.reverse_cons]; exact dpAll_append (dpAll_rev t) (.cons r .nil)
theorem dpAll_ints {F : Hp} : ∀ {vs : List V} {ns : List Int}, DpAll K F vs (ns.map PyData.int) → vs = ns.map V.int
  | _, [], .nil => rfl
  | _, _ :: _, .cons (.int _) t => by rw [List.map_cons, dpAll_ints t]
theorem ints_dpAll {F : Hp} : ∀ (ns : List Int), DpAll K F (ns.map V.int) (ns.map PyData.int)
  | [] => .nil
  | _ :: t => .cons (.int _) (ints_dpAll t)
theorem dpAll_bools {F : Hp} : ∀ {vs : List V} {ns : List Bool}, DpAll K F vs (ns.map PyData.bool) → vs = ns.map V.bl
  | _, [], .nil => rfl
  | _, _ :: _, .cons (.bl _) t => by rw [List.map_cons, dpAll_bools t]
theorem dpAll_strs {F : Hp} : ∀ {vs : List V} {ns : List Str}, DpAll K F vs (ns.map PyData.str) → vs = ns.map V.str
  | _, [], .nil => rfl
  | _, _ :: _, .cons (.str _) t => by rw [List.map_cons, dpAll_strs t]
theorem strs_dpAll {F : Hp} : ∀ (ns : List Str), DpAll K F (ns.map V.str) (ns.map PyData.str)
  | [] => .nil
  | _ :: t => .cons (.str _) (strs_dpAll t)
/-- a value that stands in no heap -/
inductive Sc : V → PyData → Prop where
  | non : Sc .non .none
  | bl (b : Bool) : Sc (.bl b) (.bool b)
  | int (i : Int) : Sc (.int i) (.int i)
  | str (x : Str) : Sc (.str x) (.str x)
theorem Sc.dp {F : Hp} {v : V} {d : PyData} : Sc v d → Dp K F v d
  | .non => .non
  | .bl b => .bl b
  | .int i => .int i
  | .str x => .str x
theorem dp_int {F : Hp} {v : V} {i : Int} : Dp K F v (.int i) → v = .int i
  | .int _ => rfl
theorem dp_bool {F : Hp} {v : V} {b : Bool} : Dp K F v (.bool b) → v = .bl b
  | .bl _ => rfl
theorem dp_str {F : Hp} {v : V} {b : Str} : Dp K F v (.str b) → v = .str b
  | .str _ => rfl
theorem dp_none {F : Hp} {v : V} : Dp K F v .none → v = .non
  | .non => rfl
theorem dp_list {F : Hp} {v : V} {ds : List PyData} : Dp K F v (.list ds) → ∃ a xs, v = .ref a ∧ SqL K F a xs ∧ DpAll K F xs ds
  | .lst h a => ⟨_, _, rfl, h, a⟩
theorem dp_tuple {F : Hp} {v : V} {ds : List PyData} : Dp K F v (.tuple ds) → ∃ a xs, v = .ref a ∧ SqT K F a xs ∧ DpAll K F xs ds
  | .tup h a => ⟨_, _, rfl, h, a⟩

/-! ### data that stand wholly in a part of the heap, as objects that may be written -/
mutual
inductive DpN (N : Hp) : V → PyData → Prop
  | sc {v : V} {d : PyData} : Sc v d → DpN N v d
  | lst {a : Addr} {xs : List V} {ds : List PyData} : N a = some (.lst xs) → DpNAll N xs ds → DpN N (.ref a) (.list ds)
  | tup {a : Addr} {xs : List V} {ds : List PyData} : N a = some (.tup xs) → DpNAll N xs ds → DpN N (.ref a) (.tuple ds)
inductive DpNAll (N : Hp) : List V → List PyData → Prop
  | nil : DpNAll N [] []
  | cons {v : V} {vs : List V} {d : PyData} {ds : List PyData} : DpN N v d → DpNAll N vs ds → DpNAll N (v :: vs) (d :: ds)
end
mutual
theorem dpN_dp {N : Hp} : ∀ {v : V} {d : PyData}, DpN N v d → Dp K N v d
  | _, _, .sc h => h.dp
  | _, _, .lst h a => .lst (.inl (.inl h)) (dpNAll_dp a)
  | _, _, .tup h a => .tup (.inl (.inl h)) (dpNAll_dp a)
theorem dpNAll_dp {N : Hp} : ∀ {vs : List V} {ds : List PyData}, DpNAll N vs ds → DpAll K N vs ds
  | _, _, .nil => .nil
  | _, _, .cons h t => .cons (dpN_dp h) (dpNAll_dp t)
end
mutual
theorem dpN_mono {N N' : Hp} (e : Same N N') : ∀ {v : V} {d : PyData}, DpN N v d → DpN N' v d
  | _, _, .sc h => .sc h
  | _, _, .lst h a => .lst (e _ _ h) (dpNAll_mono e a)
  | _, _, .tup h a => .tup (e _ _ h) (dpNAll_mono e a)
theorem dpNAll_mono {N N' : Hp} (e : Same N N') : ∀ {vs : List V} {ds : List PyData}, DpNAll N vs ds → DpNAll N' vs ds
  | _, _, .nil => .nil
  | _, _, .cons h t => .cons (dpN_mono e h) (dpNAll_mono e t)
end
theorem dpNAll_append {N : Hp} : ∀ {vs ws : List V} {ds es : List PyData}, DpNAll N vs ds → DpNAll N ws es → DpNAll N (vs ++ ws) (ds ++ es)
  | _, _, _, _, .nil, s => s
  | _, _, _, _, .cons r t, s => .cons r (dpNAll_append t s)
theorem dpNAll_len {N : Hp} : ∀ {vs : List V} {ds : List PyData}, DpNAll N vs ds → vs.length = ds.length
  | _, _, .nil => rfl
  | _, _, .cons _ t => by rw [List.length_cons, List.length_cons, dpNAll_len t]
theorem dpNAll_ints {N : Hp} : ∀ (ns : List Int), DpNAll N (ns.map V.int) (ns.map PyData.int)
  | [] => .nil
  | _ :: t => .cons (.sc (.int _)) (dpNAll_ints t)

/-! ### what a name holds -/
inductive Fl where
  | im (d : PyData)
  | ow (ds : List PyData)
  | nw (d : PyData)
  | nl (ds : List PyData)
  | ju
  | pr (ds : List PyData) (d : PyData)
  | ls (tup : Bool) (n : Nat) (its : List (Option (List PyData)))
  | qo (os : List (Addr × List (Str × PyData)))
  | pin (w : V) (d : PyData)
  | val (w : V)
inductive Sl where
  | no
  | fl (x : Fl)
  | ob (C : Addr) (fs : List (Str × Fl))
abbrev Sl.im (d : PyData) : Sl := .fl (.im d)
abbrev Sl.ow (ds : List PyData) : Sl := .fl (.ow ds)
/-- all of it new, in a part N of the heap of its own -/
abbrev Sl.nw (d : PyData) : Sl := .fl (.nw d)
/-- a list of one's own whose items are all new -/
abbrev Sl.nl (ds : List PyData) : Sl := .fl (.nl ds)
/-- a list of one's own, whatever is in it -/
abbrev Sl.ju : Sl := .fl .ju
/-- a pair of a list of one's own and something quiet -/
abbrev Sl.pr (ds : List PyData) (d : PyData) : Sl := .fl (.pr ds d)
/-- a tuple or a list (that stays) of lists of one's own: what is in each, if that is known -/
abbrev Sl.ls (tup : Bool) (n : Nat) (its : List (Option (List PyData))) : Sl := .fl (.ls tup n its)
/-- a quiet list of quiet objects -/
abbrev Sl.qo (os : List (Addr × List (Str × PyData))) : Sl := .fl (.qo os)
/-- quiet, and known which value it is -/
abbrev Sl.pin (w : V) (d : PyData) : Sl := .fl (.pin w d)
/-- which value it is, and no more -/
abbrev Sl.val (w : V) : Sl := .fl (.val w)
abbrev Lab := Addr → Option (Nat × Str)
abbrev noLab : Lab := fun _ => none
def ItV (K : PySem.W.Frag) (n : Nat) (F H : Hp) (lab : Lab) (o : Nat × Str) : List V → List (Option (List PyData)) → Prop
  | [], [] => True
  | w :: ws, it :: its => (∃ p vs, w = .ref p ∧ F p = none ∧ lab p = some o ∧ H p = some (.lst vs) ∧ vs.length ≤ n ∧ ∀ ds, it = some ds → DpAll K F vs ds) ∧ ItV K n F H lab o ws its
  | _, _ => False
theorem ItV.imp {K : PySem.W.Frag} {n : Nat} {F H F' H' : Hp} {lab lab' : Lab} {o o' : Nat × Str} (ff : Same F F') (k : ∀ p u, F p = none → lab p = some o → H p = some u → F' p = none ∧ lab' p = some o' ∧ H' p = some u) : ∀ {ws : List V} {its : List (Option (List PyData))}, ItV K n F H lab o ws its → ItV K n F' H' lab' o' ws its
  | [], [], _ => trivial
  | _ :: _, _ :: _, ⟨⟨p, vs, e, a, b, c, l, d⟩, t⟩ => ⟨⟨p, vs, e, (k p _ a b c).1, (k p _ a b c).2.1, (k p _ a b c).2.2, l, fun ds z => dpAll_mono ff (d ds z)⟩, ItV.imp ff k t⟩
def FdV (K : PySem.W.Frag) (F : Hp) : List (Str × V) → List (Str × PyData) → Prop
  | [], [] => True
  | p :: ps, q :: qs => p.1 = q.1 ∧ Dp K F p.2 q.2 ∧ FdV K F ps qs
  | _, _ => False
theorem FdV.mono {K : PySem.W.Frag} {F F' : Hp} (ff : Same F F') : ∀ {ps : List (Str × V)} {qs : List (Str × PyData)}, FdV K F ps qs → FdV K F' ps qs
  | [], [], _ => trivial
  | _ :: _, _ :: _, h => ⟨h.1, dp_mono ff h.2.1, FdV.mono ff h.2.2⟩
def QoV (K : PySem.W.Frag) (F : Hp) : List V → List (Addr × List (Str × PyData)) → Prop
  | [], [] => True
  | w :: ws, x :: xs => (∃ p dx fvs, w = .ref p ∧ F p = some (.ins x.1 dx fvs) ∧ FdV K F fvs x.2) ∧ QoV K F ws xs
  | _, _ => False
theorem QoV.mono {K : PySem.W.Frag} {F F' : Hp} (ff : Same F F') : ∀ {ws : List V} {xs : List (Addr × List (Str × PyData))}, QoV K F ws xs → QoV K F' ws xs
  | [], [], _ => trivial
  | _ :: _, _ :: _, ⟨⟨p, dx, fvs, e, a, b⟩, t⟩ => ⟨⟨p, dx, fvs, e, ff _ _ a, b.mono ff⟩, QoV.mono ff t⟩
def cnt (tup : Bool) (ws : List V) : HO := if tup = true then .tup ws else .lst ws
def FlV (K : PySem.W.Frag) (F H : Hp) (lab : Lab) (o : Nat × Str) (v : V) : Fl → Prop
  | .im d => Dp K F v d
  | .ow ds => ∃ p vs, v = .ref p ∧ F p = none ∧ lab p = some o ∧ H p = some (.lst vs) ∧ DpAll K F vs ds
  | .nw d => ∃ N : Hp, (∀ a u, N a = some u → H a = some u ∧ F a = none ∧ lab a = some o) ∧ DpN N v d
  | .nl ds => ∃ p vs N, v = .ref p ∧ F p = none ∧ lab p = some o ∧ H p = some (.lst vs) ∧ N p = none ∧ (∀ a u, N a = some u → H a = some u ∧ F a = none ∧ lab a = some o) ∧ DpNAll N vs ds
  | .ju => ∃ p vs, v = .ref p ∧ F p = none ∧ lab p = some o ∧ H p = some (.lst vs)
  | .ls tup n its => ∃ t ws, v = .ref t ∧ F t = some (cnt tup ws) ∧ ItV K n F H lab o ws its
  | .qo os => ∃ t ws, v = .ref t ∧ F t = some (.lst ws) ∧ QoV K F ws os
  | .pin w d => v = w ∧ Dp K F v d
  | .val w => v = w
  | .pr ds d => ∃ p vs, (∃ t w, v = .ref t ∧ F t = some (.tup [.ref p, w]) ∧ Dp K F w d) ∧ F p = none ∧ lab p = some o ∧ H p = some (.lst vs) ∧ DpAll K F vs ds
def FsV (K : PySem.W.Frag) (F H : Hp) (lab : Lab) (i : Nat) : List (Str × V) → List (Str × Fl) → Prop
  | [], [] => True
  | p :: ps, q :: qs => p.1 = q.1 ∧ FlV K F H lab (i, q.1) p.2 q.2 ∧ FsV K F H lab i ps qs
  | _, _ => False
def SlV (K : PySem.W.Frag) (F H : Hp) (lab : Lab) (i : Nat) (v : V) : Sl → Prop
  | .no => True
  | .fl x => FlV K F H lab (i, "") v x
  | .ob C fs => ∃ a dx fvs, v = .ref a ∧ F a = some (.ins C dx fvs) ∧ FsV K F H lab i fvs fs
abbrev Env := List Sl
structure Rs (K : PySem.W.Frag) (F : Hp) (lab : Lab) (σ : L2.St) (H : Hp) (G : Env) : Prop where
  fh : Same F H
  len : G.length = σ.length
  sl : ∀ (i : Nat) (s : Sl), G[i]? = some s → s ≠ .no → ∃ v, σ[i]? = some (some v) ∧ SlV K F H lab i v s
theorem FlV.go {F H F' H' : Hp} {lab : Lab} {o : Nat × Str} {v : V} {x : Fl} (g : Go F H F' H') (h : FlV K F H lab o v x) : FlV K F' H' lab o v x := by
  cases x with
  | im d => exact dp_mono g.ff h
  | ow ds =>
    obtain ⟨p, vs, e, n, l, hp, a⟩ := h
    exact ⟨p, vs, e, (g.nw p _ hp).trans n, l, g.hh _ _ hp, dpAll_mono g.ff a⟩
  | nw d =>
    obtain ⟨N, h, a⟩ := h
    exact ⟨N, fun b u e => ⟨g.hh _ _ (h b u e).1, (g.nw b _ (h b u e).1).trans (h b u e).2.1, (h b u e).2.2⟩, a⟩
  | nl ds =>
    obtain ⟨p, vs, N, e, n, l, hp, np, h, a⟩ := h
    exact ⟨p, vs, N, e, (g.nw p _ hp).trans n, l, g.hh _ _ hp, np, fun b u e => ⟨g.hh _ _ (h b u e).1, (g.nw b _ (h b u e).1).trans (h b u e).2.1, (h b u e).2.2⟩, a⟩
  | ju =>
    obtain ⟨p, vs, e, n, l, hp⟩ := h
    exact ⟨p, vs, e, (g.nw p _ hp).trans n, l, g.hh _ _ hp⟩
  | pr ds d =>
    obtain ⟨p, vs, ⟨t, w, e, ht, hw⟩, n, l, hp, a⟩ := h
    exact ⟨p, vs, ⟨t, w, e, g.ff _ _ ht, dp_mono g.ff hw⟩, (g.nw p _ hp).trans n, l, g.hh _ _ hp, dpAll_mono g.ff a⟩
  | ls tup nn its =>
    obtain ⟨t, ws, e, ht, hi⟩ := h
    exact ⟨t, ws, e, g.ff _ _ ht, hi.imp g.ff fun p u a b c => ⟨(g.nw p _ c).trans a, b, g.hh _ _ c⟩⟩
  | qo os =>
    obtain ⟨t, ws, e, ht, hi⟩ := h
    exact ⟨t, ws, e, g.ff _ _ ht, hi.mono g.ff⟩
  | pin w d => exact ⟨h.1, dp_mono g.ff h.2⟩
  | val w => exact h
theorem FsV.go {F H F' H' : Hp} {lab : Lab} {i : Nat} (g : Go F H F' H') : ∀ {ps : List (Str × V)} {qs : List (Str × Fl)}, FsV K F H lab i ps qs → FsV K F' H' lab i ps qs
  | [], [], _ => trivial
  | _ :: _, _ :: _, h => ⟨h.1, h.2.1.go g, FsV.go g h.2.2⟩
theorem SlV.go {F H F' H' : Hp} {lab : Lab} {i : Nat} {v : V} {s : Sl} (g : Go F H F' H') (h : SlV K F H lab i v s) : SlV K F' H' lab i v s := by
  cases s with
  | no => trivial
  | fl x => exact FlV.go g h
  | ob C fs =>
    obtain ⟨a, dx, fvs, e, ha, hf⟩ := h
    exact ⟨a, dx, fvs, e, g.ff _ _ ha, hf.go g⟩
theorem Rs.go {F H F' H' : Hp} {lab : Lab} {σ : L2.St} {G : Env} (r : Rs K F lab σ H G) (g : Go F H F' H') : Rs K F' lab σ H' G :=
  ⟨g.fh, r.len, fun i s h n => let ⟨v, e, q⟩ := r.sl i s h n; ⟨v, e, q.go g⟩⟩
/-- a value that has come: what is its own is new since H0 -/
def NvV (K : PySem.W.Frag) (F H H0 : Hp) (v : V) (s : Sl) : Prop := ∃ lab : Lab, SlV K F H lab 0 v s ∧ ∀ p o, lab p = some o → H0 p = none
theorem NvV.im {F H H0 : Hp} {v : V} {d : PyData} (h : Dp K F v d) : NvV K F H H0 v (.im d) := ⟨noLab, h, fun _ _ e => nomatch e⟩
theorem NvV.dp {F H H0 : Hp} {v : V} {d : PyData} (h : NvV K F H H0 v (.im d)) : Dp K F v d := let ⟨_, h, _⟩ := h; h
theorem NvV.go {F H F' H' H0 : Hp} {v : V} {s : Sl} (g : Go F H F' H') (h : NvV K F H H0 v s) : NvV K F' H' H0 v s := let ⟨l, h, n⟩ := h; ⟨l, h.go g, n⟩
theorem NvV.base {F H H0 H1 : Hp} {v : V} {s : Sl} (e : Same H0 H1) (h : NvV K F H H1 v s) : NvV K F H H0 v s := let ⟨l, h, n⟩ := h; ⟨l, h, fun p o q => e.free (n p o q)⟩

/-! ### evaluation, at the level of data -/
def EvS (K : PySem.W.Frag) (te : TE) (G : Env) (s : Sl) : Prop := ∀ F lab σ H, Rs K F lab σ H G → ∀ Q : VK, (∀ v F' H', Go F H F' H' → NvV K F' H' H v s → Q v H') → te σ H Q
abbrev Ev (K : PySem.W.Frag) (te : TE) (G : Env) (d : PyData) : Prop := EvS K te G (.im d)
/-- .. where the value may lie in a list that still grows -/
def EvH (K : PySem.W.Frag) (te : TE) (G : Env) (d : PyData) : Prop := ∀ F lab σ H, Rs K F lab σ H G → ∀ Q : VK, (∀ v F' H', Go F H F' H' → Dp K H' v d → Q v H') → te σ H Q
def EvB (K : PySem.W.Frag) (tt : TT) (G : Env) (b : Bool) : Prop := ∀ F lab σ H, Rs K F lab σ H G → ∀ Q : Bool → Hp → Prop, (∀ F' H', Go F H F' H' → Q b H') → tt σ H Q
/-- an argument, as the callee sees it -/
def ArgV (K : PySem.W.Frag) (F : Hp) (v : V) (s : Sl) : Prop := SlV K F F noLab 0 v s
def ArgsV (K : PySem.W.Frag) (F : Hp) : List V → List Sl → Prop
  | [], [] => True
  | v :: vs, s :: ss => ArgV K F v s ∧ ArgsV K F vs ss
  | _, _ => False
def EvA (K : PySem.W.Frag) (ta : TA) (G : Env) (ss : List Sl) : Prop := ∀ F lab σ H, Rs K F lab σ H G → ∀ Q : List V → Hp → Prop, (∀ vs F' H', Go F H F' H' → ArgsV K F' vs ss → Q vs H') → ta σ H Q
def EvAH (K : PySem.W.Frag) (ta : TA) (G : Env) (ss : List Sl) : Prop := ∀ F lab σ H, Rs K F lab σ H G → ∀ Q : List V → Hp → Prop, (∀ vs F' H', Go F H F' H' → ArgsV K H' vs ss → Q vs H') → ta σ H Q
theorem FlV.same {F F' H H' : Hp} {o o' : Nat × Str} {v : V} {x : Fl} (g : Same F F') (h : FlV K F H noLab o v x) : FlV K F' H' noLab o' v x := by
  cases x with
  | im d => exact dp_mono g h
  | ow ds =>
    obtain ⟨p, vs, e, n, l, hp, a⟩ := h
    cases l
  | nw d =>
    obtain ⟨N, h, a⟩ := h
    exact ⟨N, (fun b u e => nomatch (h b u e).2.2), a⟩
  | nl ds =>
    obtain ⟨p, vs, N, e, n, l, _⟩ := h
    cases l
  | ju =>
    obtain ⟨p, vs, e, n, l, hp⟩ := h
    cases l
  | pr ds d =>
    obtain ⟨p, vs, e, n, l, hp⟩ := h
    cases l
  | ls tup nn its =>
    obtain ⟨t, ws, e, ht, hi⟩ := h
    exact ⟨t, ws, e, g _ _ ht, ItV.imp (lab := noLab) (lab' := noLab) (o := o) (o' := o') g (fun p u a (b : (none : Option (Nat × Str)) = some o) c => nomatch b) hi⟩
  | qo os =>
    obtain ⟨t, ws, e, ht, hi⟩ := h
    exact ⟨t, ws, e, g _ _ ht, hi.mono g⟩
  | pin w d => exact ⟨h.1, dp_mono g h.2⟩
  | val w => exact h
theorem FsV.same {F F' H H' : Hp} {i i' : Nat} (g : Same F F') : ∀ {ps : List (Str × V)} {qs : List (Str × Fl)}, FsV K F H noLab i ps qs → FsV K F' H' noLab i' ps qs
  | [], [], _ => trivial
  | _ :: _, _ :: _, h => ⟨h.1, h.2.1.same g, FsV.same g h.2.2⟩
theorem SlV.same {F F' H H' : Hp} {i i' : Nat} {v : V} {s : Sl} (g : Same F F') (h : SlV K F H noLab i v s) : SlV K F' H' noLab i' v s := by
  cases s with
  | no => trivial
  | fl x => exact FlV.same g h
  | ob C fs =>
    obtain ⟨a, dx, fvs, e, ha, hf⟩ := h
    exact ⟨a, dx, fvs, e, g _ _ ha, hf.same g⟩
theorem ArgV.mono {F F' : Hp} {v : V} {s : Sl} (g : Same F F') (h : ArgV K F v s) : ArgV K F' v s := SlV.same g h
theorem ArgsV.mono {F F' : Hp} (g : Same F F') : ∀ {vs : List V} {ss : List Sl}, ArgsV K F vs ss → ArgsV K F' vs ss
  | [], [], _ => trivial
  | _ :: _, _ :: _, h => ⟨h.1.mono g, ArgsV.mono g h.2⟩
theorem ArgV.dp {F : Hp} {v : V} {d : PyData} (h : ArgV K F v (.im d)) : Dp K F v d := h
theorem EvS.h {te : TE} {G : Env} {d : PyData} (h : Ev K te G d) : EvH K te G d := fun F lab σ H r Q q => h F lab σ H r Q fun v F' H' g n => q v F' H' g (dp_mono g.fh n.dp)
theorem EvA.h {ta : TA} {G : Env} {ss : List Sl} (h : EvA K ta G ss) : EvAH K ta G ss := fun F lab σ H r Q q => h F lab σ H r Q fun v F' H' g n => q v F' H' g (n.mono g.fh)
/-- of no heap: quiet -/
theorem EvH.sc {te : TE} {G : Env} {d : PyData} (h : EvH K te G d) (hd : ∀ F F' v, Dp K F v d → Dp K F' v d) : Ev K te G d := fun F lab σ H r Q q => h F lab σ H r Q fun v F' H' g n => q v F' H' g (.im (hd _ _ _ n))
/-- a new list becomes quiet -/
theorem EvS.freeze {te : TE} {G : Env} {ds : List PyData} (h : EvS K te G (.ow ds)) : Ev K te G (.list ds) := fun F lab σ H r Q q => h F lab σ H r Q fun v F' H' g n => by
  obtain ⟨l, ⟨p, vs, rfl, fp, lp, hp, a⟩, nw⟩ := n
  have hn := nw p _ lp
  refine q (.ref p) (upd F' p (.lst vs)) H' ⟨g.ff.trans (same_new fp), g.hh, same_updF g.fh hp, fun a o e => ?_⟩ (.im (.lst (.inl (.inl upd_same)) (dpAll_mono (same_new fp) a)))
  rw [upd_ne (ne_of_none e hn)]
  exact g.nw a o e
/-- two parts of a heap -/
def cup (F N : Hp) : Hp := fun a => match F a with
  | some u => some u
  | none => N a
theorem cup_left {F N : Hp} : Same F (cup F N) := fun a u e => by unfold cup; rw [e]
theorem cup_right {F N : Hp} (h : ∀ a u, N a = some u → F a = none) : Same N (cup F N) := fun a u e => by unfold cup; rw [h a u e]; exact e
theorem cup_in {F N H : Hp} (h : Same F H) (h2 : Same N H) : Same (cup F N) H := fun a u e => by
  unfold cup at e
  cases q : F a with
  | some w => rw [q] at e; cases e; exact h _ _ q
  | none => rw [q] at e; exact h2 _ _ e
theorem EvS.freezeN {te : TE} {G : Env} {d : PyData} (h : EvS K te G (.nw d)) : Ev K te G d := fun F lab σ H r Q q => h F lab σ H r Q fun v F' H' g n => by
  obtain ⟨l, ⟨N, hN, a⟩, nw⟩ := n
  refine q v (cup F' N) H' ⟨g.ff.trans cup_left, g.hh, cup_in g.fh (fun a u e => (hN a u e).1), fun a o e => ?_⟩ (.im (dp_mono (cup_right fun a u e => (hN a u e).2.1) (dpN_dp a)))
  unfold cup
  cases q : F' a with
  | some u => rw [← g.nw a o e, q]
  | none =>
    cases q2 : N a with
    | none => rw [← g.nw a o e, q]
    | some u =>
      have := nw a _ (hN a u q2).2.2
      rw [e] at this
      cases this
end
open PySem L2
section
variable {K : PySem.W.Frag} {G : Env} {ta tb te tc : TE}

/-! ### names, constants -/
theorem ev_var {i : Nat} {d : PyData} (h : G[i]? = some (.im d)) : Ev K (tVar i) G d := fun F lab σ H r Q q => by
  obtain ⟨v, e, s⟩ := r.sl i _ h (fun z => nomatch z)
  exact ⟨v, e, q v F H (.refl r.fh) (.im s)⟩
theorem ev_c {v : V} {d : PyData} (h : Sc v d) : Ev K (tC v) G d := fun F lab σ H r Q q => q v F H (.refl r.fh) (.im h.dp)
/-- a list that grows, read in passing -/
theorem eh_own {i : Nat} {ds : List PyData} (h : G[i]? = some (.ow ds)) : EvH K (tVar i) G (.list ds) := fun F lab σ H r Q q => by
  obtain ⟨v, e, p, vs, rfl, fp, lp, hp, a⟩ := r.sl i _ h (fun z => nomatch z)
  exact ⟨_, e, q _ F H (.refl r.fh) (.lst (.inl (.inl hp)) (dpAll_mono r.fh a))⟩
/-- what is all new, read in passing -/
theorem eh_nw {i : Nat} {d : PyData} (h : G[i]? = some (.nw d)) : EvH K (tVar i) G d := fun F lab σ H r Q q => by
  obtain ⟨v, e, N, hN, a⟩ := r.sl i _ h (fun z => nomatch z)
  exact ⟨_, e, q _ F H (.refl r.fh) (dp_mono (fun b u q => (hN b u q).1) (dpN_dp a))⟩
theorem eh_nl {i : Nat} {ds : List PyData} (h : G[i]? = some (.nl ds)) : EvH K (tVar i) G (.list ds) := fun F lab σ H r Q q => by
  obtain ⟨v, e, p, vs, N, rfl, fp, lp, hp, np, hN, a⟩ := r.sl i _ h (fun z => nomatch z)
  exact ⟨_, e, q _ F H (.refl r.fh) (.lst (.inl (.inl hp)) (dpAll_mono (fun b u q => (hN b u q).1) (dpNAll_dp a)))⟩
def quiet : List (Str × Fl) → List (Str × Fl)
  | [] => []
  | (n, .im d) :: r => (n, .im d) :: quiet r
  | (n, .ow ds) :: r => (n, .im (.list ds)) :: quiet r
  | (n, .nw d) :: r => (n, .im d) :: quiet r
  | (n, .nl ds) :: r => (n, .im (.list ds)) :: quiet r
  | (n, .ju) :: r => (n, .ju) :: quiet r
  | (n, .pr ds d) :: r => (n, .pr ds d) :: quiet r
  | (n, .ls b m x) :: r => (n, .ls b m x) :: quiet r
  | (n, .qo x) :: r => (n, .qo x) :: quiet r
  | (n, .pin _ d) :: r => (n, .im d) :: quiet r
  | (n, .val w) :: r => (n, .val w) :: quiet r
def allIm : List (Str × Fl) → Bool
  | [] => true
  | (_, .im _) :: r => allIm r
  | _ :: _ => false
theorem FsV.allIm {F H F' H' : Hp} {lab : Lab} {i j : Nat} (g : Same F F') : ∀ {ps : List (Str × V)} {qs : List (Str × Fl)}, UU.allIm qs = true → FsV K F H lab i ps qs → FsV K F' H' noLab j ps qs
  | [], [], _, _ => trivial
  | _ :: _, (_, .im _) :: _, a, h => ⟨h.1, dp_mono g h.2.1, FsV.allIm g a h.2.2⟩
  | _ :: _, (_, .ow _) :: _, a, _ => nomatch a
  | _ :: _, (_, .nw _) :: _, a, _ => nomatch a
  | _ :: _, (_, .nl _) :: _, a, _ => nomatch a
  | _ :: _, (_, .ju) :: _, a, _ => nomatch a
  | _ :: _, (_, .pr _ _) :: _, a, _ => nomatch a
  | _ :: _, (_, .ls _ _ _) :: _, a, _ => nomatch a
  | _ :: _, (_, .qo _) :: _, a, _ => nomatch a
  | _ :: _, (_, .pin _ _) :: _, a, _ => nomatch a
  | _ :: _, (_, .val _) :: _, a, _ => nomatch a
/-- an object, all of it quiet -/
theorem ev_obj {i : Nat} {C : Addr} {fs : List (Str × Fl)} (h : G[i]? = some (.ob C fs)) (a : allIm fs = true) : EvS K (tVar i) G (.ob C fs) := fun F lab σ H r Q q => by
  obtain ⟨v, e, p, dx, fvs, rfl, ha, hf⟩ := r.sl i _ h (fun z => nomatch z)
  exact ⟨_, e, q _ F H (.refl r.fh) ⟨noLab, ⟨p, dx, fvs, rfl, ha, hf.allIm (.refl F) a⟩, fun _ _ z => nomatch z⟩⟩
/-- .. as the callee sees it: its own lists are read in passing -/
def noJu : List (Str × Fl) → Bool
  | [] => true
  | (_, .ju) :: _ => false
  | (_, .pr _ _) :: _ => false
  | (_, .ls _ _ _) :: _ => false
  | (_, .qo _) :: _ => false
  | _ :: r => noJu r
theorem FsV.quiet {F H : Hp} {lab : Lab} {i j : Nat} (g : Same F H) : ∀ {ps : List (Str × V)} {qs : List (Str × Fl)}, noJu qs = true → FsV K F H lab i ps qs → FsV K H H noLab j ps (quiet qs)
  | [], [], _, _ => trivial
  | _ :: _, (_, .im _) :: _, n, h => ⟨h.1, dp_mono g h.2.1, FsV.quiet g n h.2.2⟩
  | (_, _) :: _, (_, .nw _) :: _, n, ⟨e, ⟨N, hN, a⟩, t⟩ => ⟨e, dp_mono (fun b u q => (hN b u q).1) (dpN_dp a), FsV.quiet g n t⟩
  | (_, _) :: _, (_, .nl _) :: _, n, ⟨e, ⟨p, vs, N, e2, _, _, hp, _, hN, a⟩, t⟩ => ⟨e, by
      subst e2
      exact Dp.lst (.inl (.inl hp)) (dpAll_mono (fun b u q => (hN b u q).1) (dpNAll_dp a)), FsV.quiet g n t⟩
  | _ :: _, (_, .ju) :: _, n, _ => nomatch n
  | _ :: _, (_, .pr _ _) :: _, n, _ => nomatch n
  | _ :: _, (_, .ls _ _ _) :: _, n, _ => nomatch n
  | _ :: _, (_, .qo _) :: _, n, _ => nomatch n
  | _ :: _, (_, .pin _ _) :: _, n, h => ⟨h.1, dp_mono g h.2.1.2, FsV.quiet g n h.2.2⟩
  | _ :: _, (_, .val _) :: _, n, h => ⟨h.1, h.2.1, FsV.quiet g n h.2.2⟩
  | (_, _) :: _, (_, .ow _) :: _, n, ⟨e, ⟨p, vs, e2, _, _, hp, a⟩, t⟩ => ⟨e, by
      subst e2
      exact Dp.lst (.inl (.inl hp)) (dpAll_mono g a), FsV.quiet g n t⟩
def quietS : Sl → Sl
  | .no => .no
  | .fl (.im d) => .im d
  | .fl (.ow ds) => .im (.list ds)
  | .fl (.nw d) => .im d
  | .fl (.nl ds) => .im (.list ds)
  | .fl .ju => .ju
  | .fl (.pr ds d) => .pr ds d
  | .fl (.ls b m x) => .ls b m x
  | .fl (.qo x) => .qo x
  | .fl (.pin _ d) => .im d
  | .fl (.val w) => .val w
  | .ob C fs => .ob C (quiet fs)
theorem SlV.quietO {F H : Hp} {lab : Lab} {i : Nat} {v : V} {C : Addr} {fs : List (Str × Fl)} (g : Same F H) (n : noJu fs = true) : SlV K F H lab i v (.ob C fs) → ArgV K H v (.ob C (quiet fs))
  | ⟨a, dx, fvs, e, ha, hf⟩ => ⟨a, dx, fvs, e, g _ _ ha, hf.quiet g n⟩
/-- a field of a quiet object -/
theorem FsV.look {F H : Hp} {lab : Lab} {i : Nat} {f : Str} : ∀ {ps : List (Str × V)} {qs : List (Str × Fl)} {x : Fl}, FsV K F H lab i ps qs → qs.lookup f = some x → ∃ v, ps.lookup f = some v ∧ FlV K F H lab (i, f) v x
  | [], [], _, _, e => by simp at e
  | (n, w) :: ps, (m, y) :: qs, x, h, e => by
    obtain ⟨h1, h2, h3⟩ := h
    dsimp only at h1 h2
    subst h1
    rw [List.lookup_cons] at e ⊢
    by_cases hf : f = n
    · subst hf
      simp only [beq_self_eq_true] at e ⊢
      cases e
      exact ⟨w, rfl, h2⟩
    · have hb : (f == n) = false := by simpa using hf
      rw [hb] at e ⊢
      exact FsV.look h3 e
theorem ev_fld {i : Nat} {C : Addr} {fs : List (Str × Fl)} {f : Str} {d : PyData} (h : G[i]? = some (.ob C fs)) (c : Cls K C) (n : NoAttr K C f) (l : fs.lookup f = some (.im d)) : Ev K (tFld K (tVar i) f) G d := fun F lab σ H r Q q => by
  obtain ⟨v, e, p, dx, fvs, rfl, ha, hf⟩ := r.sl i _ h (fun z => nomatch z)
  obtain ⟨w, lw, hw⟩ := hf.look l
  exact ⟨_, e, p, C, dx, fvs, w, rfl, r.fh _ _ ha, c, n, lw, q _ F H (.refl r.fh) (.im hw)⟩
theorem eh_fldO {i : Nat} {C : Addr} {fs : List (Str × Fl)} {f : Str} {ds : List PyData} (h : G[i]? = some (.ob C fs)) (c : Cls K C) (n : NoAttr K C f) (l : fs.lookup f = some (.ow ds)) : EvH K (tFld K (tVar i) f) G (.list ds) := fun F lab σ H r Q q => by
  obtain ⟨v, e, p, dx, fvs, rfl, ha, hf⟩ := r.sl i _ h (fun z => nomatch z)
  obtain ⟨w, lw, y, vs, rfl, fp, lp, hp, a⟩ := hf.look l
  exact ⟨_, e, p, C, dx, fvs, _, rfl, r.fh _ _ ha, c, n, lw, q _ F H (.refl r.fh) (.lst (.inl (.inl hp)) (dpAll_mono r.fh a))⟩

/-! ### operations whose answer stands in no heap -/
theorem ev_op2 {r : R2} {a b d : PyData} (ha : EvH K ta G a) (hb : EvH K tb G b) (hr : ∀ H x y, Dp K H x a → Dp K H y b → ∀ Q : VK, (∀ v, Sc v d → Q v H) → r x y H Q) : Ev K (tOp r ta tb) G d := fun F lab σ H rs Q q =>
  ha F lab σ H rs _ fun x F1 H1 g1 d1 => hb F1 lab σ H1 (rs.go g1) _ fun y F2 H2 g2 d2 => hr H2 x y (dp_mono g2.hh d1) d2 Q fun v s => q v F2 H2 (g1.trans g2) (.im s.dp)
theorem ev_un {r : V → Hp → VK → Prop} {a d : PyData} (ha : EvH K ta G a) (hr : ∀ H x, Dp K H x a → ∀ Q : VK, (∀ v, Sc v d → Q v H) → r x H Q) : Ev K (tUn r ta) G d := fun F lab σ H rs Q q =>
  ha F lab σ H rs _ fun x F1 H1 g1 d1 => hr H1 x d1 Q fun v s => q v F1 H1 g1 (.im s.dp)
theorem ev_I0 {g : Int → Int → V} {i j : Int} {d : PyData} (ha : EvH K ta G (.int i)) (hb : EvH K tb G (.int j)) (s : Sc (g i j) d) : Ev K (tOp (rI0 g) ta tb) G d :=
  ev_op2 ha hb fun H x y hx hy Q q => ⟨i, j, dp_int hx, dp_int hy, q _ s⟩
theorem ev_I {C : Int → Int → Prop} {g : Int → Int → V} {i j : Int} {d : PyData} (ha : EvH K ta G (.int i)) (hb : EvH K tb G (.int j)) (s : Sc (g i j) d) (c : C i j) : Ev K (tOp (rI C g) ta tb) G d :=
  ev_op2 ha hb fun H x y hx hy Q q => ⟨i, j, dp_int hx, dp_int hy, c, q _ s⟩
theorem ev_neg {i : Int} (ha : EvH K ta G (.int i)) : Ev K (tUn (rU fun i => .int (-i)) ta) G (.int (-i)) := ev_un ha fun H x hx Q q => ⟨i, dp_int hx, q _ (.int _)⟩
theorem ev_eqD {a b : PyData} (ha : EvH K ta G a) (hb : EvH K tb G b) (sa : SeqAt.shaped a = true) (sb : SeqAt.shaped b = true) : Ev K (tOp (rEqD K) ta tb) G (.bool (PyData.eqv a b)) :=
  ev_op2 ha hb fun H x y hx hy Q q => ⟨a, b, hx, hy, sa, sb, q _ (.bl _)⟩
theorem ev_neD {a b : PyData} (ha : EvH K ta G a) (hb : EvH K tb G b) (sa : SeqAt.shaped a = true) (sb : SeqAt.shaped b = true) : Ev K (tOp (rNeD K) ta tb) G (.bool (!PyData.eqv a b)) :=
  ev_op2 ha hb fun H x y hx hy Q q => ⟨a, b, hx, hy, sa, sb, q _ (.bl _)⟩
theorem ev_inD {a : PyData} {ds : List PyData} (ha : EvH K ta G a) (hb : EvH K tb G (.list ds)) (sa : SeqAt.shaped a = true) (sb : SeqAt.shaped (.list ds) = true) : Ev K (tOp (rInD K) ta tb) G (.bool (ds.any fun z => PyData.eqv z a)) :=
  ev_op2 ha hb fun H x y hx hy Q q => ⟨a, ds, hx, hy, sa, sb, q _ (.bl _)⟩
theorem ev_notInD {a : PyData} {ds : List PyData} (ha : EvH K ta G a) (hb : EvH K tb G (.list ds)) (sa : SeqAt.shaped a = true) (sb : SeqAt.shaped (.list ds) = true) : Ev K (tOp (rNotInD K) ta tb) G (.bool (!ds.any fun z => PyData.eqv z a)) :=
  ev_op2 ha hb fun H x y hx hy Q q => ⟨a, ds, hx, hy, sa, sb, q _ (.bl _)⟩
/-- a < b < c, of whole numbers -/
theorem ev_chain {g g' : Int → Int → Bool} {i j k : Int} (ha : EvH K ta G (.int i)) (hb : EvH K tb G (.int j)) (hc : EvH K tc G (.int k)) : Ev K (tChain (rI0 fun i j => .bl (g i j)) (rI0 fun i j => .bl (g' i j)) ta tb tc) G (.bool (g i j && g' j k)) := fun F lab σ H rs Q q =>
  ha F lab σ H rs _ fun x F1 H1 g1 d1 => hb F1 lab σ H1 (rs.go g1) _ fun y F2 H2 g2 d2 => ⟨i, j, dp_int d1, dp_int d2, g i j, rfl, by
    cases e : g i j with
    | true =>
      refine hc F2 lab σ H2 (rs.go (g1.trans g2)) _ fun z F3 H3 g3 d3 => ⟨j, k, dp_int d2, dp_int d3, ?_⟩
      have := q (.bl (g' j k)) F3 H3 ((g1.trans g2).trans g3)
      rw [e] at this
      exact this (.im (.bl _))
    | false =>
      have := q (.bl false) F2 H2 (g1.trans g2)
      rw [e] at this
      exact this (.im (.bl _))⟩

/-! ### tests -/
theorem eb_test {b : Bool} (h : EvH K te G (.bool b)) : EvB K (tTest te) G b := fun F lab σ H rs Q q => h F lab σ H rs _ fun x F1 H1 g1 d1 => ⟨b, dp_bool d1, q F1 H1 g1⟩
theorem eb_B {b : Bool} (h : EvH K te G (.bool b)) : EvB K (tB te) G b := fun F lab σ H rs Q q => h F lab σ H rs _ fun x F1 H1 g1 d1 => ⟨b, dp_bool d1, q F1 H1 g1⟩
section
variable {t u : TT}
theorem eb_and {a b : Bool} (h1 : EvB K t G a) (h2 : a = true → EvB K u G b) : EvB K (tAnd t u) G (a && b) := fun F lab σ H rs Q q => h1 F lab σ H rs _ fun F1 H1 g1 => by
  cases a with
  | true => exact h2 rfl F1 lab σ H1 (rs.go g1) Q fun F2 H2 g2 => q F2 H2 (g1.trans g2)
  | false => exact q F1 H1 g1
theorem eb_or {a b : Bool} (h1 : EvB K t G a) (h2 : a = false → EvB K u G b) : EvB K (tOr t u) G (a || b) := fun F lab σ H rs Q q => h1 F lab σ H rs _ fun F1 H1 g1 => by
  cases a with
  | true => exact q F1 H1 g1
  | false => exact h2 rfl F1 lab σ H1 (rs.go g1) Q fun F2 H2 g2 => q F2 H2 (g1.trans g2)
theorem eb_not {a : Bool} (h1 : EvB K t G a) : EvB K (tNot t) G (!a) := fun F lab σ H rs Q q => h1 F lab σ H rs _ fun F1 H1 g1 => q F1 H1 g1
theorem eb_yes : EvB K tYes G true := fun F lab σ H rs Q q => q F H (.refl rs.fh)
theorem EvB.to {a b : Bool} (h : EvB K t G a) (e : a = b) : EvB K t G b := e ▸ h
theorem ev_if {b : Bool} {s : Sl} (h : EvB K t G b) (h1 : b = true → EvS K ta G s) (h2 : b = false → EvS K tb G s) : EvS K (tIf t ta tb) G s := fun F lab σ H rs Q q => h F lab σ H rs _ fun F1 H1 g1 => by
  cases b with
  | true => exact h1 rfl F1 lab σ H1 (rs.go g1) Q fun v F2 H2 g2 n => q v F2 H2 (g1.trans g2) (n.base g1.hh)
  | false => exact h2 rfl F1 lab σ H1 (rs.go g1) Q fun v F2 H2 g2 n => q v F2 H2 (g1.trans g2) (n.base g1.hh)
end
theorem EvS.to {s s' : Sl} (h : EvS K te G s) (e : s = s') : EvS K te G s' := e ▸ h
theorem Ev.to {d d' : PyData} (h : Ev K te G d) (e : d = d') : Ev K te G d' := e ▸ h
theorem EvH.to {d d' : PyData} (h : EvH K te G d) (e : d = d') : EvH K te G d' := e ▸ h
theorem ev_andV {a b : Bool} (h1 : EvH K ta G (.bool a)) (h2 : a = true → EvH K tb G (.bool b)) : Ev K (tAndV ta tb) G (.bool (a && b)) := fun F lab σ H rs Q q => h1 F lab σ H rs _ fun x F1 H1 g1 d1 => ⟨a, dp_bool d1, by
  cases a with
  | true => exact h2 rfl F1 lab σ H1 (rs.go g1) Q fun v F2 H2 g2 d2 => q v F2 H2 (g1.trans g2) (.im (by rw [dp_bool d2]; exact .bl _))
  | false => exact q _ F1 H1 g1 (.im (.bl _))⟩
theorem ev_orV {a b : Bool} (h1 : EvH K ta G (.bool a)) (h2 : a = false → EvH K tb G (.bool b)) : Ev K (tOrV ta tb) G (.bool (a || b)) := fun F lab σ H rs Q q => h1 F lab σ H rs _ fun x F1 H1 g1 d1 => ⟨a, dp_bool d1, by
  cases a with
  | true => exact q _ F1 H1 g1 (.im (.bl _))
  | false => exact h2 rfl F1 lab σ H1 (rs.go g1) Q fun v F2 H2 g2 d2 => q v F2 H2 (g1.trans g2) (.im (by rw [dp_bool d2]; exact .bl _))⟩
theorem ev_notV {a : Bool} (h1 : EvH K ta G (.bool a)) : Ev K (tNotV ta) G (.bool (!a)) := fun F lab σ H rs Q q => h1 F lab σ H rs _ fun x F1 H1 g1 d1 => ⟨a, dp_bool d1, q _ F1 H1 g1 (.im (.bl _))⟩

/-! ### arguments, displays -/
theorem ea_nil : EvA K tNil G [] := fun F lab σ H rs Q q => q [] F H (.refl rs.fh) trivial
def isQuiet : Sl → Bool
  | .no => true
  | .fl (.im _) => true
  | .fl _ => false
  | .ob _ fs => allIm fs
theorem FlV.arg {F H H0 : Hp} {v : V} {s : Sl} (h : NvV K F H H0 v s) (n : isQuiet s = true) : ArgV K F v s := by
  obtain ⟨lab, h, _⟩ := h
  cases s with
  | no => trivial
  | fl x =>
    cases x with
    | im d => exact h
    | ow ds => exact nomatch n
    | nw d => exact nomatch n
    | nl d => exact nomatch n
    | ju => exact nomatch n
    | pr _ _ => exact nomatch n
    | ls _ _ _ => exact nomatch n
    | qo _ => exact nomatch n
    | pin _ _ => exact nomatch n
    | val _ => exact nomatch n
  | ob C fs =>
    obtain ⟨a, dx, fvs, e, ha, hf⟩ := h
    exact ⟨a, dx, fvs, e, ha, hf.allIm (.refl F) n⟩
theorem ea_cons {t : TA} {s : Sl} {ss : List Sl} (h : EvS K te G s) (hr : EvA K t G ss) (n : isQuiet s = true := by rfl) : EvA K (tCons te t) G (s :: ss) := fun F lab σ H rs Q q =>
  h F lab σ H rs _ fun v F1 H1 g1 d1 => hr F1 lab σ H1 (rs.go g1) _ fun vs F2 H2 g2 d2 => q (v :: vs) F2 H2 (g1.trans g2) ⟨(FlV.arg d1 n).mono g2.ff, d2⟩
theorem eah_nil : EvAH K tNil G [] := ea_nil.h
theorem eah_cons {t : TA} {d : PyData} {ss : List Sl} (h : EvH K te G d) (hr : EvAH K t G ss) : EvAH K (tCons te t) G (.im d :: ss) := fun F lab σ H rs Q q =>
  h F lab σ H rs _ fun v F1 H1 g1 d1 => hr F1 lab σ H1 (rs.go g1) _ fun vs F2 H2 g2 d2 => q (v :: vs) F2 H2 (g1.trans g2) ⟨dp_mono g2.hh d1, d2⟩
/-- an object handed on, its own lists read in passing -/
theorem eah_obj {t : TA} {i : Nat} {C : Addr} {fs : List (Str × Fl)} {ss : List Sl} (h : G[i]? = some (.ob C fs)) (n : noJu fs = true) (hr : EvAH K t G ss) : EvAH K (tCons (tVar i) t) G (.ob C (quiet fs) :: ss) := fun F lab σ H rs Q q => by
  obtain ⟨v, e, s⟩ := rs.sl i _ h (fun z => nomatch z)
  exact ⟨v, e, hr F lab σ H rs _ fun vs F2 H2 g2 d2 => q (v :: vs) F2 H2 g2 ⟨(SlV.quietO rs.fh n s).mono g2.hh, d2⟩⟩
theorem args_dps {F : Hp} : ∀ {vs : List V} {ds : List PyData}, ArgsV K F vs (ds.map Sl.im) → DpAll K F vs ds
  | [], [], _ => .nil
  | _ :: _, _ :: _, h => .cons h.1 (args_dps h.2)
/-- a tuple is made -/
theorem ev_tup {t : TA} {ds : List PyData} (h : EvA K t G (ds.map Sl.im)) (hl : ds.length ≤ 100000) : Ev K (tTup t) G (.tuple ds) := fun F lab σ H rs Q q =>
  h F lab σ H rs _ fun vs F1 H1 g1 a => by
    have a := args_dps a
    refine ⟨by rw [dpAll_len a, sizeLine_eq]; omega, fun p hp => q (.ref p) (upd F1 p (.tup vs)) _ (g1.trans (Go.new g1.fh hp)) (.im (.tup (.inl (.inl upd_same)) (dpAll_mono (same_new (g1.fh.free hp)) a)))⟩
theorem ev_lst {t : TA} {ds : List PyData} (h : EvA K t G (ds.map Sl.im)) (hl : ds.length ≤ 100000) : EvS K (tLst t) G (.ow ds) := fun F lab σ H rs Q q =>
  h F lab σ H rs _ fun vs F1 H1 g1 a => by
    have a := args_dps a
    refine ⟨by rw [dpAll_len a, sizeLine_eq]; omega, fun p hp => q (.ref p) F1 _ (g1.trans (.heap g1.fh (same_new hp))) ⟨fun x => if x = p then some (0, "") else none, ⟨p, vs, rfl, g1.fh.free hp, if_pos rfl, upd_same, a⟩, fun x o e => ?_⟩⟩
    by_cases hx : x = p
    · rw [hx]; exact g1.hh.free hp
    · exact absurd e (by simp [hx])

/-! ### items, slices -/
theorem atI_dp {F : Hp} {vs : List V} {ds : List PyData} (a : DpAll K F vs ds) {i : Int} {d : PyData} (h : atI ds i = some d) : ∃ v, atI vs i = some v ∧ Dp K F v d := by
  unfold atI at h ⊢
  rw [dpAll_len a]
  cases e : ixN ds.length i with
  | none => rw [e] at h; cases h
  | some j =>
    rw [e] at h
    exact dpAll_get a h
theorem ev_ixL {i : Int} {d : PyData} {ds : List PyData} (ha : Ev K ta G (.list ds)) (hb : EvH K tb G (.int i)) (h : atI ds i = some d) : Ev K (tOp (rIx K) ta tb) G d := fun F lab σ H rs Q q =>
  ha F lab σ H rs _ fun x F1 H1 g1 d1 => hb F1 lab σ H1 (rs.go g1) _ fun y F2 H2 g2 d2 => by
    obtain ⟨a, xs, rfl, sq, al⟩ := dp_list d1.dp
    obtain ⟨v, hv, dv⟩ := atI_dp al h
    exact .inl ⟨a, xs, i, v, rfl, dp_int d2, Same.seq (g1.fh.trans g2.hh) sq, hv, q v F2 H2 (g1.trans g2) (.im (dp_mono g2.ff dv))⟩
theorem ev_ixT {i : Int} {d : PyData} {ds : List PyData} (ha : Ev K ta G (.tuple ds)) (hb : EvH K tb G (.int i)) (h : atI ds i = some d) : Ev K (tOp (rIx K) ta tb) G d := fun F lab σ H rs Q q =>
  ha F lab σ H rs _ fun x F1 H1 g1 d1 => hb F1 lab σ H1 (rs.go g1) _ fun y F2 H2 g2 d2 => by
    obtain ⟨a, xs, rfl, sq, al⟩ := dp_tuple d1.dp
    obtain ⟨v, hv, dv⟩ := atI_dp al h
    exact .inr (.inl ⟨a, xs, i, v, rfl, dp_int d2, seqT (g1.fh.trans g2.hh) sq, hv, q v F2 H2 (g1.trans g2) (.im (dp_mono g2.ff dv))⟩)
/-- an item of a list that grows -/
theorem ev_ixO {k : Nat} {i : Int} {d : PyData} {ds : List PyData} (h0 : G[k]? = some (.ow ds)) (hb : EvH K tb G (.int i)) (h : atI ds i = some d) : Ev K (tOp (rIx K) (tVar k) tb) G d := fun F lab σ H rs Q q => by
  obtain ⟨v, e, p, vs, rfl, fp, lp, hp, a⟩ := rs.sl k _ h0 (fun z => nomatch z)
  refine ⟨_, e, hb F lab σ H rs _ fun y F2 H2 g2 d2 => ?_⟩
  obtain ⟨v, hv, dv⟩ := atI_dp a h
  exact .inl ⟨p, vs, i, v, rfl, dp_int d2, .inl (.inl (g2.hh _ _ hp)), hv, q v F2 H2 g2 (.im (dp_mono g2.ff dv))⟩
/-- an item, as a scalar, of what is read in passing -/
theorem eh_ixL {i : Int} {d : PyData} {ds : List PyData} (ha : EvH K ta G (.list ds)) (hb : EvH K tb G (.int i)) (h : atI ds i = some d) : EvH K (tOp (rIx K) ta tb) G d := fun F lab σ H rs Q q =>
  ha F lab σ H rs _ fun x F1 H1 g1 d1 => hb F1 lab σ H1 (rs.go g1) _ fun y F2 H2 g2 d2 => by
    obtain ⟨a, xs, rfl, sq, al⟩ := dp_list d1
    obtain ⟨v, hv, dv⟩ := atI_dp al h
    exact .inl ⟨a, xs, i, v, rfl, dp_int d2, Same.seq g2.hh sq, hv, q v F2 H2 (g1.trans g2) (dp_mono g2.hh dv)⟩
theorem eh_ixT {i : Int} {d : PyData} {ds : List PyData} (ha : EvH K ta G (.tuple ds)) (hb : EvH K tb G (.int i)) (h : atI ds i = some d) : EvH K (tOp (rIx K) ta tb) G d := fun F lab σ H rs Q q =>
  ha F lab σ H rs _ fun x F1 H1 g1 d1 => hb F1 lab σ H1 (rs.go g1) _ fun y F2 H2 g2 d2 => by
    obtain ⟨a, xs, rfl, sq, al⟩ := dp_tuple d1
    obtain ⟨v, hv, dv⟩ := atI_dp al h
    exact .inr (.inl ⟨a, xs, i, v, rfl, dp_int d2, seqT g2.hh sq, hv, q v F2 H2 (g1.trans g2) (dp_mono g2.hh dv)⟩)
/-- parts of a slice -/
def EvO (K : PySem.W.Frag) (to : TO) (G : Env) (o : Option Int) : Prop := ∀ F lab σ H, Rs K F lab σ H G → ∀ Q : Option Int → Hp → Prop, (∀ F' H', Go F H F' H' → Q o H') → to σ H Q
theorem eo_none : EvO K tNoPart G none := fun F lab σ H rs Q q => q F H (.refl rs.fh)
theorem eo_some {i : Int} (h : EvH K te G (.int i)) : EvO K (tPart te) G (some i) := fun F lab σ H rs Q q => h F lab σ H rs _ fun x F1 H1 g1 d1 => ⟨i, dp_int d1, q F1 H1 g1⟩
def cutD (xs : List PyData) (lo hi : Option Int) : List PyData := (xs.drop (HT.sIx xs.length 0 lo)).take (HT.sIx xs.length xs.length hi - HT.sIx xs.length 0 lo)
/-- a new list -/
theorem own_new {F H F1 H1 : Hp} (g : Go F H F1 H1) {vs : List V} {ds : List PyData} (a : DpAll K F1 vs ds) {Q : VK} (q : ∀ v F' H', Go F H F' H' → NvV K F' H' H v (.ow ds) → Q v H') : ∀ p, H1 p = none → Q (.ref p) (upd H1 p (.lst vs)) := fun p hp =>
  q (.ref p) F1 _ (g.trans (.heap g.fh (same_new hp))) ⟨fun x => if x = p then some (0, "") else none, ⟨p, vs, rfl, g.fh.free hp, if_pos rfl, upd_same, a⟩, fun x o e => by
    by_cases hx : x = p
    · rw [hx]; exact g.hh.free hp
    · exact absurd e (by simp [hx])⟩
theorem ev_slL {tl th : TO} {lo hi : Option Int} {ds : List PyData} (ha : Ev K ta G (.list ds)) (hl : EvO K tl G lo) (hh : EvO K th G hi) : EvS K (tSl (rSlL K) ta tl th) G (.ow (cutD ds lo hi)) := fun F lab σ H rs Q q =>
  ha F lab σ H rs _ fun x F1 H1 g1 d1 => hl F1 lab σ H1 (rs.go g1) _ fun F2 H2 g2 => hh F2 lab σ H2 (rs.go (g1.trans g2)) _ fun F3 H3 g3 => by
    obtain ⟨a, xs, rfl, sq, al⟩ := dp_list d1.dp
    have al3 := dpAll_mono (g2.trans g3).ff al
    refine ⟨a, xs, rfl, Same.seq (g1.fh.trans (g2.trans g3).hh) sq, own_new ((g1.trans g2).trans g3) ?_ q⟩
    unfold cutV cutD
    rw [dpAll_len al]
    exact dpAll_take _ (dpAll_drop _ al3)
theorem ev_cat {as bs : List PyData} (ha : EvS K ta G (.ow as)) (hb : EvS K tb G (.ow bs)) (hl : as.length + bs.length ≤ 100000) : EvS K (tOp rCat ta tb) G (.ow (as ++ bs)) := fun F lab σ H rs Q q =>
  ha F lab σ H rs _ fun x F1 H1 g1 d1 => hb F1 lab σ H1 (rs.go g1) _ fun y F2 H2 g2 d2 => by
    obtain ⟨l1, ⟨p, vs, rfl, _, _, hp, a⟩, _⟩ := d1
    obtain ⟨l2, ⟨r, ws, rfl, _, _, hr, b⟩, _⟩ := d2
    have e1 := dpAll_len a
    have e2 := dpAll_len b
    exact ⟨p, r, vs, ws, rfl, rfl, g2.hh _ _ hp, hr, by rw [e1, e2, sizeLine_eq]; omega, own_new (g1.trans g2) (dpAll_append (dpAll_mono g2.ff a) b) q⟩
/-- where a quiet list must be one that the heap holds as such -/
def Held (K : PySem.W.Frag) (te : TE) (G : Env) (ds : List PyData) : Prop := ∀ F lab σ H, Rs K F lab σ H G → ∀ Q : VK, (∀ v F' H' p vs, Go F H F' H' → v = .ref p → H' p = some (.lst vs) → DpAll K F' vs ds → Q v H') → te σ H Q
theorem EvS.held {ds : List PyData} (h : EvS K te G (.ow ds)) : Held K te G ds := fun F lab σ H r Q q => h F lab σ H r Q fun v F' H' g n => by
  obtain ⟨l, ⟨p, vs, e, fp, lp, hp, a⟩, nw⟩ := n
  exact q v F' H' p vs g e hp a
theorem ev_catH {as bs : List PyData} (ha : Held K ta G as) (hb : Held K tb G bs) (hl : as.length + bs.length ≤ 100000) : EvS K (tOp rCat ta tb) G (.ow (as ++ bs)) := fun F lab σ H rs Q q =>
  ha F lab σ H rs _ fun x F1 H1 p vs g1 e1 hp a => hb F1 lab σ H1 (rs.go g1) _ fun y F2 H2 r ws g2 e2 hr b => by
    have l1 := dpAll_len a
    have l2 := dpAll_len b
    exact ⟨p, r, vs, ws, e1, e2, g2.hh _ _ hp, hr, by rw [l1, l2, sizeLine_eq]; omega, own_new (g1.trans g2) (dpAll_append (dpAll_mono g2.ff a) b) q⟩
end
open PySem L2
section
variable {K : PySem.W.Frag} {G : Env} {ta tb te tc : TE}

/-! ### calls of defs -/
inductive Out where
  | ret (s : Sl)
  | exc (c : Addr)
def spR (K : PySem.W.Frag) (R : List Sl → Out → Prop) : Sp := fun vs H Q E => ∃ F ss o, Same F H ∧ ArgsV K F vs ss ∧ R ss o ∧
  match o with
  | .ret s => ∀ v F' H', Go F H F' H' → NvV K F' H' H v s → Q v H'
  | .exc c => ∀ F' H', Go F H F' H' → E (.ref c) none H'
theorem ev_call {R : List Sl → Out → Prop} {E : XK} {t : TA} {ss : List Sl} {s : Sl} (h : EvA K t G ss) (hR : R ss (.ret s)) : EvS K (tCall (spR K R) [] E t) G s := fun F lab σ H rs Q q =>
  h F lab σ H rs _ fun vs F1 H1 g1 a => by
    refine ⟨F1, ss, .ret s, g1.fh, by rw [List.append_nil]; exact a, hR, fun v F2 H2 g2 n => q v F2 H2 (g1.trans g2) (n.base g1.hh)⟩
theorem ev_callS {R : List Sl → Out → Prop} {E : L2.St → XK} {t : TA} {ss : List Sl} {s : Sl} (h : EvA K t G ss) (hR : R ss (.ret s)) : EvS K (tCallS (spR K R) E t) G s := fun F lab σ H rs Q q =>
  h F lab σ H rs _ fun vs F1 H1 g1 a => ⟨F1, ss, .ret s, g1.fh, a, hR, fun v F2 H2 g2 n => q v F2 H2 (g1.trans g2) (n.base g1.hh)⟩
/-- arguments read in passing; what comes back stands in no heap -/
theorem ev_callH {R : List Sl → Out → Prop} {E : XK} {t : TA} {ss : List Sl} {d : PyData} (h : EvAH K t G ss) (hR : R ss (.ret (.im d))) (hd : ∀ F F' v, Dp K F v d → Dp K F' v d) : Ev K (tCall (spR K R) [] E t) G d := fun F lab σ H rs Q q =>
  h F lab σ H rs _ fun vs F1 H1 g1 a => by
    refine ⟨H1, ss, .ret (.im d), .refl _, by rw [List.append_nil]; exact a, hR, fun v F2 H2 g2 n => q v F1 H2 (g1.trans (.heap g1.fh g2.hh)) (.im (hd _ _ _ n.dp))⟩
/-- .. or is a new list of such -/
theorem ev_callHO {R : List Sl → Out → Prop} {E : XK} {t : TA} {ss : List Sl} {ds : List PyData} (h : EvAH K t G ss) (hR : R ss (.ret (.ow ds))) (hd : ∀ F F' vs, DpAll K F vs ds → DpAll K F' vs ds) : EvS K (tCall (spR K R) [] E t) G (.ow ds) := fun F lab σ H rs Q q =>
  h F lab σ H rs _ fun vs F1 H1 g1 a => by
    refine ⟨H1, ss, .ret (.ow ds), .refl _, by rw [List.append_nil]; exact a, hR, fun v F2 H2 g2 n => ?_⟩
    obtain ⟨l, ⟨p, ws, rfl, fp, lp, hp, al⟩, nw⟩ := n
    have p1 := nw p _ lp
    exact q _ F1 H2 (g1.trans (.heap g1.fh g2.hh)) ⟨l, ⟨p, ws, rfl, g1.fh.free p1, lp, hp, hd _ _ _ al⟩, fun x o e => g1.hh.free (nw x o e)⟩
theorem hl_int {i : Int} : ∀ F F' v, Dp K F v (.int i) → Dp K F' v (.int i) := fun _ _ _ h => by rw [dp_int h]; exact .int _
theorem hl_bool {i : Bool} : ∀ F F' v, Dp K F v (.bool i) → Dp K F' v (.bool i) := fun _ _ _ h => by rw [dp_bool h]; exact .bl _
theorem hl_str {i : Str} : ∀ F F' v, Dp K F v (.str i) → Dp K F' v (.str i) := fun _ _ _ h => by rw [dp_str h]; exact .str _
theorem hl_ints {ns : List Int} : ∀ F F' vs, DpAll K F vs (ns.map PyData.int) → DpAll K F' vs (ns.map PyData.int) := fun _ _ _ h => by rw [dpAll_ints h]; exact ints_dpAll ns

/-! ### built-ins -/
theorem ev_cb {r : List V → Hp → VK → Prop} {t : TA} {ss : List Sl} {d : PyData} (h : EvAH K t G ss) (hr : ∀ H vs, ArgsV K H vs ss → ∀ Q : VK, (∀ v, Sc v d → Q v H) → r vs H Q) : Ev K (tCB r t) G d := fun F lab σ H rs Q q =>
  h F lab σ H rs _ fun vs F1 H1 g1 a => hr H1 vs a Q fun v s => q v F1 H1 g1 (.im s.dp)
theorem args1 {H : Hp} {vs : List V} {d : PyData} : ArgsV K H vs [.im d] → ∃ v, vs = [v] ∧ Dp K H v d := fun h => match vs, h with
  | [v], h => ⟨v, rfl, h.1⟩
theorem args2 {H : Hp} {vs : List V} {d e : PyData} : ArgsV K H vs [.im d, .im e] → ∃ v w, vs = [v, w] ∧ Dp K H v d ∧ Dp K H w e := fun h => match vs, h with
  | [v, w], h => ⟨v, w, rfl, h.1, h.2.1⟩
theorem ev_len {d : PyData} {n : Nat} (h : EvH K ta G d) (hn : (∃ ds, (d = .list ds ∨ d = .tuple ds) ∧ n = ds.length) ∨ ∃ x : Str, d = .str x ∧ n = x.length ∧ x.length ≤ sizeLine) : Ev K (tCB (fun xs H Q => ∃ x n, xs = [x] ∧ LenV K x H n ∧ Q (.int n) H) (tCons ta tNil)) G (.int n) :=
  ev_cb (eah_cons h eah_nil) fun H vs a Q q => by
    obtain ⟨v, rfl, dv⟩ := args1 a
    refine ⟨v, n, rfl, ?_, q _ (.int _)⟩
    rcases hn with ⟨ds, hd, rfl⟩ | ⟨x, rfl, rfl, hx⟩
    · rcases hd with rfl | rfl
      · obtain ⟨p, xs, rfl, sq, al⟩ := dp_list dv
        exact .inl ⟨xs, sq, (dpAll_len al).symm⟩
      · obtain ⟨p, xs, rfl, sq, al⟩ := dp_tuple dv
        exact .inr ⟨xs, sq, (dpAll_len al).symm⟩
    · rw [dp_str dv]
      exact ⟨hx, rfl⟩
theorem ev_lenL {ds : List PyData} (h : EvH K ta G (.list ds)) : Ev K (tCB (fun xs H Q => ∃ x n, xs = [x] ∧ LenV K x H n ∧ Q (.int n) H) (tCons ta tNil)) G (.int ds.length) := ev_len h (.inl ⟨ds, .inl rfl, rfl⟩)
theorem ev_lenT {ds : List PyData} (h : EvH K ta G (.tuple ds)) : Ev K (tCB (fun xs H Q => ∃ x n, xs = [x] ∧ LenV K x H n ∧ Q (.int n) H) (tCons ta tNil)) G (.int ds.length) := ev_len h (.inl ⟨ds, .inr rfl, rfl⟩)
theorem ev_abs {i : Int} (h : EvH K ta G (.int i)) : Ev K (tCB (fun xs H Q => ∃ i, xs = [.int i] ∧ Q (.int (if i < 0 then -i else i)) H) (tCons ta tNil)) G (.int (if i < 0 then -i else i)) :=
  ev_cb (eah_cons h eah_nil) fun H vs a Q q => by
    obtain ⟨v, rfl, dv⟩ := args1 a
    exact ⟨i, by rw [dp_int dv], q _ (.int _)⟩
theorem ev_max2 {i j : Int} (h : EvH K ta G (.int i)) (h2 : EvH K tb G (.int j)) : Ev K (tCB (fun xs H Q => ∃ i j, xs = [.int i, .int j] ∧ Q (.int (if j > i then j else i)) H) (tCons ta (tCons tb tNil))) G (.int (if j > i then j else i)) :=
  ev_cb (eah_cons h (eah_cons h2 eah_nil)) fun H vs a Q q => by
    obtain ⟨v, w, rfl, dv, dw⟩ := args2 a
    exact ⟨i, j, by rw [dp_int dv, dp_int dw], q _ (.int _)⟩
theorem ev_min2 {i j : Int} (h : EvH K ta G (.int i)) (h2 : EvH K tb G (.int j)) : Ev K (tCB (fun xs H Q => ∃ i j, xs = [.int i, .int j] ∧ Q (.int (if j < i then j else i)) H) (tCons ta (tCons tb tNil))) G (.int (if j < i then j else i)) :=
  ev_cb (eah_cons h (eah_cons h2 eah_nil)) fun H vs a Q q => by
    obtain ⟨v, w, rfl, dv, dw⟩ := args2 a
    exact ⟨i, j, by rw [dp_int dv, dp_int dw], q _ (.int _)⟩
theorem ev_sum {ns : List Int} (h : EvH K ta G (.list (ns.map .int))) : Ev K (tCB (rSum K) (tCons ta tNil)) G (.int ns.sum) :=
  ev_cb (eah_cons h eah_nil) fun H vs a Q q => by
    obtain ⟨v, rfl, dv⟩ := args1 a
    obtain ⟨p, xs, rfl, sq, al⟩ := dp_list dv
    rw [dpAll_ints al] at sq
    exact ⟨p, ns, rfl, sq, q _ (.int _)⟩
/-- the greatest, the least -/
def IsMax (ns : List Int) (m : Int) : Prop := m ∈ ns ∧ ∀ y, y ∈ ns → y ≤ m
def IsMin (ns : List Int) (m : Int) : Prop := m ∈ ns ∧ ∀ y, y ∈ ns → m ≤ y
theorem IsMax.eq {ns : List Int} {m m' : Int} (a : IsMax ns m) (b : IsMax ns m') : m = m' := Int.le_antisymm (b.2 _ a.1) (a.2 _ b.1)
theorem IsMin.eq {ns : List Int} {m m' : Int} (a : IsMin ns m) (b : IsMin ns m') : m = m' := Int.le_antisymm (a.2 _ b.1) (b.2 _ a.1)
theorem ev_max {ns : List Int} {m : Int} (h : EvH K ta G (.list (ns.map .int))) (hm : IsMax ns m) : Ev K (tCB (rMax K) (tCons ta tNil)) G (.int m) :=
  ev_cb (eah_cons h eah_nil) fun H vs a Q q => by
    obtain ⟨v, rfl, dv⟩ := args1 a
    obtain ⟨p, xs, rfl, sq, al⟩ := dp_list dv
    rw [dpAll_ints al] at sq
    exact ⟨p, ns, rfl, sq, List.length_pos_of_mem hm.1, fun m' h1 h2 => by rw [IsMax.eq (m := m') ⟨h1, h2⟩ hm]; exact q _ (.int _)⟩
theorem ev_min {ns : List Int} {m : Int} (h : EvH K ta G (.list (ns.map .int))) (hm : IsMin ns m) : Ev K (tCB (rMin K) (tCons ta tNil)) G (.int m) :=
  ev_cb (eah_cons h eah_nil) fun H vs a Q q => by
    obtain ⟨v, rfl, dv⟩ := args1 a
    obtain ⟨p, xs, rfl, sq, al⟩ := dp_list dv
    rw [dpAll_ints al] at sq
    exact ⟨p, ns, rfl, sq, List.length_pos_of_mem hm.1, fun m' h1 h2 => by rw [IsMin.eq (m := m') ⟨h1, h2⟩ hm]; exact q _ (.int _)⟩
theorem ev_any {bs : List Bool} (h : EvH K ta G (.list (bs.map .bool))) : Ev K (tCB (rAny K) (tCons ta tNil)) G (.bool (bs.any id)) :=
  ev_cb (eah_cons h eah_nil) fun H vs a Q q => by
    obtain ⟨v, rfl, dv⟩ := args1 a
    obtain ⟨p, xs, rfl, sq, al⟩ := dp_list dv
    rw [dpAll_bools al] at sq
    exact ⟨p, bs, rfl, sq, q _ (.bl _)⟩
theorem ev_all {bs : List Bool} (h : EvH K ta G (.list (bs.map .bool))) : Ev K (tCB (rAll K) (tCons ta tNil)) G (.bool (bs.all id)) :=
  ev_cb (eah_cons h eah_nil) fun H vs a Q q => by
    obtain ⟨v, rfl, dv⟩ := args1 a
    obtain ⟨p, xs, rfl, sq, al⟩ := dp_list dv
    rw [dpAll_bools al] at sq
    exact ⟨p, bs, rfl, sq, q _ (.bl _)⟩
/-- what a datum is: its built-in class -/
def tyD : PyData → String
  | .none => "NoneType"
  | .bool _ => "bool"
  | .int _ => "int"
  | .str _ => "str"
  | .list _ => "list"
  | .tuple _ => "tuple"
  | .dict _ => "dict"
theorem dp_tyX {H : Hp} {v : V} {d : PyData} : Dp K H v d → TyX K H v (.type (tyD d))
  | .non => .base .non
  | .bl b => .base (.bl b)
  | .int i => .base (.int i)
  | .str x => .base (.str x)
  | .lst h _ => by
    rcases h with (h | ⟨o, h⟩) | ⟨o, its, n, e, c, _⟩
    · exact .base (.lst h)
    · exact .base (.frz h)
    · exact .kList e c
  | .tup h _ => by
    rcases h with (h | ⟨o, h⟩) | ⟨o, its, n, e, c, _⟩
    · exact .base (.tup h)
    · exact .fTuple h
    · exact .kTuple e c
theorem ev_isi {d : PyData} {n : String} {b : Bool} (h : EvH K ta G d) (e : kitB (tyD d) n = some b) : Ev K (tCB (rIsi K) (tCons ta (tCons (tC (.ty n)) tNil))) G (.bool b) := fun F lab σ H rs Q q =>
  h F lab σ H rs _ fun v F1 H1 g1 dv => ⟨v, .ty n, _, _, b, rfl, .ty n, dp_tyX dv, kit_ty e, q _ F1 H1 g1 (.im (.bl b))⟩
/-- list(x) -/
theorem ev_listOf {ds : List PyData} (h : Ev K ta G (.list ds)) : EvS K (tCB (fun xs H Q => ∃ p ys, xs = [.ref p] ∧ (SqL K H p ys ∨ SqT K H p ys) ∧ ∀ l, H l = none → Q (.ref l) (upd H l (.lst ys))) (tCons ta tNil)) G (.ow ds) := fun F lab σ H rs Q q =>
  h F lab σ H rs _ fun v F1 H1 g1 dv => by
    obtain ⟨p, xs, rfl, sq, al⟩ := dp_list dv.dp
    exact ⟨p, xs, rfl, .inl (Same.seq g1.fh sq), own_new g1 al q⟩
theorem ev_listOfT {ds : List PyData} (h : Ev K ta G (.tuple ds)) : EvS K (tCB (fun xs H Q => ∃ p ys, xs = [.ref p] ∧ (SqL K H p ys ∨ SqT K H p ys) ∧ ∀ l, H l = none → Q (.ref l) (upd H l (.lst ys))) (tCons ta tNil)) G (.ow ds) := fun F lab σ H rs Q q =>
  h F lab σ H rs _ fun v F1 H1 g1 dv => by
    obtain ⟨p, xs, rfl, sq, al⟩ := dp_tuple dv.dp
    exact ⟨p, xs, rfl, .inr (seqT g1.fh sq), own_new g1 al q⟩
/-- int(a truth), int(n) -/
theorem ev_intB {b : Bool} (h : EvH K ta G (.bool b)) : Ev K (tCB (fun xs H Q => (∃ i, xs = [.int i] ∧ Q (.int i) H) ∨ ∃ k, xs = [.bl k] ∧ Q (.int (if k then 1 else 0)) H) (tCons ta tNil)) G (.int (if b then 1 else 0)) :=
  ev_cb (eah_cons h eah_nil) fun H vs a Q q => by
    obtain ⟨v, rfl, dv⟩ := args1 a
    exact .inr ⟨b, by rw [dp_bool dv], q _ (.int _)⟩

/-! ### what is walked -/
def Walk (K : PySem.W.Frag) (F : Hp) (J : It) (ds : List PyData) : Prop :=
  (∀ i d F1 H1, ds[i]? = some d → Same F F1 → Same F1 H1 → J.go i H1 ∧ ∀ x H2, J.yld i H1 x H2 → ∃ F2, Go F1 H1 F2 H2 ∧ Dp K F2 x d) ∧ ∀ F1 H1, Same F F1 → Same F1 H1 → J.stop ds.length H1
def EvI (K : PySem.W.Frag) (wi : TI) (G : Env) (ds : List PyData) : Prop := ∀ F lab σ H, Rs K F lab σ H G → ∀ R : It → Hp → Prop, (∀ J F' H', Go F H F' H' → Walk K F' J ds → R J H') → wi σ H R
theorem getMap {α β : Type} {f : α → β} {xs : List α} {i : Nat} {y : β} (h : (xs.map f)[i]? = some y) : ∃ x, xs[i]? = some x ∧ y = f x := by
  rw [List.getElem?_map] at h
  cases e : xs[i]? with
  | none => rw [e] at h; cases h
  | some x => rw [e] at h; exact ⟨x, rfl, (Option.some.inj h).symm⟩
theorem walk_list {F : Hp} {a : Addr} {xs : List V} {ds : List PyData} (sq : SqL K F a xs) (al : DpAll K F xs ds) : Walk K F (Itl K a) ds :=
  ⟨fun i d F1 H1 e s1 s2 => by
    obtain ⟨v, hv, dv⟩ := dpAll_get al e
    refine ⟨⟨xs, v, Same.seq (s1.trans s2) sq, hv⟩, fun x H2 y => ?_⟩
    obtain ⟨rfl, y⟩ := y
    have := y xs (Same.seq (s1.trans s2) sq)
    rw [hv] at this
    cases this
    exact ⟨F1, .refl s2, dp_mono s1 dv⟩, fun F1 H1 s1 s2 => ⟨xs, Same.seq (s1.trans s2) sq, Nat.le_of_eq (dpAll_len al)⟩⟩
theorem walk_tup {F : Hp} {a : Addr} {xs : List V} {ds : List PyData} (sq : SqT K F a xs) (al : DpAll K F xs ds) : Walk K F (Itt K a) ds :=
  ⟨fun i d F1 H1 e s1 s2 => by
    obtain ⟨v, hv, dv⟩ := dpAll_get al e
    refine ⟨⟨xs, v, seqT (s1.trans s2) sq, hv⟩, fun x H2 y => ?_⟩
    obtain ⟨rfl, y⟩ := y
    have := y xs (seqT (s1.trans s2) sq)
    rw [hv] at this
    cases this
    exact ⟨F1, .refl s2, dp_mono s1 dv⟩, fun F1 H1 s1 s2 => ⟨xs, seqT (s1.trans s2) sq, Nat.le_of_eq (dpAll_len al)⟩⟩
theorem ei_list {ds : List PyData} (h : Ev K ta G (.list ds)) : EvI K (iList K ta) G ds := fun F lab σ H rs R q => h F lab σ H rs _ fun v F1 H1 g1 n => by
  obtain ⟨a, xs, rfl, sq, al⟩ := dp_list n.dp
  exact ⟨a, rfl, ⟨xs, Same.seq g1.fh sq⟩, q _ F1 H1 g1 (walk_list sq al)⟩
theorem ei_tup {ds : List PyData} (h : Ev K ta G (.tuple ds)) : EvI K (iTup K ta) G ds := fun F lab σ H rs R q => h F lab σ H rs _ fun v F1 H1 g1 n => by
  obtain ⟨a, xs, rfl, sq, al⟩ := dp_tuple n.dp
  exact ⟨a, rfl, ⟨xs, seqT g1.fh sq⟩, q _ F1 H1 g1 (walk_tup sq al)⟩
theorem walk_range {F : Hp} (lo : Int) (n : Nat) : Walk K F (Itr lo n) ((List.range n).map fun (k : Nat) => .int (lo + k)) :=
  ⟨fun i d F1 H1 e s1 s2 => by
    obtain ⟨k, hk, rfl⟩ := getMap e
    obtain ⟨hi, hk⟩ := List.getElem?_eq_some_iff.mp hk
    rw [List.length_range] at hi
    rw [List.getElem_range] at hk
    subst hk
    refine ⟨hi, fun x H2 y => ?_⟩
    obtain ⟨rfl, rfl⟩ := y
    exact ⟨F1, .refl s2, .int _⟩, fun F1 H1 s1 s2 => by
    show n ≤ _
    rw [List.length_map, List.length_range]
    exact Nat.le_refl _⟩
theorem ei_range {n : Nat} (h : EvH K ta G (.int n)) (hn : n ≤ 1000000) : EvI K (iRng1 (tCons ta tNil)) G ((List.range n).map fun (k : Nat) => .int k) := fun F lab σ H rs R q => h F lab σ H rs _ fun v F1 H1 g1 n' => by
  refine ⟨n, by rw [dp_int n'], by omega, by omega, ?_⟩
  have w := walk_range (K := K) (F := F1) 0 n
  simp only [Int.zero_add] at w
  exact q _ F1 H1 g1 w
theorem ei_range2 {lo hi : Int} (h : EvH K ta G (.int lo)) (h2 : EvH K tb G (.int hi)) (hl : -1000000 ≤ lo ∧ lo ≤ 1000000) (hn : -1000000 ≤ hi ∧ hi ≤ 1000000) : EvI K (iRng2 (tCons ta (tCons tb tNil))) G ((List.range (hi - lo).toNat).map fun (k : Nat) => .int (lo + k)) := fun F lab σ H rs R q => h F lab σ H rs _ fun v F1 H1 g1 n' => h2 F1 lab σ H1 (rs.go g1) _ fun w F2 H2 g2 n2 => by
  refine ⟨lo, hi, by rw [dp_int n', dp_int n2], by omega, ?_⟩
  exact q _ F2 H2 (g1.trans g2) (walk_range _ _)
theorem zip_get {α β : Type} : ∀ {xs : List α} {ys : List β} {i : Nat} {p : α × β}, (xs.zip ys)[i]? = some p → xs[i]? = some p.1 ∧ ys[i]? = some p.2
  | [], _, _, _, h => by simp at h
  | _ :: _, [], _, _, h => by simp at h
  | x :: xs, y :: ys, 0, p, h => by
    rw [List.zip_cons_cons] at h
    cases h
    exact ⟨rfl, rfl⟩
  | x :: xs, y :: ys, i + 1, p, h => by
    rw [List.zip_cons_cons] at h
    exact zip_get (xs := xs) (ys := ys) (i := i) h
def pairD (p : PyData × PyData) : PyData := .tuple [p.1, p.2]
theorem walk_zip {F : Hp} {a b : Addr} {xs ys : List V} {ds es : List PyData} (sq : SqL K F a xs) (al : DpAll K F xs ds) (sq2 : SqL K F b ys) (al2 : DpAll K F ys es) (hne : ∀ F1 H1 : Hp, True) : Walk K F (Itz K a b) ((ds.zip es).map pairD) :=
  ⟨fun i d F1 H1 e s1 s2 => by
    obtain ⟨p, hp, rfl⟩ := getMap e
    obtain ⟨h1, h2⟩ := zip_get hp
    obtain ⟨v, hv, dv⟩ := dpAll_get al h1
    obtain ⟨w, hw, dw⟩ := dpAll_get al2 h2
    have q1 := Same.seq (s1.trans s2) sq
    have q2 := Same.seq (s1.trans s2) sq2
    refine ⟨⟨xs, ys, v, w, q1, q2, hv, hw⟩, fun x H2 y => ?_⟩
    obtain ⟨T, x', y', rfl, hT, rfl, e1, e2⟩ := y
    have e1 := e1 xs q1
    have e2 := e2 ys q2
    rw [hv] at e1
    rw [hw] at e2
    cases e1
    cases e2
    have g := Go.new (o := .tup [v, w]) s2 hT
    exact ⟨_, g, .tup (.inl (.inl upd_same)) (.cons (dp_mono (s1.trans g.ff) dv) (.cons (dp_mono (s1.trans g.ff) dw) .nil))⟩, fun F1 H1 s1 s2 => by
    refine ⟨xs, ys, Same.seq (s1.trans s2) sq, Same.seq (s1.trans s2) sq2, ?_⟩
    rw [List.length_map, List.length_zip, dpAll_len al, dpAll_len al2]
    omega⟩
theorem ei_zip {ds es : List PyData} (h : Ev K ta G (.list ds)) (h2 : Ev K tb G (.list es)) : EvI K (iZip K (tCons ta (tCons tb tNil))) G ((ds.zip es).map pairD) := fun F lab σ H rs R q => h F lab σ H rs _ fun v F1 H1 g1 n => h2 F1 lab σ H1 (rs.go g1) _ fun w F2 H2 g2 n2 => by
  obtain ⟨a, xs, rfl, sq, al⟩ := dp_list n.dp
  obtain ⟨b, ys, rfl, sq2, al2⟩ := dp_list n2.dp
  exact ⟨a, b, xs, ys, rfl, Same.seq (g1.fh.trans g2.hh) sq, Same.seq g2.fh sq2, q _ F2 H2 (g1.trans g2) (walk_zip (Same.seq g2.ff sq) (dpAll_mono g2.ff al) sq2 al2 fun _ _ => trivial)⟩
def enumD (ds : List PyData) : List PyData := (ds.zipIdx).map fun p => .tuple [.int (p.2 : Nat), p.1]
theorem walk_enum {F : Hp} {a : Addr} {xs : List V} {ds : List PyData} (sq : SqL K F a xs) (al : DpAll K F xs ds) : Walk K F (Ite K a) (enumD ds) :=
  ⟨fun i d F1 H1 e s1 s2 => by
    obtain ⟨p, hp, rfl⟩ := getMap e
    rw [List.getElem?_zipIdx] at hp
    cases ed : ds[i]? with
    | none => rw [ed] at hp; cases hp
    | some d =>
      rw [ed] at hp
      cases hp
      obtain ⟨v, hv, dv⟩ := dpAll_get al ed
      have q1 := Same.seq (s1.trans s2) sq
      refine ⟨⟨xs, v, q1, hv⟩, fun x H2 y => ?_⟩
      obtain ⟨T, x', rfl, hT, rfl, e1⟩ := y
      have e1 := e1 xs q1
      rw [hv] at e1
      cases e1
      have g := Go.new (o := .tup [.int (i : Nat), v]) s2 hT
      refine ⟨_, g, .tup (.inl (.inl upd_same)) (.cons ?_ (.cons (dp_mono (s1.trans g.ff) dv) .nil))⟩
      show Dp K _ (.int (i : Nat)) (.int ((0 + i : Nat) : Int))
      rw [Nat.zero_add]
      exact .int _, fun F1 H1 s1 s2 => by
    refine ⟨xs, Same.seq (s1.trans s2) sq, ?_⟩
    unfold enumD
    rw [List.length_map, List.length_zipIdx, dpAll_len al]
    exact Nat.le_refl _⟩
theorem ei_enum {ds : List PyData} (h : Ev K ta G (.list ds)) : EvI K (iEnum K (tCons ta tNil)) G (enumD ds) := fun F lab σ H rs R q => h F lab σ H rs _ fun v F1 H1 g1 n => by
  obtain ⟨a, xs, rfl, sq, al⟩ := dp_list n.dp
  exact ⟨a, xs, rfl, Same.seq g1.fh sq, q _ F1 H1 g1 (walk_enum sq al)⟩
theorem EvI.to {wi : TI} {ds ds' : List PyData} (h : EvI K wi G ds) (e : ds = ds') : EvI K wi G ds' := e ▸ h

/-! ### targets -/
/-- g stores d; nothing outside vs changes -/
def TgS (K : PySem.W.Frag) (g : TG) (vs : List Nat) (d : PyData) (G G' : Env) : Prop := ∀ F lab σ H v, Rs K F lab σ H G → Dp K F v d → ∀ Q : L2.St → Hp → Prop, (∀ σ', Rs K F lab σ' H G' → wipe σ' vs = wipe σ vs → Q σ' H) → g v σ H Q
theorem wipe_comm (σ : L2.St) (x : Option V) (j : Nat) : ∀ vs : List Nat, j ∉ vs → wipe (σ.set j x) vs = (wipe σ vs).set j x
  | [], _ => rfl
  | v :: vs, h => by
    unfold wipe
    rw [wipe_comm σ x j vs (fun z => h (List.mem_cons_of_mem _ z)), List.set_comm]
    exact fun z => h (by rw [z]; exact List.mem_cons_self)
theorem wipe_set (σ : L2.St) (x : Option V) (j : Nat) : ∀ vs : List Nat, j ∈ vs → wipe (σ.set j x) vs = wipe σ vs
  | v :: vs, h => by
    unfold wipe
    by_cases hj : j ∈ vs
    · rw [wipe_set σ x j vs hj]
    · have e : j = v := by
        rcases List.mem_cons.mp h with z | z
        · exact z
        · exact absurd z hj
      subst e
      rw [wipe_comm σ x j vs hj, List.set_set]
theorem Rs.setIm {F : Hp} {lab : Lab} {σ : L2.St} {H : Hp} {v : V} {d : PyData} {j : Nat} (r : Rs K F lab σ H G) (h : Dp K F v d) : Rs K F lab (σ.set j (some v)) H (G.set j (.im d)) :=
  ⟨r.fh, by rw [List.length_set, List.length_set]; exact r.len, fun i s e n => by
    by_cases hi : j = i
    · subst hi
      by_cases hj : j < G.length
      · rw [List.getElem?_set_self hj] at e
        cases e
        exact ⟨v, by rw [List.getElem?_set_self (by rw [← r.len]; exact hj)], h⟩
      · rw [List.getElem?_eq_none (by simpa using hj)] at e
        cases e
    · rw [List.getElem?_set_ne hi] at e ⊢
      exact r.sl i s e n⟩
theorem tg_name {j : Nat} {vs : List Nat} {d : PyData} (h : j ∈ vs) : TgS K (gName j) vs d G (G.set j (.im d)) := fun F lab σ H v r dv Q q => q _ (r.setIm dv) (wipe_set σ _ j vs h)
def TgsS (K : PySem.W.Frag) (g : TGs) (vs : List Nat) (ds : List PyData) (G G' : Env) : Prop := ∀ F lab σ H ws, Rs K F lab σ H G → DpAll K F ws ds → ∀ Q : L2.St → Hp → Prop, (∀ σ', Rs K F lab σ' H G' → wipe σ' vs = wipe σ vs → Q σ' H) → g ws σ H Q
theorem tgs_nil {vs : List Nat} : TgsS K gNil vs [] G G := fun F lab σ H ws r a Q q => match ws, a with
  | [], .nil => ⟨rfl, q σ r rfl⟩
theorem tgs_cons {g : TG} {gs : TGs} {vs : List Nat} {d : PyData} {ds : List PyData} {G1 G2 : Env} (h : TgS K g vs d G G1) (hs : TgsS K gs vs ds G1 G2) : TgsS K (gCons g gs) vs (d :: ds) G G2 := fun F lab σ H ws r a Q q => match ws, a with
  | v :: ws, .cons dv al => ⟨v, ws, rfl, h F lab σ H v r dv _ fun σ1 r1 e1 => hs F lab σ1 H ws r1 al Q fun σ2 r2 e2 => q σ2 r2 (e2.trans e1)⟩
theorem tg_tup {gs : TGs} {n : Nat} {vs : List Nat} {ds : List PyData} {G' : Env} (h : TgsS K gs vs ds G G') (hn : ds.length = n) : TgS K (gTup K n gs) vs (.tuple ds) G G' := fun F lab σ H v r dv Q q => by
  obtain ⟨a, xs, rfl, sq, al⟩ := dp_tuple dv
  exact ⟨a, xs, rfl, seqT r.fh sq, by rw [dpAll_len al, hn], h F lab σ H xs r al Q q⟩

/-! ### comprehensions -/
def wipeG : Env → List Nat → Env
  | G, [] => G
  | G, v :: vs => (wipeG G vs).set v .no
theorem Rs.no {F : Hp} {lab : Lab} {σ : L2.St} {H : Hp} {j : Nat} (r : Rs K F lab σ H G) : Rs K F lab (σ.set j none) H (G.set j .no) :=
  ⟨r.fh, by rw [List.length_set, List.length_set]; exact r.len, fun i s e n => by
    by_cases hi : j = i
    · subst hi
      by_cases hj : j < G.length
      · rw [List.getElem?_set_self hj] at e
        cases e
        exact absurd rfl n
      · rw [List.getElem?_eq_none (by simpa using hj)] at e
        cases e
    · rw [List.getElem?_set_ne hi] at e ⊢
      exact r.sl i s e n⟩
theorem Rs.wipe {F : Hp} {lab : Lab} {σ : L2.St} {H : Hp} (r : Rs K F lab σ H G) : ∀ vs : List Nat, Rs K F lab (L2.wipe σ vs) H (wipeG G vs)
  | [] => r
  | v :: vs => (r.wipe vs).no
theorem wipe_wipe (σ : L2.St) : ∀ vs ws : List Nat, (∀ v ∈ ws, v ∈ vs) → wipe (wipe σ ws) vs = wipe σ vs
  | vs, [], _ => rfl
  | vs, w :: ws, h => by
    show wipe ((wipe σ ws).set w none) vs = _
    rw [wipe_set _ _ _ _ (h w List.mem_cons_self), wipe_wipe σ vs ws fun v hv => h v (List.mem_cons_of_mem _ hv)]
theorem dpAll_map_snoc {α : Type} {F : Hp} {vs : List V} {v : V} {d : PyData} {ds : List PyData} (a : DpAll K F vs ds) (h : Dp K F v d) : DpAll K F (vs ++ [v]) (ds ++ [d]) := dpAll_append a (.cons h .nil)
theorem take_snoc {α : Type} {xs : List α} {i : Nat} {x : α} (h : xs[i]? = some x) : xs.take (i + 1) = xs.take i ++ [x] := by
  obtain ⟨hi, e⟩ := List.getElem?_eq_some_iff.mp h
  rw [List.take_add_one, h]
  rfl
theorem ev_lc {α : Type} {xs : List α} {enc : α → PyData} {wi : TI} {g : TG} {tt : TT} {vs : List Nat} (hi : EvI K wi G (xs.map enc)) (f : α → Bool) (r : α → PyData) (G2 : α → Env)
    (hg : ∀ x ∈ xs, TgS K g vs (enc x) (wipeG G vs) (G2 x)) (ht : ∀ x ∈ xs, EvB K tt (G2 x) (f x)) (he : ∀ x ∈ xs, f x = true → Ev K te (G2 x) (r x)) (hz : xs.length ≤ 100000) : EvS K (tLc wi g tt te vs) G (.ow ((xs.filter f).map r)) := fun F lab σ H rs Q q =>
  hi F lab σ H rs _ fun J F1 H1 g1 wk => by
    intro p hp
    have fp1 : F1 p = none := g1.fh.free hp
    -- the invariant behind i turns
    refine ⟨fun i m H' => m = xs.length - i ∧ i ≤ xs.length ∧ ∃ F2 ws, Go F1 H1 F2 H' ∧ F2 p = none ∧ H' p = some (.lst ws) ∧ DpAll K F2 ws (((xs.take i).filter f).map r), ⟨_, rfl, Nat.zero_le _, F1, [], .heap g1.fh (same_new hp), fp1, upd_same, .nil⟩, ?_⟩
    rintro i m H' ⟨rfl, hle, F2, ws, g2, fp, hw, al⟩
    by_cases hlt : i < xs.length
    · have hx : xs[i]? = some xs[i] := List.getElem?_eq_getElem hlt
      have hm : xs[i] ∈ xs := List.getElem_mem hlt
      generalize xs[i] = x at hx hm
      have hd : (xs.map enc)[i]? = some (enc x) := by rw [List.getElem?_map, hx]; rfl
      obtain ⟨go, yl⟩ := wk.1 i _ F2 H' hd g2.ff g2.fh
      refine .inr ⟨go, fun H'' => ∃ F3 ws', Go F1 H1 F3 H'' ∧ F3 p = none ∧ H'' p = some (.lst ws') ∧ DpAll K F3 ws' (((xs.take (i + 1)).filter f).map r), fun H'' ⟨F3, ws', a, b, c, e⟩ => ⟨xs.length - (i + 1), by omega, rfl, hlt, F3, ws', a, b, c, e⟩, fun y H3 yy => ?_⟩
      obtain ⟨F3, g3, dy⟩ := yl y H3 yy
      have r3 : Rs K F3 lab (wipe σ vs) H3 (wipeG G vs) := ((rs.go g1).go (g2.trans g3)).wipe vs
      have keepP : ∀ {F' H' : Hp}, Go F3 H3 F' H' → F' p = none := fun {F' H'} g => (g.nw p _ (g3.hh _ _ hw)).trans ((g3.nw p _ hw).trans fp)
      refine hg x hm F3 lab _ H3 y r3 dy _ fun σ' r4 ew => ⟨ew.trans (wipe_wipe σ vs vs fun _ h => h), ?_⟩
      refine ht x hm F3 lab σ' H3 r4 _ fun F4 H4 g4 => ?_
      cases hf : f x with
      | true =>
        show te σ' H4 _
        refine he x hm hf F4 lab σ' H4 (r4.go g4) _ fun v F5 H5 g5 n5 => ?_
        have g35 := g4.trans g5
        have hw5 : H5 p = some (.lst ws) := g35.hh _ _ (g3.hh _ _ hw)
        have fp5 := keepP g35
        refine ⟨ws, hw5, ?_, F5, ws ++ [v], ?_, fp5, upd_same, ?_⟩
        · have hl := dpAll_len al
          rw [hl, List.length_map, sizeLine_eq]
          have := List.length_filter_le f (xs.take i)
          rw [List.length_take] at this
          omega
        · have g15 := (g2.trans g3).trans g35
          exact ⟨g15.ff, same_upd g15.hh hp, same_upd g15.fh fp5, g15.nw⟩
        · rw [take_snoc hx, List.filter_append, List.map_append]
          have e1 : ([x].filter f).map r = [r x] := by simp [hf]
          rw [e1]
          exact dpAll_append (dpAll_mono (g3.trans g35).ff al) (.cons n5.dp .nil)
      | false =>
        refine ⟨F4, ws, (g2.trans g3).trans g4, keepP g4, (g3.trans g4).hh _ _ hw, ?_⟩
        rw [take_snoc hx, List.filter_append, List.map_append]
        have e1 : ([x].filter f).map r = [] := by simp [hf]
        rw [e1, List.append_nil]
        exact dpAll_mono (g3.trans g4).ff al
    · have e : i = xs.length := by omega
      subst e
      rw [List.take_length] at al
      have st := wk.2 F2 H' g2.ff g2.fh
      rw [List.length_map] at st
      refine .inl ⟨st, q _ F2 H' (g1.trans g2) ⟨fun x => if x = p then some (0, "") else none, ⟨p, ws, rfl, fp, if_pos rfl, hw, al⟩, fun x o e => ?_⟩⟩
      by_cases hx : x = p
      · rw [hx]; exact g1.hh.free hp
      · exact absurd e (by simp [hx])
theorem filter_yes {α : Type} (xs : List α) : xs.filter (fun _ => true) = xs := by simp
/-- without a test -/
theorem ev_lc1 {α : Type} {xs : List α} {enc : α → PyData} {wi : TI} {g : TG} {vs : List Nat} (hi : EvI K wi G (xs.map enc)) (r : α → PyData) (G2 : α → Env)
    (hg : ∀ x ∈ xs, TgS K g vs (enc x) (wipeG G vs) (G2 x)) (he : ∀ x ∈ xs, Ev K te (G2 x) (r x)) (hz : xs.length ≤ 100000) : EvS K (tLc wi g tYes te vs) G (.ow (xs.map r)) := by
  have h := ev_lc (te := te) (tt := tYes) hi (fun _ => true) r G2 hg (fun _ _ => eb_yes) (fun x hx _ => he x hx) hz
  rw [filter_yes] at h
  exact h
/-- each element a new list of whole numbers: all of it new -/
theorem ev_lcN {α : Type} {xs : List α} {enc : α → PyData} {wi : TI} {g : TG} {vs : List Nat} (hi : EvI K wi G (xs.map enc)) (r : α → List Int) (G2 : α → Env)
    (hg : ∀ x ∈ xs, TgS K g vs (enc x) (wipeG G vs) (G2 x)) (he : ∀ x ∈ xs, EvS K te (G2 x) (.ow ((r x).map .int))) (hz : xs.length ≤ 100000) : EvS K (tLc wi g tYes te vs) G (.nw (.list (xs.map fun x => .list ((r x).map .int)))) := fun F lab σ H rs Q q =>
  hi F lab σ H rs _ fun J F1 H1 g1 wk => by
    intro p hp
    have fp1 : F1 p = none := g1.fh.free hp
    refine ⟨fun i m H' => m = xs.length - i ∧ i ≤ xs.length ∧ ∃ F2 ws N, Go F1 H1 F2 H' ∧ F2 p = none ∧ H' p = some (.lst ws) ∧ N p = none ∧ (∀ a u, N a = some u → H' a = some u ∧ F2 a = none ∧ H1 a = none) ∧ DpNAll N ws ((xs.take i).map fun x => .list ((r x).map .int)),
      ⟨_, rfl, Nat.zero_le _, F1, [], fun _ => none, .heap g1.fh (same_new hp), fp1, upd_same, rfl, (fun _ _ z => nomatch z), .nil⟩, ?_⟩
    rintro i m H' ⟨rfl, hle, F2, ws, N, g2, fp, hw, np, hN, al⟩
    by_cases hlt : i < xs.length
    · have hx : xs[i]? = some xs[i] := List.getElem?_eq_getElem hlt
      have hm : xs[i] ∈ xs := List.getElem_mem hlt
      generalize xs[i] = x at hx hm
      have hd : (xs.map enc)[i]? = some (enc x) := by rw [List.getElem?_map, hx]; rfl
      obtain ⟨go, yl⟩ := wk.1 i _ F2 H' hd g2.ff g2.fh
      refine .inr ⟨go, fun H'' => ∃ F3 ws' N', Go F1 H1 F3 H'' ∧ F3 p = none ∧ H'' p = some (.lst ws') ∧ N' p = none ∧ (∀ a u, N' a = some u → H'' a = some u ∧ F3 a = none ∧ H1 a = none) ∧ DpNAll N' ws' ((xs.take (i + 1)).map fun x => .list ((r x).map .int)), fun H'' ⟨F3, ws', N', a, b, c, d, e, f⟩ => ⟨xs.length - (i + 1), by omega, rfl, hlt, F3, ws', N', a, b, c, d, e, f⟩, fun y H3 yy => ?_⟩
      obtain ⟨F3, g3, dy⟩ := yl y H3 yy
      have r3 : Rs K F3 lab (wipe σ vs) H3 (wipeG G vs) := ((rs.go g1).go (g2.trans g3)).wipe vs
      refine hg x hm F3 lab _ H3 y r3 dy _ fun σ' r4 ew => ⟨ew.trans (wipe_wipe σ vs vs fun _ h => h), ?_⟩
      show te σ' H3 _
      refine he x hm F3 lab σ' H3 r4 _ fun v F5 H5 g5 n5 => ?_
      obtain ⟨l5, ⟨b, bs, rfl, fb, lb, hb, bl⟩, nw5⟩ := n5
      have g35 := g3.trans g5
      have g15 := g2.trans g35
      have hw5 : H5 p = some (.lst ws) := g35.hh _ _ hw
      have fp5 : F5 p = none := (g35.nw p _ hw).trans fp
      have hb3 : H3 b = none := nw5 b _ lb
      have hbp : b ≠ p := fun z => by
        rw [z, g3.hh _ _ hw] at hb3
        cases hb3
      have hb1 : H1 b = none := (g2.hh.trans g3.hh).free hb3
      have nb : N b = none := by
        cases w : N b with
        | none => rfl
        | some u =>
          have := g3.hh _ _ (hN b u w).1
          rw [hb3] at this
          cases this
      refine ⟨ws, hw5, ?_, F5, ws ++ [.ref b], upd N b (.lst bs), ?_, fp5, upd_same, by rw [upd_ne hbp.symm]; exact np, fun a u za => ?_, ?_⟩
      · rw [dpNAll_len al, List.length_map, List.length_take, sizeLine_eq]
        omega
      · exact ⟨g15.ff, same_upd g15.hh hp, same_upd g15.fh fp5, g15.nw⟩
      · by_cases ha : a = b
        · rw [ha, upd_same] at za
          cases za
          rw [ha]
          exact ⟨by rw [upd_ne hbp]; exact hb, fb, hb1⟩
        · rw [upd_ne ha] at za
          have h3 := hN a u za
          have hap : a ≠ p := fun w => by rw [w, np] at za; cases za
          exact ⟨by rw [upd_ne hap]; exact g35.hh _ _ h3.1, (g35.nw a _ h3.1).trans h3.2.1, h3.2.2⟩
      · rw [take_snoc hx, List.map_append]
        refine dpNAll_append (dpNAll_mono (same_new nb) al) (.cons (.lst upd_same ?_) .nil)
        rw [dpAll_ints bl]
        exact dpNAll_ints _
    · have e : i = xs.length := by omega
      subst e
      rw [List.take_length] at al
      have st := wk.2 F2 H' g2.ff g2.fh
      rw [List.length_map] at st
      refine .inl ⟨st, q _ F2 H' (g1.trans g2) ⟨fun a => match upd N p (.lst ws) a with | some _ => some (0, ("" : Str)) | none => none, ⟨upd N p (.lst ws), fun a u za => ?_, .lst upd_same (dpNAll_mono (same_new np) al)⟩, fun a o z => ?_⟩⟩
      · by_cases ha : a = p
        · rw [ha, upd_same] at za
          cases za
          rw [ha]
          exact ⟨hw, fp, by simp [upd_same]⟩
        · have za' := za
          rw [upd_ne ha] at za
          have h3 := hN a u za
          exact ⟨h3.1, h3.2.1, by simp [za']⟩
      · by_cases ha : a = p
        · rw [ha]; exact g1.hh.free hp
        · cases w : N a with
          | none => exact absurd z (by simp [upd_ne ha, w])
          | some u => exact g1.hh.free (hN a u w).2.2
end
open PySem L2
section
variable {K : PySem.W.Frag} {G : Env} {ta tb te tc : TE}

/-! ### statements, at the level of data -/
structure GE where
  nx : Env → Prop := fun _ => False
  rt : Sl → Prop := fun _ => False
  bk : Env → Prop := fun _ => False
  ct : Env → Prop := fun _ => False
  ex : Addr → Prop := fun _ => False
structure Rl (K : PySem.W.Frag) (B F0 F : Hp) (lab : Lab) (σ : L2.St) (H : Hp) (G : Env) : Prop where
  rs : Rs K F lab σ H G
  go : Go F0 B F H
  lb : ∀ p o, lab p = some o → B p = none
  lv : ∀ p o, lab p = some o → ∃ u, H p = some u
structure Lands (K : PySem.W.Frag) (E : XK) (B F0 Fs : Hp) (D : GE) (D' : Ends) : Prop where
  nx : ∀ F lab σ H G, Rl K B F0 F lab σ H G → Same Fs F → D.nx G → D'.nx σ H
  rt : ∀ v F H s, Go F0 B F H → NvV K F H B v s → D.rt s → D'.rt v H
  bk : ∀ F lab σ H G, Rl K B F0 F lab σ H G → Same Fs F → D.bk G → D'.bk σ H
  ct : ∀ F lab σ H G, Rl K B F0 F lab σ H G → Same Fs F → D.ct G → D'.ct σ H
  ex : ∀ c F H, Go F0 B F H → D.ex c → E (.ref c) none H
theorem Lands.grow {K : PySem.W.Frag} {E : XK} {B F0 Fs Fs' : Hp} {D : GE} {D' : Ends} (l : Lands K E B F0 Fs D D') (e : Same Fs Fs') : Lands K E B F0 Fs' D D' :=
  ⟨fun F lab σ H G r z q => l.nx F lab σ H G r (e.trans z) q, l.rt, fun F lab σ H G r z q => l.bk F lab σ H G r (e.trans z) q, fun F lab σ H G r z q => l.ct F lab σ H G r (e.trans z) q, l.ex⟩
def St (K : PySem.W.Frag) (E : XK) (t : TS) (G : Env) (D : GE) : Prop := ∀ B F0 F lab σ H, Rl K B F0 F lab σ H G → ∀ D' : Ends, Lands K E B F0 F D D' → t D' σ H
variable {E : XK} {D : GE} {t u : TS}
theorem Rl.step {B F0 F F' H H' : Hp} {lab : Lab} {σ : L2.St} (r : Rl K B F0 F lab σ H G) (g : Go F H F' H') : Rl K B F0 F' lab σ H' G := ⟨r.rs.go g, r.go.trans g, r.lb, fun p o e => let ⟨u, h⟩ := r.lv p o e; ⟨u, g.hh _ _ h⟩⟩
theorem st_seq (h : St K E t G { D with nx := fun G' => St K E u G' D }) : St K E (tSeq t u) G D := fun B F0 F lab σ H r D' l =>
  h B F0 F lab σ H r { D' with nx := u D' } ⟨fun F2 lab σ H G' r' z h' => h' B F0 F2 lab σ H r' D' (l.grow z), l.rt, l.bk, l.ct, l.ex⟩
theorem st_next (h : D.nx G) : St K E tNext G D := fun B F0 F lab σ H r D' l => l.nx F lab σ H G r (.refl F) h
theorem st_break (h : D.bk G) : St K E tBreak G D := fun B F0 F lab σ H r D' l => l.bk F lab σ H G r (.refl F) h
theorem st_cont (h : D.ct G) : St K E tCont G D := fun B F0 F lab σ H r D' l => l.ct F lab σ H G r (.refl F) h
theorem st_ret {s : Sl} (h : EvS K te G s) (q : D.rt s) : St K E (tRet te) G D := fun B F0 F lab σ H r D' l =>
  h F lab σ H r.rs _ fun v F' H' g n => l.rt v F' H' s (r.go.trans g) (n.base r.go.hh) q
theorem FlV.relab {F H : Hp} {lab lab' : Lab} {o o' : Nat × Str} {v : V} {x : Fl} (e : ∀ p, lab p = some o → lab' p = some o') (h : FlV K F H lab o v x) : FlV K F H lab' o' v x := by
  cases x with
  | im d => exact h
  | ow ds =>
    obtain ⟨p, vs, a, b, c, d⟩ := h
    exact ⟨p, vs, a, b, e p c, d⟩
  | nw d =>
    obtain ⟨N, h, a⟩ := h
    exact ⟨N, fun b u q => ⟨(h b u q).1, (h b u q).2.1, e b (h b u q).2.2⟩, a⟩
  | nl ds =>
    obtain ⟨p, vs, N, x, n, l, hp, np, h, a⟩ := h
    exact ⟨p, vs, N, x, n, e p l, hp, np, fun b u q => ⟨(h b u q).1, (h b u q).2.1, e b (h b u q).2.2⟩, a⟩
  | ju =>
    obtain ⟨p, vs, a, b, c, d⟩ := h
    exact ⟨p, vs, a, b, e p c, d⟩
  | pr ds d =>
    obtain ⟨p, vs, a, b, c, d⟩ := h
    exact ⟨p, vs, a, b, e p c, d⟩
  | ls tup nn its =>
    obtain ⟨t, ws, x, ht, hi⟩ := h
    exact ⟨t, ws, x, ht, hi.imp (.refl F) fun p u a b c => ⟨a, e p b, c⟩⟩
  | qo os => exact h
  | pin w d => exact h
  | val w => exact h
theorem FsV.relab {F H : Hp} {lab lab' : Lab} {i j : Nat} (e : ∀ p f, lab p = some (i, f) → lab' p = some (j, f)) : ∀ {ps : List (Str × V)} {qs : List (Str × Fl)}, FsV K F H lab i ps qs → FsV K F H lab' j ps qs
  | [], [], _ => trivial
  | _ :: _, _ :: _, h => ⟨h.1, h.2.1.relab fun p => e p _, FsV.relab e h.2.2⟩
theorem SlV.relab {F H : Hp} {lab lab' : Lab} {i j : Nat} {v : V} {s : Sl} (e : ∀ p f, lab p = some (i, f) → lab' p = some (j, f)) (h : SlV K F H lab i v s) : SlV K F H lab' j v s := by
  cases s with
  | no => trivial
  | fl x => exact FlV.relab (fun p => e p _) h
  | ob C fs =>
    obtain ⟨a, dx, fvs, x, y, z⟩ := h
    exact ⟨a, dx, fvs, x, y, z.relab e⟩
/-- a name that holds its own list, or an object, is handed back -/
theorem st_retV {i : Nat} {s : Sl} (h : G[i]? = some s) (n : s ≠ .no) (q : D.rt s) : St K E (tRet (tVar i)) G D := fun B F0 F lab σ H r D' l => by
  obtain ⟨v, e, hv⟩ := r.rs.sl i s h n
  refine ⟨v, e, l.rt v F H s r.go ⟨fun p => match lab p with | some (k, f) => if k = i then some (0, f) else none | none => none, hv.relab fun p f z => ?_, fun p o z => ?_⟩ q⟩
  · simp [z]
  · cases e' : lab p with
    | none => exact absurd z (by simp [e'])
    | some k => exact r.lb p k e'
/-- a value is stored -/
def joinLab (lab lab2 : Lab) (i : Nat) : Lab := fun p => match lab2 p with
  | some (_, f) => some (i, f)
  | none => lab p
theorem Rs.set {F H : Hp} {lab : Lab} {σ : L2.St} {v : V} {s : Sl} {j : Nat} {lab2 : Lab} {H0 : Hp} (r : Rs K F lab σ H G) (hv : SlV K F H lab2 0 v s) (hn : ∀ p o, lab2 p = some o → H0 p = none) (h0 : ∀ p o u, lab p = some o → F p = none → H p = some u → lab2 p = none)
    (hz : ∀ p f, lab2 p = some (0, f) → joinLab lab lab2 j p = some (j, f) := by intro p f e; simp [joinLab, e]) : Rs K F (joinLab lab lab2 j) (σ.set j (some v)) H (G.set j s) :=
  ⟨r.fh, by rw [List.length_set, List.length_set]; exact r.len, fun i s' e n => by
    by_cases hi : j = i
    · subst hi
      by_cases hj : j < G.length
      · rw [List.getElem?_set_self hj] at e
        cases e
        exact ⟨v, by rw [List.getElem?_set_self (by rw [← r.len]; exact hj)], hv.relab fun p f z => hz p f z⟩
      · rw [List.getElem?_eq_none (by simpa using hj)] at e
        cases e
    · rw [List.getElem?_set_ne hi] at e ⊢
      obtain ⟨w, ew, hw⟩ := r.sl i s' e n
      refine ⟨w, ew, ?_⟩
      have fl : ∀ {f : Str} {w : V} {x : Fl}, FlV K F H lab (i, f) w x → FlV K F H (joinLab lab lab2 j) (i, f) w x := fun {f w x} h => by
        cases x with
        | im d => exact h
        | ow ds =>
          obtain ⟨p, vs, a, b, c, d, al⟩ := h
          refine ⟨p, vs, a, b, ?_, d, al⟩
          show (match lab2 p with | some (_, f) => some (j, f) | none => lab p) = _
          rw [h0 p _ _ c b d]
          exact c
        | nw d =>
          obtain ⟨N, h, a⟩ := h
          refine ⟨N, fun b u q => ⟨(h b u q).1, (h b u q).2.1, ?_⟩, a⟩
          show (match lab2 b with | some (_, f) => some (j, f) | none => lab b) = _
          rw [h0 b _ _ (h b u q).2.2 (h b u q).2.1 (h b u q).1]
          exact (h b u q).2.2
        | nl ds =>
          obtain ⟨p, vs, N, x, n, l, hp, np, h, a⟩ := h
          refine ⟨p, vs, N, x, n, ?_, hp, np, fun b u q => ⟨(h b u q).1, (h b u q).2.1, ?_⟩, a⟩
          · show (match lab2 p with | some (_, f) => some (j, f) | none => lab p) = _
            rw [h0 p _ _ l n hp]
            exact l
          · show (match lab2 b with | some (_, f) => some (j, f) | none => lab b) = _
            rw [h0 b _ _ (h b u q).2.2 (h b u q).2.1 (h b u q).1]
            exact (h b u q).2.2
        | ju =>
          obtain ⟨p, vs, a, b, c, d⟩ := h
          refine ⟨p, vs, a, b, ?_, d⟩
          show (match lab2 p with | some (_, f) => some (j, f) | none => lab p) = _
          rw [h0 p _ _ c b d]
          exact c
        | pr ds d =>
          obtain ⟨p, vs, a, b, c, d, al⟩ := h
          refine ⟨p, vs, a, b, ?_, d, al⟩
          show (match lab2 p with | some (_, f) => some (j, f) | none => lab p) = _
          rw [h0 p _ _ c b d]
          exact c
        | ls tup nn its =>
          obtain ⟨t, ws, x, ht, hi⟩ := h
          refine ⟨t, ws, x, ht, hi.imp (.refl F) fun p u a b c => ⟨a, ?_, c⟩⟩
          show (match lab2 p with | some (_, f) => some (j, f) | none => lab p) = _
          rw [h0 p _ _ b a c]
          exact b
        | qo os => exact h
        | pin w d => exact h
        | val w => exact h
      have fsl : ∀ {ps : List (Str × V)} {qs : List (Str × Fl)}, FsV K F H lab i ps qs → FsV K F H (joinLab lab lab2 j) i ps qs := by
        intro ps qs
        induction ps generalizing qs with
        | nil => cases qs <;> exact fun h => h
        | cons p ps ih =>
          cases qs with
          | nil => exact fun h => h
          | cons q qs => exact fun h => ⟨h.1, fl h.2.1, ih h.2.2⟩
      cases s' with
      | no => exact absurd rfl n
      | fl x => exact fl hw
      | ob C fs =>
        obtain ⟨a, dx, fvs, x, y, z⟩ := hw
        exact ⟨a, dx, fvs, x, y, fsl z⟩⟩
/-- labels of what stands alone -/
def liveLab (H : Hp) (lab : Lab) : Lab := fun p => match H p with
  | some _ => lab p
  | none => none
theorem FlV.live {F H : Hp} {lab : Lab} {o : Nat × Str} {v : V} {x : Fl} (h : FlV K F H lab o v x) : FlV K F H (liveLab H lab) o v x := by
  cases x with
  | im d => exact h
  | ow ds =>
    obtain ⟨p, vs, a, b, c, d, e⟩ := h
    refine ⟨p, vs, a, b, ?_, d, e⟩
    unfold liveLab
    rw [d]
    exact c
  | nw d =>
    obtain ⟨N, h, a⟩ := h
    refine ⟨N, fun b u q => ⟨(h b u q).1, (h b u q).2.1, ?_⟩, a⟩
    unfold liveLab
    rw [(h b u q).1]
    exact (h b u q).2.2
  | nl ds =>
    obtain ⟨p, vs, N, x, n, l, hp, np, h, a⟩ := h
    refine ⟨p, vs, N, x, n, ?_, hp, np, fun b u q => ⟨(h b u q).1, (h b u q).2.1, ?_⟩, a⟩
    · unfold liveLab
      rw [hp]
      exact l
    · unfold liveLab
      rw [(h b u q).1]
      exact (h b u q).2.2
  | ju =>
    obtain ⟨p, vs, a, b, c, d⟩ := h
    refine ⟨p, vs, a, b, ?_, d⟩
    unfold liveLab
    rw [d]
    exact c
  | pr ds d =>
    obtain ⟨p, vs, a, b, c, d, al⟩ := h
    refine ⟨p, vs, a, b, ?_, d, al⟩
    unfold liveLab
    rw [d]
    exact c
  | ls tup nn its =>
    obtain ⟨t, ws, x, ht, hi⟩ := h
    refine ⟨t, ws, x, ht, hi.imp (.refl F) fun p u a b c => ⟨a, ?_, c⟩⟩
    unfold liveLab
    rw [c]
    exact b
  | qo os => exact h
  | pin w d => exact h
  | val w => exact h
theorem FsV.live {F H : Hp} {lab : Lab} {i : Nat} : ∀ {ps : List (Str × V)} {qs : List (Str × Fl)}, FsV K F H lab i ps qs → FsV K F H (liveLab H lab) i ps qs
  | [], [], _ => trivial
  | _ :: _, _ :: _, h => ⟨h.1, h.2.1.live, FsV.live h.2.2⟩
theorem SlV.live {F H : Hp} {lab : Lab} {i : Nat} {v : V} {s : Sl} (h : SlV K F H lab i v s) : SlV K F H (liveLab H lab) i v s := by
  cases s with
  | no => trivial
  | fl x => exact FlV.live h
  | ob C fs =>
    obtain ⟨a, dx, fvs, x, y, z⟩ := h
    exact ⟨a, dx, fvs, x, y, z.live⟩
theorem liveLab_of {H : Hp} {lab : Lab} {p : Addr} {o : Nat × Str} (e : liveLab H lab p = some o) : lab p = some o ∧ ∃ u, H p = some u := by
  unfold liveLab at e
  cases h : H p with
  | none => rw [h] at e; cases e
  | some u => rw [h] at e; exact ⟨e, u, rfl⟩
/-- behind an evaluation -/
theorem Rl.set {B F0 F F' H H' : Hp} {lab : Lab} {σ : L2.St} {v : V} {s : Sl} {j : Nat} (r : Rl K B F0 F lab σ H G) (g : Go F H F' H') (nv : NvV K F' H' H v s) : ∃ lab', Rl K B F0 F' lab' (σ.set j (some v)) H' (G.set j s) := by
  obtain ⟨lab2, hv, hn⟩ := nv
  have hn' : ∀ p o, liveLab H' lab2 p = some o → H p = none := fun p o e => hn p o (liveLab_of e).1
  refine ⟨joinLab lab (liveLab H' lab2) j, (r.rs.go g).set hv.live hn' fun p o ds e _ _ => ?_, r.go.trans g, fun p o e => ?_, fun p o e => ?_⟩
  · cases e2 : liveLab H' lab2 p with
    | none => rfl
    | some k =>
      obtain ⟨u, hu⟩ := r.lv p o e
      have := hn' p k e2
      rw [hu] at this
      cases this
  · unfold joinLab at e
    cases e2 : liveLab H' lab2 p with
    | none => rw [e2] at e; exact r.lb p o e
    | some k => exact r.go.hh.free (hn' p k e2)
  · unfold joinLab at e
    cases e2 : liveLab H' lab2 p with
    | none =>
      rw [e2] at e
      obtain ⟨u, hu⟩ := r.lv p o e
      exact ⟨u, g.hh _ _ hu⟩
    | some k => exact (liveLab_of e2).2
theorem st_asg {j : Nat} {s : Sl} (h : EvS K te G s) (q : D.nx (G.set j s)) : St K E (tAsg te (gName j)) G D := fun B F0 F lab σ H r D' l =>
  h F lab σ H r.rs _ fun v F' H' g n => by
    obtain ⟨lab', r'⟩ := r.set (j := j) g n
    exact l.nx F' lab' _ H' _ r' g.ff q
theorem st_drop {s : Sl} (h : EvS K te G s) (q : D.nx G) : St K E (tDrop te) G D := fun B F0 F lab σ H r D' l => h F lab σ H r.rs _ fun v F' H' g n => l.nx F' lab σ H' G (r.step g) g.ff q
theorem st_if {c : TT} {b : Bool} (h : EvB K c G b) (h1 : b = true → St K E t G D) (h2 : b = false → St K E u G D) : St K E (tIfS c t u) G D := fun B F0 F lab σ H r D' l => h F lab σ H r.rs _ fun F' H' g => by
  cases b with
  | true => exact h1 rfl B F0 F' lab σ H' (r.step g) D' (l.grow g.ff)
  | false => exact h2 rfl B F0 F' lab σ H' (r.step g) D' (l.grow g.ff)
/-- a, b = e1, e2 -/
theorem st_par {i j : Nat} {d e : PyData} (h : Ev K ta G d) (h2 : Ev K tb G e) (q : D.nx ((G.set i (.im d)).set j (.im e))) : St K E (tPar i j (tCons ta (tCons tb tNil))) G D := fun B F0 F lab σ H r D' l =>
  h F lab σ H r.rs _ fun v F1 H1 g1 n1 => h2 F1 lab σ H1 (r.rs.go g1) _ fun w F2 H2 g2 n2 => by
    refine ⟨v, w, rfl, ?_⟩
    have r2 := r.step (g1.trans g2)
    exact l.nx F2 lab _ H2 _ ⟨(r2.rs.setIm (dp_mono g2.ff n1.dp)).setIm n2.dp, r2.go, r2.lb, r2.lv⟩ (g1.trans g2).ff q
/-- a, b = t and the like: by the target -/
theorem st_asgT {g : TG} {vs : List Nat} {d : PyData} {G' : Env} (h : Ev K te G d) (hg : TgS K g vs d G G') (q : D.nx G') : St K E (tAsg te g) G D := fun B F0 F lab σ H r D' l =>
  h F lab σ H r.rs _ fun v F1 H1 g1 n1 => by
    have r1 := r.step g1
    exact hg F1 lab σ H1 v r1.rs n1.dp _ fun σ' r' _ => l.nx F1 lab σ' H1 G' ⟨r', r1.go, r1.lb, r1.lv⟩ g1.ff q

/-! ### a list of one's own changes -/
/-- the list at p, owned by o, is replaced -/
theorem FlV.other {F H : Hp} {lab : Lab} {o o' : Nat × Str} {v : V} {x : Fl} {p : Addr} {u : HO} (hp : lab p = some o') (ne : o ≠ o') (h : FlV K F H lab o v x) : FlV K F (upd H p u) lab o v x := by
  cases x with
  | im d => exact h
  | ow ds =>
    obtain ⟨q, vs, a, b, c, d, e⟩ := h
    refine ⟨q, vs, a, b, c, ?_, e⟩
    rw [upd_ne (fun z => ne ?_)]
    · exact d
    · rw [z, hp] at c
      exact (Option.some.inj c).symm
  | nw d =>
    obtain ⟨N, h, a⟩ := h
    refine ⟨N, fun b w q => ⟨?_, (h b w q).2.1, (h b w q).2.2⟩, a⟩
    rw [upd_ne (fun z => ne ?_)]
    · exact (h b w q).1
    · have c := (h b w q).2.2
      rw [z, hp] at c
      exact (Option.some.inj c).symm
  | nl ds =>
    obtain ⟨q, vs, N, x, n, l, hq, np, h, a⟩ := h
    have far : ∀ {b : Addr}, lab b = some o → b ≠ p := fun {b} c z => ne (by
      rw [z, hp] at c
      exact (Option.some.inj c).symm)
    refine ⟨q, vs, N, x, n, l, ?_, np, fun b w q => ⟨?_, (h b w q).2.1, (h b w q).2.2⟩, a⟩
    · rw [upd_ne (far l)]; exact hq
    · rw [upd_ne (far (h b w q).2.2)]; exact (h b w q).1
  | ju =>
    obtain ⟨q, vs, a, b, c, d⟩ := h
    refine ⟨q, vs, a, b, c, ?_⟩
    rw [upd_ne (fun z => ne ?_)]
    · exact d
    · rw [z, hp] at c
      exact (Option.some.inj c).symm
  | pr ds d =>
    obtain ⟨q, vs, a, b, c, d, al⟩ := h
    refine ⟨q, vs, a, b, c, ?_, al⟩
    rw [upd_ne (fun z => ne ?_)]
    · exact d
    · rw [z, hp] at c
      exact (Option.some.inj c).symm
  | ls tup nn its =>
    obtain ⟨t, ws, x, ht, hi⟩ := h
    refine ⟨t, ws, x, ht, hi.imp (.refl F) fun q u a b c => ⟨a, b, ?_⟩⟩
    rw [upd_ne (fun z => ne ?_)]
    · exact c
    · rw [z, hp] at b
      exact (Option.some.inj b).symm
  | qo os => exact h
  | pin w d => exact h
  | val w => exact h
theorem FsV.other {F H : Hp} {lab : Lab} {i : Nat} {o' : Nat × Str} {p : Addr} {u : HO} (hp : lab p = some o') (ne : i ≠ o'.1) : ∀ {ps : List (Str × V)} {qs : List (Str × Fl)}, FsV K F H lab i ps qs → FsV K F (upd H p u) lab i ps qs
  | [], [], _ => trivial
  | _ :: _, _ :: _, h => ⟨h.1, h.2.1.other hp (fun z => ne (by rw [← z])), FsV.other hp ne h.2.2⟩
theorem SlV.other {F H : Hp} {lab : Lab} {i : Nat} {v : V} {s : Sl} {o' : Nat × Str} {p : Addr} {u : HO} (hp : lab p = some o') (ne : i ≠ o'.1) (h : SlV K F H lab i v s) : SlV K F (upd H p u) lab i v s := by
  cases s with
  | no => trivial
  | fl x => exact FlV.other hp (fun z => ne (by rw [← z])) h
  | ob C fs =>
    obtain ⟨a, dx, fvs, x, y, z⟩ := h
    exact ⟨a, dx, fvs, x, y, z.other hp ne⟩
theorem Rl.mut {B F0 F H : Hp} {lab : Lab} {σ : L2.St} {j : Nat} {p : Addr} {vs : List V} {ds : List PyData} {ds0 : List PyData} (r : Rl K B F0 F lab σ H G) (hg : G[j]? = some (.ow ds0)) (hs : σ[j]? = some (some (.ref p))) (fp : F p = none) (lp : lab p = some (j, ("" : Str))) (hp : ∃ u, H p = some u) (al : DpAll K F vs ds) :
    Rl K B F0 F lab σ (upd H p (.lst vs)) (G.set j (.ow ds)) := by
  obtain ⟨u, hu⟩ := hp
  have bp := r.lb p _ lp
  refine ⟨⟨same_upd r.rs.fh fp, by rw [List.length_set]; exact r.rs.len, fun i s e n => ?_⟩, ⟨r.go.ff, same_upd r.go.hh bp, same_upd r.go.fh fp, r.go.nw⟩, r.lb, fun q o e => ?_⟩
  · by_cases hi : j = i
    · subst hi
      have hj : j < G.length := (List.getElem?_eq_some_iff.mp hg).1
      rw [List.getElem?_set_self hj] at e
      cases e
      exact ⟨_, hs, p, vs, rfl, fp, lp, upd_same, al⟩
    · rw [List.getElem?_set_ne hi] at e
      obtain ⟨v, ev, hv⟩ := r.rs.sl i s e n
      exact ⟨v, ev, hv.other lp (fun z => hi z.symm)⟩
  · by_cases hq : q = p
    · exact ⟨_, by rw [hq]; exact upd_same⟩
    · obtain ⟨u, hu⟩ := r.lv q o e
      exact ⟨u, by rw [upd_ne hq]; exact hu⟩
/-- where a name's own list stands -/
theorem Rs.own {F H : Hp} {lab : Lab} {σ : L2.St} {j : Nat} {ds : List PyData} (r : Rs K F lab σ H G) (h : G[j]? = some (.ow ds)) : ∃ p vs, σ[j]? = some (some (.ref p)) ∧ F p = none ∧ lab p = some (j, ("" : Str)) ∧ H p = some (.lst vs) ∧ DpAll K F vs ds := by
  obtain ⟨v, e, p, vs, rfl, a, b, c, d⟩ := r.sl j _ h (fun z => nomatch z)
  exact ⟨p, vs, e, a, b, c, d⟩
/-- x.append(e), x a list of one's own -/
theorem st_app {j : Nat} {d : PyData} {ds : List PyData} (hg : G[j]? = some (.ow ds)) (h : Ev K te G d) (hl : ds.length < 100000) (q : D.nx (G.set j (.ow (ds ++ [d])))) : St K E (tDrop (tBM K "list" rAppend (tVar j) (tCons te tNil))) G D := fun B F0 F lab σ H r D' l => by
  obtain ⟨p, vs, e, fp, lp, hp, al⟩ := r.rs.own hg
  refine ⟨_, e, .inl ⟨rfl, _, SqL.of hp⟩, h F lab σ H r.rs _ fun v F1 H1 g1 n1 => ?_⟩
  have r1 := r.step g1
  have hp1 := g1.hh _ _ hp
  have fp1 := (g1.nw p _ hp).trans fp
  have al1 := dpAll_append (dpAll_mono g1.ff al) (.cons n1.dp .nil)
  exact ⟨p, vs, v, rfl, rfl, hp1, by rw [dpAll_len al, sizeLine_eq]; omega, l.nx F1 lab σ _ _ (r1.mut hg e fp1 lp ⟨_, hp1⟩ al1) g1.ff q⟩
/-- x.extend(e), e a list that the heap holds -/
theorem st_ext {j : Nat} {es ds : List PyData} (hg : G[j]? = some (.ow ds)) (h : EvS K te G (.ow es)) (hl : ds.length + es.length ≤ 100000) (q : D.nx (G.set j (.ow (ds ++ es)))) : St K E (tDrop (tBM K "list" rExtend (tVar j) (tCons te tNil))) G D := fun B F0 F lab σ H r D' l => by
  obtain ⟨p, vs, e, fp, lp, hp, al⟩ := r.rs.own hg
  refine ⟨_, e, .inl ⟨rfl, _, SqL.of hp⟩, h F lab σ H r.rs _ fun v F1 H1 g1 n1 => ?_⟩
  obtain ⟨lab2, ⟨b, ws, rfl, _, _, hb, bl⟩, _⟩ := n1
  have r1 := r.step g1
  have hp1 := g1.hh _ _ hp
  have fp1 := (g1.nw p _ hp).trans fp
  have al1 := dpAll_append (dpAll_mono g1.ff al) bl
  exact ⟨p, b, vs, ws, rfl, rfl, hp1, hb, by rw [dpAll_len al, dpAll_len bl, sizeLine_eq]; omega, l.nx F1 lab σ _ _ (r1.mut hg e fp1 lp ⟨_, hp1⟩ al1) g1.ff q⟩
/-- x[i] = e -/
theorem st_setL {j k : Nat} {i : Int} {d : PyData} {ds : List PyData} (hg : G[j]? = some (.ow ds)) (h : Ev K te G d) (hi : EvH K tb G (.int i)) (hk : ixN ds.length i = some k) (q : D.nx (G.set j (.ow (ds.set k d)))) : St K E (tAsg te (gSub (tVar j) tb rSetL)) G D := fun B F0 F lab σ H r D' l =>
  h F lab σ H r.rs _ fun v F1 H1 g1 n1 => by
    have r1 := r.step g1
    obtain ⟨p, vs, e, fp, lp, hp, al⟩ := r1.rs.own hg
    refine ⟨_, e, hi F1 lab σ H1 r1.rs _ fun w F2 H2 g2 n2 => ?_⟩
    have r2 := r1.step g2
    have hp2 := g2.hh _ _ hp
    have fp2 := (g2.nw p _ hp).trans fp
    exact ⟨p, vs, i, k, rfl, dp_int n2, hp2, by rw [dpAll_len al]; exact hk, l.nx F2 lab σ _ _ (r2.mut hg e fp2 lp ⟨_, hp2⟩ (dpAll_set (dp_mono g2.ff n1.dp) k (dpAll_mono g2.ff al))) (g1.trans g2).ff q⟩
/-- x.clear() -/
theorem st_clear {j : Nat} {ds : List PyData} (hg : G[j]? = some (.ow ds)) (q : D.nx (G.set j (.ow []))) : St K E (tDrop (tBM0 K "list" rClear (tVar j))) G D := fun B F0 F lab σ H r D' l => by
  obtain ⟨p, vs, e, fp, lp, hp, al⟩ := r.rs.own hg
  exact ⟨_, e, .inl ⟨rfl, _, SqL.of hp⟩, p, vs, rfl, rfl, hp, l.nx F lab σ _ _ (r.mut hg e fp lp ⟨_, hp⟩ .nil) (.refl F) q⟩
/-- x.pop() -/
theorem st_pop {j : Nat} {ds : List PyData} (hg : G[j]? = some (.ow ds)) (hne : ds ≠ []) (q : D.nx (G.set j (.ow ds.dropLast))) : St K E (tDrop (tBM0 K "list" rPop (tVar j))) G D := fun B F0 F lab σ H r D' l => by
  obtain ⟨p, vs, e, fp, lp, hp, al⟩ := r.rs.own hg
  have hl := dpAll_len al
  have h0 : 0 < ds.length := List.length_pos_iff.mpr hne
  refine ⟨_, e, .inl ⟨rfl, _, SqL.of hp⟩, p, vs, vs[vs.length - 1]'(by omega), rfl, rfl, hp, List.getElem?_eq_getElem (by omega), l.nx F lab σ _ _ (r.mut hg e fp lp ⟨_, hp⟩ ?_) (.refl F) q⟩
  rw [List.dropLast_eq_take, List.dropLast_eq_take, hl]
  exact dpAll_take _ al
/-- a name's own list is left as it is from here on -/
theorem Rl.freeze {B F0 F H : Hp} {lab : Lab} {σ : L2.St} {j : Nat} {ds : List PyData} (r : Rl K B F0 F lab σ H G) (hg : G[j]? = some (.ow ds)) : ∃ F', Rl K B F0 F' lab σ H (G.set j (.im (.list ds))) ∧ Same F F' := by
  obtain ⟨p, vs, e, fp, lp, hp, al⟩ := r.rs.own hg
  have bp := r.lb p _ lp
  have ff : Same F (upd F p (.lst vs)) := same_new fp
  refine ⟨upd F p (.lst vs), ⟨⟨same_updF r.rs.fh hp, by rw [List.length_set]; exact r.rs.len, fun i s q n => ?_⟩, ⟨r.go.ff.trans ff, r.go.hh, same_updF r.go.fh hp, fun a o z => ?_⟩, r.lb, r.lv⟩, ff⟩
  · by_cases hi : j = i
    · subst hi
      have hj : j < G.length := (List.getElem?_eq_some_iff.mp hg).1
      rw [List.getElem?_set_self hj] at q
      cases q
      exact ⟨_, e, .lst (.inl (.inl upd_same)) (dpAll_mono ff al)⟩
    · rw [List.getElem?_set_ne hi] at q
      obtain ⟨v, ev, hv⟩ := r.rs.sl i s q n
      refine ⟨v, ev, ?_⟩
      have fl : ∀ {f : Str} {w : V} {x : Fl}, FlV K F H lab (i, f) w x → FlV K (upd F p (.lst vs)) H lab (i, f) w x := fun {f w x} h => by
        cases x with
        | im d => exact dp_mono ff h
        | ow ds =>
          obtain ⟨q, vs, a, b, c, d, al⟩ := h
          refine ⟨q, vs, a, ?_, c, d, dpAll_mono ff al⟩
          rw [upd_ne (fun z => ?_)]
          · exact b
          · rw [z, lp] at c
            exact hi (congrArg Prod.fst (Option.some.inj c))
        | nw d =>
          obtain ⟨N, h, a⟩ := h
          refine ⟨N, fun b u q => ⟨(h b u q).1, ?_, (h b u q).2.2⟩, a⟩
          rw [upd_ne (fun z => ?_)]
          · exact (h b u q).2.1
          · have c := (h b u q).2.2
            rw [z, lp] at c
            exact hi (congrArg Prod.fst (Option.some.inj c))
        | nl ds =>
          obtain ⟨q, vs, N, x, n, l, hq, np, h, a⟩ := h
          have far : ∀ {b : Addr} {f : Str}, lab b = some (i, f) → b ≠ p := fun {b f} c z => hi (by
            rw [z, lp] at c
            exact congrArg Prod.fst (Option.some.inj c))
          refine ⟨q, vs, N, x, ?_, l, hq, np, fun b w q => ⟨(h b w q).1, ?_, (h b w q).2.2⟩, a⟩
          · rw [upd_ne (far l)]; exact n
          · rw [upd_ne (far (h b w q).2.2)]; exact (h b w q).2.1
        | ju =>
          obtain ⟨q, vs, a, b, c, d⟩ := h
          refine ⟨q, vs, a, ?_, c, d⟩
          rw [upd_ne (fun z => ?_)]
          · exact b
          · rw [z, lp] at c
            exact hi (congrArg Prod.fst (Option.some.inj c))
        | pr ds d =>
          obtain ⟨q, vs, ⟨t, w, e, ht, hw⟩, b, c, d, al⟩ := h
          refine ⟨q, vs, ⟨t, w, e, same_new fp _ _ ht, dp_mono (same_new fp) hw⟩, ?_, c, d, dpAll_mono (same_new fp) al⟩
          rw [upd_ne (fun z => ?_)]
          · exact b
          · rw [z, lp] at c
            exact hi (congrArg Prod.fst (Option.some.inj c))
        | ls tup nn its =>
          obtain ⟨t, ws, x, ht, hit⟩ := h
          refine ⟨t, ws, x, ff _ _ ht, hit.imp ff fun q u a b c => ⟨?_, b, c⟩⟩
          rw [upd_ne (fun z => ?_)]
          · exact a
          · rw [z, lp] at b
            exact hi (congrArg Prod.fst (Option.some.inj b))
        | qo os =>
          obtain ⟨t, ws, x, ht, hit⟩ := h
          exact ⟨t, ws, x, ff _ _ ht, hit.mono ff⟩
        | pin w d => exact ⟨h.1, dp_mono ff h.2⟩
        | val w => exact h
      have fsl : ∀ {ps : List (Str × V)} {qs : List (Str × Fl)}, FsV K F H lab i ps qs → FsV K (upd F p (.lst vs)) H lab i ps qs := by
        intro ps qs
        induction ps generalizing qs with
        | nil => cases qs <;> exact fun h => h
        | cons p ps ih =>
          cases qs with
          | nil => exact fun h => h
          | cons q qs => exact fun h => ⟨h.1, fl h.2.1, ih h.2.2⟩
      cases s with
      | no => exact absurd rfl n
      | fl x => exact fl hv
      | ob C fs =>
        obtain ⟨a, dx, fvs, x, y, z⟩ := hv
        exact ⟨a, dx, fvs, x, ff _ _ y, fsl z⟩
  · rw [upd_ne (ne_of_none z bp)]
    exact r.go.nw a o z
theorem st_freeze (j : Nat) {ds : List PyData} (hg : G[j]? = some (.ow ds)) (h : St K E t (G.set j (.im (.list ds))) D) : St K E t G D := fun B F0 F lab σ H r D' l => by
  obtain ⟨F', r', z⟩ := r.freeze hg
  exact h B F0 F' lab σ H r' D' (l.grow z)

/-! ### lists whose items are all new -/
theorem st_toNl (j : Nat) (hg : G[j]? = some (.ow [])) (h : St K E t (G.set j (.nl [])) D) : St K E t G D := fun B F0 F lab σ H r D' l => by
  obtain ⟨p, vs, e, fp, lp, hp, al⟩ := r.rs.own hg
  refine h B F0 F lab σ H ⟨⟨r.rs.fh, by rw [List.length_set]; exact r.rs.len, fun i s q n => ?_⟩, r.go, r.lb, r.lv⟩ D' l
  by_cases hi : j = i
  · subst hi
    have hj : j < G.length := (List.getElem?_eq_some_iff.mp hg).1
    rw [List.getElem?_set_self hj] at q
    cases q
    refine ⟨_, e, p, vs, fun _ => none, rfl, fp, lp, hp, rfl, (fun _ _ z => nomatch z), ?_⟩
    cases vs with
    | nil => exact .nil
    | cons v vs => cases al
  · rw [List.getElem?_set_ne hi] at q
    exact r.rs.sl i s q n
/-- x.append(y), y a list of one's own of whole numbers, handed over -/
theorem st_appNl {j k : Nat} {ds : List PyData} {ns : List Int} (hjk : j ≠ k) (hg : G[j]? = some (.nl ds)) (hk : G[k]? = some (.ow (ns.map .int))) (hl : ds.length < 100000) (q : D.nx ((G.set k .no).set j (.nl (ds ++ [.list (ns.map .int)])))) :
    St K E (tDrop (tBM K "list" rAppend (tVar j) (tCons (tVar k) tNil))) G D := fun B F0 F lab σ H r D' l => by
  obtain ⟨v, e, p, vs, N, rfl, fp, lp, hp, np, hN, al⟩ := r.rs.sl j _ hg (fun z => nomatch z)
  obtain ⟨y, ws, e2, fy, ly, hy, bl⟩ := r.rs.own hk
  have hyp : y ≠ p := fun z => by
    rw [z, lp] at ly
    exact hjk (congrArg Prod.fst (Option.some.inj ly))
  refine ⟨_, e, .inl ⟨rfl, _, SqL.of hp⟩, _, e2, p, vs, _, rfl, rfl, hp, by rw [dpNAll_len al, sizeLine_eq]; omega, ?_⟩
  have bp := r.lb p _ lp
  refine l.nx F (fun a => if a = y then some (j, "") else lab a) σ _ _ ⟨⟨same_upd r.rs.fh fp, by rw [List.length_set, List.length_set]; exact r.rs.len, fun i s z n => ?_⟩, ⟨r.go.ff, same_upd r.go.hh bp, same_upd r.go.fh fp, r.go.nw⟩, fun a o z => ?_, fun a o z => ?_⟩ (.refl F) q
  · by_cases hi : j = i
    · subst hi
      have hj : j < G.length := (List.getElem?_eq_some_iff.mp hg).1
      rw [List.getElem?_set_self (by rw [List.length_set]; exact hj)] at z
      cases z
      refine ⟨_, e, p, vs ++ [.ref y], upd N y (.lst ws), rfl, fp, (if_neg hyp.symm).trans lp, upd_same, by rw [upd_ne hyp.symm]; exact np, fun a u za => ?_, ?_⟩
      · by_cases ha : a = y
        · rw [ha, upd_same] at za
          cases za
          rw [ha]
          exact ⟨by rw [upd_ne hyp]; exact hy, fy, if_pos rfl⟩
        · rw [upd_ne ha] at za
          have h3 := hN a u za
          have hap : a ≠ p := fun w => by rw [w, np] at za; cases za
          exact ⟨by rw [upd_ne hap]; exact h3.1, h3.2.1, (if_neg ha).trans h3.2.2⟩
      · have nN : N y = none := by
          cases w : N y with
          | none => rfl
          | some u =>
            have h3 := (hN y u w).2.2
            rw [ly] at h3
            exact absurd (congrArg Prod.fst (Option.some.inj h3)).symm hjk
        refine dpNAll_append (dpNAll_mono (same_new nN) al) (.cons (.lst upd_same ?_) .nil)
        rw [dpAll_ints bl]
        exact dpNAll_ints ns
    · rw [List.getElem?_set_ne hi] at z
      by_cases hik : k = i
      · subst hik
        have hkl : k < G.length := (List.getElem?_eq_some_iff.mp hk).1
        rw [List.getElem?_set_self hkl] at z
        cases z
        exact absurd rfl n
      · rw [List.getElem?_set_ne hik] at z
        obtain ⟨v, ev, hv⟩ := r.rs.sl i s z n
        refine ⟨v, ev, ?_⟩
        have hv2 := hv.other (u := .lst (vs ++ [.ref y])) lp (fun z => hi z.symm)
        refine hv2.relab fun a f z => ?_
        by_cases ha : a = y
        · rw [ha, ly] at z
          exact absurd (congrArg Prod.fst (Option.some.inj z)) hik
        · exact (if_neg ha).trans z
  · by_cases ha : a = y
    · rw [ha]; exact r.lb y _ ly
    · have z' : (if a = y then some (j, ("" : Str)) else lab a) = some o := z
      rw [if_neg ha] at z'
      exact r.lb a o z'
  · by_cases ha : a = p
    · exact ⟨_, by rw [ha]; exact upd_same⟩
    · by_cases hay : a = y
      · exact ⟨_, by rw [upd_ne ha, hay]; exact hy⟩
      · have z' : (if a = y then some (j, ("" : Str)) else lab a) = some o := z
        rw [if_neg hay] at z'
        obtain ⟨u, hu⟩ := r.lv a o z'
        exact ⟨u, by rw [upd_ne ha]; exact hu⟩
theorem st_retNl {i : Nat} {ds : List PyData} (h : G[i]? = some (.nl ds)) (q : D.rt (.nw (.list ds))) : St K E (tRet (tVar i)) G D := fun B F0 F lab σ H r D' l => by
  obtain ⟨v, e, p, vs, N, rfl, fp, lp, hp, np, hN, al⟩ := r.rs.sl i _ h (fun z => nomatch z)
  refine ⟨_, e, l.rt _ F H (.nw (.list ds)) r.go ⟨fun a => match lab a with | some o => if o = (i, ("" : Str)) then some (0, ("" : Str)) else none | none => none, ⟨upd N p (.lst vs), fun a u z => ?_, .lst upd_same (dpNAll_mono (same_new np) al)⟩, fun a o z => ?_⟩ q⟩
  · by_cases ha : a = p
    · rw [ha, upd_same] at z
      cases z
      rw [ha]
      exact ⟨hp, fp, by simp [lp]⟩
    · rw [upd_ne ha] at z
      have h3 := hN a u z
      exact ⟨h3.1, h3.2.1, by simp [h3.2.2]⟩
  · cases e' : lab a with
    | none => exact absurd z (by simp [e'])
    | some k => exact r.lb a k e'
/-- all new, quiet from here on -/
theorem st_freezeNl (j : Nat) {ds : List PyData} (hg : G[j]? = some (.nl ds)) (h : St K E t (G.set j (.im (.list ds))) D) : St K E t G D := fun B F0 F lab σ H r D' l => by
  obtain ⟨v, e, p, vs, N, rfl, fp, lp, hp, np, hN, al⟩ := r.rs.sl j _ hg (fun z => nomatch z)
  have hN' : ∀ a u, upd N p (.lst vs) a = some u → H a = some u ∧ F a = none ∧ lab a = some (j, ("" : Str)) := fun a u z => by
    by_cases ha : a = p
    · rw [ha, upd_same] at z
      cases z
      rw [ha]
      exact ⟨hp, fp, lp⟩
    · rw [upd_ne ha] at z
      exact hN a u z
  have ff : Same F (cup F (upd N p (.lst vs))) := cup_left
  have nr : Same (upd N p (.lst vs)) (cup F (upd N p (.lst vs))) := cup_right fun a u z => (hN' a u z).2.1
  have fh : Same (cup F (upd N p (.lst vs))) H := cup_in r.rs.fh fun a u z => (hN' a u z).1
  have out : ∀ a, F a = none → (∀ o, lab a = some o → o ≠ (j, ("" : Str))) → cup F (upd N p (.lst vs)) a = none := fun a fa la => by
    unfold cup
    rw [fa]
    show upd N p (.lst vs) a = none
    cases w : upd N p (.lst vs) a with
    | none => rfl
    | some u => exact absurd rfl (la _ (hN' a u w).2.2)
  refine h B F0 (cup F (upd N p (.lst vs))) lab σ H ⟨⟨fh, by rw [List.length_set]; exact r.rs.len, fun i s q n => ?_⟩, ⟨r.go.ff.trans ff, r.go.hh, fh, fun a o z => ?_⟩, r.lb, r.lv⟩ D' (l.grow ff)
  · by_cases hi : j = i
    · subst hi
      have hj : j < G.length := (List.getElem?_eq_some_iff.mp hg).1
      rw [List.getElem?_set_self hj] at q
      cases q
      exact ⟨_, e, dp_mono nr (dpN_dp (.lst upd_same (dpNAll_mono (same_new np) al)))⟩
    · rw [List.getElem?_set_ne hi] at q
      obtain ⟨v, ev, hv⟩ := r.rs.sl i s q n
      refine ⟨v, ev, ?_⟩
      have far : ∀ {b : Addr} {f : Str}, lab b = some (i, f) → ∀ o, lab b = some o → o ≠ (j, ("" : Str)) := fun {b f} c o w z => by
        rw [c] at w
        rw [z] at w
        exact hi (congrArg Prod.fst (Option.some.inj w)).symm
      have fl : ∀ {f : Str} {w : V} {x : Fl}, FlV K F H lab (i, f) w x → FlV K (cup F (upd N p (.lst vs))) H lab (i, f) w x := fun {f w x} h => by
        cases x with
        | im d => exact dp_mono ff h
        | ow ds =>
          obtain ⟨q, vs, a, b, c, d, al⟩ := h
          exact ⟨q, vs, a, out q b (far c), c, d, dpAll_mono ff al⟩
        | nw d =>
          obtain ⟨M, h, a⟩ := h
          exact ⟨M, fun b u q => ⟨(h b u q).1, out b (h b u q).2.1 (far (h b u q).2.2), (h b u q).2.2⟩, a⟩
        | nl ds =>
          obtain ⟨q, vs, M, x, n, l, hq, mq, h, a⟩ := h
          exact ⟨q, vs, M, x, out q n (far l), l, hq, mq, fun b u q => ⟨(h b u q).1, out b (h b u q).2.1 (far (h b u q).2.2), (h b u q).2.2⟩, a⟩
        | ju =>
          obtain ⟨q, vs, a, b, c, d⟩ := h
          exact ⟨q, vs, a, out q b (far c), c, d⟩
        | pr ds d =>
          obtain ⟨q, vs, ⟨t, w, e, ht, hw⟩, b, c, d, al⟩ := h
          exact ⟨q, vs, ⟨t, w, e, ff _ _ ht, dp_mono ff hw⟩, out q b (far c), c, d, dpAll_mono ff al⟩
        | ls tup nn its =>
          obtain ⟨t, ws, x, ht, hit⟩ := h
          exact ⟨t, ws, x, ff _ _ ht, hit.imp ff fun q u a b c => ⟨out q a (far b), b, c⟩⟩
        | qo os =>
          obtain ⟨t, ws, x, ht, hit⟩ := h
          exact ⟨t, ws, x, ff _ _ ht, hit.mono ff⟩
        | pin w d => exact ⟨h.1, dp_mono ff h.2⟩
        | val w => exact h
      have fsl : ∀ {ps : List (Str × V)} {qs : List (Str × Fl)}, FsV K F H lab i ps qs → FsV K (cup F (upd N p (.lst vs))) H lab i ps qs := by
        intro ps qs
        induction ps generalizing qs with
        | nil => cases qs <;> exact fun h => h
        | cons p ps ih =>
          cases qs with
          | nil => exact fun h => h
          | cons q qs => exact fun h => ⟨h.1, fl h.2.1, ih h.2.2⟩
      cases s with
      | no => exact absurd rfl n
      | fl x => exact fl hv
      | ob C fs =>
        obtain ⟨a, dx, fvs, x, y, z⟩ := hv
        exact ⟨a, dx, fvs, x, ff _ _ y, fsl z⟩
  · rw [← r.go.nw a o z]
    unfold cup
    cases w : F a with
    | some u => rfl
    | none =>
      cases w2 : upd N p (.lst vs) a with
      | none => rfl
      | some u =>
        have := r.lb a _ (hN' a u w2).2.2
        rw [z] at this
        cases this
/-- x[k].append(e), x all new -/
theorem Rs.nwItem {F H : Hp} {lab : Lab} {σ : L2.St} {j : Nat} {ds es : List PyData} {k : Int} (r : Rs K F lab σ H G) (hg : G[j]? = some (.nw (.list ds))) (hk : atI ds k = some (.list es)) :
    ∃ p vs y ws, σ[j]? = some (some (.ref p)) ∧ F p = none ∧ lab p = some (j, ("" : Str)) ∧ H p = some (.lst vs) ∧ atI vs k = some (.ref y) ∧ F y = none ∧ lab y = some (j, ("" : Str)) ∧ H y = some (.lst ws) ∧ ws.length = es.length := by
  obtain ⟨v, e, N, hN, a⟩ := r.sl j _ hg (fun z => nomatch z)
  cases a with
  | sc h => cases h
  | @lst p vs _ hp al =>
    obtain ⟨w, hw, dw⟩ := atI_dp (K := K) (dpNAll_dp al) hk
    have : ∀ {vs : List V} {ds : List PyData} {i : Nat} {d : PyData}, DpNAll N vs ds → ds[i]? = some d → ∃ v, vs[i]? = some v ∧ DpN N v d := by
      intro vs ds
      induction vs generalizing ds with
      | nil => intro i d h z; cases h; simp at z
      | cons v vs ih =>
        intro i d h z
        cases h with
        | cons h t =>
          cases i with
          | zero => simp at z; subst z; exact ⟨v, rfl, h⟩
          | succ i => simpa using ih t (by simpa using z)
    unfold atI at hk hw
    rw [dpNAll_len al] at hw
    cases e3 : ixN ds.length k with
    | none => rw [e3] at hk; cases hk
    | some i =>
      rw [e3] at hk hw
      obtain ⟨w2, hw2, dw2⟩ := this al hk
      cases dw2 with
      | sc h => cases h
      | @lst y ws _ hy bl =>
        refine ⟨p, vs, y, ws, e, (hN p _ hp).2.1, (hN p _ hp).2.2, (hN p _ hp).1, ?_, (hN y _ hy).2.1, (hN y _ hy).2.2, (hN y _ hy).1, dpNAll_len bl⟩
        unfold atI
        rw [dpNAll_len al, e3]
        exact hw2
theorem st_appItem {j : Nat} {ds es : List PyData} {k : Int} {d : PyData} (hg : G[j]? = some (.nw (.list ds))) (hk : atI ds k = some (.list es)) (hi : Ev K tb G (.int k)) (h : Ev K te G d) (hl : es.length < 100000) (q : D.nx (G.set j .ju)) :
    St K E (tDrop (tBM K "list" rAppend (tOp (rIx K) (tVar j) tb) (tCons te tNil))) G D := fun B F0 F lab σ H r D' l => by
  obtain ⟨p, vs, y, ws, e, fp, lp, hp, ha, fy, ly, hy, hlen⟩ := r.rs.nwItem hg hk
  refine ⟨_, e, hi F lab σ H r.rs _ fun w F1 H1 g1 n1 => .inl ⟨p, vs, k, _, rfl, dp_int n1.dp, SqL.of (g1.hh _ _ hp), ha, .inl ⟨rfl, _, SqL.of (g1.hh _ _ hy)⟩, h F1 lab σ H1 (r.rs.go g1) _ fun v F2 H2 g2 n2 => ?_⟩⟩
  have g := g1.trans g2
  have r2 := r.step g
  have hp2 := g.hh _ _ hp
  have hy2 := g.hh _ _ hy
  have fp2 := (g.nw p _ hp).trans fp
  have fy2 := (g.nw y _ hy).trans fy
  have byy := r2.lb y _ ly
  refine ⟨y, ws, v, rfl, rfl, hy2, by rw [hlen, sizeLine_eq]; omega, l.nx F2 lab σ _ _ ⟨⟨same_upd r2.rs.fh fy2, by rw [List.length_set]; exact r2.rs.len, fun i s z n => ?_⟩, ⟨r2.go.ff, same_upd r2.go.hh byy, same_upd r2.go.fh fy2, r2.go.nw⟩, r2.lb, fun a o z => ?_⟩ g.ff q⟩
  · by_cases hi : j = i
    · subst hi
      have hj : j < G.length := (List.getElem?_eq_some_iff.mp hg).1
      rw [List.getElem?_set_self hj] at z
      cases z
      by_cases hpy : p = y
      · exact ⟨_, e, p, _, rfl, fp2, lp, by rw [hpy]; exact upd_same⟩
      · exact ⟨_, e, p, vs, rfl, fp2, lp, by rw [upd_ne hpy]; exact hp2⟩
    · rw [List.getElem?_set_ne hi] at z
      obtain ⟨w, ew, hw⟩ := r2.rs.sl i s z n
      exact ⟨w, ew, hw.other ly (fun z => hi z.symm)⟩
  · by_cases hq : a = y
    · exact ⟨_, by rw [hq]; exact upd_same⟩
    · obtain ⟨u, hu⟩ := r2.lv a o z
      exact ⟨u, by rw [upd_ne hq]; exact hu⟩
/-- x.clear(), whatever is in it -/
theorem st_clearJ {j : Nat} (hg : G[j]? = some .ju) (q : D.nx (G.set j (.ow []))) : St K E (tDrop (tBM0 K "list" rClear (tVar j))) G D := fun B F0 F lab σ H r D' l => by
  obtain ⟨v, e, p, vs, rfl, fp, lp, hp⟩ := r.rs.sl j _ hg (fun z => nomatch z)
  refine ⟨_, e, .inl ⟨rfl, _, SqL.of hp⟩, p, vs, rfl, rfl, hp, ?_⟩
  have bp := r.lb p _ lp
  refine l.nx F lab σ _ _ ⟨⟨same_upd r.rs.fh fp, by rw [List.length_set]; exact r.rs.len, fun i s z n => ?_⟩, ⟨r.go.ff, same_upd r.go.hh bp, same_upd r.go.fh fp, r.go.nw⟩, r.lb, fun a o z => ?_⟩ (.refl F) q
  · by_cases hi : j = i
    · subst hi
      have hj : j < G.length := (List.getElem?_eq_some_iff.mp hg).1
      rw [List.getElem?_set_self hj] at z
      cases z
      exact ⟨_, e, p, [], rfl, fp, lp, upd_same, .nil⟩
    · rw [List.getElem?_set_ne hi] at z
      obtain ⟨w, ew, hw⟩ := r.rs.sl i s z n
      exact ⟨w, ew, hw.other lp (fun z => hi z.symm)⟩
  · by_cases hq : a = p
    · exact ⟨_, by rw [hq]; exact upd_same⟩
    · obtain ⟨u, hu⟩ := r.lv a o z
      exact ⟨u, by rw [upd_ne hq]; exact hu⟩

/-! ### less is known -/
/-- what G knows, G' knows -/
def Le (G G' : Env) : Prop := G.length = G'.length ∧ ∀ (i : Nat) (s : Sl), G[i]? = some s → s ≠ .no → G'[i]? = some s
theorem Le.refl (G : Env) : Le G G := ⟨rfl, fun _ _ e _ => e⟩
theorem Le.trans {G G1 G2 : Env} (a : Le G G1) (b : Le G1 G2) : Le G G2 := ⟨a.1.trans b.1, fun i s e n => b.2 i s (a.2 i s e n) n⟩
theorem Le.no {G G' : Env} (a : Le G G') (j : Nat) : Le (G.set j Sl.no) G' := ⟨by rw [List.length_set]; exact a.1, fun i s e n => by
  by_cases hi : j = i
  · subst hi
    by_cases hj : j < G.length
    · rw [List.getElem?_set_self hj] at e
      cases e
      exact absurd rfl n
    · rw [List.getElem?_eq_none (by simpa using hj)] at e
      cases e
  · rw [List.getElem?_set_ne hi] at e
    exact a.2 i s e n⟩
theorem Le.set {G G' : Env} (a : Le G G') (j : Nat) (x : Sl) : Le (G.set j x) (G'.set j x) := ⟨by rw [List.length_set, List.length_set]; exact a.1, fun i s e n => by
  by_cases hi : j = i
  · subst hi
    by_cases hj : j < G.length
    · rw [List.getElem?_set_self hj] at e
      rw [List.getElem?_set_self (by rw [← a.1]; exact hj)]
      exact e
    · rw [List.getElem?_eq_none (by simpa using hj)] at e
      cases e
  · rw [List.getElem?_set_ne hi] at e ⊢
    exact a.2 i s e n⟩
theorem Le.setR {G G' : Env} (a : Le G G') (j : Nat) (x : Sl) (h : G[j]? = some Sl.no ∨ G[j]? = none) : Le G (G'.set j x) := ⟨by rw [List.length_set]; exact a.1, fun i s e n => by
  by_cases hi : j = i
  · subst hi
    rcases h with h | h
    · rw [h] at e; cases e; exact absurd rfl n
    · rw [h] at e; cases e
  · rw [List.getElem?_set_ne hi]
    exact a.2 i s e n⟩
theorem le_nil : Le [] [] := .refl []
theorem le_same {G G' : Env} {s : Sl} (h : Le G G') : Le (s :: G) (s :: G') := ⟨congrArg Nat.succ h.1, fun i t e n => by
  cases i with
  | zero => exact e
  | succ i => exact h.2 i t e n⟩
theorem le_skip {G G' : Env} {s : Sl} (h : Le G G') : Le (.no :: G) (s :: G') := ⟨congrArg Nat.succ h.1, fun i t e n => by
  cases i with
  | zero => cases e; exact absurd rfl n
  | succ i => exact h.2 i t e n⟩
theorem Rs.le {G' : Env} {F H : Hp} {lab : Lab} {σ : L2.St} (r : Rs K F lab σ H G') (a : Le G G') : Rs K F lab σ H G := ⟨r.fh, a.1.trans r.len, fun i s e n => r.sl i s (a.2 i s e n) n⟩
theorem st_le {G' : Env} (a : Le G G') (h : St K E t G D) : St K E t G' D := fun B F0 F lab σ H r D' l => h B F0 F lab σ H ⟨r.rs.le a, r.go, r.lb, r.lv⟩ D' l
theorem Ev.le {G' : Env} {s : Sl} (a : Le G G') (h : EvS K te G s) : EvS K te G' s := fun F lab σ H r => h F lab σ H (r.le a)
/-- more is wished -/
theorem St.imp {D2 : GE} (h : St K E t G D) (nx : ∀ G', D.nx G' → D2.nx G') (rt : ∀ s, D.rt s → D2.rt s) (bk : ∀ G', D.bk G' → D2.bk G') (ct : ∀ G', D.ct G' → D2.ct G') (ex : ∀ c, D.ex c → D2.ex c) : St K E t G D2 := fun B F0 F lab σ H r D' l =>
  h B F0 F lab σ H r D' ⟨fun F lab σ H G' r' y z => l.nx F lab σ H G' r' y (nx _ z), fun v F H s g n z => l.rt v F H s g n (rt _ z), fun F lab σ H G' r' y z => l.bk F lab σ H G' r' y (bk _ z), fun F lab σ H G' r' y z => l.ct F lab σ H G' r' y (ct _ z), fun c F H g z => l.ex c F H g (ex c z)⟩

/-! ### all that stands is read in passing -/
def allSome : List (Option (List PyData)) → Option (List (List PyData))
  | [] => some []
  | none :: _ => none
  | some ds :: r => (allSome r).map (ds :: ·)
theorem ItV.dps {n : Nat} {F H : Hp} {lab : Lab} {o : Nat × Str} (fh : Same F H) : ∀ {ws : List V} {its : List (Option (List PyData))} {dss : List (List PyData)}, ItV K n F H lab o ws its → allSome its = some dss → DpAll K H ws (dss.map .list)
  | [], [], _, _, z => by
    cases z
    exact .nil
  | _ :: _, none :: _, _, _, z => nomatch z
  | _ :: _, some ds :: its, _, ⟨⟨p, vs, e, a, b, c, l, d⟩, t⟩, z => by
    subst e
    unfold allSome at z
    cases h : allSome its with
    | none => rw [h] at z; cases z
    | some r =>
      rw [h] at z
      cases z
      exact .cons (.lst (.inl (.inl c)) (dpAll_mono fh (d ds rfl))) (ItV.dps fh t h)
def quietE : Sl → Sl
  | .no => .no
  | .fl (.im d) => .im d
  | .fl (.ow ds) => .im (.list ds)
  | .fl (.nw d) => .im d
  | .fl (.nl ds) => .im (.list ds)
  | .fl .ju => .no
  | .fl (.pr _ _) => .no
  | .fl (.ls tup _ its) => match allSome its with
    | some dss => .im (if tup = true then .tuple (dss.map .list) else .list (dss.map .list))
    | none => .no
  | .fl (.qo os) => .qo os
  | .fl (.pin _ d) => .im d
  | .fl (.val w) => .val w
  | .ob C fs => if noJu fs = true then .ob C (quiet fs) else .no
theorem Rs.quiet {F H : Hp} {lab : Lab} {σ : L2.St} (r : Rs K F lab σ H G) : Rs K H noLab σ H (G.map quietE) :=
  ⟨.refl H, by rw [List.length_map]; exact r.len, fun i s e n => by
    rw [List.getElem?_map] at e
    cases e2 : G[i]? with
    | none => rw [e2] at e; cases e
    | some s0 =>
      rw [e2] at e
      cases e
      have n0 : s0 ≠ .no := fun z => n (by rw [z]; rfl)
      obtain ⟨v, ev, hv⟩ := r.sl i s0 e2 n0
      refine ⟨v, ev, ?_⟩
      cases s0 with
      | no => exact absurd rfl n0
      | fl x =>
        cases x with
        | im d => exact dp_mono r.fh hv
        | ow ds =>
          obtain ⟨p, vs, rfl, _, _, hp, a⟩ := hv
          exact Dp.lst (.inl (.inl hp)) (dpAll_mono r.fh a)
        | nw d =>
          obtain ⟨N, hN, a⟩ := hv
          exact dp_mono (fun b u q => (hN b u q).1) (dpN_dp a)
        | nl ds =>
          obtain ⟨p, vs, N, rfl, _, _, hp, _, hN, a⟩ := hv
          exact Dp.lst (.inl (.inl hp)) (dpAll_mono (fun b u q => (hN b u q).1) (dpNAll_dp a))
        | ju => exact absurd rfl n
        | pr _ _ => exact absurd rfl n
        | ls tup nn its =>
          obtain ⟨t, ws, x, ht, hit⟩ := hv
          subst x
          show SlV K H H noLab i _ (match allSome its with | some dss => .im (if tup = true then .tuple (dss.map .list) else .list (dss.map .list)) | none => .no)
          cases h : allSome its with
          | none => exact trivial
          | some dss =>
            have a := hit.dps r.fh h
            have b := r.fh _ _ ht
            cases tup with
            | true => exact Dp.tup (.inl (.inl b)) a
            | false => exact Dp.lst (.inl (.inl b)) a
        | qo os =>
          obtain ⟨t, ws, x, ht, hit⟩ := hv
          exact ⟨t, ws, x, r.fh _ _ ht, hit.mono r.fh⟩
        | pin w d => exact dp_mono r.fh hv.2
        | val w => exact hv
      | ob C fs =>
        by_cases hj : noJu fs = true
        · show SlV K H H noLab i v (if noJu fs = true then .ob C (UU.quiet fs) else .no)
          rw [if_pos hj]
          obtain ⟨a, dx, fvs, e, ha, hf⟩ := hv
          exact ⟨a, dx, fvs, e, r.fh _ _ ha, hf.quiet r.fh hj⟩
        · exact absurd (if_neg hj) n⟩
theorem ev_borrow {d : PyData} (h : Ev K te (G.map quietE) d) (hd : ∀ F F' v, Dp K F v d → Dp K F' v d) : Ev K te G d := fun F lab σ H r Q q =>
  h H noLab σ H r.quiet Q fun v F' H' g n => q v F H' (.heap r.fh g.hh) (.im (hd _ _ _ n.dp))
theorem eb_borrow {c : TT} {b : Bool} (h : EvB K c (G.map quietE) b) : EvB K c G b := fun F lab σ H r Q q => h H noLab σ H r.quiet Q fun F' H' g => q F H' (.heap r.fh g.hh)
theorem ev_borrowO {ds : List PyData} (h : EvS K te (G.map quietE) (.ow ds)) (hd : ∀ F F' vs, DpAll K F vs ds → DpAll K F' vs ds) : EvS K te G (.ow ds) := fun F lab σ H r Q q =>
  h H noLab σ H r.quiet Q fun v F' H' g n => by
    obtain ⟨l, ⟨p, ws, rfl, fp, lp, hp, al⟩, nw⟩ := n
    have p1 := nw p _ lp
    exact q _ F H' (.heap r.fh g.hh) ⟨l, ⟨p, ws, rfl, r.fh.free p1, lp, hp, hd _ _ _ al⟩, nw⟩
/-- what comes back is all new -/
theorem ev_borrowN {d : PyData} (h : EvS K te (G.map quietE) (.nw d)) : EvS K te G (.nw d) := fun F lab σ H r Q q =>
  h H noLab σ H r.quiet Q fun v F' H' g n => by
    obtain ⟨l, ⟨N, hN, a⟩, nw⟩ := n
    exact q _ F H' (.heap r.fh g.hh) ⟨l, ⟨N, fun b u e => ⟨(hN b u e).1, r.fh.free (nw b _ (hN b u e).2.2), (hN b u e).2.2⟩, a⟩, nw⟩

/-! ### loops -/
theorem st_for {α : Type} {xs : List α} {enc : α → PyData} {wi : TI} {g : TG} {vs : List Nat} {tb : TS} (hi : EvI K wi G (xs.map enc)) (I : Nat → Env → Prop) (h0 : I 0 G)
    (hs : ∀ i x G', xs[i]? = some x → I i G' → ∃ G2, TgS K g vs (enc x) G' G2 ∧ St K E tb G2 { D with nx := I (i + 1), ct := I (i + 1), bk := D.nx }) (hd : ∀ G', I xs.length G' → D.nx G') : St K E (tFor wi g tb) G D := fun B F0 F lab σ H r D' l =>
  hi F lab σ H r.rs _ fun J F1 H1 g1 wk => by
    refine ⟨fun i m σ' H' => m = xs.length - i ∧ i ≤ xs.length ∧ ∃ F2 lab2 G2, Rl K B F0 F2 lab2 σ' H' G2 ∧ Same F1 F2 ∧ I i G2, ⟨_, rfl, Nat.zero_le _, F1, lab, G, r.step g1, .refl _, h0⟩, ?_⟩
    rintro i m σ' H' ⟨rfl, hle, F2, lab2, G2, r2, s2, hI⟩
    by_cases hlt : i < xs.length
    · have hx : xs[i]? = some xs[i] := List.getElem?_eq_getElem hlt
      generalize xs[i] = x at hx
      have hd' : (xs.map enc)[i]? = some (enc x) := by rw [List.getElem?_map, hx]; rfl
      obtain ⟨go, yl⟩ := wk.1 i _ F2 H' hd' s2 r2.rs.fh
      refine .inr ⟨go, fun σ'' H'' => ∃ F3 lab3 G3, Rl K B F0 F3 lab3 σ'' H'' G3 ∧ Same F1 F3 ∧ I (i + 1) G3, fun σ'' H'' ⟨F3, lab3, G3, a, b, c⟩ => ⟨xs.length - (i + 1), by omega, rfl, hlt, F3, lab3, G3, a, b, c⟩, fun y H3 yy => ?_⟩
      obtain ⟨F3, g3, dy⟩ := yl y H3 yy
      obtain ⟨G3, tgs, body⟩ := hs i x G2 hx hI
      have r3 := r2.step g3
      refine tgs F3 lab2 σ' H3 y r3.rs dy _ fun σ3 r4 _ => ?_
      have r4' : Rl K B F0 F3 lab2 σ3 H3 G3 := ⟨r4, r3.go, r3.lb, r3.lv⟩
      have s3 : Same F1 F3 := s2.trans g3.ff
      refine body B F0 F3 lab2 σ3 H3 r4' _ ⟨fun F4 lab4 σ4 H4 G4 r5 y z => ⟨F4, lab4, G4, r5, s3.trans y, z⟩, l.rt, fun F4 lab4 σ4 H4 G4 r5 y z => l.nx _ _ _ _ _ r5 ((g1.ff.trans s3).trans y) z, fun F4 lab4 σ4 H4 G4 r5 y z => ⟨F4, lab4, G4, r5, s3.trans y, z⟩, l.ex⟩
    · have e : i = xs.length := by omega
      subst e
      have st := wk.2 F2 H' s2 r2.rs.fh
      rw [List.length_map] at st
      exact .inl ⟨st, l.nx F2 lab2 σ' H' G2 r2 (g1.ff.trans s2) (hd G2 hI)⟩
/-- by what is known at each turn: Gf i; what else the turn left is forgotten -/
theorem st_forG {α : Type} {xs : List α} {enc : α → PyData} {wi : TI} {g : TG} {vs : List Nat} {tb : TS} (hi : EvI K wi G (xs.map enc)) (Gf : Nat → Env) (h0 : Le (Gf 0) G)
    (hs : ∀ i x, xs[i]? = some x → ∃ G2, TgS K g vs (enc x) (Gf i) G2 ∧ St K E tb G2 { D with nx := fun G' => Le (Gf (i + 1)) G', ct := fun G' => Le (Gf (i + 1)) G', bk := D.nx }) (hd : ∀ G', Le (Gf xs.length) G' → D.nx G') : St K E (tFor wi g tb) G D :=
  st_for (vs := vs) hi (fun i G' => Le (Gf i) G') h0 (fun i x G' hx hle => by
    obtain ⟨G2, tg, b⟩ := hs i x hx
    exact ⟨G2, fun F lab σ H v r dv Q q => tg F lab σ H v (r.le hle) dv Q q, b⟩) hd
/-- while -/
theorem st_while {c : TT} {tb : TS} (I : Nat → Env → Prop) (m0 : Nat) (h0 : I m0 G)
    (hs : ∀ m G', I m G' → ∃ b, EvB K c G' b ∧ (b = true → St K E tb G' { D with nx := fun G2 => ∃ m', m' < m ∧ I m' G2, ct := fun G2 => ∃ m', m' < m ∧ I m' G2, bk := D.nx }) ∧ (b = false → D.nx G')) : St K E (tWhile c tb) G D := fun B F0 F lab σ H r D' l => by
  refine ⟨fun m σ' H' => ∃ F2 lab2 G2, Rl K B F0 F2 lab2 σ' H' G2 ∧ Same F F2 ∧ I m G2, ⟨m0, F, lab, G, r, .refl F, h0⟩, ?_⟩
  rintro m σ' H' ⟨F2, lab2, G2, r2, s2, hI⟩
  obtain ⟨b, hb, h1, h2⟩ := hs m G2 hI
  refine hb F2 lab2 σ' H' r2.rs _ fun F3 H3 g3 => ?_
  have r3 := r2.step g3
  cases b with
  | true =>
    refine ⟨fun σ4 H4 => ∃ m', m' < m ∧ ∃ F4 lab4 G4, Rl K B F0 F4 lab4 σ4 H4 G4 ∧ Same F F4 ∧ I m' G4, fun σ4 H4 z => z, ?_⟩
    refine h1 rfl B F0 F3 lab2 σ' H3 r3 _ ⟨fun F4 lab4 σ4 H4 G4 r5 y ⟨m', lt, z⟩ => ⟨m', lt, F4, lab4, G4, r5, (s2.trans g3.ff).trans y, z⟩, l.rt, fun F4 lab4 σ4 H4 G4 r5 y z => l.nx _ _ _ _ _ r5 ((s2.trans g3.ff).trans y) z, fun F4 lab4 σ4 H4 G4 r5 y ⟨m', lt, z⟩ => ⟨m', lt, F4, lab4, G4, r5, (s2.trans g3.ff).trans y, z⟩, l.ex⟩
  | false => exact l.nx _ _ _ _ _ r3 (s2.trans g3.ff) (h2 rfl)

/-! ### raise -/
theorem st_raise {W : WX} {c : Addr} (hW : ∀ cls d σ H, E cls d H → W cls d σ H) (q : D.ex c) : St K E (fun _ σ H => (fun _ H Q => Q (.ref c) none H : L2.St → Hp → XK → Prop) σ H fun cls d H' => W cls d σ H') G D := fun B F0 F lab σ H r D' l => hW _ _ _ _ (l.ex c F H r.go q)
/-- a call that raises -/
theorem st_callX {R : List Sl → Out → Prop} {ta : TA} {ss : List Sl} {c : Addr} (h : EvA K ta G ss) (hR : R ss (.exc c)) (q : D.ex c) : St K E (tDrop (tCall (spR K R) [] E ta)) G D := fun B F0 F lab σ H r D' l =>
  h F lab σ H r.rs _ fun vs F1 H1 g1 a => ⟨F1, ss, .exc c, g1.fh, by rw [List.append_nil]; exact a, hR, fun F2 H2 g2 => l.ex c F2 H2 ((r.go.trans g1).trans g2) q⟩

/-! ### a def keeps its promise -/
def params (N : List Str) (ss : List Sl) : Env := ss ++ List.replicate (N.length - ss.length) .no
theorem args_len {F : Hp} : ∀ {vs : List V} {ss : List Sl}, ArgsV K F vs ss → vs.length = ss.length
  | [], [], _ => rfl
  | _ :: _, _ :: _, h => by rw [List.length_cons, List.length_cons, args_len h.2]
theorem args_get {F : Hp} : ∀ {vs : List V} {ss : List Sl} {i : Nat} {s : Sl}, ArgsV K F vs ss → ss[i]? = some s → ∃ v, vs[i]? = some v ∧ ArgV K F v s
  | [], [], _, _, _, e => by simp at e
  | v :: vs, s :: ss, 0, _, h, e => by simp at e; subst e; exact ⟨v, rfl, h.1⟩
  | v :: vs, s :: ss, i + 1, s', h, e => by
    obtain ⟨w, h1, h2⟩ := args_get (i := i) (s := s') h.2 (by simpa using e)
    exact ⟨w, by simpa using h1, h2⟩
theorem rs_start {N : List Str} {F H : Hp} {vs : List V} {ss : List Sl} (fh : Same F H) (a : ArgsV K F vs ss) : Rs K F noLab (L2.start N vs) H (params N ss) :=
  ⟨fh, by unfold params L2.start; rw [List.length_append, List.length_append, List.length_replicate, List.length_replicate, List.length_map, args_len a], fun i s e n => by
    unfold params at e
    by_cases hi : i < ss.length
    · rw [List.getElem?_append_left hi] at e
      obtain ⟨v, ev, hv⟩ := args_get a e
      refine ⟨v, ?_, hv.same (.refl F)⟩
      unfold L2.start
      rw [List.getElem?_append_left (by rw [List.length_map, args_len a]; exact hi), List.getElem?_map, ev]
      rfl
    · rw [List.getElem?_append_right (by omega)] at e
      have := List.mem_of_getElem? e
      exact absurd (List.eq_of_mem_replicate this) n⟩
/-- what a def's reading must show -/
theorem st_run {N : List Str} {R : List Sl → Out → Prop} {vs : List V} {H : Hp} {Q : VK} {E : XK} {t : TS} (h : spR K R vs H Q E)
    (body : ∀ ss o, R ss o → St K E t (params N ss) { nx := fun _ => o = .ret (.im .none), rt := fun s => o = .ret s, ex := fun c => o = .exc c }) : t { nx := fun _ H' => Q .non H', rt := Q } (L2.start N vs) H := by
  obtain ⟨F, ss, o, fh, a, hR, fin⟩ := h
  refine body ss o hR H F F noLab _ H ⟨rs_start fh a, .refl fh, (fun _ _ e => nomatch e), (fun _ _ e => nomatch e)⟩ _ ⟨fun F2 lab σ2 H2 G2 r _ e => ?_, fun v F2 H2 s g n e => ?_, fun _ _ _ _ _ _ _ z => z.elim, fun _ _ _ _ _ _ _ z => z.elim, fun c F2 H2 g e => ?_⟩
  · subst e
    exact fin .non F2 H2 r.go (.im .non)
  · subst e
    exact fin v F2 H2 g n
  · subst e
    exact fin F2 H2 g
theorem spR_len {R : List Sl → Out → Prop} {vs : List V} {H : Hp} {Q : VK} {E : XK} {n : Nat} (h : spR K R vs H Q E) (hn : ∀ ss o, R ss o → ss.length = n) : vs.length = n := by
  obtain ⟨F, ss, o, fh, a, hR, fin⟩ := h
  rw [args_len a]
  exact hn ss o hR
end
open PySem L2

/-! ### calls of the text's own defs -/
structure Cal (P : Program) (w : World) (K : PySem.W.Frag) (mg : Str → Option Value) (base : Heap) (CX : CXT) (k : Nat) (x : Str) (ps : List Str) (sp : Sp) : Prop where
  ex : ∃ f fd, FnOk P w K mg base CX k f fd ps sp ∧ mg x = some (.ref f) ∧ PySem.W.keepIn K (.ref f) = true ∧ Binds K fd ps []
section
variable {X : Cx}
theorem hu65 {A : Around} {k : Nat} (hr : Room k A) : A.units + 65 < cLine := by have := hr.un; omega
theorem pe_cal {x : Str} {ps : List Str} {sp : Sp} {k j : Nat} {e : Expr} {es : List Expr} {t : TA} {p pos : Pos} (c : Cal X.prog X.w X.K X.mg X.base CX0 k x ps sp) (hr : Room j X.A) (hk : k ≤ j) (hg : Gl X x) (ha : PA X (e :: es) t)
    (hdb : (x == ("__debug__" : Str)) = false := by decide) (he : starEach (e :: es) X.env = (false, eval e X.env) :: starEach es X.env := by rfl) (hpl : (backTo pos (starEach es X.env)).any (·.1) = false := by rfl) :
    PE X (.Call (.Name x p) (e :: es) [] pos) (tCall sp [] E0 t) := by
  obtain ⟨f, fd, F, hm, hkp, hb⟩ := c.ex
  exact pe_call F (hr.mono hk) hg hm hkp hb .nil pass0 ha hdb he hpl
end
section
variable {X : Cx}
/-- a call that may raise: E is wished -/
theorem pe_calX {x : Str} {ps : List Str} {sp : Sp} {k j : Nat} {E : XK} {e : Expr} {es : List Expr} {t : TA} {p pos : Pos} (c : Cal X.prog X.w X.K X.mg X.base (L2.CX X.prog X.w) k x ps sp) (hr : Room j X.A) (hk : k ≤ j) (hg : Gl X x) (hx : Passes (L2.CX X.prog X.w) X E) (ha : PA X (e :: es) t)
    (hdb : (x == ("__debug__" : Str)) = false := by decide) (he : starEach (e :: es) X.env = (false, eval e X.env) :: starEach es X.env := by rfl) (hpl : (backTo pos (starEach es X.env)).any (·.1) = false := by rfl) :
    PE X (.Call (.Name x p) (e :: es) [] pos) (tCall sp [] E t) := by
  obtain ⟨f, fd, F, hm, hkp, hb⟩ := c.ex
  exact pe_call F (hr.mono hk) hg hm hkp hb .nil hx ha hdb he hpl
end
/-- a whole number of the module -/
theorem pe_constI {X : Cx} {x : Str} {n : Int} {pos : Pos} (hg : Gl X x) (h : ∃ t, X.mg x = some (.int n t)) (hd : (x == ("__debug__" : Str)) = false := by decide) : PE X (.Name x pos) (tC (.int n)) := by
  obtain ⟨t, e⟩ := h
  exact pe_glob hg e ⟨t, rfl⟩ hd
/-- raise X(..): the class at c -/
def tRaiseU (c : Addr) (E : XK) : TS := fun _ _ H => E (.ref c) none H
theorem st_raiseU {K : PySem.W.Frag} {E : XK} {G : Env} {D : GE} {c : Addr} (q : D.ex c) : St K E (tRaiseU c E) G D := fun B F0 F lab σ H r D' l => l.ex c F H r.go q
/-- what is known of an own class of errors -/
structure ErrC (K : PySem.W.Frag) (mg : Str → Option Value) (x : Str) (C : Addr) : Prop where
  g : mg x = some (.ref C)
  x : PySem.W.excIn K C [.type "ValueError", .type "Exception", .type "BaseException", .type "object"] "ValueError.__new__" = true
  k : PySem.W.keepIn K (.ref C) = true
  b : PySem.W.subIn K (.ref C) (.type "BaseException") = some true
  t : PySem.W.typeIn K (.ref C) = some (.type "type")
abbrev rLenU (K : PySem.W.Frag) : List V → Hp → VK → Prop := fun xs H Q => ∃ x n, xs = [x] ∧ LenV K x H n ∧ Q (.int n) H
abbrev rAbsU : List V → Hp → VK → Prop := fun xs H Q => ∃ i, xs = [.int i] ∧ Q (.int (if i < 0 then -i else i)) H
abbrev rMax2U : List V → Hp → VK → Prop := fun xs H Q => ∃ i j, xs = [.int i, .int j] ∧ Q (.int (if j > i then j else i)) H
abbrev rMin2U : List V → Hp → VK → Prop := fun xs H Q => ∃ i j, xs = [.int i, .int j] ∧ Q (.int (if j < i then j else i)) H
abbrev rListU (K : PySem.W.Frag) : List V → Hp → VK → Prop := fun xs H Q => ∃ p ys, xs = [.ref p] ∧ (SqL K H p ys ∨ SqT K H p ys) ∧ ∀ l, H l = none → Q (.ref l) (upd H l (.lst ys))
abbrev rIntU : List V → Hp → VK → Prop := fun xs H Q => (∃ i, xs = [.int i] ∧ Q (.int i) H) ∨ ∃ k, xs = [.bl k] ∧ Q (.int (if k then 1 else 0)) H
abbrev rStrU : List V → Hp → VK → Prop := fun xs H Q => ∃ i, xs = [.int i] ∧ i.natAbs.log2 < 1920 ∧ Q (.str (toString i)) H

section
variable {K : PySem.W.Frag} {G : Env} {ta tb te tc : TE}
theorem ea_im {t : TA} {d : PyData} {ss : List Sl} (h : Ev K te G d) (hr : EvA K t G ss) : EvA K (tCons te t) G (.im d :: ss) := ea_cons h hr
theorem eb_andN {t u : TT} {a b : Bool} (h1 : EvB K t G a) (h2 : EvB K u G b) : EvB K (tAnd t u) G (a && b) := eb_and h1 fun _ => h2
theorem eb_orN {t u : TT} {a b : Bool} (h1 : EvB K t G a) (h2 : EvB K u G b) : EvB K (tOr t u) G (a || b) := eb_or h1 fun _ => h2
theorem ev_andN {a b : Bool} (h1 : EvH K ta G (.bool a)) (h2 : EvH K tb G (.bool b)) : Ev K (tAndV ta tb) G (.bool (a && b)) := ev_andV h1 fun _ => h2
theorem ev_orN {a b : Bool} (h1 : EvH K ta G (.bool a)) (h2 : EvH K tb G (.bool b)) : Ev K (tOrV ta tb) G (.bool (a || b)) := ev_orV h1 fun _ => h2
/-- all of them quiet data -/
inductive Ims : List Sl → List PyData → Prop where
  | nil : Ims [] []
  | cons {d : PyData} {ss : List Sl} {ds : List PyData} (h : Ims ss ds) : Ims (.im d :: ss) (d :: ds)
theorem Ims.eq : ∀ {ss : List Sl} {ds : List PyData}, Ims ss ds → ss = ds.map Sl.im
  | _, _, .nil => rfl
  | _, _, .cons h => by rw [h.eq]; rfl
theorem ev_tupI {t : TA} {ss : List Sl} {ds : List PyData} (h : EvA K t G ss) (i : Ims ss ds) (hl : ds.length ≤ 100000) : Ev K (tTup t) G (.tuple ds) := ev_tup (i.eq ▸ h) hl
theorem ev_lstI {t : TA} {ss : List Sl} {ds : List PyData} (h : EvA K t G ss) (i : Ims ss ds) (hl : ds.length ≤ 100000) : EvS K (tLst t) G (.ow ds) := ev_lst (i.eq ▸ h) hl
/-- an item of a datum -/
inductive ItemOf : PyData → Int → PyData → Prop where
  | lst {ds : List PyData} {i : Int} {d : PyData} (h : atI ds i = some d) : ItemOf (.list ds) i d
  | tup {ds : List PyData} {i : Int} {d : PyData} (h : atI ds i = some d) : ItemOf (.tuple ds) i d
theorem ev_ix {a d : PyData} {i : Int} (ha : Ev K ta G a) (hb : EvH K tb G (.int i)) (h : ItemOf a i d) : Ev K (tOp (rIx K) ta tb) G d := by
  cases h with
  | lst h => exact ev_ixL ha hb h
  | tup h => exact ev_ixT ha hb h
theorem eh_ix {a d : PyData} {i : Int} (ha : EvH K ta G a) (hb : EvH K tb G (.int i)) (h : ItemOf a i d) : EvH K (tOp (rIx K) ta tb) G d := by
  cases h with
  | lst h => exact eh_ixL ha hb h
  | tup h => exact eh_ixT ha hb h
/-- the length of a datum -/
inductive LenOf : PyData → Nat → Prop where
  | lst {ds : List PyData} : LenOf (.list ds) ds.length
  | tup {ds : List PyData} : LenOf (.tuple ds) ds.length
  | str {x : Str} (h : x.length ≤ sizeLine) : LenOf (.str x) x.length
theorem ev_lenD {d : PyData} {n : Nat} (h : EvH K ta G d) (hn : LenOf d n) : Ev K (tCB (rLenU K) (tCons ta tNil)) G (.int n) := by
  cases hn with
  | lst => exact ev_lenL h
  | tup => exact ev_lenT h
  | str hx => exact ev_len h (.inr ⟨_, rfl, rfl, hx⟩)
/-- the items of a datum that is walked -/
theorem ItemOf.nat {ds : List PyData} {j : Nat} {d : PyData} (h : ds[j]? = some d) : ItemOf (.list ds) (j : Int) d := .lst (atI_nat h)
theorem atI_map {α : Type} {f : α → PyData} {xs : List α} {j : Nat} {x : α} (h : xs[j]? = some x) : atI (xs.map f) (j : Int) = some (f x) := atI_nat (by rw [List.getElem?_map, h]; rfl)
/-- a kept sign: a value is seen to be what it is -/
theorem ev_isBl {a b : Bool} (ha : EvH K ta G (.bool a)) (hb : EvH K tb G (.bool b)) : Ev K (tOp rIsB ta tb) G (.bool (decide (a = b))) := ev_op2 ha hb fun H x y hx hy Q q => ⟨a, b, dp_bool hx, dp_bool hy, q _ (.bl _)⟩
theorem ev_notBl {a b : Bool} (ha : EvH K ta G (.bool a)) (hb : EvH K tb G (.bool b)) : Ev K (tOp rNotB ta tb) G (.bool (!decide (a = b))) := ev_op2 ha hb fun H x y hx hy Q q => ⟨a, b, dp_bool hx, dp_bool hy, q _ (.bl _)⟩
theorem ev_revL {ds : List PyData} (ha : Ev K ta G (.list ds)) : EvS K (tRevL K ta) G (.ow ds.reverse) := fun F lab σ H rs Q q =>
  ha F lab σ H rs _ fun x F1 H1 g1 d1 => by
    obtain ⟨a, xs, rfl, sq, al⟩ := dp_list d1.dp
    exact ⟨a, xs, rfl, Same.seq g1.fh sq, own_new g1 (dpAll_rev al) q⟩
end
/-! ### how big a number is -/
def Sm (n : Nat) (i : Int) : Prop := i.natAbs < 2 ^ n
theorem Sm.mono {m n : Nat} {i : Int} (h : Sm m i) (e : m ≤ n) : Sm n i := Nat.lt_of_lt_of_le h (Nat.pow_le_pow_right (by decide) e)
theorem Sm.mul {m n : Nat} {i j : Int} (h : Sm m i) (h2 : Sm n j) : Sm (m + n) (i * j) := wide_lt h h2
theorem Sm.add {m : Nat} {i j : Int} (h : Sm m i) (h2 : Sm m j) : Sm (m + 1) (i + j) := by
  unfold Sm at *
  have : (i + j).natAbs ≤ i.natAbs + j.natAbs := Int.natAbs_add_le i j
  rw [Nat.pow_succ]
  omega
theorem Sm.neg {m : Nat} {i : Int} (h : Sm m i) : Sm m (-i) := by
  unfold Sm at *
  rw [Int.natAbs_neg]
  exact h
theorem Sm.le {m : Nat} {i j : Int} (h : Sm m j) (e : i.natAbs ≤ j.natAbs) : Sm m i := Nat.lt_of_le_of_lt e h
theorem Sm.cmul {m n : Nat} {i j : Int} (h : Sm m i) (h2 : Sm n j) (e : m + n ≤ 999998) : CMulW i j := wide_mul (h.mono (Nat.le_succ m)) (h2.mono (Nat.le_succ n)) (Nat.succ_pos _) (Nat.succ_pos _) (by omega)
theorem Sm.cdiv {n : Nat} {i j : Int} (h : 0 < j) (h2 : Sm n j) (e : n ≤ 8999) : CDivW i j := wide_div h (h2.mono (Nat.le_succ n)) (Nat.succ_pos _) (by omega)
theorem sm_of {n : Nat} {i : Int} (a : -(2 ^ n : Nat) < i) (b : i < (2 ^ n : Nat)) : Sm n i := by
  unfold Sm
  omega
theorem sm64 {i : Int} (a : -18446744073709551616 < i) (b : i < 18446744073709551616) : Sm 64 i := by
  unfold Sm
  have : (2 : Nat) ^ 64 = 18446744073709551616 := by decide
  omega
open PySem L2
local macro_rules | `(tactic| walk_at "ev1") => `(tactic| first
  | ((with_reducible apply ev_var); rfl)
  | ((with_reducible apply EvS.h (ev_var ?_)); rfl)
  | ((with_reducible apply eh_own); rfl)
  | ((with_reducible apply ev_c); constructor)
  | with_reducible apply ea_im
  | with_reducible apply eah_cons
  | with_reducible apply eo_some
  | with_reducible apply eb_test
  | with_reducible apply eb_B
  | with_reducible apply eb_not
  | with_reducible apply eb_andN
  | with_reducible apply eb_orN
  | with_reducible apply ev_chain
  | with_reducible apply ev_I0
  | with_reducible apply ev_I
  | with_reducible apply ev_neg
  | with_reducible apply ev_eqD
  | with_reducible apply ev_neD
  | with_reducible apply ev_inD
  | with_reducible apply ev_notInD
  | with_reducible apply ev_isBl
  | with_reducible apply ev_notBl
  | with_reducible apply ev_andN
  | with_reducible apply ev_orN
  | with_reducible apply ev_notV
  | exact Sc.int _
  | exact Sc.bl _
  | exact Sc.str _
  | with_reducible exact ea_nil
  | with_reducible exact eah_nil
  | with_reducible exact eb_yes
  | with_reducible exact eo_none
  | ((with_reducible apply ev_ixO); rfl)
  | with_reducible apply ev_ix
  | with_reducible apply eh_ix
  | with_reducible apply ev_tupI
  | with_reducible apply ev_lstI
  | with_reducible apply ev_call
  | with_reducible apply ev_lenD
  | with_reducible apply ev_abs
  | with_reducible apply ev_max2
  | with_reducible apply ev_min2
  | with_reducible apply ev_sum
  | with_reducible apply ev_max
  | with_reducible apply ev_min
  | with_reducible apply ev_any
  | with_reducible apply ev_all
  | with_reducible apply ev_isi
  | with_reducible apply ev_intB
  | ((with_reducible show List.length _ ≤ 100000); exact Nat.le_of_ble_eq_true rfl)
  | ((with_reducible show atI _ _ = some _); with_unfolding_all rfl)
  | with_reducible exact Ims.nil
  | with_reducible apply Ims.cons
  | with_reducible exact LenOf.lst
  | with_reducible exact LenOf.tup
  | ((with_reducible apply ItemOf.lst); with_unfolding_all rfl)
  | ((with_reducible apply ItemOf.tup); with_unfolding_all rfl)
  | ((with_reducible show kitB _ _ = _); with_unfolding_all rfl)
  | with_reducible apply EvS.h)
local macro_rules | `(tactic| walk_at "ev") => `(tactic| repeat' (walk_at "ev1"))
local macro_rules | `(tactic| walk_at "le") => `(tactic| repeat' (first | exact le_nil | apply le_same | apply le_skip))
/-! ### fractions: what they are -/
abbrev Frc := Int × Int
def encF (x : Frc) : PyData := .tuple [.int x.1, .int x.2]
def mk (a b : Int) : Frc := (a / (Int.gcd a b : Int), b / (Int.gcd a b : Int))
def plusF (x y : Frc) : Frc := mk (x.1 * y.2 + y.1 * x.2) (x.2 * y.2)
def timesF (x y : Frc) : Frc := mk (x.1 * y.1) (x.2 * y.2)
def belowF (x y : Frc) : Bool := decide (x.1 * y.2 < y.1 * x.2)
def totalF (xs : List Frc) : Frc := xs.foldl plusF (0, 1)
/-- of so many bits, the lower one above nought -/
structure Fb (n : Nat) (x : Frc) : Prop where
  pos : 0 < x.2
  a : Sm n x.1
  b : Sm n x.2
theorem Fb.mono {m n : Nat} {x : Frc} (h : Fb m x) (e : m ≤ n) : Fb n x := ⟨h.pos, h.a.mono e, h.b.mono e⟩
theorem gcd_pos {a b : Int} (h : 0 < b) : 0 < (Int.gcd a b : Int) := by
  have : Int.gcd a b ≠ 0 := fun z => by
    have := (Int.gcd_eq_zero_iff.mp z).2
    omega
  omega
theorem gcd_le {a b : Int} (h : 0 < b) : (Int.gcd a b : Int) ≤ b := Int.le_of_dvd h (Int.gcd_dvd_right a b)
theorem mk_fb {n : Nat} {a b : Int} (h : 0 < b) (ha : Sm n a) (hb : Sm n b) : Fb n (mk a b) := by
  have g := gcd_pos (a := a) h
  refine ⟨Int.ediv_pos_of_pos_of_dvd h (Int.le_of_lt g) (Int.gcd_dvd_right a b), ?_, ?_⟩
  · refine ha.le ?_
    show (a / (Int.gcd a b : Int)).natAbs ≤ a.natAbs
    rw [Int.natAbs_ediv_of_dvd (Int.gcd_dvd_left a b)]
    exact Nat.div_le_self _ _
  · refine hb.le ?_
    show (b / (Int.gcd a b : Int)).natAbs ≤ b.natAbs
    rw [Int.natAbs_ediv_of_dvd (Int.gcd_dvd_right a b)]
    exact Nat.div_le_self _ _
theorem plusF_fb {m n : Nat} {x y : Frc} (h : Fb m x) (h2 : Fb n y) : Fb (m + n + 1) (plusF x y) :=
  mk_fb (Int.mul_pos h.pos h2.pos) ((h.a.mul h2.b).add ((h2.a.mul h.b).mono (by omega))) ((h.b.mul h2.b).mono (by omega))
theorem timesF_fb {m n : Nat} {x y : Frc} (h : Fb m x) (h2 : Fb n y) : Fb (m + n) (timesF x y) := mk_fb (Int.mul_pos h.pos h2.pos) (h.a.mul h2.a) (h.b.mul h2.b)

theorem item_F0 {x : Frc} : ItemOf (encF x) 0 (.int x.1) := .tup rfl
theorem item_F1 {x : Frc} : ItemOf (encF x) 1 (.int x.2) := .tup rfl
theorem len_F {x : Frc} : LenOf (encF x) 2 := .tup
local macro_rules | `(tactic| walk_at "ev1") => `(tactic| first | with_reducible exact item_F0 | with_reducible exact item_F1 | with_reducible exact len_F)

/-! ### fractions: the defs -/
def R_common : List Sl → Out → Prop := fun ss o => ∃ a b : Int, ss = [.im (.int a), .im (.int b)] ∧ o = .ret (.im (.int (Int.gcd a b)))
def t_common (K : PySem.W.Frag) : TS := (tSeq (tPar 0 1 (tCons (tCB (rAbsU) (tCons (tVar 0) tNil)) (tCons (tCB (rAbsU) (tCons (tVar 1) tNil)) tNil)))
    (tSeq (tWhile (tTest (tOp (rI0 fun i j => .bl (decide (j < i))) (tVar 1) (tC (.int 0)))) (tPar 0 1 (tCons (tVar 1) (tCons (tOp (rI (fun _ j => 0 < j) fun i j => .int (i % j)) (tVar 0) (tVar 1)) tNil))))
    (tRet (tVar 0))))
def R_made : List Sl → Out → Prop := fun ss o => ∃ a b : Int, ss = [.im (.int a), .im (.int b)] ∧ 0 < b ∧ Sm 8500 b ∧ o = .ret (.im (encF (mk a b)))
def t_made (K : PySem.W.Frag) : TS := (tSeq (tAsg (tCall (spR K R_common) [] E0 (tCons (tVar 0) (tCons (tVar 1) tNil))) (gName 2))
    (tRet (tTup (tCons (tOp (rI CDivW fun i j => .int (i / j)) (tVar 0) (tVar 2)) (tCons (tOp (rI CDivW fun i j => .int (i / j)) (tVar 1) (tVar 2)) tNil)))))
def R_plus : List Sl → Out → Prop := fun ss o => ∃ x y : Frc, ss = [.im (encF x), .im (encF y)] ∧ Fb 4200 x ∧ Fb 4200 y ∧ o = .ret (.im (encF (plusF x y)))
def t_plus (K : PySem.W.Frag) : TS := (tRet (tCall (spR K R_made) [] E0 (tCons (tOp (rI0 fun i j => .int (i + j)) (tOp (rI CMulW fun i j => .int (i * j)) (tOp (rIx K) (tVar 0) (tC (.int 0))) (tOp (rIx K) (tVar 1) (tC (.int 1)))) (tOp (rI CMulW fun i j => .int (i * j)) (tOp (rIx K) (tVar 1) (tC (.int 0))) (tOp (rIx K) (tVar 0) (tC (.int 1))))) (tCons (tOp (rI CMulW fun i j => .int (i * j)) (tOp (rIx K) (tVar 0) (tC (.int 1))) (tOp (rIx K) (tVar 1) (tC (.int 1)))) tNil))))
def R_times : List Sl → Out → Prop := fun ss o => ∃ x y : Frc, ss = [.im (encF x), .im (encF y)] ∧ Fb 4200 x ∧ Fb 4200 y ∧ o = .ret (.im (encF (timesF x y)))
def t_times (K : PySem.W.Frag) : TS := (tRet (tCall (spR K R_made) [] E0 (tCons (tOp (rI CMulW fun i j => .int (i * j)) (tOp (rIx K) (tVar 0) (tC (.int 0))) (tOp (rIx K) (tVar 1) (tC (.int 0)))) (tCons (tOp (rI CMulW fun i j => .int (i * j)) (tOp (rIx K) (tVar 0) (tC (.int 1))) (tOp (rIx K) (tVar 1) (tC (.int 1)))) tNil))))
def R_below : List Sl → Out → Prop := fun ss o => ∃ x y : Frc, ss = [.im (encF x), .im (encF y)] ∧ (Sm 100000 x.1 ∧ Sm 100000 x.2 ∧ Sm 100000 y.1 ∧ Sm 100000 y.2) ∧ o = .ret (.im (.bool (belowF x y)))
def t_below (K : PySem.W.Frag) : TS := (tRet (tOp (rI0 fun i j => .bl (decide (i < j))) (tOp (rI CMulW fun i j => .int (i * j)) (tOp (rIx K) (tVar 0) (tC (.int 0))) (tOp (rIx K) (tVar 1) (tC (.int 1)))) (tOp (rI CMulW fun i j => .int (i * j)) (tOp (rIx K) (tVar 1) (tC (.int 0))) (tOp (rIx K) (tVar 0) (tC (.int 1))))))
def R_total : List Sl → Out → Prop := fun ss o => ∃ (xs : List Frc) (n : Nat), ss = [.im (.list (xs.map encF))] ∧ (∀ x ∈ xs, Fb n x) ∧ (n + 1) * xs.length + 1 ≤ 4200 ∧ o = .ret (.im (encF (totalF xs)))
def t_total (K : PySem.W.Frag) : TS := (tSeq (tAsg (tTup (tCons (tC (.int 0)) (tCons (tC (.int 1)) tNil))) (gName 1))
    (tSeq (tFor (iList K (tVar 0)) (gName 2) (tAsg (tCall (spR K R_plus) [] E0 (tCons (tVar 1) (tCons (tVar 2) tNil))) (gName 1)))
    (tRet (tVar 1))))
section
variable {K : PySem.W.Frag} {E : XK}
theorem b_common (ss : List Sl) (o : Out) (h : R_common ss o) : St K E (t_common K) (params ["one", "other"] ss) { nx := fun _ => o = .ret (.im .none), rt := fun s => o = .ret s, ex := fun c => o = .exc c } := by
  obtain ⟨a, b, rfl, rfl⟩ := h
  have ab : ∀ i : Int, (if i < 0 then -i else i) = ((i.natAbs : Nat) : Int) := fun i => by split <;> omega
  refine st_seq (st_par (d := .int (a.natAbs : Nat)) (e := .int (b.natAbs : Nat)) ?_ ?_ ?_)
  · rw [← ab]; walk_at "ev"
  · rw [← ab]; walk_at "ev"
  refine st_seq (st_while (fun m G => ∃ x y : Nat, G = [.im (.int x), .im (.int y)] ∧ m = y ∧ Nat.gcd x y = Int.gcd a b) _ ⟨_, _, rfl, rfl, rfl⟩ ?_)
  rintro m G ⟨x, y, rfl, hy, hg⟩
  subst hy
  refine ⟨decide (0 < (m : Int)), by walk_at "ev", fun hb => ?_, fun hb => ?_⟩
  · have hm : 0 < (m : Int) := of_decide_eq_true hb
    refine st_par (d := .int m) (e := .int ((x : Int) % (m : Int))) (by walk_at "ev") (by walk_at "ev"; exact hm) ?_
    refine ⟨x % m, Nat.mod_lt _ (by omega), m, x % m, ?_, rfl, ?_⟩
    · show [Sl.im (.int m), Sl.im (.int ((x : Int) % (m : Int)))] = _
      rw [Int.natCast_emod]
    · rw [← hg, Nat.gcd_comm m, ← Nat.gcd_rec, Nat.gcd_comm]
  · have hm : ¬ 0 < (m : Int) := of_decide_eq_false hb
    have e : m = 0 := by omega
    subst e
    rw [Nat.gcd_zero_right] at hg
    rw [← hg]
    exact st_ret (by walk_at "ev") rfl
theorem b_made (ss : List Sl) (o : Out) (h : R_made ss o) : St K E (t_made K) (params ["a", "b", "far"] ss) { nx := fun _ => o = .ret (.im .none), rt := fun s => o = .ret s, ex := fun c => o = .exc c } := by
  obtain ⟨a, b, rfl, hb, sb, rfl⟩ := h
  have g := gcd_pos (a := a) hb
  have hg : CDivW a (Int.gcd a b : Int) := Sm.cdiv g (sb.le (by have := gcd_le (a := a) hb; omega)) (by decide)
  refine st_seq (st_asg (by walk_at "ev"; exact ⟨a, b, rfl, rfl⟩) ?_)
  refine st_ret (s := .im (encF (mk a b))) ?_ rfl
  refine ev_tup (ds := [.int (a / (Int.gcd a b : Int)), .int (b / (Int.gcd a b : Int))]) ?_ (Nat.le_of_ble_eq_true rfl)
  show EvA K _ _ [.im _, .im _]
  walk_at "ev"
  · exact hg
  · exact ⟨hg.1, hg.2⟩
theorem b_plus (ss : List Sl) (o : Out) (h : R_plus ss o) : St K E (t_plus K) (params ["one", "other"] ss) { nx := fun _ => o = .ret (.im .none), rt := fun s => o = .ret s, ex := fun c => o = .exc c } := by
  obtain ⟨x, y, rfl, hx, hy, rfl⟩ := h
  refine st_ret (s := .im (encF (plusF x y))) ?_ rfl
  walk_at "ev"
  · exact hx.a.cmul hy.b (by decide)
  · exact hy.a.cmul hx.b (by decide)
  · exact hx.b.cmul hy.b (by decide)
  · exact ⟨_, _, rfl, Int.mul_pos hx.pos hy.pos, (hx.b.mul hy.b).mono (by decide), rfl⟩
theorem b_times (ss : List Sl) (o : Out) (h : R_times ss o) : St K E (t_times K) (params ["one", "other"] ss) { nx := fun _ => o = .ret (.im .none), rt := fun s => o = .ret s, ex := fun c => o = .exc c } := by
  obtain ⟨x, y, rfl, hx, hy, rfl⟩ := h
  refine st_ret (s := .im (encF (timesF x y))) ?_ rfl
  walk_at "ev"
  · exact hx.a.cmul hy.a (by decide)
  · exact hx.b.cmul hy.b (by decide)
  · exact ⟨_, _, rfl, Int.mul_pos hx.pos hy.pos, (hx.b.mul hy.b).mono (by decide), rfl⟩
theorem b_below (ss : List Sl) (o : Out) (h : R_below ss o) : St K E (t_below K) (params ["one", "other"] ss) { nx := fun _ => o = .ret (.im .none), rt := fun s => o = .ret s, ex := fun c => o = .exc c } := by
  obtain ⟨x, y, rfl, ⟨h1, h2, h3, h4⟩, rfl⟩ := h
  refine st_ret (s := .im (.bool (belowF x y))) ?_ rfl
  walk_at "ev"
  · exact h1.cmul h4 (by decide)
  · exact h3.cmul h2 (by decide)
theorem b_total (ss : List Sl) (o : Out) (h : R_total ss o) : St K E (t_total K) (params ["fractions", "found", "one"] ss) { nx := fun _ => o = .ret (.im .none), rt := fun s => o = .ret s, ex := fun c => o = .exc c } := by
  obtain ⟨xs, n, rfl, hx, hz, rfl⟩ := h
  have fb : ∀ i, i ≤ xs.length → Fb ((n + 1) * i + 1) (totalF (xs.take i)) := by
    intro i
    induction i with
    | zero =>
      intro _
      rw [Nat.mul_zero, List.take_zero]
      exact ⟨by decide, (show (0 : Int).natAbs < 2 ^ (0 + 1) by decide), (show (1 : Int).natAbs < 2 ^ (0 + 1) by decide)⟩
    | succ i ih =>
      intro hi
      have hx1 : xs[i]? = some xs[i] := List.getElem?_eq_getElem (by omega)
      unfold totalF
      rw [take_snoc hx1, List.foldl_append]
      show Fb _ (plusF (totalF (xs.take i)) xs[i])
      refine (plusF_fb (ih (by omega)) (hx _ (List.getElem_mem _))).mono ?_
      rw [Nat.mul_add]
      omega
  refine st_seq (st_asg (s := .im (encF (0, 1))) (by show Ev K _ _ (.tuple ([.int 0, .int 1] : List PyData)); refine ev_tup ?_ (Nat.le_of_ble_eq_true rfl); show EvA K _ _ [.im _, .im _]; walk_at "ev") ?_)
  have hl : xs.length ≤ 4200 := by
    have : xs.length ≤ (n + 1) * xs.length := Nat.le_mul_of_pos_left _ (Nat.succ_pos _)
    omega
  refine st_seq (st_forG (vs := [2]) (xs := xs) (enc := encF) (ei_list (by walk_at "ev")) (fun i => [.im (.list (xs.map encF)), .im (encF (totalF (xs.take i))), .no]) (Le.refl _) (fun i x hi => ?_) (fun G' hle => ?_))
  · obtain ⟨hi', ex⟩ := List.getElem?_eq_some_iff.mp hi
    refine ⟨_, tg_name (by decide), ?_⟩
    have f1 := fb i (by omega)
    have f2 := hx x (by rw [← ex]; exact List.getElem_mem _)
    have le1 : (n + 1) * i + 1 ≤ 4200 := by
      have : (n + 1) * i ≤ (n + 1) * xs.length := Nat.mul_le_mul_left _ (by omega)
      omega
    have le2 : n ≤ 4200 := by
      have : (n + 1) * 1 ≤ (n + 1) * xs.length := Nat.mul_le_mul_left _ (by omega)
      omega
    refine st_asg (s := .im (encF (totalF (xs.take (i + 1))))) ?_ ?_
    · rw [take_snoc hi]
      unfold totalF
      rw [List.foldl_append]
      walk_at "ev"
      exact ⟨_, _, rfl, f1.mono le1, f2.mono le2, rfl⟩
    · exact (Le.refl [.im (.list (xs.map encF)), .im (encF (totalF (xs.take (i + 1)))), .no]).setR 2 _ (.inl rfl)
  · refine st_le hle (st_ret (by walk_at "ev") ?_)
    rw [List.take_length]
theorem len_common {ss : List Sl} {o : Out} (h : R_common ss o) : ss.length = 2 := by
  obtain ⟨_, _, rfl, _⟩ := h
  rfl
theorem len_made {ss : List Sl} {o : Out} (h : R_made ss o) : ss.length = 2 := by
  obtain ⟨_, _, rfl, _⟩ := h
  rfl
theorem len_plus {ss : List Sl} {o : Out} (h : R_plus ss o) : ss.length = 2 := by
  obtain ⟨_, _, rfl, _⟩ := h
  rfl
theorem len_times {ss : List Sl} {o : Out} (h : R_times ss o) : ss.length = 2 := by
  obtain ⟨_, _, rfl, _⟩ := h
  rfl
theorem len_below {ss : List Sl} {o : Out} (h : R_below ss o) : ss.length = 2 := by
  obtain ⟨_, _, rfl, _⟩ := h
  rfl
theorem len_total {ss : List Sl} {o : Out} (h : R_total ss o) : ss.length = 1 := by
  obtain ⟨_, _, rfl, _⟩ := h
  rfl
end
open PySem L2
/-! ### equality of data -/
def Lay (n : Nat) (d : PyData) : Prop := d.canLay0 = true ∧ d.depth ≤ n
theorem shaped_of {n : Nat} {d : PyData} (h : Lay n d) (e : n ≤ 64) : SeqAt.shaped d = true := by
  unfold SeqAt.shaped
  rw [h.1, decide_eq_true (Nat.le_trans h.2 e)]
  rfl
theorem lay_int {i : Int} : Lay 0 (.int i) := ⟨by rw [PyData.canLay0], by rw [PyData.depth]; exact Nat.le_refl 0⟩
theorem lay_bool {i : Bool} : Lay 0 (.bool i) := ⟨by rw [PyData.canLay0], by rw [PyData.depth]; exact Nat.le_refl 0⟩
theorem lay_none : Lay 0 .none := ⟨by rw [PyData.canLay0], by rw [PyData.depth]; exact Nat.le_refl 0⟩
theorem lay_all {n : Nat} : ∀ {ds : List PyData}, (∀ d ∈ ds, Lay n d) → PyData.canLayAll0 ds = true ∧ PyData.depthAll ds ≤ n
  | [], _ => ⟨by rw [PyData.canLayAll0], by rw [PyData.depthAll]; exact Nat.zero_le _⟩
  | d :: ds, h => by
    have h1 := h d List.mem_cons_self
    have h2 := lay_all (n := n) (ds := ds) fun x hx => h x (List.mem_cons_of_mem _ hx)
    exact ⟨by rw [PyData.canLayAll0, h1.1, h2.1]; rfl, by rw [PyData.depthAll]; exact Nat.max_le.mpr ⟨h1.2, h2.2⟩⟩
theorem lay_listD {n : Nat} {ds : List PyData} (h : ∀ d ∈ ds, Lay n d) : Lay (n + 1) (.list ds) := ⟨by rw [PyData.canLay0]; exact (lay_all h).1, by rw [PyData.depth]; exact Nat.succ_le_succ (lay_all h).2⟩
theorem lay_tupD {n : Nat} {ds : List PyData} (h : ∀ d ∈ ds, Lay n d) : Lay (n + 1) (.tuple ds) := ⟨by rw [PyData.canLay0]; exact (lay_all h).1, by rw [PyData.depth]; exact Nat.succ_le_succ (lay_all h).2⟩
theorem lay_list {α : Type} {n : Nat} {enc : α → PyData} {xs : List α} (h : ∀ x ∈ xs, Lay n (enc x)) : Lay (n + 1) (.list (xs.map enc)) := lay_listD fun d hd => by
  obtain ⟨x, hx, rfl⟩ := List.mem_map.mp hd
  exact h x hx
theorem Lay.mono {m n : Nat} {d : PyData} (h : Lay m d) (e : m ≤ n) : Lay n d := ⟨h.1, Nat.le_trans h.2 e⟩
theorem lay_tup2 {n : Nat} {a b : PyData} (h : Lay n a) (h2 : Lay n b) : Lay (n + 1) (.tuple [a, b]) := lay_tupD fun d hd => by
  rcases List.mem_cons.mp hd with rfl | hd
  · exact h
  · rcases List.mem_cons.mp hd with rfl | hd
    · exact h2
    · cases hd
theorem lay_list2 {n : Nat} {a b : PyData} (h : Lay n a) (h2 : Lay n b) : Lay (n + 1) (.list [a, b]) := lay_listD fun d hd => by
  rcases List.mem_cons.mp hd with rfl | hd
  · exact h
  · rcases List.mem_cons.mp hd with rfl | hd
    · exact h2
    · cases hd
theorem lay_F {x : Frc} : Lay 1 (encF x) := lay_tup2 lay_int lay_int
theorem eqv_int {i j : Int} : PyData.eqv (.int i) (.int j) = decide (i = j) := by
  rw [PyData.eqv]
  exact Bool.beq_eq_decide_eq i j
theorem eqv_bool {i j : Bool} : PyData.eqv (.bool i) (.bool j) = decide (i = j) := by
  rw [PyData.eqv]
  exact Bool.beq_eq_decide_eq i j
theorem eqv_str {i j : Str} : PyData.eqv (.str i) (.str j) = decide (i = j) := by
  rw [PyData.eqv]
  by_cases e : i = j
  · subst e; simp
  · rw [decide_eq_false e]
    simpa using e
theorem eqv_F {x y : Frc} : PyData.eqv (encF x) (encF y) = decide (x = y) := by
  obtain ⟨a, b⟩ := x
  obtain ⟨c, d⟩ := y
  unfold encF
  rw [PyData.eqv, PyData.eqvAll, PyData.eqvAll, PyData.eqvAll, eqv_int, eqv_int, Bool.and_true]
  by_cases e : a = c
  · by_cases f : b = d
    · subst e f; simp
    · simp [e, f]
  · simp [e]
theorem eqvAll_map {α : Type} [DecidableEq α] {enc : α → PyData} (h : ∀ x y, PyData.eqv (enc x) (enc y) = decide (x = y)) : ∀ xs ys : List α, PyData.eqvAll (xs.map enc) (ys.map enc) = decide (xs = ys)
  | [], [] => by rw [List.map_nil, PyData.eqvAll]; simp
  | [], y :: ys => by rw [List.map_nil, List.map_cons, PyData.eqvAll]; simp
  | x :: xs, [] => by rw [List.map_nil, List.map_cons, PyData.eqvAll]; simp
  | x :: xs, y :: ys => by
    rw [List.map_cons, List.map_cons, PyData.eqvAll, h, eqvAll_map h xs ys]
    by_cases e : x = y
    · by_cases f : xs = ys
      · subst e f; simp
      · simp [e, f]
    · simp [e]
theorem eqv_list {α : Type} [DecidableEq α] {enc : α → PyData} (h : ∀ x y, PyData.eqv (enc x) (enc y) = decide (x = y)) (xs ys : List α) : PyData.eqv (.list (xs.map enc)) (.list (ys.map enc)) = decide (xs = ys) := by
  rw [PyData.eqv]
  exact eqvAll_map h xs ys
/-- a row, a table, a mixture -/
abbrev encR (r : List Int) : PyData := .list (r.map .int)
abbrev encT (t : List (List Int)) : PyData := .list (t.map encR)
abbrev encM (m : List Frc) : PyData := .list (m.map encF)
theorem lay_R {r : List Int} : Lay 1 (encR r) := lay_list fun _ _ => lay_int
theorem lay_T {t : List (List Int)} : Lay 2 (encT t) := lay_list fun _ _ => lay_R
theorem lay_M {t : List Frc} : Lay 2 (encM t) := lay_list fun _ _ => lay_F
theorem eqv_R (x y : List Int) : PyData.eqv (encR x) (encR y) = decide (x = y) := eqv_list (fun _ _ => eqv_int) x y
theorem eqv_T (x y : List (List Int)) : PyData.eqv (encT x) (encT y) = decide (x = y) := eqv_list eqv_R x y
theorem eqv_M (x y : List Frc) : PyData.eqv (encM x) (encM y) = decide (x = y) := eqv_list (fun _ _ => eqv_F) x y

/-! ### the law's script -/
def cellAt (ns : List Int) (k : Nat) : Int := ns.getD k 0
theorem law_sp {K : PySem.W.Frag} {H : Hp} {a : Addr} {ns : List Int} {R : List Sl → Out → Prop} {E : XK} (hl : ns.length ≤ 63) (hS : SqL K H a (ns.map V.int)) (hR : R [.im (encR ns)] (.ret (.im (.bool true)))) : spR K R [.ref a] H (fun v _ => v = .bl true) E :=
  ⟨H, [.im (encR ns)], .ret (.im (.bool true)), .refl H, ⟨.lst hS (ints_dpAll ns), trivial⟩, hR, fun v F' H' g n => dp_bool n.dp⟩
/-! ### rows, tables: items, lengths -/
theorem len_R {r : List Int} : LenOf (encR r) r.length := by
  have h := LenOf.lst (ds := r.map .int)
  rw [List.length_map] at h
  exact h
theorem len_T {t : List (List Int)} : LenOf (encT t) t.length := by
  have h := LenOf.lst (ds := t.map encR)
  rw [List.length_map] at h
  exact h
theorem len_M {t : List Frc} : LenOf (encM t) t.length := by
  have h := LenOf.lst (ds := t.map encF)
  rw [List.length_map] at h
  exact h
theorem item_R {r : List Int} {j : Nat} {x : Int} (h : r[j]? = some x) : ItemOf (encR r) (j : Int) (.int x) := .lst (atI_map h)
theorem item_T {t : List (List Int)} {j : Nat} {x : List Int} (h : t[j]? = some x) : ItemOf (encT t) (j : Int) (encR x) := .lst (atI_map h)
theorem item_M {t : List Frc} {j : Nat} {x : Frc} (h : t[j]? = some x) : ItemOf (encM t) (j : Int) (encF x) := .lst (atI_map h)
theorem getD_of {α : Type} {xs : List α} {j : Nat} {d : α} (h : j < xs.length) : xs[j]? = some (xs.getD j d) := by
  rw [List.getElem?_eq_getElem h, List.getD_eq_getElem?_getD, List.getElem?_eq_getElem h]
  rfl
theorem map_int_map {α : Type} (xs : List α) (f : α → Int) : (xs.map fun x => PyData.int (f x)) = (xs.map f).map .int := by rw [List.map_map]; rfl
/-- as many in each row, 1 to 4 rows and columns -/
structure Rect (t : List (List Int)) (n : Nat) : Prop where
  r1 : 1 ≤ t.length
  r4 : t.length ≤ 4
  c1 : 1 ≤ n
  c4 : n ≤ 4
  row : ∀ r ∈ t, r.length = n
theorem Rect.head {t : List (List Int)} {n : Nat} (h : Rect t n) : ∃ r0 t', t = r0 :: t' ∧ r0.length = n := by
  cases t with
  | nil => exact absurd h.r1 (by decide)
  | cons r t => exact ⟨r, t, rfl, h.row r List.mem_cons_self⟩
theorem Rect.get {t : List (List Int)} {n : Nat} (h : Rect t n) {i : Nat} {r : List Int} (e : t[i]? = some r) : r.length = n := h.row r (List.mem_of_getElem? e)
open PySem L2
local macro_rules | `(tactic| walk_at "lay") => `(tactic| first
  | exact lay_int | exact lay_bool | exact lay_none | exact lay_F | exact lay_R | exact lay_T | exact lay_M
  | (apply lay_tup2 <;> walk_at "lay") | (apply lay_list2 <;> walk_at "lay"))
local macro_rules | `(tactic| walk_at "ev1") => `(tactic| first
  | with_reducible exact item_F0 | with_reducible exact item_F1 | with_reducible exact len_F | with_reducible exact len_R | with_reducible exact len_T | with_reducible exact len_M
  | ((with_reducible show SeqAt.shaped _ = true); exact shaped_of (by walk_at "lay") (by decide)))
/-! ### what the laws' own defs compute -/
def draw (c k m : Int) : Int :=
  ((c % 1000000007 * 48271 + k * 69621 + 7) % 1000000007) * ((c % 1000000007 * 48271 + k * 69621 + 7) % 1000000007) / 1013 % 1000003 % m
theorem draw_bd (c k : Int) {m : Int} (h : 0 < m) : 0 ≤ draw c k m ∧ draw c k m < m := ⟨Int.emod_nonneg _ (by omega), Int.emod_lt_of_pos _ h⟩
theorem cm {i j : Int} (h : -18446744073709551616 < i ∧ i < 18446744073709551616) (h2 : -18446744073709551616 < j ∧ j < 18446744073709551616) : CMulW i j := (sm64 h.1 h.2).cmul (sm64 h2.1 h2.2) (by decide)
theorem item_menu {ds : List PyData} {i : Int} (ns : List Int) (h : ds = ns.map .int) (h0 : 0 ≤ i) (h1 : i < ns.length) : ItemOf (.tuple ds) i (.int (ns.getD i.toNat 0)) := by
  subst h
  refine .tup ?_
  obtain ⟨k, rfl⟩ : ∃ k : Nat, i = k := ⟨i.toNat, by omega⟩
  have hk : k < ns.length := by omega
  refine atI_map ?_
  rw [Int.toNat_natCast, List.getElem?_eq_getElem hk, List.getD_eq_getElem?_getD, List.getElem?_eq_getElem hk]
  rfl
def R_law_cell_at : List Sl → Out → Prop := fun ss o => ∃ (ns : List Int) (k : Nat), ss = [.im (encR ns), .im (.int k)] ∧ o = .ret (.im (.int (cellAt ns k)))
def t_law_cell_at (K : PySem.W.Frag) : TS := (tSeq (tIfS (tTest (tOp (rI0 fun i j => .bl (decide (i < j))) (tVar 1) (tCB (rLenU K) (tCons (tVar 0) tNil)))) (tRet (tOp (rIx K) (tVar 0) (tVar 1))) tNext)
    (tRet (tC (.int 0))))
theorem len_law_cell_at {ss : List Sl} {o : Out} (h : R_law_cell_at ss o) : ss.length = 2 := by
  first | (obtain ⟨_, rfl, _⟩ := h; rfl) | (obtain ⟨_, _, rfl, _⟩ := h; rfl) | (obtain ⟨_, _, _, rfl, _⟩ := h; rfl) | (obtain ⟨_, _, _, _, rfl, _⟩ := h; rfl) | (obtain ⟨_, _, _, _, _, rfl, _⟩ := h; rfl) | (obtain ⟨_, _, _, _, _, _, rfl, _⟩ := h; rfl)
theorem b_law_cell_at {K : PySem.W.Frag} {E : XK} (ss : List Sl) (o : Out) (h : R_law_cell_at ss o) : St K E (t_law_cell_at K) (params ["_law_script", "_law_k"] ss) { nx := fun _ => o = .ret (.im .none), rt := fun s => o = .ret s, ex := fun c => o = .exc c } := by
  obtain ⟨ns, k, rfl, rfl⟩ := h
  have lm : (ns.map PyData.int).length = ns.length := List.length_map _
  refine st_seq (st_if (by walk_at "ev") (fun hb => ?_) (fun hb => ?_))
  · have hk := of_decide_eq_true hb
    have hk : k < ns.length := by omega
    refine st_ret (s := .im (.int (cellAt ns k))) ?_ rfl
    walk_at "ev"
    refine .lst (atI_map ?_)
    unfold cellAt
    rw [List.getElem?_eq_getElem hk, List.getD_eq_getElem?_getD, List.getElem?_eq_getElem hk]
    rfl
  · have hk := of_decide_eq_false hb
    have e : cellAt ns k = 0 := by
      unfold cellAt
      rw [List.getD_eq_getElem?_getD, List.getElem?_eq_none (by omega)]
      rfl
    refine st_next ?_
    rw [e]
    exact st_ret (by walk_at "ev") rfl

def R_law_draw : List Sl → Out → Prop := fun ss o => ∃ (c k m : Int), ss = [.im (.int c), .im (.int k), .im (.int m)] ∧ (-1000000 < k ∧ k < 1000000) ∧ 0 < m ∧ o = .ret (.im (.int (draw c k m)))
def t_law_draw (K : PySem.W.Frag) : TS := (tSeq (tAsg (tOp (rI (fun _ j => 0 < j) fun i j => .int (i % j)) (tOp (rI0 fun i j => .int (i + j)) (tOp (rI0 fun i j => .int (i + j)) (tOp (rI CMulW fun i j => .int (i * j)) (tOp (rI (fun _ j => 0 < j) fun i j => .int (i % j)) (tVar 0) (tC (.int 1000000007))) (tC (.int 48271))) (tOp (rI CMulW fun i j => .int (i * j)) (tVar 1) (tC (.int 69621)))) (tC (.int 7))) (tC (.int 1000000007))) (gName 3))
    (tRet (tOp (rI (fun _ j => 0 < j) fun i j => .int (i % j)) (tOp (rI (fun _ j => 0 < j) fun i j => .int (i % j)) (tOp (rI CDivW fun i j => .int (i / j)) (tOp (rI CMulW fun i j => .int (i * j)) (tVar 3) (tVar 3)) (tC (.int 1013))) (tC (.int 1000003))) (tVar 2))))
theorem len_law_draw {ss : List Sl} {o : Out} (h : R_law_draw ss o) : ss.length = 3 := by
  first | (obtain ⟨_, rfl, _⟩ := h; rfl) | (obtain ⟨_, _, rfl, _⟩ := h; rfl) | (obtain ⟨_, _, _, rfl, _⟩ := h; rfl) | (obtain ⟨_, _, _, _, rfl, _⟩ := h; rfl) | (obtain ⟨_, _, _, _, _, rfl, _⟩ := h; rfl) | (obtain ⟨_, _, _, _, _, _, rfl, _⟩ := h; rfl)
theorem b_law_draw {K : PySem.W.Frag} {E : XK} (ss : List Sl) (o : Out) (h : R_law_draw ss o) : St K E (t_law_draw K) (params ["_law_cell", "_law_k", "_law_many", "_law_mixed"] ss) { nx := fun _ => o = .ret (.im .none), rt := fun s => o = .ret s, ex := fun c => o = .exc c } := by
  obtain ⟨c, k, m, rfl, hk, hm, rfl⟩ := h
  have h1 := Int.emod_nonneg c (show (1000000007 : Int) ≠ 0 by decide)
  have h2 := Int.emod_lt_of_pos c (show (0 : Int) < 1000000007 by decide)
  refine st_seq (st_asg (s := .im (.int ((c % 1000000007 * 48271 + k * 69621 + 7) % 1000000007))) ?_ ?_)
  · walk_at "ev"
    · decide
    · exact cm (by omega) (by omega)
    · exact cm (by omega) (by omega)
    · decide
  have h3 := Int.emod_nonneg (c % 1000000007 * 48271 + k * 69621 + 7) (show (1000000007 : Int) ≠ 0 by decide)
  have h4 := Int.emod_lt_of_pos (c % 1000000007 * 48271 + k * 69621 + 7) (show (0 : Int) < 1000000007 by decide)
  refine st_ret (s := .im (.int (draw c k m))) ?_ rfl
  unfold draw
  walk_at "ev"
  · exact cm (by omega) (by omega)
  · exact Sm.cdiv (by decide) (sm64 (by decide) (by decide)) (by decide)
  · decide
  · exact hm

def R_law_common : List Sl → Out → Prop := fun ss o => ∃ a b : Int, ss = [.im (.int a), .im (.int b)] ∧ 0 ≤ a ∧ 0 ≤ b ∧ o = .ret (.im (.int (Int.gcd a b)))
def t_law_common (K : PySem.W.Frag) : TS := (tSeq (tWhile (tTest (tOp (rI0 fun i j => .bl (decide (j < i))) (tVar 1) (tC (.int 0)))) (tPar 0 1 (tCons (tVar 1) (tCons (tOp (rI (fun _ j => 0 < j) fun i j => .int (i % j)) (tVar 0) (tVar 1)) tNil))))
    (tRet (tVar 0)))
theorem len_law_common {ss : List Sl} {o : Out} (h : R_law_common ss o) : ss.length = 2 := by
  first | (obtain ⟨_, rfl, _⟩ := h; rfl) | (obtain ⟨_, _, rfl, _⟩ := h; rfl) | (obtain ⟨_, _, _, rfl, _⟩ := h; rfl) | (obtain ⟨_, _, _, _, rfl, _⟩ := h; rfl) | (obtain ⟨_, _, _, _, _, rfl, _⟩ := h; rfl) | (obtain ⟨_, _, _, _, _, _, rfl, _⟩ := h; rfl)
theorem b_law_common {K : PySem.W.Frag} {E : XK} (ss : List Sl) (o : Out) (h : R_law_common ss o) : St K E (t_law_common K) (params ["_law_one", "_law_other"] ss) { nx := fun _ => o = .ret (.im .none), rt := fun s => o = .ret s, ex := fun c => o = .exc c } := by
  obtain ⟨a, b, rfl, ha, hb, rfl⟩ := h
  obtain ⟨a, rfl⟩ := Int.eq_ofNat_of_zero_le ha
  obtain ⟨b, rfl⟩ := Int.eq_ofNat_of_zero_le hb
  refine st_seq (st_while (fun m G => ∃ x y : Nat, G = [.im (.int x), .im (.int y)] ∧ m = y ∧ Nat.gcd x y = Int.gcd a b) _ ⟨a, b, rfl, rfl, rfl⟩ ?_)
  rintro m G ⟨x, y, rfl, hy, hg⟩
  subst hy
  refine ⟨decide (0 < (m : Int)), by walk_at "ev", fun hb => ?_, fun hb => ?_⟩
  · have hm : 0 < (m : Int) := of_decide_eq_true hb
    refine st_par (d := .int m) (e := .int ((x : Int) % (m : Int))) (by walk_at "ev") (by walk_at "ev"; exact hm) ?_
    refine ⟨x % m, Nat.mod_lt _ (by omega), m, x % m, ?_, rfl, ?_⟩
    · show [Sl.im (.int m), Sl.im (.int ((x : Int) % (m : Int)))] = _
      rw [Int.natCast_emod]
    · rw [← hg, Nat.gcd_comm m, ← Nat.gcd_rec, Nat.gcd_comm]
  · have hm : ¬ 0 < (m : Int) := of_decide_eq_false hb
    have e : m = 0 := by omega
    subst e
    rw [Nat.gcd_zero_right] at hg
    rw [← hg]
    exact st_ret (by walk_at "ev") rfl

def R_law_made : List Sl → Out → Prop := fun ss o => ∃ a b : Int, ss = [.im (.int a), .im (.int b)] ∧ 0 < b ∧ Sm 8500 b ∧ o = .ret (.im (encF (mk a b)))
def t_law_made (K : PySem.W.Frag) : TS := (tSeq (tAsg (tCall (spR K R_law_common) [] E0 (tCons (tCB (rAbsU) (tCons (tVar 0) tNil)) (tCons (tVar 1) tNil))) (gName 2))
    (tRet (tTup (tCons (tOp (rI CDivW fun i j => .int (i / j)) (tVar 0) (tVar 2)) (tCons (tOp (rI CDivW fun i j => .int (i / j)) (tVar 1) (tVar 2)) tNil)))))
theorem len_law_made {ss : List Sl} {o : Out} (h : R_law_made ss o) : ss.length = 2 := by
  first | (obtain ⟨_, rfl, _⟩ := h; rfl) | (obtain ⟨_, _, rfl, _⟩ := h; rfl) | (obtain ⟨_, _, _, rfl, _⟩ := h; rfl) | (obtain ⟨_, _, _, _, rfl, _⟩ := h; rfl) | (obtain ⟨_, _, _, _, _, rfl, _⟩ := h; rfl) | (obtain ⟨_, _, _, _, _, _, rfl, _⟩ := h; rfl)
theorem b_law_made {K : PySem.W.Frag} {E : XK} (ss : List Sl) (o : Out) (h : R_law_made ss o) : St K E (t_law_made K) (params ["_law_a", "_law_b", "_law_far"] ss) { nx := fun _ => o = .ret (.im .none), rt := fun s => o = .ret s, ex := fun c => o = .exc c } := by
  obtain ⟨a, b, rfl, hb, sb, rfl⟩ := h
  have ab : (if a < 0 then -a else a) = ((a.natAbs : Nat) : Int) := by split <;> omega
  have g := gcd_pos (a := a) hb
  have hg : CDivW a (Int.gcd a b : Int) := Sm.cdiv g (sb.le (by have := gcd_le (a := a) hb; omega)) (by decide)
  have eg : Int.gcd ((a.natAbs : Nat) : Int) b = Int.gcd a b := by
    show Nat.gcd _ _ = Nat.gcd _ _
    rw [Int.natAbs_natCast]
  refine st_seq (st_asg (s := .im (.int (Int.gcd a b : Int))) ?_ ?_)
  · walk_at "ev"
    rw [ab]
    exact ⟨_, _, rfl, by omega, by omega, by rw [eg]⟩
  refine st_ret (s := .im (encF (mk a b))) ?_ rfl
  refine ev_tup (ds := [.int (a / (Int.gcd a b : Int)), .int (b / (Int.gcd a b : Int))]) ?_ (Nat.le_of_ble_eq_true rfl)
  show EvA K _ _ [.im _, .im _]
  walk_at "ev"
  · exact hg
  · exact ⟨hg.1, hg.2⟩

def R_law_right : List Sl → Out → Prop := fun ss o => ∃ (x : Frc) (a b : Int), ss = [.im (encF x), .im (.int a), .im (.int b)] ∧ 0 < b ∧ Sm 8500 b ∧ o = .ret (.im (.bool (decide (x = mk a b))))
def t_law_right (K : PySem.W.Frag) : TS := (tSeq (tIfS (tOr (tNot (tB (tCB (rIsi K) (tCons (tVar 0) (tCons (tC (.ty "tuple")) tNil))))) (tTest (tOp (rNeD K) (tCB (rLenU K) (tCons (tVar 0) tNil)) (tC (.int 2))))) (tRet (tC (.bl false))) tNext)
    (tSeq (tIfS (tB (tCB (rAny K) (tCons (tLc (iTup K (tVar 0)) (gName 3) tYes (tOrV (tCB (rIsi K) (tCons (tVar 3) (tCons (tC (.ty "bool")) tNil))) (tNotV (tCB (rIsi K) (tCons (tVar 3) (tCons (tC (.ty "int")) tNil))))) [3]) tNil))) (tRet (tC (.bl false))) tNext)
    (tRet (tOp (rEqD K) (tVar 0) (tCall (spR K R_law_made) [] E0 (tCons (tVar 1) (tCons (tVar 2) tNil)))))))
theorem len_law_right {ss : List Sl} {o : Out} (h : R_law_right ss o) : ss.length = 3 := by
  first | (obtain ⟨_, rfl, _⟩ := h; rfl) | (obtain ⟨_, _, rfl, _⟩ := h; rfl) | (obtain ⟨_, _, _, rfl, _⟩ := h; rfl) | (obtain ⟨_, _, _, _, rfl, _⟩ := h; rfl) | (obtain ⟨_, _, _, _, _, rfl, _⟩ := h; rfl) | (obtain ⟨_, _, _, _, _, _, rfl, _⟩ := h; rfl)
theorem b_law_right {K : PySem.W.Frag} {E : XK} (ss : List Sl) (o : Out) (h : R_law_right ss o) : St K E (t_law_right K) (params ["_law_found", "_law_over", "_law_under", "_law_one"] ss) { nx := fun _ => o = .ret (.im .none), rt := fun s => o = .ret s, ex := fun c => o = .exc c } := by
  obtain ⟨x, a, b, rfl, hb, sb, rfl⟩ := h
  refine st_seq (st_if (b := false) ?_ (fun z => nomatch z) fun _ => st_next ?_)
  · refine EvB.to (b := false) (a := !true || !PyData.eqv (.int ((2 : Nat) : Int)) (.int 2)) (by walk_at "ev") (by decide)
  refine st_seq (st_if (b := false) ?_ (fun z => nomatch z) fun _ => st_next ?_)
  · refine EvB.to (b := false) (a := [false, false].any id) (eb_B (ev_any (EvS.h (EvS.freeze ?_))).h) (by decide)
    refine EvS.to (ev_lc1 (xs := [x.1, x.2]) (enc := .int) (vs := [3]) (ei_tup (ev_var rfl)) (fun _ => .bool false) (fun i => [.im (encF x), .im (.int a), .im (.int b), .im (.int i)]) (fun i _ => tg_name (by decide)) (fun i _ => ?_) (Nat.le_of_ble_eq_true rfl)) rfl
    refine Ev.to (d := .bool (false || !true)) ?_ rfl
    walk_at "ev"
  refine st_ret (s := .im (.bool (decide (x = mk a b)))) ?_ rfl
  rw [← eqv_F]
  walk_at "ev"
  exact ⟨_, _, rfl, hb, sb, rfl⟩
/-! ### fractions: plain laws -/
theorem mk_scale {k a b : Int} (hk : 0 < k) : mk (k * a) (k * b) = mk a b := by
  unfold mk
  rw [Int.gcd_mul_left]
  have e : ((k.natAbs * Int.gcd a b : Nat) : Int) = k * (Int.gcd a b : Int) := by
    rw [Int.natCast_mul, Int.natAbs_of_nonneg (Int.le_of_lt hk)]
  rw [e, Int.mul_ediv_mul_of_pos _ _ hk, Int.mul_ediv_mul_of_pos _ _ hk]
theorem mk_parts {a b : Int} (hb : 0 < b) : ∃ g : Int, 0 < g ∧ a = g * (mk a b).1 ∧ b = g * (mk a b).2 ∧ 0 < (mk a b).2 := by
  refine ⟨(Int.gcd a b : Int), gcd_pos hb, ?_, ?_, ?_⟩
  · exact (Int.mul_ediv_cancel' (Int.gcd_dvd_left a b)).symm
  · exact (Int.mul_ediv_cancel' (Int.gcd_dvd_right a b)).symm
  · exact Int.ediv_pos_of_pos_of_dvd hb (Int.le_of_lt (gcd_pos hb)) (Int.gcd_dvd_right a b)
theorem plus_mk {a b c d : Int} (hb : 0 < b) (hd : 0 < d) : plusF (mk a b) (mk c d) = mk (a * d + c * b) (b * d) := by
  obtain ⟨g, g0, ea, eb, p⟩ := mk_parts (a := a) hb
  obtain ⟨h, h0, ec, ed, q⟩ := mk_parts (a := c) hd
  generalize mk a b = x at *
  generalize mk c d = y at *
  subst ea eb ec ed
  unfold plusF
  rw [show g * x.1 * (h * y.2) + h * y.1 * (g * x.2) = (g * h) * (x.1 * y.2 + y.1 * x.2) by grind, show g * x.2 * (h * y.2) = (g * h) * (x.2 * y.2) by grind, mk_scale (Int.mul_pos g0 h0)]
theorem times_mk {a b c d : Int} (hb : 0 < b) (hd : 0 < d) : timesF (mk a b) (mk c d) = mk (a * c) (b * d) := by
  obtain ⟨g, g0, ea, eb, p⟩ := mk_parts (a := a) hb
  obtain ⟨h, h0, ec, ed, q⟩ := mk_parts (a := c) hd
  generalize mk a b = x at *
  generalize mk c d = y at *
  subst ea eb ec ed
  unfold timesF
  rw [show g * x.1 * (h * y.1) = (g * h) * (x.1 * y.1) by grind, show g * x.2 * (h * y.2) = (g * h) * (x.2 * y.2) by grind, mk_scale (Int.mul_pos g0 h0)]
theorem below_mk {a b c d : Int} (hb : 0 < b) (hd : 0 < d) : belowF (mk a b) (mk c d) = decide (a * d < c * b) := by
  obtain ⟨g, g0, ea, eb, p⟩ := mk_parts (a := a) hb
  obtain ⟨h, h0, ec, ed, q⟩ := mk_parts (a := c) hd
  generalize mk a b = x at *
  generalize mk c d = y at *
  subst ea eb ec ed
  unfold belowF
  rw [show g * x.1 * (h * y.2) = (g * h) * (x.1 * y.2) by grind, show h * y.1 * (g * x.2) = (g * h) * (y.1 * x.2) by grind]
  exact decide_eq_decide.mpr (Int.mul_lt_mul_left (Int.mul_pos g0 h0)).symm
open PySem L2
/-! ### what is a table -/
def wholeD : PyData → Bool
  | .int _ => true
  | _ => false
def worthOk : PyData → Bool
  | .int i => decide (-100 ≤ i) && decide (i ≤ 100)
  | _ => false
def rowOk (n : Nat) : PyData → Bool
  | .list ds => (decide (1 ≤ ds.length) && decide (ds.length ≤ 4)) && (decide (ds.length = n) && ds.all worthOk)
  | _ => false
def len0 : List PyData → Nat
  | .list ds :: _ => ds.length
  | _ => 0
def tabOk : PyData → Bool
  | .list rows => (decide (1 ≤ rows.length) && decide (rows.length ≤ 4)) && rows.all (rowOk (len0 rows))
  | _ => false
theorem tabOk_list (rows : List PyData) : tabOk (.list rows) = ((decide (1 ≤ rows.length) && decide (rows.length ≤ 4)) && rows.all (rowOk (len0 rows))) := rfl
theorem rowOk_list (n : Nat) (ds : List PyData) : rowOk n (.list ds) = ((decide (1 ≤ ds.length) && decide (ds.length ≤ 4)) && (decide (ds.length = n) && ds.all worthOk)) := rfl
theorem worthOk_i (i : Int) : worthOk (.int i) = (decide (-100 ≤ i) && decide (i ≤ 100)) := rfl
def isLst : PyData → Bool
  | .list _ => true
  | _ => false
theorem kit_list (d : PyData) : kitB (tyD d) "list" = some (isLst d) := by cases d <;> rfl
def isTup : PyData → Bool
  | .tuple _ => true
  | _ => false
theorem kit_tuple (d : PyData) : kitB (tyD d) "tuple" = some (isTup d) := by cases d <;> rfl
def isInt : PyData → Bool
  | .int _ => true
  | .bool _ => true
  | _ => false
theorem kit_int (d : PyData) : kitB (tyD d) "int" = some (isInt d) := by cases d <;> rfl
def isBool : PyData → Bool
  | .bool _ => true
  | _ => false
theorem kit_bool (d : PyData) : kitB (tyD d) "bool" = some (isBool d) := by cases d <;> rfl
def isStr : PyData → Bool
  | .str _ => true
  | _ => false
theorem kit_str (d : PyData) : kitB (tyD d) "str" = some (isStr d) := by cases d <;> rfl
theorem natI {a b : Nat} : decide ((a : Int) ≤ (b : Int)) = decide (a ≤ b) := decide_eq_decide.mpr (by omega)
theorem natE {a b : Nat} : decide ((a : Int) = (b : Int)) = decide (a = b) := decide_eq_decide.mpr (by omega)
/-- a table as the document tells it -/
structure Tab (t : List (List Int)) (n : Nat) : Prop extends Rect t n where
  bd : ∀ r ∈ t, ∀ x ∈ r, -100 ≤ x ∧ x ≤ 100
/-- .. and with numbers twice as great: differences of rows -/
structure TabW (t : List (List Int)) (n : Nat) : Prop extends Rect t n where
  bd : ∀ r ∈ t, ∀ x ∈ r, -200 ≤ x ∧ x ≤ 200
theorem wide_of {r : List Int} (h : ∀ x ∈ r, -100 ≤ x ∧ x ≤ 100) : ∀ x ∈ r, -200 ≤ x ∧ x ≤ 200 := fun x hx => by
  have := h x hx
  omega
theorem Tab.w {t : List (List Int)} {n : Nat} (h : Tab t n) : TabW t n := ⟨h.toRect, fun r hr => wide_of (h.bd r hr)⟩
theorem worthOk_int {d : PyData} (h : worthOk d = true) : ∃ i, d = .int i ∧ -100 ≤ i ∧ i ≤ 100 := by
  cases d with
  | int i =>
    unfold worthOk at h
    rw [Bool.and_eq_true] at h
    exact ⟨i, rfl, of_decide_eq_true h.1, of_decide_eq_true h.2⟩
  | _ => cases h
theorem all_ints {ds : List PyData} (h : ds.all worthOk = true) : ∃ ns : List Int, ds = ns.map .int ∧ ∀ x ∈ ns, -100 ≤ x ∧ x ≤ 100 := by
  induction ds with
  | nil => exact ⟨[], rfl, fun _ h => nomatch h⟩
  | cons d ds ih =>
    rw [List.all_cons, Bool.and_eq_true] at h
    obtain ⟨i, rfl, h1⟩ := worthOk_int h.1
    obtain ⟨ns, rfl, h2⟩ := ih h.2
    exact ⟨i :: ns, rfl, fun x hx => by
      rcases List.mem_cons.mp hx with rfl | hx
      · exact h1
      · exact h2 x hx⟩
theorem rowOk_row {n : Nat} {d : PyData} (h : rowOk n d = true) : ∃ r : List Int, d = encR r ∧ r.length = n ∧ 1 ≤ n ∧ n ≤ 4 ∧ ∀ x ∈ r, -100 ≤ x ∧ x ≤ 100 := by
  cases d with
  | list ds =>
    unfold rowOk at h
    simp only [Bool.and_eq_true, decide_eq_true_eq] at h
    obtain ⟨⟨h1, h2⟩, h3, h4⟩ := h
    obtain ⟨ns, rfl, h5⟩ := all_ints h4
    rw [List.length_map] at h1 h2 h3
    exact ⟨ns, rfl, h3, by omega, by omega, h5⟩
  | _ => cases h
theorem rows_tab {n : Nat} {rows : List PyData} (h : rows.all (rowOk n) = true) : ∃ t : List (List Int), rows = t.map encR ∧ (∀ r ∈ t, r.length = n) ∧ (∀ r ∈ t, ∀ x ∈ r, -100 ≤ x ∧ x ≤ 100) ∧ (t ≠ [] → 1 ≤ n ∧ n ≤ 4) := by
  induction rows with
  | nil => exact ⟨[], rfl, fun _ h => (nomatch h), fun _ h => (nomatch h), fun z => absurd rfl z⟩
  | cons d ds ih =>
    rw [List.all_cons, Bool.and_eq_true] at h
    obtain ⟨r, rfl, h1, h2, h3, h4⟩ := rowOk_row h.1
    obtain ⟨t, rfl, h5, h6, _⟩ := ih h.2
    exact ⟨r :: t, rfl, fun x hx => by
      rcases List.mem_cons.mp hx with rfl | hx
      · exact h1
      · exact h5 x hx, fun x hx => by
      rcases List.mem_cons.mp hx with rfl | hx
      · exact h4
      · exact h6 x hx, fun _ => ⟨h2, h3⟩⟩
theorem tabOk_tab {d : PyData} (h : tabOk d = true) : ∃ t n, d = encT t ∧ Tab t n := by
  cases d with
  | list rows =>
    unfold tabOk at h
    simp only [Bool.and_eq_true, decide_eq_true_eq] at h
    obtain ⟨⟨h1, h2⟩, h3⟩ := h
    obtain ⟨t, rfl, h4, h5, h6⟩ := rows_tab h3
    rw [List.length_map] at h1 h2
    have := h6 (by intro z; rw [z] at h1; exact absurd h1 (by decide))
    exact ⟨t, _, rfl, ⟨h1, h2, this.1, this.2, h4⟩, h5⟩
  | _ => cases h
theorem worth_all {r : List Int} (h : ∀ x ∈ r, -100 ≤ x ∧ x ≤ 100) : (r.map PyData.int).all worthOk = true := by
  rw [List.all_eq_true]
  intro d hd
  obtain ⟨x, hx, rfl⟩ := List.mem_map.mp hd
  have := h x hx
  rw [worthOk_i, decide_eq_true this.1, decide_eq_true this.2]
  rfl
theorem tab_tabOk {t : List (List Int)} {n : Nat} (h : Tab t n) : tabOk (encT t) = true := by
  have e0 : len0 (t.map encR) = n := by
    cases t with
    | nil => exact absurd h.r1 (by decide)
    | cons r t =>
      show (r.map PyData.int).length = n
      rw [List.length_map]
      exact h.row r List.mem_cons_self
  show tabOk (.list (t.map encR)) = true
  rw [tabOk_list, e0, List.length_map, decide_eq_true h.r1, decide_eq_true h.r4]
  show List.all (t.map encR) (rowOk n) = true
  rw [List.all_eq_true]
  intro d hd
  obtain ⟨r, hr, rfl⟩ := List.mem_map.mp hd
  show (decide (1 ≤ (r.map PyData.int).length) && decide ((r.map PyData.int).length ≤ 4) && (decide ((r.map PyData.int).length = n) && (r.map PyData.int).all worthOk)) = true
  rw [List.length_map, h.row r hr, worth_all (h.bd r hr), decide_eq_true h.c1, decide_eq_true h.c4, decide_eq_true rfl]
  rfl

def R_is_whole : List Sl → Out → Prop := fun ss o => ∃ d : PyData, ss = [.im d] ∧ o = .ret (.im (.bool (wholeD d)))
def t_is_whole (K : PySem.W.Frag) : TS := (tRet (tAndV (tCB (rIsi K) (tCons (tVar 0) (tCons (tC (.ty "int")) tNil))) (tNotV (tCB (rIsi K) (tCons (tVar 0) (tCons (tC (.ty "bool")) tNil))))))
theorem len_is_whole {ss : List Sl} {o : Out} (h : R_is_whole ss o) : ss.length = 1 := by
  first | (obtain ⟨_, rfl, _⟩ := h; rfl) | (obtain ⟨_, _, rfl, _⟩ := h; rfl) | (obtain ⟨_, _, _, rfl, _⟩ := h; rfl) | (obtain ⟨_, _, _, _, rfl, _⟩ := h; rfl) | (obtain ⟨_, _, _, _, _, rfl, _⟩ := h; rfl) | (obtain ⟨_, _, _, _, _, _, rfl, _⟩ := h; rfl)
theorem b_is_whole {K : PySem.W.Frag} {E : XK} (ss : List Sl) (o : Out) (h : R_is_whole ss o) : St K E (t_is_whole K) (params ["thing"] ss) { nx := fun _ => o = .ret (.im .none), rt := fun s => o = .ret s, ex := fun c => o = .exc c } := by
  obtain ⟨d, rfl, rfl⟩ := h
  refine st_ret (s := .im (.bool (wholeD d))) (EvS.to (s := .im (.bool (isInt d && !(isBool d)))) ?_ (by cases d <;> rfl)) rfl
  walk_at "ev"
  · exact kit_int d
  · exact kit_bool d

def R_asked_table (cBadTable : Addr) : List Sl → Out → Prop := fun ss o => ∃ d : PyData, ss = [.im d] ∧ o = if tabOk d = true then .ret (.im .none) else .exc cBadTable
def t_asked_table (K : PySem.W.Frag) (cBadTable : Addr) (E : XK) : TS := (tSeq (tIfS (tOr (tNot (tB (tCB (rIsi K) (tCons (tVar 0) (tCons (tC (.ty "list")) tNil))))) (tNot (tTest (tChain (rI0 fun i j => .bl (decide (i ≤ j))) (rI0 fun i j => .bl (decide (i ≤ j))) (tC (.int 1)) (tCB (rLenU K) (tCons (tVar 0) tNil)) (tC (.int 4)))))) (tRaiseU cBadTable E) tNext)
    (tFor (iList K (tVar 0)) (gName 1) (tSeq (tIfS (tOr (tNot (tB (tCB (rIsi K) (tCons (tVar 1) (tCons (tC (.ty "list")) tNil))))) (tOr (tNot (tTest (tChain (rI0 fun i j => .bl (decide (i ≤ j))) (rI0 fun i j => .bl (decide (i ≤ j))) (tC (.int 1)) (tCB (rLenU K) (tCons (tVar 1) tNil)) (tC (.int 4))))) (tTest (tOp (rNeD K) (tCB (rLenU K) (tCons (tVar 1) tNil)) (tCB (rLenU K) (tCons (tOp (rIx K) (tVar 0) (tC (.int 0))) tNil)))))) (tRaiseU cBadTable E) tNext)
    (tIfS (tNot (tB (tCB (rAll K) (tCons (tLc (iList K (tVar 1)) (gName 2) tYes (tAndV (tCall (spR K R_is_whole) [] E0 (tCons (tVar 2) tNil)) (tChain (rI0 fun i j => .bl (decide (i ≤ j))) (rI0 fun i j => .bl (decide (i ≤ j))) (tUn (rU fun i => .int (-i)) (tC (.int 100))) (tVar 2) (tC (.int 100)))) [2]) tNil)))) (tRaiseU cBadTable E) tNext))))
theorem len_asked_table {cBadTable : Addr} {ss : List Sl} {o : Out} (h : R_asked_table cBadTable ss o) : ss.length = 1 := by
  first | (obtain ⟨_, rfl, _⟩ := h; rfl) | (obtain ⟨_, _, rfl, _⟩ := h; rfl) | (obtain ⟨_, _, _, rfl, _⟩ := h; rfl) | (obtain ⟨_, _, _, _, rfl, _⟩ := h; rfl) | (obtain ⟨_, _, _, _, _, rfl, _⟩ := h; rfl) | (obtain ⟨_, _, _, _, _, _, rfl, _⟩ := h; rfl)
theorem b_asked_table {K : PySem.W.Frag} {E : XK} {cBadTable : Addr} (ss : List Sl) (o : Out) (h : R_asked_table cBadTable ss o) : St K E (t_asked_table K cBadTable E) (params ["table", "row", "worth"] ss) { nx := fun _ => o = .ret (.im .none), rt := fun s => o = .ret s, ex := fun c => o = .exc c } := by
  obtain ⟨d, rfl, rfl⟩ := h
  have no : ∀ {b : Bool}, isLst d = false → (tabOk d = false) := fun {b} hd => by cases d <;> first | rfl | cases hd
  have isl : EvB K (tNot (tB (tCB (rIsi K) (tCons (tVar 0) (tCons (tC (.ty "list")) tNil))))) (params ["table", "row", "worth"] [.im d]) (!isLst d) := by
    walk_at "ev"
    exact kit_list d
  by_cases hl : isLst d = false
  · refine st_seq (st_if (b := true) (EvB.to (a := !isLst d || false) (eb_or isl fun z => ?_) (by rw [hl]; rfl)) (fun _ => st_raiseU ?_) (fun z => nomatch z))
    · rw [hl] at z; cases z
    · show _ = _
      rw [if_neg]
      rw [no (b := true) hl]
      decide
  obtain ⟨rows, rfl⟩ : ∃ rows, d = .list rows := by cases d <;> first | exact ⟨_, rfl⟩ | exact absurd rfl hl
  have hc : EvB K (tNot (tTest (tChain (rI0 fun i j => .bl (decide (i ≤ j))) (rI0 fun i j => .bl (decide (i ≤ j))) (tC (.int 1)) (tCB (rLenU K) (tCons (tVar 0) tNil)) (tC (.int 4))))) (params ["table", "row", "worth"] [.im (.list rows)]) (!(decide (1 ≤ rows.length) && decide (rows.length ≤ 4))) := by
    refine EvB.to (a := !(decide ((1 : Int) ≤ (rows.length : Int)) && decide ((rows.length : Int) ≤ 4))) ?_ (by rw [show (1 : Int) = ((1 : Nat) : Int) from rfl, show (4 : Int) = ((4 : Nat) : Int) from rfl, natI, natI])
    walk_at "ev"
  by_cases hb : (decide (1 ≤ rows.length) && decide (rows.length ≤ 4)) = false
  · refine st_seq (st_if (b := true) (EvB.to (a := !isLst (.list rows) || !(decide (1 ≤ rows.length) && decide (rows.length ≤ 4))) (eb_or isl fun _ => hc) (by rw [hb]; rfl)) (fun _ => st_raiseU ?_) (fun z => nomatch z))
    show _ = _
    rw [if_neg]
    rw [tabOk_list, hb, Bool.false_and]
    exact Bool.false_ne_true
  have hb' : (decide (1 ≤ rows.length) && decide (rows.length ≤ 4)) = true := by
    cases h : (decide (1 ≤ rows.length) && decide (rows.length ≤ 4)) with
    | true => rfl
    | false => exact absurd h hb
  refine st_seq (st_if (b := false) (EvB.to (a := !isLst (.list rows) || !(decide (1 ≤ rows.length) && decide (rows.length ≤ 4))) (eb_or isl fun _ => hc) (by rw [hb']; rfl)) (fun z => nomatch z) (fun _ => st_next ?_))
  have bad : ∀ {r : PyData}, r ∈ rows → rowOk (len0 rows) r = false → (if tabOk (.list rows) = true then Out.ret (.im .none) else .exc cBadTable) = .exc cBadTable := fun {r} hr hf => by
    rw [if_neg]
    rw [tabOk_list, hb', Bool.true_and]
    intro z
    have := List.all_eq_true.mp z r hr
    rw [hf] at this
    cases this
  refine st_for (vs := [1]) (xs := rows) (enc := id) ((ei_list (by walk_at "ev")).to (by simp)) (fun i G' => Le [.im (.list rows), .no, .no] G' ∧ ∀ j r, j < i → rows[j]? = some r → rowOk (len0 rows) r = true) ⟨Le.refl _, fun _ _ z => absurd z (Nat.not_lt_zero _)⟩ (fun i r G' hr hI => ?_) (fun G' hI => ?_)
  · refine ⟨_, tg_name (by decide), st_le (hI.1.set 1 (.im (id r))) ?_⟩
    show St K E _ [.im (.list rows), .im r, .no] _
    have hmem : r ∈ rows := List.mem_of_getElem? hr
    have isr : EvB K (tNot (tB (tCB (rIsi K) (tCons (tVar 1) (tCons (tC (.ty "list")) tNil))))) [.im (.list rows), .im r, .no] (!isLst r) := by
      walk_at "ev"
      exact kit_list r
    by_cases hrl : isLst r = false
    · refine st_seq (st_if (b := true) (EvB.to (a := !isLst r || false) (eb_or isr fun z => ?_) (by rw [hrl]; rfl)) (fun _ => st_raiseU (bad hmem ?_)) (fun z => nomatch z))
      · rw [hrl] at z; cases z
      · cases r <;> first | rfl | cases hrl
    obtain ⟨es, rfl⟩ : ∃ es, r = .list es := by cases r <;> first | exact ⟨_, rfl⟩ | exact absurd rfl hrl
    -- the first row
    obtain ⟨ds0, h0⟩ : ∃ ds0, rows[0]? = some (.list ds0) := by
      cases i with
      | zero => exact ⟨es, hr⟩
      | succ i =>
        have hl0 : 0 < rows.length := by
          have := (List.getElem?_eq_some_iff.mp hr).1
          omega
        have e0 : rows[0]? = some rows[0] := List.getElem?_eq_getElem hl0
        obtain ⟨r0, hr0, _⟩ := rowOk_row (hI.2 0 _ (Nat.succ_pos i) e0)
        exact ⟨_, by rw [e0, hr0]⟩
    have en : len0 rows = ds0.length := by
      cases rows with
      | nil => simp at h0
      | cons a b =>
        simp at h0
        subst h0
        rfl
    have h1 : EvB K (tNot (tTest (tChain (rI0 fun i j => .bl (decide (i ≤ j))) (rI0 fun i j => .bl (decide (i ≤ j))) (tC (.int 1)) (tCB (rLenU K) (tCons (tVar 1) tNil)) (tC (.int 4))))) [.im (.list rows), .im (.list es), .no] (!(decide (1 ≤ es.length) && decide (es.length ≤ 4))) := by
      refine EvB.to (a := !(decide ((1 : Int) ≤ (es.length : Int)) && decide ((es.length : Int) ≤ 4))) ?_ (by rw [show (1 : Int) = ((1 : Nat) : Int) from rfl, show (4 : Int) = ((4 : Nat) : Int) from rfl, natI, natI])
      walk_at "ev"
    have h2 : EvB K (tTest (tOp (rNeD K) (tCB (rLenU K) (tCons (tVar 1) tNil)) (tCB (rLenU K) (tCons (tOp (rIx K) (tVar 0) (tC (.int 0))) tNil)))) [.im (.list rows), .im (.list es), .no] (!decide (es.length = len0 rows)) := by
      refine EvB.to (a := !(PyData.eqv (.int (es.length : Nat)) (.int (ds0.length : Nat)))) ?_ (by rw [eqv_int, natE, en])
      refine eb_test (EvS.h (ev_neD ?_ ?_ (shaped_of lay_int (by decide)) (shaped_of lay_int (by decide))))
      · walk_at "ev"
      · refine EvS.h (ev_lenD (d := .list ds0) (EvS.h (ev_ix (a := .list rows) ?_ ?_ (ItemOf.nat (j := 0) h0))) .lst)
        · walk_at "ev"
        · walk_at "ev"
    have hf : ∀ x : Bool, ((decide (1 ≤ es.length) && decide (es.length ≤ 4)) = x) → ∀ y, decide (es.length = len0 rows) = y → ∀ z, es.all worthOk = z → rowOk (len0 rows) (.list es) = (x && (y && z)) := fun x hx y hy z hz => by
      rw [rowOk_list, hx, hy, hz]
    have hor := eb_or isr fun _ => eb_or h1 fun _ => h2
    cases hx : (decide (1 ≤ es.length) && decide (es.length ≤ 4)) with
    | false =>
      rw [hx] at hor
      exact st_seq (st_if hor (fun _ => st_raiseU (bad hmem (hf _ hx _ rfl _ rfl))) (fun z => nomatch z))
    | true =>
      cases hy : decide (es.length = len0 rows) with
      | false =>
        rw [hx, hy] at hor
        exact st_seq (st_if hor (fun _ => st_raiseU (bad hmem (hf _ hx _ hy _ rfl))) (fun z => nomatch z))
      | true =>
        rw [hx, hy] at hor
        refine st_seq (st_if hor (fun z => nomatch z) (fun _ => st_next ?_))
        have small : es.length ≤ 4 := by
          rw [Bool.and_eq_true] at hx
          exact of_decide_eq_true hx.2
        have lc : EvH K (tLc (iList K (tVar 1)) (gName 2) tYes (tAndV (tCall (spR K R_is_whole) [] E0 (tCons (tVar 2) tNil)) (tChain (rI0 fun i j => .bl (decide (i ≤ j))) (rI0 fun i j => .bl (decide (i ≤ j))) (tUn (rU fun i => .int (-i)) (tC (.int 100))) (tVar 2) (tC (.int 100)))) [2]) [.im (.list rows), .im (.list es), .no] (.list ((es.map worthOk).map .bool)) := by
          refine EvS.h (EvS.freeze (EvS.to (ev_lc1 (xs := es) (enc := id) (vs := [2]) ((ei_list (by walk_at "ev")).to (by simp)) (fun d => .bool (worthOk d)) (fun d => [.im (.list rows), .im (.list es), .im d]) (fun d _ => tg_name (by decide)) (fun d hd => ?_) (by omega)) (by rw [List.map_map]; rfl)))
          cases hw : wholeD d with
          | false =>
            refine Ev.to (d := .bool (wholeD d && false)) (ev_andV ?_ fun z => ?_) (by rw [hw]; cases d <;> first | rfl | cases hw)
            · walk_at "ev"
              exact ⟨_, rfl, rfl⟩
            · rw [hw] at z; cases z
          | true =>
            obtain ⟨i, rfl⟩ : ∃ i, d = .int i := by cases d <;> first | exact ⟨_, rfl⟩ | cases hw
            refine Ev.to (d := .bool (wholeD (.int i) && (decide (-100 ≤ i) && decide (i ≤ 100)))) (ev_andN ?_ ?_) rfl
            · walk_at "ev"
              exact ⟨_, rfl, rfl⟩
            · walk_at "ev"
        have hall : EvB K (tNot (tB (tCB (rAll K) (tCons (tLc (iList K (tVar 1)) (gName 2) tYes (tAndV (tCall (spR K R_is_whole) [] E0 (tCons (tVar 2) tNil)) (tChain (rI0 fun i j => .bl (decide (i ≤ j))) (rI0 fun i j => .bl (decide (i ≤ j))) (tUn (rU fun i => .int (-i)) (tC (.int 100))) (tVar 2) (tC (.int 100)))) [2]) tNil)))) [.im (.list rows), .im (.list es), .no] (!(es.all worthOk)) := by
          refine EvB.to (a := !((es.map worthOk).any (fun b => !b) |> (!·))) (eb_not (EvB.to (a := (es.map worthOk).all id) (eb_B (EvS.h (ev_all lc))) ?_)) ?_
          · simp [List.all_map, List.any_map, List.all_eq_not_any_not]
          · simp [List.any_map, List.all_eq_not_any_not, Function.comp_def]
        cases hz : es.all worthOk with
        | false =>
          rw [hz] at hall
          exact st_if hall (fun _ => st_raiseU (bad hmem (hf _ hx _ hy _ hz))) (fun z => nomatch z)
        | true =>
          rw [hz] at hall
          refine st_if hall (fun z => nomatch z) (fun _ => st_next ⟨by walk_at "le", fun j r hj hr' => ?_⟩)
          by_cases hji : j < i
          · exact hI.2 j r hji hr'
          · have e : j = i := by omega
            subst e
            rw [hr] at hr'
            cases hr'
            exact hf _ hx _ hy _ hz
  · show _ = _
    rw [if_pos]
    rw [tabOk_list, hb', Bool.true_and, List.all_eq_true]
    intro r hr
    obtain ⟨j, hj, e⟩ := List.getElem_of_mem hr
    exact hI.2 j r hj (by rw [List.getElem?_eq_getElem hj, e])
open PySem L2
/-! ### tables turned and put together -/
def acrossT (t : List (List Int)) (n : Nat) : List (List Int) := (List.range n).map fun j => t.map fun r => r.getD j 0
def negT (t : List (List Int)) : List (List Int) := t.map fun r => r.map fun x => -x
def rowsT (one other : List (List Int)) : List (List Int) := one.flatMap fun row => other.map fun second => row.flatMap fun w => second.map fun m => w + m
theorem acrossT_rect {t : List (List Int)} {n : Nat} (h : Rect t n) : Rect (acrossT t n) t.length := ⟨by unfold acrossT; rw [List.length_map, List.length_range]; exact h.c1, by unfold acrossT; rw [List.length_map, List.length_range]; exact h.c4, h.r1, h.r4, fun r hr => by
  obtain ⟨j, _, rfl⟩ := List.mem_map.mp hr
  rw [List.length_map]⟩
theorem negT_rect {t : List (List Int)} {n : Nat} (h : Rect t n) : Rect (negT t) n := ⟨by unfold negT; rw [List.length_map]; exact h.r1, by unfold negT; rw [List.length_map]; exact h.r4, h.c1, h.c4, fun r hr => by
  obtain ⟨x, hx, rfl⟩ := List.mem_map.mp hr
  rw [List.length_map]
  exact h.row x hx⟩

def R_across : List Sl → Out → Prop := fun ss o => ∃ t n, ss = [.im (encT t)] ∧ Rect t n ∧ (o = .ret (.nw (encT (acrossT t n))) ∨ o = .ret (.im (encT (acrossT t n))))
def t_across (K : PySem.W.Frag) : TS := (tRet (tLc (iRng1 (tCons (tCB (rLenU K) (tCons (tOp (rIx K) (tVar 0) (tC (.int 0))) tNil)) tNil)) (gName 1) tYes (tLc (iList K (tVar 0)) (gName 2) tYes (tOp (rIx K) (tVar 2) (tVar 1)) [2]) [1]))
theorem len_across {ss : List Sl} {o : Out} (h : R_across ss o) : ss.length = 1 := by
  first | (obtain ⟨_, rfl, _⟩ := h; rfl) | (obtain ⟨_, _, rfl, _⟩ := h; rfl) | (obtain ⟨_, _, _, rfl, _⟩ := h; rfl) | (obtain ⟨_, _, _, _, rfl, _⟩ := h; rfl) | (obtain ⟨_, _, _, _, _, rfl, _⟩ := h; rfl) | (obtain ⟨_, _, _, _, _, _, rfl, _⟩ := h; rfl)
theorem b_across {K : PySem.W.Frag} {E : XK} (ss : List Sl) (o : Out) (h : R_across ss o) : St K E (t_across K) (params ["table", "column", "row"] ss) { nx := fun _ => o = .ret (.im .none), rt := fun s => o = .ret s, ex := fun c => o = .exc c } := by
  obtain ⟨t, n, rfl, hr, ho⟩ := h
  obtain ⟨r0, t', et, hr0⟩ := hr.head
  have e0 : t[0]? = some r0 := by rw [et]; rfl
  have he : EvS K (tLc (iRng1 (tCons (tCB (rLenU K) (tCons (tOp (rIx K) (tVar 0) (tC (.int 0))) tNil)) tNil)) (gName 1) tYes (tLc (iList K (tVar 0)) (gName 2) tYes (tOp (rIx K) (tVar 2) (tVar 1)) [2]) [1]) (params ["table", "column", "row"] [.im (encT t)]) (.nw (encT (acrossT t n))) := by
    refine EvS.to (ev_lcN (xs := List.range n) (enc := fun k : Nat => .int k) (vs := [1]) (ei_range (n := n) ?_ (by have := hr.c4; omega)) (fun j => t.map fun r => r.getD j 0) (fun j => [.im (encT t), .im (.int j), .no]) (fun j _ => tg_name (by decide)) (fun j hj => ?_) (by rw [List.length_range]; have := hr.c4; omega)) (by unfold acrossT encT; rw [List.map_map]; rfl)
    · rw [← hr0]
      refine EvS.h (ev_lenD (EvS.h (ev_ix (a := encT t) ?_ ?_ (item_T (j := 0) e0))) len_R)
      · walk_at "ev"
      · walk_at "ev"
    · have hj' : j < n := List.mem_range.mp hj
      refine EvS.to (ev_lc1 (xs := t) (enc := encR) (vs := [2]) (ei_list ?_) (fun r => .int (r.getD j 0)) (fun r => [.im (encT t), .im (.int j), .im (encR r)]) (fun r _ => tg_name (by decide)) (fun r hr' => ?_) (by have := hr.r4; omega)) (by rw [map_int_map])
      · walk_at "ev"
      · refine ev_ix (a := encR r) ?_ ?_ (item_R (getD_of (by rw [hr.row r hr']; exact hj')))
        · walk_at "ev"
        · walk_at "ev"
  rcases ho with rfl | rfl
  · exact st_ret he rfl
  · exact st_ret he.freezeN rfl

def R_negated : List Sl → Out → Prop := fun ss o => ∃ t n, ss = [.im (encT t)] ∧ Rect t n ∧ (o = .ret (.nw (encT (negT t))) ∨ o = .ret (.im (encT (negT t))))
def t_negated (K : PySem.W.Frag) : TS := (tRet (tLc (iList K (tVar 0)) (gName 1) tYes (tLc (iList K (tVar 1)) (gName 2) tYes (tUn (rU fun i => .int (-i)) (tVar 2)) [2]) [1]))
theorem len_negated {ss : List Sl} {o : Out} (h : R_negated ss o) : ss.length = 1 := by
  first | (obtain ⟨_, rfl, _⟩ := h; rfl) | (obtain ⟨_, _, rfl, _⟩ := h; rfl) | (obtain ⟨_, _, _, rfl, _⟩ := h; rfl) | (obtain ⟨_, _, _, _, rfl, _⟩ := h; rfl) | (obtain ⟨_, _, _, _, _, rfl, _⟩ := h; rfl) | (obtain ⟨_, _, _, _, _, _, rfl, _⟩ := h; rfl)
theorem b_negated {K : PySem.W.Frag} {E : XK} (ss : List Sl) (o : Out) (h : R_negated ss o) : St K E (t_negated K) (params ["table", "row", "worth"] ss) { nx := fun _ => o = .ret (.im .none), rt := fun s => o = .ret s, ex := fun c => o = .exc c } := by
  obtain ⟨t, n, rfl, hr, ho⟩ := h
  have he : EvS K (tLc (iList K (tVar 0)) (gName 1) tYes (tLc (iList K (tVar 1)) (gName 2) tYes (tUn (rU fun i => .int (-i)) (tVar 2)) [2]) [1]) (params ["table", "row", "worth"] [.im (encT t)]) (.nw (encT (negT t))) := by
    refine EvS.to (ev_lcN (xs := t) (enc := encR) (vs := [1]) (ei_list ?_) (fun r => r.map fun x => -x) (fun r => [.im (encT t), .im (encR r), .no]) (fun j _ => tg_name (by decide)) (fun r hr' => ?_) (by have := hr.r4; omega)) (by unfold negT encT; rw [List.map_map]; rfl)
    · walk_at "ev"
    · refine EvS.to (ev_lc1 (xs := r) (enc := .int) (vs := [2]) (ei_list ?_) (fun x => .int (-x)) (fun x => [.im (encT t), .im (encR r), .im (.int x)]) (fun r _ => tg_name (by decide)) (fun x _ => ?_) (by have := hr.row r hr'; have := hr.c4; omega)) (by rw [map_int_map])
      · walk_at "ev"
      · walk_at "ev"
  rcases ho with rfl | rfl
  · exact st_ret he rfl
  · exact st_ret he.freezeN rfl

def turnT (t : List (List Int)) (n : Nat) : List (List Int) := negT (acrossT t n)
def R_turned (cBadTable : Addr) : List Sl → Out → Prop := fun ss o => ∃ d : PyData, ss = [.im d] ∧ ((tabOk d = false ∧ o = .exc cBadTable) ∨ ∃ t n, d = encT t ∧ Tab t n ∧ (o = .ret (.nw (encT (turnT t n))) ∨ o = .ret (.im (encT (turnT t n)))))
def t_turned (K : PySem.W.Frag) (cBadTable : Addr) (E : XK) : TS := (tSeq (tDrop (tCall (spR K (R_asked_table cBadTable)) [] E (tCons (tVar 0) tNil)))
    (tRet (tCall (spR K R_negated) [] E0 (tCons (tCall (spR K R_across) [] E0 (tCons (tVar 0) tNil)) tNil))))
theorem len_turned {cBadTable : Addr} {ss : List Sl} {o : Out} (h : R_turned cBadTable ss o) : ss.length = 1 := by
  first | (obtain ⟨_, rfl, _⟩ := h; rfl) | (obtain ⟨_, _, rfl, _⟩ := h; rfl) | (obtain ⟨_, _, _, rfl, _⟩ := h; rfl) | (obtain ⟨_, _, _, _, rfl, _⟩ := h; rfl) | (obtain ⟨_, _, _, _, _, rfl, _⟩ := h; rfl) | (obtain ⟨_, _, _, _, _, _, rfl, _⟩ := h; rfl)
theorem b_turned {K : PySem.W.Frag} {E : XK} {cBadTable : Addr} (ss : List Sl) (o : Out) (h : R_turned cBadTable ss o) : St K E (t_turned K cBadTable E) (params ["table"] ss) { nx := fun _ => o = .ret (.im .none), rt := fun s => o = .ret s, ex := fun c => o = .exc c } := by
  obtain ⟨d, rfl, ⟨hb, rfl⟩ | ⟨t, n, rfl, ht, ho⟩⟩ := h
  · exact st_seq (st_callX (ss := [.im d]) (c := cBadTable) (by walk_at "ev") ⟨d, rfl, by rw [hb]; rfl⟩ rfl)
  · refine st_seq (st_drop (s := .im .none) (by walk_at "ev"; exact ⟨_, rfl, by rw [tab_tabOk ht]; rfl⟩) ?_)
    have he : EvS K (tCall (spR K R_negated) [] E0 (tCons (tCall (spR K R_across) [] E0 (tCons (tVar 0) tNil)) tNil)) (params ["table"] [.im (encT t)]) (.nw (encT (turnT t n))) := by
      refine ev_call (ea_im (ev_call (ss := [.im (encT t)]) (s := .im (encT (acrossT t n))) (by walk_at "ev") ⟨_, _, rfl, ht.toRect, .inr rfl⟩) ea_nil) ⟨_, _, rfl, acrossT_rect ht.toRect, .inl rfl⟩
    rcases ho with rfl | rfl
    · exact st_ret he rfl
    · exact st_ret he.freezeN rfl
open PySem L2
/-! ### the greatest, the least of a list -/
def maxL : List Int → Int
  | [] => 0
  | [x] => x
  | x :: y :: r => max x (maxL (y :: r))
def minL : List Int → Int
  | [] => 0
  | [x] => x
  | x :: y :: r => min x (minL (y :: r))
theorem maxL_is : ∀ {r : List Int}, r ≠ [] → IsMax r (maxL r)
  | [], h => absurd rfl h
  | [x], _ => ⟨List.mem_cons_self, fun y hy => by
    rcases List.mem_cons.mp hy with rfl | hy
    · exact Int.le_refl _
    · cases hy⟩
  | x :: y :: r, _ => by
    have ih := maxL_is (r := y :: r) (by simp)
    refine ⟨?_, fun z hz => ?_⟩
    · show max x (maxL (y :: r)) ∈ _
      rcases Int.le_total x (maxL (y :: r)) with h | h
      · rw [Int.max_eq_right h]
        exact List.mem_cons_of_mem _ ih.1
      · rw [Int.max_eq_left h]
        exact List.mem_cons_self
    · show z ≤ max x (maxL (y :: r))
      rcases List.mem_cons.mp hz with rfl | hz
      · exact Int.le_max_left _ _
      · exact Int.le_trans (ih.2 z hz) (Int.le_max_right _ _)
theorem minL_is : ∀ {r : List Int}, r ≠ [] → IsMin r (minL r)
  | [], h => absurd rfl h
  | [x], _ => ⟨List.mem_cons_self, fun y hy => by
    rcases List.mem_cons.mp hy with rfl | hy
    · exact Int.le_refl _
    · cases hy⟩
  | x :: y :: r, _ => by
    have ih := minL_is (r := y :: r) (by simp)
    refine ⟨?_, fun z hz => ?_⟩
    · show min x (minL (y :: r)) ∈ _
      rcases Int.le_total x (minL (y :: r)) with h | h
      · rw [Int.min_eq_left h]
        exact List.mem_cons_self
      · rw [Int.min_eq_right h]
        exact List.mem_cons_of_mem _ ih.1
    · show min x (minL (y :: r)) ≤ z
      rcases List.mem_cons.mp hz with rfl | hz
      · exact Int.min_le_left _ _
      · exact Int.le_trans (Int.min_le_right _ _) (ih.2 z hz)
def comb (row second : List Int) : List Int := row.flatMap fun w => second.map fun m => w + m
theorem comb_len (row second : List Int) : (comb row second).length = row.length * second.length := by
  unfold comb
  induction row with
  | nil => simp
  | cons x r ih => rw [List.flatMap_cons, List.length_append, ih, List.length_map, List.length_cons, Nat.succ_mul, Nat.add_comm]
theorem rowsT_snoc (one other : List (List Int)) (row : List Int) : rowsT (one ++ [row]) other = rowsT one other ++ other.map (comb row) := by
  unfold rowsT
  rw [List.flatMap_append]
  simp [comb]
theorem rowsT_len (one other : List (List Int)) : (rowsT one other).length = one.length * other.length := by
  induction one with
  | nil => simp [rowsT]
  | cons x r ih =>
    have : rowsT (x :: r) other = other.map (comb x) ++ rowsT r other := by unfold rowsT; rw [List.flatMap_cons]; rfl
    rw [this, List.length_append, ih, List.length_map, List.length_cons, Nat.succ_mul, Nat.add_comm]
theorem rowsT_rect {one other : List (List Int)} {n m : Nat} (h : Rect one n) (h2 : Rect other m) (hr : one.length * other.length ≤ 4) (hc : n * m ≤ 4) : Rect (rowsT one other) (n * m) :=
  ⟨by rw [rowsT_len]; exact Nat.mul_pos h.r1 h2.r1, by rw [rowsT_len]; exact hr, Nat.mul_pos h.c1 h2.c1, hc, fun r hr => by
    unfold rowsT at hr
    obtain ⟨x, hx, hr⟩ := List.mem_flatMap.mp hr
    obtain ⟨y, hy, rfl⟩ := List.mem_map.mp hr
    have := comb_len x y
    unfold comb at this
    rw [this, h.row x hx, h2.row y hy]⟩
/-- a number beyond the bounds -/
def outside (t : List (List Int)) : Bool := decide (100 < maxL (t.map maxL)) || decide (minL (t.map minL) < -100)

def R_together (cBadTable cUnlike : Addr) : List Sl → Out → Prop := fun ss o => ∃ d e : PyData, ss = [.im d, .im e] ∧ (((tabOk d = false ∨ tabOk e = false) ∧ o = .exc cBadTable) ∨ ∃ t n u m, d = encT t ∧ e = encT u ∧ Tab t n ∧ Tab u m ∧
  (((4 < t.length * u.length ∨ 4 < n * m) ∧ o = .exc cUnlike) ∨ (t.length * u.length ≤ 4 ∧ n * m ≤ 4 ∧ ((outside (rowsT t u) = true ∧ o = .exc cUnlike) ∨ (outside (rowsT t u) = false ∧ (o = .ret (.nw (encT (rowsT t u))) ∨ o = .ret (.im (encT (rowsT t u)))))))))
def t_together (K : PySem.W.Frag) (cBadTable : Addr) (cUnlike : Addr) (E : XK) : TS := (tSeq (tDrop (tCall (spR K (R_asked_table cBadTable)) [] E (tCons (tVar 0) tNil)))
    (tSeq (tDrop (tCall (spR K (R_asked_table cBadTable)) [] E (tCons (tVar 1) tNil)))
    (tSeq (tIfS (tOr (tTest (tOp (rI0 fun i j => .bl (decide (j < i))) (tOp (rI CMulW fun i j => .int (i * j)) (tCB (rLenU K) (tCons (tVar 0) tNil)) (tCB (rLenU K) (tCons (tVar 1) tNil))) (tC (.int 4)))) (tTest (tOp (rI0 fun i j => .bl (decide (j < i))) (tOp (rI CMulW fun i j => .int (i * j)) (tCB (rLenU K) (tCons (tOp (rIx K) (tVar 0) (tC (.int 0))) tNil)) (tCB (rLenU K) (tCons (tOp (rIx K) (tVar 1) (tC (.int 0))) tNil))) (tC (.int 4))))) (tRaiseU cUnlike E) tNext)
    (tSeq (tAsg (tLst tNil) (gName 2))
    (tSeq (tFor (iList K (tVar 0)) (gName 3) (tFor (iList K (tVar 1)) (gName 4) (tSeq (tAsg (tLst tNil) (gName 5))
    (tSeq (tFor (iList K (tVar 3)) (gName 6) (tDrop (tBM K "list" rExtend (tVar 5) (tCons (tLc (iList K (tVar 4)) (gName 7) tYes (tOp (rI0 fun i j => .int (i + j)) (tVar 6) (tVar 7)) [7]) tNil))))
    (tDrop (tBM K "list" rAppend (tVar 2) (tCons (tVar 5) tNil)))))))
    (tSeq (tIfS (tOr (tTest (tOp (rI0 fun i j => .bl (decide (j < i))) (tCB (rMax K) (tCons (tLc (iList K (tVar 2)) (gName 5) tYes (tCB (rMax K) (tCons (tVar 5) tNil)) [5]) tNil)) (tC (.int 100)))) (tTest (tOp (rI0 fun i j => .bl (decide (i < j))) (tCB (rMin K) (tCons (tLc (iList K (tVar 2)) (gName 5) tYes (tCB (rMin K) (tCons (tVar 5) tNil)) [5]) tNil)) (tUn (rU fun i => .int (-i)) (tC (.int 100)))))) (tRaiseU cUnlike E) tNext)
    (tRet (tVar 2))))))))
theorem len_together {cBadTable : Addr} {cUnlike : Addr} {ss : List Sl} {o : Out} (h : R_together cBadTable cUnlike ss o) : ss.length = 2 := by
  first | (obtain ⟨_, rfl, _⟩ := h; rfl) | (obtain ⟨_, _, rfl, _⟩ := h; rfl) | (obtain ⟨_, _, _, rfl, _⟩ := h; rfl) | (obtain ⟨_, _, _, _, rfl, _⟩ := h; rfl) | (obtain ⟨_, _, _, _, _, rfl, _⟩ := h; rfl) | (obtain ⟨_, _, _, _, _, _, rfl, _⟩ := h; rfl)
theorem b_together {K : PySem.W.Frag} {E : XK} {cBadTable : Addr} {cUnlike : Addr} (ss : List Sl) (o : Out) (h : R_together cBadTable cUnlike ss o) : St K E (t_together K cBadTable cUnlike E) (params ["one", "other", "found", "row", "second", "line", "worth", "more"] ss) { nx := fun _ => o = .ret (.im .none), rt := fun s => o = .ret s, ex := fun c => o = .exc c } := by
  obtain ⟨d, e, rfl, ⟨hb, rfl⟩ | ⟨t, n, u, m, rfl, rfl, ht, hu, hcase⟩⟩ := h
  · by_cases hd : tabOk d = false
    · exact st_seq (st_callX (ss := [.im d]) (c := cBadTable) (by walk_at "ev") ⟨d, rfl, by rw [hd]; rfl⟩ rfl)
    · have he : tabOk e = false := hb.resolve_left hd
      have hd' : tabOk d = true := by cases h : tabOk d <;> first | rfl | exact absurd h hd
      refine st_seq (st_drop (s := .im .none) (by walk_at "ev"; exact ⟨_, rfl, by rw [hd']; rfl⟩) ?_)
      exact st_seq (st_callX (ss := [.im e]) (c := cBadTable) (by walk_at "ev") ⟨e, rfl, by rw [he]; rfl⟩ rfl)
  refine st_seq (st_drop (s := .im .none) (by walk_at "ev"; exact ⟨_, rfl, by rw [tab_tabOk ht]; rfl⟩) ?_)
  refine st_seq (st_drop (s := .im .none) (by walk_at "ev"; exact ⟨_, rfl, by rw [tab_tabOk hu]; rfl⟩) ?_)
  obtain ⟨r0, t', et, hr0⟩ := ht.head
  obtain ⟨s0, u', eu, hs0⟩ := hu.head
  have e0 : t[0]? = some r0 := by rw [et]; rfl
  have f0 : u[0]? = some s0 := by rw [eu]; rfl
  have hr4 := ht.r4
  have hu4 := hu.r4
  have hc4 := ht.c4
  have hd4 := hu.c4
  have htest : EvB K (tOr (tTest (tOp (rI0 fun i j => .bl (decide (j < i))) (tOp (rI CMulW fun i j => .int (i * j)) (tCB (rLenU K) (tCons (tVar 0) tNil)) (tCB (rLenU K) (tCons (tVar 1) tNil))) (tC (.int 4)))) (tTest (tOp (rI0 fun i j => .bl (decide (j < i))) (tOp (rI CMulW fun i j => .int (i * j)) (tCB (rLenU K) (tCons (tOp (rIx K) (tVar 0) (tC (.int 0))) tNil)) (tCB (rLenU K) (tCons (tOp (rIx K) (tVar 1) (tC (.int 0))) tNil))) (tC (.int 4)))))
      (params ["one", "other", "found", "row", "second", "line", "worth", "more"] [.im (encT t), .im (encT u)]) (decide ((4 : Int) < (t.length : Int) * (u.length : Int)) || decide ((4 : Int) < (n : Int) * (m : Int))) := by
    refine eb_orN (eb_test (EvS.h (ev_I0 (EvS.h (ev_I ?_ ?_ (.int _) (cm (by omega) (by omega)))) ?_ (.bl _)))) (eb_test (EvS.h (ev_I0 (EvS.h (ev_I (i := (n : Int)) (j := (m : Int)) ?_ ?_ (.int _) (cm (by omega) (by omega)))) ?_ (.bl _))))
    · walk_at "ev"
    · walk_at "ev"
    · walk_at "ev"
    · rw [← hr0]
      refine EvS.h (ev_lenD (EvS.h (ev_ix (a := encT t) ?_ ?_ (item_T (j := 0) e0))) len_R)
      · walk_at "ev"
      · walk_at "ev"
    · rw [← hs0]
      refine EvS.h (ev_lenD (EvS.h (ev_ix (a := encT u) ?_ ?_ (item_T (j := 0) f0))) len_R)
      · walk_at "ev"
      · walk_at "ev"
    · walk_at "ev"
  have big : ∀ {a b : Nat}, ((4 : Int) < (a : Int) * (b : Int)) ↔ 4 < a * b := fun {a b} => by
    rw [← Int.natCast_mul]
    omega
  rcases hcase with ⟨hm, rfl⟩ | ⟨h1, h2, hcase⟩
  · refine st_seq (st_if (b := true) (htest.to ?_) (fun _ => st_raiseU rfl) (fun z => nomatch z))
    rw [Bool.or_eq_true, decide_eq_true_eq, decide_eq_true_eq, big, big]
    exact hm
  refine st_seq (st_if (b := false) (htest.to ?_) (fun z => nomatch z) (fun _ => st_next ?_))
  · rw [Bool.or_eq_false_iff, decide_eq_false_iff_not, decide_eq_false_iff_not, big, big]
    omega
  refine st_seq (st_asg (s := .ow []) (by walk_at "ev") ?_)
  refine st_toNl 2 rfl ?_
  have nodup : ∀ x : Nat, True := fun _ => trivial
  refine st_seq (st_forG (vs := [3]) (xs := t) (enc := encR) (ei_list (by walk_at "ev")) (fun i => [.im (encT t), .im (encT u), .nl ((rowsT (t.take i) u).map encR), .no, .no, .no, .no, .no]) (Le.refl _) (fun i row hrow => ?_) (fun G' hle => ?_))
  · refine ⟨_, tg_name (by decide), ?_⟩
    have hrl : row.length = n := ht.toRect.get hrow
    refine st_forG (vs := [4]) (xs := u) (enc := encR) (ei_list (by walk_at "ev")) (fun j => [.im (encT t), .im (encT u), .nl ((rowsT (t.take i) u ++ (u.take j).map (comb row)).map encR), .im (encR row), .no, .no, .no, .no]) ?_ (fun j second hsec => ?_) (fun G' hle => ?_)
    · rw [List.take_zero, List.map_nil, List.append_nil]
      exact Le.refl _
    · refine ⟨_, tg_name (by decide), ?_⟩
      have hsl : second.length = m := hu.toRect.get hsec
      refine st_seq (st_asg (s := .ow []) (by walk_at "ev") ?_)
      refine st_seq (st_forG (vs := [6]) (xs := row) (enc := .int) (ei_list (by walk_at "ev")) (fun k => [.im (encT t), .im (encT u), .nl ((rowsT (t.take i) u ++ (u.take j).map (comb row)).map encR), .im (encR row), .im (encR second), .ow ((comb (row.take k) second).map .int), .no, .no]) (Le.refl _) (fun k w hw => ?_) (fun G2 hle2 => ?_))
      · refine ⟨_, tg_name (by decide), ?_⟩
        have hk : k < row.length := (List.getElem?_eq_some_iff.mp hw).1
        refine st_ext (ds := (comb (row.take k) second).map .int) (es := second.map fun x => .int (w + x)) rfl ?_ ?_ ?_
        · refine ev_lc1 (xs := second) (enc := .int) (vs := [7]) (ei_list ?_) (fun x => .int (w + x)) (fun x => [.im (encT t), .im (encT u), .nl ((rowsT (t.take i) u ++ (u.take j).map (comb row)).map encR), .im (encR row), .im (encR second), .ow ((comb (row.take k) second).map .int), .im (.int w), .im (.int x)]) (fun x _ => tg_name (by decide)) (fun x _ => ?_) (by omega)
          · walk_at "ev"
          · walk_at "ev"
        · rw [List.length_map, List.length_map, comb_len, List.length_take]
          have : min k row.length * second.length ≤ 4 * 4 := Nat.mul_le_mul (by omega) (by omega)
          omega
        · have e : (comb (row.take (k + 1)) second).map PyData.int = (comb (row.take k) second).map .int ++ second.map fun x => .int (w + x) := by
            rw [take_snoc hw]
            unfold comb
            rw [List.flatMap_append, List.map_append]
            simp
          rw [e]
          walk_at "le"
      · rw [List.take_length] at hle2
        refine st_le hle2 (st_appNl (j := 2) (k := 5) (ds := (rowsT (t.take i) u ++ (u.take j).map (comb row)).map encR) (ns := comb row second) (by decide) rfl rfl ?_ ?_)
        · rw [List.length_map, List.length_append, rowsT_len, List.length_map, List.length_take, List.length_take]
          have : min i t.length * u.length ≤ 4 * 4 := Nat.mul_le_mul (by omega) (by omega)
          omega
        · have e : (rowsT (t.take i) u ++ (u.take (j + 1)).map (comb row)).map encR = (rowsT (t.take i) u ++ (u.take j).map (comb row)).map encR ++ [encR (comb row second)] := by
            rw [take_snoc hsec]
            simp only [List.map_append, List.append_assoc, List.map_cons, List.map_nil]
          rw [e]
          walk_at "le"
    · rw [List.take_length] at hle
      have e : (rowsT (t.take (i + 1)) u).map encR = (rowsT (t.take i) u ++ u.map (comb row)).map encR := by rw [take_snoc hrow, rowsT_snoc]
      rw [e]
      refine Le.trans ?_ hle
      walk_at "le"
  rw [List.take_length] at hle
  have rect := rowsT_rect ht.toRect hu.toRect h1 h2
  refine st_le hle ?_
  generalize rowsT t u = f at *
  have fne : f ≠ [] := fun z => by rw [z] at rect; exact absurd rect.r1 (by decide)
  have rne : ∀ r ∈ f, r ≠ [] := fun r hr z => by
    have := rect.row r hr
    have := rect.c1
    rw [z] at *
    simp at *
    omega
  have ht2 : EvB K (tOr (tTest (tOp (rI0 fun i j => .bl (decide (j < i))) (tCB (rMax K) (tCons (tLc (iList K (tVar 2)) (gName 5) tYes (tCB (rMax K) (tCons (tVar 5) tNil)) [5]) tNil)) (tC (.int 100)))) (tTest (tOp (rI0 fun i j => .bl (decide (i < j))) (tCB (rMin K) (tCons (tLc (iList K (tVar 2)) (gName 5) tYes (tCB (rMin K) (tCons (tVar 5) tNil)) [5]) tNil)) (tUn (rU fun i => .int (-i)) (tC (.int 100))))))
      [.im (encT t), .im (encT u), .nl (f.map encR), .no, .no, .no, .no, .no] (outside f) := by
    refine eb_borrow ?_
    show EvB K _ [.im (encT t), .im (encT u), .im (encT f), .no, .no, .no, .no, .no] _
    unfold outside
    refine eb_orN (eb_test (EvS.h (ev_I0 (EvS.h (ev_max (ns := f.map maxL) (EvS.h (EvS.freeze (EvS.to (ev_lc1 (xs := f) (enc := encR) (vs := [5]) (ei_list (ev_var rfl)) (fun r => .int (maxL r)) (fun r => [.im (encT t), .im (encT u), .im (encT f), .no, .no, .im (encR r), .no, .no]) (fun r _ => tg_name (by decide)) (fun r hr => ev_max (ns := r) (EvS.h (ev_var rfl)) (maxL_is (rne r hr))) (by have := rect.r4; omega)) (by rw [map_int_map])))) (maxL_is (by simpa using fne)))) ?_ (.bl _))))
      (eb_test (EvS.h (ev_I0 (EvS.h (ev_min (ns := f.map minL) (EvS.h (EvS.freeze (EvS.to (ev_lc1 (xs := f) (enc := encR) (vs := [5]) (ei_list (ev_var rfl)) (fun r => .int (minL r)) (fun r => [.im (encT t), .im (encT u), .im (encT f), .no, .no, .im (encR r), .no, .no]) (fun r _ => tg_name (by decide)) (fun r hr => ev_min (ns := r) (EvS.h (ev_var rfl)) (minL_is (rne r hr))) (by have := rect.r4; omega)) (by rw [map_int_map])))) (minL_is (by simpa using fne)))) ?_ (.bl _))))
    · walk_at "ev"
    · walk_at "ev"
  rcases hcase with ⟨ho, rfl⟩ | ⟨ho, hcase⟩
  · rw [ho] at ht2
    exact st_seq (st_if ht2 (fun _ => st_raiseU rfl) (fun z => nomatch z))
  rw [ho] at ht2
  refine st_seq (st_if ht2 (fun z => nomatch z) (fun _ => st_next ?_))
  rcases hcase with rfl | rfl
  · exact st_retNl rfl rfl
  · exact st_freezeNl 2 rfl (st_ret (by walk_at "ev") rfl)
open PySem L2
/-! ### the laws' tables -/
theorem item_menuN {ds : List PyData} {i : Int} (ns : List Nat) (h : ds = ns.map fun n : Nat => PyData.int n) (h0 : 0 ≤ i) (h1 : i < ns.length) : ItemOf (.tuple ds) i (.int (ns.getD i.toNat 0 : Nat)) := by
  subst h
  refine .tup ?_
  obtain ⟨k, rfl⟩ : ∃ k : Nat, i = k := ⟨i.toNat, by omega⟩
  have hk : k < ns.length := by omega
  refine atI_map ?_
  rw [Int.toNat_natCast, List.getElem?_eq_getElem hk, List.getD_eq_getElem?_getD, List.getElem?_eq_getElem hk]
  rfl
theorem getD_all {α : Type} {P : α → Prop} {d : α} {xs : List α} {k : Nat} (h : ∀ x ∈ xs, P x) (hk : k < xs.length) : P (xs.getD k d) := by
  rw [List.getD_eq_getElem?_getD, List.getElem?_eq_getElem hk]
  exact h _ (List.getElem_mem hk)
def shR (c : Int) : Nat := ([2, 3, 1, 3, 2, 4, 3, 2] : List Nat).getD (c % 8).toNat 0
def shC (c : Int) : Nat := ([3, 2, 3, 1, 2, 4, 2, 3] : List Nat).getD (c / 8 % 8).toNat 0
theorem shR_bd (c : Int) : 1 ≤ shR c ∧ shR c ≤ 4 := getD_all (P := fun n => 1 ≤ n ∧ n ≤ 4) (by decide) (by have := Int.emod_nonneg c (show (8 : Int) ≠ 0 by decide); have := Int.emod_lt_of_pos c (show (0 : Int) < 8 by decide); show _ < 8; omega)
theorem shC_bd (c : Int) : 1 ≤ shC c ∧ shC c ≤ 4 := getD_all (P := fun n => 1 ≤ n ∧ n ≤ 4) (by decide) (by have := Int.emod_nonneg (c / 8) (show (8 : Int) ≠ 0 by decide); have := Int.emod_lt_of_pos (c / 8) (show (0 : Int) < 8 by decide); show _ < 8; omega)
/-- how big the numbers may be -/
def tbM (cell : Int) : Int := ([2, 5, 9, 98] : List Int).getD (draw cell 1 4).toNat 0
theorem tbM_bd (cell : Int) : 2 ≤ tbM cell ∧ tbM cell ≤ 98 := by
  have h := draw_bd cell 1 (m := 4) (by decide)
  exact getD_all (P := fun n : Int => 2 ≤ n ∧ n ≤ 98) (by decide) (by show _ < 4; omega)
def tbC (cell : Int) (i k : Nat) : Int := draw (cell + 31 * (i : Int) + 7 * (k : Int)) 2 (2 * tbM cell + 1) - tbM cell
def tbRow (cell : Int) (c i : Nat) : List Int := (List.range c).map fun k => tbC cell i k
def tb0 (cell : Int) (r c : Nat) : List (List Int) := (List.range r).map fun i => tbRow cell c i
def rot (l : List Int) (k : Nat) : List Int := l.drop k ++ l.take k
def tb1 (cell : Int) (r c : Nat) : List (List Int) := (List.range r).map fun i => rot (tbRow cell c 0) (i % c)
def tbMid (cell : Int) (c : Nat) : List Int := List.zipWith (fun a b => (a + b) / 2 - (draw cell 4 3 - 1)) (tbRow cell c 0) (tbRow cell c 1)
def lawTable (cell : Int) (r c : Nat) : List (List Int) :=
  if draw cell 3 5 = 1 then tb1 cell r c else if draw cell 3 5 = 2 ∧ 2 < r then (tb0 cell r c).set 2 (tbMid cell c) else tb0 cell r c
theorem tbC_bd (cell : Int) (i k : Nat) : -98 ≤ tbC cell i k ∧ tbC cell i k ≤ 98 := by
  have h := tbM_bd cell
  have := draw_bd (cell + 31 * (i : Int) + 7 * (k : Int)) 2 (m := 2 * tbM cell + 1) (by omega)
  unfold tbC
  omega
theorem tbRow_len (cell : Int) (c i : Nat) : (tbRow cell c i).length = c := by unfold tbRow; rw [List.length_map, List.length_range]
theorem tbRow_bd (cell : Int) (c i : Nat) : ∀ x ∈ tbRow cell c i, -98 ≤ x ∧ x ≤ 98 := fun x hx => by
  unfold tbRow at hx
  obtain ⟨k, _, rfl⟩ := List.mem_map.mp hx
  exact tbC_bd _ _ _
theorem rot_len (l : List Int) (k : Nat) : (rot l k).length = l.length := by unfold rot; rw [List.length_append, List.length_drop, List.length_take]; omega
theorem rot_mem {l : List Int} {k : Nat} {x : Int} (h : x ∈ rot l k) : x ∈ l := by
  unfold rot at h
  rcases List.mem_append.mp h with h | h
  · exact List.mem_of_mem_drop h
  · exact List.mem_of_mem_take h
theorem zipD {α β γ : Type} (f : α → β → γ) (xs : List α) (ys : List β) : (xs.zip ys).map (fun p => f p.1 p.2) = List.zipWith f xs ys := by
  rw [List.zip, List.map_zipWith]
theorem lawTable_tab (cell : Int) {r c : Nat} (hr : 1 ≤ r ∧ r ≤ 4) (hc : 1 ≤ c ∧ c ≤ 4) : Tab (lawTable cell r c) c ∧ (lawTable cell r c).length = r := by
  have h0l : (tb0 cell r c).length = r := by unfold tb0; rw [List.length_map, List.length_range]
  have h1l : (tb1 cell r c).length = r := by unfold tb1; rw [List.length_map, List.length_range]
  have row0 : ∀ x ∈ tb0 cell r c, x.length = c ∧ ∀ y ∈ x, -100 ≤ y ∧ y ≤ 100 := fun x hx => by
    unfold tb0 at hx
    obtain ⟨i, _, rfl⟩ := List.mem_map.mp hx
    exact ⟨tbRow_len _ _ _, fun y hy => by have := tbRow_bd _ _ _ y hy; omega⟩
  have row1 : ∀ x ∈ tb1 cell r c, x.length = c ∧ ∀ y ∈ x, -100 ≤ y ∧ y ≤ 100 := fun x hx => by
    unfold tb1 at hx
    obtain ⟨i, _, rfl⟩ := List.mem_map.mp hx
    exact ⟨by rw [rot_len, tbRow_len], fun y hy => by have := tbRow_bd _ _ _ y (rot_mem hy); omega⟩
  have mid : (tbMid cell c).length = c ∧ ∀ y ∈ tbMid cell c, -100 ≤ y ∧ y ≤ 100 := by
    refine ⟨by unfold tbMid; rw [List.length_zipWith, tbRow_len, tbRow_len]; omega, fun y hy => ?_⟩
    unfold tbMid at hy
    rw [← zipD] at hy
    obtain ⟨p, hp, rfl⟩ := List.mem_map.mp hy
    have hp' := List.of_mem_zip (a := p.1) (b := p.2) hp
    have a := tbRow_bd _ _ _ _ hp'.1
    have b := tbRow_bd _ _ _ _ hp'.2
    have d := draw_bd cell 4 (m := 3) (by decide)
    omega
  unfold lawTable
  split
  · exact ⟨⟨⟨by omega, by omega, hc.1, hc.2, fun x hx => (row1 x hx).1⟩, fun x hx => (row1 x hx).2⟩, h1l⟩
  · split
    · have key : ∀ x ∈ (tb0 cell r c).set 2 (tbMid cell c), x.length = c ∧ ∀ y ∈ x, -100 ≤ y ∧ y ≤ 100 := fun x hx => by
        rcases List.mem_or_eq_of_mem_set hx with h | rfl
        · exact row0 x h
        · exact mid
      exact ⟨⟨⟨by rw [List.length_set]; omega, by rw [List.length_set]; omega, hc.1, hc.2, fun x hx => (key x hx).1⟩, fun x hx => (key x hx).2⟩, by rw [List.length_set]; exact h0l⟩
    · exact ⟨⟨⟨by omega, by omega, hc.1, hc.2, fun x hx => (row0 x hx).1⟩, fun x hx => (row0 x hx).2⟩, h0l⟩
theorem zip_pairD {α β : Type} (e : α → PyData) (f : β → PyData) (xs : List α) (ys : List β) : ((xs.map e).zip (ys.map f)).map pairD = (xs.zip ys).map fun p : α × β => .tuple [e p.1, f p.2] := by
  rw [List.zip_map, List.map_map]
  rfl
theorem cutD_drop (l : List Int) {k : Nat} (h : k ≤ l.length) : cutD (l.map .int) (some (k : Int)) none = (l.drop k).map .int := by
  unfold cutD
  rw [List.length_map, HT.sIx_nat, HT.sIx_none, Nat.min_eq_left h, ← List.map_drop, ← List.map_take, List.take_of_length_le (by rw [List.length_drop]; exact Nat.le_refl _)]
theorem cutD_take (l : List Int) {k : Nat} (h : k ≤ l.length) : cutD (l.map .int) none (some (k : Int)) = (l.take k).map .int := by
  unfold cutD
  rw [List.length_map, HT.sIx_nat, HT.sIx_none, Nat.min_eq_left h, List.drop_zero, Nat.sub_zero, ← List.map_take]

def R_law_shape : List Sl → Out → Prop := fun ss o => ∃ (c : Int), ss = [.im (.int c)] ∧ o = .ret (.im (.tuple [.int (shR c : Nat), .int (shC c : Nat)]))
def t_law_shape (K : PySem.W.Frag) : TS := (tRet (tTup (tCons (tOp (rIx K) (tTup (tCons (tC (.int 2)) (tCons (tC (.int 3)) (tCons (tC (.int 1)) (tCons (tC (.int 3)) (tCons (tC (.int 2)) (tCons (tC (.int 4)) (tCons (tC (.int 3)) (tCons (tC (.int 2)) tNil))))))))) (tOp (rI (fun _ j => 0 < j) fun i j => .int (i % j)) (tVar 0) (tC (.int 8)))) (tCons (tOp (rIx K) (tTup (tCons (tC (.int 3)) (tCons (tC (.int 2)) (tCons (tC (.int 3)) (tCons (tC (.int 1)) (tCons (tC (.int 2)) (tCons (tC (.int 4)) (tCons (tC (.int 2)) (tCons (tC (.int 3)) tNil))))))))) (tOp (rI (fun _ j => 0 < j) fun i j => .int (i % j)) (tOp (rI CDivW fun i j => .int (i / j)) (tVar 0) (tC (.int 8))) (tC (.int 8)))) tNil))))
theorem len_law_shape {ss : List Sl} {o : Out} (h : R_law_shape ss o) : ss.length = 1 := by
  first | (obtain ⟨_, rfl, _⟩ := h; rfl) | (obtain ⟨_, _, rfl, _⟩ := h; rfl) | (obtain ⟨_, _, _, rfl, _⟩ := h; rfl) | (obtain ⟨_, _, _, _, rfl, _⟩ := h; rfl) | (obtain ⟨_, _, _, _, _, rfl, _⟩ := h; rfl) | (obtain ⟨_, _, _, _, _, _, rfl, _⟩ := h; rfl)
theorem b_law_shape {K : PySem.W.Frag} {E : XK} (ss : List Sl) (o : Out) (h : R_law_shape ss o) : St K E (t_law_shape K) (params ["_law_cell"] ss) { nx := fun _ => o = .ret (.im .none), rt := fun s => o = .ret s, ex := fun c => o = .exc c } := by
  obtain ⟨c, rfl, rfl⟩ := h
  have h1 := Int.emod_nonneg c (show (8 : Int) ≠ 0 by decide)
  have h2 := Int.emod_lt_of_pos c (show (0 : Int) < 8 by decide)
  have h3 := Int.emod_nonneg (c / 8) (show (8 : Int) ≠ 0 by decide)
  have h4 := Int.emod_lt_of_pos (c / 8) (show (0 : Int) < 8 by decide)
  refine st_ret (s := .im (.tuple [.int (shR c : Nat), .int (shC c : Nat)])) ?_ rfl
  walk_at "ev"
  · decide
  · exact item_menuN [2, 3, 1, 3, 2, 4, 3, 2] rfl h1 h2
  · exact Sm.cdiv (by decide) (sm64 (by decide) (by decide)) (by decide)
  · decide
  · exact item_menuN [3, 2, 3, 1, 2, 4, 2, 3] rfl h3 h4

def R_law_table : List Sl → Out → Prop := fun ss o => ∃ (cell : Int) (r c : Nat), ss = [.im (.int cell), .im (.int r), .im (.int c)] ∧ (1 ≤ r ∧ r ≤ 4) ∧ (1 ≤ c ∧ c ≤ 4) ∧ (o = .ret (.ow ((lawTable cell r c).map encR)) ∨ o = .ret (.im (encT (lawTable cell r c))))
def t_law_table (K : PySem.W.Frag) : TS := (tSeq (tAsg (tOp (rIx K) (tTup (tCons (tC (.int 2)) (tCons (tC (.int 5)) (tCons (tC (.int 9)) (tCons (tC (.int 98)) tNil))))) (tCall (spR K R_law_draw) [] E0 (tCons (tVar 0) (tCons (tC (.int 1)) (tCons (tC (.int 4)) tNil))))) (gName 3))
    (tSeq (tAsg (tLst tNil) (gName 4))
    (tSeq (tFor (iRng1 (tCons (tVar 1) tNil)) (gName 5) (tDrop (tBM K "list" rAppend (tVar 4) (tCons (tLc (iRng1 (tCons (tVar 2) tNil)) (gName 8) tYes (tOp (rI0 fun i j => .int (i - j)) (tCall (spR K R_law_draw) [] E0 (tCons (tOp (rI0 fun i j => .int (i + j)) (tOp (rI0 fun i j => .int (i + j)) (tVar 0) (tOp (rI CMulW fun i j => .int (i * j)) (tC (.int 31)) (tVar 5))) (tOp (rI CMulW fun i j => .int (i * j)) (tC (.int 7)) (tVar 8))) (tCons (tC (.int 2)) (tCons (tOp (rI0 fun i j => .int (i + j)) (tOp (rI CMulW fun i j => .int (i * j)) (tC (.int 2)) (tVar 3)) (tC (.int 1))) tNil)))) (tVar 3)) [8]) tNil))))
    (tSeq (tAsg (tCall (spR K R_law_draw) [] E0 (tCons (tVar 0) (tCons (tC (.int 3)) (tCons (tC (.int 5)) tNil)))) (gName 6))
    (tSeq (tIfS (tTest (tOp (rEqD K) (tVar 6) (tC (.int 1)))) (tAsg (tLc (iRng1 (tCons (tVar 1) tNil)) (gName 5) tYes (tOp rCat (tSl (rSlL K) (tOp (rIx K) (tVar 4) (tC (.int 0))) (tPart (tOp (rI (fun _ j => 0 < j) fun i j => .int (i % j)) (tVar 5) (tVar 2))) tNoPart) (tSl (rSlL K) (tOp (rIx K) (tVar 4) (tC (.int 0))) tNoPart (tPart (tOp (rI (fun _ j => 0 < j) fun i j => .int (i % j)) (tVar 5) (tVar 2))))) [5]) (gName 4)) tNext)
    (tSeq (tIfS (tAnd (tTest (tOp (rEqD K) (tVar 6) (tC (.int 2)))) (tTest (tOp (rI0 fun i j => .bl (decide (j < i))) (tVar 1) (tC (.int 2))))) (tSeq (tAsg (tOp (rI0 fun i j => .int (i - j)) (tCall (spR K R_law_draw) [] E0 (tCons (tVar 0) (tCons (tC (.int 4)) (tCons (tC (.int 3)) tNil)))) (tC (.int 1))) (gName 7))
    (tAsg (tLc (iZip K (tCons (tOp (rIx K) (tVar 4) (tC (.int 0))) (tCons (tOp (rIx K) (tVar 4) (tC (.int 1))) tNil))) (gTup K 2 (gCons (gName 9) (gCons (gName 10) gNil))) tYes (tOp (rI0 fun i j => .int (i - j)) (tOp (rI CDivW fun i j => .int (i / j)) (tOp (rI0 fun i j => .int (i + j)) (tVar 9) (tVar 10)) (tC (.int 2))) (tVar 7)) [9, 10]) (gSub (tVar 4) (tC (.int 2)) rSetL))) tNext)
    (tRet (tVar 4))))))))
theorem len_law_table {ss : List Sl} {o : Out} (h : R_law_table ss o) : ss.length = 3 := by
  first | (obtain ⟨_, rfl, _⟩ := h; rfl) | (obtain ⟨_, _, rfl, _⟩ := h; rfl) | (obtain ⟨_, _, _, rfl, _⟩ := h; rfl) | (obtain ⟨_, _, _, _, rfl, _⟩ := h; rfl) | (obtain ⟨_, _, _, _, _, rfl, _⟩ := h; rfl) | (obtain ⟨_, _, _, _, _, _, rfl, _⟩ := h; rfl)
theorem b_law_table {K : PySem.W.Frag} {E : XK} (ss : List Sl) (o : Out) (h : R_law_table ss o) : St K E (t_law_table K) (params ["_law_cell", "_law_rows", "_law_columns", "_law_most", "_law_found", "_law_row", "_law_kind", "_law_less_here", "_law_k", "_law_one", "_law_two"] ss) { nx := fun _ => o = .ret (.im .none), rt := fun s => o = .ret s, ex := fun c => o = .exc c } := by
  obtain ⟨cell, r, c, rfl, hr, hc, ho⟩ := h
  have hm := tbM_bd cell
  have d1 := draw_bd cell 1 (m := 4) (by decide)
  refine st_seq (st_asg (s := .im (.int (tbM cell))) ?_ ?_)
  · unfold tbM
    walk_at "ev"
    · exact ⟨_, _, _, rfl, by decide, by decide, rfl⟩
    · exact item_menu [2, 5, 9, 98] rfl d1.1 d1.2
  refine st_seq (st_asg (s := .ow []) (by walk_at "ev") ?_)
  refine st_seq (st_forG (vs := [5]) (xs := List.range r) (enc := fun k : Nat => .int k) (ei_range (n := r) (by walk_at "ev") (by omega)) (fun i => [.im (.int cell), .im (.int r), .im (.int c), .im (.int (tbM cell)), .ow ((tb0 cell i c).map encR), .no, .no, .no, .no, .no, .no]) (Le.refl _) (fun i k hk => ?_) (fun G' hle => ?_))
  · obtain ⟨hi, hk⟩ := List.getElem?_eq_some_iff.mp hk
    rw [List.getElem_range] at hk
    subst hk
    rw [List.length_range] at hi
    refine ⟨_, tg_name (by decide), ?_⟩
    refine st_app (ds := (tb0 cell i c).map encR) (d := encR (tbRow cell c i)) rfl (EvS.freeze ?_) (by unfold tb0; rw [List.length_map, List.length_map, List.length_range]; omega) ?_
    · refine EvS.to (ev_lc1 (xs := List.range c) (enc := fun k : Nat => .int k) (vs := [8]) (ei_range (n := c) (by walk_at "ev") (by omega)) (fun k => .int (tbC cell i k)) (fun k => [.im (.int cell), .im (.int r), .im (.int c), .im (.int (tbM cell)), .ow ((tb0 cell i c).map encR), .im (.int i), .no, .no, .im (.int k), .no, .no]) (fun k _ => tg_name (by decide)) (fun k hk => ?_) (by rw [List.length_range]; omega)) (by rw [map_int_map]; rfl)
      have hk' := List.mem_range.mp hk
      unfold tbC
      walk_at "ev"
      · exact cm (by omega) (by omega)
      · exact cm (by omega) (by omega)
      · exact cm (by omega) (by omega)
      · exact ⟨_, _, _, rfl, by decide, by omega, rfl⟩
    · have e : (tb0 cell (i + 1) c).map encR = (tb0 cell i c).map encR ++ [encR (tbRow cell c i)] := by
        unfold tb0
        rw [List.range_succ, List.map_append, List.map_append]
        rfl
      rw [e]
      walk_at "le"
  rw [List.length_range] at hle
  refine st_le hle ?_
  refine st_seq (st_asg (s := .im (.int (draw cell 3 5))) (by walk_at "ev"; exact ⟨_, _, _, rfl, by decide, by decide, rfl⟩) ?_)
  have row0 : (tb0 cell r c)[0]? = some (tbRow cell c 0) := by
    unfold tb0
    rw [List.getElem?_map, List.getElem?_range (by omega)]
    rfl
  have item0 : atI ((tb0 cell r c).map encR) 0 = some (encR (tbRow cell c 0)) := atI_map (j := 0) row0
  have t1 : EvB K (tTest (tOp (rEqD K) (tVar 6) (tC (.int 1)))) [.im (.int cell), .im (.int r), .im (.int c), .im (.int (tbM cell)), .ow ((tb0 cell r c).map encR), .no, .im (.int (draw cell 3 5)), .no, .no, .no, .no] (decide (draw cell 3 5 = 1)) := by
    refine EvB.to (a := PyData.eqv (.int (draw cell 3 5)) (.int 1)) ?_ eqv_int
    walk_at "ev"
  -- what is found behind the first if
  refine st_seq (St.imp (D := { nx := fun G' => Le [.im (.int cell), .im (.int r), .im (.int c), .im (.int (tbM cell)), .ow ((if draw cell 3 5 = 1 then tb1 cell r c else tb0 cell r c).map encR), .no, .im (.int (draw cell 3 5)), .no, .no, .no, .no] G' }) (st_if t1 (fun hb => ?_) (fun hb => ?_)) (fun G' hle => ?_) (fun _ z => z.elim) (fun _ z => z.elim) (fun _ z => z.elim) (fun _ z => z.elim))
  · rw [if_pos (of_decide_eq_true hb)]
    refine st_freeze 4 rfl (st_asg (s := .ow ((tb1 cell r c).map encR)) ?_ (by walk_at "le"))
    refine EvS.to (ev_lc1 (xs := List.range r) (enc := fun k : Nat => .int k) (vs := [5]) (ei_range (n := r) (by walk_at "ev") (by omega)) (fun i => encR (rot (tbRow cell c 0) (i % c))) (fun i => [.im (.int cell), .im (.int r), .im (.int c), .im (.int (tbM cell)), .im (encT (tb0 cell r c)), .im (.int i), .im (.int (draw cell 3 5)), .no, .no, .no, .no]) (fun k _ => tg_name (by decide)) (fun i hi => ?_) (by rw [List.length_range]; omega)) (by unfold tb1; rw [List.map_map]; rfl)
    have hm : i % c ≤ (tbRow cell c 0).length := by
      rw [tbRow_len]
      exact Nat.le_of_lt (Nat.mod_lt _ (by omega))
    have ev0 : Ev K (tOp (rIx K) (tVar 4) (tC (.int 0))) [.im (.int cell), .im (.int r), .im (.int c), .im (.int (tbM cell)), .im (encT (tb0 cell r c)), .im (.int i), .im (.int (draw cell 3 5)), .no, .no, .no, .no] (encR (tbRow cell c 0)) := by
      refine ev_ix (a := encT (tb0 cell r c)) ?_ ?_ (item_T (j := 0) row0)
      · walk_at "ev"
      · walk_at "ev"
    have evm : EvH K (tOp (rI (fun _ j => 0 < j) fun i j => .int (i % j)) (tVar 5) (tVar 2)) [.im (.int cell), .im (.int r), .im (.int c), .im (.int (tbM cell)), .im (encT (tb0 cell r c)), .im (.int i), .im (.int (draw cell 3 5)), .no, .no, .no, .no] (.int ((i % c : Nat) : Int)) := by
      rw [Int.natCast_emod]
      walk_at "ev"
      omega
    refine EvS.freeze (EvS.to (ev_cat (ev_slL ev0 (eo_some evm) eo_none) (ev_slL ev0 eo_none (eo_some evm)) ?_) ?_)
    · rw [cutD_drop _ hm, cutD_take _ hm, List.length_map, List.length_map, List.length_drop, List.length_take, tbRow_len]
      omega
    · rw [cutD_drop _ hm, cutD_take _ hm, ← List.map_append]
      rfl
  · rw [if_neg (of_decide_eq_false hb)]
    exact st_next (by walk_at "le")
  refine st_le hle ?_
  have t2 : EvB K (tAnd (tTest (tOp (rEqD K) (tVar 6) (tC (.int 2)))) (tTest (tOp (rI0 fun i j => .bl (decide (j < i))) (tVar 1) (tC (.int 2))))) [.im (.int cell), .im (.int r), .im (.int c), .im (.int (tbM cell)), .ow ((if draw cell 3 5 = 1 then tb1 cell r c else tb0 cell r c).map encR), .no, .im (.int (draw cell 3 5)), .no, .no, .no, .no] (decide (draw cell 3 5 = 2) && decide ((2 : Int) < r)) := by
    refine EvB.to (a := PyData.eqv (.int (draw cell 3 5)) (.int 2) && decide ((2 : Int) < r)) ?_ (by rw [eqv_int])
    walk_at "ev"
  refine st_seq (St.imp (D := { nx := fun G' => Le [.im (.int cell), .im (.int r), .im (.int c), .im (.int (tbM cell)), .ow ((lawTable cell r c).map encR), .no, .no, .no, .no, .no, .no] G' }) (st_if t2 (fun hb => ?_) (fun hb => ?_)) (fun G' hle => ?_) (fun _ z => z.elim) (fun _ z => z.elim) (fun _ z => z.elim) (fun _ z => z.elim))
  · rw [Bool.and_eq_true, decide_eq_true_eq, decide_eq_true_eq] at hb
    have hr2 : 2 < r := by omega
    have n1 : ¬ draw cell 3 5 = 1 := by omega
    have el : lawTable cell r c = (tb0 cell r c).set 2 (tbMid cell c) := by
      unfold lawTable
      rw [if_neg n1, if_pos ⟨hb.1, hr2⟩]
    rw [if_neg n1, el]
    have row1 : (tb0 cell r c)[1]? = some (tbRow cell c 1) := by
      unfold tb0
      rw [List.getElem?_map, List.getElem?_range (by omega)]
      rfl
    refine st_seq (st_asg (s := .im (.int (draw cell 4 3 - 1))) (by walk_at "ev"; exact ⟨_, _, _, rfl, by decide, by decide, rfl⟩) ?_)
    refine st_setL (k := 2) (i := 2) (d := encR (tbMid cell c)) (ds := (tb0 cell r c).map encR) rfl (EvS.freeze ?_) (by walk_at "ev") ?_ ?_
    · refine EvS.to (ev_lc1 (xs := (tbRow cell c 0).zip (tbRow cell c 1)) (enc := fun p : Int × Int => .tuple [.int p.1, .int p.2]) (vs := [9, 10]) ((ei_zip (ds := (tbRow cell c 0).map .int) (es := (tbRow cell c 1).map .int) ?_ ?_).to (zip_pairD _ _ _ _)) (fun p => .int ((p.1 + p.2) / 2 - (draw cell 4 3 - 1)))
        (fun p => [.im (.int cell), .im (.int r), .im (.int c), .im (.int (tbM cell)), .ow ((tb0 cell r c).map encR), .no, .im (.int (draw cell 3 5)), .im (.int (draw cell 4 3 - 1)), .no, .im (.int p.1), .im (.int p.2)]) (fun p _ => tg_tup (tgs_cons (tg_name (by decide)) (tgs_cons (tg_name (by decide)) tgs_nil)) rfl) (fun p _ => ?_) (by rw [List.length_zip, tbRow_len, tbRow_len]; omega)) (by
          rw [map_int_map]
          unfold tbMid
          rw [← zipD])
      · exact ev_ixO (ds := (tb0 cell r c).map encR) rfl (by walk_at "ev") item0
      · exact ev_ixO (ds := (tb0 cell r c).map encR) rfl (by walk_at "ev") (atI_map (j := 1) row1)
      · walk_at "ev"
        exact Sm.cdiv (by decide) (sm64 (by decide) (by decide)) (by decide)
    · unfold ixN tb0
      rw [List.length_map, List.length_map, List.length_range, if_pos (by decide), if_pos (by omega)]
      rfl
    · rw [← List.map_set]
      walk_at "le"
  · have el : lawTable cell r c = if draw cell 3 5 = 1 then tb1 cell r c else tb0 cell r c := by
      unfold lawTable
      rw [Bool.and_eq_false_iff, decide_eq_false_iff_not, decide_eq_false_iff_not] at hb
      split
      · rfl
      · rw [if_neg (by omega)]
    rw [← el]
    exact st_next (by walk_at "le")
  refine st_le hle ?_
  rcases ho with rfl | rfl
  · exact st_retV (i := 4) rfl (fun z => nomatch z) rfl
  · exact st_freeze 4 rfl (st_ret (by walk_at "ev") rfl)
open PySem L2
/-! ### xs[i] += e; a pair of a new list and something quiet -/
section
variable {X : Cx}
theorem get_list : PGet X (rIxL X.K) := by
  intro pins s σ H x y v u Q I rx ry h
  obtain ⟨p, xs, i, z, rfl, rfl, hq, he, q⟩ := h
  cases rx
  obtain ⟨t, rfl⟩ := ry
  obtain ⟨its, r, pl, hz⟩ := I.list hq
  obtain ⟨j, h1, h2, h3, h4, h5⟩ := atI_get he
  obtain ⟨w, ew, rw'⟩ := r.get h2
  have hl := r.length
  have hn := line63
  have fin : EP X pins σ Q w s := ⟨z, H, I, rw', q⟩
  by_cases h0 : 0 ≤ i
  · have hj : i.toNat = j := by
      rw [seqIndex_of h0 h5] at h1
      exact Option.some.inj h1
    exact wpAny_getItem_list (Q := EP X pins σ Q) pl.isList h0 (by omega) (by rw [hj]; simpa using ew) fin
  · have hj : (i + (its.toArray.size : Int)).toNat = j := by
      rw [seqIndex_neg (by omega) h4] at h1
      rw [List.size_toArray, ← hl]
      exact Option.some.inj h1
    exact wpAny_getItem_list_neg (Q := EP X pins σ Q) pl.isList (by omega) (by rw [List.size_toArray] <;> omega) (by omega) (by rw [hj]; simpa using ew) fin
end
section
variable {K : PySem.W.Frag} {E : XK} {G : Env} {D : GE} {ta tb te tc : TE}
theorem st_augL {j k : Nat} {i a b : Int} {ds : List PyData} (hg : G[j]? = some (.ow ds)) (hi : Ev K tb G (.int i)) (hk : ixN ds.length i = some k) (ha : atI ds i = some (.int a)) (h : Ev K te G (.int b)) (q : D.nx (G.set j (.ow (ds.set k (.int (a + b)))))) :
    St K E (tAugS (tVar j) tb te (rIxL K) (ipI fun i j => i + j) rSetL) G D := fun B F0 F lab σ H r D' l => by
  obtain ⟨p, vs, e, fp, lp, hp, al⟩ := r.rs.own hg
  refine ⟨_, e, hi F lab σ H r.rs _ fun w F1 H1 g1 n1 => ?_⟩
  have r1 := r.step g1
  have hp1 := g1.hh _ _ hp
  obtain ⟨v, hv, dv⟩ := atI_dp (dpAll_mono g1.ff al) ha
  refine ⟨p, vs, i, v, rfl, dp_int n1.dp, SqL.of hp1, hv, ?_⟩
  refine h F1 lab σ H1 r1.rs _ fun y F2 H2 g2 n2 => ?_
  have r2 := r1.step g2
  have hp2 := g2.hh _ _ hp1
  have fp2 := (g2.nw p _ hp1).trans ((g1.nw p _ hp).trans fp)
  refine ⟨a, b, dp_int dv, dp_int n2.dp, p, vs, i, k, rfl, dp_int n1.dp, hp2, by rw [dpAll_len al]; exact hk, ?_⟩
  exact l.nx F2 lab σ _ _ (r2.mut hg e fp2 lp ⟨_, hp2⟩ (dpAll_set (.int _) k (dpAll_mono (g1.trans g2).ff al))) (g1.trans g2).ff q
/-- (a new list, something quiet) -/
theorem ev_tupO {ds : List PyData} {d : PyData} (h : EvS K ta G (.ow ds)) (h2 : Ev K tb G d) : EvS K (tTup (tCons ta (tCons tb tNil))) G (.pr ds d) := fun F lab σ H rs Q q =>
  h F lab σ H rs _ fun v F1 H1 g1 n1 => h2 F1 lab σ H1 (rs.go g1) _ fun w F2 H2 g2 n2 => by
    obtain ⟨lab2, hv, nw⟩ := n1
    have hv2 : FlV K F2 H2 lab2 (0, ("" : Str)) v (.ow ds) := FlV.go g2 hv
    obtain ⟨p, vs, rfl, fp, lp, hp, al⟩ := hv2
    refine ⟨by rw [sizeLine_eq]; show (2 : Nat) ≤ _; omega, fun t ht => q (.ref t) (upd F2 t (.tup [.ref p, w])) _ ((g1.trans g2).trans (Go.new g2.fh ht)) ?_⟩
    have ft : Same F2 (upd F2 t (HO.tup [.ref p, w])) := same_new (g2.fh.free ht)
    have ne : p ≠ t := fun z => by rw [z, ht] at hp; cases hp
    exact ⟨lab2, ⟨p, vs, ⟨t, w, rfl, upd_same, dp_mono ft n2.dp⟩, by rw [upd_ne ne]; exact fp, lp, by rw [upd_ne ne]; exact hp, dpAll_mono ft al⟩, nw⟩
theorem FlV.pr_ow {F H : Hp} {lab : Lab} {o : Nat × Str} {p : Addr} {vs : List V} {ds : List PyData} (b : F p = none) (c : lab p = some o) (d : H p = some (.lst vs)) (al : DpAll K F vs ds) : FlV K F H lab o (.ref p) (.ow ds) := ⟨p, vs, rfl, b, c, d, al⟩
/-- a, b = (a new list, something quiet) -/
theorem st_asgPr {i j : Nat} {ds : List PyData} {d : PyData} (h : EvS K te G (.pr ds d)) (q : D.nx ((G.set i (.ow ds)).set j (.im d))) : St K E (tAsg te (gTup K 2 (gCons (gName i) (gCons (gName j) gNil)))) G D := fun B F0 F lab σ H r D' l =>
  h F lab σ H r.rs _ fun v F1 H1 g n => by
    obtain ⟨lab2, ⟨p, vs, ⟨t, w, rfl, ht, hw⟩, fp, lp, hp, al⟩, nw⟩ := n
    refine ⟨t, [.ref p, w], rfl, .inl (.inl (g.fh _ _ ht)), rfl, .ref p, [w], rfl, w, [], rfl, rfl, ?_⟩
    obtain ⟨lab', r'⟩ := r.set (j := i) g (s := .ow ds) (v := .ref p) ⟨lab2, ⟨p, vs, rfl, fp, lp, hp, al⟩, nw⟩
    exact l.nx F1 lab' _ H1 _ ⟨r'.rs.setIm hw, r'.go, r'.lb, r'.lv⟩ g.ff q
end
/-! ### sums of fractions: how big -/
theorem totalF_fb {xs : List Frc} {n : Nat} (hx : ∀ x ∈ xs, Fb n x) : Fb ((n + 1) * xs.length + 1) (totalF xs) := by
  have fb : ∀ i, i ≤ xs.length → Fb ((n + 1) * i + 1) (totalF (xs.take i)) := by
    intro i
    induction i with
    | zero =>
      intro _
      rw [Nat.mul_zero, List.take_zero]
      exact ⟨by decide, (show (0 : Int).natAbs < 2 ^ (0 + 1) by decide), (show (1 : Int).natAbs < 2 ^ (0 + 1) by decide)⟩
    | succ i ih =>
      intro hi
      have hx1 : xs[i]? = some xs[i] := List.getElem?_eq_getElem (by omega)
      unfold totalF
      rw [take_snoc hx1, List.foldl_append]
      show Fb _ (plusF (totalF (xs.take i)) xs[i])
      refine (plusF_fb (ih (by omega)) (hx _ (List.getElem_mem _))).mono ?_
      rw [Nat.mul_add]
      omega
  have := fb xs.length (Nat.le_refl _)
  rw [List.take_length] at this
  exact this
open PySem L2
/-! ### mixtures -/
def shareD : PyData → Bool
  | .tuple [.int a, .int b] => decide (0 ≤ a) && (decide (0 < b) && decide (Int.gcd a b = 1))
  | _ => false
def frD : PyData → Frc
  | .tuple [.int a, .int b] => (a, b)
  | _ => (0, 1)
def mixOk (many : Nat) : PyData → Bool
  | .list ds => (decide (ds.length = many) && ds.all shareD) && decide (totalF (ds.map frD) = (1, 1))
  | _ => false
theorem frD_encF (x : Frc) : frD (encF x) = x := rfl
theorem frD_map (ms : List Frc) : (ms.map encF).map frD = ms := by
  rw [List.map_map]
  exact List.map_id ms
/-- a share: a fraction from nought on in lowest terms -/
def Shr (x : Frc) : Prop := 0 ≤ x.1 ∧ 0 < x.2 ∧ Int.gcd x.1 x.2 = 1
instance (x : Frc) : Decidable (Shr x) := by unfold Shr; infer_instance
theorem share_encF {d : PyData} (h : shareD d = true) : ∃ x, d = encF x ∧ Shr x := by
  unfold shareD at h
  split at h
  · simp only [Bool.and_eq_true, decide_eq_true_eq] at h
    exact ⟨(_, _), rfl, h⟩
  · cases h
theorem encF_share {x : Frc} : shareD (encF x) = decide (Shr x) := by
  show (decide (0 ≤ x.1) && (decide (0 < x.2) && decide (Int.gcd x.1 x.2 = 1))) = _
  rw [Bool.eq_iff_iff]
  simp only [Bool.and_eq_true, decide_eq_true_eq]
  exact Iff.rfl
theorem share_all {ds : List PyData} (h : ds.all shareD = true) : ∃ ms : List Frc, ds = ms.map encF ∧ ∀ x ∈ ms, Shr x := by
  induction ds with
  | nil => exact ⟨[], rfl, fun _ h => nomatch h⟩
  | cons d ds ih =>
    rw [List.all_cons, Bool.and_eq_true] at h
    obtain ⟨x, rfl, hx⟩ := share_encF h.1
    obtain ⟨ms, rfl, hm⟩ := ih h.2
    exact ⟨x :: ms, rfl, fun y hy => by
      rcases List.mem_cons.mp hy with rfl | hy
      · exact hx
      · exact hm y hy⟩
structure Mix (ms : List Frc) (many : Nat) : Prop where
  len : ms.length = many
  sh : ∀ x ∈ ms, Shr x
  tot : totalF ms = (1, 1)
theorem mixOk_M (ms : List Frc) (many : Nat) : mixOk many (encM ms) = true ↔ Mix ms many := by
  show ((decide ((ms.map encF).length = many) && (ms.map encF).all shareD) && decide (totalF ((ms.map encF).map frD) = (1, 1))) = true ↔ _
  rw [frD_map, List.length_map, List.all_map]
  simp only [Bool.and_eq_true, decide_eq_true_eq, List.all_eq_true, Function.comp, encF_share]
  exact ⟨fun h => ⟨h.1.1, h.1.2, h.2⟩, fun h => ⟨⟨h.len, h.sh⟩, h.tot⟩⟩
theorem mixOk_mix {many : Nat} {d : PyData} (h : mixOk many d = true) : ∃ ms, d = encM ms ∧ Mix ms many := by
  cases d with
  | list ds =>
    have h' : ((decide (ds.length = many) && ds.all shareD) && decide (totalF (ds.map frD) = (1, 1))) = true := h
    rw [Bool.and_eq_true, Bool.and_eq_true] at h'
    obtain ⟨ms, rfl, hm⟩ := share_all h'.1.2
    exact ⟨ms, rfl, (mixOk_M ms many).mp h⟩
  | _ => cases h
/-- not too great to be summed up -/
def MixSz (d : PyData) : Prop := ∀ ms : List Frc, d = encM ms → (∀ x ∈ ms, 0 < x.2) → ∃ n, (n + 1) * ms.length + 1 ≤ 4200 ∧ ∀ x ∈ ms, Fb n x
def rowGot (row : List Int) (theirs : List Frc) : Frc := totalF ((row.zip theirs).map fun p => timesF (p.1, 1) p.2)
def gotBy (t : List (List Int)) (mine theirs : List Frc) : Frc := totalF ((mine.zip t).map fun p => timesF p.1 (rowGot p.2 theirs))
def greatF (x : Frc) (xs : List Frc) : Frc := xs.foldl (fun f y => if belowF f y = true then y else f) x
def toldF (t : List (List Int)) (theirs : List Frc) : List Frc := t.map fun r => rowGot r theirs
def mostF (t : List (List Int)) (theirs : List Frc) : Frc := greatF ((toldF t theirs).getD 0 (0, 1)) (toldF t theirs)
def bestR (t : List (List Int)) (theirs : List Frc) : List Nat := (List.range t.length).filter fun i => decide ((toldF t theirs).getD i (0, 1) = mostF t theirs)
theorem rowGot_fb {row : List Int} {theirs : List Frc} {n : Nat} (hr : ∀ x ∈ row, -100 ≤ x ∧ x ≤ 100) (ht : ∀ y ∈ theirs, Fb n y) (hl : row.length ≤ 4) : Fb (4 * (n + 8) + 1) (rowGot row theirs) := by
  have : Fb ((7 + n + 1) * ((row.zip theirs).map fun p => timesF (p.1, 1) p.2).length + 1) (rowGot row theirs) := totalF_fb fun x hx => by
    obtain ⟨p, hp, rfl⟩ := List.mem_map.mp hx
    have hp' := List.of_mem_zip (a := p.1) (b := p.2) hp
    have b := hr _ hp'.1
    have f : Fb 7 ((p.1, 1) : Frc) := ⟨(show (0 : Int) < 1 by decide), by show p.1.natAbs < 128; omega, by show (1 : Int).natAbs < 128; decide⟩
    exact timesF_fb f (ht _ hp'.2)
  refine this.mono ?_
  rw [List.length_map, List.length_zip]
  have : (7 + n + 1) * min row.length theirs.length ≤ (7 + n + 1) * 4 := Nat.mul_le_mul_left _ (by omega)
  omega
theorem fb_w {x : Int} (b : -200 ≤ x ∧ x ≤ 200) : Fb 8 ((x, 1) : Frc) := ⟨(show (0 : Int) < 1 by decide), by show x.natAbs < 256; omega, by show (1 : Int).natAbs < 256; decide⟩
theorem rowGot_fbW {row : List Int} {theirs : List Frc} {n : Nat} (hr : ∀ x ∈ row, -200 ≤ x ∧ x ≤ 200) (ht : ∀ y ∈ theirs, Fb n y) (hl : row.length ≤ 4) : Fb (4 * (n + 9) + 1) (rowGot row theirs) := by
  have : Fb ((8 + n + 1) * ((row.zip theirs).map fun p => timesF (p.1, 1) p.2).length + 1) (rowGot row theirs) := totalF_fb fun x hx => by
    obtain ⟨p, hp, rfl⟩ := List.mem_map.mp hx
    have hp' := List.of_mem_zip (a := p.1) (b := p.2) hp
    exact timesF_fb (fb_w (hr _ hp'.1)) (ht _ hp'.2)
  refine this.mono ?_
  rw [List.length_map, List.length_zip]
  have : (8 + n + 1) * min row.length theirs.length ≤ (8 + n + 1) * 4 := Nat.mul_le_mul_left _ (by omega)
  omega
theorem fb_i {x : Int} (b : -100 ≤ x ∧ x ≤ 100) : Fb 7 ((x, 1) : Frc) := ⟨(show (0 : Int) < 1 by decide), by show x.natAbs < 128; omega, by show (1 : Int).natAbs < 128; decide⟩

def R_is_share : List Sl → Out → Prop := fun ss o => ∃ d : PyData, ss = [.im d] ∧ o = .ret (.im (.bool (shareD d)))
def t_is_share (K : PySem.W.Frag) : TS := (tSeq (tIfS (tOr (tNot (tB (tCB (rIsi K) (tCons (tVar 0) (tCons (tC (.ty "tuple")) tNil))))) (tOr (tTest (tOp (rNeD K) (tCB (rLenU K) (tCons (tVar 0) tNil)) (tC (.int 2)))) (tOr (tNot (tB (tCall (spR K R_is_whole) [] E0 (tCons (tOp (rIx K) (tVar 0) (tC (.int 0))) tNil)))) (tNot (tB (tCall (spR K R_is_whole) [] E0 (tCons (tOp (rIx K) (tVar 0) (tC (.int 1))) tNil))))))) (tRet (tC (.bl false))) tNext)
    (tRet (tAndV (tOp (rI0 fun i j => .bl (decide (j ≤ i))) (tOp (rIx K) (tVar 0) (tC (.int 0))) (tC (.int 0))) (tAndV (tOp (rI0 fun i j => .bl (decide (j < i))) (tOp (rIx K) (tVar 0) (tC (.int 1))) (tC (.int 0))) (tOp (rEqD K) (tCall (spR K R_common) [] E0 (tCons (tOp (rIx K) (tVar 0) (tC (.int 0))) (tCons (tOp (rIx K) (tVar 0) (tC (.int 1))) tNil))) (tC (.int 1)))))))
theorem len_is_share {ss : List Sl} {o : Out} (h : R_is_share ss o) : ss.length = 1 := by
  first | (obtain ⟨_, rfl, _⟩ := h; rfl) | (obtain ⟨_, _, rfl, _⟩ := h; rfl) | (obtain ⟨_, _, _, rfl, _⟩ := h; rfl) | (obtain ⟨_, _, _, _, rfl, _⟩ := h; rfl) | (obtain ⟨_, _, _, _, _, rfl, _⟩ := h; rfl) | (obtain ⟨_, _, _, _, _, _, rfl, _⟩ := h; rfl)
theorem b_is_share {K : PySem.W.Frag} {E : XK} (ss : List Sl) (o : Out) (h : R_is_share ss o) : St K E (t_is_share K) (params ["thing"] ss) { nx := fun _ => o = .ret (.im .none), rt := fun s => o = .ret s, ex := fun c => o = .exc c } := by
  obtain ⟨d, rfl, rfl⟩ := h
  have A : EvB K (tNot (tB (tCB (rIsi K) (tCons (tVar 0) (tCons (tC (.ty "tuple")) tNil))))) (params ["thing"] [.im d]) (!isTup d) := by
    walk_at "ev"
    exact kit_tuple d
  by_cases hT : isTup d = false
  · refine st_seq (st_if (b := true) (EvB.to (a := !isTup d || false) (eb_or A fun z => ?_) (by rw [hT]; rfl)) (fun _ => st_ret (s := .im (.bool false)) (by walk_at "ev") ?_) (fun z => nomatch z))
    · rw [hT] at z; cases z
    · cases d <;> first | rfl | cases hT
  obtain ⟨ds, rfl⟩ : ∃ ds, d = .tuple ds := by cases d <;> first | exact ⟨_, rfl⟩ | exact absurd rfl hT
  have B : EvB K (tTest (tOp (rNeD K) (tCB (rLenU K) (tCons (tVar 0) tNil)) (tC (.int 2)))) (params ["thing"] [.im (.tuple ds)]) (!decide (ds.length = 2)) := by
    refine EvB.to (a := !(PyData.eqv (.int (ds.length : Nat)) (.int 2))) ?_ (by rw [eqv_int, show (2 : Int) = ((2 : Nat) : Int) from rfl, natE])
    walk_at "ev"
  by_cases hl : ds.length = 2
  · obtain ⟨x, y, rfl⟩ : ∃ x y, ds = [x, y] := by
      match ds, hl with
      | [x, y], _ => exact ⟨x, y, rfl⟩
    have C : EvB K (tNot (tB (tCall (spR K R_is_whole) [] E0 (tCons (tOp (rIx K) (tVar 0) (tC (.int 0))) tNil)))) (params ["thing"] [.im (.tuple [x, y])]) (!wholeD x) := by
      walk_at "ev"
      exact ⟨_, rfl, rfl⟩
    have C2 : EvB K (tNot (tB (tCall (spR K R_is_whole) [] E0 (tCons (tOp (rIx K) (tVar 0) (tC (.int 1))) tNil)))) (params ["thing"] [.im (.tuple [x, y])]) (!wholeD y) := by
      walk_at "ev"
      exact ⟨_, rfl, rfl⟩
    refine st_seq (st_if (b := !wholeD x || !wholeD y) (EvB.to (a := !isTup (.tuple [x, y]) || (!decide ([x, y].length = 2) || (!wholeD x || !wholeD y))) (eb_orN A (eb_orN B (eb_orN C C2))) rfl) (fun z => st_ret (s := .im (.bool false)) (by walk_at "ev") ?_) (fun z => st_next ?_))
    · cases x <;> cases y <;> first | rfl | cases z
    · obtain ⟨a, rfl⟩ : ∃ a, x = .int a := by cases x <;> first | exact ⟨_, rfl⟩ | cases z
      obtain ⟨b, rfl⟩ : ∃ b, y = .int b := by cases y <;> first | exact ⟨_, rfl⟩ | cases z
      refine st_ret (s := .im (.bool (decide (0 ≤ a) && (decide (0 < b) && PyData.eqv (.int (Int.gcd a b : Nat)) (.int 1))))) ?_ (by rw [eqv_int, show (1 : Int) = ((1 : Nat) : Int) from rfl, natE]; rfl)
      walk_at "ev"
      exact ⟨_, _, rfl, rfl⟩
  · refine st_seq (st_if (b := true) (EvB.to (a := !isTup (.tuple ds) || (!decide (ds.length = 2) || false)) (eb_orN A (eb_or B fun z => ?_)) (by rw [decide_eq_false hl]; rfl)) (fun _ => st_ret (s := .im (.bool false)) (by walk_at "ev") ?_) (fun z => nomatch z))
    · rw [decide_eq_false hl] at z; cases z
    · show Out.ret (.im (.bool (shareD (.tuple ds)))) = _
      unfold shareD
      split
      · rename_i h
        cases h
        exact absurd rfl hl
      · rfl

def R_is_mixture : List Sl → Out → Prop := fun ss o => ∃ (d : PyData) (many : Nat), ss = [.im d, .im (.int (many : Nat))] ∧ many ≤ 1000 ∧ MixSz d ∧ o = .ret (.im (.bool (mixOk many d)))
def t_is_mixture (K : PySem.W.Frag) : TS := (tSeq (tIfS (tOr (tNot (tB (tCB (rIsi K) (tCons (tVar 0) (tCons (tC (.ty "list")) tNil))))) (tOr (tTest (tOp (rNeD K) (tCB (rLenU K) (tCons (tVar 0) tNil)) (tVar 1))) (tNot (tB (tCB (rAll K) (tCons (tLc (iList K (tVar 0)) (gName 2) tYes (tCall (spR K R_is_share) [] E0 (tCons (tVar 2) tNil)) [2]) tNil)))))) (tRet (tC (.bl false))) tNext)
    (tRet (tOp (rEqD K) (tCall (spR K R_total) [] E0 (tCons (tVar 0) tNil)) (tTup (tCons (tC (.int 1)) (tCons (tC (.int 1)) tNil))))))
theorem len_is_mixture {ss : List Sl} {o : Out} (h : R_is_mixture ss o) : ss.length = 2 := by
  first | (obtain ⟨_, rfl, _⟩ := h; rfl) | (obtain ⟨_, _, rfl, _⟩ := h; rfl) | (obtain ⟨_, _, _, rfl, _⟩ := h; rfl) | (obtain ⟨_, _, _, _, rfl, _⟩ := h; rfl) | (obtain ⟨_, _, _, _, _, rfl, _⟩ := h; rfl) | (obtain ⟨_, _, _, _, _, _, rfl, _⟩ := h; rfl)
theorem b_is_mixture {K : PySem.W.Frag} {E : XK} (ss : List Sl) (o : Out) (h : R_is_mixture ss o) : St K E (t_is_mixture K) (params ["mixture", "many", "share"] ss) { nx := fun _ => o = .ret (.im .none), rt := fun s => o = .ret s, ex := fun c => o = .exc c } := by
  obtain ⟨d, many, rfl, hm, hz, rfl⟩ := h
  have A : EvB K (tNot (tB (tCB (rIsi K) (tCons (tVar 0) (tCons (tC (.ty "list")) tNil))))) (params ["mixture", "many", "share"] [.im d, .im (.int (many : Nat))]) (!isLst d) := by
    walk_at "ev"
    exact kit_list d
  by_cases hT : isLst d = false
  · refine st_seq (st_if (b := true) (EvB.to (a := !isLst d || false) (eb_or A fun z => ?_) (by rw [hT]; rfl)) (fun _ => st_ret (s := .im (.bool false)) (by walk_at "ev") ?_) (fun z => nomatch z))
    · rw [hT] at z; cases z
    · cases d <;> first | rfl | cases hT
  obtain ⟨ds, rfl⟩ : ∃ ds, d = .list ds := by cases d <;> first | exact ⟨_, rfl⟩ | exact absurd rfl hT
  have B : EvB K (tTest (tOp (rNeD K) (tCB (rLenU K) (tCons (tVar 0) tNil)) (tVar 1))) (params ["mixture", "many", "share"] [.im (.list ds), .im (.int (many : Nat))]) (!decide (ds.length = many)) := by
    refine EvB.to (a := !(PyData.eqv (.int (ds.length : Nat)) (.int (many : Nat)))) ?_ (by rw [eqv_int, natE])
    walk_at "ev"
  have er : mixOk many (.list ds) = ((decide (ds.length = many) && ds.all shareD) && decide (totalF (ds.map frD) = (1, 1))) := rfl
  by_cases hl : ds.length = many
  · have C : EvB K (tNot (tB (tCB (rAll K) (tCons (tLc (iList K (tVar 0)) (gName 2) tYes (tCall (spR K R_is_share) [] E0 (tCons (tVar 2) tNil)) [2]) tNil)))) (params ["mixture", "many", "share"] [.im (.list ds), .im (.int (many : Nat))]) (!ds.all shareD) := by
      refine eb_not (EvB.to (a := (ds.map shareD).all id) (eb_B (EvS.h (ev_all ?_))) (by simp [List.all_map]))
      refine EvS.h (EvS.freeze (EvS.to (ev_lc1 (xs := ds) (enc := id) (vs := [2]) ((ei_list (by walk_at "ev")).to (by simp)) (fun d => .bool (shareD d)) (fun d => [.im (.list ds), .im (.int (many : Nat)), .im d]) (fun d _ => tg_name (by decide)) (fun d hd => ?_) (by omega)) (by rw [List.map_map]; rfl)))
      walk_at "ev"
      exact ⟨_, rfl, rfl⟩
    cases hs : ds.all shareD with
    | false =>
      rw [hs] at C
      refine st_seq (st_if (b := true) (EvB.to (a := !isLst (.list ds) || (!decide (ds.length = many) || !false)) (eb_orN A (eb_orN B C)) (by rw [decide_eq_true hl]; rfl)) (fun _ => st_ret (s := .im (.bool false)) (by walk_at "ev") ?_) (fun z => nomatch z))
      rw [er, hs, Bool.and_false]
      rfl
    | true =>
      rw [hs] at C
      refine st_seq (st_if (b := false) (EvB.to (a := !isLst (.list ds) || (!decide (ds.length = many) || !true)) (eb_orN A (eb_orN B C)) (by rw [decide_eq_true hl]; rfl)) (fun z => nomatch z) (fun _ => st_next ?_))
      obtain ⟨ms, rfl, hms⟩ := share_all hs
      obtain ⟨n, hn, fb⟩ := hz ms rfl fun x hx => (hms x hx).2.1
      rw [er, hs, decide_eq_true hl, frD_map]
      refine st_ret (s := .im (.bool (decide (totalF ms = (1, 1))))) (Ev.to (d := .bool (PyData.eqv (encF (totalF ms)) (encF (1, 1)))) ?_ (by rw [eqv_F])) rfl
      refine ev_eqD (EvS.h (ev_call (ss := [.im (encM ms)]) (by walk_at "ev") ⟨ms, n, rfl, fb, hn, rfl⟩)) ?_ (shaped_of lay_F (by decide)) (shaped_of lay_F (by decide))
      refine EvS.h (ev_tup (ds := [.int 1, .int 1]) ?_ (Nat.le_of_ble_eq_true rfl))
      show EvA K _ _ [.im _, .im _]
      walk_at "ev"
  · refine st_seq (st_if (b := true) (EvB.to (a := !isLst (.list ds) || (!decide (ds.length = many) || false)) (eb_orN A (eb_or B fun z => ?_)) (by rw [decide_eq_false hl]; rfl)) (fun _ => st_ret (s := .im (.bool false)) (by walk_at "ev") ?_) (fun z => nomatch z))
    · rw [decide_eq_false hl] at z; cases z
    · rw [er, decide_eq_false hl, Bool.false_and, Bool.false_and]

def R_asked_mixture (cBadMixture : Addr) : List Sl → Out → Prop := fun ss o => ∃ (d : PyData) (many : Nat), ss = [.im d, .im (.int (many : Nat))] ∧ many ≤ 1000 ∧ MixSz d ∧ o = if mixOk many d = true then .ret (.im .none) else .exc cBadMixture
def t_asked_mixture (K : PySem.W.Frag) (cBadMixture : Addr) (E : XK) : TS := (tIfS (tNot (tB (tCall (spR K R_is_mixture) [] E0 (tCons (tVar 0) (tCons (tVar 1) tNil))))) (tRaiseU cBadMixture E) tNext)
theorem len_asked_mixture {cBadMixture : Addr} {ss : List Sl} {o : Out} (h : R_asked_mixture cBadMixture ss o) : ss.length = 2 := by
  first | (obtain ⟨_, rfl, _⟩ := h; rfl) | (obtain ⟨_, _, rfl, _⟩ := h; rfl) | (obtain ⟨_, _, _, rfl, _⟩ := h; rfl) | (obtain ⟨_, _, _, _, rfl, _⟩ := h; rfl) | (obtain ⟨_, _, _, _, _, rfl, _⟩ := h; rfl) | (obtain ⟨_, _, _, _, _, _, rfl, _⟩ := h; rfl)
theorem b_asked_mixture {K : PySem.W.Frag} {E : XK} {cBadMixture : Addr} (ss : List Sl) (o : Out) (h : R_asked_mixture cBadMixture ss o) : St K E (t_asked_mixture K cBadMixture E) (params ["mixture", "many"] ss) { nx := fun _ => o = .ret (.im .none), rt := fun s => o = .ret s, ex := fun c => o = .exc c } := by
  obtain ⟨d, many, rfl, hm, hz, rfl⟩ := h
  have A : EvB K (tNot (tB (tCall (spR K R_is_mixture) [] E0 (tCons (tVar 0) (tCons (tVar 1) tNil))))) (params ["mixture", "many"] [.im d, .im (.int (many : Nat))]) (!mixOk many d) := by
    walk_at "ev"
    exact ⟨_, _, rfl, hm, hz, rfl⟩
  cases hb : mixOk many d with
  | true =>
    rw [hb] at A
    exact st_if A (fun z => nomatch z) (fun _ => st_next rfl)
  | false =>
    rw [hb] at A
    exact st_if A (fun _ => st_raiseU rfl) (fun z => nomatch z)

def R_row_got : List Sl → Out → Prop := fun ss o => ∃ (row : List Int) (theirs : List Frc), ss = [.im (encR row), .im (encM theirs)] ∧ (∀ x ∈ row, -200 ≤ x ∧ x ≤ 200) ∧ (∀ y ∈ theirs, Fb 1000 y) ∧ row.length ≤ 4 ∧ o = .ret (.im (encF (rowGot row theirs)))
def t_row_got (K : PySem.W.Frag) : TS := (tRet (tCall (spR K R_total) [] E0 (tCons (tLc (iZip K (tCons (tVar 0) (tCons (tVar 1) tNil))) (gTup K 2 (gCons (gName 2) (gCons (gName 3) gNil))) tYes (tCall (spR K R_times) [] E0 (tCons (tTup (tCons (tVar 2) (tCons (tC (.int 1)) tNil))) (tCons (tVar 3) tNil))) [2, 3]) tNil)))
theorem len_row_got {ss : List Sl} {o : Out} (h : R_row_got ss o) : ss.length = 2 := by
  first | (obtain ⟨_, rfl, _⟩ := h; rfl) | (obtain ⟨_, _, rfl, _⟩ := h; rfl) | (obtain ⟨_, _, _, rfl, _⟩ := h; rfl) | (obtain ⟨_, _, _, _, rfl, _⟩ := h; rfl) | (obtain ⟨_, _, _, _, _, rfl, _⟩ := h; rfl) | (obtain ⟨_, _, _, _, _, _, rfl, _⟩ := h; rfl)
theorem b_row_got {K : PySem.W.Frag} {E : XK} (ss : List Sl) (o : Out) (h : R_row_got ss o) : St K E (t_row_got K) (params ["row", "theirs", "worth", "share"] ss) { nx := fun _ => o = .ret (.im .none), rt := fun s => o = .ret s, ex := fun c => o = .exc c } := by
  obtain ⟨row, theirs, rfl, hr, ht, hl, rfl⟩ := h
  refine st_ret (s := .im (encF (rowGot row theirs))) (ev_call (ss := [.im (encM ((row.zip theirs).map fun p => timesF (p.1, 1) p.2))]) (ea_im (EvS.freeze (EvS.to (ev_lc1 (xs := row.zip theirs) (enc := fun p : Int × Frc => .tuple [.int p.1, encF p.2]) (vs := [2, 3]) ((ei_zip (by walk_at "ev") (by walk_at "ev")).to (zip_pairD _ _ _ _)) (fun p => encF (timesF (p.1, 1) p.2)) (fun p => [.im (encR row), .im (encM theirs), .im (.int p.1), .im (encF p.2)]) (fun p _ => tg_tup (tgs_cons (tg_name (by decide)) (tgs_cons (tg_name (by decide)) tgs_nil)) rfl) (fun p hp => ?_) (by rw [List.length_zip]; omega)) (by rw [List.map_map]; rfl))) ea_nil) ⟨_, 1008, rfl, fun x hx => ?_, ?_, rfl⟩) rfl
  · have hp' := List.of_mem_zip (a := p.1) (b := p.2) hp
    refine ev_call (ss := [.im (encF (p.1, 1)), .im (encF p.2)]) (ea_im (ev_tup (ds := [.int p.1, .int 1]) ?_ (Nat.le_of_ble_eq_true rfl)) (ea_im (ev_var rfl) ea_nil)) ⟨_, _, rfl, (fb_w (hr _ hp'.1)).mono (by decide), (ht _ hp'.2).mono (by decide), rfl⟩
    show EvA K _ _ [.im _, .im _]
    walk_at "ev"
  · obtain ⟨p, hp, rfl⟩ := List.mem_map.mp hx
    have hp' := List.of_mem_zip (a := p.1) (b := p.2) hp
    exact (timesF_fb (fb_w (hr _ hp'.1)) (ht _ hp'.2)).mono (by decide)
  · rw [List.length_map, List.length_zip]
    have : 1009 * min row.length theirs.length ≤ 1009 * 4 := Nat.mul_le_mul_left _ (by omega)
    omega

def R_got_by : List Sl → Out → Prop := fun ss o => ∃ (t : List (List Int)) (mine theirs : List Frc) (n : Nat), ss = [.im (encT t), .im (encM mine), .im (encM theirs)] ∧ TabW t n ∧ (∀ y ∈ mine, Fb 200 y) ∧ (∀ y ∈ theirs, Fb 200 y) ∧ o = .ret (.im (encF (gotBy t mine theirs)))
def t_got_by (K : PySem.W.Frag) : TS := (tRet (tCall (spR K R_total) [] E0 (tCons (tLc (iZip K (tCons (tVar 1) (tCons (tVar 0) tNil))) (gTup K 2 (gCons (gName 3) (gCons (gName 4) gNil))) tYes (tCall (spR K R_times) [] E0 (tCons (tVar 3) (tCons (tCall (spR K R_row_got) [] E0 (tCons (tVar 4) (tCons (tVar 2) tNil))) tNil))) [3, 4]) tNil)))
theorem len_got_by {ss : List Sl} {o : Out} (h : R_got_by ss o) : ss.length = 3 := by
  first | (obtain ⟨_, rfl, _⟩ := h; rfl) | (obtain ⟨_, _, rfl, _⟩ := h; rfl) | (obtain ⟨_, _, _, rfl, _⟩ := h; rfl) | (obtain ⟨_, _, _, _, rfl, _⟩ := h; rfl) | (obtain ⟨_, _, _, _, _, rfl, _⟩ := h; rfl) | (obtain ⟨_, _, _, _, _, _, rfl, _⟩ := h; rfl)
theorem b_got_by {K : PySem.W.Frag} {E : XK} (ss : List Sl) (o : Out) (h : R_got_by ss o) : St K E (t_got_by K) (params ["table", "mine", "theirs", "share", "row"] ss) { nx := fun _ => o = .ret (.im .none), rt := fun s => o = .ret s, ex := fun c => o = .exc c } := by
  obtain ⟨t, mine, theirs, n, rfl, tab, hm, ht, rfl⟩ := h
  have rb : ∀ r ∈ t, Fb 837 (rowGot r theirs) := fun r hr => rowGot_fbW (tab.bd r hr) ht (by rw [tab.row r hr]; exact tab.c4)
  have hr4 := tab.r4
  refine st_ret (s := .im (encF (gotBy t mine theirs))) (ev_call (ss := [.im (encM ((mine.zip t).map fun p => timesF p.1 (rowGot p.2 theirs)))]) (ea_im (EvS.freeze (EvS.to (ev_lc1 (xs := mine.zip t) (enc := fun p : Frc × List Int => .tuple [encF p.1, encR p.2]) (vs := [3, 4]) ((ei_zip (by walk_at "ev") (by walk_at "ev")).to (zip_pairD _ _ _ _)) (fun p => encF (timesF p.1 (rowGot p.2 theirs))) (fun p => [.im (encT t), .im (encM mine), .im (encM theirs), .im (encF p.1), .im (encR p.2)]) (fun p _ => tg_tup (tgs_cons (tg_name (by decide)) (tgs_cons (tg_name (by decide)) tgs_nil)) rfl) (fun p hp => ?_) (by rw [List.length_zip]; omega)) (by rw [List.map_map]; rfl))) ea_nil) ⟨_, 1037, rfl, fun x hx => ?_, ?_, rfl⟩) rfl
  · have hp' := List.of_mem_zip (a := p.1) (b := p.2) hp
    refine ev_call (ss := [.im (encF p.1), .im (encF (rowGot p.2 theirs))]) (ea_im (ev_var rfl) (ea_im (ev_call (ss := [.im (encR p.2), .im (encM theirs)]) (ea_im (ev_var rfl) (ea_im (ev_var rfl) ea_nil)) ⟨_, _, rfl, tab.bd _ hp'.2, fun y hy => (ht y hy).mono (by decide), by rw [tab.row _ hp'.2]; exact tab.c4, rfl⟩) ea_nil)) ⟨_, _, rfl, (hm _ hp'.1).mono (by decide), (rb _ hp'.2).mono (by decide), rfl⟩
  · obtain ⟨p, hp, rfl⟩ := List.mem_map.mp hx
    have hp' := List.of_mem_zip (a := p.1) (b := p.2) hp
    exact (timesF_fb (hm _ hp'.1) (rb _ hp'.2)).mono (by decide)
  · rw [List.length_map, List.length_zip]
    have : 1038 * min mine.length t.length ≤ 1038 * 4 := Nat.mul_le_mul_left _ (by omega)
    omega

def R_got (cBadTable cBadMixture : Addr) : List Sl → Out → Prop := fun ss o => ∃ d e f : PyData, ss = [.im d, .im e, .im f] ∧ ((tabOk d = false ∧ o = .exc cBadTable) ∨ ∃ t n, d = encT t ∧ Tab t n ∧ MixSz e ∧ MixSz f ∧
  (((mixOk t.length e = false ∨ mixOk n f = false) ∧ o = .exc cBadMixture) ∨ ∃ mine theirs, e = encM mine ∧ f = encM theirs ∧ Mix mine t.length ∧ Mix theirs n ∧ (∀ y ∈ mine, Fb 200 y) ∧ (∀ y ∈ theirs, Fb 200 y) ∧ o = .ret (.im (encF (gotBy t mine theirs)))))
def t_got (K : PySem.W.Frag) (cBadTable : Addr) (cBadMixture : Addr) (E : XK) : TS := (tSeq (tDrop (tCall (spR K (R_asked_table cBadTable)) [] E (tCons (tVar 0) tNil)))
    (tSeq (tDrop (tCall (spR K (R_asked_mixture cBadMixture)) [] E (tCons (tVar 1) (tCons (tCB (rLenU K) (tCons (tVar 0) tNil)) tNil))))
    (tSeq (tDrop (tCall (spR K (R_asked_mixture cBadMixture)) [] E (tCons (tVar 2) (tCons (tCB (rLenU K) (tCons (tOp (rIx K) (tVar 0) (tC (.int 0))) tNil)) tNil))))
    (tRet (tCall (spR K R_got_by) [] E0 (tCons (tVar 0) (tCons (tVar 1) (tCons (tVar 2) tNil))))))))
theorem len_got {cBadTable : Addr} {cBadMixture : Addr} {ss : List Sl} {o : Out} (h : R_got cBadTable cBadMixture ss o) : ss.length = 3 := by
  first | (obtain ⟨_, rfl, _⟩ := h; rfl) | (obtain ⟨_, _, rfl, _⟩ := h; rfl) | (obtain ⟨_, _, _, rfl, _⟩ := h; rfl) | (obtain ⟨_, _, _, _, rfl, _⟩ := h; rfl) | (obtain ⟨_, _, _, _, _, rfl, _⟩ := h; rfl) | (obtain ⟨_, _, _, _, _, _, rfl, _⟩ := h; rfl)
theorem b_got {K : PySem.W.Frag} {E : XK} {cBadTable : Addr} {cBadMixture : Addr} (ss : List Sl) (o : Out) (h : R_got cBadTable cBadMixture ss o) : St K E (t_got K cBadTable cBadMixture E) (params ["table", "mine", "theirs"] ss) { nx := fun _ => o = .ret (.im .none), rt := fun s => o = .ret s, ex := fun c => o = .exc c } := by
  obtain ⟨d, e, f, rfl, ⟨hb, rfl⟩ | ⟨t, n, rfl, tab, ze, zf, hc⟩⟩ := h
  · exact st_seq (st_callX (ss := [.im d]) (c := cBadTable) (by walk_at "ev") ⟨d, rfl, by rw [hb]; rfl⟩ rfl)
  refine st_seq (st_drop (s := .im .none) (by walk_at "ev"; exact ⟨_, rfl, by rw [tab_tabOk tab]; rfl⟩) ?_)
  have h4 := tab.r4
  have hc4 := tab.c4
  obtain ⟨r0, t', et, hr0⟩ := tab.head
  have e0 : t[0]? = some r0 := by rw [et]; rfl
  have a1 : EvA K (tCons (tVar 1) (tCons (tCB (rLenU K) (tCons (tVar 0) tNil)) tNil)) (params ["table", "mine", "theirs"] [.im (encT t), .im e, .im f]) [.im e, .im (.int (t.length : Nat))] := by
    walk_at "ev"
  have a2 : EvA K (tCons (tVar 2) (tCons (tCB (rLenU K) (tCons (tOp (rIx K) (tVar 0) (tC (.int 0))) tNil)) tNil)) (params ["table", "mine", "theirs"] [.im (encT t), .im e, .im f]) [.im f, .im (.int (n : Nat))] := by
    rw [← hr0]
    refine ea_im (ev_var rfl) (ea_im (ev_lenD (EvS.h (ev_ix (a := encT t) ?_ ?_ (item_T (j := 0) e0))) len_R) ea_nil)
    · walk_at "ev"
    · walk_at "ev"
  rcases hc with ⟨hb, rfl⟩ | ⟨mine, theirs, rfl, rfl, hm, ht, fm, ft, rfl⟩
  · cases h1 : mixOk t.length e with
    | false => exact st_seq (st_callX a1 (c := cBadMixture) ⟨_, _, rfl, by omega, ze, by rw [h1]; rfl⟩ rfl)
    | true =>
      have h2 : mixOk n f = false := hb.resolve_left (by rw [h1]; decide)
      refine st_seq (st_drop (s := .im .none) (ev_call a1 ⟨_, _, rfl, by omega, ze, by rw [h1]; rfl⟩) ?_)
      exact st_seq (st_callX a2 (c := cBadMixture) ⟨_, _, rfl, by omega, zf, by rw [h2]; rfl⟩ rfl)
  · refine st_seq (st_drop (s := .im .none) (ev_call a1 ⟨_, _, rfl, by omega, ze, by rw [(mixOk_M _ _).mpr hm]; rfl⟩) ?_)
    refine st_seq (st_drop (s := .im .none) (ev_call a2 ⟨_, _, rfl, by omega, zf, by rw [(mixOk_M _ _).mpr ht]; rfl⟩) ?_)
    refine st_ret (s := .im (encF (gotBy t mine theirs))) ?_ rfl
    walk_at "ev"
    exact ⟨_, _, _, _, rfl, tab.w, fm, ft, rfl⟩

def R_greatest : List Sl → Out → Prop := fun ss o => ∃ (xs : List Frc), ss = [.im (encM xs)] ∧ xs ≠ [] ∧ (∀ x ∈ xs, Fb 50000 x) ∧ o = .ret (.im (encF (greatF (xs.getD 0 (0, 1)) xs)))
def t_greatest (K : PySem.W.Frag) : TS := (tSeq (tAsg (tOp (rIx K) (tVar 0) (tC (.int 0))) (gName 1))
    (tSeq (tFor (iList K (tVar 0)) (gName 2) (tIfS (tB (tCall (spR K R_below) [] E0 (tCons (tVar 1) (tCons (tVar 2) tNil)))) (tAsg (tVar 2) (gName 1)) tNext))
    (tRet (tVar 1))))
theorem len_greatest {ss : List Sl} {o : Out} (h : R_greatest ss o) : ss.length = 1 := by
  first | (obtain ⟨_, rfl, _⟩ := h; rfl) | (obtain ⟨_, _, rfl, _⟩ := h; rfl) | (obtain ⟨_, _, _, rfl, _⟩ := h; rfl) | (obtain ⟨_, _, _, _, rfl, _⟩ := h; rfl) | (obtain ⟨_, _, _, _, _, rfl, _⟩ := h; rfl) | (obtain ⟨_, _, _, _, _, _, rfl, _⟩ := h; rfl)
theorem b_greatest {K : PySem.W.Frag} {E : XK} (ss : List Sl) (o : Out) (h : R_greatest ss o) : St K E (t_greatest K) (params ["fractions", "found", "one"] ss) { nx := fun _ => o = .ret (.im .none), rt := fun s => o = .ret s, ex := fun c => o = .exc c } := by
  obtain ⟨xs, rfl, hne, fb, rfl⟩ := h
  have h0 : 0 < xs.length := List.length_pos_iff.mpr hne
  have e0 : xs[0]? = some (xs.getD 0 (0, 1)) := getD_of h0
  generalize xs.getD 0 (0, 1) = x0 at *
  have fx0 : Fb 50000 x0 := fb _ (List.mem_of_getElem? e0)
  refine st_seq (st_asg (s := .im (encF x0)) (ev_ix (a := encM xs) (i := ((0 : Nat) : Int)) (ev_var rfl) (by walk_at "ev") (item_M e0)) ?_)
  have fg : ∀ i, Fb 50000 (greatF x0 (xs.take i)) := by
    intro i
    have : ∀ (ys : List Frc) (z : Frc), (∀ y ∈ ys, Fb 50000 y) → Fb 50000 z → Fb 50000 (greatF z ys) := by
      intro ys
      induction ys with
      | nil => exact fun z _ h => h
      | cons y ys ih =>
        intro z hy hz
        show Fb 50000 (greatF (if belowF z y = true then y else z) ys)
        refine ih _ (fun w hw => hy w (List.mem_cons_of_mem _ hw)) ?_
        split
        · exact hy y List.mem_cons_self
        · exact hz
    exact this _ _ (fun y hy => fb y (List.mem_of_mem_take hy)) fx0
  refine st_seq (st_forG (vs := [2]) (xs := xs) (enc := encF) (ei_list (by walk_at "ev")) (fun i => [.im (encM xs), .im (encF (greatF x0 (xs.take i))), .no]) (by walk_at "le") (fun i x hi => ?_) (fun G' hle => ?_))
  · refine ⟨_, tg_name (by decide), ?_⟩
    have f1 := fg i
    have f2 := fb x (List.mem_of_getElem? hi)
    have e : greatF x0 (xs.take (i + 1)) = if belowF (greatF x0 (xs.take i)) x = true then x else greatF x0 (xs.take i) := by
      rw [take_snoc hi]
      unfold greatF
      rw [List.foldl_append]
      rfl
    rw [e]
    generalize greatF x0 (xs.take i) = g at *
    refine st_if (b := belowF g x) ?_ (fun z => ?_) (fun z => ?_)
    · walk_at "ev"
      exact ⟨_, _, rfl, ⟨f1.a.mono (by decide), f1.b.mono (by decide), f2.a.mono (by decide), f2.b.mono (by decide)⟩, rfl⟩
    · rw [z]
      refine st_asg (s := .im (encF x)) (by walk_at "ev") ?_
      show Le [.im (encM xs), .im (encF x), .no] _
      walk_at "le"
    · rw [z]
      refine st_next ?_
      show Le [.im (encM xs), .im (encF g), .no] _
      walk_at "le"
  · rw [List.take_length] at hle
    exact st_le hle (st_ret (by walk_at "ev") rfl)

def R_best_rows : List Sl → Out → Prop := fun ss o => ∃ (t : List (List Int)) (theirs : List Frc) (n : Nat), ss = [.im (encT t), .im (encM theirs)] ∧ Tab t n ∧ (∀ y ∈ theirs, Fb 200 y) ∧ (o = .ret (.pr ((bestR t theirs).map fun i : Nat => .int i) (encF (mostF t theirs))) ∨ o = .ret (.im (.tuple [.list ((bestR t theirs).map fun i : Nat => .int i), encF (mostF t theirs)])))
def t_best_rows (K : PySem.W.Frag) : TS := (tSeq (tAsg (tLc (iList K (tVar 0)) (gName 4) tYes (tCall (spR K R_row_got) [] E0 (tCons (tVar 4) (tCons (tVar 1) tNil))) [4]) (gName 2))
    (tSeq (tAsg (tCall (spR K R_greatest) [] E0 (tCons (tVar 2) tNil)) (gName 3))
    (tRet (tTup (tCons (tLc (iRng1 (tCons (tCB (rLenU K) (tCons (tVar 0) tNil)) tNil)) (gName 4) (tTest (tOp (rEqD K) (tOp (rIx K) (tVar 2) (tVar 4)) (tVar 3))) (tVar 4) [4]) (tCons (tVar 3) tNil))))))
theorem len_best_rows {ss : List Sl} {o : Out} (h : R_best_rows ss o) : ss.length = 2 := by
  first | (obtain ⟨_, rfl, _⟩ := h; rfl) | (obtain ⟨_, _, rfl, _⟩ := h; rfl) | (obtain ⟨_, _, _, rfl, _⟩ := h; rfl) | (obtain ⟨_, _, _, _, rfl, _⟩ := h; rfl) | (obtain ⟨_, _, _, _, _, rfl, _⟩ := h; rfl) | (obtain ⟨_, _, _, _, _, _, rfl, _⟩ := h; rfl)
theorem b_best_rows {K : PySem.W.Frag} {E : XK} (ss : List Sl) (o : Out) (h : R_best_rows ss o) : St K E (t_best_rows K) (params ["table", "theirs", "told", "most", "row"] ss) { nx := fun _ => o = .ret (.im .none), rt := fun s => o = .ret s, ex := fun c => o = .exc c } := by
  obtain ⟨t, theirs, n, rfl, tab, ft, ho⟩ := h
  have rb : ∀ r ∈ t, Fb 833 (rowGot r theirs) := fun r hr => rowGot_fb (tab.bd r hr) ft (by rw [tab.row r hr]; exact tab.c4)
  have h1 := tab.r1
  have h4 := tab.r4
  have tl : (toldF t theirs).length = t.length := List.length_map _
  have tb : ∀ x ∈ toldF t theirs, Fb 833 x := fun x hx => by
    obtain ⟨r, hr, rfl⟩ := List.mem_map.mp hx
    exact rb r hr
  refine st_seq (st_asg (s := .ow ((toldF t theirs).map encF)) (EvS.to (ev_lc1 (xs := t) (enc := encR) (vs := [4]) (ei_list (by walk_at "ev")) (fun r => encF (rowGot r theirs)) (fun r => [.im (encT t), .im (encM theirs), .no, .no, .im (encR r)]) (fun r _ => tg_name (by decide)) (fun r hr => ?_) (by omega)) (by unfold toldF; rw [List.map_map]; rfl)) ?_)
  · walk_at "ev"
    exact ⟨_, _, rfl, wide_of (tab.bd r hr), fun y hy => (ft y hy).mono (by decide), by rw [tab.row r hr]; exact tab.c4, rfl⟩
  refine st_freeze 2 rfl ?_
  refine st_seq (st_asg (s := .im (encF (mostF t theirs))) (ev_call (ss := [.im (encM (toldF t theirs))]) (by walk_at "ev") ⟨_, rfl, fun z => by rw [z] at tl; simp at tl; omega, fun x hx => (tb x hx).mono (by decide), rfl⟩) ?_)
  have hlc : EvS K (tLc (iRng1 (tCons (tCB (rLenU K) (tCons (tVar 0) tNil)) tNil)) (gName 4) (tTest (tOp (rEqD K) (tOp (rIx K) (tVar 2) (tVar 4)) (tVar 3))) (tVar 4) [4]) [.im (encT t), .im (encM theirs), .im (encM (toldF t theirs)), .im (encF (mostF t theirs)), .no] (.ow ((bestR t theirs).map fun i : Nat => .int i)) := by
    refine ev_lc (xs := List.range t.length) (enc := fun i : Nat => .int i) (vs := [4]) (ei_range (n := t.length) (by walk_at "ev") (by omega)) (fun i => decide ((toldF t theirs).getD i (0, 1) = mostF t theirs)) (fun i : Nat => .int i) (fun i => [.im (encT t), .im (encM theirs), .im (encM (toldF t theirs)), .im (encF (mostF t theirs)), .im (.int i)]) (fun i _ => tg_name (by decide)) (fun i hi => ?_) (fun i _ _ => by walk_at "ev") (by rw [List.length_range]; omega)
    have hi := List.mem_range.mp hi
    refine EvB.to (a := PyData.eqv (encF ((toldF t theirs).getD i (0, 1))) (encF (mostF t theirs))) ?_ eqv_F
    refine eb_test (EvS.h (ev_eqD (EvS.h (ev_ix (a := encM (toldF t theirs)) (ev_var rfl) (EvS.h (ev_var rfl)) (item_M (getD_of (by rw [tl]; exact hi))))) (EvS.h (ev_var rfl)) (shaped_of lay_F (by decide)) (shaped_of lay_F (by decide))))
  rcases ho with rfl | rfl
  · exact st_ret (ev_tupO hlc (ev_var rfl)) rfl
  · exact st_ret (ev_tup (ds := [.list ((bestR t theirs).map fun i : Nat => .int i), encF (mostF t theirs)]) (ea_im hlc.freeze (ea_im (ev_var rfl) ea_nil)) (Nat.le_of_ble_eq_true rfl)) rfl

def R_best (cBadTable cBadMixture : Addr) : List Sl → Out → Prop := fun ss o => ∃ d f : PyData, ss = [.im d, .im f] ∧ ((tabOk d = false ∧ o = .exc cBadTable) ∨ ∃ t n, d = encT t ∧ Tab t n ∧ MixSz f ∧
  ((mixOk n f = false ∧ o = .exc cBadMixture) ∨ ∃ theirs, f = encM theirs ∧ Mix theirs n ∧ (∀ y ∈ theirs, Fb 200 y) ∧ (o = .ret (.pr ((bestR t theirs).map fun i : Nat => .int i) (encF (mostF t theirs))) ∨ o = .ret (.im (.tuple [.list ((bestR t theirs).map fun i : Nat => .int i), encF (mostF t theirs)])))))
def t_best (K : PySem.W.Frag) (cBadTable : Addr) (cBadMixture : Addr) (E : XK) : TS := (tSeq (tDrop (tCall (spR K (R_asked_table cBadTable)) [] E (tCons (tVar 0) tNil)))
    (tSeq (tDrop (tCall (spR K (R_asked_mixture cBadMixture)) [] E (tCons (tVar 1) (tCons (tCB (rLenU K) (tCons (tOp (rIx K) (tVar 0) (tC (.int 0))) tNil)) tNil))))
    (tRet (tCall (spR K R_best_rows) [] E0 (tCons (tVar 0) (tCons (tVar 1) tNil))))))
theorem len_best {cBadTable : Addr} {cBadMixture : Addr} {ss : List Sl} {o : Out} (h : R_best cBadTable cBadMixture ss o) : ss.length = 2 := by
  first | (obtain ⟨_, rfl, _⟩ := h; rfl) | (obtain ⟨_, _, rfl, _⟩ := h; rfl) | (obtain ⟨_, _, _, rfl, _⟩ := h; rfl) | (obtain ⟨_, _, _, _, rfl, _⟩ := h; rfl) | (obtain ⟨_, _, _, _, _, rfl, _⟩ := h; rfl) | (obtain ⟨_, _, _, _, _, _, rfl, _⟩ := h; rfl)
theorem b_best {K : PySem.W.Frag} {E : XK} {cBadTable : Addr} {cBadMixture : Addr} (ss : List Sl) (o : Out) (h : R_best cBadTable cBadMixture ss o) : St K E (t_best K cBadTable cBadMixture E) (params ["table", "theirs"] ss) { nx := fun _ => o = .ret (.im .none), rt := fun s => o = .ret s, ex := fun c => o = .exc c } := by
  obtain ⟨d, f, rfl, ⟨hb, rfl⟩ | ⟨t, n, rfl, tab, zf, hc⟩⟩ := h
  · exact st_seq (st_callX (ss := [.im d]) (c := cBadTable) (by walk_at "ev") ⟨d, rfl, by rw [hb]; rfl⟩ rfl)
  refine st_seq (st_drop (s := .im .none) (by walk_at "ev"; exact ⟨_, rfl, by rw [tab_tabOk tab]; rfl⟩) ?_)
  have h4 := tab.r4
  have hc4 := tab.c4
  obtain ⟨r0, t', et, hr0⟩ := tab.head
  have e0 : t[0]? = some r0 := by rw [et]; rfl
  have a2 : EvA K (tCons (tVar 1) (tCons (tCB (rLenU K) (tCons (tOp (rIx K) (tVar 0) (tC (.int 0))) tNil)) tNil)) (params ["table", "theirs"] [.im (encT t), .im f]) [.im f, .im (.int (n : Nat))] := by
    rw [← hr0]
    refine ea_im (ev_var rfl) (ea_im (ev_lenD (EvS.h (ev_ix (a := encT t) ?_ ?_ (item_T (j := 0) e0))) len_R) ea_nil)
    · walk_at "ev"
    · walk_at "ev"
  rcases hc with ⟨h2, rfl⟩ | ⟨theirs, rfl, ht, ft, ho⟩
  · exact st_seq (st_callX a2 (c := cBadMixture) ⟨_, _, rfl, by omega, zf, by rw [h2]; rfl⟩ rfl)
  · refine st_seq (st_drop (s := .im .none) (ev_call a2 ⟨_, _, rfl, by omega, zf, by rw [(mixOk_M _ _).mpr ht]; rfl⟩) ?_)
    rcases ho with rfl | rfl
    · exact st_ret (ev_call (ss := [.im (encT t), .im (encM theirs)]) (by walk_at "ev") ⟨_, _, _, rfl, tab, ft, .inl rfl⟩) rfl
    · exact st_ret (ev_call (ss := [.im (encT t), .im (encM theirs)]) (by walk_at "ev") ⟨_, _, _, rfl, tab, ft, .inr rfl⟩) rfl
/-! ### fractions as rational numbers -/
def qv (x : Frc) : Rat := (x.1 : Rat) / (x.2 : Rat)
structure Cn (x : Frc) : Prop where
  pos : 0 < x.2
  gcd : Int.gcd x.1 x.2 = 1
theorem q0 {b : Int} (h : 0 < b) : (0 : Rat) < (b : Rat) := by
  have := Rat.intCast_lt_intCast.mpr h
  exact this
theorem qn {b : Int} (h : 0 < b) : (b : Rat) ≠ 0 := fun z => by
  have := q0 h
  rw [z] at this
  exact absurd this (by decide)
theorem mk_pos {a b : Int} (hb : 0 < b) : 0 < (mk a b).2 := let ⟨_, _, _, _, p⟩ := mk_parts (a := a) hb; p
theorem qv_mk {a b : Int} (hb : 0 < b) : qv (mk a b) = (a : Rat) / (b : Rat) := by
  obtain ⟨g, g0, ea, eb, p⟩ := mk_parts (a := a) hb
  unfold qv
  generalize mk a b = x at *
  rw [ea, eb, Rat.intCast_mul, Rat.intCast_mul]
  have h1 := qn g0
  have h2 := qn p
  grind
theorem mk_cn {a b : Int} (hb : 0 < b) : Cn (mk a b) := ⟨mk_pos hb, by
  unfold mk
  have h : 0 < Int.gcd a b := by have := gcd_pos (a := a) hb; omega
  exact Int.gcd_ediv_gcd_ediv_gcd h⟩
theorem cn_mk {x : Frc} (h : Cn x) : mk x.1 x.2 = x := by
  unfold mk
  rw [h.gcd]
  simp
theorem mk_ext {a b c d : Int} (hb : 0 < b) (hd : 0 < d) (e : (a : Rat) / b = (c : Rat) / d) : mk a b = mk c d := by
  have h1 := qn hb
  have h2 := qn hd
  have e2 : (a : Rat) * d = c * b := by grind
  rw [← Rat.intCast_mul, ← Rat.intCast_mul] at e2
  have e3 := Rat.intCast_inj.mp e2
  have l : mk (d * a) (d * b) = mk a b := mk_scale hd
  have r : mk (b * c) (b * d) = mk c d := mk_scale hb
  rw [← l, ← r, Int.mul_comm d a, e3, Int.mul_comm c b, Int.mul_comm d b]
theorem cn_ext {x y : Frc} (hx : Cn x) (hy : Cn y) (e : qv x = qv y) : x = y := by
  rw [← cn_mk hx, ← cn_mk hy]
  exact mk_ext hx.pos hy.pos e
theorem cn01 : Cn (0, 1) := ⟨by decide, by decide⟩
theorem qv_plus {x y : Frc} (hx : 0 < x.2) (hy : 0 < y.2) : qv (plusF x y) = qv x + qv y := by
  unfold plusF
  rw [qv_mk (Int.mul_pos hx hy)]
  unfold qv
  have h1 := qn hx
  have h2 := qn hy
  rw [Rat.intCast_add, Rat.intCast_mul, Rat.intCast_mul, Rat.intCast_mul]
  grind
theorem qv_times {x y : Frc} (hx : 0 < x.2) (hy : 0 < y.2) : qv (timesF x y) = qv x * qv y := by
  unfold timesF
  rw [qv_mk (Int.mul_pos hx hy)]
  unfold qv
  have h1 := qn hx
  have h2 := qn hy
  rw [Rat.intCast_mul, Rat.intCast_mul]
  grind
theorem plus_cn {x y : Frc} (hx : 0 < x.2) (hy : 0 < y.2) : Cn (plusF x y) := mk_cn (Int.mul_pos hx hy)
theorem times_cn {x y : Frc} (hx : 0 < x.2) (hy : 0 < y.2) : Cn (timesF x y) := mk_cn (Int.mul_pos hx hy)
theorem below_qv {x y : Frc} (hx : 0 < x.2) (hy : 0 < y.2) : belowF x y = decide (qv x < qv y) := by
  unfold belowF qv
  refine decide_eq_decide.mpr ?_
  rw [Rat.div_lt_iff (q0 hx)]
  have h1 := qn hy
  have e : (y.1 : Rat) / y.2 * x.2 = (y.1 * x.2 : Rat) / y.2 := by grind
  rw [e, Rat.lt_div_iff (q0 hy), ← Rat.intCast_mul, ← Rat.intCast_mul]
  exact Rat.intCast_lt_intCast.symm
theorem foldl_qv {xs : List Frc} : ∀ {z : Frc}, (∀ x ∈ xs, 0 < x.2) → Cn z → qv (xs.foldl plusF z) = qv z + (xs.map qv).sum ∧ Cn (xs.foldl plusF z) := by
  induction xs with
  | nil => exact fun {z} _ hz => ⟨by rw [List.map_nil, List.sum_nil, Rat.add_zero]; rfl, hz⟩
  | cons x xs ih =>
    intro z h hz
    have hx := h x List.mem_cons_self
    obtain ⟨a, b⟩ := ih (z := plusF z x) (fun y hy => h y (List.mem_cons_of_mem _ hy)) (plus_cn hz.pos hx)
    refine ⟨?_, b⟩
    rw [List.foldl_cons, a, qv_plus hz.pos hx, List.map_cons, List.sum_cons]
    grind
theorem qv_total {xs : List Frc} (h : ∀ x ∈ xs, 0 < x.2) : qv (totalF xs) = (xs.map qv).sum := by
  have := (foldl_qv h cn01).1
  unfold totalF
  rw [this]
  have : qv (0, 1) = 0 := by unfold qv; grind
  rw [this]
  grind
theorem total_cn {xs : List Frc} (h : ∀ x ∈ xs, 0 < x.2) : Cn (totalF xs) := (foldl_qv h cn01).2
/-- the sum of numbers by shares -/
def dotQ (row : List Int) (ms : List Frc) : Rat := ((row.zip ms).map fun p => (p.1 : Rat) * qv p.2).sum
theorem rowGot_cn {row : List Int} {ms : List Frc} (h : ∀ x ∈ ms, 0 < x.2) : Cn (rowGot row ms) := total_cn fun x hx => by
  obtain ⟨p, hp, rfl⟩ := List.mem_map.mp hx
  exact mk_pos (Int.mul_pos (show (0 : Int) < 1 by decide) (h _ (List.of_mem_zip (a := p.1) (b := p.2) hp).2))
theorem qv_rowGot {row : List Int} {ms : List Frc} (h : ∀ x ∈ ms, 0 < x.2) : qv (rowGot row ms) = dotQ row ms := by
  have key : ∀ p ∈ row.zip ms, 0 < p.2.2 := fun p hp => h _ (List.of_mem_zip (a := p.1) (b := p.2) hp).2
  unfold rowGot dotQ
  rw [qv_total fun x hx => by
    obtain ⟨p, hp, rfl⟩ := List.mem_map.mp hx
    exact mk_pos (Int.mul_pos (show (0 : Int) < 1 by decide) (key p hp)), List.map_map]
  refine congrArg List.sum (List.map_congr_left fun p hp => ?_)
  show qv (timesF (p.1, 1) p.2) = _
  rw [qv_times (show (0 : Int) < 1 by decide) (key p hp)]
  have : qv (p.1, 1) = (p.1 : Rat) := by unfold qv; grind
  rw [this]
theorem gotBy_cn {t : List (List Int)} {mine theirs : List Frc} (h : ∀ x ∈ mine, 0 < x.2) (h2 : ∀ x ∈ theirs, 0 < x.2) : Cn (gotBy t mine theirs) := total_cn fun x hx => by
  obtain ⟨p, hp, rfl⟩ := List.mem_map.mp hx
  exact mk_pos (Int.mul_pos (h _ (List.of_mem_zip (a := p.1) (b := p.2) hp).1) (rowGot_cn h2).pos)
theorem qv_gotBy {t : List (List Int)} {mine theirs : List Frc} (h : ∀ x ∈ mine, 0 < x.2) (h2 : ∀ x ∈ theirs, 0 < x.2) : qv (gotBy t mine theirs) = ((mine.zip t).map fun p => qv p.1 * dotQ p.2 theirs).sum := by
  have key : ∀ p ∈ mine.zip t, 0 < p.1.2 := fun p hp => h _ (List.of_mem_zip (a := p.1) (b := p.2) hp).1
  unfold gotBy
  rw [qv_total fun x hx => by
    obtain ⟨p, hp, rfl⟩ := List.mem_map.mp hx
    exact mk_pos (Int.mul_pos (key p hp) (rowGot_cn h2).pos), List.map_map]
  refine congrArg List.sum (List.map_congr_left fun p hp => ?_)
  show qv (timesF p.1 (rowGot p.2 theirs)) = _
  rw [qv_times (key p hp) (rowGot_cn h2).pos, qv_rowGot h2]
/-! ### the greatest of some -/
theorem greatF_is : ∀ (xs : List Frc) (z : Frc), Cn z → (∀ x ∈ xs, Cn x) → (greatF z xs = z ∨ greatF z xs ∈ xs) ∧ qv z ≤ qv (greatF z xs) ∧ ∀ x ∈ xs, qv x ≤ qv (greatF z xs)
  | [], z, hz, _ => ⟨.inl rfl, Rat.le_refl, fun _ h => nomatch h⟩
  | x :: xs, z, hz, h => by
    have hx := h x List.mem_cons_self
    have e : greatF z (x :: xs) = greatF (if belowF z x = true then x else z) xs := rfl
    have hc : Cn (if belowF z x = true then x else z) := by split <;> assumption
    obtain ⟨a, b, c⟩ := greatF_is xs _ hc fun y hy => h y (List.mem_cons_of_mem _ hy)
    rw [e]
    simp only [below_qv hz.pos hx.pos, decide_eq_true_eq] at a b c hc ⊢
    have le1 : qv z ≤ qv (if qv z < qv x then x else z) := by
      split
      · rename_i hlt; exact Rat.le_of_lt hlt
      · exact Rat.le_refl
    have le2 : qv x ≤ qv (if qv z < qv x then x else z) := by
      split
      · exact Rat.le_refl
      · rename_i hlt; exact Rat.not_lt.mp hlt
    refine ⟨?_, Rat.le_trans le1 b, fun y hy => ?_⟩
    · rcases a with a | a
      · by_cases hlt : qv z < qv x
        · rw [if_pos hlt] at a ⊢
          exact .inr (by rw [a]; exact List.mem_cons_self)
        · rw [if_neg hlt] at a ⊢
          exact .inl a
      · exact .inr (List.mem_cons_of_mem _ a)
    · rcases List.mem_cons.mp hy with rfl | hy
      · exact Rat.le_trans le2 b
      · exact c y hy
theorem told_cn {t : List (List Int)} {theirs : List Frc} (h : ∀ x ∈ theirs, 0 < x.2) : ∀ x ∈ toldF t theirs, Cn x := fun x hx => by
  obtain ⟨r, _, rfl⟩ := List.mem_map.mp hx
  exact rowGot_cn h
theorem most_is {t : List (List Int)} {theirs : List Frc} (h : ∀ x ∈ theirs, 0 < x.2) (hn : 0 < t.length) : mostF t theirs ∈ toldF t theirs ∧ ∀ x ∈ toldF t theirs, qv x ≤ qv (mostF t theirs) := by
  have hl : (toldF t theirs).length = t.length := List.length_map _
  have hm : (toldF t theirs).getD 0 (0, 1) ∈ toldF t theirs := List.mem_of_getElem? (getD_of (by rw [hl]; exact hn))
  obtain ⟨a, b, c⟩ := greatF_is (toldF t theirs) ((toldF t theirs).getD 0 (0, 1)) (told_cn h _ hm) (told_cn h)
  refine ⟨?_, c⟩
  unfold mostF
  rcases a with a | a
  · rw [a]; exact hm
  · exact a
/-- a row is a best answer just if none gets more -/
theorem best_iff {t : List (List Int)} {theirs : List Frc} (h : ∀ x ∈ theirs, 0 < x.2) {i : Nat} (hi : i < t.length) : (toldF t theirs).getD i (0, 1) = mostF t theirs ↔ ∀ x ∈ toldF t theirs, qv x ≤ qv ((toldF t theirs).getD i (0, 1)) := by
  have hl : (toldF t theirs).length = t.length := List.length_map _
  have hm : (toldF t theirs).getD i (0, 1) ∈ toldF t theirs := List.mem_of_getElem? (getD_of (by rw [hl]; exact hi))
  obtain ⟨a, b⟩ := most_is h (Nat.lt_of_le_of_lt (Nat.zero_le i) hi)
  refine ⟨fun e => by rw [e]; exact b, fun g => cn_ext (told_cn h _ hm) (told_cn h _ a) (Rat.le_antisymm (b _ hm) (g _ a))⟩
open PySem L2
/-! ### the laws' own sums, mixtures -/
def accS (l : List (Int × Frc)) : Int × Int := l.foldl (fun a p => (a.1 * p.2.2 + p.1 * p.2.1 * a.2, a.2 * p.2.2)) (0, 1)
theorem accS_snoc (l : List (Int × Frc)) (p : Int × Frc) : accS (l ++ [p]) = ((accS l).1 * p.2.2 + p.1 * p.2.1 * (accS l).2, (accS l).2 * p.2.2) := by
  unfold accS
  rw [List.foldl_append]
  rfl
theorem snoc_ind {α : Type} {P : List α → Prop} (h0 : P []) (h1 : ∀ l x, P l → P (l ++ [x])) (l : List α) : P l := by
  have : ∀ n (l : List α), l.length = n → P l := by
    intro n
    induction n with
    | zero =>
      intro l hl
      rw [List.eq_nil_of_length_eq_zero hl]
      exact h0
    | succ n ih =>
      intro l hl
      have hne : l ≠ [] := fun z => by rw [z] at hl; simp at hl
      rw [← List.dropLast_concat_getLast hne]
      exact h1 _ _ (ih _ (by rw [List.length_dropLast, hl]; rfl))
  exact this _ l rfl
theorem accS_ok {n : Nat} (l : List (Int × Frc)) : (∀ p ∈ l, (-100 ≤ p.1 ∧ p.1 ≤ 100) ∧ Fb n p.2) → 0 < (accS l).2 ∧ Sm ((n + 9) * l.length) (accS l).1 ∧ Sm (n * l.length + 1) (accS l).2 ∧ ((accS l).1 : Rat) / ((accS l).2 : Rat) = (l.map fun p => (p.1 : Rat) * qv p.2).sum := by
  induction l using snoc_ind with
  | h0 =>
    intro _
    refine ⟨by decide, (show (0 : Int).natAbs < 2 ^ ((n + 9) * 0) by rw [Nat.mul_zero]; decide), (show (1 : Int).natAbs < 2 ^ (n * 0 + 1) by rw [Nat.mul_zero]; decide), ?_⟩
    show ((0 : Int) : Rat) / ((1 : Int) : Rat) = 0
    grind
  | h1 l p ih =>
    intro h
    obtain ⟨i1, i2, i3, i4⟩ := ih fun q hq => h q (List.mem_append_left _ hq)
    obtain ⟨hp, hf⟩ := h p (List.mem_append_right _ List.mem_cons_self)
    rw [accS_snoc]
    have w7 : Sm 7 p.1 := by show p.1.natAbs < 128; omega
    refine ⟨Int.mul_pos i1 hf.pos, ?_, ?_, ?_⟩
    · rw [List.length_append]
      refine (((i2.mul hf.b).mono (Nat.le_add_right _ 8)).add (((w7.mul hf.a).mul i3).mono ?_)).mono ?_
      · have : n * l.length ≤ (n + 9) * l.length := Nat.mul_le_mul_right _ (by omega)
        omega
      · have e : (n + 9) * (l.length + [p].length) = (n + 9) * l.length + (n + 9) := by rw [List.length_singleton, Nat.mul_succ]
        omega
    · rw [List.length_append]
      refine (i3.mul hf.b).mono ?_
      have e : n * (l.length + [p].length) = n * l.length + n := by rw [List.length_singleton, Nat.mul_succ]
      omega
    · rw [List.map_append, List.sum_append, ← i4]
      have a := qn i1
      have b := qn hf.pos
      show ((_ : Int) : Rat) / ((_ : Int) : Rat) = _ + (((p.1 : Rat) * qv p.2) + 0)
      unfold qv
      rw [Rat.intCast_add, Rat.intCast_mul, Rat.intCast_mul, Rat.intCast_mul, Rat.intCast_mul]
      grind
theorem accS_row {n : Nat} {ws : List Int} {ms : List Frc} (hw : ∀ w ∈ ws, -100 ≤ w ∧ w ≤ 100) (hm : ∀ x ∈ ms, Fb n x) : mk (accS (ws.zip ms)).1 (accS (ws.zip ms)).2 = rowGot ws ms := by
  obtain ⟨a, _, _, d⟩ := accS_ok (n := n) (ws.zip ms) fun p hp => ⟨hw _ (List.of_mem_zip (a := p.1) (b := p.2) hp).1, hm _ (List.of_mem_zip (a := p.1) (b := p.2) hp).2⟩
  refine cn_ext (mk_cn a) (rowGot_cn fun x hx => (hm x hx).pos) ?_
  rw [qv_mk a, qv_rowGot fun x hx => (hm x hx).pos, d]
  rfl

def R_law_sum : List Sl → Out → Prop := fun ss o => ∃ (ws : List Int) (ms : List Frc) (n : Nat), ss = [.im (encR ws), .im (encM ms)] ∧ (∀ w ∈ ws, -100 ≤ w ∧ w ≤ 100) ∧ (∀ x ∈ ms, Fb n x) ∧ (n + 9) * ws.length ≤ 8000 ∧ o = .ret (.im (encF (rowGot ws ms)))
def t_law_sum (K : PySem.W.Frag) : TS := (tSeq (tAsg (tTup (tCons (tC (.int 0)) (tCons (tC (.int 1)) tNil))) (gTup K 2 (gCons (gName 2) (gCons (gName 3) gNil))))
    (tSeq (tFor (iZip K (tCons (tVar 0) (tCons (tVar 1) tNil))) (gTup K 2 (gCons (gName 4) (gCons (gName 5) gNil))) (tSeq (tAsg (tOp (rI0 fun i j => .int (i + j)) (tOp (rI CMulW fun i j => .int (i * j)) (tVar 2) (tOp (rIx K) (tVar 5) (tC (.int 1)))) (tOp (rI CMulW fun i j => .int (i * j)) (tOp (rI CMulW fun i j => .int (i * j)) (tVar 4) (tOp (rIx K) (tVar 5) (tC (.int 0)))) (tVar 3))) (gName 2))
    (tAsg (tOp (rI CMulW fun i j => .int (i * j)) (tVar 3) (tOp (rIx K) (tVar 5) (tC (.int 1)))) (gName 3))))
    (tRet (tCall (spR K R_law_made) [] E0 (tCons (tVar 2) (tCons (tVar 3) tNil))))))
theorem len_law_sum {ss : List Sl} {o : Out} (h : R_law_sum ss o) : ss.length = 2 := by
  first | (obtain ⟨_, rfl, _⟩ := h; rfl) | (obtain ⟨_, _, rfl, _⟩ := h; rfl) | (obtain ⟨_, _, _, rfl, _⟩ := h; rfl) | (obtain ⟨_, _, _, _, rfl, _⟩ := h; rfl) | (obtain ⟨_, _, _, _, _, rfl, _⟩ := h; rfl) | (obtain ⟨_, _, _, _, _, _, rfl, _⟩ := h; rfl)
theorem b_law_sum {K : PySem.W.Frag} {E : XK} (ss : List Sl) (o : Out) (h : R_law_sum ss o) : St K E (t_law_sum K) (params ["_law_worths", "_law_shares", "_law_over", "_law_under", "_law_worth", "_law_share"] ss) { nx := fun _ => o = .ret (.im .none), rt := fun s => o = .ret s, ex := fun c => o = .exc c } := by
  obtain ⟨ws, ms, n, rfl, hw, hm, hz, rfl⟩ := h
  have key : ∀ p ∈ ws.zip ms, (-100 ≤ p.1 ∧ p.1 ≤ 100) ∧ Fb n p.2 := fun p hp => ⟨hw _ (List.of_mem_zip (a := p.1) (b := p.2) hp).1, hm _ (List.of_mem_zip (a := p.1) (b := p.2) hp).2⟩
  have hl : (ws.zip ms).length ≤ ws.length := by rw [List.length_zip]; omega
  have big : ∀ i, i ≤ (ws.zip ms).length → (n + 9) * i ≤ 8000 := fun i hi => Nat.le_trans (Nat.mul_le_mul_left _ (Nat.le_trans hi hl)) hz
  refine st_seq (st_asgT (vs := [2, 3]) (d := .tuple [.int 0, .int 1]) ?_ (tg_tup (tgs_cons (tg_name (by decide)) (tgs_cons (tg_name (by decide)) tgs_nil)) rfl) ?_)
  · refine ev_tup (ds := [.int 0, .int 1]) ?_ (Nat.le_of_ble_eq_true rfl)
    show EvA K _ _ [.im _, .im _]
    walk_at "ev"
  refine st_seq (st_forG (vs := [4, 5]) (xs := ws.zip ms) (enc := fun p : Int × Frc => .tuple [.int p.1, encF p.2]) ((ei_zip (by walk_at "ev") (by walk_at "ev")).to (zip_pairD _ _ _ _)) (fun i => [.im (encR ws), .im (encM ms), .im (.int (accS ((ws.zip ms).take i)).1), .im (.int (accS ((ws.zip ms).take i)).2), .no, .no]) (by walk_at "le") (fun i p hi => ?_) (fun G' hle => ?_))
  · refine ⟨_, tg_tup (tgs_cons (tg_name (by decide)) (tgs_cons (tg_name (by decide)) tgs_nil)) rfl, ?_⟩
    have hlt := (List.getElem?_eq_some_iff.mp hi).1
    obtain ⟨i1, i2, i3, _⟩ := accS_ok (n := n) ((ws.zip ms).take i) fun q hq => key q (List.mem_of_mem_take hq)
    obtain ⟨hp, hf⟩ := key p (List.mem_of_getElem? hi)
    rw [List.length_take, Nat.min_eq_left (Nat.le_of_lt hlt)] at i2 i3
    have b1 := big i (Nat.le_of_lt hlt)
    have b2 := big (i + 1) hlt
    have b3 : n * i ≤ (n + 9) * i := Nat.mul_le_mul_right _ (by omega)
    have b4 : n + 9 ≤ 8000 := by rw [Nat.mul_succ] at b2; omega
    have w7 : Sm 7 p.1 := by show p.1.natAbs < 128; omega
    rw [take_snoc hi, accS_snoc]
    generalize accS ((ws.zip ms).take i) = a at *
    refine st_seq (st_asg (s := .im (.int (a.1 * p.2.2 + p.1 * p.2.1 * a.2))) ?_ ?_)
    · walk_at "ev"
      · exact i2.cmul hf.b (by omega)
      · exact w7.cmul hf.a (by omega)
      · exact (w7.mul hf.a).cmul i3 (by omega)
    refine st_asg (s := .im (.int (a.2 * p.2.2))) ?_ ?_
    · walk_at "ev"
      exact i3.cmul hf.b (by omega)
    · walk_at "le"
  · rw [List.take_length] at hle
    obtain ⟨i1, i2, i3, _⟩ := accS_ok (n := n) (ws.zip ms) key
    have b1 := big _ (Nat.le_refl _)
    have b3 : n * (ws.zip ms).length ≤ (n + 9) * (ws.zip ms).length := Nat.mul_le_mul_right _ (by omega)
    refine st_le hle (st_ret (s := .im (encF (rowGot ws ms))) ?_ rfl)
    rw [← accS_row hw hm]
    walk_at "ev"
    exact ⟨_, _, rfl, i1, i3.mono (by omega), rfl⟩

def R_law_less : List Sl → Out → Prop := fun ss o => ∃ x y : Frc, ss = [.im (encF x), .im (encF y)] ∧ Fb 100000 x ∧ Fb 100000 y ∧ o = .ret (.im (.bool (belowF x y)))
def t_law_less (K : PySem.W.Frag) : TS := (tRet (tOp (rI0 fun i j => .bl (decide (i < j))) (tOp (rI CMulW fun i j => .int (i * j)) (tOp (rIx K) (tVar 0) (tC (.int 0))) (tOp (rIx K) (tVar 1) (tC (.int 1)))) (tOp (rI CMulW fun i j => .int (i * j)) (tOp (rIx K) (tVar 1) (tC (.int 0))) (tOp (rIx K) (tVar 0) (tC (.int 1))))))
theorem len_law_less {ss : List Sl} {o : Out} (h : R_law_less ss o) : ss.length = 2 := by
  first | (obtain ⟨_, rfl, _⟩ := h; rfl) | (obtain ⟨_, _, rfl, _⟩ := h; rfl) | (obtain ⟨_, _, _, rfl, _⟩ := h; rfl) | (obtain ⟨_, _, _, _, rfl, _⟩ := h; rfl) | (obtain ⟨_, _, _, _, _, rfl, _⟩ := h; rfl) | (obtain ⟨_, _, _, _, _, _, rfl, _⟩ := h; rfl)
theorem b_law_less {K : PySem.W.Frag} {E : XK} (ss : List Sl) (o : Out) (h : R_law_less ss o) : St K E (t_law_less K) (params ["_law_one", "_law_other"] ss) { nx := fun _ => o = .ret (.im .none), rt := fun s => o = .ret s, ex := fun c => o = .exc c } := by
  obtain ⟨x, y, rfl, hx, hy, rfl⟩ := h
  refine st_ret (s := .im (.bool (belowF x y))) ?_ rfl
  walk_at "ev"
  · exact hx.a.cmul hy.b (by decide)
  · exact hy.a.cmul hx.b (by decide)

def R_law_across : List Sl → Out → Prop := fun ss o => ∃ t n, ss = [.im (encT t)] ∧ Rect t n ∧ o = .ret (.im (encT (acrossT t n)))
def t_law_across (K : PySem.W.Frag) : TS := (tRet (tLc (iRng1 (tCons (tCB (rLenU K) (tCons (tOp (rIx K) (tVar 0) (tC (.int 0))) tNil)) tNil)) (gName 1) tYes (tLc (iList K (tVar 0)) (gName 2) tYes (tOp (rIx K) (tVar 2) (tVar 1)) [2]) [1]))
theorem len_law_across {ss : List Sl} {o : Out} (h : R_law_across ss o) : ss.length = 1 := by
  first | (obtain ⟨_, rfl, _⟩ := h; rfl) | (obtain ⟨_, _, rfl, _⟩ := h; rfl) | (obtain ⟨_, _, _, rfl, _⟩ := h; rfl) | (obtain ⟨_, _, _, _, rfl, _⟩ := h; rfl) | (obtain ⟨_, _, _, _, _, rfl, _⟩ := h; rfl) | (obtain ⟨_, _, _, _, _, _, rfl, _⟩ := h; rfl)
theorem b_law_across {K : PySem.W.Frag} {E : XK} (ss : List Sl) (o : Out) (h : R_law_across ss o) : St K E (t_law_across K) (params ["_law_table_here", "_law_column", "_law_row"] ss) { nx := fun _ => o = .ret (.im .none), rt := fun s => o = .ret s, ex := fun c => o = .exc c } := by
  obtain ⟨t, n, rfl, hr, rfl⟩ := h
  exact b_across (K := K) (E := E) [.im (encT t)] (.ret (.im (encT (acrossT t n)))) ⟨t, n, rfl, hr, .inr rfl⟩

theorem ixN_natU {n j : Nat} (hj : j < n) : ixN n (j : Int) = some j := by
  unfold ixN
  rw [if_pos (Int.natCast_nonneg j), if_pos (by omega), Int.toNat_natCast]
/-- drawn weights -/
def drawnA (cell : Int) (many : Nat) : List Int := (List.range many).map fun k : Nat => draw (cell + 31 * (k : Int)) 5 5
def drawnW (cell : Int) (many : Nat) : List Int := (drawnA cell many).set (draw cell 6 many).toNat ((drawnA cell many).getD (draw cell 6 many).toNat 0 + 1)
def drawnM (cell : Int) (many : Nat) : List Frc := (drawnW cell many).map fun x => mk x (drawnW cell many).sum
theorem drawnA_len (cell : Int) (many : Nat) : (drawnA cell many).length = many := by unfold drawnA; rw [List.length_map, List.length_range]
theorem drawnW_len (cell : Int) (many : Nat) : (drawnW cell many).length = many := by unfold drawnW; rw [List.length_set]; exact drawnA_len _ _
theorem drawnM_len (cell : Int) (many : Nat) : (drawnM cell many).length = many := by unfold drawnM; rw [List.length_map]; exact drawnW_len _ _
theorem drawnA_bd (cell : Int) (many : Nat) : ∀ x ∈ drawnA cell many, 0 ≤ x ∧ x ≤ 4 := fun x hx => by
  unfold drawnA at hx
  obtain ⟨k, _, rfl⟩ := List.mem_map.mp hx
  have := draw_bd (cell + 31 * (k : Int)) 5 (m := 5) (by decide)
  omega
theorem drawnA_get (cell : Int) (many : Nat) (k : Nat) : 0 ≤ (drawnA cell many).getD k 0 ∧ (drawnA cell many).getD k 0 ≤ 4 := by
  rw [List.getD_eq_getElem?_getD]
  cases h : (drawnA cell many)[k]? with
  | none => exact ⟨Int.le_refl _, by decide⟩
  | some x => exact drawnA_bd _ _ x (List.mem_of_getElem? h)
theorem drawnW_bd (cell : Int) (many : Nat) : ∀ x ∈ drawnW cell many, 0 ≤ x ∧ x ≤ 5 := fun x hx => by
  unfold drawnW at hx
  rcases List.mem_or_eq_of_mem_set hx with h | rfl
  · have := drawnA_bd _ _ x h
    omega
  · have := drawnA_get cell many (draw cell 6 many).toNat
    omega
theorem sum_nonneg : ∀ {l : List Int}, (∀ x ∈ l, 0 ≤ x) → 0 ≤ l.sum ∧ ∀ x ∈ l, x ≤ l.sum
  | [], _ => ⟨Int.le_refl _, fun _ h => nomatch h⟩
  | x :: l, h => by
    have ih := sum_nonneg (l := l) fun y hy => h y (List.mem_cons_of_mem _ hy)
    have hx := h x List.mem_cons_self
    rw [List.sum_cons]
    refine ⟨by omega, fun y hy => ?_⟩
    rcases List.mem_cons.mp hy with rfl | hy
    · omega
    · have := ih.2 y hy
      omega
theorem sum_le (b : Int) : ∀ {l : List Int}, (∀ x ∈ l, x ≤ b) → l.sum ≤ b * (l.length : Int)
  | [], _ => by simp
  | x :: l, h => by
    have ih := sum_le b (l := l) fun y hy => h y (List.mem_cons_of_mem _ hy)
    have hx := h x List.mem_cons_self
    rw [List.sum_cons, List.length_cons, Int.natCast_add, Int.mul_add]
    simp only [Int.natCast_one, Int.mul_one]
    omega
theorem drawnW_sum (cell : Int) {many : Nat} (hm : 1 ≤ many) : 0 < (drawnW cell many).sum ∧ (drawnW cell many).sum ≤ 5 * (many : Int) := by
  have d := draw_bd cell 6 (m := (many : Int)) (by omega)
  have hl := drawnA_len cell many
  have nn := sum_nonneg (l := drawnW cell many) fun x hx => (drawnW_bd cell many x hx).1
  have mem : (drawnA cell many).getD (draw cell 6 many).toNat 0 + 1 ∈ drawnW cell many := by
    unfold drawnW
    exact List.mem_set (by rw [hl]; omega) _
  have := nn.2 _ mem
  have := drawnA_get cell many (draw cell 6 many).toNat
  refine ⟨by omega, ?_⟩
  have := sum_le 5 (l := drawnW cell many) fun x hx => (drawnW_bd cell many x hx).2
  rw [drawnW_len] at this
  exact this
theorem sumQ (l : List Int) : ((l.sum : Int) : Rat) = (l.map fun x : Int => (x : Rat)).sum := by
  induction l with
  | nil => rfl
  | cons x l ih => rw [List.sum_cons, List.map_cons, List.sum_cons, ← ih, Rat.intCast_add]
theorem sum_div (c : Rat) (l : List Rat) : (l.map fun x => x / c).sum = l.sum / c := by
  induction l with
  | nil =>
    show (0 : Rat) = 0 / c
    grind
  | cons x l ih =>
    rw [List.map_cons, List.sum_cons, List.sum_cons, ih]
    grind
/-- weights as a mixture -/
theorem mix_of {w : List Int} (h : ∀ x ∈ w, 0 ≤ x) (hs : 0 < w.sum) : Mix (w.map fun x => mk x w.sum) w.length :=
  ⟨List.length_map _, fun x hx => by
    obtain ⟨y, hy, rfl⟩ := List.mem_map.mp hx
    obtain ⟨g, g0, ea, eb, p⟩ := mk_parts (a := y) hs
    refine ⟨?_, (mk_cn hs).pos, (mk_cn hs).gcd⟩
    exact Int.ediv_nonneg (h y hy) (Int.natCast_nonneg _), by
    refine cn_ext (total_cn fun x hx => ?_) (y := (1, 1)) ⟨by decide, by decide⟩ ?_
    · obtain ⟨y, _, rfl⟩ := List.mem_map.mp hx
      exact mk_pos hs
    · rw [qv_total fun x hx => by
        obtain ⟨y, _, rfl⟩ := List.mem_map.mp hx
        exact mk_pos hs, List.map_map]
      have e : (w.map (qv ∘ fun x => mk x w.sum)) = (w.map fun x : Int => (x : Rat)).map fun x => x / ((w.sum : Int) : Rat) := by
        rw [List.map_map]
        refine List.map_congr_left fun x _ => ?_
        show qv (mk x w.sum) = _
        rw [qv_mk hs]
        rfl
      rw [e, sum_div, ← sumQ]
      have := qn hs
      unfold qv
      grind⟩
theorem drawnM_mix (cell : Int) {many : Nat} (hm : 1 ≤ many) : Mix (drawnM cell many) many := by
  have := mix_of (w := drawnW cell many) (fun x hx => (drawnW_bd _ _ x hx).1) (drawnW_sum cell hm).1
  rw [drawnW_len] at this
  exact this
theorem drawnM_fb (cell : Int) {many : Nat} (hm : 1 ≤ many) (h4 : many ≤ 4) : ∀ x ∈ drawnM cell many, Fb 5 x := fun x hx => by
  unfold drawnM at hx
  obtain ⟨y, hy, rfl⟩ := List.mem_map.mp hx
  have hs := drawnW_sum cell hm
  have hb := drawnW_bd _ _ y hy
  exact mk_fb hs.1 (by show y.natAbs < 32; omega) (by show (drawnW cell many).sum.natAbs < 32; omega)

def R_law_drawn : List Sl → Out → Prop := fun ss o => ∃ (cell : Int) (many : Nat), ss = [.im (.int cell), .im (.int (many : Nat))] ∧ (1 ≤ many ∧ many ≤ 4) ∧ o = .ret (.im (encM (drawnM cell many)))
def t_law_drawn (K : PySem.W.Frag) : TS := (tSeq (tAsg (tLc (iRng1 (tCons (tVar 1) tNil)) (gName 3) tYes (tCall (spR K R_law_draw) [] E0 (tCons (tOp (rI0 fun i j => .int (i + j)) (tVar 0) (tOp (rI CMulW fun i j => .int (i * j)) (tC (.int 31)) (tVar 3))) (tCons (tC (.int 5)) (tCons (tC (.int 5)) tNil)))) [3]) (gName 2))
    (tSeq (tAugS (tVar 2) (tCall (spR K R_law_draw) [] E0 (tCons (tVar 0) (tCons (tC (.int 6)) (tCons (tVar 1) tNil)))) (tC (.int 1)) (rIxL K) (ipI fun i j => i + j) rSetL)
    (tRet (tLc (iList K (tVar 2)) (gName 4) tYes (tCall (spR K R_law_made) [] E0 (tCons (tVar 4) (tCons (tCB (rSum K) (tCons (tVar 2) tNil)) tNil))) [4]))))
theorem len_law_drawn {ss : List Sl} {o : Out} (h : R_law_drawn ss o) : ss.length = 2 := by
  first | (obtain ⟨_, rfl, _⟩ := h; rfl) | (obtain ⟨_, _, rfl, _⟩ := h; rfl) | (obtain ⟨_, _, _, rfl, _⟩ := h; rfl) | (obtain ⟨_, _, _, _, rfl, _⟩ := h; rfl) | (obtain ⟨_, _, _, _, _, rfl, _⟩ := h; rfl) | (obtain ⟨_, _, _, _, _, _, rfl, _⟩ := h; rfl)
theorem b_law_drawn {K : PySem.W.Frag} {E : XK} (ss : List Sl) (o : Out) (h : R_law_drawn ss o) : St K E (t_law_drawn K) (params ["_law_cell", "_law_many", "_law_weights", "_law_k", "_law_weight"] ss) { nx := fun _ => o = .ret (.im .none), rt := fun s => o = .ret s, ex := fun c => o = .exc c } := by
  obtain ⟨cell, many, rfl, hm, rfl⟩ := h
  have d := draw_bd cell 6 (m := (many : Int)) (by omega)
  have hs := drawnW_sum cell hm.1
  have hl := drawnA_len cell many
  refine st_seq (st_asg (s := .ow ((drawnA cell many).map .int)) (EvS.to (ev_lc1 (xs := List.range many) (enc := fun k : Nat => .int k) (vs := [3]) (ei_range (n := many) (by walk_at "ev") (by omega)) (fun k => .int (draw (cell + 31 * (k : Int)) 5 5)) (fun k => [.im (.int cell), .im (.int (many : Nat)), .no, .im (.int k), .no]) (fun k _ => tg_name (by decide)) (fun k hk => ?_) (by rw [List.length_range]; omega)) (by unfold drawnA; rw [List.map_map]; rfl)) ?_)
  · have := List.mem_range.mp hk
    walk_at "ev"
    · exact cm (by omega) (by omega)
    · exact ⟨_, _, _, rfl, by decide, by decide, rfl⟩
  obtain ⟨j, ej⟩ : ∃ j : Nat, draw cell 6 many = j := ⟨(draw cell 6 many).toNat, by omega⟩
  have hj : j < (drawnA cell many).length := by rw [hl]; omega
  refine st_seq (st_augL (k := j) (i := (j : Int)) (a := (drawnA cell many).getD j 0) (b := 1) (ds := (drawnA cell many).map .int) rfl ?_ (ixN_natU (by rw [List.length_map]; exact hj)) (atI_map (getD_of hj)) (by walk_at "ev") ?_)
  · rw [← ej]
    walk_at "ev"
    exact ⟨_, _, _, rfl, by decide, by omega, rfl⟩
  have ew : ((drawnA cell many).map PyData.int).set j (.int ((drawnA cell many).getD j 0 + 1)) = (drawnW cell many).map .int := by
    unfold drawnW
    rw [ej, Int.toNat_natCast, List.map_set]
  rw [ew]
  refine st_freeze 2 rfl ?_
  have hb := drawnW_bd cell many
  have wl := drawnW_len cell many
  show St K E _ [.im (.int cell), .im (.int (many : Nat)), .im (encR (drawnW cell many)), .no, .no] _
  unfold drawnM
  generalize drawnW cell many = w at *
  refine st_ret (s := .im (encM (w.map fun x => mk x w.sum))) (EvS.freeze (EvS.to (ev_lc1 (xs := w) (enc := .int) (vs := [4]) (ei_list (by walk_at "ev")) (fun x => encF (mk x w.sum)) (fun x => [.im (.int cell), .im (.int (many : Nat)), .im (encR w), .no, .im (.int x)]) (fun x _ => tg_name (by decide)) (fun x hx => ?_) (by omega)) (by rw [List.map_map]; rfl))) rfl
  walk_at "ev"
  exact ⟨_, _, rfl, hs.1, Sm.mono (m := 5) (by show w.sum.natAbs < 32; omega) (by decide), rfl⟩

theorem ones_total {ms : List Frc} (h : ∀ x ∈ ms, 0 < x.2) : rowGot (ms.map fun _ => 1) ms = totalF ms := by
  refine cn_ext (rowGot_cn h) (total_cn h) ?_
  rw [qv_rowGot h, qv_total h]
  unfold dotQ
  induction ms with
  | nil => rfl
  | cons x ms ih =>
    rw [List.map_cons, List.zip_cons_cons, List.map_cons, List.sum_cons, List.map_cons, List.sum_cons, ih fun y hy => h y (List.mem_cons_of_mem _ hy)]
    show ((1 : Int) : Rat) * qv x + _ = _
    grind

def R_law_mixture : List Sl → Out → Prop := fun ss o => ∃ (ms : List Frc) (many : Nat), ss = [.im (encM ms), .im (.int (many : Nat))] ∧ (∀ x ∈ ms, Fb 200 x) ∧ ms.length ≤ 16 ∧ o = .ret (.im (.bool (mixOk many (encM ms))))
def t_law_mixture (K : PySem.W.Frag) : TS := (tSeq (tIfS (tOr (tNot (tB (tCB (rIsi K) (tCons (tVar 0) (tCons (tC (.ty "list")) tNil))))) (tTest (tOp (rNeD K) (tCB (rLenU K) (tCons (tVar 0) tNil)) (tVar 1)))) (tRet (tC (.bl false))) tNext)
    (tSeq (tFor (iList K (tVar 0)) (gName 2) (tSeq (tIfS (tOr (tNot (tB (tCB (rIsi K) (tCons (tVar 2) (tCons (tC (.ty "tuple")) tNil))))) (tTest (tOp (rNeD K) (tCB (rLenU K) (tCons (tVar 2) tNil)) (tC (.int 2))))) (tRet (tC (.bl false))) tNext)
    (tSeq (tIfS (tB (tCB (rAny K) (tCons (tLc (iTup K (tVar 2)) (gName 3) tYes (tOrV (tCB (rIsi K) (tCons (tVar 3) (tCons (tC (.ty "bool")) tNil))) (tNotV (tCB (rIsi K) (tCons (tVar 3) (tCons (tC (.ty "int")) tNil))))) [3]) tNil))) (tRet (tC (.bl false))) tNext)
    (tIfS (tOr (tTest (tOp (rI0 fun i j => .bl (decide (i < j))) (tOp (rIx K) (tVar 2) (tC (.int 0))) (tC (.int 0)))) (tOr (tTest (tOp (rI0 fun i j => .bl (decide (i < j))) (tOp (rIx K) (tVar 2) (tC (.int 1))) (tC (.int 1)))) (tTest (tOp (rNeD K) (tCall (spR K R_law_made) [] E0 (tCons (tOp (rIx K) (tVar 2) (tC (.int 0))) (tCons (tOp (rIx K) (tVar 2) (tC (.int 1))) tNil))) (tVar 2))))) (tRet (tC (.bl false))) tNext))))
    (tRet (tOp (rEqD K) (tCall (spR K R_law_sum) [] E0 (tCons (tLc (iList K (tVar 0)) (gName 2) tYes (tC (.int 1)) [2]) (tCons (tVar 0) tNil))) (tTup (tCons (tC (.int 1)) (tCons (tC (.int 1)) tNil)))))))
theorem len_law_mixture {ss : List Sl} {o : Out} (h : R_law_mixture ss o) : ss.length = 2 := by
  first | (obtain ⟨_, rfl, _⟩ := h; rfl) | (obtain ⟨_, _, rfl, _⟩ := h; rfl) | (obtain ⟨_, _, _, rfl, _⟩ := h; rfl) | (obtain ⟨_, _, _, _, rfl, _⟩ := h; rfl) | (obtain ⟨_, _, _, _, _, rfl, _⟩ := h; rfl) | (obtain ⟨_, _, _, _, _, _, rfl, _⟩ := h; rfl)
theorem b_law_mixture {K : PySem.W.Frag} {E : XK} (ss : List Sl) (o : Out) (h : R_law_mixture ss o) : St K E (t_law_mixture K) (params ["_law_mixture_here", "_law_many", "_law_share", "_law_one"] ss) { nx := fun _ => o = .ret (.im .none), rt := fun s => o = .ret s, ex := fun c => o = .exc c } := by
  obtain ⟨ms, many, rfl, fb, hl, rfl⟩ := h
  have no : ¬ Mix ms many → Out.ret (.im (.bool (mixOk many (encM ms)))) = .ret (.im (.bool false)) := fun z => by
    have : mixOk many (encM ms) = false := by
      cases h : mixOk many (encM ms) with
      | false => rfl
      | true => exact absurd ((mixOk_M _ _).mp h) z
    rw [this]
  have A : EvB K (tOr (tNot (tB (tCB (rIsi K) (tCons (tVar 0) (tCons (tC (.ty "list")) tNil))))) (tTest (tOp (rNeD K) (tCB (rLenU K) (tCons (tVar 0) tNil)) (tVar 1)))) (params ["_law_mixture_here", "_law_many", "_law_share", "_law_one"] [.im (encM ms), .im (.int (many : Nat))]) (!decide (ms.length = many)) := by
    refine EvB.to (a := !true || !(PyData.eqv (.int (ms.length : Nat)) (.int (many : Nat)))) ?_ (by rw [eqv_int, natE]; rfl)
    walk_at "ev"
  by_cases hm : ms.length = many
  · refine st_seq (st_if (b := false) (A.to (by rw [decide_eq_true hm]; rfl)) (fun z => nomatch z) fun _ => st_next ?_)
    refine st_seq (st_for (vs := [2]) (xs := ms) (enc := encF) (ei_list (by walk_at "ev")) (fun i G' => Le [.im (encM ms), .im (.int (many : Nat)), .no, .no] G' ∧ ∀ x ∈ ms.take i, Shr x) ⟨by walk_at "le", fun x hx => by rw [List.take_zero] at hx; cases hx⟩ (fun i x G' hi hI => ?_) (fun G' hI => ?_))
    · refine ⟨_, tg_name (by decide), st_le (hI.1.set 2 (.im (encF x))) ?_⟩
      have hx := List.mem_of_getElem? hi
      have fx := fb x hx
      show St K E _ [.im (encM ms), .im (.int (many : Nat)), .im (encF x), .no] _
      refine st_seq (st_if (b := false) (EvB.to (a := !true || !(PyData.eqv (.int ((2 : Nat) : Int)) (.int 2))) (by walk_at "ev") (by decide)) (fun z => nomatch z) fun _ => st_next ?_)
      refine st_seq (st_if (b := false) (EvB.to (a := [false, false].any id) (eb_B (ev_any (EvS.h (EvS.freeze (EvS.to (ev_lc1 (xs := [x.1, x.2]) (enc := .int) (vs := [3]) (ei_tup (ev_var rfl)) (fun _ => .bool (false || !true)) (fun i => [.im (encM ms), .im (.int (many : Nat)), .im (encF x), .im (.int i)]) (fun i _ => tg_name (by decide)) (fun i _ => by walk_at "ev") (Nat.le_of_ble_eq_true rfl)) rfl)))).h) (by decide)) (fun z => nomatch z) fun _ => st_next ?_)
      by_cases h0 : x.1 < 0
      · refine st_if (b := true) (EvB.to (a := decide (x.1 < 0) || false) (eb_or (by walk_at "ev") fun z => ?_) (by rw [decide_eq_true h0]; rfl)) (fun _ => st_ret (s := .im (.bool false)) (by walk_at "ev") (no fun M => ?_)) (fun z => nomatch z)
        · rw [decide_eq_true h0] at z; cases z
        · have := (M.sh x hx).1
          omega
      refine st_if (b := !decide (Shr x)) (EvB.to (a := decide (x.1 < 0) || (decide (x.2 < 1) || !(PyData.eqv (encF (mk x.1 x.2)) (encF x)))) (eb_orN ?_ (eb_orN ?_ ?_)) ?_) (fun z => st_ret (s := .im (.bool false)) (by walk_at "ev") (no fun M => ?_)) (fun z => st_next ⟨by walk_at "le", fun y hy => ?_⟩)
      · walk_at "ev"
      · walk_at "ev"
      · refine eb_test (EvS.h (ev_neD (EvS.h (ev_call (ss := [.im (.int x.1), .im (.int x.2)]) (by walk_at "ev") ⟨_, _, rfl, fx.pos, fx.b.mono (by decide), rfl⟩)) (EvS.h (ev_var rfl)) (shaped_of lay_F (by decide)) (shaped_of lay_F (by decide))))
      · have hp := fx.pos
        rw [decide_eq_false h0, eqv_F, decide_eq_false (show ¬ x.2 < 1 by omega), Bool.false_or, Bool.false_or]
        refine congrArg (!·) (decide_eq_decide.mpr ⟨fun e => ⟨by omega, hp, ?_⟩, fun s => cn_mk ⟨s.2.1, s.2.2⟩⟩)
        rw [← e]
        exact (mk_cn hp).gcd
      · have := M.sh x hx
        rw [decide_eq_true this] at z
        cases z
      · rw [take_snoc hi] at hy
        rcases List.mem_append.mp hy with hy | hy
        · exact hI.2 y hy
        · rcases List.mem_cons.mp hy with rfl | hy
          · cases h : decide (Shr y) with
            | true => exact of_decide_eq_true h
            | false => rw [h] at z; cases z
          · cases hy
    · rw [List.take_length] at hI
      have pos : ∀ x ∈ ms, 0 < x.2 := fun x hx => (fb x hx).pos
      refine st_le hI.1 (st_ret (s := .im (.bool (decide (totalF ms = (1, 1))))) (Ev.to (d := .bool (PyData.eqv (encF (totalF ms)) (encF (1, 1)))) ?_ (by rw [eqv_F])) ?_)
      · refine ev_eqD ?_ ?_ (shaped_of lay_F (by decide)) (shaped_of lay_F (by decide))
        · rw [← ones_total pos]
          refine EvS.h (ev_call (ss := [.im (encR (ms.map fun _ => 1)), .im (encM ms)]) (ea_im (EvS.freeze (EvS.to (ev_lc1 (xs := ms) (enc := encF) (vs := [2]) (ei_list (by walk_at "ev")) (fun _ => .int 1) (fun x => [.im (encM ms), .im (.int (many : Nat)), .im (encF x), .no]) (fun x _ => tg_name (by decide)) (fun x _ => by walk_at "ev") (by omega)) (by rw [map_int_map]))) (ea_im (ev_var rfl) ea_nil)) ⟨_, _, 200, rfl, fun w hw => ?_, fb, by rw [List.length_map]; omega, rfl⟩)
          obtain ⟨_, _, rfl⟩ := List.mem_map.mp hw
          decide
        · refine EvS.h (ev_tup (ds := [.int 1, .int 1]) ?_ (Nat.le_of_ble_eq_true rfl))
          show EvA K _ _ [.im _, .im _]
          walk_at "ev"
      · have : mixOk many (encM ms) = decide (totalF ms = (1, 1)) := by
          rw [Bool.eq_iff_iff, mixOk_M, decide_eq_true_eq]
          exact ⟨fun M => M.tot, fun e => ⟨hm, hI.2, e⟩⟩
        rw [this]
  · exact st_seq (st_if (b := true) (A.to (by rw [decide_eq_false hm]; rfl)) (fun _ => st_ret (s := .im (.bool false)) (by walk_at "ev") (no fun M => hm M.len)) (fun z => nomatch z))
open PySem L2
/-! ### objects: made, their methods -/
structure MakU (P : Program) (w : World) (K : PySem.W.Frag) (mg : Str → Option Value) (base : Heap) (k : Nat) (x : Str) (C : Addr) (ps : List Str) (sp : Sp) : Prop where
  ex : ∃ f fd, Mk K C f ∧ FnOk P w K mg base CX0 k f fd ps sp ∧ mg x = some (.ref C) ∧ Binds K fd ps []
structure MetU (P : Program) (w : World) (K : PySem.W.Frag) (mg : Str → Option Value) (base : Heap) (k : Nat) (C : Addr) (m : Str) (ps : List Str) (sp : Sp) : Prop where
  ex : ∃ f fd, Cls K C ∧ Meth K C m f ∧ FnOk P w K mg base CX0 k f fd ps sp ∧ Binds K fd ps []
section
variable {X : Cx} {k j : Nat} {C : Addr} {x m : Str} {sp : Sp} {ps : List Str} {p pos apos : Pos} {e o : Expr} {es : List Expr} {ta : TE} {t : TA}
theorem pe_mak (c : MakU X.prog X.w X.K X.mg X.base k x C ps sp) (hr : Room j X.A) (hk : k + 1 ≤ j) (hg : Gl X x) (ha : PA X (e :: es) t)
    (hdb : (x == ("__debug__" : Str)) = false := by decide) (he : starEach (e :: es) X.env = (false, eval e X.env) :: starEach es X.env := by rfl) (hpl : (backTo pos (starEach es X.env)).any (·.1) = false := by rfl) :
    PE X (.Call (.Name x p) (e :: es) [] pos) (tMake C sp [] E0 t) := by
  obtain ⟨f, fd, M, F, hm, b⟩ := c.ex
  exact pe_make M F (hr.mono hk) hg hm b .nil pass0 ha hdb he hpl
theorem pe_met {pl : Sem Bool} (c : MetU X.prog X.w X.K X.mg X.base k C m ps sp) (hr : Room j X.A) (hk : k ≤ j) (he : PE X o ta) (ha : PA X (e :: es) t)
    (hst : starEach (e :: es) X.env = (false, eval e X.env) :: starEach es X.env := by rfl) (hpl : (backTo pos (starEach es X.env)).any (·.1) = false := by rfl)
    (ht : eval (.Call (.Attribute o m apos) (e :: es) [] pos) X.env = (do
      let ov ← eval o X.env
      standAt apos.atName
      let (f, first) ← holding [ov] (getMethod ov m pl)
      callWith pos f first (backTo pos (starEach (e :: es) X.env)) (backToKw pos (keywordEach [] X.env))) := by rfl) :
    PE X (.Call (.Attribute o m apos) (e :: es) [] pos) (tMeth C m sp [] E0 ta t) := by
  obtain ⟨f, fd, hc, hm, F, b⟩ := c.ex
  exact pe_meth (pl := pl) he hc hm F (hr.mono hk) b .nil pass0 ha hst hpl ht
end
section
variable {K : PySem.W.Frag} {G : Env} {ta tb te tc : TE}
/-- what is to be made: fs by the arguments ds -/
def spI (K : PySem.W.Frag) (C : Addr) (R : List PyData → List (Str × Fl) → Prop) : Sp := fun vs H Q E => ∃ F a dx args ds fs, Same F H ∧ vs = .ref a :: args ∧ H a = some (.ins C dx []) ∧ F a = none ∧ DpAll K F args ds ∧ R ds fs ∧
  ∀ F' H' fvs lab, Same F F' → (∀ b u, H b = some u → b ≠ a → H' b = some u) → F' a = some (.ins C dx fvs) → Same F' H' → (∀ b u, H b = some u → b ≠ a → F' b = F b) → FsV K F' H' lab 0 fvs fs → (∀ p o, lab p = some o → H p = none) → Q .non H'
theorem ev_make {C : Addr} {R : List PyData → List (Str × Fl) → Prop} {t : TA} {ds : List PyData} {fs : List (Str × Fl)} (h : EvA K t G (ds.map Sl.im)) (hR : R ds fs) : EvS K (tMake C (spI K C R) [] E0 t) G (.ob C fs) := fun F lab σ H rs Q q =>
  h F lab σ H rs _ fun vs F1 H1 g1 a => by
    intro x dx hx hdx ne
    have a := args_dps a
    have s1 : Same H1 (upd (upd H1 dx (.own x)) x (.ins C dx [])) := (same_new hdx).trans (same_new (by rw [upd_ne ne.symm]; exact hx))
    have old : ∀ b u, H1 b = some u → b ≠ x := fun b u e z => by rw [z, hx] at e; cases e
    refine ⟨F1, x, dx, vs, ds, fs, g1.fh.trans s1, by rw [List.append_nil], upd_same, g1.fh.free hx, a, hR, fun F' H' fvs l2 ff hh ha fh nw fsv ln => ⟨rfl, ?_⟩⟩
    refine q (.ref x) F' H' (g1.trans ⟨ff, fun b u e => hh b u (s1 _ _ e) (old b u e), fh, fun b u e => nw b u (s1 _ _ e) (old b u e)⟩) ⟨l2, ⟨x, dx, fvs, rfl, ha, fsv⟩, fun p o e => g1.hh.free (s1.free (ln p o e))⟩
/-- an instance whose parts are set one by one -/
structure Ini (K : PySem.W.Frag) (F H0 : Hp) (a C dx : Addr) (H' : Hp) (fvs : List (Str × V)) (lab : Lab) (fs : List (Str × Fl)) : Prop where
  fh : Same F H'
  fa : F a = none
  hh : ∀ b u, H0 b = some u → b ≠ a → H' b = some u
  ha : H' a = some (.ins C dx fvs)
  fsv : FsV K F H' lab 0 fvs fs
  ln : ∀ p o, lab p = some o → H0 p = none ∧ p ≠ a
  lv : ∀ p o, lab p = some o → ∃ u, H' p = some u
  h0 : ∃ u, H0 a = some u
theorem FsV.put {F H : Hp} {lab : Lab} {f : Str} {v : V} {x : Fl} (hx : FlV K F H lab (0, f) v x) : ∀ {ps : List (Str × V)} {qs : List (Str × Fl)}, FsV K F H lab 0 ps qs → (∀ q ∈ qs, q.1 ≠ f) → FsV K F H lab 0 (putF f v ps) (qs ++ [(f, x)])
  | [], [], _, _ => ⟨rfl, hx, trivial⟩
  | (g, w) :: ps, (g', y) :: qs, ⟨e, hy, t⟩, n => by
    have ne : ¬ g = f := fun z => n _ List.mem_cons_self (by rw [← z]; exact e.symm)
    show FsV K F H lab 0 (if g = f then _ else _) _
    rw [if_neg ne]
    exact ⟨e, hy, FsV.put hx t fun q hq => n q (List.mem_cons_of_mem _ hq)⟩
theorem FlV.heapLab {F H H' : Hp} {lab lab' : Lab} {o : Nat × Str} {v : V} {x : Fl} (hl : ∀ p k, lab p = some k → lab' p = some k ∧ H' p = H p) (h : FlV K F H lab o v x) : FlV K F H' lab' o v x := by
  cases x with
  | im d => exact h
  | ow ds =>
    obtain ⟨p, vs, a, b, c, d, e⟩ := h
    exact ⟨p, vs, a, b, (hl p _ c).1, (hl p _ c).2.trans d, e⟩
  | nw d =>
    obtain ⟨N, h, a⟩ := h
    exact ⟨N, fun b u q => ⟨(hl b _ (h b u q).2.2).2.trans (h b u q).1, (h b u q).2.1, (hl b _ (h b u q).2.2).1⟩, a⟩
  | nl ds =>
    obtain ⟨p, vs, N, x, n, l, hp, np, h, a⟩ := h
    exact ⟨p, vs, N, x, n, (hl p _ l).1, (hl p _ l).2.trans hp, np, fun b u q => ⟨(hl b _ (h b u q).2.2).2.trans (h b u q).1, (h b u q).2.1, (hl b _ (h b u q).2.2).1⟩, a⟩
  | ju =>
    obtain ⟨p, vs, a, b, c, d⟩ := h
    exact ⟨p, vs, a, b, (hl p _ c).1, (hl p _ c).2.trans d⟩
  | pr ds d =>
    obtain ⟨p, vs, a, b, c, d, e⟩ := h
    exact ⟨p, vs, a, b, (hl p _ c).1, (hl p _ c).2.trans d, e⟩
  | ls tup nn its =>
    obtain ⟨t, ws, x, ht, hi⟩ := h
    exact ⟨t, ws, x, ht, hi.imp (.refl F) fun p u a b c => ⟨a, (hl p _ b).1, (hl p _ b).2.trans c⟩⟩
  | qo os => exact h
  | pin w d => exact h
  | val w => exact h
theorem FsV.heapLab {F H H' : Hp} {lab lab' : Lab} (hl : ∀ p k, lab p = some k → lab' p = some k ∧ H' p = H p) : ∀ {ps : List (Str × V)} {qs : List (Str × Fl)}, FsV K F H lab 0 ps qs → FsV K F H' lab' 0 ps qs
  | [], [], _ => trivial
  | _ :: _, _ :: _, h => ⟨h.1, h.2.1.heapLab hl, FsV.heapLab hl h.2.2⟩
variable {F H0 H' : Hp} {a C dx : Addr} {fvs : List (Str × V)} {lab : Lab} {fs : List (Str × Fl)} {σ : L2.St} {D : Ends}
theorem FsV.len {F H : Hp} {lab : Lab} {i : Nat} : ∀ {ps : List (Str × V)} {qs : List (Str × Fl)}, FsV K F H lab i ps qs → ps.length = qs.length
  | [], [], _ => rfl
  | _ :: _, _ :: _, h => by rw [List.length_cons, List.length_cons, FsV.len h.2.2]
/-- self.f = list(x) -/
theorem ini_list {f : Str} {j : Nat} {v : V} {ds : List PyData} (I : Ini K F H0 a C dx H' fvs lab fs) (h0 : σ[0]? = some (some (.ref a))) (hj : σ[j]? = some (some v)) (dv : Dp K F v (.list ds)) (cl : Cls K C) (n : NoAttr K C f) (nf : ∀ q ∈ fs, q.1 ≠ f) (hz : fs.length < 1000)
    (q : ∀ H'' fvs' lab', Ini K F H0 a C dx H'' fvs' lab' (fs ++ [(f, .ow ds)]) → D.nx σ H'') : sFld K (tVar 0) (tCB (rListU K) (tCons (tVar j) tNil)) f D σ H' := by
  obtain ⟨p0, xs, rfl, sq, al⟩ := dp_list dv
  refine ⟨_, hj, p0, xs, rfl, .inl (Same.seq I.fh sq), fun p hp => ?_⟩
  have pa : p ≠ a := fun z => by rw [z, I.ha] at hp; cases hp
  have p0' : H0 p = none := by
    cases e : H0 p with
    | none => rfl
    | some u => have := I.hh p u e pa; rw [hp] at this; cases this
  have lp : lab p = none := by
    cases e : lab p with
    | none => rfl
    | some k =>
      obtain ⟨u, hu⟩ := I.lv p k e
      rw [hp] at hu
      cases hu
  refine ⟨_, h0, a, C, dx, fvs, rfl, by rw [upd_ne pa.symm]; exact I.ha, cl, n, by rw [I.fsv.len]; exact hz, q _ (putF f (.ref p) fvs) (fun b => if b = p then some (0, f) else lab b) ?_⟩
  refine ⟨same_upd (same_upd I.fh (I.fh.free hp)) I.fa, I.fa, fun b u e hb => ?_, upd_same, ?_, fun b o e => ?_, fun b o e => ?_, I.h0⟩
  · rw [upd_ne hb, upd_ne (ne_of_none e p0')]
    exact I.hh b u e hb
  · refine FsV.put (x := .ow ds) (FlV.pr_ow (I.fh.free hp) (if_pos rfl) (by rw [upd_ne pa]; exact upd_same) al) (I.fsv.heapLab fun b k e => ?_) nf
    have bp : b ≠ p := fun z => by rw [z, lp] at e; cases e
    exact ⟨by rw [if_neg bp]; exact e, by rw [upd_ne (I.ln b k e).2, upd_ne bp]⟩
  · by_cases hb : b = p
    · rw [hb]; exact ⟨p0', pa⟩
    · rw [if_neg hb] at e; exact I.ln b o e
  · by_cases hb : b = p
    · rw [hb, upd_ne pa]; exact ⟨_, upd_same⟩
    · rw [if_neg hb] at e
      rw [upd_ne (I.ln b o e).2, upd_ne hb]
      exact I.lv b o e
/-- self.f = x -/
theorem ini_val {f : Str} {j : Nat} {v : V} {d : PyData} (I : Ini K F H0 a C dx H' fvs lab fs) (h0 : σ[0]? = some (some (.ref a))) (hj : σ[j]? = some (some v)) (dv : Dp K F v d) (cl : Cls K C) (n : NoAttr K C f) (nf : ∀ q ∈ fs, q.1 ≠ f) (hz : fs.length < 1000)
    (q : ∀ H'' fvs', Ini K F H0 a C dx H'' fvs' lab (fs ++ [(f, .im d)]) → D.nx σ H'') : sFld K (tVar 0) (tVar j) f D σ H' := by
  refine ⟨_, hj, _, h0, a, C, dx, fvs, rfl, I.ha, cl, n, by rw [I.fsv.len]; exact hz, q _ (putF f v fvs) ?_⟩
  refine ⟨same_upd I.fh I.fa, I.fa, fun b u e hb => ?_, upd_same, ?_, I.ln, fun b o e => ?_, I.h0⟩
  · rw [upd_ne hb]
    exact I.hh b u e hb
  · exact FsV.put (x := .im d) dv (I.fsv.heapLab fun b k e => ⟨e, by rw [upd_ne (I.ln b k e).2]⟩) nf
  · rw [upd_ne (I.ln b o e).2]
    exact I.lv b o e
theorem ini_start {H : Hp} {Fq : Hp} (fh : Same Fq H) (fa : Fq a = none) (ha : H a = some (.ins C dx [])) : Ini K Fq H a C dx H [] noLab [] :=
  ⟨fh, fa, fun b u e _ => e, ha, trivial, (fun _ _ e => nomatch e), (fun _ _ e => nomatch e), ⟨_, ha⟩⟩
theorem FlV.grow {F F' H : Hp} {lab : Lab} {o : Nat × Str} {v : V} {x : Fl} (ff : Same F F') (fn : ∀ p k, lab p = some k → F p = none → F' p = none) (h : FlV K F H lab o v x) : FlV K F' H lab o v x := by
  cases x with
  | im d => exact dp_mono ff h
  | ow ds =>
    obtain ⟨p, vs, a, b, c, d, e⟩ := h
    exact ⟨p, vs, a, fn p _ c b, c, d, dpAll_mono ff e⟩
  | nw d =>
    obtain ⟨N, h, a⟩ := h
    exact ⟨N, fun b u q => ⟨(h b u q).1, fn b _ (h b u q).2.2 (h b u q).2.1, (h b u q).2.2⟩, a⟩
  | nl ds =>
    obtain ⟨p, vs, N, x, n, l, hp, np, h, a⟩ := h
    exact ⟨p, vs, N, x, fn p _ l n, l, hp, np, fun b u q => ⟨(h b u q).1, fn b _ (h b u q).2.2 (h b u q).2.1, (h b u q).2.2⟩, a⟩
  | ju =>
    obtain ⟨p, vs, a, b, c, d⟩ := h
    exact ⟨p, vs, a, fn p _ c b, c, d⟩
  | pr ds d =>
    obtain ⟨p, vs, ⟨t, w, e, ht, hw⟩, b, c, d, al⟩ := h
    exact ⟨p, vs, ⟨t, w, e, ff _ _ ht, dp_mono ff hw⟩, fn p _ c b, c, d, dpAll_mono ff al⟩
  | ls tup nn its =>
    obtain ⟨t, ws, x, ht, hi⟩ := h
    exact ⟨t, ws, x, ff _ _ ht, hi.imp ff fun p u a b c => ⟨fn p _ b a, b, c⟩⟩
  | qo os =>
    obtain ⟨t, ws, x, ht, hi⟩ := h
    exact ⟨t, ws, x, ff _ _ ht, hi.mono ff⟩
  | pin w d => exact ⟨h.1, dp_mono ff h.2⟩
  | val w => exact h
theorem FsV.grow {F F' H : Hp} {lab : Lab} {i : Nat} (ff : Same F F') (fn : ∀ p k, lab p = some k → F p = none → F' p = none) : ∀ {ps : List (Str × V)} {qs : List (Str × Fl)}, FsV K F H lab i ps qs → FsV K F' H lab i ps qs
  | [], [], _ => trivial
  | _ :: _, _ :: _, h => ⟨h.1, h.2.1.grow ff fn, FsV.grow ff fn h.2.2⟩
/-- it is made -/
theorem ini_end {Q : VK} {dF : Hp} (I : Ini K F H0 a C dx H' fvs lab fs)
    (k : ∀ F' H' fvs lab, Same F F' → (∀ b u, H0 b = some u → b ≠ a → H' b = some u) → F' a = some (.ins C dx fvs) → Same F' H' → (∀ b u, H0 b = some u → b ≠ a → F' b = F b) → FsV K F' H' lab 0 fvs fs → (∀ p o, lab p = some o → H0 p = none) → Q .non H') : Q .non H' :=
  k (upd F a (.ins C dx fvs)) H' fvs lab (same_new I.fa) I.hh upd_same (same_updF I.fh I.ha) (fun b u e hb => upd_ne hb) (I.fsv.grow (same_new I.fa) fun p k e z => by rw [upd_ne (I.ln p k e).2]; exact z) fun p o e => (I.ln p o e).1
/-- o.m(..), the object quiet -/
theorem FsV.lookNo {F H : Hp} {lab : Lab} {i : Nat} {f : Str} : ∀ {ps : List (Str × V)} {qs : List (Str × Fl)}, FsV K F H lab i ps qs → qs.lookup f = none → ps.lookup f = none
  | [], [], _, _ => rfl
  | (n, w) :: ps, (m, y) :: qs, h, e => by
    obtain ⟨h1, h2, h3⟩ := h
    dsimp only at h1
    subst h1
    rw [List.lookup_cons] at e ⊢
    by_cases hf : f = n
    · subst hf
      simp at e
    · have : (f == n) = false := by simpa using hf
      rw [this] at e ⊢
      exact FsV.lookNo h3 e
theorem ev_meth {i : Nat} {C : Addr} {fs : List (Str × Fl)} {m : Str} {R : List Sl → Out → Prop} {t : TA} {ss : List Sl} {s : Sl} (h : G[i]? = some (.ob C fs)) (a : allIm fs = true) (n : fs.lookup m = none) (ht : EvA K t G ss) (hR : R (.ob C fs :: ss) (.ret s)) : EvS K (tMeth C m (spR K R) [] E0 (tVar i) t) G s := fun F lab σ H r Q q => by
  obtain ⟨v, e, p, dx, fvs, rfl, ha, hf⟩ := r.sl i _ h (fun z => nomatch z)
  refine ⟨_, e, p, dx, fvs, rfl, r.fh _ _ ha, hf.lookNo n, ht F lab σ H r _ fun vs F1 H1 g1 av => ?_⟩
  refine ⟨F1, .ob C fs :: ss, .ret s, g1.fh, ?_, hR, fun v F2 H2 g2 n2 => q v F2 H2 (g1.trans g2) (n2.base g1.hh)⟩
  rw [List.append_nil]
  exact ⟨⟨p, dx, fvs, rfl, g1.ff _ _ ha, hf.allIm g1.ff a⟩, av⟩
end
open PySem L2
/-! ### objects -/
structure ObC (K : PySem.W.Frag) (C : Addr) (names : List Str) : Prop where
  cl : Cls K C
  na : ∀ f ∈ names, NoAttr K C f
theorem lk_here {k : Str} {v : Fl} {r : List (Str × Fl)} : List.lookup k ((k, v) :: r) = some v := by
  have e : (k == k) = true := beq_self_eq_true k
  simp only [List.lookup, e]
theorem lk_past {k g : Str} {v : Fl} {r : List (Str × Fl)} (h : (k == g) = false) : List.lookup k ((g, v) :: r) = List.lookup k r := by
  simp only [List.lookup, h]
theorem nf_nil {f : Str} : ∀ q ∈ ([] : List (Str × Fl)), q.1 ≠ f := fun _ h => nomatch h
theorem nf_cons {f g : Str} {x : Fl} {r : List (Str × Fl)} (h : ¬ g = f) (t : ∀ q ∈ r, q.1 ≠ f) : ∀ q ∈ (g, x) :: r, q.1 ≠ f := fun q hq => by
  rcases List.mem_cons.mp hq with rfl | hq
  · exact h
  · exact t q hq
theorem dpAll_cons' {K : PySem.W.Frag} {F : Hp} {vs : List V} {d : PyData} {ds : List PyData} (h : DpAll K F vs (d :: ds)) : ∃ v ws, vs = v :: ws ∧ Dp K F v d ∧ DpAll K F ws ds := by
  cases h with
  | cons a b => exact ⟨_, _, rfl, a, b⟩
theorem dpAll_nil' {K : PySem.W.Frag} {F : Hp} {vs : List V} (h : DpAll K F vs []) : vs = [] := by
  cases h
  rfl

/-! ### places -/
def encP (p : Nat × Nat) : PyData := .tuple [.int (p.1 : Nat), .int (p.2 : Nat)]
def rowPl (c : Nat → Nat → Bool) (i : Nat) (js : List Nat) : List (Nat × Nat) := (js.filter (c i)).map fun j => (i, j)
def places (c : Nat → Nat → Bool) (r n : Nat) : List (Nat × Nat) := (List.range r).flatMap fun i => rowPl c i (List.range n)
theorem places_succ (c : Nat → Nat → Bool) (r n : Nat) : places c (r + 1) n = places c r n ++ rowPl c r (List.range n) := by
  unfold places
  rw [List.range_succ, List.flatMap_append]
  simp
theorem rowPl_succ (c : Nat → Nat → Bool) (i j : Nat) : rowPl c i (List.range (j + 1)) = rowPl c i (List.range j) ++ if c i j = true then [(i, j)] else [] := by
  unfold rowPl
  rw [List.range_succ, List.filter_append, List.map_append]
  cases h : c i j with
  | true =>
    rw [List.filter_cons_of_pos h]
    rfl
  | false =>
    rw [List.filter_cons_of_neg (by rw [h]; decide)]
    rfl
theorem rowPl_len (c : Nat → Nat → Bool) (i j : Nat) : (rowPl c i (List.range j)).length ≤ j := by
  unfold rowPl
  rw [List.length_map]
  have := List.length_filter_le (c i) (List.range j)
  rw [List.length_range] at this
  exact this
theorem places_len (c : Nat → Nat → Bool) (n : Nat) : ∀ r, (places c r n).length ≤ r * n
  | 0 => Nat.zero_le _
  | r + 1 => by
    rw [places_succ, List.length_append, Nat.succ_mul]
    have := places_len c n r
    have := rowPl_len c r n
    omega
theorem mem_places {c : Nat → Nat → Bool} {r n : Nat} {p : Nat × Nat} : p ∈ places c r n ↔ p.1 < r ∧ p.2 < n ∧ c p.1 p.2 = true := by
  unfold places rowPl
  rw [List.mem_flatMap]
  constructor
  · rintro ⟨i, hi, hp⟩
    obtain ⟨j, hj, rfl⟩ := List.mem_map.mp hp
    rw [List.mem_filter] at hj
    exact ⟨List.mem_range.mp hi, List.mem_range.mp hj.1, hj.2⟩
  · rintro ⟨h1, h2, h3⟩
    exact ⟨p.1, List.mem_range.mpr h1, List.mem_map.mpr ⟨p.2, List.mem_filter.mpr ⟨List.mem_range.mpr h2, h3⟩, rfl⟩⟩
def colL (t : List (List Int)) (j : Nat) : List Int := t.map fun r => r.getD j 0
def entry (t : List (List Int)) (i j : Nat) : Int := (t.getD i []).getD j 0
def saddC (t : List (List Int)) (i j : Nat) : Bool := decide (entry t i j = minL (t.getD i [])) && decide (entry t i j = maxL (colL t j))
def pairC (one other : List (List Int)) (i j : Nat) : Bool := decide (entry one i j = maxL (colL one j)) && decide (entry other i j = maxL (other.getD i []))
theorem eqv_P (p q : Nat × Nat) : PyData.eqv (encP p) (encP q) = decide (p = q) := by
  obtain ⟨a, b⟩ := p
  obtain ⟨c, d⟩ := q
  unfold encP
  rw [PyData.eqv, PyData.eqvAll, PyData.eqvAll, PyData.eqvAll, eqv_int, eqv_int, Bool.and_true, natE, natE]
  by_cases e : a = c
  · by_cases f : b = d
    · subst e f; simp
    · simp [e, f]
  · simp [e]
theorem lay_P {p : Nat × Nat} : Lay 1 (encP p) := lay_tup2 lay_int lay_int
theorem lay_Ps {ps : List (Nat × Nat)} : Lay 2 (.list (ps.map encP)) := lay_list fun _ _ => lay_P
theorem eqv_Ps (x y : List (Nat × Nat)) : PyData.eqv (.list (x.map encP)) (.list (y.map encP)) = decide (x = y) := eqv_list eqv_P x y
theorem Rect.at {t : List (List Int)} {n : Nat} (h : Rect t n) {i j : Nat} (hi : i < t.length) (hj : j < n) : t[i]? = some (t.getD i []) ∧ (t.getD i [])[j]? = some (entry t i j) :=
  ⟨getD_of hi, getD_of (by rw [h.get (getD_of hi)]; exact hj)⟩
theorem col_ne {t : List (List Int)} (h : 1 ≤ t.length) (j : Nat) : colL t j ≠ [] := fun z => by
  unfold colL at z
  rw [List.map_eq_nil_iff] at z
  rw [z] at h
  exact absurd h (by decide)
theorem row_ne {t : List (List Int)} {n : Nat} (h : Rect t n) {i : Nat} (hi : i < t.length) : t.getD i [] ≠ [] := fun z => by
  have := h.get (getD_of (d := []) hi)
  have := h.c1
  rw [z] at *
  simp at *
  omega

def R_asked_two (cBadTable cUnlike : Addr) : List Sl → Out → Prop := fun ss o => ∃ d e : PyData, ss = [.im d, .im e] ∧ (((tabOk d = false ∨ tabOk e = false) ∧ o = .exc cBadTable) ∨ ∃ t n u m, d = encT t ∧ e = encT u ∧ Tab t n ∧ Tab u m ∧ (((t.length ≠ u.length ∨ n ≠ m) ∧ o = .exc cUnlike) ∨ (t.length = u.length ∧ n = m ∧ o = .ret (.im .none))))
def t_asked_two (K : PySem.W.Frag) (cBadTable : Addr) (cUnlike : Addr) (E : XK) : TS := (tSeq (tDrop (tCall (spR K (R_asked_table cBadTable)) [] E (tCons (tVar 0) tNil)))
    (tSeq (tDrop (tCall (spR K (R_asked_table cBadTable)) [] E (tCons (tVar 1) tNil)))
    (tIfS (tOr (tTest (tOp (rNeD K) (tCB (rLenU K) (tCons (tVar 0) tNil)) (tCB (rLenU K) (tCons (tVar 1) tNil)))) (tTest (tOp (rNeD K) (tCB (rLenU K) (tCons (tOp (rIx K) (tVar 0) (tC (.int 0))) tNil)) (tCB (rLenU K) (tCons (tOp (rIx K) (tVar 1) (tC (.int 0))) tNil))))) (tRaiseU cUnlike E) tNext)))
theorem len_asked_two {cBadTable : Addr} {cUnlike : Addr} {ss : List Sl} {o : Out} (h : R_asked_two cBadTable cUnlike ss o) : ss.length = 2 := by
  first | (obtain ⟨_, rfl, _⟩ := h; rfl) | (obtain ⟨_, _, rfl, _⟩ := h; rfl) | (obtain ⟨_, _, _, rfl, _⟩ := h; rfl) | (obtain ⟨_, _, _, _, rfl, _⟩ := h; rfl) | (obtain ⟨_, _, _, _, _, rfl, _⟩ := h; rfl) | (obtain ⟨_, _, _, _, _, _, rfl, _⟩ := h; rfl)
theorem b_asked_two {K : PySem.W.Frag} {E : XK} {cBadTable : Addr} {cUnlike : Addr} (ss : List Sl) (o : Out) (h : R_asked_two cBadTable cUnlike ss o) : St K E (t_asked_two K cBadTable cUnlike E) (params ["one", "other"] ss) { nx := fun _ => o = .ret (.im .none), rt := fun s => o = .ret s, ex := fun c => o = .exc c } := by
  obtain ⟨d, e, rfl, ⟨hb, rfl⟩ | ⟨t, n, u, m, rfl, rfl, ht, hu, hcase⟩⟩ := h
  · by_cases hd : tabOk d = false
    · exact st_seq (st_callX (ss := [.im d]) (c := cBadTable) (by walk_at "ev") ⟨d, rfl, by rw [hd]; rfl⟩ rfl)
    · have he : tabOk e = false := hb.resolve_left hd
      have hd' : tabOk d = true := by cases h : tabOk d <;> first | rfl | exact absurd h hd
      refine st_seq (st_drop (s := .im .none) (by walk_at "ev"; exact ⟨_, rfl, by rw [hd']; rfl⟩) ?_)
      exact st_seq (st_callX (ss := [.im e]) (c := cBadTable) (by walk_at "ev") ⟨e, rfl, by rw [he]; rfl⟩ rfl)
  refine st_seq (st_drop (s := .im .none) (by walk_at "ev"; exact ⟨_, rfl, by rw [tab_tabOk ht]; rfl⟩) ?_)
  refine st_seq (st_drop (s := .im .none) (by walk_at "ev"; exact ⟨_, rfl, by rw [tab_tabOk hu]; rfl⟩) ?_)
  obtain ⟨r0, t', et, hr0⟩ := ht.head
  obtain ⟨s0, u', eu, hs0⟩ := hu.head
  have e0 : t[0]? = some r0 := by rw [et]; rfl
  have f0 : u[0]? = some s0 := by rw [eu]; rfl
  have htest : EvB K (tOr (tTest (tOp (rNeD K) (tCB (rLenU K) (tCons (tVar 0) tNil)) (tCB (rLenU K) (tCons (tVar 1) tNil)))) (tTest (tOp (rNeD K) (tCB (rLenU K) (tCons (tOp (rIx K) (tVar 0) (tC (.int 0))) tNil)) (tCB (rLenU K) (tCons (tOp (rIx K) (tVar 1) (tC (.int 0))) tNil))))) (params ["one", "other"] [.im (encT t), .im (encT u)]) (!decide (t.length = u.length) || !decide (n = m)) := by
    refine EvB.to (a := !(PyData.eqv (.int (t.length : Nat)) (.int (u.length : Nat))) || !(PyData.eqv (.int (n : Nat)) (.int (m : Nat)))) ?_ (by rw [eqv_int, eqv_int, natE, natE])
    refine eb_orN ?_ (eb_test (EvS.h (ev_neD ?_ ?_ (shaped_of lay_int (by decide)) (shaped_of lay_int (by decide)))))
    · walk_at "ev"
    · rw [← hr0]
      refine EvS.h (ev_lenD (EvS.h (ev_ix (a := encT t) ?_ ?_ (item_T (j := 0) e0))) len_R)
      · walk_at "ev"
      · walk_at "ev"
    · rw [← hs0]
      refine EvS.h (ev_lenD (EvS.h (ev_ix (a := encT u) ?_ ?_ (item_T (j := 0) f0))) len_R)
      · walk_at "ev"
      · walk_at "ev"
  rcases hcase with ⟨hm, rfl⟩ | ⟨h1, h2, rfl⟩
  · refine st_if (b := true) (htest.to ?_) (fun _ => st_raiseU rfl) (fun z => nomatch z)
    rcases hm with h | h
    · rw [decide_eq_false h]; rfl
    · rw [decide_eq_false h, Bool.not_false, Bool.or_true]
  · refine st_if (b := false) (htest.to ?_) (fun z => nomatch z) (fun _ => st_next rfl)
    rw [decide_eq_true h1, decide_eq_true h2]
    rfl

def R_saddles (cBadTable : Addr) : List Sl → Out → Prop := fun ss o => ∃ d : PyData, ss = [.im d] ∧ ((tabOk d = false ∧ o = .exc cBadTable) ∨ ∃ t n, d = encT t ∧ Tab t n ∧ (o = .ret (.ow ((places (saddC t) t.length n).map encP)) ∨ o = .ret (.im (.list ((places (saddC t) t.length n).map encP)))))
def t_saddles (K : PySem.W.Frag) (cBadTable : Addr) (E : XK) : TS := (tSeq (tDrop (tCall (spR K (R_asked_table cBadTable)) [] E (tCons (tVar 0) tNil)))
    (tSeq (tAsg (tLst tNil) (gName 1))
    (tSeq (tFor (iRng1 (tCons (tCB (rLenU K) (tCons (tVar 0) tNil)) tNil)) (gName 2) (tFor (iRng1 (tCons (tCB (rLenU K) (tCons (tOp (rIx K) (tVar 0) (tC (.int 0))) tNil)) tNil)) (gName 3) (tSeq (tAsg (tOp (rIx K) (tOp (rIx K) (tVar 0) (tVar 2)) (tVar 3)) (gName 4))
    (tIfS (tAnd (tTest (tOp (rEqD K) (tVar 4) (tCB (rMin K) (tCons (tOp (rIx K) (tVar 0) (tVar 2)) tNil)))) (tTest (tOp (rEqD K) (tVar 4) (tCB (rMax K) (tCons (tLc (iList K (tVar 0)) (gName 5) tYes (tOp (rIx K) (tVar 5) (tVar 3)) [5]) tNil))))) (tDrop (tBM K "list" rAppend (tVar 1) (tCons (tTup (tCons (tVar 2) (tCons (tVar 3) tNil))) tNil))) tNext))))
    (tRet (tVar 1)))))
theorem len_saddles {cBadTable : Addr} {ss : List Sl} {o : Out} (h : R_saddles cBadTable ss o) : ss.length = 1 := by
  first | (obtain ⟨_, rfl, _⟩ := h; rfl) | (obtain ⟨_, _, rfl, _⟩ := h; rfl) | (obtain ⟨_, _, _, rfl, _⟩ := h; rfl) | (obtain ⟨_, _, _, _, rfl, _⟩ := h; rfl) | (obtain ⟨_, _, _, _, _, rfl, _⟩ := h; rfl) | (obtain ⟨_, _, _, _, _, _, rfl, _⟩ := h; rfl)
theorem b_saddles {K : PySem.W.Frag} {E : XK} {cBadTable : Addr} (ss : List Sl) (o : Out) (h : R_saddles cBadTable ss o) : St K E (t_saddles K cBadTable E) (params ["table", "found", "row", "column", "worth", "one"] ss) { nx := fun _ => o = .ret (.im .none), rt := fun s => o = .ret s, ex := fun c => o = .exc c } := by
  obtain ⟨d, rfl, ⟨hb, rfl⟩ | ⟨t, n, rfl, tab, ho⟩⟩ := h
  · exact st_seq (st_callX (ss := [.im d]) (c := cBadTable) (by walk_at "ev") ⟨d, rfl, by rw [hb]; rfl⟩ rfl)
  refine st_seq (st_drop (s := .im .none) (by walk_at "ev"; exact ⟨_, rfl, by rw [tab_tabOk tab]; rfl⟩) ?_)
  have h4 := tab.r4
  have hc4 := tab.c4
  have rect := tab.toRect
  obtain ⟨r0, t', et, hr0⟩ := tab.head
  have e0 : t[0]? = some r0 := by rw [et]; rfl
  refine st_seq (st_asg (s := .ow []) (by walk_at "ev") ?_)
  refine st_seq (st_forG (vs := [2]) (xs := List.range t.length) (enc := fun k : Nat => .int k) (ei_range (n := t.length) (by walk_at "ev") (by omega)) (fun i => [.im (encT t), .ow ((places (saddC t) i n).map encP), .no, .no, .no, .no]) (by walk_at "le") (fun i k hk => ?_) (fun G' hle => ?_))
  · obtain ⟨hi, hk⟩ := List.getElem?_eq_some_iff.mp hk
    rw [List.getElem_range] at hk
    subst hk
    rw [List.length_range] at hi
    refine ⟨_, tg_name (by decide), ?_⟩
    refine st_forG (vs := [3]) (xs := List.range n) (enc := fun k : Nat => .int k) (ei_range (n := n) ?_ (by omega)) (fun j => [.im (encT t), .ow ((places (saddC t) i n ++ rowPl (saddC t) i (List.range j)).map encP), .im (.int i), .no, .no, .no]) ?_ (fun j k hk => ?_) (fun G' hle => ?_)
    · rw [← hr0]
      refine EvS.h (ev_lenD (EvS.h (ev_ix (a := encT t) ?_ ?_ (item_T (j := 0) e0))) len_R)
      · walk_at "ev"
      · walk_at "ev"
    · show Le [.im (encT t), .ow ((places (saddC t) i n ++ []).map encP), .im (.int i), .no, .no, .no] _
      rw [List.append_nil]
      walk_at "le"
    · obtain ⟨hj, hk⟩ := List.getElem?_eq_some_iff.mp hk
      rw [List.getElem_range] at hk
      subst hk
      rw [List.length_range] at hj
      refine ⟨_, tg_name (by decide), ?_⟩
      obtain ⟨g1, g2⟩ := rect.at hi hj
      have rne := row_ne rect hi
      have lr := rect.get g1
      refine st_seq (st_asg (s := .im (.int (entry t i j))) (ev_ix (ev_ix (a := encT t) (ev_var rfl) (EvS.h (ev_var rfl)) (item_T g1)) (EvS.h (ev_var rfl)) (item_R g2)) ?_)
      have pl := places_len (saddC t) n i
      have rl := rowPl_len (saddC t) i j
      have b16 : i * n ≤ 4 * 4 := Nat.mul_le_mul (by omega) hc4
      refine st_if (b := saddC t i j) (EvB.to (a := PyData.eqv (.int (entry t i j)) (.int (minL (t.getD i []))) && PyData.eqv (.int (entry t i j)) (.int (maxL (colL t j)))) (eb_andN (eb_test (EvS.h (ev_eqD (EvS.h (ev_var rfl)) (EvS.h (ev_min (EvS.h (ev_ix (a := encT t) (ev_var rfl) (EvS.h (ev_var rfl)) (item_T g1))) (minL_is rne))) (shaped_of lay_int (by decide)) (shaped_of lay_int (by decide))))) (eb_test (EvS.h (ev_eqD (EvS.h (ev_var rfl)) (EvS.h (ev_max (EvS.h (EvS.freeze (EvS.to (ev_lc1 (xs := t) (enc := encR) (vs := [5]) (ei_list (ev_var rfl)) (fun r => .int (r.getD j 0)) (fun r => [.im (encT t), .ow ((places (saddC t) i n ++ rowPl (saddC t) i (List.range j)).map encP), .im (.int i), .im (.int j), .im (.int (entry t i j)), .im (encR r)]) (fun r _ => tg_name (by decide)) (fun r hr => ev_ix (a := encR r) (ev_var rfl) (EvS.h (ev_var rfl)) (item_R (getD_of (by rw [tab.row r hr]; exact hj)))) (by omega)) (by rw [map_int_map]; rfl)))) (maxL_is (col_ne tab.r1 j)))) (shaped_of lay_int (by decide)) (shaped_of lay_int (by decide)))))) (by rw [eqv_int, eqv_int]; rfl)) (fun z => ?_) (fun z => ?_)
      · refine st_app (j := 1) (d := encP (i, j)) (ds := (places (saddC t) i n ++ rowPl (saddC t) i (List.range j)).map encP) rfl ?_ (by rw [List.length_map, List.length_append]; omega) ?_
        · refine ev_tup (ds := [.int i, .int j]) ?_ (Nat.le_of_ble_eq_true rfl)
          show EvA K _ _ [.im _, .im _]
          walk_at "ev"
        · rw [rowPl_succ, z, if_pos rfl, ← List.append_assoc, List.map_append (l₂ := [(i, j)])]
          show Le _ [.im (encT t), .ow ((places (saddC t) i n ++ rowPl (saddC t) i (List.range j)).map encP ++ [encP (i, j)]), .im (.int i), .im (.int j), .im (.int (entry t i j)), .no]
          walk_at "le"
      · refine st_next ?_
        rw [rowPl_succ, z, if_neg (by decide), List.append_nil]
        walk_at "le"
    · rw [List.length_range] at hle
      rw [places_succ]
      refine Le.trans ?_ hle
      walk_at "le"
  · rw [List.length_range] at hle
    refine st_le hle ?_
    rcases ho with rfl | rfl
    · exact st_retV (i := 1) rfl (fun z => nomatch z) rfl
    · exact st_freeze 1 rfl (st_ret (by walk_at "ev") rfl)

def R_sure_pairs (cBadTable cUnlike : Addr) : List Sl → Out → Prop := fun ss o => ∃ d e : PyData, ss = [.im d, .im e] ∧ (((tabOk d = false ∨ tabOk e = false) ∧ o = .exc cBadTable) ∨ ∃ t n u m, d = encT t ∧ e = encT u ∧ Tab t n ∧ Tab u m ∧ (((t.length ≠ u.length ∨ n ≠ m) ∧ o = .exc cUnlike) ∨ (t.length = u.length ∧ n = m ∧ (o = .ret (.ow ((places (pairC t u) t.length n).map encP)) ∨ o = .ret (.im (.list ((places (pairC t u) t.length n).map encP)))))))
def t_sure_pairs (K : PySem.W.Frag) (cBadTable : Addr) (cUnlike : Addr) (E : XK) : TS := (tSeq (tDrop (tCall (spR K (R_asked_two cBadTable cUnlike)) [] E (tCons (tVar 0) (tCons (tVar 1) tNil))))
    (tSeq (tAsg (tLst tNil) (gName 2))
    (tSeq (tFor (iRng1 (tCons (tCB (rLenU K) (tCons (tVar 0) tNil)) tNil)) (gName 3) (tFor (iRng1 (tCons (tCB (rLenU K) (tCons (tOp (rIx K) (tVar 0) (tC (.int 0))) tNil)) tNil)) (gName 4) (tSeq (tAsg (tCB (rMax K) (tCons (tLc (iList K (tVar 0)) (gName 6) tYes (tOp (rIx K) (tVar 6) (tVar 4)) [6]) tNil)) (gName 5))
    (tIfS (tAnd (tTest (tOp (rEqD K) (tOp (rIx K) (tOp (rIx K) (tVar 0) (tVar 3)) (tVar 4)) (tVar 5))) (tTest (tOp (rEqD K) (tOp (rIx K) (tOp (rIx K) (tVar 1) (tVar 3)) (tVar 4)) (tCB (rMax K) (tCons (tOp (rIx K) (tVar 1) (tVar 3)) tNil))))) (tDrop (tBM K "list" rAppend (tVar 2) (tCons (tTup (tCons (tVar 3) (tCons (tVar 4) tNil))) tNil))) tNext))))
    (tRet (tVar 2)))))
theorem len_sure_pairs {cBadTable : Addr} {cUnlike : Addr} {ss : List Sl} {o : Out} (h : R_sure_pairs cBadTable cUnlike ss o) : ss.length = 2 := by
  first | (obtain ⟨_, rfl, _⟩ := h; rfl) | (obtain ⟨_, _, rfl, _⟩ := h; rfl) | (obtain ⟨_, _, _, rfl, _⟩ := h; rfl) | (obtain ⟨_, _, _, _, rfl, _⟩ := h; rfl) | (obtain ⟨_, _, _, _, _, rfl, _⟩ := h; rfl) | (obtain ⟨_, _, _, _, _, _, rfl, _⟩ := h; rfl)
theorem b_sure_pairs {K : PySem.W.Frag} {E : XK} {cBadTable : Addr} {cUnlike : Addr} (ss : List Sl) (o : Out) (h : R_sure_pairs cBadTable cUnlike ss o) : St K E (t_sure_pairs K cBadTable cUnlike E) (params ["one", "other", "found", "row", "column", "most", "line"] ss) { nx := fun _ => o = .ret (.im .none), rt := fun s => o = .ret s, ex := fun c => o = .exc c } := by
  obtain ⟨d, e, rfl, ⟨hb, rfl⟩ | ⟨t, n, u, m, rfl, rfl, tab, tabu, hcase⟩⟩ := h
  · exact st_seq (st_callX (ss := [.im d, .im e]) (c := cBadTable) (by walk_at "ev") ⟨_, _, rfl, .inl ⟨hb, rfl⟩⟩ rfl)
  rcases hcase with ⟨hm, rfl⟩ | ⟨elen, rfl, ho⟩
  · exact st_seq (st_callX (ss := [.im (encT t), .im (encT u)]) (c := cUnlike) (by walk_at "ev") ⟨_, _, rfl, .inr ⟨_, _, _, _, rfl, rfl, tab, tabu, .inl ⟨hm, rfl⟩⟩⟩ rfl)
  refine st_seq (st_drop (s := .im .none) (ev_call (ss := [.im (encT t), .im (encT u)]) (by walk_at "ev") ⟨_, _, rfl, .inr ⟨_, _, _, _, rfl, rfl, tab, tabu, .inr ⟨elen, rfl, rfl⟩⟩⟩) ?_)
  have h4 := tab.r4
  have hc4 := tab.c4
  have rect := tab.toRect
  have rectu := tabu.toRect
  obtain ⟨r0, t', et, hr0⟩ := tab.head
  have e0 : t[0]? = some r0 := by rw [et]; rfl
  refine st_seq (st_asg (s := .ow []) (by walk_at "ev") ?_)
  refine st_seq (st_forG (vs := [3]) (xs := List.range t.length) (enc := fun k : Nat => .int k) (ei_range (n := t.length) (by walk_at "ev") (by omega)) (fun i => [.im (encT t), .im (encT u), .ow ((places (pairC t u) i n).map encP), .no, .no, .no, .no]) (by walk_at "le") (fun i k hk => ?_) (fun G' hle => ?_))
  · obtain ⟨hi, hk⟩ := List.getElem?_eq_some_iff.mp hk
    rw [List.getElem_range] at hk
    subst hk
    rw [List.length_range] at hi
    refine ⟨_, tg_name (by decide), ?_⟩
    refine st_forG (vs := [4]) (xs := List.range n) (enc := fun k : Nat => .int k) (ei_range (n := n) ?_ (by omega)) (fun j => [.im (encT t), .im (encT u), .ow ((places (pairC t u) i n ++ rowPl (pairC t u) i (List.range j)).map encP), .im (.int i), .no, .no, .no]) ?_ (fun j k hk => ?_) (fun G' hle => ?_)
    · rw [← hr0]
      refine EvS.h (ev_lenD (EvS.h (ev_ix (a := encT t) ?_ ?_ (item_T (j := 0) e0))) len_R)
      · walk_at "ev"
      · walk_at "ev"
    · show Le [.im (encT t), .im (encT u), .ow ((places (pairC t u) i n ++ []).map encP), .im (.int i), .no, .no, .no] _
      rw [List.append_nil]
      walk_at "le"
    · obtain ⟨hj, hk⟩ := List.getElem?_eq_some_iff.mp hk
      rw [List.getElem_range] at hk
      subst hk
      rw [List.length_range] at hj
      refine ⟨_, tg_name (by decide), ?_⟩
      obtain ⟨g1, g2⟩ := rect.at hi hj
      obtain ⟨g3, g4⟩ := rectu.at (i := i) (j := j) (by rw [← elen]; exact hi) hj
      have rne := row_ne rectu (i := i) (by rw [← elen]; exact hi)
      refine st_seq (st_asg (s := .im (.int (maxL (colL t j)))) (ev_max (EvS.h (EvS.freeze (EvS.to (ev_lc1 (xs := t) (enc := encR) (vs := [6]) (ei_list (ev_var rfl)) (fun r => .int (r.getD j 0)) (fun r => [.im (encT t), .im (encT u), .ow ((places (pairC t u) i n ++ rowPl (pairC t u) i (List.range j)).map encP), .im (.int i), .im (.int j), .no, .im (encR r)]) (fun r _ => tg_name (by decide)) (fun r hr => ev_ix (a := encR r) (ev_var rfl) (EvS.h (ev_var rfl)) (item_R (getD_of (by rw [tab.row r hr]; exact hj)))) (by omega)) (by rw [map_int_map]; rfl)))) (maxL_is (col_ne tab.r1 j))) ?_)
      have pl := places_len (pairC t u) n i
      have rl := rowPl_len (pairC t u) i j
      have b16 : i * n ≤ 4 * 4 := Nat.mul_le_mul (by omega) hc4
      refine st_if (b := pairC t u i j) (EvB.to (a := PyData.eqv (.int (entry t i j)) (.int (maxL (colL t j))) && PyData.eqv (.int (entry u i j)) (.int (maxL (u.getD i [])))) (eb_andN (eb_test (EvS.h (ev_eqD (EvS.h (ev_ix (ev_ix (a := encT t) (ev_var rfl) (EvS.h (ev_var rfl)) (item_T g1)) (EvS.h (ev_var rfl)) (item_R g2))) (EvS.h (ev_var rfl)) (shaped_of lay_int (by decide)) (shaped_of lay_int (by decide))))) (eb_test (EvS.h (ev_eqD (EvS.h (ev_ix (ev_ix (a := encT u) (ev_var rfl) (EvS.h (ev_var rfl)) (item_T g3)) (EvS.h (ev_var rfl)) (item_R g4))) (EvS.h (ev_max (EvS.h (ev_ix (a := encT u) (ev_var rfl) (EvS.h (ev_var rfl)) (item_T g3))) (maxL_is rne))) (shaped_of lay_int (by decide)) (shaped_of lay_int (by decide)))))) (by rw [eqv_int, eqv_int]; rfl)) (fun z => ?_) (fun z => ?_)
      · refine st_app (j := 2) (d := encP (i, j)) (ds := (places (pairC t u) i n ++ rowPl (pairC t u) i (List.range j)).map encP) rfl ?_ (by rw [List.length_map, List.length_append]; omega) ?_
        · refine ev_tup (ds := [.int i, .int j]) ?_ (Nat.le_of_ble_eq_true rfl)
          show EvA K _ _ [.im _, .im _]
          walk_at "ev"
        · rw [rowPl_succ, z, if_pos rfl, ← List.append_assoc, List.map_append (l₂ := [(i, j)])]
          show Le _ [.im (encT t), .im (encT u), .ow ((places (pairC t u) i n ++ rowPl (pairC t u) i (List.range j)).map encP ++ [encP (i, j)]), .im (.int i), .im (.int j), .im _, .no]
          walk_at "le"
      · refine st_next ?_
        rw [rowPl_succ, z, if_neg (by decide), List.append_nil]
        walk_at "le"
    · rw [List.length_range] at hle
      rw [places_succ]
      refine Le.trans ?_ hle
      walk_at "le"
  · rw [List.length_range] at hle
    refine st_le hle ?_
    rcases ho with rfl | rfl
    · exact st_retV (i := 2) rfl (fun z => nomatch z) rfl
    · exact st_freeze 2 rfl (st_ret (by walk_at "ev") rfl)

/-! ### the answers' own word -/
theorem mixsz {ms : List Frc} (h : ∀ x ∈ ms, Fb 200 x) (hl : ms.length ≤ 16) : MixSz (encM ms) := fun ns e _ => by
  have : ns = ms := by
    have e1 := congrArg (fun d => match d with | .list ds => ds.map frD | _ => []) e
    dsimp only [encM] at e1
    rw [frD_map, frD_map] at e1
    exact e1.symm
  subst this
  refine ⟨200, ?_, h⟩
  have : (200 + 1) * ns.length ≤ 201 * 16 := Nat.mul_le_mul_left _ hl
  omega
theorem any_nats (xs : List Nat) (i : Nat) : (xs.map fun i : Nat => PyData.int i).any (fun z => PyData.eqv z (.int (i : Nat))) = xs.contains i := by
  rw [List.any_map]
  induction xs with
  | nil => rfl
  | cons x xs ih =>
    rw [List.any_cons, ih, List.contains_cons]
    show (PyData.eqv (.int x) (.int i) || _) = _
    rw [eqv_int, natE]
    congr 1
    by_cases h : x = i
    · subst h; simp
    · rw [decide_eq_false h]
      exact (beq_eq_false_iff_ne.mpr fun z => h z.symm).symm
theorem lay_nats {xs : List Nat} : Lay 1 (.list (xs.map fun i : Nat => .int i)) := lay_list (enc := fun i : Nat => .int i) fun _ _ => lay_int
theorem bestR_len (t : List (List Int)) (ms : List Frc) : (bestR t ms).length ≤ t.length := by
  have : (bestR t ms).length ≤ (List.range t.length).length := List.length_filter_le _ _
  rw [List.length_range] at this
  exact this
theorem across_tab {t : List (List Int)} {n : Nat} (h : Tab t n) : Tab (acrossT t n) t.length := ⟨acrossT_rect h.toRect, fun r hr x hx => by
  unfold acrossT at hr
  obtain ⟨j, hj, rfl⟩ := List.mem_map.mp hr
  obtain ⟨w, hw, rfl⟩ := List.mem_map.mp hx
  have hj' := List.mem_range.mp hj
  exact h.bd w hw _ (List.mem_of_getElem? (getD_of (by rw [h.row w hw]; exact hj')))⟩
theorem across_tabW {t : List (List Int)} {n : Nat} (h : TabW t n) : TabW (acrossT t n) t.length := ⟨acrossT_rect h.toRect, fun r hr x hx => by
  unfold acrossT at hr
  obtain ⟨j, hj, rfl⟩ := List.mem_map.mp hr
  obtain ⟨w, hw, rfl⟩ := List.mem_map.mp hx
  have hj' := List.mem_range.mp hj
  exact h.bd w hw _ (List.mem_of_getElem? (getD_of (by rw [h.row w hw]; exact hj')))⟩
theorem across_len (t : List (List Int)) (n : Nat) : (acrossT t n).length = n := by unfold acrossT; rw [List.length_map, List.length_range]
def offB (ms : List Frc) (rows : List Nat) (n : Nat) : Bool := (List.range n).any fun i => decide (0 < (ms.getD i (0, 1)).1) && !rows.contains i
def showsS (one other : List (List Int)) (n : Nat) (mine theirs : List Frc) : Bool :=
  (mixOk one.length (encM mine) && mixOk n (encM theirs)) && (!offB mine (bestR one theirs) one.length && !offB theirs (bestR (acrossT other n) mine) n)

def RI_Settled : List PyData → List (Str × Fl) → Prop := fun ds fs => ∃ (x0 : List PyData) (x1 : List PyData), ds = [.list x0, .list x1] ∧ fs = ([(("mine" : Str), Fl.ow x0), (("theirs" : Str), Fl.ow x1)] : List (Str × Fl))
def t_Settled_init (K : PySem.W.Frag) : TS := (tSeq (sFld K (tVar 0) (tCB (rListU K) (tCons (tVar 1) tNil)) "mine")
    (sFld K (tVar 0) (tCB (rListU K) (tCons (tVar 2) tNil)) "theirs"))
theorem RI_Settled_len {K : PySem.W.Frag} {C : Addr} {vs : List V} {H : Hp} {Q : VK} {E : XK} (h : spI K C RI_Settled vs H Q E) : vs.length = 3 := by
  obtain ⟨F, a, dx, args, ds, fs, _, rfl, _, _, al, ⟨x0, x1, rfl, rfl⟩, _⟩ := h
  have := dpAll_len al
  show args.length + 1 = _
  rw [this]
  rfl
theorem i_Settled {K : PySem.W.Frag} {C : Addr} (O : ObC K C ["mine", "theirs"]) {vs : List V} {H : Hp} {Q : VK} {E : XK} (h : spI K C RI_Settled vs H Q E) : t_Settled_init K { nx := fun _ H' => Q .non H', rt := Q } (L2.start ["self", "mine", "theirs"] vs) H := by
  obtain ⟨F, a, dx, args, ds, fs, fh, rfl, ha, fa, al, ⟨x0, x1, rfl, rfl⟩, k⟩ := h
  obtain ⟨w1, ws1, rfl, dv1, al⟩ := dpAll_cons' al
  obtain ⟨w2, ws2, rfl, dv2, al⟩ := dpAll_cons' al
  obtain rfl := dpAll_nil' al
  have I0 := ini_start (K := K) (C := C) (dx := dx) fh fa ha
  refine ini_list I0 (j := 1) rfl rfl dv1 O.cl (O.na _ (by decide +kernel)) nf_nil (Nat.le_of_ble_eq_true rfl) (fun _ _ _ I1 => ?_)
  refine ini_list I1 (j := 2) rfl rfl dv2 O.cl (O.na _ (by decide +kernel)) (nf_cons (by decide +kernel) nf_nil) (Nat.le_of_ble_eq_true rfl) (fun _ _ _ I2 => ?_)
  exact ini_end (dF := F) I2 k
def R_Settled_shows (cSettled : Addr) : List Sl → Out → Prop := fun ss o => ∃ (one other : List (List Int)) (n : Nat) (mine theirs : List Frc), ss = [.ob cSettled [("mine", .im (encM mine)), ("theirs", .im (encM theirs))], .im (encT one), .im (encT other)] ∧ Tab one n ∧ Tab other n ∧ one.length = other.length ∧ (∀ x ∈ mine, Fb 200 x) ∧ (∀ x ∈ theirs, Fb 200 x) ∧ mine.length ≤ 16 ∧ theirs.length ≤ 16 ∧ o = .ret (.im (.bool (showsS one other n mine theirs)))
def t_Settled_shows (K : PySem.W.Frag) : TS := (tSeq (tIfS (tOr (tNot (tB (tCall (spR K R_is_mixture) [] E0 (tCons (tFld K (tVar 0) "mine") (tCons (tCB (rLenU K) (tCons (tVar 1) tNil)) tNil))))) (tNot (tB (tCall (spR K R_is_mixture) [] E0 (tCons (tFld K (tVar 0) "theirs") (tCons (tCB (rLenU K) (tCons (tOp (rIx K) (tVar 1) (tC (.int 0))) tNil)) tNil)))))) (tRet (tC (.bl false))) tNext)
    (tSeq (tAsg (tOp (rIx K) (tCall (spR K R_best_rows) [] E0 (tCons (tVar 1) (tCons (tFld K (tVar 0) "theirs") tNil))) (tC (.int 0))) (gName 3))
    (tSeq (tAsg (tOp (rIx K) (tCall (spR K R_best_rows) [] E0 (tCons (tCall (spR K R_across) [] E0 (tCons (tVar 2) tNil)) (tCons (tFld K (tVar 0) "mine") tNil))) (tC (.int 0))) (gName 4))
    (tSeq (tIfS (tB (tCB (rAny K) (tCons (tLc (iRng1 (tCons (tCB (rLenU K) (tCons (tVar 1) tNil)) tNil)) (gName 5) tYes (tAndV (tOp (rI0 fun i j => .bl (decide (j < i))) (tOp (rIx K) (tOp (rIx K) (tFld K (tVar 0) "mine") (tVar 5)) (tC (.int 0))) (tC (.int 0))) (tOp (rNotInD K) (tVar 5) (tVar 3))) [5]) tNil))) (tRet (tC (.bl false))) tNext)
    (tRet (tNotV (tCB (rAny K) (tCons (tLc (iRng1 (tCons (tCB (rLenU K) (tCons (tOp (rIx K) (tVar 1) (tC (.int 0))) tNil)) tNil)) (gName 6) tYes (tAndV (tOp (rI0 fun i j => .bl (decide (j < i))) (tOp (rIx K) (tOp (rIx K) (tFld K (tVar 0) "theirs") (tVar 6)) (tC (.int 0))) (tC (.int 0))) (tOp (rNotInD K) (tVar 6) (tVar 4))) [6]) tNil))))))))
theorem len_Settled_shows {cSettled : Addr} {ss : List Sl} {o : Out} (h : R_Settled_shows cSettled ss o) : ss.length = 3 := by
  first | (obtain ⟨_, rfl, _⟩ := h; rfl) | (obtain ⟨_, _, rfl, _⟩ := h; rfl) | (obtain ⟨_, _, _, rfl, _⟩ := h; rfl) | (obtain ⟨_, _, _, _, rfl, _⟩ := h; rfl) | (obtain ⟨_, _, _, _, _, rfl, _⟩ := h; rfl) | (obtain ⟨_, _, _, _, _, _, rfl, _⟩ := h; rfl)
theorem b_Settled_shows {K : PySem.W.Frag} {E : XK} {cSettled : Addr} (O : ObC K cSettled ["mine", "theirs"]) (ss : List Sl) (o : Out) (h : R_Settled_shows cSettled ss o) : St K E (t_Settled_shows K) (params ["self", "one", "other", "rows", "columns", "row", "column"] ss) { nx := fun _ => o = .ret (.im .none), rt := fun s => o = .ret s, ex := fun c => o = .exc c } := by
  obtain ⟨one, other, n, mine, theirs, rfl, tab, tabo, elen, fm, ft, lm, lt, rfl⟩ := h
  have h4 := tab.r4
  have hc4 := tab.c4
  obtain ⟨r0, t', et, hr0⟩ := tab.head
  have e0 : one[0]? = some r0 := by rw [et]; rfl
  have nm : NoAttr K cSettled "mine" := O.na _ (by decide +kernel)
  have nt : NoAttr K cSettled "theirs" := O.na _ (by decide +kernel)
  have fldm : ∀ {G : Env}, G[0]? = some (.ob cSettled [("mine", .im (encM mine)), ("theirs", .im (encM theirs))]) → Ev K (tFld K (tVar 0) "mine") G (encM mine) := fun {G} h => ev_fld h O.cl nm rfl
  have fldt : ∀ {G : Env}, G[0]? = some (.ob cSettled [("mine", .im (encM mine)), ("theirs", .im (encM theirs))]) → Ev K (tFld K (tVar 0) "theirs") G (encM theirs) := fun {G} h => ev_fld h O.cl nt ((lk_past (by decide +kernel)).trans lk_here)
  have head0 : ∀ {G : Env} {i : Nat}, G[i]? = some (.im (encT one)) → EvH K (tCB (rLenU K) (tCons (tOp (rIx K) (tVar i) (tC (.int 0))) tNil)) G (.int (n : Nat)) := fun {G i} h => by
    rw [← hr0]
    exact EvS.h (ev_lenD (EvS.h (ev_ix (a := encT one) (ev_var h) (EvS.h (ev_c (.int 0))) (item_T (j := 0) e0))) len_R)
  have hm1 : EvB K (tOr (tNot (tB (tCall (spR K R_is_mixture) [] E0 (tCons (tFld K (tVar 0) "mine") (tCons (tCB (rLenU K) (tCons (tVar 1) tNil)) tNil))))) (tNot (tB (tCall (spR K R_is_mixture) [] E0 (tCons (tFld K (tVar 0) "theirs") (tCons (tCB (rLenU K) (tCons (tOp (rIx K) (tVar 1) (tC (.int 0))) tNil)) tNil))))))
      (params ["self", "one", "other", "rows", "columns", "row", "column"] [.ob cSettled [("mine", .im (encM mine)), ("theirs", .im (encM theirs))], .im (encT one), .im (encT other)]) (!mixOk one.length (encM mine) || !mixOk n (encM theirs)) := by
    refine eb_orN (eb_not (eb_B (EvS.h (ev_call (ss := [.im (encM mine), .im (.int (one.length : Nat))]) (ea_im (fldm rfl) (ea_im (ev_lenD (EvS.h (ev_var rfl)) len_T) ea_nil)) ⟨_, _, rfl, by omega, mixsz fm lm, rfl⟩)))) (eb_not (eb_B (EvS.h (ev_call (ss := [.im (encM theirs), .im (.int (n : Nat))]) (ea_im (fldt rfl) (ea_im (EvH.sc (head0 rfl) hl_int) ea_nil)) ⟨_, _, rfl, by omega, mixsz ft lt, rfl⟩))))
  by_cases hmix : (mixOk one.length (encM mine) && mixOk n (encM theirs)) = true
  · have hmix' := hmix
    rw [Bool.and_eq_true] at hmix'
    have m1 := (mixOk_M _ _).mp hmix'.1
    have m2 := (mixOk_M _ _).mp hmix'.2
    refine st_seq (st_if (b := false) (hm1.to (by rw [hmix'.1, hmix'.2]; rfl)) (fun z => nomatch z) (fun _ => st_next ?_))
    have b1 : EvS K (tCall (spR K R_best_rows) [] E0 (tCons (tVar 1) (tCons (tFld K (tVar 0) "theirs") tNil))) (params ["self", "one", "other", "rows", "columns", "row", "column"] [.ob cSettled [("mine", .im (encM mine)), ("theirs", .im (encM theirs))], .im (encT one), .im (encT other)]) (.im (.tuple [.list ((bestR one theirs).map fun i : Nat => .int i), encF (mostF one theirs)])) := ev_call (ss := [.im (encT one), .im (encM theirs)]) (ea_im (ev_var rfl) (ea_im (fldt rfl) ea_nil)) ⟨_, _, _, rfl, tab, ft, .inr rfl⟩
    refine st_seq (st_asg (s := .im (.list ((bestR one theirs).map fun i : Nat => .int i))) (ev_ix b1 (EvS.h (ev_c (.int 0))) (.tup rfl)) ?_)
    have tabx := across_tab tabo
    refine st_seq (st_asg (s := .im (.list ((bestR (acrossT other n) mine).map fun i : Nat => .int i))) (ev_ix (a := .tuple [.list ((bestR (acrossT other n) mine).map fun i : Nat => .int i), encF (mostF (acrossT other n) mine)]) (ev_call (ss := [.im (encT (acrossT other n)), .im (encM mine)]) (ea_im (ev_call (ss := [.im (encT other)]) (ea_im (ev_var rfl) ea_nil) ⟨_, _, rfl, tabo.toRect, .inr rfl⟩) (ea_im (fldm rfl) ea_nil)) ⟨_, _, _, rfl, tabx, fm, .inr rfl⟩) (EvS.h (ev_c (.int 0))) (.tup rfl)) ?_)
    have off : ∀ (G : Env) (ms : List Frc) (rows : List Nat) (f : Str) (wi : TI) (j s m : Nat) (G2 : Nat → Env), ms.length = m → m ≤ 4 → (∀ i, Ev K (tFld K (tVar 0) f) (G2 i) (encM ms)) → (∀ i, (G2 i)[j]? = some (.im (.int (i : Nat)))) → (∀ i, (G2 i)[s]? = some (.im (.list (rows.map fun i : Nat => .int i)))) → (∀ i, (wipeG G [j]).set j (.im (.int (i : Nat))) = G2 i) → EvI K wi G ((List.range m).map fun i : Nat => .int i) →
        EvH K (tLc wi (gName j) tYes (tAndV (tOp (rI0 fun i j => .bl (decide (j < i))) (tOp (rIx K) (tOp (rIx K) (tFld K (tVar 0) f) (tVar j)) (tC (.int 0))) (tC (.int 0))) (tOp (rNotInD K) (tVar j) (tVar s))) [j]) G (.list (((List.range m).map fun i => decide (0 < (ms.getD i (0, 1)).1) && !rows.contains i).map .bool)) := fun G ms rows f wi j s m G2 hl hm4 hf hj hs hG hi => by
      refine EvS.h (EvS.freeze (EvS.to (ev_lc1 (xs := List.range m) (enc := fun i : Nat => .int i) (vs := [j]) hi (fun i => .bool (decide (0 < (ms.getD i (0, 1)).1) && !rows.contains i)) G2 (fun i _ => by rw [← hG]; exact tg_name List.mem_cons_self) (fun i hi => ?_) (by rw [List.length_range]; omega)) (by rw [List.map_map]; rfl)))
      have hi := List.mem_range.mp hi
      rw [← any_nats]
      exact ev_andN (EvS.h (ev_I0 (EvS.h (ev_ix (ev_ix (a := encM ms) (hf i) (EvS.h (ev_var (hj i))) (item_M (getD_of (by rw [hl]; exact hi)))) (EvS.h (ev_c (.int 0))) item_F0)) (EvS.h (ev_c (.int 0))) (.bl _))) (EvS.h (ev_notInD (EvS.h (ev_var (hj i))) (EvS.h (ev_var (hs i))) (shaped_of lay_int (by decide)) (shaped_of lay_nats (by decide))))
    have anyo : ∀ (ms : List Frc) (rows : List Nat) (m : Nat), ((List.range m).map fun i => decide (0 < (ms.getD i (0, 1)).1) && !rows.contains i).any id = offB ms rows m := fun ms rows m => by
      rw [List.any_map]
      rfl
    have o1 := off [.ob cSettled [("mine", .im (encM mine)), ("theirs", .im (encM theirs))], .im (encT one), .im (encT other), .im (.list ((bestR one theirs).map fun i : Nat => .int i)), .im (.list ((bestR (acrossT other n) mine).map fun i : Nat => .int i)), .no, .no] mine (bestR one theirs) "mine" (iRng1 (tCons (tCB (rLenU K) (tCons (tVar 1) tNil)) tNil)) 5 3 one.length
      (fun i => [.ob cSettled [("mine", .im (encM mine)), ("theirs", .im (encM theirs))], .im (encT one), .im (encT other), .im (.list ((bestR one theirs).map fun i : Nat => .int i)), .im (.list ((bestR (acrossT other n) mine).map fun i : Nat => .int i)), .im (.int (i : Nat)), .no]) m1.len h4 (fun i => fldm rfl) (fun i => rfl) (fun i => rfl) (fun i => rfl) (ei_range (EvS.h (ev_lenD (EvS.h (ev_var rfl)) len_T)) (by omega))
    have o2 := off [.ob cSettled [("mine", .im (encM mine)), ("theirs", .im (encM theirs))], .im (encT one), .im (encT other), .im (.list ((bestR one theirs).map fun i : Nat => .int i)), .im (.list ((bestR (acrossT other n) mine).map fun i : Nat => .int i)), .no, .no] theirs (bestR (acrossT other n) mine) "theirs" (iRng1 (tCons (tCB (rLenU K) (tCons (tOp (rIx K) (tVar 1) (tC (.int 0))) tNil)) tNil)) 6 4 n
      (fun i => [.ob cSettled [("mine", .im (encM mine)), ("theirs", .im (encM theirs))], .im (encT one), .im (encT other), .im (.list ((bestR one theirs).map fun i : Nat => .int i)), .im (.list ((bestR (acrossT other n) mine).map fun i : Nat => .int i)), .no, .im (.int (i : Nat))]) m2.len hc4 (fun i => fldt rfl) (fun i => rfl) (fun i => rfl) (fun i => rfl) (ei_range (head0 rfl) (by omega))
    have e1 := eb_B (EvS.h (ev_any o1))
    have e2 := ev_any o2
    rw [anyo] at e1 e2
    unfold showsS
    rw [hmix]
    cases hoff : offB mine (bestR one theirs) one.length with
    | true =>
      rw [hoff] at e1
      exact st_seq (st_if e1 (fun _ => st_ret (s := .im (.bool false)) (by walk_at "ev") rfl) (fun z => nomatch z))
    | false =>
      rw [hoff] at e1
      refine st_seq (st_if e1 (fun z => nomatch z) (fun _ => st_next (st_ret (s := .im (.bool (!offB theirs (bestR (acrossT other n) mine) n))) (ev_notV (EvS.h e2)) ?_)))
      rw [Bool.not_false, Bool.true_and, Bool.true_and]
  · have hf : (mixOk one.length (encM mine) && mixOk n (encM theirs)) = false := by
      cases h : (mixOk one.length (encM mine) && mixOk n (encM theirs)) with
      | true => exact absurd h hmix
      | false => rfl
    refine st_seq (st_if (b := true) (hm1.to ?_) (fun _ => st_ret (s := .im (.bool false)) (by walk_at "ev") ?_) (fun z => nomatch z))
    · rw [← Bool.not_and, hf]
      rfl
    · unfold showsS
      rw [hf]
      rfl
open PySem L2
section
variable {K : PySem.W.Frag} {G : Env}
/-- a, b = a list of two -/
theorem tg_lst {gs : TGs} {n : Nat} {vs : List Nat} {ds : List PyData} {G' : Env} (h : TgsS K gs vs ds G G') (hn : ds.length = n) : TgS K (gLst K n gs) vs (.list ds) G G' := fun F lab σ H v r dv Q q => by
  obtain ⟨a, xs, rfl, sq, al⟩ := dp_list dv
  exact ⟨a, xs, rfl, Same.seq r.fh sq, by rw [dpAll_len al, hn], h F lab σ H xs r al Q q⟩
/-- own lists of an object become quiet -/
def imOw : List (Str × Fl) → Bool
  | [] => true
  | (_, .im _) :: r => imOw r
  | (_, .ow _) :: r => imOw r
  | _ :: _ => false
theorem FsV.frz {F H : Hp} {lab : Lab} (fh : Same F H) : ∀ {ps : List (Str × V)} {qs : List (Str × Fl)}, imOw qs = true → FsV K F H lab 0 ps qs → ∃ F2, Same F F2 ∧ Same F2 H ∧ (∀ a, F2 a ≠ F a → ∃ o, lab a = some o) ∧ FsV K F2 H noLab 0 ps (UU.quiet qs)
  | [], [], _, _ => ⟨F, .refl F, fh, fun a h => absurd rfl h, trivial⟩
  | (_, _) :: _, (n, .im d) :: _, i, ⟨e, hd, t⟩ => by
    obtain ⟨F2, a, b, c, g⟩ := FsV.frz fh (by exact i) t
    exact ⟨F2, a, b, c, e, dp_mono a hd, g⟩
  | (_, _) :: _, (n, .ow ds) :: _, i, ⟨e, ⟨p, vs, e2, fp, lp, hp, al⟩, t⟩ => by
    obtain ⟨F2, a, b, c, g⟩ := FsV.frz fh (by exact i) t
    have s23 : Same F2 (upd F2 p (.lst vs)) := fun x u z => by
      by_cases hx : x = p
      · subst hx
        have := b _ _ z
        rw [hp] at this
        cases this
        exact upd_same
      · rw [upd_ne hx]; exact z
    refine ⟨upd F2 p (.lst vs), a.trans s23, same_updF b hp, fun x hx => ?_, e, ?_, FsV.grow (lab := noLab) s23 (fun q k z => nomatch z) g⟩
    · by_cases hxp : x = p
      · exact ⟨_, by rw [hxp]; exact lp⟩
      · rw [upd_ne hxp] at hx
        exact c x hx
    · subst e2
      exact Dp.lst (.inl (.inl upd_same)) (dpAll_mono (a.trans s23) al)
  | [], _ :: _, _, h => False.elim h
  | _ :: _, [], _, h => False.elim h
  | _ :: _, (_, .nw _) :: _, i, _ => nomatch i
  | _ :: _, (_, .nl _) :: _, i, _ => nomatch i
  | _ :: _, (_, .ju) :: _, i, _ => nomatch i
  | _ :: _, (_, .pr _ _) :: _, i, _ => nomatch i
  | _ :: _, (_, .ls _ _ _) :: _, i, _ => nomatch i
  | _ :: _, (_, .qo _) :: _, i, _ => nomatch i
  | _ :: _, (_, .pin _ _) :: _, i, _ => nomatch i
  | _ :: _, (_, .val _) :: _, i, _ => nomatch i
theorem EvS.freezeO {te : TE} {C : Addr} {fs : List (Str × Fl)} (i : imOw fs = true) (h : EvS K te G (.ob C fs)) : EvS K te G (.ob C (quiet fs)) := fun F lab σ H r Q q => h F lab σ H r Q fun v F' H' g n => by
  obtain ⟨l, ⟨p, dx, fvs, e, ha, hf⟩, nw⟩ := n
  obtain ⟨F2, a, b, c, f⟩ := hf.frz g.fh i
  refine q v F2 H' ⟨g.ff.trans a, g.hh, b, fun x o z => ?_⟩ ⟨noLab, ⟨p, dx, fvs, e, a _ _ ha, f⟩, fun _ _ z => nomatch z⟩
  by_cases hx : F2 x = F' x
  · rw [hx]; exact g.nw x o z
  · obtain ⟨k, hk⟩ := c x hx
    have := nw x k hk
    rw [z] at this
    cases this
/-- what isinstance asks of the class of an object -/
structure IsU (K : PySem.W.Frag) (C : Addr) : Prop where
  cl : Cls K C
  ha : PySem.W.findIn K (.ref C) "__class__" = some (some (.builtin "object.__class__"))
  hn : PySem.W.specialIn K (.builtin "object.__class__") "__get__" = some (some (.builtin "getset_descriptor.__get__"))
  htk : PySem.W.takesIn K (.builtin "object.__class__") = some true
  hm : PySem.W.mroIn K C (.type "object") = some true
theorem ev_isC {i : Nat} {C C2 : Addr} {fs : List (Str × Fl)} {b : Bool} (h : G[i]? = some (.ob C fs)) (I : IsU K C) (k : PySem.W.kitOne K (.ref C) (.ref C2) = some b) : Ev K (tCB (rIsi K) (tCons (tVar i) (tCons (tC (.ref C2)) tNil))) G (.bool b) := fun F lab σ H r Q q => by
  obtain ⟨v, e, p, dx, fvs, rfl, ha, hf⟩ := r.sl i _ h (fun z => nomatch z)
  exact ⟨_, e, .ref p, .ref C2, _, _, b, rfl, .own C2, .base (.ins (r.fh _ _ ha) I.cl I.ha I.hn I.htk I.hm), k, q _ F H (.refl r.fh) (.im (.bl b))⟩
/-! ### a field's own list changes -/
theorem FlV.pr_ow' {F H : Hp} {lab : Lab} {o : Nat × Str} {v : V} {p : Addr} {vs : List V} {ds : List PyData} (e : v = .ref p) (b : F p = none) (c : lab p = some o) (d : H p = some (.lst vs)) (al : DpAll K F vs ds) : FlV K F H lab o v (.ow ds) := ⟨p, vs, e, b, c, d, al⟩
def setF (f : Str) (x : Fl) : List (Str × Fl) → List (Str × Fl)
  | [] => []
  | (n, y) :: r => if n = f then (n, x) :: r else (n, y) :: setF f x r
theorem FsV.rest {F H : Hp} {lab : Lab} {i : Nat} {f : Str} {p : Addr} {u : HO} (lp : lab p = some (i, f)) : ∀ {ps : List (Str × V)} {qs : List (Str × Fl)}, (∀ q ∈ qs, q.1 ≠ f) → FsV K F H lab i ps qs → FsV K F (upd H p u) lab i ps qs
  | [], [], _, _ => trivial
  | [], _ :: _, _, h => False.elim h
  | _ :: _, [], _, h => False.elim h
  | _ :: _, q :: _, n, h => ⟨h.1, h.2.1.other lp (fun z => n q List.mem_cons_self (congrArg Prod.snd z)), FsV.rest lp (fun q hq => n q (List.mem_cons_of_mem _ hq)) h.2.2⟩
theorem FsV.mutF {F H : Hp} {lab : Lab} {i : Nat} {f : Str} {p : Addr} {vs : List V} {ds : List PyData} (lp : lab p = some (i, f)) (fp : F p = none) (al : DpAll K F vs ds) : ∀ {ps : List (Str × V)} {qs : List (Str × Fl)}, FsV K F H lab i ps qs → ps.lookup f = some (.ref p) → (qs.map Prod.fst).Nodup → FsV K F (upd H p (.lst vs)) lab i ps (setF f (.ow ds) qs)
  | [], [], _, h, _ => by cases h
  | [], _ :: _, h, _, _ => False.elim h
  | _ :: _, [], h, _, _ => False.elim h
  | (n, w) :: ps, (n', y) :: qs, ⟨e, hy, t⟩, hl, nd => by
    dsimp only at e hy
    subst e
    rw [List.map_cons, List.nodup_cons] at nd
    unfold setF
    by_cases hn : n = f
    · subst hn
      rw [if_pos rfl]
      have hw : w = .ref p := by
        rw [List.lookup_cons, beq_self_eq_true] at hl
        exact Option.some.inj hl
      exact ⟨rfl, FlV.pr_ow' hw fp lp upd_same al, FsV.rest lp (fun q hq z => nd.1 (List.mem_map.mpr ⟨q, hq, z⟩)) t⟩
    · rw [if_neg hn]
      have hb : (f == n) = false := by simpa using fun z => hn z.symm
      rw [List.lookup_cons, hb] at hl
      exact ⟨rfl, hy.other lp (fun z => hn (congrArg Prod.snd z)), FsV.mutF lp fp al t hl nd.2⟩
variable {E : XK} {D : GE} {te : TE}
theorem Rl.mutF {B F0 F H : Hp} {lab : Lab} {σ : L2.St} {j : Nat} {C a dx p : Addr} {f : Str} {fvs : List (Str × V)} {fs : List (Str × Fl)} {vs : List V} {ds : List PyData} (r : Rl K B F0 F lab σ H G) (hg : G[j]? = some (.ob C fs)) (hs : σ[j]? = some (some (.ref a))) (ha : F a = some (.ins C dx fvs)) (hf : FsV K F H lab j fvs fs)
    (hl : fvs.lookup f = some (.ref p)) (nd : (fs.map Prod.fst).Nodup) (fp : F p = none) (lp : lab p = some (j, f)) (hp : ∃ u, H p = some u) (al : DpAll K F vs ds) : Rl K B F0 F lab σ (upd H p (.lst vs)) (G.set j (.ob C (setF f (.ow ds) fs))) := by
  obtain ⟨u, hu⟩ := hp
  have bp := r.lb p _ lp
  refine ⟨⟨same_upd r.rs.fh fp, by rw [List.length_set]; exact r.rs.len, fun i s e n => ?_⟩, ⟨r.go.ff, same_upd r.go.hh bp, same_upd r.go.fh fp, r.go.nw⟩, r.lb, fun q o e => ?_⟩
  · by_cases hi : j = i
    · subst hi
      have hj : j < G.length := (List.getElem?_eq_some_iff.mp hg).1
      rw [List.getElem?_set_self hj] at e
      cases e
      exact ⟨_, hs, a, dx, fvs, rfl, ha, hf.mutF lp fp al hl nd⟩
    · rw [List.getElem?_set_ne hi] at e
      obtain ⟨v, ev, hv⟩ := r.rs.sl i s e n
      exact ⟨v, ev, hv.other lp (fun z => hi z.symm)⟩
  · by_cases hq : q = p
    · exact ⟨_, by rw [hq]; exact upd_same⟩
    · obtain ⟨u, hu⟩ := r.lv q o e
      exact ⟨u, by rw [upd_ne hq]; exact hu⟩
/-- o.f.clear() -/
theorem st_fldClear {j : Nat} {C : Addr} {f : Str} {fs : List (Str × Fl)} {ds : List PyData} (hg : G[j]? = some (.ob C fs)) (c : Cls K C) (n : NoAttr K C f) (l : fs.lookup f = some (.ow ds)) (nd : (fs.map Prod.fst).Nodup) (q : D.nx (G.set j (.ob C (setF f (.ow []) fs)))) : St K E (tDrop (tBM0 K "list" rClear (tFld K (tVar j) f))) G D := fun B F0 F lab σ H r D' L => by
  obtain ⟨v, e, a, dx, fvs, rfl, ha, hf⟩ := r.rs.sl j _ hg (fun z => nomatch z)
  obtain ⟨w, lw, p, vs, rfl, fp, lp, hp, al⟩ := hf.look l
  exact ⟨_, e, a, C, dx, fvs, _, rfl, r.rs.fh _ _ ha, c, n, lw, .inl ⟨rfl, _, SqL.of hp⟩, p, vs, rfl, rfl, hp, L.nx F lab σ _ _ (r.mutF hg e ha hf lw nd fp lp ⟨_, hp⟩ .nil) (.refl F) q⟩
/-- o.f.append(e) -/
theorem st_fldApp {j : Nat} {C : Addr} {f : Str} {fs : List (Str × Fl)} {ds : List PyData} {d : PyData} (hg : G[j]? = some (.ob C fs)) (c : Cls K C) (n : NoAttr K C f) (l : fs.lookup f = some (.ow ds)) (nd : (fs.map Prod.fst).Nodup) (h : Ev K te G d) (hl : ds.length < 100000) (q : D.nx (G.set j (.ob C (setF f (.ow (ds ++ [d])) fs)))) :
    St K E (tDrop (tBM K "list" rAppend (tFld K (tVar j) f) (tCons te tNil))) G D := fun B F0 F lab σ H r D' L => by
  obtain ⟨v, e, a, dx, fvs, rfl, ha, hf⟩ := r.rs.sl j _ hg (fun z => nomatch z)
  obtain ⟨w, lw, p, vs, rfl, fp, lp, hp, al⟩ := hf.look l
  refine ⟨_, e, a, C, dx, fvs, _, rfl, r.rs.fh _ _ ha, c, n, lw, .inl ⟨rfl, _, SqL.of hp⟩, h F lab σ H r.rs _ fun v F1 H1 g1 n1 => ?_⟩
  have r1 := r.step g1
  have hp1 := g1.hh _ _ hp
  have fp1 := (g1.nw p _ hp).trans fp
  have al1 := dpAll_append (dpAll_mono g1.ff al) (.cons n1.dp .nil)
  exact ⟨p, vs, v, rfl, rfl, hp1, by rw [dpAll_len al, sizeLine_eq]; omega, L.nx F1 lab σ _ _ (r1.mutF hg e (g1.ff _ _ ha) (hf.go g1) lw nd fp1 lp ⟨_, hp1⟩ al1) g1.ff q⟩
end
/-! ### what the program's corners are, in plain Lean -/
def sg (k : Nat) (h : Int) : Int := if k % 2 = 0 then h else -h
def minorL (sq : List (List Int)) (k : Nat) : List (List Int) := sq.tail.map fun r => r.take k ++ r.drop (k + 1)
def detL : Nat → List (List Int) → Int
  | 0, _ => 1
  | n + 1, sq => ((List.range (n + 1)).map fun k => sg k ((sq.getD 0 []).getD k 0) * detL n (minorL sq k)).sum
def putCol (sq : List (List Int)) (k : Nat) : List (List Int) := sq.map fun r => r.take k ++ [1] ++ r.drop (k + 1)
structure Sq (n : Nat) (sq : List (List Int)) : Prop where
  len : sq.length = n
  row : ∀ r ∈ sq, r.length = n
def Ent (b : Nat) (sq : List (List Int)) : Prop := ∀ r ∈ sq, ∀ x ∈ r, Sm b x
theorem minor_sq {n : Nat} {sq : List (List Int)} (h : Sq (n + 1) sq) {k : Nat} (hk : k < n + 1) : Sq n (minorL sq k) := ⟨by unfold minorL; rw [List.length_map, List.length_tail, h.len]; rfl, fun r hr => by
  unfold minorL at hr
  obtain ⟨x, hx, rfl⟩ := List.mem_map.mp hr
  have := h.row x (List.mem_of_mem_tail hx)
  rw [List.length_append, List.length_take, List.length_drop]
  omega⟩
theorem minor_ent {b : Nat} {sq : List (List Int)} (h : Ent b sq) (k : Nat) : Ent b (minorL sq k) := fun r hr x hx => by
  unfold minorL at hr
  obtain ⟨y, hy, rfl⟩ := List.mem_map.mp hr
  rcases List.mem_append.mp hx with hx | hx
  · exact h y (List.mem_of_mem_tail hy) x (List.mem_of_mem_take hx)
  · exact h y (List.mem_of_mem_tail hy) x (List.mem_of_mem_drop hx)
theorem put_sq {n : Nat} {sq : List (List Int)} (h : Sq n sq) {k : Nat} (hk : k < n) : Sq n (putCol sq k) := ⟨by unfold putCol; rw [List.length_map, h.len], fun r hr => by
  unfold putCol at hr
  obtain ⟨x, hx, rfl⟩ := List.mem_map.mp hr
  have := h.row x hx
  rw [List.length_append, List.length_append, List.length_take, List.length_drop]
  simp
  omega⟩
theorem put_ent {b : Nat} {sq : List (List Int)} (h : Ent b sq) (hb : 1 ≤ b) (k : Nat) : Ent b (putCol sq k) := fun r hr x hx => by
  unfold putCol at hr
  obtain ⟨y, hy, rfl⟩ := List.mem_map.mp hr
  rcases List.mem_append.mp hx with hx | hx
  · rcases List.mem_append.mp hx with hx | hx
    · exact h y hy x (List.mem_of_mem_take hx)
    · rcases List.mem_cons.mp hx with rfl | hx
      · exact Sm.mono (m := 1) (show (1 : Int).natAbs < 2 ^ 1 by decide) hb
      · cases hx
  · exact h y hy x (List.mem_of_mem_drop hx)
theorem sum_abs {m : Nat} : ∀ {l : List Int}, (∀ x ∈ l, Sm m x) → l.sum.natAbs ≤ l.length * (2 ^ m - 1)
  | [], _ => by simp
  | x :: l, h => by
    have a := h x List.mem_cons_self
    have b := sum_abs fun y hy => h y (List.mem_cons_of_mem _ hy)
    rw [List.sum_cons, List.length_cons, Nat.succ_mul]
    have := Int.natAbs_add_le x l.sum
    unfold Sm at a
    omega
theorem sum_sm {m c : Nat} {l : List Int} (h : ∀ x ∈ l, Sm m x) (hl : l.length ≤ 2 ^ c) : Sm (m + c) l.sum := by
  have a := sum_abs h
  have p : 0 < 2 ^ m := Nat.pow_pos (by decide)
  have b : l.length * (2 ^ m - 1) ≤ 2 ^ c * (2 ^ m - 1) := Nat.mul_le_mul_right _ hl
  have e : 2 ^ c * (2 ^ m - 1) + 2 ^ c = 2 ^ (m + c) := by
    have : (2 ^ m - 1).succ = 2 ^ m := by omega
    rw [Nat.pow_add, ← Nat.mul_succ, this, Nat.mul_comm]
  have p2 : 0 < 2 ^ c := Nat.pow_pos (by decide)
  unfold Sm
  omega
theorem sg_sm {b k : Nat} {h : Int} (hh : Sm b h) : Sm b (sg k h) := by
  unfold sg
  split
  · exact hh
  · exact hh.neg
theorem getD_sm {b k : Nat} {r : List Int} (h : ∀ x ∈ r, Sm b x) : Sm b (r.getD k 0) := by
  rw [List.getD_eq_getElem?_getD]
  cases e : r[k]? with
  | none => exact Nat.pow_pos (by decide)
  | some x => exact h x (List.mem_of_getElem? e)
theorem detL_sm {b : Nat} : ∀ {n : Nat} {sq : List (List Int)}, n ≤ 4 → Ent b sq → Sm (n * (b + 2) + 1) (detL n sq)
  | 0, sq, _, _ => by show (1 : Int).natAbs < 2 ^ (0 * (b + 2) + 1); rw [Nat.zero_mul]; decide
  | n + 1, sq, hn, h => by
    have hr : ∀ x ∈ sq.getD 0 [], Sm b x := by
      rw [List.getD_eq_getElem?_getD]
      cases e : sq[0]? with
      | none => exact fun _ h => nomatch h
      | some r => exact h r (List.mem_of_getElem? e)
    have := sum_sm (m := b + (n * (b + 2) + 1)) (c := 2) (l := (List.range (n + 1)).map fun k => sg k ((sq.getD 0 []).getD k 0) * detL n (minorL sq k)) (fun x hx => by
      obtain ⟨k, _, rfl⟩ := List.mem_map.mp hx
      exact (sg_sm (getD_sm hr)).mul (detL_sm (by omega) (minor_ent h k))) (by rw [List.length_map, List.length_range]; omega)
    refine Sm.mono this ?_
    rw [Nat.succ_mul]
    omega
/-! ### weights -/
def weighedL (n : Nat) (sq : List (List Int)) : Option (List Int × Int) :=
  if detL n sq = 0 then none else if detL n sq < 0 then some (((List.range n).map fun k => detL n (putCol sq k)).map fun x => -x, -(detL n sq)) else some ((List.range n).map fun k => detL n (putCol sq k), detL n sq)
def pickL (t : List (List Int)) (rs cs : List Nat) : List (List Int) := rs.map fun i => cs.map fun j => entry t i j
def spread (n : Nat) (cs : List Nat) (w : List Int) : List Int := (cs.zip w).foldl (fun a p => a.set p.1 p.2) (List.replicate n 0)
def dotI (a b : List Int) : Int := ((a.zip b).map fun p => p.1 * p.2).sum
def sumsL (t : List (List Int)) (w : List Int) : List Int := t.map fun r => dotI r w
def tight (t : List (List Int)) (w : List Int) (d : Int) : List Nat := (List.range t.length).filter fun i => decide ((sumsL t w).getD i 0 = d)
abbrev Crn := List Int × List Nat
def cornerL (t : List (List Int)) (n : Nat) (rs cs : List Nat) : Option Crn :=
  match weighedL rs.length (pickL t rs cs) with
  | none => none
  | some (w, d) => if minL w < 0 then none else if d < maxL (sumsL t (spread n cs w)) then none else some (spread n cs w, tight t (spread n cs w) d)
def subsL (m : Nat) : List (List Nat) := (List.range (2 ^ m)).map fun x => (List.range m).filter fun p => decide (x / 2 ^ p % 2 = 1)
def stepC (a : List Crn) : Option Crn → List Crn
  | none => a
  | some c => if c ∈ a then a else a ++ [c]
def candC (t : List (List Int)) (n : Nat) (rs cs : List Nat) : Option Crn := if rs ≠ [] ∧ rs.length = cs.length then cornerL t n rs cs else none
def cornersL (t : List (List Int)) (n : Nat) : List Crn := (subsL t.length).foldl (fun a rs => (subsL n).foldl (fun a cs => stepC a (candC t n rs cs)) a) []
def leastL (t : List (List Int)) : Int := minL (t.map minL)
def raisedL (t : List (List Int)) : List (List Int) := t.map fun r => r.map fun x => x - leastL t + 1
def rightB (w : List Int) (rs : List Nat) (m : Nat) : Bool := (List.range m).all fun i => decide (w.getD i 0 = 0) || rs.contains i
def settledP (one other : List (List Int)) (n : Nat) : Option (List Int × List Int) :=
  (cornersL (raisedL one) n).findSome? fun c => (cornersL (raisedL (acrossT other n)) one.length).findSome? fun o => if rightB o.1 c.2 one.length && rightB c.1 o.2 n then some (o.1, c.1) else none
def sharedL (w : List Int) : List Frc := w.map fun x => mk x w.sum
def settledM (one other : List (List Int)) (n : Nat) : List Frc × List Frc :=
  match settledP one other n with
  | none => ([], [])
  | some (own, cols) => (sharedL own, sharedL cols)
open PySem L2
/-! ### corners: data -/
abbrev encN (ns : List Nat) : PyData := .list (ns.map fun i : Nat => .int i)
def encW : Option (List Int × Int) → PyData
  | none => .list []
  | some (w, d) => .list [encR w, .int d]
def encC (c : Crn) : PyData := .list [encR c.1, encN c.2]
def encCO : Option Crn → PyData
  | none => .list []
  | some c => encC c
theorem lay_N {ns : List Nat} : Lay 1 (encN ns) := lay_list (enc := fun i : Nat => .int i) fun _ _ => lay_int
theorem lay_C {c : Crn} : Lay 2 (encC c) := lay_list2 lay_R lay_N
theorem lay_nil : Lay 2 (.list []) := (lay_listD (n := 0) (ds := []) fun _ h => nomatch h).mono (by decide)
theorem lay_W {o : Option (List Int × Int)} : Lay 2 (encW o) := by
  cases o with
  | none => exact lay_nil
  | some p => exact lay_list2 lay_R (lay_int.mono (by decide))
theorem lay_CO {o : Option Crn} : Lay 2 (encCO o) := by
  cases o with
  | none => exact lay_nil
  | some p => exact lay_C
theorem lay_Cs {cs : List Crn} : Lay 3 (.list (cs.map encC)) := lay_list fun _ _ => lay_C
theorem eqv_N (x y : List Nat) : PyData.eqv (encN x) (encN y) = decide (x = y) := eqv_list (enc := fun i : Nat => .int i) (fun x y => by rw [eqv_int, natE]) x y
theorem eqv_C (x y : Crn) : PyData.eqv (encC x) (encC y) = decide (x = y) := by
  obtain ⟨a, b⟩ := x
  obtain ⟨c, d⟩ := y
  unfold encC
  rw [PyData.eqv, PyData.eqvAll, PyData.eqvAll, PyData.eqvAll, eqv_R, eqv_N, Bool.and_true]
  by_cases e : a = c
  · by_cases f : b = d
    · subst e f; simp
    · simp [e, f]
  · simp [e]
theorem eqv_cons_nil (x : PyData) (xs : List PyData) : PyData.eqv (.list (x :: xs)) (.list []) = false := by
  rw [PyData.eqv, PyData.eqvAll] <;> simp
theorem eqv_nil_nil : PyData.eqv (.list []) (.list []) = true := by
  rw [PyData.eqv, PyData.eqvAll]
theorem eqv_W (o : Option (List Int × Int)) : PyData.eqv (encW o) (.list []) = decide (o = none) := by
  cases o with
  | none => exact eqv_nil_nil
  | some p => exact eqv_cons_nil _ _
theorem eqv_CO (o : Option Crn) : PyData.eqv (encCO o) (.list []) = decide (o = none) := by
  cases o with
  | none => exact eqv_nil_nil
  | some p => exact eqv_cons_nil _ _
theorem any_C (cs : List Crn) (c : Crn) : (cs.map encC).any (fun z => PyData.eqv z (encC c)) = decide (c ∈ cs) := by
  rw [Bool.eq_iff_iff, List.any_eq_true, decide_eq_true_eq]
  constructor
  · rintro ⟨x, hx, e⟩
    obtain ⟨q, hq, rfl⟩ := List.mem_map.mp hx
    rw [eqv_C, decide_eq_true_eq] at e
    rw [← e]
    exact hq
  · intro h
    exact ⟨encC c, List.mem_map.mpr ⟨c, h, rfl⟩, by rw [eqv_C]; simp⟩
theorem cutD_dropG {α : Type} (f : α → PyData) (l : List α) {k : Nat} (h : k ≤ l.length) : cutD (l.map f) (some (k : Int)) none = (l.drop k).map f := by
  unfold cutD
  rw [List.length_map, HT.sIx_nat, HT.sIx_none, Nat.min_eq_left h, ← List.map_drop, ← List.map_take, List.take_of_length_le (by rw [List.length_drop]; exact Nat.le_refl _)]
theorem enum_range (r : List Int) : enumD (r.map .int) = (List.range r.length).map fun k : Nat => .tuple [.int k, .int (r.getD k 0)] := by
  unfold enumD
  refine List.ext_getElem (by rw [List.length_map, List.length_zipIdx, List.length_map, List.length_map, List.length_range]) fun i h1 h2 => ?_
  rw [List.length_map, List.length_zipIdx, List.length_map] at h1
  rw [List.getElem_map, List.getElem_map, List.getElem_range, List.getElem_zipIdx, List.getElem_map, List.getD_eq_getElem?_getD, List.getElem?_eq_getElem h1]
  simp

def R_measure (m : Nat) : List Sl → Out → Prop := fun ss o => ∃ (s : Nat) (sq : List (List Int)), ss = [.im (encT sq)] ∧ s < m ∧ s ≤ 4 ∧ Sq s sq ∧ Ent 10 sq ∧ o = .ret (.im (.int (detL s sq)))
def t_measure (K : PySem.W.Frag) (m : Nat) : TS := (tSeq (tIfS (tTest (tOp (rEqD K) (tVar 0) (tLst tNil))) (tRet (tC (.int 1))) tNext)
    (tSeq (tAsg (tC (.int 0)) (gName 1))
    (tSeq (tFor (iEnum K (tCons (tOp (rIx K) (tVar 0) (tC (.int 0))) tNil)) (gTup K 2 (gCons (gName 2) (gCons (gName 3) gNil))) (tIfS (tTest (tOp (rNeD K) (tVar 3) (tC (.int 0)))) (tSeq (tAsg (tLc (iList K (tSl (rSlL K) (tVar 0) (tPart (tC (.int 1))) tNoPart)) (gName 5) tYes (tOp rCat (tSl (rSlL K) (tVar 5) tNoPart (tPart (tVar 2))) (tSl (rSlL K) (tVar 5) (tPart (tOp (rI0 fun i j => .int (i + j)) (tVar 2) (tC (.int 1)))) tNoPart)) [5]) (gName 4))
    (tAsg (tOp (rI0 fun i j => .int (i + j)) (tVar 1) (tOp (rI CMulW fun i j => .int (i * j)) (tIf (tTest (tOp (rEqD K) (tOp (rI (fun _ j => 0 < j) fun i j => .int (i % j)) (tVar 2) (tC (.int 2))) (tC (.int 0)))) (tVar 3) (tUn (rU fun i => .int (-i)) (tVar 3))) (tCall (spR K (R_measure m)) [] E0 (tCons (tVar 4) tNil)))) (gName 1))) tNext))
    (tRet (tVar 1)))))
theorem len_measure {m : Nat} {ss : List Sl} {o : Out} (h : R_measure m ss o) : ss.length = 1 := by
  obtain ⟨_, _, rfl, _⟩ := h
  rfl
theorem b_measure {K : PySem.W.Frag} {E : XK} {m : Nat} (ss : List Sl) (o : Out) (h : R_measure (m + 1) ss o) : St K E (t_measure K m) (params ["square", "found", "place", "head", "smaller", "row"] ss) { nx := fun _ => o = .ret (.im .none), rt := fun s => o = .ret s, ex := fun c => o = .exc c } := by
  obtain ⟨s, sq, rfl, hs, h4, hsq, he, rfl⟩ := h
  cases s with
  | zero =>
    have e : sq = [] := List.eq_nil_of_length_eq_zero hsq.len
    subst e
    refine st_seq (st_if (b := true) (EvB.to (a := PyData.eqv (.list []) (.list [])) (eb_test (EvS.h (ev_eqD (EvS.h (ev_var rfl)) (EvS.h (EvS.freeze (ev_lst (ds := []) ea_nil (Nat.le_of_ble_eq_true rfl)))) (shaped_of lay_nil (by decide)) (shaped_of lay_nil (by decide))))) eqv_nil_nil) (fun _ => st_ret (s := .im (.int 1)) (by walk_at "ev") rfl) (fun z => nomatch z))
  | succ n =>
    obtain ⟨r0, sq', rfl⟩ : ∃ r0 sq', sq = r0 :: sq' := by
      cases sq with
      | nil => exact absurd hsq.len (by simp)
      | cons a b => exact ⟨a, b, rfl⟩
    have l0 : r0.length = n + 1 := hsq.row r0 List.mem_cons_self
    have ltail : sq'.length = n := by have := hsq.len; rw [List.length_cons] at this; omega
    have lr : ∀ r ∈ sq', r.length = n + 1 := fun r hr => hsq.row r (List.mem_cons_of_mem _ hr)
    refine st_seq (st_if (b := false) (EvB.to (a := PyData.eqv (.list ((r0 :: sq').map encR)) (.list [])) (eb_test (EvS.h (ev_eqD (EvS.h (ev_var rfl)) (EvS.h (EvS.freeze (ev_lst (ds := []) ea_nil (Nat.le_of_ble_eq_true rfl)))) (shaped_of lay_T (by decide)) (shaped_of lay_nil (by decide))))) (eqv_cons_nil _ _)) (fun z => nomatch z) (fun _ => st_next ?_))
    refine st_seq (st_asg (s := .im (.int 0)) (by walk_at "ev") ?_)
    have i0 : ItemOf (encT (r0 :: sq')) ((0 : Nat) : Int) (encR r0) := item_T rfl
    refine st_seq (st_forG (vs := [2, 3]) (xs := List.range (n + 1)) (enc := fun k : Nat => .tuple [.int k, .int (r0.getD k 0)]) ((ei_enum (ev_ix (ev_var rfl) (EvS.h (ev_c (.int 0))) i0)).to (by rw [enum_range, l0])) (fun i => [.im (encT (r0 :: sq')), .im (.int ((List.range i).map fun k => sg k (r0.getD k 0) * detL n (minorL (r0 :: sq') k)).sum), .no, .no, .no, .no]) (by walk_at "le") (fun i k hk => ?_) (fun G' hle => ?_))
    · obtain ⟨hi, hk⟩ := List.getElem?_eq_some_iff.mp hk
      rw [List.getElem_range] at hk
      subst hk
      rw [List.length_range] at hi
      refine ⟨_, tg_tup (tgs_cons (tg_name (by decide)) (tgs_cons (tg_name (by decide)) tgs_nil)) rfl, ?_⟩
      have es : ((List.range (i + 1)).map fun k => sg k (r0.getD k 0) * detL n (minorL (r0 :: sq') k)).sum = ((List.range i).map fun k => sg k (r0.getD k 0) * detL n (minorL (r0 :: sq') k)).sum + sg i (r0.getD i 0) * detL n (minorL (r0 :: sq') i) := by
        rw [List.range_succ, List.map_append, List.sum_append]
        simp
      rw [es]
      have msq := minor_sq hsq hi
      have ment := minor_ent he i
      have dsm := detL_sm (n := n) (by omega) ment
      have hsm : Sm 10 (sg i (r0.getD i 0)) := sg_sm (getD_sm (he r0 List.mem_cons_self))
      generalize ((List.range i).map fun k => sg k (r0.getD k 0) * detL n (minorL (r0 :: sq') k)).sum = acc at *
      refine st_if (b := !decide (r0.getD i 0 = 0)) (EvB.to (a := !(PyData.eqv (.int (r0.getD i 0)) (.int 0))) (by walk_at "ev") (by rw [eqv_int])) (fun z => ?_) (fun z => ?_)
      · refine st_seq (st_asg (s := .im (encT (minorL (r0 :: sq') i))) (EvS.freeze (EvS.to (ev_lc1 (xs := sq') (enc := encR) (vs := [5]) (ei_list ?_) (fun r => encR (r.take i ++ r.drop (i + 1))) (fun r => [.im (encT (r0 :: sq')), .im (.int acc), .im (.int i), .im (.int (r0.getD i 0)), .no, .im (encR r)]) (fun r _ => tg_name (by decide)) (fun r hr => ?_) (by omega)) (by unfold minorL; rw [List.map_map]; rfl))) ?_)
        · refine EvS.freeze (EvS.to (ev_slL (ds := (r0 :: sq').map encR) (lo := some ((1 : Nat) : Int)) (hi := none) (ev_var rfl) (eo_some (EvS.h (ev_c (.int _)))) eo_none) ?_)
          rw [cutD_dropG encR (r0 :: sq') (by simp)]
          rfl
        · have hl := lr r hr
          refine EvS.freeze (EvS.to (ev_cat (ev_slL (ds := r.map .int) (lo := none) (hi := some (i : Int)) (ev_var rfl) eo_none (eo_some (EvS.h (ev_var rfl)))) (ev_slL (ds := r.map .int) (lo := some ((i : Int) + 1)) (hi := none) (ev_var rfl) (eo_some (EvS.h (ev_I0 (EvS.h (ev_var rfl)) (EvS.h (ev_c (.int 1))) (.int _)))) eo_none) ?_) ?_)
          · rw [show (i : Int) + 1 = ((i + 1 : Nat) : Int) by omega, cutD_take _ (by omega), cutD_drop _ (by omega), List.length_map, List.length_map, List.length_take, List.length_drop]
            omega
          · rw [show (i : Int) + 1 = ((i + 1 : Nat) : Int) by omega, cutD_take _ (by omega), cutD_drop _ (by omega), List.map_append]
        · refine st_asg (s := .im (.int (acc + sg i (r0.getD i 0) * detL n (minorL (r0 :: sq') i)))) (ev_I0 (EvS.h (ev_var rfl)) (EvS.h (ev_I (i := sg i (r0.getD i 0)) (j := detL n (minorL (r0 :: sq') i)) (EvS.h ?_) (EvS.h (ev_call (ss := [.im (encT (minorL (r0 :: sq') i))]) (ea_im (ev_var rfl) ea_nil) ⟨n, _, rfl, by omega, by omega, msq, ment, rfl⟩)) (.int _) (hsm.cmul (dsm.mono (show n * (10 + 2) + 1 ≤ 100 by omega)) (by decide)))) (.int _)) ?_
          · refine ev_if (b := decide (i % 2 = 0)) (EvB.to (a := PyData.eqv (.int ((i : Int) % 2)) (.int 0)) (by walk_at "ev"; decide) ?_) (fun z => ?_) (fun z => ?_)
            · rw [eqv_int]
              exact decide_eq_decide.mpr (by omega)
            · unfold sg
              rw [if_pos (of_decide_eq_true z)]
              exact ev_var rfl
            · unfold sg
              rw [if_neg (of_decide_eq_false z)]
              exact ev_neg (EvS.h (ev_var rfl))
          · walk_at "le"
      · have h0 : r0.getD i 0 = 0 := by
          cases e : decide (r0.getD i 0 = 0) with
          | true => exact of_decide_eq_true e
          | false => rw [e] at z; cases z
        refine st_next ?_
        have : sg i (r0.getD i 0) = 0 := by rw [h0]; unfold sg; split <;> rfl
        rw [this, Int.zero_mul, Int.add_zero]
        walk_at "le"
    · rw [List.length_range] at hle
      exact st_le hle (st_ret (by walk_at "ev") rfl)

theorem bit_mod (x p : Nat) : decide (Builtin.bitAnd ((x : Int) / 2 ^ ((p : Int)).toNat) 1 = 1) = decide (x / 2 ^ p % 2 = 1) := by
  have e : (x : Int) / 2 ^ ((p : Int)).toNat = ((x / 2 ^ p : Nat) : Int) := by
    rw [Int.toNat_natCast, Int.natCast_ediv, Int.natCast_pow]
    rfl
  have b : Builtin.bitAnd ((x / 2 ^ p : Nat) : Int) 1 = ((x / 2 ^ p % 2 : Nat) : Int) := by
    generalize x / 2 ^ p = y
    unfold Builtin.bitAnd
    rw [decide_eq_true (Int.natCast_nonneg y)]
    show (((y : Int).toNat &&& (1 : Int).toNat : Nat) : Int) = _
    rw [Int.toNat_natCast]
    show ((y &&& 1 : Nat) : Int) = _
    rw [Nat.and_one_is_mod]
  rw [e, b]
  exact decide_eq_decide.mpr (by omega)

def R_subsets : List Sl → Out → Prop := fun ss o => ∃ m : Nat, ss = [.im (.int (m : Nat))] ∧ m ≤ 4 ∧ o = .ret (.im (.list ((subsL m).map encN)))
def t_subsets (K : PySem.W.Frag) : TS := (tSeq (tAsg (tLst tNil) (gName 1))
    (tSeq (tFor (iRng1 (tCons (tOp (rI CPow fun i j => .int (i * 2 ^ j.toNat)) (tC (.int 1)) (tVar 0)) tNil)) (gName 2) (tDrop (tBM K "list" rAppend (tVar 1) (tCons (tLc (iRng1 (tCons (tVar 0) tNil)) (gName 3) (tTest (tOp (rEqD K) (tOp (rI0 fun i j => .int (Builtin.bitAnd i j)) (tOp (rI (fun _ j => 0 ≤ j) fun i j => .int (i / 2 ^ j.toNat)) (tVar 2) (tVar 3)) (tC (.int 1))) (tC (.int 1)))) (tVar 3) [3]) tNil))))
    (tRet (tVar 1))))
theorem len_subsets {ss : List Sl} {o : Out} (h : R_subsets ss o) : ss.length = 1 := by
  first | (obtain ⟨_, rfl, _⟩ := h; rfl) | (obtain ⟨_, _, rfl, _⟩ := h; rfl) | (obtain ⟨_, _, _, rfl, _⟩ := h; rfl) | (obtain ⟨_, _, _, _, rfl, _⟩ := h; rfl) | (obtain ⟨_, _, _, _, _, rfl, _⟩ := h; rfl) | (obtain ⟨_, _, _, _, _, _, rfl, _⟩ := h; rfl)
theorem b_subsets {K : PySem.W.Frag} {E : XK} (ss : List Sl) (o : Out) (h : R_subsets ss o) : St K E (t_subsets K) (params ["many", "found", "mask", "place"] ss) { nx := fun _ => o = .ret (.im .none), rt := fun s => o = .ret s, ex := fun c => o = .exc c } := by
  obtain ⟨m, rfl, hm, rfl⟩ := h
  have p16 : 2 ^ m ≤ 16 := Nat.pow_le_pow_right (n := 2) (by decide) hm
  refine st_seq (st_asg (s := .ow []) (by walk_at "ev") ?_)
  refine st_seq (st_forG (vs := [2]) (xs := List.range (2 ^ m)) (enc := fun k : Nat => .int k) (ei_range (n := 2 ^ m) ?_ (by omega)) (fun i => [.im (.int (m : Nat)), .ow (((List.range i).map fun x => (List.range m).filter fun p => decide (x / 2 ^ p % 2 = 1)).map encN), .no, .no]) (by walk_at "le") (fun i k hk => ?_) (fun G' hle => ?_))
  · refine EvH.to (d := .int (1 * 2 ^ ((m : Int)).toNat)) (EvS.h (ev_I (EvS.h (ev_c (.int 1))) (EvS.h (ev_var rfl)) (.int _) ⟨by omega, by omega, by decide⟩)) ?_
    rw [Int.toNat_natCast, Int.one_mul, Int.natCast_pow]
    rfl
  · obtain ⟨hi, hk⟩ := List.getElem?_eq_some_iff.mp hk
    rw [List.getElem_range] at hk
    subst hk
    rw [List.length_range] at hi
    refine ⟨_, tg_name (by decide), ?_⟩
    rw [List.range_succ, List.map_append, List.map_append]
    generalize hacc : (List.map encN (List.map (fun x => List.filter (fun p => decide (x / 2 ^ p % 2 = 1)) (List.range m)) (List.range i))) = acc
    have la : acc.length = i := by rw [← hacc, List.length_map, List.length_map, List.length_range]
    refine st_app (j := 1) (d := encN ((List.range m).filter fun p => decide (i / 2 ^ p % 2 = 1))) (ds := acc) rfl (EvS.freeze (ev_lc (xs := List.range m) (enc := fun k : Nat => .int k) (vs := [3]) (ei_range (n := m) (by walk_at "ev") (by omega)) (fun p => decide (i / 2 ^ p % 2 = 1)) (fun p : Nat => .int p) (fun p => [.im (.int (m : Nat)), .ow acc, .im (.int i), .im (.int p)]) (fun p _ => tg_name (by decide)) (fun p hp => ?_) (fun p _ _ => by walk_at "ev") (by rw [List.length_range]; omega))) (by omega) ?_
    · rw [← bit_mod]
      refine EvB.to (a := PyData.eqv (.int (Builtin.bitAnd ((i : Int) / 2 ^ ((p : Int)).toNat) 1)) (.int 1)) ?_ (by rw [eqv_int])
      walk_at "ev"
      exact Int.natCast_nonneg p
    · show Le _ [.im (.int (m : Nat)), .ow (acc ++ [encN ((List.range m).filter fun p => decide (i / 2 ^ p % 2 = 1))]), .im (.int i), .no]
      show Le [.im (.int (m : Nat)), .ow (acc ++ [encN ((List.range m).filter fun p => decide (i / 2 ^ p % 2 = 1))]), .no, .no] _
      walk_at "le"
  · rw [List.length_range] at hle
    exact st_le hle (st_freeze 1 rfl (st_ret (by walk_at "ev") rfl))

def R_weighed : List Sl → Out → Prop := fun ss o => ∃ (n : Nat) (sq : List (List Int)), ss = [.im (encT sq)] ∧ 1 ≤ n ∧ n ≤ 4 ∧ Sq n sq ∧ Ent 10 sq ∧ o = .ret (.im (encW (weighedL n sq)))
def t_weighed (K : PySem.W.Frag) : TS := (tSeq (tAsg (tCall (spR K (R_measure 5)) [] E0 (tCons (tVar 0) tNil)) (gName 1))
    (tSeq (tIfS (tTest (tOp (rEqD K) (tVar 1) (tC (.int 0)))) (tRet (tLst tNil)) tNext)
    (tSeq (tAsg (tLst tNil) (gName 2))
    (tSeq (tFor (iRng1 (tCons (tCB (rLenU K) (tCons (tVar 0) tNil)) tNil)) (gName 3) (tDrop (tBM K "list" rAppend (tVar 2) (tCons (tCall (spR K (R_measure 5)) [] E0 (tCons (tLc (iList K (tVar 0)) (gName 4) tYes (tOp rCat (tOp rCat (tSl (rSlL K) (tVar 4) tNoPart (tPart (tVar 3))) (tLst (tCons (tC (.int 1)) tNil))) (tSl (rSlL K) (tVar 4) (tPart (tOp (rI0 fun i j => .int (i + j)) (tVar 3) (tC (.int 1)))) tNoPart)) [4]) tNil)) tNil))))
    (tSeq (tIfS (tTest (tOp (rI0 fun i j => .bl (decide (i < j))) (tVar 1) (tC (.int 0)))) (tRet (tLst (tCons (tLc (iList K (tVar 2)) (gName 5) tYes (tUn (rU fun i => .int (-i)) (tVar 5)) [5]) (tCons (tUn (rU fun i => .int (-i)) (tVar 1)) tNil)))) tNext)
    (tRet (tLst (tCons (tVar 2) (tCons (tVar 1) tNil)))))))))
theorem len_weighed {ss : List Sl} {o : Out} (h : R_weighed ss o) : ss.length = 1 := by
  first | (obtain ⟨_, rfl, _⟩ := h; rfl) | (obtain ⟨_, _, rfl, _⟩ := h; rfl) | (obtain ⟨_, _, _, rfl, _⟩ := h; rfl) | (obtain ⟨_, _, _, _, rfl, _⟩ := h; rfl) | (obtain ⟨_, _, _, _, _, rfl, _⟩ := h; rfl) | (obtain ⟨_, _, _, _, _, _, rfl, _⟩ := h; rfl)
theorem b_weighed {K : PySem.W.Frag} {E : XK} (ss : List Sl) (o : Out) (h : R_weighed ss o) : St K E (t_weighed K) (params ["square", "under", "found", "place", "row", "one"] ss) { nx := fun _ => o = .ret (.im .none), rt := fun s => o = .ret s, ex := fun c => o = .exc c } := by
  obtain ⟨n, sq, rfl, h1, h4, hsq, he, rfl⟩ := h
  refine st_seq (st_asg (s := .im (.int (detL n sq))) (ev_call (ss := [.im (encT sq)]) (ea_im (ev_var rfl) ea_nil) ⟨n, _, rfl, by omega, h4, hsq, he, rfl⟩) ?_)
  unfold weighedL
  by_cases h0 : detL n sq = 0
  · refine st_seq (st_if (b := true) (EvB.to (a := PyData.eqv (.int (detL n sq)) (.int 0)) (by walk_at "ev") (by rw [eqv_int, decide_eq_true h0])) (fun _ => st_ret (s := .im (.list [])) (EvS.freeze (ev_lst (ds := []) ea_nil (Nat.le_of_ble_eq_true rfl))) ?_) (fun z => nomatch z))
    rw [if_pos h0]
    rfl
  refine st_seq (st_if (b := false) (EvB.to (a := PyData.eqv (.int (detL n sq)) (.int 0)) (by walk_at "ev") (by rw [eqv_int, decide_eq_false h0])) (fun z => nomatch z) (fun _ => st_next ?_))
  rw [if_neg h0]
  refine st_seq (st_asg (s := .ow []) (by walk_at "ev") ?_)
  refine st_seq (st_forG (vs := [3]) (xs := List.range n) (enc := fun k : Nat => .int k) (ei_range (n := n) (by rw [← hsq.len]; walk_at "ev") (by omega)) (fun i => [.im (encT sq), .im (.int (detL n sq)), .ow (((List.range i).map fun k => detL n (putCol sq k)).map .int), .no, .no, .no]) (by walk_at "le") (fun i k hk => ?_) (fun G' hle => ?_))
  · obtain ⟨hi, hk⟩ := List.getElem?_eq_some_iff.mp hk
    rw [List.getElem_range] at hk
    subst hk
    rw [List.length_range] at hi
    refine ⟨_, tg_name (by decide), ?_⟩
    rw [List.range_succ, List.map_append, List.map_append]
    have psq := put_sq hsq hi
    have pent := put_ent he (by decide) i
    refine st_app (j := 2) (d := .int (detL n (putCol sq i))) (ds := ((List.range i).map fun k => detL n (putCol sq k)).map .int) rfl (ev_call (ss := [.im (encT (putCol sq i))]) (ea_im (EvS.freeze (EvS.to (ev_lc1 (xs := sq) (enc := encR) (vs := [4]) (ei_list (ev_var rfl)) (fun r => encR (r.take i ++ [1] ++ r.drop (i + 1))) (fun r => [.im (encT sq), .im (.int (detL n sq)), .ow (((List.range i).map fun k => detL n (putCol sq k)).map .int), .im (.int i), .im (encR r), .no]) (fun r _ => tg_name (by decide)) (fun r hr => ?_) (by rw [hsq.len]; omega)) (by unfold putCol; rw [List.map_map]; rfl))) ea_nil) ⟨n, _, rfl, by omega, h4, psq, pent, rfl⟩) (by rw [List.length_map, List.length_map, List.length_range]; omega) ?_
    · have hl := hsq.row r hr
      refine EvS.freeze (EvS.to (ev_cat (ev_cat (ev_slL (ds := r.map .int) (lo := none) (hi := some (i : Int)) (ev_var rfl) eo_none (eo_some (EvS.h (ev_var rfl)))) (ev_lst (ds := [.int 1]) (ea_im (ev_c (.int 1)) ea_nil) (Nat.le_of_ble_eq_true rfl)) ?_) (ev_slL (ds := r.map .int) (lo := some ((i : Int) + 1)) (hi := none) (ev_var rfl) (eo_some (EvS.h (ev_I0 (EvS.h (ev_var rfl)) (EvS.h (ev_c (.int 1))) (.int _)))) eo_none) ?_) ?_)
      · rw [cutD_take _ (by omega), List.length_map, List.length_take]
        show _ + 1 ≤ _
        omega
      · rw [show (i : Int) + 1 = ((i + 1 : Nat) : Int) by omega, cutD_take _ (by omega), cutD_drop _ (by omega), List.length_append, List.length_map, List.length_map, List.length_take, List.length_drop]
        show _ + 1 + _ ≤ _
        omega
      · rw [show (i : Int) + 1 = ((i + 1 : Nat) : Int) by omega, cutD_take _ (by omega), cutD_drop _ (by omega), List.map_append, List.map_append]
        rfl
    · show Le [.im (encT sq), .im (.int (detL n sq)), .ow (((List.range i).map fun k => detL n (putCol sq k)).map .int ++ [.int (detL n (putCol sq i))]), .no, .no, .no] _
      walk_at "le"
  · rw [List.length_range] at hle
    refine st_le hle ?_
    generalize hw : ((List.range n).map fun k => detL n (putCol sq k)) = w
    have lw : w.length = n := by rw [← hw, List.length_map, List.length_range]
    by_cases hn : detL n sq < 0
    · rw [if_pos hn]
      refine st_seq (st_if (b := true) (EvB.to (a := decide (detL n sq < 0)) (by walk_at "ev") (decide_eq_true hn)) (fun _ => st_freeze 2 rfl (st_ret (s := .im (encW (some (w.map fun x => -x, -(detL n sq))))) ?_ rfl)) (fun z => nomatch z))
      refine EvS.freeze (ev_lst (ds := [encR (w.map fun x => -x), .int (-(detL n sq))]) (ea_im (EvS.freeze (EvS.to (ev_lc1 (xs := w) (enc := .int) (vs := [5]) (ei_list (ev_var rfl)) (fun x => .int (-x)) (fun x => [.im (encT sq), .im (.int (detL n sq)), .im (encR w), .no, .no, .im (.int x)]) (fun x _ => tg_name (by decide)) (fun x _ => by walk_at "ev") (by omega)) (by rw [map_int_map]))) (ea_im (ev_neg (EvS.h (ev_var rfl))) ea_nil)) (Nat.le_of_ble_eq_true rfl))
    · rw [if_neg hn]
      refine st_seq (st_if (b := false) (EvB.to (a := decide (detL n sq < 0)) (by walk_at "ev") (decide_eq_false hn)) (fun z => nomatch z) (fun _ => st_next (st_freeze 2 rfl (st_ret (s := .im (encW (some (w, detL n sq)))) ?_ rfl))))
      exact EvS.freeze (ev_lst (ds := [encR w, .int (detL n sq)]) (ea_im (ev_var rfl) (ea_im (ev_var rfl) ea_nil)) (Nat.le_of_ble_eq_true rfl))
open PySem L2
/-! ### weights spread over the columns -/
theorem Ent.mono {b c : Nat} {t : List (List Int)} (h : Ent b t) (e : b ≤ c) : Ent c t := fun r hr x hx => (h r hr x hx).mono e
theorem pick_sq (t : List (List Int)) {rs cs : List Nat} (h : rs.length = cs.length) : Sq rs.length (pickL t rs cs) := ⟨List.length_map _, fun r hr => by
  unfold pickL at hr
  obtain ⟨i, _, rfl⟩ := List.mem_map.mp hr
  rw [List.length_map, h]⟩
theorem entry_mem {t : List (List Int)} {n : Nat} (rect : Rect t n) {i j : Nat} (hi : i < t.length) (hj : j < n) : t.getD i [] ∈ t ∧ entry t i j ∈ t.getD i [] := by
  obtain ⟨a, b⟩ := rect.at hi hj
  exact ⟨List.mem_of_getElem? a, List.mem_of_getElem? b⟩
theorem pick_ent {b : Nat} {t : List (List Int)} {n : Nat} (rect : Rect t n) (he : Ent b t) {rs cs : List Nat} (hr : ∀ i ∈ rs, i < t.length) (hc : ∀ j ∈ cs, j < n) : Ent b (pickL t rs cs) := fun r hr' x hx => by
  unfold pickL at hr'
  obtain ⟨i, hi, rfl⟩ := List.mem_map.mp hr'
  obtain ⟨j, hj, rfl⟩ := List.mem_map.mp hx
  obtain ⟨a, b⟩ := entry_mem rect (hr i hi) (hc j hj)
  exact he _ a _ b
theorem weighed_ok {n : Nat} {sq : List (List Int)} {w : List Int} {d : Int} (hn : n ≤ 4) (he : Ent 10 sq) (h : weighedL n sq = some (w, d)) : w.length = n ∧ (∀ x ∈ w, Sm 60 x) ∧ 0 < d ∧ Sm 60 d := by
  have ds : ∀ q : List (List Int), Ent 10 q → Sm 60 (detL n q) := fun q hq => (detL_sm hn hq).mono (show n * (10 + 2) + 1 ≤ 60 by omega)
  have pw : ∀ x ∈ (List.range n).map fun k => detL n (putCol sq k), Sm 60 x := fun x hx => by
    obtain ⟨k, _, rfl⟩ := List.mem_map.mp hx
    exact ds _ (put_ent he (by decide) k)
  unfold weighedL at h
  split at h
  · cases h
  · split at h
    · cases h
      refine ⟨by rw [List.length_map, List.length_map, List.length_range], fun x hx => ?_, by omega, (ds sq he).neg⟩
      obtain ⟨y, hy, rfl⟩ := List.mem_map.mp hx
      exact (pw y hy).neg
    · cases h
      exact ⟨by rw [List.length_map, List.length_range], pw, by omega, ds sq he⟩
def putAll (a : List Int) (l : List (Nat × Int)) : List Int := l.foldl (fun a p => a.set p.1 p.2) a
theorem putAll_len : ∀ (l : List (Nat × Int)) (a : List Int), (putAll a l).length = a.length
  | [], a => rfl
  | p :: l, a => by
    show (putAll (a.set p.1 p.2) l).length = _
    rw [putAll_len l, List.length_set]
theorem putAll_mem {P : Int → Prop} : ∀ (l : List (Nat × Int)) (a : List Int), (∀ p ∈ l, P p.2) → (∀ x ∈ a, P x) → ∀ x ∈ putAll a l, P x
  | [], a, _, ha => ha
  | p :: l, a, hl, ha => fun x hx => putAll_mem l (a.set p.1 p.2) (fun q hq => hl q (List.mem_cons_of_mem _ hq)) (fun y hy => by
    rcases List.mem_or_eq_of_mem_set hy with h | rfl
    · exact ha y h
    · exact hl p List.mem_cons_self) x hx
theorem putAll_snoc (a : List Int) (l : List (Nat × Int)) (p : Nat × Int) : putAll a (l ++ [p]) = (putAll a l).set p.1 p.2 := by
  unfold putAll
  rw [List.foldl_append]
  rfl
theorem spread_len (n : Nat) (cs : List Nat) (w : List Int) : (spread n cs w).length = n := (putAll_len _ _).trans List.length_replicate
theorem spread_mem {P : Int → Prop} {n : Nat} {cs : List Nat} {w : List Int} (h0 : P 0) (hw : ∀ x ∈ w, P x) : ∀ x ∈ spread n cs w, P x :=
  putAll_mem _ _ (fun p hp => hw _ (List.of_mem_zip (a := p.1) (b := p.2) hp).2) fun x hx => by rw [List.eq_of_mem_replicate hx]; exact h0
theorem sums_len (t : List (List Int)) (w : List Int) : (sumsL t w).length = t.length := List.length_map _

def R_corner : List Sl → Out → Prop := fun ss o => ∃ (t : List (List Int)) (n : Nat) (rs cs : List Nat), ss = [.im (encT t), .im (encN rs), .im (encN cs)] ∧ Rect t n ∧ Ent 9 t ∧ rs.length = cs.length ∧ (1 ≤ rs.length ∧ rs.length ≤ 4) ∧ (∀ i ∈ rs, i < t.length) ∧ (∀ j ∈ cs, j < n) ∧ o = .ret (.im (encCO (cornerL t n rs cs)))
def t_corner (K : PySem.W.Frag) : TS := (tSeq (tAsg (tCall (spR K R_weighed) [] E0 (tCons (tLc (iList K (tVar 1)) (gName 8) tYes (tLc (iList K (tVar 2)) (gName 5) tYes (tOp (rIx K) (tOp (rIx K) (tVar 0) (tVar 8)) (tVar 5)) [5]) [8]) tNil)) (gName 3))
    (tSeq (tIfS (tOr (tTest (tOp (rEqD K) (tVar 3) (tLst tNil))) (tTest (tOp (rI0 fun i j => .bl (decide (i < j))) (tCB (rMin K) (tCons (tOp (rIx K) (tVar 3) (tC (.int 0))) tNil)) (tC (.int 0))))) (tRet (tLst tNil)) tNext)
    (tSeq (tAsg (tLc (iList K (tOp (rIx K) (tVar 0) (tC (.int 0)))) (gName 5) tYes (tC (.int 0)) [5]) (gName 4))
    (tSeq (tFor (iZip K (tCons (tVar 2) (tCons (tOp (rIx K) (tVar 3) (tC (.int 0))) tNil))) (gTup K 2 (gCons (gName 5) (gCons (gName 6) gNil))) (tAsg (tVar 6) (gSub (tVar 4) (tVar 5) rSetL)))
    (tSeq (tAsg (tLc (iList K (tVar 0)) (gName 8) tYes (tCB (rSum K) (tCons (tLc (iZip K (tCons (tVar 8) (tCons (tVar 4) tNil))) (gTup K 2 (gCons (gName 9) (gCons (gName 6) gNil))) tYes (tOp (rI CMulW fun i j => .int (i * j)) (tVar 9) (tVar 6)) [9, 6]) tNil)) [8]) (gName 7))
    (tSeq (tIfS (tTest (tOp (rI0 fun i j => .bl (decide (j < i))) (tCB (rMax K) (tCons (tVar 7) tNil)) (tOp (rIx K) (tVar 3) (tC (.int 1))))) (tRet (tLst tNil)) tNext)
    (tRet (tLst (tCons (tVar 4) (tCons (tLc (iRng1 (tCons (tCB (rLenU K) (tCons (tVar 0) tNil)) tNil)) (gName 8) (tTest (tOp (rEqD K) (tOp (rIx K) (tVar 7) (tVar 8)) (tOp (rIx K) (tVar 3) (tC (.int 1))))) (tVar 8) [8]) tNil))))))))))
theorem len_corner {ss : List Sl} {o : Out} (h : R_corner ss o) : ss.length = 3 := by
  first | (obtain ⟨_, rfl, _⟩ := h; rfl) | (obtain ⟨_, _, rfl, _⟩ := h; rfl) | (obtain ⟨_, _, _, rfl, _⟩ := h; rfl) | (obtain ⟨_, _, _, _, rfl, _⟩ := h; rfl) | (obtain ⟨_, _, _, _, _, rfl, _⟩ := h; rfl) | (obtain ⟨_, _, _, _, _, _, rfl, _⟩ := h; rfl)
theorem b_corner {K : PySem.W.Frag} {E : XK} (ss : List Sl) (o : Out) (h : R_corner ss o) : St K E (t_corner K) (params ["table", "rows", "columns", "told", "weights", "column", "weight", "sums", "row", "worth"] ss) { nx := fun _ => o = .ret (.im .none), rt := fun s => o = .ret s, ex := fun c => o = .exc c } := by
  obtain ⟨t, n, rs, cs, rfl, rect, he, hl, ⟨h1, h4⟩, hr, hc, rfl⟩ := h
  have he10 := he.mono (show 9 ≤ 10 by decide)
  have psq := pick_sq t hl
  have pent := pick_ent rect he10 hr hc
  have t1 := rect.r1
  have t4 := rect.r4
  have c4 := rect.c4
  obtain ⟨r0, t', et, hr0⟩ := rect.head
  have e0 : t[0]? = some r0 := by rw [et]; rfl
  have hpick : Ev K (tLc (iList K (tVar 1)) (gName 8) tYes (tLc (iList K (tVar 2)) (gName 5) tYes (tOp (rIx K) (tOp (rIx K) (tVar 0) (tVar 8)) (tVar 5)) [5]) [8]) (params ["table", "rows", "columns", "told", "weights", "column", "weight", "sums", "row", "worth"] [.im (encT t), .im (encN rs), .im (encN cs)]) (encT (pickL t rs cs)) := by
    refine EvS.freeze (EvS.to (ev_lc1 (xs := rs) (enc := fun i : Nat => .int i) (vs := [8]) (ei_list (ev_var rfl)) (fun i => encR (cs.map fun j => entry t i j)) (fun i => [.im (encT t), .im (encN rs), .im (encN cs), .no, .no, .no, .no, .no, .im (.int (i : Nat)), .no]) (fun i _ => tg_name (by decide)) (fun i hi => ?_) (by omega)) (by unfold pickL; rw [List.map_map]; rfl))
    refine EvS.freeze (EvS.to (ev_lc1 (xs := cs) (enc := fun i : Nat => .int i) (vs := [5]) (ei_list (ev_var rfl)) (fun j => .int (entry t i j)) (fun j => [.im (encT t), .im (encN rs), .im (encN cs), .no, .no, .im (.int (j : Nat)), .no, .no, .im (.int (i : Nat)), .no]) (fun j _ => tg_name (by decide)) (fun j hj => ?_) (by omega)) (by rw [map_int_map]))
    obtain ⟨g1, g2⟩ := rect.at (hr i hi) (hc j hj)
    exact ev_ix (ev_ix (a := encT t) (ev_var rfl) (EvS.h (ev_var rfl)) (item_T g1)) (EvS.h (ev_var rfl)) (item_R g2)
  refine st_seq (st_asg (s := .im (encW (weighedL rs.length (pickL t rs cs)))) (ev_call (ss := [.im (encT (pickL t rs cs))]) (ea_im hpick ea_nil) ⟨_, _, rfl, h1, h4, psq, pent, rfl⟩) ?_)
  have ok := fun w d => weighed_ok (w := w) (d := d) h4 pent
  have hC : cornerL t n rs cs = match weighedL rs.length (pickL t rs cs) with
    | none => none
    | some (w, d) => if minL w < 0 then none else if d < maxL (sumsL t (spread n cs w)) then none else some (spread n cs w, tight t (spread n cs w) d) := rfl
  generalize cornerL t n rs cs = C at *
  generalize weighedL rs.length (pickL t rs cs) = W at *
  have hnil : ∀ {G : Env}, EvH K (tLst tNil) G (.list []) := fun {G} => EvS.h (EvS.freeze (ev_lst (ds := []) ea_nil (Nat.le_of_ble_eq_true rfl)))
  cases W with
  | none =>
    refine st_seq (st_if (b := true) (EvB.to (a := PyData.eqv (encW none) (.list []) || false) (eb_or (eb_test (EvS.h (ev_eqD (EvS.h (ev_var rfl)) hnil (shaped_of lay_W (by decide)) (shaped_of lay_nil (by decide))))) fun z => ?_) (by rw [eqv_W]; rfl)) (fun _ => st_ret (s := .im (.list [])) (EvS.freeze (ev_lst (ds := []) ea_nil (Nat.le_of_ble_eq_true rfl))) (by rw [hC]; rfl)) (fun z => nomatch z))
    rw [eqv_W] at z
    cases z
  | some p =>
    obtain ⟨w, d⟩ := p
    replace hC : C = if minL w < 0 then none else if d < maxL (sumsL t (spread n cs w)) then none else some (spread n cs w, tight t (spread n cs w) d) := hC
    obtain ⟨lw, sw, dp, sd⟩ := ok w d rfl
    have wne : w ≠ [] := fun z => by rw [z] at lw; simp at lw; omega
    have i0 : ItemOf (encW (some (w, d))) 0 (encR w) := .lst rfl
    have i1 : ItemOf (encW (some (w, d))) 1 (.int d) := .lst rfl
    have tst : EvB K (tOr (tTest (tOp (rEqD K) (tVar 3) (tLst tNil))) (tTest (tOp (rI0 fun i j => .bl (decide (i < j))) (tCB (rMin K) (tCons (tOp (rIx K) (tVar 3) (tC (.int 0))) tNil)) (tC (.int 0))))) [.im (encT t), .im (encN rs), .im (encN cs), .im (encW (some (w, d))), .no, .no, .no, .no, .no, .no] (decide (minL w < 0)) := by
      refine EvB.to (a := PyData.eqv (encW (some (w, d))) (.list []) || decide (minL w < 0)) (eb_orN (eb_test (EvS.h (ev_eqD (EvS.h (ev_var rfl)) hnil (shaped_of lay_W (by decide)) (shaped_of lay_nil (by decide))))) (eb_test (EvS.h (ev_I0 (EvS.h (ev_min (EvS.h (ev_ix (ev_var rfl) (EvS.h (ev_c (.int 0))) i0)) (minL_is wne))) (EvS.h (ev_c (.int 0))) (.bl _))))) (by rw [eqv_W]; rfl)
    by_cases hneg : minL w < 0
    · rw [decide_eq_true hneg] at tst
      refine st_seq (st_if tst (fun _ => st_ret (s := .im (.list [])) (EvS.freeze (ev_lst (ds := []) ea_nil (Nat.le_of_ble_eq_true rfl))) ?_) (fun z => nomatch z))
      rw [hC, if_pos hneg]
      rfl
    rw [decide_eq_false hneg] at tst
    refine st_seq (st_if tst (fun z => nomatch z) (fun _ => st_next ?_))
    refine st_seq (st_asg (s := .ow ((List.replicate n 0).map .int)) (EvS.to (ev_lc1 (xs := r0) (enc := .int) (vs := [5]) (ei_list (ev_ix (a := encT t) (i := ((0 : Nat) : Int)) (ev_var rfl) (EvS.h (ev_c (.int 0))) (item_T e0))) (fun _ => .int 0) (fun x => [.im (encT t), .im (encN rs), .im (encN cs), .im (encW (some (w, d))), .no, .im (.int x), .no, .no, .no, .no]) (fun x _ => tg_name (by decide)) (fun x _ => by walk_at "ev") (by omega)) (by rw [List.map_replicate, ← hr0, ← List.map_const'])) ?_)
    refine st_seq (st_forG (vs := [5, 6]) (xs := cs.zip w) (enc := fun p : Nat × Int => .tuple [.int (p.1 : Nat), .int p.2]) ((ei_zip (ev_var rfl) (ev_ix (ev_var rfl) (EvS.h (ev_c (.int 0))) i0)).to (zip_pairD (fun i : Nat => .int i) .int _ _)) (fun i => [.im (encT t), .im (encN rs), .im (encN cs), .im (encW (some (w, d))), .ow ((putAll (List.replicate n 0) ((cs.zip w).take i)).map .int), .no, .no, .no, .no, .no]) (by walk_at "le") (fun i p hp => ?_) (fun G' hle => ?_))
    · refine ⟨_, tg_tup (tgs_cons (tg_name (by decide)) (tgs_cons (tg_name (by decide)) tgs_nil)) rfl, ?_⟩
      have hp' := List.of_mem_zip (a := p.1) (b := p.2) (List.mem_of_getElem? hp)
      have hj := hc _ hp'.1
      rw [take_snoc hp, putAll_snoc]
      have la : (putAll (List.replicate n 0) ((cs.zip w).take i)).length = n := (putAll_len _ _).trans List.length_replicate
      generalize putAll (List.replicate n 0) ((cs.zip w).take i) = a at *
      refine st_setL (j := 4) (k := p.1) (i := ((p.1 : Nat) : Int)) (d := .int p.2) (ds := a.map .int) rfl (ev_var rfl) (EvS.h (ev_var rfl)) (ixN_natU (by rw [List.length_map, la]; exact hj)) ?_
      rw [← List.map_set]
      show Le _ [.im (encT t), .im (encN rs), .im (encN cs), .im (encW (some (w, d))), .ow ((a.set p.1 p.2).map .int), .im (.int (p.1 : Nat)), .im (.int p.2), .no, .no, .no]
      walk_at "le"
    rw [List.take_length] at hle
    refine st_le hle ?_
    show St K E _ [.im (encT t), .im (encN rs), .im (encN cs), .im (encW (some (w, d))), .ow ((spread n cs w).map .int), .no, .no, .no, .no, .no] _
    have ls := spread_len n cs w
    have ss := spread_mem (P := Sm 60) (n := n) (cs := cs) (w := w) (Nat.pow_pos (by decide)) sw
    generalize spread n cs w = V at *
    refine st_freeze 4 rfl ?_
    refine st_seq (st_asg (s := .im (encR (sumsL t V))) (EvS.freeze (EvS.to (ev_lc1 (xs := t) (enc := encR) (vs := [8]) (ei_list (ev_var rfl)) (fun r => .int (dotI r V)) (fun r => [.im (encT t), .im (encN rs), .im (encN cs), .im (encW (some (w, d))), .im (encR V), .no, .no, .no, .im (encR r), .no]) (fun r _ => tg_name (by decide)) (fun r hr' => ?_) (by omega)) (by rw [map_int_map]; rfl))) ?_)
    · refine ev_sum (ns := (r.zip V).map fun p => p.1 * p.2) (EvS.h (EvS.freeze (EvS.to (ev_lc1 (xs := r.zip V) (enc := fun p : Int × Int => .tuple [.int p.1, .int p.2]) (vs := [9, 6]) ((ei_zip (ev_var rfl) (ev_var rfl)).to (zip_pairD .int .int _ _)) (fun p => .int (p.1 * p.2)) (fun p => [.im (encT t), .im (encN rs), .im (encN cs), .im (encW (some (w, d))), .im (encR V), .no, .im (.int p.2), .no, .im (encR r), .im (.int p.1)]) (fun p _ => tg_tup (tgs_cons (tg_name (by decide)) (tgs_cons (tg_name (by decide)) tgs_nil)) rfl) (fun p hp => ?_) (by rw [List.length_zip]; omega)) (by rw [map_int_map]))))
      have hp' := List.of_mem_zip (a := p.1) (b := p.2) hp
      exact ev_I (EvS.h (ev_var rfl)) (EvS.h (ev_var rfl)) (.int _) ((he r hr' _ hp'.1).cmul (ss _ hp'.2) (by decide))
    have sne : sumsL t V ≠ [] := fun z => by have := sums_len t V; rw [z] at this; simp at this; omega
    have tst2 : EvB K (tTest (tOp (rI0 fun i j => .bl (decide (j < i))) (tCB (rMax K) (tCons (tVar 7) tNil)) (tOp (rIx K) (tVar 3) (tC (.int 1))))) [.im (encT t), .im (encN rs), .im (encN cs), .im (encW (some (w, d))), .im (encR V), .no, .no, .im (encR (sumsL t V)), .no, .no] (decide (d < maxL (sumsL t V))) :=
      eb_test (EvS.h (ev_I0 (EvS.h (ev_max (EvS.h (ev_var rfl)) (maxL_is sne))) (EvS.h (ev_ix (ev_var rfl) (EvS.h (ev_c (.int 1))) i1)) (.bl _)))
    by_cases hgt : d < maxL (sumsL t V)
    · rw [decide_eq_true hgt] at tst2
      refine st_seq (st_if tst2 (fun _ => st_ret (s := .im (.list [])) (EvS.freeze (ev_lst (ds := []) ea_nil (Nat.le_of_ble_eq_true rfl))) ?_) (fun z => nomatch z))
      rw [hC, if_neg hneg, if_pos hgt]
      rfl
    rw [decide_eq_false hgt] at tst2
    refine st_seq (st_if tst2 (fun z => nomatch z) (fun _ => st_next (st_ret (s := .im (encC (V, tight t V d))) ?_ ?_)))
    · refine EvS.freeze (ev_lst (ds := [encR V, encN (tight t V d)]) (ea_im (ev_var rfl) (ea_im (EvS.freeze (ev_lc (xs := List.range t.length) (enc := fun i : Nat => .int i) (vs := [8]) (ei_range (n := t.length) (EvS.h (ev_lenD (EvS.h (ev_var rfl)) len_T)) (by omega)) (fun i => decide ((sumsL t V).getD i 0 = d)) (fun i : Nat => .int i) (fun i => [.im (encT t), .im (encN rs), .im (encN cs), .im (encW (some (w, d))), .im (encR V), .no, .no, .im (encR (sumsL t V)), .im (.int (i : Nat)), .no]) (fun i _ => tg_name (by decide)) (fun i hi => ?_) (fun i _ _ => ev_var rfl) (by rw [List.length_range]; omega))) ea_nil)) (Nat.le_of_ble_eq_true rfl))
      have hi := List.mem_range.mp hi
      refine EvB.to (a := PyData.eqv (.int ((sumsL t V).getD i 0)) (.int d)) (eb_test (EvS.h (ev_eqD (EvS.h (ev_ix (a := encR (sumsL t V)) (ev_var rfl) (EvS.h (ev_var rfl)) (item_R (getD_of (by rw [sums_len]; exact hi))))) (EvS.h (ev_ix (ev_var rfl) (EvS.h (ev_c (.int 1))) i1)) (shaped_of lay_int (by decide)) (shaped_of lay_int (by decide))))) (by rw [eqv_int])
    · rw [hC, if_neg hneg, if_neg hgt]
      rfl

theorem subs_mem {m : Nat} {rs : List Nat} (h : rs ∈ subsL m) : rs.Nodup ∧ (∀ i ∈ rs, i < m) ∧ rs.length ≤ m := by
  unfold subsL at h
  obtain ⟨x, _, rfl⟩ := List.mem_map.mp h
  refine ⟨List.Pairwise.filter _ List.nodup_range, fun i hi => List.mem_range.mp (List.mem_filter.mp hi).1, ?_⟩
  have := List.length_filter_le (fun p => decide (x / 2 ^ p % 2 = 1)) (List.range m)
  rw [List.length_range] at this
  exact this
theorem subs_len (m : Nat) : (subsL m).length = 2 ^ m := by unfold subsL; rw [List.length_map, List.length_range]
theorem stepC_len (a : List Crn) (o : Option Crn) : (stepC a o).length ≤ a.length + 1 := by
  cases o with
  | none => exact Nat.le_succ _
  | some c =>
    show (if c ∈ a then a else a ++ [c]).length ≤ _
    split
    · exact Nat.le_succ _
    · rw [List.length_append]; exact Nat.le_refl _
def innerC (t : List (List Int)) (n : Nat) (rs : List Nat) (a : List Crn) (css : List (List Nat)) : List Crn := css.foldl (fun a cs => stepC a (candC t n rs cs)) a
def outerC (t : List (List Int)) (n : Nat) (rss : List (List Nat)) : List Crn := rss.foldl (fun a rs => innerC t n rs a (subsL n)) []
theorem innerC_len (t : List (List Int)) (n : Nat) (rs : List Nat) : ∀ (css : List (List Nat)) (a : List Crn), (innerC t n rs a css).length ≤ a.length + css.length
  | [], a => Nat.le_refl _
  | cs :: css, a => by
    have := innerC_len t n rs css (stepC a (candC t n rs cs))
    have h2 := stepC_len a (candC t n rs cs)
    show (innerC t n rs (stepC a (candC t n rs cs)) css).length ≤ _
    rw [List.length_cons]
    omega
theorem outerC_len (t : List (List Int)) (n : Nat) : ∀ rss : List (List Nat), (outerC t n rss).length ≤ rss.length * 2 ^ n := by
  intro rss
  induction rss using snoc_ind with
  | h0 => exact Nat.zero_le _
  | h1 l x ih =>
    unfold outerC at *
    rw [List.foldl_append, List.length_append, List.length_singleton, Nat.succ_mul]
    have := innerC_len t n x (subsL n) (l.foldl (fun a rs => innerC t n rs a (subsL n)) [])
    rw [subs_len] at this
    show (innerC t n x _ (subsL n)).length ≤ _
    omega

def R_corners : List Sl → Out → Prop := fun ss o => ∃ (t : List (List Int)) (n : Nat), ss = [.im (encT t)] ∧ Rect t n ∧ Ent 9 t ∧ o = .ret (.im (.list ((cornersL t n).map encC)))
def t_corners (K : PySem.W.Frag) : TS := (tSeq (tAsg (tLst tNil) (gName 1))
    (tSeq (tFor (iList K (tCall (spR K R_subsets) [] E0 (tCons (tCB (rLenU K) (tCons (tVar 0) tNil)) tNil))) (gName 2) (tFor (iList K (tCall (spR K R_subsets) [] E0 (tCons (tCB (rLenU K) (tCons (tOp (rIx K) (tVar 0) (tC (.int 0))) tNil)) tNil))) (gName 3) (tIfS (tAnd (tTest (tOp (rNeD K) (tVar 2) (tLst tNil))) (tTest (tOp (rEqD K) (tCB (rLenU K) (tCons (tVar 2) tNil)) (tCB (rLenU K) (tCons (tVar 3) tNil))))) (tSeq (tAsg (tCall (spR K R_corner) [] E0 (tCons (tVar 0) (tCons (tVar 2) (tCons (tVar 3) tNil)))) (gName 4))
    (tIfS (tAnd (tTest (tOp (rNeD K) (tVar 4) (tLst tNil))) (tTest (tOp (rNotInD K) (tVar 4) (tVar 1)))) (tDrop (tBM K "list" rAppend (tVar 1) (tCons (tVar 4) tNil))) tNext)) tNext)))
    (tRet (tVar 1))))
theorem len_corners {ss : List Sl} {o : Out} (h : R_corners ss o) : ss.length = 1 := by
  first | (obtain ⟨_, rfl, _⟩ := h; rfl) | (obtain ⟨_, _, rfl, _⟩ := h; rfl) | (obtain ⟨_, _, _, rfl, _⟩ := h; rfl) | (obtain ⟨_, _, _, _, rfl, _⟩ := h; rfl) | (obtain ⟨_, _, _, _, _, rfl, _⟩ := h; rfl) | (obtain ⟨_, _, _, _, _, _, rfl, _⟩ := h; rfl)
theorem b_corners {K : PySem.W.Frag} {E : XK} (ss : List Sl) (o : Out) (h : R_corners ss o) : St K E (t_corners K) (params ["table", "found", "rows", "columns", "one"] ss) { nx := fun _ => o = .ret (.im .none), rt := fun s => o = .ret s, ex := fun c => o = .exc c } := by
  obtain ⟨t, n, rfl, rect, he, rfl⟩ := h
  have t4 := rect.r4
  have c4 := rect.c4
  obtain ⟨r0, t', et, hr0⟩ := rect.head
  have e0 : t[0]? = some r0 := by rw [et]; rfl
  have pm : 2 ^ t.length ≤ 16 := Nat.pow_le_pow_right (n := 2) (by decide) t4
  have pn : 2 ^ n ≤ 16 := Nat.pow_le_pow_right (n := 2) (by decide) c4
  have hnil : ∀ {G : Env}, EvH K (tLst tNil) G (.list []) := fun {G} => EvS.h (EvS.freeze (ev_lst (ds := []) ea_nil (Nat.le_of_ble_eq_true rfl)))
  refine st_seq (st_asg (s := .ow []) (by walk_at "ev") ?_)
  refine st_seq (st_forG (vs := [2]) (xs := subsL t.length) (enc := encN) (ei_list (ev_call (ss := [.im (.int (t.length : Nat))]) (ea_im (ev_lenD (EvS.h (ev_var rfl)) len_T) ea_nil) ⟨_, rfl, t4, rfl⟩)) (fun i => [.im (encT t), .ow ((outerC t n ((subsL t.length).take i)).map encC), .no, .no, .no]) (by walk_at "le") (fun i rs hi => ?_) (fun G' hle => ?_))
  · refine ⟨_, tg_name (by decide), ?_⟩
    have hilt := (List.getElem?_eq_some_iff.mp hi).1
    rw [subs_len] at hilt
    obtain ⟨rnd, rlt, rle⟩ := subs_mem (List.mem_of_getElem? hi)
    have ol := outerC_len t n ((subsL t.length).take i)
    rw [List.length_take, subs_len] at ol
    have ob : min i (2 ^ t.length) * 2 ^ n ≤ 16 * 16 := Nat.mul_le_mul (by omega) pn
    have eo : outerC t n ((subsL t.length).take (i + 1)) = innerC t n rs (outerC t n ((subsL t.length).take i)) (subsL n) := by
      rw [take_snoc hi]
      unfold outerC
      rw [List.foldl_append]
      rfl
    rw [eo]
    generalize outerC t n ((subsL t.length).take i) = acc at *
    refine st_forG (vs := [3]) (xs := subsL n) (enc := encN) (ei_list (ev_call (ss := [.im (.int (n : Nat))]) (ea_im (by rw [← hr0]; exact ev_lenD (EvS.h (ev_ix (a := encT t) (i := ((0 : Nat) : Int)) (ev_var rfl) (EvS.h (ev_c (.int 0))) (item_T e0))) len_R) ea_nil) ⟨_, rfl, c4, rfl⟩)) (fun j => [.im (encT t), .ow ((innerC t n rs acc ((subsL n).take j)).map encC), .im (encN rs), .no, .no]) (by walk_at "le") (fun j cs hj => ?_) (fun G' hle => ?_)
    · refine ⟨_, tg_name (by decide), ?_⟩
      have hjlt := (List.getElem?_eq_some_iff.mp hj).1
      rw [subs_len] at hjlt
      obtain ⟨cnd, clt, cle⟩ := subs_mem (List.mem_of_getElem? hj)
      have il := innerC_len t n rs ((subsL n).take j) acc
      rw [List.length_take, subs_len] at il
      have ei : innerC t n rs acc ((subsL n).take (j + 1)) = stepC (innerC t n rs acc ((subsL n).take j)) (candC t n rs cs) := by
        rw [take_snoc hj]
        unfold innerC
        rw [List.foldl_append]
        rfl
      rw [ei]
      generalize innerC t n rs acc ((subsL n).take j) = a at *
      have tst : EvB K (tAnd (tTest (tOp (rNeD K) (tVar 2) (tLst tNil))) (tTest (tOp (rEqD K) (tCB (rLenU K) (tCons (tVar 2) tNil)) (tCB (rLenU K) (tCons (tVar 3) tNil))))) [.im (encT t), .ow (a.map encC), .im (encN rs), .im (encN cs), .no] (!decide (rs = []) && decide (rs.length = cs.length)) := by
        refine EvB.to (a := !(PyData.eqv (encN rs) (encN [])) && PyData.eqv (.int ((rs.map fun i : Nat => PyData.int i).length : Nat)) (.int ((cs.map fun i : Nat => PyData.int i).length : Nat))) (eb_andN (eb_test (EvS.h (ev_neD (EvS.h (ev_var rfl)) hnil (shaped_of lay_N (by decide)) (shaped_of (lay_N (ns := [])) (by decide))))) (eb_test (EvS.h (ev_eqD (EvS.h (ev_lenD (EvS.h (ev_var rfl)) .lst)) (EvS.h (ev_lenD (EvS.h (ev_var rfl)) .lst)) (shaped_of lay_int (by decide)) (shaped_of lay_int (by decide)))))) (by rw [eqv_N, eqv_int, natE, List.length_map, List.length_map])
      by_cases hc : rs ≠ [] ∧ rs.length = cs.length
      · refine st_if (b := true) (tst.to (by rw [decide_eq_false hc.1, decide_eq_true hc.2]; rfl)) (fun _ => ?_) (fun z => nomatch z)
        have h1 : 1 ≤ rs.length := List.length_pos_iff.mpr hc.1
        have ec : candC t n rs cs = cornerL t n rs cs := if_pos hc
        rw [ec]
        refine st_seq (st_asg (s := .im (encCO (cornerL t n rs cs))) (ev_call (ss := [.im (encT t), .im (encN rs), .im (encN cs)]) (ea_im (ev_var rfl) (ea_im (ev_var rfl) (ea_im (ev_var rfl) ea_nil))) ⟨_, _, _, _, rfl, rect, he, hc.2, ⟨h1, by omega⟩, rlt, clt, rfl⟩) ?_)
        generalize cornerL t n rs cs = C
        have tst2 : EvB K (tAnd (tTest (tOp (rNeD K) (tVar 4) (tLst tNil))) (tTest (tOp (rNotInD K) (tVar 4) (tVar 1)))) [.im (encT t), .ow (a.map encC), .im (encN rs), .im (encN cs), .im (encCO C)] (!(PyData.eqv (encCO C) (.list [])) && !((a.map encC).any fun z => PyData.eqv z (encCO C))) :=
          eb_andN (eb_test (EvS.h (ev_neD (EvS.h (ev_var rfl)) hnil (shaped_of lay_CO (by decide)) (shaped_of lay_nil (by decide))))) (eb_test (EvS.h (ev_notInD (EvS.h (ev_var rfl)) (eh_own rfl) (shaped_of lay_CO (by decide)) (shaped_of lay_Cs (by decide)))))
        rw [eqv_CO] at tst2
        cases C with
        | none =>
          refine st_if (b := false) (tst2.to (by simp)) (fun z => nomatch z) (fun _ => st_next ?_)
          show Le _ [.im (encT t), .ow (a.map encC), .im (encN rs), .im (encN cs), .im (encCO none)]
          walk_at "le"
        | some c =>
          show St K E _ [.im (encT t), .ow (a.map encC), .im (encN rs), .im (encN cs), .im (encC c)] _
          have tst3 := tst2
          rw [show encCO (some c) = encC c from rfl, any_C] at tst3
          by_cases hin : c ∈ a
          · refine st_if (b := false) (tst3.to (by rw [decide_eq_true hin]; simp)) (fun z => nomatch z) (fun _ => st_next ?_)
            have es : stepC a (some c) = a := if_pos hin
            rw [es]
            walk_at "le"
          · refine st_if (b := true) (tst3.to (by rw [decide_eq_false hin]; simp)) (fun _ => ?_) (fun z => nomatch z)
            have es : stepC a (some c) = a ++ [c] := if_neg hin
            rw [es, List.map_append]
            refine st_app (j := 1) (d := encC c) (ds := a.map encC) rfl (ev_var rfl) (by rw [List.length_map]; omega) ?_
            show Le _ [.im (encT t), .ow (a.map encC ++ [encC c]), .im (encN rs), .im (encN cs), .im (encC c)]
            show Le [.im (encT t), .ow (a.map encC ++ [encC c]), .im (encN rs), .no, .no] _
            walk_at "le"
      · have ec : candC t n rs cs = none := if_neg hc
        rw [ec]
        refine st_if (b := false) (tst.to ?_) (fun z => nomatch z) (fun _ => st_next ?_)
        · by_cases h0 : rs = []
          · rw [decide_eq_true h0]; rfl
          · rw [decide_eq_false (fun z => hc ⟨h0, z⟩), Bool.and_false]
        · show Le [.im (encT t), .ow (a.map encC), .im (encN rs), .no, .no] _
          walk_at "le"
    · rw [List.take_length] at hle
      refine Le.trans ?_ hle
      walk_at "le"
  · rw [List.take_length] at hle
    exact st_le hle (st_freeze 1 rfl (st_ret (by walk_at "ev") rfl))

theorem raised_rect {t : List (List Int)} {n : Nat} (h : TabW t n) : Rect (raisedL t) n ∧ (raisedL t).length = t.length ∧ (∀ r ∈ raisedL t, ∀ x ∈ r, 1 ≤ x ∧ x ≤ 401) := by
  have hl : (raisedL t).length = t.length := List.length_map _
  have tne : t.map minL ≠ [] := fun z => by
    rw [List.map_eq_nil_iff] at z
    have := h.r1
    rw [z] at this
    exact absurd this (by decide)
  have rne : ∀ r ∈ t, r ≠ [] := fun r hr z => by
    have := h.row r hr
    have := h.c1
    rw [z] at *
    simp at *
    omega
  have lm := minL_is tne
  refine ⟨⟨by rw [hl]; exact h.r1, by rw [hl]; exact h.r4, h.c1, h.c4, fun r hr => ?_⟩, hl, fun r hr x hx => ?_⟩
  · obtain ⟨y, hy, rfl⟩ := List.mem_map.mp hr
    rw [List.length_map]
    exact h.row y hy
  · obtain ⟨y, hy, rfl⟩ := List.mem_map.mp hr
    obtain ⟨z, hz, rfl⟩ := List.mem_map.mp hx
    have a := lm.2 _ (List.mem_map.mpr ⟨y, hy, rfl⟩)
    have b := (minL_is (rne y hy)).2 z hz
    have c := h.bd y hy z hz
    obtain ⟨w, hw, ew⟩ := List.mem_map.mp lm.1
    have d := h.bd w hw _ (minL_is (rne w hw)).1
    show 1 ≤ z - minL (t.map minL) + 1 ∧ z - minL (t.map minL) + 1 ≤ 401
    omega
theorem raised_ent {t : List (List Int)} {n : Nat} (h : TabW t n) : Ent 9 (raisedL t) := fun r hr x hx => by
  have := (raised_rect h).2.2 r hr x hx
  show x.natAbs < 512
  omega

def R_raised : List Sl → Out → Prop := fun ss o => ∃ (t : List (List Int)) (n : Nat), ss = [.im (encT t)] ∧ TabW t n ∧ o = .ret (.im (encT (raisedL t)))
def t_raised (K : PySem.W.Frag) : TS := (tSeq (tAsg (tCB (rMin K) (tCons (tLc (iList K (tVar 0)) (gName 2) tYes (tCB (rMin K) (tCons (tVar 2) tNil)) [2]) tNil)) (gName 1))
    (tRet (tLc (iList K (tVar 0)) (gName 2) tYes (tLc (iList K (tVar 2)) (gName 3) tYes (tOp (rI0 fun i j => .int (i + j)) (tOp (rI0 fun i j => .int (i - j)) (tVar 3) (tVar 1)) (tC (.int 1))) [3]) [2])))
theorem len_raised {ss : List Sl} {o : Out} (h : R_raised ss o) : ss.length = 1 := by
  first | (obtain ⟨_, rfl, _⟩ := h; rfl) | (obtain ⟨_, _, rfl, _⟩ := h; rfl) | (obtain ⟨_, _, _, rfl, _⟩ := h; rfl) | (obtain ⟨_, _, _, _, rfl, _⟩ := h; rfl) | (obtain ⟨_, _, _, _, _, rfl, _⟩ := h; rfl) | (obtain ⟨_, _, _, _, _, _, rfl, _⟩ := h; rfl)
theorem b_raised {K : PySem.W.Frag} {E : XK} (ss : List Sl) (o : Out) (h : R_raised ss o) : St K E (t_raised K) (params ["table", "least", "row", "worth"] ss) { nx := fun _ => o = .ret (.im .none), rt := fun s => o = .ret s, ex := fun c => o = .exc c } := by
  obtain ⟨t, n, rfl, tab, rfl⟩ := h
  have t4 := tab.r4
  have tne : t.map minL ≠ [] := fun z => by
    rw [List.map_eq_nil_iff] at z
    have := tab.r1
    rw [z] at this
    exact absurd this (by decide)
  have rne : ∀ r ∈ t, r ≠ [] := fun r hr z => by
    have := tab.row r hr
    have := tab.c1
    rw [z] at *
    simp at *
    omega
  refine st_seq (st_asg (s := .im (.int (leastL t))) (ev_min (ns := t.map minL) (EvS.h (EvS.freeze (EvS.to (ev_lc1 (xs := t) (enc := encR) (vs := [2]) (ei_list (ev_var rfl)) (fun r => .int (minL r)) (fun r => [.im (encT t), .no, .im (encR r), .no]) (fun r _ => tg_name (by decide)) (fun r hr => ev_min (EvS.h (ev_var rfl)) (minL_is (rne r hr))) (by omega)) (by rw [map_int_map])))) (minL_is tne)) ?_)
  refine st_ret (s := .im (encT (raisedL t))) (EvS.freeze (EvS.to (ev_lc1 (xs := t) (enc := encR) (vs := [2]) (ei_list (ev_var rfl)) (fun r => encR (r.map fun x => x - leastL t + 1)) (fun r => [.im (encT t), .im (.int (leastL t)), .im (encR r), .no]) (fun r _ => tg_name (by decide)) (fun r hr => ?_) (by omega)) (by unfold raisedL; rw [List.map_map]; rfl))) rfl
  refine EvS.freeze (EvS.to (ev_lc1 (xs := r) (enc := .int) (vs := [3]) (ei_list (ev_var rfl)) (fun x => .int (x - leastL t + 1)) (fun x => [.im (encT t), .im (.int (leastL t)), .im (encR r), .im (.int x)]) (fun x _ => tg_name (by decide)) (fun x _ => by walk_at "ev") (by have := tab.row r hr; have := tab.c4; omega)) (by rw [map_int_map]))
/-! ### determinants up to four, row by row -/
theorem det1 (a : Int) : detL 1 [[a]] = a := by
  simp [detL, minorL, sg, List.range_succ]
theorem det2 (a b c d : Int) : detL 2 [[a, b], [c, d]] = a * d - b * c := by
  simp [detL, minorL, sg, List.range_succ]
  grind
theorem det3 (a b c d e f g h i : Int) : detL 3 [[a, b, c], [d, e, f], [g, h, i]] = a * (e * i - f * h) - b * (d * i - f * g) + c * (d * h - e * g) := by
  simp [detL, minorL, sg, List.range_succ]
  grind
theorem det4 (a b c d e f g h i j k l m n o p : Int) : detL 4 [[a, b, c, d], [e, f, g, h], [i, j, k, l], [m, n, o, p]] =
    a * (f * (k * p - l * o) - g * (j * p - l * n) + h * (j * o - k * n)) - b * (e * (k * p - l * o) - g * (i * p - l * m) + h * (i * o - k * m))
    + c * (e * (j * p - l * n) - f * (i * p - l * m) + h * (i * n - j * m)) - d * (e * (j * o - k * n) - f * (i * o - k * m) + g * (i * n - j * m)) := by
  rw [detL]
  simp only [List.range_succ, List.range_zero, List.nil_append, List.cons_append, List.map_cons, List.map_nil, minorL, List.tail_cons, List.take_zero, List.take_succ_cons, List.drop_succ_cons, List.drop_zero, det3, List.sum_cons, List.sum_nil, sg, List.getD_cons_zero, List.getD_cons_succ]
  simp
  grind
theorem row1 {r : List Int} (h : r.length = 1) : ∃ a, r = [a] := match r, h with | [a], _ => ⟨a, rfl⟩
theorem row2 {r : List Int} (h : r.length = 2) : ∃ a b, r = [a, b] := match r, h with | [a, b], _ => ⟨a, b, rfl⟩
theorem row3 {r : List Int} (h : r.length = 3) : ∃ a b c, r = [a, b, c] := match r, h with | [a, b, c], _ => ⟨a, b, c, rfl⟩
theorem row4 {r : List Int} (h : r.length = 4) : ∃ a b c d, r = [a, b, c, d] := match r, h with | [a, b, c, d], _ => ⟨a, b, c, d, rfl⟩
theorem sq1 {sq : List (List Int)} (h : Sq 1 sq) : ∃ a, sq = [[a]] := by
  match sq, h.len, h.row with
  | [r], _, hr =>
    obtain ⟨a, rfl⟩ := row1 (hr r (by simp))
    exact ⟨a, rfl⟩
theorem sq2 {sq : List (List Int)} (h : Sq 2 sq) : ∃ a b c d, sq = [[a, b], [c, d]] := by
  match sq, h.len, h.row with
  | [r, s], _, hr =>
    obtain ⟨a, b, rfl⟩ := row2 (hr r (by simp))
    obtain ⟨c, d, rfl⟩ := row2 (hr s (by simp))
    exact ⟨a, b, c, d, rfl⟩
theorem sq3 {sq : List (List Int)} (h : Sq 3 sq) : ∃ a b c d e f g h i, sq = [[a, b, c], [d, e, f], [g, h, i]] := by
  match sq, h.len, h.row with
  | [r, s, t], _, hr =>
    obtain ⟨a, b, c, rfl⟩ := row3 (hr r (by simp))
    obtain ⟨d, e, f, rfl⟩ := row3 (hr s (by simp))
    obtain ⟨g, h', i, rfl⟩ := row3 (hr t (by simp))
    exact ⟨a, b, c, d, e, f, g, h', i, rfl⟩
theorem sq4 {sq : List (List Int)} (h : Sq 4 sq) : ∃ a b c d e f g h i j k l m n o p, sq = [[a, b, c, d], [e, f, g, h], [i, j, k, l], [m, n, o, p]] := by
  match sq, h.len, h.row with
  | [r, s, t, u], _, hr =>
    obtain ⟨a, b, c, d, rfl⟩ := row4 (hr r (by simp))
    obtain ⟨e, f, g, h', rfl⟩ := row4 (hr s (by simp))
    obtain ⟨i, j, k, l, rfl⟩ := row4 (hr t (by simp))
    obtain ⟨m, n, o, p, rfl⟩ := row4 (hr u (by simp))
    exact ⟨a, b, c, d, e, f, g, h', i, j, k, l, m, n, o, p, rfl⟩
def adjW (n : Nat) (sq : List (List Int)) : List Int := (List.range n).map fun k => detL n (putCol sq k)
theorem adj_row {n : Nat} {sq : List (List Int)} (h : Sq n sq) (h1 : 1 ≤ n) (h4 : n ≤ 4) : ∀ r ∈ sq, dotI r (adjW n sq) = detL n sq := by
  have : n = 1 ∨ n = 2 ∨ n = 3 ∨ n = 4 := by omega
  rcases this with rfl | rfl | rfl | rfl
  · obtain ⟨a, rfl⟩ := sq1 h
    intro r hr
    simp only [List.mem_cons, List.mem_nil_iff, or_false] at hr
    subst hr
    simp only [adjW, dotI, putCol, List.range_succ, List.range_zero, List.nil_append, List.cons_append, List.map_cons, List.map_nil, List.take_zero, List.take_succ_cons, List.drop_succ_cons, List.drop_zero, det1, List.zip_cons_cons, List.zip_nil_right, List.sum_cons, List.sum_nil]
    grind
  · obtain ⟨a, b, c, d, rfl⟩ := sq2 h
    intro r hr
    simp only [List.mem_cons, List.mem_nil_iff, or_false] at hr
    simp only [adjW, dotI, putCol, List.range_succ, List.range_zero, List.nil_append, List.cons_append, List.map_cons, List.map_nil, List.take_zero, List.take_succ_cons, List.drop_succ_cons, List.drop_zero, det2]
    rcases hr with rfl | rfl <;> simp only [List.zip_cons_cons, List.zip_nil_right, List.map_cons, List.map_nil, List.sum_cons, List.sum_nil] <;> grind
  · obtain ⟨a, b, c, d, e, f, g, h, i, rfl⟩ := sq3 h
    intro r hr
    simp only [List.mem_cons, List.mem_nil_iff, or_false] at hr
    simp only [adjW, dotI, putCol, List.range_succ, List.range_zero, List.nil_append, List.cons_append, List.map_cons, List.map_nil, List.take_zero, List.take_succ_cons, List.drop_succ_cons, List.drop_zero, det3]
    rcases hr with rfl | rfl | rfl <;> simp only [List.zip_cons_cons, List.zip_nil_right, List.map_cons, List.map_nil, List.sum_cons, List.sum_nil] <;> grind
  · obtain ⟨a, b, c, d, e, f, g, h, i, j, k, l, m, n, o, p, rfl⟩ := sq4 h
    intro r hr
    simp only [List.mem_cons, List.mem_nil_iff, or_false] at hr
    simp only [adjW, dotI, putCol, List.range_succ, List.range_zero, List.nil_append, List.cons_append, List.map_cons, List.map_nil, List.take_zero, List.take_succ_cons, List.drop_succ_cons, List.drop_zero, det4]
    rcases hr with rfl | rfl | rfl | rfl <;> simp only [List.zip_cons_cons, List.zip_nil_right, List.map_cons, List.map_nil, List.sum_cons, List.sum_nil] <;> grind
/-! ### sums of products -/
theorem dotI_cons (a b : Int) (r w : List Int) : dotI (a :: r) (b :: w) = a * b + dotI r w := by
  unfold dotI
  rw [List.zip_cons_cons, List.map_cons, List.sum_cons]
theorem dotI_neg : ∀ (r w : List Int), dotI r (w.map fun x => -x) = -(dotI r w)
  | [], w => by simp [dotI]
  | a :: r, [] => by simp [dotI]
  | a :: r, b :: w => by
    rw [List.map_cons, dotI_cons, dotI_cons, dotI_neg r w, Int.mul_neg]
    omega
theorem dotI_zero : ∀ (r w : List Int), (∀ x ∈ w, x = 0) → dotI r w = 0
  | [], w, _ => by simp [dotI]
  | a :: r, [], _ => by simp [dotI]
  | a :: r, b :: w, h => by
    rw [dotI_cons, dotI_zero r w fun x hx => h x (List.mem_cons_of_mem _ hx), h b List.mem_cons_self]
    simp
theorem dotI_set : ∀ (r v : List Int) (j : Nat) (x : Int), r.length = v.length → j < v.length → dotI r (v.set j x) = dotI r v + r.getD j 0 * (x - v.getD j 0)
  | [], [], j, x, _, hj => absurd hj (by simp)
  | [], b :: v, j, x, h, _ => absurd h (by simp)
  | a :: r, [], j, x, h, _ => absurd h (by simp)
  | a :: r, b :: v, 0, x, h, hj => by
    rw [List.set_cons_zero, dotI_cons, dotI_cons]
    simp only [List.getD_cons_zero]
    grind
  | a :: r, b :: v, j + 1, x, h, hj => by
    rw [List.set_cons_succ, dotI_cons, dotI_cons, dotI_set r v j x (by simpa using h) (by simpa using hj)]
    simp only [List.getD_cons_succ]
    omega
theorem putAll_other (j : Nat) : ∀ (l : List (Nat × Int)) (a : List Int), (∀ p ∈ l, p.1 ≠ j) → (putAll a l).getD j 0 = a.getD j 0
  | [], a, _ => rfl
  | p :: l, a, h => by
    show (putAll (a.set p.1 p.2) l).getD j 0 = _
    rw [putAll_other j l _ fun q hq => h q (List.mem_cons_of_mem _ hq), List.getD_eq_getElem?_getD, List.getD_eq_getElem?_getD, List.getElem?_set_ne (h p List.mem_cons_self)]
theorem dot_putAll {r : List Int} {n : Nat} (hr : r.length = n) (l : List (Nat × Int)) : (l.map Prod.fst).Nodup → (∀ p ∈ l, p.1 < n) → dotI r (putAll (List.replicate n 0) l) = (l.map fun p => r.getD p.1 0 * p.2).sum := by
  induction l using snoc_ind with
  | h0 =>
    intro _ _
    exact dotI_zero _ _ fun x hx => List.eq_of_mem_replicate hx
  | h1 l p ih =>
    intro nd hb
    rw [List.map_append] at nd
    have nd1 := (List.nodup_append.mp nd).1
    have nd2 := (List.nodup_append.mp nd).2.2
    have hl : (putAll (List.replicate n 0) l).length = n := (putAll_len _ _).trans List.length_replicate
    have hp := hb p (List.mem_append_right _ List.mem_cons_self)
    have h0 : (putAll (List.replicate n 0) l).getD p.1 0 = 0 := by
      rw [putAll_other p.1 l _ fun q hq z => nd2 q.1 (List.mem_map.mpr ⟨q, hq, rfl⟩) p.1 (by simp) z, List.getD_eq_getElem?_getD, List.getElem?_replicate, if_pos hp]
      rfl
    rw [putAll_snoc, dotI_set _ _ _ _ (by rw [hr, hl]) (by rw [hl]; exact hp), ih nd1 fun q hq => hb q (List.mem_append_left _ hq), h0, List.map_append, List.sum_append]
    simp
theorem dot_spread {r : List Int} {n : Nat} {cs : List Nat} {w : List Int} (hr : r.length = n) (nd : cs.Nodup) (hc : ∀ j ∈ cs, j < n) (hw : w.length = cs.length) : dotI r (spread n cs w) = dotI (cs.map fun j => r.getD j 0) w := by
  have e : (cs.zip w).map Prod.fst = cs := by
    rw [List.map_fst_zip]
    omega
  have := dot_putAll hr (cs.zip w) (by rw [e]; exact nd) fun p hp => hc _ (List.of_mem_zip (a := p.1) (b := p.2) hp).1
  show dotI r (putAll _ _) = _
  rw [this]
  unfold dotI
  rw [List.zip_map_left, List.map_map]
  rfl
/-! ### what a corner is -/
structure CornerOk (t : List (List Int)) (n : Nat) (c : Crn) : Prop where
  len : c.1.length = n
  nn : ∀ x ∈ c.1, 0 ≤ x
  sm : ∀ x ∈ c.1, Sm 60 x
  sum : 0 < c.1.sum
  ex : ∃ d, 0 < d ∧ (∀ r ∈ t, dotI r c.1 ≤ d) ∧ c.2 = tight t c.1 d
theorem weighed_dot {n : Nat} {sq : List (List Int)} {w : List Int} {d : Int} (hs : Sq n sq) (h1 : 1 ≤ n) (h4 : n ≤ 4) (h : weighedL n sq = some (w, d)) : ∀ r ∈ sq, dotI r w = d := by
  have a := adj_row hs h1 h4
  unfold adjW at a
  unfold weighedL at h
  split at h
  · cases h
  · split at h
    · cases h
      intro r hr
      rw [dotI_neg, a r hr]
    · cases h
      exact a
theorem corner_ok {t : List (List Int)} {n : Nat} {rs cs : List Nat} {c : Crn} (rect : Rect t n) (he : Ent 9 t) (hl : rs.length = cs.length) (h1 : 1 ≤ rs.length) (h4 : rs.length ≤ 4) (hr : ∀ i ∈ rs, i < t.length) (hc : ∀ j ∈ cs, j < n) (nd : cs.Nodup) (h : cornerL t n rs cs = some c) : CornerOk t n c := by
  have pent := pick_ent rect (he.mono (show 9 ≤ 10 by decide)) hr hc
  have psq := pick_sq t hl
  unfold cornerL at h
  cases hW : weighedL rs.length (pickL t rs cs) with
  | none => rw [hW] at h; cases h
  | some p =>
    obtain ⟨w, d⟩ := p
    rw [hW] at h
    replace h : (if minL w < 0 then none else if d < maxL (sumsL t (spread n cs w)) then none else some (spread n cs w, tight t (spread n cs w) d)) = some c := h
    obtain ⟨lw, sw, dp, sd⟩ := weighed_ok h4 pent hW
    have wd := weighed_dot psq h1 h4 hW
    have wne : w ≠ [] := fun z => by rw [z] at lw; simp at lw; omega
    split at h
    · cases h
    rename_i hmin
    split at h
    · cases h
    rename_i hmax
    cases h
    have nn : ∀ x ∈ w, 0 ≤ x := fun x hx => by have := (minL_is wne).2 x hx; omega
    have nnV := spread_mem (P := fun x : Int => 0 ≤ x) (n := n) (cs := cs) (w := w) (Int.le_refl 0) nn
    have sne : sumsL t (spread n cs w) ≠ [] := fun z => by have := sums_len t (spread n cs w); rw [z] at this; have := rect.r1; simp at *; omega
    refine ⟨spread_len _ _ _, nnV, spread_mem (Nat.pow_pos (by decide)) sw, ?_, d, dp, fun r hr' => ?_, rfl⟩
    · have sn := sum_nonneg nnV
      show 0 < (spread n cs w).sum
      have sn1 := sn.1
      suffices hz : ¬ (spread n cs w).sum = 0 by omega
      intro z
      have allz : ∀ x ∈ spread n cs w, x = 0 := fun x hx => by
        have := sn.2 x hx
        have := nnV x hx
        omega
      obtain ⟨i, rs', ers⟩ : ∃ i rs', rs = i :: rs' := by
        cases rs with
        | nil => exact absurd h1 (by decide)
        | cons a b => exact ⟨a, b, rfl⟩
      have hi := hr i (by rw [ers]; exact List.mem_cons_self)
      have hrow := (entry_mem rect hi (Nat.lt_of_lt_of_le Nat.zero_lt_one rect.c1)).1
      have e1 := dot_spread (r := t.getD i []) (rect.row _ hrow) nd hc (w := w) (by omega)
      rw [dotI_zero _ _ allz] at e1
      have e2 := wd (cs.map fun j => entry t i j) (by unfold pickL; rw [ers]; exact List.mem_cons_self)
      unfold entry at e2
      omega
    · have := (maxL_is sne).2 (dotI r (spread n cs w)) (List.mem_map.mpr ⟨r, hr', rfl⟩)
      show dotI r (spread n cs w) ≤ d
      omega
theorem mem_stepC {a : List Crn} {o : Option Crn} {c : Crn} : c ∈ stepC a o ↔ c ∈ a ∨ o = some c := by
  cases o with
  | none => exact ⟨fun h => .inl h, fun h => h.elim id fun z => nomatch z⟩
  | some x =>
    show c ∈ (if x ∈ a then a else a ++ [x]) ↔ _
    by_cases h : x ∈ a
    · rw [if_pos h]
      refine ⟨.inl, fun z => z.elim id fun e => ?_⟩
      cases e
      exact h
    · rw [if_neg h, List.mem_append, List.mem_singleton]
      refine ⟨fun z => z.elim .inl fun e => .inr (by rw [e]), fun z => z.elim .inl fun e => .inr ?_⟩
      cases e
      rfl
theorem mem_innerC {t : List (List Int)} {n : Nat} {rs : List Nat} {c : Crn} : ∀ (css : List (List Nat)) (a : List Crn), c ∈ innerC t n rs a css ↔ c ∈ a ∨ ∃ cs ∈ css, candC t n rs cs = some c
  | [], a => ⟨.inl, fun h => h.elim id fun ⟨_, z, _⟩ => nomatch z⟩
  | x :: css, a => by
    show c ∈ innerC t n rs (stepC a (candC t n rs x)) css ↔ _
    rw [mem_innerC css, mem_stepC]
    constructor
    · rintro ((h | h) | ⟨y, hy, e⟩)
      · exact .inl h
      · exact .inr ⟨x, List.mem_cons_self, h⟩
      · exact .inr ⟨y, List.mem_cons_of_mem _ hy, e⟩
    · rintro (h | ⟨y, hy, e⟩)
      · exact .inl (.inl h)
      · rcases List.mem_cons.mp hy with rfl | hy
        · exact .inl (.inr e)
        · exact .inr ⟨y, hy, e⟩
theorem mem_outerC {t : List (List Int)} {n : Nat} {c : Crn} (rss : List (List Nat)) : c ∈ outerC t n rss ↔ ∃ rs ∈ rss, ∃ cs ∈ subsL n, candC t n rs cs = some c := by
  induction rss using snoc_ind with
  | h0 => exact ⟨fun h => (nomatch h), fun ⟨_, z, _⟩ => nomatch z⟩
  | h1 l x ih =>
    have e : outerC t n (l ++ [x]) = innerC t n x (outerC t n l) (subsL n) := by
      unfold outerC
      rw [List.foldl_append]
      rfl
    rw [e, mem_innerC, ih]
    constructor
    · rintro (⟨y, hy, h⟩ | h)
      · exact ⟨y, List.mem_append_left _ hy, h⟩
      · exact ⟨x, List.mem_append_right _ List.mem_cons_self, h⟩
    · rintro ⟨y, hy, h⟩
      rcases List.mem_append.mp hy with hy | hy
      · exact .inl ⟨y, hy, h⟩
      · rcases List.mem_cons.mp hy with rfl | hy
        · exact .inr h
        · cases hy
theorem mem_corners {t : List (List Int)} {n : Nat} {c : Crn} : c ∈ cornersL t n ↔ ∃ rs ∈ subsL t.length, ∃ cs ∈ subsL n, candC t n rs cs = some c := mem_outerC _
theorem corners_ok {t : List (List Int)} {n : Nat} {c : Crn} (rect : Rect t n) (he : Ent 9 t) (h : c ∈ cornersL t n) : CornerOk t n c := by
  obtain ⟨rs, hrs, cs, hcs, e⟩ := mem_corners.mp h
  obtain ⟨rn, rl, rle⟩ := subs_mem hrs
  obtain ⟨cn, cl, cle⟩ := subs_mem hcs
  unfold candC at e
  split at e
  · rename_i hc
    exact corner_ok rect he hc.2 (List.length_pos_iff.mpr hc.1) (by have := rect.r4; omega) rl cl cn e
  · cases e
open PySem L2
def R_shared : List Sl → Out → Prop := fun ss o => ∃ w : List Int, ss = [.im (encR w)] ∧ w.length ≤ 4 ∧ 0 < w.sum ∧ (∀ x ∈ w, Sm 60 x) ∧ (o = .ret (.ow ((sharedL w).map encF)) ∨ o = .ret (.im (encM (sharedL w))))
def t_shared (K : PySem.W.Frag) : TS := (tRet (tLc (iList K (tVar 0)) (gName 1) tYes (tCall (spR K R_made) [] E0 (tCons (tVar 1) (tCons (tCB (rSum K) (tCons (tVar 0) tNil)) tNil))) [1]))
theorem len_shared {ss : List Sl} {o : Out} (h : R_shared ss o) : ss.length = 1 := by
  first | (obtain ⟨_, rfl, _⟩ := h; rfl) | (obtain ⟨_, _, rfl, _⟩ := h; rfl) | (obtain ⟨_, _, _, rfl, _⟩ := h; rfl) | (obtain ⟨_, _, _, _, rfl, _⟩ := h; rfl) | (obtain ⟨_, _, _, _, _, rfl, _⟩ := h; rfl) | (obtain ⟨_, _, _, _, _, _, rfl, _⟩ := h; rfl)
theorem b_shared {K : PySem.W.Frag} {E : XK} (ss : List Sl) (o : Out) (h : R_shared ss o) : St K E (t_shared K) (params ["weights", "weight"] ss) { nx := fun _ => o = .ret (.im .none), rt := fun s => o = .ret s, ex := fun c => o = .exc c } := by
  obtain ⟨w, rfl, h4, hs, hw, ho⟩ := h
  have sm : Sm 8500 w.sum := (sum_sm (c := 2) hw h4).mono (by decide)
  have he : EvS K (tLc (iList K (tVar 0)) (gName 1) tYes (tCall (spR K R_made) [] E0 (tCons (tVar 1) (tCons (tCB (rSum K) (tCons (tVar 0) tNil)) tNil))) [1]) (params ["weights", "weight"] [.im (encR w)]) (.ow ((sharedL w).map encF)) := by
    refine EvS.to (ev_lc1 (xs := w) (enc := .int) (vs := [1]) (ei_list (ev_var rfl)) (fun x => encF (mk x w.sum)) (fun x => [.im (encR w), .im (.int x)]) (fun x _ => tg_name (by decide)) (fun x hx => ?_) (by omega)) (by unfold sharedL; rw [List.map_map]; rfl)
    walk_at "ev"
    exact ⟨_, _, rfl, hs, sm, rfl⟩
  rcases ho with rfl | rfl
  · exact st_ret he rfl
  · exact st_ret he.freeze rfl

theorem findSome_hit {α β : Type} {f : α → Option β} : ∀ {l : List α} {i : Nat} {x : α} {b : β}, (∀ y ∈ l.take i, f y = none) → l[i]? = some x → f x = some b → l.findSome? f = some b
  | [], i, x, b, _, h, _ => by simp at h
  | y :: l, 0, x, b, _, h, hb => by
    simp at h
    subst h
    rw [List.findSome?_cons, hb]
  | y :: l, i + 1, x, b, hn, h, hb => by
    rw [List.findSome?_cons, hn y (by rw [List.take_succ_cons]; exact List.mem_cons_self)]
    exact findSome_hit (fun z hz => hn z (by rw [List.take_succ_cons]; exact List.mem_cons_of_mem _ hz)) (by simpa using h) hb
def hitS (m n : Nat) (c o : Crn) : Option (List Int × List Int) := if rightB o.1 c.2 m && rightB c.1 o.2 n then some (o.1, c.1) else none
theorem settledP_eq (one other : List (List Int)) (n : Nat) : settledP one other n = (cornersL (raisedL one) n).findSome? fun c => (cornersL (raisedL (acrossT other n)) one.length).findSome? fun o => hitS one.length n c o := rfl
def fieldsS (M : List Frc × List Frc) : List (Str × Fl) := [(("mine" : Str), Fl.ow (M.1.map encF)), (("theirs" : Str), Fl.ow (M.2.map encF))]

def R_settled_by (cSettled : Addr) : List Sl → Out → Prop := fun ss o => ∃ (one other : List (List Int)) (n : Nat), ss = [.im (encT one), .im (encT other)] ∧ TabW one n ∧ TabW other n ∧ one.length = other.length ∧ o = .ret (.ob cSettled (fieldsS (settledM one other n)))
def t_settled_by (K : PySem.W.Frag) (cSettled : Addr) : TS := (tSeq (tAsg (tCall (spR K R_corners) [] E0 (tCons (tCall (spR K R_raised) [] E0 (tCons (tVar 0) tNil)) tNil)) (gName 2))
    (tSeq (tAsg (tCall (spR K R_corners) [] E0 (tCons (tCall (spR K R_raised) [] E0 (tCons (tCall (spR K R_across) [] E0 (tCons (tVar 1) tNil)) tNil)) tNil)) (gName 3))
    (tSeq (tFor (iList K (tVar 2)) (gLst K 2 (gCons (gName 4) (gCons (gName 5) gNil))) (tFor (iList K (tVar 3)) (gLst K 2 (gCons (gName 6) (gCons (gName 7) gNil))) (tSeq (tAsg (tCB (rAll K) (tCons (tLc (iRng1 (tCons (tCB (rLenU K) (tCons (tVar 0) tNil)) tNil)) (gName 9) tYes (tOrV (tOp (rEqD K) (tOp (rIx K) (tVar 6) (tVar 9)) (tC (.int 0))) (tOp (rInD K) (tVar 9) (tVar 5))) [9]) tNil)) (gName 8))
    (tIfS (tAnd (tB (tVar 8)) (tB (tCB (rAll K) (tCons (tLc (iRng1 (tCons (tCB (rLenU K) (tCons (tOp (rIx K) (tVar 0) (tC (.int 0))) tNil)) tNil)) (gName 10) tYes (tOrV (tOp (rEqD K) (tOp (rIx K) (tVar 4) (tVar 10)) (tC (.int 0))) (tOp (rInD K) (tVar 10) (tVar 7))) [10]) tNil)))) (tRet (tMake cSettled (spI K cSettled RI_Settled) [] E0 (tCons (tCall (spR K R_shared) [] E0 (tCons (tVar 6) tNil)) (tCons (tCall (spR K R_shared) [] E0 (tCons (tVar 4) tNil)) tNil)))) tNext))))
    (tRet (tMake cSettled (spI K cSettled RI_Settled) [] E0 (tCons (tLst tNil) (tCons (tLst tNil) tNil)))))))
theorem len_settled_by {cSettled : Addr} {ss : List Sl} {o : Out} (h : R_settled_by cSettled ss o) : ss.length = 2 := by
  first | (obtain ⟨_, rfl, _⟩ := h; rfl) | (obtain ⟨_, _, rfl, _⟩ := h; rfl) | (obtain ⟨_, _, _, rfl, _⟩ := h; rfl) | (obtain ⟨_, _, _, _, rfl, _⟩ := h; rfl) | (obtain ⟨_, _, _, _, _, rfl, _⟩ := h; rfl) | (obtain ⟨_, _, _, _, _, _, rfl, _⟩ := h; rfl)
theorem b_settled_by {K : PySem.W.Frag} {E : XK} {cSettled : Addr} (ss : List Sl) (o : Out) (h : R_settled_by cSettled ss o) : St K E (t_settled_by K cSettled) (params ["one", "other", "theirs", "mine", "columns", "rows", "own", "others", "right", "row", "place"] ss) { nx := fun _ => o = .ret (.im .none), rt := fun s => o = .ret s, ex := fun c => o = .exc c } := by
  obtain ⟨one, other, n, rfl, t1, t2, hl, rfl⟩ := h
  obtain ⟨rt, lt, bt⟩ := raised_rect t1
  have et := raised_ent t1
  have tx := across_tabW t2
  obtain ⟨ru, lu, bu⟩ := raised_rect tx
  have eu := raised_ent tx
  have m4 := t1.r4
  have n4 := t1.c4
  obtain ⟨r0, t', eq0, hr0⟩ := t1.head
  have e0 : one[0]? = some r0 := by rw [eq0]; rfl
  have okC := fun c hc => corners_ok (c := c) rt et hc
  rw [← hl] at ru
  have okO := fun c hc => corners_ok (c := c) ru eu hc
  have hS := settledP_eq one other n
  unfold settledM
  refine st_seq (st_asg (s := .im (.list ((cornersL (raisedL one) n).map encC))) (ev_call (ss := [.im (encT (raisedL one))]) (ea_im (ev_call (ss := [.im (encT one)]) (ea_im (ev_var rfl) ea_nil) ⟨_, _, rfl, t1, rfl⟩) ea_nil) ⟨_, _, rfl, rt, et, rfl⟩) ?_)
  refine st_seq (st_asg (s := .im (.list ((cornersL (raisedL (acrossT other n)) one.length).map encC))) (ev_call (ss := [.im (encT (raisedL (acrossT other n)))]) (ea_im (ev_call (ss := [.im (encT (acrossT other n))]) (ea_im (ev_call (ss := [.im (encT other)]) (ea_im (ev_var rfl) ea_nil) ⟨_, _, rfl, t2.toRect, .inr rfl⟩) ea_nil) ⟨_, _, rfl, tx, rfl⟩) ea_nil) ⟨_, _, rfl, ru, eu, rfl⟩) ?_)
  generalize settledP one other n = W at *
  generalize cornersL (raisedL one) n = C at *
  generalize cornersL (raisedL (acrossT other n)) one.length = O at *
  have ru4 := t1.r4
  have right : ∀ (G : Env) (w : List Int) (rs : List Nat) (k a b m : Nat) (wi : TI) (G2 : Nat → Env), w.length = m → m ≤ 4 → EvI K wi G ((List.range m).map fun i : Nat => .int i) → (∀ i, (wipeG G [k]).set k (.im (.int (i : Nat))) = G2 i) → (∀ i, (G2 i)[k]? = some (.im (.int (i : Nat)))) → (∀ i, (G2 i)[a]? = some (.im (encR w))) → (∀ i, (G2 i)[b]? = some (.im (encN rs))) →
      Ev K (tCB (rAll K) (tCons (tLc wi (gName k) tYes (tOrV (tOp (rEqD K) (tOp (rIx K) (tVar a) (tVar k)) (tC (.int 0))) (tOp (rInD K) (tVar k) (tVar b))) [k]) tNil)) G (.bool (rightB w rs m)) := fun G w rs k a b m wi G2 hw hm hi hg hk ha hb => by
    refine Ev.to (d := .bool (((List.range m).map fun i => decide (w.getD i 0 = 0) || rs.contains i).all id)) (ev_all (EvS.h (EvS.freeze (EvS.to (ev_lc1 (xs := List.range m) (enc := fun i : Nat => .int i) (vs := [k]) hi (fun i => .bool (decide (w.getD i 0 = 0) || rs.contains i)) G2 (fun i _ => by rw [← hg]; exact tg_name List.mem_cons_self) (fun i hi' => ?_) (by rw [List.length_range]; omega)) (by rw [List.map_map]; rfl))))) (by rw [List.all_map]; rfl)
    have hi' := List.mem_range.mp hi'
    rw [← any_nats, ← eqv_int]
    exact ev_orN (EvS.h (ev_eqD (EvS.h (ev_ix (a := encR w) (ev_var (ha i)) (EvS.h (ev_var (hk i))) (item_R (getD_of (by omega))))) (EvS.h (ev_c (.int 0))) (shaped_of lay_int (by decide)) (shaped_of lay_int (by decide)))) (EvS.h (ev_inD (EvS.h (ev_var (hk i))) (EvS.h (ev_var (hb i))) (shaped_of lay_int (by decide)) (shaped_of lay_N (by decide))))
  refine st_seq (st_for (vs := [4, 5]) (xs := C) (enc := encC) (ei_list (ev_var rfl)) (fun i G' => Le [.im (encT one), .im (encT other), .im (.list (C.map encC)), .im (.list (O.map encC)), .no, .no, .no, .no, .no, .no, .no] G' ∧ ∀ c ∈ C.take i, (O.findSome? fun o => hitS one.length n c o) = none) ⟨by walk_at "le", fun c hc => by rw [List.take_zero] at hc; cases hc⟩ (fun i c G' hi hI => ?_) (fun G' hI => ?_))
  · refine ⟨_, tg_lst (tgs_cons (tg_name (by decide)) (tgs_cons (tg_name (by decide)) tgs_nil)) rfl, st_le ((hI.1.set 4 (.im (encR c.1))).set 5 (.im (encN c.2))) ?_⟩
    have cok := okC c (List.mem_of_getElem? hi)
    show St K E _ [.im (encT one), .im (encT other), .im (.list (C.map encC)), .im (.list (O.map encC)), .im (encR c.1), .im (encN c.2), .no, .no, .no, .no, .no] _
    refine st_for (vs := [6, 7]) (xs := O) (enc := encC) (ei_list (ev_var rfl)) (fun j G' => Le [.im (encT one), .im (encT other), .im (.list (C.map encC)), .im (.list (O.map encC)), .im (encR c.1), .im (encN c.2), .no, .no, .no, .no, .no] G' ∧ ∀ o ∈ O.take j, hitS one.length n c o = none) ⟨by walk_at "le", fun o ho => by rw [List.take_zero] at ho; cases ho⟩ (fun j o G2 hj hJ => ?_) (fun G2 hJ => ?_)
    · refine ⟨_, tg_lst (tgs_cons (tg_name (by decide)) (tgs_cons (tg_name (by decide)) tgs_nil)) rfl, st_le ((hJ.1.set 6 (.im (encR o.1))).set 7 (.im (encN o.2))) ?_⟩
      have ook := okO o (List.mem_of_getElem? hj)
      show St K E _ [.im (encT one), .im (encT other), .im (.list (C.map encC)), .im (.list (O.map encC)), .im (encR c.1), .im (encN c.2), .im (encR o.1), .im (encN o.2), .no, .no, .no] _
      refine st_seq (st_asg (s := .im (.bool (rightB o.1 c.2 one.length))) (right _ o.1 c.2 9 6 5 one.length _ (fun i => [.im (encT one), .im (encT other), .im (.list (C.map encC)), .im (.list (O.map encC)), .im (encR c.1), .im (encN c.2), .im (encR o.1), .im (encN o.2), .no, .im (.int (i : Nat)), .no]) ook.len m4 (ei_range (EvS.h (ev_lenD (EvS.h (ev_var rfl)) len_T)) (by omega)) (fun _ => rfl) (fun _ => rfl) (fun _ => rfl) (fun _ => rfl)) ?_)
      have tst := eb_andN (eb_B (EvS.h (ev_var (K := K) (i := 8) (G := [.im (encT one), .im (encT other), .im (.list (C.map encC)), .im (.list (O.map encC)), .im (encR c.1), .im (encN c.2), .im (encR o.1), .im (encN o.2), .im (.bool (rightB o.1 c.2 one.length)), .no, .no]) rfl))) (eb_B (EvS.h (right [.im (encT one), .im (encT other), .im (.list (C.map encC)), .im (.list (O.map encC)), .im (encR c.1), .im (encN c.2), .im (encR o.1), .im (encN o.2), .im (.bool (rightB o.1 c.2 one.length)), .no, .no] c.1 o.2 10 4 7 n (iRng1 (tCons (tCB (rLenU K) (tCons (tOp (rIx K) (tVar 0) (tC (.int 0))) tNil)) tNil)) (fun i => [.im (encT one), .im (encT other), .im (.list (C.map encC)), .im (.list (O.map encC)), .im (encR c.1), .im (encN c.2), .im (encR o.1), .im (encN o.2), .im (.bool (rightB o.1 c.2 one.length)), .no, .im (.int (i : Nat))]) cok.len n4 (ei_range (by rw [← hr0]; exact EvS.h (ev_lenD (EvS.h (ev_ix (a := encT one) (i := ((0 : Nat) : Int)) (ev_var rfl) (EvS.h (ev_c (.int 0))) (item_T e0))) len_R)) (by omega)) (fun _ => rfl) (fun _ => rfl) (fun _ => rfl) (fun _ => rfl))))
      cases hB : (rightB o.1 c.2 one.length && rightB c.1 o.2 n) with
      | true =>
        have hit : hitS one.length n c o = some (o.1, c.1) := if_pos hB
        have hW : W = some (o.1, c.1) := by
          rw [hS]
          exact findSome_hit hI.2 hi (findSome_hit hJ.2 hj hit)
        rw [hB] at tst
        refine st_if tst (fun _ => st_ret (s := .ob cSettled (fieldsS (sharedL o.1, sharedL c.1))) (ev_make (ds := [encM (sharedL o.1), encM (sharedL c.1)]) ?_ ⟨_, _, rfl, rfl⟩) ?_) (fun z => nomatch z)
        · exact ea_im (ev_call (ss := [.im (encR o.1)]) (ea_im (ev_var rfl) ea_nil) ⟨_, rfl, by rw [ook.len]; exact m4, ook.sum, ook.sm, .inr rfl⟩) (ea_im (ev_call (ss := [.im (encR c.1)]) (ea_im (ev_var rfl) ea_nil) ⟨_, rfl, by rw [cok.len]; exact n4, cok.sum, cok.sm, .inr rfl⟩) ea_nil)
        · rw [hW]
      | false =>
        have hit : hitS one.length n c o = none := if_neg (by rw [hB]; decide)
        rw [hB] at tst
        refine st_if tst (fun z => nomatch z) (fun _ => st_next ⟨by walk_at "le", fun x hx => ?_⟩)
        rw [take_snoc hj] at hx
        rcases List.mem_append.mp hx with hx | hx
        · exact hJ.2 x hx
        · rcases List.mem_cons.mp hx with rfl | hx
          · exact hit
          · cases hx
    · rw [List.take_length] at hJ
      refine ⟨Le.trans (by walk_at "le") hJ.1, fun x hx => ?_⟩
      rw [take_snoc hi] at hx
      rcases List.mem_append.mp hx with hx | hx
      · exact hI.2 x hx
      · rcases List.mem_cons.mp hx with rfl | hx
        · exact List.findSome?_eq_none_iff.mpr hJ.2
        · cases hx
  · rw [List.take_length] at hI
    have hW : W = none := by
      rw [hS]
      exact List.findSome?_eq_none_iff.mpr hI.2
    refine st_le hI.1 (st_ret (s := .ob cSettled (fieldsS ([], []))) (ev_make (ds := [.list [], .list []]) ?_ ⟨_, _, rfl, rfl⟩) (by rw [hW]))
    exact ea_im (EvS.freeze (ev_lst (ds := []) ea_nil (Nat.le_of_ble_eq_true rfl))) (ea_im (EvS.freeze (ev_lst (ds := []) ea_nil (Nat.le_of_ble_eq_true rfl))) ea_nil)
def colV (P : Nat → Nat → Int) (j : Nat) : V4 := ⟨(P 0 j : Rat), (P 1 j : Rat), (P 2 j : Rat), (P 3 j : Rat)⟩
def matV (P : Nat → Nat → Int) : List V4 := [colV P 0, colV P 1, colV P 2, colV P 3]
def pickP (P : Nat → Nat → Int) (rs cs : List Nat) : List (List Int) := rs.map fun i => cs.map fun j => P i j
theorem four_eq {a b c d p q r s : V4} (h : [a, b, c, d] = [p, q, r, s]) : p = a ∧ q = b ∧ r = c ∧ s = d := by
  simp only [List.cons.injEq, and_true] at h
  exact ⟨h.1.symm, h.2.1.symm, h.2.2.1.symm, h.2.2.2.symm⟩
theorem castne {x : Int} {y : Rat} (h : y ≠ 0) (e : (x : Rat) = 0 → y = 0) : x ≠ 0 := fun z => h (e (by rw [z]; rfl))
theorem link1 (P : Nat → Nat → Int) : ∀ b0 b1 b2 b3 b4 b5 b6 b7 : Bool, ∀ p q r s, selL (matV P ++ units) [b0, b1, b2, b3, b4, b5, b6, b7] = [p, q, r, s] → D4 p q r s ≠ 0 →
    (selL [0, 1, 2, 3] [!b4, !b5, !b6, !b7]).length = (selL [0, 1, 2, 3] [b0, b1, b2, b3]).length ∧ detL (selL [0, 1, 2, 3] [!b4, !b5, !b6, !b7]).length (pickP P (selL [0, 1, 2, 3] [!b4, !b5, !b6, !b7]) (selL [0, 1, 2, 3] [b0, b1, b2, b3])) ≠ 0 := by
  intro b0 b1 b2 b3 b4 b5 b6 b7
  cases b0 <;> cases b1 <;> cases b2 <;> cases b3 <;> cases b4 <;> cases b5 <;> cases b6 <;> cases b7 <;> intro p q r s h hD <;> simp only [matV, units, selL, List.cons_append, List.nil_append, Bool.not_true, Bool.not_false] at h ⊢ <;> first
    | (exfalso; have h' := congrArg List.length h; simp only [List.length_cons, List.length_nil] at h'; omega)
    | (obtain ⟨rfl, rfl, rfl, rfl⟩ := four_eq h
       refine ⟨(by first | rfl | trivial), castne hD fun z => ?_⟩
       simp only [pickP, List.map_cons, List.map_nil, List.length_cons, List.length_nil, Nat.zero_add, Nat.reduceAdd, det1, det2, det3, det4, detL, Rat.intCast_add, Rat.intCast_sub, Rat.intCast_mul] at z
       simp only [D4, colV, uV]
       try simp
       grind)
theorem link2 (P : Nat → Nat → Int) : ∀ b0 b1 b2 b3 b4 b5 b6 b7 : Bool, ∀ p q r s, selL (units ++ matV P) [b4, b5, b6, b7, b0, b1, b2, b3] = [p, q, r, s] → D4 p q r s ≠ 0 →
    (selL [0, 1, 2, 3] [!b4, !b5, !b6, !b7]).length = (selL [0, 1, 2, 3] [b0, b1, b2, b3]).length ∧ detL (selL [0, 1, 2, 3] [!b4, !b5, !b6, !b7]).length (pickP P (selL [0, 1, 2, 3] [!b4, !b5, !b6, !b7]) (selL [0, 1, 2, 3] [b0, b1, b2, b3])) ≠ 0 := by
  intro b0 b1 b2 b3 b4 b5 b6 b7
  cases b0 <;> cases b1 <;> cases b2 <;> cases b3 <;> cases b4 <;> cases b5 <;> cases b6 <;> cases b7 <;> intro p q r s h hD <;> simp only [matV, units, selL, List.cons_append, List.nil_append, Bool.not_true, Bool.not_false] at h ⊢ <;> first
    | (exfalso; have h' := congrArg List.length h; simp only [List.length_cons, List.length_nil] at h'; omega)
    | (obtain ⟨rfl, rfl, rfl, rfl⟩ := four_eq h
       refine ⟨(by first | rfl | trivial), castne hD fun z => ?_⟩
       simp only [pickP, List.map_cons, List.map_nil, List.length_cons, List.length_nil, Nat.zero_add, Nat.reduceAdd, det1, det2, det3, det4, detL, Rat.intCast_add, Rat.intCast_sub, Rat.intCast_mul] at z
       simp only [D4, colV, uV]
       try simp
       grind)
/-! ### a solution, spread over all columns -/
def lcS (f : V4 → Rat) : List V4 → List Rat → Rat
  | c :: cs, x :: xs => x * f c + lcS f cs xs
  | _, _ => 0
def sprS : List Bool → List Rat → List Rat
  | true :: l, x :: xs => x :: sprS l xs
  | true :: l, [] => 0 :: sprS l []
  | false :: l, xs => 0 :: sprS l xs
  | [], _ => []
theorem lc_spr (f : V4 → Rat) : ∀ (cs : List V4) (l : List Bool) (xs : List Rat), l.length = cs.length → xs.length = (selL cs l).length → lcS f cs (sprS l xs) = lcS f (selL cs l) xs
  | [], [], xs, _, h => by
    have : xs = [] := List.eq_nil_of_length_eq_zero h
    subst this
    rfl
  | c :: cs, [], xs, h, _ => by cases h
  | [], b :: l, xs, h, _ => by cases h
  | c :: cs, true :: l, [], _, h => by cases h
  | c :: cs, true :: l, x :: xs, h, h2 => by
    show x * f c + lcS f cs (sprS l xs) = x * f c + lcS f (selL cs l) xs
    rw [lc_spr f cs l xs (by simpa using h) (by simpa [selL] using h2)]
  | c :: cs, false :: l, xs, h, h2 => by
    show 0 * f c + lcS f cs (sprS l xs) = lcS f (selL cs l) xs
    rw [lc_spr f cs l xs (by simpa using h) (by simpa [selL] using h2)]
    grind
theorem spr_nn : ∀ (l : List Bool) (xs : List Rat), (∀ x ∈ xs, 0 ≤ x) → ∀ z ∈ sprS l xs, 0 ≤ z
  | [], xs, _, z, hz => by unfold sprS at hz; cases hz
  | true :: l, x :: xs, h, z, hz => by
    rcases List.mem_cons.mp hz with rfl | hz
    · exact h _ List.mem_cons_self
    · exact spr_nn l xs (fun y hy => h y (List.mem_cons_of_mem _ hy)) z hz
  | true :: l, [], h, z, hz => by
    rcases List.mem_cons.mp hz with rfl | hz
    · exact Rat.le_refl
    · exact spr_nn l [] h z hz
  | false :: l, xs, h, z, hz => by
    rcases List.mem_cons.mp hz with rfl | hz
    · exact Rat.le_refl
    · exact spr_nn l xs h z hz
theorem spr_len : ∀ (l : List Bool) (xs : List Rat), (sprS l xs).length = l.length
  | [], xs => rfl
  | true :: l, x :: xs => congrArg Nat.succ (spr_len l xs)
  | true :: l, [] => congrArg Nat.succ (spr_len l [])
  | false :: l, xs => congrArg Nat.succ (spr_len l xs)
theorem spr_zero : ∀ (l : List Bool) (xs : List Rat) (k : Nat), l.getD k false = false → (sprS l xs).getD k 0 = 0
  | [], xs, k, _ => by unfold sprS; simp
  | true :: l, x :: xs, 0, h => by cases h
  | true :: l, [], 0, h => by cases h
  | false :: l, xs, 0, _ => rfl
  | true :: l, x :: xs, k + 1, h => spr_zero l xs k h
  | true :: l, [], k + 1, h => spr_zero l [] k h
  | false :: l, xs, k + 1, h => spr_zero l xs k h
theorem eight {α : Type} {l : List α} (h : l.length = 8) : ∃ a b c d e f g i, l = [a, b, c, d, e, f, g, i] := match l, h with | [a, b, c, d, e, f, g, i], _ => ⟨a, b, c, d, e, f, g, i, rfl⟩
theorem sol_all {cs : List V4} {l : List Bool} {p q r s g : V4} (hl : l.length = cs.length) (hs : selL cs l = [p, q, r, s]) (hD : D4 p q r s ≠ 0) (nn : 0 ≤ D4 g q r s / D4 p q r s ∧ 0 ≤ D4 p g r s / D4 p q r s ∧ 0 ≤ D4 p q g s / D4 p q r s ∧ 0 ≤ D4 p q r g / D4 p q r s) :
    ∃ z : List Rat, z.length = l.length ∧ (∀ x ∈ z, 0 ≤ x) ∧ (∀ k, l.getD k false = false → z.getD k 0 = 0) ∧ lcS V4.a cs z = g.a ∧ lcS V4.b cs z = g.b ∧ lcS V4.c cs z = g.c ∧ lcS V4.d cs z = g.d := by
  obtain ⟨n1, n2, n3, n4⟩ := nn
  have hx : ([D4 g q r s / D4 p q r s, D4 p g r s / D4 p q r s, D4 p q g s / D4 p q r s, D4 p q r g / D4 p q r s] : List Rat).length = (selL cs l).length := by rw [hs]; rfl
  have e : ∀ f, lcS f cs (sprS l [D4 g q r s / D4 p q r s, D4 p g r s / D4 p q r s, D4 p q g s / D4 p q r s, D4 p q r g / D4 p q r s]) = D4 g q r s / D4 p q r s * f p + (D4 p g r s / D4 p q r s * f q + (D4 p q g s / D4 p q r s * f r + (D4 p q r g / D4 p q r s * f s + 0))) := fun f => by
    rw [lc_spr f cs l _ hl hx, hs]
    rfl
  refine ⟨_, spr_len l _, spr_nn l _ ?_, fun k hk => spr_zero l _ k hk, (e _).trans ?_, (e _).trans ?_, (e _).trans ?_, (e _).trans ?_⟩
  · intro x hx
    simp only [List.mem_cons, List.mem_nil_iff, or_false] at hx
    rcases hx with rfl | rfl | rfl | rfl <;> assumption
  · have := div_sum hD (cr_a p q r s g); grind
  · have := div_sum hD (cr_b p q r s g); grind
  · have := div_sum hD (cr_c p q r s g); grind
  · have := div_sum hD (cr_d p q r s g); grind
/-- .. of the columns of a table and the units: what is weighed, what is left -/
structure SolP (P : Nat → Nat → Int) (b0 b1 b2 b3 b4 b5 b6 b7 : Bool) (g : V4) (z r : Nat → Rat) : Prop where
  nz : ∀ j, 0 ≤ z j
  nr : ∀ i, 0 ≤ r i
  z0 : b0 = false → z 0 = 0
  z1 : b1 = false → z 1 = 0
  z2 : b2 = false → z 2 = 0
  z3 : b3 = false → z 3 = 0
  r0 : b4 = false → r 0 = 0
  r1 : b5 = false → r 1 = 0
  r2 : b6 = false → r 2 = 0
  r3 : b7 = false → r 3 = 0
  e0 : z 0 * P 0 0 + z 1 * P 0 1 + z 2 * P 0 2 + z 3 * P 0 3 + r 0 = g.a
  e1 : z 0 * P 1 0 + z 1 * P 1 1 + z 2 * P 1 2 + z 3 * P 1 3 + r 1 = g.b
  e2 : z 0 * P 2 0 + z 1 * P 2 1 + z 2 * P 2 2 + z 3 * P 2 3 + r 2 = g.c
  e3 : z 0 * P 3 0 + z 1 * P 3 1 + z 2 * P 3 2 + z 3 * P 3 3 + r 3 = g.d
theorem getD_nn {z : List Rat} (h : ∀ x ∈ z, 0 ≤ x) (k : Nat) : 0 ≤ z.getD k 0 := by
  rw [List.getD_eq_getElem?_getD]
  cases e : z[k]? with
  | none => exact Rat.le_refl
  | some x => exact h x (List.mem_of_getElem? e)
theorem sol_1 {P : Nat → Nat → Int} {b0 b1 b2 b3 b4 b5 b6 b7 : Bool} {p q r s g : V4} (hs : selL (matV P ++ units) [b0, b1, b2, b3, b4, b5, b6, b7] = [p, q, r, s]) (hD : D4 p q r s ≠ 0) (nn : 0 ≤ D4 g q r s / D4 p q r s ∧ 0 ≤ D4 p g r s / D4 p q r s ∧ 0 ≤ D4 p q g s / D4 p q r s ∧ 0 ≤ D4 p q r g / D4 p q r s) :
    ∃ z r, SolP P b0 b1 b2 b3 b4 b5 b6 b7 g z r := by
  obtain ⟨z, hl, nz, zz, ea, eb, ec, ed⟩ := sol_all (by rfl) hs hD nn
  obtain ⟨z0, z1, z2, z3, z4, z5, z6, z7, rfl⟩ := eight hl
  simp only [lcS, matV, units, colV, uV, List.cons_append, List.nil_append] at ea eb ec ed
  simp at ea eb ec ed
  refine ⟨fun j => ([z0, z1, z2, z3] : List Rat).getD j 0, fun j => ([z4, z5, z6, z7] : List Rat).getD j 0, fun j => getD_nn (fun x hx => nz x (by simp only [List.mem_cons, List.mem_nil_iff, or_false] at hx ⊢; grind)) j, fun j => getD_nn (fun x hx => nz x (by simp only [List.mem_cons, List.mem_nil_iff, or_false] at hx ⊢; grind)) j, zz 0, zz 1, zz 2, zz 3, zz 4, zz 5, zz 6, zz 7, ?_, ?_, ?_, ?_⟩
  · show z0 * _ + z1 * _ + z2 * _ + z3 * _ + z4 = _
    grind
  · show z0 * _ + z1 * _ + z2 * _ + z3 * _ + z5 = _
    grind
  · show z0 * _ + z1 * _ + z2 * _ + z3 * _ + z6 = _
    grind
  · show z0 * _ + z1 * _ + z2 * _ + z3 * _ + z7 = _
    grind
theorem sol_2 {P : Nat → Nat → Int} {b0 b1 b2 b3 b4 b5 b6 b7 : Bool} {p q r s g : V4} (hs : selL (units ++ matV P) [b4, b5, b6, b7, b0, b1, b2, b3] = [p, q, r, s]) (hD : D4 p q r s ≠ 0) (nn : 0 ≤ D4 g q r s / D4 p q r s ∧ 0 ≤ D4 p g r s / D4 p q r s ∧ 0 ≤ D4 p q g s / D4 p q r s ∧ 0 ≤ D4 p q r g / D4 p q r s) :
    ∃ z r, SolP P b0 b1 b2 b3 b4 b5 b6 b7 g z r := by
  obtain ⟨z, hl, nz, zz, ea, eb, ec, ed⟩ := sol_all (by rfl) hs hD nn
  obtain ⟨z4, z5, z6, z7, z0, z1, z2, z3, rfl⟩ := eight hl
  simp only [lcS, matV, units, colV, uV, List.cons_append, List.nil_append] at ea eb ec ed
  simp at ea eb ec ed
  refine ⟨fun j => ([z0, z1, z2, z3] : List Rat).getD j 0, fun j => ([z4, z5, z6, z7] : List Rat).getD j 0, fun j => getD_nn (fun x hx => nz x (by simp only [List.mem_cons, List.mem_nil_iff, or_false] at hx ⊢; grind)) j, fun j => getD_nn (fun x hx => nz x (by simp only [List.mem_cons, List.mem_nil_iff, or_false] at hx ⊢; grind)) j, zz 4, zz 5, zz 6, zz 7, zz 0, zz 1, zz 2, zz 3, ?_, ?_, ?_, ?_⟩
  · show z0 * _ + z1 * _ + z2 * _ + z3 * _ + z4 = _
    grind
  · show z0 * _ + z1 * _ + z2 * _ + z3 * _ + z5 = _
    grind
  · show z0 * _ + z1 * _ + z2 * _ + z3 * _ + z6 = _
    grind
  · show z0 * _ + z1 * _ + z2 * _ + z3 * _ + z7 = _
    grind
/-! ### Cramer, the other way -/
def dotR (r : List Int) (y : List Rat) : Rat := ((r.zip y).map fun p => (p.1 : Rat) * p.2).sum
theorem dotR_cons (a : Int) (b : Rat) (r : List Int) (y : List Rat) : dotR (a :: r) (b :: y) = (a : Rat) * b + dotR r y := by
  unfold dotR
  rw [List.zip_cons_cons, List.map_cons, List.sum_cons]
theorem dotR_nil (y : List Rat) : dotR [] y = 0 := by unfold dotR; rfl
theorem one_of {α : Type} {y : List α} (h : y.length = 1) : ∃ a, y = [a] := match y, h with | [a], _ => ⟨a, rfl⟩
theorem two_of {α : Type} {y : List α} (h : y.length = 2) : ∃ a b, y = [a, b] := match y, h with | [a, b], _ => ⟨a, b, rfl⟩
theorem three_of {α : Type} {y : List α} (h : y.length = 3) : ∃ a b c, y = [a, b, c] := match y, h with | [a, b, c], _ => ⟨a, b, c, rfl⟩
theorem four_of {α : Type} {y : List α} (h : y.length = 4) : ∃ a b c d, y = [a, b, c, d] := match y, h with | [a, b, c, d], _ => ⟨a, b, c, d, rfl⟩
theorem cram {n : Nat} {sq : List (List Int)} (h : Sq n sq) (h1 : 1 ≤ n) (h4 : n ≤ 4) {y : List Rat} (hy : y.length = n) (hd : ∀ r ∈ sq, dotR r y = 1) : (adjW n sq).map (fun x : Int => (x : Rat)) = y.map fun x => (detL n sq : Rat) * x := by
  have : n = 1 ∨ n = 2 ∨ n = 3 ∨ n = 4 := by omega
  rcases this with rfl | rfl | rfl | rfl
  · obtain ⟨a, rfl⟩ := sq1 h
    obtain ⟨y0, rfl⟩ := one_of hy
    have e0 := hd [a] (by simp)
    rw [dotR_cons, dotR_nil] at e0
    simp only [adjW, putCol, List.range_succ, List.range_zero, List.nil_append, List.cons_append, List.map_cons, List.map_nil, List.take_zero, List.take_succ_cons, List.drop_succ_cons, List.drop_zero, det1, List.cons.injEq, and_true]
    grind
  · obtain ⟨a, b, c, d, rfl⟩ := sq2 h
    obtain ⟨y0, y1, rfl⟩ := two_of hy
    have e0 := hd [a, b] (by simp)
    have e1 := hd [c, d] (by simp)
    simp only [dotR_cons, dotR_nil] at e0 e1
    simp only [adjW, putCol, List.range_succ, List.range_zero, List.nil_append, List.cons_append, List.map_cons, List.map_nil, List.take_zero, List.take_succ_cons, List.drop_succ_cons, List.drop_zero, det2, List.cons.injEq, and_true, Rat.intCast_add, Rat.intCast_sub, Rat.intCast_mul]
    refine ⟨?_, ?_⟩ <;> grind
  · obtain ⟨a, b, c, d, e, f, g, h', i, rfl⟩ := sq3 h
    obtain ⟨y0, y1, y2, rfl⟩ := three_of hy
    have e0 := hd [a, b, c] (by simp)
    have e1 := hd [d, e, f] (by simp)
    have e2 := hd [g, h', i] (by simp)
    simp only [dotR_cons, dotR_nil] at e0 e1 e2
    have u1 := un1 ⟨a, d, g, 0⟩ ⟨b, e, h', 0⟩ ⟨c, f, i, 0⟩ ⟨0, 0, 0, 1⟩ y0 y1 y2 0
    have u2 := un2 ⟨a, d, g, 0⟩ ⟨b, e, h', 0⟩ ⟨c, f, i, 0⟩ ⟨0, 0, 0, 1⟩ y0 y1 y2 0
    have u3 := un3 ⟨a, d, g, 0⟩ ⟨b, e, h', 0⟩ ⟨c, f, i, 0⟩ ⟨0, 0, 0, 1⟩ y0 y1 y2 0
    have hl : lin ⟨a, d, g, 0⟩ ⟨b, e, h', 0⟩ ⟨c, f, i, 0⟩ ⟨0, 0, 0, 1⟩ y0 y1 y2 0 = ⟨1, 1, 1, 0⟩ := by
      unfold lin
      simp only [V4.mk.injEq]
      refine ⟨?_, ?_, ?_, ?_⟩ <;> grind
    rw [hl] at u1 u2 u3
    unfold D4 at u1 u2 u3
    simp only [adjW, putCol, List.range_succ, List.range_zero, List.nil_append, List.cons_append, List.map_cons, List.map_nil, List.take_zero, List.take_succ_cons, List.drop_succ_cons, List.drop_zero, det3, List.cons.injEq, and_true, Rat.intCast_add, Rat.intCast_sub, Rat.intCast_mul]
    clear e0 e1 e2 hl
    refine ⟨?_, ?_, ?_⟩ <;> grind
  · obtain ⟨a, b, c, d, e, f, g, h', i, j, k, l, m, n, o, p, rfl⟩ := sq4 h
    obtain ⟨y0, y1, y2, y3, rfl⟩ := four_of hy
    have e0 := hd [a, b, c, d] (by simp)
    have e1 := hd [e, f, g, h'] (by simp)
    have e2 := hd [i, j, k, l] (by simp)
    have e3 := hd [m, n, o, p] (by simp)
    simp only [dotR_cons, dotR_nil] at e0 e1 e2 e3
    have u1 := un1 ⟨a, e, i, m⟩ ⟨b, f, j, n⟩ ⟨c, g, k, o⟩ ⟨d, h', l, p⟩ y0 y1 y2 y3
    have u2 := un2 ⟨a, e, i, m⟩ ⟨b, f, j, n⟩ ⟨c, g, k, o⟩ ⟨d, h', l, p⟩ y0 y1 y2 y3
    have u3 := un3 ⟨a, e, i, m⟩ ⟨b, f, j, n⟩ ⟨c, g, k, o⟩ ⟨d, h', l, p⟩ y0 y1 y2 y3
    have u4 := un4 ⟨a, e, i, m⟩ ⟨b, f, j, n⟩ ⟨c, g, k, o⟩ ⟨d, h', l, p⟩ y0 y1 y2 y3
    have hl : lin ⟨a, e, i, m⟩ ⟨b, f, j, n⟩ ⟨c, g, k, o⟩ ⟨d, h', l, p⟩ y0 y1 y2 y3 = ⟨1, 1, 1, 1⟩ := by
      unfold lin
      simp only [V4.mk.injEq]
      refine ⟨?_, ?_, ?_, ?_⟩ <;> grind
    rw [hl] at u1 u2 u3 u4
    unfold D4 at u1 u2 u3 u4
    simp only [adjW, putCol, List.range_succ, List.range_zero, List.nil_append, List.cons_append, List.map_cons, List.map_nil, List.take_zero, List.take_succ_cons, List.drop_succ_cons, List.drop_zero, det4, List.cons.injEq, and_true, Rat.intCast_add, Rat.intCast_sub, Rat.intCast_mul]
    clear e0 e1 e2 e3 hl
    refine ⟨?_, ?_, ?_, ?_⟩ <;> grind
def padP (t : List (List Int)) (n : Nat) : Nat → Nat → Int := fun i j => if i < t.length then (if j < n then entry t i j else 1) else 0
theorem sum_cs {b0 b1 b2 b3 : Bool} {z : Nat → Rat} (f : Nat → Rat) (z0 : b0 = false → z 0 = 0) (z1 : b1 = false → z 1 = 0) (z2 : b2 = false → z 2 = 0) (z3 : b3 = false → z 3 = 0) :
    ((selL [0, 1, 2, 3] [b0, b1, b2, b3]).map fun j => f j * z j).sum = z 0 * f 0 + z 1 * f 1 + z 2 * f 2 + z 3 * f 3 := by
  cases b0 <;> cases b1 <;> cases b2 <;> cases b3 <;> simp only [selL, List.map_cons, List.map_nil, List.sum_cons, List.sum_nil] <;> grind
theorem dotR_map (cs : List Nat) (f : Nat → Int) (z : Nat → Rat) : dotR (cs.map f) (cs.map z) = (cs.map fun j => (f j : Rat) * z j).sum := by
  induction cs with
  | nil => rfl
  | cons c cs ih => rw [List.map_cons, List.map_cons, dotR_cons, ih, List.map_cons, List.sum_cons]
theorem dotI_cast (cs : List Nat) (f : Nat → Int) (z : Nat → Rat) (d : Int) : ∀ w : List Int, w.map (fun x : Int => (x : Rat)) = (cs.map z).map (fun x => (d : Rat) * x) → ((dotI (cs.map f) w : Int) : Rat) = (d : Rat) * (cs.map fun j => (f j : Rat) * z j).sum := by
  induction cs with
  | nil =>
    intro w _
    show (((0 : Int)) : Rat) = (d : Rat) * 0
    grind
  | cons c cs ih =>
    intro w h
    cases w with
    | nil => cases h
    | cons x w =>
      rw [List.map_cons, List.map_cons, List.map_cons] at h
      obtain ⟨h1, h2⟩ := List.cons.inj h
      rw [List.map_cons, dotI_cons, List.map_cons, List.sum_cons, Rat.intCast_add, Rat.intCast_mul, ih w h2, h1]
      grind
theorem sel_true {b0 b1 b2 b3 : Bool} {k : Nat} (h : k ∈ selL [0, 1, 2, 3] [b0, b1, b2, b3]) : k < 4 ∧ ([b0, b1, b2, b3] : List Bool).getD k false = true := by
  revert h
  cases b0 <;> cases b1 <;> cases b2 <;> cases b3 <;> simp only [selL, List.mem_cons, List.mem_nil_iff, or_false] <;> intro h <;> first | exact h.elim | (rcases h with rfl | rfl | rfl | rfl <;> decide) | (rcases h with rfl | rfl | rfl <;> decide) | (rcases h with rfl | rfl <;> decide) | (subst h; decide)
theorem true_sel {b0 b1 b2 b3 : Bool} {k : Nat} (h4 : k < 4) (h : ([b0, b1, b2, b3] : List Bool).getD k false = true) : k ∈ selL [0, 1, 2, 3] [b0, b1, b2, b3] := by
  have : k = 0 ∨ k = 1 ∨ k = 2 ∨ k = 3 := by omega
  revert h
  rcases this with rfl | rfl | rfl | rfl <;> cases b0 <;> cases b1 <;> cases b2 <;> cases b3 <;> decide
theorem sel_nodup (b0 b1 b2 b3 : Bool) : (selL [0, 1, 2, 3] [b0, b1, b2, b3]).Nodup := by
  cases b0 <;> cases b1 <;> cases b2 <;> cases b3 <;> decide
theorem row_eq {P : Nat → Nat → Int} {b0 b1 b2 b3 b4 b5 b6 b7 : Bool} {g : V4} {z r : Nat → Rat} (S : SolP P b0 b1 b2 b3 b4 b5 b6 b7 g z r) : ∀ i, i < 4 → z 0 * P i 0 + z 1 * P i 1 + z 2 * P i 2 + z 3 * P i 3 + r i = (match i with | 0 => g.a | 1 => g.b | 2 => g.c | _ => g.d) := fun i hi => by
  have : i = 0 ∨ i = 1 ∨ i = 2 ∨ i = 3 := by omega
  rcases this with rfl | rfl | rfl | rfl
  · exact S.e0
  · exact S.e1
  · exact S.e2
  · exact S.e3
theorem r_zero {P : Nat → Nat → Int} {b0 b1 b2 b3 b4 b5 b6 b7 : Bool} {g : V4} {z r : Nat → Rat} (S : SolP P b0 b1 b2 b3 b4 b5 b6 b7 g z r) {i : Nat} (h : i ∈ selL [0, 1, 2, 3] [!b4, !b5, !b6, !b7]) : i < 4 ∧ r i = 0 := by
  obtain ⟨h4, ht⟩ := sel_true h
  refine ⟨h4, ?_⟩
  have : i = 0 ∨ i = 1 ∨ i = 2 ∨ i = 3 := by omega
  rcases this with rfl | rfl | rfl | rfl
  · exact S.r0 (by simpa using ht)
  · exact S.r1 (by simpa using ht)
  · exact S.r2 (by simpa using ht)
  · exact S.r3 (by simpa using ht)
/-- no row of noughts is tight -/
theorem rows_in {t : List (List Int)} {n : Nat} {b0 b1 b2 b3 b4 b5 b6 b7 : Bool} {e : Rat} {z r : Nat → Rat} (he : 0 < e) (S : SolP (padP t n) b0 b1 b2 b3 b4 b5 b6 b7 (bV e) z r) : ∀ i ∈ selL [0, 1, 2, 3] [!b4, !b5, !b6, !b7], i < t.length := fun i hi => by
  obtain ⟨h4, hr⟩ := r_zero S hi
  refine Classical.byContradiction fun hn => ?_
  have q := row_eq S i h4
  have p : ∀ j, padP t n i j = 0 := fun j => if_neg hn
  rw [p, p, p, p, hr] at q
  have h2 := Rat.mul_pos he he
  have h3 := Rat.mul_pos h2 he
  have h5 := Rat.mul_pos h3 he
  have : i = 0 ∨ i = 1 ∨ i = 2 ∨ i = 3 := by omega
  unfold bV at q
  rcases this with rfl | rfl | rfl | rfl <;> dsimp only at q <;> grind
theorem minL_nn {w : List Int} (h : ∀ x ∈ w, 0 ≤ x) : ¬ minL w < 0 := by
  cases w with
  | nil => decide
  | cons x w =>
    have := h _ (minL_is (r := x :: w) (by simp)).1
    omega
theorem corner_of {t : List (List Int)} {n : Nat} (rect : Rect t n) (he : Ent 9 t) {b0 b1 b2 b3 b4 b5 b6 b7 : Bool} {z r : Nat → Rat} (S : SolP (padP t n) b0 b1 b2 b3 b4 b5 b6 b7 oneV z r)
    (hr : ∀ i ∈ selL [0, 1, 2, 3] [!b4, !b5, !b6, !b7], i < t.length) (hc : ∀ j ∈ selL [0, 1, 2, 3] [b0, b1, b2, b3], j < n)
    (hl : (selL [0, 1, 2, 3] [!b4, !b5, !b6, !b7]).length = (selL [0, 1, 2, 3] [b0, b1, b2, b3]).length) (h1 : 1 ≤ (selL [0, 1, 2, 3] [!b4, !b5, !b6, !b7]).length)
    (hd : detL (selL [0, 1, 2, 3] [!b4, !b5, !b6, !b7]).length (pickP (padP t n) (selL [0, 1, 2, 3] [!b4, !b5, !b6, !b7]) (selL [0, 1, 2, 3] [b0, b1, b2, b3])) ≠ 0) :
    ∃ V T, cornerL t n (selL [0, 1, 2, 3] [!b4, !b5, !b6, !b7]) (selL [0, 1, 2, 3] [b0, b1, b2, b3]) = some (V, T) ∧ (∀ j, j ∉ selL [0, 1, 2, 3] [b0, b1, b2, b3] → V.getD j 0 = 0) ∧ ∀ i ∈ selL [0, 1, 2, 3] [!b4, !b5, !b6, !b7], i ∈ T := by
  have req := row_eq S
  have rz : ∀ i ∈ selL [0, 1, 2, 3] [!b4, !b5, !b6, !b7], i < 4 ∧ r i = 0 := fun i hi => r_zero S hi
  have scs : ∀ f : Nat → Rat, _ := fun f => sum_cs (b0 := b0) (b1 := b1) (b2 := b2) (b3 := b3) f S.z0 S.z1 S.z2 S.z3
  have nd := sel_nodup b0 b1 b2 b3
  have h4 : (selL [0, 1, 2, 3] [!b4, !b5, !b6, !b7]).length ≤ 4 := by
    cases b4 <;> cases b5 <;> cases b6 <;> cases b7 <;> decide
  generalize selL [0, 1, 2, 3] [!b4, !b5, !b6, !b7] = rs at *
  generalize selL [0, 1, 2, 3] [b0, b1, b2, b3] = cs at *
  have one4 : ∀ i, i < 4 → z 0 * padP t n i 0 + z 1 * padP t n i 1 + z 2 * padP t n i 2 + z 3 * padP t n i 3 + r i = 1 := fun i hi => by
    have := req i hi
    have c : i = 0 ∨ i = 1 ∨ i = 2 ∨ i = 3 := by omega
    rcases c with rfl | rfl | rfl | rfl <;> exact this
  have ep : ∀ i, i < t.length → ∀ j ∈ cs, padP t n i j = entry t i j := fun i hi j hj => by
    unfold padP
    rw [if_pos hi, if_pos (hc j hj)]
  have epk : pickL t rs cs = pickP (padP t n) rs cs := by
    unfold pickL pickP
    exact List.map_congr_left fun i hi => List.map_congr_left fun j hj => (ep i (hr i hi) j hj).symm
  have hsq := pick_sq t hl
  have dots : ∀ i, i < t.length → i < 4 → (cs.map fun j => (entry t i j : Rat) * z j).sum = 1 - r i := fun i hi hi4 => by
    have a := scs (fun j => (padP t n i j : Rat))
    have b := one4 i hi4
    have e : (cs.map fun j => (entry t i j : Rat) * z j) = cs.map fun j => (padP t n i j : Rat) * z j := List.map_congr_left fun j hj => by rw [ep i hi j hj]
    rw [e, a]
    grind
  have cr := cram hsq h1 h4 (y := cs.map z) (by rw [List.length_map, hl]) fun row hrow => by
    unfold pickL at hrow
    obtain ⟨i, hi, rfl⟩ := List.mem_map.mp hrow
    obtain ⟨hi4, hz⟩ := rz i hi
    rw [dotR_map cs (fun j => entry t i j) z, dots i (hr i hi) hi4, hz]
    grind
  rw [← epk] at hd
  have dq : ∀ {x : Int}, x ≠ 0 → True := fun _ => trivial
  obtain ⟨w, d, hw, dp, cw⟩ : ∃ w d, weighedL rs.length (pickL t rs cs) = some (w, d) ∧ 0 < d ∧ w.map (fun x : Int => (x : Rat)) = (cs.map z).map fun x => (d : Rat) * x := by
    unfold weighedL
    rw [if_neg hd]
    by_cases hn : detL rs.length (pickL t rs cs) < 0
    · rw [if_pos hn]
      refine ⟨_, _, rfl, by omega, ?_⟩
      have : (((List.range rs.length).map fun k => detL rs.length (putCol (pickL t rs cs) k)).map fun x => -x).map (fun x : Int => (x : Rat)) = ((adjW rs.length (pickL t rs cs)).map fun x : Int => (x : Rat)).map fun x => -x := by
        unfold adjW
        rw [List.map_map, List.map_map, List.map_map, List.map_map]
        refine List.map_congr_left fun k _ => ?_
        show ((-(_ : Int) : Int) : Rat) = -((_ : Int) : Rat)
        rw [Rat.intCast_neg]
      rw [this, cr, List.map_map]
      refine List.map_congr_left fun x _ => ?_
      show -((detL _ _ : Rat) * x) = ((-(detL _ _) : Int) : Rat) * x
      rw [Rat.intCast_neg]
      grind
    · rw [if_neg hn]
      exact ⟨_, _, rfl, by omega, cr⟩
  have dpos : (0 : Rat) < (d : Rat) := q0 dp
  have wn : ∀ x ∈ w, 0 ≤ x := fun x hx => by
    have : (x : Rat) ∈ w.map (fun x : Int => (x : Rat)) := List.mem_map.mpr ⟨x, hx, rfl⟩
    rw [cw] at this
    obtain ⟨u, hu, e⟩ := List.mem_map.mp this
    obtain ⟨j, _, rfl⟩ := List.mem_map.mp hu
    have := Rat.mul_nonneg (Rat.le_of_lt dpos) (S.nz j)
    have h0 : ((0 : Int) : Rat) ≤ (x : Rat) := by
      rw [← e]
      exact this
    exact Rat.intCast_le_intCast.mp h0
  have lw : w.length = cs.length := by
    have := congrArg List.length cw
    rw [List.length_map, List.length_map, List.length_map] at this
    exact this
  have rowd : ∀ i, i < t.length → dotI (t.getD i []) (spread n cs w) = dotI (cs.map fun j => entry t i j) w := fun i hi => dot_spread (rect.get (getD_of hi)) nd hc lw
  have mx : ¬ d < maxL (sumsL t (spread n cs w)) := fun hlt => by
    have sne : sumsL t (spread n cs w) ≠ [] := fun zz => by have := sums_len t (spread n cs w); rw [zz] at this; have := rect.r1; simp at *; omega
    obtain ⟨row, hrow, e⟩ := List.mem_map.mp (maxL_is sne).1
    obtain ⟨i, hi, ei⟩ := List.getElem_of_mem hrow
    have er : t.getD i [] = row := by rw [List.getD_eq_getElem?_getD, List.getElem?_eq_getElem hi, ← ei]; rfl
    rw [← er, rowd i hi] at e
    have c := dotI_cast cs (fun j => entry t i j) z d w cw
    rw [dots i hi (by have := rect.r4; omega)] at c
    have nr := S.nr i
    have : (dotI (cs.map fun j => entry t i j) w : Rat) ≤ (d : Rat) := by
      rw [c]
      have := Rat.mul_nonneg (Rat.le_of_lt dpos) nr
      grind
    have := Rat.intCast_le_intCast.mp this
    omega
  refine ⟨spread n cs w, tight t (spread n cs w) d, ?_, fun j hj => ?_, fun i hi => ?_⟩
  · unfold cornerL
    rw [hw]
    show (if minL w < 0 then none else if d < maxL (sumsL t (spread n cs w)) then none else some (spread n cs w, tight t (spread n cs w) d)) = _
    rw [if_neg (minL_nn wn), if_neg mx]
  · show (putAll (List.replicate n 0) (cs.zip w)).getD j 0 = 0
    rw [putAll_other j _ _ fun p hp zz => hj (by rw [← zz]; exact (List.of_mem_zip (a := p.1) (b := p.2) hp).1), List.getD_eq_getElem?_getD, List.getElem?_replicate]
    split <;> rfl
  · unfold tight
    rw [List.mem_filter, List.mem_range, decide_eq_true_eq]
    refine ⟨hr i hi, ?_⟩
    have wd := weighed_dot hsq h1 h4 hw (cs.map fun j => entry t i j) (by unfold pickL; exact List.mem_map.mpr ⟨i, hi, rfl⟩)
    rw [← rowd i (hr i hi)] at wd
    unfold sumsL
    rw [List.getD_eq_getElem?_getD, List.getElem?_map, getD_of (d := []) (hr i hi)]
    exact wd
theorem sel_subs : ∀ c0 c1 c2 c3 : Bool, ∀ m ∈ [1, 2, 3, 4], (∀ i ∈ selL [0, 1, 2, 3] [c0, c1, c2, c3], i < m) → selL [0, 1, 2, 3] [c0, c1, c2, c3] ∈ subsL m := by decide +kernel
theorem pad_pos {t : List (List Int)} {n : Nat} (rect : Rect t n) (h1 : ∀ r ∈ t, ∀ x ∈ r, 1 ≤ x) : ∀ c ∈ matV (padP t n), 0 < tot c := by
  have nn : ∀ i j, 0 ≤ padP t n i j := fun i j => by
    unfold padP
    by_cases hi : i < t.length
    · rw [if_pos hi]
      by_cases hj : j < n
      · rw [if_pos hj]
        obtain ⟨a, b⟩ := entry_mem rect hi hj
        have := h1 _ a _ b
        omega
      · rw [if_neg hj]; decide
    · rw [if_neg hi]; exact Int.le_refl 0
  have p0 : ∀ j, 1 ≤ padP t n 0 j := fun j => by
    have hi : 0 < t.length := rect.r1
    unfold padP
    rw [if_pos hi]
    by_cases hj : j < n
    · rw [if_pos hj]
      obtain ⟨a, b⟩ := entry_mem rect hi hj
      exact h1 _ a _ b
    · rw [if_neg hj]; exact Int.le_refl 1
  have key : ∀ j, 0 < tot (colV (padP t n) j) := fun j => by
    have a0 := p0 j
    have a1 := nn 1 j
    have a2 := nn 2 j
    have a3 := nn 3 j
    have : (0 : Int) < padP t n 0 j + padP t n 1 j + padP t n 2 j + padP t n 3 j := by omega
    have h := q0 this
    rw [Rat.intCast_add, Rat.intCast_add, Rat.intCast_add] at h
    exact h
  intro c hc
  unfold matV at hc
  simp only [List.mem_cons, List.mem_nil_iff, or_false] at hc
  rcases hc with rfl | rfl | rfl | rfl <;> exact key _
theorem feasB_four {b : V4} {w : List V4} (h : feasB b w = true) : ∃ p q r s, w = [p, q, r, s] ∧ FeasP b p q r s := by
  by_cases h4 : w.length = 4
  · obtain ⟨p, q, r, s, rfl⟩ := four_of h4
    exact ⟨p, q, r, s, rfl, of_decide_eq_true h⟩
  · rw [feasB_len h4] at h
    cases h
/-- there are corners that fit -/
theorem settled_some {one other : List (List Int)} {n : Nat} (h1 : TabW one n) (h2 : TabW other n) (hl : one.length = other.length) : ∃ own cols, settledP one other n = some (own, cols) := by
  obtain ⟨rt, lt, bt⟩ := raised_rect h1
  have et := raised_ent h1
  have tx := across_tabW h2
  obtain ⟨ru, lu, bu⟩ := raised_rect tx
  have eu := raised_ent tx
  rw [across_len] at lu
  rw [← hl] at ru
  unfold settledP
  generalize raisedL one = t at *
  generalize raisedL (acrossT other n) = u at *
  obtain ⟨e, l, he, hlen, hne, f1, f2, n1, n2⟩ := another (matV (padP t n)) (matV (padP u one.length)) rfl rfl (pad_pos rt fun r hr x hx => (bt r hr x hx).1) (pad_pos ru fun r hr x hx => (bu r hr x hx).1)
  obtain ⟨b0, b1, b2, b3, b4, b5, b6, b7, rfl⟩ := eight hlen
  obtain ⟨p, q, r, s, hs1, F1⟩ := feasB_four f1
  obtain ⟨p', q', r', s', hs2, F2⟩ := feasB_four f2
  replace hs2 : selL (units ++ matV (padP u one.length)) [!b0, !b1, !b2, !b3, !b4, !b5, !b6, !b7] = [p', q', r', s'] := hs2
  have N1 := n1 _ _ _ _ hs1
  have N2 := n2 _ _ _ _ hs2
  have le : ∀ {x : Rat}, 0 < x → 0 ≤ x := fun h => Rat.le_of_lt h
  obtain ⟨z1, r1, S1⟩ := sol_1 hs1 F1.1 N1
  obtain ⟨z2, r2, S2⟩ := sol_2 hs2 F2.1 N2
  obtain ⟨_, _, E1⟩ := sol_1 (g := bV e) hs1 F1.1 ⟨le F1.2.1, le F1.2.2.1, le F1.2.2.2.1, le F1.2.2.2.2⟩
  obtain ⟨_, _, E2⟩ := sol_2 (g := bV e) hs2 F2.1 ⟨le F2.2.1, le F2.2.2.1, le F2.2.2.2.1, le F2.2.2.2.2⟩
  have i1 := rows_in he E1
  have i2 := rows_in he E2
  obtain ⟨k1, d1⟩ := link1 _ _ _ _ _ _ _ _ _ _ _ _ _ hs1 F1.1
  obtain ⟨k2, d2⟩ := link2 _ _ _ _ _ _ _ _ _ _ _ _ _ hs2 F2.1
  have ne : 1 ≤ (selL [0, 1, 2, 3] [!b4, !b5, !b6, !b7]).length := by
    refine Classical.byContradiction fun z => hne ?_
    have z1 : (selL [0, 1, 2, 3] [!b4, !b5, !b6, !b7]).length = 0 := by omega
    rw [z1] at k1
    revert z1 k1
    cases b0 <;> cases b1 <;> cases b2 <;> cases b3 <;> cases b4 <;> cases b5 <;> cases b6 <;> cases b7 <;> decide
  have mr := sel_subs (!b4) (!b5) (!b6) (!b7) one.length (by have := h1.r1; have := h1.r4; simp only [List.mem_cons, List.mem_nil_iff, or_false]; omega) (by rw [← lt]; exact i1)
  simp only [Bool.not_not] at i2 d2 k2
  have mc := sel_subs b0 b1 b2 b3 n (by have := h1.c1; have := h1.c4; simp only [List.mem_cons, List.mem_nil_iff, or_false]; omega) (by rw [← lu]; exact i2)
  obtain ⟨V1, T1, c1, zero1, in1⟩ := corner_of rt et S1 i1 (by rw [← lu]; exact i2) k1 ne d1
  have S2' : SolP (padP u one.length) (!b4) (!b5) (!b6) (!b7) (!b0) (!b1) (!b2) (!b3) oneV z2 r2 := S2
  have c2' := corner_of ru eu S2' (by simp only [Bool.not_not]; exact i2) (by rw [← lt]; exact i1) (by simp only [Bool.not_not]; exact k2) (by simp only [Bool.not_not]; omega) (by simp only [Bool.not_not]; exact d2)
  simp only [Bool.not_not] at c2'
  obtain ⟨V2, T2, c2, zero2, in2⟩ := c2'
  have m1 : (V1, T1) ∈ cornersL t n := mem_corners.mpr ⟨_, by rw [lt]; exact mr, _, mc, by
    unfold candC
    rw [if_pos ⟨fun z => by rw [z] at ne; exact absurd ne (by decide), k1⟩]
    exact c1⟩
  have m2 : (V2, T2) ∈ cornersL u one.length := mem_corners.mpr ⟨_, by rw [lu]; exact mc, _, mr, by
    unfold candC
    rw [if_pos ⟨fun z => by rw [z] at k1; rw [k1] at ne; exact absurd ne (by decide), k2⟩]
    exact c2⟩
  have R1 : rightB V2 T1 one.length = true := by
    unfold rightB
    rw [List.all_eq_true]
    intro i hi
    by_cases hm : i ∈ selL [0, 1, 2, 3] [!b4, !b5, !b6, !b7]
    · rw [Bool.or_eq_true]
      exact .inr (List.contains_iff_mem.mpr (in1 i hm))
    · rw [Bool.or_eq_true]
      exact .inl (decide_eq_true (zero2 i hm))
  have R2 : rightB V1 T2 n = true := by
    unfold rightB
    rw [List.all_eq_true]
    intro j hj
    by_cases hm : j ∈ selL [0, 1, 2, 3] [b0, b1, b2, b3]
    · rw [Bool.or_eq_true]
      exact .inr (List.contains_iff_mem.mpr (in2 j hm))
    · rw [Bool.or_eq_true]
      exact .inl (decide_eq_true (zero1 j hm))
  cases hS : (cornersL t n).findSome? fun c => (cornersL u one.length).findSome? fun o => if rightB o.1 c.2 one.length && rightB c.1 o.2 n then some (o.1, c.1) else none with
  | some x => exact ⟨x.1, x.2, rfl⟩
  | none =>
    exfalso
    have a := List.findSome?_eq_none_iff.mp hS _ m1
    have b := List.findSome?_eq_none_iff.mp a _ m2
    rw [R1, R2] at b
    cases b
theorem dot_shift (L : Int) : ∀ r w : List Int, r.length = w.length → dotI (r.map fun x => x - L + 1) w = dotI r w + (1 - L) * w.sum
  | [], [], _ => by simp [dotI]
  | [], _ :: _, h => by cases h
  | _ :: _, [], h => by cases h
  | a :: r, b :: w, h => by
    rw [List.map_cons, dotI_cons, dotI_cons, dot_shift L r w (by simpa using h), List.sum_cons]
    grind
theorem dotQ_shared {s : Int} (hs : 0 < s) : ∀ r w : List Int, dotQ r (w.map fun x => mk x s) = (dotI r w : Rat) / (s : Rat)
  | [], w => by
    show (0 : Rat) = ((0 : Int) : Rat) / _
    grind
  | a :: r, [] => by
    show (0 : Rat) = ((0 : Int) : Rat) / _
    grind
  | a :: r, b :: w => by
    have ih := dotQ_shared hs r w
    have n := qn hs
    unfold dotQ at *
    rw [List.map_cons, List.zip_cons_cons, List.map_cons, List.sum_cons, ih, qv_mk hs, dotI_cons, Rat.intCast_add, Rat.intCast_mul]
    grind
theorem mem_tight {t : List (List Int)} {w : List Int} {d : Int} {i : Nat} : i ∈ tight t w d ↔ i < t.length ∧ dotI (t.getD i []) w = d := by
  unfold tight
  rw [List.mem_filter, List.mem_range, decide_eq_true_eq]
  refine ⟨fun h => ⟨h.1, ?_⟩, fun h => ⟨h.1, ?_⟩⟩
  · have := h.2
    unfold sumsL at this
    rw [List.getD_eq_getElem?_getD, List.getElem?_map, getD_of (d := []) h.1] at this
    exact this
  · unfold sumsL
    rw [List.getD_eq_getElem?_getD, List.getElem?_map, getD_of (d := []) h.1]
    exact h.2
/-- from a mixture nobody turns: who has a share gets the most -/
def Stays (t : List (List Int)) (mine theirs : List Frc) : Prop := ∀ i, i < t.length → 0 < (mine.getD i (0, 1)).1 → ∀ r ∈ t, dotQ r theirs ≤ dotQ (t.getD i []) theirs
theorem stays_of {t : List (List Int)} {n : Nat} (tab : TabW t n) {w : List Int} {T : List Nat} {own : List Int} (hw : w.length = n) (hs : 0 < w.sum) (hd : ∃ d, 0 < d ∧ (∀ r ∈ raisedL t, dotI r w ≤ d) ∧ T = tight (raisedL t) w d) (ho : own.length = t.length) (hos : 0 < own.sum) (hR : rightB own T t.length = true) : Stays t (sharedL own) (sharedL w) := by
  obtain ⟨d, dp, le, rfl⟩ := hd
  intro i hi hpos r hr
  have ne : own.getD i 0 ≠ 0 := fun z => by
    have e : (sharedL own).getD i (0, 1) = mk (own.getD i 0) own.sum := by
      unfold sharedL
      rw [List.getD_eq_getElem?_getD, List.getElem?_map, List.getD_eq_getElem?_getD, List.getElem?_eq_getElem (by omega)]
      rfl
    rw [e, z] at hpos
    unfold mk at hpos
    simp at hpos
  have ht : i ∈ tight (raisedL t) w d := by
    unfold rightB at hR
    rw [List.all_eq_true] at hR
    have := hR i (List.mem_range.mpr hi)
    rw [Bool.or_eq_true, decide_eq_true_eq] at this
    rcases this with h | h
    · exact absurd h ne
    · exact List.contains_iff_mem.mp h
  have hti := (mem_tight.mp ht).2
  have ri : (raisedL t).getD i [] = (t.getD i []).map fun x => x - leastL t + 1 := by
    unfold raisedL
    rw [List.getD_eq_getElem?_getD, List.getElem?_map, getD_of (d := []) hi]
    rfl
  have mi : t.getD i [] ∈ t := List.mem_of_getElem? (getD_of hi)
  rw [ri, dot_shift _ _ _ (by rw [tab.row _ mi, hw])] at hti
  have lr := le _ (List.mem_map.mpr ⟨r, hr, rfl⟩)
  rw [dot_shift _ _ _ (by rw [tab.row _ hr, hw])] at lr
  have : dotI r w ≤ dotI (t.getD i []) w := by omega
  unfold sharedL
  rw [dotQ_shared hs, dotQ_shared hs]
  have h0 := q0 hs
  rw [Rat.div_def, Rat.div_def]
  exact Rat.mul_le_mul_of_nonneg_right (Rat.intCast_le_intCast.mpr this) (Rat.le_of_lt (Rat.inv_pos.mpr h0))
theorem shared_mix {w : List Int} {n : Nat} (hl : w.length = n) (h4 : n ≤ 4) (nn : ∀ x ∈ w, 0 ≤ x) (sm : ∀ x ∈ w, Sm 60 x) (hs : 0 < w.sum) : Mix (sharedL w) n ∧ ∀ x ∈ sharedL w, Fb 64 x := by
  have m := mix_of nn hs
  rw [hl] at m
  refine ⟨m, fun x hx => ?_⟩
  unfold sharedL at hx
  obtain ⟨y, hy, rfl⟩ := List.mem_map.mp hx
  exact mk_fb hs ((sm y hy).mono (by decide)) ((sum_sm (c := 2) sm (by omega)).mono (by decide))
/-- what settled hands back -/
structure SettledOk (one other : List (List Int)) (n : Nat) (M N : List Frc) : Prop where
  mm : Mix M one.length
  mn : Mix N n
  fm : ∀ x ∈ M, Fb 64 x
  fn : ∀ x ∈ N, Fb 64 x
  sm : Stays one M N
  sn : Stays (acrossT other n) N M
theorem settled_ok {one other : List (List Int)} {n : Nat} (h1 : TabW one n) (h2 : TabW other n) (hl : one.length = other.length) : SettledOk one other n (settledM one other n).1 (settledM one other n).2 := by
  obtain ⟨own, cols, hS⟩ := settled_some h1 h2 hl
  have tx := across_tabW h2
  obtain ⟨rt, lt, bt⟩ := raised_rect h1
  obtain ⟨ru, lu, bu⟩ := raised_rect tx
  rw [← hl] at ru tx
  have hS2 := hS
  rw [settledP_eq] at hS2
  obtain ⟨c, hc, hS3⟩ := List.exists_of_findSome?_eq_some hS2
  obtain ⟨o, ho, hh⟩ := List.exists_of_findSome?_eq_some hS3
  unfold hitS at hh
  split at hh
  · rename_i hB
    rw [Bool.and_eq_true] at hB
    have ck := corners_ok rt (raised_ent h1) hc
    have ok := corners_ok ru (raised_ent (across_tabW h2)) ho
    cases hh
    unfold settledM
    rw [hS]
    have a := shared_mix ok.len h1.r4 ok.nn ok.sm ok.sum
    have b := shared_mix ck.len h1.c4 ck.nn ck.sm ck.sum
    refine ⟨a.1, b.1, a.2, b.2, stays_of h1 ck.len ck.sum ck.ex ok.len ok.sum hB.1, stays_of tx ok.len ok.sum ok.ex (by rw [ck.len, across_len]) ck.sum (by rw [across_len]; exact hB.2)⟩
  · cases hh
open PySem L2
def R_settled (cBadTable cUnlike cSettled : Addr) : List Sl → Out → Prop := fun ss o => ∃ d e : PyData, ss = [.im d, .im e] ∧ (((tabOk d = false ∨ tabOk e = false) ∧ o = .exc cBadTable) ∨ ∃ t n u m, d = encT t ∧ e = encT u ∧ Tab t n ∧ Tab u m ∧ (((t.length ≠ u.length ∨ n ≠ m) ∧ o = .exc cUnlike) ∨ (t.length = u.length ∧ n = m ∧ o = .ret (.ob cSettled (fieldsS (settledM t u n))))))
def t_settled (K : PySem.W.Frag) (cBadTable : Addr) (cUnlike : Addr) (cSettled : Addr) (E : XK) : TS := (tSeq (tDrop (tCall (spR K (R_asked_two cBadTable cUnlike)) [] E (tCons (tVar 0) (tCons (tVar 1) tNil))))
    (tRet (tCall (spR K (R_settled_by cSettled)) [] E0 (tCons (tVar 0) (tCons (tVar 1) tNil)))))
theorem len_settled {cBadTable : Addr} {cUnlike : Addr} {cSettled : Addr} {ss : List Sl} {o : Out} (h : R_settled cBadTable cUnlike cSettled ss o) : ss.length = 2 := by
  first | (obtain ⟨_, rfl, _⟩ := h; rfl) | (obtain ⟨_, _, rfl, _⟩ := h; rfl) | (obtain ⟨_, _, _, rfl, _⟩ := h; rfl) | (obtain ⟨_, _, _, _, rfl, _⟩ := h; rfl) | (obtain ⟨_, _, _, _, _, rfl, _⟩ := h; rfl) | (obtain ⟨_, _, _, _, _, _, rfl, _⟩ := h; rfl)
theorem b_settled {K : PySem.W.Frag} {E : XK} {cBadTable : Addr} {cUnlike : Addr} {cSettled : Addr} (ss : List Sl) (o : Out) (h : R_settled cBadTable cUnlike cSettled ss o) : St K E (t_settled K cBadTable cUnlike cSettled E) (params ["one", "other"] ss) { nx := fun _ => o = .ret (.im .none), rt := fun s => o = .ret s, ex := fun c => o = .exc c } := by
  obtain ⟨d, e, rfl, ⟨hb, rfl⟩ | ⟨t, n, u, m, rfl, rfl, tab, tabu, hcase⟩⟩ := h
  · exact st_seq (st_callX (ss := [.im d, .im e]) (c := cBadTable) (by walk_at "ev") ⟨_, _, rfl, .inl ⟨hb, rfl⟩⟩ rfl)
  rcases hcase with ⟨hm, rfl⟩ | ⟨elen, rfl, rfl⟩
  · exact st_seq (st_callX (ss := [.im (encT t), .im (encT u)]) (c := cUnlike) (by walk_at "ev") ⟨_, _, rfl, .inr ⟨_, _, _, _, rfl, rfl, tab, tabu, .inl ⟨hm, rfl⟩⟩⟩ rfl)
  refine st_seq (st_drop (s := .im .none) (ev_call (ss := [.im (encT t), .im (encT u)]) (by walk_at "ev") ⟨_, _, rfl, .inr ⟨_, _, _, _, rfl, rfl, tab, tabu, .inr ⟨elen, rfl, rfl⟩⟩⟩) ?_)
  exact st_ret (ev_call (ss := [.im (encT t), .im (encT u)]) (by walk_at "ev") ⟨_, _, _, rfl, tab.w, tabu.w, elen, rfl⟩) rfl
open PySem L2
/-! ### the laws' own word on settled mixtures -/
theorem due_best {t : List (List Int)} {theirs : List Frc} (h : ∀ x ∈ theirs, 0 < x.2) {i : Nat} (hi : i < t.length) : ((toldF t theirs).map fun x => belowF ((toldF t theirs).getD i (0, 1)) x).any id = !(bestR t theirs).contains i := by
  have hl : (toldF t theirs).length = t.length := List.length_map _
  have hm : (toldF t theirs).getD i (0, 1) ∈ toldF t theirs := List.mem_of_getElem? (getD_of (by rw [hl]; exact hi))
  have hb : (bestR t theirs).contains i = decide ((toldF t theirs).getD i (0, 1) = mostF t theirs) := by
    rw [Bool.eq_iff_iff, List.contains_iff_mem, decide_eq_true_eq]
    unfold bestR
    rw [List.mem_filter, List.mem_range, decide_eq_true_eq]
    exact ⟨fun z => z.2, fun z => ⟨hi, z⟩⟩
  have e : (!((toldF t theirs).map fun x => belowF ((toldF t theirs).getD i (0, 1)) x).any id) = (bestR t theirs).contains i := by
    rw [hb, Bool.eq_iff_iff, decide_eq_true_eq, best_iff h hi, Bool.not_eq_true', List.any_eq_false]
    constructor
    · intro k x hx
      have := k _ (List.mem_map_of_mem (f := fun x => belowF ((toldF t theirs).getD i (0, 1)) x) hx)
      rw [id, below_qv (told_cn h _ hm).pos (told_cn h _ hx).pos, decide_eq_true_eq] at this
      exact Rat.not_lt.mp this
    · intro k x hx
      obtain ⟨y, hy, rfl⟩ := List.mem_map.mp hx
      rw [id, below_qv (told_cn h _ hm).pos (told_cn h _ hy).pos, decide_eq_true_eq]
      exact Rat.not_lt.mpr (k y hy)
  rw [← e, Bool.not_not]

theorem eqv_same {n : Nat} {d : PyData} (h : Lay n d) : PyData.eqv d d = true := PySem.SeqAt.eqv_refl d h.1
theorem nd_mt : (["mine", "theirs"] : List Str).Nodup := by decide +kernel
def offT (told ms : List Frc) : Bool := (List.range told.length).any fun i => decide (0 < (ms.getD i (0, 1)).1) && (told.map fun x => belowF (told.getD i (0, 1)) x).any id
def settledB (one other : List (List Int)) (n : Nat) (M N : List Frc) : Bool :=
  (mixOk one.length (encM M) && mixOk n (encM N)) && (!offT (toldF one N) M && !offT (toldF (acrossT other n) M) N)
theorem offT_B {t : List (List Int)} {ms theirs : List Frc} (h : ∀ x ∈ theirs, 0 < x.2) : offT (toldF t theirs) ms = offB ms (bestR t theirs) t.length := by
  unfold offT offB
  have hl : (toldF t theirs).length = t.length := List.length_map _
  rw [hl, Bool.eq_iff_iff, List.any_eq_true, List.any_eq_true]
  constructor
  · rintro ⟨i, hi, e⟩
    refine ⟨i, hi, ?_⟩
    rw [due_best h (List.mem_range.mp hi)] at e
    exact e
  · rintro ⟨i, hi, e⟩
    refine ⟨i, hi, ?_⟩
    rw [due_best h (List.mem_range.mp hi)]
    exact e
theorem shows_settled {one other : List (List Int)} {n : Nat} {M N : List Frc} (hM : ∀ x ∈ M, 0 < x.2) (hN : ∀ x ∈ N, 0 < x.2) : showsS one other n M N = settledB one other n M N := by
  unfold showsS settledB
  rw [offT_B hN, offT_B hM, across_len]
theorem settledB_true {one other : List (List Int)} {n : Nat} {M N : List Frc} (h : SettledOk one other n M N) : settledB one other n M N = true := by
  have pM : ∀ x ∈ M, 0 < x.2 := fun x hx => (h.fm x hx).pos
  have pN : ∀ x ∈ N, 0 < x.2 := fun x hx => (h.fn x hx).pos
  have off : ∀ {t : List (List Int)} {a b : List Frc}, (∀ x ∈ b, 0 < x.2) → Stays t a b → offT (toldF t b) a = false := fun {t a b} pb st => by
    cases e : offT (toldF t b) a with
    | false => rfl
    | true =>
      unfold offT at e
      rw [List.any_eq_true] at e
      obtain ⟨i, hi, e⟩ := e
      have hi := List.mem_range.mp hi
      have hl : (toldF t b).length = t.length := List.length_map _
      rw [Bool.and_eq_true, decide_eq_true_eq, List.any_eq_true] at e
      obtain ⟨e1, x, hx, e2⟩ := e
      obtain ⟨y, hy, rfl⟩ := List.mem_map.mp hx
      obtain ⟨r, hr, rfl⟩ := List.mem_map.mp hy
      have ht : (toldF t b).getD i (0, 1) = rowGot (t.getD i []) b := by
        unfold toldF
        rw [List.getD_eq_getElem?_getD, List.getElem?_map, getD_of (d := []) (show i < t.length by omega)]
        rfl
      rw [id, ht, below_qv (rowGot_cn pb).pos (rowGot_cn pb).pos, decide_eq_true_eq, qv_rowGot pb, qv_rowGot pb] at e2
      exact absurd (st i (by omega) e1 r hr) (Rat.not_le.mpr e2)
  unfold settledB
  rw [(mixOk_M _ _).mpr h.mm, (mixOk_M _ _).mpr h.mn, off pN h.sm, off pM h.sn]
  rfl
def encPr (p : List Frc × List Frc) : PyData := .tuple [encM p.1, encM p.2]

def R_law_settled : List Sl → Out → Prop := fun ss o => ∃ (one other : List (List Int)) (n : Nat) (M N : List Frc), ss = [.im (encT one), .im (encT other), .im (encM M), .im (encM N)] ∧ Tab one n ∧ Tab other n ∧ one.length = other.length ∧ (∀ x ∈ M, Fb 200 x) ∧ (∀ x ∈ N, Fb 200 x) ∧ M.length ≤ 16 ∧ N.length ≤ 16 ∧ o = .ret (.im (.bool (settledB one other n M N)))
def t_law_settled (K : PySem.W.Frag) : TS := (tSeq (tIfS (tOr (tNot (tB (tCall (spR K R_law_mixture) [] E0 (tCons (tVar 2) (tCons (tCB (rLenU K) (tCons (tVar 0) tNil)) tNil))))) (tNot (tB (tCall (spR K R_law_mixture) [] E0 (tCons (tVar 3) (tCons (tCB (rLenU K) (tCons (tOp (rIx K) (tVar 0) (tC (.int 0))) tNil)) tNil)))))) (tRet (tC (.bl false))) tNext)
    (tSeq (tAsg (tLc (iList K (tVar 0)) (gName 9) tYes (tCall (spR K R_law_sum) [] E0 (tCons (tVar 9) (tCons (tVar 3) tNil))) [9]) (gName 4))
    (tSeq (tAsg (tLc (iList K (tCall (spR K R_law_across) [] E0 (tCons (tVar 1) tNil))) (gName 10) tYes (tCall (spR K R_law_sum) [] E0 (tCons (tVar 10) (tCons (tVar 2) tNil))) [10]) (gName 5))
    (tSeq (tFor (iList K (tLst (tCons (tTup (tCons (tVar 4) (tCons (tVar 2) tNil))) (tCons (tTup (tCons (tVar 5) (tCons (tVar 3) tNil))) tNil)))) (gTup K 2 (gCons (gName 6) (gCons (gName 7) gNil))) (tFor (iRng1 (tCons (tCB (rLenU K) (tCons (tVar 6) tNil)) tNil)) (gName 8) (tIfS (tAnd (tTest (tOp (rI0 fun i j => .bl (decide (j < i))) (tOp (rIx K) (tOp (rIx K) (tVar 7) (tVar 8)) (tC (.int 0))) (tC (.int 0)))) (tB (tCB (rAny K) (tCons (tLc (iList K (tVar 6)) (gName 11) tYes (tCall (spR K R_law_less) [] E0 (tCons (tOp (rIx K) (tVar 6) (tVar 8)) (tCons (tVar 11) tNil))) [11]) tNil)))) (tRet (tC (.bl false))) tNext)))
    (tRet (tC (.bl true)))))))
theorem len_law_settled {ss : List Sl} {o : Out} (h : R_law_settled ss o) : ss.length = 4 := by
  first | (obtain ⟨_, rfl, _⟩ := h; rfl) | (obtain ⟨_, _, rfl, _⟩ := h; rfl) | (obtain ⟨_, _, _, rfl, _⟩ := h; rfl) | (obtain ⟨_, _, _, _, rfl, _⟩ := h; rfl) | (obtain ⟨_, _, _, _, _, rfl, _⟩ := h; rfl) | (obtain ⟨_, _, _, _, _, _, rfl, _⟩ := h; rfl)
theorem b_law_settled {K : PySem.W.Frag} {E : XK} (ss : List Sl) (o : Out) (h : R_law_settled ss o) : St K E (t_law_settled K) (params ["_law_one", "_law_other", "_law_mine", "_law_theirs", "_law_rows", "_law_columns", "_law_told", "_law_shares", "_law_place", "_law_row", "_law_column", "_law_more"] ss) { nx := fun _ => o = .ret (.im .none), rt := fun s => o = .ret s, ex := fun c => o = .exc c } := by
  obtain ⟨one, other, n, M, N, rfl, t1, t2, hl, fM, fN, lM, lN, rfl⟩ := h
  have m4 := t1.r4
  have n4 := t1.c4
  have tx := across_tab t2
  have xl := across_len other n
  obtain ⟨r0, t', et, hr0⟩ := t1.head
  have e0 : one[0]? = some r0 := by rw [et]; rfl
  have tst : EvB K (tOr (tNot (tB (tCall (spR K R_law_mixture) [] E0 (tCons (tVar 2) (tCons (tCB (rLenU K) (tCons (tVar 0) tNil)) tNil))))) (tNot (tB (tCall (spR K R_law_mixture) [] E0 (tCons (tVar 3) (tCons (tCB (rLenU K) (tCons (tOp (rIx K) (tVar 0) (tC (.int 0))) tNil)) tNil)))))) (params ["_law_one", "_law_other", "_law_mine", "_law_theirs", "_law_rows", "_law_columns", "_law_told", "_law_shares", "_law_place", "_law_row", "_law_column", "_law_more"] [.im (encT one), .im (encT other), .im (encM M), .im (encM N)]) (!mixOk one.length (encM M) || !mixOk n (encM N)) := by
    refine eb_orN (eb_not (eb_B (EvS.h (ev_call (ss := [.im (encM M), .im (.int (one.length : Nat))]) (ea_im (ev_var rfl) (ea_im (ev_lenD (EvS.h (ev_var rfl)) len_T) ea_nil)) ⟨_, _, rfl, fM, lM, rfl⟩)))) (eb_not (eb_B (EvS.h (ev_call (ss := [.im (encM N), .im (.int (n : Nat))]) (ea_im (ev_var rfl) (ea_im ?_ ea_nil)) ⟨_, _, rfl, fN, lN, rfl⟩))))
    rw [← hr0]
    exact ev_lenD (EvS.h (ev_ix (a := encT one) (i := ((0 : Nat) : Int)) (ev_var rfl) (EvS.h (ev_c (.int 0))) (item_T e0))) len_R
  unfold settledB
  cases hmix : (mixOk one.length (encM M) && mixOk n (encM N)) with
  | false =>
    refine st_seq (st_if (b := true) (tst.to (by rw [← Bool.not_and, hmix]; rfl)) (fun _ => st_ret (s := .im (.bool false)) (by walk_at "ev") rfl) (fun z => nomatch z))
  | true =>
    refine st_seq (st_if (b := false) (tst.to (by rw [← Bool.not_and, hmix]; rfl)) (fun z => nomatch z) (fun _ => st_next ?_))
    rw [Bool.and_eq_true] at hmix
    have mm := (mixOk_M _ _).mp hmix.1
    have mn := (mixOk_M _ _).mp hmix.2
    have told : ∀ (t : List (List Int)) (k : Nat) (ms : List Frc), Tab t k → (∀ x ∈ ms, Fb 200 x) → ∀ x ∈ toldF t ms, Fb 833 x := fun t k ms tab f x hx => by
      obtain ⟨r, hr, rfl⟩ := List.mem_map.mp hx
      exact rowGot_fb (tab.bd r hr) f (by rw [tab.row r hr]; exact tab.c4)
    refine st_seq (st_asg (s := .im (encM (toldF one N))) (EvS.freeze (EvS.to (ev_lc1 (xs := one) (enc := encR) (vs := [9]) (ei_list (ev_var rfl)) (fun r => encF (rowGot r N)) (fun r => [.im (encT one), .im (encT other), .im (encM M), .im (encM N), .no, .no, .no, .no, .no, .im (encR r), .no, .no]) (fun r _ => tg_name (by decide)) (fun r hr => ev_call (ss := [.im (encR r), .im (encM N)]) (ea_im (ev_var rfl) (ea_im (ev_var rfl) ea_nil)) ⟨_, _, 200, rfl, t1.bd r hr, fN, by rw [t1.row r hr]; omega, rfl⟩) (by omega)) (by unfold toldF; rw [List.map_map]; rfl))) ?_)
    refine st_seq (st_asg (s := .im (encM (toldF (acrossT other n) M))) (EvS.freeze (EvS.to (ev_lc1 (xs := acrossT other n) (enc := encR) (vs := [10]) (ei_list (ev_call (ss := [.im (encT other)]) (ea_im (ev_var rfl) ea_nil) ⟨_, _, rfl, t2.toRect, rfl⟩)) (fun r => encF (rowGot r M)) (fun r => [.im (encT one), .im (encT other), .im (encM M), .im (encM N), .im (encM (toldF one N)), .no, .no, .no, .no, .no, .im (encR r), .no]) (fun r _ => tg_name (by decide)) (fun r hr => ev_call (ss := [.im (encR r), .im (encM M)]) (ea_im (ev_var rfl) (ea_im (ev_var rfl) ea_nil)) ⟨_, _, 200, rfl, tx.bd r hr, fM, by rw [tx.row r hr, ← hl]; omega, rfl⟩) (by omega)) (by unfold toldF; rw [List.map_map]; rfl))) ?_)
    have b1 := told one n N t1 fN
    have b2 := told (acrossT other n) other.length M tx fM
    have q1 : (toldF one N).length = M.length := (List.length_map _).trans mm.len.symm
    have q2 : (toldF (acrossT other n) M).length = N.length := (List.length_map _).trans (xl.trans mn.len.symm)
    generalize toldF one N = A at *
    generalize toldF (acrossT other n) M = B at *
    have pairs : ∀ p ∈ [(A, M), (B, N)], (∀ x ∈ p.1, Fb 833 x) ∧ p.1.length = p.2.length ∧ p.1.length ≤ 16 ∧ (offT p.1 p.2 = true → (!offT A M && !offT B N) = false) := fun p hp => by
      simp only [List.mem_cons, List.mem_nil_iff, or_false] at hp
      rcases hp with rfl | rfl
      · exact ⟨b1, q1, (show A.length ≤ 16 by omega), fun z => by rw [z]; rfl⟩
      · exact ⟨b2, q2, (show B.length ≤ 16 by omega), fun z => by rw [z, Bool.not_true, Bool.and_false]⟩
    refine st_seq (st_for (vs := [6, 7]) (xs := [(A, M), (B, N)]) (enc := encPr) (ei_list (EvS.freeze (ev_lst (ds := [encPr (A, M), encPr (B, N)]) (ea_im (ev_tup (ds := [encM A, encM M]) (ea_im (ev_var rfl) (ea_im (ev_var rfl) ea_nil)) (Nat.le_of_ble_eq_true rfl)) (ea_im (ev_tup (ds := [encM B, encM N]) (ea_im (ev_var rfl) (ea_im (ev_var rfl) ea_nil)) (Nat.le_of_ble_eq_true rfl)) ea_nil)) (Nat.le_of_ble_eq_true rfl)))) (fun i G' => Le [.im (encT one), .im (encT other), .im (encM M), .im (encM N), .im (encM A), .im (encM B), .no, .no, .no, .no, .no, .no] G' ∧ ∀ p ∈ [(A, M), (B, N)].take i, offT p.1 p.2 = false) ⟨by walk_at "le", fun p hp => by rw [List.take_zero] at hp; cases hp⟩ (fun i p G' hi hI => ?_) (fun G' hI => ?_))
    · refine ⟨_, tg_tup (tgs_cons (tg_name (by decide)) (tgs_cons (tg_name (by decide)) tgs_nil)) rfl, st_le ((hI.1.set 6 (.im (encM p.1))).set 7 (.im (encM p.2))) ?_⟩
      obtain ⟨fp, lp, l16, hit⟩ := pairs p (List.mem_of_getElem? hi)
      show St K E _ [.im (encT one), .im (encT other), .im (encM M), .im (encM N), .im (encM A), .im (encM B), .im (encM p.1), .im (encM p.2), .no, .no, .no, .no] _
      refine st_for (vs := [8]) (xs := List.range p.1.length) (enc := fun k : Nat => .int k) (ei_range (n := p.1.length) (EvS.h (ev_lenD (EvS.h (ev_var rfl)) len_M)) (by omega)) (fun j G' => Le [.im (encT one), .im (encT other), .im (encM M), .im (encM N), .im (encM A), .im (encM B), .im (encM p.1), .im (encM p.2), .no, .no, .no, .no] G' ∧ ∀ k, k < j → (decide (0 < (p.2.getD k (0, 1)).1) && (p.1.map fun x => belowF (p.1.getD k (0, 1)) x).any id) = false) ⟨by walk_at "le", fun k hk => absurd hk (Nat.not_lt_zero _)⟩ (fun j k G2 hj hJ => ?_) (fun G2 hJ => ?_)
      · obtain ⟨hjl, hk⟩ := List.getElem?_eq_some_iff.mp hj
        rw [List.getElem_range] at hk
        subst hk
        rw [List.length_range] at hjl
        refine ⟨_, tg_name (by decide), st_le (hJ.1.set 8 (.im (.int (j : Nat)))) ?_⟩
        show St K E _ [.im (encT one), .im (encT other), .im (encM M), .im (encM N), .im (encM A), .im (encM B), .im (encM p.1), .im (encM p.2), .im (.int (j : Nat)), .no, .no, .no] _
        have g1 : p.1[j]? = some (p.1.getD j (0, 1)) := getD_of hjl
        have g2 : p.2[j]? = some (p.2.getD j (0, 1)) := getD_of (by omega)
        refine st_if (b := decide (0 < (p.2.getD j (0, 1)).1) && (p.1.map fun x => belowF (p.1.getD j (0, 1)) x).any id) (eb_andN (eb_test (EvS.h (ev_I0 (EvS.h (ev_ix (ev_ix (a := encM p.2) (ev_var rfl) (EvS.h (ev_var rfl)) (item_M g2)) (EvS.h (ev_c (.int 0))) item_F0)) (EvS.h (ev_c (.int 0))) (.bl _)))) (eb_B (EvS.h (ev_any (EvS.h (EvS.freeze (EvS.to (ev_lc1 (xs := p.1) (enc := encF) (vs := [11]) (ei_list (ev_var rfl)) (fun x => .bool (belowF (p.1.getD j (0, 1)) x)) (fun x => [.im (encT one), .im (encT other), .im (encM M), .im (encM N), .im (encM A), .im (encM B), .im (encM p.1), .im (encM p.2), .im (.int (j : Nat)), .no, .no, .im (encF x)]) (fun x _ => tg_name (by decide)) (fun x hx => ev_call (ss := [.im (encF (p.1.getD j (0, 1))), .im (encF x)]) (ea_im (ev_ix (a := encM p.1) (ev_var rfl) (EvS.h (ev_var rfl)) (item_M g1)) (ea_im (ev_var rfl) ea_nil)) ⟨_, _, rfl, (fp _ (List.mem_of_getElem? g1)).mono (by decide), (fp x hx).mono (by decide), rfl⟩) (by omega)) (by rw [List.map_map]; rfl)))))))) (fun z => st_ret (s := .im (.bool false)) (by walk_at "ev") ?_) (fun z => st_next ⟨by walk_at "le", fun k hk => ?_⟩)
        · have : offT p.1 p.2 = true := List.any_eq_true.mpr ⟨j, List.mem_range.mpr hjl, z⟩
          rw [hit this]
          rfl
        · by_cases hkj : k < j
          · exact hJ.2 k hkj
          · have : k = j := by omega
            subst this
            exact z
      · rw [List.length_range] at hJ
        refine ⟨Le.trans (by walk_at "le") hJ.1, fun x hx => ?_⟩
        rw [take_snoc hi] at hx
        rcases List.mem_append.mp hx with hx | hx
        · exact hI.2 x hx
        · rcases List.mem_cons.mp hx with rfl | hx
          · unfold offT
            rw [List.any_eq_false]
            intro k hk
            rw [hJ.2 k (List.mem_range.mp hk)]
            exact Bool.false_ne_true
          · cases hx
    · refine st_le hI.1 (st_ret (s := .im (.bool true)) (by walk_at "ev") ?_)
      have z1 := hI.2 (A, M) (by simp)
      have z2 := hI.2 (B, N) (by simp)
      dsimp only at z1 z2
      rw [z1, z2]
      rfl
/-! ### sums of fractions, tables of two, what a table is worth: plain mathematics -/
def sN : Nat → (Nat → Rat) → Rat
  | 0, _ => 0
  | n + 1, f => sN n f + f n
theorem sN_congr {f g : Nat → Rat} : ∀ {n : Nat}, (∀ i, i < n → f i = g i) → sN n f = sN n g
  | 0, _ => rfl
  | n + 1, h => by
    unfold sN
    rw [sN_congr fun i hi => h i (Nat.lt_succ_of_lt hi), h n (Nat.lt_succ_self n)]
theorem sN_add (f g : Nat → Rat) : ∀ n, sN n (fun i => f i + g i) = sN n f + sN n g
  | 0 => by unfold sN; grind
  | n + 1 => by
    unfold sN
    rw [sN_add f g n]
    grind
theorem sN_mul (c : Rat) (f : Nat → Rat) : ∀ n, sN n (fun i => c * f i) = c * sN n f
  | 0 => by unfold sN; grind
  | n + 1 => by
    unfold sN
    rw [sN_mul c f n]
    grind
theorem sN_neg (f : Nat → Rat) (n : Nat) : sN n (fun i => -(f i)) = -(sN n f) := by
  have : sN n (fun i => -(f i)) = sN n (fun i => (-1) * f i) := sN_congr fun i _ => by grind
  rw [this, sN_mul]
  grind
theorem sN_zero : ∀ n, sN n (fun _ => 0) = 0
  | 0 => rfl
  | n + 1 => by
    unfold sN
    rw [sN_zero n]
    grind
theorem sN_swap (n : Nat) (f : Nat → Nat → Rat) : ∀ m, sN m (fun i => sN n (fun j => f i j)) = sN n (fun j => sN m (fun i => f i j))
  | 0 => by
    show (0 : Rat) = sN n (fun _ => 0)
    exact (sN_zero n).symm
  | m + 1 => by
    show sN m (fun i => sN n (fun j => f i j)) + sN n (fun j => f m j) = sN n (fun j => sN m (fun i => f i j) + f m j)
    rw [sN_swap n f m]
    exact (sN_add _ _ n).symm
theorem sN_le {f g : Nat → Rat} : ∀ {n : Nat}, (∀ i, i < n → f i ≤ g i) → sN n f ≤ sN n g
  | 0, _ => Rat.le_refl
  | n + 1, h => by
    unfold sN
    have a := sN_le fun i hi => h i (Nat.lt_succ_of_lt hi)
    have b := h n (Nat.lt_succ_self n)
    grind
theorem sN_first (f : Nat → Rat) : ∀ n, sN (n + 1) f = f 0 + sN n (fun i => f (i + 1))
  | 0 => by
    unfold sN sN
    grind
  | n + 1 => by
    have e : sN (n + 2) f = sN (n + 1) f + f (n + 1) := rfl
    rw [e, sN_first f n]
    show _ = f 0 + (sN n (fun i => f (i + 1)) + f (n + 1))
    grind
theorem sN_rev (f : Nat → Rat) : ∀ n, sN n (fun i => f (n - 1 - i)) = sN n f
  | 0 => rfl
  | n + 1 => by
    rw [sN_first]
    show f (n + 1 - 1 - 0) + _ = sN n f + f n
    have e : sN n (fun i => f (n + 1 - 1 - (i + 1))) = sN n (fun i => f (n - 1 - i)) := sN_congr fun i _ => by
      congr 1
      omega
    rw [e, sN_rev f n]
    have : n + 1 - 1 - 0 = n := by omega
    rw [this]
    grind
theorem sN_split (f : Nat → Rat) (m : Nat) : ∀ n, sN (m + n) f = sN m f + sN n (fun i => f (m + i))
  | 0 => by
    show sN m f = sN m f + 0
    grind
  | n + 1 => by
    show sN (m + n) f + f (m + n) = sN m f + (sN n (fun i => f (m + i)) + f (m + n))
    rw [sN_split f m n]
    grind
theorem sN_two (n : Nat) (f : Nat → Rat) : ∀ m, sN (m * n) f = sN m fun a => sN n fun b => f (a * n + b)
  | 0 => by rw [Nat.zero_mul]; rfl
  | m + 1 => by
    rw [Nat.succ_mul, sN_split, sN_two n f m]
    rfl
theorem sN_nn {f : Nat → Rat} {n : Nat} (h : ∀ i, i < n → 0 ≤ f i) : 0 ≤ sN n f := by
  have := sN_le (f := fun _ => 0) (g := f) h
  rwa [sN_zero] at this
theorem sN_nought {f : Nat → Rat} : ∀ {n : Nat}, (∀ i, i < n → 0 ≤ f i) → sN n f ≤ 0 → ∀ i, i < n → f i = 0
  | 0, _, _, i, hi => absurd hi (Nat.not_lt_zero i)
  | n + 1, h, e, i, hi => by
    have hn := sN_nn (f := f) (n := n) fun i hi => h i (Nat.lt_succ_of_lt hi)
    have hl := h n (Nat.lt_succ_self n)
    have e : sN n f + f n ≤ 0 := e
    by_cases z : i = n
    · subst z; grind
    · exact sN_nought (fun i hi => h i (Nat.lt_succ_of_lt hi)) (by grind) i (by omega)
theorem sN_one {f : Nat → Rat} {c : Nat} {a : Rat} : ∀ {n : Nat}, c < n → (∀ i, i < n → i ≠ c → f i = 0) → f c = a → sN n f = a
  | 0, h, _, _ => absurd h (Nat.not_lt_zero c)
  | n + 1, h, z, e => by
    unfold sN
    by_cases hc : c = n
    · subst hc
      rw [sN_congr (g := fun _ => 0) fun i hi => z i (Nat.lt_succ_of_lt hi) (Nat.ne_of_lt hi), sN_zero, e]
      grind
    · rw [sN_one (n := n) (by omega) (fun i hi => z i (Nat.lt_succ_of_lt hi)) e, z n (Nat.lt_succ_self n) (fun q => hc q.symm)]
      grind
structure Wt (m : Nat) (x : Nat → Rat) : Prop where
  nn : ∀ i, i < m → 0 ≤ x i
  one : sN m x = 1
theorem Wt.le {m : Nat} {x f : Nat → Rat} {v : Rat} (w : Wt m x) (h : ∀ i, i < m → f i ≤ v) : sN m (fun i => x i * f i) ≤ v := by
  have a : sN m (fun i => x i * f i) ≤ sN m (fun i => v * x i) := sN_le fun i hi => by
    have := Rat.mul_le_mul_of_nonneg_left (h i hi) (w.nn i hi)
    grind
  rw [sN_mul, w.one] at a
  grind
theorem Wt.ge {m : Nat} {x f : Nat → Rat} {v : Rat} (w : Wt m x) (h : ∀ i, i < m → v ≤ f i) : v ≤ sN m (fun i => x i * f i) := by
  have a : sN m (fun i => v * x i) ≤ sN m (fun i => x i * f i) := sN_le fun i hi => by
    have := Rat.mul_le_mul_of_nonneg_left (h i hi) (w.nn i hi)
    grind
  rw [sN_mul, w.one] at a
  grind
theorem Wt.some {m : Nat} {x : Nat → Rat} (w : Wt m x) : ∃ i, i < m ∧ 0 < x i := by
  apply Classical.byContradiction
  intro h
  have z : sN m x = sN m (fun _ => 0) := sN_congr fun i hi => by
    have a := w.nn i hi
    have b : ¬ 0 < x i := fun q => h ⟨i, hi, q⟩
    grind
  rw [w.one, sN_zero] at z
  grind
/-- a number, two mixtures that show it -/
structure Sad (P : Nat → Nat → Rat) (m n : Nat) (x y : Nat → Rat) (v : Rat) : Prop where
  wx : Wt m x
  wy : Wt n y
  up : ∀ i, i < m → sN n (fun j => P i j * y j) ≤ v
  lo : ∀ j, j < n → v ≤ sN m (fun i => P i j * x i)
def bilS (P : Nat → Nat → Rat) (m n : Nat) (x y : Nat → Rat) : Rat := sN m fun i => x i * sN n fun j => P i j * y j
variable {P Q : Nat → Nat → Rat} {m n p q : Nat} {x y x' y' x1 y1 x2 y2 : Nat → Rat} {u v v1 v2 : Rat}
theorem bil_swap : bilS P m n x y = sN n fun j => y j * sN m fun i => P i j * x i := by
  unfold bilS
  have a : (sN m fun i => x i * sN n fun j => P i j * y j) = sN m fun i => sN n fun j => x i * (P i j * y j) := sN_congr fun i _ => (sN_mul _ _ n).symm
  have b : (sN n fun j => y j * sN m fun i => P i j * x i) = sN n fun j => sN m fun i => x i * (P i j * y j) := sN_congr fun j _ => by
    rw [← sN_mul]
    exact sN_congr fun i _ => by grind
  rw [a, b, sN_swap]
theorem Sad.bil_le (w : Wt m x) (up : ∀ i, i < m → sN n (fun j => P i j * y j) ≤ v) : bilS P m n x y ≤ v := w.le up
theorem Sad.le_bil (w : Wt n y) (lo : ∀ j, j < n → v ≤ sN m (fun i => P i j * x i)) : v ≤ bilS P m n x y := by
  rw [bil_swap]
  exact w.ge lo
theorem Sad.bil (s : Sad P m n x y v) : bilS P m n x y = v := Rat.le_antisymm (Sad.bil_le s.wx s.up) (Sad.le_bil s.wy s.lo)
theorem Sad.both (s1 : Sad P m n x1 y1 v1) (s2 : Sad P m n x2 y2 v2) : v1 = v2 ∧ Sad P m n x1 y2 v1 := by
  have a : v1 ≤ v2 := Rat.le_trans (Sad.le_bil s2.wy s1.lo) (Sad.bil_le s1.wx s2.up)
  have b : v2 ≤ v1 := Rat.le_trans (Sad.le_bil s1.wy s2.lo) (Sad.bil_le s2.wx s1.up)
  have e := Rat.le_antisymm a b
  subst e
  exact ⟨rfl, s1.wx, s2.wy, s2.up, s1.lo⟩
theorem Sad.congr (s : Sad P m n x y v) (hP : ∀ i j, i < m → j < n → P i j = Q i j) : Sad Q m n x y v :=
  ⟨s.wx, s.wy, fun i hi => by
    rw [sN_congr (f := fun j => Q i j * y j) (g := fun j => P i j * y j) fun j hj => by rw [hP i j hi hj]]
    exact s.up i hi, fun j hj => by
    rw [sN_congr (f := fun i => Q i j * x i) (g := fun i => P i j * x i) fun i hi => by rw [hP i j hi hj]]
    exact s.lo j hj⟩
theorem Sad.congrX (s : Sad P m n x y v) (hx : ∀ i, i < m → x i = x' i) (hy : ∀ j, j < n → y j = y' j) : Sad P m n x' y' v :=
  ⟨⟨fun i hi => by rw [← hx i hi]; exact s.wx.nn i hi, by rw [← sN_congr hx]; exact s.wx.one⟩, ⟨fun i hi => by rw [← hy i hi]; exact s.wy.nn i hi, by rw [← sN_congr hy]; exact s.wy.one⟩,
   fun i hi => by
    rw [sN_congr (f := fun j => P i j * y' j) (g := fun j => P i j * y j) fun j hj => by rw [hy j hj]]
    exact s.up i hi, fun j hj => by
    rw [sN_congr (f := fun i => P i j * x' i) (g := fun i => P i j * x i) fun i hi => by rw [hx i hi]]
    exact s.lo j hj⟩
/-- who has a share gets just the number -/
theorem Sad.tight (s : Sad P m n x y v) {i : Nat} (hi : i < m) (h : 0 < x i) : sN n (fun j => P i j * y j) = v := by
  have z : sN m (fun i => x i * (v - sN n fun j => P i j * y j)) ≤ 0 := by
    have e : sN m (fun i => x i * (v - sN n fun j => P i j * y j)) = sN m (fun i => v * x i + -(x i * sN n fun j => P i j * y j)) := sN_congr fun i _ => by grind
    rw [e, sN_add (fun i => v * x i), sN_mul, s.wx.one, sN_neg]
    have := s.bil
    unfold bilS at this
    rw [this]
    grind
  have t := sN_nought (fun i hi => by
    have := Rat.mul_nonneg (s.wx.nn i hi) (show 0 ≤ v - sN n fun j => P i j * y j from by have := s.up i hi; grind)
    exact this) z i hi
  rcases Rat.mul_eq_zero.mp t with a | a
  · grind
  · grind
theorem Sad.turn (s : Sad P m n x y v) : Sad (fun j i => -(P i j)) n m y x (-v) :=
  ⟨s.wy, s.wx, fun j hj => by
    have e : sN m (fun i => -(P i j) * x i) = -(sN m fun i => P i j * x i) := by
      rw [← sN_neg]
      exact sN_congr fun i _ => by grind
    rw [e]
    have := s.lo j hj
    grind, fun i hi => by
    have e : sN n (fun j => -(P i j) * y j) = -(sN n fun j => P i j * y j) := by
      rw [← sN_neg]
      exact sN_congr fun j _ => by grind
    rw [e]
    have := s.up i hi
    grind⟩
theorem Sad.tightY (s : Sad P m n x y v) {j : Nat} (hj : j < n) (h : 0 < y j) : sN m (fun i => P i j * x i) = v := by
  have := s.turn.tight hj h
  have e : sN m (fun i => -(P i j) * x i) = -(sN m fun i => P i j * x i) := by
    rw [← sN_neg]
    exact sN_congr fun i _ => by grind
  rw [e] at this
  grind
theorem sad_of (wx : Wt m x) (wy : Wt n y) (h1 : ∀ i, i < m → 0 < x i → ∀ k, k < m → sN n (fun j => P k j * y j) ≤ sN n (fun j => P i j * y j)) (h2 : ∀ j, j < n → 0 < y j → ∀ k, k < n → sN m (fun i => P i j * x i) ≤ sN m (fun i => P i k * x i)) : Sad P m n x y (bilS P m n x y) := by
  obtain ⟨i0, hi0, p0⟩ := wx.some
  obtain ⟨j0, hj0, q0⟩ := wy.some
  have a : bilS P m n x y = sN n (fun j => P i0 j * y j) := by
    refine Rat.le_antisymm (Sad.bil_le wx (h1 i0 hi0 p0)) ?_
    have g : ∀ i, i < m → x i * sN n (fun j => P i j * y j) = sN n (fun j => P i0 j * y j) * x i := fun i hi => by
      by_cases z : 0 < x i
      · rw [Rat.le_antisymm (h1 i0 hi0 p0 i hi) (h1 i hi z i0 hi0)]
        grind
      · have : x i = 0 := by have := wx.nn i hi; grind
        rw [this]
        grind
    unfold bilS
    rw [sN_congr g, sN_mul, wx.one]
    grind
  have b : bilS P m n x y = sN m (fun i => P i j0 * x i) := by
    rw [bil_swap]
    have g : ∀ j, j < n → y j * sN m (fun i => P i j * x i) = sN m (fun i => P i j0 * x i) * y j := fun j hj => by
      by_cases z : 0 < y j
      · rw [Rat.le_antisymm (h2 j hj z j0 hj0) (h2 j0 hj0 q0 j hj)]
        grind
      · have : y j = 0 := by have := wy.nn j hj; grind
        rw [this]
        grind
    rw [sN_congr g, sN_mul, wy.one]
    grind
  exact ⟨wx, wy, fun i hi => by rw [a]; exact h1 i0 hi0 p0 i hi, fun j hj => by rw [b]; exact h2 j0 hj0 q0 j hj⟩
theorem Wt.rev (w : Wt m x) : Wt m (fun i => x (m - 1 - i)) := ⟨fun i hi => w.nn _ (by omega), by rw [sN_rev]; exact w.one⟩
theorem Sad.rev (s : Sad P m n x y v) : Sad (fun i j => P (m - 1 - i) (n - 1 - j)) m n (fun i => x (m - 1 - i)) (fun j => y (n - 1 - j)) v :=
  ⟨s.wx.rev, s.wy.rev, fun i hi => by
    have e := sN_rev (fun j => P (m - 1 - i) j * y j) n
    rw [e]
    exact s.up _ (by omega), fun j hj => by
    have e := sN_rev (fun i => P i (n - 1 - j) * x i) m
    rw [e]
    exact s.lo _ (by omega)⟩
theorem Sad.aff {a b : Rat} (ha : 0 ≤ a) (s : Sad P m n x y v) : Sad (fun i j => a * P i j + b) m n x y (a * v + b) :=
  ⟨s.wx, s.wy, fun i hi => by
    have e : sN n (fun j => (a * P i j + b) * y j) = a * sN n (fun j => P i j * y j) + b := by
      have : sN n (fun j => (a * P i j + b) * y j) = sN n (fun j => a * (P i j * y j) + b * y j) := sN_congr fun j _ => by grind
      rw [this, sN_add (fun j => a * (P i j * y j)), sN_mul, sN_mul, s.wy.one]
      grind
    rw [e]
    have := Rat.mul_le_mul_of_nonneg_left (s.up i hi) ha
    grind, fun j hj => by
    have e : sN m (fun i => (a * P i j + b) * x i) = a * sN m (fun i => P i j * x i) + b := by
      have : sN m (fun i => (a * P i j + b) * x i) = sN m (fun i => a * (P i j * x i) + b * x i) := sN_congr fun i _ => by grind
      rw [this, sN_add (fun i => a * (P i j * x i)), sN_mul, sN_mul, s.wx.one]
      grind
    rw [e]
    have := Rat.mul_le_mul_of_nonneg_left (s.lo j hj) ha
    grind⟩
theorem divmod {a b p : Nat} (h : b < p) : (a * p + b) / p = a ∧ (a * p + b) % p = b := by
  constructor
  · rw [Nat.mul_comm, Nat.mul_add_div (by omega), Nat.div_eq_of_lt h, Nat.add_zero]
  · rw [Nat.mul_comm, Nat.mul_add_mod, Nat.mod_eq_of_lt h]
theorem sN_prod (f g : Nat → Rat) (m p : Nat) : sN (m * p) (fun i => f (i / p) * g (i % p)) = sN m f * sN p g := by
  rw [sN_two]
  have e : (sN m fun a => sN p fun b => f ((a * p + b) / p) * g ((a * p + b) % p)) = sN m fun a => sN p g * f a := sN_congr fun a _ => by
    have : (sN p fun b => f ((a * p + b) / p) * g ((a * p + b) % p)) = sN p fun b => f a * g b := sN_congr fun b hb => by
      rw [(divmod hb).1, (divmod hb).2]
    rw [this, sN_mul]
    grind
  rw [e, sN_mul]
  grind
theorem Wt.prod (w : Wt m x) (w' : Wt p x') : Wt (m * p) (fun i => x (i / p) * x' (i % p)) := ⟨fun i hi => by
  have hp : 0 < p := by
    rcases Nat.eq_zero_or_pos p with z | z
    · rw [z, Nat.mul_zero] at hi; omega
    · exact z
  exact Rat.mul_nonneg (w.nn _ ((Nat.div_lt_iff_lt_mul hp).mpr hi)) (w'.nn _ (Nat.mod_lt _ hp)), by rw [sN_prod, w.one, w'.one]; grind⟩
theorem sum_prod {A B : Nat → Rat} (hy : sN n y = 1) (hy' : sN q y' = 1) : sN (n * q) (fun j => (A (j / q) + B (j % q)) * (y (j / q) * y' (j % q))) = sN n (fun j => A j * y j) + sN q (fun j => B j * y' j) := by
  have e : sN (n * q) (fun j => (A (j / q) + B (j % q)) * (y (j / q) * y' (j % q))) = sN (n * q) (fun j => (fun k => A k * y k) (j / q) * y' (j % q) + y (j / q) * (fun k => B k * y' k) (j % q)) := sN_congr fun j _ => by grind
  rw [e, sN_add (fun j => (fun k => A k * y k) (j / q) * y' (j % q)), sN_prod (fun k => A k * y k) y', sN_prod y (fun k => B k * y' k), hy, hy']
  grind
theorem Sad.tog (s : Sad P m n x y v) (t : Sad Q p q x' y' u) : Sad (fun i j => P (i / p) (j / q) + Q (i % p) (j % q)) (m * p) (n * q) (fun i => x (i / p) * x' (i % p)) (fun j => y (j / q) * y' (j % q)) (v + u) :=
  ⟨s.wx.prod t.wx, s.wy.prod t.wy, fun i hi => by
    have hp : 0 < p := by
      rcases Nat.eq_zero_or_pos p with z | z
      · rw [z, Nat.mul_zero] at hi; omega
      · exact z
    have e := sum_prod (A := fun j => P (i / p) j) (B := fun j => Q (i % p) j) s.wy.one t.wy.one
    rw [e]
    have := s.up _ ((Nat.div_lt_iff_lt_mul hp).mpr hi)
    have := t.up _ (Nat.mod_lt i hp)
    grind, fun j hj => by
    have hq : 0 < q := by
      rcases Nat.eq_zero_or_pos q with z | z
      · rw [z, Nat.mul_zero] at hj; omega
      · exact z
    have e := sum_prod (A := fun i => P i (j / q)) (B := fun i => Q i (j % q)) s.wx.one t.wx.one
    rw [e]
    have := s.lo _ ((Nat.div_lt_iff_lt_mul hq).mpr hj)
    have := t.lo _ (Nat.mod_lt j hq)
    grind⟩
/-! ### what a table is worth: the program's words -/
theorem tab_neg {t : List (List Int)} {n : Nat} (h : TabW t n) : TabW (negT t) n := ⟨negT_rect h.toRect, fun r hr x hx => by
  obtain ⟨y, hy, rfl⟩ := List.mem_map.mp hr
  obtain ⟨z, hz, rfl⟩ := List.mem_map.mp hx
  have := h.bd y hy z hz
  omega⟩
theorem neg_len (t : List (List Int)) : (negT t).length = t.length := List.length_map _
def eQ (t : List (List Int)) (i j : Nat) : Rat := ((entry t i j : Int) : Rat)
def xQ (ms : List Frc) (i : Nat) : Rat := qv (ms.getD i (0, 1))
theorem sum_range (f : Nat → Rat) : ∀ n, ((List.range n).map f).sum = sN n f
  | 0 => rfl
  | n + 1 => by
    rw [List.range_succ, List.map_append, List.sum_append, sum_range f n]
    show _ + (f n + 0) = sN n f + f n
    grind
theorem zipR {α β : Type} (d : α) (e : β) {xs : List α} {ys : List β} (h : xs.length = ys.length) : xs.zip ys = (List.range xs.length).map fun i => (xs.getD i d, ys.getD i e) := by
  refine List.ext_getElem (by rw [List.length_zip, List.length_map, List.length_range]; omega) fun i h1 h2 => ?_
  rw [List.length_zip] at h1
  rw [List.getElem_zip, List.getElem_map, List.getElem_range, List.getD_eq_getElem?_getD, List.getD_eq_getElem?_getD, List.getElem?_eq_getElem (by omega), List.getElem?_eq_getElem (by omega)]
  rfl
theorem mapR {α β : Type} (d : α) (f : α → β) (xs : List α) : xs.map f = (List.range xs.length).map fun i => f (xs.getD i d) := by
  refine List.ext_getElem (by rw [List.length_map, List.length_map, List.length_range]) fun i h1 h2 => ?_
  rw [List.length_map] at h1
  rw [List.getElem_map, List.getElem_map, List.getElem_range, List.getD_eq_getElem?_getD, List.getElem?_eq_getElem h1]
  rfl
theorem dotQ_sN {row : List Int} {ms : List Frc} {n : Nat} (h : row.length = n) (h2 : ms.length = n) : dotQ row ms = sN n fun j => ((row.getD j 0 : Int) : Rat) * xQ ms j := by
  unfold dotQ
  rw [zipR 0 (0, 1) (h.trans h2.symm), List.map_map, ← sum_range, h]
  rfl
theorem dot_row {t : List (List Int)} {n i : Nat} {ms : List Frc} (h : Rect t n) (hi : i < t.length) (hm : ms.length = n) : dotQ (t.getD i []) ms = sN n fun j => eQ t i j * xQ ms j :=
  dotQ_sN (h.row _ (List.mem_of_getElem? (getD_of hi))) hm
theorem col_get {t : List (List Int)} {i j : Nat} (hi : i < t.length) : (colL t j).getD i 0 = entry t i j := by
  unfold colL entry
  rw [List.getD_eq_getElem?_getD, List.getElem?_map, getD_of (d := []) hi]
  rfl
theorem dot_col {t : List (List Int)} {j : Nat} {ms : List Frc} (hm : ms.length = t.length) : dotQ (colL t j) ms = sN t.length fun i => eQ t i j * xQ ms i := by
  have hc : (colL t j).length = t.length := List.length_map _
  rw [dotQ_sN hc hm]
  exact sN_congr fun i hi => by rw [col_get hi]; rfl
theorem acr_get {t : List (List Int)} {n j : Nat} (hj : j < n) : (acrossT t n).getD j [] = colL t j := by
  unfold acrossT
  rw [List.getD_eq_getElem?_getD, List.getElem?_map, List.getElem?_range hj]
  rfl
theorem mem_acr {t : List (List Int)} {n : Nat} {c : List Int} : c ∈ acrossT t n ↔ ∃ j, j < n ∧ c = colL t j := by
  unfold acrossT
  rw [List.mem_map]
  exact ⟨fun ⟨j, hj, e⟩ => ⟨j, List.mem_range.mp hj, e.symm⟩, fun ⟨j, hj, e⟩ => ⟨j, List.mem_range.mpr hj, e.symm⟩⟩
theorem mem_row {t : List (List Int)} {r : List Int} : r ∈ t ↔ ∃ i, i < t.length ∧ r = t.getD i [] := by
  constructor
  · intro h
    obtain ⟨i, e⟩ := List.getElem?_of_mem h
    have hi := (List.getElem?_eq_some_iff.mp e).1
    refine ⟨i, hi, ?_⟩
    rw [List.getD_eq_getElem?_getD, e]
    rfl
  · rintro ⟨i, hi, rfl⟩
    exact List.mem_of_getElem? (getD_of hi)
theorem entry_neg {t : List (List Int)} {n i j : Nat} (rect : Rect t n) (hi : i < t.length) (hj : j < n) : entry (negT t) i j = -(entry t i j) := by
  obtain ⟨g1, g2⟩ := rect.at hi hj
  have e : (negT t).getD i [] = (t.getD i []).map fun x => -x := by
    unfold negT
    rw [List.getD_eq_getElem?_getD, List.getElem?_map, g1]
    rfl
  show ((negT t).getD i []).getD j 0 = _
  rw [e, List.getD_eq_getElem?_getD, List.getElem?_map, g2]
  rfl
theorem eQ_neg {t : List (List Int)} {n i j : Nat} (rect : Rect t n) (hi : i < t.length) (hj : j < n) : eQ (negT t) i j = -(eQ t i j) := by
  unfold eQ
  rw [entry_neg rect hi hj, Rat.intCast_neg]
theorem qv_sign {x : Frc} (h : 0 < x.2) : (0 < qv x ↔ 0 < x.1) ∧ (0 ≤ x.1 → 0 ≤ qv x) := by
  have h2 := q0 h
  have hi := Rat.inv_pos.mpr h2
  unfold qv
  rw [Rat.div_def]
  constructor
  · constructor
    · intro z
      apply Classical.byContradiction
      intro w
      have a : (x.1 : Rat) ≤ 0 := by
        have := Rat.intCast_le_intCast.mpr (show x.1 ≤ 0 by omega)
        exact this
      have := Rat.mul_le_mul_of_nonneg_right a (Rat.le_of_lt hi)
      grind
    · intro z
      exact Rat.mul_pos (q0 z) hi
  · intro z
    exact Rat.mul_nonneg (Rat.intCast_le_intCast.mpr z) (Rat.le_of_lt hi)
theorem Mix.pos {ms : List Frc} {m : Nat} (h : Mix ms m) : ∀ x ∈ ms, 0 < x.2 := fun x hx => (h.sh x hx).2.1
theorem Mix.at {ms : List Frc} {m i : Nat} (h : Mix ms m) (hi : i < m) : ms.getD i (0, 1) ∈ ms := List.mem_of_getElem? (getD_of (by rw [h.len]; exact hi))
theorem Mix.wt {ms : List Frc} {m : Nat} (h : Mix ms m) : Wt m (xQ ms) := ⟨fun i hi => (qv_sign (h.pos _ (h.at hi))).2 (h.sh _ (h.at hi)).1, by
  have e := qv_total h.pos
  rw [h.tot, mapR (0, 1) qv ms, sum_range, h.len] at e
  have : qv (1, 1) = 1 := by unfold qv; grind
  rw [this] at e
  exact e.symm⟩
theorem Mix.share {ms : List Frc} {m i : Nat} (h : Mix ms m) (hi : i < m) : 0 < xQ ms i ↔ 0 < (ms.getD i (0, 1)).1 := (qv_sign (h.pos _ (h.at hi))).1
theorem bil_gotBy {t : List (List Int)} {n : Nat} {M N : List Frc} (h : Rect t n) (hM : Mix M t.length) (hN : Mix N n) : qv (gotBy t M N) = bilS (eQ t) t.length n (xQ M) (xQ N) := by
  rw [qv_gotBy hM.pos hN.pos, zipR (0, 1) [] hM.len, List.map_map, sum_range, hM.len]
  exact sN_congr fun i hi => by
    show qv _ * dotQ _ N = _
    rw [dot_row h hi hN.len]
    rfl
def SadT (t : List (List Int)) (n : Nat) (M N : List Frc) (v : Rat) : Prop := Sad (eQ t) t.length n (xQ M) (xQ N) v
/-- mixtures from which neither would turn, of a table and itself the other way round nought, show a number -/
theorem sad_settled {t : List (List Int)} {n : Nat} {M N : List Frc} (h : Rect t n) (ok : SettledOk t (negT t) n M N) : SadT t n M N (qv (gotBy t M N)) := by
  rw [bil_gotBy h ok.mm ok.mn]
  refine sad_of ok.mm.wt ok.mn.wt (fun i hi p k hk => ?_) (fun j hj p k hk => ?_)
  · have := ok.sm i hi ((ok.mm.share hi).mp p) _ (mem_row.mpr ⟨k, hk, rfl⟩)
    rw [dot_row h hk ok.mn.len, dot_row h hi ok.mn.len] at this
    exact this
  · have hl := neg_len t
    have := ok.sn j (by rw [across_len]; exact hj) ((ok.mn.share hj).mp p) _ (mem_acr.mpr ⟨k, hk, rfl⟩)
    rw [acr_get hj, dot_col (ok.mm.len.trans hl.symm), dot_col (ok.mm.len.trans hl.symm), hl] at this
    have e : ∀ c, c < n → (sN t.length fun i => eQ (negT t) i c * xQ M i) = -(sN t.length fun i => eQ t i c * xQ M i) := fun c hc => by
      rw [← sN_neg]
      exact sN_congr fun i hi => by rw [eQ_neg h hi hc]; grind
    rw [e k hk, e j hj] at this
    grind
theorem sadT_iff {t : List (List Int)} {n : Nat} {M N : List Frc} {v : Rat} (h : Rect t n) (hM : Mix M t.length) (hN : Mix N n) : SadT t n M N v ↔ (∀ c ∈ acrossT t n, v ≤ dotQ c M) ∧ (∀ r ∈ t, dotQ r N ≤ v) := by
  constructor
  · intro s
    constructor
    · intro c hc
      obtain ⟨j, hj, rfl⟩ := mem_acr.mp hc
      rw [dot_col hM.len]
      exact s.lo j hj
    · intro r hr
      obtain ⟨i, hi, rfl⟩ := mem_row.mp hr
      rw [dot_row h hi hN.len]
      exact s.up i hi
  · rintro ⟨a, b⟩
    exact ⟨hM.wt, hN.wt, fun i hi => by
      rw [← dot_row h hi hN.len]
      exact b _ (mem_row.mpr ⟨i, hi, rfl⟩), fun j hj => by
      rw [← dot_col hM.len]
      exact a _ (mem_acr.mpr ⟨j, hj, rfl⟩)⟩
/-- .. and the other way: such mixtures are ones from which neither would turn -/
theorem stays_sad {t : List (List Int)} {n : Nat} {M N : List Frc} {v : Rat} (h : Rect t n) (hM : Mix M t.length) (hN : Mix N n) (s : SadT t n M N v) : Stays t M N ∧ Stays (acrossT (negT t) n) N M := by
  constructor
  · intro i hi p r hr
    obtain ⟨k, hk, rfl⟩ := mem_row.mp hr
    rw [dot_row h hk hN.len, dot_row h hi hN.len, Sad.tight s hi ((hM.share hi).mpr p)]
    exact s.up k hk
  · intro j hj p c hc
    rw [across_len] at hj
    obtain ⟨k, hk, rfl⟩ := mem_acr.mp hc
    have hl := neg_len t
    rw [acr_get hj, dot_col (hM.len.trans hl.symm), dot_col (hM.len.trans hl.symm), hl]
    have e : ∀ c, c < n → (sN t.length fun i => eQ (negT t) i c * xQ M i) = -(sN t.length fun i => eQ t i c * xQ M i) := fun c hc => by
      rw [← sN_neg]
      exact sN_congr fun i hi => by rw [eQ_neg h hi hc]; grind
    rw [e k hk, e j hj, Sad.tightY s hj ((hN.share hj).mpr p)]
    have := s.lo k hk
    grind
/-! ### the answer's own word -/
def showsV (t : List (List Int)) (n : Nat) (v : Frc) (M N : List Frc) : Bool :=
  (mixOk t.length (encM M) && mixOk n (encM N)) && (!((acrossT t n).map fun c => belowF (rowGot c M) v).any id && !(t.map fun r => belowF v (rowGot r N)).any id)
theorem showsV_iff {t : List (List Int)} {n : Nat} {v : Frc} {M N : List Frc} (h : Rect t n) (hv : 0 < v.2) (pM : ∀ x ∈ M, 0 < x.2) (pN : ∀ x ∈ N, 0 < x.2) : showsV t n v M N = true ↔ Mix M t.length ∧ Mix N n ∧ SadT t n M N (qv v) := by
  unfold showsV
  rw [Bool.and_eq_true, Bool.and_eq_true, mixOk_M, mixOk_M, Bool.and_eq_true, Bool.not_eq_true', Bool.not_eq_true', List.any_eq_false, List.any_eq_false]
  have b1 : (∀ x ∈ (acrossT t n).map fun c => belowF (rowGot c M) v, ¬id x = true) ↔ ∀ c ∈ acrossT t n, qv v ≤ dotQ c M := by
    constructor
    · intro k c hc
      have := k _ (List.mem_map_of_mem (f := fun c => belowF (rowGot c M) v) hc)
      rw [id, below_qv (rowGot_cn pM).pos hv, decide_eq_true_eq, qv_rowGot pM] at this
      exact Rat.not_lt.mp this
    · intro k x hx
      obtain ⟨c, hc, rfl⟩ := List.mem_map.mp hx
      rw [id, below_qv (rowGot_cn pM).pos hv, decide_eq_true_eq, qv_rowGot pM]
      exact Rat.not_lt.mpr (k c hc)
  have b2 : (∀ x ∈ t.map fun r => belowF v (rowGot r N), ¬id x = true) ↔ ∀ r ∈ t, dotQ r N ≤ qv v := by
    constructor
    · intro k c hc
      have := k _ (List.mem_map_of_mem (f := fun r => belowF v (rowGot r N)) hc)
      rw [id, below_qv hv (rowGot_cn pN).pos, decide_eq_true_eq, qv_rowGot pN] at this
      exact Rat.not_lt.mp this
    · intro k x hx
      obtain ⟨c, hc, rfl⟩ := List.mem_map.mp hx
      rw [id, below_qv hv (rowGot_cn pN).pos, decide_eq_true_eq, qv_rowGot pN]
      exact Rat.not_lt.mpr (k c hc)
  rw [b1, b2]
  constructor
  · rintro ⟨⟨a, b⟩, c⟩
    exact ⟨a, b, (sadT_iff h a b).mpr c⟩
  · rintro ⟨a, b, c⟩
    exact ⟨⟨a, b⟩, (sadT_iff h a b).mp c⟩
/-- what solved hands back -/
def solvedV (t : List (List Int)) (n : Nat) : Frc := gotBy t (settledM t (negT t) n).1 (settledM t (negT t) n).2
theorem ok_neg {t : List (List Int)} {n : Nat} (h : TabW t n) : SettledOk t (negT t) n (settledM t (negT t) n).1 (settledM t (negT t) n).2 := settled_ok h (tab_neg h) (neg_len t).symm
theorem solvedV_sad {t : List (List Int)} {n : Nat} (h : TabW t n) : SadT t n (settledM t (negT t) n).1 (settledM t (negT t) n).2 (qv (solvedV t n)) := sad_settled h.toRect (ok_neg h)
theorem solvedV_cn {t : List (List Int)} {n : Nat} (h : TabW t n) : Cn (solvedV t n) := gotBy_cn (ok_neg h).mm.pos (ok_neg h).mn.pos
/-- there is just one such number -/
theorem solvedV_of {t : List (List Int)} {n : Nat} (h : TabW t n) {x y : Nat → Rat} {v : Rat} (s : Sad (eQ t) t.length n x y v) : qv (solvedV t n) = v := ((solvedV_sad h).both s).1
theorem solved_shows {t : List (List Int)} {n : Nat} (h : TabW t n) : showsV t n (solvedV t n) (settledM t (negT t) n).1 (settledM t (negT t) n).2 = true :=
  (showsV_iff h.toRect (solvedV_cn h).pos (ok_neg h).mm.pos (ok_neg h).mn.pos).mpr ⟨(ok_neg h).mm, (ok_neg h).mn, solvedV_sad h⟩
open PySem L2
/-! ### solved -/
def fieldsV (v : Frc) (M : List Frc × List Frc) : List (Str × Fl) := [(("value" : Str), Fl.im (encF v)), (("mine" : Str), Fl.ow (M.1.map encF)), (("theirs" : Str), Fl.ow (M.2.map encF))]
theorem nd_vmt : (["value", "mine", "theirs"] : List Str).Nodup := by decide +kernel
theorem gotBy_fb {t : List (List Int)} {mine theirs : List Frc} {n : Nat} (tab : TabW t n) (hm : ∀ y ∈ mine, Fb 200 y) (ht : ∀ y ∈ theirs, Fb 200 y) : Fb 4200 (gotBy t mine theirs) := by
  have rb : ∀ r ∈ t, Fb 837 (rowGot r theirs) := fun r hr => rowGot_fbW (tab.bd r hr) ht (by rw [tab.row r hr]; exact tab.c4)
  have hr4 := tab.r4
  have : Fb ((1038 + 1) * ((mine.zip t).map fun p => timesF p.1 (rowGot p.2 theirs)).length + 1) (gotBy t mine theirs) := totalF_fb fun x hx => by
    obtain ⟨p, hp, rfl⟩ := List.mem_map.mp hx
    have hp' := List.of_mem_zip (a := p.1) (b := p.2) hp
    exact (timesF_fb (hm _ hp'.1) (rb _ hp'.2)).mono (by decide)
  refine this.mono ?_
  rw [List.length_map, List.length_zip]
  have : (1038 + 1) * min mine.length t.length ≤ (1038 + 1) * 4 := Nat.mul_le_mul_left _ (by omega)
  omega
theorem fb_sm {n m : Nat} {x : Frc} (h : Fb n x) (e : n ≤ m) : Sm m x.1 ∧ Sm m x.2 := by
  have := h.mono e
  exact ⟨this.a, this.b⟩
theorem ok_fb {one other : List (List Int)} {n : Nat} {M N : List Frc} (ok : SettledOk one other n M N) : (∀ x ∈ M, Fb 200 x) ∧ ∀ x ∈ N, Fb 200 x := ⟨fun x hx => (ok.fm x hx).mono (by decide), fun x hx => (ok.fn x hx).mono (by decide)⟩

def RI_Solved : List PyData → List (Str × Fl) → Prop := fun ds fs => ∃ (x0 : PyData) (x1 : List PyData) (x2 : List PyData), ds = [x0, .list x1, .list x2] ∧ fs = ([(("value" : Str), Fl.im x0), (("mine" : Str), Fl.ow x1), (("theirs" : Str), Fl.ow x2)] : List (Str × Fl))
def t_Solved_init (K : PySem.W.Frag) : TS := (tSeq (sFld K (tVar 0) (tVar 1) "value")
    (tSeq (sFld K (tVar 0) (tCB (rListU K) (tCons (tVar 2) tNil)) "mine")
    (sFld K (tVar 0) (tCB (rListU K) (tCons (tVar 3) tNil)) "theirs")))
theorem RI_Solved_len {K : PySem.W.Frag} {C : Addr} {vs : List V} {H : Hp} {Q : VK} {E : XK} (h : spI K C RI_Solved vs H Q E) : vs.length = 4 := by
  obtain ⟨F, a, dx, args, ds, fs, _, rfl, _, _, al, ⟨x0, x1, x2, rfl, rfl⟩, _⟩ := h
  have := dpAll_len al
  show args.length + 1 = _
  rw [this]
  rfl
theorem i_Solved {K : PySem.W.Frag} {C : Addr} (O : ObC K C ["value", "mine", "theirs"]) {vs : List V} {H : Hp} {Q : VK} {E : XK} (h : spI K C RI_Solved vs H Q E) : t_Solved_init K { nx := fun _ H' => Q .non H', rt := Q } (L2.start ["self", "value", "mine", "theirs"] vs) H := by
  obtain ⟨F, a, dx, args, ds, fs, fh, rfl, ha, fa, al, ⟨x0, x1, x2, rfl, rfl⟩, k⟩ := h
  obtain ⟨w1, ws1, rfl, dv1, al⟩ := dpAll_cons' al
  obtain ⟨w2, ws2, rfl, dv2, al⟩ := dpAll_cons' al
  obtain ⟨w3, ws3, rfl, dv3, al⟩ := dpAll_cons' al
  obtain rfl := dpAll_nil' al
  have I0 := ini_start (K := K) (C := C) (dx := dx) fh fa ha
  refine ini_val I0 (j := 1) rfl rfl dv1 O.cl (O.na _ (by decide +kernel)) nf_nil (Nat.le_of_ble_eq_true rfl) (fun _ _ I1 => ?_)
  refine ini_list I1 (j := 2) rfl rfl dv2 O.cl (O.na _ (by decide +kernel)) (nf_cons (by decide +kernel) nf_nil) (Nat.le_of_ble_eq_true rfl) (fun _ _ _ I2 => ?_)
  refine ini_list I2 (j := 3) rfl rfl dv3 O.cl (O.na _ (by decide +kernel)) (nf_cons (by decide +kernel) (nf_cons (by decide +kernel) nf_nil)) (Nat.le_of_ble_eq_true rfl) (fun _ _ _ I3 => ?_)
  exact ini_end (dF := F) I3 k
def R_solved_by (cSolved : Addr) : List Sl → Out → Prop := fun ss o => ∃ (t : List (List Int)) (n : Nat), ss = [.im (encT t)] ∧ TabW t n ∧ o = .ret (.ob cSolved (fieldsV (solvedV t n) (settledM t (negT t) n)))
def t_solved_by (K : PySem.W.Frag) (cSolved : Addr) (cSettled : Addr) : TS := (tSeq (tAsg (tCall (spR K (R_settled_by cSettled)) [] E0 (tCons (tVar 0) (tCons (tCall (spR K R_negated) [] E0 (tCons (tVar 0) tNil)) tNil))) (gName 1))
    (tRet (tMake cSolved (spI K cSolved RI_Solved) [] E0 (tCons (tCall (spR K R_got_by) [] E0 (tCons (tVar 0) (tCons (tFld K (tVar 1) "mine") (tCons (tFld K (tVar 1) "theirs") tNil)))) (tCons (tFld K (tVar 1) "mine") (tCons (tFld K (tVar 1) "theirs") tNil))))))
theorem len_solved_by {cSolved : Addr} {ss : List Sl} {o : Out} (h : R_solved_by cSolved ss o) : ss.length = 1 := by
  first | (obtain ⟨_, rfl, _⟩ := h; rfl) | (obtain ⟨_, _, rfl, _⟩ := h; rfl) | (obtain ⟨_, _, _, rfl, _⟩ := h; rfl) | (obtain ⟨_, _, _, _, rfl, _⟩ := h; rfl) | (obtain ⟨_, _, _, _, _, rfl, _⟩ := h; rfl) | (obtain ⟨_, _, _, _, _, _, rfl, _⟩ := h; rfl)
theorem b_solved_by {K : PySem.W.Frag} {E : XK} {cSolved : Addr} {cSettled : Addr} (OS : ObC K cSettled ["mine", "theirs"]) (ss : List Sl) (o : Out) (h : R_solved_by cSolved ss o) : St K E (t_solved_by K cSolved cSettled) (params ["table", "found"] ss) { nx := fun _ => o = .ret (.im .none), rt := fun s => o = .ret s, ex := fun c => o = .exc c } := by
  obtain ⟨t, n, rfl, tab, rfl⟩ := h
  have nt := tab_neg tab
  have ok := ok_neg tab
  unfold solvedV
  obtain ⟨M, N, hMN⟩ : ∃ M N, settledM t (negT t) n = (M, N) := ⟨_, _, rfl⟩
  rw [hMN] at ok ⊢
  dsimp only at ok ⊢
  obtain ⟨fM, fN⟩ := ok_fb ok
  have fld : ∀ (G : Env) (d e : PyData), G[1]? = some (.ob cSettled [(("mine" : Str), Fl.im d), (("theirs" : Str), Fl.im e)]) → Ev K (tFld K (tVar 1) "mine") G d ∧ Ev K (tFld K (tVar 1) "theirs") G e := fun G d e h => ⟨ev_fld h OS.cl (OS.na _ (by decide +kernel)) lk_here, ev_fld h OS.cl (OS.na _ (by decide +kernel)) ((lk_past (by decide +kernel)).trans lk_here)⟩
  refine st_seq (st_asg (s := .ob cSettled (quiet (fieldsS (M, N)))) (EvS.freezeO rfl (ev_call (ss := [.im (encT t), .im (encT (negT t))]) (ea_im (ev_var rfl) (ea_im (ev_call (ss := [.im (encT t)]) (ea_im (ev_var rfl) ea_nil) ⟨_, _, rfl, tab.toRect, .inr rfl⟩) ea_nil)) ⟨_, _, _, rfl, tab, nt, (neg_len t).symm, by rw [hMN]⟩)) ?_)
  show St K E _ [.im (encT t), .ob cSettled [(("mine" : Str), Fl.im (encM M)), (("theirs" : Str), Fl.im (encM N))]] _
  refine st_ret (s := .ob cSolved (fieldsV (gotBy t M N) (M, N))) (ev_make (ds := [encF (gotBy t M N), encM M, encM N]) ?_ ⟨_, _, _, rfl, rfl⟩) rfl
  exact ea_im (ev_call (ss := [.im (encT t), .im (encM M), .im (encM N)]) (ea_im (ev_var rfl) (ea_im (fld _ _ _ rfl).1 (ea_im (fld _ _ _ rfl).2 ea_nil))) ⟨_, _, _, _, rfl, tab, fM, fN, rfl⟩) (ea_im (fld _ _ _ rfl).1 (ea_im (fld _ _ _ rfl).2 ea_nil))

def R_solved (cBadTable cSolved : Addr) : List Sl → Out → Prop := fun ss o => ∃ d : PyData, ss = [.im d] ∧ ((tabOk d = false ∧ o = .exc cBadTable) ∨ ∃ t n, d = encT t ∧ Tab t n ∧ o = .ret (.ob cSolved (fieldsV (solvedV t n) (settledM t (negT t) n))))
def t_solved (K : PySem.W.Frag) (cBadTable : Addr) (cSolved : Addr) (E : XK) : TS := (tSeq (tDrop (tCall (spR K (R_asked_table cBadTable)) [] E (tCons (tVar 0) tNil)))
    (tRet (tCall (spR K (R_solved_by cSolved)) [] E0 (tCons (tVar 0) tNil))))
theorem len_solved {cBadTable : Addr} {cSolved : Addr} {ss : List Sl} {o : Out} (h : R_solved cBadTable cSolved ss o) : ss.length = 1 := by
  first | (obtain ⟨_, rfl, _⟩ := h; rfl) | (obtain ⟨_, _, rfl, _⟩ := h; rfl) | (obtain ⟨_, _, _, rfl, _⟩ := h; rfl) | (obtain ⟨_, _, _, _, rfl, _⟩ := h; rfl) | (obtain ⟨_, _, _, _, _, rfl, _⟩ := h; rfl) | (obtain ⟨_, _, _, _, _, _, rfl, _⟩ := h; rfl)
theorem b_solved {K : PySem.W.Frag} {E : XK} {cBadTable : Addr} {cSolved : Addr} (ss : List Sl) (o : Out) (h : R_solved cBadTable cSolved ss o) : St K E (t_solved K cBadTable cSolved E) (params ["table"] ss) { nx := fun _ => o = .ret (.im .none), rt := fun s => o = .ret s, ex := fun c => o = .exc c } := by
  obtain ⟨d, rfl, ⟨hb, rfl⟩ | ⟨t, n, rfl, tab, rfl⟩⟩ := h
  · exact st_seq (st_callX (ss := [.im d]) (c := cBadTable) (by walk_at "ev") ⟨d, rfl, by rw [hb]; rfl⟩ rfl)
  refine st_seq (st_drop (s := .im .none) (by walk_at "ev"; exact ⟨_, rfl, by rw [tab_tabOk tab]; rfl⟩) ?_)
  exact st_ret (ev_call (ss := [.im (encT t)]) (by walk_at "ev") ⟨_, _, rfl, tab.w, rfl⟩) rfl

def R_Solved_shows (cSolved : Addr) : List Sl → Out → Prop := fun ss o => ∃ (t : List (List Int)) (n : Nat) (v : Frc) (mine theirs : List Frc), ss = [.ob cSolved [("value", .im (encF v)), ("mine", .im (encM mine)), ("theirs", .im (encM theirs))], .im (encT t)] ∧ Tab t n ∧ (∀ x ∈ mine, Fb 200 x) ∧ (∀ x ∈ theirs, Fb 200 x) ∧ mine.length ≤ 16 ∧ theirs.length ≤ 16 ∧ Cn v ∧ Fb 5000 v ∧ o = .ret (.im (.bool (showsV t n v mine theirs)))
def t_Solved_shows (K : PySem.W.Frag) : TS := (tSeq (tIfS (tOr (tNot (tB (tCall (spR K R_is_mixture) [] E0 (tCons (tFld K (tVar 0) "mine") (tCons (tCB (rLenU K) (tCons (tVar 1) tNil)) tNil))))) (tNot (tB (tCall (spR K R_is_mixture) [] E0 (tCons (tFld K (tVar 0) "theirs") (tCons (tCB (rLenU K) (tCons (tOp (rIx K) (tVar 1) (tC (.int 0))) tNil)) tNil)))))) (tRet (tC (.bl false))) tNext)
    (tSeq (tIfS (tB (tCB (rAny K) (tCons (tLc (iList K (tCall (spR K R_across) [] E0 (tCons (tVar 1) tNil))) (gName 2) tYes (tCall (spR K R_below) [] E0 (tCons (tCall (spR K R_row_got) [] E0 (tCons (tVar 2) (tCons (tFld K (tVar 0) "mine") tNil))) (tCons (tFld K (tVar 0) "value") tNil))) [2]) tNil))) (tRet (tC (.bl false))) tNext)
    (tRet (tNotV (tCB (rAny K) (tCons (tLc (iList K (tVar 1)) (gName 3) tYes (tCall (spR K R_below) [] E0 (tCons (tFld K (tVar 0) "value") (tCons (tCall (spR K R_row_got) [] E0 (tCons (tVar 3) (tCons (tFld K (tVar 0) "theirs") tNil))) tNil))) [3]) tNil))))))
theorem len_Solved_shows {cSolved : Addr} {ss : List Sl} {o : Out} (h : R_Solved_shows cSolved ss o) : ss.length = 2 := by
  first | (obtain ⟨_, rfl, _⟩ := h; rfl) | (obtain ⟨_, _, rfl, _⟩ := h; rfl) | (obtain ⟨_, _, _, rfl, _⟩ := h; rfl) | (obtain ⟨_, _, _, _, rfl, _⟩ := h; rfl) | (obtain ⟨_, _, _, _, _, rfl, _⟩ := h; rfl) | (obtain ⟨_, _, _, _, _, _, rfl, _⟩ := h; rfl)
theorem b_Solved_shows {K : PySem.W.Frag} {E : XK} {cSolved : Addr} (O : ObC K cSolved ["value", "mine", "theirs"]) (ss : List Sl) (o : Out) (h : R_Solved_shows cSolved ss o) : St K E (t_Solved_shows K) (params ["self", "table", "column", "row"] ss) { nx := fun _ => o = .ret (.im .none), rt := fun s => o = .ret s, ex := fun c => o = .exc c } := by
  obtain ⟨t, n, v, mine, theirs, rfl, tab, fm, ft, lm, lt, cv, fv, rfl⟩ := h
  have OV := O
  have h4 := tab.r4
  have hc4 := tab.c4
  obtain ⟨r0, t', et, hr0⟩ := tab.head
  have e0 : t[0]? = some r0 := by rw [et]; rfl
  have tx := across_tab tab
  have xl := across_len t n
  have fldv : ∀ {G : Env}, G[0]? = some (.ob cSolved [("value", .im (encF v)), ("mine", .im (encM mine)), ("theirs", .im (encM theirs))]) → Ev K (tFld K (tVar 0) "value") G (encF v) := fun {G} h => ev_fld h OV.cl (OV.na _ (by decide +kernel)) lk_here
  have fldm : ∀ {G : Env}, G[0]? = some (.ob cSolved [("value", .im (encF v)), ("mine", .im (encM mine)), ("theirs", .im (encM theirs))]) → Ev K (tFld K (tVar 0) "mine") G (encM mine) := fun {G} h => ev_fld h OV.cl (OV.na _ (by decide +kernel)) ((lk_past (by decide +kernel)).trans lk_here)
  have fldt : ∀ {G : Env}, G[0]? = some (.ob cSolved [("value", .im (encF v)), ("mine", .im (encM mine)), ("theirs", .im (encM theirs))]) → Ev K (tFld K (tVar 0) "theirs") G (encM theirs) := fun {G} h => ev_fld h OV.cl (OV.na _ (by decide +kernel)) ((lk_past (by decide +kernel)).trans ((lk_past (by decide +kernel)).trans lk_here))
  have head0 : ∀ {G : Env} {i : Nat}, G[i]? = some (.im (encT t)) → Ev K (tCB (rLenU K) (tCons (tOp (rIx K) (tVar i) (tC (.int 0))) tNil)) G (.int (n : Nat)) := fun {G i} h => by
    rw [← hr0]
    exact ev_lenD (EvS.h (ev_ix (a := encT t) (ev_var h) (EvS.h (ev_c (.int 0))) (item_T (j := 0) e0))) len_R
  have hm1 : EvB K ((tOr (tNot (tB (tCall (spR K R_is_mixture) [] E0 (tCons (tFld K (tVar 0) "mine") (tCons (tCB (rLenU K) (tCons (tVar 1) tNil)) tNil))))) (tNot (tB (tCall (spR K R_is_mixture) [] E0 (tCons (tFld K (tVar 0) "theirs") (tCons (tCB (rLenU K) (tCons (tOp (rIx K) (tVar 1) (tC (.int 0))) tNil)) tNil))))))) [.ob cSolved [("value", .im (encF v)), ("mine", .im (encM mine)), ("theirs", .im (encM theirs))], .im (encT t), .no, .no] (!mixOk t.length (encM mine) || !mixOk n (encM theirs)) :=
    eb_orN (eb_not (eb_B (EvS.h (ev_call (ss := [.im (encM mine), .im (.int (t.length : Nat))]) (ea_im (fldm rfl) (ea_im (ev_lenD (EvS.h (ev_var rfl)) len_T) ea_nil)) ⟨_, _, rfl, by omega, mixsz fm lm, rfl⟩)))) (eb_not (eb_B (EvS.h (ev_call (ss := [.im (encM theirs), .im (.int (n : Nat))]) (ea_im (fldt rfl) (ea_im (head0 rfl) ea_nil)) ⟨_, _, rfl, by omega, mixsz ft lt, rfl⟩))))
  have e1 : Ev K ((tCB (rAny K) (tCons (tLc (iList K (tCall (spR K R_across) [] E0 (tCons (tVar 1) tNil))) (gName 2) tYes (tCall (spR K R_below) [] E0 (tCons (tCall (spR K R_row_got) [] E0 (tCons (tVar 2) (tCons (tFld K (tVar 0) "mine") tNil))) (tCons (tFld K (tVar 0) "value") tNil))) [2]) tNil))) [.ob cSolved [("value", .im (encF v)), ("mine", .im (encM mine)), ("theirs", .im (encM theirs))], .im (encT t), .no, .no] (.bool (((acrossT t n).map fun c => belowF (rowGot c mine) v).any id)) := by
    refine ev_any (EvS.h (EvS.freeze (EvS.to (ev_lc1 (xs := acrossT t n) (enc := encR) (vs := [2]) (ei_list (ev_call (ss := [.im (encT t)]) (ea_im (ev_var rfl) ea_nil) ⟨_, _, rfl, tab.toRect, .inr rfl⟩)) (fun c => .bool (belowF (rowGot c mine) v)) (fun c => [.ob cSolved [("value", .im (encF v)), ("mine", .im (encM mine)), ("theirs", .im (encM theirs))], .im (encT t), .im (encR c), .no]) (fun c _ => tg_name (by decide)) (fun c hc => ?_) (by omega)) (by rw [List.map_map]; rfl))))
    have rb : Fb 833 (rowGot c mine) := rowGot_fb (tx.bd c hc) fm (by rw [tx.row c hc]; exact h4)
    exact ev_call (ss := [.im (encF (rowGot c mine)), .im (encF v)]) (ea_im (ev_call (ss := [.im (encR c), .im (encM mine)]) (ea_im (ev_var rfl) (ea_im (fldm rfl) ea_nil)) ⟨_, _, rfl, wide_of (tx.bd c hc), fun y hy => (fm y hy).mono (by decide), by rw [tx.row c hc]; omega, rfl⟩) (ea_im (fldv rfl) ea_nil)) ⟨_, _, rfl, ⟨(fb_sm (rb) (by decide)).1, (fb_sm (rb) (by decide)).2, (fb_sm (fv) (by decide)).1, (fb_sm (fv) (by decide)).2⟩, rfl⟩
  have e2 : Ev K ((tCB (rAny K) (tCons (tLc (iList K (tVar 1)) (gName 3) tYes (tCall (spR K R_below) [] E0 (tCons (tFld K (tVar 0) "value") (tCons (tCall (spR K R_row_got) [] E0 (tCons (tVar 3) (tCons (tFld K (tVar 0) "theirs") tNil))) tNil))) [3]) tNil))) [.ob cSolved [("value", .im (encF v)), ("mine", .im (encM mine)), ("theirs", .im (encM theirs))], .im (encT t), .no, .no] (.bool ((t.map fun r => belowF v (rowGot r theirs)).any id)) := by
    refine ev_any (EvS.h (EvS.freeze (EvS.to (ev_lc1 (xs := t) (enc := encR) (vs := [3]) (ei_list (ev_var rfl)) (fun c => .bool (belowF v (rowGot c theirs))) (fun c => [.ob cSolved [("value", .im (encF v)), ("mine", .im (encM mine)), ("theirs", .im (encM theirs))], .im (encT t), .no, .im (encR c)]) (fun c _ => tg_name (by decide)) (fun c hc => ?_) (by omega)) (by rw [List.map_map]; rfl))))
    have rb : Fb 833 (rowGot c theirs) := rowGot_fb (tab.bd c hc) ft (by rw [tab.row c hc]; exact hc4)
    exact ev_call (ss := [.im (encF v), .im (encF (rowGot c theirs))]) (ea_im (fldv rfl) (ea_im (ev_call (ss := [.im (encR c), .im (encM theirs)]) (ea_im (ev_var rfl) (ea_im (fldt rfl) ea_nil)) ⟨_, _, rfl, wide_of (tab.bd c hc), fun y hy => (ft y hy).mono (by decide), by rw [tab.row c hc]; omega, rfl⟩) ea_nil)) ⟨_, _, rfl, ⟨(fb_sm (fv) (by decide)).1, (fb_sm (fv) (by decide)).2, (fb_sm (rb) (by decide)).1, (fb_sm (rb) (by decide)).2⟩, rfl⟩
  unfold showsV
  cases hmix : (mixOk t.length (encM mine) && mixOk n (encM theirs)) with
  | false => exact st_seq (st_if (b := true) (hm1.to (by rw [← Bool.not_and, hmix]; rfl)) (fun _ => st_ret (s := .im (.bool false)) (by walk_at "ev") rfl) (fun z => nomatch z))
  | true =>
    refine st_seq (st_if (b := false) (hm1.to (by rw [← Bool.not_and, hmix]; rfl)) (fun z => nomatch z) (fun _ => st_next ?_))
    cases hany : ((acrossT t n).map fun c => belowF (rowGot c mine) v).any id with
    | true =>
      rw [hany] at e1
      exact st_seq (st_if (eb_B (EvS.h e1)) (fun _ => st_ret (s := .im (.bool false)) (by walk_at "ev") rfl) (fun z => nomatch z))
    | false =>
      rw [hany] at e1
      exact st_seq (st_if (eb_B (EvS.h e1)) (fun z => nomatch z) (fun _ => st_next (st_ret (s := .im (.bool (!(t.map fun r => belowF v (rowGot r theirs)).any id))) (ev_notV (EvS.h e2)) rfl)))

def R_law_solved (cSolved : Addr) : List Sl → Out → Prop := fun ss o => ∃ (t : List (List Int)) (n : Nat) (v : Frc) (mine theirs : List Frc), ss = [.im (encT t), .ob cSolved [("value", .im (encF v)), ("mine", .im (encM mine)), ("theirs", .im (encM theirs))]] ∧ Tab t n ∧ (∀ x ∈ mine, Fb 200 x) ∧ (∀ x ∈ theirs, Fb 200 x) ∧ mine.length ≤ 16 ∧ theirs.length ≤ 16 ∧ Cn v ∧ Fb 5000 v ∧ o = .ret (.im (.bool (showsV t n v mine theirs)))
def t_law_solved (K : PySem.W.Frag) : TS := (tSeq (tIfS (tOr (tNot (tB (tCall (spR K R_law_mixture) [] E0 (tCons (tFld K (tVar 1) "mine") (tCons (tCB (rLenU K) (tCons (tVar 0) tNil)) tNil))))) (tNot (tB (tCall (spR K R_law_mixture) [] E0 (tCons (tFld K (tVar 1) "theirs") (tCons (tCB (rLenU K) (tCons (tOp (rIx K) (tVar 0) (tC (.int 0))) tNil)) tNil)))))) (tRet (tC (.bl false))) tNext)
    (tSeq (tIfS (tOr (tNot (tB (tCB (rIsi K) (tCons (tFld K (tVar 1) "value") (tCons (tC (.ty "tuple")) tNil))))) (tOr (tTest (tOp (rNeD K) (tCB (rLenU K) (tCons (tFld K (tVar 1) "value") tNil)) (tC (.int 2)))) (tTest (tOp (rI0 fun i j => .bl (decide (i < j))) (tOp (rIx K) (tFld K (tVar 1) "value") (tC (.int 1))) (tC (.int 1)))))) (tRet (tC (.bl false))) tNext)
    (tSeq (tIfS (tTest (tOp (rNeD K) (tCall (spR K R_law_made) [] E0 (tCons (tOp (rIx K) (tFld K (tVar 1) "value") (tC (.int 0))) (tCons (tOp (rIx K) (tFld K (tVar 1) "value") (tC (.int 1))) tNil))) (tFld K (tVar 1) "value"))) (tRet (tC (.bl false))) tNext)
    (tSeq (tIfS (tB (tCB (rAny K) (tCons (tLc (iList K (tCall (spR K R_law_across) [] E0 (tCons (tVar 0) tNil))) (gName 2) tYes (tCall (spR K R_law_less) [] E0 (tCons (tCall (spR K R_law_sum) [] E0 (tCons (tVar 2) (tCons (tFld K (tVar 1) "mine") tNil))) (tCons (tFld K (tVar 1) "value") tNil))) [2]) tNil))) (tRet (tC (.bl false))) tNext)
    (tRet (tNotV (tCB (rAny K) (tCons (tLc (iList K (tVar 0)) (gName 3) tYes (tCall (spR K R_law_less) [] E0 (tCons (tFld K (tVar 1) "value") (tCons (tCall (spR K R_law_sum) [] E0 (tCons (tVar 3) (tCons (tFld K (tVar 1) "theirs") tNil))) tNil))) [3]) tNil))))))))
theorem len_law_solved {cSolved : Addr} {ss : List Sl} {o : Out} (h : R_law_solved cSolved ss o) : ss.length = 2 := by
  first | (obtain ⟨_, rfl, _⟩ := h; rfl) | (obtain ⟨_, _, rfl, _⟩ := h; rfl) | (obtain ⟨_, _, _, rfl, _⟩ := h; rfl) | (obtain ⟨_, _, _, _, rfl, _⟩ := h; rfl) | (obtain ⟨_, _, _, _, _, rfl, _⟩ := h; rfl) | (obtain ⟨_, _, _, _, _, _, rfl, _⟩ := h; rfl)
theorem b_law_solved {K : PySem.W.Frag} {E : XK} {cSolved : Addr} (OV : ObC K cSolved ["value", "mine", "theirs"]) (ss : List Sl) (o : Out) (h : R_law_solved cSolved ss o) : St K E (t_law_solved K) (params ["_law_table_here", "_law_found", "_law_column", "_law_row"] ss) { nx := fun _ => o = .ret (.im .none), rt := fun s => o = .ret s, ex := fun c => o = .exc c } := by
  obtain ⟨t, n, v, mine, theirs, rfl, tab, fm, ft, lm, lt, cv, fv, rfl⟩ := h
  have h4 := tab.r4
  have hc4 := tab.c4
  obtain ⟨r0, t', et, hr0⟩ := tab.head
  have e0 : t[0]? = some r0 := by rw [et]; rfl
  have tx := across_tab tab
  have xl := across_len t n
  have fldv : ∀ {G : Env}, G[1]? = some (.ob cSolved [("value", .im (encF v)), ("mine", .im (encM mine)), ("theirs", .im (encM theirs))]) → Ev K (tFld K (tVar 1) "value") G (encF v) := fun {G} h => ev_fld h OV.cl (OV.na _ (by decide +kernel)) lk_here
  have fldm : ∀ {G : Env}, G[1]? = some (.ob cSolved [("value", .im (encF v)), ("mine", .im (encM mine)), ("theirs", .im (encM theirs))]) → Ev K (tFld K (tVar 1) "mine") G (encM mine) := fun {G} h => ev_fld h OV.cl (OV.na _ (by decide +kernel)) ((lk_past (by decide +kernel)).trans lk_here)
  have fldt : ∀ {G : Env}, G[1]? = some (.ob cSolved [("value", .im (encF v)), ("mine", .im (encM mine)), ("theirs", .im (encM theirs))]) → Ev K (tFld K (tVar 1) "theirs") G (encM theirs) := fun {G} h => ev_fld h OV.cl (OV.na _ (by decide +kernel)) ((lk_past (by decide +kernel)).trans ((lk_past (by decide +kernel)).trans lk_here))
  have head0 : ∀ {G : Env} {i : Nat}, G[i]? = some (.im (encT t)) → Ev K (tCB (rLenU K) (tCons (tOp (rIx K) (tVar i) (tC (.int 0))) tNil)) G (.int (n : Nat)) := fun {G i} h => by
    rw [← hr0]
    exact ev_lenD (EvS.h (ev_ix (a := encT t) (ev_var h) (EvS.h (ev_c (.int 0))) (item_T (j := 0) e0))) len_R
  have hm1 : EvB K ((tOr (tNot (tB (tCall (spR K R_law_mixture) [] E0 (tCons (tFld K (tVar 1) "mine") (tCons (tCB (rLenU K) (tCons (tVar 0) tNil)) tNil))))) (tNot (tB (tCall (spR K R_law_mixture) [] E0 (tCons (tFld K (tVar 1) "theirs") (tCons (tCB (rLenU K) (tCons (tOp (rIx K) (tVar 0) (tC (.int 0))) tNil)) tNil))))))) [.im (encT t), .ob cSolved [("value", .im (encF v)), ("mine", .im (encM mine)), ("theirs", .im (encM theirs))], .no, .no] (!mixOk t.length (encM mine) || !mixOk n (encM theirs)) :=
    eb_orN (eb_not (eb_B (EvS.h (ev_call (ss := [.im (encM mine), .im (.int (t.length : Nat))]) (ea_im (fldm rfl) (ea_im (ev_lenD (EvS.h (ev_var rfl)) len_T) ea_nil)) ⟨_, _, rfl, fm, lm, rfl⟩)))) (eb_not (eb_B (EvS.h (ev_call (ss := [.im (encM theirs), .im (.int (n : Nat))]) (ea_im (fldt rfl) (ea_im (head0 rfl) ea_nil)) ⟨_, _, rfl, ft, lt, rfl⟩))))
  have e1 : Ev K ((tCB (rAny K) (tCons (tLc (iList K (tCall (spR K R_law_across) [] E0 (tCons (tVar 0) tNil))) (gName 2) tYes (tCall (spR K R_law_less) [] E0 (tCons (tCall (spR K R_law_sum) [] E0 (tCons (tVar 2) (tCons (tFld K (tVar 1) "mine") tNil))) (tCons (tFld K (tVar 1) "value") tNil))) [2]) tNil))) [.im (encT t), .ob cSolved [("value", .im (encF v)), ("mine", .im (encM mine)), ("theirs", .im (encM theirs))], .no, .no] (.bool (((acrossT t n).map fun c => belowF (rowGot c mine) v).any id)) := by
    refine ev_any (EvS.h (EvS.freeze (EvS.to (ev_lc1 (xs := acrossT t n) (enc := encR) (vs := [2]) (ei_list (ev_call (ss := [.im (encT t)]) (ea_im (ev_var rfl) ea_nil) ⟨_, _, rfl, tab.toRect, rfl⟩)) (fun c => .bool (belowF (rowGot c mine) v)) (fun c => [.im (encT t), .ob cSolved [("value", .im (encF v)), ("mine", .im (encM mine)), ("theirs", .im (encM theirs))], .im (encR c), .no]) (fun c _ => tg_name (by decide)) (fun c hc => ?_) (by omega)) (by rw [List.map_map]; rfl))))
    have rb : Fb 833 (rowGot c mine) := rowGot_fb (tx.bd c hc) fm (by rw [tx.row c hc]; exact h4)
    exact ev_call (ss := [.im (encF (rowGot c mine)), .im (encF v)]) (ea_im (ev_call (ss := [.im (encR c), .im (encM mine)]) (ea_im (ev_var rfl) (ea_im (fldm rfl) ea_nil)) ⟨_, _, 200, rfl, tx.bd c hc, fm, by rw [tx.row c hc]; omega, rfl⟩) (ea_im (fldv rfl) ea_nil)) ⟨_, _, rfl, (rb).mono (by decide), (fv).mono (by decide), rfl⟩
  have e2 : Ev K ((tCB (rAny K) (tCons (tLc (iList K (tVar 0)) (gName 3) tYes (tCall (spR K R_law_less) [] E0 (tCons (tFld K (tVar 1) "value") (tCons (tCall (spR K R_law_sum) [] E0 (tCons (tVar 3) (tCons (tFld K (tVar 1) "theirs") tNil))) tNil))) [3]) tNil))) [.im (encT t), .ob cSolved [("value", .im (encF v)), ("mine", .im (encM mine)), ("theirs", .im (encM theirs))], .no, .no] (.bool ((t.map fun r => belowF v (rowGot r theirs)).any id)) := by
    refine ev_any (EvS.h (EvS.freeze (EvS.to (ev_lc1 (xs := t) (enc := encR) (vs := [3]) (ei_list (ev_var rfl)) (fun c => .bool (belowF v (rowGot c theirs))) (fun c => [.im (encT t), .ob cSolved [("value", .im (encF v)), ("mine", .im (encM mine)), ("theirs", .im (encM theirs))], .no, .im (encR c)]) (fun c _ => tg_name (by decide)) (fun c hc => ?_) (by omega)) (by rw [List.map_map]; rfl))))
    have rb : Fb 833 (rowGot c theirs) := rowGot_fb (tab.bd c hc) ft (by rw [tab.row c hc]; exact hc4)
    exact ev_call (ss := [.im (encF v), .im (encF (rowGot c theirs))]) (ea_im (fldv rfl) (ea_im (ev_call (ss := [.im (encR c), .im (encM theirs)]) (ea_im (ev_var rfl) (ea_im (fldt rfl) ea_nil)) ⟨_, _, 200, rfl, tab.bd c hc, ft, by rw [tab.row c hc]; omega, rfl⟩) ea_nil)) ⟨_, _, rfl, (fv).mono (by decide), (rb).mono (by decide), rfl⟩
  unfold showsV
  cases hmix : (mixOk t.length (encM mine) && mixOk n (encM theirs)) with
  | false => exact st_seq (st_if (b := true) (hm1.to (by rw [← Bool.not_and, hmix]; rfl)) (fun _ => st_ret (s := .im (.bool false)) (by walk_at "ev") rfl) (fun z => nomatch z))
  | true =>
    refine st_seq (st_if (b := false) (hm1.to (by rw [← Bool.not_and, hmix]; rfl)) (fun z => nomatch z) (fun _ => st_next ?_))
    have v2 := cv.pos
    refine st_seq (st_if (b := false) (EvB.to (a := !true || (!(PyData.eqv (.int (2 : Nat)) (.int 2)) || decide (v.2 < 1))) (eb_orN (eb_not (eb_B (EvS.h (ev_isi (EvS.h (fldv rfl)) rfl)))) (eb_orN (eb_test (EvS.h (ev_neD (EvS.h (ev_lenD (EvS.h (fldv rfl)) len_F)) (EvS.h (ev_c (.int 2))) (shaped_of lay_int (by decide)) (shaped_of lay_int (by decide))))) (eb_test (EvS.h (ev_I0 (EvS.h (ev_ix (fldv rfl) (EvS.h (ev_c (.int 1))) item_F1)) (EvS.h (ev_c (.int 1))) (.bl _)))))) (by rw [eqv_int, decide_eq_false (show ¬ v.2 < 1 by omega)]; rfl)) (fun z => nomatch z) (fun _ => st_next ?_))
    refine st_seq (st_if (b := false) (EvB.to (a := !(PyData.eqv (encF v) (encF v))) (eb_test (EvS.h (ev_neD (EvS.h (Ev.to (ev_call (ss := [.im (.int v.1), .im (.int v.2)]) (ea_im (ev_ix (fldv rfl) (EvS.h (ev_c (.int 0))) item_F0) (ea_im (ev_ix (fldv rfl) (EvS.h (ev_c (.int 1))) item_F1) ea_nil)) ⟨_, _, rfl, v2, (fb_sm fv (by decide)).2, rfl⟩) (by rw [cn_mk cv]))) (EvS.h (fldv rfl)) (shaped_of lay_F (by decide)) (shaped_of lay_F (by decide))))) (by rw [eqv_F]; simp)) (fun z => nomatch z) (fun _ => st_next ?_))
    cases hany : ((acrossT t n).map fun c => belowF (rowGot c mine) v).any id with
    | true =>
      rw [hany] at e1
      exact st_seq (st_if (eb_B (EvS.h e1)) (fun _ => st_ret (s := .im (.bool false)) (by walk_at "ev") rfl) (fun z => nomatch z))
    | false =>
      rw [hany] at e1
      exact st_seq (st_if (eb_B (EvS.h e1)) (fun z => nomatch z) (fun _ => st_next (st_ret (s := .im (.bool (!(t.map fun r => belowF v (rowGot r theirs)).any id))) (ev_notV (EvS.h e2)) rfl)))
/-! ### tables told from the last, tables turned: what they are worth -/
def revT (t : List (List Int)) : List (List Int) := t.reverse.map List.reverse
theorem revT_len (t : List (List Int)) : (revT t).length = t.length := by unfold revT; rw [List.length_map, List.length_reverse]
theorem revT_rect {t : List (List Int)} {n : Nat} (h : Rect t n) : Rect (revT t) n := ⟨by rw [revT_len]; exact h.r1, by rw [revT_len]; exact h.r4, h.c1, h.c4, fun r hr => by
  obtain ⟨y, hy, rfl⟩ := List.mem_map.mp hr
  rw [List.length_reverse]
  exact h.row y (List.mem_reverse.mp hy)⟩
theorem revT_tab {t : List (List Int)} {n : Nat} (h : Tab t n) : Tab (revT t) n := ⟨revT_rect h.toRect, fun r hr x hx => by
  obtain ⟨y, hy, rfl⟩ := List.mem_map.mp hr
  exact h.bd y (List.mem_reverse.mp hy) x (List.mem_reverse.mp hx)⟩
theorem getD_rev {α : Type} {xs : List α} {d : α} {i : Nat} (h : i < xs.length) : xs.reverse.getD i d = xs.getD (xs.length - 1 - i) d := by
  rw [List.getD_eq_getElem?_getD, List.getElem?_reverse h, List.getD_eq_getElem?_getD]
theorem entry_rev {t : List (List Int)} {n i j : Nat} (h : Rect t n) (hi : i < t.length) (hj : j < n) : entry (revT t) i j = entry t (t.length - 1 - i) (n - 1 - j) := by
  have hr := h.get (getD_of (d := []) (show t.length - 1 - i < t.length by omega))
  have e : (revT t).getD i [] = (t.getD (t.length - 1 - i) []).reverse := by
    unfold revT
    rw [List.getD_eq_getElem?_getD, List.getElem?_map, List.getElem?_reverse hi, getD_of (d := []) (show t.length - 1 - i < t.length by omega)]
    rfl
  unfold entry
  rw [e, getD_rev (by rw [hr]; exact hj), hr]
theorem eQ_rev {t : List (List Int)} {n i j : Nat} (h : Rect t n) (hi : i < t.length) (hj : j < n) : eQ (revT t) i j = eQ t (t.length - 1 - i) (n - 1 - j) := by
  unfold eQ
  rw [entry_rev h hi hj]
theorem xQ_rev {ms : List Frc} {i : Nat} (h : i < ms.length) : xQ ms.reverse i = xQ ms (ms.length - 1 - i) := by
  unfold xQ
  rw [getD_rev h]
theorem mix_mk {ms : List Frc} {m : Nat} (hl : ms.length = m) (hs : ∀ x ∈ ms, Shr x) (h1 : sN m (xQ ms) = 1) : Mix ms m := ⟨hl, hs, cn_ext (total_cn fun x hx => (hs x hx).2.1) ⟨by decide, by decide⟩ (by
  rw [qv_total fun x hx => (hs x hx).2.1, mapR (0, 1) qv ms, sum_range, hl]
  refine h1.trans ?_
  unfold qv
  grind)⟩
theorem Mix.rev {ms : List Frc} {m : Nat} (h : Mix ms m) : Mix ms.reverse m := mix_mk (by rw [List.length_reverse]; exact h.len) (fun x hx => h.sh x (List.mem_reverse.mp hx)) (by
  rw [sN_congr (g := fun i => xQ ms (m - 1 - i)) fun i hi => by rw [xQ_rev (by rw [h.len]; exact hi), h.len], sN_rev]
  exact h.wt.one)
/-- .. told from the last -/
theorem SadT.rev {t : List (List Int)} {n : Nat} {M N : List Frc} {v : Rat} (h : Rect t n) (hM : M.length = t.length) (hN : N.length = n) (s : SadT (revT t) n M N v) : SadT t n M.reverse N.reverse v := by
  have s1 : Sad (eQ (revT t)) t.length n (xQ M) (xQ N) v := by
    have := s
    unfold SadT at this
    rw [revT_len] at this
    exact this
  refine (s1.rev.congr fun i j hi hj => ?_).congrX (fun i hi => ?_) (fun j hj => ?_)
  · rw [eQ_rev h (by omega) (by omega)]
    congr 1 <;> omega
  · rw [xQ_rev (by omega), hM]
  · rw [xQ_rev (by omega), hN]
theorem entry_acr {t : List (List Int)} {n i j : Nat} (hi : i < t.length) (hj : j < n) : entry (acrossT t n) j i = entry t i j := by
  show ((acrossT t n).getD j []).getD i 0 = _
  rw [acr_get hj, col_get hi]
theorem turnT_tab {t : List (List Int)} {n : Nat} (h : Tab t n) : Tab (turnT t n) t.length := by
  have a := across_tab h
  exact ⟨negT_rect a.toRect, fun r hr x hx => by
    obtain ⟨y, hy, rfl⟩ := List.mem_map.mp hr
    obtain ⟨z, hz, rfl⟩ := List.mem_map.mp hx
    have := a.bd y hy z hz
    omega⟩
theorem turnT_len (t : List (List Int)) (n : Nat) : (turnT t n).length = n := by unfold turnT; rw [neg_len, across_len]
theorem eQ_turn {t : List (List Int)} {n i j : Nat} (h : Rect t n) (hi : i < t.length) (hj : j < n) : eQ (turnT t n) j i = -(eQ t i j) := by
  unfold turnT
  rw [eQ_neg (acrossT_rect h) (by rw [across_len]; exact hj) hi]
  unfold eQ
  rw [entry_acr hi hj]
/-- .. and turned -/
theorem SadT.turn {t : List (List Int)} {n : Nat} {M N : List Frc} {v : Rat} (h : Rect t n) (s : SadT (turnT t n) t.length M N v) : SadT t n N M (-v) := by
  have s1 : Sad (eQ (turnT t n)) n t.length (xQ M) (xQ N) v := by
    have := s
    unfold SadT at this
    rw [turnT_len] at this
    exact this
  refine Sad.congr (Sad.turn s1) fun i j hi hj => ?_
  rw [eQ_turn h hi hj]
  grind
/-- of any two such pairs the one's mixture and the other's are such again, with the same number -/
theorem exchange {t : List (List Int)} {n : Nat} {M1 N1 M2 N2 : List Frc} {v1 v2 : Rat} (h : Rect t n) (s1 : SadT t n M1 N1 v1) (s2 : SadT t n M2 N2 v2) (m1 : Mix M1 t.length) (n2 : Mix N2 n) (f1 : ∀ x ∈ M1, Fb 64 x) (f2 : ∀ x ∈ N2, Fb 64 x) : SettledOk t (negT t) n M1 N2 ∧ v1 = v2 ∧ qv (gotBy t M1 N2) = v1 := by
  obtain ⟨e, s⟩ := Sad.both s1 s2
  obtain ⟨a, b⟩ := stays_sad h m1 n2 s
  exact ⟨⟨m1, n2, f1, f2, a, b⟩, e, by rw [bil_gotBy h m1 n2]; exact Sad.bil s⟩
open PySem L2
/-! ### rows that are beaten: plain -/
def othersL (m i : Nat) : List Nat := (List.range m).filter fun k => !decide (k = i)
def othI (i k : Nat) : Nat := if k < i then k else k + 1
theorem othersL_eq (i : Nat) : ∀ m, i ≤ m → othersL (m + 1) i = (List.range m).map (othI i)
  | 0, h => by
    have : i = 0 := by omega
    subst this
    rfl
  | m + 1, h => by
    unfold othersL
    rw [List.range_succ, List.filter_append]
    by_cases hi : i = m + 1
    · subst hi
      have e : ((List.range (m + 1)).filter fun k => !decide (k = m + 1)) = List.range (m + 1) := List.filter_eq_self.mpr fun k hk => by
        have := List.mem_range.mp hk
        rw [decide_eq_false (by omega)]
        rfl
      have e2 : ([m + 1].filter fun k => !decide (k = m + 1)) = [] := by simp
      rw [e, e2, List.append_nil]
      have e3 : (List.range (m + 1)).map (othI (m + 1)) = (List.range (m + 1)).map id := List.map_congr_left fun k hk => by
        have := List.mem_range.mp hk
        unfold othI
        rw [if_pos this]
        rfl
      rw [e3, List.map_id]
    · have ih := othersL_eq i m (by omega)
      unfold othersL at ih
      have e2 : ([m + 1].filter fun k => !decide (k = i)) = [m + 1] := by
        have : decide (m + 1 = i) = false := decide_eq_false (by omega)
        simp [this]
      rw [ih, e2, List.range_succ (n := m), List.map_append]
      have : othI i m = m + 1 := by unfold othI; rw [if_neg (by omega)]
      rw [List.map_singleton, this]
def subR (a b : List Int) : List Int := (a.zip b).map fun p => p.1 - p.2
def diffT (t : List (List Int)) (i : Nat) : List (List Int) := (othersL t.length i).map fun k => subR (t.getD k []) (t.getD i [])
def insM (M : List Frc) (i : Nat) : List Frc := M.take i ++ [(0, 1)] ++ M.drop i
def aloneB (r : List Int) : List Frc := [(1, 1)] ++ (r.drop 1).map fun _ => (0, 1)
/-- what beaten_by hands back: whether it is beaten, and the mixture -/
def beatenP (t : List (List Int)) (n i : Nat) : Bool × List Frc :=
  if t.length = 1 then (false, aloneB (t.getD 0 [])) else
    if (solvedV (diffT t i) n).1 ≤ 0 then (false, (settledM (diffT t i) (negT (diffT t i)) n).2) else (true, insM (settledM (diffT t i) (negT (diffT t i)) n).1 i)
def beatsB (t : List (List Int)) (n i : Nat) (M : List Frc) : Bool :=
  (mixOk t.length (encM M) && !decide (0 < (M.getD i (0, 1)).1)) && ((acrossT t n).map fun c => belowF (c.getD i 0, 1) (rowGot c M)).all id
def answersB (t : List (List Int)) (n i : Nat) (N : List Frc) : Bool := mixOk n (encM N) && (bestR t N).contains i
theorem subR_len {a b : List Int} {n : Nat} (h : a.length = n) (h2 : b.length = n) : (subR a b).length = n := by unfold subR; rw [List.length_map, List.length_zip]; omega
theorem subR_get {a b : List Int} {n j : Nat} (h : a.length = n) (h2 : b.length = n) (hj : j < n) : (subR a b).getD j 0 = a.getD j 0 - b.getD j 0 := by
  unfold subR
  rw [zipR 0 0 (h.trans h2.symm), List.map_map, List.getD_eq_getElem?_getD, List.getElem?_map, List.getElem?_range (by omega)]
  rfl
theorem diffT_len {t : List (List Int)} {i : Nat} (hi : i < t.length) : (diffT t i).length = t.length - 1 := by
  unfold diffT
  obtain ⟨m, hm⟩ : ∃ m, t.length = m + 1 := ⟨t.length - 1, by omega⟩
  rw [hm, List.length_map, othersL_eq i m (by omega), List.length_map, List.length_range]
  omega
theorem diffT_get {t : List (List Int)} {i k : Nat} (hi : i < t.length) (hk : k < t.length - 1) : (diffT t i).getD k [] = subR (t.getD (othI i k) []) (t.getD i []) := by
  unfold diffT
  obtain ⟨m, hm⟩ : ∃ m, t.length = m + 1 := ⟨t.length - 1, by omega⟩
  rw [hm, othersL_eq i m (by omega), List.map_map, List.getD_eq_getElem?_getD, List.getElem?_map, List.getElem?_range (by omega)]
  rfl
theorem oth_lt {i k m : Nat} (hk : k < m - 1) : othI i k < m := by unfold othI; split <;> omega
theorem diffT_tab {t : List (List Int)} {n i : Nat} (h : Tab t n) (hi : i < t.length) (h2 : t.length ≠ 1) : TabW (diffT t i) n := by
  have hl := diffT_len hi
  have rows : ∀ r ∈ diffT t i, r.length = n ∧ ∀ x ∈ r, -200 ≤ x ∧ x ≤ 200 := fun r hr => by
    obtain ⟨k, hk, rfl⟩ := mem_row.mp hr
    rw [hl] at hk
    rw [diffT_get hi hk]
    have ra : t.getD (othI i k) [] ∈ t := List.mem_of_getElem? (getD_of (oth_lt hk))
    have rb : t.getD i [] ∈ t := List.mem_of_getElem? (getD_of hi)
    refine ⟨subR_len (h.row _ ra) (h.row _ rb), fun x hx => ?_⟩
    obtain ⟨p, hp, rfl⟩ := List.mem_map.mp hx
    have hp' := List.of_mem_zip (a := p.1) (b := p.2) hp
    have := h.bd _ ra _ hp'.1
    have := h.bd _ rb _ hp'.2
    omega
  have := h.r4
  exact ⟨⟨by omega, by omega, h.c1, h.c4, fun r hr => (rows r hr).1⟩, fun r hr => (rows r hr).2⟩
theorem eQ_diff {t : List (List Int)} {n i k j : Nat} (h : Rect t n) (hi : i < t.length) (hk : k < t.length - 1) (hj : j < n) : eQ (diffT t i) k j = eQ t (othI i k) j - eQ t i j := by
  have ra : t.getD (othI i k) [] ∈ t := List.mem_of_getElem? (getD_of (oth_lt hk))
  have rb : t.getD i [] ∈ t := List.mem_of_getElem? (getD_of hi)
  unfold eQ entry
  rw [diffT_get hi hk, subR_get (h.row _ ra) (h.row _ rb) hj, Rat.intCast_sub]
theorem sN_skip (f : Nat → Rat) (i : Nat) : ∀ m, i ≤ m → sN (m + 1) f = f i + sN m (fun k => f (othI i k))
  | 0, h => by
    have : i = 0 := by omega
    subst this
    show (0 : Rat) + f 0 = f 0 + 0
    grind
  | m + 1, h => by
    by_cases hi : i = m + 1
    · subst hi
      show sN (m + 1) f + f (m + 1) = _
      rw [sN_congr (f := fun k => f (othI (m + 1) k)) (g := f) fun k hk => by unfold othI; rw [if_pos hk]]
      grind
    · show sN (m + 1) f + f (m + 1) = f i + (sN m (fun k => f (othI i k)) + f (othI i m))
      rw [sN_skip f i m (by omega)]
      have : othI i m = m + 1 := by unfold othI; rw [if_neg (by omega)]
      rw [this]
      grind
theorem insM_len {M : List Frc} {i m : Nat} (hM : M.length = m) (hi : i ≤ m) : (insM M i).length = m + 1 := by
  unfold insM
  rw [List.length_append, List.length_append, List.length_take, List.length_drop]
  show min i M.length + 1 + (M.length - i) = m + 1
  omega
theorem insM_here {M : List Frc} {i m : Nat} (hM : M.length = m) (hi : i ≤ m) : (insM M i).getD i (0, 1) = (0, 1) := by
  unfold insM
  rw [List.getD_eq_getElem?_getD, List.append_assoc, List.getElem?_append_right (by rw [List.length_take]; omega), List.length_take]
  have : i - min i M.length = 0 := by omega
  rw [this]
  rfl
theorem insM_else {M : List Frc} {i m k : Nat} (hM : M.length = m) (hi : i ≤ m) (hk : k < m) : (insM M i).getD (othI i k) (0, 1) = M.getD k (0, 1) := by
  unfold insM othI
  by_cases h : k < i
  · rw [if_pos h, List.getD_eq_getElem?_getD, List.append_assoc, List.getElem?_append_left (by rw [List.length_take]; omega), List.getElem?_take_of_lt h, List.getD_eq_getElem?_getD]
  · rw [if_neg h, List.getD_eq_getElem?_getD, List.append_assoc, List.getElem?_append_right (by rw [List.length_take]; omega), List.length_take]
    have : k + 1 - min i M.length = (k - i) + 1 := by omega
    rw [this, List.singleton_append, List.getElem?_cons_succ, List.getElem?_drop, List.getD_eq_getElem?_getD]
    congr 2
    omega
theorem insM_mem {M : List Frc} {i : Nat} {x : Frc} (h : x ∈ insM M i) : x ∈ M ∨ x = (0, 1) := by
  unfold insM at h
  rcases List.mem_append.mp h with h | h
  · rcases List.mem_append.mp h with h | h
    · exact .inl (List.mem_of_mem_take h)
    · rcases List.mem_cons.mp h with rfl | h
      · exact .inr rfl
      · cases h
  · exact .inl (List.mem_of_mem_drop h)
theorem shr01 : Shr (0, 1) := ⟨by decide, by decide, by decide⟩
theorem fb01 (n : Nat) : Fb n (0, 1) ↔ 0 < n := by
  constructor
  · intro h
    have : (1 : Int).natAbs < 2 ^ n := h.b
    cases n with
    | zero => exact absurd this (by decide)
    | succ n => omega
  · intro h
    have : 2 ^ 1 ≤ 2 ^ n := Nat.pow_le_pow_right (by decide) h
    exact ⟨by decide, (show (0 : Int).natAbs < 2 ^ n by show 0 < _; omega), (show (1 : Int).natAbs < 2 ^ n by show 1 < _; omega)⟩
theorem insM_mix {M : List Frc} {i m : Nat} (h : Mix M m) (hi : i ≤ m) : Mix (insM M i) (m + 1) := mix_mk (insM_len h.len hi) (fun x hx => (insM_mem hx).elim (h.sh x) fun z => by rw [z]; exact shr01) (by
  rw [sN_skip _ i m hi]
  have e0 : xQ (insM M i) i = 0 := by unfold xQ; rw [insM_here h.len hi]; unfold qv; grind
  rw [e0, sN_congr (g := xQ M) fun k hk => by show qv _ = qv _; rw [insM_else h.len hi hk], h.wt.one]
  grind)
theorem best_mem {t : List (List Int)} {ms : List Frc} {i : Nat} (pos : ∀ x ∈ ms, 0 < x.2) (hi : i < t.length) (h : ∀ r ∈ t, dotQ r ms ≤ dotQ (t.getD i []) ms) : (bestR t ms).contains i = true := by
  have hl : (toldF t ms).length = t.length := List.length_map _
  have ht : (toldF t ms).getD i (0, 1) = rowGot (t.getD i []) ms := by
    unfold toldF
    rw [List.getD_eq_getElem?_getD, List.getElem?_map, getD_of (d := []) hi]
    rfl
  rw [List.contains_iff_mem]
  unfold bestR
  rw [List.mem_filter, List.mem_range, decide_eq_true_eq, best_iff pos hi]
  refine ⟨hi, fun x hx => ?_⟩
  obtain ⟨r, hr, rfl⟩ := List.mem_map.mp hx
  rw [ht, qv_rowGot pos, qv_rowGot pos]
  exact h r hr
theorem aloneB_mix {r : List Int} {n : Nat} (h : r.length = n) (hn : 1 ≤ n) : Mix (aloneB r) n := by
  have hl : (aloneB r).length = n := by
    unfold aloneB
    rw [List.length_append, List.length_map, List.length_drop]
    show 1 + (r.length - 1) = n
    omega
  refine mix_mk hl (fun x hx => ?_) ?_
  · unfold aloneB at hx
    rcases List.mem_append.mp hx with h | h
    · rcases List.mem_cons.mp h with rfl | h
      · exact ⟨by decide, by decide, by decide⟩
      · cases h
    · obtain ⟨_, _, rfl⟩ := List.mem_map.mp h
      exact shr01
  · refine sN_one (c := 0) hn (fun k hk k0 => ?_) ?_
    · unfold xQ aloneB
      cases k with
      | zero => exact absurd rfl k0
      | succ k =>
        rw [List.singleton_append, List.getD_cons_succ, List.getD_eq_getElem?_getD, List.getElem?_map, List.getElem?_eq_getElem (by rw [List.length_drop]; omega)]
        show qv (0, 1) = 0
        unfold qv
        grind
    · show qv (1, 1) = 1
      unfold qv
      grind
theorem aloneB_fb {r : List Int} : ∀ x ∈ aloneB r, Fb 64 x := fun x hx => by
  unfold aloneB at hx
  rcases List.mem_append.mp hx with h | h
  · rcases List.mem_cons.mp h with rfl | h
    · exact ⟨by decide, (show (1 : Int).natAbs < 2 ^ 64 by decide), (show (1 : Int).natAbs < 2 ^ 64 by decide)⟩
    · cases h
  · obtain ⟨_, _, rfl⟩ := List.mem_map.mp h
    exact (fb01 64).mpr (by decide)
/-- what is told of a row is so -/
structure BeatenOk (t : List (List Int)) (n i : Nat) (p : Bool × List Frc) : Prop where
  fb : ∀ x ∈ p.2, Fb 64 x
  ln : p.2.length ≤ 4
  beats : p.1 = true → Mix p.2 t.length ∧ (p.2.getD i (0, 1)).1 = 0 ∧ ∀ j, j < n → ((entry t i j : Int) : Rat) < dotQ (colL t j) p.2
  best : p.1 = false → Mix p.2 n ∧ ∀ r ∈ t, dotQ r p.2 ≤ dotQ (t.getD i []) p.2
theorem beaten_ok {t : List (List Int)} {n i : Nat} (h : Tab t n) (hi : i < t.length) : BeatenOk t n i (beatenP t n i) := by
  unfold beatenP
  have t4 := h.r4
  have c4 := h.c4
  by_cases h1 : t.length = 1
  · rw [if_pos h1]
    have hr := h.row _ (List.mem_of_getElem? (getD_of (d := []) (show 0 < t.length by omega)))
    have m := aloneB_mix hr h.c1
    refine ⟨aloneB_fb, (by show (aloneB _).length ≤ 4; rw [m.len]; exact c4), (fun z => nomatch z), fun _ => ⟨m, fun r hr => ?_⟩⟩
    obtain ⟨k, hk, rfl⟩ := mem_row.mp hr
    have : k = i := by omega
    rw [this]
    exact Rat.le_refl
  · rw [if_neg h1]
    have tabD := diffT_tab h hi h1
    have ok := ok_neg tabD
    have sd := solvedV_sad tabD
    have cv := solvedV_cn tabD
    have hl := diffT_len hi
    obtain ⟨m, hm⟩ : ∃ m, t.length = m + 1 := ⟨t.length - 1, by omega⟩
    have hlm : (diffT t i).length = m := by omega
    have mm := ok.mm
    have s1 := sd
    unfold SadT at s1
    rw [hlm] at mm s1
    have fm := ok.fm
    have fn := ok.fn
    have mn := ok.mn
    generalize (settledM (diffT t i) (negT (diffT t i)) n).1 = M at *
    generalize (settledM (diffT t i) (negT (diffT t i)) n).2 = N at *
    generalize solvedV (diffT t i) n = v at *
    by_cases hv : v.1 ≤ 0
    · rw [if_pos hv]
      refine ⟨fn, (by show N.length ≤ 4; rw [mn.len]; exact c4), (fun z => nomatch z), fun _ => ⟨mn, fun r hr => ?_⟩⟩
      have v0 : qv v ≤ 0 := by
        have := (qv_sign cv.pos).1
        apply Classical.byContradiction
        intro z
        have : 0 < v.1 := this.mp (by grind)
        omega
      obtain ⟨k, hk, rfl⟩ := mem_row.mp hr
      by_cases hki : k = i
      · rw [hki]; exact Rat.le_refl
      · obtain ⟨k', hk', rfl⟩ : ∃ k', k' < m ∧ othI i k' = k := by
          by_cases z : k < i
          · exact ⟨k, by omega, by unfold othI; rw [if_pos z]⟩
          · exact ⟨k - 1, by omega, by unfold othI; rw [if_neg (by omega)]; omega⟩
        have := s1.up k' hk'
        rw [sN_congr (g := fun j => eQ t (othI i k') j * xQ N j + -(eQ t i j * xQ N j)) fun j hj => by rw [eQ_diff h.toRect hi (by omega) hj]; grind, sN_add (fun j => eQ t (othI i k') j * xQ N j), sN_neg] at this
        show dotQ _ N ≤ dotQ _ N
        rw [dot_row h.toRect hk mn.len, dot_row h.toRect hi mn.len]
        grind
    · rw [if_neg hv]
      have mi := insM_mix mm (show i ≤ m by omega)
      refine ⟨fun x hx => (insM_mem hx).elim (fm x) fun z => by rw [z]; exact (fb01 64).mpr (by decide), (by show (insM M i).length ≤ 4; rw [mi.len]; omega), fun _ => ⟨by rw [hm]; exact mi, ?_, fun j hj => ?_⟩, (fun z => nomatch z)⟩
      · show ((insM M i).getD i (0, 1)).1 = 0
        rw [insM_here mm.len (by omega)]
      · have v0 : 0 < qv v := (qv_sign cv.pos).1.mpr (by omega)
        have := s1.lo j hj
        rw [sN_congr (g := fun k => eQ t (othI i k) j * xQ M k + -(eQ t i j * xQ M k)) fun k hk => by rw [eQ_diff h.toRect hi (by omega) hj]; grind, sN_add (fun k => eQ t (othI i k) j * xQ M k), sN_neg, sN_mul, mm.wt.one] at this
        show _ < dotQ (colL t j) (insM M i)
        rw [dot_col (by rw [mi.len, hm]), hm, sN_skip _ i m (by omega)]
        have e0 : xQ (insM M i) i = 0 := by unfold xQ; rw [insM_here mm.len (by omega)]; unfold qv; grind
        rw [e0, sN_congr (f := fun k => eQ t (othI i k) j * xQ (insM M i) (othI i k)) (g := fun k => eQ t (othI i k) j * xQ M k) fun k hk => by
          have : xQ (insM M i) (othI i k) = xQ M k := by show qv _ = qv _; rw [insM_else mm.len (by omega) hk]
          rw [this]]
        show eQ t i j < _
        grind
theorem beats_of {t : List (List Int)} {n i : Nat} {M : List Frc} (h : Rect t n) (hi : i < t.length) (hM : Mix M t.length) (h0 : (M.getD i (0, 1)).1 = 0) (hb : ∀ j, j < n → ((entry t i j : Int) : Rat) < dotQ (colL t j) M) : beatsB t n i M = true := by
  unfold beatsB
  rw [(mixOk_M _ _).mpr hM, h0, decide_eq_false (by decide), Bool.true_and, Bool.not_false, Bool.true_and, List.all_eq_true]
  intro x hx
  obtain ⟨c, hc, rfl⟩ := List.mem_map.mp hx
  obtain ⟨j, hj, rfl⟩ := mem_acr.mp hc
  have e : qv ((colL t j).getD i 0, 1) = ((entry t i j : Int) : Rat) := by
    rw [col_get hi]
    unfold qv
    show ((entry t i j : Int) : Rat) / ((1 : Int) : Rat) = _
    grind
  rw [id, below_qv (show (0 : Int) < 1 by decide) (rowGot_cn hM.pos).pos, decide_eq_true_eq, e, qv_rowGot hM.pos]
  exact hb j hj
theorem answers_of {t : List (List Int)} {n i : Nat} {N : List Frc} (hi : i < t.length) (hN : Mix N n) (hb : ∀ r ∈ t, dotQ r N ≤ dotQ (t.getD i []) N) : answersB t n i N = true := by
  unfold answersB
  rw [(mixOk_M _ _).mpr hN, best_mem hN.pos hi hb]
  rfl
open PySem L2
/-- one reading or the other one -/
def tEith (a b : TE) : TE := fun σ H Q => a σ H Q ∨ b σ H Q
theorem pe_eith {X : Cx} {e : Expr} {ta tb : TE} (ha : PE X e ta) (hb : PE X e tb) : PE X e (tEith ta tb) := ⟨fun pins s σ H Q I h => h.elim (ha.run pins s σ H Q I) (hb.run pins s σ H Q I)⟩
section
variable {K : PySem.W.Frag} {G : Env} {ta tb : TE}
theorem ev_left {s : Sl} (h : EvS K ta G s) : EvS K (tEith ta tb) G s := fun F lab σ H r Q q => .inl (h F lab σ H r Q q)
theorem ev_right {s : Sl} (h : EvS K tb G s) : EvS K (tEith ta tb) G s := fun F lab σ H r Q q => .inr (h F lab σ H r Q q)
end
open PySem L2
/-! ### rows that are beaten: the program's words -/
def fieldsX (M : List Frc) : List (Str × Fl) := [(("mixture" : Str), Fl.ow (M.map encF))]
theorem nd_x : (["mixture"] : List Str).Nodup := by decide +kernel
theorem cutD_takeG {α : Type} (f : α → PyData) (l : List α) {k : Nat} (h : k ≤ l.length) : cutD (l.map f) none (some (k : Int)) = (l.take k).map f := by
  unfold cutD
  rw [List.length_map, HT.sIx_nat, HT.sIx_none, Nat.min_eq_left h, List.drop_zero, Nat.sub_zero, ← List.map_take]
theorem fb_one {x : Int} (h : -200 ≤ x ∧ x ≤ 200) : Fb 100000 ((x, 1) : Frc) := (fb_w h).mono (by decide)
theorem all_mix {ms : List Frc} (h : ∀ x ∈ ms, Fb 64 x) : ∀ x ∈ ms, Fb 200 x := fun x hx => (h x hx).mono (by decide)

def RI_Beaten : List PyData → List (Str × Fl) → Prop := fun ds fs => ∃ (x0 : List PyData), ds = [.list x0] ∧ fs = ([(("mixture" : Str), Fl.ow x0)] : List (Str × Fl))
def t_Beaten_init (K : PySem.W.Frag) : TS := (sFld K (tVar 0) (tCB (rListU K) (tCons (tVar 1) tNil)) "mixture")
theorem RI_Beaten_len {K : PySem.W.Frag} {C : Addr} {vs : List V} {H : Hp} {Q : VK} {E : XK} (h : spI K C RI_Beaten vs H Q E) : vs.length = 2 := by
  obtain ⟨F, a, dx, args, ds, fs, _, rfl, _, _, al, ⟨x0, rfl, rfl⟩, _⟩ := h
  have := dpAll_len al
  show args.length + 1 = _
  rw [this]
  rfl
theorem i_Beaten {K : PySem.W.Frag} {C : Addr} (O : ObC K C ["mixture"]) {vs : List V} {H : Hp} {Q : VK} {E : XK} (h : spI K C RI_Beaten vs H Q E) : t_Beaten_init K { nx := fun _ H' => Q .non H', rt := Q } (L2.start ["self", "mixture"] vs) H := by
  obtain ⟨F, a, dx, args, ds, fs, fh, rfl, ha, fa, al, ⟨x0, rfl, rfl⟩, k⟩ := h
  obtain ⟨w1, ws1, rfl, dv1, al⟩ := dpAll_cons' al
  obtain rfl := dpAll_nil' al
  have I0 := ini_start (K := K) (C := C) (dx := dx) fh fa ha
  refine ini_list I0 (j := 1) rfl rfl dv1 O.cl (O.na _ (by decide +kernel)) nf_nil (Nat.le_of_ble_eq_true rfl) (fun _ _ _ I1 => ?_)
  exact ini_end (dF := F) I1 k
def RI_Best : List PyData → List (Str × Fl) → Prop := fun ds fs => ∃ (x0 : List PyData), ds = [.list x0] ∧ fs = ([(("mixture" : Str), Fl.ow x0)] : List (Str × Fl))
def t_Best_init (K : PySem.W.Frag) : TS := (sFld K (tVar 0) (tCB (rListU K) (tCons (tVar 1) tNil)) "mixture")
theorem RI_Best_len {K : PySem.W.Frag} {C : Addr} {vs : List V} {H : Hp} {Q : VK} {E : XK} (h : spI K C RI_Best vs H Q E) : vs.length = 2 := by
  obtain ⟨F, a, dx, args, ds, fs, _, rfl, _, _, al, ⟨x0, rfl, rfl⟩, _⟩ := h
  have := dpAll_len al
  show args.length + 1 = _
  rw [this]
  rfl
theorem i_Best {K : PySem.W.Frag} {C : Addr} (O : ObC K C ["mixture"]) {vs : List V} {H : Hp} {Q : VK} {E : XK} (h : spI K C RI_Best vs H Q E) : t_Best_init K { nx := fun _ H' => Q .non H', rt := Q } (L2.start ["self", "mixture"] vs) H := by
  obtain ⟨F, a, dx, args, ds, fs, fh, rfl, ha, fa, al, ⟨x0, rfl, rfl⟩, k⟩ := h
  obtain ⟨w1, ws1, rfl, dv1, al⟩ := dpAll_cons' al
  obtain rfl := dpAll_nil' al
  have I0 := ini_start (K := K) (C := C) (dx := dx) fh fa ha
  refine ini_list I0 (j := 1) rfl rfl dv1 O.cl (O.na _ (by decide +kernel)) nf_nil (Nat.le_of_ble_eq_true rfl) (fun _ _ _ I1 => ?_)
  exact ini_end (dF := F) I1 k
def R_Beaten_shows (cBeaten : Addr) : List Sl → Out → Prop := fun ss o => ∃ (t : List (List Int)) (n i : Nat) (ms : List Frc), ss = [.ob cBeaten [("mixture", .im (encM ms))], .im (encT t), .im (.int (i : Nat))] ∧ Tab t n ∧ i < t.length ∧ (∀ x ∈ ms, Fb 200 x) ∧ ms.length ≤ 16 ∧ o = .ret (.im (.bool (beatsB t n i ms)))
def t_Beaten_shows (K : PySem.W.Frag) : TS := (tSeq (tIfS (tOr (tNot (tB (tCall (spR K R_is_mixture) [] E0 (tCons (tFld K (tVar 0) "mixture") (tCons (tCB (rLenU K) (tCons (tVar 1) tNil)) tNil))))) (tTest (tOp (rI0 fun i j => .bl (decide (j < i))) (tOp (rIx K) (tOp (rIx K) (tFld K (tVar 0) "mixture") (tVar 2)) (tC (.int 0))) (tC (.int 0))))) (tRet (tC (.bl false))) tNext)
    (tRet (tCB (rAll K) (tCons (tLc (iList K (tCall (spR K R_across) [] E0 (tCons (tVar 1) tNil))) (gName 3) tYes (tCall (spR K R_below) [] E0 (tCons (tTup (tCons (tOp (rIx K) (tVar 3) (tVar 2)) (tCons (tC (.int 1)) tNil))) (tCons (tCall (spR K R_row_got) [] E0 (tCons (tVar 3) (tCons (tFld K (tVar 0) "mixture") tNil))) tNil))) [3]) tNil))))
theorem len_Beaten_shows {cBeaten : Addr} {ss : List Sl} {o : Out} (h : R_Beaten_shows cBeaten ss o) : ss.length = 3 := by
  first | (obtain ⟨_, rfl, _⟩ := h; rfl) | (obtain ⟨_, _, rfl, _⟩ := h; rfl) | (obtain ⟨_, _, _, rfl, _⟩ := h; rfl) | (obtain ⟨_, _, _, _, rfl, _⟩ := h; rfl) | (obtain ⟨_, _, _, _, _, rfl, _⟩ := h; rfl) | (obtain ⟨_, _, _, _, _, _, rfl, _⟩ := h; rfl)
theorem b_Beaten_shows {K : PySem.W.Frag} {E : XK} {cBeaten : Addr} (O : ObC K cBeaten ["mixture"]) (ss : List Sl) (o : Out) (h : R_Beaten_shows cBeaten ss o) : St K E (t_Beaten_shows K) (params ["self", "table", "row", "column"] ss) { nx := fun _ => o = .ret (.im .none), rt := fun s => o = .ret s, ex := fun c => o = .exc c } := by
  obtain ⟨t, n, i, ms, rfl, tab, hi, fm, lm, rfl⟩ := h
  have h4 := tab.r4
  have hc4 := tab.c4
  obtain ⟨r0, t', et, hr0⟩ := tab.head
  have e0 : t[0]? = some r0 := by rw [et]; rfl
  have tx := across_tab tab
  have xl := across_len t n
  have gi : t[i]? = some (t.getD i []) := getD_of hi
  have fld : ∀ {G : Env}, G[0]? = some (.ob cBeaten [("mixture", .im (encM ms))]) → Ev K (tFld K (tVar 0) "mixture") G (encM ms) := fun {G} h => ev_fld h O.cl (O.na _ (by decide +kernel)) lk_here
  have tst : EvB K ((tOr (tNot (tB (tCall (spR K R_is_mixture) [] E0 (tCons (tFld K (tVar 0) "mixture") (tCons (tCB (rLenU K) (tCons (tVar 1) tNil)) tNil))))) (tTest (tOp (rI0 fun i j => .bl (decide (j < i))) (tOp (rIx K) (tOp (rIx K) (tFld K (tVar 0) "mixture") (tVar 2)) (tC (.int 0))) (tC (.int 0)))))) [.ob cBeaten [("mixture", .im (encM ms))], .im (encT t), .im (.int (i : Nat)), .no] (!mixOk t.length (encM ms) || decide (0 < (ms.getD i (0, 1)).1)) := by
    refine eb_or (eb_not (eb_B (EvS.h (ev_call (ss := [.im (encM ms), .im (.int (t.length : Nat))]) (ea_im (fld rfl) (ea_im (ev_lenD (EvS.h (ev_var rfl)) len_T) ea_nil)) ⟨_, _, rfl, by omega, mixsz fm lm, rfl⟩)))) (fun z => by
      have hM := (mixOk_M _ _).mp (by cases h : mixOk t.length (encM ms) with | true => rfl | false => (rw [h] at z; exact nomatch z))
      exact eb_test (EvS.h (ev_I0 (EvS.h (ev_ix (ev_ix (a := encM ms) (fld rfl) (EvS.h (ev_var rfl)) (item_M (getD_of (by rw [hM.len]; exact hi)))) (EvS.h (ev_c (.int 0))) item_F0)) (EvS.h (ev_c (.int 0))) (.bl _))))
  unfold beatsB
  cases hc : (mixOk t.length (encM ms) && !decide (0 < (ms.getD i (0, 1)).1)) with
  | false => exact st_seq (st_if (b := true) (tst.to (by rw [← Bool.not_not (decide _), ← Bool.not_and, hc]; rfl)) (fun _ => st_ret (s := .im (.bool false)) (by walk_at "ev") rfl) (fun z => nomatch z))
  | true =>
    refine st_seq (st_if (b := false) (tst.to (by rw [← Bool.not_not (decide _), ← Bool.not_and, hc]; rfl)) (fun z => nomatch z) (fun _ => st_next ?_))
    refine st_ret (s := .im (.bool (((acrossT t n).map fun c => belowF (c.getD i 0, 1) (rowGot c ms)).all id))) (ev_all (EvS.h (EvS.freeze (EvS.to (ev_lc1 (xs := acrossT t n) (enc := encR) (vs := [3]) (ei_list (ev_call (ss := [.im (encT t)]) (ea_im (ev_var rfl) ea_nil) ⟨_, _, rfl, tab.toRect, .inr rfl⟩)) (fun c => .bool (belowF (c.getD i 0, 1) (rowGot c ms))) (fun c => [.ob cBeaten [("mixture", .im (encM ms))], .im (encT t), .im (.int (i : Nat)), .im (encR c)]) (fun c _ => tg_name (by decide)) (fun c hc => ?_) (by omega)) (by rw [List.map_map]; rfl))))) rfl
    have gc : c[i]? = some (c.getD i 0) := getD_of (by rw [tx.row c hc]; exact hi)
    have rb : Fb 833 (rowGot c ms) := rowGot_fb (tx.bd c hc) fm (by rw [tx.row c hc]; exact h4)
    have f1 : Fb 100000 ((c.getD i 0, 1) : Frc) := fb_one (wide_of (tx.bd c hc) _ (List.mem_of_getElem? gc))
    have f2 : Fb 100000 (rowGot c ms) := rb.mono (by decide)
    exact ev_call (ss := [.im (encF (c.getD i 0, 1)), .im (encF (rowGot c ms))]) (ea_im (ev_tup (ds := [.int (c.getD i 0), .int 1]) (ea_im (ev_ix (a := encR c) (ev_var rfl) (EvS.h (ev_var rfl)) (item_R gc)) (ea_im (ev_c (.int 1)) ea_nil)) (Nat.le_of_ble_eq_true rfl)) (ea_im (ev_call (ss := [.im (encR c), .im (encM ms)]) (ea_im (ev_var rfl) (ea_im (fld rfl) ea_nil)) ⟨_, _, rfl, wide_of (tx.bd c hc), fun y hy => (fm y hy).mono (by decide), by rw [tx.row c hc]; exact h4, rfl⟩) ea_nil)) ⟨_, _, rfl, ⟨f1.a, f1.b, f2.a, f2.b⟩, rfl⟩

def R_law_beats : List Sl → Out → Prop := fun ss o => ∃ (t : List (List Int)) (n i : Nat) (ms : List Frc), ss = [.im (encT t), .im (.int (i : Nat)), .im (encM ms)] ∧ Tab t n ∧ i < t.length ∧ (∀ x ∈ ms, Fb 200 x) ∧ ms.length ≤ 16 ∧ o = .ret (.im (.bool (beatsB t n i ms)))
def t_law_beats (K : PySem.W.Frag) : TS := (tSeq (tIfS (tOr (tNot (tB (tCall (spR K R_law_mixture) [] E0 (tCons (tVar 2) (tCons (tCB (rLenU K) (tCons (tVar 0) tNil)) tNil))))) (tTest (tOp (rNeD K) (tOp (rIx K) (tVar 2) (tVar 1)) (tTup (tCons (tC (.int 0)) (tCons (tC (.int 1)) tNil)))))) (tRet (tC (.bl false))) tNext)
    (tRet (tCB (rAll K) (tCons (tLc (iList K (tCall (spR K R_law_across) [] E0 (tCons (tVar 0) tNil))) (gName 3) tYes (tCall (spR K R_law_less) [] E0 (tCons (tTup (tCons (tOp (rIx K) (tVar 3) (tVar 1)) (tCons (tC (.int 1)) tNil))) (tCons (tCall (spR K R_law_sum) [] E0 (tCons (tVar 3) (tCons (tVar 2) tNil))) tNil))) [3]) tNil))))
theorem len_law_beats {ss : List Sl} {o : Out} (h : R_law_beats ss o) : ss.length = 3 := by
  first | (obtain ⟨_, rfl, _⟩ := h; rfl) | (obtain ⟨_, _, rfl, _⟩ := h; rfl) | (obtain ⟨_, _, _, rfl, _⟩ := h; rfl) | (obtain ⟨_, _, _, _, rfl, _⟩ := h; rfl) | (obtain ⟨_, _, _, _, _, rfl, _⟩ := h; rfl) | (obtain ⟨_, _, _, _, _, _, rfl, _⟩ := h; rfl)
theorem b_law_beats {K : PySem.W.Frag} {E : XK} (ss : List Sl) (o : Out) (h : R_law_beats ss o) : St K E (t_law_beats K) (params ["_law_table_here", "_law_row", "_law_mixture_here", "_law_column"] ss) { nx := fun _ => o = .ret (.im .none), rt := fun s => o = .ret s, ex := fun c => o = .exc c } := by
  obtain ⟨t, n, i, ms, rfl, tab, hi, fm, lm, rfl⟩ := h
  have h4 := tab.r4
  have hc4 := tab.c4
  obtain ⟨r0, t', et, hr0⟩ := tab.head
  have e0 : t[0]? = some r0 := by rw [et]; rfl
  have tx := across_tab tab
  have xl := across_len t n
  have gi : t[i]? = some (t.getD i []) := getD_of hi
  have tst : EvB K ((tOr (tNot (tB (tCall (spR K R_law_mixture) [] E0 (tCons (tVar 2) (tCons (tCB (rLenU K) (tCons (tVar 0) tNil)) tNil))))) (tTest (tOp (rNeD K) (tOp (rIx K) (tVar 2) (tVar 1)) (tTup (tCons (tC (.int 0)) (tCons (tC (.int 1)) tNil))))))) [.im (encT t), .im (.int (i : Nat)), .im (encM ms), .no] (!mixOk t.length (encM ms) || decide (0 < (ms.getD i (0, 1)).1)) := by
    refine eb_or (eb_not (eb_B (EvS.h (ev_call (ss := [.im (encM ms), .im (.int (t.length : Nat))]) (ea_im (ev_var rfl) (ea_im (ev_lenD (EvS.h (ev_var rfl)) len_T) ea_nil)) ⟨_, _, rfl, fm, lm, rfl⟩)))) (fun z => by
      have hM := (mixOk_M _ _).mp (by cases h : mixOk t.length (encM ms) with | true => rfl | false => (rw [h] at z; exact nomatch z))
      have e : decide (0 < (ms.getD i (0, 1)).1) = !(PyData.eqv (encF (ms.getD i (0, 1))) (encF (0, 1))) := by
        have sx := hM.sh _ (hM.at hi)
        generalize ms.getD i (0, 1) = x at *
        obtain ⟨a, b⟩ := x
        have s1 : 0 ≤ a := sx.1
        have s2 : 0 < b := sx.2.1
        have s3 : Int.gcd a b = 1 := sx.2.2
        rw [eqv_F]
        by_cases h0 : a = 0
        · subst h0
          rw [Int.gcd_zero_left] at s3
          have : b = 1 := by omega
          subst this
          simp
        · rw [decide_eq_true (show 0 < a by omega), decide_eq_false (fun q => h0 (congrArg Prod.fst q))]
          rfl
      rw [e]
      exact eb_test (EvS.h (ev_neD (EvS.h (ev_ix (a := encM ms) (ev_var rfl) (EvS.h (ev_var rfl)) (item_M (getD_of (by rw [hM.len]; exact hi))))) (EvS.h (ev_tup (ds := [.int 0, .int 1]) (ea_im (ev_c (.int 0)) (ea_im (ev_c (.int 1)) ea_nil)) (Nat.le_of_ble_eq_true rfl))) (shaped_of lay_F (by decide)) (shaped_of lay_F (by decide)))))
  unfold beatsB
  cases hc : (mixOk t.length (encM ms) && !decide (0 < (ms.getD i (0, 1)).1)) with
  | false => exact st_seq (st_if (b := true) (tst.to (by rw [← Bool.not_not (decide _), ← Bool.not_and, hc]; rfl)) (fun _ => st_ret (s := .im (.bool false)) (by walk_at "ev") rfl) (fun z => nomatch z))
  | true =>
    refine st_seq (st_if (b := false) (tst.to (by rw [← Bool.not_not (decide _), ← Bool.not_and, hc]; rfl)) (fun z => nomatch z) (fun _ => st_next ?_))
    refine st_ret (s := .im (.bool (((acrossT t n).map fun c => belowF (c.getD i 0, 1) (rowGot c ms)).all id))) (ev_all (EvS.h (EvS.freeze (EvS.to (ev_lc1 (xs := acrossT t n) (enc := encR) (vs := [3]) (ei_list (ev_call (ss := [.im (encT t)]) (ea_im (ev_var rfl) ea_nil) ⟨_, _, rfl, tab.toRect, rfl⟩)) (fun c => .bool (belowF (c.getD i 0, 1) (rowGot c ms))) (fun c => [.im (encT t), .im (.int (i : Nat)), .im (encM ms), .im (encR c)]) (fun c _ => tg_name (by decide)) (fun c hc => ?_) (by omega)) (by rw [List.map_map]; rfl))))) rfl
    have gc : c[i]? = some (c.getD i 0) := getD_of (by rw [tx.row c hc]; exact hi)
    have rb : Fb 833 (rowGot c ms) := rowGot_fb (tx.bd c hc) fm (by rw [tx.row c hc]; exact h4)
    have f1 : Fb 100000 ((c.getD i 0, 1) : Frc) := fb_one (wide_of (tx.bd c hc) _ (List.mem_of_getElem? gc))
    have f2 : Fb 100000 (rowGot c ms) := rb.mono (by decide)
    exact ev_call (ss := [.im (encF (c.getD i 0, 1)), .im (encF (rowGot c ms))]) (ea_im (ev_tup (ds := [.int (c.getD i 0), .int 1]) (ea_im (ev_ix (a := encR c) (ev_var rfl) (EvS.h (ev_var rfl)) (item_R gc)) (ea_im (ev_c (.int 1)) ea_nil)) (Nat.le_of_ble_eq_true rfl)) (ea_im (ev_call (ss := [.im (encR c), .im (encM ms)]) (ea_im (ev_var rfl) (ea_im (ev_var rfl) ea_nil)) ⟨_, _, 200, rfl, tx.bd c hc, fm, by rw [tx.row c hc]; omega, rfl⟩) ea_nil)) ⟨_, _, rfl, f1, f2, rfl⟩

def R_Best_shows (cBest : Addr) : List Sl → Out → Prop := fun ss o => ∃ (t : List (List Int)) (n i : Nat) (ms : List Frc), ss = [.ob cBest [("mixture", .im (encM ms))], .im (encT t), .im (.int (i : Nat))] ∧ Tab t n ∧ i < t.length ∧ (∀ x ∈ ms, Fb 200 x) ∧ ms.length ≤ 16 ∧ o = .ret (.im (.bool (answersB t n i ms)))
def t_Best_shows (K : PySem.W.Frag) : TS := (tRet (tAndV (tCall (spR K R_is_mixture) [] E0 (tCons (tFld K (tVar 0) "mixture") (tCons (tCB (rLenU K) (tCons (tOp (rIx K) (tVar 1) (tC (.int 0))) tNil)) tNil))) (tOp (rInD K) (tVar 2) (tOp (rIx K) (tCall (spR K R_best_rows) [] E0 (tCons (tVar 1) (tCons (tFld K (tVar 0) "mixture") tNil))) (tC (.int 0))))))
theorem len_Best_shows {cBest : Addr} {ss : List Sl} {o : Out} (h : R_Best_shows cBest ss o) : ss.length = 3 := by
  first | (obtain ⟨_, rfl, _⟩ := h; rfl) | (obtain ⟨_, _, rfl, _⟩ := h; rfl) | (obtain ⟨_, _, _, rfl, _⟩ := h; rfl) | (obtain ⟨_, _, _, _, rfl, _⟩ := h; rfl) | (obtain ⟨_, _, _, _, _, rfl, _⟩ := h; rfl) | (obtain ⟨_, _, _, _, _, _, rfl, _⟩ := h; rfl)
theorem b_Best_shows {K : PySem.W.Frag} {E : XK} {cBest : Addr} (O : ObC K cBest ["mixture"]) (ss : List Sl) (o : Out) (h : R_Best_shows cBest ss o) : St K E (t_Best_shows K) (params ["self", "table", "row"] ss) { nx := fun _ => o = .ret (.im .none), rt := fun s => o = .ret s, ex := fun c => o = .exc c } := by
  obtain ⟨t, n, i, ms, rfl, tab, hi, fm, lm, rfl⟩ := h
  have h4 := tab.r4
  have hc4 := tab.c4
  obtain ⟨r0, t', et, hr0⟩ := tab.head
  have e0 : t[0]? = some r0 := by rw [et]; rfl
  have tx := across_tab tab
  have xl := across_len t n
  have gi : t[i]? = some (t.getD i []) := getD_of hi
  have fld : ∀ {G : Env}, G[0]? = some (.ob cBest [("mixture", .im (encM ms))]) → Ev K (tFld K (tVar 0) "mixture") G (encM ms) := fun {G} h => ev_fld h O.cl (O.na _ (by decide +kernel)) lk_here
  refine st_ret (s := .im (.bool (answersB t n i ms))) (ev_andN (EvS.h (ev_call (ss := [.im (encM ms), .im (.int (n : Nat))]) (ea_im (fld rfl) (ea_im ?_ ea_nil)) ⟨_, _, rfl, by omega, mixsz fm lm, rfl⟩)) ?_) rfl
  · rw [← hr0]
    exact ev_lenD (EvS.h (ev_ix (a := encT t) (i := ((0 : Nat) : Int)) (ev_var rfl) (EvS.h (ev_c (.int 0))) (item_T e0))) len_R
  · rw [← any_nats]
    exact EvS.h (ev_inD (EvS.h (ev_var rfl)) (EvS.h (ev_ix (a := .tuple [.list ((bestR t ms).map fun i : Nat => .int i), encF (mostF t ms)]) (ev_call (ss := [.im (encT t), .im (encM ms)]) (ea_im (ev_var rfl) (ea_im (fld rfl) ea_nil)) ⟨_, _, _, rfl, tab, fm, .inr rfl⟩) (EvS.h (ev_c (.int 0))) (.tup rfl))) (shaped_of lay_int (by decide)) (shaped_of lay_nats (by decide)))

def R_law_answers : List Sl → Out → Prop := fun ss o => ∃ (t : List (List Int)) (n i : Nat) (ms : List Frc), ss = [.im (encT t), .im (.int (i : Nat)), .im (encM ms)] ∧ Tab t n ∧ i < t.length ∧ (∀ x ∈ ms, Fb 200 x) ∧ ms.length ≤ 16 ∧ o = .ret (.im (.bool (answersB t n i ms)))
def t_law_answers (K : PySem.W.Frag) : TS := (tSeq (tIfS (tNot (tB (tCall (spR K R_law_mixture) [] E0 (tCons (tVar 2) (tCons (tCB (rLenU K) (tCons (tOp (rIx K) (tVar 0) (tC (.int 0))) tNil)) tNil))))) (tRet (tC (.bl false))) tNext)
    (tSeq (tAsg (tCall (spR K R_law_sum) [] E0 (tCons (tOp (rIx K) (tVar 0) (tVar 1)) (tCons (tVar 2) tNil))) (gName 3))
    (tRet (tNotV (tCB (rAny K) (tCons (tLc (iList K (tVar 0)) (gName 4) tYes (tCall (spR K R_law_less) [] E0 (tCons (tVar 3) (tCons (tCall (spR K R_law_sum) [] E0 (tCons (tVar 4) (tCons (tVar 2) tNil))) tNil))) [4]) tNil))))))
theorem len_law_answers {ss : List Sl} {o : Out} (h : R_law_answers ss o) : ss.length = 3 := by
  first | (obtain ⟨_, rfl, _⟩ := h; rfl) | (obtain ⟨_, _, rfl, _⟩ := h; rfl) | (obtain ⟨_, _, _, rfl, _⟩ := h; rfl) | (obtain ⟨_, _, _, _, rfl, _⟩ := h; rfl) | (obtain ⟨_, _, _, _, _, rfl, _⟩ := h; rfl) | (obtain ⟨_, _, _, _, _, _, rfl, _⟩ := h; rfl)
theorem b_law_answers {K : PySem.W.Frag} {E : XK} (ss : List Sl) (o : Out) (h : R_law_answers ss o) : St K E (t_law_answers K) (params ["_law_table_here", "_law_row", "_law_mixture_here", "_law_mine", "_law_other"] ss) { nx := fun _ => o = .ret (.im .none), rt := fun s => o = .ret s, ex := fun c => o = .exc c } := by
  obtain ⟨t, n, i, ms, rfl, tab, hi, fm, lm, rfl⟩ := h
  have h4 := tab.r4
  have hc4 := tab.c4
  obtain ⟨r0, t', et, hr0⟩ := tab.head
  have e0 : t[0]? = some r0 := by rw [et]; rfl
  have tx := across_tab tab
  have xl := across_len t n
  have gi : t[i]? = some (t.getD i []) := getD_of hi
  have rb : ∀ r ∈ t, Fb 833 (rowGot r ms) := fun r hr => rowGot_fb (tab.bd r hr) fm (by rw [tab.row r hr]; exact hc4)
  have mi : t.getD i [] ∈ t := List.mem_of_getElem? gi
  have tst : EvB K (tNot (tB (tCall (spR K R_law_mixture) [] E0 (tCons (tVar 2) (tCons (tCB (rLenU K) (tCons (tOp (rIx K) (tVar 0) (tC (.int 0))) tNil)) tNil))))) [.im (encT t), .im (.int (i : Nat)), .im (encM ms), .no, .no] (!mixOk n (encM ms)) := by
    refine eb_not (eb_B (EvS.h (ev_call (ss := [.im (encM ms), .im (.int (n : Nat))]) (ea_im (ev_var rfl) (ea_im ?_ ea_nil)) ⟨_, _, rfl, fm, lm, rfl⟩)))
    rw [← hr0]
    exact ev_lenD (EvS.h (ev_ix (a := encT t) (i := ((0 : Nat) : Int)) (ev_var rfl) (EvS.h (ev_c (.int 0))) (item_T e0))) len_R
  unfold answersB
  cases hm : mixOk n (encM ms) with
  | false =>
    rw [hm] at tst
    exact st_seq (st_if tst (fun _ => st_ret (s := .im (.bool false)) (by walk_at "ev") rfl) (fun z => nomatch z))
  | true =>
    rw [hm] at tst
    have hN := (mixOk_M _ _).mp hm
    refine st_seq (st_if tst (fun z => nomatch z) (fun _ => st_next ?_))
    have sum : ∀ (G : Env) (ta : TE) (r : List Int), r ∈ t → G[2]? = some (.im (encM ms)) → Ev K ta G (encR r) → Ev K (tCall (spR K R_law_sum) [] E0 (tCons ta (tCons (tVar 2) tNil))) G (encF (rowGot r ms)) := fun G ta r hr h ht => ev_call (ss := [.im (encR r), .im (encM ms)]) (ea_im ht (ea_im (ev_var h) ea_nil)) ⟨_, _, 200, rfl, tab.bd r hr, fm, by rw [tab.row r hr]; omega, rfl⟩
    refine st_seq (st_asg (s := .im (encF (rowGot (t.getD i []) ms))) (sum _ _ _ mi rfl (ev_ix (a := encT t) (ev_var rfl) (EvS.h (ev_var rfl)) (item_T gi))) ?_)
    have e : (!(t.map fun r => belowF (rowGot (t.getD i []) ms) (rowGot r ms)).any id) = (bestR t ms).contains i := by
      have d := due_best hN.pos hi
      have ht : (toldF t ms).getD i (0, 1) = rowGot (t.getD i []) ms := by
        unfold toldF
        rw [List.getD_eq_getElem?_getD, List.getElem?_map, gi]
        rfl
      rw [ht] at d
      unfold toldF at d
      rw [List.map_map] at d
      have d2 : (t.map fun r => belowF (rowGot (t.getD i []) ms) (rowGot r ms)).any id = !(bestR t ms).contains i := d
      rw [d2, Bool.not_not]
    refine st_ret (s := .im (.bool ((bestR t ms).contains i))) (Ev.to (ev_notV (EvS.h (ev_any (EvS.h (EvS.freeze (EvS.to (ev_lc1 (xs := t) (enc := encR) (vs := [4]) (ei_list (ev_var rfl)) (fun r => .bool (belowF (rowGot (t.getD i []) ms) (rowGot r ms))) (fun r => [.im (encT t), .im (.int (i : Nat)), .im (encM ms), .im (encF (rowGot (t.getD i []) ms)), .im (encR r)]) (fun r _ => tg_name (by decide)) (fun r hr => ?_) (by omega)) (by rw [List.map_map]; rfl))))))) (by rw [e])) rfl
    exact ev_call (ss := [.im (encF (rowGot (t.getD i []) ms)), .im (encF (rowGot r ms))]) (ea_im (ev_var rfl) (ea_im (sum _ _ r hr rfl (ev_var rfl)) ea_nil)) ⟨_, _, rfl, (rb _ mi).mono (by decide), (rb r hr).mono (by decide), rfl⟩

def R_beaten_by (cBeaten cBest : Addr) : List Sl → Out → Prop := fun ss o => ∃ (t : List (List Int)) (n i : Nat), ss = [.im (encT t), .im (.int (i : Nat))] ∧ Tab t n ∧ i < t.length ∧ o = .ret (.ob (if (beatenP t n i).1 = true then cBeaten else cBest) (fieldsX (beatenP t n i).2))
def t_beaten_by (K : PySem.W.Frag) (cSolved : Addr) (cBeaten : Addr) (cBest : Addr) : TS := (tSeq (tIfS (tTest (tOp (rEqD K) (tCB (rLenU K) (tCons (tVar 0) tNil)) (tC (.int 1)))) (tRet (tMake cBest (spI K cBest RI_Best) [] E0 (tCons (tOp rCat (tLst (tCons (tTup (tCons (tC (.int 1)) (tCons (tC (.int 1)) tNil))) tNil)) (tLc (iList K (tSl (rSlL K) (tOp (rIx K) (tVar 0) (tC (.int 0))) (tPart (tC (.int 1))) tNoPart)) (gName 4) tYes (tTup (tCons (tC (.int 0)) (tCons (tC (.int 1)) tNil))) [4])) tNil))) tNext)
    (tSeq (tAsg (tLc (iRng1 (tCons (tCB (rLenU K) (tCons (tVar 0) tNil)) tNil)) (gName 5) (tTest (tOp (rNeD K) (tVar 5) (tVar 1))) (tVar 5) [5]) (gName 2))
    (tSeq (tAsg (tCall (spR K (R_solved_by cSolved)) [] E0 (tCons (tLc (iList K (tVar 2)) (gName 5) tYes (tLc (iZip K (tCons (tOp (rIx K) (tVar 0) (tVar 5)) (tCons (tOp (rIx K) (tVar 0) (tVar 1)) tNil))) (gTup K 2 (gCons (gName 6) (gCons (gName 7) gNil))) tYes (tOp (rI0 fun i j => .int (i - j)) (tVar 6) (tVar 7)) [6, 7]) [5]) tNil)) (gName 3))
    (tSeq (tIfS (tTest (tOp (rI0 fun i j => .bl (decide (i ≤ j))) (tOp (rIx K) (tFld K (tVar 3) "value") (tC (.int 0))) (tC (.int 0)))) (tRet (tMake cBest (spI K cBest RI_Best) [] E0 (tCons (tFld K (tVar 3) "theirs") tNil))) tNext)
    (tRet (tMake cBeaten (spI K cBeaten RI_Beaten) [] E0 (tCons (tOp rCat (tOp rCat (tSl (rSlL K) (tFld K (tVar 3) "mine") tNoPart (tPart (tVar 1))) (tLst (tCons (tTup (tCons (tC (.int 0)) (tCons (tC (.int 1)) tNil))) tNil))) (tSl (rSlL K) (tFld K (tVar 3) "mine") (tPart (tVar 1)) tNoPart)) tNil)))))))
theorem len_beaten_by {cBeaten : Addr} {cBest : Addr} {ss : List Sl} {o : Out} (h : R_beaten_by cBeaten cBest ss o) : ss.length = 2 := by
  first | (obtain ⟨_, rfl, _⟩ := h; rfl) | (obtain ⟨_, _, rfl, _⟩ := h; rfl) | (obtain ⟨_, _, _, rfl, _⟩ := h; rfl) | (obtain ⟨_, _, _, _, rfl, _⟩ := h; rfl) | (obtain ⟨_, _, _, _, _, rfl, _⟩ := h; rfl) | (obtain ⟨_, _, _, _, _, _, rfl, _⟩ := h; rfl)
theorem b_beaten_by {K : PySem.W.Frag} {E : XK} {cSolved : Addr} {cBeaten : Addr} {cBest : Addr} (OV : ObC K cSolved ["value", "mine", "theirs"]) (ss : List Sl) (o : Out) (h : R_beaten_by cBeaten cBest ss o) : St K E (t_beaten_by K cSolved cBeaten cBest) (params ["table", "row", "others", "found", "column", "other", "one", "two"] ss) { nx := fun _ => o = .ret (.im .none), rt := fun s => o = .ret s, ex := fun c => o = .exc c } := by
  obtain ⟨t, n, i, rfl, tab, hi, rfl⟩ := h
  have h4 := tab.r4
  have hc4 := tab.c4
  have r1 := tab.r1
  have c1 := tab.c1
  have gi : t[i]? = some (t.getD i []) := getD_of hi
  have g0 : t[0]? = some (t.getD 0 []) := getD_of r1
  have hr0 := tab.row _ (List.mem_of_getElem? g0)
  have t01 : ∀ (G : Env) (a : Int), Ev K (tTup (tCons (tC (.int a)) (tCons (tC (.int 1)) tNil))) G (encF (a, 1)) := fun G a => ev_tup (ds := [.int a, .int 1]) (ea_im (ev_c (.int _)) (ea_im (ev_c (.int 1)) ea_nil)) (Nat.le_of_ble_eq_true rfl)
  have tst : EvB K (tTest (tOp (rEqD K) (tCB (rLenU K) (tCons (tVar 0) tNil)) (tC (.int 1)))) [.im (encT t), .im (.int (i : Nat)), .no, .no, .no, .no, .no, .no] (decide (t.length = 1)) := by
    refine EvB.to (a := PyData.eqv (.int (t.length : Nat)) (.int ((1 : Nat) : Int))) (eb_test (EvS.h (ev_eqD (EvS.h (ev_lenD (EvS.h (ev_var rfl)) len_T)) (EvS.h (ev_c (.int _))) (shaped_of lay_int (by decide)) (shaped_of lay_int (by decide))))) (by rw [eqv_int, natE])
  unfold beatenP
  by_cases hone : t.length = 1
  · rw [if_pos hone]
    rw [decide_eq_true hone] at tst
    refine st_seq (st_if tst (fun _ => st_ret (s := .ob cBest (fieldsX (aloneB (t.getD 0 [])))) (ev_make (ds := [encM (aloneB (t.getD 0 []))]) (ea_im (EvS.freeze (EvS.to (ev_cat (as := [encF (1, 1)]) (bs := ((t.getD 0 []).drop 1).map fun _ => encF (0, 1)) (ev_lst (ds := [encF (1, 1)]) (ea_im (t01 _ 1) ea_nil) (Nat.le_of_ble_eq_true rfl)) (ev_lc1 (xs := (t.getD 0 []).drop 1) (enc := .int) (vs := [4]) (ei_list (EvS.freeze (EvS.to (ev_slL (lo := some ((1 : Nat) : Int)) (hi := none) (ev_ix (a := encT t) (i := ((0 : Nat) : Int)) (ev_var rfl) (EvS.h (ev_c (.int 0))) (item_T g0)) (eo_some (EvS.h (ev_c (.int 1)))) eo_none) (by rw [cutD_drop _ (by omega)])))) (fun _ => encF (0, 1)) (fun x => [.im (encT t), .im (.int (i : Nat)), .no, .no, .im (.int x), .no, .no, .no]) (fun x _ => tg_name (by decide)) (fun x _ => t01 _ 0) (by rw [List.length_drop]; omega)) (by rw [List.length_map, List.length_drop]; show 1 + _ ≤ _; omega)) ?_)) ea_nil) ⟨_, rfl, rfl⟩) rfl) (fun z => nomatch z))
    unfold aloneB
    rw [List.map_append, List.map_map]
    rfl
  rw [if_neg hone]
  rw [decide_eq_false hone] at tst
  refine st_seq (st_if tst (fun z => nomatch z) (fun _ => st_next ?_))
  refine st_seq (st_asg (s := .im (.list ((othersL t.length i).map fun k : Nat => .int k))) (EvS.freeze (ev_lc (xs := List.range t.length) (enc := fun k : Nat => .int k) (vs := [5]) (ei_range (n := t.length) (EvS.h (ev_lenD (EvS.h (ev_var rfl)) len_T)) (by omega)) (fun k => !decide (k = i)) (fun k : Nat => .int k) (fun k => [.im (encT t), .im (.int (i : Nat)), .no, .no, .no, .im (.int (k : Nat)), .no, .no]) (fun k _ => tg_name (by decide)) (fun k _ => EvB.to (eb_test (EvS.h (ev_neD (EvS.h (ev_var rfl)) (EvS.h (ev_var rfl)) (shaped_of lay_int (by decide)) (shaped_of lay_int (by decide))))) (by rw [eqv_int, natE])) (fun k _ _ => ev_var rfl) (by rw [List.length_range]; omega))) ?_)
  have tabD := diffT_tab tab hi hone
  have ok := ok_neg tabD
  have hl := diffT_len hi
  have mml := ok.mm.len
  rw [hl] at mml
  have om : ∀ k ∈ othersL t.length i, k < t.length := fun k hk => List.mem_range.mp (List.mem_filter.mp hk).1
  have ol : (othersL t.length i).length ≤ 4 := by
    have : (othersL t.length i).length = (diffT t i).length := (List.length_map _).symm
    omega
  have hD : Ev K (tLc (iList K (tVar 2)) (gName 5) tYes (tLc (iZip K (tCons (tOp (rIx K) (tVar 0) (tVar 5)) (tCons (tOp (rIx K) (tVar 0) (tVar 1)) tNil))) (gTup K 2 (gCons (gName 6) (gCons (gName 7) gNil))) tYes (tOp (rI0 fun i j => .int (i - j)) (tVar 6) (tVar 7)) [6, 7]) [5]) [.im (encT t), .im (.int (i : Nat)), .im (.list ((othersL t.length i).map fun k : Nat => .int k)), .no, .no, .no, .no, .no] (encT (diffT t i)) := by
    refine EvS.freeze (EvS.to (ev_lc1 (xs := othersL t.length i) (enc := fun k : Nat => .int k) (vs := [5]) (ei_list (ev_var rfl)) (fun k => encR (subR (t.getD k []) (t.getD i []))) (fun k => [.im (encT t), .im (.int (i : Nat)), .im (.list ((othersL t.length i).map fun k : Nat => .int k)), .no, .no, .im (.int (k : Nat)), .no, .no]) (fun k _ => tg_name (by decide)) (fun k hk => ?_) (by omega)) (by unfold diffT; rw [List.map_map]; rfl))
    have gk : t[k]? = some (t.getD k []) := getD_of (om k hk)
    have lk := tab.row _ (List.mem_of_getElem? gk)
    refine EvS.freeze (EvS.to (ev_lc1 (xs := (t.getD k []).zip (t.getD i [])) (enc := fun p : Int × Int => .tuple [.int p.1, .int p.2]) (vs := [6, 7]) ((ei_zip (ev_ix (a := encT t) (ev_var rfl) (EvS.h (ev_var rfl)) (item_T gk)) (ev_ix (a := encT t) (ev_var rfl) (EvS.h (ev_var rfl)) (item_T gi))).to (zip_pairD _ _ _ _)) (fun p => .int (p.1 - p.2)) (fun p => [.im (encT t), .im (.int (i : Nat)), .im (.list ((othersL t.length i).map fun k : Nat => .int k)), .no, .no, .im (.int (k : Nat)), .im (.int p.1), .im (.int p.2)]) (fun p _ => tg_tup (tgs_cons (tg_name (by decide)) (tgs_cons (tg_name (by decide)) tgs_nil)) rfl) (fun p _ => ev_I0 (EvS.h (ev_var rfl)) (EvS.h (ev_var rfl)) (.int _)) (by rw [List.length_zip]; omega)) (by unfold subR; rw [List.map_map]; rfl))
  refine st_seq (st_asg (s := .ob cSolved (quiet (fieldsV (solvedV (diffT t i) n) (settledM (diffT t i) (negT (diffT t i)) n)))) (EvS.freezeO rfl (ev_call (ss := [.im (encT (diffT t i))]) (ea_im hD ea_nil) ⟨_, _, rfl, tabD, rfl⟩)) ?_)
  generalize (settledM (diffT t i) (negT (diffT t i)) n) = M at *
  generalize solvedV (diffT t i) n = v at *
  show St K E _ [.im (encT t), .im (.int (i : Nat)), .im (.list ((othersL t.length i).map fun k : Nat => .int k)), .ob cSolved [(("value" : Str), Fl.im (encF v)), (("mine" : Str), Fl.im (encM M.1)), (("theirs" : Str), Fl.im (encM M.2))], .no, .no, .no, .no] _
  have fldv : ∀ {G : Env}, G[3]? = some (.ob cSolved [(("value" : Str), Fl.im (encF v)), (("mine" : Str), Fl.im (encM M.1)), (("theirs" : Str), Fl.im (encM M.2))]) → Ev K (tFld K (tVar 3) "value") G (encF v) := fun {G} h => ev_fld h OV.cl (OV.na _ (by decide +kernel)) lk_here
  have fldm : ∀ {G : Env}, G[3]? = some (.ob cSolved [(("value" : Str), Fl.im (encF v)), (("mine" : Str), Fl.im (encM M.1)), (("theirs" : Str), Fl.im (encM M.2))]) → Ev K (tFld K (tVar 3) "mine") G (encM M.1) := fun {G} h => ev_fld h OV.cl (OV.na _ (by decide +kernel)) ((lk_past (by decide +kernel)).trans lk_here)
  have fldt : ∀ {G : Env}, G[3]? = some (.ob cSolved [(("value" : Str), Fl.im (encF v)), (("mine" : Str), Fl.im (encM M.1)), (("theirs" : Str), Fl.im (encM M.2))]) → Ev K (tFld K (tVar 3) "theirs") G (encM M.2) := fun {G} h => ev_fld h OV.cl (OV.na _ (by decide +kernel)) ((lk_past (by decide +kernel)).trans ((lk_past (by decide +kernel)).trans lk_here))
  have tv : EvB K (tTest (tOp (rI0 fun i j => .bl (decide (i ≤ j))) (tOp (rIx K) (tFld K (tVar 3) "value") (tC (.int 0))) (tC (.int 0)))) [.im (encT t), .im (.int (i : Nat)), .im (.list ((othersL t.length i).map fun k : Nat => .int k)), .ob cSolved [(("value" : Str), Fl.im (encF v)), (("mine" : Str), Fl.im (encM M.1)), (("theirs" : Str), Fl.im (encM M.2))], .no, .no, .no, .no] (decide (v.1 ≤ 0)) := eb_test (EvS.h (ev_I0 (EvS.h (ev_ix (fldv rfl) (EvS.h (ev_c (.int 0))) item_F0)) (EvS.h (ev_c (.int 0))) (.bl _)))
  by_cases hv : v.1 ≤ 0
  · rw [if_pos hv]
    rw [decide_eq_true hv] at tv
    exact st_seq (st_if tv (fun _ => st_ret (s := .ob cBest (fieldsX M.2)) (ev_make (ds := [encM M.2]) (ea_im (fldt rfl) ea_nil) ⟨_, rfl, rfl⟩) rfl) (fun z => nomatch z))
  · rw [if_neg hv]
    rw [decide_eq_false hv] at tv
    refine st_seq (st_if tv (fun z => nomatch z) (fun _ => st_next (st_ret (s := .ob cBeaten (fieldsX (insM M.1 i))) (ev_make (ds := [encM (insM M.1 i)]) (ea_im (EvS.freeze (EvS.to (ev_cat (as := (M.1.take i).map encF ++ [encF (0, 1)]) (bs := (M.1.drop i).map encF) (ev_cat (as := (M.1.take i).map encF) (bs := [encF (0, 1)]) (EvS.to (ev_slL (ds := M.1.map encF) (lo := none) (hi := some (i : Int)) (fldm rfl) eo_none (eo_some (EvS.h (ev_var rfl)))) (by rw [cutD_takeG _ _ (by omega)])) (ev_lst (ds := [encF (0, 1)]) (ea_im (t01 _ 0) ea_nil) (Nat.le_of_ble_eq_true rfl)) (by rw [List.length_map, List.length_take]; show _ + 1 ≤ _; omega)) (EvS.to (ev_slL (ds := M.1.map encF) (lo := some (i : Int)) (hi := none) (fldm rfl) (eo_some (EvS.h (ev_var rfl))) eo_none) (by rw [cutD_dropG _ _ (by omega)])) (by rw [List.length_append, List.length_map, List.length_map, List.length_take, List.length_drop]; show _ + 1 + _ ≤ _; omega)) ?_)) ea_nil) ⟨_, rfl, rfl⟩) rfl)))
    unfold insM
    rw [List.map_append, List.map_append]
    rfl

def R_beaten (cBadTable cNoCard cBeaten cBest : Addr) : List Sl → Out → Prop := fun ss o => ∃ d e : PyData, ss = [.im d, .im e] ∧ ((tabOk d = false ∧ o = .exc cBadTable) ∨ ∃ t n, d = encT t ∧ Tab t n ∧ ((wholeD e = false ∧ o = .exc cNoCard) ∨ ∃ z : Int, e = .int z ∧ ((¬ (0 ≤ z ∧ z < (t.length : Nat)) ∧ o = .exc cNoCard) ∨ ∃ i : Nat, z = i ∧ i < t.length ∧ o = .ret (.ob (if (beatenP t n i).1 = true then cBeaten else cBest) (fieldsX (beatenP t n i).2)))))
def t_beaten (K : PySem.W.Frag) (cBadTable : Addr) (cNoCard : Addr) (cBeaten : Addr) (cBest : Addr) (E : XK) : TS := (tSeq (tDrop (tCall (spR K (R_asked_table cBadTable)) [] E (tCons (tVar 0) tNil)))
    (tSeq (tIfS (tOr (tNot (tB (tCall (spR K R_is_whole) [] E0 (tCons (tVar 1) tNil)))) (tNot (tTest (tChain (rI0 fun i j => .bl (decide (i ≤ j))) (rI0 fun i j => .bl (decide (i < j))) (tC (.int 0)) (tVar 1) (tCB (rLenU K) (tCons (tVar 0) tNil)))))) (tRaiseU cNoCard E) tNext)
    (tRet (tCall (spR K (R_beaten_by cBeaten cBest)) [] E0 (tCons (tVar 0) (tCons (tVar 1) tNil))))))
theorem len_beaten {cBadTable : Addr} {cNoCard : Addr} {cBeaten : Addr} {cBest : Addr} {ss : List Sl} {o : Out} (h : R_beaten cBadTable cNoCard cBeaten cBest ss o) : ss.length = 2 := by
  first | (obtain ⟨_, rfl, _⟩ := h; rfl) | (obtain ⟨_, _, rfl, _⟩ := h; rfl) | (obtain ⟨_, _, _, rfl, _⟩ := h; rfl) | (obtain ⟨_, _, _, _, rfl, _⟩ := h; rfl) | (obtain ⟨_, _, _, _, _, rfl, _⟩ := h; rfl) | (obtain ⟨_, _, _, _, _, _, rfl, _⟩ := h; rfl)
theorem b_beaten {K : PySem.W.Frag} {E : XK} {cBadTable : Addr} {cNoCard : Addr} {cBeaten : Addr} {cBest : Addr} (ss : List Sl) (o : Out) (h : R_beaten cBadTable cNoCard cBeaten cBest ss o) : St K E (t_beaten K cBadTable cNoCard cBeaten cBest E) (params ["table", "row"] ss) { nx := fun _ => o = .ret (.im .none), rt := fun s => o = .ret s, ex := fun c => o = .exc c } := by
  obtain ⟨d, e, rfl, ⟨hb, rfl⟩ | ⟨t, n, rfl, tab, hcase⟩⟩ := h
  · exact st_seq (st_callX (ss := [.im d]) (c := cBadTable) (by walk_at "ev") ⟨d, rfl, by rw [hb]; rfl⟩ rfl)
  refine st_seq (st_drop (s := .im .none) (by walk_at "ev"; exact ⟨_, rfl, by rw [tab_tabOk tab]; rfl⟩) ?_)
  have w : ∀ (G : Env), G[1]? = some (.im e) → EvB K (tNot (tB (tCall (spR K R_is_whole) [] E0 (tCons (tVar 1) tNil)))) G (!wholeD e) := fun G h => eb_not (eb_B (EvS.h (ev_call (ss := [.im e]) (ea_im (ev_var h) ea_nil) ⟨_, rfl, rfl⟩)))
  have c : ∀ z : Int, e = .int z → EvB K (tNot (tTest (tChain (rI0 fun i j => .bl (decide (i ≤ j))) (rI0 fun i j => .bl (decide (i < j))) (tC (.int 0)) (tVar 1) (tCB (rLenU K) (tCons (tVar 0) tNil))))) [.im (encT t), .im e] (!(decide (0 ≤ z) && decide (z < (t.length : Nat)))) := fun z hz => by
    subst hz
    exact eb_not (eb_test (EvS.h (ev_chain (EvS.h (ev_c (.int 0))) (EvS.h (ev_var rfl)) (EvS.h (ev_lenD (EvS.h (ev_var rfl)) len_T)))))
  rcases hcase with ⟨hw, rfl⟩ | ⟨z, rfl, hz⟩
  · have g := eb_or (w [.im (encT t), .im e] rfl) (u := tNot (tTest (tChain (rI0 fun i j => .bl (decide (i ≤ j))) (rI0 fun i j => .bl (decide (i < j))) (tC (.int 0)) (tVar 1) (tCB (rLenU K) (tCons (tVar 0) tNil))))) (b := true) (fun z => by rw [hw] at z; exact nomatch z)
    exact st_seq (st_if (b := true) (g.to (by rw [hw]; rfl)) (fun _ => st_raiseU rfl) (fun z => nomatch z))
  · have g := eb_orN (w [.im (encT t), .im (.int z)] rfl) (c z rfl)
    rcases hz with ⟨hz, rfl⟩ | ⟨i, rfl, hi, rfl⟩
    · refine st_seq (st_if (b := true) (g.to ?_) (fun _ => st_raiseU rfl) (fun z => nomatch z))
      rw [← Bool.decide_and, decide_eq_false hz]
      rfl
    · refine st_seq (st_if (b := false) (g.to ?_) (fun z => nomatch z) fun _ => st_next ?_)
      · rw [decide_eq_true (show (0 : Int) ≤ (i : Nat) by omega), decide_eq_true (show ((i : Nat) : Int) < (t.length : Nat) by omega)]
        rfl
      · exact st_ret (ev_call (ss := [.im (encT t), .im (.int (i : Nat))]) (ea_im (ev_var rfl) (ea_im (ev_var rfl) ea_nil)) ⟨_, _, _, rfl, tab, hi, rfl⟩) rfl
/-! ### cards struck one by one: the rest is the same, whichever is struck first -/
def dotP (P : Nat → Nat → Rat) (n i : Nat) (y : Nat → Rat) : Rat := sN n fun j => P i j * y j
structure WtOn (n : Nat) (T : List Nat) (y : Nat → Rat) : Prop where
  w : Wt n y
  on : ∀ j, j < n → j ∉ T → y j = 0
structure BeatsBy (P : Nat → Nat → Rat) (m n : Nat) (S T : List Nat) (i : Nat) (x : Nat → Rat) : Prop where
  w : WtOn m S x
  b : ∀ j, j ∈ T → P i j < sN m fun k => P k j * x k
section
variable {P Q : Nat → Nat → Rat} {m n : Nat} {S T S' T' S2 : List Nat} {x y : Nat → Rat}
theorem WtOn.mono (h : WtOn n T y) (e : ∀ j, j ∈ T → j ∈ T') : WtOn n T' y := ⟨h.w, fun j hj hn => h.on j hj fun z => hn (e j z)⟩
/-- what is beaten is no best answer -/
theorem beat_more {i : Nat} (hb : BeatsBy P m n S T i x) (hy : WtOn n T y) : ∃ l, l < m ∧ l ∈ S ∧ dotP P n i y < dotP P n l y := by
  apply Classical.byContradiction
  intro no
  have le : ∀ l, l < m → l ∈ S → dotP P n l y ≤ dotP P n i y := fun l hl hs => Rat.not_lt.mp fun z => no ⟨l, hl, hs, z⟩
  -- the mixture's sum, both ways
  have a : (sN m fun k => x k * dotP P n k y) ≤ dotP P n i y := by
    have e : (sN m fun k => x k * dotP P n k y) ≤ sN m fun k => dotP P n i y * x k := sN_le fun k hk => by
      by_cases hs : k ∈ S
      · have := Rat.mul_le_mul_of_nonneg_left (le k hk hs) (hb.w.w.nn k hk)
        grind
      · rw [hb.w.on k hk hs]
        grind
    rw [sN_mul, hb.w.w.one] at e
    grind
  have b : (sN m fun k => x k * dotP P n k y) = sN n fun j => y j * sN m fun k => P k j * x k := bil_swap
  have z : (sN n fun j => y j * ((sN m fun k => P k j * x k) - P i j)) ≤ 0 := by
    have e : (sN n fun j => y j * ((sN m fun k => P k j * x k) - P i j)) = (sN n fun j => y j * sN m fun k => P k j * x k) - dotP P n i y := by
      have e1 : (sN n fun j => y j * ((sN m fun k => P k j * x k) - P i j)) = sN n fun j => y j * (sN m fun k => P k j * x k) + -(P i j * y j) := sN_congr fun j _ => by grind
      rw [e1, sN_add (fun j => y j * sN m fun k => P k j * x k), sN_neg]
      unfold dotP
      grind
    rw [e, ← b]
    grind
  obtain ⟨j0, h0, p0⟩ := hy.w.some
  have hj0 : j0 ∈ T := Classical.byContradiction fun q => by rw [hy.on j0 h0 q] at p0; grind
  have t := sN_nought (fun j hj => by
    have nn := hy.w.nn j hj
    by_cases hT : j ∈ T
    · have := hb.b j hT
      exact Rat.mul_nonneg nn (by grind)
    · rw [hy.on j hj hT]
      grind) z j0 h0
  have := hb.b j0 hj0
  rcases Rat.mul_eq_zero.mp t with q | q
  · grind
  · grind
theorem some_best (f : Nat → Rat) : ∀ {m : Nat}, 0 < m → ∃ k, k < m ∧ ∀ l, l < m → f l ≤ f k
  | 1, _ => ⟨0, by decide, fun l hl => by
    have : l = 0 := by omega
    rw [this]
    exact Rat.le_refl⟩
  | m + 2, _ => by
    obtain ⟨k, hk, h⟩ := some_best f (m := m + 1) (by omega)
    by_cases z : f k ≤ f (m + 1)
    · refine ⟨m + 1, by omega, fun l hl => ?_⟩
      by_cases e : l = m + 1
      · rw [e]; exact Rat.le_refl
      · exact Rat.le_trans (h l (by omega)) z
    · refine ⟨k, by omega, fun l hl => ?_⟩
      by_cases e : l = m + 1
      · rw [e]; exact Rat.le_of_lt (Rat.not_le.mp z)
      · exact h l (by omega)
def Brp (P Q : Nat → Nat → Rat) (m n : Nat) (S T : List Nat) : Prop :=
  (∀ i, i ∈ S → i < m ∧ ∃ y, WtOn n T y ∧ ∀ k, k < m → dotP P n k y ≤ dotP P n i y) ∧ (∀ j, j ∈ T → j < n ∧ ∃ x, WtOn m S x ∧ ∀ k, k < n → dotP Q m k x ≤ dotP Q m j x)
structure Stage (P Q : Nat → Nat → Rat) (m n : Nat) (S T : List Nat) : Prop where
  ir : ∀ y, WtOn n T y → ∀ i, i < m → (∀ k, k < m → dotP P n k y ≤ dotP P n i y) → i ∈ S
  ic : ∀ x, WtOn m S x → ∀ j, j < n → (∀ k, k < n → dotP Q m k x ≤ dotP Q m j x) → j ∈ T
  sr : ∀ S' T', Brp P Q m n S' T' → ∀ i, i ∈ S' → i ∈ S
  sc : ∀ S' T', Brp P Q m n S' T' → ∀ j, j ∈ T' → j ∈ T
  mr : ∀ i, i ∈ S → i < m
  mc : ∀ j, j ∈ T → j < n
  nr : ∃ i, i ∈ S
  nc : ∃ j, j ∈ T
theorem Brp.swap (h : Brp P Q m n S T) : Brp Q P n m T S := ⟨h.2, h.1⟩
theorem Stage.swap (h : Stage P Q m n S T) : Stage Q P n m T S := ⟨h.ic, h.ir, fun S' T' b => h.sc T' S' b.swap, fun S' T' b => h.sr T' S' b.swap, h.mc, h.mr, h.nc, h.nr⟩
def unitW (c : Nat) : Nat → Rat := fun k => if k = c then 1 else 0
theorem unit_on {c : Nat} (hc : c < n) (h : c ∈ T) : WtOn n T (unitW c) := ⟨⟨fun i _ => by
  unfold unitW
  split
  · decide
  · exact Rat.le_refl, sN_one hc (fun i _ ne => if_neg ne) (if_pos rfl)⟩, fun j _ hj => if_neg fun z => hj (by rw [z]; exact h)⟩
/-- rows that are beaten go -/
theorem Stage.step (h : Stage P Q m n S T) (hs : ∀ i, i ∈ S2 → i ∈ S) (hb : ∀ i, i ∈ S → i ∉ S2 → ∃ x, BeatsBy P m n S T i x) : Stage P Q m n S2 T := by
  have ir : ∀ y, WtOn n T y → ∀ i, i < m → (∀ k, k < m → dotP P n k y ≤ dotP P n i y) → i ∈ S2 := fun y hy i hi best => Classical.byContradiction fun no => by
    obtain ⟨x, bx⟩ := hb i (h.ir y hy i hi best) no
    obtain ⟨l, hl, _, lt⟩ := beat_more bx hy
    exact absurd (best l hl) (Rat.not_le.mpr lt)
  refine ⟨ir, fun x hx => h.ic x (hx.mono hs), fun S' T' b i hi => Classical.byContradiction fun no => ?_, h.sc, fun i hi => h.mr i (hs i hi), h.mc, ?_, h.nc⟩
  · obtain ⟨x, bx⟩ := hb i (h.sr S' T' b i hi) no
    obtain ⟨_, y, hy, best⟩ := b.1 i hi
    obtain ⟨l, hl, _, lt⟩ := beat_more bx (hy.mono (h.sc S' T' b))
    exact absurd (best l hl) (Rat.not_le.mpr lt)
  · obtain ⟨j, hj⟩ := h.nc
    obtain ⟨i0, hi0⟩ := h.nr
    have hy := unit_on (h.mc j hj) hj
    obtain ⟨k, hk, best⟩ := some_best (fun i => dotP P n i (unitW j)) (m := m) (by have := h.mr i0 hi0; omega)
    exact ⟨k, ir _ hy k hk best⟩
theorem Stage.stepC {T2 : List Nat} (h : Stage P Q m n S T) (hs : ∀ j, j ∈ T2 → j ∈ T) (hb : ∀ j, j ∈ T → j ∉ T2 → ∃ x, BeatsBy Q n m T S j x) : Stage P Q m n S T2 := (h.swap.step hs hb).swap
theorem stage0 (hm : 0 < m) (hn : 0 < n) : Stage P Q m n (List.range m) (List.range n) :=
  ⟨fun _ _ i hi _ => List.mem_range.mpr hi, fun _ _ j hj _ => List.mem_range.mpr hj, fun S' T' b i hi => List.mem_range.mpr (b.1 i hi).1, fun S' T' b j hj => List.mem_range.mpr (b.2 j hj).1, fun i hi => List.mem_range.mp hi, fun j hj => List.mem_range.mp hj, ⟨0, List.mem_range.mpr hm⟩, ⟨0, List.mem_range.mpr hn⟩⟩
/-- no card left is beaten -/
structure Term (P Q : Nat → Nat → Rat) (m n : Nat) (S T : List Nat) : Prop where
  r : ∀ i, i ∈ S → ∃ y, WtOn n T y ∧ ∀ k, k ∈ S → dotP P n k y ≤ dotP P n i y
  c : ∀ j, j ∈ T → ∃ x, WtOn m S x ∧ ∀ k, k ∈ T → dotP Q m k x ≤ dotP Q m j x
structure Core (P Q : Nat → Nat → Rat) (m n : Nat) (S T : List Nat) : Prop where
  b : Brp P Q m n S T
  sr : ∀ S' T', Brp P Q m n S' T' → ∀ i, i ∈ S' → i ∈ S
  sc : ∀ S' T', Brp P Q m n S' T' → ∀ j, j ∈ T' → j ∈ T
  nr : ∃ i, i ∈ S
  nc : ∃ j, j ∈ T
theorem half (h : Stage P Q m n S T) {i : Nat} (hi : i ∈ S) (t : ∃ y, WtOn n T y ∧ ∀ k, k ∈ S → dotP P n k y ≤ dotP P n i y) : i < m ∧ ∃ y, WtOn n T y ∧ ∀ k, k < m → dotP P n k y ≤ dotP P n i y := by
  obtain ⟨y, hy, best⟩ := t
  have him := h.mr i hi
  refine ⟨him, y, hy, fun k hk => ?_⟩
  obtain ⟨b, hb, bb⟩ := some_best (fun i => dotP P n i y) (m := m) (by omega)
  exact Rat.le_trans (bb k hk) (best b (h.ir y hy b hb bb))
theorem core_of (h : Stage P Q m n S T) (t : Term P Q m n S T) : Core P Q m n S T := ⟨⟨fun i hi => half h hi (t.r i hi), fun j hj => half h.swap hj (t.c j hj)⟩, h.sr, h.sc, h.nr, h.nc⟩
def canonL (m : Nat) (S : List Nat) : Prop := S = (List.range m).filter fun i => decide (i ∈ S)
theorem canon_range (m : Nat) : canonL m (List.range m) := (List.filter_eq_self.mpr fun i hi => decide_eq_true hi).symm
theorem canon_filter (p : Nat → Bool) (h : canonL m S) : canonL m (S.filter p) := by
  unfold canonL at *
  have e : (List.range m).filter (fun i => decide (i ∈ S.filter p)) = ((List.range m).filter fun i => decide (i ∈ S)).filter p := by
    rw [List.filter_filter]
    refine List.filter_congr fun i _ => ?_
    rw [Bool.eq_iff_iff, Bool.and_eq_true, decide_eq_true_eq, decide_eq_true_eq, List.mem_filter]
    exact ⟨fun z => ⟨z.2, z.1⟩, fun z => ⟨z.2, z.1⟩⟩
  rw [e, ← h]
theorem canon_ext (h : canonL m S) (h2 : canonL m S') (e : ∀ i, i ∈ S ↔ i ∈ S') : S = S' := by
  unfold canonL at *
  rw [h, h2]
  exact List.filter_congr fun i _ => decide_eq_decide.mpr (e i)
theorem canon_nodup (h : canonL m S) : S.Nodup := by
  rw [show S = _ from h]
  exact List.nodup_range.filter _
theorem canon_lt (h : canonL m S) {i : Nat} (hi : i ∈ S) : i < m := by
  rw [show S = _ from h] at hi
  exact List.mem_range.mp (List.mem_filter.mp hi).1
theorem canon_len (h : canonL m S) : S.length ≤ m := by
  have : ((List.range m).filter fun i => decide (i ∈ S)).length ≤ (List.range m).length := List.length_filter_le _ _
  rw [List.length_range] at this
  rw [show S = _ from h]
  exact this
theorem core_unique (a : Core P Q m n S T) (b : Core P Q m n S' T') (h1 : canonL m S) (h2 : canonL n T) (h3 : canonL m S') (h4 : canonL n T') : S = S' ∧ T = T' :=
  ⟨canon_ext h1 h3 fun i => ⟨b.sr _ _ a.b i, a.sr _ _ b.b i⟩, canon_ext h2 h4 fun i => ⟨b.sc _ _ a.b i, a.sc _ _ b.b i⟩⟩
/-! ### places among those left, and places of the whole -/
def sprW (S : List Nat) (f : Nat → Rat) : Nat → Rat := fun k => if k ∈ S then f (S.idxOf k) else 0
theorem sN_filter (p : Nat → Bool) (h : Nat → Rat) : ∀ m, sN m (fun k => if p k = true then h k else 0) = (((List.range m).filter p).map h).sum
  | 0 => rfl
  | m + 1 => by
    show sN m _ + (if p m = true then h m else 0) = _
    rw [sN_filter p h m, List.range_succ, List.filter_append, List.map_append, List.sum_append]
    congr 1
    by_cases z : p m = true
    · rw [if_pos z, List.filter_cons_of_pos z]
      show h m = h m + 0
      grind
    · rw [if_neg z, List.filter_cons_of_neg z]
      rfl
theorem sum_list (h : Nat → Rat) : ∀ S : List Nat, (S.map h).sum = sN S.length fun a => h (S.getD a 0)
  | [] => rfl
  | s :: S => by
    rw [List.map_cons, List.sum_cons, List.length_cons, sN_first, sum_list h S]
    rfl
theorem idx_get {S : List Nat} (h : S.Nodup) {a : Nat} (ha : a < S.length) : S.idxOf (S.getD a 0) = a := by
  have e : S.getD a 0 = S[a] := by rw [List.getD_eq_getElem?_getD, List.getElem?_eq_getElem ha]; rfl
  rw [e]
  exact h.idxOf_getElem a ha
theorem getD_memL {S : List Nat} {a : Nat} (ha : a < S.length) : S.getD a 0 ∈ S := by
  rw [List.getD_eq_getElem?_getD, List.getElem?_eq_getElem ha]
  exact List.getElem_mem ha
theorem mem_getD {S : List Nat} {k : Nat} (h : k ∈ S) : ∃ a, a < S.length ∧ S.getD a 0 = k := by
  obtain ⟨a, ha, e⟩ := List.mem_iff_getElem.mp h
  exact ⟨a, ha, by rw [List.getD_eq_getElem?_getD, List.getElem?_eq_getElem ha]; exact e⟩
theorem spr_sum (h : canonL m S) (g f : Nat → Rat) : sN m (fun k => g k * sprW S f k) = sN S.length fun a => g (S.getD a 0) * f a := by
  have e1 : sN m (fun k => g k * sprW S f k) = sN m fun k => if decide (k ∈ S) = true then g k * f (S.idxOf k) else 0 := sN_congr fun k _ => by
    unfold sprW
    by_cases z : k ∈ S
    · rw [if_pos z, if_pos (decide_eq_true z)]
    · rw [if_neg z, if_neg (by rw [decide_eq_false z]; decide)]
      grind
  rw [e1, sN_filter, ← (show S = _ from h), sum_list]
  exact sN_congr fun a ha => by rw [idx_get (canon_nodup h) ha]
theorem spr_wt {f : Nat → Rat} (h : canonL m S) (w : Wt S.length f) : WtOn m S (sprW S f) := ⟨⟨fun i _ => by
  unfold sprW
  by_cases z : i ∈ S
  · rw [if_pos z]; exact w.nn _ (List.idxOf_lt_length_of_mem z)
  · rw [if_neg z]; exact Rat.le_refl, by
  have := spr_sum h (fun _ => 1) f
  rw [sN_congr (f := fun k => 1 * sprW S f k) (g := sprW S f) fun k _ => by grind, sN_congr (f := fun a => 1 * f a) (g := f) fun k _ => by grind, w.one] at this
  exact this⟩, fun j _ hj => if_neg hj⟩
end
open PySem L2
/-! ### tables of some rows and columns alone -/
def partT (t : List (List Int)) (S T : List Nat) : List (List Int) := S.map fun i => T.map fun j => entry t i j
theorem partT_len (t : List (List Int)) (S T : List Nat) : (partT t S T).length = S.length := List.length_map _
theorem partT_tab {t : List (List Int)} {n : Nat} {S T : List Nat} (h : Tab t n) (hS : ∀ i, i ∈ S → i < t.length) (hT : ∀ j, j ∈ T → j < n) (s1 : 1 ≤ S.length) (s4 : S.length ≤ 4) (t1 : 1 ≤ T.length) (t4 : T.length ≤ 4) : Tab (partT t S T) T.length :=
  ⟨⟨by rw [partT_len]; exact s1, by rw [partT_len]; exact s4, t1, t4, fun r hr => by
    obtain ⟨i, _, rfl⟩ := List.mem_map.mp hr
    exact List.length_map _⟩, fun r hr x hx => by
    obtain ⟨i, hi, rfl⟩ := List.mem_map.mp hr
    obtain ⟨j, hj, rfl⟩ := List.mem_map.mp hx
    obtain ⟨g1, g2⟩ := h.toRect.at (hS i hi) (hT j hj)
    exact h.bd _ (List.mem_of_getElem? g1) _ (List.mem_of_getElem? g2)⟩
theorem partT_entry {t : List (List Int)} {S T : List Nat} {a b : Nat} (ha : a < S.length) (hb : b < T.length) : entry (partT t S T) a b = entry t (S.getD a 0) (T.getD b 0) := by
  have e : (partT t S T).getD a [] = T.map fun j => entry t (S.getD a 0) j := by
    unfold partT
    rw [List.getD_eq_getElem?_getD, List.getElem?_map, getD_of (d := 0) ha]
    rfl
  show ((partT t S T).getD a []).getD b 0 = _
  rw [e, List.getD_eq_getElem?_getD, List.getElem?_map, getD_of (d := 0) hb]
  rfl
section
variable {tbl : List (List Int)} {P : Nat → Nat → Rat} {m n : Nat} {S T : List Nat}
/-- what is told of a row of a part, told of the whole -/
theorem told_row (hS : canonL m S) (hT : canonL n T) (h : Tab tbl T.length) (hl : tbl.length = S.length) (he : ∀ a b, a < S.length → b < T.length → eQ tbl a b = P (S.getD a 0) (T.getD b 0)) {a : Nat} (ha : a < S.length) :
    ((beatenP tbl T.length a).1 = true → ∃ x, BeatsBy P m n S T (S.getD a 0) x) ∧ ((beatenP tbl T.length a).1 = false → ∃ y, WtOn n T y ∧ ∀ k, k ∈ S → dotP P n k y ≤ dotP P n (S.getD a 0) y) := by
  have ok := beaten_ok h (i := a) (by rw [hl]; exact ha)
  generalize beatenP tbl T.length a = p at *
  constructor
  · intro z
    obtain ⟨mx, _, bt⟩ := ok.beats z
    rw [hl] at mx
    refine ⟨sprW S (xQ p.2), spr_wt hS mx.wt, fun j hj => ?_⟩
    obtain ⟨b, hb, rfl⟩ := mem_getD hj
    have := bt b hb
    rw [dot_col (by rw [hl]; exact mx.len), hl] at this
    rw [spr_sum hS (fun k => P k (T.getD b 0)) (xQ p.2)]
    have e1 : ((entry tbl a b : Int) : Rat) = P (S.getD a 0) (T.getD b 0) := he a b ha hb
    rw [e1, sN_congr (g := fun c => P (S.getD c 0) (T.getD b 0) * xQ p.2 c) fun c hc => by rw [he c b hc hb]] at this
    exact this
  · intro z
    obtain ⟨mx, bt⟩ := ok.best z
    refine ⟨sprW T (xQ p.2), spr_wt hT mx.wt, fun k hk => ?_⟩
    obtain ⟨c, hc, rfl⟩ := mem_getD hk
    have := bt _ (mem_row.mpr ⟨c, by rw [hl]; exact hc, rfl⟩)
    rw [dot_row h.toRect (by rw [hl]; exact hc) mx.len, dot_row h.toRect (by rw [hl]; exact ha) mx.len] at this
    unfold dotP
    rw [spr_sum hT (fun j => P (S.getD c 0) j) (xQ p.2), spr_sum hT (fun j => P (S.getD a 0) j) (xQ p.2)]
    rw [sN_congr (f := fun j => eQ tbl c j * xQ p.2 j) (g := fun b => P (S.getD c 0) (T.getD b 0) * xQ p.2 b) fun b hb => by rw [he c b hc hb], sN_congr (f := fun j => eQ tbl a j * xQ p.2 j) (g := fun b => P (S.getD a 0) (T.getD b 0) * xQ p.2 b) fun b hb => by rw [he a b ha hb]] at this
    exact this
end
/-- the game of two tables -/
def rowP (one : List (List Int)) : Nat → Nat → Rat := fun i j => eQ one i j
def colP (other : List (List Int)) : Nat → Nat → Rat := fun j i => eQ other i j
def keptL (tbl : List (List Int)) (n : Nat) (cards : List Nat) : List Nat := (List.range cards.length).filterMap fun a => if (beatenP tbl n a).1 = true then none else some (cards.getD a 0)
theorem fm_filter (p : Nat → Bool) (g : Nat → Nat) : ∀ l : List Nat, (l.filterMap fun a => if p a = true then none else some (g a)) = (l.filter fun a => !p a).map g
  | [] => rfl
  | a :: l => by
    rw [List.filterMap_cons, fm_filter p g l]
    cases h : p a with
    | true => rw [if_pos rfl, List.filter_cons_of_neg (by rw [h]; decide)]
    | false => rw [if_neg Bool.false_ne_true, List.filter_cons_of_pos (by rw [h]; rfl), List.map_cons]
theorem keptL_filter {tbl : List (List Int)} {n : Nat} {cards : List Nat} (hn : cards.Nodup) : keptL tbl n cards = cards.filter fun c => !(beatenP tbl n (cards.idxOf c)).1 := by
  have e : cards = (List.range cards.length).map fun a => cards.getD a 0 := by
    have := mapR 0 (id : Nat → Nat) cards
    rw [List.map_id] at this
    exact this
  unfold keptL
  have e2 : cards.filter (fun c => !(beatenP tbl n (cards.idxOf c)).1) = ((List.range cards.length).map fun a => cards.getD a 0).filter fun c => !(beatenP tbl n (cards.idxOf c)).1 := by rw [← e]
  rw [e2, List.filter_map]
  have e3 : (List.range cards.length).filterMap (fun a => if (beatenP tbl n a).1 = true then none else some (cards.getD a 0)) = ((List.range cards.length).filter fun a => !(beatenP tbl n a).1).map fun a => cards.getD a 0 := by
    exact fm_filter (fun a => (beatenP tbl n a).1) (fun a => cards.getD a 0) _
  rw [e3]
  congr 1
  refine List.filter_congr fun a ha => ?_
  show (!(beatenP tbl n a).1) = !(beatenP tbl n (cards.idxOf (cards.getD a 0))).1
  rw [idx_get hn (List.mem_range.mp ha)]
section
variable {one other : List (List Int)} {n : Nat} {S T : List Nat}
abbrev StageT (one other : List (List Int)) (n : Nat) (S T : List Nat) : Prop := Stage (rowP one) (colP other) one.length n S T
abbrev CoreT (one other : List (List Int)) (n : Nat) (S T : List Nat) : Prop := Core (rowP one) (colP other) one.length n S T
structure St2 (one other : List (List Int)) (n : Nat) (S T : List Nat) : Prop where
  s : StageT one other n S T
  cs : canonL one.length S
  ct : canonL n T
theorem St2.ls (h : St2 one other n S T) (t : Tab one n) : (1 ≤ S.length ∧ S.length ≤ 4) ∧ 1 ≤ T.length ∧ T.length ≤ 4 := by
  obtain ⟨i, hi⟩ := h.s.nr
  obtain ⟨j, hj⟩ := h.s.nc
  have a := canon_len h.cs
  have b := canon_len h.ct
  have := t.r4
  have := t.c4
  exact ⟨⟨List.length_pos_of_mem hi, by omega⟩, List.length_pos_of_mem hj, by omega⟩
theorem St2.tabR (h : St2 one other n S T) (t : Tab one n) : Tab (partT one S T) T.length := partT_tab t h.s.mr h.s.mc (h.ls t).1.1 (h.ls t).1.2 (h.ls t).2.1 (h.ls t).2.2
theorem St2.tabC (h : St2 one other n S T) (t1 : Tab one n) (t2 : Tab other n) (hl : one.length = other.length) : Tab (acrossT (partT other S T) T.length) S.length := by
  have a := across_tab (partT_tab t2 (fun i hi => by rw [← hl]; exact h.s.mr i hi) h.s.mc (h.ls t1).1.1 (h.ls t1).1.2 (h.ls t1).2.1 (h.ls t1).2.2)
  rw [partT_len] at a
  exact a
theorem St2.row (h : St2 one other n S T) (t : Tab one n) {a : Nat} (ha : a < S.length) :
    ((beatenP (partT one S T) T.length a).1 = true → ∃ x, BeatsBy (rowP one) one.length n S T (S.getD a 0) x) ∧ ((beatenP (partT one S T) T.length a).1 = false → ∃ y, WtOn n T y ∧ ∀ k, k ∈ S → dotP (rowP one) n k y ≤ dotP (rowP one) n (S.getD a 0) y) :=
  told_row h.cs h.ct (h.tabR t) (partT_len one S T) (fun a b ha hb => by
    show ((entry _ a b : Int) : Rat) = ((entry one _ _ : Int) : Rat)
    rw [partT_entry ha hb]) ha
theorem St2.col (h : St2 one other n S T) (t1 : Tab one n) (t2 : Tab other n) (hl : one.length = other.length) {b : Nat} (hb : b < T.length) :
    ((beatenP (acrossT (partT other S T) T.length) S.length b).1 = true → ∃ x, BeatsBy (colP other) n one.length T S (T.getD b 0) x) ∧ ((beatenP (acrossT (partT other S T) T.length) S.length b).1 = false → ∃ y, WtOn one.length S y ∧ ∀ k, k ∈ T → dotP (colP other) one.length k y ≤ dotP (colP other) one.length (T.getD b 0) y) :=
  told_row h.ct h.cs (h.tabC t1 t2 hl) (across_len _ _) (fun b a hb ha => by
    show ((entry _ b a : Int) : Rat) = ((entry other _ _ : Int) : Rat)
    rw [entry_acr (by rw [partT_len]; exact ha) hb, partT_entry ha hb]) hb
theorem St2.rows (h : St2 one other n S T) (t : Tab one n) : St2 one other n (keptL (partT one S T) T.length S) T := by
  rw [keptL_filter (canon_nodup h.cs)]
  refine ⟨h.s.step (fun i hi => (List.mem_filter.mp hi).1) fun i hi no => ?_, canon_filter _ h.cs, h.ct⟩
  have hx := List.idxOf_lt_length_of_mem hi
  have hb : (beatenP (partT one S T) T.length (S.idxOf i)).1 = true := by
    cases e : (beatenP (partT one S T) T.length (S.idxOf i)).1 with
    | true => rfl
    | false => exact absurd (List.mem_filter.mpr ⟨hi, by rw [e]; rfl⟩) no
  have := (h.row t hx).1 hb
  have e : S.getD (S.idxOf i) 0 = i := by rw [List.getD_eq_getElem?_getD, List.getElem?_eq_getElem hx]; exact List.getElem_idxOf hx
  rw [e] at this
  exact this
theorem St2.cols (h : St2 one other n S T) (t1 : Tab one n) (t2 : Tab other n) (hl : one.length = other.length) : St2 one other n S (keptL (acrossT (partT other S T) T.length) S.length T) := by
  rw [keptL_filter (canon_nodup h.ct)]
  refine ⟨h.s.stepC (fun i hi => (List.mem_filter.mp hi).1) fun i hi no => ?_, h.cs, canon_filter _ h.ct⟩
  have hx := List.idxOf_lt_length_of_mem hi
  have hb : (beatenP (acrossT (partT other S T) T.length) S.length (T.idxOf i)).1 = true := by
    cases e : (beatenP (acrossT (partT other S T) T.length) S.length (T.idxOf i)).1 with
    | true => rfl
    | false => exact absurd (List.mem_filter.mpr ⟨hi, by rw [e]; rfl⟩) no
  have := (h.col t1 t2 hl hx).1 hb
  have e : T.getD (T.idxOf i) 0 = i := by rw [List.getD_eq_getElem?_getD, List.getElem?_eq_getElem hx]; exact List.getElem_idxOf hx
  rw [e] at this
  exact this
theorem kept_len (tbl : List (List Int)) (k : Nat) {cards : List Nat} (h : cards.Nodup) : (keptL tbl k cards).length ≤ cards.length := by
  rw [keptL_filter h]
  exact List.length_filter_le _ _
theorem kept_same {tbl : List (List Int)} {k : Nat} {cards : List Nat} (h : cards.Nodup) (e : (keptL tbl k cards).length = cards.length) : keptL tbl k cards = cards ∧ ∀ a, a < cards.length → (beatenP tbl k a).1 = false := by
  rw [keptL_filter h] at e ⊢
  have all := List.length_filter_eq_length_iff.mp e
  refine ⟨List.filter_eq_self.mpr all, fun a ha => ?_⟩
  have := all _ (getD_memL ha)
  rw [idx_get h ha] at this
  simpa using this
theorem St2.term (h : St2 one other n S T) (t1 : Tab one n) (t2 : Tab other n) (hl : one.length = other.length) (hr : ∀ a, a < S.length → (beatenP (partT one S T) T.length a).1 = false) (hc : ∀ b, b < T.length → (beatenP (acrossT (partT other S T) T.length) S.length b).1 = false) : CoreT one other n S T := by
  refine core_of h.s ⟨fun i hi => ?_, fun j hj => ?_⟩
  · obtain ⟨a, ha, rfl⟩ := mem_getD hi
    exact (h.row t1 ha).2 (hr a ha)
  · obtain ⟨b, hb, rfl⟩ := mem_getD hj
    exact (h.col t1 t2 hl hb).2 (hc b hb)
/-- there is such a rest -/
theorem core_some (t1 : Tab one n) (t2 : Tab other n) (hl : one.length = other.length) : ∀ (k : Nat) (S T : List Nat), S.length + T.length ≤ k → St2 one other n S T → ∃ S' T', CoreT one other n S' T' ∧ canonL one.length S' ∧ canonL n T'
  | 0, S, T, hk, h => by
    have := (h.ls t1).1.1
    omega
  | k + 1, S, T, hk, h => by
    have nS := canon_nodup h.cs
    have nT := canon_nodup h.ct
    have h2 := h.rows t1
    have l1 := kept_len (partT one S T) T.length nS
    by_cases e1 : (keptL (partT one S T) T.length S).length = S.length
    · obtain ⟨es, hr⟩ := kept_same nS e1
      have h3 := h.cols t1 t2 hl
      have l2 := kept_len (acrossT (partT other S T) T.length) S.length nT
      by_cases e2 : (keptL (acrossT (partT other S T) T.length) S.length T).length = T.length
      · obtain ⟨et, hc⟩ := kept_same nT e2
        exact ⟨S, T, h.term t1 t2 hl hr hc, h.cs, h.ct⟩
      · exact core_some t1 t2 hl k _ _ (by omega) h3
    · exact core_some t1 t2 hl k _ _ (by omega) h2
theorem st2_0 (t1 : Tab one n) : St2 one other n (List.range one.length) (List.range n) := ⟨stage0 t1.r1 t1.c1, canon_range _, canon_range _⟩
theorem core_ex (t1 : Tab one n) (t2 : Tab other n) (hl : one.length = other.length) : ∃ S T, CoreT one other n S T ∧ canonL one.length S ∧ canonL n T := core_some t1 t2 hl _ _ _ (Nat.le_refl _) (st2_0 t1)
/-- who has a share in mixtures from which neither would turn is left -/
theorem share_left {M N : List Frc} (t1 : Tab one n) (t2 : Tab other n) (hl : one.length = other.length) (ok : SettledOk one other n M N) (c : CoreT one other n S T) : (∀ i, i < one.length → 0 < (M.getD i (0, 1)).1 → i ∈ S) ∧ ∀ j, j < n → 0 < (N.getD j (0, 1)).1 → j ∈ T := by
  have b : Brp (rowP one) (colP other) one.length n ((List.range one.length).filter fun i => decide (0 < (M.getD i (0, 1)).1)) ((List.range n).filter fun j => decide (0 < (N.getD j (0, 1)).1)) := by
    have on : ∀ {ms : List Frc} {k : Nat}, Mix ms k → WtOn k ((List.range k).filter fun j => decide (0 < (ms.getD j (0, 1)).1)) (xQ ms) := fun {ms k} hm => ⟨hm.wt, fun j hj no => by
      have nn := hm.wt.nn j hj
      have : ¬ 0 < xQ ms j := fun z => no (List.mem_filter.mpr ⟨List.mem_range.mpr hj, decide_eq_true ((hm.share hj).mp z)⟩)
      grind⟩
    constructor
    · intro i hi
      obtain ⟨a, p⟩ := List.mem_filter.mp hi
      have hi := List.mem_range.mp a
      refine ⟨hi, xQ N, on ok.mn, fun k hk => ?_⟩
      have := ok.sm i hi (of_decide_eq_true p) _ (mem_row.mpr ⟨k, hk, rfl⟩)
      rw [dot_row t1.toRect hk ok.mn.len, dot_row t1.toRect hi ok.mn.len] at this
      exact this
    · intro j hj
      obtain ⟨a, p⟩ := List.mem_filter.mp hj
      have hj := List.mem_range.mp a
      refine ⟨hj, xQ M, on ok.mm, fun k hk => ?_⟩
      have := ok.sn j (by rw [across_len]; exact hj) (of_decide_eq_true p) _ (mem_acr.mpr ⟨k, hk, rfl⟩)
      rw [acr_get hj, dot_col (ok.mm.len.trans hl), dot_col (ok.mm.len.trans hl), ← hl] at this
      exact this
  exact ⟨fun i hi p => c.sr _ _ b i (List.mem_filter.mpr ⟨List.mem_range.mpr hi, decide_eq_true p⟩), fun j hj p => c.sc _ _ b j (List.mem_filter.mpr ⟨List.mem_range.mpr hj, decide_eq_true p⟩)⟩
end
open PySem L2
/-! ### lists of lists of one's own, lists of objects -/
section
variable {K : PySem.W.Frag} {G : Env} {ta tb te : TE} {E : XK} {D : GE}
/-- a field of what a call hands back -/
theorem ev_fldC {C : Addr} {fs : List (Str × Fl)} {f : Str} {d : PyData} (h : EvS K te G (.ob C fs)) (c : Cls K C) (n : NoAttr K C f) (l : fs.lookup f = some (.im d)) : Ev K (tFld K te f) G d := fun F lab σ H r Q q => h F lab σ H r _ fun v F1 H1 g1 n1 => by
  obtain ⟨l1, ⟨p, dx, fvs, rfl, ha, hf⟩, nw⟩ := n1
  obtain ⟨w, lw, hw⟩ := hf.look l
  exact ⟨p, C, dx, fvs, w, rfl, g1.fh _ _ ha, c, n, lw, q _ F1 H1 g1 (.im hw)⟩
/-- a method of what an expression gives -/
theorem ev_methC {C : Addr} {fs : List (Str × Fl)} {m : Str} {R : List Sl → Out → Prop} {t : TA} {ss : List Sl} {s : Sl} (h : EvS K te G (.ob C fs)) (a : allIm fs = true) (n : fs.lookup m = none) (ht : EvA K t G ss) (hR : R (.ob C fs :: ss) (.ret s)) : EvS K (tMeth C m (spR K R) [] E0 te t) G s := fun F lab σ H r Q q => h F lab σ H r _ fun v F0 H0 g0 n0 => by
  obtain ⟨l1, ⟨p, dx, fvs, rfl, ha, hf⟩, nw⟩ := n0
  refine ⟨p, dx, fvs, rfl, g0.fh _ _ ha, hf.lookNo n, ht F0 lab σ H0 (r.go g0) _ fun vs F1 H1 g1 av => ?_⟩
  refine ⟨F1, .ob C fs :: ss, .ret s, g1.fh, ?_, hR, fun v F2 H2 g2 n2 => q v F2 H2 (g0.trans (g1.trans g2)) (n2.base (g0.trans g1).hh)⟩
  rw [List.append_nil]
  exact ⟨⟨p, dx, fvs, rfl, g1.ff _ _ ha, hf.allIm g1.ff a⟩, av⟩
/-- isinstance of what an expression gives -/
theorem ev_isCE {C C2 : Addr} {fs : List (Str × Fl)} {b : Bool} (h : EvS K te G (.ob C fs)) (I : IsU K C) (k : PySem.W.kitOne K (.ref C) (.ref C2) = some b) : Ev K (tCB (rIsi K) (tCons te (tCons (tC (.ref C2)) tNil))) G (.bool b) := fun F lab σ H r Q q => h F lab σ H r _ fun v F1 H1 g1 n1 => by
  obtain ⟨l1, ⟨p, dx, fvs, rfl, ha, hf⟩, nw⟩ := n1
  exact ⟨.ref p, .ref C2, _, _, b, rfl, .own C2, .base (.ins (g1.fh _ _ ha) I.cl I.ha I.hn I.htk I.hm), k, q _ F1 H1 g1 (.im (.bl b))⟩
/-- [a, b], both lists of one's own -/
theorem ev_lst2 {ds es : List PyData} (ha : EvS K ta G (.ow ds)) (hb : EvS K tb G (.ow es)) (n : Nat) (ln : ds.length ≤ n ∧ es.length ≤ n) : EvS K (tLst (tCons ta (tCons tb tNil))) G (.ls false n [some ds, some es]) := fun F lab σ H r Q q =>
  ha F lab σ H r _ fun v1 F1 H1 g1 n1 => hb F1 lab σ H1 (r.go g1) _ fun v2 F2 H2 g2 n2 => by
    obtain ⟨l1, ⟨p1, vs1, rfl, f1, lb1, h1, a1⟩, nw1⟩ := n1
    obtain ⟨l2, ⟨p2, vs2, rfl, f2, lb2, h2, a2⟩, nw2⟩ := n2
    refine ⟨Nat.le_of_ble_eq_true rfl, fun p hp => ?_⟩
    have g := g1.trans g2
    have hp1 : H2 p1 = some (.lst vs1) := g2.hh _ _ h1
    have fp1 : F2 p1 = none := (g2.nw p1 _ h1).trans f1
    have n1p : p ≠ p1 := fun z => by rw [z, hp1] at hp; cases hp
    have n2p : p ≠ p2 := fun z => by rw [z, h2] at hp; cases hp
    have e1 : H p1 = none := nw1 p1 _ lb1
    have e2 : H p2 = none := g1.hh.free (nw2 p2 _ lb2)
    have g3 := g.trans (Go.new (o := .lst [.ref p1, .ref p2]) g.fh hp)
    refine q (.ref p) (upd F2 p (.lst [.ref p1, .ref p2])) _ g3 ⟨fun x => if x = p1 ∨ x = p2 then some (0, "") else none, ⟨p, _, rfl, upd_same, ⟨p1, vs1, rfl, ?_, if_pos (.inl rfl), ?_, ?_, fun d z => ?_⟩, ⟨p2, vs2, rfl, ?_, if_pos (.inr rfl), ?_, ?_, fun d z => ?_⟩, trivial⟩, fun x o e => ?_⟩
    · rw [upd_ne n1p.symm]; exact fp1
    · rw [upd_ne n1p.symm]; exact hp1
    · rw [dpAll_len a1]; exact ln.1
    · cases z; exact dpAll_mono (g2.ff.trans (same_new (g.fh.free hp))) a1
    · rw [upd_ne n2p.symm]; exact f2
    · rw [upd_ne n2p.symm]; exact h2
    · rw [dpAll_len a2]; exact ln.2
    · cases z; exact dpAll_mono (same_new (g.fh.free hp)) a2
    · dsimp only at e
      by_cases hx : x = p1 ∨ x = p2
      · rcases hx with rfl | rfl
        · exact e1
        · exact e2
      · rw [if_neg hx] at e; cases e
/-- return (a, b), both names hold lists of their own -/
theorem st_ret2 {i j : Nat} {ds es : List PyData} {n : Nat} (hi : G[i]? = some (.ow ds)) (hj : G[j]? = some (.ow es)) (ln : ds.length ≤ n ∧ es.length ≤ n) (q : D.rt (.ls true n [some ds, some es])) : St K E (tRet (tTup (tCons (tVar i) (tCons (tVar j) tNil)))) G D := fun B F0 F lab σ H r D' l => by
  obtain ⟨p1, vs1, e1, f1, lb1, h1, a1⟩ := r.rs.own hi
  obtain ⟨p2, vs2, e2, f2, lb2, h2, a2⟩ := r.rs.own hj
  refine ⟨_, e1, _, e2, Nat.le_of_ble_eq_true rfl, fun p hp => ?_⟩
  have n1p : p ≠ p1 := fun z => by rw [z, h1] at hp; cases hp
  have n2p : p ≠ p2 := fun z => by rw [z, h2] at hp; cases hp
  have g3 := r.go.trans (Go.new (o := .tup [.ref p1, .ref p2]) r.rs.fh hp)
  refine l.rt (.ref p) (upd F p (.tup [.ref p1, .ref p2])) _ (.ls true n [some ds, some es]) g3 ⟨fun x => if x = p1 ∨ x = p2 then some (0, "") else none, ⟨p, _, rfl, upd_same, ⟨p1, vs1, rfl, ?_, if_pos (.inl rfl), ?_, ?_, fun d z => ?_⟩, ⟨p2, vs2, rfl, ?_, if_pos (.inr rfl), ?_, ?_, fun d z => ?_⟩, trivial⟩, fun x o e => ?_⟩ q
  · rw [upd_ne n1p.symm]; exact f1
  · rw [upd_ne n1p.symm]; exact h1
  · rw [dpAll_len a1]; exact ln.1
  · cases z; exact dpAll_mono (same_new (r.rs.fh.free hp)) a1
  · rw [upd_ne n2p.symm]; exact f2
  · rw [upd_ne n2p.symm]; exact h2
  · rw [dpAll_len a2]; exact ln.2
  · cases z; exact dpAll_mono (same_new (r.rs.fh.free hp)) a2
  · dsimp only at e
    by_cases hx : x = p1 ∨ x = p2
    · rcases hx with rfl | rfl
      · exact r.lb _ _ lb1
      · exact r.lb _ _ lb2
    · rw [if_neg hx] at e; cases e
theorem ItV.get {n : Nat} {F H : Hp} {lab : Lab} {o : Nat × Str} : ∀ {ws : List V} {its : List (Option (List PyData))} {k : Nat}, ItV K n F H lab o ws its → k < its.length → ∃ p vs, ws[k]? = some (.ref p) ∧ F p = none ∧ lab p = some o ∧ H p = some (.lst vs) ∧ vs.length ≤ n
  | [], [], k, _, h => absurd h (Nat.not_lt_zero k)
  | _ :: _, _ :: _, 0, ⟨⟨p, vs, e, a, b, c, d, _⟩, _⟩, _ => ⟨p, vs, by rw [e]; rfl, a, b, c, d⟩
  | _ :: _, _ :: _, k + 1, ⟨_, t⟩, h => by
    rw [List.getElem?_cons_succ]
    exact ItV.get t (by simpa using h)
theorem ItV.len {n : Nat} {F H : Hp} {lab : Lab} {o : Nat × Str} : ∀ {ws : List V} {its : List (Option (List PyData))}, ItV K n F H lab o ws its → ws.length = its.length
  | [], [], _ => rfl
  | _ :: _, _ :: _, ⟨_, t⟩ => by rw [List.length_cons, List.length_cons, ItV.len t]
theorem ItV.blur {n : Nat} {F H : Hp} {lab : Lab} {o : Nat × Str} {q : Addr} {us : List V} (hu : us.length ≤ n + 1) : ∀ {ws : List V} {its : List (Option (List PyData))}, ItV K n F H lab o ws its → ItV K (n + 1) F (upd H q (.lst us)) lab o ws (its.map fun _ => none)
  | [], [], _ => trivial
  | _ :: _, _ :: _, ⟨⟨p, vs, e, a, b, c, d, _⟩, t⟩ => by
    refine ⟨?_, ItV.blur hu t⟩
    by_cases hq : p = q
    · exact ⟨p, us, e, a, b, by rw [hq]; exact upd_same, hu, fun _ z => nomatch z⟩
    · exact ⟨p, vs, e, a, b, by rw [upd_ne hq]; exact c, Nat.le_succ_of_le d, fun _ z => nomatch z⟩
/-- x[k].append(e): from then on it is left open what is in each -/
theorem st_appLs {j k n : Nat} {tup : Bool} {its : List (Option (List PyData))} {d : PyData} (hg : G[j]? = some (.ls tup n its)) (hk : k < its.length) (h : Ev K te G d) (hn : n < 1000) (hc : its.length < 1000) (q : D.nx (G.set j (.ls tup (n + 1) (its.map fun _ => none)))) :
    St K E (tDrop (tBM K "list" rAppend (tOp (rIx K) (tVar j) (tC (.int (k : Int)))) (tCons te tNil))) G D := fun B F0 F lab σ H r D' l => by
  obtain ⟨v, e, t, ws, rfl, ht, hit⟩ := r.rs.sl j _ hg (fun z => nomatch z)
  obtain ⟨y, us, hy0, fy, ly, hy, hlen⟩ := hit.get hk
  have hat : atI ws (k : Int) = some (.ref y) := by
    have := hit.len
    unfold atI ixN
    rw [if_pos (by omega), if_pos (by omega)]
    exact hy0
  have go : rIx K (.ref t) (.int (k : Int)) H fun x H1 => tyV K "list" x H1 ∧ tCons te tNil σ H1 fun xs H2 => rAppend x xs H2 fun v H' => D'.nx σ H' := by
    have fin : tyV K "list" (.ref y) H ∧ tCons te tNil σ H fun xs H2 => rAppend (.ref y) xs H2 fun v H' => D'.nx σ H' := by
      refine ⟨.inl ⟨rfl, _, SqL.of hy⟩, h F lab σ H r.rs _ fun v F2 H2 g n2 => ?_⟩
      have r2 := r.step g
      have hy2 := g.hh _ _ hy
      have fy2 := (g.nw y _ hy).trans fy
      have byy := r2.lb y _ ly
      refine ⟨y, us, v, rfl, rfl, hy2, by rw [sizeLine_eq]; omega, l.nx F2 lab σ _ _ ⟨⟨same_upd r2.rs.fh fy2, by rw [List.length_set]; exact r2.rs.len, fun i s z m => ?_⟩, ⟨r2.go.ff, same_upd r2.go.hh byy, same_upd r2.go.fh fy2, r2.go.nw⟩, r2.lb, fun a o z => ?_⟩ g.ff q⟩
      · by_cases hi : j = i
        · subst hi
          have hj : j < G.length := (List.getElem?_eq_some_iff.mp hg).1
          rw [List.getElem?_set_self hj] at z
          cases z
          have hit2 : ItV K n F2 H2 lab (j, "") ws its := hit.imp g.ff fun p u a b c => ⟨(g.nw p _ c).trans a, b, g.hh _ _ c⟩
          exact ⟨_, e, t, ws, rfl, g.ff _ _ ht, hit2.blur (by rw [List.length_append]; show us.length + 1 ≤ n + 1; omega)⟩
        · rw [List.getElem?_set_ne hi] at z
          obtain ⟨w, ew, hw⟩ := r2.rs.sl i s z m
          exact ⟨w, ew, hw.other ly (fun z => hi z.symm)⟩
      · by_cases hq : a = y
        · exact ⟨_, by rw [hq]; exact upd_same⟩
        · obtain ⟨u, hu⟩ := r2.lv a o z
          exact ⟨u, by rw [upd_ne hq]; exact hu⟩
    have ht2 := r.rs.fh _ _ ht
    cases tup with
    | true => exact .inr (.inl ⟨t, ws, k, _, rfl, rfl, .inl (.inl ht2), hat, fin⟩)
    | false => exact .inl ⟨t, ws, k, _, rfl, rfl, SqL.of ht2, hat, fin⟩
  exact ⟨_, e, go⟩
/-! ### such a list is quiet while an object is made of it -/
/-- data that stand in no list -/
def Nl (K : PySem.W.Frag) (d : PyData) : Prop := ∀ F F' : Hp, (∀ a u, F a = some u → (∀ ws, u ≠ .lst ws) → F' a = some u) → ∀ v, Dp K F v d → Dp K F' v d
theorem nl_F {x : Frc} : Nl K (encF x) := fun F F' h v hv => by
  obtain ⟨a, xs, rfl, sq, al⟩ := dp_tuple hv
  cases al with
  | cons h1 t =>
    cases t with
    | cons h2 t =>
      cases t
      cases dp_int h1
      cases dp_int h2
      refine .tup ?_ (.cons (Sc.int _).dp (.cons (Sc.int _).dp .nil))
      rcases sq with (sq | ⟨o, sq⟩) | sq
      · exact .inl (.inl (h _ _ sq fun ws z => nomatch z))
      · exact .inl (.inr ⟨o, h _ _ sq fun ws z => nomatch z⟩)
      · exact .inr sq
theorem nl_all {F F' : Hp} (h : ∀ a u, F a = some u → (∀ ws, u ≠ .lst ws) → F' a = some u) : ∀ {vs : List V} {ds : List PyData}, (∀ d ∈ ds, Nl K d) → DpAll K F vs ds → DpAll K F' vs ds
  | [], [], _, _ => .nil
  | _ :: _, _ :: _, n, .cons a t => .cons (n _ List.mem_cons_self _ _ h _ a) (nl_all h (fun d hd => n d (List.mem_cons_of_mem _ hd)) t)
def NlF (K : PySem.W.Frag) : List (Str × Fl) → Prop
  | [] => True
  | (_, .im d) :: r => Nl K d ∧ NlF K r
  | (_, .ow ds) :: r => (∀ d ∈ ds, Nl K d) ∧ NlF K r
  | _ :: _ => False
theorem FsV.less {F F' H : Hp} {lab : Lab} {i : Nat} (h : ∀ a u, F a = some u → (∀ ws, u ≠ .lst ws) → F' a = some u) (hn : ∀ a, F a = none → F' a = none) : ∀ {ps : List (Str × V)} {qs : List (Str × Fl)}, NlF K qs → FsV K F H lab i ps qs → FsV K F' H lab i ps qs
  | [], [], _, _ => trivial
  | _ :: _, (_, .im _) :: _, n, ⟨e, hd, t⟩ => ⟨e, n.1 _ _ h _ hd, FsV.less h hn n.2 t⟩
  | _ :: _, (_, .ow _) :: _, n, ⟨e, ⟨p, vs, e2, fp, lp, hp, al⟩, t⟩ => ⟨e, ⟨p, vs, e2, hn p fp, lp, hp, nl_all h n.1 al⟩, FsV.less h hn n.2 t⟩
  | _ :: _, (_, .nw _) :: _, n, _ => False.elim n
  | _ :: _, (_, .nl _) :: _, n, _ => False.elim n
  | _ :: _, (_, .ju) :: _, n, _ => False.elim n
  | _ :: _, (_, .pr _ _) :: _, n, _ => False.elim n
  | _ :: _, (_, .ls _ _ _) :: _, n, _ => False.elim n
  | _ :: _, (_, .qo _) :: _, n, _ => False.elim n
  | _ :: _, (_, .pin _ _) :: _, n, _ => False.elim n
  | _ :: _, (_, .val _) :: _, n, _ => False.elim n
/-- an own list of own lists, as it stands, made quiet: F with these lists -/
theorem ItV.frz {n : Nat} {F H : Hp} {lab : Lab} {o : Nat × Str} (fh : Same F H) : ∀ {ws : List V} {its : List (Option (List PyData))} {dss : List (List PyData)}, ItV K n F H lab o ws its → allSome its = some dss → ∃ F2, Same F F2 ∧ Same F2 H ∧ (∀ a, F2 a ≠ F a → lab a = some o ∧ F a = none ∧ ∃ vs, F2 a = some (.lst vs)) ∧ DpAll K F2 ws (dss.map .list)
  | [], [], dss, _, z => by
    cases z
    exact ⟨F, .refl F, fh, fun a h => absurd rfl h, .nil⟩
  | w :: ws, none :: its, _, _, z => nomatch z
  | w :: ws, some ds :: its, _, ⟨⟨p, vs, e, fp, lp, hp, l, d⟩, t⟩, z => by
    subst e
    unfold allSome at z
    cases h : allSome its with
    | none => rw [h] at z; cases z
    | some r =>
      rw [h] at z
      cases z
      obtain ⟨F2, a, b, c, al⟩ := ItV.frz fh t h
      have s23 : Same F2 (upd F2 p (.lst vs)) := fun x u z => by
        by_cases hx : x = p
        · subst hx
          have := b _ _ z
          rw [hp] at this
          cases this
          exact upd_same
        · rw [upd_ne hx]; exact z
      refine ⟨upd F2 p (.lst vs), a.trans s23, same_updF b hp, fun x hx => ?_, .cons (.lst (.inl (.inl upd_same)) (dpAll_mono (a.trans s23) (d ds rfl))) (dpAll_mono s23 al)⟩
      by_cases hxp : x = p
      · exact ⟨by rw [hxp]; exact lp, by rw [hxp]; exact fp, vs, by rw [hxp]; exact upd_same⟩
      · rw [upd_ne hxp] at hx ⊢
        exact c x hx
theorem SlV.growS {F F' H : Hp} {lab : Lab} {i : Nat} {v : V} {s : Sl} (ff : Same F F') (fn : ∀ p f, lab p = some (i, f) → F p = none → F' p = none) (h : SlV K F H lab i v s) : SlV K F' H lab i v s := by
  have fl : ∀ {f : Str} {w : V} {x : Fl}, FlV K F H lab (i, f) w x → FlV K F' H lab (i, f) w x := fun {f w x} h => by
    cases x with
    | im d => exact dp_mono ff h
    | ow ds =>
      obtain ⟨p, vs, a, b, c, d, e⟩ := h
      exact ⟨p, vs, a, fn p _ c b, c, d, dpAll_mono ff e⟩
    | nw d =>
      obtain ⟨N, h, a⟩ := h
      exact ⟨N, fun b u q => ⟨(h b u q).1, fn b _ (h b u q).2.2 (h b u q).2.1, (h b u q).2.2⟩, a⟩
    | nl ds =>
      obtain ⟨p, vs, N, x, n, l, hp, np, h, a⟩ := h
      exact ⟨p, vs, N, x, fn p _ l n, l, hp, np, fun b u q => ⟨(h b u q).1, fn b _ (h b u q).2.2 (h b u q).2.1, (h b u q).2.2⟩, a⟩
    | ju =>
      obtain ⟨p, vs, a, b, c, d⟩ := h
      exact ⟨p, vs, a, fn p _ c b, c, d⟩
    | pr ds d =>
      obtain ⟨p, vs, ⟨t, w, e, ht, hw⟩, b, c, d, al⟩ := h
      exact ⟨p, vs, ⟨t, w, e, ff _ _ ht, dp_mono ff hw⟩, fn p _ c b, c, d, dpAll_mono ff al⟩
    | ls tup nn its =>
      obtain ⟨t, ws, x, ht, hi⟩ := h
      exact ⟨t, ws, x, ff _ _ ht, hi.imp ff fun p u a b c => ⟨fn p _ b a, b, c⟩⟩
    | qo os =>
      obtain ⟨t, ws, x, ht, hi⟩ := h
      exact ⟨t, ws, x, ff _ _ ht, hi.mono ff⟩
    | pin w d => exact ⟨h.1, dp_mono ff h.2⟩
    | val w => exact h
  have fsl : ∀ {ps : List (Str × V)} {qs : List (Str × Fl)}, FsV K F H lab i ps qs → FsV K F' H lab i ps qs := by
    intro ps qs
    induction ps generalizing qs with
    | nil => cases qs <;> exact fun h => h
    | cons p ps ih =>
      cases qs with
      | nil => exact fun h => h
      | cons q qs => exact fun h => ⟨h.1, fl h.2.1, ih h.2.2⟩
  cases s with
  | no => trivial
  | fl x => exact fl h
  | ob C fs =>
    obtain ⟨a, dx, fvs, x, y, z⟩ := h
    exact ⟨a, dx, fvs, x, ff _ _ y, fsl z⟩
def lsD (tup : Bool) (dss : List (List PyData)) : PyData := if tup = true then .tuple (dss.map .list) else .list (dss.map .list)
theorem ev_thaw {j n : Nat} {tup : Bool} {its : List (Option (List PyData))} {dss : List (List PyData)} {C : Addr} {fs : List (Str × Fl)} (hg : G[j]? = some (.ls tup n its)) (ha : allSome its = some dss) (h : EvS K te (G.set j (.im (lsD tup dss))) (.ob C fs)) (hn : NlF K fs) : EvS K te G (.ob C fs) := fun F lab σ H r Q q => by
  obtain ⟨v, e, t, ws, rfl, ht, hit⟩ := r.sl j _ hg (fun z => nomatch z)
  obtain ⟨F2, a, b, c, al⟩ := hit.frz r.fh ha
  have rs2 : Rs K F2 lab σ H (G.set j (.im (lsD tup dss))) := by
    refine ⟨b, by rw [List.length_set]; exact r.len, fun i s z m => ?_⟩
    by_cases hi : j = i
    · subst hi
      have hj : j < G.length := (List.getElem?_eq_some_iff.mp hg).1
      rw [List.getElem?_set_self hj] at z
      cases z
      refine ⟨_, e, ?_⟩
      cases tup with
      | true => exact Dp.tup (.inl (.inl (a _ _ ht))) al
      | false => exact Dp.lst (.inl (.inl (a _ _ ht))) al
    · rw [List.getElem?_set_ne hi] at z
      obtain ⟨w, ew, hw⟩ := r.sl i s z m
      refine ⟨w, ew, SlV.growS a (fun p f l fp => ?_) hw⟩
      cases z2 : F2 p with
      | none => rfl
      | some u =>
        have := (c p (by rw [z2, fp]; exact fun z => nomatch z)).1
        rw [l] at this
        exact absurd (congrArg Prod.fst (Option.some.inj this)).symm hi
  refine h F2 lab σ H rs2 Q fun v F' H' g nv => ?_
  classical
  -- what was made quiet is one's own again
  let F3 : Hp := fun x => if F2 x = F x then F' x else none
  have f3 : ∀ x, F2 x = F x → F3 x = F' x := fun x z => if_pos z
  have f4 : ∀ x, F2 x ≠ F x → F3 x = none := fun x z => if_neg z
  have keep : ∀ a u, F' a = some u → (∀ ws, u ≠ .lst ws) → F3 a = some u := fun x u z nl => by
    by_cases hx : F2 x = F x
    · rw [f3 x hx]; exact z
    · obtain ⟨_, _, vs, hv⟩ := c x hx
      have := g.ff _ _ hv
      rw [z] at this
      cases this
      exact absurd rfl (nl vs)
  obtain ⟨l2, ⟨p, dx, fvs, rfl, hp, hf⟩, nw⟩ := nv
  refine q _ F3 H' ⟨fun x u z => ?_, g.hh, fun x u z => ?_, fun x u z => ?_⟩ ⟨l2, ⟨p, dx, fvs, rfl, keep _ _ hp (fun ws z => nomatch z), hf.less keep (fun x z => ?_) hn⟩, nw⟩
  · have e2 := a _ _ z
    rw [f3 x (by rw [z]; exact e2)]
    exact g.ff _ _ e2
  · by_cases hx : F2 x = F x
    · rw [f3 x hx] at z; exact g.fh _ _ z
    · rw [f4 x hx] at z; cases z
  · by_cases hx : F2 x = F x
    · rw [f3 x hx, g.nw x u z, hx]
    · rw [f4 x hx, (c x hx).2.1]
  · by_cases hx : F2 x = F x
    · rw [f3 x hx]; exact z
    · exact f4 x hx
/-! ### quiet objects in a quiet list -/
def imF (f : List (Str × PyData)) : List (Str × Fl) := f.map fun q => (q.1, Fl.im q.2)
theorem fdV_of {F H : Hp} {lab : Lab} {i : Nat} : ∀ {ps : List (Str × V)} {f : List (Str × PyData)}, FsV K F H lab i ps (imF f) → FdV K F ps f
  | [], [], _ => trivial
  | _ :: _, _ :: _, h => ⟨h.1, h.2.1, fdV_of h.2.2⟩
  | [], _ :: _, h => False.elim h
  | _ :: _, [], h => False.elim h
theorem of_fdV {F H : Hp} {lab : Lab} {i : Nat} : ∀ {ps : List (Str × V)} {f : List (Str × PyData)}, FdV K F ps f → FsV K F H lab i ps (imF f)
  | [], [], _ => trivial
  | _ :: _, _ :: _, h => ⟨h.1, h.2.1, of_fdV h.2.2⟩
  | [], _ :: _, h => False.elim h
  | _ :: _, [], h => False.elim h
theorem ev_objs2 {C1 C2 : Addr} {f1 f2 : List (Str × PyData)} (ha : EvS K ta G (.ob C1 (imF f1))) (hb : EvS K tb G (.ob C2 (imF f2))) : EvS K (tLst (tCons ta (tCons tb tNil))) G (.qo [(C1, f1), (C2, f2)]) := fun F lab σ H r Q q =>
  ha F lab σ H r _ fun v1 F1 H1 g1 n1 => hb F1 lab σ H1 (r.go g1) _ fun v2 F2 H2 g2 n2 => by
    obtain ⟨l1, ⟨p1, d1, s1, rfl, h1, a1⟩, nw1⟩ := n1
    obtain ⟨l2, ⟨p2, d2, s2, rfl, h2, a2⟩, nw2⟩ := n2
    refine ⟨Nat.le_of_ble_eq_true rfl, fun p hp => ?_⟩
    have g := g1.trans g2
    have sn : Same F2 (upd F2 p (.lst [.ref p1, .ref p2])) := same_new (g.fh.free hp)
    exact q (.ref p) (upd F2 p (.lst [.ref p1, .ref p2])) _ (g.trans (Go.new g.fh hp)) ⟨noLab, ⟨p, _, rfl, upd_same, ⟨p1, d1, s1, rfl, sn _ _ (g2.ff _ _ h1), (fdV_of a1).mono (g2.ff.trans sn)⟩, ⟨p2, d2, s2, rfl, sn _ _ h2, (fdV_of a2).mono sn⟩, trivial⟩, fun _ _ z => nomatch z⟩
theorem QoV.get {F : Hp} : ∀ {ws : List V} {os : List (Addr × List (Str × PyData))} {k : Nat} {x : Addr × List (Str × PyData)}, QoV K F ws os → os[k]? = some x → ∃ p dx fvs, ws[k]? = some (.ref p) ∧ F p = some (.ins x.1 dx fvs) ∧ FdV K F fvs x.2
  | _ :: _, _ :: _, 0, _, ⟨⟨p, dx, fvs, e, a, b⟩, _⟩, h => by
    cases h
    exact ⟨p, dx, fvs, by rw [e]; rfl, a, b⟩
  | _ :: ws, _ :: os, k + 1, _, ⟨_, t⟩, h => by
    rw [List.getElem?_cons_succ] at h ⊢
    exact QoV.get t h
  | [], [], _, _, _, h => by simp at h
theorem QoV.len {F : Hp} : ∀ {ws : List V} {os : List (Addr × List (Str × PyData))}, QoV K F ws os → ws.length = os.length
  | [], [], _ => rfl
  | _ :: _, _ :: _, ⟨_, t⟩ => by rw [List.length_cons, List.length_cons, QoV.len t]
theorem ev_qoItem {i k : Nat} {os : List (Addr × List (Str × PyData))} {C : Addr} {f : List (Str × PyData)} (h : G[i]? = some (.qo os)) (hk : os[k]? = some (C, f)) : EvS K (tOp (rIx K) (tVar i) (tC (.int (k : Int)))) G (.ob C (imF f)) := fun F lab σ H r Q q => by
  obtain ⟨v, e, t, ws, rfl, ht, hit⟩ := r.sl i _ h (fun z => nomatch z)
  obtain ⟨p, dx, fvs, hp, ha, hf⟩ := hit.get hk
  have hl := hit.len
  have hkl : k < os.length := (List.getElem?_eq_some_iff.mp hk).1
  have hat : atI ws (k : Int) = some (.ref p) := by
    unfold atI ixN
    rw [if_pos (by omega), if_pos (by omega)]
    exact hp
  exact ⟨_, e, .inl ⟨t, ws, k, _, rfl, rfl, SqL.of (r.fh _ _ ht), hat, q _ F H (.refl r.fh) ⟨noLab, ⟨p, dx, fvs, rfl, ha, of_fdV hf⟩, fun _ _ z => nomatch z⟩⟩⟩
end
open PySem L2
/-! ### lists of one's own that are read in passing by a statement; two of them, the one or the other changed -/
theorem pe_remN {X : Cx} {o e : Expr} {to te : TE} {apos cpos : Pos} (hc : X.calm = true) (ho : PE X o to) (he : PE X e te) (hbase : attributeBase o "remove" X.env (eval o X.env) = eval o X.env := by rfl)
    (hfew : ((backTo cpos (starEach [e] X.env)).all (fun x => !x.1) && (backToKw cpos (keywordEach [] X.env)).all (fun x => x.1.isSome)
      && decide (([e] : List Expr).length + ([] : List Keyword).length + (if ([] : List Keyword).isEmpty then 0 else 1) < 30)) = true := by rfl)
    (hline : (apos.endLine == cpos.line) = true := by rfl) (hs : starEach [e] X.env = (false, eval e X.env) :: starEach [] X.env := by rfl) (hplain : (backTo cpos (starEach [] X.env)).any (·.1) = false := by rfl) :
    PE X (.Call (.Attribute o "remove" apos) [e] [] cpos) (tRemX X.K (fun _ _ _ _ => False) to te) :=
  pe_remX hc (fun u s' ⟨a, B, sI, pins, σ, H, cls, d, e, I, nb, up, sky, na, os, ag, w⟩ => w.elim) ho he hbase hfew hline hs hplain
section
variable {K : PySem.W.Frag} {G : Env} {ta tb te : TE} {E : XK} {D : GE} {t : TS}
theorem ev_varP {i : Nat} {w : V} {d : PyData} (h : G[i]? = some (.pin w d)) : Ev K (tVar i) G d := fun F lab σ H r Q q => by
  obtain ⟨v, e, _, hv⟩ := r.sl i _ h (fun z => nomatch z)
  exact ⟨v, e, q v F H (.refl r.fh) (.im hv)⟩
def pin1 (w : V) : Sl → Sl
  | .fl (.im d) => .pin w d
  | .fl (.ow ds) => .pin w (.list ds)
  | _ => .no
def pinE (f : Nat → V) : Nat → Env → Env
  | _, [] => []
  | l, s :: r => pin1 (f l) s :: pinE f (l + 1) r
theorem pinE_len (f : Nat → V) : ∀ (l : Nat) (G : Env), (pinE f l G).length = G.length
  | _, [] => rfl
  | l, _ :: r => by
    show (pinE f (l + 1) r).length + 1 = _
    rw [pinE_len f (l + 1) r]
    rfl
theorem pinE_get (f : Nat → V) : ∀ (l : Nat) (G : Env) (i : Nat), (pinE f l G)[i]? = (G[i]?).map (pin1 (f (l + i)))
  | _, [], _ => by simp [pinE]
  | l, _ :: _, 0 => rfl
  | l, _ :: r, i + 1 => by
    show (pinE f (l + 1) r)[i]? = _
    rw [pinE_get f (l + 1) r i, List.getElem?_cons_succ]
    have : l + 1 + i = l + (i + 1) := by omega
    rw [this]
/-- a statement that only reads two lists of one's own, and leaves one thing behind, which stands in no list -/
theorem st_scope {i j k : Nat} {ds es : List PyData} {P : PyData → Prop} (hi : G[i]? = some (.ow ds)) (hj : G[j]? = some (.ow es)) (hij : i ≠ j) (hki : k ≠ i) (hkj : k ≠ j) {d0 : PyData} (hk : G[k]? = some (.im d0))
    (simple : ∀ l s, G[l]? = some s → l = i ∨ l = j ∨ s = .no ∨ ∃ d, s = .im d)
    (h : ∀ f : Nat → V, St K E t ((pinE f 0 G).set k (.im d0)) { nx := fun G2 => ∃ d, Nl K d ∧ P d ∧ Le ((pinE f 0 G).set k (.im d)) G2, bk := fun _ => False, ct := fun _ => False, rt := fun _ => False, ex := fun _ => False })
    (q : ∀ d, P d → D.nx (G.set k (.im d))) : St K E t G D := fun B F0 F lab σ H r D' L => by
  obtain ⟨p1, vs1, e1, f1, lb1, h1, a1⟩ := r.rs.own hi
  obtain ⟨p2, vs2, e2, f2, lb2, h2, a2⟩ := r.rs.own hj
  have ne : p1 ≠ p2 := fun z => hij (by
    rw [z, lb2] at lb1
    exact (congrArg Prod.fst (Option.some.inj lb1)).symm)
  have b1 := r.lb p1 _ lb1
  have b2 := r.lb p2 _ lb2
  have f2' : upd F p1 (.lst vs1) p2 = none := by rw [upd_ne ne.symm]; exact f2
  have ff : Same F (upd (upd F p1 (.lst vs1)) p2 (.lst vs2)) := (same_new f1).trans (same_new f2')
  have q1 : upd (upd F p1 (.lst vs1)) p2 (.lst vs2) p1 = some (.lst vs1) := by rw [upd_ne ne]; exact upd_same
  have q2 : upd (upd F p1 (.lst vs1)) p2 (.lst vs2) p2 = some (.lst vs2) := upd_same
  have qo : ∀ x, x ≠ p1 → x ≠ p2 → upd (upd F p1 (.lst vs1)) p2 (.lst vs2) x = F x := fun x x1 x2 => by rw [upd_ne x2, upd_ne x1]
  have fh : Same (upd (upd F p1 (.lst vs1)) p2 (.lst vs2)) H := same_updF (same_updF r.rs.fh h1) h2
  generalize upd (upd F p1 (.lst vs1)) p2 (.lst vs2) = Fq at *
  let f : Nat → V := fun l => match σ[l]? with
    | some (some v) => v
    | _ => .non
  have fv : ∀ l v, σ[l]? = some (some v) → f l = v := fun l v z => by
    show (match σ[l]? with | some (some v) => v | _ => V.non) = v
    rw [z]
  have hkl : k < G.length := (List.getElem?_eq_some_iff.mp hk).1
  have rs2 : Rs K Fq lab σ H ((pinE f 0 G).set k (.im d0)) := by
    refine ⟨fh, by rw [List.length_set]; exact (pinE_len f 0 G).trans r.rs.len, fun l s e n => ?_⟩
    by_cases hkk : k = l
    · subst hkk
      rw [List.getElem?_set_self (by rw [pinE_len]; exact hkl)] at e
      cases e
      obtain ⟨v, ev, hv⟩ := r.rs.sl k _ hk (fun z => nomatch z)
      exact ⟨v, ev, dp_mono ff hv⟩
    rw [List.getElem?_set_ne hkk, pinE_get, Nat.zero_add] at e
    cases e0 : G[l]? with
    | none => rw [e0] at e; cases e
    | some s0 =>
      rw [e0] at e
      cases e
      rcases simple l s0 e0 with rfl | rfl | rfl | ⟨d, rfl⟩
      · rw [hi] at e0
        cases e0
        exact ⟨_, e1, (fv _ _ e1).symm, .lst (.inl (.inl q1)) (dpAll_mono ff a1)⟩
      · rw [hj] at e0
        cases e0
        exact ⟨_, e2, (fv _ _ e2).symm, .lst (.inl (.inl q2)) (dpAll_mono ff a2)⟩
      · exact absurd rfl n
      · obtain ⟨v, ev, hv⟩ := r.rs.sl l _ e0 (fun z => nomatch z)
        exact ⟨v, ev, (fv _ _ ev).symm, dp_mono ff hv⟩
  refine h f B F0 Fq lab σ H ⟨rs2, ⟨r.go.ff.trans ff, r.go.hh, fh, fun a o z => ?_⟩, r.lb, r.lv⟩ D' ⟨fun F2 lab2 σ2 H2 G2 r3 s2 ⟨d, hd, hP, le⟩ => ?_, fun _ _ _ _ _ _ z => z.elim, fun _ _ _ _ _ _ _ z => z.elim, fun _ _ _ _ _ _ _ z => z.elim, fun _ _ _ _ z => z.elim⟩
  · rw [qo a (fun x => by rw [x, b1] at z; cases z) (fun x => by rw [x, b2] at z; cases z)]
    exact r.go.nw a o z
  classical
  let F3 : Hp := fun x => if x = p1 ∨ x = p2 then none else F2 x
  have t1 : F3 p1 = none := if_pos (.inl rfl)
  have t2 : F3 p2 = none := if_pos (.inr rfl)
  have to : ∀ x, x ≠ p1 → x ≠ p2 → F3 x = F2 x := fun x x1 x2 => if_neg fun z => z.elim x1 x2
  have le3 : ∀ x u, F3 x = some u → F2 x = some u := fun x u z => by
    by_cases hx : x = p1 ∨ x = p2
    · rw [show F3 x = none from if_pos hx] at z; cases z
    · rw [show F3 x = F2 x from if_neg hx] at z; exact z
  have u1 := s2 _ _ q1
  have u2 := s2 _ _ q2
  have s13 : Same F F3 := fun x u z => by
    have := s2 _ _ (ff _ _ z)
    rw [to x (fun w => by rw [w, f1] at z; cases z) (fun w => by rw [w, f2] at z; cases z)]
    exact this
  have keep : ∀ a u, F2 a = some u → (∀ ws, u ≠ .lst ws) → F3 a = some u := fun x u z nl => by
    rw [to x (fun w => by rw [w, u1] at z; exact nl _ (Option.some.inj z).symm) (fun w => by rw [w, u2] at z; exact nl _ (Option.some.inj z).symm)]
    exact z
  let lab3 : Lab := fun x => if x = p1 then some (i, "") else if x = p2 then some (j, "") else none
  have l1 : lab3 p1 = some (i, ("" : Str)) := if_pos rfl
  have l2 : lab3 p2 = some (j, ("" : Str)) := by show (if p2 = p1 then _ else if p2 = p2 then _ else _) = _; rw [if_neg ne.symm, if_pos rfl]
  have lo : ∀ x o, lab3 x = some o → x = p1 ∨ x = p2 := fun x o z => by
    by_cases x1 : x = p1
    · exact .inl x1
    · by_cases x2 : x = p2
      · exact .inr x2
      · rw [show lab3 x = none from (if_neg x1).trans (if_neg x2)] at z; cases z
  have fh3 : Same F3 H2 := fun x u z => r3.rs.fh _ _ (le3 x u z)
  refine L.nx F3 lab3 σ2 H2 (G.set k (.im d)) ⟨⟨fh3, ?_, fun l s e n => ?_⟩, ⟨r.go.ff.trans s13, r3.go.hh, fh3, fun a o z => ?_⟩, fun x o z => ?_, fun x o z => ?_⟩ s13 (q d hP)
  · have a := le.1
    rw [List.length_set, pinE_len] at a
    rw [List.length_set]
    exact a.trans r3.rs.len
  · have get : ∀ (l : Nat) (s : Sl), l ≠ k → G[l]? = some s → pin1 (f l) s ≠ .no → G2[l]? = some (pin1 (f l) s) := fun l s hlk hl hn => by
      refine le.2 l _ ?_ hn
      rw [List.getElem?_set_ne (fun z => hlk z.symm), pinE_get, hl, Nat.zero_add]
      rfl
    by_cases hlk : k = l
    · subst hlk
      rw [List.getElem?_set_self hkl] at e
      cases e
      have e5 : G2[k]? = some (.im d) := le.2 k _ (by rw [List.getElem?_set_self (by rw [pinE_len]; exact hkl)]) (fun z => nomatch z)
      obtain ⟨v, ev, hv⟩ := r3.rs.sl k _ e5 (fun z => nomatch z)
      exact ⟨v, ev, hd F2 F3 keep v hv⟩
    · rw [List.getElem?_set_ne hlk] at e
      have hlk' : l ≠ k := fun z => hlk z.symm
      rcases simple l s e with rfl | rfl | rfl | ⟨d0, rfl⟩
      · rw [hi] at e
        cases e
        obtain ⟨v, ev, hv, _⟩ := r3.rs.sl l _ (get l _ hlk' hi (fun z => nomatch z)) (fun z => nomatch z)
        refine ⟨v, ev, p1, vs1, ?_, t1, l1, r3.rs.fh _ _ u1, dpAll_mono s13 a1⟩
        rw [hv, fv _ _ e1]
      · rw [hj] at e
        cases e
        obtain ⟨v, ev, hv, _⟩ := r3.rs.sl l _ (get l _ hlk' hj (fun z => nomatch z)) (fun z => nomatch z)
        refine ⟨v, ev, p2, vs2, ?_, t2, l2, r3.rs.fh _ _ u2, dpAll_mono s13 a2⟩
        rw [hv, fv _ _ e2]
      · exact absurd rfl n
      · obtain ⟨v0, ev0, hv0⟩ := r.rs.sl l _ e (fun z => nomatch z)
        obtain ⟨v, ev, hv, _⟩ := r3.rs.sl l _ (get l _ hlk' e (fun z => nomatch z)) (fun z => nomatch z)
        refine ⟨v, ev, ?_⟩
        rw [hv, fv _ _ ev0]
        exact dp_mono s13 hv0
  · rw [to a (fun x => by rw [x, b1] at z; cases z) (fun x => by rw [x, b2] at z; cases z)]
    exact r3.go.nw a o z
  · rcases lo x o z with rfl | rfl
    · exact b1
    · exact b2
  · rcases lo x o z with rfl | rfl
    · exact ⟨_, r3.rs.fh _ _ u1⟩
    · exact ⟨_, r3.rs.fh _ _ u2⟩
/-- (a, b)[k].remove(x) -/
theorem st_rmSel {i j : Nat} {S T : List Int} {b : Bool} {k : Int} (hi : G[i]? = some (.ow (S.map .int))) (hj : G[j]? = some (.ow (T.map .int))) (hx : EvH K ta G (.int (if b = true then 1 else 0))) (hk : Ev K te G (.int k)) (hm : k ∈ if b = true then T else S)
    (q : D.nx (if b = true then G.set j (.ow ((T.erase k).map .int)) else G.set i (.ow ((S.erase k).map .int)))) : St K E (tDrop (tRemX K (fun _ _ _ _ => False) (tOp (rIx K) (tTup (tCons (tVar i) (tCons (tVar j) tNil))) ta) te)) G D := fun B F0 F lab σ H r D' L => by
  obtain ⟨p1, vs1, e1, f1, lb1, h1, a1⟩ := r.rs.own hi
  obtain ⟨p2, vs2, e2, f2, lb2, h2, a2⟩ := r.rs.own hj
  refine ⟨_, e1, _, e2, Nat.le_of_ble_eq_true rfl, fun p hp => ?_⟩
  have g0 : Go F H F (upd H p (.tup [.ref p1, .ref p2])) := .heap r.rs.fh (same_new hp)
  refine hx F lab σ _ (r.rs.go g0) _ fun y F1 H1 g1 dy => ?_
  cases dp_int dy
  have g01 := g0.trans g1
  have ht : H1 p = some (.tup [.ref p1, .ref p2]) := g1.hh _ _ upd_same
  have fin : ∀ (jj : Nat) (pp : Addr) (vv : List V) (R : List Int), G[jj]? = some (.ow (R.map .int)) → σ[jj]? = some (some (.ref pp)) → F pp = none → lab pp = some (jj, ("" : Str)) → H pp = some (.lst vv) → DpAll K F vv (R.map .int) → k ∈ R → D.nx (G.set jj (.ow ((R.erase k).map .int))) →
      tyV K "list" (.ref pp) H1 ∧ te σ H1 fun y H2 => ∃ (l : Addr) (ns : List Int) (k : Int), V.ref pp = .ref l ∧ y = .int k ∧ H2 l = some (.lst (ns.map V.int)) ∧ (k ∈ ns → D'.nx σ (upd H2 l (.lst ((ns.erase k).map V.int)))) ∧ (k ∉ ns → ∀ d, (fun _ _ _ _ => False : WX) (.type "ValueError") d σ H2) := fun jj pp vv R hg hs fp lp hp al hkR qq => by
    have hp1 := g01.hh _ _ hp
    refine ⟨.inl ⟨rfl, _, SqL.of hp1⟩, hk F1 lab σ H1 (r.rs.go g01) _ fun w F2 H2 g2 n2 => ?_⟩
    have g := g01.trans g2
    have r2 := r.step g
    cases dp_int n2.dp
    have e := dpAll_ints al
    subst e
    refine ⟨pp, R, k, rfl, rfl, g.hh _ _ hp, fun _ => ?_, fun z => absurd hkR z⟩
    exact L.nx F2 lab σ _ _ (r2.mut hg hs ((g.nw pp _ hp).trans fp) lp ⟨_, g.hh _ _ hp⟩ (ints_dpAll (R.erase k))) g.ff qq
  cases b with
  | true => exact .inr (.inl ⟨p, _, 1, _, rfl, rfl, .inl (.inl ht), rfl, fin j p2 vs2 T hj e2 f2 lb2 h2 a2 hm q⟩)
  | false => exact .inr (.inl ⟨p, _, 0, _, rfl, rfl, .inl (.inl ht), rfl, fin i p1 vs1 S hi e1 f1 lb1 h1 a1 hm q⟩)
/-- list(range(n)) -/
theorem ev_listRg {n : Nat} (h : EvH K te G (.int (n : Nat))) (hn : n ≤ 1000) : EvS K (tLstRg (tRg1 te)) G (.ow ((List.range n).map fun i : Nat => .int i)) := fun F lab σ H r Q q => h F lab σ H r _ fun v F1 H1 g1 d1 => by
  cases dp_int d1
  refine ⟨_, rfl, RgOk.of_le (by decide) (by omega) (by decide) (by omega), own_new g1 ?_ q⟩
  have e : rgV 0 (n : Int) = ((List.range n).map fun i : Nat => (i : Int)).map V.int := by
    unfold rgV
    rw [List.map_map]
    have : ((n : Int) - 0).toNat = n := by omega
    rw [this]
    refine List.map_congr_left fun i _ => ?_
    show V.int (0 + (i : Int)) = V.int (i : Int)
    rw [Int.zero_add]
  have e2 : ((List.range n).map fun i : Nat => PyData.int i) = ((List.range n).map fun i : Nat => (i : Int)).map PyData.int := by rw [List.map_map]; rfl
  rw [e, e2]
  exact ints_dpAll _
/-- where a number stands -/
theorem ev_index {S : List Nat} {c : Nat} (ha : EvH K ta G (.list (S.map fun i : Nat => .int i))) (hb : EvH K tb G (.int (c : Nat))) (hc : c ∈ S) : Ev K (tBM K "list" (rIndexD K) ta (tCons tb tNil)) G (.int (S.idxOf c : Nat)) := fun F lab σ H r Q q => ha F lab σ H r _ fun v F1 H1 g1 d1 => by
  obtain ⟨a, xs, rfl, sq, al⟩ := dp_list d1
  refine ⟨.inl ⟨rfl, _, sq⟩, hb F1 lab σ H1 (r.go g1) _ fun w F2 H2 g2 d2 => ?_⟩
  have sh : ∀ d ∈ S.map (fun i : Nat => PyData.int i), Lay 0 d := fun d hd => by
    obtain ⟨_, _, rfl⟩ := List.mem_map.mp hd
    exact lay_int
  have hx := List.idxOf_lt_length_of_mem hc
  refine ⟨a, w, .int (c : Nat), _, S.idxOf c, .int (c : Nat), rfl, rfl, dp_mono g2.hh d1, d2, shaped_of (lay_listD sh) (by decide), shaped_of lay_int (by decide), ?_, by rw [eqv_int, decide_eq_true rfl], fun m z' hm hz => ?_, q _ F2 H2 (g1.trans g2) (.im (.int _))⟩
  · rw [List.getElem?_map, List.getElem?_eq_getElem hx, List.getElem_idxOf hx]
    rfl
  · rw [List.getElem?_map, List.getElem?_eq_getElem (by omega)] at hz
    cases hz
    rw [eqv_int]
    refine decide_eq_false fun e => ?_
    have e2 : S[m] = c := by omega
    have := List.not_of_lt_findIdx (p := (· == c)) (xs := S) hm
    rw [e2, beq_self_eq_true] at this
    cases this
/-- a list of one's own is quiet while a new list is made of it -/
theorem ev_thawO {i : Nat} {ds es : List PyData} (hg : G[i]? = some (.ow ds)) (h : EvS K te (G.set i (.im (.list ds))) (.ow es)) (hn : ∀ e ∈ es, Nl K e) : EvS K te G (.ow es) := fun F lab σ H r Q q => by
  obtain ⟨v0, e0, p, vs, rfl, fp, lp, hp, al⟩ := r.sl i _ hg (fun z => nomatch z)
  have a : Same F (upd F p (.lst vs)) := same_new fp
  have b : Same (upd F p (.lst vs)) H := same_updF r.fh hp
  have rs2 : Rs K (upd F p (.lst vs)) lab σ H (G.set i (.im (.list ds))) := by
    refine ⟨b, by rw [List.length_set]; exact r.len, fun l s z m => ?_⟩
    by_cases hi : i = l
    · subst hi
      have hj : i < G.length := (List.getElem?_eq_some_iff.mp hg).1
      rw [List.getElem?_set_self hj] at z
      cases z
      exact ⟨_, e0, .lst (.inl (.inl upd_same)) (dpAll_mono a al)⟩
    · rw [List.getElem?_set_ne hi] at z
      obtain ⟨w, ew, hw⟩ := r.sl l s z m
      refine ⟨w, ew, SlV.growS a (fun x f l2 fx => ?_) hw⟩
      rw [upd_ne (fun y => ?_)]
      · exact fx
      · rw [y, lp] at l2
        exact hi (congrArg Prod.fst (Option.some.inj l2))
  refine h _ lab σ H rs2 Q fun v F' H' g nv => ?_
  classical
  let F3 : Hp := fun x => if x = p then none else F' x
  have f4 : F3 p = none := if_pos rfl
  have f3 : ∀ x, x ≠ p → F3 x = F' x := fun x z => if_neg z
  have up : F' p = some (.lst vs) := g.ff _ _ upd_same
  have keep : ∀ a u, F' a = some u → (∀ ws, u ≠ .lst ws) → F3 a = some u := fun x u z nl => by
    rw [f3 x (fun y => by rw [y, up] at z; exact nl _ (Option.some.inj z).symm)]
    exact z
  obtain ⟨l2, ⟨q2, ws, rfl, fq, lq, hq, al2⟩, nw⟩ := nv
  refine q _ F3 H' ⟨fun x u z => ?_, g.hh, fun x u z => ?_, fun x u z => ?_⟩ ⟨l2, ⟨q2, ws, rfl, ?_, lq, hq, nl_all keep hn al2⟩, nw⟩
  · have ne : x ≠ p := fun y => by rw [y, fp] at z; cases z
    rw [f3 x ne]
    exact g.ff _ _ (a _ _ z)
  · by_cases hx : x = p
    · rw [hx, f4] at z; cases z
    · rw [f3 x hx] at z; exact g.fh _ _ z
  · by_cases hx : x = p
    · rw [hx, f4, fp]
    · rw [f3 x hx, g.nw x u z, upd_ne hx]
  · by_cases hx : q2 = p
    · rw [hx]; exact f4
    · rw [f3 q2 hx]; exact fq
end
open PySem L2
/-! ### cards struck: the program's words -/
theorem enum_N (cards : List Nat) : enumD (cards.map fun i : Nat => PyData.int i) = (List.range cards.length).map fun k : Nat => .tuple [.int k, .int (cards.getD k 0 : Nat)] := by
  have e : (cards.map fun i : Nat => PyData.int i) = (cards.map fun i : Nat => (i : Int)).map .int := by rw [List.map_map]; rfl
  rw [e, enum_range, List.length_map]
  refine List.map_congr_left fun k hk => ?_
  have hk := List.mem_range.mp hk
  have : (cards.map fun i : Nat => (i : Int)).getD k 0 = ((cards.getD k 0 : Nat) : Int) := by
    rw [List.getD_eq_getElem?_getD, List.getElem?_map, getD_of (d := 0) hk]
    rfl
  rw [this]

theorem eqv_2N (a b c d : List Nat) : PyData.eqv (.tuple [encN a, encN b]) (.tuple [encN c, encN d]) = decide (a = c ∧ b = d) := by
  rw [PyData.eqv, PyData.eqvAll, PyData.eqvAll, PyData.eqvAll, eqv_N, eqv_N, Bool.and_true, ← Bool.decide_and]
theorem ints_mv {K : PySem.W.Frag} {F F' : Hp} {vs : List V} {S : List Nat} (h : DpAll K F vs (S.map fun i : Nat => .int i)) : DpAll K F' vs (S.map fun i : Nat => .int i) := by
  have e : (S.map fun i : Nat => PyData.int i) = (S.map fun i : Nat => (i : Int)).map .int := by rw [List.map_map]; rfl
  rw [e] at h ⊢
  rw [dpAll_ints h]
  exact ints_dpAll _
theorem EvB.le {K : PySem.W.Frag} {G G' : Env} {c : TT} {b : Bool} (a : Le G G') (h : EvB K c G b) : EvB K c G' b := fun F lab σ H r => h F lab σ H (r.le a)

def R_part : List Sl → Out → Prop := fun ss o => ∃ (t : List (List Int)) (n : Nat) (S T : List Nat), ss = [.im (encT t), .im (encN S), .im (encN T)] ∧ Rect t n ∧ (∀ i ∈ S, i < t.length) ∧ (∀ j ∈ T, j < n) ∧ S.length ≤ 4 ∧ T.length ≤ 4 ∧ o = .ret (.im (encT (partT t S T)))
def t_part (K : PySem.W.Frag) : TS := (tRet (tLc (iList K (tVar 1)) (gName 3) tYes (tLc (iList K (tVar 2)) (gName 4) tYes (tOp (rIx K) (tOp (rIx K) (tVar 0) (tVar 3)) (tVar 4)) [4]) [3]))
theorem len_part {ss : List Sl} {o : Out} (h : R_part ss o) : ss.length = 3 := by
  first | (obtain ⟨_, rfl, _⟩ := h; rfl) | (obtain ⟨_, _, rfl, _⟩ := h; rfl) | (obtain ⟨_, _, _, rfl, _⟩ := h; rfl) | (obtain ⟨_, _, _, _, rfl, _⟩ := h; rfl) | (obtain ⟨_, _, _, _, _, rfl, _⟩ := h; rfl) | (obtain ⟨_, _, _, _, _, _, rfl, _⟩ := h; rfl)
theorem b_part {K : PySem.W.Frag} {E : XK} (ss : List Sl) (o : Out) (h : R_part ss o) : St K E (t_part K) (params ["table", "rows", "columns", "row", "column"] ss) { nx := fun _ => o = .ret (.im .none), rt := fun s => o = .ret s, ex := fun c => o = .exc c } := by
  obtain ⟨t, n, S, T, rfl, tab, hS, hT, lS, lT, rfl⟩ := h
  refine st_ret (s := .im (encT (partT t S T))) (EvS.freeze (EvS.to (ev_lc1 (xs := S) (enc := fun i : Nat => .int i) (vs := [3]) (ei_list (ev_var rfl)) (fun i => encR (T.map fun j => entry t i j)) (fun i => [.im (encT t), .im (encN S), .im (encN T), .im (.int (i : Nat)), .no]) (fun i _ => tg_name (by decide)) (fun i hi => ?_) (by omega)) (by unfold partT; rw [List.map_map]; rfl))) rfl
  refine EvS.freeze (EvS.to (ev_lc1 (xs := T) (enc := fun j : Nat => .int j) (vs := [4]) (ei_list (ev_var rfl)) (fun j => .int (entry t i j)) (fun j => [.im (encT t), .im (encN S), .im (encN T), .im (.int (i : Nat)), .im (.int (j : Nat))]) (fun j _ => tg_name (by decide)) (fun j hj => ?_) (by omega)) (by rw [map_int_map]))
  obtain ⟨g1, g2⟩ := tab.at (hS i hi) (hT j hj)
  exact ev_ix (ev_ix (a := encT t) (ev_var rfl) (EvS.h (ev_var rfl)) (item_T g1)) (EvS.h (ev_var rfl)) (item_R g2)

def R_law_part : List Sl → Out → Prop := fun ss o => ∃ (t : List (List Int)) (n : Nat) (S T : List Nat), ss = [.im (encT t), .im (encN S), .im (encN T)] ∧ Rect t n ∧ (∀ i ∈ S, i < t.length) ∧ (∀ j ∈ T, j < n) ∧ S.length ≤ 4 ∧ T.length ≤ 4 ∧ o = .ret (.im (encT (partT t S T)))
def t_law_part (K : PySem.W.Frag) : TS := (tRet (tLc (iList K (tVar 1)) (gName 3) tYes (tLc (iList K (tVar 2)) (gName 4) tYes (tOp (rIx K) (tOp (rIx K) (tVar 0) (tVar 3)) (tVar 4)) [4]) [3]))
theorem len_law_part {ss : List Sl} {o : Out} (h : R_law_part ss o) : ss.length = 3 := by
  first | (obtain ⟨_, rfl, _⟩ := h; rfl) | (obtain ⟨_, _, rfl, _⟩ := h; rfl) | (obtain ⟨_, _, _, rfl, _⟩ := h; rfl) | (obtain ⟨_, _, _, _, rfl, _⟩ := h; rfl) | (obtain ⟨_, _, _, _, _, rfl, _⟩ := h; rfl) | (obtain ⟨_, _, _, _, _, _, rfl, _⟩ := h; rfl)
theorem b_law_part {K : PySem.W.Frag} {E : XK} (ss : List Sl) (o : Out) (h : R_law_part ss o) : St K E (t_law_part K) (params ["_law_table_here", "_law_rows", "_law_columns", "_law_row", "_law_column"] ss) { nx := fun _ => o = .ret (.im .none), rt := fun s => o = .ret s, ex := fun c => o = .exc c } := by
  obtain ⟨t, n, S, T, rfl, tab, hS, hT, lS, lT, rfl⟩ := h
  refine st_ret (s := .im (encT (partT t S T))) (EvS.freeze (EvS.to (ev_lc1 (xs := S) (enc := fun i : Nat => .int i) (vs := [3]) (ei_list (ev_var rfl)) (fun i => encR (T.map fun j => entry t i j)) (fun i => [.im (encT t), .im (encN S), .im (encN T), .im (.int (i : Nat)), .no]) (fun i _ => tg_name (by decide)) (fun i hi => ?_) (by omega)) (by unfold partT; rw [List.map_map]; rfl))) rfl
  refine EvS.freeze (EvS.to (ev_lc1 (xs := T) (enc := fun j : Nat => .int j) (vs := [4]) (ei_list (ev_var rfl)) (fun j => .int (entry t i j)) (fun j => [.im (encT t), .im (encN S), .im (encN T), .im (.int (i : Nat)), .im (.int (j : Nat))]) (fun j _ => tg_name (by decide)) (fun j hj => ?_) (by omega)) (by rw [map_int_map]))
  obtain ⟨g1, g2⟩ := tab.at (hS i hi) (hT j hj)
  exact ev_ix (ev_ix (a := encT t) (ev_var rfl) (EvS.h (ev_var rfl)) (item_T g1)) (EvS.h (ev_var rfl)) (item_R g2)

def R_kept : List Sl → Out → Prop := fun ss o => ∃ (t : List (List Int)) (n : Nat) (cards : List Nat), ss = [.im (encT t), .im (encN cards)] ∧ Tab t n ∧ t.length = cards.length ∧ o = .ret (.ow ((keptL t n cards).map fun i : Nat => .int i))
def t_kept (K : PySem.W.Frag) (cBeaten : Addr) (cBest : Addr) : TS := (tRet (tLc (iEnum K (tCons (tVar 1) tNil)) (gTup K 2 (gCons (gName 2) (gCons (gName 3) gNil))) (tB (tCB (rIsi K) (tCons (tCall (spR K (R_beaten_by cBeaten cBest)) [] E0 (tCons (tVar 0) (tCons (tVar 2) tNil))) (tCons (tC (.ref cBest)) tNil)))) (tVar 3) [2, 3]))
theorem len_kept {ss : List Sl} {o : Out} (h : R_kept ss o) : ss.length = 2 := by
  first | (obtain ⟨_, rfl, _⟩ := h; rfl) | (obtain ⟨_, _, rfl, _⟩ := h; rfl) | (obtain ⟨_, _, _, rfl, _⟩ := h; rfl) | (obtain ⟨_, _, _, _, rfl, _⟩ := h; rfl) | (obtain ⟨_, _, _, _, _, rfl, _⟩ := h; rfl) | (obtain ⟨_, _, _, _, _, _, rfl, _⟩ := h; rfl)
theorem b_kept {K : PySem.W.Frag} {E : XK} {cBeaten : Addr} {cBest : Addr} (IB : IsU K cBeaten) (kB : PySem.W.kitOne K (.ref cBeaten) (.ref cBest) = some false) (IT : IsU K cBest) (kT : PySem.W.kitOne K (.ref cBest) (.ref cBest) = some true) (ss : List Sl) (o : Out) (h : R_kept ss o) : St K E (t_kept K cBeaten cBest) (params ["table", "cards", "place", "card"] ss) { nx := fun _ => o = .ret (.im .none), rt := fun s => o = .ret s, ex := fun c => o = .exc c } := by
  obtain ⟨t, n, cards, rfl, tab, hl, rfl⟩ := h
  have h4 := tab.r4
  have e : (keptL t n cards).map (fun i : Nat => PyData.int i) = ((List.range cards.length).filter fun a => !(beatenP t n a).1).map fun a => .int (cards.getD a 0 : Nat) := by
    unfold keptL
    rw [fm_filter (fun a => (beatenP t n a).1) (fun a => cards.getD a 0), List.map_map]
    rfl
  rw [e]
  refine st_ret (ev_lc (xs := List.range cards.length) (enc := fun a : Nat => .tuple [.int a, .int (cards.getD a 0 : Nat)]) (vs := [2, 3]) ((ei_enum (ev_var rfl)).to (enum_N cards)) (fun a => !(beatenP t n a).1) (fun a => .int (cards.getD a 0 : Nat)) (fun a => [.im (encT t), .im (encN cards), .im (.int (a : Nat)), .im (.int (cards.getD a 0 : Nat))]) (fun a _ => tg_tup (tgs_cons (tg_name (by decide)) (tgs_cons (tg_name (by decide)) tgs_nil)) rfl) (fun a ha => ?_) (fun a _ _ => ev_var rfl) (by rw [List.length_range]; omega)) rfl
  have ha := List.mem_range.mp ha
  have told := ev_call (K := K) (E := E0) (R := R_beaten_by cBeaten cBest) (t := tCons (tVar 0) (tCons (tVar 2) tNil)) (G := [.im (encT t), .im (encN cards), .im (.int (a : Nat)), .im (.int (cards.getD a 0 : Nat))]) (ss := [.im (encT t), .im (.int (a : Nat))]) (ea_im (ev_var rfl) (ea_im (ev_var rfl) ea_nil)) ⟨_, _, _, rfl, tab, by omega, rfl⟩
  cases hb : (beatenP t n a).1 with
  | true =>
    rw [hb, if_pos rfl] at told
    exact eb_B (EvS.h (ev_isCE told IB kB))
  | false =>
    rw [hb, if_neg Bool.false_ne_true] at told
    exact eb_B (EvS.h (ev_isCE told IT kT))

def R_struck (cBadTable cUnlike : Addr) : List Sl → Out → Prop := fun ss o => ∃ d e : PyData, ss = [.im d, .im e] ∧ (((tabOk d = false ∨ tabOk e = false) ∧ o = .exc cBadTable) ∨ ∃ t n u m, d = encT t ∧ e = encT u ∧ Tab t n ∧ Tab u m ∧ (((t.length ≠ u.length ∨ n ≠ m) ∧ o = .exc cUnlike) ∨ (t.length = u.length ∧ n = m ∧ ∃ S T, CoreT t u n S T ∧ canonL t.length S ∧ canonL n T ∧ o = .ret (.ls true 16 [some (S.map fun i : Nat => .int i), some (T.map fun i : Nat => .int i)]))))
def t_struck (K : PySem.W.Frag) (cBadTable : Addr) (cUnlike : Addr) (E : XK) : TS := (tSeq (tDrop (tCall (spR K (R_asked_two cBadTable cUnlike)) [] E (tCons (tVar 0) (tCons (tVar 1) tNil))))
    (tSeq (tAsg (tLc (iRng1 (tCons (tCB (rLenU K) (tCons (tVar 0) tNil)) tNil)) (gName 5) tYes (tVar 5) [5]) (gName 2))
    (tSeq (tAsg (tLc (iRng1 (tCons (tCB (rLenU K) (tCons (tOp (rIx K) (tVar 0) (tC (.int 0))) tNil)) tNil)) (gName 6) tYes (tVar 6) [6]) (gName 3))
    (tSeq (tAsg (tTup (tCons (tLst tNil) (tCons (tLst tNil) tNil))) (gName 4))
    (tSeq (tWhile (tTest (tOp (rNeD K) (tVar 4) (tTup (tCons (tVar 2) (tCons (tVar 3) tNil))))) (tSeq (tAsg (tTup (tCons (tVar 2) (tCons (tVar 3) tNil))) (gName 4))
    (tSeq (tAsg (tCall (spR K R_kept) [] E0 (tCons (tCall (spR K R_part) [] E0 (tCons (tVar 0) (tCons (tVar 2) (tCons (tVar 3) tNil)))) (tCons (tVar 2) tNil))) (gName 2))
    (tAsg (tCall (spR K R_kept) [] E0 (tCons (tCall (spR K R_across) [] E0 (tCons (tCall (spR K R_part) [] E0 (tCons (tVar 1) (tCons (tVar 2) (tCons (tVar 3) tNil)))) tNil)) (tCons (tVar 3) tNil))) (gName 3)))))
    (tRet (tTup (tCons (tVar 2) (tCons (tVar 3) tNil)))))))))
theorem len_struck {cBadTable : Addr} {cUnlike : Addr} {ss : List Sl} {o : Out} (h : R_struck cBadTable cUnlike ss o) : ss.length = 2 := by
  first | (obtain ⟨_, rfl, _⟩ := h; rfl) | (obtain ⟨_, _, rfl, _⟩ := h; rfl) | (obtain ⟨_, _, _, rfl, _⟩ := h; rfl) | (obtain ⟨_, _, _, _, rfl, _⟩ := h; rfl) | (obtain ⟨_, _, _, _, _, rfl, _⟩ := h; rfl) | (obtain ⟨_, _, _, _, _, _, rfl, _⟩ := h; rfl)
theorem b_struck {K : PySem.W.Frag} {E : XK} {cBadTable : Addr} {cUnlike : Addr} (ss : List Sl) (o : Out) (h : R_struck cBadTable cUnlike ss o) : St K E (t_struck K cBadTable cUnlike E) (params ["one", "other", "rows", "columns", "now", "row", "column"] ss) { nx := fun _ => o = .ret (.im .none), rt := fun s => o = .ret s, ex := fun c => o = .exc c } := by
  obtain ⟨d, e, rfl, ⟨hb, rfl⟩ | ⟨t, n, u, m, rfl, rfl, tab, tabu, hcase⟩⟩ := h
  · exact st_seq (st_callX (ss := [.im d, .im e]) (c := cBadTable) (by walk_at "ev") ⟨_, _, rfl, .inl ⟨hb, rfl⟩⟩ rfl)
  rcases hcase with ⟨hm, rfl⟩ | ⟨elen, rfl, S0, T0, core, c1, c2, rfl⟩
  · exact st_seq (st_callX (ss := [.im (encT t), .im (encT u)]) (c := cUnlike) (by walk_at "ev") ⟨_, _, rfl, .inr ⟨_, _, _, _, rfl, rfl, tab, tabu, .inl ⟨hm, rfl⟩⟩⟩ rfl)
  refine st_seq (st_drop (s := .im .none) (ev_call (ss := [.im (encT t), .im (encT u)]) (by walk_at "ev") ⟨_, _, rfl, .inr ⟨_, _, _, _, rfl, rfl, tab, tabu, .inr ⟨elen, rfl, rfl⟩⟩⟩) ?_)
  have t4 := tab.r4
  have n4 := tab.c4
  obtain ⟨r0, t', et, hr0⟩ := tab.head
  have e0 : t[0]? = some r0 := by rw [et]; rfl
  refine st_seq (st_asg (s := .ow ((List.range t.length).map fun i : Nat => .int i)) (ev_lc1 (xs := List.range t.length) (enc := fun i : Nat => .int i) (vs := [5]) (ei_range (n := t.length) (EvS.h (ev_lenD (EvS.h (ev_var rfl)) len_T)) (by omega)) (fun i : Nat => .int i) (fun i => [.im (encT t), .im (encT u), .no, .no, .no, .im (.int (i : Nat)), .no]) (fun i _ => tg_name (by decide)) (fun i _ => ev_var rfl) (by rw [List.length_range]; omega)) ?_)
  refine st_seq (st_asg (s := .ow ((List.range n).map fun i : Nat => .int i)) (ev_lc1 (xs := List.range n) (enc := fun i : Nat => .int i) (vs := [6]) (ei_range (n := n) (by rw [← hr0]; exact EvS.h (ev_lenD (EvS.h (ev_ix (a := encT t) (i := ((0 : Nat) : Int)) (ev_var rfl) (EvS.h (ev_c (.int 0))) (item_T e0))) len_R)) (by omega)) (fun i : Nat => .int i) (fun i => [.im (encT t), .im (encT u), .ow ((List.range t.length).map fun i : Nat => .int i), .no, .no, .no, .im (.int (i : Nat))]) (fun i _ => tg_name (by decide)) (fun i _ => ev_var rfl) (by rw [List.length_range]; omega)) ?_)
  refine st_seq (st_asg (s := .im (.tuple [encN [], encN []])) (ev_tup (ds := [.list [], .list []]) (ea_im (EvS.freeze (ev_lst (ds := []) ea_nil (Nat.le_of_ble_eq_true rfl))) (ea_im (EvS.freeze (ev_lst (ds := []) ea_nil (Nat.le_of_ble_eq_true rfl))) ea_nil)) (Nat.le_of_ble_eq_true rfl)) ?_)
  -- now, and what is left: unlike, or no card left is beaten
  refine st_seq (st_while (fun k G' => ∃ A B S T, St2 t u n S T ∧ Le [.im (encT t), .im (encT u), .ow (S.map fun i : Nat => .int i), .ow (T.map fun i : Nat => .int i), .im (.tuple [encN A, encN B]), .no, .no] G' ∧ (A = S ∧ B = T → CoreT t u n S T) ∧ k = 2 * (S.length + T.length) + (if A = S ∧ B = T then 0 else 1)) (2 * ((List.range t.length).length + (List.range n).length) + 1) ⟨[], [], _, _, st2_0 tab, by walk_at "le", fun z => ?_, ?_⟩ (fun k G' hI => ?_))
  · have := tab.r1
    have z1 := congrArg List.length z.1
    rw [List.length_range] at z1
    exact absurd z1 (by show ¬ 0 = _; omega)
  · rw [if_neg]
    intro z
    have := tab.r1
    have z1 := congrArg List.length z.1
    rw [List.length_range] at z1
    exact absurd z1 (by show ¬ 0 = _; omega)
  · obtain ⟨A, B, S, T, st, hle, hcore, rfl⟩ := hI
    obtain ⟨⟨s1, s4⟩, l1, l4⟩ := st.ls tab
    refine ⟨!decide (A = S ∧ B = T), ?_, fun z => st_le hle ?_, fun z => st_le hle ?_⟩
    · refine EvB.le hle (eb_borrow (EvB.to (a := !(PyData.eqv (.tuple [encN A, encN B]) (.tuple [encN S, encN T]))) ?_ (by rw [eqv_2N])))
      show EvB K _ [.im (encT t), .im (encT u), .im (encN S), .im (encN T), .im (.tuple [encN A, encN B]), .no, .no] _
      exact eb_test (EvS.h (ev_neD (EvS.h (ev_var rfl)) (EvS.h (ev_tup (ds := [encN S, encN T]) (ea_im (ev_var rfl) (ea_im (ev_var rfl) ea_nil)) (Nat.le_of_ble_eq_true rfl))) (shaped_of (lay_tup2 lay_N lay_N) (by decide)) (shaped_of (lay_tup2 lay_N lay_N) (by decide))))
    · have hne : ¬ (A = S ∧ B = T) := fun q => by rw [decide_eq_true q] at z; exact nomatch z
      rw [if_neg hne]
      refine st_freeze 2 rfl (st_freeze 3 rfl ?_)
      show St K E _ [.im (encT t), .im (encT u), .im (encN S), .im (encN T), .im (.tuple [encN A, encN B]), .no, .no] _
      refine st_seq (st_asg (s := .im (.tuple [encN S, encN T])) (ev_tup (ds := [encN S, encN T]) (ea_im (ev_var rfl) (ea_im (ev_var rfl) ea_nil)) (Nat.le_of_ble_eq_true rfl)) ?_)
      have tr := st.tabR tab
      have st1 := st.rows tab
      have k1 := kept_len (partT t S T) T.length (canon_nodup st.cs)
      have hsame := kept_same (tbl := partT t S T) (k := T.length) (canon_nodup st.cs)
      refine st_seq (st_asg (s := .ow ((keptL (partT t S T) T.length S).map fun i : Nat => .int i)) (ev_call (ss := [.im (encT (partT t S T)), .im (encN S)]) (ea_im (ev_call (ss := [.im (encT t), .im (encN S), .im (encN T)]) (ea_im (ev_var rfl) (ea_im (ev_var rfl) (ea_im (ev_var rfl) ea_nil))) ⟨_, _, _, _, rfl, tab.toRect, st.s.mr, st.s.mc, s4, l4, rfl⟩) (ea_im (ev_var rfl) ea_nil)) ⟨_, _, _, rfl, tr, partT_len _ _ _, rfl⟩) ?_)
      generalize hS2 : keptL (partT t S T) T.length S = S2 at *
      obtain ⟨⟨s21, s24⟩, _, _⟩ := st1.ls tab
      have tc := st1.tabC tab tabu elen
      have st2 := st1.cols tab tabu elen
      have k2 := kept_len (acrossT (partT u S2 T) T.length) S2.length (canon_nodup st.ct)
      have hsame2 := kept_same (tbl := acrossT (partT u S2 T) T.length) (k := S2.length) (canon_nodup st.ct)
      refine st_asg (s := .ow ((keptL (acrossT (partT u S2 T) T.length) S2.length T).map fun i : Nat => .int i)) (ev_borrowO (ds := (keptL (acrossT (partT u S2 T) T.length) S2.length T).map fun i : Nat => .int i) ?_ fun F F' vs hv => ?_) ?_
      · show EvS K _ [.im (encT t), .im (encT u), .im (encN S2), .im (encN T), .im (.tuple [encN S, encN T]), .no, .no] _
        exact ev_call (ss := [.im (encT (acrossT (partT u S2 T) T.length)), .im (encN T)]) (ea_im (ev_call (ss := [.im (encT (partT u S2 T))]) (ea_im (ev_call (ss := [.im (encT u), .im (encN S2), .im (encN T)]) (ea_im (ev_var rfl) (ea_im (ev_var rfl) (ea_im (ev_var rfl) ea_nil))) ⟨_, _, _, _, rfl, tabu.toRect, fun i hi => by rw [← elen]; exact st1.s.mr i hi, st.s.mc, s24, l4, rfl⟩) ea_nil) ⟨_, _, rfl, (partT_tab tabu (fun i hi => by rw [← elen]; exact st1.s.mr i hi) st.s.mc s21 s24 l1 l4).toRect, .inr rfl⟩) (ea_im (ev_var rfl) ea_nil)) ⟨_, _, _, rfl, tc, across_len _ _, rfl⟩
      · exact ints_mv hv
      · generalize hT2 : keptL (acrossT (partT u S2 T) T.length) S2.length T = T2 at *
        refine ⟨_, ?_, S, T, S2, T2, st2, by walk_at "le", fun q => ?_, rfl⟩
        · by_cases q : S = S2 ∧ T = T2
          · rw [if_pos q, ← q.1, ← q.2]
            omega
          · rw [if_neg q]
            have : S2.length ≠ S.length ∨ T2.length ≠ T.length := by
              apply Classical.byContradiction
              intro w
              have w1 : S2.length = S.length := Classical.byContradiction fun a => w (.inl a)
              have w2 : T2.length = T.length := Classical.byContradiction fun a => w (.inr a)
              exact q ⟨(hsame w1).1.symm, (hsame2 w2).1.symm⟩
            omega
        · have w1 := hsame (by rw [q.1])
          have w2 := hsame2 (by rw [q.2])
          have r2 := w2.2
          rw [← q.1] at r2
          have c := st.term tab tabu elen w1.2 r2
          rw [← q.1, ← q.2]
          exact c
    · have hs : A = S ∧ B = T := by
        cases q : decide (A = S ∧ B = T) with
        | true => exact of_decide_eq_true q
        | false => rw [q] at z; exact nomatch z
      obtain ⟨es, et2⟩ := core_unique (hcore hs) core st.cs st.ct c1 c2
      subst es
      subst et2
      exact st_ret2 rfl rfl ⟨by rw [List.length_map]; omega, by rw [List.length_map]; omega⟩ rfl
open PySem L2
/-! ### try .. except C as e -/
section
variable {K : PySem.W.Frag} {G : Env} {ta tb te : TE} {E : XK} {D : GE} {t u : TS} {W : WX}
theorem ev_err {i : Nat} {w : V} (h : G[i]? = some (.val w)) : ∀ F lab σ H, Rs K F lab σ H G → σ[i]? = some (some w) := fun F lab σ H r => by
  obtain ⟨v, e, hv⟩ := r.sl i _ h (fun z => nomatch z)
  have hv : v = w := hv
  rw [← hv]
  exact e
/-- a call that raises, handed back -/
theorem st_retX {R : List Sl → Out → Prop} {ta : TA} {ss : List Sl} {c : Addr} (h : EvA K ta G ss) (hR : R ss (.exc c)) (q : D.ex c) : St K E (tRet (tCall (spR K R) [] E ta)) G D := fun B F0 F lab σ H r D' l =>
  h F lab σ H r.rs _ fun vs F1 H1 g1 a => ⟨F1, ss, .exc c, g1.fh, by rw [List.append_nil]; exact a, hR, fun F2 H2 g2 => l.ex c F2 H2 ((r.go.trans g1).trans g2) q⟩
/-- a statement of a try's body -/
def StT (K : PySem.W.Frag) (W : WX) (t : TS) (G : Env) (D : GE) : Prop := ∀ B F0 F lab σ H, Rl K B F0 F lab σ H G → ∀ D', Lands K (WE W σ) B F0 F D D' → t D' σ H
theorem stT_if {c : TT} {b : Bool} (h : EvB K c G b) (h1 : b = true → StT K W t G D) (h2 : b = false → StT K W u G D) : StT K W (tIfS c t u) G D := fun B F0 F lab σ H r D' l => h F lab σ H r.rs _ fun F' H' g => by
  cases b with
  | true => exact h1 rfl B F0 F' lab σ H' (r.step g) D' (l.grow g.ff)
  | false => exact h2 rfl B F0 F' lab σ H' (r.step g) D' (l.grow g.ff)
theorem stT_dropX {R : List Sl → Out → Prop} {ta : TA} {ss : List Sl} {c : Addr} (h : EvA K ta G ss) (hR : R ss (.exc c)) (q : D.ex c) : StT K W (tDrop (tCallS (spR K R) (WE W) ta)) G D := fun B F0 F lab σ H r D' l =>
  h F lab σ H r.rs _ fun vs F1 H1 g1 a => ⟨F1, ss, .exc c, g1.fh, a, hR, fun F2 H2 g2 => l.ex c F2 H2 ((r.go.trans g1).trans g2) q⟩
theorem stT_drop {R : List Sl → Out → Prop} {ta : TA} {ss : List Sl} {s : Sl} (h : EvA K ta G ss) (hR : R ss (.ret s)) (q : D.nx G) : StT K W (tDrop (tCallS (spR K R) (WE W) ta)) G D := fun B F0 F lab σ H r D' l =>
  h F lab σ H r.rs _ fun vs F1 H1 g1 a => ⟨F1, ss, .ret s, g1.fh, a, hR, fun v F2 H2 g2 n2 => l.nx F2 lab σ H2 G ((r.step g1).step g2) (g1.ff.trans g2.ff) q⟩
theorem stT_of (h : ∀ E, St K E t G D) : StT K W t G D := fun B F0 F lab σ H r D' l => h (WE W σ) B F0 F lab σ H r D' l
theorem st_tryAs {i : Nat} {C : Addr} {tb : WX → TS} {ts : Addr → Value → Option Addr → TS} {Wout : WX} {Dx : Addr → Prop} (hG : ∀ (l : Nat) (s : Sl), G[l]? = some s → s = .no ∨ ∃ d, s = .im d)
    (hex : ∀ c, Dx c → PySem.W.exmOne K (.ref c) (.ref C) = some true) (hb : ∀ W : WX, StT K W (tb W) G { D with ex := Dx })
    (hs : ∀ a c, Dx c → St K E (ts a (.ref c) none) (G.set i (.val (.ref a))) { nx := fun G' => D.nx (G'.set i .no), rt := D.rt, bk := fun G' => D.bk (G'.set i .no), ct := fun G' => D.ct (G'.set i .no), ex := fun _ => False }) :
    St K E (fun D' σ H => tb (wAs K (.ref C) i ts Wout D') D' σ H) G D := fun B F0 F lab σ H r D' L => by
  have quietR : ∀ {F2 H2 : Hp}, Go F H F2 H2 → Rs K F2 noLab σ H2 G := fun {F2 H2} g => ⟨g.fh, r.rs.len, fun l s e n => by
    obtain ⟨v, ev, hv⟩ := r.rs.sl l s e n
    refine ⟨v, ev, ?_⟩
    rcases hG l s e with rfl | ⟨d, rfl⟩
    · exact absurd rfl n
    · exact dp_mono g.ff hv⟩
  have lbT : ∀ {lab2 : Lab}, (∀ p o, lab2 p = some o → H p = none) → ∀ p o, lab2 p = some o → B p = none := fun {lab2} h p o e => r.go.hh.free (h p o e)
  refine hb (wAs K (.ref C) i ts Wout D') H F F noLab σ H ⟨quietR (.refl r.rs.fh), .refl r.rs.fh, (fun _ _ z => nomatch z), (fun _ _ z => nomatch z)⟩ D' ⟨fun F2 lab2 σ2 H2 G2 r2 s2 q => L.nx F2 lab2 σ2 H2 G2 ⟨r2.rs, r.go.trans r2.go, lbT r2.lb, r2.lv⟩ s2 q, fun v F2 H2 s g n q => L.rt v F2 H2 s (r.go.trans g) (n.base r.go.hh) q,
    fun F2 lab2 σ2 H2 G2 r2 s2 q => L.bk F2 lab2 σ2 H2 G2 ⟨r2.rs, r.go.trans r2.go, lbT r2.lb, r2.lv⟩ s2 q, fun F2 lab2 σ2 H2 G2 r2 s2 q => L.ct F2 lab2 σ2 H2 G2 ⟨r2.rs, r.go.trans r2.go, lbT r2.lb, r2.lv⟩ s2 q, fun c F2 H2 g q => ⟨true, hex c q, fun _ a ha => ?_, fun z => nomatch z⟩⟩
  have q2 := quietR g
  have r3 : Rl K B F0 F2 noLab (σ.set i (some (.ref a))) H2 (G.set i (.val (.ref a))) := ⟨⟨g.fh, by rw [List.length_set, List.length_set]; exact r.rs.len, fun l s e n => by
    by_cases hi : i = l
    · subst hi
      by_cases hj : i < G.length
      · rw [List.getElem?_set_self hj] at e
        cases e
        exact ⟨_, by rw [List.getElem?_set_self (by rw [← r.rs.len]; exact hj)], rfl⟩
      · rw [List.getElem?_eq_none (by simpa using hj)] at e
        cases e
    · rw [List.getElem?_set_ne hi] at e ⊢
      exact q2.sl l s e n⟩, r.go.trans g, (fun _ _ z => nomatch z), (fun _ _ z => nomatch z)⟩
  exact hs a c q B F0 F2 noLab _ H2 r3 _ ⟨fun F4 lab4 σ4 H4 G4 r4 s4 q4 => L.nx F4 lab4 _ H4 _ ⟨r4.rs.no, r4.go, r4.lb, r4.lv⟩ (g.ff.trans s4) q4, fun v F4 H4 s g4 n4 q4 => L.rt v F4 H4 s g4 n4 q4, fun F4 lab4 σ4 H4 G4 r4 s4 q4 => L.bk F4 lab4 _ H4 _ ⟨r4.rs.no, r4.go, r4.lb, r4.lv⟩ (g.ff.trans s4) q4, fun F4 lab4 σ4 H4 G4 r4 s4 q4 => L.ct F4 lab4 _ H4 _ ⟨r4.rs.no, r4.go, r4.lb, r4.lv⟩ (g.ff.trans s4) q4, fun c F4 H4 g4 z => z.elim⟩
/-! ### isinstance of the error that a suite holds -/
/-- isinstance(e, c) in an except suite: the class of e is cls -/
def rIsX (K : PySem.W.Frag) (cls : Value) (d : Option Addr) (a : Addr) : List V → Hp → VK → Prop := fun xs H Q => ∃ D, cls = .ref D ∧ d = none ∧ ExcC K D ∧ rIsE K D a xs H Q
theorem call_isX {X : Cx} {a : Addr} {oe : Obj} {cls : Value} {d : Option Addr} {pn : List (Addr × Obj)} (hz : Zc cls d oe) (hf : ∃ vs, oe.data = .fields vs) : CallR (X.suite a ((a, oe) :: pn)) (.builtin "isinstance") (rIsX X.K cls d a) := by
  intro pins s σ H xs us Q I r h
  obtain ⟨D, rfl, rfl, C, h⟩ := h
  exact call_isE C hz hf pins s σ H xs us Q I r h
theorem ev_isX {i : Nat} {a c : Addr} {C2 : Addr} {b : Bool} (h : G[i]? = some (.val (.ref a))) (C : ExcC K c) (k : PySem.W.kitOne K (.ref c) (.ref C2) = some b) : Ev K (tCB (rIsX K (.ref c) none a) (tCons (tVar i) (tCons (tC (.ref C2)) tNil))) G (.bool b) := fun F lab σ H r Q q =>
  ⟨_, ev_err h F lab σ H r, c, rfl, rfl, C, .ref C2, .ref C2, b, rfl, (fun u hu => hu), k, q _ F H (.refl r.fh) (.im (.bl b))⟩
end
open PySem PySem.Spec PyProof.Rows L2
/-! ### text that is not reached; a call of one def of a list; try -/
theorem pe_never {X : Cx} {e : Expr} : PE X e (fun _ _ _ => False) := ⟨fun _ _ _ _ _ _ h => h.elim⟩
theorem ps_never {X : Cx} {s : Stmt} : PS X s (fun _ _ _ => False) := ⟨fun _ _ _ _ _ _ h => h.elim⟩
theorem pss_never {X : Cx} {s : List Stmt} : PSs X s (fun _ _ _ => False) := ⟨fun _ _ _ _ _ _ h => h.elim⟩
def tRefs : List Addr → TA
  | [] => tNil
  | f :: r => tCons (tC (.ref f)) (tRefs r)
/-- [f, g, ..][i](..) -/
def tSelC (K : PySem.W.Frag) (l : List Sp) (E : XK) (ti : TE) (t : TA) : TE := fun σ H Q => ∀ fs : List Addr, fs.length = l.length →
  tOp (rIx K) (tLst (tRefs fs)) ti σ H fun y H1 => ∃ (k : Nat) (a : Addr) (sp : Sp), fs[k]? = some a ∧ l[k]? = some sp ∧ y = .ref a ∧ t σ H1 fun vs H2 => sp vs H2 Q E
/-- the defs of such a list -/
inductive SelOk (X : Cx) (j : Nat) : List Expr → List Sp → Prop
  | nil : SelOk X j [] []
  | cons {x : Str} {p : Pos} {ps : List Str} {sp : Sp} {k : Nat} {es : List Expr} {l : List Sp} (c : Cal X.prog X.w X.K X.mg X.base (L2.CX X.prog X.w) k x ps sp) (hk : k ≤ j) (hg : Gl X x) (hdb : (x == ("__debug__" : Str)) = false) (na : starEach (.Name x p :: es) X.env = (false, eval (.Name x p) X.env) :: starEach es X.env) (h : SelOk X j es l) : SelOk X j (.Name x p :: es) (sp :: l)
theorem selOk_fs {X : Cx} {j : Nat} : ∀ {es : List Expr} {l : List Sp}, SelOk X j es l → ∃ fs : List Addr, fs.length = l.length ∧ PA X es (tRefs fs) ∧ ∀ (k : Nat) (a : Addr) (sp : Sp), fs[k]? = some a → l[k]? = some sp → ∃ fd ps kk, FnOk X.prog X.w X.K X.mg X.base (L2.CX X.prog X.w) kk a fd ps sp ∧ kk ≤ j ∧ PySem.W.keepIn X.K (.ref a) = true ∧ Binds X.K fd ps []
  | _, _, .nil => ⟨[], rfl, pa_nil, fun k a sp h => by simp at h⟩
  | _, _, .cons c hk hg hdb na h => by
    obtain ⟨f, fd, F, hm, hkp, hb⟩ := c.ex
    obtain ⟨fs, hl, hp, hall⟩ := selOk_fs h
    refine ⟨f :: fs, by rw [List.length_cons, List.length_cons, hl], pa_cons (pe_glob hg hm rfl hdb) hp na, fun k a sp h1 h2 => ?_⟩
    cases k with
    | zero =>
      cases h1
      cases h2
      exact ⟨fd, _, _, F, hk, hkp, hb⟩
    | succ k => exact hall k a sp (by simpa using h1) (by simpa using h2)
theorem pe_sel {X : Cx} {j : Nat} {fs es : List Expr} {l : List Sp} {ie e : Expr} {ti : TE} {t : TA} {E : XK} {lp sp pos : Pos} (s : SelOk X j fs l) (hr : Room j X.A) (hi : PE X ie ti) (hx : Passes (L2.CX X.prog X.w) X E) (ha : PA X (e :: es) t)
    (hpi : ∀ (a b : Value), PlainIx ie) (ht : eval (.Call (.Subscript (.List fs lp) ie sp) (e :: es) [] pos) X.env = (do callWith pos (← eval (.Subscript (.List fs lp) ie sp) X.env) [] (backTo pos (starEach (e :: es) X.env)) (backToKw pos (keywordEach [] X.env))) := by rfl)
    (he : starEach (e :: es) X.env = (false, eval e X.env) :: starEach es X.env := by rfl) (hpl : (backTo pos (starEach es X.env)).any (·.1) = false := by rfl) :
    PE X (.Call (.Subscript (.List fs lp) ie sp) (e :: es) [] pos) (tSelC X.K l E ti t) := by
  refine ⟨fun pins s0 σ H Q I h => ?_⟩
  obtain ⟨fa, hl, hp, hall⟩ := selOk_fs s
  have hf : PE X (.Subscript (.List fs lp) ie sp) (tOp (rIx X.K) (tLst (tRefs fa)) ti) := pe_ix ix_seq (pe_lst hp) hi (hpi .none .none)
  refine Call_ (thn (hf.run pins s0 σ H _ I (h fa hl)) fun u s1 ⟨y, H1, I1, ry, k, a, sp', hk, hsp, ey, q⟩ => ?_) ht
  subst ey
  obtain rfl : u = Value.ref a := ry
  obtain ⟨fd, ps, kk, F, hkk, hkp, hb⟩ := hall k a sp' hk hsp
  refine PySem.W.callWith_K (h₀ := X.base) I1.ok.mod.kin hkp (thn (ha.run pos pins s1 σ H1 _ I1 q) fun us s2 ⟨vs, H2, I2, r, q2⟩ => ⟨I2.kIn, ?_⟩) he hpl
  exact run_fn F (hr.mono hkk) hb .nil hx I2 r (by rw [List.append_nil]; exact q2)
section
variable {K : PySem.W.Frag} {G : Env} {ti : TE} {t : TA} {E : XK} {D : GE}
theorem refs_run {σ : L2.St} {H : Hp} : ∀ {fs : List Addr} {Q : List V → Hp → Prop}, Q (fs.map V.ref) H → tRefs fs σ H Q
  | [], _, q => q
  | f :: fs, Q, q => by
    show tRefs fs σ H fun vs H1 => Q (.ref f :: vs) H1
    exact refs_run (Q := fun vs H1 => Q (.ref f :: vs) H1) q
/-- return [f, g, ..][i](..), what is called raises -/
theorem st_retSelX {l : List Sp} {R : List Sl → Out → Prop} {k : Nat} {ss : List Sl} {c : Addr} (hl : l[k]? = some (spR K R)) (h10 : l.length < 1000) (hi : EvH K ti G (.int (k : Int))) (ha : EvA K t G ss) (hR : R ss (.exc c)) (q : D.ex c) : St K E (tRet (tSelC K l E ti t)) G D := fun B F0 F lab σ H r D' L => by
  intro fs hfs
  have hkl : k < l.length := (List.getElem?_eq_some_iff.mp hl).1
  obtain ⟨a, hka⟩ : ∃ a, fs[k]? = some a := ⟨_, List.getElem?_eq_getElem (by omega)⟩
  refine refs_run ⟨by rw [List.length_map, sizeLine_eq]; omega, fun p hp => ?_⟩
  have g0 : Go F H F (upd H p (.lst (fs.map V.ref))) := .heap r.rs.fh (same_new hp)
  refine hi F lab σ _ (r.rs.go g0) _ fun y F1 H1 g1 d1 => ?_
  cases dp_int d1
  have g01 := g0.trans g1
  have ht : H1 p = some (.lst (fs.map V.ref)) := g1.hh _ _ upd_same
  have hat : atI (fs.map V.ref) (k : Int) = some (.ref a) := by
    unfold atI ixN
    rw [List.length_map, if_pos (by omega), if_pos (by omega)]
    show (fs.map V.ref)[(k : Int).toNat]? = _
    rw [Int.toNat_natCast, List.getElem?_map, hka]
    rfl
  refine .inl ⟨p, _, k, _, rfl, rfl, SqL.of ht, hat, k, a, _, hka, hl, rfl, ha F1 lab σ H1 (r.rs.go g01) _ fun vs F2 H2 g2 av => ?_⟩
  exact ⟨F2, ss, .exc c, g2.fh, av, hR, fun F3 H3 g3 => L.ex c F3 H3 ((r.go.trans (g01.trans g2)).trans g3) q⟩
/-- f(..), in a try: what it lets out goes to W -/
theorem pe_calS {X : Cx} {x : Str} {ps : List Str} {sp : Sp} {k j : Nat} {W : WX} {e : Expr} {es : List Expr} {t : TA} {p pos : Pos} (c : Cal X.prog X.w X.K X.mg X.base (L2.CX X.prog X.w) k x ps sp) (hr : Room j X.A) (hk : k ≤ j) (hg : Gl X x) (tk : Takes X W) (ha : PA X (e :: es) t)
    (hdb : (x == ("__debug__" : Str)) = false := by decide) (he : starEach (e :: es) X.env = (false, eval e X.env) :: starEach es X.env := by rfl) (hpl : (backTo pos (starEach es X.env)).any (·.1) = false := by rfl) :
    PE X (.Call (.Name x p) (e :: es) [] pos) (tCallS sp (WE W) t) := by
  obtain ⟨f, fd, F, hm, hkp, hb⟩ := c.ex
  exact pe_callS F (hr.mono hk) hg hm hkp hb (fun σ => passAt tk σ) ha hdb he hpl
def tTryAs (K : PySem.W.Frag) (C : Addr) (i : Nat) (tb : WX → TS) (ts : Addr → Value → Option Addr → TS) : TS := fun D' σ H => tb (wAs K (.ref C) i ts (fun _ _ _ _ => False) D') D' σ H
theorem st_try {i : Nat} {C : Addr} {tb : WX → TS} {ts : Addr → Value → Option Addr → TS} {Dx : Addr → Prop} (hG : ∀ (l : Nat) (s : Sl), G[l]? = some s → s = .no ∨ ∃ d, s = .im d)
    (hex : ∀ c, Dx c → PySem.W.exmOne K (.ref c) (.ref C) = some true) (hb : ∀ W : WX, StT K W (tb W) G { D with ex := Dx })
    (hs : ∀ a c, Dx c → St K E (ts a (.ref c) none) (G.set i (.val (.ref a))) { nx := fun G' => D.nx (G'.set i .no), rt := D.rt, bk := fun G' => D.bk (G'.set i .no), ct := fun G' => D.ct (G'.set i .no), ex := fun _ => False }) :
    St K E (tTryAs K C i tb ts) G D := st_tryAs hG hex hb hs
/-- isinstance(e, T), T built in -/
theorem ev_isXT {i : Nat} {a c : Addr} {T : String} {b : Bool} (h : G[i]? = some (.val (.ref a))) (C : ExcC K c) (k : PySem.W.kitOne K (.ref c) (.type T) = some b) : Ev K (tCB (rIsX K (.ref c) none a) (tCons (tVar i) (tCons (tC (.ty T)) tNil))) G (.bool b) := fun F lab σ H r Q q =>
  ⟨_, ev_err h F lab σ H r, c, rfl, rfl, C, .ty T, .type T, b, rfl, (fun u hu => hu), k, q _ F H (.refl r.fh) (.im (.bl b))⟩
/-- a name of the module that is none of a class -/
theorem st_isX : True := trivial
end
open PySem PySem.Spec PyProof.Rows L2
section
variable {K : PySem.W.Frag} {G : Env} {te ta tb : TE} {E : XK} {D : GE}
theorem held_own {i : Nat} {ds : List PyData} (h : G[i]? = some (.ow ds)) : Held K (tVar i) G ds := fun F lab σ H r Q q => by
  obtain ⟨v, e, p, vs, rfl, fp, lp, hp, a⟩ := r.sl i _ h (fun z => nomatch z)
  exact ⟨_, e, q _ F H p vs (.refl r.fh) rfl hp a⟩
theorem EvS.freezeLs {n : Nat} {tup : Bool} {its : List (Option (List PyData))} {dss : List (List PyData)} (ha : allSome its = some dss) (h : EvS K te G (.ls tup n its)) : Ev K te G (lsD tup dss) := fun F lab σ H r Q q => h F lab σ H r Q fun v F' H' g nv => by
  obtain ⟨l, ⟨t, ws, rfl, ht, hit⟩, nw⟩ := nv
  obtain ⟨F2, a, b, c, al⟩ := hit.frz g.fh ha
  refine q (.ref t) F2 H' ⟨g.ff.trans a, g.hh, b, fun x o e => ?_⟩ (.im ?_)
  · by_cases hx : F2 x = F' x
    · rw [hx]; exact g.nw x o e
    · obtain ⟨lp, _, _⟩ := c x hx
      have := nw x _ lp
      rw [this] at e
      cases e
  · cases tup with
    | true => exact Dp.tup (.inl (.inl (a _ _ ht))) al
    | false => exact Dp.lst (.inl (.inl (a _ _ ht))) al
theorem st_retIf {c : TT} {b : Bool} (h : EvB K c G b) (h1 : b = true → St K E (tRet ta) G D) (h2 : b = false → St K E (tRet tb) G D) : St K E (tRet (tIf c ta tb)) G D := fun B F0 F lab σ H r D' l => h F lab σ H r.rs _ fun F' H' g => by
  cases b with
  | true => exact h1 rfl B F0 F' lab σ H' (r.step g) D' (l.grow g.ff)
  | false => exact h2 rfl B F0 F' lab σ H' (r.step g) D' (l.grow g.ff)
end
section
variable {X : Cx} {body suite : List Stmt} {b₀ : Stmt} {x n : Str} {np pos pos' : Pos} {i : Nat} {C : Addr} {tb : WX → TS} {ts : Addr → Value → Option Addr → TS}
theorem ps_tryU (hs : X.stack = X.env :: X.outer) (hf : X.env.frame = some X.env.locals) (hN : X.N.Nodup) (hi : X.N[i]? = some n) (hln : X.env.kindOf n = some .local) (hc : Names X x (.ref C))
    (hb : ∀ (W : WX) (pn : List (Addr × Obj)) (xe : Value → Shared → Prop), Takes (X.tr pn xe) W → PassesOwn (model X.prog X.w) X.A X.env xe → PSs (X.tr pn xe) body (tb W))
    (hsu : ∀ (a : Addr) (oe : Obj) (cls : Value) (d : Option Addr) (pn : List (Addr × Obj)), Zc cls d oe → (∃ vs, oe.data = .fields vs) → PSs (X.suite a ((a, oe) :: pn)) (b₀ :: suite) (ts a cls d)) :
    PS X (.Try body [.ExceptHandler (some (.Name x np)) (some n) (b₀ :: suite) pos'] [] [] pos) (tTryAs X.K C i tb ts) := ps_try_as hs hf hN hi hln hc takes0 hb hsu
end
open PySem PySem.Spec PyProof.Rows L2
/-! ### a def of which it must be known that no repr is under way around it -/
structure FnOkG (P : Program) (w : World) (K : PySem.W.Frag) (mg : Str → Option Value) (base : Heap) (k : Nat) (f : Addr) (fd : FuncData) (ps : List Str) (sp : Sp) : Prop where
  len : ∀ vs H Q E, sp vs H Q E → vs.length = ps.length
  run : ∀ (A : Around) (outer : List PySem.Env) (s : Shared) (H : Hp) (args : Args) (us : List Value) (vs : List V) (Q : VK) (E : XK), A.guards = some [] → Room k A → Env0 P w K mg base A outer s H → BindsTo s fd args (ps.zip us) → Vals vs us → sp vs H Q E →
    codeAny (model P w) A (.call (.ref f) args) (CR CX0 outer P w H s Q E) s
section
variable {P : Program} {w : World} {K : PySem.W.Frag} {mg : Str → Option Value} {base : Heap}
theorem okG {x qual : Str} {st : Stmt} {f : Addr} {fd : FuncData} {N ps : List Str} {k : Nat} {sp : Sp} (F : Fun K x qual st f fd) (S : FnScope N ps (defScope st)) (len : ∀ vs H Q E, sp vs H Q E → vs.length = ps.length)
    (hbody : ∀ (cdv : Value) (A : Around) (outer : List PySem.Env) (s : Shared) (H : Hp) (vs : List V) (Q : VK) (E : XK), A.guards = some [] → Room k (A.deeper (envOfC qual (defScope st) s.heap.objs.size f cdv)) → sp vs H Q E →
      ∃ t, PSs (cxOf CX0 P w K mg base N qual (defScope st) f cdv A outer s H E).nox (defBody st) t ∧ t { nx := fun _ H' => Q .non H', rt := Q } (L2.start N vs) H) : FnOkG P w K mg base (k + 1) f fd ps sp := by
  obtain ⟨oc, od, kV, doc, pm, an, cdv, ct, osl, rfl, lk, hcd⟩ := F.ex
  refine ⟨len, fun A outer s H args us vs Q E hg hr e0 hb r hsp => ?_⟩
  obtain ⟨t, ht, hq⟩ := hbody cdv A outer s H vs Q E hg (hr.deeper _) hsp
  have KX : K.In s.heap := e0.mod.kin.keeps fun b o e => (e0.bs b o e).1
  refine codeAny_call_function hr.depth (KX _ _ lk) rfl S.co S.gen rfl (PySem.W.codeRec_of KX hcd) (hb _ _ _ _ ?_)
  refine wpAny_newFunctionEnv_cells S.kind (fun y hy => (S.par y.1 (List.of_mem_zip hy).1).imp id fun q => ⟨q, PySem.W.cellsFrom_some _ _ _ (.inl q)⟩) fun env he s1 x => ?_
  subst he
  refine ⟨(e0.mod.nolimit.keeps fun b o e => (e0.bs b o e).1).keeps x.toInCall.keep, codeAny_func ?_⟩
  refine wpAny_mono (ht.nox.run [] s1 (L2.start N vs) H _ (inv_start S hr.hd e0 (len _ _ _ _ hsp) r x) hq) (fun fl s' hs => ?_) fun e s' hs => hs
  have done : ∀ {σ' : L2.St} {H' : Hp} {v : V} {u : Value}, Inv (cxOf CX0 P w K mg base N qual (defScope st) f cdv A outer s H E) [] σ' H' s' → RelV v u → Q v H' → CE outer P w H s Q u s' := fun J rv q => ⟨_, _, J.os, J.bare, J.base, J.hok, rv, q⟩
  cases fl with
  | ret u => obtain ⟨v, σ', H', J, rv, q⟩ := hs; exact done J rv q
  | next => obtain ⟨σ', H', J, q⟩ := hs; exact done (v := V.non) (u := Value.none) J rfl q
  | brk => obtain ⟨_, _, _, q⟩ := hs; exact q.elim
  | cont => obtain ⟨_, _, _, q⟩ := hs; exact q.elim
end
/-- .. by its name -/
structure CalG (P : Program) (w : World) (K : PySem.W.Frag) (mg : Str → Option Value) (base : Heap) (k : Nat) (x : Str) (ps : List Str) (sp : Sp) : Prop where
  ex : ∃ (f : Addr) (fd : FuncData), FnOkG P w K mg base k f fd ps sp ∧ mg x = some (.ref f) ∧ PySem.W.keepIn K (.ref f) = true ∧ Binds K fd ps []
section
variable {X : Cx}
theorem pe_calG {x : Str} {ps : List Str} {sp : Sp} {k j : Nat} {e : Expr} {es : List Expr} {t : TA} {p pos : Pos} (c : CalG X.prog X.w X.K X.mg X.base k x ps sp) (g : X.A.guards = some []) (hr : Room j X.A) (hk : k ≤ j) (hg : Gl X x) (ha : PA X (e :: es) t)
    (hdb : (x == ("__debug__" : Str)) = false := by decide) (he : starEach (e :: es) X.env = (false, eval e X.env) :: starEach es X.env := by rfl) (hpl : (backTo pos (starEach es X.env)).any (·.1) = false := by rfl) :
    PE X (.Call (.Name x p) (e :: es) [] pos) (tCall sp [] E0 t) := by
  obtain ⟨f, fd, F, hm, hkp, hb⟩ := c.ex
  refine ⟨fun pins s σ H Q I h => wpAny_Call_Name_kw (ld_glob I hg hm ?_ hdb)⟩
  refine PySem.W.callWith_K (h₀ := X.base) I.ok.mod.kin hkp (thn (ha.run pos pins s σ H _ I h) fun us s1 ⟨vs, H1, I1, r, q⟩ => ⟨I1.kIn, ?_⟩) he hpl
  have q : sp vs H1 Q E0 := by rw [← List.append_nil vs]; exact q
  have hl : us.length = ps.length := by rw [← r.length]; exact F.len _ _ _ _ q
  have hbt : BindsTo s1 fd ⟨us, []⟩ (ps.zip us) := by
    have := hb s1 us I1.kIn (by rw [List.append_nil]; exact hl)
    rw [List.append_nil] at this
    exact this
  refine wpAny_call (codeAny_mono (F.run X.A X.stack s1 H1 ⟨us, []⟩ us vs Q E0 g (hr.mono hk) I1.env0 hbt r q) fun rr s' hq => ?_)
  cases rr with
  | error e => exact hq.elim
  | ok fl =>
    cases fl with
    | ret u => exact I1.after hq
    | next => exact hq.elim
    | brk => exact hq.elim
    | cont => exact hq.elim
/-! ### repr of a list, a tuple -/
structure ShD (d : PyData) : Prop where
  s : d.showable = true
  h : d.hasDict = false
  b : isDisplay d = true
  n : d.depth ≤ 40
  l : d.shown.length ≤ sizeLine
def rRepr (K : PySem.W.Frag) : List V → Hp → VK → Prop := fun xs H Q => ∃ x d, xs = [x] ∧ Dp K H x d ∧ ShD d ∧ Q (.str d.shown) H
theorem call_repr {k : Nat} (g : X.A.guards = some []) (hr : Room k X.A) : CallR X (.builtin "repr") (rRepr X.K) := by
  intro pins s σ H xs us Q I r h
  obtain ⟨x, d, rfl, hd, c, q⟩ := h
  cases r with
  | cons rx rr =>
    cases rr
    obtain ⟨as, rd⟩ := Dp.reads I d x _ hd rx
    obtain ⟨a, rfl⟩ := isRef_of_reads rd c.b
    have hn := c.n
    have hu := hr.un
    exact repr_of_reads' rd c.s (PyData.noDict_hsm c.h) g (by omega) (fun _ _ e => e) (fun h' u tk hk => ⟨.str _, H, I.kept (t' := tk) hk, ⟨u, rfl⟩, q⟩) c.l
/-! ### isinstance(e, (C, D, ..)) of the error that a suite holds -/
def rIsXm (K : PySem.W.Frag) (cls : Value) (d : Option Addr) (a : Addr) : List V → Hp → VK → Prop := fun xs H Q => ∃ (D p : Addr) (cs : List Addr) (b : Bool), xs = [.ref a, .ref p] ∧ cls = .ref D ∧ d = none ∧ ExcC K D ∧ SqT K H p (cs.map V.ref) ∧ PySem.W.kitAny K (.ref D) (cs.map Value.ref) = some b ∧ Q (.bl b) H
theorem vals_refs : ∀ {cs : List Addr} {us : List Value}, Vals (cs.map V.ref) us → us = cs.map Value.ref
  | [], _, h => by cases h; rfl
  | c :: cs, _, h => by
    cases h with
    | cons a b =>
      cases a
      rw [vals_refs b]
      rfl
theorem call_isXm {X : Cx} {a : Addr} {oe : Obj} {cls : Value} {d : Option Addr} {pn : List (Addr × Obj)} (hz : Zc cls d oe) (hf : ∃ vs, oe.data = .fields vs) : CallR (X.suite a ((a, oe) :: pn)) (.builtin "isinstance") (rIsXm X.K cls d a) := by
  intro pins s σ H xs us Q I r h
  obtain ⟨D, p, cs, b, rfl, rfl, rfl, C, ht, e, q⟩ := h
  cases r with
  | cons rx rr =>
    cases rr with
    | cons rt rr =>
      cases rr
      cases rx
      cases rt
      obtain ⟨hget, _⟩ := I.pin (a, oe) (List.mem_append.mpr (.inl List.mem_cons_self))
      obtain ⟨vs, hv⟩ := hf
      have J : PySem.W.InstAt s.heap a oe D none := by
        obtain ⟨oc, od, oda, osl⟩ := oe
        obtain ⟨h1, h2⟩ := hz
        dsimp only at h1 h2 hv
        subst h1 h2 hv
        exact ⟨hget, rfl, rfl, trivial⟩
      obtain ⟨its, rv, ⟨o, ho, hc, n, hd⟩, _⟩ := I.tuple ht
      have ei := vals_refs rv
      subst ei
      obtain ⟨oc, od, oda, osl⟩ := o
      dsimp only at hc hd
      subst hc hd
      exact PySem.W.kia_tup (PySem.W.handS_kitx_exc C.hg C.hk C.hs C.hd C.ha C.hn C.ht C.hm) I.kIn J ho e (fun z => nomatch z) fun tk => ⟨.bl b, H, I.kept (t' := tk) fun _ _ z => z, rfl, q⟩
end
section
variable {K : PySem.W.Frag} {G : Env} {te : TE}
theorem ev_repr {d : PyData} (h : EvH K te G d) (c : ShD d) : Ev K (tCB (rRepr K) (tCons te tNil)) G (.str d.shown) := fun F lab σ H r Q q =>
  h F lab σ H r _ fun v F1 H1 g1 d1 => ⟨v, d, rfl, d1, c, q _ F1 H1 g1 (.im (.str _))⟩
theorem ev_isXm {i : Nat} {a c : Addr} {cs : List Addr} {b : Bool} (h : G[i]? = some (.val (.ref a))) (C : ExcC K c) (hl : cs.length < 1000) (k : PySem.W.kitAny K (.ref c) (cs.map Value.ref) = some b) : Ev K (tCB (rIsXm K (.ref c) none a) (tCons (tVar i) (tCons (tTup (tRefs cs)) tNil))) G (.bool b) := fun F lab σ H r Q q => by
  refine ⟨_, ev_err h F lab σ H r, ?_⟩
  refine refs_run ⟨by rw [List.length_map, sizeLine_eq]; omega, fun p hp => ?_⟩
  exact ⟨c, p, cs, b, rfl, rfl, rfl, C, .inl (.inl upd_same), k, q _ F _ (.heap r.fh (same_new hp)) (.im (.bl b))⟩
end
open PySem PySem.Spec PyProof.Rows L2
/-! ### the law's call, of which it is known that no repr is under way around it -/
theorem head_run {P : Program} {w : World} {K : PySem.W.Frag} {mg mb : Str → Option Value} {k : Nat} {fa a : Addr} {fd : FuncData} {x : Str} {sp : Sp} {s : Shared} {H : Hp}
    (KX : K.In s.heap) (hns : s.heap.Ns mainGlobals mg) (hb : s.heap.Ns builtinsNs mb) (hbb : ∀ x : Str, x ≠ "__name__" → mb x = bootBuiltins x) (hlim : s.heap.NoLimit) (hg : s.gens = #[]) (hr : Room k callerA)
    (F : ∀ base : Heap, K.In base → base.Ns mainGlobals mg → FnOkG P w K mg base k fa fd [x] sp) (hbind : ∀ (s : Shared) (u : Value), BindsTo s fd ⟨[u], []⟩ [(x, u)])
    (hsp : sp [.ref a] H (fun v _ => v = .bl true) fun _ _ _ => False) (hO : Only H) (hok : HOk P w H s.heap)
    (hA : ∀ b, H b ≠ none → K.lookup b = none ∧ ∀ o es ep, s.heap.get? b = some o → o.data ≠ .dict es ep) :
    codeAny (model P w) callerA (.call (.ref fa) ⟨[.ref a], []⟩) (fun r s' => r = .ok (.ret (.bool true)) ∧ OldK s.heap s'.heap ∧ s'.os = s.os ∧ AllBare s'.gens) s := by
  have free : ∀ {b : Addr} {o : Obj}, s.heap.get? b = some o → ((∃ es ep, o.data = .dict es ep) ∨ K.lookup b ≠ none) → (hidT s.heap H).get? b = some o := fun {b o} e c => hidT_get e (by
    cases q : H b with
    | none => rfl
    | some u =>
      have z := hA b (by rw [q]; exact fun z => nomatch z)
      rcases c with ⟨es, ep, c⟩ | c
      · exact absurd c (z.2 o es ep e)
      · exact absurd z.1 c)
  have kin : K.In (hidT s.heap H) := fun b o e => free (KX b o e) (.inr (by rw [e]; exact fun z => nomatch z))
  have ns : ∀ {b : Addr} {m : Str → Option Value}, s.heap.Ns b m → (hidT s.heap H).Ns b m := fun ⟨o, es, ep, e, d, r⟩ => ⟨o, es, ep, free e (.inl ⟨es, ep, d⟩), d, r⟩
  have md : Mod K mg (hidT s.heap H) := ⟨kin, ns hns, ⟨mb, ns hb, hbb⟩, hlim.imp fun _ h => ⟨ns h.1, h.2⟩⟩
  refine codeAny_mono ((F _ kin (ns hns)).run callerA [] s H ⟨[.ref a], []⟩ [.ref a] [.ref a] _ _ rfl hr ⟨rfl, md, fun b o e => of_hidT e, Nat.le_of_eq (hidT_size _ _), trivial, fun b hb => absurd (show b ∈ ([] : List Addr) from hb) (by simp), hok, .of_eq hg⟩ (hbind s (.ref a)) (.cons rfl .nil) hsp) fun r s' h => ?_
  match r, h with
  | .ok (.ret u), ⟨v, H', os, bare, un, hok', ru, q⟩ =>
    obtain rfl : v = .bl true := q
    obtain rfl : u = Value.bool true := ru
    refine ⟨rfl, OldK.of_keep fun b o e => ?_, os, bare⟩
    rcases hO b with n | ⟨ob, xs, z⟩
    · exact un.keep b o e n (fun m => absurd (show b ∈ ([] : List Addr) from m) (by simp)) (by simp)
    · obtain ⟨e1, _⟩ := hok b _ z
      obtain ⟨e2, _⟩ := hok' b _ (un.frzs b ob _ z)
      rw [e] at e1
      cases e1
      exact e2
/-- as L2.walk_ofK, for a promise of FnOkG -/
theorem walk_G {l : PySem.W.OpenLaw} {n k : Nat} {q : Program} {loose : List Str} {XP : (Str → Option Value) → Heap → Prop} {YP : World → Heap → Prop} {d : DefRec} {K : Params → PySem.W.Frag} {sp : PySem.W.Frag → Sp} {x : Str}
    (hn : l.most = some n) (hn2 : n ≤ sizeLine) (hdf : d.params.defaults = []) (hr : Room k callerA)
    (hY : ∀ (w : World) (h : Heap), YP w h → (K w.params).In h)
    (F : ∀ (w : World) (mg : Str → Option Value) (fa : Addr) (h : Heap), (K w.params).In h → h.Ns mainGlobals mg → mg d.name = some (.ref fa) →
      ∃ fd : FuncData, (∀ (s : Shared) (u : Value), BindsTo s fd ⟨[u], []⟩ [(x, u)]) ∧
        ∀ base : Heap, (K w.params).In base → base.Ns mainGlobals mg → FnOkG l.prog w (K w.params) mg base k fa fd [x] (sp (K w.params)))
    (hsp : ∀ (K : PySem.W.Frag) (H : Hp) (a : Addr) (ns : List Int), ns.length ≤ n → Only H → SqL K H a (ns.map V.int) → sp K [.ref a] H (fun v _ => v = .bl true) fun _ _ _ => False) :
    PySem.W.WalkO q loose XP YP l.row.toRowW d [] (fun f vs => PySem.call f vs) := by
  refine Att.attach_call hn hdf fun w s0 s mg mb fa o pm cd doc a vs ns G Y ho hd hcd hmg hobj hints hlen hg => ?_
  have KX := hY w _ Y
  obtain ⟨fd, hb, hF⟩ := F w mg fa _ KX G.T.g hmg
  have rv := vals_ints hints
  have lv := hints.length
  have go := fun (H : Hp) (hO : Only H) (hS : SqL (K w.params) H a (ns.map V.int)) => head_run (a := a) (H := H) KX G.T.g G.T.b G.T.builtins G.T.nolimit hg hr hF hb (hsp (K w.params) H a ns hlen hO hS) hO
  cases hk : (K w.params).lookup a with
  | some o =>
    have e := KX a o hk
    rw [hobj] at e
    cases e
    exact go (fun _ => none) (fun _ => .inl rfl) (.inr ⟨_, vs.toArray, _, hk, rfl, rfl, rfl, by rw [List.size_toArray, lv]; omega, rv⟩) (fun b u z => nomatch z) fun b z => absurd rfl z
  | none =>
    have at' : ∀ b u, (if b = a then some (HO.frz { cls := .type "list", data := .seq vs.toArray } (.lst (ns.map V.int))) else none) = some u → b = a ∧ u = .frz { cls := .type "list", data := .seq vs.toArray } (.lst (ns.map V.int)) := fun b u z => by
      by_cases h : b = a
      · rw [if_pos h] at z
        exact ⟨h, (Option.some.inj z).symm⟩
      · rw [if_neg h] at z
        cases z
    refine go (fun b => if b = a then some (.frz { cls := .type "list", data := .seq vs.toArray } (.lst (ns.map V.int))) else none) (fun b => ?_) (.inl (.inr ⟨_, if_pos rfl⟩)) (fun b u z => ?_) fun b z => ?_
    · by_cases h : b = a
      · exact .inr ⟨_, _, if_pos h⟩
      · exact .inl (if_neg h)
    · obtain ⟨rfl, rfl⟩ := at' b u z
      exact ⟨hobj, by rw [List.length_map]; omega, vs, _, rv, hobj⟩
    · have hb : b = a := Classical.byContradiction fun h => z (if_neg h)
      subst hb
      refine ⟨hk, fun o es ep e d => ?_⟩
      rw [hobj] at e
      cases e
      cases d
open PySem PySem.Spec PyProof.Rows L2
section
variable {K : PySem.W.Frag} {G : Env} {ta tb te tm : TE}
/-- tuple(xs) -/
abbrev rTupU (K : PySem.W.Frag) : List V → Hp → VK → Prop := fun xs H Q => ∃ p ys, xs = [.ref p] ∧ ((SqL K H p ys ∧ ∀ l, H l = none → Q (.ref l) (upd H l (.tup ys))) ∨ (SqT K H p ys ∧ Q (.ref p) H))
theorem ev_tupOf {ds : List PyData} (h : Ev K ta G (.list ds)) : Ev K (tCB (rTupU K) (tCons ta tNil)) G (.tuple ds) := fun F lab σ H rs Q q =>
  h F lab σ H rs _ fun v F1 H1 g1 dv => by
    obtain ⟨p, xs, rfl, sq, al⟩ := dp_list dv.dp
    exact ⟨p, xs, rfl, .inl ⟨Same.seq g1.fh sq, fun l hl => q (.ref l) (upd F1 l (.tup xs)) _ (g1.trans (Go.new g1.fh hl)) (.im (.tup (.inl (.inl upd_same)) (dpAll_mono (same_new (g1.fh.free hl)) al)))⟩⟩
theorem cut_take (ds : List PyData) {k : Nat} (h : k ≤ ds.length) : cutD ds none (some (k : Int)) = ds.take k := by
  have := cutD_takeG id ds h
  rw [List.map_id, List.map_id] at this
  exact this
theorem cut_drop (ds : List PyData) {k : Nat} (h : k ≤ ds.length) : cutD ds (some (k : Int)) none = ds.drop k := by
  have := cutD_dropG id ds h
  rw [List.map_id, List.map_id] at this
  exact this
/-! ### lists put together, wherever they lie -/
def rCatQ (K : PySem.W.Frag) : R2 := fun x y H Q => ∃ a b xs ys, x = .ref a ∧ y = .ref b ∧ SqL K H a xs ∧ SqL K H b ys ∧ xs.length + ys.length ≤ sizeLine ∧ ∀ p, H p = none → Q (.ref p) (upd H p (.lst (xs ++ ys)))
theorem op_catQ {X : Cx} : OpR X (binaryOp .Add) (rCatQ X.K) := by
  intro pins s σ H x y v u Q I rx ry h
  obtain ⟨a, b, xs, ys, rfl, rfl, ha, hb, hz, q⟩ := h
  cases rx
  cases ry
  obtain ⟨its, r, ⟨⟨c, dd, da, sl⟩, n, ho, hc, _, hd⟩, _⟩ := I.list ha
  obtain ⟨its2, r2, ⟨⟨c2, dd2, da2, sl2⟩, n2, ho2, hc2, _, hd2⟩, _⟩ := I.list hb
  dsimp only at hc hd hc2 hd2
  subst hc hd hc2 hd2
  have l1 := r.length
  have l2 := r2.length
  have ea : its.toArray ++ its2.toArray = (its ++ its2).toArray := by simp
  refine concat_meets ⟨_, ho, rfl⟩ ⟨_, ho2, rfl⟩ noFill_list_add seq_list_add PySem.F.slot_list_add PySem.F.entry_list_add (PySem.F.args_list_add_2 _ _) (list_addW a b its.toArray its2.toArray n n2 dd dd2 sl sl2 (by rw [List.size_toArray, List.size_toArray]; omega)) ⟨ho, ho2, ?_⟩
  rw [ea]
  exact ⟨.ref _, _, I.lnew (t' := s.toks) (r.append r2) (by rw [List.length_append]; omega), rfl, q _ I.fresh⟩
theorem ev_catQ {as bs : List PyData} (ha : Ev K ta G (.list as)) (hb : Ev K tb G (.list bs)) (hl : as.length + bs.length ≤ 100000) : EvS K (tOp (rCatQ K) ta tb) G (.ow (as ++ bs)) := fun F lab σ H rs Q q =>
  ha F lab σ H rs _ fun x F1 H1 g1 d1 => hb F1 lab σ H1 (rs.go g1) _ fun y F2 H2 g2 d2 => by
    obtain ⟨p, xs, rfl, s1, a1⟩ := dp_list d1.dp
    obtain ⟨r, ys, rfl, s2, a2⟩ := dp_list d2.dp
    have l1 := dpAll_len a1
    have l2 := dpAll_len a2
    exact ⟨p, r, xs, ys, rfl, rfl, Same.seq (g1.fh.trans g2.hh) s1, Same.seq g2.fh s2, by rw [l1, l2, sizeLine_eq]; omega, own_new (g1.trans g2) (dpAll_append (dpAll_mono g2.ff a1) a2) q⟩
/-- xs[:k] + m + xs[k + e:] -/
theorem ev_rep {i j k e : Nat} {ds xs : List PyData} {t2 : TE} (hi : G[i]? = some (.im (.list ds))) (hj : G[j]? = some (.im (.int (k : Nat)))) (hk : k + e ≤ ds.length) (hm : EvS K tm G (.ow xs)) (h2 : EvH K t2 G (.int ((k : Int) + (e : Nat)))) (hl : ds.length + xs.length ≤ 50000) :
    EvS K (tOp (rCatQ K) (tOp (rCatQ K) (tSl (rSlL K) (tVar i) tNoPart (tPart (tVar j))) tm) (tSl (rSlL K) (tVar i) (tPart t2) tNoPart)) G (.ow (ds.take k ++ xs ++ ds.drop (k + e))) := by
  refine ev_catQ (EvS.freeze (ev_catQ (EvS.freeze (EvS.to (ev_slL (lo := none) (hi := some (k : Int)) (ev_var hi) eo_none (eo_some (EvS.h (ev_var hj)))) (by rw [cut_take _ (by omega)]))) (EvS.freeze hm) ?_)) (EvS.freeze (EvS.to (ev_slL (lo := some ((k : Int) + (e : Nat))) (hi := none) (ev_var hi) (eo_some h2) eo_none) ?_)) ?_
  · rw [List.length_take]; omega
  · have e2 : (k : Int) + (e : Nat) = ((k + e : Nat) : Int) := by omega
    rw [e2, cut_drop _ hk]
  · rw [List.length_append, List.length_take, List.length_drop]; omega
/-- xs[:k] + xs[k + e:] -/
theorem ev_rep0 {i j k e : Nat} {ds : List PyData} {t2 : TE} (hi : G[i]? = some (.im (.list ds))) (hj : G[j]? = some (.im (.int (k : Nat)))) (hk : k + e ≤ ds.length) (h2 : EvH K t2 G (.int ((k : Int) + (e : Nat)))) (hl : ds.length ≤ 50000) :
    EvS K (tOp (rCatQ K) (tSl (rSlL K) (tVar i) tNoPart (tPart (tVar j))) (tSl (rSlL K) (tVar i) (tPart t2) tNoPart)) G (.ow (ds.take k ++ ds.drop (k + e))) := by
  refine ev_catQ (EvS.freeze (EvS.to (ev_slL (lo := none) (hi := some (k : Int)) (ev_var hi) eo_none (eo_some (EvS.h (ev_var hj)))) (by rw [cut_take _ (by omega)]))) (EvS.freeze (EvS.to (ev_slL (lo := some ((k : Int) + (e : Nat))) (hi := none) (ev_var hi) (eo_some h2) eo_none) ?_)) ?_
  · have e2 : (k : Int) + (e : Nat) = ((k + e : Nat) : Int) := by omega
    rw [e2, cut_drop _ hk]
  · rw [List.length_take, List.length_drop]; omega
theorem mulS {i j : Int} (h : -(2 ^ 64) < j ∧ j < 2 ^ 64) : CMul i j := .inr h
theorem mulL {i j : Int} (h : -(2 ^ 64) < i ∧ i < 2 ^ 64) : CMul i j := .inl h
end
open PySem PySem.Spec PyProof.Rows L2
/-! ### small data: what repr says of them -/
inductive Sma : Nat → PyData → Prop
  | none (n : Nat) : Sma n .none
  | bool (n : Nat) (b : Bool) : Sma n (.bool b)
  | int (n : Nat) {i : Int} (h : i.natAbs < 10 ^ 12) : Sma n (.int i)
  | str (n : Nat) {x : Str} (h : (x.cps.toList.all fun c => decide (c < 16 ^ 8)) = true) (h2 : x.cps.size ≤ 8) : Sma n (.str x)
  | list {n : Nat} {ds : List PyData} (hl : ds.length ≤ 10) (h : ∀ d ∈ ds, Sma n d) : Sma (n + 1) (.list ds)
  | tuple {n : Nat} {ds : List PyData} (hl : ds.length ≤ 10) (h : ∀ d ∈ ds, Sma n d) : Sma (n + 1) (.tuple ds)
structure SmaOk (n : Nat) (d : PyData) : Prop where
  s : d.showable = true
  h : d.hasDict = false
  l : d.leavesShort 13 = true
  w : d.weight + 1 ≤ 41 * 11 ^ n
  n : d.depth ≤ n
theorem smaAll {n : Nat} : ∀ {ds : List PyData}, (∀ d ∈ ds, SmaOk n d) → PyData.showableAll ds = true ∧ PyData.hasDictAll ds = false ∧ PyData.leavesShortAll 13 ds = true ∧ PyData.weightAll ds ≤ ds.length * (41 * 11 ^ n) ∧ PyData.depthAll ds ≤ n
  | [], _ => ⟨by rw [PyData.showableAll], by rw [PyData.hasDictAll], by rw [PyData.leavesShortAll], by rw [PyData.weightAll]; exact Nat.zero_le _, by rw [PyData.depthAll]; exact Nat.zero_le _⟩
  | d :: ds, h => by
    obtain ⟨a, b, c, e, f⟩ := smaAll fun x hx => h x (List.mem_cons_of_mem _ hx)
    have z := h d List.mem_cons_self
    refine ⟨by rw [PyData.showableAll, z.s, a]; rfl, by rw [PyData.hasDictAll, z.h, b]; rfl, by rw [PyData.leavesShortAll, z.l, c]; rfl, ?_, by rw [PyData.depthAll]; exact Nat.max_le.mpr ⟨z.n, f⟩⟩
    have := z.w
    rw [PyData.weightAll, List.length_cons, Nat.add_mul]
    omega
theorem Sma.ok {n : Nat} {d : PyData} (h : Sma n d) : SmaOk n d := by
  have pos : ∀ n : Nat, 41 ≤ 41 * 11 ^ n := fun n => Nat.le_mul_of_pos_right _ (Nat.pow_pos (by decide))
  have step : ∀ (n k x : Nat), k ≤ 10 → x ≤ k * (41 * 11 ^ n) → x + 1 ≤ 41 * 11 ^ (n + 1) := fun n k x hk hx => by
    have h1 := pos n
    have h2 : k * (41 * 11 ^ n) ≤ 10 * (41 * 11 ^ n) := Nat.mul_le_mul_right _ hk
    have e : 41 * 11 ^ (n + 1) = 11 * (41 * 11 ^ n) := by rw [Nat.pow_succ]; omega
    omega
  induction h with
  | none n => exact ⟨by rw [PyData.showable], by rw [PyData.hasDict], by rw [PyData.leavesShort], by rw [PyData.weight]; have := pos n; omega, by rw [PyData.depth]; exact Nat.zero_le _⟩
  | bool n b => exact ⟨by rw [PyData.showable], by rw [PyData.hasDict], by rw [PyData.leavesShort], by rw [PyData.weight]; have := pos n; omega, by rw [PyData.depth]; exact Nat.zero_le _⟩
  | @int n i h =>
    have lg : i.natAbs.log2 < 40 := by
      by_cases z : i.natAbs = 0
      · rw [z]; decide
      · exact (Nat.log2_lt z).mpr (by omega)
    refine ⟨by rw [PyData.showable]; exact decide_eq_true (by omega), by rw [PyData.hasDict], by rw [PyData.leavesShort]; exact decide_eq_true (PyData.shown_int_le h), ?_, by rw [PyData.depth]; exact Nat.zero_le _⟩
    have := pos n
    rw [PyData.weight]
    split <;> omega
  | @str n x h h2 =>
    refine ⟨by rw [PyData.showable], by rw [PyData.hasDict], by rw [PyData.leavesShort]; exact h, ?_, by rw [PyData.depth]; exact Nat.zero_le _⟩
    have := pos n
    rw [PyData.weight]
    omega
  | @list n ds hl _ ih =>
    obtain ⟨a, b, c, e, f⟩ := smaAll ih
    exact ⟨by rw [PyData.showable]; exact a, by rw [PyData.hasDict]; exact b, by rw [PyData.leavesShort]; exact c, by rw [PyData.weight]; exact step n _ _ hl e, by rw [PyData.depth]; omega⟩
  | @tuple n ds hl _ ih =>
    obtain ⟨a, b, c, e, f⟩ := smaAll ih
    exact ⟨by rw [PyData.showable]; exact a, by rw [PyData.hasDict]; exact b, by rw [PyData.leavesShort]; exact c, by rw [PyData.weight]; exact step n _ _ hl e, by rw [PyData.depth]; omega⟩
theorem Sma.sh {n : Nat} {d : PyData} (h : Sma n d) (hn : n ≤ 4) (hb : isDisplay d = true) : ShD d := by
  have k := h.ok
  refine ⟨k.s, k.h, hb, Nat.le_trans k.n (by omega), PyData.shown_fits (B := 13) (by decide) (by decide) k.l ?_⟩
  have h1 := k.w
  have h2 : 11 ^ n ≤ 11 ^ 4 := Nat.pow_le_pow_right (by decide) hn
  have h3 : (11 : Nat) ^ 4 = 14641 := by decide
  have h4 : (2 : Nat) ^ 20 = 1048576 := by decide
  omega
/-! ### texts: alike, or not -/
def rNeS : R2 := fun x y H Q => ∃ i j : Str, x = .str i ∧ y = .str j ∧ Q (.bl (i.cps.toList != j.cps.toList)) H
theorem op_neS {X : Cx} : OpR X (compareOp .NotEq) rNeS := by
  intro pins s σ H x y v u Q I rx ry h
  obtain ⟨i, j, rfl, rfl, q⟩ := h
  obtain ⟨t, rfl⟩ := rx
  obtain ⟨t2, rfl⟩ := ry
  exact PySem.P.ne_str ⟨.bl _, H, I, rfl, q⟩
section
variable {K : PySem.W.Frag} {G : Env} {ta tb : TE}
theorem ev_neSame {x : Str} (ha : EvH K ta G (.str x)) (hb : EvH K tb G (.str x)) : Ev K (tOp rNeS ta tb) G (.bool false) :=
  ev_op2 ha hb fun H v u hv hu Q q => by
    cases hv
    cases hu
    exact ⟨x, x, rfl, rfl, by rw [bne_self_eq_false]; exact q _ (.bl _)⟩
end
open PySem PySem.Spec PyProof.Rows L2
/-! ### an exception out of a comprehension -/
/-- an exception that goes through X, in flight or noted in the frame L; sI is the state without it -/
def XF (X : Cx) (L : Addr) (W : XK) (u : Value) (s' : Shared) : Prop :=
  ∃ (a : Addr) (B : Heap) (sI : Shared) (pins : List (Addr × Obj)) (σ : L2.St) (H : Hp) (cls : Value) (d : Option Addr),
    u = .ref a ∧ Inv X pins σ H sI ∧ (∀ b o, sI.heap.get? b = some o → b ∉ frs X.stack → B.get? b = some o) ∧ sI.heap.UpToSlots s'.heap ∧
      (HandSPX.FlyingZ B X.stack a (Zc cls d) s'.heap ∨ HandSPX.HeldZ B X.stack a (Zc cls d) L s'.heap) ∧ H a = none ∧ s'.os = sI.os ∧ AllBare s'.gens ∧ W cls d H
/-- what W tells of goes through -/
def Lets (X : Cx) (L : Addr) (W : XK) : Prop := ∀ u s', XF X L W u s' → X.xe u s'
section
variable {X : Cx} {L : Addr} {W : XK}
theorem lets_fn (tk : Takes X (fun cls d _ H => W cls d H)) : Lets X X.env.locals W := fun u s' ⟨a, B, sI, pins, σ, H, cls, d, e, I, nb, up, sky, na, os, ag, w⟩ =>
  tk u s' ⟨a, B, sI, pins, σ, H, cls, d, e, I, nb, up, .inr sky, na, os, ag, w⟩
/-- the ground beside some addresses, and the frames -/
theorem ground_of {h B : Heap} {l : List Addr} (st : B.StaysIn h) : ∃ G : Heap, (∀ b o, B.get? b = some o → G.get? b = some o) ∧ (∀ b, b ∈ l → G.get? b = h.get? b) ∧ (∀ b o, G.get? b = some o → h.get? b = some o ∧ (b ∉ l → B.get? b = some o)) := by
  obtain ⟨G, g1, g2⟩ := restrict h fun b => (B.get? b).isSome || decide (b ∈ l)
  refine ⟨G, fun b o e => ?_, fun b hb => g1 b (by simp [hb]), fun b o e => ?_⟩
  · rw [g1 b (by simp [e])]
    exact st b o e
  · cases q : ((B.get? b).isSome || decide (b ∈ l)) with
    | false => rw [g2 b q] at e; cases e
    | true =>
      rw [g1 b q] at e
      refine ⟨e, fun hb => ?_⟩
      have q2 : (B.get? b).isSome = true := by simpa [hb] using q
      obtain ⟨o', q3⟩ := Option.isSome_iff_exists.mp q2
      have := st b o' q3
      rw [e] at this
      cases this
      exact q3
/-- a call's exception goes through -/
theorem passes_lets {E : XK} (h : Lets X L W) (hW : ∀ cls d H, E cls d H → W cls d H) : Passes (L2.CX X.prog X.w) X E := fun pins σ H s u s' I c => by
  obtain ⟨a, B, H', cls, d, rfl, fl, hok, ub, na, os, ag, hE⟩ := c
  obtain ⟨G, gB, gF, og⟩ := ground_of (l := frs X.stack) fl.1
  refine h _ _ ⟨a, B, { s with heap := G, gens := s'.gens, drawn := s'.drawn, toks := s'.toks }, pins, σ, H', cls, d, rfl, ?_, fun b o e hb => (og b o e).2 hb, Heap.UpToSlots.of_keeps fun b o e => (og b o e).1, .inl fl, na, os, ag, hW _ _ _ hE⟩
  refine I.call (ch := []) ⟨fun b o e n hb _ => gB b o (ub.keep b o e n hb), fun b o e n hb _ => ?_, fun b o e n _ => ub.free b o e n, fun b o e _ => ?_, ub.tups, ub.frzs, ub.tbls⟩ (hok.kept gB) ag (fun _ z => nomatch z)
  · rw [gF b hb]
    exact ub.slot b o e hb
  · by_cases hb : b ∈ frs X.stack
    · obtain ⟨sl, q⟩ := ub.slot b o e hb
      exact ⟨_, by rw [gF b hb]; exact q⟩
    · obtain ⟨o', q⟩ := ub.there b o e hb
      exact ⟨o', gB b o' q⟩
theorem frames_sub {h B B' : Heap} (k : ∀ b, B.get? b = none → B'.get? b = none) : ∀ {l : List PySem.Env}, h.FunFrames B l → h.FunFrames B' l
  | [], _ => trivial
  | _ :: _, ⟨a, ⟨L, o, e, n, g, f⟩, r⟩ => ⟨a, ⟨L, o, e, k _ n, g, f⟩, frames_sub k r⟩
/-- out of a block: its names are let go, on it goes in the frame around -/
theorem lets_blk {Fe : PySem.Env} {O : List PySem.Env} {pins : List (Addr × Obj)} {σ : L2.St} {H3 : Hp} {s3 : Shared} {scope : Scope} {ce : PySem.Env} {fp : List Addr} (hL : Lets X L W) (hst : X.stack = Fe :: O) (hF : Fe.frame = some L) (hce : ce.frame = some L) (hC : ce.locals = s3.heap.objs.size)
    (I3 : Inv X pins σ H3 s3) (f3 : ∀ b ∈ fp, FpOk X pins H3 b) :
    Lets ((X.blk s3 H3 scope ce fp).wish (notedBy (model X.prog X.w) X.A ce (CompFails (model X.prog X.w) X.A X.xe ce))) L W := by
  rintro u s' ⟨a, B, sI, pins', σ', H, cls, d, rfl, I0, nb, up, sky, na, os, ag, w⟩
  have I : Inv (X.blk s3 H3 scope ce fp) pins' σ' H sI := I0.unwish
  have hfr : X.A.frames = some (Fe :: O) := by rw [I3.ok.frames, hst]
  have newC : ∀ b o, s3.heap.get? b = some o → b ≠ ce.locals := fun b o e z => by
    have := Heap.lt_size e
    rw [z, hC] at this
    exact absurd this (Nat.lt_irrefl _)
  obtain ⟨m, hn, _⟩ := I.loc
  have hn : sI.heap.Ns ce.locals m := hn
  have freeC : H ce.locals = none := I.free
  show wpAny _ X.A (noteFrame (.ref a) ce) _ _ s'
  rw [noteFrame_env _ (env := Fe) (by rw [hce, hF])]
  have fin : ∀ h1, HandSPX.HeldZ B X.stack a (Zc cls d) L h1 → s'.heap.UpToSlots h1 → CompFails (model X.prog X.w) X.A X.xe ce (.ref a) { s' with heap := h1 } := fun h1 hh up1 => by
    have hn1 : h1.Ns ce.locals m := up1.ns (up.ns hn)
    refine ⟨m, hn1, fun h2 m2 hn2 sb => ?_⟩
    obtain ⟨q1, q2, q3, oe, vs, T, oT, ts, he, hz, hd, e1, hnT, hTe, hT, hdT, e3⟩ := hh
    -- records are no names
    have nrec : ∀ b o ws, h1.get? b = some o → o.data = .fields ws → b ≠ ce.locals := fun b o ws e z y => by
      obtain ⟨o', es, ep, e', d', _⟩ := hn1
      rw [y] at e
      have e : some o = some o' := e.symm.trans e'
      cases e
      rw [z] at d'
      cases d'
    have sub : ∀ b o, (PySem.W.hideAll B [ce.locals]).get? b = some o → B.get? b = some o ∧ b ≠ ce.locals := fun b o e => ⟨PySem.W.of_hideAll _ e, fun z => by
      rw [PySem.W.hideAll_none [ce.locals] (by rw [z]; exact List.mem_singleton.mpr rfl)] at e
      cases e⟩
    have subN : ∀ b, B.get? b = none → (PySem.W.hideAll B [ce.locals]).get? b = none := fun b n => by
      cases q : (PySem.W.hideAll B [ce.locals]).get? b with
      | none => rfl
      | some o => rw [(sub b o q).1] at n; cases n
    have inG : ∀ b o, B.get? b = some o → b ≠ ce.locals → (PySem.W.hideAll B [ce.locals]).get? b = some o := fun b o e n => PySem.W.hideAll_get _ e (fun z => n (List.mem_singleton.mp z))
    have hh2 : HandSPX.HeldZ (PySem.W.hideAll B [ce.locals]) X.stack a (Zc cls d) L h2 := ⟨fun b o e => (sb.2 b (sub b o e).2).trans (q1 b o (sub b o e).1), subN _ q2, frames_sub subN (Heap.FunFrames.sameBut sb hn2 q3),
      oe, vs, T, oT, ts, (sb.2 a (nrec a oe vs he hd)).trans he, hz, hd, e1, subN _ hnT, hTe, (sb.2 T (nrec T oT ts hT hdT)).trans hT, hdT, e3⟩
    unfold PySem.passOn
    refine wpAny_bind (wpAny_field ((sb.2 a (nrec a oe vs he hd)).trans he) hd e1 ?_)
    rw [if_neg (show ¬ ((Value.ref T == Value.none) = true) from by simp), hce]
    refine wpAny_bind (HandSPX.setFlight_onZ hh2 fun h3 hh3 up3 => wpAny_throw ?_)
    obtain ⟨G, gB, gF, og⟩ := ground_of (l := frs X.stack) hh3.1
    have fst : ∀ b o, s3.heap.get? b = some o → b ∈ frs X.stack → ∃ sl, h3.get? b = some { o with slots := sl } := fun b o e hb => by
      obtain ⟨_, o0, e0, nf⟩ := I3.stack.mem hb
      rw [e] at e0
      cases e0
      obtain ⟨sl, k1⟩ := I.base.slot b o e (I3.stkFree b hb) hb (fun z => (f3 b z).2.1 |> fun ne => by
        rcases List.mem_cons.mp (I3.stkSub b hb) with y | y
        · exact ne y
        · exact (f3 b z).2.2.1 y)
      obtain ⟨sl1, k2⟩ := up b _ k1 nf
      obtain ⟨sl2, k3⟩ := up1 b _ k2 nf
      have k4 := (sb.2 b (newC b o e)).trans k3
      obtain ⟨sl3, k5⟩ := up3 b _ k4 nf
      exact ⟨sl3, k5⟩
    refine hL _ _ ⟨a, PySem.W.hideAll B [ce.locals], { s3 with heap := G, gens := s'.gens, drawn := s'.drawn, toks := s'.toks }, pins, σ, H, cls, d, rfl, ?_, fun b o e hb => (og b o e).2 hb, Heap.UpToSlots.of_keeps fun b o e => (og b o e).1, .inr hh3, na, os.trans I.os, ag, w⟩
    refine I3.call (ch := fp) ⟨fun b o e n hb hc => gB b o (inG b o (nb b o (I.base.keep b o e n hb hc) hb) (newC b o e)), fun b o e n hb hc => ?_, fun b o e n hc => I.base.free b o e n hc, fun b o e hc => ?_, I.base.tups, I.base.frzs, I.base.tbls⟩ (fun b o q => ?_) ag fun b hb => ⟨(f3 b hb).2.2.2.1, (f3 b hb).2.1, (f3 b hb).2.2.2.2.1, (f3 b hb).2.2.2.2.2⟩
    · rw [gF b hb]
      exact fst b o e hb
    · by_cases hb : b ∈ frs X.stack
      · obtain ⟨sl, q⟩ := fst b o e hb
        exact ⟨_, by rw [gF b hb]; exact q⟩
      · obtain ⟨o', q⟩ := I.base.there b o e hc
        exact ⟨o', gB b o' (inG b o' (nb b o' q hb) (newC b o e))⟩
    · refine (I.hok b o q).stay (fun c u hc r => ?_) (fun _ r => r) fun _ _ r => r
      have tr : H c ≠ none := fun z => by
        rcases hc with hc | hc
        · rw [hc, q] at z; cases z
        · rw [hc] at z; cases z
      exact gB c u (inG c u (nb c u r fun hm => tr (I.stkFree c hm)) fun z => tr (by rw [z]; exact freeC))
  rw [hst] at sky fin
  rcases sky with fl | hh
  · exact HandSPX.looks_onZ Zc.steady hfr hF fl fin
  · exact HandSPX.againZ hF hh.2.2.2 (fin s'.heap hh (Heap.UpToSlots.refl _))
/-- [elt for target in iter if ..], of which the element may raise -/
theorem lcX_core {use : Option (Value → Sem Unit)} {Qf : Value → Shared → Prop} {pins : List (Addr × Obj)} {s : Shared} {σ : L2.St} {H : Hp} {Q : VK} {pos' : Pos} {elt tg iter : Expr} {ifs : List Expr} {scope : Scope} {own : List (Str × Nat)} {pos : Pos} {wi : TI} {g : TG} {tt : TT} {te : TE} {Fe : PySem.Env} {O : List PySem.Env} (hc : X.calm = true) (hN : X.N.Nodup) (hst : X.stack = Fe :: O) (hF : Fe.frame = some L) (hE : X.env.frame = some L) (hL : Lets X L W) (I : Inv X pins σ H s)
    (hi : PI X tg iter wi) (ok : BlkOk X.N X.env.scope scope own)
    (hg : ∀ (s : Shared) (H : Hp) (C : Addr) (cl : List (Str × Addr)) (fp : List Addr), PG (X.blk s H scope (compEnvC scope cl C X.env) fp) tg g)
    (ht : ∀ (s : Shared) (H : Hp) (C : Addr) (cl : List (Str × Addr)) (fp : List Addr), PTs (X.blk s H scope (compEnvC scope cl C X.env) fp) ifs tt)
    (he : ∀ (s : Shared) (H : Hp) (C : Addr) (cl : List (Str × Addr)) (fp : List Addr) (xe : Value → Shared → Prop), Lets ((X.blk s H scope (compEnvC scope cl C X.env) fp).wish xe) L W → PE ((X.blk s H scope (compEnvC scope cl C X.env) fp).wish xe) elt te)
    (hs : ∀ x, foldedSetIterable iter X.env x = pure x) (h : tLc wi g tt te (own.map (·.2)) σ H Q)
    (hRR : ∀ D ce s' m H', Inv X pins σ H' s' → Q (.ref D) H' → s'.heap.Ns ce.locals m → FpOk X pins H' ce.locals → compEnds (model X.prog X.w) X.A X.xe use Qf (.ref D) ce (.ok .next) s') :
    wpAny (model X.prog X.w) X.A (comprehension (.ListComp elt [⟨tg, iter, ifs, 0⟩] scope pos) scope X.env pos' (newList []) false (eval iter X.env) use) Qf X.xe s := by
  have hfree : ∀ y ∈ scope.names, y.2 = .free → ∃ c, X.env.cells.lookup y.1 = some c := fun y hy e => (ok.free y hy e).elim (fun k => I.ok.has _ (.inl k)) fun k => I.ok.has _ (.inr k)
  refine comprehension_at (use := use) rfl hs (closure_ok hfree) ok.kind (fun y hy e => by rw [ok.uniq y hy, e]) (thn (hi.run pins s σ H _ I h) fun xv s1 hx => thn hx fun itv s2 h2 => ?_)
  obtain ⟨it, fp, tn, J, H2, rfl, I2, T, st2, f2, q⟩ := h2
  refine wpAny_newObj_type (newEnv_comp ?_) (by show 0 ≤ sizeLine; decide)
  generalize hD : s2.heap.objs.size = D
  have hDn : H2 D = none := I2.hok.fresh (Nat.le_of_eq hD)
  obtain ⟨Wm, ⟨m0, w0⟩, turn⟩ := q D hDn
  generalize hs3 : ({ s2 with heap := s2.heap.push { cls := .type "list", data := .seq ([] : List Value).toArray } } : Shared) = s3
  have h3 : s3.heap = s2.heap.push { cls := .type "list", data := .seq ([] : List Value).toArray } := by rw [← hs3]
  have I3 : Inv X pins σ (upd H2 D (.lst [])) s3 := by
    subst hs3
    exact I2.laid (t' := s2.toks) (fun b o e => Heap.get?_push_of_some _ e) (Nat.le_of_eq hD) ⟨Nat.zero_le _, [], 0, .nil, by rw [← hD]; exact Heap.get?_push_size _ rfl⟩
  have sz : ∀ b ∈ fp, b < s2.heap.objs.size := fun b hb => let ⟨_, e, _⟩ := T.obj _ _ st2 b hb; Heap.lt_size e
  have f3 : ∀ b ∈ fp, FpOk X pins (upd H2 D (.lst [])) b ∧ b < s3.heap.objs.size := fun b hb => ⟨⟨by rw [upd_ne (by rw [← hD]; exact Nat.ne_of_lt (sz b hb))]; exact (f2 b hb).1, (f2 b hb).2⟩, by rw [h3, Heap.size_push]; exact Nat.lt_succ_of_lt (sz b hb)⟩
  have st3 : tn 0 s3.heap := T.keep _ _ _ st2 fun b _ o e => by rw [h3]; exact Heap.get?_push_of_some _ e
  have I4 := block_start I3 ok hN f3
  have pg := hg s3 (upd H2 D (.lst [])) s3.heap.objs.size (cellsFrom (s3.heap.objs.size + 1) scope.names (cloFrom X.env.cells scope.names [])) fp
  have pt := ht s3 (upd H2 D (.lst [])) s3.heap.objs.size (cellsFrom (s3.heap.objs.size + 1) scope.names (cloFrom X.env.cells scope.names [])) fp
  have pe := fun xe => he s3 (upd H2 D (.lst [])) s3.heap.objs.size (cellsFrom (s3.heap.objs.size + 1) scope.names (cloFrom X.env.cells scope.names [])) fp xe
  show codeAny _ _ (.compStart (.ListComp elt [⟨tg, iter, ifs, 0⟩] scope pos) 0 (.ref it) (.ref D) (compEnvC scope (cellsFrom (s3.heap.objs.size + 1) scope.names (cloFrom X.env.cells scope.names [])) s3.heap.objs.size X.env))
    (compEnds (model X.prog X.w) X.A X.xe use Qf (.ref D) (compEnvC scope (cellsFrom (s3.heap.objs.size + 1) scope.names (cloFrom X.env.cells scope.names [])) s3.heap.objs.size X.env)) { s3 with heap := pushCells (s3.heap.push { cls := .type "dict", data := .dict #[] }) scope.names }
  have nfp : ∀ b ∈ fp, (upd H2 D (.lst [])) b = none := fun b hb => (f3 b hb).1.1
  generalize hce : compEnvC scope (cellsFrom (s3.heap.objs.size + 1) scope.names (cloFrom X.env.cells scope.names [])) s3.heap.objs.size X.env = ce at I4 pg pt pe ⊢
  have cL : ce.locals = s3.heap.objs.size := by subst hce; rfl
  have cF : ce.frame = some L := by subst hce; exact hE
  generalize hH3 : upd H2 D (.lst []) = H3 at I3 I4 pg pt pe w0 nfp f3
  have pe := pe _ (lets_blk hL hst hF cF cL I3 fun b hb => (f3 b hb).1)
  generalize hs4 : ({ s3 with heap := pushCells (s3.heap.push { cls := .type "dict", data := .dict #[] }) scope.names } : Shared) = s4 at I4 ⊢
  have st4 : tn 0 s4.heap := T.keep _ _ _ st3 fun b _ o e => by rw [← hs4]; exact pushCells_keeps _ _ _ _ (Heap.get?_push_of_some _ e)
  have stat : ∀ {σ' : L2.St} {H' : Hp} {s' : Shared}, Inv (X.blk s3 H3 scope ce fp) [] σ' H' s' → (∀ b ∈ fp, H' b = none) → ∀ b ∈ fp, FpOk (X.blk s3 H3 scope ce fp) [] H' b := fun I' hn b hb =>
    ⟨hn b hb, (I'.ok.exf b hb).1, I'.ok.exfs b hb, .inl hb, fun x c e => (I'.ok.exf b hb).2 x c e, fun p hp => absurd (show p ∈ ([] : List (Addr × Obj)) ++ [] from hp) (by simp)⟩
  have loop : codeAny (model X.prog X.w) X.A (.compLoop (.ListComp elt [⟨tg, iter, ifs, 0⟩] scope pos) 0 (.ref it) (.ref D) ce) (compEnds (model X.prog X.w) X.A X.xe use Qf (.ref D) ce) s4 := by
    refine compLoop_any (fun n s' => ∃ i H', Inv (X.blk s3 H3 scope ce fp) [] (wipe σ (own.map (·.2))) H' s' ∧ tn i s'.heap ∧ (∀ b ∈ fp, H' b = none) ∧ Wm i n H') ?_ m0 ⟨0, H3, I4, st4, nfp, w0⟩
    rintro n s5 ⟨i, H5, I5, st5, n5, w5⟩
    rcases turn i n H5 w5 with ⟨stop, qq⟩ | ⟨go, Nx, hNx, step⟩
    · refine thnF (T.done (X.blk s3 H3 scope ce fp) rfl rfl rfl hc i [] s5 _ H5 (fun _ _ => False) I5 (stat I5 n5) st5 stop) fun r s6 ⟨hr, I6⟩ => ?_
      subst hr
      have I7 : Inv X pins σ H5 s6 := I3.call' (ch := fp) I6.os I6.base I6.hok I6.bare fun b hb => ⟨(f3 b hb).1.2.2.2.1, (f3 b hb).1.2.1, (f3 b hb).1.2.2.2.2.1, (f3 b hb).1.2.2.2.2.2⟩
      have nC : H5 s3.heap.objs.size = none := by rw [← cL]; exact I6.free
      obtain ⟨m, hn, _⟩ := I6.loc
      have hn : s6.heap.Ns ce.locals m := hn
      exact hRR D ce s6 m H5 I7 qq hn (by rw [cL]; exact I3.fpOk (Nat.le_refl _) nC)
    · refine thnF (T.item (X.blk s3 H3 scope ce fp) rfl rfl rfl hc i [] s5 _ H5 (fun _ _ => False) I5 (stat I5 n5) st5 go) fun r s6 ⟨u, hr, h6⟩ => ?_
      subst hr
      refine thnF h6 fun _ s7 ⟨x, H7, I7, r7, y7, st7, n7⟩ => ?_
      have I7' := I7.pinned (stat I7 n7) (T.obj _ _ st7)
      refine thnF (pg.run _ s7 _ H7 x u _ I7' r7 (step x H7 y7)) fun _ s8 ⟨σ8, H8, I8, hw8, q8⟩ => ?_
      refine thnF (pt.run _ s8 σ8 H8 _ I8 q8) fun b s9 ⟨H9, I9, q9⟩ => ?_
      have fin : ∀ {s' : Shared} {H' : Hp}, Inv (X.blk s3 H3 scope ce fp) ([] ++ pinsAt fp s7.heap) σ8 H' s' → Nx H' → ∃ m, m < n ∧ ∃ i H', Inv (X.blk s3 H3 scope ce fp) [] (wipe σ (own.map (·.2))) H' s' ∧ tn i s'.heap ∧ (∀ b ∈ fp, H' b = none) ∧ Wm i m H' := fun {s' H'} I' nx => by
        obtain ⟨m', hm, w'⟩ := hNx H' nx
        have stays : ∀ b ∈ fp, ∀ o, s7.heap.get? b = some o → s'.heap.get? b = some o ∧ H' b = none := fun b hb o e =>
          let z := I'.pin (b, o) (List.mem_append_right _ (List.mem_append_right _ (mem_pinsAt hb e)))
          ⟨z.1, z.2.1⟩
        refine ⟨m', hm, i + 1, H', (I'.unpinned (pins := [])).weak (by rw [← hw8, wipe_length]) (fun j v e => by rw [← hw8] at e; exact (wipe_some e).1), T.keep _ _ _ st7 fun b hb o e => (stays b hb o e).1, fun b hb => ?_, w'⟩
        obtain ⟨o, e, _⟩ := T.obj _ _ st7 b hb
        exact (stays b hb o e).2
      cases b with
      | false =>
        simp only [Bool.false_eq_true, if_false] at q9 ⊢
        exact fin I9 q9
      | true =>
        simp only [if_true] at q9 ⊢
        refine wpAny_mono (pe.run _ s9 σ8 H9 _ (I9.wish _) q9) (fun z s10 ⟨yv, H10, I10, r10, acc, hD10, hz10, nx⟩ => ?_) fun _ _ y => y
        exact app_ok (X := X.blk s3 H3 scope ce fp) I10.unwish hD10 hz10 r10 fun s11 I11 => fin I11 nx
  exact codeAny_compStart_list loop (T.self X.A 0 _ _ _ st4 loop)
/-- as a value -/
theorem pe_lcX {elt tg iter : Expr} {ifs : List Expr} {scope : Scope} {own : List (Str × Nat)} {pos : Pos} {wi : TI} {g : TG} {tt : TT} {te : TE} {Fe : PySem.Env} {O : List PySem.Env} (hc : X.calm = true) (hN : X.N.Nodup) (hst : X.stack = Fe :: O) (hF : Fe.frame = some L) (hE : X.env.frame = some L) (hL : Lets X L W)
    (hi : PI X tg iter wi) (ok : BlkOk X.N X.env.scope scope own)
    (hg : ∀ (s : Shared) (H : Hp) (C : Addr) (cl : List (Str × Addr)) (fp : List Addr), PG (X.blk s H scope (compEnvC scope cl C X.env) fp) tg g)
    (ht : ∀ (s : Shared) (H : Hp) (C : Addr) (cl : List (Str × Addr)) (fp : List Addr), PTs (X.blk s H scope (compEnvC scope cl C X.env) fp) ifs tt)
    (he : ∀ (s : Shared) (H : Hp) (C : Addr) (cl : List (Str × Addr)) (fp : List Addr) (xe : Value → Shared → Prop), Lets ((X.blk s H scope (compEnvC scope cl C X.env) fp).wish xe) L W → PE ((X.blk s H scope (compEnvC scope cl C X.env) fp).wish xe) elt te)
    (hs : ∀ x, foldedSetIterable iter X.env x = pure x := by intro _; rfl) :
    PE X (.ListComp elt [⟨tg, iter, ifs, 0⟩] scope pos) (tLc wi g tt te (own.map (·.2))) := by
  refine ⟨fun pins s σ H Q I h => ?_⟩
  rw [eval_ListComp]
  refine lcX_core (use := none) hc hN hst hF hE hL I hi ok hg ht he hs h fun D ce s' m H' I' q hn f => ⟨m, hn, fun h'' sb => ?_⟩
  obtain ⟨f0, f1, f2, f3, f4, f5⟩ := f
  exact ⟨.ref D, H', I'.turned (t' := s'.toks) (fun b o hb e => (sb.2 b hb).trans e) f0 f1 f3 f4 f5, rfl, q⟩
/-- name = [..] on one line -/
theorem ps_setLcX {i : Nat} {y : Str} {py : Pos} {elt tg iter : Expr} {ifs : List Expr} {scope : Scope} {own : List (Str × Nat)} {pos spos : Pos} {wi : TI} {g : TG} {tt : TT} {te : TE} {Fe : PySem.Env} {O : List PySem.Env} (hc : X.calm = true) (hN : X.N.Nodup) (hy : X.N[i]? = some y) (hyl : X.env.scope.names.lookup y = some .local)
    (hsw : swapsWith (.ListComp elt [⟨tg, iter, ifs, 0⟩] scope pos) (some (.Name y py)) spos.line X.env = pure true) (hst : X.stack = Fe :: O) (hF : Fe.frame = some L) (hE : X.env.frame = some L) (hL : Lets X L W)
    (hi : PI X tg iter wi) (ok : BlkOk X.N X.env.scope scope own)
    (hg : ∀ (s : Shared) (H : Hp) (C : Addr) (cl : List (Str × Addr)) (fp : List Addr), PG (X.blk s H scope (compEnvC scope cl C X.env) fp) tg g)
    (ht : ∀ (s : Shared) (H : Hp) (C : Addr) (cl : List (Str × Addr)) (fp : List Addr), PTs (X.blk s H scope (compEnvC scope cl C X.env) fp) ifs tt)
    (he : ∀ (s : Shared) (H : Hp) (C : Addr) (cl : List (Str × Addr)) (fp : List Addr) (xe : Value → Shared → Prop), Lets ((X.blk s H scope (compEnvC scope cl C X.env) fp).wish xe) L W → PE ((X.blk s H scope (compEnvC scope cl C X.env) fp).wish xe) elt te)
    (hs : ∀ x, foldedSetIterable iter X.env x = pure x := by intro _; rfl) :
    PS X (.Assign [.Name y py] (.ListComp elt [⟨tg, iter, ifs, 0⟩] scope pos) spos) (tAsg (tLc wi g tt te (own.map (·.2))) (gName i)) := by
  refine ⟨fun pins s σ H D I h => ?_⟩
  rw [exec_Assign_Name_used _ _ _ _ hsw]
  refine wpAny_bind (wpAny_standAt (wpAny_bind ?_))
  show wpAny _ X.A (do let _ ← comprehension (.ListComp elt [⟨tg, iter, ifs, 0⟩] scope pos) scope X.env (firstIterPos [⟨tg, iter, ifs, 0⟩] pos) (newList []) false (eval iter X.env) (some (assign (.Name y py) X.env))) _ _ s
  have h : tLc wi g tt te (own.map (·.2)) σ H (fun x H1 => gName i x σ H1 D.nx) := h
  refine wpAny_bind (thn (lcX_core (Qf := fun _ s' => SP X pins D .next s') hc hN hst hF hE hL I hi ok hg ht he hs h fun D2 ce s' m H' I' q hn f => ?_) fun _ s' hq => wpAny_pure (wpAny_pure hq))
  obtain ⟨f0, f1, f2, f3, f4, f5⟩ := f
  show wpAny _ _ (assign (.Name y py) X.env (.ref D2)) _ _ _
  refine wpAny_assign_Name (store_ok2 (v := V.ref D2) I' hN hy (.inl hyl) rfl (fun s2 I2 ⟨a, sb, ha⟩ => ?_) (.inr hyl))
  have haC : ce.locals ≠ a := by
    rcases ha with z | z
    · rw [z]; exact f1
    · exact fun e => f4 y a z e.symm
  exact ⟨m, hn.sameBut sb haC, fun h3 sb3 => ⟨_, H', I2.turned (t' := s2.toks) (fun b o hb e => (sb3.2 b hb).trans e) f0 f1 f3 f4 f5, q⟩⟩
end
open PySem PySem.Spec PyProof.Rows L2
/-! ### a def whose exceptions are known to have no context yet -/
theorem okXN {P : Program} {w : World} {K : PySem.W.Frag} {mg : Str → Option Value} {base : Heap} {x qual : Str} {st : Stmt} {f : Addr} {fd : FuncData} {N ps : List Str} {k : Nat} {sp : Sp} (F : Fun K x qual st f fd) (S : FnScope N ps (defScope st)) (len : ∀ vs H Q E, sp vs H Q E → vs.length = ps.length)
    (hbody : ∀ (cdv : Value) (A : Around) (outer : List PySem.Env) (s : Shared) (H : Hp) (vs : List V) (Q : VK) (E : XK), Room k (A.deeper (envOfC qual (defScope st) s.heap.objs.size f cdv)) → sp vs H Q E →
      ∃ t, PSs (cxOf (L2N.CX P w) P w K mg base N qual (defScope st) f cdv A outer s H E) (defBody st) t ∧ t { nx := fun _ H' => Q .non H', rt := Q } (L2.start N vs) H) : FnOk P w K mg base (L2N.CX P w) (k + 1) f fd ps sp := by
  obtain ⟨oc, od, kV, doc, pm, an, cdv, ct, osl, rfl, lk, hcd⟩ := F.ex
  exact fn_of lk hcd S len fun A outer s H vs Q E hr hsp => hbody cdv A outer s H vs Q E hr hsp
theorem cxN {P : Program} {w : World} {outer : List PySem.Env} {H : Hp} {s : Shared} {E : XK} {u : Value} {s' : Shared} (c : L2N.CX P w outer H s E u s') : L2.CX P w outer H s E u s' := by
  obtain ⟨a, B, H', cls, d, e, fl, hok, ub, na, os, ag, hE⟩ := c
  exact ⟨a, B, H', cls, d, e, L2H.flyingZ_imp (fun o z => L2N.Zn.zc z) fl, hok, ub, na, os, ag, hE⟩
theorem fnN {P : Program} {w : World} {K : PySem.W.Frag} {mg : Str → Option Value} {base : Heap} {k : Nat} {f : Addr} {fd : FuncData} {ps : List Str} {sp : Sp} (F : FnOk P w K mg base (L2N.CX P w) k f fd ps sp) : FnOk P w K mg base (L2.CX P w) k f fd ps sp :=
  ⟨F.len, fun A outer s H args us vs Q E hr he hb hv hs => codeAny_mono (F.run A outer s H args us vs Q E hr he hb hv hs) fun r s' h => match r, h with
    | .ok (.ret _), h => h
    | .error _, h => cxN h⟩
theorem calN {P : Program} {w : World} {K : PySem.W.Frag} {mg : Str → Option Value} {base : Heap} {k : Nat} {x : Str} {ps : List Str} {sp : Sp} (c : Cal P w K mg base (L2N.CX P w) k x ps sp) : Cal P w K mg base (L2.CX P w) k x ps sp :=
  let ⟨f, fd, F, a, b, d⟩ := c.ex
  ⟨f, fd, fnN F, a, b, d⟩
section
variable {X : Cx}
/-- f(..), in a try whose suite raises -/
theorem pe_calSN {x : Str} {ps : List Str} {sp : Sp} {k j : Nat} {W : WX} {e : Expr} {es : List Expr} {t : TA} {p pos : Pos} (c : Cal X.prog X.w X.K X.mg X.base (L2N.CX X.prog X.w) k x ps sp) (hr : Room j X.A) (hk : k ≤ j) (hg : Gl X x) (tk : L2N.Takes X W) (ha : PA X (e :: es) t)
    (hdb : (x == ("__debug__" : Str)) = false := by decide) (he : starEach (e :: es) X.env = (false, eval e X.env) :: starEach es X.env := by rfl) (hpl : (backTo pos (starEach es X.env)).any (·.1) = false := by rfl) :
    PE X (.Call (.Name x p) (e :: es) [] pos) (tCallS sp (WE W) t) := by
  obtain ⟨f, fd, F, hm, hkp, hb⟩ := c.ex
  exact L2.pe_callS F (hr.mono hk) hg hm hkp hb (fun σ => L2N.passAt tk σ) ha hdb he hpl
/-- X('m'): its record has six fields -/
theorem pmk5_own {C : Addr} {bmB : List Value} {B newId initId : String} {x m : Str} {j : Nat} {p p2 pos : Pos} (F : ExcBaseFacts B newId initId bmB) (q : PySem.W.excIn X.K C bmB newId = true) (gC : X.mg x = some (.ref C)) (kC : PySem.W.keepIn X.K (.ref C) = true) (r : Raises X (.ref C)) (hg : Gl X x)
    (hdb : (x == ("__debug__" : Str)) = false := by decide) : L2H.PMk5 X (.Call (.Name x p) [.Constant (.str m) j p2] [] pos) (fun _ H Q => Q (.ref C) none H) := by
  intro pins s σ H Q I h
  refine wpAny_Call_Name_kw (ld_glob I hg gC ?_ hdb)
  refine PySem.W.callWith_K (h₀ := X.base) I.ok.mod.kin kC (thn ((pa_cons pe_str pa_nil : PA X [.Constant (.str m) j p2] (tCons (tC (.str m)) tNil)).run pos pins s σ H (fun vs H1 => vs = [V.str m] ∧ H = H1) I ⟨rfl, rfl⟩) fun us s1 hh => ?_)
  obtain ⟨vs, H1, I1, r1, rfl, rfl⟩ := hh
  refine ⟨I1.kIn, ?_⟩
  match us, r1 with
  | [u], .cons _ .nil =>
    obtain ⟨bm, N, nm, qn, bs, hdct, sn, sub, ab, col, dd, k0, k1, k2, k3, k5, mN, hC, hN, hni, T⟩ := exc_obj I1.kIn q
    show wpAny _ _ (call (.ref C) [u]) _ _ _
    exact wpAny_call_exc_subT F T hC hN hni (fun h' e hm => L2H.mk_of5 I1 hm r h (I1.hok.gone hm.new)) (by show 1 ≤ sizeLine; rw [sizeLine_eq]; omega)
/-- raise X('m') from None, in a suite -/
theorem ps_raiseN {E : XK} {C : Addr} {e : Expr} {j : Nat} {cpos pos : Pos} (hc : L2H.HotC X) (tk : L2.Takes X (fun cls d _ H => E cls d H)) (he : L2H.PMk5 X e (fun _ H Q => Q (.ref C) none H)) : PS X (.Raise (some e) (some (.Constant .none j cpos)) pos) (tRaiseU C E) := L2H.ps_raiseHN hc tk he
def tTryX (K : PySem.W.Frag) (C : Addr) (E : XK) (tb : WX → TS) (ts : TS) : TS := fun D' σ H => tb (wOnly K (.ref C) (fun _ _ _ => ts) (fun cls d _ H => E cls d H) D') D' σ H
theorem ps_tryX {E : XK} {body suite : List Stmt} {b₀ : Stmt} {x : Str} {np pos pos' : Pos} {C : Addr} {tb : WX → TS} {ts : TS} (hs : X.stack = X.env :: X.outer) (hf : X.env.frame = some X.env.locals) (hc : Names X x (.ref C)) (hpa : ∀ hd : Option Value, PassesOwnAt (model X.prog X.w) (X.A.mark hd) X.A X.env X.xe) (tk : L2.Takes X (fun cls d _ H => E cls d H))
    (hb : ∀ (W : WX) (pn : List (Addr × Obj)) (xe : Value → Shared → Prop), L2N.Takes (X.tr pn xe) W → PSs (X.tr pn xe) body (tb W))
    (hsu : ∀ (a : Addr) (pn : List (Addr × Obj)), L2.Takes (L2H.suiteX X a pn) (fun cls d _ H => E cls d H) → L2H.HotC (L2H.suiteX X a pn) → PSs (L2H.suiteX X a pn) (b₀ :: suite) ts) :
    PS X (.Try body [.ExceptHandler (some (.Name x np)) none (b₀ :: suite) pos'] [] [] pos) (tTryX X.K C E tb ts) :=
  L2H.ps_try_onlyX hs hf hc hpa tk (fun W pn xe t1 _ _ => hb W pn xe t1) fun a oe cls d pn _ _ t h => hsu a _ t h
end
/-! ### .. read -/
section
variable {K : PySem.W.Frag} {G : Env} {ta : TA} {te : TE} {E : XK} {D : GE} {ts : TS}
/-- try: f(xs) .., xs one's own -/
theorem st_tryB {C : Addr} {R : List Sl → Out → Prop} {ss : List Sl} {s : Sl} (h : EvA K ta (G.map quietE) ss) (hR : R ss (.ret s)) (q : D.nx G) : St K E (tTryX K C E (fun W => tDrop (tCallS (spR K R) (WE W) ta)) ts) G D := fun B F0 F lab σ H r D' l =>
  h H noLab σ H r.rs.quiet _ fun vs F1 H1 g1 a => ⟨F1, ss, .ret s, g1.fh, a, hR, fun v F2 H2 g2 n2 => l.nx F lab σ H2 G (r.step (.heap r.rs.fh (g1.hh.trans g2.hh))) (.refl F) q⟩
theorem st_tryBX {C c : Addr} {R : List Sl → Out → Prop} {ss : List Sl} (h : EvA K ta (G.map quietE) ss) (hR : R ss (.exc c)) (hex : PySem.W.exmOne K (.ref c) (.ref C) = some true) (hs : St K E ts G D) : St K E (tTryX K C E (fun W => tDrop (tCallS (spR K R) (WE W) ta)) ts) G D := fun B F0 F lab σ H r D' l =>
  h H noLab σ H r.rs.quiet _ fun vs F1 H1 g1 a => ⟨F1, ss, .exc c, g1.fh, a, hR, fun F2 H2 g2 => ⟨true, hex, fun _ _ _ => hs B F0 F lab σ H2 (r.step (.heap r.rs.fh (g1.hh.trans g2.hh))) D' l, fun z => nomatch z⟩⟩
end
open PySem PySem.Spec PyProof.Rows L2
/-! ### an expression that raises -/
section
variable {K : PySem.W.Frag} {G : Env} {ta : TA} {te tb tm : TE} {E : XK} {D : GE}
/-- it evaluates, to whatever -/
def EvG (K : PySem.W.Frag) (te : TE) (G : Env) : Prop := ∀ F lab σ H, Rs K F lab σ H G → ∀ Q : VK, (∀ v F' H', Go F H F' H' → Q v H') → te σ H Q
theorem EvS.g {s : Sl} (h : EvS K te G s) : EvG K te G := fun F lab σ H r Q q => h F lab σ H r Q fun v F' H' g _ => q v F' H' g
/-- it raises c -/
def EvX (K : PySem.W.Frag) (E : XK) (te : TE) (G : Env) (c : Addr) : Prop := ∀ F lab σ H, Rs K F lab σ H G → (∀ F' H', Go F H F' H' → E (.ref c) none H') → ∀ Q : VK, te σ H Q
theorem evx_call {R : List Sl → Out → Prop} {ss : List Sl} {c : Addr} (h : EvA K ta G ss) (hR : R ss (.exc c)) : EvX K E (tCall (spR K R) [] E ta) G c := fun F lab σ H r q Q =>
  h F lab σ H r _ fun vs F1 H1 g1 a => ⟨F1, ss, .exc c, g1.fh, by rw [List.append_nil]; exact a, hR, fun F2 H2 g2 => q F2 H2 (g1.trans g2)⟩
theorem st_asgX {c : Addr} {g : TG} (h : EvX K E te G c) (q : D.ex c) : St K E (tAsg te g) G D := fun B F0 F lab σ H r D' l => h F lab σ H r.rs (fun F' H' gg => l.ex c F' H' (r.go.trans gg) q) _
/-- a comprehension, an element of which raises -/
theorem evx_lc {α : Type} {xs : List α} {enc : α → PyData} {wi : TI} {g : TG} {vs : List Nat} {c : Addr} {k : Nat} (hi : EvI K wi G (xs.map enc)) (G2 : α → Env) (hg : ∀ x ∈ xs, TgS K g vs (enc x) (wipeG G vs) (G2 x)) (hk : k < xs.length)
    (he : ∀ i x, i < k → xs[i]? = some x → EvG K te (G2 x)) (hx : ∀ x, xs[k]? = some x → EvX K E te (G2 x) c) (hz : xs.length ≤ 100000) : EvX K E (tLc wi g tYes te vs) G c := fun F lab σ H rs q Q =>
  hi F lab σ H rs _ fun J F1 H1 g1 wk => by
    intro p hp
    have fp1 : F1 p = none := g1.fh.free hp
    refine ⟨fun i m H' => m = xs.length - i ∧ i ≤ k ∧ ∃ F2 ws, Go F1 H1 F2 H' ∧ F2 p = none ∧ H' p = some (.lst ws) ∧ ws.length = i, ⟨_, rfl, Nat.zero_le _, F1, [], .heap g1.fh (same_new hp), fp1, upd_same, rfl⟩, ?_⟩
    rintro i m H' ⟨rfl, hle, F2, ws, g2, fp, hw, wl⟩
    have hlt : i < xs.length := by omega
    have hxi : xs[i]? = some xs[i] := List.getElem?_eq_getElem hlt
    have hm : xs[i] ∈ xs := List.getElem_mem hlt
    generalize xs[i] = x at hxi hm
    have hd : (xs.map enc)[i]? = some (enc x) := by rw [List.getElem?_map, hxi]; rfl
    obtain ⟨go, yl⟩ := wk.1 i _ F2 H' hd g2.ff g2.fh
    refine .inr ⟨go, fun H'' => i < k ∧ ∃ F3 ws', Go F1 H1 F3 H'' ∧ F3 p = none ∧ H'' p = some (.lst ws') ∧ ws'.length = i + 1, fun H'' ⟨lt, F3, ws', a, b, cc, e⟩ => ⟨xs.length - (i + 1), by omega, rfl, lt, F3, ws', a, b, cc, e⟩, fun y H3 yy => ?_⟩
    obtain ⟨F3, g3, dy⟩ := yl y H3 yy
    have r3 : Rs K F3 lab (wipe σ vs) H3 (wipeG G vs) := ((rs.go g1).go (g2.trans g3)).wipe vs
    refine hg x hm F3 lab _ H3 y r3 dy _ fun σ' r4 ew => ⟨ew.trans (wipe_wipe σ vs vs fun _ h => h), ?_⟩
    show te σ' H3 _
    by_cases hik : i < k
    · refine he i x hik hxi F3 lab σ' H3 r4 _ fun v F5 H5 g5 => ?_
      have g15 := (g2.trans g3).trans g5
      have hw5 : H5 p = some (.lst ws) := g5.hh _ _ (g3.hh _ _ hw)
      have fp5 : F5 p = none := (g5.nw p _ (g3.hh _ _ hw)).trans ((g3.nw p _ hw).trans fp)
      exact ⟨ws, hw5, by rw [sizeLine_eq]; omega, hik, F5, ws ++ [v], ⟨g15.ff, same_upd g15.hh hp, same_upd g15.fh fp5, g15.nw⟩, fp5, upd_same, by rw [List.length_append, wl]; rfl⟩
    · have e : i = k := by omega
      subst e
      exact hx x hxi F3 lab σ' H3 r4 (fun F' H'' g => q F' H'' (g1.trans ((g2.trans g3).trans g))) _
/-! ### texts -/
def rStarts : V → List V → Hp → VK → Prop := fun x xs H Q => ∃ a b, x = .str a ∧ xs = [.str b] ∧ Q (.bl (Txt.startswith a b)) H
def rStripC : V → List V → Hp → VK → Prop := fun x xs H Q => ∃ a b, x = .str a ∧ xs = [.str b] ∧ a.length ≤ sizeLine ∧ Q (.str (Txt.stripChars a b)) H
def rSplitS : V → List V → Hp → VK → Prop := fun x xs H Q => ∃ a b, x = .str a ∧ xs = [.str b] ∧ (b.length == 0) = false ∧ a.length + 2 ≤ sizeLine ∧ rNewStrs (Txt.split a b) H Q
def rJoinS (K : PySem.W.Frag) : V → List V → Hp → VK → Prop := fun x xs H Q => ∃ a p, ∃ ys : List Str, x = .str a ∧ xs = [.ref p] ∧ (SqL K H p (ys.map V.str) ∨ SqT K H p (ys.map V.str)) ∧ (ys.map (·.length)).sum + ys.length * a.length ≤ 16777216 ∧ Q (.str (Txt.join a ys)) H
def rIntS : List V → Hp → VK → Prop := fun xs H Q => ∃ a n, xs = [.str a] ∧ PySem.intText? a = some n ∧ a.length ≤ 640 ∧ Q (.int n) H
theorem pe_starts {X : Cx} {o e : Expr} {to te : TE} {apos pos : Pos} (ho : PE X o to) (he : PE X e te) (hs : starEach [e] X.env = [(false, eval e X.env)] := by rfl) (hbase : attributeBase o "startswith" X.env (eval o X.env) = eval o X.env := by rfl) (hline : (apos.endLine == pos.line) = true := by rfl) :
    PE X (.Call (.Attribute o "startswith" apos) [e] [] pos) (tM1 rStarts to te) := pe_m1 F.slot_str_startswith F.type_str_startswith mt_startswith ho he hs hbase hline
theorem pe_stripC {X : Cx} {o e : Expr} {to te : TE} {apos pos : Pos} (ho : PE X o to) (he : PE X e te) (hs : starEach [e] X.env = [(false, eval e X.env)] := by rfl) (hbase : attributeBase o "strip" X.env (eval o X.env) = eval o X.env := by rfl) (hline : (apos.endLine == pos.line) = true := by rfl) :
    PE X (.Call (.Attribute o "strip" apos) [e] [] pos) (tM1 rStripC to te) := pe_m1 F.slot_str_strip F.type_str_strip mt_stripChars ho he hs hbase hline
theorem pe_splitS {X : Cx} {o e : Expr} {to te : TE} {apos pos : Pos} (ho : PE X o to) (he : PE X e te) (hs : starEach [e] X.env = [(false, eval e X.env)] := by rfl) (hbase : attributeBase o "split" X.env (eval o X.env) = eval o X.env := by rfl) (hline : (apos.endLine == pos.line) = true := by rfl) :
    PE X (.Call (.Attribute o "split" apos) [e] [] pos) (tM1 rSplitS to te) := pe_split ho he hs hbase hline
theorem pe_joinS {X : Cx} {o e : Expr} {to te : TE} {apos pos : Pos} (ho : PE X o to) (he : PE X e te) (hs : starEach [e] X.env = [(false, eval e X.env)] := by rfl) (hbase : attributeBase o "join" X.env (eval o X.env) = eval o X.env := by rfl) (hline : (apos.endLine == pos.line) = true := by rfl) :
    PE X (.Call (.Attribute o "join" apos) [e] [] pos) (tM1 (rJoinS X.K) to te) := pe_join ho he hs hbase hline
theorem call_intS {X : Cx} : CallR X (.type "int") rIntS := call_int_str
theorem ev_starts {a b : Str} (ha : EvH K te G (.str a)) (hb : EvH K tb G (.str b)) : Ev K (tM1 rStarts te tb) G (.bool (Txt.startswith a b)) := fun F lab σ H r Q q =>
  ha F lab σ H r _ fun x F1 H1 g1 d1 => ⟨⟨a, dp_str d1⟩, hb F1 lab σ H1 (r.go g1) _ fun y F2 H2 g2 d2 => ⟨a, b, dp_str d1, by rw [dp_str d2], q _ F2 H2 (g1.trans g2) (.im (.bl _))⟩⟩
theorem ev_stripC {a b : Str} (ha : EvH K te G (.str a)) (hb : EvH K tb G (.str b)) (hl : a.length ≤ 100000) : Ev K (tM1 rStripC te tb) G (.str (Txt.stripChars a b)) := fun F lab σ H r Q q =>
  ha F lab σ H r _ fun x F1 H1 g1 d1 => ⟨⟨a, dp_str d1⟩, hb F1 lab σ H1 (r.go g1) _ fun y F2 H2 g2 d2 => ⟨a, b, dp_str d1, by rw [dp_str d2], by rw [sizeLine_eq]; omega, q _ F2 H2 (g1.trans g2) (.im (.str _))⟩⟩
theorem dpStrs {F : Hp} : ∀ ys : List Str, DpAll K F (ys.map V.str) (ys.map .str)
  | [] => .nil
  | y :: ys => .cons (.str y) (dpStrs ys)
theorem of_dpStrs {F : Hp} : ∀ {ys : List Str} {vs : List V}, DpAll K F vs (ys.map .str) → vs = ys.map V.str
  | [], _, h => by cases h; rfl
  | y :: ys, _, h => by
    cases h with
    | cons a b => rw [of_dpStrs b, dp_str a]; rfl
theorem ev_splitS {a b : Str} (ha : EvH K te G (.str a)) (hb : EvH K tb G (.str b)) (hl : a.length ≤ 100000) (h0 : (b.length == 0) = false) : EvS K (tM1 rSplitS te tb) G (.ow ((Txt.split a b).map .str)) := fun F lab σ H r Q q =>
  ha F lab σ H r _ fun x F1 H1 g1 d1 => ⟨⟨a, dp_str d1⟩, hb F1 lab σ H1 (r.go g1) _ fun y F2 H2 g2 d2 => ⟨a, b, dp_str d1, by rw [dp_str d2], h0, by rw [sizeLine_eq]; omega, own_new (g1.trans g2) (dpStrs _) q⟩⟩
theorem ev_joinS {a : Str} {ys : List Str} (ha : EvH K te G (.str a)) (hb : EvH K tb G (.list (ys.map .str))) (hl : (ys.map (·.length)).sum + ys.length * a.length ≤ 16777216) : Ev K (tM1 (rJoinS K) te tb) G (.str (Txt.join a ys)) := fun F lab σ H r Q q =>
  ha F lab σ H r _ fun x F1 H1 g1 d1 => ⟨⟨a, dp_str d1⟩, hb F1 lab σ H1 (r.go g1) _ fun y F2 H2 g2 d2 => by
    obtain ⟨p, xs, rfl, sq, al⟩ := dp_list d2
    rw [of_dpStrs al] at sq
    exact ⟨a, p, ys, dp_str d1, rfl, .inl sq, hl, q _ F2 H2 (g1.trans g2) (.im (.str _))⟩⟩
theorem ev_intS {a : Str} {n : Int} (ha : EvH K te G (.str a)) (hn : PySem.intText? a = some n) (hl : a.length ≤ 640) : Ev K (tCB rIntS (tCons te tNil)) G (.int n) := fun F lab σ H r Q q =>
  ha F lab σ H r _ fun x F1 H1 g1 d1 => ⟨a, n, by rw [dp_str d1], hn, hl, q _ F1 H1 g1 (.im (.int _))⟩
theorem len_S {a : Str} : True := trivial
theorem ev_lenS {a : Str} (ha : EvH K te G (.str a)) (hl : a.length ≤ 100000) : Ev K (tCB (rLenU K) (tCons te tNil)) G (.int (a.length : Nat)) := fun F lab σ H r Q q =>
  ha F lab σ H r _ fun x F1 H1 g1 d1 => ⟨x, a.length, rfl, by rw [dp_str d1]; exact ⟨by rw [sizeLine_eq]; omega, rfl⟩, q _ F1 H1 g1 (.im (.int _))⟩
def rEqS : R2 := fun x y H Q => ∃ i j : Str, x = .str i ∧ y = .str j ∧ Q (.bl (i.cps.toList == j.cps.toList)) H
theorem op_eqS {X : Cx} : OpR X (compareOp .Eq) rEqS := by
  intro pins s σ H x y v u Q I rx ry h
  obtain ⟨i, j, rfl, rfl, q⟩ := h
  obtain ⟨t, rfl⟩ := rx
  obtain ⟨t2, rfl⟩ := ry
  exact PySem.P.eq_str ⟨.bl _, H, I, rfl, q⟩
theorem tl_eq {i j : Str} : (i.cps.toList == j.cps.toList) = decide (i = j) := by
  by_cases h : i = j
  · rw [h, decide_eq_true rfl]; exact beq_self_eq_true _
  · rw [decide_eq_false h]
    exact beq_eq_false_iff_ne.mpr fun e => h (TL.ext_tl e)
theorem ev_eqS {a b : Str} (ha : EvH K te G (.str a)) (hb : EvH K tb G (.str b)) : Ev K (tOp rEqS te tb) G (.bool (decide (a = b))) :=
  ev_op2 ha hb fun H v u hv hu Q q => ⟨a, b, dp_str hv, dp_str hu, by rw [tl_eq]; exact q _ (.bl _)⟩
theorem ev_neS {a b : Str} (ha : EvH K te G (.str a)) (hb : EvH K tb G (.str b)) : Ev K (tOp rNeS te tb) G (.bool (!decide (a = b))) :=
  ev_op2 ha hb fun H v u hv hu Q q => ⟨a, b, dp_str hv, dp_str hu, by
    have e : (a.cps.toList != b.cps.toList) = !decide (a = b) := by
      rw [← tl_eq]; rfl
    rw [e]; exact q _ (.bl _)⟩
def rCatS : R2 := fun x y H Q => ∃ i j : Str, x = .str i ∧ y = .str j ∧ i.length + j.length ≤ sizeLine ∧ Q (.str (i ++ j)) H
theorem ev_catS {a b : Str} (ha : EvH K te G (.str a)) (hb : EvH K tb G (.str b)) (hl : a.length + b.length ≤ 100000) : Ev K (tOp rCatS te tb) G (.str (a ++ b)) :=
  ev_op2 ha hb fun H v u hv hu Q q => ⟨a, b, dp_str hv, dp_str hu, by rw [sizeLine_eq]; omega, q _ (.str _)⟩
theorem ev_slS {tl th : TO} {lo hi : Option Int} {a : Str} (ha : Ev K te G (.str a)) (hl : EvO K tl G lo) (hh : EvO K th G hi) (hz : a.length ≤ 100000) : Ev K (tSl rSlS te tl th) G (.str (cutS a lo hi)) := fun F lab σ H rs Q q =>
  ha F lab σ H rs _ fun x F1 H1 g1 d1 => hl F1 lab σ H1 (rs.go g1) _ fun F2 H2 g2 => hh F2 lab σ H2 (rs.go (g1.trans g2)) _ fun F3 H3 g3 => ⟨a, dp_str d1.dp, by rw [sizeLine_eq]; omega, q _ F3 H3 ((g1.trans g2).trans g3) (.im (.str _))⟩
theorem ev_ixS {a : Str} {i : Int} {c : Nat} (ha : EvH K te G (.str a)) (hb : EvH K tb G (.int i)) (hz : a.length ≤ 100000) (h : atI a.cps.toList i = some c) : Ev K (tOp (rIx K) te tb) G (.str ⟨#[c]⟩) :=
  ev_op2 ha hb fun H v u hv hu Q q => .inr (.inr ⟨a, i, c, dp_str hv, dp_int hu, by rw [sizeLine_eq]; omega, h, q _ (.str _)⟩)
def rInSg : R2 := fun x y H Q => ∃ (c : Nat) (z : Str), x = .str ⟨#[c]⟩ ∧ y = .str z ∧ Q (.bl (decide (c ∈ z.cps.toList))) H
theorem op_inSg {X : Cx} : OpR X (compareOp .In) rInSg := op_in_sign
theorem ev_inSg {c : Nat} {z : Str} (ha : EvH K te G (.str ⟨#[c]⟩)) (hb : EvH K tb G (.str z)) : Ev K (tOp rInSg te tb) G (.bool (decide (c ∈ z.cps.toList))) :=
  ev_op2 ha hb fun H v u hv hu Q q => ⟨c, z, dp_str hv, dp_str hu, q _ (.bl _)⟩
theorem ei_str {a : Str} (h : Ev K te G (.str a)) : EvI K (iStr te) G (a.cps.toList.map fun c => .str ⟨#[c]⟩) := fun F lab σ H rs R q => h F lab σ H rs _ fun v F1 H1 g1 n =>
  ⟨a, dp_str n.dp, q _ F1 H1 g1 ⟨fun i d F2 H2 e s1 s2 => by
    obtain ⟨c, hc, rfl⟩ := getMap e
    have hc' : a.cps[i]? = some c := by rw [← hc, Array.getElem?_toList]
    obtain ⟨hi, _⟩ := Array.getElem?_eq_some_iff.mp hc'
    refine ⟨hi, fun x H3 y => ?_⟩
    obtain ⟨rfl, c2, e2, rfl⟩ := y
    rw [hc'] at e2
    cases e2
    exact ⟨F2, .refl s2, .str _⟩, fun F2 H2 s1 s2 => by
    show a.cps.size ≤ _
    rw [List.length_map, Array.length_toList]
    exact Nat.le_refl _⟩⟩
end
open PySem PySem.Spec PyProof.Rows L2
/-- a text of the module -/
theorem pe_constS {X : Cx} {x : Str} {n : Str} {pos : Pos} (hg : Gl X x) (h : ∃ t, X.mg x = some (.str n t)) (hd : (x == ("__debug__" : Str)) = false := by decide) : PE X (.Name x pos) (tC (.str n)) := by
  obtain ⟨t, e⟩ := h
  exact pe_glob hg e ⟨t, rfl⟩ hd
section
variable {K : PySem.W.Frag} {G : Env} {ta : TA} {te tb tm : TE} {E : XK} {D : GE} {W : WX}
/-! ### is None -/
def rIsNo : R2 := fun x y H Q => y = .non ∧ Q (.bl (decide (x = .non))) H
def rNotNo : R2 := fun x y H Q => y = .non ∧ Q (.bl (!decide (x = .non))) H
theorem op_isNo {X : Cx} : OpR X (compareOp .Is) rIsNo := op_isN
theorem op_notNo {X : Cx} : OpR X (compareOp .IsNot) rNotNo := op_notN
def noneD : PyData → Bool
  | .none => true
  | _ => false
theorem dp_noneD {F : Hp} {v : V} {d : PyData} (h : Dp K F v d) : decide (v = .non) = noneD d := by
  cases h <;> rfl
theorem ev_isNo {d : PyData} (h : EvH K te G d) : Ev K (tOp rIsNo te (tC .non)) G (.bool (noneD d)) :=
  ev_op2 h (EvS.h (ev_c .non)) fun H v u hv hu Q q => ⟨dp_none hu, by rw [dp_noneD hv]; exact q _ (.bl _)⟩
theorem ev_notNo {d : PyData} (h : EvH K te G d) : Ev K (tOp rNotNo te (tC .non)) G (.bool (!noneD d)) :=
  ev_op2 h (EvS.h (ev_c .non)) fun H v u hv hu Q q => ⟨dp_none hu, by rw [dp_noneD hv]; exact q _ (.bl _)⟩
/-! ### a text times a number -/
def timesS (a : Str) (n : Int) : Str := ⟨(List.replicate n.toNat a.cps).foldl (· ++ ·) #[]⟩
def rMulS : R2 := fun x y H Q => ∃ (a : Str) (n : Int), x = .str a ∧ y = .int n ∧ 1 < n ∧ n ≤ 100000 ∧ 0 < a.length ∧ a.length * n.toNat ≤ 100000 ∧ Q (.str (timesS a n)) H
theorem op_mulS {X : Cx} : OpR X (binaryOp .Mult) rMulS := by
  intro pins s σ H x y v u Q I rx ry h
  obtain ⟨a, n, rfl, rfl, h1, h2, h3, h4, q⟩ := h
  obtain ⟨t, rfl⟩ := rx
  obtain ⟨t2, rfl⟩ := ry
  have e1 : (n == 1 || a.length == 0) = false := by
    have : ¬ n = 1 := by omega
    have : ¬ a.length = 0 := by omega
    simp [*]
  refine PySem.P.mul_str (by simp; omega) (fun _ _ z => ?_) (fun _ _ => ?_) ?_
  · have h5 : (a.length : Int) * n ≤ 100000 := by
      have : ((a.length * n.toNat : Nat) : Int) ≤ 100000 := by omega
      rw [Int.natCast_mul, Int.toNat_of_nonneg (by omega)] at this
      exact this
    have h6 : (a.length : Int) ≤ (2 ^ 63 - 1) / n := by
      rw [Int.le_ediv_iff_mul_le (by omega)]
      omega
    omega
  · show decide (_ > sizeLine) = false
    rw [sizeLine_eq]
    simp; omega
  · rw [if_neg (by omega), e1]
    exact ⟨fits_reps (by
      show decide (_ > sizeLine) = false
      rw [sizeLine_eq]
      simp; omega), ⟨.str _, H, I.tok _, ⟨_, rfl⟩, q⟩⟩
theorem times_len (a : Str) (n : Int) : (timesS a n).length = n.toNat * a.length := by
  show ((List.replicate n.toNat a.cps).foldl (· ++ ·) #[]).size = _
  rw [size_reps]
  show 0 + _ = _
  rw [Nat.zero_add]
  rfl
theorem ev_mulS {a : Str} {n : Int} (ha : EvH K te G (.str a)) (hb : EvH K tb G (.int n)) (h1 : 1 < n) (h2 : n ≤ 100000) (h3 : 0 < a.length) (h4 : a.length * n.toNat ≤ 100000) : Ev K (tOp rMulS te tb) G (.str (timesS a n)) :=
  ev_op2 ha hb fun H v u hv hu Q q => ⟨a, n, dp_str hv, dp_int hu, h1, h2, h3, h4, q _ (.str _)⟩
/-! ### a pair of a text and something new -/
theorem tup_nw {x : Str} {e : PyData} {F1 H0 H1 : Hp} {w : V} {t : Addr} (s : Same F1 H1) (s0 : Same H0 H1) (n : NvV K F1 H1 H0 w (.nw e)) (ht : H1 t = none) : NvV K F1 (upd H1 t (.tup [.str x, w])) H0 (.ref t) (.nw (.tuple [.str x, e])) := by
  obtain ⟨lab, ⟨N, hN, a⟩, nw⟩ := n
  have Nt : N t = none := by
    cases q : N t with
    | none => rfl
    | some u => exact absurd (hN t u q).1 (by rw [ht]; exact fun z => nomatch z)
  refine ⟨fun p => if p = t then some (0, ("" : Str)) else lab p, ⟨upd N t (.tup [.str x, w]), fun p u hu => ?_, .tup upd_same (.cons (.sc (.str x)) (.cons (dpN_mono (same_new Nt) a) .nil))⟩, fun p o z => ?_⟩
  · by_cases hp : p = t
    · subst hp
      rw [upd_same] at hu
      cases hu
      exact ⟨upd_same, s.free ht, if_pos rfl⟩
    · rw [upd_ne hp] at hu
      obtain ⟨h1, h2, h3⟩ := hN p u hu
      exact ⟨by rw [upd_ne hp]; exact h1, h2, by show (if p = t then _ else lab p) = _; rw [if_neg hp]; exact h3⟩
  · by_cases hp : p = t
    · subst hp
      exact s0.free ht
    · have z : (if p = t then some (0, ("" : Str)) else lab p) = some o := z
      rw [if_neg hp] at z
      exact nw p o z
theorem ev_tupNw {x : Str} {e : PyData} (h2 : EvS K tb G (.nw e)) : EvS K (tTup (tCons (tC (.str x)) (tCons tb tNil))) G (.nw (.tuple [.str x, e])) := fun F lab σ H rs Q q =>
  h2 F lab σ H rs _ fun w F1 H1 g1 n1 => ⟨by rw [sizeLine_eq]; show (2 : Nat) ≤ _; omega, fun t ht => q (.ref t) F1 _ (g1.trans (.heap g1.fh (same_new ht))) (tup_nw g1.fh g1.hh n1 ht)⟩
/-- return ("..", f(xs)), in a try -/
theorem stT_retMade {R : List Sl → Out → Prop} {x : Str} {ss : List Sl} {e : PyData} (h : EvA K ta G ss) (hR : R ss (.ret (.nw e))) (q : D.rt (.nw (.tuple [.str x, e]))) : StT K W (tRet (tTup (tCons (tC (.str x)) (tCons (tCallS (spR K R) (WE W) ta) tNil)))) G D := fun B F0 F lab σ H r D' l =>
  h F lab σ H r.rs _ fun vs F1 H1 g1 a => ⟨F1, ss, .ret (.nw e), g1.fh, a, hR, fun v F2 H2 g2 n2 => ⟨by rw [sizeLine_eq]; show (2 : Nat) ≤ _; omega, fun t ht => by
    have g3 : Go F2 H2 F2 (upd H2 t (.tup [.str x, v])) := .heap g2.fh (same_new ht)
    exact l.rt (.ref t) F2 _ (.nw (.tuple [.str x, e])) (r.go.trans ((g1.trans g2).trans g3)) (NvV.base (r.go.hh.trans g1.hh) (tup_nw g2.fh g2.hh n2 ht)) q⟩⟩
theorem stT_retMadeX {R : List Sl → Out → Prop} {x : Str} {ss : List Sl} {c : Addr} (h : EvA K ta G ss) (hR : R ss (.exc c)) (q : D.ex c) : StT K W (tRet (tTup (tCons (tC (.str x)) (tCons (tCallS (spR K R) (WE W) ta) tNil)))) G D := fun B F0 F lab σ H r D' l =>
  h F lab σ H r.rs _ fun vs F1 H1 g1 a => ⟨F1, ss, .exc c, g1.fh, a, hR, fun F2 H2 g2 => l.ex c F2 H2 ((r.go.trans g1).trans g2) q⟩
/-- a, b = ("..", something new) -/
theorem st_asgNw2 {i j : Nat} {x : Str} {d : PyData} (hij : i ≠ j) (h : EvS K te G (.nw (.tuple [.str x, d]))) (q : D.nx ((G.set i (.im (.str x))).set j (.nw d))) : St K E (tAsg te (gTup K 2 (gCons (gName i) (gCons (gName j) gNil)))) G D := fun B F0 F lab σ H r D' l =>
  h F lab σ H r.rs _ fun v F1 H1 g n => by
    obtain ⟨lab2, ⟨N, hN, a⟩, nw⟩ := n
    cases a with
    | sc h => cases h
    | @tup t vs _ ht al =>
      match vs, al with
      | [_, w], .cons (.sc (.str x)) (.cons aw .nil) =>
        refine ⟨t, [.str x, w], rfl, .inl (.inl (hN t _ ht).1), rfl, .str x, [w], rfl, w, [], rfl, rfl, ?_⟩
        obtain ⟨lab', r'⟩ := r.set (j := j) g (s := .nw d) (v := w) ⟨lab2, ⟨N, hN, aw⟩, nw⟩
        rw [List.set_comm _ _ hij] at q
        have r2 : Rl K B F0 F1 lab' ((σ.set j (some w)).set i (some (.str x))) H1 ((G.set j (.nw d)).set i (.im (.str x))) := ⟨r'.rs.setIm (.str x), r'.go, r'.lb, r'.lv⟩
        rw [List.set_comm _ _ (Ne.symm hij)] at r2
        exact l.nx F1 lab' _ H1 _ r2 g.ff q
end
open PySem PySem.Spec PyProof.Rows Builtin Builtin.Str
/-! ### texts: split and joined, stripped, numbers -/
theorem pre_take {S l : List Nat} (h : TL.pre S l = true) : l = S ++ l.drop S.length := by
  have e : l.take S.length = S := by simpa [TL.pre] using h
  conv => lhs; rw [← List.take_append_drop S.length l, e]
theorem spl_ne (S : List Nat) : ∀ (k : Nat) (acc l : List Nat), TL.spl S k acc l ≠ []
  | 0, acc, [] => by rw [TL.spl_nil]; simp
  | k + 1, acc, [] => by rw [TL.spl_nil]; simp
  | 0, acc, c :: r => by
    cases h : TL.pre S (c :: r) with
    | true => rw [TL.spl_hit h]; simp
    | false => rw [TL.spl_miss h]; exact spl_ne S 0 _ r
  | k + 1, acc, c :: r => spl_ne S k acc r
theorem joinL_cons {S p : List Nat} {q : List (List Nat)} (h : q ≠ []) : TL.joinL S (p :: q) = p ++ (S ++ TL.joinL S q) := by
  match q, h with
  | _ :: _, _ => rfl
theorem joinL_spl {S : List Nat} (hS : S ≠ []) : ∀ (n : Nat) (l acc : List Nat), l.length ≤ n → TL.joinL S (TL.spl S 0 acc l) = acc ++ l
  | _, [], acc, _ => by
    rw [TL.spl_nil, List.append_nil]
    rfl
  | 0, c :: r, _, h => absurd h (by simp)
  | n + 1, c :: r, acc, h => by
    have h' : r.length ≤ n := by simpa using h
    cases hp : TL.pre S (c :: r) with
    | true =>
      rw [TL.spl_hit hp, joinL_cons (spl_ne S _ _ _), TL.spl_pass, joinL_spl hS n _ [] (by rw [List.length_drop]; omega), List.nil_append]
      have e := pre_take hp
      have e2 : (c :: r).drop S.length = r.drop (S.length - 1) := by
        match S, hS with
        | s :: S', _ => simp
      rw [e2] at e
      rw [← e]
    | false =>
      rw [TL.spl_miss hp, joinL_spl hS n r _ h', List.append_assoc]
      rfl
/-- a text split, and joined again -/
theorem join_split {x y : Str} (hy : TL.tl y ≠ []) (hk : y.cps.all (· < 256) = true) : Txt.join y (Txt.split x y) = x := by
  refine TL.ext_tl ?_
  rw [TL.join_eq, TL.tl_join, TL.split_spl x y hy (TL.kind_ok hk), joinL_spl hy _ _ _ (Nat.le_refl _), List.nil_append]
theorem split_ne {x y : Str} (hy : TL.tl y ≠ []) (hk : y.cps.all (· < 256) = true) : Txt.split x y ≠ [] := fun z => by
  have h := TL.split_spl x y hy (TL.kind_ok hk)
  rw [z] at h
  exact spl_ne _ _ _ _ h.symm
theorem joinL_len (S : List Nat) : ∀ l : List (List Nat), ((l.map List.length).sum ≤ (TL.joinL S l).length)
  | [] => Nat.le_refl _
  | [p] => by simp [TL.joinL]
  | p :: q :: r => by
    have := joinL_len S (q :: r)
    show _ ≤ (p ++ (S ++ TL.joinL S (q :: r))).length
    rw [List.length_append, List.length_append, List.map_cons, List.sum_cons]
    omega
theorem mem_sum : ∀ {l : List Nat} {x : Nat}, x ∈ l → x ≤ l.sum
  | a :: l, x, h => by
    rw [List.sum_cons]
    rcases List.mem_cons.mp h with rfl | h
    · omega
    · have := mem_sum h; omega
/-- a part is no longer than the text -/
theorem split_le {x y z : Str} (hy : TL.tl y ≠ []) (hk : y.cps.all (· < 256) = true) (h : z ∈ Txt.split x y) : z.length ≤ x.length := by
  have e := TL.split_spl x y hy (TL.kind_ok hk)
  have j := joinL_spl hy (TL.tl x).length (TL.tl x) [] (Nat.le_refl _)
  rw [← e, List.nil_append] at j
  have l := joinL_len (TL.tl y) ((Txt.split x y).map TL.tl)
  rw [j, List.map_map] at l
  have m : (TL.tl z).length ≤ ((Txt.split x y).map (List.length ∘ TL.tl)).sum := mem_sum (List.mem_map.mpr ⟨z, h, rfl⟩)
  rw [TL.len_tl, TL.len_tl]
  omega
theorem joinL_parts {S : List Nat} (hS : 1 ≤ S.length) : ∀ l : List (List Nat), l.length ≤ (TL.joinL S l).length + 1
  | [] => by simp
  | [p] => by simp
  | p :: q :: r => by
    have := joinL_parts hS (q :: r)
    show _ ≤ (p ++ (S ++ TL.joinL S (q :: r))).length + 1
    rw [List.length_append, List.length_append]
    simp only [List.length_cons] at *
    omega
theorem split_many {x y : Str} (hy : TL.tl y ≠ []) (hk : y.cps.all (· < 256) = true) : (Txt.split x y).length ≤ x.length + 1 := by
  have e := TL.split_spl x y hy (TL.kind_ok hk)
  have j := joinL_spl hy (TL.tl x).length (TL.tl x) [] (Nat.le_refl _)
  rw [← e, List.nil_append] at j
  have l := joinL_parts (S := TL.tl y) (by match hq : TL.tl y, hy with | _ :: _, _ => simp) ((Txt.split x y).map TL.tl)
  rw [j, List.length_map] at l
  rw [TL.len_tl]
  exact l
/-- nothing is left behind strip(signs) -/
theorem strip_none (a b : Str) : Txt.stripChars a b = Str.empty ↔ ∀ c ∈ a.cps.toList, b.cps.contains c = true := by
  unfold Txt.stripChars
  rw [stripBy_eq]
  obtain ⟨l1, l2, l3⟩ := lo_facts b.cps.contains a
  obtain ⟨h1, h2, h3, h4⟩ := hi_facts b.cps.contains a _ l1
  have len : (strSub a (stripLo b.cps.contains true a) (stripHi b.cps.contains true a (stripLo b.cps.contains true a))).length = stripHi b.cps.contains true a (stripLo b.cps.contains true a) - stripLo b.cps.contains true a := by
    rw [TL.len_tl, TL.tl_strSub, List.length_take, List.length_drop, ← TL.len_tl]
    omega
  constructor
  · intro e c hc
    rw [e] at len
    have z : stripHi b.cps.contains true a (stripLo b.cps.contains true a) = stripLo b.cps.contains true a := by
      have : (Str.empty : Str).length = 0 := rfl
      omega
    have full : stripLo b.cps.contains true a = a.length := by
      rcases l3 with l3 | l3
      · exact l3
      · by_cases q : stripLo b.cps.contains true a < a.length
        · have := h3 (stripLo b.cps.contains true a) (by omega) q
          rw [l3] at this
          cases this
        · omega
    obtain ⟨k, hk, rfl⟩ := List.mem_iff_getElem.mp hc
    have hk' : k < a.length := by
      rw [Array.length_toList] at hk
      exact hk
    have := l2 k (by omega)
    rw [← getD_list, List.getD_eq_getElem?_getD, List.getElem?_eq_getElem hk] at this
    exact this
  · intro h
    have full : stripLo b.cps.contains true a = a.length := by
      rcases l3 with l3 | l3
      · exact l3
      · by_cases q : stripLo b.cps.contains true a < a.length
        · have hk : stripLo b.cps.contains true a < a.cps.toList.length := by rw [Array.length_toList]; exact q
          rw [← getD_list, List.getD_eq_getElem?_getD, List.getElem?_eq_getElem hk] at l3
          have := h _ (List.getElem_mem hk)
          rw [show (some a.cps.toList[stripLo b.cps.contains true a]).getD 0 = a.cps.toList[stripLo b.cps.contains true a] from rfl, this] at l3
          cases l3
        · omega
    refine TL.ext_tl ?_
    rw [TL.tl_strSub]
    have e : stripHi b.cps.contains true a (stripLo b.cps.contains true a) - stripLo b.cps.contains true a = 0 := by omega
    rw [e, List.take_zero]
    rfl
/-! #### numbers as texts -/
def numS (i : Int) : Str := Str.ofString (toString i)
theorem tl_numS_nat (n : Nat) : TL.tl (numS (n : Int)) = TL.numL n := TL.tl_num n
theorem tl_numS_neg (n : Nat) : TL.tl (numS (-((n + 1 : Nat) : Int))) = 45 :: TL.numL (n + 1) := by
  have e : toString (-((n + 1 : Nat) : Int)) = "-" ++ toString (((n + 1 : Nat)) : Int) := rfl
  unfold numS
  rw [e, TL.tl_ofString, String.toList_append, List.map_append, ← TL.tl_ofString, ← TL.tl_ofString, TL.tl_num]
  rfl
def figB (c : Nat) : Bool := decide (48 ≤ c) && decide (c ≤ 57)
/-- the figures of a word -/
def figL (l : List Nat) : List Nat := if l.head? = some 45 then l.tail else l
/-- a number as it is written, of three figures at the most -/
def canL (l : List Nat) : Bool := (decide (1 ≤ (figL l).length) && decide ((figL l).length ≤ 3)) && ((figL l).all figB && !(decide ((figL l).head? = some 48) && !decide (l = [48])))
theorem fig_all {l : List Nat} (h : l.all figB = true) : NumText.AllDigits l := fun c hc => by
  have := List.all_eq_true.mp h c hc
  unfold figB at this
  simpa using this
theorem numL_val {l : List Nat} (h : NumText.AllDigits l) (h1 : 1 ≤ l.length) (h3 : l.length ≤ 3) (h0 : l.head? ≠ some 48 ∨ l = [48]) : TL.numL (NumText.digitsVal l) = l ∧ NumText.digitsVal l ≤ 999 ∧ (l ≠ [48] → 0 < NumText.digitsVal l) := by
  match l, h1, h3 with
  | [a], _, _ =>
    have ha := h a (by simp)
    have e : NumText.digitsVal [a] = a - 48 := by simp [NumText.digitsVal]
    rw [e]
    refine ⟨by rw [TL.numL_lt (by omega)]; congr 1; omega, by omega, fun ne => ?_⟩
    have : a ≠ 48 := fun z => ne (by rw [z])
    omega
  | [a, b], _, _ =>
    have ha := h a (by simp)
    have hb := h b (by simp)
    have n48 : a ≠ 48 := fun z => by
      rcases h0 with h0 | h0
      · exact h0 (by rw [z]; rfl)
      · cases h0
    have e : NumText.digitsVal [a, b] = (a - 48) * 10 + (b - 48) := by simp [NumText.digitsVal]
    rw [e]
    refine ⟨?_, by omega, fun _ => by omega⟩
    rw [TL.numL_step (by omega), show ((a - 48) * 10 + (b - 48)) / 10 = a - 48 by omega, show ((a - 48) * 10 + (b - 48)) % 10 = b - 48 by omega, TL.numL_lt (by omega)]
    show [48 + (a - 48), 48 + (b - 48)] = [a, b]
    congr 1
    · omega
    · congr 1; omega
  | [a, b, c], _, _ =>
    have ha := h a (by simp)
    have hb := h b (by simp)
    have hc := h c (by simp)
    have n48 : a ≠ 48 := fun z => by
      rcases h0 with h0 | h0
      · exact h0 (by rw [z]; rfl)
      · cases h0
    have e : NumText.digitsVal [a, b, c] = ((a - 48) * 10 + (b - 48)) * 10 + (c - 48) := by simp [NumText.digitsVal]
    rw [e]
    refine ⟨?_, by omega, fun _ => by omega⟩
    rw [TL.numL_step (by omega), show (((a - 48) * 10 + (b - 48)) * 10 + (c - 48)) / 10 = (a - 48) * 10 + (b - 48) by omega, show (((a - 48) * 10 + (b - 48)) * 10 + (c - 48)) % 10 = c - 48 by omega,
      TL.numL_step (by omega), show ((a - 48) * 10 + (b - 48)) / 10 = a - 48 by omega, show ((a - 48) * 10 + (b - 48)) % 10 = b - 48 by omega, TL.numL_lt (by omega)]
    show [48 + (a - 48), 48 + (b - 48), 48 + (c - 48)] = [a, b, c]
    congr 1
    · omega
    · congr 1
      · omega
      · congr 1; omega
/-- what such a word tells -/
def valL (l : List Nat) : Int := if l.head? = some 45 then -((NumText.digitsVal l.tail : Nat) : Int) else (NumText.digitsVal l : Nat)
theorem canL_num {w : Str} (h : canL (TL.tl w) = true) : w = numS (valL (TL.tl w)) ∧ intText? w = some (valL (TL.tl w)) ∧ (valL (TL.tl w)).natAbs = NumText.digitsVal (figL (TL.tl w)) ∧ NumText.digitsVal (figL (TL.tl w)) ≤ 999 ∧ w.length ≤ 4 ∧ (figL (TL.tl w)) ≠ [] ∧ NumText.AllDigits (figL (TL.tl w)) ∧ (figL (TL.tl w)).length ≤ 3 := by
  unfold canL at h
  simp only [Bool.and_eq_true, decide_eq_true_eq, Bool.not_eq_true', Bool.and_eq_false_iff, decide_eq_false_iff_not, Bool.not_eq_false', decide_eq_true_eq] at h
  obtain ⟨⟨h1, h3⟩, ha, h0⟩ := h
  have hd := fig_all ha
  have hne : figL (TL.tl w) ≠ [] := fun z => by rw [z] at h1; simp at h1
  by_cases hm : (TL.tl w).head? = some 45
  · have ef : figL (TL.tl w) = (TL.tl w).tail := if_pos hm
    have ev : valL (TL.tl w) = -((NumText.digitsVal (TL.tl w).tail : Nat) : Int) := if_pos hm
    have el : TL.tl w = 45 :: (TL.tl w).tail := by
      match q : TL.tl w, hm with
      | c :: r, hm => cases hm; rfl
    rw [ef] at h1 h3 hd hne h0 ⊢
    have n48 : (TL.tl w).tail.head? ≠ some 48 := by
      rcases h0 with h0 | h0
      · exact h0
      · rw [h0] at hm; cases hm
    obtain ⟨v1, v2, v3⟩ := numL_val hd h1 h3 (.inl n48)
    have pos := v3 fun z => n48 (by rw [z]; rfl)
    obtain ⟨m, em⟩ : ∃ m, NumText.digitsVal (TL.tl w).tail = m + 1 := ⟨NumText.digitsVal (TL.tl w).tail - 1, by omega⟩
    refine ⟨?_, ?_, by rw [ev]; omega, v2, by rw [TL.len_tl, el]; simp only [List.length_cons]; omega, hne, hd, h3⟩
    · refine TL.ext_tl ?_
      rw [ev, em, tl_numS_neg, ← em, v1]
      exact el
    · rw [ev]
      exact intText_neg el hd hne (by rw [TL.len_tl, el]; simp only [List.length_cons]; omega)
  · have ef : figL (TL.tl w) = TL.tl w := if_neg hm
    have ev : valL (TL.tl w) = (NumText.digitsVal (TL.tl w) : Nat) := if_neg hm
    rw [ef] at h1 h3 hd hne h0 ⊢
    obtain ⟨v1, v2, v3⟩ := numL_val hd h1 h3 h0
    refine ⟨?_, ?_, by rw [ev]; omega, v2, by rw [TL.len_tl]; omega, hne, hd, h3⟩
    · refine TL.ext_tl ?_
      rw [ev, tl_numS_nat, v1]
    · rw [ev]
      exact intText_digits hd hne (by rw [TL.len_tl]; omega)
open PySem PySem.Spec PyProof.Rows Builtin Builtin.Str L2
/-! ### words and what they tell -/
theorem tl_str1 {c : Nat} {z : Str} (hz : TL.tl z = [c]) (w : Str) : (Txt.startswith w z) = decide ((TL.tl w).head? = some c) := by
  have hl : z.length = 1 := by rw [TL.len_tl, hz]; rfl
  unfold Txt.startswith subAt
  have e : ((w.cps.extract 0 (0 + z.length)) == z.cps) = decide ((TL.tl w).take 1 = [c]) := by
    rw [hl]
    by_cases h : (TL.tl w).take 1 = [c]
    · rw [decide_eq_true h]
      have : w.cps.extract 0 (0 + 1) = z.cps := by
        apply Array.toList_inj.mp
        rw [Array.toList_extract]
        show ((TL.tl w).extract 0 (0 + 1)) = TL.tl z
        rw [hz, List.extract_eq_take_drop]
        simpa using h
      rw [this]
      exact beq_self_eq_true _
    · rw [decide_eq_false h]
      refine beq_eq_false_iff_ne.mpr fun q => h ?_
      have q2 := congrArg Array.toList q
      rw [Array.toList_extract, List.extract_eq_take_drop] at q2
      have q3 : (TL.tl w).take 1 = TL.tl z := by simpa using q2
      rw [q3, hz]
  rw [e]
  have e2 : decide (0 + z.length ≤ w.length) = decide (1 ≤ (TL.tl w).length) := by rw [hl, TL.len_tl, Nat.zero_add]
  rw [e2]
  match q : TL.tl w with
  | [] => simp
  | a :: r => simp
theorem cut1 (w : Str) : TL.tl (cutS w (some 1) none) = (TL.tl w).tail := by
  unfold cutS
  rw [TL.tl_mk, show (some (1 : Int)) = some ((1 : Nat) : Int) from rfl, HT.sIx_nat, HT.sIx_none, TL.len_tl]
  show ((TL.tl w).drop (min 1 (TL.tl w).length)).take _ = _
  match TL.tl w with
  | [] => rfl
  | a :: r => simp
theorem cut01 (w : Str) : TL.tl (cutS w none (some 1)) = (TL.tl w).take 1 := by
  unfold cutS
  rw [TL.tl_mk, show (some (1 : Int)) = some ((1 : Nat) : Int) from rfl, HT.sIx_nat, HT.sIx_none, TL.len_tl]
  show ((TL.tl w).drop 0).take _ = _
  match TL.tl w with
  | [] => rfl
  | a :: r => simp
def figS (w : Str) : Str := if (TL.tl w).head? = some 45 then cutS w (some 1) none else w
theorem tl_figS (w : Str) : TL.tl (figS w) = figL (TL.tl w) := by
  unfold figS figL
  by_cases h : (TL.tl w).head? = some 45
  · rw [if_pos h, if_pos h, cut1]
  · rw [if_neg h, if_neg h]
theorem figS_len (w : Str) : (figS w).length = (figL (TL.tl w)).length := by rw [TL.len_tl, tl_figS]
theorem figL_le (l : List Nat) : (figL l).length ≤ l.length := by
  unfold figL
  by_cases h : l.head? = some 45
  · rw [if_pos h, List.length_tail]; omega
  · rw [if_neg h]; exact Nat.le_refl _
theorem eq_tl {w z : Str} : decide (w = z) = decide (TL.tl w = TL.tl z) := decide_eq_decide.mpr ⟨fun h => by rw [h], TL.ext_tl⟩
theorem tl_digits : TL.tl ("0123456789" : Str) = [48, 49, 50, 51, 52, 53, 54, 55, 56, 57] := by decide +kernel
theorem mem_digits (c : Nat) : decide (c ∈ TL.tl ("0123456789" : Str)) = figB c := by
  rw [tl_digits]
  unfold figB
  rw [← Bool.decide_and]
  exact decide_eq_decide.mpr (by simp; omega)
theorem strip_figs (w : Str) : (!decide (Txt.stripChars w "0123456789" = ("" : Str))) = !((TL.tl w).all figB) := by
  congr 1
  have e : (("" : Str)) = Str.empty := by decide +kernel
  rw [e]
  have h := strip_none w "0123456789"
  by_cases q : (TL.tl w).all figB = true
  · rw [q, decide_eq_true]
    refine h.mpr fun c hc => ?_
    have := List.all_eq_true.mp q c hc
    rw [← mem_digits] at this
    have := of_decide_eq_true this
    exact Array.contains_iff_mem.mpr (Array.mem_toList_iff.mp this) |> fun z => by simpa using z
  · have q' : (TL.tl w).all figB = false := by simpa using q
    rw [q', decide_eq_false]
    intro z
    refine q (List.all_eq_true.mpr fun c hc => ?_)
    have := h.mp z c hc
    rw [← mem_digits]
    refine decide_eq_true ?_
    have := Array.contains_iff_mem.mp this
    exact Array.mem_toList_iff.mpr this
/-- what the test says is not canL -/
theorem can_test (w : Str) : (!(decide (1 ≤ (figS w).length) && decide ((figS w).length ≤ 3)) || ((!decide (Txt.stripChars (figS w) "0123456789" = ("" : Str))) || (Txt.startswith (figS w) "0" && !decide (w = ("0" : Str))))) = !canL (TL.tl w) := by
  rw [strip_figs, tl_str1 (c := 48) (by decide +kernel), eq_tl, tl_figS, figS_len, show TL.tl ("0" : Str) = [48] from by decide +kernel]
  unfold canL
  cases decide (1 ≤ (figL (TL.tl w)).length) <;> cases decide ((figL (TL.tl w)).length ≤ 3) <;> cases (figL (TL.tl w)).all figB <;> cases decide ((figL (TL.tl w)).head? = some 48) <;> cases decide (TL.tl w = [48]) <;> rfl
/-- .. within 100 -/
def numOk (w : Str) : Bool := canL (TL.tl w) && decide (NumText.digitsVal (figL (TL.tl w)) ≤ 100)
def numP (w : Str) : PyData := if numOk w = true then .int (valL (TL.tl w)) else .none
theorem numS_eq (i : Int) : numS i = (toString i : String) := rfl
theorem numS_len {i : Int} (h : -100 ≤ i ∧ i ≤ 100) : (numS i).length ≤ 4 := by
  rw [TL.len_tl]
  by_cases p : 0 ≤ i
  · obtain ⟨n, rfl⟩ := Int.eq_ofNat_of_zero_le p
    rw [show ((n : Nat) : Int) = (n : Int) from rfl, tl_numS_nat]
    have := TL.numL_len (k := 3) (by omega) (show n < 10 ^ 3 by omega)
    omega
  · obtain ⟨n, rfl⟩ : ∃ n : Nat, i = -((n + 1 : Nat) : Int) := ⟨i.natAbs - 1, by omega⟩
    rw [tl_numS_neg, List.length_cons]
    have := TL.numL_len (n := n + 1) (k := 3) (by omega) (show n + 1 < 10 ^ 3 by omega)
    omega
/-! ### tables as texts -/
abbrev SEMI : Str := "; "
abbrev BLANK : Str := " "
def wordsX (x : Str) : List (List Str) := (Txt.split x SEMI).map fun r => Txt.split r BLANK
def tabOf (x : Str) : List (List Int) := (wordsX x).map fun r => r.map fun w => valL (TL.tl w)
def dueOf (x : Str) : List (List PyData) := (wordsX x).map fun r => r.map numP
def canX (x : Str) : Bool := (wordsX x).all fun r => r.all fun w => canL (TL.tl w)
def readOk (x : Str) : Bool := canX x && tabOk (encT (tabOf x))
def textT (t : List (List Int)) : Str := Txt.join SEMI (t.map fun r => Txt.join BLANK (r.map numS))
theorem semi_ne : TL.tl SEMI ≠ [] := by decide +kernel
theorem semi_k : SEMI.cps.all (· < 256) = true := by decide +kernel
theorem blank_ne : TL.tl BLANK ≠ [] := by decide +kernel
theorem blank_k : BLANK.cps.all (· < 256) = true := by decide +kernel
theorem wordsX_ne (x : Str) : wordsX x ≠ [] := fun h => split_ne semi_ne semi_k (List.map_eq_nil_iff.mp h)
theorem wordsX_row {x : Str} {r : List Str} (h : r ∈ wordsX x) : r ≠ [] := by
  obtain ⟨y, _, rfl⟩ := List.mem_map.mp h
  exact split_ne blank_ne blank_k
/-- written again, it is the text -/
theorem text_back {x : Str} (h : canX x = true) : textT (tabOf x) = x := by
  have e : (tabOf x).map (fun r => Txt.join BLANK (r.map numS)) = Txt.split x SEMI := by
    unfold tabOf wordsX
    rw [List.map_map, List.map_map]
    conv => rhs; rw [← List.map_id (Txt.split x SEMI)]
    refine List.map_congr_left fun r hr => ?_
    show Txt.join BLANK (((Txt.split r BLANK).map fun w => valL (TL.tl w)).map numS) = r
    rw [List.map_map]
    have : (Txt.split r BLANK).map (numS ∘ fun w => valL (TL.tl w)) = Txt.split r BLANK := by
      conv => rhs; rw [← List.map_id (Txt.split r BLANK)]
      refine List.map_congr_left fun w hw => ?_
      have c := List.all_eq_true.mp (List.all_eq_true.mp h _ (List.mem_map.mpr ⟨r, hr, rfl⟩)) w hw
      exact (canL_num c).1.symm
    rw [this]
    exact join_split blank_ne blank_k
  unfold textT
  rw [e]
  exact join_split semi_ne semi_k
theorem encR_inj {r s : List Int} (h : encR r = encR s) : r = s := by
  have h : r.map PyData.int = s.map PyData.int := PyData.list.inj h
  exact (List.map_inj_right (fun a b e => PyData.int.inj e)).mp h
theorem encT_inj {t u : List (List Int)} (h : encT t = encT u) : t = u := by
  have h : t.map encR = u.map encR := PyData.list.inj h
  exact (List.map_inj_right (fun a b e => encR_inj e)).mp h
/-- the law's own reading -/
def lawOk (W : List (List Str)) : Bool := decide (W.length ≤ 4) && (decide ((W.headD []).length ≤ 4) && W.all fun r => decide (r.length = (W.headD []).length) && r.all numOk)
theorem val_abs {w : Str} (h : canL (TL.tl w) = true) : decide (NumText.digitsVal (figL (TL.tl w)) ≤ 100) = decide (-100 ≤ valL (TL.tl w) ∧ valL (TL.tl w) ≤ 100) := by
  have := (canL_num h).2.2.1
  exact decide_eq_decide.mpr (by omega)
theorem law_read (x : Str) : lawOk (wordsX x) = readOk x := by
  have e : lawOk (wordsX x) = true ↔ readOk x = true := by
    constructor
    · intro h
      unfold lawOk at h
      simp only [Bool.and_eq_true, decide_eq_true_eq, List.all_eq_true] at h
      obtain ⟨h4, h4', ha⟩ := h
      have can : canX x = true := List.all_eq_true.mpr fun r hr => List.all_eq_true.mpr fun w hw => by
        have := (ha r hr).2 w hw
        unfold numOk at this
        exact (Bool.and_eq_true _ _ ▸ this).1
      have tb : Tab (tabOf x) ((wordsX x).headD []).length := by
        have l : (tabOf x).length = (wordsX x).length := List.length_map ..
        have w1 : 1 ≤ (wordsX x).length := List.length_pos_iff.mpr (wordsX_ne x)
        have hd : (wordsX x).headD [] ∈ wordsX x := by
          match q : wordsX x, wordsX_ne x with
          | a :: b, _ => exact List.mem_cons_self ..
        have n1 : 1 ≤ ((wordsX x).headD []).length := List.length_pos_iff.mpr (wordsX_row hd)
        refine ⟨⟨?_, ?_, ?_, ?_, ?_⟩, ?_⟩
        all_goals first
          | omega
          | (intro r hr
             obtain ⟨r', hr', rfl⟩ := List.mem_map.mp hr
             first
               | (rw [List.length_map]; exact (ha r' hr').1)
               | (intro v hv
                  obtain ⟨w, hw, rfl⟩ := List.mem_map.mp hv
                  have q := (ha r' hr').2 w hw
                  unfold numOk at q
                  have q := Bool.and_eq_true _ _ ▸ q
                  have q2 := q.2
                  rw [val_abs q.1] at q2
                  exact of_decide_eq_true q2))
      unfold readOk
      rw [can, tab_tabOk tb]
      rfl
    · intro h
      unfold readOk at h
      obtain ⟨hc, ht⟩ := Bool.and_eq_true _ _ ▸ h
      obtain ⟨t, n, e, tb⟩ := tabOk_tab ht
      have e := encT_inj e
      have l : (tabOf x).length = (wordsX x).length := List.length_map ..
      have rows : ∀ r ∈ wordsX x, r.length = n ∧ r.all numOk = true := fun r hr => by
        have m : (r.map fun w => valL (TL.tl w)) ∈ t := by rw [← e]; exact List.mem_map.mpr ⟨r, hr, rfl⟩
        have a := tb.row _ m
        rw [List.length_map] at a
        refine ⟨a, List.all_eq_true.mpr fun w hw => ?_⟩
        have c := List.all_eq_true.mp (List.all_eq_true.mp hc r hr) w hw
        have b := tb.bd _ m _ (List.mem_map.mpr ⟨w, hw, rfl⟩)
        unfold numOk
        rw [c, val_abs c, decide_eq_true b]
        rfl
      have hd : (wordsX x).headD [] ∈ wordsX x := by
        match q : wordsX x, wordsX_ne x with
        | a :: b, _ => exact List.mem_cons_self ..
      have nd := (rows _ hd).1
      have t4 := tb.r4
      have n4 := tb.c4
      rw [← e] at t4
      unfold lawOk
      simp only [Bool.and_eq_true, decide_eq_true_eq]
      exact ⟨by omega, by omega, List.all_eq_true.mpr fun r hr => by rw [(rows r hr).2, (rows r hr).1, nd, decide_eq_true rfl]; rfl⟩
  cases h : lawOk (wordsX x) <;> cases h2 : readOk x <;> simp_all
theorem due_tab {x : Str} (h : readOk x = true) : PyData.list ((dueOf x).map PyData.list) = encT (tabOf x) := by
  have l := law_read x
  rw [h] at l
  unfold lawOk at l
  simp only [Bool.and_eq_true, List.all_eq_true] at l
  obtain ⟨_, _, ha⟩ := l
  show PyData.list _ = PyData.list _
  congr 1
  unfold dueOf tabOf
  rw [List.map_map, List.map_map]
  refine List.map_congr_left fun r hr => ?_
  show PyData.list (r.map numP) = PyData.list ((r.map fun w => valL (TL.tl w)).map PyData.int)
  rw [List.map_map]
  congr 1
  refine List.map_congr_left fun w hw => ?_
  show numP w = _
  unfold numP
  rw [if_pos ((ha r hr).2 w hw)]
  rfl
open PySem PySem.Spec PyProof.Rows Builtin Builtin.Str L2
/-! ### texts: rules -/
section
variable {K : PySem.W.Frag} {G : Env} {ta : TA} {te tb : TE} {E : XK} {D : GE}
theorem ev_strI {i : Int} (h : EvH K te G (.int i)) (hb : i.natAbs < 2 ^ 64) : Ev K (tCB rStrU (tCons te tNil)) G (.str (numS i)) := fun F lab σ H r Q q =>
  h F lab σ H r _ fun x F1 H1 g1 d1 => ⟨i, by rw [dp_int d1], by
    by_cases z : i.natAbs = 0
    · rw [z]; decide
    · have : i.natAbs.log2 < 64 := (Nat.log2_lt z).mpr hb
      omega, q _ F1 H1 g1 (.im (.str _))⟩
theorem st_retNw {i : Nat} {d : PyData} (h : G[i]? = some (.nw d)) (q : D.rt (.nw d)) : St K E (tRet (tVar i)) G D := fun B F0 F lab σ H r D' l => by
  obtain ⟨v, e, N, hN, al⟩ := r.rs.sl i _ h (fun z => nomatch z)
  refine ⟨_, e, l.rt _ F H (.nw d) r.go ⟨fun a => match lab a with | some o => if o = (i, ("" : Str)) then some (0, ("" : Str)) else none | none => none, ⟨N, fun a u z => ?_, al⟩, fun a o z => ?_⟩ q⟩
  · have h3 := hN a u z
    exact ⟨h3.1, h3.2.1, by simp [h3.2.2]⟩
  · cases e' : lab a with
    | none => exact absurd z (by simp [e'])
    | some k => exact r.lb a k e'
end
theorem sumS_le {k : Nat} : ∀ {ys : List Str}, (∀ y ∈ ys, y.length ≤ k) → (ys.map (·.length)).sum ≤ ys.length * k
  | [], _ => by simp
  | y :: ys, h => by
    have h1 := h y (by simp)
    have h2 := sumS_le (k := k) (ys := ys) fun z hz => h z (by simp [hz])
    simp only [List.map_cons, List.sum_cons, List.length_cons, Nat.add_mul]
    omega
theorem joinL_le (S : List Nat) : ∀ l : List (List Nat), (TL.joinL S l).length ≤ (l.map List.length).sum + l.length * S.length
  | [] => by simp [TL.joinL]
  | [p] => by simp [TL.joinL]
  | p :: q :: r => by
    have := joinL_le S (q :: r)
    show (p ++ (S ++ TL.joinL S (q :: r))).length ≤ _
    rw [List.length_append, List.length_append]
    simp only [List.map_cons, List.sum_cons, List.length_cons, Nat.add_mul] at *
    omega
theorem join_le {y : Str} {ys : List Str} {k : Nat} (h : ∀ z ∈ ys, z.length ≤ k) : (Txt.join y ys).length ≤ ys.length * k + ys.length * y.length := by
  rw [TL.join_eq, TL.len_tl, TL.tl_join]
  have := joinL_le (TL.tl y) (ys.map TL.tl)
  rw [List.map_map, List.length_map] at this
  have e : ys.map (List.length ∘ TL.tl) = ys.map (·.length) := List.map_congr_left fun z _ => (TL.len_tl z).symm
  rw [e] at this
  have := sumS_le h
  rw [TL.len_tl y]
  omega
theorem row_le {t : List (List Int)} {n : Nat} (tab : Tab t n) {r : List Int} (hr : r ∈ t) : (∀ z ∈ r.map numS, z.length ≤ 4) ∧ (r.map numS).length ≤ 4 := ⟨fun z hz => by
  obtain ⟨w, hw, rfl⟩ := List.mem_map.mp hz
  exact numS_len (tab.bd r hr w hw), by
  have := tab.row r hr
  have := tab.c4
  rw [List.length_map]
  omega⟩
theorem rows_le {t : List (List Int)} {n : Nat} (tab : Tab t n) : ∀ z ∈ t.map (fun r => Txt.join BLANK (r.map numS)), z.length ≤ 20 := fun z hz => by
  obtain ⟨r, hr, rfl⟩ := List.mem_map.mp hz
  have h := row_le tab hr
  have := join_le (y := BLANK) h.1
  have e : BLANK.length = 1 := by decide +kernel
  rw [e] at this
  have := h.2
  omega
theorem textT_le {t : List (List Int)} {n : Nat} (tab : Tab t n) : (textT t).length ≤ 200 := by
  have := join_le (y := SEMI) (rows_le tab)
  have e : SEMI.length = 2 := by decide +kernel
  rw [e, List.length_map] at this
  have := tab.r4
  unfold textT
  omega
theorem ev_text {K : PySem.W.Frag} {G : Env} {i a b : Nat} {T : List (List Int)} {n : Nat} (tab : Tab T n) (hv : G[i]? = some (.im (encT T))) (hr : ∀ r, ((wipeG G [a]).set a (.im (encR r)))[a]? = some (.im (encR r)))
    (hw : ∀ r w, ((wipeG ((wipeG G [a]).set a (.im (encR r))) [b]).set b (.im (.int w)))[b]? = some (.im (.int w))) :
    Ev K (tM1 (rJoinS K) (tC (.str "; ")) (tLc (iList K (tVar i)) (gName a) tYes (tM1 (rJoinS K) (tC (.str " ")) (tLc (iList K (tVar a)) (gName b) tYes (tCB rStrU (tCons (tVar b) tNil)) [b])) [a])) G (.str (textT T)) := by
  have big : ∀ {ys : List Str} {k : Nat} {y : Str}, (∀ z ∈ ys, z.length ≤ k) → ys.length ≤ 4 → k ≤ 100 → y.length ≤ 2 → (ys.map (·.length)).sum + ys.length * y.length ≤ 16777216 := fun {ys k y} h l hk hy => by
    have h1 := sumS_le h
    have h2 : ys.length * k ≤ 4 * 100 := Nat.mul_le_mul l hk
    have h3 : ys.length * y.length ≤ 4 * 2 := Nat.mul_le_mul l hy
    omega
  refine ev_joinS (ys := T.map fun r => Txt.join BLANK (r.map numS)) (EvS.h (ev_c (.str _))) (EvS.h (EvS.freeze (EvS.to (ev_lc1 (xs := T) (enc := encR) (vs := [a]) (ei_list (ev_var hv)) (fun r => .str (Txt.join BLANK (r.map numS))) (fun r => (wipeG G [a]).set a (.im (encR r))) (fun r _ => tg_name (by simp)) (fun r hrT => ?_) (by have := tab.r4; omega)) ?_))) (big (y := SEMI) (rows_le tab) (by rw [List.length_map]; exact tab.r4) (by decide) (by decide +kernel))
  · refine ev_joinS (ys := r.map numS) (EvS.h (ev_c (.str _))) (EvS.h (EvS.freeze (EvS.to (ev_lc1 (xs := r) (enc := .int) (vs := [b]) (ei_list (ev_var (hr r))) (fun w => .str (numS w)) (fun w => (wipeG ((wipeG G [a]).set a (.im (encR r))) [b]).set b (.im (.int w))) (fun w _ => tg_name (by simp)) (fun w hwr => ev_strI (EvS.h (ev_var (hw r w))) ?_) (by have := tab.row r hrT; have := tab.c4; omega)) ?_))) (big (y := BLANK) (row_le tab hrT).1 (row_le tab hrT).2 (by decide) (by decide +kernel))
    · have := tab.bd r hrT w hwr
      omega
    · rw [List.map_map]; rfl
  · rw [List.map_map]; rfl
/-- the first that is not so -/
theorem first_bad {α : Type} {p : α → Bool} : ∀ {xs : List α}, xs.all p = false → ∃ k, k < xs.length ∧ (∀ i x, i < k → xs[i]? = some x → p x = true) ∧ ∀ x, xs[k]? = some x → p x = false
  | [], h => by cases h
  | a :: xs, h => by
    cases ha : p a with
    | false => exact ⟨0, by simp, fun i x hi => absurd hi (Nat.not_lt_zero i), fun x hx => by simp at hx; rw [← hx]; exact ha⟩
    | true =>
      rw [List.all_cons, ha, Bool.true_and] at h
      obtain ⟨k, h1, h2, h3⟩ := first_bad h
      refine ⟨k + 1, by simpa using h1, fun i x hi hx => ?_, fun x hx => h3 x (by simpa using hx)⟩
      cases i with
      | zero => simp at hx; rw [← hx]; exact ha
      | succ i => exact h2 i x (by omega) (by simpa using hx)
theorem cut_minus (w : Str) : decide (cutS w none (some 1) = ("-" : Str)) = decide ((TL.tl w).head? = some 45) := by
  rw [eq_tl, cut01, show TL.tl ("-" : Str) = [45] from by decide +kernel]
  refine decide_eq_decide.mpr ?_
  match TL.tl w with
  | [] => simp
  | a :: r => simp
theorem int_figs {w : Str} (h : (TL.tl w).all figB = true) (h1 : TL.tl w ≠ []) (h3 : w.length ≤ 3) : intText? w = some ((NumText.digitsVal (TL.tl w) : Nat) : Int) := intText_digits (fig_all h) h1 (by omega)
structure ExF (K : PySem.W.Frag) (C c : Addr) : Prop where
  ex : PySem.W.exmOne K (.ref c) (.ref C) = some true
  C : ExcC K c
structure ErrX (K : PySem.W.Frag) (cCard cT cM cN cU c : Addr) : Prop where
  ex : PySem.W.exmOne K (.ref c) (.ref cCard) = some true
  C : ExcC K c
  kT : PySem.W.kitOne K (.ref c) (.ref cT) = some false
  kM : PySem.W.kitOne K (.ref c) (.ref cM) = some false
  kN : PySem.W.kitOne K (.ref c) (.ref cN) = some false
  kU : PySem.W.kitOne K (.ref c) (.ref cU) = some false
  kX : PySem.W.kitOne K (.ref c) (.ref c) = some true

def R_written (cBadTable : Addr) : List Sl → Out → Prop := fun ss o => ∃ t n, ss = [.im (encT t)] ∧ Tab t n ∧ o = .ret (.im (.str (textT t)))
def t_written (K : PySem.W.Frag) (cBadTable : Addr) (E : XK) : TS := (tSeq (tDrop (tCall (spR K (R_asked_table cBadTable)) [] E (tCons (tVar 0) tNil)))
    (tRet (tM1 (rJoinS K) (tC (.str "; ")) (tLc (iList K (tVar 0)) (gName 1) tYes (tM1 (rJoinS K) (tC (.str " ")) (tLc (iList K (tVar 1)) (gName 2) tYes (tCB rStrU (tCons (tVar 2) tNil)) [2])) [1]))))
theorem len_written {cBadTable : Addr} {ss : List Sl} {o : Out} (h : R_written cBadTable ss o) : ss.length = 1 := by
  first | (obtain ⟨_, rfl, _⟩ := h; rfl) | (obtain ⟨_, _, rfl, _⟩ := h; rfl) | (obtain ⟨_, _, _, rfl, _⟩ := h; rfl) | (obtain ⟨_, _, _, _, rfl, _⟩ := h; rfl) | (obtain ⟨_, _, _, _, _, rfl, _⟩ := h; rfl) | (obtain ⟨_, _, _, _, _, _, rfl, _⟩ := h; rfl)
theorem b_written {K : PySem.W.Frag} {E : XK} {cBadTable : Addr} (ss : List Sl) (o : Out) (h : R_written cBadTable ss o) : St K E (t_written K cBadTable E) (params ["table", "row", "worth"] ss) { nx := fun _ => o = .ret (.im .none), rt := fun s => o = .ret s, ex := fun c => o = .exc c } := by
  obtain ⟨t, n, rfl, tab, rfl⟩ := h
  refine st_seq (st_drop (s := .im .none) (ev_call (ss := [.im (encT t)]) (ea_im (ev_var rfl) ea_nil) ⟨_, rfl, by rw [tab_tabOk tab]; rfl⟩) ?_)
  exact st_ret (s := .im (.str (textT t))) (ev_text (n := n) tab rfl (fun _ => rfl) (fun _ _ => rfl)) rfl

def R_number_in (cBadText : Addr) : List Sl → Out → Prop := fun ss o => ∃ w : Str, ss = [.im (.str w)] ∧ w.length ≤ 100000 ∧ o = if canL (TL.tl w) = true then .ret (.im (.int (valL (TL.tl w)))) else .exc cBadText
def t_number_in (K : PySem.W.Frag) (cBadText : Addr) (E : XK) : TS := (tSeq (tAsg (tIf (tB (tM1 rStarts (tVar 0) (tC (.str "-")))) (tSl rSlS (tVar 0) (tPart (tC (.int 1))) tNoPart) (tVar 0)) (gName 1))
    (tSeq (tIfS (tOr (tNot (tTest (tChain (rI0 fun i j => .bl (decide (i ≤ j))) (rI0 fun i j => .bl (decide (i ≤ j))) (tC (.int 1)) (tCB (rLenU K) (tCons (tVar 1) tNil)) (tC (.int 3))))) (tOr (tTest (tOp rNeS (tM1 rStripC (tVar 1) (tC (.str "0123456789"))) (tC (.str "")))) (tAnd (tB (tM1 rStarts (tVar 1) (tC (.str "0")))) (tTest (tOp rNeS (tVar 0) (tC (.str "0"))))))) (tRaiseU cBadText E) tNext)
    (tRet (tCB rIntS (tCons (tVar 0) tNil)))))
theorem len_number_in {cBadText : Addr} {ss : List Sl} {o : Out} (h : R_number_in cBadText ss o) : ss.length = 1 := by
  first | (obtain ⟨_, rfl, _⟩ := h; rfl) | (obtain ⟨_, _, rfl, _⟩ := h; rfl) | (obtain ⟨_, _, _, rfl, _⟩ := h; rfl) | (obtain ⟨_, _, _, _, rfl, _⟩ := h; rfl) | (obtain ⟨_, _, _, _, _, rfl, _⟩ := h; rfl) | (obtain ⟨_, _, _, _, _, _, rfl, _⟩ := h; rfl)
theorem b_number_in {K : PySem.W.Frag} {E : XK} {cBadText : Addr} (ss : List Sl) (o : Out) (h : R_number_in cBadText ss o) : St K E (t_number_in K cBadText E) (params ["word", "figures"] ss) { nx := fun _ => o = .ret (.im .none), rt := fun s => o = .ret s, ex := fun c => o = .exc c } := by
  obtain ⟨w, rfl, hw, rfl⟩ := h
  have fl : (figS w).length ≤ 100000 := by
    rw [figS_len]
    have := figL_le (TL.tl w)
    rw [← TL.len_tl] at this
    omega
  refine st_seq (st_asg (s := .im (.str (figS w))) (ev_if (b := decide ((TL.tl w).head? = some 45)) (eb_B (EvS.h (Ev.to (ev_starts (EvS.h (ev_var rfl)) (EvS.h (ev_c (.str _)))) (by rw [tl_str1 (c := 45) (by decide +kernel)])))) (fun z => ?_) (fun z => ?_)) ?_)
  · have e : figS w = cutS w (some 1) none := if_pos (of_decide_eq_true z)
    rw [e]
    exact ev_slS (ev_var rfl) (eo_some (EvS.h (ev_c (.int _)))) eo_none hw
  · have e : figS w = w := if_neg (of_decide_eq_false z)
    rw [e]
    exact ev_var rfl
  refine st_seq (st_if (b := !canL (TL.tl w)) (EvB.to (eb_orN (eb_not (eb_test (EvS.h (ev_chain (EvS.h (ev_c (.int _))) (EvS.h (ev_lenS (a := figS w) (EvS.h (ev_var rfl)) fl)) (EvS.h (ev_c (.int _))))))) (eb_orN (eb_test (EvS.h (ev_neS (EvS.h (ev_stripC (a := figS w) (EvS.h (ev_var rfl)) (EvS.h (ev_c (.str _))) fl)) (EvS.h (ev_c (.str _)))))) (eb_andN (eb_B (EvS.h (ev_starts (a := figS w) (EvS.h (ev_var rfl)) (EvS.h (ev_c (.str _)))))) (eb_test (EvS.h (ev_neS (a := w) (EvS.h (ev_var rfl)) (EvS.h (ev_c (.str _))))))))) ?_) (fun z => ?_) (fun z => st_next ?_))
  · rw [← can_test]
    congr 2
    congr 1
    · exact decide_eq_decide.mpr (by omega)
    · exact decide_eq_decide.mpr (by omega)
  · have z : canL (TL.tl w) = false := by simpa using z
    exact st_raiseU (by simp [z])
  · have z : canL (TL.tl w) = true := by simpa using z
    have c := canL_num z
    exact st_ret (s := .im (.int (valL (TL.tl w)))) (ev_intS (EvS.h (ev_var rfl)) c.2.1 (by have := c.2.2.2.2.1; omega)) (by simp [z])

def R_read (cBadText : Addr) : List Sl → Out → Prop := fun ss o => ∃ d, ss = [.im d] ∧ ((isStr d = false ∧ o = .exc cBadText) ∨ ∃ x, d = .str x ∧ x.length ≤ 50000 ∧ ((readOk x = false ∧ o = .exc cBadText) ∨ (readOk x = true ∧ o = .ret (.nw (encT (tabOf x))))))
def t_read (K : PySem.W.Frag) (cBadTable : Addr) (cBadText : Addr) (E : XK) : TS := (tSeq (tIfS (tNot (tB (tCB (rIsi K) (tCons (tVar 0) (tCons (tC (.ty "str")) tNil))))) (tRaiseU cBadText E) tNext)
    (tSeq (tAsg (tLc (iList K (tM1 rSplitS (tVar 0) (tC (.str "; ")))) (gName 2) tYes (tLc (iList K (tM1 rSplitS (tVar 2) (tC (.str " ")))) (gName 3) tYes (tCall (spR K (R_number_in cBadText)) [] E (tCons (tVar 3) tNil)) [3]) [2]) (gName 1))
    (tSeq (tTryX K cBadTable E (fun W => (tDrop (tCallS (spR K (R_asked_table cBadTable)) (WE W) (tCons (tVar 1) tNil)))) (tRaiseU cBadText E))
    (tRet (tVar 1)))))
theorem len_read {cBadText : Addr} {ss : List Sl} {o : Out} (h : R_read cBadText ss o) : ss.length = 1 := by
  first | (obtain ⟨_, rfl, _⟩ := h; rfl) | (obtain ⟨_, _, rfl, _⟩ := h; rfl) | (obtain ⟨_, _, _, rfl, _⟩ := h; rfl) | (obtain ⟨_, _, _, _, rfl, _⟩ := h; rfl) | (obtain ⟨_, _, _, _, _, rfl, _⟩ := h; rfl) | (obtain ⟨_, _, _, _, _, _, rfl, _⟩ := h; rfl)
theorem b_read {K : PySem.W.Frag} {E : XK} {cBadTable : Addr} {cBadText : Addr} (EX : ExF K cBadTable cBadTable) (ss : List Sl) (o : Out) (h : R_read cBadText ss o) : St K E (t_read K cBadTable cBadText E) (params ["text", "table", "row", "word"] ss) { nx := fun _ => o = .ret (.im .none), rt := fun s => o = .ret s, ex := fun c => o = .exc c } := by
  obtain ⟨d, rfl, ⟨hs, rfl⟩ | ⟨x, rfl, hx, h⟩⟩ := h
  · exact st_seq (st_if (b := true) (EvB.to (eb_not (eb_B (EvS.h (ev_isi (EvS.h (ev_var rfl)) (kit_str d))))) (by rw [hs]; rfl)) (fun _ => st_raiseU rfl) (fun z => nomatch z))
  refine st_seq (st_if (b := false) (EvB.to (eb_not (eb_B (EvS.h (ev_isi (EvS.h (ev_var rfl)) (kit_str (.str x)))))) rfl) (fun z => nomatch z) (fun _ => st_next ?_))
  have sx : Ev K (tM1 rSplitS (tVar 0) (tC (.str "; "))) [.im (.str x), .no, .no, .no] (.list ((Txt.split x SEMI).map .str)) := EvS.freeze (ev_splitS (EvS.h (ev_var rfl)) (EvS.h (ev_c (.str _))) (by omega) (by decide +kernel))
  have ml := split_many (x := x) semi_ne semi_k
  have sl : ∀ y ∈ Txt.split x SEMI, y.length ≤ 50000 := fun y hy => Nat.le_trans (split_le semi_ne semi_k hy) hx
  have sy : ∀ y, y.length ≤ 50000 → Ev K (tM1 rSplitS (tVar 2) (tC (.str " "))) [.im (.str x), .no, .im (.str y), .no] (.list ((Txt.split y BLANK).map .str)) := fun y hy => EvS.freeze (ev_splitS (EvS.h (ev_var rfl)) (EvS.h (ev_c (.str _))) (by omega) (by decide +kernel))
  have wl : ∀ y, y.length ≤ 50000 → ∀ w ∈ Txt.split y BLANK, w.length ≤ 100000 := fun y hy w hw => by
    have := split_le blank_ne blank_k hw
    omega
  have wm : ∀ y : Str, y.length ≤ 50000 → (Txt.split y BLANK).length ≤ 100000 := fun y hy => by
    have := split_many (x := y) blank_ne blank_k
    omega
  have okw : ∀ y w, w.length ≤ 100000 → canL (TL.tl w) = true → Ev K (tCall (spR K (R_number_in cBadText)) [] E (tCons (tVar 3) tNil)) [.im (.str x), .no, .im (.str y), .im (.str w)] (.int (valL (TL.tl w))) := fun y w hw c => ev_call (ss := [.im (.str w)]) (ea_im (ev_var rfl) ea_nil) ⟨w, rfl, hw, by rw [if_pos c]⟩
  have okr : ∀ y, y ∈ Txt.split x SEMI → ((Txt.split y BLANK).all fun w => canL (TL.tl w)) = true → EvS K (tLc (iList K (tM1 rSplitS (tVar 2) (tC (.str " ")))) (gName 3) tYes (tCall (spR K (R_number_in cBadText)) [] E (tCons (tVar 3) tNil)) [3]) [.im (.str x), .no, .im (.str y), .no] (.ow (((Txt.split y BLANK).map fun w => valL (TL.tl w)).map .int)) := fun y hy hc =>
    EvS.to (ev_lc1 (xs := Txt.split y BLANK) (enc := .str) (vs := [3]) (ei_list (sy y (sl y hy))) (fun w => .int (valL (TL.tl w))) (fun w => [.im (.str x), .no, .im (.str y), .im (.str w)]) (fun w _ => tg_name (by decide)) (fun w hw => okw y w (wl y (sl y hy) w hw) (List.all_eq_true.mp hc w hw)) (wm y (sl y hy))) (by rw [List.map_map]; rfl)
  cases hc : canX x with
  | false =>
    have ho : o = .exc cBadText := by
      rcases h with ⟨_, h⟩ | ⟨h2, _⟩
      · exact h
      · unfold readOk at h2
        rw [hc] at h2
        cases h2
    subst ho
    have hc2 : (Txt.split x SEMI).all (fun y => (Txt.split y BLANK).all fun w => canL (TL.tl w)) = false := by
      unfold canX wordsX at hc
      rw [List.all_map] at hc
      exact hc
    obtain ⟨k, hk, h1, h2⟩ := first_bad hc2
    refine st_seq (st_asgX (c := cBadText) (evx_lc (xs := Txt.split x SEMI) (enc := .str) (vs := [2]) (k := k) (ei_list sx) (fun y => [.im (.str x), .no, .im (.str y), .no]) (fun y _ => tg_name (by decide)) hk (fun i y hi hy => EvS.g (okr y (List.mem_of_getElem? hy) (h1 i y hi hy))) (fun y hy => ?_) (by omega)) rfl)
    have my := List.mem_of_getElem? hy
    obtain ⟨k2, hk2, h3, h4⟩ := first_bad (h2 y hy)
    exact evx_lc (xs := Txt.split y BLANK) (enc := .str) (vs := [3]) (k := k2) (ei_list (sy y (sl y my))) (fun w => [.im (.str x), .no, .im (.str y), .im (.str w)]) (fun w _ => tg_name (by decide)) hk2
      (fun i w hi hw => EvS.g (okw y w (wl y (sl y my) w (List.mem_of_getElem? hw)) (h3 i w hi hw)))
      (fun w hw => evx_call (ss := [.im (.str w)]) (ea_im (ev_var rfl) ea_nil) ⟨w, rfl, wl y (sl y my) w (List.mem_of_getElem? hw), by rw [h4 w hw]; rfl⟩) (wm y (sl y my))
  | true =>
    have hall : ∀ y ∈ Txt.split x SEMI, ((Txt.split y BLANK).all fun w => canL (TL.tl w)) = true := fun y hy => List.all_eq_true.mp hc _ (List.mem_map.mpr ⟨y, hy, rfl⟩)
    refine st_seq (st_asg (s := .nw (encT (tabOf x))) (EvS.to (ev_lcN (xs := Txt.split x SEMI) (enc := .str) (vs := [2]) (ei_list sx) (fun y => (Txt.split y BLANK).map fun w => valL (TL.tl w)) (fun y => [.im (.str x), .no, .im (.str y), .no]) (fun y _ => tg_name (by decide)) (fun y hy => okr y hy (hall y hy)) (by omega)) ?_) ?_)
    · unfold tabOf wordsX
      rw [List.map_map]
      show Sl.nw (.list _) = Sl.nw (.list _)
      rw [List.map_map]
      rfl
    have er : readOk x = tabOk (encT (tabOf x)) := by
      unfold readOk
      rw [hc, Bool.true_and]
    rcases h with ⟨h2, rfl⟩ | ⟨h2, rfl⟩
    · rw [er] at h2
      exact st_seq (st_tryBX (ss := [.im (encT (tabOf x))]) (c := cBadTable) (ea_im (ev_var rfl) ea_nil) ⟨_, rfl, by rw [h2]; rfl⟩ EX.ex (st_raiseU rfl))
    · rw [er] at h2
      exact st_seq (st_tryB (ss := [.im (encT (tabOf x))]) (s := .im .none) (ea_im (ev_var rfl) ea_nil) ⟨_, rfl, by rw [h2]; rfl⟩ (st_retNw rfl rfl))

def R_law_number : List Sl → Out → Prop := fun ss o => ∃ w : Str, ss = [.im (.str w)] ∧ w.length ≤ 100000 ∧ o = .ret (.im (numP w))
def t_law_number (K : PySem.W.Frag) : TS := (tSeq (tAsg (tIf (tTest (tOp rEqS (tSl rSlS (tVar 0) tNoPart (tPart (tC (.int 1)))) (tC (.str "-")))) (tSl rSlS (tVar 0) (tPart (tC (.int 1))) tNoPart) (tVar 0)) (gName 1))
    (tSeq (tIfS (tOr (tNot (tTest (tChain (rI0 fun i j => .bl (decide (i < j))) (rI0 fun i j => .bl (decide (i < j))) (tC (.int 0)) (tCB (rLenU K) (tCons (tVar 1) tNil)) (tC (.int 4))))) (tNot (tB (tCB (rAll K) (tCons (tLc (iStr (tVar 1)) (gName 2) tYes (tOp rInSg (tVar 2) (tC (.str "0123456789"))) [2]) tNil))))) (tRet (tC .non)) tNext)
    (tSeq (tIfS (tOr (tAnd (tTest (tOp rEqS (tOp (rIx K) (tVar 1) (tC (.int 0))) (tC (.str "0")))) (tTest (tOp rNeS (tVar 0) (tC (.str "0"))))) (tTest (tOp (rI0 fun i j => .bl (decide (j < i))) (tCB rIntS (tCons (tVar 1) tNil)) (tC (.int 100))))) (tRet (tC .non)) tNext)
    (tRet (tCB rIntS (tCons (tVar 0) tNil))))))
theorem len_law_number {ss : List Sl} {o : Out} (h : R_law_number ss o) : ss.length = 1 := by
  first | (obtain ⟨_, rfl, _⟩ := h; rfl) | (obtain ⟨_, _, rfl, _⟩ := h; rfl) | (obtain ⟨_, _, _, rfl, _⟩ := h; rfl) | (obtain ⟨_, _, _, _, rfl, _⟩ := h; rfl) | (obtain ⟨_, _, _, _, _, rfl, _⟩ := h; rfl) | (obtain ⟨_, _, _, _, _, _, rfl, _⟩ := h; rfl)
theorem b_law_number {K : PySem.W.Frag} {E : XK} (ss : List Sl) (o : Out) (h : R_law_number ss o) : St K E (t_law_number K) (params ["_law_word", "_law_figures", "_law_sign"] ss) { nx := fun _ => o = .ret (.im .none), rt := fun s => o = .ret s, ex := fun c => o = .exc c } := by
  obtain ⟨w, rfl, hw, rfl⟩ := h
  have fl : (figS w).length ≤ 100000 := by
    rw [figS_len]
    have := figL_le (TL.tl w)
    rw [← TL.len_tl] at this
    omega
  have hw1 := cutS_length w none (some 1)
  refine st_seq (st_asg (s := .im (.str (figS w))) (ev_if (b := decide ((TL.tl w).head? = some 45)) (eb_test (EvS.h (Ev.to (ev_eqS (EvS.h (ev_slS (a := w) (lo := none) (hi := some 1) (ev_var rfl) eo_none (eo_some (EvS.h (ev_c (.int _)))) hw)) (EvS.h (ev_c (.str _)))) (by rw [cut_minus])))) (fun z => ?_) (fun z => ?_)) ?_)
  · have e : figS w = cutS w (some 1) none := if_pos (of_decide_eq_true z)
    rw [e]
    exact ev_slS (ev_var rfl) (eo_some (EvS.h (ev_c (.int _)))) eo_none hw
  · have e : figS w = w := if_neg (of_decide_eq_false z)
    rw [e]
    exact ev_var rfl
  have test1 : EvB K (tOr (tNot (tTest (tChain (rI0 fun i j => .bl (decide (i < j))) (rI0 fun i j => .bl (decide (i < j))) (tC (.int 0)) (tCB (rLenU K) (tCons (tVar 1) tNil)) (tC (.int 4))))) (tNot (tB (tCB (rAll K) (tCons (tLc (iStr (tVar 1)) (gName 2) tYes (tOp rInSg (tVar 2) (tC (.str "0123456789"))) [2]) tNil))))) [.im (.str w), .im (.str (figS w)), .no]
      (!(decide (1 ≤ (figL (TL.tl w)).length) && decide ((figL (TL.tl w)).length ≤ 3)) || !((figL (TL.tl w)).all figB)) := by
    have lc : Ev K (tLc (iStr (tVar 1)) (gName 2) tYes (tOp rInSg (tVar 2) (tC (.str "0123456789"))) [2]) [.im (.str w), .im (.str (figS w)), .no] (.list (((TL.tl (figS w)).map figB).map .bool)) :=
      EvS.freeze (EvS.to (ev_lc1 (xs := TL.tl (figS w)) (enc := fun c => .str ⟨#[c]⟩) (vs := [2]) (ei_str (ev_var rfl)) (fun c => .bool (figB c)) (fun c => [.im (.str w), .im (.str (figS w)), .im (.str ⟨#[c]⟩)]) (fun c _ => tg_name (by decide)) (fun c _ => Ev.to (ev_inSg (EvS.h (ev_var rfl)) (EvS.h (ev_c (.str _)))) (by rw [mem_digits])) (by rw [← TL.len_tl]; exact fl)) (by rw [List.map_map]; rfl))
    refine EvB.to (eb_orN (eb_not (eb_test (EvS.h (ev_chain (EvS.h (ev_c (.int _))) (EvS.h (ev_lenS (a := figS w) (EvS.h (ev_var rfl)) fl)) (EvS.h (ev_c (.int _))))))) (eb_not (eb_B (EvS.h (ev_all (EvS.h lc)))))) ?_
    rw [figS_len, tl_figS]
    congr 2
    · congr 1
      · exact decide_eq_decide.mpr (by omega)
      · exact decide_eq_decide.mpr (by omega)
    · rw [List.all_map]; rfl
  cases h1 : (!(decide (1 ≤ (figL (TL.tl w)).length) && decide ((figL (TL.tl w)).length ≤ 3)) || !((figL (TL.tl w)).all figB)) with
  | true =>
    rw [h1] at test1
    have e : numP w = .none := by
      unfold numP numOk canL
      rw [if_neg]
      intro z
      revert h1 z
      cases decide (1 ≤ (figL (TL.tl w)).length) <;> cases decide ((figL (TL.tl w)).length ≤ 3) <;> cases (figL (TL.tl w)).all figB <;> simp
    exact st_seq (st_if test1 (fun _ => st_ret (s := .im .none) (ev_c .non) (by rw [e])) (fun z => nomatch z))
  | false =>
    rw [h1] at test1
    refine st_seq (st_if test1 (fun z => nomatch z) (fun _ => st_next ?_))
    have hb : 1 ≤ (figL (TL.tl w)).length ∧ (figL (TL.tl w)).length ≤ 3 ∧ (figL (TL.tl w)).all figB = true := by
      simp only [Bool.or_eq_false_iff, Bool.not_eq_false', Bool.and_eq_true, decide_eq_true_eq] at h1
      exact ⟨h1.1.1, h1.1.2, h1.2⟩
    have hall := hb.2.2
    have ne : TL.tl (figS w) ≠ [] := by
      rw [tl_figS]
      intro z
      rw [z] at hb
      exact absurd hb.1 (by simp)
    obtain ⟨c, r, ecr⟩ : ∃ c r, TL.tl (figS w) = c :: r := by
      match q : TL.tl (figS w), ne with
      | c :: r, _ => exact ⟨c, r, rfl⟩
    have iv := int_figs (w := figS w) (by rw [tl_figS]; exact hall) ne (by rw [figS_len]; exact hb.2.1)
    have test2 : EvB K (tOr (tAnd (tTest (tOp rEqS (tOp (rIx K) (tVar 1) (tC (.int 0))) (tC (.str "0")))) (tTest (tOp rNeS (tVar 0) (tC (.str "0"))))) (tTest (tOp (rI0 fun i j => .bl (decide (j < i))) (tCB rIntS (tCons (tVar 1) tNil)) (tC (.int 100))))) [.im (.str w), .im (.str (figS w)), .no] (!numOk w) := by
      refine EvB.to (eb_orN (eb_andN (eb_test (EvS.h (ev_eqS (EvS.h (ev_ixS (a := figS w) (i := 0) (c := c) (EvS.h (ev_var rfl)) (EvS.h (ev_c (.int _))) fl (by rw [show (figS w).cps.toList = c :: r from ecr]; exact atI_nat (j := 0) rfl))) (EvS.h (ev_c (.str _)))))) (eb_test (EvS.h (ev_neS (a := w) (EvS.h (ev_var rfl)) (EvS.h (ev_c (.str _))))))) (eb_test (EvS.h (ev_I0 (EvS.h (ev_intS (EvS.h (ev_var rfl)) iv (by rw [figS_len]; omega))) (EvS.h (ev_c (.int _))) (.bl _))))) ?_
      have e1 : decide ((⟨#[c]⟩ : Str) = ("0" : Str)) = decide ((figL (TL.tl w)).head? = some 48) := by
        rw [eq_tl, show TL.tl ("0" : Str) = [48] from by decide +kernel, ← tl_figS, ecr]
        exact decide_eq_decide.mpr (by show [c] = [48] ↔ _; simp)
      have e2 : decide (w = ("0" : Str)) = decide (TL.tl w = [48]) := by rw [eq_tl, show TL.tl ("0" : Str) = [48] from by decide +kernel]
      have e3 : decide ((100 : Int) < ((NumText.digitsVal (TL.tl (figS w)) : Nat) : Int)) = !decide (NumText.digitsVal (figL (TL.tl w)) ≤ 100) := by
        rw [tl_figS, ← decide_not]
        exact decide_eq_decide.mpr (by omega)
      rw [e1, e2, e3]
      unfold numOk canL
      rw [decide_eq_true hb.1, decide_eq_true hb.2.1, hall]
      cases decide ((figL (TL.tl w)).head? = some 48) <;> cases decide (TL.tl w = [48]) <;> cases decide (NumText.digitsVal (figL (TL.tl w)) ≤ 100) <;> rfl
    cases hn : numOk w with
    | false =>
      rw [hn] at test2
      have e : numP w = .none := by unfold numP; rw [hn]; rfl
      exact st_seq (st_if test2 (fun _ => st_ret (s := .im .none) (ev_c .non) (by rw [e])) (fun z => nomatch z))
    | true =>
      rw [hn] at test2
      have e : numP w = .int (valL (TL.tl w)) := by unfold numP; rw [hn]; rfl
      have hc : canL (TL.tl w) = true := by
        unfold numOk at hn
        exact (Bool.and_eq_true _ _ ▸ hn).1
      have cn := canL_num hc
      exact st_seq (st_if test2 (fun z => nomatch z) (fun _ => st_next (st_ret (s := .im (.int (valL (TL.tl w)))) (ev_intS (EvS.h (ev_var rfl)) cn.2.1 (by have := cn.2.2.2.2.1; omega)) (by rw [e]))))


abbrev rowNP (r : List Str) : PyData := .list (r.map numP)
def dueD (x : Str) : PyData := if readOk x = true then encT (tabOf x) else .none
theorem noneD_num (w : Str) : noneD (numP w) = !numOk w := by
  unfold numP
  cases numOk w <;> rfl
theorem headD_eq {α : Type} {a : α} {l : List α} (d : α) : (a :: l).headD d = a := rfl

def R_law_in : List Sl → Out → Prop := fun ss o => ∃ x : Str, ss = [.im (.str x)] ∧ x.length ≤ 50000 ∧ o = .ret (.im (dueD x))
def t_law_in (K : PySem.W.Frag) : TS := (tSeq (tAsg (tLc (iList K (tM1 rSplitS (tVar 0) (tC (.str "; ")))) (gName 2) tYes (tLc (iList K (tM1 rSplitS (tVar 2) (tC (.str " ")))) (gName 3) tYes (tCall (spR K R_law_number) [] E0 (tCons (tVar 3) tNil)) [3]) [2]) (gName 1))
    (tSeq (tIfS (tOr (tTest (tOp (rI0 fun i j => .bl (decide (j < i))) (tCB (rLenU K) (tCons (tVar 1) tNil)) (tC (.int 4)))) (tTest (tOp (rI0 fun i j => .bl (decide (j < i))) (tCB (rLenU K) (tCons (tOp (rIx K) (tVar 1) (tC (.int 0))) tNil)) (tC (.int 4))))) (tRet (tC .non)) tNext)
    (tSeq (tFor (iList K (tVar 1)) (gName 2) (tIfS (tOr (tTest (tOp (rNeD K) (tCB (rLenU K) (tCons (tVar 2) tNil)) (tCB (rLenU K) (tCons (tOp (rIx K) (tVar 1) (tC (.int 0))) tNil)))) (tB (tCB (rAny K) (tCons (tLc (iList K (tVar 2)) (gName 4) tYes (tOp rIsNo (tVar 4) (tC .non)) [4]) tNil)))) (tRet (tC .non)) tNext))
    (tRet (tVar 1)))))
theorem len_law_in {ss : List Sl} {o : Out} (h : R_law_in ss o) : ss.length = 1 := by
  first | (obtain ⟨_, rfl, _⟩ := h; rfl) | (obtain ⟨_, _, rfl, _⟩ := h; rfl) | (obtain ⟨_, _, _, rfl, _⟩ := h; rfl) | (obtain ⟨_, _, _, _, rfl, _⟩ := h; rfl) | (obtain ⟨_, _, _, _, _, rfl, _⟩ := h; rfl) | (obtain ⟨_, _, _, _, _, _, rfl, _⟩ := h; rfl)
theorem b_law_in {K : PySem.W.Frag} {E : XK} (ss : List Sl) (o : Out) (h : R_law_in ss o) : St K E (t_law_in K) (params ["_law_text", "_law_found", "_law_row", "_law_word", "_law_worth"] ss) { nx := fun _ => o = .ret (.im .none), rt := fun s => o = .ret s, ex := fun c => o = .exc c } := by
  obtain ⟨x, rfl, hx, rfl⟩ := h
  have sx : Ev K (tM1 rSplitS (tVar 0) (tC (.str "; "))) [.im (.str x), .no, .no, .no, .no] (.list ((Txt.split x SEMI).map .str)) := EvS.freeze (ev_splitS (EvS.h (ev_var rfl)) (EvS.h (ev_c (.str _))) (by omega) (by decide +kernel))
  have ml := split_many (x := x) semi_ne semi_k
  have sl : ∀ y ∈ Txt.split x SEMI, y.length ≤ 50000 := fun y hy => Nat.le_trans (split_le semi_ne semi_k hy) hx
  have sy : ∀ y, y.length ≤ 50000 → Ev K (tM1 rSplitS (tVar 2) (tC (.str " "))) [.im (.str x), .no, .im (.str y), .no, .no] (.list ((Txt.split y BLANK).map .str)) := fun y hy => EvS.freeze (ev_splitS (EvS.h (ev_var rfl)) (EvS.h (ev_c (.str _))) (by omega) (by decide +kernel))
  have wl : ∀ y, y.length ≤ 50000 → ∀ w ∈ Txt.split y BLANK, w.length ≤ 100000 := fun y hy w hw => by
    have := split_le blank_ne blank_k hw
    omega
  have wm : ∀ y : Str, y.length ≤ 50000 → (Txt.split y BLANK).length ≤ 100000 := fun y hy => by
    have := split_many (x := y) blank_ne blank_k
    omega
  refine st_seq (st_asg (s := .ow ((wordsX x).map rowNP)) (EvS.to (ev_lc1 (xs := Txt.split x SEMI) (enc := .str) (vs := [2]) (ei_list sx) (fun y => .list ((Txt.split y BLANK).map numP)) (fun y => [.im (.str x), .no, .im (.str y), .no, .no]) (fun y _ => tg_name (by decide)) (fun y hy => EvS.freeze (ev_lc1 (xs := Txt.split y BLANK) (enc := .str) (vs := [3]) (ei_list (sy y (sl y hy))) numP (fun w => [.im (.str x), .no, .im (.str y), .im (.str w), .no]) (fun w _ => tg_name (by decide)) (fun w hw => ev_call (ss := [.im (.str w)]) (ea_im (ev_var rfl) ea_nil) ⟨w, rfl, wl y (sl y hy) w hw, rfl⟩) (wm y (sl y hy)))) (by omega)) (by unfold wordsX; rw [List.map_map]; rfl)) ?_)
  refine st_freeze 1 rfl ?_
  have lr := law_read x
  have due : readOk x = true → PyData.list ((wordsX x).map rowNP) = encT (tabOf x) := fun h => by
    rw [← due_tab h]
    unfold dueOf
    rw [List.map_map]
    rfl
  have rl : ∀ r ∈ wordsX x, r.length ≤ 100000 := fun r hr => by
    obtain ⟨y, hy, rfl⟩ := List.mem_map.mp hr
    exact wm y (sl y hy)
  have wx : (wordsX x).length ≤ 100000 := by
    unfold wordsX
    rw [List.length_map]
    omega
  have wne := wordsX_ne x
  generalize wordsX x = W at *
  obtain ⟨r0, W', rfl⟩ : ∃ r0 W', W = r0 :: W' := by
    match W, wne with
    | a :: b, _ => exact ⟨a, b, rfl⟩
  have hd : ∀ G : Env, G[1]? = some (.im (.list ((r0 :: W').map rowNP))) → Ev K (tOp (rIx K) (tVar 1) (tC (.int 0))) G (.list (r0.map numP)) := fun G h => ev_ix (a := .list ((r0 :: W').map rowNP)) (ev_var h) (EvS.h (ev_c (.int _))) (.lst (atI_map (f := rowNP) (j := 0) (x := r0) rfl))
  have wxi : ((r0 :: W').map rowNP).length = (r0 :: W').length := List.length_map ..
  have rli : ∀ r : List Str, (r.map numP).length = r.length := fun r => List.length_map ..
  have lw : lawOk (r0 :: W') = (decide ((r0 :: W').length ≤ 4) && (decide (r0.length ≤ 4) && (r0 :: W').all fun r => decide (r.length = r0.length) && r.all numOk)) := rfl
  have bad : ∀ {b : Bool}, readOk x = false → dueD x = .none := fun {b} h => by unfold dueD; rw [h]; rfl
  refine st_seq (st_if (b := !decide ((r0 :: W').length ≤ 4) || !decide (r0.length ≤ 4)) (EvB.to (eb_orN (eb_test (EvS.h (ev_I0 (EvS.h (ev_lenD (EvS.h (ev_var rfl)) .lst)) (EvS.h (ev_c (.int _))) (.bl _)))) (eb_test (EvS.h (ev_I0 (EvS.h (ev_lenD (EvS.h (hd _ rfl)) .lst)) (EvS.h (ev_c (.int _))) (.bl _))))) ?_) (fun z => ?_) (fun z => st_next ?_))
  · rw [wxi, rli, ← decide_not, ← decide_not]
    congr 1
    · exact decide_eq_decide.mpr (by omega)
    · exact decide_eq_decide.mpr (by omega)
  · have hr : readOk x = false := by
      rw [← lr, lw]
      revert z
      cases decide ((r0 :: W').length ≤ 4) <;> cases decide (r0.length ≤ 4) <;> simp
    exact st_ret (s := .im .none) (ev_c .non) (by rw [bad (b := true) hr])
  have hz : decide ((r0 :: W').length ≤ 4) = true ∧ decide (r0.length ≤ 4) = true := by
    revert z
    cases decide ((r0 :: W').length ≤ 4) <;> cases decide (r0.length ≤ 4) <;> simp
  rw [hz.1, hz.2, Bool.true_and, Bool.true_and] at lw
  refine st_seq (st_for (vs := [2]) (xs := r0 :: W') (enc := rowNP) (ei_list (ev_var rfl)) (fun i G' => Le [.im (.str x), .im (.list ((r0 :: W').map rowNP)), .no, .no, .no] G' ∧ ∀ j r, j < i → (r0 :: W')[j]? = some r → (decide (r.length = r0.length) && r.all numOk) = true) ⟨by walk_at "le", fun _ _ z => absurd z (Nat.not_lt_zero _)⟩ (fun i r G' hr hI => ?_) (fun G' hI => ?_))
  · have mr := List.mem_of_getElem? hr
    refine ⟨G'.set 2 (.im (.list (r.map numP))), tg_name (by decide), st_le (G := [.im (.str x), .im (.list ((r0 :: W').map rowNP)), .im (.list (r.map numP)), .no, .no]) (hI.1.set 2 _) ?_⟩
    have lc : Ev K (tLc (iList K (tVar 2)) (gName 4) tYes (tOp rIsNo (tVar 4) (tC .non)) [4]) [.im (.str x), .im (.list ((r0 :: W').map rowNP)), .im (.list (r.map numP)), .no, .no] (.list ((r.map fun w => !numOk w).map .bool)) :=
      EvS.freeze (EvS.to (ev_lc1 (xs := r) (enc := numP) (vs := [4]) (ei_list (ev_var rfl)) (fun w => .bool (!numOk w)) (fun w => [.im (.str x), .im (.list ((r0 :: W').map rowNP)), .im (.list (r.map numP)), .no, .im (numP w)]) (fun w _ => tg_name (by decide)) (fun w _ => Ev.to (ev_isNo (EvS.h (ev_var rfl))) (by rw [noneD_num])) (rl r mr)) (by rw [List.map_map]; rfl))
    refine st_if (b := !(decide (r.length = r0.length) && r.all numOk)) (EvB.to (eb_orN (eb_test (EvS.h (ev_neD (EvS.h (ev_lenD (EvS.h (ev_var rfl)) .lst)) (EvS.h (ev_lenD (EvS.h (hd _ rfl)) .lst)) (shaped_of lay_int (by decide)) (shaped_of lay_int (by decide))))) (eb_B (EvS.h (ev_any (EvS.h lc))))) ?_) (fun z => ?_) (fun z => st_next ?_)
    · rw [eqv_int, rli, rli, Bool.not_and, List.any_map]
      congr 1
      · congr 1
        exact decide_eq_decide.mpr (by omega)
      · rw [List.not_all_eq_any_not]
        rfl
    · have hr2 : readOk x = false := by
        rw [← lr, lw]
        refine Bool.eq_false_iff.mpr fun h => ?_
        have := List.all_eq_true.mp h r mr
        rw [this] at z
        cases z
      exact st_ret (s := .im .none) (ev_c .non) (by rw [bad (b := true) hr2])
    · refine ⟨by walk_at "le", fun j r2 hj hr2 => ?_⟩
      by_cases e : j = i
      · subst e
        rw [hr] at hr2
        cases hr2
        simpa using z
      · exact hI.2 j r2 (by omega) hr2
  · have hr2 : readOk x = true := by
      rw [← lr, lw]
      refine List.all_eq_true.mpr fun r hm => ?_
      obtain ⟨j, hj, rfl⟩ := List.mem_iff_getElem.mp hm
      exact hI.2 j _ hj (List.getElem?_eq_getElem hj)
    refine st_le hI.1 ?_
    exact st_ret (s := .im (.list ((r0 :: W').map rowNP))) (ev_var rfl) (by
      unfold dueD
      rw [hr2, due hr2]
      rfl)


/-- what is refused -/
def refD (d : PyData) : Prop := isStr d = false ∨ ∃ x, d = .str x ∧ x.length ≤ 50000 ∧ readOk x = false

def R_law_asked : List Sl → Out → Prop := fun ss o => ∃ d, ss = [.im d] ∧ ((refD d ∧ o = .ret (.im (.tuple [.str "refused", .none]))) ∨ ∃ x, d = .str x ∧ x.length ≤ 50000 ∧ readOk x = true ∧ o = .ret (.nw (.tuple [.str "made", encT (tabOf x)])))
def t_law_asked (K : PySem.W.Frag) (cCardError : Addr) (cBadTable : Addr) (cBadMixture : Addr) (cNoCard : Addr) (cUnlike : Addr) (cBadText : Addr) : TS := (tSeq (tTryAs K cCardError 1 (fun W => (tRet (tTup (tCons (tC (.str "made")) (tCons (tCallS (spR K (R_read cBadText)) (WE W) (tCons (tVar 0) tNil)) tNil))))) (fun a cls d => (tSeq (tAsg (tOrV (tCB (rIsX K cls d a) (tCons (tVar 1) (tCons (tC (.ref cBadTable)) tNil))) (tOrV (tCB (rIsX K cls d a) (tCons (tVar 1) (tCons (tC (.ref cBadMixture)) tNil))) (tCB (rIsX K cls d a) (tCons (tVar 1) (tCons (tC (.ref cNoCard)) tNil))))) (gName 2))
    (tIfS (tOr (tB (tVar 2)) (tOr (tB (tCB (rIsX K cls d a) (tCons (tVar 1) (tCons (tC (.ref cUnlike)) tNil)))) (tNot (tB (tCB (rIsX K cls d a) (tCons (tVar 1) (tCons (tC (.ref cBadText)) tNil))))))) (tRet (tTup (tCons (tC (.str "other")) (tCons (tC .non) tNil)))) tNext))))
    (tRet (tTup (tCons (tC (.str "refused")) (tCons (tC .non) tNil)))))
theorem len_law_asked {ss : List Sl} {o : Out} (h : R_law_asked ss o) : ss.length = 1 := by
  first | (obtain ⟨_, rfl, _⟩ := h; rfl) | (obtain ⟨_, _, rfl, _⟩ := h; rfl) | (obtain ⟨_, _, _, rfl, _⟩ := h; rfl) | (obtain ⟨_, _, _, _, rfl, _⟩ := h; rfl) | (obtain ⟨_, _, _, _, _, rfl, _⟩ := h; rfl) | (obtain ⟨_, _, _, _, _, _, rfl, _⟩ := h; rfl)
theorem b_law_asked {K : PySem.W.Frag} {E : XK} {cCardError : Addr} {cBadTable : Addr} {cBadMixture : Addr} {cNoCard : Addr} {cUnlike : Addr} {cBadText : Addr} (F : ErrX K cCardError cBadTable cBadMixture cNoCard cUnlike cBadText) (ss : List Sl) (o : Out) (h : R_law_asked ss o) : St K E (t_law_asked K cCardError cBadTable cBadMixture cNoCard cUnlike cBadText) (params ["_law_text", "error", "_law_others"] ss) { nx := fun _ => o = .ret (.im .none), rt := fun s => o = .ret s, ex := fun c => o = .exc c } := by
  obtain ⟨d, rfl, ⟨hr, rfl⟩ | ⟨x, rfl, hx, hr, rfl⟩⟩ := h
  · have hR : R_read cBadText [.im d] (.exc cBadText) := by
      rcases hr with h | ⟨x, rfl, hx, h⟩
      · exact ⟨d, rfl, .inl ⟨h, rfl⟩⟩
      · exact ⟨_, rfl, .inr ⟨x, rfl, hx, .inl ⟨h, rfl⟩⟩⟩
    refine st_seq (st_try (Dx := fun x => x = cBadText) (fun l s hl => ?_) (fun x hx => by rw [hx]; exact F.ex) (fun W => stT_retMadeX (ss := [.im d]) (ea_im (ev_var rfl) ea_nil) hR rfl) (fun a x hx => ?_))
    · match l, hl with
      | 0, hl => cases hl; exact .inr ⟨_, rfl⟩
      | 1, hl | 2, hl => cases hl; exact .inl rfl
      | l + 3, hl => exact nomatch hl
    · subst hx
      refine st_seq (st_asg (s := .im (.bool false)) (Ev.to (d := .bool (false || (false || false))) (ev_orN (EvS.h (ev_isX rfl F.C F.kT)) (EvS.h (ev_orN (EvS.h (ev_isX rfl F.C F.kM)) (EvS.h (ev_isX rfl F.C F.kN))))) rfl) ?_)
      exact st_if (b := false) (EvB.to (a := false || (false || !true)) (eb_orN (eb_B (EvS.h (ev_var rfl))) (eb_orN (eb_B (EvS.h (ev_isX rfl F.C F.kU))) (eb_not (eb_B (EvS.h (ev_isX rfl F.C F.kX)))))) rfl) (fun z => nomatch z) (fun _ => st_next (st_ret (s := .im (.tuple [.str "refused", .none])) (ev_tup (ds := [.str "refused", .none]) (ea_im (ev_c (.str _)) (ea_im (ev_c .non) ea_nil)) (Nat.le_of_ble_eq_true rfl)) rfl))
  · refine st_seq (st_try (Dx := fun _ => False) (fun l s hl => ?_) (fun x hx => hx.elim) (fun W => stT_retMade (ss := [.im (.str x)]) (ea_im (ev_var rfl) ea_nil) ⟨_, rfl, .inr ⟨x, rfl, hx, .inr ⟨hr, rfl⟩⟩⟩ rfl) (fun a x hx => hx.elim))
    match l, hl with
    | 0, hl => cases hl; exact .inr ⟨_, rfl⟩
    | 1, hl | 2, hl => cases hl; exact .inl rfl
    | l + 3, hl => exact nomatch hl

abbrev signsL : List Str := ["0", "1", "9", " ", "-", "+", ";", "a", "\n", "\t", "_", "."]
def signAt (k : Int) : Str := signsL.getD k.toNat ""
theorem signs_at : ∀ k : Nat, k < 12 → atI (signsL.map PyData.str) (k : Int) = some (.str (signAt k)) ∧ (signAt (k : Int)).length ≤ 1
  | 0, _ => ⟨rfl, by decide +kernel⟩
  | 1, _ => ⟨rfl, by decide +kernel⟩
  | 2, _ => ⟨rfl, by decide +kernel⟩
  | 3, _ => ⟨rfl, by decide +kernel⟩
  | 4, _ => ⟨rfl, by decide +kernel⟩
  | 5, _ => ⟨rfl, by decide +kernel⟩
  | 6, _ => ⟨rfl, by decide +kernel⟩
  | 7, _ => ⟨rfl, by decide +kernel⟩
  | 8, _ => ⟨rfl, by decide +kernel⟩
  | 9, _ => ⟨rfl, by decide +kernel⟩
  | 10, _ => ⟨rfl, by decide +kernel⟩
  | 11, _ => ⟨rfl, by decide +kernel⟩
  | k + 12, h => absurd h (by omega)
theorem signs_atI {k : Int} (h : 0 ≤ k ∧ k < 12) : atI (signsL.map PyData.str) k = some (.str (signAt k)) ∧ (signAt k).length ≤ 1 := by
  obtain ⟨n, rfl⟩ := Int.eq_ofNat_of_zero_le h.1
  exact signs_at n (by omega)
theorem app_len (a b : Str) : (a ++ b).length = a.length + b.length := by
  rw [TL.len_tl, TL.tl_append, List.length_append, ← TL.len_tl, ← TL.len_tl]
def midS (c : Int) : Str := if draw c 3 3 = 1 then "" else signAt (draw c 2 12)
theorem midS_at {c : Int} (h : draw c 3 3 ≠ 0) : atI [PyData.str "", .str (signAt (draw c 2 12))] (draw c 3 3 - 1) = some (.str (midS c)) := by
  have := draw_bd c 3 (show (0 : Int) < 3 by decide)
  unfold midS
  have : draw c 3 3 = 1 ∨ draw c 3 3 = 2 := by omega
  rcases this with e | e
  · rw [e]; rfl
  · rw [e]; rfl
theorem midS_len (c : Int) : (midS c).length ≤ 1 := by
  unfold midS
  split
  · decide +kernel
  · exact (signs_atI (draw_bd c 2 (show (0 : Int) < 12 by decide))).2
def otherS (x : Str) (c : Int) : Str :=
  if draw c 3 3 = 0 then cutS x none (some (draw c 1 ((x.length : Nat) + 1))) ++ signAt (draw c 2 12) ++ cutS x (some (draw c 1 ((x.length : Nat) + 1))) none
  else cutS x none (some (draw c 1 ((x.length : Nat) + 1))) ++ midS c ++ cutS x (some (draw c 1 ((x.length : Nat) + 1) + 1)) none
theorem otherS_len {x : Str} {c : Int} (h : x.length ≤ 1000) : (otherS x c).length ≤ 5000 := by
  have l1 := cutS_length x none (some (draw c 1 ((x.length : Nat) + 1)))
  have l2 := cutS_length x (some (draw c 1 ((x.length : Nat) + 1))) none
  have l3 := cutS_length x (some (draw c 1 ((x.length : Nat) + 1) + 1)) none
  have l4 := midS_len c
  have l5 := (signs_atI (draw_bd c 2 (show (0 : Int) < 12 by decide))).2
  unfold otherS
  split <;> rw [app_len, app_len] <;> omega

def R_law_other : List Sl → Out → Prop := fun ss o => ∃ (x : Str) (c : Int), ss = [.im (.str x), .im (.int c)] ∧ x.length ≤ 1000 ∧ o = .ret (.im (.str (otherS x c)))
def t_law_other (K : PySem.W.Frag) : TS := (tSeq (tAsg (tCall (spR K R_law_draw) [] E0 (tCons (tVar 1) (tCons (tC (.int 1)) (tCons (tOp (rI0 fun i j => .int (i + j)) (tCB (rLenU K) (tCons (tVar 0) tNil)) (tC (.int 1))) tNil)))) (gName 2))
    (tSeq (tAsg (tLst (tCons (tC (.str "0")) (tCons (tC (.str "1")) (tCons (tC (.str "9")) (tCons (tC (.str " ")) (tCons (tC (.str "-")) (tCons (tC (.str "+")) (tCons (tC (.str ";")) (tCons (tC (.str "a")) (tCons (tC (.str "\n")) (tCons (tC (.str "\t")) (tCons (tC (.str "_")) (tCons (tC (.str ".")) tNil))))))))))))) (gName 3))
    (tSeq (tAsg (tOp (rIx K) (tVar 3) (tCall (spR K R_law_draw) [] E0 (tCons (tVar 1) (tCons (tC (.int 2)) (tCons (tCB (rLenU K) (tCons (tVar 3) tNil)) tNil))))) (gName 4))
    (tSeq (tAsg (tCall (spR K R_law_draw) [] E0 (tCons (tVar 1) (tCons (tC (.int 3)) (tCons (tC (.int 3)) tNil)))) (gName 5))
    (tSeq (tIfS (tTest (tOp (rEqD K) (tVar 5) (tC (.int 0)))) (tRet (tOp rCatS (tOp rCatS (tSl rSlS (tVar 0) tNoPart (tPart (tVar 2))) (tVar 4)) (tSl rSlS (tVar 0) (tPart (tVar 2)) tNoPart))) tNext)
    (tRet (tOp rCatS (tOp rCatS (tSl rSlS (tVar 0) tNoPart (tPart (tVar 2))) (tOp (rIx K) (tLst (tCons (tC (.str "")) (tCons (tVar 4) tNil))) (tOp (rI0 fun i j => .int (i - j)) (tVar 5) (tC (.int 1))))) (tSl rSlS (tVar 0) (tPart (tOp (rI0 fun i j => .int (i + j)) (tVar 2) (tC (.int 1)))) tNoPart))))))))
theorem len_law_other {ss : List Sl} {o : Out} (h : R_law_other ss o) : ss.length = 2 := by
  first | (obtain ⟨_, rfl, _⟩ := h; rfl) | (obtain ⟨_, _, rfl, _⟩ := h; rfl) | (obtain ⟨_, _, _, rfl, _⟩ := h; rfl) | (obtain ⟨_, _, _, _, rfl, _⟩ := h; rfl) | (obtain ⟨_, _, _, _, _, rfl, _⟩ := h; rfl) | (obtain ⟨_, _, _, _, _, _, rfl, _⟩ := h; rfl)
theorem b_law_other {K : PySem.W.Frag} {E : XK} (ss : List Sl) (o : Out) (h : R_law_other ss o) : St K E (t_law_other K) (params ["_law_text", "_law_cell", "_law_at", "_law_signs", "_law_sign", "_law_way"] ss) { nx := fun _ => o = .ret (.im .none), rt := fun s => o = .ret s, ex := fun c => o = .exc c } := by
  obtain ⟨x, c, rfl, hx, rfl⟩ := h
  have h0 : (0 : Int) < (x.length : Nat) + 1 := by omega
  refine st_seq (st_asg (s := .im (.int (draw c 1 ((x.length : Nat) + 1)))) (ev_call (ss := [.im (.int c), .im (.int 1), .im (.int ((x.length : Nat) + 1))]) (ea_im (ev_var rfl) (ea_im (ev_c (.int _)) (ea_im (ev_I0 (EvS.h (ev_lenS (EvS.h (ev_var rfl)) (by omega))) (EvS.h (ev_c (.int _))) (.int _)) ea_nil))) ⟨_, _, _, rfl, by decide, h0, rfl⟩) ?_)
  refine st_seq (st_asg (s := .ow (signsL.map .str)) (ev_lst (ds := signsL.map .str) (ea_im (ev_c (.str _)) (ea_im (ev_c (.str _)) (ea_im (ev_c (.str _)) (ea_im (ev_c (.str _)) (ea_im (ev_c (.str _)) (ea_im (ev_c (.str _)) (ea_im (ev_c (.str _)) (ea_im (ev_c (.str _)) (ea_im (ev_c (.str _)) (ea_im (ev_c (.str _)) (ea_im (ev_c (.str _)) (ea_im (ev_c (.str _)) (ea_nil))))))))))))) (Nat.le_of_ble_eq_true rfl)) ?_)
  refine st_seq (st_asg (s := .im (.str (signAt (draw c 2 12)))) (ev_ixO rfl (EvS.h (ev_call (ss := [.im (.int c), .im (.int 2), .im (.int 12)]) (s := .im (.int (draw c 2 12))) (ea_im (ev_var rfl) (ea_im (ev_c (.int _)) (ea_im (Ev.to (ev_lenD (eh_own rfl) .lst) rfl) ea_nil))) ⟨_, _, _, rfl, by decide, by decide, rfl⟩)) (signs_atI (draw_bd c 2 (show (0 : Int) < 12 by decide))).1) ?_)
  refine st_seq (st_asg (s := .im (.int (draw c 3 3))) (ev_call (ss := [.im (.int c), .im (.int 3), .im (.int 3)]) (ea_im (ev_var rfl) (ea_im (ev_c (.int _)) (ea_im (ev_c (.int _)) ea_nil))) ⟨_, _, _, rfl, by decide, by decide, rfl⟩) ?_)
  have l1 := cutS_length x none (some (draw c 1 ((x.length : Nat) + 1)))
  have l2 := cutS_length x (some (draw c 1 ((x.length : Nat) + 1))) none
  have l3 := cutS_length x (some (draw c 1 ((x.length : Nat) + 1) + 1)) none
  have l4 := midS_len c
  have l5 := (signs_atI (draw_bd c 2 (show (0 : Int) < 12 by decide))).2
  refine st_seq (st_if (b := decide (draw c 3 3 = 0)) (EvB.to (eb_test (EvS.h (ev_eqD (EvS.h (ev_var rfl)) (EvS.h (ev_c (.int _))) (shaped_of lay_int (by decide)) (shaped_of lay_int (by decide))))) eqv_int) (fun z => ?_) (fun z => st_next ?_))
  · have z := of_decide_eq_true z
    refine st_ret (s := .im (.str (otherS x c))) ?_ rfl
    unfold otherS
    rw [if_pos z]
    exact ev_catS (EvS.h (ev_catS (EvS.h (ev_slS (ev_var rfl) eo_none (eo_some (EvS.h (ev_var rfl))) (by omega))) (EvS.h (ev_var rfl)) (by omega))) (EvS.h (ev_slS (ev_var rfl) (eo_some (EvS.h (ev_var rfl))) eo_none (by omega))) (by rw [app_len]; omega)
  · have z := of_decide_eq_false z
    refine st_ret (s := .im (.str (otherS x c))) ?_ rfl
    unfold otherS
    rw [if_neg z]
    exact ev_catS (EvS.h (ev_catS (EvS.h (ev_slS (ev_var rfl) eo_none (eo_some (EvS.h (ev_var rfl))) (by omega))) (EvS.h (ev_ix (a := .list [.str "", .str (signAt (draw c 2 12))]) (EvS.freeze (ev_lst (ds := [.str "", .str (signAt (draw c 2 12))]) (ea_im (ev_c (.str _)) (ea_im (ev_var rfl) ea_nil)) (Nat.le_of_ble_eq_true rfl))) (EvS.h (ev_I0 (EvS.h (ev_var rfl)) (EvS.h (ev_c (.int _))) (.int _))) (.lst (midS_at z)))) (by omega))) (EvS.h (ev_slS (ev_var rfl) (eo_some (EvS.h (ev_I0 (EvS.h (ev_var rfl)) (EvS.h (ev_c (.int _))) (.int _)))) eo_none (by omega))) (by rw [app_len]; omega)


abbrev txs0 : List Str := ["", " ", ";", "; ", "0", "-0", "00", "100", "101", "-100", "-101", "1;2", "1; 2 3", "1 2; 3", "1  2"]
abbrev txs1 (t : Str) : List Str := [t, (t ++ "; "), (t ++ "\n"), "1 2 3 4 5", "1; 2; 3; 4; 5", (timesS "9" 4000), "1_0", "+1", "1-"]
abbrev txs2 : List Str := ["1 2 ", "--1"]
def txsA (t : Str) : List Str := txs0 ++ txs1 t ++ txs2
theorem txs0_le : ∀ y ∈ txs0, y.length ≤ 5000 := by decide +kernel
theorem txs2_le : ∀ y ∈ txs2, y.length ≤ 5000 := by decide +kernel
theorem txs1_le {t : Str} (h : t.length ≤ 200) : ∀ y ∈ txs1 t, y.length ≤ 5000 := fun y hy => by
  rcases List.mem_cons.mp hy with rfl | hy
  · omega
  rcases List.mem_cons.mp hy with rfl | hy
  · rw [app_len]; exact Nat.le_trans (Nat.add_le_add_right h _) (by decide +kernel)
  rcases List.mem_cons.mp hy with rfl | hy
  · rw [app_len]; exact Nat.le_trans (Nat.add_le_add_right h _) (by decide +kernel)
  revert hy
  generalize hz : timesS "9" 4000 = z
  have zl : z.length = 4000 := by rw [← hz, times_len]; rfl
  intro hy
  simp only [List.mem_cons, List.not_mem_nil, or_false] at hy
  rcases hy with rfl | rfl | rfl | rfl | rfl | rfl
  all_goals first
    | (rw [zl]; omega)
    | decide +kernel
theorem txsA_len (t : Str) : (txsA t).length = 26 := rfl
theorem txsA_le {t : Str} (h : t.length ≤ 200) : ∀ y ∈ txsA t, y.length ≤ 5000 := fun y hy => by
  unfold txsA at hy
  rw [List.mem_append, List.mem_append] at hy
  rcases hy with (hy | hy) | hy
  · exact txs0_le y hy
  · exact txs1_le h y hy
  · exact txs2_le y hy
abbrev badsL : List PyData := [.none, .int 5, .list [.str "0"], .list [.list [.int 0]], .bool true]
theorem bads_at : ∀ k : Nat, k < 5 → ∃ d, atI badsL (k : Int) = some d ∧ isStr d = false
  | 0, _ => ⟨_, rfl, rfl⟩
  | 1, _ => ⟨_, rfl, rfl⟩
  | 2, _ => ⟨_, rfl, rfl⟩
  | 3, _ => ⟨_, rfl, rfl⟩
  | 4, _ => ⟨_, rfl, rfl⟩
  | k + 5, h => absurd h (by omega)

def R_law : List Sl → Out → Prop := fun ss o => ∃ ns : List Int, ss = [.im (encR ns)] ∧ o = .ret (.im (.bool true))
def t_law (K : PySem.W.Frag) (cBadTable : Addr) (cBadText : Addr) : TS := (tSeq (tAsg (tCall (spR K R_law_shape) [] E0 (tCons (tCall (spR K R_law_cell_at) [] E0 (tCons (tVar 0) (tCons (tC (.int 0)) tNil))) tNil)) (gTup K 2 (gCons (gName 1) (gCons (gName 2) gNil))))
    (tSeq (tAsg (tCall (spR K R_law_table) [] E0 (tCons (tCall (spR K R_law_cell_at) [] E0 (tCons (tVar 0) (tCons (tC (.int 1)) tNil))) (tCons (tVar 1) (tCons (tVar 2) tNil)))) (gName 3))
    (tSeq (tAsg (tLc (iList K (tVar 3)) (gName 13) tYes (tCB (rListU K) (tCons (tVar 13) tNil)) [13]) (gName 4))
    (tSeq (tAsg (tM1 (rJoinS K) (tC (.str "; ")) (tLc (iList K (tVar 3)) (gName 13) tYes (tM1 (rJoinS K) (tC (.str " ")) (tLc (iList K (tVar 13)) (gName 14) tYes (tCB rStrU (tCons (tVar 14) tNil)) [14])) [13])) (gName 5))
    (tSeq (tIfS (tOr (tTest (tOp rNeS (tCall (spR K (R_written cBadTable)) [] E0 (tCons (tVar 4) tNil)) (tVar 5))) (tTest (tOp (rNeD K) (tVar 4) (tVar 3)))) (tRet (tC (.bl false))) tNext)
    (tSeq (tAsg (tLst (tCons (tC (.str "")) (tCons (tC (.str " ")) (tCons (tC (.str ";")) (tCons (tC (.str "; ")) (tCons (tC (.str "0")) (tCons (tC (.str "-0")) (tCons (tC (.str "00")) (tCons (tC (.str "100")) (tCons (tC (.str "101")) (tCons (tC (.str "-100")) (tCons (tC (.str "-101")) (tCons (tC (.str "1;2")) (tCons (tC (.str "1; 2 3")) (tCons (tC (.str "1 2; 3")) (tCons (tC (.str "1  2")) tNil)))))))))))))))) (gName 6))
    (tSeq (tAsg (tOp rCat (tVar 6) (tLst (tCons (tVar 5) (tCons (tOp rCatS (tVar 5) (tC (.str "; "))) (tCons (tOp rCatS (tVar 5) (tC (.str "\n"))) (tCons (tC (.str "1 2 3 4 5")) (tCons (tC (.str "1; 2; 3; 4; 5")) (tCons (tOp rMulS (tC (.str "9")) (tC (.int 4000))) (tCons (tC (.str "1_0")) (tCons (tC (.str "+1")) (tCons (tC (.str "1-")) tNil))))))))))) (gName 6))
    (tSeq (tAsg (tOp rCat (tVar 6) (tLst (tCons (tC (.str "1 2 ")) (tCons (tC (.str "--1")) tNil)))) (gName 6))
    (tSeq (tFor (iRng1 (tCons (tC (.int 5)) tNil)) (gName 7) (tDrop (tBM K "list" rAppend (tVar 6) (tCons (tCall (spR K R_law_other) [] E0 (tCons (tVar 5) (tCons (tOp (rI0 fun i j => .int (i + j)) (tCall (spR K R_law_cell_at) [] E0 (tCons (tVar 0) (tCons (tOp (rI0 fun i j => .int (i + j)) (tC (.int 2)) (tVar 7)) tNil))) (tOp (rI CMulW fun i j => .int (i * j)) (tC (.int 31)) (tVar 7))) tNil))) tNil))))
    (tSeq (tFor (iList K (tVar 6)) (gName 8) (tSeq (tAsg (tCall (spR K R_law_in) [] E0 (tCons (tVar 8) tNil)) (gName 9))
    (tSeq (tAsg (tCall (spR K R_law_asked) [] E0 (tCons (tVar 8) tNil)) (gTup K 2 (gCons (gName 10) (gCons (gName 11) gNil))))
    (tSeq (tIfS (tTest (tOp rNeS (tVar 10) (tOp (rIx K) (tLst (tCons (tC (.str "made")) (tCons (tC (.str "refused")) tNil))) (tCB rIntU (tCons (tOp rIsNo (tVar 9) (tC .non)) tNil))))) (tRet (tC (.bl false))) tNext)
    (tSeq (tIfS (tAnd (tTest (tOp rNotNo (tVar 9) (tC .non))) (tOr (tNot (tB (tCB (rIsi K) (tCons (tVar 11) (tCons (tC (.ty "list")) tNil))))) (tOr (tTest (tOp (rNeD K) (tVar 11) (tVar 9))) (tTest (tOp rNeS (tCall (spR K (R_written cBadTable)) [] E0 (tCons (tVar 11) tNil)) (tVar 8)))))) (tRet (tC (.bl false))) tNext)
    (tIfS (tTest (tOp rNotNo (tVar 9) (tC .non))) (tSeq (tDrop (tBM K "list" rAppend (tOp (rIx K) (tVar 11) (tC (.int 0))) (tCons (tC (.int 0)) tNil)))
    (tIfS (tTest (tOp (rNeD K) (tCall (spR K (R_read cBadText)) [] E0 (tCons (tVar 8) tNil)) (tVar 9))) (tRet (tC (.bl false))) tNext)) tNext))))))
    (tSeq (tAsg (tOp (rIx K) (tLst (tCons (tC .non) (tCons (tC (.int 5)) (tCons (tLst (tCons (tC (.str "0")) tNil)) (tCons (tLst (tCons (tLst (tCons (tC (.int 0)) tNil)) tNil)) (tCons (tC (.bl true)) tNil)))))) (tOp (rI (fun _ j => 0 < j) fun i j => .int (i % j)) (tCall (spR K R_law_cell_at) [] E0 (tCons (tVar 0) (tCons (tC (.int 7)) tNil))) (tC (.int 5)))) (gName 12))
    (tRet (tOp rEqS (tOp (rIx K) (tCall (spR K R_law_asked) [] E0 (tCons (tVar 12) tNil)) (tC (.int 0))) (tC (.str "refused")))))))))))))))
theorem len_law {ss : List Sl} {o : Out} (h : R_law ss o) : ss.length = 1 := by
  first | (obtain ⟨_, rfl, _⟩ := h; rfl) | (obtain ⟨_, _, rfl, _⟩ := h; rfl) | (obtain ⟨_, _, _, rfl, _⟩ := h; rfl) | (obtain ⟨_, _, _, _, rfl, _⟩ := h; rfl) | (obtain ⟨_, _, _, _, _, rfl, _⟩ := h; rfl) | (obtain ⟨_, _, _, _, _, _, rfl, _⟩ := h; rfl)
theorem b_law {K : PySem.W.Frag} {E : XK} {cBadTable : Addr} {cBadText : Addr} (ss : List Sl) (o : Out) (h : R_law ss o) : St K E (t_law K cBadTable cBadText) (params ["_law_script", "_law_rows", "_law_columns", "_law_table_here", "_law_handed", "_law_text", "_law_texts", "_law_k", "_law_some", "_law_due", "_law_came", "_law_found", "_law_bad", "_law_row", "_law_worth"] ss) { nx := fun _ => o = .ret (.im .none), rt := fun s => o = .ret s, ex := fun c => o = .exc c } := by
  obtain ⟨ns, rfl, rfl⟩ := h
  have cell : ∀ (G : Env) (k : Nat), G[0]? = some (.im (encR ns)) → Ev K (tCall (spR K R_law_cell_at) [] E0 (tCons (tVar 0) (tCons (tC (.int (k : Int))) tNil))) G (.int (cellAt ns k)) := fun G k h => ev_call (ea_im (ev_var h) (ea_im (ev_c (.int _)) ea_nil)) ⟨_, _, rfl, rfl⟩
  have br := shR_bd (cellAt ns 0)
  have bc := shC_bd (cellAt ns 0)
  refine st_seq (st_asgT (vs := [1, 2]) (ev_call (ss := [.im (.int (cellAt ns 0))]) (ea_im (cell _ 0 rfl) ea_nil) ⟨_, rfl, rfl⟩) (tg_tup (tgs_cons (tg_name (by decide)) (tgs_cons (tg_name (by decide)) tgs_nil)) rfl) ?_)
  have tb := lawTable_tab (cellAt ns 1) br bc
  refine st_seq (st_asg (s := .im (encT (lawTable (cellAt ns 1) (shR (cellAt ns 0)) (shC (cellAt ns 0))))) (ev_call (ss := [.im (.int (cellAt ns 1)), .im (.int (shR (cellAt ns 0) : Nat)), .im (.int (shC (cellAt ns 0) : Nat))]) (ea_im (cell _ 1 rfl) (ea_im (ev_var rfl) (ea_im (ev_var rfl) ea_nil))) ⟨_, _, _, rfl, br, bc, .inr rfl⟩) ?_)
  generalize lawTable (cellAt ns 1) (shR (cellAt ns 0)) (shC (cellAt ns 0)) = T at *
  generalize shR (cellAt ns 0) = R at *
  generalize shC (cellAt ns 0) = C at *
  obtain ⟨tb, tl⟩ := tb
  refine st_seq (st_asg (s := .ow (T.map encR)) (ev_lc1 (xs := T) (enc := encR) (vs := [13]) (ei_list (ev_var rfl)) encR (fun r => [.im (encR ns), .im (.int (R : Nat)), .im (.int (C : Nat)), .im (encT T), .no, .no, .no, .no, .no, .no, .no, .no, .no, .im (encR r), .no]) (fun r _ => tg_name (by decide)) (fun r _ => EvS.freeze (ev_listOf (ev_var rfl))) (by have := tb.r4; omega)) ?_)
  refine st_freeze 4 rfl ?_
  refine st_seq (st_asg (s := .im (.str (textT T))) (ev_text (n := C) tb rfl (fun _ => rfl) (fun _ _ => rfl)) ?_)
  refine st_seq (st_if (b := false) (EvB.to (eb_orN (eb_test (EvS.h (ev_neS (a := textT T) (b := textT T) (EvS.h (ev_call (ss := [.im (encT T)]) (ea_im (ev_var rfl) ea_nil) ⟨_, _, rfl, tb, rfl⟩)) (EvS.h (ev_var rfl))))) (eb_test (EvS.h (ev_neD (EvS.h (ev_var rfl)) (EvS.h (ev_var rfl)) (shaped_of lay_T (by decide)) (shaped_of lay_T (by decide)))))) (by rw [eqv_T]; simp)) (fun z => nomatch z) (fun _ => st_next ?_))
  have ht := textT_le tb
  generalize ett : textT T = t at *
  refine st_seq (st_asg (s := .ow (txs0.map .str)) (ev_lst (ds := txs0.map .str) (ea_im (ev_c (.str _)) (ea_im (ev_c (.str _)) (ea_im (ev_c (.str _)) (ea_im (ev_c (.str _)) (ea_im (ev_c (.str _)) (ea_im (ev_c (.str _)) (ea_im (ev_c (.str _)) (ea_im (ev_c (.str _)) (ea_im (ev_c (.str _)) (ea_im (ev_c (.str _)) (ea_im (ev_c (.str _)) (ea_im (ev_c (.str _)) (ea_im (ev_c (.str _)) (ea_im (ev_c (.str _)) (ea_im (ev_c (.str _)) (ea_nil)))))))))))))))) (Nat.le_of_ble_eq_true rfl)) ?_)
  refine st_seq (st_asg (s := .ow ((txs0 ++ txs1 t).map .str)) (EvS.to (ev_catH (as := txs0.map .str) (bs := (txs1 t).map .str) (held_own rfl) (EvS.held (ev_lst (ds := (txs1 t).map .str) (ea_im (ev_var rfl) (ea_im (ev_catS (EvS.h (ev_var rfl)) (EvS.h (ev_c (.str _))) (Nat.le_trans (Nat.add_le_add_right ht _) (by decide +kernel))) (ea_im (ev_catS (EvS.h (ev_var rfl)) (EvS.h (ev_c (.str _))) (Nat.le_trans (Nat.add_le_add_right ht _) (by decide +kernel))) (ea_im (ev_c (.str _)) (ea_im (ev_c (.str _)) (ea_im (ev_mulS (EvS.h (ev_c (.str _))) (EvS.h (ev_c (.int _))) (by decide) (by decide) (by decide +kernel) (by decide +kernel)) (ea_im (ev_c (.str _)) (ea_im (ev_c (.str _)) (ea_im (ev_c (.str _)) (ea_nil)))))))))) (Nat.le_of_ble_eq_true rfl))) (Nat.le_of_ble_eq_true rfl)) (by rw [← List.map_append])) ?_)
  refine st_seq (st_asg (s := .ow ((txsA t).map .str)) (EvS.to (ev_catH (as := (txs0 ++ txs1 t).map .str) (bs := txs2.map .str) (held_own rfl) (EvS.held (ev_lst (ds := txs2.map .str) (ea_im (ev_c (.str _)) (ea_im (ev_c (.str _)) (ea_nil))) (Nat.le_of_ble_eq_true rfl))) (Nat.le_of_ble_eq_true rfl)) (by rw [← List.map_append]; rfl)) ?_)
  refine st_seq (st_for (vs := [7]) (xs := List.range 5) (enc := fun k : Nat => .int k) (ei_range (n := 5) (EvS.h (ev_c (.int _))) (by decide)) (fun i G' => ∃ ys : List Str, ys.length = 26 + i ∧ (∀ y ∈ ys, y.length ≤ 5000) ∧ Le [.im (encR ns), .im (.int (R : Nat)), .im (.int (C : Nat)), .im (encT T), .im (encT T), .im (.str t), .ow (ys.map .str), .no, .no, .no, .no, .no, .no, .no, .no] G') ⟨txsA t, txsA_len t, txsA_le ht, by walk_at "le"⟩ (fun i k G' hk hI => ?_) (fun G' hI => ?_))
  · obtain ⟨ys, yl, yb, hle⟩ := hI
    have hi : i < 5 := by
      have := (List.getElem?_eq_some_iff.mp hk).1
      rwa [List.length_range] at this
    have hk := List.mem_range.mp (List.mem_of_getElem? hk)
    refine ⟨G'.set 7 (.im (.int (k : Nat))), tg_name (by decide), st_le (hle.set 7 (.im (.int (k : Nat)))) ?_⟩
    refine st_app (ds := ys.map .str) rfl (ev_call (ss := [.im (.str t), .im (.int (cellAt ns (2 + k) + 31 * (k : Int)))]) (ea_im (ev_var rfl) (ea_im (ev_I0 (EvS.h (ev_call (ss := [.im (encR ns), .im (.int ((2 + k : Nat) : Int))]) (ea_im (ev_var rfl) (ea_im (Ev.to (ev_I0 (EvS.h (ev_c (.int _))) (EvS.h (ev_var rfl)) (.int _)) (by rw [Int.natCast_add]; rfl)) ea_nil)) ⟨_, _, rfl, rfl⟩)) (EvS.h (ev_I (EvS.h (ev_c (.int _))) (EvS.h (ev_var rfl)) (.int _) (cm (by omega) (by omega)))) (.int _)) ea_nil)) ⟨t, _, rfl, by omega, rfl⟩) (by rw [List.length_map]; omega) ⟨ys ++ [otherS t (cellAt ns (2 + k) + 31 * (k : Int))], by rw [List.length_append]; simp; omega, fun y hy => ?_, ?_⟩
    · rcases List.mem_append.mp hy with hy | hy
      · exact yb y hy
      · rw [List.mem_singleton.mp hy]
        exact otherS_len (by omega)
    · rw [List.map_append]
      walk_at "le"
  obtain ⟨ys, yl, yb, hle⟩ := hI
  refine st_le hle ?_
  refine st_freeze 6 rfl ?_
  rw [List.length_range] at yl
  refine st_seq (st_forG (vs := [8]) (xs := ys) (enc := .str) (ei_list (ev_var rfl)) (fun _ => [.im (encR ns), .im (.int (R : Nat)), .im (.int (C : Nat)), .im (encT T), .im (encT T), .im (.str t), .im (.list (ys.map .str)), .no, .no, .no, .no, .no, .no, .no, .no]) (by walk_at "le") (fun i x hx => ?_) (fun G' hle => ?_))
  · have xl := yb x (List.mem_of_getElem? hx)
    refine ⟨_, tg_name (by decide), ?_⟩
    refine st_seq (st_asg (s := .im (dueD x)) (ev_call (ss := [.im (.str x)]) (ea_im (ev_var rfl) ea_nil) ⟨x, rfl, by omega, rfl⟩) ?_)
    cases hr : readOk x with
    | true =>
      have ed : dueD x = encT (tabOf x) := by unfold dueD; rw [hr]; rfl
      rw [ed]
      have hc : canX x = true := by
        unfold readOk at hr
        exact (Bool.and_eq_true _ _ ▸ hr).1
      have htab : tabOk (encT (tabOf x)) = true := by
        unfold readOk at hr
        exact (Bool.and_eq_true _ _ ▸ hr).2
      obtain ⟨u, n, eu, tu⟩ := tabOk_tab htab
      have eu := encT_inj eu
      rw [← eu] at tu
      have tback := text_back hc
      generalize eU : tabOf x = U at *
      have call : ∀ G : Env, G[8]? = some (.im (.str x)) → EvA K (tCons (tVar 8) tNil) G [.im (.str x)] := fun G h => ea_im (ev_var h) ea_nil
      refine st_seq (st_asgNw2 (x := "made") (d := encT U) (by decide) (ev_call (ss := [.im (.str x)]) (call _ rfl) ⟨_, rfl, .inr ⟨x, rfl, by omega, hr, by rw [← eU]⟩⟩) ?_)
      have pick : EvH K (tOp (rIx K) (tLst (tCons (tC (.str "made")) (tCons (tC (.str "refused")) tNil))) (tCB rIntU (tCons (tOp rIsNo (tVar 9) (tC .non)) tNil))) [.im (encR ns), .im (.int (R : Nat)), .im (.int (C : Nat)), .im (encT T), .im (encT T), .im (.str t), .im (.list (ys.map .str)), .no, .im (.str x), .im (encT U), .im (.str "made"), .nw (encT U), .no, .no, .no] (.str "made") :=
        EvS.h (ev_ix (a := .list [.str "made", .str "refused"]) (i := 0) (EvS.freeze (ev_lst (ds := [.str "made", .str "refused"]) (ea_im (ev_c (.str _)) (ea_im (ev_c (.str _)) ea_nil)) (Nat.le_of_ble_eq_true rfl))) (EvS.h (Ev.to (ev_intB (b := false) (EvS.h (Ev.to (ev_isNo (d := encT U) (EvS.h (ev_var rfl))) rfl))) rfl)) (.lst rfl))
      refine st_seq (st_if (b := false) (EvB.to (eb_test (EvS.h (ev_neS (a := "made") (b := "made") (EvS.h (ev_var rfl)) pick))) (by rw [decide_eq_true rfl]; rfl)) (fun z => nomatch z) (fun _ => st_next ?_))
      refine st_seq (st_if (b := false) (eb_borrow (EvB.to (a := !noneD (encT U) && (!true || (!(PyData.eqv (encT U) (encT U)) || !decide (textT U = x)))) ?_ (by rw [eqv_T, tback]; simp))) (fun z => nomatch z) (fun _ => st_next ?_))
      · show EvB K _ [.im (encR ns), .im (.int (R : Nat)), .im (.int (C : Nat)), .im (encT T), .im (encT T), .im (.str t), .im (.list (ys.map .str)), .no, .im (.str x), .im (encT U), .im (.str "made"), .im (encT U), .no, .no, .no] _
        exact eb_andN (eb_test (EvS.h (ev_notNo (EvS.h (ev_var rfl))))) (eb_orN (eb_not (eb_B (EvS.h (ev_isi (EvS.h (ev_var rfl)) rfl)))) (eb_orN (eb_test (EvS.h (ev_neD (EvS.h (ev_var rfl)) (EvS.h (ev_var rfl)) (shaped_of lay_T (by decide)) (shaped_of lay_T (by decide))))) (eb_test (EvS.h (ev_neS (EvS.h (ev_call (s := .im (.str (textT U))) (ss := [.im (encT U)]) (ea_im (ev_var rfl) ea_nil) ⟨_, _, rfl, tu, rfl⟩)) (EvS.h (ev_var rfl)))))))
      refine st_if (b := true) (eb_test (EvS.h (Ev.to (ev_notNo (d := encT U) (EvS.h (ev_var rfl))) rfl))) (fun _ => ?_) (fun z => nomatch z)
      obtain ⟨r0, U', eU', hr0⟩ := tu.toRect.head
      refine st_seq (st_appItem (j := 11) (ds := U.map encR) (es := r0.map .int) (k := 0) (d := .int 0) rfl (atI_map (j := 0) (by rw [eU']; rfl)) (ev_c (.int _)) (ev_c (.int _)) (by rw [List.length_map]; have := tu.c4; omega) ?_)
      refine st_if (b := false) (EvB.to (eb_test (EvS.h (ev_neD (EvS.h (EvS.freezeN (ev_call (s := .nw (encT U)) (ss := [.im (.str x)]) (call _ rfl) ⟨_, rfl, .inr ⟨x, rfl, by omega, .inr ⟨hr, by rw [← eU]⟩⟩⟩))) (EvS.h (ev_var rfl)) (shaped_of lay_T (by decide)) (shaped_of lay_T (by decide))))) (by rw [eqv_T]; simp)) (fun z => nomatch z) (fun _ => st_next (by walk_at "le"))
    | false =>
      have ed : dueD x = .none := by unfold dueD; rw [hr]; rfl
      rw [ed]
      refine st_seq (st_asgT (vs := [10, 11]) (ev_call (s := .im (.tuple [.str "refused", .none])) (ss := [.im (.str x)]) (ea_im (ev_var rfl) ea_nil) ⟨_, rfl, .inl ⟨.inr ⟨x, rfl, by omega, hr⟩, rfl⟩⟩) (tg_tup (tgs_cons (tg_name (by decide)) (tgs_cons (tg_name (by decide)) tgs_nil)) rfl) ?_)
      have pick : EvH K (tOp (rIx K) (tLst (tCons (tC (.str "made")) (tCons (tC (.str "refused")) tNil))) (tCB rIntU (tCons (tOp rIsNo (tVar 9) (tC .non)) tNil))) [.im (encR ns), .im (.int (R : Nat)), .im (.int (C : Nat)), .im (encT T), .im (encT T), .im (.str t), .im (.list (ys.map .str)), .no, .im (.str x), .im .none, .im (.str "refused"), .im .none, .no, .no, .no] (.str "refused") :=
        EvS.h (ev_ix (a := .list [.str "made", .str "refused"]) (i := 1) (EvS.freeze (ev_lst (ds := [.str "made", .str "refused"]) (ea_im (ev_c (.str _)) (ea_im (ev_c (.str _)) ea_nil)) (Nat.le_of_ble_eq_true rfl))) (EvS.h (Ev.to (ev_intB (b := true) (EvS.h (Ev.to (ev_isNo (d := .none) (EvS.h (ev_var rfl))) rfl))) rfl)) (.lst rfl))
      refine st_seq (st_if (b := false) (EvB.to (eb_test (EvS.h (ev_neS (a := "refused") (b := "refused") (EvS.h (ev_var rfl)) pick))) (by rw [decide_eq_true rfl]; rfl)) (fun z => nomatch z) (fun _ => st_next ?_))
      have nn : EvB K (tTest (tOp rNotNo (tVar 9) (tC .non))) [.im (encR ns), .im (.int (R : Nat)), .im (.int (C : Nat)), .im (encT T), .im (encT T), .im (.str t), .im (.list (ys.map .str)), .no, .im (.str x), .im .none, .im (.str "refused"), .im .none, .no, .no, .no] false := eb_test (EvS.h (Ev.to (ev_notNo (d := .none) (EvS.h (ev_var rfl))) rfl))
      refine st_seq (st_if (b := false) (EvB.to (eb_and (b := false) nn (fun z => nomatch z)) rfl) (fun z => nomatch z) (fun _ => st_next ?_))
      exact st_if nn (fun z => nomatch z) (fun _ => st_next (by walk_at "le"))
  refine st_le hle ?_
  have em : (0 : Int) ≤ cellAt ns 7 % 5 ∧ cellAt ns 7 % 5 < 5 := by omega
  obtain ⟨k, ek⟩ := Int.eq_ofNat_of_zero_le em.1
  obtain ⟨d, hd, hs⟩ := bads_at k (by omega)
  rw [← ek] at hd
  refine st_seq (st_asg (s := .im d) (ev_ix (a := .list badsL) (EvS.freeze (ev_lst (ds := badsL) (ea_im (ev_c .non) (ea_im (ev_c (.int _)) (ea_im (EvS.freeze (ev_lst (ds := [.str "0"]) (ea_im (ev_c (.str _)) ea_nil) (Nat.le_of_ble_eq_true rfl))) (ea_im (EvS.freeze (ev_lst (ds := [.list [.int 0]]) (ea_im (EvS.freeze (ev_lst (ds := [.int 0]) (ea_im (ev_c (.int _)) ea_nil) (Nat.le_of_ble_eq_true rfl))) ea_nil) (Nat.le_of_ble_eq_true rfl))) (ea_im (ev_c (.bl _)) ea_nil))))) (Nat.le_of_ble_eq_true rfl))) (EvS.h (ev_I (EvS.h (cell _ 7 rfl)) (EvS.h (ev_c (.int _))) (.int _) (by decide))) (.lst hd)) ?_)
  exact st_ret (s := .im (.bool true)) (Ev.to (ev_eqS (a := "refused") (b := "refused") (EvS.h (ev_ix (a := .tuple [.str "refused", .none]) (i := 0) (ev_call (s := .im (.tuple [.str "refused", .none])) (ss := [.im d]) (ea_im (ev_var rfl) ea_nil) ⟨_, rfl, .inl ⟨.inl hs, rfl⟩⟩) (EvS.h (ev_c (.int _))) (.tup rfl))) (EvS.h (ev_c (.str _)))) (by rw [decide_eq_true rfl])) rfl

theorem law_true (ns : List Int) (hl : ns.length ≤ 63) : R_law [.im (encR ns)] (.ret (.im (.bool true))) := ⟨ns, rfl, rfl⟩
open PySem L2
/-! ### the text of this law, def by def -/
def topS (i : Nat) : Stmt := PySem.Challenge.pw_unseen_k13_texts.main.body.getD i (.Pass ⟨0, 0, 0, 0⟩)
structure Txt (K : PySem.W.Frag) (mg : Str → Option Value) (cCardError : Addr) (cBadTable : Addr) (cBadMixture : Addr) (cNoCard : Addr) (cUnlike : Addr) (cBadText : Addr) : Prop where
  all_ : mg "all" = none
  any_ : mg "any" = none
  bool_ : mg "bool" = none
  int_ : mg "int" = none
  isinstance_ : mg "isinstance" = none
  len_ : mg "len" = none
  list_ : mg "list" = none
  range_ : mg "range" = none
  str_ : mg "str" = none
  zip_ : mg "zip" = none
  c_FIGURES : ∃ t, mg "FIGURES" = some (.str "0123456789" t)
  c_MOST : ∃ t, mg "MOST" = some (.int 4 t)
  c_WORTH : ∃ t, mg "WORTH" = some (.int 100 t)
  e_CardError : ErrC K mg "CardError" cCardError
  e_BadTable : ErrC K mg "BadTable" cBadTable
  e_BadMixture : ErrC K mg "BadMixture" cBadMixture
  e_NoCard : ErrC K mg "NoCard" cNoCard
  e_Unlike : ErrC K mg "Unlike" cUnlike
  e_BadText : ErrC K mg "BadText" cBadText
  f_BadText : ErrX K cCardError cBadTable cBadMixture cNoCard cUnlike cBadText
  f_BadTable : ExF K cBadTable cBadTable
abbrev s_law_shape : Stmt := topS 21
theorem sc_law_shape : FnScope ["_law_cell"] ["_law_cell"] (defScope s_law_shape) := ⟨rfl, rfl, rfl, by decide +kernel, rfl, by decide +kernel, by decide +kernel⟩
abbrev s_law_cell_at : Stmt := topS 18
theorem sc_law_cell_at : FnScope ["_law_script", "_law_k"] ["_law_script", "_law_k"] (defScope s_law_cell_at) := ⟨rfl, rfl, rfl, by decide +kernel, rfl, by decide +kernel, by decide +kernel⟩
abbrev s_law_draw : Stmt := topS 19
theorem sc_law_draw : FnScope ["_law_cell", "_law_k", "_law_many", "_law_mixed"] ["_law_cell", "_law_k", "_law_many"] (defScope s_law_draw) := ⟨rfl, rfl, rfl, by decide +kernel, rfl, by decide +kernel, by decide +kernel⟩
abbrev s_law_table : Stmt := topS 20
theorem sc_law_table : FnScope ["_law_cell", "_law_rows", "_law_columns", "_law_most", "_law_found", "_law_row", "_law_kind", "_law_less", "_law_k", "_law_one", "_law_two"] ["_law_cell", "_law_rows", "_law_columns"] (defScope s_law_table) := ⟨rfl, rfl, rfl, by decide +kernel, rfl, by decide +kernel, by decide +kernel⟩
abbrev s_is_whole : Stmt := topS 10
theorem sc_is_whole : FnScope ["thing"] ["thing"] (defScope s_is_whole) := ⟨rfl, rfl, rfl, by decide +kernel, rfl, by decide +kernel, by decide +kernel⟩
abbrev s_asked_table : Stmt := topS 11
theorem sc_asked_table : FnScope ["table", "row", "worth"] ["table"] (defScope s_asked_table) := ⟨rfl, rfl, rfl, by decide +kernel, rfl, by decide +kernel, by decide +kernel⟩
abbrev s_written : Stmt := topS 14
theorem sc_written : FnScope ["table", "row", "worth"] ["table"] (defScope s_written) := ⟨rfl, rfl, rfl, by decide +kernel, rfl, by decide +kernel, by decide +kernel⟩
abbrev s_law_other : Stmt := topS 25
theorem sc_law_other : FnScope ["_law_text", "_law_cell", "_law_at", "_law_signs", "_law_sign", "_law_way"] ["_law_text", "_law_cell"] (defScope s_law_other) := ⟨rfl, rfl, rfl, by decide +kernel, rfl, by decide +kernel, by decide +kernel⟩
abbrev s_law_number : Stmt := topS 22
theorem sc_law_number : FnScope ["_law_word", "_law_figures", "_law_sign"] ["_law_word"] (defScope s_law_number) := ⟨rfl, rfl, rfl, by decide +kernel, rfl, by decide +kernel, by decide +kernel⟩
abbrev s_law_in : Stmt := topS 23
theorem sc_law_in : FnScope ["_law_text", "_law_found", "_law_row", "_law_word", "_law_worth"] ["_law_text"] (defScope s_law_in) := ⟨rfl, rfl, rfl, by decide +kernel, rfl, by decide +kernel, by decide +kernel⟩
abbrev s_number_in : Stmt := topS 15
theorem sc_number_in : FnScope ["word", "figures"] ["word"] (defScope s_number_in) := ⟨rfl, rfl, rfl, by decide +kernel, rfl, by decide +kernel, by decide +kernel⟩
abbrev s_read : Stmt := topS 16
theorem sc_read : FnScope ["text", "table", "row", "word"] ["text"] (defScope s_read) := ⟨rfl, rfl, rfl, by decide +kernel, rfl, by decide +kernel, by decide +kernel⟩
abbrev s_law_asked : Stmt := topS 24
theorem sc_law_asked : FnScope ["_law_text", "error", "_law_others"] ["_law_text"] (defScope s_law_asked) := ⟨rfl, rfl, rfl, by decide +kernel, rfl, by decide +kernel, by decide +kernel⟩
abbrev s_law : Stmt := topS 26
theorem sc_law : FnScope ["_law_script", "_law_rows", "_law_columns", "_law_table_here", "_law_handed", "_law_text", "_law_texts", "_law_k", "_law_some", "_law_due", "_law_came", "_law_found", "_law_bad", "_law_row", "_law_worth"] ["_law_script"] (defScope s_law) := ⟨rfl, rfl, rfl, by decide +kernel, rfl, by decide +kernel, by decide +kernel⟩
section
variable {P : Program} {w : World} {K : PySem.W.Frag} {mg : Str → Option Value} {base : Heap} {cCardError : Addr} {cBadTable : Addr} {cBadMixture : Addr} {cNoCard : Addr} {cUnlike : Addr} {cBadText : Addr}
theorem ok_law_shape {f : Addr} {fd : FuncData} (F : Fun K "_law_shape" "_law_shape" s_law_shape f fd) (T : Txt K mg cCardError cBadTable cBadMixture cNoCard cUnlike cBadText)  : FnOk P w K mg base CX0 1 f fd ["_law_cell"] (spR K R_law_shape) := by
  have nd := sc_law_shape.nd
  refine F.ok sc_law_shape (fun vs H Q E h => spR_len h (fun ss o r => len_law_shape r)) (fun cdv A outer s H vs Q E hr h => ⟨t_law_shape K, ?_, st_run h (fun ss o r => b_law_shape ss o r)⟩)
  exact (pss_one (ps_ret (pe_tup (pa_cons (pe_ix ix_seq (pe_tup (pa_cons pe_int (pa_cons pe_int (pa_cons pe_int (pa_cons pe_int (pa_cons pe_int (pa_cons pe_int (pa_cons pe_int (pa_cons pe_int pa_nil))))))))) (pe_op op_mod (pv 0) pe_int) (fun _ _ => rfl)) (pa_cons (pe_ix ix_seq (pe_tup (pa_cons pe_int (pa_cons pe_int (pa_cons pe_int (pa_cons pe_int (pa_cons pe_int (pa_cons pe_int (pa_cons pe_int (pa_cons pe_int pa_nil))))))))) (pe_op op_mod (pe_op op_fdivW (pv 0) pe_int) pe_int) (fun _ _ => rfl)) pa_nil)))))
theorem ok_law_cell_at {f : Addr} {fd : FuncData} (F : Fun K "_law_cell_at" "_law_cell_at" s_law_cell_at f fd) (T : Txt K mg cCardError cBadTable cBadMixture cNoCard cUnlike cBadText)  : FnOk P w K mg base CX0 1 f fd ["_law_script", "_law_k"] (spR K R_law_cell_at) := by
  have nd := sc_law_cell_at.nd
  refine F.ok sc_law_cell_at (fun vs H Q E h => spR_len h (fun ss o r => len_law_cell_at r)) (fun cdv A outer s H vs Q E hr h => ⟨t_law_cell_at K, ?_, st_run h (fun ss o r => b_law_cell_at ss o r)⟩)
  exact (pss_cons (ps_if (pt_cmpR op_lt (pv 1) (pe_callB call_len (by rfl) T.len_ (by decide +kernel) (pa_cons (pv 0) pa_nil)) (nomark _)) (pss_one (ps_ret (pe_ix ix_seq (pv 0) (pv 1) (fun _ _ => rfl)))) pss_nil)
    (pss_one (ps_ret pe_int)))
theorem ok_law_draw {f : Addr} {fd : FuncData} (F : Fun K "_law_draw" "_law_draw" s_law_draw f fd) (T : Txt K mg cCardError cBadTable cBadMixture cNoCard cUnlike cBadText)  : FnOk P w K mg base CX0 1 f fd ["_law_cell", "_law_k", "_law_many"] (spR K R_law_draw) := by
  have nd := sc_law_draw.nd
  refine F.ok sc_law_draw (fun vs H Q E h => spR_len h (fun ss o r => len_law_draw r)) (fun cdv A outer s H vs Q E hr h => ⟨t_law_draw K, ?_, st_run h (fun ss o r => b_law_draw ss o r)⟩)
  exact (pss_cons (ps_set (i := 3) nd rfl (Or.inl rfl) (pe_op op_mod (pe_op op_add (pe_op op_add (pe_op op_mulW (pe_op op_mod (pv 0) pe_int) pe_int) (pe_op op_mulW (pv 1) pe_int)) pe_int) pe_int))
    (pss_one (ps_ret (pe_op op_mod (pe_op op_mod (pe_op op_fdivW (pe_op op_mulW (pv 3) (pv 3)) pe_int) pe_int) (pv 2)))))
theorem ok_law_table {f : Addr} {fd : FuncData} (F : Fun K "_law_table" "_law_table" s_law_table f fd) (T : Txt K mg cCardError cBadTable cBadMixture cNoCard cUnlike cBadText) (c_law_draw : Cal P w K mg base CX0 1 "_law_draw" ["_law_cell", "_law_k", "_law_many"] (spR K R_law_draw)) : FnOk P w K mg base CX0 2 f fd ["_law_cell", "_law_rows", "_law_columns"] (spR K R_law_table) := by
  have nd := sc_law_table.nd
  refine F.ok sc_law_table (fun vs H Q E h => spR_len h (fun ss o r => len_law_table r)) (fun cdv A outer s H vs Q E hr h => ⟨t_law_table K, ?_, st_run h (fun ss o r => b_law_table ss o r)⟩)
  exact (pss_cons (ps_set (i := 3) nd rfl (Or.inr rfl) (pe_ix ix_seq (pe_tup (pa_cons pe_int (pa_cons pe_int (pa_cons pe_int (pa_cons pe_int pa_nil))))) (pe_cal c_law_draw hr (by decide) rfl (pa_cons (pv 0) (pa_cons pe_int (pa_cons pe_int pa_nil)))) (fun _ _ => rfl)))
    (pss_cons (ps_set (i := 4) nd rfl (Or.inr rfl) (pe_lst pa_nil))
    (pss_cons (ps_for PassesOwn.never rfl (pi_range1 (by rfl) T.range_ (pa_cons (pv 1) pa_nil)) (pg_name (i := 5) nd rfl (by first | exact Or.inl rfl | exact Or.inr rfl)) (pss_one (ps_expr (pe_bm PySem.F.plainAttrs_list PySem.F.slot_list_append PySem.F.type_list_append mt_append (pv 4) (pa_cons (pe_lc (own := [("_law_k", 8)]) (by rfl) nd (pi_range1 (by rfl) T.range_ (pa_cons (pv 2) pa_nil)) (blkOk_by (own := [("_law_k", 8)]) (by kernel_rfl)) (fun _ _ _ _ _ => (pg_name (i := 8) nd rfl (by first | exact Or.inl rfl | exact Or.inr rfl))) (fun _ _ _ _ _ => pts_nil) (fun _ _ _ _ _ => (pe_op op_sub (pe_cal c_law_draw hr (by decide) rfl (pa_cons (pe_op op_add (pe_op op_add (pv 0) (pe_op op_mulW pe_int (pv 5))) (pe_op op_mulW pe_int (pv 8))) (pa_cons pe_int (pa_cons (pe_op op_add (pe_op op_mulW pe_int (pv 3)) pe_int) pa_nil)))) (pv 3)))) pa_nil)))))
    (pss_cons (ps_set (i := 6) nd rfl (Or.inl rfl) (pe_cal c_law_draw hr (by decide) rfl (pa_cons (pv 0) (pa_cons pe_int (pa_cons pe_int pa_nil)))))
    (pss_cons (ps_if (pt_cmpR (op_eqD hr.units) (pv 6) pe_int (nomark _)) (pss_one (ps_set (i := 4) nd rfl (Or.inr rfl) (pe_lc (own := [("_law_row", 5)]) (by rfl) nd (pi_range1 (by rfl) T.range_ (pa_cons (pv 1) pa_nil)) (blkOk_by (own := [("_law_row", 5)]) (by kernel_rfl)) (fun _ _ _ _ _ => (pg_name (i := 5) nd rfl (by first | exact Or.inl rfl | exact Or.inr rfl))) (fun _ _ _ _ _ => pts_nil) (fun _ _ _ _ _ => (pe_op op_cat (pe_slice sl_list (pe_ix ix_seq (pv 4) pe_int (fun _ _ => rfl)) (po_some (pe_op op_mod (pv 5) (pv 2))) po_none) (pe_slice sl_list (pe_ix ix_seq (pv 4) pe_int (fun _ _ => rfl)) po_none (po_some (pe_op op_mod (pv 5) (pv 2))))))))) pss_nil)
    (pss_cons (ps_if (PW.pt (pw_and (pt_cmpR (op_eqD hr.units) (pv 6) pe_int (nomark _)) (pw_and1 (pt_cmpR op_gt (pv 1) pe_int (nomark _))))) (pss_cons (ps_set (i := 7) nd rfl (Or.inr rfl) (pe_op op_sub (pe_cal c_law_draw hr (by decide) rfl (pa_cons (pv 0) (pa_cons pe_int (pa_cons pe_int pa_nil)))) pe_int))
    (pss_one (ps_asg (pe_lc (own := [("_law_one", 9), ("_law_two", 10)]) (by rfl) nd (pi_zip (by rfl) T.zip_ (pa_cons (pe_ix ix_seq (pv 4) pe_int (fun _ _ => rfl)) (pa_cons (pe_ix ix_seq (pv 4) pe_int (fun _ _ => rfl)) pa_nil))) (blkOk_by (own := [("_law_one", 9), ("_law_two", 10)]) (by kernel_rfl)) (fun _ _ _ _ _ => (pg_tup (by rfl) (pgs_cons (pg_name (i := 9) nd rfl (by first | exact Or.inl rfl | exact Or.inr rfl)) (pgs_cons (pg_name (i := 10) nd rfl (by first | exact Or.inl rfl | exact Or.inr rfl)) pgs_nil)))) (fun _ _ _ _ _ => pts_nil) (fun _ _ _ _ _ => (pe_op op_sub (pe_op op_fdivW (pe_op op_add (pv 9) (pv 10)) pe_int) (pv 7)))) (pg_sub (pv 4) pe_int set_list)))) pss_nil)
    (pss_one (ps_ret (pv 4)))))))))
theorem ok_is_whole {f : Addr} {fd : FuncData} (F : Fun K "is_whole" "is_whole" s_is_whole f fd) (T : Txt K mg cCardError cBadTable cBadMixture cNoCard cUnlike cBadText)  : FnOk P w K mg base CX0 1 f fd ["thing"] (spR K R_is_whole) := by
  have nd := sc_is_whole.nd
  refine F.ok sc_is_whole (fun vs H Q E h => spR_len h (fun ss o r => len_is_whole r)) (fun cdv A outer s H vs Q E hr h => ⟨t_is_whole K, ?_, st_run h (fun ss o r => b_is_whole ss o r)⟩)
  exact (pss_one (ps_ret (pe_and (pe_callB call_isi (by rfl) T.isinstance_ (by decide +kernel) (pa_cons (pv 0) (pa_cons (pe_bltn (v := .ty "int") (by rfl) T.int_ (by decide +kernel) rfl) pa_nil))) (pe_one (pe_not (pe_callB call_isi (by rfl) T.isinstance_ (by decide +kernel) (pa_cons (pv 0) (pa_cons (pe_bltn (v := .ty "bool") (by rfl) T.bool_ (by decide +kernel) rfl) pa_nil))))))))
theorem ok_asked_table {f : Addr} {fd : FuncData} (F : Fun K "asked_table" "asked_table" s_asked_table f fd) (T : Txt K mg cCardError cBadTable cBadMixture cNoCard cUnlike cBadText) (c_is_whole : Cal P w K mg base CX0 1 "is_whole" ["thing"] (spR K R_is_whole)) : FnOk P w K mg base (L2N.CX P w) 2 f fd ["table"] (spR K (R_asked_table cBadTable)) := by
  have nd := sc_asked_table.nd
  refine okXN F sc_asked_table (fun vs H Q E h => spR_len h (fun ss o r => len_asked_table r)) (fun cdv A outer s H vs Q E hr h => ⟨t_asked_table K cBadTable E, ?_, st_run h (fun ss o r => b_asked_table ss o r)⟩)
  exact (pss_cons (ps_if (PW.pt (pw_or (pt_not (pt_val (pe_callB call_isi (by rfl) T.isinstance_ (by decide +kernel) (pa_cons (pv 0) (pa_cons (pe_bltn (v := .ty "list") (by rfl) T.list_ (by decide +kernel) rfl) pa_nil))))) (pw_or1 (pt_not (pt_chain op_le op_le pe_int (pe_callB call_len (by rfl) T.len_ (by decide +kernel) (pa_cons (pv 0) pa_nil)) (pe_constI (by rfl) T.c_MOST)))))) (pss_one (L2N.ps_raise rfl (L2N.takes_of rfl rfl rfl rfl) (L2N.pmk_own PySem.F.excBase_ValueError T.e_BadTable.x T.e_BadTable.g T.e_BadTable.k (raises_own T.e_BadTable.b T.e_BadTable.t) (by exact rfl)))) pss_nil)
    (pss_one (ps_for (passes_of rfl) rfl (pi_list (pv 0)) (pg_name (i := 1) nd rfl (by first | exact Or.inl rfl | exact Or.inr rfl)) (pss_cons (ps_if (PW.pt (pw_or (pt_not (pt_val (pe_callB call_isi (by rfl) T.isinstance_ (by decide +kernel) (pa_cons (pv 1) (pa_cons (pe_bltn (v := .ty "list") (by rfl) T.list_ (by decide +kernel) rfl) pa_nil))))) (pw_or (pt_not (pt_chain op_le op_le pe_int (pe_callB call_len (by rfl) T.len_ (by decide +kernel) (pa_cons (pv 1) pa_nil)) (pe_constI (by rfl) T.c_MOST))) (pw_or1 (pt_cmpR (op_neD hr.units) (pe_callB call_len (by rfl) T.len_ (by decide +kernel) (pa_cons (pv 1) pa_nil)) (pe_callB call_len (by rfl) T.len_ (by decide +kernel) (pa_cons (pe_ix ix_seq (pv 0) pe_int (fun _ _ => rfl)) pa_nil)) (nomark _)))))) (pss_one (L2N.ps_raise rfl (L2N.takes_of rfl rfl rfl rfl) (L2N.pmk_own PySem.F.excBase_ValueError T.e_BadTable.x T.e_BadTable.g T.e_BadTable.k (raises_own T.e_BadTable.b T.e_BadTable.t) (by exact rfl)))) pss_nil)
    (pss_one (ps_if (pt_not (pt_val (pe_callB (cr_all rfl) (by rfl) T.all_ (by decide +kernel) (pa_cons (pe_lc (own := [("worth", 2)]) (by rfl) nd (pi_list (pv 1)) (blkOk_by (own := [("worth", 2)]) (by kernel_rfl)) (fun _ _ _ _ _ => (pg_name (i := 2) nd rfl (by first | exact Or.inl rfl | exact Or.inr rfl))) (fun _ _ _ _ _ => pts_nil) (fun _ _ _ _ _ => (pe_and (pe_cal c_is_whole hr (by decide) rfl (pa_cons (pv 2) pa_nil)) (pe_one (pe_chain op_le op_le (pe_un un_neg (pe_constI (by rfl) T.c_WORTH)) (pv 2) (pe_constI (by rfl) T.c_WORTH)))))) pa_nil)))) (pss_one (L2N.ps_raise rfl (L2N.takes_of rfl rfl rfl rfl) (L2N.pmk_own PySem.F.excBase_ValueError T.e_BadTable.x T.e_BadTable.g T.e_BadTable.k (raises_own T.e_BadTable.b T.e_BadTable.t) (by exact rfl)))) pss_nil))))))
theorem ok_written {f : Addr} {fd : FuncData} (F : Fun K "written" "written" s_written f fd) (T : Txt K mg cCardError cBadTable cBadMixture cNoCard cUnlike cBadText) (c_asked_table : Cal P w K mg base (L2.CX P w) 2 "asked_table" ["table"] (spR K (R_asked_table cBadTable))) : FnOk P w K mg base (L2.CX P w) 3 f fd ["table"] (spR K (R_written cBadTable)) := by
  have nd := sc_written.nd
  refine F.okX sc_written (fun vs H Q E h => spR_len h (fun ss o r => len_written r)) (fun cdv A outer s H vs Q E hr h => ⟨t_written K cBadTable E, ?_, st_run h (fun ss o r => b_written ss o r)⟩)
  exact (pss_cons (ps_expr (pe_calX c_asked_table hr (by decide) rfl (passes_call (takes_of rfl rfl rfl rfl) (fun _ _ _ _ h => h)) (pa_cons (pv 0) pa_nil)))
    (pss_one (ps_ret (pe_joinS pe_str (pe_lc (own := [("row", 1)]) (by rfl) nd (pi_list (pv 0)) (blkOk_by (own := [("row", 1)]) (by kernel_rfl)) (fun _ _ _ _ _ => (pg_name (i := 1) nd rfl (by first | exact Or.inl rfl | exact Or.inr rfl))) (fun _ _ _ _ _ => pts_nil) (fun _ _ _ _ _ => (pe_joinS pe_str (pe_lc (own := [("worth", 2)]) (by rfl) nd (pi_list (pv 1)) (blkOk_by (own := [("worth", 2)]) (by kernel_rfl)) (fun _ _ _ _ _ => (pg_name (i := 2) nd rfl (by first | exact Or.inl rfl | exact Or.inr rfl))) (fun _ _ _ _ _ => pts_nil) (fun _ _ _ _ _ => (pe_callTy call_str_int (by rfl) T.str_ (by decide +kernel) (pa_cons (pv 2) pa_nil)))))))))))
theorem ok_law_other {f : Addr} {fd : FuncData} (F : Fun K "_law_other" "_law_other" s_law_other f fd) (T : Txt K mg cCardError cBadTable cBadMixture cNoCard cUnlike cBadText) (c_law_draw : Cal P w K mg base CX0 1 "_law_draw" ["_law_cell", "_law_k", "_law_many"] (spR K R_law_draw)) : FnOk P w K mg base CX0 2 f fd ["_law_text", "_law_cell"] (spR K R_law_other) := by
  have nd := sc_law_other.nd
  refine F.ok sc_law_other (fun vs H Q E h => spR_len h (fun ss o r => len_law_other r)) (fun cdv A outer s H vs Q E hr h => ⟨t_law_other K, ?_, st_run h (fun ss o r => b_law_other ss o r)⟩)
  exact (pss_cons (ps_set (i := 2) nd rfl (Or.inl rfl) (pe_cal c_law_draw hr (by decide) rfl (pa_cons (pv 1) (pa_cons pe_int (pa_cons (pe_op op_add (pe_callB call_len (by rfl) T.len_ (by decide +kernel) (pa_cons (pv 0) pa_nil)) pe_int) pa_nil)))))
    (pss_cons (ps_set (i := 3) nd rfl (Or.inl rfl) (pe_lst (pa_cons pe_str (pa_cons pe_str (pa_cons pe_str (pa_cons pe_str (pa_cons pe_str (pa_cons pe_str (pa_cons pe_str (pa_cons pe_str (pa_cons pe_str (pa_cons pe_str (pa_cons pe_str (pa_cons pe_str pa_nil))))))))))))))
    (pss_cons (ps_set (i := 4) nd rfl (Or.inl rfl) (pe_ix ix_seq (pv 3) (pe_cal c_law_draw hr (by decide) rfl (pa_cons (pv 1) (pa_cons pe_int (pa_cons (pe_callB call_len (by rfl) T.len_ (by decide +kernel) (pa_cons (pv 3) pa_nil)) pa_nil)))) (fun _ _ => rfl)))
    (pss_cons (ps_set (i := 5) nd rfl (Or.inl rfl) (pe_cal c_law_draw hr (by decide) rfl (pa_cons (pv 1) (pa_cons pe_int (pa_cons pe_int pa_nil)))))
    (pss_cons (ps_if (pt_cmpR (op_eqD hr.units) (pv 5) pe_int (nomark _)) (pss_one (ps_ret (pe_op op_add_str (pe_op op_add_str (pe_slice sl_str (pv 0) po_none (po_some (pv 2))) (pv 4)) (pe_slice sl_str (pv 0) (po_some (pv 2)) po_none)))) pss_nil)
    (pss_one (ps_ret (pe_op op_add_str (pe_op op_add_str (pe_slice sl_str (pv 0) po_none (po_some (pv 2))) (pe_ix ix_seq (pe_lst (pa_cons pe_str (pa_cons (pv 4) pa_nil))) (pe_op op_sub (pv 5) pe_int) (fun _ _ => rfl))) (pe_slice sl_str (pv 0) (po_some (pe_op op_add (pv 2) pe_int)) po_none)))))))))
theorem ok_law_number {f : Addr} {fd : FuncData} (F : Fun K "_law_number" "_law_number" s_law_number f fd) (T : Txt K mg cCardError cBadTable cBadMixture cNoCard cUnlike cBadText)  : FnOk P w K mg base CX0 1 f fd ["_law_word"] (spR K R_law_number) := by
  have nd := sc_law_number.nd
  refine F.ok sc_law_number (fun vs H Q E h => spR_len h (fun ss o r => len_law_number r)) (fun cdv A outer s H vs Q E hr h => ⟨t_law_number K, ?_, st_run h (fun ss o r => b_law_number ss o r)⟩)
  exact (pss_cons (ps_set (i := 1) nd rfl (Or.inl rfl) (pe_ifExp (pt_cmpR op_eqS (pe_slice sl_str (pv 0) po_none (po_some pe_int)) pe_str (nomark _)) (pe_slice sl_str (pv 0) (po_some pe_int) po_none) (pv 0)))
    (pss_cons (ps_if (PW.pt (pw_or (pt_not (pt_chain op_lt op_lt pe_int (pe_callB call_len (by rfl) T.len_ (by decide +kernel) (pa_cons (pv 1) pa_nil)) pe_int)) (pw_or1 (pt_not (pt_val (pe_callB (cr_all rfl) (by rfl) T.all_ (by decide +kernel) (pa_cons (pe_lc (own := [("_law_sign", 2)]) (by rfl) nd (pi_str (pv 1)) (blkOk_by (own := [("_law_sign", 2)]) (by kernel_rfl)) (fun _ _ _ _ _ => (pg_name (i := 2) nd rfl (by first | exact Or.inl rfl | exact Or.inr rfl))) (fun _ _ _ _ _ => pts_nil) (fun _ _ _ _ _ => (pe_cmpR op_inSg (pv 2) pe_str (by rfl)))) pa_nil))))))) (pss_one (ps_ret pe_non)) pss_nil)
    (pss_cons (ps_if (PW.pt (pw_or (PW.pt (pw_and (pt_cmpR op_eqS (pe_ix ix_seq (pv 1) pe_int (fun _ _ => rfl)) pe_str (nomark _)) (pw_and1 (pt_cmpR op_neS (pv 0) pe_str (nomark _))))) (pw_or1 (pt_cmpR op_gt (pe_callTy call_intS (by rfl) T.int_ (by decide +kernel) (pa_cons (pv 1) pa_nil)) pe_int (nomark _))))) (pss_one (ps_ret pe_non)) pss_nil)
    (pss_one (ps_ret (pe_callTy call_intS (by rfl) T.int_ (by decide +kernel) (pa_cons (pv 0) pa_nil)))))))
theorem ok_law_in {f : Addr} {fd : FuncData} (F : Fun K "_law_in" "_law_in" s_law_in f fd) (T : Txt K mg cCardError cBadTable cBadMixture cNoCard cUnlike cBadText) (c_law_number : Cal P w K mg base CX0 1 "_law_number" ["_law_word"] (spR K R_law_number)) : FnOk P w K mg base CX0 2 f fd ["_law_text"] (spR K R_law_in) := by
  have nd := sc_law_in.nd
  refine F.ok sc_law_in (fun vs H Q E h => spR_len h (fun ss o r => len_law_in r)) (fun cdv A outer s H vs Q E hr h => ⟨t_law_in K, ?_, st_run h (fun ss o r => b_law_in ss o r)⟩)
  exact (pss_cons (ps_setLc (i := 1) (own := [("_law_row", 2)]) (by rfl) nd rfl rfl (sw_true rfl rfl rfl (by decide +kernel)) (pi_list (pe_splitS (pv 0) pe_str)) (blkOk_by (own := [("_law_row", 2)]) (by kernel_rfl)) (fun _ _ _ _ _ => (pg_name (i := 2) nd rfl (by first | exact Or.inl rfl | exact Or.inr rfl))) (fun _ _ _ _ _ => pts_nil) (fun _ _ _ _ _ => (pe_lc (own := [("_law_word", 3)]) (by rfl) nd (pi_list (pe_splitS (pv 2) pe_str)) (blkOk_by (own := [("_law_word", 3)]) (by kernel_rfl)) (fun _ _ _ _ _ => (pg_name (i := 3) nd rfl (by first | exact Or.inl rfl | exact Or.inr rfl))) (fun _ _ _ _ _ => pts_nil) (fun _ _ _ _ _ => (pe_cal c_law_number hr (by decide) rfl (pa_cons (pv 3) pa_nil))))))
    (pss_cons (ps_if (PW.pt (pw_or (pt_cmpR op_gt (pe_callB call_len (by rfl) T.len_ (by decide +kernel) (pa_cons (pv 1) pa_nil)) pe_int (nomark _)) (pw_or1 (pt_cmpR op_gt (pe_callB call_len (by rfl) T.len_ (by decide +kernel) (pa_cons (pe_ix ix_seq (pv 1) pe_int (fun _ _ => rfl)) pa_nil)) pe_int (nomark _))))) (pss_one (ps_ret pe_non)) pss_nil)
    (pss_cons (ps_for PassesOwn.never rfl (pi_list (pv 1)) (pg_name (i := 2) nd rfl (by first | exact Or.inl rfl | exact Or.inr rfl)) (pss_one (ps_if (PW.pt (pw_or (pt_cmpR (op_neD hr.units) (pe_callB call_len (by rfl) T.len_ (by decide +kernel) (pa_cons (pv 2) pa_nil)) (pe_callB call_len (by rfl) T.len_ (by decide +kernel) (pa_cons (pe_ix ix_seq (pv 1) pe_int (fun _ _ => rfl)) pa_nil)) (nomark _)) (pw_or1 (pt_val (pe_callB (cr_any rfl) (by rfl) T.any_ (by decide +kernel) (pa_cons (pe_lc (own := [("_law_worth", 4)]) (by rfl) nd (pi_list (pv 2)) (blkOk_by (own := [("_law_worth", 4)]) (by kernel_rfl)) (fun _ _ _ _ _ => (pg_name (i := 4) nd rfl (by first | exact Or.inl rfl | exact Or.inr rfl))) (fun _ _ _ _ _ => pts_nil) (fun _ _ _ _ _ => (pe_cmpR op_isNo (pv 4) pe_non (nomark _)))) pa_nil)))))) (pss_one (ps_ret pe_non)) pss_nil)))
    (pss_one (ps_ret (pv 1))))))
theorem ok_number_in {f : Addr} {fd : FuncData} (F : Fun K "number_in" "number_in" s_number_in f fd) (T : Txt K mg cCardError cBadTable cBadMixture cNoCard cUnlike cBadText)  : FnOk P w K mg base (L2.CX P w) 1 f fd ["word"] (spR K (R_number_in cBadText)) := by
  have nd := sc_number_in.nd
  refine F.okX sc_number_in (fun vs H Q E h => spR_len h (fun ss o r => len_number_in r)) (fun cdv A outer s H vs Q E hr h => ⟨t_number_in K cBadText E, ?_, st_run h (fun ss o r => b_number_in ss o r)⟩)
  exact (pss_cons (ps_set (i := 1) nd rfl (Or.inl rfl) (pe_ifExp (pt_val (pe_starts (pv 0) pe_str)) (pe_slice sl_str (pv 0) (po_some pe_int) po_none) (pv 0)))
    (pss_cons (ps_if (PW.pt (pw_or (pt_not (pt_chain op_le op_le pe_int (pe_callB call_len (by rfl) T.len_ (by decide +kernel) (pa_cons (pv 1) pa_nil)) pe_int)) (pw_or (pt_cmpR op_neS (pe_stripC (pv 1) (pe_constS (by rfl) T.c_FIGURES)) pe_str (nomark _)) (pw_or1 (PW.pt (pw_and (pt_val (pe_starts (pv 1) pe_str)) (pw_and1 (pt_cmpR op_neS (pv 0) pe_str (nomark _))))))))) (pss_one (ps_raise rfl (takes_of rfl rfl rfl rfl) (pmk_own PySem.F.excBase_ValueError T.e_BadText.x T.e_BadText.g T.e_BadText.k (raises_own T.e_BadText.b T.e_BadText.t) (by exact rfl)))) pss_nil)
    (pss_one (ps_ret (pe_callTy call_intS (by rfl) T.int_ (by decide +kernel) (pa_cons (pv 0) pa_nil))))))
theorem ok_read {f : Addr} {fd : FuncData} (F : Fun K "read" "read" s_read f fd) (T : Txt K mg cCardError cBadTable cBadMixture cNoCard cUnlike cBadText) (c_number_in : Cal P w K mg base (L2.CX P w) 1 "number_in" ["word"] (spR K (R_number_in cBadText))) (cN_asked_table : Cal P w K mg base (L2N.CX P w) 2 "asked_table" ["table"] (spR K (R_asked_table cBadTable))) : FnOk P w K mg base (L2.CX P w) 3 f fd ["text"] (spR K (R_read cBadText)) := by
  have nd := sc_read.nd
  refine F.okX sc_read (fun vs H Q E h => spR_len h (fun ss o r => len_read r)) (fun cdv A outer s H vs Q E hr h => ⟨t_read K cBadTable cBadText E, ?_, st_run h (fun ss o r => b_read T.f_BadTable ss o r)⟩)
  exact (pss_cons (ps_if (pt_not (pt_val (pe_callB call_isi (by rfl) T.isinstance_ (by decide +kernel) (pa_cons (pv 0) (pa_cons (pe_bltn (v := .ty "str") (by rfl) T.str_ (by decide +kernel) rfl) pa_nil))))) (pss_one (ps_raise rfl (takes_of rfl rfl rfl rfl) (pmk_own PySem.F.excBase_ValueError T.e_BadText.x T.e_BadText.g T.e_BadText.k (raises_own T.e_BadText.b T.e_BadText.t) (by exact rfl)))) pss_nil)
    (pss_cons (ps_setLcX (i := 1) (own := [("row", 2)]) (by rfl) nd rfl rfl (sw_true rfl rfl rfl (by decide +kernel)) rfl rfl rfl (lets_fn (takes_of rfl rfl rfl rfl))  (pi_list (pe_splitS (pv 0) pe_str)) (blkOk_by (own := [("row", 2)]) (by kernel_rfl)) (fun _ _ _ _ _ => (pg_name (i := 2) nd rfl (by first | exact Or.inl rfl | exact Or.inr rfl))) (fun _ _ _ _ _ => pts_nil) (fun _ _ _ _ _ _ hl => (pe_lcX (own := [("word", 3)]) (by rfl) nd rfl rfl rfl hl (pi_list (pe_splitS (pv 2) pe_str)) (blkOk_by (own := [("word", 3)]) (by kernel_rfl)) (fun _ _ _ _ _ => (pg_name (i := 3) nd rfl (by first | exact Or.inl rfl | exact Or.inr rfl))) (fun _ _ _ _ _ => pts_nil) (fun _ _ _ _ _ _ hl => (pe_calX c_number_in hr (by decide) (by rfl) (passes_lets hl (fun _ _ _ h => h)) (pa_cons (pv 3) pa_nil))))))
    (pss_cons (ps_tryX rfl rfl ⟨by rfl, by decide, .inl T.e_BadTable.g⟩ (fun hd => L2H.passesAt_of rfl hd) (takes_of rfl rfl rfl rfl) (fun W pn xe tk => pss_one (ps_expr (pe_calSN cN_asked_table hr (by decide) (by rfl) tk (pa_cons (pv 1) pa_nil)))) (fun a pn tk hot => pss_one (ps_raiseN hot tk (pmk5_own PySem.F.excBase_ValueError T.e_BadText.x T.e_BadText.g T.e_BadText.k (raises_own T.e_BadText.b T.e_BadText.t) (by exact rfl)))))
    (pss_one (ps_ret (pv 1))))))
theorem ok_law_asked {f : Addr} {fd : FuncData} (F : Fun K "_law_asked" "_law_asked" s_law_asked f fd) (T : Txt K mg cCardError cBadTable cBadMixture cNoCard cUnlike cBadText) (c_read : Cal P w K mg base (L2.CX P w) 3 "read" ["text"] (spR K (R_read cBadText))) : FnOk P w K mg base CX0 4 f fd ["_law_text"] (spR K R_law_asked) := by
  have nd := sc_law_asked.nd
  refine F.ok sc_law_asked (fun vs H Q E h => spR_len h (fun ss o r => len_law_asked r)) (fun cdv A outer s H vs Q E hr h => ⟨t_law_asked K cCardError cBadTable cBadMixture cNoCard cUnlike cBadText, ?_, st_run h (fun ss o r => b_law_asked T.f_BadText ss o r)⟩)
  exact (pss_cons (ps_tryU (i := 1) rfl rfl nd rfl (by rfl) ⟨by rfl, by decide, .inl T.e_CardError.g⟩ (fun W pn xe tk _ => (pss_one (ps_ret (pe_tup (pa_cons pe_str (pa_cons (pe_calS c_read hr (by decide) (by rfl) tk (pa_cons (pv 0) pa_nil)) pa_nil)))))) (fun a oe cls d pn hz hf => (pss_cons (ps_set (i := 2) nd rfl (Or.inl rfl) (pe_or (pe_callB (call_isX hz hf) (by rfl) T.isinstance_ (by decide +kernel) (pa_cons (pv 1) (pa_cons (pe_glob (v := .ref cBadTable) (by rfl) T.e_BadTable.g rfl) pa_nil))) (pe_or (pe_callB (call_isX hz hf) (by rfl) T.isinstance_ (by decide +kernel) (pa_cons (pv 1) (pa_cons (pe_glob (v := .ref cBadMixture) (by rfl) T.e_BadMixture.g rfl) pa_nil))) (pe_one (pe_callB (call_isX hz hf) (by rfl) T.isinstance_ (by decide +kernel) (pa_cons (pv 1) (pa_cons (pe_glob (v := .ref cNoCard) (by rfl) T.e_NoCard.g rfl) pa_nil)))))))
    (pss_one (ps_if (PW.pt (pw_or (pt_val (pv 2)) (pw_or (pt_val (pe_callB (call_isX hz hf) (by rfl) T.isinstance_ (by decide +kernel) (pa_cons (pv 1) (pa_cons (pe_glob (v := .ref cUnlike) (by rfl) T.e_Unlike.g rfl) pa_nil)))) (pw_or1 (pt_not (pt_val (pe_callB (call_isX hz hf) (by rfl) T.isinstance_ (by decide +kernel) (pa_cons (pv 1) (pa_cons (pe_glob (v := .ref cBadText) (by rfl) T.e_BadText.g rfl) pa_nil))))))))) (pss_one (ps_ret (pe_tup (pa_cons pe_str (pa_cons pe_non pa_nil))))) pss_nil)))))
    (pss_one (ps_ret (pe_tup (pa_cons pe_str (pa_cons pe_non pa_nil))))))
theorem ok_law {f : Addr} {fd : FuncData} (F : Fun K "law" "law" s_law f fd) (T : Txt K mg cCardError cBadTable cBadMixture cNoCard cUnlike cBadText) (c_law_shape : Cal P w K mg base CX0 1 "_law_shape" ["_law_cell"] (spR K R_law_shape)) (c_law_cell_at : Cal P w K mg base CX0 1 "_law_cell_at" ["_law_script", "_law_k"] (spR K R_law_cell_at)) (c_law_table : Cal P w K mg base CX0 2 "_law_table" ["_law_cell", "_law_rows", "_law_columns"] (spR K R_law_table)) (c_written : Cal P w K mg base (L2.CX P w) 3 "written" ["table"] (spR K (R_written cBadTable))) (c_law_other : Cal P w K mg base CX0 2 "_law_other" ["_law_text", "_law_cell"] (spR K R_law_other)) (c_law_in : Cal P w K mg base CX0 2 "_law_in" ["_law_text"] (spR K R_law_in)) (c_law_asked : Cal P w K mg base CX0 4 "_law_asked" ["_law_text"] (spR K R_law_asked)) (c_read : Cal P w K mg base (L2.CX P w) 3 "read" ["text"] (spR K (R_read cBadText))) : FnOk P w K mg base CX0 5 f fd ["_law_script"] (spR K R_law) := by
  have nd := sc_law.nd
  refine F.ok sc_law (fun vs H Q E h => spR_len h (fun ss o r => len_law r)) (fun cdv A outer s H vs Q E hr h => ⟨t_law K cBadTable cBadText, ?_, st_run h (fun ss o r => b_law ss o r)⟩)
  exact (pss_cons (ps_asg (pe_cal c_law_shape hr (by decide) rfl (pa_cons (pe_cal c_law_cell_at hr (by decide) rfl (pa_cons (pv 0) (pa_cons pe_int pa_nil))) pa_nil)) (pg_tup (by rfl) (pgs_cons (pg_name (i := 1) nd rfl (by first | exact Or.inl rfl | exact Or.inr rfl)) (pgs_cons (pg_name (i := 2) nd rfl (by first | exact Or.inl rfl | exact Or.inr rfl)) pgs_nil))))
    (pss_cons (ps_set (i := 3) nd rfl (Or.inl rfl) (pe_cal c_law_table hr (by decide) rfl (pa_cons (pe_cal c_law_cell_at hr (by decide) rfl (pa_cons (pv 0) (pa_cons pe_int pa_nil))) (pa_cons (pv 1) (pa_cons (pv 2) pa_nil)))))
    (pss_cons (ps_setLc (i := 4) (own := [("_law_row", 13)]) (by rfl) nd rfl rfl (sw_true rfl rfl rfl (by decide +kernel)) (pi_list (pv 3)) (blkOk_by (own := [("_law_row", 13)]) (by kernel_rfl)) (fun _ _ _ _ _ => (pg_name (i := 13) nd rfl (by first | exact Or.inl rfl | exact Or.inr rfl))) (fun _ _ _ _ _ => pts_nil) (fun _ _ _ _ _ => (pe_callTy call_list_of (by rfl) T.list_ (by decide +kernel) (pa_cons (pv 13) pa_nil))))
    (pss_cons (ps_set (i := 5) nd rfl (Or.inl rfl) (pe_joinS pe_str (pe_lc (own := [("_law_row", 13)]) (by rfl) nd (pi_list (pv 3)) (blkOk_by (own := [("_law_row", 13)]) (by kernel_rfl)) (fun _ _ _ _ _ => (pg_name (i := 13) nd rfl (by first | exact Or.inl rfl | exact Or.inr rfl))) (fun _ _ _ _ _ => pts_nil) (fun _ _ _ _ _ => (pe_joinS pe_str (pe_lc (own := [("_law_worth", 14)]) (by rfl) nd (pi_list (pv 13)) (blkOk_by (own := [("_law_worth", 14)]) (by kernel_rfl)) (fun _ _ _ _ _ => (pg_name (i := 14) nd rfl (by first | exact Or.inl rfl | exact Or.inr rfl))) (fun _ _ _ _ _ => pts_nil) (fun _ _ _ _ _ => (pe_callTy call_str_int (by rfl) T.str_ (by decide +kernel) (pa_cons (pv 14) pa_nil)))))))))
    (pss_cons (ps_if (PW.pt (pw_or (pt_cmpR op_neS (pe_calX c_written hr (by decide) rfl passL (pa_cons (pv 4) pa_nil)) (pv 5) (nomark _)) (pw_or1 (pt_cmpR (op_neD hr.units) (pv 4) (pv 3) (nomark _))))) (pss_one (ps_ret pe_bl)) pss_nil)
    (pss_cons (ps_set (i := 6) nd rfl (Or.inl rfl) (pe_lst (pa_cons pe_str (pa_cons pe_str (pa_cons pe_str (pa_cons pe_str (pa_cons pe_str (pa_cons pe_str (pa_cons pe_str (pa_cons pe_str (pa_cons pe_str (pa_cons pe_str (pa_cons pe_str (pa_cons pe_str (pa_cons pe_str (pa_cons pe_str (pa_cons pe_str pa_nil)))))))))))))))))
    (pss_cons (ps_set (i := 6) nd rfl (Or.inl rfl) (pe_op op_cat (pv 6) (pe_lst (pa_cons (pv 5) (pa_cons (pe_op op_add_str (pv 5) pe_str) (pa_cons (pe_op op_add_str (pv 5) pe_str) (pa_cons pe_str (pa_cons pe_str (pa_cons (pe_op op_mulS pe_str pe_int) (pa_cons pe_str (pa_cons pe_str (pa_cons pe_str pa_nil))))))))))))
    (pss_cons (ps_set (i := 6) nd rfl (Or.inl rfl) (pe_op op_cat (pv 6) (pe_lst (pa_cons pe_str (pa_cons pe_str pa_nil)))))
    (pss_cons (ps_for PassesOwn.never rfl (pi_range1 (by rfl) T.range_ (pa_cons pe_int pa_nil)) (pg_name (i := 7) nd rfl (by first | exact Or.inl rfl | exact Or.inr rfl)) (pss_one (ps_expr (pe_bm PySem.F.plainAttrs_list PySem.F.slot_list_append PySem.F.type_list_append mt_append (pv 6) (pa_cons (pe_cal c_law_other hr (by decide) rfl (pa_cons (pv 5) (pa_cons (pe_op op_add (pe_cal c_law_cell_at hr (by decide) rfl (pa_cons (pv 0) (pa_cons (pe_op op_add pe_int (pv 7)) pa_nil))) (pe_op op_mulW pe_int (pv 7))) pa_nil))) pa_nil)))))
    (pss_cons (ps_for PassesOwn.never rfl (pi_list (pv 6)) (pg_name (i := 8) nd rfl (by first | exact Or.inl rfl | exact Or.inr rfl)) (pss_cons (ps_set (i := 9) nd rfl (Or.inl rfl) (pe_cal c_law_in hr (by decide) rfl (pa_cons (pv 8) pa_nil)))
    (pss_cons (ps_asg (pe_cal c_law_asked hr (by decide) rfl (pa_cons (pv 8) pa_nil)) (pg_tup (by rfl) (pgs_cons (pg_name (i := 10) nd rfl (by first | exact Or.inl rfl | exact Or.inr rfl)) (pgs_cons (pg_name (i := 11) nd rfl (by first | exact Or.inl rfl | exact Or.inr rfl)) pgs_nil))))
    (pss_cons (ps_if (pt_cmpR op_neS (pv 10) (pe_ix ix_seq (pe_lst (pa_cons pe_str (pa_cons pe_str pa_nil))) (pe_callTy call_int1 (by rfl) T.int_ (by decide +kernel) (pa_cons (pe_cmpR op_isNo (pv 9) pe_non (nomark _)) pa_nil)) (fun _ _ => rfl)) (nomark _)) (pss_one (ps_ret pe_bl)) pss_nil)
    (pss_cons (ps_if (PW.pt (pw_and (pt_cmpR op_notNo (pv 9) pe_non (nomark _)) (pw_and1 (PW.pt (pw_or (pt_not (pt_val (pe_callB call_isi (by rfl) T.isinstance_ (by decide +kernel) (pa_cons (pv 11) (pa_cons (pe_bltn (v := .ty "list") (by rfl) T.list_ (by decide +kernel) rfl) pa_nil))))) (pw_or (pt_cmpR (op_neD hr.units) (pv 11) (pv 9) (nomark _)) (pw_or1 (pt_cmpR op_neS (pe_calX c_written hr (by decide) rfl passL (pa_cons (pv 11) pa_nil)) (pv 8) (nomark _))))))))) (pss_one (ps_ret pe_bl)) pss_nil)
    (pss_one (ps_if (pt_cmpR op_notNo (pv 9) pe_non (nomark _)) (pss_cons (ps_expr (pe_bm PySem.F.plainAttrs_list PySem.F.slot_list_append PySem.F.type_list_append mt_append (pe_ix ix_seq (pv 11) pe_int (fun _ _ => rfl)) (pa_cons pe_int pa_nil)))
    (pss_one (ps_if (pt_cmpR (op_neD hr.units) (pe_calX c_read hr (by decide) rfl passL (pa_cons (pv 8) pa_nil)) (pv 9) (nomark _)) (pss_one (ps_ret pe_bl)) pss_nil))) pss_nil)))))))
    (pss_cons (ps_set (i := 12) nd rfl (Or.inl rfl) (pe_ix ix_seq (pe_lst (pa_cons pe_non (pa_cons pe_int (pa_cons (pe_lst (pa_cons pe_str pa_nil)) (pa_cons (pe_lst (pa_cons (pe_lst (pa_cons pe_int pa_nil)) pa_nil)) (pa_cons pe_bl pa_nil)))))) (pe_op op_mod (pe_cal c_law_cell_at hr (by decide) rfl (pa_cons (pv 0) (pa_cons pe_int pa_nil))) pe_int) (fun _ _ => rfl)))
    (pss_one (ps_ret (pe_cmpR op_eqS (pe_ix ix_seq (pe_cal c_law_asked hr (by decide) rfl (pa_cons (pv 12) pa_nil)) pe_int (fun _ _ => rfl)) pe_str (nomark _)))))))))))))))
end
/-! ### what the top has written, the end -/
theorem all_mk {l : PySem.W.OpenLaw} {w : World} {K : PySem.W.Frag} {h : Heap} {mg : Str → Option Value} {fa f0 f1 f2 f3 f4 f5 f6 f7 f8 f9 f10 f11 f12 f13 cCardError cBadTable cBadMixture cNoCard cUnlike cBadText : Addr} (X : K.In h) (G : h.Ns mainGlobals mg) (hfa : mg "law" = some (.ref fa))
    {od0 an0 od1 an1 od2 an2 od3 an3 od4 an4 od5 an5 od6 an6 od7 an7 od8 an8 od9 an9 od10 an10 od11 an11 od12 an12 od13 an13 : Option Addr} {sl0 sl1 sl2 sl3 sl4 sl5 sl6 sl7 sl8 sl9 sl10 sl11 sl12 sl13 : Array (Option Value)} {oc0 kV0 dc0 pm0 cd0 ct0 oc1 kV1 dc1 pm1 cd1 ct1 oc2 kV2 dc2 pm2 cd2 ct2 oc3 kV3 dc3 pm3 cd3 ct3 oc4 kV4 dc4 pm4 cd4 ct4 oc5 kV5 dc5 pm5 cd5 ct5 oc6 kV6 dc6 pm6 cd6 ct6 oc7 kV7 dc7 pm7 cd7 ct7 oc8 kV8 dc8 pm8 cd8 ct8 oc9 kV9 dc9 pm9 cd9 ct9 oc10 kV10 dc10 pm10 cd10 ct10 oc11 kV11 dc11 pm11 cd11 ct11 oc12 kV12 dc12 pm12 cd12 ct12 oc13 kV13 dc13 pm13 cd13 ct13 : Value}
    (a0 : PySem.W.nsIn K mainGlobals "_law_shape" = some (some (.ref f0)))
    (l0 : K.lookup f0 = some ⟨oc0, od0, .func (PySem.W.fnOf "_law_shape" "_law_shape" (defArgs s_law_shape) (defBody s_law_shape) (defScope s_law_shape) .none kV0 dc0 pm0 an0 cd0 ct0), sl0⟩) (c0 : PySem.W.codeIn K cd0 "_law_shape" = true) (k0 : PySem.W.keepIn K (.ref f0) = true)
    (a1 : PySem.W.nsIn K mainGlobals "_law_cell_at" = some (some (.ref f1)))
    (l1 : K.lookup f1 = some ⟨oc1, od1, .func (PySem.W.fnOf "_law_cell_at" "_law_cell_at" (defArgs s_law_cell_at) (defBody s_law_cell_at) (defScope s_law_cell_at) .none kV1 dc1 pm1 an1 cd1 ct1), sl1⟩) (c1 : PySem.W.codeIn K cd1 "_law_cell_at" = true) (k1 : PySem.W.keepIn K (.ref f1) = true)
    (a2 : PySem.W.nsIn K mainGlobals "_law_draw" = some (some (.ref f2)))
    (l2 : K.lookup f2 = some ⟨oc2, od2, .func (PySem.W.fnOf "_law_draw" "_law_draw" (defArgs s_law_draw) (defBody s_law_draw) (defScope s_law_draw) .none kV2 dc2 pm2 an2 cd2 ct2), sl2⟩) (c2 : PySem.W.codeIn K cd2 "_law_draw" = true) (k2 : PySem.W.keepIn K (.ref f2) = true)
    (a3 : PySem.W.nsIn K mainGlobals "_law_table" = some (some (.ref f3)))
    (l3 : K.lookup f3 = some ⟨oc3, od3, .func (PySem.W.fnOf "_law_table" "_law_table" (defArgs s_law_table) (defBody s_law_table) (defScope s_law_table) .none kV3 dc3 pm3 an3 cd3 ct3), sl3⟩) (c3 : PySem.W.codeIn K cd3 "_law_table" = true) (k3 : PySem.W.keepIn K (.ref f3) = true)
    (a4 : PySem.W.nsIn K mainGlobals "is_whole" = some (some (.ref f4)))
    (l4 : K.lookup f4 = some ⟨oc4, od4, .func (PySem.W.fnOf "is_whole" "is_whole" (defArgs s_is_whole) (defBody s_is_whole) (defScope s_is_whole) .none kV4 dc4 pm4 an4 cd4 ct4), sl4⟩) (c4 : PySem.W.codeIn K cd4 "is_whole" = true) (k4 : PySem.W.keepIn K (.ref f4) = true)
    (a5 : PySem.W.nsIn K mainGlobals "asked_table" = some (some (.ref f5)))
    (l5 : K.lookup f5 = some ⟨oc5, od5, .func (PySem.W.fnOf "asked_table" "asked_table" (defArgs s_asked_table) (defBody s_asked_table) (defScope s_asked_table) .none kV5 dc5 pm5 an5 cd5 ct5), sl5⟩) (c5 : PySem.W.codeIn K cd5 "asked_table" = true) (k5 : PySem.W.keepIn K (.ref f5) = true)
    (a6 : PySem.W.nsIn K mainGlobals "written" = some (some (.ref f6)))
    (l6 : K.lookup f6 = some ⟨oc6, od6, .func (PySem.W.fnOf "written" "written" (defArgs s_written) (defBody s_written) (defScope s_written) .none kV6 dc6 pm6 an6 cd6 ct6), sl6⟩) (c6 : PySem.W.codeIn K cd6 "written" = true) (k6 : PySem.W.keepIn K (.ref f6) = true)
    (a7 : PySem.W.nsIn K mainGlobals "_law_other" = some (some (.ref f7)))
    (l7 : K.lookup f7 = some ⟨oc7, od7, .func (PySem.W.fnOf "_law_other" "_law_other" (defArgs s_law_other) (defBody s_law_other) (defScope s_law_other) .none kV7 dc7 pm7 an7 cd7 ct7), sl7⟩) (c7 : PySem.W.codeIn K cd7 "_law_other" = true) (k7 : PySem.W.keepIn K (.ref f7) = true)
    (a8 : PySem.W.nsIn K mainGlobals "_law_number" = some (some (.ref f8)))
    (l8 : K.lookup f8 = some ⟨oc8, od8, .func (PySem.W.fnOf "_law_number" "_law_number" (defArgs s_law_number) (defBody s_law_number) (defScope s_law_number) .none kV8 dc8 pm8 an8 cd8 ct8), sl8⟩) (c8 : PySem.W.codeIn K cd8 "_law_number" = true) (k8 : PySem.W.keepIn K (.ref f8) = true)
    (a9 : PySem.W.nsIn K mainGlobals "_law_in" = some (some (.ref f9)))
    (l9 : K.lookup f9 = some ⟨oc9, od9, .func (PySem.W.fnOf "_law_in" "_law_in" (defArgs s_law_in) (defBody s_law_in) (defScope s_law_in) .none kV9 dc9 pm9 an9 cd9 ct9), sl9⟩) (c9 : PySem.W.codeIn K cd9 "_law_in" = true) (k9 : PySem.W.keepIn K (.ref f9) = true)
    (a10 : PySem.W.nsIn K mainGlobals "number_in" = some (some (.ref f10)))
    (l10 : K.lookup f10 = some ⟨oc10, od10, .func (PySem.W.fnOf "number_in" "number_in" (defArgs s_number_in) (defBody s_number_in) (defScope s_number_in) .none kV10 dc10 pm10 an10 cd10 ct10), sl10⟩) (c10 : PySem.W.codeIn K cd10 "number_in" = true) (k10 : PySem.W.keepIn K (.ref f10) = true)
    (a11 : PySem.W.nsIn K mainGlobals "read" = some (some (.ref f11)))
    (l11 : K.lookup f11 = some ⟨oc11, od11, .func (PySem.W.fnOf "read" "read" (defArgs s_read) (defBody s_read) (defScope s_read) .none kV11 dc11 pm11 an11 cd11 ct11), sl11⟩) (c11 : PySem.W.codeIn K cd11 "read" = true) (k11 : PySem.W.keepIn K (.ref f11) = true)
    (a12 : PySem.W.nsIn K mainGlobals "_law_asked" = some (some (.ref f12)))
    (l12 : K.lookup f12 = some ⟨oc12, od12, .func (PySem.W.fnOf "_law_asked" "_law_asked" (defArgs s_law_asked) (defBody s_law_asked) (defScope s_law_asked) .none kV12 dc12 pm12 an12 cd12 ct12), sl12⟩) (c12 : PySem.W.codeIn K cd12 "_law_asked" = true) (k12 : PySem.W.keepIn K (.ref f12) = true)
    (a13 : PySem.W.nsIn K mainGlobals "law" = some (some (.ref f13)))
    (l13 : K.lookup f13 = some ⟨oc13, od13, .func (PySem.W.fnOf "law" "law" (defArgs s_law) (defBody s_law) (defScope s_law) .none kV13 dc13 pm13 an13 cd13 ct13), sl13⟩) (c13 : PySem.W.codeIn K cd13 "law" = true) (k13 : PySem.W.keepIn K (.ref f13) = true)
    (z_all : PySem.W.nsIn K mainGlobals "all" = some none)
    (z_any : PySem.W.nsIn K mainGlobals "any" = some none)
    (z_bool : PySem.W.nsIn K mainGlobals "bool" = some none)
    (z_int : PySem.W.nsIn K mainGlobals "int" = some none)
    (z_isinstance : PySem.W.nsIn K mainGlobals "isinstance" = some none)
    (z_len : PySem.W.nsIn K mainGlobals "len" = some none)
    (z_list : PySem.W.nsIn K mainGlobals "list" = some none)
    (z_range : PySem.W.nsIn K mainGlobals "range" = some none)
    (z_str : PySem.W.nsIn K mainGlobals "str" = some none)
    (z_zip : PySem.W.nsIn K mainGlobals "zip" = some none)
    {tk_FIGURES : Tok} (z_FIGURES : PySem.W.nsIn K mainGlobals "FIGURES" = some (some (.str "0123456789" tk_FIGURES)))
    {tk_MOST : Tok} (z_MOST : PySem.W.nsIn K mainGlobals "MOST" = some (some (.int 4 tk_MOST)))
    {tk_WORTH : Tok} (z_WORTH : PySem.W.nsIn K mainGlobals "WORTH" = some (some (.int 100 tk_WORTH)))
    (hnC : PySem.W.specialIn K (.builtin "object.__class__") "__get__" = some (some (.builtin "getset_descriptor.__get__"))) (htkC : PySem.W.takesIn K (.builtin "object.__class__") = some true)
    (hd_CardError : PySem.W.hasDictIn K cCardError = true)
    (hg_BadText : PySem.W.findIn K (.ref cBadText) "__getattribute__" = some (some (.builtin "BaseException.__getattribute__"))) (hk_BadText : PySem.W.findIn K (.ref cBadText) "__getattr__" = some none) (hd_BadText : PySem.W.hasDictIn K cBadText = true) (ha_BadText : PySem.W.findIn K (.ref cBadText) "__class__" = some (some (.builtin "object.__class__"))) (hm_BadText : PySem.W.mroIn K cBadText (.type "object") = some true) (sc_BadText : PySem.W.subIn K (.ref cBadText) (.ref cCardError) = some true)
    (kk_BadText_BadTable : PySem.W.kitOne K (.ref cBadText) (.ref cBadTable) = some false)
    (kk_BadText_BadMixture : PySem.W.kitOne K (.ref cBadText) (.ref cBadMixture) = some false)
    (kk_BadText_NoCard : PySem.W.kitOne K (.ref cBadText) (.ref cNoCard) = some false)
    (kk_BadText_Unlike : PySem.W.kitOne K (.ref cBadText) (.ref cUnlike) = some false)
    (kk_BadText_BadText : PySem.W.kitOne K (.ref cBadText) (.ref cBadText) = some true)
    (hg_BadTable : PySem.W.findIn K (.ref cBadTable) "__getattribute__" = some (some (.builtin "BaseException.__getattribute__"))) (hk_BadTable : PySem.W.findIn K (.ref cBadTable) "__getattr__" = some none) (hd_BadTable : PySem.W.hasDictIn K cBadTable = true) (ha_BadTable : PySem.W.findIn K (.ref cBadTable) "__class__" = some (some (.builtin "object.__class__"))) (hm_BadTable : PySem.W.mroIn K cBadTable (.type "object") = some true) (sc_BadTable : PySem.W.subIn K (.ref cBadTable) (.ref cBadTable) = some true)
    (ea_CardError : PySem.W.nsIn K mainGlobals "CardError" = some (some (.ref cCardError))) (ex_CardError : PySem.W.excIn K cCardError [.type "ValueError", .type "Exception", .type "BaseException", .type "object"] "ValueError.__new__" = true) (ek_CardError : PySem.W.keepIn K (.ref cCardError) = true) (eb_CardError : PySem.W.subIn K (.ref cCardError) (.type "BaseException") = some true) (et_CardError : PySem.W.typeIn K (.ref cCardError) = some (.type "type"))
    (ea_BadTable : PySem.W.nsIn K mainGlobals "BadTable" = some (some (.ref cBadTable))) (ex_BadTable : PySem.W.excIn K cBadTable [.type "ValueError", .type "Exception", .type "BaseException", .type "object"] "ValueError.__new__" = true) (ek_BadTable : PySem.W.keepIn K (.ref cBadTable) = true) (eb_BadTable : PySem.W.subIn K (.ref cBadTable) (.type "BaseException") = some true) (et_BadTable : PySem.W.typeIn K (.ref cBadTable) = some (.type "type"))
    (ea_BadMixture : PySem.W.nsIn K mainGlobals "BadMixture" = some (some (.ref cBadMixture))) (ex_BadMixture : PySem.W.excIn K cBadMixture [.type "ValueError", .type "Exception", .type "BaseException", .type "object"] "ValueError.__new__" = true) (ek_BadMixture : PySem.W.keepIn K (.ref cBadMixture) = true) (eb_BadMixture : PySem.W.subIn K (.ref cBadMixture) (.type "BaseException") = some true) (et_BadMixture : PySem.W.typeIn K (.ref cBadMixture) = some (.type "type"))
    (ea_NoCard : PySem.W.nsIn K mainGlobals "NoCard" = some (some (.ref cNoCard))) (ex_NoCard : PySem.W.excIn K cNoCard [.type "ValueError", .type "Exception", .type "BaseException", .type "object"] "ValueError.__new__" = true) (ek_NoCard : PySem.W.keepIn K (.ref cNoCard) = true) (eb_NoCard : PySem.W.subIn K (.ref cNoCard) (.type "BaseException") = some true) (et_NoCard : PySem.W.typeIn K (.ref cNoCard) = some (.type "type"))
    (ea_Unlike : PySem.W.nsIn K mainGlobals "Unlike" = some (some (.ref cUnlike))) (ex_Unlike : PySem.W.excIn K cUnlike [.type "ValueError", .type "Exception", .type "BaseException", .type "object"] "ValueError.__new__" = true) (ek_Unlike : PySem.W.keepIn K (.ref cUnlike) = true) (eb_Unlike : PySem.W.subIn K (.ref cUnlike) (.type "BaseException") = some true) (et_Unlike : PySem.W.typeIn K (.ref cUnlike) = some (.type "type"))
    (ea_BadText : PySem.W.nsIn K mainGlobals "BadText" = some (some (.ref cBadText))) (ex_BadText : PySem.W.excIn K cBadText [.type "ValueError", .type "Exception", .type "BaseException", .type "object"] "ValueError.__new__" = true) (ek_BadText : PySem.W.keepIn K (.ref cBadText) = true) (eb_BadText : PySem.W.subIn K (.ref cBadText) (.type "BaseException") = some true) (et_BadText : PySem.W.typeIn K (.ref cBadText) = some (.type "type"))
    : ∃ fd : FuncData, (∀ (s : Shared) (v : Value), BindsTo s fd ⟨[v], []⟩ [("_law_script", v)]) ∧ ∀ base : Heap, K.In base → base.Ns mainGlobals mg → FnOk l.prog w K mg base CX0 5 fa fd ["_law_script"] (spR K R_law) := by
  have e := hfa.symm.trans (PySem.W.mg_of X G a13)
  cases e
  have T : Txt K mg cCardError cBadTable cBadMixture cNoCard cUnlike cBadText := ⟨PySem.W.mg_none_of X G z_all, PySem.W.mg_none_of X G z_any, PySem.W.mg_none_of X G z_bool, PySem.W.mg_none_of X G z_int, PySem.W.mg_none_of X G z_isinstance, PySem.W.mg_none_of X G z_len, PySem.W.mg_none_of X G z_list, PySem.W.mg_none_of X G z_range, PySem.W.mg_none_of X G z_str, PySem.W.mg_none_of X G z_zip, ⟨_, PySem.W.mg_of X G z_FIGURES⟩, ⟨_, PySem.W.mg_of X G z_MOST⟩, ⟨_, PySem.W.mg_of X G z_WORTH⟩, ⟨PySem.W.mg_of X G ea_CardError, ex_CardError, ek_CardError, eb_CardError, et_CardError⟩, ⟨PySem.W.mg_of X G ea_BadTable, ex_BadTable, ek_BadTable, eb_BadTable, et_BadTable⟩, ⟨PySem.W.mg_of X G ea_BadMixture, ex_BadMixture, ek_BadMixture, eb_BadMixture, et_BadMixture⟩, ⟨PySem.W.mg_of X G ea_NoCard, ex_NoCard, ek_NoCard, eb_NoCard, et_NoCard⟩, ⟨PySem.W.mg_of X G ea_Unlike, ex_Unlike, ek_Unlike, eb_Unlike, et_Unlike⟩, ⟨PySem.W.mg_of X G ea_BadText, ex_BadText, ek_BadText, eb_BadText, et_BadText⟩, ⟨PySem.W.exm_ref eb_CardError hd_CardError et_CardError sc_BadText, ⟨hg_BadText, hk_BadText, eb_BadText, hd_BadText, ha_BadText, hnC, htkC, hm_BadText⟩, kk_BadText_BadTable, kk_BadText_BadMixture, kk_BadText_NoCard, kk_BadText_Unlike, kk_BadText_BadText⟩, ⟨PySem.W.exm_ref eb_BadTable hd_BadTable et_BadTable sc_BadTable, ⟨hg_BadTable, hk_BadTable, eb_BadTable, hd_BadTable, ha_BadTable, hnC, htkC, hm_BadTable⟩⟩⟩
  have F0 := fun_mk (st := s_law_shape) l0 c0 k0
  have B0 := F0.binds (ps := ["_law_cell"]) fun _ _ _ _ _ _ us hl => match us, hl with | [_], _ => rfl
  have F1 := fun_mk (st := s_law_cell_at) l1 c1 k1
  have B1 := F1.binds (ps := ["_law_script", "_law_k"]) fun _ _ _ _ _ _ us hl => match us, hl with | [_, _], _ => rfl
  have F2 := fun_mk (st := s_law_draw) l2 c2 k2
  have B2 := F2.binds (ps := ["_law_cell", "_law_k", "_law_many"]) fun _ _ _ _ _ _ us hl => match us, hl with | [_, _, _], _ => rfl
  have F3 := fun_mk (st := s_law_table) l3 c3 k3
  have B3 := F3.binds (ps := ["_law_cell", "_law_rows", "_law_columns"]) fun _ _ _ _ _ _ us hl => match us, hl with | [_, _, _], _ => rfl
  have F4 := fun_mk (st := s_is_whole) l4 c4 k4
  have B4 := F4.binds (ps := ["thing"]) fun _ _ _ _ _ _ us hl => match us, hl with | [_], _ => rfl
  have F5 := fun_mk (st := s_asked_table) l5 c5 k5
  have B5 := F5.binds (ps := ["table"]) fun _ _ _ _ _ _ us hl => match us, hl with | [_], _ => rfl
  have F6 := fun_mk (st := s_written) l6 c6 k6
  have B6 := F6.binds (ps := ["table"]) fun _ _ _ _ _ _ us hl => match us, hl with | [_], _ => rfl
  have F7 := fun_mk (st := s_law_other) l7 c7 k7
  have B7 := F7.binds (ps := ["_law_text", "_law_cell"]) fun _ _ _ _ _ _ us hl => match us, hl with | [_, _], _ => rfl
  have F8 := fun_mk (st := s_law_number) l8 c8 k8
  have B8 := F8.binds (ps := ["_law_word"]) fun _ _ _ _ _ _ us hl => match us, hl with | [_], _ => rfl
  have F9 := fun_mk (st := s_law_in) l9 c9 k9
  have B9 := F9.binds (ps := ["_law_text"]) fun _ _ _ _ _ _ us hl => match us, hl with | [_], _ => rfl
  have F10 := fun_mk (st := s_number_in) l10 c10 k10
  have B10 := F10.binds (ps := ["word"]) fun _ _ _ _ _ _ us hl => match us, hl with | [_], _ => rfl
  have F11 := fun_mk (st := s_read) l11 c11 k11
  have B11 := F11.binds (ps := ["text"]) fun _ _ _ _ _ _ us hl => match us, hl with | [_], _ => rfl
  have F12 := fun_mk (st := s_law_asked) l12 c12 k12
  have B12 := F12.binds (ps := ["_law_text"]) fun _ _ _ _ _ _ us hl => match us, hl with | [_], _ => rfl
  have F13 := fun_mk (st := s_law) l13 c13 k13
  refine ⟨PySem.W.fnOf "law" "law" (defArgs s_law) (defBody s_law) (defScope s_law) .none kV13 dc13 pm13 an13 cd13 ct13, fun s v => .of_eq rfl, fun base _ _ => ?_⟩
  have c_law_shape : Cal l.prog w K mg base CX0 1 "_law_shape" ["_law_cell"] (spR K R_law_shape) := ⟨f0, _, ok_law_shape F0 T , PySem.W.mg_of X G a0, k0, B0⟩
  have c_law_cell_at : Cal l.prog w K mg base CX0 1 "_law_cell_at" ["_law_script", "_law_k"] (spR K R_law_cell_at) := ⟨f1, _, ok_law_cell_at F1 T , PySem.W.mg_of X G a1, k1, B1⟩
  have c_law_draw : Cal l.prog w K mg base CX0 1 "_law_draw" ["_law_cell", "_law_k", "_law_many"] (spR K R_law_draw) := ⟨f2, _, ok_law_draw F2 T , PySem.W.mg_of X G a2, k2, B2⟩
  have c_law_table : Cal l.prog w K mg base CX0 2 "_law_table" ["_law_cell", "_law_rows", "_law_columns"] (spR K R_law_table) := ⟨f3, _, ok_law_table F3 T c_law_draw, PySem.W.mg_of X G a3, k3, B3⟩
  have c_is_whole : Cal l.prog w K mg base CX0 1 "is_whole" ["thing"] (spR K R_is_whole) := ⟨f4, _, ok_is_whole F4 T , PySem.W.mg_of X G a4, k4, B4⟩
  have cN_asked_table : Cal l.prog w K mg base (L2N.CX l.prog w) 2 "asked_table" ["table"] (spR K (R_asked_table cBadTable)) := ⟨f5, _, ok_asked_table F5 T c_is_whole, PySem.W.mg_of X G a5, k5, B5⟩
  have c_asked_table : Cal l.prog w K mg base (L2.CX l.prog w) 2 "asked_table" ["table"] (spR K (R_asked_table cBadTable)) := calN cN_asked_table
  have c_written : Cal l.prog w K mg base (L2.CX l.prog w) 3 "written" ["table"] (spR K (R_written cBadTable)) := ⟨f6, _, ok_written F6 T c_asked_table, PySem.W.mg_of X G a6, k6, B6⟩
  have c_law_other : Cal l.prog w K mg base CX0 2 "_law_other" ["_law_text", "_law_cell"] (spR K R_law_other) := ⟨f7, _, ok_law_other F7 T c_law_draw, PySem.W.mg_of X G a7, k7, B7⟩
  have c_law_number : Cal l.prog w K mg base CX0 1 "_law_number" ["_law_word"] (spR K R_law_number) := ⟨f8, _, ok_law_number F8 T , PySem.W.mg_of X G a8, k8, B8⟩
  have c_law_in : Cal l.prog w K mg base CX0 2 "_law_in" ["_law_text"] (spR K R_law_in) := ⟨f9, _, ok_law_in F9 T c_law_number, PySem.W.mg_of X G a9, k9, B9⟩
  have c_number_in : Cal l.prog w K mg base (L2.CX l.prog w) 1 "number_in" ["word"] (spR K (R_number_in cBadText)) := ⟨f10, _, ok_number_in F10 T , PySem.W.mg_of X G a10, k10, B10⟩
  have c_read : Cal l.prog w K mg base (L2.CX l.prog w) 3 "read" ["text"] (spR K (R_read cBadText)) := ⟨f11, _, ok_read F11 T c_number_in cN_asked_table, PySem.W.mg_of X G a11, k11, B11⟩
  have c_law_asked : Cal l.prog w K mg base CX0 4 "_law_asked" ["_law_text"] (spR K R_law_asked) := ⟨f12, _, ok_law_asked F12 T c_read, PySem.W.mg_of X G a12, k12, B12⟩
  exact ok_law F13 T c_law_shape c_law_cell_at c_law_table c_written c_law_other c_law_in c_law_asked c_read
end UU

open PySem PySem.W PyProof.Rows in
set_option maxRecDepth 100000 in
set_option maxHeartbeats 0 in
theorem PySem.Challenge.cw_unseen_k13_texts_holds : PySem.Challenge.rw_unseen_k13_texts.Holds := by
  w_on; o_law; k_head; (case hw => w_witness2)
  k_fill
  refine L2.walk_ofK (l := PySem.Challenge.rw_unseen_k13_texts) (n := 63) (k := 5) (x := "_law_script") (CX := L2.CX0) (sp := fun K => UU.spR K UU.R_law) rfl (by decide) rfl ⟨rfl, by decide, by decide⟩ (fun w h Y => PySem.W.kIn_of Y) ?F (fun K H a ns hl _ hS => UU.law_sp hl hS (UU.law_true ns hl)) (fun _ _ _ _ z => z)
  case F =>
    intro w mg fa h KX G hmg
    refine' UU.all_mk KX G hmg ?a0 ?l0 ?c0 ?k0 ?a1 ?l1 ?c1 ?k1 ?a2 ?l2 ?c2 ?k2 ?a3 ?l3 ?c3 ?k3 ?a4 ?l4 ?c4 ?k4 ?a5 ?l5 ?c5 ?k5 ?a6 ?l6 ?c6 ?k6 ?a7 ?l7 ?c7 ?k7 ?a8 ?l8 ?c8 ?k8 ?a9 ?l9 ?c9 ?k9 ?a10 ?l10 ?c10 ?k10 ?a11 ?l11 ?c11 ?k11 ?a12 ?l12 ?c12 ?k12 ?a13 ?l13 ?c13 ?k13 ?z_all ?z_any ?z_bool ?z_int ?z_isinstance ?z_len ?z_list ?z_range ?z_str ?z_zip ?z_FIGURES ?z_MOST ?z_WORTH ?hnC ?htkC ?hd_CardError ?hg_BadText ?hk_BadText ?hd_BadText ?ha_BadText ?hm_BadText ?sc_BadText ?kk_BadText_BadTable ?kk_BadText_BadMixture ?kk_BadText_NoCard ?kk_BadText_Unlike ?kk_BadText_BadText ?hg_BadTable ?hk_BadTable ?hd_BadTable ?ha_BadTable ?hm_BadTable ?sc_BadTable ?ea_CardError ?ex_CardError ?ek_CardError ?eb_CardError ?et_CardError ?ea_BadTable ?ex_BadTable ?ek_BadTable ?eb_BadTable ?et_BadTable ?ea_BadMixture ?ex_BadMixture ?ek_BadMixture ?eb_BadMixture ?et_BadMixture ?ea_NoCard ?ex_NoCard ?ek_NoCard ?eb_NoCard ?et_NoCard ?ea_Unlike ?ex_Unlike ?ek_Unlike ?eb_Unlike ?et_Unlike ?ea_BadText ?ex_BadText ?ek_BadText ?eb_BadText ?et_BadText
    (case ea_CardError => k_is)
    (case ea_BadTable => k_is)
    (case ea_BadMixture => k_is)
    (case ea_NoCard => k_is)
    (case ea_Unlike => k_is)
    (case ea_BadText => k_is)
    (case a0 => k_is)
    (case l0 => k_is)
    (case c0 => k_is)
    (case k0 => k_is)
    (case a1 => k_is)
    (case l1 => k_is)
    (case c1 => k_is)
    (case k1 => k_is)
    (case a2 => k_is)
    (case l2 => k_is)
    (case c2 => k_is)
    (case k2 => k_is)
    (case a3 => k_is)
    (case l3 => k_is)
    (case c3 => k_is)
    (case k3 => k_is)
    (case a4 => k_is)
    (case l4 => k_is)
    (case c4 => k_is)
    (case k4 => k_is)
    (case a5 => k_is)
    (case l5 => k_is)
    (case c5 => k_is)
    (case k5 => k_is)
    (case a6 => k_is)
    (case l6 => k_is)
    (case c6 => k_is)
    (case k6 => k_is)
    (case a7 => k_is)
    (case l7 => k_is)
    (case c7 => k_is)
    (case k7 => k_is)
    (case a8 => k_is)
    (case l8 => k_is)
    (case c8 => k_is)
    (case k8 => k_is)
    (case a9 => k_is)
    (case l9 => k_is)
    (case c9 => k_is)
    (case k9 => k_is)
    (case a10 => k_is)
    (case l10 => k_is)
    (case c10 => k_is)
    (case k10 => k_is)
    (case a11 => k_is)
    (case l11 => k_is)
    (case c11 => k_is)
    (case k11 => k_is)
    (case a12 => k_is)
    (case l12 => k_is)
    (case c12 => k_is)
    (case k12 => k_is)
    (case a13 => k_is)
    (case l13 => k_is)
    (case c13 => k_is)
    (case k13 => k_is)
    (case z_all => k_is)
    (case z_any => k_is)
    (case z_bool => k_is)
    (case z_int => k_is)
    (case z_isinstance => k_is)
    (case z_len => k_is)
    (case z_list => k_is)
    (case z_range => k_is)
    (case z_str => k_is)
    (case z_zip => k_is)
    (case z_FIGURES => k_is)
    (case z_MOST => k_is)
    (case z_WORTH => k_is)
    (case hnC => k_is)
    (case htkC => k_is)
    (case hd_CardError => k_is)
    (case hg_BadText => k_is)
    (case hk_BadText => k_is)
    (case hd_BadText => k_is)
    (case ha_BadText => k_is)
    (case hm_BadText => k_is)
    (case sc_BadText => k_is)
    (case kk_BadText_BadTable => kit_is)
    (case kk_BadText_BadMixture => kit_is)
    (case kk_BadText_NoCard => kit_is)
    (case kk_BadText_Unlike => kit_is)
    (case kk_BadText_BadText => kit_is)
    (case hg_BadTable => k_is)
    (case hk_BadTable => k_is)
    (case hd_BadTable => k_is)
    (case ha_BadTable => k_is)
    (case hm_BadTable => k_is)
    (case sc_BadTable => k_is)
    (case ex_CardError => k_exc)
    (case ek_CardError => k_is)
    (case eb_CardError => k_is)
    (case et_CardError => k_is)
    (case ex_BadTable => k_exc)
    (case ek_BadTable => k_is)
    (case eb_BadTable => k_is)
    (case et_BadTable => k_is)
    (case ex_BadMixture => k_exc)
    (case ek_BadMixture => k_is)
    (case eb_BadMixture => k_is)
    (case et_BadMixture => k_is)
    (case ex_NoCard => k_exc)
    (case ek_NoCard => k_is)
    (case eb_NoCard => k_is)
    (case et_NoCard => k_is)
    (case ex_Unlike => k_exc)
    (case ek_Unlike => k_is)
    (case eb_Unlike => k_is)
    (case et_Unlike => k_is)
    (case ex_BadText => k_exc)
    (case ek_BadText => k_is)
    (case eb_BadText => k_is)
    (case et_BadText => k_is)
#print axioms PySem.Challenge.cw_unseen_k13_texts_holds
