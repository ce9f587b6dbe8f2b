import PyProof.Rows.All
import Wide.All
import OpenK.AllK
import Wide.FinOn
import HandS.ForMost
import HandS.ForExc
import HandS.IsInst
import HandS.Wide
import HandS.Deep
import HandS.Style
import HandS.CallSlots
import HandS.Codes
import HandS.Conv
import HandS.SortKw
import PySem.Challenge.RW_unseen_k01_fractions
set_option Elab.async false
set_option linter.all false
set_option maxRecDepth 100000
set_option maxHeartbeats 8000000
/-! Data-level reasoning over the hand layer: what a program's text computes, said of PyData alone. F is the part of the abstract heap that never changes again; lists that a def grows itself are its own (ow). -/
namespace UU
open PySem L2

/-! ### the quiet part grows -/
structure Go (F H F' H' : Hp) : Prop where
  ff : Same F F'
  hh : Same H H'
  fh : Same F' H'
  nw : ∀ a o, H a = some o → F' a = F a
theorem Go.refl {F H : Hp} (h : Same F H) : Go F H F H := ⟨.refl F, .refl H, h, fun _ _ _ => rfl⟩
theorem Go.trans {F H F1 H1 F2 H2 : Hp} (a : Go F H F1 H1) (b : Go F1 H1 F2 H2) : Go F H F2 H2 :=
  ⟨a.ff.trans b.ff, a.hh.trans b.hh, b.fh, fun x o e => (b.nw x o (a.hh x o e)).trans (a.nw x o e)⟩
/-- the heap alone grows -/
theorem Go.heap {F H H' : Hp} (h : Same F H) (e : Same H H') : Go F H F H' := ⟨.refl F, e, h.trans e, fun _ _ _ => rfl⟩
theorem same_new {H : Hp} {p : Addr} {o : HO} (h : H p = none) : Same H (upd H p o) := fun a u e => by
  rw [upd_ne (ne_of_none e h)]
  exact e
theorem same_upd {F H : Hp} {p : Addr} {o : HO} (e : Same F H) (h : F p = none) : Same F (upd H p o) := fun a u q => by
  rw [upd_ne (ne_of_none q h)]
  exact e a u q
theorem same_updF {F H : Hp} {p : Addr} {o : HO} (e : Same F H) (h : H p = some o) : Same (upd F p o) H := fun a u q => by
  by_cases hp : a = p
  · subst hp
    rw [upd_same] at q
    exact h.trans q
  · rw [upd_ne hp] at q
    exact e a u q
theorem same_both {F H : Hp} {p : Addr} {o : HO} (e : Same F H) : Same (upd F p o) (upd H p o) := fun a u q => by
  by_cases hp : a = p
  · subst hp
    rw [upd_same] at q ⊢
    exact q
  · rw [upd_ne hp] at q ⊢
    exact e a u q
/-- a new object that is quiet from the start -/
theorem Go.new {F H : Hp} {p : Addr} {o : HO} (h : Same F H) (hp : H p = none) : Go F H (upd F p o) (upd H p o) :=
  ⟨same_new (h.free hp), same_new hp, same_both h, fun a u e => upd_ne (ne_of_none e hp)⟩

theorem seqT {K : PySem.W.Frag} {H H' : Hp} {a : Addr} {xs : List V} (e : Same H H') (h : SqT K H a xs) : SqT K H' a xs := by
  rcases h with h | h
  · rcases h with h | ⟨o, h⟩
    · exact .inl (.inl (e _ _ h))
    · exact .inl (.inr ⟨o, e _ _ h⟩)
  · exact .inr h

section
variable {K : PySem.W.Frag}
mutual
theorem dp_mono {F F' : Hp} (e : Same F F') : ∀ {v : V} {d : PyData}, Dp K F v d → Dp K F' v d
  | _, _, .non => .non
  | _, _, .bl b => .bl b
  | _, _, .int i => .int i
  | _, _, .str x => .str x
  | _, _, .lst h a => .lst (Same.seq e h) (dpAll_mono e a)
  | _, _, .tup h a => .tup (seqT e h) (dpAll_mono e a)
theorem dpAll_mono {F F' : Hp} (e : Same F F') : ∀ {vs : List V} {ds : List PyData}, DpAll K F vs ds → DpAll K F' vs ds
  | _, _, .nil => .nil
  | _, _, .cons h t => .cons (dp_mono e h) (dpAll_mono e t)
end
theorem dpAll_len {F : Hp} : ∀ {vs : List V} {ds : List PyData}, DpAll K F vs ds → vs.length = ds.length
  | _, _, .nil => rfl
  | _, _, .cons _ t => by rw [List.length_cons, List.length_cons, dpAll_len t]
theorem dpAll_get {F : Hp} : ∀ {vs : List V} {ds : List PyData} {i : Nat} {d : PyData}, DpAll K F vs ds → ds[i]? = some d → ∃ v, vs[i]? = some v ∧ Dp K F v d
  | _, _, _, _, .nil, e => by simp at e
  | _, _, 0, _, .cons h _, e => by simp at e; subst e; exact ⟨_, rfl, h⟩
  | _, _, i + 1, d, .cons _ t, e => by
    obtain ⟨v, h1, h2⟩ := dpAll_get (i := i) (d := d) t (by simpa using e)
    exact ⟨v, by simpa using h1, h2⟩
theorem dpAll_getV {F : Hp} : ∀ {vs : List V} {ds : List PyData} {i : Nat} {v : V}, DpAll K F vs ds → vs[i]? = some v → ∃ d, ds[i]? = some d ∧ Dp K F v d
  | _, _, _, _, .nil, e => by simp at e
  | _, _, 0, _, .cons h _, e => by simp at e; subst e; exact ⟨_, rfl, h⟩
  | _, _, i + 1, v, .cons _ t, e => by
    obtain ⟨d, h1, h2⟩ := dpAll_getV (i := i) (v := v) t (by simpa using e)
    exact ⟨d, by simpa using h1, h2⟩
theorem dpAll_append {F : Hp} : ∀ {vs ws : List V} {ds es : List PyData}, DpAll K F vs ds → DpAll K F ws es → DpAll K F (vs ++ ws) (ds ++ es)
  | _, _, _, _, .nil, s => s
  | _, _, _, _, .cons r t, s => .cons r (dpAll_append t s)
theorem dpAll_set {F : Hp} {v : V} {d : PyData} (h : Dp K F v d) : ∀ {vs : List V} {ds : List PyData} (i : Nat), DpAll K F vs ds → DpAll K F (vs.set i v) (ds.set i d)
  | _, _, _, .nil => .nil
  | _, _, 0, .cons _ t => .cons h t
  | _, _, i + 1, .cons r t => .cons r (dpAll_set h i t)
theorem dpAll_take {F : Hp} : ∀ {vs : List V} {ds : List PyData} (n : Nat), DpAll K F vs ds → DpAll K F (vs.take n) (ds.take n)
  | _, _, 0, _ => .nil
  | _, _, _ + 1, .nil => .nil
  | _, _, n + 1, .cons r t => .cons r (dpAll_take n t)
theorem dpAll_drop {F : Hp} : ∀ {vs : List V} {ds : List PyData} (n : Nat), DpAll K F vs ds → DpAll K F (vs.drop n) (ds.drop n)
  | _, _, 0, r => r
  | _, _, _ + 1, .nil => .nil
  | _, _, n + 1, .cons _ t => dpAll_drop n t
theorem dpAll_erase {F : Hp} : ∀ {vs : List V} {ds : List PyData} (i : Nat), DpAll K F vs ds → DpAll K F (vs.eraseIdx i) (ds.eraseIdx i)
  | _, _, _, .nil => .nil
  | _, _, 0, .cons _ t => t
  | _, _, i + 1, .cons r t => .cons r (dpAll_erase i t)
theorem dpAll_rev {F : Hp} : ∀ {vs : List V} {ds : List PyData}, DpAll K F vs ds → DpAll K F vs.reverse ds.reverse
  | _, _, .nil => .nil
  | _, _, .cons r t => by rw [List.reverse_cons, List.reverse_cons]; exact dpAll_append (dpAll_rev t) (.cons r .nil)
theorem dpAll_ints {F : Hp} : ∀ {vs : List V} {ns : List Int}, DpAll K F vs (ns.map PyData.int) → vs = ns.map V.int
  | _, [], .nil => rfl
  | _, _ :: _, .cons (.int _) t => by rw [List.map_cons, dpAll_ints t]
theorem ints_dpAll {F : Hp} : ∀ (ns : List Int), DpAll K F (ns.map V.int) (ns.map PyData.int)
  | [] => .nil
  | _ :: t => .cons (.int _) (ints_dpAll t)
theorem dpAll_bools {F : Hp} : ∀ {vs : List V} {ns : List Bool}, DpAll K F vs (ns.map PyData.bool) → vs = ns.map V.bl
  | _, [], .nil => rfl
  | _, _ :: _, .cons (.bl _) t => by rw [List.map_cons, dpAll_bools t]
theorem dpAll_strs {F : Hp} : ∀ {vs : List V} {ns : List Str}, DpAll K F vs (ns.map PyData.str) → vs = ns.map V.str
  | _, [], .nil => rfl
  | _, _ :: _, .cons (.str _) t => by rw [List.map_cons, dpAll_strs t]
theorem strs_dpAll {F : Hp} : ∀ (ns : List Str), DpAll K F (ns.map V.str) (ns.map PyData.str)
  | [] => .nil
  | _ :: t => .cons (.str _) (strs_dpAll t)
/-- a value that stands in no heap -/
inductive Sc : V → PyData → Prop where
  | non : Sc .non .none
  | bl (b : Bool) : Sc (.bl b) (.bool b)
  | int (i : Int) : Sc (.int i) (.int i)
  | str (x : Str) : Sc (.str x) (.str x)
theorem Sc.dp {F : Hp} {v : V} {d : PyData} : Sc v d → Dp K F v d
  | .non => .non
  | .bl b => .bl b
  | .int i => .int i
  | .str x => .str x
theorem dp_int {F : Hp} {v : V} {i : Int} : Dp K F v (.int i) → v = .int i
  | .int _ => rfl
theorem dp_bool {F : Hp} {v : V} {b : Bool} : Dp K F v (.bool b) → v = .bl b
  | .bl _ => rfl
theorem dp_str {F : Hp} {v : V} {b : Str} : Dp K F v (.str b) → v = .str b
  | .str _ => rfl
theorem dp_none {F : Hp} {v : V} : Dp K F v .none → v = .non
  | .non => rfl
theorem dp_list {F : Hp} {v : V} {ds : List PyData} : Dp K F v (.list ds) → ∃ a xs, v = .ref a ∧ SqL K F a xs ∧ DpAll K F xs ds
  | .lst h a => ⟨_, _, rfl, h, a⟩
theorem dp_tuple {F : Hp} {v : V} {ds : List PyData} : Dp K F v (.tuple ds) → ∃ a xs, v = .ref a ∧ SqT K F a xs ∧ DpAll K F xs ds
  | .tup h a => ⟨_, _, rfl, h, a⟩

/-! ### what a name holds -/
inductive Fl where
  | im (d : PyData)
  | ow (ds : List PyData)
inductive Sl where
  | no
  | fl (x : Fl)
  | ob (C : Addr) (fs : List (Str × Fl))
abbrev Sl.im (d : PyData) : Sl := .fl (.im d)
abbrev Sl.ow (ds : List PyData) : Sl := .fl (.ow ds)
abbrev Lab := Addr → Option (Nat × Str)
abbrev noLab : Lab := fun _ => none
def FlV (K : PySem.W.Frag) (F H : Hp) (lab : Lab) (o : Nat × Str) (v : V) : Fl → Prop
  | .im d => Dp K F v d
  | .ow ds => ∃ p vs, v = .ref p ∧ F p = none ∧ lab p = some o ∧ H p = some (.lst vs) ∧ DpAll K F vs ds
def FsV (K : PySem.W.Frag) (F H : Hp) (lab : Lab) (i : Nat) : List (Str × V) → List (Str × Fl) → Prop
  | [], [] => True
  | p :: ps, q :: qs => p.1 = q.1 ∧ FlV K F H lab (i, q.1) p.2 q.2 ∧ FsV K F H lab i ps qs
  | _, _ => False
def SlV (K : PySem.W.Frag) (F H : Hp) (lab : Lab) (i : Nat) (v : V) : Sl → Prop
  | .no => True
  | .fl x => FlV K F H lab (i, "") v x
  | .ob C fs => ∃ a dx fvs, v = .ref a ∧ F a = some (.ins C dx fvs) ∧ FsV K F H lab i fvs fs
abbrev Env := List Sl
structure Rs (K : PySem.W.Frag) (F : Hp) (lab : Lab) (σ : L2.St) (H : Hp) (G : Env) : Prop where
  fh : Same F H
  len : G.length = σ.length
  sl : ∀ (i : Nat) (s : Sl), G[i]? = some s → s ≠ .no → ∃ v, σ[i]? = some (some v) ∧ SlV K F H lab i v s
theorem FlV.go {F H F' H' : Hp} {lab : Lab} {o : Nat × Str} {v : V} {x : Fl} (g : Go F H F' H') (h : FlV K F H lab o v x) : FlV K F' H' lab o v x := by
  cases x with
  | im d => exact dp_mono g.ff h
  | ow ds =>
    obtain ⟨p, vs, e, n, l, hp, a⟩ := h
    exact ⟨p, vs, e, (g.nw p _ hp).trans n, l, g.hh _ _ hp, dpAll_mono g.ff a⟩
theorem FsV.go {F H F' H' : Hp} {lab : Lab} {i : Nat} (g : Go F H F' H') : ∀ {ps : List (Str × V)} {qs : List (Str × Fl)}, FsV K F H lab i ps qs → FsV K F' H' lab i ps qs
  | [], [], _ => trivial
  | _ :: _, _ :: _, h => ⟨h.1, h.2.1.go g, FsV.go g h.2.2⟩
theorem SlV.go {F H F' H' : Hp} {lab : Lab} {i : Nat} {v : V} {s : Sl} (g : Go F H F' H') (h : SlV K F H lab i v s) : SlV K F' H' lab i v s := by
  cases s with
  | no => trivial
  | fl x => exact FlV.go g h
  | ob C fs =>
    obtain ⟨a, dx, fvs, e, ha, hf⟩ := h
    exact ⟨a, dx, fvs, e, g.ff _ _ ha, hf.go g⟩
theorem Rs.go {F H F' H' : Hp} {lab : Lab} {σ : L2.St} {G : Env} (r : Rs K F lab σ H G) (g : Go F H F' H') : Rs K F' lab σ H' G :=
  ⟨g.fh, r.len, fun i s h n => let ⟨v, e, q⟩ := r.sl i s h n; ⟨v, e, q.go g⟩⟩
/-- a value that has come: what is its own is new since H0 -/
def NvV (K : PySem.W.Frag) (F H H0 : Hp) (v : V) (s : Sl) : Prop := ∃ lab : Lab, SlV K F H lab 0 v s ∧ ∀ p o, lab p = some o → H0 p = none
theorem NvV.im {F H H0 : Hp} {v : V} {d : PyData} (h : Dp K F v d) : NvV K F H H0 v (.im d) := ⟨noLab, h, fun _ _ e => nomatch e⟩
theorem NvV.dp {F H H0 : Hp} {v : V} {d : PyData} (h : NvV K F H H0 v (.im d)) : Dp K F v d := let ⟨_, h, _⟩ := h; h
theorem NvV.go {F H F' H' H0 : Hp} {v : V} {s : Sl} (g : Go F H F' H') (h : NvV K F H H0 v s) : NvV K F' H' H0 v s := let ⟨l, h, n⟩ := h; ⟨l, h.go g, n⟩
theorem NvV.base {F H H0 H1 : Hp} {v : V} {s : Sl} (e : Same H0 H1) (h : NvV K F H H1 v s) : NvV K F H H0 v s := let ⟨l, h, n⟩ := h; ⟨l, h, fun p o q => e.free (n p o q)⟩

/-! ### evaluation, at the level of data -/
def EvS (K : PySem.W.Frag) (te : TE) (G : Env) (s : Sl) : Prop := ∀ F lab σ H, Rs K F lab σ H G → ∀ Q : VK, (∀ v F' H', Go F H F' H' → NvV K F' H' H v s → Q v H') → te σ H Q
abbrev Ev (K : PySem.W.Frag) (te : TE) (G : Env) (d : PyData) : Prop := EvS K te G (.im d)
/-- .. where the value may lie in a list that still grows -/
def EvH (K : PySem.W.Frag) (te : TE) (G : Env) (d : PyData) : Prop := ∀ F lab σ H, Rs K F lab σ H G → ∀ Q : VK, (∀ v F' H', Go F H F' H' → Dp K H' v d → Q v H') → te σ H Q
def EvB (K : PySem.W.Frag) (tt : TT) (G : Env) (b : Bool) : Prop := ∀ F lab σ H, Rs K F lab σ H G → ∀ Q : Bool → Hp → Prop, (∀ F' H', Go F H F' H' → Q b H') → tt σ H Q
/-- an argument, as the callee sees it -/
def ArgV (K : PySem.W.Frag) (F : Hp) (v : V) (s : Sl) : Prop := SlV K F F noLab 0 v s
def ArgsV (K : PySem.W.Frag) (F : Hp) : List V → List Sl → Prop
  | [], [] => True
  | v :: vs, s :: ss => ArgV K F v s ∧ ArgsV K F vs ss
  | _, _ => False
def EvA (K : PySem.W.Frag) (ta : TA) (G : Env) (ss : List Sl) : Prop := ∀ F lab σ H, Rs K F lab σ H G → ∀ Q : List V → Hp → Prop, (∀ vs F' H', Go F H F' H' → ArgsV K F' vs ss → Q vs H') → ta σ H Q
def EvAH (K : PySem.W.Frag) (ta : TA) (G : Env) (ss : List Sl) : Prop := ∀ F lab σ H, Rs K F lab σ H G → ∀ Q : List V → Hp → Prop, (∀ vs F' H', Go F H F' H' → ArgsV K H' vs ss → Q vs H') → ta σ H Q
theorem FlV.same {F F' H H' : Hp} {o o' : Nat × Str} {v : V} {x : Fl} (g : Same F F') (h : FlV K F H noLab o v x) : FlV K F' H' noLab o' v x := by
  cases x with
  | im d => exact dp_mono g h
  | ow ds =>
    obtain ⟨p, vs, e, n, l, hp, a⟩ := h
    cases l
theorem FsV.same {F F' H H' : Hp} {i i' : Nat} (g : Same F F') : ∀ {ps : List (Str × V)} {qs : List (Str × Fl)}, FsV K F H noLab i ps qs → FsV K F' H' noLab i' ps qs
  | [], [], _ => trivial
  | _ :: _, _ :: _, h => ⟨h.1, h.2.1.same g, FsV.same g h.2.2⟩
theorem SlV.same {F F' H H' : Hp} {i i' : Nat} {v : V} {s : Sl} (g : Same F F') (h : SlV K F H noLab i v s) : SlV K F' H' noLab i' v s := by
  cases s with
  | no => trivial
  | fl x => exact FlV.same g h
  | ob C fs =>
    obtain ⟨a, dx, fvs, e, ha, hf⟩ := h
    exact ⟨a, dx, fvs, e, g _ _ ha, hf.same g⟩
theorem ArgV.mono {F F' : Hp} {v : V} {s : Sl} (g : Same F F') (h : ArgV K F v s) : ArgV K F' v s := SlV.same g h
theorem ArgsV.mono {F F' : Hp} (g : Same F F') : ∀ {vs : List V} {ss : List Sl}, ArgsV K F vs ss → ArgsV K F' vs ss
  | [], [], _ => trivial
  | _ :: _, _ :: _, h => ⟨h.1.mono g, ArgsV.mono g h.2⟩
theorem ArgV.dp {F : Hp} {v : V} {d : PyData} (h : ArgV K F v (.im d)) : Dp K F v d := h
theorem EvS.h {te : TE} {G : Env} {d : PyData} (h : Ev K te G d) : EvH K te G d := fun F lab σ H r Q q => h F lab σ H r Q fun v F' H' g n => q v F' H' g (dp_mono g.fh n.dp)
theorem EvA.h {ta : TA} {G : Env} {ss : List Sl} (h : EvA K ta G ss) : EvAH K ta G ss := fun F lab σ H r Q q => h F lab σ H r Q fun v F' H' g n => q v F' H' g (n.mono g.fh)
/-- of no heap: quiet -/
theorem EvH.sc {te : TE} {G : Env} {d : PyData} (h : EvH K te G d) (hd : ∀ F F' v, Dp K F v d → Dp K F' v d) : Ev K te G d := fun F lab σ H r Q q => h F lab σ H r Q fun v F' H' g n => q v F' H' g (.im (hd _ _ _ n))
/-- a new list becomes quiet -/
theorem EvS.freeze {te : TE} {G : Env} {ds : List PyData} (h : EvS K te G (.ow ds)) : Ev K te G (.list ds) := fun F lab σ H r Q q => h F lab σ H r Q fun v F' H' g n => by
  obtain ⟨l, ⟨p, vs, rfl, fp, lp, hp, a⟩, nw⟩ := n
  have hn := nw p _ lp
  refine q (.ref p) (upd F' p (.lst vs)) H' ⟨g.ff.trans (same_new fp), g.hh, same_updF g.fh hp, fun a o e => ?_⟩ (.im (.lst (.inl (.inl upd_same)) (dpAll_mono (same_new fp) a)))
  rw [upd_ne (ne_of_none e hn)]
  exact g.nw a o e
end
end UU
namespace UU
open PySem L2
section
variable {K : PySem.W.Frag} {G : Env} {ta tb te tc : TE}

/-! ### names, constants -/
theorem ev_var {i : Nat} {d : PyData} (h : G[i]? = some (.im d)) : Ev K (tVar i) G d := fun F lab σ H r Q q => by
  obtain ⟨v, e, s⟩ := r.sl i _ h (fun z => nomatch z)
  exact ⟨v, e, q v F H (.refl r.fh) (.im s)⟩
theorem ev_c {v : V} {d : PyData} (h : Sc v d) : Ev K (tC v) G d := fun F lab σ H r Q q => q v F H (.refl r.fh) (.im h.dp)
/-- a list that grows, read in passing -/
theorem eh_own {i : Nat} {ds : List PyData} (h : G[i]? = some (.ow ds)) : EvH K (tVar i) G (.list ds) := fun F lab σ H r Q q => by
  obtain ⟨v, e, p, vs, rfl, fp, lp, hp, a⟩ := r.sl i _ h (fun z => nomatch z)
  exact ⟨_, e, q _ F H (.refl r.fh) (.lst (.inl (.inl hp)) (dpAll_mono r.fh a))⟩
def quiet : List (Str × Fl) → List (Str × Fl)
  | [] => []
  | (n, .im d) :: r => (n, .im d) :: quiet r
  | (n, .ow ds) :: r => (n, .im (.list ds)) :: quiet r
def allIm : List (Str × Fl) → Bool
  | [] => true
  | (_, .im _) :: r => allIm r
  | (_, .ow _) :: _ => false
theorem FsV.allIm {F H F' H' : Hp} {lab : Lab} {i j : Nat} (g : Same F F') : ∀ {ps : List (Str × V)} {qs : List (Str × Fl)}, UU.allIm qs = true → FsV K F H lab i ps qs → FsV K F' H' noLab j ps qs
  | [], [], _, _ => trivial
  | _ :: _, (_, .im _) :: _, a, h => ⟨h.1, dp_mono g h.2.1, FsV.allIm g a h.2.2⟩
  | _ :: _, (_, .ow _) :: _, a, _ => nomatch a
/-- an object, all of it quiet -/
theorem ev_obj {i : Nat} {C : Addr} {fs : List (Str × Fl)} (h : G[i]? = some (.ob C fs)) (a : allIm fs = true) : EvS K (tVar i) G (.ob C fs) := fun F lab σ H r Q q => by
  obtain ⟨v, e, p, dx, fvs, rfl, ha, hf⟩ := r.sl i _ h (fun z => nomatch z)
  exact ⟨_, e, q _ F H (.refl r.fh) ⟨noLab, ⟨p, dx, fvs, rfl, ha, hf.allIm (.refl F) a⟩, fun _ _ z => nomatch z⟩⟩
/-- .. as the callee sees it: its own lists are read in passing -/
theorem FsV.quiet {F H : Hp} {lab : Lab} {i j : Nat} (g : Same F H) : ∀ {ps : List (Str × V)} {qs : List (Str × Fl)}, FsV K F H lab i ps qs → FsV K H H noLab j ps (quiet qs)
  | [], [], _ => trivial
  | _ :: _, (_, .im _) :: _, h => ⟨h.1, dp_mono g h.2.1, FsV.quiet g h.2.2⟩
  | (_, _) :: _, (_, .ow _) :: _, ⟨e, ⟨p, vs, e2, _, _, hp, a⟩, t⟩ => ⟨e, by
      subst e2
      exact Dp.lst (.inl (.inl hp)) (dpAll_mono g a), FsV.quiet g t⟩
def quietS : Sl → Sl
  | .no => .no
  | .fl (.im d) => .im d
  | .fl (.ow ds) => .im (.list ds)
  | .ob C fs => .ob C (quiet fs)
theorem SlV.quiet {F H : Hp} {lab : Lab} {i : Nat} {v : V} (g : Same F H) : ∀ {s : Sl}, SlV K F H lab i v s → ArgV K H v (quietS s)
  | .no, _ => trivial
  | .fl (.im d), h => dp_mono g h
  | .fl (.ow ds), ⟨p, vs, e, _, _, hp, a⟩ => by
    subst e
    exact Dp.lst (.inl (.inl hp)) (dpAll_mono g a)
  | .ob C fs, ⟨a, dx, fvs, e, ha, hf⟩ => ⟨a, dx, fvs, e, g _ _ ha, hf.quiet g⟩
/-- a field of a quiet object -/
theorem FsV.look {F H : Hp} {lab : Lab} {i : Nat} {f : Str} : ∀ {ps : List (Str × V)} {qs : List (Str × Fl)} {x : Fl}, FsV K F H lab i ps qs → qs.lookup f = some x → ∃ v, ps.lookup f = some v ∧ FlV K F H lab (i, f) v x
  | [], [], _, _, e => by simp at e
  | (n, w) :: ps, (m, y) :: qs, x, h, e => by
    obtain ⟨h1, h2, h3⟩ := h
    dsimp only at h1 h2
    subst h1
    rw [List.lookup_cons] at e ⊢
    by_cases hf : f = n
    · subst hf
      simp only [beq_self_eq_true] at e ⊢
      cases e
      exact ⟨w, rfl, h2⟩
    · have hb : (f == n) = false := by simpa using hf
      rw [hb] at e ⊢
      exact FsV.look h3 e
theorem ev_fld {i : Nat} {C : Addr} {fs : List (Str × Fl)} {f : Str} {d : PyData} (h : G[i]? = some (.ob C fs)) (c : Cls K C) (n : NoAttr K C f) (l : fs.lookup f = some (.im d)) : Ev K (tFld K (tVar i) f) G d := fun F lab σ H r Q q => by
  obtain ⟨v, e, p, dx, fvs, rfl, ha, hf⟩ := r.sl i _ h (fun z => nomatch z)
  obtain ⟨w, lw, hw⟩ := hf.look l
  exact ⟨_, e, p, C, dx, fvs, w, rfl, r.fh _ _ ha, c, n, lw, q _ F H (.refl r.fh) (.im hw)⟩
theorem eh_fldO {i : Nat} {C : Addr} {fs : List (Str × Fl)} {f : Str} {ds : List PyData} (h : G[i]? = some (.ob C fs)) (c : Cls K C) (n : NoAttr K C f) (l : fs.lookup f = some (.ow ds)) : EvH K (tFld K (tVar i) f) G (.list ds) := fun F lab σ H r Q q => by
  obtain ⟨v, e, p, dx, fvs, rfl, ha, hf⟩ := r.sl i _ h (fun z => nomatch z)
  obtain ⟨w, lw, y, vs, rfl, fp, lp, hp, a⟩ := hf.look l
  exact ⟨_, e, p, C, dx, fvs, _, rfl, r.fh _ _ ha, c, n, lw, q _ F H (.refl r.fh) (.lst (.inl (.inl hp)) (dpAll_mono r.fh a))⟩

/-! ### operations whose answer stands in no heap -/
theorem ev_op2 {r : R2} {a b d : PyData} (ha : EvH K ta G a) (hb : EvH K tb G b) (hr : ∀ H x y, Dp K H x a → Dp K H y b → ∀ Q : VK, (∀ v, Sc v d → Q v H) → r x y H Q) : Ev K (tOp r ta tb) G d := fun F lab σ H rs Q q =>
  ha F lab σ H rs _ fun x F1 H1 g1 d1 => hb F1 lab σ H1 (rs.go g1) _ fun y F2 H2 g2 d2 => hr H2 x y (dp_mono g2.hh d1) d2 Q fun v s => q v F2 H2 (g1.trans g2) (.im s.dp)
theorem ev_un {r : V → Hp → VK → Prop} {a d : PyData} (ha : EvH K ta G a) (hr : ∀ H x, Dp K H x a → ∀ Q : VK, (∀ v, Sc v d → Q v H) → r x H Q) : Ev K (tUn r ta) G d := fun F lab σ H rs Q q =>
  ha F lab σ H rs _ fun x F1 H1 g1 d1 => hr H1 x d1 Q fun v s => q v F1 H1 g1 (.im s.dp)
theorem ev_I0 {g : Int → Int → V} {i j : Int} {d : PyData} (ha : EvH K ta G (.int i)) (hb : EvH K tb G (.int j)) (s : Sc (g i j) d) : Ev K (tOp (rI0 g) ta tb) G d :=
  ev_op2 ha hb fun H x y hx hy Q q => ⟨i, j, dp_int hx, dp_int hy, q _ s⟩
theorem ev_I {C : Int → Int → Prop} {g : Int → Int → V} {i j : Int} {d : PyData} (ha : EvH K ta G (.int i)) (hb : EvH K tb G (.int j)) (s : Sc (g i j) d) (c : C i j) : Ev K (tOp (rI C g) ta tb) G d :=
  ev_op2 ha hb fun H x y hx hy Q q => ⟨i, j, dp_int hx, dp_int hy, c, q _ s⟩
theorem ev_neg {i : Int} (ha : EvH K ta G (.int i)) : Ev K (tUn (rU fun i => .int (-i)) ta) G (.int (-i)) := ev_un ha fun H x hx Q q => ⟨i, dp_int hx, q _ (.int _)⟩
theorem ev_eqD {a b : PyData} (ha : EvH K ta G a) (hb : EvH K tb G b) (sa : SeqAt.shaped a = true) (sb : SeqAt.shaped b = true) : Ev K (tOp (rEqD K) ta tb) G (.bool (PyData.eqv a b)) :=
  ev_op2 ha hb fun H x y hx hy Q q => ⟨a, b, hx, hy, sa, sb, q _ (.bl _)⟩
theorem ev_neD {a b : PyData} (ha : EvH K ta G a) (hb : EvH K tb G b) (sa : SeqAt.shaped a = true) (sb : SeqAt.shaped b = true) : Ev K (tOp (rNeD K) ta tb) G (.bool (!PyData.eqv a b)) :=
  ev_op2 ha hb fun H x y hx hy Q q => ⟨a, b, hx, hy, sa, sb, q _ (.bl _)⟩
theorem ev_inD {a : PyData} {ds : List PyData} (ha : EvH K ta G a) (hb : EvH K tb G (.list ds)) (sa : SeqAt.shaped a = true) (sb : SeqAt.shaped (.list ds) = true) : Ev K (tOp (rInD K) ta tb) G (.bool (ds.any fun z => PyData.eqv z a)) :=
  ev_op2 ha hb fun H x y hx hy Q q => ⟨a, ds, hx, hy, sa, sb, q _ (.bl _)⟩
theorem ev_notInD {a : PyData} {ds : List PyData} (ha : EvH K ta G a) (hb : EvH K tb G (.list ds)) (sa : SeqAt.shaped a = true) (sb : SeqAt.shaped (.list ds) = true) : Ev K (tOp (rNotInD K) ta tb) G (.bool (!ds.any fun z => PyData.eqv z a)) :=
  ev_op2 ha hb fun H x y hx hy Q q => ⟨a, ds, hx, hy, sa, sb, q _ (.bl _)⟩
/-- a < b < c, of whole numbers -/
theorem ev_chain {g g' : Int → Int → Bool} {i j k : Int} (ha : EvH K ta G (.int i)) (hb : EvH K tb G (.int j)) (hc : EvH K tc G (.int k)) : Ev K (tChain (rI0 fun i j => .bl (g i j)) (rI0 fun i j => .bl (g' i j)) ta tb tc) G (.bool (g i j && g' j k)) := fun F lab σ H rs Q q =>
  ha F lab σ H rs _ fun x F1 H1 g1 d1 => hb F1 lab σ H1 (rs.go g1) _ fun y F2 H2 g2 d2 => ⟨i, j, dp_int d1, dp_int d2, g i j, rfl, by
    cases e : g i j with
    | true =>
      refine hc F2 lab σ H2 (rs.go (g1.trans g2)) _ fun z F3 H3 g3 d3 => ⟨j, k, dp_int d2, dp_int d3, ?_⟩
      have := q (.bl (g' j k)) F3 H3 ((g1.trans g2).trans g3)
      rw [e] at this
      exact this (.im (.bl _))
    | false =>
      have := q (.bl false) F2 H2 (g1.trans g2)
      rw [e] at this
      exact this (.im (.bl _))⟩

/-! ### tests -/
theorem eb_test {b : Bool} (h : EvH K te G (.bool b)) : EvB K (tTest te) G b := fun F lab σ H rs Q q => h F lab σ H rs _ fun x F1 H1 g1 d1 => ⟨b, dp_bool d1, q F1 H1 g1⟩
theorem eb_B {b : Bool} (h : EvH K te G (.bool b)) : EvB K (tB te) G b := fun F lab σ H rs Q q => h F lab σ H rs _ fun x F1 H1 g1 d1 => ⟨b, dp_bool d1, q F1 H1 g1⟩
section
variable {t u : TT}
theorem eb_and {a b : Bool} (h1 : EvB K t G a) (h2 : a = true → EvB K u G b) : EvB K (tAnd t u) G (a && b) := fun F lab σ H rs Q q => h1 F lab σ H rs _ fun F1 H1 g1 => by
  cases a with
  | true => exact h2 rfl F1 lab σ H1 (rs.go g1) Q fun F2 H2 g2 => q F2 H2 (g1.trans g2)
  | false => exact q F1 H1 g1
theorem eb_or {a b : Bool} (h1 : EvB K t G a) (h2 : a = false → EvB K u G b) : EvB K (tOr t u) G (a || b) := fun F lab σ H rs Q q => h1 F lab σ H rs _ fun F1 H1 g1 => by
  cases a with
  | true => exact q F1 H1 g1
  | false => exact h2 rfl F1 lab σ H1 (rs.go g1) Q fun F2 H2 g2 => q F2 H2 (g1.trans g2)
theorem eb_not {a : Bool} (h1 : EvB K t G a) : EvB K (tNot t) G (!a) := fun F lab σ H rs Q q => h1 F lab σ H rs _ fun F1 H1 g1 => q F1 H1 g1
theorem eb_yes : EvB K tYes G true := fun F lab σ H rs Q q => q F H (.refl rs.fh)
theorem EvB.to {a b : Bool} (h : EvB K t G a) (e : a = b) : EvB K t G b := e ▸ h
theorem ev_if {b : Bool} {s : Sl} (h : EvB K t G b) (h1 : b = true → EvS K ta G s) (h2 : b = false → EvS K tb G s) : EvS K (tIf t ta tb) G s := fun F lab σ H rs Q q => h F lab σ H rs _ fun F1 H1 g1 => by
  cases b with
  | true => exact h1 rfl F1 lab σ H1 (rs.go g1) Q fun v F2 H2 g2 n => q v F2 H2 (g1.trans g2) (n.base g1.hh)
  | false => exact h2 rfl F1 lab σ H1 (rs.go g1) Q fun v F2 H2 g2 n => q v F2 H2 (g1.trans g2) (n.base g1.hh)
end
theorem EvS.to {s s' : Sl} (h : EvS K te G s) (e : s = s') : EvS K te G s' := e ▸ h
theorem Ev.to {d d' : PyData} (h : Ev K te G d) (e : d = d') : Ev K te G d' := e ▸ h
theorem EvH.to {d d' : PyData} (h : EvH K te G d) (e : d = d') : EvH K te G d' := e ▸ h
theorem ev_andV {a b : Bool} (h1 : EvH K ta G (.bool a)) (h2 : a = true → EvH K tb G (.bool b)) : Ev K (tAndV ta tb) G (.bool (a && b)) := fun F lab σ H rs Q q => h1 F lab σ H rs _ fun x F1 H1 g1 d1 => ⟨a, dp_bool d1, by
  cases a with
  | true => exact h2 rfl F1 lab σ H1 (rs.go g1) Q fun v F2 H2 g2 d2 => q v F2 H2 (g1.trans g2) (.im (by rw [dp_bool d2]; exact .bl _))
  | false => exact q _ F1 H1 g1 (.im (.bl _))⟩
theorem ev_orV {a b : Bool} (h1 : EvH K ta G (.bool a)) (h2 : a = false → EvH K tb G (.bool b)) : Ev K (tOrV ta tb) G (.bool (a || b)) := fun F lab σ H rs Q q => h1 F lab σ H rs _ fun x F1 H1 g1 d1 => ⟨a, dp_bool d1, by
  cases a with
  | true => exact q _ F1 H1 g1 (.im (.bl _))
  | false => exact h2 rfl F1 lab σ H1 (rs.go g1) Q fun v F2 H2 g2 d2 => q v F2 H2 (g1.trans g2) (.im (by rw [dp_bool d2]; exact .bl _))⟩
theorem ev_notV {a : Bool} (h1 : EvH K ta G (.bool a)) : Ev K (tNotV ta) G (.bool (!a)) := fun F lab σ H rs Q q => h1 F lab σ H rs _ fun x F1 H1 g1 d1 => ⟨a, dp_bool d1, q _ F1 H1 g1 (.im (.bl _))⟩

/-! ### arguments, displays -/
theorem ea_nil : EvA K tNil G [] := fun F lab σ H rs Q q => q [] F H (.refl rs.fh) trivial
theorem FlV.arg {F H H0 : Hp} {v : V} {s : Sl} (h : NvV K F H H0 v s) (n : quietS s = s) : ArgV K F v s := by
  obtain ⟨lab, h, _⟩ := h
  cases s with
  | no => trivial
  | fl x =>
    cases x with
    | im d => exact h
    | ow ds => exact nomatch n
  | ob C fs =>
    obtain ⟨a, dx, fvs, e, ha, hf⟩ := h
    refine ⟨a, dx, fvs, e, ha, hf.allIm (.refl F) ?_⟩
    have n' : quiet fs = fs := by injection n
    have key : ∀ l : List (Str × Fl), quiet l = l → allIm l = true := by
      intro l
      induction l with
      | nil => intro _; rfl
      | cons a r ih =>
        obtain ⟨m, x⟩ := a
        cases x with
        | im d => intro e; exact ih (List.cons.inj e).2
        | ow ds => intro e; exact nomatch (List.cons.inj e).1
    exact key fs n'
theorem ea_cons {t : TA} {s : Sl} {ss : List Sl} (h : EvS K te G s) (hr : EvA K t G ss) (n : quietS s = s := by rfl) : EvA K (tCons te t) G (s :: ss) := fun F lab σ H rs Q q =>
  h F lab σ H rs _ fun v F1 H1 g1 d1 => hr F1 lab σ H1 (rs.go g1) _ fun vs F2 H2 g2 d2 => q (v :: vs) F2 H2 (g1.trans g2) ⟨(FlV.arg d1 n).mono g2.ff, d2⟩
theorem eah_nil : EvAH K tNil G [] := ea_nil.h
theorem eah_cons {t : TA} {d : PyData} {ss : List Sl} (h : EvH K te G d) (hr : EvAH K t G ss) : EvAH K (tCons te t) G (.im d :: ss) := fun F lab σ H rs Q q =>
  h F lab σ H rs _ fun v F1 H1 g1 d1 => hr F1 lab σ H1 (rs.go g1) _ fun vs F2 H2 g2 d2 => q (v :: vs) F2 H2 (g1.trans g2) ⟨dp_mono g2.hh d1, d2⟩
/-- an object handed on, its own lists read in passing -/
theorem eah_obj {t : TA} {i : Nat} {C : Addr} {fs : List (Str × Fl)} {ss : List Sl} (h : G[i]? = some (.ob C fs)) (hr : EvAH K t G ss) : EvAH K (tCons (tVar i) t) G (.ob C (quiet fs) :: ss) := fun F lab σ H rs Q q => by
  obtain ⟨v, e, s⟩ := rs.sl i _ h (fun z => nomatch z)
  exact ⟨v, e, hr F lab σ H rs _ fun vs F2 H2 g2 d2 => q (v :: vs) F2 H2 g2 ⟨(SlV.quiet rs.fh s).mono g2.hh, d2⟩⟩
theorem args_dps {F : Hp} : ∀ {vs : List V} {ds : List PyData}, ArgsV K F vs (ds.map Sl.im) → DpAll K F vs ds
  | [], [], _ => .nil
  | _ :: _, _ :: _, h => .cons h.1 (args_dps h.2)
/-- a tuple is made -/
theorem ev_tup {t : TA} {ds : List PyData} (h : EvA K t G (ds.map Sl.im)) (hl : ds.length ≤ 100000) : Ev K (tTup t) G (.tuple ds) := fun F lab σ H rs Q q =>
  h F lab σ H rs _ fun vs F1 H1 g1 a => by
    have a := args_dps a
    refine ⟨by rw [dpAll_len a, sizeLine_eq]; omega, fun p hp => q (.ref p) (upd F1 p (.tup vs)) _ (g1.trans (Go.new g1.fh hp)) (.im (.tup (.inl (.inl upd_same)) (dpAll_mono (same_new (g1.fh.free hp)) a)))⟩
theorem ev_lst {t : TA} {ds : List PyData} (h : EvA K t G (ds.map Sl.im)) (hl : ds.length ≤ 100000) : EvS K (tLst t) G (.ow ds) := fun F lab σ H rs Q q =>
  h F lab σ H rs _ fun vs F1 H1 g1 a => by
    have a := args_dps a
    refine ⟨by rw [dpAll_len a, sizeLine_eq]; omega, fun p hp => q (.ref p) F1 _ (g1.trans (.heap g1.fh (same_new hp))) ⟨fun x => if x = p then some (0, "") else none, ⟨p, vs, rfl, g1.fh.free hp, if_pos rfl, upd_same, a⟩, fun x o e => ?_⟩⟩
    by_cases hx : x = p
    · rw [hx]; exact g1.hh.free hp
    · exact absurd e (by simp [hx])

/-! ### items, slices -/
theorem atI_dp {F : Hp} {vs : List V} {ds : List PyData} (a : DpAll K F vs ds) {i : Int} {d : PyData} (h : atI ds i = some d) : ∃ v, atI vs i = some v ∧ Dp K F v d := by
  unfold atI at h ⊢
  rw [dpAll_len a]
  cases e : ixN ds.length i with
  | none => rw [e] at h; cases h
  | some j =>
    rw [e] at h
    exact dpAll_get a h
theorem ev_ixL {i : Int} {d : PyData} {ds : List PyData} (ha : Ev K ta G (.list ds)) (hb : EvH K tb G (.int i)) (h : atI ds i = some d) : Ev K (tOp (rIx K) ta tb) G d := fun F lab σ H rs Q q =>
  ha F lab σ H rs _ fun x F1 H1 g1 d1 => hb F1 lab σ H1 (rs.go g1) _ fun y F2 H2 g2 d2 => by
    obtain ⟨a, xs, rfl, sq, al⟩ := dp_list d1.dp
    obtain ⟨v, hv, dv⟩ := atI_dp al h
    exact .inl ⟨a, xs, i, v, rfl, dp_int d2, Same.seq (g1.fh.trans g2.hh) sq, hv, q v F2 H2 (g1.trans g2) (.im (dp_mono g2.ff dv))⟩
theorem ev_ixT {i : Int} {d : PyData} {ds : List PyData} (ha : Ev K ta G (.tuple ds)) (hb : EvH K tb G (.int i)) (h : atI ds i = some d) : Ev K (tOp (rIx K) ta tb) G d := fun F lab σ H rs Q q =>
  ha F lab σ H rs _ fun x F1 H1 g1 d1 => hb F1 lab σ H1 (rs.go g1) _ fun y F2 H2 g2 d2 => by
    obtain ⟨a, xs, rfl, sq, al⟩ := dp_tuple d1.dp
    obtain ⟨v, hv, dv⟩ := atI_dp al h
    exact .inr (.inl ⟨a, xs, i, v, rfl, dp_int d2, seqT (g1.fh.trans g2.hh) sq, hv, q v F2 H2 (g1.trans g2) (.im (dp_mono g2.ff dv))⟩)
/-- an item of a list that grows -/
theorem ev_ixO {k : Nat} {i : Int} {d : PyData} {ds : List PyData} (h0 : G[k]? = some (.ow ds)) (hb : EvH K tb G (.int i)) (h : atI ds i = some d) : Ev K (tOp (rIx K) (tVar k) tb) G d := fun F lab σ H rs Q q => by
  obtain ⟨v, e, p, vs, rfl, fp, lp, hp, a⟩ := rs.sl k _ h0 (fun z => nomatch z)
  refine ⟨_, e, hb F lab σ H rs _ fun y F2 H2 g2 d2 => ?_⟩
  obtain ⟨v, hv, dv⟩ := atI_dp a h
  exact .inl ⟨p, vs, i, v, rfl, dp_int d2, .inl (.inl (g2.hh _ _ hp)), hv, q v F2 H2 g2 (.im (dp_mono g2.ff dv))⟩
/-- an item, as a scalar, of what is read in passing -/
theorem eh_ixL {i : Int} {d : PyData} {ds : List PyData} (ha : EvH K ta G (.list ds)) (hb : EvH K tb G (.int i)) (h : atI ds i = some d) : EvH K (tOp (rIx K) ta tb) G d := fun F lab σ H rs Q q =>
  ha F lab σ H rs _ fun x F1 H1 g1 d1 => hb F1 lab σ H1 (rs.go g1) _ fun y F2 H2 g2 d2 => by
    obtain ⟨a, xs, rfl, sq, al⟩ := dp_list d1
    obtain ⟨v, hv, dv⟩ := atI_dp al h
    exact .inl ⟨a, xs, i, v, rfl, dp_int d2, Same.seq g2.hh sq, hv, q v F2 H2 (g1.trans g2) (dp_mono g2.hh dv)⟩
theorem eh_ixT {i : Int} {d : PyData} {ds : List PyData} (ha : EvH K ta G (.tuple ds)) (hb : EvH K tb G (.int i)) (h : atI ds i = some d) : EvH K (tOp (rIx K) ta tb) G d := fun F lab σ H rs Q q =>
  ha F lab σ H rs _ fun x F1 H1 g1 d1 => hb F1 lab σ H1 (rs.go g1) _ fun y F2 H2 g2 d2 => by
    obtain ⟨a, xs, rfl, sq, al⟩ := dp_tuple d1
    obtain ⟨v, hv, dv⟩ := atI_dp al h
    exact .inr (.inl ⟨a, xs, i, v, rfl, dp_int d2, seqT g2.hh sq, hv, q v F2 H2 (g1.trans g2) (dp_mono g2.hh dv)⟩)
/-- parts of a slice -/
def EvO (K : PySem.W.Frag) (to : TO) (G : Env) (o : Option Int) : Prop := ∀ F lab σ H, Rs K F lab σ H G → ∀ Q : Option Int → Hp → Prop, (∀ F' H', Go F H F' H' → Q o H') → to σ H Q
theorem eo_none : EvO K tNoPart G none := fun F lab σ H rs Q q => q F H (.refl rs.fh)
theorem eo_some {i : Int} (h : EvH K te G (.int i)) : EvO K (tPart te) G (some i) := fun F lab σ H rs Q q => h F lab σ H rs _ fun x F1 H1 g1 d1 => ⟨i, dp_int d1, q F1 H1 g1⟩
def cutD (xs : List PyData) (lo hi : Option Int) : List PyData := (xs.drop (HT.sIx xs.length 0 lo)).take (HT.sIx xs.length xs.length hi - HT.sIx xs.length 0 lo)
/-- a new list -/
theorem own_new {F H F1 H1 : Hp} (g : Go F H F1 H1) {vs : List V} {ds : List PyData} (a : DpAll K F1 vs ds) {Q : VK} (q : ∀ v F' H', Go F H F' H' → NvV K F' H' H v (.ow ds) → Q v H') : ∀ p, H1 p = none → Q (.ref p) (upd H1 p (.lst vs)) := fun p hp =>
  q (.ref p) F1 _ (g.trans (.heap g.fh (same_new hp))) ⟨fun x => if x = p then some (0, "") else none, ⟨p, vs, rfl, g.fh.free hp, if_pos rfl, upd_same, a⟩, fun x o e => by
    by_cases hx : x = p
    · rw [hx]; exact g.hh.free hp
    · exact absurd e (by simp [hx])⟩
theorem ev_slL {tl th : TO} {lo hi : Option Int} {ds : List PyData} (ha : Ev K ta G (.list ds)) (hl : EvO K tl G lo) (hh : EvO K th G hi) : EvS K (tSl (rSlL K) ta tl th) G (.ow (cutD ds lo hi)) := fun F lab σ H rs Q q =>
  ha F lab σ H rs _ fun x F1 H1 g1 d1 => hl F1 lab σ H1 (rs.go g1) _ fun F2 H2 g2 => hh F2 lab σ H2 (rs.go (g1.trans g2)) _ fun F3 H3 g3 => by
    obtain ⟨a, xs, rfl, sq, al⟩ := dp_list d1.dp
    have al3 := dpAll_mono (g2.trans g3).ff al
    refine ⟨a, xs, rfl, Same.seq (g1.fh.trans (g2.trans g3).hh) sq, own_new ((g1.trans g2).trans g3) ?_ q⟩
    unfold cutV cutD
    rw [dpAll_len al]
    exact dpAll_take _ (dpAll_drop _ al3)
theorem ev_cat {as bs : List PyData} (ha : EvS K ta G (.ow as)) (hb : EvS K tb G (.ow bs)) (hl : as.length + bs.length ≤ 100000) : EvS K (tOp rCat ta tb) G (.ow (as ++ bs)) := fun F lab σ H rs Q q =>
  ha F lab σ H rs _ fun x F1 H1 g1 d1 => hb F1 lab σ H1 (rs.go g1) _ fun y F2 H2 g2 d2 => by
    obtain ⟨l1, ⟨p, vs, rfl, _, _, hp, a⟩, _⟩ := d1
    obtain ⟨l2, ⟨r, ws, rfl, _, _, hr, b⟩, _⟩ := d2
    have e1 := dpAll_len a
    have e2 := dpAll_len b
    exact ⟨p, r, vs, ws, rfl, rfl, g2.hh _ _ hp, hr, by rw [e1, e2, sizeLine_eq]; omega, own_new (g1.trans g2) (dpAll_append (dpAll_mono g2.ff a) b) q⟩
/-- where a quiet list must be one that the heap holds as such -/
def Held (K : PySem.W.Frag) (te : TE) (G : Env) (ds : List PyData) : Prop := ∀ F lab σ H, Rs K F lab σ H G → ∀ Q : VK, (∀ v F' H' p vs, Go F H F' H' → v = .ref p → H' p = some (.lst vs) → DpAll K F' vs ds → Q v H') → te σ H Q
theorem EvS.held {ds : List PyData} (h : EvS K te G (.ow ds)) : Held K te G ds := fun F lab σ H r Q q => h F lab σ H r Q fun v F' H' g n => by
  obtain ⟨l, ⟨p, vs, e, fp, lp, hp, a⟩, nw⟩ := n
  exact q v F' H' p vs g e hp a
theorem ev_catH {as bs : List PyData} (ha : Held K ta G as) (hb : Held K tb G bs) (hl : as.length + bs.length ≤ 100000) : EvS K (tOp rCat ta tb) G (.ow (as ++ bs)) := fun F lab σ H rs Q q =>
  ha F lab σ H rs _ fun x F1 H1 p vs g1 e1 hp a => hb F1 lab σ H1 (rs.go g1) _ fun y F2 H2 r ws g2 e2 hr b => by
    have l1 := dpAll_len a
    have l2 := dpAll_len b
    exact ⟨p, r, vs, ws, e1, e2, g2.hh _ _ hp, hr, by rw [l1, l2, sizeLine_eq]; omega, own_new (g1.trans g2) (dpAll_append (dpAll_mono g2.ff a) b) q⟩
end
end UU
namespace UU
open PySem L2
section
variable {K : PySem.W.Frag} {G : Env} {ta tb te tc : TE}

/-! ### calls of defs -/
inductive Out where
  | ret (s : Sl)
  | exc (c : Addr)
def spR (K : PySem.W.Frag) (R : List Sl → Out → Prop) : Sp := fun vs H Q E => ∃ F ss o, Same F H ∧ ArgsV K F vs ss ∧ R ss o ∧
  match o with
  | .ret s => ∀ v F' H', Go F H F' H' → NvV K F' H' H v s → Q v H'
  | .exc c => ∀ F' H', Go F H F' H' → E (.ref c) none H'
theorem ev_call {R : List Sl → Out → Prop} {E : XK} {t : TA} {ss : List Sl} {s : Sl} (h : EvA K t G ss) (hR : R ss (.ret s)) : EvS K (tCall (spR K R) [] E t) G s := fun F lab σ H rs Q q =>
  h F lab σ H rs _ fun vs F1 H1 g1 a => by
    refine ⟨F1, ss, .ret s, g1.fh, by rw [List.append_nil]; exact a, hR, fun v F2 H2 g2 n => q v F2 H2 (g1.trans g2) (n.base g1.hh)⟩
theorem ev_callS {R : List Sl → Out → Prop} {E : L2.St → XK} {t : TA} {ss : List Sl} {s : Sl} (h : EvA K t G ss) (hR : R ss (.ret s)) : EvS K (tCallS (spR K R) E t) G s := fun F lab σ H rs Q q =>
  h F lab σ H rs _ fun vs F1 H1 g1 a => ⟨F1, ss, .ret s, g1.fh, a, hR, fun v F2 H2 g2 n => q v F2 H2 (g1.trans g2) (n.base g1.hh)⟩
/-- arguments read in passing; what comes back stands in no heap -/
theorem ev_callH {R : List Sl → Out → Prop} {E : XK} {t : TA} {ss : List Sl} {d : PyData} (h : EvAH K t G ss) (hR : R ss (.ret (.im d))) (hd : ∀ F F' v, Dp K F v d → Dp K F' v d) : Ev K (tCall (spR K R) [] E t) G d := fun F lab σ H rs Q q =>
  h F lab σ H rs _ fun vs F1 H1 g1 a => by
    refine ⟨H1, ss, .ret (.im d), .refl _, by rw [List.append_nil]; exact a, hR, fun v F2 H2 g2 n => q v F1 H2 (g1.trans (.heap g1.fh g2.hh)) (.im (hd _ _ _ n.dp))⟩
/-- .. or is a new list of such -/
theorem ev_callHO {R : List Sl → Out → Prop} {E : XK} {t : TA} {ss : List Sl} {ds : List PyData} (h : EvAH K t G ss) (hR : R ss (.ret (.ow ds))) (hd : ∀ F F' vs, DpAll K F vs ds → DpAll K F' vs ds) : EvS K (tCall (spR K R) [] E t) G (.ow ds) := fun F lab σ H rs Q q =>
  h F lab σ H rs _ fun vs F1 H1 g1 a => by
    refine ⟨H1, ss, .ret (.ow ds), .refl _, by rw [List.append_nil]; exact a, hR, fun v F2 H2 g2 n => ?_⟩
    obtain ⟨l, ⟨p, ws, rfl, fp, lp, hp, al⟩, nw⟩ := n
    have p1 := nw p _ lp
    exact q _ F1 H2 (g1.trans (.heap g1.fh g2.hh)) ⟨l, ⟨p, ws, rfl, g1.fh.free p1, lp, hp, hd _ _ _ al⟩, fun x o e => g1.hh.free (nw x o e)⟩
theorem hl_int {i : Int} : ∀ F F' v, Dp K F v (.int i) → Dp K F' v (.int i) := fun _ _ _ h => by rw [dp_int h]; exact .int _
theorem hl_bool {i : Bool} : ∀ F F' v, Dp K F v (.bool i) → Dp K F' v (.bool i) := fun _ _ _ h => by rw [dp_bool h]; exact .bl _
theorem hl_str {i : Str} : ∀ F F' v, Dp K F v (.str i) → Dp K F' v (.str i) := fun _ _ _ h => by rw [dp_str h]; exact .str _
theorem hl_ints {ns : List Int} : ∀ F F' vs, DpAll K F vs (ns.map PyData.int) → DpAll K F' vs (ns.map PyData.int) := fun _ _ _ h => by rw [dpAll_ints h]; exact ints_dpAll ns

/-! ### built-ins -/
theorem ev_cb {r : List V → Hp → VK → Prop} {t : TA} {ss : List Sl} {d : PyData} (h : EvAH K t G ss) (hr : ∀ H vs, ArgsV K H vs ss → ∀ Q : VK, (∀ v, Sc v d → Q v H) → r vs H Q) : Ev K (tCB r t) G d := fun F lab σ H rs Q q =>
  h F lab σ H rs _ fun vs F1 H1 g1 a => hr H1 vs a Q fun v s => q v F1 H1 g1 (.im s.dp)
theorem args1 {H : Hp} {vs : List V} {d : PyData} : ArgsV K H vs [.im d] → ∃ v, vs = [v] ∧ Dp K H v d := fun h => match vs, h with
  | [v], h => ⟨v, rfl, h.1⟩
theorem args2 {H : Hp} {vs : List V} {d e : PyData} : ArgsV K H vs [.im d, .im e] → ∃ v w, vs = [v, w] ∧ Dp K H v d ∧ Dp K H w e := fun h => match vs, h with
  | [v, w], h => ⟨v, w, rfl, h.1, h.2.1⟩
theorem ev_len {d : PyData} {n : Nat} (h : EvH K ta G d) (hn : (∃ ds, (d = .list ds ∨ d = .tuple ds) ∧ n = ds.length) ∨ ∃ x : Str, d = .str x ∧ n = x.length ∧ x.length ≤ sizeLine) : Ev K (tCB (fun xs H Q => ∃ x n, xs = [x] ∧ LenV K x H n ∧ Q (.int n) H) (tCons ta tNil)) G (.int n) :=
  ev_cb (eah_cons h eah_nil) fun H vs a Q q => by
    obtain ⟨v, rfl, dv⟩ := args1 a
    refine ⟨v, n, rfl, ?_, q _ (.int _)⟩
    rcases hn with ⟨ds, hd, rfl⟩ | ⟨x, rfl, rfl, hx⟩
    · rcases hd with rfl | rfl
      · obtain ⟨p, xs, rfl, sq, al⟩ := dp_list dv
        exact .inl ⟨xs, sq, (dpAll_len al).symm⟩
      · obtain ⟨p, xs, rfl, sq, al⟩ := dp_tuple dv
        exact .inr ⟨xs, sq, (dpAll_len al).symm⟩
    · rw [dp_str dv]
      exact ⟨hx, rfl⟩
theorem ev_lenL {ds : List PyData} (h : EvH K ta G (.list ds)) : Ev K (tCB (fun xs H Q => ∃ x n, xs = [x] ∧ LenV K x H n ∧ Q (.int n) H) (tCons ta tNil)) G (.int ds.length) := ev_len h (.inl ⟨ds, .inl rfl, rfl⟩)
theorem ev_lenT {ds : List PyData} (h : EvH K ta G (.tuple ds)) : Ev K (tCB (fun xs H Q => ∃ x n, xs = [x] ∧ LenV K x H n ∧ Q (.int n) H) (tCons ta tNil)) G (.int ds.length) := ev_len h (.inl ⟨ds, .inr rfl, rfl⟩)
theorem ev_abs {i : Int} (h : EvH K ta G (.int i)) : Ev K (tCB (fun xs H Q => ∃ i, xs = [.int i] ∧ Q (.int (if i < 0 then -i else i)) H) (tCons ta tNil)) G (.int (if i < 0 then -i else i)) :=
  ev_cb (eah_cons h eah_nil) fun H vs a Q q => by
    obtain ⟨v, rfl, dv⟩ := args1 a
    exact ⟨i, by rw [dp_int dv], q _ (.int _)⟩
theorem ev_max2 {i j : Int} (h : EvH K ta G (.int i)) (h2 : EvH K tb G (.int j)) : Ev K (tCB (fun xs H Q => ∃ i j, xs = [.int i, .int j] ∧ Q (.int (if j > i then j else i)) H) (tCons ta (tCons tb tNil))) G (.int (if j > i then j else i)) :=
  ev_cb (eah_cons h (eah_cons h2 eah_nil)) fun H vs a Q q => by
    obtain ⟨v, w, rfl, dv, dw⟩ := args2 a
    exact ⟨i, j, by rw [dp_int dv, dp_int dw], q _ (.int _)⟩
theorem ev_min2 {i j : Int} (h : EvH K ta G (.int i)) (h2 : EvH K tb G (.int j)) : Ev K (tCB (fun xs H Q => ∃ i j, xs = [.int i, .int j] ∧ Q (.int (if j < i then j else i)) H) (tCons ta (tCons tb tNil))) G (.int (if j < i then j else i)) :=
  ev_cb (eah_cons h (eah_cons h2 eah_nil)) fun H vs a Q q => by
    obtain ⟨v, w, rfl, dv, dw⟩ := args2 a
    exact ⟨i, j, by rw [dp_int dv, dp_int dw], q _ (.int _)⟩
theorem ev_sum {ns : List Int} (h : EvH K ta G (.list (ns.map .int))) : Ev K (tCB (rSum K) (tCons ta tNil)) G (.int ns.sum) :=
  ev_cb (eah_cons h eah_nil) fun H vs a Q q => by
    obtain ⟨v, rfl, dv⟩ := args1 a
    obtain ⟨p, xs, rfl, sq, al⟩ := dp_list dv
    rw [dpAll_ints al] at sq
    exact ⟨p, ns, rfl, sq, q _ (.int _)⟩
/-- the greatest, the least -/
def IsMax (ns : List Int) (m : Int) : Prop := m ∈ ns ∧ ∀ y, y ∈ ns → y ≤ m
def IsMin (ns : List Int) (m : Int) : Prop := m ∈ ns ∧ ∀ y, y ∈ ns → m ≤ y
theorem IsMax.eq {ns : List Int} {m m' : Int} (a : IsMax ns m) (b : IsMax ns m') : m = m' := Int.le_antisymm (b.2 _ a.1) (a.2 _ b.1)
theorem IsMin.eq {ns : List Int} {m m' : Int} (a : IsMin ns m) (b : IsMin ns m') : m = m' := Int.le_antisymm (a.2 _ b.1) (b.2 _ a.1)
theorem ev_max {ns : List Int} {m : Int} (h : EvH K ta G (.list (ns.map .int))) (hm : IsMax ns m) : Ev K (tCB (rMax K) (tCons ta tNil)) G (.int m) :=
  ev_cb (eah_cons h eah_nil) fun H vs a Q q => by
    obtain ⟨v, rfl, dv⟩ := args1 a
    obtain ⟨p, xs, rfl, sq, al⟩ := dp_list dv
    rw [dpAll_ints al] at sq
    exact ⟨p, ns, rfl, sq, List.length_pos_of_mem hm.1, fun m' h1 h2 => by rw [IsMax.eq (m := m') ⟨h1, h2⟩ hm]; exact q _ (.int _)⟩
theorem ev_min {ns : List Int} {m : Int} (h : EvH K ta G (.list (ns.map .int))) (hm : IsMin ns m) : Ev K (tCB (rMin K) (tCons ta tNil)) G (.int m) :=
  ev_cb (eah_cons h eah_nil) fun H vs a Q q => by
    obtain ⟨v, rfl, dv⟩ := args1 a
    obtain ⟨p, xs, rfl, sq, al⟩ := dp_list dv
    rw [dpAll_ints al] at sq
    exact ⟨p, ns, rfl, sq, List.length_pos_of_mem hm.1, fun m' h1 h2 => by rw [IsMin.eq (m := m') ⟨h1, h2⟩ hm]; exact q _ (.int _)⟩
theorem ev_any {bs : List Bool} (h : EvH K ta G (.list (bs.map .bool))) : Ev K (tCB (rAny K) (tCons ta tNil)) G (.bool (bs.any id)) :=
  ev_cb (eah_cons h eah_nil) fun H vs a Q q => by
    obtain ⟨v, rfl, dv⟩ := args1 a
    obtain ⟨p, xs, rfl, sq, al⟩ := dp_list dv
    rw [dpAll_bools al] at sq
    exact ⟨p, bs, rfl, sq, q _ (.bl _)⟩
theorem ev_all {bs : List Bool} (h : EvH K ta G (.list (bs.map .bool))) : Ev K (tCB (rAll K) (tCons ta tNil)) G (.bool (bs.all id)) :=
  ev_cb (eah_cons h eah_nil) fun H vs a Q q => by
    obtain ⟨v, rfl, dv⟩ := args1 a
    obtain ⟨p, xs, rfl, sq, al⟩ := dp_list dv
    rw [dpAll_bools al] at sq
    exact ⟨p, bs, rfl, sq, q _ (.bl _)⟩
/-- what a datum is: its built-in class -/
def tyD : PyData → String
  | .none => "NoneType"
  | .bool _ => "bool"
  | .int _ => "int"
  | .str _ => "str"
  | .list _ => "list"
  | .tuple _ => "tuple"
  | .dict _ => "dict"
theorem dp_tyX {H : Hp} {v : V} {d : PyData} : Dp K H v d → TyX K H v (.type (tyD d))
  | .non => .base .non
  | .bl b => .base (.bl b)
  | .int i => .base (.int i)
  | .str x => .base (.str x)
  | .lst h _ => by
    rcases h with (h | ⟨o, h⟩) | ⟨o, its, n, e, c, _⟩
    · exact .base (.lst h)
    · exact .base (.frz h)
    · exact .kList e c
  | .tup h _ => by
    rcases h with (h | ⟨o, h⟩) | ⟨o, its, n, e, c, _⟩
    · exact .base (.tup h)
    · exact .fTuple h
    · exact .kTuple e c
theorem ev_isi {d : PyData} {n : String} {b : Bool} (h : EvH K ta G d) (e : kitB (tyD d) n = some b) : Ev K (tCB (rIsi K) (tCons ta (tCons (tC (.ty n)) tNil))) G (.bool b) := fun F lab σ H rs Q q =>
  h F lab σ H rs _ fun v F1 H1 g1 dv => ⟨v, .ty n, _, _, b, rfl, .ty n, dp_tyX dv, kit_ty e, q _ F1 H1 g1 (.im (.bl b))⟩
/-- list(x) -/
theorem ev_listOf {ds : List PyData} (h : Ev K ta G (.list ds)) : EvS K (tCB (fun xs H Q => ∃ p ys, xs = [.ref p] ∧ (SqL K H p ys ∨ SqT K H p ys) ∧ ∀ l, H l = none → Q (.ref l) (upd H l (.lst ys))) (tCons ta tNil)) G (.ow ds) := fun F lab σ H rs Q q =>
  h F lab σ H rs _ fun v F1 H1 g1 dv => by
    obtain ⟨p, xs, rfl, sq, al⟩ := dp_list dv.dp
    exact ⟨p, xs, rfl, .inl (Same.seq g1.fh sq), own_new g1 al q⟩
theorem ev_listOfT {ds : List PyData} (h : Ev K ta G (.tuple ds)) : EvS K (tCB (fun xs H Q => ∃ p ys, xs = [.ref p] ∧ (SqL K H p ys ∨ SqT K H p ys) ∧ ∀ l, H l = none → Q (.ref l) (upd H l (.lst ys))) (tCons ta tNil)) G (.ow ds) := fun F lab σ H rs Q q =>
  h F lab σ H rs _ fun v F1 H1 g1 dv => by
    obtain ⟨p, xs, rfl, sq, al⟩ := dp_tuple dv.dp
    exact ⟨p, xs, rfl, .inr (seqT g1.fh sq), own_new g1 al q⟩
/-- int(a truth), int(n) -/
theorem ev_intB {b : Bool} (h : EvH K ta G (.bool b)) : Ev K (tCB (fun xs H Q => (∃ i, xs = [.int i] ∧ Q (.int i) H) ∨ ∃ k, xs = [.bl k] ∧ Q (.int (if k then 1 else 0)) H) (tCons ta tNil)) G (.int (if b then 1 else 0)) :=
  ev_cb (eah_cons h eah_nil) fun H vs a Q q => by
    obtain ⟨v, rfl, dv⟩ := args1 a
    exact .inr ⟨b, by rw [dp_bool dv], q _ (.int _)⟩

/-! ### what is walked -/
def Walk (K : PySem.W.Frag) (F : Hp) (J : It) (ds : List PyData) : Prop :=
  (∀ i d F1 H1, ds[i]? = some d → Same F F1 → Same F1 H1 → J.go i H1 ∧ ∀ x H2, J.yld i H1 x H2 → ∃ F2, Go F1 H1 F2 H2 ∧ Dp K F2 x d) ∧ ∀ F1 H1, Same F F1 → Same F1 H1 → J.stop ds.length H1
def EvI (K : PySem.W.Frag) (wi : TI) (G : Env) (ds : List PyData) : Prop := ∀ F lab σ H, Rs K F lab σ H G → ∀ R : It → Hp → Prop, (∀ J F' H', Go F H F' H' → Walk K F' J ds → R J H') → wi σ H R
theorem getMap {α β : Type} {f : α → β} {xs : List α} {i : Nat} {y : β} (h : (xs.map f)[i]? = some y) : ∃ x, xs[i]? = some x ∧ y = f x := by
  rw [List.getElem?_map] at h
  cases e : xs[i]? with
  | none => rw [e] at h; cases h
  | some x => rw [e] at h; exact ⟨x, rfl, (Option.some.inj h).symm⟩
theorem walk_list {F : Hp} {a : Addr} {xs : List V} {ds : List PyData} (sq : SqL K F a xs) (al : DpAll K F xs ds) : Walk K F (Itl K a) ds :=
  ⟨fun i d F1 H1 e s1 s2 => by
    obtain ⟨v, hv, dv⟩ := dpAll_get al e
    refine ⟨⟨xs, v, Same.seq (s1.trans s2) sq, hv⟩, fun x H2 y => ?_⟩
    obtain ⟨rfl, y⟩ := y
    have := y xs (Same.seq (s1.trans s2) sq)
    rw [hv] at this
    cases this
    exact ⟨F1, .refl s2, dp_mono s1 dv⟩, fun F1 H1 s1 s2 => ⟨xs, Same.seq (s1.trans s2) sq, Nat.le_of_eq (dpAll_len al)⟩⟩
theorem walk_tup {F : Hp} {a : Addr} {xs : List V} {ds : List PyData} (sq : SqT K F a xs) (al : DpAll K F xs ds) : Walk K F (Itt K a) ds :=
  ⟨fun i d F1 H1 e s1 s2 => by
    obtain ⟨v, hv, dv⟩ := dpAll_get al e
    refine ⟨⟨xs, v, seqT (s1.trans s2) sq, hv⟩, fun x H2 y => ?_⟩
    obtain ⟨rfl, y⟩ := y
    have := y xs (seqT (s1.trans s2) sq)
    rw [hv] at this
    cases this
    exact ⟨F1, .refl s2, dp_mono s1 dv⟩, fun F1 H1 s1 s2 => ⟨xs, seqT (s1.trans s2) sq, Nat.le_of_eq (dpAll_len al)⟩⟩
theorem ei_list {ds : List PyData} (h : Ev K ta G (.list ds)) : EvI K (iList K ta) G ds := fun F lab σ H rs R q => h F lab σ H rs _ fun v F1 H1 g1 n => by
  obtain ⟨a, xs, rfl, sq, al⟩ := dp_list n.dp
  exact ⟨a, rfl, ⟨xs, Same.seq g1.fh sq⟩, q _ F1 H1 g1 (walk_list sq al)⟩
theorem ei_tup {ds : List PyData} (h : Ev K ta G (.tuple ds)) : EvI K (iTup K ta) G ds := fun F lab σ H rs R q => h F lab σ H rs _ fun v F1 H1 g1 n => by
  obtain ⟨a, xs, rfl, sq, al⟩ := dp_tuple n.dp
  exact ⟨a, rfl, ⟨xs, seqT g1.fh sq⟩, q _ F1 H1 g1 (walk_tup sq al)⟩
theorem walk_range {F : Hp} (lo : Int) (n : Nat) : Walk K F (Itr lo n) ((List.range n).map fun (k : Nat) => .int (lo + k)) :=
  ⟨fun i d F1 H1 e s1 s2 => by
    obtain ⟨k, hk, rfl⟩ := getMap e
    obtain ⟨hi, hk⟩ := List.getElem?_eq_some_iff.mp hk
    rw [List.length_range] at hi
    rw [List.getElem_range] at hk
    subst hk
    refine ⟨hi, fun x H2 y => ?_⟩
    obtain ⟨rfl, rfl⟩ := y
    exact ⟨F1, .refl s2, .int _⟩, fun F1 H1 s1 s2 => by
    show n ≤ _
    rw [List.length_map, List.length_range]
    exact Nat.le_refl _⟩
theorem ei_range {n : Nat} (h : EvH K ta G (.int n)) (hn : n ≤ 1000000) : EvI K (iRng1 (tCons ta tNil)) G ((List.range n).map fun (k : Nat) => .int k) := fun F lab σ H rs R q => h F lab σ H rs _ fun v F1 H1 g1 n' => by
  refine ⟨n, by rw [dp_int n'], by omega, by omega, ?_⟩
  have w := walk_range (K := K) (F := F1) 0 n
  simp only [Int.zero_add] at w
  exact q _ F1 H1 g1 w
theorem ei_range2 {lo hi : Int} (h : EvH K ta G (.int lo)) (h2 : EvH K tb G (.int hi)) (hl : -1000000 ≤ lo ∧ lo ≤ 1000000) (hn : -1000000 ≤ hi ∧ hi ≤ 1000000) : EvI K (iRng2 (tCons ta (tCons tb tNil))) G ((List.range (hi - lo).toNat).map fun (k : Nat) => .int (lo + k)) := fun F lab σ H rs R q => h F lab σ H rs _ fun v F1 H1 g1 n' => h2 F1 lab σ H1 (rs.go g1) _ fun w F2 H2 g2 n2 => by
  refine ⟨lo, hi, by rw [dp_int n', dp_int n2], by omega, ?_⟩
  exact q _ F2 H2 (g1.trans g2) (walk_range _ _)
theorem zip_get {α β : Type} : ∀ {xs : List α} {ys : List β} {i : Nat} {p : α × β}, (xs.zip ys)[i]? = some p → xs[i]? = some p.1 ∧ ys[i]? = some p.2
  | [], _, _, _, h => by simp at h
  | _ :: _, [], _, _, h => by simp at h
  | x :: xs, y :: ys, 0, p, h => by
    rw [List.zip_cons_cons] at h
    cases h
    exact ⟨rfl, rfl⟩
  | x :: xs, y :: ys, i + 1, p, h => by
    rw [List.zip_cons_cons] at h
    exact zip_get (xs := xs) (ys := ys) (i := i) h
def pairD (p : PyData × PyData) : PyData := .tuple [p.1, p.2]
theorem walk_zip {F : Hp} {a b : Addr} {xs ys : List V} {ds es : List PyData} (sq : SqL K F a xs) (al : DpAll K F xs ds) (sq2 : SqL K F b ys) (al2 : DpAll K F ys es) (hne : ∀ F1 H1 : Hp, True) : Walk K F (Itz K a b) ((ds.zip es).map pairD) :=
  ⟨fun i d F1 H1 e s1 s2 => by
    obtain ⟨p, hp, rfl⟩ := getMap e
    obtain ⟨h1, h2⟩ := zip_get hp
    obtain ⟨v, hv, dv⟩ := dpAll_get al h1
    obtain ⟨w, hw, dw⟩ := dpAll_get al2 h2
    have q1 := Same.seq (s1.trans s2) sq
    have q2 := Same.seq (s1.trans s2) sq2
    refine ⟨⟨xs, ys, v, w, q1, q2, hv, hw⟩, fun x H2 y => ?_⟩
    obtain ⟨T, x', y', rfl, hT, rfl, e1, e2⟩ := y
    have e1 := e1 xs q1
    have e2 := e2 ys q2
    rw [hv] at e1
    rw [hw] at e2
    cases e1
    cases e2
    have g := Go.new (o := .tup [v, w]) s2 hT
    exact ⟨_, g, .tup (.inl (.inl upd_same)) (.cons (dp_mono (s1.trans g.ff) dv) (.cons (dp_mono (s1.trans g.ff) dw) .nil))⟩, fun F1 H1 s1 s2 => by
    refine ⟨xs, ys, Same.seq (s1.trans s2) sq, Same.seq (s1.trans s2) sq2, ?_⟩
    rw [List.length_map, List.length_zip, dpAll_len al, dpAll_len al2]
    omega⟩
theorem ei_zip {ds es : List PyData} (h : Ev K ta G (.list ds)) (h2 : Ev K tb G (.list es)) : EvI K (iZip K (tCons ta (tCons tb tNil))) G ((ds.zip es).map pairD) := fun F lab σ H rs R q => h F lab σ H rs _ fun v F1 H1 g1 n => h2 F1 lab σ H1 (rs.go g1) _ fun w F2 H2 g2 n2 => by
  obtain ⟨a, xs, rfl, sq, al⟩ := dp_list n.dp
  obtain ⟨b, ys, rfl, sq2, al2⟩ := dp_list n2.dp
  exact ⟨a, b, xs, ys, rfl, Same.seq (g1.fh.trans g2.hh) sq, Same.seq g2.fh sq2, q _ F2 H2 (g1.trans g2) (walk_zip (Same.seq g2.ff sq) (dpAll_mono g2.ff al) sq2 al2 fun _ _ => trivial)⟩
def enumD (ds : List PyData) : List PyData := (ds.zipIdx).map fun p => .tuple [.int (p.2 : Nat), p.1]
theorem walk_enum {F : Hp} {a : Addr} {xs : List V} {ds : List PyData} (sq : SqL K F a xs) (al : DpAll K F xs ds) : Walk K F (Ite K a) (enumD ds) :=
  ⟨fun i d F1 H1 e s1 s2 => by
    obtain ⟨p, hp, rfl⟩ := getMap e
    rw [List.getElem?_zipIdx] at hp
    cases ed : ds[i]? with
    | none => rw [ed] at hp; cases hp
    | some d =>
      rw [ed] at hp
      cases hp
      obtain ⟨v, hv, dv⟩ := dpAll_get al ed
      have q1 := Same.seq (s1.trans s2) sq
      refine ⟨⟨xs, v, q1, hv⟩, fun x H2 y => ?_⟩
      obtain ⟨T, x', rfl, hT, rfl, e1⟩ := y
      have e1 := e1 xs q1
      rw [hv] at e1
      cases e1
      have g := Go.new (o := .tup [.int (i : Nat), v]) s2 hT
      refine ⟨_, g, .tup (.inl (.inl upd_same)) (.cons ?_ (.cons (dp_mono (s1.trans g.ff) dv) .nil))⟩
      show Dp K _ (.int (i : Nat)) (.int ((0 + i : Nat) : Int))
      rw [Nat.zero_add]
      exact .int _, fun F1 H1 s1 s2 => by
    refine ⟨xs, Same.seq (s1.trans s2) sq, ?_⟩
    unfold enumD
    rw [List.length_map, List.length_zipIdx, dpAll_len al]
    exact Nat.le_refl _⟩
theorem ei_enum {ds : List PyData} (h : Ev K ta G (.list ds)) : EvI K (iEnum K (tCons ta tNil)) G (enumD ds) := fun F lab σ H rs R q => h F lab σ H rs _ fun v F1 H1 g1 n => by
  obtain ⟨a, xs, rfl, sq, al⟩ := dp_list n.dp
  exact ⟨a, xs, rfl, Same.seq g1.fh sq, q _ F1 H1 g1 (walk_enum sq al)⟩
theorem EvI.to {wi : TI} {ds ds' : List PyData} (h : EvI K wi G ds) (e : ds = ds') : EvI K wi G ds' := e ▸ h

/-! ### targets -/
/-- g stores d; nothing outside vs changes -/
def TgS (K : PySem.W.Frag) (g : TG) (vs : List Nat) (d : PyData) (G G' : Env) : Prop := ∀ F lab σ H v, Rs K F lab σ H G → Dp K F v d → ∀ Q : L2.St → Hp → Prop, (∀ σ', Rs K F lab σ' H G' → wipe σ' vs = wipe σ vs → Q σ' H) → g v σ H Q
theorem wipe_comm (σ : L2.St) (x : Option V) (j : Nat) : ∀ vs : List Nat, j ∉ vs → wipe (σ.set j x) vs = (wipe σ vs).set j x
  | [], _ => rfl
  | v :: vs, h => by
    unfold wipe
    rw [wipe_comm σ x j vs (fun z => h (List.mem_cons_of_mem _ z)), List.set_comm]
    exact fun z => h (by rw [z]; exact List.mem_cons_self)
theorem wipe_set (σ : L2.St) (x : Option V) (j : Nat) : ∀ vs : List Nat, j ∈ vs → wipe (σ.set j x) vs = wipe σ vs
  | v :: vs, h => by
    unfold wipe
    by_cases hj : j ∈ vs
    · rw [wipe_set σ x j vs hj]
    · have e : j = v := by
        rcases List.mem_cons.mp h with z | z
        · exact z
        · exact absurd z hj
      subst e
      rw [wipe_comm σ x j vs hj, List.set_set]
theorem Rs.setIm {F : Hp} {lab : Lab} {σ : L2.St} {H : Hp} {v : V} {d : PyData} {j : Nat} (r : Rs K F lab σ H G) (h : Dp K F v d) : Rs K F lab (σ.set j (some v)) H (G.set j (.im d)) :=
  ⟨r.fh, by rw [List.length_set, List.length_set]; exact r.len, fun i s e n => by
    by_cases hi : j = i
    · subst hi
      by_cases hj : j < G.length
      · rw [List.getElem?_set_self hj] at e
        cases e
        exact ⟨v, by rw [List.getElem?_set_self (by rw [← r.len]; exact hj)], h⟩
      · rw [List.getElem?_eq_none (by simpa using hj)] at e
        cases e
    · rw [List.getElem?_set_ne hi] at e ⊢
      exact r.sl i s e n⟩
theorem tg_name {j : Nat} {vs : List Nat} {d : PyData} (h : j ∈ vs) : TgS K (gName j) vs d G (G.set j (.im d)) := fun F lab σ H v r dv Q q => q _ (r.setIm dv) (wipe_set σ _ j vs h)
def TgsS (K : PySem.W.Frag) (g : TGs) (vs : List Nat) (ds : List PyData) (G G' : Env) : Prop := ∀ F lab σ H ws, Rs K F lab σ H G → DpAll K F ws ds → ∀ Q : L2.St → Hp → Prop, (∀ σ', Rs K F lab σ' H G' → wipe σ' vs = wipe σ vs → Q σ' H) → g ws σ H Q
theorem tgs_nil {vs : List Nat} : TgsS K gNil vs [] G G := fun F lab σ H ws r a Q q => match ws, a with
  | [], .nil => ⟨rfl, q σ r rfl⟩
theorem tgs_cons {g : TG} {gs : TGs} {vs : List Nat} {d : PyData} {ds : List PyData} {G1 G2 : Env} (h : TgS K g vs d G G1) (hs : TgsS K gs vs ds G1 G2) : TgsS K (gCons g gs) vs (d :: ds) G G2 := fun F lab σ H ws r a Q q => match ws, a with
  | v :: ws, .cons dv al => ⟨v, ws, rfl, h F lab σ H v r dv _ fun σ1 r1 e1 => hs F lab σ1 H ws r1 al Q fun σ2 r2 e2 => q σ2 r2 (e2.trans e1)⟩
theorem tg_tup {gs : TGs} {n : Nat} {vs : List Nat} {ds : List PyData} {G' : Env} (h : TgsS K gs vs ds G G') (hn : ds.length = n) : TgS K (gTup K n gs) vs (.tuple ds) G G' := fun F lab σ H v r dv Q q => by
  obtain ⟨a, xs, rfl, sq, al⟩ := dp_tuple dv
  exact ⟨a, xs, rfl, seqT r.fh sq, by rw [dpAll_len al, hn], h F lab σ H xs r al Q q⟩

/-! ### comprehensions -/
def wipeG : Env → List Nat → Env
  | G, [] => G
  | G, v :: vs => (wipeG G vs).set v .no
theorem Rs.no {F : Hp} {lab : Lab} {σ : L2.St} {H : Hp} {j : Nat} (r : Rs K F lab σ H G) : Rs K F lab (σ.set j none) H (G.set j .no) :=
  ⟨r.fh, by rw [List.length_set, List.length_set]; exact r.len, fun i s e n => by
    by_cases hi : j = i
    · subst hi
      by_cases hj : j < G.length
      · rw [List.getElem?_set_self hj] at e
        cases e
        exact absurd rfl n
      · rw [List.getElem?_eq_none (by simpa using hj)] at e
        cases e
    · rw [List.getElem?_set_ne hi] at e ⊢
      exact r.sl i s e n⟩
theorem Rs.wipe {F : Hp} {lab : Lab} {σ : L2.St} {H : Hp} (r : Rs K F lab σ H G) : ∀ vs : List Nat, Rs K F lab (L2.wipe σ vs) H (wipeG G vs)
  | [] => r
  | v :: vs => (r.wipe vs).no
theorem wipe_wipe (σ : L2.St) : ∀ vs ws : List Nat, (∀ v ∈ ws, v ∈ vs) → wipe (wipe σ ws) vs = wipe σ vs
  | vs, [], _ => rfl
  | vs, w :: ws, h => by
    show wipe ((wipe σ ws).set w none) vs = _
    rw [wipe_set _ _ _ _ (h w List.mem_cons_self), wipe_wipe σ vs ws fun v hv => h v (List.mem_cons_of_mem _ hv)]
theorem dpAll_map_snoc {α : Type} {F : Hp} {vs : List V} {v : V} {d : PyData} {ds : List PyData} (a : DpAll K F vs ds) (h : Dp K F v d) : DpAll K F (vs ++ [v]) (ds ++ [d]) := dpAll_append a (.cons h .nil)
theorem take_snoc {α : Type} {xs : List α} {i : Nat} {x : α} (h : xs[i]? = some x) : xs.take (i + 1) = xs.take i ++ [x] := by
  obtain ⟨hi, e⟩ := List.getElem?_eq_some_iff.mp h
  rw [List.take_add_one, h]
  rfl
theorem ev_lc {α : Type} {xs : List α} {enc : α → PyData} {wi : TI} {g : TG} {tt : TT} {vs : List Nat} (hi : EvI K wi G (xs.map enc)) (f : α → Bool) (r : α → PyData) (G2 : α → Env)
    (hg : ∀ x ∈ xs, TgS K g vs (enc x) (wipeG G vs) (G2 x)) (ht : ∀ x ∈ xs, EvB K tt (G2 x) (f x)) (he : ∀ x ∈ xs, f x = true → Ev K te (G2 x) (r x)) (hz : xs.length ≤ 100000) : EvS K (tLc wi g tt te vs) G (.ow ((xs.filter f).map r)) := fun F lab σ H rs Q q =>
  hi F lab σ H rs _ fun J F1 H1 g1 wk => by
    intro p hp
    have fp1 : F1 p = none := g1.fh.free hp
    -- the invariant behind i turns
    refine ⟨fun i m H' => m = xs.length - i ∧ i ≤ xs.length ∧ ∃ F2 ws, Go F1 H1 F2 H' ∧ F2 p = none ∧ H' p = some (.lst ws) ∧ DpAll K F2 ws (((xs.take i).filter f).map r), ⟨_, rfl, Nat.zero_le _, F1, [], .heap g1.fh (same_new hp), fp1, upd_same, .nil⟩, ?_⟩
    rintro i m H' ⟨rfl, hle, F2, ws, g2, fp, hw, al⟩
    by_cases hlt : i < xs.length
    · have hx : xs[i]? = some xs[i] := List.getElem?_eq_getElem hlt
      have hm : xs[i] ∈ xs := List.getElem_mem hlt
      generalize xs[i] = x at hx hm
      have hd : (xs.map enc)[i]? = some (enc x) := by rw [List.getElem?_map, hx]; rfl
      obtain ⟨go, yl⟩ := wk.1 i _ F2 H' hd g2.ff g2.fh
      refine .inr ⟨go, fun H'' => ∃ F3 ws', Go F1 H1 F3 H'' ∧ F3 p = none ∧ H'' p = some (.lst ws') ∧ DpAll K F3 ws' (((xs.take (i + 1)).filter f).map r), fun H'' ⟨F3, ws', a, b, c, e⟩ => ⟨xs.length - (i + 1), by omega, rfl, hlt, F3, ws', a, b, c, e⟩, fun y H3 yy => ?_⟩
      obtain ⟨F3, g3, dy⟩ := yl y H3 yy
      have r3 : Rs K F3 lab (wipe σ vs) H3 (wipeG G vs) := ((rs.go g1).go (g2.trans g3)).wipe vs
      have keepP : ∀ {F' H' : Hp}, Go F3 H3 F' H' → F' p = none := fun {F' H'} g => (g.nw p _ (g3.hh _ _ hw)).trans ((g3.nw p _ hw).trans fp)
      refine hg x hm F3 lab _ H3 y r3 dy _ fun σ' r4 ew => ⟨ew.trans (wipe_wipe σ vs vs fun _ h => h), ?_⟩
      refine ht x hm F3 lab σ' H3 r4 _ fun F4 H4 g4 => ?_
      cases hf : f x with
      | true =>
        show te σ' H4 _
        refine he x hm hf F4 lab σ' H4 (r4.go g4) _ fun v F5 H5 g5 n5 => ?_
        have g35 := g4.trans g5
        have hw5 : H5 p = some (.lst ws) := g35.hh _ _ (g3.hh _ _ hw)
        have fp5 := keepP g35
        refine ⟨ws, hw5, ?_, F5, ws ++ [v], ?_, fp5, upd_same, ?_⟩
        · have hl := dpAll_len al
          rw [hl, List.length_map, sizeLine_eq]
          have := List.length_filter_le f (xs.take i)
          rw [List.length_take] at this
          omega
        · have g15 := (g2.trans g3).trans g35
          exact ⟨g15.ff, same_upd g15.hh hp, same_upd g15.fh fp5, g15.nw⟩
        · rw [take_snoc hx, List.filter_append, List.map_append]
          have e1 : ([x].filter f).map r = [r x] := by simp [hf]
          rw [e1]
          exact dpAll_append (dpAll_mono (g3.trans g35).ff al) (.cons n5.dp .nil)
      | false =>
        refine ⟨F4, ws, (g2.trans g3).trans g4, keepP g4, (g3.trans g4).hh _ _ hw, ?_⟩
        rw [take_snoc hx, List.filter_append, List.map_append]
        have e1 : ([x].filter f).map r = [] := by simp [hf]
        rw [e1, List.append_nil]
        exact dpAll_mono (g3.trans g4).ff al
    · have e : i = xs.length := by omega
      subst e
      rw [List.take_length] at al
      have st := wk.2 F2 H' g2.ff g2.fh
      rw [List.length_map] at st
      refine .inl ⟨st, q _ F2 H' (g1.trans g2) ⟨fun x => if x = p then some (0, "") else none, ⟨p, ws, rfl, fp, if_pos rfl, hw, al⟩, fun x o e => ?_⟩⟩
      by_cases hx : x = p
      · rw [hx]; exact g1.hh.free hp
      · exact absurd e (by simp [hx])
theorem filter_yes {α : Type} (xs : List α) : xs.filter (fun _ => true) = xs := by simp
/-- without a test -/
theorem ev_lc1 {α : Type} {xs : List α} {enc : α → PyData} {wi : TI} {g : TG} {vs : List Nat} (hi : EvI K wi G (xs.map enc)) (r : α → PyData) (G2 : α → Env)
    (hg : ∀ x ∈ xs, TgS K g vs (enc x) (wipeG G vs) (G2 x)) (he : ∀ x ∈ xs, Ev K te (G2 x) (r x)) (hz : xs.length ≤ 100000) : EvS K (tLc wi g tYes te vs) G (.ow (xs.map r)) := by
  have h := ev_lc (te := te) (tt := tYes) hi (fun _ => true) r G2 hg (fun _ _ => eb_yes) (fun x hx _ => he x hx) hz
  rw [filter_yes] at h
  exact h
end
end UU
namespace UU
open PySem L2
section
variable {K : PySem.W.Frag} {G : Env} {ta tb te tc : TE}

/-! ### statements, at the level of data -/
structure GE where
  nx : Env → Prop := fun _ => False
  rt : Sl → Prop := fun _ => False
  bk : Env → Prop := fun _ => False
  ct : Env → Prop := fun _ => False
  ex : Addr → Prop := fun _ => False
structure Rl (K : PySem.W.Frag) (B F0 F : Hp) (lab : Lab) (σ : L2.St) (H : Hp) (G : Env) : Prop where
  rs : Rs K F lab σ H G
  go : Go F0 B F H
  lb : ∀ p o, lab p = some o → B p = none
  lv : ∀ p o, lab p = some o → ∃ u, H p = some u
structure Lands (K : PySem.W.Frag) (E : XK) (B F0 Fs : Hp) (D : GE) (D' : Ends) : Prop where
  nx : ∀ F lab σ H G, Rl K B F0 F lab σ H G → Same Fs F → D.nx G → D'.nx σ H
  rt : ∀ v F H s, Go F0 B F H → NvV K F H B v s → D.rt s → D'.rt v H
  bk : ∀ F lab σ H G, Rl K B F0 F lab σ H G → Same Fs F → D.bk G → D'.bk σ H
  ct : ∀ F lab σ H G, Rl K B F0 F lab σ H G → Same Fs F → D.ct G → D'.ct σ H
  ex : ∀ c F H, Go F0 B F H → D.ex c → E (.ref c) none H
theorem Lands.grow {K : PySem.W.Frag} {E : XK} {B F0 Fs Fs' : Hp} {D : GE} {D' : Ends} (l : Lands K E B F0 Fs D D') (e : Same Fs Fs') : Lands K E B F0 Fs' D D' :=
  ⟨fun F lab σ H G r z q => l.nx F lab σ H G r (e.trans z) q, l.rt, fun F lab σ H G r z q => l.bk F lab σ H G r (e.trans z) q, fun F lab σ H G r z q => l.ct F lab σ H G r (e.trans z) q, l.ex⟩
def St (K : PySem.W.Frag) (E : XK) (t : TS) (G : Env) (D : GE) : Prop := ∀ B F0 F lab σ H, Rl K B F0 F lab σ H G → ∀ D' : Ends, Lands K E B F0 F D D' → t D' σ H
variable {E : XK} {D : GE} {t u : TS}
theorem Rl.step {B F0 F F' H H' : Hp} {lab : Lab} {σ : L2.St} (r : Rl K B F0 F lab σ H G) (g : Go F H F' H') : Rl K B F0 F' lab σ H' G := ⟨r.rs.go g, r.go.trans g, r.lb, fun p o e => let ⟨u, h⟩ := r.lv p o e; ⟨u, g.hh _ _ h⟩⟩
theorem st_seq (h : St K E t G { D with nx := fun G' => St K E u G' D }) : St K E (tSeq t u) G D := fun B F0 F lab σ H r D' l =>
  h B F0 F lab σ H r { D' with nx := u D' } ⟨fun F2 lab σ H G' r' z h' => h' B F0 F2 lab σ H r' D' (l.grow z), l.rt, l.bk, l.ct, l.ex⟩
theorem st_next (h : D.nx G) : St K E tNext G D := fun B F0 F lab σ H r D' l => l.nx F lab σ H G r (.refl F) h
theorem st_break (h : D.bk G) : St K E tBreak G D := fun B F0 F lab σ H r D' l => l.bk F lab σ H G r (.refl F) h
theorem st_cont (h : D.ct G) : St K E tCont G D := fun B F0 F lab σ H r D' l => l.ct F lab σ H G r (.refl F) h
theorem st_ret {s : Sl} (h : EvS K te G s) (q : D.rt s) : St K E (tRet te) G D := fun B F0 F lab σ H r D' l =>
  h F lab σ H r.rs _ fun v F' H' g n => l.rt v F' H' s (r.go.trans g) (n.base r.go.hh) q
theorem FlV.relab {F H : Hp} {lab lab' : Lab} {o o' : Nat × Str} {v : V} {x : Fl} (e : ∀ p, lab p = some o → lab' p = some o') (h : FlV K F H lab o v x) : FlV K F H lab' o' v x := by
  cases x with
  | im d => exact h
  | ow ds =>
    obtain ⟨p, vs, a, b, c, d⟩ := h
    exact ⟨p, vs, a, b, e p c, d⟩
theorem FsV.relab {F H : Hp} {lab lab' : Lab} {i j : Nat} (e : ∀ p f, lab p = some (i, f) → lab' p = some (j, f)) : ∀ {ps : List (Str × V)} {qs : List (Str × Fl)}, FsV K F H lab i ps qs → FsV K F H lab' j ps qs
  | [], [], _ => trivial
  | _ :: _, _ :: _, h => ⟨h.1, h.2.1.relab fun p => e p _, FsV.relab e h.2.2⟩
theorem SlV.relab {F H : Hp} {lab lab' : Lab} {i j : Nat} {v : V} {s : Sl} (e : ∀ p f, lab p = some (i, f) → lab' p = some (j, f)) (h : SlV K F H lab i v s) : SlV K F H lab' j v s := by
  cases s with
  | no => trivial
  | fl x => exact FlV.relab (fun p => e p _) h
  | ob C fs =>
    obtain ⟨a, dx, fvs, x, y, z⟩ := h
    exact ⟨a, dx, fvs, x, y, z.relab e⟩
/-- a name that holds its own list, or an object, is handed back -/
theorem st_retV {i : Nat} {s : Sl} (h : G[i]? = some s) (n : s ≠ .no) (q : D.rt s) : St K E (tRet (tVar i)) G D := fun B F0 F lab σ H r D' l => by
  obtain ⟨v, e, hv⟩ := r.rs.sl i s h n
  refine ⟨v, e, l.rt v F H s r.go ⟨fun p => match lab p with | some (k, f) => if k = i then some (0, f) else none | none => none, hv.relab fun p f z => ?_, fun p o z => ?_⟩ q⟩
  · simp [z]
  · cases e' : lab p with
    | none => exact absurd z (by simp [e'])
    | some k => exact r.lb p k e'
/-- a value is stored -/
def joinLab (lab lab2 : Lab) (i : Nat) : Lab := fun p => match lab2 p with
  | some (_, f) => some (i, f)
  | none => lab p
theorem Rs.set {F H : Hp} {lab : Lab} {σ : L2.St} {v : V} {s : Sl} {j : Nat} {lab2 : Lab} {H0 : Hp} (r : Rs K F lab σ H G) (hv : SlV K F H lab2 0 v s) (hn : ∀ p o, lab2 p = some o → H0 p = none) (h0 : ∀ p o ds, lab p = some o → F p = none → H p = some (.lst ds) → lab2 p = none)
    (hz : ∀ p f, lab2 p = some (0, f) → joinLab lab lab2 j p = some (j, f) := by intro p f e; simp [joinLab, e]) : Rs K F (joinLab lab lab2 j) (σ.set j (some v)) H (G.set j s) :=
  ⟨r.fh, by rw [List.length_set, List.length_set]; exact r.len, fun i s' e n => by
    by_cases hi : j = i
    · subst hi
      by_cases hj : j < G.length
      · rw [List.getElem?_set_self hj] at e
        cases e
        exact ⟨v, by rw [List.getElem?_set_self (by rw [← r.len]; exact hj)], hv.relab fun p f z => hz p f z⟩
      · rw [List.getElem?_eq_none (by simpa using hj)] at e
        cases e
    · rw [List.getElem?_set_ne hi] at e ⊢
      obtain ⟨w, ew, hw⟩ := r.sl i s' e n
      refine ⟨w, ew, ?_⟩
      have fl : ∀ {f : Str} {w : V} {x : Fl}, FlV K F H lab (i, f) w x → FlV K F H (joinLab lab lab2 j) (i, f) w x := fun {f w x} h => by
        cases x with
        | im d => exact h
        | ow ds =>
          obtain ⟨p, vs, a, b, c, d, al⟩ := h
          refine ⟨p, vs, a, b, ?_, d, al⟩
          show (match lab2 p with | some (_, f) => some (j, f) | none => lab p) = _
          rw [h0 p _ vs c b d]
          exact c
      have fsl : ∀ {ps : List (Str × V)} {qs : List (Str × Fl)}, FsV K F H lab i ps qs → FsV K F H (joinLab lab lab2 j) i ps qs := by
        intro ps qs
        induction ps generalizing qs with
        | nil => cases qs <;> exact fun h => h
        | cons p ps ih =>
          cases qs with
          | nil => exact fun h => h
          | cons q qs => exact fun h => ⟨h.1, fl h.2.1, ih h.2.2⟩
      cases s' with
      | no => exact absurd rfl n
      | fl x => exact fl hw
      | ob C fs =>
        obtain ⟨a, dx, fvs, x, y, z⟩ := hw
        exact ⟨a, dx, fvs, x, y, fsl z⟩⟩
/-- labels of what stands alone -/
def liveLab (H : Hp) (lab : Lab) : Lab := fun p => match H p with
  | some _ => lab p
  | none => none
theorem FlV.live {F H : Hp} {lab : Lab} {o : Nat × Str} {v : V} {x : Fl} (h : FlV K F H lab o v x) : FlV K F H (liveLab H lab) o v x := by
  cases x with
  | im d => exact h
  | ow ds =>
    obtain ⟨p, vs, a, b, c, d, e⟩ := h
    refine ⟨p, vs, a, b, ?_, d, e⟩
    unfold liveLab
    rw [d]
    exact c
theorem FsV.live {F H : Hp} {lab : Lab} {i : Nat} : ∀ {ps : List (Str × V)} {qs : List (Str × Fl)}, FsV K F H lab i ps qs → FsV K F H (liveLab H lab) i ps qs
  | [], [], _ => trivial
  | _ :: _, _ :: _, h => ⟨h.1, h.2.1.live, FsV.live h.2.2⟩
theorem SlV.live {F H : Hp} {lab : Lab} {i : Nat} {v : V} {s : Sl} (h : SlV K F H lab i v s) : SlV K F H (liveLab H lab) i v s := by
  cases s with
  | no => trivial
  | fl x => exact FlV.live h
  | ob C fs =>
    obtain ⟨a, dx, fvs, x, y, z⟩ := h
    exact ⟨a, dx, fvs, x, y, z.live⟩
theorem liveLab_of {H : Hp} {lab : Lab} {p : Addr} {o : Nat × Str} (e : liveLab H lab p = some o) : lab p = some o ∧ ∃ u, H p = some u := by
  unfold liveLab at e
  cases h : H p with
  | none => rw [h] at e; cases e
  | some u => rw [h] at e; exact ⟨e, u, rfl⟩
/-- behind an evaluation -/
theorem Rl.set {B F0 F F' H H' : Hp} {lab : Lab} {σ : L2.St} {v : V} {s : Sl} {j : Nat} (r : Rl K B F0 F lab σ H G) (g : Go F H F' H') (nv : NvV K F' H' H v s) : ∃ lab', Rl K B F0 F' lab' (σ.set j (some v)) H' (G.set j s) := by
  obtain ⟨lab2, hv, hn⟩ := nv
  have hn' : ∀ p o, liveLab H' lab2 p = some o → H p = none := fun p o e => hn p o (liveLab_of e).1
  refine ⟨joinLab lab (liveLab H' lab2) j, (r.rs.go g).set hv.live hn' fun p o ds e _ _ => ?_, r.go.trans g, fun p o e => ?_, fun p o e => ?_⟩
  · cases e2 : liveLab H' lab2 p with
    | none => rfl
    | some k =>
      obtain ⟨u, hu⟩ := r.lv p o e
      have := hn' p k e2
      rw [hu] at this
      cases this
  · unfold joinLab at e
    cases e2 : liveLab H' lab2 p with
    | none => rw [e2] at e; exact r.lb p o e
    | some k => exact r.go.hh.free (hn' p k e2)
  · unfold joinLab at e
    cases e2 : liveLab H' lab2 p with
    | none =>
      rw [e2] at e
      obtain ⟨u, hu⟩ := r.lv p o e
      exact ⟨u, g.hh _ _ hu⟩
    | some k => exact (liveLab_of e2).2
theorem st_asg {j : Nat} {s : Sl} (h : EvS K te G s) (q : D.nx (G.set j s)) : St K E (tAsg te (gName j)) G D := fun B F0 F lab σ H r D' l =>
  h F lab σ H r.rs _ fun v F' H' g n => by
    obtain ⟨lab', r'⟩ := r.set (j := j) g n
    exact l.nx F' lab' _ H' _ r' g.ff q
theorem st_drop {s : Sl} (h : EvS K te G s) (q : D.nx G) : St K E (tDrop te) G D := fun B F0 F lab σ H r D' l => h F lab σ H r.rs _ fun v F' H' g n => l.nx F' lab σ H' G (r.step g) g.ff q
theorem st_if {c : TT} {b : Bool} (h : EvB K c G b) (h1 : b = true → St K E t G D) (h2 : b = false → St K E u G D) : St K E (tIfS c t u) G D := fun B F0 F lab σ H r D' l => h F lab σ H r.rs _ fun F' H' g => by
  cases b with
  | true => exact h1 rfl B F0 F' lab σ H' (r.step g) D' (l.grow g.ff)
  | false => exact h2 rfl B F0 F' lab σ H' (r.step g) D' (l.grow g.ff)
/-- a, b = e1, e2 -/
theorem st_par {i j : Nat} {d e : PyData} (h : Ev K ta G d) (h2 : Ev K tb G e) (q : D.nx ((G.set i (.im d)).set j (.im e))) : St K E (tPar i j (tCons ta (tCons tb tNil))) G D := fun B F0 F lab σ H r D' l =>
  h F lab σ H r.rs _ fun v F1 H1 g1 n1 => h2 F1 lab σ H1 (r.rs.go g1) _ fun w F2 H2 g2 n2 => by
    refine ⟨v, w, rfl, ?_⟩
    have r2 := r.step (g1.trans g2)
    exact l.nx F2 lab _ H2 _ ⟨(r2.rs.setIm (dp_mono g2.ff n1.dp)).setIm n2.dp, r2.go, r2.lb, r2.lv⟩ (g1.trans g2).ff q
/-- a, b = t and the like: by the target -/
theorem st_asgT {g : TG} {vs : List Nat} {d : PyData} {G' : Env} (h : Ev K te G d) (hg : TgS K g vs d G G') (q : D.nx G') : St K E (tAsg te g) G D := fun B F0 F lab σ H r D' l =>
  h F lab σ H r.rs _ fun v F1 H1 g1 n1 => by
    have r1 := r.step g1
    exact hg F1 lab σ H1 v r1.rs n1.dp _ fun σ' r' _ => l.nx F1 lab σ' H1 G' ⟨r', r1.go, r1.lb, r1.lv⟩ g1.ff q

/-! ### a list of one's own changes -/
/-- the list at p, owned by o, is replaced -/
theorem FlV.other {F H : Hp} {lab : Lab} {o o' : Nat × Str} {v : V} {x : Fl} {p : Addr} {u : HO} (hp : lab p = some o') (ne : o ≠ o') (h : FlV K F H lab o v x) : FlV K F (upd H p u) lab o v x := by
  cases x with
  | im d => exact h
  | ow ds =>
    obtain ⟨q, vs, a, b, c, d, e⟩ := h
    refine ⟨q, vs, a, b, c, ?_, e⟩
    rw [upd_ne (fun z => ne ?_)]
    · exact d
    · rw [z, hp] at c
      exact (Option.some.inj c).symm
theorem FsV.other {F H : Hp} {lab : Lab} {i : Nat} {o' : Nat × Str} {p : Addr} {u : HO} (hp : lab p = some o') (ne : i ≠ o'.1) : ∀ {ps : List (Str × V)} {qs : List (Str × Fl)}, FsV K F H lab i ps qs → FsV K F (upd H p u) lab i ps qs
  | [], [], _ => trivial
  | _ :: _, _ :: _, h => ⟨h.1, h.2.1.other hp (fun z => ne (by rw [← z])), FsV.other hp ne h.2.2⟩
theorem SlV.other {F H : Hp} {lab : Lab} {i : Nat} {v : V} {s : Sl} {o' : Nat × Str} {p : Addr} {u : HO} (hp : lab p = some o') (ne : i ≠ o'.1) (h : SlV K F H lab i v s) : SlV K F (upd H p u) lab i v s := by
  cases s with
  | no => trivial
  | fl x => exact FlV.other hp (fun z => ne (by rw [← z])) h
  | ob C fs =>
    obtain ⟨a, dx, fvs, x, y, z⟩ := h
    exact ⟨a, dx, fvs, x, y, z.other hp ne⟩
theorem Rl.mut {B F0 F H : Hp} {lab : Lab} {σ : L2.St} {j : Nat} {p : Addr} {vs : List V} {ds : List PyData} {ds0 : List PyData} (r : Rl K B F0 F lab σ H G) (hg : G[j]? = some (.ow ds0)) (hs : σ[j]? = some (some (.ref p))) (fp : F p = none) (lp : lab p = some (j, ("" : Str))) (hp : ∃ u, H p = some u) (al : DpAll K F vs ds) :
    Rl K B F0 F lab σ (upd H p (.lst vs)) (G.set j (.ow ds)) := by
  obtain ⟨u, hu⟩ := hp
  have bp := r.lb p _ lp
  refine ⟨⟨same_upd r.rs.fh fp, by rw [List.length_set]; exact r.rs.len, fun i s e n => ?_⟩, ⟨r.go.ff, same_upd r.go.hh bp, same_upd r.go.fh fp, r.go.nw⟩, r.lb, fun q o e => ?_⟩
  · by_cases hi : j = i
    · subst hi
      have hj : j < G.length := (List.getElem?_eq_some_iff.mp hg).1
      rw [List.getElem?_set_self hj] at e
      cases e
      exact ⟨_, hs, p, vs, rfl, fp, lp, upd_same, al⟩
    · rw [List.getElem?_set_ne hi] at e
      obtain ⟨v, ev, hv⟩ := r.rs.sl i s e n
      exact ⟨v, ev, hv.other lp (fun z => hi z.symm)⟩
  · by_cases hq : q = p
    · exact ⟨_, by rw [hq]; exact upd_same⟩
    · obtain ⟨u, hu⟩ := r.lv q o e
      exact ⟨u, by rw [upd_ne hq]; exact hu⟩
/-- where a name's own list stands -/
theorem Rs.own {F H : Hp} {lab : Lab} {σ : L2.St} {j : Nat} {ds : List PyData} (r : Rs K F lab σ H G) (h : G[j]? = some (.ow ds)) : ∃ p vs, σ[j]? = some (some (.ref p)) ∧ F p = none ∧ lab p = some (j, ("" : Str)) ∧ H p = some (.lst vs) ∧ DpAll K F vs ds := by
  obtain ⟨v, e, p, vs, rfl, a, b, c, d⟩ := r.sl j _ h (fun z => nomatch z)
  exact ⟨p, vs, e, a, b, c, d⟩
/-- x.append(e), x a list of one's own -/
theorem st_app {j : Nat} {d : PyData} {ds : List PyData} (hg : G[j]? = some (.ow ds)) (h : Ev K te G d) (hl : ds.length < 100000) (q : D.nx (G.set j (.ow (ds ++ [d])))) : St K E (tDrop (tBM K "list" rAppend (tVar j) (tCons te tNil))) G D := fun B F0 F lab σ H r D' l => by
  obtain ⟨p, vs, e, fp, lp, hp, al⟩ := r.rs.own hg
  refine ⟨_, e, .inl ⟨rfl, _, SqL.of hp⟩, h F lab σ H r.rs _ fun v F1 H1 g1 n1 => ?_⟩
  have r1 := r.step g1
  have hp1 := g1.hh _ _ hp
  have fp1 := (g1.nw p _ hp).trans fp
  have al1 := dpAll_append (dpAll_mono g1.ff al) (.cons n1.dp .nil)
  exact ⟨p, vs, v, rfl, rfl, hp1, by rw [dpAll_len al, sizeLine_eq]; omega, l.nx F1 lab σ _ _ (r1.mut hg e fp1 lp ⟨_, hp1⟩ al1) g1.ff q⟩
/-- x.extend(e), e a list that the heap holds -/
theorem st_ext {j : Nat} {es ds : List PyData} (hg : G[j]? = some (.ow ds)) (h : EvS K te G (.ow es)) (hl : ds.length + es.length ≤ 100000) (q : D.nx (G.set j (.ow (ds ++ es)))) : St K E (tDrop (tBM K "list" rExtend (tVar j) (tCons te tNil))) G D := fun B F0 F lab σ H r D' l => by
  obtain ⟨p, vs, e, fp, lp, hp, al⟩ := r.rs.own hg
  refine ⟨_, e, .inl ⟨rfl, _, SqL.of hp⟩, h F lab σ H r.rs _ fun v F1 H1 g1 n1 => ?_⟩
  obtain ⟨lab2, ⟨b, ws, rfl, _, _, hb, bl⟩, _⟩ := n1
  have r1 := r.step g1
  have hp1 := g1.hh _ _ hp
  have fp1 := (g1.nw p _ hp).trans fp
  have al1 := dpAll_append (dpAll_mono g1.ff al) bl
  exact ⟨p, b, vs, ws, rfl, rfl, hp1, hb, by rw [dpAll_len al, dpAll_len bl, sizeLine_eq]; omega, l.nx F1 lab σ _ _ (r1.mut hg e fp1 lp ⟨_, hp1⟩ al1) g1.ff q⟩
/-- x[i] = e -/
theorem st_setL {j k : Nat} {i : Int} {d : PyData} {ds : List PyData} (hg : G[j]? = some (.ow ds)) (h : Ev K te G d) (hi : EvH K tb G (.int i)) (hk : ixN ds.length i = some k) (q : D.nx (G.set j (.ow (ds.set k d)))) : St K E (tAsg te (gSub (tVar j) tb rSetL)) G D := fun B F0 F lab σ H r D' l =>
  h F lab σ H r.rs _ fun v F1 H1 g1 n1 => by
    have r1 := r.step g1
    obtain ⟨p, vs, e, fp, lp, hp, al⟩ := r1.rs.own hg
    refine ⟨_, e, hi F1 lab σ H1 r1.rs _ fun w F2 H2 g2 n2 => ?_⟩
    have r2 := r1.step g2
    have hp2 := g2.hh _ _ hp
    have fp2 := (g2.nw p _ hp).trans fp
    exact ⟨p, vs, i, k, rfl, dp_int n2, hp2, by rw [dpAll_len al]; exact hk, l.nx F2 lab σ _ _ (r2.mut hg e fp2 lp ⟨_, hp2⟩ (dpAll_set (dp_mono g2.ff n1.dp) k (dpAll_mono g2.ff al))) (g1.trans g2).ff q⟩
/-- x.clear() -/
theorem st_clear {j : Nat} {ds : List PyData} (hg : G[j]? = some (.ow ds)) (q : D.nx (G.set j (.ow []))) : St K E (tDrop (tBM0 K "list" rClear (tVar j))) G D := fun B F0 F lab σ H r D' l => by
  obtain ⟨p, vs, e, fp, lp, hp, al⟩ := r.rs.own hg
  exact ⟨_, e, .inl ⟨rfl, _, SqL.of hp⟩, p, vs, rfl, rfl, hp, l.nx F lab σ _ _ (r.mut hg e fp lp ⟨_, hp⟩ .nil) (.refl F) q⟩
/-- x.pop() -/
theorem st_pop {j : Nat} {ds : List PyData} (hg : G[j]? = some (.ow ds)) (hne : ds ≠ []) (q : D.nx (G.set j (.ow ds.dropLast))) : St K E (tDrop (tBM0 K "list" rPop (tVar j))) G D := fun B F0 F lab σ H r D' l => by
  obtain ⟨p, vs, e, fp, lp, hp, al⟩ := r.rs.own hg
  have hl := dpAll_len al
  have h0 : 0 < ds.length := List.length_pos_iff.mpr hne
  refine ⟨_, e, .inl ⟨rfl, _, SqL.of hp⟩, p, vs, vs[vs.length - 1]'(by omega), rfl, rfl, hp, List.getElem?_eq_getElem (by omega), l.nx F lab σ _ _ (r.mut hg e fp lp ⟨_, hp⟩ ?_) (.refl F) q⟩
  rw [List.dropLast_eq_take, List.dropLast_eq_take, hl]
  exact dpAll_take _ al
/-- a name's own list is left as it is from here on -/
theorem Rl.freeze {B F0 F H : Hp} {lab : Lab} {σ : L2.St} {j : Nat} {ds : List PyData} (r : Rl K B F0 F lab σ H G) (hg : G[j]? = some (.ow ds)) : ∃ F', Rl K B F0 F' lab σ H (G.set j (.im (.list ds))) ∧ Same F F' := by
  obtain ⟨p, vs, e, fp, lp, hp, al⟩ := r.rs.own hg
  have bp := r.lb p _ lp
  have ff : Same F (upd F p (.lst vs)) := same_new fp
  refine ⟨upd F p (.lst vs), ⟨⟨same_updF r.rs.fh hp, by rw [List.length_set]; exact r.rs.len, fun i s q n => ?_⟩, ⟨r.go.ff.trans ff, r.go.hh, same_updF r.go.fh hp, fun a o z => ?_⟩, r.lb, r.lv⟩, ff⟩
  · by_cases hi : j = i
    · subst hi
      have hj : j < G.length := (List.getElem?_eq_some_iff.mp hg).1
      rw [List.getElem?_set_self hj] at q
      cases q
      exact ⟨_, e, .lst (.inl (.inl upd_same)) (dpAll_mono ff al)⟩
    · rw [List.getElem?_set_ne hi] at q
      obtain ⟨v, ev, hv⟩ := r.rs.sl i s q n
      refine ⟨v, ev, ?_⟩
      have fl : ∀ {f : Str} {w : V} {x : Fl}, FlV K F H lab (i, f) w x → FlV K (upd F p (.lst vs)) H lab (i, f) w x := fun {f w x} h => by
        cases x with
        | im d => exact dp_mono ff h
        | ow ds =>
          obtain ⟨q, vs, a, b, c, d, al⟩ := h
          refine ⟨q, vs, a, ?_, c, d, dpAll_mono ff al⟩
          rw [upd_ne (fun z => ?_)]
          · exact b
          · rw [z, lp] at c
            exact hi (congrArg Prod.fst (Option.some.inj c))
      have fsl : ∀ {ps : List (Str × V)} {qs : List (Str × Fl)}, FsV K F H lab i ps qs → FsV K (upd F p (.lst vs)) H lab i ps qs := by
        intro ps qs
        induction ps generalizing qs with
        | nil => cases qs <;> exact fun h => h
        | cons p ps ih =>
          cases qs with
          | nil => exact fun h => h
          | cons q qs => exact fun h => ⟨h.1, fl h.2.1, ih h.2.2⟩
      cases s with
      | no => exact absurd rfl n
      | fl x => exact fl hv
      | ob C fs =>
        obtain ⟨a, dx, fvs, x, y, z⟩ := hv
        exact ⟨a, dx, fvs, x, ff _ _ y, fsl z⟩
  · rw [upd_ne (ne_of_none z bp)]
    exact r.go.nw a o z
theorem st_freeze (j : Nat) {ds : List PyData} (hg : G[j]? = some (.ow ds)) (h : St K E t (G.set j (.im (.list ds))) D) : St K E t G D := fun B F0 F lab σ H r D' l => by
  obtain ⟨F', r', z⟩ := r.freeze hg
  exact h B F0 F' lab σ H r' D' (l.grow z)

/-! ### less is known -/
/-- what G knows, G' knows -/
def Le (G G' : Env) : Prop := G.length = G'.length ∧ ∀ (i : Nat) (s : Sl), G[i]? = some s → s ≠ .no → G'[i]? = some s
theorem Le.refl (G : Env) : Le G G := ⟨rfl, fun _ _ e _ => e⟩
theorem Le.trans {G G1 G2 : Env} (a : Le G G1) (b : Le G1 G2) : Le G G2 := ⟨a.1.trans b.1, fun i s e n => b.2 i s (a.2 i s e n) n⟩
theorem Le.no {G G' : Env} (a : Le G G') (j : Nat) : Le (G.set j Sl.no) G' := ⟨by rw [List.length_set]; exact a.1, fun i s e n => by
  by_cases hi : j = i
  · subst hi
    by_cases hj : j < G.length
    · rw [List.getElem?_set_self hj] at e
      cases e
      exact absurd rfl n
    · rw [List.getElem?_eq_none (by simpa using hj)] at e
      cases e
  · rw [List.getElem?_set_ne hi] at e
    exact a.2 i s e n⟩
theorem Le.set {G G' : Env} (a : Le G G') (j : Nat) (x : Sl) : Le (G.set j x) (G'.set j x) := ⟨by rw [List.length_set, List.length_set]; exact a.1, fun i s e n => by
  by_cases hi : j = i
  · subst hi
    by_cases hj : j < G.length
    · rw [List.getElem?_set_self hj] at e
      rw [List.getElem?_set_self (by rw [← a.1]; exact hj)]
      exact e
    · rw [List.getElem?_eq_none (by simpa using hj)] at e
      cases e
  · rw [List.getElem?_set_ne hi] at e ⊢
    exact a.2 i s e n⟩
theorem Le.setR {G G' : Env} (a : Le G G') (j : Nat) (x : Sl) (h : G[j]? = some Sl.no ∨ G[j]? = none) : Le G (G'.set j x) := ⟨by rw [List.length_set]; exact a.1, fun i s e n => by
  by_cases hi : j = i
  · subst hi
    rcases h with h | h
    · rw [h] at e; cases e; exact absurd rfl n
    · rw [h] at e; cases e
  · rw [List.getElem?_set_ne hi]
    exact a.2 i s e n⟩
theorem le_nil : Le [] [] := .refl []
theorem le_same {G G' : Env} {s : Sl} (h : Le G G') : Le (s :: G) (s :: G') := ⟨congrArg Nat.succ h.1, fun i t e n => by
  cases i with
  | zero => exact e
  | succ i => exact h.2 i t e n⟩
theorem le_skip {G G' : Env} {s : Sl} (h : Le G G') : Le (.no :: G) (s :: G') := ⟨congrArg Nat.succ h.1, fun i t e n => by
  cases i with
  | zero => cases e; exact absurd rfl n
  | succ i => exact h.2 i t e n⟩
theorem Rs.le {G' : Env} {F H : Hp} {lab : Lab} {σ : L2.St} (r : Rs K F lab σ H G') (a : Le G G') : Rs K F lab σ H G := ⟨r.fh, a.1.trans r.len, fun i s e n => r.sl i s (a.2 i s e n) n⟩
theorem st_le {G' : Env} (a : Le G G') (h : St K E t G D) : St K E t G' D := fun B F0 F lab σ H r D' l => h B F0 F lab σ H ⟨r.rs.le a, r.go, r.lb, r.lv⟩ D' l
theorem Ev.le {G' : Env} {s : Sl} (a : Le G G') (h : EvS K te G s) : EvS K te G' s := fun F lab σ H r => h F lab σ H (r.le a)
/-- more is wished -/
theorem St.imp {D2 : GE} (h : St K E t G D) (nx : ∀ G', D.nx G' → D2.nx G') (rt : ∀ s, D.rt s → D2.rt s) (bk : ∀ G', D.bk G' → D2.bk G') (ct : ∀ G', D.ct G' → D2.ct G') (ex : ∀ c, D.ex c → D2.ex c) : St K E t G D2 := fun B F0 F lab σ H r D' l =>
  h B F0 F lab σ H r D' ⟨fun F lab σ H G' r' y z => l.nx F lab σ H G' r' y (nx _ z), fun v F H s g n z => l.rt v F H s g n (rt _ z), fun F lab σ H G' r' y z => l.bk F lab σ H G' r' y (bk _ z), fun F lab σ H G' r' y z => l.ct F lab σ H G' r' y (ct _ z), fun c F H g z => l.ex c F H g (ex c z)⟩

/-! ### loops -/
theorem st_for {α : Type} {xs : List α} {enc : α → PyData} {wi : TI} {g : TG} {vs : List Nat} {tb : TS} (hi : EvI K wi G (xs.map enc)) (I : Nat → Env → Prop) (h0 : I 0 G)
    (hs : ∀ i x G', xs[i]? = some x → I i G' → ∃ G2, TgS K g vs (enc x) G' G2 ∧ St K E tb G2 { D with nx := I (i + 1), ct := I (i + 1), bk := D.nx }) (hd : ∀ G', I xs.length G' → D.nx G') : St K E (tFor wi g tb) G D := fun B F0 F lab σ H r D' l =>
  hi F lab σ H r.rs _ fun J F1 H1 g1 wk => by
    refine ⟨fun i m σ' H' => m = xs.length - i ∧ i ≤ xs.length ∧ ∃ F2 lab2 G2, Rl K B F0 F2 lab2 σ' H' G2 ∧ Same F1 F2 ∧ I i G2, ⟨_, rfl, Nat.zero_le _, F1, lab, G, r.step g1, .refl _, h0⟩, ?_⟩
    rintro i m σ' H' ⟨rfl, hle, F2, lab2, G2, r2, s2, hI⟩
    by_cases hlt : i < xs.length
    · have hx : xs[i]? = some xs[i] := List.getElem?_eq_getElem hlt
      generalize xs[i] = x at hx
      have hd' : (xs.map enc)[i]? = some (enc x) := by rw [List.getElem?_map, hx]; rfl
      obtain ⟨go, yl⟩ := wk.1 i _ F2 H' hd' s2 r2.rs.fh
      refine .inr ⟨go, fun σ'' H'' => ∃ F3 lab3 G3, Rl K B F0 F3 lab3 σ'' H'' G3 ∧ Same F1 F3 ∧ I (i + 1) G3, fun σ'' H'' ⟨F3, lab3, G3, a, b, c⟩ => ⟨xs.length - (i + 1), by omega, rfl, hlt, F3, lab3, G3, a, b, c⟩, fun y H3 yy => ?_⟩
      obtain ⟨F3, g3, dy⟩ := yl y H3 yy
      obtain ⟨G3, tgs, body⟩ := hs i x G2 hx hI
      have r3 := r2.step g3
      refine tgs F3 lab2 σ' H3 y r3.rs dy _ fun σ3 r4 _ => ?_
      have r4' : Rl K B F0 F3 lab2 σ3 H3 G3 := ⟨r4, r3.go, r3.lb, r3.lv⟩
      have s3 : Same F1 F3 := s2.trans g3.ff
      refine body B F0 F3 lab2 σ3 H3 r4' _ ⟨fun F4 lab4 σ4 H4 G4 r5 y z => ⟨F4, lab4, G4, r5, s3.trans y, z⟩, l.rt, fun F4 lab4 σ4 H4 G4 r5 y z => l.nx _ _ _ _ _ r5 ((g1.ff.trans s3).trans y) z, fun F4 lab4 σ4 H4 G4 r5 y z => ⟨F4, lab4, G4, r5, s3.trans y, z⟩, l.ex⟩
    · have e : i = xs.length := by omega
      subst e
      have st := wk.2 F2 H' s2 r2.rs.fh
      rw [List.length_map] at st
      exact .inl ⟨st, l.nx F2 lab2 σ' H' G2 r2 (g1.ff.trans s2) (hd G2 hI)⟩
/-- by what is known at each turn: Gf i; what else the turn left is forgotten -/
theorem st_forG {α : Type} {xs : List α} {enc : α → PyData} {wi : TI} {g : TG} {vs : List Nat} {tb : TS} (hi : EvI K wi G (xs.map enc)) (Gf : Nat → Env) (h0 : Le (Gf 0) G)
    (hs : ∀ i x, xs[i]? = some x → ∃ G2, TgS K g vs (enc x) (Gf i) G2 ∧ St K E tb G2 { D with nx := fun G' => Le (Gf (i + 1)) G', ct := fun G' => Le (Gf (i + 1)) G', bk := D.nx }) (hd : ∀ G', Le (Gf xs.length) G' → D.nx G') : St K E (tFor wi g tb) G D :=
  st_for (vs := vs) hi (fun i G' => Le (Gf i) G') h0 (fun i x G' hx hle => by
    obtain ⟨G2, tg, b⟩ := hs i x hx
    exact ⟨G2, fun F lab σ H v r dv Q q => tg F lab σ H v (r.le hle) dv Q q, b⟩) hd
/-- while -/
theorem st_while {c : TT} {tb : TS} (I : Nat → Env → Prop) (m0 : Nat) (h0 : I m0 G)
    (hs : ∀ m G', I m G' → ∃ b, EvB K c G' b ∧ (b = true → St K E tb G' { D with nx := fun G2 => ∃ m', m' < m ∧ I m' G2, ct := fun G2 => ∃ m', m' < m ∧ I m' G2, bk := D.nx }) ∧ (b = false → D.nx G')) : St K E (tWhile c tb) G D := fun B F0 F lab σ H r D' l => by
  refine ⟨fun m σ' H' => ∃ F2 lab2 G2, Rl K B F0 F2 lab2 σ' H' G2 ∧ Same F F2 ∧ I m G2, ⟨m0, F, lab, G, r, .refl F, h0⟩, ?_⟩
  rintro m σ' H' ⟨F2, lab2, G2, r2, s2, hI⟩
  obtain ⟨b, hb, h1, h2⟩ := hs m G2 hI
  refine hb F2 lab2 σ' H' r2.rs _ fun F3 H3 g3 => ?_
  have r3 := r2.step g3
  cases b with
  | true =>
    refine ⟨fun σ4 H4 => ∃ m', m' < m ∧ ∃ F4 lab4 G4, Rl K B F0 F4 lab4 σ4 H4 G4 ∧ Same F F4 ∧ I m' G4, fun σ4 H4 z => z, ?_⟩
    refine h1 rfl B F0 F3 lab2 σ' H3 r3 _ ⟨fun F4 lab4 σ4 H4 G4 r5 y ⟨m', lt, z⟩ => ⟨m', lt, F4, lab4, G4, r5, (s2.trans g3.ff).trans y, z⟩, l.rt, fun F4 lab4 σ4 H4 G4 r5 y z => l.nx _ _ _ _ _ r5 ((s2.trans g3.ff).trans y) z, fun F4 lab4 σ4 H4 G4 r5 y ⟨m', lt, z⟩ => ⟨m', lt, F4, lab4, G4, r5, (s2.trans g3.ff).trans y, z⟩, l.ex⟩
  | false => exact l.nx _ _ _ _ _ r3 (s2.trans g3.ff) (h2 rfl)

/-! ### raise -/
theorem st_raise {W : WX} {c : Addr} (hW : ∀ cls d σ H, E cls d H → W cls d σ H) (q : D.ex c) : St K E (fun _ σ H => (fun _ H Q => Q (.ref c) none H : L2.St → Hp → XK → Prop) σ H fun cls d H' => W cls d σ H') G D := fun B F0 F lab σ H r D' l => hW _ _ _ _ (l.ex c F H r.go q)
/-- a call that raises -/
theorem st_callX {R : List Sl → Out → Prop} {ta : TA} {ss : List Sl} {c : Addr} (h : EvA K ta G ss) (hR : R ss (.exc c)) (q : D.ex c) : St K E (tDrop (tCall (spR K R) [] E ta)) G D := fun B F0 F lab σ H r D' l =>
  h F lab σ H r.rs _ fun vs F1 H1 g1 a => ⟨F1, ss, .exc c, g1.fh, by rw [List.append_nil]; exact a, hR, fun F2 H2 g2 => l.ex c F2 H2 ((r.go.trans g1).trans g2) q⟩

/-! ### a def keeps its promise -/
def params (N : List Str) (ss : List Sl) : Env := ss ++ List.replicate (N.length - ss.length) .no
theorem args_len {F : Hp} : ∀ {vs : List V} {ss : List Sl}, ArgsV K F vs ss → vs.length = ss.length
  | [], [], _ => rfl
  | _ :: _, _ :: _, h => by rw [List.length_cons, List.length_cons, args_len h.2]
theorem args_get {F : Hp} : ∀ {vs : List V} {ss : List Sl} {i : Nat} {s : Sl}, ArgsV K F vs ss → ss[i]? = some s → ∃ v, vs[i]? = some v ∧ ArgV K F v s
  | [], [], _, _, _, e => by simp at e
  | v :: vs, s :: ss, 0, _, h, e => by simp at e; subst e; exact ⟨v, rfl, h.1⟩
  | v :: vs, s :: ss, i + 1, s', h, e => by
    obtain ⟨w, h1, h2⟩ := args_get (i := i) (s := s') h.2 (by simpa using e)
    exact ⟨w, by simpa using h1, h2⟩
theorem rs_start {N : List Str} {F H : Hp} {vs : List V} {ss : List Sl} (fh : Same F H) (a : ArgsV K F vs ss) : Rs K F noLab (L2.start N vs) H (params N ss) :=
  ⟨fh, by unfold params L2.start; rw [List.length_append, List.length_append, List.length_replicate, List.length_replicate, List.length_map, args_len a], fun i s e n => by
    unfold params at e
    by_cases hi : i < ss.length
    · rw [List.getElem?_append_left hi] at e
      obtain ⟨v, ev, hv⟩ := args_get a e
      refine ⟨v, ?_, hv.same (.refl F)⟩
      unfold L2.start
      rw [List.getElem?_append_left (by rw [List.length_map, args_len a]; exact hi), List.getElem?_map, ev]
      rfl
    · rw [List.getElem?_append_right (by omega)] at e
      have := List.mem_of_getElem? e
      exact absurd (List.eq_of_mem_replicate this) n⟩
/-- what a def's reading must show -/
theorem st_run {N : List Str} {R : List Sl → Out → Prop} {vs : List V} {H : Hp} {Q : VK} {E : XK} {t : TS} (h : spR K R vs H Q E)
    (body : ∀ ss o, R ss o → St K E t (params N ss) { nx := fun _ => o = .ret (.im .none), rt := fun s => o = .ret s, ex := fun c => o = .exc c }) : t { nx := fun _ H' => Q .non H', rt := Q } (L2.start N vs) H := by
  obtain ⟨F, ss, o, fh, a, hR, fin⟩ := h
  refine body ss o hR H F F noLab _ H ⟨rs_start fh a, .refl fh, (fun _ _ e => nomatch e), (fun _ _ e => nomatch e)⟩ _ ⟨fun F2 lab σ2 H2 G2 r _ e => ?_, fun v F2 H2 s g n e => ?_, fun _ _ _ _ _ _ _ z => z.elim, fun _ _ _ _ _ _ _ z => z.elim, fun c F2 H2 g e => ?_⟩
  · subst e
    exact fin .non F2 H2 r.go (.im .non)
  · subst e
    exact fin v F2 H2 g n
  · subst e
    exact fin F2 H2 g
theorem spR_len {R : List Sl → Out → Prop} {vs : List V} {H : Hp} {Q : VK} {E : XK} {n : Nat} (h : spR K R vs H Q E) (hn : ∀ ss o, R ss o → ss.length = n) : vs.length = n := by
  obtain ⟨F, ss, o, fh, a, hR, fin⟩ := h
  rw [args_len a]
  exact hn ss o hR
end
end UU
namespace UU
open PySem L2

/-! ### calls of the text's own defs -/
structure Cal (P : Program) (w : World) (K : PySem.W.Frag) (mg : Str → Option Value) (base : Heap) (CX : CXT) (k : Nat) (x : Str) (ps : List Str) (sp : Sp) : Prop where
  ex : ∃ f fd, FnOk P w K mg base CX k f fd ps sp ∧ mg x = some (.ref f) ∧ PySem.W.keepIn K (.ref f) = true ∧ Binds K fd ps []
section
variable {X : Cx}
theorem hu65 {A : Around} {k : Nat} (hr : Room k A) : A.units + 65 < cLine := by have := hr.un; omega
theorem pe_cal {x : Str} {ps : List Str} {sp : Sp} {k j : Nat} {e : Expr} {es : List Expr} {t : TA} {p pos : Pos} (c : Cal X.prog X.w X.K X.mg X.base CX0 k x ps sp) (hr : Room j X.A) (hk : k ≤ j) (hg : Gl X x) (ha : PA X (e :: es) t)
    (hdb : (x == ("__debug__" : Str)) = false := by decide) (he : starEach (e :: es) X.env = (false, eval e X.env) :: starEach es X.env := by rfl) (hpl : (backTo pos (starEach es X.env)).any (·.1) = false := by rfl) :
    PE X (.Call (.Name x p) (e :: es) [] pos) (tCall sp [] E0 t) := by
  obtain ⟨f, fd, F, hm, hkp, hb⟩ := c.ex
  exact pe_call F (hr.mono hk) hg hm hkp hb .nil pass0 ha hdb he hpl
end
abbrev rLenU (K : PySem.W.Frag) : List V → Hp → VK → Prop := fun xs H Q => ∃ x n, xs = [x] ∧ LenV K x H n ∧ Q (.int n) H
abbrev rAbsU : List V → Hp → VK → Prop := fun xs H Q => ∃ i, xs = [.int i] ∧ Q (.int (if i < 0 then -i else i)) H
abbrev rMax2U : List V → Hp → VK → Prop := fun xs H Q => ∃ i j, xs = [.int i, .int j] ∧ Q (.int (if j > i then j else i)) H
abbrev rMin2U : List V → Hp → VK → Prop := fun xs H Q => ∃ i j, xs = [.int i, .int j] ∧ Q (.int (if j < i then j else i)) H
abbrev rListU (K : PySem.W.Frag) : List V → Hp → VK → Prop := fun xs H Q => ∃ p ys, xs = [.ref p] ∧ (SqL K H p ys ∨ SqT K H p ys) ∧ ∀ l, H l = none → Q (.ref l) (upd H l (.lst ys))
abbrev rIntU : List V → Hp → VK → Prop := fun xs H Q => (∃ i, xs = [.int i] ∧ Q (.int i) H) ∨ ∃ k, xs = [.bl k] ∧ Q (.int (if k then 1 else 0)) H
abbrev rStrU : List V → Hp → VK → Prop := fun xs H Q => ∃ i, xs = [.int i] ∧ i.natAbs.log2 < 1920 ∧ Q (.str (toString i)) H

section
variable {K : PySem.W.Frag} {G : Env} {ta tb te tc : TE}
theorem ea_im {t : TA} {d : PyData} {ss : List Sl} (h : Ev K te G d) (hr : EvA K t G ss) : EvA K (tCons te t) G (.im d :: ss) := ea_cons h hr
theorem eb_andN {t u : TT} {a b : Bool} (h1 : EvB K t G a) (h2 : EvB K u G b) : EvB K (tAnd t u) G (a && b) := eb_and h1 fun _ => h2
theorem eb_orN {t u : TT} {a b : Bool} (h1 : EvB K t G a) (h2 : EvB K u G b) : EvB K (tOr t u) G (a || b) := eb_or h1 fun _ => h2
theorem ev_andN {a b : Bool} (h1 : EvH K ta G (.bool a)) (h2 : EvH K tb G (.bool b)) : Ev K (tAndV ta tb) G (.bool (a && b)) := ev_andV h1 fun _ => h2
theorem ev_orN {a b : Bool} (h1 : EvH K ta G (.bool a)) (h2 : EvH K tb G (.bool b)) : Ev K (tOrV ta tb) G (.bool (a || b)) := ev_orV h1 fun _ => h2
/-- all of them quiet data -/
inductive Ims : List Sl → List PyData → Prop where
  | nil : Ims [] []
  | cons {d : PyData} {ss : List Sl} {ds : List PyData} (h : Ims ss ds) : Ims (.im d :: ss) (d :: ds)
theorem Ims.eq : ∀ {ss : List Sl} {ds : List PyData}, Ims ss ds → ss = ds.map Sl.im
  | _, _, .nil => rfl
  | _, _, .cons h => by rw [h.eq]; rfl
theorem ev_tupI {t : TA} {ss : List Sl} {ds : List PyData} (h : EvA K t G ss) (i : Ims ss ds) (hl : ds.length ≤ 100000) : Ev K (tTup t) G (.tuple ds) := ev_tup (i.eq ▸ h) hl
theorem ev_lstI {t : TA} {ss : List Sl} {ds : List PyData} (h : EvA K t G ss) (i : Ims ss ds) (hl : ds.length ≤ 100000) : EvS K (tLst t) G (.ow ds) := ev_lst (i.eq ▸ h) hl
/-- an item of a datum -/
inductive ItemOf : PyData → Int → PyData → Prop where
  | lst {ds : List PyData} {i : Int} {d : PyData} (h : atI ds i = some d) : ItemOf (.list ds) i d
  | tup {ds : List PyData} {i : Int} {d : PyData} (h : atI ds i = some d) : ItemOf (.tuple ds) i d
theorem ev_ix {a d : PyData} {i : Int} (ha : Ev K ta G a) (hb : EvH K tb G (.int i)) (h : ItemOf a i d) : Ev K (tOp (rIx K) ta tb) G d := by
  cases h with
  | lst h => exact ev_ixL ha hb h
  | tup h => exact ev_ixT ha hb h
theorem eh_ix {a d : PyData} {i : Int} (ha : EvH K ta G a) (hb : EvH K tb G (.int i)) (h : ItemOf a i d) : EvH K (tOp (rIx K) ta tb) G d := by
  cases h with
  | lst h => exact eh_ixL ha hb h
  | tup h => exact eh_ixT ha hb h
/-- the length of a datum -/
inductive LenOf : PyData → Nat → Prop where
  | lst {ds : List PyData} : LenOf (.list ds) ds.length
  | tup {ds : List PyData} : LenOf (.tuple ds) ds.length
  | str {x : Str} (h : x.length ≤ sizeLine) : LenOf (.str x) x.length
theorem ev_lenD {d : PyData} {n : Nat} (h : EvH K ta G d) (hn : LenOf d n) : Ev K (tCB (rLenU K) (tCons ta tNil)) G (.int n) := by
  cases hn with
  | lst => exact ev_lenL h
  | tup => exact ev_lenT h
  | str hx => exact ev_len h (.inr ⟨_, rfl, rfl, hx⟩)
/-- the items of a datum that is walked -/
theorem ItemOf.nat {ds : List PyData} {j : Nat} {d : PyData} (h : ds[j]? = some d) : ItemOf (.list ds) (j : Int) d := .lst (atI_nat h)
theorem atI_map {α : Type} {f : α → PyData} {xs : List α} {j : Nat} {x : α} (h : xs[j]? = some x) : atI (xs.map f) (j : Int) = some (f x) := atI_nat (by rw [List.getElem?_map, h]; rfl)
/-- a kept sign: a value is seen to be what it is -/
theorem ev_isBl {a b : Bool} (ha : EvH K ta G (.bool a)) (hb : EvH K tb G (.bool b)) : Ev K (tOp rIsB ta tb) G (.bool (decide (a = b))) := ev_op2 ha hb fun H x y hx hy Q q => ⟨a, b, dp_bool hx, dp_bool hy, q _ (.bl _)⟩
theorem ev_notBl {a b : Bool} (ha : EvH K ta G (.bool a)) (hb : EvH K tb G (.bool b)) : Ev K (tOp rNotB ta tb) G (.bool (!decide (a = b))) := ev_op2 ha hb fun H x y hx hy Q q => ⟨a, b, dp_bool hx, dp_bool hy, q _ (.bl _)⟩
theorem ev_revL {ds : List PyData} (ha : Ev K ta G (.list ds)) : EvS K (tRevL K ta) G (.ow ds.reverse) := fun F lab σ H rs Q q =>
  ha F lab σ H rs _ fun x F1 H1 g1 d1 => by
    obtain ⟨a, xs, rfl, sq, al⟩ := dp_list d1.dp
    exact ⟨a, xs, rfl, Same.seq g1.fh sq, own_new g1 (dpAll_rev al) q⟩
end
/-! ### how big a number is -/
def Sm (n : Nat) (i : Int) : Prop := i.natAbs < 2 ^ n
theorem Sm.mono {m n : Nat} {i : Int} (h : Sm m i) (e : m ≤ n) : Sm n i := Nat.lt_of_lt_of_le h (Nat.pow_le_pow_right (by decide) e)
theorem Sm.mul {m n : Nat} {i j : Int} (h : Sm m i) (h2 : Sm n j) : Sm (m + n) (i * j) := wide_lt h h2
theorem Sm.add {m : Nat} {i j : Int} (h : Sm m i) (h2 : Sm m j) : Sm (m + 1) (i + j) := by
  unfold Sm at *
  have : (i + j).natAbs ≤ i.natAbs + j.natAbs := Int.natAbs_add_le i j
  rw [Nat.pow_succ]
  omega
theorem Sm.neg {m : Nat} {i : Int} (h : Sm m i) : Sm m (-i) := by
  unfold Sm at *
  rw [Int.natAbs_neg]
  exact h
theorem Sm.le {m : Nat} {i j : Int} (h : Sm m j) (e : i.natAbs ≤ j.natAbs) : Sm m i := Nat.lt_of_le_of_lt e h
theorem Sm.cmul {m n : Nat} {i j : Int} (h : Sm m i) (h2 : Sm n j) (e : m + n ≤ 999998) : CMulW i j := wide_mul (h.mono (Nat.le_succ m)) (h2.mono (Nat.le_succ n)) (Nat.succ_pos _) (Nat.succ_pos _) (by omega)
theorem Sm.cdiv {n : Nat} {i j : Int} (h : 0 < j) (h2 : Sm n j) (e : n ≤ 8999) : CDivW i j := wide_div h (h2.mono (Nat.le_succ n)) (Nat.succ_pos _) (by omega)
theorem sm_of {n : Nat} {i : Int} (a : -(2 ^ n : Nat) < i) (b : i < (2 ^ n : Nat)) : Sm n i := by
  unfold Sm
  omega
theorem sm64 {i : Int} (a : -18446744073709551616 < i) (b : i < 18446744073709551616) : Sm 64 i := by
  unfold Sm
  have : (2 : Nat) ^ 64 = 18446744073709551616 := by decide
  omega
end UU
namespace UU
open PySem L2
local macro_rules | `(tactic| walk_at "ev1") => `(tactic| first
  | ((with_reducible apply ev_var); rfl)
  | ((with_reducible apply EvS.h (ev_var ?_)); rfl)
  | ((with_reducible apply eh_own); rfl)
  | ((with_reducible apply ev_c); constructor)
  | with_reducible apply ea_im
  | with_reducible apply eah_cons
  | with_reducible apply eo_some
  | with_reducible apply eb_test
  | with_reducible apply eb_B
  | with_reducible apply eb_not
  | with_reducible apply eb_andN
  | with_reducible apply eb_orN
  | with_reducible apply ev_chain
  | with_reducible apply ev_I0
  | with_reducible apply ev_I
  | with_reducible apply ev_neg
  | with_reducible apply ev_eqD
  | with_reducible apply ev_neD
  | with_reducible apply ev_inD
  | with_reducible apply ev_notInD
  | with_reducible apply ev_isBl
  | with_reducible apply ev_notBl
  | with_reducible apply ev_andN
  | with_reducible apply ev_orN
  | with_reducible apply ev_notV
  | exact Sc.int _
  | exact Sc.bl _
  | exact Sc.str _
  | with_reducible exact ea_nil
  | with_reducible exact eah_nil
  | with_reducible exact eb_yes
  | with_reducible exact eo_none
  | ((with_reducible apply ev_ixO); rfl)
  | with_reducible apply ev_ix
  | with_reducible apply eh_ix
  | with_reducible apply ev_tupI
  | with_reducible apply ev_lstI
  | with_reducible apply ev_call
  | with_reducible apply ev_lenD
  | with_reducible apply ev_abs
  | with_reducible apply ev_max2
  | with_reducible apply ev_min2
  | with_reducible apply ev_sum
  | with_reducible apply ev_max
  | with_reducible apply ev_min
  | with_reducible apply ev_any
  | with_reducible apply ev_all
  | with_reducible apply ev_isi
  | with_reducible apply ev_intB
  | ((with_reducible show List.length _ ≤ 100000); exact Nat.le_of_ble_eq_true rfl)
  | ((with_reducible show atI _ _ = some _); with_unfolding_all rfl)
  | with_reducible exact Ims.nil
  | with_reducible apply Ims.cons
  | with_reducible exact LenOf.lst
  | with_reducible exact LenOf.tup
  | ((with_reducible apply ItemOf.lst); with_unfolding_all rfl)
  | ((with_reducible apply ItemOf.tup); with_unfolding_all rfl)
  | ((with_reducible show kitB _ _ = _); with_unfolding_all rfl)
  | with_reducible apply EvS.h)
local macro_rules | `(tactic| walk_at "ev") => `(tactic| repeat' (walk_at "ev1"))
local macro_rules | `(tactic| walk_at "le") => `(tactic| repeat' (first | exact le_nil | apply le_same | apply le_skip))
/-! ### fractions: what they are -/
abbrev Frc := Int × Int
def encF (x : Frc) : PyData := .tuple [.int x.1, .int x.2]
def mk (a b : Int) : Frc := (a / (Int.gcd a b : Int), b / (Int.gcd a b : Int))
def plusF (x y : Frc) : Frc := mk (x.1 * y.2 + y.1 * x.2) (x.2 * y.2)
def timesF (x y : Frc) : Frc := mk (x.1 * y.1) (x.2 * y.2)
def belowF (x y : Frc) : Bool := decide (x.1 * y.2 < y.1 * x.2)
def totalF (xs : List Frc) : Frc := xs.foldl plusF (0, 1)
/-- of so many bits, the lower one above nought -/
structure Fb (n : Nat) (x : Frc) : Prop where
  pos : 0 < x.2
  a : Sm n x.1
  b : Sm n x.2
theorem Fb.mono {m n : Nat} {x : Frc} (h : Fb m x) (e : m ≤ n) : Fb n x := ⟨h.pos, h.a.mono e, h.b.mono e⟩
theorem gcd_pos {a b : Int} (h : 0 < b) : 0 < (Int.gcd a b : Int) := by
  have : Int.gcd a b ≠ 0 := fun z => by
    have := (Int.gcd_eq_zero_iff.mp z).2
    omega
  omega
theorem gcd_le {a b : Int} (h : 0 < b) : (Int.gcd a b : Int) ≤ b := Int.le_of_dvd h (Int.gcd_dvd_right a b)
theorem mk_fb {n : Nat} {a b : Int} (h : 0 < b) (ha : Sm n a) (hb : Sm n b) : Fb n (mk a b) := by
  have g := gcd_pos (a := a) h
  refine ⟨Int.ediv_pos_of_pos_of_dvd h (Int.le_of_lt g) (Int.gcd_dvd_right a b), ?_, ?_⟩
  · refine ha.le ?_
    show (a / (Int.gcd a b : Int)).natAbs ≤ a.natAbs
    rw [Int.natAbs_ediv_of_dvd (Int.gcd_dvd_left a b)]
    exact Nat.div_le_self _ _
  · refine hb.le ?_
    show (b / (Int.gcd a b : Int)).natAbs ≤ b.natAbs
    rw [Int.natAbs_ediv_of_dvd (Int.gcd_dvd_right a b)]
    exact Nat.div_le_self _ _
theorem plusF_fb {m n : Nat} {x y : Frc} (h : Fb m x) (h2 : Fb n y) : Fb (m + n + 1) (plusF x y) :=
  mk_fb (Int.mul_pos h.pos h2.pos) ((h.a.mul h2.b).add ((h2.a.mul h.b).mono (by omega))) ((h.b.mul h2.b).mono (by omega))
theorem timesF_fb {m n : Nat} {x y : Frc} (h : Fb m x) (h2 : Fb n y) : Fb (m + n) (timesF x y) := mk_fb (Int.mul_pos h.pos h2.pos) (h.a.mul h2.a) (h.b.mul h2.b)

theorem item_F0 {x : Frc} : ItemOf (encF x) 0 (.int x.1) := .tup rfl
theorem item_F1 {x : Frc} : ItemOf (encF x) 1 (.int x.2) := .tup rfl
theorem len_F {x : Frc} : LenOf (encF x) 2 := .tup
local macro_rules | `(tactic| walk_at "ev1") => `(tactic| first | with_reducible exact item_F0 | with_reducible exact item_F1 | with_reducible exact len_F)

/-! ### fractions: the defs -/
def R_common : List Sl → Out → Prop := fun ss o => ∃ a b : Int, ss = [.im (.int a), .im (.int b)] ∧ o = .ret (.im (.int (Int.gcd a b)))
def t_common (K : PySem.W.Frag) : TS := (tSeq (tPar 0 1 (tCons (tCB (rAbsU) (tCons (tVar 0) tNil)) (tCons (tCB (rAbsU) (tCons (tVar 1) tNil)) tNil)))
    (tSeq (tWhile (tTest (tOp (rI0 fun i j => .bl (decide (j < i))) (tVar 1) (tC (.int 0)))) (tPar 0 1 (tCons (tVar 1) (tCons (tOp (rI (fun _ j => 0 < j) fun i j => .int (i % j)) (tVar 0) (tVar 1)) tNil))))
    (tRet (tVar 0))))
def R_made : List Sl → Out → Prop := fun ss o => ∃ a b : Int, ss = [.im (.int a), .im (.int b)] ∧ 0 < b ∧ Sm 8500 b ∧ o = .ret (.im (encF (mk a b)))
def t_made (K : PySem.W.Frag) : TS := (tSeq (tAsg (tCall (spR K R_common) [] E0 (tCons (tVar 0) (tCons (tVar 1) tNil))) (gName 2))
    (tRet (tTup (tCons (tOp (rI CDivW fun i j => .int (i / j)) (tVar 0) (tVar 2)) (tCons (tOp (rI CDivW fun i j => .int (i / j)) (tVar 1) (tVar 2)) tNil)))))
def R_plus : List Sl → Out → Prop := fun ss o => ∃ x y : Frc, ss = [.im (encF x), .im (encF y)] ∧ Fb 4200 x ∧ Fb 4200 y ∧ o = .ret (.im (encF (plusF x y)))
def t_plus (K : PySem.W.Frag) : TS := (tRet (tCall (spR K R_made) [] E0 (tCons (tOp (rI0 fun i j => .int (i + j)) (tOp (rI CMulW fun i j => .int (i * j)) (tOp (rIx K) (tVar 0) (tC (.int 0))) (tOp (rIx K) (tVar 1) (tC (.int 1)))) (tOp (rI CMulW fun i j => .int (i * j)) (tOp (rIx K) (tVar 1) (tC (.int 0))) (tOp (rIx K) (tVar 0) (tC (.int 1))))) (tCons (tOp (rI CMulW fun i j => .int (i * j)) (tOp (rIx K) (tVar 0) (tC (.int 1))) (tOp (rIx K) (tVar 1) (tC (.int 1)))) tNil))))
def R_times : List Sl → Out → Prop := fun ss o => ∃ x y : Frc, ss = [.im (encF x), .im (encF y)] ∧ Fb 4200 x ∧ Fb 4200 y ∧ o = .ret (.im (encF (timesF x y)))
def t_times (K : PySem.W.Frag) : TS := (tRet (tCall (spR K R_made) [] E0 (tCons (tOp (rI CMulW fun i j => .int (i * j)) (tOp (rIx K) (tVar 0) (tC (.int 0))) (tOp (rIx K) (tVar 1) (tC (.int 0)))) (tCons (tOp (rI CMulW fun i j => .int (i * j)) (tOp (rIx K) (tVar 0) (tC (.int 1))) (tOp (rIx K) (tVar 1) (tC (.int 1)))) tNil))))
def R_below : List Sl → Out → Prop := fun ss o => ∃ x y : Frc, ss = [.im (encF x), .im (encF y)] ∧ (Sm 100000 x.1 ∧ Sm 100000 x.2 ∧ Sm 100000 y.1 ∧ Sm 100000 y.2) ∧ o = .ret (.im (.bool (belowF x y)))
def t_below (K : PySem.W.Frag) : TS := (tRet (tOp (rI0 fun i j => .bl (decide (i < j))) (tOp (rI CMulW fun i j => .int (i * j)) (tOp (rIx K) (tVar 0) (tC (.int 0))) (tOp (rIx K) (tVar 1) (tC (.int 1)))) (tOp (rI CMulW fun i j => .int (i * j)) (tOp (rIx K) (tVar 1) (tC (.int 0))) (tOp (rIx K) (tVar 0) (tC (.int 1))))))
def R_total : List Sl → Out → Prop := fun ss o => ∃ (xs : List Frc) (n : Nat), ss = [.im (.list (xs.map encF))] ∧ (∀ x ∈ xs, Fb n x) ∧ (n + 1) * xs.length + 1 ≤ 4200 ∧ o = .ret (.im (encF (totalF xs)))
def t_total (K : PySem.W.Frag) : TS := (tSeq (tAsg (tTup (tCons (tC (.int 0)) (tCons (tC (.int 1)) tNil))) (gName 1))
    (tSeq (tFor (iList K (tVar 0)) (gName 2) (tAsg (tCall (spR K R_plus) [] E0 (tCons (tVar 1) (tCons (tVar 2) tNil))) (gName 1)))
    (tRet (tVar 1))))
section
variable {K : PySem.W.Frag} {E : XK}
theorem b_common (ss : List Sl) (o : Out) (h : R_common ss o) : St K E (t_common K) (params ["one", "other"] ss) { nx := fun _ => o = .ret (.im .none), rt := fun s => o = .ret s, ex := fun c => o = .exc c } := by
  obtain ⟨a, b, rfl, rfl⟩ := h
  have ab : ∀ i : Int, (if i < 0 then -i else i) = ((i.natAbs : Nat) : Int) := fun i => by split <;> omega
  refine st_seq (st_par (d := .int (a.natAbs : Nat)) (e := .int (b.natAbs : Nat)) ?_ ?_ ?_)
  · rw [← ab]; walk_at "ev"
  · rw [← ab]; walk_at "ev"
  refine st_seq (st_while (fun m G => ∃ x y : Nat, G = [.im (.int x), .im (.int y)] ∧ m = y ∧ Nat.gcd x y = Int.gcd a b) _ ⟨_, _, rfl, rfl, rfl⟩ ?_)
  rintro m G ⟨x, y, rfl, hy, hg⟩
  subst hy
  refine ⟨decide (0 < (m : Int)), by walk_at "ev", fun hb => ?_, fun hb => ?_⟩
  · have hm : 0 < (m : Int) := of_decide_eq_true hb
    refine st_par (d := .int m) (e := .int ((x : Int) % (m : Int))) (by walk_at "ev") (by walk_at "ev"; exact hm) ?_
    refine ⟨x % m, Nat.mod_lt _ (by omega), m, x % m, ?_, rfl, ?_⟩
    · show [Sl.im (.int m), Sl.im (.int ((x : Int) % (m : Int)))] = _
      rw [Int.natCast_emod]
    · rw [← hg, Nat.gcd_comm m, ← Nat.gcd_rec, Nat.gcd_comm]
  · have hm : ¬ 0 < (m : Int) := of_decide_eq_false hb
    have e : m = 0 := by omega
    subst e
    rw [Nat.gcd_zero_right] at hg
    rw [← hg]
    exact st_ret (by walk_at "ev") rfl
theorem b_made (ss : List Sl) (o : Out) (h : R_made ss o) : St K E (t_made K) (params ["a", "b", "far"] ss) { nx := fun _ => o = .ret (.im .none), rt := fun s => o = .ret s, ex := fun c => o = .exc c } := by
  obtain ⟨a, b, rfl, hb, sb, rfl⟩ := h
  have g := gcd_pos (a := a) hb
  have hg : CDivW a (Int.gcd a b : Int) := Sm.cdiv g (sb.le (by have := gcd_le (a := a) hb; omega)) (by decide)
  refine st_seq (st_asg (by walk_at "ev"; exact ⟨a, b, rfl, rfl⟩) ?_)
  refine st_ret (s := .im (encF (mk a b))) ?_ rfl
  refine ev_tup (ds := [.int (a / (Int.gcd a b : Int)), .int (b / (Int.gcd a b : Int))]) ?_ (Nat.le_of_ble_eq_true rfl)
  show EvA K _ _ [.im _, .im _]
  walk_at "ev"
  · exact hg
  · exact ⟨hg.1, hg.2⟩
theorem b_plus (ss : List Sl) (o : Out) (h : R_plus ss o) : St K E (t_plus K) (params ["one", "other"] ss) { nx := fun _ => o = .ret (.im .none), rt := fun s => o = .ret s, ex := fun c => o = .exc c } := by
  obtain ⟨x, y, rfl, hx, hy, rfl⟩ := h
  refine st_ret (s := .im (encF (plusF x y))) ?_ rfl
  walk_at "ev"
  · exact hx.a.cmul hy.b (by decide)
  · exact hy.a.cmul hx.b (by decide)
  · exact hx.b.cmul hy.b (by decide)
  · exact ⟨_, _, rfl, Int.mul_pos hx.pos hy.pos, (hx.b.mul hy.b).mono (by decide), rfl⟩
theorem b_times (ss : List Sl) (o : Out) (h : R_times ss o) : St K E (t_times K) (params ["one", "other"] ss) { nx := fun _ => o = .ret (.im .none), rt := fun s => o = .ret s, ex := fun c => o = .exc c } := by
  obtain ⟨x, y, rfl, hx, hy, rfl⟩ := h
  refine st_ret (s := .im (encF (timesF x y))) ?_ rfl
  walk_at "ev"
  · exact hx.a.cmul hy.a (by decide)
  · exact hx.b.cmul hy.b (by decide)
  · exact ⟨_, _, rfl, Int.mul_pos hx.pos hy.pos, (hx.b.mul hy.b).mono (by decide), rfl⟩
theorem b_below (ss : List Sl) (o : Out) (h : R_below ss o) : St K E (t_below K) (params ["one", "other"] ss) { nx := fun _ => o = .ret (.im .none), rt := fun s => o = .ret s, ex := fun c => o = .exc c } := by
  obtain ⟨x, y, rfl, ⟨h1, h2, h3, h4⟩, rfl⟩ := h
  refine st_ret (s := .im (.bool (belowF x y))) ?_ rfl
  walk_at "ev"
  · exact h1.cmul h4 (by decide)
  · exact h3.cmul h2 (by decide)
theorem b_total (ss : List Sl) (o : Out) (h : R_total ss o) : St K E (t_total K) (params ["fractions", "found", "one"] ss) { nx := fun _ => o = .ret (.im .none), rt := fun s => o = .ret s, ex := fun c => o = .exc c } := by
  obtain ⟨xs, n, rfl, hx, hz, rfl⟩ := h
  have fb : ∀ i, i ≤ xs.length → Fb ((n + 1) * i + 1) (totalF (xs.take i)) := by
    intro i
    induction i with
    | zero =>
      intro _
      rw [Nat.mul_zero, List.take_zero]
      exact ⟨by decide, (show (0 : Int).natAbs < 2 ^ (0 + 1) by decide), (show (1 : Int).natAbs < 2 ^ (0 + 1) by decide)⟩
    | succ i ih =>
      intro hi
      have hx1 : xs[i]? = some xs[i] := List.getElem?_eq_getElem (by omega)
      unfold totalF
      rw [take_snoc hx1, List.foldl_append]
      show Fb _ (plusF (totalF (xs.take i)) xs[i])
      refine (plusF_fb (ih (by omega)) (hx _ (List.getElem_mem _))).mono ?_
      rw [Nat.mul_add]
      omega
  refine st_seq (st_asg (s := .im (encF (0, 1))) (by show Ev K _ _ (.tuple ([.int 0, .int 1] : List PyData)); refine ev_tup ?_ (Nat.le_of_ble_eq_true rfl); show EvA K _ _ [.im _, .im _]; walk_at "ev") ?_)
  have hl : xs.length ≤ 4200 := by
    have : xs.length ≤ (n + 1) * xs.length := Nat.le_mul_of_pos_left _ (Nat.succ_pos _)
    omega
  refine st_seq (st_forG (vs := [2]) (xs := xs) (enc := encF) (ei_list (by walk_at "ev")) (fun i => [.im (.list (xs.map encF)), .im (encF (totalF (xs.take i))), .no]) (Le.refl _) (fun i x hi => ?_) (fun G' hle => ?_))
  · obtain ⟨hi', ex⟩ := List.getElem?_eq_some_iff.mp hi
    refine ⟨_, tg_name (by decide), ?_⟩
    have f1 := fb i (by omega)
    have f2 := hx x (by rw [← ex]; exact List.getElem_mem _)
    have le1 : (n + 1) * i + 1 ≤ 4200 := by
      have : (n + 1) * i ≤ (n + 1) * xs.length := Nat.mul_le_mul_left _ (by omega)
      omega
    have le2 : n ≤ 4200 := by
      have : (n + 1) * 1 ≤ (n + 1) * xs.length := Nat.mul_le_mul_left _ (by omega)
      omega
    refine st_asg (s := .im (encF (totalF (xs.take (i + 1))))) ?_ ?_
    · rw [take_snoc hi]
      unfold totalF
      rw [List.foldl_append]
      walk_at "ev"
      exact ⟨_, _, rfl, f1.mono le1, f2.mono le2, rfl⟩
    · exact (Le.refl [.im (.list (xs.map encF)), .im (encF (totalF (xs.take (i + 1)))), .no]).setR 2 _ (.inl rfl)
  · refine st_le hle (st_ret (by walk_at "ev") ?_)
    rw [List.take_length]
theorem len_common {ss : List Sl} {o : Out} (h : R_common ss o) : ss.length = 2 := by
  obtain ⟨_, _, rfl, _⟩ := h
  rfl
theorem len_made {ss : List Sl} {o : Out} (h : R_made ss o) : ss.length = 2 := by
  obtain ⟨_, _, rfl, _⟩ := h
  rfl
theorem len_plus {ss : List Sl} {o : Out} (h : R_plus ss o) : ss.length = 2 := by
  obtain ⟨_, _, rfl, _⟩ := h
  rfl
theorem len_times {ss : List Sl} {o : Out} (h : R_times ss o) : ss.length = 2 := by
  obtain ⟨_, _, rfl, _⟩ := h
  rfl
theorem len_below {ss : List Sl} {o : Out} (h : R_below ss o) : ss.length = 2 := by
  obtain ⟨_, _, rfl, _⟩ := h
  rfl
theorem len_total {ss : List Sl} {o : Out} (h : R_total ss o) : ss.length = 1 := by
  obtain ⟨_, _, rfl, _⟩ := h
  rfl
end
end UU
namespace UU
open PySem L2
/-! ### equality of data -/
def Lay (n : Nat) (d : PyData) : Prop := d.canLay0 = true ∧ d.depth ≤ n
theorem shaped_of {n : Nat} {d : PyData} (h : Lay n d) (e : n ≤ 64) : SeqAt.shaped d = true := by
  unfold SeqAt.shaped
  rw [h.1, decide_eq_true (Nat.le_trans h.2 e)]
  rfl
theorem lay_int {i : Int} : Lay 0 (.int i) := ⟨by rw [PyData.canLay0], by rw [PyData.depth]; exact Nat.le_refl 0⟩
theorem lay_bool {i : Bool} : Lay 0 (.bool i) := ⟨by rw [PyData.canLay0], by rw [PyData.depth]; exact Nat.le_refl 0⟩
theorem lay_none : Lay 0 .none := ⟨by rw [PyData.canLay0], by rw [PyData.depth]; exact Nat.le_refl 0⟩
theorem lay_all {n : Nat} : ∀ {ds : List PyData}, (∀ d ∈ ds, Lay n d) → PyData.canLayAll0 ds = true ∧ PyData.depthAll ds ≤ n
  | [], _ => ⟨by rw [PyData.canLayAll0], by rw [PyData.depthAll]; exact Nat.zero_le _⟩
  | d :: ds, h => by
    have h1 := h d List.mem_cons_self
    have h2 := lay_all (n := n) (ds := ds) fun x hx => h x (List.mem_cons_of_mem _ hx)
    exact ⟨by rw [PyData.canLayAll0, h1.1, h2.1]; rfl, by rw [PyData.depthAll]; exact Nat.max_le.mpr ⟨h1.2, h2.2⟩⟩
theorem lay_listD {n : Nat} {ds : List PyData} (h : ∀ d ∈ ds, Lay n d) : Lay (n + 1) (.list ds) := ⟨by rw [PyData.canLay0]; exact (lay_all h).1, by rw [PyData.depth]; exact Nat.succ_le_succ (lay_all h).2⟩
theorem lay_tupD {n : Nat} {ds : List PyData} (h : ∀ d ∈ ds, Lay n d) : Lay (n + 1) (.tuple ds) := ⟨by rw [PyData.canLay0]; exact (lay_all h).1, by rw [PyData.depth]; exact Nat.succ_le_succ (lay_all h).2⟩
theorem lay_list {α : Type} {n : Nat} {enc : α → PyData} {xs : List α} (h : ∀ x ∈ xs, Lay n (enc x)) : Lay (n + 1) (.list (xs.map enc)) := lay_listD fun d hd => by
  obtain ⟨x, hx, rfl⟩ := List.mem_map.mp hd
  exact h x hx
theorem Lay.mono {m n : Nat} {d : PyData} (h : Lay m d) (e : m ≤ n) : Lay n d := ⟨h.1, Nat.le_trans h.2 e⟩
theorem lay_tup2 {n : Nat} {a b : PyData} (h : Lay n a) (h2 : Lay n b) : Lay (n + 1) (.tuple [a, b]) := lay_tupD fun d hd => by
  rcases List.mem_cons.mp hd with rfl | hd
  · exact h
  · rcases List.mem_cons.mp hd with rfl | hd
    · exact h2
    · cases hd
theorem lay_list2 {n : Nat} {a b : PyData} (h : Lay n a) (h2 : Lay n b) : Lay (n + 1) (.list [a, b]) := lay_listD fun d hd => by
  rcases List.mem_cons.mp hd with rfl | hd
  · exact h
  · rcases List.mem_cons.mp hd with rfl | hd
    · exact h2
    · cases hd
theorem lay_F {x : Frc} : Lay 1 (encF x) := lay_tup2 lay_int lay_int
theorem eqv_int {i j : Int} : PyData.eqv (.int i) (.int j) = decide (i = j) := by
  rw [PyData.eqv]
  exact Bool.beq_eq_decide_eq i j
theorem eqv_bool {i j : Bool} : PyData.eqv (.bool i) (.bool j) = decide (i = j) := by
  rw [PyData.eqv]
  exact Bool.beq_eq_decide_eq i j
theorem eqv_str {i j : Str} : PyData.eqv (.str i) (.str j) = decide (i = j) := by
  rw [PyData.eqv]
  by_cases e : i = j
  · subst e; simp
  · rw [decide_eq_false e]
    simpa using e
theorem eqv_F {x y : Frc} : PyData.eqv (encF x) (encF y) = decide (x = y) := by
  obtain ⟨a, b⟩ := x
  obtain ⟨c, d⟩ := y
  unfold encF
  rw [PyData.eqv, PyData.eqvAll, PyData.eqvAll, PyData.eqvAll, eqv_int, eqv_int, Bool.and_true]
  by_cases e : a = c
  · by_cases f : b = d
    · subst e f; simp
    · simp [e, f]
  · simp [e]
theorem eqvAll_map {α : Type} [DecidableEq α] {enc : α → PyData} (h : ∀ x y, PyData.eqv (enc x) (enc y) = decide (x = y)) : ∀ xs ys : List α, PyData.eqvAll (xs.map enc) (ys.map enc) = decide (xs = ys)
  | [], [] => by rw [List.map_nil, PyData.eqvAll]; simp
  | [], y :: ys => by rw [List.map_nil, List.map_cons, PyData.eqvAll]; simp
  | x :: xs, [] => by rw [List.map_nil, List.map_cons, PyData.eqvAll]; simp
  | x :: xs, y :: ys => by
    rw [List.map_cons, List.map_cons, PyData.eqvAll, h, eqvAll_map h xs ys]
    by_cases e : x = y
    · by_cases f : xs = ys
      · subst e f; simp
      · simp [e, f]
    · simp [e]
theorem eqv_list {α : Type} [DecidableEq α] {enc : α → PyData} (h : ∀ x y, PyData.eqv (enc x) (enc y) = decide (x = y)) (xs ys : List α) : PyData.eqv (.list (xs.map enc)) (.list (ys.map enc)) = decide (xs = ys) := by
  rw [PyData.eqv]
  exact eqvAll_map h xs ys
/-- a row, a table, a mixture -/
abbrev encR (r : List Int) : PyData := .list (r.map .int)
abbrev encT (t : List (List Int)) : PyData := .list (t.map encR)
abbrev encM (m : List Frc) : PyData := .list (m.map encF)
theorem lay_R {r : List Int} : Lay 1 (encR r) := lay_list fun _ _ => lay_int
theorem lay_T {t : List (List Int)} : Lay 2 (encT t) := lay_list fun _ _ => lay_R
theorem lay_M {t : List Frc} : Lay 2 (encM t) := lay_list fun _ _ => lay_F
theorem eqv_R (x y : List Int) : PyData.eqv (encR x) (encR y) = decide (x = y) := eqv_list (fun _ _ => eqv_int) x y
theorem eqv_T (x y : List (List Int)) : PyData.eqv (encT x) (encT y) = decide (x = y) := eqv_list eqv_R x y
theorem eqv_M (x y : List Frc) : PyData.eqv (encM x) (encM y) = decide (x = y) := eqv_list (fun _ _ => eqv_F) x y

/-! ### the law's script -/
def cellAt (ns : List Int) (k : Nat) : Int := ns.getD k 0
theorem law_sp {K : PySem.W.Frag} {H : Hp} {a : Addr} {ns : List Int} {R : List Sl → Out → Prop} {E : XK} (hl : ns.length ≤ 63) (hS : SqL K H a (ns.map V.int)) (hR : R [.im (encR ns)] (.ret (.im (.bool true)))) : spR K R [.ref a] H (fun v _ => v = .bl true) E :=
  ⟨H, [.im (encR ns)], .ret (.im (.bool true)), .refl H, ⟨.lst hS (ints_dpAll ns), trivial⟩, hR, fun v F' H' g n => dp_bool n.dp⟩
end UU
namespace UU
open PySem L2
local macro_rules | `(tactic| walk_at "ev1") => `(tactic| first
  | ((with_reducible apply ev_var); rfl)
  | ((with_reducible apply EvS.h (ev_var ?_)); rfl)
  | ((with_reducible apply eh_own); rfl)
  | ((with_reducible apply ev_c); constructor)
  | with_reducible apply ea_im
  | with_reducible apply eah_cons
  | with_reducible apply eo_some
  | with_reducible apply eb_test
  | with_reducible apply eb_B
  | with_reducible apply eb_not
  | with_reducible apply eb_andN
  | with_reducible apply eb_orN
  | with_reducible apply ev_chain
  | with_reducible apply ev_I0
  | with_reducible apply ev_I
  | with_reducible apply ev_neg
  | with_reducible apply ev_eqD
  | with_reducible apply ev_neD
  | with_reducible apply ev_inD
  | with_reducible apply ev_notInD
  | with_reducible apply ev_isBl
  | with_reducible apply ev_notBl
  | with_reducible apply ev_andN
  | with_reducible apply ev_orN
  | with_reducible apply ev_notV
  | exact Sc.int _
  | exact Sc.bl _
  | exact Sc.str _
  | with_reducible exact ea_nil
  | with_reducible exact eah_nil
  | with_reducible exact eb_yes
  | with_reducible exact eo_none
  | ((with_reducible apply ev_ixO); rfl)
  | with_reducible apply ev_ix
  | with_reducible apply eh_ix
  | with_reducible apply ev_tupI
  | with_reducible apply ev_lstI
  | with_reducible apply ev_call
  | with_reducible apply ev_lenD
  | with_reducible apply ev_abs
  | with_reducible apply ev_max2
  | with_reducible apply ev_min2
  | with_reducible apply ev_sum
  | with_reducible apply ev_max
  | with_reducible apply ev_min
  | with_reducible apply ev_any
  | with_reducible apply ev_all
  | with_reducible apply ev_isi
  | with_reducible apply ev_intB
  | ((with_reducible show List.length _ ≤ 100000); exact Nat.le_of_ble_eq_true rfl)
  | ((with_reducible show atI _ _ = some _); with_unfolding_all rfl)
  | with_reducible exact Ims.nil
  | with_reducible apply Ims.cons
  | with_reducible exact LenOf.lst
  | with_reducible exact LenOf.tup
  | ((with_reducible apply ItemOf.lst); with_unfolding_all rfl)
  | ((with_reducible apply ItemOf.tup); with_unfolding_all rfl)
  | ((with_reducible show kitB _ _ = _); with_unfolding_all rfl)
  | with_reducible apply EvS.h)
local macro_rules | `(tactic| walk_at "ev") => `(tactic| repeat' (walk_at "ev1"))
local macro_rules | `(tactic| walk_at "lay") => `(tactic| first
  | exact lay_int | exact lay_bool | exact lay_none | exact lay_F | exact lay_R | exact lay_T | exact lay_M
  | (apply lay_tup2 <;> walk_at "lay") | (apply lay_list2 <;> walk_at "lay"))
local macro_rules | `(tactic| walk_at "ev1") => `(tactic| first
  | with_reducible exact item_F0 | with_reducible exact item_F1 | with_reducible exact len_F
  | ((with_reducible show SeqAt.shaped _ = true); exact shaped_of (by walk_at "lay") (by decide)))
local macro_rules | `(tactic| walk_at "le") => `(tactic| repeat' (first | exact le_nil | apply le_same | apply le_skip))
/-! ### what the laws' own defs compute -/
def draw (c k m : Int) : Int :=
  ((c % 1000000007 * 48271 + k * 69621 + 7) % 1000000007) * ((c % 1000000007 * 48271 + k * 69621 + 7) % 1000000007) / 1013 % 1000003 % m
theorem draw_bd (c k : Int) {m : Int} (h : 0 < m) : 0 ≤ draw c k m ∧ draw c k m < m := ⟨Int.emod_nonneg _ (by omega), Int.emod_lt_of_pos _ h⟩
theorem cm {i j : Int} (h : -18446744073709551616 < i ∧ i < 18446744073709551616) (h2 : -18446744073709551616 < j ∧ j < 18446744073709551616) : CMulW i j := (sm64 h.1 h.2).cmul (sm64 h2.1 h2.2) (by decide)
theorem item_menu {ds : List PyData} {i : Int} (ns : List Int) (h : ds = ns.map .int) (h0 : 0 ≤ i) (h1 : i < ns.length) : ItemOf (.tuple ds) i (.int (ns.getD i.toNat 0)) := by
  subst h
  refine .tup ?_
  obtain ⟨k, rfl⟩ : ∃ k : Nat, i = k := ⟨i.toNat, by omega⟩
  have hk : k < ns.length := by omega
  refine atI_map ?_
  rw [Int.toNat_natCast, List.getElem?_eq_getElem hk, List.getD_eq_getElem?_getD, List.getElem?_eq_getElem hk]
  rfl
def R_law_cell_at : List Sl → Out → Prop := fun ss o => ∃ (ns : List Int) (k : Nat), ss = [.im (encR ns), .im (.int k)] ∧ o = .ret (.im (.int (cellAt ns k)))
def t_law_cell_at (K : PySem.W.Frag) : TS := (tSeq (tIfS (tTest (tOp (rI0 fun i j => .bl (decide (i < j))) (tVar 1) (tCB (rLenU K) (tCons (tVar 0) tNil)))) (tRet (tOp (rIx K) (tVar 0) (tVar 1))) tNext)
    (tRet (tC (.int 0))))
theorem len_law_cell_at {ss : List Sl} {o : Out} (h : R_law_cell_at ss o) : ss.length = 2 := by
  first | (obtain ⟨_, rfl, _⟩ := h; rfl) | (obtain ⟨_, _, rfl, _⟩ := h; rfl) | (obtain ⟨_, _, _, rfl, _⟩ := h; rfl) | (obtain ⟨_, _, _, _, rfl, _⟩ := h; rfl) | (obtain ⟨_, _, _, _, _, rfl, _⟩ := h; rfl) | (obtain ⟨_, _, _, _, _, _, rfl, _⟩ := h; rfl)
theorem b_law_cell_at {K : PySem.W.Frag} {E : XK} (ss : List Sl) (o : Out) (h : R_law_cell_at ss o) : St K E (t_law_cell_at K) (params ["_law_script", "_law_k"] ss) { nx := fun _ => o = .ret (.im .none), rt := fun s => o = .ret s, ex := fun c => o = .exc c } := by
  obtain ⟨ns, k, rfl, rfl⟩ := h
  have lm : (ns.map PyData.int).length = ns.length := List.length_map _
  refine st_seq (st_if (by walk_at "ev") (fun hb => ?_) (fun hb => ?_))
  · have hk := of_decide_eq_true hb
    rw [lm] at hk
    have hk : k < ns.length := by omega
    refine st_ret (s := .im (.int (cellAt ns k))) ?_ rfl
    walk_at "ev"
    refine .lst (atI_map ?_)
    unfold cellAt
    rw [List.getElem?_eq_getElem hk, List.getD_eq_getElem?_getD, List.getElem?_eq_getElem hk]
    rfl
  · have hk := of_decide_eq_false hb
    rw [lm] at hk
    have e : cellAt ns k = 0 := by
      unfold cellAt
      rw [List.getD_eq_getElem?_getD, List.getElem?_eq_none (by omega)]
      rfl
    refine st_next ?_
    rw [e]
    exact st_ret (by walk_at "ev") rfl

def R_law_draw : List Sl → Out → Prop := fun ss o => ∃ (c k m : Int), ss = [.im (.int c), .im (.int k), .im (.int m)] ∧ (-1000000 < k ∧ k < 1000000) ∧ 0 < m ∧ o = .ret (.im (.int (draw c k m)))
def t_law_draw (K : PySem.W.Frag) : TS := (tSeq (tAsg (tOp (rI (fun _ j => 0 < j) fun i j => .int (i % j)) (tOp (rI0 fun i j => .int (i + j)) (tOp (rI0 fun i j => .int (i + j)) (tOp (rI CMulW fun i j => .int (i * j)) (tOp (rI (fun _ j => 0 < j) fun i j => .int (i % j)) (tVar 0) (tC (.int 1000000007))) (tC (.int 48271))) (tOp (rI CMulW fun i j => .int (i * j)) (tVar 1) (tC (.int 69621)))) (tC (.int 7))) (tC (.int 1000000007))) (gName 3))
    (tRet (tOp (rI (fun _ j => 0 < j) fun i j => .int (i % j)) (tOp (rI (fun _ j => 0 < j) fun i j => .int (i % j)) (tOp (rI CDivW fun i j => .int (i / j)) (tOp (rI CMulW fun i j => .int (i * j)) (tVar 3) (tVar 3)) (tC (.int 1013))) (tC (.int 1000003))) (tVar 2))))
theorem len_law_draw {ss : List Sl} {o : Out} (h : R_law_draw ss o) : ss.length = 3 := by
  first | (obtain ⟨_, rfl, _⟩ := h; rfl) | (obtain ⟨_, _, rfl, _⟩ := h; rfl) | (obtain ⟨_, _, _, rfl, _⟩ := h; rfl) | (obtain ⟨_, _, _, _, rfl, _⟩ := h; rfl) | (obtain ⟨_, _, _, _, _, rfl, _⟩ := h; rfl) | (obtain ⟨_, _, _, _, _, _, rfl, _⟩ := h; rfl)
theorem b_law_draw {K : PySem.W.Frag} {E : XK} (ss : List Sl) (o : Out) (h : R_law_draw ss o) : St K E (t_law_draw K) (params ["_law_cell", "_law_k", "_law_many", "_law_mixed"] ss) { nx := fun _ => o = .ret (.im .none), rt := fun s => o = .ret s, ex := fun c => o = .exc c } := by
  obtain ⟨c, k, m, rfl, hk, hm, rfl⟩ := h
  have h1 := Int.emod_nonneg c (show (1000000007 : Int) ≠ 0 by decide)
  have h2 := Int.emod_lt_of_pos c (show (0 : Int) < 1000000007 by decide)
  refine st_seq (st_asg (s := .im (.int ((c % 1000000007 * 48271 + k * 69621 + 7) % 1000000007))) ?_ ?_)
  · walk_at "ev"
    · decide
    · exact cm (by omega) (by omega)
    · exact cm (by omega) (by omega)
    · decide
  have h3 := Int.emod_nonneg (c % 1000000007 * 48271 + k * 69621 + 7) (show (1000000007 : Int) ≠ 0 by decide)
  have h4 := Int.emod_lt_of_pos (c % 1000000007 * 48271 + k * 69621 + 7) (show (0 : Int) < 1000000007 by decide)
  refine st_ret (s := .im (.int (draw c k m))) ?_ rfl
  unfold draw
  walk_at "ev"
  · exact cm (by omega) (by omega)
  · exact Sm.cdiv (by decide) (sm64 (by decide) (by decide)) (by decide)
  · decide
  · exact hm

def R_law_common : List Sl → Out → Prop := fun ss o => ∃ a b : Int, ss = [.im (.int a), .im (.int b)] ∧ 0 ≤ a ∧ 0 ≤ b ∧ o = .ret (.im (.int (Int.gcd a b)))
def t_law_common (K : PySem.W.Frag) : TS := (tSeq (tWhile (tTest (tOp (rI0 fun i j => .bl (decide (j < i))) (tVar 1) (tC (.int 0)))) (tPar 0 1 (tCons (tVar 1) (tCons (tOp (rI (fun _ j => 0 < j) fun i j => .int (i % j)) (tVar 0) (tVar 1)) tNil))))
    (tRet (tVar 0)))
theorem len_law_common {ss : List Sl} {o : Out} (h : R_law_common ss o) : ss.length = 2 := by
  first | (obtain ⟨_, rfl, _⟩ := h; rfl) | (obtain ⟨_, _, rfl, _⟩ := h; rfl) | (obtain ⟨_, _, _, rfl, _⟩ := h; rfl) | (obtain ⟨_, _, _, _, rfl, _⟩ := h; rfl) | (obtain ⟨_, _, _, _, _, rfl, _⟩ := h; rfl) | (obtain ⟨_, _, _, _, _, _, rfl, _⟩ := h; rfl)
theorem b_law_common {K : PySem.W.Frag} {E : XK} (ss : List Sl) (o : Out) (h : R_law_common ss o) : St K E (t_law_common K) (params ["_law_one", "_law_other"] ss) { nx := fun _ => o = .ret (.im .none), rt := fun s => o = .ret s, ex := fun c => o = .exc c } := by
  obtain ⟨a, b, rfl, ha, hb, rfl⟩ := h
  obtain ⟨a, rfl⟩ := Int.eq_ofNat_of_zero_le ha
  obtain ⟨b, rfl⟩ := Int.eq_ofNat_of_zero_le hb
  refine st_seq (st_while (fun m G => ∃ x y : Nat, G = [.im (.int x), .im (.int y)] ∧ m = y ∧ Nat.gcd x y = Int.gcd a b) _ ⟨a, b, rfl, rfl, rfl⟩ ?_)
  rintro m G ⟨x, y, rfl, hy, hg⟩
  subst hy
  refine ⟨decide (0 < (m : Int)), by walk_at "ev", fun hb => ?_, fun hb => ?_⟩
  · have hm : 0 < (m : Int) := of_decide_eq_true hb
    refine st_par (d := .int m) (e := .int ((x : Int) % (m : Int))) (by walk_at "ev") (by walk_at "ev"; exact hm) ?_
    refine ⟨x % m, Nat.mod_lt _ (by omega), m, x % m, ?_, rfl, ?_⟩
    · show [Sl.im (.int m), Sl.im (.int ((x : Int) % (m : Int)))] = _
      rw [Int.natCast_emod]
    · rw [← hg, Nat.gcd_comm m, ← Nat.gcd_rec, Nat.gcd_comm]
  · have hm : ¬ 0 < (m : Int) := of_decide_eq_false hb
    have e : m = 0 := by omega
    subst e
    rw [Nat.gcd_zero_right] at hg
    rw [← hg]
    exact st_ret (by walk_at "ev") rfl

def R_law_made : List Sl → Out → Prop := fun ss o => ∃ a b : Int, ss = [.im (.int a), .im (.int b)] ∧ 0 < b ∧ Sm 8500 b ∧ o = .ret (.im (encF (mk a b)))
def t_law_made (K : PySem.W.Frag) : TS := (tSeq (tAsg (tCall (spR K R_law_common) [] E0 (tCons (tCB (rAbsU) (tCons (tVar 0) tNil)) (tCons (tVar 1) tNil))) (gName 2))
    (tRet (tTup (tCons (tOp (rI CDivW fun i j => .int (i / j)) (tVar 0) (tVar 2)) (tCons (tOp (rI CDivW fun i j => .int (i / j)) (tVar 1) (tVar 2)) tNil)))))
theorem len_law_made {ss : List Sl} {o : Out} (h : R_law_made ss o) : ss.length = 2 := by
  first | (obtain ⟨_, rfl, _⟩ := h; rfl) | (obtain ⟨_, _, rfl, _⟩ := h; rfl) | (obtain ⟨_, _, _, rfl, _⟩ := h; rfl) | (obtain ⟨_, _, _, _, rfl, _⟩ := h; rfl) | (obtain ⟨_, _, _, _, _, rfl, _⟩ := h; rfl) | (obtain ⟨_, _, _, _, _, _, rfl, _⟩ := h; rfl)
theorem b_law_made {K : PySem.W.Frag} {E : XK} (ss : List Sl) (o : Out) (h : R_law_made ss o) : St K E (t_law_made K) (params ["_law_a", "_law_b", "_law_far"] ss) { nx := fun _ => o = .ret (.im .none), rt := fun s => o = .ret s, ex := fun c => o = .exc c } := by
  obtain ⟨a, b, rfl, hb, sb, rfl⟩ := h
  have ab : (if a < 0 then -a else a) = ((a.natAbs : Nat) : Int) := by split <;> omega
  have g := gcd_pos (a := a) hb
  have hg : CDivW a (Int.gcd a b : Int) := Sm.cdiv g (sb.le (by have := gcd_le (a := a) hb; omega)) (by decide)
  have eg : Int.gcd ((a.natAbs : Nat) : Int) b = Int.gcd a b := by
    show Nat.gcd _ _ = Nat.gcd _ _
    rw [Int.natAbs_natCast]
  refine st_seq (st_asg (s := .im (.int (Int.gcd a b : Int))) ?_ ?_)
  · walk_at "ev"
    rw [ab]
    exact ⟨_, _, rfl, by omega, by omega, by rw [eg]⟩
  refine st_ret (s := .im (encF (mk a b))) ?_ rfl
  refine ev_tup (ds := [.int (a / (Int.gcd a b : Int)), .int (b / (Int.gcd a b : Int))]) ?_ (Nat.le_of_ble_eq_true rfl)
  show EvA K _ _ [.im _, .im _]
  walk_at "ev"
  · exact hg
  · exact ⟨hg.1, hg.2⟩

def R_law_right : List Sl → Out → Prop := fun ss o => ∃ (x : Frc) (a b : Int), ss = [.im (encF x), .im (.int a), .im (.int b)] ∧ 0 < b ∧ Sm 8500 b ∧ o = .ret (.im (.bool (decide (x = mk a b))))
def t_law_right (K : PySem.W.Frag) : TS := (tSeq (tIfS (tOr (tNot (tB (tCB (rIsi K) (tCons (tVar 0) (tCons (tC (.ty "tuple")) tNil))))) (tTest (tOp (rNeD K) (tCB (rLenU K) (tCons (tVar 0) tNil)) (tC (.int 2))))) (tRet (tC (.bl false))) tNext)
    (tSeq (tIfS (tB (tCB (rAny K) (tCons (tLc (iTup K (tVar 0)) (gName 3) tYes (tOrV (tCB (rIsi K) (tCons (tVar 3) (tCons (tC (.ty "bool")) tNil))) (tNotV (tCB (rIsi K) (tCons (tVar 3) (tCons (tC (.ty "int")) tNil))))) [3]) tNil))) (tRet (tC (.bl false))) tNext)
    (tRet (tOp (rEqD K) (tVar 0) (tCall (spR K R_law_made) [] E0 (tCons (tVar 1) (tCons (tVar 2) tNil)))))))
theorem len_law_right {ss : List Sl} {o : Out} (h : R_law_right ss o) : ss.length = 3 := by
  first | (obtain ⟨_, rfl, _⟩ := h; rfl) | (obtain ⟨_, _, rfl, _⟩ := h; rfl) | (obtain ⟨_, _, _, rfl, _⟩ := h; rfl) | (obtain ⟨_, _, _, _, rfl, _⟩ := h; rfl) | (obtain ⟨_, _, _, _, _, rfl, _⟩ := h; rfl) | (obtain ⟨_, _, _, _, _, _, rfl, _⟩ := h; rfl)
theorem b_law_right {K : PySem.W.Frag} {E : XK} (ss : List Sl) (o : Out) (h : R_law_right ss o) : St K E (t_law_right K) (params ["_law_found", "_law_over", "_law_under", "_law_one"] ss) { nx := fun _ => o = .ret (.im .none), rt := fun s => o = .ret s, ex := fun c => o = .exc c } := by
  obtain ⟨x, a, b, rfl, hb, sb, rfl⟩ := h
  refine st_seq (st_if (b := false) ?_ (fun z => nomatch z) fun _ => st_next ?_)
  · refine EvB.to (b := false) (a := !true || !PyData.eqv (.int ((2 : Nat) : Int)) (.int 2)) (by walk_at "ev") (by decide)
  refine st_seq (st_if (b := false) ?_ (fun z => nomatch z) fun _ => st_next ?_)
  · refine EvB.to (b := false) (a := [false, false].any id) (eb_B (ev_any (EvS.h (EvS.freeze ?_))).h) (by decide)
    refine EvS.to (ev_lc1 (xs := [x.1, x.2]) (enc := .int) (vs := [3]) (ei_tup (ev_var rfl)) (fun _ => .bool false) (fun i => [.im (encF x), .im (.int a), .im (.int b), .im (.int i)]) (fun i _ => tg_name (by decide)) (fun i _ => ?_) (Nat.le_of_ble_eq_true rfl)) rfl
    refine Ev.to (d := .bool (false || !true)) ?_ rfl
    walk_at "ev"
  refine st_ret (s := .im (.bool (decide (x = mk a b)))) ?_ rfl
  rw [← eqv_F]
  walk_at "ev"
  exact ⟨_, _, rfl, hb, sb, rfl⟩

end UU
namespace UU
/-! ### fractions: plain laws -/
theorem mk_scale {k a b : Int} (hk : 0 < k) : mk (k * a) (k * b) = mk a b := by
  unfold mk
  rw [Int.gcd_mul_left]
  have e : ((k.natAbs * Int.gcd a b : Nat) : Int) = k * (Int.gcd a b : Int) := by
    rw [Int.natCast_mul, Int.natAbs_of_nonneg (Int.le_of_lt hk)]
  rw [e, Int.mul_ediv_mul_of_pos _ _ hk, Int.mul_ediv_mul_of_pos _ _ hk]
theorem mk_parts {a b : Int} (hb : 0 < b) : ∃ g : Int, 0 < g ∧ a = g * (mk a b).1 ∧ b = g * (mk a b).2 ∧ 0 < (mk a b).2 := by
  refine ⟨(Int.gcd a b : Int), gcd_pos hb, ?_, ?_, ?_⟩
  · exact (Int.mul_ediv_cancel' (Int.gcd_dvd_left a b)).symm
  · exact (Int.mul_ediv_cancel' (Int.gcd_dvd_right a b)).symm
  · exact Int.ediv_pos_of_pos_of_dvd hb (Int.le_of_lt (gcd_pos hb)) (Int.gcd_dvd_right a b)
theorem plus_mk {a b c d : Int} (hb : 0 < b) (hd : 0 < d) : plusF (mk a b) (mk c d) = mk (a * d + c * b) (b * d) := by
  obtain ⟨g, g0, ea, eb, p⟩ := mk_parts (a := a) hb
  obtain ⟨h, h0, ec, ed, q⟩ := mk_parts (a := c) hd
  generalize mk a b = x at *
  generalize mk c d = y at *
  subst ea eb ec ed
  unfold plusF
  rw [show g * x.1 * (h * y.2) + h * y.1 * (g * x.2) = (g * h) * (x.1 * y.2 + y.1 * x.2) by grind, show g * x.2 * (h * y.2) = (g * h) * (x.2 * y.2) by grind, mk_scale (Int.mul_pos g0 h0)]
theorem times_mk {a b c d : Int} (hb : 0 < b) (hd : 0 < d) : timesF (mk a b) (mk c d) = mk (a * c) (b * d) := by
  obtain ⟨g, g0, ea, eb, p⟩ := mk_parts (a := a) hb
  obtain ⟨h, h0, ec, ed, q⟩ := mk_parts (a := c) hd
  generalize mk a b = x at *
  generalize mk c d = y at *
  subst ea eb ec ed
  unfold timesF
  rw [show g * x.1 * (h * y.1) = (g * h) * (x.1 * y.1) by grind, show g * x.2 * (h * y.2) = (g * h) * (x.2 * y.2) by grind, mk_scale (Int.mul_pos g0 h0)]
theorem below_mk {a b c d : Int} (hb : 0 < b) (hd : 0 < d) : belowF (mk a b) (mk c d) = decide (a * d < c * b) := by
  obtain ⟨g, g0, ea, eb, p⟩ := mk_parts (a := a) hb
  obtain ⟨h, h0, ec, ed, q⟩ := mk_parts (a := c) hd
  generalize mk a b = x at *
  generalize mk c d = y at *
  subst ea eb ec ed
  unfold belowF
  rw [show g * x.1 * (h * y.2) = (g * h) * (x.1 * y.2) by grind, show h * y.1 * (g * x.2) = (g * h) * (y.1 * x.2) by grind]
  exact decide_eq_decide.mpr (Int.mul_lt_mul_left (Int.mul_pos g0 h0)).symm
end UU
namespace UU
open PySem L2
local macro_rules | `(tactic| walk_at "ev1") => `(tactic| first
  | ((with_reducible apply ev_var); rfl)
  | ((with_reducible apply EvS.h (ev_var ?_)); rfl)
  | ((with_reducible apply eh_own); rfl)
  | ((with_reducible apply ev_c); constructor)
  | with_reducible apply ea_im
  | with_reducible apply eah_cons
  | with_reducible apply eo_some
  | with_reducible apply eb_test
  | with_reducible apply eb_B
  | with_reducible apply eb_not
  | with_reducible apply eb_andN
  | with_reducible apply eb_orN
  | with_reducible apply ev_chain
  | with_reducible apply ev_I0
  | with_reducible apply ev_I
  | with_reducible apply ev_neg
  | with_reducible apply ev_eqD
  | with_reducible apply ev_neD
  | with_reducible apply ev_inD
  | with_reducible apply ev_notInD
  | with_reducible apply ev_isBl
  | with_reducible apply ev_notBl
  | with_reducible apply ev_andN
  | with_reducible apply ev_orN
  | with_reducible apply ev_notV
  | exact Sc.int _
  | exact Sc.bl _
  | exact Sc.str _
  | with_reducible exact ea_nil
  | with_reducible exact eah_nil
  | with_reducible exact eb_yes
  | with_reducible exact eo_none
  | ((with_reducible apply ev_ixO); rfl)
  | with_reducible apply ev_ix
  | with_reducible apply eh_ix
  | with_reducible apply ev_tupI
  | with_reducible apply ev_lstI
  | with_reducible apply ev_call
  | with_reducible apply ev_lenD
  | with_reducible apply ev_abs
  | with_reducible apply ev_max2
  | with_reducible apply ev_min2
  | with_reducible apply ev_sum
  | with_reducible apply ev_max
  | with_reducible apply ev_min
  | with_reducible apply ev_any
  | with_reducible apply ev_all
  | with_reducible apply ev_isi
  | with_reducible apply ev_intB
  | ((with_reducible show List.length _ ≤ 100000); exact Nat.le_of_ble_eq_true rfl)
  | ((with_reducible show atI _ _ = some _); with_unfolding_all rfl)
  | with_reducible exact Ims.nil
  | with_reducible apply Ims.cons
  | with_reducible exact LenOf.lst
  | with_reducible exact LenOf.tup
  | ((with_reducible apply ItemOf.lst); with_unfolding_all rfl)
  | ((with_reducible apply ItemOf.tup); with_unfolding_all rfl)
  | ((with_reducible show kitB _ _ = _); with_unfolding_all rfl)
  | with_reducible apply EvS.h)
local macro_rules | `(tactic| walk_at "ev") => `(tactic| repeat' (walk_at "ev1"))
local macro_rules | `(tactic| walk_at "lay") => `(tactic| first
  | exact lay_int | exact lay_bool | exact lay_none | exact lay_F | exact lay_R | exact lay_T | exact lay_M
  | (apply lay_tup2 <;> walk_at "lay") | (apply lay_list2 <;> walk_at "lay"))
local macro_rules | `(tactic| walk_at "ev1") => `(tactic| first
  | with_reducible exact item_F0 | with_reducible exact item_F1 | with_reducible exact len_F
  | ((with_reducible show SeqAt.shaped _ = true); exact shaped_of (by walk_at "lay") (by decide)))
local macro_rules | `(tactic| walk_at "le") => `(tactic| repeat' (first | exact le_nil | apply le_same | apply le_skip))
def cell1 (ns : List Int) (k : Nat) : Int := cellAt ns k + 977 * (k : Int)
def far1 (ns : List Int) (k : Nat) : Int := ([1, 6, 35, 250] : List Int).getD (draw (cell1 ns k) 1 4).toNat 0
def num1 (ns : List Int) (k : Nat) : Int := far1 ns k * (draw (cell1 ns k) 2 9 - 4) + draw (cell1 ns k) 3 2
theorem far1_bd (ns : List Int) (k : Nat) : 1 ≤ far1 ns k ∧ far1 ns k ≤ 250 := by
  unfold far1
  have h := draw_bd (cell1 ns k) 1 (m := 4) (by decide)
  generalize draw (cell1 ns k) 1 4 = d at h
  obtain ⟨n, rfl⟩ := Int.eq_ofNat_of_zero_le h.1
  rw [Int.toNat_natCast]
  have hn : n = 0 ∨ n = 1 ∨ n = 2 ∨ n = 3 := by omega
  rcases hn with rfl | rfl | rfl | rfl <;> decide
theorem num1_bd (ns : List Int) (k : Nat) : -1001 ≤ num1 ns k ∧ num1 ns k ≤ 1001 := by
  unfold num1
  have h := far1_bd ns k
  have h2 := draw_bd (cell1 ns k) 2 (m := 9) (by decide)
  have h3 := draw_bd (cell1 ns k) 3 (m := 2) (by decide)
  generalize far1 ns k = f at *
  generalize draw (cell1 ns k) 2 9 = d at *
  generalize draw (cell1 ns k) 3 2 = e at *
  have a1 : f * (d - 4) ≤ 250 * 4 := by
    rcases Int.le_total 0 (d - 4) with z | z
    · exact Int.le_trans (Int.mul_le_mul_of_nonneg_right h.2 z) (by omega)
    · exact Int.le_trans (Int.mul_nonpos_of_nonneg_of_nonpos (by omega) z) (by decide)
  have a2 : -(250 * 4) ≤ f * (d - 4) := by
    rcases Int.le_total 0 (d - 4) with z | z
    · exact Int.le_trans (by decide) (Int.mul_nonneg (by omega) z)
    · have := Int.mul_le_mul_of_nonneg_right h.2 (show 0 ≤ 4 - d by omega)
      have e : f * (d - 4) = - (f * (4 - d)) := by grind
      omega
  omega
abbrev maxA (i : Int) : Int := if (if i < 0 then -i else i) > 1 then (if i < 0 then -i else i) else 1

def R_law : List Sl → Out → Prop := fun ss o => ∃ (ns : List Int), ss = [.im (encR ns)] ∧ o = .ret (.im (.bool true))
def t_law (K : PySem.W.Frag) : TS := (tSeq (tAsg (tLst tNil) (gName 1))
    (tSeq (tFor (iRng1 (tCons (tC (.int 4)) tNil)) (gName 2) (tSeq (tAsg (tOp (rI0 fun i j => .int (i + j)) (tCall (spR K R_law_cell_at) [] E0 (tCons (tVar 0) (tCons (tVar 2) tNil))) (tOp (rI CMulW fun i j => .int (i * j)) (tC (.int 977)) (tVar 2))) (gName 3))
    (tSeq (tAsg (tOp (rIx K) (tTup (tCons (tC (.int 1)) (tCons (tC (.int 6)) (tCons (tC (.int 35)) (tCons (tC (.int 250)) tNil))))) (tCall (spR K R_law_draw) [] E0 (tCons (tVar 3) (tCons (tC (.int 1)) (tCons (tC (.int 4)) tNil))))) (gName 4))
    (tDrop (tBM K "list" rAppend (tVar 1) (tCons (tOp (rI0 fun i j => .int (i + j)) (tOp (rI CMulW fun i j => .int (i * j)) (tVar 4) (tOp (rI0 fun i j => .int (i - j)) (tCall (spR K R_law_draw) [] E0 (tCons (tVar 3) (tCons (tC (.int 2)) (tCons (tC (.int 9)) tNil)))) (tC (.int 4)))) (tCall (spR K R_law_draw) [] E0 (tCons (tVar 3) (tCons (tC (.int 3)) (tCons (tC (.int 2)) tNil))))) tNil))))))
    (tSeq (tPar 5 6 (tCons (tOp (rIx K) (tVar 1) (tC (.int 0))) (tCons (tCB rMax2U (tCons (tC (.int 1)) (tCons (tCB (rAbsU) (tCons (tOp (rIx K) (tVar 1) (tC (.int 1))) tNil)) tNil))) tNil)))
    (tSeq (tPar 7 8 (tCons (tOp (rIx K) (tVar 1) (tC (.int 2))) (tCons (tCB rMax2U (tCons (tC (.int 1)) (tCons (tCB (rAbsU) (tCons (tOp (rIx K) (tVar 1) (tC (.int 3))) tNil)) tNil))) tNil)))
    (tSeq (tPar 9 10 (tCons (tCall (spR K R_made) [] E0 (tCons (tVar 5) (tCons (tVar 6) tNil))) (tCons (tCall (spR K R_made) [] E0 (tCons (tVar 7) (tCons (tVar 8) tNil))) tNil)))
    (tSeq (tIfS (tOr (tNot (tB (tCall (spR K R_law_right) [] E0 (tCons (tVar 9) (tCons (tVar 5) (tCons (tVar 6) tNil)))))) (tNot (tB (tCall (spR K R_law_right) [] E0 (tCons (tVar 10) (tCons (tVar 7) (tCons (tVar 8) tNil))))))) (tRet (tC (.bl false))) tNext)
    (tSeq (tIfS (tNot (tB (tCall (spR K R_law_right) [] E0 (tCons (tCall (spR K R_plus) [] E0 (tCons (tVar 9) (tCons (tVar 10) tNil))) (tCons (tOp (rI0 fun i j => .int (i + j)) (tOp (rI CMulW fun i j => .int (i * j)) (tVar 5) (tVar 8)) (tOp (rI CMulW fun i j => .int (i * j)) (tVar 7) (tVar 6))) (tCons (tOp (rI CMulW fun i j => .int (i * j)) (tVar 6) (tVar 8)) tNil)))))) (tRet (tC (.bl false))) tNext)
    (tSeq (tIfS (tNot (tB (tCall (spR K R_law_right) [] E0 (tCons (tCall (spR K R_times) [] E0 (tCons (tVar 9) (tCons (tVar 10) tNil))) (tCons (tOp (rI CMulW fun i j => .int (i * j)) (tVar 5) (tVar 7)) (tCons (tOp (rI CMulW fun i j => .int (i * j)) (tVar 6) (tVar 8)) tNil)))))) (tRet (tC (.bl false))) tNext)
    (tSeq (tFor (iList K (tLst (tCons (tTup (tCons (tVar 9) (tCons (tVar 10) (tCons (tOp (rI0 fun i j => .bl (decide (i < j))) (tOp (rI CMulW fun i j => .int (i * j)) (tVar 5) (tVar 8)) (tOp (rI CMulW fun i j => .int (i * j)) (tVar 7) (tVar 6))) tNil)))) (tCons (tTup (tCons (tVar 9) (tCons (tVar 9) (tCons (tC (.bl false)) tNil)))) tNil)))) (gTup K 3 (gCons (gName 11) (gCons (gName 12) (gCons (gName 13) gNil)))) (tSeq (tAsg (tCall (spR K R_below) [] E0 (tCons (tVar 11) (tCons (tVar 12) tNil))) (gName 14))
    (tIfS (tOr (tNot (tB (tCB (rIsi K) (tCons (tVar 14) (tCons (tC (.ty "bool")) tNil))))) (tTest (tOp (rNeD K) (tVar 14) (tVar 13)))) (tRet (tC (.bl false))) tNext)))
    (tRet (tOp (rEqD K) (tCall (spR K R_below) [] E0 (tCons (tVar 10) (tCons (tVar 9) tNil))) (tOp (rI0 fun i j => .bl (decide (i < j))) (tOp (rI CMulW fun i j => .int (i * j)) (tVar 7) (tVar 6)) (tOp (rI CMulW fun i j => .int (i * j)) (tVar 5) (tVar 8))))))))))))))
theorem len_law {ss : List Sl} {o : Out} (h : R_law ss o) : ss.length = 1 := by
  first | (obtain ⟨_, rfl, _⟩ := h; rfl) | (obtain ⟨_, _, rfl, _⟩ := h; rfl) | (obtain ⟨_, _, _, rfl, _⟩ := h; rfl) | (obtain ⟨_, _, _, _, rfl, _⟩ := h; rfl) | (obtain ⟨_, _, _, _, _, rfl, _⟩ := h; rfl) | (obtain ⟨_, _, _, _, _, _, rfl, _⟩ := h; rfl)
theorem b_law {K : PySem.W.Frag} {E : XK} (ss : List Sl) (o : Out) (h : R_law ss o) : St K E (t_law K) (params ["_law_script", "_law_numbers", "_law_k", "_law_cell", "_law_far", "_law_one", "_law_under", "_law_other", "_law_low", "_law_first", "_law_second", "_law_left", "_law_right_here", "_law_due", "_law_found"] ss) { nx := fun _ => o = .ret (.im .none), rt := fun s => o = .ret s, ex := fun c => o = .exc c } := by
  obtain ⟨ns, rfl, rfl⟩ := h
  refine st_seq (st_asg (s := .ow []) (by walk_at "ev") ?_)
  refine st_seq (st_forG (vs := [2]) (xs := List.range 4) (enc := fun k : Nat => .int k) (ei_range (n := 4) (by walk_at "ev") (by decide)) (fun i => [.im (encR ns), .ow ((List.range i).map fun k => .int (num1 ns k)), .no, .no, .no, .no, .no, .no, .no, .no, .no, .no, .no, .no, .no]) (Le.refl _) (fun i k hk => ?_) (fun G' hle => ?_))
  · obtain ⟨hi, hk⟩ := List.getElem?_eq_some_iff.mp hk
    rw [List.getElem_range] at hk
    subst hk
    rw [List.length_range] at hi
    refine ⟨_, tg_name (by decide), ?_⟩
    have b1 := far1_bd ns i
    have b2 := draw_bd (cell1 ns i) 1 (m := 4) (by decide)
    have b3 := draw_bd (cell1 ns i) 2 (m := 9) (by decide)
    refine st_seq (st_asg (s := .im (.int (cell1 ns i))) ?_ ?_)
    · unfold cell1
      walk_at "ev"
      · exact ⟨_, _, rfl, rfl⟩
      · exact cm (by omega) (by omega)
    refine st_seq (st_asg (s := .im (.int (far1 ns i))) ?_ ?_)
    · unfold far1
      walk_at "ev"
      · exact ⟨_, _, _, rfl, by decide, by decide, rfl⟩
      · exact item_menu _ rfl b2.1 b2.2
    refine st_app (ds := (List.range i).map fun k => .int (num1 ns k)) (d := .int (num1 ns i)) rfl ?_ (by rw [List.length_map, List.length_range]; omega) ?_
    · unfold num1
      walk_at "ev"
      · exact ⟨_, _, _, rfl, by decide, by decide, rfl⟩
      · exact cm (by omega) (by omega)
      · exact ⟨_, _, _, rfl, by decide, by decide, rfl⟩
    · rw [List.range_succ, List.map_append]
      walk_at "le"
  refine st_le (G := [Sl.im (encR ns), .ow [.int (num1 ns 0), .int (num1 ns 1), .int (num1 ns 2), .int (num1 ns 3)], .no, .no, .no, .no, .no, .no, .no, .no, .no, .no, .no, .no, .no]) hle ?_
  have n0 := num1_bd ns 0
  have n1 := num1_bd ns 1
  have n2 := num1_bd ns 2
  have n3 := num1_bd ns 3
  generalize num1 ns 0 = a at *
  generalize num1 ns 1 = b' at *
  generalize num1 ns 2 = c at *
  generalize num1 ns 3 = d' at *
  have hb : 0 < maxA b' ∧ maxA b' ≤ 1001 := by unfold maxA; omega
  have hd : 0 < maxA d' ∧ maxA d' ≤ 1001 := by unfold maxA; omega
  refine st_seq (st_par (d := .int a) (e := .int (maxA b')) (by walk_at "ev") (by walk_at "ev") ?_)
  refine st_seq (st_par (d := .int c) (e := .int (maxA d')) (by walk_at "ev") (by walk_at "ev") ?_)
  generalize maxA b' = b at *
  generalize maxA d' = d at *
  have sb : Sm 64 b := sm64 (by omega) (by omega)
  have sd : Sm 64 d := sm64 (by omega) (by omega)
  have sa : Sm 64 a := sm64 (by omega) (by omega)
  have sc : Sm 64 c := sm64 (by omega) (by omega)
  have hbd : 0 < b * d := Int.mul_pos hb.1 hd.1
  have sbd : Sm 128 (b * d) := sb.mul sd
  have fx := mk_fb hb.1 sa sb
  have fy := mk_fb hd.1 sc sd
  refine st_seq (st_par (d := encF (mk a b)) (e := encF (mk c d)) (by walk_at "ev"; exact ⟨_, _, rfl, hb.1, sb.mono (by decide), rfl⟩) (by walk_at "ev"; exact ⟨_, _, rfl, hd.1, sd.mono (by decide), rfl⟩) ?_)
  refine st_seq (st_if (b := false) (EvB.to (a := !(decide (mk a b = mk a b)) || !(decide (mk c d = mk c d))) ?_ (by simp)) (fun z => nomatch z) fun _ => st_next ?_)
  · walk_at "ev"
    · exact ⟨_, _, _, rfl, hb.1, sb.mono (by decide), rfl⟩
    · exact ⟨_, _, _, rfl, hd.1, sd.mono (by decide), rfl⟩
  refine st_seq (st_if (b := false) (EvB.to (a := !(decide (plusF (mk a b) (mk c d) = mk (a * d + c * b) (b * d)))) ?_ (by rw [plus_mk hb.1 hd.1]; simp)) (fun z => nomatch z) fun _ => st_next ?_)
  · walk_at "ev"
    · exact ⟨_, _, rfl, fx.mono (by decide), fy.mono (by decide), rfl⟩
    · exact sa.cmul sd (by decide)
    · exact sc.cmul sb (by decide)
    · exact sb.cmul sd (by decide)
    · exact ⟨_, _, _, rfl, hbd, sbd.mono (by decide), rfl⟩
  refine st_seq (st_if (b := false) (EvB.to (a := !(decide (timesF (mk a b) (mk c d) = mk (a * c) (b * d)))) ?_ (by rw [times_mk hb.1 hd.1]; simp)) (fun z => nomatch z) fun _ => st_next ?_)
  · walk_at "ev"
    · exact ⟨_, _, rfl, fx.mono (by decide), fy.mono (by decide), rfl⟩
    · exact sa.cmul sc (by decide)
    · exact sb.cmul sd (by decide)
    · exact ⟨_, _, _, rfl, hbd, sbd.mono (by decide), rfl⟩
  have sx : ∀ {x y : Frc}, Fb 64 x → Fb 64 y → (Sm 100000 x.1 ∧ Sm 100000 x.2 ∧ Sm 100000 y.1 ∧ Sm 100000 y.2) := fun h1 h2 => ⟨h1.a.mono (by decide), h1.b.mono (by decide), h2.a.mono (by decide), h2.b.mono (by decide)⟩
  -- the loop over the two comparisons
  refine st_seq (st_forG (vs := [11, 12, 13]) (xs := [(mk a b, mk c d, decide (a * d < c * b)), (mk a b, mk a b, false)]) (enc := fun p : Frc × Frc × Bool => .tuple [encF p.1, encF p.2.1, .bool p.2.2]) (ei_list (EvS.freeze ?_))
    (fun _ => [Sl.im (encR ns), .no, .no, .no, .no, .im (.int a), .im (.int b), .im (.int c), .im (.int d), .im (encF (mk a b)), .im (encF (mk c d)), .no, .no, .no, .no]) ?_ (fun i p hp => ?_) (fun G2 hle2 => ?_))
  · walk_at "ev"
    · exact sa.cmul sd (by decide)
    · exact sc.cmul sb (by decide)
    · exact .cons (.cons .nil)
  · walk_at "le"
  · refine ⟨_, tg_tup (tgs_cons (tg_name (by decide)) (tgs_cons (tg_name (by decide)) (tgs_cons (tg_name (by decide)) tgs_nil))) rfl, ?_⟩
    have key : Fb 64 p.1 ∧ Fb 64 p.2.1 ∧ belowF p.1 p.2.1 = p.2.2 := by
      have hp' := List.mem_of_getElem? hp
      rcases List.mem_cons.mp hp' with rfl | hp'
      · exact ⟨fx, fy, below_mk hb.1 hd.1⟩
      · rcases List.mem_cons.mp hp' with rfl | hp'
        · refine ⟨fx, fx, ?_⟩
          rw [below_mk hb.1 hb.1]
          simp
        · cases hp'
    refine st_seq (st_asg (s := .im (.bool (belowF p.1 p.2.1))) (by walk_at "ev"; exact ⟨_, _, rfl, sx key.1 key.2.1, rfl⟩) ?_)
    refine st_if (b := false) (EvB.to (a := !true || !(PyData.eqv (.bool (belowF p.1 p.2.1)) (.bool p.2.2))) (by walk_at "ev") (by rw [eqv_bool, key.2.2]; simp)) (fun z => nomatch z) fun _ => st_next ?_
    walk_at "le"
  refine st_le hle2 ?_
  refine st_ret (s := .im (.bool true)) (EvS.to (s := .im (.bool (PyData.eqv (.bool (belowF (mk c d) (mk a b))) (.bool (decide (c * b < a * d)))))) ?_ (by rw [below_mk hd.1 hb.1, eqv_bool]; simp)) rfl
  walk_at "ev"
  · exact ⟨_, _, rfl, sx fy fx, rfl⟩
  · exact sc.cmul sb (by decide)
  · exact sa.cmul sd (by decide)

theorem law_true (ns : List Int) (hl : ns.length ≤ 63) : R_law [.im (encR ns)] (.ret (.im (.bool true))) := ⟨ns, rfl, rfl⟩
end UU
namespace UU
open PySem L2
/-! ### the text of this law, def by def -/
def topS (i : Nat) : Stmt := PySem.Challenge.pw_unseen_k01_fractions.main.body.getD i (.Pass ⟨0, 0, 0, 0⟩)
structure Txt (mg : Str → Option Value) : Prop where
  abs_ : mg "abs" = none
  any_ : mg "any" = none
  bool_ : mg "bool" = none
  int_ : mg "int" = none
  isinstance_ : mg "isinstance" = none
  len_ : mg "len" = none
  max_ : mg "max" = none
  range_ : mg "range" = none
  tuple_ : mg "tuple" = none
abbrev s_law_cell_at : Stmt := topS 7
theorem sc_law_cell_at : FnScope ["_law_script", "_law_k"] ["_law_script", "_law_k"] (defScope s_law_cell_at) := ⟨rfl, rfl, rfl, by decide +kernel, rfl, by decide +kernel, by decide +kernel⟩
abbrev s_law_draw : Stmt := topS 8
theorem sc_law_draw : FnScope ["_law_cell", "_law_k", "_law_many", "_law_mixed"] ["_law_cell", "_law_k", "_law_many"] (defScope s_law_draw) := ⟨rfl, rfl, rfl, by decide +kernel, rfl, by decide +kernel, by decide +kernel⟩
abbrev s_common : Stmt := topS 1
theorem sc_common : FnScope ["one", "other"] ["one", "other"] (defScope s_common) := ⟨rfl, rfl, rfl, by decide +kernel, rfl, by decide +kernel, by decide +kernel⟩
abbrev s_made : Stmt := topS 2
theorem sc_made : FnScope ["a", "b", "far"] ["a", "b"] (defScope s_made) := ⟨rfl, rfl, rfl, by decide +kernel, rfl, by decide +kernel, by decide +kernel⟩
abbrev s_law_common : Stmt := topS 9
theorem sc_law_common : FnScope ["_law_one", "_law_other"] ["_law_one", "_law_other"] (defScope s_law_common) := ⟨rfl, rfl, rfl, by decide +kernel, rfl, by decide +kernel, by decide +kernel⟩
abbrev s_law_made : Stmt := topS 10
theorem sc_law_made : FnScope ["_law_a", "_law_b", "_law_far"] ["_law_a", "_law_b"] (defScope s_law_made) := ⟨rfl, rfl, rfl, by decide +kernel, rfl, by decide +kernel, by decide +kernel⟩
abbrev s_law_right : Stmt := topS 14
theorem sc_law_right : FnScope ["_law_found", "_law_over", "_law_under", "_law_one"] ["_law_found", "_law_over", "_law_under"] (defScope s_law_right) := ⟨rfl, rfl, rfl, by decide +kernel, rfl, by decide +kernel, by decide +kernel⟩
abbrev s_plus : Stmt := topS 3
theorem sc_plus : FnScope ["one", "other"] ["one", "other"] (defScope s_plus) := ⟨rfl, rfl, rfl, by decide +kernel, rfl, by decide +kernel, by decide +kernel⟩
abbrev s_times : Stmt := topS 4
theorem sc_times : FnScope ["one", "other"] ["one", "other"] (defScope s_times) := ⟨rfl, rfl, rfl, by decide +kernel, rfl, by decide +kernel, by decide +kernel⟩
abbrev s_below : Stmt := topS 5
theorem sc_below : FnScope ["one", "other"] ["one", "other"] (defScope s_below) := ⟨rfl, rfl, rfl, by decide +kernel, rfl, by decide +kernel, by decide +kernel⟩
abbrev s_law : Stmt := topS 15
theorem sc_law : FnScope ["_law_script", "_law_numbers", "_law_k", "_law_cell", "_law_far", "_law_one", "_law_under", "_law_other", "_law_low", "_law_first", "_law_second", "_law_left", "_law_right_here", "_law_due", "_law_found"] ["_law_script"] (defScope s_law) := ⟨rfl, rfl, rfl, by decide +kernel, rfl, by decide +kernel, by decide +kernel⟩
section
variable {P : Program} {w : World} {K : PySem.W.Frag} {mg : Str → Option Value} {base : Heap}
theorem ok_law_cell_at {f : Addr} {fd : FuncData} (F : Fun K "_law_cell_at" "_law_cell_at" s_law_cell_at f fd) (T : Txt mg)  : FnOk P w K mg base CX0 1 f fd ["_law_script", "_law_k"] (spR K R_law_cell_at) := by
  have nd := sc_law_cell_at.nd
  refine F.ok sc_law_cell_at (fun vs H Q E h => spR_len h (fun ss o r => len_law_cell_at r)) (fun cdv A outer s H vs Q E hr h => ⟨t_law_cell_at K, ?_, st_run h (fun ss o r => b_law_cell_at ss o r)⟩)
  exact (pss_cons (ps_if (pt_cmpR op_lt (pv 1) (pe_callB call_len (by rfl) T.len_ (by decide +kernel) (pa_cons (pv 0) pa_nil)) (nomark _)) (pss_one (ps_ret (pe_ix ix_seq (pv 0) (pv 1) (fun _ _ => rfl)))) pss_nil)
    (pss_one (ps_ret pe_int)))
theorem ok_law_draw {f : Addr} {fd : FuncData} (F : Fun K "_law_draw" "_law_draw" s_law_draw f fd) (T : Txt mg)  : FnOk P w K mg base CX0 1 f fd ["_law_cell", "_law_k", "_law_many"] (spR K R_law_draw) := by
  have nd := sc_law_draw.nd
  refine F.ok sc_law_draw (fun vs H Q E h => spR_len h (fun ss o r => len_law_draw r)) (fun cdv A outer s H vs Q E hr h => ⟨t_law_draw K, ?_, st_run h (fun ss o r => b_law_draw ss o r)⟩)
  exact (pss_cons (ps_set (i := 3) nd rfl (Or.inl rfl) (pe_op op_mod (pe_op op_add (pe_op op_add (pe_op op_mulW (pe_op op_mod (pv 0) pe_int) pe_int) (pe_op op_mulW (pv 1) pe_int)) pe_int) pe_int))
    (pss_one (ps_ret (pe_op op_mod (pe_op op_mod (pe_op op_fdivW (pe_op op_mulW (pv 3) (pv 3)) pe_int) pe_int) (pv 2)))))
theorem ok_common {f : Addr} {fd : FuncData} (F : Fun K "common" "common" s_common f fd) (T : Txt mg)  : FnOk P w K mg base CX0 1 f fd ["one", "other"] (spR K R_common) := by
  have nd := sc_common.nd
  refine F.ok sc_common (fun vs H Q E h => spR_len h (fun ss o r => len_common r)) (fun cdv A outer s H vs Q E hr h => ⟨t_common K, ?_, st_run h (fun ss o r => b_common ss o r)⟩)
  exact (pss_cons (ps_par (i := 0) (j := 1) (by rfl) nd rfl rfl (by decide) rfl rfl (pa_cons (pe_callB call_abs (by rfl) T.abs_ (by decide +kernel) (pa_cons (pv 0) pa_nil)) (pa_cons (pe_callB call_abs (by rfl) T.abs_ (by decide +kernel) (pa_cons (pv 1) pa_nil)) pa_nil)) (by rfl))
    (pss_cons (ps_while PassesOwn.never (pt_cmpR op_gt (pv 1) pe_int (nomark _)) (pss_one (ps_par (i := 0) (j := 1) (by rfl) nd rfl rfl (by decide) rfl rfl (pa_cons (pv 1) (pa_cons (pe_op op_mod (pv 0) (pv 1)) pa_nil)) (by rfl))))
    (pss_one (ps_ret (pv 0)))))
theorem ok_made {f : Addr} {fd : FuncData} (F : Fun K "made" "made" s_made f fd) (T : Txt mg) (c_common : Cal P w K mg base CX0 1 "common" ["one", "other"] (spR K R_common)) : FnOk P w K mg base CX0 2 f fd ["a", "b"] (spR K R_made) := by
  have nd := sc_made.nd
  refine F.ok sc_made (fun vs H Q E h => spR_len h (fun ss o r => len_made r)) (fun cdv A outer s H vs Q E hr h => ⟨t_made K, ?_, st_run h (fun ss o r => b_made ss o r)⟩)
  exact (pss_cons (ps_set (i := 2) nd rfl (Or.inl rfl) (pe_cal c_common hr (by decide) rfl (pa_cons (pv 0) (pa_cons (pv 1) pa_nil))))
    (pss_one (ps_ret (pe_tup (pa_cons (pe_op op_fdivW (pv 0) (pv 2)) (pa_cons (pe_op op_fdivW (pv 1) (pv 2)) pa_nil))))))
theorem ok_law_common {f : Addr} {fd : FuncData} (F : Fun K "_law_common" "_law_common" s_law_common f fd) (T : Txt mg)  : FnOk P w K mg base CX0 1 f fd ["_law_one", "_law_other"] (spR K R_law_common) := by
  have nd := sc_law_common.nd
  refine F.ok sc_law_common (fun vs H Q E h => spR_len h (fun ss o r => len_law_common r)) (fun cdv A outer s H vs Q E hr h => ⟨t_law_common K, ?_, st_run h (fun ss o r => b_law_common ss o r)⟩)
  exact (pss_cons (ps_while PassesOwn.never (pt_cmpR op_gt (pv 1) pe_int (nomark _)) (pss_one (ps_par (i := 0) (j := 1) (by rfl) nd rfl rfl (by decide) rfl rfl (pa_cons (pv 1) (pa_cons (pe_op op_mod (pv 0) (pv 1)) pa_nil)) (by rfl))))
    (pss_one (ps_ret (pv 0))))
theorem ok_law_made {f : Addr} {fd : FuncData} (F : Fun K "_law_made" "_law_made" s_law_made f fd) (T : Txt mg) (c_law_common : Cal P w K mg base CX0 1 "_law_common" ["_law_one", "_law_other"] (spR K R_law_common)) : FnOk P w K mg base CX0 2 f fd ["_law_a", "_law_b"] (spR K R_law_made) := by
  have nd := sc_law_made.nd
  refine F.ok sc_law_made (fun vs H Q E h => spR_len h (fun ss o r => len_law_made r)) (fun cdv A outer s H vs Q E hr h => ⟨t_law_made K, ?_, st_run h (fun ss o r => b_law_made ss o r)⟩)
  exact (pss_cons (ps_set (i := 2) nd rfl (Or.inl rfl) (pe_cal c_law_common hr (by decide) rfl (pa_cons (pe_callB call_abs (by rfl) T.abs_ (by decide +kernel) (pa_cons (pv 0) pa_nil)) (pa_cons (pv 1) pa_nil))))
    (pss_one (ps_ret (pe_tup (pa_cons (pe_op op_fdivW (pv 0) (pv 2)) (pa_cons (pe_op op_fdivW (pv 1) (pv 2)) pa_nil))))))
theorem ok_law_right {f : Addr} {fd : FuncData} (F : Fun K "_law_right" "_law_right" s_law_right f fd) (T : Txt mg) (c_law_made : Cal P w K mg base CX0 2 "_law_made" ["_law_a", "_law_b"] (spR K R_law_made)) : FnOk P w K mg base CX0 3 f fd ["_law_found", "_law_over", "_law_under"] (spR K R_law_right) := by
  have nd := sc_law_right.nd
  refine F.ok sc_law_right (fun vs H Q E h => spR_len h (fun ss o r => len_law_right r)) (fun cdv A outer s H vs Q E hr h => ⟨t_law_right K, ?_, st_run h (fun ss o r => b_law_right ss o r)⟩)
  exact (pss_cons (ps_if (PW.pt (pw_or (pt_not (pt_val (pe_callB call_isi (by rfl) T.isinstance_ (by decide +kernel) (pa_cons (pv 0) (pa_cons (pe_bltn (v := .ty "tuple") (by rfl) T.tuple_ (by decide +kernel) rfl) pa_nil))))) (pw_or1 (pt_cmpR (op_neD hr.units) (pe_callB call_len (by rfl) T.len_ (by decide +kernel) (pa_cons (pv 0) pa_nil)) pe_int (nomark _))))) (pss_one (ps_ret pe_bl)) pss_nil)
    (pss_cons (ps_if (pt_val (pe_callB (cr_any rfl) (by rfl) T.any_ (by decide +kernel) (pa_cons (pe_lc (own := [("_law_one", 3)]) (by rfl) nd (pi_tup (pv 0)) (blkOk_by (own := [("_law_one", 3)]) (by kernel_rfl)) (fun _ _ _ _ _ => (pg_name (i := 3) nd rfl (by first | exact Or.inl rfl | exact Or.inr rfl))) (fun _ _ _ _ _ => pts_nil) (fun _ _ _ _ _ => (pe_or (pe_callB call_isi (by rfl) T.isinstance_ (by decide +kernel) (pa_cons (pv 3) (pa_cons (pe_bltn (v := .ty "bool") (by rfl) T.bool_ (by decide +kernel) rfl) pa_nil))) (pe_one (pe_not (pe_callB call_isi (by rfl) T.isinstance_ (by decide +kernel) (pa_cons (pv 3) (pa_cons (pe_bltn (v := .ty "int") (by rfl) T.int_ (by decide +kernel) rfl) pa_nil)))))))) pa_nil))) (pss_one (ps_ret pe_bl)) pss_nil)
    (pss_one (ps_ret (pe_cmpR (op_eqD hr.units) (pv 0) (pe_cal c_law_made hr (by decide) rfl (pa_cons (pv 1) (pa_cons (pv 2) pa_nil))) (nomark _))))))
theorem ok_plus {f : Addr} {fd : FuncData} (F : Fun K "plus" "plus" s_plus f fd) (T : Txt mg) (c_made : Cal P w K mg base CX0 2 "made" ["a", "b"] (spR K R_made)) : FnOk P w K mg base CX0 3 f fd ["one", "other"] (spR K R_plus) := by
  have nd := sc_plus.nd
  refine F.ok sc_plus (fun vs H Q E h => spR_len h (fun ss o r => len_plus r)) (fun cdv A outer s H vs Q E hr h => ⟨t_plus K, ?_, st_run h (fun ss o r => b_plus ss o r)⟩)
  exact (pss_one (ps_ret (pe_cal c_made hr (by decide) rfl (pa_cons (pe_op op_add (pe_op op_mulW (pe_ix ix_seq (pv 0) pe_int (fun _ _ => rfl)) (pe_ix ix_seq (pv 1) pe_int (fun _ _ => rfl))) (pe_op op_mulW (pe_ix ix_seq (pv 1) pe_int (fun _ _ => rfl)) (pe_ix ix_seq (pv 0) pe_int (fun _ _ => rfl)))) (pa_cons (pe_op op_mulW (pe_ix ix_seq (pv 0) pe_int (fun _ _ => rfl)) (pe_ix ix_seq (pv 1) pe_int (fun _ _ => rfl))) pa_nil)))))
theorem ok_times {f : Addr} {fd : FuncData} (F : Fun K "times" "times" s_times f fd) (T : Txt mg) (c_made : Cal P w K mg base CX0 2 "made" ["a", "b"] (spR K R_made)) : FnOk P w K mg base CX0 3 f fd ["one", "other"] (spR K R_times) := by
  have nd := sc_times.nd
  refine F.ok sc_times (fun vs H Q E h => spR_len h (fun ss o r => len_times r)) (fun cdv A outer s H vs Q E hr h => ⟨t_times K, ?_, st_run h (fun ss o r => b_times ss o r)⟩)
  exact (pss_one (ps_ret (pe_cal c_made hr (by decide) rfl (pa_cons (pe_op op_mulW (pe_ix ix_seq (pv 0) pe_int (fun _ _ => rfl)) (pe_ix ix_seq (pv 1) pe_int (fun _ _ => rfl))) (pa_cons (pe_op op_mulW (pe_ix ix_seq (pv 0) pe_int (fun _ _ => rfl)) (pe_ix ix_seq (pv 1) pe_int (fun _ _ => rfl))) pa_nil)))))
theorem ok_below {f : Addr} {fd : FuncData} (F : Fun K "below" "below" s_below f fd) (T : Txt mg)  : FnOk P w K mg base CX0 1 f fd ["one", "other"] (spR K R_below) := by
  have nd := sc_below.nd
  refine F.ok sc_below (fun vs H Q E h => spR_len h (fun ss o r => len_below r)) (fun cdv A outer s H vs Q E hr h => ⟨t_below K, ?_, st_run h (fun ss o r => b_below ss o r)⟩)
  exact (pss_one (ps_ret (pe_cmpR op_lt (pe_op op_mulW (pe_ix ix_seq (pv 0) pe_int (fun _ _ => rfl)) (pe_ix ix_seq (pv 1) pe_int (fun _ _ => rfl))) (pe_op op_mulW (pe_ix ix_seq (pv 1) pe_int (fun _ _ => rfl)) (pe_ix ix_seq (pv 0) pe_int (fun _ _ => rfl))) (nomark _))))
theorem ok_law {f : Addr} {fd : FuncData} (F : Fun K "law" "law" s_law f fd) (T : Txt mg) (c_law_cell_at : Cal P w K mg base CX0 1 "_law_cell_at" ["_law_script", "_law_k"] (spR K R_law_cell_at)) (c_law_draw : Cal P w K mg base CX0 1 "_law_draw" ["_law_cell", "_law_k", "_law_many"] (spR K R_law_draw)) (c_made : Cal P w K mg base CX0 2 "made" ["a", "b"] (spR K R_made)) (c_law_right : Cal P w K mg base CX0 3 "_law_right" ["_law_found", "_law_over", "_law_under"] (spR K R_law_right)) (c_plus : Cal P w K mg base CX0 3 "plus" ["one", "other"] (spR K R_plus)) (c_times : Cal P w K mg base CX0 3 "times" ["one", "other"] (spR K R_times)) (c_below : Cal P w K mg base CX0 1 "below" ["one", "other"] (spR K R_below)) : FnOk P w K mg base CX0 4 f fd ["_law_script"] (spR K R_law) := by
  have nd := sc_law.nd
  refine F.ok sc_law (fun vs H Q E h => spR_len h (fun ss o r => len_law r)) (fun cdv A outer s H vs Q E hr h => ⟨t_law K, ?_, st_run h (fun ss o r => b_law ss o r)⟩)
  exact (pss_cons (ps_set (i := 1) nd rfl (Or.inl rfl) (pe_lst pa_nil))
    (pss_cons (ps_for PassesOwn.never rfl (pi_range1 (by rfl) T.range_ (pa_cons pe_int pa_nil)) (pg_name (i := 2) nd rfl (by first | exact Or.inl rfl | exact Or.inr rfl)) (pss_cons (ps_set (i := 3) nd rfl (Or.inl rfl) (pe_op op_add (pe_cal c_law_cell_at hr (by decide) rfl (pa_cons (pv 0) (pa_cons (pv 2) pa_nil))) (pe_op op_mulW pe_int (pv 2))))
    (pss_cons (ps_set (i := 4) nd rfl (Or.inl rfl) (pe_ix ix_seq (pe_tup (pa_cons pe_int (pa_cons pe_int (pa_cons pe_int (pa_cons pe_int pa_nil))))) (pe_cal c_law_draw hr (by decide) rfl (pa_cons (pv 3) (pa_cons pe_int (pa_cons pe_int pa_nil)))) (fun _ _ => rfl)))
    (pss_one (ps_expr (pe_bm PySem.F.plainAttrs_list PySem.F.slot_list_append PySem.F.type_list_append mt_append (pv 1) (pa_cons (pe_op op_add (pe_op op_mulW (pv 4) (pe_op op_sub (pe_cal c_law_draw hr (by decide) rfl (pa_cons (pv 3) (pa_cons pe_int (pa_cons pe_int pa_nil)))) pe_int)) (pe_cal c_law_draw hr (by decide) rfl (pa_cons (pv 3) (pa_cons pe_int (pa_cons pe_int pa_nil))))) pa_nil)))))))
    (pss_cons (ps_par (i := 5) (j := 6) (by rfl) nd rfl rfl (by decide) rfl rfl (pa_cons (pe_ix ix_seq (pv 1) pe_int (fun _ _ => rfl)) (pa_cons (pe_callB (call_max2 rfl) (by rfl) T.max_ (by decide +kernel) (pa_cons pe_int (pa_cons (pe_callB call_abs (by rfl) T.abs_ (by decide +kernel) (pa_cons (pe_ix ix_seq (pv 1) pe_int (fun _ _ => rfl)) pa_nil)) pa_nil))) pa_nil)) (by rfl))
    (pss_cons (ps_par (i := 7) (j := 8) (by rfl) nd rfl rfl (by decide) rfl rfl (pa_cons (pe_ix ix_seq (pv 1) pe_int (fun _ _ => rfl)) (pa_cons (pe_callB (call_max2 rfl) (by rfl) T.max_ (by decide +kernel) (pa_cons pe_int (pa_cons (pe_callB call_abs (by rfl) T.abs_ (by decide +kernel) (pa_cons (pe_ix ix_seq (pv 1) pe_int (fun _ _ => rfl)) pa_nil)) pa_nil))) pa_nil)) (by rfl))
    (pss_cons (ps_par (i := 9) (j := 10) (by rfl) nd rfl rfl (by decide) rfl rfl (pa_cons (pe_cal c_made hr (by decide) rfl (pa_cons (pv 5) (pa_cons (pv 6) pa_nil))) (pa_cons (pe_cal c_made hr (by decide) rfl (pa_cons (pv 7) (pa_cons (pv 8) pa_nil))) pa_nil)) (by rfl))
    (pss_cons (ps_if (PW.pt (pw_or (pt_not (pt_val (pe_cal c_law_right hr (by decide) rfl (pa_cons (pv 9) (pa_cons (pv 5) (pa_cons (pv 6) pa_nil)))))) (pw_or1 (pt_not (pt_val (pe_cal c_law_right hr (by decide) rfl (pa_cons (pv 10) (pa_cons (pv 7) (pa_cons (pv 8) pa_nil))))))))) (pss_one (ps_ret pe_bl)) pss_nil)
    (pss_cons (ps_if (pt_not (pt_val (pe_cal c_law_right hr (by decide) rfl (pa_cons (pe_cal c_plus hr (by decide) rfl (pa_cons (pv 9) (pa_cons (pv 10) pa_nil))) (pa_cons (pe_op op_add (pe_op op_mulW (pv 5) (pv 8)) (pe_op op_mulW (pv 7) (pv 6))) (pa_cons (pe_op op_mulW (pv 6) (pv 8)) pa_nil)))))) (pss_one (ps_ret pe_bl)) pss_nil)
    (pss_cons (ps_if (pt_not (pt_val (pe_cal c_law_right hr (by decide) rfl (pa_cons (pe_cal c_times hr (by decide) rfl (pa_cons (pv 9) (pa_cons (pv 10) pa_nil))) (pa_cons (pe_op op_mulW (pv 5) (pv 7)) (pa_cons (pe_op op_mulW (pv 6) (pv 8)) pa_nil)))))) (pss_one (ps_ret pe_bl)) pss_nil)
    (pss_cons (ps_for PassesOwn.never rfl (pi_list (pe_lst (pa_cons (pe_tup (pa_cons (pv 9) (pa_cons (pv 10) (pa_cons (pe_cmpR op_lt (pe_op op_mulW (pv 5) (pv 8)) (pe_op op_mulW (pv 7) (pv 6)) (nomark _)) pa_nil)))) (pa_cons (pe_tup (pa_cons (pv 9) (pa_cons (pv 9) (pa_cons pe_bl pa_nil)))) pa_nil)))) (pg_tup (by rfl) (pgs_cons (pg_name (i := 11) nd rfl (by first | exact Or.inl rfl | exact Or.inr rfl)) (pgs_cons (pg_name (i := 12) nd rfl (by first | exact Or.inl rfl | exact Or.inr rfl)) (pgs_cons (pg_name (i := 13) nd rfl (by first | exact Or.inl rfl | exact Or.inr rfl)) pgs_nil)))) (pss_cons (ps_set (i := 14) nd rfl (Or.inl rfl) (pe_cal c_below hr (by decide) rfl (pa_cons (pv 11) (pa_cons (pv 12) pa_nil))))
    (pss_one (ps_if (PW.pt (pw_or (pt_not (pt_val (pe_callB call_isi (by rfl) T.isinstance_ (by decide +kernel) (pa_cons (pv 14) (pa_cons (pe_bltn (v := .ty "bool") (by rfl) T.bool_ (by decide +kernel) rfl) pa_nil))))) (pw_or1 (pt_cmpR (op_neD hr.units) (pv 14) (pv 13) (nomark _))))) (pss_one (ps_ret pe_bl)) pss_nil))))
    (pss_one (ps_ret (pe_cmpR (op_eqD hr.units) (pe_cal c_below hr (by decide) rfl (pa_cons (pv 10) (pa_cons (pv 9) pa_nil))) (pe_cmpR op_lt (pe_op op_mulW (pv 7) (pv 6)) (pe_op op_mulW (pv 5) (pv 8)) (nomark _)) (nomark _)))))))))))))
end
/-! ### what the top has written, the end -/
theorem all_mk {l : PySem.W.OpenLaw} {w : World} {K : PySem.W.Frag} {h : Heap} {mg : Str → Option Value} {fa f0 f1 f2 f3 f4 f5 f6 f7 f8 f9 f10 : Addr} (X : K.In h) (G : h.Ns mainGlobals mg) (hfa : mg "law" = some (.ref fa))
    {od0 an0 od1 an1 od2 an2 od3 an3 od4 an4 od5 an5 od6 an6 od7 an7 od8 an8 od9 an9 od10 an10 : Option Addr} {sl0 sl1 sl2 sl3 sl4 sl5 sl6 sl7 sl8 sl9 sl10 : Array (Option Value)} {oc0 kV0 dc0 pm0 cd0 ct0 oc1 kV1 dc1 pm1 cd1 ct1 oc2 kV2 dc2 pm2 cd2 ct2 oc3 kV3 dc3 pm3 cd3 ct3 oc4 kV4 dc4 pm4 cd4 ct4 oc5 kV5 dc5 pm5 cd5 ct5 oc6 kV6 dc6 pm6 cd6 ct6 oc7 kV7 dc7 pm7 cd7 ct7 oc8 kV8 dc8 pm8 cd8 ct8 oc9 kV9 dc9 pm9 cd9 ct9 oc10 kV10 dc10 pm10 cd10 ct10 : Value}
    (a0 : PySem.W.nsIn K mainGlobals "_law_cell_at" = some (some (.ref f0))) (l0 : K.lookup f0 = some ⟨oc0, od0, .func (PySem.W.fnOf "_law_cell_at" "_law_cell_at" (defArgs s_law_cell_at) (defBody s_law_cell_at) (defScope s_law_cell_at) .none kV0 dc0 pm0 an0 cd0 ct0), sl0⟩) (c0 : PySem.W.codeIn K cd0 "_law_cell_at" = true) (k0 : PySem.W.keepIn K (.ref f0) = true)
    (a1 : PySem.W.nsIn K mainGlobals "_law_draw" = some (some (.ref f1))) (l1 : K.lookup f1 = some ⟨oc1, od1, .func (PySem.W.fnOf "_law_draw" "_law_draw" (defArgs s_law_draw) (defBody s_law_draw) (defScope s_law_draw) .none kV1 dc1 pm1 an1 cd1 ct1), sl1⟩) (c1 : PySem.W.codeIn K cd1 "_law_draw" = true) (k1 : PySem.W.keepIn K (.ref f1) = true)
    (a2 : PySem.W.nsIn K mainGlobals "common" = some (some (.ref f2))) (l2 : K.lookup f2 = some ⟨oc2, od2, .func (PySem.W.fnOf "common" "common" (defArgs s_common) (defBody s_common) (defScope s_common) .none kV2 dc2 pm2 an2 cd2 ct2), sl2⟩) (c2 : PySem.W.codeIn K cd2 "common" = true) (k2 : PySem.W.keepIn K (.ref f2) = true)
    (a3 : PySem.W.nsIn K mainGlobals "made" = some (some (.ref f3))) (l3 : K.lookup f3 = some ⟨oc3, od3, .func (PySem.W.fnOf "made" "made" (defArgs s_made) (defBody s_made) (defScope s_made) .none kV3 dc3 pm3 an3 cd3 ct3), sl3⟩) (c3 : PySem.W.codeIn K cd3 "made" = true) (k3 : PySem.W.keepIn K (.ref f3) = true)
    (a4 : PySem.W.nsIn K mainGlobals "_law_common" = some (some (.ref f4))) (l4 : K.lookup f4 = some ⟨oc4, od4, .func (PySem.W.fnOf "_law_common" "_law_common" (defArgs s_law_common) (defBody s_law_common) (defScope s_law_common) .none kV4 dc4 pm4 an4 cd4 ct4), sl4⟩) (c4 : PySem.W.codeIn K cd4 "_law_common" = true) (k4 : PySem.W.keepIn K (.ref f4) = true)
    (a5 : PySem.W.nsIn K mainGlobals "_law_made" = some (some (.ref f5))) (l5 : K.lookup f5 = some ⟨oc5, od5, .func (PySem.W.fnOf "_law_made" "_law_made" (defArgs s_law_made) (defBody s_law_made) (defScope s_law_made) .none kV5 dc5 pm5 an5 cd5 ct5), sl5⟩) (c5 : PySem.W.codeIn K cd5 "_law_made" = true) (k5 : PySem.W.keepIn K (.ref f5) = true)
    (a6 : PySem.W.nsIn K mainGlobals "_law_right" = some (some (.ref f6))) (l6 : K.lookup f6 = some ⟨oc6, od6, .func (PySem.W.fnOf "_law_right" "_law_right" (defArgs s_law_right) (defBody s_law_right) (defScope s_law_right) .none kV6 dc6 pm6 an6 cd6 ct6), sl6⟩) (c6 : PySem.W.codeIn K cd6 "_law_right" = true) (k6 : PySem.W.keepIn K (.ref f6) = true)
    (a7 : PySem.W.nsIn K mainGlobals "plus" = some (some (.ref f7))) (l7 : K.lookup f7 = some ⟨oc7, od7, .func (PySem.W.fnOf "plus" "plus" (defArgs s_plus) (defBody s_plus) (defScope s_plus) .none kV7 dc7 pm7 an7 cd7 ct7), sl7⟩) (c7 : PySem.W.codeIn K cd7 "plus" = true) (k7 : PySem.W.keepIn K (.ref f7) = true)
    (a8 : PySem.W.nsIn K mainGlobals "times" = some (some (.ref f8))) (l8 : K.lookup f8 = some ⟨oc8, od8, .func (PySem.W.fnOf "times" "times" (defArgs s_times) (defBody s_times) (defScope s_times) .none kV8 dc8 pm8 an8 cd8 ct8), sl8⟩) (c8 : PySem.W.codeIn K cd8 "times" = true) (k8 : PySem.W.keepIn K (.ref f8) = true)
    (a9 : PySem.W.nsIn K mainGlobals "below" = some (some (.ref f9))) (l9 : K.lookup f9 = some ⟨oc9, od9, .func (PySem.W.fnOf "below" "below" (defArgs s_below) (defBody s_below) (defScope s_below) .none kV9 dc9 pm9 an9 cd9 ct9), sl9⟩) (c9 : PySem.W.codeIn K cd9 "below" = true) (k9 : PySem.W.keepIn K (.ref f9) = true)
    (a10 : PySem.W.nsIn K mainGlobals "law" = some (some (.ref f10))) (l10 : K.lookup f10 = some ⟨oc10, od10, .func (PySem.W.fnOf "law" "law" (defArgs s_law) (defBody s_law) (defScope s_law) .none kV10 dc10 pm10 an10 cd10 ct10), sl10⟩) (c10 : PySem.W.codeIn K cd10 "law" = true) (k10 : PySem.W.keepIn K (.ref f10) = true)
    (z_abs : PySem.W.nsIn K mainGlobals "abs" = some none)
    (z_any : PySem.W.nsIn K mainGlobals "any" = some none)
    (z_bool : PySem.W.nsIn K mainGlobals "bool" = some none)
    (z_int : PySem.W.nsIn K mainGlobals "int" = some none)
    (z_isinstance : PySem.W.nsIn K mainGlobals "isinstance" = some none)
    (z_len : PySem.W.nsIn K mainGlobals "len" = some none)
    (z_max : PySem.W.nsIn K mainGlobals "max" = some none)
    (z_range : PySem.W.nsIn K mainGlobals "range" = some none)
    (z_tuple : PySem.W.nsIn K mainGlobals "tuple" = some none)
    : ∃ fd : FuncData, (∀ (s : Shared) (v : Value), BindsTo s fd ⟨[v], []⟩ [("_law_script", v)]) ∧ ∀ base : Heap, K.In base → base.Ns mainGlobals mg → FnOk l.prog w K mg base CX0 4 fa fd ["_law_script"] (spR K R_law) := by
  have e := hfa.symm.trans (PySem.W.mg_of X G a10)
  cases e
  have T : Txt mg := ⟨PySem.W.mg_none_of X G z_abs, PySem.W.mg_none_of X G z_any, PySem.W.mg_none_of X G z_bool, PySem.W.mg_none_of X G z_int, PySem.W.mg_none_of X G z_isinstance, PySem.W.mg_none_of X G z_len, PySem.W.mg_none_of X G z_max, PySem.W.mg_none_of X G z_range, PySem.W.mg_none_of X G z_tuple⟩
  have F0 := fun_mk (st := s_law_cell_at) l0 c0 k0
  have B0 := F0.binds (ps := ["_law_script", "_law_k"]) fun _ _ _ _ _ _ us hl => match us, hl with | [_, _], _ => rfl
  have F1 := fun_mk (st := s_law_draw) l1 c1 k1
  have B1 := F1.binds (ps := ["_law_cell", "_law_k", "_law_many"]) fun _ _ _ _ _ _ us hl => match us, hl with | [_, _, _], _ => rfl
  have F2 := fun_mk (st := s_common) l2 c2 k2
  have B2 := F2.binds (ps := ["one", "other"]) fun _ _ _ _ _ _ us hl => match us, hl with | [_, _], _ => rfl
  have F3 := fun_mk (st := s_made) l3 c3 k3
  have B3 := F3.binds (ps := ["a", "b"]) fun _ _ _ _ _ _ us hl => match us, hl with | [_, _], _ => rfl
  have F4 := fun_mk (st := s_law_common) l4 c4 k4
  have B4 := F4.binds (ps := ["_law_one", "_law_other"]) fun _ _ _ _ _ _ us hl => match us, hl with | [_, _], _ => rfl
  have F5 := fun_mk (st := s_law_made) l5 c5 k5
  have B5 := F5.binds (ps := ["_law_a", "_law_b"]) fun _ _ _ _ _ _ us hl => match us, hl with | [_, _], _ => rfl
  have F6 := fun_mk (st := s_law_right) l6 c6 k6
  have B6 := F6.binds (ps := ["_law_found", "_law_over", "_law_under"]) fun _ _ _ _ _ _ us hl => match us, hl with | [_, _, _], _ => rfl
  have F7 := fun_mk (st := s_plus) l7 c7 k7
  have B7 := F7.binds (ps := ["one", "other"]) fun _ _ _ _ _ _ us hl => match us, hl with | [_, _], _ => rfl
  have F8 := fun_mk (st := s_times) l8 c8 k8
  have B8 := F8.binds (ps := ["one", "other"]) fun _ _ _ _ _ _ us hl => match us, hl with | [_, _], _ => rfl
  have F9 := fun_mk (st := s_below) l9 c9 k9
  have B9 := F9.binds (ps := ["one", "other"]) fun _ _ _ _ _ _ us hl => match us, hl with | [_, _], _ => rfl
  have F10 := fun_mk (st := s_law) l10 c10 k10
  refine ⟨PySem.W.fnOf "law" "law" (defArgs s_law) (defBody s_law) (defScope s_law) .none kV10 dc10 pm10 an10 cd10 ct10, fun s v => .of_eq rfl, fun base _ _ => ?_⟩
  have c_law_cell_at : Cal l.prog w K mg base CX0 1 "_law_cell_at" ["_law_script", "_law_k"] (spR K R_law_cell_at) := ⟨f0, _, ok_law_cell_at F0 T , PySem.W.mg_of X G a0, k0, B0⟩
  have c_law_draw : Cal l.prog w K mg base CX0 1 "_law_draw" ["_law_cell", "_law_k", "_law_many"] (spR K R_law_draw) := ⟨f1, _, ok_law_draw F1 T , PySem.W.mg_of X G a1, k1, B1⟩
  have c_common : Cal l.prog w K mg base CX0 1 "common" ["one", "other"] (spR K R_common) := ⟨f2, _, ok_common F2 T , PySem.W.mg_of X G a2, k2, B2⟩
  have c_made : Cal l.prog w K mg base CX0 2 "made" ["a", "b"] (spR K R_made) := ⟨f3, _, ok_made F3 T c_common, PySem.W.mg_of X G a3, k3, B3⟩
  have c_law_common : Cal l.prog w K mg base CX0 1 "_law_common" ["_law_one", "_law_other"] (spR K R_law_common) := ⟨f4, _, ok_law_common F4 T , PySem.W.mg_of X G a4, k4, B4⟩
  have c_law_made : Cal l.prog w K mg base CX0 2 "_law_made" ["_law_a", "_law_b"] (spR K R_law_made) := ⟨f5, _, ok_law_made F5 T c_law_common, PySem.W.mg_of X G a5, k5, B5⟩
  have c_law_right : Cal l.prog w K mg base CX0 3 "_law_right" ["_law_found", "_law_over", "_law_under"] (spR K R_law_right) := ⟨f6, _, ok_law_right F6 T c_law_made, PySem.W.mg_of X G a6, k6, B6⟩
  have c_plus : Cal l.prog w K mg base CX0 3 "plus" ["one", "other"] (spR K R_plus) := ⟨f7, _, ok_plus F7 T c_made, PySem.W.mg_of X G a7, k7, B7⟩
  have c_times : Cal l.prog w K mg base CX0 3 "times" ["one", "other"] (spR K R_times) := ⟨f8, _, ok_times F8 T c_made, PySem.W.mg_of X G a8, k8, B8⟩
  have c_below : Cal l.prog w K mg base CX0 1 "below" ["one", "other"] (spR K R_below) := ⟨f9, _, ok_below F9 T , PySem.W.mg_of X G a9, k9, B9⟩
  exact ok_law F10 T c_law_cell_at c_law_draw c_made c_law_right c_plus c_times c_below
end UU

open PySem PySem.W PyProof.Rows in
set_option maxRecDepth 100000 in
set_option maxHeartbeats 0 in
theorem PySem.Challenge.cw_unseen_k01_fractions_holds : PySem.Challenge.rw_unseen_k01_fractions.Holds := by
  w_on; o_law; k_head; (case hw => w_witness2)
  k_fill
  refine L2.walk_ofK (l := PySem.Challenge.rw_unseen_k01_fractions) (n := 63) (k := 4) (x := "_law_script") (CX := L2.CX0) (sp := fun K => UU.spR K UU.R_law) rfl (by decide) rfl ⟨rfl, by decide, by decide⟩ (fun w h Y => PySem.W.kIn_of Y) ?F (fun K H a ns hl _ hS => UU.law_sp hl hS (UU.law_true ns hl)) (fun _ _ _ _ z => z)
  case F =>
    intro w mg fa h KX G hmg
    refine' UU.all_mk KX G hmg ?a0 ?l0 ?c0 ?k0 ?a1 ?l1 ?c1 ?k1 ?a2 ?l2 ?c2 ?k2 ?a3 ?l3 ?c3 ?k3 ?a4 ?l4 ?c4 ?k4 ?a5 ?l5 ?c5 ?k5 ?a6 ?l6 ?c6 ?k6 ?a7 ?l7 ?c7 ?k7 ?a8 ?l8 ?c8 ?k8 ?a9 ?l9 ?c9 ?k9 ?a10 ?l10 ?c10 ?k10 ?z_abs ?z_any ?z_bool ?z_int ?z_isinstance ?z_len ?z_max ?z_range ?z_tuple
    (case a0 => k_is)
    (case l0 => k_is)
    (case c0 => k_is)
    (case k0 => k_is)
    (case a1 => k_is)
    (case l1 => k_is)
    (case c1 => k_is)
    (case k1 => k_is)
    (case a2 => k_is)
    (case l2 => k_is)
    (case c2 => k_is)
    (case k2 => k_is)
    (case a3 => k_is)
    (case l3 => k_is)
    (case c3 => k_is)
    (case k3 => k_is)
    (case a4 => k_is)
    (case l4 => k_is)
    (case c4 => k_is)
    (case k4 => k_is)
    (case a5 => k_is)
    (case l5 => k_is)
    (case c5 => k_is)
    (case k5 => k_is)
    (case a6 => k_is)
    (case l6 => k_is)
    (case c6 => k_is)
    (case k6 => k_is)
    (case a7 => k_is)
    (case l7 => k_is)
    (case c7 => k_is)
    (case k7 => k_is)
    (case a8 => k_is)
    (case l8 => k_is)
    (case c8 => k_is)
    (case k8 => k_is)
    (case a9 => k_is)
    (case l9 => k_is)
    (case c9 => k_is)
    (case k9 => k_is)
    (case a10 => k_is)
    (case l10 => k_is)
    (case c10 => k_is)
    (case k10 => k_is)
    (case z_abs => k_is)
    (case z_any => k_is)
    (case z_bool => k_is)
    (case z_int => k_is)
    (case z_isinstance => k_is)
    (case z_len => k_is)
    (case z_max => k_is)
    (case z_range => k_is)
    (case z_tuple => k_is)
#print axioms PySem.Challenge.cw_unseen_k01_fractions_holds
