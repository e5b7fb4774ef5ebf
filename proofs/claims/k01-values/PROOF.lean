import PyProof.Rows.All
import PySem.Challenge.RW_hashdoors_k01_values_and_tails
import Wide.All
import OpenK.AllK
import Wide.FinOn
import HandS.ForMost
import HandS.Wide
import HandS.Property
import HandS.IsInst
import HandS.RaiseMore
import HandS.SortInts
import HandS.Flow
import HandS.Style
import HandS.Conv
import HandS.EndBits
import HandS.WideBits
import HandS.OwnEq
import PyProof.ReprBulk
import KE.KBits
set_option Elab.async false
set_option linter.all false
section
set_option maxRecDepth 100000
/-! typed layer over HandS: frozen values, owned lists, expressions that evaluate, statements that pass on -/
namespace Fw
open PySem L2

/-- what is said of a value, by the frozen part of the heap -/
structure R where
  p : Hp → V → Prop
  mono : ∀ {F F' : Hp} {v : V}, Same F F' → p F v → p F' v
/-- what is said of an object that is owned -/
structure OC where
  p : Hp → Addr → HO → Prop
  mono : ∀ {F F' : Hp} {a : Addr} {o : HO}, Same F F' → p F a o → p F' a o

def eV (v : V) : R := ⟨fun _ x => x = v, fun _ h => h⟩
abbrev eI (i : Int) : R := eV (.int i)
abbrev eB (b : Bool) : R := eV (.bl b)
abbrev eS (s : Str) : R := eV (.str s)
abbrev eN : R := eV .non
def eAny : R := ⟨fun _ _ => True, fun _ h => h⟩

def All2 : List R → Hp → List V → Prop
  | [], _, [] => True
  | r :: rs, F, x :: xs => r.p F x ∧ All2 rs F xs
  | _, _, _ => False
theorem All2.mono {F F' : Hp} (e : Same F F') : ∀ {rs : List R} {xs : List V}, All2 rs F xs → All2 rs F' xs
  | [], [], _ => trivial
  | r :: rs, x :: xs, h => ⟨r.mono e h.1, All2.mono e h.2⟩
  | [], _ :: _, h => h.elim
  | _ :: _, [], h => h.elim
theorem All2.len {F : Hp} : ∀ {rs : List R} {xs : List V}, All2 rs F xs → xs.length = rs.length
  | [], [], _ => rfl
  | r :: rs, x :: xs, h => congrArg (· + 1) (All2.len h.2)
  | [], _ :: _, h => h.elim
  | _ :: _, [], h => h.elim
theorem All2.app {F : Hp} : ∀ {rs : List R} {xs : List V} {ss : List R} {ys : List V}, All2 rs F xs → All2 ss F ys → All2 (rs ++ ss) F (xs ++ ys)
  | [], [], _, _, _, h => h
  | r :: rs, x :: xs, _, _, h, k => ⟨h.1, All2.app h.2 k⟩
  | [], _ :: _, _, _, h, _ => h.elim
  | _ :: _, [], _, _, h, _ => h.elim
theorem All2.get {F : Hp} : ∀ {rs : List R} {xs : List V} {i : Nat} {x : V}, All2 rs F xs → xs[i]? = some x → ∃ r, rs[i]? = some r ∧ r.p F x
  | r :: rs, y :: ys, 0, x, h, e => by simp at e; subst e; exact ⟨r, rfl, h.1⟩
  | r :: rs, y :: ys, i + 1, x, h, e => by
    obtain ⟨q, h1, h2⟩ := All2.get (i := i) (x := x) h.2 (by simpa using e)
    exact ⟨q, by simpa using h1, h2⟩
  | [], [], i, x, _, e => by simp at e
  | [], _ :: _, _, _, h, _ => h.elim
  | _ :: _, [], _, _, h, _ => h.elim
theorem All2.get' {F : Hp} : ∀ {rs : List R} {xs : List V} {i : Nat} {r : R}, All2 rs F xs → rs[i]? = some r → ∃ x, xs[i]? = some x ∧ r.p F x
  | r :: rs, y :: ys, 0, x, h, e => by simp at e; subst e; exact ⟨y, rfl, h.1⟩
  | r :: rs, y :: ys, i + 1, x, h, e => by
    obtain ⟨q, h1, h2⟩ := All2.get' (i := i) (r := x) h.2 (by simpa using e)
    exact ⟨q, by simpa using h1, h2⟩
  | [], [], i, x, _, e => by simp at e
  | [], _ :: _, _, _, h, _ => h.elim
  | _ :: _, [], _, _, h, _ => h.elim
theorem All2.set {F : Hp} {r : R} {x : V} (q : r.p F x) : ∀ {rs : List R} {xs : List V} (i : Nat), All2 rs F xs → All2 (rs.set i r) F (xs.set i x)
  | [], [], _, h => h
  | _ :: _, _ :: _, 0, h => ⟨q, h.2⟩
  | _ :: _, _ :: _, i + 1, h => ⟨h.1, All2.set q i h.2⟩
  | [], _ :: _, _, h => h.elim
  | _ :: _, [], _, h => h.elim

variable {K : PySem.W.Frag}
def eT (K : PySem.W.Frag) (rs : List R) : R := ⟨fun F v => ∃ p xs, v = .ref p ∧ SqT K F p xs ∧ All2 rs F xs, fun e ⟨p, xs, h1, h2, h3⟩ => ⟨p, xs, h1, by
  rcases h2 with (h | ⟨o, h⟩) | h
  · exact .inl (.inl (e _ _ h))
  · exact .inl (.inr ⟨o, e _ _ h⟩)
  · exact .inr h, h3.mono e⟩⟩
def eP2 {α β : Type} (K : PySem.W.Frag) (a : α → R) (b : β → R) (x : α × β) : R := eT K [a x.1, b x.2]
def eP3 {α β γ : Type} (K : PySem.W.Frag) (a : α → R) (b : β → R) (c : γ → R) (x : α × β × γ) : R := eT K [a x.1, b x.2.1, c x.2.2]
def eO {α : Type} (e : α → R) : Option α → R
  | none => eN
  | some x => e x
/-- a list; q: where it stands, if that is told -/
def oLq (q : Option Addr) (rs : List R) : OC := ⟨fun F a o => (∀ p, q = some p → a = p) ∧ ∃ xs, o = .lst xs ∧ All2 rs F xs, fun e ⟨z, xs, h1, h2⟩ => ⟨z, xs, h1, h2.mono e⟩⟩
abbrev oL (rs : List R) : OC := oLq none rs
abbrev oLs {α : Type} (e : α → R) (l : List α) : OC := oL (l.map e)

/-! ### slots -/
inductive Sl where
  | no
  | fz (r : R)
  | ow (c : OC)
def Own (W : List Sl) (σ : St) (a : Addr) : Prop := ∃ (i : Nat) (c : OC), W[i]? = some (.ow c) ∧ σ[i]? = some (some (.ref a))
structure Sat (F H : Hp) (σ : St) (W : List Sl) : Prop where
  ex : Same F H
  len : σ.length = W.length
  fz : ∀ (i : Nat) (r : R), W[i]? = some (.fz r) → ∃ v, σ[i]? = some (some v) ∧ r.p F v
  ow : ∀ (i : Nat) (c : OC), W[i]? = some (.ow c) → ∃ p o, σ[i]? = some (some (.ref p)) ∧ H p = some o ∧ F p = none ∧ c.p F p o
  ds : ∀ (i j : Nat) (c d : OC) (p : Addr), W[i]? = some (.ow c) → W[j]? = some (.ow d) → σ[i]? = some (some (.ref p)) → σ[j]? = some (some (.ref p)) → i = j
structure Rel (F H : Hp) (M : Addr → Prop) (F' H' : Hp) (M' : Addr → Prop) : Prop where
  f : Same F F'
  h : ∀ a o, ¬ M a → H a = some o → H' a = some o
  n : ∀ a o, F' a = some o → F a = some o ∨ H a = none ∨ M a
  t : ∀ a, H' a = none → H a = none
  o : ∀ a, M' a → M a ∨ H a = none
section
variable {F H F' H' F'' H'' : Hp} {M M' M'' : Addr → Prop} {σ : St} {W W' : List Sl}
theorem Rel.refl : Rel F H M F H M := ⟨fun _ _ h => h, fun _ _ _ h => h, fun _ _ h => .inl h, fun _ h => h, fun _ h => Or.inl h⟩
theorem Rel.trans (a : Rel F H M F' H' M') (b : Rel F' H' M' F'' H'' M'') : Rel F H M F'' H'' M'' where
  f := fun x o h => b.f x o (a.f x o h)
  h := fun x o n h => b.h x o (fun m => (a.o x m).elim n fun z => by rw [h] at z; cases z) (a.h x o n h)
  n := fun x o h => by
    rcases b.n x o h with z | z | z
    · exact a.n x o z
    · exact .inr (.inl (a.t x z))
    · exact (a.o x z).elim (fun z => .inr (.inr z)) fun z => .inr (.inl z)
  t := fun x h => a.t x (b.t x h)
  o := fun x m => (b.o x m).elim (a.o x) fun z => .inr (a.t x z)
/-- the heap grows; nothing that is frozen comes -/
theorem Rel.grow (e : Same H H') : Rel F H M F H' M := ⟨fun _ _ h => h, fun x o _ h => e x o h, fun _ _ h => .inl h, fun x h => e.free h, fun _ h => .inl h⟩
/-- a new object is laid and frozen -/
theorem Rel.lay {p : Addr} {o : HO} (ex : Same F H) (hp : H p = none) : Rel F H M (upd F p o) (upd H p o) M where
  f := fun x u h => by
    have q := ex x u h
    rw [upd_ne (ne_of_none q hp)]; exact h
  h := fun x u _ h => by rw [upd_ne (ne_of_none h hp)]; exact h
  n := fun x u h => by
    by_cases e : x = p
    · subst e; exact .inr (.inl hp)
    · rw [upd_ne e] at h; exact .inl h
  t := fun x h => by
    by_cases e : x = p
    · subst e; exact hp
    · rw [upd_ne e] at h; exact h
  o := fun _ h => .inl h
end
end Fw
end
section
set_option maxRecDepth 100000
namespace Fw
open PySem L2
section
variable {F H F' H' F'' H'' : Hp} {M M' M'' : Addr → Prop} {σ σ' : St} {W W' W1 W2 : List Sl} {K : PySem.W.Frag}
theorem Rel.sub (a : Rel F H M F' H' M') (s : ∀ x, M'' x → M' x) : Rel F H M F' H' M'' := ⟨a.f, a.h, a.n, a.t, fun x m => a.o x (s x m)⟩
theorem Own.lt {a : Addr} (o : Own W σ a) (s : Sat F H σ W) : ∃ u, H a = some u := by
  obtain ⟨i, c, h1, h2⟩ := o
  obtain ⟨p, u, e, q, _⟩ := s.ow i c h1
  rw [h2] at e; cases e
  exact ⟨u, q⟩
theorem Sat.grow (s : Sat F H σ W) (e : Same H H') : Sat F H' σ W :=
  ⟨fun a o h => e a o (s.ex a o h), s.len, s.fz, fun i c h => let ⟨p, o, h1, h2, h3, h4⟩ := s.ow i c h; ⟨p, o, h1, e p o h2, h3, h4⟩, s.ds⟩
theorem Sat.lay {p : Addr} {o : HO} (s : Sat F H σ W) (hp : H p = none) : Sat (upd F p o) (upd H p o) σ W := by
  have fp : F p = none := s.ex.free hp
  have e : Same F (upd F p o) := fun a u h => by rw [upd_ne (ne_of_none h fp)]; exact h
  refine ⟨fun a u h => ?_, s.len, fun i r h => ?_, fun i c h => ?_, s.ds⟩
  · by_cases q : a = p
    · subst q; rw [upd_same] at h; cases h; exact upd_same
    · rw [upd_ne q] at h; rw [upd_ne q]; exact s.ex a u h
  · obtain ⟨v, h1, h2⟩ := s.fz i r h
    exact ⟨v, h1, r.mono e h2⟩
  · obtain ⟨q, u, h1, h2, h3, h4⟩ := s.ow i c h
    have ne : q ≠ p := ne_of_none h2 hp
    exact ⟨q, u, h1, by rw [upd_ne ne]; exact h2, by rw [upd_ne ne]; exact h3, c.mono e h4⟩
/-- a frozen value is stored -/
theorem Sat.put {i : Nat} {v : V} {r : R} (s : Sat F H σ W) (q : r.p F v) : Sat F H (σ.set i (some v)) (W.set i (.fz r)) := by
  refine ⟨s.ex, by simpa using s.len, fun j u h => ?_, fun j c h => ?_, fun j k c d p h1 h2 h3 h4 => ?_⟩
  · by_cases e : i = j
    · subst e
      have hi : i < W.length := by
        have := (List.getElem?_eq_some_iff.mp h).1
        simpa using this
      rw [List.getElem?_set_self hi] at h; cases h
      exact ⟨v, List.getElem?_set_self (by rw [s.len]; exact hi), q⟩
    · rw [List.getElem?_set_ne e] at h
      rw [List.getElem?_set_ne e]
      exact s.fz j u h
  · by_cases e : i = j
    · subst e
      have hi : i < W.length := by
        have := (List.getElem?_eq_some_iff.mp h).1
        simpa using this
      rw [List.getElem?_set_self hi] at h; cases h
    · rw [List.getElem?_set_ne e] at h
      rw [List.getElem?_set_ne e]
      exact s.ow j c h
  · have nj : i ≠ j := fun e => by
      subst e
      have hi : i < W.length := by
        have := (List.getElem?_eq_some_iff.mp h1).1
        simpa using this
      rw [List.getElem?_set_self hi] at h1; cases h1
    have nk : i ≠ k := fun e => by
      subst e
      have hi : i < W.length := by
        have := (List.getElem?_eq_some_iff.mp h2).1
        simpa using this
      rw [List.getElem?_set_self hi] at h2; cases h2
    rw [List.getElem?_set_ne nj] at h1 h3
    rw [List.getElem?_set_ne nk] at h2 h4
    exact s.ds j k c d p h1 h2 h3 h4
theorem Own.put {i : Nat} {v : V} {r : R} {a : Addr} (o : Own (W.set i (.fz r)) (σ.set i (some v)) a) : Own W σ a := by
  obtain ⟨j, c, h1, h2⟩ := o
  have nj : i ≠ j := fun e => by
    subst e
    have hi : i < W.length := by
      have := (List.getElem?_eq_some_iff.mp h1).1
      simpa using this
    rw [List.getElem?_set_self hi] at h1; cases h1
  rw [List.getElem?_set_ne nj] at h1 h2
  exact ⟨j, c, h1, h2⟩
/-- an owned object, new, is stored -/
theorem Sat.own {i : Nat} {p : Addr} {o : HO} {c : OC} (s : Sat F H σ W) (hp : H p = some o) (fp : F p = none) (np : ¬ Own W σ p) (q : c.p F p o) : Sat F H (σ.set i (some (.ref p))) (W.set i (.ow c)) := by
  have inj : ∀ (j : Nat) (d : OC), i ≠ j → W[j]? = some (.ow d) → σ[j]? = some (some (.ref p)) → False := fun j d _ h1 h2 => np ⟨j, d, h1, h2⟩
  refine ⟨s.ex, by simpa using s.len, fun j u h => ?_, fun j d h => ?_, fun j k d e a h1 h2 h3 h4 => ?_⟩
  · by_cases e : i = j
    · subst e
      have hi : i < W.length := by
        have := (List.getElem?_eq_some_iff.mp h).1
        simpa using this
      rw [List.getElem?_set_self hi] at h; cases h
    · rw [List.getElem?_set_ne e] at h
      rw [List.getElem?_set_ne e]
      exact s.fz j u h
  · by_cases e : i = j
    · subst e
      have hi : i < W.length := by
        have := (List.getElem?_eq_some_iff.mp h).1
        simpa using this
      rw [List.getElem?_set_self hi] at h; cases h
      exact ⟨p, o, List.getElem?_set_self (by rw [s.len]; exact hi), hp, fp, q⟩
    · rw [List.getElem?_set_ne e] at h
      rw [List.getElem?_set_ne e]
      exact s.ow j d h
  · by_cases ej : i = j
    · by_cases ek : i = k
      · exact ej.symm.trans ek
      · subst ej
        have hi : i < W.length := by
          have := (List.getElem?_eq_some_iff.mp h1).1
          simpa using this
        rw [List.getElem?_set_self (by rw [s.len]; exact hi)] at h3
        cases h3
        rw [List.getElem?_set_ne ek] at h2 h4
        exact (inj k e ek h2 h4).elim
    · by_cases ek : i = k
      · subst ek
        have hi : i < W.length := by
          have := (List.getElem?_eq_some_iff.mp h2).1
          simpa using this
        rw [List.getElem?_set_self (by rw [s.len]; exact hi)] at h4
        cases h4
        rw [List.getElem?_set_ne ej] at h1 h3
        exact (inj j d ej h1 h3).elim
      · rw [List.getElem?_set_ne ej] at h1 h3
        rw [List.getElem?_set_ne ek] at h2 h4
        exact s.ds j k d e a h1 h2 h3 h4
theorem Own.own {i : Nat} {p : Addr} {c : OC} {a : Addr} (o : Own (W.set i (.ow c)) (σ.set i (some (.ref p))) a) : Own W σ a ∨ a = p := by
  obtain ⟨j, d, h1, h2⟩ := o
  by_cases e : i = j
  · subst e
    have hi : i < (W.set i (.ow c)).length := (List.getElem?_eq_some_iff.mp h1).1
    have hj : i < (σ.set i (some (.ref p))).length := (List.getElem?_eq_some_iff.mp h2).1
    rw [List.getElem?_set_self (by simpa using hj)] at h2
    cases h2
    exact .inr rfl
  · rw [List.getElem?_set_ne e] at h1 h2
    exact .inl ⟨j, d, h1, h2⟩
/-- what an owned object holds is changed -/
theorem Sat.mut {i : Nat} {p : Addr} {o : HO} {c d : OC} (s : Sat F H σ W) (hw : W[i]? = some (.ow d)) (hs : σ[i]? = some (some (.ref p))) (q : c.p F p o) : Sat F (upd H p o) σ (W.set i (.ow c)) := by
  have hi : i < W.length := (List.getElem?_eq_some_iff.mp hw).1
  have fp : F p = none := by
    obtain ⟨p', o', e1, _, e3, _⟩ := s.ow i d hw
    rw [hs] at e1; cases e1; exact e3
  refine ⟨fun a u h => ?_, by simpa using s.len, fun j u h => ?_, fun j e h => ?_, fun j k e e' a h1 h2 h3 h4 => ?_⟩
  · rw [upd_ne (ne_of_none h fp)]; exact s.ex a u h
  · by_cases e : i = j
    · subst e
      rw [List.getElem?_set_self hi] at h; cases h
    · rw [List.getElem?_set_ne e] at h
      exact s.fz j u h
  · by_cases e1 : i = j
    · subst e1
      rw [List.getElem?_set_self hi] at h; cases h
      exact ⟨p, o, hs, upd_same, fp, q⟩
    · rw [List.getElem?_set_ne e1] at h
      obtain ⟨a, u, g1, g2, g3, g4⟩ := s.ow j e h
      have ne : a ≠ p := fun z => by subst z; exact e1 (s.ds i j d e a hw h hs g1)
      exact ⟨a, u, g1, by rw [upd_ne ne]; exact g2, g3, g4⟩
  · have old : ∀ (j : Nat) (e : OC), (W.set i (.ow c))[j]? = some (.ow e) → ∃ e', W[j]? = some (.ow e') := fun j e h => by
      by_cases e1 : i = j
      · subst e1; exact ⟨d, hw⟩
      · rw [List.getElem?_set_ne e1] at h; exact ⟨e, h⟩
    obtain ⟨a1, g1⟩ := old j e h1
    obtain ⟨a2, g2⟩ := old k e' h2
    exact s.ds j k a1 a2 a g1 g2 h3 h4
theorem Own.mut {i : Nat} {c d : OC} {a : Addr} (hw : W[i]? = some (.ow d)) : Own (W.set i (.ow c)) σ a ↔ Own W σ a := by
  have hi : i < W.length := (List.getElem?_eq_some_iff.mp hw).1
  constructor
  · rintro ⟨j, e, h1, h2⟩
    by_cases e1 : i = j
    · subst e1; exact ⟨i, d, hw, h2⟩
    · rw [List.getElem?_set_ne e1] at h1; exact ⟨j, e, h1, h2⟩
  · rintro ⟨j, e, h1, h2⟩
    by_cases e1 : i = j
    · subst e1; exact ⟨i, c, List.getElem?_set_self hi, h2⟩
    · exact ⟨j, e, by rw [List.getElem?_set_ne e1]; exact h1, h2⟩
/-- forgetting -/
def Wk : List Sl → List Sl → Prop
  | [], [] => True
  | s :: W, t :: W' => (t = .no ∨ t = s) ∧ Wk W W'
  | _, _ => False
theorem Wk.len : ∀ {W W' : List Sl}, Wk W W' → W.length = W'.length
  | [], [], _ => rfl
  | _ :: _, _ :: _, h => congrArg (· + 1) (Wk.len h.2)
  | [], _ :: _, h => h.elim
  | _ :: _, [], h => h.elim
theorem Wk.at : ∀ {W W' : List Sl} {i : Nat} {s : Sl}, Wk W W' → W'[i]? = some s → s = .no ∨ W[i]? = some s
  | _ :: _, _ :: _, 0, s, h, e => by
    simp at e; subst e
    rcases h.1 with z | z
    · exact .inl z
    · exact .inr (by rw [z]; rfl)
  | _ :: _, _ :: _, i + 1, s, h, e => by
    rcases Wk.at (i := i) (s := s) h.2 (by simpa using e) with z | z
    · exact .inl z
    · exact .inr (by simpa using z)
  | [], [], _, _, _, e => by simp at e
  | [], _ :: _, _, _, h, _ => h.elim
  | _ :: _, [], _, _, h, _ => h.elim
theorem Wk.refl : ∀ {W : List Sl}, Wk W W
  | [] => trivial
  | _ :: _ => ⟨.inr rfl, Wk.refl⟩
theorem Wk.sub {a : Addr} (k : Wk W W') (o : Own W' σ a) : Own W σ a := by
  obtain ⟨i, c, h1, h2⟩ := o
  rcases k.at h1 with z | z
  · cases z
  · exact ⟨i, c, z, h2⟩
theorem Sat.weak (s : Sat F H σ W) (k : Wk W W') : Sat F H σ W' := by
  refine ⟨s.ex, s.len.trans k.len, fun i r h => ?_, fun i c h => ?_, fun i j c d p h1 h2 => ?_⟩
  · rcases k.at h with z | z
    · cases z
    · exact s.fz i r z
  · rcases k.at h with z | z
    · cases z
    · exact s.ow i c z
  · rcases k.at h1 with z | z
    · cases z
    · rcases k.at h2 with z' | z'
      · cases z'
      · exact s.ds i j c d p z z'
end

/-! ### judgements -/
/-- an expression evaluates to a frozen value -/
def ES (t : TE) (W W' : List Sl) (r : R) : Prop := ∀ (F H : Hp) (σ : St) (Q : VK), Sat F H σ W →
  (∀ v F' H', Rel F H (Own W σ) F' H' (Own W' σ) → Sat F' H' σ W' → r.p F' v → Q v H') → t σ H Q
/-- .. to a new object that is owned by nobody yet -/
def ESN (t : TE) (W W' : List Sl) (c : OC) : Prop := ∀ (F H : Hp) (σ : St) (Q : VK), Sat F H σ W →
  (∀ p o F' H', Rel F H (Own W σ) F' H' (Own W' σ) → Sat F' H' σ W' → H p = none → H' p = some o → F' p = none → ¬ Own W' σ p → c.p F' p o → Q (.ref p) H') → t σ H Q
/-- a test -/
def ET (t : TT) (W W' : List Sl) (b : Bool) : Prop := ∀ (F H : Hp) (σ : St) (Q : Bool → Hp → Prop), Sat F H σ W →
  (∀ F' H', Rel F H (Own W σ) F' H' (Own W' σ) → Sat F' H' σ W' → Q b H') → t σ H Q
/-- arguments -/
def AS (t : TA) (W W' : List Sl) (rs : List R) : Prop := ∀ (F H : Hp) (σ : St) (Q : List V → Hp → Prop), Sat F H σ W →
  (∀ vs F' H', Rel F H (Own W σ) F' H' (Own W' σ) → Sat F' H' σ W' → All2 rs F' vs → Q vs H') → t σ H Q
structure Post where
  nx : List Sl → Prop
  rt : List Sl → R → Prop
  bk : List Sl → Prop := fun _ => False
  ct : List Sl → Prop := fun _ => False
/-- a statement -/
def SS (t : TS) (W : List Sl) (P : Post) : Prop := ∀ (F H : Hp) (σ : St) (D : Ends), Sat F H σ W →
  (∀ W' σ' F' H', P.nx W' → Rel F H (Own W σ) F' H' (Own W' σ') → Sat F' H' σ' W' → D.nx σ' H') →
  (∀ W' σ' r v F' H', P.rt W' r → Rel F H (Own W σ) F' H' (Own W' σ') → Sat F' H' σ' W' → r.p F' v → D.rt v H') →
  (∀ W' σ' F' H', P.bk W' → Rel F H (Own W σ) F' H' (Own W' σ') → Sat F' H' σ' W' → D.bk σ' H') →
  (∀ W' σ' F' H', P.ct W' → Rel F H (Own W σ) F' H' (Own W' σ') → Sat F' H' σ' W' → D.ct σ' H') → t D σ H

section
variable {W W' W1 W2 W3 : List Sl} {K : PySem.W.Frag} {ta tb tc te : TE} {t u : TT} {r ra rb : R} {x y z v : V}
theorem ES.to {r' : R} (h : ES te W W' r) (e : r = r') : ES te W W' r' := e ▸ h
theorem ES.imp {r' : R} (h : ES te W W' r) (e : ∀ F v, r.p F v → r'.p F v) : ES te W W' r' := fun F H σ Q s k => h F H σ Q s fun v F' H' a b c => k v F' H' a b (e _ _ c)
theorem ET.to {b b' : Bool} (h : ET t W W' b) (e : b = b') : ET t W W' b' := e ▸ h
/-! values -/
theorem es_var (i : Nat) (h : W[i]? = some (.fz r)) : ES (tVar i) W W r := fun F H σ Q s k => by
  obtain ⟨v, h1, h2⟩ := s.fz i r h
  exact ⟨v, h1, k v F H Rel.refl s h2⟩
theorem es_c : ES (tC v) W W (eV v) := fun F H σ Q s k => k v F H Rel.refl s rfl
/-- two values, an operation that changes nothing -/
theorem es_op {g : R2} (ha : ES ta W W1 (eV x)) (hb : ES tb W1 W2 (eV y)) (hg : ∀ (H : Hp) (Q : VK), Q z H → g x y H Q) : ES (tOp g ta tb) W W2 (eV z) := fun F H σ Q s k =>
  ha F H σ _ s fun v F1 H1 a1 s1 e1 => hb F1 H1 σ _ s1 fun w F2 H2 a2 s2 e2 => by
    have e1' : v = x := e1
    have e2' : w = y := e2
    subst e1' e2'
    exact hg H2 Q (k z F2 H2 (a1.trans a2) s2 rfl)
theorem es_un {g : V → Hp → VK → Prop} (ha : ES ta W W1 (eV x)) (hg : ∀ (H : Hp) (Q : VK), Q z H → g x H Q) : ES (tUn g ta) W W1 (eV z) := fun F H σ Q s k =>
  ha F H σ _ s fun v F1 H1 a1 s1 e1 => by
    have e1' : v = x := e1
    subst e1'
    exact hg H1 Q (k z F1 H1 a1 s1 rfl)
section
variable {i j : Int}
theorem es_add (ha : ES ta W W1 (eI i)) (hb : ES tb W1 W2 (eI j)) : ES (tOp (rI0 fun i j => .int (i + j)) ta tb) W W2 (eI (i + j)) := es_op ha hb fun _ _ q => ⟨i, j, rfl, rfl, q⟩
theorem es_sub (ha : ES ta W W1 (eI i)) (hb : ES tb W1 W2 (eI j)) : ES (tOp (rI0 fun i j => .int (i - j)) ta tb) W W2 (eI (i - j)) := es_op ha hb fun _ _ q => ⟨i, j, rfl, rfl, q⟩
theorem es_mul (ha : ES ta W W1 (eI i)) (hb : ES tb W1 W2 (eI j)) (c : CMul i j) : ES (tOp (rI CMul fun i j => .int (i * j)) ta tb) W W2 (eI (i * j)) := es_op ha hb fun _ _ q => ⟨i, j, rfl, rfl, c, q⟩
theorem es_mod (ha : ES ta W W1 (eI i)) (hb : ES tb W1 W2 (eI j)) (c : 0 < j) : ES (tOp (rI (fun _ j => 0 < j) fun i j => .int (i % j)) ta tb) W W2 (eI (i % j)) := es_op ha hb fun _ _ q => ⟨i, j, rfl, rfl, c, q⟩
theorem es_pow (ha : ES ta W W1 (eI i)) (hb : ES tb W1 W2 (eI j)) (c : CPow i j) : ES (tOp (rI CPow fun i j => .int (i ^ j.toNat)) ta tb) W W2 (eI (i ^ j.toNat)) := es_op ha hb fun _ _ q => ⟨i, j, rfl, rfl, c, q⟩
theorem es_shl (ha : ES ta W W1 (eI i)) (hb : ES tb W1 W2 (eI j)) (c : CPow i j) : ES (tOp (rI CPow fun i j => .int (i * 2 ^ j.toNat)) ta tb) W W2 (eI (i * 2 ^ j.toNat)) := es_op ha hb fun _ _ q => ⟨i, j, rfl, rfl, c, q⟩
theorem es_shr (ha : ES ta W W1 (eI i)) (hb : ES tb W1 W2 (eI j)) (c : 0 ≤ j) : ES (tOp (rI (fun _ j => 0 ≤ j) fun i j => .int (i / 2 ^ j.toNat)) ta tb) W W2 (eI (i / 2 ^ j.toNat)) := es_op ha hb fun _ _ q => ⟨i, j, rfl, rfl, c, q⟩
theorem es_and (ha : ES ta W W1 (eI i)) (hb : ES tb W1 W2 (eI j)) : ES (tOp (rI0 fun i j => .int (Builtin.bitAnd i j)) ta tb) W W2 (eI (Builtin.bitAnd i j)) := es_op ha hb fun _ _ q => ⟨i, j, rfl, rfl, q⟩
theorem es_neg (ha : ES ta W W1 (eI i)) : ES (tUn (rU fun i => .int (-i)) ta) W W1 (eI (-i)) := es_un ha fun _ _ q => ⟨i, rfl, q⟩
end
end
end Fw
end
section
set_option maxRecDepth 100000
namespace Fw
open PySem L2
section
variable {W W' W1 W2 W3 : List Sl} {K : PySem.W.Frag} {ta tb tc te : TE} {t u : TT} {r ra rb : R} {x y z v : V} {a b : Bool}
/-! tests -/
theorem et_cmp {g : R2} (ha : ES ta W W1 (eV x)) (hb : ES tb W1 W2 (eV y)) (hg : ∀ (H : Hp) (Q : VK), Q (.bl b) H → g x y H Q) : ET (tTest (tOp g ta tb)) W W2 b := fun F H σ Q s k =>
  es_op ha hb hg F H σ _ s fun v F1 H1 a1 s1 e1 => ⟨b, e1, k F1 H1 a1 s1⟩
theorem es_cmp {g : R2} (ha : ES ta W W1 (eV x)) (hb : ES tb W1 W2 (eV y)) (hg : ∀ (H : Hp) (Q : VK), Q (.bl b) H → g x y H Q) : ES (tOp g ta tb) W W2 (eB b) := es_op ha hb hg
theorem et_val (h : ES te W W1 (eB b)) : ET (tB te) W W1 b := fun F H σ Q s k => h F H σ _ s fun v F1 H1 a1 s1 e1 => ⟨b, e1, k F1 H1 a1 s1⟩
theorem et_not (h : ET t W W1 a) : ET (tNot t) W W1 (!a) := fun F H σ Q s k => h F H σ _ s k
theorem et_and (h : ET t W W1 a) (h2 : a = true → ET u W1 W1 b) : ET (tAnd t u) W W1 (a && b) := fun F H σ Q s k => h F H σ _ s fun F1 H1 a1 s1 => by
  cases a with
  | true =>
    rw [if_pos rfl]
    exact h2 rfl F1 H1 σ Q s1 fun F2 H2 a2 s2 => k F2 H2 (a1.trans a2) s2
  | false =>
    rw [if_neg Bool.false_ne_true]
    exact k F1 H1 a1 s1
theorem et_or (h : ET t W W1 a) (h2 : a = false → ET u W1 W1 b) : ET (tOr t u) W W1 (a || b) := fun F H σ Q s k => h F H σ _ s fun F1 H1 a1 s1 => by
  cases a with
  | true =>
    rw [if_pos rfl]
    exact k F1 H1 a1 s1
  | false =>
    rw [if_neg Bool.false_ne_true]
    exact h2 rfl F1 H1 σ Q s1 fun F2 H2 a2 s2 => k F2 H2 (a1.trans a2) s2
theorem es_andV (h : ES ta W W1 (eB a)) (h2 : a = true → ES tb W1 W1 (eB b)) : ES (tAndV ta tb) W W1 (eB (a && b)) := fun F H σ Q s k => h F H σ _ s fun v F1 H1 a1 s1 e1 => ⟨a, e1, by
  cases a with
  | true =>
    rw [if_pos rfl]
    exact h2 rfl F1 H1 σ Q s1 fun w F2 H2 a2 s2 e2 => k w F2 H2 (a1.trans a2) s2 e2
  | false =>
    rw [if_neg Bool.false_ne_true]
    exact k _ F1 H1 a1 s1 rfl⟩
theorem es_orV (h : ES ta W W1 (eB a)) (h2 : a = false → ES tb W1 W1 (eB b)) : ES (tOrV ta tb) W W1 (eB (a || b)) := fun F H σ Q s k => h F H σ _ s fun v F1 H1 a1 s1 e1 => ⟨a, e1, by
  cases a with
  | true =>
    rw [if_pos rfl]
    exact k _ F1 H1 a1 s1 rfl
  | false =>
    rw [if_neg Bool.false_ne_true]
    exact h2 rfl F1 H1 σ Q s1 fun w F2 H2 a2 s2 e2 => k w F2 H2 (a1.trans a2) s2 e2⟩
theorem es_notV (h : ES ta W W1 (eB a)) : ES (tNotV ta) W W1 (eB (!a)) := fun F H σ Q s k => h F H σ _ s fun v F1 H1 a1 s1 e1 => ⟨a, e1, k _ F1 H1 a1 s1 rfl⟩
theorem es_if {α : Type} {e : α → R} {p q : α} (h : ET t W W1 a) (h1 : a = true → ES ta W1 W2 (e p)) (h2 : a = false → ES tb W1 W2 (e q)) : ES (tIf t ta tb) W W2 (e (if a = true then p else q)) := fun F H σ Q s k => h F H σ _ s fun F1 H1 a1 s1 => by
  cases a with
  | true =>
    rw [if_pos rfl] at k ⊢
    exact h1 rfl F1 H1 σ Q s1 fun w F2 H2 a2 s2 e2 => k w F2 H2 (a1.trans a2) s2 e2
  | false =>
    rw [if_neg Bool.false_ne_true] at k ⊢
    exact h2 rfl F1 H1 σ Q s1 fun w F2 H2 a2 s2 e2 => k w F2 H2 (a1.trans a2) s2 e2
section
variable {i j : Int}
theorem q_lt : ∀ (H : Hp) (Q : VK), Q (.bl (decide (i < j))) H → rI0 (fun i j => .bl (decide (i < j))) (.int i) (.int j) H Q := fun _ _ q => ⟨i, j, rfl, rfl, q⟩
theorem q_le : ∀ (H : Hp) (Q : VK), Q (.bl (decide (i ≤ j))) H → rI0 (fun i j => .bl (decide (i ≤ j))) (.int i) (.int j) H Q := fun _ _ q => ⟨i, j, rfl, rfl, q⟩
theorem q_gt : ∀ (H : Hp) (Q : VK), Q (.bl (decide (j < i))) H → rI0 (fun i j => .bl (decide (j < i))) (.int i) (.int j) H Q := fun _ _ q => ⟨i, j, rfl, rfl, q⟩
theorem q_ge : ∀ (H : Hp) (Q : VK), Q (.bl (decide (j ≤ i))) H → rI0 (fun i j => .bl (decide (j ≤ i))) (.int i) (.int j) H Q := fun _ _ q => ⟨i, j, rfl, rfl, q⟩
theorem q_eqI : ∀ (H : Hp) (Q : VK), Q (.bl (decide (i = j))) H → rEq (.int i) (.int j) H Q := fun _ _ q => ⟨rfl, by
  have e : decide (V.int i = V.int j) = decide (i = j) := by simp
  rw [e]; exact q⟩
theorem q_neI : ∀ (H : Hp) (Q : VK), Q (.bl (!decide (i = j))) H → rNe (.int i) (.int j) H Q := fun _ _ q => ⟨rfl, by
  have e : decide (V.int i = V.int j) = decide (i = j) := by simp
  rw [e]; exact q⟩
theorem q_eqB {i j : Bool} : ∀ (H : Hp) (Q : VK), Q (.bl (decide (i = j))) H → rEq (.bl i) (.bl j) H Q := fun _ _ q => ⟨rfl, by
  have e : decide (V.bl i = V.bl j) = decide (i = j) := by simp
  rw [e]; exact q⟩
theorem q_neB {i j : Bool} : ∀ (H : Hp) (Q : VK), Q (.bl (!decide (i = j))) H → rNe (.bl i) (.bl j) H Q := fun _ _ q => ⟨rfl, by
  have e : decide (V.bl i = V.bl j) = decide (i = j) := by simp
  rw [e]; exact q⟩
theorem q_eqS {i j : Str} : ∀ (H : Hp) (Q : VK), Q (.bl (decide (i = j))) H → rEq (.str i) (.str j) H Q := fun _ _ q => ⟨rfl, by
  have e : decide (V.str i = V.str j) = decide (i = j) := by simp
  rw [e]; exact q⟩
theorem q_neS {i j : Str} : ∀ (H : Hp) (Q : VK), Q (.bl (!decide (i = j))) H → rNe (.str i) (.str j) H Q := fun _ _ q => ⟨rfl, by
  have e : decide (V.str i = V.str j) = decide (i = j) := by simp
  rw [e]; exact q⟩
end
/-- a < b < c -/
theorem es_chain {g g' : R2} (ha : ES ta W W1 (eV x)) (hb : ES tb W1 W2 (eV y)) (hg : ∀ (H : Hp) (Q : VK), Q (.bl a) H → g x y H Q) (hc : a = true → ES tc W2 W2 (eV z)) (hg' : ∀ (H : Hp) (Q : VK), Q (.bl b) H → g' y z H Q) :
    ES (tChain g g' ta tb tc) W W2 (eB (a && b)) := fun F H σ Q s k =>
  ha F H σ _ s fun v F1 H1 a1 s1 e1 => hb F1 H1 σ _ s1 fun w F2 H2 a2 s2 e2 => by
    have e1' : v = x := e1
    have e2' : w = y := e2
    subst e1' e2'
    refine hg H2 _ ⟨a, rfl, ?_⟩
    cases a with
    | false =>
      rw [if_neg Bool.false_ne_true]
      exact k _ F2 H2 (a1.trans a2) s2 rfl
    | true =>
      rw [if_pos rfl]
      refine hc rfl F2 H2 σ _ s2 fun w' F3 H3 a3 s3 e3 => ?_
      have e3' : w' = z := e3
      subst e3'
      exact hg' H3 Q (k _ F3 H3 ((a1.trans a2).trans a3) s3 rfl)
theorem et_test (h : ES te W W1 (eB b)) : ET (tTest te) W W1 b := fun F H σ Q s k => h F H σ _ s fun v F1 H1 a1 s1 e1 => ⟨b, e1, k F1 H1 a1 s1⟩

/-! arguments, displays -/
theorem as_nil : AS tNil W W [] := fun F H σ Q s k => k [] F H Rel.refl s trivial
theorem as_cons {tr : TA} {rs : List R} (h : ES ta W W1 r) (hr : AS tr W1 W2 rs) : AS (tCons ta tr) W W2 (r :: rs) := fun F H σ Q s k =>
  h F H σ _ s fun v F1 H1 a1 s1 e1 => hr F1 H1 σ _ s1 fun vs F2 H2 a2 s2 e2 => k (v :: vs) F2 H2 (a1.trans a2) s2 ⟨r.mono a2.f e1, e2⟩
theorem es_tup {tr : TA} {rs : List R} (h : AS tr W W1 rs) (hl : rs.length ≤ 100000 := by exact Nat.le_of_ble_eq_true rfl) : ES (tTup tr) W W1 (eT K rs) := fun F H σ Q s k =>
  h F H σ _ s fun vs F1 H1 a1 s1 e1 => ⟨by rw [e1.len]; exact Nat.le_trans hl (by decide), fun p hp => k _ _ _ (a1.trans (Rel.lay s1.ex hp)) (s1.lay hp) ⟨p, vs, rfl, .inl (.inl upd_same), e1.mono fun a o q => by
    rw [upd_ne (ne_of_none q (s1.ex.free hp))]; exact q⟩⟩
theorem not_own {F H : Hp} {σ : St} {p : Addr} (s : Sat F H σ W) (hp : H p = none) : ¬ Own W σ p := fun o => by
  obtain ⟨u, e⟩ := o.lt s
  rw [hp] at e; cases e
theorem en_lst {tr : TA} {rs : List R} (h : AS tr W W1 rs) (hl : rs.length ≤ 100000 := by exact Nat.le_of_ble_eq_true rfl) : ESN (tLst tr) W W1 (oL rs) := fun F H σ Q s k =>
  h F H σ _ s fun vs F1 H1 a1 s1 e1 => ⟨by rw [e1.len]; exact Nat.le_trans hl (by decide), fun p hp =>
    have e : Same H1 (upd H1 p (.lst vs)) := fun a o q => by rw [upd_ne (ne_of_none q hp)]; exact q
    k p (.lst vs) F1 _ (a1.trans (Rel.grow e)) (s1.grow e) (a1.t p hp) upd_same (s1.ex.free hp) (not_own s1 hp) ⟨nofun, vs, rfl, e1⟩⟩
/-- a new list, frozen -/
def eL (rs : List R) : R := ⟨fun F v => ∃ p xs, v = .ref p ∧ F p = some (.lst xs) ∧ All2 rs F xs, fun e ⟨p, xs, h1, h2, h3⟩ => ⟨p, xs, h1, e _ _ h2, h3.mono e⟩⟩
def eLs {α : Type} (e : α → R) (l : List α) : R := eL (l.map e)
/-- what is new may be frozen -/
theorem Sat.freeze {F H : Hp} {σ : St} {p : Addr} {o : HO} (s : Sat F H σ W) (hp : H p = some o) (fp : F p = none) (np : ¬ Own W σ p) : Sat (upd F p o) H σ W := by
  have e : Same F (upd F p o) := fun a u h => by rw [upd_ne (ne_of_none h fp)]; exact h
  refine ⟨fun a u h => ?_, s.len, fun i r h => ?_, fun i c h => ?_, s.ds⟩
  · by_cases q : a = p
    · subst q; rw [upd_same] at h; cases h; exact hp
    · rw [upd_ne q] at h; exact s.ex a u h
  · obtain ⟨v, h1, h2⟩ := s.fz i r h
    exact ⟨v, h1, r.mono e h2⟩
  · obtain ⟨q, u, h1, h2, h3, h4⟩ := s.ow i c h
    have ne : q ≠ p := fun z => by subst z; exact np ⟨i, c, h, h1⟩
    exact ⟨q, u, h1, h2, by rw [upd_ne ne]; exact h3, c.mono e h4⟩
theorem Rel.freeze {F H F' H' : Hp} {M M' : Addr → Prop} {p : Addr} {o : HO} (a : Rel F H M F' H' M') (h0 : H p = none ∨ M p) (fp : F' p = none) : Rel F H M (upd F' p o) H' M' where
  f := fun x u h => by
    have q := a.f x u h
    rw [upd_ne (ne_of_none q fp)]; exact q
  h := a.h
  n := fun x u h => by
    by_cases e : x = p
    · subst e; exact .inr h0
    · rw [upd_ne e] at h; exact a.n x u h
  t := a.t
  o := a.o
theorem es_fr {rs : List R} (h : ESN te W W1 (oL rs)) : ES te W W1 (eL rs) := fun F H σ Q s k =>
  h F H σ _ s fun p o F1 H1 a1 s1 hp ho fp np ⟨_, xs, e, c⟩ => by
    subst e
    exact k _ _ H1 (a1.freeze (.inl hp) fp) (s1.freeze ho fp np) ⟨p, xs, rfl, upd_same, c.mono fun a o q => by rw [upd_ne (ne_of_none q fp)]; exact q⟩
end
end Fw
end
section
set_option maxRecDepth 100000
namespace Fw
open PySem L2
abbrev Nob : Addr → Prop := fun _ => False
/-- the promise of a def that changes nothing: what comes in, when it holds, what comes out -/
def spF {ι : Type} (as : ι → List R) (ok : ι → Prop) (res : ι → R) : Sp := fun vs H Q _ => ∃ (d : ι) (F : Hp), ok d ∧ Same F H ∧ All2 (as d) F vs ∧
  ∀ v F' H', Rel F H Nob F' H' Nob → Same F' H' → (res d).p F' v → Q v H'
/-- .. that changes its first argument alone -/
def spB {ι : Type} (c : ι → List R) (as : ι → List R) (ok : ι → Prop) (c' : ι → List R) (res : ι → R) : Sp := fun vs H Q _ => ∃ (d : ι) (F : Hp) (p : Addr) (o : List V) (ws : List V), vs = .ref p :: ws ∧ ok d ∧ Same F H ∧
  H p = some (.lst o) ∧ F p = none ∧ All2 (c d) F o ∧ All2 (as d) F ws ∧
  ∀ v F' H' o', Rel F H (fun a => a = p) F' H' (fun a => a = p) → Same F' H' → H' p = some (.lst o') → F' p = none → All2 (c' d) F' o' → (res d).p F' v → Q v H'
section
variable {W W' W1 W2 W3 : List Sl} {K : PySem.W.Frag} {ta tb tc te to : TE} {t u : TT} {r ra rb : R} {x y z v : V} {a b : Bool} {ι : Type} {F H F' H' : Hp} {σ : St} {E : XK}
theorem Sat.pure (s : Sat F H σ W) (q : Rel F H Nob F' H' Nob) (e : Same F' H') : Sat F' H' σ W := by
  refine ⟨e, s.len, fun i r h => ?_, fun i c h => ?_, s.ds⟩
  · obtain ⟨v, h1, h2⟩ := s.fz i r h
    exact ⟨v, h1, r.mono q.f h2⟩
  · obtain ⟨p, o, h1, h2, h3, h4⟩ := s.ow i c h
    refine ⟨p, o, h1, q.h p o (fun z => z) h2, ?_, c.mono q.f h4⟩
    cases z : F' p with
    | none => rfl
    | some u =>
      rcases q.n p u z with k | k | k
      · rw [h3] at k; cases k
      · rw [h2] at k; cases k
      · exact k.elim
theorem Rel.pure {M : Addr → Prop} (q : Rel F H Nob F' H' Nob) : Rel F H M F' H' M :=
  ⟨q.f, fun a o _ h => q.h a o (fun z => z) h, fun a o h => (q.n a o h).imp id (Or.imp id False.elim), q.t, fun _ m => .inl m⟩
theorem es_call {as : ι → List R} {ok : ι → Prop} {res : ι → R} {tr : TA} (d : ι) (h : AS tr W W1 (as d)) (g : ok d) : ES (tCall (spF as ok res) [] E tr) W W1 (res d) := fun F H σ Q s k =>
  h F H σ _ s fun vs F1 H1 a1 s1 e1 => by
    rw [List.append_nil]
    exact ⟨d, F1, g, s1.ex, e1, fun v F2 H2 q e2 hv => k v F2 H2 (a1.trans q.pure) (s1.pure q e2) hv⟩
theorem es_callB {c c' : ι → List R} {c0 : OC} {q : Option Addr} {as : ι → List R} {ok : ι → Prop} {res : ι → R} {tr : TA} (d : ι) (i : Nat) (h0 : W[i]? = some (.ow c0)) (h : AS tr W W1 (as d)) (h1 : W1[i]? = some (.ow (oLq q (c d)))) (g : ok d) :
    ES (tCall (spB c as ok c' res) [] E (tCons (tVar i) tr)) W (W1.set i (.ow (oLq q (c' d)))) (res d) := fun F H σ Q s k => by
  obtain ⟨p, o0, e0, _⟩ := s.ow i c0 h0
  refine ⟨.ref p, e0, h F H σ _ s fun vs F1 H1 a1 s1 e1 => ?_⟩
  show spB c as ok c' res ((V.ref p :: vs) ++ []) H1 Q E
  rw [List.append_nil]
  obtain ⟨p', _, e2, g1, g2, gq, o, rfl, g3⟩ := s1.ow i _ h1
  rw [e0] at e2; cases e2
  refine ⟨d, F1, p, o, vs, rfl, g, s1.ex, g1, g2, g3, e1, fun v F2 H2 o2 q' ex hp fp hc hv => ?_⟩
  have mv : ∀ a, a ≠ p → Own W1 σ a → F2 a = none := fun a ne ow => by
    obtain ⟨j, cj, w1, w2⟩ := ow
    obtain ⟨pj, oj, z1, z2, z3, _⟩ := s1.ow j cj w1
    rw [w2] at z1; cases z1
    cases z : F2 a with
    | none => rfl
    | some u =>
      rcases q'.n a u z with y | y | y
      · rw [z3] at y; cases y
      · rw [z2] at y; cases y
      · exact (ne y).elim
  have own1 : Own W1 σ p := ⟨i, _, h1, e0⟩
  refine k v F2 H2 (a1.trans ⟨q'.f, fun a o n hh => q'.h a o (fun z => n (z ▸ own1)) hh, fun a o hh => ?_, q'.t, fun a m => .inl ((Own.mut h1).mp m)⟩) ?_ hv
  · rcases q'.n a o hh with y | y | y
    · exact .inl y
    · exact .inr (.inl y)
    · exact .inr (.inr (y ▸ own1))
  · have hi : i < W1.length := (List.getElem?_eq_some_iff.mp h1).1
    refine ⟨ex, by simpa using s1.len, fun j r hj => ?_, fun j cj hj => ?_, fun j l cj cl a w1 w2 => ?_⟩
    · by_cases ej : i = j
      · subst ej; rw [List.getElem?_set_self hi] at hj; cases hj
      · rw [List.getElem?_set_ne ej] at hj
        obtain ⟨w, y1, y2⟩ := s1.fz j r hj
        exact ⟨w, y1, r.mono q'.f y2⟩
    · by_cases ej : i = j
      · subst ej; rw [List.getElem?_set_self hi] at hj; cases hj
        exact ⟨p, .lst o2, e0, hp, fp, gq, o2, rfl, hc⟩
      · rw [List.getElem?_set_ne ej] at hj
        obtain ⟨pj, oj, z1, z2, z3, z4⟩ := s1.ow j cj hj
        have ne : pj ≠ p := fun z => by subst z; exact ej (s1.ds i j _ _ _ h1 hj e0 z1)
        exact ⟨pj, oj, z1, q'.h pj oj ne z2, mv pj ne ⟨j, cj, hj, z1⟩, cj.mono q'.f z4⟩
    · have old : ∀ (j : Nat) (e : OC), (W1.set i (.ow (oLq q (c' d))))[j]? = some (.ow e) → ∃ e', W1[j]? = some (.ow e') := fun j e h => by
        by_cases z : i = j
        · subst z; exact ⟨_, h1⟩
        · rw [List.getElem?_set_ne z] at h; exact ⟨e, h⟩
      obtain ⟨b1, y1⟩ := old j cj w1
      obtain ⟨b2, y2⟩ := old l cl w2
      exact s1.ds j l b1 b2 a y1 y2
/-! subscripts -/
theorem sqT_up {a : Addr} {xs : List V} (e : Same F F') (h : SqT K F a xs) : SqT K F' a xs := by
  cases h with
  | inl h => cases h with
    | inl h => exact .inl (.inl (e _ _ h))
    | inr h => exact .inl (.inr (h.imp fun o h => e _ _ h))
  | inr h => exact .inr h
theorem atI_k {α : Type} {xs : List α} {k : Nat} {x : α} (h : xs[k]? = some x) : atI xs (k : Int) = some x := by
  have hk : k < xs.length := (List.getElem?_eq_some_iff.mp h).1
  unfold atI ixN
  rw [if_pos (Int.natCast_nonneg k), if_pos (by omega)]
  simpa using h
theorem es_ixT {rs : List R} {k : Nat} (h : ES ta W W1 (eT K rs)) (hk : rs[k]? = some r) : ES (tOp (rIxT K) ta (tC (.int (k : Int)))) W W1 r := fun F H σ Q s q =>
  h F H σ _ s fun v F1 H1 a1 s1 ⟨p, xs, e1, e2, e3⟩ => by
    subst e1
    obtain ⟨x, g1, g2⟩ := e3.get' hk
    exact ⟨p, xs, (k : Int), x, rfl, rfl, sqT_up s1.ex e2, atI_k g1, q x F1 H1 a1 s1 g2⟩
end
end Fw
end
section
set_option maxRecDepth 100000
namespace Fw
open PySem L2
section
variable {W W' W0 W1 W2 W3 : List Sl} {K : PySem.W.Frag} {ta tb tc te to : TE} {tc' : TT} {r ra rb : R} {x y z v : V} {a b : Bool} {ι : Type} {F H F' H' : Hp} {σ : St} {E : XK} {P P1 : Post} {tt uu : TS}
/-! statements -/
theorem ss_nx (h : P.nx W) : SS tNext W P := fun F H σ D s kn _ _ _ => kn W σ F H h Rel.refl s
theorem ss_brk (h : P.bk W) : SS tBreak W P := fun F H σ D s _ _ kb _ => kb W σ F H h Rel.refl s
theorem ss_cont (h : P.ct W) : SS tCont W P := fun F H σ D s _ _ _ kc => kc W σ F H h Rel.refl s
theorem ss_never (h : False) : SS tt W P := h.elim
/-- one statement, then the rest -/
theorem ss_seq (N : List Sl → Prop) (h : SS tt W ⟨N, P.rt, P.bk, P.ct⟩) (k : ∀ W', N W' → SS uu W' P) : SS (tSeq tt uu) W P := fun F H σ D s kn kr kb kc =>
  h F H σ { D with nx := uu D } s
    (fun W1 σ1 F1 H1 n a1 s1 => k W1 n F1 H1 σ1 D s1 (fun W2 σ2 F2 H2 n2 a2 s2 => kn W2 σ2 F2 H2 n2 (a1.trans a2) s2) (fun W2 σ2 r v F2 H2 n2 a2 s2 => kr W2 σ2 r v F2 H2 n2 (a1.trans a2) s2)
      (fun W2 σ2 F2 H2 n2 a2 s2 => kb W2 σ2 F2 H2 n2 (a1.trans a2) s2) fun W2 σ2 F2 H2 n2 a2 s2 => kc W2 σ2 F2 H2 n2 (a1.trans a2) s2)
    kr kb kc
/-- .. what is forgotten between -/
theorem ss_seqTo (W1 : List Sl) (h : SS tt W ⟨fun W' => Wk W' W1, P.rt, P.bk, P.ct⟩) (k : SS uu W1 P) : SS (tSeq tt uu) W P := fun F H σ D s kn kr kb kc =>
  h F H σ { D with nx := uu D } s
    (fun W' σ1 F1 H1 n a1 s1 => k F1 H1 σ1 D (s1.weak n) (fun W2 σ2 F2 H2 n2 a2 s2 => kn W2 σ2 F2 H2 n2 ((a1.sub fun _ o => n.sub o).trans a2) s2) (fun W2 σ2 r v F2 H2 n2 a2 s2 => kr W2 σ2 r v F2 H2 n2 ((a1.sub fun _ o => n.sub o).trans a2) s2)
      (fun W2 σ2 F2 H2 n2 a2 s2 => kb W2 σ2 F2 H2 n2 ((a1.sub fun _ o => n.sub o).trans a2) s2) fun W2 σ2 F2 H2 n2 a2 s2 => kc W2 σ2 F2 H2 n2 ((a1.sub fun _ o => n.sub o).trans a2) s2)
    kr kb kc
theorem SS.weak (h : SS tt W1 P) (k : Wk W W1) : SS tt W P := fun F H σ D s kn kr kb kc =>
  h F H σ D (s.weak k) (fun W2 σ2 F2 H2 n2 a2 s2 => kn W2 σ2 F2 H2 n2 ((Rel.refl.sub fun _ o => k.sub o).trans a2) s2) (fun W2 σ2 r v F2 H2 n2 a2 s2 => kr W2 σ2 r v F2 H2 n2 ((Rel.refl.sub fun _ o => k.sub o).trans a2) s2)
    (fun W2 σ2 F2 H2 n2 a2 s2 => kb W2 σ2 F2 H2 n2 ((Rel.refl.sub fun _ o => k.sub o).trans a2) s2) fun W2 σ2 F2 H2 n2 a2 s2 => kc W2 σ2 F2 H2 n2 ((Rel.refl.sub fun _ o => k.sub o).trans a2) s2
theorem SS.imp {P' : Post} (h : SS tt W P) (n : ∀ W', P.nx W' → P'.nx W') (q : ∀ W' r, P.rt W' r → P'.rt W' r) (bk : ∀ W', P.bk W' → P'.bk W') (ct : ∀ W', P.ct W' → P'.ct W') : SS tt W P' := fun F H σ D s kn kr kb kc =>
  h F H σ D s (fun W' σ' F' H' z => kn W' σ' F' H' (n _ z)) (fun W' σ' r v F' H' z => kr W' σ' r v F' H' (q _ _ z)) (fun W' σ' F' H' z => kb W' σ' F' H' (bk _ z)) fun W' σ' F' H' z => kc W' σ' F' H' (ct _ z)
/-- x = e -/
theorem ss_set {i : Nat} (h : ES te W W1 r) (k : P.nx (W1.set i (.fz r))) : SS (tAsg te (gName i)) W P := fun F H σ D s kn _ _ _ =>
  h F H σ _ s fun v F1 H1 a1 s1 e1 => kn _ _ F1 H1 k (a1.sub fun _ o => o.put) (s1.put e1)
/-- x = e, e new: x owns it -/
theorem ss_own {i : Nat} {c : OC} (h : ESN te W W1 c) (k : P.nx (W1.set i (.ow c))) : SS (tAsg te (gName i)) W P := fun F H σ D s kn _ _ _ =>
  h F H σ _ s fun p o F1 H1 a1 s1 hp ho fp np hc => kn _ _ F1 H1 k
    ⟨a1.f, a1.h, a1.n, a1.t, fun a m => (Own.own m).elim (a1.o a) fun z => .inr (z ▸ hp)⟩ (s1.own ho fp np hc)
theorem ss_ret (h : ES te W W1 r) (k : P.rt W1 r) : SS (tRet te) W P := fun F H σ D s _ kr _ _ =>
  h F H σ _ s fun v F1 H1 a1 s1 e1 => kr W1 σ r v F1 H1 k a1 s1 e1
theorem ss_drop (h : ES te W W1 r) (k : P.nx W1) : SS (tDrop te) W P := fun F H σ D s kn _ _ _ =>
  h F H σ _ s fun v F1 H1 a1 s1 e1 => kn W1 σ F1 H1 k a1 s1
theorem ss_if (h : ET tc' W W1 a) (h1 : a = true → SS tt W1 P) (h2 : a = false → SS uu W1 P) : SS (tIfS tc' tt uu) W P := fun F H σ D s kn kr kb kc =>
  h F H σ _ s fun F1 H1 a1 s1 => by
    cases a with
    | true =>
      rw [if_pos rfl]
      exact h1 rfl F1 H1 σ D s1 (fun W2 σ2 F2 H2 n2 a2 s2 => kn W2 σ2 F2 H2 n2 (a1.trans a2) s2) (fun W2 σ2 r v F2 H2 n2 a2 s2 => kr W2 σ2 r v F2 H2 n2 (a1.trans a2) s2)
        (fun W2 σ2 F2 H2 n2 a2 s2 => kb W2 σ2 F2 H2 n2 (a1.trans a2) s2) fun W2 σ2 F2 H2 n2 a2 s2 => kc W2 σ2 F2 H2 n2 (a1.trans a2) s2
    | false =>
      rw [if_neg Bool.false_ne_true]
      exact h2 rfl F1 H1 σ D s1 (fun W2 σ2 F2 H2 n2 a2 s2 => kn W2 σ2 F2 H2 n2 (a1.trans a2) s2) (fun W2 σ2 r v F2 H2 n2 a2 s2 => kr W2 σ2 r v F2 H2 n2 (a1.trans a2) s2)
        (fun W2 σ2 F2 H2 n2 a2 s2 => kb W2 σ2 F2 H2 n2 (a1.trans a2) s2) fun W2 σ2 F2 H2 n2 a2 s2 => kc W2 σ2 F2 H2 n2 (a1.trans a2) s2
/-- targets: from a frozen value, the slots behind; is: the slots that are stored -/
def GS (g : TG) (r : R) (W W' : List Sl) (is : List Nat) : Prop := ∀ (F H : Hp) (σ : St) (v : V) (Q : St → Hp → Prop), Sat F H σ W → r.p F v →
  (∀ σ', (∀ a, Own W' σ' a → Own W σ a) → Sat F H σ' W' → (σ'.length = σ.length ∧ ∀ j, j ∉ is → σ'[j]? = σ[j]?) → Q σ' H) → g v σ H Q
theorem gs_name (i : Nat) : GS (gName i) r W (W.set i (.fz r)) [i] := fun F H σ v Q s hv k => k _ (fun _ o => o.put) (s.put hv) ⟨by simp, fun j hj => by
  rw [List.getElem?_set_ne (by simpa [eq_comm] using hj)]⟩
/-- several targets -/
def GSs (g : TGs) (rs : List R) (W W' : List Sl) (is : List Nat) : Prop := ∀ (F H : Hp) (σ : St) (vs : List V) (Q : St → Hp → Prop), Sat F H σ W → All2 rs F vs →
  (∀ σ', (∀ a, Own W' σ' a → Own W σ a) → Sat F H σ' W' → (σ'.length = σ.length ∧ ∀ j, j ∉ is → σ'[j]? = σ[j]?) → Q σ' H) → g vs σ H Q
theorem gs_nil : GSs gNil [] W W [] := fun F H σ vs Q s hv k => by
  cases vs with
  | nil => exact ⟨rfl, k σ (fun _ o => o) s ⟨rfl, fun _ _ => rfl⟩⟩
  | cons v vs => exact hv.elim
theorem gs_cons {g : TG} {gs : TGs} {rs : List R} {is js : List Nat} (h1 : GS g r W W1 is) (h2 : GSs gs rs W1 W2 js) : GSs (gCons g gs) (r :: rs) W W2 (is ++ js) := fun F H σ vs Q s hv k => by
  cases vs with
  | nil => exact hv.elim
  | cons v vs => exact ⟨v, vs, rfl, h1 F H σ v _ s hv.1 fun σ1 o1 s1 d1 => h2 F H σ1 vs Q s1 hv.2 fun σ2 o2 s2 d2 => k σ2 (fun a o => o1 a (o2 a o)) s2 ⟨d2.1.trans d1.1, fun j hj => by
      rw [d2.2 j (fun z => hj (List.mem_append_right _ z)), d1.2 j (fun z => hj (List.mem_append_left _ z))]⟩⟩
theorem gs_tup {gs : TGs} {rs : List R} {n : Nat} {is : List Nat} (h : GSs gs rs W W1 is) (hn : rs.length = n := by rfl) : GS (gTup K n gs) (eT K rs) W W1 is := fun F H σ v Q s ⟨p, xs, e1, e2, e3⟩ k =>
  ⟨p, xs, e1, sqT_up s.ex e2, e3.len.trans hn, h F H σ xs Q s e3 k⟩
theorem ss_asg {g : TG} {is : List Nat} (h : ES te W W1 r) (hg : GS g r W1 W2 is) (k : P.nx W2) : SS (tAsg te g) W P := fun F H σ D s kn _ _ _ =>
  h F H σ _ s fun v F1 H1 a1 s1 e1 => hg F1 H1 σ v _ s1 e1 fun σ2 o2 s2 _ => kn W2 σ2 F1 H1 k (a1.sub o2) s2
/-- a, b = e1, e2 -/
theorem ss_par {i j : Nat} {tr : TA} (h : AS tr W W1 [ra, rb]) (k : P.nx ((W1.set i (.fz ra)).set j (.fz rb))) : SS (tPar i j tr) W P := fun F H σ D s kn _ _ _ =>
  h F H σ _ s fun vs F1 H1 a1 s1 e1 => by
    match vs, e1 with
    | [v, w], e1 => exact ⟨v, w, rfl, kn _ _ F1 H1 k (a1.sub fun _ o => (o.put).put) ((s1.put e1.1).put e1.2.1)⟩
    | [], e1 => exact e1.elim
    | [_], e1 => exact e1.2.elim
    | _ :: _ :: _ :: _, e1 => exact e1.2.2.elim
/-- x += e, x -= e -/
theorem ss_aug {i : Nat} {f : Int → Int → Int} {m n : Int} (h0 : W[i]? = some (.fz (eI m))) (h : ES te W W1 (eI n)) (k : P.nx (W1.set i (.fz (eI (f m n))))) : SS (tAug i te (ipI f)) W P := fun F H σ D s kn _ _ _ => by
  obtain ⟨v, e, hv⟩ := s.fz i _ h0
  have hv' : v = V.int m := hv
  subst hv'
  refine ⟨_, e, h F H σ _ s fun w F1 H1 a1 s1 e1 => ?_⟩
  have e1' : w = V.int n := e1
  subst e1'
  exact ⟨m, n, rfl, rfl, kn _ _ F1 H1 k (a1.sub fun _ o => o.put) (s1.put rfl)⟩
/-- xs.append(e) as a statement, xs owned -/
theorem ss_append {i : Nat} {rs0 rs : List R} {q0 q1 : Option Addr} (h0 : W[i]? = some (.ow (oLq q0 rs0))) (h : ES te W W1 r) (h1 : W1[i]? = some (.ow (oLq q1 rs))) (hl : rs.length < 16000000) (k : P.nx (W1.set i (.ow (oLq q1 (rs ++ [r]))))) :
    SS (tDrop (tBM K "list" rAppend (tVar i) (tCons te tNil))) W P := fun F H σ D s kn _ _ _ => by
  obtain ⟨p, o, e0, g1, _, ⟨_, xs, rfl, _⟩⟩ := s.ow i _ h0
  refine ⟨.ref p, e0, .inl ⟨rfl, xs, .inl (.inl g1)⟩, h F H σ _ s fun v F1 H1 a1 s1 e1 => ?_⟩
  obtain ⟨p', o', e0', y1, y2, ⟨yq, ys, rfl, y3⟩⟩ := s1.ow i _ h1
  rw [e0] at e0'; cases e0'
  refine ⟨p, ys, v, rfl, rfl, y1, Nat.lt_of_lt_of_le (by rw [y3.len]; exact hl) (by decide), kn _ _ _ _ k (a1.trans ⟨fun _ _ z => z, fun a u n z => ?_, fun _ _ z => .inl z, fun a z => ?_, fun a m => .inl ((Own.mut h1).mp m)⟩) (s1.mut h1 e0 ⟨yq, _, rfl, y3.app ⟨e1, trivial⟩⟩)⟩
  · rw [upd_ne (fun q : a = p => n (by rw [q]; exact ⟨i, _, h1, e0⟩))]; exact z
  · by_cases q : a = p
    · subst q; rw [upd_same] at z; cases z
    · rw [upd_ne q] at z; exact z
/-- xs[-1] = e, xs owned and not empty -/
theorem ss_setlast {i : Nat} {rs : List R} {q1 : Option Addr} (h : ES te W W1 r) (h1 : W1[i]? = some (.ow (oLq q1 rs))) (hl : rs ≠ []) (k : P.nx (W1.set i (.ow (oLq q1 (rs.set (rs.length - 1) r))))) :
    SS (tAsg te (gSub (tVar i) (tUn (rU fun i => .int (-i)) (tC (.int 1))) rSetL)) W P := fun F H σ D s kn _ _ _ =>
  h F H σ _ s fun v F1 H1 a1 s1 e1 => by
    obtain ⟨p, o, e0, y1, y2, ⟨yq, ys, rfl, y3⟩⟩ := s1.ow i _ h1
    have pos : 0 < rs.length := List.length_pos_iff.mpr hl
    have el := y3.len
    refine ⟨.ref p, e0, 1, rfl, p, ys, -1, rs.length - 1, rfl, rfl, y1, ?_, kn _ _ _ _ k (a1.trans ⟨fun _ _ z => z, fun a u n z => ?_, fun _ _ z => .inl z, fun a z => ?_, fun a m => .inl ((Own.mut h1).mp m)⟩) (s1.mut h1 e0 ⟨yq, _, rfl, y3.set e1 _⟩)⟩
    · unfold ixN
      rw [if_neg (by omega), if_pos (by omega)]
      congr 1
      omega
    · rw [upd_ne (fun q : a = p => n (by rw [q]; exact ⟨i, _, h1, e0⟩))]; exact z
    · by_cases q : a = p
      · subst q; rw [upd_same] at z; cases z
      · rw [upd_ne q] at z; exact z
/-! loops -/
theorem ss_forL {g : TG} {tb : TS} {tl : TE} {rs : List R} (I : Nat → List Sl → Prop) (h : ES tl W W1 (eL rs)) (h0 : I 0 W1)
    (hs : ∀ i r W', rs[i]? = some r → I i W' → ∃ W2 is, GS g r W' W2 is ∧ SS tb W2 ⟨I (i + 1), P.rt, P.nx, I (i + 1)⟩) (hd : ∀ W', I rs.length W' → P.nx W') : SS (tFor (iList K tl) g tb) W P := fun F H σ D s kn kr kb kc =>
  h F H σ _ s fun v F1 H1 a1 s1 ⟨p, xs, e1, e2, e3⟩ => by
    refine ⟨p, e1, ⟨xs, .inl (.inl (s1.ex _ _ e2))⟩, for_list (xs := xs) (fun i σ' H' => ∃ W' F', I i W' ∧ Rel F1 H1 (Own W1 σ) F' H' (Own W' σ') ∧ Sat F' H' σ' W') ⟨W1, F1, h0, Rel.refl, s1⟩
      (fun i σ' H' _ ⟨W', F', _, q, s'⟩ => .inl (.inl (s'.ex _ _ (q.f _ _ e2)))) ?_ ?_⟩
    · rintro i x σ' H' hx ⟨W', F', hi, q, s'⟩
      obtain ⟨r, hr, rx⟩ := e3.get hx
      obtain ⟨W2, is, hg, hb⟩ := hs i r W' hr hi
      refine hg F' H' σ' x _ s' (r.mono q.f rx) fun σ2 o2 s2 _ => hb F' H' σ2 _ s2 ?_ ?_ ?_ ?_
      · exact fun W3 σ3 F3 H3 n3 a3 s3 => ⟨W3, F3, n3, (q.sub o2).trans a3, s3⟩
      · exact fun W3 σ3 r3 v3 F3 H3 n3 a3 s3 y3 => kr W3 σ3 r3 v3 F3 H3 n3 (a1.trans ((q.sub o2).trans a3)) s3 y3
      · exact fun W3 σ3 F3 H3 n3 a3 s3 => kn W3 σ3 F3 H3 n3 (a1.trans ((q.sub o2).trans a3)) s3
      · exact fun W3 σ3 F3 H3 n3 a3 s3 => ⟨W3, F3, n3, (q.sub o2).trans a3, s3⟩
    · rintro σ' H' ⟨W', F', hi, q, s'⟩
      rw [e3.len] at hi
      exact kn W' σ' F' H' (hd W' hi) (a1.trans q) s'
theorem ss_forT {g : TG} {tb : TS} {tl : TE} {rs : List R} (I : Nat → List Sl → Prop) (h : ES tl W W1 (eT K rs)) (h0 : I 0 W1)
    (hs : ∀ i r W', rs[i]? = some r → I i W' → ∃ W2 is, GS g r W' W2 is ∧ SS tb W2 ⟨I (i + 1), P.rt, P.nx, I (i + 1)⟩) (hd : ∀ W', I rs.length W' → P.nx W') : SS (tFor (iTup K tl) g tb) W P := fun F H σ D s kn kr kb kc =>
  h F H σ _ s fun v F1 H1 a1 s1 ⟨p, xs, e1, e2, e3⟩ => by
    refine ⟨p, e1, ⟨xs, sqT_up s1.ex e2⟩, for_tup (xs := xs) (fun i σ' H' => ∃ W' F', I i W' ∧ Rel F1 H1 (Own W1 σ) F' H' (Own W' σ') ∧ Sat F' H' σ' W') ⟨W1, F1, h0, Rel.refl, s1⟩
      (fun i σ' H' _ ⟨W', F', _, q, s'⟩ => sqT_up s'.ex (sqT_up q.f e2)) ?_ ?_⟩
    · rintro i x σ' H' hx ⟨W', F', hi, q, s'⟩
      obtain ⟨r, hr, rx⟩ := e3.get hx
      obtain ⟨W2, is, hg, hb⟩ := hs i r W' hr hi
      refine hg F' H' σ' x _ s' (r.mono q.f rx) fun σ2 o2 s2 _ => hb F' H' σ2 _ s2 ?_ ?_ ?_ ?_
      · exact fun W3 σ3 F3 H3 n3 a3 s3 => ⟨W3, F3, n3, (q.sub o2).trans a3, s3⟩
      · exact fun W3 σ3 r3 v3 F3 H3 n3 a3 s3 y3 => kr W3 σ3 r3 v3 F3 H3 n3 (a1.trans ((q.sub o2).trans a3)) s3 y3
      · exact fun W3 σ3 F3 H3 n3 a3 s3 => kn W3 σ3 F3 H3 n3 (a1.trans ((q.sub o2).trans a3)) s3
      · exact fun W3 σ3 F3 H3 n3 a3 s3 => ⟨W3, F3, n3, (q.sub o2).trans a3, s3⟩
    · rintro σ' H' ⟨W', F', hi, q, s'⟩
      rw [e3.len] at hi
      exact kn W' σ' F' H' (hd W' hi) (a1.trans q) s'
/-- over range(lo, hi): its walk -/
theorem ss_rng {g : TG} {tb : TS} {D : Ends} {F1 H1 : Hp} {lo : Int} {n : Nat} (I : Nat → List Sl → Prop) (s1 : Sat F1 H1 σ W1) (h0 : I 0 W1)
    (hs : ∀ i W', i < n → I i W' → ∃ W2 is, GS g (eI (lo + i)) W' W2 is ∧ SS tb W2 ⟨I (i + 1), P.rt, P.nx, I (i + 1)⟩) (hd : ∀ W', I n W' → P.nx W')
    (kn : ∀ W' σ' F' H', P.nx W' → Rel F1 H1 (Own W1 σ) F' H' (Own W' σ') → Sat F' H' σ' W' → D.nx σ' H')
    (kr : ∀ W' σ' r v F' H', P.rt W' r → Rel F1 H1 (Own W1 σ) F' H' (Own W' σ') → Sat F' H' σ' W' → r.p F' v → D.rt v H') :
    ∃ W : Nat → Nat → St → Hp → Prop, (∃ m, W 0 m σ H1) ∧ ∀ i m σ H, W i m σ H →
      ((Itr lo n).stop i H ∧ D.nx σ H) ∨ ((Itr lo n).go i H ∧ ∃ N : St → Hp → Prop, (∀ σ' H', N σ' H' → ∃ m', m' < m ∧ W (i + 1) m' σ' H') ∧ ∀ x H', (Itr lo n).yld i H x H' → g x σ H' fun σ2 H2 => tb { D with nx := N, ct := N, bk := D.nx } σ2 H2) := by
  refine for_range (fun i σ' H' => ∃ W' F', I i W' ∧ Rel F1 H1 (Own W1 σ) F' H' (Own W' σ') ∧ Sat F' H' σ' W') ⟨W1, F1, h0, Rel.refl, s1⟩ ?_ ?_
  · rintro i σ' H' hi ⟨W', F', hI, q, s'⟩
    obtain ⟨W2, is, hg, hb⟩ := hs i W' hi hI
    refine hg F' H' σ' _ _ s' rfl fun σ2 o2 s2 _ => hb F' H' σ2 _ s2 ?_ ?_ ?_ ?_
    · exact fun W3 σ3 F3 H3 n3 a3 s3 => ⟨W3, F3, n3, (q.sub o2).trans a3, s3⟩
    · exact fun W3 σ3 r3 v3 F3 H3 n3 a3 s3 y3 => kr W3 σ3 r3 v3 F3 H3 n3 ((q.sub o2).trans a3) s3 y3
    · exact fun W3 σ3 F3 H3 n3 a3 s3 => kn W3 σ3 F3 H3 n3 ((q.sub o2).trans a3) s3
    · exact fun W3 σ3 F3 H3 n3 a3 s3 => ⟨W3, F3, n3, (q.sub o2).trans a3, s3⟩
  · rintro σ' H' ⟨W', F', hi, q, s'⟩
    exact kn W' σ' F' H' (hd W' hi) q s'
theorem ss_forR1 {g : TG} {tb : TS} {tr : TA} {n : Int} (I : Nat → List Sl → Prop) (h : AS tr W W1 [eI n]) (hn : n < 2 ^ 62) (hn' : -(2 ^ 62) ≤ n) (h0 : I 0 W1)
    (hs : ∀ i W', i < n.toNat → I i W' → ∃ W2 is, GS g (eI (0 + (i : Int))) W' W2 is ∧ SS tb W2 ⟨I (i + 1), P.rt, P.nx, I (i + 1)⟩) (hd : ∀ W', I n.toNat W' → P.nx W') : SS (tFor (iRng1 tr) g tb) W P := fun F H σ D s kn kr kb kc =>
  h F H σ _ s fun vs F1 H1 a1 s1 e1 => by
    match vs, e1 with
    | [v], e1 =>
      have e : v = V.int n := e1.1
      subst e
      exact ⟨n, rfl, hn', hn, ss_rng I s1 h0 hs hd (fun W' σ' F' H' z q => kn W' σ' F' H' z (a1.trans q)) fun W' σ' r v F' H' z q => kr W' σ' r v F' H' z (a1.trans q)⟩
    | [], e1 => exact e1.elim
    | _ :: _ :: _, e1 => exact e1.2.elim
theorem ss_forR2 {g : TG} {tb : TS} {tr : TA} {lo n : Int} (I : Nat → List Sl → Prop) (h : AS tr W W1 [eI lo, eI n]) (hn : -(2 ^ 62) ≤ lo ∧ lo < 2 ^ 62 ∧ -(2 ^ 62) ≤ n ∧ n < 2 ^ 62) (h0 : I 0 W1)
    (hs : ∀ i W', i < (n - lo).toNat → I i W' → ∃ W2 is, GS g (eI (lo + (i : Int))) W' W2 is ∧ SS tb W2 ⟨I (i + 1), P.rt, P.nx, I (i + 1)⟩) (hd : ∀ W', I (n - lo).toNat W' → P.nx W') : SS (tFor (iRng2 tr) g tb) W P := fun F H σ D s kn kr kb kc =>
  h F H σ _ s fun vs F1 H1 a1 s1 e1 => by
    match vs, e1 with
    | [v, w], e1 =>
      have e : v = V.int lo := e1.1
      have e' : w = V.int n := e1.2.1
      subst e e'
      exact ⟨lo, n, rfl, hn, ss_rng I s1 h0 hs hd (fun W' σ' F' H' z q => kn W' σ' F' H' z (a1.trans q)) fun W' σ' r v F' H' z q => kr W' σ' r v F' H' z (a1.trans q)⟩
    | [], e1 => exact e1.elim
    | [_], e1 => exact e1.2.elim
    | _ :: _ :: _ :: _, e1 => exact e1.2.2.elim
end
end Fw
end
section
set_option maxRecDepth 100000
namespace Fw
open PySem L2
/-! folds: how a loop's data goes -/
def okF {α β : Type} (ok : β → α → Prop) (b : β → α → β) : β → List α → Prop
  | _, [] => True
  | s, x :: xs => ok s x ∧ okF ok b (b s x) xs
theorem okF_at {α β : Type} {ok : β → α → Prop} {b : β → α → β} : ∀ {l : List α} {s : β} {i : Nat} {x : α}, okF ok b s l → l[i]? = some x → ok ((l.take i).foldl b s) x
  | y :: ys, s, 0, x, h, e => by simp at e; subst e; exact h.1
  | y :: ys, s, i + 1, x, h, e => okF_at (l := ys) (s := b s y) (i := i) h.2 (by simpa using e)
  | [], _, _, _, _, e => by simp at e
theorem foldl_take {α β : Type} {b : β → α → β} : ∀ {l : List α} {s : β} {i : Nat} {x : α}, l[i]? = some x → (l.take (i + 1)).foldl b s = b ((l.take i).foldl b s) x
  | y :: ys, s, 0, x, e => by simp at e; subst e; simp
  | y :: ys, s, i + 1, x, e => foldl_take (l := ys) (s := b s y) (i := i) (by simpa using e)
  | [], _, _, _, e => by simp at e
@[irreducible] def rng (lo hi : Int) : List Int := (List.range (hi - lo).toNat).map fun k : Nat => lo + (k : Int)
theorem rng_at {lo hi : Int} {i : Nat} (h : i < (hi - lo).toNat) : (rng lo hi)[i]? = some (lo + (i : Int)) := by
  unfold rng
  rw [List.getElem?_map, List.getElem?_range h]; rfl
theorem rng_len {lo hi : Int} : (rng lo hi).length = (hi - lo).toNat := by unfold rng; simp
section
variable {W W' W0 W1 W2 W3 : List Sl} {K : PySem.W.Frag} {ta tb tc te to tl : TE} {tc' tt : TT} {r ra rb : R} {x y z v : V} {a b : Bool} {ι : Type} {F H F' H' : Hp} {σ : St} {E : XK} {P P1 : Post} {ts uu : TS} {g : TG}
variable {α β : Type}
/-- for x in l, the data fold -/
theorem sf_L {e : α → R} {l : List α} (mk : β → List Sl) (bd : β → α → β) (ok : β → α → Prop) (s0 : β) (h : ES tl W W1 (eLs e l)) (w : Wk W1 (mk s0)) (hg : okF ok bd s0 l)
    (hs : ∀ s x, x ∈ l → ok s x → ∃ W2 is, GS g (e x) (mk s) W2 is ∧ SS ts W2 ⟨fun W' => Wk W' (mk (bd s x)), P.rt, fun _ => False, fun W' => Wk W' (mk (bd s x))⟩) (hd : ∀ W', Wk W' (mk (l.foldl bd s0)) → P.nx W') : SS (tFor (iList K tl) g ts) W P := by
  refine ss_forL (K := K) (fun i W' => Wk W' (mk ((l.take i).foldl bd s0))) h (by simpa using w) (fun i r W' hr hi => ?_) fun W' hw => hd W' (by rw [List.length_map, List.take_length] at hw; exact hw)
  rw [List.getElem?_map] at hr
  cases q : l[i]? with
  | none => rw [q] at hr; cases hr
  | some x =>
    rw [q] at hr
    have er : e x = r := Option.some.inj hr
    subst er
    obtain ⟨W2, is, h1, h2⟩ := hs _ x (List.mem_of_getElem? q) (okF_at hg q)
    rw [foldl_take q]
    refine ⟨W2, is, fun F H σ v Q s hv k => h1 F H σ v Q (s.weak hi) hv fun σ' o s' d => k σ' (fun a z => hi.sub (o a z)) s' d, ?_⟩
    exact h2.imp (fun _ z => z) (fun _ _ z => z) (fun _ z => z.elim) fun _ z => z
theorem sf_T {e : α → R} {l : List α} (mk : β → List Sl) (bd : β → α → β) (ok : β → α → Prop) (s0 : β) (h : ES tl W W1 (eT K (l.map e))) (w : Wk W1 (mk s0)) (hg : okF ok bd s0 l)
    (hs : ∀ s x, x ∈ l → ok s x → ∃ W2 is, GS g (e x) (mk s) W2 is ∧ SS ts W2 ⟨fun W' => Wk W' (mk (bd s x)), P.rt, fun _ => False, fun W' => Wk W' (mk (bd s x))⟩) (hd : ∀ W', Wk W' (mk (l.foldl bd s0)) → P.nx W') : SS (tFor (iTup K tl) g ts) W P := by
  refine ss_forT (K := K) (fun i W' => Wk W' (mk ((l.take i).foldl bd s0))) h (by simpa using w) (fun i r W' hr hi => ?_) fun W' hw => hd W' (by rw [List.length_map, List.take_length] at hw; exact hw)
  rw [List.getElem?_map] at hr
  cases q : l[i]? with
  | none => rw [q] at hr; cases hr
  | some x =>
    rw [q] at hr
    have er : e x = r := Option.some.inj hr
    subst er
    obtain ⟨W2, is, h1, h2⟩ := hs _ x (List.mem_of_getElem? q) (okF_at hg q)
    rw [foldl_take q]
    refine ⟨W2, is, fun F H σ v Q s hv k => h1 F H σ v Q (s.weak hi) hv fun σ' o s' d => k σ' (fun a z => hi.sub (o a z)) s' d, ?_⟩
    exact h2.imp (fun _ z => z) (fun _ _ z => z) (fun _ z => z.elim) fun _ z => z
theorem sf_R2 {tr : TA} {lo n : Int} (mk : β → List Sl) (bd : β → Int → β) (ok : β → Int → Prop) (s0 : β) (h : AS tr W W1 [eI lo, eI n]) (hn : -(2 ^ 62) ≤ lo ∧ lo < 2 ^ 62 ∧ -(2 ^ 62) ≤ n ∧ n < 2 ^ 62) (w : Wk W1 (mk s0)) (hg : okF ok bd s0 (rng lo n))
    (hs : ∀ s x, lo ≤ x → x < n → ok s x → ∃ W2 is, GS g (eI x) (mk s) W2 is ∧ SS ts W2 ⟨fun W' => Wk W' (mk (bd s x)), P.rt, fun _ => False, fun W' => Wk W' (mk (bd s x))⟩) (hd : ∀ W', Wk W' (mk ((rng lo n).foldl bd s0)) → P.nx W') : SS (tFor (iRng2 tr) g ts) W P := by
  refine ss_forR2 (fun i W' => Wk W' (mk (((rng lo n).take i).foldl bd s0))) h hn (by simpa using w) (fun i W' hr hi => ?_) fun W' hw => hd W' (by rw [← rng_len (lo := lo), List.take_length] at hw; exact hw)
  have q := rng_at hr
  obtain ⟨W2, is, h1, h2⟩ := hs _ _ (by omega) (by omega) (okF_at hg q)
  rw [foldl_take q]
  refine ⟨W2, is, fun F H σ v Q s hv k => h1 F H σ v Q (s.weak hi) hv fun σ' o s' d => k σ' (fun a z => hi.sub (o a z)) s' d, ?_⟩
  exact h2.imp (fun _ z => z) (fun _ _ z => z) (fun _ z => z.elim) fun _ z => z
theorem sf_R1 {tr : TA} {n : Int} (mk : β → List Sl) (bd : β → Int → β) (ok : β → Int → Prop) (s0 : β) (h : AS tr W W1 [eI n]) (hn : -(2 ^ 62) ≤ n ∧ n < 2 ^ 62) (w : Wk W1 (mk s0)) (hg : okF ok bd s0 (rng 0 n))
    (hs : ∀ s x, 0 ≤ x → x < n → ok s x → ∃ W2 is, GS g (eI x) (mk s) W2 is ∧ SS ts W2 ⟨fun W' => Wk W' (mk (bd s x)), P.rt, fun _ => False, fun W' => Wk W' (mk (bd s x))⟩) (hd : ∀ W', Wk W' (mk ((rng 0 n).foldl bd s0)) → P.nx W') : SS (tFor (iRng1 tr) g ts) W P := by
  have en : (n - 0).toNat = n.toNat := by omega
  refine ss_forR1 (fun i W' => Wk W' (mk (((rng 0 n).take i).foldl bd s0))) h hn.2 hn.1 (by simpa using w) (fun i W' hr hi => ?_) fun W' hw => hd W' (by rw [← en, ← rng_len (lo := 0), List.take_length] at hw; exact hw)
  have q : (rng 0 n)[i]? = some (0 + (i : Int)) := rng_at (by rw [en]; exact hr)
  obtain ⟨W2, is, h1, h2⟩ := hs _ _ (by omega) (by omega) (okF_at hg q)
  rw [foldl_take q]
  refine ⟨W2, is, fun F H σ v Q s hv k => h1 F H σ v Q (s.weak hi) hv fun σ' o s' d => k σ' (fun a z => hi.sub (o a z)) s' d, ?_⟩
  exact h2.imp (fun _ z => z) (fun _ _ z => z) (fun _ z => z.elim) fun _ z => z
/-! while -/
def wRun (c : β → Bool) (bd : β → β) : Nat → β → β
  | 0, s => s
  | n + 1, s => if c s = true then wRun c bd n (bd s) else s
def wOk (c : β → Bool) (bd : β → β) (okc okb : β → Prop) : Nat → β → Prop
  | 0, s => okc s ∧ c s = false
  | n + 1, s => okc s ∧ (c s = true → okb s ∧ wOk c bd okc okb n (bd s))
theorem sf_while (mk : β → List Sl) (c : β → Bool) (bd : β → β) (okc okb : β → Prop) (n : Nat) (s0 : β) (w : Wk W (mk s0)) (hg : wOk c bd okc okb n s0)
    (hc : ∀ s, okc s → ET tc' (mk s) (mk s) (c s)) (hs : ∀ s, c s = true → okb s → SS ts (mk s) ⟨fun W' => Wk W' (mk (bd s)), P.rt, fun _ => False, fun W' => Wk W' (mk (bd s))⟩)
    (hd : ∀ W', Wk W' (mk (wRun c bd n s0)) → P.nx W') : SS (tWhile tc' ts) W P := fun F H σ D s kn kr kb kc => by
  refine ⟨fun m σ' H' => ∃ t W' F', wOk c bd okc okb m t ∧ wRun c bd m t = wRun c bd n s0 ∧ Wk W' (mk t) ∧ Rel F H (Own W σ) F' H' (Own W' σ') ∧ Sat F' H' σ' W', ⟨n, s0, W, F, hg, rfl, w, Rel.refl, s⟩, ?_⟩
  rintro m σ' H' ⟨t, W', F', g1, g2, g3, g4, g5⟩
  have okc' : okc t := by cases m with
    | zero => exact g1.1
    | succ m => exact g1.1
  refine hc t okc' F' H' σ' _ (g5.weak g3) fun F1 H1 a1 s1 => ?_
  have a1' : Rel F H (Own W σ) F1 H1 (Own (mk t) σ') := (g4.sub fun _ o => g3.sub o).trans a1
  cases q : c t with
  | true =>
    rw [if_pos rfl]
    cases m with
    | zero => rw [g1.2] at q; cases q
    | succ m =>
      obtain ⟨y1, y2⟩ := g1.2 q
      have er : wRun c bd m (bd t) = wRun c bd n s0 := by rw [← g2]; show _ = if c t = true then _ else _; rw [if_pos q]
      refine ⟨fun σ2 H2 => ∃ t W' F', wOk c bd okc okb m t ∧ wRun c bd m t = wRun c bd n s0 ∧ Wk W' (mk t) ∧ Rel F H (Own W σ) F' H2 (Own W' σ2) ∧ Sat F' H2 σ2 W', fun σ2 H2 z => ⟨m, Nat.lt_succ_self m, z⟩, ?_⟩
      refine hs t q y1 F1 H1 σ' _ s1 (fun W2 σ2 F2 H2 n2 a2 s2 => ⟨_, W2, F2, y2, er, n2, a1'.trans a2, s2⟩) (fun W2 σ2 r v F2 H2 n2 a2 s2 => kr W2 σ2 r v F2 H2 n2 (a1'.trans a2) s2) (fun _ _ _ _ z => z.elim)
        fun W2 σ2 F2 H2 n2 a2 s2 => ⟨_, W2, F2, y2, er, n2, a1'.trans a2, s2⟩
  | false =>
    rw [if_neg Bool.false_ne_true]
    have er : t = wRun c bd n s0 := by
      rw [← g2]
      cases m with
      | zero => rfl
      | succ m => show t = if c t = true then _ else _; rw [if_neg (by rw [q]; exact Bool.false_ne_true)]
    exact kn (mk t) σ' F1 H1 (hd _ (by rw [← er]; exact Wk.refl)) a1' s1
end
end Fw
end
section
set_option maxRecDepth 100000
namespace Fw
open PySem L2
/-! comprehensions -/
theorem wipe_in {σ : St} {i : Nat} : ∀ {vs : List Nat}, i ∈ vs → (wipe σ vs)[i]? = if i < σ.length then some none else none
  | v :: vs, h => by
    show ((wipe σ vs).set v none)[i]? = _
    have el : (wipe σ vs).length = σ.length := wipe_length σ vs
    by_cases e : v = i
    · subst e
      by_cases hl : v < σ.length
      · rw [List.getElem?_set_self (by rw [el]; exact hl), if_pos hl]
      · rw [List.getElem?_eq_none (by rw [List.length_set, el]; omega), if_neg hl]
    · rw [List.getElem?_set_ne e]
      exact wipe_in ((List.mem_cons.mp h).resolve_left fun z => e z.symm)
theorem wipe_out' {σ : St} {i : Nat} : ∀ {vs : List Nat}, i ∉ vs → (wipe σ vs)[i]? = σ[i]?
  | [], _ => rfl
  | v :: vs, h => by
    show ((wipe σ vs).set v none)[i]? = _
    rw [List.getElem?_set_ne (fun e => h (by rw [e]; exact List.mem_cons_self)), wipe_out' fun z => h (List.mem_cons_of_mem _ z)]
theorem wipe_eq {σ σ' : St} {vs is : List Nat} (hl : σ'.length = σ.length) (h : ∀ j, j ∉ is → σ'[j]? = (wipe σ vs)[j]?) (hs : ∀ j ∈ is, j ∈ vs) : wipe σ' vs = wipe σ vs := by
  refine List.ext_getElem? fun j => ?_
  by_cases hj : j ∈ vs
  · rw [wipe_in hj, wipe_in hj, hl]
  · rw [wipe_out' hj]
    exact h j fun z => hj (hs j z)
def wipeW : List Sl → List Nat → List Sl
  | W, [] => W
  | W, v :: vs => (wipeW W vs).set v .no
section
variable {W W' W0 W1 W2 W3 : List Sl} {K : PySem.W.Frag} {ta tb tc te to tl : TE} {tc' tt : TT} {r ra rb : R} {x y z v : V} {a b : Bool} {ι : Type} {F H F' H' : Hp} {σ : St} {E : XK} {P P1 : Post} {ts uu : TS} {g : TG}
variable {α β : Type}
theorem Sat.wipe (s : Sat F H σ W) : ∀ vs : List Nat, Sat F H (L2.wipe σ vs) (wipeW W vs) ∧ ∀ a, Own (wipeW W vs) (L2.wipe σ vs) a → Own W σ a
  | [] => ⟨s, fun _ o => o⟩
  | w :: vs => by
    obtain ⟨s1, o1⟩ := Sat.wipe s vs
    have key : ∀ (i : Nat) (c : OC), ((wipeW W vs).set w .no)[i]? = some (.ow c) → w ≠ i ∧ (wipeW W vs)[i]? = some (.ow c) := fun i c h => by
      by_cases e : w = i
      · subst e
        have hi : w < (wipeW W vs).length := by
          have := (List.getElem?_eq_some_iff.mp h).1
          simpa using this
        rw [List.getElem?_set_self hi] at h; cases h
      · rw [List.getElem?_set_ne e] at h; exact ⟨e, h⟩
    have keyf : ∀ (i : Nat) (c : R), ((wipeW W vs).set w .no)[i]? = some (.fz c) → w ≠ i ∧ (wipeW W vs)[i]? = some (.fz c) := fun i c h => by
      by_cases e : w = i
      · subst e
        have hi : w < (wipeW W vs).length := by
          have := (List.getElem?_eq_some_iff.mp h).1
          simpa using this
        rw [List.getElem?_set_self hi] at h; cases h
      · rw [List.getElem?_set_ne e] at h; exact ⟨e, h⟩
    refine ⟨⟨s1.ex, by show ((L2.wipe σ vs).set w none).length = ((wipeW W vs).set w .no).length; rw [List.length_set, List.length_set]; exact s1.len, fun i c h => ?_, fun i c h => ?_, fun i j c d p h1 h2 h3 h4 => ?_⟩, fun p ⟨i, c, h1, h2⟩ => ?_⟩
    · obtain ⟨ne, q⟩ := keyf i c h
      obtain ⟨u, y1, y2⟩ := s1.fz i c q
      exact ⟨u, by show ((L2.wipe σ vs).set w none)[i]? = _; rw [List.getElem?_set_ne ne]; exact y1, y2⟩
    · obtain ⟨ne, q⟩ := key i c h
      obtain ⟨p, o, y1, y2⟩ := s1.ow i c q
      exact ⟨p, o, by show ((L2.wipe σ vs).set w none)[i]? = _; rw [List.getElem?_set_ne ne]; exact y1, y2⟩
    · obtain ⟨ne, q⟩ := key i c h1
      obtain ⟨ne', q'⟩ := key j d h2
      have h3' : ((L2.wipe σ vs).set w none)[i]? = some (some (.ref p)) := h3
      have h4' : ((L2.wipe σ vs).set w none)[j]? = some (some (.ref p)) := h4
      rw [List.getElem?_set_ne ne] at h3'
      rw [List.getElem?_set_ne ne'] at h4'
      exact s1.ds i j c d p q q' h3' h4'
    · obtain ⟨ne, q⟩ := key i c h1
      have h2' : ((L2.wipe σ vs).set w none)[i]? = some (some (.ref p)) := h2
      rw [List.getElem?_set_ne ne] at h2'
      exact o1 p ⟨i, c, q, h2'⟩
/-- the frozen slots alone -/
def frW : List Sl → List Sl
  | [] => []
  | .ow _ :: W => .no :: frW W
  | .fz r :: W => .fz r :: frW W
  | .no :: W => .no :: frW W
theorem frW_at : ∀ {W : List Sl} {i : Nat} {s : Sl}, (frW W)[i]? = some s → s = .no ∨ W[i]? = some s
  | .ow _ :: W, 0, s, h => .inl (by cases h; rfl)
  | .fz _ :: W, 0, s, h => .inr h
  | .no :: W, 0, s, h => .inr h
  | .ow _ :: W, i + 1, s, h => frW_at (W := W) (i := i) h
  | .fz _ :: W, i + 1, s, h => frW_at (W := W) (i := i) h
  | .no :: W, i + 1, s, h => frW_at (W := W) (i := i) h
theorem frW_len : ∀ W : List Sl, (frW W).length = W.length
  | [] => rfl
  | .ow _ :: W => congrArg (· + 1) (frW_len W)
  | .fz _ :: W => congrArg (· + 1) (frW_len W)
  | .no :: W => congrArg (· + 1) (frW_len W)
theorem frW_no : ∀ {W : List Sl} {i : Nat} {c : OC}, ¬ (frW W)[i]? = some (.ow c)
  | .ow _ :: W, 0, s, h => by cases h
  | .fz _ :: W, 0, s, h => by cases h
  | .no :: W, 0, s, h => by cases h
  | .ow _ :: W, i + 1, s, h => frW_no (W := W) (i := i) h
  | .fz _ :: W, i + 1, s, h => frW_no (W := W) (i := i) h
  | .no :: W, i + 1, s, h => frW_no (W := W) (i := i) h
theorem own_fr {p : Addr} (o : Own (frW W) σ p) : False := by
  obtain ⟨i, c, h, _⟩ := o
  exact frW_no h
theorem Sat.fr (s : Sat F H σ W) : Sat F H σ (frW W) := by
  refine ⟨s.ex, s.len.trans (frW_len W).symm, fun i r h => ?_, fun i c h => (frW_no h).elim, fun i j c d p h => (frW_no h).elim⟩
  rcases frW_at h with z | z
  · cases z
  · exact s.fz i r z
/-- the slots in a comprehension's block -/
def blW (W : List Sl) (vs : List Nat) : List Sl := frW (wipeW W vs)
/-- what the walk of a comprehension keeps -/
def CI (F1 H1 : Hp) (D : Addr) (rs : List R) (H : Hp) : Prop :=
  ∃ F acc, Rel F1 H1 Nob F H Nob ∧ Same F H ∧ F D = none ∧ H D = some (.lst acc) ∧ All2 rs F acc
theorem ci_turn {F1 H1 : Hp} {D : Addr} {rs : List R} {vs is : List Nat} {p : Bool} {xv : V} (hD : H1 D = none) (s1 : Sat F1 H1 σ W1) (c : CI F1 H1 D rs H) (hx : ra.p F1 xv) (hl : rs.length < 16000000)
    (hg : GS g ra (blW W1 vs) W2 is) (his : ∀ j ∈ is, j ∈ vs) (ht : ET tt W2 W2 p) (he : p = true → ES te W2 W2 rb) :
    g xv (wipe σ vs) H fun σ2 H2 => wipe σ2 vs = wipe σ vs ∧ tt σ2 H2 fun b H3 =>
      if b = true then te σ2 H3 fun y H4 => ∃ acc, H4 D = some (.lst acc) ∧ acc.length < sizeLine ∧ CI F1 H1 D (if p = true then rs ++ [rb] else rs) (upd H4 D (.lst (acc ++ [y]))) else CI F1 H1 D (if p = true then rs ++ [rb] else rs) H3 := by
  obtain ⟨F, acc, q, ex, fD, hDl, ha⟩ := c
  obtain ⟨sw, _⟩ := (s1.pure q ex).wipe vs
  refine hg F H (wipe σ vs) xv _ sw.fr (ra.mono q.f hx) fun σ2 o2 s2 d2 => ⟨wipe_eq (d2.1.trans (wipe_length σ vs)) d2.2 his, ?_⟩
  have none2 : ∀ a, ¬ Own W2 σ2 a := fun a o => own_fr (o2 a o)
  have up : ∀ {F F' H H' : Hp}, Rel F H (Own W2 σ2) F' H' (Own W2 σ2) → Rel F H Nob F' H' Nob := fun {F F' H H'} a =>
    ⟨a.f, fun x o n h => a.h x o (none2 x) h, fun x o h => (a.n x o h).imp id (Or.imp id fun m => none2 x m), a.t, fun x m => .inl m⟩
  refine ht F H σ2 _ s2 fun F3 H3 a3 s3 => ?_
  have q3 := q.trans (up a3)
  have hD3 : H3 D = some (.lst acc) := (up a3).h D _ (fun z => z) hDl
  have fresh : ∀ {F' H' : Hp}, Rel F1 H1 Nob F' H' Nob → Rel F H Nob F' H' Nob → F' D = none := fun {F' H'} a b => by
    cases z : F' D with
    | none => rfl
    | some u =>
      rcases b.n D u z with y | y | y
      · rw [fD] at y; cases y
      · rw [hDl] at y; cases y
      · exact y.elim
  cases p with
  | false =>
    rw [if_neg Bool.false_ne_true, if_neg Bool.false_ne_true]
    exact ⟨F3, acc, q3, s3.ex, fresh q3 (up a3), hD3, ha.mono a3.f⟩
  | true =>
    rw [if_pos rfl, if_pos rfl]
    refine he rfl F3 H3 σ2 _ s3 fun y F4 H4 a4 s4 hy => ?_
    have q4 := q3.trans (up a4)
    have f4 := fresh q4 ((up a3).trans (up a4))
    refine ⟨acc, (up a4).h D _ (fun z => z) hD3, Nat.lt_of_lt_of_le (by rw [ha.len]; exact hl) (by decide), F4, acc ++ [y], ?_, fun a o h => ?_, f4, upd_same, (ha.mono (fun a o h => a4.f a o (a3.f a o h))).app ⟨hy, trivial⟩⟩
    · refine ⟨q4.f, fun a o n h => ?_, q4.n, fun a h => ?_, fun _ m => m.elim⟩
      · rw [upd_ne (ne_of_none h hD)]; exact q4.h a o n h
      · by_cases e : a = D
        · subst e; exact hD
        · rw [upd_ne e] at h; exact q4.t a h
    · rw [upd_ne (ne_of_none h f4)]; exact s4.ex a o h
/-- how a comprehension's data goes -/
def lcR {α : Type} (p : α → Bool) (f : α → R) (l : List α) : List R := (l.filter p).map f
theorem lcR_take {p : α → Bool} {f : α → R} {l : List α} {i : Nat} {x : α} (h : l[i]? = some x) : lcR p f (l.take (i + 1)) = if p x = true then lcR p f (l.take i) ++ [f x] else lcR p f (l.take i) := by
  have hi := (List.getElem?_eq_some_iff.mp h).1
  have e : l.take (i + 1) = l.take i ++ [x] := by
    rw [List.take_add_one, h]; rfl
  unfold lcR
  rw [e, List.filter_append, List.map_append]
  by_cases q : p x = true
  · rw [if_pos q, List.filter_cons, if_pos q]; rfl
  · rw [if_neg q, List.filter_cons, if_neg q]; simp
theorem lcR_len {p : α → Bool} {f : α → R} {l : List α} : (lcR p f l).length ≤ l.length := by
  unfold lcR; rw [List.length_map]; exact List.length_filter_le p l
/-- [f x for x in l if p x] -/
theorem en_lcL {e : α → R} {l : List α} {f : α → R} {vs is : List Nat} (p : α → Bool) (W2 : α → List Sl) (h : ES tl W W1 (eLs e l)) (hz : l.length < 16000000) (his : ∀ j ∈ is, j ∈ vs)
    (hg : ∀ x, GS g (e x) (blW W1 vs) (W2 x) is) (ht : ∀ x ∈ l, ET tt (W2 x) (W2 x) (p x)) (he : ∀ x ∈ l, p x = true → ES te (W2 x) (W2 x) (f x)) :
    ESN (tLc (iList K tl) g tt te vs) W W1 (oL ((l.filter p).map f)) := fun F H σ Q s k =>
  h F H σ _ s fun v F1 H1 a1 s1 ⟨a, xs, e1, e2, e3⟩ => by
    refine ⟨a, e1, ⟨xs, .inl (.inl (s1.ex _ _ e2))⟩, fun D hD => ?_⟩
    have fD : F1 D = none := s1.ex.free hD
    refine lc_list (xs := xs) (fun i H' => CI F1 H1 D (lcR p f (l.take i)) H') ?_ (fun i H' _ ⟨F', acc, q, ex, _⟩ => .inl (.inl (ex _ _ (q.f _ _ e2)))) ?_ ?_
    · refine ⟨F1, [], Rel.grow fun a o h => ?_, fun a o h => ?_, fD, upd_same, by simp [lcR, All2]⟩
      · rw [upd_ne (ne_of_none h hD)]; exact h
      · rw [upd_ne (ne_of_none h fD)]; exact s1.ex a o h
    · intro i x H' hx c
      obtain ⟨r, hr, rx⟩ := e3.get hx
      rw [List.getElem?_map] at hr
      cases q : l[i]? with
      | none => rw [q] at hr; cases hr
      | some y =>
        rw [q] at hr
        have er : e y = r := Option.some.inj hr
        subst er
        have my := List.mem_of_getElem? q
        show g x (wipe σ vs) H' fun σ2 H2 => wipe σ2 vs = wipe σ vs ∧ tt σ2 H2 fun b H3 =>
          if b = true then te σ2 H3 fun y H4 => ∃ acc, H4 D = some (.lst acc) ∧ acc.length < sizeLine ∧ CI F1 H1 D (lcR p f (l.take (i + 1))) (upd H4 D (.lst (acc ++ [y]))) else CI F1 H1 D (lcR p f (l.take (i + 1))) H3
        rw [lcR_take q]
        exact ci_turn hD s1 c rx (by have := lcR_len (p := p) (f := f) (l := l.take i); have := List.length_take_le' i l; omega) (hg y) his (ht y my) (he y my)
    · rintro H' ⟨F', acc, q, ex, f', hDl, ha⟩
      rw [e3.len, List.length_map, List.take_length] at ha
      exact k D _ F' H' (a1.trans q.pure) (s1.pure q ex) (a1.t D hD) hDl f' (fun o => by
        obtain ⟨u, z⟩ := o.lt s1
        rw [hD] at z; cases z) ⟨nofun, acc, rfl, ha⟩
theorem en_lcR2 {f : Int → R} {vs is : List Nat} {tr : TA} {lo n : Int} (p : Int → Bool) (W2 : Int → List Sl) (h : AS tr W W1 [eI lo, eI n]) (hn : -(2 ^ 62) ≤ lo ∧ lo < 2 ^ 62 ∧ -(2 ^ 62) ≤ n ∧ n < 2 ^ 62) (hz : n - lo < 16000000) (his : ∀ j ∈ is, j ∈ vs)
    (hg : ∀ x, GS g (eI x) (blW W1 vs) (W2 x) is) (ht : ∀ x ∈ rng lo n, ET tt (W2 x) (W2 x) (p x)) (he : ∀ x ∈ rng lo n, p x = true → ES te (W2 x) (W2 x) (f x)) :
    ESN (tLc (iRng2 tr) g tt te vs) W W1 (oL (((rng lo n).filter p).map f)) := fun F H σ Q s k =>
  h F H σ _ s fun ws F1 H1 a1 s1 e1 => by
    match ws, e1 with
    | [], e1 => exact e1.elim
    | [_], e1 => exact e1.2.elim
    | _ :: _ :: _ :: _, e1 => exact e1.2.2.elim
    | [v, w], e1 =>
      have ev : v = V.int lo := e1.1
      have ew : w = V.int n := e1.2.1
      subst ev ew
      refine ⟨lo, n, rfl, hn, fun D hD => ?_⟩
      have fD : F1 D = none := s1.ex.free hD
      refine lc_range (fun i H' => CI F1 H1 D (lcR p f ((rng lo n).take i)) H') ?_ ?_ ?_
      · refine ⟨F1, [], Rel.grow fun a o h => ?_, fun a o h => ?_, fD, upd_same, by simp [lcR, All2]⟩
        · rw [upd_ne (ne_of_none h hD)]; exact h
        · rw [upd_ne (ne_of_none h fD)]; exact s1.ex a o h
      · intro i H' hi c
        have q := rng_at hi
        have my := List.mem_of_getElem? q
        show g _ (wipe σ vs) H' fun σ2 H2 => wipe σ2 vs = wipe σ vs ∧ tt σ2 H2 fun b H3 =>
          if b = true then te σ2 H3 fun y H4 => ∃ acc, H4 D = some (.lst acc) ∧ acc.length < sizeLine ∧ CI F1 H1 D (lcR p f ((rng lo n).take (i + 1))) (upd H4 D (.lst (acc ++ [y]))) else CI F1 H1 D (lcR p f ((rng lo n).take (i + 1))) H3
        rw [lcR_take q]
        exact ci_turn hD s1 c (show (eI (lo + i)).p F1 _ from rfl) (by have := lcR_len (p := p) (f := f) (l := (rng lo n).take i); have := List.length_take_le' i (rng lo n); rw [rng_len] at this; omega) (hg _) his (ht _ my) (he _ my)
      · rintro H' ⟨F', acc, q, ex, f', hDl, ha⟩
        rw [← rng_len, List.take_length] at ha
        exact k D _ F' H' (a1.trans q.pure) (s1.pure q ex) (a1.t D hD) hDl f' (fun o => by
          obtain ⟨u, z⟩ := o.lt s1
          rw [hD] at z; cases z) ⟨nofun, acc, rfl, ha⟩
theorem et_yes : ET tYes W W true := fun F H σ Q s k => k F H Rel.refl s
end
end Fw
end
section
set_option maxRecDepth 100000
namespace Fw
open PySem L2 PySem.Spec PyProof.Rows
/-- a def's promise where no guard of a display runs -/
structure FnG (P : Program) (w : World) (K : PySem.W.Frag) (mg : Str → Option Value) (base : Heap) (CX : CXT) (k : Nat) (f : Addr) (fd : FuncData) (ps : List Str) (sp : Sp) : Prop where
  len : ∀ vs H Q E, sp vs H Q E → vs.length = ps.length
  run : ∀ (A : Around) (outer : List Env) (s : Shared) (H : Hp) (args : Args) (us : List Value) (vs : List V) (Q : VK) (E : XK), A.guards = some [] → Room k A → Env0 P w K mg base A outer s H →
    BindsTo s fd args (ps.zip us) → Vals vs us → sp vs H Q E → codeAny (model P w) A (.call (.ref f) args) (CR CX outer P w H s Q E) s
section
variable {P : Program} {w : World} {K : PySem.W.Frag} {mg : Str → Option Value} {base : Heap} {CX : CXT} {k j : Nat} {f : Addr} {fd : FuncData} {ps : List Str} {sp sp' : Sp}
theorem FnG.mono (F : FnG P w K mg base CX j f fd ps sp) (h : j ≤ k) : FnG P w K mg base CX k f fd ps sp :=
  ⟨F.len, fun A outer s H args us vs Q E hg hr => F.run A outer s H args us vs Q E hg (hr.mono h)⟩
theorem FnG.imp (F : FnG P w K mg base CX k f fd ps sp) (h : ∀ vs H Q E, sp' vs H Q E → sp vs H Q E) : FnG P w K mg base CX k f fd ps sp' :=
  ⟨fun vs H Q E q => F.len vs H Q E (h _ _ _ _ q), fun A outer s H args us vs Q E hg hr he hb hv hs => F.run A outer s H args us vs Q E hg hr he hb hv (h _ _ _ _ hs)⟩
theorem FnG.of (F : FnOk P w K mg base CX k f fd ps sp) : FnG P w K mg base CX k f fd ps sp := ⟨F.len, fun A outer s H args us vs Q E _ => F.run A outer s H args us vs Q E⟩
/-- a def of the text, by its body -/
theorem fng_of {name qual : Str} {params : Arguments} {body : List Stmt} {scope : Scope} {dV kV doc pm cdv ct oc : Value} {an od : Option Addr} {osl : Array (Option Value)} {N : List Str}
    (lk : K.lookup f = some ⟨oc, od, .func (PySem.W.fnOf name qual params body scope dV kV doc pm an cdv ct), osl⟩) (hcd : PySem.W.codeIn K cdv qual = true) (S : FnScope N ps scope) (len : ∀ vs H Q E, sp vs H Q E → vs.length = ps.length)
    (hbody : ∀ (A : Around) (outer : List Env) (s : Shared) (H : Hp) (vs : List V) (Q : VK) (E : XK), A.guards = some [] → Room k (A.deeper (envOfC qual scope s.heap.objs.size f cdv)) → sp vs H Q E →
      ∃ t, PSs (cxOf CX P w K mg base N qual scope f cdv A outer s H E) body t ∧ t { nx := fun _ H' => Q .non H', rt := Q } (start N vs) H) :
    FnG P w K mg base CX (k + 1) f (PySem.W.fnOf name qual params body scope dV kV doc pm an cdv ct) ps sp :=
  ⟨len, fun A outer s H args us vs Q E hg hr e0 hb r hsp => by
    have old : ∀ b o, base.get? b = some o → s.heap.get? b = some o := fun b o e => (e0.bs b o e).1
    have KX := e0.mod.kin.keeps old
    have lim := e0.mod.nolimit.keeps old
    refine codeAny_call_function hr.depth (KX _ _ lk) rfl S.co S.gen rfl (PySem.W.codeRec_of KX hcd) (hb _ _ _ _ ?_)
    refine wpAny_newFunctionEnv_cells S.kind (fun y hy => ?_) fun env he s1 x => ?_
    · obtain ⟨n, v⟩ := y
      exact (S.par n (List.of_mem_zip hy).1).imp id fun q => ⟨q, PySem.W.cellsFrom_some _ _ _ (.inl q)⟩
    · subst he
      obtain ⟨t, ht, hq⟩ := hbody A outer s H vs Q E hg (hr.deeper _) hsp
      have I := inv_start (CX := CX) (E := E) S hr.hd e0 (len _ _ _ _ hsp) r x
      have fin : ∀ {s' : Shared} {σ' : L2.St} {H' : Hp} {v : V} {u : Value}, Inv (cxOf CX P w K mg base N qual scope f cdv A outer s H E) [] σ' H' s' → RelV v u → Q v H' → CE outer P w H s Q u s' :=
        fun J rv q => ⟨_, _, J.os, J.bare, J.base, J.hok, rv, q⟩
      refine ⟨lim.keeps x.toInCall.keep, codeAny_func (wpAny_mono (ht.run [] s1 (start N vs) H _ I hq) (fun fl s' hs => ?_) fun e s' hs => hs)⟩
      cases fl with
      | ret u => exact let ⟨v, σ', H', J, rv, q⟩ := hs; fin J rv q
      | next => exact let ⟨σ', H', J, q⟩ := hs; fin (v := V.non) (u := Value.none) J rfl q
      | brk => exact hs.elim fun _ z => z.elim fun _ z => z.2.elim
      | cont => exact hs.elim fun _ z => z.elim fun _ z => z.2.elim⟩
theorem Fun.okG {x qual : Str} {st : Stmt} {N : List Str} (F : L2.Fun K x qual st f fd) (S : FnScope N ps (defScope st)) (len : ∀ vs H Q E, sp vs H Q E → vs.length = ps.length)
    (hbody : ∀ (cdv : Value) (A : Around) (outer : List Env) (s : Shared) (H : Hp) (vs : List V) (Q : VK) (E : XK), A.guards = some [] → Room k (A.deeper (envOfC qual (defScope st) s.heap.objs.size f cdv)) → sp vs H Q E →
      ∃ t, PSs (cxOf CX0 P w K mg base N qual (defScope st) f cdv A outer s H E).nox (defBody st) t ∧ t { nx := fun _ H' => Q .non H', rt := Q } (start N vs) H) : FnG P w K mg base CX0 (k + 1) f fd ps sp := by
  obtain ⟨oc, od, kV, doc, pm, an, cdv, ct, osl, e, lk, hcd⟩ := F.ex
  subst e
  exact fng_of lk hcd S len fun A outer s H vs Q E hg hr hsp => let ⟨t, h, q⟩ := hbody cdv A outer s H vs Q E hg hr hsp; ⟨t, h.nox, q⟩
end
section
variable {X : Cx} {CX : CXT} {k : Nat} {f C p g : Addr} {fd : FuncData} {ps : List Str} {sp : Sp} {dvs : List V} {ds : List Value} {E : XK} {x m : Str} {pp pos apos : Pos} {e o : Expr} {es : List Expr} {ta : TE} {t : TA}
theorem run_fng {pins : List (Addr × Obj)} {σ : L2.St} {H : Hp} {s : Shared} {Q : VK} {us : List Value} {vs : List V} (F : FnG X.prog X.w X.K X.mg X.base CX k f fd ps sp) (hG : X.A.guards = some []) (hr : Room k X.A) (hb : Binds X.K fd ps ds) (hd : Vals dvs ds)
    (hx : Passes CX X E) (I : Inv X pins σ H s) (r : Vals vs us) (h : sp (vs ++ dvs) H Q E) : wpAny (model X.prog X.w) X.A (call (.ref f) us) (EP X pins σ Q) X.xe s := by
  have r2 := r.append hd
  refine wpAny_call (codeAny_mono (F.run X.A X.stack s H ⟨us, []⟩ _ _ Q E hG hr I.env0 (hb s us I.kIn (r2.length.symm.trans (F.len _ _ _ _ h))) r2 h) fun q s' hq => ?_)
  match q, hq with
  | .error e, hq => exact hx pins σ H s e s' I hq
  | .ok (.ret u), hq => exact I.after hq
  | .ok .next, hq => exact hq.elim
  | .ok .brk, hq => exact hq.elim
  | .ok .cont, hq => exact hq.elim
theorem pg_call (F : FnG X.prog X.w X.K X.mg X.base CX k f fd ps sp) (hG : X.A.guards = some []) (hr : Room k X.A) (hg : Gl X x) (hm : X.mg x = some (.ref f)) (hk : PySem.W.keepIn X.K (.ref f) = true) (hb : Binds X.K fd ps ds) (hd : Vals dvs ds) (hx : Passes CX X E)
    (ha : PA X (e :: es) t) (hdb : (x == ("__debug__" : Str)) = false := by decide) (he : starEach (e :: es) X.env = (false, eval e X.env) :: starEach es X.env := by rfl) (hpl : (backTo pos (starEach es X.env)).any (·.1) = false := by rfl) :
    PE X (.Call (.Name x pp) (e :: es) [] pos) (tCall sp dvs E t) :=
  ⟨fun pins s σ H Q I h => wpAny_Call_Name_kw (ld_glob I hg hm (PySem.W.callWith_K (h₀ := X.base) I.ok.mod.kin hk
    (thn (ha.run pos pins s σ H _ I h) fun us s1 ⟨vs, H1, I1, r, q⟩ => ⟨I1.kIn, run_fng F hG hr hb hd hx I1 r q⟩) he hpl) hdb)⟩
theorem pg_call0 (F : FnG X.prog X.w X.K X.mg X.base CX k f fd ps sp) (hG : X.A.guards = some []) (hr : Room k X.A) (hg : Gl X x) (hm : X.mg x = some (.ref f)) (hk : PySem.W.keepIn X.K (.ref f) = true) (hb : Binds X.K fd ps ds) (hd : Vals dvs ds) (hx : Passes CX X E)
    (hdb : (x == ("__debug__" : Str)) = false := by decide) : PE X (.Call (.Name x pp) [] [] pos) (tCall sp dvs E tNil) :=
  ⟨fun pins s σ H Q I h => wpAny_Call_Name_kw (ld_glob I hg hm (PySem.W.callWith_K0 I.kIn hk (run_fng (us := []) F hG hr hb hd hx I .nil h)) hdb)⟩
theorem pg_meth {pl : Sem Bool} (he : PE X o ta) (c : Cls X.K C) (hm : Meth X.K C m f) (F : FnG X.prog X.w X.K X.mg X.base CX k f fd ps sp) (hG : X.A.guards = some []) (hr : Room k X.A) (hb : Binds X.K fd ps ds) (hd : Vals dvs ds) (hx : Passes CX X E) (ha : PA X (e :: es) t)
    (hst : starEach (e :: es) X.env = (false, eval e X.env) :: starEach es X.env := by rfl) (hpl : (backTo pos (starEach es X.env)).any (·.1) = false := by rfl)
    (ht : eval (.Call (.Attribute o m apos) (e :: es) [] pos) X.env = (eval o X.env >>= fun ov => standAt apos.atName >>= fun _ => holding [ov] (getMethod ov m pl) >>= fun fm =>
      callWith pos fm.1 fm.2 (backTo pos (starEach (e :: es) X.env)) (backToKw pos (keywordEach [] X.env))) := by rfl) :
    PE X (.Call (.Attribute o m apos) (e :: es) [] pos) (tMeth C m sp dvs E ta t) := by
  refine ⟨fun pins s σ H Q I h => PySem.W.methodCall_KW (pl := pl) (thn (he.run pins s σ H _ I h) fun u s1 ⟨x, H1, I1, rx, a, dx, fs, ex, ea, l, q⟩ => ?_) ht⟩
  subst ex
  cases (show u = Value.ref a from rx)
  refine getmeth_ok I1 ea c hm l (PySem.W.callWith_K (first := [.ref a]) (h₀ := X.base) I.ok.mod.kin hm.kp (thn (ha.run pos pins s1 σ H1 _ I1 q) fun us s2 ⟨vs, H2, I2, r, q2⟩ => ⟨I2.kIn, ?_⟩) hst hpl)
  exact run_fng (us := .ref a :: us) (vs := .ref a :: vs) F hG hr hb hd hx I2 (.cons rfl r) q2
theorem pg_meth0 {pl : Sem Bool} (he : PE X o ta) (c : Cls X.K C) (hm : Meth X.K C m f) (F : FnG X.prog X.w X.K X.mg X.base CX k f fd ps sp) (hG : X.A.guards = some []) (hr : Room k X.A) (hb : Binds X.K fd ps ds) (hd : Vals dvs ds) (hx : Passes CX X E)
    (ht : eval (.Call (.Attribute o m apos) [] [] pos) X.env = (eval o X.env >>= fun ov => standAt apos.atName >>= fun _ => holding [ov] (getMethod ov m pl) >>= fun fm =>
      callWith pos fm.1 fm.2 (backTo pos (starEach [] X.env)) (backToKw pos (keywordEach [] X.env))) := by rfl) :
    PE X (.Call (.Attribute o m apos) [] [] pos) (tMeth C m sp dvs E ta tNil) := by
  refine ⟨fun pins s σ H Q I h => PySem.W.methodCall_KW (pl := pl) (thn (he.run pins s σ H _ I h) fun u s1 ⟨x, H1, I1, rx, a, dx, fs, ex, ea, l, q⟩ => ?_) ht⟩
  subst ex
  cases (show u = Value.ref a from rx)
  exact getmeth_ok I1 ea c hm l (PySem.W.callWith_K0 (first := [.ref a]) I1.kIn hm.kp (run_fng (us := [.ref a]) (vs := [.ref a]) F hG hr hb hd hx I1 (.cons rfl .nil) q))
theorem pg_make (M : Mk X.K C f) (F : FnG X.prog X.w X.K X.mg X.base CX k f fd ps sp) (hG : X.A.guards = some []) (hr : Room (k + 1) X.A) (hg : Gl X x) (hm : X.mg x = some (.ref C)) (hb : Binds X.K fd ps ds) (hd : Vals dvs ds) (hx : Passes CX X E)
    (ha : PA X (e :: es) t) (hdb : (x == ("__debug__" : Str)) = false := by decide) (he : starEach (e :: es) X.env = (false, eval e X.env) :: starEach es X.env := by rfl) (hpl : (backTo pos (starEach es X.env)).any (·.1) = false := by rfl) :
    PE X (.Call (.Name x pp) (e :: es) [] pos) (tMake C sp dvs E t) := by
  refine ⟨fun pins s0 σ H0 Q I0 h0 => wpAny_Call_Name_kw (ld_glob I0 hg hm (PySem.W.callWith_K (h₀ := X.base) I0.ok.mod.kin M.kp (thn (ha.run pos pins s0 σ H0 _ I0 h0) fun us s ⟨vs, H, I, r, h⟩ => ⟨I.kIn, ?_⟩) he hpl) hdb)⟩
  have hq := h (s.heap.objs.size + 1) s.heap.objs.size (I.hok.fresh (Nat.le_succ _)) (I.hok.fresh (Nat.le_refl _)) (Nat.ne_of_lt (Nat.lt_succ_self _))
  have I2 := Inv.made (C := C) I
  have r2 : Vals (V.ref (s.heap.objs.size + 1) :: (vs ++ dvs)) (Value.ref (s.heap.objs.size + 1) :: (us ++ ds)) := .cons rfl (r.append hd)
  have gd : ∀ us', (X.A.under (.builtin "type.__call__" ⟨.ref C :: us', []⟩)).guards = some [] := fun us' => by
    have : (X.A.under (.builtin "type.__call__" ⟨.ref C :: us', []⟩)).guards = X.A.guards := rfl
    rw [this]; exact hG
  refine wpAny_call (make_map (f := f) I.kIn M.makes M.init (beq_iff_eq.mp M.fn) (codeAny_mono (F.run _ X.stack _ _ ⟨Value.ref (s.heap.objs.size + 1) :: us, []⟩ _ _ _ E (gd us) (hr.make C us [])
    (I2.env0.make C us []) (hb _ (Value.ref (s.heap.objs.size + 1) :: us) I2.kIn (r2.length.symm.trans (F.len _ _ _ _ hq))) r2 hq) fun q s' hq' => ?_))
  match q, hq' with
  | .error e, hq' => exact hx pins σ _ _ e s' I2 hq'
  | .ok (.ret u), hq' =>
    obtain ⟨v, H', I3, rv, ev, q3⟩ := I2.after hq'
    subst ev
    exact ⟨rv, V.ref (s.heap.objs.size + 1), H', I3, rfl, q3⟩
  | .ok .next, hq' => exact hq'.elim
  | .ok .brk, hq' => exact hq'.elim
  | .ok .cont, hq' => exact hq'.elim
end
end Fw
end
section
set_option maxRecDepth 100000
namespace Fw
open PySem L2
section
variable {W W' W0 W1 W2 W3 : List Sl} {K : PySem.W.Frag} {ta tb tc te to tl : TE} {tc' tt : TT} {r ra rb : R} {x y z v : V} {a b : Bool} {ι : Type} {F H F' H' : Hp} {σ : L2.St} {E : XK} {P P1 : Post} {ts uu : TS} {g : TG}
variable {α β : Type}
/-- a built-in of one value, of two -/
theorem es_cb1 {g : List V → Hp → VK → Prop} (ha : ES ta W W1 (eV x)) (hg : ∀ (H : Hp) (Q : VK), Q z H → g [x] H Q) : ES (tCB g (tCons ta tNil)) W W1 (eV z) := fun F H σ Q s k =>
  ha F H σ _ s fun v F1 H1 a1 s1 e1 => by
    have e1' : v = x := e1
    subst e1'
    exact hg H1 Q (k z F1 H1 a1 s1 rfl)
theorem es_cb2 {g : List V → Hp → VK → Prop} (ha : ES ta W W1 (eV x)) (hb : ES tb W1 W2 (eV y)) (hg : ∀ (H : Hp) (Q : VK), Q z H → g [x, y] H Q) : ES (tCB g (tCons ta (tCons tb tNil))) W W2 (eV z) := fun F H σ Q s k =>
  ha F H σ _ s fun v F1 H1 a1 s1 e1 => hb F1 H1 σ _ s1 fun w F2 H2 a2 s2 e2 => by
    have e1' : v = x := e1
    have e2' : w = y := e2
    subst e1' e2'
    exact hg H2 Q (k z F2 H2 (a1.trans a2) s2 rfl)
theorem es_int {i : Int} {q : List V → Hp → VK → Prop} (ha : ES ta W W1 (eI i)) : ES (tCB (fun xs H Q => (∃ i, xs = [.int i] ∧ Q (.int i) H) ∨ q xs H Q) (tCons ta tNil)) W W1 (eI i) := es_cb1 ha fun _ _ k => .inl ⟨i, rfl, k⟩
def b2i (b : Bool) : Int := if b = true then 1 else 0
theorem es_intB {q : List V → Hp → VK → Prop} (ha : ES ta W W1 (eB b)) : ES (tCB (fun xs H Q => q xs H Q ∨ (∃ k, xs = [.bl k] ∧ Q (.int (if k = true then 1 else 0)) H)) (tCons ta tNil)) W W1 (eI (b2i b)) := es_cb1 ha fun _ _ k => .inr ⟨b, rfl, k⟩
def max2 (i j : Int) : Int := if j > i then j else i
def min2 (i j : Int) : Int := if j < i then j else i
theorem es_max2 {i j : Int} (ha : ES ta W W1 (eI i)) (hb : ES tb W1 W2 (eI j)) : ES (tCB (fun xs H Q => ∃ i j, xs = [.int i, .int j] ∧ Q (.int (if j > i then j else i)) H) (tCons ta (tCons tb tNil))) W W2 (eI (max2 i j)) := es_cb2 ha hb fun _ _ k => ⟨i, j, rfl, k⟩
theorem es_min2 {i j : Int} (ha : ES ta W W1 (eI i)) (hb : ES tb W1 W2 (eI j)) : ES (tCB (fun xs H Q => ∃ i j, xs = [.int i, .int j] ∧ Q (.int (if j < i then j else i)) H) (tCons ta (tCons tb tNil))) W W2 (eI (min2 i j)) := es_cb2 ha hb fun _ _ k => ⟨i, j, rfl, k⟩
theorem es_fdivW {i j : Int} (ha : ES ta W W1 (eI i)) (hb : ES tb W1 W2 (eI j)) (c : CDivW i j) : ES (tOp (rI CDivW fun i j => .int (i / j)) ta tb) W W2 (eI (i / j)) := es_op ha hb fun _ _ q => ⟨i, j, rfl, rfl, c, q⟩
theorem es_mulW {i j : Int} (ha : ES ta W W1 (eI i)) (hb : ES tb W1 W2 (eI j)) (c : CMulW i j) : ES (tOp (rI CMulW fun i j => .int (i * j)) ta tb) W W2 (eI (i * j)) := es_op ha hb fun _ _ q => ⟨i, j, rfl, rfl, c, q⟩
/-- xs[k], xs owned, k written -/
theorem es_ixO {rs : List R} {q0 : Option Addr} {k i : Nat} (h : W[i]? = some (.ow (oLq q0 rs))) (hk : rs[k]? = some r) : ES (tOp (rIxL K) (tVar i) (tC (.int (k : Int)))) W W r := fun F H σ Q s q => by
  obtain ⟨p, o, e0, g1, _, ⟨_, xs, rfl, g2⟩⟩ := s.ow i _ h
  obtain ⟨x, z1, z2⟩ := g2.get' hk
  exact ⟨.ref p, e0, p, xs, k, x, rfl, rfl, .inl (.inl g1), atI_k z1, q x F H Rel.refl s z2⟩
/-- xs[k] = e, xs owned, k written -/
theorem ss_setk {i k : Nat} {rs : List R} {q1 : Option Addr} (h : ES te W W1 r) (h1 : W1[i]? = some (.ow (oLq q1 rs))) (hk : k < rs.length) (n : P.nx (W1.set i (.ow (oLq q1 (rs.set k r))))) :
    SS (tAsg te (gSub (tVar i) (tC (.int (k : Int))) rSetL)) W P := fun F H σ D s kn _ _ _ =>
  h F H σ _ s fun v F1 H1 a1 s1 e1 => by
    obtain ⟨p, o, e0, y1, y2, ⟨yq, ys, rfl, y3⟩⟩ := s1.ow i _ h1
    have el := y3.len
    refine ⟨.ref p, e0, p, ys, k, k, rfl, rfl, y1, ?_, kn _ _ _ _ n (a1.trans ⟨fun _ _ z => z, fun a u n z => ?_, fun _ _ z => .inl z, fun a z => ?_, fun a m => .inl ((Own.mut h1).mp m)⟩) (s1.mut h1 e0 ⟨yq, _, rfl, y3.set e1 _⟩)⟩
    · unfold ixN
      rw [if_pos (by omega), if_pos (by omega)]
      rfl
    · rw [upd_ne (fun q : a = p => n (by rw [q]; exact ⟨i, _, h1, e0⟩))]; exact z
    · by_cases q : a = p
      · subst q; rw [upd_same] at z; cases z
      · rw [upd_ne q] at z; exact z
/-- the slots as a def begins: what is frozen, then nothing -/
def slF (rs : List R) (n : Nat) : List Sl := rs.map .fz ++ List.replicate (n - rs.length) .no
theorem slF_ow {rs : List R} {n i : Nat} {c : OC} (h : (slF rs n)[i]? = some (.ow c)) : False := by
  rcases List.mem_append.mp (List.mem_of_getElem? h) with z | z
  · obtain ⟨r, _, e⟩ := List.mem_map.mp z; cases e
  · cases List.eq_of_mem_replicate z
theorem slF_fz {rs : List R} {n i : Nat} {r : R} (h : (slF rs n)[i]? = some (.fz r)) : rs[i]? = some r := by
  unfold slF at h
  have hi : i < rs.length := by
    by_cases z : i < rs.length
    · exact z
    · rw [List.getElem?_append_right (by simpa using z), List.getElem?_replicate] at h
      split at h <;> cases h
  rw [List.getElem?_append_left (by simpa using hi), List.getElem?_map] at h
  cases q : rs[i]? with
  | none => rw [q] at h; cases h
  | some r' => rw [q] at h; have z := Option.some.inj h; injection z with z; rw [z]
theorem start_at {N : List Str} {vs : List V} {i : Nat} {v : V} (h : vs[i]? = some v) : (L2.start N vs)[i]? = some (some v) := by
  unfold L2.start
  have hi := (List.getElem?_eq_some_iff.mp h).1
  rw [List.getElem?_append_left (by simpa using hi), List.getElem?_map, h]; rfl
/-- a def's body: from what comes in to what goes out -/
theorem def_F {as : ι → List R} {ok : ι → Prop} {res : ι → R} {N : List Str} {vs : List V} {H : Hp} {Q : VK} {E : XK} (h : spF as ok res vs H Q E) (hN : ∀ d, (as d).length ≤ N.length)
    (k : ∀ d, ok d → SS ts (slF (as d) N.length) ⟨fun _ => res d = eN, fun _ r => r = res d, fun _ => False, fun _ => False⟩) : ts { nx := fun _ H' => Q .non H', rt := Q } (L2.start N vs) H := by
  obtain ⟨d, F, hok, ex, ha, hq⟩ := h
  have el := ha.len
  have s : Sat F H (L2.start N vs) (slF (as d) N.length) := by
    refine ⟨ex, ?_, fun i r h => ?_, fun i c h => (slF_ow h).elim, fun i j c e p h => (slF_ow h).elim⟩
    · unfold L2.start slF; simp [el]
    · obtain ⟨x, z1, z2⟩ := ha.get' (slF_fz h)
      exact ⟨x, start_at z1, z2⟩
  have own0 : ∀ a, ¬ Own (slF (as d) N.length) (L2.start N vs) a := fun a ⟨i, c, h, _⟩ => slF_ow h
  have up : ∀ {F' H' : Hp} {M : Addr → Prop}, Rel F H (Own (slF (as d) N.length) (L2.start N vs)) F' H' M → Rel F H Nob F' H' Nob := fun a =>
    ⟨a.f, fun x o n h => a.h x o (own0 x) h, fun x o h => (a.n x o h).imp id (Or.imp id fun m => own0 x m), a.t, fun x m => m.elim⟩
  refine k d hok F H (L2.start N vs) _ s (fun W' σ' F' H' z a s' => ?_) (fun W' σ' r v F' H' z a s' hv => ?_) (fun _ _ _ _ z => z.elim) fun _ _ _ _ z => z.elim
  · exact hq .non F' H' (up a) s'.ex (by rw [z]; rfl)
  · have z' : r = res d := z
    subst z'; exact hq v F' H' (up a) s'.ex hv
theorem def_B {c c' : ι → List R} {as : ι → List R} {ok : ι → Prop} {res : ι → R} {N : List Str} {vs : List V} {H : Hp} {Q : VK} {E : XK} (h : spB c as ok c' res vs H Q E) (hN : ∀ d, (as d).length < N.length)
    (k : ∀ d p, ok d → SS ts (.ow (oLq (some p) (c d)) :: slF (as d) (N.length - 1)) ⟨fun W' => res d = eN ∧ W'[0]? = some (.ow (oLq (some p) (c' d))), fun W' r => r = res d ∧ W'[0]? = some (.ow (oLq (some p) (c' d))), fun _ => False, fun _ => False⟩) :
    ts { nx := fun _ H' => Q .non H', rt := Q } (L2.start N vs) H := by
  obtain ⟨d, F, p, o, ws, rfl, hok, ex, hp, fp, hc, ha, hq⟩ := h
  have el := ha.len
  have hN' := hN d
  have s : Sat F H (L2.start N (.ref p :: ws)) (.ow (oLq (some p) (c d)) :: slF (as d) (N.length - 1)) := by
    refine ⟨ex, ?_, fun i r h => ?_, fun i e h => ?_, fun i j e e' q h1 h2 => ?_⟩
    · unfold L2.start slF; simp [el]; omega
    · cases i with
      | zero => cases h
      | succ i =>
        obtain ⟨x, z1, z2⟩ := ha.get' (slF_fz (i := i) h)
        exact ⟨x, start_at z1, z2⟩
    · cases i with
      | zero =>
        cases h
        exact ⟨p, .lst o, rfl, hp, fp, fun _ z => Option.some.inj z, o, rfl, hc⟩
      | succ i => exact (slF_ow (i := i) h).elim
    · cases i with
      | zero => cases j with
        | zero => exact fun _ _ => rfl
        | succ j => exact (slF_ow (i := j) h2).elim
      | succ i => exact (slF_ow (i := i) h1).elim
  have own0 : ∀ a, Own (.ow (oLq (some p) (c d)) :: slF (as d) (N.length - 1)) (L2.start N (.ref p :: ws)) a → a = p := fun a ⟨i, e, h1, h2⟩ => by
    cases i with
    | zero =>
      have z : some (some (V.ref p)) = some (some (.ref a)) := h2
      cases z; rfl
    | succ i => exact (slF_ow (i := i) h1).elim
  have own1 : Own (.ow (oLq (some p) (c d)) :: slF (as d) (N.length - 1)) (L2.start N (.ref p :: ws)) p := ⟨0, _, rfl, rfl⟩
  have up : ∀ {F' H' : Hp} {M : Addr → Prop}, Rel F H (Own (.ow (oLq (some p) (c d)) :: slF (as d) (N.length - 1)) (L2.start N (.ref p :: ws))) F' H' M → Rel F H (fun a => a = p) F' H' (fun a => a = p) := fun a =>
    ⟨a.f, fun x o n h => a.h x o (fun z => n (own0 x z)) h, fun x o h => (a.n x o h).imp id (Or.imp id fun m => own0 x m), a.t, fun x m => .inl m⟩
  have fin : ∀ {W' : List Sl} {σ' : L2.St} {F' H' : Hp}, Sat F' H' σ' W' → W'[0]? = some (.ow (oLq (some p) (c' d))) → ∃ o', H' p = some (.lst o') ∧ F' p = none ∧ All2 (c' d) F' o' := fun {W' σ' F' H'} s' hw => by
    obtain ⟨p', _, _, y1, y2, yq, ys, rfl, y3⟩ := s'.ow 0 _ hw
    cases yq p rfl
    exact ⟨ys, y1, y2, y3⟩
  refine k d p hok F H (L2.start N (.ref p :: ws)) _ s (fun W' σ' F' H' z a s' => ?_) (fun W' σ' r v F' H' z a s' hv => ?_) (fun _ _ _ _ z => z.elim) fun _ _ _ _ z => z.elim
  · obtain ⟨z1, z2⟩ := z
    obtain ⟨o', y1, y2, y3⟩ := fin s' z2
    exact hq .non F' H' o' (up a) s'.ex y1 y2 y3 (by rw [z1]; rfl)
  · obtain ⟨z1, z2⟩ := z
    subst z1
    obtain ⟨o', y1, y2, y3⟩ := fin s' z2
    exact hq v F' H' o' (up a) s'.ex y1 y2 y3 hv
end
end Fw
end
section
set_option maxRecDepth 100000
namespace Fw
open PySem L2
section
variable {W W' W0 W1 W2 W3 : List Sl} {K : PySem.W.Frag} {ta tb tc te to tl : TE} {tc' tt : TT} {r ra rb : R} {x y z v : V} {a b : Bool} {ι : Type} {F H F' H' : Hp} {σ : L2.St} {E : XK} {P P1 : Post} {ts uu tA tB : TS} {g : TG}
variable {α β γ δ : Type}
theorem ss_assoc {s1 s2 s3 : TS} (h : SS (tSeq s1 (tSeq s2 s3)) W P) : SS (tSeq (tSeq s1 s2) s3) W P := h
theorem ss_nxq {s3 : TS} (h : SS s3 W P) : SS (tSeq tNext s3) W P := h
theorem ss_seq1 (v1 : α) (mk : α → List Sl) (h : SS ts W ⟨fun W' => Wk W' (mk v1), P.rt, P.bk, P.ct⟩) (k : ∀ x1, x1 = v1 → SS uu (mk x1) P) : SS (tSeq ts uu) W P := ss_seqTo (mk v1) h (k v1 rfl)
theorem ss_seq2 (v1 : α) (v2 : β) (mk : α → β → List Sl) (h : SS ts W ⟨fun W' => Wk W' (mk v1 v2), P.rt, P.bk, P.ct⟩) (k : ∀ x1, x1 = v1 → ∀ x2, x2 = v2 → SS uu (mk x1 x2) P) : SS (tSeq ts uu) W P := ss_seqTo (mk v1 v2) h (k v1 rfl v2 rfl)
theorem ss_seq3 (v1 : α) (v2 : β) (v3 : γ) (mk : α → β → γ → List Sl) (h : SS ts W ⟨fun W' => Wk W' (mk v1 v2 v3), P.rt, P.bk, P.ct⟩) (k : ∀ x1, x1 = v1 → ∀ x2, x2 = v2 → ∀ x3, x3 = v3 → SS uu (mk x1 x2 x3) P) : SS (tSeq ts uu) W P :=
  ss_seqTo (mk v1 v2 v3) h (k v1 rfl v2 rfl v3 rfl)
theorem ss_seq4 (v1 : α) (v2 : β) (v3 : γ) (v4 : δ) (mk : α → β → γ → δ → List Sl) (h : SS ts W ⟨fun W' => Wk W' (mk v1 v2 v3 v4), P.rt, P.bk, P.ct⟩) (k : ∀ x1, x1 = v1 → ∀ x2, x2 = v2 → ∀ x3, x3 = v3 → ∀ x4, x4 = v4 → SS uu (mk x1 x2 x3 x4) P) :
    SS (tSeq ts uu) W P := ss_seqTo (mk v1 v2 v3 v4) h (k v1 rfl v2 rfl v3 rfl v4 rfl)
theorem ss_retq (h : ES te W W1 r) (k : P.rt W1 r) : SS (tSeq (tRet te) uu) W P := ss_seq (fun _ => False) (ss_ret h k) fun _ z => z.elim
theorem ss_retNq (k : P.rt W eN) : SS (tSeq tRetN uu) W P := fun F H σ D s _ kr _ _ => kr W σ eN .non F H k Rel.refl s rfl
theorem ss_neverq (h : False) : SS (tSeq ts uu) W P := h.elim
theorem ss_contq (h : P.ct W) : SS (tSeq tCont uu) W P := ss_seq (fun _ => False) (ss_cont h) fun _ z => z.elim
theorem ss_brkq (h : P.bk W) : SS (tSeq tBreak uu) W P := ss_seq (fun _ => False) (ss_brk h) fun _ z => z.elim
/-- an if one way of which ends -/
theorem ss_ifL (h : ET tc' W W1 a) (h1 : a = true → SS tA W1 ⟨fun _ => False, P.rt, P.bk, P.ct⟩) (h2 : a = false → SS (tSeq tB uu) W1 P) : SS (tSeq (tIfS tc' tA tB) uu) W P := fun F H σ D s kn kr kb kc =>
  h F H σ _ s fun F1 H1 a1 s1 => by
    cases a with
    | true =>
      rw [if_pos rfl]
      exact h1 rfl F1 H1 σ { D with nx := uu D } s1 (fun _ _ _ _ z => z.elim) (fun W2 σ2 r v F2 H2 n2 a2 s2 => kr W2 σ2 r v F2 H2 n2 (a1.trans a2) s2)
        (fun W2 σ2 F2 H2 n2 a2 s2 => kb W2 σ2 F2 H2 n2 (a1.trans a2) s2) fun W2 σ2 F2 H2 n2 a2 s2 => kc W2 σ2 F2 H2 n2 (a1.trans a2) s2
    | false =>
      rw [if_neg Bool.false_ne_true]
      exact h2 rfl F1 H1 σ D s1 (fun W2 σ2 F2 H2 n2 a2 s2 => kn W2 σ2 F2 H2 n2 (a1.trans a2) s2) (fun W2 σ2 r v F2 H2 n2 a2 s2 => kr W2 σ2 r v F2 H2 n2 (a1.trans a2) s2)
        (fun W2 σ2 F2 H2 n2 a2 s2 => kb W2 σ2 F2 H2 n2 (a1.trans a2) s2) fun W2 σ2 F2 H2 n2 a2 s2 => kc W2 σ2 F2 H2 n2 (a1.trans a2) s2
theorem ss_ifR (h : ET tc' W W1 a) (h1 : a = true → SS (tSeq tA uu) W1 P) (h2 : a = false → SS tB W1 ⟨fun _ => False, P.rt, P.bk, P.ct⟩) : SS (tSeq (tIfS tc' tA tB) uu) W P := fun F H σ D s kn kr kb kc =>
  h F H σ _ s fun F1 H1 a1 s1 => by
    cases a with
    | false =>
      rw [if_neg Bool.false_ne_true]
      exact h2 rfl F1 H1 σ { D with nx := uu D } s1 (fun _ _ _ _ z => z.elim) (fun W2 σ2 r v F2 H2 n2 a2 s2 => kr W2 σ2 r v F2 H2 n2 (a1.trans a2) s2)
        (fun W2 σ2 F2 H2 n2 a2 s2 => kb W2 σ2 F2 H2 n2 (a1.trans a2) s2) fun W2 σ2 F2 H2 n2 a2 s2 => kc W2 σ2 F2 H2 n2 (a1.trans a2) s2
    | true =>
      rw [if_pos rfl]
      exact h1 rfl F1 H1 σ D s1 (fun W2 σ2 F2 H2 n2 a2 s2 => kn W2 σ2 F2 H2 n2 (a1.trans a2) s2) (fun W2 σ2 r v F2 H2 n2 a2 s2 => kr W2 σ2 r v F2 H2 n2 (a1.trans a2) s2)
        (fun W2 σ2 F2 H2 n2 a2 s2 => kb W2 σ2 F2 H2 n2 (a1.trans a2) s2) fun W2 σ2 F2 H2 n2 a2 s2 => kc W2 σ2 F2 H2 n2 (a1.trans a2) s2
/-! several names at once, some of them given new lists -/
inductive Ds where
  | fz (r : R)
  | nw (c : OC)
def MOk (F' H' : Hp) : Hp → List Ds → List V → Prop
  | _, [], [] => True
  | H, .fz r :: ds, v :: vs => r.p F' v ∧ MOk F' H' H ds vs
  | H, .nw c :: ds, v :: vs => ∃ p o, v = .ref p ∧ H p = none ∧ H' p = some o ∧ F' p = none ∧ c.p F' p o ∧ MOk F' H' (upd H p o) ds vs
  | _, _, _ => False
theorem MOk.base {F' H' : Hp} : ∀ {ds : List Ds} {vs : List V} {H1 H2 : Hp}, (∀ a, H1 a = none → H2 a = none) → MOk F' H' H1 ds vs → MOk F' H' H2 ds vs
  | [], [], _, _, _, _ => trivial
  | .fz _ :: _, _ :: _, _, _, e, h => ⟨h.1, MOk.base e h.2⟩
  | .nw _ :: _, _ :: _, H1, H2, e, ⟨p, o, h1, h2, h3, h4, h5, h6⟩ => ⟨p, o, h1, e p h2, h3, h4, h5, MOk.base (fun a z => by
      by_cases q : a = p
      · subst q; rw [upd_same] at z; cases z
      · rw [upd_ne q] at z ⊢; exact e a z) h6⟩
  | [], _ :: _, _, _, _, h => h.elim
  | .fz _ :: _, [], _, _, _, h => h.elim
  | .nw _ :: _, [], _, _, _, h => h.elim
theorem MOk.len {F' H' : Hp} : ∀ {ds : List Ds} {vs : List V} {H : Hp}, MOk F' H' H ds vs → vs.length = ds.length
  | [], [], _, _ => rfl
  | .fz _ :: _, _ :: _, _, h => congrArg (· + 1) (MOk.len h.2)
  | .nw _ :: _, _ :: _, _, ⟨_, _, _, _, _, _, _, h⟩ => congrArg (· + 1) (MOk.len h)
  | [], _ :: _, _, h => h.elim
  | .fz _ :: _, [], _, h => h.elim
  | .nw _ :: _, [], _, h => h.elim
/-- a further object is frozen -/
theorem MOk.lay {F' H' : Hp} {q : Addr} {u : HO} (hq : H' q = none) : ∀ {ds : List Ds} {vs : List V} {H : Hp}, Same F' H' → MOk F' H' H ds vs → MOk (upd F' q u) (upd H' q u) H ds vs
  | [], [], _, _, _ => trivial
  | .fz r :: _, _ :: _, _, e, h => ⟨r.mono (fun a o z => by rw [upd_ne (ne_of_none (e a o z) hq)]; exact z) h.1, MOk.lay hq e h.2⟩
  | .nw c :: _, _ :: _, H, e, ⟨p, o, h1, h2, h3, h4, h5, h6⟩ => by
    have ne : p ≠ q := ne_of_none h3 hq
    exact ⟨p, o, h1, h2, by rw [upd_ne ne]; exact h3, by rw [upd_ne ne]; exact h4, c.mono (fun a o z => by rw [upd_ne (ne_of_none (e a o z) hq)]; exact z) h5, MOk.lay hq e h6⟩
  | [], _ :: _, _, _, h => h.elim
  | .fz _ :: _, [], _, _, h => h.elim
  | .nw _ :: _, [], _, _, h => h.elim
def AM (t : TA) (W W' : List Sl) (ds : List Ds) : Prop := ∀ (F H : Hp) (σ : L2.St) (Q : List V → Hp → Prop), Sat F H σ W →
  (∀ vs F' H', Rel F H (Own W σ) F' H' (Own W' σ) → Sat F' H' σ W' → (∀ a, Own W' σ a → ∃ o, H a = some o) → MOk F' H' H ds vs → Q vs H') → t σ H Q
theorem am_nil : AM tNil W W [] := fun F H σ Q s k => k [] F H Rel.refl s (fun a o => o.lt s) trivial
theorem am_fz {tr : TA} {ds : List Ds} (h : ES ta W W r) (hr : AM tr W W ds) : AM (tCons ta tr) W W (.fz r :: ds) := fun F H σ Q s k =>
  h F H σ _ s fun v F1 H1 a1 s1 e1 => hr F1 H1 σ _ s1 fun vs F2 H2 a2 s2 o2 e2 => k (v :: vs) F2 H2 (a1.trans a2) s2 (fun a o => o.lt s) ⟨r.mono a2.f e1, e2.base fun a z => a1.t a z⟩
/-- .. what comes first may change what is owned -/
theorem am_fzb {tr : TA} {ds : List Ds} (h : ES ta W W1 r) (hr : AM tr W1 W2 ds) (ho : ∀ (σ : L2.St) (a : Addr), Own W2 σ a → Own W σ a) : AM (tCons ta tr) W W2 (.fz r :: ds) := fun F H σ Q s k =>
  h F H σ _ s fun v F1 H1 a1 s1 e1 => hr F1 H1 σ _ s1 fun vs F2 H2 a2 s2 o2 e2 => k (v :: vs) F2 H2 (a1.trans a2) s2 (fun a o => (ho σ a o).lt s) ⟨r.mono a2.f e1, e2.base fun a z => a1.t a z⟩
theorem am_nw {tr : TA} {ds : List Ds} {c : OC} (h : ESN ta W W c) (hr : AM tr W W ds) : AM (tCons ta tr) W W (.nw c :: ds) := fun F H σ Q s k =>
  h F H σ _ s fun p o F1 H1 a1 s1 hp ho fp np hc => hr F1 H1 σ _ s1 fun vs F2 H2 a2 s2 o2 e2 => by
    have h2 : H2 p = some o := a2.h p o np ho
    have f2 : F2 p = none := by
      cases z : F2 p with
      | none => rfl
      | some u =>
        rcases a2.n p u z with y | y | y
        · rw [fp] at y; cases y
        · rw [ho] at y; cases y
        · exact (np y).elim
    refine k (.ref p :: vs) F2 H2 (a1.trans a2) s2 (fun a o => o.lt s) ⟨p, o, rfl, hp, h2, f2, c.mono a2.f hc, e2.base fun a z => ?_⟩
    by_cases q : a = p
    · subst q; rw [ho] at z; cases z
    · rw [upd_ne q]; exact a1.t a z
def putV : L2.St → List Nat → List V → L2.St
  | σ, i :: is, v :: vs => putV (σ.set i (some v)) is vs
  | σ, _, _ => σ
def putD : List Sl → List Nat → List Ds → List Sl
  | W, i :: is, .fz r :: ds => putD (W.set i (.fz r)) is ds
  | W, i :: is, .nw c :: ds => putD (W.set i (.ow c)) is ds
  | W, _, _ => W
theorem put_all {F H : Hp} : ∀ {is : List Nat} {ds : List Ds} {vs : List V} {σ : L2.St} {W : List Sl} {Hb : Hp}, Sat F H σ W → (∀ a, Own W σ a → ∃ o, Hb a = some o) → MOk F H Hb ds vs →
    Sat F H (putV σ is vs) (putD W is ds) ∧ ∀ a, Own (putD W is ds) (putV σ is vs) a → Own W σ a ∨ Hb a = none
  | [], [], [], σ, W, Hb, s, _, _ => ⟨s, fun _ o => .inl o⟩
  | [], .fz _ :: _, _ :: _, σ, W, Hb, s, _, _ => ⟨s, fun _ o => .inl o⟩
  | [], .nw _ :: _, _ :: _, σ, W, Hb, s, _, _ => ⟨s, fun _ o => .inl o⟩
  | _ :: _, [], [], σ, W, Hb, s, _, _ => ⟨s, fun _ o => .inl o⟩
  | i :: is, .fz r :: ds, v :: vs, σ, W, Hb, s, ho, h => by
    obtain ⟨s1, o1⟩ := put_all (is := is) (s.put (i := i) h.1) (fun a o => ho a o.put) h.2
    exact ⟨s1, fun a o => (o1 a o).imp (fun z => z.put) id⟩
  | i :: is, .nw c :: ds, v :: vs, σ, W, Hb, s, ho, ⟨p, o, e, h2, h3, h4, h5, h6⟩ => by
    subst e
    have np : ¬ Own W σ p := fun z => by
      obtain ⟨u, y⟩ := ho p z
      rw [h2] at y; cases y
    obtain ⟨s1, o1⟩ := put_all (is := is) (s.own (i := i) h3 h4 np h5) (fun a z => by
      rcases z.own with y | y
      · obtain ⟨u, q⟩ := ho a y
        exact ⟨u, by rw [upd_ne (fun e => by subst e; rw [h2] at q; cases q)]; exact q⟩
      · subst y; exact ⟨o, upd_same⟩) h6
    refine ⟨s1, fun a z => ?_⟩
    rcases o1 a z with y | y
    · rcases y.own with q | q
      · exact .inl q
      · subst q; exact .inr h2
    · by_cases q : a = p
      · subst q; rw [upd_same] at y; cases y
      · rw [upd_ne q] at y; exact .inr y
  | [], [], _ :: _, _, _, _, _, _, h => h.elim
  | _ :: _, [], _ :: _, _, _, _, _, _, h => h.elim
  | [], .fz _ :: _, [], _, _, _, _, _, h => h.elim
  | [], .nw _ :: _, [], _, _, _, _, _, h => h.elim
  | _ :: _, .fz _ :: _, [], _, _, _, _, _, h => h.elim
  | _ :: _, .nw _ :: _, [], _, _, _, _, _, h => h.elim
/-- a, b = e1, e2 -/
theorem ss_parM {i j : Nat} {tr : TA} {d1 d2 : Ds} (h : AM tr W W1 [d1, d2]) (k : P.nx (putD W1 [i, j] [d1, d2])) : SS (tPar i j tr) W P := fun F H σ D s kn _ _ _ =>
  h F H σ _ s fun vs F1 H1 a1 s1 o1 e1 => by
    match vs, e1.len with
    | [v, w], _ =>
      obtain ⟨s2, o2⟩ := put_all (is := [i, j]) s1 o1 e1
      exact ⟨v, w, rfl, kn _ _ F1 H1 k ⟨a1.f, a1.h, a1.n, a1.t, fun a m => (o2 a m).elim (a1.o a) .inr⟩ s2⟩
def gNames : List Nat → TGs
  | [] => gNil
  | i :: is => gCons (gName i) (gNames is)
theorem gNames_go {Q : L2.St → Hp → Prop} {H : Hp} : ∀ {is : List Nat} {vs : List V} {σ : L2.St}, vs.length = is.length → Q (putV σ is vs) H → gNames is vs σ H Q
  | [], [], _, _, q => ⟨rfl, q⟩
  | i :: is, v :: vs, σ, h, q => ⟨v, vs, rfl, gNames_go (is := is) (vs := vs) (by simpa using h) q⟩
  | [], _ :: _, _, h, _ => by cases h
  | _ :: _, [], _, h, _ => by cases h
/-- (a, b, ..) = (e1, e2, ..) by a tuple -/
theorem ss_tupM {tr : TA} {ds : List Ds} {n : Nat} (is : List Nat) (h : AM tr W W1 ds) (hn : is.length = n) (hd : ds.length = n) (hz : n ≤ 100000) (k : P.nx (putD W1 is ds)) : SS (tAsg (tTup tr) (gTup K n (gNames is))) W P := fun F H σ D s kn _ _ _ =>
  h F H σ _ s fun vs F1 H1 a1 s1 o1 e1 => by
    refine ⟨Nat.le_trans (by rw [e1.len, hd]; exact hz) (by decide), fun p hp => ⟨p, vs, rfl, .inl (.inl upd_same), e1.len.trans hd, gNames_go (e1.len.trans (hd.trans hn.symm)) ?_⟩⟩
    obtain ⟨s2, o2⟩ := put_all (is := is) (s1.lay (o := .tup vs) hp) (fun a o => o1 a o) (MOk.lay hp s1.ex e1)
    have a2 := a1.trans (Rel.lay (o := HO.tup vs) s1.ex hp)
    exact kn _ _ _ _ k ⟨a2.f, a2.h, a2.n, a2.t, fun a m => (o2 a m).elim (a2.o a) .inr⟩ s2
end
end Fw
end
section
set_option maxRecDepth 100000
namespace Fw
open PySem L2
def owPos (W : List Sl) : List Bool := W.map fun | .ow _ => true | _ => false
theorem own_pos {W W' : List Sl} {σ : L2.St} {a : Addr} (h : owPos W' = owPos W) (o : Own W' σ a) : Own W σ a := by
  obtain ⟨i, c, h1, h2⟩ := o
  have e : (owPos W')[i]? = some true := by unfold owPos; rw [List.getElem?_map, h1]; rfl
  rw [h] at e
  unfold owPos at e
  rw [List.getElem?_map] at e
  cases q : W[i]? with
  | none => rw [q] at e; cases e
  | some s =>
    rw [q] at e
    cases s with
    | ow d => exact ⟨i, d, q, h2⟩
    | no => cases e
    | fz r => cases e
section
variable {W W' W0 W1 W2 W3 : List Sl} {K : PySem.W.Frag} {ta tb tc te to tl : TE} {tc' tt : TT} {r ra rb : R} {x y z v : V} {a b : Bool} {ι : Type} {F H F' H' : Hp} {σ : L2.St} {E : XK} {P P1 : Post} {ts uu tA tB : TS} {g : TG}
variable {α β γ δ : Type}
theorem am_fzo {tr : TA} {ds : List Ds} (h : ES ta W W1 r) (hr : AM tr W1 W2 ds) (ho : owPos W2 = owPos W) : AM (tCons ta tr) W W2 (.fz r :: ds) := am_fzb h hr fun _ _ o => own_pos ho o
theorem am_nwo {tr : TA} {ds : List Ds} {c : OC} (h : ESN ta W W1 c) (hr : AM tr W1 W2 ds) (ho : owPos W2 = owPos W) : AM (tCons ta tr) W W2 (.nw c :: ds) := fun F H σ Q s k =>
  h F H σ _ s fun p o F1 H1 a1 s1 hp ho1 fp np hc => hr F1 H1 σ _ s1 fun vs F2 H2 a2 s2 o2 e2 => by
    have f2 : F2 p = none := by
      cases z : F2 p with
      | none => rfl
      | some u =>
        rcases a2.n p u z with y | y | y
        · rw [fp] at y; cases y
        · rw [ho1] at y; cases y
        · exact (np y).elim
    refine k (.ref p :: vs) F2 H2 (a1.trans a2) s2 (fun a o => (own_pos ho o).lt s) ⟨p, o, rfl, hp, a2.h p o np ho1, f2, c.mono a2.f hc, e2.base fun a z => ?_⟩
    by_cases q : a = p
    · subst q; rw [ho1] at z; cases z
    · rw [upd_ne q]; exact a1.t a z
/-- a built-in of a frozen thing that gives a plain value -/
theorem es_cbr {g : List V → Hp → VK → Prop} (ha : ES ta W W1 r) (hg : ∀ (F H : Hp) (v : V) (Q : VK), Same F H → r.p F v → Q z H → g [v] H Q) : ES (tCB g (tCons ta tNil)) W W1 (eV z) := fun F H σ Q s k =>
  ha F H σ _ s fun v F1 H1 a1 s1 e1 => hg F1 H1 v Q s1.ex e1 (k z F1 H1 a1 s1 rfl)
theorem all2_ints {F : Hp} : ∀ {l : List Int} {xs : List V}, All2 (l.map fun i => eI i) F xs → xs = l.map V.int
  | [], [], _ => rfl
  | i :: l, x :: xs, h => by
    have e : x = V.int i := h.1
    subst e
    rw [all2_ints h.2]; rfl
  | [], _ :: _, h => h.elim
  | _ :: _, [], h => h.elim
theorem es_sum {l : List Int} (ha : ES ta W W1 (eLs (fun i => eI i) l)) : ES (tCB (rSum K) (tCons ta tNil)) W W1 (eI l.sum) := es_cbr ha fun F H v Q e ⟨p, xs, h1, h2, h3⟩ q => by
  subst h1
  cases all2_ints h3
  exact ⟨p, l, rfl, .inl (.inl (e _ _ h2)), q⟩
/-- the greatest, the least of ints -/
def lmax : List Int → Int
  | [] => 0
  | [x] => x
  | x :: y :: l => let m := lmax (y :: l); if x ≥ m then x else m
def lmin : List Int → Int
  | [] => 0
  | [x] => x
  | x :: y :: l => let m := lmin (y :: l); if x ≤ m then x else m
theorem lmax_mem : ∀ {l : List Int}, l ≠ [] → lmax l ∈ l ∧ ∀ y ∈ l, y ≤ lmax l
  | [x], _ => ⟨by simp [lmax], by simp [lmax]⟩
  | x :: y :: l, _ => by
    obtain ⟨h1, h2⟩ := lmax_mem (l := y :: l) (by simp)
    show (if x ≥ lmax (y :: l) then x else lmax (y :: l)) ∈ _ ∧ ∀ z ∈ _, z ≤ (if x ≥ lmax (y :: l) then x else lmax (y :: l))
    by_cases q : x ≥ lmax (y :: l)
    · rw [if_pos q]
      exact ⟨List.mem_cons_self, fun z hz => (List.mem_cons.mp hz).elim (fun e => by omega) fun m => Int.le_trans (h2 z m) q⟩
    · rw [if_neg q]
      exact ⟨List.mem_cons_of_mem _ h1, fun z hz => (List.mem_cons.mp hz).elim (fun e => by omega) fun m => h2 z m⟩
theorem lmin_mem : ∀ {l : List Int}, l ≠ [] → lmin l ∈ l ∧ ∀ y ∈ l, lmin l ≤ y
  | [x], _ => ⟨by simp [lmin], by simp [lmin]⟩
  | x :: y :: l, _ => by
    obtain ⟨h1, h2⟩ := lmin_mem (l := y :: l) (by simp)
    show (if x ≤ lmin (y :: l) then x else lmin (y :: l)) ∈ _ ∧ ∀ z ∈ _, (if x ≤ lmin (y :: l) then x else lmin (y :: l)) ≤ z
    by_cases q : x ≤ lmin (y :: l)
    · rw [if_pos q]
      exact ⟨List.mem_cons_self, fun z hz => (List.mem_cons.mp hz).elim (fun e => by omega) fun m => Int.le_trans q (h2 z m)⟩
    · rw [if_neg q]
      exact ⟨List.mem_cons_of_mem _ h1, fun z hz => (List.mem_cons.mp hz).elim (fun e => by omega) fun m => h2 z m⟩
theorem es_maxL {l : List Int} (ha : ES ta W W1 (eLs (fun i => eI i) l)) (hl : l ≠ []) : ES (tCB (rMax K) (tCons ta tNil)) W W1 (eI (lmax l)) := es_cbr ha fun F H v Q e ⟨p, xs, h1, h2, h3⟩ q => by
  subst h1
  cases all2_ints h3
  refine ⟨p, l, rfl, .inl (.inl (e _ _ h2)), List.length_pos_iff.mpr hl, fun m hm hle => ?_⟩
  have em : m = lmax l := Int.le_antisymm ((lmax_mem hl).2 m hm) (hle _ (lmax_mem hl).1)
  rw [em]; exact q
theorem es_minL {l : List Int} (ha : ES ta W W1 (eLs (fun i => eI i) l)) (hl : l ≠ []) : ES (tCB (rMin K) (tCons ta tNil)) W W1 (eI (lmin l)) := es_cbr ha fun F H v Q e ⟨p, xs, h1, h2, h3⟩ q => by
  subst h1
  cases all2_ints h3
  refine ⟨p, l, rfl, .inl (.inl (e _ _ h2)), List.length_pos_iff.mpr hl, fun m hm hle => ?_⟩
  have em : m = lmin l := Int.le_antisymm (hle _ (lmin_mem hl).1) ((lmin_mem hl).2 m hm)
  rw [em]; exact q
/-- len of a list, of a tuple -/
theorem es_lenL {rs : List R} (ha : ES ta W W1 (eL rs)) : ES (tCB (fun xs H Q => ∃ p ys, xs = [.ref p] ∧ (SqL K H p ys ∨ SqT K H p ys) ∧ Q (.int ys.length) H) (tCons ta tNil)) W W1 (eI (rs.length : Int)) := es_cbr ha fun F H v Q e ⟨p, xs, h1, h2, h3⟩ q => by
  subst h1
  rw [← h3.len] at q
  exact ⟨p, xs, rfl, .inl (.inl (.inl (e _ _ h2))), q⟩
theorem es_lenLs {e : α → R} {l : List α} (ha : ES ta W W1 (eLs e l)) : ES (tCB (fun xs H Q => ∃ p ys, xs = [.ref p] ∧ (SqL K H p ys ∨ SqT K H p ys) ∧ Q (.int ys.length) H) (tCons ta tNil)) W W1 (eI (l.length : Int)) := by
  have h := es_lenL (K := K) ha
  rw [List.length_map] at h; exact h
theorem es_lenT {rs : List R} (ha : ES ta W W1 (eT K rs)) : ES (tCB (fun xs H Q => ∃ p ys, xs = [.ref p] ∧ (SqL K H p ys ∨ SqT K H p ys) ∧ Q (.int ys.length) H) (tCons ta tNil)) W W1 (eI (rs.length : Int)) := es_cbr ha fun F H v Q e ⟨p, xs, h1, h2, h3⟩ q => by
  subst h1
  rw [← h3.len] at q
  exact ⟨p, xs, rfl, .inr (sqT_up e h2), q⟩
/-- xs[i], a frozen list, an open index in bounds -/
def nth [Inhabited α] (l : List α) (i : Int) : α := l.getD i.toNat default
theorem nth_get [Inhabited α] {l : List α} {i : Int} (h : 0 ≤ i ∧ i < l.length) : l[i.toNat]? = some (nth l i) := by
  have hb : i.toNat < l.length := by omega
  unfold nth
  rw [List.getD_eq_getElem?_getD, List.getElem?_eq_getElem hb]; rfl
theorem es_ixL [Inhabited α] {e : α → R} {l : List α} {i : Int} (ha : ES ta W W1 (eLs e l)) (hi : ES tb W1 W2 (eI i)) (h : 0 ≤ i ∧ i < l.length) : ES (tOp (rIxL K) ta tb) W W2 (e (nth l i)) := fun F H σ Q s k =>
  ha F H σ _ s fun v F1 H1 a1 s1 ⟨p, xs, h1, h2, h3⟩ => hi F1 H1 σ _ s1 fun w F2 H2 a2 s2 e2 => by
    have e2' : w = V.int i := e2
    subst h1 e2'
    obtain ⟨x, z1, z2⟩ := h3.get' (i := i.toNat) (r := e (nth l i)) (by rw [List.getElem?_map, nth_get h]; rfl)
    have hx := atI_k z1
    rw [Int.toNat_of_nonneg h.1] at hx
    exact ⟨p, xs, i, x, rfl, rfl, .inl (.inl (s2.ex _ _ (a2.f _ _ h2))), hx, k x F2 H2 (a1.trans a2) s2 ((e (nth l i)).mono a2.f z2)⟩
/-- xs[-1] -/
theorem es_ixLast [Inhabited α] {e : α → R} {l : List α} (ha : ES ta W W1 (eLs e l)) (h : l ≠ []) : ES (tOp (rIxL K) ta (tUn (rU fun i => .int (-i)) (tC (.int 1)))) W W1 (e (nth l (l.length - 1))) := fun F H σ Q s k =>
  ha F H σ _ s fun v F1 H1 a1 s1 ⟨p, xs, h1, h2, h3⟩ => by
    subst h1
    have pos : 0 < l.length := List.length_pos_iff.mpr h
    have hb : ((l.length : Int) - 1).toNat = l.length - 1 := by omega
    have hn := nth_get (l := l) (i := (l.length : Int) - 1) (by omega)
    rw [hb] at hn
    obtain ⟨x, z1, z2⟩ := h3.get' (i := l.length - 1) (r := e (nth l (l.length - 1))) (by rw [List.getElem?_map, hn]; rfl)
    have el := h3.len
    rw [List.length_map] at el
    refine ⟨1, rfl, p, xs, -1, x, rfl, rfl, .inl (.inl (s1.ex _ _ h2)), ?_, k x F1 H1 a1 s1 z2⟩
    unfold atI ixN
    rw [if_neg (by omega), if_pos (by omega)]
    have e3 : (-1 + (xs.length : Int)).toNat = l.length - 1 := by omega
    show xs[(-1 + (xs.length : Int)).toNat]? = some x
    rw [e3]; exact z1
/-- a field of an instance -/
def eIns (C : Addr) (fs : List (Str × R)) : R := ⟨fun F v => ∃ p dx gs, v = .ref p ∧ F p = some (.ins C dx gs) ∧ gs.map Prod.fst = fs.map Prod.fst ∧ All2 (fs.map Prod.snd) F (gs.map Prod.snd),
  fun e ⟨p, dx, gs, h1, h2, h3, h4⟩ => ⟨p, dx, gs, h1, e _ _ h2, h3, h4.mono e⟩⟩
theorem ins_look {F : Hp} : ∀ {fs : List (Str × R)} {gs : List (Str × V)} {f : Str} {r : R}, gs.map Prod.fst = fs.map Prod.fst → All2 (fs.map Prod.snd) F (gs.map Prod.snd) → fs.lookup f = some r → ∃ v, gs.lookup f = some v ∧ r.p F v
  | (n, q) :: fs, (m, v) :: gs, f, r, e, h, l => by
    have en : m = n := (List.cons.inj e).1
    subst en
    unfold List.lookup at l ⊢
    by_cases z : (f == m) = true
    · rw [z] at l ⊢
      cases l
      exact ⟨v, rfl, h.1⟩
    · have z' : (f == m) = false := by simpa using z
      rw [z'] at l ⊢
      exact ins_look (List.cons.inj e).2 h.2 l
  | [], _, f, r, _, _, l => by cases l
  | _ :: _, [], _, _, _, h, _ => h.elim
theorem ins_none : ∀ {fs : List (Str × R)} {gs : List (Str × V)} {f : Str}, gs.map Prod.fst = fs.map Prod.fst → fs.lookup f = none → gs.lookup f = none
  | (n, q) :: fs, (m, v) :: gs, f, e, l => by
    have en : m = n := (List.cons.inj e).1
    subst en
    unfold List.lookup at l ⊢
    by_cases z : (f == m) = true
    · rw [z] at l; cases l
    · have z' : (f == m) = false := by simpa using z
      rw [z'] at l ⊢
      exact ins_none (List.cons.inj e).2 l
  | [], [], f, _, _ => rfl
  | [], _ :: _, _, e, _ => by cases e
  | _ :: _, [], _, e, _ => by cases e
theorem es_fld {C : Addr} {fs : List (Str × R)} {f : Str} (c : Cls K C) (n : NoAttr K C f) (ha : ES ta W W1 (eIns C fs)) (hf : fs.lookup f = some r) : ES (tFld K ta f) W W1 r := fun F H σ Q s k =>
  ha F H σ _ s fun v F1 H1 a1 s1 ⟨p, dx, gs, h1, h2, h3, h4⟩ => by
    obtain ⟨w, z1, z2⟩ := ins_look h3 h4 hf
    exact ⟨p, C, dx, gs, w, h1, s1.ex _ _ h2, c, n, z1, k w F1 H1 a1 s1 z2⟩
/-- o.m(..), o an instance -/
theorem es_meth {as : ι → List R} {ok : ι → Prop} {res : ι → R} {tr : TA} {C : Addr} {m : Str} {fs : List (Str × R)} (d : ι) (ho : ES to W W1 (eIns C fs)) (hm : fs.lookup m = none) (h : AS tr W1 W2 rs') (hd : as d = eIns C fs :: rs') (g : ok d) :
    ES (tMeth C m (spF as ok res) [] E to tr) W W2 (res d) := fun F H σ Q s k =>
  ho F H σ _ s fun v F1 H1 a1 s1 e1 => by
    obtain ⟨p, dx, gs, h1, h2, h3, h4⟩ := id e1
    refine ⟨p, dx, gs, h1, s1.ex _ _ h2, ins_none h3 hm, h F1 H1 σ _ s1 fun vs F2 H2 a2 s2 e2 => ?_⟩
    rw [List.append_nil]
    refine ⟨d, F2, g, s2.ex, by rw [hd]; exact ⟨(eIns C fs).mono a2.f e1, e2⟩, fun v F3 H3 q e3 hv => k v F3 H3 ((a1.trans a2).trans q.pure) (s2.pure q e3) hv⟩
/-- isinstance -/
theorem es_isi {c : V} {u t : Value} (ha : ES ta W W1 r) (hc : ClsV c u) (ht : ∀ (F H : Hp) (v : V), Same F H → r.p F v → TyX K H v t) (hk : PySem.W.kitOne K t u = some b) : ES (tCB (rIsi K) (tCons ta (tCons (tC c) tNil))) W W1 (eB b) := fun F H σ Q s k =>
  ha F H σ _ s fun v F1 H1 a1 s1 e1 => ⟨v, c, t, u, b, rfl, hc, ht F1 H1 v s1.ex e1, hk, k _ F1 H1 a1 s1 rfl⟩
theorem ty_int {i : Int} : ∀ (F H : Hp) (v : V), Same F H → (eI i).p F v → TyX K H v (.type "int") := fun F H v _ h => by
  have e : v = V.int i := h
  subst e; exact .base (.int i)
theorem ty_lst {rs : List R} : ∀ (F H : Hp) (v : V), Same F H → (eL rs).p F v → TyX K H v (.type "list") := fun F H v e ⟨p, xs, h1, h2, _⟩ => by
  subst h1; exact .base (.lst (e _ _ h2))
end
end Fw
end
section
set_option maxRecDepth 100000
namespace Fw
open PySem L2
structure Bag where
  a : Int
  c : Int
  t : Int
abbrev bagR (b : Bag) : List R := [eI b.a, eI b.c, eI b.t]
structure Tbl where
  capacity : Int
  rate : Int
  shift : Int
structure TblTxt (K : PySem.W.Frag) (mg : Str → Option Value) (C : Addr) : Prop where
  cl : Cls K C
  nC : NoAttr K C "own_capacity"
  nR : NoAttr K C "own_rate"
  nS : NoAttr K C "own_shift"
  mgT : mg "Table" = some (.ref C)
  isT : PySem.W.kitOne K (.ref C) (.ref C) = some true
  xa : PySem.W.findIn K (.ref C) "__class__" = some (some (.builtin "object.__class__"))
  xb : PySem.W.specialIn K (.builtin "object.__class__") "__get__" = some (some (.builtin "getset_descriptor.__get__"))
  xc : PySem.W.takesIn K (.builtin "object.__class__") = some true
  xd : PySem.W.mroIn K C (.type "object") = some true
instance : Inhabited Bag := ⟨⟨0, 0, 0⟩⟩
instance : Inhabited Tbl := ⟨⟨0, 0, 0⟩⟩
theorem sq_assoc {a b c : TS} : tSeq (tSeq a b) c = tSeq a (tSeq b c) := rfl
theorem sq_next {c : TS} : tSeq tNext c = c := rfl
section
variable {W W' W0 W1 W2 W3 : List Sl} {K : PySem.W.Frag} {ta tb tc te to tl : TE} {tc' tt : TT} {r ra rb : R} {x y z v : V} {a b : Bool} {ι : Type} {F H F' H' : Hp} {σ : L2.St} {E : XK} {P P1 : Post} {ts uu tA tB : TS} {g : TG}
variable {α β γ δ : Type}
theorem es_frs (e : α → R) (l : List α) (h : ESN te W W1 (oL (l.map e))) : ES te W W1 (eLs e l) := es_fr h
theorem es_shlL {i j : Int} (ha : ES ta W W1 (eI i)) (hb : ES tb W1 W2 (eI j)) (c : 0 ≤ j ∧ j ≤ 1000000) (d : i.natAbs < 2 ^ 64) : ES (tOp (rI CPow fun i j => .int (i * 2 ^ j.toNat)) ta tb) W W2 (eI (i * 2 ^ j.toNat)) := es_shl ha hb ⟨c.1, c.2, d⟩
theorem es_shlW {i j : Int} (ha : ES ta W W1 (eI i)) (hb : ES tb W1 W2 (eI j)) (c : CShl i j) : ES (tOp (rI CShl fun i j => .int (i * 2 ^ j.toNat)) ta tb) W W2 (eI (i * 2 ^ j.toNat)) := es_op ha hb fun _ _ q => ⟨i, j, rfl, rfl, c, q⟩
/-- xs + ys -/
theorem en_cat {e : α → R} {l m : List α} (ha : ES ta W W1 (eLs e l)) (hb : ES tb W1 W2 (eLs e m)) (c : l.length + m.length ≤ 16000000) : ESN (tOp rCat ta tb) W W2 (oL ((l ++ m).map e)) := fun F H σ Q s k =>
  ha F H σ _ s fun v F1 H1 a1 s1 ⟨p, xs, h1, h2, h3⟩ => hb F1 H1 σ _ s1 fun w F2 H2 a2 s2 ⟨q, ys, g1, g2, g3⟩ => by
    subst h1 g1
    have e1 := h3.len
    have e2 := g3.len
    rw [List.length_map] at e1 e2
    refine ⟨p, q, xs, ys, rfl, rfl, s2.ex _ _ (a2.f _ _ h2), s2.ex _ _ g2, Nat.le_trans (by rw [e1, e2]; exact c) (by decide), fun l' hl => ?_⟩
    have ex : Same H2 (upd H2 l' (.lst (xs ++ ys))) := fun a o q => by rw [upd_ne (ne_of_none q hl)]; exact q
    refine k l' _ F2 _ ((a1.trans a2).trans (Rel.grow ex)) (s2.grow ex) ((a1.trans a2).t _ hl) upd_same (s2.ex.free hl) (not_own s2 hl) ⟨nofun, _, rfl, ?_⟩
    rw [List.map_append]
    exact (h3.mono a2.f).app g3
theorem en_lcF (e : β → R) (f : α → β) {p : α → Bool} {l : List α} (h : ESN te W W1 (oL ((l.filter p).map fun x => e (f x)))) (hp : ∀ x, p x = true := by intro _; rfl) : ESN te W W1 (oL ((l.map f).map e)) := by
  rw [List.map_map]
  have : l.filter p = l := List.filter_eq_self.mpr fun x _ => hp x
  rw [this] at h
  exact h
theorem en_lcFT (e : β → R) (f : α → β) {p : α → Bool} {l : List α} (h : ESN te W W1 (oL ((l.filter p).map fun x => e (f x)))) : ESN te W W1 (oL (((l.filter p).map f).map e)) := by
  rw [List.map_map]; exact h
theorem ss_ifj (vA vB : α) (mk : α → List Sl) (h : ET tc' W W1 a) (hA : a = true → SS tA W1 ⟨fun W' => Wk W' (mk vA), P.rt, P.bk, P.ct⟩) (hB : a = false → SS tB W1 ⟨fun W' => Wk W' (mk vB), P.rt, P.bk, P.ct⟩)
    (k : ∀ x, x = (if a = true then vA else vB) → SS uu (mk x) P) : SS (tSeq (tIfS tc' tA tB) uu) W P := by
  refine ss_seqTo (mk (if a = true then vA else vB)) (ss_if h (fun q => ?_) fun q => ?_) (k _ rfl)
  · have e : (if a = true then vA else vB) = vA := if_pos q
    rw [e]; exact hA q
  · have e : (if a = true then vA else vB) = vB := if_neg (by rw [q]; exact Bool.false_ne_true)
    rw [e]; exact hB q
theorem ss_appendO {e : α → R} {x : α} {l0 l : List α} {i : Nat} {q0 q1 : Option Addr} (h0 : W[i]? = some (.ow (oLq q0 (l0.map e)))) (h : ES te W W1 (e x)) (h1 : W1[i]? = some (.ow (oLq q1 (l.map e)))) (hl : l.length < 16000000)
    (k : P.nx (W1.set i (.ow (oLq q1 ((l ++ [x]).map e))))) : SS (tDrop (tBM K "list" rAppend (tVar i) (tCons te tNil))) W P :=
  ss_append h0 h h1 (by rw [List.length_map]; exact hl) (by rw [List.map_append] at k; exact k)
def setLast (l : List α) (x : α) : List α := l.set (l.length - 1) x
theorem ss_setlastO {e : α → R} {x : α} {l : List α} {i : Nat} {q1 : Option Addr} (h : ES te W W1 (e x)) (h1 : W1[i]? = some (.ow (oLq q1 (l.map e)))) (hl : l ≠ []) (k : P.nx (W1.set i (.ow (oLq q1 ((setLast l x).map e))))) :
    SS (tAsg te (gSub (tVar i) (tUn (rU fun i => .int (-i)) (tC (.int 1))) rSetL)) W P :=
  ss_setlast h h1 (by simpa using hl) (by unfold setLast at k; rw [List.map_set] at k; rw [List.length_map]; exact k)
theorem ss_extendO {e : α → R} {m l0 l : List α} {i : Nat} {q0 q1 : Option Addr} (h0 : W[i]? = some (.ow (oLq q0 (l0.map e)))) (h : ES te W W1 (eLs e m)) (h1 : W1[i]? = some (.ow (oLq q1 (l.map e)))) (hl : l.length + m.length < 16000000)
    (k : P.nx (W1.set i (.ow (oLq q1 ((l ++ m).map e))))) : SS (tDrop (tBM K "list" rExtend (tVar i) (tCons te tNil))) W P := fun F H σ D s kn _ _ _ => by
  obtain ⟨p, o, e0, g1, _, ⟨_, xs, rfl, _⟩⟩ := s.ow i _ h0
  refine ⟨.ref p, e0, .inl ⟨rfl, xs, .inl (.inl g1)⟩, h F H σ _ s fun v F1 H1 a1 s1 ⟨q, zs, w1, w2, w3⟩ => ?_⟩
  subst w1
  obtain ⟨p', o', e0', y1, y2, ⟨yq, ys, rfl, y3⟩⟩ := s1.ow i _ h1
  rw [e0] at e0'; cases e0'
  have l1 := y3.len
  have l2 := w3.len
  rw [List.length_map] at l1 l2
  refine ⟨p, q, ys, zs, rfl, rfl, y1, s1.ex _ _ w2, Nat.le_trans (by rw [l1, l2]; exact Nat.le_of_lt hl) (by decide), kn _ _ _ _ k (a1.trans ⟨fun _ _ z => z, fun a u n z => ?_, fun _ _ z => .inl z, fun a z => ?_, fun a m => .inl ((Own.mut h1).mp m)⟩) (s1.mut h1 e0 ⟨yq, _, rfl, by rw [List.map_append]; exact y3.app w3⟩)⟩
  · rw [upd_ne (fun q : a = p => n (by rw [q]; exact ⟨i, _, h1, e0⟩))]; exact z
  · by_cases q : a = p
    · subst q; rw [upd_same] at z; cases z
    · rw [upd_ne q] at z; exact z
theorem es_ixLastO [Inhabited α] {e : α → R} {l : List α} {i : Nat} {q : Option Addr} (h0 : W[i]? = some (.ow (oLq q (l.map e)))) (h : l ≠ []) : ES (tOp (rIxL K) (tVar i) (tUn (rU fun i => .int (-i)) (tC (.int 1)))) W W (e (nth l (l.length - 1))) := fun F H σ Q s k => by
  obtain ⟨p, o, e0, g1, _, ⟨_, xs, rfl, h3⟩⟩ := s.ow i _ h0
  have pos : 0 < l.length := List.length_pos_iff.mpr h
  have hn := nth_get (l := l) (i := (l.length : Int) - 1) (by omega)
  have hb : ((l.length : Int) - 1).toNat = l.length - 1 := by omega
  rw [hb] at hn
  obtain ⟨x, z1, z2⟩ := h3.get' (i := l.length - 1) (r := e (nth l (l.length - 1))) (by rw [List.getElem?_map, hn]; rfl)
  have el := h3.len
  rw [List.length_map] at el
  refine ⟨.ref p, e0, 1, rfl, p, xs, -1, x, rfl, rfl, .inl (.inl g1), ?_, k x F H Rel.refl s z2⟩
  unfold atI ixN
  rw [if_neg (by omega), if_pos (by omega)]
  have e3 : (-1 + (xs.length : Int)).toNat = l.length - 1 := by omega
  show xs[(-1 + (xs.length : Int)).toNat]? = some x
  rw [e3]; exact z1
theorem es_lenO {e : α → R} {l : List α} {i : Nat} {q : Option Addr} (h0 : W[i]? = some (.ow (oLq q (l.map e)))) : ES (tCB (fun xs H Q => ∃ p ys, xs = [.ref p] ∧ (SqL K H p ys ∨ SqT K H p ys) ∧ Q (.int ys.length) H) (tCons (tVar i) tNil)) W W (eI (l.length : Int)) := fun F H σ Q s k => by
  obtain ⟨p, o, e0, g1, _, ⟨_, xs, rfl, h3⟩⟩ := s.ow i _ h0
  have el := h3.len
  rw [List.length_map] at el
  refine ⟨.ref p, e0, p, xs, rfl, .inl (.inl (.inl g1)), k _ F H Rel.refl s ?_⟩
  rw [el]; rfl
/-- an owned list is handed out -/
theorem ss_retO {e : α → R} {l : List α} {i : Nat} {q : Option Addr} (h0 : W[i]? = some (.ow (oLq q (l.map e)))) (k : P.rt (W.set i .no) (eLs e l)) : SS (tSeq (tRet (tVar i)) uu) W P := fun F H σ D s _ kr _ _ => by
  obtain ⟨p, o, e0, g1, g2, ⟨_, xs, rfl, h3⟩⟩ := s.ow i _ h0
  have hi : i < W.length := (List.getElem?_eq_some_iff.mp h0).1
  have wk : Wk W (W.set i .no) := by
    clear s k kr
    have go : ∀ (W : List Sl) (i : Nat), Wk W (W.set i .no) := fun W => by
      induction W with
      | nil => intro i; trivial
      | cons s W ih =>
        intro i
        cases i with
        | zero => exact ⟨.inl rfl, Wk.refl⟩
        | succ i => exact ⟨.inr rfl, ih i⟩
    exact go W i
  have s1 := s.weak wk
  have np : ¬ Own (W.set i .no) σ p := fun ⟨j, c, z1, z2⟩ => by
    by_cases e : i = j
    · subst e; rw [List.getElem?_set_self hi] at z1; cases z1
    · rw [List.getElem?_set_ne e] at z1
      exact e (s.ds i j _ _ p h0 z1 e0 z2)
  refine ⟨.ref p, e0, kr _ σ _ _ _ H k ((Rel.refl.sub fun a o => wk.sub o).freeze (p := p) (o := .lst xs) (.inr ⟨i, _, h0, e0⟩) g2) (s1.freeze g1 g2 np) ⟨p, xs, rfl, upd_same, h3.mono fun a o z => ?_⟩⟩
  rw [upd_ne (ne_of_none z g2)]; exact z
/-- a, b, c = e1, e2, e3 -/
theorem ss_parM3 {i j l : Nat} {tr : TA} {d1 d2 d3 : Ds} (h : AM tr W W1 [d1, d2, d3]) (k : P.nx (putD W1 [i, j, l] [d1, d2, d3])) : SS (tPar3 i j l tr) W P := fun F H σ D s kn _ _ _ =>
  h F H σ _ s fun vs F1 H1 a1 s1 o1 e1 => by
    match vs, e1.len with
    | [u, v, w], _ =>
      obtain ⟨s2, o2⟩ := put_all (is := [i, j, l]) s1 o1 e1
      exact ⟨u, v, w, rfl, kn _ _ F1 H1 k ⟨a1.f, a1.h, a1.n, a1.t, fun a m => (o2 a m).elim (a1.o a) .inr⟩ s2⟩
theorem ty_bl {i : Bool} : ∀ (F H : Hp) (v : V), Same F H → (eB i).p F v → TyX K H v (.type "bool") := fun F H v _ h => by
  have e : v = V.bl i := h
  subst e; exact .base (.bl i)
theorem ty_str {i : Str} : ∀ (F H : Hp) (v : V), Same F H → (eS i).p F v → TyX K H v (.type "str") := fun F H v _ h => by
  have e : v = V.str i := h
  subst e; exact .base (.str i)
theorem ty_tup {rs : List R} : ∀ (F H : Hp) (v : V), Same F H → (eT K rs).p F v → TyX K H v (.type "tuple") := fun F H v e ⟨p, xs, h1, h2, _⟩ => by
  subst h1
  cases h2 with
  | inl h => cases h with
    | inl h => exact .base (.tup (e _ _ h))
    | inr h => obtain ⟨o, h⟩ := h; exact .fTuple (e _ _ h)
  | inr h => obtain ⟨o, its, n, h1, h2, _⟩ := h; exact .kTuple h1 h2
theorem ty_ins {C : Addr} {fs : List (Str × R)} (cl : Cls K C) (xa : PySem.W.findIn K (.ref C) "__class__" = some (some (.builtin "object.__class__"))) (xb : PySem.W.specialIn K (.builtin "object.__class__") "__get__" = some (some (.builtin "getset_descriptor.__get__")))
    (xc : PySem.W.takesIn K (.builtin "object.__class__") = some true) (xd : PySem.W.mroIn K C (.type "object") = some true) : ∀ (F H : Hp) (v : V), Same F H → (eIns C fs).p F v → TyX K H v (.ref C) := fun F H v e ⟨p, dx, gs, h1, h2, _⟩ => by
  subst h1
  exact .base (.ins (e _ _ h2) cl xa xb xc xd)
/-- what comes out is new and owned -/
def spN {ι : Type} (as : ι → List R) (ok : ι → Prop) (c : ι → List R) : Sp := fun vs H Q _ => ∃ (d : ι) (F : Hp), ok d ∧ Same F H ∧ All2 (as d) F vs ∧
  ∀ p o F' H', Rel F H Nob F' H' Nob → Same F' H' → H p = none → H' p = some (.lst o) → F' p = none → All2 (c d) F' o → Q (.ref p) H'
theorem en_call {as : ι → List R} {ok : ι → Prop} {c : ι → List R} {tr : TA} (d : ι) (h : AS tr W W1 (as d)) (gd : ok d) : ESN (tCall (spN as ok c) [] E tr) W W1 (oL (c d)) := fun F H σ Q s k =>
  h F H σ _ s fun vs F1 H1 a1 s1 e1 => by
    rw [List.append_nil]
    refine ⟨d, F1, gd, s1.ex, e1, fun p o F2 H2 q e2 hp ho fp hc => k p _ F2 H2 (a1.trans q.pure) (s1.pure q e2) (a1.t p hp) ho fp ?_ ⟨nofun, o, rfl, hc⟩⟩
    exact fun ow => by
      obtain ⟨u, z⟩ := ow.lt s1
      rw [hp] at z; cases z
/-- a def that hands out a new list: the post -/
def nwPost (c : List R) : Post := ⟨fun _ => False, fun _ _ => False, fun _ => False, fun _ => False⟩
/-- a body that ends in `return` of what is new -/
def SSN (t : TS) (W : List Sl) (c : List R) : Prop := ∀ (F H : Hp) (σ : L2.St) (D : Ends), Sat F H σ W →
  (∀ p o F' H', Rel F H (Own W σ) F' H' (fun a => Own W σ a) → Same F' H' → H p = none → H' p = some (.lst o) → F' p = none → All2 c F' o → D.rt (.ref p) H') → t D σ H
theorem sn_ret {c : List R} (h : ESN te W W (oL c)) : SSN (tSeq (tRet te) uu) W c := fun F H σ D s k =>
  h F H σ _ s fun p o F1 H1 a1 s1 hp ho fp np ⟨_, xs, e, hc⟩ => by
    subst e
    exact k p xs F1 H1 a1 s1.ex hp ho fp hc
theorem def_N {as : ι → List R} {ok : ι → Prop} {c : ι → List R} {N : List Str} {vs : List V} {H : Hp} {Q : VK} {E : XK} (h : spN as ok c vs H Q E) (hN : ∀ d, (as d).length ≤ N.length)
    (k : ∀ d, ok d → SSN ts (slF (as d) N.length) (c d)) : ts { nx := fun _ H' => Q .non H', rt := Q } (L2.start N vs) H := by
  obtain ⟨d, F, hok, ex, ha, hq⟩ := h
  have el := ha.len
  have s : Sat F H (L2.start N vs) (slF (as d) N.length) := by
    refine ⟨ex, ?_, fun i r h => ?_, fun i c h => (slF_ow h).elim, fun i j c e p h => (slF_ow h).elim⟩
    · unfold L2.start slF; simp [el]
    · obtain ⟨x, z1, z2⟩ := ha.get' (slF_fz h)
      exact ⟨x, start_at z1, z2⟩
  have own0 : ∀ a, ¬ Own (slF (as d) N.length) (L2.start N vs) a := fun a ⟨i, c, h, _⟩ => slF_ow h
  refine k d hok F H (L2.start N vs) _ s fun p o F' H' a e hp ho fp hc => hq p o F' H' ⟨a.f, fun x o n h => a.h x o (own0 x) h, fun x o h => (a.n x o h).imp id (Or.imp id fun m => own0 x m), a.t, fun x m => m.elim⟩ e hp ho fp hc
/-- what a def hands back: a value; a value and what its first argument becomes -/
def FP (e : α → R) (v : α) : Post := ⟨fun _ => e v = eN, fun _ r => r = e v, fun _ => False, fun _ => False⟩
def BP (e : α → R) (p : Addr) (v : α × Bag) : Post := ⟨fun W' => e v.1 = eN ∧ W'[0]? = some (.ow (oLq (some p) (bagR v.2))), fun W' r => r = e v.1 ∧ W'[0]? = some (.ow (oLq (some p) (bagR v.2))), fun _ => False, fun _ => False⟩
def noNx (P : Post) : Post := ⟨fun _ => False, P.rt, P.bk, P.ct⟩
theorem ss_ifLv (Q : α → Post) {vA vB : α} (h : ET tc' W W1 a) (hA : a = true → SS tA W1 (noNx (Q vA))) (hB : a = false → SS (tSeq tB uu) W1 (Q vB)) : SS (tSeq (tIfS tc' tA tB) uu) W (Q (if a = true then vA else vB)) := by
  refine ss_ifL h (fun q => ?_) fun q => ?_
  · rw [if_pos q]; exact hA q
  · rw [if_neg (by rw [q]; exact Bool.false_ne_true)]; exact hB q
theorem ss_ifRv (Q : α → Post) {vA vB : α} (h : ET tc' W W1 a) (hA : a = true → SS (tSeq tA uu) W1 (Q vA)) (hB : a = false → SS tB W1 (noNx (Q vB))) : SS (tSeq (tIfS tc' tA tB) uu) W (Q (if a = true then vA else vB)) := by
  refine ss_ifR h (fun q => ?_) fun q => ?_
  · rw [if_pos q]; exact hA q
  · rw [if_neg (by rw [q]; exact Bool.false_ne_true)]; exact hB q
/-- list(range(a, b)) -/
theorem rgV_rng {a b : Int} : rgV a b = (rng a b).map V.int := by unfold rgV rng; rw [List.map_map]; rfl
theorem all2_of_ints {F : Hp} : ∀ l : List Int, All2 (l.map eI) F (l.map V.int)
  | [] => trivial
  | _ :: l => ⟨rfl, all2_of_ints l⟩
theorem en_listRg2 {i j : Int} (ha : ES ta W W1 (eI i)) (hb : ES tb W1 W2 (eI j)) (c : RgOk i j) : ESN (tLstRg (tRg2 ta tb)) W W2 (oL ((rng i j).map eI)) := fun F H σ Q s k =>
  ha F H σ _ s fun v F1 H1 a1 s1 e1 => hb F1 H1 σ _ s1 fun w F2 H2 a2 s2 e2 => by
    have e1' : v = V.int i := e1
    have e2' : w = V.int j := e2
    subst e1' e2'
    refine ⟨i, j, rfl, rfl, c, fun q hq => ?_⟩
    have ex : Same H2 (upd H2 q (.lst (rgV i j))) := fun a o z => by rw [upd_ne (ne_of_none z hq)]; exact z
    exact k q _ F2 _ ((a1.trans a2).trans (Rel.grow ex)) (s2.grow ex) ((a1.trans a2).t _ hq) upd_same (s2.ex.free hq) (not_own s2 hq) ⟨nofun, _, rfl, by rw [rgV_rng]; exact all2_of_ints _⟩
theorem en_listRg1 {j : Int} (hb : ES tb W W1 (eI j)) (c : RgOk 0 j) : ESN (tLstRg (tRg1 tb)) W W1 (oL ((rng 0 j).map eI)) := fun F H σ Q s k =>
  hb F H σ _ s fun w F2 H2 a2 s2 e2 => by
    have e2' : w = V.int j := e2
    subst e2'
    refine ⟨j, rfl, c, fun q hq => ?_⟩
    have ex : Same H2 (upd H2 q (.lst (rgV 0 j))) := fun a o z => by rw [upd_ne (ne_of_none z hq)]; exact z
    exact k q _ F2 _ (a2.trans (Rel.grow ex)) (s2.grow ex) (a2.t _ hq) upd_same (s2.ex.free hq) (not_own s2 hq) ⟨nofun, _, rfl, by rw [rgV_rng]; exact all2_of_ints _⟩
end
end Fw
end
section
set_option maxRecDepth 100000
namespace Fw
open PySem L2
/-- what is walked gives these items, one a turn -/
def Wlk (J : It) (F1 : Hp) (rs : List R) : Prop := ∀ (i : Nat) (F H : Hp), Same F1 F → Same F H →
  (∀ r, rs[i]? = some r → J.go i H ∧ ∀ x H', J.yld i H x H' → ∃ F', Rel F H Nob F' H' Nob ∧ Same F' H' ∧ r.p F' x) ∧ (rs.length ≤ i → J.stop i H)
def IS (wi : TI) (W W' : List Sl) (rs : List R) : Prop := ∀ (F H : Hp) (σ : L2.St) (Q : It → Hp → Prop), Sat F H σ W →
  (∀ J F' H', Rel F H (Own W σ) F' H' (Own W' σ) → Sat F' H' σ W' → Wlk J F' rs → Q J H') → wi σ H Q
section
variable {W W' W0 W1 W2 W3 : List Sl} {K : PySem.W.Frag} {ta tb tc te to tl : TE} {tc' tt : TT} {r ra rb : R} {x y z v : V} {a b : Bool} {ι : Type} {F H F' H' : Hp} {σ : L2.St} {E : XK} {P P1 : Post} {ts uu tA tB : TS} {g : TG} {wi : TI}
variable {α β γ δ ρ : Type}
theorem is_list {e : α → R} {l : List α} (h : ES tl W W1 (eLs e l)) : IS (iList K tl) W W1 (l.map e) := fun F H σ Q s k =>
  h F H σ _ s fun v F1 H1 a1 s1 ⟨p, xs, e1, e2, e3⟩ => by
    refine ⟨p, e1, ⟨xs, .inl (.inl (s1.ex _ _ e2))⟩, k (Itl K p) F1 H1 a1 s1 fun i F' H' f1 f2 => ⟨fun r hr => ?_, fun hl => ?_⟩⟩
    · obtain ⟨x, z1, z2⟩ := e3.get' hr
      have q : SqL K H' p xs := .inl (.inl (f2 _ _ (f1 _ _ e2)))
      refine ⟨⟨xs, x, q, z1⟩, fun y H'' ⟨u1, u2⟩ => ?_⟩
      subst u1
      have ey := u2 xs q
      rw [z1] at ey; cases ey
      exact ⟨F', Rel.refl, f2, r.mono f1 z2⟩
    · exact ⟨xs, .inl (.inl (f2 _ _ (f1 _ _ e2))), by rw [e3.len]; exact hl⟩
theorem is_tup {rs : List R} (h : ES tl W W1 (eT K rs)) : IS (iTup K tl) W W1 rs := fun F H σ Q s k =>
  h F H σ _ s fun v F1 H1 a1 s1 ⟨p, xs, e1, e2, e3⟩ => by
    refine ⟨p, e1, ⟨xs, sqT_up s1.ex e2⟩, k (Itt K p) F1 H1 a1 s1 fun i F' H' f1 f2 => ⟨fun r hr => ?_, fun hl => ?_⟩⟩
    · obtain ⟨x, z1, z2⟩ := e3.get' hr
      have q : SqT K H' p xs := sqT_up f2 (sqT_up f1 e2)
      refine ⟨⟨xs, x, q, z1⟩, fun y H'' ⟨u1, u2⟩ => ?_⟩
      subst u1
      have ey := u2 xs q
      rw [z1] at ey; cases ey
      exact ⟨F', Rel.refl, f2, r.mono f1 z2⟩
    · exact ⟨xs, sqT_up f2 (sqT_up f1 e2), by rw [e3.len]; exact hl⟩
theorem wlk_rng {lo n : Int} : Wlk (Itr lo (n - lo).toNat) F ((rng lo n).map eI) := fun i F' H' f1 f2 => ⟨fun r hr => by
  rw [List.getElem?_map] at hr
  have hi : i < (n - lo).toNat := by
    cases q : (rng lo n)[i]? with
    | none => rw [q] at hr; cases hr
    | some x => rw [← rng_len]; exact (List.getElem?_eq_some_iff.mp q).1
  rw [rng_at hi] at hr
  cases hr
  refine ⟨hi, fun x H'' ⟨u1, u2⟩ => ?_⟩
  subst u1
  exact ⟨F', Rel.refl, f2, u2⟩, fun hl => by rw [List.length_map, rng_len] at hl; exact hl⟩
theorem is_rng1 {tr : TA} {n : Int} (h : AS tr W W1 [eI n]) (hn : -(2 ^ 62) ≤ n ∧ n < 2 ^ 62) : IS (iRng1 tr) W W1 ((rng 0 n).map eI) := fun F H σ Q s k =>
  h F H σ _ s fun vs F1 H1 a1 s1 e1 => by
    match vs, e1 with
    | [v], e1 =>
      have e : v = V.int n := e1.1
      subst e
      have q := k _ F1 H1 a1 s1 (wlk_rng (lo := 0) (n := n))
      have en : (n - 0).toNat = n.toNat := by omega
      rw [en] at q
      exact ⟨n, rfl, hn.1, hn.2, q⟩
    | [], e1 => exact e1.elim
    | _ :: _ :: _, e1 => exact e1.2.elim
theorem is_rng2 {tr : TA} {lo n : Int} (h : AS tr W W1 [eI lo, eI n]) (hn : -(2 ^ 62) ≤ lo ∧ lo < 2 ^ 62 ∧ -(2 ^ 62) ≤ n ∧ n < 2 ^ 62) : IS (iRng2 tr) W W1 ((rng lo n).map eI) := fun F H σ Q s k =>
  h F H σ _ s fun vs F1 H1 a1 s1 e1 => by
    match vs, e1 with
    | [v, w], e1 =>
      have e : v = V.int lo := e1.1
      have e' : w = V.int n := e1.2.1
      subst e e'
      exact ⟨lo, n, rfl, hn, k _ F1 H1 a1 s1 wlk_rng⟩
    | [], e1 => exact e1.elim
    | [_], e1 => exact e1.2.elim
    | _ :: _ :: _ :: _, e1 => exact e1.2.2.elim
@[irreducible] def enumI (l : List α) : List (Int × α) := l.zipIdx.map fun p => ((p.2 : Int), p.1)
theorem enumI_at {l : List α} {i : Nat} : (enumI l)[i]? = (l[i]?).map fun x => ((i : Int), x) := by
  unfold enumI
  rw [List.getElem?_map, List.getElem?_zipIdx]
  cases l[i]? with
  | none => rfl
  | some x => simp
theorem enumI_len {l : List α} : (enumI l).length = l.length := by unfold enumI; simp
/-- a new pair is laid -/
theorem pair_new {T : Addr} {xs : List V} {rs : List R} (f2 : Same F H) (hT : H T = none) (h : All2 rs F xs) : ∃ F', Rel F H Nob F' (upd H T (.tup xs)) Nob ∧ Same F' (upd H T (.tup xs)) ∧ (eT K rs).p F' (.ref T) := by
  have fT := f2.free hT
  refine ⟨upd F T (.tup xs), Rel.lay f2 hT, fun a o z => ?_, T, xs, rfl, .inl (.inl upd_same), h.mono fun a o z => by rw [upd_ne (ne_of_none z fT)]; exact z⟩
  by_cases q : a = T
  · subst q; rw [upd_same] at z; cases z; exact upd_same
  · rw [upd_ne q] at z ⊢; exact f2 a o z
theorem is_enum {e : α → R} {l : List α} (h : ES tl W W1 (eLs e l)) : IS (iEnum K (tCons tl tNil)) W W1 ((enumI l).map (eP2 K eI e)) := fun F H σ Q s k =>
  h F H σ _ s fun v F1 H1 a1 s1 ⟨p, xs, e1, e2, e3⟩ => by
    subst e1
    refine ⟨p, xs, rfl, .inl (.inl (s1.ex _ _ e2)), k (Ite K p) F1 H1 a1 s1 fun i F' H' f1 f2 => ⟨fun r hr => ?_, fun hl => ?_⟩⟩
    · rw [List.getElem?_map, enumI_at] at hr
      cases q : l[i]? with
      | none => rw [q] at hr; cases hr
      | some x0 =>
        rw [q] at hr; cases hr
        obtain ⟨x, z1, z2⟩ := e3.get' (i := i) (r := e x0) (by rw [List.getElem?_map, q]; rfl)
        have qs : SqL K H' p xs := .inl (.inl (f2 _ _ (f1 _ _ e2)))
        refine ⟨⟨xs, x, qs, z1⟩, fun y H'' ⟨T, x', u1, u2, u3, u4⟩ => ?_⟩
        subst u1 u3
        have ey := u4 xs qs
        rw [z1] at ey; cases ey
        exact pair_new f2 u2 ⟨rfl, (e x0).mono f1 z2, trivial⟩
    · refine ⟨xs, .inl (.inl (f2 _ _ (f1 _ _ e2))), ?_⟩
      rw [e3.len, List.length_map]
      rw [List.length_map, enumI_len] at hl; exact hl
theorem is_zip {e : α → R} {f : β → R} {l : List α} {m : List β} (h : ES ta W W1 (eLs e l)) (h' : ES tb W1 W2 (eLs f m)) : IS (iZip K (tCons ta (tCons tb tNil))) W W2 ((l.zip m).map (eP2 K e f)) := fun F H σ Q s k =>
  h F H σ _ s fun v F1 H1 a1 s1 ⟨p, xs, e1, e2, e3⟩ => h' F1 H1 σ _ s1 fun w F2 H2 a2 s2 ⟨q, ys, g1, g2, g3⟩ => by
    subst e1 g1
    have e2' := a2.f _ _ e2
    have e3' := e3.mono a2.f
    refine ⟨p, q, xs, ys, rfl, .inl (.inl (s2.ex _ _ e2')), .inl (.inl (s2.ex _ _ g2)), k (Itz K p q) F2 H2 (a1.trans a2) s2 fun i F' H' f1 f2 => ⟨fun r hr => ?_, fun hl => ?_⟩⟩
    · rw [List.getElem?_map] at hr
      cases qz : (l.zip m)[i]? with
      | none => rw [qz] at hr; cases hr
      | some xy =>
        rw [qz] at hr; cases hr
        obtain ⟨x0, y0⟩ := xy
        obtain ⟨q1, q2⟩ := List.getElem?_zip_eq_some.mp qz
        obtain ⟨x, z1, z2⟩ := e3'.get' (i := i) (r := e x0) (by rw [List.getElem?_map, q1]; rfl)
        obtain ⟨y, y1, y2⟩ := g3.get' (i := i) (r := f y0) (by rw [List.getElem?_map, q2]; rfl)
        have qs : SqL K H' p xs := .inl (.inl (f2 _ _ (f1 _ _ e2')))
        have qt : SqL K H' q ys := .inl (.inl (f2 _ _ (f1 _ _ g2)))
        refine ⟨⟨xs, ys, x, y, qs, qt, z1, y1⟩, fun w H'' ⟨T, x', y', u1, u2, u3, u4, u5⟩ => ?_⟩
        subst u1 u3
        have ex := u4 xs qs
        rw [z1] at ex; cases ex
        have ey := u5 ys qt
        rw [y1] at ey; cases ey
        exact pair_new f2 u2 ⟨(e x0).mono f1 z2, (f y0).mono f1 y2, trivial⟩
    · refine ⟨xs, ys, .inl (.inl (f2 _ _ (f1 _ _ e2'))), .inl (.inl (f2 _ _ (f1 _ _ g2))), ?_⟩
      rw [List.length_map, List.length_zip] at hl
      rw [e3.len, g3.len, List.length_map, List.length_map]
      omega
/-- for over any source -/
theorem ss_forS {tb : TS} {rs : List R} (I : Nat → List Sl → Prop) (h : IS wi W W1 rs) (h0 : I 0 W1)
    (hs : ∀ i r W', rs[i]? = some r → I i W' → ∃ W2 is, GS g r W' W2 is ∧ SS tb W2 ⟨I (i + 1), P.rt, P.nx, I (i + 1)⟩) (hd : ∀ W', I rs.length W' → P.nx W') : SS (tFor wi g tb) W P := fun F H σ D s kn kr kb kc =>
  h F H σ _ s fun J F1 H1 a1 s1 hw => by
    refine ⟨fun i m σ' H' => m = rs.length - i ∧ i ≤ rs.length ∧ ∃ W' F', I i W' ∧ Rel F1 H1 (Own W1 σ) F' H' (Own W' σ') ∧ Sat F' H' σ' W', ⟨rs.length, by simp, Nat.zero_le _, W1, F1, h0, Rel.refl, s1⟩, ?_⟩
    rintro i m σ' H' ⟨rfl, hi, W', F', hI, q, s'⟩
    obtain ⟨w1, w2⟩ := hw i F' H' q.f s'.ex
    by_cases hlt : i < rs.length
    · have hr : rs[i]? = some rs[i] := List.getElem?_eq_getElem hlt
      obtain ⟨go, yl⟩ := w1 _ hr
      obtain ⟨W2, is, hg, hb⟩ := hs i _ W' hr hI
      refine .inr ⟨go, fun σ' H' => ∃ W' F', I (i + 1) W' ∧ Rel F1 H1 (Own W1 σ) F' H' (Own W' σ') ∧ Sat F' H' σ' W', fun σ2 H2 z => ⟨rs.length - (i + 1), by omega, rfl, hlt, z⟩, fun x H2 y => ?_⟩
      obtain ⟨F2, q2, e2, hx⟩ := yl x H2 y
      have s2 := s'.pure q2 e2
      refine hg F2 H2 σ' x _ s2 hx fun σ3 o3 s3 _ => hb F2 H2 σ3 _ s3 ?_ ?_ ?_ ?_
      · exact fun W4 σ4 F4 H4 n4 a4 s4 => ⟨W4, F4, n4, (q.trans q2.pure).trans ((Rel.refl.sub o3).trans a4), s4⟩
      · exact fun W4 σ4 r4 v4 F4 H4 n4 a4 s4 y4 => kr W4 σ4 r4 v4 F4 H4 n4 (a1.trans ((q.trans q2.pure).trans ((Rel.refl.sub o3).trans a4))) s4 y4
      · exact fun W4 σ4 F4 H4 n4 a4 s4 => kn W4 σ4 F4 H4 n4 (a1.trans ((q.trans q2.pure).trans ((Rel.refl.sub o3).trans a4))) s4
      · exact fun W4 σ4 F4 H4 n4 a4 s4 => ⟨W4, F4, n4, (q.trans q2.pure).trans ((Rel.refl.sub o3).trans a4), s4⟩
    · have e : i = rs.length := by omega
      subst e
      exact .inl ⟨w2 (Nat.le_refl _), kn W' σ' F' H' (hd W' hI) (a1.trans q) s'⟩
theorem sf_S {e : α → R} {l : List α} (mk : β → List Sl) (bd : β → α → β) (ok : β → α → Prop) (s0 : β) (h : IS wi W W1 (l.map e)) (w : Wk W1 (mk s0)) (hg : okF ok bd s0 l)
    (hs : ∀ s x, x ∈ l → ok s x → ∃ W2 is, GS g (e x) (mk s) W2 is ∧ SS ts W2 ⟨fun W' => Wk W' (mk (bd s x)), P.rt, fun _ => False, fun W' => Wk W' (mk (bd s x))⟩) (hd : ∀ W', Wk W' (mk (l.foldl bd s0)) → P.nx W') : SS (tFor wi g ts) W P := by
  refine ss_forS (fun i W' => Wk W' (mk ((l.take i).foldl bd s0))) h (by simpa using w) (fun i r W' hr hi => ?_) fun W' hw => hd W' (by rw [List.length_map, List.take_length] at hw; exact hw)
  rw [List.getElem?_map] at hr
  cases q : l[i]? with
  | none => rw [q] at hr; cases hr
  | some x =>
    rw [q] at hr
    have er : e x = r := Option.some.inj hr
    subst er
    obtain ⟨W2, is, h1, h2⟩ := hs _ x (List.mem_of_getElem? q) (okF_at hg q)
    rw [foldl_take q]
    exact ⟨W2, is, fun F H σ v Q s hv k => h1 F H σ v Q (s.weak hi) hv fun σ' o s' d => k σ' (fun a z => hi.sub (o a z)) s' d, h2.imp (fun _ z => z) (fun _ _ z => z) (fun _ z => z.elim) fun _ z => z⟩
/-- .. whose turns may hand something back -/
def loopR (bd : β → α → ρ ⊕ β) : β → List α → ρ ⊕ β
  | s, [] => .inr s
  | s, x :: l => match bd s x with
    | .inl r => .inl r
    | .inr s' => loopR bd s' l
def okR (ok : β → α → Prop) (bd : β → α → ρ ⊕ β) : β → List α → Prop
  | _, [] => True
  | s, x :: l => ok s x ∧ match bd s x with
    | .inl _ => True
    | .inr s' => okR ok bd s' l
def LQ (mk : β → List Sl) (Q : γ → Post) (vR : ρ → γ) : ρ ⊕ β → Post
  | .inl r => ⟨fun _ => False, (Q (vR r)).rt, fun _ => False, fun _ => False⟩
  | .inr s => ⟨fun W' => Wk W' (mk s), fun _ _ => False, fun _ => False, fun W' => Wk W' (mk s)⟩
def sumC (vR : ρ → γ) (vN : β → γ) : ρ ⊕ β → γ
  | .inl r => vR r
  | .inr s => vN s
theorem sf_SR {e : α → R} {l : List α} (mk : β → List Sl) (bd : β → α → ρ ⊕ β) (ok : β → α → Prop) (s0 : β) (Q : γ → Post) (vR : ρ → γ) (vN : β → γ) (h : IS wi W W1 (l.map e)) (w : Wk W1 (mk s0)) (hg : okR ok bd s0 l)
    (hs : ∀ s x, x ∈ l → ok s x → ∃ W2 is, GS g (e x) (mk s) W2 is ∧ SS ts W2 (LQ mk Q vR (bd s x))) (hd : ∀ s, loopR bd s0 l = .inr s → SS uu (mk s) (Q (vN s))) :
    SS (tSeq (tFor wi g ts) uu) W (Q (sumC vR vN (loopR bd s0 l))) := by
  refine ss_seq (fun W' => ∃ s, loopR bd s0 l = .inr s ∧ Wk W' (mk s)) ?_ (fun W' ⟨s, e1, e2⟩ => by rw [e1]; exact (hd s e1).weak e2)
  refine ss_forS (fun i W' => ∃ s, Wk W' (mk s) ∧ loopR bd s (l.drop i) = loopR bd s0 l ∧ okR ok bd s (l.drop i)) h ⟨s0, w, rfl, hg⟩ (fun i r W' hr ⟨s, z1, z2, z3⟩ => ?_) fun W' ⟨s, z1, z2, _⟩ => ⟨s, by rw [List.length_map, List.drop_length] at z2; exact z2.symm, z1⟩
  rw [List.getElem?_map] at hr
  cases q : l[i]? with
  | none => rw [q] at hr; cases hr
  | some x =>
    rw [q] at hr
    have er : e x = r := Option.some.inj hr
    subst er
    have ed : l.drop i = x :: l.drop (i + 1) := by
      have hi := (List.getElem?_eq_some_iff.mp q).1
      rw [List.drop_eq_getElem_cons hi]
      rw [List.getElem?_eq_getElem hi] at q
      cases q; rfl
    rw [ed] at z2 z3
    obtain ⟨W2, is, h1, h2⟩ := hs s x (List.mem_of_getElem? q) z3.1
    refine ⟨W2, is, fun F H σ v Q s hv k => h1 F H σ v Q (s.weak z1) hv fun σ' o s' d => k σ' (fun a z => z1.sub (o a z)) s' d, ?_⟩
    have z4 := z3.2
    cases eb : bd s x with
    | inl r =>
      rw [eb] at h2
      simp only [loopR, eb] at z2
      refine h2.imp (fun _ z => z.elim) (fun W' r' z => ?_) (fun W' z => z.elim) fun W' z => z.elim
      show (Q (sumC vR vN (loopR bd s0 l))).rt W' r'
      rw [← z2]; exact z
    | inr s' =>
      rw [eb] at h2
      simp only [loopR, eb] at z2
      simp only [eb] at z4
      exact h2.imp (fun _ z => ⟨s', z, z2, z4⟩) (fun _ _ z => z.elim) (fun _ z => z.elim) fun _ z => ⟨s', z, z2, z4⟩
theorem ci_go {F1 H1 : Hp} {D : Addr} {rs : List R} {acc : List V} {vs is : List Nat} {p : Bool} {xv : V} (hD : H1 D = none) (s1 : Sat F1 H1 σ W1) (q : Rel F1 H1 Nob F H Nob) (ex : Same F H) (fD : F D = none) (hDl : H D = some (.lst acc)) (ha : All2 rs F acc) (hx : ra.p F xv) (hl : rs.length < 16000000)
    (hg : GS g ra (blW W1 vs) W2 is) (his : ∀ j ∈ is, j ∈ vs) (ht : ET tt W2 W2 p) (he : p = true → ES te W2 W2 rb) :
    g xv (wipe σ vs) H fun σ2 H2 => wipe σ2 vs = wipe σ vs ∧ tt σ2 H2 fun b H3 =>
      if b = true then te σ2 H3 fun y H4 => ∃ acc, H4 D = some (.lst acc) ∧ acc.length < sizeLine ∧ CI F1 H1 D (if p = true then rs ++ [rb] else rs) (upd H4 D (.lst (acc ++ [y]))) else CI F1 H1 D (if p = true then rs ++ [rb] else rs) H3 := by
  obtain ⟨sw, _⟩ := (s1.pure q ex).wipe vs
  refine hg F H (wipe σ vs) xv _ sw.fr hx fun σ2 o2 s2 d2 => ⟨wipe_eq (d2.1.trans (wipe_length σ vs)) d2.2 his, ?_⟩
  have none2 : ∀ a, ¬ Own W2 σ2 a := fun a o => own_fr (o2 a o)
  have up : ∀ {F F' H H' : Hp}, Rel F H (Own W2 σ2) F' H' (Own W2 σ2) → Rel F H Nob F' H' Nob := fun {F F' H H'} a =>
    ⟨a.f, fun x o n h => a.h x o (none2 x) h, fun x o h => (a.n x o h).imp id (Or.imp id fun m => none2 x m), a.t, fun x m => .inl m⟩
  refine ht F H σ2 _ s2 fun F3 H3 a3 s3 => ?_
  have q3 := q.trans (up a3)
  have hD3 : H3 D = some (.lst acc) := (up a3).h D _ (fun z => z) hDl
  have fresh : ∀ {F' H' : Hp}, Rel F1 H1 Nob F' H' Nob → Rel F H Nob F' H' Nob → F' D = none := fun {F' H'} a b => by
    cases z : F' D with
    | none => rfl
    | some u =>
      rcases b.n D u z with y | y | y
      · rw [fD] at y; cases y
      · rw [hDl] at y; cases y
      · exact y.elim
  cases p with
  | false =>
    rw [if_neg Bool.false_ne_true, if_neg Bool.false_ne_true]
    exact ⟨F3, acc, q3, s3.ex, fresh q3 (up a3), hD3, ha.mono a3.f⟩
  | true =>
    rw [if_pos rfl, if_pos rfl]
    refine he rfl F3 H3 σ2 _ s3 fun y F4 H4 a4 s4 hy => ?_
    have q4 := q3.trans (up a4)
    have f4 := fresh q4 ((up a3).trans (up a4))
    refine ⟨acc, (up a4).h D _ (fun z => z) hD3, Nat.lt_of_lt_of_le (by rw [ha.len]; exact hl) (by decide), F4, acc ++ [y], ?_, fun a o h => ?_, f4, upd_same, (ha.mono (fun a o h => a4.f a o (a3.f a o h))).app ⟨hy, trivial⟩⟩
    · refine ⟨q4.f, fun a o n h => ?_, q4.n, fun a h => ?_, fun _ m => m.elim⟩
      · rw [upd_ne (ne_of_none h hD)]; exact q4.h a o n h
      · by_cases e : a = D
        · subst e; exact hD
        · rw [upd_ne e] at h; exact q4.t a h
    · rw [upd_ne (ne_of_none h f4)]; exact s4.ex a o h
theorem en_lcS {e : α → R} {l : List α} {f : α → R} {vs is : List Nat} (p : α → Bool) (W2 : α → List Sl) (h : IS wi W W1 (l.map e)) (hz : l.length < 16000000) (his : ∀ j ∈ is, j ∈ vs)
    (hg : ∀ x, GS g (e x) (blW W1 vs) (W2 x) is) (ht : ∀ x ∈ l, ET tt (W2 x) (W2 x) (p x)) (he : ∀ x ∈ l, p x = true → ES te (W2 x) (W2 x) (f x)) :
    ESN (tLc wi g tt te vs) W W1 (oL ((l.filter p).map f)) := fun F H σ Q s k =>
  h F H σ _ s fun J F1 H1 a1 s1 hw D hD => by
    have fD : F1 D = none := s1.ex.free hD
    refine ⟨fun i m H' => m = l.length - i ∧ i ≤ l.length ∧ CI F1 H1 D (lcR p f (l.take i)) H', ⟨l.length, by simp, Nat.zero_le _, F1, [], Rel.grow fun a o h => ?_, fun a o h => ?_, fD, upd_same, by simp [lcR, All2]⟩, ?_⟩
    · rw [upd_ne (ne_of_none h hD)]; exact h
    · rw [upd_ne (ne_of_none h fD)]; exact s1.ex a o h
    rintro i m H' ⟨rfl, hi, F', acc, q, ex, f', hDl, ha⟩
    obtain ⟨w1, w2⟩ := hw i F' H' q.f ex
    by_cases hlt : i < l.length
    · have hy : l[i]? = some l[i] := List.getElem?_eq_getElem hlt
      have my := List.mem_of_getElem? hy
      obtain ⟨go, yl⟩ := w1 (e l[i]) (by rw [List.getElem?_map, hy]; rfl)
      refine .inr ⟨go, CI F1 H1 D (lcR p f (l.take (i + 1))), fun H2 z => ⟨l.length - (i + 1), by omega, rfl, hlt, z⟩, fun x H2 y => ?_⟩
      obtain ⟨F2, q2, e2, hx⟩ := yl x H2 y
      have d2 : H2 D = some (.lst acc) := q2.h D _ (fun z => z) hDl
      have f2 : F2 D = none := by
        cases z : F2 D with
        | none => rfl
        | some u =>
          rcases q2.n D u z with y | y | y
          · rw [f'] at y; cases y
          · rw [hDl] at y; cases y
          · exact y.elim
      rw [lcR_take hy]
      exact ci_go hD s1 (q.trans q2) e2 f2 d2 (ha.mono q2.f) hx (by have := lcR_len (p := p) (f := f) (l := l.take i); have := List.length_take_le' i l; omega) (hg l[i]) his (ht _ my) (he _ my)
    · have e : i = l.length := by omega
      subst e
      rw [List.take_length] at ha
      exact .inl ⟨w2 (by rw [List.length_map]; exact Nat.le_refl _), k D _ F' H' (a1.trans q.pure) (s1.pure q ex) (a1.t D hD) hDl f' (fun o => by
        obtain ⟨u, z⟩ := o.lt s1
        rw [hD] at z; cases z) ⟨nofun, acc, rfl, ha⟩⟩
end
end Fw
end
section
set_option maxRecDepth 100000
namespace Fw
open PySem L2
/-- frozen things that are data -/
class DatE (K : PySem.W.Frag) {α : Type} (e : α → R) where
  d : α → PyData
  dep : Nat
  ok : ∀ {F H : Hp} {v : V} {x : α}, Same F H → (e x).p F v → Dp K H v (d x)
  lay : ∀ x, (d x).canLay0 = true
  dpt : ∀ x, (d x).depth ≤ dep
  eqv : ∀ x y, PyData.eqv (d x) (d y) = true ↔ x = y
  nod : ∀ x, (d x).hasDict = false
instance {K : PySem.W.Frag} : DatE K eI where
  d := .int
  dep := 0
  ok := fun _ h => by
    cases (show _ = V.int _ from h)
    exact .int _
  lay := fun _ => rfl
  dpt := fun _ => by simp [PyData.depth]
  eqv := fun x y => by simp [PyData.eqv]
  nod := fun _ => rfl
instance {K : PySem.W.Frag} : DatE K eB where
  d := .bool
  dep := 0
  ok := fun _ h => by
    cases (show _ = V.bl _ from h)
    exact .bl _
  lay := fun _ => rfl
  dpt := fun _ => by simp [PyData.depth]
  eqv := fun x y => by simp [PyData.eqv]
  nod := fun _ => rfl
theorem dpAll {K : PySem.W.Frag} {α : Type} {e : α → R} [D : DatE K e] {F H : Hp} (f : Same F H) : ∀ {l : List α} {xs : List V}, All2 (l.map e) F xs → DpAll K H xs (l.map (D.d))
  | [], [], _ => .nil
  | _ :: _, _ :: _, h => .cons (D.ok f h.1) (dpAll f h.2)
  | [], _ :: _, h => h.elim
  | _ :: _, [], h => h.elim
theorem layAll {K : PySem.W.Frag} {α : Type} {e : α → R} [D : DatE K e] : ∀ l : List α, PyData.canLayAll0 (l.map D.d) = true
  | [] => rfl
  | x :: l => by simp [PyData.canLayAll0, D.lay x, layAll l]
theorem eqvAll_iff {K : PySem.W.Frag} {α : Type} {e : α → R} [D : DatE K e] : ∀ l m : List α, PyData.eqvAll (l.map D.d) (m.map D.d) = true ↔ l = m
  | [], [] => by simp [PyData.eqvAll]
  | x :: l, y :: m => by simp [PyData.eqvAll, D.eqv, eqvAll_iff l m]
  | [], _ :: _ => by simp [PyData.eqvAll]
  | _ :: _, [] => by simp [PyData.eqvAll]
theorem depAll {K : PySem.W.Frag} {α : Type} {e : α → R} [D : DatE K e] : ∀ l : List α, PyData.depthAll (l.map D.d) ≤ D.dep
  | [] => by simp [PyData.depthAll]
  | x :: l => by
    have h1 := D.dpt x
    have h2 := depAll (D := D) l
    simp only [List.map_cons, PyData.depthAll]
    omega
theorem nodAll {K : PySem.W.Frag} {α : Type} {e : α → R} [D : DatE K e] : ∀ l : List α, PyData.hasDictAll (l.map D.d) = false
  | [] => rfl
  | x :: l => by simp [PyData.hasDictAll, D.nod x, nodAll l]
instance datLs {K : PySem.W.Frag} {α : Type} {e : α → R} [D : DatE K e] : DatE K (eLs e) where
  d := fun l => .list (l.map D.d)
  dep := D.dep + 1
  ok := fun f ⟨p, xs, h1, h2, h3⟩ => by
    subst h1
    exact .lst (.inl (.inl (f _ _ h2))) (dpAll f h3)
  lay := fun l => by show PyData.canLayAll0 _ = true; exact layAll l
  dpt := fun l => by
    have h := depAll (D := D) l
    simp only [PyData.depth]
    omega
  eqv := fun l m => by show PyData.eqvAll _ _ = true ↔ _; exact eqvAll_iff l m
  nod := fun l => by show PyData.hasDictAll _ = false; exact nodAll l
instance {K : PySem.W.Frag} {α β : Type} {e : α → R} {f : β → R} [D : DatE K e] [D' : DatE K f] : DatE K (eP2 K e f) where
  d := fun x => .tuple [D.d x.1, D'.d x.2]
  dep := max D.dep D'.dep + 1
  ok := fun f ⟨p, xs, h1, h2, h3⟩ => by
    subst h1
    match xs, h3 with
    | [x, y], h3 => exact .tup (sqT_up f h2) (.cons (D.ok f h3.1) (.cons (D'.ok f h3.2.1) .nil))
    | [], h3 => exact h3.elim
    | [_], h3 => exact h3.2.elim
    | _ :: _ :: _ :: _, h3 => exact h3.2.2.elim
  lay := fun x => by simp [PyData.canLay0, PyData.canLayAll0, D.lay, D'.lay]
  dpt := fun x => by
    have h1 := D.dpt x.1
    have h2 := D'.dpt x.2
    simp only [PyData.depth, PyData.depthAll]
    omega
  eqv := fun x y => by
    obtain ⟨x1, x2⟩ := x
    obtain ⟨y1, y2⟩ := y
    simp [PyData.eqv, PyData.eqvAll, D.eqv, D'.eqv]
  nod := fun x => by simp [PyData.hasDict, PyData.hasDictAll, D.nod, D'.nod]
instance {K : PySem.W.Frag} {α β γ : Type} {e : α → R} {f : β → R} {g : γ → R} [D : DatE K e] [D' : DatE K f] [D'' : DatE K g] : DatE K (eP3 K e f g) where
  d := fun x => .tuple [D.d x.1, D'.d x.2.1, D''.d x.2.2]
  dep := max D.dep (max D'.dep D''.dep) + 1
  ok := fun f ⟨p, xs, h1, h2, h3⟩ => by
    subst h1
    match xs, h3 with
    | [x, y, z], h3 => exact .tup (sqT_up f h2) (.cons (D.ok f h3.1) (.cons (D'.ok f h3.2.1) (.cons (D''.ok f h3.2.2.1) .nil)))
    | [], h3 => exact h3.elim
    | [_], h3 => exact h3.2.elim
    | [_, _], h3 => exact h3.2.2.elim
    | _ :: _ :: _ :: _ :: _, h3 => exact h3.2.2.2.elim
  lay := fun x => by simp [PyData.canLay0, PyData.canLayAll0, D.lay, D'.lay, D''.lay]
  dpt := fun x => by
    have h1 := D.dpt x.1
    have h2 := D'.dpt x.2.1
    have h3 := D''.dpt x.2.2
    simp only [PyData.depth, PyData.depthAll]
    omega
  eqv := fun x y => by
    obtain ⟨x1, x2, x3⟩ := x
    obtain ⟨y1, y2, y3⟩ := y
    simp [PyData.eqv, PyData.eqvAll, D.eqv, D'.eqv, D''.eqv]
  nod := fun x => by simp [PyData.hasDict, PyData.hasDictAll, D.nod, D'.nod, D''.nod]
section
variable {W W' W0 W1 W2 W3 : List Sl} {K : PySem.W.Frag} {ta tb tc te to tl : TE} {r ra rb : R} {a b : Bool} {F H F' H' : Hp} {σ : L2.St} {E : XK}
variable {α β γ δ ρ : Type}
theorem shp {e : α → R} [D : DatE K e] (h : D.dep ≤ 64) (x : α) : SeqAt.shaped (D.d x) = true := by
  unfold SeqAt.shaped
  rw [D.lay x, decide_eq_true (Nat.le_trans (D.dpt x) h)]; rfl
theorem es_eqDat {e : α → R} [D : DatE K e] [DecidableEq α] {x y : α} (ha : ES ta W W1 (e x)) (hb : ES tb W1 W2 (e y)) (h : D.dep ≤ 64 := by decide) : ES (tOp (rEqD K) ta tb) W W2 (eB (decide (x = y))) := fun F H σ Q s k =>
  ha F H σ _ s fun v F1 H1 a1 s1 e1 => hb F1 H1 σ _ s1 fun w F2 H2 a2 s2 e2 => by
    have eq : PyData.eqv (D.d x) (D.d y) = decide (x = y) := by
      rw [Bool.eq_iff_iff, D.eqv, decide_eq_true_iff]
    refine ⟨D.d x, D.d y, D.ok s2.ex ((e x).mono a2.f e1), D.ok s2.ex e2, shp h x, shp h y, ?_⟩
    rw [eq]; exact k _ F2 H2 (a1.trans a2) s2 rfl
theorem es_neDat {e : α → R} [D : DatE K e] [DecidableEq α] {x y : α} (ha : ES ta W W1 (e x)) (hb : ES tb W1 W2 (e y)) (h : D.dep ≤ 64 := by decide) : ES (tOp (rNeD K) ta tb) W W2 (eB (!decide (x = y))) := fun F H σ Q s k =>
  ha F H σ _ s fun v F1 H1 a1 s1 e1 => hb F1 H1 σ _ s1 fun w F2 H2 a2 s2 e2 => by
    have eq : PyData.eqv (D.d x) (D.d y) = decide (x = y) := by
      rw [Bool.eq_iff_iff, D.eqv, decide_eq_true_iff]
    refine ⟨D.d x, D.d y, D.ok s2.ex ((e x).mono a2.f e1), D.ok s2.ex e2, shp h x, shp h y, ?_⟩
    rw [eq]; exact k _ F2 H2 (a1.trans a2) s2 rfl
theorem eqv_nil (ds : List PyData) : PyData.eqv (.list ds) (.list []) = ds.isEmpty := by cases ds <;> simp [PyData.eqv, PyData.eqvAll]
theorem es_neNil {e : α → R} [D : DatE K e] {l : List α} (ha : ES ta W W1 (eLs e l)) (h : D.dep + 1 ≤ 64 := by decide) : ES (tOp (rNeD K) ta (tLst tNil)) W W1 (eB (!l.isEmpty)) := fun F H σ Q s k =>
  ha F H σ _ s fun v F1 H1 a1 s1 e1 => ⟨Nat.zero_le _, fun p hp => by
    have ex : Same H1 (upd H1 p (.lst [])) := fun a o z => by rw [upd_ne (ne_of_none z hp)]; exact z
    refine ⟨(datLs (K := K) (e := e)).d l, .list [], (datLs (K := K) (e := e)).ok (fun a o z => ex a o (s1.ex a o z)) e1, .lst (.inl (.inl upd_same)) .nil, shp (K := K) (e := eLs e) h l, by decide +kernel, ?_⟩
    have eq : PyData.eqv ((datLs (K := K) (e := e)).d l) (.list []) = l.isEmpty := by
      show PyData.eqv (PyData.list (l.map D.d)) (.list []) = l.isEmpty
      rw [eqv_nil]
      cases l <;> rfl
    rw [eq]; exact k _ F1 _ (a1.trans (Rel.grow ex)) (s1.grow ex) rfl⟩
theorem es_eqNil {e : α → R} [D : DatE K e] {l : List α} (ha : ES ta W W1 (eLs e l)) (h : D.dep + 1 ≤ 64 := by decide) : ES (tOp (rEqD K) ta (tLst tNil)) W W1 (eB l.isEmpty) := fun F H σ Q s k =>
  ha F H σ _ s fun v F1 H1 a1 s1 e1 => ⟨Nat.zero_le _, fun p hp => by
    have ex : Same H1 (upd H1 p (.lst [])) := fun a o z => by rw [upd_ne (ne_of_none z hp)]; exact z
    refine ⟨(datLs (K := K) (e := e)).d l, .list [], (datLs (K := K) (e := e)).ok (fun a o z => ex a o (s1.ex a o z)) e1, .lst (.inl (.inl upd_same)) .nil, shp (K := K) (e := eLs e) h l, by decide +kernel, ?_⟩
    have eq : PyData.eqv ((datLs (K := K) (e := e)).d l) (.list []) = l.isEmpty := by
      show PyData.eqv (PyData.list (l.map D.d)) (.list []) = l.isEmpty
      rw [eqv_nil]
      cases l <;> rfl
    rw [eq]; exact k _ F1 _ (a1.trans (Rel.grow ex)) (s1.grow ex) rfl⟩
/-- repr -/
def reprI (i : Int) : Str := toString i
theorem es_reprI {i : Int} (ha : ES ta W W1 (eI i)) (h : i.natAbs.log2 < 1920) : ES (tCB (fun xs H Q => ∃ i, xs = [.int i] ∧ i.natAbs.log2 < 1920 ∧ Q (.str (toString i)) H) (tCons ta tNil)) W W1 (eS (reprI i)) := es_cb1 ha fun _ _ q => ⟨i, rfl, h, q⟩
def rReprD (K : PySem.W.Frag) : List V → Hp → VK → Prop := fun xs H Q => ∃ a d, xs = [.ref a] ∧ Dp K H (.ref a) d ∧ d.showable = true ∧ d.hasDict = false ∧ d.depth ≤ 60 ∧ d.shown.length ≤ sizeLine ∧ Q (.str d.shown) H
theorem call_reprD {X : Cx} (hG : X.A.guards = some []) {k : Nat} (hr : Room k X.A) : CallR X (.builtin "repr") (rReprD X.K) := by
  intro pins s σ H xs us Q I r h
  obtain ⟨a, d, e, hd, h1, h2, h3, h4, q⟩ := h
  subst e
  obtain ⟨u, e, ru⟩ := vals1 r
  subst e
  obtain ⟨as, rd⟩ := Dp.reads I d _ u hd ru
  cases (show u = Value.ref a from ru)
  have hun := hr.un
  exact repr_of_reads' rd h1 (fun z => by rw [h2] at z; cases z) hG (by omega) (fun _ _ z => z) (fun h' u tk hk => ⟨.str d.shown, H, I.kept (t' := tk) hk, ⟨_, rfl⟩, q⟩) h4
def reprD (K : PySem.W.Frag) {α : Type} (e : α → R) [D : DatE K e] (x : α) : Str := (D.d x).shown
def ReprOk (K : PySem.W.Frag) {α : Type} (e : α → R) [D : DatE K e] (x : α) : Prop := (D.d x).showable = true ∧ (D.d x).shown.length ≤ sizeLine
theorem es_reprD {e : α → R} [D : DatE K e] {x : α} (ha : ES ta W W1 (e x)) (h : ReprOk K e x) (hv : ∀ F v, (e x).p F v → ∃ a, v = .ref a) (hd : D.dep ≤ 60 := by decide) : ES (tCB (rReprD K) (tCons ta tNil)) W W1 (eS (reprD K e x)) := es_cbr ha fun F H v Q f hp q => by
  obtain ⟨a, rfl⟩ := hv F v hp
  exact ⟨a, D.d x, rfl, D.ok f hp, h.1, D.nod x, Nat.le_trans (D.dpt x) hd, h.2, q⟩
theorem rf_L {e : α → R} {l : List α} : ∀ F v, (eLs e l).p F v → ∃ a, v = .ref a := fun F v ⟨p, _, h, _⟩ => ⟨p, h⟩
theorem rf_T {rs : List R} : ∀ F v, (eT K rs).p F v → ∃ a, v = .ref a := fun F v ⟨p, _, h, _⟩ => ⟨p, h⟩
/-- the length of a text -/
theorem es_lenS {x : Str} (ha : ES ta W W1 (eS x)) (h : x.length ≤ sizeLine) : ES (tCB (fun xs H Q => ∃ z, xs = [.str z] ∧ z.length ≤ sizeLine ∧ Q (.int z.length) H) (tCons ta tNil)) W W1 (eI (x.length : Int)) := es_cb1 ha fun _ _ q => ⟨x, rfl, h, q⟩
end
end Fw
end
section
set_option maxRecDepth 100000
namespace Fw
open PySem L2
/-- an owned instance -/
def oI (q : Option Addr) (C : Addr) (fs : List (Str × R)) : OC := ⟨fun F a o => (∀ p, q = some p → a = p) ∧ ∃ dx gs, o = .ins C dx gs ∧ gs.map Prod.fst = fs.map Prod.fst ∧ All2 (fs.map Prod.snd) F (gs.map Prod.snd),
  fun e ⟨z, dx, gs, h1, h2, h3⟩ => ⟨z, dx, gs, h1, h2, h3.mono e⟩⟩
def putR (f : Str) (r : R) : List (Str × R) → List (Str × R)
  | [] => [(f, r)]
  | (g, x) :: l => if g = f then (g, r) :: l else (g, x) :: putR f r l
theorem putR_ok {F : Hp} {f : Str} {r : R} {v : V} (h : r.p F v) : ∀ {fs : List (Str × R)} {gs : List (Str × V)}, gs.map Prod.fst = fs.map Prod.fst → All2 (fs.map Prod.snd) F (gs.map Prod.snd) →
    (putF f v gs).map Prod.fst = (putR f r fs).map Prod.fst ∧ All2 ((putR f r fs).map Prod.snd) F ((putF f v gs).map Prod.snd)
  | [], [], _, _ => ⟨rfl, h, trivial⟩
  | (n, q) :: fs, (m, w) :: gs, e, k => by
    have en : m = n := (List.cons.inj e).1
    subst en
    have ih := putR_ok (f := f) h (List.cons.inj e).2 k.2
    show ((if m = f then (m, v) :: gs else (m, w) :: putF f v gs)).map Prod.fst = (if m = f then (m, r) :: fs else (m, q) :: putR f r fs).map Prod.fst ∧
      All2 ((if m = f then (m, r) :: fs else (m, q) :: putR f r fs).map Prod.snd) F ((if m = f then (m, v) :: gs else (m, w) :: putF f v gs).map Prod.snd)
    by_cases z : m = f
    · rw [if_pos z, if_pos z]
      exact ⟨e, h, k.2⟩
    · rw [if_neg z, if_neg z]
      exact ⟨congrArg (m :: ·) ih.1, k.1, ih.2⟩
  | [], _ :: _, e, _ => by cases e
  | _ :: _, [], e, _ => by cases e
/-- the promise of an __init__ -/
def spI {ι : Type} (C : Addr) (as : ι → List R) (ok : ι → Prop) (fs : ι → List (Str × R)) : Sp := fun vs H Q _ => ∃ (d : ι) (F : Hp) (p dx : Addr) (ws : List V), vs = .ref p :: ws ∧ ok d ∧ Same F H ∧
  H p = some (.ins C dx []) ∧ F p = none ∧ All2 (as d) F ws ∧
  ∀ F' H' dx' gs, Rel F H (fun a => a = p) F' H' (fun a => a = p) → Same F' H' → H' p = some (.ins C dx' gs) → F' p = none → gs.map Prod.fst = (fs d).map Prod.fst → All2 ((fs d).map Prod.snd) F' (gs.map Prod.snd) → Q .non H'
section
variable {W W' W0 W1 W2 W3 : List Sl} {K : PySem.W.Frag} {ta tb tc te to tl tv : TE} {r ra rb : R} {a b : Bool} {F H F' H' : Hp} {σ : L2.St} {E : XK} {P : Post} {ts uu : TS}
variable {α β γ δ ρ ι : Type}
theorem ss_fld {i : Nat} {q : Option Addr} {C : Addr} {fs : List (Str × R)} {f : Str} (c : Cls K C) (n : NoAttr K C f) (h : ES tv W W1 r) (h1 : W1[i]? = some (.ow (oI q C fs))) (hl : fs.length < 1000) (k : P.nx (W1.set i (.ow (oI q C (putR f r fs))))) :
    SS (sFld K (tVar i) tv f) W P := fun F H σ D s kn _ _ _ =>
  h F H σ _ s fun v F1 H1 a1 s1 e1 => by
    obtain ⟨p, o, e0, y1, y2, ⟨yq, dx, gs, rfl, y3, y4⟩⟩ := s1.ow i _ h1
    have el : gs.length = fs.length := by have := congrArg List.length y3; simpa using this
    obtain ⟨z1, z2⟩ := putR_ok (f := f) e1 y3 y4
    refine ⟨.ref p, e0, p, C, dx, gs, rfl, y1, c, n, by rw [el]; exact hl, kn _ _ _ _ k (a1.trans ⟨fun _ _ z => z, fun a u n z => ?_, fun _ _ z => .inl z, fun a z => ?_, fun a m => .inl ((Own.mut h1).mp m)⟩) (s1.mut h1 e0 ⟨yq, dx, _, rfl, z1, z2⟩)⟩
    · rw [upd_ne (fun q : a = p => n (by rw [q]; exact ⟨i, _, h1, e0⟩))]; exact z
    · by_cases q : a = p
      · subst q; rw [upd_same] at z; cases z
      · rw [upd_ne q] at z; exact z
theorem es_fldO {i : Nat} {q : Option Addr} {C : Addr} {fs : List (Str × R)} {f : Str} (c : Cls K C) (n : NoAttr K C f) (h0 : W[i]? = some (.ow (oI q C fs))) (hf : fs.lookup f = some r) : ES (tFld K (tVar i) f) W W r := fun F H σ Q s k => by
  obtain ⟨p, o, e0, g1, _, ⟨_, dx, gs, rfl, h3, h4⟩⟩ := s.ow i _ h0
  obtain ⟨w, z1, z2⟩ := ins_look h3 h4 hf
  exact ⟨.ref p, e0, p, C, dx, gs, w, rfl, g1, c, n, z1, k w F H Rel.refl s z2⟩
theorem def_I {C : Addr} {as : ι → List R} {ok : ι → Prop} {fs : ι → List (Str × R)} {N : List Str} {vs : List V} {H : Hp} {Q : VK} {E : XK} (h : spI C as ok fs vs H Q E) (hN : ∀ d, (as d).length < N.length)
    (k : ∀ d p, ok d → SS ts (.ow (oI (some p) C []) :: slF (as d) (N.length - 1)) ⟨fun W' => W'[0]? = some (.ow (oI (some p) C (fs d))), fun _ _ => False, fun _ => False, fun _ => False⟩) :
    ts { nx := fun _ H' => Q .non H', rt := Q } (L2.start N vs) H := by
  obtain ⟨d, F, p, dx, ws, rfl, hok, ex, hp, fp, ha, hq⟩ := h
  have el := ha.len
  have hN' := hN d
  have s : Sat F H (L2.start N (.ref p :: ws)) (.ow (oI (some p) C []) :: slF (as d) (N.length - 1)) := by
    refine ⟨ex, ?_, fun i r h => ?_, fun i e h => ?_, fun i j e e' q h1 h2 => ?_⟩
    · unfold L2.start slF; simp [el]; omega
    · cases i with
      | zero => cases h
      | succ i =>
        obtain ⟨x, z1, z2⟩ := ha.get' (slF_fz (i := i) h)
        exact ⟨x, start_at z1, z2⟩
    · cases i with
      | zero =>
        cases h
        exact ⟨p, .ins C dx [], rfl, hp, fp, fun _ z => Option.some.inj z, dx, [], rfl, rfl, trivial⟩
      | succ i => exact (slF_ow (i := i) h).elim
    · cases i with
      | zero => cases j with
        | zero => exact fun _ _ => rfl
        | succ j => exact (slF_ow (i := j) h2).elim
      | succ i => exact (slF_ow (i := i) h1).elim
  have own0 : ∀ a, Own (.ow (oI (some p) C []) :: slF (as d) (N.length - 1)) (L2.start N (.ref p :: ws)) a → a = p := fun a ⟨i, e, h1, h2⟩ => by
    cases i with
    | zero =>
      have z : some (some (V.ref p)) = some (some (.ref a)) := h2
      cases z; rfl
    | succ i => exact (slF_ow (i := i) h1).elim
  refine k d p hok F H (L2.start N (.ref p :: ws)) _ s (fun W' σ' F' H' z a s' => ?_) (fun _ _ _ _ _ _ z => z.elim) (fun _ _ _ _ z => z.elim) fun _ _ _ _ z => z.elim
  obtain ⟨p', _, _, y1, y2, yq, dx', gs, rfl, y3, y4⟩ := s'.ow 0 _ z
  cases yq p rfl
  exact hq F' H' dx' gs ⟨a.f, fun x o n h => a.h x o (fun z => n (own0 x z)) h, fun x o h => (a.n x o h).imp id (Or.imp id fun m => own0 x m), a.t, fun x m => .inl m⟩ s'.ex y1 y2 y3 y4
theorem es_make {C : Addr} {as : ι → List R} {ok : ι → Prop} {fs : ι → List (Str × R)} {tr : TA} (d : ι) (h : AS tr W W1 (as d)) (g : ok d) : ES (tMake C (spI C as ok fs) [] E tr) W W1 (eIns C (fs d)) := fun F H σ Q s k =>
  h F H σ _ s fun vs F1 H1 a1 s1 e1 x dx hx hdx ne => by
    rw [List.append_nil]
    have hxd : upd (upd H1 dx (.own x)) x (.ins C dx []) x = some (.ins C dx []) := upd_same
    have f1 : F1 x = none := s1.ex.free hx
    have f2 : F1 dx = none := s1.ex.free hdx
    have grow : Same H1 (upd (upd H1 dx (.own x)) x (.ins C dx [])) := fun a o z => by
      rw [upd_ne (ne_of_none z hx), upd_ne (ne_of_none z hdx)]; exact z
    refine ⟨d, F1, x, dx, vs, rfl, g, fun a o z => grow a o (s1.ex a o z), hxd, f1, e1, fun F2 H2 dx' gs q ex h2 f2' hn ha => ⟨rfl, ?_⟩⟩
    -- the new instance is frozen
    have q1 : Rel F1 H1 (Own W1 σ) F2 H2 (Own W1 σ) := by
      refine ⟨q.f, fun a o n z => q.h a o (fun e => by subst e; rw [hx] at z; cases z) (grow a o z), fun a o z => ?_, fun a z => ?_, fun a m => .inl m⟩
      · rcases q.n a o z with y | y | y
        · exact .inl y
        · exact .inr (.inl (grow.free y))
        · subst y; exact .inr (.inl hx)
      · exact grow.free (q.t a z)
    have s2 : Sat F2 H2 σ W1 := by
      refine ⟨ex, s1.len, fun i r h => ?_, fun i c h => ?_, s1.ds⟩
      · obtain ⟨v, z1, z2⟩ := s1.fz i r h
        exact ⟨v, z1, r.mono q.f z2⟩
      · obtain ⟨p, o, z1, z2, z3, z4⟩ := s1.ow i c h
        have np : p ≠ x := ne_of_none z2 hx
        refine ⟨p, o, z1, q.h p o np (grow p o z2), ?_, c.mono q.f z4⟩
        cases z : F2 p with
        | none => rfl
        | some u =>
          rcases q.n p u z with y | y | y
          · rw [z3] at y; cases y
          · rw [grow p o z2] at y; cases y
          · exact (np y).elim
    have np : ¬ Own W1 σ x := not_own s1 hx
    exact k _ _ H2 ((a1.trans q1).freeze (.inl (a1.t x hx)) f2') (s2.freeze h2 f2' np) ⟨x, dx', gs, rfl, upd_same, hn, ha.mono fun a o z => by rw [upd_ne (ne_of_none z f2')]; exact z⟩
/-- the script: it is read alone -/
def eQ (K : PySem.W.Frag) (e : α → R) (l : List α) : R := ⟨fun F v => ∃ p xs, v = .ref p ∧ SqL K F p xs ∧ All2 (l.map e) F xs, fun e ⟨p, xs, h1, h2, h3⟩ => ⟨p, xs, h1, Same.seq e h2, h3.mono e⟩⟩
@[irreducible] def cutL (l : List α) (lo hi : Option Int) : List α := (l.drop (HT.sIx l.length 0 lo)).take (HT.sIx l.length l.length hi - HT.sIx l.length 0 lo)
theorem All2.drop' {F : Hp} : ∀ {rs : List R} {xs : List V} (n : Nat), All2 rs F xs → All2 (rs.drop n) F (xs.drop n)
  | _, _, 0, h => h
  | [], [], _ + 1, h => h
  | _ :: rs, _ :: xs, n + 1, h => All2.drop' (rs := rs) (xs := xs) n h.2
  | [], _ :: _, _, h => h.elim
  | _ :: _, [], _, h => h.elim
theorem All2.take' {F : Hp} : ∀ {rs : List R} {xs : List V} (n : Nat), All2 rs F xs → All2 (rs.take n) F (xs.take n)
  | _, _, 0, _ => trivial
  | [], [], _ + 1, h => h
  | _ :: rs, _ :: xs, n + 1, h => ⟨h.1, All2.take' (rs := rs) (xs := xs) n h.2⟩
  | [], _ :: _, _, h => h.elim
  | _ :: _, [], _, h => h.elim
theorem cut_ok {F : Hp} {e : α → R} {l : List α} {xs : List V} {lo hi : Option Int} (h : All2 (l.map e) F xs) : All2 ((cutL l lo hi).map e) F (cutV xs lo hi) := by
  have el := h.len
  rw [List.length_map] at el
  unfold cutL cutV
  rw [List.map_take, List.map_drop, el]
  exact All2.take' _ (All2.drop' _ h)
def OSm (t : TO) (W W' : List Sl) (o : Option Int) : Prop := ∀ (F H : Hp) (σ : L2.St) (Q : Option Int → Hp → Prop), Sat F H σ W →
  (∀ F' H', Rel F H (Own W σ) F' H' (Own W' σ) → Sat F' H' σ W' → Q o H') → t σ H Q
theorem os_no : OSm tNoPart W W none := fun F H σ Q s k => k F H Rel.refl s
theorem os_some {i : Int} (h : ES te W W1 (eI i)) : OSm (tPart te) W W1 (some i) := fun F H σ Q s k => h F H σ _ s fun v F1 H1 a1 s1 e1 => ⟨i, e1, k F1 H1 a1 s1⟩
theorem en_slice {e : α → R} {l : List α} {lo hi : Option Int} {tlo thi : TO} (h : ES te W W1 (eLs e l)) (h1 : OSm tlo W1 W2 lo) (h2 : OSm thi W2 W3 hi) : ESN (tSl (rSlL K) te tlo thi) W W3 (oL ((cutL l lo hi).map e)) := fun F H σ Q s k =>
  h F H σ _ s fun v F1 H1 a1 s1 ⟨p, xs, e1, e2, e3⟩ => h1 F1 H1 σ _ s1 fun F2 H2 a2 s2 => h2 F2 H2 σ _ s2 fun F3 H3 a3 s3 => by
    subst e1
    have e2' := a3.f _ _ (a2.f _ _ e2)
    refine ⟨p, xs, rfl, .inl (.inl (s3.ex _ _ e2')), fun q hq => ?_⟩
    have ex : Same H3 (upd H3 q (.lst (cutV xs lo hi))) := fun a o z => by rw [upd_ne (ne_of_none z hq)]; exact z
    have aa := (a1.trans a2).trans a3
    exact k q _ F3 _ (aa.trans (Rel.grow ex)) (s3.grow ex) (aa.t _ hq) upd_same (s3.ex.free hq) (not_own s3 hq) ⟨nofun, _, rfl, cut_ok ((e3.mono a2.f).mono a3.f)⟩
theorem en_sliceQ {e : α → R} {l : List α} {lo hi : Option Int} {tlo thi : TO} (h : ES te W W1 (eQ K e l)) (h1 : OSm tlo W1 W2 lo) (h2 : OSm thi W2 W3 hi) : ESN (tSl (rSlL K) te tlo thi) W W3 (oL ((cutL l lo hi).map e)) := fun F H σ Q s k =>
  h F H σ _ s fun v F1 H1 a1 s1 ⟨p, xs, e1, e2, e3⟩ => h1 F1 H1 σ _ s1 fun F2 H2 a2 s2 => h2 F2 H2 σ _ s2 fun F3 H3 a3 s3 => by
    subst e1
    refine ⟨p, xs, rfl, Same.seq s3.ex (Same.seq a3.f (Same.seq a2.f e2)), fun q hq => ?_⟩
    have ex : Same H3 (upd H3 q (.lst (cutV xs lo hi))) := fun a o z => by rw [upd_ne (ne_of_none z hq)]; exact z
    have aa := (a1.trans a2).trans a3
    exact k q _ F3 _ (aa.trans (Rel.grow ex)) (s3.grow ex) (aa.t _ hq) upd_same (s3.ex.free hq) (not_own s3 hq) ⟨nofun, _, rfl, cut_ok ((e3.mono a2.f).mono a3.f)⟩
end
end Fw
end
section
set_option maxRecDepth 100000
namespace Fw
open PySem L2
section
variable {W W' W0 W1 W2 W3 : List Sl} {K : PySem.W.Frag} {ta tb tc te to tl tv : TE} {r ra rb : R} {a b : Bool} {F H F' H' : Hp} {σ : L2.St} {E : XK} {P : Post} {ts uu : TS}
variable {α β γ δ ρ ι : Type}
theorem putR_new {f : Str} {r : R} : ∀ {fs : List (Str × R)}, (fs.map Prod.fst).contains f = false → putR f r fs = fs ++ [(f, r)]
  | [], _ => rfl
  | (g, x) :: l, h => by
    have h1 : ¬ g = f ∧ (l.map Prod.fst).contains f = false := by
      simp only [List.map_cons, List.contains_cons, Bool.or_eq_false_iff, beq_eq_false_iff_ne] at h
      exact ⟨fun e => h.1 e.symm, h.2⟩
    show (if g = f then (g, r) :: l else (g, x) :: putR f r l) = _
    rw [if_neg h1.1, putR_new h1.2]; rfl
theorem tbl_no {m : Str} {x y z : R} (h : ((m == "own_capacity") || (m == "own_rate") || (m == "own_shift")) = false) : List.lookup m [(("own_capacity" : Str), x), ("own_rate", y), ("own_shift", z)] = none := by
  simp only [Bool.or_eq_false_iff] at h
  simp [List.lookup, h.1.1, h.1.2, h.2]
theorem ss_let1 (v : α) (mk : α → List Sl) (k : ∀ x, x = v → SS ts (mk x) P) : SS ts (mk v) P := k v rfl
theorem ss_fldN {i : Nat} {q : Option Addr} {C : Addr} {fs : List (Str × R)} {f : Str} (c : Cls K C) (n : NoAttr K C f) (h : ES tv W W1 r) (h1 : W1[i]? = some (.ow (oI q C fs))) (hl : fs.length < 1000) (hf : (fs.map Prod.fst).contains f = false) (k : P.nx (W1.set i (.ow (oI q C (fs ++ [(f, r)]))))) :
    SS (sFld K (tVar i) tv f) W P := ss_fld c n h h1 hl (by rw [putR_new hf]; exact k)
end
end Fw
end
section
set_option maxRecDepth 100000
namespace Fw
open PySem L2 PySem.Spec PyProof.Rows
section
variable {P : Program} {w : World} {K : PySem.W.Frag} {mg mb : Str → Option Value} {CX : CXT} {k : Nat} {fa a : Addr} {fd : FuncData} {x : Str} {sp : Sp} {t : Shared} {us : List Value} {ns : List Int}
/-- the heap of the walk at the law's call: nothing, or the script alone -/
theorem lawG_core {H : Hp} (KX : K.In t.heap) (nG : t.heap.Ns mainGlobals mg) (nB : t.heap.Ns builtinsNs mb) (nb : ∀ x : Str, x ≠ "__name__" → mb x = bootBuiltins x) (nl : t.heap.NoLimit) (g0 : t.gens = #[])
    (at_ : t.heap.get? a = some { cls := .type "list", data := .seq us.toArray }) (room : Room k callerA)
    (F : ∀ base : Heap, K.In base → base.Ns mainGlobals mg → FnG P w K mg base CX k fa fd [x] sp) (bind : ∀ (s : Shared) (u : Value), BindsTo s fd ⟨[u], []⟩ [(x, u)])
    (pr : sp [.ref a] H (fun v _ => v = .bl true) fun _ _ _ => False) (noX : ∀ H e s', CX [] H t (fun _ _ _ => False) e s' → False)
    (only : Only H) (ok : HOk P w H t.heap) (one : ∀ b, H b ≠ none → b = a) (away : H a ≠ none → K.lookup a = none) :
    codeAny (model P w) callerA (.call (.ref fa) ⟨[.ref a], []⟩) (fun r s' => r = .ok (.ret (.bool true)) ∧ OldK t.heap s'.heap ∧ s'.os = t.os ∧ AllBare s'.gens) t := by
  have up : ∀ {b : Addr} {o : Obj}, t.heap.get? b = some o → H b = none → (hidT t.heap H).get? b = some o := fun h n => hidT_get h n
  have free : ∀ {b : Addr} {o : Obj} {es : Array DictEntry} {n : Nat}, t.heap.get? b = some o → o.data = .dict es n → H b = none := fun {b o es n} h d => by
    by_cases q : H b = none
    · exact q
    · obtain rfl := one b q
      cases at_.symm.trans h
      have d' : Data.seq us.toArray _ = Data.dict es n := d
      exact nomatch d'
  have nsUp : ∀ {b : Addr} {m : Str → Option Value}, t.heap.Ns b m → (hidT t.heap H).Ns b m := fun ⟨o, es, n, h, d, r⟩ => ⟨o, es, n, up h (free h d), d, r⟩
  have kUp : K.In (hidT t.heap H) := fun b o h => up (KX b o h) (by
    by_cases q : H b = none
    · exact q
    · obtain rfl := one b q
      rw [away q] at h; exact nomatch h)
  have md : Mod K mg (hidT t.heap H) := ⟨kUp, nsUp nG, ⟨mb, nsUp nB, nb⟩, nl.elim fun mc z => ⟨mc, nsUp z.1, z.2⟩⟩
  have env : Env0 P w K mg (hidT t.heap H) callerA [] t H := ⟨rfl, md, fun _ _ h => of_hidT h, Nat.le_of_eq (hidT_size _ _), trivial, fun b hb => (by cases hb), ok, .of_eq g0⟩
  have run := (F _ kUp (nsUp nG)).run callerA [] t H ⟨[.ref a], []⟩ [.ref a] [.ref a] _ _ rfl room env (bind t (.ref a)) (.cons rfl .nil) pr
  refine codeAny_mono run fun r s' h => ?_
  match r, h with
  | .error e, h => exact (noX H e s' h).elim
  | .ok (.ret u), h =>
    obtain ⟨v, H2, os, bare, un, ok2, rel, q⟩ := h
    obtain rfl : v = .bl true := q
    obtain rfl : u = Value.bool true := rel
    refine ⟨rfl, OldK.of_keep fun b o h => ?_, os, bare⟩
    rcases only b with z | ⟨ob, xs, z⟩
    · exact un.keep b o h z (fun m => by cases m) (by simp)
    · have e1 := (ok b _ z).1
      have e2 := (ok2 b _ (un.frzs b ob _ z)).1
      exact (Option.some.inj (h.symm.trans e1)) ▸ e2
theorem lawG {mb : Str → Option Value} (KX : K.In t.heap) (nG : t.heap.Ns mainGlobals mg) (nB : t.heap.Ns builtinsNs mb) (nb : ∀ x : Str, x ≠ "__name__" → mb x = bootBuiltins x) (nl : t.heap.NoLimit) (g0 : t.gens = #[])
    (at_ : t.heap.get? a = some { cls := .type "list", data := .seq us.toArray }) (iv : IntsAre us ns) (short : ns.length ≤ sizeLine) (room : Room k callerA)
    (F : ∀ base : Heap, K.In base → base.Ns mainGlobals mg → FnG P w K mg base CX k fa fd [x] sp) (bind : ∀ (s : Shared) (u : Value), BindsTo s fd ⟨[u], []⟩ [(x, u)])
    (pr : ∀ H : Hp, SqL K H a (ns.map V.int) → sp [.ref a] H (fun v _ => v = .bl true) fun _ _ _ => False) (noX : ∀ H e s', CX [] H t (fun _ _ _ => False) e s' → False) :
    codeAny (model P w) callerA (.call (.ref fa) ⟨[.ref a], []⟩) (fun r s' => r = .ok (.ret (.bool true)) ∧ OldK t.heap s'.heap ∧ s'.os = t.os ∧ AllBare s'.gens) t := by
  have rv := vals_ints iv
  cases hk : K.lookup a with
  | some o =>
    cases at_.symm.trans (KX a o hk)
    refine lawG_core (H := fun _ => none) KX nG nB nb nl g0 at_ room F bind (pr _ (.inr ⟨_, us.toArray, _, hk, rfl, rfl, rfl, ?_, ?_⟩)) noX (fun _ => .inl rfl) (fun b u z => nomatch z) (fun b z => absurd rfl z) fun z => absurd rfl z
    · rw [List.size_toArray, iv.length]; exact short
    · simpa using rv
  | none =>
    let ob : Obj := { cls := .type "list", data := .seq us.toArray }
    let G : Hp := fun b => if b = a then some (.frz ob (.lst (ns.map V.int))) else none
    have yes : G a = some (.frz ob (.lst (ns.map V.int))) := if_pos rfl
    have no : ∀ b, b ≠ a → G b = none := fun b h => if_neg h
    refine lawG_core (H := G) KX nG nB nb nl g0 at_ room F bind (pr _ (.inl (.inr ⟨ob, yes⟩))) noX (fun b => ?_) (fun b u z => ?_) (fun b z => ?_) fun _ => hk
    · by_cases h : b = a
      · subst h; exact .inr ⟨_, _, yes⟩
      · exact .inl (no b h)
    · by_cases h : b = a
      · subst h
        cases yes.symm.trans z
        exact ⟨at_, by rw [List.length_map]; exact short, us, _, rv, at_⟩
      · rw [no b h] at z; exact nomatch z
    · by_cases h : b = a
      · exact h
      · exact absurd (no b h) z
end
theorem walk_ofG {l : PySem.W.OpenLaw} {n k : Nat} {q : Program} {loose : List Str} {XP : (Str → Option Value) → Heap → Prop} {YP : World → Heap → Prop} {d : DefRec} {K : Params → PySem.W.Frag} {sp : PySem.W.Frag → Sp} {x : Str}
    (hn : l.most = some n) (hn2 : n ≤ sizeLine) (hdf : d.params.defaults = []) (hr : Room k callerA) (hY : ∀ (w : World) (h : Heap), YP w h → (K w.params).In h)
    (F : ∀ (w : World) (mg : Str → Option Value) (fa : Addr) (h : Heap), (K w.params).In h → h.Ns mainGlobals mg → mg d.name = some (.ref fa) →
      ∃ fd : FuncData, (∀ (s : Shared) (u : Value), BindsTo s fd ⟨[u], []⟩ [(x, u)]) ∧ ∀ base : Heap, (K w.params).In base → base.Ns mainGlobals mg → FnG l.prog w (K w.params) mg base CX0 k fa fd [x] (sp (K w.params)))
    (pr : ∀ (K : PySem.W.Frag) (H : Hp) (a : Addr) (ns : List Int), ns.length ≤ n → (∀ z ∈ ns, Builtin.Int.intBits z ≤ 1048576) → SqL K H a (ns.map V.int) → sp K [.ref a] H (fun v _ => v = .bl true) fun _ _ _ => False) :
    PySem.W.WalkO q loose XP YP l.row.toRowW d [] (fun f vs => PySem.call f vs) := by
  refine Att.attach_callB hn hdf fun w s₀ t mg mb fa o pm cd doc a us ns G Y ho hd hcd hmg at_ iv len bits g0 => ?_
  have KX := hY w _ Y
  obtain ⟨fd, bd, FG⟩ := F w mg fa _ KX G.T.g hmg
  exact lawG KX G.T.g G.T.b G.T.builtins G.T.nolimit g0 at_ iv (Nat.le_trans len hn2) hr FG bd (fun H S => pr (K w.params) H a ns len bits S) fun _ _ _ z => z
/-- the promise of a law that reads its script -/
theorem law_pr {K : PySem.W.Frag} {H : Hp} {a : Addr} {ns : List Int} {ok : List Int → Prop} {m : List Int → Bool} (S : SqL K H a (ns.map V.int)) (h1 : ok ns) (h2 : m ns = true) :
    spF (ι := List Int) (fun d => [eQ K eI d]) (fun d => ok d) (fun d => eB (m d)) [.ref a] H (fun v _ => v = .bl true) fun _ _ _ => False := by
  refine ⟨ns, H, h1, fun _ _ z => z, ⟨⟨a, ns.map V.int, rfl, S, ?_⟩, trivial⟩, fun v F' H' _ _ hv => ?_⟩
  · induction ns with
    | nil => trivial
    | cons z l ih => exact ⟨rfl, ih' l⟩
  · have e : v = V.bl (m ns) := hv
    rw [e, h2]
where ih' {F : Hp} : ∀ l : List Int, All2 (l.map eI) F (l.map V.int)
  | [] => trivial
  | _ :: l => ⟨rfl, ih' l⟩
end Fw
end
section
set_option maxRecDepth 100000
namespace Fw
open PySem L2
section
variable {X : Cx} {CX : CXT} {k : Nat} {f C : Addr} {fd : FuncData} {ps : List Str} {sp : Sp} {E : XK}
/-- repr of a bool, of None or an int -/
def reprB (b : Bool) : Str := if b then "True" else "False"
def rReprB : List V → Hp → VK → Prop := fun xs H Q => ∃ b, xs = [.bl b] ∧ Q (.str (reprB b)) H
theorem call_reprB : CallR X (.builtin "repr") rReprB := by
  intro pins s σ H xs us Q I r h
  obtain ⟨b, e, q⟩ := h
  subst e
  obtain ⟨u, e, ru⟩ := vals1 r
  subst e
  cases (show u = Value.bool b from ru)
  exact PySem.P.repr_of_bool ⟨.str _, H, I.tok _, ⟨_, rfl⟩, q⟩
def reprO : Option Int → Str
  | none => "None"
  | some i => reprI i
def rReprO : List V → Hp → VK → Prop := fun xs H Q => (xs = [.non] ∧ Q (.str "None") H) ∨ ∃ i, xs = [.int i] ∧ i.natAbs.log2 < 1920 ∧ Q (.str (toString i)) H
theorem call_reprO : CallR X (.builtin "repr") rReprO := by
  intro pins s σ H xs us Q I r h
  rcases h with ⟨e, q⟩ | h
  · subst e
    obtain ⟨u, e, ru⟩ := vals1 r
    subst e
    cases (show u = Value.none from ru)
    exact PySem.P.repr_of_none ⟨.str _, H, I.tok _, ⟨_, rfl⟩, q⟩
  · exact SkE.call_repr_int pins s σ H xs us Q I r h
theorem op_eqDK {K : PySem.W.Frag} (hK : X.K = K) (hu : X.A.units + 64 < cLine) : OpR X (compareOp .Eq) (rEqD K) := by subst hK; exact op_eqD hu
theorem op_neDK {K : PySem.W.Frag} (hK : X.K = K) (hu : X.A.units + 64 < cLine) : OpR X (compareOp .NotEq) (rNeD K) := by subst hK; exact op_neD hu
/-- == by an own def -/
structure EqC (K : PySem.W.Frag) (C f : Addr) : Prop where
  at_ : PySem.W.findIn K (.ref C) "__eq__" = some (some (.ref f))
  fn : PySem.W.isFn K (.ref f) = true
def rEqC (K : PySem.W.Frag) (C : Addr) (sp : Sp) (E : XK) : R2 := fun x y H Q => ∃ a dx fs tb, x = .ref a ∧ H a = some (.ins C dx fs) ∧ TyX K H y tb ∧ PySem.W.notFirst K C tb = true ∧ sp [x, y] H (fun v H' => (∃ b, v = .bl b) ∧ Q v H') E
theorem op_eqC {K : PySem.W.Frag} (hK : X.K = K) (F : FnG X.prog X.w X.K X.mg X.base CX k f fd ps sp) (hG : X.A.guards = some []) (hr : Room k X.A) (c : EqC X.K C f) (hb : Binds X.K fd ps []) (hx : Passes CX X E) : OpR X (compareOp .Eq) (rEqC K C sp E) := by
  subst hK
  intro pins s σ H x y v u Q I rx ry h
  obtain ⟨a, dx, fs, tb, e, ea, ty, nf, q⟩ := h
  subst e
  cases (show v = Value.ref a from rx)
  show wpAny (model X.prog X.w) X.A (richCompare .Eq (.ref a) u) (EP X pins σ Q) X.xe s
  obtain ⟨mA, J, _⟩ := ins_get I.hok ea
  obtain ⟨od, J, _⟩ := J.look
  obtain ⟨m, hF⟩ := I.fr
  obtain ⟨P, Z, hP, _⟩ := kit_of I ry ty
  refine PySem.W.cmp_K (op := .Eq) (tb := tb) hr.units0 hF I.ok.mod.kin J (Z.ty _ _ I.kIn hP) nf c.at_ c.fn ?_
  refine wpAny_mono (run_fng (us := [.ref a, u]) (vs := [.ref a, y]) F hG hr hb .nil hx I (.cons rfl (.cons ry .nil)) q) (fun r s' z => ?_) fun _ _ z => z
  obtain ⟨w', H', I', rw', ⟨b, eb⟩, q'⟩ := z
  subst eb
  cases (show r = Value.bool b from rw')
  exact ⟨.bl b, H', I', rfl, q'⟩
end
section
variable {W W' W0 W1 W2 W3 : List Sl} {K : PySem.W.Frag} {ta tb tc te to tl tv : TE} {r ra rb : R} {a b : Bool} {F H F' H' : Hp} {σ : L2.St} {E : XK} {P : Post} {ts uu : TS} {tt : TT}
variable {α β γ δ ρ ι : Type}
theorem es_reprB {b : Bool} (ha : ES ta W W1 (eB b)) : ES (tCB rReprB (tCons ta tNil)) W W1 (eS (reprB b)) := es_cb1 ha fun _ _ q => ⟨b, rfl, q⟩
theorem es_reprO {o : Option Int} (ha : ES ta W W1 (eO eI o)) (h : ∀ i, o = some i → i.natAbs.log2 < 1920) : ES (tCB rReprO (tCons ta tNil)) W W1 (eS (reprO o)) := by
  cases o with
  | none => exact es_cb1 (x := .non) (z := .str "None") ha fun _ _ q => .inl ⟨rfl, q⟩
  | some i => exact es_cb1 (x := .int i) (z := .str (reprI i)) ha fun _ _ q => .inr ⟨i, rfl, h i rfl, q⟩
theorem es_eqC {C : Addr} {fs : List (Str × R)} {as : ι → List R} {ok : ι → Prop} {m : ι → Bool} {t : Value} (d : ι) (ha : ES ta W W1 (eIns C fs)) (hb : ES tb W1 W2 r) (ht : ∀ (F H : Hp) (v : V), Same F H → r.p F v → TyX K H v t) (hn : PySem.W.notFirst K C t = true) (hd : as d = [eIns C fs, r]) (g : ok d) :
    ES (tOp (rEqC K C (spF as ok fun d => eB (m d)) E) ta tb) W W2 (eB (m d)) := fun F H σ Q s k =>
  ha F H σ _ s fun v F1 H1 a1 s1 e1 => hb F1 H1 σ _ s1 fun w F2 H2 a2 s2 e2 => by
    have e1' := (eIns C fs).mono a2.f e1
    obtain ⟨p, dx, gs, h1, h2, h3, h4⟩ := id e1'
    refine ⟨p, dx, gs, t, h1, s2.ex _ _ h2, ht F2 H2 w s2.ex e2, hn, d, F2, g, s2.ex, by rw [hd]; exact ⟨e1', e2, trivial⟩, fun z F3 H3 q e3 hz => ⟨⟨m d, hz⟩, k z F3 H3 ((a1.trans a2).trans q.pure) (s2.pure q e3) hz⟩⟩
/-- a property that reads a field -/
theorem es_prop {C : Addr} {fs : List (Str × R)} {f : Str} (ha : ES ta W W1 (eIns C fs)) (hf : fs.lookup f = some r) : ES (tProp C (getSp C f) [] E ta) W W1 r := fun F H σ Q s k =>
  ha F H σ _ s fun v F1 H1 a1 s1 ⟨p, dx, gs, h1, h2, h3, h4⟩ => by
    obtain ⟨w, z1, z2⟩ := ins_look h3 h4 hf
    exact ⟨p, dx, gs, h1, s1.ex _ _ h2, p, dx, gs, w, rfl, s1.ex _ _ h2, z1, k w F1 H1 a1 s1 z2⟩
/-- {} -/
def eD0 : R := ⟨fun F v => ∃ p, v = .ref p ∧ F p = some (.dK []), fun e ⟨p, h1, h2⟩ => ⟨p, h1, e _ _ h2⟩⟩
theorem es_dnew : ES tDNewK W W eD0 := fun F H σ Q s k p hp => by
  have ex : Same H (upd H p (.dK [])) := fun a o z => by rw [upd_ne (ne_of_none z hp)]; exact z
  have np : ¬ Own W σ p := not_own s hp
  have fp : F p = none := s.ex.free hp
  exact k _ _ _ ((Rel.grow ex).freeze (.inl hp) fp) ((s.grow ex).freeze upd_same fp np) ⟨p, rfl, upd_same⟩
theorem ty_dn : ∀ (F H : Hp) (v : V), Same F H → eD0.p F v → TyX K H v (.type "dict") := fun F H v e ⟨p, h1, h2⟩ => by
  subst h1; exact .base (.dK (e _ _ h2))
theorem ty_non : ∀ (F H : Hp) (v : V), Same F H → eN.p F v → TyX K H v (.type "NoneType") := fun F H v e h => by
  have e' : v = V.non := h
  subst e'; exact .base .non
/-- what is there of an Option -/
def unO [Inhabited α] (o : Option α) : α := o.getD default
theorem es_unO [Inhabited α] {e : α → R} {o : Option α} (h : ES te W W1 (eO e o)) (g : o.isSome = true) : ES te W W1 (e (unO o)) := by
  cases o with
  | none => cases g
  | some x => exact h
class NotN (e : α → R) : Prop where
  no : ∀ F x v, (e x).p F v → v ≠ .non
instance : NotN eI := ⟨fun F x v h e => by have h' : v = V.int x := h; rw [h'] at e; cases e⟩
theorem et_isN {e : α → R} [N : NotN e] {o : Option α} (h : ES te W W1 (eO e o)) : ET (tB (tIsN te)) W W1 (!o.isSome) := fun F H σ Q s k =>
  h F H σ _ s fun v F1 H1 a1 s1 e1 => by
    refine ⟨_, rfl, ?_⟩
    have eq : decide (v = .non) = (!o.isSome) := by
      cases o with
      | none => exact decide_eq_true (show v = .non from e1)
      | some x => exact decide_eq_false (N.no _ _ _ e1)
    rw [eq]; exact k F1 H1 a1 s1
theorem et_notN {e : α → R} [N : NotN e] {o : Option α} (h : ES te W W1 (eO e o)) : ET (tB (tNotN te)) W W1 o.isSome := fun F H σ Q s k =>
  h F H σ _ s fun v F1 H1 a1 s1 e1 => by
    refine ⟨_, rfl, ?_⟩
    have eq : (!decide (v = .non)) = o.isSome := by
      cases o with
      | none => rw [decide_eq_true (show v = .non from e1)]; rfl
      | some x => rw [decide_eq_false (N.no _ _ _ e1)]; rfl
    rw [eq]; exact k F1 H1 a1 s1
theorem es_nilc {e : α → R} {f : β → R} {l : List α} (h : ES te W W1 (eLs e l)) (z : l = []) : ES te W W1 (eLs f []) := by subst z; exact h
/-- a cut: the rest by a name of its own -/
theorem ss_cut (Q : α → Post) {v v' : α} (e : v = v') (h : SS ts W (Q v')) : SS ts W (Q v) := e ▸ h
abbrev NX (Q : α → Post) : α → Post := fun v => noNx (Q v)
def LF (mk : β → List Sl) (rt : List Sl → R → Prop) (v : β) : Post := ⟨fun W' => Wk W' (mk v), rt, fun _ => False, fun W' => Wk W' (mk v)⟩
end
end Fw
end
section
set_option maxRecDepth 100000
namespace Fw
open PySem L2
abbrev Trip := Int × Int × Int
/-- values of other kinds -/
def eOdd (K : PySem.W.Frag) : Nat × Trip → R
  | (0, _) => eN
  | (1, _) => eI 0
  | (2, _) => eB true
  | (3, _) => eS (Str.ofString "")
  | (4, t) => eP3 K eI eI eI t
  | (5, t) => eLs eI [t.1, t.2.1, t.2.2]
  | (_, _) => eD0
def tyO : Nat × Trip → String
  | (0, _) => "NoneType"
  | (1, _) => "int"
  | (2, _) => "bool"
  | (3, _) => "str"
  | (4, _) => "tuple"
  | (5, _) => "list"
  | (_, _) => "dict"
structure OddNo (K : PySem.W.Frag) (C : Addr) : Prop where
  cls : PySem.W.isClsIn K C = true
  typ : PySem.W.typeIn K (.ref C) = some (.type "type")
  s0 : PySem.W.subIn K (.type "NoneType") (.ref C) = some false
  s1 : PySem.W.subIn K (.type "int") (.ref C) = some false
  s2 : PySem.W.subIn K (.type "bool") (.ref C) = some false
  s3 : PySem.W.subIn K (.type "str") (.ref C) = some false
  s4 : PySem.W.subIn K (.type "tuple") (.ref C) = some false
  s5 : PySem.W.subIn K (.type "list") (.ref C) = some false
  s6 : PySem.W.subIn K (.type "dict") (.ref C) = some false
section
variable {K : PySem.W.Frag} {C : Addr}
theorem OddNo.sub (N : OddNo K C) : ∀ x : Nat × Trip, PySem.W.subIn K (.type (tyO x)) (.ref C) = some false
  | (0, _) => N.s0
  | (1, _) => N.s1
  | (2, _) => N.s2
  | (3, _) => N.s3
  | (4, _) => N.s4
  | (5, _) => N.s5
  | (_ + 6, _) => N.s6
theorem ty_odd : ∀ (x : Nat × Trip) (F H : Hp) (v : V), Same F H → (eOdd K x).p F v → TyX K H v (.type (tyO x))
  | (0, _) => ty_non
  | (1, _) => ty_int
  | (2, _) => ty_bl
  | (3, _) => ty_str
  | (4, _) => ty_tup
  | (5, _) => ty_lst
  | (_ + 6, _) => ty_dn
theorem kit_odd (N : OddNo K C) (x : Nat × Trip) : PySem.W.kitOne K (.type (tyO x)) (.ref C) = some false := by
  have h : PySem.W.kitCls K (.type (tyO x)) (.ref C) = some false := by
    unfold PySem.W.kitCls
    dsimp only
    have hc : (PySem.W.clsIn K C).isSome = true := N.cls
    rw [hc, N.typ, if_pos (by simp)]
    exact N.sub x
  show (if (Value.type (tyO x) == Value.ref C) = true then some true else PySem.W.kitCls K (.type (tyO x)) (.ref C)) = some false
  rw [h]; rfl
theorem nf_odd (N : OddNo K C) (x : Nat × Trip) : PySem.W.notFirst K C (.type (tyO x)) = true := by
  unfold PySem.W.notFirst
  rw [N.sub x]; simp
theorem nf_self : PySem.W.notFirst K C (.ref C) = true := by
  unfold PySem.W.notFirst
  rw [show (Value.ref C == Value.ref C) = true from beq_self_eq_true _]; rfl
end
/-- a list of three ints and a bool -/
def eLm (x : Int × Int × Int × Bool) : R := eL [eI x.1, eI x.2.1, eI x.2.2.1, eB x.2.2.2]
instance {K : PySem.W.Frag} : DatE K eLm where
  d := fun x => .list [.int x.1, .int x.2.1, .int x.2.2.1, .bool x.2.2.2]
  dep := 1
  ok := fun f ⟨p, xs, h1, h2, h3⟩ => by
    subst h1
    match xs, h3 with
    | [x, y, z, b], h3 =>
      obtain ⟨e1, e2, e3, e4, _⟩ := h3
      cases (show x = V.int _ from e1)
      cases (show y = V.int _ from e2)
      cases (show z = V.int _ from e3)
      cases (show b = V.bl _ from e4)
      exact .lst (.inl (.inl (f _ _ h2))) (.cons (.int _) (.cons (.int _) (.cons (.int _) (.cons (.bl _) .nil))))
    | [], h3 => exact h3.elim
    | [_], h3 => exact h3.2.elim
    | [_, _], h3 => exact h3.2.2.elim
    | [_, _, _], h3 => exact h3.2.2.2.elim
    | _ :: _ :: _ :: _ :: _ :: _, h3 => exact h3.2.2.2.2.elim
  lay := fun x => by simp [PyData.canLay0, PyData.canLayAll0]
  dpt := fun x => by simp [PyData.depth, PyData.depthAll]
  eqv := fun x y => by
    obtain ⟨x1, x2, x3, x4⟩ := x
    obtain ⟨y1, y2, y3, y4⟩ := y
    simp [PyData.eqv, PyData.eqvAll]
  nod := fun x => by simp [PyData.hasDict, PyData.hasDictAll]
instance {K : PySem.W.Frag} : DatE K (eO eI) where
  d := fun o => match o with
    | none => .none
    | some i => .int i
  dep := 0
  ok := fun {F H v x} f h => by
    cases x with
    | none =>
      cases (show v = V.non from h)
      exact .non
    | some i =>
      cases (show v = V.int i from h)
      exact .int i
  lay := fun x => by cases x <;> rfl
  dpt := fun x => by cases x <;> simp [PyData.depth]
  eqv := fun x y => by cases x <;> cases y <;> simp [PyData.eqv]
  nod := fun x => by cases x <;> rfl
section
variable {W W' W0 W1 W2 W3 : List Sl} {te : TE} {α : Type}
theorem es_upO {e : α → R} {l : List α} (h : ES te W W1 (eLs e l)) : ES te W W1 (eLs (eO e) (l.map some)) := by
  have q : (l.map some).map (eO e) = l.map e := by rw [List.map_map]; rfl
  unfold eLs
  rw [q]; exact h
theorem es_frm {x : Int × Int × Int × Bool} (h : ESN te W W1 (oL [eI x.1, eI x.2.1, eI x.2.2.1, eB x.2.2.2])) : ES te W W1 (eLm x) := es_fr h
def reprF (d : PyData) : Str := d.shown
def ReprF (d : PyData) : Prop := d.showable = true ∧ d.shown.length ≤ sizeLine
theorem es_reprF {K : PySem.W.Frag} {e : α → R} [D : DatE K e] {x : α} {d : PyData} (ha : ES te W W1 (e x)) (h : ReprF d) (hd : D.d x = d) (hv : ∀ F v, (e x).p F v → ∃ a, v = .ref a) (z : D.dep ≤ 60) : ES (tCB (rReprD K) (tCons te tNil)) W W1 (eS (reprF d)) := by
  subst hd
  exact es_reprD ha h hv z
end
end Fw
end
section
set_option maxRecDepth 100000
namespace Fw
open PySem L2
/-! texts of ints and lists of ints are short -/
theorem shown_int {i : Int} {k : Nat} (hk : 0 < k) (h : i.natAbs.log2 < k) : (PyData.shown (.int i)).length ≤ k + 1 := by
  have e : PyData.shown (.int i) = Str.ofString (toString i) := rfl
  rw [e]
  have := int_text_length_le hk h
  rw [ofString_length]; exact this
theorem leaves_ints {k : Nat} (hk : 0 < k) : ∀ {l : List Int}, (∀ i ∈ l, i.natAbs.log2 < k) → PyData.leavesShortAll (k + 1) (l.map fun y => PyData.int y) = true
  | [], _ => rfl
  | i :: l, h => by
    have h1 := shown_int hk (h i (List.mem_cons_self ..))
    have h2 := leaves_ints hk (l := l) fun j hj => h j (List.mem_cons_of_mem _ hj)
    show (decide ((PyData.shown (.int i)).length ≤ k + 1) && PyData.leavesShortAll (k + 1) (l.map fun y => PyData.int y)) = true
    rw [h2, decide_eq_true h1]; rfl
theorem bulk_ints : ∀ l : List Int, PyData.bulkAll (l.map fun y => PyData.int y) = l.length
  | [] => rfl
  | i :: l => by
    show 0 + 1 + PyData.bulkAll (l.map fun y => PyData.int y) = l.length + 1
    rw [bulk_ints l]; omega
theorem show_ints {l : List Int} (h : ∀ i ∈ l, i.natAbs.log2 < 1000) : PyData.showableAll (l.map fun y => PyData.int y) = true := by
  induction l with
  | nil => rfl
  | cons i l ih =>
    show (decide (i.natAbs.log2 < 1920) && PyData.showableAll (l.map fun y => PyData.int y)) = true
    have h1 := h i (List.mem_cons_self ..)
    rw [ih fun j hj => h j (List.mem_cons_of_mem _ hj), decide_eq_true (by omega)]; rfl
theorem repr_ints {l : List Int} (h : ∀ i ∈ l, i.natAbs.log2 < 1000) (hl : l.length ≤ 10000) : ReprF (PyData.list (List.map (fun y : Int => PyData.int y) l)) := by
  refine ⟨show_ints h, Nat.le_trans (PyData.shown_le_bulk 1001 (by decide) _ (leaves_ints (k := 1000) (by decide) h)) ?_⟩
  show (1001 + 2) * PyData.bulkAll (l.map fun y => PyData.int y) + 1001 ≤ sizeLine
  rw [bulk_ints, sizeLine_eq]
  omega
end Fw
end
section
set_option maxRecDepth 100000
set_option maxHeartbeats 800000
namespace My
open PySem L2 Fw
def top (i : Nat) : Stmt := PySem.Challenge.pw_hashdoors_k01_values_and_tails.main.body.getD i (.Pass ⟨0, 0, 0, 0⟩)

abbrev eTbl (C : Addr) (t : Tbl) : R := eIns C [("own_capacity", eI t.capacity), ("own_rate", eI t.rate), ("own_shift", eI t.shift)]
def m_is_int (value_1 : Int) : Bool :=
true && (!false)
def m_is_int_ok (value_1 : Int) : Prop :=
True
def sp_is_int (K : PySem.W.Frag) (CT : Addr) : Sp := spF (ι := Int) (fun d => [eI d]) (fun d => m_is_int_ok d) (fun d => eB (m_is_int d))
abbrev s_is_int : Stmt := top 10
abbrev N_is_int : List Str := ["value"]
theorem sc_is_int : FnScope N_is_int ["value"] (defScope s_is_int) := ⟨rfl, rfl, rfl, by decide +kernel, rfl, by decide +kernel, by decide +kernel⟩
section
variable {P : Program} {w : World} {K : PySem.W.Frag} {mg : Str → Option Value} {base : Heap} {CT : Addr}
theorem ok_is_int {f : Addr} {fd : FuncData} (F : Fun K "is_int" "is_int" s_is_int f fd) (n_bool : mg "bool" = none) (n_int : mg "int" = none) (n_isinstance : mg "isinstance" = none) : FnG P w K mg base CX0 1 f fd ["value"] (sp_is_int K CT) := by
  refine Fun.okG F sc_is_int (fun vs H Q E h => ?_) (fun cdv A outer s H vs Q E hG hr h => ?_)
  · obtain ⟨d, F, _, _, h, _⟩ := h
    exact h.len
  · have nd := sc_is_int.nd
    have hU := hr.units
    refine ⟨_, (pss_cons (ps_ret (pe_and (pe_callB call_isi rfl n_isinstance (by decide +kernel) (pa_cons (pv 0) (pa_cons (pe_bltn (v := .ty "int") rfl n_int (by decide +kernel) rfl) pa_nil))) (pe_one (pe_not (pe_callB call_isi rfl n_isinstance (by decide +kernel) (pa_cons (pv 0) (pa_cons (pe_bltn (v := .ty "bool") rfl n_bool (by decide +kernel) rfl) pa_nil)))))))
 pss_nil), ?_⟩
    refine def_F h (fun d => Nat.le_of_ble_eq_true rfl) (fun value_1 h => ?_)
    replace h : m_is_int_ok value_1 := h
    unfold m_is_int_ok at h
    show SS _ [.fz (eI value_1)] (FP eB (m_is_int value_1))
    refine ss_retq (es_andV (es_isi (b := true) (es_var 0 rfl) (.ty "int") ty_int (kit_ty (by decide +kernel))) (fun hc0 => (es_notV (es_isi (b := false) (es_var 0 rfl) (.ty "bool") ty_int (kit_ty (by decide +kernel)))))) ?_
    exact rfl
end
def m_is_whole (value_1 : Int) (low_2 : Int) (high_3 : Int) : Bool :=
(m_is_int value_1) && ((decide (low_2 ≤ value_1)) && (decide (value_1 ≤ high_3)))
def m_is_whole_ok (value_1 : Int) (low_2 : Int) (high_3 : Int) : Prop :=
(m_is_int_ok value_1) ∧ True
def sp_is_whole (K : PySem.W.Frag) (CT : Addr) : Sp := spF (ι := Int × Int × Int) (fun d => [eI d.1, eI d.2.1, eI d.2.2]) (fun d => m_is_whole_ok d.1 d.2.1 d.2.2) (fun d => eB (m_is_whole d.1 d.2.1 d.2.2))
abbrev s_is_whole : Stmt := top 11
abbrev N_is_whole : List Str := ["value", "low", "high"]
theorem sc_is_whole : FnScope N_is_whole ["value", "low", "high"] (defScope s_is_whole) := ⟨rfl, rfl, rfl, by decide +kernel, rfl, by decide +kernel, by decide +kernel⟩
section
variable {P : Program} {w : World} {K : PySem.W.Frag} {mg : Str → Option Value} {base : Heap} {CT : Addr}
theorem ok_is_whole {f : Addr} {fd : FuncData} (F : Fun K "is_whole" "is_whole" s_is_whole f fd) {a_is_int : Addr} {fd_is_int : FuncData} (F_is_int : Fun K "is_int" "is_int" s_is_int a_is_int fd_is_int) (G_is_int : FnG P w K mg base CX0 1 a_is_int fd_is_int ["value"] (sp_is_int K CT)) (j_is_int : mg "is_int" = some (.ref a_is_int)) (b_is_int : Binds K fd_is_int ["value"] []) : FnG P w K mg base CX0 2 f fd ["value", "low", "high"] (sp_is_whole K CT) := by
  refine Fun.okG F sc_is_whole (fun vs H Q E h => ?_) (fun cdv A outer s H vs Q E hG hr h => ?_)
  · obtain ⟨d, F, _, _, h, _⟩ := h
    exact h.len
  · have nd := sc_is_whole.nd
    have hU := hr.units
    refine ⟨_, (pss_cons (ps_ret (pe_and (pg_call G_is_int hG (hr.mono (by decide)) rfl j_is_int F_is_int.kp b_is_int .nil pass0 (pa_cons (pv 0) pa_nil)) (pe_one (pe_chain op_le op_le (pv 1) (pv 0) (pv 2)))))
 pss_nil), ?_⟩
    refine def_F h (fun d => Nat.le_of_ble_eq_true rfl) (fun d h => ?_)
    obtain ⟨value_1, low_2, high_3⟩ := d
    replace h : m_is_whole_ok value_1 low_2 high_3 := h
    unfold m_is_whole_ok at h
    show SS _ [.fz (eI value_1), .fz (eI low_2), .fz (eI high_3)] (FP eB (m_is_whole value_1 low_2 high_3))
    obtain ⟨g1, h⟩ := h
    refine ss_retq (es_andV (es_call value_1 (as_cons (es_var 0 rfl) as_nil) g1) (fun hc0 => (es_chain (es_var 1 rfl) (es_var 0 rfl) q_le (fun hc => (es_var 2 rfl)) q_le))) ?_
    exact rfl
end
def m_require_key (value_1 : Int) : Unit :=
()
def m_require_key_ok (value_1 : Int) : Prop :=
(m_is_whole_ok value_1 0 (1000000000000000000000000000000 - 1)) ∧ (!(m_is_whole value_1 0 (1000000000000000000000000000000 - 1))) = false ∧ (True)
def sp_require_key (K : PySem.W.Frag) (CT : Addr) : Sp := spF (ι := Int) (fun d => [eI d]) (fun d => m_require_key_ok d) (fun d => eN)
abbrev s_require_key : Stmt := top 12
abbrev N_require_key : List Str := ["value"]
theorem sc_require_key : FnScope N_require_key ["value"] (defScope s_require_key) := ⟨rfl, rfl, rfl, by decide +kernel, rfl, by decide +kernel, by decide +kernel⟩
section
variable {P : Program} {w : World} {K : PySem.W.Frag} {mg : Str → Option Value} {base : Heap} {CT : Addr}
theorem ok_require_key {f : Addr} {fd : FuncData} (F : Fun K "require_key" "require_key" s_require_key f fd) {a_is_whole : Addr} {fd_is_whole : FuncData} (F_is_whole : Fun K "is_whole" "is_whole" s_is_whole a_is_whole fd_is_whole) (G_is_whole : FnG P w K mg base CX0 2 a_is_whole fd_is_whole ["value", "low", "high"] (sp_is_whole K CT)) (j_is_whole : mg "is_whole" = some (.ref a_is_whole)) (b_is_whole : Binds K fd_is_whole ["value", "low", "high"] []) (c_MOST_KEY : ∃ t, mg "MOST_KEY" = some (.int 1000000000000000000000000000000 t)) : FnG P w K mg base CX0 3 f fd ["value"] (sp_require_key K CT) := by
  obtain ⟨t_MOST_KEY, c_MOST_KEY⟩ := c_MOST_KEY
  refine Fun.okG F sc_require_key (fun vs H Q E h => ?_) (fun cdv A outer s H vs Q E hG hr h => ?_)
  · obtain ⟨d, F, _, _, h, _⟩ := h
    exact h.len
  · have nd := sc_require_key.nd
    have hU := hr.units
    refine ⟨_, (pss_cons (ps_if (pt_not (pt_val (pg_call G_is_whole hG (hr.mono (by decide)) rfl j_is_whole F_is_whole.kp b_is_whole .nil pass0 (pa_cons (pv 0) (pa_cons pe_int (pa_cons (pe_op op_sub (pe_glob (v := .int 1000000000000000000000000000000) rfl c_MOST_KEY ⟨_, rfl⟩) pe_int) pa_nil)))))) (pss_one ps_never) pss_nil)
 pss_nil), ?_⟩
    refine def_F h (fun d => Nat.le_of_ble_eq_true rfl) (fun value_1 h => ?_)
    replace h : m_require_key_ok value_1 := h
    unfold m_require_key_ok at h
    show SS _ [.fz (eI value_1)] (FP (fun _ : Unit => eN) (m_require_key value_1))
    obtain ⟨g1, h⟩ := h
    obtain ⟨hn, h⟩ := h
    refine ss_ifL (et_not (et_val (es_call (value_1, 0, 1000000000000000000000000000000 - 1) (as_cons (es_var 0 rfl) (as_cons es_c (as_cons (es_sub es_c es_c) as_nil))) g1))) (fun hc => absurd hc (by rw [hn]; exact Bool.false_ne_true)) (fun _ => ss_nxq ?_)
    exact ss_nx rfl
end
def m_require_depth (value_1 : Int) : Unit :=
()
def m_require_depth_ok (value_1 : Int) : Prop :=
(m_is_whole_ok value_1 0 100) ∧ (!(m_is_whole value_1 0 100)) = false ∧ (True)
def sp_require_depth (K : PySem.W.Frag) (CT : Addr) : Sp := spF (ι := Int) (fun d => [eI d]) (fun d => m_require_depth_ok d) (fun d => eN)
abbrev s_require_depth : Stmt := top 13
abbrev N_require_depth : List Str := ["value"]
theorem sc_require_depth : FnScope N_require_depth ["value"] (defScope s_require_depth) := ⟨rfl, rfl, rfl, by decide +kernel, rfl, by decide +kernel, by decide +kernel⟩
section
variable {P : Program} {w : World} {K : PySem.W.Frag} {mg : Str → Option Value} {base : Heap} {CT : Addr}
theorem ok_require_depth {f : Addr} {fd : FuncData} (F : Fun K "require_depth" "require_depth" s_require_depth f fd) {a_is_whole : Addr} {fd_is_whole : FuncData} (F_is_whole : Fun K "is_whole" "is_whole" s_is_whole a_is_whole fd_is_whole) (G_is_whole : FnG P w K mg base CX0 2 a_is_whole fd_is_whole ["value", "low", "high"] (sp_is_whole K CT)) (j_is_whole : mg "is_whole" = some (.ref a_is_whole)) (b_is_whole : Binds K fd_is_whole ["value", "low", "high"] []) (c_MOST_DEPTH : ∃ t, mg "MOST_DEPTH" = some (.int 100 t)) : FnG P w K mg base CX0 3 f fd ["value"] (sp_require_depth K CT) := by
  obtain ⟨t_MOST_DEPTH, c_MOST_DEPTH⟩ := c_MOST_DEPTH
  refine Fun.okG F sc_require_depth (fun vs H Q E h => ?_) (fun cdv A outer s H vs Q E hG hr h => ?_)
  · obtain ⟨d, F, _, _, h, _⟩ := h
    exact h.len
  · have nd := sc_require_depth.nd
    have hU := hr.units
    refine ⟨_, (pss_cons (ps_if (pt_not (pt_val (pg_call G_is_whole hG (hr.mono (by decide)) rfl j_is_whole F_is_whole.kp b_is_whole .nil pass0 (pa_cons (pv 0) (pa_cons pe_int (pa_cons (pe_glob (v := .int 100) rfl c_MOST_DEPTH ⟨_, rfl⟩) pa_nil)))))) (pss_one ps_never) pss_nil)
 pss_nil), ?_⟩
    refine def_F h (fun d => Nat.le_of_ble_eq_true rfl) (fun value_1 h => ?_)
    replace h : m_require_depth_ok value_1 := h
    unfold m_require_depth_ok at h
    show SS _ [.fz (eI value_1)] (FP (fun _ : Unit => eN) (m_require_depth value_1))
    obtain ⟨g1, h⟩ := h
    obtain ⟨hn, h⟩ := h
    refine ss_ifL (et_not (et_val (es_call (value_1, 0, 100) (as_cons (es_var 0 rfl) (as_cons es_c (as_cons es_c as_nil))) g1))) (fun hc => absurd hc (by rw [hn]; exact Bool.false_ne_true)) (fun _ => ss_nxq ?_)
    exact ss_nx rfl
end
def m_Table___init__ (capacity_2 : Int) (rate_3 : Int) (shift_4 : Int) : Unit :=
()
def m_Table___init___ok (capacity_2 : Int) (rate_3 : Int) (shift_4 : Int) : Prop :=
(m_is_whole_ok capacity_2 1 1000000000000000000000000000000) ∧ (!(m_is_whole capacity_2 1 1000000000000000000000000000000)) = false ∧ ((m_is_whole_ok rate_3 1 1000000000000000000000000000000) ∧ ((!(m_is_whole rate_3 1 1000000000000000000000000000000)) || (decide ((Builtin.bitAnd rate_3 1) = 0))) = false ∧ ((m_is_whole_ok shift_4 0 1000000000000000000000000000000) ∧ (!(m_is_whole shift_4 0 1000000000000000000000000000000)) = false ∧ ((((True))))))
def sp_Table___init__ (K : PySem.W.Frag) (CT : Addr) : Sp := spI (ι := Int × Int × Int) CT (fun d => [eI d.1, eI d.2.1, eI d.2.2]) (fun d => m_Table___init___ok d.1 d.2.1 d.2.2) (fun d => [("own_capacity", eI d.1), ("own_rate", eI d.2.1), ("own_shift", eI d.2.2)])
abbrev s_Table___init__ : Stmt := inClass (top 15) 0
abbrev N_Table___init__ : List Str := ["self", "capacity", "rate", "shift"]
theorem sc_Table___init__ : FnScope N_Table___init__ ["self", "capacity", "rate", "shift"] (defScope s_Table___init__) := ⟨rfl, rfl, rfl, by decide +kernel, rfl, by decide +kernel, by decide +kernel⟩
section
variable {P : Program} {w : World} {K : PySem.W.Frag} {mg : Str → Option Value} {base : Heap} {CT : Addr}
theorem ok_Table___init__ {f : Addr} {fd : FuncData} (F : Fun K "__init__" "Table.__init__" s_Table___init__ f fd) {a_is_whole : Addr} {fd_is_whole : FuncData} (F_is_whole : Fun K "is_whole" "is_whole" s_is_whole a_is_whole fd_is_whole) (G_is_whole : FnG P w K mg base CX0 2 a_is_whole fd_is_whole ["value", "low", "high"] (sp_is_whole K CT)) (j_is_whole : mg "is_whole" = some (.ref a_is_whole)) (b_is_whole : Binds K fd_is_whole ["value", "low", "high"] []) (c_MOST_KEY : ∃ t, mg "MOST_KEY" = some (.int 1000000000000000000000000000000 t)) (TT : TblTxt K mg CT) : FnG P w K mg base CX0 3 f fd ["self", "capacity", "rate", "shift"] (sp_Table___init__ K CT) := by
  obtain ⟨t_MOST_KEY, c_MOST_KEY⟩ := c_MOST_KEY
  obtain ⟨clT, na_own_capacity, na_own_rate, na_own_shift, mgT, isT, xaT, xbT, xcT, xdT⟩ := TT
  refine Fun.okG F sc_Table___init__ (fun vs H Q E h => ?_) (fun cdv A outer s H vs Q E hG hr h => ?_)
  · obtain ⟨d, F, p, dx, ws, rfl, _, _, _, _, h, _⟩ := h
    exact congrArg (· + 1) h.len
  · have nd := sc_Table___init__.nd
    have hU := hr.units
    refine ⟨_, (pss_cons (ps_if (pt_not (pt_val (pg_call G_is_whole hG (hr.mono (by decide)) rfl j_is_whole F_is_whole.kp b_is_whole .nil pass0 (pa_cons (pv 1) (pa_cons pe_int (pa_cons (pe_glob (v := .int 1000000000000000000000000000000) rfl c_MOST_KEY ⟨_, rfl⟩) pa_nil)))))) (pss_one ps_never) pss_nil)
 (pss_cons (ps_if (PW.pt (pw_or (pt_not (pt_val (pg_call G_is_whole hG (hr.mono (by decide)) rfl j_is_whole F_is_whole.kp b_is_whole .nil pass0 (pa_cons (pv 2) (pa_cons pe_int (pa_cons (pe_glob (v := .int 1000000000000000000000000000000) rfl c_MOST_KEY ⟨_, rfl⟩) pa_nil)))))) (pw_or1 (pt_cmpR op_eq (pe_op op_and (pv 2) pe_int) pe_int (nomark _))))) (pss_one ps_never) pss_nil)
 (pss_cons (ps_if (pt_not (pt_val (pg_call G_is_whole hG (hr.mono (by decide)) rfl j_is_whole F_is_whole.kp b_is_whole .nil pass0 (pa_cons (pv 3) (pa_cons pe_int (pa_cons (pe_glob (v := .int 1000000000000000000000000000000) rfl c_MOST_KEY ⟨_, rfl⟩) pa_nil)))))) (pss_one ps_never) pss_nil)
 (pss_cons (ps_fld (pv 0) (pv 1) rfl)
 (pss_cons (ps_fld (pv 0) (pv 2) rfl)
 (pss_cons (ps_fld (pv 0) (pv 3) rfl)
 pss_nil)))))), ?_⟩
    refine def_I h (fun d => Nat.le_of_ble_eq_true rfl) (fun d p h => ?_)
    obtain ⟨capacity_2, rate_3, shift_4⟩ := d
    replace h : m_Table___init___ok capacity_2 rate_3 shift_4 := h
    unfold m_Table___init___ok at h
    show SS _ [.ow (oI (some p) CT []), .fz (eI capacity_2), .fz (eI rate_3), .fz (eI shift_4)] ⟨fun W' => W'[0]? = some (.ow (oI (some p) CT [("own_capacity", eI capacity_2), ("own_rate", eI rate_3), ("own_shift", eI shift_4)])), fun _ _ => False, fun _ => False, fun _ => False⟩
    obtain ⟨g1, h⟩ := h
    obtain ⟨hn, h⟩ := h
    refine ss_ifL (et_not (et_val (es_call (capacity_2, 1, 1000000000000000000000000000000) (as_cons (es_var 1 rfl) (as_cons es_c (as_cons es_c as_nil))) g1))) (fun hc => absurd hc (by rw [hn]; exact Bool.false_ne_true)) (fun _ => ss_nxq ?_)
    obtain ⟨g2, h⟩ := h
    obtain ⟨hn, h⟩ := h
    refine ss_ifL (et_or (et_not (et_val (es_call (rate_3, 1, 1000000000000000000000000000000) (as_cons (es_var 2 rfl) (as_cons es_c (as_cons es_c as_nil))) g2))) (fun hc0 => (et_cmp (es_and (es_var 2 rfl) es_c) es_c q_eqI))) (fun hc => absurd hc (by rw [hn]; exact Bool.false_ne_true)) (fun _ => ss_nxq ?_)
    obtain ⟨g3, h⟩ := h
    obtain ⟨hn, h⟩ := h
    refine ss_ifL (et_not (et_val (es_call (shift_4, 0, 1000000000000000000000000000000) (as_cons (es_var 3 rfl) (as_cons es_c (as_cons es_c as_nil))) g3))) (fun hc => absurd hc (by rw [hn]; exact Bool.false_ne_true)) (fun _ => ss_nxq ?_)
    refine ss_seqTo [.ow (oI (some p) CT [("own_capacity", eI capacity_2)]), .fz (eI capacity_2), .fz (eI rate_3), .fz (eI shift_4)] (ss_fldN clT na_own_capacity (es_var 1 rfl) rfl (Nat.le_of_ble_eq_true rfl) (by simp only [List.map_cons, List.map_nil]; decide +kernel) Wk.refl) ?_
    refine ss_seqTo [.ow (oI (some p) CT [("own_capacity", eI capacity_2), ("own_rate", eI rate_3)]), .fz (eI capacity_2), .fz (eI rate_3), .fz (eI shift_4)] (ss_fldN clT na_own_rate (es_var 2 rfl) rfl (Nat.le_of_ble_eq_true rfl) (by simp only [List.map_cons, List.map_nil]; decide +kernel) Wk.refl) ?_
    refine ss_seqTo [.ow (oI (some p) CT [("own_capacity", eI capacity_2), ("own_rate", eI rate_3), ("own_shift", eI shift_4)]), .fz (eI capacity_2), .fz (eI rate_3), .fz (eI shift_4)] (ss_fldN clT na_own_shift (es_var 3 rfl) rfl (Nat.le_of_ble_eq_true rfl) (by simp only [List.map_cons, List.map_nil]; decide +kernel) Wk.refl) ?_
    exact ss_nx rfl
end
def m_Table_value (self_1 : Tbl) (key_2 : Int) : Int :=
(self_1.rate * key_2) + self_1.shift
def m_Table_value_ok (self_1 : Tbl) (key_2 : Int) : Prop :=
(m_require_key_ok key_2) ∧ ((CMulW self_1.rate key_2) ∧ True)
def sp_Table_value (K : PySem.W.Frag) (CT : Addr) : Sp := spF (ι := Tbl × Int) (fun d => [(eTbl CT) d.1, eI d.2]) (fun d => m_Table_value_ok d.1 d.2) (fun d => eI (m_Table_value d.1 d.2))
abbrev s_Table_value : Stmt := inClass (top 15) 4
abbrev N_Table_value : List Str := ["self", "key"]
theorem sc_Table_value : FnScope N_Table_value ["self", "key"] (defScope s_Table_value) := ⟨rfl, rfl, rfl, by decide +kernel, rfl, by decide +kernel, by decide +kernel⟩
section
variable {P : Program} {w : World} {K : PySem.W.Frag} {mg : Str → Option Value} {base : Heap} {CT : Addr}
theorem ok_Table_value {f : Addr} {fd : FuncData} (F : Fun K "value" "Table.value" s_Table_value f fd) {a_require_key : Addr} {fd_require_key : FuncData} (F_require_key : Fun K "require_key" "require_key" s_require_key a_require_key fd_require_key) (G_require_key : FnG P w K mg base CX0 3 a_require_key fd_require_key ["value"] (sp_require_key K CT)) (j_require_key : mg "require_key" = some (.ref a_require_key)) (b_require_key : Binds K fd_require_key ["value"] []) (TT : TblTxt K mg CT) : FnG P w K mg base CX0 4 f fd ["self", "key"] (sp_Table_value K CT) := by
  obtain ⟨clT, na_own_capacity, na_own_rate, na_own_shift, mgT, isT, xaT, xbT, xcT, xdT⟩ := TT
  refine Fun.okG F sc_Table_value (fun vs H Q E h => ?_) (fun cdv A outer s H vs Q E hG hr h => ?_)
  · obtain ⟨d, F, _, _, h, _⟩ := h
    exact h.len
  · have nd := sc_Table_value.nd
    have hU := hr.units
    refine ⟨_, (pss_cons (ps_expr (pg_call G_require_key hG (hr.mono (by decide)) rfl j_require_key F_require_key.kp b_require_key .nil pass0 (pa_cons (pv 1) pa_nil)))
 (pss_cons (ps_ret (pe_op op_add (pe_op op_mulW (pe_fld (pv 0) rfl) (pv 1)) (pe_fld (pv 0) rfl)))
 pss_nil)), ?_⟩
    refine def_F h (fun d => Nat.le_of_ble_eq_true rfl) (fun d h => ?_)
    obtain ⟨self_1, key_2⟩ := d
    replace h : m_Table_value_ok self_1 key_2 := h
    unfold m_Table_value_ok at h
    show SS _ [.fz ((eTbl CT) self_1), .fz (eI key_2)] (FP eI (m_Table_value self_1 key_2))
    obtain ⟨g1, h⟩ := h
    refine ss_seqTo [.fz ((eTbl CT) self_1), .fz (eI key_2)] (ss_drop (es_call key_2 (as_cons (es_var 1 rfl) as_nil) g1) Wk.refl) ?_
    obtain ⟨g2, h⟩ := h
    refine ss_retq (es_add (es_mulW (es_fld clT na_own_rate (es_var 0 rfl) rfl) (es_var 1 rfl) g2) (es_fld clT na_own_shift (es_var 0 rfl) rfl)) ?_
    exact rfl
end
def m_numbers_of (table_1 : Tbl) : Int × Int × Int :=
(table_1.capacity, table_1.rate, table_1.shift)
def m_numbers_of_ok (table_1 : Tbl) : Prop :=
True
def sp_numbers_of (K : PySem.W.Frag) (CT : Addr) : Sp := spF (ι := Tbl) (fun d => [(eTbl CT) d]) (fun d => m_numbers_of_ok d) (fun d => (eP3 K eI eI eI) (m_numbers_of d))
abbrev s_numbers_of : Stmt := top 16
abbrev N_numbers_of : List Str := ["table"]
theorem sc_numbers_of : FnScope N_numbers_of ["table"] (defScope s_numbers_of) := ⟨rfl, rfl, rfl, by decide +kernel, rfl, by decide +kernel, by decide +kernel⟩
section
variable {P : Program} {w : World} {K : PySem.W.Frag} {mg : Str → Option Value} {base : Heap} {CT : Addr}
theorem ok_numbers_of {f : Addr} {fd : FuncData} (F : Fun K "numbers_of" "numbers_of" s_numbers_of f fd) (TT : TblTxt K mg CT) : FnG P w K mg base CX0 1 f fd ["table"] (sp_numbers_of K CT) := by
  obtain ⟨clT, na_own_capacity, na_own_rate, na_own_shift, mgT, isT, xaT, xbT, xcT, xdT⟩ := TT
  refine Fun.okG F sc_numbers_of (fun vs H Q E h => ?_) (fun cdv A outer s H vs Q E hG hr h => ?_)
  · obtain ⟨d, F, _, _, h, _⟩ := h
    exact h.len
  · have nd := sc_numbers_of.nd
    have hU := hr.units
    refine ⟨_, (pss_cons (ps_ret (pe_tup (pa_cons (pe_fld (pv 0) rfl) (pa_cons (pe_fld (pv 0) rfl) (pa_cons (pe_fld (pv 0) rfl) pa_nil)))))
 pss_nil), ?_⟩
    refine def_F h (fun d => Nat.le_of_ble_eq_true rfl) (fun table_1 h => ?_)
    replace h : m_numbers_of_ok table_1 := h
    unfold m_numbers_of_ok at h
    show SS _ [.fz ((eTbl CT) table_1)] (FP (eP3 K eI eI eI) (m_numbers_of table_1))
    refine ss_retq (es_tup (K := K) (as_cons (es_fld clT na_own_capacity (es_var 0 rfl) rfl) (as_cons (es_fld clT na_own_rate (es_var 0 rfl) rfl) (as_cons (es_fld clT na_own_shift (es_var 0 rfl) rfl) as_nil)))) ?_
    exact rfl
end
def m_Table___eq__ (self_1 : Tbl) (other_2 : Tbl) : Bool :=
if (!true) = true then (
false)
else (
decide ((m_numbers_of self_1) = (m_numbers_of other_2)))
def m_Table___eq___ok (self_1 : Tbl) (other_2 : Tbl) : Prop :=
((!true) = true → (True)) ∧ ((!true) = false → ((m_numbers_of_ok self_1) ∧ (m_numbers_of_ok other_2) ∧ True))
def sp_Table___eq__ (K : PySem.W.Frag) (CT : Addr) : Sp := spF (ι := Tbl × Tbl) (fun d => [(eTbl CT) d.1, (eTbl CT) d.2]) (fun d => m_Table___eq___ok d.1 d.2) (fun d => eB (m_Table___eq__ d.1 d.2))
abbrev s_Table___eq__ : Stmt := inClass (top 15) 6
abbrev N_Table___eq__ : List Str := ["self", "other"]
theorem sc_Table___eq__ : FnScope N_Table___eq__ ["self", "other"] (defScope s_Table___eq__) := ⟨rfl, rfl, rfl, by decide +kernel, rfl, by decide +kernel, by decide +kernel⟩
section
variable {P : Program} {w : World} {K : PySem.W.Frag} {mg : Str → Option Value} {base : Heap} {CT : Addr}
theorem ok_Table___eq__ {f : Addr} {fd : FuncData} (F : Fun K "__eq__" "Table.__eq__" s_Table___eq__ f fd) {a_numbers_of : Addr} {fd_numbers_of : FuncData} (F_numbers_of : Fun K "numbers_of" "numbers_of" s_numbers_of a_numbers_of fd_numbers_of) (G_numbers_of : FnG P w K mg base CX0 1 a_numbers_of fd_numbers_of ["table"] (sp_numbers_of K CT)) (j_numbers_of : mg "numbers_of" = some (.ref a_numbers_of)) (b_numbers_of : Binds K fd_numbers_of ["table"] []) (n_isinstance : mg "isinstance" = none) (TT : TblTxt K mg CT) : FnG P w K mg base CX0 2 f fd ["self", "other"] (sp_Table___eq__ K CT) := by
  obtain ⟨clT, na_own_capacity, na_own_rate, na_own_shift, mgT, isT, xaT, xbT, xcT, xdT⟩ := TT
  refine Fun.okG F sc_Table___eq__ (fun vs H Q E h => ?_) (fun cdv A outer s H vs Q E hG hr h => ?_)
  · obtain ⟨d, F, _, _, h, _⟩ := h
    exact h.len
  · have nd := sc_Table___eq__.nd
    have hU := hr.units
    refine ⟨_, (pss_cons (ps_if (pt_not (pt_val (pe_callB call_isi rfl n_isinstance (by decide +kernel) (pa_cons (pv 1) (pa_cons (pe_glob (v := .ref CT) rfl mgT rfl) pa_nil))))) (pss_cons (ps_ret pe_bl)
 pss_nil) pss_nil)
 (pss_cons (ps_ret (pe_cmpR (op_eqDK (K := K) rfl hU) (pg_call G_numbers_of hG (hr.mono (by decide)) rfl j_numbers_of F_numbers_of.kp b_numbers_of .nil pass0 (pa_cons (pv 0) pa_nil)) (pg_call G_numbers_of hG (hr.mono (by decide)) rfl j_numbers_of F_numbers_of.kp b_numbers_of .nil pass0 (pa_cons (pv 1) pa_nil)) (nomark _)))
 pss_nil)), ?_⟩
    refine def_F h (fun d => Nat.le_of_ble_eq_true rfl) (fun d h => ?_)
    obtain ⟨self_1, other_2⟩ := d
    replace h : m_Table___eq___ok self_1 other_2 := h
    unfold m_Table___eq___ok at h
    show SS _ [.fz ((eTbl CT) self_1), .fz ((eTbl CT) other_2)] (FP eB (m_Table___eq__ self_1 other_2))
    obtain ⟨hA, hB⟩ := h
    refine ss_ifLv (FP eB) (et_not (et_val (es_isi (b := true) (es_var 1 rfl) (.own CT) (ty_ins clT xaT xbT xcT xdT) isT))) (fun hc => ?_) (fun hc => ?_)
    · replace h := hA hc; clear hA hB
      refine ss_retq es_c ?_
      exact rfl
    · replace h := hB hc; clear hA hB
      refine ss_nxq ?_
      obtain ⟨g1, g2, h⟩ := h
      refine ss_retq (es_eqDat (K := K) (e := (eP3 K eI eI eI)) (es_call self_1 (as_cons (es_var 0 rfl) as_nil) g1) (es_call other_2 (as_cons (es_var 1 rfl) as_nil) g2) (Nat.le_of_ble_eq_true rfl)) ?_
      exact rfl
end
def m_Table___eq__2 (self_1 : Tbl) (other_2 : Nat × Trip) : Bool :=
false
def m_Table___eq__2_ok (self_1 : Tbl) (other_2 : Nat × Trip) : Prop :=
True
def sp_Table___eq__2 (K : PySem.W.Frag) (CT : Addr) : Sp := spF (ι := Tbl × (Nat × Trip)) (fun d => [(eTbl CT) d.1, (eOdd K) d.2]) (fun d => m_Table___eq__2_ok d.1 d.2) (fun d => eB (m_Table___eq__2 d.1 d.2))
abbrev s_Table___eq__2 : Stmt := inClass (top 15) 6
abbrev N_Table___eq__2 : List Str := ["self", "other"]
theorem sc_Table___eq__2 : FnScope N_Table___eq__2 ["self", "other"] (defScope s_Table___eq__2) := ⟨rfl, rfl, rfl, by decide +kernel, rfl, by decide +kernel, by decide +kernel⟩
section
variable {P : Program} {w : World} {K : PySem.W.Frag} {mg : Str → Option Value} {base : Heap} {CT : Addr}
theorem ok_Table___eq__2 {f : Addr} {fd : FuncData} (F : Fun K "__eq__" "Table.__eq__" s_Table___eq__2 f fd) (n_isinstance : mg "isinstance" = none) (NO : OddNo K CT) (TT : TblTxt K mg CT) : FnG P w K mg base CX0 1 f fd ["self", "other"] (sp_Table___eq__2 K CT) := by
  obtain ⟨clT, na_own_capacity, na_own_rate, na_own_shift, mgT, isT, xaT, xbT, xcT, xdT⟩ := TT
  refine Fun.okG F sc_Table___eq__2 (fun vs H Q E h => ?_) (fun cdv A outer s H vs Q E hG hr h => ?_)
  · obtain ⟨d, F, _, _, h, _⟩ := h
    exact h.len
  · have nd := sc_Table___eq__2.nd
    have hU := hr.units
    refine ⟨_, (pss_cons (ps_if (pt_not (pt_val (pe_callB call_isi rfl n_isinstance (by decide +kernel) (pa_cons (pv 1) (pa_cons (pe_glob (v := .ref CT) rfl mgT rfl) pa_nil))))) (pss_cons (ps_ret pe_bl)
 pss_nil) pss_nil)
 (pss_cons ps_never
 pss_nil)), ?_⟩
    refine def_F h (fun d => Nat.le_of_ble_eq_true rfl) (fun d h => ?_)
    obtain ⟨self_1, other_2⟩ := d
    replace h : m_Table___eq__2_ok self_1 other_2 := h
    unfold m_Table___eq__2_ok at h
    show SS _ [.fz ((eTbl CT) self_1), .fz ((eOdd K) other_2)] (FP eB (m_Table___eq__2 self_1 other_2))
    refine ss_ifL (et_not (et_val (es_isi (b := false) (es_var 1 rfl) (.own CT) (ty_odd other_2) (kit_odd NO other_2)))) (fun _ => ?_) (fun hc => by cases hc)
    refine ss_retq es_c ?_
    exact rfl
end
def m_tail_of (table_1 : Tbl) (key_2 : Int) (depth_3 : Int) : Int :=
Builtin.bitAnd ((table_1.rate * key_2) + table_1.shift) ((1 * 2 ^ depth_3.toNat) - 1)
def m_tail_of_ok (table_1 : Tbl) (key_2 : Int) (depth_3 : Int) : Prop :=
(CMulW table_1.rate key_2) ∧ (0 ≤ depth_3 ∧ depth_3 ≤ 1000000) ∧ True
def sp_tail_of (K : PySem.W.Frag) (CT : Addr) : Sp := spF (ι := Tbl × Int × Int) (fun d => [(eTbl CT) d.1, eI d.2.1, eI d.2.2]) (fun d => m_tail_of_ok d.1 d.2.1 d.2.2) (fun d => eI (m_tail_of d.1 d.2.1 d.2.2))
abbrev s_tail_of : Stmt := top 17
abbrev N_tail_of : List Str := ["table", "key", "depth"]
theorem sc_tail_of : FnScope N_tail_of ["table", "key", "depth"] (defScope s_tail_of) := ⟨rfl, rfl, rfl, by decide +kernel, rfl, by decide +kernel, by decide +kernel⟩
section
variable {P : Program} {w : World} {K : PySem.W.Frag} {mg : Str → Option Value} {base : Heap} {CT : Addr}
theorem ok_tail_of {f : Addr} {fd : FuncData} (F : Fun K "tail_of" "tail_of" s_tail_of f fd) (TT : TblTxt K mg CT) : FnG P w K mg base CX0 1 f fd ["table", "key", "depth"] (sp_tail_of K CT) := by
  obtain ⟨clT, na_own_capacity, na_own_rate, na_own_shift, mgT, isT, xaT, xbT, xcT, xdT⟩ := TT
  refine Fun.okG F sc_tail_of (fun vs H Q E h => ?_) (fun cdv A outer s H vs Q E hG hr h => ?_)
  · obtain ⟨d, F, _, _, h, _⟩ := h
    exact h.len
  · have nd := sc_tail_of.nd
    have hU := hr.units
    refine ⟨_, (pss_cons (ps_ret (pe_op op_and (pe_op op_add (pe_op op_mulW (pe_fld (pv 0) rfl) (pv 1)) (pe_fld (pv 0) rfl)) (pe_op op_sub (pe_op op_shl pe_int (pv 2)) pe_int)))
 pss_nil), ?_⟩
    refine def_F h (fun d => Nat.le_of_ble_eq_true rfl) (fun d h => ?_)
    obtain ⟨table_1, key_2, depth_3⟩ := d
    replace h : m_tail_of_ok table_1 key_2 depth_3 := h
    unfold m_tail_of_ok at h
    show SS _ [.fz ((eTbl CT) table_1), .fz (eI key_2), .fz (eI depth_3)] (FP eI (m_tail_of table_1 key_2 depth_3))
    obtain ⟨g1, g2, h⟩ := h
    refine ss_retq (es_and (es_add (es_mulW (es_fld clT na_own_rate (es_var 0 rfl) rfl) (es_var 1 rfl) g1) (es_fld clT na_own_shift (es_var 0 rfl) rfl)) (es_sub (es_shlL es_c (es_var 2 rfl) g2 (by decide)) es_c)) ?_
    exact rfl
end
def m_Table_tail (self_1 : Tbl) (key_2 : Int) (depth_3 : Int) : Int :=
m_tail_of self_1 key_2 depth_3
def m_Table_tail_ok (self_1 : Tbl) (key_2 : Int) (depth_3 : Int) : Prop :=
(m_require_key_ok key_2) ∧ ((m_require_depth_ok depth_3) ∧ ((m_tail_of_ok self_1 key_2 depth_3) ∧ True))
def sp_Table_tail (K : PySem.W.Frag) (CT : Addr) : Sp := spF (ι := Tbl × Int × Int) (fun d => [(eTbl CT) d.1, eI d.2.1, eI d.2.2]) (fun d => m_Table_tail_ok d.1 d.2.1 d.2.2) (fun d => eI (m_Table_tail d.1 d.2.1 d.2.2))
abbrev s_Table_tail : Stmt := inClass (top 15) 5
abbrev N_Table_tail : List Str := ["self", "key", "depth"]
theorem sc_Table_tail : FnScope N_Table_tail ["self", "key", "depth"] (defScope s_Table_tail) := ⟨rfl, rfl, rfl, by decide +kernel, rfl, by decide +kernel, by decide +kernel⟩
section
variable {P : Program} {w : World} {K : PySem.W.Frag} {mg : Str → Option Value} {base : Heap} {CT : Addr}
theorem ok_Table_tail {f : Addr} {fd : FuncData} (F : Fun K "tail" "Table.tail" s_Table_tail f fd) {a_require_key : Addr} {fd_require_key : FuncData} (F_require_key : Fun K "require_key" "require_key" s_require_key a_require_key fd_require_key) (G_require_key : FnG P w K mg base CX0 3 a_require_key fd_require_key ["value"] (sp_require_key K CT)) (j_require_key : mg "require_key" = some (.ref a_require_key)) (b_require_key : Binds K fd_require_key ["value"] []) {a_require_depth : Addr} {fd_require_depth : FuncData} (F_require_depth : Fun K "require_depth" "require_depth" s_require_depth a_require_depth fd_require_depth) (G_require_depth : FnG P w K mg base CX0 3 a_require_depth fd_require_depth ["value"] (sp_require_depth K CT)) (j_require_depth : mg "require_depth" = some (.ref a_require_depth)) (b_require_depth : Binds K fd_require_depth ["value"] []) {a_tail_of : Addr} {fd_tail_of : FuncData} (F_tail_of : Fun K "tail_of" "tail_of" s_tail_of a_tail_of fd_tail_of) (G_tail_of : FnG P w K mg base CX0 1 a_tail_of fd_tail_of ["table", "key", "depth"] (sp_tail_of K CT)) (j_tail_of : mg "tail_of" = some (.ref a_tail_of)) (b_tail_of : Binds K fd_tail_of ["table", "key", "depth"] []) : FnG P w K mg base CX0 4 f fd ["self", "key", "depth"] (sp_Table_tail K CT) := by
  refine Fun.okG F sc_Table_tail (fun vs H Q E h => ?_) (fun cdv A outer s H vs Q E hG hr h => ?_)
  · obtain ⟨d, F, _, _, h, _⟩ := h
    exact h.len
  · have nd := sc_Table_tail.nd
    have hU := hr.units
    refine ⟨_, (pss_cons (ps_expr (pg_call G_require_key hG (hr.mono (by decide)) rfl j_require_key F_require_key.kp b_require_key .nil pass0 (pa_cons (pv 1) pa_nil)))
 (pss_cons (ps_expr (pg_call G_require_depth hG (hr.mono (by decide)) rfl j_require_depth F_require_depth.kp b_require_depth .nil pass0 (pa_cons (pv 2) pa_nil)))
 (pss_cons (ps_ret (pg_call G_tail_of hG (hr.mono (by decide)) rfl j_tail_of F_tail_of.kp b_tail_of .nil pass0 (pa_cons (pv 0) (pa_cons (pv 1) (pa_cons (pv 2) pa_nil)))))
 pss_nil))), ?_⟩
    refine def_F h (fun d => Nat.le_of_ble_eq_true rfl) (fun d h => ?_)
    obtain ⟨self_1, key_2, depth_3⟩ := d
    replace h : m_Table_tail_ok self_1 key_2 depth_3 := h
    unfold m_Table_tail_ok at h
    show SS _ [.fz ((eTbl CT) self_1), .fz (eI key_2), .fz (eI depth_3)] (FP eI (m_Table_tail self_1 key_2 depth_3))
    obtain ⟨g1, h⟩ := h
    refine ss_seqTo [.fz ((eTbl CT) self_1), .fz (eI key_2), .fz (eI depth_3)] (ss_drop (es_call key_2 (as_cons (es_var 1 rfl) as_nil) g1) Wk.refl) ?_
    obtain ⟨g2, h⟩ := h
    refine ss_seqTo [.fz ((eTbl CT) self_1), .fz (eI key_2), .fz (eI depth_3)] (ss_drop (es_call depth_3 (as_cons (es_var 2 rfl) as_nil) g2) Wk.refl) ?_
    obtain ⟨g3, h⟩ := h
    refine ss_retq (es_call (self_1, key_2, depth_3) (as_cons (es_var 0 rfl) (as_cons (es_var 1 rfl) (as_cons (es_var 2 rfl) as_nil))) g3) ?_
    exact rfl
end
def m_bag (cell_1 : Int) : Bag :=
⟨max2 0 (cell_1 - (10 ^ 18)), cell_1, 0⟩
def m_bag_ok (cell_1 : Int) : Prop :=
True
def sp_bag (K : PySem.W.Frag) (CT : Addr) : Sp := spN (ι := Int) (fun d => [eI d]) (fun d => m_bag_ok d) (fun d => bagR (m_bag d))
abbrev s_bag : Stmt := top 19
abbrev N_bag : List Str := ["_law_cell"]
theorem sc_bag : FnScope N_bag ["_law_cell"] (defScope s_bag) := ⟨rfl, rfl, rfl, by decide +kernel, rfl, by decide +kernel, by decide +kernel⟩
section
variable {P : Program} {w : World} {K : PySem.W.Frag} {mg : Str → Option Value} {base : Heap} {CT : Addr}
theorem ok_bag {f : Addr} {fd : FuncData} (F : Fun K "_law_bag" "_law_bag" s_bag f fd) (n_max : mg "max" = none) : FnG P w K mg base CX0 1 f fd ["_law_cell"] (sp_bag K CT) := by
  refine Fun.okG F sc_bag (fun vs H Q E h => ?_) (fun cdv A outer s H vs Q E hG hr h => ?_)
  · obtain ⟨d, F, _, _, h, _⟩ := h
    exact h.len
  · have nd := sc_bag.nd
    have hU := hr.units
    refine ⟨_, (pss_cons (ps_ret (pe_lst (pa_cons (pe_callB (call_max2 rfl) rfl n_max (by decide +kernel) (pa_cons pe_int (pa_cons (pe_op op_sub (pv 0) (pe_op op_pow pe_int pe_int)) pa_nil))) (pa_cons (pv 0) (pa_cons pe_int pa_nil)))))
 pss_nil), ?_⟩
    refine def_N h (fun d => Nat.le_of_ble_eq_true rfl) (fun cell_1 h => ?_)
    replace h : m_bag_ok cell_1 := h
    unfold m_bag_ok at h
    show SSN _ [.fz (eI cell_1)] _
    exact sn_ret (en_lst (as_cons (es_max2 es_c (es_sub (es_var 0 rfl) (es_pow es_c es_c ⟨by decide, by decide, by decide⟩))) (as_cons (es_var 0 rfl) (as_cons es_c as_nil))))
end
def m_pick (bag_1 : Bag) (many_2 : Int) : Int × Bag :=
let bag_3 := (⟨bag_1.a, bag_1.c, bag_1.t + 1⟩ : Bag)
if (decide (0 < ((⟨bag_1.a, bag_1.c, bag_1.t + 1⟩ : Bag).a))) = true then (
let told_4 := ((⟨bag_1.a, bag_1.c, bag_1.t + 1⟩ : Bag).a) % many_2
let bag_5 := (⟨((⟨bag_1.a, bag_1.c, bag_1.t + 1⟩ : Bag).a) / many_2, (⟨bag_1.a, bag_1.c, bag_1.t + 1⟩ : Bag).c, (⟨bag_1.a, bag_1.c, bag_1.t + 1⟩ : Bag).t⟩ : Bag)
(told_4, bag_5))
else (
let seed_6 := (⟨bag_1.a, bag_1.c, bag_1.t + 1⟩ : Bag).c
let turn_7 := (⟨bag_1.a, bag_1.c, bag_1.t + 1⟩ : Bag).t
let first_8 := ((((seed_6 % 2147483629) * 48271) + (turn_7 * 69621)) + 12345) % 2147483647
let second_9 := ((first_8 * first_8) + (turn_7 * 40692)) % 2147483587
let drawn_10 := ((first_8 * 2147483587) + second_9) / 32
let j_12 : Int := (if (decide ((10 ^ 15) < many_2)) = true then (
let drawn_11 := (drawn_10 ^ 8) + second_9
drawn_11)
else (
drawn_10))
(j_12 % many_2, (⟨bag_1.a, bag_1.c, bag_1.t + 1⟩ : Bag)))
def m_pick_ok (bag_1 : Bag) (many_2 : Int) : Prop :=
(∀ bag_3, bag_3 = (⟨bag_1.a, bag_1.c, bag_1.t + 1⟩ : Bag) → ((decide (0 < ((⟨bag_1.a, bag_1.c, bag_1.t + 1⟩ : Bag).a))) = true → ((0 < many_2) ∧ (∀ told_4, told_4 = (((⟨bag_1.a, bag_1.c, bag_1.t + 1⟩ : Bag).a) % many_2) → (CDivW ((⟨bag_1.a, bag_1.c, bag_1.t + 1⟩ : Bag).a) many_2) ∧ (∀ bag_5, bag_5 = (⟨((⟨bag_1.a, bag_1.c, bag_1.t + 1⟩ : Bag).a) / many_2, (⟨bag_1.a, bag_1.c, bag_1.t + 1⟩ : Bag).c, (⟨bag_1.a, bag_1.c, bag_1.t + 1⟩ : Bag).t⟩ : Bag) → True)))) ∧ ((decide (0 < ((⟨bag_1.a, bag_1.c, bag_1.t + 1⟩ : Bag).a))) = false → ((∀ seed_6, seed_6 = ((⟨bag_1.a, bag_1.c, bag_1.t + 1⟩ : Bag).c) → ∀ turn_7, turn_7 = ((⟨bag_1.a, bag_1.c, bag_1.t + 1⟩ : Bag).t) → (∀ first_8, first_8 = (((((seed_6 % 2147483629) * 48271) + (turn_7 * 69621)) + 12345) % 2147483647) → (CMulW first_8 first_8) ∧ (∀ second_9, second_9 = (((first_8 * first_8) + (turn_7 * 40692)) % 2147483587) → (∀ drawn_10, drawn_10 = (((first_8 * 2147483587) + second_9) / 32) → ((decide ((10 ^ 15) < many_2)) = true → ((drawn_10.natAbs < 2 ^ 64) ∧ (∀ drawn_11, drawn_11 = ((drawn_10 ^ 8) + second_9) → True))) ∧ ((decide ((10 ^ 15) < many_2)) = false → (True)) ∧ (∀ j_12 : Int, j_12 = (if (decide ((10 ^ 15) < many_2)) = true then (
let drawn_11 := (drawn_10 ^ 8) + second_9
drawn_11)
else (
drawn_10)) → ((0 < many_2) ∧ True)))))))))
def sp_pick (K : PySem.W.Frag) (CT : Addr) : Sp := spB (ι := Bag × Int) (fun d => bagR d.1) (fun d => [eI d.2]) (fun d => m_pick_ok d.1 d.2) (fun d => bagR (m_pick d.1 d.2).2) (fun d => eI ((m_pick d.1 d.2).1))
abbrev s_pick : Stmt := top 20
abbrev N_pick : List Str := ["_law_bag_here", "_law_many", "_law_told", "_law_seed", "_law_turn", "_law_first", "_law_second", "_law_drawn"]
theorem sc_pick : FnScope N_pick ["_law_bag_here", "_law_many"] (defScope s_pick) := ⟨rfl, rfl, rfl, by decide +kernel, rfl, by decide +kernel, by decide +kernel⟩
section
variable {P : Program} {w : World} {K : PySem.W.Frag} {mg : Str → Option Value} {base : Heap} {CT : Addr}
theorem ok_pick {f : Addr} {fd : FuncData} (F : Fun K "_law_pick" "_law_pick" s_pick f fd) (n_int : mg "int" = none) : FnG P w K mg base CX0 1 f fd ["_law_bag_here", "_law_many"] (sp_pick K CT) := by
  refine Fun.okG F sc_pick (fun vs H Q E h => ?_) (fun cdv A outer s H vs Q E hG hr h => ?_)
  · obtain ⟨d, F, p, o, ws, rfl, _, _, _, _, _, h, _⟩ := h
    exact congrArg (· + 1) h.len
  · have nd := sc_pick.nd
    have hU := hr.units
    refine ⟨_, (pss_cons (ps_asg (pe_op op_add (pe_ix ix_list (pv 0) pe_int (fun _ _ => rfl)) pe_int) (pg_sub (pv 0) pe_int set_list))
 (pss_cons (ps_if (pt_cmpR op_gt (pe_ix ix_list (pv 0) pe_int (fun _ _ => rfl)) pe_int (nomark _)) (pss_cons (ps_set (i := 2) nd rfl (by first | exact .inl rfl | exact .inr rfl) (pe_op op_mod (pe_callTy call_int1 rfl n_int (by decide +kernel) (pa_cons (pe_ix ix_list (pv 0) pe_int (fun _ _ => rfl)) pa_nil)) (pv 1)))
 (pss_cons (ps_asg (pe_op op_fdivW (pe_callTy call_int1 rfl n_int (by decide +kernel) (pa_cons (pe_ix ix_list (pv 0) pe_int (fun _ _ => rfl)) pa_nil)) (pv 1)) (pg_sub (pv 0) pe_int set_list))
 (pss_cons (ps_ret (pv 2))
 pss_nil))) pss_nil)
 (pss_cons (ps_par (i := 3) (j := 4) rfl nd rfl rfl (by decide) rfl rfl (pa_cons (pe_callTy call_int1 rfl n_int (by decide +kernel) (pa_cons (pe_ix ix_list (pv 0) pe_int (fun _ _ => rfl)) pa_nil)) (pa_cons (pe_callTy call_int1 rfl n_int (by decide +kernel) (pa_cons (pe_ix ix_list (pv 0) pe_int (fun _ _ => rfl)) pa_nil)) pa_nil)) (by rfl))
 (pss_cons (ps_set (i := 5) nd rfl (by first | exact .inl rfl | exact .inr rfl) (pe_op op_mod (pe_callTy call_int1 rfl n_int (by decide +kernel) (pa_cons (pe_op op_add (pe_op op_add (pe_op op_mul (pe_op op_mod (pv 3) pe_int) pe_int) (pe_op op_mul (pv 4) pe_int)) pe_int) pa_nil)) pe_int))
 (pss_cons (ps_set (i := 6) nd rfl (by first | exact .inl rfl | exact .inr rfl) (pe_op op_mod (pe_callTy call_int1 rfl n_int (by decide +kernel) (pa_cons (pe_op op_add (pe_op op_mulW (pv 5) (pv 5)) (pe_op op_mul (pv 4) pe_int)) pa_nil)) pe_int))
 (pss_cons (ps_set (i := 7) nd rfl (by first | exact .inl rfl | exact .inr rfl) (pe_op op_fdivW (pe_callTy call_int1 rfl n_int (by decide +kernel) (pa_cons (pe_op op_add (pe_op op_mul (pv 5) pe_int) (pv 6)) pa_nil)) pe_int))
 (pss_cons (ps_if (pt_cmpR op_gt (pv 1) (pe_op op_pow pe_int pe_int) (nomark _)) (pss_cons (ps_set (i := 7) nd rfl (by first | exact .inl rfl | exact .inr rfl) (pe_op op_add (pe_op op_pow (pv 7) pe_int) (pv 6)))
 pss_nil) pss_nil)
 (pss_cons (ps_ret (pe_op op_mod (pe_callTy call_int1 rfl n_int (by decide +kernel) (pa_cons (pv 7) pa_nil)) (pv 1)))
 pss_nil)))))))), ?_⟩
    refine def_B h (fun d => Nat.le_of_ble_eq_true rfl) (fun d p h => ?_)
    obtain ⟨bag_1, many_2⟩ := d
    replace h : m_pick_ok bag_1 many_2 := h
    unfold m_pick_ok at h
    show SS _ [.ow (oLq (some p) (bagR bag_1)), .fz (eI many_2), .no, .no, .no, .no, .no, .no] (BP eI p (m_pick bag_1 many_2))
    refine ss_seq1 (⟨bag_1.a, bag_1.c, bag_1.t + 1⟩ : Bag) (fun bag_3 => [.ow (oLq (some p) (bagR bag_3)), .fz (eI many_2), .no, .no, .no, .no, .no, .no]) (ss_setk (k := 2) (es_add (es_ixO (k := 2) (i := 0) rfl rfl) es_c) rfl (by show 2 < 3; decide) Wk.refl) (fun bag_3 e_bag_3 => ?_)
    replace h := h bag_3 e_bag_3
    subst e_bag_3
    obtain ⟨hA, hB⟩ := h
    refine ss_ifLv (BP eI p) (et_cmp (es_ixO (k := 0) (i := 0) rfl rfl) es_c q_gt) (fun hc => ?_) (fun hc => ?_)
    · replace h := hA hc; clear hA hB
      obtain ⟨g1, h⟩ := h
      refine ss_seq1 (((⟨bag_1.a, bag_1.c, bag_1.t + 1⟩ : Bag).a) % many_2) (fun told_4 => [.ow (oLq (some p) (bagR (⟨bag_1.a, bag_1.c, bag_1.t + 1⟩ : Bag))), .fz (eI many_2), .fz (eI told_4), .no, .no, .no, .no, .no]) (ss_set (es_mod (es_int (es_ixO (k := 0) (i := 0) rfl rfl)) (es_var 1 rfl) g1) Wk.refl) (fun told_4 e_told_4 => ?_)
      replace h := h told_4 e_told_4
      obtain ⟨g2, h⟩ := h
      refine ss_seq1 (⟨((⟨bag_1.a, bag_1.c, bag_1.t + 1⟩ : Bag).a) / many_2, (⟨bag_1.a, bag_1.c, bag_1.t + 1⟩ : Bag).c, (⟨bag_1.a, bag_1.c, bag_1.t + 1⟩ : Bag).t⟩ : Bag) (fun bag_5 => [.ow (oLq (some p) (bagR bag_5)), .fz (eI many_2), .fz (eI told_4), .no, .no, .no, .no, .no]) (ss_setk (k := 0) (es_fdivW (es_int (es_ixO (k := 0) (i := 0) rfl rfl)) (es_var 1 rfl) g2) rfl (by show 0 < 3; decide) Wk.refl) (fun bag_5 e_bag_5 => ?_)
      replace h := h bag_5 e_bag_5
      refine ss_retq (es_var 2 rfl) ?_
      subst e_bag_5 e_told_4
      exact ⟨rfl, rfl⟩
    · replace h := hB hc; clear hA hB
      refine ss_nxq ?_
      refine ss_seq2 ((⟨bag_1.a, bag_1.c, bag_1.t + 1⟩ : Bag).c) ((⟨bag_1.a, bag_1.c, bag_1.t + 1⟩ : Bag).t) (fun seed_6 turn_7 => [.ow (oLq (some p) (bagR (⟨bag_1.a, bag_1.c, bag_1.t + 1⟩ : Bag))), .fz (eI many_2), .no, .fz (eI seed_6), .fz (eI turn_7), .no, .no, .no]) (ss_parM (am_fz (es_int (es_ixO (k := 1) (i := 0) rfl rfl)) (am_fz (es_int (es_ixO (k := 2) (i := 0) rfl rfl)) am_nil)) Wk.refl) (fun seed_6 e_seed_6 turn_7 e_turn_7 => ?_)
      replace h := h seed_6 e_seed_6 turn_7 e_turn_7
      refine ss_seq1 (((((seed_6 % 2147483629) * 48271) + (turn_7 * 69621)) + 12345) % 2147483647) (fun first_8 => [.ow (oLq (some p) (bagR (⟨bag_1.a, bag_1.c, bag_1.t + 1⟩ : Bag))), .fz (eI many_2), .no, .fz (eI seed_6), .fz (eI turn_7), .fz (eI first_8), .no, .no]) (ss_set (es_mod (es_int (es_add (es_add (es_mul (es_mod (es_var 3 rfl) es_c (by decide)) es_c (.inr (by decide))) (es_mul (es_var 4 rfl) es_c (.inr (by decide)))) es_c)) es_c (by decide)) Wk.refl) (fun first_8 e_first_8 => ?_)
      replace h := h first_8 e_first_8
      obtain ⟨g3, h⟩ := h
      refine ss_seq1 (((first_8 * first_8) + (turn_7 * 40692)) % 2147483587) (fun second_9 => [.ow (oLq (some p) (bagR (⟨bag_1.a, bag_1.c, bag_1.t + 1⟩ : Bag))), .fz (eI many_2), .no, .fz (eI seed_6), .fz (eI turn_7), .fz (eI first_8), .fz (eI second_9), .no]) (ss_set (es_mod (es_int (es_add (es_mulW (es_var 5 rfl) (es_var 5 rfl) g3) (es_mul (es_var 4 rfl) es_c (.inr (by decide))))) es_c (by decide)) Wk.refl) (fun second_9 e_second_9 => ?_)
      replace h := h second_9 e_second_9
      refine ss_seq1 (((first_8 * 2147483587) + second_9) / 32) (fun drawn_10 => [.ow (oLq (some p) (bagR (⟨bag_1.a, bag_1.c, bag_1.t + 1⟩ : Bag))), .fz (eI many_2), .no, .fz (eI seed_6), .fz (eI turn_7), .fz (eI first_8), .fz (eI second_9), .fz (eI drawn_10)]) (ss_set (es_fdivW (es_int (es_add (es_mul (es_var 5 rfl) es_c (.inr (by decide))) (es_var 6 rfl))) es_c ⟨by decide, by decide +kernel⟩) Wk.refl) (fun drawn_10 e_drawn_10 => ?_)
      replace h := h drawn_10 e_drawn_10
      obtain ⟨hA, hB, h⟩ := h
      refine ss_ifj (α := Int) (
let drawn_11 := (drawn_10 ^ 8) + second_9
drawn_11) (
drawn_10) (fun j_12 => [.ow (oLq (some p) (bagR (⟨bag_1.a, bag_1.c, bag_1.t + 1⟩ : Bag))), .fz (eI many_2), .no, .fz (eI seed_6), .fz (eI turn_7), .fz (eI first_8), .fz (eI second_9), .fz (eI j_12)]) (et_cmp (es_var 1 rfl) (es_pow es_c es_c ⟨by decide, by decide, by decide⟩) q_gt) (fun hc => ?_) (fun hc => ?_) (fun j_12 e_j_12 => ?_)
      · replace h := hA hc; clear hA hB
        obtain ⟨g4, h⟩ := h
        refine ss_seq1 ((drawn_10 ^ 8) + second_9) (fun drawn_11 => [.ow (oLq (some p) (bagR (⟨bag_1.a, bag_1.c, bag_1.t + 1⟩ : Bag))), .fz (eI many_2), .no, .fz (eI seed_6), .fz (eI turn_7), .fz (eI first_8), .fz (eI second_9), .fz (eI drawn_11)]) (ss_set (es_add (es_pow (es_var 7 rfl) es_c ⟨by decide, by decide, g4⟩) (es_var 6 rfl)) Wk.refl) (fun drawn_11 e_drawn_11 => ?_)
        replace h := h drawn_11 e_drawn_11
        subst e_drawn_11
        exact ss_nx ⟨.inr rfl, ⟨.inr rfl, ⟨.inr rfl, ⟨.inr rfl, ⟨.inr rfl, ⟨.inr rfl, ⟨.inr rfl, ⟨.inr rfl, trivial⟩⟩⟩⟩⟩⟩⟩⟩
      · replace h := hB hc; clear hA hB
        exact ss_nx ⟨.inr rfl, ⟨.inr rfl, ⟨.inr rfl, ⟨.inr rfl, ⟨.inr rfl, ⟨.inr rfl, ⟨.inr rfl, ⟨.inr rfl, trivial⟩⟩⟩⟩⟩⟩⟩⟩
      clear hA hB; replace h := h j_12 e_j_12
      obtain ⟨g5, h⟩ := h
      refine ss_retq (es_mod (es_int (es_var 7 rfl)) (es_var 1 rfl) g5) ?_
      subst e_j_12 e_drawn_10 e_second_9 e_first_8 e_turn_7 e_seed_6
      exact ⟨rfl, rfl⟩
end
def m_three (bag_1 : Bag) (most_2 : Int) : (Int × Int × Int) × Bag :=
let rate_4 := (2 * ((m_pick ((m_pick bag_1 2).2) (nth ([5, 5 * (10 ^ 29)] : List Int) ((m_pick bag_1 2).1))).1)) + 1
let bag_3 := (m_pick ((m_pick bag_1 2).2) (nth ([5, 5 * (10 ^ 29)] : List Int) ((m_pick bag_1 2).1))).2
((1 + ((m_pick bag_3 most_2).1), rate_4, (m_pick ((m_pick ((m_pick bag_3 most_2).2) 2).2) (nth ([9, (10 ^ 30) + 1] : List Int) ((m_pick ((m_pick bag_3 most_2).2) 2).1))).1), (m_pick ((m_pick ((m_pick bag_3 most_2).2) 2).2) (nth ([9, (10 ^ 30) + 1] : List Int) ((m_pick ((m_pick bag_3 most_2).2) 2).1))).2)
def m_three_ok (bag_1 : Bag) (most_2 : Int) : Prop :=
(m_pick_ok bag_1 2) ∧ (0 ≤ ((m_pick bag_1 2).1) ∧ ((m_pick bag_1 2).1) < ([5, 5 * (10 ^ 29)] : List Int).length) ∧ (m_pick_ok ((m_pick bag_1 2).2) (nth ([5, 5 * (10 ^ 29)] : List Int) ((m_pick bag_1 2).1))) ∧ (∀ rate_4, rate_4 = ((2 * ((m_pick ((m_pick bag_1 2).2) (nth ([5, 5 * (10 ^ 29)] : List Int) ((m_pick bag_1 2).1))).1)) + 1) → ∀ bag_3, bag_3 = ((m_pick ((m_pick bag_1 2).2) (nth ([5, 5 * (10 ^ 29)] : List Int) ((m_pick bag_1 2).1))).2) → (m_pick_ok bag_3 most_2) ∧ (m_pick_ok ((m_pick bag_3 most_2).2) 2) ∧ (0 ≤ ((m_pick ((m_pick bag_3 most_2).2) 2).1) ∧ ((m_pick ((m_pick bag_3 most_2).2) 2).1) < ([9, (10 ^ 30) + 1] : List Int).length) ∧ (m_pick_ok ((m_pick ((m_pick bag_3 most_2).2) 2).2) (nth ([9, (10 ^ 30) + 1] : List Int) ((m_pick ((m_pick bag_3 most_2).2) 2).1))) ∧ True)
def sp_three (K : PySem.W.Frag) (CT : Addr) : Sp := spB (ι := Bag × Int) (fun d => bagR d.1) (fun d => [eI d.2]) (fun d => m_three_ok d.1 d.2) (fun d => bagR (m_three d.1 d.2).2) (fun d => (eP3 K eI eI eI) ((m_three d.1 d.2).1))
abbrev s_three : Stmt := top 21
abbrev N_three : List Str := ["_law_bag_here", "_law_most", "_law_rate"]
theorem sc_three : FnScope N_three ["_law_bag_here", "_law_most"] (defScope s_three) := ⟨rfl, rfl, rfl, by decide +kernel, rfl, by decide +kernel, by decide +kernel⟩
section
variable {P : Program} {w : World} {K : PySem.W.Frag} {mg : Str → Option Value} {base : Heap} {CT : Addr}
theorem ok_three {f : Addr} {fd : FuncData} (F : Fun K "_law_three" "_law_three" s_three f fd) {a_pick : Addr} {fd_pick : FuncData} (F_pick : Fun K "_law_pick" "_law_pick" s_pick a_pick fd_pick) (G_pick : FnG P w K mg base CX0 1 a_pick fd_pick ["_law_bag_here", "_law_many"] (sp_pick K CT)) (j_pick : mg "_law_pick" = some (.ref a_pick)) (b_pick : Binds K fd_pick ["_law_bag_here", "_law_many"] []) : FnG P w K mg base CX0 2 f fd ["_law_bag_here", "_law_most"] (sp_three K CT) := by
  refine Fun.okG F sc_three (fun vs H Q E h => ?_) (fun cdv A outer s H vs Q E hG hr h => ?_)
  · obtain ⟨d, F, p, o, ws, rfl, _, _, _, _, _, h, _⟩ := h
    exact congrArg (· + 1) h.len
  · have nd := sc_three.nd
    have hU := hr.units
    refine ⟨_, (pss_cons (ps_set (i := 2) nd rfl (by first | exact .inl rfl | exact .inr rfl) (pe_op op_add (pe_op op_mul pe_int (pg_call G_pick hG (hr.mono (by decide)) rfl j_pick F_pick.kp b_pick .nil pass0 (pa_cons (pv 0) (pa_cons (pe_ix ix_list (pe_lst (pa_cons pe_int (pa_cons (pe_op op_mul pe_int (pe_op op_pow pe_int pe_int)) pa_nil))) (pg_call G_pick hG (hr.mono (by decide)) rfl j_pick F_pick.kp b_pick .nil pass0 (pa_cons (pv 0) (pa_cons pe_int pa_nil))) (fun _ _ => rfl)) pa_nil)))) pe_int))
 (pss_cons (ps_ret (pe_tup (pa_cons (pe_op op_add pe_int (pg_call G_pick hG (hr.mono (by decide)) rfl j_pick F_pick.kp b_pick .nil pass0 (pa_cons (pv 0) (pa_cons (pv 1) pa_nil)))) (pa_cons (pv 2) (pa_cons (pg_call G_pick hG (hr.mono (by decide)) rfl j_pick F_pick.kp b_pick .nil pass0 (pa_cons (pv 0) (pa_cons (pe_ix ix_list (pe_lst (pa_cons pe_int (pa_cons (pe_op op_add (pe_op op_pow pe_int pe_int) pe_int) pa_nil))) (pg_call G_pick hG (hr.mono (by decide)) rfl j_pick F_pick.kp b_pick .nil pass0 (pa_cons (pv 0) (pa_cons pe_int pa_nil))) (fun _ _ => rfl)) pa_nil))) pa_nil)))))
 pss_nil)), ?_⟩
    refine def_B h (fun d => Nat.le_of_ble_eq_true rfl) (fun d p h => ?_)
    obtain ⟨bag_1, most_2⟩ := d
    replace h : m_three_ok bag_1 most_2 := h
    unfold m_three_ok at h
    show SS _ [.ow (oLq (some p) (bagR bag_1)), .fz (eI most_2), .no] (BP (eP3 K eI eI eI) p (m_three bag_1 most_2))
    obtain ⟨g1, g2, g3, h⟩ := h
    refine ss_seq2 ((2 * ((m_pick ((m_pick bag_1 2).2) (nth ([5, 5 * (10 ^ 29)] : List Int) ((m_pick bag_1 2).1))).1)) + 1) ((m_pick ((m_pick bag_1 2).2) (nth ([5, 5 * (10 ^ 29)] : List Int) ((m_pick bag_1 2).1))).2) (fun rate_4 bag_3 => [.ow (oLq (some p) (bagR bag_3)), .fz (eI most_2), .fz (eI rate_4)]) (ss_set (es_add (es_mul es_c (es_callB ((m_pick bag_1 2).2, nth ([5, 5 * (10 ^ 29)] : List Int) ((m_pick bag_1 2).1)) 0 rfl (as_cons (es_ixL (e := eI) (es_frs eI ([5, 5 * (10 ^ 29)] : List Int) (en_lst (as_cons es_c (as_cons (es_mul es_c (es_pow es_c es_c ⟨by decide, by decide, by decide⟩) (.inl (by decide))) as_nil)))) (es_callB (bag_1, 2) 0 rfl (as_cons es_c as_nil) rfl g1) g2) as_nil) rfl g3) (.inl (by decide))) es_c) Wk.refl) (fun rate_4 e_rate_4 bag_3 e_bag_3 => ?_)
    replace h := h rate_4 e_rate_4 bag_3 e_bag_3
    obtain ⟨g4, g5, g6, g7, h⟩ := h
    refine ss_retq (es_tup (K := K) (as_cons (es_add es_c (es_callB (bag_3, most_2) 0 rfl (as_cons (es_var 1 rfl) as_nil) rfl g4)) (as_cons (es_var 2 rfl) (as_cons (es_callB ((m_pick ((m_pick bag_3 most_2).2) 2).2, nth ([9, (10 ^ 30) + 1] : List Int) ((m_pick ((m_pick bag_3 most_2).2) 2).1)) 0 rfl (as_cons (es_ixL (e := eI) (es_frs eI ([9, (10 ^ 30) + 1] : List Int) (en_lst (as_cons es_c (as_cons (es_add (es_pow es_c es_c ⟨by decide, by decide, by decide⟩) es_c) as_nil)))) (es_callB ((m_pick bag_3 most_2).2, 2) 0 rfl (as_cons es_c as_nil) rfl g5) g6) as_nil) rfl g7) as_nil)))) ?_
    subst e_bag_3 e_rate_4
    exact ⟨rfl, rfl⟩
end
def m_tail_b1 (s_5 : Int × Int) (x_6 : Int) : Int × Int :=
let found_7 := s_5.1 + ((s_5.2 % 2) * 2 ^ x_6.toNat)
let left_8 := s_5.2 / 2
(found_7, left_8)
def m_tail_o1 (s_5 : Int × Int) (x_6 : Int) : Prop :=
(CShl (s_5.2 % 2) x_6) ∧ (∀ found_7, found_7 = (s_5.1 + ((s_5.2 % 2) * 2 ^ x_6.toNat)) → ∀ left_8, left_8 = (s_5.2 / 2) → True)
def m_tail (value_1 : Int) (depth_2 : Int) : Int :=
let found_3 := 0
let left_4 := value_1
let f_9 := List.foldl (m_tail_b1) (found_3, left_4) (rng 0 depth_2)
f_9.1
def m_tail_ok (value_1 : Int) (depth_2 : Int) : Prop :=
(∀ found_3, found_3 = 0 → ∀ left_4, left_4 = value_1 → (-(2 ^ 62) ≤ depth_2 ∧ depth_2 < 2 ^ 62) ∧ (okF (m_tail_o1) (m_tail_b1) (found_3, left_4) (rng 0 depth_2)) ∧ (∀ f_9, f_9 = List.foldl (m_tail_b1) (found_3, left_4) (rng 0 depth_2) → True))
def sp_tail (K : PySem.W.Frag) (CT : Addr) : Sp := spF (ι := Int × Int) (fun d => [eI d.1, eI d.2]) (fun d => m_tail_ok d.1 d.2) (fun d => eI (m_tail d.1 d.2))
abbrev s_tail : Stmt := top 22
abbrev N_tail : List Str := ["_law_value", "_law_depth", "_law_found", "_law_left", "_law_digit"]
theorem sc_tail : FnScope N_tail ["_law_value", "_law_depth"] (defScope s_tail) := ⟨rfl, rfl, rfl, by decide +kernel, rfl, by decide +kernel, by decide +kernel⟩
section
variable {P : Program} {w : World} {K : PySem.W.Frag} {mg : Str → Option Value} {base : Heap} {CT : Addr}
theorem ok_tail {f : Addr} {fd : FuncData} (F : Fun K "_law_tail" "_law_tail" s_tail f fd) (n_int : mg "int" = none) (n_range : mg "range" = none) : FnG P w K mg base CX0 1 f fd ["_law_value", "_law_depth"] (sp_tail K CT) := by
  refine Fun.okG F sc_tail (fun vs H Q E h => ?_) (fun cdv A outer s H vs Q E hG hr h => ?_)
  · obtain ⟨d, F, _, _, h, _⟩ := h
    exact h.len
  · have nd := sc_tail.nd
    have hU := hr.units
    refine ⟨_, (pss_cons (ps_par (i := 2) (j := 3) rfl nd rfl rfl (by decide) rfl rfl (pa_cons pe_int (pa_cons (pv 0) pa_nil)) (by rfl))
 (pss_cons (ps_for PassesOwn.never rfl (pi_range1 rfl n_range (pa_cons (pv 1) pa_nil)) (pg_name (i := 4) nd rfl (by first | exact .inl rfl | exact .inr rfl)) (pss_cons (ps_par (i := 2) (j := 3) rfl nd rfl rfl (by decide) rfl rfl (pa_cons (pe_op op_add (pv 2) (pe_op op_shlW (pe_op op_mod (pe_callTy call_int1 rfl n_int (by decide +kernel) (pa_cons (pv 3) pa_nil)) pe_int) (pv 4))) (pa_cons (pe_op op_fdivW (pv 3) pe_int) pa_nil)) (by rfl))
 pss_nil))
 (pss_cons (ps_ret (pv 2))
 pss_nil))), ?_⟩
    refine def_F h (fun d => Nat.le_of_ble_eq_true rfl) (fun d h => ?_)
    obtain ⟨value_1, depth_2⟩ := d
    replace h : m_tail_ok value_1 depth_2 := h
    unfold m_tail_ok at h
    show SS _ [.fz (eI value_1), .fz (eI depth_2), .no, .no, .no] (FP eI (m_tail value_1 depth_2))
    refine ss_seq2 0 value_1 (fun found_3 left_4 => [.fz (eI value_1), .fz (eI depth_2), .fz (eI found_3), .fz (eI left_4), .no]) (ss_parM (am_fz es_c (am_fz (es_var 0 rfl) am_nil)) Wk.refl) (fun found_3 e_found_3 left_4 e_left_4 => ?_)
    replace h := h found_3 e_found_3 left_4 e_left_4
    obtain ⟨g1, g3, h⟩ := h
    refine ss_seq1 (List.foldl (m_tail_b1) (found_3, left_4) (rng 0 depth_2)) (fun f_9 => [.fz (eI value_1), .fz (eI depth_2), .fz (eI f_9.1), .fz (eI f_9.2), .no]) (sf_S (e := eI) (l := (rng 0 depth_2)) (fun s_5 => [.fz (eI value_1), .fz (eI depth_2), .fz (eI s_5.1), .fz (eI s_5.2), .no]) (m_tail_b1) (m_tail_o1) (found_3, left_4) (is_rng1 (as_cons (es_var 1 rfl) as_nil) g1) Wk.refl g3 (fun s_5 x_6 _ h => ⟨[.fz (eI value_1), .fz (eI depth_2), .fz (eI s_5.1), .fz (eI s_5.2), .fz (eI x_6)], _, gs_name 4, ?_⟩) (fun _ hw => hw)) (fun f_9 e_f_9 => ?_)
    · unfold m_tail_o1 at h
      obtain ⟨g2, h⟩ := h
      refine ss_seq2 (s_5.1 + ((s_5.2 % 2) * 2 ^ x_6.toNat)) (s_5.2 / 2) (fun found_7 left_8 => [.fz (eI value_1), .fz (eI depth_2), .fz (eI found_7), .fz (eI left_8), .fz (eI x_6)]) (ss_parM (am_fz (es_add (es_var 2 rfl) (es_shlW (es_mod (es_int (es_var 3 rfl)) es_c (by decide)) (es_var 4 rfl) g2)) (am_fz (es_fdivW (es_var 3 rfl) es_c ⟨by decide, by decide +kernel⟩) am_nil)) Wk.refl) (fun found_7 e_found_7 left_8 e_left_8 => ?_)
      replace h := h found_7 e_found_7 left_8 e_left_8
      subst e_left_8 e_found_7
      exact ss_nx ⟨.inr rfl, ⟨.inr rfl, ⟨.inr rfl, ⟨.inr rfl, ⟨.inl rfl, trivial⟩⟩⟩⟩⟩
    replace h := h f_9 e_f_9
    refine ss_retq (es_var 2 rfl) ?_
    subst e_f_9 e_left_4 e_found_3
    exact rfl
end
def m_right_b2 (t_2 : Int × Int × Int) (table_4 : Tbl) (x_7 : Int) (s_9 : Unit) (x_10 : Int) : Unit :=
()
def m_right_o2 (t_2 : Int × Int × Int) (table_4 : Tbl) (x_7 : Int) (s_9 : Unit) (x_10 : Int) : Prop :=
(m_Table_tail_ok table_4 x_7 x_10) ∧ ((m_Table_tail table_4 x_7 x_10).natAbs.log2 < 1920) ∧ (CMulW t_2.2.1 x_7) ∧ (m_tail_ok ((t_2.2.1 * x_7) + t_2.2.2) x_10) ∧ ((m_tail ((t_2.2.1 * x_7) + t_2.2.2) x_10).natAbs.log2 < 1920) ∧ (!decide ((reprI (m_Table_tail table_4 x_7 x_10)) = (reprI (m_tail ((t_2.2.1 * x_7) + t_2.2.2) x_10)))) = false ∧ (True)
def m_right_b1 (t_2 : Int × Int × Int) (table_4 : Tbl) (s_6 : Bag) (x_7 : Int) : Bag :=
let f_11 := List.foldl (m_right_b2 t_2 table_4 x_7) () ([0, 1, 100, (m_pick s_6 101).1] : List Int)
(m_pick s_6 101).2
def m_right_o1 (t_2 : Int × Int × Int) (table_4 : Tbl) (s_6 : Bag) (x_7 : Int) : Prop :=
(m_Table_value_ok table_4 x_7) ∧ ((m_Table_value table_4 x_7).natAbs.log2 < 1920) ∧ (CMulW t_2.2.1 x_7) ∧ (((t_2.2.1 * x_7) + t_2.2.2).natAbs.log2 < 1920) ∧ (!decide ((reprI (m_Table_value table_4 x_7)) = (reprI ((t_2.2.1 * x_7) + t_2.2.2)))) = false ∧ ((m_pick_ok s_6 101) ∧ (okF (m_right_o2 t_2 table_4 x_7) (m_right_b2 t_2 table_4 x_7) () ([0, 1, 100, (m_pick s_6 101).1] : List Int)) ∧ (∀ f_11, f_11 = List.foldl (m_right_b2 t_2 table_4 x_7) () ([0, 1, 100, (m_pick s_6 101).1] : List Int) → True))
def m_right_b3 (t_2 : Int × Int × Int) (table_4 : Tbl) (s_14 : Unit) (x_15 : Int × Int × Int) : Unit :=
()
def m_right_o3 (t_2 : Int × Int × Int) (table_4 : Tbl) (s_14 : Unit) (x_15 : Int × Int × Int) : Prop :=
(m_Table___init___ok x_15.1 x_15.2.1 x_15.2.2) ∧ (m_Table___eq___ok table_4 (⟨x_15.1, x_15.2.1, x_15.2.2⟩ : Tbl)) ∧ (!decide ((reprB (m_Table___eq__ table_4 (⟨x_15.1, x_15.2.1, x_15.2.2⟩ : Tbl))) = (reprB (decide (x_15 = (t_2.1, t_2.2.1, t_2.2.2)))))) = false ∧ (True)
def m_right (bag_1 : Bag) : Bool × Bag :=
let t_2 := (m_three bag_1 (10 ^ 30)).1
let bag_3 := (m_three bag_1 (10 ^ 30)).2
let table_4 := (⟨t_2.1, t_2.2.1, t_2.2.2⟩ : Tbl)
let f_12 := List.foldl (m_right_b1 t_2 table_4) ((m_pick ((m_pick bag_3 (10 ^ 30)).2) 100).2) ([0, 1, (10 ^ 30) - 1, (m_pick bag_3 (10 ^ 30)).1, (m_pick ((m_pick bag_3 (10 ^ 30)).2) 100).1] : List Int)
let others_13 := ([(t_2.1, t_2.2.1, t_2.2.2), (1 + (t_2.1 / 2), t_2.2.1, t_2.2.2), (t_2.1, max2 1 (t_2.2.1 - 2), t_2.2.2)] : List (Int × Int × Int))
let f_16 := List.foldl (m_right_b3 t_2 table_4) () (others_13 ++ ([(t_2.1, t_2.2.1, t_2.2.2 / 2)] : List (Int × Int × Int)))
let odd_17 := ([(0, (t_2.1, t_2.2.1, t_2.2.2)), (1, (t_2.1, t_2.2.1, t_2.2.2)), (2, (t_2.1, t_2.2.1, t_2.2.2)), (3, (t_2.1, t_2.2.1, t_2.2.2)), (4, (t_2.1, t_2.2.1, t_2.2.2)), (5, (t_2.1, t_2.2.1, t_2.2.2)), (6, (t_2.1, t_2.2.1, t_2.2.2))] : List (Nat × Trip))
(true, f_12)
def m_right_ok (bag_1 : Bag) : Prop :=
(m_three_ok bag_1 (10 ^ 30)) ∧ (∀ t_2, t_2 = ((m_three bag_1 (10 ^ 30)).1) → ∀ bag_3, bag_3 = ((m_three bag_1 (10 ^ 30)).2) → (m_Table___init___ok t_2.1 t_2.2.1 t_2.2.2) ∧ (∀ table_4, table_4 = (⟨t_2.1, t_2.2.1, t_2.2.2⟩ : Tbl) → (ReprF (PyData.list (List.map (fun y : Int => PyData.int y) ([table_4.capacity, table_4.rate, table_4.shift] : List Int)))) ∧ (ReprF (PyData.list (List.map (fun y : Int => PyData.int y) ([t_2.1, t_2.2.1, t_2.2.2] : List Int)))) ∧ (!decide ((reprF (PyData.list (List.map (fun y : Int => PyData.int y) ([table_4.capacity, table_4.rate, table_4.shift] : List Int)))) = (reprF (PyData.list (List.map (fun y : Int => PyData.int y) ([t_2.1, t_2.2.1, t_2.2.2] : List Int)))))) = false ∧ ((m_pick_ok bag_3 (10 ^ 30)) ∧ (m_pick_ok ((m_pick bag_3 (10 ^ 30)).2) 100) ∧ (okF (m_right_o1 t_2 table_4) (m_right_b1 t_2 table_4) ((m_pick ((m_pick bag_3 (10 ^ 30)).2) 100).2) ([0, 1, (10 ^ 30) - 1, (m_pick bag_3 (10 ^ 30)).1, (m_pick ((m_pick bag_3 (10 ^ 30)).2) 100).1] : List Int)) ∧ (∀ f_12, f_12 = List.foldl (m_right_b1 t_2 table_4) ((m_pick ((m_pick bag_3 (10 ^ 30)).2) 100).2) ([0, 1, (10 ^ 30) - 1, (m_pick bag_3 (10 ^ 30)).1, (m_pick ((m_pick bag_3 (10 ^ 30)).2) 100).1] : List Int) → (∀ others_13, others_13 = ([(t_2.1, t_2.2.1, t_2.2.2), (1 + (t_2.1 / 2), t_2.2.1, t_2.2.2), (t_2.1, max2 1 (t_2.2.1 - 2), t_2.2.2)] : List (Int × Int × Int)) → (others_13.length + ([(t_2.1, t_2.2.1, t_2.2.2 / 2)] : List (Int × Int × Int)).length ≤ 16000000) ∧ (okF (m_right_o3 t_2 table_4) (m_right_b3 t_2 table_4) () (others_13 ++ ([(t_2.1, t_2.2.1, t_2.2.2 / 2)] : List (Int × Int × Int)))) ∧ (∀ f_16, f_16 = List.foldl (m_right_b3 t_2 table_4) () (others_13 ++ ([(t_2.1, t_2.2.1, t_2.2.2 / 2)] : List (Int × Int × Int))) → (∀ odd_17, odd_17 = ([(0, (t_2.1, t_2.2.1, t_2.2.2)), (1, (t_2.1, t_2.2.1, t_2.2.2)), (2, (t_2.1, t_2.2.1, t_2.2.2)), (3, (t_2.1, t_2.2.1, t_2.2.2)), (4, (t_2.1, t_2.2.1, t_2.2.2)), (5, (t_2.1, t_2.2.1, t_2.2.2)), (6, (t_2.1, t_2.2.1, t_2.2.2))] : List (Nat × Trip)) → (∀ x_19 ∈ odd_17, m_Table___eq__2_ok table_4 x_19) ∧ (odd_17.length < 16000000) ∧ (((List.filter (fun (x_19 : Nat × Trip) => m_Table___eq__2 table_4 x_19) odd_17).map fun (x_19 : Nat × Trip) => x_19) = []) ∧ True)))))))
def sp_right (K : PySem.W.Frag) (CT : Addr) : Sp := spB (ι := Bag) (fun d => bagR d) (fun d => []) (fun d => m_right_ok d) (fun d => bagR (m_right d).2) (fun d => eB ((m_right d).1))
abbrev s_right : Stmt := top 23
abbrev N_right : List Str := ["_law_bag_here", "_law_capacity", "_law_rate", "_law_shift", "_law_table", "_law_key", "_law_depth", "_law_others", "_law_some", "_law_odd"]
theorem sc_right : FnScope N_right ["_law_bag_here"] (defScope s_right) := ⟨rfl, rfl, rfl, by decide +kernel, rfl, by decide +kernel, by decide +kernel⟩
section
variable {P : Program} {w : World} {K : PySem.W.Frag} {mg : Str → Option Value} {base : Heap} {CT : Addr}
theorem ok_right {f : Addr} {fd : FuncData} (F : Fun K "_law_right" "_law_right" s_right f fd) {a_three : Addr} {fd_three : FuncData} (F_three : Fun K "_law_three" "_law_three" s_three a_three fd_three) (G_three : FnG P w K mg base CX0 2 a_three fd_three ["_law_bag_here", "_law_most"] (sp_three K CT)) (j_three : mg "_law_three" = some (.ref a_three)) (b_three : Binds K fd_three ["_law_bag_here", "_law_most"] []) {a_Table___init__ : Addr} {fd_Table___init__ : FuncData} (F_Table___init__ : Fun K "__init__" "Table.__init__" s_Table___init__ a_Table___init__ fd_Table___init__) (G_Table___init__ : FnG P w K mg base CX0 3 a_Table___init__ fd_Table___init__ ["self", "capacity", "rate", "shift"] (sp_Table___init__ K CT)) (MT : Mk K CT a_Table___init__) (b_Table___init__ : Binds K fd_Table___init__ ["self", "capacity", "rate", "shift"] []) {a_pick : Addr} {fd_pick : FuncData} (F_pick : Fun K "_law_pick" "_law_pick" s_pick a_pick fd_pick) (G_pick : FnG P w K mg base CX0 1 a_pick fd_pick ["_law_bag_here", "_law_many"] (sp_pick K CT)) (j_pick : mg "_law_pick" = some (.ref a_pick)) (b_pick : Binds K fd_pick ["_law_bag_here", "_law_many"] []) {a_Table_value : Addr} {fd_Table_value : FuncData} (F_Table_value : Fun K "value" "Table.value" s_Table_value a_Table_value fd_Table_value) (G_Table_value : FnG P w K mg base CX0 4 a_Table_value fd_Table_value ["self", "key"] (sp_Table_value K CT)) (M_Table_value : Meth K CT "value" a_Table_value) (b_Table_value : Binds K fd_Table_value ["self", "key"] []) {a_Table_tail : Addr} {fd_Table_tail : FuncData} (F_Table_tail : Fun K "tail" "Table.tail" s_Table_tail a_Table_tail fd_Table_tail) (G_Table_tail : FnG P w K mg base CX0 4 a_Table_tail fd_Table_tail ["self", "key", "depth"] (sp_Table_tail K CT)) (M_Table_tail : Meth K CT "tail" a_Table_tail) (b_Table_tail : Binds K fd_Table_tail ["self", "key", "depth"] []) {a_tail : Addr} {fd_tail : FuncData} (F_tail : Fun K "_law_tail" "_law_tail" s_tail a_tail fd_tail) (G_tail : FnG P w K mg base CX0 1 a_tail fd_tail ["_law_value", "_law_depth"] (sp_tail K CT)) (j_tail : mg "_law_tail" = some (.ref a_tail)) (b_tail : Binds K fd_tail ["_law_value", "_law_depth"] []) {a_Table___eq__ : Addr} {fd_Table___eq__ : FuncData} (F_Table___eq__ : Fun K "__eq__" "Table.__eq__" s_Table___eq__ a_Table___eq__ fd_Table___eq__) (G_Table___eq__ : FnG P w K mg base CX0 2 a_Table___eq__ fd_Table___eq__ ["self", "other"] (sp_Table___eq__ K CT)) (M_Table___eq__ : Meth K CT "__eq__" a_Table___eq__) (b_Table___eq__ : Binds K fd_Table___eq__ ["self", "other"] []) {a_Table___eq__2 : Addr} {fd_Table___eq__2 : FuncData} (F_Table___eq__2 : Fun K "__eq__" "Table.__eq__" s_Table___eq__2 a_Table___eq__2 fd_Table___eq__2) (G_Table___eq__2 : FnG P w K mg base CX0 1 a_Table___eq__2 fd_Table___eq__2 ["self", "other"] (sp_Table___eq__2 K CT)) (M_Table___eq__2 : Meth K CT "__eq__" a_Table___eq__2) (b_Table___eq__2 : Binds K fd_Table___eq__2 ["self", "other"] []) {p_capacity g_capacity : Addr} {gd_capacity : FuncData} (P_capacity : PropOf K CT "capacity" p_capacity g_capacity) (O_capacity : FnOk P w K mg base CX0 1 g_capacity gd_capacity ["self"] (getSp CT "own_capacity")) (B_capacity : Binds K gd_capacity ["self"] []) {p_rate g_rate : Addr} {gd_rate : FuncData} (P_rate : PropOf K CT "rate" p_rate g_rate) (O_rate : FnOk P w K mg base CX0 1 g_rate gd_rate ["self"] (getSp CT "own_rate")) (B_rate : Binds K gd_rate ["self"] []) {p_shift g_shift : Addr} {gd_shift : FuncData} (P_shift : PropOf K CT "shift" p_shift g_shift) (O_shift : FnOk P w K mg base CX0 1 g_shift gd_shift ["self"] (getSp CT "own_shift")) (B_shift : Binds K gd_shift ["self"] []) (n_max : mg "max" = none) (n_repr : mg "repr" = none) (NO : OddNo K CT) (TT : TblTxt K mg CT) : FnG P w K mg base CX0 5 f fd ["_law_bag_here"] (sp_right K CT) := by
  obtain ⟨clT, na_own_capacity, na_own_rate, na_own_shift, mgT, isT, xaT, xbT, xcT, xdT⟩ := TT
  refine Fun.okG F sc_right (fun vs H Q E h => ?_) (fun cdv A outer s H vs Q E hG hr h => ?_)
  · obtain ⟨d, F, p, o, ws, rfl, _, _, _, _, _, h, _⟩ := h
    exact congrArg (· + 1) h.len
  · have nd := sc_right.nd
    have hU := hr.units
    refine ⟨_, (pss_cons (ps_asg (pg_call G_three hG (hr.mono (by decide)) rfl j_three F_three.kp b_three .nil pass0 (pa_cons (pv 0) (pa_cons (pe_op op_pow pe_int pe_int) pa_nil))) (pg_tup rfl (pgs_cons (pg_name (i := 1) nd rfl (by first | exact .inl rfl | exact .inr rfl)) (pgs_cons (pg_name (i := 2) nd rfl (by first | exact .inl rfl | exact .inr rfl)) (pgs_cons (pg_name (i := 3) nd rfl (by first | exact .inl rfl | exact .inr rfl)) pgs_nil)))))
 (pss_cons (ps_set (i := 4) nd rfl (by first | exact .inl rfl | exact .inr rfl) (pg_make MT G_Table___init__ hG (hr.mono (by decide)) rfl mgT b_Table___init__ .nil pass0 (pa_cons (pv 1) (pa_cons (pv 2) (pa_cons (pv 3) pa_nil)))))
 (pss_cons (ps_if (pt_cmpR op_ne (pe_callB (call_reprD hG hr) rfl n_repr (by decide +kernel) (pa_cons (pe_lst (pa_cons (pe_prop (pv 4) clT P_capacity O_capacity (hr.mono (by decide)) B_capacity .nil pass0 rfl) (pa_cons (pe_prop (pv 4) clT P_rate O_rate (hr.mono (by decide)) B_rate .nil pass0 rfl) (pa_cons (pe_prop (pv 4) clT P_shift O_shift (hr.mono (by decide)) B_shift .nil pass0 rfl) pa_nil)))) pa_nil)) (pe_callB (call_reprD hG hr) rfl n_repr (by decide +kernel) (pa_cons (pe_lst (pa_cons (pv 1) (pa_cons (pv 2) (pa_cons (pv 3) pa_nil)))) pa_nil)) (nomark _)) (pss_one ps_never) pss_nil)
 (pss_cons (ps_for PassesOwn.never rfl (pi_tup (pe_tup (pa_cons pe_int (pa_cons pe_int (pa_cons (pe_op op_sub (pe_op op_pow pe_int pe_int) pe_int) (pa_cons (pg_call G_pick hG (hr.mono (by decide)) rfl j_pick F_pick.kp b_pick .nil pass0 (pa_cons (pv 0) (pa_cons (pe_op op_pow pe_int pe_int) pa_nil))) (pa_cons (pg_call G_pick hG (hr.mono (by decide)) rfl j_pick F_pick.kp b_pick .nil pass0 (pa_cons (pv 0) (pa_cons pe_int pa_nil))) pa_nil))))))) (pg_name (i := 5) nd rfl (by first | exact .inl rfl | exact .inr rfl)) (pss_cons (ps_if (pt_cmpR op_ne (pe_callB SkE.call_repr_int rfl n_repr (by decide +kernel) (pa_cons (pg_meth (pv 4) clT M_Table_value G_Table_value hG (hr.mono (by decide)) b_Table_value .nil pass0 (pa_cons (pv 5) pa_nil)) pa_nil)) (pe_callB SkE.call_repr_int rfl n_repr (by decide +kernel) (pa_cons (pe_op op_add (pe_op op_mulW (pv 2) (pv 5)) (pv 3)) pa_nil)) (nomark _)) (pss_one ps_never) pss_nil)
 (pss_cons (ps_for PassesOwn.never rfl (pi_tup (pe_tup (pa_cons pe_int (pa_cons pe_int (pa_cons pe_int (pa_cons (pg_call G_pick hG (hr.mono (by decide)) rfl j_pick F_pick.kp b_pick .nil pass0 (pa_cons (pv 0) (pa_cons pe_int pa_nil))) pa_nil)))))) (pg_name (i := 6) nd rfl (by first | exact .inl rfl | exact .inr rfl)) (pss_cons (ps_if (pt_cmpR op_ne (pe_callB SkE.call_repr_int rfl n_repr (by decide +kernel) (pa_cons (pg_meth (pv 4) clT M_Table_tail G_Table_tail hG (hr.mono (by decide)) b_Table_tail .nil pass0 (pa_cons (pv 5) (pa_cons (pv 6) pa_nil))) pa_nil)) (pe_callB SkE.call_repr_int rfl n_repr (by decide +kernel) (pa_cons (pg_call G_tail hG (hr.mono (by decide)) rfl j_tail F_tail.kp b_tail .nil pass0 (pa_cons (pe_op op_add (pe_op op_mulW (pv 2) (pv 5)) (pv 3)) (pa_cons (pv 6) pa_nil))) pa_nil)) (nomark _)) (pss_one ps_never) pss_nil)
 pss_nil))
 pss_nil)))
 (pss_cons (ps_set (i := 7) nd rfl (by first | exact .inl rfl | exact .inr rfl) (pe_lst (pa_cons (pe_tup (pa_cons (pv 1) (pa_cons (pv 2) (pa_cons (pv 3) pa_nil)))) (pa_cons (pe_tup (pa_cons (pe_op op_add pe_int (pe_op op_fdivW (pv 1) pe_int)) (pa_cons (pv 2) (pa_cons (pv 3) pa_nil)))) (pa_cons (pe_tup (pa_cons (pv 1) (pa_cons (pe_callB (call_max2 rfl) rfl n_max (by decide +kernel) (pa_cons pe_int (pa_cons (pe_op op_sub (pv 2) pe_int) pa_nil))) (pa_cons (pv 3) pa_nil)))) pa_nil)))))
 (pss_cons (ps_for PassesOwn.never rfl (pi_list (pe_op op_cat (pv 7) (pe_lst (pa_cons (pe_tup (pa_cons (pv 1) (pa_cons (pv 2) (pa_cons (pe_op op_fdivW (pv 3) pe_int) pa_nil)))) pa_nil)))) (pg_name (i := 8) nd rfl (by first | exact .inl rfl | exact .inr rfl)) (pss_cons (ps_if (pt_cmpR op_ne (pe_callB call_reprB rfl n_repr (by decide +kernel) (pa_cons (pe_cmpR (op_eqC (K := K) rfl G_Table___eq__ hG (hr.mono (by decide)) ⟨M_Table___eq__.at_, M_Table___eq__.fn⟩ b_Table___eq__ pass0) (pv 4) (pg_make MT G_Table___init__ hG (hr.mono (by decide)) rfl mgT b_Table___init__ .nil pass0 (pa_cons (pe_ix ix_tup (pv 8) pe_int (fun _ _ => rfl)) (pa_cons (pe_ix ix_tup (pv 8) pe_int (fun _ _ => rfl)) (pa_cons (pe_ix ix_tup (pv 8) pe_int (fun _ _ => rfl)) pa_nil)))) (nomark _)) pa_nil)) (pe_callB call_reprB rfl n_repr (by decide +kernel) (pa_cons (pe_cmpR (op_eqDK (K := K) rfl hU) (pv 8) (pe_tup (pa_cons (pv 1) (pa_cons (pv 2) (pa_cons (pv 3) pa_nil)))) (nomark _)) pa_nil)) (nomark _)) (pss_one ps_never) pss_nil)
 pss_nil))
 (pss_cons (ps_set (i := 9) nd rfl (by first | exact .inl rfl | exact .inr rfl) (pe_lst (pa_cons pe_non (pa_cons pe_int (pa_cons pe_bl (pa_cons pe_str (pa_cons (pe_tup (pa_cons (pv 1) (pa_cons (pv 2) (pa_cons (pv 3) pa_nil)))) (pa_cons (pe_lst (pa_cons (pv 1) (pa_cons (pv 2) (pa_cons (pv 3) pa_nil)))) (pa_cons pe_dnewK pa_nil)))))))))
 (pss_cons (ps_ret (pe_cmpR (op_eqDK (K := K) rfl hU) (pe_lc (own := [("_law_some", 8)]) (g := gName 8) rfl nd (pi_list (pv 9)) (blkOk_by (own := [("_law_some", 8)]) (N := N_right) (sc := defScope s_right) (by decide +kernel)) (fun _ _ _ _ _ => pg_name (i := 8) nd rfl (by first | exact .inl rfl | exact .inr rfl)) (fun _ _ _ _ _ => pts_one (pt_cmpR (op_eqC (K := K) rfl G_Table___eq__2 hG (hr.mono (by decide)) ⟨M_Table___eq__2.at_, M_Table___eq__2.fn⟩ b_Table___eq__2 pass0) (pv 4) (pv 8) (nomark _))) (fun _ _ _ _ _ => (pv 8))) (pe_lst pa_nil) (nomark _)))
 pss_nil)))))))), ?_⟩
    refine def_B h (fun d => Nat.le_of_ble_eq_true rfl) (fun bag_1 p h => ?_)
    replace h : m_right_ok bag_1 := h
    unfold m_right_ok at h
    show SS _ [.ow (oLq (some p) (bagR bag_1)), .no, .no, .no, .no, .no, .no, .no, .no, .no] (BP eB p (m_right bag_1))
    obtain ⟨g1, h⟩ := h
    refine ss_seq2 ((m_three bag_1 (10 ^ 30)).1) ((m_three bag_1 (10 ^ 30)).2) (fun t_2 bag_3 => [.ow (oLq (some p) (bagR bag_3)), .fz (eI t_2.1), .fz (eI t_2.2.1), .fz (eI t_2.2.2), .no, .no, .no, .no, .no, .no]) (ss_asg (es_callB (bag_1, 10 ^ 30) 0 rfl (as_cons (es_pow es_c es_c ⟨by decide, by decide, by decide⟩) as_nil) rfl g1) (gs_tup (gs_cons (gs_name 1) (gs_cons (gs_name 2) (gs_cons (gs_name 3) gs_nil)))) Wk.refl) (fun t_2 e_t_2 bag_3 e_bag_3 => ?_)
    replace h := h t_2 e_t_2 bag_3 e_bag_3
    obtain ⟨g2, h⟩ := h
    refine ss_seq1 (⟨t_2.1, t_2.2.1, t_2.2.2⟩ : Tbl) (fun table_4 => [.ow (oLq (some p) (bagR bag_3)), .fz (eI t_2.1), .fz (eI t_2.2.1), .fz (eI t_2.2.2), .fz ((eTbl CT) table_4), .no, .no, .no, .no, .no]) (ss_set (es_make (t_2.1, t_2.2.1, t_2.2.2) (as_cons (es_var 1 rfl) (as_cons (es_var 2 rfl) (as_cons (es_var 3 rfl) as_nil))) g2) Wk.refl) (fun table_4 e_table_4 => ?_)
    replace h := h table_4 e_table_4
    obtain ⟨g3, g4, h⟩ := h
    obtain ⟨hn, h⟩ := h
    refine ss_ifL (et_cmp (es_reprF (K := K) (e := (eLs eI)) (x := ([table_4.capacity, table_4.rate, table_4.shift] : List Int)) (d := PyData.list (List.map (fun y : Int => PyData.int y) ([table_4.capacity, table_4.rate, table_4.shift] : List Int))) (es_frs eI ([table_4.capacity, table_4.rate, table_4.shift] : List Int) (en_lst (as_cons (es_prop (es_var 4 rfl) rfl) (as_cons (es_prop (es_var 4 rfl) rfl) (as_cons (es_prop (es_var 4 rfl) rfl) as_nil))))) g3 rfl rf_L (Nat.le_of_ble_eq_true rfl)) (es_reprF (K := K) (e := (eLs eI)) (x := ([t_2.1, t_2.2.1, t_2.2.2] : List Int)) (d := PyData.list (List.map (fun y : Int => PyData.int y) ([t_2.1, t_2.2.1, t_2.2.2] : List Int))) (es_frs eI ([t_2.1, t_2.2.1, t_2.2.2] : List Int) (en_lst (as_cons (es_var 1 rfl) (as_cons (es_var 2 rfl) (as_cons (es_var 3 rfl) as_nil))))) g4 rfl rf_L (Nat.le_of_ble_eq_true rfl)) q_neS) (fun hc => absurd hc (by rw [hn]; exact Bool.false_ne_true)) (fun _ => ss_nxq ?_)
    obtain ⟨g5, g6, g18, h⟩ := h
    refine ss_seq1 (List.foldl (m_right_b1 t_2 table_4) ((m_pick ((m_pick bag_3 (10 ^ 30)).2) 100).2) ([0, 1, (10 ^ 30) - 1, (m_pick bag_3 (10 ^ 30)).1, (m_pick ((m_pick bag_3 (10 ^ 30)).2) 100).1] : List Int)) (fun f_12 => [.ow (oLq (some p) (bagR f_12)), .fz (eI t_2.1), .fz (eI t_2.2.1), .fz (eI t_2.2.2), .fz ((eTbl CT) table_4), .no, .no, .no, .no, .no]) (sf_S (e := eI) (l := ([0, 1, (10 ^ 30) - 1, (m_pick bag_3 (10 ^ 30)).1, (m_pick ((m_pick bag_3 (10 ^ 30)).2) 100).1] : List Int)) (fun s_6 => [.ow (oLq (some p) (bagR s_6)), .fz (eI t_2.1), .fz (eI t_2.2.1), .fz (eI t_2.2.2), .fz ((eTbl CT) table_4), .no, .no, .no, .no, .no]) (m_right_b1 t_2 table_4) (m_right_o1 t_2 table_4) ((m_pick ((m_pick bag_3 (10 ^ 30)).2) 100).2) (is_tup (es_tup (K := K) (as_cons es_c (as_cons es_c (as_cons (es_sub (es_pow es_c es_c ⟨by decide, by decide, by decide⟩) es_c) (as_cons (es_callB (bag_3, 10 ^ 30) 0 rfl (as_cons (es_pow es_c es_c ⟨by decide, by decide, by decide⟩) as_nil) rfl g5) (as_cons (es_callB ((m_pick bag_3 (10 ^ 30)).2, 100) 0 rfl (as_cons es_c as_nil) rfl g6) as_nil))))))) Wk.refl g18 (fun s_6 x_7 _ h => ⟨[.ow (oLq (some p) (bagR s_6)), .fz (eI t_2.1), .fz (eI t_2.2.1), .fz (eI t_2.2.2), .fz ((eTbl CT) table_4), .fz (eI x_7), .no, .no, .no, .no], _, gs_name 5, ?_⟩) (fun _ hw => hw)) (fun f_12 e_f_12 => ?_)
    · unfold m_right_o1 at h
      obtain ⟨g7, g8, g9, g10, h⟩ := h
      obtain ⟨hn, h⟩ := h
      refine ss_ifL (et_cmp (es_reprI (es_meth (table_4, x_7) (es_var 4 rfl) (tbl_no (by decide +kernel)) (as_cons (es_var 5 rfl) as_nil) rfl g7) g8) (es_reprI (es_add (es_mulW (es_var 2 rfl) (es_var 5 rfl) g9) (es_var 3 rfl)) g10) q_neS) (fun hc => absurd hc (by rw [hn]; exact Bool.false_ne_true)) (fun _ => ss_nxq ?_)
      obtain ⟨g11, g17, h⟩ := h
      refine ss_seq1 (List.foldl (m_right_b2 t_2 table_4 x_7) () ([0, 1, 100, (m_pick s_6 101).1] : List Int)) (fun f_11 => [.ow (oLq (some p) (bagR ((m_pick s_6 101).2))), .fz (eI t_2.1), .fz (eI t_2.2.1), .fz (eI t_2.2.2), .fz ((eTbl CT) table_4), .fz (eI x_7), .no, .no, .no, .no]) (sf_S (e := eI) (l := ([0, 1, 100, (m_pick s_6 101).1] : List Int)) (fun s_9 => [.ow (oLq (some p) (bagR ((m_pick s_6 101).2))), .fz (eI t_2.1), .fz (eI t_2.2.1), .fz (eI t_2.2.2), .fz ((eTbl CT) table_4), .fz (eI x_7), .no, .no, .no, .no]) (m_right_b2 t_2 table_4 x_7) (m_right_o2 t_2 table_4 x_7) () (is_tup (es_tup (K := K) (as_cons es_c (as_cons es_c (as_cons es_c (as_cons (es_callB (s_6, 101) 0 rfl (as_cons es_c as_nil) rfl g11) as_nil)))))) Wk.refl g17 (fun s_9 x_10 _ h => ⟨[.ow (oLq (some p) (bagR ((m_pick s_6 101).2))), .fz (eI t_2.1), .fz (eI t_2.2.1), .fz (eI t_2.2.2), .fz ((eTbl CT) table_4), .fz (eI x_7), .fz (eI x_10), .no, .no, .no], _, gs_name 6, ?_⟩) (fun _ hw => hw)) (fun f_11 e_f_11 => ?_)
      · unfold m_right_o2 at h
        obtain ⟨g12, g13, g14, g15, g16, h⟩ := h
        obtain ⟨hn, h⟩ := h
        refine ss_ifL (et_cmp (es_reprI (es_meth (table_4, x_7, x_10) (es_var 4 rfl) (tbl_no (by decide +kernel)) (as_cons (es_var 5 rfl) (as_cons (es_var 6 rfl) as_nil)) rfl g12) g13) (es_reprI (es_call ((t_2.2.1 * x_7) + t_2.2.2, x_10) (as_cons (es_add (es_mulW (es_var 2 rfl) (es_var 5 rfl) g14) (es_var 3 rfl)) (as_cons (es_var 6 rfl) as_nil)) g15) g16) q_neS) (fun hc => absurd hc (by rw [hn]; exact Bool.false_ne_true)) (fun _ => ss_nxq ?_)
        exact ss_nx ⟨.inr rfl, ⟨.inr rfl, ⟨.inr rfl, ⟨.inr rfl, ⟨.inr rfl, ⟨.inr rfl, ⟨.inl rfl, ⟨.inr rfl, ⟨.inr rfl, ⟨.inr rfl, trivial⟩⟩⟩⟩⟩⟩⟩⟩⟩⟩
      replace h := h f_11 e_f_11
      subst e_f_11
      exact ss_nx ⟨.inr rfl, ⟨.inr rfl, ⟨.inr rfl, ⟨.inr rfl, ⟨.inr rfl, ⟨.inl rfl, ⟨.inr rfl, ⟨.inr rfl, ⟨.inr rfl, ⟨.inr rfl, trivial⟩⟩⟩⟩⟩⟩⟩⟩⟩⟩
    replace h := h f_12 e_f_12
    refine ss_seq1 ([(t_2.1, t_2.2.1, t_2.2.2), (1 + (t_2.1 / 2), t_2.2.1, t_2.2.2), (t_2.1, max2 1 (t_2.2.1 - 2), t_2.2.2)] : List (Int × Int × Int)) (fun others_13 => [.ow (oLq (some p) (bagR f_12)), .fz (eI t_2.1), .fz (eI t_2.2.1), .fz (eI t_2.2.2), .fz ((eTbl CT) table_4), .no, .no, .fz ((eLs (eP3 K eI eI eI)) others_13), .no, .no]) (ss_set (es_frs (eP3 K eI eI eI) ([(t_2.1, t_2.2.1, t_2.2.2), (1 + (t_2.1 / 2), t_2.2.1, t_2.2.2), (t_2.1, max2 1 (t_2.2.1 - 2), t_2.2.2)] : List (Int × Int × Int)) (en_lst (as_cons (es_tup (K := K) (as_cons (es_var 1 rfl) (as_cons (es_var 2 rfl) (as_cons (es_var 3 rfl) as_nil)))) (as_cons (es_tup (K := K) (as_cons (es_add es_c (es_fdivW (es_var 1 rfl) es_c ⟨by decide, by decide +kernel⟩)) (as_cons (es_var 2 rfl) (as_cons (es_var 3 rfl) as_nil)))) (as_cons (es_tup (K := K) (as_cons (es_var 1 rfl) (as_cons (es_max2 es_c (es_sub (es_var 2 rfl) es_c)) (as_cons (es_var 3 rfl) as_nil)))) as_nil))))) Wk.refl) (fun others_13 e_others_13 => ?_)
    replace h := h others_13 e_others_13
    obtain ⟨g19, g22, h⟩ := h
    refine ss_seq1 (List.foldl (m_right_b3 t_2 table_4) () (others_13 ++ ([(t_2.1, t_2.2.1, t_2.2.2 / 2)] : List (Int × Int × Int)))) (fun f_16 => [.ow (oLq (some p) (bagR f_12)), .fz (eI t_2.1), .fz (eI t_2.2.1), .fz (eI t_2.2.2), .fz ((eTbl CT) table_4), .no, .no, .fz ((eLs (eP3 K eI eI eI)) others_13), .no, .no]) (sf_S (e := (eP3 K eI eI eI)) (l := (others_13 ++ ([(t_2.1, t_2.2.1, t_2.2.2 / 2)] : List (Int × Int × Int)))) (fun s_14 => [.ow (oLq (some p) (bagR f_12)), .fz (eI t_2.1), .fz (eI t_2.2.1), .fz (eI t_2.2.2), .fz ((eTbl CT) table_4), .no, .no, .fz ((eLs (eP3 K eI eI eI)) others_13), .no, .no]) (m_right_b3 t_2 table_4) (m_right_o3 t_2 table_4) () (is_list (e := (eP3 K eI eI eI)) (es_frs (eP3 K eI eI eI) (others_13 ++ ([(t_2.1, t_2.2.1, t_2.2.2 / 2)] : List (Int × Int × Int))) (en_cat (es_var 7 rfl) (es_frs (eP3 K eI eI eI) ([(t_2.1, t_2.2.1, t_2.2.2 / 2)] : List (Int × Int × Int)) (en_lst (as_cons (es_tup (K := K) (as_cons (es_var 1 rfl) (as_cons (es_var 2 rfl) (as_cons (es_fdivW (es_var 3 rfl) es_c ⟨by decide, by decide +kernel⟩) as_nil)))) as_nil))) g19))) Wk.refl g22 (fun s_14 x_15 _ h => ⟨[.ow (oLq (some p) (bagR f_12)), .fz (eI t_2.1), .fz (eI t_2.2.1), .fz (eI t_2.2.2), .fz ((eTbl CT) table_4), .no, .no, .fz ((eLs (eP3 K eI eI eI)) others_13), .fz ((eP3 K eI eI eI) x_15), .no], _, gs_name 8, ?_⟩) (fun _ hw => hw)) (fun f_16 e_f_16 => ?_)
    · unfold m_right_o3 at h
      obtain ⟨g20, g21, h⟩ := h
      obtain ⟨hn, h⟩ := h
      refine ss_ifL (et_cmp (es_reprB (es_eqC (table_4, (⟨x_15.1, x_15.2.1, x_15.2.2⟩ : Tbl)) (es_var 4 rfl) (es_make (x_15.1, x_15.2.1, x_15.2.2) (as_cons (es_ixT (k := 0) (es_var 8 rfl) rfl) (as_cons (es_ixT (k := 1) (es_var 8 rfl) rfl) (as_cons (es_ixT (k := 2) (es_var 8 rfl) rfl) as_nil))) g20) (ty_ins clT xaT xbT xcT xdT) nf_self rfl g21)) (es_reprB (es_eqDat (K := K) (e := (eP3 K eI eI eI)) (es_var 8 rfl) (es_tup (K := K) (as_cons (es_var 1 rfl) (as_cons (es_var 2 rfl) (as_cons (es_var 3 rfl) as_nil)))) (Nat.le_of_ble_eq_true rfl))) q_neS) (fun hc => absurd hc (by rw [hn]; exact Bool.false_ne_true)) (fun _ => ss_nxq ?_)
      exact ss_nx ⟨.inr rfl, ⟨.inr rfl, ⟨.inr rfl, ⟨.inr rfl, ⟨.inr rfl, ⟨.inr rfl, ⟨.inr rfl, ⟨.inr rfl, ⟨.inl rfl, ⟨.inr rfl, trivial⟩⟩⟩⟩⟩⟩⟩⟩⟩⟩
    replace h := h f_16 e_f_16
    refine ss_seq1 ([(0, (t_2.1, t_2.2.1, t_2.2.2)), (1, (t_2.1, t_2.2.1, t_2.2.2)), (2, (t_2.1, t_2.2.1, t_2.2.2)), (3, (t_2.1, t_2.2.1, t_2.2.2)), (4, (t_2.1, t_2.2.1, t_2.2.2)), (5, (t_2.1, t_2.2.1, t_2.2.2)), (6, (t_2.1, t_2.2.1, t_2.2.2))] : List (Nat × Trip)) (fun odd_17 => [.ow (oLq (some p) (bagR f_12)), .fz (eI t_2.1), .fz (eI t_2.2.1), .fz (eI t_2.2.2), .fz ((eTbl CT) table_4), .no, .no, .fz ((eLs (eP3 K eI eI eI)) others_13), .no, .fz ((eLs (eOdd K)) odd_17)]) (ss_set (es_frs (eOdd K) ([(0, (t_2.1, t_2.2.1, t_2.2.2)), (1, (t_2.1, t_2.2.1, t_2.2.2)), (2, (t_2.1, t_2.2.1, t_2.2.2)), (3, (t_2.1, t_2.2.1, t_2.2.2)), (4, (t_2.1, t_2.2.1, t_2.2.2)), (5, (t_2.1, t_2.2.1, t_2.2.2)), (6, (t_2.1, t_2.2.1, t_2.2.2))] : List (Nat × Trip)) (en_lst (as_cons es_c (as_cons es_c (as_cons es_c (as_cons es_c (as_cons (es_tup (K := K) (as_cons (es_var 1 rfl) (as_cons (es_var 2 rfl) (as_cons (es_var 3 rfl) as_nil)))) (as_cons (es_frs eI ([t_2.1, t_2.2.1, t_2.2.2] : List Int) (en_lst (as_cons (es_var 1 rfl) (as_cons (es_var 2 rfl) (as_cons (es_var 3 rfl) as_nil))))) (as_cons es_dnew as_nil))))))))) Wk.refl) (fun odd_17 e_odd_17 => ?_)
    replace h := h odd_17 e_odd_17
    obtain ⟨g23, g24, g25, h⟩ := h
    refine ss_retq (es_eqNil (K := K) (e := eI) (es_nilc (f := eI) (es_frs (eOdd K) ((List.filter (fun (x_19 : Nat × Trip) => m_Table___eq__2 table_4 x_19) odd_17).map fun (x_19 : Nat × Trip) => x_19) (en_lcFT (eOdd K) (fun (x_19 : Nat × Trip) => x_19) (en_lcS (e := (eOdd K)) (l := odd_17) (f := (fun (x_19 : Nat × Trip) => (eOdd K) x_19)) (is := [8]) (vs := [8]) (fun (x_19 : Nat × Trip) => m_Table___eq__2 table_4 x_19) (fun (x_19 : Nat × Trip) => [.no, .fz (eI t_2.1), .fz (eI t_2.2.1), .fz (eI t_2.2.2), .fz ((eTbl CT) table_4), .no, .no, .fz ((eLs (eP3 K eI eI eI)) others_13), .fz ((eOdd K) x_19), .fz ((eLs (eOdd K)) odd_17)]) (is_list (e := (eOdd K)) (es_var 9 rfl)) g24 (fun _ h => h) (fun x_19 => gs_name 8) (fun x_19 hx => (et_test (es_eqC (table_4, x_19) (es_var 4 rfl) (es_var 8 rfl) (ty_odd x_19) (nf_odd NO x_19) rfl (g23 x_19 hx)))) (fun x_19 hx hp => (es_var 8 rfl))))) g25) (Nat.le_of_ble_eq_true rfl)) ?_
    subst e_odd_17 e_f_16 e_others_13 e_f_12 e_table_4 e_bag_3 e_t_2
    exact ⟨rfl, rfl⟩
end
def m_law_b2 (s_5 : Bag) (x_6 : Int) : Bag :=
let bag_7 := (m_right s_5).2
bag_7
def m_law_o2 (s_5 : Bag) (x_6 : Int) : Prop :=
(m_right_ok s_5) ∧ (!((m_right s_5).1)) = false ∧ (∀ bag_7, bag_7 = ((m_right s_5).2) → (True))
def m_law_b1 (s_2 : Unit) (x_3 : Int) : Unit :=
let bag_4 := m_bag x_3
let f_8 := List.foldl (m_law_b2) bag_4 (rng 0 5)
()
def m_law_o1 (s_2 : Unit) (x_3 : Int) : Prop :=
(m_bag_ok x_3) ∧ (∀ bag_4, bag_4 = (m_bag x_3) → (okF (m_law_o2) (m_law_b2) bag_4 (rng 0 5)) ∧ (∀ f_8, f_8 = List.foldl (m_law_b2) bag_4 (rng 0 5) → True))
def m_law (script_1 : List Int) : Bool :=
let f_9 := List.foldl (m_law_b1) () ((cutL script_1 none (some 6)) ++ ([0] : List Int))
let one_10 := (⟨2, 1, 0⟩ : Tbl)
let other_11 := (⟨2, 5, 3⟩ : Tbl)
decide (((m_Table_value other_11 4, m_Table_tail other_11 4 3, m_Table_tail one_10 6 2, m_Table___eq__ one_10 other_11) : Int × Int × Int × Bool) = ((23, 7, 2, false) : Int × Int × Int × Bool))
def m_law_ok (script_1 : List Int) : Prop :=
((cutL script_1 none (some 6)).length + ([0] : List Int).length ≤ 16000000) ∧ (okF (m_law_o1) (m_law_b1) () ((cutL script_1 none (some 6)) ++ ([0] : List Int))) ∧ (∀ f_9, f_9 = List.foldl (m_law_b1) () ((cutL script_1 none (some 6)) ++ ([0] : List Int)) → (m_Table___init___ok 2 1 0) ∧ (m_Table___init___ok 2 5 3) ∧ (∀ one_10, one_10 = (⟨2, 1, 0⟩ : Tbl) → ∀ other_11, other_11 = (⟨2, 5, 3⟩ : Tbl) → (m_Table_value_ok other_11 4) ∧ (m_Table_tail_ok other_11 4 3) ∧ (m_Table_tail_ok one_10 6 2) ∧ (m_Table___eq___ok one_10 other_11) ∧ True))
def sp_law (K : PySem.W.Frag) (CT : Addr) : Sp := spF (ι := (List Int)) (fun d => [(eQ K eI) d]) (fun d => m_law_ok d) (fun d => eB (m_law d))
abbrev s_law : Stmt := top 24
abbrev N_law : List Str := ["_law_script", "_law_cell", "_law_bag_here", "_law_turn", "_law_one", "_law_other"]
theorem sc_law : FnScope N_law ["_law_script"] (defScope s_law) := ⟨rfl, rfl, rfl, by decide +kernel, rfl, by decide +kernel, by decide +kernel⟩
section
variable {P : Program} {w : World} {K : PySem.W.Frag} {mg : Str → Option Value} {base : Heap} {CT : Addr}
theorem ok_law {f : Addr} {fd : FuncData} (F : Fun K "law" "law" s_law f fd) {a_bag : Addr} {fd_bag : FuncData} (F_bag : Fun K "_law_bag" "_law_bag" s_bag a_bag fd_bag) (G_bag : FnG P w K mg base CX0 1 a_bag fd_bag ["_law_cell"] (sp_bag K CT)) (j_bag : mg "_law_bag" = some (.ref a_bag)) (b_bag : Binds K fd_bag ["_law_cell"] []) {a_right : Addr} {fd_right : FuncData} (F_right : Fun K "_law_right" "_law_right" s_right a_right fd_right) (G_right : FnG P w K mg base CX0 5 a_right fd_right ["_law_bag_here"] (sp_right K CT)) (j_right : mg "_law_right" = some (.ref a_right)) (b_right : Binds K fd_right ["_law_bag_here"] []) {a_Table___init__ : Addr} {fd_Table___init__ : FuncData} (F_Table___init__ : Fun K "__init__" "Table.__init__" s_Table___init__ a_Table___init__ fd_Table___init__) (G_Table___init__ : FnG P w K mg base CX0 3 a_Table___init__ fd_Table___init__ ["self", "capacity", "rate", "shift"] (sp_Table___init__ K CT)) (MT : Mk K CT a_Table___init__) (b_Table___init__ : Binds K fd_Table___init__ ["self", "capacity", "rate", "shift"] []) {a_Table_value : Addr} {fd_Table_value : FuncData} (F_Table_value : Fun K "value" "Table.value" s_Table_value a_Table_value fd_Table_value) (G_Table_value : FnG P w K mg base CX0 4 a_Table_value fd_Table_value ["self", "key"] (sp_Table_value K CT)) (M_Table_value : Meth K CT "value" a_Table_value) (b_Table_value : Binds K fd_Table_value ["self", "key"] []) {a_Table_tail : Addr} {fd_Table_tail : FuncData} (F_Table_tail : Fun K "tail" "Table.tail" s_Table_tail a_Table_tail fd_Table_tail) (G_Table_tail : FnG P w K mg base CX0 4 a_Table_tail fd_Table_tail ["self", "key", "depth"] (sp_Table_tail K CT)) (M_Table_tail : Meth K CT "tail" a_Table_tail) (b_Table_tail : Binds K fd_Table_tail ["self", "key", "depth"] []) {a_Table___eq__ : Addr} {fd_Table___eq__ : FuncData} (F_Table___eq__ : Fun K "__eq__" "Table.__eq__" s_Table___eq__ a_Table___eq__ fd_Table___eq__) (G_Table___eq__ : FnG P w K mg base CX0 2 a_Table___eq__ fd_Table___eq__ ["self", "other"] (sp_Table___eq__ K CT)) (M_Table___eq__ : Meth K CT "__eq__" a_Table___eq__) (b_Table___eq__ : Binds K fd_Table___eq__ ["self", "other"] []) (n_range : mg "range" = none) (TT : TblTxt K mg CT) : FnG P w K mg base CX0 6 f fd ["_law_script"] (sp_law K CT) := by
  obtain ⟨clT, na_own_capacity, na_own_rate, na_own_shift, mgT, isT, xaT, xbT, xcT, xdT⟩ := TT
  refine Fun.okG F sc_law (fun vs H Q E h => ?_) (fun cdv A outer s H vs Q E hG hr h => ?_)
  · obtain ⟨d, F, _, _, h, _⟩ := h
    exact h.len
  · have nd := sc_law.nd
    have hU := hr.units
    refine ⟨_, (pss_cons (ps_for PassesOwn.never rfl (pi_list (pe_op op_cat (pe_slice sl_list (pv 0) po_none (po_some pe_int)) (pe_lst (pa_cons pe_int pa_nil)))) (pg_name (i := 1) nd rfl (by first | exact .inl rfl | exact .inr rfl)) (pss_cons (ps_set (i := 2) nd rfl (by first | exact .inl rfl | exact .inr rfl) (pg_call G_bag hG (hr.mono (by decide)) rfl j_bag F_bag.kp b_bag .nil pass0 (pa_cons (pv 1) pa_nil)))
 (pss_cons (ps_for PassesOwn.never rfl (pi_range1 rfl n_range (pa_cons pe_int pa_nil)) (pg_name (i := 3) nd rfl (by first | exact .inl rfl | exact .inr rfl)) (pss_cons (ps_if (pt_not (pt_val (pg_call G_right hG (hr.mono (by decide)) rfl j_right F_right.kp b_right .nil pass0 (pa_cons (pv 2) pa_nil)))) (pss_one ps_never) pss_nil)
 pss_nil))
 pss_nil)))
 (pss_cons (ps_par (i := 4) (j := 5) rfl nd rfl rfl (by decide) rfl rfl (pa_cons (pg_make MT G_Table___init__ hG (hr.mono (by decide)) rfl mgT b_Table___init__ .nil pass0 (pa_cons pe_int (pa_cons pe_int (pa_cons pe_int pa_nil)))) (pa_cons (pg_make MT G_Table___init__ hG (hr.mono (by decide)) rfl mgT b_Table___init__ .nil pass0 (pa_cons pe_int (pa_cons pe_int (pa_cons pe_int pa_nil)))) pa_nil)) (by rfl))
 (pss_cons (ps_ret (pe_cmpR (op_eqDK (K := K) rfl hU) (pe_lst (pa_cons (pg_meth (pv 5) clT M_Table_value G_Table_value hG (hr.mono (by decide)) b_Table_value .nil pass0 (pa_cons pe_int pa_nil)) (pa_cons (pg_meth (pv 5) clT M_Table_tail G_Table_tail hG (hr.mono (by decide)) b_Table_tail .nil pass0 (pa_cons pe_int (pa_cons pe_int pa_nil))) (pa_cons (pg_meth (pv 4) clT M_Table_tail G_Table_tail hG (hr.mono (by decide)) b_Table_tail .nil pass0 (pa_cons pe_int (pa_cons pe_int pa_nil))) (pa_cons (pe_cmpR (op_eqC (K := K) rfl G_Table___eq__ hG (hr.mono (by decide)) ⟨M_Table___eq__.at_, M_Table___eq__.fn⟩ b_Table___eq__ pass0) (pv 4) (pv 5) (nomark _)) pa_nil))))) (pe_lst (pa_cons pe_int (pa_cons pe_int (pa_cons pe_int (pa_cons pe_bl pa_nil))))) (nomark _)))
 pss_nil))), ?_⟩
    refine def_F h (fun d => Nat.le_of_ble_eq_true rfl) (fun script_1 h => ?_)
    replace h : m_law_ok script_1 := h
    unfold m_law_ok at h
    show SS _ [.fz ((eQ K eI) script_1), .no, .no, .no, .no, .no] (FP eB (m_law script_1))
    obtain ⟨g1, g5, h⟩ := h
    refine ss_seq1 (List.foldl (m_law_b1) () ((cutL script_1 none (some 6)) ++ ([0] : List Int))) (fun f_9 => [.fz ((eQ K eI) script_1), .no, .no, .no, .no, .no]) (sf_S (e := eI) (l := ((cutL script_1 none (some 6)) ++ ([0] : List Int))) (fun s_2 => [.fz ((eQ K eI) script_1), .no, .no, .no, .no, .no]) (m_law_b1) (m_law_o1) () (is_list (e := eI) (es_frs eI ((cutL script_1 none (some 6)) ++ ([0] : List Int)) (en_cat (es_frs eI (cutL script_1 none (some 6)) (en_sliceQ (e := eI) (es_var 0 rfl) os_no (os_some es_c))) (es_frs eI ([0] : List Int) (en_lst (as_cons es_c as_nil))) g1))) Wk.refl g5 (fun s_2 x_3 _ h => ⟨[.fz ((eQ K eI) script_1), .fz (eI x_3), .no, .no, .no, .no], _, gs_name 1, ?_⟩) (fun _ hw => hw)) (fun f_9 e_f_9 => ?_)
    · unfold m_law_o1 at h
      obtain ⟨g2, h⟩ := h
      refine ss_seq1 (m_bag x_3) (fun bag_4 => [.fz ((eQ K eI) script_1), .fz (eI x_3), .ow (oLq none (bagR bag_4)), .no, .no, .no]) (ss_own (en_call x_3 (as_cons (es_var 1 rfl) as_nil) g2) Wk.refl) (fun bag_4 e_bag_4 => ?_)
      replace h := h bag_4 e_bag_4
      obtain ⟨g4, h⟩ := h
      refine ss_seq1 (List.foldl (m_law_b2) bag_4 (rng 0 5)) (fun f_8 => [.fz ((eQ K eI) script_1), .fz (eI x_3), .ow (oLq none (bagR f_8)), .no, .no, .no]) (sf_S (e := eI) (l := (rng 0 5)) (fun s_5 => [.fz ((eQ K eI) script_1), .fz (eI x_3), .ow (oLq none (bagR s_5)), .no, .no, .no]) (m_law_b2) (m_law_o2) bag_4 (is_rng1 (as_cons es_c as_nil) (by decide)) Wk.refl g4 (fun s_5 x_6 _ h => ⟨[.fz ((eQ K eI) script_1), .fz (eI x_3), .ow (oLq none (bagR s_5)), .fz (eI x_6), .no, .no], _, gs_name 3, ?_⟩) (fun _ hw => hw)) (fun f_8 e_f_8 => ?_)
      · unfold m_law_o2 at h
        obtain ⟨g3, h⟩ := h
        obtain ⟨hn, h⟩ := h
        refine ss_ifL (et_not (et_val (es_callB s_5 2 rfl as_nil rfl g3))) (fun hc => absurd hc (by rw [hn]; exact Bool.false_ne_true)) (fun _ => ss_nxq ?_)
        refine ss_let1 ((m_right s_5).2) (fun bag_7 => [.fz ((eQ K eI) script_1), .fz (eI x_3), .ow (oLq none (bagR bag_7)), .fz (eI x_6), .no, .no]) (fun bag_7 e_bag_7 => ?_)
        replace h := h bag_7 e_bag_7
        subst e_bag_7
        exact ss_nx ⟨.inr rfl, ⟨.inr rfl, ⟨.inr rfl, ⟨.inl rfl, ⟨.inr rfl, ⟨.inr rfl, trivial⟩⟩⟩⟩⟩⟩
      replace h := h f_8 e_f_8
      subst e_f_8 e_bag_4
      exact ss_nx ⟨.inr rfl, ⟨.inl rfl, ⟨.inl rfl, ⟨.inr rfl, ⟨.inr rfl, ⟨.inr rfl, trivial⟩⟩⟩⟩⟩⟩
    replace h := h f_9 e_f_9
    obtain ⟨g6, g7, h⟩ := h
    refine ss_seq2 (⟨2, 1, 0⟩ : Tbl) (⟨2, 5, 3⟩ : Tbl) (fun one_10 other_11 => [.fz ((eQ K eI) script_1), .no, .no, .no, .fz ((eTbl CT) one_10), .fz ((eTbl CT) other_11)]) (ss_parM (am_fz (es_make (2, 1, 0) (as_cons es_c (as_cons es_c (as_cons es_c as_nil))) g6) (am_fz (es_make (2, 5, 3) (as_cons es_c (as_cons es_c (as_cons es_c as_nil))) g7) am_nil)) Wk.refl) (fun one_10 e_one_10 other_11 e_other_11 => ?_)
    replace h := h one_10 e_one_10 other_11 e_other_11
    obtain ⟨g8, g9, g10, g11, h⟩ := h
    refine ss_retq (es_eqDat (K := K) (e := eLm) (es_frm (x := (m_Table_value other_11 4, m_Table_tail other_11 4 3, m_Table_tail one_10 6 2, m_Table___eq__ one_10 other_11)) (en_lst (as_cons (es_meth (other_11, 4) (es_var 5 rfl) (tbl_no (by decide +kernel)) (as_cons es_c as_nil) rfl g8) (as_cons (es_meth (other_11, 4, 3) (es_var 5 rfl) (tbl_no (by decide +kernel)) (as_cons es_c (as_cons es_c as_nil)) rfl g9) (as_cons (es_meth (one_10, 6, 2) (es_var 4 rfl) (tbl_no (by decide +kernel)) (as_cons es_c (as_cons es_c as_nil)) rfl g10) (as_cons (es_eqC (one_10, other_11) (es_var 4 rfl) (es_var 5 rfl) (ty_ins clT xaT xbT xcT xdT) nf_self rfl g11) as_nil)))))) (es_frm (x := (23, 7, 2, false)) (en_lst (as_cons es_c (as_cons es_c (as_cons es_c (as_cons es_c as_nil)))))) (Nat.le_of_ble_eq_true rfl)) ?_
    subst e_other_11 e_one_10 e_f_9
    exact rfl
end
end My
end
section
set_option maxRecDepth 100000
namespace My
open PySem L2 Fw
def Sm (k : Nat) (x : Int) : Prop := x.natAbs < 2 ^ k
theorem Sm.mono {k j : Nat} {x : Int} (h : Sm k x) (l : k ≤ j) : Sm j x := Nat.lt_of_lt_of_le h (Nat.pow_le_pow_right (by decide) l)
theorem Sm.mul {a b : Nat} {x y : Int} (h : Sm a x) (h' : Sm b y) : Sm (a + b) (x * y) := by
  unfold Sm at *
  rw [Int.natAbs_mul, Nat.pow_add]
  exact Nat.mul_lt_mul_of_lt_of_lt h h'
theorem Sm.add {k : Nat} {x y : Int} (h : Sm k x) (h' : Sm k y) : Sm (k + 1) (x + y) := by
  unfold Sm at *
  rw [Nat.pow_succ]
  have := Int.natAbs_add_le x y
  omega
theorem Sm.sub {k : Nat} {x y : Int} (h : Sm k x) (h' : Sm k y) : Sm (k + 1) (x - y) := by
  unfold Sm at *
  rw [Nat.pow_succ]
  have := Int.natAbs_sub_le x y
  omega
theorem Sm.lg {k : Nat} {x : Int} (h : Sm k x) : x.natAbs.log2 ≤ k := by
  by_cases z : x.natAbs = 0
  · rw [z]; exact Nat.zero_le _
  · exact Nat.le_of_lt ((Nat.log2_lt z).mpr h)
theorem Sm.cm {a b : Nat} {x y : Int} (h : Sm a x) (h' : Sm b y) (l : a + b < 1000000) : CMulW x y := by
  unfold CMulW
  have := h.lg
  have := h'.lg
  omega
theorem sm_of {k : Nat} {x : Int} (h1 : 0 ≤ x) (h2 : x < 2 ^ k) : Sm k x := by
  unfold Sm
  have e : ((2 ^ k : Nat) : Int) = 2 ^ k := by push_cast; rfl
  omega
theorem pw_pos (d : Nat) : (0 : Int) < 2 ^ d := Int.pow_pos (by decide)
theorem pw_eq (d : Nat) : (1 : Int) * 2 ^ d = 2 ^ d := Int.one_mul _
theorem mask (x : Int) (d : Nat) : Builtin.bitAnd x (1 * 2 ^ d - 1) = x % 2 ^ d := by rw [pw_eq]; exact PySem.W.kbt_mask x d
theorem pw_lt {d k : Nat} (h : d ≤ k) : (2 : Int) ^ d ≤ 2 ^ k := by
  have : (2 : Nat) ^ d ≤ 2 ^ k := Nat.pow_le_pow_right (by decide) h
  exact_mod_cast this
theorem okF_inv {α β : Type} {ok : β → α → Prop} {b : β → α → β} (I : Nat → β → Prop) : ∀ {l : List α} {s : β} {n : Nat}, I n s → (∀ n s x, x ∈ l → I n s → ok s x ∧ I (n + 1) (b s x)) → okF ok b s l ∧ I (n + l.length) (l.foldl b s)
  | [], s, n, h, _ => ⟨trivial, h⟩
  | x :: l, s, n, h, k => by
    obtain ⟨h1, h2⟩ := k n s x (List.mem_cons_self ..) h
    obtain ⟨g1, g2⟩ := okF_inv I (l := l) h2 fun n s y hy => k n s y (List.mem_cons_of_mem _ hy)
    refine ⟨⟨h1, g1⟩, ?_⟩
    have e : n + (x :: l).length = n + 1 + l.length := by rw [List.length_cons]; omega
    rw [e]; exact g2
theorem okF_I {α β : Type} {ok : β → α → Prop} {b : β → α → β} (I : β → Prop) {l : List α} {s : β} (h : I s) (k : ∀ s x, x ∈ l → I s → ok s x ∧ I (b s x)) : okF ok b s l ∧ I (l.foldl b s) :=
  okF_inv (fun _ => I) (n := 0) h fun _ s x hx hs => k s x hx hs
theorem mem_rng {a b x : Int} : x ∈ rng a b ↔ a ≤ x ∧ x < b := by
  unfold rng
  rw [List.mem_map]
  constructor
  · rintro ⟨k, hk, rfl⟩
    rw [List.mem_range] at hk
    omega
  · rintro ⟨h1, h2⟩
    exact ⟨(x - a).toNat, by rw [List.mem_range]; omega, by omega⟩
theorem len_rng (a b : Int) : (rng a b).length = (b - a).toNat := by unfold rng; simp
theorem pick_lt (b : Bag) {n : Int} (h : 0 < n) : 0 ≤ (m_pick b n).1 ∧ (m_pick b n).1 < n := by
  unfold m_pick
  dsimp only
  split
  · exact ⟨Int.emod_nonneg _ (by omega), Int.emod_lt_of_pos _ h⟩
  · exact ⟨Int.emod_nonneg _ (by omega), Int.emod_lt_of_pos _ h⟩
theorem pick_ok (b : Bag) {n : Int} (h : 0 < n) (h' : n.natAbs.log2 < 9000) : m_pick_ok b n := by
  unfold m_pick_ok
  intro b3 _
  refine ⟨fun _ => ⟨h, fun _ _ => ⟨⟨h, h'⟩, fun _ _ => trivial⟩⟩, fun _ s _ t _ f hf => ?_⟩
  have f1 : 0 ≤ f ∧ f < 2147483647 := by
    rw [hf]; exact ⟨Int.emod_nonneg _ (by decide), Int.emod_lt_of_pos _ (by decide)⟩
  have fs : Sm 32 f := sm_of f1.1 (Int.lt_trans f1.2 (by decide))
  refine ⟨fs.cm fs (by decide), fun g hg d hd => ?_⟩
  have g1 : 0 ≤ g ∧ g < 2147483587 := by
    rw [hg]; exact ⟨Int.emod_nonneg _ (by decide), Int.emod_lt_of_pos _ (by decide)⟩
  refine ⟨fun _ => ⟨?_, fun _ _ => trivial⟩, fun _ => trivial, fun _ _ => ⟨h, trivial⟩⟩
  rw [hd]
  have e : (2 : Nat) ^ 64 = 18446744073709551616 := by decide
  rw [e]
  omega
theorem whole_iff {v a b : Int} : m_is_whole v a b = true ↔ a ≤ v ∧ v ≤ b := by
  unfold m_is_whole m_is_int
  simp
theorem whole_ok (v a b : Int) : m_is_whole_ok v a b := ⟨trivial, trivial⟩
theorem nwhole {v a b : Int} (h : a ≤ v ∧ v ≤ b) : (!(m_is_whole v a b)) = false := by rw [whole_iff.mpr h]; rfl
theorem key_ok {k : Int} (h : 0 ≤ k ∧ k < 10 ^ 30) : m_require_key_ok k := ⟨whole_ok _ _ _, nwhole (by omega), trivial⟩
theorem depth_ok {d : Int} (h : 0 ≤ d ∧ d ≤ 100) : m_require_depth_ok d := ⟨whole_ok _ _ _, nwhole h, trivial⟩
def SpC : Int → List (Int × Int) → Int → Prop
  | a, [], b => a = b
  | a, x :: l, b => a ≤ x.1 ∧ x.1 < x.2 ∧ SpC x.2 l b
def Sp0 (l : List (Int × Int)) : Prop := l.length ≤ 12 ∧ ∃ b, SpC 0 l b ∧ b ≤ 10 ^ 30
theorem SpC.le : ∀ {l : List (Int × Int)} {a b : Int}, SpC a l b → a ≤ b
  | [], _, _, h => Int.le_of_eq h
  | _ :: l, _, _, h => by have := SpC.le h.2.2; have := h.1; have := h.2.1; omega
theorem SpC.app : ∀ {l m : List (Int × Int)} {a b c : Int}, SpC a l b → SpC b m c → SpC a (l ++ m) c
  | [], _, _, _, _, h, h' => by cases h; exact h'
  | _ :: l, _, _, _, _, h, h' => ⟨h.1, h.2.1, h.2.2.app h'⟩
theorem SpC.mem : ∀ {l : List (Int × Int)} {a b : Int} {x : Int × Int}, SpC a l b → x ∈ l → a ≤ x.1 ∧ x.1 < x.2 ∧ x.2 ≤ b
  | y :: l, a, b, x, h, m => by
    rcases List.mem_cons.mp m with e | m
    · subst e; exact ⟨h.1, h.2.1, h.2.2.le⟩
    · have := h.2.2.mem m; have := h.1; have := h.2.1; omega
theorem Sp0.mem {l : List (Int × Int)} {x : Int × Int} (h : Sp0 l) (m : x ∈ l) : 0 ≤ x.1 ∧ x.1 < x.2 ∧ x.2 ≤ 10 ^ 30 := by
  obtain ⟨_, b, h1, h2⟩ := h
  have := h1.mem m; omega
theorem sp_one {f e : Int} (h : 0 ≤ f ∧ f < e ∧ e ≤ 10 ^ 30) : Sp0 [(f, e)] := ⟨Nat.le_of_ble_eq_true rfl, e, ⟨h.1, h.2.1, rfl⟩, h.2.2⟩
theorem odd_cancel {r : Int} (hr : r % 2 = 1) : ∀ (d : Nat) {x : Int}, (2 : Int) ^ d ∣ r * x → (2 : Int) ^ d ∣ x
  | 0, x, _ => by rw [Int.pow_zero]; exact Int.one_dvd x
  | d + 1, x, h => by
    obtain ⟨k, hk⟩ := h
    rw [Int.pow_succ] at hk
    have e1 : r * x % 2 = 0 := by
      rw [hk, Int.mul_assoc, Int.mul_left_comm]
      exact Int.mul_emod_right 2 _
    have e2 : x % 2 = 0 := by
      rw [Int.mul_emod, hr, Int.one_mul] at e1
      omega
    obtain ⟨y, hy⟩ : ∃ y, x = 2 * y := ⟨x / 2, by omega⟩
    subst hy
    have e3 : r * y = 2 ^ d * k := by
      have : 2 * (r * y) = 2 * (2 ^ d * k) := by
        rw [← Int.mul_left_comm, hk, Int.mul_assoc, Int.mul_left_comm]
      omega
    obtain ⟨z, hz⟩ := odd_cancel hr d ⟨k, e3⟩
    exact ⟨z, by rw [hz, Int.pow_succ, Int.mul_assoc, Int.mul_left_comm]⟩
def Res (r s : Int) (d : Nat) (t x : Int) : Prop := 0 ≤ x ∧ x < 2 ^ d ∧ (2 : Int) ^ d ∣ r * x + s - t
theorem small_zero {m x : Int} (h1 : -m < x) (h2 : x < m) (h : m ∣ x) : x = 0 := by
  obtain ⟨k, rfl⟩ := h
  have hm : 0 < m := by omega
  have k1 : k < 1 := by
    refine Int.lt_of_mul_lt_mul_left (a := m) ?_ (by omega)
    rw [Int.mul_one]; exact h2
  have k2 : -1 < k := by
    refine Int.lt_of_mul_lt_mul_left (a := m) ?_ (by omega)
    rw [Int.mul_neg, Int.mul_one]; exact h1
  have : k = 0 := by omega
  rw [this, Int.mul_zero]
theorem Res.uniq {r s t x y : Int} {d : Nat} (hr : r % 2 = 1) (h : Res r s d t x) (h' : Res r s d t y) : x = y := by
  obtain ⟨a1, a2, a3⟩ := h
  obtain ⟨b1, b2, b3⟩ := h'
  have c := Int.dvd_sub a3 b3
  have e : r * x + s - t - (r * y + s - t) = r * (x - y) := by rw [Int.mul_sub]; omega
  rw [e] at c
  have := small_zero (by omega) (by omega) (odd_cancel hr d c)
  omega
theorem Res.half {r s t x y : Int} {d : Nat} (hr : r % 2 = 1) (h : Res r s (d + 1) t x) (h' : Res r s d t y) : x = y ∨ x = y + 2 ^ d := by
  obtain ⟨a1, a2, a3⟩ := h
  have hp := pw_pos d
  have e2 : (2 : Int) ^ (d + 1) = 2 ^ d * 2 := Int.pow_succ ..
  have dv : (2 : Int) ^ d ∣ r * x + s - t := Int.dvd_trans ⟨2, e2⟩ a3
  have key : Res r s d t (x % 2 ^ d) := by
    refine ⟨Int.emod_nonneg _ (by omega), Int.emod_lt_of_pos _ hp, ?_⟩
    have e : r * (x % 2 ^ d) + s - t = (r * x + s - t) - 2 ^ d * (r * (x / 2 ^ d)) := by
      rw [Int.emod_def, Int.mul_sub, Int.mul_left_comm r (2 ^ d) (x / 2 ^ d)]; omega
    rw [e]
    exact Int.dvd_sub dv ⟨_, rfl⟩
  have := key.uniq hr h'
  have ed : x % 2 ^ d + 2 ^ d * (x / 2 ^ d) = x := by rw [Int.emod_def]; omega
  rw [this] at ed
  have q1 : 0 ≤ x / 2 ^ d := Int.ediv_nonneg a1 (by omega)
  have q2 : x / 2 ^ d < 2 := Int.ediv_lt_of_lt_mul hp (by rw [Int.mul_comm, ← e2]; exact a2)
  have : x / 2 ^ d = 0 ∨ x / 2 ^ d = 1 := by omega
  rcases this with q | q
  · rw [q, Int.mul_zero] at ed; exact .inl (by omega)
  · rw [q, Int.mul_one] at ed; exact .inr (by omega)
theorem newton {r f : Int} {a : Nat} (h : (2 : Int) ^ a ∣ 1 - r * f) : (2 : Int) ^ (a + a) ∣ 1 - r * (f * (2 - r * f)) := by
  obtain ⟨k, hk⟩ := h
  refine ⟨k * k, ?_⟩
  have e : 1 - r * (f * (2 - r * f)) = (1 - r * f) * (1 - r * f) := by
    rw [← Int.mul_assoc]
    generalize r * f = z
    have e1 : z * (2 - z) = z * 2 - z * z := Int.mul_sub ..
    have e2 : (1 - z) * (1 - z) = (1 - z) * 1 - (1 - z) * z := Int.mul_sub ..
    have e3 : (1 - z) * z = 1 * z - z * z := Int.sub_mul ..
    omega
  rw [e, hk, Int.pow_add, Int.mul_assoc, Int.mul_assoc, Int.mul_left_comm k]
theorem dvd_mod {r x m : Int} (h : m ∣ 1 - r * x) : m ∣ 1 - r * (x % m) := by
  have e : 1 - r * (x % m) = (1 - r * x) + m * (r * (x / m)) := by
    rw [Int.emod_def, Int.mul_sub, Int.mul_left_comm r m (x / m)]; omega
  rw [e]
  exact Int.dvd_add h ⟨_, rfl⟩
structure TOk (T : Tbl) : Prop where
  c : 1 ≤ T.capacity ∧ T.capacity ≤ 10 ^ 30
  r : 1 ≤ T.rate ∧ T.rate ≤ 10 ^ 30
  s : 0 ≤ T.shift ∧ T.shift ≤ 10 ^ 30
  o : T.rate % 2 = 1
theorem make_ok {c r s : Int} (T : TOk ⟨c, r, s⟩) : m_Table___init___ok c r s := by
  have tc := T.c; have tr := T.r; have ts := T.s; have to := T.o
  dsimp only at tc tr ts to
  refine ⟨whole_ok _ _ _, nwhole (by omega), whole_ok _ _ _, ?_, whole_ok _ _ _, nwhole (by omega), trivial⟩
  have e : Builtin.bitAnd r 1 = r % 2 := mask r 1
  rw [nwhole (by omega), e, to]; rfl
theorem rng7 : rng 0 7 = [0, 1, 2, 3, 4, 5, 6] := by decide +kernel
theorem pow_dvd {i j : Nat} (h : i ≤ j) : (2 : Int) ^ i ∣ 2 ^ j := ⟨2 ^ (j - i), by rw [← Int.pow_add]; congr 1; omega⟩
theorem new_step {r f : Int} {a d : Nat} (h : (2 : Int) ^ min a d ∣ 1 - r * f) : (2 : Int) ^ min (a + a) d ∣ 1 - r * (f * (2 - r * f) % 2 ^ d) := by
  have h1 : (2 : Int) ^ min (a + a) d ∣ 1 - r * (f * (2 - r * f)) := by
    refine Int.dvd_trans ?_ (newton h)
    exact pow_dvd (by omega)
  have e : 1 - r * (f * (2 - r * f) % 2 ^ d) = (1 - r * (f * (2 - r * f))) + 2 ^ d * (r * (f * (2 - r * f) / 2 ^ d)) := by
    rw [Int.emod_def, Int.mul_sub, Int.mul_left_comm r (2 ^ d) (f * (2 - r * f) / 2 ^ d)]; omega
  rw [e]
  exact Int.dvd_add h1 (Int.dvd_trans (pow_dvd (by omega)) ⟨_, rfl⟩)
theorem sm_rate {T : Tbl} (h : TOk T) : Sm 100 T.rate := sm_of (by have := h.r; omega) (by have := h.r; omega)
theorem Sp0.len {l : List (Int × Int)} (h : Sp0 l) : l.length ≤ 12 := h.1
def cnt (d : Nat) (R : Int) (x : Int × Int) : Int := (x.2 - 1 - R) / 2 ^ d - (x.1 - 1 - R) / 2 ^ d
theorem cnt_half (d : Nat) (R : Int) (x : Int × Int) : cnt (d + 1) R x + cnt (d + 1) (R + 2 ^ d) x = cnt d R x := by
  have hp := pw_pos d
  have key : ∀ y : Int, y / 2 ^ (d + 1) + (y - 2 ^ d) / 2 ^ (d + 1) = y / 2 ^ d - 1 := by
    intro y
    have e2 : (2 : Int) ^ (d + 1) = 2 ^ d * 2 := Int.pow_succ ..
    have e3 : (y - 2 ^ d) / 2 ^ d = y / 2 ^ d - 1 := by
      have := Int.add_mul_ediv_right y (-1) (Int.ne_of_gt hp)
      have e : y + -1 * 2 ^ d = y - 2 ^ d := by omega
      rw [e] at this; omega
    rw [e2, ← Int.ediv_ediv_of_nonneg (Int.le_of_lt hp), ← Int.ediv_ediv_of_nonneg (Int.le_of_lt hp), e3]
    omega
  have k1 := key (x.2 - 1 - R)
  have k2 := key (x.1 - 1 - R)
  have e1 : x.2 - 1 - R - 2 ^ d = x.2 - 1 - (R + 2 ^ d) := by omega
  have e2 : x.1 - 1 - R - 2 ^ d = x.1 - 1 - (R + 2 ^ d) := by omega
  rw [e1] at k1
  rw [e2] at k2
  unfold cnt
  omega
theorem sum_add {α : Type} (f g : α → Int) : ∀ l : List α, (l.map f).sum + (l.map g).sum = (l.map fun x => f x + g x).sum
  | [] => rfl
  | x :: l => by
    have := sum_add f g l
    simp only [List.map_cons, List.sum_cons]
    omega
theorem sum_half (d : Nat) (R : Int) (l : List (Int × Int)) : (l.map (cnt (d + 1) R)).sum + (l.map (cnt (d + 1) (R + 2 ^ d))).sum = (l.map (cnt d R)).sum := by
  rw [sum_add]
  congr 1
  exact List.map_congr_left fun x _ => cnt_half d R x
theorem cnt_join (d : Nat) (R f m e : Int) : cnt d R (f, m) + cnt d R (m, e) = cnt d R (f, e) := by unfold cnt; dsimp only; omega
theorem div_step {y m : Int} (hm : 0 < m) : y / m - (y - 1) / m = if m ∣ y then 1 else 0 := by
  have h1 : y % m + m * (y / m) = y := by rw [Int.emod_def]; omega
  have r1 := Int.emod_nonneg y (Int.ne_of_gt hm)
  have r2 := Int.emod_lt_of_pos y hm
  split
  · rename_i h
    have z : y % m = 0 := Int.emod_eq_zero_of_dvd h
    have : (y - 1) / m = y / m - 1 := by
      refine (PySem.W.kbt_unique hm (r := m - 1) ?_ (by omega) (by omega)).1
      rw [Int.mul_sub, Int.mul_one]; omega
    omega
  · rename_i h
    have z : y % m ≠ 0 := fun z => h (Int.dvd_of_emod_eq_zero z)
    have : (y - 1) / m = y / m := (PySem.W.kbt_unique hm (r := y % m - 1) (by omega) (by omega) (by omega)).1
    omega
theorem tab_tail {T : Tbl} (k d : Int) : m_Table_tail T k d = (T.rate * k + T.shift) % 2 ^ d.toNat := mask _ _
theorem sm_key {k : Int} (hk : 0 ≤ k ∧ k < 10 ^ 30) : Sm 100 k := sm_of hk.1 (by omega)
theorem tail_call_ok {T : Tbl} (hT : TOk T) {k d : Int} (hk : 0 ≤ k ∧ k < 10 ^ 30) (hd : 0 ≤ d ∧ d ≤ 100) : m_Table_tail_ok T k d :=
  ⟨key_ok hk, depth_ok hd, ⟨(sm_rate hT).cm (sm_key hk) (by decide), by omega, trivial⟩, trivial⟩
theorem pickk (b : Bag) {n : Int} (h : 0 < n) (h' : n ≤ 2 ^ 200) : m_pick_ok b n := pick_ok b h (by
  have := Sm.lg (k := 201) (sm_of (Int.le_of_lt h) (Int.lt_of_le_of_lt h' (by decide)))
  omega)
theorem nth2 {α : Type} [Inhabited α] (a b : α) {i : Int} (h : 0 ≤ i ∧ i < 2) : nth [a, b] i = a ∨ nth [a, b] i = b := by
  have : i = 0 ∨ i = 1 := by omega
  rcases this with e | e <;> subst e
  · exact .inl rfl
  · exact .inr rfl
theorem nth3 {α : Type} [Inhabited α] (a b c : α) {i : Int} (h : 0 ≤ i ∧ i < 3) : nth [a, b, c] i = a ∨ nth [a, b, c] i = b ∨ nth [a, b, c] i = c := by
  have : i = 0 ∨ i = 1 ∨ i = 2 := by omega
  rcases this with e | e | e <;> subst e
  · exact .inl rfl
  · exact .inr (.inl rfl)
  · exact .inr (.inr rfl)
theorem nth_last {α : Type} [Inhabited α] (l : List α) (x : α) : nth (l ++ [x]) ((l ++ [x]).length - 1) = x := by
  unfold nth
  have e : (((l ++ [x]).length : Int) - 1).toNat = l.length := by rw [List.length_append, List.length_singleton]; omega
  rw [e]; simp
theorem three_all (b : Bag) {most : Int} (h : 0 < most ∧ most ≤ 10 ^ 30) : m_three_ok b most ∧ TOk ⟨(m_three b most).1.1, (m_three b most).1.2.1, (m_three b most).1.2.2⟩ := by
  have p1 := pick_lt b (n := 2) (by decide)
  have n1 := nth2 (5 : Int) (5 * 10 ^ 29) p1
  have p2 := pick_lt (m_pick (m_pick (m_pick b 2).2 (nth ([5, 5 * (10 ^ 29)] : List Int) ((m_pick b 2).1))).2 most).2 (n := 2) (by decide)
  have n2 := nth2 (9 : Int) (10 ^ 30 + 1) p2
  have k1 : 0 < nth ([5, 5 * (10 ^ 29)] : List Int) ((m_pick b 2).1) ∧ nth ([5, 5 * (10 ^ 29)] : List Int) ((m_pick b 2).1) ≤ 5 * 10 ^ 29 := by
    rcases n1 with e | e <;> rw [e] <;> decide
  have k2 : 0 < nth ([9, (10 ^ 30) + 1] : List Int) ((m_pick (m_pick (m_pick (m_pick b 2).2 (nth ([5, 5 * (10 ^ 29)] : List Int) ((m_pick b 2).1))).2 most).2 2).1) ∧
      nth ([9, (10 ^ 30) + 1] : List Int) ((m_pick (m_pick (m_pick (m_pick b 2).2 (nth ([5, 5 * (10 ^ 29)] : List Int) ((m_pick b 2).1))).2 most).2 2).1) ≤ 10 ^ 30 + 1 := by
    rcases n2 with e | e <;> rw [e] <;> decide
  have r := pick_lt (m_pick b 2).2 k1.1
  have s := pick_lt (m_pick (m_pick (m_pick (m_pick b 2).2 (nth ([5, 5 * (10 ^ 29)] : List Int) ((m_pick b 2).1))).2 most).2 2).2 k2.1
  have c := pick_lt (m_pick (m_pick b 2).2 (nth ([5, 5 * (10 ^ 29)] : List Int) ((m_pick b 2).1))).2 h.1
  refine ⟨⟨pickk _ (by decide) (by decide), p1, pickk _ k1.1 (by omega), fun z hz w hw => ?_⟩, ?_⟩
  · subst hw
    exact ⟨pickk _ h.1 (by omega), pickk _ (by decide) (by decide), p2, pickk _ k2.1 (by omega), trivial⟩
  · unfold m_three
    dsimp only
    refine ⟨?_, ?_, ?_, ?_⟩ <;> dsimp only <;> omega
theorem nth_mem {α : Type} [Inhabited α] {l : List α} {i : Int} (h : 0 ≤ i ∧ i < l.length) : nth l i ∈ l := by
  unfold nth
  have hi : i.toNat < l.length := by omega
  rw [List.getD_eq_getElem?_getD, List.getElem?_eq_getElem hi]
  exact List.getElem_mem hi
theorem mem_enumI {α : Type} [Inhabited α] {l : List α} {p : Int × α} (h : p ∈ enumI l) : 0 ≤ p.1 ∧ p.1 < l.length ∧ nth l p.1 = p.2 := by
  obtain ⟨k, hk⟩ := List.mem_iff_getElem?.mp h
  rw [enumI_at] at hk
  cases q : l[k]? with
  | none => rw [q] at hk; cases hk
  | some x =>
    rw [q] at hk; cases hk
    have := (List.getElem?_eq_some_iff.mp q).1
    refine ⟨by show 0 ≤ (k : Int); omega, by show (k : Int) < _; omega, ?_⟩
    show l.getD ((k : Int)).toNat default = x
    have e : ((k : Int)).toNat = k := by omega
    rw [e, List.getD_eq_getElem?_getD, q]; rfl
theorem cut_take {α : Type} (l : List α) {k : Int} (h : 0 ≤ k ∧ k ≤ l.length) : cutL l none (some k) = l.take k.toNat := by
  unfold cutL HT.sIx
  dsimp only
  rw [if_neg (by omega), Nat.sub_zero, List.drop_zero]
  congr 1; omega
theorem cut_drop {α : Type} (l : List α) {k : Int} (h : 0 ≤ k ∧ k ≤ l.length) : cutL l (some k) none = l.drop k.toNat := by
  unfold cutL HT.sIx
  dsimp only
  rw [if_neg (by omega)]
  have e : min k.toNat l.length = k.toNat := by omega
  rw [e]
  exact List.take_of_length_le (by rw [List.length_drop]; omega)
theorem part {α : Type} [Inhabited α] (l : List α) {k : Int} (h : 0 ≤ k ∧ k < l.length) : l = l.take k.toNat ++ nth l k :: l.drop (k + 1).toNat := by
  have hk : k.toNat < l.length := by omega
  have e : (k + 1).toNat = k.toNat + 1 := by omega
  have e2 : nth l k = l[k.toNat] := by
    unfold nth
    rw [List.getD_eq_getElem?_getD, List.getElem?_eq_getElem hk]; rfl
  rw [e, e2, ← List.drop_eq_getElem_cons hk, List.take_append_drop]
theorem SpC.cut : ∀ {l : List (Int × Int)} {a b : Int} {x : Int × Int} {m : List (Int × Int)}, SpC a (l ++ x :: m) b → ∃ c, SpC a l c ∧ c ≤ x.1 ∧ x.1 < x.2 ∧ SpC x.2 m b
  | [], a, _, _, _, h => ⟨a, rfl, h⟩
  | y :: l, _, _, _, _, h => by
    obtain ⟨c, h1, h2⟩ := SpC.cut (l := l) h.2.2
    exact ⟨c, ⟨h.1, h.2.1, h1⟩, h2⟩
theorem nd {p : Prop} [Decidable p] (h : p) : (!decide p) = false := by rw [decide_eq_true h]; rfl
theorem tail_mem {d t x : Int} (hd : 0 ≤ d) (ht : 0 ≤ t ∧ t < 2 ^ d.toNat) (h : x ∈ ([0, 1 * 2 ^ d.toNat] : List Int)) : 0 ≤ t + x ∧ t + x < 2 ^ (d + 1).toNat := by
  have e : (d + 1).toNat = d.toNat + 1 := by omega
  rw [e, Int.pow_succ]
  rcases List.mem_cons.mp h with z | z
  · omega
  · rcases List.mem_cons.mp z with z | z
    · rw [pw_eq] at z; omega
    · cases z
theorem t510 : TOk ⟨5, 1, 0⟩ := ⟨by decide, by decide, by decide, by decide⟩
theorem tbig : TOk ⟨1, 10 ^ 30 - 1, 10 ^ 30⟩ := ⟨by decide, by decide, by decide, by decide⟩
end My
end
section
set_option maxRecDepth 100000
namespace My
open PySem L2 Fw
theorem Sm.l {k : Nat} {x : Int} (h : Sm k x) (z : k < 1000) : x.natAbs.log2 < 1000 := Nat.lt_of_le_of_lt h.lg z
theorem Sm.l2 {k : Nat} {x : Int} (h : Sm k x) (z : k < 1920) : x.natAbs.log2 < 1920 := Nat.lt_of_le_of_lt h.lg z
/-- the last digits, digit by digit -/
theorem tail_eq (v : Int) {d : Int} (hd : 0 ≤ d ∧ d ≤ 100) : m_tail_ok v d ∧ m_tail v d = v % 2 ^ d.toNat := by
  have hx : ∀ i : Nat, ((i : Int)).toNat = i := fun i => by omega
  have key : ∀ (m n : Nat) (f : Int), okF m_tail_o1 m_tail_b1 (f, v / 2 ^ n) ((List.range' n m).map fun k : Nat => (k : Int)) ∨ 100 < n + m := by
    intro m
    induction m with
    | zero => exact fun n f => .inl trivial
    | succ m ih =>
      intro n f
      by_cases hn : 100 < n + (m + 1)
      · exact .inr hn
      · refine .inl ?_
        rw [List.range'_succ, List.map_cons]
        have e : m_tail_b1 (f, v / 2 ^ n) (n : Int) = (f + v / 2 ^ n % 2 * 2 ^ n, v / 2 ^ (n + 1)) := by
          show (f + v / 2 ^ n % 2 * 2 ^ ((n : Int)).toNat, v / 2 ^ n / 2) = _
          rw [hx, Int.ediv_ediv_of_nonneg (Int.le_of_lt (pw_pos n)), Int.pow_succ]
        refine ⟨⟨⟨by omega, ?_⟩, fun _ _ _ _ => trivial⟩, ?_⟩
        · show ((Builtin.Int.intBits (v / 2 ^ n % 2) : Nat) : Int) + (n : Int) ≤ 2 ^ 27
          have : v / 2 ^ n % 2 = 0 ∨ v / 2 ^ n % 2 = 1 := by omega
          have e0 : Builtin.Int.intBits 0 ≤ 1 := by decide
          have e1 : Builtin.Int.intBits 1 ≤ 1 := by decide
          have e7 : (2 : Int) ^ 27 = 134217728 := by decide
          rw [e7]
          rcases this with z | z <;> rw [z] <;> omega
        · rw [e]
          rcases ih (n + 1) (f + v / 2 ^ n % 2 * 2 ^ n) with z | z
          · exact z
          · omega
  have key2 : ∀ (m n : Nat) (f : Int), f = v % 2 ^ n → (((List.range' n m).map fun k : Nat => (k : Int)).foldl m_tail_b1 (f, v / 2 ^ n)).1 = v % 2 ^ (n + m) := by
    intro m
    induction m with
    | zero => exact fun n f h => h
    | succ m ih =>
      intro n f h
      rw [List.range'_succ, List.map_cons, List.foldl_cons]
      have e : m_tail_b1 (f, v / 2 ^ n) (n : Int) = (f + v / 2 ^ n % 2 * 2 ^ n, v / 2 ^ (n + 1)) := by
        show (f + v / 2 ^ n % 2 * 2 ^ ((n : Int)).toNat, v / 2 ^ n / 2) = _
        rw [hx, Int.ediv_ediv_of_nonneg (Int.le_of_lt (pw_pos n)), Int.pow_succ]
      have hp := pw_pos n
      have st : f + v / 2 ^ n % 2 * 2 ^ n = v % 2 ^ (n + 1) := by
        have h1 : v % 2 ^ n + 2 ^ n * (v / 2 ^ n) = v := by rw [Int.emod_def]; omega
        have r1 := Int.emod_nonneg v (Int.ne_of_gt hp)
        have r2 := Int.emod_lt_of_pos v hp
        have ep : (2 : Int) ^ (n + 1) = 2 ^ n * 2 := Int.pow_succ ..
        have q : v / 2 ^ n = 2 * (v / 2 ^ n / 2) + v / 2 ^ n % 2 := by omega
        generalize v / 2 ^ n = q0 at *
        have u := PySem.W.kbt_unique (a := v) (b := 2 ^ (n + 1)) (q := q0 / 2) (r := v % 2 ^ n + q0 % 2 * 2 ^ n) (pw_pos _) (by
          rw [ep]
          have e1 : 2 ^ n * 2 * (q0 / 2) = 2 ^ n * (2 * (q0 / 2)) := Int.mul_assoc ..
          have e2 : 2 ^ n * q0 = 2 ^ n * (2 * (q0 / 2)) + 2 ^ n * (q0 % 2) := by rw [← Int.mul_add]; congr 1
          have e3 : q0 % 2 * 2 ^ n = 2 ^ n * (q0 % 2) := Int.mul_comm ..
          omega) (by
          have : q0 % 2 = 0 ∨ q0 % 2 = 1 := by omega
          rcases this with z | z <;> rw [z] <;> omega) (by
          rw [ep]
          have : q0 % 2 = 0 ∨ q0 % 2 = 1 := by omega
          rcases this with z | z <;> rw [z] <;> omega)
        rw [h]; exact u.2.symm
      rw [e, ih (n + 1) _ st]
      congr 2; omega
  have er : rng 0 d = (List.range' 0 d.toNat).map fun k : Nat => (k : Int) := by
    unfold rng
    rw [List.range_eq_range', Int.sub_zero]
    exact List.map_congr_left fun k _ => by omega
  have e0 : v / 2 ^ 0 = v := by rw [Int.pow_zero, Int.ediv_one]
  refine ⟨fun z hz w hw => ?_, ?_⟩
  · subst hz hw
    refine ⟨by omega, ?_, fun _ _ => trivial⟩
    have k := key d.toNat 0 0
    rw [e0, ← er] at k
    exact k.resolve_right (by omega)
  · have k := key2 d.toNat 0 0 (by rw [Int.pow_zero, Int.emod_one])
    rw [e0, ← er, Nat.zero_add] at k
    exact k
theorem eq_tbl (T U : Tbl) : m_Table___eq__ T U = decide ((T.capacity, T.rate, T.shift) = (U.capacity, U.rate, U.shift)) := rfl
theorem eq_ok (T U : Tbl) : m_Table___eq___ok T U := ⟨fun _ => trivial, fun _ => ⟨trivial, trivial, trivial⟩⟩
theorem value_sm {T : Tbl} (hT : TOk T) {k : Int} (hk : 0 ≤ k ∧ k < 10 ^ 30) : Sm 201 (T.rate * k + T.shift) := by
  have hs := hT.s
  exact Sm.add ((sm_rate hT).mul (sm_key hk)) (Sm.mono (sm_of (k := 101) hs.1 (by omega)) (by decide))
theorem body2 {t : Int × Int × Int} (hT : TOk ⟨t.1, t.2.1, t.2.2⟩) {k : Int} (hk : 0 ≤ k ∧ k < 10 ^ 30) {d : Int} (hd : 0 ≤ d ∧ d ≤ 100) (u : Unit) : m_right_o2 t ⟨t.1, t.2.1, t.2.2⟩ k u d := by
  have v := value_sm hT hk
  obtain ⟨h1, h2⟩ := tail_eq (t.2.1 * k + t.2.2) hd
  have tt : m_Table_tail ⟨t.1, t.2.1, t.2.2⟩ k d = (t.2.1 * k + t.2.2) % 2 ^ d.toNat := tab_tail k d
  have hp := pw_pos d.toNat
  have s3 : Sm 101 ((t.2.1 * k + t.2.2) % 2 ^ d.toNat) := sm_of (Int.emod_nonneg _ (Int.ne_of_gt hp)) (Int.lt_of_lt_of_le (Int.emod_lt_of_pos _ hp) (pw_lt (by omega)))
  refine ⟨tail_call_ok hT hk hd, by rw [tt]; exact s3.l2 (by decide), (sm_rate hT).cm (sm_key hk) (by decide), h1, by rw [h2]; exact s3.l2 (by decide), nd (by rw [tt, h2]), trivial⟩
theorem body1 {t : Int × Int × Int} (hT : TOk ⟨t.1, t.2.1, t.2.2⟩) {k : Int} (hk : 0 ≤ k ∧ k < 10 ^ 30) (b : Bag) : m_right_o1 t ⟨t.1, t.2.1, t.2.2⟩ b k := by
  have v := value_sm hT hk
  have p := pick_lt b (n := 101) (by decide)
  refine ⟨⟨key_ok hk, (sm_rate hT).cm (sm_key hk) (by decide), trivial⟩, v.l2 (by decide), (sm_rate hT).cm (sm_key hk) (by decide), v.l2 (by decide), nd rfl, pickk _ (by decide) (by decide), ?_, fun _ _ => trivial⟩
  refine (okF_I (fun _ => True) trivial fun s x hx _ => ⟨body2 hT hk ?_ s, trivial⟩).1
  rcases List.mem_cons.mp hx with e | hx
  · omega
  rcases List.mem_cons.mp hx with e | hx
  · omega
  rcases List.mem_cons.mp hx with e | hx
  · omega
  rcases List.mem_cons.mp hx with e | hx
  · omega
  cases hx
theorem body3 {t : Int × Int × Int} {x : Int × Int × Int} (hX : TOk ⟨x.1, x.2.1, x.2.2⟩) (u : Unit) : m_right_o3 t ⟨t.1, t.2.1, t.2.2⟩ u x := by
  refine ⟨make_ok hX, eq_ok _ _, nd ?_, trivial⟩
  congr 1
  rw [eq_tbl]
  dsimp only
  rw [decide_eq_decide]
  exact ⟨fun h => h.symm, fun h => h.symm⟩
theorem right_all (b : Bag) : m_right_ok b ∧ (m_right b).1 = true := by
  refine ⟨?_, rfl⟩
  obtain ⟨h1, hT⟩ := three_all b (most := 10 ^ 30) (by decide)
  refine ⟨h1, fun t ht b1 hb1 => ?_⟩
  rw [← ht] at hT
  have tc := hT.c; have tr := hT.r; have ts := hT.s; have to := hT.o
  dsimp only at tc tr ts to
  have p1 := pick_lt b1 (n := 10 ^ 30) (by decide)
  have p2 := pick_lt (m_pick b1 (10 ^ 30)).2 (n := 100) (by decide)
  refine ⟨make_ok hT, fun T hTe => ?_⟩
  subst hTe
  have rp : ReprF (PyData.list (List.map (fun y : Int => PyData.int y) ([t.1, t.2.1, t.2.2] : List Int))) := repr_ints (fun i hi => by
    have s : Sm 101 i := by
      refine sm_of ?_ ?_ <;>
      · rcases List.mem_cons.mp hi with e | hi
        · omega
        rcases List.mem_cons.mp hi with e | hi
        · omega
        rcases List.mem_cons.mp hi with e | hi
        · omega
        cases hi
    exact s.l (by decide)) (by simp only [List.length_cons, List.length_nil]; omega)
  refine ⟨rp, rp, nd rfl, pickk _ (by decide) (by decide), pickk _ (by decide) (by decide), ?_, fun _ _ o ho => ⟨by subst ho; simp only [List.length_cons, List.length_nil]; omega, ?_, fun _ _ q hq => ⟨fun _ _ => trivial, by subst hq; simp only [List.length_cons, List.length_nil]; omega, by subst hq; rfl, trivial⟩⟩⟩
  · refine (okF_I (fun _ => True) trivial fun s x hx _ => ⟨body1 hT ?_ s, trivial⟩).1
    rcases List.mem_cons.mp hx with e | hx
    · omega
    rcases List.mem_cons.mp hx with e | hx
    · omega
    rcases List.mem_cons.mp hx with e | hx
    · omega
    rcases List.mem_cons.mp hx with e | hx
    · omega
    rcases List.mem_cons.mp hx with e | hx
    · omega
    cases hx
  · subst ho
    have mx : max2 1 (t.2.1 - 2) = if 3 ≤ t.2.1 then t.2.1 - 2 else 1 := by unfold max2; split <;> split <;> omega
    refine (okF_I (fun _ => True) trivial fun s x hx _ => ⟨body3 ?_ s, trivial⟩).1
    rcases List.mem_append.mp hx with hx | hx
    · rcases List.mem_cons.mp hx with e | hx
      · subst e; exact hT
      rcases List.mem_cons.mp hx with e | hx
      · subst e; exact ⟨by dsimp only; omega, tr, ts, to⟩
      rcases List.mem_cons.mp hx with e | hx
      · subst e
        refine ⟨tc, ?_, ts, ?_⟩ <;> dsimp only <;> rw [mx] <;> split <;> omega
      cases hx
    · rcases List.mem_cons.mp hx with e | hx
      · subst e; exact ⟨tc, tr, by dsimp only; omega, to⟩
      cases hx
theorem law_loop (l : List Int) : okF m_law_o1 m_law_b1 () l :=
  (okF_I (fun _ => True) trivial fun s x _ _ => ⟨⟨trivial, fun b _ => ⟨(okF_I (fun _ => True) trivial fun s x _ _ => ⟨⟨(right_all s).1, by rw [(right_all s).2]; rfl, fun _ _ => trivial⟩, trivial⟩).1, fun _ _ => trivial⟩⟩, trivial⟩).1
theorem t210 : TOk ⟨2, 1, 0⟩ := ⟨by decide, by decide, by decide, by decide⟩
theorem t253 : TOk ⟨2, 5, 3⟩ := ⟨by decide, by decide, by decide, by decide⟩
theorem law_ok_all (ns : List Int) (hl : ns.length ≤ 63) (hb : ∀ z ∈ ns, Builtin.Int.intBits z ≤ 1048576) : m_law_ok ns := by
  have hc : (cutL ns none (some 6)).length ≤ 63 := by
    unfold cutL
    rw [List.length_take, List.length_drop]; omega
  refine ⟨?_, law_loop _, fun _ _ => ⟨make_ok t210, make_ok t253, fun T hT U hU => ?_⟩⟩
  · simp only [List.length_cons, List.length_nil]; omega
  · subst hT hU
    exact ⟨⟨key_ok (by decide), (sm_rate t253).cm (sm_key (by decide)) (by decide), trivial⟩, tail_call_ok t253 (by decide) (by decide), tail_call_ok t210 (by decide) (by decide), eq_ok _ _, trivial⟩
theorem law_true (ns : List Int) (hl : ns.length ≤ 63) (hb : ∀ z ∈ ns, Builtin.Int.intBits z ≤ 1048576) : m_law ns = true := by
  unfold m_law
  dsimp only
  decide +kernel
end My
end
section
set_option maxRecDepth 100000
namespace My
open PySem L2 Fw
abbrev s_p_capacity : Stmt := inClass (top 15) 1
theorem sc_p_capacity : FnScope ["self"] ["self"] (defScope s_p_capacity) := ⟨rfl, rfl, rfl, by decide +kernel, rfl, by decide +kernel, by decide +kernel⟩
abbrev s_p_rate : Stmt := inClass (top 15) 2
theorem sc_p_rate : FnScope ["self"] ["self"] (defScope s_p_rate) := ⟨rfl, rfl, rfl, by decide +kernel, rfl, by decide +kernel, by decide +kernel⟩
abbrev s_p_shift : Stmt := inClass (top 15) 3
theorem sc_p_shift : FnScope ["self"] ["self"] (defScope s_p_shift) := ⟨rfl, rfl, rfl, by decide +kernel, rfl, by decide +kernel, by decide +kernel⟩

theorem all_mk {l : PySem.W.OpenLaw} {w : World} {K : PySem.W.Frag} {h : Heap} {mg : Str → Option Value} {fa : Addr} (X : K.In h) (G : h.Ns mainGlobals mg) (hfa : mg "law" = some (.ref fa)) {C a_is_int a_is_whole a_require_key a_require_depth a_Table___init__ a_Table_value a_numbers_of a_Table___eq__ a_Table___eq__2 a_tail_of a_Table_tail a_bag a_pick a_three a_tail a_right a_law p_capacity g_capacity p_rate g_rate p_shift g_shift : Addr}
    {od0 an0 od1 an1 od2 an2 od3 an3 od4 an4 od5 an5 od6 an6 od7 an7 od8 an8 od9 an9 od10 an10 od11 an11 od12 an12 od13 an13 od14 an14 od15 an15 od16 an16 od17 an17 od18 an18 od19 an19 : Option Addr} {sl0 sl1 sl2 sl3 sl4 sl5 sl6 sl7 sl8 sl9 sl10 sl11 sl12 sl13 sl14 sl15 sl16 sl17 sl18 sl19 : Array (Option Value)} {oc0 kV0 dc0 pm0 cd0 ct0 oc1 kV1 dc1 pm1 cd1 ct1 oc2 kV2 dc2 pm2 cd2 ct2 oc3 kV3 dc3 pm3 cd3 ct3 oc4 kV4 dc4 pm4 cd4 ct4 oc5 kV5 dc5 pm5 cd5 ct5 oc6 kV6 dc6 pm6 cd6 ct6 oc7 kV7 dc7 pm7 cd7 ct7 oc8 kV8 dc8 pm8 cd8 ct8 oc9 kV9 dc9 pm9 cd9 ct9 oc10 kV10 dc10 pm10 cd10 ct10 oc11 kV11 dc11 pm11 cd11 ct11 oc12 kV12 dc12 pm12 cd12 ct12 oc13 kV13 dc13 pm13 cd13 ct13 oc14 kV14 dc14 pm14 cd14 ct14 oc15 kV15 dc15 pm15 cd15 ct15 oc16 kV16 dc16 pm16 cd16 ct16 oc17 kV17 dc17 pm17 cd17 ct17 oc18 kV18 dc18 pm18 cd18 ct18 oc19 kV19 dc19 pm19 cd19 ct19 : Value} {rs_capacity rs_rate rs_shift : List Value}
    (aC : PySem.W.nsIn K mainGlobals "Table" = some (some (.ref C)))
    (at_is_int : PySem.W.nsIn K mainGlobals "is_int" = some (some (.ref a_is_int)))
    (lk_is_int : K.lookup a_is_int = some ⟨oc0, od0, .func (PySem.W.fnOf "is_int" "is_int" (defArgs s_is_int) (defBody s_is_int) (defScope s_is_int) .none kV0 dc0 pm0 an0 cd0 ct0), sl0⟩)
    (cd_is_int : PySem.W.codeIn K cd0 "is_int" = true)
    (kp_is_int : PySem.W.keepIn K (.ref a_is_int) = true)
    (at_is_whole : PySem.W.nsIn K mainGlobals "is_whole" = some (some (.ref a_is_whole)))
    (lk_is_whole : K.lookup a_is_whole = some ⟨oc1, od1, .func (PySem.W.fnOf "is_whole" "is_whole" (defArgs s_is_whole) (defBody s_is_whole) (defScope s_is_whole) .none kV1 dc1 pm1 an1 cd1 ct1), sl1⟩)
    (cd_is_whole : PySem.W.codeIn K cd1 "is_whole" = true)
    (kp_is_whole : PySem.W.keepIn K (.ref a_is_whole) = true)
    (at_require_key : PySem.W.nsIn K mainGlobals "require_key" = some (some (.ref a_require_key)))
    (lk_require_key : K.lookup a_require_key = some ⟨oc2, od2, .func (PySem.W.fnOf "require_key" "require_key" (defArgs s_require_key) (defBody s_require_key) (defScope s_require_key) .none kV2 dc2 pm2 an2 cd2 ct2), sl2⟩)
    (cd_require_key : PySem.W.codeIn K cd2 "require_key" = true)
    (kp_require_key : PySem.W.keepIn K (.ref a_require_key) = true)
    (at_require_depth : PySem.W.nsIn K mainGlobals "require_depth" = some (some (.ref a_require_depth)))
    (lk_require_depth : K.lookup a_require_depth = some ⟨oc3, od3, .func (PySem.W.fnOf "require_depth" "require_depth" (defArgs s_require_depth) (defBody s_require_depth) (defScope s_require_depth) .none kV3 dc3 pm3 an3 cd3 ct3), sl3⟩)
    (cd_require_depth : PySem.W.codeIn K cd3 "require_depth" = true)
    (kp_require_depth : PySem.W.keepIn K (.ref a_require_depth) = true)
    (at_Table___init__ : PySem.W.findIn K (.ref C) "__init__" = some (some (.ref a_Table___init__)))
    (fn_Table___init__ : PySem.W.isFn K (.ref a_Table___init__) = true)
    (lk_Table___init__ : K.lookup a_Table___init__ = some ⟨oc4, od4, .func (PySem.W.fnOf "__init__" "Table.__init__" (defArgs s_Table___init__) (defBody s_Table___init__) (defScope s_Table___init__) .none kV4 dc4 pm4 an4 cd4 ct4), sl4⟩)
    (cd_Table___init__ : PySem.W.codeIn K cd4 "Table.__init__" = true)
    (kp_Table___init__ : PySem.W.keepIn K (.ref a_Table___init__) = true)
    (at_Table_value : PySem.W.findIn K (.ref C) "value" = some (some (.ref a_Table_value)))
    (fn_Table_value : PySem.W.isFn K (.ref a_Table_value) = true)
    (lk_Table_value : K.lookup a_Table_value = some ⟨oc5, od5, .func (PySem.W.fnOf "value" "Table.value" (defArgs s_Table_value) (defBody s_Table_value) (defScope s_Table_value) .none kV5 dc5 pm5 an5 cd5 ct5), sl5⟩)
    (cd_Table_value : PySem.W.codeIn K cd5 "Table.value" = true)
    (kp_Table_value : PySem.W.keepIn K (.ref a_Table_value) = true)
    (at_numbers_of : PySem.W.nsIn K mainGlobals "numbers_of" = some (some (.ref a_numbers_of)))
    (lk_numbers_of : K.lookup a_numbers_of = some ⟨oc6, od6, .func (PySem.W.fnOf "numbers_of" "numbers_of" (defArgs s_numbers_of) (defBody s_numbers_of) (defScope s_numbers_of) .none kV6 dc6 pm6 an6 cd6 ct6), sl6⟩)
    (cd_numbers_of : PySem.W.codeIn K cd6 "numbers_of" = true)
    (kp_numbers_of : PySem.W.keepIn K (.ref a_numbers_of) = true)
    (at_Table___eq__ : PySem.W.findIn K (.ref C) "__eq__" = some (some (.ref a_Table___eq__)))
    (fn_Table___eq__ : PySem.W.isFn K (.ref a_Table___eq__) = true)
    (lk_Table___eq__ : K.lookup a_Table___eq__ = some ⟨oc7, od7, .func (PySem.W.fnOf "__eq__" "Table.__eq__" (defArgs s_Table___eq__) (defBody s_Table___eq__) (defScope s_Table___eq__) .none kV7 dc7 pm7 an7 cd7 ct7), sl7⟩)
    (cd_Table___eq__ : PySem.W.codeIn K cd7 "Table.__eq__" = true)
    (kp_Table___eq__ : PySem.W.keepIn K (.ref a_Table___eq__) = true)
    (at_Table___eq__2 : PySem.W.findIn K (.ref C) "__eq__" = some (some (.ref a_Table___eq__2)))
    (fn_Table___eq__2 : PySem.W.isFn K (.ref a_Table___eq__2) = true)
    (lk_Table___eq__2 : K.lookup a_Table___eq__2 = some ⟨oc8, od8, .func (PySem.W.fnOf "__eq__" "Table.__eq__" (defArgs s_Table___eq__2) (defBody s_Table___eq__2) (defScope s_Table___eq__2) .none kV8 dc8 pm8 an8 cd8 ct8), sl8⟩)
    (cd_Table___eq__2 : PySem.W.codeIn K cd8 "Table.__eq__" = true)
    (kp_Table___eq__2 : PySem.W.keepIn K (.ref a_Table___eq__2) = true)
    (at_tail_of : PySem.W.nsIn K mainGlobals "tail_of" = some (some (.ref a_tail_of)))
    (lk_tail_of : K.lookup a_tail_of = some ⟨oc9, od9, .func (PySem.W.fnOf "tail_of" "tail_of" (defArgs s_tail_of) (defBody s_tail_of) (defScope s_tail_of) .none kV9 dc9 pm9 an9 cd9 ct9), sl9⟩)
    (cd_tail_of : PySem.W.codeIn K cd9 "tail_of" = true)
    (kp_tail_of : PySem.W.keepIn K (.ref a_tail_of) = true)
    (at_Table_tail : PySem.W.findIn K (.ref C) "tail" = some (some (.ref a_Table_tail)))
    (fn_Table_tail : PySem.W.isFn K (.ref a_Table_tail) = true)
    (lk_Table_tail : K.lookup a_Table_tail = some ⟨oc10, od10, .func (PySem.W.fnOf "tail" "Table.tail" (defArgs s_Table_tail) (defBody s_Table_tail) (defScope s_Table_tail) .none kV10 dc10 pm10 an10 cd10 ct10), sl10⟩)
    (cd_Table_tail : PySem.W.codeIn K cd10 "Table.tail" = true)
    (kp_Table_tail : PySem.W.keepIn K (.ref a_Table_tail) = true)
    (at_bag : PySem.W.nsIn K mainGlobals "_law_bag" = some (some (.ref a_bag)))
    (lk_bag : K.lookup a_bag = some ⟨oc11, od11, .func (PySem.W.fnOf "_law_bag" "_law_bag" (defArgs s_bag) (defBody s_bag) (defScope s_bag) .none kV11 dc11 pm11 an11 cd11 ct11), sl11⟩)
    (cd_bag : PySem.W.codeIn K cd11 "_law_bag" = true)
    (kp_bag : PySem.W.keepIn K (.ref a_bag) = true)
    (at_pick : PySem.W.nsIn K mainGlobals "_law_pick" = some (some (.ref a_pick)))
    (lk_pick : K.lookup a_pick = some ⟨oc12, od12, .func (PySem.W.fnOf "_law_pick" "_law_pick" (defArgs s_pick) (defBody s_pick) (defScope s_pick) .none kV12 dc12 pm12 an12 cd12 ct12), sl12⟩)
    (cd_pick : PySem.W.codeIn K cd12 "_law_pick" = true)
    (kp_pick : PySem.W.keepIn K (.ref a_pick) = true)
    (at_three : PySem.W.nsIn K mainGlobals "_law_three" = some (some (.ref a_three)))
    (lk_three : K.lookup a_three = some ⟨oc13, od13, .func (PySem.W.fnOf "_law_three" "_law_three" (defArgs s_three) (defBody s_three) (defScope s_three) .none kV13 dc13 pm13 an13 cd13 ct13), sl13⟩)
    (cd_three : PySem.W.codeIn K cd13 "_law_three" = true)
    (kp_three : PySem.W.keepIn K (.ref a_three) = true)
    (at_tail : PySem.W.nsIn K mainGlobals "_law_tail" = some (some (.ref a_tail)))
    (lk_tail : K.lookup a_tail = some ⟨oc14, od14, .func (PySem.W.fnOf "_law_tail" "_law_tail" (defArgs s_tail) (defBody s_tail) (defScope s_tail) .none kV14 dc14 pm14 an14 cd14 ct14), sl14⟩)
    (cd_tail : PySem.W.codeIn K cd14 "_law_tail" = true)
    (kp_tail : PySem.W.keepIn K (.ref a_tail) = true)
    (at_right : PySem.W.nsIn K mainGlobals "_law_right" = some (some (.ref a_right)))
    (lk_right : K.lookup a_right = some ⟨oc15, od15, .func (PySem.W.fnOf "_law_right" "_law_right" (defArgs s_right) (defBody s_right) (defScope s_right) .none kV15 dc15 pm15 an15 cd15 ct15), sl15⟩)
    (cd_right : PySem.W.codeIn K cd15 "_law_right" = true)
    (kp_right : PySem.W.keepIn K (.ref a_right) = true)
    (at_law : PySem.W.nsIn K mainGlobals "law" = some (some (.ref a_law)))
    (lk_law : K.lookup a_law = some ⟨oc16, od16, .func (PySem.W.fnOf "law" "law" (defArgs s_law) (defBody s_law) (defScope s_law) .none kV16 dc16 pm16 an16 cd16 ct16), sl16⟩)
    (cd_law : PySem.W.codeIn K cd16 "law" = true)
    (kp_law : PySem.W.keepIn K (.ref a_law) = true)
    (pa_capacity : PySem.W.findIn K (.ref C) "capacity" = some (some (.ref p_capacity)))
    (pg_capacity : PySem.W.specialIn K (.ref p_capacity) "__get__" = some (some (.builtin "property.__get__")))
    (pt_capacity : PySem.W.takesIn K (.ref p_capacity) = some true)
    (pr_capacity : PySem.W.recIn K p_capacity "property" = some (.ref g_capacity :: rs_capacity))
    (pl_capacity : K.lookup g_capacity = some ⟨oc17, od17, .func (PySem.W.fnOf "capacity" "Table.capacity" (defArgs s_p_capacity) (defBody s_p_capacity) (defScope s_p_capacity) .none kV17 dc17 pm17 an17 cd17 ct17), sl17⟩)
    (pc_capacity : PySem.W.codeIn K cd17 "Table.capacity" = true)
    (pk_capacity : PySem.W.keepIn K (.ref g_capacity) = true)
    (pa_rate : PySem.W.findIn K (.ref C) "rate" = some (some (.ref p_rate)))
    (pg_rate : PySem.W.specialIn K (.ref p_rate) "__get__" = some (some (.builtin "property.__get__")))
    (pt_rate : PySem.W.takesIn K (.ref p_rate) = some true)
    (pr_rate : PySem.W.recIn K p_rate "property" = some (.ref g_rate :: rs_rate))
    (pl_rate : K.lookup g_rate = some ⟨oc18, od18, .func (PySem.W.fnOf "rate" "Table.rate" (defArgs s_p_rate) (defBody s_p_rate) (defScope s_p_rate) .none kV18 dc18 pm18 an18 cd18 ct18), sl18⟩)
    (pc_rate : PySem.W.codeIn K cd18 "Table.rate" = true)
    (pk_rate : PySem.W.keepIn K (.ref g_rate) = true)
    (pa_shift : PySem.W.findIn K (.ref C) "shift" = some (some (.ref p_shift)))
    (pg_shift : PySem.W.specialIn K (.ref p_shift) "__get__" = some (some (.builtin "property.__get__")))
    (pt_shift : PySem.W.takesIn K (.ref p_shift) = some true)
    (pr_shift : PySem.W.recIn K p_shift "property" = some (.ref g_shift :: rs_shift))
    (pl_shift : K.lookup g_shift = some ⟨oc19, od19, .func (PySem.W.fnOf "shift" "Table.shift" (defArgs s_p_shift) (defBody s_p_shift) (defScope s_p_shift) .none kV19 dc19 pm19 an19 cd19 ct19), sl19⟩)
    (pc_shift : PySem.W.codeIn K cd19 "Table.shift" = true)
    (pk_shift : PySem.W.keepIn K (.ref g_shift) = true)
    (oc : PySem.W.isClsIn K C = true)
    (ot : PySem.W.typeIn K (.ref C) = some (.type "type"))
    (os0 : PySem.W.subIn K (.type "NoneType") (.ref C) = some false)
    (os1 : PySem.W.subIn K (.type "int") (.ref C) = some false)
    (os2 : PySem.W.subIn K (.type "bool") (.ref C) = some false)
    (os3 : PySem.W.subIn K (.type "str") (.ref C) = some false)
    (os4 : PySem.W.subIn K (.type "tuple") (.ref C) = some false)
    (os5 : PySem.W.subIn K (.type "list") (.ref C) = some false)
    (os6 : PySem.W.subIn K (.type "dict") (.ref C) = some false)
    (pg : PySem.W.plainGet K C Str.empty = true)
    (hd : PySem.W.hasDictIn K C = true)
    (po : PySem.W.plainOver K C = true)
    (sa : PySem.W.findIn K (.ref C) "__setattr__" = some (some (.builtin "object.__setattr__")))
    (mk : PySem.W.makesIn K C = true)
    (kc : PySem.W.keepIn K (.ref C) = true)
    (nC : PySem.W.findIn K (.ref C) "own_capacity" = some none)
    (nR : PySem.W.findIn K (.ref C) "own_rate" = some none)
    (nS : PySem.W.findIn K (.ref C) "own_shift" = some none)
    (xa : PySem.W.findIn K (.ref C) "__class__" = some (some (.builtin "object.__class__")))
    (xb : PySem.W.specialIn K (.builtin "object.__class__") "__get__" = some (some (.builtin "getset_descriptor.__get__")))
    (xc : PySem.W.takesIn K (.builtin "object.__class__") = some true)
    (xd : PySem.W.mroIn K C (.type "object") = some true)
    (zn_bool : PySem.W.nsIn K mainGlobals "bool" = some none)
    (zn_int : PySem.W.nsIn K mainGlobals "int" = some none)
    (zn_isinstance : PySem.W.nsIn K mainGlobals "isinstance" = some none)
    (zn_max : PySem.W.nsIn K mainGlobals "max" = some none)
    (zn_range : PySem.W.nsIn K mainGlobals "range" = some none)
    (zn_repr : PySem.W.nsIn K mainGlobals "repr" = some none)
    (zc_MOST_DEPTH : ∃ t, PySem.W.nsIn K mainGlobals "MOST_DEPTH" = some (some (.int 100 t)))
    (zc_MOST_KEY : ∃ t, PySem.W.nsIn K mainGlobals "MOST_KEY" = some (some (.int 1000000000000000000000000000000 t)))
    : ∃ fd : FuncData, (∀ (s : Shared) (v : Value), BindsTo s fd ⟨[v], []⟩ [("_law_script", v)]) ∧ ∀ base : Heap, K.In base → base.Ns mainGlobals mg → FnG l.prog w K mg base CX0 6 fa fd ["_law_script"] (sp_law K default) := by
  have e := hfa.symm.trans (PySem.W.mg_of X G at_law)
  cases e
  have TT : TblTxt K mg C := ⟨⟨pg, hd, po, sa⟩, nC, nR, nS, PySem.W.mg_of X G aC, if_pos (beq_self_eq_true _), xa, xb, xc, xd⟩
  have NO : OddNo K C := ⟨oc, ot, os0, os1, os2, os3, os4, os5, os6⟩
  have P_capacity : PropOf K C "capacity" p_capacity g_capacity := ⟨pa_capacity, pg_capacity, pt_capacity, _, pr_capacity⟩
  have O_capacity : ∀ base : Heap, FnOk l.prog w K mg base CX0 1 g_capacity _ ["self"] (getSp C "own_capacity") := fun base => fn_getter (CX := CX0) (k := 0) pl_capacity pc_capacity sc_p_capacity rfl rfl TT.cl TT.nC
  have B_capacity := (fun_mk (st := s_p_capacity) pl_capacity pc_capacity pk_capacity).binds (ps := ["self"]) fun _ _ _ _ _ _ us hl => match us, hl with | [_], _ => rfl
  have P_rate : PropOf K C "rate" p_rate g_rate := ⟨pa_rate, pg_rate, pt_rate, _, pr_rate⟩
  have O_rate : ∀ base : Heap, FnOk l.prog w K mg base CX0 1 g_rate _ ["self"] (getSp C "own_rate") := fun base => fn_getter (CX := CX0) (k := 0) pl_rate pc_rate sc_p_rate rfl rfl TT.cl TT.nR
  have B_rate := (fun_mk (st := s_p_rate) pl_rate pc_rate pk_rate).binds (ps := ["self"]) fun _ _ _ _ _ _ us hl => match us, hl with | [_], _ => rfl
  have P_shift : PropOf K C "shift" p_shift g_shift := ⟨pa_shift, pg_shift, pt_shift, _, pr_shift⟩
  have O_shift : ∀ base : Heap, FnOk l.prog w K mg base CX0 1 g_shift _ ["self"] (getSp C "own_shift") := fun base => fn_getter (CX := CX0) (k := 0) pl_shift pc_shift sc_p_shift rfl rfl TT.cl TT.nS
  have B_shift := (fun_mk (st := s_p_shift) pl_shift pc_shift pk_shift).binds (ps := ["self"]) fun _ _ _ _ _ _ us hl => match us, hl with | [_], _ => rfl
  have n_bool := PySem.W.mg_none_of X G zn_bool
  have n_int := PySem.W.mg_none_of X G zn_int
  have n_isinstance := PySem.W.mg_none_of X G zn_isinstance
  have n_max := PySem.W.mg_none_of X G zn_max
  have n_range := PySem.W.mg_none_of X G zn_range
  have n_repr := PySem.W.mg_none_of X G zn_repr
  have c_MOST_DEPTH : ∃ t, mg "MOST_DEPTH" = some (.int 100 t) := zc_MOST_DEPTH.imp fun _ z => PySem.W.mg_of X G z
  have c_MOST_KEY : ∃ t, mg "MOST_KEY" = some (.int 1000000000000000000000000000000 t) := zc_MOST_KEY.imp fun _ z => PySem.W.mg_of X G z
  have F_is_int := fun_mk (st := s_is_int) lk_is_int cd_is_int kp_is_int
  have j_is_int := PySem.W.mg_of X G at_is_int
  have b_is_int := F_is_int.binds (ps := ["value"]) fun _ _ _ _ _ _ us hl => match us, hl with | [_], _ => rfl
  have F_is_whole := fun_mk (st := s_is_whole) lk_is_whole cd_is_whole kp_is_whole
  have j_is_whole := PySem.W.mg_of X G at_is_whole
  have b_is_whole := F_is_whole.binds (ps := ["value", "low", "high"]) fun _ _ _ _ _ _ us hl => match us, hl with | [_, _, _], _ => rfl
  have F_require_key := fun_mk (st := s_require_key) lk_require_key cd_require_key kp_require_key
  have j_require_key := PySem.W.mg_of X G at_require_key
  have b_require_key := F_require_key.binds (ps := ["value"]) fun _ _ _ _ _ _ us hl => match us, hl with | [_], _ => rfl
  have F_require_depth := fun_mk (st := s_require_depth) lk_require_depth cd_require_depth kp_require_depth
  have j_require_depth := PySem.W.mg_of X G at_require_depth
  have b_require_depth := F_require_depth.binds (ps := ["value"]) fun _ _ _ _ _ _ us hl => match us, hl with | [_], _ => rfl
  have F_Table___init__ := fun_mk (st := s_Table___init__) lk_Table___init__ cd_Table___init__ kp_Table___init__
  have MT : Mk K C a_Table___init__ := ⟨mk, at_Table___init__, fn_Table___init__, kc⟩
  have b_Table___init__ := F_Table___init__.binds (ps := ["self", "capacity", "rate", "shift"]) fun _ _ _ _ _ _ us hl => match us, hl with | [_, _, _, _], _ => rfl
  have F_Table_value := fun_mk (st := s_Table_value) lk_Table_value cd_Table_value kp_Table_value
  have M_Table_value : Meth K C "value" a_Table_value := ⟨at_Table_value, fn_Table_value, kp_Table_value⟩
  have b_Table_value := F_Table_value.binds (ps := ["self", "key"]) fun _ _ _ _ _ _ us hl => match us, hl with | [_, _], _ => rfl
  have F_numbers_of := fun_mk (st := s_numbers_of) lk_numbers_of cd_numbers_of kp_numbers_of
  have j_numbers_of := PySem.W.mg_of X G at_numbers_of
  have b_numbers_of := F_numbers_of.binds (ps := ["table"]) fun _ _ _ _ _ _ us hl => match us, hl with | [_], _ => rfl
  have F_Table___eq__ := fun_mk (st := s_Table___eq__) lk_Table___eq__ cd_Table___eq__ kp_Table___eq__
  have M_Table___eq__ : Meth K C "__eq__" a_Table___eq__ := ⟨at_Table___eq__, fn_Table___eq__, kp_Table___eq__⟩
  have b_Table___eq__ := F_Table___eq__.binds (ps := ["self", "other"]) fun _ _ _ _ _ _ us hl => match us, hl with | [_, _], _ => rfl
  have F_Table___eq__2 := fun_mk (st := s_Table___eq__2) lk_Table___eq__2 cd_Table___eq__2 kp_Table___eq__2
  have M_Table___eq__2 : Meth K C "__eq__" a_Table___eq__2 := ⟨at_Table___eq__2, fn_Table___eq__2, kp_Table___eq__2⟩
  have b_Table___eq__2 := F_Table___eq__2.binds (ps := ["self", "other"]) fun _ _ _ _ _ _ us hl => match us, hl with | [_, _], _ => rfl
  have F_tail_of := fun_mk (st := s_tail_of) lk_tail_of cd_tail_of kp_tail_of
  have j_tail_of := PySem.W.mg_of X G at_tail_of
  have b_tail_of := F_tail_of.binds (ps := ["table", "key", "depth"]) fun _ _ _ _ _ _ us hl => match us, hl with | [_, _, _], _ => rfl
  have F_Table_tail := fun_mk (st := s_Table_tail) lk_Table_tail cd_Table_tail kp_Table_tail
  have M_Table_tail : Meth K C "tail" a_Table_tail := ⟨at_Table_tail, fn_Table_tail, kp_Table_tail⟩
  have b_Table_tail := F_Table_tail.binds (ps := ["self", "key", "depth"]) fun _ _ _ _ _ _ us hl => match us, hl with | [_, _, _], _ => rfl
  have F_bag := fun_mk (st := s_bag) lk_bag cd_bag kp_bag
  have j_bag := PySem.W.mg_of X G at_bag
  have b_bag := F_bag.binds (ps := ["_law_cell"]) fun _ _ _ _ _ _ us hl => match us, hl with | [_], _ => rfl
  have F_pick := fun_mk (st := s_pick) lk_pick cd_pick kp_pick
  have j_pick := PySem.W.mg_of X G at_pick
  have b_pick := F_pick.binds (ps := ["_law_bag_here", "_law_many"]) fun _ _ _ _ _ _ us hl => match us, hl with | [_, _], _ => rfl
  have F_three := fun_mk (st := s_three) lk_three cd_three kp_three
  have j_three := PySem.W.mg_of X G at_three
  have b_three := F_three.binds (ps := ["_law_bag_here", "_law_most"]) fun _ _ _ _ _ _ us hl => match us, hl with | [_, _], _ => rfl
  have F_tail := fun_mk (st := s_tail) lk_tail cd_tail kp_tail
  have j_tail := PySem.W.mg_of X G at_tail
  have b_tail := F_tail.binds (ps := ["_law_value", "_law_depth"]) fun _ _ _ _ _ _ us hl => match us, hl with | [_, _], _ => rfl
  have F_right := fun_mk (st := s_right) lk_right cd_right kp_right
  have j_right := PySem.W.mg_of X G at_right
  have b_right := F_right.binds (ps := ["_law_bag_here"]) fun _ _ _ _ _ _ us hl => match us, hl with | [_], _ => rfl
  have F_law := fun_mk (st := s_law) lk_law cd_law kp_law
  have j_law := PySem.W.mg_of X G at_law
  have b_law := F_law.binds (ps := ["_law_script"]) fun _ _ _ _ _ _ us hl => match us, hl with | [_], _ => rfl
  refine ⟨PySem.W.fnOf "law" "law" (defArgs s_law) (defBody s_law) (defScope s_law) .none kV16 dc16 pm16 an16 cd16 ct16, fun s v => .of_eq rfl, fun base _ _ => ?_⟩
  have O_capacity := O_capacity base
  have O_rate := O_rate base
  have O_shift := O_shift base
  have G_is_int : FnG l.prog w K mg base CX0 1 a_is_int _ ["value"] (sp_is_int K C) := ok_is_int F_is_int n_bool n_int n_isinstance
  have G_is_whole : FnG l.prog w K mg base CX0 2 a_is_whole _ ["value", "low", "high"] (sp_is_whole K C) := ok_is_whole F_is_whole F_is_int G_is_int j_is_int b_is_int
  have G_require_key : FnG l.prog w K mg base CX0 3 a_require_key _ ["value"] (sp_require_key K C) := ok_require_key F_require_key F_is_whole G_is_whole j_is_whole b_is_whole c_MOST_KEY
  have G_require_depth : FnG l.prog w K mg base CX0 3 a_require_depth _ ["value"] (sp_require_depth K C) := ok_require_depth F_require_depth F_is_whole G_is_whole j_is_whole b_is_whole c_MOST_DEPTH
  have G_Table___init__ : FnG l.prog w K mg base CX0 3 a_Table___init__ _ ["self", "capacity", "rate", "shift"] (sp_Table___init__ K C) := ok_Table___init__ F_Table___init__ F_is_whole G_is_whole j_is_whole b_is_whole c_MOST_KEY TT
  have G_Table_value : FnG l.prog w K mg base CX0 4 a_Table_value _ ["self", "key"] (sp_Table_value K C) := ok_Table_value F_Table_value F_require_key G_require_key j_require_key b_require_key TT
  have G_numbers_of : FnG l.prog w K mg base CX0 1 a_numbers_of _ ["table"] (sp_numbers_of K C) := ok_numbers_of F_numbers_of TT
  have G_Table___eq__ : FnG l.prog w K mg base CX0 2 a_Table___eq__ _ ["self", "other"] (sp_Table___eq__ K C) := ok_Table___eq__ F_Table___eq__ F_numbers_of G_numbers_of j_numbers_of b_numbers_of n_isinstance TT
  have G_Table___eq__2 : FnG l.prog w K mg base CX0 1 a_Table___eq__2 _ ["self", "other"] (sp_Table___eq__2 K C) := ok_Table___eq__2 F_Table___eq__2 n_isinstance NO TT
  have G_tail_of : FnG l.prog w K mg base CX0 1 a_tail_of _ ["table", "key", "depth"] (sp_tail_of K C) := ok_tail_of F_tail_of TT
  have G_Table_tail : FnG l.prog w K mg base CX0 4 a_Table_tail _ ["self", "key", "depth"] (sp_Table_tail K C) := ok_Table_tail F_Table_tail F_require_key G_require_key j_require_key b_require_key F_require_depth G_require_depth j_require_depth b_require_depth F_tail_of G_tail_of j_tail_of b_tail_of
  have G_bag : FnG l.prog w K mg base CX0 1 a_bag _ ["_law_cell"] (sp_bag K C) := ok_bag F_bag n_max
  have G_pick : FnG l.prog w K mg base CX0 1 a_pick _ ["_law_bag_here", "_law_many"] (sp_pick K C) := ok_pick F_pick n_int
  have G_three : FnG l.prog w K mg base CX0 2 a_three _ ["_law_bag_here", "_law_most"] (sp_three K C) := ok_three F_three F_pick G_pick j_pick b_pick
  have G_tail : FnG l.prog w K mg base CX0 1 a_tail _ ["_law_value", "_law_depth"] (sp_tail K C) := ok_tail F_tail n_int n_range
  have G_right : FnG l.prog w K mg base CX0 5 a_right _ ["_law_bag_here"] (sp_right K C) := ok_right F_right F_three G_three j_three b_three F_Table___init__ G_Table___init__ MT b_Table___init__ F_pick G_pick j_pick b_pick F_Table_value G_Table_value M_Table_value b_Table_value F_Table_tail G_Table_tail M_Table_tail b_Table_tail F_tail G_tail j_tail b_tail F_Table___eq__ G_Table___eq__ M_Table___eq__ b_Table___eq__ F_Table___eq__2 G_Table___eq__2 M_Table___eq__2 b_Table___eq__2 P_capacity O_capacity B_capacity P_rate O_rate B_rate P_shift O_shift B_shift n_max n_repr NO TT
  have r := ok_law (CT := C) F_law F_bag G_bag j_bag b_bag F_right G_right j_right b_right F_Table___init__ G_Table___init__ MT b_Table___init__ F_Table_value G_Table_value M_Table_value b_Table_value F_Table_tail G_Table_tail M_Table_tail b_Table_tail F_Table___eq__ G_Table___eq__ M_Table___eq__ b_Table___eq__ n_range TT
  exact r
end My
open PySem PySem.W PyProof.Rows
set_option maxRecDepth 100000 in
set_option maxHeartbeats 0 in
theorem PySem.Challenge.cw_hashdoors_k01_values_and_tails_holds : PySem.Challenge.rw_hashdoors_k01_values_and_tails.Holds := by
  w_on; o_law; k_head; (case hw => w_witness2)
  k_fill
  refine Fw.walk_ofG (l := PySem.Challenge.rw_hashdoors_k01_values_and_tails) (n := 63) (k := 6) (x := "_law_script") (sp := fun K => My.sp_law K default) rfl (by decide) rfl ⟨rfl, by decide, by decide⟩ (fun w h Y => PySem.W.kIn_of Y) ?F (fun K H a ns hl hb S => Fw.law_pr S (My.law_ok_all ns hl hb) (My.law_true ns hl hb))
  case F =>
    intro w mg fa h KX G hmg
    refine' My.all_mk KX G hmg ?aC ?at_is_int ?lk_is_int ?cd_is_int ?kp_is_int ?at_is_whole ?lk_is_whole ?cd_is_whole ?kp_is_whole ?at_require_key ?lk_require_key ?cd_require_key ?kp_require_key ?at_require_depth ?lk_require_depth ?cd_require_depth ?kp_require_depth ?at_Table___init__ ?fn_Table___init__ ?lk_Table___init__ ?cd_Table___init__ ?kp_Table___init__ ?at_Table_value ?fn_Table_value ?lk_Table_value ?cd_Table_value ?kp_Table_value ?at_numbers_of ?lk_numbers_of ?cd_numbers_of ?kp_numbers_of ?at_Table___eq__ ?fn_Table___eq__ ?lk_Table___eq__ ?cd_Table___eq__ ?kp_Table___eq__ ?at_Table___eq__2 ?fn_Table___eq__2 ?lk_Table___eq__2 ?cd_Table___eq__2 ?kp_Table___eq__2 ?at_tail_of ?lk_tail_of ?cd_tail_of ?kp_tail_of ?at_Table_tail ?fn_Table_tail ?lk_Table_tail ?cd_Table_tail ?kp_Table_tail ?at_bag ?lk_bag ?cd_bag ?kp_bag ?at_pick ?lk_pick ?cd_pick ?kp_pick ?at_three ?lk_three ?cd_three ?kp_three ?at_tail ?lk_tail ?cd_tail ?kp_tail ?at_right ?lk_right ?cd_right ?kp_right ?at_law ?lk_law ?cd_law ?kp_law ?pa_capacity ?pg_capacity ?pt_capacity ?pr_capacity ?pl_capacity ?pc_capacity ?pk_capacity ?pa_rate ?pg_rate ?pt_rate ?pr_rate ?pl_rate ?pc_rate ?pk_rate ?pa_shift ?pg_shift ?pt_shift ?pr_shift ?pl_shift ?pc_shift ?pk_shift ?oc ?ot ?os0 ?os1 ?os2 ?os3 ?os4 ?os5 ?os6 ?pg ?hd ?po ?sa ?mk ?kc ?nC ?nR ?nS ?xa ?xb ?xc ?xd ?zn_bool ?zn_int ?zn_isinstance ?zn_max ?zn_range ?zn_repr ?zc_MOST_DEPTH ?zc_MOST_KEY
    (case aC => k_is)
    (case at_is_int => k_is)
    (case lk_is_int => k_is)
    (case cd_is_int => k_is)
    (case kp_is_int => k_is)
    (case at_is_whole => k_is)
    (case lk_is_whole => k_is)
    (case cd_is_whole => k_is)
    (case kp_is_whole => k_is)
    (case at_require_key => k_is)
    (case lk_require_key => k_is)
    (case cd_require_key => k_is)
    (case kp_require_key => k_is)
    (case at_require_depth => k_is)
    (case lk_require_depth => k_is)
    (case cd_require_depth => k_is)
    (case kp_require_depth => k_is)
    (case at_Table___init__ => k_is)
    (case fn_Table___init__ => k_is)
    (case lk_Table___init__ => k_is)
    (case cd_Table___init__ => k_is)
    (case kp_Table___init__ => k_is)
    (case at_Table_value => k_is)
    (case fn_Table_value => k_is)
    (case lk_Table_value => k_is)
    (case cd_Table_value => k_is)
    (case kp_Table_value => k_is)
    (case at_numbers_of => k_is)
    (case lk_numbers_of => k_is)
    (case cd_numbers_of => k_is)
    (case kp_numbers_of => k_is)
    (case at_Table___eq__ => k_is)
    (case fn_Table___eq__ => k_is)
    (case lk_Table___eq__ => k_is)
    (case cd_Table___eq__ => k_is)
    (case kp_Table___eq__ => k_is)
    (case at_Table___eq__2 => k_is)
    (case fn_Table___eq__2 => k_is)
    (case lk_Table___eq__2 => k_is)
    (case cd_Table___eq__2 => k_is)
    (case kp_Table___eq__2 => k_is)
    (case at_tail_of => k_is)
    (case lk_tail_of => k_is)
    (case cd_tail_of => k_is)
    (case kp_tail_of => k_is)
    (case at_Table_tail => k_is)
    (case fn_Table_tail => k_is)
    (case lk_Table_tail => k_is)
    (case cd_Table_tail => k_is)
    (case kp_Table_tail => k_is)
    (case at_bag => k_is)
    (case lk_bag => k_is)
    (case cd_bag => k_is)
    (case kp_bag => k_is)
    (case at_pick => k_is)
    (case lk_pick => k_is)
    (case cd_pick => k_is)
    (case kp_pick => k_is)
    (case at_three => k_is)
    (case lk_three => k_is)
    (case cd_three => k_is)
    (case kp_three => k_is)
    (case at_tail => k_is)
    (case lk_tail => k_is)
    (case cd_tail => k_is)
    (case kp_tail => k_is)
    (case at_right => k_is)
    (case lk_right => k_is)
    (case cd_right => k_is)
    (case kp_right => k_is)
    (case at_law => k_is)
    (case lk_law => k_is)
    (case cd_law => k_is)
    (case kp_law => k_is)
    (case pa_capacity => k_is)
    (case pg_capacity => k_is)
    (case pt_capacity => k_is)
    (case pr_capacity => k_is)
    (case pl_capacity => k_is)
    (case pc_capacity => k_is)
    (case pk_capacity => k_is)
    (case pa_rate => k_is)
    (case pg_rate => k_is)
    (case pt_rate => k_is)
    (case pr_rate => k_is)
    (case pl_rate => k_is)
    (case pc_rate => k_is)
    (case pk_rate => k_is)
    (case pa_shift => k_is)
    (case pg_shift => k_is)
    (case pt_shift => k_is)
    (case pr_shift => k_is)
    (case pl_shift => k_is)
    (case pc_shift => k_is)
    (case pk_shift => k_is)
    (case oc => k_is)
    (case ot => k_is)
    (case os0 => k_is)
    (case os1 => k_is)
    (case os2 => k_is)
    (case os3 => k_is)
    (case os4 => k_is)
    (case os5 => k_is)
    (case os6 => k_is)
    (case pg => k_is)
    (case hd => k_is)
    (case po => k_is)
    (case sa => k_is)
    (case mk => k_is)
    (case kc => k_is)
    (case nC => k_is)
    (case nR => k_is)
    (case nS => k_is)
    (case xa => k_is)
    (case xb => k_is)
    (case xc => k_is)
    (case xd => k_is)
    (case zn_bool => k_is)
    (case zn_int => k_is)
    (case zn_isinstance => k_is)
    (case zn_max => k_is)
    (case zn_range => k_is)
    (case zn_repr => k_is)
    (case zc_MOST_DEPTH => exact ⟨_, by k_is⟩)
    (case zc_MOST_KEY => exact ⟨_, by k_is⟩)
#print axioms PySem.Challenge.cw_hashdoors_k01_values_and_tails_holds
end
