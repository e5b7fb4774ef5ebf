import PyProof.Rows.All
import PySem.Challenge.RW_hashdoors_k04_keys_with_a_tail
import Wide.All
import OpenK.AllK
import Wide.FinOn
import HandS.ForMost
import HandS.Wide
import HandS.Property
import HandS.IsInst
import HandS.RaiseMore
import HandS.SortInts
import HandS.Flow
import HandS.Style
import HandS.Conv
import HandS.EndBits
import HandS.WideBits
import HandS.OwnEq
import PyProof.ReprBulk
import PyProof.LongRange
import PyProof.ListRange
import HandS.SetFor
import HandS.Strs
import KE.KBits
set_option Elab.async false
set_option linter.all false
section
set_option maxRecDepth 100000
/-! typed layer over HandS: frozen values, owned lists, expressions that evaluate, statements that pass on -/
namespace Fw
open PySem L2

/-- what is said of a value, by the frozen part of the heap -/
structure R where
  p : Hp → V → Prop
  mono : ∀ {F F' : Hp} {v : V}, Same F F' → p F v → p F' v
/-- what is said of an object that is owned -/
structure OC where
  p : Hp → Addr → HO → Prop
  mono : ∀ {F F' : Hp} {a : Addr} {o : HO}, Same F F' → p F a o → p F' a o

def eV (v : V) : R := ⟨fun _ x => x = v, fun _ h => h⟩
abbrev eI (i : Int) : R := eV (.int i)
abbrev eB (b : Bool) : R := eV (.bl b)
abbrev eS (s : Str) : R := eV (.str s)
abbrev eN : R := eV .non
def eAny : R := ⟨fun _ _ => True, fun _ h => h⟩

def All2 : List R → Hp → List V → Prop
  | [], _, [] => True
  | r :: rs, F, x :: xs => r.p F x ∧ All2 rs F xs
  | _, _, _ => False
theorem All2.mono {F F' : Hp} (e : Same F F') : ∀ {rs : List R} {xs : List V}, All2 rs F xs → All2 rs F' xs
  | [], [], _ => trivial
  | r :: rs, x :: xs, h => ⟨r.mono e h.1, All2.mono e h.2⟩
  | [], _ :: _, h => h.elim
  | _ :: _, [], h => h.elim
theorem All2.len {F : Hp} : ∀ {rs : List R} {xs : List V}, All2 rs F xs → xs.length = rs.length
  | [], [], _ => rfl
  | r :: rs, x :: xs, h => congrArg (· + 1) (All2.len h.2)
  | [], _ :: _, h => h.elim
  | _ :: _, [], h => h.elim
theorem All2.app {F : Hp} : ∀ {rs : List R} {xs : List V} {ss : List R} {ys : List V}, All2 rs F xs → All2 ss F ys → All2 (rs ++ ss) F (xs ++ ys)
  | [], [], _, _, _, h => h
  | r :: rs, x :: xs, _, _, h, k => ⟨h.1, All2.app h.2 k⟩
  | [], _ :: _, _, _, h, _ => h.elim
  | _ :: _, [], _, _, h, _ => h.elim
theorem All2.get {F : Hp} : ∀ {rs : List R} {xs : List V} {i : Nat} {x : V}, All2 rs F xs → xs[i]? = some x → ∃ r, rs[i]? = some r ∧ r.p F x
  | r :: rs, y :: ys, 0, x, h, e => by simp at e; subst e; exact ⟨r, rfl, h.1⟩
  | r :: rs, y :: ys, i + 1, x, h, e => by
    obtain ⟨q, h1, h2⟩ := All2.get (i := i) (x := x) h.2 (by simpa using e)
    exact ⟨q, by simpa using h1, h2⟩
  | [], [], i, x, _, e => by simp at e
  | [], _ :: _, _, _, h, _ => h.elim
  | _ :: _, [], _, _, h, _ => h.elim
theorem All2.get' {F : Hp} : ∀ {rs : List R} {xs : List V} {i : Nat} {r : R}, All2 rs F xs → rs[i]? = some r → ∃ x, xs[i]? = some x ∧ r.p F x
  | r :: rs, y :: ys, 0, x, h, e => by simp at e; subst e; exact ⟨y, rfl, h.1⟩
  | r :: rs, y :: ys, i + 1, x, h, e => by
    obtain ⟨q, h1, h2⟩ := All2.get' (i := i) (r := x) h.2 (by simpa using e)
    exact ⟨q, by simpa using h1, h2⟩
  | [], [], i, x, _, e => by simp at e
  | [], _ :: _, _, _, h, _ => h.elim
  | _ :: _, [], _, _, h, _ => h.elim
theorem All2.set {F : Hp} {r : R} {x : V} (q : r.p F x) : ∀ {rs : List R} {xs : List V} (i : Nat), All2 rs F xs → All2 (rs.set i r) F (xs.set i x)
  | [], [], _, h => h
  | _ :: _, _ :: _, 0, h => ⟨q, h.2⟩
  | _ :: _, _ :: _, i + 1, h => ⟨h.1, All2.set q i h.2⟩
  | [], _ :: _, _, h => h.elim
  | _ :: _, [], _, h => h.elim

variable {K : PySem.W.Frag}
def eT (K : PySem.W.Frag) (rs : List R) : R := ⟨fun F v => ∃ p xs, v = .ref p ∧ SqT K F p xs ∧ All2 rs F xs, fun e ⟨p, xs, h1, h2, h3⟩ => ⟨p, xs, h1, by
  rcases h2 with (h | ⟨o, h⟩) | h
  · exact .inl (.inl (e _ _ h))
  · exact .inl (.inr ⟨o, e _ _ h⟩)
  · exact .inr h, h3.mono e⟩⟩
def eP2 {α β : Type} (K : PySem.W.Frag) (a : α → R) (b : β → R) (x : α × β) : R := eT K [a x.1, b x.2]
def eP3 {α β γ : Type} (K : PySem.W.Frag) (a : α → R) (b : β → R) (c : γ → R) (x : α × β × γ) : R := eT K [a x.1, b x.2.1, c x.2.2]
def eO {α : Type} (e : α → R) : Option α → R
  | none => eN
  | some x => e x
/-- a list; q: where it stands, if that is told -/
def oLq (q : Option Addr) (rs : List R) : OC := ⟨fun F a o => (∀ p, q = some p → a = p) ∧ ∃ xs, o = .lst xs ∧ All2 rs F xs, fun e ⟨z, xs, h1, h2⟩ => ⟨z, xs, h1, h2.mono e⟩⟩
abbrev oL (rs : List R) : OC := oLq none rs
abbrev oLs {α : Type} (e : α → R) (l : List α) : OC := oL (l.map e)

/-! ### slots -/
inductive Sl where
  | no
  | fz (r : R)
  | ow (c : OC)
def Own (W : List Sl) (σ : St) (a : Addr) : Prop := ∃ (i : Nat) (c : OC), W[i]? = some (.ow c) ∧ σ[i]? = some (some (.ref a))
structure Sat (F H : Hp) (σ : St) (W : List Sl) : Prop where
  ex : Same F H
  len : σ.length = W.length
  fz : ∀ (i : Nat) (r : R), W[i]? = some (.fz r) → ∃ v, σ[i]? = some (some v) ∧ r.p F v
  ow : ∀ (i : Nat) (c : OC), W[i]? = some (.ow c) → ∃ p o, σ[i]? = some (some (.ref p)) ∧ H p = some o ∧ F p = none ∧ c.p F p o
  ds : ∀ (i j : Nat) (c d : OC) (p : Addr), W[i]? = some (.ow c) → W[j]? = some (.ow d) → σ[i]? = some (some (.ref p)) → σ[j]? = some (some (.ref p)) → i = j
structure Rel (F H : Hp) (M : Addr → Prop) (F' H' : Hp) (M' : Addr → Prop) : Prop where
  f : Same F F'
  h : ∀ a o, ¬ M a → H a = some o → H' a = some o
  n : ∀ a o, F' a = some o → F a = some o ∨ H a = none ∨ M a
  t : ∀ a, H' a = none → H a = none
  o : ∀ a, M' a → M a ∨ H a = none
section
variable {F H F' H' F'' H'' : Hp} {M M' M'' : Addr → Prop} {σ : St} {W W' : List Sl}
theorem Rel.refl : Rel F H M F H M := ⟨fun _ _ h => h, fun _ _ _ h => h, fun _ _ h => .inl h, fun _ h => h, fun _ h => Or.inl h⟩
theorem Rel.trans (a : Rel F H M F' H' M') (b : Rel F' H' M' F'' H'' M'') : Rel F H M F'' H'' M'' where
  f := fun x o h => b.f x o (a.f x o h)
  h := fun x o n h => b.h x o (fun m => (a.o x m).elim n fun z => by rw [h] at z; cases z) (a.h x o n h)
  n := fun x o h => by
    rcases b.n x o h with z | z | z
    · exact a.n x o z
    · exact .inr (.inl (a.t x z))
    · exact (a.o x z).elim (fun z => .inr (.inr z)) fun z => .inr (.inl z)
  t := fun x h => a.t x (b.t x h)
  o := fun x m => (b.o x m).elim (a.o x) fun z => .inr (a.t x z)
/-- the heap grows; nothing that is frozen comes -/
theorem Rel.grow (e : Same H H') : Rel F H M F H' M := ⟨fun _ _ h => h, fun x o _ h => e x o h, fun _ _ h => .inl h, fun x h => e.free h, fun _ h => .inl h⟩
/-- a new object is laid and frozen -/
theorem Rel.lay {p : Addr} {o : HO} (ex : Same F H) (hp : H p = none) : Rel F H M (upd F p o) (upd H p o) M where
  f := fun x u h => by
    have q := ex x u h
    rw [upd_ne (ne_of_none q hp)]; exact h
  h := fun x u _ h => by rw [upd_ne (ne_of_none h hp)]; exact h
  n := fun x u h => by
    by_cases e : x = p
    · subst e; exact .inr (.inl hp)
    · rw [upd_ne e] at h; exact .inl h
  t := fun x h => by
    by_cases e : x = p
    · subst e; exact hp
    · rw [upd_ne e] at h; exact h
  o := fun _ h => .inl h
end
end Fw
end
section
set_option maxRecDepth 100000
namespace Fw
open PySem L2
section
variable {F H F' H' F'' H'' : Hp} {M M' M'' : Addr → Prop} {σ σ' : St} {W W' W1 W2 : List Sl} {K : PySem.W.Frag}
theorem Rel.sub (a : Rel F H M F' H' M') (s : ∀ x, M'' x → M' x) : Rel F H M F' H' M'' := ⟨a.f, a.h, a.n, a.t, fun x m => a.o x (s x m)⟩
theorem Own.lt {a : Addr} (o : Own W σ a) (s : Sat F H σ W) : ∃ u, H a = some u := by
  obtain ⟨i, c, h1, h2⟩ := o
  obtain ⟨p, u, e, q, _⟩ := s.ow i c h1
  rw [h2] at e; cases e
  exact ⟨u, q⟩
theorem Sat.grow (s : Sat F H σ W) (e : Same H H') : Sat F H' σ W :=
  ⟨fun a o h => e a o (s.ex a o h), s.len, s.fz, fun i c h => let ⟨p, o, h1, h2, h3, h4⟩ := s.ow i c h; ⟨p, o, h1, e p o h2, h3, h4⟩, s.ds⟩
theorem Sat.lay {p : Addr} {o : HO} (s : Sat F H σ W) (hp : H p = none) : Sat (upd F p o) (upd H p o) σ W := by
  have fp : F p = none := s.ex.free hp
  have e : Same F (upd F p o) := fun a u h => by rw [upd_ne (ne_of_none h fp)]; exact h
  refine ⟨fun a u h => ?_, s.len, fun i r h => ?_, fun i c h => ?_, s.ds⟩
  · by_cases q : a = p
    · subst q; rw [upd_same] at h; cases h; exact upd_same
    · rw [upd_ne q] at h; rw [upd_ne q]; exact s.ex a u h
  · obtain ⟨v, h1, h2⟩ := s.fz i r h
    exact ⟨v, h1, r.mono e h2⟩
  · obtain ⟨q, u, h1, h2, h3, h4⟩ := s.ow i c h
    have ne : q ≠ p := ne_of_none h2 hp
    exact ⟨q, u, h1, by rw [upd_ne ne]; exact h2, by rw [upd_ne ne]; exact h3, c.mono e h4⟩
/-- a frozen value is stored -/
theorem Sat.put {i : Nat} {v : V} {r : R} (s : Sat F H σ W) (q : r.p F v) : Sat F H (σ.set i (some v)) (W.set i (.fz r)) := by
  refine ⟨s.ex, by simpa using s.len, fun j u h => ?_, fun j c h => ?_, fun j k c d p h1 h2 h3 h4 => ?_⟩
  · by_cases e : i = j
    · subst e
      have hi : i < W.length := by
        have := (List.getElem?_eq_some_iff.mp h).1
        simpa using this
      rw [List.getElem?_set_self hi] at h; cases h
      exact ⟨v, List.getElem?_set_self (by rw [s.len]; exact hi), q⟩
    · rw [List.getElem?_set_ne e] at h
      rw [List.getElem?_set_ne e]
      exact s.fz j u h
  · by_cases e : i = j
    · subst e
      have hi : i < W.length := by
        have := (List.getElem?_eq_some_iff.mp h).1
        simpa using this
      rw [List.getElem?_set_self hi] at h; cases h
    · rw [List.getElem?_set_ne e] at h
      rw [List.getElem?_set_ne e]
      exact s.ow j c h
  · have nj : i ≠ j := fun e => by
      subst e
      have hi : i < W.length := by
        have := (List.getElem?_eq_some_iff.mp h1).1
        simpa using this
      rw [List.getElem?_set_self hi] at h1; cases h1
    have nk : i ≠ k := fun e => by
      subst e
      have hi : i < W.length := by
        have := (List.getElem?_eq_some_iff.mp h2).1
        simpa using this
      rw [List.getElem?_set_self hi] at h2; cases h2
    rw [List.getElem?_set_ne nj] at h1 h3
    rw [List.getElem?_set_ne nk] at h2 h4
    exact s.ds j k c d p h1 h2 h3 h4
theorem Own.put {i : Nat} {v : V} {r : R} {a : Addr} (o : Own (W.set i (.fz r)) (σ.set i (some v)) a) : Own W σ a := by
  obtain ⟨j, c, h1, h2⟩ := o
  have nj : i ≠ j := fun e => by
    subst e
    have hi : i < W.length := by
      have := (List.getElem?_eq_some_iff.mp h1).1
      simpa using this
    rw [List.getElem?_set_self hi] at h1; cases h1
  rw [List.getElem?_set_ne nj] at h1 h2
  exact ⟨j, c, h1, h2⟩
/-- an owned object, new, is stored -/
theorem Sat.own {i : Nat} {p : Addr} {o : HO} {c : OC} (s : Sat F H σ W) (hp : H p = some o) (fp : F p = none) (np : ¬ Own W σ p) (q : c.p F p o) : Sat F H (σ.set i (some (.ref p))) (W.set i (.ow c)) := by
  have inj : ∀ (j : Nat) (d : OC), i ≠ j → W[j]? = some (.ow d) → σ[j]? = some (some (.ref p)) → False := fun j d _ h1 h2 => np ⟨j, d, h1, h2⟩
  refine ⟨s.ex, by simpa using s.len, fun j u h => ?_, fun j d h => ?_, fun j k d e a h1 h2 h3 h4 => ?_⟩
  · by_cases e : i = j
    · subst e
      have hi : i < W.length := by
        have := (List.getElem?_eq_some_iff.mp h).1
        simpa using this
      rw [List.getElem?_set_self hi] at h; cases h
    · rw [List.getElem?_set_ne e] at h
      rw [List.getElem?_set_ne e]
      exact s.fz j u h
  · by_cases e : i = j
    · subst e
      have hi : i < W.length := by
        have := (List.getElem?_eq_some_iff.mp h).1
        simpa using this
      rw [List.getElem?_set_self hi] at h; cases h
      exact ⟨p, o, List.getElem?_set_self (by rw [s.len]; exact hi), hp, fp, q⟩
    · rw [List.getElem?_set_ne e] at h
      rw [List.getElem?_set_ne e]
      exact s.ow j d h
  · by_cases ej : i = j
    · by_cases ek : i = k
      · exact ej.symm.trans ek
      · subst ej
        have hi : i < W.length := by
          have := (List.getElem?_eq_some_iff.mp h1).1
          simpa using this
        rw [List.getElem?_set_self (by rw [s.len]; exact hi)] at h3
        cases h3
        rw [List.getElem?_set_ne ek] at h2 h4
        exact (inj k e ek h2 h4).elim
    · by_cases ek : i = k
      · subst ek
        have hi : i < W.length := by
          have := (List.getElem?_eq_some_iff.mp h2).1
          simpa using this
        rw [List.getElem?_set_self (by rw [s.len]; exact hi)] at h4
        cases h4
        rw [List.getElem?_set_ne ej] at h1 h3
        exact (inj j d ej h1 h3).elim
      · rw [List.getElem?_set_ne ej] at h1 h3
        rw [List.getElem?_set_ne ek] at h2 h4
        exact s.ds j k d e a h1 h2 h3 h4
theorem Own.own {i : Nat} {p : Addr} {c : OC} {a : Addr} (o : Own (W.set i (.ow c)) (σ.set i (some (.ref p))) a) : Own W σ a ∨ a = p := by
  obtain ⟨j, d, h1, h2⟩ := o
  by_cases e : i = j
  · subst e
    have hi : i < (W.set i (.ow c)).length := (List.getElem?_eq_some_iff.mp h1).1
    have hj : i < (σ.set i (some (.ref p))).length := (List.getElem?_eq_some_iff.mp h2).1
    rw [List.getElem?_set_self (by simpa using hj)] at h2
    cases h2
    exact .inr rfl
  · rw [List.getElem?_set_ne e] at h1 h2
    exact .inl ⟨j, d, h1, h2⟩
/-- what an owned object holds is changed -/
theorem Sat.mut {i : Nat} {p : Addr} {o : HO} {c d : OC} (s : Sat F H σ W) (hw : W[i]? = some (.ow d)) (hs : σ[i]? = some (some (.ref p))) (q : c.p F p o) : Sat F (upd H p o) σ (W.set i (.ow c)) := by
  have hi : i < W.length := (List.getElem?_eq_some_iff.mp hw).1
  have fp : F p = none := by
    obtain ⟨p', o', e1, _, e3, _⟩ := s.ow i d hw
    rw [hs] at e1; cases e1; exact e3
  refine ⟨fun a u h => ?_, by simpa using s.len, fun j u h => ?_, fun j e h => ?_, fun j k e e' a h1 h2 h3 h4 => ?_⟩
  · rw [upd_ne (ne_of_none h fp)]; exact s.ex a u h
  · by_cases e : i = j
    · subst e
      rw [List.getElem?_set_self hi] at h; cases h
    · rw [List.getElem?_set_ne e] at h
      exact s.fz j u h
  · by_cases e1 : i = j
    · subst e1
      rw [List.getElem?_set_self hi] at h; cases h
      exact ⟨p, o, hs, upd_same, fp, q⟩
    · rw [List.getElem?_set_ne e1] at h
      obtain ⟨a, u, g1, g2, g3, g4⟩ := s.ow j e h
      have ne : a ≠ p := fun z => by subst z; exact e1 (s.ds i j d e a hw h hs g1)
      exact ⟨a, u, g1, by rw [upd_ne ne]; exact g2, g3, g4⟩
  · have old : ∀ (j : Nat) (e : OC), (W.set i (.ow c))[j]? = some (.ow e) → ∃ e', W[j]? = some (.ow e') := fun j e h => by
      by_cases e1 : i = j
      · subst e1; exact ⟨d, hw⟩
      · rw [List.getElem?_set_ne e1] at h; exact ⟨e, h⟩
    obtain ⟨a1, g1⟩ := old j e h1
    obtain ⟨a2, g2⟩ := old k e' h2
    exact s.ds j k a1 a2 a g1 g2 h3 h4
theorem Own.mut {i : Nat} {c d : OC} {a : Addr} (hw : W[i]? = some (.ow d)) : Own (W.set i (.ow c)) σ a ↔ Own W σ a := by
  have hi : i < W.length := (List.getElem?_eq_some_iff.mp hw).1
  constructor
  · rintro ⟨j, e, h1, h2⟩
    by_cases e1 : i = j
    · subst e1; exact ⟨i, d, hw, h2⟩
    · rw [List.getElem?_set_ne e1] at h1; exact ⟨j, e, h1, h2⟩
  · rintro ⟨j, e, h1, h2⟩
    by_cases e1 : i = j
    · subst e1; exact ⟨i, c, List.getElem?_set_self hi, h2⟩
    · exact ⟨j, e, by rw [List.getElem?_set_ne e1]; exact h1, h2⟩
/-- forgetting -/
def Wk : List Sl → List Sl → Prop
  | [], [] => True
  | s :: W, t :: W' => (t = .no ∨ t = s) ∧ Wk W W'
  | _, _ => False
theorem Wk.len : ∀ {W W' : List Sl}, Wk W W' → W.length = W'.length
  | [], [], _ => rfl
  | _ :: _, _ :: _, h => congrArg (· + 1) (Wk.len h.2)
  | [], _ :: _, h => h.elim
  | _ :: _, [], h => h.elim
theorem Wk.at : ∀ {W W' : List Sl} {i : Nat} {s : Sl}, Wk W W' → W'[i]? = some s → s = .no ∨ W[i]? = some s
  | _ :: _, _ :: _, 0, s, h, e => by
    simp at e; subst e
    rcases h.1 with z | z
    · exact .inl z
    · exact .inr (by rw [z]; rfl)
  | _ :: _, _ :: _, i + 1, s, h, e => by
    rcases Wk.at (i := i) (s := s) h.2 (by simpa using e) with z | z
    · exact .inl z
    · exact .inr (by simpa using z)
  | [], [], _, _, _, e => by simp at e
  | [], _ :: _, _, _, h, _ => h.elim
  | _ :: _, [], _, _, h, _ => h.elim
theorem Wk.refl : ∀ {W : List Sl}, Wk W W
  | [] => trivial
  | _ :: _ => ⟨.inr rfl, Wk.refl⟩
theorem Wk.sub {a : Addr} (k : Wk W W') (o : Own W' σ a) : Own W σ a := by
  obtain ⟨i, c, h1, h2⟩ := o
  rcases k.at h1 with z | z
  · cases z
  · exact ⟨i, c, z, h2⟩
theorem Sat.weak (s : Sat F H σ W) (k : Wk W W') : Sat F H σ W' := by
  refine ⟨s.ex, s.len.trans k.len, fun i r h => ?_, fun i c h => ?_, fun i j c d p h1 h2 => ?_⟩
  · rcases k.at h with z | z
    · cases z
    · exact s.fz i r z
  · rcases k.at h with z | z
    · cases z
    · exact s.ow i c z
  · rcases k.at h1 with z | z
    · cases z
    · rcases k.at h2 with z' | z'
      · cases z'
      · exact s.ds i j c d p z z'
end

/-! ### judgements -/
/-- an expression evaluates to a frozen value -/
def ES (t : TE) (W W' : List Sl) (r : R) : Prop := ∀ (F H : Hp) (σ : St) (Q : VK), Sat F H σ W →
  (∀ v F' H', Rel F H (Own W σ) F' H' (Own W' σ) → Sat F' H' σ W' → r.p F' v → Q v H') → t σ H Q
/-- .. to a new object that is owned by nobody yet -/
def ESN (t : TE) (W W' : List Sl) (c : OC) : Prop := ∀ (F H : Hp) (σ : St) (Q : VK), Sat F H σ W →
  (∀ p o F' H', Rel F H (Own W σ) F' H' (Own W' σ) → Sat F' H' σ W' → H p = none → H' p = some o → F' p = none → ¬ Own W' σ p → c.p F' p o → Q (.ref p) H') → t σ H Q
/-- a test -/
def ET (t : TT) (W W' : List Sl) (b : Bool) : Prop := ∀ (F H : Hp) (σ : St) (Q : Bool → Hp → Prop), Sat F H σ W →
  (∀ F' H', Rel F H (Own W σ) F' H' (Own W' σ) → Sat F' H' σ W' → Q b H') → t σ H Q
/-- arguments -/
def AS (t : TA) (W W' : List Sl) (rs : List R) : Prop := ∀ (F H : Hp) (σ : St) (Q : List V → Hp → Prop), Sat F H σ W →
  (∀ vs F' H', Rel F H (Own W σ) F' H' (Own W' σ) → Sat F' H' σ W' → All2 rs F' vs → Q vs H') → t σ H Q
structure Post where
  nx : List Sl → Prop
  rt : List Sl → R → Prop
  bk : List Sl → Prop := fun _ => False
  ct : List Sl → Prop := fun _ => False
/-- a statement -/
def SS (t : TS) (W : List Sl) (P : Post) : Prop := ∀ (F H : Hp) (σ : St) (D : Ends), Sat F H σ W →
  (∀ W' σ' F' H', P.nx W' → Rel F H (Own W σ) F' H' (Own W' σ') → Sat F' H' σ' W' → D.nx σ' H') →
  (∀ W' σ' r v F' H', P.rt W' r → Rel F H (Own W σ) F' H' (Own W' σ') → Sat F' H' σ' W' → r.p F' v → D.rt v H') →
  (∀ W' σ' F' H', P.bk W' → Rel F H (Own W σ) F' H' (Own W' σ') → Sat F' H' σ' W' → D.bk σ' H') →
  (∀ W' σ' F' H', P.ct W' → Rel F H (Own W σ) F' H' (Own W' σ') → Sat F' H' σ' W' → D.ct σ' H') → t D σ H

section
variable {W W' W1 W2 W3 : List Sl} {K : PySem.W.Frag} {ta tb tc te : TE} {t u : TT} {r ra rb : R} {x y z v : V}
theorem ES.to {r' : R} (h : ES te W W' r) (e : r = r') : ES te W W' r' := e ▸ h
theorem ES.imp {r' : R} (h : ES te W W' r) (e : ∀ F v, r.p F v → r'.p F v) : ES te W W' r' := fun F H σ Q s k => h F H σ Q s fun v F' H' a b c => k v F' H' a b (e _ _ c)
theorem ET.to {b b' : Bool} (h : ET t W W' b) (e : b = b') : ET t W W' b' := e ▸ h
/-! values -/
theorem es_var (i : Nat) (h : W[i]? = some (.fz r)) : ES (tVar i) W W r := fun F H σ Q s k => by
  obtain ⟨v, h1, h2⟩ := s.fz i r h
  exact ⟨v, h1, k v F H Rel.refl s h2⟩
theorem es_c : ES (tC v) W W (eV v) := fun F H σ Q s k => k v F H Rel.refl s rfl
/-- two values, an operation that changes nothing -/
theorem es_op {g : R2} (ha : ES ta W W1 (eV x)) (hb : ES tb W1 W2 (eV y)) (hg : ∀ (H : Hp) (Q : VK), Q z H → g x y H Q) : ES (tOp g ta tb) W W2 (eV z) := fun F H σ Q s k =>
  ha F H σ _ s fun v F1 H1 a1 s1 e1 => hb F1 H1 σ _ s1 fun w F2 H2 a2 s2 e2 => by
    have e1' : v = x := e1
    have e2' : w = y := e2
    subst e1' e2'
    exact hg H2 Q (k z F2 H2 (a1.trans a2) s2 rfl)
theorem es_un {g : V → Hp → VK → Prop} (ha : ES ta W W1 (eV x)) (hg : ∀ (H : Hp) (Q : VK), Q z H → g x H Q) : ES (tUn g ta) W W1 (eV z) := fun F H σ Q s k =>
  ha F H σ _ s fun v F1 H1 a1 s1 e1 => by
    have e1' : v = x := e1
    subst e1'
    exact hg H1 Q (k z F1 H1 a1 s1 rfl)
section
variable {i j : Int}
theorem es_add (ha : ES ta W W1 (eI i)) (hb : ES tb W1 W2 (eI j)) : ES (tOp (rI0 fun i j => .int (i + j)) ta tb) W W2 (eI (i + j)) := es_op ha hb fun _ _ q => ⟨i, j, rfl, rfl, q⟩
theorem es_sub (ha : ES ta W W1 (eI i)) (hb : ES tb W1 W2 (eI j)) : ES (tOp (rI0 fun i j => .int (i - j)) ta tb) W W2 (eI (i - j)) := es_op ha hb fun _ _ q => ⟨i, j, rfl, rfl, q⟩
theorem es_mul (ha : ES ta W W1 (eI i)) (hb : ES tb W1 W2 (eI j)) (c : CMul i j) : ES (tOp (rI CMul fun i j => .int (i * j)) ta tb) W W2 (eI (i * j)) := es_op ha hb fun _ _ q => ⟨i, j, rfl, rfl, c, q⟩
theorem es_mod (ha : ES ta W W1 (eI i)) (hb : ES tb W1 W2 (eI j)) (c : 0 < j) : ES (tOp (rI (fun _ j => 0 < j) fun i j => .int (i % j)) ta tb) W W2 (eI (i % j)) := es_op ha hb fun _ _ q => ⟨i, j, rfl, rfl, c, q⟩
theorem es_pow (ha : ES ta W W1 (eI i)) (hb : ES tb W1 W2 (eI j)) (c : CPow i j) : ES (tOp (rI CPow fun i j => .int (i ^ j.toNat)) ta tb) W W2 (eI (i ^ j.toNat)) := es_op ha hb fun _ _ q => ⟨i, j, rfl, rfl, c, q⟩
theorem es_shl (ha : ES ta W W1 (eI i)) (hb : ES tb W1 W2 (eI j)) (c : CPow i j) : ES (tOp (rI CPow fun i j => .int (i * 2 ^ j.toNat)) ta tb) W W2 (eI (i * 2 ^ j.toNat)) := es_op ha hb fun _ _ q => ⟨i, j, rfl, rfl, c, q⟩
theorem es_shr (ha : ES ta W W1 (eI i)) (hb : ES tb W1 W2 (eI j)) (c : 0 ≤ j) : ES (tOp (rI (fun _ j => 0 ≤ j) fun i j => .int (i / 2 ^ j.toNat)) ta tb) W W2 (eI (i / 2 ^ j.toNat)) := es_op ha hb fun _ _ q => ⟨i, j, rfl, rfl, c, q⟩
theorem es_and (ha : ES ta W W1 (eI i)) (hb : ES tb W1 W2 (eI j)) : ES (tOp (rI0 fun i j => .int (Builtin.bitAnd i j)) ta tb) W W2 (eI (Builtin.bitAnd i j)) := es_op ha hb fun _ _ q => ⟨i, j, rfl, rfl, q⟩
theorem es_neg (ha : ES ta W W1 (eI i)) : ES (tUn (rU fun i => .int (-i)) ta) W W1 (eI (-i)) := es_un ha fun _ _ q => ⟨i, rfl, q⟩
end
end
end Fw
end
section
set_option maxRecDepth 100000
namespace Fw
open PySem L2
section
variable {W W' W1 W2 W3 : List Sl} {K : PySem.W.Frag} {ta tb tc te : TE} {t u : TT} {r ra rb : R} {x y z v : V} {a b : Bool}
/-! tests -/
theorem et_cmp {g : R2} (ha : ES ta W W1 (eV x)) (hb : ES tb W1 W2 (eV y)) (hg : ∀ (H : Hp) (Q : VK), Q (.bl b) H → g x y H Q) : ET (tTest (tOp g ta tb)) W W2 b := fun F H σ Q s k =>
  es_op ha hb hg F H σ _ s fun v F1 H1 a1 s1 e1 => ⟨b, e1, k F1 H1 a1 s1⟩
theorem es_cmp {g : R2} (ha : ES ta W W1 (eV x)) (hb : ES tb W1 W2 (eV y)) (hg : ∀ (H : Hp) (Q : VK), Q (.bl b) H → g x y H Q) : ES (tOp g ta tb) W W2 (eB b) := es_op ha hb hg
theorem et_val (h : ES te W W1 (eB b)) : ET (tB te) W W1 b := fun F H σ Q s k => h F H σ _ s fun v F1 H1 a1 s1 e1 => ⟨b, e1, k F1 H1 a1 s1⟩
theorem et_not (h : ET t W W1 a) : ET (tNot t) W W1 (!a) := fun F H σ Q s k => h F H σ _ s k
theorem et_and (h : ET t W W1 a) (h2 : a = true → ET u W1 W1 b) : ET (tAnd t u) W W1 (a && b) := fun F H σ Q s k => h F H σ _ s fun F1 H1 a1 s1 => by
  cases a with
  | true =>
    rw [if_pos rfl]
    exact h2 rfl F1 H1 σ Q s1 fun F2 H2 a2 s2 => k F2 H2 (a1.trans a2) s2
  | false =>
    rw [if_neg Bool.false_ne_true]
    exact k F1 H1 a1 s1
theorem et_or (h : ET t W W1 a) (h2 : a = false → ET u W1 W1 b) : ET (tOr t u) W W1 (a || b) := fun F H σ Q s k => h F H σ _ s fun F1 H1 a1 s1 => by
  cases a with
  | true =>
    rw [if_pos rfl]
    exact k F1 H1 a1 s1
  | false =>
    rw [if_neg Bool.false_ne_true]
    exact h2 rfl F1 H1 σ Q s1 fun F2 H2 a2 s2 => k F2 H2 (a1.trans a2) s2
theorem es_andV (h : ES ta W W1 (eB a)) (h2 : a = true → ES tb W1 W1 (eB b)) : ES (tAndV ta tb) W W1 (eB (a && b)) := fun F H σ Q s k => h F H σ _ s fun v F1 H1 a1 s1 e1 => ⟨a, e1, by
  cases a with
  | true =>
    rw [if_pos rfl]
    exact h2 rfl F1 H1 σ Q s1 fun w F2 H2 a2 s2 e2 => k w F2 H2 (a1.trans a2) s2 e2
  | false =>
    rw [if_neg Bool.false_ne_true]
    exact k _ F1 H1 a1 s1 rfl⟩
theorem es_orV (h : ES ta W W1 (eB a)) (h2 : a = false → ES tb W1 W1 (eB b)) : ES (tOrV ta tb) W W1 (eB (a || b)) := fun F H σ Q s k => h F H σ _ s fun v F1 H1 a1 s1 e1 => ⟨a, e1, by
  cases a with
  | true =>
    rw [if_pos rfl]
    exact k _ F1 H1 a1 s1 rfl
  | false =>
    rw [if_neg Bool.false_ne_true]
    exact h2 rfl F1 H1 σ Q s1 fun w F2 H2 a2 s2 e2 => k w F2 H2 (a1.trans a2) s2 e2⟩
theorem es_notV (h : ES ta W W1 (eB a)) : ES (tNotV ta) W W1 (eB (!a)) := fun F H σ Q s k => h F H σ _ s fun v F1 H1 a1 s1 e1 => ⟨a, e1, k _ F1 H1 a1 s1 rfl⟩
theorem es_if {α : Type} {e : α → R} {p q : α} (h : ET t W W1 a) (h1 : a = true → ES ta W1 W2 (e p)) (h2 : a = false → ES tb W1 W2 (e q)) : ES (tIf t ta tb) W W2 (e (if a = true then p else q)) := fun F H σ Q s k => h F H σ _ s fun F1 H1 a1 s1 => by
  cases a with
  | true =>
    rw [if_pos rfl] at k ⊢
    exact h1 rfl F1 H1 σ Q s1 fun w F2 H2 a2 s2 e2 => k w F2 H2 (a1.trans a2) s2 e2
  | false =>
    rw [if_neg Bool.false_ne_true] at k ⊢
    exact h2 rfl F1 H1 σ Q s1 fun w F2 H2 a2 s2 e2 => k w F2 H2 (a1.trans a2) s2 e2
section
variable {i j : Int}
theorem q_lt : ∀ (H : Hp) (Q : VK), Q (.bl (decide (i < j))) H → rI0 (fun i j => .bl (decide (i < j))) (.int i) (.int j) H Q := fun _ _ q => ⟨i, j, rfl, rfl, q⟩
theorem q_le : ∀ (H : Hp) (Q : VK), Q (.bl (decide (i ≤ j))) H → rI0 (fun i j => .bl (decide (i ≤ j))) (.int i) (.int j) H Q := fun _ _ q => ⟨i, j, rfl, rfl, q⟩
theorem q_gt : ∀ (H : Hp) (Q : VK), Q (.bl (decide (j < i))) H → rI0 (fun i j => .bl (decide (j < i))) (.int i) (.int j) H Q := fun _ _ q => ⟨i, j, rfl, rfl, q⟩
theorem q_ge : ∀ (H : Hp) (Q : VK), Q (.bl (decide (j ≤ i))) H → rI0 (fun i j => .bl (decide (j ≤ i))) (.int i) (.int j) H Q := fun _ _ q => ⟨i, j, rfl, rfl, q⟩
theorem q_eqI : ∀ (H : Hp) (Q : VK), Q (.bl (decide (i = j))) H → rEq (.int i) (.int j) H Q := fun _ _ q => ⟨rfl, by
  have e : decide (V.int i = V.int j) = decide (i = j) := by simp
  rw [e]; exact q⟩
theorem q_neI : ∀ (H : Hp) (Q : VK), Q (.bl (!decide (i = j))) H → rNe (.int i) (.int j) H Q := fun _ _ q => ⟨rfl, by
  have e : decide (V.int i = V.int j) = decide (i = j) := by simp
  rw [e]; exact q⟩
theorem q_eqB {i j : Bool} : ∀ (H : Hp) (Q : VK), Q (.bl (decide (i = j))) H → rEq (.bl i) (.bl j) H Q := fun _ _ q => ⟨rfl, by
  have e : decide (V.bl i = V.bl j) = decide (i = j) := by simp
  rw [e]; exact q⟩
theorem q_neB {i j : Bool} : ∀ (H : Hp) (Q : VK), Q (.bl (!decide (i = j))) H → rNe (.bl i) (.bl j) H Q := fun _ _ q => ⟨rfl, by
  have e : decide (V.bl i = V.bl j) = decide (i = j) := by simp
  rw [e]; exact q⟩
theorem q_eqS {i j : Str} : ∀ (H : Hp) (Q : VK), Q (.bl (decide (i = j))) H → rEq (.str i) (.str j) H Q := fun _ _ q => ⟨rfl, by
  have e : decide (V.str i = V.str j) = decide (i = j) := by simp
  rw [e]; exact q⟩
theorem q_neS {i j : Str} : ∀ (H : Hp) (Q : VK), Q (.bl (!decide (i = j))) H → rNe (.str i) (.str j) H Q := fun _ _ q => ⟨rfl, by
  have e : decide (V.str i = V.str j) = decide (i = j) := by simp
  rw [e]; exact q⟩
end
/-- a < b < c -/
theorem es_chain {g g' : R2} (ha : ES ta W W1 (eV x)) (hb : ES tb W1 W2 (eV y)) (hg : ∀ (H : Hp) (Q : VK), Q (.bl a) H → g x y H Q) (hc : a = true → ES tc W2 W2 (eV z)) (hg' : ∀ (H : Hp) (Q : VK), Q (.bl b) H → g' y z H Q) :
    ES (tChain g g' ta tb tc) W W2 (eB (a && b)) := fun F H σ Q s k =>
  ha F H σ _ s fun v F1 H1 a1 s1 e1 => hb F1 H1 σ _ s1 fun w F2 H2 a2 s2 e2 => by
    have e1' : v = x := e1
    have e2' : w = y := e2
    subst e1' e2'
    refine hg H2 _ ⟨a, rfl, ?_⟩
    cases a with
    | false =>
      rw [if_neg Bool.false_ne_true]
      exact k _ F2 H2 (a1.trans a2) s2 rfl
    | true =>
      rw [if_pos rfl]
      refine hc rfl F2 H2 σ _ s2 fun w' F3 H3 a3 s3 e3 => ?_
      have e3' : w' = z := e3
      subst e3'
      exact hg' H3 Q (k _ F3 H3 ((a1.trans a2).trans a3) s3 rfl)
theorem et_test (h : ES te W W1 (eB b)) : ET (tTest te) W W1 b := fun F H σ Q s k => h F H σ _ s fun v F1 H1 a1 s1 e1 => ⟨b, e1, k F1 H1 a1 s1⟩

/-! arguments, displays -/
theorem as_nil : AS tNil W W [] := fun F H σ Q s k => k [] F H Rel.refl s trivial
theorem as_cons {tr : TA} {rs : List R} (h : ES ta W W1 r) (hr : AS tr W1 W2 rs) : AS (tCons ta tr) W W2 (r :: rs) := fun F H σ Q s k =>
  h F H σ _ s fun v F1 H1 a1 s1 e1 => hr F1 H1 σ _ s1 fun vs F2 H2 a2 s2 e2 => k (v :: vs) F2 H2 (a1.trans a2) s2 ⟨r.mono a2.f e1, e2⟩
theorem es_tup {tr : TA} {rs : List R} (h : AS tr W W1 rs) (hl : rs.length ≤ 100000 := by exact Nat.le_of_ble_eq_true rfl) : ES (tTup tr) W W1 (eT K rs) := fun F H σ Q s k =>
  h F H σ _ s fun vs F1 H1 a1 s1 e1 => ⟨by rw [e1.len]; exact Nat.le_trans hl (by decide), fun p hp => k _ _ _ (a1.trans (Rel.lay s1.ex hp)) (s1.lay hp) ⟨p, vs, rfl, .inl (.inl upd_same), e1.mono fun a o q => by
    rw [upd_ne (ne_of_none q (s1.ex.free hp))]; exact q⟩⟩
theorem not_own {F H : Hp} {σ : St} {p : Addr} (s : Sat F H σ W) (hp : H p = none) : ¬ Own W σ p := fun o => by
  obtain ⟨u, e⟩ := o.lt s
  rw [hp] at e; cases e
theorem en_lst {tr : TA} {rs : List R} (h : AS tr W W1 rs) (hl : rs.length ≤ 100000 := by exact Nat.le_of_ble_eq_true rfl) : ESN (tLst tr) W W1 (oL rs) := fun F H σ Q s k =>
  h F H σ _ s fun vs F1 H1 a1 s1 e1 => ⟨by rw [e1.len]; exact Nat.le_trans hl (by decide), fun p hp =>
    have e : Same H1 (upd H1 p (.lst vs)) := fun a o q => by rw [upd_ne (ne_of_none q hp)]; exact q
    k p (.lst vs) F1 _ (a1.trans (Rel.grow e)) (s1.grow e) (a1.t p hp) upd_same (s1.ex.free hp) (not_own s1 hp) ⟨nofun, vs, rfl, e1⟩⟩
/-- a new list, frozen -/
def eL (rs : List R) : R := ⟨fun F v => ∃ p xs, v = .ref p ∧ F p = some (.lst xs) ∧ All2 rs F xs, fun e ⟨p, xs, h1, h2, h3⟩ => ⟨p, xs, h1, e _ _ h2, h3.mono e⟩⟩
def eLs {α : Type} (e : α → R) (l : List α) : R := eL (l.map e)
/-- what is new may be frozen -/
theorem Sat.freeze {F H : Hp} {σ : St} {p : Addr} {o : HO} (s : Sat F H σ W) (hp : H p = some o) (fp : F p = none) (np : ¬ Own W σ p) : Sat (upd F p o) H σ W := by
  have e : Same F (upd F p o) := fun a u h => by rw [upd_ne (ne_of_none h fp)]; exact h
  refine ⟨fun a u h => ?_, s.len, fun i r h => ?_, fun i c h => ?_, s.ds⟩
  · by_cases q : a = p
    · subst q; rw [upd_same] at h; cases h; exact hp
    · rw [upd_ne q] at h; exact s.ex a u h
  · obtain ⟨v, h1, h2⟩ := s.fz i r h
    exact ⟨v, h1, r.mono e h2⟩
  · obtain ⟨q, u, h1, h2, h3, h4⟩ := s.ow i c h
    have ne : q ≠ p := fun z => by subst z; exact np ⟨i, c, h, h1⟩
    exact ⟨q, u, h1, h2, by rw [upd_ne ne]; exact h3, c.mono e h4⟩
theorem Rel.freeze {F H F' H' : Hp} {M M' : Addr → Prop} {p : Addr} {o : HO} (a : Rel F H M F' H' M') (h0 : H p = none ∨ M p) (fp : F' p = none) : Rel F H M (upd F' p o) H' M' where
  f := fun x u h => by
    have q := a.f x u h
    rw [upd_ne (ne_of_none q fp)]; exact q
  h := a.h
  n := fun x u h => by
    by_cases e : x = p
    · subst e; exact .inr h0
    · rw [upd_ne e] at h; exact a.n x u h
  t := a.t
  o := a.o
theorem es_fr {rs : List R} (h : ESN te W W1 (oL rs)) : ES te W W1 (eL rs) := fun F H σ Q s k =>
  h F H σ _ s fun p o F1 H1 a1 s1 hp ho fp np ⟨_, xs, e, c⟩ => by
    subst e
    exact k _ _ H1 (a1.freeze (.inl hp) fp) (s1.freeze ho fp np) ⟨p, xs, rfl, upd_same, c.mono fun a o q => by rw [upd_ne (ne_of_none q fp)]; exact q⟩
end
end Fw
end
section
set_option maxRecDepth 100000
namespace Fw
open PySem L2
abbrev Nob : Addr → Prop := fun _ => False
/-- the promise of a def that changes nothing: what comes in, when it holds, what comes out -/
def spF {ι : Type} (as : ι → List R) (ok : ι → Prop) (res : ι → R) : Sp := fun vs H Q _ => ∃ (d : ι) (F : Hp), ok d ∧ Same F H ∧ All2 (as d) F vs ∧
  ∀ v F' H', Rel F H Nob F' H' Nob → Same F' H' → (res d).p F' v → Q v H'
/-- .. that changes its first argument alone -/
def spB {ι : Type} (c : ι → List R) (as : ι → List R) (ok : ι → Prop) (c' : ι → List R) (res : ι → R) : Sp := fun vs H Q _ => ∃ (d : ι) (F : Hp) (p : Addr) (o : List V) (ws : List V), vs = .ref p :: ws ∧ ok d ∧ Same F H ∧
  H p = some (.lst o) ∧ F p = none ∧ All2 (c d) F o ∧ All2 (as d) F ws ∧
  ∀ v F' H' o', Rel F H (fun a => a = p) F' H' (fun a => a = p) → Same F' H' → H' p = some (.lst o') → F' p = none → All2 (c' d) F' o' → (res d).p F' v → Q v H'
section
variable {W W' W1 W2 W3 : List Sl} {K : PySem.W.Frag} {ta tb tc te to : TE} {t u : TT} {r ra rb : R} {x y z v : V} {a b : Bool} {ι : Type} {F H F' H' : Hp} {σ : St} {E : XK}
theorem Sat.pure (s : Sat F H σ W) (q : Rel F H Nob F' H' Nob) (e : Same F' H') : Sat F' H' σ W := by
  refine ⟨e, s.len, fun i r h => ?_, fun i c h => ?_, s.ds⟩
  · obtain ⟨v, h1, h2⟩ := s.fz i r h
    exact ⟨v, h1, r.mono q.f h2⟩
  · obtain ⟨p, o, h1, h2, h3, h4⟩ := s.ow i c h
    refine ⟨p, o, h1, q.h p o (fun z => z) h2, ?_, c.mono q.f h4⟩
    cases z : F' p with
    | none => rfl
    | some u =>
      rcases q.n p u z with k | k | k
      · rw [h3] at k; cases k
      · rw [h2] at k; cases k
      · exact k.elim
theorem Rel.pure {M : Addr → Prop} (q : Rel F H Nob F' H' Nob) : Rel F H M F' H' M :=
  ⟨q.f, fun a o _ h => q.h a o (fun z => z) h, fun a o h => (q.n a o h).imp id (Or.imp id False.elim), q.t, fun _ m => .inl m⟩
theorem es_call {as : ι → List R} {ok : ι → Prop} {res : ι → R} {tr : TA} (d : ι) (h : AS tr W W1 (as d)) (g : ok d) : ES (tCall (spF as ok res) [] E tr) W W1 (res d) := fun F H σ Q s k =>
  h F H σ _ s fun vs F1 H1 a1 s1 e1 => by
    rw [List.append_nil]
    exact ⟨d, F1, g, s1.ex, e1, fun v F2 H2 q e2 hv => k v F2 H2 (a1.trans q.pure) (s1.pure q e2) hv⟩
theorem es_callB {c c' : ι → List R} {c0 : OC} {q : Option Addr} {as : ι → List R} {ok : ι → Prop} {res : ι → R} {tr : TA} (d : ι) (i : Nat) (h0 : W[i]? = some (.ow c0)) (h : AS tr W W1 (as d)) (h1 : W1[i]? = some (.ow (oLq q (c d)))) (g : ok d) :
    ES (tCall (spB c as ok c' res) [] E (tCons (tVar i) tr)) W (W1.set i (.ow (oLq q (c' d)))) (res d) := fun F H σ Q s k => by
  obtain ⟨p, o0, e0, _⟩ := s.ow i c0 h0
  refine ⟨.ref p, e0, h F H σ _ s fun vs F1 H1 a1 s1 e1 => ?_⟩
  show spB c as ok c' res ((V.ref p :: vs) ++ []) H1 Q E
  rw [List.append_nil]
  obtain ⟨p', _, e2, g1, g2, gq, o, rfl, g3⟩ := s1.ow i _ h1
  rw [e0] at e2; cases e2
  refine ⟨d, F1, p, o, vs, rfl, g, s1.ex, g1, g2, g3, e1, fun v F2 H2 o2 q' ex hp fp hc hv => ?_⟩
  have mv : ∀ a, a ≠ p → Own W1 σ a → F2 a = none := fun a ne ow => by
    obtain ⟨j, cj, w1, w2⟩ := ow
    obtain ⟨pj, oj, z1, z2, z3, _⟩ := s1.ow j cj w1
    rw [w2] at z1; cases z1
    cases z : F2 a with
    | none => rfl
    | some u =>
      rcases q'.n a u z with y | y | y
      · rw [z3] at y; cases y
      · rw [z2] at y; cases y
      · exact (ne y).elim
  have own1 : Own W1 σ p := ⟨i, _, h1, e0⟩
  refine k v F2 H2 (a1.trans ⟨q'.f, fun a o n hh => q'.h a o (fun z => n (z ▸ own1)) hh, fun a o hh => ?_, q'.t, fun a m => .inl ((Own.mut h1).mp m)⟩) ?_ hv
  · rcases q'.n a o hh with y | y | y
    · exact .inl y
    · exact .inr (.inl y)
    · exact .inr (.inr (y ▸ own1))
  · have hi : i < W1.length := (List.getElem?_eq_some_iff.mp h1).1
    refine ⟨ex, by simpa using s1.len, fun j r hj => ?_, fun j cj hj => ?_, fun j l cj cl a w1 w2 => ?_⟩
    · by_cases ej : i = j
      · subst ej; rw [List.getElem?_set_self hi] at hj; cases hj
      · rw [List.getElem?_set_ne ej] at hj
        obtain ⟨w, y1, y2⟩ := s1.fz j r hj
        exact ⟨w, y1, r.mono q'.f y2⟩
    · by_cases ej : i = j
      · subst ej; rw [List.getElem?_set_self hi] at hj; cases hj
        exact ⟨p, .lst o2, e0, hp, fp, gq, o2, rfl, hc⟩
      · rw [List.getElem?_set_ne ej] at hj
        obtain ⟨pj, oj, z1, z2, z3, z4⟩ := s1.ow j cj hj
        have ne : pj ≠ p := fun z => by subst z; exact ej (s1.ds i j _ _ _ h1 hj e0 z1)
        exact ⟨pj, oj, z1, q'.h pj oj ne z2, mv pj ne ⟨j, cj, hj, z1⟩, cj.mono q'.f z4⟩
    · have old : ∀ (j : Nat) (e : OC), (W1.set i (.ow (oLq q (c' d))))[j]? = some (.ow e) → ∃ e', W1[j]? = some (.ow e') := fun j e h => by
        by_cases z : i = j
        · subst z; exact ⟨_, h1⟩
        · rw [List.getElem?_set_ne z] at h; exact ⟨e, h⟩
      obtain ⟨b1, y1⟩ := old j cj w1
      obtain ⟨b2, y2⟩ := old l cl w2
      exact s1.ds j l b1 b2 a y1 y2
/-! subscripts -/
theorem sqT_up {a : Addr} {xs : List V} (e : Same F F') (h : SqT K F a xs) : SqT K F' a xs := by
  cases h with
  | inl h => cases h with
    | inl h => exact .inl (.inl (e _ _ h))
    | inr h => exact .inl (.inr (h.imp fun o h => e _ _ h))
  | inr h => exact .inr h
theorem atI_k {α : Type} {xs : List α} {k : Nat} {x : α} (h : xs[k]? = some x) : atI xs (k : Int) = some x := by
  have hk : k < xs.length := (List.getElem?_eq_some_iff.mp h).1
  unfold atI ixN
  rw [if_pos (Int.natCast_nonneg k), if_pos (by omega)]
  simpa using h
theorem es_ixT {rs : List R} {k : Nat} (h : ES ta W W1 (eT K rs)) (hk : rs[k]? = some r) : ES (tOp (rIxT K) ta (tC (.int (k : Int)))) W W1 r := fun F H σ Q s q =>
  h F H σ _ s fun v F1 H1 a1 s1 ⟨p, xs, e1, e2, e3⟩ => by
    subst e1
    obtain ⟨x, g1, g2⟩ := e3.get' hk
    exact ⟨p, xs, (k : Int), x, rfl, rfl, sqT_up s1.ex e2, atI_k g1, q x F1 H1 a1 s1 g2⟩
end
end Fw
end
section
set_option maxRecDepth 100000
namespace Fw
open PySem L2
section
variable {W W' W0 W1 W2 W3 : List Sl} {K : PySem.W.Frag} {ta tb tc te to : TE} {tc' : TT} {r ra rb : R} {x y z v : V} {a b : Bool} {ι : Type} {F H F' H' : Hp} {σ : St} {E : XK} {P P1 : Post} {tt uu : TS}
/-! statements -/
theorem ss_nx (h : P.nx W) : SS tNext W P := fun F H σ D s kn _ _ _ => kn W σ F H h Rel.refl s
theorem ss_brk (h : P.bk W) : SS tBreak W P := fun F H σ D s _ _ kb _ => kb W σ F H h Rel.refl s
theorem ss_cont (h : P.ct W) : SS tCont W P := fun F H σ D s _ _ _ kc => kc W σ F H h Rel.refl s
theorem ss_never (h : False) : SS tt W P := h.elim
/-- one statement, then the rest -/
theorem ss_seq (N : List Sl → Prop) (h : SS tt W ⟨N, P.rt, P.bk, P.ct⟩) (k : ∀ W', N W' → SS uu W' P) : SS (tSeq tt uu) W P := fun F H σ D s kn kr kb kc =>
  h F H σ { D with nx := uu D } s
    (fun W1 σ1 F1 H1 n a1 s1 => k W1 n F1 H1 σ1 D s1 (fun W2 σ2 F2 H2 n2 a2 s2 => kn W2 σ2 F2 H2 n2 (a1.trans a2) s2) (fun W2 σ2 r v F2 H2 n2 a2 s2 => kr W2 σ2 r v F2 H2 n2 (a1.trans a2) s2)
      (fun W2 σ2 F2 H2 n2 a2 s2 => kb W2 σ2 F2 H2 n2 (a1.trans a2) s2) fun W2 σ2 F2 H2 n2 a2 s2 => kc W2 σ2 F2 H2 n2 (a1.trans a2) s2)
    kr kb kc
/-- .. what is forgotten between -/
theorem ss_seqTo (W1 : List Sl) (h : SS tt W ⟨fun W' => Wk W' W1, P.rt, P.bk, P.ct⟩) (k : SS uu W1 P) : SS (tSeq tt uu) W P := fun F H σ D s kn kr kb kc =>
  h F H σ { D with nx := uu D } s
    (fun W' σ1 F1 H1 n a1 s1 => k F1 H1 σ1 D (s1.weak n) (fun W2 σ2 F2 H2 n2 a2 s2 => kn W2 σ2 F2 H2 n2 ((a1.sub fun _ o => n.sub o).trans a2) s2) (fun W2 σ2 r v F2 H2 n2 a2 s2 => kr W2 σ2 r v F2 H2 n2 ((a1.sub fun _ o => n.sub o).trans a2) s2)
      (fun W2 σ2 F2 H2 n2 a2 s2 => kb W2 σ2 F2 H2 n2 ((a1.sub fun _ o => n.sub o).trans a2) s2) fun W2 σ2 F2 H2 n2 a2 s2 => kc W2 σ2 F2 H2 n2 ((a1.sub fun _ o => n.sub o).trans a2) s2)
    kr kb kc
theorem SS.weak (h : SS tt W1 P) (k : Wk W W1) : SS tt W P := fun F H σ D s kn kr kb kc =>
  h F H σ D (s.weak k) (fun W2 σ2 F2 H2 n2 a2 s2 => kn W2 σ2 F2 H2 n2 ((Rel.refl.sub fun _ o => k.sub o).trans a2) s2) (fun W2 σ2 r v F2 H2 n2 a2 s2 => kr W2 σ2 r v F2 H2 n2 ((Rel.refl.sub fun _ o => k.sub o).trans a2) s2)
    (fun W2 σ2 F2 H2 n2 a2 s2 => kb W2 σ2 F2 H2 n2 ((Rel.refl.sub fun _ o => k.sub o).trans a2) s2) fun W2 σ2 F2 H2 n2 a2 s2 => kc W2 σ2 F2 H2 n2 ((Rel.refl.sub fun _ o => k.sub o).trans a2) s2
theorem SS.imp {P' : Post} (h : SS tt W P) (n : ∀ W', P.nx W' → P'.nx W') (q : ∀ W' r, P.rt W' r → P'.rt W' r) (bk : ∀ W', P.bk W' → P'.bk W') (ct : ∀ W', P.ct W' → P'.ct W') : SS tt W P' := fun F H σ D s kn kr kb kc =>
  h F H σ D s (fun W' σ' F' H' z => kn W' σ' F' H' (n _ z)) (fun W' σ' r v F' H' z => kr W' σ' r v F' H' (q _ _ z)) (fun W' σ' F' H' z => kb W' σ' F' H' (bk _ z)) fun W' σ' F' H' z => kc W' σ' F' H' (ct _ z)
/-- x = e -/
theorem ss_set {i : Nat} (h : ES te W W1 r) (k : P.nx (W1.set i (.fz r))) : SS (tAsg te (gName i)) W P := fun F H σ D s kn _ _ _ =>
  h F H σ _ s fun v F1 H1 a1 s1 e1 => kn _ _ F1 H1 k (a1.sub fun _ o => o.put) (s1.put e1)
/-- x = e, e new: x owns it -/
theorem ss_own {i : Nat} {c : OC} (h : ESN te W W1 c) (k : P.nx (W1.set i (.ow c))) : SS (tAsg te (gName i)) W P := fun F H σ D s kn _ _ _ =>
  h F H σ _ s fun p o F1 H1 a1 s1 hp ho fp np hc => kn _ _ F1 H1 k
    ⟨a1.f, a1.h, a1.n, a1.t, fun a m => (Own.own m).elim (a1.o a) fun z => .inr (z ▸ hp)⟩ (s1.own ho fp np hc)
theorem ss_ret (h : ES te W W1 r) (k : P.rt W1 r) : SS (tRet te) W P := fun F H σ D s _ kr _ _ =>
  h F H σ _ s fun v F1 H1 a1 s1 e1 => kr W1 σ r v F1 H1 k a1 s1 e1
theorem ss_drop (h : ES te W W1 r) (k : P.nx W1) : SS (tDrop te) W P := fun F H σ D s kn _ _ _ =>
  h F H σ _ s fun v F1 H1 a1 s1 e1 => kn W1 σ F1 H1 k a1 s1
theorem ss_if (h : ET tc' W W1 a) (h1 : a = true → SS tt W1 P) (h2 : a = false → SS uu W1 P) : SS (tIfS tc' tt uu) W P := fun F H σ D s kn kr kb kc =>
  h F H σ _ s fun F1 H1 a1 s1 => by
    cases a with
    | true =>
      rw [if_pos rfl]
      exact h1 rfl F1 H1 σ D s1 (fun W2 σ2 F2 H2 n2 a2 s2 => kn W2 σ2 F2 H2 n2 (a1.trans a2) s2) (fun W2 σ2 r v F2 H2 n2 a2 s2 => kr W2 σ2 r v F2 H2 n2 (a1.trans a2) s2)
        (fun W2 σ2 F2 H2 n2 a2 s2 => kb W2 σ2 F2 H2 n2 (a1.trans a2) s2) fun W2 σ2 F2 H2 n2 a2 s2 => kc W2 σ2 F2 H2 n2 (a1.trans a2) s2
    | false =>
      rw [if_neg Bool.false_ne_true]
      exact h2 rfl F1 H1 σ D s1 (fun W2 σ2 F2 H2 n2 a2 s2 => kn W2 σ2 F2 H2 n2 (a1.trans a2) s2) (fun W2 σ2 r v F2 H2 n2 a2 s2 => kr W2 σ2 r v F2 H2 n2 (a1.trans a2) s2)
        (fun W2 σ2 F2 H2 n2 a2 s2 => kb W2 σ2 F2 H2 n2 (a1.trans a2) s2) fun W2 σ2 F2 H2 n2 a2 s2 => kc W2 σ2 F2 H2 n2 (a1.trans a2) s2
/-- targets: from a frozen value, the slots behind; is: the slots that are stored -/
def GS (g : TG) (r : R) (W W' : List Sl) (is : List Nat) : Prop := ∀ (F H : Hp) (σ : St) (v : V) (Q : St → Hp → Prop), Sat F H σ W → r.p F v →
  (∀ σ', (∀ a, Own W' σ' a → Own W σ a) → Sat F H σ' W' → (σ'.length = σ.length ∧ ∀ j, j ∉ is → σ'[j]? = σ[j]?) → Q σ' H) → g v σ H Q
theorem gs_name (i : Nat) : GS (gName i) r W (W.set i (.fz r)) [i] := fun F H σ v Q s hv k => k _ (fun _ o => o.put) (s.put hv) ⟨by simp, fun j hj => by
  rw [List.getElem?_set_ne (by simpa [eq_comm] using hj)]⟩
/-- several targets -/
def GSs (g : TGs) (rs : List R) (W W' : List Sl) (is : List Nat) : Prop := ∀ (F H : Hp) (σ : St) (vs : List V) (Q : St → Hp → Prop), Sat F H σ W → All2 rs F vs →
  (∀ σ', (∀ a, Own W' σ' a → Own W σ a) → Sat F H σ' W' → (σ'.length = σ.length ∧ ∀ j, j ∉ is → σ'[j]? = σ[j]?) → Q σ' H) → g vs σ H Q
theorem gs_nil : GSs gNil [] W W [] := fun F H σ vs Q s hv k => by
  cases vs with
  | nil => exact ⟨rfl, k σ (fun _ o => o) s ⟨rfl, fun _ _ => rfl⟩⟩
  | cons v vs => exact hv.elim
theorem gs_cons {g : TG} {gs : TGs} {rs : List R} {is js : List Nat} (h1 : GS g r W W1 is) (h2 : GSs gs rs W1 W2 js) : GSs (gCons g gs) (r :: rs) W W2 (is ++ js) := fun F H σ vs Q s hv k => by
  cases vs with
  | nil => exact hv.elim
  | cons v vs => exact ⟨v, vs, rfl, h1 F H σ v _ s hv.1 fun σ1 o1 s1 d1 => h2 F H σ1 vs Q s1 hv.2 fun σ2 o2 s2 d2 => k σ2 (fun a o => o1 a (o2 a o)) s2 ⟨d2.1.trans d1.1, fun j hj => by
      rw [d2.2 j (fun z => hj (List.mem_append_right _ z)), d1.2 j (fun z => hj (List.mem_append_left _ z))]⟩⟩
theorem gs_tup {gs : TGs} {rs : List R} {n : Nat} {is : List Nat} (h : GSs gs rs W W1 is) (hn : rs.length = n := by rfl) : GS (gTup K n gs) (eT K rs) W W1 is := fun F H σ v Q s ⟨p, xs, e1, e2, e3⟩ k =>
  ⟨p, xs, e1, sqT_up s.ex e2, e3.len.trans hn, h F H σ xs Q s e3 k⟩
theorem ss_asg {g : TG} {is : List Nat} (h : ES te W W1 r) (hg : GS g r W1 W2 is) (k : P.nx W2) : SS (tAsg te g) W P := fun F H σ D s kn _ _ _ =>
  h F H σ _ s fun v F1 H1 a1 s1 e1 => hg F1 H1 σ v _ s1 e1 fun σ2 o2 s2 _ => kn W2 σ2 F1 H1 k (a1.sub o2) s2
/-- a, b = e1, e2 -/
theorem ss_par {i j : Nat} {tr : TA} (h : AS tr W W1 [ra, rb]) (k : P.nx ((W1.set i (.fz ra)).set j (.fz rb))) : SS (tPar i j tr) W P := fun F H σ D s kn _ _ _ =>
  h F H σ _ s fun vs F1 H1 a1 s1 e1 => by
    match vs, e1 with
    | [v, w], e1 => exact ⟨v, w, rfl, kn _ _ F1 H1 k (a1.sub fun _ o => (o.put).put) ((s1.put e1.1).put e1.2.1)⟩
    | [], e1 => exact e1.elim
    | [_], e1 => exact e1.2.elim
    | _ :: _ :: _ :: _, e1 => exact e1.2.2.elim
/-- x += e, x -= e -/
theorem ss_aug {i : Nat} {f : Int → Int → Int} {m n : Int} (h0 : W[i]? = some (.fz (eI m))) (h : ES te W W1 (eI n)) (k : P.nx (W1.set i (.fz (eI (f m n))))) : SS (tAug i te (ipI f)) W P := fun F H σ D s kn _ _ _ => by
  obtain ⟨v, e, hv⟩ := s.fz i _ h0
  have hv' : v = V.int m := hv
  subst hv'
  refine ⟨_, e, h F H σ _ s fun w F1 H1 a1 s1 e1 => ?_⟩
  have e1' : w = V.int n := e1
  subst e1'
  exact ⟨m, n, rfl, rfl, kn _ _ F1 H1 k (a1.sub fun _ o => o.put) (s1.put rfl)⟩
/-- xs.append(e) as a statement, xs owned -/
theorem ss_append {i : Nat} {rs0 rs : List R} {q0 q1 : Option Addr} (h0 : W[i]? = some (.ow (oLq q0 rs0))) (h : ES te W W1 r) (h1 : W1[i]? = some (.ow (oLq q1 rs))) (hl : rs.length < 16000000) (k : P.nx (W1.set i (.ow (oLq q1 (rs ++ [r]))))) :
    SS (tDrop (tBM K "list" rAppend (tVar i) (tCons te tNil))) W P := fun F H σ D s kn _ _ _ => by
  obtain ⟨p, o, e0, g1, _, ⟨_, xs, rfl, _⟩⟩ := s.ow i _ h0
  refine ⟨.ref p, e0, .inl ⟨rfl, xs, .inl (.inl g1)⟩, h F H σ _ s fun v F1 H1 a1 s1 e1 => ?_⟩
  obtain ⟨p', o', e0', y1, y2, ⟨yq, ys, rfl, y3⟩⟩ := s1.ow i _ h1
  rw [e0] at e0'; cases e0'
  refine ⟨p, ys, v, rfl, rfl, y1, Nat.lt_of_lt_of_le (by rw [y3.len]; exact hl) (by decide), kn _ _ _ _ k (a1.trans ⟨fun _ _ z => z, fun a u n z => ?_, fun _ _ z => .inl z, fun a z => ?_, fun a m => .inl ((Own.mut h1).mp m)⟩) (s1.mut h1 e0 ⟨yq, _, rfl, y3.app ⟨e1, trivial⟩⟩)⟩
  · rw [upd_ne (fun q : a = p => n (by rw [q]; exact ⟨i, _, h1, e0⟩))]; exact z
  · by_cases q : a = p
    · subst q; rw [upd_same] at z; cases z
    · rw [upd_ne q] at z; exact z
/-- xs[-1] = e, xs owned and not empty -/
theorem ss_setlast {i : Nat} {rs : List R} {q1 : Option Addr} (h : ES te W W1 r) (h1 : W1[i]? = some (.ow (oLq q1 rs))) (hl : rs ≠ []) (k : P.nx (W1.set i (.ow (oLq q1 (rs.set (rs.length - 1) r))))) :
    SS (tAsg te (gSub (tVar i) (tUn (rU fun i => .int (-i)) (tC (.int 1))) rSetL)) W P := fun F H σ D s kn _ _ _ =>
  h F H σ _ s fun v F1 H1 a1 s1 e1 => by
    obtain ⟨p, o, e0, y1, y2, ⟨yq, ys, rfl, y3⟩⟩ := s1.ow i _ h1
    have pos : 0 < rs.length := List.length_pos_iff.mpr hl
    have el := y3.len
    refine ⟨.ref p, e0, 1, rfl, p, ys, -1, rs.length - 1, rfl, rfl, y1, ?_, kn _ _ _ _ k (a1.trans ⟨fun _ _ z => z, fun a u n z => ?_, fun _ _ z => .inl z, fun a z => ?_, fun a m => .inl ((Own.mut h1).mp m)⟩) (s1.mut h1 e0 ⟨yq, _, rfl, y3.set e1 _⟩)⟩
    · unfold ixN
      rw [if_neg (by omega), if_pos (by omega)]
      congr 1
      omega
    · rw [upd_ne (fun q : a = p => n (by rw [q]; exact ⟨i, _, h1, e0⟩))]; exact z
    · by_cases q : a = p
      · subst q; rw [upd_same] at z; cases z
      · rw [upd_ne q] at z; exact z
/-! loops -/
theorem ss_forL {g : TG} {tb : TS} {tl : TE} {rs : List R} (I : Nat → List Sl → Prop) (h : ES tl W W1 (eL rs)) (h0 : I 0 W1)
    (hs : ∀ i r W', rs[i]? = some r → I i W' → ∃ W2 is, GS g r W' W2 is ∧ SS tb W2 ⟨I (i + 1), P.rt, P.nx, I (i + 1)⟩) (hd : ∀ W', I rs.length W' → P.nx W') : SS (tFor (iList K tl) g tb) W P := fun F H σ D s kn kr kb kc =>
  h F H σ _ s fun v F1 H1 a1 s1 ⟨p, xs, e1, e2, e3⟩ => by
    refine ⟨p, e1, ⟨xs, .inl (.inl (s1.ex _ _ e2))⟩, for_list (xs := xs) (fun i σ' H' => ∃ W' F', I i W' ∧ Rel F1 H1 (Own W1 σ) F' H' (Own W' σ') ∧ Sat F' H' σ' W') ⟨W1, F1, h0, Rel.refl, s1⟩
      (fun i σ' H' _ ⟨W', F', _, q, s'⟩ => .inl (.inl (s'.ex _ _ (q.f _ _ e2)))) ?_ ?_⟩
    · rintro i x σ' H' hx ⟨W', F', hi, q, s'⟩
      obtain ⟨r, hr, rx⟩ := e3.get hx
      obtain ⟨W2, is, hg, hb⟩ := hs i r W' hr hi
      refine hg F' H' σ' x _ s' (r.mono q.f rx) fun σ2 o2 s2 _ => hb F' H' σ2 _ s2 ?_ ?_ ?_ ?_
      · exact fun W3 σ3 F3 H3 n3 a3 s3 => ⟨W3, F3, n3, (q.sub o2).trans a3, s3⟩
      · exact fun W3 σ3 r3 v3 F3 H3 n3 a3 s3 y3 => kr W3 σ3 r3 v3 F3 H3 n3 (a1.trans ((q.sub o2).trans a3)) s3 y3
      · exact fun W3 σ3 F3 H3 n3 a3 s3 => kn W3 σ3 F3 H3 n3 (a1.trans ((q.sub o2).trans a3)) s3
      · exact fun W3 σ3 F3 H3 n3 a3 s3 => ⟨W3, F3, n3, (q.sub o2).trans a3, s3⟩
    · rintro σ' H' ⟨W', F', hi, q, s'⟩
      rw [e3.len] at hi
      exact kn W' σ' F' H' (hd W' hi) (a1.trans q) s'
theorem ss_forT {g : TG} {tb : TS} {tl : TE} {rs : List R} (I : Nat → List Sl → Prop) (h : ES tl W W1 (eT K rs)) (h0 : I 0 W1)
    (hs : ∀ i r W', rs[i]? = some r → I i W' → ∃ W2 is, GS g r W' W2 is ∧ SS tb W2 ⟨I (i + 1), P.rt, P.nx, I (i + 1)⟩) (hd : ∀ W', I rs.length W' → P.nx W') : SS (tFor (iTup K tl) g tb) W P := fun F H σ D s kn kr kb kc =>
  h F H σ _ s fun v F1 H1 a1 s1 ⟨p, xs, e1, e2, e3⟩ => by
    refine ⟨p, e1, ⟨xs, sqT_up s1.ex e2⟩, for_tup (xs := xs) (fun i σ' H' => ∃ W' F', I i W' ∧ Rel F1 H1 (Own W1 σ) F' H' (Own W' σ') ∧ Sat F' H' σ' W') ⟨W1, F1, h0, Rel.refl, s1⟩
      (fun i σ' H' _ ⟨W', F', _, q, s'⟩ => sqT_up s'.ex (sqT_up q.f e2)) ?_ ?_⟩
    · rintro i x σ' H' hx ⟨W', F', hi, q, s'⟩
      obtain ⟨r, hr, rx⟩ := e3.get hx
      obtain ⟨W2, is, hg, hb⟩ := hs i r W' hr hi
      refine hg F' H' σ' x _ s' (r.mono q.f rx) fun σ2 o2 s2 _ => hb F' H' σ2 _ s2 ?_ ?_ ?_ ?_
      · exact fun W3 σ3 F3 H3 n3 a3 s3 => ⟨W3, F3, n3, (q.sub o2).trans a3, s3⟩
      · exact fun W3 σ3 r3 v3 F3 H3 n3 a3 s3 y3 => kr W3 σ3 r3 v3 F3 H3 n3 (a1.trans ((q.sub o2).trans a3)) s3 y3
      · exact fun W3 σ3 F3 H3 n3 a3 s3 => kn W3 σ3 F3 H3 n3 (a1.trans ((q.sub o2).trans a3)) s3
      · exact fun W3 σ3 F3 H3 n3 a3 s3 => ⟨W3, F3, n3, (q.sub o2).trans a3, s3⟩
    · rintro σ' H' ⟨W', F', hi, q, s'⟩
      rw [e3.len] at hi
      exact kn W' σ' F' H' (hd W' hi) (a1.trans q) s'
/-- over range(lo, hi): its walk -/
theorem ss_rng {g : TG} {tb : TS} {D : Ends} {F1 H1 : Hp} {lo : Int} {n : Nat} (I : Nat → List Sl → Prop) (s1 : Sat F1 H1 σ W1) (h0 : I 0 W1)
    (hs : ∀ i W', i < n → I i W' → ∃ W2 is, GS g (eI (lo + i)) W' W2 is ∧ SS tb W2 ⟨I (i + 1), P.rt, P.nx, I (i + 1)⟩) (hd : ∀ W', I n W' → P.nx W')
    (kn : ∀ W' σ' F' H', P.nx W' → Rel F1 H1 (Own W1 σ) F' H' (Own W' σ') → Sat F' H' σ' W' → D.nx σ' H')
    (kr : ∀ W' σ' r v F' H', P.rt W' r → Rel F1 H1 (Own W1 σ) F' H' (Own W' σ') → Sat F' H' σ' W' → r.p F' v → D.rt v H') :
    ∃ W : Nat → Nat → St → Hp → Prop, (∃ m, W 0 m σ H1) ∧ ∀ i m σ H, W i m σ H →
      ((Itr lo n).stop i H ∧ D.nx σ H) ∨ ((Itr lo n).go i H ∧ ∃ N : St → Hp → Prop, (∀ σ' H', N σ' H' → ∃ m', m' < m ∧ W (i + 1) m' σ' H') ∧ ∀ x H', (Itr lo n).yld i H x H' → g x σ H' fun σ2 H2 => tb { D with nx := N, ct := N, bk := D.nx } σ2 H2) := by
  refine for_range (fun i σ' H' => ∃ W' F', I i W' ∧ Rel F1 H1 (Own W1 σ) F' H' (Own W' σ') ∧ Sat F' H' σ' W') ⟨W1, F1, h0, Rel.refl, s1⟩ ?_ ?_
  · rintro i σ' H' hi ⟨W', F', hI, q, s'⟩
    obtain ⟨W2, is, hg, hb⟩ := hs i W' hi hI
    refine hg F' H' σ' _ _ s' rfl fun σ2 o2 s2 _ => hb F' H' σ2 _ s2 ?_ ?_ ?_ ?_
    · exact fun W3 σ3 F3 H3 n3 a3 s3 => ⟨W3, F3, n3, (q.sub o2).trans a3, s3⟩
    · exact fun W3 σ3 r3 v3 F3 H3 n3 a3 s3 y3 => kr W3 σ3 r3 v3 F3 H3 n3 ((q.sub o2).trans a3) s3 y3
    · exact fun W3 σ3 F3 H3 n3 a3 s3 => kn W3 σ3 F3 H3 n3 ((q.sub o2).trans a3) s3
    · exact fun W3 σ3 F3 H3 n3 a3 s3 => ⟨W3, F3, n3, (q.sub o2).trans a3, s3⟩
  · rintro σ' H' ⟨W', F', hi, q, s'⟩
    exact kn W' σ' F' H' (hd W' hi) q s'
theorem ss_forR1 {g : TG} {tb : TS} {tr : TA} {n : Int} (I : Nat → List Sl → Prop) (h : AS tr W W1 [eI n]) (hn : n < 2 ^ 62) (hn' : -(2 ^ 62) ≤ n) (h0 : I 0 W1)
    (hs : ∀ i W', i < n.toNat → I i W' → ∃ W2 is, GS g (eI (0 + (i : Int))) W' W2 is ∧ SS tb W2 ⟨I (i + 1), P.rt, P.nx, I (i + 1)⟩) (hd : ∀ W', I n.toNat W' → P.nx W') : SS (tFor (iRng1 tr) g tb) W P := fun F H σ D s kn kr kb kc =>
  h F H σ _ s fun vs F1 H1 a1 s1 e1 => by
    match vs, e1 with
    | [v], e1 =>
      have e : v = V.int n := e1.1
      subst e
      exact ⟨n, rfl, hn', hn, ss_rng I s1 h0 hs hd (fun W' σ' F' H' z q => kn W' σ' F' H' z (a1.trans q)) fun W' σ' r v F' H' z q => kr W' σ' r v F' H' z (a1.trans q)⟩
    | [], e1 => exact e1.elim
    | _ :: _ :: _, e1 => exact e1.2.elim
theorem ss_forR2 {g : TG} {tb : TS} {tr : TA} {lo n : Int} (I : Nat → List Sl → Prop) (h : AS tr W W1 [eI lo, eI n]) (hn : -(2 ^ 62) ≤ lo ∧ lo < 2 ^ 62 ∧ -(2 ^ 62) ≤ n ∧ n < 2 ^ 62) (h0 : I 0 W1)
    (hs : ∀ i W', i < (n - lo).toNat → I i W' → ∃ W2 is, GS g (eI (lo + (i : Int))) W' W2 is ∧ SS tb W2 ⟨I (i + 1), P.rt, P.nx, I (i + 1)⟩) (hd : ∀ W', I (n - lo).toNat W' → P.nx W') : SS (tFor (iRng2 tr) g tb) W P := fun F H σ D s kn kr kb kc =>
  h F H σ _ s fun vs F1 H1 a1 s1 e1 => by
    match vs, e1 with
    | [v, w], e1 =>
      have e : v = V.int lo := e1.1
      have e' : w = V.int n := e1.2.1
      subst e e'
      exact ⟨lo, n, rfl, hn, ss_rng I s1 h0 hs hd (fun W' σ' F' H' z q => kn W' σ' F' H' z (a1.trans q)) fun W' σ' r v F' H' z q => kr W' σ' r v F' H' z (a1.trans q)⟩
    | [], e1 => exact e1.elim
    | [_], e1 => exact e1.2.elim
    | _ :: _ :: _ :: _, e1 => exact e1.2.2.elim
end
end Fw
end
section
set_option maxRecDepth 100000
namespace Fw
open PySem L2
/-! folds: how a loop's data goes -/
def okF {α β : Type} (ok : β → α → Prop) (b : β → α → β) : β → List α → Prop
  | _, [] => True
  | s, x :: xs => ok s x ∧ okF ok b (b s x) xs
theorem okF_at {α β : Type} {ok : β → α → Prop} {b : β → α → β} : ∀ {l : List α} {s : β} {i : Nat} {x : α}, okF ok b s l → l[i]? = some x → ok ((l.take i).foldl b s) x
  | y :: ys, s, 0, x, h, e => by simp at e; subst e; exact h.1
  | y :: ys, s, i + 1, x, h, e => okF_at (l := ys) (s := b s y) (i := i) h.2 (by simpa using e)
  | [], _, _, _, _, e => by simp at e
theorem foldl_take {α β : Type} {b : β → α → β} : ∀ {l : List α} {s : β} {i : Nat} {x : α}, l[i]? = some x → (l.take (i + 1)).foldl b s = b ((l.take i).foldl b s) x
  | y :: ys, s, 0, x, e => by simp at e; subst e; simp
  | y :: ys, s, i + 1, x, e => foldl_take (l := ys) (s := b s y) (i := i) (by simpa using e)
  | [], _, _, _, e => by simp at e
@[irreducible] def rng (lo hi : Int) : List Int := (List.range (hi - lo).toNat).map fun k : Nat => lo + (k : Int)
theorem rng_at {lo hi : Int} {i : Nat} (h : i < (hi - lo).toNat) : (rng lo hi)[i]? = some (lo + (i : Int)) := by
  unfold rng
  rw [List.getElem?_map, List.getElem?_range h]; rfl
theorem rng_len {lo hi : Int} : (rng lo hi).length = (hi - lo).toNat := by unfold rng; simp
section
variable {W W' W0 W1 W2 W3 : List Sl} {K : PySem.W.Frag} {ta tb tc te to tl : TE} {tc' tt : TT} {r ra rb : R} {x y z v : V} {a b : Bool} {ι : Type} {F H F' H' : Hp} {σ : St} {E : XK} {P P1 : Post} {ts uu : TS} {g : TG}
variable {α β : Type}
/-- for x in l, the data fold -/
theorem sf_L {e : α → R} {l : List α} (mk : β → List Sl) (bd : β → α → β) (ok : β → α → Prop) (s0 : β) (h : ES tl W W1 (eLs e l)) (w : Wk W1 (mk s0)) (hg : okF ok bd s0 l)
    (hs : ∀ s x, x ∈ l → ok s x → ∃ W2 is, GS g (e x) (mk s) W2 is ∧ SS ts W2 ⟨fun W' => Wk W' (mk (bd s x)), P.rt, fun _ => False, fun W' => Wk W' (mk (bd s x))⟩) (hd : ∀ W', Wk W' (mk (l.foldl bd s0)) → P.nx W') : SS (tFor (iList K tl) g ts) W P := by
  refine ss_forL (K := K) (fun i W' => Wk W' (mk ((l.take i).foldl bd s0))) h (by simpa using w) (fun i r W' hr hi => ?_) fun W' hw => hd W' (by rw [List.length_map, List.take_length] at hw; exact hw)
  rw [List.getElem?_map] at hr
  cases q : l[i]? with
  | none => rw [q] at hr; cases hr
  | some x =>
    rw [q] at hr
    have er : e x = r := Option.some.inj hr
    subst er
    obtain ⟨W2, is, h1, h2⟩ := hs _ x (List.mem_of_getElem? q) (okF_at hg q)
    rw [foldl_take q]
    refine ⟨W2, is, fun F H σ v Q s hv k => h1 F H σ v Q (s.weak hi) hv fun σ' o s' d => k σ' (fun a z => hi.sub (o a z)) s' d, ?_⟩
    exact h2.imp (fun _ z => z) (fun _ _ z => z) (fun _ z => z.elim) fun _ z => z
theorem sf_T {e : α → R} {l : List α} (mk : β → List Sl) (bd : β → α → β) (ok : β → α → Prop) (s0 : β) (h : ES tl W W1 (eT K (l.map e))) (w : Wk W1 (mk s0)) (hg : okF ok bd s0 l)
    (hs : ∀ s x, x ∈ l → ok s x → ∃ W2 is, GS g (e x) (mk s) W2 is ∧ SS ts W2 ⟨fun W' => Wk W' (mk (bd s x)), P.rt, fun _ => False, fun W' => Wk W' (mk (bd s x))⟩) (hd : ∀ W', Wk W' (mk (l.foldl bd s0)) → P.nx W') : SS (tFor (iTup K tl) g ts) W P := by
  refine ss_forT (K := K) (fun i W' => Wk W' (mk ((l.take i).foldl bd s0))) h (by simpa using w) (fun i r W' hr hi => ?_) fun W' hw => hd W' (by rw [List.length_map, List.take_length] at hw; exact hw)
  rw [List.getElem?_map] at hr
  cases q : l[i]? with
  | none => rw [q] at hr; cases hr
  | some x =>
    rw [q] at hr
    have er : e x = r := Option.some.inj hr
    subst er
    obtain ⟨W2, is, h1, h2⟩ := hs _ x (List.mem_of_getElem? q) (okF_at hg q)
    rw [foldl_take q]
    refine ⟨W2, is, fun F H σ v Q s hv k => h1 F H σ v Q (s.weak hi) hv fun σ' o s' d => k σ' (fun a z => hi.sub (o a z)) s' d, ?_⟩
    exact h2.imp (fun _ z => z) (fun _ _ z => z) (fun _ z => z.elim) fun _ z => z
theorem sf_R2 {tr : TA} {lo n : Int} (mk : β → List Sl) (bd : β → Int → β) (ok : β → Int → Prop) (s0 : β) (h : AS tr W W1 [eI lo, eI n]) (hn : -(2 ^ 62) ≤ lo ∧ lo < 2 ^ 62 ∧ -(2 ^ 62) ≤ n ∧ n < 2 ^ 62) (w : Wk W1 (mk s0)) (hg : okF ok bd s0 (rng lo n))
    (hs : ∀ s x, lo ≤ x → x < n → ok s x → ∃ W2 is, GS g (eI x) (mk s) W2 is ∧ SS ts W2 ⟨fun W' => Wk W' (mk (bd s x)), P.rt, fun _ => False, fun W' => Wk W' (mk (bd s x))⟩) (hd : ∀ W', Wk W' (mk ((rng lo n).foldl bd s0)) → P.nx W') : SS (tFor (iRng2 tr) g ts) W P := by
  refine ss_forR2 (fun i W' => Wk W' (mk (((rng lo n).take i).foldl bd s0))) h hn (by simpa using w) (fun i W' hr hi => ?_) fun W' hw => hd W' (by rw [← rng_len (lo := lo), List.take_length] at hw; exact hw)
  have q := rng_at hr
  obtain ⟨W2, is, h1, h2⟩ := hs _ _ (by omega) (by omega) (okF_at hg q)
  rw [foldl_take q]
  refine ⟨W2, is, fun F H σ v Q s hv k => h1 F H σ v Q (s.weak hi) hv fun σ' o s' d => k σ' (fun a z => hi.sub (o a z)) s' d, ?_⟩
  exact h2.imp (fun _ z => z) (fun _ _ z => z) (fun _ z => z.elim) fun _ z => z
theorem sf_R1 {tr : TA} {n : Int} (mk : β → List Sl) (bd : β → Int → β) (ok : β → Int → Prop) (s0 : β) (h : AS tr W W1 [eI n]) (hn : -(2 ^ 62) ≤ n ∧ n < 2 ^ 62) (w : Wk W1 (mk s0)) (hg : okF ok bd s0 (rng 0 n))
    (hs : ∀ s x, 0 ≤ x → x < n → ok s x → ∃ W2 is, GS g (eI x) (mk s) W2 is ∧ SS ts W2 ⟨fun W' => Wk W' (mk (bd s x)), P.rt, fun _ => False, fun W' => Wk W' (mk (bd s x))⟩) (hd : ∀ W', Wk W' (mk ((rng 0 n).foldl bd s0)) → P.nx W') : SS (tFor (iRng1 tr) g ts) W P := by
  have en : (n - 0).toNat = n.toNat := by omega
  refine ss_forR1 (fun i W' => Wk W' (mk (((rng 0 n).take i).foldl bd s0))) h hn.2 hn.1 (by simpa using w) (fun i W' hr hi => ?_) fun W' hw => hd W' (by rw [← en, ← rng_len (lo := 0), List.take_length] at hw; exact hw)
  have q : (rng 0 n)[i]? = some (0 + (i : Int)) := rng_at (by rw [en]; exact hr)
  obtain ⟨W2, is, h1, h2⟩ := hs _ _ (by omega) (by omega) (okF_at hg q)
  rw [foldl_take q]
  refine ⟨W2, is, fun F H σ v Q s hv k => h1 F H σ v Q (s.weak hi) hv fun σ' o s' d => k σ' (fun a z => hi.sub (o a z)) s' d, ?_⟩
  exact h2.imp (fun _ z => z) (fun _ _ z => z) (fun _ z => z.elim) fun _ z => z
/-! while -/
def wRun (c : β → Bool) (bd : β → β) : Nat → β → β
  | 0, s => s
  | n + 1, s => if c s = true then wRun c bd n (bd s) else s
def wOk (c : β → Bool) (bd : β → β) (okc okb : β → Prop) : Nat → β → Prop
  | 0, s => okc s ∧ c s = false
  | n + 1, s => okc s ∧ (c s = true → okb s ∧ wOk c bd okc okb n (bd s))
theorem sf_while (mk : β → List Sl) (c : β → Bool) (bd : β → β) (okc okb : β → Prop) (n : Nat) (s0 : β) (w : Wk W (mk s0)) (hg : wOk c bd okc okb n s0)
    (hc : ∀ s, okc s → ET tc' (mk s) (mk s) (c s)) (hs : ∀ s, c s = true → okb s → SS ts (mk s) ⟨fun W' => Wk W' (mk (bd s)), P.rt, fun _ => False, fun W' => Wk W' (mk (bd s))⟩)
    (hd : ∀ W', Wk W' (mk (wRun c bd n s0)) → P.nx W') : SS (tWhile tc' ts) W P := fun F H σ D s kn kr kb kc => by
  refine ⟨fun m σ' H' => ∃ t W' F', wOk c bd okc okb m t ∧ wRun c bd m t = wRun c bd n s0 ∧ Wk W' (mk t) ∧ Rel F H (Own W σ) F' H' (Own W' σ') ∧ Sat F' H' σ' W', ⟨n, s0, W, F, hg, rfl, w, Rel.refl, s⟩, ?_⟩
  rintro m σ' H' ⟨t, W', F', g1, g2, g3, g4, g5⟩
  have okc' : okc t := by cases m with
    | zero => exact g1.1
    | succ m => exact g1.1
  refine hc t okc' F' H' σ' _ (g5.weak g3) fun F1 H1 a1 s1 => ?_
  have a1' : Rel F H (Own W σ) F1 H1 (Own (mk t) σ') := (g4.sub fun _ o => g3.sub o).trans a1
  cases q : c t with
  | true =>
    rw [if_pos rfl]
    cases m with
    | zero => rw [g1.2] at q; cases q
    | succ m =>
      obtain ⟨y1, y2⟩ := g1.2 q
      have er : wRun c bd m (bd t) = wRun c bd n s0 := by rw [← g2]; show _ = if c t = true then _ else _; rw [if_pos q]
      refine ⟨fun σ2 H2 => ∃ t W' F', wOk c bd okc okb m t ∧ wRun c bd m t = wRun c bd n s0 ∧ Wk W' (mk t) ∧ Rel F H (Own W σ) F' H2 (Own W' σ2) ∧ Sat F' H2 σ2 W', fun σ2 H2 z => ⟨m, Nat.lt_succ_self m, z⟩, ?_⟩
      refine hs t q y1 F1 H1 σ' _ s1 (fun W2 σ2 F2 H2 n2 a2 s2 => ⟨_, W2, F2, y2, er, n2, a1'.trans a2, s2⟩) (fun W2 σ2 r v F2 H2 n2 a2 s2 => kr W2 σ2 r v F2 H2 n2 (a1'.trans a2) s2) (fun _ _ _ _ z => z.elim)
        fun W2 σ2 F2 H2 n2 a2 s2 => ⟨_, W2, F2, y2, er, n2, a1'.trans a2, s2⟩
  | false =>
    rw [if_neg Bool.false_ne_true]
    have er : t = wRun c bd n s0 := by
      rw [← g2]
      cases m with
      | zero => rfl
      | succ m => show t = if c t = true then _ else _; rw [if_neg (by rw [q]; exact Bool.false_ne_true)]
    exact kn (mk t) σ' F1 H1 (hd _ (by rw [← er]; exact Wk.refl)) a1' s1
end
end Fw
end
section
set_option maxRecDepth 100000
namespace Fw
open PySem L2
/-! comprehensions -/
theorem wipe_in {σ : St} {i : Nat} : ∀ {vs : List Nat}, i ∈ vs → (wipe σ vs)[i]? = if i < σ.length then some none else none
  | v :: vs, h => by
    show ((wipe σ vs).set v none)[i]? = _
    have el : (wipe σ vs).length = σ.length := wipe_length σ vs
    by_cases e : v = i
    · subst e
      by_cases hl : v < σ.length
      · rw [List.getElem?_set_self (by rw [el]; exact hl), if_pos hl]
      · rw [List.getElem?_eq_none (by rw [List.length_set, el]; omega), if_neg hl]
    · rw [List.getElem?_set_ne e]
      exact wipe_in ((List.mem_cons.mp h).resolve_left fun z => e z.symm)
theorem wipe_out' {σ : St} {i : Nat} : ∀ {vs : List Nat}, i ∉ vs → (wipe σ vs)[i]? = σ[i]?
  | [], _ => rfl
  | v :: vs, h => by
    show ((wipe σ vs).set v none)[i]? = _
    rw [List.getElem?_set_ne (fun e => h (by rw [e]; exact List.mem_cons_self)), wipe_out' fun z => h (List.mem_cons_of_mem _ z)]
theorem wipe_eq {σ σ' : St} {vs is : List Nat} (hl : σ'.length = σ.length) (h : ∀ j, j ∉ is → σ'[j]? = (wipe σ vs)[j]?) (hs : ∀ j ∈ is, j ∈ vs) : wipe σ' vs = wipe σ vs := by
  refine List.ext_getElem? fun j => ?_
  by_cases hj : j ∈ vs
  · rw [wipe_in hj, wipe_in hj, hl]
  · rw [wipe_out' hj]
    exact h j fun z => hj (hs j z)
def wipeW : List Sl → List Nat → List Sl
  | W, [] => W
  | W, v :: vs => (wipeW W vs).set v .no
section
variable {W W' W0 W1 W2 W3 : List Sl} {K : PySem.W.Frag} {ta tb tc te to tl : TE} {tc' tt : TT} {r ra rb : R} {x y z v : V} {a b : Bool} {ι : Type} {F H F' H' : Hp} {σ : St} {E : XK} {P P1 : Post} {ts uu : TS} {g : TG}
variable {α β : Type}
theorem Sat.wipe (s : Sat F H σ W) : ∀ vs : List Nat, Sat F H (L2.wipe σ vs) (wipeW W vs) ∧ ∀ a, Own (wipeW W vs) (L2.wipe σ vs) a → Own W σ a
  | [] => ⟨s, fun _ o => o⟩
  | w :: vs => by
    obtain ⟨s1, o1⟩ := Sat.wipe s vs
    have key : ∀ (i : Nat) (c : OC), ((wipeW W vs).set w .no)[i]? = some (.ow c) → w ≠ i ∧ (wipeW W vs)[i]? = some (.ow c) := fun i c h => by
      by_cases e : w = i
      · subst e
        have hi : w < (wipeW W vs).length := by
          have := (List.getElem?_eq_some_iff.mp h).1
          simpa using this
        rw [List.getElem?_set_self hi] at h; cases h
      · rw [List.getElem?_set_ne e] at h; exact ⟨e, h⟩
    have keyf : ∀ (i : Nat) (c : R), ((wipeW W vs).set w .no)[i]? = some (.fz c) → w ≠ i ∧ (wipeW W vs)[i]? = some (.fz c) := fun i c h => by
      by_cases e : w = i
      · subst e
        have hi : w < (wipeW W vs).length := by
          have := (List.getElem?_eq_some_iff.mp h).1
          simpa using this
        rw [List.getElem?_set_self hi] at h; cases h
      · rw [List.getElem?_set_ne e] at h; exact ⟨e, h⟩
    refine ⟨⟨s1.ex, by show ((L2.wipe σ vs).set w none).length = ((wipeW W vs).set w .no).length; rw [List.length_set, List.length_set]; exact s1.len, fun i c h => ?_, fun i c h => ?_, fun i j c d p h1 h2 h3 h4 => ?_⟩, fun p ⟨i, c, h1, h2⟩ => ?_⟩
    · obtain ⟨ne, q⟩ := keyf i c h
      obtain ⟨u, y1, y2⟩ := s1.fz i c q
      exact ⟨u, by show ((L2.wipe σ vs).set w none)[i]? = _; rw [List.getElem?_set_ne ne]; exact y1, y2⟩
    · obtain ⟨ne, q⟩ := key i c h
      obtain ⟨p, o, y1, y2⟩ := s1.ow i c q
      exact ⟨p, o, by show ((L2.wipe σ vs).set w none)[i]? = _; rw [List.getElem?_set_ne ne]; exact y1, y2⟩
    · obtain ⟨ne, q⟩ := key i c h1
      obtain ⟨ne', q'⟩ := key j d h2
      have h3' : ((L2.wipe σ vs).set w none)[i]? = some (some (.ref p)) := h3
      have h4' : ((L2.wipe σ vs).set w none)[j]? = some (some (.ref p)) := h4
      rw [List.getElem?_set_ne ne] at h3'
      rw [List.getElem?_set_ne ne'] at h4'
      exact s1.ds i j c d p q q' h3' h4'
    · obtain ⟨ne, q⟩ := key i c h1
      have h2' : ((L2.wipe σ vs).set w none)[i]? = some (some (.ref p)) := h2
      rw [List.getElem?_set_ne ne] at h2'
      exact o1 p ⟨i, c, q, h2'⟩
/-- the frozen slots alone -/
def frW : List Sl → List Sl
  | [] => []
  | .ow _ :: W => .no :: frW W
  | .fz r :: W => .fz r :: frW W
  | .no :: W => .no :: frW W
theorem frW_at : ∀ {W : List Sl} {i : Nat} {s : Sl}, (frW W)[i]? = some s → s = .no ∨ W[i]? = some s
  | .ow _ :: W, 0, s, h => .inl (by cases h; rfl)
  | .fz _ :: W, 0, s, h => .inr h
  | .no :: W, 0, s, h => .inr h
  | .ow _ :: W, i + 1, s, h => frW_at (W := W) (i := i) h
  | .fz _ :: W, i + 1, s, h => frW_at (W := W) (i := i) h
  | .no :: W, i + 1, s, h => frW_at (W := W) (i := i) h
theorem frW_len : ∀ W : List Sl, (frW W).length = W.length
  | [] => rfl
  | .ow _ :: W => congrArg (· + 1) (frW_len W)
  | .fz _ :: W => congrArg (· + 1) (frW_len W)
  | .no :: W => congrArg (· + 1) (frW_len W)
theorem frW_no : ∀ {W : List Sl} {i : Nat} {c : OC}, ¬ (frW W)[i]? = some (.ow c)
  | .ow _ :: W, 0, s, h => by cases h
  | .fz _ :: W, 0, s, h => by cases h
  | .no :: W, 0, s, h => by cases h
  | .ow _ :: W, i + 1, s, h => frW_no (W := W) (i := i) h
  | .fz _ :: W, i + 1, s, h => frW_no (W := W) (i := i) h
  | .no :: W, i + 1, s, h => frW_no (W := W) (i := i) h
theorem own_fr {p : Addr} (o : Own (frW W) σ p) : False := by
  obtain ⟨i, c, h, _⟩ := o
  exact frW_no h
theorem Sat.fr (s : Sat F H σ W) : Sat F H σ (frW W) := by
  refine ⟨s.ex, s.len.trans (frW_len W).symm, fun i r h => ?_, fun i c h => (frW_no h).elim, fun i j c d p h => (frW_no h).elim⟩
  rcases frW_at h with z | z
  · cases z
  · exact s.fz i r z
/-- the slots in a comprehension's block -/
def blW (W : List Sl) (vs : List Nat) : List Sl := frW (wipeW W vs)
/-- what the walk of a comprehension keeps -/
def CI (F1 H1 : Hp) (D : Addr) (rs : List R) (H : Hp) : Prop :=
  ∃ F acc, Rel F1 H1 Nob F H Nob ∧ Same F H ∧ F D = none ∧ H D = some (.lst acc) ∧ All2 rs F acc
theorem ci_turn {F1 H1 : Hp} {D : Addr} {rs : List R} {vs is : List Nat} {p : Bool} {xv : V} (hD : H1 D = none) (s1 : Sat F1 H1 σ W1) (c : CI F1 H1 D rs H) (hx : ra.p F1 xv) (hl : rs.length < 16000000)
    (hg : GS g ra (blW W1 vs) W2 is) (his : ∀ j ∈ is, j ∈ vs) (ht : ET tt W2 W2 p) (he : p = true → ES te W2 W2 rb) :
    g xv (wipe σ vs) H fun σ2 H2 => wipe σ2 vs = wipe σ vs ∧ tt σ2 H2 fun b H3 =>
      if b = true then te σ2 H3 fun y H4 => ∃ acc, H4 D = some (.lst acc) ∧ acc.length < sizeLine ∧ CI F1 H1 D (if p = true then rs ++ [rb] else rs) (upd H4 D (.lst (acc ++ [y]))) else CI F1 H1 D (if p = true then rs ++ [rb] else rs) H3 := by
  obtain ⟨F, acc, q, ex, fD, hDl, ha⟩ := c
  obtain ⟨sw, _⟩ := (s1.pure q ex).wipe vs
  refine hg F H (wipe σ vs) xv _ sw.fr (ra.mono q.f hx) fun σ2 o2 s2 d2 => ⟨wipe_eq (d2.1.trans (wipe_length σ vs)) d2.2 his, ?_⟩
  have none2 : ∀ a, ¬ Own W2 σ2 a := fun a o => own_fr (o2 a o)
  have up : ∀ {F F' H H' : Hp}, Rel F H (Own W2 σ2) F' H' (Own W2 σ2) → Rel F H Nob F' H' Nob := fun {F F' H H'} a =>
    ⟨a.f, fun x o n h => a.h x o (none2 x) h, fun x o h => (a.n x o h).imp id (Or.imp id fun m => none2 x m), a.t, fun x m => .inl m⟩
  refine ht F H σ2 _ s2 fun F3 H3 a3 s3 => ?_
  have q3 := q.trans (up a3)
  have hD3 : H3 D = some (.lst acc) := (up a3).h D _ (fun z => z) hDl
  have fresh : ∀ {F' H' : Hp}, Rel F1 H1 Nob F' H' Nob → Rel F H Nob F' H' Nob → F' D = none := fun {F' H'} a b => by
    cases z : F' D with
    | none => rfl
    | some u =>
      rcases b.n D u z with y | y | y
      · rw [fD] at y; cases y
      · rw [hDl] at y; cases y
      · exact y.elim
  cases p with
  | false =>
    rw [if_neg Bool.false_ne_true, if_neg Bool.false_ne_true]
    exact ⟨F3, acc, q3, s3.ex, fresh q3 (up a3), hD3, ha.mono a3.f⟩
  | true =>
    rw [if_pos rfl, if_pos rfl]
    refine he rfl F3 H3 σ2 _ s3 fun y F4 H4 a4 s4 hy => ?_
    have q4 := q3.trans (up a4)
    have f4 := fresh q4 ((up a3).trans (up a4))
    refine ⟨acc, (up a4).h D _ (fun z => z) hD3, Nat.lt_of_lt_of_le (by rw [ha.len]; exact hl) (by decide), F4, acc ++ [y], ?_, fun a o h => ?_, f4, upd_same, (ha.mono (fun a o h => a4.f a o (a3.f a o h))).app ⟨hy, trivial⟩⟩
    · refine ⟨q4.f, fun a o n h => ?_, q4.n, fun a h => ?_, fun _ m => m.elim⟩
      · rw [upd_ne (ne_of_none h hD)]; exact q4.h a o n h
      · by_cases e : a = D
        · subst e; exact hD
        · rw [upd_ne e] at h; exact q4.t a h
    · rw [upd_ne (ne_of_none h f4)]; exact s4.ex a o h
/-- how a comprehension's data goes -/
def lcR {α : Type} (p : α → Bool) (f : α → R) (l : List α) : List R := (l.filter p).map f
theorem lcR_take {p : α → Bool} {f : α → R} {l : List α} {i : Nat} {x : α} (h : l[i]? = some x) : lcR p f (l.take (i + 1)) = if p x = true then lcR p f (l.take i) ++ [f x] else lcR p f (l.take i) := by
  have hi := (List.getElem?_eq_some_iff.mp h).1
  have e : l.take (i + 1) = l.take i ++ [x] := by
    rw [List.take_add_one, h]; rfl
  unfold lcR
  rw [e, List.filter_append, List.map_append]
  by_cases q : p x = true
  · rw [if_pos q, List.filter_cons, if_pos q]; rfl
  · rw [if_neg q, List.filter_cons, if_neg q]; simp
theorem lcR_len {p : α → Bool} {f : α → R} {l : List α} : (lcR p f l).length ≤ l.length := by
  unfold lcR; rw [List.length_map]; exact List.length_filter_le p l
/-- [f x for x in l if p x] -/
theorem en_lcL {e : α → R} {l : List α} {f : α → R} {vs is : List Nat} (p : α → Bool) (W2 : α → List Sl) (h : ES tl W W1 (eLs e l)) (hz : l.length < 16000000) (his : ∀ j ∈ is, j ∈ vs)
    (hg : ∀ x, GS g (e x) (blW W1 vs) (W2 x) is) (ht : ∀ x ∈ l, ET tt (W2 x) (W2 x) (p x)) (he : ∀ x ∈ l, p x = true → ES te (W2 x) (W2 x) (f x)) :
    ESN (tLc (iList K tl) g tt te vs) W W1 (oL ((l.filter p).map f)) := fun F H σ Q s k =>
  h F H σ _ s fun v F1 H1 a1 s1 ⟨a, xs, e1, e2, e3⟩ => by
    refine ⟨a, e1, ⟨xs, .inl (.inl (s1.ex _ _ e2))⟩, fun D hD => ?_⟩
    have fD : F1 D = none := s1.ex.free hD
    refine lc_list (xs := xs) (fun i H' => CI F1 H1 D (lcR p f (l.take i)) H') ?_ (fun i H' _ ⟨F', acc, q, ex, _⟩ => .inl (.inl (ex _ _ (q.f _ _ e2)))) ?_ ?_
    · refine ⟨F1, [], Rel.grow fun a o h => ?_, fun a o h => ?_, fD, upd_same, by simp [lcR, All2]⟩
      · rw [upd_ne (ne_of_none h hD)]; exact h
      · rw [upd_ne (ne_of_none h fD)]; exact s1.ex a o h
    · intro i x H' hx c
      obtain ⟨r, hr, rx⟩ := e3.get hx
      rw [List.getElem?_map] at hr
      cases q : l[i]? with
      | none => rw [q] at hr; cases hr
      | some y =>
        rw [q] at hr
        have er : e y = r := Option.some.inj hr
        subst er
        have my := List.mem_of_getElem? q
        show g x (wipe σ vs) H' fun σ2 H2 => wipe σ2 vs = wipe σ vs ∧ tt σ2 H2 fun b H3 =>
          if b = true then te σ2 H3 fun y H4 => ∃ acc, H4 D = some (.lst acc) ∧ acc.length < sizeLine ∧ CI F1 H1 D (lcR p f (l.take (i + 1))) (upd H4 D (.lst (acc ++ [y]))) else CI F1 H1 D (lcR p f (l.take (i + 1))) H3
        rw [lcR_take q]
        exact ci_turn hD s1 c rx (by have := lcR_len (p := p) (f := f) (l := l.take i); have := List.length_take_le' i l; omega) (hg y) his (ht y my) (he y my)
    · rintro H' ⟨F', acc, q, ex, f', hDl, ha⟩
      rw [e3.len, List.length_map, List.take_length] at ha
      exact k D _ F' H' (a1.trans q.pure) (s1.pure q ex) (a1.t D hD) hDl f' (fun o => by
        obtain ⟨u, z⟩ := o.lt s1
        rw [hD] at z; cases z) ⟨nofun, acc, rfl, ha⟩
theorem en_lcR2 {f : Int → R} {vs is : List Nat} {tr : TA} {lo n : Int} (p : Int → Bool) (W2 : Int → List Sl) (h : AS tr W W1 [eI lo, eI n]) (hn : -(2 ^ 62) ≤ lo ∧ lo < 2 ^ 62 ∧ -(2 ^ 62) ≤ n ∧ n < 2 ^ 62) (hz : n - lo < 16000000) (his : ∀ j ∈ is, j ∈ vs)
    (hg : ∀ x, GS g (eI x) (blW W1 vs) (W2 x) is) (ht : ∀ x ∈ rng lo n, ET tt (W2 x) (W2 x) (p x)) (he : ∀ x ∈ rng lo n, p x = true → ES te (W2 x) (W2 x) (f x)) :
    ESN (tLc (iRng2 tr) g tt te vs) W W1 (oL (((rng lo n).filter p).map f)) := fun F H σ Q s k =>
  h F H σ _ s fun ws F1 H1 a1 s1 e1 => by
    match ws, e1 with
    | [], e1 => exact e1.elim
    | [_], e1 => exact e1.2.elim
    | _ :: _ :: _ :: _, e1 => exact e1.2.2.elim
    | [v, w], e1 =>
      have ev : v = V.int lo := e1.1
      have ew : w = V.int n := e1.2.1
      subst ev ew
      refine ⟨lo, n, rfl, hn, fun D hD => ?_⟩
      have fD : F1 D = none := s1.ex.free hD
      refine lc_range (fun i H' => CI F1 H1 D (lcR p f ((rng lo n).take i)) H') ?_ ?_ ?_
      · refine ⟨F1, [], Rel.grow fun a o h => ?_, fun a o h => ?_, fD, upd_same, by simp [lcR, All2]⟩
        · rw [upd_ne (ne_of_none h hD)]; exact h
        · rw [upd_ne (ne_of_none h fD)]; exact s1.ex a o h
      · intro i H' hi c
        have q := rng_at hi
        have my := List.mem_of_getElem? q
        show g _ (wipe σ vs) H' fun σ2 H2 => wipe σ2 vs = wipe σ vs ∧ tt σ2 H2 fun b H3 =>
          if b = true then te σ2 H3 fun y H4 => ∃ acc, H4 D = some (.lst acc) ∧ acc.length < sizeLine ∧ CI F1 H1 D (lcR p f ((rng lo n).take (i + 1))) (upd H4 D (.lst (acc ++ [y]))) else CI F1 H1 D (lcR p f ((rng lo n).take (i + 1))) H3
        rw [lcR_take q]
        exact ci_turn hD s1 c (show (eI (lo + i)).p F1 _ from rfl) (by have := lcR_len (p := p) (f := f) (l := (rng lo n).take i); have := List.length_take_le' i (rng lo n); rw [rng_len] at this; omega) (hg _) his (ht _ my) (he _ my)
      · rintro H' ⟨F', acc, q, ex, f', hDl, ha⟩
        rw [← rng_len, List.take_length] at ha
        exact k D _ F' H' (a1.trans q.pure) (s1.pure q ex) (a1.t D hD) hDl f' (fun o => by
          obtain ⟨u, z⟩ := o.lt s1
          rw [hD] at z; cases z) ⟨nofun, acc, rfl, ha⟩
theorem et_yes : ET tYes W W true := fun F H σ Q s k => k F H Rel.refl s
end
end Fw
end
section
set_option maxRecDepth 100000
namespace Fw
open PySem L2 PySem.Spec PyProof.Rows
/-- a def's promise where no guard of a display runs -/
structure FnG (P : Program) (w : World) (K : PySem.W.Frag) (mg : Str → Option Value) (base : Heap) (CX : CXT) (k : Nat) (f : Addr) (fd : FuncData) (ps : List Str) (sp : Sp) : Prop where
  len : ∀ vs H Q E, sp vs H Q E → vs.length = ps.length
  run : ∀ (A : Around) (outer : List Env) (s : Shared) (H : Hp) (args : Args) (us : List Value) (vs : List V) (Q : VK) (E : XK), A.guards = some [] → Room k A → Env0 P w K mg base A outer s H →
    BindsTo s fd args (ps.zip us) → Vals vs us → sp vs H Q E → codeAny (model P w) A (.call (.ref f) args) (CR CX outer P w H s Q E) s
section
variable {P : Program} {w : World} {K : PySem.W.Frag} {mg : Str → Option Value} {base : Heap} {CX : CXT} {k j : Nat} {f : Addr} {fd : FuncData} {ps : List Str} {sp sp' : Sp}
theorem FnG.mono (F : FnG P w K mg base CX j f fd ps sp) (h : j ≤ k) : FnG P w K mg base CX k f fd ps sp :=
  ⟨F.len, fun A outer s H args us vs Q E hg hr => F.run A outer s H args us vs Q E hg (hr.mono h)⟩
theorem FnG.imp (F : FnG P w K mg base CX k f fd ps sp) (h : ∀ vs H Q E, sp' vs H Q E → sp vs H Q E) : FnG P w K mg base CX k f fd ps sp' :=
  ⟨fun vs H Q E q => F.len vs H Q E (h _ _ _ _ q), fun A outer s H args us vs Q E hg hr he hb hv hs => F.run A outer s H args us vs Q E hg hr he hb hv (h _ _ _ _ hs)⟩
theorem FnG.of (F : FnOk P w K mg base CX k f fd ps sp) : FnG P w K mg base CX k f fd ps sp := ⟨F.len, fun A outer s H args us vs Q E _ => F.run A outer s H args us vs Q E⟩
/-- a def of the text, by its body -/
theorem fng_of {name qual : Str} {params : Arguments} {body : List Stmt} {scope : Scope} {dV kV doc pm cdv ct oc : Value} {an od : Option Addr} {osl : Array (Option Value)} {N : List Str}
    (lk : K.lookup f = some ⟨oc, od, .func (PySem.W.fnOf name qual params body scope dV kV doc pm an cdv ct), osl⟩) (hcd : PySem.W.codeIn K cdv qual = true) (S : FnScope N ps scope) (len : ∀ vs H Q E, sp vs H Q E → vs.length = ps.length)
    (hbody : ∀ (A : Around) (outer : List Env) (s : Shared) (H : Hp) (vs : List V) (Q : VK) (E : XK), A.guards = some [] → Room k (A.deeper (envOfC qual scope s.heap.objs.size f cdv)) → sp vs H Q E →
      ∃ t, PSs (cxOf CX P w K mg base N qual scope f cdv A outer s H E) body t ∧ t { nx := fun _ H' => Q .non H', rt := Q } (start N vs) H) :
    FnG P w K mg base CX (k + 1) f (PySem.W.fnOf name qual params body scope dV kV doc pm an cdv ct) ps sp :=
  ⟨len, fun A outer s H args us vs Q E hg hr e0 hb r hsp => by
    have old : ∀ b o, base.get? b = some o → s.heap.get? b = some o := fun b o e => (e0.bs b o e).1
    have KX := e0.mod.kin.keeps old
    have lim := e0.mod.nolimit.keeps old
    refine codeAny_call_function hr.depth (KX _ _ lk) rfl S.co S.gen rfl (PySem.W.codeRec_of KX hcd) (hb _ _ _ _ ?_)
    refine wpAny_newFunctionEnv_cells S.kind (fun y hy => ?_) fun env he s1 x => ?_
    · obtain ⟨n, v⟩ := y
      exact (S.par n (List.of_mem_zip hy).1).imp id fun q => ⟨q, PySem.W.cellsFrom_some _ _ _ (.inl q)⟩
    · subst he
      obtain ⟨t, ht, hq⟩ := hbody A outer s H vs Q E hg (hr.deeper _) hsp
      have I := inv_start (CX := CX) (E := E) S hr.hd e0 (len _ _ _ _ hsp) r x
      have fin : ∀ {s' : Shared} {σ' : L2.St} {H' : Hp} {v : V} {u : Value}, Inv (cxOf CX P w K mg base N qual scope f cdv A outer s H E) [] σ' H' s' → RelV v u → Q v H' → CE outer P w H s Q u s' :=
        fun J rv q => ⟨_, _, J.os, J.bare, J.base, J.hok, rv, q⟩
      refine ⟨lim.keeps x.toInCall.keep, codeAny_func (wpAny_mono (ht.run [] s1 (start N vs) H _ I hq) (fun fl s' hs => ?_) fun e s' hs => hs)⟩
      cases fl with
      | ret u => exact let ⟨v, σ', H', J, rv, q⟩ := hs; fin J rv q
      | next => exact let ⟨σ', H', J, q⟩ := hs; fin (v := V.non) (u := Value.none) J rfl q
      | brk => exact hs.elim fun _ z => z.elim fun _ z => z.2.elim
      | cont => exact hs.elim fun _ z => z.elim fun _ z => z.2.elim⟩
theorem Fun.okG {x qual : Str} {st : Stmt} {N : List Str} (F : L2.Fun K x qual st f fd) (S : FnScope N ps (defScope st)) (len : ∀ vs H Q E, sp vs H Q E → vs.length = ps.length)
    (hbody : ∀ (cdv : Value) (A : Around) (outer : List Env) (s : Shared) (H : Hp) (vs : List V) (Q : VK) (E : XK), A.guards = some [] → Room k (A.deeper (envOfC qual (defScope st) s.heap.objs.size f cdv)) → sp vs H Q E →
      ∃ t, PSs (cxOf CX0 P w K mg base N qual (defScope st) f cdv A outer s H E).nox (defBody st) t ∧ t { nx := fun _ H' => Q .non H', rt := Q } (start N vs) H) : FnG P w K mg base CX0 (k + 1) f fd ps sp := by
  obtain ⟨oc, od, kV, doc, pm, an, cdv, ct, osl, e, lk, hcd⟩ := F.ex
  subst e
  exact fng_of lk hcd S len fun A outer s H vs Q E hg hr hsp => let ⟨t, h, q⟩ := hbody cdv A outer s H vs Q E hg hr hsp; ⟨t, h.nox, q⟩
end
section
variable {X : Cx} {CX : CXT} {k : Nat} {f C p g : Addr} {fd : FuncData} {ps : List Str} {sp : Sp} {dvs : List V} {ds : List Value} {E : XK} {x m : Str} {pp pos apos : Pos} {e o : Expr} {es : List Expr} {ta : TE} {t : TA}
theorem run_fng {pins : List (Addr × Obj)} {σ : L2.St} {H : Hp} {s : Shared} {Q : VK} {us : List Value} {vs : List V} (F : FnG X.prog X.w X.K X.mg X.base CX k f fd ps sp) (hG : X.A.guards = some []) (hr : Room k X.A) (hb : Binds X.K fd ps ds) (hd : Vals dvs ds)
    (hx : Passes CX X E) (I : Inv X pins σ H s) (r : Vals vs us) (h : sp (vs ++ dvs) H Q E) : wpAny (model X.prog X.w) X.A (call (.ref f) us) (EP X pins σ Q) X.xe s := by
  have r2 := r.append hd
  refine wpAny_call (codeAny_mono (F.run X.A X.stack s H ⟨us, []⟩ _ _ Q E hG hr I.env0 (hb s us I.kIn (r2.length.symm.trans (F.len _ _ _ _ h))) r2 h) fun q s' hq => ?_)
  match q, hq with
  | .error e, hq => exact hx pins σ H s e s' I hq
  | .ok (.ret u), hq => exact I.after hq
  | .ok .next, hq => exact hq.elim
  | .ok .brk, hq => exact hq.elim
  | .ok .cont, hq => exact hq.elim
theorem pg_call (F : FnG X.prog X.w X.K X.mg X.base CX k f fd ps sp) (hG : X.A.guards = some []) (hr : Room k X.A) (hg : Gl X x) (hm : X.mg x = some (.ref f)) (hk : PySem.W.keepIn X.K (.ref f) = true) (hb : Binds X.K fd ps ds) (hd : Vals dvs ds) (hx : Passes CX X E)
    (ha : PA X (e :: es) t) (hdb : (x == ("__debug__" : Str)) = false := by decide) (he : starEach (e :: es) X.env = (false, eval e X.env) :: starEach es X.env := by rfl) (hpl : (backTo pos (starEach es X.env)).any (·.1) = false := by rfl) :
    PE X (.Call (.Name x pp) (e :: es) [] pos) (tCall sp dvs E t) :=
  ⟨fun pins s σ H Q I h => wpAny_Call_Name_kw (ld_glob I hg hm (PySem.W.callWith_K (h₀ := X.base) I.ok.mod.kin hk
    (thn (ha.run pos pins s σ H _ I h) fun us s1 ⟨vs, H1, I1, r, q⟩ => ⟨I1.kIn, run_fng F hG hr hb hd hx I1 r q⟩) he hpl) hdb)⟩
theorem pg_call0 (F : FnG X.prog X.w X.K X.mg X.base CX k f fd ps sp) (hG : X.A.guards = some []) (hr : Room k X.A) (hg : Gl X x) (hm : X.mg x = some (.ref f)) (hk : PySem.W.keepIn X.K (.ref f) = true) (hb : Binds X.K fd ps ds) (hd : Vals dvs ds) (hx : Passes CX X E)
    (hdb : (x == ("__debug__" : Str)) = false := by decide) : PE X (.Call (.Name x pp) [] [] pos) (tCall sp dvs E tNil) :=
  ⟨fun pins s σ H Q I h => wpAny_Call_Name_kw (ld_glob I hg hm (PySem.W.callWith_K0 I.kIn hk (run_fng (us := []) F hG hr hb hd hx I .nil h)) hdb)⟩
theorem pg_meth {pl : Sem Bool} (he : PE X o ta) (c : Cls X.K C) (hm : Meth X.K C m f) (F : FnG X.prog X.w X.K X.mg X.base CX k f fd ps sp) (hG : X.A.guards = some []) (hr : Room k X.A) (hb : Binds X.K fd ps ds) (hd : Vals dvs ds) (hx : Passes CX X E) (ha : PA X (e :: es) t)
    (hst : starEach (e :: es) X.env = (false, eval e X.env) :: starEach es X.env := by rfl) (hpl : (backTo pos (starEach es X.env)).any (·.1) = false := by rfl)
    (ht : eval (.Call (.Attribute o m apos) (e :: es) [] pos) X.env = (eval o X.env >>= fun ov => standAt apos.atName >>= fun _ => holding [ov] (getMethod ov m pl) >>= fun fm =>
      callWith pos fm.1 fm.2 (backTo pos (starEach (e :: es) X.env)) (backToKw pos (keywordEach [] X.env))) := by rfl) :
    PE X (.Call (.Attribute o m apos) (e :: es) [] pos) (tMeth C m sp dvs E ta t) := by
  refine ⟨fun pins s σ H Q I h => PySem.W.methodCall_KW (pl := pl) (thn (he.run pins s σ H _ I h) fun u s1 ⟨x, H1, I1, rx, a, dx, fs, ex, ea, l, q⟩ => ?_) ht⟩
  subst ex
  cases (show u = Value.ref a from rx)
  refine getmeth_ok I1 ea c hm l (PySem.W.callWith_K (first := [.ref a]) (h₀ := X.base) I.ok.mod.kin hm.kp (thn (ha.run pos pins s1 σ H1 _ I1 q) fun us s2 ⟨vs, H2, I2, r, q2⟩ => ⟨I2.kIn, ?_⟩) hst hpl)
  exact run_fng (us := .ref a :: us) (vs := .ref a :: vs) F hG hr hb hd hx I2 (.cons rfl r) q2
theorem pg_meth0 {pl : Sem Bool} (he : PE X o ta) (c : Cls X.K C) (hm : Meth X.K C m f) (F : FnG X.prog X.w X.K X.mg X.base CX k f fd ps sp) (hG : X.A.guards = some []) (hr : Room k X.A) (hb : Binds X.K fd ps ds) (hd : Vals dvs ds) (hx : Passes CX X E)
    (ht : eval (.Call (.Attribute o m apos) [] [] pos) X.env = (eval o X.env >>= fun ov => standAt apos.atName >>= fun _ => holding [ov] (getMethod ov m pl) >>= fun fm =>
      callWith pos fm.1 fm.2 (backTo pos (starEach [] X.env)) (backToKw pos (keywordEach [] X.env))) := by rfl) :
    PE X (.Call (.Attribute o m apos) [] [] pos) (tMeth C m sp dvs E ta tNil) := by
  refine ⟨fun pins s σ H Q I h => PySem.W.methodCall_KW (pl := pl) (thn (he.run pins s σ H _ I h) fun u s1 ⟨x, H1, I1, rx, a, dx, fs, ex, ea, l, q⟩ => ?_) ht⟩
  subst ex
  cases (show u = Value.ref a from rx)
  exact getmeth_ok I1 ea c hm l (PySem.W.callWith_K0 (first := [.ref a]) I1.kIn hm.kp (run_fng (us := [.ref a]) (vs := [.ref a]) F hG hr hb hd hx I1 (.cons rfl .nil) q))
theorem pg_make (M : Mk X.K C f) (F : FnG X.prog X.w X.K X.mg X.base CX k f fd ps sp) (hG : X.A.guards = some []) (hr : Room (k + 1) X.A) (hg : Gl X x) (hm : X.mg x = some (.ref C)) (hb : Binds X.K fd ps ds) (hd : Vals dvs ds) (hx : Passes CX X E)
    (ha : PA X (e :: es) t) (hdb : (x == ("__debug__" : Str)) = false := by decide) (he : starEach (e :: es) X.env = (false, eval e X.env) :: starEach es X.env := by rfl) (hpl : (backTo pos (starEach es X.env)).any (·.1) = false := by rfl) :
    PE X (.Call (.Name x pp) (e :: es) [] pos) (tMake C sp dvs E t) := by
  refine ⟨fun pins s0 σ H0 Q I0 h0 => wpAny_Call_Name_kw (ld_glob I0 hg hm (PySem.W.callWith_K (h₀ := X.base) I0.ok.mod.kin M.kp (thn (ha.run pos pins s0 σ H0 _ I0 h0) fun us s ⟨vs, H, I, r, h⟩ => ⟨I.kIn, ?_⟩) he hpl) hdb)⟩
  have hq := h (s.heap.objs.size + 1) s.heap.objs.size (I.hok.fresh (Nat.le_succ _)) (I.hok.fresh (Nat.le_refl _)) (Nat.ne_of_lt (Nat.lt_succ_self _))
  have I2 := Inv.made (C := C) I
  have r2 : Vals (V.ref (s.heap.objs.size + 1) :: (vs ++ dvs)) (Value.ref (s.heap.objs.size + 1) :: (us ++ ds)) := .cons rfl (r.append hd)
  have gd : ∀ us', (X.A.under (.builtin "type.__call__" ⟨.ref C :: us', []⟩)).guards = some [] := fun us' => by
    have : (X.A.under (.builtin "type.__call__" ⟨.ref C :: us', []⟩)).guards = X.A.guards := rfl
    rw [this]; exact hG
  refine wpAny_call (make_map (f := f) I.kIn M.makes M.init (beq_iff_eq.mp M.fn) (codeAny_mono (F.run _ X.stack _ _ ⟨Value.ref (s.heap.objs.size + 1) :: us, []⟩ _ _ _ E (gd us) (hr.make C us [])
    (I2.env0.make C us []) (hb _ (Value.ref (s.heap.objs.size + 1) :: us) I2.kIn (r2.length.symm.trans (F.len _ _ _ _ hq))) r2 hq) fun q s' hq' => ?_))
  match q, hq' with
  | .error e, hq' => exact hx pins σ _ _ e s' I2 hq'
  | .ok (.ret u), hq' =>
    obtain ⟨v, H', I3, rv, ev, q3⟩ := I2.after hq'
    subst ev
    exact ⟨rv, V.ref (s.heap.objs.size + 1), H', I3, rfl, q3⟩
  | .ok .next, hq' => exact hq'.elim
  | .ok .brk, hq' => exact hq'.elim
  | .ok .cont, hq' => exact hq'.elim
end
end Fw
end
section
set_option maxRecDepth 100000
namespace Fw
open PySem L2
section
variable {W W' W0 W1 W2 W3 : List Sl} {K : PySem.W.Frag} {ta tb tc te to tl : TE} {tc' tt : TT} {r ra rb : R} {x y z v : V} {a b : Bool} {ι : Type} {F H F' H' : Hp} {σ : L2.St} {E : XK} {P P1 : Post} {ts uu : TS} {g : TG}
variable {α β : Type}
/-- a built-in of one value, of two -/
theorem es_cb1 {g : List V → Hp → VK → Prop} (ha : ES ta W W1 (eV x)) (hg : ∀ (H : Hp) (Q : VK), Q z H → g [x] H Q) : ES (tCB g (tCons ta tNil)) W W1 (eV z) := fun F H σ Q s k =>
  ha F H σ _ s fun v F1 H1 a1 s1 e1 => by
    have e1' : v = x := e1
    subst e1'
    exact hg H1 Q (k z F1 H1 a1 s1 rfl)
theorem es_cb2 {g : List V → Hp → VK → Prop} (ha : ES ta W W1 (eV x)) (hb : ES tb W1 W2 (eV y)) (hg : ∀ (H : Hp) (Q : VK), Q z H → g [x, y] H Q) : ES (tCB g (tCons ta (tCons tb tNil))) W W2 (eV z) := fun F H σ Q s k =>
  ha F H σ _ s fun v F1 H1 a1 s1 e1 => hb F1 H1 σ _ s1 fun w F2 H2 a2 s2 e2 => by
    have e1' : v = x := e1
    have e2' : w = y := e2
    subst e1' e2'
    exact hg H2 Q (k z F2 H2 (a1.trans a2) s2 rfl)
theorem es_int {i : Int} {q : List V → Hp → VK → Prop} (ha : ES ta W W1 (eI i)) : ES (tCB (fun xs H Q => (∃ i, xs = [.int i] ∧ Q (.int i) H) ∨ q xs H Q) (tCons ta tNil)) W W1 (eI i) := es_cb1 ha fun _ _ k => .inl ⟨i, rfl, k⟩
def b2i (b : Bool) : Int := if b = true then 1 else 0
theorem es_intB {q : List V → Hp → VK → Prop} (ha : ES ta W W1 (eB b)) : ES (tCB (fun xs H Q => q xs H Q ∨ (∃ k, xs = [.bl k] ∧ Q (.int (if k = true then 1 else 0)) H)) (tCons ta tNil)) W W1 (eI (b2i b)) := es_cb1 ha fun _ _ k => .inr ⟨b, rfl, k⟩
def max2 (i j : Int) : Int := if j > i then j else i
def min2 (i j : Int) : Int := if j < i then j else i
theorem es_max2 {i j : Int} (ha : ES ta W W1 (eI i)) (hb : ES tb W1 W2 (eI j)) : ES (tCB (fun xs H Q => ∃ i j, xs = [.int i, .int j] ∧ Q (.int (if j > i then j else i)) H) (tCons ta (tCons tb tNil))) W W2 (eI (max2 i j)) := es_cb2 ha hb fun _ _ k => ⟨i, j, rfl, k⟩
theorem es_min2 {i j : Int} (ha : ES ta W W1 (eI i)) (hb : ES tb W1 W2 (eI j)) : ES (tCB (fun xs H Q => ∃ i j, xs = [.int i, .int j] ∧ Q (.int (if j < i then j else i)) H) (tCons ta (tCons tb tNil))) W W2 (eI (min2 i j)) := es_cb2 ha hb fun _ _ k => ⟨i, j, rfl, k⟩
theorem es_fdivW {i j : Int} (ha : ES ta W W1 (eI i)) (hb : ES tb W1 W2 (eI j)) (c : CDivW i j) : ES (tOp (rI CDivW fun i j => .int (i / j)) ta tb) W W2 (eI (i / j)) := es_op ha hb fun _ _ q => ⟨i, j, rfl, rfl, c, q⟩
theorem es_mulW {i j : Int} (ha : ES ta W W1 (eI i)) (hb : ES tb W1 W2 (eI j)) (c : CMulW i j) : ES (tOp (rI CMulW fun i j => .int (i * j)) ta tb) W W2 (eI (i * j)) := es_op ha hb fun _ _ q => ⟨i, j, rfl, rfl, c, q⟩
/-- xs[k], xs owned, k written -/
theorem es_ixO {rs : List R} {q0 : Option Addr} {k i : Nat} (h : W[i]? = some (.ow (oLq q0 rs))) (hk : rs[k]? = some r) : ES (tOp (rIxL K) (tVar i) (tC (.int (k : Int)))) W W r := fun F H σ Q s q => by
  obtain ⟨p, o, e0, g1, _, ⟨_, xs, rfl, g2⟩⟩ := s.ow i _ h
  obtain ⟨x, z1, z2⟩ := g2.get' hk
  exact ⟨.ref p, e0, p, xs, k, x, rfl, rfl, .inl (.inl g1), atI_k z1, q x F H Rel.refl s z2⟩
/-- xs[k] = e, xs owned, k written -/
theorem ss_setk {i k : Nat} {rs : List R} {q1 : Option Addr} (h : ES te W W1 r) (h1 : W1[i]? = some (.ow (oLq q1 rs))) (hk : k < rs.length) (n : P.nx (W1.set i (.ow (oLq q1 (rs.set k r))))) :
    SS (tAsg te (gSub (tVar i) (tC (.int (k : Int))) rSetL)) W P := fun F H σ D s kn _ _ _ =>
  h F H σ _ s fun v F1 H1 a1 s1 e1 => by
    obtain ⟨p, o, e0, y1, y2, ⟨yq, ys, rfl, y3⟩⟩ := s1.ow i _ h1
    have el := y3.len
    refine ⟨.ref p, e0, p, ys, k, k, rfl, rfl, y1, ?_, kn _ _ _ _ n (a1.trans ⟨fun _ _ z => z, fun a u n z => ?_, fun _ _ z => .inl z, fun a z => ?_, fun a m => .inl ((Own.mut h1).mp m)⟩) (s1.mut h1 e0 ⟨yq, _, rfl, y3.set e1 _⟩)⟩
    · unfold ixN
      rw [if_pos (by omega), if_pos (by omega)]
      rfl
    · rw [upd_ne (fun q : a = p => n (by rw [q]; exact ⟨i, _, h1, e0⟩))]; exact z
    · by_cases q : a = p
      · subst q; rw [upd_same] at z; cases z
      · rw [upd_ne q] at z; exact z
/-- the slots as a def begins: what is frozen, then nothing -/
def slF (rs : List R) (n : Nat) : List Sl := rs.map .fz ++ List.replicate (n - rs.length) .no
theorem slF_ow {rs : List R} {n i : Nat} {c : OC} (h : (slF rs n)[i]? = some (.ow c)) : False := by
  rcases List.mem_append.mp (List.mem_of_getElem? h) with z | z
  · obtain ⟨r, _, e⟩ := List.mem_map.mp z; cases e
  · cases List.eq_of_mem_replicate z
theorem slF_fz {rs : List R} {n i : Nat} {r : R} (h : (slF rs n)[i]? = some (.fz r)) : rs[i]? = some r := by
  unfold slF at h
  have hi : i < rs.length := by
    by_cases z : i < rs.length
    · exact z
    · rw [List.getElem?_append_right (by simpa using z), List.getElem?_replicate] at h
      split at h <;> cases h
  rw [List.getElem?_append_left (by simpa using hi), List.getElem?_map] at h
  cases q : rs[i]? with
  | none => rw [q] at h; cases h
  | some r' => rw [q] at h; have z := Option.some.inj h; injection z with z; rw [z]
theorem start_at {N : List Str} {vs : List V} {i : Nat} {v : V} (h : vs[i]? = some v) : (L2.start N vs)[i]? = some (some v) := by
  unfold L2.start
  have hi := (List.getElem?_eq_some_iff.mp h).1
  rw [List.getElem?_append_left (by simpa using hi), List.getElem?_map, h]; rfl
/-- a def's body: from what comes in to what goes out -/
theorem def_F {as : ι → List R} {ok : ι → Prop} {res : ι → R} {N : List Str} {vs : List V} {H : Hp} {Q : VK} {E : XK} (h : spF as ok res vs H Q E) (hN : ∀ d, (as d).length ≤ N.length)
    (k : ∀ d, ok d → SS ts (slF (as d) N.length) ⟨fun _ => res d = eN, fun _ r => r = res d, fun _ => False, fun _ => False⟩) : ts { nx := fun _ H' => Q .non H', rt := Q } (L2.start N vs) H := by
  obtain ⟨d, F, hok, ex, ha, hq⟩ := h
  have el := ha.len
  have s : Sat F H (L2.start N vs) (slF (as d) N.length) := by
    refine ⟨ex, ?_, fun i r h => ?_, fun i c h => (slF_ow h).elim, fun i j c e p h => (slF_ow h).elim⟩
    · unfold L2.start slF; simp [el]
    · obtain ⟨x, z1, z2⟩ := ha.get' (slF_fz h)
      exact ⟨x, start_at z1, z2⟩
  have own0 : ∀ a, ¬ Own (slF (as d) N.length) (L2.start N vs) a := fun a ⟨i, c, h, _⟩ => slF_ow h
  have up : ∀ {F' H' : Hp} {M : Addr → Prop}, Rel F H (Own (slF (as d) N.length) (L2.start N vs)) F' H' M → Rel F H Nob F' H' Nob := fun a =>
    ⟨a.f, fun x o n h => a.h x o (own0 x) h, fun x o h => (a.n x o h).imp id (Or.imp id fun m => own0 x m), a.t, fun x m => m.elim⟩
  refine k d hok F H (L2.start N vs) _ s (fun W' σ' F' H' z a s' => ?_) (fun W' σ' r v F' H' z a s' hv => ?_) (fun _ _ _ _ z => z.elim) fun _ _ _ _ z => z.elim
  · exact hq .non F' H' (up a) s'.ex (by rw [z]; rfl)
  · have z' : r = res d := z
    subst z'; exact hq v F' H' (up a) s'.ex hv
theorem def_B {c c' : ι → List R} {as : ι → List R} {ok : ι → Prop} {res : ι → R} {N : List Str} {vs : List V} {H : Hp} {Q : VK} {E : XK} (h : spB c as ok c' res vs H Q E) (hN : ∀ d, (as d).length < N.length)
    (k : ∀ d p, ok d → SS ts (.ow (oLq (some p) (c d)) :: slF (as d) (N.length - 1)) ⟨fun W' => res d = eN ∧ W'[0]? = some (.ow (oLq (some p) (c' d))), fun W' r => r = res d ∧ W'[0]? = some (.ow (oLq (some p) (c' d))), fun _ => False, fun _ => False⟩) :
    ts { nx := fun _ H' => Q .non H', rt := Q } (L2.start N vs) H := by
  obtain ⟨d, F, p, o, ws, rfl, hok, ex, hp, fp, hc, ha, hq⟩ := h
  have el := ha.len
  have hN' := hN d
  have s : Sat F H (L2.start N (.ref p :: ws)) (.ow (oLq (some p) (c d)) :: slF (as d) (N.length - 1)) := by
    refine ⟨ex, ?_, fun i r h => ?_, fun i e h => ?_, fun i j e e' q h1 h2 => ?_⟩
    · unfold L2.start slF; simp [el]; omega
    · cases i with
      | zero => cases h
      | succ i =>
        obtain ⟨x, z1, z2⟩ := ha.get' (slF_fz (i := i) h)
        exact ⟨x, start_at z1, z2⟩
    · cases i with
      | zero =>
        cases h
        exact ⟨p, .lst o, rfl, hp, fp, fun _ z => Option.some.inj z, o, rfl, hc⟩
      | succ i => exact (slF_ow (i := i) h).elim
    · cases i with
      | zero => cases j with
        | zero => exact fun _ _ => rfl
        | succ j => exact (slF_ow (i := j) h2).elim
      | succ i => exact (slF_ow (i := i) h1).elim
  have own0 : ∀ a, Own (.ow (oLq (some p) (c d)) :: slF (as d) (N.length - 1)) (L2.start N (.ref p :: ws)) a → a = p := fun a ⟨i, e, h1, h2⟩ => by
    cases i with
    | zero =>
      have z : some (some (V.ref p)) = some (some (.ref a)) := h2
      cases z; rfl
    | succ i => exact (slF_ow (i := i) h1).elim
  have own1 : Own (.ow (oLq (some p) (c d)) :: slF (as d) (N.length - 1)) (L2.start N (.ref p :: ws)) p := ⟨0, _, rfl, rfl⟩
  have up : ∀ {F' H' : Hp} {M : Addr → Prop}, Rel F H (Own (.ow (oLq (some p) (c d)) :: slF (as d) (N.length - 1)) (L2.start N (.ref p :: ws))) F' H' M → Rel F H (fun a => a = p) F' H' (fun a => a = p) := fun a =>
    ⟨a.f, fun x o n h => a.h x o (fun z => n (own0 x z)) h, fun x o h => (a.n x o h).imp id (Or.imp id fun m => own0 x m), a.t, fun x m => .inl m⟩
  have fin : ∀ {W' : List Sl} {σ' : L2.St} {F' H' : Hp}, Sat F' H' σ' W' → W'[0]? = some (.ow (oLq (some p) (c' d))) → ∃ o', H' p = some (.lst o') ∧ F' p = none ∧ All2 (c' d) F' o' := fun {W' σ' F' H'} s' hw => by
    obtain ⟨p', _, _, y1, y2, yq, ys, rfl, y3⟩ := s'.ow 0 _ hw
    cases yq p rfl
    exact ⟨ys, y1, y2, y3⟩
  refine k d p hok F H (L2.start N (.ref p :: ws)) _ s (fun W' σ' F' H' z a s' => ?_) (fun W' σ' r v F' H' z a s' hv => ?_) (fun _ _ _ _ z => z.elim) fun _ _ _ _ z => z.elim
  · obtain ⟨z1, z2⟩ := z
    obtain ⟨o', y1, y2, y3⟩ := fin s' z2
    exact hq .non F' H' o' (up a) s'.ex y1 y2 y3 (by rw [z1]; rfl)
  · obtain ⟨z1, z2⟩ := z
    subst z1
    obtain ⟨o', y1, y2, y3⟩ := fin s' z2
    exact hq v F' H' o' (up a) s'.ex y1 y2 y3 hv
end
end Fw
end
section
set_option maxRecDepth 100000
namespace Fw
open PySem L2
section
variable {W W' W0 W1 W2 W3 : List Sl} {K : PySem.W.Frag} {ta tb tc te to tl : TE} {tc' tt : TT} {r ra rb : R} {x y z v : V} {a b : Bool} {ι : Type} {F H F' H' : Hp} {σ : L2.St} {E : XK} {P P1 : Post} {ts uu tA tB : TS} {g : TG}
variable {α β γ δ : Type}
theorem ss_assoc {s1 s2 s3 : TS} (h : SS (tSeq s1 (tSeq s2 s3)) W P) : SS (tSeq (tSeq s1 s2) s3) W P := h
theorem ss_nxq {s3 : TS} (h : SS s3 W P) : SS (tSeq tNext s3) W P := h
theorem ss_seq1 (v1 : α) (mk : α → List Sl) (h : SS ts W ⟨fun W' => Wk W' (mk v1), P.rt, P.bk, P.ct⟩) (k : ∀ x1, x1 = v1 → SS uu (mk x1) P) : SS (tSeq ts uu) W P := ss_seqTo (mk v1) h (k v1 rfl)
theorem ss_seq2 (v1 : α) (v2 : β) (mk : α → β → List Sl) (h : SS ts W ⟨fun W' => Wk W' (mk v1 v2), P.rt, P.bk, P.ct⟩) (k : ∀ x1, x1 = v1 → ∀ x2, x2 = v2 → SS uu (mk x1 x2) P) : SS (tSeq ts uu) W P := ss_seqTo (mk v1 v2) h (k v1 rfl v2 rfl)
theorem ss_seq3 (v1 : α) (v2 : β) (v3 : γ) (mk : α → β → γ → List Sl) (h : SS ts W ⟨fun W' => Wk W' (mk v1 v2 v3), P.rt, P.bk, P.ct⟩) (k : ∀ x1, x1 = v1 → ∀ x2, x2 = v2 → ∀ x3, x3 = v3 → SS uu (mk x1 x2 x3) P) : SS (tSeq ts uu) W P :=
  ss_seqTo (mk v1 v2 v3) h (k v1 rfl v2 rfl v3 rfl)
theorem ss_seq4 (v1 : α) (v2 : β) (v3 : γ) (v4 : δ) (mk : α → β → γ → δ → List Sl) (h : SS ts W ⟨fun W' => Wk W' (mk v1 v2 v3 v4), P.rt, P.bk, P.ct⟩) (k : ∀ x1, x1 = v1 → ∀ x2, x2 = v2 → ∀ x3, x3 = v3 → ∀ x4, x4 = v4 → SS uu (mk x1 x2 x3 x4) P) :
    SS (tSeq ts uu) W P := ss_seqTo (mk v1 v2 v3 v4) h (k v1 rfl v2 rfl v3 rfl v4 rfl)
theorem ss_retq (h : ES te W W1 r) (k : P.rt W1 r) : SS (tSeq (tRet te) uu) W P := ss_seq (fun _ => False) (ss_ret h k) fun _ z => z.elim
theorem ss_retNq (k : P.rt W eN) : SS (tSeq tRetN uu) W P := fun F H σ D s _ kr _ _ => kr W σ eN .non F H k Rel.refl s rfl
theorem ss_neverq (h : False) : SS (tSeq ts uu) W P := h.elim
theorem ss_contq (h : P.ct W) : SS (tSeq tCont uu) W P := ss_seq (fun _ => False) (ss_cont h) fun _ z => z.elim
theorem ss_brkq (h : P.bk W) : SS (tSeq tBreak uu) W P := ss_seq (fun _ => False) (ss_brk h) fun _ z => z.elim
/-- an if one way of which ends -/
theorem ss_ifL (h : ET tc' W W1 a) (h1 : a = true → SS tA W1 ⟨fun _ => False, P.rt, P.bk, P.ct⟩) (h2 : a = false → SS (tSeq tB uu) W1 P) : SS (tSeq (tIfS tc' tA tB) uu) W P := fun F H σ D s kn kr kb kc =>
  h F H σ _ s fun F1 H1 a1 s1 => by
    cases a with
    | true =>
      rw [if_pos rfl]
      exact h1 rfl F1 H1 σ { D with nx := uu D } s1 (fun _ _ _ _ z => z.elim) (fun W2 σ2 r v F2 H2 n2 a2 s2 => kr W2 σ2 r v F2 H2 n2 (a1.trans a2) s2)
        (fun W2 σ2 F2 H2 n2 a2 s2 => kb W2 σ2 F2 H2 n2 (a1.trans a2) s2) fun W2 σ2 F2 H2 n2 a2 s2 => kc W2 σ2 F2 H2 n2 (a1.trans a2) s2
    | false =>
      rw [if_neg Bool.false_ne_true]
      exact h2 rfl F1 H1 σ D s1 (fun W2 σ2 F2 H2 n2 a2 s2 => kn W2 σ2 F2 H2 n2 (a1.trans a2) s2) (fun W2 σ2 r v F2 H2 n2 a2 s2 => kr W2 σ2 r v F2 H2 n2 (a1.trans a2) s2)
        (fun W2 σ2 F2 H2 n2 a2 s2 => kb W2 σ2 F2 H2 n2 (a1.trans a2) s2) fun W2 σ2 F2 H2 n2 a2 s2 => kc W2 σ2 F2 H2 n2 (a1.trans a2) s2
theorem ss_ifR (h : ET tc' W W1 a) (h1 : a = true → SS (tSeq tA uu) W1 P) (h2 : a = false → SS tB W1 ⟨fun _ => False, P.rt, P.bk, P.ct⟩) : SS (tSeq (tIfS tc' tA tB) uu) W P := fun F H σ D s kn kr kb kc =>
  h F H σ _ s fun F1 H1 a1 s1 => by
    cases a with
    | false =>
      rw [if_neg Bool.false_ne_true]
      exact h2 rfl F1 H1 σ { D with nx := uu D } s1 (fun _ _ _ _ z => z.elim) (fun W2 σ2 r v F2 H2 n2 a2 s2 => kr W2 σ2 r v F2 H2 n2 (a1.trans a2) s2)
        (fun W2 σ2 F2 H2 n2 a2 s2 => kb W2 σ2 F2 H2 n2 (a1.trans a2) s2) fun W2 σ2 F2 H2 n2 a2 s2 => kc W2 σ2 F2 H2 n2 (a1.trans a2) s2
    | true =>
      rw [if_pos rfl]
      exact h1 rfl F1 H1 σ D s1 (fun W2 σ2 F2 H2 n2 a2 s2 => kn W2 σ2 F2 H2 n2 (a1.trans a2) s2) (fun W2 σ2 r v F2 H2 n2 a2 s2 => kr W2 σ2 r v F2 H2 n2 (a1.trans a2) s2)
        (fun W2 σ2 F2 H2 n2 a2 s2 => kb W2 σ2 F2 H2 n2 (a1.trans a2) s2) fun W2 σ2 F2 H2 n2 a2 s2 => kc W2 σ2 F2 H2 n2 (a1.trans a2) s2
/-! several names at once, some of them given new lists -/
inductive Ds where
  | fz (r : R)
  | nw (c : OC)
def MOk (F' H' : Hp) : Hp → List Ds → List V → Prop
  | _, [], [] => True
  | H, .fz r :: ds, v :: vs => r.p F' v ∧ MOk F' H' H ds vs
  | H, .nw c :: ds, v :: vs => ∃ p o, v = .ref p ∧ H p = none ∧ H' p = some o ∧ F' p = none ∧ c.p F' p o ∧ MOk F' H' (upd H p o) ds vs
  | _, _, _ => False
theorem MOk.base {F' H' : Hp} : ∀ {ds : List Ds} {vs : List V} {H1 H2 : Hp}, (∀ a, H1 a = none → H2 a = none) → MOk F' H' H1 ds vs → MOk F' H' H2 ds vs
  | [], [], _, _, _, _ => trivial
  | .fz _ :: _, _ :: _, _, _, e, h => ⟨h.1, MOk.base e h.2⟩
  | .nw _ :: _, _ :: _, H1, H2, e, ⟨p, o, h1, h2, h3, h4, h5, h6⟩ => ⟨p, o, h1, e p h2, h3, h4, h5, MOk.base (fun a z => by
      by_cases q : a = p
      · subst q; rw [upd_same] at z; cases z
      · rw [upd_ne q] at z ⊢; exact e a z) h6⟩
  | [], _ :: _, _, _, _, h => h.elim
  | .fz _ :: _, [], _, _, _, h => h.elim
  | .nw _ :: _, [], _, _, _, h => h.elim
theorem MOk.len {F' H' : Hp} : ∀ {ds : List Ds} {vs : List V} {H : Hp}, MOk F' H' H ds vs → vs.length = ds.length
  | [], [], _, _ => rfl
  | .fz _ :: _, _ :: _, _, h => congrArg (· + 1) (MOk.len h.2)
  | .nw _ :: _, _ :: _, _, ⟨_, _, _, _, _, _, _, h⟩ => congrArg (· + 1) (MOk.len h)
  | [], _ :: _, _, h => h.elim
  | .fz _ :: _, [], _, h => h.elim
  | .nw _ :: _, [], _, h => h.elim
/-- a further object is frozen -/
theorem MOk.lay {F' H' : Hp} {q : Addr} {u : HO} (hq : H' q = none) : ∀ {ds : List Ds} {vs : List V} {H : Hp}, Same F' H' → MOk F' H' H ds vs → MOk (upd F' q u) (upd H' q u) H ds vs
  | [], [], _, _, _ => trivial
  | .fz r :: _, _ :: _, _, e, h => ⟨r.mono (fun a o z => by rw [upd_ne (ne_of_none (e a o z) hq)]; exact z) h.1, MOk.lay hq e h.2⟩
  | .nw c :: _, _ :: _, H, e, ⟨p, o, h1, h2, h3, h4, h5, h6⟩ => by
    have ne : p ≠ q := ne_of_none h3 hq
    exact ⟨p, o, h1, h2, by rw [upd_ne ne]; exact h3, by rw [upd_ne ne]; exact h4, c.mono (fun a o z => by rw [upd_ne (ne_of_none (e a o z) hq)]; exact z) h5, MOk.lay hq e h6⟩
  | [], _ :: _, _, _, h => h.elim
  | .fz _ :: _, [], _, _, h => h.elim
  | .nw _ :: _, [], _, _, h => h.elim
def AM (t : TA) (W W' : List Sl) (ds : List Ds) : Prop := ∀ (F H : Hp) (σ : L2.St) (Q : List V → Hp → Prop), Sat F H σ W →
  (∀ vs F' H', Rel F H (Own W σ) F' H' (Own W' σ) → Sat F' H' σ W' → (∀ a, Own W' σ a → ∃ o, H a = some o) → MOk F' H' H ds vs → Q vs H') → t σ H Q
theorem am_nil : AM tNil W W [] := fun F H σ Q s k => k [] F H Rel.refl s (fun a o => o.lt s) trivial
theorem am_fz {tr : TA} {ds : List Ds} (h : ES ta W W r) (hr : AM tr W W ds) : AM (tCons ta tr) W W (.fz r :: ds) := fun F H σ Q s k =>
  h F H σ _ s fun v F1 H1 a1 s1 e1 => hr F1 H1 σ _ s1 fun vs F2 H2 a2 s2 o2 e2 => k (v :: vs) F2 H2 (a1.trans a2) s2 (fun a o => o.lt s) ⟨r.mono a2.f e1, e2.base fun a z => a1.t a z⟩
/-- .. what comes first may change what is owned -/
theorem am_fzb {tr : TA} {ds : List Ds} (h : ES ta W W1 r) (hr : AM tr W1 W2 ds) (ho : ∀ (σ : L2.St) (a : Addr), Own W2 σ a → Own W σ a) : AM (tCons ta tr) W W2 (.fz r :: ds) := fun F H σ Q s k =>
  h F H σ _ s fun v F1 H1 a1 s1 e1 => hr F1 H1 σ _ s1 fun vs F2 H2 a2 s2 o2 e2 => k (v :: vs) F2 H2 (a1.trans a2) s2 (fun a o => (ho σ a o).lt s) ⟨r.mono a2.f e1, e2.base fun a z => a1.t a z⟩
theorem am_nw {tr : TA} {ds : List Ds} {c : OC} (h : ESN ta W W c) (hr : AM tr W W ds) : AM (tCons ta tr) W W (.nw c :: ds) := fun F H σ Q s k =>
  h F H σ _ s fun p o F1 H1 a1 s1 hp ho fp np hc => hr F1 H1 σ _ s1 fun vs F2 H2 a2 s2 o2 e2 => by
    have h2 : H2 p = some o := a2.h p o np ho
    have f2 : F2 p = none := by
      cases z : F2 p with
      | none => rfl
      | some u =>
        rcases a2.n p u z with y | y | y
        · rw [fp] at y; cases y
        · rw [ho] at y; cases y
        · exact (np y).elim
    refine k (.ref p :: vs) F2 H2 (a1.trans a2) s2 (fun a o => o.lt s) ⟨p, o, rfl, hp, h2, f2, c.mono a2.f hc, e2.base fun a z => ?_⟩
    by_cases q : a = p
    · subst q; rw [ho] at z; cases z
    · rw [upd_ne q]; exact a1.t a z
def putV : L2.St → List Nat → List V → L2.St
  | σ, i :: is, v :: vs => putV (σ.set i (some v)) is vs
  | σ, _, _ => σ
def putD : List Sl → List Nat → List Ds → List Sl
  | W, i :: is, .fz r :: ds => putD (W.set i (.fz r)) is ds
  | W, i :: is, .nw c :: ds => putD (W.set i (.ow c)) is ds
  | W, _, _ => W
theorem put_all {F H : Hp} : ∀ {is : List Nat} {ds : List Ds} {vs : List V} {σ : L2.St} {W : List Sl} {Hb : Hp}, Sat F H σ W → (∀ a, Own W σ a → ∃ o, Hb a = some o) → MOk F H Hb ds vs →
    Sat F H (putV σ is vs) (putD W is ds) ∧ ∀ a, Own (putD W is ds) (putV σ is vs) a → Own W σ a ∨ Hb a = none
  | [], [], [], σ, W, Hb, s, _, _ => ⟨s, fun _ o => .inl o⟩
  | [], .fz _ :: _, _ :: _, σ, W, Hb, s, _, _ => ⟨s, fun _ o => .inl o⟩
  | [], .nw _ :: _, _ :: _, σ, W, Hb, s, _, _ => ⟨s, fun _ o => .inl o⟩
  | _ :: _, [], [], σ, W, Hb, s, _, _ => ⟨s, fun _ o => .inl o⟩
  | i :: is, .fz r :: ds, v :: vs, σ, W, Hb, s, ho, h => by
    obtain ⟨s1, o1⟩ := put_all (is := is) (s.put (i := i) h.1) (fun a o => ho a o.put) h.2
    exact ⟨s1, fun a o => (o1 a o).imp (fun z => z.put) id⟩
  | i :: is, .nw c :: ds, v :: vs, σ, W, Hb, s, ho, ⟨p, o, e, h2, h3, h4, h5, h6⟩ => by
    subst e
    have np : ¬ Own W σ p := fun z => by
      obtain ⟨u, y⟩ := ho p z
      rw [h2] at y; cases y
    obtain ⟨s1, o1⟩ := put_all (is := is) (s.own (i := i) h3 h4 np h5) (fun a z => by
      rcases z.own with y | y
      · obtain ⟨u, q⟩ := ho a y
        exact ⟨u, by rw [upd_ne (fun e => by subst e; rw [h2] at q; cases q)]; exact q⟩
      · subst y; exact ⟨o, upd_same⟩) h6
    refine ⟨s1, fun a z => ?_⟩
    rcases o1 a z with y | y
    · rcases y.own with q | q
      · exact .inl q
      · subst q; exact .inr h2
    · by_cases q : a = p
      · subst q; rw [upd_same] at y; cases y
      · rw [upd_ne q] at y; exact .inr y
  | [], [], _ :: _, _, _, _, _, _, h => h.elim
  | _ :: _, [], _ :: _, _, _, _, _, _, h => h.elim
  | [], .fz _ :: _, [], _, _, _, _, _, h => h.elim
  | [], .nw _ :: _, [], _, _, _, _, _, h => h.elim
  | _ :: _, .fz _ :: _, [], _, _, _, _, _, h => h.elim
  | _ :: _, .nw _ :: _, [], _, _, _, _, _, h => h.elim
/-- a, b = e1, e2 -/
theorem ss_parM {i j : Nat} {tr : TA} {d1 d2 : Ds} (h : AM tr W W1 [d1, d2]) (k : P.nx (putD W1 [i, j] [d1, d2])) : SS (tPar i j tr) W P := fun F H σ D s kn _ _ _ =>
  h F H σ _ s fun vs F1 H1 a1 s1 o1 e1 => by
    match vs, e1.len with
    | [v, w], _ =>
      obtain ⟨s2, o2⟩ := put_all (is := [i, j]) s1 o1 e1
      exact ⟨v, w, rfl, kn _ _ F1 H1 k ⟨a1.f, a1.h, a1.n, a1.t, fun a m => (o2 a m).elim (a1.o a) .inr⟩ s2⟩
def gNames : List Nat → TGs
  | [] => gNil
  | i :: is => gCons (gName i) (gNames is)
theorem gNames_go {Q : L2.St → Hp → Prop} {H : Hp} : ∀ {is : List Nat} {vs : List V} {σ : L2.St}, vs.length = is.length → Q (putV σ is vs) H → gNames is vs σ H Q
  | [], [], _, _, q => ⟨rfl, q⟩
  | i :: is, v :: vs, σ, h, q => ⟨v, vs, rfl, gNames_go (is := is) (vs := vs) (by simpa using h) q⟩
  | [], _ :: _, _, h, _ => by cases h
  | _ :: _, [], _, h, _ => by cases h
/-- (a, b, ..) = (e1, e2, ..) by a tuple -/
theorem ss_tupM {tr : TA} {ds : List Ds} {n : Nat} (is : List Nat) (h : AM tr W W1 ds) (hn : is.length = n) (hd : ds.length = n) (hz : n ≤ 100000) (k : P.nx (putD W1 is ds)) : SS (tAsg (tTup tr) (gTup K n (gNames is))) W P := fun F H σ D s kn _ _ _ =>
  h F H σ _ s fun vs F1 H1 a1 s1 o1 e1 => by
    refine ⟨Nat.le_trans (by rw [e1.len, hd]; exact hz) (by decide), fun p hp => ⟨p, vs, rfl, .inl (.inl upd_same), e1.len.trans hd, gNames_go (e1.len.trans (hd.trans hn.symm)) ?_⟩⟩
    obtain ⟨s2, o2⟩ := put_all (is := is) (s1.lay (o := .tup vs) hp) (fun a o => o1 a o) (MOk.lay hp s1.ex e1)
    have a2 := a1.trans (Rel.lay (o := HO.tup vs) s1.ex hp)
    exact kn _ _ _ _ k ⟨a2.f, a2.h, a2.n, a2.t, fun a m => (o2 a m).elim (a2.o a) .inr⟩ s2
end
end Fw
end
section
set_option maxRecDepth 100000
namespace Fw
open PySem L2
def owPos (W : List Sl) : List Bool := W.map fun | .ow _ => true | _ => false
theorem own_pos {W W' : List Sl} {σ : L2.St} {a : Addr} (h : owPos W' = owPos W) (o : Own W' σ a) : Own W σ a := by
  obtain ⟨i, c, h1, h2⟩ := o
  have e : (owPos W')[i]? = some true := by unfold owPos; rw [List.getElem?_map, h1]; rfl
  rw [h] at e
  unfold owPos at e
  rw [List.getElem?_map] at e
  cases q : W[i]? with
  | none => rw [q] at e; cases e
  | some s =>
    rw [q] at e
    cases s with
    | ow d => exact ⟨i, d, q, h2⟩
    | no => cases e
    | fz r => cases e
section
variable {W W' W0 W1 W2 W3 : List Sl} {K : PySem.W.Frag} {ta tb tc te to tl : TE} {tc' tt : TT} {r ra rb : R} {x y z v : V} {a b : Bool} {ι : Type} {F H F' H' : Hp} {σ : L2.St} {E : XK} {P P1 : Post} {ts uu tA tB : TS} {g : TG}
variable {α β γ δ : Type}
theorem am_fzo {tr : TA} {ds : List Ds} (h : ES ta W W1 r) (hr : AM tr W1 W2 ds) (ho : owPos W2 = owPos W) : AM (tCons ta tr) W W2 (.fz r :: ds) := am_fzb h hr fun _ _ o => own_pos ho o
theorem am_nwo {tr : TA} {ds : List Ds} {c : OC} (h : ESN ta W W1 c) (hr : AM tr W1 W2 ds) (ho : owPos W2 = owPos W) : AM (tCons ta tr) W W2 (.nw c :: ds) := fun F H σ Q s k =>
  h F H σ _ s fun p o F1 H1 a1 s1 hp ho1 fp np hc => hr F1 H1 σ _ s1 fun vs F2 H2 a2 s2 o2 e2 => by
    have f2 : F2 p = none := by
      cases z : F2 p with
      | none => rfl
      | some u =>
        rcases a2.n p u z with y | y | y
        · rw [fp] at y; cases y
        · rw [ho1] at y; cases y
        · exact (np y).elim
    refine k (.ref p :: vs) F2 H2 (a1.trans a2) s2 (fun a o => (own_pos ho o).lt s) ⟨p, o, rfl, hp, a2.h p o np ho1, f2, c.mono a2.f hc, e2.base fun a z => ?_⟩
    by_cases q : a = p
    · subst q; rw [ho1] at z; cases z
    · rw [upd_ne q]; exact a1.t a z
/-- a built-in of a frozen thing that gives a plain value -/
theorem es_cbr {g : List V → Hp → VK → Prop} (ha : ES ta W W1 r) (hg : ∀ (F H : Hp) (v : V) (Q : VK), Same F H → r.p F v → Q z H → g [v] H Q) : ES (tCB g (tCons ta tNil)) W W1 (eV z) := fun F H σ Q s k =>
  ha F H σ _ s fun v F1 H1 a1 s1 e1 => hg F1 H1 v Q s1.ex e1 (k z F1 H1 a1 s1 rfl)
theorem all2_ints {F : Hp} : ∀ {l : List Int} {xs : List V}, All2 (l.map fun i => eI i) F xs → xs = l.map V.int
  | [], [], _ => rfl
  | i :: l, x :: xs, h => by
    have e : x = V.int i := h.1
    subst e
    rw [all2_ints h.2]; rfl
  | [], _ :: _, h => h.elim
  | _ :: _, [], h => h.elim
theorem es_sum {l : List Int} (ha : ES ta W W1 (eLs (fun i => eI i) l)) : ES (tCB (rSum K) (tCons ta tNil)) W W1 (eI l.sum) := es_cbr ha fun F H v Q e ⟨p, xs, h1, h2, h3⟩ q => by
  subst h1
  cases all2_ints h3
  exact ⟨p, l, rfl, .inl (.inl (e _ _ h2)), q⟩
/-- the greatest, the least of ints -/
def lmax : List Int → Int
  | [] => 0
  | [x] => x
  | x :: y :: l => let m := lmax (y :: l); if x ≥ m then x else m
def lmin : List Int → Int
  | [] => 0
  | [x] => x
  | x :: y :: l => let m := lmin (y :: l); if x ≤ m then x else m
theorem lmax_mem : ∀ {l : List Int}, l ≠ [] → lmax l ∈ l ∧ ∀ y ∈ l, y ≤ lmax l
  | [x], _ => ⟨by simp [lmax], by simp [lmax]⟩
  | x :: y :: l, _ => by
    obtain ⟨h1, h2⟩ := lmax_mem (l := y :: l) (by simp)
    show (if x ≥ lmax (y :: l) then x else lmax (y :: l)) ∈ _ ∧ ∀ z ∈ _, z ≤ (if x ≥ lmax (y :: l) then x else lmax (y :: l))
    by_cases q : x ≥ lmax (y :: l)
    · rw [if_pos q]
      exact ⟨List.mem_cons_self, fun z hz => (List.mem_cons.mp hz).elim (fun e => by omega) fun m => Int.le_trans (h2 z m) q⟩
    · rw [if_neg q]
      exact ⟨List.mem_cons_of_mem _ h1, fun z hz => (List.mem_cons.mp hz).elim (fun e => by omega) fun m => h2 z m⟩
theorem lmin_mem : ∀ {l : List Int}, l ≠ [] → lmin l ∈ l ∧ ∀ y ∈ l, lmin l ≤ y
  | [x], _ => ⟨by simp [lmin], by simp [lmin]⟩
  | x :: y :: l, _ => by
    obtain ⟨h1, h2⟩ := lmin_mem (l := y :: l) (by simp)
    show (if x ≤ lmin (y :: l) then x else lmin (y :: l)) ∈ _ ∧ ∀ z ∈ _, (if x ≤ lmin (y :: l) then x else lmin (y :: l)) ≤ z
    by_cases q : x ≤ lmin (y :: l)
    · rw [if_pos q]
      exact ⟨List.mem_cons_self, fun z hz => (List.mem_cons.mp hz).elim (fun e => by omega) fun m => Int.le_trans q (h2 z m)⟩
    · rw [if_neg q]
      exact ⟨List.mem_cons_of_mem _ h1, fun z hz => (List.mem_cons.mp hz).elim (fun e => by omega) fun m => h2 z m⟩
theorem es_maxL {l : List Int} (ha : ES ta W W1 (eLs (fun i => eI i) l)) (hl : l ≠ []) : ES (tCB (rMax K) (tCons ta tNil)) W W1 (eI (lmax l)) := es_cbr ha fun F H v Q e ⟨p, xs, h1, h2, h3⟩ q => by
  subst h1
  cases all2_ints h3
  refine ⟨p, l, rfl, .inl (.inl (e _ _ h2)), List.length_pos_iff.mpr hl, fun m hm hle => ?_⟩
  have em : m = lmax l := Int.le_antisymm ((lmax_mem hl).2 m hm) (hle _ (lmax_mem hl).1)
  rw [em]; exact q
theorem es_minL {l : List Int} (ha : ES ta W W1 (eLs (fun i => eI i) l)) (hl : l ≠ []) : ES (tCB (rMin K) (tCons ta tNil)) W W1 (eI (lmin l)) := es_cbr ha fun F H v Q e ⟨p, xs, h1, h2, h3⟩ q => by
  subst h1
  cases all2_ints h3
  refine ⟨p, l, rfl, .inl (.inl (e _ _ h2)), List.length_pos_iff.mpr hl, fun m hm hle => ?_⟩
  have em : m = lmin l := Int.le_antisymm (hle _ (lmin_mem hl).1) ((lmin_mem hl).2 m hm)
  rw [em]; exact q
/-- len of a list, of a tuple -/
theorem es_lenL {rs : List R} (ha : ES ta W W1 (eL rs)) : ES (tCB (fun xs H Q => ∃ p ys, xs = [.ref p] ∧ (SqL K H p ys ∨ SqT K H p ys) ∧ Q (.int ys.length) H) (tCons ta tNil)) W W1 (eI (rs.length : Int)) := es_cbr ha fun F H v Q e ⟨p, xs, h1, h2, h3⟩ q => by
  subst h1
  rw [← h3.len] at q
  exact ⟨p, xs, rfl, .inl (.inl (.inl (e _ _ h2))), q⟩
theorem es_lenLs {e : α → R} {l : List α} (ha : ES ta W W1 (eLs e l)) : ES (tCB (fun xs H Q => ∃ p ys, xs = [.ref p] ∧ (SqL K H p ys ∨ SqT K H p ys) ∧ Q (.int ys.length) H) (tCons ta tNil)) W W1 (eI (l.length : Int)) := by
  have h := es_lenL (K := K) ha
  rw [List.length_map] at h; exact h
theorem es_lenT {rs : List R} (ha : ES ta W W1 (eT K rs)) : ES (tCB (fun xs H Q => ∃ p ys, xs = [.ref p] ∧ (SqL K H p ys ∨ SqT K H p ys) ∧ Q (.int ys.length) H) (tCons ta tNil)) W W1 (eI (rs.length : Int)) := es_cbr ha fun F H v Q e ⟨p, xs, h1, h2, h3⟩ q => by
  subst h1
  rw [← h3.len] at q
  exact ⟨p, xs, rfl, .inr (sqT_up e h2), q⟩
/-- xs[i], a frozen list, an open index in bounds -/
def nth [Inhabited α] (l : List α) (i : Int) : α := l.getD i.toNat default
theorem nth_get [Inhabited α] {l : List α} {i : Int} (h : 0 ≤ i ∧ i < l.length) : l[i.toNat]? = some (nth l i) := by
  have hb : i.toNat < l.length := by omega
  unfold nth
  rw [List.getD_eq_getElem?_getD, List.getElem?_eq_getElem hb]; rfl
theorem es_ixL [Inhabited α] {e : α → R} {l : List α} {i : Int} (ha : ES ta W W1 (eLs e l)) (hi : ES tb W1 W2 (eI i)) (h : 0 ≤ i ∧ i < l.length) : ES (tOp (rIxL K) ta tb) W W2 (e (nth l i)) := fun F H σ Q s k =>
  ha F H σ _ s fun v F1 H1 a1 s1 ⟨p, xs, h1, h2, h3⟩ => hi F1 H1 σ _ s1 fun w F2 H2 a2 s2 e2 => by
    have e2' : w = V.int i := e2
    subst h1 e2'
    obtain ⟨x, z1, z2⟩ := h3.get' (i := i.toNat) (r := e (nth l i)) (by rw [List.getElem?_map, nth_get h]; rfl)
    have hx := atI_k z1
    rw [Int.toNat_of_nonneg h.1] at hx
    exact ⟨p, xs, i, x, rfl, rfl, .inl (.inl (s2.ex _ _ (a2.f _ _ h2))), hx, k x F2 H2 (a1.trans a2) s2 ((e (nth l i)).mono a2.f z2)⟩
/-- xs[-1] -/
theorem es_ixLast [Inhabited α] {e : α → R} {l : List α} (ha : ES ta W W1 (eLs e l)) (h : l ≠ []) : ES (tOp (rIxL K) ta (tUn (rU fun i => .int (-i)) (tC (.int 1)))) W W1 (e (nth l (l.length - 1))) := fun F H σ Q s k =>
  ha F H σ _ s fun v F1 H1 a1 s1 ⟨p, xs, h1, h2, h3⟩ => by
    subst h1
    have pos : 0 < l.length := List.length_pos_iff.mpr h
    have hb : ((l.length : Int) - 1).toNat = l.length - 1 := by omega
    have hn := nth_get (l := l) (i := (l.length : Int) - 1) (by omega)
    rw [hb] at hn
    obtain ⟨x, z1, z2⟩ := h3.get' (i := l.length - 1) (r := e (nth l (l.length - 1))) (by rw [List.getElem?_map, hn]; rfl)
    have el := h3.len
    rw [List.length_map] at el
    refine ⟨1, rfl, p, xs, -1, x, rfl, rfl, .inl (.inl (s1.ex _ _ h2)), ?_, k x F1 H1 a1 s1 z2⟩
    unfold atI ixN
    rw [if_neg (by omega), if_pos (by omega)]
    have e3 : (-1 + (xs.length : Int)).toNat = l.length - 1 := by omega
    show xs[(-1 + (xs.length : Int)).toNat]? = some x
    rw [e3]; exact z1
/-- a field of an instance -/
def eIns (C : Addr) (fs : List (Str × R)) : R := ⟨fun F v => ∃ p dx gs, v = .ref p ∧ F p = some (.ins C dx gs) ∧ gs.map Prod.fst = fs.map Prod.fst ∧ All2 (fs.map Prod.snd) F (gs.map Prod.snd),
  fun e ⟨p, dx, gs, h1, h2, h3, h4⟩ => ⟨p, dx, gs, h1, e _ _ h2, h3, h4.mono e⟩⟩
theorem ins_look {F : Hp} : ∀ {fs : List (Str × R)} {gs : List (Str × V)} {f : Str} {r : R}, gs.map Prod.fst = fs.map Prod.fst → All2 (fs.map Prod.snd) F (gs.map Prod.snd) → fs.lookup f = some r → ∃ v, gs.lookup f = some v ∧ r.p F v
  | (n, q) :: fs, (m, v) :: gs, f, r, e, h, l => by
    have en : m = n := (List.cons.inj e).1
    subst en
    unfold List.lookup at l ⊢
    by_cases z : (f == m) = true
    · rw [z] at l ⊢
      cases l
      exact ⟨v, rfl, h.1⟩
    · have z' : (f == m) = false := by simpa using z
      rw [z'] at l ⊢
      exact ins_look (List.cons.inj e).2 h.2 l
  | [], _, f, r, _, _, l => by cases l
  | _ :: _, [], _, _, _, h, _ => h.elim
theorem ins_none : ∀ {fs : List (Str × R)} {gs : List (Str × V)} {f : Str}, gs.map Prod.fst = fs.map Prod.fst → fs.lookup f = none → gs.lookup f = none
  | (n, q) :: fs, (m, v) :: gs, f, e, l => by
    have en : m = n := (List.cons.inj e).1
    subst en
    unfold List.lookup at l ⊢
    by_cases z : (f == m) = true
    · rw [z] at l; cases l
    · have z' : (f == m) = false := by simpa using z
      rw [z'] at l ⊢
      exact ins_none (List.cons.inj e).2 l
  | [], [], f, _, _ => rfl
  | [], _ :: _, _, e, _ => by cases e
  | _ :: _, [], _, e, _ => by cases e
theorem es_fld {C : Addr} {fs : List (Str × R)} {f : Str} (c : Cls K C) (n : NoAttr K C f) (ha : ES ta W W1 (eIns C fs)) (hf : fs.lookup f = some r) : ES (tFld K ta f) W W1 r := fun F H σ Q s k =>
  ha F H σ _ s fun v F1 H1 a1 s1 ⟨p, dx, gs, h1, h2, h3, h4⟩ => by
    obtain ⟨w, z1, z2⟩ := ins_look h3 h4 hf
    exact ⟨p, C, dx, gs, w, h1, s1.ex _ _ h2, c, n, z1, k w F1 H1 a1 s1 z2⟩
/-- o.m(..), o an instance -/
theorem es_meth {as : ι → List R} {ok : ι → Prop} {res : ι → R} {tr : TA} {C : Addr} {m : Str} {fs : List (Str × R)} (d : ι) (ho : ES to W W1 (eIns C fs)) (hm : fs.lookup m = none) (h : AS tr W1 W2 rs') (hd : as d = eIns C fs :: rs') (g : ok d) :
    ES (tMeth C m (spF as ok res) [] E to tr) W W2 (res d) := fun F H σ Q s k =>
  ho F H σ _ s fun v F1 H1 a1 s1 e1 => by
    obtain ⟨p, dx, gs, h1, h2, h3, h4⟩ := id e1
    refine ⟨p, dx, gs, h1, s1.ex _ _ h2, ins_none h3 hm, h F1 H1 σ _ s1 fun vs F2 H2 a2 s2 e2 => ?_⟩
    rw [List.append_nil]
    refine ⟨d, F2, g, s2.ex, by rw [hd]; exact ⟨(eIns C fs).mono a2.f e1, e2⟩, fun v F3 H3 q e3 hv => k v F3 H3 ((a1.trans a2).trans q.pure) (s2.pure q e3) hv⟩
/-- isinstance -/
theorem es_isi {c : V} {u t : Value} (ha : ES ta W W1 r) (hc : ClsV c u) (ht : ∀ (F H : Hp) (v : V), Same F H → r.p F v → TyX K H v t) (hk : PySem.W.kitOne K t u = some b) : ES (tCB (rIsi K) (tCons ta (tCons (tC c) tNil))) W W1 (eB b) := fun F H σ Q s k =>
  ha F H σ _ s fun v F1 H1 a1 s1 e1 => ⟨v, c, t, u, b, rfl, hc, ht F1 H1 v s1.ex e1, hk, k _ F1 H1 a1 s1 rfl⟩
theorem ty_int {i : Int} : ∀ (F H : Hp) (v : V), Same F H → (eI i).p F v → TyX K H v (.type "int") := fun F H v _ h => by
  have e : v = V.int i := h
  subst e; exact .base (.int i)
theorem ty_lst {rs : List R} : ∀ (F H : Hp) (v : V), Same F H → (eL rs).p F v → TyX K H v (.type "list") := fun F H v e ⟨p, xs, h1, h2, _⟩ => by
  subst h1; exact .base (.lst (e _ _ h2))
end
end Fw
end
section
set_option maxRecDepth 100000
namespace Fw
open PySem L2
structure Bag where
  a : Int
  c : Int
  t : Int
abbrev bagR (b : Bag) : List R := [eI b.a, eI b.c, eI b.t]
structure Tbl where
  capacity : Int
  rate : Int
  shift : Int
structure TblTxt (K : PySem.W.Frag) (mg : Str → Option Value) (C : Addr) : Prop where
  cl : Cls K C
  nC : NoAttr K C "own_capacity"
  nR : NoAttr K C "own_rate"
  nS : NoAttr K C "own_shift"
  mgT : mg "Table" = some (.ref C)
  isT : PySem.W.kitOne K (.ref C) (.ref C) = some true
  xa : PySem.W.findIn K (.ref C) "__class__" = some (some (.builtin "object.__class__"))
  xb : PySem.W.specialIn K (.builtin "object.__class__") "__get__" = some (some (.builtin "getset_descriptor.__get__"))
  xc : PySem.W.takesIn K (.builtin "object.__class__") = some true
  xd : PySem.W.mroIn K C (.type "object") = some true
instance : Inhabited Bag := ⟨⟨0, 0, 0⟩⟩
instance : Inhabited Tbl := ⟨⟨0, 0, 0⟩⟩
theorem sq_assoc {a b c : TS} : tSeq (tSeq a b) c = tSeq a (tSeq b c) := rfl
theorem sq_next {c : TS} : tSeq tNext c = c := rfl
section
variable {W W' W0 W1 W2 W3 : List Sl} {K : PySem.W.Frag} {ta tb tc te to tl : TE} {tc' tt : TT} {r ra rb : R} {x y z v : V} {a b : Bool} {ι : Type} {F H F' H' : Hp} {σ : L2.St} {E : XK} {P P1 : Post} {ts uu tA tB : TS} {g : TG}
variable {α β γ δ : Type}
theorem es_frs (e : α → R) (l : List α) (h : ESN te W W1 (oL (l.map e))) : ES te W W1 (eLs e l) := es_fr h
theorem es_shlL {i j : Int} (ha : ES ta W W1 (eI i)) (hb : ES tb W1 W2 (eI j)) (c : 0 ≤ j ∧ j ≤ 1000000) (d : i.natAbs < 2 ^ 64) : ES (tOp (rI CPow fun i j => .int (i * 2 ^ j.toNat)) ta tb) W W2 (eI (i * 2 ^ j.toNat)) := es_shl ha hb ⟨c.1, c.2, d⟩
theorem es_shlW {i j : Int} (ha : ES ta W W1 (eI i)) (hb : ES tb W1 W2 (eI j)) (c : CShl i j) : ES (tOp (rI CShl fun i j => .int (i * 2 ^ j.toNat)) ta tb) W W2 (eI (i * 2 ^ j.toNat)) := es_op ha hb fun _ _ q => ⟨i, j, rfl, rfl, c, q⟩
/-- xs + ys -/
theorem en_cat {e : α → R} {l m : List α} (ha : ES ta W W1 (eLs e l)) (hb : ES tb W1 W2 (eLs e m)) (c : l.length + m.length ≤ 16000000) : ESN (tOp rCat ta tb) W W2 (oL ((l ++ m).map e)) := fun F H σ Q s k =>
  ha F H σ _ s fun v F1 H1 a1 s1 ⟨p, xs, h1, h2, h3⟩ => hb F1 H1 σ _ s1 fun w F2 H2 a2 s2 ⟨q, ys, g1, g2, g3⟩ => by
    subst h1 g1
    have e1 := h3.len
    have e2 := g3.len
    rw [List.length_map] at e1 e2
    refine ⟨p, q, xs, ys, rfl, rfl, s2.ex _ _ (a2.f _ _ h2), s2.ex _ _ g2, Nat.le_trans (by rw [e1, e2]; exact c) (by decide), fun l' hl => ?_⟩
    have ex : Same H2 (upd H2 l' (.lst (xs ++ ys))) := fun a o q => by rw [upd_ne (ne_of_none q hl)]; exact q
    refine k l' _ F2 _ ((a1.trans a2).trans (Rel.grow ex)) (s2.grow ex) ((a1.trans a2).t _ hl) upd_same (s2.ex.free hl) (not_own s2 hl) ⟨nofun, _, rfl, ?_⟩
    rw [List.map_append]
    exact (h3.mono a2.f).app g3
theorem en_lcF (e : β → R) (f : α → β) {p : α → Bool} {l : List α} (h : ESN te W W1 (oL ((l.filter p).map fun x => e (f x)))) (hp : ∀ x, p x = true := by intro _; rfl) : ESN te W W1 (oL ((l.map f).map e)) := by
  rw [List.map_map]
  have : l.filter p = l := List.filter_eq_self.mpr fun x _ => hp x
  rw [this] at h
  exact h
theorem en_lcFT (e : β → R) (f : α → β) {p : α → Bool} {l : List α} (h : ESN te W W1 (oL ((l.filter p).map fun x => e (f x)))) : ESN te W W1 (oL (((l.filter p).map f).map e)) := by
  rw [List.map_map]; exact h
theorem ss_ifj (vA vB : α) (mk : α → List Sl) (h : ET tc' W W1 a) (hA : a = true → SS tA W1 ⟨fun W' => Wk W' (mk vA), P.rt, P.bk, P.ct⟩) (hB : a = false → SS tB W1 ⟨fun W' => Wk W' (mk vB), P.rt, P.bk, P.ct⟩)
    (k : ∀ x, x = (if a = true then vA else vB) → SS uu (mk x) P) : SS (tSeq (tIfS tc' tA tB) uu) W P := by
  refine ss_seqTo (mk (if a = true then vA else vB)) (ss_if h (fun q => ?_) fun q => ?_) (k _ rfl)
  · have e : (if a = true then vA else vB) = vA := if_pos q
    rw [e]; exact hA q
  · have e : (if a = true then vA else vB) = vB := if_neg (by rw [q]; exact Bool.false_ne_true)
    rw [e]; exact hB q
theorem ss_appendO {e : α → R} {x : α} {l0 l : List α} {i : Nat} {q0 q1 : Option Addr} (h0 : W[i]? = some (.ow (oLq q0 (l0.map e)))) (h : ES te W W1 (e x)) (h1 : W1[i]? = some (.ow (oLq q1 (l.map e)))) (hl : l.length < 16000000)
    (k : P.nx (W1.set i (.ow (oLq q1 ((l ++ [x]).map e))))) : SS (tDrop (tBM K "list" rAppend (tVar i) (tCons te tNil))) W P :=
  ss_append h0 h h1 (by rw [List.length_map]; exact hl) (by rw [List.map_append] at k; exact k)
def setLast (l : List α) (x : α) : List α := l.set (l.length - 1) x
theorem ss_setlastO {e : α → R} {x : α} {l : List α} {i : Nat} {q1 : Option Addr} (h : ES te W W1 (e x)) (h1 : W1[i]? = some (.ow (oLq q1 (l.map e)))) (hl : l ≠ []) (k : P.nx (W1.set i (.ow (oLq q1 ((setLast l x).map e))))) :
    SS (tAsg te (gSub (tVar i) (tUn (rU fun i => .int (-i)) (tC (.int 1))) rSetL)) W P :=
  ss_setlast h h1 (by simpa using hl) (by unfold setLast at k; rw [List.map_set] at k; rw [List.length_map]; exact k)
theorem ss_extendO {e : α → R} {m l0 l : List α} {i : Nat} {q0 q1 : Option Addr} (h0 : W[i]? = some (.ow (oLq q0 (l0.map e)))) (h : ES te W W1 (eLs e m)) (h1 : W1[i]? = some (.ow (oLq q1 (l.map e)))) (hl : l.length + m.length < 16000000)
    (k : P.nx (W1.set i (.ow (oLq q1 ((l ++ m).map e))))) : SS (tDrop (tBM K "list" rExtend (tVar i) (tCons te tNil))) W P := fun F H σ D s kn _ _ _ => by
  obtain ⟨p, o, e0, g1, _, ⟨_, xs, rfl, _⟩⟩ := s.ow i _ h0
  refine ⟨.ref p, e0, .inl ⟨rfl, xs, .inl (.inl g1)⟩, h F H σ _ s fun v F1 H1 a1 s1 ⟨q, zs, w1, w2, w3⟩ => ?_⟩
  subst w1
  obtain ⟨p', o', e0', y1, y2, ⟨yq, ys, rfl, y3⟩⟩ := s1.ow i _ h1
  rw [e0] at e0'; cases e0'
  have l1 := y3.len
  have l2 := w3.len
  rw [List.length_map] at l1 l2
  refine ⟨p, q, ys, zs, rfl, rfl, y1, s1.ex _ _ w2, Nat.le_trans (by rw [l1, l2]; exact Nat.le_of_lt hl) (by decide), kn _ _ _ _ k (a1.trans ⟨fun _ _ z => z, fun a u n z => ?_, fun _ _ z => .inl z, fun a z => ?_, fun a m => .inl ((Own.mut h1).mp m)⟩) (s1.mut h1 e0 ⟨yq, _, rfl, by rw [List.map_append]; exact y3.app w3⟩)⟩
  · rw [upd_ne (fun q : a = p => n (by rw [q]; exact ⟨i, _, h1, e0⟩))]; exact z
  · by_cases q : a = p
    · subst q; rw [upd_same] at z; cases z
    · rw [upd_ne q] at z; exact z
theorem es_ixLastO [Inhabited α] {e : α → R} {l : List α} {i : Nat} {q : Option Addr} (h0 : W[i]? = some (.ow (oLq q (l.map e)))) (h : l ≠ []) : ES (tOp (rIxL K) (tVar i) (tUn (rU fun i => .int (-i)) (tC (.int 1)))) W W (e (nth l (l.length - 1))) := fun F H σ Q s k => by
  obtain ⟨p, o, e0, g1, _, ⟨_, xs, rfl, h3⟩⟩ := s.ow i _ h0
  have pos : 0 < l.length := List.length_pos_iff.mpr h
  have hn := nth_get (l := l) (i := (l.length : Int) - 1) (by omega)
  have hb : ((l.length : Int) - 1).toNat = l.length - 1 := by omega
  rw [hb] at hn
  obtain ⟨x, z1, z2⟩ := h3.get' (i := l.length - 1) (r := e (nth l (l.length - 1))) (by rw [List.getElem?_map, hn]; rfl)
  have el := h3.len
  rw [List.length_map] at el
  refine ⟨.ref p, e0, 1, rfl, p, xs, -1, x, rfl, rfl, .inl (.inl g1), ?_, k x F H Rel.refl s z2⟩
  unfold atI ixN
  rw [if_neg (by omega), if_pos (by omega)]
  have e3 : (-1 + (xs.length : Int)).toNat = l.length - 1 := by omega
  show xs[(-1 + (xs.length : Int)).toNat]? = some x
  rw [e3]; exact z1
theorem es_lenO {e : α → R} {l : List α} {i : Nat} {q : Option Addr} (h0 : W[i]? = some (.ow (oLq q (l.map e)))) : ES (tCB (fun xs H Q => ∃ p ys, xs = [.ref p] ∧ (SqL K H p ys ∨ SqT K H p ys) ∧ Q (.int ys.length) H) (tCons (tVar i) tNil)) W W (eI (l.length : Int)) := fun F H σ Q s k => by
  obtain ⟨p, o, e0, g1, _, ⟨_, xs, rfl, h3⟩⟩ := s.ow i _ h0
  have el := h3.len
  rw [List.length_map] at el
  refine ⟨.ref p, e0, p, xs, rfl, .inl (.inl (.inl g1)), k _ F H Rel.refl s ?_⟩
  rw [el]; rfl
/-- an owned list is handed out -/
theorem ss_retO {e : α → R} {l : List α} {i : Nat} {q : Option Addr} (h0 : W[i]? = some (.ow (oLq q (l.map e)))) (k : P.rt (W.set i .no) (eLs e l)) : SS (tSeq (tRet (tVar i)) uu) W P := fun F H σ D s _ kr _ _ => by
  obtain ⟨p, o, e0, g1, g2, ⟨_, xs, rfl, h3⟩⟩ := s.ow i _ h0
  have hi : i < W.length := (List.getElem?_eq_some_iff.mp h0).1
  have wk : Wk W (W.set i .no) := by
    clear s k kr
    have go : ∀ (W : List Sl) (i : Nat), Wk W (W.set i .no) := fun W => by
      induction W with
      | nil => intro i; trivial
      | cons s W ih =>
        intro i
        cases i with
        | zero => exact ⟨.inl rfl, Wk.refl⟩
        | succ i => exact ⟨.inr rfl, ih i⟩
    exact go W i
  have s1 := s.weak wk
  have np : ¬ Own (W.set i .no) σ p := fun ⟨j, c, z1, z2⟩ => by
    by_cases e : i = j
    · subst e; rw [List.getElem?_set_self hi] at z1; cases z1
    · rw [List.getElem?_set_ne e] at z1
      exact e (s.ds i j _ _ p h0 z1 e0 z2)
  refine ⟨.ref p, e0, kr _ σ _ _ _ H k ((Rel.refl.sub fun a o => wk.sub o).freeze (p := p) (o := .lst xs) (.inr ⟨i, _, h0, e0⟩) g2) (s1.freeze g1 g2 np) ⟨p, xs, rfl, upd_same, h3.mono fun a o z => ?_⟩⟩
  rw [upd_ne (ne_of_none z g2)]; exact z
/-- a, b, c = e1, e2, e3 -/
theorem ss_parM3 {i j l : Nat} {tr : TA} {d1 d2 d3 : Ds} (h : AM tr W W1 [d1, d2, d3]) (k : P.nx (putD W1 [i, j, l] [d1, d2, d3])) : SS (tPar3 i j l tr) W P := fun F H σ D s kn _ _ _ =>
  h F H σ _ s fun vs F1 H1 a1 s1 o1 e1 => by
    match vs, e1.len with
    | [u, v, w], _ =>
      obtain ⟨s2, o2⟩ := put_all (is := [i, j, l]) s1 o1 e1
      exact ⟨u, v, w, rfl, kn _ _ F1 H1 k ⟨a1.f, a1.h, a1.n, a1.t, fun a m => (o2 a m).elim (a1.o a) .inr⟩ s2⟩
theorem ty_bl {i : Bool} : ∀ (F H : Hp) (v : V), Same F H → (eB i).p F v → TyX K H v (.type "bool") := fun F H v _ h => by
  have e : v = V.bl i := h
  subst e; exact .base (.bl i)
theorem ty_str {i : Str} : ∀ (F H : Hp) (v : V), Same F H → (eS i).p F v → TyX K H v (.type "str") := fun F H v _ h => by
  have e : v = V.str i := h
  subst e; exact .base (.str i)
theorem ty_tup {rs : List R} : ∀ (F H : Hp) (v : V), Same F H → (eT K rs).p F v → TyX K H v (.type "tuple") := fun F H v e ⟨p, xs, h1, h2, _⟩ => by
  subst h1
  cases h2 with
  | inl h => cases h with
    | inl h => exact .base (.tup (e _ _ h))
    | inr h => obtain ⟨o, h⟩ := h; exact .fTuple (e _ _ h)
  | inr h => obtain ⟨o, its, n, h1, h2, _⟩ := h; exact .kTuple h1 h2
theorem ty_ins {C : Addr} {fs : List (Str × R)} (cl : Cls K C) (xa : PySem.W.findIn K (.ref C) "__class__" = some (some (.builtin "object.__class__"))) (xb : PySem.W.specialIn K (.builtin "object.__class__") "__get__" = some (some (.builtin "getset_descriptor.__get__")))
    (xc : PySem.W.takesIn K (.builtin "object.__class__") = some true) (xd : PySem.W.mroIn K C (.type "object") = some true) : ∀ (F H : Hp) (v : V), Same F H → (eIns C fs).p F v → TyX K H v (.ref C) := fun F H v e ⟨p, dx, gs, h1, h2, _⟩ => by
  subst h1
  exact .base (.ins (e _ _ h2) cl xa xb xc xd)
/-- what comes out is new and owned -/
def spN {ι : Type} (as : ι → List R) (ok : ι → Prop) (c : ι → List R) : Sp := fun vs H Q _ => ∃ (d : ι) (F : Hp), ok d ∧ Same F H ∧ All2 (as d) F vs ∧
  ∀ p o F' H', Rel F H Nob F' H' Nob → Same F' H' → H p = none → H' p = some (.lst o) → F' p = none → All2 (c d) F' o → Q (.ref p) H'
theorem en_call {as : ι → List R} {ok : ι → Prop} {c : ι → List R} {tr : TA} (d : ι) (h : AS tr W W1 (as d)) (gd : ok d) : ESN (tCall (spN as ok c) [] E tr) W W1 (oL (c d)) := fun F H σ Q s k =>
  h F H σ _ s fun vs F1 H1 a1 s1 e1 => by
    rw [List.append_nil]
    refine ⟨d, F1, gd, s1.ex, e1, fun p o F2 H2 q e2 hp ho fp hc => k p _ F2 H2 (a1.trans q.pure) (s1.pure q e2) (a1.t p hp) ho fp ?_ ⟨nofun, o, rfl, hc⟩⟩
    exact fun ow => by
      obtain ⟨u, z⟩ := ow.lt s1
      rw [hp] at z; cases z
/-- a def that hands out a new list: the post -/
def nwPost (c : List R) : Post := ⟨fun _ => False, fun _ _ => False, fun _ => False, fun _ => False⟩
/-- a body that ends in `return` of what is new -/
def SSN (t : TS) (W : List Sl) (c : List R) : Prop := ∀ (F H : Hp) (σ : L2.St) (D : Ends), Sat F H σ W →
  (∀ p o F' H', Rel F H (Own W σ) F' H' (fun a => Own W σ a) → Same F' H' → H p = none → H' p = some (.lst o) → F' p = none → All2 c F' o → D.rt (.ref p) H') → t D σ H
theorem sn_ret {c : List R} (h : ESN te W W (oL c)) : SSN (tSeq (tRet te) uu) W c := fun F H σ D s k =>
  h F H σ _ s fun p o F1 H1 a1 s1 hp ho fp np ⟨_, xs, e, hc⟩ => by
    subst e
    exact k p xs F1 H1 a1 s1.ex hp ho fp hc
theorem def_N {as : ι → List R} {ok : ι → Prop} {c : ι → List R} {N : List Str} {vs : List V} {H : Hp} {Q : VK} {E : XK} (h : spN as ok c vs H Q E) (hN : ∀ d, (as d).length ≤ N.length)
    (k : ∀ d, ok d → SSN ts (slF (as d) N.length) (c d)) : ts { nx := fun _ H' => Q .non H', rt := Q } (L2.start N vs) H := by
  obtain ⟨d, F, hok, ex, ha, hq⟩ := h
  have el := ha.len
  have s : Sat F H (L2.start N vs) (slF (as d) N.length) := by
    refine ⟨ex, ?_, fun i r h => ?_, fun i c h => (slF_ow h).elim, fun i j c e p h => (slF_ow h).elim⟩
    · unfold L2.start slF; simp [el]
    · obtain ⟨x, z1, z2⟩ := ha.get' (slF_fz h)
      exact ⟨x, start_at z1, z2⟩
  have own0 : ∀ a, ¬ Own (slF (as d) N.length) (L2.start N vs) a := fun a ⟨i, c, h, _⟩ => slF_ow h
  refine k d hok F H (L2.start N vs) _ s fun p o F' H' a e hp ho fp hc => hq p o F' H' ⟨a.f, fun x o n h => a.h x o (own0 x) h, fun x o h => (a.n x o h).imp id (Or.imp id fun m => own0 x m), a.t, fun x m => m.elim⟩ e hp ho fp hc
/-- what a def hands back: a value; a value and what its first argument becomes -/
def FP (e : α → R) (v : α) : Post := ⟨fun _ => e v = eN, fun _ r => r = e v, fun _ => False, fun _ => False⟩
def BP (e : α → R) (p : Addr) (v : α × Bag) : Post := ⟨fun W' => e v.1 = eN ∧ W'[0]? = some (.ow (oLq (some p) (bagR v.2))), fun W' r => r = e v.1 ∧ W'[0]? = some (.ow (oLq (some p) (bagR v.2))), fun _ => False, fun _ => False⟩
def noNx (P : Post) : Post := ⟨fun _ => False, P.rt, P.bk, P.ct⟩
theorem ss_ifLv (Q : α → Post) {vA vB : α} (h : ET tc' W W1 a) (hA : a = true → SS tA W1 (noNx (Q vA))) (hB : a = false → SS (tSeq tB uu) W1 (Q vB)) : SS (tSeq (tIfS tc' tA tB) uu) W (Q (if a = true then vA else vB)) := by
  refine ss_ifL h (fun q => ?_) fun q => ?_
  · rw [if_pos q]; exact hA q
  · rw [if_neg (by rw [q]; exact Bool.false_ne_true)]; exact hB q
theorem ss_ifRv (Q : α → Post) {vA vB : α} (h : ET tc' W W1 a) (hA : a = true → SS (tSeq tA uu) W1 (Q vA)) (hB : a = false → SS tB W1 (noNx (Q vB))) : SS (tSeq (tIfS tc' tA tB) uu) W (Q (if a = true then vA else vB)) := by
  refine ss_ifR h (fun q => ?_) fun q => ?_
  · rw [if_pos q]; exact hA q
  · rw [if_neg (by rw [q]; exact Bool.false_ne_true)]; exact hB q
/-- list(range(a, b)) -/
theorem rgV_rng {a b : Int} : rgV a b = (rng a b).map V.int := by unfold rgV rng; rw [List.map_map]; rfl
theorem all2_of_ints {F : Hp} : ∀ l : List Int, All2 (l.map eI) F (l.map V.int)
  | [] => trivial
  | _ :: l => ⟨rfl, all2_of_ints l⟩
theorem en_listRg2 {i j : Int} (ha : ES ta W W1 (eI i)) (hb : ES tb W1 W2 (eI j)) (c : RgOk i j) : ESN (tLstRg (tRg2 ta tb)) W W2 (oL ((rng i j).map eI)) := fun F H σ Q s k =>
  ha F H σ _ s fun v F1 H1 a1 s1 e1 => hb F1 H1 σ _ s1 fun w F2 H2 a2 s2 e2 => by
    have e1' : v = V.int i := e1
    have e2' : w = V.int j := e2
    subst e1' e2'
    refine ⟨i, j, rfl, rfl, c, fun q hq => ?_⟩
    have ex : Same H2 (upd H2 q (.lst (rgV i j))) := fun a o z => by rw [upd_ne (ne_of_none z hq)]; exact z
    exact k q _ F2 _ ((a1.trans a2).trans (Rel.grow ex)) (s2.grow ex) ((a1.trans a2).t _ hq) upd_same (s2.ex.free hq) (not_own s2 hq) ⟨nofun, _, rfl, by rw [rgV_rng]; exact all2_of_ints _⟩
theorem en_listRg1 {j : Int} (hb : ES tb W W1 (eI j)) (c : RgOk 0 j) : ESN (tLstRg (tRg1 tb)) W W1 (oL ((rng 0 j).map eI)) := fun F H σ Q s k =>
  hb F H σ _ s fun w F2 H2 a2 s2 e2 => by
    have e2' : w = V.int j := e2
    subst e2'
    refine ⟨j, rfl, c, fun q hq => ?_⟩
    have ex : Same H2 (upd H2 q (.lst (rgV 0 j))) := fun a o z => by rw [upd_ne (ne_of_none z hq)]; exact z
    exact k q _ F2 _ (a2.trans (Rel.grow ex)) (s2.grow ex) (a2.t _ hq) upd_same (s2.ex.free hq) (not_own s2 hq) ⟨nofun, _, rfl, by rw [rgV_rng]; exact all2_of_ints _⟩
end
end Fw
end
section
set_option maxRecDepth 100000
namespace Fw
open PySem L2
/-- what is walked gives these items, one a turn -/
def Wlk (J : It) (F1 : Hp) (rs : List R) : Prop := ∀ (i : Nat) (F H : Hp), Same F1 F → Same F H →
  (∀ r, rs[i]? = some r → J.go i H ∧ ∀ x H', J.yld i H x H' → ∃ F', Rel F H Nob F' H' Nob ∧ Same F' H' ∧ r.p F' x) ∧ (rs.length ≤ i → J.stop i H)
def IS (wi : TI) (W W' : List Sl) (rs : List R) : Prop := ∀ (F H : Hp) (σ : L2.St) (Q : It → Hp → Prop), Sat F H σ W →
  (∀ J F' H', Rel F H (Own W σ) F' H' (Own W' σ) → Sat F' H' σ W' → Wlk J F' rs → Q J H') → wi σ H Q
section
variable {W W' W0 W1 W2 W3 : List Sl} {K : PySem.W.Frag} {ta tb tc te to tl : TE} {tc' tt : TT} {r ra rb : R} {x y z v : V} {a b : Bool} {ι : Type} {F H F' H' : Hp} {σ : L2.St} {E : XK} {P P1 : Post} {ts uu tA tB : TS} {g : TG} {wi : TI}
variable {α β γ δ ρ : Type}
theorem is_list {e : α → R} {l : List α} (h : ES tl W W1 (eLs e l)) : IS (iList K tl) W W1 (l.map e) := fun F H σ Q s k =>
  h F H σ _ s fun v F1 H1 a1 s1 ⟨p, xs, e1, e2, e3⟩ => by
    refine ⟨p, e1, ⟨xs, .inl (.inl (s1.ex _ _ e2))⟩, k (Itl K p) F1 H1 a1 s1 fun i F' H' f1 f2 => ⟨fun r hr => ?_, fun hl => ?_⟩⟩
    · obtain ⟨x, z1, z2⟩ := e3.get' hr
      have q : SqL K H' p xs := .inl (.inl (f2 _ _ (f1 _ _ e2)))
      refine ⟨⟨xs, x, q, z1⟩, fun y H'' ⟨u1, u2⟩ => ?_⟩
      subst u1
      have ey := u2 xs q
      rw [z1] at ey; cases ey
      exact ⟨F', Rel.refl, f2, r.mono f1 z2⟩
    · exact ⟨xs, .inl (.inl (f2 _ _ (f1 _ _ e2))), by rw [e3.len]; exact hl⟩
theorem is_tup {rs : List R} (h : ES tl W W1 (eT K rs)) : IS (iTup K tl) W W1 rs := fun F H σ Q s k =>
  h F H σ _ s fun v F1 H1 a1 s1 ⟨p, xs, e1, e2, e3⟩ => by
    refine ⟨p, e1, ⟨xs, sqT_up s1.ex e2⟩, k (Itt K p) F1 H1 a1 s1 fun i F' H' f1 f2 => ⟨fun r hr => ?_, fun hl => ?_⟩⟩
    · obtain ⟨x, z1, z2⟩ := e3.get' hr
      have q : SqT K H' p xs := sqT_up f2 (sqT_up f1 e2)
      refine ⟨⟨xs, x, q, z1⟩, fun y H'' ⟨u1, u2⟩ => ?_⟩
      subst u1
      have ey := u2 xs q
      rw [z1] at ey; cases ey
      exact ⟨F', Rel.refl, f2, r.mono f1 z2⟩
    · exact ⟨xs, sqT_up f2 (sqT_up f1 e2), by rw [e3.len]; exact hl⟩
theorem wlk_rng {lo n : Int} : Wlk (Itr lo (n - lo).toNat) F ((rng lo n).map eI) := fun i F' H' f1 f2 => ⟨fun r hr => by
  rw [List.getElem?_map] at hr
  have hi : i < (n - lo).toNat := by
    cases q : (rng lo n)[i]? with
    | none => rw [q] at hr; cases hr
    | some x => rw [← rng_len]; exact (List.getElem?_eq_some_iff.mp q).1
  rw [rng_at hi] at hr
  cases hr
  refine ⟨hi, fun x H'' ⟨u1, u2⟩ => ?_⟩
  subst u1
  exact ⟨F', Rel.refl, f2, u2⟩, fun hl => by rw [List.length_map, rng_len] at hl; exact hl⟩
theorem is_rng1 {tr : TA} {n : Int} (h : AS tr W W1 [eI n]) (hn : -(2 ^ 62) ≤ n ∧ n < 2 ^ 62) : IS (iRng1 tr) W W1 ((rng 0 n).map eI) := fun F H σ Q s k =>
  h F H σ _ s fun vs F1 H1 a1 s1 e1 => by
    match vs, e1 with
    | [v], e1 =>
      have e : v = V.int n := e1.1
      subst e
      have q := k _ F1 H1 a1 s1 (wlk_rng (lo := 0) (n := n))
      have en : (n - 0).toNat = n.toNat := by omega
      rw [en] at q
      exact ⟨n, rfl, hn.1, hn.2, q⟩
    | [], e1 => exact e1.elim
    | _ :: _ :: _, e1 => exact e1.2.elim
theorem is_rng2 {tr : TA} {lo n : Int} (h : AS tr W W1 [eI lo, eI n]) (hn : -(2 ^ 62) ≤ lo ∧ lo < 2 ^ 62 ∧ -(2 ^ 62) ≤ n ∧ n < 2 ^ 62) : IS (iRng2 tr) W W1 ((rng lo n).map eI) := fun F H σ Q s k =>
  h F H σ _ s fun vs F1 H1 a1 s1 e1 => by
    match vs, e1 with
    | [v, w], e1 =>
      have e : v = V.int lo := e1.1
      have e' : w = V.int n := e1.2.1
      subst e e'
      exact ⟨lo, n, rfl, hn, k _ F1 H1 a1 s1 wlk_rng⟩
    | [], e1 => exact e1.elim
    | [_], e1 => exact e1.2.elim
    | _ :: _ :: _ :: _, e1 => exact e1.2.2.elim
@[irreducible] def enumI (l : List α) : List (Int × α) := l.zipIdx.map fun p => ((p.2 : Int), p.1)
theorem enumI_at {l : List α} {i : Nat} : (enumI l)[i]? = (l[i]?).map fun x => ((i : Int), x) := by
  unfold enumI
  rw [List.getElem?_map, List.getElem?_zipIdx]
  cases l[i]? with
  | none => rfl
  | some x => simp
theorem enumI_len {l : List α} : (enumI l).length = l.length := by unfold enumI; simp
/-- a new pair is laid -/
theorem pair_new {T : Addr} {xs : List V} {rs : List R} (f2 : Same F H) (hT : H T = none) (h : All2 rs F xs) : ∃ F', Rel F H Nob F' (upd H T (.tup xs)) Nob ∧ Same F' (upd H T (.tup xs)) ∧ (eT K rs).p F' (.ref T) := by
  have fT := f2.free hT
  refine ⟨upd F T (.tup xs), Rel.lay f2 hT, fun a o z => ?_, T, xs, rfl, .inl (.inl upd_same), h.mono fun a o z => by rw [upd_ne (ne_of_none z fT)]; exact z⟩
  by_cases q : a = T
  · subst q; rw [upd_same] at z; cases z; exact upd_same
  · rw [upd_ne q] at z ⊢; exact f2 a o z
theorem is_enum {e : α → R} {l : List α} (h : ES tl W W1 (eLs e l)) : IS (iEnum K (tCons tl tNil)) W W1 ((enumI l).map (eP2 K eI e)) := fun F H σ Q s k =>
  h F H σ _ s fun v F1 H1 a1 s1 ⟨p, xs, e1, e2, e3⟩ => by
    subst e1
    refine ⟨p, xs, rfl, .inl (.inl (s1.ex _ _ e2)), k (Ite K p) F1 H1 a1 s1 fun i F' H' f1 f2 => ⟨fun r hr => ?_, fun hl => ?_⟩⟩
    · rw [List.getElem?_map, enumI_at] at hr
      cases q : l[i]? with
      | none => rw [q] at hr; cases hr
      | some x0 =>
        rw [q] at hr; cases hr
        obtain ⟨x, z1, z2⟩ := e3.get' (i := i) (r := e x0) (by rw [List.getElem?_map, q]; rfl)
        have qs : SqL K H' p xs := .inl (.inl (f2 _ _ (f1 _ _ e2)))
        refine ⟨⟨xs, x, qs, z1⟩, fun y H'' ⟨T, x', u1, u2, u3, u4⟩ => ?_⟩
        subst u1 u3
        have ey := u4 xs qs
        rw [z1] at ey; cases ey
        exact pair_new f2 u2 ⟨rfl, (e x0).mono f1 z2, trivial⟩
    · refine ⟨xs, .inl (.inl (f2 _ _ (f1 _ _ e2))), ?_⟩
      rw [e3.len, List.length_map]
      rw [List.length_map, enumI_len] at hl; exact hl
theorem is_zip {e : α → R} {f : β → R} {l : List α} {m : List β} (h : ES ta W W1 (eLs e l)) (h' : ES tb W1 W2 (eLs f m)) : IS (iZip K (tCons ta (tCons tb tNil))) W W2 ((l.zip m).map (eP2 K e f)) := fun F H σ Q s k =>
  h F H σ _ s fun v F1 H1 a1 s1 ⟨p, xs, e1, e2, e3⟩ => h' F1 H1 σ _ s1 fun w F2 H2 a2 s2 ⟨q, ys, g1, g2, g3⟩ => by
    subst e1 g1
    have e2' := a2.f _ _ e2
    have e3' := e3.mono a2.f
    refine ⟨p, q, xs, ys, rfl, .inl (.inl (s2.ex _ _ e2')), .inl (.inl (s2.ex _ _ g2)), k (Itz K p q) F2 H2 (a1.trans a2) s2 fun i F' H' f1 f2 => ⟨fun r hr => ?_, fun hl => ?_⟩⟩
    · rw [List.getElem?_map] at hr
      cases qz : (l.zip m)[i]? with
      | none => rw [qz] at hr; cases hr
      | some xy =>
        rw [qz] at hr; cases hr
        obtain ⟨x0, y0⟩ := xy
        obtain ⟨q1, q2⟩ := List.getElem?_zip_eq_some.mp qz
        obtain ⟨x, z1, z2⟩ := e3'.get' (i := i) (r := e x0) (by rw [List.getElem?_map, q1]; rfl)
        obtain ⟨y, y1, y2⟩ := g3.get' (i := i) (r := f y0) (by rw [List.getElem?_map, q2]; rfl)
        have qs : SqL K H' p xs := .inl (.inl (f2 _ _ (f1 _ _ e2')))
        have qt : SqL K H' q ys := .inl (.inl (f2 _ _ (f1 _ _ g2)))
        refine ⟨⟨xs, ys, x, y, qs, qt, z1, y1⟩, fun w H'' ⟨T, x', y', u1, u2, u3, u4, u5⟩ => ?_⟩
        subst u1 u3
        have ex := u4 xs qs
        rw [z1] at ex; cases ex
        have ey := u5 ys qt
        rw [y1] at ey; cases ey
        exact pair_new f2 u2 ⟨(e x0).mono f1 z2, (f y0).mono f1 y2, trivial⟩
    · refine ⟨xs, ys, .inl (.inl (f2 _ _ (f1 _ _ e2'))), .inl (.inl (f2 _ _ (f1 _ _ g2))), ?_⟩
      rw [List.length_map, List.length_zip] at hl
      rw [e3.len, g3.len, List.length_map, List.length_map]
      omega
/-- for over any source -/
theorem ss_forS {tb : TS} {rs : List R} (I : Nat → List Sl → Prop) (h : IS wi W W1 rs) (h0 : I 0 W1)
    (hs : ∀ i r W', rs[i]? = some r → I i W' → ∃ W2 is, GS g r W' W2 is ∧ SS tb W2 ⟨I (i + 1), P.rt, P.nx, I (i + 1)⟩) (hd : ∀ W', I rs.length W' → P.nx W') : SS (tFor wi g tb) W P := fun F H σ D s kn kr kb kc =>
  h F H σ _ s fun J F1 H1 a1 s1 hw => by
    refine ⟨fun i m σ' H' => m = rs.length - i ∧ i ≤ rs.length ∧ ∃ W' F', I i W' ∧ Rel F1 H1 (Own W1 σ) F' H' (Own W' σ') ∧ Sat F' H' σ' W', ⟨rs.length, by simp, Nat.zero_le _, W1, F1, h0, Rel.refl, s1⟩, ?_⟩
    rintro i m σ' H' ⟨rfl, hi, W', F', hI, q, s'⟩
    obtain ⟨w1, w2⟩ := hw i F' H' q.f s'.ex
    by_cases hlt : i < rs.length
    · have hr : rs[i]? = some rs[i] := List.getElem?_eq_getElem hlt
      obtain ⟨go, yl⟩ := w1 _ hr
      obtain ⟨W2, is, hg, hb⟩ := hs i _ W' hr hI
      refine .inr ⟨go, fun σ' H' => ∃ W' F', I (i + 1) W' ∧ Rel F1 H1 (Own W1 σ) F' H' (Own W' σ') ∧ Sat F' H' σ' W', fun σ2 H2 z => ⟨rs.length - (i + 1), by omega, rfl, hlt, z⟩, fun x H2 y => ?_⟩
      obtain ⟨F2, q2, e2, hx⟩ := yl x H2 y
      have s2 := s'.pure q2 e2
      refine hg F2 H2 σ' x _ s2 hx fun σ3 o3 s3 _ => hb F2 H2 σ3 _ s3 ?_ ?_ ?_ ?_
      · exact fun W4 σ4 F4 H4 n4 a4 s4 => ⟨W4, F4, n4, (q.trans q2.pure).trans ((Rel.refl.sub o3).trans a4), s4⟩
      · exact fun W4 σ4 r4 v4 F4 H4 n4 a4 s4 y4 => kr W4 σ4 r4 v4 F4 H4 n4 (a1.trans ((q.trans q2.pure).trans ((Rel.refl.sub o3).trans a4))) s4 y4
      · exact fun W4 σ4 F4 H4 n4 a4 s4 => kn W4 σ4 F4 H4 n4 (a1.trans ((q.trans q2.pure).trans ((Rel.refl.sub o3).trans a4))) s4
      · exact fun W4 σ4 F4 H4 n4 a4 s4 => ⟨W4, F4, n4, (q.trans q2.pure).trans ((Rel.refl.sub o3).trans a4), s4⟩
    · have e : i = rs.length := by omega
      subst e
      exact .inl ⟨w2 (Nat.le_refl _), kn W' σ' F' H' (hd W' hI) (a1.trans q) s'⟩
theorem sf_S {e : α → R} {l : List α} (mk : β → List Sl) (bd : β → α → β) (ok : β → α → Prop) (s0 : β) (h : IS wi W W1 (l.map e)) (w : Wk W1 (mk s0)) (hg : okF ok bd s0 l)
    (hs : ∀ s x, x ∈ l → ok s x → ∃ W2 is, GS g (e x) (mk s) W2 is ∧ SS ts W2 ⟨fun W' => Wk W' (mk (bd s x)), P.rt, fun _ => False, fun W' => Wk W' (mk (bd s x))⟩) (hd : ∀ W', Wk W' (mk (l.foldl bd s0)) → P.nx W') : SS (tFor wi g ts) W P := by
  refine ss_forS (fun i W' => Wk W' (mk ((l.take i).foldl bd s0))) h (by simpa using w) (fun i r W' hr hi => ?_) fun W' hw => hd W' (by rw [List.length_map, List.take_length] at hw; exact hw)
  rw [List.getElem?_map] at hr
  cases q : l[i]? with
  | none => rw [q] at hr; cases hr
  | some x =>
    rw [q] at hr
    have er : e x = r := Option.some.inj hr
    subst er
    obtain ⟨W2, is, h1, h2⟩ := hs _ x (List.mem_of_getElem? q) (okF_at hg q)
    rw [foldl_take q]
    exact ⟨W2, is, fun F H σ v Q s hv k => h1 F H σ v Q (s.weak hi) hv fun σ' o s' d => k σ' (fun a z => hi.sub (o a z)) s' d, h2.imp (fun _ z => z) (fun _ _ z => z) (fun _ z => z.elim) fun _ z => z⟩
/-- .. whose turns may hand something back -/
def loopR (bd : β → α → ρ ⊕ β) : β → List α → ρ ⊕ β
  | s, [] => .inr s
  | s, x :: l => match bd s x with
    | .inl r => .inl r
    | .inr s' => loopR bd s' l
def okR (ok : β → α → Prop) (bd : β → α → ρ ⊕ β) : β → List α → Prop
  | _, [] => True
  | s, x :: l => ok s x ∧ match bd s x with
    | .inl _ => True
    | .inr s' => okR ok bd s' l
def LQ (mk : β → List Sl) (Q : γ → Post) (vR : ρ → γ) : ρ ⊕ β → Post
  | .inl r => ⟨fun _ => False, (Q (vR r)).rt, fun _ => False, fun _ => False⟩
  | .inr s => ⟨fun W' => Wk W' (mk s), fun _ _ => False, fun _ => False, fun W' => Wk W' (mk s)⟩
def sumC (vR : ρ → γ) (vN : β → γ) : ρ ⊕ β → γ
  | .inl r => vR r
  | .inr s => vN s
theorem sf_SR {e : α → R} {l : List α} (mk : β → List Sl) (bd : β → α → ρ ⊕ β) (ok : β → α → Prop) (s0 : β) (Q : γ → Post) (vR : ρ → γ) (vN : β → γ) (h : IS wi W W1 (l.map e)) (w : Wk W1 (mk s0)) (hg : okR ok bd s0 l)
    (hs : ∀ s x, x ∈ l → ok s x → ∃ W2 is, GS g (e x) (mk s) W2 is ∧ SS ts W2 (LQ mk Q vR (bd s x))) (hd : ∀ s, loopR bd s0 l = .inr s → SS uu (mk s) (Q (vN s))) :
    SS (tSeq (tFor wi g ts) uu) W (Q (sumC vR vN (loopR bd s0 l))) := by
  refine ss_seq (fun W' => ∃ s, loopR bd s0 l = .inr s ∧ Wk W' (mk s)) ?_ (fun W' ⟨s, e1, e2⟩ => by rw [e1]; exact (hd s e1).weak e2)
  refine ss_forS (fun i W' => ∃ s, Wk W' (mk s) ∧ loopR bd s (l.drop i) = loopR bd s0 l ∧ okR ok bd s (l.drop i)) h ⟨s0, w, rfl, hg⟩ (fun i r W' hr ⟨s, z1, z2, z3⟩ => ?_) fun W' ⟨s, z1, z2, _⟩ => ⟨s, by rw [List.length_map, List.drop_length] at z2; exact z2.symm, z1⟩
  rw [List.getElem?_map] at hr
  cases q : l[i]? with
  | none => rw [q] at hr; cases hr
  | some x =>
    rw [q] at hr
    have er : e x = r := Option.some.inj hr
    subst er
    have ed : l.drop i = x :: l.drop (i + 1) := by
      have hi := (List.getElem?_eq_some_iff.mp q).1
      rw [List.drop_eq_getElem_cons hi]
      rw [List.getElem?_eq_getElem hi] at q
      cases q; rfl
    rw [ed] at z2 z3
    obtain ⟨W2, is, h1, h2⟩ := hs s x (List.mem_of_getElem? q) z3.1
    refine ⟨W2, is, fun F H σ v Q s hv k => h1 F H σ v Q (s.weak z1) hv fun σ' o s' d => k σ' (fun a z => z1.sub (o a z)) s' d, ?_⟩
    have z4 := z3.2
    cases eb : bd s x with
    | inl r =>
      rw [eb] at h2
      simp only [loopR, eb] at z2
      refine h2.imp (fun _ z => z.elim) (fun W' r' z => ?_) (fun W' z => z.elim) fun W' z => z.elim
      show (Q (sumC vR vN (loopR bd s0 l))).rt W' r'
      rw [← z2]; exact z
    | inr s' =>
      rw [eb] at h2
      simp only [loopR, eb] at z2
      simp only [eb] at z4
      exact h2.imp (fun _ z => ⟨s', z, z2, z4⟩) (fun _ _ z => z.elim) (fun _ z => z.elim) fun _ z => ⟨s', z, z2, z4⟩
theorem ci_go {F1 H1 : Hp} {D : Addr} {rs : List R} {acc : List V} {vs is : List Nat} {p : Bool} {xv : V} (hD : H1 D = none) (s1 : Sat F1 H1 σ W1) (q : Rel F1 H1 Nob F H Nob) (ex : Same F H) (fD : F D = none) (hDl : H D = some (.lst acc)) (ha : All2 rs F acc) (hx : ra.p F xv) (hl : rs.length < 16000000)
    (hg : GS g ra (blW W1 vs) W2 is) (his : ∀ j ∈ is, j ∈ vs) (ht : ET tt W2 W2 p) (he : p = true → ES te W2 W2 rb) :
    g xv (wipe σ vs) H fun σ2 H2 => wipe σ2 vs = wipe σ vs ∧ tt σ2 H2 fun b H3 =>
      if b = true then te σ2 H3 fun y H4 => ∃ acc, H4 D = some (.lst acc) ∧ acc.length < sizeLine ∧ CI F1 H1 D (if p = true then rs ++ [rb] else rs) (upd H4 D (.lst (acc ++ [y]))) else CI F1 H1 D (if p = true then rs ++ [rb] else rs) H3 := by
  obtain ⟨sw, _⟩ := (s1.pure q ex).wipe vs
  refine hg F H (wipe σ vs) xv _ sw.fr hx fun σ2 o2 s2 d2 => ⟨wipe_eq (d2.1.trans (wipe_length σ vs)) d2.2 his, ?_⟩
  have none2 : ∀ a, ¬ Own W2 σ2 a := fun a o => own_fr (o2 a o)
  have up : ∀ {F F' H H' : Hp}, Rel F H (Own W2 σ2) F' H' (Own W2 σ2) → Rel F H Nob F' H' Nob := fun {F F' H H'} a =>
    ⟨a.f, fun x o n h => a.h x o (none2 x) h, fun x o h => (a.n x o h).imp id (Or.imp id fun m => none2 x m), a.t, fun x m => .inl m⟩
  refine ht F H σ2 _ s2 fun F3 H3 a3 s3 => ?_
  have q3 := q.trans (up a3)
  have hD3 : H3 D = some (.lst acc) := (up a3).h D _ (fun z => z) hDl
  have fresh : ∀ {F' H' : Hp}, Rel F1 H1 Nob F' H' Nob → Rel F H Nob F' H' Nob → F' D = none := fun {F' H'} a b => by
    cases z : F' D with
    | none => rfl
    | some u =>
      rcases b.n D u z with y | y | y
      · rw [fD] at y; cases y
      · rw [hDl] at y; cases y
      · exact y.elim
  cases p with
  | false =>
    rw [if_neg Bool.false_ne_true, if_neg Bool.false_ne_true]
    exact ⟨F3, acc, q3, s3.ex, fresh q3 (up a3), hD3, ha.mono a3.f⟩
  | true =>
    rw [if_pos rfl, if_pos rfl]
    refine he rfl F3 H3 σ2 _ s3 fun y F4 H4 a4 s4 hy => ?_
    have q4 := q3.trans (up a4)
    have f4 := fresh q4 ((up a3).trans (up a4))
    refine ⟨acc, (up a4).h D _ (fun z => z) hD3, Nat.lt_of_lt_of_le (by rw [ha.len]; exact hl) (by decide), F4, acc ++ [y], ?_, fun a o h => ?_, f4, upd_same, (ha.mono (fun a o h => a4.f a o (a3.f a o h))).app ⟨hy, trivial⟩⟩
    · refine ⟨q4.f, fun a o n h => ?_, q4.n, fun a h => ?_, fun _ m => m.elim⟩
      · rw [upd_ne (ne_of_none h hD)]; exact q4.h a o n h
      · by_cases e : a = D
        · subst e; exact hD
        · rw [upd_ne e] at h; exact q4.t a h
    · rw [upd_ne (ne_of_none h f4)]; exact s4.ex a o h
theorem en_lcS {e : α → R} {l : List α} {f : α → R} {vs is : List Nat} (p : α → Bool) (W2 : α → List Sl) (h : IS wi W W1 (l.map e)) (hz : l.length < 16000000) (his : ∀ j ∈ is, j ∈ vs)
    (hg : ∀ x, GS g (e x) (blW W1 vs) (W2 x) is) (ht : ∀ x ∈ l, ET tt (W2 x) (W2 x) (p x)) (he : ∀ x ∈ l, p x = true → ES te (W2 x) (W2 x) (f x)) :
    ESN (tLc wi g tt te vs) W W1 (oL ((l.filter p).map f)) := fun F H σ Q s k =>
  h F H σ _ s fun J F1 H1 a1 s1 hw D hD => by
    have fD : F1 D = none := s1.ex.free hD
    refine ⟨fun i m H' => m = l.length - i ∧ i ≤ l.length ∧ CI F1 H1 D (lcR p f (l.take i)) H', ⟨l.length, by simp, Nat.zero_le _, F1, [], Rel.grow fun a o h => ?_, fun a o h => ?_, fD, upd_same, by simp [lcR, All2]⟩, ?_⟩
    · rw [upd_ne (ne_of_none h hD)]; exact h
    · rw [upd_ne (ne_of_none h fD)]; exact s1.ex a o h
    rintro i m H' ⟨rfl, hi, F', acc, q, ex, f', hDl, ha⟩
    obtain ⟨w1, w2⟩ := hw i F' H' q.f ex
    by_cases hlt : i < l.length
    · have hy : l[i]? = some l[i] := List.getElem?_eq_getElem hlt
      have my := List.mem_of_getElem? hy
      obtain ⟨go, yl⟩ := w1 (e l[i]) (by rw [List.getElem?_map, hy]; rfl)
      refine .inr ⟨go, CI F1 H1 D (lcR p f (l.take (i + 1))), fun H2 z => ⟨l.length - (i + 1), by omega, rfl, hlt, z⟩, fun x H2 y => ?_⟩
      obtain ⟨F2, q2, e2, hx⟩ := yl x H2 y
      have d2 : H2 D = some (.lst acc) := q2.h D _ (fun z => z) hDl
      have f2 : F2 D = none := by
        cases z : F2 D with
        | none => rfl
        | some u =>
          rcases q2.n D u z with y | y | y
          · rw [f'] at y; cases y
          · rw [hDl] at y; cases y
          · exact y.elim
      rw [lcR_take hy]
      exact ci_go hD s1 (q.trans q2) e2 f2 d2 (ha.mono q2.f) hx (by have := lcR_len (p := p) (f := f) (l := l.take i); have := List.length_take_le' i l; omega) (hg l[i]) his (ht _ my) (he _ my)
    · have e : i = l.length := by omega
      subst e
      rw [List.take_length] at ha
      exact .inl ⟨w2 (by rw [List.length_map]; exact Nat.le_refl _), k D _ F' H' (a1.trans q.pure) (s1.pure q ex) (a1.t D hD) hDl f' (fun o => by
        obtain ⟨u, z⟩ := o.lt s1
        rw [hD] at z; cases z) ⟨nofun, acc, rfl, ha⟩⟩
end
end Fw
end
section
set_option maxRecDepth 100000
namespace Fw
open PySem L2
/-- frozen things that are data -/
class DatE (K : PySem.W.Frag) {α : Type} (e : α → R) where
  d : α → PyData
  dep : Nat
  ok : ∀ {F H : Hp} {v : V} {x : α}, Same F H → (e x).p F v → Dp K H v (d x)
  lay : ∀ x, (d x).canLay0 = true
  dpt : ∀ x, (d x).depth ≤ dep
  eqv : ∀ x y, PyData.eqv (d x) (d y) = true ↔ x = y
  nod : ∀ x, (d x).hasDict = false
instance {K : PySem.W.Frag} : DatE K eI where
  d := .int
  dep := 0
  ok := fun _ h => by
    cases (show _ = V.int _ from h)
    exact .int _
  lay := fun _ => rfl
  dpt := fun _ => by simp [PyData.depth]
  eqv := fun x y => by simp [PyData.eqv]
  nod := fun _ => rfl
instance {K : PySem.W.Frag} : DatE K eB where
  d := .bool
  dep := 0
  ok := fun _ h => by
    cases (show _ = V.bl _ from h)
    exact .bl _
  lay := fun _ => rfl
  dpt := fun _ => by simp [PyData.depth]
  eqv := fun x y => by simp [PyData.eqv]
  nod := fun _ => rfl
theorem dpAll {K : PySem.W.Frag} {α : Type} {e : α → R} [D : DatE K e] {F H : Hp} (f : Same F H) : ∀ {l : List α} {xs : List V}, All2 (l.map e) F xs → DpAll K H xs (l.map (D.d))
  | [], [], _ => .nil
  | _ :: _, _ :: _, h => .cons (D.ok f h.1) (dpAll f h.2)
  | [], _ :: _, h => h.elim
  | _ :: _, [], h => h.elim
theorem layAll {K : PySem.W.Frag} {α : Type} {e : α → R} [D : DatE K e] : ∀ l : List α, PyData.canLayAll0 (l.map D.d) = true
  | [] => rfl
  | x :: l => by simp [PyData.canLayAll0, D.lay x, layAll l]
theorem eqvAll_iff {K : PySem.W.Frag} {α : Type} {e : α → R} [D : DatE K e] : ∀ l m : List α, PyData.eqvAll (l.map D.d) (m.map D.d) = true ↔ l = m
  | [], [] => by simp [PyData.eqvAll]
  | x :: l, y :: m => by simp [PyData.eqvAll, D.eqv, eqvAll_iff l m]
  | [], _ :: _ => by simp [PyData.eqvAll]
  | _ :: _, [] => by simp [PyData.eqvAll]
theorem depAll {K : PySem.W.Frag} {α : Type} {e : α → R} [D : DatE K e] : ∀ l : List α, PyData.depthAll (l.map D.d) ≤ D.dep
  | [] => by simp [PyData.depthAll]
  | x :: l => by
    have h1 := D.dpt x
    have h2 := depAll (D := D) l
    simp only [List.map_cons, PyData.depthAll]
    omega
theorem nodAll {K : PySem.W.Frag} {α : Type} {e : α → R} [D : DatE K e] : ∀ l : List α, PyData.hasDictAll (l.map D.d) = false
  | [] => rfl
  | x :: l => by simp [PyData.hasDictAll, D.nod x, nodAll l]
instance datLs {K : PySem.W.Frag} {α : Type} {e : α → R} [D : DatE K e] : DatE K (eLs e) where
  d := fun l => .list (l.map D.d)
  dep := D.dep + 1
  ok := fun f ⟨p, xs, h1, h2, h3⟩ => by
    subst h1
    exact .lst (.inl (.inl (f _ _ h2))) (dpAll f h3)
  lay := fun l => by show PyData.canLayAll0 _ = true; exact layAll l
  dpt := fun l => by
    have h := depAll (D := D) l
    simp only [PyData.depth]
    omega
  eqv := fun l m => by show PyData.eqvAll _ _ = true ↔ _; exact eqvAll_iff l m
  nod := fun l => by show PyData.hasDictAll _ = false; exact nodAll l
instance {K : PySem.W.Frag} {α β : Type} {e : α → R} {f : β → R} [D : DatE K e] [D' : DatE K f] : DatE K (eP2 K e f) where
  d := fun x => .tuple [D.d x.1, D'.d x.2]
  dep := max D.dep D'.dep + 1
  ok := fun f ⟨p, xs, h1, h2, h3⟩ => by
    subst h1
    match xs, h3 with
    | [x, y], h3 => exact .tup (sqT_up f h2) (.cons (D.ok f h3.1) (.cons (D'.ok f h3.2.1) .nil))
    | [], h3 => exact h3.elim
    | [_], h3 => exact h3.2.elim
    | _ :: _ :: _ :: _, h3 => exact h3.2.2.elim
  lay := fun x => by simp [PyData.canLay0, PyData.canLayAll0, D.lay, D'.lay]
  dpt := fun x => by
    have h1 := D.dpt x.1
    have h2 := D'.dpt x.2
    simp only [PyData.depth, PyData.depthAll]
    omega
  eqv := fun x y => by
    obtain ⟨x1, x2⟩ := x
    obtain ⟨y1, y2⟩ := y
    simp [PyData.eqv, PyData.eqvAll, D.eqv, D'.eqv]
  nod := fun x => by simp [PyData.hasDict, PyData.hasDictAll, D.nod, D'.nod]
instance {K : PySem.W.Frag} {α β γ : Type} {e : α → R} {f : β → R} {g : γ → R} [D : DatE K e] [D' : DatE K f] [D'' : DatE K g] : DatE K (eP3 K e f g) where
  d := fun x => .tuple [D.d x.1, D'.d x.2.1, D''.d x.2.2]
  dep := max D.dep (max D'.dep D''.dep) + 1
  ok := fun f ⟨p, xs, h1, h2, h3⟩ => by
    subst h1
    match xs, h3 with
    | [x, y, z], h3 => exact .tup (sqT_up f h2) (.cons (D.ok f h3.1) (.cons (D'.ok f h3.2.1) (.cons (D''.ok f h3.2.2.1) .nil)))
    | [], h3 => exact h3.elim
    | [_], h3 => exact h3.2.elim
    | [_, _], h3 => exact h3.2.2.elim
    | _ :: _ :: _ :: _ :: _, h3 => exact h3.2.2.2.elim
  lay := fun x => by simp [PyData.canLay0, PyData.canLayAll0, D.lay, D'.lay, D''.lay]
  dpt := fun x => by
    have h1 := D.dpt x.1
    have h2 := D'.dpt x.2.1
    have h3 := D''.dpt x.2.2
    simp only [PyData.depth, PyData.depthAll]
    omega
  eqv := fun x y => by
    obtain ⟨x1, x2, x3⟩ := x
    obtain ⟨y1, y2, y3⟩ := y
    simp [PyData.eqv, PyData.eqvAll, D.eqv, D'.eqv, D''.eqv]
  nod := fun x => by simp [PyData.hasDict, PyData.hasDictAll, D.nod, D'.nod, D''.nod]
section
variable {W W' W0 W1 W2 W3 : List Sl} {K : PySem.W.Frag} {ta tb tc te to tl : TE} {r ra rb : R} {a b : Bool} {F H F' H' : Hp} {σ : L2.St} {E : XK}
variable {α β γ δ ρ : Type}
theorem shp {e : α → R} [D : DatE K e] (h : D.dep ≤ 64) (x : α) : SeqAt.shaped (D.d x) = true := by
  unfold SeqAt.shaped
  rw [D.lay x, decide_eq_true (Nat.le_trans (D.dpt x) h)]; rfl
theorem es_eqDat {e : α → R} [D : DatE K e] [DecidableEq α] {x y : α} (ha : ES ta W W1 (e x)) (hb : ES tb W1 W2 (e y)) (h : D.dep ≤ 64 := by decide) : ES (tOp (rEqD K) ta tb) W W2 (eB (decide (x = y))) := fun F H σ Q s k =>
  ha F H σ _ s fun v F1 H1 a1 s1 e1 => hb F1 H1 σ _ s1 fun w F2 H2 a2 s2 e2 => by
    have eq : PyData.eqv (D.d x) (D.d y) = decide (x = y) := by
      rw [Bool.eq_iff_iff, D.eqv, decide_eq_true_iff]
    refine ⟨D.d x, D.d y, D.ok s2.ex ((e x).mono a2.f e1), D.ok s2.ex e2, shp h x, shp h y, ?_⟩
    rw [eq]; exact k _ F2 H2 (a1.trans a2) s2 rfl
theorem es_neDat {e : α → R} [D : DatE K e] [DecidableEq α] {x y : α} (ha : ES ta W W1 (e x)) (hb : ES tb W1 W2 (e y)) (h : D.dep ≤ 64 := by decide) : ES (tOp (rNeD K) ta tb) W W2 (eB (!decide (x = y))) := fun F H σ Q s k =>
  ha F H σ _ s fun v F1 H1 a1 s1 e1 => hb F1 H1 σ _ s1 fun w F2 H2 a2 s2 e2 => by
    have eq : PyData.eqv (D.d x) (D.d y) = decide (x = y) := by
      rw [Bool.eq_iff_iff, D.eqv, decide_eq_true_iff]
    refine ⟨D.d x, D.d y, D.ok s2.ex ((e x).mono a2.f e1), D.ok s2.ex e2, shp h x, shp h y, ?_⟩
    rw [eq]; exact k _ F2 H2 (a1.trans a2) s2 rfl
theorem eqv_nil (ds : List PyData) : PyData.eqv (.list ds) (.list []) = ds.isEmpty := by cases ds <;> simp [PyData.eqv, PyData.eqvAll]
theorem es_neNil {e : α → R} [D : DatE K e] {l : List α} (ha : ES ta W W1 (eLs e l)) (h : D.dep + 1 ≤ 64 := by decide) : ES (tOp (rNeD K) ta (tLst tNil)) W W1 (eB (!l.isEmpty)) := fun F H σ Q s k =>
  ha F H σ _ s fun v F1 H1 a1 s1 e1 => ⟨Nat.zero_le _, fun p hp => by
    have ex : Same H1 (upd H1 p (.lst [])) := fun a o z => by rw [upd_ne (ne_of_none z hp)]; exact z
    refine ⟨(datLs (K := K) (e := e)).d l, .list [], (datLs (K := K) (e := e)).ok (fun a o z => ex a o (s1.ex a o z)) e1, .lst (.inl (.inl upd_same)) .nil, shp (K := K) (e := eLs e) h l, by decide +kernel, ?_⟩
    have eq : PyData.eqv ((datLs (K := K) (e := e)).d l) (.list []) = l.isEmpty := by
      show PyData.eqv (PyData.list (l.map D.d)) (.list []) = l.isEmpty
      rw [eqv_nil]
      cases l <;> rfl
    rw [eq]; exact k _ F1 _ (a1.trans (Rel.grow ex)) (s1.grow ex) rfl⟩
theorem es_eqNil {e : α → R} [D : DatE K e] {l : List α} (ha : ES ta W W1 (eLs e l)) (h : D.dep + 1 ≤ 64 := by decide) : ES (tOp (rEqD K) ta (tLst tNil)) W W1 (eB l.isEmpty) := fun F H σ Q s k =>
  ha F H σ _ s fun v F1 H1 a1 s1 e1 => ⟨Nat.zero_le _, fun p hp => by
    have ex : Same H1 (upd H1 p (.lst [])) := fun a o z => by rw [upd_ne (ne_of_none z hp)]; exact z
    refine ⟨(datLs (K := K) (e := e)).d l, .list [], (datLs (K := K) (e := e)).ok (fun a o z => ex a o (s1.ex a o z)) e1, .lst (.inl (.inl upd_same)) .nil, shp (K := K) (e := eLs e) h l, by decide +kernel, ?_⟩
    have eq : PyData.eqv ((datLs (K := K) (e := e)).d l) (.list []) = l.isEmpty := by
      show PyData.eqv (PyData.list (l.map D.d)) (.list []) = l.isEmpty
      rw [eqv_nil]
      cases l <;> rfl
    rw [eq]; exact k _ F1 _ (a1.trans (Rel.grow ex)) (s1.grow ex) rfl⟩
/-- repr -/
def reprI (i : Int) : Str := toString i
theorem es_reprI {i : Int} (ha : ES ta W W1 (eI i)) (h : i.natAbs.log2 < 1920) : ES (tCB (fun xs H Q => ∃ i, xs = [.int i] ∧ i.natAbs.log2 < 1920 ∧ Q (.str (toString i)) H) (tCons ta tNil)) W W1 (eS (reprI i)) := es_cb1 ha fun _ _ q => ⟨i, rfl, h, q⟩
def rReprD (K : PySem.W.Frag) : List V → Hp → VK → Prop := fun xs H Q => ∃ a d, xs = [.ref a] ∧ Dp K H (.ref a) d ∧ d.showable = true ∧ d.hasDict = false ∧ d.depth ≤ 60 ∧ d.shown.length ≤ sizeLine ∧ Q (.str d.shown) H
theorem call_reprD {X : Cx} (hG : X.A.guards = some []) {k : Nat} (hr : Room k X.A) : CallR X (.builtin "repr") (rReprD X.K) := by
  intro pins s σ H xs us Q I r h
  obtain ⟨a, d, e, hd, h1, h2, h3, h4, q⟩ := h
  subst e
  obtain ⟨u, e, ru⟩ := vals1 r
  subst e
  obtain ⟨as, rd⟩ := Dp.reads I d _ u hd ru
  cases (show u = Value.ref a from ru)
  have hun := hr.un
  exact repr_of_reads' rd h1 (fun z => by rw [h2] at z; cases z) hG (by omega) (fun _ _ z => z) (fun h' u tk hk => ⟨.str d.shown, H, I.kept (t' := tk) hk, ⟨_, rfl⟩, q⟩) h4
def reprD (K : PySem.W.Frag) {α : Type} (e : α → R) [D : DatE K e] (x : α) : Str := (D.d x).shown
def ReprOk (K : PySem.W.Frag) {α : Type} (e : α → R) [D : DatE K e] (x : α) : Prop := (D.d x).showable = true ∧ (D.d x).shown.length ≤ sizeLine
theorem es_reprD {e : α → R} [D : DatE K e] {x : α} (ha : ES ta W W1 (e x)) (h : ReprOk K e x) (hv : ∀ F v, (e x).p F v → ∃ a, v = .ref a) (hd : D.dep ≤ 60 := by decide) : ES (tCB (rReprD K) (tCons ta tNil)) W W1 (eS (reprD K e x)) := es_cbr ha fun F H v Q f hp q => by
  obtain ⟨a, rfl⟩ := hv F v hp
  exact ⟨a, D.d x, rfl, D.ok f hp, h.1, D.nod x, Nat.le_trans (D.dpt x) hd, h.2, q⟩
theorem rf_L {e : α → R} {l : List α} : ∀ F v, (eLs e l).p F v → ∃ a, v = .ref a := fun F v ⟨p, _, h, _⟩ => ⟨p, h⟩
theorem rf_T {rs : List R} : ∀ F v, (eT K rs).p F v → ∃ a, v = .ref a := fun F v ⟨p, _, h, _⟩ => ⟨p, h⟩
/-- the length of a text -/
theorem es_lenS {x : Str} (ha : ES ta W W1 (eS x)) (h : x.length ≤ sizeLine) : ES (tCB (fun xs H Q => ∃ z, xs = [.str z] ∧ z.length ≤ sizeLine ∧ Q (.int z.length) H) (tCons ta tNil)) W W1 (eI (x.length : Int)) := es_cb1 ha fun _ _ q => ⟨x, rfl, h, q⟩
end
end Fw
end
section
set_option maxRecDepth 100000
namespace Fw
open PySem L2
/-- an owned instance -/
def oI (q : Option Addr) (C : Addr) (fs : List (Str × R)) : OC := ⟨fun F a o => (∀ p, q = some p → a = p) ∧ ∃ dx gs, o = .ins C dx gs ∧ gs.map Prod.fst = fs.map Prod.fst ∧ All2 (fs.map Prod.snd) F (gs.map Prod.snd),
  fun e ⟨z, dx, gs, h1, h2, h3⟩ => ⟨z, dx, gs, h1, h2, h3.mono e⟩⟩
def putR (f : Str) (r : R) : List (Str × R) → List (Str × R)
  | [] => [(f, r)]
  | (g, x) :: l => if g = f then (g, r) :: l else (g, x) :: putR f r l
theorem putR_ok {F : Hp} {f : Str} {r : R} {v : V} (h : r.p F v) : ∀ {fs : List (Str × R)} {gs : List (Str × V)}, gs.map Prod.fst = fs.map Prod.fst → All2 (fs.map Prod.snd) F (gs.map Prod.snd) →
    (putF f v gs).map Prod.fst = (putR f r fs).map Prod.fst ∧ All2 ((putR f r fs).map Prod.snd) F ((putF f v gs).map Prod.snd)
  | [], [], _, _ => ⟨rfl, h, trivial⟩
  | (n, q) :: fs, (m, w) :: gs, e, k => by
    have en : m = n := (List.cons.inj e).1
    subst en
    have ih := putR_ok (f := f) h (List.cons.inj e).2 k.2
    show ((if m = f then (m, v) :: gs else (m, w) :: putF f v gs)).map Prod.fst = (if m = f then (m, r) :: fs else (m, q) :: putR f r fs).map Prod.fst ∧
      All2 ((if m = f then (m, r) :: fs else (m, q) :: putR f r fs).map Prod.snd) F ((if m = f then (m, v) :: gs else (m, w) :: putF f v gs).map Prod.snd)
    by_cases z : m = f
    · rw [if_pos z, if_pos z]
      exact ⟨e, h, k.2⟩
    · rw [if_neg z, if_neg z]
      exact ⟨congrArg (m :: ·) ih.1, k.1, ih.2⟩
  | [], _ :: _, e, _ => by cases e
  | _ :: _, [], e, _ => by cases e
/-- the promise of an __init__ -/
def spI {ι : Type} (C : Addr) (as : ι → List R) (ok : ι → Prop) (fs : ι → List (Str × R)) : Sp := fun vs H Q _ => ∃ (d : ι) (F : Hp) (p dx : Addr) (ws : List V), vs = .ref p :: ws ∧ ok d ∧ Same F H ∧
  H p = some (.ins C dx []) ∧ F p = none ∧ All2 (as d) F ws ∧
  ∀ F' H' dx' gs, Rel F H (fun a => a = p) F' H' (fun a => a = p) → Same F' H' → H' p = some (.ins C dx' gs) → F' p = none → gs.map Prod.fst = (fs d).map Prod.fst → All2 ((fs d).map Prod.snd) F' (gs.map Prod.snd) → Q .non H'
section
variable {W W' W0 W1 W2 W3 : List Sl} {K : PySem.W.Frag} {ta tb tc te to tl tv : TE} {r ra rb : R} {a b : Bool} {F H F' H' : Hp} {σ : L2.St} {E : XK} {P : Post} {ts uu : TS}
variable {α β γ δ ρ ι : Type}
theorem ss_fld {i : Nat} {q : Option Addr} {C : Addr} {fs : List (Str × R)} {f : Str} (c : Cls K C) (n : NoAttr K C f) (h : ES tv W W1 r) (h1 : W1[i]? = some (.ow (oI q C fs))) (hl : fs.length < 1000) (k : P.nx (W1.set i (.ow (oI q C (putR f r fs))))) :
    SS (sFld K (tVar i) tv f) W P := fun F H σ D s kn _ _ _ =>
  h F H σ _ s fun v F1 H1 a1 s1 e1 => by
    obtain ⟨p, o, e0, y1, y2, ⟨yq, dx, gs, rfl, y3, y4⟩⟩ := s1.ow i _ h1
    have el : gs.length = fs.length := by have := congrArg List.length y3; simpa using this
    obtain ⟨z1, z2⟩ := putR_ok (f := f) e1 y3 y4
    refine ⟨.ref p, e0, p, C, dx, gs, rfl, y1, c, n, by rw [el]; exact hl, kn _ _ _ _ k (a1.trans ⟨fun _ _ z => z, fun a u n z => ?_, fun _ _ z => .inl z, fun a z => ?_, fun a m => .inl ((Own.mut h1).mp m)⟩) (s1.mut h1 e0 ⟨yq, dx, _, rfl, z1, z2⟩)⟩
    · rw [upd_ne (fun q : a = p => n (by rw [q]; exact ⟨i, _, h1, e0⟩))]; exact z
    · by_cases q : a = p
      · subst q; rw [upd_same] at z; cases z
      · rw [upd_ne q] at z; exact z
theorem es_fldO {i : Nat} {q : Option Addr} {C : Addr} {fs : List (Str × R)} {f : Str} (c : Cls K C) (n : NoAttr K C f) (h0 : W[i]? = some (.ow (oI q C fs))) (hf : fs.lookup f = some r) : ES (tFld K (tVar i) f) W W r := fun F H σ Q s k => by
  obtain ⟨p, o, e0, g1, _, ⟨_, dx, gs, rfl, h3, h4⟩⟩ := s.ow i _ h0
  obtain ⟨w, z1, z2⟩ := ins_look h3 h4 hf
  exact ⟨.ref p, e0, p, C, dx, gs, w, rfl, g1, c, n, z1, k w F H Rel.refl s z2⟩
theorem def_I {C : Addr} {as : ι → List R} {ok : ι → Prop} {fs : ι → List (Str × R)} {N : List Str} {vs : List V} {H : Hp} {Q : VK} {E : XK} (h : spI C as ok fs vs H Q E) (hN : ∀ d, (as d).length < N.length)
    (k : ∀ d p, ok d → SS ts (.ow (oI (some p) C []) :: slF (as d) (N.length - 1)) ⟨fun W' => W'[0]? = some (.ow (oI (some p) C (fs d))), fun _ _ => False, fun _ => False, fun _ => False⟩) :
    ts { nx := fun _ H' => Q .non H', rt := Q } (L2.start N vs) H := by
  obtain ⟨d, F, p, dx, ws, rfl, hok, ex, hp, fp, ha, hq⟩ := h
  have el := ha.len
  have hN' := hN d
  have s : Sat F H (L2.start N (.ref p :: ws)) (.ow (oI (some p) C []) :: slF (as d) (N.length - 1)) := by
    refine ⟨ex, ?_, fun i r h => ?_, fun i e h => ?_, fun i j e e' q h1 h2 => ?_⟩
    · unfold L2.start slF; simp [el]; omega
    · cases i with
      | zero => cases h
      | succ i =>
        obtain ⟨x, z1, z2⟩ := ha.get' (slF_fz (i := i) h)
        exact ⟨x, start_at z1, z2⟩
    · cases i with
      | zero =>
        cases h
        exact ⟨p, .ins C dx [], rfl, hp, fp, fun _ z => Option.some.inj z, dx, [], rfl, rfl, trivial⟩
      | succ i => exact (slF_ow (i := i) h).elim
    · cases i with
      | zero => cases j with
        | zero => exact fun _ _ => rfl
        | succ j => exact (slF_ow (i := j) h2).elim
      | succ i => exact (slF_ow (i := i) h1).elim
  have own0 : ∀ a, Own (.ow (oI (some p) C []) :: slF (as d) (N.length - 1)) (L2.start N (.ref p :: ws)) a → a = p := fun a ⟨i, e, h1, h2⟩ => by
    cases i with
    | zero =>
      have z : some (some (V.ref p)) = some (some (.ref a)) := h2
      cases z; rfl
    | succ i => exact (slF_ow (i := i) h1).elim
  refine k d p hok F H (L2.start N (.ref p :: ws)) _ s (fun W' σ' F' H' z a s' => ?_) (fun _ _ _ _ _ _ z => z.elim) (fun _ _ _ _ z => z.elim) fun _ _ _ _ z => z.elim
  obtain ⟨p', _, _, y1, y2, yq, dx', gs, rfl, y3, y4⟩ := s'.ow 0 _ z
  cases yq p rfl
  exact hq F' H' dx' gs ⟨a.f, fun x o n h => a.h x o (fun z => n (own0 x z)) h, fun x o h => (a.n x o h).imp id (Or.imp id fun m => own0 x m), a.t, fun x m => .inl m⟩ s'.ex y1 y2 y3 y4
theorem es_make {C : Addr} {as : ι → List R} {ok : ι → Prop} {fs : ι → List (Str × R)} {tr : TA} (d : ι) (h : AS tr W W1 (as d)) (g : ok d) : ES (tMake C (spI C as ok fs) [] E tr) W W1 (eIns C (fs d)) := fun F H σ Q s k =>
  h F H σ _ s fun vs F1 H1 a1 s1 e1 x dx hx hdx ne => by
    rw [List.append_nil]
    have hxd : upd (upd H1 dx (.own x)) x (.ins C dx []) x = some (.ins C dx []) := upd_same
    have f1 : F1 x = none := s1.ex.free hx
    have f2 : F1 dx = none := s1.ex.free hdx
    have grow : Same H1 (upd (upd H1 dx (.own x)) x (.ins C dx [])) := fun a o z => by
      rw [upd_ne (ne_of_none z hx), upd_ne (ne_of_none z hdx)]; exact z
    refine ⟨d, F1, x, dx, vs, rfl, g, fun a o z => grow a o (s1.ex a o z), hxd, f1, e1, fun F2 H2 dx' gs q ex h2 f2' hn ha => ⟨rfl, ?_⟩⟩
    -- the new instance is frozen
    have q1 : Rel F1 H1 (Own W1 σ) F2 H2 (Own W1 σ) := by
      refine ⟨q.f, fun a o n z => q.h a o (fun e => by subst e; rw [hx] at z; cases z) (grow a o z), fun a o z => ?_, fun a z => ?_, fun a m => .inl m⟩
      · rcases q.n a o z with y | y | y
        · exact .inl y
        · exact .inr (.inl (grow.free y))
        · subst y; exact .inr (.inl hx)
      · exact grow.free (q.t a z)
    have s2 : Sat F2 H2 σ W1 := by
      refine ⟨ex, s1.len, fun i r h => ?_, fun i c h => ?_, s1.ds⟩
      · obtain ⟨v, z1, z2⟩ := s1.fz i r h
        exact ⟨v, z1, r.mono q.f z2⟩
      · obtain ⟨p, o, z1, z2, z3, z4⟩ := s1.ow i c h
        have np : p ≠ x := ne_of_none z2 hx
        refine ⟨p, o, z1, q.h p o np (grow p o z2), ?_, c.mono q.f z4⟩
        cases z : F2 p with
        | none => rfl
        | some u =>
          rcases q.n p u z with y | y | y
          · rw [z3] at y; cases y
          · rw [grow p o z2] at y; cases y
          · exact (np y).elim
    have np : ¬ Own W1 σ x := not_own s1 hx
    exact k _ _ H2 ((a1.trans q1).freeze (.inl (a1.t x hx)) f2') (s2.freeze h2 f2' np) ⟨x, dx', gs, rfl, upd_same, hn, ha.mono fun a o z => by rw [upd_ne (ne_of_none z f2')]; exact z⟩
/-- the script: it is read alone -/
def eQ (K : PySem.W.Frag) (e : α → R) (l : List α) : R := ⟨fun F v => ∃ p xs, v = .ref p ∧ SqL K F p xs ∧ All2 (l.map e) F xs, fun e ⟨p, xs, h1, h2, h3⟩ => ⟨p, xs, h1, Same.seq e h2, h3.mono e⟩⟩
@[irreducible] def cutL (l : List α) (lo hi : Option Int) : List α := (l.drop (HT.sIx l.length 0 lo)).take (HT.sIx l.length l.length hi - HT.sIx l.length 0 lo)
theorem All2.drop' {F : Hp} : ∀ {rs : List R} {xs : List V} (n : Nat), All2 rs F xs → All2 (rs.drop n) F (xs.drop n)
  | _, _, 0, h => h
  | [], [], _ + 1, h => h
  | _ :: rs, _ :: xs, n + 1, h => All2.drop' (rs := rs) (xs := xs) n h.2
  | [], _ :: _, _, h => h.elim
  | _ :: _, [], _, h => h.elim
theorem All2.take' {F : Hp} : ∀ {rs : List R} {xs : List V} (n : Nat), All2 rs F xs → All2 (rs.take n) F (xs.take n)
  | _, _, 0, _ => trivial
  | [], [], _ + 1, h => h
  | _ :: rs, _ :: xs, n + 1, h => ⟨h.1, All2.take' (rs := rs) (xs := xs) n h.2⟩
  | [], _ :: _, _, h => h.elim
  | _ :: _, [], _, h => h.elim
theorem cut_ok {F : Hp} {e : α → R} {l : List α} {xs : List V} {lo hi : Option Int} (h : All2 (l.map e) F xs) : All2 ((cutL l lo hi).map e) F (cutV xs lo hi) := by
  have el := h.len
  rw [List.length_map] at el
  unfold cutL cutV
  rw [List.map_take, List.map_drop, el]
  exact All2.take' _ (All2.drop' _ h)
def OSm (t : TO) (W W' : List Sl) (o : Option Int) : Prop := ∀ (F H : Hp) (σ : L2.St) (Q : Option Int → Hp → Prop), Sat F H σ W →
  (∀ F' H', Rel F H (Own W σ) F' H' (Own W' σ) → Sat F' H' σ W' → Q o H') → t σ H Q
theorem os_no : OSm tNoPart W W none := fun F H σ Q s k => k F H Rel.refl s
theorem os_some {i : Int} (h : ES te W W1 (eI i)) : OSm (tPart te) W W1 (some i) := fun F H σ Q s k => h F H σ _ s fun v F1 H1 a1 s1 e1 => ⟨i, e1, k F1 H1 a1 s1⟩
theorem en_slice {e : α → R} {l : List α} {lo hi : Option Int} {tlo thi : TO} (h : ES te W W1 (eLs e l)) (h1 : OSm tlo W1 W2 lo) (h2 : OSm thi W2 W3 hi) : ESN (tSl (rSlL K) te tlo thi) W W3 (oL ((cutL l lo hi).map e)) := fun F H σ Q s k =>
  h F H σ _ s fun v F1 H1 a1 s1 ⟨p, xs, e1, e2, e3⟩ => h1 F1 H1 σ _ s1 fun F2 H2 a2 s2 => h2 F2 H2 σ _ s2 fun F3 H3 a3 s3 => by
    subst e1
    have e2' := a3.f _ _ (a2.f _ _ e2)
    refine ⟨p, xs, rfl, .inl (.inl (s3.ex _ _ e2')), fun q hq => ?_⟩
    have ex : Same H3 (upd H3 q (.lst (cutV xs lo hi))) := fun a o z => by rw [upd_ne (ne_of_none z hq)]; exact z
    have aa := (a1.trans a2).trans a3
    exact k q _ F3 _ (aa.trans (Rel.grow ex)) (s3.grow ex) (aa.t _ hq) upd_same (s3.ex.free hq) (not_own s3 hq) ⟨nofun, _, rfl, cut_ok ((e3.mono a2.f).mono a3.f)⟩
theorem en_sliceQ {e : α → R} {l : List α} {lo hi : Option Int} {tlo thi : TO} (h : ES te W W1 (eQ K e l)) (h1 : OSm tlo W1 W2 lo) (h2 : OSm thi W2 W3 hi) : ESN (tSl (rSlL K) te tlo thi) W W3 (oL ((cutL l lo hi).map e)) := fun F H σ Q s k =>
  h F H σ _ s fun v F1 H1 a1 s1 ⟨p, xs, e1, e2, e3⟩ => h1 F1 H1 σ _ s1 fun F2 H2 a2 s2 => h2 F2 H2 σ _ s2 fun F3 H3 a3 s3 => by
    subst e1
    refine ⟨p, xs, rfl, Same.seq s3.ex (Same.seq a3.f (Same.seq a2.f e2)), fun q hq => ?_⟩
    have ex : Same H3 (upd H3 q (.lst (cutV xs lo hi))) := fun a o z => by rw [upd_ne (ne_of_none z hq)]; exact z
    have aa := (a1.trans a2).trans a3
    exact k q _ F3 _ (aa.trans (Rel.grow ex)) (s3.grow ex) (aa.t _ hq) upd_same (s3.ex.free hq) (not_own s3 hq) ⟨nofun, _, rfl, cut_ok ((e3.mono a2.f).mono a3.f)⟩
end
end Fw
end
section
set_option maxRecDepth 100000
namespace Fw
open PySem L2
section
variable {W W' W0 W1 W2 W3 : List Sl} {K : PySem.W.Frag} {ta tb tc te to tl tv : TE} {r ra rb : R} {a b : Bool} {F H F' H' : Hp} {σ : L2.St} {E : XK} {P : Post} {ts uu : TS}
variable {α β γ δ ρ ι : Type}
theorem putR_new {f : Str} {r : R} : ∀ {fs : List (Str × R)}, (fs.map Prod.fst).contains f = false → putR f r fs = fs ++ [(f, r)]
  | [], _ => rfl
  | (g, x) :: l, h => by
    have h1 : ¬ g = f ∧ (l.map Prod.fst).contains f = false := by
      simp only [List.map_cons, List.contains_cons, Bool.or_eq_false_iff, beq_eq_false_iff_ne] at h
      exact ⟨fun e => h.1 e.symm, h.2⟩
    show (if g = f then (g, r) :: l else (g, x) :: putR f r l) = _
    rw [if_neg h1.1, putR_new h1.2]; rfl
theorem tbl_no {m : Str} {x y z : R} (h : ((m == "own_capacity") || (m == "own_rate") || (m == "own_shift")) = false) : List.lookup m [(("own_capacity" : Str), x), ("own_rate", y), ("own_shift", z)] = none := by
  simp only [Bool.or_eq_false_iff] at h
  simp [List.lookup, h.1.1, h.1.2, h.2]
theorem ss_let1 (v : α) (mk : α → List Sl) (k : ∀ x, x = v → SS ts (mk x) P) : SS ts (mk v) P := k v rfl
theorem ss_fldN {i : Nat} {q : Option Addr} {C : Addr} {fs : List (Str × R)} {f : Str} (c : Cls K C) (n : NoAttr K C f) (h : ES tv W W1 r) (h1 : W1[i]? = some (.ow (oI q C fs))) (hl : fs.length < 1000) (hf : (fs.map Prod.fst).contains f = false) (k : P.nx (W1.set i (.ow (oI q C (fs ++ [(f, r)]))))) :
    SS (sFld K (tVar i) tv f) W P := ss_fld c n h h1 hl (by rw [putR_new hf]; exact k)
end
end Fw
end
section
set_option maxRecDepth 100000
namespace Fw
open PySem L2 PySem.Spec PyProof.Rows
section
variable {P : Program} {w : World} {K : PySem.W.Frag} {mg mb : Str → Option Value} {CX : CXT} {k : Nat} {fa a : Addr} {fd : FuncData} {x : Str} {sp : Sp} {t : Shared} {us : List Value} {ns : List Int}
/-- the heap of the walk at the law's call: nothing, or the script alone -/
theorem lawG_core {H : Hp} (KX : K.In t.heap) (nG : t.heap.Ns mainGlobals mg) (nB : t.heap.Ns builtinsNs mb) (nb : ∀ x : Str, x ≠ "__name__" → mb x = bootBuiltins x) (nl : t.heap.NoLimit) (g0 : t.gens = #[])
    (at_ : t.heap.get? a = some { cls := .type "list", data := .seq us.toArray }) (room : Room k callerA)
    (F : ∀ base : Heap, K.In base → base.Ns mainGlobals mg → FnG P w K mg base CX k fa fd [x] sp) (bind : ∀ (s : Shared) (u : Value), BindsTo s fd ⟨[u], []⟩ [(x, u)])
    (pr : sp [.ref a] H (fun v _ => v = .bl true) fun _ _ _ => False) (noX : ∀ H e s', CX [] H t (fun _ _ _ => False) e s' → False)
    (only : Only H) (ok : HOk P w H t.heap) (one : ∀ b, H b ≠ none → b = a) (away : H a ≠ none → K.lookup a = none) :
    codeAny (model P w) callerA (.call (.ref fa) ⟨[.ref a], []⟩) (fun r s' => r = .ok (.ret (.bool true)) ∧ OldK t.heap s'.heap ∧ s'.os = t.os ∧ AllBare s'.gens) t := by
  have up : ∀ {b : Addr} {o : Obj}, t.heap.get? b = some o → H b = none → (hidT t.heap H).get? b = some o := fun h n => hidT_get h n
  have free : ∀ {b : Addr} {o : Obj} {es : Array DictEntry} {n : Nat}, t.heap.get? b = some o → o.data = .dict es n → H b = none := fun {b o es n} h d => by
    by_cases q : H b = none
    · exact q
    · obtain rfl := one b q
      cases at_.symm.trans h
      have d' : Data.seq us.toArray _ = Data.dict es n := d
      exact nomatch d'
  have nsUp : ∀ {b : Addr} {m : Str → Option Value}, t.heap.Ns b m → (hidT t.heap H).Ns b m := fun ⟨o, es, n, h, d, r⟩ => ⟨o, es, n, up h (free h d), d, r⟩
  have kUp : K.In (hidT t.heap H) := fun b o h => up (KX b o h) (by
    by_cases q : H b = none
    · exact q
    · obtain rfl := one b q
      rw [away q] at h; exact nomatch h)
  have md : Mod K mg (hidT t.heap H) := ⟨kUp, nsUp nG, ⟨mb, nsUp nB, nb⟩, nl.elim fun mc z => ⟨mc, nsUp z.1, z.2⟩⟩
  have env : Env0 P w K mg (hidT t.heap H) callerA [] t H := ⟨rfl, md, fun _ _ h => of_hidT h, Nat.le_of_eq (hidT_size _ _), trivial, fun b hb => (by cases hb), ok, .of_eq g0⟩
  have run := (F _ kUp (nsUp nG)).run callerA [] t H ⟨[.ref a], []⟩ [.ref a] [.ref a] _ _ rfl room env (bind t (.ref a)) (.cons rfl .nil) pr
  refine codeAny_mono run fun r s' h => ?_
  match r, h with
  | .error e, h => exact (noX H e s' h).elim
  | .ok (.ret u), h =>
    obtain ⟨v, H2, os, bare, un, ok2, rel, q⟩ := h
    obtain rfl : v = .bl true := q
    obtain rfl : u = Value.bool true := rel
    refine ⟨rfl, OldK.of_keep fun b o h => ?_, os, bare⟩
    rcases only b with z | ⟨ob, xs, z⟩
    · exact un.keep b o h z (fun m => by cases m) (by simp)
    · have e1 := (ok b _ z).1
      have e2 := (ok2 b _ (un.frzs b ob _ z)).1
      exact (Option.some.inj (h.symm.trans e1)) ▸ e2
theorem lawG {mb : Str → Option Value} (KX : K.In t.heap) (nG : t.heap.Ns mainGlobals mg) (nB : t.heap.Ns builtinsNs mb) (nb : ∀ x : Str, x ≠ "__name__" → mb x = bootBuiltins x) (nl : t.heap.NoLimit) (g0 : t.gens = #[])
    (at_ : t.heap.get? a = some { cls := .type "list", data := .seq us.toArray }) (iv : IntsAre us ns) (short : ns.length ≤ sizeLine) (room : Room k callerA)
    (F : ∀ base : Heap, K.In base → base.Ns mainGlobals mg → FnG P w K mg base CX k fa fd [x] sp) (bind : ∀ (s : Shared) (u : Value), BindsTo s fd ⟨[u], []⟩ [(x, u)])
    (pr : ∀ H : Hp, SqL K H a (ns.map V.int) → sp [.ref a] H (fun v _ => v = .bl true) fun _ _ _ => False) (noX : ∀ H e s', CX [] H t (fun _ _ _ => False) e s' → False) :
    codeAny (model P w) callerA (.call (.ref fa) ⟨[.ref a], []⟩) (fun r s' => r = .ok (.ret (.bool true)) ∧ OldK t.heap s'.heap ∧ s'.os = t.os ∧ AllBare s'.gens) t := by
  have rv := vals_ints iv
  cases hk : K.lookup a with
  | some o =>
    cases at_.symm.trans (KX a o hk)
    refine lawG_core (H := fun _ => none) KX nG nB nb nl g0 at_ room F bind (pr _ (.inr ⟨_, us.toArray, _, hk, rfl, rfl, rfl, ?_, ?_⟩)) noX (fun _ => .inl rfl) (fun b u z => nomatch z) (fun b z => absurd rfl z) fun z => absurd rfl z
    · rw [List.size_toArray, iv.length]; exact short
    · simpa using rv
  | none =>
    let ob : Obj := { cls := .type "list", data := .seq us.toArray }
    let G : Hp := fun b => if b = a then some (.frz ob (.lst (ns.map V.int))) else none
    have yes : G a = some (.frz ob (.lst (ns.map V.int))) := if_pos rfl
    have no : ∀ b, b ≠ a → G b = none := fun b h => if_neg h
    refine lawG_core (H := G) KX nG nB nb nl g0 at_ room F bind (pr _ (.inl (.inr ⟨ob, yes⟩))) noX (fun b => ?_) (fun b u z => ?_) (fun b z => ?_) fun _ => hk
    · by_cases h : b = a
      · subst h; exact .inr ⟨_, _, yes⟩
      · exact .inl (no b h)
    · by_cases h : b = a
      · subst h
        cases yes.symm.trans z
        exact ⟨at_, by rw [List.length_map]; exact short, us, _, rv, at_⟩
      · rw [no b h] at z; exact nomatch z
    · by_cases h : b = a
      · exact h
      · exact absurd (no b h) z
end
theorem walk_ofG {l : PySem.W.OpenLaw} {n k : Nat} {q : Program} {loose : List Str} {XP : (Str → Option Value) → Heap → Prop} {YP : World → Heap → Prop} {d : DefRec} {K : Params → PySem.W.Frag} {sp : PySem.W.Frag → Sp} {x : Str}
    (hn : l.most = some n) (hn2 : n ≤ sizeLine) (hdf : d.params.defaults = []) (hr : Room k callerA) (hY : ∀ (w : World) (h : Heap), YP w h → (K w.params).In h)
    (F : ∀ (w : World) (mg : Str → Option Value) (fa : Addr) (h : Heap), (K w.params).In h → h.Ns mainGlobals mg → mg d.name = some (.ref fa) →
      ∃ fd : FuncData, (∀ (s : Shared) (u : Value), BindsTo s fd ⟨[u], []⟩ [(x, u)]) ∧ ∀ base : Heap, (K w.params).In base → base.Ns mainGlobals mg → FnG l.prog w (K w.params) mg base CX0 k fa fd [x] (sp (K w.params)))
    (pr : ∀ (K : PySem.W.Frag) (H : Hp) (a : Addr) (ns : List Int), ns.length ≤ n → (∀ z ∈ ns, Builtin.Int.intBits z ≤ 1048576) → SqL K H a (ns.map V.int) → sp K [.ref a] H (fun v _ => v = .bl true) fun _ _ _ => False) :
    PySem.W.WalkO q loose XP YP l.row.toRowW d [] (fun f vs => PySem.call f vs) := by
  refine Att.attach_callB hn hdf fun w s₀ t mg mb fa o pm cd doc a us ns G Y ho hd hcd hmg at_ iv len bits g0 => ?_
  have KX := hY w _ Y
  obtain ⟨fd, bd, FG⟩ := F w mg fa _ KX G.T.g hmg
  exact lawG KX G.T.g G.T.b G.T.builtins G.T.nolimit g0 at_ iv (Nat.le_trans len hn2) hr FG bd (fun H S => pr (K w.params) H a ns len bits S) fun _ _ _ z => z
/-- the promise of a law that reads its script -/
theorem law_pr {K : PySem.W.Frag} {H : Hp} {a : Addr} {ns : List Int} {ok : List Int → Prop} {m : List Int → Bool} (S : SqL K H a (ns.map V.int)) (h1 : ok ns) (h2 : m ns = true) :
    spF (ι := List Int) (fun d => [eQ K eI d]) (fun d => ok d) (fun d => eB (m d)) [.ref a] H (fun v _ => v = .bl true) fun _ _ _ => False := by
  refine ⟨ns, H, h1, fun _ _ z => z, ⟨⟨a, ns.map V.int, rfl, S, ?_⟩, trivial⟩, fun v F' H' _ _ hv => ?_⟩
  · induction ns with
    | nil => trivial
    | cons z l ih => exact ⟨rfl, ih' l⟩
  · have e : v = V.bl (m ns) := hv
    rw [e, h2]
where ih' {F : Hp} : ∀ l : List Int, All2 (l.map eI) F (l.map V.int)
  | [] => trivial
  | _ :: l => ⟨rfl, ih' l⟩
end Fw
end
section
set_option maxRecDepth 100000
namespace Fw
open PySem L2
section
variable {X : Cx} {CX : CXT} {k : Nat} {f C : Addr} {fd : FuncData} {ps : List Str} {sp : Sp} {E : XK}
/-- repr of a bool, of None or an int -/
def reprB (b : Bool) : Str := if b then "True" else "False"
def rReprB : List V → Hp → VK → Prop := fun xs H Q => ∃ b, xs = [.bl b] ∧ Q (.str (reprB b)) H
theorem call_reprB : CallR X (.builtin "repr") rReprB := by
  intro pins s σ H xs us Q I r h
  obtain ⟨b, e, q⟩ := h
  subst e
  obtain ⟨u, e, ru⟩ := vals1 r
  subst e
  cases (show u = Value.bool b from ru)
  exact PySem.P.repr_of_bool ⟨.str _, H, I.tok _, ⟨_, rfl⟩, q⟩
def reprO : Option Int → Str
  | none => "None"
  | some i => reprI i
def rReprO : List V → Hp → VK → Prop := fun xs H Q => (xs = [.non] ∧ Q (.str "None") H) ∨ ∃ i, xs = [.int i] ∧ i.natAbs.log2 < 1920 ∧ Q (.str (toString i)) H
theorem call_reprO : CallR X (.builtin "repr") rReprO := by
  intro pins s σ H xs us Q I r h
  rcases h with ⟨e, q⟩ | h
  · subst e
    obtain ⟨u, e, ru⟩ := vals1 r
    subst e
    cases (show u = Value.none from ru)
    exact PySem.P.repr_of_none ⟨.str _, H, I.tok _, ⟨_, rfl⟩, q⟩
  · exact SkE.call_repr_int pins s σ H xs us Q I r h
theorem op_eqDK {K : PySem.W.Frag} (hK : X.K = K) (hu : X.A.units + 64 < cLine) : OpR X (compareOp .Eq) (rEqD K) := by subst hK; exact op_eqD hu
theorem op_neDK {K : PySem.W.Frag} (hK : X.K = K) (hu : X.A.units + 64 < cLine) : OpR X (compareOp .NotEq) (rNeD K) := by subst hK; exact op_neD hu
/-- == by an own def -/
structure EqC (K : PySem.W.Frag) (C f : Addr) : Prop where
  at_ : PySem.W.findIn K (.ref C) "__eq__" = some (some (.ref f))
  fn : PySem.W.isFn K (.ref f) = true
def rEqC (K : PySem.W.Frag) (C : Addr) (sp : Sp) (E : XK) : R2 := fun x y H Q => ∃ a dx fs tb, x = .ref a ∧ H a = some (.ins C dx fs) ∧ TyX K H y tb ∧ PySem.W.notFirst K C tb = true ∧ sp [x, y] H (fun v H' => (∃ b, v = .bl b) ∧ Q v H') E
theorem op_eqC {K : PySem.W.Frag} (hK : X.K = K) (F : FnG X.prog X.w X.K X.mg X.base CX k f fd ps sp) (hG : X.A.guards = some []) (hr : Room k X.A) (c : EqC X.K C f) (hb : Binds X.K fd ps []) (hx : Passes CX X E) : OpR X (compareOp .Eq) (rEqC K C sp E) := by
  subst hK
  intro pins s σ H x y v u Q I rx ry h
  obtain ⟨a, dx, fs, tb, e, ea, ty, nf, q⟩ := h
  subst e
  cases (show v = Value.ref a from rx)
  show wpAny (model X.prog X.w) X.A (richCompare .Eq (.ref a) u) (EP X pins σ Q) X.xe s
  obtain ⟨mA, J, _⟩ := ins_get I.hok ea
  obtain ⟨od, J, _⟩ := J.look
  obtain ⟨m, hF⟩ := I.fr
  obtain ⟨P, Z, hP, _⟩ := kit_of I ry ty
  refine PySem.W.cmp_K (op := .Eq) (tb := tb) hr.units0 hF I.ok.mod.kin J (Z.ty _ _ I.kIn hP) nf c.at_ c.fn ?_
  refine wpAny_mono (run_fng (us := [.ref a, u]) (vs := [.ref a, y]) F hG hr hb .nil hx I (.cons rfl (.cons ry .nil)) q) (fun r s' z => ?_) fun _ _ z => z
  obtain ⟨w', H', I', rw', ⟨b, eb⟩, q'⟩ := z
  subst eb
  cases (show r = Value.bool b from rw')
  exact ⟨.bl b, H', I', rfl, q'⟩
end
section
variable {W W' W0 W1 W2 W3 : List Sl} {K : PySem.W.Frag} {ta tb tc te to tl tv : TE} {r ra rb : R} {a b : Bool} {F H F' H' : Hp} {σ : L2.St} {E : XK} {P : Post} {ts uu : TS} {tt : TT}
variable {α β γ δ ρ ι : Type}
theorem es_reprB {b : Bool} (ha : ES ta W W1 (eB b)) : ES (tCB rReprB (tCons ta tNil)) W W1 (eS (reprB b)) := es_cb1 ha fun _ _ q => ⟨b, rfl, q⟩
theorem es_reprO {o : Option Int} (ha : ES ta W W1 (eO eI o)) (h : ∀ i, o = some i → i.natAbs.log2 < 1920) : ES (tCB rReprO (tCons ta tNil)) W W1 (eS (reprO o)) := by
  cases o with
  | none => exact es_cb1 (x := .non) (z := .str "None") ha fun _ _ q => .inl ⟨rfl, q⟩
  | some i => exact es_cb1 (x := .int i) (z := .str (reprI i)) ha fun _ _ q => .inr ⟨i, rfl, h i rfl, q⟩
theorem es_eqC {C : Addr} {fs : List (Str × R)} {as : ι → List R} {ok : ι → Prop} {m : ι → Bool} {t : Value} (d : ι) (ha : ES ta W W1 (eIns C fs)) (hb : ES tb W1 W2 r) (ht : ∀ (F H : Hp) (v : V), Same F H → r.p F v → TyX K H v t) (hn : PySem.W.notFirst K C t = true) (hd : as d = [eIns C fs, r]) (g : ok d) :
    ES (tOp (rEqC K C (spF as ok fun d => eB (m d)) E) ta tb) W W2 (eB (m d)) := fun F H σ Q s k =>
  ha F H σ _ s fun v F1 H1 a1 s1 e1 => hb F1 H1 σ _ s1 fun w F2 H2 a2 s2 e2 => by
    have e1' := (eIns C fs).mono a2.f e1
    obtain ⟨p, dx, gs, h1, h2, h3, h4⟩ := id e1'
    refine ⟨p, dx, gs, t, h1, s2.ex _ _ h2, ht F2 H2 w s2.ex e2, hn, d, F2, g, s2.ex, by rw [hd]; exact ⟨e1', e2, trivial⟩, fun z F3 H3 q e3 hz => ⟨⟨m d, hz⟩, k z F3 H3 ((a1.trans a2).trans q.pure) (s2.pure q e3) hz⟩⟩
/-- a property that reads a field -/
theorem es_prop {C : Addr} {fs : List (Str × R)} {f : Str} (ha : ES ta W W1 (eIns C fs)) (hf : fs.lookup f = some r) : ES (tProp C (getSp C f) [] E ta) W W1 r := fun F H σ Q s k =>
  ha F H σ _ s fun v F1 H1 a1 s1 ⟨p, dx, gs, h1, h2, h3, h4⟩ => by
    obtain ⟨w, z1, z2⟩ := ins_look h3 h4 hf
    exact ⟨p, dx, gs, h1, s1.ex _ _ h2, p, dx, gs, w, rfl, s1.ex _ _ h2, z1, k w F1 H1 a1 s1 z2⟩
/-- {} -/
def eD0 : R := ⟨fun F v => ∃ p, v = .ref p ∧ F p = some (.dK []), fun e ⟨p, h1, h2⟩ => ⟨p, h1, e _ _ h2⟩⟩
theorem es_dnew : ES tDNewK W W eD0 := fun F H σ Q s k p hp => by
  have ex : Same H (upd H p (.dK [])) := fun a o z => by rw [upd_ne (ne_of_none z hp)]; exact z
  have np : ¬ Own W σ p := not_own s hp
  have fp : F p = none := s.ex.free hp
  exact k _ _ _ ((Rel.grow ex).freeze (.inl hp) fp) ((s.grow ex).freeze upd_same fp np) ⟨p, rfl, upd_same⟩
theorem ty_dn : ∀ (F H : Hp) (v : V), Same F H → eD0.p F v → TyX K H v (.type "dict") := fun F H v e ⟨p, h1, h2⟩ => by
  subst h1; exact .base (.dK (e _ _ h2))
theorem ty_non : ∀ (F H : Hp) (v : V), Same F H → eN.p F v → TyX K H v (.type "NoneType") := fun F H v e h => by
  have e' : v = V.non := h
  subst e'; exact .base .non
/-- what is there of an Option -/
def unO [Inhabited α] (o : Option α) : α := o.getD default
theorem es_unO [Inhabited α] {e : α → R} {o : Option α} (h : ES te W W1 (eO e o)) (g : o.isSome = true) : ES te W W1 (e (unO o)) := by
  cases o with
  | none => cases g
  | some x => exact h
class NotN (e : α → R) : Prop where
  no : ∀ F x v, (e x).p F v → v ≠ .non
instance : NotN eI := ⟨fun F x v h e => by have h' : v = V.int x := h; rw [h'] at e; cases e⟩
theorem et_isN {e : α → R} [N : NotN e] {o : Option α} (h : ES te W W1 (eO e o)) : ET (tB (tIsN te)) W W1 (!o.isSome) := fun F H σ Q s k =>
  h F H σ _ s fun v F1 H1 a1 s1 e1 => by
    refine ⟨_, rfl, ?_⟩
    have eq : decide (v = .non) = (!o.isSome) := by
      cases o with
      | none => exact decide_eq_true (show v = .non from e1)
      | some x => exact decide_eq_false (N.no _ _ _ e1)
    rw [eq]; exact k F1 H1 a1 s1
theorem et_notN {e : α → R} [N : NotN e] {o : Option α} (h : ES te W W1 (eO e o)) : ET (tB (tNotN te)) W W1 o.isSome := fun F H σ Q s k =>
  h F H σ _ s fun v F1 H1 a1 s1 e1 => by
    refine ⟨_, rfl, ?_⟩
    have eq : (!decide (v = .non)) = o.isSome := by
      cases o with
      | none => rw [decide_eq_true (show v = .non from e1)]; rfl
      | some x => rw [decide_eq_false (N.no _ _ _ e1)]; rfl
    rw [eq]; exact k F1 H1 a1 s1
theorem es_nilc {e : α → R} {f : β → R} {l : List α} (h : ES te W W1 (eLs e l)) (z : l = []) : ES te W W1 (eLs f []) := by subst z; exact h
/-- a cut: the rest by a name of its own -/
theorem ss_cut (Q : α → Post) {v v' : α} (e : v = v') (h : SS ts W (Q v')) : SS ts W (Q v) := e ▸ h
abbrev NX (Q : α → Post) : α → Post := fun v => noNx (Q v)
def LF (mk : β → List Sl) (rt : List Sl → R → Prop) (v : β) : Post := ⟨fun W' => Wk W' (mk v), rt, fun _ => False, fun W' => Wk W' (mk v)⟩
theorem ss_LF {mk : β → List Sl} {v : β} {rt : List Sl → R → Prop} (h : SS ts W (LF mk rt v)) : SS ts W ⟨fun W' => Wk W' (mk v), rt, fun _ => False, fun W' => Wk W' (mk v)⟩ := h
end
end Fw
end
section
set_option maxRecDepth 100000
namespace Fw
open PySem L2
abbrev Trip := Int × Int × Int
/-- values of other kinds -/
def eOdd (K : PySem.W.Frag) : Nat × Trip → R
  | (0, _) => eN
  | (1, _) => eI 0
  | (2, _) => eB true
  | (3, _) => eS (Str.ofString "")
  | (4, t) => eP3 K eI eI eI t
  | (5, t) => eLs eI [t.1, t.2.1, t.2.2]
  | (_, _) => eD0
def tyO : Nat × Trip → String
  | (0, _) => "NoneType"
  | (1, _) => "int"
  | (2, _) => "bool"
  | (3, _) => "str"
  | (4, _) => "tuple"
  | (5, _) => "list"
  | (_, _) => "dict"
structure OddNo (K : PySem.W.Frag) (C : Addr) : Prop where
  cls : PySem.W.isClsIn K C = true
  typ : PySem.W.typeIn K (.ref C) = some (.type "type")
  s0 : PySem.W.subIn K (.type "NoneType") (.ref C) = some false
  s1 : PySem.W.subIn K (.type "int") (.ref C) = some false
  s2 : PySem.W.subIn K (.type "bool") (.ref C) = some false
  s3 : PySem.W.subIn K (.type "str") (.ref C) = some false
  s4 : PySem.W.subIn K (.type "tuple") (.ref C) = some false
  s5 : PySem.W.subIn K (.type "list") (.ref C) = some false
  s6 : PySem.W.subIn K (.type "dict") (.ref C) = some false
section
variable {K : PySem.W.Frag} {C : Addr}
theorem OddNo.sub (N : OddNo K C) : ∀ x : Nat × Trip, PySem.W.subIn K (.type (tyO x)) (.ref C) = some false
  | (0, _) => N.s0
  | (1, _) => N.s1
  | (2, _) => N.s2
  | (3, _) => N.s3
  | (4, _) => N.s4
  | (5, _) => N.s5
  | (_ + 6, _) => N.s6
theorem ty_odd : ∀ (x : Nat × Trip) (F H : Hp) (v : V), Same F H → (eOdd K x).p F v → TyX K H v (.type (tyO x))
  | (0, _) => ty_non
  | (1, _) => ty_int
  | (2, _) => ty_bl
  | (3, _) => ty_str
  | (4, _) => ty_tup
  | (5, _) => ty_lst
  | (_ + 6, _) => ty_dn
theorem kit_odd (N : OddNo K C) (x : Nat × Trip) : PySem.W.kitOne K (.type (tyO x)) (.ref C) = some false := by
  have h : PySem.W.kitCls K (.type (tyO x)) (.ref C) = some false := by
    unfold PySem.W.kitCls
    dsimp only
    have hc : (PySem.W.clsIn K C).isSome = true := N.cls
    rw [hc, N.typ, if_pos (by simp)]
    exact N.sub x
  show (if (Value.type (tyO x) == Value.ref C) = true then some true else PySem.W.kitCls K (.type (tyO x)) (.ref C)) = some false
  rw [h]; rfl
theorem nf_odd (N : OddNo K C) (x : Nat × Trip) : PySem.W.notFirst K C (.type (tyO x)) = true := by
  unfold PySem.W.notFirst
  rw [N.sub x]; simp
theorem nf_self : PySem.W.notFirst K C (.ref C) = true := by
  unfold PySem.W.notFirst
  rw [show (Value.ref C == Value.ref C) = true from beq_self_eq_true _]; rfl
end
/-- a list of three ints and a bool -/
def eLm (x : Int × Int × Int × Bool) : R := eL [eI x.1, eI x.2.1, eI x.2.2.1, eB x.2.2.2]
instance {K : PySem.W.Frag} : DatE K eLm where
  d := fun x => .list [.int x.1, .int x.2.1, .int x.2.2.1, .bool x.2.2.2]
  dep := 1
  ok := fun f ⟨p, xs, h1, h2, h3⟩ => by
    subst h1
    match xs, h3 with
    | [x, y, z, b], h3 =>
      obtain ⟨e1, e2, e3, e4, _⟩ := h3
      cases (show x = V.int _ from e1)
      cases (show y = V.int _ from e2)
      cases (show z = V.int _ from e3)
      cases (show b = V.bl _ from e4)
      exact .lst (.inl (.inl (f _ _ h2))) (.cons (.int _) (.cons (.int _) (.cons (.int _) (.cons (.bl _) .nil))))
    | [], h3 => exact h3.elim
    | [_], h3 => exact h3.2.elim
    | [_, _], h3 => exact h3.2.2.elim
    | [_, _, _], h3 => exact h3.2.2.2.elim
    | _ :: _ :: _ :: _ :: _ :: _, h3 => exact h3.2.2.2.2.elim
  lay := fun x => by simp [PyData.canLay0, PyData.canLayAll0]
  dpt := fun x => by simp [PyData.depth, PyData.depthAll]
  eqv := fun x y => by
    obtain ⟨x1, x2, x3, x4⟩ := x
    obtain ⟨y1, y2, y3, y4⟩ := y
    simp [PyData.eqv, PyData.eqvAll]
  nod := fun x => by simp [PyData.hasDict, PyData.hasDictAll]
instance {K : PySem.W.Frag} : DatE K (eO eI) where
  d := fun o => match o with
    | none => .none
    | some i => .int i
  dep := 0
  ok := fun {F H v x} f h => by
    cases x with
    | none =>
      cases (show v = V.non from h)
      exact .non
    | some i =>
      cases (show v = V.int i from h)
      exact .int i
  lay := fun x => by cases x <;> rfl
  dpt := fun x => by cases x <;> simp [PyData.depth]
  eqv := fun x y => by cases x <;> cases y <;> simp [PyData.eqv]
  nod := fun x => by cases x <;> rfl
section
variable {W W' W0 W1 W2 W3 : List Sl} {te : TE} {α : Type}
theorem es_upO {e : α → R} {l : List α} (h : ES te W W1 (eLs e l)) : ES te W W1 (eLs (eO e) (l.map some)) := by
  have q : (l.map some).map (eO e) = l.map e := by rw [List.map_map]; rfl
  unfold eLs
  rw [q]; exact h
theorem es_frm {x : Int × Int × Int × Bool} (h : ESN te W W1 (oL [eI x.1, eI x.2.1, eI x.2.2.1, eB x.2.2.2])) : ES te W W1 (eLm x) := es_fr h
def reprF (d : PyData) : Str := d.shown
def ReprF (d : PyData) : Prop := d.showable = true ∧ d.shown.length ≤ sizeLine
theorem es_reprF {K : PySem.W.Frag} {e : α → R} [D : DatE K e] {x : α} {d : PyData} (ha : ES te W W1 (e x)) (h : ReprF d) (hd : D.d x = d) (hv : ∀ F v, (e x).p F v → ∃ a, v = .ref a) (z : D.dep ≤ 60) : ES (tCB (rReprD K) (tCons te tNil)) W W1 (eS (reprF d)) := by
  subst hd
  exact es_reprD ha h hv z
end
end Fw
end
section
set_option maxRecDepth 100000
namespace Fw
open PySem L2
/-! texts of ints and lists of ints are short -/
theorem shown_int {i : Int} {k : Nat} (hk : 0 < k) (h : i.natAbs.log2 < k) : (PyData.shown (.int i)).length ≤ k + 1 := by
  have e : PyData.shown (.int i) = Str.ofString (toString i) := rfl
  rw [e]
  have := int_text_length_le hk h
  rw [ofString_length]; exact this
theorem leaves_ints {k : Nat} (hk : 0 < k) : ∀ {l : List Int}, (∀ i ∈ l, i.natAbs.log2 < k) → PyData.leavesShortAll (k + 1) (l.map fun y => PyData.int y) = true
  | [], _ => rfl
  | i :: l, h => by
    have h1 := shown_int hk (h i (List.mem_cons_self ..))
    have h2 := leaves_ints hk (l := l) fun j hj => h j (List.mem_cons_of_mem _ hj)
    show (decide ((PyData.shown (.int i)).length ≤ k + 1) && PyData.leavesShortAll (k + 1) (l.map fun y => PyData.int y)) = true
    rw [h2, decide_eq_true h1]; rfl
theorem bulk_ints : ∀ l : List Int, PyData.bulkAll (l.map fun y => PyData.int y) = l.length
  | [] => rfl
  | i :: l => by
    show 0 + 1 + PyData.bulkAll (l.map fun y => PyData.int y) = l.length + 1
    rw [bulk_ints l]; omega
theorem show_ints {l : List Int} (h : ∀ i ∈ l, i.natAbs.log2 < 1000) : PyData.showableAll (l.map fun y => PyData.int y) = true := by
  induction l with
  | nil => rfl
  | cons i l ih =>
    show (decide (i.natAbs.log2 < 1920) && PyData.showableAll (l.map fun y => PyData.int y)) = true
    have h1 := h i (List.mem_cons_self ..)
    rw [ih fun j hj => h j (List.mem_cons_of_mem _ hj), decide_eq_true (by omega)]; rfl
theorem repr_ints {l : List Int} (h : ∀ i ∈ l, i.natAbs.log2 < 1000) (hl : l.length ≤ 10000) : ReprF (PyData.list (List.map (fun y : Int => PyData.int y) l)) := by
  refine ⟨show_ints h, Nat.le_trans (PyData.shown_le_bulk 1001 (by decide) _ (leaves_ints (k := 1000) (by decide) h)) ?_⟩
  show (1001 + 2) * PyData.bulkAll (l.map fun y => PyData.int y) + 1001 ≤ sizeLine
  rw [bulk_ints, sizeLine_eq]
  omega
end Fw
end
section
set_option maxRecDepth 100000
namespace FwLong
open PySem
open Sem (wp)
section
variable {prog : Program} {w : World} {A : Around} {E : Value → Shared → Prop} {z : Shared}
abbrev lit (a b c : Int) : Obj := { cls := .type "longrange_iterator", data := .fields #[rawInt a, rawInt (Builtin.Range.rangeSize a b c), rawInt c] }
/-- a list takes the items of a range of far numbers -/
theorem ext_long {R : Result → Shared → Prop} {r : Addr} {a b c : Int} {t u v : Tok} {n : Nat} (calm : A.handled = none) (rg : IsRange z.heap r a b c t u v) (big : Builtin.Range.small a b c = false)
    (sz : Builtin.Range.rangeSize a b c = n) (few : n ≤ 2 ^ 24) (L : Addr) (res : Value) (k0 : Nat) (lst : z.heap.get? L = some { cls := .type "list", data := .seq #[] k0 })
    (go : ∀ g tk xs k, (∀ b o, b ≠ L → z.heap.get? b = some o → g.get? b = some o) → g.get? L = some { cls := .type "list", dict := none, data := .seq xs k, slots := #[] } →
      ItemsOf (fun i v => ∃ t, v = .int (a + i * c) t) xs n → R (.ok (.ret res)) { z with heap := g, toks := tk }) :
    wpAny (model prog w) A.in1 (Builtin.List.listExtendWith (.ref L) (.ref r) res)
      (fun f s' => match f with | .done f => R (.ok f) s' | .again c' => c'.quiet = true ∧ codeAny (model prog w) A c' R s') (fun e s' => R (.error e) s') z := by
  have nLr : L ≠ r := fun e => by rw [e, rg] at lst; simp at lst
  have ltL : L < z.heap.objs.size := Heap.lt_size lst
  have nLI : L ≠ z.heap.objs.size := Nat.ne_of_lt ltL
  have nin : L ∉ [z.heap.objs.size] := fun m => nLI (List.mem_singleton.mp m)
  have Wz := (Walks.longrange (prog := prog) (w := w) (A := A.in1) calm z.heap.objs.size a c n).toS
  have turn : ∀ (g : Heap) (k1 tk : Nat), IsLongIter g z.heap.objs.size (a + ((0 : Nat) : Int) * c) ((n : Int) - ((0 : Nat) : Int)) c → (∀ b o, b ≠ L → z.heap.get? b = some o → g.get? b = some o) →
      g.get? L = some { cls := .type "list", data := .seq #[] k1 } → codeAny (model prog w) A (.builtin "list.extend.loop" ⟨[.ref L, .ref z.heap.objs.size, res], []⟩) R { z with heap := g, toks := tk } := fun g k1 tk it keep at1 => by
    refine codeAny_extend_loopS Wz (by rw [sizeLine_eq]; omega) L nin res n 0 _ #[] k1 rfl (Nat.zero_le _) it at1 (ItemsOf.nil _) fun y xs k2 mv at2 its => ?_
    rw [Moved.eq_with mv]
    refine go y.heap y.toks xs k2 (fun b o nb e => mv.heap b o (fun m => ?_) (keep b o nb e)) at2 its
    rcases List.mem_cons.mp m with e' | m
    · exact nb e'
    · exact absurd (Heap.lt_size e) (by rw [List.mem_singleton.mp m]; exact Nat.lt_irrefl _)
  unfold Builtin.List.listExtendWith
  refine wpAny_bind (wpAny_typeOf (T := "range") ⟨_, rg, rfl⟩ ?_)
  have q1 : Builtin.List.listSameRef (.ref L) (.ref r) = false := by simp [Builtin.List.listSameRef, nLr]
  have q2 : (Value.type "range" == Value.type "list") = false := by decide
  have q3 : (Value.type "range" == Value.type "tuple") = false := by decide
  simp only [q1, q2, q3, Bool.or_false, Bool.false_eq_true, if_false]
  refine wpAny_bind (wpAny_pyIter_longrange rg big (wpAny_bind (wpAny_holding (wpAny_hint_range (n := n) (Heap.get?_push_of_some _ rg) sz few ?_))))
  have it1 : IsLongIter (z.heap.push (lit a b c)) z.heap.objs.size (a + ((0 : Nat) : Int) * c) ((n : Int) - ((0 : Nat) : Int)) c := by
    unfold lit; show IsLongIter _ _ _ _ _; rw [sz]; simpa using Heap.get?_push_size _ rfl
  have at1 := Heap.get?_push_of_some (lit a b c) lst
  refine wpAny_ite_split (fun _ => ?_) (fun _ => wpAny_pure ⟨plainId_quiet F.plain_extend_loop _, turn _ k0 _ it1 (fun b o _ e => Heap.get?_push_of_some _ e) at1⟩)
  refine wpAny_bind (wpAny_rule (wpAny_bind ?_))
  show wpAny _ _ (updateSeq L (·.push .none) >>= fun _ => updateSeq L (·.pop)) _ _ _
  have at2 := Heap.get?_update_self (Obj.mapSeq (·.push Value.none)) at1 rfl
  have at3 := Heap.get?_update_self (Obj.mapSeq (·.pop)) at2 rfl
  refine wpAny_bind (wpAny_updateSeq at1 rfl (wpAny_updateSeq (hz := by seq_fits) at2 rfl (wpAny_pure ⟨plainId_quiet F.plain_extend_loop _, turn _ _ _ ?_ (fun b o nb e => ?_) at3⟩)))
  · exact Eq.trans (Heap.get?_update_other _ _ nLI) (Eq.trans (Heap.get?_update_other _ _ nLI) it1)
  · exact Eq.trans (Heap.get?_update_other _ _ (Ne.symm nb)) (Eq.trans (Heap.get?_update_other _ _ (Ne.symm nb)) (Heap.get?_push_of_some _ e))
theorem init_long {R : Result → Shared → Prop} {r : Addr} {a b c : Int} {t u v : Tok} {n : Nat} (calm : A.handled = none) (rg : IsRange z.heap r a b c t u v) (big : Builtin.Range.small a b c = false)
    (sz : Builtin.Range.rangeSize a b c = n) (few : n ≤ 2 ^ 24) (L : Addr) (lst : z.heap.get? L = some { cls := .type "list", data := .seq #[] })
    (go : ∀ g tk xs k, (∀ b o, b ≠ L → z.heap.get? b = some o → g.get? b = some o) → g.get? L = some { cls := .type "list", dict := none, data := .seq xs k, slots := #[] } →
      ItemsOf (fun i v => ∃ t, v = .int (a + i * c) t) xs n → R (.ok (.ret .none)) { z with heap := g, toks := tk }) :
    wpAny (model prog w) A.in1 (Builtin.«list.__init__» ⟨[.ref L, .ref r], []⟩)
      (fun f s' => match f with | .done f => R (.ok f) s' | .again c' => c'.quiet = true ∧ codeAny (model prog w) A c' R s') (fun e s' => R (.error e) s') z := by
  have nLr : L ≠ r := fun e => by rw [e, rg] at lst; simp at lst
  show wpAny _ _ (do let old ← Builtin.List.listItems (.ref L); Builtin.List.listUpdate (.ref L) (fun _ => #[]); letGo old.toList.reverse; Builtin.List.listExtendWith (.ref L) (.ref r) .none) _ _ z
  unfold Builtin.List.listItems
  refine wpAny_bind (wpAny_bind (wpAny_seqItems lst rfl (wpAny_pure ?_)))
  show wpAny _ _ (updateSeq L (fun _ => #[]) >>= fun _ => letGo (#[] : Array Value).toList.reverse >>= fun _ => Builtin.List.listExtendWith (.ref L) (.ref r) .none) _ _ z
  have at2 := Heap.get?_update_self (Obj.mapSeq (fun _ => (#[] : Array Value))) lst rfl
  have off : ∀ b o, b ≠ L → z.heap.get? b = some o → (z.heap.update L (Obj.mapSeq (fun _ => (#[] : Array Value)))).get? b = some o := fun b o nb e => Eq.trans (Heap.get?_update_other _ _ (Ne.symm nb)) e
  refine wpAny_bind (wpAny_updateSeq lst rfl (wpAny_bind (wpAny_letGo ?_)))
  refine ext_long calm (off r _ (Ne.symm nLr) rg) big sz few L .none _ at2 fun g tk xs k keep at3 its => go g tk xs k (fun b o nb e => keep b o nb (off b o nb e)) at3 its
theorem call_long {Q : Value → Shared → Prop} {r : Addr} {a b c : Int} {t u v : Tok} {n : Nat} (calm : A.handled = none) (rg : IsRange z.heap r a b c t u v) (sz : Builtin.Range.rangeSize a b c = n) (few : n ≤ 2 ^ 24)
    (go : ∀ g tk xs k, (∀ b o, z.heap.get? b = some o → g.get? b = some o) → g.get? z.heap.objs.size = some { cls := .type "list", dict := none, data := .seq xs k, slots := #[] } →
      ItemsOf (fun i v => ∃ t, v = .int (a + i * c) t) xs n → Q (.ref z.heap.objs.size) { z with heap := g, toks := tk }) : wpAny (model prog w) A (call (.type "list") [.ref r]) Q E z := by
  cases big : Builtin.Range.small a b c with
  | true => exact call_list_range calm rg big sz few go
  | false =>
    refine callType_codes (Q₁ := fun x y => x = .ref z.heap.objs.size ∧ y = { z with heap := z.heap.push { cls := .type "list", data := .seq #[] } }) F.called_list (F.typeCall_list_1 _) F.entry_list_init (code_list_new _ ⟨rfl, rfl⟩) fun x y h => ?_
    obtain ⟨e1, e2⟩ := h
    subst e1 e2
    have at1 : (z.heap.push { cls := .type "list", data := .seq #[] }).get? z.heap.objs.size = some { cls := .type "list", data := .seq #[] } := Heap.get?_push_size _ rfl
    exact ⟨⟨_, at1, rfl⟩, F.args_list_init_2 _ _, init_long (A := A.in1) calm (Heap.get?_push_of_some _ rg) big sz few _ at1 fun g tk xs k keep at2 its => ⟨rfl, go g tk xs k (fun b o e => keep b o (Nat.ne_of_lt (Heap.lt_size e)) (Heap.get?_push_of_some _ e)) at2 its⟩⟩
end
end FwLong
namespace Fw
open PySem L2 PySem.Spec PyProof.Rows
section
variable {X : Cx} {e : Expr} {te : L2.St → Hp → (Int → Int → Hp → Prop) → Prop}
def tLstRgF (te : L2.St → Hp → (Int → Int → Hp → Prop) → Prop) : TE := fun σ H Q => te σ H fun a b H1 => (b - a).toNat ≤ 2 ^ 24 ∧ ∀ q, H1 q = none → Q (.ref q) (upd H1 q (.lst (rgV a b)))
/-- list(range(a, b)), however far the numbers are -/
theorem pe_listRgF {p pos : Pos} (hc : X.calm = true) (hg : Gl X "list") (hm : X.mg "list" = none) (he : PRg X e te) (na : starEach [e] X.env = (false, eval e X.env) :: starEach [] X.env := by rfl) : PE X (.Call (.Name "list" p) [e] [] pos) (tLstRgF te) := by
  refine ⟨fun pins s σ H Q I h => Call_ (ld_blt I hg hm boot_list (PyProof.Rows.callWith_type1 (args_cons (thn (he pins s σ H _ I h) fun x s1 ⟨r, a, b, t, u, v, H1, ex, hr, I1, few, q⟩ => args_nil ?_) na) na))⟩
  subst ex
  refine FwLong.call_long (n := (b - a).toNat) (I1.ok.hd hc) hr (rangeSize_nat a b) few fun g tk xs k keep e' hi => ?_
  have lay : ObjOk X.prog X.w (upd H1 s1.heap.objs.size (.lst (rgV a b))) g s1.heap.objs.size (.lst (rgV a b)) := ⟨by rw [rgV_length, sizeLine_eq]; omega, xs.toList, k, vals_rg hi, by rw [Array.toArray_toList]; exact e'⟩
  exact ⟨.ref s1.heap.objs.size, _, I1.laid keep (Nat.le_refl _) lay, rfl, q _ (I1.hok.fresh (Nat.le_refl _))⟩
variable {W W1 W2 : List Sl} {ta tb : TE}
theorem en_listRgF {a b : Int} (ha : ES ta W W1 (eI a)) (hb : ES tb W1 W2 (eI b)) (c : (b - a).toNat ≤ 2 ^ 24) : ESN (tLstRgF (tRg2 ta tb)) W W2 (oL ((rng a b).map eI)) := fun F H σ Q s k =>
  ha F H σ _ s fun v F1 H1 a1 s1 e1 => hb F1 H1 σ _ s1 fun w F2 H2 a2 s2 e2 => by
    cases (show v = V.int a from e1)
    cases (show w = V.int b from e2)
    refine ⟨a, b, rfl, rfl, c, fun q hq => ?_⟩
    have ex : Same H2 (upd H2 q (.lst (rgV a b))) := fun x o z => by rw [upd_ne (ne_of_none z hq)]; exact z
    exact k q _ F2 _ ((a1.trans a2).trans (Rel.grow ex)) (s2.grow ex) ((a1.trans a2).t _ hq) upd_same (s2.ex.free hq) (not_own s2 hq) ⟨nofun, _, rfl, by rw [rgV_rng]; exact all2_of_ints _⟩
theorem en_catO {α : Type} {e : α → R} {l m : List α} {i : Nat} {q : Option Addr} (h0 : W[i]? = some (.ow (oLq q (l.map e)))) (hb : ES tb W W2 (eLs e m)) (h2 : W2[i]? = some (.ow (oLq q (l.map e)))) (c : l.length + m.length ≤ 16000000) : ESN (tOp rCat (tVar i) tb) W W2 (oL ((l ++ m).map e)) := fun F H σ Q s k => by
  obtain ⟨p, o, e0, _⟩ := s.ow i _ h0
  refine ⟨.ref p, e0, hb F H σ _ s fun w F2 H2 a2 s2 ⟨b, ys, g1, g2, g3⟩ => ?_⟩
  subst g1
  obtain ⟨p', o', e0', z1, z2, ⟨_, xs, eo, z3⟩⟩ := s2.ow i _ h2
  subst eo
  have ep : p' = p := by rw [e0] at e0'; cases e0'; rfl
  subst ep
  have e1 := z3.len
  have e2 := g3.len
  rw [List.length_map] at e1 e2
  refine ⟨p', b, xs, ys, rfl, rfl, z1, s2.ex _ _ g2, Nat.le_trans (by rw [e1, e2]; exact c) (by decide), fun l' hl => ?_⟩
  have ex : Same H2 (upd H2 l' (.lst (xs ++ ys))) := fun a o q => by rw [upd_ne (ne_of_none q hl)]; exact q
  refine k l' _ F2 _ (a2.trans (Rel.grow ex)) (s2.grow ex) (a2.t _ hl) upd_same (s2.ex.free hl) (not_own s2 hl) ⟨nofun, _, rfl, ?_⟩
  rw [List.map_append]
  exact z3.app g3
end
end Fw
end
section
set_option maxRecDepth 100000
namespace FwSet
open PySem L2 PySem.Spec PyProof.Rows
section
variable {P : Program} {w : World} {A : Around} {E : Value → Shared → Prop} {z : Shared}
abbrev set0 (w : World) : Obj := { cls := .type "set", dict := none, data := .set #[] 0 (.fresh 0 0 (!w.params.followText "set-order")) }
set_option maxHeartbeats 3200000 in
/-- set(xs) of a list of ints -/
theorem set_list {l : Addr} {xs : Array Value} (ns : List Int) {Q : Value → Shared → Prop} (calm : A.handled = none) (at_ : z.heap.IsList l xs) (iv : IntsAre xs.toList ns) (few : ns.length + 1 < scanBound)
    (go : ∀ (g : Heap) (tk c : Nat), SetR w g z.heap.objs.size (fun j => decide (j ∈ ns)) c → c ≤ ns.length → (∀ b o, z.heap.get? b = some o → g.get? b = some o) → Q (.ref z.heap.objs.size) { z with heap := g, toks := tk }) :
    wpAny (model P w) A (call (.type "set") [.ref l]) Q E z := by
  have sz : xs.size = ns.length := by have q := IntsAre.length iv; rwa [Array.length_toList] at q
  obtain ⟨c, tl, mro⟩ := F.called_set.mro
  have made := F.called_set.made; have sub := F.called_set.sub
  refine wpAny_call (codeAny_of_tree ?_)
  show wpAny _ _ (callAny (.type "set") _) _ _ _
  refine wpAny_pure ⟨Code.quiet_builtin _ (by decide +kernel), codeAny_builtin F.entry_type_call ?_⟩
  rw [Around.under_plain (weight_type_call_type "set" [.ref l] []) rfl]
  have h1 := F.called_set.notType; have h2 := F.called_set.canCreate; have h3 := F.typeCall_set_1 (.ref l)
  repeat (any_goals (first | assumption | wp_step))
  refine codeAny_mono (code_set_led1 (.ref l) (E := E) (Q₁ := fun o y => o = .ref z.heap.objs.size ∧ y = { z with heap := z.heap.push (set0 w) }) ⟨rfl, rfl⟩) fun r y hr => ?_
  match r, hr with
  | .error e, hr => exact hr
  | .ok (.ret o), hr =>
    obtain ⟨e1, e2⟩ := hr
    subst e1 e2
    have atS : (z.heap.push (set0 w)).get? z.heap.objs.size = some (set0 w) := Heap.get?_push_size _ rfl
    have hT : Shared.TypeIs { z with heap := z.heap.push (set0 w) } (.ref z.heap.objs.size) "set" := ⟨_, atS, rfl⟩
    have li := F.called_set.init.lookup; have bi := F.called_set.init.bind (.ref z.heap.objs.size)
    repeat (any_goals (first | assumption | wp_step))
    refine codeAny_mono (codeAny_call_builtin (R := wants (fun r y => r = .none ∧ ∃ g tk c, y = { z with heap := g, toks := tk } ∧ SetR w g z.heap.objs.size (fun j => decide (j ∈ ns)) c ∧ c ≤ ns.length ∧ (∀ b o, z.heap.get? b = some o → g.get? b = some o)) E) F.called_set.init.plain F.entry_set_init (check_set_init_1 hT ?_)) fun r y hr => ?_
    · obtain ⟨ob, at1, hc, n1, hd⟩ := at_
      obtain ⟨cl, dd, dt, sl⟩ := ob
      simp only at hc hd
      subst hc; subst hd
      have at2 : (z.heap.push (set0 w)).get? l = some { cls := .type "list", dict := dd, data := .seq xs n1, slots := sl } := Heap.get?_push_of_some _ at1
      have s1 := F.sub_list_set; have s2 := F.sub_list_frozenset
      have nd : (Value.type "list" == Value.type "dict") = false := by decide
      have L1 : (z.heap.push (set0 w)).IsList l xs := ⟨_, at2, rfl, n1, rfl⟩
      unfold Builtin.«set.__init__» noKeywords Builtin.Frozenset.updateFrom
      generalize eI : pyIter = PI
      wp_walk
      subst eI
      refine wpAny_pyIter_list L1 (wpAny_bind (wpAny_runValue ?_))
      have lt : l < z.heap.objs.size := Heap.lt_size at1
      have calm3 : A.in1.in1.in1.handled = none := by simp [calm]
      have nI : l ≠ (z.heap.push (set0 w)).objs.size := by rw [Heap.size_push]; exact Nat.ne_of_lt (Nat.lt_succ_of_lt lt)
      have nS : z.heap.objs.size ∉ [(z.heap.push (set0 w)).objs.size, l] := by
        rw [Heap.size_push]
        intro m
        rcases List.mem_cons.mp m with e | m
        · exact absurd e (Nat.ne_of_lt (Nat.lt_succ_self _))
        · exact absurd (List.mem_singleton.mp m) (Nat.ne_of_gt lt)
      have vals : ∀ (i : Nat) (v : Value), xs[i]? = some v → ∃ k t, ns[i]? = some k ∧ v = .int k t := fun i v hv => by
        have hi : i < ns.length := by rw [← sz]; exact (Array.getElem?_eq_some_iff.mp hv).1
        obtain ⟨t, e⟩ := PyProof.Rows.IntsAre.int_at iv i v (by rw [Array.getElem?_toList]; exact hv)
        refine ⟨ns[i], t, List.getElem?_eq_getElem hi, ?_⟩
        rw [e, List.getD_eq_getElem?_getD, List.getElem?_eq_getElem hi] <;> rfl
      have atS2 : ((z.heap.push (set0 w)).push { cls := .type "list_iterator", data := .fields #[.ref l, .int 0 0] }).get? z.heap.objs.size = some (set0 w) := Heap.get?_push_of_some _ atS
      refine set_update_ints ((Walks.list calm3 _ l nI xs).toS) z.heap.objs.size nS ns sz few vals (xs.size - 0) 0 _ (by omega) (Nat.zero_le _) ⟨⟨_, Heap.get?_push_size _ rfl, rfl, rfl⟩, (L1.push _)⟩ ⟨0, Nat.le_refl 0, setR_new_at atS2⟩ fun y c' mv hc' R => ?_
      obtain ⟨g, g2, d', tk', os'⟩ := y
      have q1 : g2 = z.gens := mv.gens
      have q2 : d' = z.drawn := mv.drawn
      have q3 : os' = z.os := mv.os
      subst q1; subst q2; subst q3
      show wpAny _ _ _ _ _ _
      refine wpAny_pure ?_
      show wpAny _ _ (ret Value.none) _ _ _
      rw [sz] at hc'
      refine wpAny_pure ⟨rfl, g, tk', c', rfl, R, hc', fun b o e => ?_⟩
      have b0 : b < z.heap.objs.size := Heap.lt_size e
      refine mv.heap b o (fun m => ?_) (Heap.get?_push_of_some _ (Heap.get?_push_of_some _ e))
      rcases List.mem_cons.mp m with e' | m
      · exact absurd e' (Nat.ne_of_lt b0)
      · have e' := List.mem_singleton.mp m
        rw [Heap.size_push] at e'
        exact absurd e' (Nat.ne_of_lt (Nat.lt_succ_of_lt b0))
    · match r, hr with
      | .error e, hr => exact hr
      | .ok (.ret r), hr =>
        obtain ⟨e1, g, tk, c, e2, R, hc, keep⟩ := hr
        subst e1 e2
        repeat (any_goals (first | assumption | wp_step))
        exact go _ _ _ R hc keep
      | .ok .next, hr => exact hr.elim
      | .ok .brk, hr => exact hr.elim
      | .ok .cont, hr => exact hr.elim
  | .ok .next, hr => exact hr.elim
  | .ok .brk, hr => exact hr.elim
  | .ok .cont, hr => exact hr.elim
end
end FwSet
end
section
set_option maxRecDepth 100000
namespace Fw
open PySem L2 PySem.Spec PyProof.Rows
section
variable {X : Cx}
def rSetL (K : PySem.W.Frag) (w : World) : List V → Hp → VK → Prop := fun xs H Q => ∃ (l : Addr) (ns : List Int), xs = [.ref l] ∧ SqL K H l (ns.map V.int) ∧ ns.length ≤ 60 ∧ ∀ p c, H p = none → c ≤ ns.length → Q (.ref p) (upd H p (SetO w p (fun j => decide (j ∈ ns)) c))
theorem cr_setL {K : PySem.W.Frag} {w : World} (hK : X.K = K) (hw : X.w = w) (hc : X.calm = true) : CallR X (.type "set") (rSetL K w) := by
  subst hK hw
  intro pins s σ H xs us Q I r h
  obtain ⟨l, ns, e, hs, few, q⟩ := h
  subst e
  obtain ⟨its, rv, at_, hz⟩ := I.list hs
  rw [Vals.ref1 r]
  refine FwSet.set_list ns (I.ok.hd hc) at_.isList (by simpa using ints_of_vals rv) (by unfold scanBound; omega) fun g tk c R hc' keep => ?_
  exact ⟨.ref s.heap.objs.size, _, I.laid keep (Nat.le_refl _) (setO_new R), rfl, q _ c (I.hok.fresh (Nat.le_refl _)) hc'⟩
theorem cr_sortedSetK {w : World} (hw : X.w = w) (hc : X.calm = true) : CallR X (.builtin "sorted") (rSortedSet w) := by subst hw; exact cr_sortedSet hc
end
/-- sorted, each once -/
def ssort (l : List Int) : List Int := (l.mergeSort (fun a b => decide (a ≤ b))).eraseDups
theorem strict_uniq : ∀ {l m : List Int}, l.Pairwise (· < ·) → m.Pairwise (· < ·) → (∀ k, k ∈ l ↔ k ∈ m) → l = m
  | [], [], _, _, _ => rfl
  | [], y :: m, _, _, h => absurd ((h y).mpr (List.mem_cons_self ..)) (by simp)
  | x :: l, [], _, _, h => absurd ((h x).mp (List.mem_cons_self ..)) (by simp)
  | x :: l, y :: m, h1, h2, h => by
    rw [List.pairwise_cons] at h1 h2
    have xy : x = y := by
      have a := (h x).mp (List.mem_cons_self ..)
      have b := (h y).mpr (List.mem_cons_self ..)
      rcases List.mem_cons.mp a with a | a
      · exact a
      · rcases List.mem_cons.mp b with b | b
        · exact b.symm
        · have := h2.1 x a; have := h1.1 y b; omega
    subst xy
    rw [strict_uniq h1.2 h2.2 fun k => ?_]
    constructor
    · intro hk
      have := (h k).mp (List.mem_cons_of_mem _ hk)
      rcases List.mem_cons.mp this with e | e
      · have := h1.1 k hk; omega
      · exact e
    · intro hk
      have := (h k).mpr (List.mem_cons_of_mem _ hk)
      rcases List.mem_cons.mp this with e | e
      · have := h2.1 k hk; omega
      · exact e
theorem ssort_mem {l : List Int} {k : Int} : k ∈ ssort l ↔ k ∈ l := by
  unfold ssort
  rw [List.mem_eraseDups, List.mem_mergeSort]
theorem nodup_eraseDups' : ∀ (n : Nat) (l : List Int), l.length ≤ n → l.Pairwise (· ≤ ·) → l.eraseDups.Pairwise (· < ·)
  | _, [], _, _ => by simp
  | n + 1, x :: l, hn, h => by
    rw [List.eraseDups_cons, List.pairwise_cons]
    rw [List.pairwise_cons] at h
    rw [List.length_cons] at hn
    refine ⟨fun y hy => ?_, nodup_eraseDups' n _ (Nat.le_trans (List.length_filter_le _ _) (by omega)) (h.2.filter _)⟩
    rw [List.mem_eraseDups, List.mem_filter] at hy
    have h1 := h.1 y hy.1
    have h2 : y ≠ x := by simpa using hy.2
    omega
theorem ssort_strict (l : List Int) : (ssort l).Pairwise (· < ·) := by
  refine nodup_eraseDups' _ _ (Nat.le_refl _) ?_
  have := List.pairwise_mergeSort (le := fun a b : Int => decide (a ≤ b)) (by intro a b c; simp; omega) (by intro a b; simp; omega) l
  exact this.imp fun h => of_decide_eq_true h
section
variable {W W1 : List Sl} {K : PySem.W.Frag} {w : World} {ta : TE}
/-- sorted(set(xs)) -/
theorem en_sortset {l : List Int} (ha : ES ta W W1 (eLs eI l)) (few : l.length ≤ 60) : ESN (tCB (rSortedSet w) (tCons (tCB (rSetL K w) (tCons ta tNil)) tNil)) W W1 (oL ((ssort l).map eI)) := fun F H σ Q s k =>
  ha F H σ _ s fun v F1 H1 a1 s1 ⟨p, xs, e1, e2, e3⟩ => by
    subst e1
    have ex : xs = l.map V.int := all2_ints e3
    subst ex
    refine ⟨p, l, rfl, .inl (.inl (s1.ex _ _ e2)), few, fun q c hq hc => ?_⟩
    have exq : Same H1 (upd H1 q (SetO w q (fun j => decide (j ∈ l)) c)) := fun a o z => by rw [upd_ne (ne_of_none z hq)]; exact z
    refine ⟨q, _, c, rfl, upd_same, by omega, fun ns r h1 h2 h3 hr => ?_⟩
    have en : ns = ssort l := strict_uniq h1 (ssort_strict l) fun k => by rw [h2 k, decide_eq_true_iff, ssort_mem]
    subst en
    have exr : Same (upd H1 q (SetO w q (fun j => decide (j ∈ l)) c)) (upd (upd H1 q (SetO w q (fun j => decide (j ∈ l)) c)) r (.lst ((ssort l).map V.int))) := fun a o z => by rw [upd_ne (ne_of_none z hr)]; exact z
    have s2 := s1.grow exq
    exact k r _ F1 _ (a1.trans ((Rel.grow exq).trans (Rel.grow exr))) (s2.grow exr) (((a1.trans (Rel.grow exq)).t _ hr)) upd_same (s2.ex.free hr) (not_own s2 hr) ⟨nofun, _, rfl, all2_of_ints _⟩
theorem et_andB {β : Type} {W : List Sl} {t u : TT} {a b : Bool} (mk : β → List Sl) (vT vF : β) (h : ET t W (mk vF) a) (h2 : a = true → ET u (mk vF) (mk vT) b) : ET (tAnd t u) W (mk (if a = true then vT else vF)) (a && b) := fun F H σ Q s k => h F H σ _ s fun F1 H1 a1 s1 => by
  cases a with
  | true =>
    rw [if_pos rfl]
    exact h2 rfl F1 H1 σ Q s1 fun F2 H2 a2 s2 => k F2 H2 (a1.trans a2) s2
  | false =>
    rw [if_neg Bool.false_ne_true]
    exact k F1 H1 a1 s1
end
end Fw
end
section
set_option maxRecDepth 100000
set_option maxHeartbeats 800000
namespace My
open PySem L2 Fw
def top (i : Nat) : Stmt := PySem.Challenge.pw_hashdoors_k04_keys_with_a_tail.main.body.getD i (.Pass ⟨0, 0, 0, 0⟩)

abbrev eTbl (C : Addr) (t : Tbl) : R := eIns C [("own_capacity", eI t.capacity), ("own_rate", eI t.rate), ("own_shift", eI t.shift)]
def m_is_int (value_1 : Int) : Bool :=
true && (!false)
def m_is_int_ok (value_1 : Int) : Prop :=
True
def sp_is_int (K : PySem.W.Frag) (CT : Addr) : Sp := spF (ι := Int) (fun d => [eI d]) (fun d => m_is_int_ok d) (fun d => eB (m_is_int d))
abbrev s_is_int : Stmt := top 15
abbrev N_is_int : List Str := ["value"]
theorem sc_is_int : FnScope N_is_int ["value"] (defScope s_is_int) := ⟨rfl, rfl, rfl, by decide +kernel, rfl, by decide +kernel, by decide +kernel⟩
section
variable {P : Program} {w : World} {K : PySem.W.Frag} {mg : Str → Option Value} {base : Heap} {CT : Addr}
theorem ok_is_int {f : Addr} {fd : FuncData} (F : Fun K "is_int" "is_int" s_is_int f fd) (n_bool : mg "bool" = none) (n_int : mg "int" = none) (n_isinstance : mg "isinstance" = none) : FnG P w K mg base CX0 1 f fd ["value"] (sp_is_int K CT) := by
  refine Fun.okG F sc_is_int (fun vs H Q E h => ?_) (fun cdv A outer s H vs Q E hG hr h => ?_)
  · obtain ⟨d, F, _, _, h, _⟩ := h
    exact h.len
  · have nd := sc_is_int.nd
    have hU := hr.units
    refine ⟨_, (pss_cons (ps_ret (pe_and (pe_callB call_isi rfl n_isinstance (by decide +kernel) (pa_cons (pv 0) (pa_cons (pe_bltn (v := .ty "int") rfl n_int (by decide +kernel) rfl) pa_nil))) (pe_one (pe_not (pe_callB call_isi rfl n_isinstance (by decide +kernel) (pa_cons (pv 0) (pa_cons (pe_bltn (v := .ty "bool") rfl n_bool (by decide +kernel) rfl) pa_nil)))))))
 pss_nil), ?_⟩
    refine def_F h (fun d => Nat.le_of_ble_eq_true rfl) (fun value_1 h => ?_)
    replace h : m_is_int_ok value_1 := h
    unfold m_is_int_ok at h
    show SS _ [.fz (eI value_1)] (FP eB (m_is_int value_1))
    refine ss_retq (es_andV (es_isi (b := true) (es_var 0 rfl) (.ty "int") ty_int (kit_ty (by decide +kernel))) (fun hc10 => (es_notV (es_isi (b := false) (es_var 0 rfl) (.ty "bool") ty_int (kit_ty (by decide +kernel)))))) ?_
    exact rfl
end
def m_is_whole (value_1 : Int) (low_2 : Int) (high_3 : Int) : Bool :=
(m_is_int value_1) && ((decide (low_2 ≤ value_1)) && (decide (value_1 ≤ high_3)))
def m_is_whole_ok (value_1 : Int) (low_2 : Int) (high_3 : Int) : Prop :=
(m_is_int_ok value_1) ∧ True
def sp_is_whole (K : PySem.W.Frag) (CT : Addr) : Sp := spF (ι := Int × Int × Int) (fun d => [eI d.1, eI d.2.1, eI d.2.2]) (fun d => m_is_whole_ok d.1 d.2.1 d.2.2) (fun d => eB (m_is_whole d.1 d.2.1 d.2.2))
abbrev s_is_whole : Stmt := top 16
abbrev N_is_whole : List Str := ["value", "low", "high"]
theorem sc_is_whole : FnScope N_is_whole ["value", "low", "high"] (defScope s_is_whole) := ⟨rfl, rfl, rfl, by decide +kernel, rfl, by decide +kernel, by decide +kernel⟩
section
variable {P : Program} {w : World} {K : PySem.W.Frag} {mg : Str → Option Value} {base : Heap} {CT : Addr}
theorem ok_is_whole {f : Addr} {fd : FuncData} (F : Fun K "is_whole" "is_whole" s_is_whole f fd) {a_is_int : Addr} {fd_is_int : FuncData} (F_is_int : Fun K "is_int" "is_int" s_is_int a_is_int fd_is_int) (G_is_int : FnG P w K mg base CX0 1 a_is_int fd_is_int ["value"] (sp_is_int K CT)) (j_is_int : mg "is_int" = some (.ref a_is_int)) (b_is_int : Binds K fd_is_int ["value"] []) : FnG P w K mg base CX0 2 f fd ["value", "low", "high"] (sp_is_whole K CT) := by
  refine Fun.okG F sc_is_whole (fun vs H Q E h => ?_) (fun cdv A outer s H vs Q E hG hr h => ?_)
  · obtain ⟨d, F, _, _, h, _⟩ := h
    exact h.len
  · have nd := sc_is_whole.nd
    have hU := hr.units
    refine ⟨_, (pss_cons (ps_ret (pe_and (pg_call G_is_int hG (hr.mono (by decide)) rfl j_is_int F_is_int.kp b_is_int .nil pass0 (pa_cons (pv 0) pa_nil)) (pe_one (pe_chain op_le op_le (pv 1) (pv 0) (pv 2)))))
 pss_nil), ?_⟩
    refine def_F h (fun d => Nat.le_of_ble_eq_true rfl) (fun d h => ?_)
    obtain ⟨value_1, low_2, high_3⟩ := d
    replace h : m_is_whole_ok value_1 low_2 high_3 := h
    unfold m_is_whole_ok at h
    show SS _ [.fz (eI value_1), .fz (eI low_2), .fz (eI high_3)] (FP eB (m_is_whole value_1 low_2 high_3))
    obtain ⟨g1, h⟩ := h
    refine ss_retq (es_andV (es_call value_1 (as_cons (es_var 0 rfl) as_nil) g1) (fun hc10 => (es_chain (es_var 1 rfl) (es_var 0 rfl) q_le (fun hc => (es_var 2 rfl)) q_le))) ?_
    exact rfl
end
def m_is_span (value_1 : Int × Int) (ahead_2 : Int) : Bool :=
if ((!true) || ((!decide ((2 : Int) = 2)) || (!(m_is_whole value_1.1 ahead_2 (1000000000000000000000000000000 - 1))))) = true then (
false)
else (
m_is_whole value_1.2 (value_1.1 + 1) 1000000000000000000000000000000)
def m_is_span_ok (value_1 : Int × Int) (ahead_2 : Int) : Prop :=
((!true) = false → (!decide ((2 : Int) = 2)) = false → m_is_whole_ok value_1.1 ahead_2 (1000000000000000000000000000000 - 1)) ∧ (((!true) || ((!decide ((2 : Int) = 2)) || (!(m_is_whole value_1.1 ahead_2 (1000000000000000000000000000000 - 1))))) = true → (True)) ∧ (((!true) || ((!decide ((2 : Int) = 2)) || (!(m_is_whole value_1.1 ahead_2 (1000000000000000000000000000000 - 1))))) = false → ((m_is_whole_ok value_1.2 (value_1.1 + 1) 1000000000000000000000000000000) ∧ True))
def sp_is_span (K : PySem.W.Frag) (CT : Addr) : Sp := spF (ι := (Int × Int) × Int) (fun d => [(eP2 K eI eI) d.1, eI d.2]) (fun d => m_is_span_ok d.1 d.2) (fun d => eB (m_is_span d.1 d.2))
abbrev s_is_span : Stmt := top 17
abbrev N_is_span : List Str := ["value", "ahead"]
theorem sc_is_span : FnScope N_is_span ["value", "ahead"] (defScope s_is_span) := ⟨rfl, rfl, rfl, by decide +kernel, rfl, by decide +kernel, by decide +kernel⟩
section
variable {P : Program} {w : World} {K : PySem.W.Frag} {mg : Str → Option Value} {base : Heap} {CT : Addr}
theorem ok_is_span {f : Addr} {fd : FuncData} (F : Fun K "is_span" "is_span" s_is_span f fd) {a_is_whole : Addr} {fd_is_whole : FuncData} (F_is_whole : Fun K "is_whole" "is_whole" s_is_whole a_is_whole fd_is_whole) (G_is_whole : FnG P w K mg base CX0 2 a_is_whole fd_is_whole ["value", "low", "high"] (sp_is_whole K CT)) (j_is_whole : mg "is_whole" = some (.ref a_is_whole)) (b_is_whole : Binds K fd_is_whole ["value", "low", "high"] []) (n_isinstance : mg "isinstance" = none) (n_len : mg "len" = none) (n_tuple : mg "tuple" = none) (c_MOST_KEY : ∃ t, mg "MOST_KEY" = some (.int 1000000000000000000000000000000 t)) : FnG P w K mg base CX0 3 f fd ["value", "ahead"] (sp_is_span K CT) := by
  obtain ⟨t_MOST_KEY, c_MOST_KEY⟩ := c_MOST_KEY
  refine Fun.okG F sc_is_span (fun vs H Q E h => ?_) (fun cdv A outer s H vs Q E hG hr h => ?_)
  · obtain ⟨d, F, _, _, h, _⟩ := h
    exact h.len
  · have nd := sc_is_span.nd
    have hU := hr.units
    refine ⟨_, (pss_cons (ps_if (PW.pt (pw_or (pt_not (pt_val (pe_callB call_isi rfl n_isinstance (by decide +kernel) (pa_cons (pv 0) (pa_cons (pe_bltn (v := .ty "tuple") rfl n_tuple (by decide +kernel) rfl) pa_nil))))) (pw_or (pt_cmpR op_ne (pe_callB call_len_seq rfl n_len (by decide +kernel) (pa_cons (pv 0) pa_nil)) pe_int (nomark _)) (pw_or1 (pt_not (pt_val (pg_call G_is_whole hG (hr.mono (by decide)) rfl j_is_whole F_is_whole.kp b_is_whole .nil pass0 (pa_cons (pe_ix ix_tup (pv 0) pe_int (fun _ _ => rfl)) (pa_cons (pv 1) (pa_cons (pe_op op_sub (pe_glob (v := .int 1000000000000000000000000000000) rfl c_MOST_KEY ⟨_, rfl⟩) pe_int) pa_nil)))))))))) (pss_cons (ps_ret pe_bl)
 pss_nil) pss_nil)
 (pss_cons (ps_ret (pg_call G_is_whole hG (hr.mono (by decide)) rfl j_is_whole F_is_whole.kp b_is_whole .nil pass0 (pa_cons (pe_ix ix_tup (pv 0) pe_int (fun _ _ => rfl)) (pa_cons (pe_op op_add (pe_ix ix_tup (pv 0) pe_int (fun _ _ => rfl)) pe_int) (pa_cons (pe_glob (v := .int 1000000000000000000000000000000) rfl c_MOST_KEY ⟨_, rfl⟩) pa_nil)))))
 pss_nil)), ?_⟩
    refine def_F h (fun d => Nat.le_of_ble_eq_true rfl) (fun d h => ?_)
    obtain ⟨value_1, ahead_2⟩ := d
    replace h : m_is_span_ok value_1 ahead_2 := h
    unfold m_is_span_ok at h
    show SS _ [.fz ((eP2 K eI eI) value_1), .fz (eI ahead_2)] (FP eB (m_is_span value_1 ahead_2))
    obtain ⟨g1, h⟩ := h
    obtain ⟨hA, hB⟩ := h
    refine ss_ifLv (FP eB) (et_or (et_not (et_val (es_isi (b := true) (es_var 0 rfl) (.ty "tuple") ty_tup (kit_ty (by decide +kernel))))) (fun hc10 => (et_or (et_cmp (ES.to (r' := eI 2) (es_lenT (K := K) (es_var 0 rfl)) rfl) es_c q_neI) (fun hc11 => (et_not (et_val (es_call (value_1.1, ahead_2, 1000000000000000000000000000000 - 1) (as_cons (es_ixT (k := 0) (es_var 0 rfl) rfl) (as_cons (es_var 1 rfl) (as_cons (es_sub es_c es_c) as_nil))) (g1 hc10 hc11)))))))) (fun hc => ?_) (fun hc => ?_)
    · replace h := hA hc; clear hA hB
      refine ss_retq es_c ?_
      exact rfl
    · replace h := hB hc; clear hA hB
      refine ss_nxq ?_
      obtain ⟨g2, h⟩ := h
      refine ss_retq (es_call (value_1.2, value_1.1 + 1, 1000000000000000000000000000000) (as_cons (es_ixT (k := 1) (es_var 0 rfl) rfl) (as_cons (es_add (es_ixT (k := 0) (es_var 0 rfl) rfl) es_c) (as_cons es_c as_nil))) g2) ?_
      exact rfl
end
def m_require_spans_b1 (s_3 : Int) (x_4 : Int × (Int × Int)) : Int :=
let ahead_5 := x_4.2.2
ahead_5
def m_require_spans_o1 (s_3 : Int) (x_4 : Int × (Int × Int)) : Prop :=
(m_is_span_ok x_4.2 s_3) ∧ (!(m_is_span x_4.2 s_3)) = false ∧ ((∀ ahead_5, ahead_5 = x_4.2.2 → True))
def m_require_spans (spans_1 : List (Int × Int)) : Unit :=
let ahead_2 := 0
let f_6 := List.foldl (m_require_spans_b1) ahead_2 (enumI spans_1)
()
def m_require_spans_ok (spans_1 : List (Int × Int)) : Prop :=
((!true) || (decide (12 < (spans_1.length : Int)))) = false ∧ ((∀ ahead_2, ahead_2 = 0 → (okF (m_require_spans_o1) (m_require_spans_b1) ahead_2 (enumI spans_1)) ∧ (∀ f_6, f_6 = List.foldl (m_require_spans_b1) ahead_2 (enumI spans_1) → True)))
def sp_require_spans (K : PySem.W.Frag) (CT : Addr) : Sp := spF (ι := (List (Int × Int))) (fun d => [(eLs (eP2 K eI eI)) d]) (fun d => m_require_spans_ok d) (fun d => eN)
abbrev s_require_spans : Stmt := top 18
abbrev N_require_spans : List Str := ["spans", "ahead", "item", "span"]
theorem sc_require_spans : FnScope N_require_spans ["spans"] (defScope s_require_spans) := ⟨rfl, rfl, rfl, by decide +kernel, rfl, by decide +kernel, by decide +kernel⟩
section
variable {P : Program} {w : World} {K : PySem.W.Frag} {mg : Str → Option Value} {base : Heap} {CT : Addr}
theorem ok_require_spans {f : Addr} {fd : FuncData} (F : Fun K "require_spans" "require_spans" s_require_spans f fd) {a_is_span : Addr} {fd_is_span : FuncData} (F_is_span : Fun K "is_span" "is_span" s_is_span a_is_span fd_is_span) (G_is_span : FnG P w K mg base CX0 3 a_is_span fd_is_span ["value", "ahead"] (sp_is_span K CT)) (j_is_span : mg "is_span" = some (.ref a_is_span)) (b_is_span : Binds K fd_is_span ["value", "ahead"] []) (n_enumerate : mg "enumerate" = none) (n_isinstance : mg "isinstance" = none) (n_len : mg "len" = none) (n_list : mg "list" = none) (c_MOST_SPANS : ∃ t, mg "MOST_SPANS" = some (.int 12 t)) : FnG P w K mg base CX0 4 f fd ["spans"] (sp_require_spans K CT) := by
  obtain ⟨t_MOST_SPANS, c_MOST_SPANS⟩ := c_MOST_SPANS
  refine Fun.okG F sc_require_spans (fun vs H Q E h => ?_) (fun cdv A outer s H vs Q E hG hr h => ?_)
  · obtain ⟨d, F, _, _, h, _⟩ := h
    exact h.len
  · have nd := sc_require_spans.nd
    have hU := hr.units
    refine ⟨_, (pss_cons (ps_if (PW.pt (pw_or (pt_not (pt_val (pe_callB call_isi rfl n_isinstance (by decide +kernel) (pa_cons (pv 0) (pa_cons (pe_bltn (v := .ty "list") rfl n_list (by decide +kernel) rfl) pa_nil))))) (pw_or1 (pt_cmpR op_gt (pe_callB call_len_seq rfl n_len (by decide +kernel) (pa_cons (pv 0) pa_nil)) (pe_glob (v := .int 12) rfl c_MOST_SPANS ⟨_, rfl⟩) (nomark _))))) (pss_one ps_never) pss_nil)
 (pss_cons (ps_set (i := 1) nd rfl (by first | exact .inl rfl | exact .inr rfl) pe_int)
 (pss_cons (ps_for PassesOwn.never rfl (pi_enum rfl n_enumerate (pa_cons (pv 0) pa_nil)) (pg_tup rfl (pgs_cons (pg_name (i := 2) nd rfl (by first | exact .inl rfl | exact .inr rfl)) (pgs_cons (pg_name (i := 3) nd rfl (by first | exact .inl rfl | exact .inr rfl)) pgs_nil))) (pss_cons (ps_if (pt_not (pt_val (pg_call G_is_span hG (hr.mono (by decide)) rfl j_is_span F_is_span.kp b_is_span .nil pass0 (pa_cons (pv 3) (pa_cons (pv 1) pa_nil))))) (pss_one ps_never) pss_nil)
 (pss_cons (ps_set (i := 1) nd rfl (by first | exact .inl rfl | exact .inr rfl) (pe_ix ix_tup (pv 3) pe_int (fun _ _ => rfl)))
 pss_nil)))
 pss_nil))), ?_⟩
    refine def_F h (fun d => Nat.le_of_ble_eq_true rfl) (fun spans_1 h => ?_)
    replace h : m_require_spans_ok spans_1 := h
    unfold m_require_spans_ok at h
    show SS _ [.fz ((eLs (eP2 K eI eI)) spans_1), .no, .no, .no] (FP (fun _ : Unit => eN) (m_require_spans spans_1))
    obtain ⟨hn, h⟩ := h
    refine ss_ifL (et_or (et_not (et_val (es_isi (b := true) (es_var 0 rfl) (.ty "list") ty_lst (kit_ty (by decide +kernel))))) (fun hc10 => (et_cmp (es_lenLs (e := (eP2 K eI eI)) (es_var 0 rfl)) es_c q_gt))) (fun hc => absurd hc (by rw [hn]; exact Bool.false_ne_true)) (fun _ => ss_nxq ?_)
    refine ss_seq1 0 (fun ahead_2 => [.fz ((eLs (eP2 K eI eI)) spans_1), .fz (eI ahead_2), .no, .no]) (ss_set es_c Wk.refl) (fun ahead_2 e_ahead_2 => ?_)
    replace h := h ahead_2 e_ahead_2
    obtain ⟨g2, h⟩ := h
    refine ss_seq1 (List.foldl (m_require_spans_b1) ahead_2 (enumI spans_1)) (fun f_6 => [.fz ((eLs (eP2 K eI eI)) spans_1), .fz (eI f_6), .no, .no]) (sf_S (e := (eP2 K eI (eP2 K eI eI))) (l := (enumI spans_1)) (fun s_3 => [.fz ((eLs (eP2 K eI eI)) spans_1), .fz (eI s_3), .no, .no]) (m_require_spans_b1) (m_require_spans_o1) ahead_2 (is_enum (e := (eP2 K eI eI)) (es_var 0 rfl)) Wk.refl g2 (fun s_3 x_4 _ h => ⟨[.fz ((eLs (eP2 K eI eI)) spans_1), .fz (eI s_3), .fz (eI x_4.1), .fz ((eP2 K eI eI) x_4.2)], _, gs_tup (gs_cons (gs_name 2) (gs_cons (gs_name 3) gs_nil)), ?_⟩) (fun _ hw => hw)) (fun f_6 e_f_6 => ?_)
    · unfold m_require_spans_o1 at h
      obtain ⟨g1, h⟩ := h
      obtain ⟨hn, h⟩ := h
      refine ss_ifL (et_not (et_val (es_call (x_4.2, s_3) (as_cons (es_var 3 rfl) (as_cons (es_var 1 rfl) as_nil)) g1))) (fun hc => absurd hc (by rw [hn]; exact Bool.false_ne_true)) (fun _ => ss_nxq ?_)
      refine ss_seq1 x_4.2.2 (fun ahead_5 => [.fz ((eLs (eP2 K eI eI)) spans_1), .fz (eI ahead_5), .fz (eI x_4.1), .fz ((eP2 K eI eI) x_4.2)]) (ss_set (es_ixT (k := 1) (es_var 3 rfl) rfl) Wk.refl) (fun ahead_5 e_ahead_5 => ?_)
      replace h := h ahead_5 e_ahead_5
      subst e_ahead_5
      exact ss_nx ⟨.inr rfl, ⟨.inr rfl, ⟨.inl rfl, ⟨.inl rfl, trivial⟩⟩⟩⟩
    replace h := h f_6 e_f_6
    exact ss_nx rfl
end
def m_require_key (value_1 : Int) : Unit :=
()
def m_require_key_ok (value_1 : Int) : Prop :=
(m_is_whole_ok value_1 0 (1000000000000000000000000000000 - 1)) ∧ (!(m_is_whole value_1 0 (1000000000000000000000000000000 - 1))) = false ∧ (True)
def sp_require_key (K : PySem.W.Frag) (CT : Addr) : Sp := spF (ι := Int) (fun d => [eI d]) (fun d => m_require_key_ok d) (fun d => eN)
abbrev s_require_key : Stmt := top 19
abbrev N_require_key : List Str := ["value"]
theorem sc_require_key : FnScope N_require_key ["value"] (defScope s_require_key) := ⟨rfl, rfl, rfl, by decide +kernel, rfl, by decide +kernel, by decide +kernel⟩
section
variable {P : Program} {w : World} {K : PySem.W.Frag} {mg : Str → Option Value} {base : Heap} {CT : Addr}
theorem ok_require_key {f : Addr} {fd : FuncData} (F : Fun K "require_key" "require_key" s_require_key f fd) {a_is_whole : Addr} {fd_is_whole : FuncData} (F_is_whole : Fun K "is_whole" "is_whole" s_is_whole a_is_whole fd_is_whole) (G_is_whole : FnG P w K mg base CX0 2 a_is_whole fd_is_whole ["value", "low", "high"] (sp_is_whole K CT)) (j_is_whole : mg "is_whole" = some (.ref a_is_whole)) (b_is_whole : Binds K fd_is_whole ["value", "low", "high"] []) (c_MOST_KEY : ∃ t, mg "MOST_KEY" = some (.int 1000000000000000000000000000000 t)) : FnG P w K mg base CX0 3 f fd ["value"] (sp_require_key K CT) := by
  obtain ⟨t_MOST_KEY, c_MOST_KEY⟩ := c_MOST_KEY
  refine Fun.okG F sc_require_key (fun vs H Q E h => ?_) (fun cdv A outer s H vs Q E hG hr h => ?_)
  · obtain ⟨d, F, _, _, h, _⟩ := h
    exact h.len
  · have nd := sc_require_key.nd
    have hU := hr.units
    refine ⟨_, (pss_cons (ps_if (pt_not (pt_val (pg_call G_is_whole hG (hr.mono (by decide)) rfl j_is_whole F_is_whole.kp b_is_whole .nil pass0 (pa_cons (pv 0) (pa_cons pe_int (pa_cons (pe_op op_sub (pe_glob (v := .int 1000000000000000000000000000000) rfl c_MOST_KEY ⟨_, rfl⟩) pe_int) pa_nil)))))) (pss_one ps_never) pss_nil)
 pss_nil), ?_⟩
    refine def_F h (fun d => Nat.le_of_ble_eq_true rfl) (fun value_1 h => ?_)
    replace h : m_require_key_ok value_1 := h
    unfold m_require_key_ok at h
    show SS _ [.fz (eI value_1)] (FP (fun _ : Unit => eN) (m_require_key value_1))
    obtain ⟨g1, h⟩ := h
    obtain ⟨hn, h⟩ := h
    refine ss_ifL (et_not (et_val (es_call (value_1, 0, 1000000000000000000000000000000 - 1) (as_cons (es_var 0 rfl) (as_cons es_c (as_cons (es_sub es_c es_c) as_nil))) g1))) (fun hc => absurd hc (by rw [hn]; exact Bool.false_ne_true)) (fun _ => ss_nxq ?_)
    exact ss_nx rfl
end
def m_require_depth (value_1 : Int) : Unit :=
()
def m_require_depth_ok (value_1 : Int) : Prop :=
(m_is_whole_ok value_1 0 100) ∧ (!(m_is_whole value_1 0 100)) = false ∧ (True)
def sp_require_depth (K : PySem.W.Frag) (CT : Addr) : Sp := spF (ι := Int) (fun d => [eI d]) (fun d => m_require_depth_ok d) (fun d => eN)
abbrev s_require_depth : Stmt := top 20
abbrev N_require_depth : List Str := ["value"]
theorem sc_require_depth : FnScope N_require_depth ["value"] (defScope s_require_depth) := ⟨rfl, rfl, rfl, by decide +kernel, rfl, by decide +kernel, by decide +kernel⟩
section
variable {P : Program} {w : World} {K : PySem.W.Frag} {mg : Str → Option Value} {base : Heap} {CT : Addr}
theorem ok_require_depth {f : Addr} {fd : FuncData} (F : Fun K "require_depth" "require_depth" s_require_depth f fd) {a_is_whole : Addr} {fd_is_whole : FuncData} (F_is_whole : Fun K "is_whole" "is_whole" s_is_whole a_is_whole fd_is_whole) (G_is_whole : FnG P w K mg base CX0 2 a_is_whole fd_is_whole ["value", "low", "high"] (sp_is_whole K CT)) (j_is_whole : mg "is_whole" = some (.ref a_is_whole)) (b_is_whole : Binds K fd_is_whole ["value", "low", "high"] []) (c_MOST_DEPTH : ∃ t, mg "MOST_DEPTH" = some (.int 100 t)) : FnG P w K mg base CX0 3 f fd ["value"] (sp_require_depth K CT) := by
  obtain ⟨t_MOST_DEPTH, c_MOST_DEPTH⟩ := c_MOST_DEPTH
  refine Fun.okG F sc_require_depth (fun vs H Q E h => ?_) (fun cdv A outer s H vs Q E hG hr h => ?_)
  · obtain ⟨d, F, _, _, h, _⟩ := h
    exact h.len
  · have nd := sc_require_depth.nd
    have hU := hr.units
    refine ⟨_, (pss_cons (ps_if (pt_not (pt_val (pg_call G_is_whole hG (hr.mono (by decide)) rfl j_is_whole F_is_whole.kp b_is_whole .nil pass0 (pa_cons (pv 0) (pa_cons pe_int (pa_cons (pe_glob (v := .int 100) rfl c_MOST_DEPTH ⟨_, rfl⟩) pa_nil)))))) (pss_one ps_never) pss_nil)
 pss_nil), ?_⟩
    refine def_F h (fun d => Nat.le_of_ble_eq_true rfl) (fun value_1 h => ?_)
    replace h : m_require_depth_ok value_1 := h
    unfold m_require_depth_ok at h
    show SS _ [.fz (eI value_1)] (FP (fun _ : Unit => eN) (m_require_depth value_1))
    obtain ⟨g1, h⟩ := h
    obtain ⟨hn, h⟩ := h
    refine ss_ifL (et_not (et_val (es_call (value_1, 0, 100) (as_cons (es_var 0 rfl) (as_cons es_c (as_cons es_c as_nil))) g1))) (fun hc => absurd hc (by rw [hn]; exact Bool.false_ne_true)) (fun _ => ss_nxq ?_)
    exact ss_nx rfl
end
def m_require_tail (depth_1 : Int) (value_2 : Int) : Unit :=
()
def m_require_tail_ok (depth_1 : Int) (value_2 : Int) : Prop :=
(0 ≤ depth_1 ∧ depth_1 ≤ 1000000) ∧ (m_is_whole_ok value_2 0 ((1 * 2 ^ depth_1.toNat) - 1)) ∧ (!(m_is_whole value_2 0 ((1 * 2 ^ depth_1.toNat) - 1))) = false ∧ (True)
def sp_require_tail (K : PySem.W.Frag) (CT : Addr) : Sp := spF (ι := Int × Int) (fun d => [eI d.1, eI d.2]) (fun d => m_require_tail_ok d.1 d.2) (fun d => eN)
abbrev s_require_tail : Stmt := top 21
abbrev N_require_tail : List Str := ["depth", "value"]
theorem sc_require_tail : FnScope N_require_tail ["depth", "value"] (defScope s_require_tail) := ⟨rfl, rfl, rfl, by decide +kernel, rfl, by decide +kernel, by decide +kernel⟩
section
variable {P : Program} {w : World} {K : PySem.W.Frag} {mg : Str → Option Value} {base : Heap} {CT : Addr}
theorem ok_require_tail {f : Addr} {fd : FuncData} (F : Fun K "require_tail" "require_tail" s_require_tail f fd) {a_is_whole : Addr} {fd_is_whole : FuncData} (F_is_whole : Fun K "is_whole" "is_whole" s_is_whole a_is_whole fd_is_whole) (G_is_whole : FnG P w K mg base CX0 2 a_is_whole fd_is_whole ["value", "low", "high"] (sp_is_whole K CT)) (j_is_whole : mg "is_whole" = some (.ref a_is_whole)) (b_is_whole : Binds K fd_is_whole ["value", "low", "high"] []) : FnG P w K mg base CX0 3 f fd ["depth", "value"] (sp_require_tail K CT) := by
  refine Fun.okG F sc_require_tail (fun vs H Q E h => ?_) (fun cdv A outer s H vs Q E hG hr h => ?_)
  · obtain ⟨d, F, _, _, h, _⟩ := h
    exact h.len
  · have nd := sc_require_tail.nd
    have hU := hr.units
    refine ⟨_, (pss_cons (ps_if (pt_not (pt_val (pg_call G_is_whole hG (hr.mono (by decide)) rfl j_is_whole F_is_whole.kp b_is_whole .nil pass0 (pa_cons (pv 1) (pa_cons pe_int (pa_cons (pe_op op_sub (pe_op op_shl pe_int (pv 0)) pe_int) pa_nil)))))) (pss_one ps_never) pss_nil)
 pss_nil), ?_⟩
    refine def_F h (fun d => Nat.le_of_ble_eq_true rfl) (fun d h => ?_)
    obtain ⟨depth_1, value_2⟩ := d
    replace h : m_require_tail_ok depth_1 value_2 := h
    unfold m_require_tail_ok at h
    show SS _ [.fz (eI depth_1), .fz (eI value_2)] (FP (fun _ : Unit => eN) (m_require_tail depth_1 value_2))
    obtain ⟨g1, g2, h⟩ := h
    obtain ⟨hn, h⟩ := h
    refine ss_ifL (et_not (et_val (es_call (value_2, 0, (1 * 2 ^ depth_1.toNat) - 1) (as_cons (es_var 1 rfl) (as_cons es_c (as_cons (es_sub (es_shlL es_c (es_var 0 rfl) g1 (by decide)) es_c) as_nil))) g2))) (fun hc => absurd hc (by rw [hn]; exact Bool.false_ne_true)) (fun _ => ss_nxq ?_)
    exact ss_nx rfl
end
def m_require_number (value_1 : Int) : Unit :=
()
def m_require_number_ok (value_1 : Int) : Prop :=
(m_is_int_ok value_1) ∧ ((!(m_is_int value_1)) || (decide (value_1 < 0))) = false ∧ (True)
def sp_require_number (K : PySem.W.Frag) (CT : Addr) : Sp := spF (ι := Int) (fun d => [eI d]) (fun d => m_require_number_ok d) (fun d => eN)
abbrev s_require_number : Stmt := top 22
abbrev N_require_number : List Str := ["value"]
theorem sc_require_number : FnScope N_require_number ["value"] (defScope s_require_number) := ⟨rfl, rfl, rfl, by decide +kernel, rfl, by decide +kernel, by decide +kernel⟩
section
variable {P : Program} {w : World} {K : PySem.W.Frag} {mg : Str → Option Value} {base : Heap} {CT : Addr}
theorem ok_require_number {f : Addr} {fd : FuncData} (F : Fun K "require_number" "require_number" s_require_number f fd) {a_is_int : Addr} {fd_is_int : FuncData} (F_is_int : Fun K "is_int" "is_int" s_is_int a_is_int fd_is_int) (G_is_int : FnG P w K mg base CX0 1 a_is_int fd_is_int ["value"] (sp_is_int K CT)) (j_is_int : mg "is_int" = some (.ref a_is_int)) (b_is_int : Binds K fd_is_int ["value"] []) : FnG P w K mg base CX0 2 f fd ["value"] (sp_require_number K CT) := by
  refine Fun.okG F sc_require_number (fun vs H Q E h => ?_) (fun cdv A outer s H vs Q E hG hr h => ?_)
  · obtain ⟨d, F, _, _, h, _⟩ := h
    exact h.len
  · have nd := sc_require_number.nd
    have hU := hr.units
    refine ⟨_, (pss_cons (ps_if (PW.pt (pw_or (pt_not (pt_val (pg_call G_is_int hG (hr.mono (by decide)) rfl j_is_int F_is_int.kp b_is_int .nil pass0 (pa_cons (pv 0) pa_nil)))) (pw_or1 (pt_cmpR op_lt (pv 0) pe_int (nomark _))))) (pss_one ps_never) pss_nil)
 pss_nil), ?_⟩
    refine def_F h (fun d => Nat.le_of_ble_eq_true rfl) (fun value_1 h => ?_)
    replace h : m_require_number_ok value_1 := h
    unfold m_require_number_ok at h
    show SS _ [.fz (eI value_1)] (FP (fun _ : Unit => eN) (m_require_number value_1))
    obtain ⟨g1, h⟩ := h
    obtain ⟨hn, h⟩ := h
    refine ss_ifL (et_or (et_not (et_val (es_call value_1 (as_cons (es_var 0 rfl) as_nil) g1))) (fun hc10 => (et_cmp (es_var 0 rfl) es_c q_lt))) (fun hc => absurd hc (by rw [hn]; exact Bool.false_ne_true)) (fun _ => ss_nxq ?_)
    exact ss_nx rfl
end
def m_Table___init__ (capacity_2 : Int) (rate_3 : Int) (shift_4 : Int) : Unit :=
()
def m_Table___init___ok (capacity_2 : Int) (rate_3 : Int) (shift_4 : Int) : Prop :=
(m_is_whole_ok capacity_2 1 1000000000000000000000000000000) ∧ (!(m_is_whole capacity_2 1 1000000000000000000000000000000)) = false ∧ ((m_is_whole_ok rate_3 1 1000000000000000000000000000000) ∧ ((!(m_is_whole rate_3 1 1000000000000000000000000000000)) || (decide ((Builtin.bitAnd rate_3 1) = 0))) = false ∧ ((m_is_whole_ok shift_4 0 1000000000000000000000000000000) ∧ (!(m_is_whole shift_4 0 1000000000000000000000000000000)) = false ∧ ((((True))))))
def sp_Table___init__ (K : PySem.W.Frag) (CT : Addr) : Sp := spI (ι := Int × Int × Int) CT (fun d => [eI d.1, eI d.2.1, eI d.2.2]) (fun d => m_Table___init___ok d.1 d.2.1 d.2.2) (fun d => [("own_capacity", eI d.1), ("own_rate", eI d.2.1), ("own_shift", eI d.2.2)])
abbrev s_Table___init__ : Stmt := inClass (top 24) 0
abbrev N_Table___init__ : List Str := ["self", "capacity", "rate", "shift"]
theorem sc_Table___init__ : FnScope N_Table___init__ ["self", "capacity", "rate", "shift"] (defScope s_Table___init__) := ⟨rfl, rfl, rfl, by decide +kernel, rfl, by decide +kernel, by decide +kernel⟩
section
variable {P : Program} {w : World} {K : PySem.W.Frag} {mg : Str → Option Value} {base : Heap} {CT : Addr}
theorem ok_Table___init__ {f : Addr} {fd : FuncData} (F : Fun K "__init__" "Table.__init__" s_Table___init__ f fd) {a_is_whole : Addr} {fd_is_whole : FuncData} (F_is_whole : Fun K "is_whole" "is_whole" s_is_whole a_is_whole fd_is_whole) (G_is_whole : FnG P w K mg base CX0 2 a_is_whole fd_is_whole ["value", "low", "high"] (sp_is_whole K CT)) (j_is_whole : mg "is_whole" = some (.ref a_is_whole)) (b_is_whole : Binds K fd_is_whole ["value", "low", "high"] []) (c_MOST_KEY : ∃ t, mg "MOST_KEY" = some (.int 1000000000000000000000000000000 t)) (TT : TblTxt K mg CT) : FnG P w K mg base CX0 3 f fd ["self", "capacity", "rate", "shift"] (sp_Table___init__ K CT) := by
  obtain ⟨t_MOST_KEY, c_MOST_KEY⟩ := c_MOST_KEY
  obtain ⟨clT, na_own_capacity, na_own_rate, na_own_shift, mgT, isT, xaT, xbT, xcT, xdT⟩ := TT
  refine Fun.okG F sc_Table___init__ (fun vs H Q E h => ?_) (fun cdv A outer s H vs Q E hG hr h => ?_)
  · obtain ⟨d, F, p, dx, ws, rfl, _, _, _, _, h, _⟩ := h
    exact congrArg (· + 1) h.len
  · have nd := sc_Table___init__.nd
    have hU := hr.units
    refine ⟨_, (pss_cons (ps_if (pt_not (pt_val (pg_call G_is_whole hG (hr.mono (by decide)) rfl j_is_whole F_is_whole.kp b_is_whole .nil pass0 (pa_cons (pv 1) (pa_cons pe_int (pa_cons (pe_glob (v := .int 1000000000000000000000000000000) rfl c_MOST_KEY ⟨_, rfl⟩) pa_nil)))))) (pss_one ps_never) pss_nil)
 (pss_cons (ps_if (PW.pt (pw_or (pt_not (pt_val (pg_call G_is_whole hG (hr.mono (by decide)) rfl j_is_whole F_is_whole.kp b_is_whole .nil pass0 (pa_cons (pv 2) (pa_cons pe_int (pa_cons (pe_glob (v := .int 1000000000000000000000000000000) rfl c_MOST_KEY ⟨_, rfl⟩) pa_nil)))))) (pw_or1 (pt_cmpR op_eq (pe_op op_and (pv 2) pe_int) pe_int (nomark _))))) (pss_one ps_never) pss_nil)
 (pss_cons (ps_if (pt_not (pt_val (pg_call G_is_whole hG (hr.mono (by decide)) rfl j_is_whole F_is_whole.kp b_is_whole .nil pass0 (pa_cons (pv 3) (pa_cons pe_int (pa_cons (pe_glob (v := .int 1000000000000000000000000000000) rfl c_MOST_KEY ⟨_, rfl⟩) pa_nil)))))) (pss_one ps_never) pss_nil)
 (pss_cons (ps_fld (pv 0) (pv 1) rfl)
 (pss_cons (ps_fld (pv 0) (pv 2) rfl)
 (pss_cons (ps_fld (pv 0) (pv 3) rfl)
 pss_nil)))))), ?_⟩
    refine def_I h (fun d => Nat.le_of_ble_eq_true rfl) (fun d p h => ?_)
    obtain ⟨capacity_2, rate_3, shift_4⟩ := d
    replace h : m_Table___init___ok capacity_2 rate_3 shift_4 := h
    unfold m_Table___init___ok at h
    show SS _ [.ow (oI (some p) CT []), .fz (eI capacity_2), .fz (eI rate_3), .fz (eI shift_4)] ⟨fun W' => W'[0]? = some (.ow (oI (some p) CT [("own_capacity", eI capacity_2), ("own_rate", eI rate_3), ("own_shift", eI shift_4)])), fun _ _ => False, fun _ => False, fun _ => False⟩
    obtain ⟨g1, h⟩ := h
    obtain ⟨hn, h⟩ := h
    refine ss_ifL (et_not (et_val (es_call (capacity_2, 1, 1000000000000000000000000000000) (as_cons (es_var 1 rfl) (as_cons es_c (as_cons es_c as_nil))) g1))) (fun hc => absurd hc (by rw [hn]; exact Bool.false_ne_true)) (fun _ => ss_nxq ?_)
    obtain ⟨g2, h⟩ := h
    obtain ⟨hn, h⟩ := h
    refine ss_ifL (et_or (et_not (et_val (es_call (rate_3, 1, 1000000000000000000000000000000) (as_cons (es_var 2 rfl) (as_cons es_c (as_cons es_c as_nil))) g2))) (fun hc10 => (et_cmp (es_and (es_var 2 rfl) es_c) es_c q_eqI))) (fun hc => absurd hc (by rw [hn]; exact Bool.false_ne_true)) (fun _ => ss_nxq ?_)
    obtain ⟨g3, h⟩ := h
    obtain ⟨hn, h⟩ := h
    refine ss_ifL (et_not (et_val (es_call (shift_4, 0, 1000000000000000000000000000000) (as_cons (es_var 3 rfl) (as_cons es_c (as_cons es_c as_nil))) g3))) (fun hc => absurd hc (by rw [hn]; exact Bool.false_ne_true)) (fun _ => ss_nxq ?_)
    refine ss_seqTo [.ow (oI (some p) CT [("own_capacity", eI capacity_2)]), .fz (eI capacity_2), .fz (eI rate_3), .fz (eI shift_4)] (ss_fldN clT na_own_capacity (es_var 1 rfl) rfl (Nat.le_of_ble_eq_true rfl) (by simp only [List.map_cons, List.map_nil]; decide +kernel) Wk.refl) ?_
    refine ss_seqTo [.ow (oI (some p) CT [("own_capacity", eI capacity_2), ("own_rate", eI rate_3)]), .fz (eI capacity_2), .fz (eI rate_3), .fz (eI shift_4)] (ss_fldN clT na_own_rate (es_var 2 rfl) rfl (Nat.le_of_ble_eq_true rfl) (by simp only [List.map_cons, List.map_nil]; decide +kernel) Wk.refl) ?_
    refine ss_seqTo [.ow (oI (some p) CT [("own_capacity", eI capacity_2), ("own_rate", eI rate_3), ("own_shift", eI shift_4)]), .fz (eI capacity_2), .fz (eI rate_3), .fz (eI shift_4)] (ss_fldN clT na_own_shift (es_var 3 rfl) rfl (Nat.le_of_ble_eq_true rfl) (by simp only [List.map_cons, List.map_nil]; decide +kernel) Wk.refl) ?_
    exact ss_nx rfl
end
def m_numbers_of (table_1 : Tbl) : Int × Int × Int :=
(table_1.capacity, table_1.rate, table_1.shift)
def m_numbers_of_ok (table_1 : Tbl) : Prop :=
True
def sp_numbers_of (K : PySem.W.Frag) (CT : Addr) : Sp := spF (ι := Tbl) (fun d => [(eTbl CT) d]) (fun d => m_numbers_of_ok d) (fun d => (eP3 K eI eI eI) (m_numbers_of d))
abbrev s_numbers_of : Stmt := top 25
abbrev N_numbers_of : List Str := ["table"]
theorem sc_numbers_of : FnScope N_numbers_of ["table"] (defScope s_numbers_of) := ⟨rfl, rfl, rfl, by decide +kernel, rfl, by decide +kernel, by decide +kernel⟩
section
variable {P : Program} {w : World} {K : PySem.W.Frag} {mg : Str → Option Value} {base : Heap} {CT : Addr}
theorem ok_numbers_of {f : Addr} {fd : FuncData} (F : Fun K "numbers_of" "numbers_of" s_numbers_of f fd) (TT : TblTxt K mg CT) : FnG P w K mg base CX0 1 f fd ["table"] (sp_numbers_of K CT) := by
  obtain ⟨clT, na_own_capacity, na_own_rate, na_own_shift, mgT, isT, xaT, xbT, xcT, xdT⟩ := TT
  refine Fun.okG F sc_numbers_of (fun vs H Q E h => ?_) (fun cdv A outer s H vs Q E hG hr h => ?_)
  · obtain ⟨d, F, _, _, h, _⟩ := h
    exact h.len
  · have nd := sc_numbers_of.nd
    have hU := hr.units
    refine ⟨_, (pss_cons (ps_ret (pe_tup (pa_cons (pe_fld (pv 0) rfl) (pa_cons (pe_fld (pv 0) rfl) (pa_cons (pe_fld (pv 0) rfl) pa_nil)))))
 pss_nil), ?_⟩
    refine def_F h (fun d => Nat.le_of_ble_eq_true rfl) (fun table_1 h => ?_)
    replace h : m_numbers_of_ok table_1 := h
    unfold m_numbers_of_ok at h
    show SS _ [.fz ((eTbl CT) table_1)] (FP (eP3 K eI eI eI) (m_numbers_of table_1))
    refine ss_retq (es_tup (K := K) (as_cons (es_fld clT na_own_capacity (es_var 0 rfl) rfl) (as_cons (es_fld clT na_own_rate (es_var 0 rfl) rfl) (as_cons (es_fld clT na_own_shift (es_var 0 rfl) rfl) as_nil)))) ?_
    exact rfl
end
def m_tail_of (table_1 : Tbl) (key_2 : Int) (depth_3 : Int) : Int :=
Builtin.bitAnd ((table_1.rate * key_2) + table_1.shift) ((1 * 2 ^ depth_3.toNat) - 1)
def m_tail_of_ok (table_1 : Tbl) (key_2 : Int) (depth_3 : Int) : Prop :=
(CMulW table_1.rate key_2) ∧ (0 ≤ depth_3 ∧ depth_3 ≤ 1000000) ∧ True
def sp_tail_of (K : PySem.W.Frag) (CT : Addr) : Sp := spF (ι := Tbl × Int × Int) (fun d => [(eTbl CT) d.1, eI d.2.1, eI d.2.2]) (fun d => m_tail_of_ok d.1 d.2.1 d.2.2) (fun d => eI (m_tail_of d.1 d.2.1 d.2.2))
abbrev s_tail_of : Stmt := top 26
abbrev N_tail_of : List Str := ["table", "key", "depth"]
theorem sc_tail_of : FnScope N_tail_of ["table", "key", "depth"] (defScope s_tail_of) := ⟨rfl, rfl, rfl, by decide +kernel, rfl, by decide +kernel, by decide +kernel⟩
section
variable {P : Program} {w : World} {K : PySem.W.Frag} {mg : Str → Option Value} {base : Heap} {CT : Addr}
theorem ok_tail_of {f : Addr} {fd : FuncData} (F : Fun K "tail_of" "tail_of" s_tail_of f fd) (TT : TblTxt K mg CT) : FnG P w K mg base CX0 1 f fd ["table", "key", "depth"] (sp_tail_of K CT) := by
  obtain ⟨clT, na_own_capacity, na_own_rate, na_own_shift, mgT, isT, xaT, xbT, xcT, xdT⟩ := TT
  refine Fun.okG F sc_tail_of (fun vs H Q E h => ?_) (fun cdv A outer s H vs Q E hG hr h => ?_)
  · obtain ⟨d, F, _, _, h, _⟩ := h
    exact h.len
  · have nd := sc_tail_of.nd
    have hU := hr.units
    refine ⟨_, (pss_cons (ps_ret (pe_op op_and (pe_op op_add (pe_op op_mulW (pe_fld (pv 0) rfl) (pv 1)) (pe_fld (pv 0) rfl)) (pe_op op_sub (pe_op op_shl pe_int (pv 2)) pe_int)))
 pss_nil), ?_⟩
    refine def_F h (fun d => Nat.le_of_ble_eq_true rfl) (fun d h => ?_)
    obtain ⟨table_1, key_2, depth_3⟩ := d
    replace h : m_tail_of_ok table_1 key_2 depth_3 := h
    unfold m_tail_of_ok at h
    show SS _ [.fz ((eTbl CT) table_1), .fz (eI key_2), .fz (eI depth_3)] (FP eI (m_tail_of table_1 key_2 depth_3))
    obtain ⟨g1, g2, h⟩ := h
    refine ss_retq (es_and (es_add (es_mulW (es_fld clT na_own_rate (es_var 0 rfl) rfl) (es_var 1 rfl) g1) (es_fld clT na_own_shift (es_var 0 rfl) rfl)) (es_sub (es_shlL es_c (es_var 2 rfl) g2 (by decide)) es_c)) ?_
    exact rfl
end
def m_Table_tail (self_1 : Tbl) (key_2 : Int) (depth_3 : Int) : Int :=
m_tail_of self_1 key_2 depth_3
def m_Table_tail_ok (self_1 : Tbl) (key_2 : Int) (depth_3 : Int) : Prop :=
(m_require_key_ok key_2) ∧ ((m_require_depth_ok depth_3) ∧ ((m_tail_of_ok self_1 key_2 depth_3) ∧ True))
def sp_Table_tail (K : PySem.W.Frag) (CT : Addr) : Sp := spF (ι := Tbl × Int × Int) (fun d => [(eTbl CT) d.1, eI d.2.1, eI d.2.2]) (fun d => m_Table_tail_ok d.1 d.2.1 d.2.2) (fun d => eI (m_Table_tail d.1 d.2.1 d.2.2))
abbrev s_Table_tail : Stmt := inClass (top 24) 5
abbrev N_Table_tail : List Str := ["self", "key", "depth"]
theorem sc_Table_tail : FnScope N_Table_tail ["self", "key", "depth"] (defScope s_Table_tail) := ⟨rfl, rfl, rfl, by decide +kernel, rfl, by decide +kernel, by decide +kernel⟩
section
variable {P : Program} {w : World} {K : PySem.W.Frag} {mg : Str → Option Value} {base : Heap} {CT : Addr}
theorem ok_Table_tail {f : Addr} {fd : FuncData} (F : Fun K "tail" "Table.tail" s_Table_tail f fd) {a_require_key : Addr} {fd_require_key : FuncData} (F_require_key : Fun K "require_key" "require_key" s_require_key a_require_key fd_require_key) (G_require_key : FnG P w K mg base CX0 3 a_require_key fd_require_key ["value"] (sp_require_key K CT)) (j_require_key : mg "require_key" = some (.ref a_require_key)) (b_require_key : Binds K fd_require_key ["value"] []) {a_require_depth : Addr} {fd_require_depth : FuncData} (F_require_depth : Fun K "require_depth" "require_depth" s_require_depth a_require_depth fd_require_depth) (G_require_depth : FnG P w K mg base CX0 3 a_require_depth fd_require_depth ["value"] (sp_require_depth K CT)) (j_require_depth : mg "require_depth" = some (.ref a_require_depth)) (b_require_depth : Binds K fd_require_depth ["value"] []) {a_tail_of : Addr} {fd_tail_of : FuncData} (F_tail_of : Fun K "tail_of" "tail_of" s_tail_of a_tail_of fd_tail_of) (G_tail_of : FnG P w K mg base CX0 1 a_tail_of fd_tail_of ["table", "key", "depth"] (sp_tail_of K CT)) (j_tail_of : mg "tail_of" = some (.ref a_tail_of)) (b_tail_of : Binds K fd_tail_of ["table", "key", "depth"] []) : FnG P w K mg base CX0 4 f fd ["self", "key", "depth"] (sp_Table_tail K CT) := by
  refine Fun.okG F sc_Table_tail (fun vs H Q E h => ?_) (fun cdv A outer s H vs Q E hG hr h => ?_)
  · obtain ⟨d, F, _, _, h, _⟩ := h
    exact h.len
  · have nd := sc_Table_tail.nd
    have hU := hr.units
    refine ⟨_, (pss_cons (ps_expr (pg_call G_require_key hG (hr.mono (by decide)) rfl j_require_key F_require_key.kp b_require_key .nil pass0 (pa_cons (pv 1) pa_nil)))
 (pss_cons (ps_expr (pg_call G_require_depth hG (hr.mono (by decide)) rfl j_require_depth F_require_depth.kp b_require_depth .nil pass0 (pa_cons (pv 2) pa_nil)))
 (pss_cons (ps_ret (pg_call G_tail_of hG (hr.mono (by decide)) rfl j_tail_of F_tail_of.kp b_tail_of .nil pass0 (pa_cons (pv 0) (pa_cons (pv 1) (pa_cons (pv 2) pa_nil)))))
 pss_nil))), ?_⟩
    refine def_F h (fun d => Nat.le_of_ble_eq_true rfl) (fun d h => ?_)
    obtain ⟨self_1, key_2, depth_3⟩ := d
    replace h : m_Table_tail_ok self_1 key_2 depth_3 := h
    unfold m_Table_tail_ok at h
    show SS _ [.fz ((eTbl CT) self_1), .fz (eI key_2), .fz (eI depth_3)] (FP eI (m_Table_tail self_1 key_2 depth_3))
    obtain ⟨g1, h⟩ := h
    refine ss_seqTo [.fz ((eTbl CT) self_1), .fz (eI key_2), .fz (eI depth_3)] (ss_drop (es_call key_2 (as_cons (es_var 1 rfl) as_nil) g1) Wk.refl) ?_
    obtain ⟨g2, h⟩ := h
    refine ss_seqTo [.fz ((eTbl CT) self_1), .fz (eI key_2), .fz (eI depth_3)] (ss_drop (es_call depth_3 (as_cons (es_var 2 rfl) as_nil) g2) Wk.refl) ?_
    obtain ⟨g3, h⟩ := h
    refine ss_retq (es_call (self_1, key_2, depth_3) (as_cons (es_var 0 rfl) (as_cons (es_var 1 rfl) (as_cons (es_var 2 rfl) as_nil))) g3) ?_
    exact rfl
end
def m_require_table (value_1 : Tbl) : Unit :=
()
def m_require_table_ok (value_1 : Tbl) : Prop :=
(!true) = false ∧ (True)
def sp_require_table (K : PySem.W.Frag) (CT : Addr) : Sp := spF (ι := Tbl) (fun d => [(eTbl CT) d]) (fun d => m_require_table_ok d) (fun d => eN)
abbrev s_require_table : Stmt := top 27
abbrev N_require_table : List Str := ["value"]
theorem sc_require_table : FnScope N_require_table ["value"] (defScope s_require_table) := ⟨rfl, rfl, rfl, by decide +kernel, rfl, by decide +kernel, by decide +kernel⟩
section
variable {P : Program} {w : World} {K : PySem.W.Frag} {mg : Str → Option Value} {base : Heap} {CT : Addr}
theorem ok_require_table {f : Addr} {fd : FuncData} (F : Fun K "require_table" "require_table" s_require_table f fd) (n_isinstance : mg "isinstance" = none) (TT : TblTxt K mg CT) : FnG P w K mg base CX0 1 f fd ["value"] (sp_require_table K CT) := by
  obtain ⟨clT, na_own_capacity, na_own_rate, na_own_shift, mgT, isT, xaT, xbT, xcT, xdT⟩ := TT
  refine Fun.okG F sc_require_table (fun vs H Q E h => ?_) (fun cdv A outer s H vs Q E hG hr h => ?_)
  · obtain ⟨d, F, _, _, h, _⟩ := h
    exact h.len
  · have nd := sc_require_table.nd
    have hU := hr.units
    refine ⟨_, (pss_cons (ps_if (pt_not (pt_val (pe_callB call_isi rfl n_isinstance (by decide +kernel) (pa_cons (pv 0) (pa_cons (pe_glob (v := .ref CT) rfl mgT rfl) pa_nil))))) (pss_one ps_never) pss_nil)
 pss_nil), ?_⟩
    refine def_F h (fun d => Nat.le_of_ble_eq_true rfl) (fun value_1 h => ?_)
    replace h : m_require_table_ok value_1 := h
    unfold m_require_table_ok at h
    show SS _ [.fz ((eTbl CT) value_1)] (FP (fun _ : Unit => eN) (m_require_table value_1))
    obtain ⟨hn, h⟩ := h
    refine ss_ifL (et_not (et_val (es_isi (b := true) (es_var 0 rfl) (.own CT) (ty_ins clT xaT xbT xcT xdT) isT))) (fun hc => absurd hc (by rw [hn]; exact Bool.false_ne_true)) (fun _ => ss_nxq ?_)
    exact ss_nx rfl
end
def m_residue_of_b1 (table_1 : Tbl) (most_4 : Int) (s_6 : Int) (x_7 : Int) : Int :=
let found_8 := Builtin.bitAnd (s_6 * (2 - (table_1.rate * s_6))) most_4
found_8
def m_residue_of_o1 (table_1 : Tbl) (most_4 : Int) (s_6 : Int) (x_7 : Int) : Prop :=
(CMulW table_1.rate s_6) ∧ (CMulW s_6 (2 - (table_1.rate * s_6))) ∧ (∀ found_8, found_8 = (Builtin.bitAnd (s_6 * (2 - (table_1.rate * s_6))) most_4) → True)
def m_residue_of (table_1 : Tbl) (depth_2 : Int) (tail_3 : Int) : Int :=
let most_4 := (1 * 2 ^ depth_2.toNat) - 1
let found_5 := 1
let f_9 := List.foldl (m_residue_of_b1 table_1 most_4) found_5 (rng 0 7)
Builtin.bitAnd (f_9 * (tail_3 - table_1.shift)) most_4
def m_residue_of_ok (table_1 : Tbl) (depth_2 : Int) (tail_3 : Int) : Prop :=
(0 ≤ depth_2 ∧ depth_2 ≤ 1000000) ∧ (∀ most_4, most_4 = ((1 * 2 ^ depth_2.toNat) - 1) → ∀ found_5, found_5 = 1 → (okF (m_residue_of_o1 table_1 most_4) (m_residue_of_b1 table_1 most_4) found_5 (rng 0 7)) ∧ (∀ f_9, f_9 = List.foldl (m_residue_of_b1 table_1 most_4) found_5 (rng 0 7) → (CMulW f_9 (tail_3 - table_1.shift)) ∧ True))
def sp_residue_of (K : PySem.W.Frag) (CT : Addr) : Sp := spF (ι := Tbl × Int × Int) (fun d => [(eTbl CT) d.1, eI d.2.1, eI d.2.2]) (fun d => m_residue_of_ok d.1 d.2.1 d.2.2) (fun d => eI (m_residue_of d.1 d.2.1 d.2.2))
abbrev s_residue_of : Stmt := top 28
abbrev N_residue_of : List Str := ["table", "depth", "tail", "most", "found", "turn"]
theorem sc_residue_of : FnScope N_residue_of ["table", "depth", "tail"] (defScope s_residue_of) := ⟨rfl, rfl, rfl, by decide +kernel, rfl, by decide +kernel, by decide +kernel⟩
section
variable {P : Program} {w : World} {K : PySem.W.Frag} {mg : Str → Option Value} {base : Heap} {CT : Addr}
theorem ok_residue_of {f : Addr} {fd : FuncData} (F : Fun K "residue_of" "residue_of" s_residue_of f fd) (n_range : mg "range" = none) (TT : TblTxt K mg CT) : FnG P w K mg base CX0 1 f fd ["table", "depth", "tail"] (sp_residue_of K CT) := by
  obtain ⟨clT, na_own_capacity, na_own_rate, na_own_shift, mgT, isT, xaT, xbT, xcT, xdT⟩ := TT
  refine Fun.okG F sc_residue_of (fun vs H Q E h => ?_) (fun cdv A outer s H vs Q E hG hr h => ?_)
  · obtain ⟨d, F, _, _, h, _⟩ := h
    exact h.len
  · have nd := sc_residue_of.nd
    have hU := hr.units
    refine ⟨_, (pss_cons (ps_par (i := 3) (j := 4) rfl nd rfl rfl (by decide) rfl rfl (pa_cons (pe_op op_sub (pe_op op_shl pe_int (pv 1)) pe_int) (pa_cons pe_int pa_nil)) (by rfl))
 (pss_cons (ps_for PassesOwn.never rfl (pi_range1 rfl n_range (pa_cons pe_int pa_nil)) (pg_name (i := 5) nd rfl (by first | exact .inl rfl | exact .inr rfl)) (pss_cons (ps_set (i := 4) nd rfl (by first | exact .inl rfl | exact .inr rfl) (pe_op op_and (pe_op op_mulW (pv 4) (pe_op op_sub pe_int (pe_op op_mulW (pe_fld (pv 0) rfl) (pv 4)))) (pv 3)))
 pss_nil))
 (pss_cons (ps_ret (pe_op op_and (pe_op op_mulW (pv 4) (pe_op op_sub (pv 2) (pe_fld (pv 0) rfl))) (pv 3)))
 pss_nil))), ?_⟩
    refine def_F h (fun d => Nat.le_of_ble_eq_true rfl) (fun d h => ?_)
    obtain ⟨table_1, depth_2, tail_3⟩ := d
    replace h : m_residue_of_ok table_1 depth_2 tail_3 := h
    unfold m_residue_of_ok at h
    show SS _ [.fz ((eTbl CT) table_1), .fz (eI depth_2), .fz (eI tail_3), .no, .no, .no] (FP eI (m_residue_of table_1 depth_2 tail_3))
    obtain ⟨g1, h⟩ := h
    refine ss_seq2 ((1 * 2 ^ depth_2.toNat) - 1) 1 (fun most_4 found_5 => [.fz ((eTbl CT) table_1), .fz (eI depth_2), .fz (eI tail_3), .fz (eI most_4), .fz (eI found_5), .no]) (ss_parM (am_fz (es_sub (es_shlL es_c (es_var 1 rfl) g1 (by decide)) es_c) (am_fz es_c am_nil)) Wk.refl) (fun most_4 e_most_4 found_5 e_found_5 => ?_)
    replace h := h most_4 e_most_4 found_5 e_found_5
    obtain ⟨g4, h⟩ := h
    refine ss_seq1 (List.foldl (m_residue_of_b1 table_1 most_4) found_5 (rng 0 7)) (fun f_9 => [.fz ((eTbl CT) table_1), .fz (eI depth_2), .fz (eI tail_3), .fz (eI most_4), .fz (eI f_9), .no]) (sf_S (e := eI) (l := (rng 0 7)) (fun s_6 => [.fz ((eTbl CT) table_1), .fz (eI depth_2), .fz (eI tail_3), .fz (eI most_4), .fz (eI s_6), .no]) (m_residue_of_b1 table_1 most_4) (m_residue_of_o1 table_1 most_4) found_5 (is_rng1 (as_cons es_c as_nil) (by decide)) Wk.refl g4 (fun s_6 x_7 _ h => ⟨[.fz ((eTbl CT) table_1), .fz (eI depth_2), .fz (eI tail_3), .fz (eI most_4), .fz (eI s_6), .fz (eI x_7)], _, gs_name 5, ?_⟩) (fun _ hw => hw)) (fun f_9 e_f_9 => ?_)
    · unfold m_residue_of_o1 at h
      obtain ⟨g2, g3, h⟩ := h
      refine ss_seq1 (Builtin.bitAnd (s_6 * (2 - (table_1.rate * s_6))) most_4) (fun found_8 => [.fz ((eTbl CT) table_1), .fz (eI depth_2), .fz (eI tail_3), .fz (eI most_4), .fz (eI found_8), .fz (eI x_7)]) (ss_set (es_and (es_mulW (es_var 4 rfl) (es_sub es_c (es_mulW (es_fld clT na_own_rate (es_var 0 rfl) rfl) (es_var 4 rfl) g2)) g3) (es_var 3 rfl)) Wk.refl) (fun found_8 e_found_8 => ?_)
      replace h := h found_8 e_found_8
      subst e_found_8
      exact ss_nx ⟨.inr rfl, ⟨.inr rfl, ⟨.inr rfl, ⟨.inr rfl, ⟨.inr rfl, ⟨.inl rfl, trivial⟩⟩⟩⟩⟩⟩
    replace h := h f_9 e_f_9
    obtain ⟨g5, h⟩ := h
    refine ss_retq (es_and (es_mulW (es_var 4 rfl) (es_sub (es_var 2 rfl) (es_fld clT na_own_shift (es_var 0 rfl) rfl)) g5) (es_var 3 rfl)) ?_
    subst e_f_9 e_found_5 e_most_4
    exact rfl
end
def m_residue_count (spans_1 : List (Int × Int)) (depth_2 : Int) (residue_3 : Int) : Int :=
(List.map (fun (x_4 : Int × Int) => (((x_4.2 - 1) - residue_3) / 2 ^ depth_2.toNat) - (((x_4.1 - 1) - residue_3) / 2 ^ depth_2.toNat)) spans_1).sum
def m_residue_count_ok (spans_1 : List (Int × Int)) (depth_2 : Int) (residue_3 : Int) : Prop :=
(∀ x_4 ∈ spans_1, 0 ≤ depth_2) ∧ (∀ x_4 ∈ spans_1, 0 ≤ depth_2) ∧ (spans_1.length < 16000000) ∧ True
def sp_residue_count (K : PySem.W.Frag) (CT : Addr) : Sp := spF (ι := (List (Int × Int)) × Int × Int) (fun d => [(eLs (eP2 K eI eI)) d.1, eI d.2.1, eI d.2.2]) (fun d => m_residue_count_ok d.1 d.2.1 d.2.2) (fun d => eI (m_residue_count d.1 d.2.1 d.2.2))
abbrev s_residue_count : Stmt := top 29
abbrev N_residue_count : List Str := ["spans", "depth", "residue", "first", "end"]
theorem sc_residue_count : FnScope N_residue_count ["spans", "depth", "residue"] (defScope s_residue_count) := ⟨rfl, rfl, rfl, by decide +kernel, rfl, by decide +kernel, by decide +kernel⟩
section
variable {P : Program} {w : World} {K : PySem.W.Frag} {mg : Str → Option Value} {base : Heap} {CT : Addr}
theorem ok_residue_count {f : Addr} {fd : FuncData} (F : Fun K "residue_count" "residue_count" s_residue_count f fd) (n_sum : mg "sum" = none) : FnG P w K mg base CX0 1 f fd ["spans", "depth", "residue"] (sp_residue_count K CT) := by
  refine Fun.okG F sc_residue_count (fun vs H Q E h => ?_) (fun cdv A outer s H vs Q E hG hr h => ?_)
  · obtain ⟨d, F, _, _, h, _⟩ := h
    exact h.len
  · have nd := sc_residue_count.nd
    have hU := hr.units
    refine ⟨_, (pss_cons (ps_ret (pe_callB (cr_sum rfl) rfl n_sum (by decide +kernel) (pa_cons (pe_lc (own := [("first", 3), ("end", 4)]) (g := gTup K 2 (gNames [3, 4])) (tt := tYes) rfl nd (pi_list (pv 0)) (blkOk_by (own := [("first", 3), ("end", 4)]) (N := N_residue_count) (sc := defScope s_residue_count) (by decide +kernel)) (fun _ _ _ _ _ => pg_tup rfl (pgs_cons (pg_name (i := 3) nd rfl (by first | exact .inl rfl | exact .inr rfl)) (pgs_cons (pg_name (i := 4) nd rfl (by first | exact .inl rfl | exact .inr rfl)) pgs_nil))) (fun _ _ _ _ _ => pts_nil) (fun _ _ _ _ _ => (pe_op op_sub (pe_op op_shr (pe_op op_sub (pe_op op_sub (pv 4) pe_int) (pv 2)) (pv 1)) (pe_op op_shr (pe_op op_sub (pe_op op_sub (pv 3) pe_int) (pv 2)) (pv 1))))) pa_nil)))
 pss_nil), ?_⟩
    refine def_F h (fun d => Nat.le_of_ble_eq_true rfl) (fun d h => ?_)
    obtain ⟨spans_1, depth_2, residue_3⟩ := d
    replace h : m_residue_count_ok spans_1 depth_2 residue_3 := h
    unfold m_residue_count_ok at h
    show SS _ [.fz ((eLs (eP2 K eI eI)) spans_1), .fz (eI depth_2), .fz (eI residue_3), .no, .no] (FP eI (m_residue_count spans_1 depth_2 residue_3))
    obtain ⟨g1, g2, g3, h⟩ := h
    refine ss_retq (es_sum (es_frs eI (List.map (fun (x_4 : Int × Int) => (((x_4.2 - 1) - residue_3) / 2 ^ depth_2.toNat) - (((x_4.1 - 1) - residue_3) / 2 ^ depth_2.toNat)) spans_1) (en_lcF eI (fun (x_4 : Int × Int) => (((x_4.2 - 1) - residue_3) / 2 ^ depth_2.toNat) - (((x_4.1 - 1) - residue_3) / 2 ^ depth_2.toNat)) (en_lcS (e := (eP2 K eI eI)) (l := spans_1) (f := (fun (x_4 : Int × Int) => eI ((((x_4.2 - 1) - residue_3) / 2 ^ depth_2.toNat) - (((x_4.1 - 1) - residue_3) / 2 ^ depth_2.toNat)))) (is := [3, 4]) (vs := [3, 4]) (fun (x_4 : Int × Int) => true) (fun (x_4 : Int × Int) => [.fz ((eLs (eP2 K eI eI)) spans_1), .fz (eI depth_2), .fz (eI residue_3), .fz (eI x_4.1), .fz (eI x_4.2)]) (is_list (e := (eP2 K eI eI)) (es_var 0 rfl)) g3 (fun _ h => h) (fun x_4 => gs_tup (gs_cons (gs_name 3) (gs_cons (gs_name 4) gs_nil))) (fun x_4 hx => et_yes) (fun x_4 hx _ => (es_sub (es_shr (es_sub (es_sub (es_var 4 rfl) es_c) (es_var 2 rfl)) (es_var 1 rfl) (g1 x_4 hx)) (es_shr (es_sub (es_sub (es_var 3 rfl) es_c) (es_var 2 rfl)) (es_var 1 rfl) (g2 x_4 hx)))))))) ?_
    exact rfl
end
def m_require_place (table_1 : Tbl) (spans_2 : List (Int × Int)) (depth_3 : Int) (tail_4 : Int) : Unit :=
()
def m_require_place_ok (table_1 : Tbl) (spans_2 : List (Int × Int)) (depth_3 : Int) (tail_4 : Int) : Prop :=
(m_require_table_ok table_1) ∧ ((m_require_spans_ok spans_2) ∧ ((m_require_depth_ok depth_3) ∧ ((m_require_tail_ok depth_3 tail_4) ∧ (True))))
def sp_require_place (K : PySem.W.Frag) (CT : Addr) : Sp := spF (ι := Tbl × (List (Int × Int)) × Int × Int) (fun d => [(eTbl CT) d.1, (eLs (eP2 K eI eI)) d.2.1, eI d.2.2.1, eI d.2.2.2]) (fun d => m_require_place_ok d.1 d.2.1 d.2.2.1 d.2.2.2) (fun d => eN)
abbrev s_require_place : Stmt := top 30
abbrev N_require_place : List Str := ["table", "spans", "depth", "tail"]
theorem sc_require_place : FnScope N_require_place ["table", "spans", "depth", "tail"] (defScope s_require_place) := ⟨rfl, rfl, rfl, by decide +kernel, rfl, by decide +kernel, by decide +kernel⟩
section
variable {P : Program} {w : World} {K : PySem.W.Frag} {mg : Str → Option Value} {base : Heap} {CT : Addr}
theorem ok_require_place {f : Addr} {fd : FuncData} (F : Fun K "require_place" "require_place" s_require_place f fd) {a_require_table : Addr} {fd_require_table : FuncData} (F_require_table : Fun K "require_table" "require_table" s_require_table a_require_table fd_require_table) (G_require_table : FnG P w K mg base CX0 1 a_require_table fd_require_table ["value"] (sp_require_table K CT)) (j_require_table : mg "require_table" = some (.ref a_require_table)) (b_require_table : Binds K fd_require_table ["value"] []) {a_require_spans : Addr} {fd_require_spans : FuncData} (F_require_spans : Fun K "require_spans" "require_spans" s_require_spans a_require_spans fd_require_spans) (G_require_spans : FnG P w K mg base CX0 4 a_require_spans fd_require_spans ["spans"] (sp_require_spans K CT)) (j_require_spans : mg "require_spans" = some (.ref a_require_spans)) (b_require_spans : Binds K fd_require_spans ["spans"] []) {a_require_depth : Addr} {fd_require_depth : FuncData} (F_require_depth : Fun K "require_depth" "require_depth" s_require_depth a_require_depth fd_require_depth) (G_require_depth : FnG P w K mg base CX0 3 a_require_depth fd_require_depth ["value"] (sp_require_depth K CT)) (j_require_depth : mg "require_depth" = some (.ref a_require_depth)) (b_require_depth : Binds K fd_require_depth ["value"] []) {a_require_tail : Addr} {fd_require_tail : FuncData} (F_require_tail : Fun K "require_tail" "require_tail" s_require_tail a_require_tail fd_require_tail) (G_require_tail : FnG P w K mg base CX0 3 a_require_tail fd_require_tail ["depth", "value"] (sp_require_tail K CT)) (j_require_tail : mg "require_tail" = some (.ref a_require_tail)) (b_require_tail : Binds K fd_require_tail ["depth", "value"] []) : FnG P w K mg base CX0 5 f fd ["table", "spans", "depth", "tail"] (sp_require_place K CT) := by
  refine Fun.okG F sc_require_place (fun vs H Q E h => ?_) (fun cdv A outer s H vs Q E hG hr h => ?_)
  · obtain ⟨d, F, _, _, h, _⟩ := h
    exact h.len
  · have nd := sc_require_place.nd
    have hU := hr.units
    refine ⟨_, (pss_cons (ps_expr (pg_call G_require_table hG (hr.mono (by decide)) rfl j_require_table F_require_table.kp b_require_table .nil pass0 (pa_cons (pv 0) pa_nil)))
 (pss_cons (ps_expr (pg_call G_require_spans hG (hr.mono (by decide)) rfl j_require_spans F_require_spans.kp b_require_spans .nil pass0 (pa_cons (pv 1) pa_nil)))
 (pss_cons (ps_expr (pg_call G_require_depth hG (hr.mono (by decide)) rfl j_require_depth F_require_depth.kp b_require_depth .nil pass0 (pa_cons (pv 2) pa_nil)))
 (pss_cons (ps_expr (pg_call G_require_tail hG (hr.mono (by decide)) rfl j_require_tail F_require_tail.kp b_require_tail .nil pass0 (pa_cons (pv 2) (pa_cons (pv 3) pa_nil))))
 pss_nil)))), ?_⟩
    refine def_F h (fun d => Nat.le_of_ble_eq_true rfl) (fun d h => ?_)
    obtain ⟨table_1, spans_2, depth_3, tail_4⟩ := d
    replace h : m_require_place_ok table_1 spans_2 depth_3 tail_4 := h
    unfold m_require_place_ok at h
    show SS _ [.fz ((eTbl CT) table_1), .fz ((eLs (eP2 K eI eI)) spans_2), .fz (eI depth_3), .fz (eI tail_4)] (FP (fun _ : Unit => eN) (m_require_place table_1 spans_2 depth_3 tail_4))
    obtain ⟨g1, h⟩ := h
    refine ss_seqTo [.fz ((eTbl CT) table_1), .fz ((eLs (eP2 K eI eI)) spans_2), .fz (eI depth_3), .fz (eI tail_4)] (ss_drop (es_call table_1 (as_cons (es_var 0 rfl) as_nil) g1) Wk.refl) ?_
    obtain ⟨g2, h⟩ := h
    refine ss_seqTo [.fz ((eTbl CT) table_1), .fz ((eLs (eP2 K eI eI)) spans_2), .fz (eI depth_3), .fz (eI tail_4)] (ss_drop (es_call spans_2 (as_cons (es_var 1 rfl) as_nil) g2) Wk.refl) ?_
    obtain ⟨g3, h⟩ := h
    refine ss_seqTo [.fz ((eTbl CT) table_1), .fz ((eLs (eP2 K eI eI)) spans_2), .fz (eI depth_3), .fz (eI tail_4)] (ss_drop (es_call depth_3 (as_cons (es_var 2 rfl) as_nil) g3) Wk.refl) ?_
    obtain ⟨g4, h⟩ := h
    refine ss_seqTo [.fz ((eTbl CT) table_1), .fz ((eLs (eP2 K eI eI)) spans_2), .fz (eI depth_3), .fz (eI tail_4)] (ss_drop (es_call (depth_3, tail_4) (as_cons (es_var 2 rfl) (as_cons (es_var 3 rfl) as_nil)) g4) Wk.refl) ?_
    exact ss_nx rfl
end
def m_tail_count (table_1 : Tbl) (spans_2 : List (Int × Int)) (depth_3 : Int) (tail_4 : Int) : Int :=
m_residue_count spans_2 depth_3 (m_residue_of table_1 depth_3 tail_4)
def m_tail_count_ok (table_1 : Tbl) (spans_2 : List (Int × Int)) (depth_3 : Int) (tail_4 : Int) : Prop :=
(m_require_place_ok table_1 spans_2 depth_3 tail_4) ∧ ((m_residue_of_ok table_1 depth_3 tail_4) ∧ (m_residue_count_ok spans_2 depth_3 (m_residue_of table_1 depth_3 tail_4)) ∧ True)
def sp_tail_count (K : PySem.W.Frag) (CT : Addr) : Sp := spF (ι := Tbl × (List (Int × Int)) × Int × Int) (fun d => [(eTbl CT) d.1, (eLs (eP2 K eI eI)) d.2.1, eI d.2.2.1, eI d.2.2.2]) (fun d => m_tail_count_ok d.1 d.2.1 d.2.2.1 d.2.2.2) (fun d => eI (m_tail_count d.1 d.2.1 d.2.2.1 d.2.2.2))
abbrev s_tail_count : Stmt := top 31
abbrev N_tail_count : List Str := ["table", "spans", "depth", "tail"]
theorem sc_tail_count : FnScope N_tail_count ["table", "spans", "depth", "tail"] (defScope s_tail_count) := ⟨rfl, rfl, rfl, by decide +kernel, rfl, by decide +kernel, by decide +kernel⟩
section
variable {P : Program} {w : World} {K : PySem.W.Frag} {mg : Str → Option Value} {base : Heap} {CT : Addr}
theorem ok_tail_count {f : Addr} {fd : FuncData} (F : Fun K "tail_count" "tail_count" s_tail_count f fd) {a_require_place : Addr} {fd_require_place : FuncData} (F_require_place : Fun K "require_place" "require_place" s_require_place a_require_place fd_require_place) (G_require_place : FnG P w K mg base CX0 5 a_require_place fd_require_place ["table", "spans", "depth", "tail"] (sp_require_place K CT)) (j_require_place : mg "require_place" = some (.ref a_require_place)) (b_require_place : Binds K fd_require_place ["table", "spans", "depth", "tail"] []) {a_residue_count : Addr} {fd_residue_count : FuncData} (F_residue_count : Fun K "residue_count" "residue_count" s_residue_count a_residue_count fd_residue_count) (G_residue_count : FnG P w K mg base CX0 1 a_residue_count fd_residue_count ["spans", "depth", "residue"] (sp_residue_count K CT)) (j_residue_count : mg "residue_count" = some (.ref a_residue_count)) (b_residue_count : Binds K fd_residue_count ["spans", "depth", "residue"] []) {a_residue_of : Addr} {fd_residue_of : FuncData} (F_residue_of : Fun K "residue_of" "residue_of" s_residue_of a_residue_of fd_residue_of) (G_residue_of : FnG P w K mg base CX0 1 a_residue_of fd_residue_of ["table", "depth", "tail"] (sp_residue_of K CT)) (j_residue_of : mg "residue_of" = some (.ref a_residue_of)) (b_residue_of : Binds K fd_residue_of ["table", "depth", "tail"] []) : FnG P w K mg base CX0 6 f fd ["table", "spans", "depth", "tail"] (sp_tail_count K CT) := by
  refine Fun.okG F sc_tail_count (fun vs H Q E h => ?_) (fun cdv A outer s H vs Q E hG hr h => ?_)
  · obtain ⟨d, F, _, _, h, _⟩ := h
    exact h.len
  · have nd := sc_tail_count.nd
    have hU := hr.units
    refine ⟨_, (pss_cons (ps_expr (pg_call G_require_place hG (hr.mono (by decide)) rfl j_require_place F_require_place.kp b_require_place .nil pass0 (pa_cons (pv 0) (pa_cons (pv 1) (pa_cons (pv 2) (pa_cons (pv 3) pa_nil))))))
 (pss_cons (ps_ret (pg_call G_residue_count hG (hr.mono (by decide)) rfl j_residue_count F_residue_count.kp b_residue_count .nil pass0 (pa_cons (pv 1) (pa_cons (pv 2) (pa_cons (pg_call G_residue_of hG (hr.mono (by decide)) rfl j_residue_of F_residue_of.kp b_residue_of .nil pass0 (pa_cons (pv 0) (pa_cons (pv 2) (pa_cons (pv 3) pa_nil)))) pa_nil)))))
 pss_nil)), ?_⟩
    refine def_F h (fun d => Nat.le_of_ble_eq_true rfl) (fun d h => ?_)
    obtain ⟨table_1, spans_2, depth_3, tail_4⟩ := d
    replace h : m_tail_count_ok table_1 spans_2 depth_3 tail_4 := h
    unfold m_tail_count_ok at h
    show SS _ [.fz ((eTbl CT) table_1), .fz ((eLs (eP2 K eI eI)) spans_2), .fz (eI depth_3), .fz (eI tail_4)] (FP eI (m_tail_count table_1 spans_2 depth_3 tail_4))
    obtain ⟨g1, h⟩ := h
    refine ss_seqTo [.fz ((eTbl CT) table_1), .fz ((eLs (eP2 K eI eI)) spans_2), .fz (eI depth_3), .fz (eI tail_4)] (ss_drop (es_call (table_1, spans_2, depth_3, tail_4) (as_cons (es_var 0 rfl) (as_cons (es_var 1 rfl) (as_cons (es_var 2 rfl) (as_cons (es_var 3 rfl) as_nil)))) g1) Wk.refl) ?_
    obtain ⟨g2, g3, h⟩ := h
    refine ss_retq (es_call (spans_2, depth_3, m_residue_of table_1 depth_3 tail_4) (as_cons (es_var 1 rfl) (as_cons (es_var 2 rfl) (as_cons (es_call (table_1, depth_3, tail_4) (as_cons (es_var 0 rfl) (as_cons (es_var 2 rfl) (as_cons (es_var 3 rfl) as_nil))) g2) as_nil))) g3) ?_
    exact rfl
end
def m_nth_key_t2 (depth_3 : Int) (residue_6 : Int) (s_8 : Int) (x_9 : Int × Int) (many_10 : Int) : (Option Int) ⊕ (Int) :=
if (decide (s_8 < many_10)) = true then (
.inl (some ((x_9.1 + (Builtin.bitAnd (residue_6 - x_9.1) ((1 * 2 ^ depth_3.toNat) - 1))) + (s_8 * 2 ^ depth_3.toNat))))
else (
let left_11 := s_8 - many_10
.inr left_11)
def m_nth_key_u2 (depth_3 : Int) (residue_6 : Int) (s_8 : Int) (x_9 : Int × Int) (many_10 : Int) : Prop :=
((decide (s_8 < many_10)) = true → ((0 ≤ depth_3 ∧ depth_3 ≤ 1000000) ∧ (CShl s_8 depth_3) ∧ True)) ∧ ((decide (s_8 < many_10)) = false → ((∀ left_11, left_11 = (s_8 - many_10) → True)))
def m_nth_key_b1 (depth_3 : Int) (residue_6 : Int) (s_8 : Int) (x_9 : Int × Int) : (Option Int) ⊕ (Int) :=
let many_10 := m_residue_count ([(x_9.1, x_9.2)] : List (Int × Int)) depth_3 residue_6
m_nth_key_t2 depth_3 residue_6 s_8 x_9 many_10
def m_nth_key_o1 (depth_3 : Int) (residue_6 : Int) (s_8 : Int) (x_9 : Int × Int) : Prop :=
(m_residue_count_ok ([(x_9.1, x_9.2)] : List (Int × Int)) depth_3 residue_6) ∧ (∀ many_10, many_10 = (m_residue_count ([(x_9.1, x_9.2)] : List (Int × Int)) depth_3 residue_6) → m_nth_key_u2 depth_3 residue_6 s_8 x_9 many_10)
def m_nth_key_r1 (depth_3 : Int) (residue_6 : Int) (s_8 : Int) : Option Int :=
(none : Option Int)
def m_nth_key_q1 (depth_3 : Int) (residue_6 : Int) (s_8 : Int) : Prop :=
True
def m_nth_key_t3 (spans_2 : List (Int × Int)) (depth_3 : Int) (residue_6 : Int) (left_7 : Int) : Option Int :=
sumC id (m_nth_key_r1 depth_3 residue_6) (loopR (m_nth_key_b1 depth_3 residue_6) left_7 spans_2)
def m_nth_key_u3 (spans_2 : List (Int × Int)) (depth_3 : Int) (residue_6 : Int) (left_7 : Int) : Prop :=
(okR (m_nth_key_o1 depth_3 residue_6) (m_nth_key_b1 depth_3 residue_6) left_7 spans_2) ∧ (∀ s_8, loopR (m_nth_key_b1 depth_3 residue_6) left_7 spans_2 = .inr s_8 → m_nth_key_q1 depth_3 residue_6 s_8)
def m_nth_key (table_1 : Tbl) (spans_2 : List (Int × Int)) (depth_3 : Int) (tail_4 : Int) (number_5 : Int) : Option Int :=
let residue_6 := m_residue_of table_1 depth_3 tail_4
let left_7 := number_5
m_nth_key_t3 spans_2 depth_3 residue_6 left_7
def m_nth_key_ok (table_1 : Tbl) (spans_2 : List (Int × Int)) (depth_3 : Int) (tail_4 : Int) (number_5 : Int) : Prop :=
(m_require_place_ok table_1 spans_2 depth_3 tail_4) ∧ ((m_require_number_ok number_5) ∧ ((m_residue_of_ok table_1 depth_3 tail_4) ∧ (∀ residue_6, residue_6 = (m_residue_of table_1 depth_3 tail_4) → ∀ left_7, left_7 = number_5 → m_nth_key_u3 spans_2 depth_3 residue_6 left_7)))
def sp_nth_key (K : PySem.W.Frag) (CT : Addr) : Sp := spF (ι := Tbl × (List (Int × Int)) × Int × Int × Int) (fun d => [(eTbl CT) d.1, (eLs (eP2 K eI eI)) d.2.1, eI d.2.2.1, eI d.2.2.2.1, eI d.2.2.2.2]) (fun d => m_nth_key_ok d.1 d.2.1 d.2.2.1 d.2.2.2.1 d.2.2.2.2) (fun d => (eO eI) (m_nth_key d.1 d.2.1 d.2.2.1 d.2.2.2.1 d.2.2.2.2))
abbrev s_nth_key : Stmt := top 32
abbrev N_nth_key : List Str := ["table", "spans", "depth", "tail", "number", "residue", "left", "first", "end", "many"]
theorem sc_nth_key : FnScope N_nth_key ["table", "spans", "depth", "tail", "number"] (defScope s_nth_key) := ⟨rfl, rfl, rfl, by decide +kernel, rfl, by decide +kernel, by decide +kernel⟩
section
variable {P : Program} {w : World} {K : PySem.W.Frag} {mg : Str → Option Value} {base : Heap} {CT : Addr}
theorem ok_nth_key {f : Addr} {fd : FuncData} (F : Fun K "nth_key" "nth_key" s_nth_key f fd) {a_require_place : Addr} {fd_require_place : FuncData} (F_require_place : Fun K "require_place" "require_place" s_require_place a_require_place fd_require_place) (G_require_place : FnG P w K mg base CX0 5 a_require_place fd_require_place ["table", "spans", "depth", "tail"] (sp_require_place K CT)) (j_require_place : mg "require_place" = some (.ref a_require_place)) (b_require_place : Binds K fd_require_place ["table", "spans", "depth", "tail"] []) {a_require_number : Addr} {fd_require_number : FuncData} (F_require_number : Fun K "require_number" "require_number" s_require_number a_require_number fd_require_number) (G_require_number : FnG P w K mg base CX0 2 a_require_number fd_require_number ["value"] (sp_require_number K CT)) (j_require_number : mg "require_number" = some (.ref a_require_number)) (b_require_number : Binds K fd_require_number ["value"] []) {a_residue_of : Addr} {fd_residue_of : FuncData} (F_residue_of : Fun K "residue_of" "residue_of" s_residue_of a_residue_of fd_residue_of) (G_residue_of : FnG P w K mg base CX0 1 a_residue_of fd_residue_of ["table", "depth", "tail"] (sp_residue_of K CT)) (j_residue_of : mg "residue_of" = some (.ref a_residue_of)) (b_residue_of : Binds K fd_residue_of ["table", "depth", "tail"] []) {a_residue_count : Addr} {fd_residue_count : FuncData} (F_residue_count : Fun K "residue_count" "residue_count" s_residue_count a_residue_count fd_residue_count) (G_residue_count : FnG P w K mg base CX0 1 a_residue_count fd_residue_count ["spans", "depth", "residue"] (sp_residue_count K CT)) (j_residue_count : mg "residue_count" = some (.ref a_residue_count)) (b_residue_count : Binds K fd_residue_count ["spans", "depth", "residue"] []) : FnG P w K mg base CX0 6 f fd ["table", "spans", "depth", "tail", "number"] (sp_nth_key K CT) := by
  refine Fun.okG F sc_nth_key (fun vs H Q E h => ?_) (fun cdv A outer s H vs Q E hG hr h => ?_)
  · obtain ⟨d, F, _, _, h, _⟩ := h
    exact h.len
  · have nd := sc_nth_key.nd
    have hU := hr.units
    refine ⟨_, (pss_cons (ps_expr (pg_call G_require_place hG (hr.mono (by decide)) rfl j_require_place F_require_place.kp b_require_place .nil pass0 (pa_cons (pv 0) (pa_cons (pv 1) (pa_cons (pv 2) (pa_cons (pv 3) pa_nil))))))
 (pss_cons (ps_expr (pg_call G_require_number hG (hr.mono (by decide)) rfl j_require_number F_require_number.kp b_require_number .nil pass0 (pa_cons (pv 4) pa_nil)))
 (pss_cons (ps_par (i := 5) (j := 6) rfl nd rfl rfl (by decide) rfl rfl (pa_cons (pg_call G_residue_of hG (hr.mono (by decide)) rfl j_residue_of F_residue_of.kp b_residue_of .nil pass0 (pa_cons (pv 0) (pa_cons (pv 2) (pa_cons (pv 3) pa_nil)))) (pa_cons (pv 4) pa_nil)) (by rfl))
 (pss_cons (ps_for PassesOwn.never rfl (pi_list (pv 1)) (pg_tup rfl (pgs_cons (pg_name (i := 7) nd rfl (by first | exact .inl rfl | exact .inr rfl)) (pgs_cons (pg_name (i := 8) nd rfl (by first | exact .inl rfl | exact .inr rfl)) pgs_nil))) (pss_cons (ps_set (i := 9) nd rfl (by first | exact .inl rfl | exact .inr rfl) (pg_call G_residue_count hG (hr.mono (by decide)) rfl j_residue_count F_residue_count.kp b_residue_count .nil pass0 (pa_cons (pe_lst (pa_cons (pe_tup (pa_cons (pv 7) (pa_cons (pv 8) pa_nil))) pa_nil)) (pa_cons (pv 2) (pa_cons (pv 5) pa_nil)))))
 (pss_cons (ps_if (pt_cmpR op_lt (pv 6) (pv 9) (nomark _)) (pss_cons (ps_ret (pe_op op_add (pe_op op_add (pv 7) (pe_op op_and (pe_op op_sub (pv 5) (pv 7)) (pe_op op_sub (pe_op op_shl pe_int (pv 2)) pe_int))) (pe_op op_shlW (pv 6) (pv 2))))
 pss_nil) pss_nil)
 (pss_cons (ps_aug (i := 6) nd rfl (by first | exact .inl rfl | exact .inr rfl) (pv 9) ip_sub)
 pss_nil))))
 (pss_cons (ps_ret pe_non)
 pss_nil))))), ?_⟩
    refine def_F h (fun d => Nat.le_of_ble_eq_true rfl) (fun d h => ?_)
    obtain ⟨table_1, spans_2, depth_3, tail_4, number_5⟩ := d
    replace h : m_nth_key_ok table_1 spans_2 depth_3 tail_4 number_5 := h
    unfold m_nth_key_ok at h
    show SS _ [.fz ((eTbl CT) table_1), .fz ((eLs (eP2 K eI eI)) spans_2), .fz (eI depth_3), .fz (eI tail_4), .fz (eI number_5), .no, .no, .no, .no, .no] (FP (eO eI) (m_nth_key table_1 spans_2 depth_3 tail_4 number_5))
    obtain ⟨g1, h⟩ := h
    refine ss_seqTo [.fz ((eTbl CT) table_1), .fz ((eLs (eP2 K eI eI)) spans_2), .fz (eI depth_3), .fz (eI tail_4), .fz (eI number_5), .no, .no, .no, .no, .no] (ss_drop (es_call (table_1, spans_2, depth_3, tail_4) (as_cons (es_var 0 rfl) (as_cons (es_var 1 rfl) (as_cons (es_var 2 rfl) (as_cons (es_var 3 rfl) as_nil)))) g1) Wk.refl) ?_
    obtain ⟨g2, h⟩ := h
    refine ss_seqTo [.fz ((eTbl CT) table_1), .fz ((eLs (eP2 K eI eI)) spans_2), .fz (eI depth_3), .fz (eI tail_4), .fz (eI number_5), .no, .no, .no, .no, .no] (ss_drop (es_call number_5 (as_cons (es_var 4 rfl) as_nil) g2) Wk.refl) ?_
    obtain ⟨g3, h⟩ := h
    refine ss_seq2 (m_residue_of table_1 depth_3 tail_4) number_5 (fun residue_6 left_7 => [.fz ((eTbl CT) table_1), .fz ((eLs (eP2 K eI eI)) spans_2), .fz (eI depth_3), .fz (eI tail_4), .fz (eI number_5), .fz (eI residue_6), .fz (eI left_7), .no, .no, .no]) (ss_parM (am_fz (es_call (table_1, depth_3, tail_4) (as_cons (es_var 0 rfl) (as_cons (es_var 2 rfl) (as_cons (es_var 3 rfl) as_nil))) g3) (am_fz (es_var 4 rfl) am_nil)) Wk.refl) (fun residue_6 e_residue_6 left_7 e_left_7 => ?_)
    replace h := h residue_6 e_residue_6 left_7 e_left_7
    refine ss_cut (FP (eO eI)) (v' := m_nth_key_t3 spans_2 depth_3 residue_6 left_7) (by subst e_left_7 e_residue_6; rfl) ?_
    clear e_left_7 e_residue_6
    unfold m_nth_key_u3 at h
    obtain ⟨g7, h⟩ := h
    refine sf_SR (e := (eP2 K eI eI)) (l := spans_2) (fun s_8 => [.fz ((eTbl CT) table_1), .fz ((eLs (eP2 K eI eI)) spans_2), .fz (eI depth_3), .fz (eI tail_4), .fz (eI number_5), .fz (eI residue_6), .fz (eI s_8), .no, .no, .no]) (m_nth_key_b1 depth_3 residue_6) (m_nth_key_o1 depth_3 residue_6) left_7 (FP (eO eI)) id (m_nth_key_r1 depth_3 residue_6) (is_list (e := (eP2 K eI eI)) (es_var 1 rfl)) Wk.refl g7 (fun s_8 x_9 _ h => ⟨[.fz ((eTbl CT) table_1), .fz ((eLs (eP2 K eI eI)) spans_2), .fz (eI depth_3), .fz (eI tail_4), .fz (eI number_5), .fz (eI residue_6), .fz (eI s_8), .fz (eI x_9.1), .fz (eI x_9.2), .no], _, gs_tup (gs_cons (gs_name 7) (gs_cons (gs_name 8) gs_nil)), ?_⟩) (fun s_8 e_s_8 => ?_)
    · unfold m_nth_key_o1 at h
      obtain ⟨g4, h⟩ := h
      refine ss_seq1 (m_residue_count ([(x_9.1, x_9.2)] : List (Int × Int)) depth_3 residue_6) (fun many_10 => [.fz ((eTbl CT) table_1), .fz ((eLs (eP2 K eI eI)) spans_2), .fz (eI depth_3), .fz (eI tail_4), .fz (eI number_5), .fz (eI residue_6), .fz (eI s_8), .fz (eI x_9.1), .fz (eI x_9.2), .fz (eI many_10)]) (ss_set (es_call (([(x_9.1, x_9.2)] : List (Int × Int)), depth_3, residue_6) (as_cons (es_frs (eP2 K eI eI) ([(x_9.1, x_9.2)] : List (Int × Int)) (en_lst (as_cons (es_tup (K := K) (as_cons (es_var 7 rfl) (as_cons (es_var 8 rfl) as_nil))) as_nil))) (as_cons (es_var 2 rfl) (as_cons (es_var 5 rfl) as_nil))) g4) Wk.refl) (fun many_10 e_many_10 => ?_)
      replace h := h many_10 e_many_10
      refine ss_cut (LQ (fun s_8 => [.fz ((eTbl CT) table_1), .fz ((eLs (eP2 K eI eI)) spans_2), .fz (eI depth_3), .fz (eI tail_4), .fz (eI number_5), .fz (eI residue_6), .fz (eI s_8), .no, .no, .no]) (FP (eO eI)) id) (v' := m_nth_key_t2 depth_3 residue_6 s_8 x_9 many_10) (by subst e_many_10; rfl) ?_
      clear e_many_10
      unfold m_nth_key_u2 at h
      obtain ⟨hA, hB⟩ := h
      refine ss_ifLv (LQ (fun s_8 => [.fz ((eTbl CT) table_1), .fz ((eLs (eP2 K eI eI)) spans_2), .fz (eI depth_3), .fz (eI tail_4), .fz (eI number_5), .fz (eI residue_6), .fz (eI s_8), .no, .no, .no]) (FP (eO eI)) id) (et_cmp (es_var 6 rfl) (es_var 9 rfl) q_lt) (fun hc => ?_) (fun hc => ?_)
      · replace h := hA hc; clear hA hB
        obtain ⟨g5, g6, h⟩ := h
        refine ss_retq (es_add (es_add (es_var 7 rfl) (es_and (es_sub (es_var 5 rfl) (es_var 7 rfl)) (es_sub (es_shlL es_c (es_var 2 rfl) g5 (by decide)) es_c))) (es_shlW (es_var 6 rfl) (es_var 2 rfl) g6)) ?_
        exact rfl
      · replace h := hB hc; clear hA hB
        refine ss_nxq ?_
        refine ss_seq1 (s_8 - many_10) (fun left_11 => [.fz ((eTbl CT) table_1), .fz ((eLs (eP2 K eI eI)) spans_2), .fz (eI depth_3), .fz (eI tail_4), .fz (eI number_5), .fz (eI residue_6), .fz (eI left_11), .fz (eI x_9.1), .fz (eI x_9.2), .fz (eI many_10)]) (ss_aug rfl (es_var 9 rfl) Wk.refl) (fun left_11 e_left_11 => ?_)
        replace h := h left_11 e_left_11
        subst e_left_11
        exact ss_nx ⟨.inr rfl, ⟨.inr rfl, ⟨.inr rfl, ⟨.inr rfl, ⟨.inr rfl, ⟨.inr rfl, ⟨.inr rfl, ⟨.inl rfl, ⟨.inl rfl, ⟨.inl rfl, trivial⟩⟩⟩⟩⟩⟩⟩⟩⟩⟩
    · replace h := h s_8 e_s_8; unfold m_nth_key_q1 at h
      refine ss_retq es_c ?_
      exact rfl
end
def m_bag (cell_1 : Int) : Bag :=
⟨max2 0 (cell_1 - (10 ^ 18)), cell_1, 0⟩
def m_bag_ok (cell_1 : Int) : Prop :=
True
def sp_bag (K : PySem.W.Frag) (CT : Addr) : Sp := spN (ι := Int) (fun d => [eI d]) (fun d => m_bag_ok d) (fun d => bagR (m_bag d))
abbrev s_bag : Stmt := top 34
abbrev N_bag : List Str := ["_law_cell"]
theorem sc_bag : FnScope N_bag ["_law_cell"] (defScope s_bag) := ⟨rfl, rfl, rfl, by decide +kernel, rfl, by decide +kernel, by decide +kernel⟩
section
variable {P : Program} {w : World} {K : PySem.W.Frag} {mg : Str → Option Value} {base : Heap} {CT : Addr}
theorem ok_bag {f : Addr} {fd : FuncData} (F : Fun K "_law_bag" "_law_bag" s_bag f fd) (n_max : mg "max" = none) : FnG P w K mg base CX0 1 f fd ["_law_cell"] (sp_bag K CT) := by
  refine Fun.okG F sc_bag (fun vs H Q E h => ?_) (fun cdv A outer s H vs Q E hG hr h => ?_)
  · obtain ⟨d, F, _, _, h, _⟩ := h
    exact h.len
  · have nd := sc_bag.nd
    have hU := hr.units
    refine ⟨_, (pss_cons (ps_ret (pe_lst (pa_cons (pe_callB (call_max2 rfl) rfl n_max (by decide +kernel) (pa_cons pe_int (pa_cons (pe_op op_sub (pv 0) (pe_op op_pow pe_int pe_int)) pa_nil))) (pa_cons (pv 0) (pa_cons pe_int pa_nil)))))
 pss_nil), ?_⟩
    refine def_N h (fun d => Nat.le_of_ble_eq_true rfl) (fun cell_1 h => ?_)
    replace h : m_bag_ok cell_1 := h
    unfold m_bag_ok at h
    show SSN _ [.fz (eI cell_1)] _
    exact sn_ret (en_lst (as_cons (es_max2 es_c (es_sub (es_var 0 rfl) (es_pow es_c es_c ⟨by decide, by decide, by decide⟩))) (as_cons (es_var 0 rfl) (as_cons es_c as_nil))))
end
def m_pick_t1 (many_2 : Int) (bag_3 : Bag) : Int × Bag :=
if (decide (0 < bag_3.a)) = true then (
let told_4 := bag_3.a % many_2
let bag_5 := (⟨bag_3.a / many_2, bag_3.c, bag_3.t⟩ : Bag)
(told_4, bag_5))
else (
let seed_6 := bag_3.c
let turn_7 := bag_3.t
let first_8 := ((((seed_6 % 2147483629) * 48271) + (turn_7 * 69621)) + 12345) % 2147483647
let second_9 := ((first_8 * first_8) + (turn_7 * 40692)) % 2147483587
let drawn_10 := ((first_8 * 2147483587) + second_9) / 32
let j_12 : Int := (if (decide ((10 ^ 15) < many_2)) = true then (
let drawn_11 := (drawn_10 ^ 8) + second_9
drawn_11)
else (
drawn_10))
(j_12 % many_2, bag_3))
def m_pick_u1 (many_2 : Int) (bag_3 : Bag) : Prop :=
((decide (0 < bag_3.a)) = true → (((0 : Int) < many_2) ∧ (∀ told_4, told_4 = (bag_3.a % many_2) → (CDivW bag_3.a many_2) ∧ (∀ bag_5, bag_5 = (⟨bag_3.a / many_2, bag_3.c, bag_3.t⟩ : Bag) → True)))) ∧ ((decide (0 < bag_3.a)) = false → ((∀ seed_6, seed_6 = bag_3.c → ∀ turn_7, turn_7 = bag_3.t → (∀ first_8, first_8 = (((((seed_6 % 2147483629) * 48271) + (turn_7 * 69621)) + 12345) % 2147483647) → (CMulW first_8 first_8) ∧ (∀ second_9, second_9 = (((first_8 * first_8) + (turn_7 * 40692)) % 2147483587) → (∀ drawn_10, drawn_10 = (((first_8 * 2147483587) + second_9) / 32) → ((decide ((10 ^ 15) < many_2)) = true → ((drawn_10.natAbs < 2 ^ 64) ∧ (∀ drawn_11, drawn_11 = ((drawn_10 ^ 8) + second_9) → True))) ∧ ((decide ((10 ^ 15) < many_2)) = false → (True)) ∧ (∀ j_12 : Int, j_12 = (if (decide ((10 ^ 15) < many_2)) = true then (
let drawn_11 := (drawn_10 ^ 8) + second_9
drawn_11)
else (
drawn_10)) → (((0 : Int) < many_2) ∧ True))))))))
def m_pick (bag_1 : Bag) (many_2 : Int) : Int × Bag :=
let bag_3 := (⟨bag_1.a, bag_1.c, bag_1.t + 1⟩ : Bag)
m_pick_t1 many_2 bag_3
def m_pick_ok (bag_1 : Bag) (many_2 : Int) : Prop :=
(∀ bag_3, bag_3 = (⟨bag_1.a, bag_1.c, bag_1.t + 1⟩ : Bag) → m_pick_u1 many_2 bag_3)
def sp_pick (K : PySem.W.Frag) (CT : Addr) : Sp := spB (ι := Bag × Int) (fun d => bagR d.1) (fun d => [eI d.2]) (fun d => m_pick_ok d.1 d.2) (fun d => bagR (m_pick d.1 d.2).2) (fun d => eI ((m_pick d.1 d.2).1))
abbrev s_pick : Stmt := top 35
abbrev N_pick : List Str := ["_law_bag_here", "_law_many", "_law_told", "_law_seed", "_law_turn", "_law_first", "_law_second", "_law_drawn"]
theorem sc_pick : FnScope N_pick ["_law_bag_here", "_law_many"] (defScope s_pick) := ⟨rfl, rfl, rfl, by decide +kernel, rfl, by decide +kernel, by decide +kernel⟩
section
variable {P : Program} {w : World} {K : PySem.W.Frag} {mg : Str → Option Value} {base : Heap} {CT : Addr}
theorem ok_pick {f : Addr} {fd : FuncData} (F : Fun K "_law_pick" "_law_pick" s_pick f fd) (n_int : mg "int" = none) : FnG P w K mg base CX0 1 f fd ["_law_bag_here", "_law_many"] (sp_pick K CT) := by
  refine Fun.okG F sc_pick (fun vs H Q E h => ?_) (fun cdv A outer s H vs Q E hG hr h => ?_)
  · obtain ⟨d, F, p, o, ws, rfl, _, _, _, _, _, h, _⟩ := h
    exact congrArg (· + 1) h.len
  · have nd := sc_pick.nd
    have hU := hr.units
    refine ⟨_, (pss_cons (ps_asg (pe_op op_add (pe_ix ix_list (pv 0) pe_int (fun _ _ => rfl)) pe_int) (pg_sub (pv 0) pe_int set_list))
 (pss_cons (ps_if (pt_cmpR op_gt (pe_ix ix_list (pv 0) pe_int (fun _ _ => rfl)) pe_int (nomark _)) (pss_cons (ps_set (i := 2) nd rfl (by first | exact .inl rfl | exact .inr rfl) (pe_op op_mod (pe_callTy call_int1 rfl n_int (by decide +kernel) (pa_cons (pe_ix ix_list (pv 0) pe_int (fun _ _ => rfl)) pa_nil)) (pv 1)))
 (pss_cons (ps_asg (pe_op op_fdivW (pe_callTy call_int1 rfl n_int (by decide +kernel) (pa_cons (pe_ix ix_list (pv 0) pe_int (fun _ _ => rfl)) pa_nil)) (pv 1)) (pg_sub (pv 0) pe_int set_list))
 (pss_cons (ps_ret (pv 2))
 pss_nil))) pss_nil)
 (pss_cons (ps_par (i := 3) (j := 4) rfl nd rfl rfl (by decide) rfl rfl (pa_cons (pe_callTy call_int1 rfl n_int (by decide +kernel) (pa_cons (pe_ix ix_list (pv 0) pe_int (fun _ _ => rfl)) pa_nil)) (pa_cons (pe_callTy call_int1 rfl n_int (by decide +kernel) (pa_cons (pe_ix ix_list (pv 0) pe_int (fun _ _ => rfl)) pa_nil)) pa_nil)) (by rfl))
 (pss_cons (ps_set (i := 5) nd rfl (by first | exact .inl rfl | exact .inr rfl) (pe_op op_mod (pe_callTy call_int1 rfl n_int (by decide +kernel) (pa_cons (pe_op op_add (pe_op op_add (pe_op op_mul (pe_op op_mod (pv 3) pe_int) pe_int) (pe_op op_mul (pv 4) pe_int)) pe_int) pa_nil)) pe_int))
 (pss_cons (ps_set (i := 6) nd rfl (by first | exact .inl rfl | exact .inr rfl) (pe_op op_mod (pe_callTy call_int1 rfl n_int (by decide +kernel) (pa_cons (pe_op op_add (pe_op op_mulW (pv 5) (pv 5)) (pe_op op_mul (pv 4) pe_int)) pa_nil)) pe_int))
 (pss_cons (ps_set (i := 7) nd rfl (by first | exact .inl rfl | exact .inr rfl) (pe_op op_fdivW (pe_callTy call_int1 rfl n_int (by decide +kernel) (pa_cons (pe_op op_add (pe_op op_mul (pv 5) pe_int) (pv 6)) pa_nil)) pe_int))
 (pss_cons (ps_if (pt_cmpR op_gt (pv 1) (pe_op op_pow pe_int pe_int) (nomark _)) (pss_cons (ps_set (i := 7) nd rfl (by first | exact .inl rfl | exact .inr rfl) (pe_op op_add (pe_op op_pow (pv 7) pe_int) (pv 6)))
 pss_nil) pss_nil)
 (pss_cons (ps_ret (pe_op op_mod (pe_callTy call_int1 rfl n_int (by decide +kernel) (pa_cons (pv 7) pa_nil)) (pv 1)))
 pss_nil)))))))), ?_⟩
    refine def_B h (fun d => Nat.le_of_ble_eq_true rfl) (fun d p h => ?_)
    obtain ⟨bag_1, many_2⟩ := d
    replace h : m_pick_ok bag_1 many_2 := h
    unfold m_pick_ok at h
    show SS _ [.ow (oLq (some p) (bagR bag_1)), .fz (eI many_2), .no, .no, .no, .no, .no, .no] (BP eI p (m_pick bag_1 many_2))
    refine ss_seq1 (⟨bag_1.a, bag_1.c, bag_1.t + 1⟩ : Bag) (fun bag_3 => [.ow (oLq (some p) (bagR bag_3)), .fz (eI many_2), .no, .no, .no, .no, .no, .no]) (ss_setk (k := 2) (es_add (es_ixO (k := 2) (i := 0) rfl rfl) es_c) rfl (by show 2 < 3; decide) Wk.refl) (fun bag_3 e_bag_3 => ?_)
    replace h := h bag_3 e_bag_3
    refine ss_cut (BP eI p) (v' := m_pick_t1 many_2 bag_3) (by subst e_bag_3; rfl) ?_
    clear e_bag_3
    unfold m_pick_u1 at h
    obtain ⟨hA, hB⟩ := h
    refine ss_ifLv (BP eI p) (et_cmp (es_ixO (k := 0) (i := 0) rfl rfl) es_c q_gt) (fun hc => ?_) (fun hc => ?_)
    · replace h := hA hc; clear hA hB
      obtain ⟨g1, h⟩ := h
      refine ss_seq1 (bag_3.a % many_2) (fun told_4 => [.ow (oLq (some p) (bagR bag_3)), .fz (eI many_2), .fz (eI told_4), .no, .no, .no, .no, .no]) (ss_set (es_mod (es_int (es_ixO (k := 0) (i := 0) rfl rfl)) (es_var 1 rfl) g1) Wk.refl) (fun told_4 e_told_4 => ?_)
      replace h := h told_4 e_told_4
      obtain ⟨g2, h⟩ := h
      refine ss_seq1 (⟨bag_3.a / many_2, bag_3.c, bag_3.t⟩ : Bag) (fun bag_5 => [.ow (oLq (some p) (bagR bag_5)), .fz (eI many_2), .fz (eI told_4), .no, .no, .no, .no, .no]) (ss_setk (k := 0) (es_fdivW (es_int (es_ixO (k := 0) (i := 0) rfl rfl)) (es_var 1 rfl) g2) rfl (by show 0 < 3; decide) Wk.refl) (fun bag_5 e_bag_5 => ?_)
      replace h := h bag_5 e_bag_5
      refine ss_retq (es_var 2 rfl) ?_
      subst e_bag_5 e_told_4
      exact ⟨rfl, rfl⟩
    · replace h := hB hc; clear hA hB
      refine ss_nxq ?_
      refine ss_seq2 bag_3.c bag_3.t (fun seed_6 turn_7 => [.ow (oLq (some p) (bagR bag_3)), .fz (eI many_2), .no, .fz (eI seed_6), .fz (eI turn_7), .no, .no, .no]) (ss_parM (am_fz (es_int (es_ixO (k := 1) (i := 0) rfl rfl)) (am_fz (es_int (es_ixO (k := 2) (i := 0) rfl rfl)) am_nil)) Wk.refl) (fun seed_6 e_seed_6 turn_7 e_turn_7 => ?_)
      replace h := h seed_6 e_seed_6 turn_7 e_turn_7
      refine ss_seq1 (((((seed_6 % 2147483629) * 48271) + (turn_7 * 69621)) + 12345) % 2147483647) (fun first_8 => [.ow (oLq (some p) (bagR bag_3)), .fz (eI many_2), .no, .fz (eI seed_6), .fz (eI turn_7), .fz (eI first_8), .no, .no]) (ss_set (es_mod (es_int (es_add (es_add (es_mul (es_mod (es_var 3 rfl) es_c (by decide)) es_c (.inr (by decide))) (es_mul (es_var 4 rfl) es_c (.inr (by decide)))) es_c)) es_c (by decide)) Wk.refl) (fun first_8 e_first_8 => ?_)
      replace h := h first_8 e_first_8
      obtain ⟨g3, h⟩ := h
      refine ss_seq1 (((first_8 * first_8) + (turn_7 * 40692)) % 2147483587) (fun second_9 => [.ow (oLq (some p) (bagR bag_3)), .fz (eI many_2), .no, .fz (eI seed_6), .fz (eI turn_7), .fz (eI first_8), .fz (eI second_9), .no]) (ss_set (es_mod (es_int (es_add (es_mulW (es_var 5 rfl) (es_var 5 rfl) g3) (es_mul (es_var 4 rfl) es_c (.inr (by decide))))) es_c (by decide)) Wk.refl) (fun second_9 e_second_9 => ?_)
      replace h := h second_9 e_second_9
      refine ss_seq1 (((first_8 * 2147483587) + second_9) / 32) (fun drawn_10 => [.ow (oLq (some p) (bagR bag_3)), .fz (eI many_2), .no, .fz (eI seed_6), .fz (eI turn_7), .fz (eI first_8), .fz (eI second_9), .fz (eI drawn_10)]) (ss_set (es_fdivW (es_int (es_add (es_mul (es_var 5 rfl) es_c (.inr (by decide))) (es_var 6 rfl))) es_c ⟨by decide, by decide +kernel⟩) Wk.refl) (fun drawn_10 e_drawn_10 => ?_)
      replace h := h drawn_10 e_drawn_10
      obtain ⟨hA, hB, h⟩ := h
      refine ss_ifj (α := Int) (
let drawn_11 := (drawn_10 ^ 8) + second_9
drawn_11) (
drawn_10) (fun j_12 => [.ow (oLq (some p) (bagR bag_3)), .fz (eI many_2), .no, .fz (eI seed_6), .fz (eI turn_7), .fz (eI first_8), .fz (eI second_9), .fz (eI j_12)]) (et_cmp (es_var 1 rfl) (es_pow es_c es_c ⟨by decide, by decide, by decide⟩) q_gt) (fun hc => ?_) (fun hc => ?_) (fun j_12 e_j_12 => ?_)
      · replace h := hA hc; clear hA hB
        obtain ⟨g4, h⟩ := h
        refine ss_seq1 ((drawn_10 ^ 8) + second_9) (fun drawn_11 => [.ow (oLq (some p) (bagR bag_3)), .fz (eI many_2), .no, .fz (eI seed_6), .fz (eI turn_7), .fz (eI first_8), .fz (eI second_9), .fz (eI drawn_11)]) (ss_set (es_add (es_pow (es_var 7 rfl) es_c ⟨by decide, by decide, g4⟩) (es_var 6 rfl)) Wk.refl) (fun drawn_11 e_drawn_11 => ?_)
        replace h := h drawn_11 e_drawn_11
        subst e_drawn_11
        exact ss_nx ⟨.inr rfl, ⟨.inr rfl, ⟨.inr rfl, ⟨.inr rfl, ⟨.inr rfl, ⟨.inr rfl, ⟨.inr rfl, ⟨.inr rfl, trivial⟩⟩⟩⟩⟩⟩⟩⟩
      · replace h := hB hc; clear hA hB
        exact ss_nx ⟨.inr rfl, ⟨.inr rfl, ⟨.inr rfl, ⟨.inr rfl, ⟨.inr rfl, ⟨.inr rfl, ⟨.inr rfl, ⟨.inr rfl, trivial⟩⟩⟩⟩⟩⟩⟩⟩
      clear hA hB; replace h := h j_12 e_j_12
      obtain ⟨g5, h⟩ := h
      refine ss_retq (es_mod (es_int (es_var 7 rfl)) (es_var 1 rfl) g5) ?_
      subst e_j_12 e_drawn_10 e_second_9 e_first_8 e_turn_7 e_seed_6
      exact ⟨rfl, rfl⟩
end
def m_three (bag_1 : Bag) (most_2 : Int) : (Int × Int × Int) × Bag :=
let rate_4 := (2 * ((m_pick ((m_pick bag_1 2).2) (nth ([5, 5 * (10 ^ 29)] : List Int) ((m_pick bag_1 2).1))).1)) + 1
let bag_3 := (m_pick ((m_pick bag_1 2).2) (nth ([5, 5 * (10 ^ 29)] : List Int) ((m_pick bag_1 2).1))).2
((1 + ((m_pick bag_3 most_2).1), rate_4, (m_pick ((m_pick ((m_pick bag_3 most_2).2) 2).2) (nth ([9, (10 ^ 30) + 1] : List Int) ((m_pick ((m_pick bag_3 most_2).2) 2).1))).1), (m_pick ((m_pick ((m_pick bag_3 most_2).2) 2).2) (nth ([9, (10 ^ 30) + 1] : List Int) ((m_pick ((m_pick bag_3 most_2).2) 2).1))).2)
def m_three_ok (bag_1 : Bag) (most_2 : Int) : Prop :=
(m_pick_ok bag_1 2) ∧ (0 ≤ ((m_pick bag_1 2).1) ∧ ((m_pick bag_1 2).1) < ([5, 5 * (10 ^ 29)] : List Int).length) ∧ (m_pick_ok ((m_pick bag_1 2).2) (nth ([5, 5 * (10 ^ 29)] : List Int) ((m_pick bag_1 2).1))) ∧ (∀ rate_4, rate_4 = ((2 * ((m_pick ((m_pick bag_1 2).2) (nth ([5, 5 * (10 ^ 29)] : List Int) ((m_pick bag_1 2).1))).1)) + 1) → ∀ bag_3, bag_3 = ((m_pick ((m_pick bag_1 2).2) (nth ([5, 5 * (10 ^ 29)] : List Int) ((m_pick bag_1 2).1))).2) → (m_pick_ok bag_3 most_2) ∧ (m_pick_ok ((m_pick bag_3 most_2).2) 2) ∧ (0 ≤ ((m_pick ((m_pick bag_3 most_2).2) 2).1) ∧ ((m_pick ((m_pick bag_3 most_2).2) 2).1) < ([9, (10 ^ 30) + 1] : List Int).length) ∧ (m_pick_ok ((m_pick ((m_pick bag_3 most_2).2) 2).2) (nth ([9, (10 ^ 30) + 1] : List Int) ((m_pick ((m_pick bag_3 most_2).2) 2).1))) ∧ True)
def sp_three (K : PySem.W.Frag) (CT : Addr) : Sp := spB (ι := Bag × Int) (fun d => bagR d.1) (fun d => [eI d.2]) (fun d => m_three_ok d.1 d.2) (fun d => bagR (m_three d.1 d.2).2) (fun d => (eP3 K eI eI eI) ((m_three d.1 d.2).1))
abbrev s_three : Stmt := top 36
abbrev N_three : List Str := ["_law_bag_here", "_law_most", "_law_rate"]
theorem sc_three : FnScope N_three ["_law_bag_here", "_law_most"] (defScope s_three) := ⟨rfl, rfl, rfl, by decide +kernel, rfl, by decide +kernel, by decide +kernel⟩
section
variable {P : Program} {w : World} {K : PySem.W.Frag} {mg : Str → Option Value} {base : Heap} {CT : Addr}
theorem ok_three {f : Addr} {fd : FuncData} (F : Fun K "_law_three" "_law_three" s_three f fd) {a_pick : Addr} {fd_pick : FuncData} (F_pick : Fun K "_law_pick" "_law_pick" s_pick a_pick fd_pick) (G_pick : FnG P w K mg base CX0 1 a_pick fd_pick ["_law_bag_here", "_law_many"] (sp_pick K CT)) (j_pick : mg "_law_pick" = some (.ref a_pick)) (b_pick : Binds K fd_pick ["_law_bag_here", "_law_many"] []) : FnG P w K mg base CX0 2 f fd ["_law_bag_here", "_law_most"] (sp_three K CT) := by
  refine Fun.okG F sc_three (fun vs H Q E h => ?_) (fun cdv A outer s H vs Q E hG hr h => ?_)
  · obtain ⟨d, F, p, o, ws, rfl, _, _, _, _, _, h, _⟩ := h
    exact congrArg (· + 1) h.len
  · have nd := sc_three.nd
    have hU := hr.units
    refine ⟨_, (pss_cons (ps_set (i := 2) nd rfl (by first | exact .inl rfl | exact .inr rfl) (pe_op op_add (pe_op op_mul pe_int (pg_call G_pick hG (hr.mono (by decide)) rfl j_pick F_pick.kp b_pick .nil pass0 (pa_cons (pv 0) (pa_cons (pe_ix ix_list (pe_lst (pa_cons pe_int (pa_cons (pe_op op_mul pe_int (pe_op op_pow pe_int pe_int)) pa_nil))) (pg_call G_pick hG (hr.mono (by decide)) rfl j_pick F_pick.kp b_pick .nil pass0 (pa_cons (pv 0) (pa_cons pe_int pa_nil))) (fun _ _ => rfl)) pa_nil)))) pe_int))
 (pss_cons (ps_ret (pe_tup (pa_cons (pe_op op_add pe_int (pg_call G_pick hG (hr.mono (by decide)) rfl j_pick F_pick.kp b_pick .nil pass0 (pa_cons (pv 0) (pa_cons (pv 1) pa_nil)))) (pa_cons (pv 2) (pa_cons (pg_call G_pick hG (hr.mono (by decide)) rfl j_pick F_pick.kp b_pick .nil pass0 (pa_cons (pv 0) (pa_cons (pe_ix ix_list (pe_lst (pa_cons pe_int (pa_cons (pe_op op_add (pe_op op_pow pe_int pe_int) pe_int) pa_nil))) (pg_call G_pick hG (hr.mono (by decide)) rfl j_pick F_pick.kp b_pick .nil pass0 (pa_cons (pv 0) (pa_cons pe_int pa_nil))) (fun _ _ => rfl)) pa_nil))) pa_nil)))))
 pss_nil)), ?_⟩
    refine def_B h (fun d => Nat.le_of_ble_eq_true rfl) (fun d p h => ?_)
    obtain ⟨bag_1, most_2⟩ := d
    replace h : m_three_ok bag_1 most_2 := h
    unfold m_three_ok at h
    show SS _ [.ow (oLq (some p) (bagR bag_1)), .fz (eI most_2), .no] (BP (eP3 K eI eI eI) p (m_three bag_1 most_2))
    obtain ⟨g1, g2, g3, h⟩ := h
    refine ss_seq2 ((2 * ((m_pick ((m_pick bag_1 2).2) (nth ([5, 5 * (10 ^ 29)] : List Int) ((m_pick bag_1 2).1))).1)) + 1) ((m_pick ((m_pick bag_1 2).2) (nth ([5, 5 * (10 ^ 29)] : List Int) ((m_pick bag_1 2).1))).2) (fun rate_4 bag_3 => [.ow (oLq (some p) (bagR bag_3)), .fz (eI most_2), .fz (eI rate_4)]) (ss_set (es_add (es_mul es_c (es_callB ((m_pick bag_1 2).2, nth ([5, 5 * (10 ^ 29)] : List Int) ((m_pick bag_1 2).1)) 0 rfl (as_cons (es_ixL (e := eI) (es_frs eI ([5, 5 * (10 ^ 29)] : List Int) (en_lst (as_cons es_c (as_cons (es_mul es_c (es_pow es_c es_c ⟨by decide, by decide, by decide⟩) (.inl (by decide))) as_nil)))) (es_callB (bag_1, 2) 0 rfl (as_cons es_c as_nil) rfl g1) g2) as_nil) rfl g3) (.inl (by decide))) es_c) Wk.refl) (fun rate_4 e_rate_4 bag_3 e_bag_3 => ?_)
    replace h := h rate_4 e_rate_4 bag_3 e_bag_3
    obtain ⟨g4, g5, g6, g7, h⟩ := h
    refine ss_retq (es_tup (K := K) (as_cons (es_add es_c (es_callB (bag_3, most_2) 0 rfl (as_cons (es_var 1 rfl) as_nil) rfl g4)) (as_cons (es_var 2 rfl) (as_cons (es_callB ((m_pick ((m_pick bag_3 most_2).2) 2).2, nth ([9, (10 ^ 30) + 1] : List Int) ((m_pick ((m_pick bag_3 most_2).2) 2).1)) 0 rfl (as_cons (es_ixL (e := eI) (es_frs eI ([9, (10 ^ 30) + 1] : List Int) (en_lst (as_cons es_c (as_cons (es_add (es_pow es_c es_c ⟨by decide, by decide, by decide⟩) es_c) as_nil)))) (es_callB ((m_pick bag_3 most_2).2, 2) 0 rfl (as_cons es_c as_nil) rfl g5) g6) as_nil) rfl g7) as_nil)))) ?_
    subst e_bag_3 e_rate_4
    exact ⟨rfl, rfl⟩
end
def m_spans_b1 (wide_3 : Int) (s_7 : Bag × (List (Int × Int)) × Int) (x_8 : Int) : Bag × (List (Int × Int)) × Int :=
let at_10 := s_7.2.2 + (nth ([0, 1, (m_pick s_7.1 wide_3).1] : List Int) ((m_pick ((m_pick s_7.1 wide_3).2) 3).1))
let bag_9 := (m_pick ((m_pick s_7.1 wide_3).2) 3).2
let found_11 := s_7.2.1 ++ [(at_10, (at_10 + 1) + ((m_pick bag_9 wide_3).1))]
let bag_12 := (m_pick bag_9 wide_3).2
let at_13 := (nth found_11 (found_11.length - 1)).2
(bag_12, found_11, at_13)
def m_spans_o1 (wide_3 : Int) (s_7 : Bag × (List (Int × Int)) × Int) (x_8 : Int) : Prop :=
(m_pick_ok s_7.1 wide_3) ∧ (m_pick_ok ((m_pick s_7.1 wide_3).2) 3) ∧ (0 ≤ ((m_pick ((m_pick s_7.1 wide_3).2) 3).1) ∧ ((m_pick ((m_pick s_7.1 wide_3).2) 3).1) < ([0, 1, (m_pick s_7.1 wide_3).1] : List Int).length) ∧ (∀ at_10, at_10 = (s_7.2.2 + (nth ([0, 1, (m_pick s_7.1 wide_3).1] : List Int) ((m_pick ((m_pick s_7.1 wide_3).2) 3).1))) → ∀ bag_9, bag_9 = ((m_pick ((m_pick s_7.1 wide_3).2) 3).2) → (m_pick_ok bag_9 wide_3) ∧ (s_7.2.1.length < 16000000) ∧ (∀ found_11, found_11 = (s_7.2.1 ++ [(at_10, (at_10 + 1) + ((m_pick bag_9 wide_3).1))]) → ∀ bag_12, bag_12 = ((m_pick bag_9 wide_3).2) → (found_11 ≠ []) ∧ (∀ at_13, at_13 = ((nth found_11 (found_11.length - 1)).2) → True)))
def m_spans (bag_1 : Bag) (many_2 : Int) (wide_3 : Int) : (List (Int × Int)) × Bag :=
let at_5 := nth ([0, (m_pick bag_1 wide_3).1] : List Int) ((m_pick ((m_pick bag_1 wide_3).2) 2).1)
let bag_4 := (m_pick ((m_pick bag_1 wide_3).2) 2).2
let f_14 := List.foldl (m_spans_b1 wide_3) ((m_pick bag_4 (many_2 + 1)).2, ([] : List (Int × Int)), at_5) (rng 0 ((m_pick bag_4 (many_2 + 1)).1))
(f_14.2.1, f_14.1)
def m_spans_ok (bag_1 : Bag) (many_2 : Int) (wide_3 : Int) : Prop :=
(m_pick_ok bag_1 wide_3) ∧ (m_pick_ok ((m_pick bag_1 wide_3).2) 2) ∧ (0 ≤ ((m_pick ((m_pick bag_1 wide_3).2) 2).1) ∧ ((m_pick ((m_pick bag_1 wide_3).2) 2).1) < ([0, (m_pick bag_1 wide_3).1] : List Int).length) ∧ (∀ at_5, at_5 = (nth ([0, (m_pick bag_1 wide_3).1] : List Int) ((m_pick ((m_pick bag_1 wide_3).2) 2).1)) → ∀ bag_4, bag_4 = ((m_pick ((m_pick bag_1 wide_3).2) 2).2) → (m_pick_ok bag_4 (many_2 + 1)) ∧ (-(2 ^ 62) ≤ ((m_pick bag_4 (many_2 + 1)).1) ∧ ((m_pick bag_4 (many_2 + 1)).1) < 2 ^ 62) ∧ (okF (m_spans_o1 wide_3) (m_spans_b1 wide_3) ((m_pick bag_4 (many_2 + 1)).2, ([] : List (Int × Int)), at_5) (rng 0 ((m_pick bag_4 (many_2 + 1)).1))) ∧ (∀ f_14, f_14 = List.foldl (m_spans_b1 wide_3) ((m_pick bag_4 (many_2 + 1)).2, ([] : List (Int × Int)), at_5) (rng 0 ((m_pick bag_4 (many_2 + 1)).1)) → True))
def sp_spans (K : PySem.W.Frag) (CT : Addr) : Sp := spB (ι := Bag × Int × Int) (fun d => bagR d.1) (fun d => [eI d.2.1, eI d.2.2]) (fun d => m_spans_ok d.1 d.2.1 d.2.2) (fun d => bagR (m_spans d.1 d.2.1 d.2.2).2) (fun d => (eLs (eP2 K eI eI)) ((m_spans d.1 d.2.1 d.2.2).1))
abbrev s_spans : Stmt := top 37
abbrev N_spans : List Str := ["_law_bag_here", "_law_many", "_law_wide", "_law_found", "_law_at", "_law_turn"]
theorem sc_spans : FnScope N_spans ["_law_bag_here", "_law_many", "_law_wide"] (defScope s_spans) := ⟨rfl, rfl, rfl, by decide +kernel, rfl, by decide +kernel, by decide +kernel⟩
section
variable {P : Program} {w : World} {K : PySem.W.Frag} {mg : Str → Option Value} {base : Heap} {CT : Addr}
theorem ok_spans {f : Addr} {fd : FuncData} (F : Fun K "_law_spans" "_law_spans" s_spans f fd) {a_pick : Addr} {fd_pick : FuncData} (F_pick : Fun K "_law_pick" "_law_pick" s_pick a_pick fd_pick) (G_pick : FnG P w K mg base CX0 1 a_pick fd_pick ["_law_bag_here", "_law_many"] (sp_pick K CT)) (j_pick : mg "_law_pick" = some (.ref a_pick)) (b_pick : Binds K fd_pick ["_law_bag_here", "_law_many"] []) (n_range : mg "range" = none) : FnG P w K mg base CX0 2 f fd ["_law_bag_here", "_law_many", "_law_wide"] (sp_spans K CT) := by
  refine Fun.okG F sc_spans (fun vs H Q E h => ?_) (fun cdv A outer s H vs Q E hG hr h => ?_)
  · obtain ⟨d, F, p, o, ws, rfl, _, _, _, _, _, h, _⟩ := h
    exact congrArg (· + 1) h.len
  · have nd := sc_spans.nd
    have hU := hr.units
    refine ⟨_, (pss_cons (ps_par (i := 3) (j := 4) rfl nd rfl rfl (by decide) rfl rfl (pa_cons (pe_lst pa_nil) (pa_cons (pe_ix ix_list (pe_lst (pa_cons pe_int (pa_cons (pg_call G_pick hG (hr.mono (by decide)) rfl j_pick F_pick.kp b_pick .nil pass0 (pa_cons (pv 0) (pa_cons (pv 2) pa_nil))) pa_nil))) (pg_call G_pick hG (hr.mono (by decide)) rfl j_pick F_pick.kp b_pick .nil pass0 (pa_cons (pv 0) (pa_cons pe_int pa_nil))) (fun _ _ => rfl)) pa_nil)) (by rfl))
 (pss_cons (ps_for PassesOwn.never rfl (pi_range1 rfl n_range (pa_cons (pg_call G_pick hG (hr.mono (by decide)) rfl j_pick F_pick.kp b_pick .nil pass0 (pa_cons (pv 0) (pa_cons (pe_op op_add (pv 1) pe_int) pa_nil))) pa_nil)) (pg_name (i := 5) nd rfl (by first | exact .inl rfl | exact .inr rfl)) (pss_cons (ps_set (i := 4) nd rfl (by first | exact .inl rfl | exact .inr rfl) (pe_op op_add (pv 4) (pe_ix ix_list (pe_lst (pa_cons pe_int (pa_cons pe_int (pa_cons (pg_call G_pick hG (hr.mono (by decide)) rfl j_pick F_pick.kp b_pick .nil pass0 (pa_cons (pv 0) (pa_cons (pv 2) pa_nil))) pa_nil)))) (pg_call G_pick hG (hr.mono (by decide)) rfl j_pick F_pick.kp b_pick .nil pass0 (pa_cons (pv 0) (pa_cons pe_int pa_nil))) (fun _ _ => rfl))))
 (pss_cons (ps_expr (pe_bm PySem.F.plainAttrs_list PySem.F.slot_list_append PySem.F.type_list_append mt_append (pv 3) (pa_cons (pe_tup (pa_cons (pv 4) (pa_cons (pe_op op_add (pe_op op_add (pv 4) pe_int) (pg_call G_pick hG (hr.mono (by decide)) rfl j_pick F_pick.kp b_pick .nil pass0 (pa_cons (pv 0) (pa_cons (pv 2) pa_nil)))) pa_nil))) pa_nil)))
 (pss_cons (ps_set (i := 4) nd rfl (by first | exact .inl rfl | exact .inr rfl) (pe_ix ix_tup (pe_ix ix_list (pv 3) (pe_un un_neg pe_int) (fun _ _ => rfl)) pe_int (fun _ _ => rfl)))
 pss_nil))))
 (pss_cons (ps_ret (pv 3))
 pss_nil))), ?_⟩
    refine def_B h (fun d => Nat.le_of_ble_eq_true rfl) (fun d p h => ?_)
    obtain ⟨bag_1, many_2, wide_3⟩ := d
    replace h : m_spans_ok bag_1 many_2 wide_3 := h
    unfold m_spans_ok at h
    show SS _ [.ow (oLq (some p) (bagR bag_1)), .fz (eI many_2), .fz (eI wide_3), .no, .no, .no] (BP (eLs (eP2 K eI eI)) p (m_spans bag_1 many_2 wide_3))
    obtain ⟨g1, g2, g3, h⟩ := h
    refine ss_seq2 (nth ([0, (m_pick bag_1 wide_3).1] : List Int) ((m_pick ((m_pick bag_1 wide_3).2) 2).1)) ((m_pick ((m_pick bag_1 wide_3).2) 2).2) (fun at_5 bag_4 => [.ow (oLq (some p) (bagR bag_4)), .fz (eI many_2), .fz (eI wide_3), .ow (oLs (eP2 K eI eI) ([] : List (Int × Int))), .fz (eI at_5), .no]) (ss_parM (am_nwo (en_lst as_nil) (am_fzo (es_ixL (e := eI) (es_frs eI ([0, (m_pick bag_1 wide_3).1] : List Int) (en_lst (as_cons es_c (as_cons (es_callB (bag_1, wide_3) 0 rfl (as_cons (es_var 2 rfl) as_nil) rfl g1) as_nil)))) (es_callB ((m_pick bag_1 wide_3).2, 2) 0 rfl (as_cons es_c as_nil) rfl g2) g3) am_nil rfl) rfl) Wk.refl) (fun at_5 e_at_5 bag_4 e_bag_4 => ?_)
    replace h := h at_5 e_at_5 bag_4 e_bag_4
    obtain ⟨g4, g5, g12, h⟩ := h
    refine ss_seq1 (List.foldl (m_spans_b1 wide_3) ((m_pick bag_4 (many_2 + 1)).2, ([] : List (Int × Int)), at_5) (rng 0 ((m_pick bag_4 (many_2 + 1)).1))) (fun f_14 => [.ow (oLq (some p) (bagR f_14.1)), .fz (eI many_2), .fz (eI wide_3), .ow (oLs (eP2 K eI eI) f_14.2.1), .fz (eI f_14.2.2), .no]) (sf_S (e := eI) (l := (rng 0 ((m_pick bag_4 (many_2 + 1)).1))) (fun s_7 => [.ow (oLq (some p) (bagR s_7.1)), .fz (eI many_2), .fz (eI wide_3), .ow (oLs (eP2 K eI eI) s_7.2.1), .fz (eI s_7.2.2), .no]) (m_spans_b1 wide_3) (m_spans_o1 wide_3) ((m_pick bag_4 (many_2 + 1)).2, ([] : List (Int × Int)), at_5) (is_rng1 (as_cons (es_callB (bag_4, many_2 + 1) 0 rfl (as_cons (es_add (es_var 1 rfl) es_c) as_nil) rfl g4) as_nil) g5) Wk.refl g12 (fun s_7 x_8 _ h => ⟨[.ow (oLq (some p) (bagR s_7.1)), .fz (eI many_2), .fz (eI wide_3), .ow (oLs (eP2 K eI eI) s_7.2.1), .fz (eI s_7.2.2), .fz (eI x_8)], _, gs_name 5, ?_⟩) (fun _ hw => hw)) (fun f_14 e_f_14 => ?_)
    · unfold m_spans_o1 at h
      obtain ⟨g6, g7, g8, h⟩ := h
      refine ss_seq2 (s_7.2.2 + (nth ([0, 1, (m_pick s_7.1 wide_3).1] : List Int) ((m_pick ((m_pick s_7.1 wide_3).2) 3).1))) ((m_pick ((m_pick s_7.1 wide_3).2) 3).2) (fun at_10 bag_9 => [.ow (oLq (some p) (bagR bag_9)), .fz (eI many_2), .fz (eI wide_3), .ow (oLs (eP2 K eI eI) s_7.2.1), .fz (eI at_10), .fz (eI x_8)]) (ss_set (es_add (es_var 4 rfl) (es_ixL (e := eI) (es_frs eI ([0, 1, (m_pick s_7.1 wide_3).1] : List Int) (en_lst (as_cons es_c (as_cons es_c (as_cons (es_callB (s_7.1, wide_3) 0 rfl (as_cons (es_var 2 rfl) as_nil) rfl g6) as_nil))))) (es_callB ((m_pick s_7.1 wide_3).2, 3) 0 rfl (as_cons es_c as_nil) rfl g7) g8)) Wk.refl) (fun at_10 e_at_10 bag_9 e_bag_9 => ?_)
      replace h := h at_10 e_at_10 bag_9 e_bag_9
      obtain ⟨g9, g10, h⟩ := h
      refine ss_seq2 (s_7.2.1 ++ [(at_10, (at_10 + 1) + ((m_pick bag_9 wide_3).1))]) ((m_pick bag_9 wide_3).2) (fun found_11 bag_12 => [.ow (oLq (some p) (bagR bag_12)), .fz (eI many_2), .fz (eI wide_3), .ow (oLs (eP2 K eI eI) found_11), .fz (eI at_10), .fz (eI x_8)]) (ss_appendO (e := (eP2 K eI eI)) (x := (at_10, (at_10 + 1) + ((m_pick bag_9 wide_3).1))) rfl (es_tup (K := K) (as_cons (es_var 4 rfl) (as_cons (es_add (es_add (es_var 4 rfl) es_c) (es_callB (bag_9, wide_3) 0 rfl (as_cons (es_var 2 rfl) as_nil) rfl g9)) as_nil))) rfl g10 Wk.refl) (fun found_11 e_found_11 bag_12 e_bag_12 => ?_)
      replace h := h found_11 e_found_11 bag_12 e_bag_12
      obtain ⟨g11, h⟩ := h
      refine ss_seq1 ((nth found_11 (found_11.length - 1)).2) (fun at_13 => [.ow (oLq (some p) (bagR bag_12)), .fz (eI many_2), .fz (eI wide_3), .ow (oLs (eP2 K eI eI) found_11), .fz (eI at_13), .fz (eI x_8)]) (ss_set (es_ixT (k := 1) (es_ixLastO (e := (eP2 K eI eI)) (i := 3) rfl g11) rfl) Wk.refl) (fun at_13 e_at_13 => ?_)
      replace h := h at_13 e_at_13
      subst e_at_13 e_bag_12 e_found_11 e_bag_9 e_at_10
      exact ss_nx ⟨.inr rfl, ⟨.inr rfl, ⟨.inr rfl, ⟨.inr rfl, ⟨.inr rfl, ⟨.inl rfl, trivial⟩⟩⟩⟩⟩⟩
    replace h := h f_14 e_f_14
    refine ss_retO (e := (eP2 K eI eI)) (i := 3) rfl ?_
    subst e_f_14 e_bag_4 e_at_5
    exact ⟨rfl, rfl⟩
end
def m_ahead (spans_1 : List (Int × Int)) (key_2 : Int) : List (Int × Int) :=
(List.filter (fun (x_3 : Int × Int) => decide (x_3.1 < key_2)) spans_1).map fun (x_3 : Int × Int) => (x_3.1, min2 x_3.2 key_2)
def m_ahead_ok (spans_1 : List (Int × Int)) (key_2 : Int) : Prop :=
(spans_1.length < 16000000) ∧ True
def sp_ahead (K : PySem.W.Frag) (CT : Addr) : Sp := spF (ι := (List (Int × Int)) × Int) (fun d => [(eLs (eP2 K eI eI)) d.1, eI d.2]) (fun d => m_ahead_ok d.1 d.2) (fun d => (eLs (eP2 K eI eI)) (m_ahead d.1 d.2))
abbrev s_ahead : Stmt := top 38
abbrev N_ahead : List Str := ["_law_spans_here", "_law_key", "_law_first", "_law_end"]
theorem sc_ahead : FnScope N_ahead ["_law_spans_here", "_law_key"] (defScope s_ahead) := ⟨rfl, rfl, rfl, by decide +kernel, rfl, by decide +kernel, by decide +kernel⟩
section
variable {P : Program} {w : World} {K : PySem.W.Frag} {mg : Str → Option Value} {base : Heap} {CT : Addr}
theorem ok_ahead {f : Addr} {fd : FuncData} (F : Fun K "_law_ahead" "_law_ahead" s_ahead f fd) (n_min : mg "min" = none) : FnG P w K mg base CX0 1 f fd ["_law_spans_here", "_law_key"] (sp_ahead K CT) := by
  refine Fun.okG F sc_ahead (fun vs H Q E h => ?_) (fun cdv A outer s H vs Q E hG hr h => ?_)
  · obtain ⟨d, F, _, _, h, _⟩ := h
    exact h.len
  · have nd := sc_ahead.nd
    have hU := hr.units
    refine ⟨_, (pss_cons (ps_ret (pe_lc (own := [("_law_first", 2), ("_law_end", 3)]) (g := gTup K 2 (gNames [2, 3])) rfl nd (pi_list (pv 0)) (blkOk_by (own := [("_law_first", 2), ("_law_end", 3)]) (N := N_ahead) (sc := defScope s_ahead) (by decide +kernel)) (fun _ _ _ _ _ => pg_tup rfl (pgs_cons (pg_name (i := 2) nd rfl (by first | exact .inl rfl | exact .inr rfl)) (pgs_cons (pg_name (i := 3) nd rfl (by first | exact .inl rfl | exact .inr rfl)) pgs_nil))) (fun _ _ _ _ _ => pts_one (pt_cmpR op_lt (pv 2) (pv 1) (nomark _))) (fun _ _ _ _ _ => (pe_tup (pa_cons (pv 2) (pa_cons (pe_callB (call_min2 rfl) rfl n_min (by decide +kernel) (pa_cons (pv 3) (pa_cons (pv 1) pa_nil))) pa_nil))))))
 pss_nil), ?_⟩
    refine def_F h (fun d => Nat.le_of_ble_eq_true rfl) (fun d h => ?_)
    obtain ⟨spans_1, key_2⟩ := d
    replace h : m_ahead_ok spans_1 key_2 := h
    unfold m_ahead_ok at h
    show SS _ [.fz ((eLs (eP2 K eI eI)) spans_1), .fz (eI key_2), .no, .no] (FP (eLs (eP2 K eI eI)) (m_ahead spans_1 key_2))
    obtain ⟨g1, h⟩ := h
    refine ss_retq (es_frs (eP2 K eI eI) ((List.filter (fun (x_3 : Int × Int) => decide (x_3.1 < key_2)) spans_1).map fun (x_3 : Int × Int) => (x_3.1, min2 x_3.2 key_2)) (en_lcFT (eP2 K eI eI) (fun (x_3 : Int × Int) => (x_3.1, min2 x_3.2 key_2)) (en_lcS (e := (eP2 K eI eI)) (l := spans_1) (f := (fun (x_3 : Int × Int) => (eP2 K eI eI) (x_3.1, min2 x_3.2 key_2))) (is := [2, 3]) (vs := [2, 3]) (fun (x_3 : Int × Int) => decide (x_3.1 < key_2)) (fun (x_3 : Int × Int) => [.fz ((eLs (eP2 K eI eI)) spans_1), .fz (eI key_2), .fz (eI x_3.1), .fz (eI x_3.2)]) (is_list (e := (eP2 K eI eI)) (es_var 0 rfl)) g1 (fun _ h => h) (fun x_3 => gs_tup (gs_cons (gs_name 2) (gs_cons (gs_name 3) gs_nil))) (fun x_3 hx => (et_cmp (es_var 2 rfl) (es_var 1 rfl) q_lt)) (fun x_3 hx hp => (es_tup (K := K) (as_cons (es_var 2 rfl) (as_cons (es_min2 (es_var 3 rfl) (es_var 1 rfl)) as_nil))))))) ?_
    exact rfl
end
def m_right_t3 (table_5 : Tbl) (spans_6 : List (Int × Int)) (depth_10 : Int) (j_20 : Bag × Int) (many_21 : Int) (s_24 : Int) (x_25 : Int) (key_26 : Option Int) : Int :=
if (decide (many_21 ≤ x_25)) = true then (
s_24)
else (
let before_29 := unO key_26
let later_30 := m_nth_key table_5 spans_6 depth_10 j_20.2 (x_25 + 1)
before_29)
def m_right_u3 (table_5 : Tbl) (spans_6 : List (Int × Int)) (depth_10 : Int) (j_20 : Bag × Int) (many_21 : Int) (s_24 : Int) (x_25 : Int) (key_26 : Option Int) : Prop :=
((decide (many_21 ≤ x_25)) = true → (key_26.isSome = false ∧ (True))) ∧ ((decide (many_21 ≤ x_25)) = false → ((key_26.isSome = true) ∧ (m_Table_tail_ok table_5 (unO key_26) depth_10) ∧ ((!decide ((m_Table_tail table_5 (unO key_26) depth_10) = j_20.2)) = false → key_26.isSome = true) ∧ ((!decide ((m_Table_tail table_5 (unO key_26) depth_10) = j_20.2)) || (decide ((unO key_26) ≤ s_24))) = false ∧ ((∀ x_28 ∈ spans_6, key_26.isSome = true) ∧ (spans_6.length < 16000000) ∧ (((List.filter (fun (x_28 : Int × Int) => (decide (x_28.1 ≤ (unO key_26))) && (decide ((unO key_26) < x_28.2))) spans_6).map fun (x_28 : Int × Int) => (1 : Int)).isEmpty) = false ∧ ((key_26.isSome = true) ∧ (m_ahead_ok spans_6 (unO key_26)) ∧ (m_tail_count_ok table_5 (m_ahead spans_6 (unO key_26)) depth_10 j_20.2) ∧ (!decide ((m_tail_count table_5 (m_ahead spans_6 (unO key_26)) depth_10 j_20.2) = x_25)) = false ∧ ((key_26.isSome = true) ∧ (∀ before_29, before_29 = (unO key_26) → (m_nth_key_ok table_5 spans_6 depth_10 j_20.2 (x_25 + 1)) ∧ (∀ later_30, later_30 = (m_nth_key table_5 spans_6 depth_10 j_20.2 (x_25 + 1)) → (later_30.isSome = true → later_30.isSome = true) ∧ (later_30.isSome = true → key_26.isSome = true) ∧ (later_30.isSome = true → (decide ((unO later_30) ≤ (unO key_26))) = false → later_30.isSome = true) ∧ (later_30.isSome = true → (decide ((unO later_30) ≤ (unO key_26))) = false → key_26.isSome = true) ∧ (later_30.isSome = true → (decide ((unO later_30) ≤ (unO key_26))) = false → 0 ≤ depth_10 ∧ depth_10 ≤ 1000000) ∧ (later_30.isSome = true → (decide ((unO later_30) ≤ (unO key_26))) = false → (0 : Int) < (1 * 2 ^ depth_10.toNat)) ∧ (later_30.isSome && ((decide ((unO later_30) ≤ (unO key_26))) || (!decide ((((unO later_30) - (unO key_26)) % (1 * 2 ^ depth_10.toNat)) = 0)))) = false ∧ (True))))))))
def m_right_b2 (table_5 : Tbl) (spans_6 : List (Int × Int)) (depth_10 : Int) (j_20 : Bag × Int) (many_21 : Int) (s_24 : Int) (x_25 : Int) : Int :=
let key_26 := m_nth_key table_5 spans_6 depth_10 j_20.2 x_25
m_right_t3 table_5 spans_6 depth_10 j_20 many_21 s_24 x_25 key_26
def m_right_o2 (table_5 : Tbl) (spans_6 : List (Int × Int)) (depth_10 : Int) (j_20 : Bag × Int) (many_21 : Int) (s_24 : Int) (x_25 : Int) : Prop :=
(m_nth_key_ok table_5 spans_6 depth_10 j_20.2 x_25) ∧ (∀ key_26, key_26 = (m_nth_key table_5 spans_6 depth_10 j_20.2 x_25) → m_right_u3 table_5 spans_6 depth_10 j_20 many_21 s_24 x_25 key_26)
def m_right_b1 (table_5 : Tbl) (spans_6 : List (Int × Int)) (s_7 : Bag) (x_8 : Int) : Bag :=
let depth_10 := (m_pick ((m_pick s_7 3).2) (nth ([8, 60, 101] : List Int) ((m_pick s_7 3).1))).1
let bag_9 := (m_pick ((m_pick s_7 3).2) (nth ([8, 60, 101] : List Int) ((m_pick s_7 3).1))).2
let tail_12 := (m_pick bag_9 (1 * 2 ^ depth_10.toNat)).1
let bag_11 := (m_pick bag_9 (1 * 2 ^ depth_10.toNat)).2
let j_20 : Bag × Int := (if ((!spans_6.isEmpty) && (decide (((m_pick bag_11 2).1) = 0))) = true then (
let t_15 := nth spans_6 ((m_pick (if (!spans_6.isEmpty) = true then (m_pick bag_11 2).2 else bag_11) (spans_6.length : Int)).1)
let bag_16 := (m_pick (if (!spans_6.isEmpty) = true then (m_pick bag_11 2).2 else bag_11) (spans_6.length : Int)).2
let key_18 := t_15.1 + ((m_pick bag_16 (t_15.2 - t_15.1)).1)
let bag_17 := (m_pick bag_16 (t_15.2 - t_15.1)).2
let tail_19 := m_Table_tail table_5 key_18 depth_10
(bag_17, tail_19))
else (
((if (!spans_6.isEmpty) = true then (m_pick bag_11 2).2 else bag_11), tail_12)))
let many_21 := m_tail_count table_5 spans_6 depth_10 j_20.2
let before_22 := -1
let f_31 := List.foldl (m_right_b2 table_5 spans_6 depth_10 j_20 many_21) before_22 (ssort ([0, max2 0 (many_21 - 1), (m_pick j_20.1 (many_21 + 1)).1, (m_pick ((m_pick j_20.1 (many_21 + 1)).2) (many_21 + 1)).1] : List Int))
(m_pick ((m_pick j_20.1 (many_21 + 1)).2) (many_21 + 1)).2
def m_right_o1 (table_5 : Tbl) (spans_6 : List (Int × Int)) (s_7 : Bag) (x_8 : Int) : Prop :=
(m_pick_ok s_7 3) ∧ (0 ≤ ((m_pick s_7 3).1) ∧ ((m_pick s_7 3).1) < ([8, 60, 101] : List Int).length) ∧ (m_pick_ok ((m_pick s_7 3).2) (nth ([8, 60, 101] : List Int) ((m_pick s_7 3).1))) ∧ (∀ depth_10, depth_10 = ((m_pick ((m_pick s_7 3).2) (nth ([8, 60, 101] : List Int) ((m_pick s_7 3).1))).1) → ∀ bag_9, bag_9 = ((m_pick ((m_pick s_7 3).2) (nth ([8, 60, 101] : List Int) ((m_pick s_7 3).1))).2) → (0 ≤ depth_10 ∧ depth_10 ≤ 1000000) ∧ (m_pick_ok bag_9 (1 * 2 ^ depth_10.toNat)) ∧ (∀ tail_12, tail_12 = ((m_pick bag_9 (1 * 2 ^ depth_10.toNat)).1) → ∀ bag_11, bag_11 = ((m_pick bag_9 (1 * 2 ^ depth_10.toNat)).2) → ((!spans_6.isEmpty) = true → m_pick_ok bag_11 2) ∧ (((!spans_6.isEmpty) && (decide (((m_pick bag_11 2).1) = 0))) = true → ((m_pick_ok (if (!spans_6.isEmpty) = true then (m_pick bag_11 2).2 else bag_11) (spans_6.length : Int)) ∧ (0 ≤ ((m_pick (if (!spans_6.isEmpty) = true then (m_pick bag_11 2).2 else bag_11) (spans_6.length : Int)).1) ∧ ((m_pick (if (!spans_6.isEmpty) = true then (m_pick bag_11 2).2 else bag_11) (spans_6.length : Int)).1) < spans_6.length) ∧ (∀ t_15, t_15 = (nth spans_6 ((m_pick (if (!spans_6.isEmpty) = true then (m_pick bag_11 2).2 else bag_11) (spans_6.length : Int)).1)) → ∀ bag_16, bag_16 = ((m_pick (if (!spans_6.isEmpty) = true then (m_pick bag_11 2).2 else bag_11) (spans_6.length : Int)).2) → (m_pick_ok bag_16 (t_15.2 - t_15.1)) ∧ (∀ key_18, key_18 = (t_15.1 + ((m_pick bag_16 (t_15.2 - t_15.1)).1)) → ∀ bag_17, bag_17 = ((m_pick bag_16 (t_15.2 - t_15.1)).2) → (m_Table_tail_ok table_5 key_18 depth_10) ∧ (∀ tail_19, tail_19 = (m_Table_tail table_5 key_18 depth_10) → (m_ahead_ok spans_6 key_18) ∧ (m_tail_count_ok table_5 (m_ahead spans_6 key_18) depth_10 tail_19) ∧ (m_nth_key_ok table_5 spans_6 depth_10 tail_19 (m_tail_count table_5 (m_ahead spans_6 key_18) depth_10 tail_19)) ∧ ((m_nth_key table_5 spans_6 depth_10 tail_19 (m_tail_count table_5 (m_ahead spans_6 key_18) depth_10 tail_19)).isSome = true) ∧ (!decide ((unO (m_nth_key table_5 spans_6 depth_10 tail_19 (m_tail_count table_5 (m_ahead spans_6 key_18) depth_10 tail_19))) = key_18)) = false ∧ (True)))))) ∧ (((!spans_6.isEmpty) && (decide (((m_pick bag_11 2).1) = 0))) = false → (True)) ∧ (∀ j_20 : Bag × Int, j_20 = (if ((!spans_6.isEmpty) && (decide (((m_pick bag_11 2).1) = 0))) = true then (
let t_15 := nth spans_6 ((m_pick (if (!spans_6.isEmpty) = true then (m_pick bag_11 2).2 else bag_11) (spans_6.length : Int)).1)
let bag_16 := (m_pick (if (!spans_6.isEmpty) = true then (m_pick bag_11 2).2 else bag_11) (spans_6.length : Int)).2
let key_18 := t_15.1 + ((m_pick bag_16 (t_15.2 - t_15.1)).1)
let bag_17 := (m_pick bag_16 (t_15.2 - t_15.1)).2
let tail_19 := m_Table_tail table_5 key_18 depth_10
(bag_17, tail_19))
else (
((if (!spans_6.isEmpty) = true then (m_pick bag_11 2).2 else bag_11), tail_12))) → ((m_tail_count_ok table_5 spans_6 depth_10 j_20.2) ∧ (∀ many_21, many_21 = (m_tail_count table_5 spans_6 depth_10 j_20.2) → ∀ before_22, before_22 = (-1) → (m_pick_ok j_20.1 (many_21 + 1)) ∧ (m_pick_ok ((m_pick j_20.1 (many_21 + 1)).2) (many_21 + 1)) ∧ (([0, max2 0 (many_21 - 1), (m_pick j_20.1 (many_21 + 1)).1, (m_pick ((m_pick j_20.1 (many_21 + 1)).2) (many_21 + 1)).1] : List Int).length ≤ 60) ∧ (okF (m_right_o2 table_5 spans_6 depth_10 j_20 many_21) (m_right_b2 table_5 spans_6 depth_10 j_20 many_21) before_22 (ssort ([0, max2 0 (many_21 - 1), (m_pick j_20.1 (many_21 + 1)).1, (m_pick ((m_pick j_20.1 (many_21 + 1)).2) (many_21 + 1)).1] : List Int))) ∧ (∀ f_31, f_31 = List.foldl (m_right_b2 table_5 spans_6 depth_10 j_20 many_21) before_22 (ssort ([0, max2 0 (many_21 - 1), (m_pick j_20.1 (many_21 + 1)).1, (m_pick ((m_pick j_20.1 (many_21 + 1)).2) (many_21 + 1)).1] : List Int)) → (m_nth_key_ok table_5 spans_6 depth_10 j_20.2 many_21) ∧ ((m_nth_key table_5 spans_6 depth_10 j_20.2 many_21).isSome) = false ∧ (True)))))))
def m_right (bag_1 : Bag) : Bool × Bag :=
let t_2 := (m_three bag_1 9).1
let bag_3 := (m_three bag_1 9).2
let table_5 := (⟨t_2.1, t_2.2.1, t_2.2.2⟩ : Tbl)
let spans_6 := (m_spans ((m_pick bag_3 2).2) 12 (nth ([50, 10 ^ 28] : List Int) ((m_pick bag_3 2).1))).1
let bag_4 := (m_spans ((m_pick bag_3 2).2) 12 (nth ([50, 10 ^ 28] : List Int) ((m_pick bag_3 2).1))).2
let f_32 := List.foldl (m_right_b1 table_5 spans_6) bag_4 (rng 0 4)
(true, f_32)
def m_right_ok (bag_1 : Bag) : Prop :=
(m_three_ok bag_1 9) ∧ (∀ t_2, t_2 = ((m_three bag_1 9).1) → ∀ bag_3, bag_3 = ((m_three bag_1 9).2) → (m_Table___init___ok t_2.1 t_2.2.1 t_2.2.2) ∧ (m_pick_ok bag_3 2) ∧ (0 ≤ ((m_pick bag_3 2).1) ∧ ((m_pick bag_3 2).1) < ([50, 10 ^ 28] : List Int).length) ∧ (m_spans_ok ((m_pick bag_3 2).2) 12 (nth ([50, 10 ^ 28] : List Int) ((m_pick bag_3 2).1))) ∧ (∀ table_5, table_5 = (⟨t_2.1, t_2.2.1, t_2.2.2⟩ : Tbl) → ∀ spans_6, spans_6 = ((m_spans ((m_pick bag_3 2).2) 12 (nth ([50, 10 ^ 28] : List Int) ((m_pick bag_3 2).1))).1) → ∀ bag_4, bag_4 = ((m_spans ((m_pick bag_3 2).2) 12 (nth ([50, 10 ^ 28] : List Int) ((m_pick bag_3 2).1))).2) → (okF (m_right_o1 table_5 spans_6) (m_right_b1 table_5 spans_6) bag_4 (rng 0 4)) ∧ (∀ f_32, f_32 = List.foldl (m_right_b1 table_5 spans_6) bag_4 (rng 0 4) → True)))
def sp_right (K : PySem.W.Frag) (CT : Addr) : Sp := spB (ι := Bag) (fun d => bagR d) (fun d => []) (fun d => m_right_ok d) (fun d => bagR (m_right d).2) (fun d => eB ((m_right d).1))
abbrev s_right : Stmt := top 39
abbrev N_right : List Str := ["_law_bag_here", "_law_capacity", "_law_rate", "_law_shift", "_law_table", "_law_spans_here", "_law_turn", "_law_depth", "_law_tail", "_law_first", "_law_end", "_law_key", "_law_many", "_law_before", "_law_number", "_law_later"]
theorem sc_right : FnScope N_right ["_law_bag_here"] (defScope s_right) := ⟨rfl, rfl, rfl, by decide +kernel, rfl, by decide +kernel, by decide +kernel⟩
section
variable {P : Program} {w : World} {K : PySem.W.Frag} {mg : Str → Option Value} {base : Heap} {CT : Addr}
theorem ok_right {f : Addr} {fd : FuncData} (F : Fun K "_law_right" "_law_right" s_right f fd) {a_three : Addr} {fd_three : FuncData} (F_three : Fun K "_law_three" "_law_three" s_three a_three fd_three) (G_three : FnG P w K mg base CX0 2 a_three fd_three ["_law_bag_here", "_law_most"] (sp_three K CT)) (j_three : mg "_law_three" = some (.ref a_three)) (b_three : Binds K fd_three ["_law_bag_here", "_law_most"] []) {a_Table___init__ : Addr} {fd_Table___init__ : FuncData} (F_Table___init__ : Fun K "__init__" "Table.__init__" s_Table___init__ a_Table___init__ fd_Table___init__) (G_Table___init__ : FnG P w K mg base CX0 3 a_Table___init__ fd_Table___init__ ["self", "capacity", "rate", "shift"] (sp_Table___init__ K CT)) (MT : Mk K CT a_Table___init__) (b_Table___init__ : Binds K fd_Table___init__ ["self", "capacity", "rate", "shift"] []) {a_spans : Addr} {fd_spans : FuncData} (F_spans : Fun K "_law_spans" "_law_spans" s_spans a_spans fd_spans) (G_spans : FnG P w K mg base CX0 2 a_spans fd_spans ["_law_bag_here", "_law_many", "_law_wide"] (sp_spans K CT)) (j_spans : mg "_law_spans" = some (.ref a_spans)) (b_spans : Binds K fd_spans ["_law_bag_here", "_law_many", "_law_wide"] []) {a_pick : Addr} {fd_pick : FuncData} (F_pick : Fun K "_law_pick" "_law_pick" s_pick a_pick fd_pick) (G_pick : FnG P w K mg base CX0 1 a_pick fd_pick ["_law_bag_here", "_law_many"] (sp_pick K CT)) (j_pick : mg "_law_pick" = some (.ref a_pick)) (b_pick : Binds K fd_pick ["_law_bag_here", "_law_many"] []) {a_Table_tail : Addr} {fd_Table_tail : FuncData} (F_Table_tail : Fun K "tail" "Table.tail" s_Table_tail a_Table_tail fd_Table_tail) (G_Table_tail : FnG P w K mg base CX0 4 a_Table_tail fd_Table_tail ["self", "key", "depth"] (sp_Table_tail K CT)) (M_Table_tail : Meth K CT "tail" a_Table_tail) (b_Table_tail : Binds K fd_Table_tail ["self", "key", "depth"] []) {a_nth_key : Addr} {fd_nth_key : FuncData} (F_nth_key : Fun K "nth_key" "nth_key" s_nth_key a_nth_key fd_nth_key) (G_nth_key : FnG P w K mg base CX0 6 a_nth_key fd_nth_key ["table", "spans", "depth", "tail", "number"] (sp_nth_key K CT)) (j_nth_key : mg "nth_key" = some (.ref a_nth_key)) (b_nth_key : Binds K fd_nth_key ["table", "spans", "depth", "tail", "number"] []) {a_tail_count : Addr} {fd_tail_count : FuncData} (F_tail_count : Fun K "tail_count" "tail_count" s_tail_count a_tail_count fd_tail_count) (G_tail_count : FnG P w K mg base CX0 6 a_tail_count fd_tail_count ["table", "spans", "depth", "tail"] (sp_tail_count K CT)) (j_tail_count : mg "tail_count" = some (.ref a_tail_count)) (b_tail_count : Binds K fd_tail_count ["table", "spans", "depth", "tail"] []) {a_ahead : Addr} {fd_ahead : FuncData} (F_ahead : Fun K "_law_ahead" "_law_ahead" s_ahead a_ahead fd_ahead) (G_ahead : FnG P w K mg base CX0 1 a_ahead fd_ahead ["_law_spans_here", "_law_key"] (sp_ahead K CT)) (j_ahead : mg "_law_ahead" = some (.ref a_ahead)) (b_ahead : Binds K fd_ahead ["_law_spans_here", "_law_key"] []) (n_int : mg "int" = none) (n_len : mg "len" = none) (n_max : mg "max" = none) (n_range : mg "range" = none) (n_set : mg "set" = none) (n_sorted : mg "sorted" = none) (TT : TblTxt K mg CT) : FnG P w K mg base CX0 7 f fd ["_law_bag_here"] (sp_right K CT) := by
  obtain ⟨clT, na_own_capacity, na_own_rate, na_own_shift, mgT, isT, xaT, xbT, xcT, xdT⟩ := TT
  refine Fun.okG F sc_right (fun vs H Q E h => ?_) (fun cdv A outer s H vs Q E hG hr h => ?_)
  · obtain ⟨d, F, p, o, ws, rfl, _, _, _, _, _, h, _⟩ := h
    exact congrArg (· + 1) h.len
  · have nd := sc_right.nd
    have hU := hr.units
    refine ⟨_, (pss_cons (ps_asg (pg_call G_three hG (hr.mono (by decide)) rfl j_three F_three.kp b_three .nil pass0 (pa_cons (pv 0) (pa_cons pe_int pa_nil))) (pg_tup rfl (pgs_cons (pg_name (i := 1) nd rfl (by first | exact .inl rfl | exact .inr rfl)) (pgs_cons (pg_name (i := 2) nd rfl (by first | exact .inl rfl | exact .inr rfl)) (pgs_cons (pg_name (i := 3) nd rfl (by first | exact .inl rfl | exact .inr rfl)) pgs_nil)))))
 (pss_cons (ps_par (i := 4) (j := 5) rfl nd rfl rfl (by decide) rfl rfl (pa_cons (pg_make MT G_Table___init__ hG (hr.mono (by decide)) rfl mgT b_Table___init__ .nil pass0 (pa_cons (pv 1) (pa_cons (pv 2) (pa_cons (pv 3) pa_nil)))) (pa_cons (pg_call G_spans hG (hr.mono (by decide)) rfl j_spans F_spans.kp b_spans .nil pass0 (pa_cons (pv 0) (pa_cons pe_int (pa_cons (pe_ix ix_list (pe_lst (pa_cons pe_int (pa_cons (pe_op op_pow pe_int pe_int) pa_nil))) (pg_call G_pick hG (hr.mono (by decide)) rfl j_pick F_pick.kp b_pick .nil pass0 (pa_cons (pv 0) (pa_cons pe_int pa_nil))) (fun _ _ => rfl)) pa_nil)))) pa_nil)) (by rfl))
 (pss_cons (ps_for PassesOwn.never rfl (pi_range1 rfl n_range (pa_cons pe_int pa_nil)) (pg_name (i := 6) nd rfl (by first | exact .inl rfl | exact .inr rfl)) (pss_cons (ps_set (i := 7) nd rfl (by first | exact .inl rfl | exact .inr rfl) (pg_call G_pick hG (hr.mono (by decide)) rfl j_pick F_pick.kp b_pick .nil pass0 (pa_cons (pv 0) (pa_cons (pe_ix ix_list (pe_lst (pa_cons pe_int (pa_cons pe_int (pa_cons pe_int pa_nil)))) (pg_call G_pick hG (hr.mono (by decide)) rfl j_pick F_pick.kp b_pick .nil pass0 (pa_cons (pv 0) (pa_cons pe_int pa_nil))) (fun _ _ => rfl)) pa_nil))))
 (pss_cons (ps_set (i := 8) nd rfl (by first | exact .inl rfl | exact .inr rfl) (pg_call G_pick hG (hr.mono (by decide)) rfl j_pick F_pick.kp b_pick .nil pass0 (pa_cons (pv 0) (pa_cons (pe_op op_shl pe_int (pv 7)) pa_nil))))
 (pss_cons (ps_if (PW.pt (pw_and (pt_cmpR (op_neDK (K := K) rfl hU) (pv 5) (pe_lst pa_nil) (nomark _)) (pw_and1 (pt_cmpR op_eq (pg_call G_pick hG (hr.mono (by decide)) rfl j_pick F_pick.kp b_pick .nil pass0 (pa_cons (pv 0) (pa_cons pe_int pa_nil))) pe_int (nomark _))))) (pss_cons (ps_asg (pe_ix ix_list (pv 5) (pg_call G_pick hG (hr.mono (by decide)) rfl j_pick F_pick.kp b_pick .nil pass0 (pa_cons (pv 0) (pa_cons (pe_callB call_len_seq rfl n_len (by decide +kernel) (pa_cons (pv 5) pa_nil)) pa_nil))) (fun _ _ => rfl)) (pg_tup rfl (pgs_cons (pg_name (i := 9) nd rfl (by first | exact .inl rfl | exact .inr rfl)) (pgs_cons (pg_name (i := 10) nd rfl (by first | exact .inl rfl | exact .inr rfl)) pgs_nil))))
 (pss_cons (ps_set (i := 11) nd rfl (by first | exact .inl rfl | exact .inr rfl) (pe_op op_add (pv 9) (pg_call G_pick hG (hr.mono (by decide)) rfl j_pick F_pick.kp b_pick .nil pass0 (pa_cons (pv 0) (pa_cons (pe_op op_sub (pv 10) (pv 9)) pa_nil)))))
 (pss_cons (ps_set (i := 8) nd rfl (by first | exact .inl rfl | exact .inr rfl) (pg_meth (pv 4) clT M_Table_tail G_Table_tail hG (hr.mono (by decide)) b_Table_tail .nil pass0 (pa_cons (pv 11) (pa_cons (pv 7) pa_nil))))
 (pss_cons (ps_if (pt_cmpR op_ne (pg_call G_nth_key hG (hr.mono (by decide)) rfl j_nth_key F_nth_key.kp b_nth_key .nil pass0 (pa_cons (pv 4) (pa_cons (pv 5) (pa_cons (pv 7) (pa_cons (pv 8) (pa_cons (pg_call G_tail_count hG (hr.mono (by decide)) rfl j_tail_count F_tail_count.kp b_tail_count .nil pass0 (pa_cons (pv 4) (pa_cons (pg_call G_ahead hG (hr.mono (by decide)) rfl j_ahead F_ahead.kp b_ahead .nil pass0 (pa_cons (pv 5) (pa_cons (pv 11) pa_nil))) (pa_cons (pv 7) (pa_cons (pv 8) pa_nil))))) pa_nil)))))) (pv 11) (nomark _)) (pss_one ps_never) pss_nil)
 pss_nil)))) pss_nil)
 (pss_cons (ps_par (i := 12) (j := 13) rfl nd rfl rfl (by decide) rfl rfl (pa_cons (pg_call G_tail_count hG (hr.mono (by decide)) rfl j_tail_count F_tail_count.kp b_tail_count .nil pass0 (pa_cons (pv 4) (pa_cons (pv 5) (pa_cons (pv 7) (pa_cons (pv 8) pa_nil))))) (pa_cons (pe_un un_neg pe_int) pa_nil)) (by rfl))
 (pss_cons (ps_for PassesOwn.never rfl (pi_list (pe_callB (cr_sortedSetK (w := w) rfl rfl) rfl n_sorted (by decide +kernel) (pa_cons (pe_callTy (cr_setL (K := K) (w := w) rfl rfl rfl) rfl n_set (by decide +kernel) (pa_cons (pe_lst (pa_cons pe_int (pa_cons (pe_callB (call_max2 rfl) rfl n_max (by decide +kernel) (pa_cons pe_int (pa_cons (pe_op op_sub (pv 12) pe_int) pa_nil))) (pa_cons (pg_call G_pick hG (hr.mono (by decide)) rfl j_pick F_pick.kp b_pick .nil pass0 (pa_cons (pv 0) (pa_cons (pe_op op_add (pv 12) pe_int) pa_nil))) (pa_cons (pg_call G_pick hG (hr.mono (by decide)) rfl j_pick F_pick.kp b_pick .nil pass0 (pa_cons (pv 0) (pa_cons (pe_op op_add (pv 12) pe_int) pa_nil))) pa_nil))))) pa_nil)) pa_nil))) (pg_name (i := 14) nd rfl (by first | exact .inl rfl | exact .inr rfl)) (pss_cons (ps_set (i := 11) nd rfl (by first | exact .inl rfl | exact .inr rfl) (pg_call G_nth_key hG (hr.mono (by decide)) rfl j_nth_key F_nth_key.kp b_nth_key .nil pass0 (pa_cons (pv 4) (pa_cons (pv 5) (pa_cons (pv 7) (pa_cons (pv 8) (pa_cons (pv 14) pa_nil)))))))
 (pss_cons (ps_if (pt_cmpR op_ge (pv 14) (pv 12) (nomark _)) (pss_cons (ps_if (pt_cmp (pc_notN (pv 11))) (pss_one ps_never) pss_nil)
 (pss_cons ps_continue
 pss_nil)) pss_nil)
 (pss_cons (ps_if (PW.pt (pw_or (pt_cmpR op_ne (pg_meth (pv 4) clT M_Table_tail G_Table_tail hG (hr.mono (by decide)) b_Table_tail .nil pass0 (pa_cons (pv 11) (pa_cons (pv 7) pa_nil))) (pv 8) (nomark _)) (pw_or1 (pt_cmpR op_le (pv 11) (pv 13) (nomark _))))) (pss_one ps_never) pss_nil)
 (pss_cons (ps_if (pt_cmpR (op_eqDK (K := K) rfl hU) (pe_lc (own := [("_law_first", 9), ("_law_end", 10)]) (g := gTup K 2 (gNames [9, 10])) rfl nd (pi_list (pv 5)) (blkOk_by (own := [("_law_first", 9), ("_law_end", 10)]) (N := N_right) (sc := defScope s_right) (by decide +kernel)) (fun _ _ _ _ _ => pg_tup rfl (pgs_cons (pg_name (i := 9) nd rfl (by first | exact .inl rfl | exact .inr rfl)) (pgs_cons (pg_name (i := 10) nd rfl (by first | exact .inl rfl | exact .inr rfl)) pgs_nil))) (fun _ _ _ _ _ => pts_one (pt_chain op_le op_lt (pv 9) (pv 11) (pv 10))) (fun _ _ _ _ _ => pe_int)) (pe_lst pa_nil) (nomark _)) (pss_one ps_never) pss_nil)
 (pss_cons (ps_if (pt_cmpR op_ne (pg_call G_tail_count hG (hr.mono (by decide)) rfl j_tail_count F_tail_count.kp b_tail_count .nil pass0 (pa_cons (pv 4) (pa_cons (pg_call G_ahead hG (hr.mono (by decide)) rfl j_ahead F_ahead.kp b_ahead .nil pass0 (pa_cons (pv 5) (pa_cons (pv 11) pa_nil))) (pa_cons (pv 7) (pa_cons (pv 8) pa_nil))))) (pv 14) (nomark _)) (pss_one ps_never) pss_nil)
 (pss_cons (ps_set (i := 13) nd rfl (by first | exact .inl rfl | exact .inr rfl) (pv 11))
 (pss_cons (ps_set (i := 15) nd rfl (by first | exact .inl rfl | exact .inr rfl) (pg_call G_nth_key hG (hr.mono (by decide)) rfl j_nth_key F_nth_key.kp b_nth_key .nil pass0 (pa_cons (pv 4) (pa_cons (pv 5) (pa_cons (pv 7) (pa_cons (pv 8) (pa_cons (pe_op op_add (pv 14) pe_int) pa_nil)))))))
 (pss_cons (ps_if (PW.pt (pw_and (pt_cmp (pc_notN (pv 15))) (pw_and1 (PW.pt (pw_or (pt_cmpR op_le (pv 15) (pv 11) (nomark _)) (pw_or1 (pt_cmpR op_ne (pe_op op_mod (pe_callTy call_int1 rfl n_int (by decide +kernel) (pa_cons (pe_op op_sub (pv 15) (pv 11)) pa_nil)) (pe_op op_shl pe_int (pv 7))) pe_int (nomark _)))))))) (pss_one ps_never) pss_nil)
 pss_nil)))))))))
 (pss_cons (ps_if (pt_cmp (pc_notN (pg_call G_nth_key hG (hr.mono (by decide)) rfl j_nth_key F_nth_key.kp b_nth_key .nil pass0 (pa_cons (pv 4) (pa_cons (pv 5) (pa_cons (pv 7) (pa_cons (pv 8) (pa_cons (pv 12) pa_nil)))))))) (pss_one ps_never) pss_nil)
 pss_nil)))))))
 (pss_cons (ps_ret pe_bl)
 pss_nil)))), ?_⟩
    refine def_B h (fun d => Nat.le_of_ble_eq_true rfl) (fun bag_1 p h => ?_)
    replace h : m_right_ok bag_1 := h
    unfold m_right_ok at h
    show SS _ [.ow (oLq (some p) (bagR bag_1)), .no, .no, .no, .no, .no, .no, .no, .no, .no, .no, .no, .no, .no, .no, .no] (BP eB p (m_right bag_1))
    obtain ⟨g1, h⟩ := h
    refine ss_seq2 ((m_three bag_1 9).1) ((m_three bag_1 9).2) (fun t_2 bag_3 => [.ow (oLq (some p) (bagR bag_3)), .fz (eI t_2.1), .fz (eI t_2.2.1), .fz (eI t_2.2.2), .no, .no, .no, .no, .no, .no, .no, .no, .no, .no, .no, .no]) (ss_asg (es_callB (bag_1, 9) 0 rfl (as_cons es_c as_nil) rfl g1) (gs_tup (gs_cons (gs_name 1) (gs_cons (gs_name 2) (gs_cons (gs_name 3) gs_nil)))) Wk.refl) (fun t_2 e_t_2 bag_3 e_bag_3 => ?_)
    replace h := h t_2 e_t_2 bag_3 e_bag_3
    obtain ⟨g2, g3, g4, g5, h⟩ := h
    refine ss_seq3 (⟨t_2.1, t_2.2.1, t_2.2.2⟩ : Tbl) ((m_spans ((m_pick bag_3 2).2) 12 (nth ([50, 10 ^ 28] : List Int) ((m_pick bag_3 2).1))).1) ((m_spans ((m_pick bag_3 2).2) 12 (nth ([50, 10 ^ 28] : List Int) ((m_pick bag_3 2).1))).2) (fun table_5 spans_6 bag_4 => [.ow (oLq (some p) (bagR bag_4)), .fz (eI t_2.1), .fz (eI t_2.2.1), .fz (eI t_2.2.2), .fz ((eTbl CT) table_5), .fz ((eLs (eP2 K eI eI)) spans_6), .no, .no, .no, .no, .no, .no, .no, .no, .no, .no]) (ss_parM (am_fzo (es_make (t_2.1, t_2.2.1, t_2.2.2) (as_cons (es_var 1 rfl) (as_cons (es_var 2 rfl) (as_cons (es_var 3 rfl) as_nil))) g2) (am_fzo (es_callB ((m_pick bag_3 2).2, 12, nth ([50, 10 ^ 28] : List Int) ((m_pick bag_3 2).1)) 0 rfl (as_cons es_c (as_cons (es_ixL (e := eI) (es_frs eI ([50, 10 ^ 28] : List Int) (en_lst (as_cons es_c (as_cons (es_pow es_c es_c ⟨by decide, by decide, by decide⟩) as_nil)))) (es_callB (bag_3, 2) 0 rfl (as_cons es_c as_nil) rfl g3) g4) as_nil)) rfl g5) am_nil rfl) rfl) Wk.refl) (fun table_5 e_table_5 spans_6 e_spans_6 bag_4 e_bag_4 => ?_)
    replace h := h table_5 e_table_5 spans_6 e_spans_6 bag_4 e_bag_4
    obtain ⟨g43, h⟩ := h
    refine ss_seq1 (List.foldl (m_right_b1 table_5 spans_6) bag_4 (rng 0 4)) (fun f_32 => [.ow (oLq (some p) (bagR f_32)), .fz (eI t_2.1), .fz (eI t_2.2.1), .fz (eI t_2.2.2), .fz ((eTbl CT) table_5), .fz ((eLs (eP2 K eI eI)) spans_6), .no, .no, .no, .no, .no, .no, .no, .no, .no, .no]) (sf_S (e := eI) (l := (rng 0 4)) (fun s_7 => [.ow (oLq (some p) (bagR s_7)), .fz (eI t_2.1), .fz (eI t_2.2.1), .fz (eI t_2.2.2), .fz ((eTbl CT) table_5), .fz ((eLs (eP2 K eI eI)) spans_6), .no, .no, .no, .no, .no, .no, .no, .no, .no, .no]) (m_right_b1 table_5 spans_6) (m_right_o1 table_5 spans_6) bag_4 (is_rng1 (as_cons es_c as_nil) (by decide)) Wk.refl g43 (fun s_7 x_8 _ h => ⟨[.ow (oLq (some p) (bagR s_7)), .fz (eI t_2.1), .fz (eI t_2.2.1), .fz (eI t_2.2.2), .fz ((eTbl CT) table_5), .fz ((eLs (eP2 K eI eI)) spans_6), .fz (eI x_8), .no, .no, .no, .no, .no, .no, .no, .no, .no], _, gs_name 6, ?_⟩) (fun _ hw => hw)) (fun f_32 e_f_32 => ?_)
    · unfold m_right_o1 at h
      refine ss_LF (mk := fun s_7 => [.ow (oLq (some p) (bagR s_7)), .fz (eI t_2.1), .fz (eI t_2.2.1), .fz (eI t_2.2.2), .fz ((eTbl CT) table_5), .fz ((eLs (eP2 K eI eI)) spans_6), .no, .no, .no, .no, .no, .no, .no, .no, .no, .no]) (v := m_right_b1 table_5 spans_6 s_7 x_8) ?_
      obtain ⟨g6, g7, g8, h⟩ := h
      refine ss_seq2 ((m_pick ((m_pick s_7 3).2) (nth ([8, 60, 101] : List Int) ((m_pick s_7 3).1))).1) ((m_pick ((m_pick s_7 3).2) (nth ([8, 60, 101] : List Int) ((m_pick s_7 3).1))).2) (fun depth_10 bag_9 => [.ow (oLq (some p) (bagR bag_9)), .fz (eI t_2.1), .fz (eI t_2.2.1), .fz (eI t_2.2.2), .fz ((eTbl CT) table_5), .fz ((eLs (eP2 K eI eI)) spans_6), .fz (eI x_8), .fz (eI depth_10), .no, .no, .no, .no, .no, .no, .no, .no]) (ss_set (es_callB ((m_pick s_7 3).2, nth ([8, 60, 101] : List Int) ((m_pick s_7 3).1)) 0 rfl (as_cons (es_ixL (e := eI) (es_frs eI ([8, 60, 101] : List Int) (en_lst (as_cons es_c (as_cons es_c (as_cons es_c as_nil))))) (es_callB (s_7, 3) 0 rfl (as_cons es_c as_nil) rfl g6) g7) as_nil) rfl g8) Wk.refl) (fun depth_10 e_depth_10 bag_9 e_bag_9 => ?_)
      replace h := h depth_10 e_depth_10 bag_9 e_bag_9
      obtain ⟨g9, g10, h⟩ := h
      refine ss_seq2 ((m_pick bag_9 (1 * 2 ^ depth_10.toNat)).1) ((m_pick bag_9 (1 * 2 ^ depth_10.toNat)).2) (fun tail_12 bag_11 => [.ow (oLq (some p) (bagR bag_11)), .fz (eI t_2.1), .fz (eI t_2.2.1), .fz (eI t_2.2.2), .fz ((eTbl CT) table_5), .fz ((eLs (eP2 K eI eI)) spans_6), .fz (eI x_8), .fz (eI depth_10), .fz (eI tail_12), .no, .no, .no, .no, .no, .no, .no]) (ss_set (es_callB (bag_9, 1 * 2 ^ depth_10.toNat) 0 rfl (as_cons (es_shlL es_c (es_var 7 rfl) g9 (by decide)) as_nil) rfl g10) Wk.refl) (fun tail_12 e_tail_12 bag_11 e_bag_11 => ?_)
      replace h := h tail_12 e_tail_12 bag_11 e_bag_11
      obtain ⟨g11, h⟩ := h
      obtain ⟨hA, hB, h⟩ := h
      refine ss_ifj (α := Bag × Int) (
let t_15 := nth spans_6 ((m_pick (if (!spans_6.isEmpty) = true then (m_pick bag_11 2).2 else bag_11) (spans_6.length : Int)).1)
let bag_16 := (m_pick (if (!spans_6.isEmpty) = true then (m_pick bag_11 2).2 else bag_11) (spans_6.length : Int)).2
let key_18 := t_15.1 + ((m_pick bag_16 (t_15.2 - t_15.1)).1)
let bag_17 := (m_pick bag_16 (t_15.2 - t_15.1)).2
let tail_19 := m_Table_tail table_5 key_18 depth_10
(bag_17, tail_19)) (
((if (!spans_6.isEmpty) = true then (m_pick bag_11 2).2 else bag_11), tail_12)) (fun j_20 => [.ow (oLq (some p) (bagR j_20.1)), .fz (eI t_2.1), .fz (eI t_2.2.1), .fz (eI t_2.2.2), .fz ((eTbl CT) table_5), .fz ((eLs (eP2 K eI eI)) spans_6), .fz (eI x_8), .fz (eI depth_10), .fz (eI j_20.2), .no, .no, .no, .no, .no, .no, .no]) (et_andB (fun z_ => [.ow (oLq (some p) (bagR z_)), .fz (eI t_2.1), .fz (eI t_2.2.1), .fz (eI t_2.2.2), .fz ((eTbl CT) table_5), .fz ((eLs (eP2 K eI eI)) spans_6), .fz (eI x_8), .fz (eI depth_10), .fz (eI tail_12), .no, .no, .no, .no, .no, .no, .no]) ((m_pick bag_11 2).2) bag_11 (et_test (es_neNil (K := K) (e := (eP2 K eI eI)) (es_var 5 rfl) (Nat.le_of_ble_eq_true rfl))) (fun hc10 => (et_cmp (es_callB (bag_11, 2) 0 rfl (as_cons es_c as_nil) rfl (g11 hc10)) es_c q_eqI))) (fun hc => ?_) (fun hc => ?_) (fun j_20 e_j_20 => ?_)
      · replace h := hA hc; clear hA hB
        obtain ⟨g12, g13, h⟩ := h
        refine ss_seq2 (nth spans_6 ((m_pick (if (!spans_6.isEmpty) = true then (m_pick bag_11 2).2 else bag_11) (spans_6.length : Int)).1)) ((m_pick (if (!spans_6.isEmpty) = true then (m_pick bag_11 2).2 else bag_11) (spans_6.length : Int)).2) (fun t_15 bag_16 => [.ow (oLq (some p) (bagR bag_16)), .fz (eI t_2.1), .fz (eI t_2.2.1), .fz (eI t_2.2.2), .fz ((eTbl CT) table_5), .fz ((eLs (eP2 K eI eI)) spans_6), .fz (eI x_8), .fz (eI depth_10), .fz (eI tail_12), .fz (eI t_15.1), .fz (eI t_15.2), .no, .no, .no, .no, .no]) (ss_asg (es_ixL (e := (eP2 K eI eI)) (es_var 5 rfl) (es_callB ((if (!spans_6.isEmpty) = true then (m_pick bag_11 2).2 else bag_11), (spans_6.length : Int)) 0 rfl (as_cons (es_lenLs (e := (eP2 K eI eI)) (es_var 5 rfl)) as_nil) rfl g12) g13) (gs_tup (gs_cons (gs_name 9) (gs_cons (gs_name 10) gs_nil))) Wk.refl) (fun t_15 e_t_15 bag_16 e_bag_16 => ?_)
        replace h := h t_15 e_t_15 bag_16 e_bag_16
        obtain ⟨g14, h⟩ := h
        refine ss_seq2 (t_15.1 + ((m_pick bag_16 (t_15.2 - t_15.1)).1)) ((m_pick bag_16 (t_15.2 - t_15.1)).2) (fun key_18 bag_17 => [.ow (oLq (some p) (bagR bag_17)), .fz (eI t_2.1), .fz (eI t_2.2.1), .fz (eI t_2.2.2), .fz ((eTbl CT) table_5), .fz ((eLs (eP2 K eI eI)) spans_6), .fz (eI x_8), .fz (eI depth_10), .fz (eI tail_12), .fz (eI t_15.1), .fz (eI t_15.2), .fz (eI key_18), .no, .no, .no, .no]) (ss_set (es_add (es_var 9 rfl) (es_callB (bag_16, t_15.2 - t_15.1) 0 rfl (as_cons (es_sub (es_var 10 rfl) (es_var 9 rfl)) as_nil) rfl g14)) Wk.refl) (fun key_18 e_key_18 bag_17 e_bag_17 => ?_)
        replace h := h key_18 e_key_18 bag_17 e_bag_17
        obtain ⟨g15, h⟩ := h
        refine ss_seq1 (m_Table_tail table_5 key_18 depth_10) (fun tail_19 => [.ow (oLq (some p) (bagR bag_17)), .fz (eI t_2.1), .fz (eI t_2.2.1), .fz (eI t_2.2.2), .fz ((eTbl CT) table_5), .fz ((eLs (eP2 K eI eI)) spans_6), .fz (eI x_8), .fz (eI depth_10), .fz (eI tail_19), .fz (eI t_15.1), .fz (eI t_15.2), .fz (eI key_18), .no, .no, .no, .no]) (ss_set (es_meth (table_5, key_18, depth_10) (es_var 4 rfl) (tbl_no (by decide +kernel)) (as_cons (es_var 11 rfl) (as_cons (es_var 7 rfl) as_nil)) rfl g15) Wk.refl) (fun tail_19 e_tail_19 => ?_)
        replace h := h tail_19 e_tail_19
        obtain ⟨g16, g17, g18, g19, h⟩ := h
        obtain ⟨hn, h⟩ := h
        refine ss_ifL (et_cmp (es_unO (e := eI) (es_call (table_5, spans_6, depth_10, tail_19, m_tail_count table_5 (m_ahead spans_6 key_18) depth_10 tail_19) (as_cons (es_var 4 rfl) (as_cons (es_var 5 rfl) (as_cons (es_var 7 rfl) (as_cons (es_var 8 rfl) (as_cons (es_call (table_5, m_ahead spans_6 key_18, depth_10, tail_19) (as_cons (es_var 4 rfl) (as_cons (es_call (spans_6, key_18) (as_cons (es_var 5 rfl) (as_cons (es_var 11 rfl) as_nil)) g16) (as_cons (es_var 7 rfl) (as_cons (es_var 8 rfl) as_nil)))) g17) as_nil))))) g18) g19) (es_var 11 rfl) q_neI) (fun hc => absurd hc (by rw [hn]; exact Bool.false_ne_true)) (fun _ => ss_nxq ?_)
        subst e_tail_19 e_bag_17 e_key_18 e_bag_16 e_t_15
        exact ss_nx ⟨.inr rfl, ⟨.inr rfl, ⟨.inr rfl, ⟨.inr rfl, ⟨.inr rfl, ⟨.inr rfl, ⟨.inr rfl, ⟨.inr rfl, ⟨.inr rfl, ⟨.inl rfl, ⟨.inl rfl, ⟨.inl rfl, ⟨.inr rfl, ⟨.inr rfl, ⟨.inr rfl, ⟨.inr rfl, trivial⟩⟩⟩⟩⟩⟩⟩⟩⟩⟩⟩⟩⟩⟩⟩⟩
      · replace h := hB hc; clear hA hB
        exact ss_nx ⟨.inr rfl, ⟨.inr rfl, ⟨.inr rfl, ⟨.inr rfl, ⟨.inr rfl, ⟨.inr rfl, ⟨.inr rfl, ⟨.inr rfl, ⟨.inr rfl, ⟨.inr rfl, ⟨.inr rfl, ⟨.inr rfl, ⟨.inr rfl, ⟨.inr rfl, ⟨.inr rfl, ⟨.inr rfl, trivial⟩⟩⟩⟩⟩⟩⟩⟩⟩⟩⟩⟩⟩⟩⟩⟩
      clear hA hB; replace h := h j_20 e_j_20
      obtain ⟨g20, h⟩ := h
      refine ss_seq2 (m_tail_count table_5 spans_6 depth_10 j_20.2) (-1) (fun many_21 before_22 => [.ow (oLq (some p) (bagR j_20.1)), .fz (eI t_2.1), .fz (eI t_2.2.1), .fz (eI t_2.2.2), .fz ((eTbl CT) table_5), .fz ((eLs (eP2 K eI eI)) spans_6), .fz (eI x_8), .fz (eI depth_10), .fz (eI j_20.2), .no, .no, .no, .fz (eI many_21), .fz (eI before_22), .no, .no]) (ss_parM (am_fz (es_call (table_5, spans_6, depth_10, j_20.2) (as_cons (es_var 4 rfl) (as_cons (es_var 5 rfl) (as_cons (es_var 7 rfl) (as_cons (es_var 8 rfl) as_nil)))) g20) (am_fz (es_neg es_c) am_nil)) Wk.refl) (fun many_21 e_many_21 before_22 e_before_22 => ?_)
      replace h := h many_21 e_many_21 before_22 e_before_22
      obtain ⟨g21, g22, g23, g41, h⟩ := h
      refine ss_seq1 (List.foldl (m_right_b2 table_5 spans_6 depth_10 j_20 many_21) before_22 (ssort ([0, max2 0 (many_21 - 1), (m_pick j_20.1 (many_21 + 1)).1, (m_pick ((m_pick j_20.1 (many_21 + 1)).2) (many_21 + 1)).1] : List Int))) (fun f_31 => [.ow (oLq (some p) (bagR ((m_pick ((m_pick j_20.1 (many_21 + 1)).2) (many_21 + 1)).2))), .fz (eI t_2.1), .fz (eI t_2.2.1), .fz (eI t_2.2.2), .fz ((eTbl CT) table_5), .fz ((eLs (eP2 K eI eI)) spans_6), .fz (eI x_8), .fz (eI depth_10), .fz (eI j_20.2), .no, .no, .no, .fz (eI many_21), .fz (eI f_31), .no, .no]) (sf_S (e := eI) (l := (ssort ([0, max2 0 (many_21 - 1), (m_pick j_20.1 (many_21 + 1)).1, (m_pick ((m_pick j_20.1 (many_21 + 1)).2) (many_21 + 1)).1] : List Int))) (fun s_24 => [.ow (oLq (some p) (bagR ((m_pick ((m_pick j_20.1 (many_21 + 1)).2) (many_21 + 1)).2))), .fz (eI t_2.1), .fz (eI t_2.2.1), .fz (eI t_2.2.2), .fz ((eTbl CT) table_5), .fz ((eLs (eP2 K eI eI)) spans_6), .fz (eI x_8), .fz (eI depth_10), .fz (eI j_20.2), .no, .no, .no, .fz (eI many_21), .fz (eI s_24), .no, .no]) (m_right_b2 table_5 spans_6 depth_10 j_20 many_21) (m_right_o2 table_5 spans_6 depth_10 j_20 many_21) before_22 (is_list (e := eI) (es_frs eI (ssort ([0, max2 0 (many_21 - 1), (m_pick j_20.1 (many_21 + 1)).1, (m_pick ((m_pick j_20.1 (many_21 + 1)).2) (many_21 + 1)).1] : List Int)) (en_sortset (K := K) (w := w) (es_frs eI ([0, max2 0 (many_21 - 1), (m_pick j_20.1 (many_21 + 1)).1, (m_pick ((m_pick j_20.1 (many_21 + 1)).2) (many_21 + 1)).1] : List Int) (en_lst (as_cons es_c (as_cons (es_max2 es_c (es_sub (es_var 12 rfl) es_c)) (as_cons (es_callB (j_20.1, many_21 + 1) 0 rfl (as_cons (es_add (es_var 12 rfl) es_c) as_nil) rfl g21) (as_cons (es_callB ((m_pick j_20.1 (many_21 + 1)).2, many_21 + 1) 0 rfl (as_cons (es_add (es_var 12 rfl) es_c) as_nil) rfl g22) as_nil)))))) g23))) Wk.refl g41 (fun s_24 x_25 _ h => ⟨[.ow (oLq (some p) (bagR ((m_pick ((m_pick j_20.1 (many_21 + 1)).2) (many_21 + 1)).2))), .fz (eI t_2.1), .fz (eI t_2.2.1), .fz (eI t_2.2.2), .fz ((eTbl CT) table_5), .fz ((eLs (eP2 K eI eI)) spans_6), .fz (eI x_8), .fz (eI depth_10), .fz (eI j_20.2), .no, .no, .no, .fz (eI many_21), .fz (eI s_24), .fz (eI x_25), .no], _, gs_name 14, ?_⟩) (fun _ hw => hw)) (fun f_31 e_f_31 => ?_)
      · unfold m_right_o2 at h
        refine ss_LF (mk := fun s_24 => [.ow (oLq (some p) (bagR ((m_pick ((m_pick j_20.1 (many_21 + 1)).2) (many_21 + 1)).2))), .fz (eI t_2.1), .fz (eI t_2.2.1), .fz (eI t_2.2.2), .fz ((eTbl CT) table_5), .fz ((eLs (eP2 K eI eI)) spans_6), .fz (eI x_8), .fz (eI depth_10), .fz (eI j_20.2), .no, .no, .no, .fz (eI many_21), .fz (eI s_24), .no, .no]) (v := m_right_b2 table_5 spans_6 depth_10 j_20 many_21 s_24 x_25) ?_
        obtain ⟨g24, h⟩ := h
        refine ss_seq1 (m_nth_key table_5 spans_6 depth_10 j_20.2 x_25) (fun key_26 => [.ow (oLq (some p) (bagR ((m_pick ((m_pick j_20.1 (many_21 + 1)).2) (many_21 + 1)).2))), .fz (eI t_2.1), .fz (eI t_2.2.1), .fz (eI t_2.2.2), .fz ((eTbl CT) table_5), .fz ((eLs (eP2 K eI eI)) spans_6), .fz (eI x_8), .fz (eI depth_10), .fz (eI j_20.2), .no, .no, .fz ((eO eI) key_26), .fz (eI many_21), .fz (eI s_24), .fz (eI x_25), .no]) (ss_set (es_call (table_5, spans_6, depth_10, j_20.2, x_25) (as_cons (es_var 4 rfl) (as_cons (es_var 5 rfl) (as_cons (es_var 7 rfl) (as_cons (es_var 8 rfl) (as_cons (es_var 14 rfl) as_nil))))) g24) Wk.refl) (fun key_26 e_key_26 => ?_)
        replace h := h key_26 e_key_26
        refine ss_cut (LF (fun s_24 => [.ow (oLq (some p) (bagR ((m_pick ((m_pick j_20.1 (many_21 + 1)).2) (many_21 + 1)).2))), .fz (eI t_2.1), .fz (eI t_2.2.1), .fz (eI t_2.2.2), .fz ((eTbl CT) table_5), .fz ((eLs (eP2 K eI eI)) spans_6), .fz (eI x_8), .fz (eI depth_10), .fz (eI j_20.2), .no, .no, .no, .fz (eI many_21), .fz (eI s_24), .no, .no]) _) (v' := m_right_t3 table_5 spans_6 depth_10 j_20 many_21 s_24 x_25 key_26) (by subst e_key_26; rfl) ?_
        clear e_key_26
        unfold m_right_u3 at h
        obtain ⟨hA, hB⟩ := h
        refine ss_ifLv (LF (fun s_24 => [.ow (oLq (some p) (bagR ((m_pick ((m_pick j_20.1 (many_21 + 1)).2) (many_21 + 1)).2))), .fz (eI t_2.1), .fz (eI t_2.2.1), .fz (eI t_2.2.2), .fz ((eTbl CT) table_5), .fz ((eLs (eP2 K eI eI)) spans_6), .fz (eI x_8), .fz (eI depth_10), .fz (eI j_20.2), .no, .no, .no, .fz (eI many_21), .fz (eI s_24), .no, .no]) _) (et_cmp (es_var 14 rfl) (es_var 12 rfl) q_ge) (fun hc => ?_) (fun hc => ?_)
        · replace h := hA hc; clear hA hB
          obtain ⟨hn, h⟩ := h
          refine ss_ifL (et_notN (e := eI) (es_var 11 rfl)) (fun hc => absurd hc (by rw [hn]; exact Bool.false_ne_true)) (fun _ => ss_nxq ?_)
          exact ss_contq ⟨.inr rfl, ⟨.inr rfl, ⟨.inr rfl, ⟨.inr rfl, ⟨.inr rfl, ⟨.inr rfl, ⟨.inr rfl, ⟨.inr rfl, ⟨.inr rfl, ⟨.inr rfl, ⟨.inr rfl, ⟨.inl rfl, ⟨.inr rfl, ⟨.inr rfl, ⟨.inl rfl, ⟨.inr rfl, trivial⟩⟩⟩⟩⟩⟩⟩⟩⟩⟩⟩⟩⟩⟩⟩⟩
        · replace h := hB hc; clear hA hB
          refine ss_nxq ?_
          obtain ⟨g25, g26, g27, h⟩ := h
          obtain ⟨hn, h⟩ := h
          refine ss_ifL (et_or (et_cmp (es_meth (table_5, unO key_26, depth_10) (es_var 4 rfl) (tbl_no (by decide +kernel)) (as_cons (es_unO (e := eI) (es_var 11 rfl) g25) (as_cons (es_var 7 rfl) as_nil)) rfl g26) (es_var 8 rfl) q_neI) (fun hc20 => (et_cmp (es_unO (e := eI) (es_var 11 rfl) (g27 hc20)) (es_var 13 rfl) q_le))) (fun hc => absurd hc (by rw [hn]; exact Bool.false_ne_true)) (fun _ => ss_nxq ?_)
          obtain ⟨g28, g29, h⟩ := h
          obtain ⟨hn, h⟩ := h
          refine ss_ifL (et_test (es_eqNil (K := K) (e := eI) (es_frs eI ((List.filter (fun (x_28 : Int × Int) => (decide (x_28.1 ≤ (unO key_26))) && (decide ((unO key_26) < x_28.2))) spans_6).map fun (x_28 : Int × Int) => (1 : Int)) (en_lcFT eI (fun (x_28 : Int × Int) => (1 : Int)) (en_lcS (e := (eP2 K eI eI)) (l := spans_6) (f := (fun (x_28 : Int × Int) => eI (1 : Int))) (is := [9, 10]) (vs := [9, 10]) (fun (x_28 : Int × Int) => (decide (x_28.1 ≤ (unO key_26))) && (decide ((unO key_26) < x_28.2))) (fun (x_28 : Int × Int) => [.no, .fz (eI t_2.1), .fz (eI t_2.2.1), .fz (eI t_2.2.2), .fz ((eTbl CT) table_5), .fz ((eLs (eP2 K eI eI)) spans_6), .fz (eI x_8), .fz (eI depth_10), .fz (eI j_20.2), .fz (eI x_28.1), .fz (eI x_28.2), .fz ((eO eI) key_26), .fz (eI many_21), .fz (eI s_24), .fz (eI x_25), .no]) (is_list (e := (eP2 K eI eI)) (es_var 5 rfl)) g29 (fun _ h => h) (fun x_28 => gs_tup (gs_cons (gs_name 9) (gs_cons (gs_name 10) gs_nil))) (fun x_28 hx => (et_test (es_chain (es_var 9 rfl) (es_unO (e := eI) (es_var 11 rfl) (g28 x_28 hx)) q_le (fun hc => (es_var 10 rfl)) q_lt))) (fun x_28 hx hp => es_c)))) (Nat.le_of_ble_eq_true rfl))) (fun hc => absurd hc (by rw [hn]; exact Bool.false_ne_true)) (fun _ => ss_nxq ?_)
          obtain ⟨g30, g31, g32, h⟩ := h
          obtain ⟨hn, h⟩ := h
          refine ss_ifL (et_cmp (es_call (table_5, m_ahead spans_6 (unO key_26), depth_10, j_20.2) (as_cons (es_var 4 rfl) (as_cons (es_call (spans_6, unO key_26) (as_cons (es_var 5 rfl) (as_cons (es_unO (e := eI) (es_var 11 rfl) g30) as_nil)) g31) (as_cons (es_var 7 rfl) (as_cons (es_var 8 rfl) as_nil)))) g32) (es_var 14 rfl) q_neI) (fun hc => absurd hc (by rw [hn]; exact Bool.false_ne_true)) (fun _ => ss_nxq ?_)
          obtain ⟨g33, h⟩ := h
          refine ss_seq1 (unO key_26) (fun before_29 => [.ow (oLq (some p) (bagR ((m_pick ((m_pick j_20.1 (many_21 + 1)).2) (many_21 + 1)).2))), .fz (eI t_2.1), .fz (eI t_2.2.1), .fz (eI t_2.2.2), .fz ((eTbl CT) table_5), .fz ((eLs (eP2 K eI eI)) spans_6), .fz (eI x_8), .fz (eI depth_10), .fz (eI j_20.2), .no, .no, .fz ((eO eI) key_26), .fz (eI many_21), .fz (eI before_29), .fz (eI x_25), .no]) (ss_set (es_unO (e := eI) (es_var 11 rfl) g33) Wk.refl) (fun before_29 e_before_29 => ?_)
          replace h := h before_29 e_before_29
          obtain ⟨g34, h⟩ := h
          refine ss_seq1 (m_nth_key table_5 spans_6 depth_10 j_20.2 (x_25 + 1)) (fun later_30 => [.ow (oLq (some p) (bagR ((m_pick ((m_pick j_20.1 (many_21 + 1)).2) (many_21 + 1)).2))), .fz (eI t_2.1), .fz (eI t_2.2.1), .fz (eI t_2.2.2), .fz ((eTbl CT) table_5), .fz ((eLs (eP2 K eI eI)) spans_6), .fz (eI x_8), .fz (eI depth_10), .fz (eI j_20.2), .no, .no, .fz ((eO eI) key_26), .fz (eI many_21), .fz (eI before_29), .fz (eI x_25), .fz ((eO eI) later_30)]) (ss_set (es_call (table_5, spans_6, depth_10, j_20.2, x_25 + 1) (as_cons (es_var 4 rfl) (as_cons (es_var 5 rfl) (as_cons (es_var 7 rfl) (as_cons (es_var 8 rfl) (as_cons (es_add (es_var 14 rfl) es_c) as_nil))))) g34) Wk.refl) (fun later_30 e_later_30 => ?_)
          replace h := h later_30 e_later_30
          obtain ⟨g35, g36, g37, g38, g39, g40, h⟩ := h
          obtain ⟨hn, h⟩ := h
          refine ss_ifL (et_and (et_notN (e := eI) (es_var 15 rfl)) (fun hc30 => (et_or (et_cmp (es_unO (e := eI) (es_var 15 rfl) (g35 hc30)) (es_unO (e := eI) (es_var 11 rfl) (g36 hc30)) q_le) (fun hc40 => (et_cmp (es_mod (es_int (es_sub (es_unO (e := eI) (es_var 15 rfl) (g37 hc30 hc40)) (es_unO (e := eI) (es_var 11 rfl) (g38 hc30 hc40)))) (es_shlL es_c (es_var 7 rfl) (g39 hc30 hc40) (by decide)) (g40 hc30 hc40)) es_c q_neI))))) (fun hc => absurd hc (by rw [hn]; exact Bool.false_ne_true)) (fun _ => ss_nxq ?_)
          subst e_later_30 e_before_29
          exact ss_nx ⟨.inr rfl, ⟨.inr rfl, ⟨.inr rfl, ⟨.inr rfl, ⟨.inr rfl, ⟨.inr rfl, ⟨.inr rfl, ⟨.inr rfl, ⟨.inr rfl, ⟨.inr rfl, ⟨.inr rfl, ⟨.inl rfl, ⟨.inr rfl, ⟨.inr rfl, ⟨.inl rfl, ⟨.inl rfl, trivial⟩⟩⟩⟩⟩⟩⟩⟩⟩⟩⟩⟩⟩⟩⟩⟩
      replace h := h f_31 e_f_31
      obtain ⟨g42, h⟩ := h
      obtain ⟨hn, h⟩ := h
      refine ss_ifL (et_notN (e := eI) (es_call (table_5, spans_6, depth_10, j_20.2, many_21) (as_cons (es_var 4 rfl) (as_cons (es_var 5 rfl) (as_cons (es_var 7 rfl) (as_cons (es_var 8 rfl) (as_cons (es_var 12 rfl) as_nil))))) g42)) (fun hc => absurd hc (by rw [hn]; exact Bool.false_ne_true)) (fun _ => ss_nxq ?_)
      subst e_f_31 e_before_22 e_many_21 e_j_20 e_bag_11 e_tail_12 e_bag_9 e_depth_10
      exact ss_nx ⟨.inr rfl, ⟨.inr rfl, ⟨.inr rfl, ⟨.inr rfl, ⟨.inr rfl, ⟨.inr rfl, ⟨.inl rfl, ⟨.inl rfl, ⟨.inl rfl, ⟨.inr rfl, ⟨.inr rfl, ⟨.inr rfl, ⟨.inl rfl, ⟨.inl rfl, ⟨.inr rfl, ⟨.inr rfl, trivial⟩⟩⟩⟩⟩⟩⟩⟩⟩⟩⟩⟩⟩⟩⟩⟩
    replace h := h f_32 e_f_32
    refine ss_retq es_c ?_
    subst e_f_32 e_bag_4 e_spans_6 e_table_5 e_bag_3 e_t_2
    exact ⟨rfl, rfl⟩
end
def m_law_b2 (s_5 : Bag) (x_6 : Int) : Bag :=
let bag_7 := (m_right s_5).2
bag_7
def m_law_o2 (s_5 : Bag) (x_6 : Int) : Prop :=
(m_right_ok s_5) ∧ (!((m_right s_5).1)) = false ∧ (∀ bag_7, bag_7 = ((m_right s_5).2) → (True))
def m_law_b1 (s_2 : Unit) (x_3 : Int) : Unit :=
let bag_4 := m_bag x_3
let f_8 := List.foldl (m_law_b2) bag_4 (rng 0 3)
()
def m_law_o1 (s_2 : Unit) (x_3 : Int) : Prop :=
(m_bag_ok x_3) ∧ (∀ bag_4, bag_4 = (m_bag x_3) → (okF (m_law_o2) (m_law_b2) bag_4 (rng 0 3)) ∧ (∀ f_8, f_8 = List.foldl (m_law_b2) bag_4 (rng 0 3) → True))
def m_law (script_1 : List Int) : Bool :=
let f_9 := List.foldl (m_law_b1) () ((cutL script_1 none (some 6)) ++ ([0] : List Int))
decide ((unO (m_nth_key (⟨2, 1, 0⟩ : Tbl) ([(7, 10 ^ 30)] : List (Int × Int)) 90 6 0)) = ((1 * 2 ^ (90 : Int).toNat) + 6))
def m_law_ok (script_1 : List Int) : Prop :=
((cutL script_1 none (some 6)).length + ([0] : List Int).length ≤ 16000000) ∧ (okF (m_law_o1) (m_law_b1) () ((cutL script_1 none (some 6)) ++ ([0] : List Int))) ∧ (∀ f_9, f_9 = List.foldl (m_law_b1) () ((cutL script_1 none (some 6)) ++ ([0] : List Int)) → (m_Table___init___ok 2 1 0) ∧ (m_nth_key_ok (⟨2, 1, 0⟩ : Tbl) ([(7, 10 ^ 30)] : List (Int × Int)) 90 6 0) ∧ (0 ≤ (90 : Int) ∧ (90 : Int) ≤ 1000000) ∧ ((m_nth_key (⟨2, 1, 0⟩ : Tbl) ([(7, 10 ^ 30)] : List (Int × Int)) 90 6 0).isSome = true) ∧ True)
def sp_law (K : PySem.W.Frag) (CT : Addr) : Sp := spF (ι := (List Int)) (fun d => [(eQ K eI) d]) (fun d => m_law_ok d) (fun d => eB (m_law d))
abbrev s_law : Stmt := top 40
abbrev N_law : List Str := ["_law_script", "_law_cell", "_law_bag_here", "_law_turn"]
theorem sc_law : FnScope N_law ["_law_script"] (defScope s_law) := ⟨rfl, rfl, rfl, by decide +kernel, rfl, by decide +kernel, by decide +kernel⟩
section
variable {P : Program} {w : World} {K : PySem.W.Frag} {mg : Str → Option Value} {base : Heap} {CT : Addr}
theorem ok_law {f : Addr} {fd : FuncData} (F : Fun K "law" "law" s_law f fd) {a_bag : Addr} {fd_bag : FuncData} (F_bag : Fun K "_law_bag" "_law_bag" s_bag a_bag fd_bag) (G_bag : FnG P w K mg base CX0 1 a_bag fd_bag ["_law_cell"] (sp_bag K CT)) (j_bag : mg "_law_bag" = some (.ref a_bag)) (b_bag : Binds K fd_bag ["_law_cell"] []) {a_right : Addr} {fd_right : FuncData} (F_right : Fun K "_law_right" "_law_right" s_right a_right fd_right) (G_right : FnG P w K mg base CX0 7 a_right fd_right ["_law_bag_here"] (sp_right K CT)) (j_right : mg "_law_right" = some (.ref a_right)) (b_right : Binds K fd_right ["_law_bag_here"] []) {a_nth_key : Addr} {fd_nth_key : FuncData} (F_nth_key : Fun K "nth_key" "nth_key" s_nth_key a_nth_key fd_nth_key) (G_nth_key : FnG P w K mg base CX0 6 a_nth_key fd_nth_key ["table", "spans", "depth", "tail", "number"] (sp_nth_key K CT)) (j_nth_key : mg "nth_key" = some (.ref a_nth_key)) (b_nth_key : Binds K fd_nth_key ["table", "spans", "depth", "tail", "number"] []) {a_Table___init__ : Addr} {fd_Table___init__ : FuncData} (F_Table___init__ : Fun K "__init__" "Table.__init__" s_Table___init__ a_Table___init__ fd_Table___init__) (G_Table___init__ : FnG P w K mg base CX0 3 a_Table___init__ fd_Table___init__ ["self", "capacity", "rate", "shift"] (sp_Table___init__ K CT)) (MT : Mk K CT a_Table___init__) (b_Table___init__ : Binds K fd_Table___init__ ["self", "capacity", "rate", "shift"] []) (n_range : mg "range" = none) (TT : TblTxt K mg CT) : FnG P w K mg base CX0 8 f fd ["_law_script"] (sp_law K CT) := by
  obtain ⟨clT, na_own_capacity, na_own_rate, na_own_shift, mgT, isT, xaT, xbT, xcT, xdT⟩ := TT
  refine Fun.okG F sc_law (fun vs H Q E h => ?_) (fun cdv A outer s H vs Q E hG hr h => ?_)
  · obtain ⟨d, F, _, _, h, _⟩ := h
    exact h.len
  · have nd := sc_law.nd
    have hU := hr.units
    refine ⟨_, (pss_cons (ps_for PassesOwn.never rfl (pi_list (pe_op op_cat (pe_slice sl_list (pv 0) po_none (po_some pe_int)) (pe_lst (pa_cons pe_int pa_nil)))) (pg_name (i := 1) nd rfl (by first | exact .inl rfl | exact .inr rfl)) (pss_cons (ps_set (i := 2) nd rfl (by first | exact .inl rfl | exact .inr rfl) (pg_call G_bag hG (hr.mono (by decide)) rfl j_bag F_bag.kp b_bag .nil pass0 (pa_cons (pv 1) pa_nil)))
 (pss_cons (ps_for PassesOwn.never rfl (pi_range1 rfl n_range (pa_cons pe_int pa_nil)) (pg_name (i := 3) nd rfl (by first | exact .inl rfl | exact .inr rfl)) (pss_cons (ps_if (pt_not (pt_val (pg_call G_right hG (hr.mono (by decide)) rfl j_right F_right.kp b_right .nil pass0 (pa_cons (pv 2) pa_nil)))) (pss_one ps_never) pss_nil)
 pss_nil))
 pss_nil)))
 (pss_cons (ps_ret (pe_cmpR op_eq (pg_call G_nth_key hG (hr.mono (by decide)) rfl j_nth_key F_nth_key.kp b_nth_key .nil pass0 (pa_cons (pg_make MT G_Table___init__ hG (hr.mono (by decide)) rfl mgT b_Table___init__ .nil pass0 (pa_cons pe_int (pa_cons pe_int (pa_cons pe_int pa_nil)))) (pa_cons (pe_lst (pa_cons (pe_tup (pa_cons pe_int (pa_cons (pe_op op_pow pe_int pe_int) pa_nil))) pa_nil)) (pa_cons pe_int (pa_cons pe_int (pa_cons pe_int pa_nil)))))) (pe_op op_add (pe_op op_shl pe_int pe_int) pe_int) (nomark _)))
 pss_nil)), ?_⟩
    refine def_F h (fun d => Nat.le_of_ble_eq_true rfl) (fun script_1 h => ?_)
    replace h : m_law_ok script_1 := h
    unfold m_law_ok at h
    show SS _ [.fz ((eQ K eI) script_1), .no, .no, .no] (FP eB (m_law script_1))
    obtain ⟨g1, g5, h⟩ := h
    refine ss_seq1 (List.foldl (m_law_b1) () ((cutL script_1 none (some 6)) ++ ([0] : List Int))) (fun f_9 => [.fz ((eQ K eI) script_1), .no, .no, .no]) (sf_S (e := eI) (l := ((cutL script_1 none (some 6)) ++ ([0] : List Int))) (fun s_2 => [.fz ((eQ K eI) script_1), .no, .no, .no]) (m_law_b1) (m_law_o1) () (is_list (e := eI) (es_frs eI ((cutL script_1 none (some 6)) ++ ([0] : List Int)) (en_cat (es_frs eI (cutL script_1 none (some 6)) (en_sliceQ (e := eI) (es_var 0 rfl) os_no (os_some es_c))) (es_frs eI ([0] : List Int) (en_lst (as_cons es_c as_nil))) g1))) Wk.refl g5 (fun s_2 x_3 _ h => ⟨[.fz ((eQ K eI) script_1), .fz (eI x_3), .no, .no], _, gs_name 1, ?_⟩) (fun _ hw => hw)) (fun f_9 e_f_9 => ?_)
    · unfold m_law_o1 at h
      obtain ⟨g2, h⟩ := h
      refine ss_seq1 (m_bag x_3) (fun bag_4 => [.fz ((eQ K eI) script_1), .fz (eI x_3), .ow (oLq none (bagR bag_4)), .no]) (ss_own (en_call x_3 (as_cons (es_var 1 rfl) as_nil) g2) Wk.refl) (fun bag_4 e_bag_4 => ?_)
      replace h := h bag_4 e_bag_4
      obtain ⟨g4, h⟩ := h
      refine ss_seq1 (List.foldl (m_law_b2) bag_4 (rng 0 3)) (fun f_8 => [.fz ((eQ K eI) script_1), .fz (eI x_3), .ow (oLq none (bagR f_8)), .no]) (sf_S (e := eI) (l := (rng 0 3)) (fun s_5 => [.fz ((eQ K eI) script_1), .fz (eI x_3), .ow (oLq none (bagR s_5)), .no]) (m_law_b2) (m_law_o2) bag_4 (is_rng1 (as_cons es_c as_nil) (by decide)) Wk.refl g4 (fun s_5 x_6 _ h => ⟨[.fz ((eQ K eI) script_1), .fz (eI x_3), .ow (oLq none (bagR s_5)), .fz (eI x_6)], _, gs_name 3, ?_⟩) (fun _ hw => hw)) (fun f_8 e_f_8 => ?_)
      · unfold m_law_o2 at h
        obtain ⟨g3, h⟩ := h
        obtain ⟨hn, h⟩ := h
        refine ss_ifL (et_not (et_val (es_callB s_5 2 rfl as_nil rfl g3))) (fun hc => absurd hc (by rw [hn]; exact Bool.false_ne_true)) (fun _ => ss_nxq ?_)
        refine ss_let1 ((m_right s_5).2) (fun bag_7 => [.fz ((eQ K eI) script_1), .fz (eI x_3), .ow (oLq none (bagR bag_7)), .fz (eI x_6)]) (fun bag_7 e_bag_7 => ?_)
        replace h := h bag_7 e_bag_7
        subst e_bag_7
        exact ss_nx ⟨.inr rfl, ⟨.inr rfl, ⟨.inr rfl, ⟨.inl rfl, trivial⟩⟩⟩⟩
      replace h := h f_8 e_f_8
      subst e_f_8 e_bag_4
      exact ss_nx ⟨.inr rfl, ⟨.inl rfl, ⟨.inl rfl, ⟨.inr rfl, trivial⟩⟩⟩⟩
    replace h := h f_9 e_f_9
    obtain ⟨g6, g7, g8, g9, h⟩ := h
    refine ss_retq (es_cmp (es_unO (e := eI) (es_call ((⟨2, 1, 0⟩ : Tbl), ([(7, 10 ^ 30)] : List (Int × Int)), 90, 6, 0) (as_cons (es_make (2, 1, 0) (as_cons es_c (as_cons es_c (as_cons es_c as_nil))) g6) (as_cons (es_frs (eP2 K eI eI) ([(7, 10 ^ 30)] : List (Int × Int)) (en_lst (as_cons (es_tup (K := K) (as_cons es_c (as_cons (es_pow es_c es_c ⟨by decide, by decide, by decide⟩) as_nil))) as_nil))) (as_cons es_c (as_cons es_c (as_cons es_c as_nil))))) g7) g9) (es_add (es_shlL es_c es_c g8 (by decide)) es_c) q_eqI) ?_
    subst e_f_9
    exact rfl
end
end My
end
section
set_option maxRecDepth 100000
namespace My
open PySem L2 Fw
def Sm (k : Nat) (x : Int) : Prop := x.natAbs < 2 ^ k
theorem Sm.mono {k j : Nat} {x : Int} (h : Sm k x) (l : k ≤ j) : Sm j x := Nat.lt_of_lt_of_le h (Nat.pow_le_pow_right (by decide) l)
theorem Sm.mul {a b : Nat} {x y : Int} (h : Sm a x) (h' : Sm b y) : Sm (a + b) (x * y) := by
  unfold Sm at *
  rw [Int.natAbs_mul, Nat.pow_add]
  exact Nat.mul_lt_mul_of_lt_of_lt h h'
theorem Sm.add {k : Nat} {x y : Int} (h : Sm k x) (h' : Sm k y) : Sm (k + 1) (x + y) := by
  unfold Sm at *
  rw [Nat.pow_succ]
  have := Int.natAbs_add_le x y
  omega
theorem Sm.sub {k : Nat} {x y : Int} (h : Sm k x) (h' : Sm k y) : Sm (k + 1) (x - y) := by
  unfold Sm at *
  rw [Nat.pow_succ]
  have := Int.natAbs_sub_le x y
  omega
theorem Sm.lg {k : Nat} {x : Int} (h : Sm k x) : x.natAbs.log2 ≤ k := by
  by_cases z : x.natAbs = 0
  · rw [z]; exact Nat.zero_le _
  · exact Nat.le_of_lt ((Nat.log2_lt z).mpr h)
theorem Sm.cm {a b : Nat} {x y : Int} (h : Sm a x) (h' : Sm b y) (l : a + b < 1000000) : CMulW x y := by
  unfold CMulW
  have := h.lg
  have := h'.lg
  omega
theorem sm_of {k : Nat} {x : Int} (h1 : 0 ≤ x) (h2 : x < 2 ^ k) : Sm k x := by
  unfold Sm
  have e : ((2 ^ k : Nat) : Int) = 2 ^ k := by push_cast; rfl
  omega
theorem pw_pos (d : Nat) : (0 : Int) < 2 ^ d := Int.pow_pos (by decide)
theorem pw_eq (d : Nat) : (1 : Int) * 2 ^ d = 2 ^ d := Int.one_mul _
theorem mask (x : Int) (d : Nat) : Builtin.bitAnd x (1 * 2 ^ d - 1) = x % 2 ^ d := by rw [pw_eq]; exact PySem.W.kbt_mask x d
theorem pw_lt {d k : Nat} (h : d ≤ k) : (2 : Int) ^ d ≤ 2 ^ k := by
  have : (2 : Nat) ^ d ≤ 2 ^ k := Nat.pow_le_pow_right (by decide) h
  exact_mod_cast this
theorem okF_inv {α β : Type} {ok : β → α → Prop} {b : β → α → β} (I : Nat → β → Prop) : ∀ {l : List α} {s : β} {n : Nat}, I n s → (∀ n s x, x ∈ l → I n s → ok s x ∧ I (n + 1) (b s x)) → okF ok b s l ∧ I (n + l.length) (l.foldl b s)
  | [], s, n, h, _ => ⟨trivial, h⟩
  | x :: l, s, n, h, k => by
    obtain ⟨h1, h2⟩ := k n s x (List.mem_cons_self ..) h
    obtain ⟨g1, g2⟩ := okF_inv I (l := l) h2 fun n s y hy => k n s y (List.mem_cons_of_mem _ hy)
    refine ⟨⟨h1, g1⟩, ?_⟩
    have e : n + (x :: l).length = n + 1 + l.length := by rw [List.length_cons]; omega
    rw [e]; exact g2
theorem okF_I {α β : Type} {ok : β → α → Prop} {b : β → α → β} (I : β → Prop) {l : List α} {s : β} (h : I s) (k : ∀ s x, x ∈ l → I s → ok s x ∧ I (b s x)) : okF ok b s l ∧ I (l.foldl b s) :=
  okF_inv (fun _ => I) (n := 0) h fun _ s x hx hs => k s x hx hs
theorem mem_rng {a b x : Int} : x ∈ rng a b ↔ a ≤ x ∧ x < b := by
  unfold rng
  rw [List.mem_map]
  constructor
  · rintro ⟨k, hk, rfl⟩
    rw [List.mem_range] at hk
    omega
  · rintro ⟨h1, h2⟩
    exact ⟨(x - a).toNat, by rw [List.mem_range]; omega, by omega⟩
theorem len_rng (a b : Int) : (rng a b).length = (b - a).toNat := by unfold rng; simp
theorem pick_lt (b : Bag) {n : Int} (h : 0 < n) : 0 ≤ (m_pick b n).1 ∧ (m_pick b n).1 < n := by
  unfold m_pick
  dsimp only
  unfold m_pick_t1
  dsimp only
  split
  · exact ⟨Int.emod_nonneg _ (by omega), Int.emod_lt_of_pos _ h⟩
  · exact ⟨Int.emod_nonneg _ (by omega), Int.emod_lt_of_pos _ h⟩
theorem pick_ok (b : Bag) {n : Int} (h : 0 < n) (h' : n.natAbs.log2 < 9000) : m_pick_ok b n := by
  unfold m_pick_ok
  intro b3 _
  unfold m_pick_u1
  refine ⟨fun _ => ⟨h, fun _ _ => ⟨⟨h, h'⟩, fun _ _ => trivial⟩⟩, fun _ s _ t _ f hf => ?_⟩
  have f1 : 0 ≤ f ∧ f < 2147483647 := by
    rw [hf]; exact ⟨Int.emod_nonneg _ (by decide), Int.emod_lt_of_pos _ (by decide)⟩
  have fs : Sm 32 f := sm_of f1.1 (Int.lt_trans f1.2 (by decide))
  refine ⟨fs.cm fs (by decide), fun g hg d hd => ?_⟩
  have g1 : 0 ≤ g ∧ g < 2147483587 := by
    rw [hg]; exact ⟨Int.emod_nonneg _ (by decide), Int.emod_lt_of_pos _ (by decide)⟩
  refine ⟨fun _ => ⟨?_, fun _ _ => trivial⟩, fun _ => trivial, fun _ _ => ⟨h, trivial⟩⟩
  rw [hd]
  have e : (2 : Nat) ^ 64 = 18446744073709551616 := by decide
  rw [e]
  omega
theorem whole_iff {v a b : Int} : m_is_whole v a b = true ↔ a ≤ v ∧ v ≤ b := by
  unfold m_is_whole m_is_int
  simp
theorem whole_ok (v a b : Int) : m_is_whole_ok v a b := ⟨trivial, trivial⟩
theorem nwhole {v a b : Int} (h : a ≤ v ∧ v ≤ b) : (!(m_is_whole v a b)) = false := by rw [whole_iff.mpr h]; rfl
theorem key_ok {k : Int} (h : 0 ≤ k ∧ k < 10 ^ 30) : m_require_key_ok k := ⟨whole_ok _ _ _, nwhole (by omega), trivial⟩
theorem depth_ok {d : Int} (h : 0 ≤ d ∧ d ≤ 100) : m_require_depth_ok d := ⟨whole_ok _ _ _, nwhole h, trivial⟩
theorem tail_ok {d t : Int} (h : 0 ≤ d ∧ d ≤ 100) (h' : 0 ≤ t ∧ t < 2 ^ d.toNat) : m_require_tail_ok d t := ⟨by omega, whole_ok _ _ _, nwhole (by rw [pw_eq]; omega), trivial⟩
def SpC : Int → List (Int × Int) → Int → Prop
  | a, [], b => a = b
  | a, x :: l, b => a ≤ x.1 ∧ x.1 < x.2 ∧ SpC x.2 l b
def Sp0 (l : List (Int × Int)) : Prop := l.length ≤ 12 ∧ ∃ b, SpC 0 l b ∧ b ≤ 10 ^ 30
theorem SpC.le : ∀ {l : List (Int × Int)} {a b : Int}, SpC a l b → a ≤ b
  | [], _, _, h => Int.le_of_eq h
  | _ :: l, _, _, h => by have := SpC.le h.2.2; have := h.1; have := h.2.1; omega
theorem SpC.app : ∀ {l m : List (Int × Int)} {a b c : Int}, SpC a l b → SpC b m c → SpC a (l ++ m) c
  | [], _, _, _, _, h, h' => by cases h; exact h'
  | _ :: l, _, _, _, _, h, h' => ⟨h.1, h.2.1, h.2.2.app h'⟩
theorem SpC.mem : ∀ {l : List (Int × Int)} {a b : Int} {x : Int × Int}, SpC a l b → x ∈ l → a ≤ x.1 ∧ x.1 < x.2 ∧ x.2 ≤ b
  | y :: l, a, b, x, h, m => by
    rcases List.mem_cons.mp m with e | m
    · subst e; exact ⟨h.1, h.2.1, h.2.2.le⟩
    · have := h.2.2.mem m; have := h.1; have := h.2.1; omega
theorem Sp0.mem {l : List (Int × Int)} {x : Int × Int} (h : Sp0 l) (m : x ∈ l) : 0 ≤ x.1 ∧ x.1 < x.2 ∧ x.2 ≤ 10 ^ 30 := by
  obtain ⟨_, b, h1, h2⟩ := h
  have := h1.mem m; omega
theorem sp_one {f e : Int} (h : 0 ≤ f ∧ f < e ∧ e ≤ 10 ^ 30) : Sp0 [(f, e)] := ⟨Nat.le_of_ble_eq_true rfl, e, ⟨h.1, h.2.1, rfl⟩, h.2.2⟩
theorem span_ok (x : Int × Int) (a : Int) : m_is_span_ok x a := ⟨fun _ _ => whole_ok _ _ _, fun _ => trivial, fun _ => ⟨whole_ok _ _ _, trivial⟩⟩
theorem span_yes {x : Int × Int} {a : Int} (h : a ≤ x.1 ∧ x.1 < x.2 ∧ x.2 ≤ 10 ^ 30) : m_is_span x a = true := by
  unfold m_is_span
  have h1 : m_is_whole x.1 a (1000000000000000000000000000000 - 1) = true := whole_iff.mpr (by omega)
  have h2 : m_is_whole x.2 (x.1 + 1) 1000000000000000000000000000000 = true := whole_iff.mpr (by omega)
  rw [h1, h2]; rfl
theorem spans_okF : ∀ {l : List (Int × Int)} {a b : Int} (n : Nat), SpC a l b → b ≤ 10 ^ 30 → okF m_require_spans_o1 m_require_spans_b1 a ((l.zipIdx n).map fun p => ((p.2 : Int), p.1))
  | [], _, _, _, _, _ => trivial
  | x :: l, a, b, n, h, hb => by
    refine ⟨⟨span_ok _ _, ?_, fun _ _ => trivial⟩, spans_okF (n + 1) h.2.2 hb⟩
    have := h.2.2.le
    have e : m_is_span x a = true := span_yes ⟨h.1, h.2.1, by omega⟩
    show (!(m_is_span x a)) = false
    rw [e]; rfl
theorem spans_ok {l : List (Int × Int)} (h : Sp0 l) : m_require_spans_ok l := by
  obtain ⟨h1, b, h2, h3⟩ := h
  refine ⟨?_, fun a ha => ⟨?_, fun _ _ => trivial⟩⟩
  · have : ¬ (12 < (l.length : Int)) := by omega
    simp [this]
  · subst ha
    unfold enumI
    exact spans_okF 0 h2 h3
theorem odd_cancel {r : Int} (hr : r % 2 = 1) : ∀ (d : Nat) {x : Int}, (2 : Int) ^ d ∣ r * x → (2 : Int) ^ d ∣ x
  | 0, x, _ => by rw [Int.pow_zero]; exact Int.one_dvd x
  | d + 1, x, h => by
    obtain ⟨k, hk⟩ := h
    rw [Int.pow_succ] at hk
    have e1 : r * x % 2 = 0 := by
      rw [hk, Int.mul_assoc, Int.mul_left_comm]
      exact Int.mul_emod_right 2 _
    have e2 : x % 2 = 0 := by
      rw [Int.mul_emod, hr, Int.one_mul] at e1
      omega
    obtain ⟨y, hy⟩ : ∃ y, x = 2 * y := ⟨x / 2, by omega⟩
    subst hy
    have e3 : r * y = 2 ^ d * k := by
      have : 2 * (r * y) = 2 * (2 ^ d * k) := by
        rw [← Int.mul_left_comm, hk, Int.mul_assoc, Int.mul_left_comm]
      omega
    obtain ⟨z, hz⟩ := odd_cancel hr d ⟨k, e3⟩
    exact ⟨z, by rw [hz, Int.pow_succ, Int.mul_assoc, Int.mul_left_comm]⟩
def Res (r s : Int) (d : Nat) (t x : Int) : Prop := 0 ≤ x ∧ x < 2 ^ d ∧ (2 : Int) ^ d ∣ r * x + s - t
theorem small_zero {m x : Int} (h1 : -m < x) (h2 : x < m) (h : m ∣ x) : x = 0 := by
  obtain ⟨k, rfl⟩ := h
  have hm : 0 < m := by omega
  have k1 : k < 1 := by
    refine Int.lt_of_mul_lt_mul_left (a := m) ?_ (by omega)
    rw [Int.mul_one]; exact h2
  have k2 : -1 < k := by
    refine Int.lt_of_mul_lt_mul_left (a := m) ?_ (by omega)
    rw [Int.mul_neg, Int.mul_one]; exact h1
  have : k = 0 := by omega
  rw [this, Int.mul_zero]
theorem Res.uniq {r s t x y : Int} {d : Nat} (hr : r % 2 = 1) (h : Res r s d t x) (h' : Res r s d t y) : x = y := by
  obtain ⟨a1, a2, a3⟩ := h
  obtain ⟨b1, b2, b3⟩ := h'
  have c := Int.dvd_sub a3 b3
  have e : r * x + s - t - (r * y + s - t) = r * (x - y) := by rw [Int.mul_sub]; omega
  rw [e] at c
  have := small_zero (by omega) (by omega) (odd_cancel hr d c)
  omega
theorem Res.half {r s t x y : Int} {d : Nat} (hr : r % 2 = 1) (h : Res r s (d + 1) t x) (h' : Res r s d t y) : x = y ∨ x = y + 2 ^ d := by
  obtain ⟨a1, a2, a3⟩ := h
  have hp := pw_pos d
  have e2 : (2 : Int) ^ (d + 1) = 2 ^ d * 2 := Int.pow_succ ..
  have dv : (2 : Int) ^ d ∣ r * x + s - t := Int.dvd_trans ⟨2, e2⟩ a3
  have key : Res r s d t (x % 2 ^ d) := by
    refine ⟨Int.emod_nonneg _ (by omega), Int.emod_lt_of_pos _ hp, ?_⟩
    have e : r * (x % 2 ^ d) + s - t = (r * x + s - t) - 2 ^ d * (r * (x / 2 ^ d)) := by
      rw [Int.emod_def, Int.mul_sub, Int.mul_left_comm r (2 ^ d) (x / 2 ^ d)]; omega
    rw [e]
    exact Int.dvd_sub dv ⟨_, rfl⟩
  have := key.uniq hr h'
  have ed : x % 2 ^ d + 2 ^ d * (x / 2 ^ d) = x := by rw [Int.emod_def]; omega
  rw [this] at ed
  have q1 : 0 ≤ x / 2 ^ d := Int.ediv_nonneg a1 (by omega)
  have q2 : x / 2 ^ d < 2 := Int.ediv_lt_of_lt_mul hp (by rw [Int.mul_comm, ← e2]; exact a2)
  have : x / 2 ^ d = 0 ∨ x / 2 ^ d = 1 := by omega
  rcases this with q | q
  · rw [q, Int.mul_zero] at ed; exact .inl (by omega)
  · rw [q, Int.mul_one] at ed; exact .inr (by omega)
theorem newton {r f : Int} {a : Nat} (h : (2 : Int) ^ a ∣ 1 - r * f) : (2 : Int) ^ (a + a) ∣ 1 - r * (f * (2 - r * f)) := by
  obtain ⟨k, hk⟩ := h
  refine ⟨k * k, ?_⟩
  have e : 1 - r * (f * (2 - r * f)) = (1 - r * f) * (1 - r * f) := by
    rw [← Int.mul_assoc]
    generalize r * f = z
    have e1 : z * (2 - z) = z * 2 - z * z := Int.mul_sub ..
    have e2 : (1 - z) * (1 - z) = (1 - z) * 1 - (1 - z) * z := Int.mul_sub ..
    have e3 : (1 - z) * z = 1 * z - z * z := Int.sub_mul ..
    omega
  rw [e, hk, Int.pow_add, Int.mul_assoc, Int.mul_assoc, Int.mul_left_comm k]
theorem dvd_mod {r x m : Int} (h : m ∣ 1 - r * x) : m ∣ 1 - r * (x % m) := by
  have e : 1 - r * (x % m) = (1 - r * x) + m * (r * (x / m)) := by
    rw [Int.emod_def, Int.mul_sub, Int.mul_left_comm r m (x / m)]; omega
  rw [e]
  exact Int.dvd_add h ⟨_, rfl⟩
structure TOk (T : Tbl) : Prop where
  c : 1 ≤ T.capacity ∧ T.capacity ≤ 10 ^ 30
  r : 1 ≤ T.rate ∧ T.rate ≤ 10 ^ 30
  s : 0 ≤ T.shift ∧ T.shift ≤ 10 ^ 30
  o : T.rate % 2 = 1
theorem make_ok {c r s : Int} (T : TOk ⟨c, r, s⟩) : m_Table___init___ok c r s := by
  have tc := T.c; have tr := T.r; have ts := T.s; have to := T.o
  dsimp only at tc tr ts to
  refine ⟨whole_ok _ _ _, nwhole (by omega), whole_ok _ _ _, ?_, whole_ok _ _ _, nwhole (by omega), trivial⟩
  have e : Builtin.bitAnd r 1 = r % 2 := mask r 1
  rw [nwhole (by omega), e, to]; rfl
theorem rng7 : rng 0 7 = [0, 1, 2, 3, 4, 5, 6] := by decide +kernel
theorem pow_dvd {i j : Nat} (h : i ≤ j) : (2 : Int) ^ i ∣ 2 ^ j := ⟨2 ^ (j - i), by rw [← Int.pow_add]; congr 1; omega⟩
theorem new_step {r f : Int} {a d : Nat} (h : (2 : Int) ^ min a d ∣ 1 - r * f) : (2 : Int) ^ min (a + a) d ∣ 1 - r * (f * (2 - r * f) % 2 ^ d) := by
  have h1 : (2 : Int) ^ min (a + a) d ∣ 1 - r * (f * (2 - r * f)) := by
    refine Int.dvd_trans ?_ (newton h)
    exact pow_dvd (by omega)
  have e : 1 - r * (f * (2 - r * f) % 2 ^ d) = (1 - r * (f * (2 - r * f))) + 2 ^ d * (r * (f * (2 - r * f) / 2 ^ d)) := by
    rw [Int.emod_def, Int.mul_sub, Int.mul_left_comm r (2 ^ d) (f * (2 - r * f) / 2 ^ d)]; omega
  rw [e]
  exact Int.dvd_add h1 (Int.dvd_trans (pow_dvd (by omega)) ⟨_, rfl⟩)
theorem sm_rate {T : Tbl} (h : TOk T) : Sm 100 T.rate := sm_of (by have := h.r; omega) (by have := h.r; omega)
theorem res_fold {T : Tbl} (h : TOk T) {d : Nat} (hd : d ≤ 128) : okF (m_residue_of_o1 T (1 * 2 ^ d - 1)) (m_residue_of_b1 T (1 * 2 ^ d - 1)) 1 (rng 0 7) ∧
    Sm 129 ((rng 0 7).foldl (m_residue_of_b1 T (1 * 2 ^ d - 1)) 1) ∧ (2 : Int) ^ d ∣ 1 - T.rate * ((rng 0 7).foldl (m_residue_of_b1 T (1 * 2 ^ d - 1)) 1) := by
  obtain ⟨h1, h2, h3⟩ := okF_inv (ok := m_residue_of_o1 T (1 * 2 ^ d - 1)) (b := m_residue_of_b1 T (1 * 2 ^ d - 1)) (fun n f => Sm 129 f ∧ (2 : Int) ^ min (2 ^ n) d ∣ 1 - T.rate * f) (l := rng 0 7) (s := 1) (n := 0)
    ⟨show (1 : Nat) < 2 ^ 129 by decide, by
      refine Int.dvd_trans (pow_dvd (Nat.min_le_left (2 ^ 0) d)) ?_
      have := h.o
      exact ⟨(1 - T.rate) / 2, by have : (2 : Int) ^ 2 ^ 0 = 2 := rfl
                                  rw [this]; omega⟩⟩
    (fun n f x _ ⟨i1, i2⟩ => by
      have b : m_residue_of_b1 T (1 * 2 ^ d - 1) f x = f * (2 - T.rate * f) % 2 ^ d := mask _ d
      have rf : Sm 229 (T.rate * f) := (sm_rate h).mul i1
      have s2 : Sm 230 (2 - T.rate * f) := Sm.sub (Sm.mono (k := 2) (show (2 : Nat) < 2 ^ 2 by decide) (by decide)) rf
      refine ⟨⟨(sm_rate h).cm i1 (by decide), i1.cm s2 (by decide), fun _ _ => trivial⟩, ?_, ?_⟩
      · rw [b]
        refine sm_of (Int.emod_nonneg _ (Int.ne_of_gt (pw_pos d))) (Int.lt_of_lt_of_le (Int.emod_lt_of_pos _ (pw_pos d)) (pw_lt (by omega)))
      · rw [b]
        have := new_step i2
        have e : 2 ^ n + 2 ^ n = 2 ^ (n + 1) := by rw [Nat.pow_succ]; omega
        rwa [e] at this)
  refine ⟨h1, h2, ?_⟩
  have e : min (2 ^ (0 + (rng 0 7).length)) d = d := by
    rw [len_rng]
    have : 2 ^ (0 + ((7 : Int) - 0).toNat) = 128 := by decide
    omega
  rw [e] at h3; exact h3
theorem res_of {T : Tbl} (h : TOk T) {d : Int} (hd : 0 ≤ d ∧ d ≤ 128) (t : Int) : Res T.rate T.shift d.toNat t (m_residue_of T d t) := by
  obtain ⟨_, _, h3⟩ := res_fold h (d := d.toNat) (by omega)
  unfold m_residue_of
  dsimp only
  rw [mask]
  have hp := pw_pos d.toNat
  refine ⟨Int.emod_nonneg _ (by omega), Int.emod_lt_of_pos _ hp, ?_⟩
  revert h3
  generalize List.foldl _ _ (rng 0 7) = f
  intro h3
  obtain ⟨k, hk⟩ := h3
  obtain ⟨u, hu⟩ : ∃ u, t - T.shift = u := ⟨_, rfl⟩
  rw [hu]
  refine ⟨-(k * u) - T.rate * (f * u / 2 ^ d.toNat), ?_⟩
  have e : T.rate * (f * u) = u - 2 ^ d.toNat * (k * u) := by
    rw [← Int.mul_assoc, ← Int.mul_assoc, ← hk, Int.sub_mul, Int.one_mul]; omega
  have e1 : T.rate * (f * u % 2 ^ d.toNat) = T.rate * (f * u) - T.rate * (2 ^ d.toNat * (f * u / 2 ^ d.toNat)) := by rw [Int.emod_def, Int.mul_sub]
  have e2 : T.rate * (2 ^ d.toNat * (f * u / 2 ^ d.toNat)) = 2 ^ d.toNat * (T.rate * (f * u / 2 ^ d.toNat)) := Int.mul_left_comm ..
  have e3 : 2 ^ d.toNat * (-(k * u) - T.rate * (f * u / 2 ^ d.toNat)) = 2 ^ d.toNat * -(k * u) - 2 ^ d.toNat * (T.rate * (f * u / 2 ^ d.toNat)) := Int.mul_sub ..
  have e4 : 2 ^ d.toNat * -(k * u) = -(2 ^ d.toNat * (k * u)) := Int.mul_neg ..
  omega
theorem res_of_ok {T : Tbl} (h : TOk T) {d t : Int} (hd : 0 ≤ d ∧ d ≤ 128) (ht : 0 ≤ t ∧ t < 2 ^ 129) : m_residue_of_ok T d t := by
  obtain ⟨h1, h2, _⟩ := res_fold h (d := d.toNat) (by omega)
  refine ⟨by omega, fun m hm f hf => ?_⟩
  subst hm hf
  refine ⟨h1, fun g hg => ?_⟩
  subst hg
  have hs := h.s
  have s1 : Sm 130 (t - T.shift) := Sm.sub (sm_of ht.1 ht.2) (sm_of hs.1 (by omega))
  exact ⟨h2.cm s1 (by decide), trivial⟩
theorem Sp0.len {l : List (Int × Int)} (h : Sp0 l) : l.length ≤ 12 := h.1
theorem tc_ok {T : Tbl} (hT : TOk T) {l : List (Int × Int)} (hl : Sp0 l) {d t : Int} (hd : 0 ≤ d ∧ d ≤ 100) (ht : 0 ≤ t ∧ t < 2 ^ d.toNat) : m_tail_count_ok T l d t := by
  have hh := hl.len
  have h2 : t < 2 ^ 129 := Int.lt_of_lt_of_le ht.2 (pw_lt (by omega))
  exact ⟨⟨⟨rfl, trivial⟩, spans_ok hl, depth_ok hd, tail_ok hd ht, trivial⟩, res_of_ok hT (by omega) ⟨ht.1, h2⟩, ⟨fun _ _ => hd.1, fun _ _ => hd.1, by omega, trivial⟩, trivial⟩
def cnt (d : Nat) (R : Int) (x : Int × Int) : Int := (x.2 - 1 - R) / 2 ^ d - (x.1 - 1 - R) / 2 ^ d
theorem rc_eq (l : List (Int × Int)) (d R : Int) : m_residue_count l d R = (l.map (cnt d.toNat R)).sum := rfl
theorem cnt_half (d : Nat) (R : Int) (x : Int × Int) : cnt (d + 1) R x + cnt (d + 1) (R + 2 ^ d) x = cnt d R x := by
  have hp := pw_pos d
  have key : ∀ y : Int, y / 2 ^ (d + 1) + (y - 2 ^ d) / 2 ^ (d + 1) = y / 2 ^ d - 1 := by
    intro y
    have e2 : (2 : Int) ^ (d + 1) = 2 ^ d * 2 := Int.pow_succ ..
    have e3 : (y - 2 ^ d) / 2 ^ d = y / 2 ^ d - 1 := by
      have := Int.add_mul_ediv_right y (-1) (Int.ne_of_gt hp)
      have e : y + -1 * 2 ^ d = y - 2 ^ d := by omega
      rw [e] at this; omega
    rw [e2, ← Int.ediv_ediv_of_nonneg (Int.le_of_lt hp), ← Int.ediv_ediv_of_nonneg (Int.le_of_lt hp), e3]
    omega
  have k1 := key (x.2 - 1 - R)
  have k2 := key (x.1 - 1 - R)
  have e1 : x.2 - 1 - R - 2 ^ d = x.2 - 1 - (R + 2 ^ d) := by omega
  have e2 : x.1 - 1 - R - 2 ^ d = x.1 - 1 - (R + 2 ^ d) := by omega
  rw [e1] at k1
  rw [e2] at k2
  unfold cnt
  omega
theorem sum_add {α : Type} (f g : α → Int) : ∀ l : List α, (l.map f).sum + (l.map g).sum = (l.map fun x => f x + g x).sum
  | [] => rfl
  | x :: l => by
    have := sum_add f g l
    simp only [List.map_cons, List.sum_cons]
    omega
theorem sum_half (d : Nat) (R : Int) (l : List (Int × Int)) : (l.map (cnt (d + 1) R)).sum + (l.map (cnt (d + 1) (R + 2 ^ d))).sum = (l.map (cnt d R)).sum := by
  rw [sum_add]
  congr 1
  exact List.map_congr_left fun x _ => cnt_half d R x
theorem cnt_join (d : Nat) (R f m e : Int) : cnt d R (f, m) + cnt d R (m, e) = cnt d R (f, e) := by unfold cnt; dsimp only; omega
theorem two_tails {T : Tbl} (hT : TOk T) (l : List (Int × Int)) {d t : Int} (hd : 0 ≤ d ∧ d ≤ 99) (ht : 0 ≤ t ∧ t < 2 ^ d.toNat) :
    m_tail_count T l d t = m_tail_count T l (d + 1) (t + 0) + m_tail_count T l (d + 1) (t + 1 * 2 ^ d.toNat) := by
  have hp := pw_pos d.toNat
  have ed : (d + 1).toNat = d.toNat + 1 := by omega
  have A := res_of hT (d := d) (by omega) t
  have B := res_of hT (d := d + 1) (by omega) (t + 0)
  have C := res_of hT (d := d + 1) (by omega) (t + 1 * 2 ^ d.toNat)
  unfold m_tail_count
  rw [rc_eq, rc_eq, rc_eq]
  generalize m_residue_of T d t = R at *
  generalize m_residue_of T (d + 1) (t + 0) = R1 at *
  generalize m_residue_of T (d + 1) (t + 1 * 2 ^ d.toNat) = R2 at *
  rw [ed] at *
  rw [Int.add_zero] at B
  rw [pw_eq] at C
  have b := B.half hT.o A
  have C' : Res T.rate T.shift (d.toNat + 1) (t + 2 ^ d.toNat) R2 := C
  have A' : Res T.rate T.shift d.toNat (t + 2 ^ d.toNat) R := by
    refine ⟨A.1, A.2.1, ?_⟩
    have := Int.dvd_sub A.2.2 (Int.dvd_refl (2 ^ d.toNat))
    have e : T.rate * R + T.shift - t - 2 ^ d.toNat = T.rate * R + T.shift - (t + 2 ^ d.toNat) := by omega
    rwa [e] at this
  have c := C'.half hT.o A'
  have ne : R1 ≠ R2 := fun e => by
    subst e
    have dv := Int.dvd_sub B.2.2 C'.2.2
    have e : T.rate * R1 + T.shift - t - (T.rate * R1 + T.shift - (t + 2 ^ d.toNat)) = 2 ^ d.toNat := by omega
    rw [e] at dv
    have := small_zero (m := 2 ^ (d.toNat + 1)) (by omega) (by rw [Int.pow_succ]; omega) dv
    omega
  have s := sum_half d.toNat R l
  rcases b with b | b <;> rcases c with c | c
  · exact (ne (b.trans c.symm)).elim
  · rw [b, c]; omega
  · rw [b, c]; omega
  · exact (ne (b.trans c.symm)).elim
theorem tc_app (T : Tbl) (l m : List (Int × Int)) (d t : Int) : m_tail_count T (l ++ m) d t = m_tail_count T l d t + m_tail_count T m d t := by
  unfold m_tail_count
  rw [rc_eq, rc_eq, rc_eq, List.map_append, List.sum_append]
theorem tc_split (T : Tbl) (d t : Int) : ∀ l : List (Int × Int), (l.map fun x => m_tail_count T [x] d t).sum = m_tail_count T l d t
  | [] => rfl
  | x :: l => by
    have e := tc_app T [x] l d t
    rw [List.map_cons, List.sum_cons, tc_split T d t l]
    exact e.symm
theorem tc_cut (T : Tbl) (f m e d t : Int) : m_tail_count T [(f, m), (m, e)] d t = m_tail_count T [(f, e)] d t := by
  unfold m_tail_count
  rw [rc_eq, rc_eq]
  simp only [List.map_cons, List.map_nil, List.sum_cons, List.sum_nil]
  have := cnt_join d.toNat (m_residue_of T d t) f m e
  omega
theorem div_step {y m : Int} (hm : 0 < m) : y / m - (y - 1) / m = if m ∣ y then 1 else 0 := by
  have h1 : y % m + m * (y / m) = y := by rw [Int.emod_def]; omega
  have r1 := Int.emod_nonneg y (Int.ne_of_gt hm)
  have r2 := Int.emod_lt_of_pos y hm
  split
  · rename_i h
    have z : y % m = 0 := Int.emod_eq_zero_of_dvd h
    have : (y - 1) / m = y / m - 1 := by
      refine (PySem.W.kbt_unique hm (r := m - 1) ?_ (by omega) (by omega)).1
      rw [Int.mul_sub, Int.mul_one]; omega
    omega
  · rename_i h
    have z : y % m ≠ 0 := fun z => h (Int.dvd_of_emod_eq_zero z)
    have : (y - 1) / m = y / m := (PySem.W.kbt_unique hm (r := y % m - 1) (by omega) (by omega) (by omega)).1
    omega
theorem tab_tail {T : Tbl} (k d : Int) : m_Table_tail T k d = (T.rate * k + T.shift) % 2 ^ d.toNat := mask _ _
theorem sm_key {k : Int} (hk : 0 ≤ k ∧ k < 10 ^ 30) : Sm 100 k := sm_of hk.1 (by omega)
theorem tail_call_ok {T : Tbl} (hT : TOk T) {k d : Int} (hk : 0 ≤ k ∧ k < 10 ^ 30) (hd : 0 ≤ d ∧ d ≤ 100) : m_Table_tail_ok T k d :=
  ⟨key_ok hk, depth_ok hd, ⟨(sm_rate hT).cm (sm_key hk) (by decide), by omega, trivial⟩, trivial⟩
theorem one_key {T : Tbl} (hT : TOk T) (k : Int) {d t : Int} (hd : 0 ≤ d ∧ d ≤ 100) (ht : 0 ≤ t ∧ t < 2 ^ d.toNat) :
    m_tail_count T [(k, k + 1)] d t = b2i (decide (m_Table_tail T k d = t)) := by
  have hp := pw_pos d.toNat
  obtain ⟨_, _, A⟩ := res_of hT (d := d) (by omega) t
  unfold m_tail_count
  rw [rc_eq, tab_tail]
  generalize m_residue_of T d t = R at *
  have e : ([((k, k + 1) : Int × Int)].map (cnt d.toNat R)).sum = (k - R) / 2 ^ d.toNat - (k - R - 1) / 2 ^ d.toNat := by
    simp only [List.map_cons, List.map_nil, List.sum_cons, List.sum_nil, cnt]
    have e1 : k + 1 - 1 - R = k - R := by omega
    have e2 : k - 1 - R = k - R - 1 := by omega
    rw [e1, e2]; omega
  rw [e, div_step hp]
  have iff : (2 : Int) ^ d.toNat ∣ k - R ↔ (T.rate * k + T.shift) % 2 ^ d.toNat = t := by
    have ed : T.rate * k + T.shift - t = (T.rate * R + T.shift - t) + T.rate * (k - R) := by rw [Int.mul_sub]; omega
    constructor
    · intro h
      have h2 : (2 : Int) ^ d.toNat ∣ T.rate * k + T.shift - t := by
        rw [ed]
        exact Int.dvd_add A (Int.dvd_trans h ⟨T.rate, Int.mul_comm ..⟩)
      obtain ⟨q, hq⟩ := h2
      exact (PySem.W.kbt_unique hp (r := t) (q := q) (by omega) ht.1 ht.2).2
    · intro h
      have h2 : (2 : Int) ^ d.toNat ∣ T.rate * k + T.shift - t := ⟨(T.rate * k + T.shift) / 2 ^ d.toNat, by have := Int.emod_def (T.rate * k + T.shift) (2 ^ d.toNat); omega⟩
      have h3 := Int.dvd_sub h2 A
      have e4 : T.rate * k + T.shift - t - (T.rate * R + T.shift - t) = T.rate * (k - R) := by rw [ed]; omega
      rw [e4] at h3
      exact odd_cancel hT.o _ h3
  unfold b2i
  by_cases h : (T.rate * k + T.shift) % 2 ^ d.toNat = t
  · rw [if_pos (iff.mpr h), decide_eq_true h]; rfl
  · rw [if_neg (fun z => h (iff.mp z)), decide_eq_false h]; rfl
theorem pickk (b : Bag) {n : Int} (h : 0 < n) (h' : n ≤ 2 ^ 200) : m_pick_ok b n := pick_ok b h (by
  have := Sm.lg (k := 201) (sm_of (Int.le_of_lt h) (Int.lt_of_le_of_lt h' (by decide)))
  omega)
theorem nth2 {α : Type} [Inhabited α] (a b : α) {i : Int} (h : 0 ≤ i ∧ i < 2) : nth [a, b] i = a ∨ nth [a, b] i = b := by
  have : i = 0 ∨ i = 1 := by omega
  rcases this with e | e <;> subst e
  · exact .inl rfl
  · exact .inr rfl
theorem nth3 {α : Type} [Inhabited α] (a b c : α) {i : Int} (h : 0 ≤ i ∧ i < 3) : nth [a, b, c] i = a ∨ nth [a, b, c] i = b ∨ nth [a, b, c] i = c := by
  have : i = 0 ∨ i = 1 ∨ i = 2 := by omega
  rcases this with e | e | e <;> subst e
  · exact .inl rfl
  · exact .inr (.inl rfl)
  · exact .inr (.inr rfl)
theorem nth_last {α : Type} [Inhabited α] (l : List α) (x : α) : nth (l ++ [x]) ((l ++ [x]).length - 1) = x := by
  unfold nth
  have e : (((l ++ [x]).length : Int) - 1).toNat = l.length := by rw [List.length_append, List.length_singleton]; omega
  rw [e]; simp
theorem three_all (b : Bag) {most : Int} (h : 0 < most ∧ most ≤ 10 ^ 30) : m_three_ok b most ∧ TOk ⟨(m_three b most).1.1, (m_three b most).1.2.1, (m_three b most).1.2.2⟩ := by
  have p1 := pick_lt b (n := 2) (by decide)
  have n1 := nth2 (5 : Int) (5 * 10 ^ 29) p1
  have p2 := pick_lt (m_pick (m_pick (m_pick b 2).2 (nth ([5, 5 * (10 ^ 29)] : List Int) ((m_pick b 2).1))).2 most).2 (n := 2) (by decide)
  have n2 := nth2 (9 : Int) (10 ^ 30 + 1) p2
  have k1 : 0 < nth ([5, 5 * (10 ^ 29)] : List Int) ((m_pick b 2).1) ∧ nth ([5, 5 * (10 ^ 29)] : List Int) ((m_pick b 2).1) ≤ 5 * 10 ^ 29 := by
    rcases n1 with e | e <;> rw [e] <;> decide
  have k2 : 0 < nth ([9, (10 ^ 30) + 1] : List Int) ((m_pick (m_pick (m_pick (m_pick b 2).2 (nth ([5, 5 * (10 ^ 29)] : List Int) ((m_pick b 2).1))).2 most).2 2).1) ∧
      nth ([9, (10 ^ 30) + 1] : List Int) ((m_pick (m_pick (m_pick (m_pick b 2).2 (nth ([5, 5 * (10 ^ 29)] : List Int) ((m_pick b 2).1))).2 most).2 2).1) ≤ 10 ^ 30 + 1 := by
    rcases n2 with e | e <;> rw [e] <;> decide
  have r := pick_lt (m_pick b 2).2 k1.1
  have s := pick_lt (m_pick (m_pick (m_pick (m_pick b 2).2 (nth ([5, 5 * (10 ^ 29)] : List Int) ((m_pick b 2).1))).2 most).2 2).2 k2.1
  have c := pick_lt (m_pick (m_pick b 2).2 (nth ([5, 5 * (10 ^ 29)] : List Int) ((m_pick b 2).1))).2 h.1
  refine ⟨⟨pickk _ (by decide) (by decide), p1, pickk _ k1.1 (by omega), fun z hz w hw => ?_⟩, ?_⟩
  · subst hw
    exact ⟨pickk _ h.1 (by omega), pickk _ (by decide) (by decide), p2, pickk _ k2.1 (by omega), trivial⟩
  · unfold m_three
    dsimp only
    refine ⟨?_, ?_, ?_, ?_⟩ <;> dsimp only <;> omega
theorem spans_all (b : Bag) {many wide : Int} (hm : 0 ≤ many ∧ many ≤ 12) (hw : 0 < wide ∧ wide ≤ 10 ^ 28) : m_spans_ok b many wide ∧ ((m_spans b many wide).1.length : Int) ≤ many ∧ ∃ e, SpC 0 (m_spans b many wide).1 e ∧ e ≤ wide * 25 := by
  have p0 := pick_lt b hw.1
  have p1 := pick_lt (m_pick b wide).2 (n := 2) (by decide)
  have n1 := nth2 (0 : Int) (m_pick b wide).1 p1
  have k1 : 0 ≤ nth ([0, (m_pick b wide).1] : List Int) (m_pick (m_pick b wide).2 2).1 ∧ nth ([0, (m_pick b wide).1] : List Int) (m_pick (m_pick b wide).2 2).1 < wide := by
    rcases n1 with e | e <;> rw [e] <;> omega
  have p2 := pick_lt (m_pick (m_pick b wide).2 2).2 (n := many + 1) (by omega)
  have body : ∀ a0 b0 (l : List Int), 0 ≤ a0 → a0 < wide → (l.length : Int) ≤ many → okF (m_spans_o1 wide) (m_spans_b1 wide) (b0, ([] : List (Int × Int)), a0) l ∧
      (fun (n : Nat) (s : Bag × List (Int × Int) × Int) => s.2.1.length ≤ n ∧ ∃ c, SpC 0 s.2.1 c ∧ c ≤ s.2.2 ∧ 0 ≤ s.2.2 ∧ s.2.2 ≤ wide * (1 + 2 * n)) (0 + l.length) (l.foldl (m_spans_b1 wide) (b0, ([] : List (Int × Int)), a0)) := by
    intro a0 b0 l ha ha' hl
    have go : ∀ (l : List Int) (n : Nat) (s : Bag × List (Int × Int) × Int), (n : Int) + l.length ≤ many → (s.2.1.length ≤ n ∧ ∃ c, SpC 0 s.2.1 c ∧ c ≤ s.2.2 ∧ 0 ≤ s.2.2 ∧ s.2.2 ≤ wide * (1 + 2 * n)) → okF (m_spans_o1 wide) (m_spans_b1 wide) s l ∧
        ((l.foldl (m_spans_b1 wide) s).2.1.length ≤ n + l.length ∧ ∃ c, SpC 0 (l.foldl (m_spans_b1 wide) s).2.1 c ∧ c ≤ (l.foldl (m_spans_b1 wide) s).2.2 ∧ 0 ≤ (l.foldl (m_spans_b1 wide) s).2.2 ∧ (l.foldl (m_spans_b1 wide) s).2.2 ≤ wide * (1 + 2 * ((n + l.length : Nat) : Int))) := by
      intro l
      induction l with
      | nil => exact fun n s _ h => ⟨trivial, h⟩
      | cons x l ih =>
        intro n s hn ⟨h1, c, h2, h3, h4, h5⟩
        rw [List.length_cons] at hn
        have q1 := pick_lt s.1 hw.1
        have q2 := pick_lt (m_pick s.1 wide).2 (n := 3) (by decide)
        have q3 := pick_lt (m_pick (m_pick s.1 wide).2 3).2 hw.1
        have m3 := nth3 (0 : Int) 1 (m_pick s.1 wide).1 q2
        have kk : 0 ≤ nth ([0, 1, (m_pick s.1 wide).1] : List Int) (m_pick (m_pick s.1 wide).2 3).1 ∧ nth ([0, 1, (m_pick s.1 wide).1] : List Int) (m_pick (m_pick s.1 wide).2 3).1 ≤ wide := by
          rcases m3 with e | e | e <;> rw [e] <;> omega
        have eb : m_spans_b1 wide s x = ((m_pick (m_pick (m_pick s.1 wide).2 3).2 wide).2,
            s.2.1 ++ [(s.2.2 + nth ([0, 1, (m_pick s.1 wide).1] : List Int) (m_pick (m_pick s.1 wide).2 3).1, s.2.2 + nth ([0, 1, (m_pick s.1 wide).1] : List Int) (m_pick (m_pick s.1 wide).2 3).1 + 1 + (m_pick (m_pick (m_pick s.1 wide).2 3).2 wide).1)],
            s.2.2 + nth ([0, 1, (m_pick s.1 wide).1] : List Int) (m_pick (m_pick s.1 wide).2 3).1 + 1 + (m_pick (m_pick (m_pick s.1 wide).2 3).2 wide).1) := by
          unfold m_spans_b1
          dsimp only
          rw [nth_last]
        have ok1 : m_spans_o1 wide s x := ⟨pickk _ hw.1 (by omega), pickk _ (by decide) (by decide), q2, fun a _ b hb => ⟨by subst hb; exact pickk _ hw.1 (by omega), by omega, fun f hf _ _ => ⟨by rw [hf]; simp, fun _ _ => trivial⟩⟩⟩
        generalize nth ([0, 1, (m_pick s.1 wide).1] : List Int) (m_pick (m_pick s.1 wide).2 3).1 = g at *
        generalize (m_pick (m_pick (m_pick s.1 wide).2 3).2 wide).1 = v at *
        obtain ⟨r1, r2⟩ := ih (n + 1) (m_spans_b1 wide s x) (by omega) (by
          rw [eb]
          refine ⟨by simp <;> omega, s.2.2 + g + 1 + v, h2.app ⟨by show c ≤ s.2.2 + g; omega, by show s.2.2 + g < s.2.2 + g + 1 + v; omega, rfl⟩, Int.le_refl _, by show 0 ≤ s.2.2 + g + 1 + v; omega, ?_⟩
          show s.2.2 + g + 1 + v ≤ wide * (1 + 2 * ((n + 1 : Nat) : Int))
          have e1 : wide * (1 + 2 * ((n + 1 : Nat) : Int)) = wide * (1 + 2 * (n : Int)) + wide * 2 := by rw [← Int.mul_add]; congr 1 <;> omega
          omega)
        rw [List.foldl_cons, List.length_cons]
        have e2 : n + (l.length + 1) = n + 1 + l.length := by omega
        rw [e2]
        exact ⟨⟨ok1, r1⟩, r2⟩
    have e0 : wide * (1 + 2 * ((0 : Nat) : Int)) = wide := by simp
    obtain ⟨g1, g2⟩ := go l 0 (b0, [], a0) (by omega) ⟨Nat.le_refl _, 0, rfl, ha, ha, by rw [e0]; exact Int.le_of_lt ha'⟩
    exact ⟨g1, g2⟩
  generalize hA : nth ([0, (m_pick b wide).1] : List Int) (m_pick (m_pick b wide).2 2).1 = a0 at *
  have hl : ((rng 0 (m_pick (m_pick (m_pick b wide).2 2).2 (many + 1)).1).length : Int) ≤ many := by rw [len_rng]; omega
  obtain ⟨o1, o2, c, o3, o4, o5, o6⟩ := body a0 (m_pick (m_pick (m_pick b wide).2 2).2 (many + 1)).2 (rng 0 (m_pick (m_pick (m_pick b wide).2 2).2 (many + 1)).1) k1.1 k1.2 hl
  refine ⟨⟨pickk _ hw.1 (by omega), pickk _ (by decide) (by decide), p1, fun a ha b' hb => ?_⟩, ?_⟩
  · subst hb
    rw [hA] at ha
    subst ha
    exact ⟨pickk _ (by omega) (by omega), by omega, o1, fun _ _ => trivial⟩
  · unfold m_spans
    dsimp only
    rw [hA]
    generalize List.foldl _ _ _ = f at *
    refine ⟨by omega, c, o3, ?_⟩
    have e1 : wide * (1 + 2 * ((0 + (rng 0 (m_pick (m_pick (m_pick b wide).2 2).2 (many + 1)).1).length : Nat) : Int)) ≤ wide * 25 := Int.mul_le_mul_of_nonneg_left (by omega) (by omega)
    omega
theorem nth_mem {α : Type} [Inhabited α] {l : List α} {i : Int} (h : 0 ≤ i ∧ i < l.length) : nth l i ∈ l := by
  unfold nth
  have hi : i.toNat < l.length := by omega
  rw [List.getD_eq_getElem?_getD, List.getElem?_eq_getElem hi]
  exact List.getElem_mem hi
theorem mem_enumI {α : Type} [Inhabited α] {l : List α} {p : Int × α} (h : p ∈ enumI l) : 0 ≤ p.1 ∧ p.1 < l.length ∧ nth l p.1 = p.2 := by
  obtain ⟨k, hk⟩ := List.mem_iff_getElem?.mp h
  rw [enumI_at] at hk
  cases q : l[k]? with
  | none => rw [q] at hk; cases hk
  | some x =>
    rw [q] at hk; cases hk
    have := (List.getElem?_eq_some_iff.mp q).1
    refine ⟨by show 0 ≤ (k : Int); omega, by show (k : Int) < _; omega, ?_⟩
    show l.getD ((k : Int)).toNat default = x
    have e : ((k : Int)).toNat = k := by omega
    rw [e, List.getD_eq_getElem?_getD, q]; rfl
theorem cut_take {α : Type} (l : List α) {k : Int} (h : 0 ≤ k ∧ k ≤ l.length) : cutL l none (some k) = l.take k.toNat := by
  unfold cutL HT.sIx
  dsimp only
  rw [if_neg (by omega), Nat.sub_zero, List.drop_zero]
  congr 1; omega
theorem cut_drop {α : Type} (l : List α) {k : Int} (h : 0 ≤ k ∧ k ≤ l.length) : cutL l (some k) none = l.drop k.toNat := by
  unfold cutL HT.sIx
  dsimp only
  rw [if_neg (by omega)]
  have e : min k.toNat l.length = k.toNat := by omega
  rw [e]
  exact List.take_of_length_le (by rw [List.length_drop]; omega)
theorem part {α : Type} [Inhabited α] (l : List α) {k : Int} (h : 0 ≤ k ∧ k < l.length) : l = l.take k.toNat ++ nth l k :: l.drop (k + 1).toNat := by
  have hk : k.toNat < l.length := by omega
  have e : (k + 1).toNat = k.toNat + 1 := by omega
  have e2 : nth l k = l[k.toNat] := by
    unfold nth
    rw [List.getD_eq_getElem?_getD, List.getElem?_eq_getElem hk]; rfl
  rw [e, e2, ← List.drop_eq_getElem_cons hk, List.take_append_drop]
theorem SpC.cut : ∀ {l : List (Int × Int)} {a b : Int} {x : Int × Int} {m : List (Int × Int)}, SpC a (l ++ x :: m) b → ∃ c, SpC a l c ∧ c ≤ x.1 ∧ x.1 < x.2 ∧ SpC x.2 m b
  | [], a, _, _, _, h => ⟨a, rfl, h⟩
  | y :: l, _, _, _, _, h => by
    obtain ⟨c, h1, h2⟩ := SpC.cut (l := l) h.2.2
    exact ⟨c, ⟨h.1, h.2.1, h1⟩, h2⟩
theorem nd {p : Prop} [Decidable p] (h : p) : (!decide p) = false := by rw [decide_eq_true h]; rfl
theorem tail_mem {d t x : Int} (hd : 0 ≤ d) (ht : 0 ≤ t ∧ t < 2 ^ d.toNat) (h : x ∈ ([0, 1 * 2 ^ d.toNat] : List Int)) : 0 ≤ t + x ∧ t + x < 2 ^ (d + 1).toNat := by
  have e : (d + 1).toNat = d.toNat + 1 := by omega
  rw [e, Int.pow_succ]
  rcases List.mem_cons.mp h with z | z
  · omega
  · rcases List.mem_cons.mp z with z | z
    · rw [pw_eq] at z; omega
    · cases z
theorem tc_zero {T : Tbl} (hT : TOk T) (l : List (Int × Int)) : m_tail_count T l 0 0 = (l.map fun x => x.2 - x.1).sum := by
  have A := res_of hT (d := 0) (by omega) 0
  have e : m_residue_of T 0 0 = 0 := by
    have h1 := A.1
    have h2 : m_residue_of T 0 0 < 2 ^ 0 := A.2.1
    rw [Int.pow_zero] at h2
    omega
  unfold m_tail_count
  rw [rc_eq, e]
  congr 1
  refine List.map_congr_left fun x _ => ?_
  show (x.2 - 1 - 0) / 2 ^ 0 - (x.1 - 1 - 0) / 2 ^ 0 = _
  rw [Int.pow_zero, Int.ediv_one, Int.ediv_one]
  omega
theorem t510 : TOk ⟨5, 1, 0⟩ := ⟨by decide, by decide, by decide, by decide⟩
theorem tbig : TOk ⟨1, 10 ^ 30 - 1, 10 ^ 30⟩ := ⟨by decide, by decide, by decide, by decide⟩
theorem whole_count {d : Int} (hd : 0 ≤ d ∧ d ≤ 100) : m_tail_count ⟨5, 1, 0⟩ [(0, 10 ^ 30)] d 0 = (10 ^ 30 - 1) / 2 ^ d.toNat + 1 := by
  have A := res_of t510 (d := d) (by omega) 0
  have B : Res 1 0 d.toNat 0 0 := ⟨by decide, pw_pos _, ⟨0, by simp⟩⟩
  have e : m_residue_of ⟨5, 1, 0⟩ d 0 = 0 := A.uniq (by decide) B
  unfold m_tail_count
  rw [rc_eq, e]
  have hp := pw_pos d.toNat
  have e1 : (0 - 1 - 0 : Int) / 2 ^ d.toNat = -1 := (PySem.W.kbt_unique hp (r := 2 ^ d.toNat - 1) (by omega) (by omega) (by omega)).1
  show (10 ^ 30 - 1 - 0) / 2 ^ d.toNat - (0 - 1 - 0) / 2 ^ d.toNat + 0 = _
  rw [e1, Int.sub_zero]; omega
end My
end
section
set_option maxRecDepth 100000
namespace My
open PySem L2 Fw
/-- has the remainder -/
def Rem (d : Nat) (R k : Int) : Bool := decide ((k - R) % 2 ^ d = 0)
theorem rem_iff {d : Nat} {R k : Int} : Rem d R k = true ↔ (2 : Int) ^ d ∣ k - R := by
  unfold Rem
  rw [decide_eq_true_iff]
  exact ⟨Int.dvd_of_emod_eq_zero, Int.emod_eq_zero_of_dvd⟩
def base (d : Nat) (R f : Int) : Int := R + ((f - 1 - R) / 2 ^ d + 1) * 2 ^ d
theorem base_eq (d : Nat) (R f : Int) : f + (R - f) % 2 ^ d = base d R f := by
  have hp := pw_pos d
  have h1 : (f - 1 - R) % 2 ^ d + 2 ^ d * ((f - 1 - R) / 2 ^ d) = f - 1 - R := by rw [Int.emod_def]; omega
  have r1 := Int.emod_nonneg (f - 1 - R) (Int.ne_of_gt hp)
  have r2 := Int.emod_lt_of_pos (f - 1 - R) hp
  unfold base
  generalize (f - 1 - R) / 2 ^ d = p at *
  generalize (f - 1 - R) % 2 ^ d = s at *
  have e := (PySem.W.kbt_unique (a := R - f) (b := 2 ^ d) (q := -(p + 1)) (r := 2 ^ d - 1 - s) hp (by
    have e1 : 2 ^ d * -(p + 1) = -(2 ^ d * p) - 2 ^ d := by rw [Int.mul_neg, Int.mul_add, Int.mul_one]; omega
    omega) (by omega) (by omega)).2
  rw [e]
  have e2 : (p + 1) * 2 ^ d = 2 ^ d * p + 2 ^ d := by rw [Int.add_mul, Int.one_mul, Int.mul_comm]
  omega
theorem rng_snoc (f : Int) (n : Nat) : rng f (f + ((n + 1 : Nat) : Int)) = rng f (f + n) ++ [f + n] := by
  unfold rng
  have e1 : (f + ((n + 1 : Nat) : Int) - f).toNat = n + 1 := by omega
  have e2 : (f + (n : Int) - f).toNat = n := by omega
  rw [e1, e2, List.range_succ, List.map_append]; rfl
theorem rng_nil (f : Int) : rng f (f + ((0 : Nat) : Int)) = [] := by
  unfold rng
  have e2 : (f + ((0 : Nat) : Int) - f).toNat = 0 := by omega
  rw [e2]; rfl
/-- the keys of a span that have the remainder, in their sequence -/
theorem span_rem (d : Nat) (R f : Int) : ∀ n : Nat, 0 ≤ cnt d R (f, f + n) ∧ (rng f (f + n)).filter (Rem d R) = (List.range (cnt d R (f, f + n)).toNat).map fun i : Nat => base d R f + (i : Int) * 2 ^ d
  | 0 => by
    rw [rng_nil]
    have e : cnt d R (f, f + ((0 : Nat) : Int)) = 0 := by
      unfold cnt
      dsimp only
      have : f + ((0 : Nat) : Int) = f := by omega
      rw [this]; omega
    rw [e]
    exact ⟨Int.le_refl _, rfl⟩
  | n + 1 => by
    obtain ⟨h1, h2⟩ := span_rem d R f n
    have hp := pw_pos d
    rw [rng_snoc, List.filter_append, h2]
    have st := div_step (y := f + n - R) hp
    have ec : cnt d R (f, f + ((n + 1 : Nat) : Int)) = cnt d R (f, f + n) + (if (2 : Int) ^ d ∣ f + n - R then 1 else 0) := by
      unfold cnt
      dsimp only
      rw [← st]
      have e1 : f + ((n + 1 : Nat) : Int) - 1 - R = f + n - R := by omega
      have e2 : f + (n : Int) - 1 - R = f + n - R - 1 := by omega
      rw [e1, e2]; omega
    by_cases hd : (2 : Int) ^ d ∣ f + n - R
    · rw [if_pos hd] at ec
      have hr : Rem d R (f + n) = true := rem_iff.mpr hd
      have e3 : [f + (n : Int)].filter (Rem d R) = [f + n] := by
        rw [List.filter_cons, if_pos hr]; rfl
      rw [ec, e3]
      have e4 : (cnt d R (f, f + n) + 1).toNat = (cnt d R (f, f + n)).toNat + 1 := by omega
      rw [e4, List.range_succ, List.map_append]
      refine ⟨by omega, ?_⟩
      congr 1
      show [f + (n : Int)] = [base d R f + ((cnt d R (f, f + n)).toNat : Int) * 2 ^ d]
      congr 1
      have e5 : ((cnt d R (f, f + n)).toNat : Int) = cnt d R (f, f + n) := by omega
      rw [e5]
      obtain ⟨q, hq⟩ := hd
      have e6 : (f + (n : Int) - 1 - R) / 2 ^ d = q - 1 := by
        refine (PySem.W.kbt_unique hp (r := 2 ^ d - 1) ?_ (by omega) (by omega)).1
        rw [Int.mul_sub, Int.mul_one]; omega
      unfold cnt base
      dsimp only
      rw [e6]
      generalize (f - 1 - R) / 2 ^ d = p
      have e7 : R + (p + 1) * 2 ^ d + (q - 1 - p) * 2 ^ d = R + ((p + 1) + (q - 1 - p)) * 2 ^ d := by rw [Int.add_mul (p + 1)]; omega
      have e8 : (p + 1) + (q - 1 - p) = q := by omega
      rw [e7, e8, Int.mul_comm]; omega
    · rw [if_neg hd] at ec
      have hr : Rem d R (f + n) = false := by
        cases z : Rem d R (f + n) with
        | true => exact (hd (rem_iff.mp z)).elim
        | false => rfl
      have e3 : [f + (n : Int)].filter (Rem d R) = [] := by
        rw [List.filter_cons, hr]; rfl
      rw [ec, e3, Int.add_zero, List.append_nil]
      exact ⟨h1, rfl⟩
theorem span_rem' (d : Nat) (R : Int) {x : Int × Int} (h : x.1 ≤ x.2) : 0 ≤ cnt d R x ∧ (rng x.1 x.2).filter (Rem d R) = (List.range (cnt d R x).toNat).map fun i : Nat => base d R x.1 + (i : Int) * 2 ^ d := by
  have := span_rem d R x.1 (x.2 - x.1).toNat
  have e : x.1 + ((x.2 - x.1).toNat : Int) = x.2 := by omega
  rw [e] at this
  exact this
/-- all keys of the spans -/
def keysOf (l : List (Int × Int)) : List Int := l.flatMap fun x => rng x.1 x.2
theorem keys_count (d : Nat) (R : Int) : ∀ {l : List (Int × Int)} {a b : Int}, SpC a l b → (((keysOf l).filter (Rem d R)).length : Int) = (l.map (cnt d R)).sum
  | [], _, _, _ => rfl
  | x :: l, a, b, h => by
    have ih := keys_count d R (l := l) h.2.2
    obtain ⟨h1, h2⟩ := span_rem' d R (x := x) (by have := h.2.1; omega)
    show (((rng x.1 x.2 ++ keysOf l).filter (Rem d R)).length : Int) = cnt d R x + (l.map (cnt d R)).sum
    rw [List.filter_append, h2, List.length_append, List.length_map, List.length_range]
    omega
theorem bits_sm {k : Nat} {x : Int} (h : Sm k x) : Builtin.Int.intBits x ≤ k + 1 := by
  have := h.lg
  unfold Builtin.Int.intBits
  split <;> omega
/-- the n-th key, span by span -/
theorem nth_walk {d : Int} (hd : 0 ≤ d ∧ d ≤ 100) (R : Int) : ∀ {l : List (Int × Int)} {a b : Int} (n : Int), SpC a l b → 0 ≤ a → b ≤ 10 ^ 30 → 0 ≤ n →
    okR (m_nth_key_o1 d R) (m_nth_key_b1 d R) n l ∧ sumC id (m_nth_key_r1 d R) (loopR (m_nth_key_b1 d R) n l) = ((keysOf l).filter (Rem d.toNat R))[n.toNat]?
  | [], a, b, n, _, _, _, _ => ⟨trivial, by simp [keysOf, loopR, sumC, m_nth_key_r1]⟩
  | x :: l, a, b, n, h, ha, hb, hn => by
    have hle := h.2.2.le
    have hx1 := h.1
    have hx2 := h.2.1
    obtain ⟨h1, h2⟩ := span_rem' d.toNat R (x := x) (by have := h.2.1; omega)
    have ec : m_residue_count [(x.1, x.2)] d R = cnt d.toNat R x := by
      rw [rc_eq]
      simp only [List.map_cons, List.map_nil, List.sum_cons, List.sum_nil]
      exact Int.add_zero _
    have eb : m_nth_key_b1 d R n x = if n < cnt d.toNat R x then .inl (some (base d.toNat R x.1 + n * 2 ^ d.toNat)) else .inr (n - cnt d.toNat R x) := by
      unfold m_nth_key_b1
      dsimp only
      rw [ec]
      unfold m_nth_key_t2
      rw [mask, base_eq]
      by_cases z : n < cnt d.toNat R x
      · rw [if_pos (decide_eq_true z), if_pos z]
      · rw [if_neg (by rw [decide_eq_false z]; exact Bool.false_ne_true), if_neg z]
    have hc : cnt d.toNat R x ≤ x.2 - x.1 := by
      have := congrArg List.length h2
      rw [List.length_map, List.length_range] at this
      have l2 := List.length_filter_le (Rem d.toNat R) (rng x.1 x.2)
      rw [len_rng] at l2
      omega
    have ok1 : m_nth_key_o1 d R n x := by
      refine ⟨⟨fun _ _ => hd.1, fun _ _ => hd.1, Nat.le_of_ble_eq_true rfl, trivial⟩, fun many hm => ?_⟩
      rw [ec] at hm
      refine ⟨fun z => ⟨by omega, ⟨hd.1, ?_⟩, trivial⟩, fun _ _ _ => trivial⟩
      have z' := of_decide_eq_true z
      have := bits_sm (k := 100) (sm_of (x := n) hn (by omega))
      have e7 : (2 : Int) ^ 27 = 134217728 := by decide
      rw [e7]
      omega
    have ef : (keysOf (x :: l)).filter (Rem d.toNat R) = ((List.range (cnt d.toNat R x).toNat).map fun i : Nat => base d.toNat R x.1 + (i : Int) * 2 ^ d.toNat) ++ (keysOf l).filter (Rem d.toNat R) := by
      show (rng x.1 x.2 ++ keysOf l).filter (Rem d.toNat R) = _
      rw [List.filter_append, h2]
    rw [ef]
    by_cases z : n < cnt d.toNat R x
    · rw [if_pos z] at eb
      refine ⟨⟨ok1, by rw [eb]; trivial⟩, ?_⟩
      unfold loopR
      rw [eb]
      show some _ = _
      rw [List.getElem?_append_left (by rw [List.length_map, List.length_range]; omega), List.getElem?_map, List.getElem?_range (by omega)]
      show _ = some _
      congr 3
      omega
    · rw [if_neg z] at eb
      obtain ⟨g1, g2⟩ := nth_walk hd R (l := l) (n - cnt d.toNat R x) h.2.2 (by have := h.1; have := h.2.1; omega) hb (by omega)
      refine ⟨⟨ok1, by rw [eb]; exact g1⟩, ?_⟩
      unfold loopR
      rw [eb]
      show sumC id (m_nth_key_r1 d R) (loopR (m_nth_key_b1 d R) (n - cnt d.toNat R x) l) = _
      rw [g2, List.getElem?_append_right (by rw [List.length_map, List.length_range]; omega), List.length_map, List.length_range]
      congr 1
      omega
theorem num_ok {n : Int} (h : 0 ≤ n) : m_require_number_ok n := by
  refine ⟨trivial, ?_, trivial⟩
  unfold m_is_int
  have : ¬ n < 0 := by omega
  simp [this]
theorem rem_tail {T : Tbl} (hT : TOk T) {d t : Int} (hd : 0 ≤ d ∧ d ≤ 100) (ht : 0 ≤ t ∧ t < 2 ^ d.toNat) (k : Int) : Rem d.toNat (m_residue_of T d t) k = decide ((T.rate * k + T.shift) % 2 ^ d.toNat = t) := by
  have hp := pw_pos d.toNat
  obtain ⟨_, _, A⟩ := res_of hT (d := d) (by omega) t
  generalize m_residue_of T d t = R at *
  have ed : T.rate * k + T.shift - t = (T.rate * R + T.shift - t) + T.rate * (k - R) := by rw [Int.mul_sub]; omega
  rw [Bool.eq_iff_iff, rem_iff, decide_eq_true_iff]
  constructor
  · intro h
    have h2 : (2 : Int) ^ d.toNat ∣ T.rate * k + T.shift - t := by
      rw [ed]
      exact Int.dvd_add A (Int.dvd_trans h ⟨T.rate, Int.mul_comm ..⟩)
    obtain ⟨q, hq⟩ := h2
    exact (PySem.W.kbt_unique hp (r := t) (q := q) (by omega) ht.1 ht.2).2
  · intro h
    have h2 : (2 : Int) ^ d.toNat ∣ T.rate * k + T.shift - t := ⟨(T.rate * k + T.shift) / 2 ^ d.toNat, by have := Int.emod_def (T.rate * k + T.shift) (2 ^ d.toNat); omega⟩
    have h3 := Int.dvd_sub h2 A
    have e4 : T.rate * k + T.shift - t - (T.rate * R + T.shift - t) = T.rate * (k - R) := by rw [ed]; omega
    rw [e4] at h3
    exact odd_cancel hT.o _ h3
/-- the keys with a tail, and what the functions tell of them -/
def dueOf (T : Tbl) (l : List (Int × Int)) (d t : Int) : List Int := (keysOf l).filter fun k => decide ((T.rate * k + T.shift) % 2 ^ d.toNat = t)
theorem due_rem {T : Tbl} (hT : TOk T) (l : List (Int × Int)) {d t : Int} (hd : 0 ≤ d ∧ d ≤ 100) (ht : 0 ≤ t ∧ t < 2 ^ d.toNat) : dueOf T l d t = (keysOf l).filter (Rem d.toNat (m_residue_of T d t)) :=
  List.filter_congr fun k _ => (rem_tail hT hd ht k).symm
theorem tc_due {T : Tbl} (hT : TOk T) {l : List (Int × Int)} (hl : Sp0 l) {d t : Int} (hd : 0 ≤ d ∧ d ≤ 100) (ht : 0 ≤ t ∧ t < 2 ^ d.toNat) : m_tail_count T l d t = ((dueOf T l d t).length : Int) := by
  obtain ⟨_, b, h, _⟩ := hl
  rw [due_rem hT l hd ht, keys_count _ _ h]; rfl
theorem nth_due {T : Tbl} (hT : TOk T) {l : List (Int × Int)} (hl : Sp0 l) {d t n : Int} (hd : 0 ≤ d ∧ d ≤ 100) (ht : 0 ≤ t ∧ t < 2 ^ d.toNat) (hn : 0 ≤ n) :
    m_nth_key_ok T l d t n ∧ m_nth_key T l d t n = (dueOf T l d t)[n.toNat]? := by
  obtain ⟨_, b, h, hb⟩ := id hl
  obtain ⟨g1, g2⟩ := nth_walk hd (m_residue_of T d t) n h (Int.le_refl _) hb hn
  have tk := tc_ok hT hl hd ht
  refine ⟨⟨tk.1, num_ok hn, tk.2.1, fun r hr z hz => ?_⟩, ?_⟩
  · subst hr hz
    exact ⟨g1, fun _ _ => trivial⟩
  · rw [due_rem hT l hd ht, ← g2]; rfl
theorem SpC.key : ∀ {l : List (Int × Int)} {a b k : Int}, SpC a l b → k ∈ keysOf l → a ≤ k ∧ k < b
  | x :: l, a, b, k, h, m => by
    have := h.2.2.le
    have := h.1
    have := h.2.1
    rcases List.mem_append.mp (show k ∈ rng x.1 x.2 ++ keysOf l from m) with m | m
    · have := mem_rng.mp m; omega
    · have := h.2.2.key m; omega
theorem Sp0.key {l : List (Int × Int)} {k : Int} (h : Sp0 l) (m : k ∈ keysOf l) : 0 ≤ k ∧ k < 10 ^ 30 := by
  obtain ⟨_, b, h1, h2⟩ := h
  have := h1.key m; omega
end My
end
section
set_option maxRecDepth 100000
namespace My
open PySem L2 Fw
theorem rng_sorted (a b : Int) : (rng a b).Pairwise (· < ·) := by
  unfold rng
  rw [List.pairwise_map]
  exact List.pairwise_lt_range.imp fun h => by omega
theorem keys_sorted : ∀ {l : List (Int × Int)} {a b : Int}, SpC a l b → (keysOf l).Pairwise (· < ·)
  | [], _, _, _ => List.Pairwise.nil
  | x :: l, a, b, h => by
    show (rng x.1 x.2 ++ keysOf l).Pairwise (· < ·)
    rw [List.pairwise_append]
    refine ⟨rng_sorted _ _, keys_sorted h.2.2, fun u hu v hv => ?_⟩
    have := mem_rng.mp hu
    have := h.2.2.key hv
    omega
theorem due_sorted {T : Tbl} {l : List (Int × Int)} (hl : Sp0 l) (d t : Int) : (dueOf T l d t).Pairwise (· < ·) := by
  obtain ⟨_, b, h, _⟩ := hl
  exact (keys_sorted h).filter _
theorem due_mem {T : Tbl} {l : List (Int × Int)} {d t k : Int} : k ∈ dueOf T l d t ↔ k ∈ keysOf l ∧ (T.rate * k + T.shift) % 2 ^ d.toNat = t := by
  unfold dueOf
  rw [List.mem_filter, decide_eq_true_iff]
/-- the spans ahead of a key -/
theorem ahead_all : ∀ {l : List (Int × Int)} {a b : Int} (k : Int), SpC a l b → 0 ≤ a → ∃ c, SpC a (m_ahead l k) c ∧ c ≤ max a b ∧ (m_ahead l k).length ≤ l.length ∧ keysOf (m_ahead l k) = (keysOf l).filter (fun z => decide (z < k))
  | [], a, b, k, h, _ => ⟨a, rfl, by omega, Nat.le_refl _, rfl⟩
  | x :: l, a, b, k, h, ha => by
    have h1 := h.1
    have h2 := h.2.1
    have hle := h.2.2.le
    by_cases z : x.1 < k
    · obtain ⟨c, g1, g2, g3, g4⟩ := ahead_all k h.2.2 (by omega)
      have e : m_ahead (x :: l) k = (x.1, min2 x.2 k) :: m_ahead l k := by
        unfold m_ahead
        rw [List.filter_cons, if_pos (decide_eq_true z)]; rfl
      have mn : min2 x.2 k = if k < x.2 then k else x.2 := rfl
      by_cases y : k < x.2
      · -- nothing behind it
        have none_ : ∀ {l : List (Int × Int)} {a b : Int}, SpC a l b → k ≤ a → m_ahead l k = [] := by
          intro l
          induction l with
          | nil => exact fun _ _ => rfl
          | cons u l ih =>
            intro a b hs hk
            have := hs.1
            have := hs.2.1
            unfold m_ahead
            rw [List.filter_cons, decide_eq_false (by omega)]
            exact ih hs.2.2 (by omega)
        have no2 : ∀ {l : List (Int × Int)} {a b : Int}, SpC a l b → k ≤ a → (keysOf l).filter (fun z => decide (z < k)) = [] := by
          intro l a b hs hk
          rw [List.filter_eq_nil_iff]
          intro q hq
          have := hs.key hq
          simp; omega
        rw [e, none_ h.2.2 (by omega), mn, if_pos y]
        refine ⟨k, ⟨h1, z, rfl⟩, by omega, by simp, ?_⟩
        show rng x.1 k ++ [] = (rng x.1 x.2 ++ keysOf l).filter (fun z => decide (z < k))
        rw [List.filter_append, no2 h.2.2 (by omega), List.append_nil, List.append_nil]
        exact strict_uniq (rng_sorted _ _) ((rng_sorted _ _).filter _) fun q => by
          rw [List.mem_filter, mem_rng, mem_rng, decide_eq_true_iff]; omega
      · rw [e, mn, if_neg y]
        refine ⟨c, ⟨h1, h2, g1⟩, by omega, by rw [List.length_cons, List.length_cons]; omega, ?_⟩
        show rng x.1 x.2 ++ keysOf (m_ahead l k) = (rng x.1 x.2 ++ keysOf l).filter (fun z => decide (z < k))
        rw [List.filter_append, g4]
        congr 1
        rw [List.filter_eq_self.mpr]
        intro q hq
        have := mem_rng.mp hq
        rw [decide_eq_true_iff]; omega
    · obtain ⟨c, g1, g2, g3, g4⟩ := ahead_all k h.2.2 (by omega)
      have e : m_ahead (x :: l) k = m_ahead l k := by
        unfold m_ahead
        rw [List.filter_cons, if_neg (by rw [decide_eq_false z]; exact Bool.false_ne_true)]
      have none_ : ∀ {l : List (Int × Int)} {a b : Int}, SpC a l b → k ≤ a → m_ahead l k = [] := by
        intro l
        induction l with
        | nil => exact fun _ _ => rfl
        | cons u l ih =>
          intro a b hs hk
          have := hs.1
          have := hs.2.1
          unfold m_ahead
          rw [List.filter_cons, decide_eq_false (by omega)]
          exact ih hs.2.2 (by omega)
      rw [e, none_ h.2.2 (by omega)]
      refine ⟨a, rfl, by omega, by simp, ?_⟩
      show [] = (rng x.1 x.2 ++ keysOf l).filter (fun z => decide (z < k))
      symm
      rw [List.filter_eq_nil_iff]
      intro q hq
      have : x.1 ≤ q := by
        rcases List.mem_append.mp hq with m | m
        · exact (mem_rng.mp m).1
        · have := h.2.2.key m; omega
      simp; omega
theorem ahead_sp {l : List (Int × Int)} (hl : Sp0 l) (k : Int) : Sp0 (m_ahead l k) ∧ keysOf (m_ahead l k) = (keysOf l).filter (fun z => decide (z < k)) := by
  obtain ⟨h1, b, h2, h3⟩ := hl
  obtain ⟨c, g1, g2, g3, g4⟩ := ahead_all k h2 (Int.le_refl _)
  have := h2.le
  exact ⟨⟨by omega, c, g1, by omega⟩, g4⟩
theorem ahead_due {T : Tbl} {l : List (Int × Int)} (hl : Sp0 l) (k d t : Int) : dueOf T (m_ahead l k) d t = (dueOf T l d t).filter (fun z => decide (z < k)) := by
  unfold dueOf
  rw [(ahead_sp hl k).2, List.filter_filter, List.filter_filter]
  exact List.filter_congr fun z _ => Bool.and_comm ..
/-- in a rising list as many are less than the n-th as n -/
theorem less_count : ∀ {l : List Int} {n : Nat} {k : Int}, l.Pairwise (· < ·) → l[n]? = some k → (l.filter (fun z => decide (z < k))).length = n
  | [], _, _, _, h => by simp at h
  | x :: l, 0, k, hp, h => by
    have e : x = k := by simpa using h
    subst e
    rw [List.pairwise_cons] at hp
    rw [List.filter_eq_nil_iff.mpr]; · rfl
    intro z hz
    rcases List.mem_cons.mp hz with e | m
    · subst e; simp
    · have := hp.1 z m; simp; omega
  | x :: l, n + 1, k, hp, h => by
    rw [List.pairwise_cons] at hp
    have h' : l[n]? = some k := by simpa using h
    have m := List.mem_of_getElem? h'
    rw [List.filter_cons, if_pos (decide_eq_true (hp.1 k m)), List.length_cons, less_count hp.2 h']
theorem at_less {l : List Int} {k : Int} (hp : l.Pairwise (· < ·)) (h : k ∈ l) : l[(l.filter (fun z => decide (z < k))).length]? = some k := by
  obtain ⟨n, hn⟩ := List.mem_iff_getElem?.mp h
  rw [less_count hp hn]; exact hn
theorem key_span : ∀ {l : List (Int × Int)} {k : Int}, k ∈ keysOf l → ∃ x ∈ l, x.1 ≤ k ∧ k < x.2 := fun {l k} h => by
  obtain ⟨x, hx, hk⟩ := List.mem_flatMap.mp h
  exact ⟨x, hx, mem_rng.mp hk⟩
theorem span_key {l : List (Int × Int)} {x : Int × Int} {k : Int} (h : x ∈ l) (hk : x.1 ≤ k ∧ k < x.2) : k ∈ keysOf l := List.mem_flatMap.mpr ⟨x, h, mem_rng.mpr hk⟩
theorem rise {l : List Int} {i j : Nat} {u v : Int} (hp : l.Pairwise (· < ·)) (hi : l[i]? = some u) (hj : l[j]? = some v) (h : i < j) : u < v := by
  obtain ⟨h1, e1⟩ := List.getElem?_eq_some_iff.mp hi
  obtain ⟨h2, e2⟩ := List.getElem?_eq_some_iff.mp hj
  have := List.pairwise_iff_getElem.mp hp i j h1 h2 h
  rw [e1, e2] at this; exact this
end My
end
section
set_option maxRecDepth 100000
namespace My
open PySem L2 Fw
theorem nd' {p : Prop} [Decidable p] (h : p) : (!decide p) = false := by rw [decide_eq_true h]; rfl
theorem ahead_ok {l : List (Int × Int)} (hl : Sp0 l) (k : Int) : m_ahead_ok l k := ⟨by have := hl.len; omega, trivial⟩
theorem okF_rest {α β : Type} {ok : β → α → Prop} {b : β → α → β} (I : β → List α → Prop) : ∀ {l : List α} {s : β}, I s l → (∀ s x l, I s (x :: l) → ok s x ∧ I (b s x) l) → okF ok b s l
  | [], _, _, _ => trivial
  | x :: l, s, h, k => ⟨(k s x l h).1, okF_rest I (k s x l h).2 k⟩
theorem keys_le : ∀ {l : List (Int × Int)} {a b : Int}, SpC a l b → ((keysOf l).length : Int) ≤ b - a
  | [], a, b, h => by cases h; show (0 : Int) ≤ a - a; omega
  | x :: l, a, b, h => by
    have h1 := h.1
    have h2 := h.2.1
    have ih := keys_le h.2.2
    show ((rng x.1 x.2 ++ keysOf l).length : Int) ≤ b - a
    rw [List.length_append, len_rng]
    omega
/-- one number asked -/
theorem num_body {T : Tbl} (hT : TOk T) {l : List (Int × Int)} (hl : Sp0 l) {d : Int} (hd : 0 ≤ d ∧ d ≤ 100) {j : Bag × Int} (ht : 0 ≤ j.2 ∧ j.2 < 2 ^ d.toNat) {s n : Int} (hn : 0 ≤ n) (hs : ∀ k, (dueOf T l d j.2)[n.toNat]? = some k → s < k) :
    m_right_o2 T l d j (m_tail_count T l d j.2) s n ∧ ((m_right_b2 T l d j (m_tail_count T l d j.2) s n = s ∧ (dueOf T l d j.2).length ≤ n.toNat) ∨ ∃ k, (dueOf T l d j.2)[n.toNat]? = some k ∧ m_right_b2 T l d j (m_tail_count T l d j.2) s n = k) := by
  have hp := pw_pos d.toNat
  have so := due_sorted (T := T) hl d j.2
  obtain ⟨q1, q2⟩ := nth_due hT hl hd ht hn
  obtain ⟨r1, r2⟩ := nth_due hT hl hd ht (n := n + 1) (by omega)
  have tc := tc_due hT hl hd ht
  have en : (n + 1).toNat = n.toNat + 1 := by omega
  rw [en] at r2
  have eb : m_right_b2 T l d j (m_tail_count T l d j.2) s n = if m_tail_count T l d j.2 ≤ n then s else unO (m_nth_key T l d j.2 n) := by
    unfold m_right_b2
    dsimp only
    unfold m_right_t3
    by_cases z : m_tail_count T l d j.2 ≤ n
    · rw [if_pos (decide_eq_true z), if_pos z]
    · rw [if_neg (by rw [decide_eq_false z]; exact Bool.false_ne_true), if_neg z]
  rw [eb]
  generalize hD : dueOf T l d j.2 = D at *
  by_cases z : m_tail_count T l d j.2 ≤ n
  · have no : D[n.toNat]? = none := List.getElem?_eq_none (by omega)
    refine ⟨⟨q1, fun key hk => ?_⟩, .inl ⟨if_pos z, by omega⟩⟩
    rw [q2, no] at hk
    subst hk
    exact ⟨fun _ => ⟨rfl, trivial⟩, fun y => absurd (decide_eq_true z) (by rw [y]; exact Bool.false_ne_true)⟩
  · have hi : n.toNat < D.length := by omega
    obtain ⟨k, hk⟩ : ∃ k, D[n.toNat]? = some k := ⟨_, List.getElem?_eq_getElem hi⟩
    have km : k ∈ dueOf T l d j.2 := by rw [hD]; exact List.mem_of_getElem? hk
    obtain ⟨k1, k2⟩ := due_mem.mp km
    have kk := hl.key k1
    obtain ⟨x, hx, hx2⟩ := key_span k1
    have uk : unO (some k) = k := rfl
    refine ⟨⟨q1, fun key hkey => ?_⟩, .inr ⟨k, hk, by rw [if_neg z, q2, hk]; rfl⟩⟩
    rw [q2, hk] at hkey
    subst hkey
    unfold m_right_u3
    rw [uk]
    have tt : m_Table_tail T k d = j.2 := by rw [tab_tail]; exact k2
    have ac : m_tail_count T (m_ahead l k) d j.2 = n := by
      rw [tc_due hT (ahead_sp hl k).1 hd ht, ahead_due hl, hD, less_count so hk]; omega
    refine ⟨fun y => absurd (of_decide_eq_true y) z, fun _ => ⟨rfl, tail_call_ok hT kk hd, fun _ => rfl, ?_, fun _ _ => rfl, by have := hl.len; omega, ?_, rfl, ahead_ok hl k, tc_ok hT (ahead_sp hl k).1 hd ht, nd' ac, rfl, fun before hb => ⟨r1, fun later hlater => ?_⟩⟩⟩
    · have := hs k hk
      rw [nd' tt, decide_eq_false (by omega)]; rfl
    · cases q : (List.filter (fun (y : Int × Int) => (decide (y.1 ≤ k)) && (decide (k < y.2))) l).map fun (_ : Int × Int) => (1 : Int) with
      | cons _ _ => rfl
      | nil =>
        have q' := List.map_eq_nil_iff.mp q
        rw [List.filter_eq_nil_iff] at q'
        have := q' x hx
        rw [decide_eq_true hx2.1, decide_eq_true hx2.2] at this
        exact absurd rfl this
    · refine ⟨fun y => y, fun _ => rfl, fun y _ => y, fun _ _ => rfl, fun _ _ => by omega, fun _ _ => by rw [pw_eq]; exact hp, ?_, trivial⟩
      rw [r2] at hlater
      cases e : D[n.toNat + 1]? with
      | none => rw [e] at hlater; rw [hlater]; rfl
      | some v =>
        rw [e] at hlater
        rw [hlater]
        have uv : unO (some v) = v := rfl
        rw [uv]
        have lt := rise so hk e (Nat.lt_succ_self _)
        have vm : v ∈ dueOf T l d j.2 := by rw [hD]; exact List.mem_of_getElem? e
        obtain ⟨_, v2⟩ := due_mem.mp vm
        have dv : (2 : Int) ^ d.toNat ∣ v - k := by
          refine odd_cancel hT.o _ ?_
          have e1 : T.rate * (v - k) = (T.rate * v + T.shift) - (T.rate * k + T.shift) := by rw [Int.mul_sub]; omega
          rw [e1]
          have f1 := Int.emod_def (T.rate * v + T.shift) (2 ^ d.toNat)
          have f2 := Int.emod_def (T.rate * k + T.shift) (2 ^ d.toNat)
          refine ⟨(T.rate * v + T.shift) / 2 ^ d.toNat - (T.rate * k + T.shift) / 2 ^ d.toNat, ?_⟩
          rw [Int.mul_sub]; omega
        rw [decide_eq_false (by omega), pw_eq, nd' (Int.emod_eq_zero_of_dvd dv)]; rfl
theorem sorted_body {T : Tbl} (hT : TOk T) {l : List (Int × Int)} (hl : Sp0 l) {d : Int} (hd : 0 ≤ d ∧ d ≤ 100) {j : Bag × Int} (ht : 0 ≤ j.2 ∧ j.2 < 2 ^ d.toNat) {ns : List Int} (hs : ns.Pairwise (· < ·)) (h0 : ∀ n ∈ ns, 0 ≤ n) :
    okF (m_right_o2 T l d j (m_tail_count T l d j.2)) (m_right_b2 T l d j (m_tail_count T l d j.2)) (-1) ns := by
  have so := due_sorted (T := T) hl d j.2
  refine okF_rest (fun s r => r.Pairwise (· < ·) ∧ ∀ n ∈ r, 0 ≤ n ∧ ∀ k, (dueOf T l d j.2)[n.toNat]? = some k → s < k) ⟨hs, fun n hn => ⟨h0 n hn, fun k hk => ?_⟩⟩ fun s n r ⟨p1, p2⟩ => ?_
  · have m := List.mem_of_getElem? hk
    have := (hl.key (due_mem.mp m).1).1
    omega
  · rw [List.pairwise_cons] at p1
    obtain ⟨n0, n1⟩ := p2 n (List.mem_cons_self ..)
    obtain ⟨o1, o2⟩ := num_body hT hl hd ht n0 n1
    refine ⟨o1, p1.2, fun m hm => ⟨(p2 m (List.mem_cons_of_mem _ hm)).1, fun k hk => ?_⟩⟩
    have lt := p1.1 m hm
    have m0 := (p2 m (List.mem_cons_of_mem _ hm)).1
    rcases o2 with ⟨e, big⟩ | ⟨k', hk', e⟩
    · have := (List.getElem?_eq_some_iff.mp hk).1
      omega
    · rw [e]
      exact rise so hk' hk (by omega)
theorem turn_body {t : Int × Int × Int} (hT : TOk ⟨t.1, t.2.1, t.2.2⟩) {l : List (Int × Int)} (hl : Sp0 l) (s : Bag) (x : Int) : m_right_o1 ⟨t.1, t.2.1, t.2.2⟩ l s x := by
  have p1 := pick_lt s (n := 3) (by decide)
  have n1 := nth3 (8 : Int) 60 101 p1
  have k1 : 0 < nth ([8, 60, 101] : List Int) (m_pick s 3).1 ∧ nth ([8, 60, 101] : List Int) (m_pick s 3).1 ≤ 101 := by
    rcases n1 with e | e | e <;> rw [e] <;> decide
  have p2 := pick_lt (m_pick s 3).2 k1.1
  refine ⟨pickk _ (by decide) (by decide), p1, pickk _ k1.1 (by omega), fun d hdd b1 hb1 => ?_⟩
  have hd : 0 ≤ d ∧ d ≤ 100 := by rw [hdd]; omega
  clear hdd hb1 p1 p2 k1 n1
  have hp := pw_pos d.toNat
  have hp' : (2 : Int) ^ d.toNat ≤ 2 ^ 200 := pw_lt (by omega)
  have p3 := pick_lt b1 (n := 1 * 2 ^ d.toNat) (by rw [pw_eq]; exact hp)
  refine ⟨by omega, pickk _ (by rw [pw_eq]; exact hp) (by rw [pw_eq]; exact hp'), fun u hu b2 hb2 => ?_⟩
  have u1 : 0 ≤ u ∧ u < 2 ^ d.toNat := by rw [pw_eq] at p3 hu; rw [hu]; exact p3
  clear hu hb2 p3
  have h12 := hl.len
  refine ⟨fun _ => pickk _ (by decide) (by decide), fun z => ?_, fun _ => trivial, fun j hj => ?_⟩
  · have hne : 0 < l.length := by
      cases q : l with
      | nil => rw [q] at z; cases z
      | cons _ _ => exact Nat.succ_pos _
    generalize (if (!l.isEmpty) = true then (m_pick b2 2).2 else b2) = b3
    have q1 := pick_lt b3 (n := (l.length : Int)) (by omega)
    refine ⟨pickk _ (by omega) (by omega), q1, fun y hy b4 _ => ?_⟩
    have hm := hl.mem (nth_mem q1)
    have mm := nth_mem q1
    rw [← hy] at hm mm
    have q2 := pick_lt b4 (n := y.2 - y.1) (by omega)
    refine ⟨pickk _ (by omega) (by omega), fun k hk b5 _ => ?_⟩
    have kin : y.1 ≤ k ∧ k < y.2 := by omega
    have k30 : 0 ≤ k ∧ k < 10 ^ 30 := by omega
    refine ⟨tail_call_ok hT k30 hd, fun v hv => ?_⟩
    have v1 : v = (t.2.1 * k + t.2.2) % 2 ^ d.toNat := by rw [hv]; exact tab_tail k d
    have v2 : 0 ≤ v ∧ v < 2 ^ d.toNat := by rw [v1]; exact ⟨Int.emod_nonneg _ (Int.ne_of_gt hp), Int.emod_lt_of_pos _ hp⟩
    have kd : k ∈ dueOf ⟨t.1, t.2.1, t.2.2⟩ l d v := due_mem.mpr ⟨span_key mm kin, v1.symm⟩
    have ac : m_tail_count ⟨t.1, t.2.1, t.2.2⟩ (m_ahead l k) d v = (((dueOf ⟨t.1, t.2.1, t.2.2⟩ l d v).filter (fun z => decide (z < k))).length : Int) := by
      rw [tc_due hT (ahead_sp hl k).1 hd v2, ahead_due hl]
    obtain ⟨g1, g2⟩ := nth_due hT hl hd v2 (n := m_tail_count ⟨t.1, t.2.1, t.2.2⟩ (m_ahead l k) d v) (by omega)
    have g3 : m_nth_key ⟨t.1, t.2.1, t.2.2⟩ l d v (m_tail_count ⟨t.1, t.2.1, t.2.2⟩ (m_ahead l k) d v) = some k := by
      rw [g2, ac, Int.toNat_natCast]
      exact at_less (due_sorted hl d v) kd
    exact ⟨ahead_ok hl k, tc_ok hT (ahead_sp hl k).1 hd v2, g1, by rw [g3]; rfl, nd' (by rw [g3]; rfl), trivial⟩
  · have J : 0 ≤ j.2 ∧ j.2 < 2 ^ d.toNat := by
      rw [hj]
      split
      · show 0 ≤ m_Table_tail _ _ d ∧ m_Table_tail _ _ d < 2 ^ d.toNat
        rw [tab_tail]
        exact ⟨Int.emod_nonneg _ (Int.ne_of_gt hp), Int.emod_lt_of_pos _ hp⟩
      · exact u1
    clear hj
    refine ⟨tc_ok hT hl hd J, fun many hmany before hbefore => ?_⟩
    have tc := tc_due hT hl hd J
    rw [← hmany] at tc
    have mb : m_tail_count ⟨t.1, t.2.1, t.2.2⟩ l d j.2 ≤ 10 ^ 30 := by
      obtain ⟨_, b, h, hb⟩ := id hl
      have k := keys_le h
      have f := List.length_filter_le (fun k => decide ((t.2.1 * k + t.2.2) % 2 ^ d.toNat = j.2)) (keysOf l)
      rw [tc_due hT hl hd J]
      unfold dueOf
      dsimp only
      omega
    rw [← hmany] at mb
    have q1 := pick_lt j.1 (n := many + 1) (by omega)
    have q2 := pick_lt (m_pick j.1 (many + 1)).2 (n := many + 1) (by omega)
    refine ⟨pickk _ (by omega) (by omega), pickk _ (by omega) (by omega), Nat.le_of_ble_eq_true rfl, ?_, fun _ _ => ?_⟩
    · subst hbefore
      rw [hmany] at q1 q2 ⊢
      refine sorted_body hT hl hd J (ssort_strict _) fun n hn => ?_
      rw [ssort_mem] at hn
      have mx : ∀ a b : Int, 0 ≤ max2 a b ∨ a < 0 := fun a b => by unfold max2; split <;> omega
      rcases List.mem_cons.mp hn with e | hn
      · omega
      rcases List.mem_cons.mp hn with e | hn
      · have := mx 0 (m_tail_count ⟨t.1, t.2.1, t.2.2⟩ l d j.2 - 1); omega
      rcases List.mem_cons.mp hn with e | hn
      · omega
      rcases List.mem_cons.mp hn with e | hn
      · omega
      cases hn
    · obtain ⟨g1, g2⟩ := nth_due hT hl hd J (n := many) (by omega)
      refine ⟨g1, ?_, trivial⟩
      rw [g2, tc, Int.toNat_natCast, List.getElem?_eq_none (Nat.le_refl _)]; rfl
theorem right_all (b : Bag) : m_right_ok b ∧ (m_right b).1 = true := by
  refine ⟨?_, rfl⟩
  obtain ⟨h1, hT⟩ := three_all b (most := 9) (by decide)
  refine ⟨h1, fun t ht b1 hb1 => ?_⟩
  rw [← ht] at hT
  have p1 := pick_lt b1 (n := 2) (by decide)
  have n1 := nth2 (50 : Int) (10 ^ 28) p1
  have k1 : 0 < nth ([50, 10 ^ 28] : List Int) (m_pick b1 2).1 ∧ nth ([50, 10 ^ 28] : List Int) (m_pick b1 2).1 ≤ 10 ^ 28 := by
    rcases n1 with e | e <;> rw [e] <;> decide
  obtain ⟨s1, s2, e, s3, s4⟩ := spans_all (m_pick b1 2).2 (many := 12) (by decide) k1
  refine ⟨make_ok hT, pickk _ (by decide) (by decide), p1, s1, fun T hTe l hl b2 _ => ?_⟩
  subst hTe
  have S : Sp0 l := by
    rw [hl]
    refine ⟨by omega, e, s3, ?_⟩
    omega
  exact ⟨(okF_I (fun _ => True) trivial fun s x _ _ => ⟨turn_body hT S s x, trivial⟩).1, fun _ _ => trivial⟩
theorem law_loop (l : List Int) : okF m_law_o1 m_law_b1 () l :=
  (okF_I (fun _ => True) trivial fun s x _ _ => ⟨⟨trivial, fun b _ => ⟨(okF_I (fun _ => True) trivial fun s x _ _ => ⟨⟨(right_all s).1, by rw [(right_all s).2]; rfl, fun _ _ => trivial⟩, trivial⟩).1, fun _ _ => trivial⟩⟩, trivial⟩).1
theorem t210 : TOk ⟨2, 1, 0⟩ := ⟨by decide, by decide, by decide, by decide⟩
theorem law_ok_all (ns : List Int) (hl : ns.length ≤ 63) (hb : ∀ z ∈ ns, Builtin.Int.intBits z ≤ 1048576) : m_law_ok ns := by
  have hc : (cutL ns none (some 6)).length ≤ 63 := by
    unfold cutL
    rw [List.length_take, List.length_drop]; omega
  refine ⟨?_, law_loop _, fun _ _ => ⟨make_ok t210, (nth_due t210 (sp_one (by decide)) (by decide) (by decide) (by decide)).1, by decide, by decide +kernel, trivial⟩⟩
  simp only [List.length_cons, List.length_nil]; omega
theorem law_true (ns : List Int) (hl : ns.length ≤ 63) (hb : ∀ z ∈ ns, Builtin.Int.intBits z ≤ 1048576) : m_law ns = true := by
  unfold m_law
  dsimp only
  decide +kernel
end My
end
section
set_option maxRecDepth 100000
namespace My
open PySem L2 Fw
theorem all_mk {l : PySem.W.OpenLaw} {w : World} {K : PySem.W.Frag} {h : Heap} {mg : Str → Option Value} {fa : Addr} (X : K.In h) (G : h.Ns mainGlobals mg) (hfa : mg "law" = some (.ref fa)) {C a_is_int a_is_whole a_is_span a_require_spans a_require_key a_require_depth a_require_tail a_require_number a_Table___init__ a_numbers_of a_tail_of a_Table_tail a_require_table a_residue_of a_residue_count a_require_place a_tail_count a_nth_key a_bag a_pick a_three a_spans a_ahead a_right a_law : Addr}
    {od0 an0 od1 an1 od2 an2 od3 an3 od4 an4 od5 an5 od6 an6 od7 an7 od8 an8 od9 an9 od10 an10 od11 an11 od12 an12 od13 an13 od14 an14 od15 an15 od16 an16 od17 an17 od18 an18 od19 an19 od20 an20 od21 an21 od22 an22 od23 an23 od24 an24 : Option Addr} {sl0 sl1 sl2 sl3 sl4 sl5 sl6 sl7 sl8 sl9 sl10 sl11 sl12 sl13 sl14 sl15 sl16 sl17 sl18 sl19 sl20 sl21 sl22 sl23 sl24 : Array (Option Value)} {oc0 kV0 dc0 pm0 cd0 ct0 oc1 kV1 dc1 pm1 cd1 ct1 oc2 kV2 dc2 pm2 cd2 ct2 oc3 kV3 dc3 pm3 cd3 ct3 oc4 kV4 dc4 pm4 cd4 ct4 oc5 kV5 dc5 pm5 cd5 ct5 oc6 kV6 dc6 pm6 cd6 ct6 oc7 kV7 dc7 pm7 cd7 ct7 oc8 kV8 dc8 pm8 cd8 ct8 oc9 kV9 dc9 pm9 cd9 ct9 oc10 kV10 dc10 pm10 cd10 ct10 oc11 kV11 dc11 pm11 cd11 ct11 oc12 kV12 dc12 pm12 cd12 ct12 oc13 kV13 dc13 pm13 cd13 ct13 oc14 kV14 dc14 pm14 cd14 ct14 oc15 kV15 dc15 pm15 cd15 ct15 oc16 kV16 dc16 pm16 cd16 ct16 oc17 kV17 dc17 pm17 cd17 ct17 oc18 kV18 dc18 pm18 cd18 ct18 oc19 kV19 dc19 pm19 cd19 ct19 oc20 kV20 dc20 pm20 cd20 ct20 oc21 kV21 dc21 pm21 cd21 ct21 oc22 kV22 dc22 pm22 cd22 ct22 oc23 kV23 dc23 pm23 cd23 ct23 oc24 kV24 dc24 pm24 cd24 ct24 : Value}
    (aC : PySem.W.nsIn K mainGlobals "Table" = some (some (.ref C)))
    (at_is_int : PySem.W.nsIn K mainGlobals "is_int" = some (some (.ref a_is_int)))
    (lk_is_int : K.lookup a_is_int = some ⟨oc0, od0, .func (PySem.W.fnOf "is_int" "is_int" (defArgs s_is_int) (defBody s_is_int) (defScope s_is_int) .none kV0 dc0 pm0 an0 cd0 ct0), sl0⟩)
    (cd_is_int : PySem.W.codeIn K cd0 "is_int" = true)
    (kp_is_int : PySem.W.keepIn K (.ref a_is_int) = true)
    (at_is_whole : PySem.W.nsIn K mainGlobals "is_whole" = some (some (.ref a_is_whole)))
    (lk_is_whole : K.lookup a_is_whole = some ⟨oc1, od1, .func (PySem.W.fnOf "is_whole" "is_whole" (defArgs s_is_whole) (defBody s_is_whole) (defScope s_is_whole) .none kV1 dc1 pm1 an1 cd1 ct1), sl1⟩)
    (cd_is_whole : PySem.W.codeIn K cd1 "is_whole" = true)
    (kp_is_whole : PySem.W.keepIn K (.ref a_is_whole) = true)
    (at_is_span : PySem.W.nsIn K mainGlobals "is_span" = some (some (.ref a_is_span)))
    (lk_is_span : K.lookup a_is_span = some ⟨oc2, od2, .func (PySem.W.fnOf "is_span" "is_span" (defArgs s_is_span) (defBody s_is_span) (defScope s_is_span) .none kV2 dc2 pm2 an2 cd2 ct2), sl2⟩)
    (cd_is_span : PySem.W.codeIn K cd2 "is_span" = true)
    (kp_is_span : PySem.W.keepIn K (.ref a_is_span) = true)
    (at_require_spans : PySem.W.nsIn K mainGlobals "require_spans" = some (some (.ref a_require_spans)))
    (lk_require_spans : K.lookup a_require_spans = some ⟨oc3, od3, .func (PySem.W.fnOf "require_spans" "require_spans" (defArgs s_require_spans) (defBody s_require_spans) (defScope s_require_spans) .none kV3 dc3 pm3 an3 cd3 ct3), sl3⟩)
    (cd_require_spans : PySem.W.codeIn K cd3 "require_spans" = true)
    (kp_require_spans : PySem.W.keepIn K (.ref a_require_spans) = true)
    (at_require_key : PySem.W.nsIn K mainGlobals "require_key" = some (some (.ref a_require_key)))
    (lk_require_key : K.lookup a_require_key = some ⟨oc4, od4, .func (PySem.W.fnOf "require_key" "require_key" (defArgs s_require_key) (defBody s_require_key) (defScope s_require_key) .none kV4 dc4 pm4 an4 cd4 ct4), sl4⟩)
    (cd_require_key : PySem.W.codeIn K cd4 "require_key" = true)
    (kp_require_key : PySem.W.keepIn K (.ref a_require_key) = true)
    (at_require_depth : PySem.W.nsIn K mainGlobals "require_depth" = some (some (.ref a_require_depth)))
    (lk_require_depth : K.lookup a_require_depth = some ⟨oc5, od5, .func (PySem.W.fnOf "require_depth" "require_depth" (defArgs s_require_depth) (defBody s_require_depth) (defScope s_require_depth) .none kV5 dc5 pm5 an5 cd5 ct5), sl5⟩)
    (cd_require_depth : PySem.W.codeIn K cd5 "require_depth" = true)
    (kp_require_depth : PySem.W.keepIn K (.ref a_require_depth) = true)
    (at_require_tail : PySem.W.nsIn K mainGlobals "require_tail" = some (some (.ref a_require_tail)))
    (lk_require_tail : K.lookup a_require_tail = some ⟨oc6, od6, .func (PySem.W.fnOf "require_tail" "require_tail" (defArgs s_require_tail) (defBody s_require_tail) (defScope s_require_tail) .none kV6 dc6 pm6 an6 cd6 ct6), sl6⟩)
    (cd_require_tail : PySem.W.codeIn K cd6 "require_tail" = true)
    (kp_require_tail : PySem.W.keepIn K (.ref a_require_tail) = true)
    (at_require_number : PySem.W.nsIn K mainGlobals "require_number" = some (some (.ref a_require_number)))
    (lk_require_number : K.lookup a_require_number = some ⟨oc7, od7, .func (PySem.W.fnOf "require_number" "require_number" (defArgs s_require_number) (defBody s_require_number) (defScope s_require_number) .none kV7 dc7 pm7 an7 cd7 ct7), sl7⟩)
    (cd_require_number : PySem.W.codeIn K cd7 "require_number" = true)
    (kp_require_number : PySem.W.keepIn K (.ref a_require_number) = true)
    (at_Table___init__ : PySem.W.findIn K (.ref C) "__init__" = some (some (.ref a_Table___init__)))
    (fn_Table___init__ : PySem.W.isFn K (.ref a_Table___init__) = true)
    (lk_Table___init__ : K.lookup a_Table___init__ = some ⟨oc8, od8, .func (PySem.W.fnOf "__init__" "Table.__init__" (defArgs s_Table___init__) (defBody s_Table___init__) (defScope s_Table___init__) .none kV8 dc8 pm8 an8 cd8 ct8), sl8⟩)
    (cd_Table___init__ : PySem.W.codeIn K cd8 "Table.__init__" = true)
    (kp_Table___init__ : PySem.W.keepIn K (.ref a_Table___init__) = true)
    (at_numbers_of : PySem.W.nsIn K mainGlobals "numbers_of" = some (some (.ref a_numbers_of)))
    (lk_numbers_of : K.lookup a_numbers_of = some ⟨oc9, od9, .func (PySem.W.fnOf "numbers_of" "numbers_of" (defArgs s_numbers_of) (defBody s_numbers_of) (defScope s_numbers_of) .none kV9 dc9 pm9 an9 cd9 ct9), sl9⟩)
    (cd_numbers_of : PySem.W.codeIn K cd9 "numbers_of" = true)
    (kp_numbers_of : PySem.W.keepIn K (.ref a_numbers_of) = true)
    (at_tail_of : PySem.W.nsIn K mainGlobals "tail_of" = some (some (.ref a_tail_of)))
    (lk_tail_of : K.lookup a_tail_of = some ⟨oc10, od10, .func (PySem.W.fnOf "tail_of" "tail_of" (defArgs s_tail_of) (defBody s_tail_of) (defScope s_tail_of) .none kV10 dc10 pm10 an10 cd10 ct10), sl10⟩)
    (cd_tail_of : PySem.W.codeIn K cd10 "tail_of" = true)
    (kp_tail_of : PySem.W.keepIn K (.ref a_tail_of) = true)
    (at_Table_tail : PySem.W.findIn K (.ref C) "tail" = some (some (.ref a_Table_tail)))
    (fn_Table_tail : PySem.W.isFn K (.ref a_Table_tail) = true)
    (lk_Table_tail : K.lookup a_Table_tail = some ⟨oc11, od11, .func (PySem.W.fnOf "tail" "Table.tail" (defArgs s_Table_tail) (defBody s_Table_tail) (defScope s_Table_tail) .none kV11 dc11 pm11 an11 cd11 ct11), sl11⟩)
    (cd_Table_tail : PySem.W.codeIn K cd11 "Table.tail" = true)
    (kp_Table_tail : PySem.W.keepIn K (.ref a_Table_tail) = true)
    (at_require_table : PySem.W.nsIn K mainGlobals "require_table" = some (some (.ref a_require_table)))
    (lk_require_table : K.lookup a_require_table = some ⟨oc12, od12, .func (PySem.W.fnOf "require_table" "require_table" (defArgs s_require_table) (defBody s_require_table) (defScope s_require_table) .none kV12 dc12 pm12 an12 cd12 ct12), sl12⟩)
    (cd_require_table : PySem.W.codeIn K cd12 "require_table" = true)
    (kp_require_table : PySem.W.keepIn K (.ref a_require_table) = true)
    (at_residue_of : PySem.W.nsIn K mainGlobals "residue_of" = some (some (.ref a_residue_of)))
    (lk_residue_of : K.lookup a_residue_of = some ⟨oc13, od13, .func (PySem.W.fnOf "residue_of" "residue_of" (defArgs s_residue_of) (defBody s_residue_of) (defScope s_residue_of) .none kV13 dc13 pm13 an13 cd13 ct13), sl13⟩)
    (cd_residue_of : PySem.W.codeIn K cd13 "residue_of" = true)
    (kp_residue_of : PySem.W.keepIn K (.ref a_residue_of) = true)
    (at_residue_count : PySem.W.nsIn K mainGlobals "residue_count" = some (some (.ref a_residue_count)))
    (lk_residue_count : K.lookup a_residue_count = some ⟨oc14, od14, .func (PySem.W.fnOf "residue_count" "residue_count" (defArgs s_residue_count) (defBody s_residue_count) (defScope s_residue_count) .none kV14 dc14 pm14 an14 cd14 ct14), sl14⟩)
    (cd_residue_count : PySem.W.codeIn K cd14 "residue_count" = true)
    (kp_residue_count : PySem.W.keepIn K (.ref a_residue_count) = true)
    (at_require_place : PySem.W.nsIn K mainGlobals "require_place" = some (some (.ref a_require_place)))
    (lk_require_place : K.lookup a_require_place = some ⟨oc15, od15, .func (PySem.W.fnOf "require_place" "require_place" (defArgs s_require_place) (defBody s_require_place) (defScope s_require_place) .none kV15 dc15 pm15 an15 cd15 ct15), sl15⟩)
    (cd_require_place : PySem.W.codeIn K cd15 "require_place" = true)
    (kp_require_place : PySem.W.keepIn K (.ref a_require_place) = true)
    (at_tail_count : PySem.W.nsIn K mainGlobals "tail_count" = some (some (.ref a_tail_count)))
    (lk_tail_count : K.lookup a_tail_count = some ⟨oc16, od16, .func (PySem.W.fnOf "tail_count" "tail_count" (defArgs s_tail_count) (defBody s_tail_count) (defScope s_tail_count) .none kV16 dc16 pm16 an16 cd16 ct16), sl16⟩)
    (cd_tail_count : PySem.W.codeIn K cd16 "tail_count" = true)
    (kp_tail_count : PySem.W.keepIn K (.ref a_tail_count) = true)
    (at_nth_key : PySem.W.nsIn K mainGlobals "nth_key" = some (some (.ref a_nth_key)))
    (lk_nth_key : K.lookup a_nth_key = some ⟨oc17, od17, .func (PySem.W.fnOf "nth_key" "nth_key" (defArgs s_nth_key) (defBody s_nth_key) (defScope s_nth_key) .none kV17 dc17 pm17 an17 cd17 ct17), sl17⟩)
    (cd_nth_key : PySem.W.codeIn K cd17 "nth_key" = true)
    (kp_nth_key : PySem.W.keepIn K (.ref a_nth_key) = true)
    (at_bag : PySem.W.nsIn K mainGlobals "_law_bag" = some (some (.ref a_bag)))
    (lk_bag : K.lookup a_bag = some ⟨oc18, od18, .func (PySem.W.fnOf "_law_bag" "_law_bag" (defArgs s_bag) (defBody s_bag) (defScope s_bag) .none kV18 dc18 pm18 an18 cd18 ct18), sl18⟩)
    (cd_bag : PySem.W.codeIn K cd18 "_law_bag" = true)
    (kp_bag : PySem.W.keepIn K (.ref a_bag) = true)
    (at_pick : PySem.W.nsIn K mainGlobals "_law_pick" = some (some (.ref a_pick)))
    (lk_pick : K.lookup a_pick = some ⟨oc19, od19, .func (PySem.W.fnOf "_law_pick" "_law_pick" (defArgs s_pick) (defBody s_pick) (defScope s_pick) .none kV19 dc19 pm19 an19 cd19 ct19), sl19⟩)
    (cd_pick : PySem.W.codeIn K cd19 "_law_pick" = true)
    (kp_pick : PySem.W.keepIn K (.ref a_pick) = true)
    (at_three : PySem.W.nsIn K mainGlobals "_law_three" = some (some (.ref a_three)))
    (lk_three : K.lookup a_three = some ⟨oc20, od20, .func (PySem.W.fnOf "_law_three" "_law_three" (defArgs s_three) (defBody s_three) (defScope s_three) .none kV20 dc20 pm20 an20 cd20 ct20), sl20⟩)
    (cd_three : PySem.W.codeIn K cd20 "_law_three" = true)
    (kp_three : PySem.W.keepIn K (.ref a_three) = true)
    (at_spans : PySem.W.nsIn K mainGlobals "_law_spans" = some (some (.ref a_spans)))
    (lk_spans : K.lookup a_spans = some ⟨oc21, od21, .func (PySem.W.fnOf "_law_spans" "_law_spans" (defArgs s_spans) (defBody s_spans) (defScope s_spans) .none kV21 dc21 pm21 an21 cd21 ct21), sl21⟩)
    (cd_spans : PySem.W.codeIn K cd21 "_law_spans" = true)
    (kp_spans : PySem.W.keepIn K (.ref a_spans) = true)
    (at_ahead : PySem.W.nsIn K mainGlobals "_law_ahead" = some (some (.ref a_ahead)))
    (lk_ahead : K.lookup a_ahead = some ⟨oc22, od22, .func (PySem.W.fnOf "_law_ahead" "_law_ahead" (defArgs s_ahead) (defBody s_ahead) (defScope s_ahead) .none kV22 dc22 pm22 an22 cd22 ct22), sl22⟩)
    (cd_ahead : PySem.W.codeIn K cd22 "_law_ahead" = true)
    (kp_ahead : PySem.W.keepIn K (.ref a_ahead) = true)
    (at_right : PySem.W.nsIn K mainGlobals "_law_right" = some (some (.ref a_right)))
    (lk_right : K.lookup a_right = some ⟨oc23, od23, .func (PySem.W.fnOf "_law_right" "_law_right" (defArgs s_right) (defBody s_right) (defScope s_right) .none kV23 dc23 pm23 an23 cd23 ct23), sl23⟩)
    (cd_right : PySem.W.codeIn K cd23 "_law_right" = true)
    (kp_right : PySem.W.keepIn K (.ref a_right) = true)
    (at_law : PySem.W.nsIn K mainGlobals "law" = some (some (.ref a_law)))
    (lk_law : K.lookup a_law = some ⟨oc24, od24, .func (PySem.W.fnOf "law" "law" (defArgs s_law) (defBody s_law) (defScope s_law) .none kV24 dc24 pm24 an24 cd24 ct24), sl24⟩)
    (cd_law : PySem.W.codeIn K cd24 "law" = true)
    (kp_law : PySem.W.keepIn K (.ref a_law) = true)
    (pg : PySem.W.plainGet K C Str.empty = true)
    (hd : PySem.W.hasDictIn K C = true)
    (po : PySem.W.plainOver K C = true)
    (sa : PySem.W.findIn K (.ref C) "__setattr__" = some (some (.builtin "object.__setattr__")))
    (mk : PySem.W.makesIn K C = true)
    (kc : PySem.W.keepIn K (.ref C) = true)
    (nC : PySem.W.findIn K (.ref C) "own_capacity" = some none)
    (nR : PySem.W.findIn K (.ref C) "own_rate" = some none)
    (nS : PySem.W.findIn K (.ref C) "own_shift" = some none)
    (xa : PySem.W.findIn K (.ref C) "__class__" = some (some (.builtin "object.__class__")))
    (xb : PySem.W.specialIn K (.builtin "object.__class__") "__get__" = some (some (.builtin "getset_descriptor.__get__")))
    (xc : PySem.W.takesIn K (.builtin "object.__class__") = some true)
    (xd : PySem.W.mroIn K C (.type "object") = some true)
    (zn_bool : PySem.W.nsIn K mainGlobals "bool" = some none)
    (zn_enumerate : PySem.W.nsIn K mainGlobals "enumerate" = some none)
    (zn_int : PySem.W.nsIn K mainGlobals "int" = some none)
    (zn_isinstance : PySem.W.nsIn K mainGlobals "isinstance" = some none)
    (zn_len : PySem.W.nsIn K mainGlobals "len" = some none)
    (zn_list : PySem.W.nsIn K mainGlobals "list" = some none)
    (zn_max : PySem.W.nsIn K mainGlobals "max" = some none)
    (zn_min : PySem.W.nsIn K mainGlobals "min" = some none)
    (zn_range : PySem.W.nsIn K mainGlobals "range" = some none)
    (zn_set : PySem.W.nsIn K mainGlobals "set" = some none)
    (zn_sorted : PySem.W.nsIn K mainGlobals "sorted" = some none)
    (zn_sum : PySem.W.nsIn K mainGlobals "sum" = some none)
    (zn_tuple : PySem.W.nsIn K mainGlobals "tuple" = some none)
    (zc_MOST_DEPTH : ∃ t, PySem.W.nsIn K mainGlobals "MOST_DEPTH" = some (some (.int 100 t)))
    (zc_MOST_KEY : ∃ t, PySem.W.nsIn K mainGlobals "MOST_KEY" = some (some (.int 1000000000000000000000000000000 t)))
    (zc_MOST_SPANS : ∃ t, PySem.W.nsIn K mainGlobals "MOST_SPANS" = some (some (.int 12 t)))
    : ∃ fd : FuncData, (∀ (s : Shared) (v : Value), BindsTo s fd ⟨[v], []⟩ [("_law_script", v)]) ∧ ∀ base : Heap, K.In base → base.Ns mainGlobals mg → FnG l.prog w K mg base CX0 8 fa fd ["_law_script"] (sp_law K default) := by
  have e := hfa.symm.trans (PySem.W.mg_of X G at_law)
  cases e
  have TT : TblTxt K mg C := ⟨⟨pg, hd, po, sa⟩, nC, nR, nS, PySem.W.mg_of X G aC, if_pos (beq_self_eq_true _), xa, xb, xc, xd⟩
  have n_bool := PySem.W.mg_none_of X G zn_bool
  have n_enumerate := PySem.W.mg_none_of X G zn_enumerate
  have n_int := PySem.W.mg_none_of X G zn_int
  have n_isinstance := PySem.W.mg_none_of X G zn_isinstance
  have n_len := PySem.W.mg_none_of X G zn_len
  have n_list := PySem.W.mg_none_of X G zn_list
  have n_max := PySem.W.mg_none_of X G zn_max
  have n_min := PySem.W.mg_none_of X G zn_min
  have n_range := PySem.W.mg_none_of X G zn_range
  have n_set := PySem.W.mg_none_of X G zn_set
  have n_sorted := PySem.W.mg_none_of X G zn_sorted
  have n_sum := PySem.W.mg_none_of X G zn_sum
  have n_tuple := PySem.W.mg_none_of X G zn_tuple
  have c_MOST_DEPTH : ∃ t, mg "MOST_DEPTH" = some (.int 100 t) := zc_MOST_DEPTH.imp fun _ z => PySem.W.mg_of X G z
  have c_MOST_KEY : ∃ t, mg "MOST_KEY" = some (.int 1000000000000000000000000000000 t) := zc_MOST_KEY.imp fun _ z => PySem.W.mg_of X G z
  have c_MOST_SPANS : ∃ t, mg "MOST_SPANS" = some (.int 12 t) := zc_MOST_SPANS.imp fun _ z => PySem.W.mg_of X G z
  have F_is_int := fun_mk (st := s_is_int) lk_is_int cd_is_int kp_is_int
  have j_is_int := PySem.W.mg_of X G at_is_int
  have b_is_int := F_is_int.binds (ps := ["value"]) fun _ _ _ _ _ _ us hl => match us, hl with | [_], _ => rfl
  have F_is_whole := fun_mk (st := s_is_whole) lk_is_whole cd_is_whole kp_is_whole
  have j_is_whole := PySem.W.mg_of X G at_is_whole
  have b_is_whole := F_is_whole.binds (ps := ["value", "low", "high"]) fun _ _ _ _ _ _ us hl => match us, hl with | [_, _, _], _ => rfl
  have F_is_span := fun_mk (st := s_is_span) lk_is_span cd_is_span kp_is_span
  have j_is_span := PySem.W.mg_of X G at_is_span
  have b_is_span := F_is_span.binds (ps := ["value", "ahead"]) fun _ _ _ _ _ _ us hl => match us, hl with | [_, _], _ => rfl
  have F_require_spans := fun_mk (st := s_require_spans) lk_require_spans cd_require_spans kp_require_spans
  have j_require_spans := PySem.W.mg_of X G at_require_spans
  have b_require_spans := F_require_spans.binds (ps := ["spans"]) fun _ _ _ _ _ _ us hl => match us, hl with | [_], _ => rfl
  have F_require_key := fun_mk (st := s_require_key) lk_require_key cd_require_key kp_require_key
  have j_require_key := PySem.W.mg_of X G at_require_key
  have b_require_key := F_require_key.binds (ps := ["value"]) fun _ _ _ _ _ _ us hl => match us, hl with | [_], _ => rfl
  have F_require_depth := fun_mk (st := s_require_depth) lk_require_depth cd_require_depth kp_require_depth
  have j_require_depth := PySem.W.mg_of X G at_require_depth
  have b_require_depth := F_require_depth.binds (ps := ["value"]) fun _ _ _ _ _ _ us hl => match us, hl with | [_], _ => rfl
  have F_require_tail := fun_mk (st := s_require_tail) lk_require_tail cd_require_tail kp_require_tail
  have j_require_tail := PySem.W.mg_of X G at_require_tail
  have b_require_tail := F_require_tail.binds (ps := ["depth", "value"]) fun _ _ _ _ _ _ us hl => match us, hl with | [_, _], _ => rfl
  have F_require_number := fun_mk (st := s_require_number) lk_require_number cd_require_number kp_require_number
  have j_require_number := PySem.W.mg_of X G at_require_number
  have b_require_number := F_require_number.binds (ps := ["value"]) fun _ _ _ _ _ _ us hl => match us, hl with | [_], _ => rfl
  have F_Table___init__ := fun_mk (st := s_Table___init__) lk_Table___init__ cd_Table___init__ kp_Table___init__
  have MT : Mk K C a_Table___init__ := ⟨mk, at_Table___init__, fn_Table___init__, kc⟩
  have b_Table___init__ := F_Table___init__.binds (ps := ["self", "capacity", "rate", "shift"]) fun _ _ _ _ _ _ us hl => match us, hl with | [_, _, _, _], _ => rfl
  have F_numbers_of := fun_mk (st := s_numbers_of) lk_numbers_of cd_numbers_of kp_numbers_of
  have j_numbers_of := PySem.W.mg_of X G at_numbers_of
  have b_numbers_of := F_numbers_of.binds (ps := ["table"]) fun _ _ _ _ _ _ us hl => match us, hl with | [_], _ => rfl
  have F_tail_of := fun_mk (st := s_tail_of) lk_tail_of cd_tail_of kp_tail_of
  have j_tail_of := PySem.W.mg_of X G at_tail_of
  have b_tail_of := F_tail_of.binds (ps := ["table", "key", "depth"]) fun _ _ _ _ _ _ us hl => match us, hl with | [_, _, _], _ => rfl
  have F_Table_tail := fun_mk (st := s_Table_tail) lk_Table_tail cd_Table_tail kp_Table_tail
  have M_Table_tail : Meth K C "tail" a_Table_tail := ⟨at_Table_tail, fn_Table_tail, kp_Table_tail⟩
  have b_Table_tail := F_Table_tail.binds (ps := ["self", "key", "depth"]) fun _ _ _ _ _ _ us hl => match us, hl with | [_, _, _], _ => rfl
  have F_require_table := fun_mk (st := s_require_table) lk_require_table cd_require_table kp_require_table
  have j_require_table := PySem.W.mg_of X G at_require_table
  have b_require_table := F_require_table.binds (ps := ["value"]) fun _ _ _ _ _ _ us hl => match us, hl with | [_], _ => rfl
  have F_residue_of := fun_mk (st := s_residue_of) lk_residue_of cd_residue_of kp_residue_of
  have j_residue_of := PySem.W.mg_of X G at_residue_of
  have b_residue_of := F_residue_of.binds (ps := ["table", "depth", "tail"]) fun _ _ _ _ _ _ us hl => match us, hl with | [_, _, _], _ => rfl
  have F_residue_count := fun_mk (st := s_residue_count) lk_residue_count cd_residue_count kp_residue_count
  have j_residue_count := PySem.W.mg_of X G at_residue_count
  have b_residue_count := F_residue_count.binds (ps := ["spans", "depth", "residue"]) fun _ _ _ _ _ _ us hl => match us, hl with | [_, _, _], _ => rfl
  have F_require_place := fun_mk (st := s_require_place) lk_require_place cd_require_place kp_require_place
  have j_require_place := PySem.W.mg_of X G at_require_place
  have b_require_place := F_require_place.binds (ps := ["table", "spans", "depth", "tail"]) fun _ _ _ _ _ _ us hl => match us, hl with | [_, _, _, _], _ => rfl
  have F_tail_count := fun_mk (st := s_tail_count) lk_tail_count cd_tail_count kp_tail_count
  have j_tail_count := PySem.W.mg_of X G at_tail_count
  have b_tail_count := F_tail_count.binds (ps := ["table", "spans", "depth", "tail"]) fun _ _ _ _ _ _ us hl => match us, hl with | [_, _, _, _], _ => rfl
  have F_nth_key := fun_mk (st := s_nth_key) lk_nth_key cd_nth_key kp_nth_key
  have j_nth_key := PySem.W.mg_of X G at_nth_key
  have b_nth_key := F_nth_key.binds (ps := ["table", "spans", "depth", "tail", "number"]) fun _ _ _ _ _ _ us hl => match us, hl with | [_, _, _, _, _], _ => rfl
  have F_bag := fun_mk (st := s_bag) lk_bag cd_bag kp_bag
  have j_bag := PySem.W.mg_of X G at_bag
  have b_bag := F_bag.binds (ps := ["_law_cell"]) fun _ _ _ _ _ _ us hl => match us, hl with | [_], _ => rfl
  have F_pick := fun_mk (st := s_pick) lk_pick cd_pick kp_pick
  have j_pick := PySem.W.mg_of X G at_pick
  have b_pick := F_pick.binds (ps := ["_law_bag_here", "_law_many"]) fun _ _ _ _ _ _ us hl => match us, hl with | [_, _], _ => rfl
  have F_three := fun_mk (st := s_three) lk_three cd_three kp_three
  have j_three := PySem.W.mg_of X G at_three
  have b_three := F_three.binds (ps := ["_law_bag_here", "_law_most"]) fun _ _ _ _ _ _ us hl => match us, hl with | [_, _], _ => rfl
  have F_spans := fun_mk (st := s_spans) lk_spans cd_spans kp_spans
  have j_spans := PySem.W.mg_of X G at_spans
  have b_spans := F_spans.binds (ps := ["_law_bag_here", "_law_many", "_law_wide"]) fun _ _ _ _ _ _ us hl => match us, hl with | [_, _, _], _ => rfl
  have F_ahead := fun_mk (st := s_ahead) lk_ahead cd_ahead kp_ahead
  have j_ahead := PySem.W.mg_of X G at_ahead
  have b_ahead := F_ahead.binds (ps := ["_law_spans_here", "_law_key"]) fun _ _ _ _ _ _ us hl => match us, hl with | [_, _], _ => rfl
  have F_right := fun_mk (st := s_right) lk_right cd_right kp_right
  have j_right := PySem.W.mg_of X G at_right
  have b_right := F_right.binds (ps := ["_law_bag_here"]) fun _ _ _ _ _ _ us hl => match us, hl with | [_], _ => rfl
  have F_law := fun_mk (st := s_law) lk_law cd_law kp_law
  have j_law := PySem.W.mg_of X G at_law
  have b_law := F_law.binds (ps := ["_law_script"]) fun _ _ _ _ _ _ us hl => match us, hl with | [_], _ => rfl
  refine ⟨PySem.W.fnOf "law" "law" (defArgs s_law) (defBody s_law) (defScope s_law) .none kV24 dc24 pm24 an24 cd24 ct24, fun s v => .of_eq rfl, fun base _ _ => ?_⟩
  have G_is_int : FnG l.prog w K mg base CX0 1 a_is_int _ ["value"] (sp_is_int K C) := ok_is_int F_is_int n_bool n_int n_isinstance
  have G_is_whole : FnG l.prog w K mg base CX0 2 a_is_whole _ ["value", "low", "high"] (sp_is_whole K C) := ok_is_whole F_is_whole F_is_int G_is_int j_is_int b_is_int
  have G_is_span : FnG l.prog w K mg base CX0 3 a_is_span _ ["value", "ahead"] (sp_is_span K C) := ok_is_span F_is_span F_is_whole G_is_whole j_is_whole b_is_whole n_isinstance n_len n_tuple c_MOST_KEY
  have G_require_spans : FnG l.prog w K mg base CX0 4 a_require_spans _ ["spans"] (sp_require_spans K C) := ok_require_spans F_require_spans F_is_span G_is_span j_is_span b_is_span n_enumerate n_isinstance n_len n_list c_MOST_SPANS
  have G_require_key : FnG l.prog w K mg base CX0 3 a_require_key _ ["value"] (sp_require_key K C) := ok_require_key F_require_key F_is_whole G_is_whole j_is_whole b_is_whole c_MOST_KEY
  have G_require_depth : FnG l.prog w K mg base CX0 3 a_require_depth _ ["value"] (sp_require_depth K C) := ok_require_depth F_require_depth F_is_whole G_is_whole j_is_whole b_is_whole c_MOST_DEPTH
  have G_require_tail : FnG l.prog w K mg base CX0 3 a_require_tail _ ["depth", "value"] (sp_require_tail K C) := ok_require_tail F_require_tail F_is_whole G_is_whole j_is_whole b_is_whole
  have G_require_number : FnG l.prog w K mg base CX0 2 a_require_number _ ["value"] (sp_require_number K C) := ok_require_number F_require_number F_is_int G_is_int j_is_int b_is_int
  have G_Table___init__ : FnG l.prog w K mg base CX0 3 a_Table___init__ _ ["self", "capacity", "rate", "shift"] (sp_Table___init__ K C) := ok_Table___init__ F_Table___init__ F_is_whole G_is_whole j_is_whole b_is_whole c_MOST_KEY TT
  have G_numbers_of : FnG l.prog w K mg base CX0 1 a_numbers_of _ ["table"] (sp_numbers_of K C) := ok_numbers_of F_numbers_of TT
  have G_tail_of : FnG l.prog w K mg base CX0 1 a_tail_of _ ["table", "key", "depth"] (sp_tail_of K C) := ok_tail_of F_tail_of TT
  have G_Table_tail : FnG l.prog w K mg base CX0 4 a_Table_tail _ ["self", "key", "depth"] (sp_Table_tail K C) := ok_Table_tail F_Table_tail F_require_key G_require_key j_require_key b_require_key F_require_depth G_require_depth j_require_depth b_require_depth F_tail_of G_tail_of j_tail_of b_tail_of
  have G_require_table : FnG l.prog w K mg base CX0 1 a_require_table _ ["value"] (sp_require_table K C) := ok_require_table F_require_table n_isinstance TT
  have G_residue_of : FnG l.prog w K mg base CX0 1 a_residue_of _ ["table", "depth", "tail"] (sp_residue_of K C) := ok_residue_of F_residue_of n_range TT
  have G_residue_count : FnG l.prog w K mg base CX0 1 a_residue_count _ ["spans", "depth", "residue"] (sp_residue_count K C) := ok_residue_count F_residue_count n_sum
  have G_require_place : FnG l.prog w K mg base CX0 5 a_require_place _ ["table", "spans", "depth", "tail"] (sp_require_place K C) := ok_require_place F_require_place F_require_table G_require_table j_require_table b_require_table F_require_spans G_require_spans j_require_spans b_require_spans F_require_depth G_require_depth j_require_depth b_require_depth F_require_tail G_require_tail j_require_tail b_require_tail
  have G_tail_count : FnG l.prog w K mg base CX0 6 a_tail_count _ ["table", "spans", "depth", "tail"] (sp_tail_count K C) := ok_tail_count F_tail_count F_require_place G_require_place j_require_place b_require_place F_residue_count G_residue_count j_residue_count b_residue_count F_residue_of G_residue_of j_residue_of b_residue_of
  have G_nth_key : FnG l.prog w K mg base CX0 6 a_nth_key _ ["table", "spans", "depth", "tail", "number"] (sp_nth_key K C) := ok_nth_key F_nth_key F_require_place G_require_place j_require_place b_require_place F_require_number G_require_number j_require_number b_require_number F_residue_of G_residue_of j_residue_of b_residue_of F_residue_count G_residue_count j_residue_count b_residue_count
  have G_bag : FnG l.prog w K mg base CX0 1 a_bag _ ["_law_cell"] (sp_bag K C) := ok_bag F_bag n_max
  have G_pick : FnG l.prog w K mg base CX0 1 a_pick _ ["_law_bag_here", "_law_many"] (sp_pick K C) := ok_pick F_pick n_int
  have G_three : FnG l.prog w K mg base CX0 2 a_three _ ["_law_bag_here", "_law_most"] (sp_three K C) := ok_three F_three F_pick G_pick j_pick b_pick
  have G_spans : FnG l.prog w K mg base CX0 2 a_spans _ ["_law_bag_here", "_law_many", "_law_wide"] (sp_spans K C) := ok_spans F_spans F_pick G_pick j_pick b_pick n_range
  have G_ahead : FnG l.prog w K mg base CX0 1 a_ahead _ ["_law_spans_here", "_law_key"] (sp_ahead K C) := ok_ahead F_ahead n_min
  have G_right : FnG l.prog w K mg base CX0 7 a_right _ ["_law_bag_here"] (sp_right K C) := ok_right F_right F_three G_three j_three b_three F_Table___init__ G_Table___init__ MT b_Table___init__ F_spans G_spans j_spans b_spans F_pick G_pick j_pick b_pick F_Table_tail G_Table_tail M_Table_tail b_Table_tail F_nth_key G_nth_key j_nth_key b_nth_key F_tail_count G_tail_count j_tail_count b_tail_count F_ahead G_ahead j_ahead b_ahead n_int n_len n_max n_range n_set n_sorted TT
  have r := ok_law (CT := C) F_law F_bag G_bag j_bag b_bag F_right G_right j_right b_right F_nth_key G_nth_key j_nth_key b_nth_key F_Table___init__ G_Table___init__ MT b_Table___init__ n_range TT
  exact r
end My
open PySem PySem.W PyProof.Rows
set_option maxRecDepth 100000 in
set_option maxHeartbeats 0 in
theorem PySem.Challenge.cw_hashdoors_k04_keys_with_a_tail_holds : PySem.Challenge.rw_hashdoors_k04_keys_with_a_tail.Holds := by
  w_on; o_law; k_head; (case hw => w_witness2)
  k_fill
  refine Fw.walk_ofG (l := PySem.Challenge.rw_hashdoors_k04_keys_with_a_tail) (n := 63) (k := 8) (x := "_law_script") (sp := fun K => My.sp_law K default) rfl (by decide) rfl ⟨rfl, by decide, by decide⟩ (fun w h Y => PySem.W.kIn_of Y) ?F (fun K H a ns hl hb S => Fw.law_pr S (My.law_ok_all ns hl hb) (My.law_true ns hl hb))
  case F =>
    intro w mg fa h KX G hmg
    refine' My.all_mk KX G hmg ?aC ?at_is_int ?lk_is_int ?cd_is_int ?kp_is_int ?at_is_whole ?lk_is_whole ?cd_is_whole ?kp_is_whole ?at_is_span ?lk_is_span ?cd_is_span ?kp_is_span ?at_require_spans ?lk_require_spans ?cd_require_spans ?kp_require_spans ?at_require_key ?lk_require_key ?cd_require_key ?kp_require_key ?at_require_depth ?lk_require_depth ?cd_require_depth ?kp_require_depth ?at_require_tail ?lk_require_tail ?cd_require_tail ?kp_require_tail ?at_require_number ?lk_require_number ?cd_require_number ?kp_require_number ?at_Table___init__ ?fn_Table___init__ ?lk_Table___init__ ?cd_Table___init__ ?kp_Table___init__ ?at_numbers_of ?lk_numbers_of ?cd_numbers_of ?kp_numbers_of ?at_tail_of ?lk_tail_of ?cd_tail_of ?kp_tail_of ?at_Table_tail ?fn_Table_tail ?lk_Table_tail ?cd_Table_tail ?kp_Table_tail ?at_require_table ?lk_require_table ?cd_require_table ?kp_require_table ?at_residue_of ?lk_residue_of ?cd_residue_of ?kp_residue_of ?at_residue_count ?lk_residue_count ?cd_residue_count ?kp_residue_count ?at_require_place ?lk_require_place ?cd_require_place ?kp_require_place ?at_tail_count ?lk_tail_count ?cd_tail_count ?kp_tail_count ?at_nth_key ?lk_nth_key ?cd_nth_key ?kp_nth_key ?at_bag ?lk_bag ?cd_bag ?kp_bag ?at_pick ?lk_pick ?cd_pick ?kp_pick ?at_three ?lk_three ?cd_three ?kp_three ?at_spans ?lk_spans ?cd_spans ?kp_spans ?at_ahead ?lk_ahead ?cd_ahead ?kp_ahead ?at_right ?lk_right ?cd_right ?kp_right ?at_law ?lk_law ?cd_law ?kp_law ?pg ?hd ?po ?sa ?mk ?kc ?nC ?nR ?nS ?xa ?xb ?xc ?xd ?zn_bool ?zn_enumerate ?zn_int ?zn_isinstance ?zn_len ?zn_list ?zn_max ?zn_min ?zn_range ?zn_set ?zn_sorted ?zn_sum ?zn_tuple ?zc_MOST_DEPTH ?zc_MOST_KEY ?zc_MOST_SPANS
    (case aC => k_is)
    (case at_is_int => k_is)
    (case lk_is_int => k_is)
    (case cd_is_int => k_is)
    (case kp_is_int => k_is)
    (case at_is_whole => k_is)
    (case lk_is_whole => k_is)
    (case cd_is_whole => k_is)
    (case kp_is_whole => k_is)
    (case at_is_span => k_is)
    (case lk_is_span => k_is)
    (case cd_is_span => k_is)
    (case kp_is_span => k_is)
    (case at_require_spans => k_is)
    (case lk_require_spans => k_is)
    (case cd_require_spans => k_is)
    (case kp_require_spans => k_is)
    (case at_require_key => k_is)
    (case lk_require_key => k_is)
    (case cd_require_key => k_is)
    (case kp_require_key => k_is)
    (case at_require_depth => k_is)
    (case lk_require_depth => k_is)
    (case cd_require_depth => k_is)
    (case kp_require_depth => k_is)
    (case at_require_tail => k_is)
    (case lk_require_tail => k_is)
    (case cd_require_tail => k_is)
    (case kp_require_tail => k_is)
    (case at_require_number => k_is)
    (case lk_require_number => k_is)
    (case cd_require_number => k_is)
    (case kp_require_number => k_is)
    (case at_Table___init__ => k_is)
    (case fn_Table___init__ => k_is)
    (case lk_Table___init__ => k_is)
    (case cd_Table___init__ => k_is)
    (case kp_Table___init__ => k_is)
    (case at_numbers_of => k_is)
    (case lk_numbers_of => k_is)
    (case cd_numbers_of => k_is)
    (case kp_numbers_of => k_is)
    (case at_tail_of => k_is)
    (case lk_tail_of => k_is)
    (case cd_tail_of => k_is)
    (case kp_tail_of => k_is)
    (case at_Table_tail => k_is)
    (case fn_Table_tail => k_is)
    (case lk_Table_tail => k_is)
    (case cd_Table_tail => k_is)
    (case kp_Table_tail => k_is)
    (case at_require_table => k_is)
    (case lk_require_table => k_is)
    (case cd_require_table => k_is)
    (case kp_require_table => k_is)
    (case at_residue_of => k_is)
    (case lk_residue_of => k_is)
    (case cd_residue_of => k_is)
    (case kp_residue_of => k_is)
    (case at_residue_count => k_is)
    (case lk_residue_count => k_is)
    (case cd_residue_count => k_is)
    (case kp_residue_count => k_is)
    (case at_require_place => k_is)
    (case lk_require_place => k_is)
    (case cd_require_place => k_is)
    (case kp_require_place => k_is)
    (case at_tail_count => k_is)
    (case lk_tail_count => k_is)
    (case cd_tail_count => k_is)
    (case kp_tail_count => k_is)
    (case at_nth_key => k_is)
    (case lk_nth_key => k_is)
    (case cd_nth_key => k_is)
    (case kp_nth_key => k_is)
    (case at_bag => k_is)
    (case lk_bag => k_is)
    (case cd_bag => k_is)
    (case kp_bag => k_is)
    (case at_pick => k_is)
    (case lk_pick => k_is)
    (case cd_pick => k_is)
    (case kp_pick => k_is)
    (case at_three => k_is)
    (case lk_three => k_is)
    (case cd_three => k_is)
    (case kp_three => k_is)
    (case at_spans => k_is)
    (case lk_spans => k_is)
    (case cd_spans => k_is)
    (case kp_spans => k_is)
    (case at_ahead => k_is)
    (case lk_ahead => k_is)
    (case cd_ahead => k_is)
    (case kp_ahead => k_is)
    (case at_right => k_is)
    (case lk_right => k_is)
    (case cd_right => k_is)
    (case kp_right => k_is)
    (case at_law => k_is)
    (case lk_law => k_is)
    (case cd_law => k_is)
    (case kp_law => k_is)
    (case pg => k_is)
    (case hd => k_is)
    (case po => k_is)
    (case sa => k_is)
    (case mk => k_is)
    (case kc => k_is)
    (case nC => k_is)
    (case nR => k_is)
    (case nS => k_is)
    (case xa => k_is)
    (case xb => k_is)
    (case xc => k_is)
    (case xd => k_is)
    (case zn_bool => k_is)
    (case zn_enumerate => k_is)
    (case zn_int => k_is)
    (case zn_isinstance => k_is)
    (case zn_len => k_is)
    (case zn_list => k_is)
    (case zn_max => k_is)
    (case zn_min => k_is)
    (case zn_range => k_is)
    (case zn_set => k_is)
    (case zn_sorted => k_is)
    (case zn_sum => k_is)
    (case zn_tuple => k_is)
    (case zc_MOST_DEPTH => exact ⟨_, by k_is⟩)
    (case zc_MOST_KEY => exact ⟨_, by k_is⟩)
    (case zc_MOST_SPANS => exact ⟨_, by k_is⟩)
#print axioms PySem.Challenge.cw_hashdoors_k04_keys_with_a_tail_holds
end
