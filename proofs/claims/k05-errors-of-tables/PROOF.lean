import PyProof.Rows.All
import PySem.Challenge.RW_hashdoors_k05_errors_of_tables
import Wide.All
import OpenK.AllK
import Wide.FinOn
import HandS.ForMost
import HandS.Wide
import HandS.Property
import HandS.IsInst
import HandS.RaiseMore
import HandS.SortInts
import HandS.Flow
import HandS.Style
import HandS.Conv
import HandS.EndBits
import HandS.WideBits
import HandS.OwnEq
import PyProof.ReprBulk
import PyProof.LongRange
import PyProof.ListRange
import HandS.SetFor
import HandS.Strs
import PyProof.DictUpdate
import HandS.ForDict
import HandS.SortRule
import HandS.Star
import HandS.ExcValue
import HandS.ExcInit
import HandS.ExcField
import KE.KExcIs
import HandS.Deep
import HandS.Text
import HandS.Iter
import HandS.DictTup
import KE.DatumOrd
import HandS.Exc
import HandS.ExcOwn
import HandS.CallSlots
import HandS.WordsExc
import PyProof.StrOps2
import HandS.NoneIn
import KE.KDictDisplayH
import HandS.TupLen
import PyProof.DictMoreH
import PyProof.RulesMatch
import HandS.More
import KE.KBits
set_option Elab.async false
set_option linter.all false
section
set_option maxRecDepth 100000
/-! typed layer over HandS: frozen values, owned lists, expressions that evaluate, statements that pass on -/
namespace Fw
open PySem L2
/-- what is said of a value, by the frozen part of the heap -/
structure R where
  p : Hp → V → Prop
  mono : ∀ {F F' : Hp} {v : V}, Same F F' → p F v → p F' v
/-- what is said of an object that is owned -/
structure OC where
  p : Hp → Addr → HO → Prop
  mono : ∀ {F F' : Hp} {a : Addr} {o : HO}, Same F F' → p F a o → p F' a o
  nt : ∀ {F : Hp} {a : Addr} {o : HO}, p F a o → ∀ xs : List V, o ≠ .tup xs
def eV (v : V) : R := ⟨fun _ x => x = v, fun _ h => h⟩
abbrev eI (i : Int) : R := eV (.int i)
abbrev eB (b : Bool) : R := eV (.bl b)
abbrev eS (s : Str) : R := eV (.str s)
abbrev eN : R := eV .non
def eAny : R := ⟨fun _ _ => True, fun _ h => h⟩
def All2 : List R → Hp → List V → Prop
  | [], _, [] => True
  | r :: rs, F, x :: xs => r.p F x ∧ All2 rs F xs
  | _, _, _ => False
theorem All2.mono {F F' : Hp} (e : Same F F') : ∀ {rs : List R} {xs : List V}, All2 rs F xs → All2 rs F' xs
  | [], [], _ => trivial
  | r :: rs, x :: xs, h => ⟨r.mono e h.1, All2.mono e h.2⟩
  | [], _ :: _, h => h.elim
  | _ :: _, [], h => h.elim
theorem All2.len {F : Hp} : ∀ {rs : List R} {xs : List V}, All2 rs F xs → xs.length = rs.length
  | [], [], _ => rfl
  | r :: rs, x :: xs, h => congrArg (· + 1) (All2.len h.2)
  | [], _ :: _, h => h.elim
  | _ :: _, [], h => h.elim
theorem All2.app {F : Hp} : ∀ {rs : List R} {xs : List V} {ss : List R} {ys : List V}, All2 rs F xs → All2 ss F ys → All2 (rs ++ ss) F (xs ++ ys)
  | [], [], _, _, _, h => h
  | r :: rs, x :: xs, _, _, h, k => ⟨h.1, All2.app h.2 k⟩
  | [], _ :: _, _, _, h, _ => h.elim
  | _ :: _, [], _, _, h, _ => h.elim
theorem All2.get {F : Hp} : ∀ {rs : List R} {xs : List V} {i : Nat} {x : V}, All2 rs F xs → xs[i]? = some x → ∃ r, rs[i]? = some r ∧ r.p F x
  | r :: rs, y :: ys, 0, x, h, e => by simp at e; subst e; exact ⟨r, rfl, h.1⟩
  | r :: rs, y :: ys, i + 1, x, h, e => by
    obtain ⟨q, h1, h2⟩ := All2.get (i := i) (x := x) h.2 (by simpa using e)
    exact ⟨q, by simpa using h1, h2⟩
  | [], [], i, x, _, e => by simp at e
  | [], _ :: _, _, _, h, _ => h.elim
  | _ :: _, [], _, _, h, _ => h.elim
theorem All2.get' {F : Hp} : ∀ {rs : List R} {xs : List V} {i : Nat} {r : R}, All2 rs F xs → rs[i]? = some r → ∃ x, xs[i]? = some x ∧ r.p F x
  | r :: rs, y :: ys, 0, x, h, e => by simp at e; subst e; exact ⟨y, rfl, h.1⟩
  | r :: rs, y :: ys, i + 1, x, h, e => by
    obtain ⟨q, h1, h2⟩ := All2.get' (i := i) (r := x) h.2 (by simpa using e)
    exact ⟨q, by simpa using h1, h2⟩
  | [], [], i, x, _, e => by simp at e
  | [], _ :: _, _, _, h, _ => h.elim
  | _ :: _, [], _, _, h, _ => h.elim
theorem All2.set {F : Hp} {r : R} {x : V} (q : r.p F x) : ∀ {rs : List R} {xs : List V} (i : Nat), All2 rs F xs → All2 (rs.set i r) F (xs.set i x)
  | [], [], _, h => h
  | _ :: _, _ :: _, 0, h => ⟨q, h.2⟩
  | _ :: _, _ :: _, i + 1, h => ⟨h.1, All2.set q i h.2⟩
  | [], _ :: _, _, h => h.elim
  | _ :: _, [], _, h => h.elim
variable {K : PySem.W.Frag}
def eT (K : PySem.W.Frag) (rs : List R) : R := ⟨fun F v => ∃ p xs, v = .ref p ∧ F p = some (.tup xs) ∧ All2 rs F xs, fun e ⟨p, xs, h1, h2, h3⟩ => ⟨p, xs, h1, e _ _ h2, h3.mono e⟩⟩
def eP2 {α β : Type} (K : PySem.W.Frag) (a : α → R) (b : β → R) (x : α × β) : R := eT K [a x.1, b x.2]
def eP3 {α β γ : Type} (K : PySem.W.Frag) (a : α → R) (b : β → R) (c : γ → R) (x : α × β × γ) : R := eT K [a x.1, b x.2.1, c x.2.2]
def eO {α : Type} (e : α → R) : Option α → R
  | none => eN
  | some x => e x
/-- a list; q: where it stands, if that is told -/
def oLq (q : Option Addr) (rs : List R) : OC := ⟨fun F a o => (∀ p, q = some p → a = p) ∧ ∃ xs, o = .lst xs ∧ All2 rs F xs, fun e ⟨z, xs, h1, h2⟩ => ⟨z, xs, h1, h2.mono e⟩, fun ⟨_, xs, h1, _⟩ ys e => by rw [h1] at e; cases e⟩
abbrev oL (rs : List R) : OC := oLq none rs
abbrev oLs {α : Type} (e : α → R) (l : List α) : OC := oL (l.map e)
/-! ### slots -/
inductive Sl where
  | no
  | fz (r : R)
  | ow (c : OC)
  | gh (q : Addr) (c : OC)
  | gx
/-- a slot of the frame (not an object beside it) -/
def Sl.real : Sl → Bool
  | .gh _ _ => false
  | .gx => false
  | _ => true
def ghAt (W : List Sl) (i : Nat) : Bool := match W[i]? with
  | some s => !s.real
  | none => false
def ghV (W : List Sl) (vs : List Nat) : Bool := vs.all fun w => !ghAt W w
def Own (W : List Sl) (σ : St) (a : Addr) : Prop := ∃ (i : Nat) (c : OC), (W[i]? = some (.ow c) ∧ σ[i]? = some (some (.ref a))) ∨ W[i]? = some (.gh a c)
/-- objects beside the frame, known by their addresses -/
structure Gh (F H : Hp) (σ : St) (W : List Sl) : Prop where
  at' : ∀ (i : Nat) (q : Addr) (c : OC), W[i]? = some (.gh q c) → ∃ o, H q = some o ∧ F q = none ∧ c.p F q o
  ow : ∀ (i j : Nat) (q : Addr) (c d : OC), W[i]? = some (.ow c) → W[j]? = some (.gh q d) → σ[i]? = some (some (.ref q)) → False
  un : ∀ (i j : Nat) (q : Addr) (c d : OC), W[i]? = some (.gh q c) → W[j]? = some (.gh q d) → i = j
structure Sat (F H : Hp) (σ : St) (W : List Sl) : Prop where
  ex : Same F H
  len : ∀ i : Nat, i < σ.length ↔ ∃ s, W[i]? = some s ∧ s.real = true
  fz : ∀ (i : Nat) (r : R), W[i]? = some (.fz r) → ∃ v, σ[i]? = some (some v) ∧ r.p F v
  ow : ∀ (i : Nat) (c : OC), W[i]? = some (.ow c) → ∃ p o, σ[i]? = some (some (.ref p)) ∧ H p = some o ∧ F p = none ∧ c.p F p o
  ds : ∀ (i j : Nat) (c d : OC) (p : Addr), W[i]? = some (.ow c) → W[j]? = some (.ow d) → σ[i]? = some (some (.ref p)) → σ[j]? = some (some (.ref p)) → i = j
  gh : Gh F H σ W
structure Rel (F H : Hp) (M : Addr → Prop) (F' H' : Hp) (M' : Addr → Prop) : Prop where
  f : Same F F'
  h : ∀ a o, ¬ M a → H a = some o → H' a = some o
  n : ∀ a o, F' a = some o → F a = some o ∨ H a = none ∨ M a ∨ ∃ xs, o = .tup xs
  t : ∀ a, H' a = none → H a = none
  o : ∀ a, M' a → M a ∨ H a = none
section
variable {F H F' H' F'' H'' : Hp} {M M' M'' : Addr → Prop} {σ : St} {W W' : List Sl}
theorem Rel.refl : Rel F H M F H M := ⟨fun _ _ h => h, fun _ _ _ h => h, fun _ _ h => .inl h, fun _ h => h, fun _ h => Or.inl h⟩
theorem Rel.trans (a : Rel F H M F' H' M') (b : Rel F' H' M' F'' H'' M'') : Rel F H M F'' H'' M'' where
  f := fun x o h => b.f x o (a.f x o h)
  h := fun x o n h => b.h x o (fun m => (a.o x m).elim n fun z => by rw [h] at z; cases z) (a.h x o n h)
  n := fun x o h => by
    rcases b.n x o h with z | z | z | z
    · exact a.n x o z
    · exact .inr (.inl (a.t x z))
    · exact (a.o x z).elim (fun z => .inr (.inr (.inl z))) fun z => .inr (.inl z)
    · exact .inr (.inr (.inr z))
  t := fun x h => a.t x (b.t x h)
  o := fun x m => (b.o x m).elim (a.o x) fun z => .inr (a.t x z)
/-- what is owned does not freeze -/
theorem Rel.nof (q : Rel F H M F' H' M') (ex : Same F' H') {p : Addr} {o : HO} (f : F p = none) (h : H p = some o) (m : ¬ M p) (nt : ∀ xs, o ≠ .tup xs) : F' p = none := by
  cases z : F' p with
  | none => rfl
  | some u =>
    rcases q.n p u z with k | k | k | ⟨xs, e⟩
    · rw [f] at k; cases k
    · rw [h] at k; cases k
    · exact (m k).elim
    · have a := ex p u z
      rw [q.h p o m h] at a
      cases a
      exact (nt xs e).elim
/-- the heap grows; nothing that is frozen comes -/
theorem Rel.grow (e : Same H H') : Rel F H M F H' M := ⟨fun _ _ h => h, fun x o _ h => e x o h, fun _ _ h => .inl h, fun x h => e.free h, fun _ h => .inl h⟩
/-- a new object is laid and frozen -/
theorem Rel.lay {p : Addr} {o : HO} (ex : Same F H) (hp : H p = none) : Rel F H M (upd F p o) (upd H p o) M where
  f := fun x u h => by
    have q := ex x u h
    rw [upd_ne (ne_of_none q hp)]; exact h
  h := fun x u _ h => by rw [upd_ne (ne_of_none h hp)]; exact h
  n := fun x u h => by
    by_cases e : x = p
    · subst e; exact .inr (.inl hp)
    · rw [upd_ne e] at h; exact .inl h
  t := fun x h => by
    by_cases e : x = p
    · subst e; exact hp
    · rw [upd_ne e] at h; exact h
  o := fun _ h => .inl h
end
end Fw
end
section
set_option maxRecDepth 100000
namespace Fw
open PySem L2
section
variable {F H F' H' F'' H'' : Hp} {M M' M'' : Addr → Prop} {σ σ' : St} {W W' W1 W2 : List Sl} {K : PySem.W.Frag}
theorem Rel.sub (a : Rel F H M F' H' M') (s : ∀ x, M'' x → M' x) : Rel F H M F' H' M'' := ⟨a.f, a.h, a.n, a.t, fun x m => a.o x (s x m)⟩
theorem Own.lt {a : Addr} (o : Own W σ a) (s : Sat F H σ W) : ∃ u, H a = some u := by
  obtain ⟨i, c, ⟨h1, h2⟩ | h1⟩ := o
  · obtain ⟨p, u, e, q, _⟩ := s.ow i c h1
    rw [h2] at e; cases e
    exact ⟨u, q⟩
  · obtain ⟨u, q, _⟩ := s.gh.at' i a c h1
    exact ⟨u, q⟩
theorem Own.fr {a : Addr} (o : Own W σ a) (s : Sat F H σ W) : F a = none := by
  obtain ⟨i, c, ⟨h1, h2⟩ | h1⟩ := o
  · obtain ⟨p, u, e, _, q, _⟩ := s.ow i c h1
    rw [h2] at e; cases e
    exact q
  · obtain ⟨u, _, q, _⟩ := s.gh.at' i a c h1
    exact q
theorem Own.obj {a : Addr} (o : Own W σ a) (s : Sat F H σ W) : ∃ u, H a = some u ∧ F a = none ∧ ∀ xs : List V, u ≠ .tup xs := by
  obtain ⟨i, c, ⟨h1, h2⟩ | h1⟩ := o
  · obtain ⟨p, u, e, q, f, z⟩ := s.ow i c h1
    rw [h2] at e; cases e
    exact ⟨u, q, f, c.nt z⟩
  · obtain ⟨u, q, f, z⟩ := s.gh.at' i a c h1
    exact ⟨u, q, f, c.nt z⟩
/-- what is not in M stays owned, unfrozen -/
theorem Own.nof {a : Addr} (o : Own W σ a) (s : Sat F H σ W) (q : Rel F H M F' H' M') (ex : Same F' H') (n : ¬ M a) : F' a = none := by
  obtain ⟨u, h1, h2, h3⟩ := o.obj s
  exact q.nof ex h2 h1 n h3
theorem Gh.rel (s : Sat F H σ W) (q : Rel F H M F' H' M') (ex : Same F' H') (n : ∀ (i : Nat) (a : Addr) (c : OC), W[i]? = some (Sl.gh a c) → ¬ M a) : Gh F' H' σ W :=
  ⟨fun i a c e => by
    obtain ⟨o, h1, h2, h3⟩ := s.gh.at' i a c e
    exact ⟨o, q.h a o (n i a c e) h1, Own.nof ⟨i, c, .inr e⟩ s q ex (n i a c e), c.mono q.f h3⟩, s.gh.ow, s.gh.un⟩
theorem Gh.set {i : Nat} {c d : OC} (g : Gh F H σ W) (hw : W[i]? = some (.ow d)) : Gh F H σ (W.set i (.ow c)) := by
  have hi : i < W.length := (List.getElem?_eq_some_iff.mp hw).1
  have old : ∀ {j : Nat} {x : Sl}, (W.set i (.ow c))[j]? = some x → i ≠ j → W[j]? = some x := fun {j x} h e => by
    rw [List.getElem?_set_ne e] at h; exact h
  have ng : ∀ {j : Nat} {a : Addr} {e : OC}, (W.set i (.ow c))[j]? = some (.gh a e) → i ≠ j := fun {j a e} h z => by
    subst z
    rw [List.getElem?_set_self hi] at h; cases h
  refine ⟨fun j a e h => g.at' j a e (old h (ng h)), fun j k a e e' h1 h2 h3 => ?_, fun j k a e e' h1 h2 => g.un j k a e e' (old h1 (ng h1)) (old h2 (ng h2))⟩
  by_cases z : i = j
  · subst z
    exact g.ow i k a d e' hw (old h2 (ng h2)) h3
  · exact g.ow j k a e e' (old h1 z) (old h2 (ng h2)) h3
/-- each owned object stands at one place -/
theorem Sat.one {i j : Nat} {c d : OC} {a : Addr} (s : Sat F H σ W) (h1 : (W[i]? = some (.ow c) ∧ σ[i]? = some (some (.ref a))) ∨ W[i]? = some (.gh a c)) (h2 : (W[j]? = some (.ow d) ∧ σ[j]? = some (some (.ref a))) ∨ W[j]? = some (.gh a d)) : i = j := by
  rcases h1 with ⟨h1, h3⟩ | h1 <;> rcases h2 with ⟨h2, h4⟩ | h2
  · exact s.ds i j c d a h1 h2 h3 h4
  · exact (s.gh.ow i j a c d h1 h2 h3).elim
  · exact (s.gh.ow j i a d c h2 h1 h4).elim
  · exact s.gh.un i j a c d h1 h2
/-- the objects beside, where the heaps change around them -/
theorem Gh.mk' {σ2 : St} {F2 H2 : Hp} (s : Sat F H σ W) (f : Same F F2) (h : ∀ a, Own W σ a → H2 a = H a) (n : ∀ a, Own W σ a → F2 a = none) : Gh F2 H2 σ W :=
  ⟨fun i q c e => by
    obtain ⟨o, h1, h2, h3⟩ := s.gh.at' i q c e
    have w : Own W σ q := ⟨i, c, .inr e⟩
    exact ⟨o, by rw [h q w]; exact h1, n q w, c.mono f h3⟩, s.gh.ow, s.gh.un⟩
theorem Sat.grow (s : Sat F H σ W) (e : Same H H') : Sat F H' σ W :=
  ⟨fun a o h => e a o (s.ex a o h), s.len, s.fz, fun i c h => let ⟨p, o, h1, h2, h3, h4⟩ := s.ow i c h; ⟨p, o, h1, e p o h2, h3, h4⟩, s.ds,
    Gh.mk' (σ2 := σ) s (fun _ _ z => z) (fun a w => by
      obtain ⟨u, z⟩ := w.lt s
      rw [z, e a u z]) fun a w => w.fr s⟩
theorem Sat.lay {p : Addr} {o : HO} (s : Sat F H σ W) (hp : H p = none) : Sat (upd F p o) (upd H p o) σ W := by
  have fp : F p = none := s.ex.free hp
  have e : Same F (upd F p o) := fun a u h => by rw [upd_ne (ne_of_none h fp)]; exact h
  refine ⟨fun a u h => ?_, s.len, fun i r h => ?_, fun i c h => ?_, s.ds, Gh.mk' (σ2 := σ) s e (fun a w => ?_) fun a w => ?_⟩
  · by_cases q : a = p
    · subst q; rw [upd_same] at h; cases h; exact upd_same
    · rw [upd_ne q] at h; rw [upd_ne q]; exact s.ex a u h
  · obtain ⟨v, h1, h2⟩ := s.fz i r h
    exact ⟨v, h1, r.mono e h2⟩
  · obtain ⟨q, u, h1, h2, h3, h4⟩ := s.ow i c h
    have ne : q ≠ p := ne_of_none h2 hp
    exact ⟨q, u, h1, by rw [upd_ne ne]; exact h2, by rw [upd_ne ne]; exact h3, c.mono e h4⟩
  · obtain ⟨u, z⟩ := w.lt s
    rw [upd_ne (ne_of_none z hp)]
  · obtain ⟨u, z⟩ := w.lt s
    rw [upd_ne (ne_of_none z hp)]; exact w.fr s
theorem len_set {i : Nat} {x : Sl} {v : Option V} (s : ∀ i : Nat, i < σ.length ↔ ∃ s, W[i]? = some s ∧ s.real = true) (hn : ghAt W i = false) (hx : x.real = true) : ∀ j : Nat, j < (σ.set i v).length ↔ ∃ s, (W.set i x)[j]? = some s ∧ s.real = true := fun j => by
  rw [List.length_set, s j]
  by_cases e : i = j
  · subst e
    constructor
    · rintro ⟨y, h1, h2⟩
      exact ⟨x, List.getElem?_set_self (List.getElem?_eq_some_iff.mp h1).1, hx⟩
    · rintro ⟨y, h1, h2⟩
      have hi : i < W.length := by
        have := (List.getElem?_eq_some_iff.mp h1).1
        simpa using this
      refine ⟨W[i], List.getElem?_eq_getElem hi, ?_⟩
      unfold ghAt at hn
      rw [List.getElem?_eq_getElem hi] at hn
      generalize W[i] = z at hn
      cases z <;> first | rfl | cases hn
  · rw [List.getElem?_set_ne e]
theorem Sat.lt {i : Nat} {x : Sl} (s : Sat F H σ W) (h : W[i]? = some x) (r : x.real = true) : i < σ.length := (s.len i).mpr ⟨x, h, r⟩
theorem gh_set {i j : Nat} {x : Sl} {q : Addr} {c : OC} (hx : x.real = true) (h : (W.set i x)[j]? = some (.gh q c)) : i ≠ j ∧ W[j]? = some (.gh q c) := by
  by_cases e : i = j
  · subst e
    have hi : i < W.length := by
      have := (List.getElem?_eq_some_iff.mp h).1
      simpa using this
    rw [List.getElem?_set_self hi] at h; cases h; cases hx
  · rw [List.getElem?_set_ne e] at h; exact ⟨e, h⟩
theorem ghAt_set {i j : Nat} {x : Sl} (h : ghAt W j = false) (hx : x.real = true) : ghAt (W.set i x) j = false := by
  unfold ghAt at h ⊢
  by_cases e : i = j
  · subst e
    cases q : (W.set i x)[i]? with
    | none => rfl
    | some y =>
      have hi : i < W.length := by
        have := (List.getElem?_eq_some_iff.mp q).1
        simpa using this
      rw [List.getElem?_set_self hi] at q
      cases q
      cases x <;> first | rfl | cases hx
  · rw [List.getElem?_set_ne e]; exact h
theorem ghAt_of {i : Nat} {x : Sl} (h : W[i]? = some x) (hx : x.real = true) : ghAt W i = false := by
  unfold ghAt
  rw [h]
  cases x <;> first | rfl | cases hx
theorem ghV_hd {i : Nat} {is : List Nat} (h : ghV W (i :: is) = true) : ghAt W i = false := by
  unfold ghV at h
  rw [List.all_cons, Bool.and_eq_true] at h
  simpa using h.1
theorem ghV_tl {i : Nat} {is : List Nat} {x : Sl} (h : ghV W (i :: is) = true) (hx : x.real = true) : ghV (W.set i x) is = true := by
  unfold ghV at h ⊢
  rw [List.all_cons, Bool.and_eq_true] at h
  rw [List.all_eq_true]
  intro j hj
  have := List.all_eq_true.mp h.2 j hj
  have e : ghAt W j = false := by simpa using this
  rw [ghAt_set e hx]; rfl
/-- a frozen value is stored -/
theorem Sat.put {i : Nat} {v : V} {r : R} (s : Sat F H σ W) (q : r.p F v) (hn : ghAt W i = false := by rfl) : Sat F H (σ.set i (some v)) (W.set i (.fz r)) := by
  have ln := len_set (v := some v) (x := .fz r) s.len hn rfl
  refine ⟨s.ex, ln, fun j u h => ?_, fun j c h => ?_, fun j k c d p h1 h2 h3 h4 => ?_, fun j q c h => s.gh.at' j q c (gh_set rfl h).2, fun j k q c d h1 h2 h3 => ?_, fun j k q c d h1 h2 => s.gh.un j k q c d (gh_set rfl h1).2 (gh_set rfl h2).2⟩
  · by_cases e : i = j
    · subst e
      have hi : i < W.length := by
        have := (List.getElem?_eq_some_iff.mp h).1
        simpa using this
      have hs : i < σ.length := by
        have := (ln i).mpr ⟨_, h, rfl⟩
        simpa using this
      rw [List.getElem?_set_self hi] at h; cases h
      exact ⟨v, List.getElem?_set_self hs, q⟩
    · rw [List.getElem?_set_ne e] at h
      rw [List.getElem?_set_ne e]
      exact s.fz j u h
  · by_cases e : i = j
    · subst e
      have hi : i < W.length := by
        have := (List.getElem?_eq_some_iff.mp h).1
        simpa using this
      rw [List.getElem?_set_self hi] at h; cases h
    · rw [List.getElem?_set_ne e] at h
      rw [List.getElem?_set_ne e]
      exact s.ow j c h
  · have nj : i ≠ j := fun e => by
      subst e
      have hi : i < W.length := by
        have := (List.getElem?_eq_some_iff.mp h1).1
        simpa using this
      rw [List.getElem?_set_self hi] at h1; cases h1
    have nk : i ≠ k := fun e => by
      subst e
      have hi : i < W.length := by
        have := (List.getElem?_eq_some_iff.mp h2).1
        simpa using this
      rw [List.getElem?_set_self hi] at h2; cases h2
    rw [List.getElem?_set_ne nj] at h1 h3
    rw [List.getElem?_set_ne nk] at h2 h4
    exact s.ds j k c d p h1 h2 h3 h4
  · have nj : i ≠ j := fun e => by
      subst e
      have hi : i < W.length := by
        have := (List.getElem?_eq_some_iff.mp h1).1
        simpa using this
      rw [List.getElem?_set_self hi] at h1; cases h1
    rw [List.getElem?_set_ne nj] at h1 h3
    exact s.gh.ow j k q c d h1 (gh_set rfl h2).2 h3
theorem Own.put {i : Nat} {v : V} {r : R} {a : Addr} (o : Own (W.set i (.fz r)) (σ.set i (some v)) a) : Own W σ a := by
  obtain ⟨j, c, ⟨h1, h2⟩ | h1⟩ := o
  · have nj : i ≠ j := fun e => by
      subst e
      have hi : i < W.length := by
        have := (List.getElem?_eq_some_iff.mp h1).1
        simpa using this
      rw [List.getElem?_set_self hi] at h1; cases h1
    rw [List.getElem?_set_ne nj] at h1 h2
    exact ⟨j, c, .inl ⟨h1, h2⟩⟩
  · exact ⟨j, c, .inr (gh_set rfl h1).2⟩
/-- an owned object, new, is stored -/
theorem Sat.own {i : Nat} {p : Addr} {o : HO} {c : OC} (s : Sat F H σ W) (hp : H p = some o) (fp : F p = none) (np : ¬ Own W σ p) (q : c.p F p o) (hn : ghAt W i = false := by rfl) : Sat F H (σ.set i (some (.ref p))) (W.set i (.ow c)) := by
  have inj : ∀ (j : Nat) (d : OC), i ≠ j → W[j]? = some (.ow d) → σ[j]? = some (some (.ref p)) → False := fun j d _ h1 h2 => np ⟨j, d, .inl ⟨h1, h2⟩⟩
  have ln := len_set (v := some (.ref p)) (x := .ow c) s.len hn rfl
  refine ⟨s.ex, ln, fun j u h => ?_, fun j d h => ?_, fun j k d e a h1 h2 h3 h4 => ?_, fun j q c h => s.gh.at' j q c (gh_set rfl h).2, fun j k a d e h1 h2 h3 => ?_, fun j k q c d h1 h2 => s.gh.un j k q c d (gh_set rfl h1).2 (gh_set rfl h2).2⟩
  · by_cases e : i = j
    · subst e
      have hi : i < W.length := by
        have := (List.getElem?_eq_some_iff.mp h).1
        simpa using this
      rw [List.getElem?_set_self hi] at h; cases h
    · rw [List.getElem?_set_ne e] at h
      rw [List.getElem?_set_ne e]
      exact s.fz j u h
  · by_cases e : i = j
    · subst e
      have hi : i < W.length := by
        have := (List.getElem?_eq_some_iff.mp h).1
        simpa using this
      have hs : i < σ.length := by
        have := (ln i).mpr ⟨_, h, rfl⟩
        simpa using this
      rw [List.getElem?_set_self hi] at h; cases h
      exact ⟨p, o, List.getElem?_set_self hs, hp, fp, q⟩
    · rw [List.getElem?_set_ne e] at h
      rw [List.getElem?_set_ne e]
      exact s.ow j d h
  · have get : ∀ {j : Nat} {d : OC}, (W.set i (.ow c))[j]? = some (.ow d) → i = j → i < σ.length := fun {j d} h e => by
      subst e
      have := (ln i).mpr ⟨_, h, rfl⟩
      simpa using this
    by_cases ej : i = j
    · by_cases ek : i = k
      · exact ej.symm.trans ek
      · subst ej
        rw [List.getElem?_set_self (get h1 rfl)] at h3
        cases h3
        rw [List.getElem?_set_ne ek] at h2 h4
        exact (inj k e ek h2 h4).elim
    · by_cases ek : i = k
      · subst ek
        rw [List.getElem?_set_self (get h2 rfl)] at h4
        cases h4
        rw [List.getElem?_set_ne ej] at h1 h3
        exact (inj j d ej h1 h3).elim
      · rw [List.getElem?_set_ne ej] at h1 h3
        rw [List.getElem?_set_ne ek] at h2 h4
        exact s.ds j k d e a h1 h2 h3 h4
  · obtain ⟨_, g2⟩ := gh_set rfl h2
    by_cases ej : i = j
    · subst ej
      have hs : i < σ.length := by
        have := (ln i).mpr ⟨_, h1, rfl⟩
        simpa using this
      rw [List.getElem?_set_self hs] at h3
      cases h3
      exact np ⟨k, e, .inr g2⟩
    · rw [List.getElem?_set_ne ej] at h1 h3
      exact s.gh.ow j k a d e h1 g2 h3
theorem Own.own {i : Nat} {p : Addr} {c : OC} {a : Addr} (o : Own (W.set i (.ow c)) (σ.set i (some (.ref p))) a) : Own W σ a ∨ a = p := by
  obtain ⟨j, d, ⟨h1, h2⟩ | h1⟩ := o
  · by_cases e : i = j
    · subst e
      have hj : i < (σ.set i (some (.ref p))).length := (List.getElem?_eq_some_iff.mp h2).1
      rw [List.getElem?_set_self (by simpa using hj)] at h2
      cases h2
      exact .inr rfl
    · rw [List.getElem?_set_ne e] at h1 h2
      exact .inl ⟨j, d, .inl ⟨h1, h2⟩⟩
  · exact .inl ⟨j, d, .inr (gh_set rfl h1).2⟩
theorem len_mut {i : Nat} {x y : Sl} (hw : W[i]? = some x) (r : y.real = x.real) (j : Nat) : (∃ s, (W.set i y)[j]? = some s ∧ s.real = true) ↔ ∃ s, W[j]? = some s ∧ s.real = true := by
  have hi : i < W.length := (List.getElem?_eq_some_iff.mp hw).1
  by_cases e : i = j
  · subst e
    rw [List.getElem?_set_self hi, hw]
    constructor
    · rintro ⟨s, h1, h2⟩; cases h1; exact ⟨x, rfl, by rw [← r]; exact h2⟩
    · rintro ⟨s, h1, h2⟩; cases h1; exact ⟨y, rfl, by rw [r]; exact h2⟩
  · rw [List.getElem?_set_ne e]
/-- what an owned object holds is changed -/
theorem Sat.mut {i : Nat} {p : Addr} {o : HO} {c d : OC} (s : Sat F H σ W) (hw : W[i]? = some (.ow d)) (hs : σ[i]? = some (some (.ref p))) (q : c.p F p o) : Sat F (upd H p o) σ (W.set i (.ow c)) := by
  have hi : i < W.length := (List.getElem?_eq_some_iff.mp hw).1
  have fp : F p = none := by
    obtain ⟨p', o', e1, _, e3, _⟩ := s.ow i d hw
    rw [hs] at e1; cases e1; exact e3
  have old : ∀ (j : Nat) (e : OC), (W.set i (.ow c))[j]? = some (.ow e) → ∃ e', W[j]? = some (.ow e') := fun j e h => by
    by_cases e1 : i = j
    · subst e1; exact ⟨d, hw⟩
    · rw [List.getElem?_set_ne e1] at h; exact ⟨e, h⟩
  refine ⟨fun a u h => ?_, fun j => (s.len j).trans (len_mut (y := .ow c) hw rfl j).symm, fun j u h => ?_, fun j e h => ?_, fun j k e e' a h1 h2 h3 h4 => ?_, fun j a e h => ?_, fun j k a e e' h1 h2 h3 => ?_, fun j k q c d h1 h2 => s.gh.un j k q c d (gh_set rfl h1).2 (gh_set rfl h2).2⟩
  · rw [upd_ne (ne_of_none h fp)]; exact s.ex a u h
  · by_cases e : i = j
    · subst e
      rw [List.getElem?_set_self hi] at h; cases h
    · rw [List.getElem?_set_ne e] at h
      exact s.fz j u h
  · by_cases e1 : i = j
    · subst e1
      rw [List.getElem?_set_self hi] at h; cases h
      exact ⟨p, o, hs, upd_same, fp, q⟩
    · rw [List.getElem?_set_ne e1] at h
      obtain ⟨a, u, g1, g2, g3, g4⟩ := s.ow j e h
      have ne : a ≠ p := fun z => by subst z; exact e1 (s.ds i j d e a hw h hs g1)
      exact ⟨a, u, g1, by rw [upd_ne ne]; exact g2, g3, g4⟩
  · obtain ⟨a1, g1⟩ := old j e h1
    obtain ⟨a2, g2⟩ := old k e' h2
    exact s.ds j k a1 a2 a g1 g2 h3 h4
  · obtain ⟨_, g⟩ := gh_set rfl h
    obtain ⟨u, g1, g2, g3⟩ := s.gh.at' j a e g
    have ne : a ≠ p := fun z => s.gh.ow i j p d e hw (z ▸ g) hs
    exact ⟨u, by rw [upd_ne ne]; exact g1, g2, g3⟩
  · obtain ⟨a1, g1⟩ := old j e h1
    exact s.gh.ow j k a a1 e' g1 (gh_set rfl h2).2 h3
theorem Own.mut {i : Nat} {c d : OC} {a : Addr} (hw : W[i]? = some (.ow d)) : Own (W.set i (.ow c)) σ a ↔ Own W σ a := by
  have hi : i < W.length := (List.getElem?_eq_some_iff.mp hw).1
  constructor
  · rintro ⟨j, e, ⟨h1, h2⟩ | h1⟩
    · by_cases e1 : i = j
      · subst e1; exact ⟨i, d, .inl ⟨hw, h2⟩⟩
      · rw [List.getElem?_set_ne e1] at h1; exact ⟨j, e, .inl ⟨h1, h2⟩⟩
    · exact ⟨j, e, .inr (gh_set rfl h1).2⟩
  · rintro ⟨j, e, ⟨h1, h2⟩ | h1⟩
    · by_cases e1 : i = j
      · subst e1; exact ⟨i, c, .inl ⟨List.getElem?_set_self hi, h2⟩⟩
      · exact ⟨j, e, .inl ⟨by rw [List.getElem?_set_ne e1]; exact h1, h2⟩⟩
    · have e1 : i ≠ j := fun z => by rw [← z, hw] at h1; cases h1
      exact ⟨j, e, .inr (by rw [List.getElem?_set_ne e1]; exact h1)⟩
/-- forgetting -/
def Wk : List Sl → List Sl → Prop
  | [], [] => True
  | s :: W, t :: W' => ((t = .no ∧ s.real = true) ∨ t = s) ∧ Wk W W'
  | _, _ => False
theorem Wk.len : ∀ {W W' : List Sl}, Wk W W' → W.length = W'.length
  | [], [], _ => rfl
  | _ :: _, _ :: _, h => congrArg (· + 1) (Wk.len h.2)
  | [], _ :: _, h => h.elim
  | _ :: _, [], h => h.elim
theorem Wk.at : ∀ {W W' : List Sl} {i : Nat} {s : Sl}, Wk W W' → W'[i]? = some s → s = .no ∨ W[i]? = some s
  | _ :: _, _ :: _, 0, s, h, e => by
    simp at e; subst e
    rcases h.1 with z | z
    · exact .inl z.1
    · exact .inr (by rw [z]; rfl)
  | _ :: _, _ :: _, i + 1, s, h, e => by
    rcases Wk.at (i := i) (s := s) h.2 (by simpa using e) with z | z
    · exact .inl z
    · exact .inr (by simpa using z)
  | [], [], _, _, _, e => by simp at e
  | [], _ :: _, _, _, h, _ => h.elim
  | _ :: _, [], _, _, h, _ => h.elim
theorem Wk.rl : ∀ {W W' : List Sl} {i : Nat}, Wk W W' → ((∃ s, W[i]? = some s ∧ s.real = true) ↔ ∃ s, W'[i]? = some s ∧ s.real = true)
  | s :: _, t :: _, 0, h => by
    simp only [List.getElem?_cons_zero]
    rcases h.1 with ⟨z1, z2⟩ | z
    · subst z1
      exact ⟨fun _ => ⟨_, rfl, rfl⟩, fun _ => ⟨_, rfl, z2⟩⟩
    · subst z; exact Iff.rfl
  | _ :: _, _ :: _, i + 1, h => by
    simp only [List.getElem?_cons_succ]
    exact Wk.rl h.2
  | [], [], _, _ => Iff.rfl
  | [], _ :: _, _, h => h.elim
  | _ :: _, [], _, h => h.elim
theorem Wk.refl : ∀ {W : List Sl}, Wk W W
  | [] => trivial
  | _ :: _ => ⟨.inr rfl, Wk.refl⟩
theorem Wk.sub {a : Addr} (k : Wk W W') (o : Own W' σ a) : Own W σ a := by
  obtain ⟨i, c, ⟨h1, h2⟩ | h1⟩ := o
  · rcases k.at h1 with z | z
    · cases z
    · exact ⟨i, c, .inl ⟨z, h2⟩⟩
  · rcases k.at h1 with z | z
    · cases z
    · exact ⟨i, c, .inr z⟩
theorem Sat.weak (s : Sat F H σ W) (k : Wk W W') : Sat F H σ W' := by
  have at' : ∀ {i : Nat} {s : Sl}, W'[i]? = some s → s ≠ .no → W[i]? = some s := fun {i s} h n => by
    rcases k.at h with z | z
    · exact (n z).elim
    · exact z
  refine ⟨s.ex, fun i => (s.len i).trans k.rl, fun i r h => s.fz i r (at' h nofun), fun i c h => s.ow i c (at' h nofun), fun i j c d p h1 h2 => s.ds i j c d p (at' h1 nofun) (at' h2 nofun), fun i q c h => s.gh.at' i q c (at' h nofun), fun i j q c d h1 h2 => s.gh.ow i j q c d (at' h1 nofun) (at' h2 nofun), fun i j q c d h1 h2 => s.gh.un i j q c d (at' h1 nofun) (at' h2 nofun)⟩
end
section
variable {F H : Hp} {σ : St} {W : List Sl}
theorem Wk.no : ∀ {W : List Sl} {i : Nat} {x : Sl}, W[i]? = some x → x.real = true → Wk W (W.set i .no)
  | s :: W, 0, x, h, hx => by
    have : s = x := by simpa using h
    subst this
    exact ⟨.inl ⟨rfl, hx⟩, Wk.refl⟩
  | s :: W, i + 1, x, h, hx => ⟨.inr rfl, Wk.no (W := W) (i := i) (x := x) (by simpa using h) hx⟩
  | [], _, _, h, _ => by simp at h
theorem no_own_no {i : Nat} {c : OC} {p : Addr} (s : Sat F H σ W) (h : W[i]? = some (.ow c)) (e0 : σ[i]? = some (some (.ref p))) : ¬ Own (W.set i .no) σ p := fun ⟨j, d, o⟩ => by
  have hi : i < W.length := (List.getElem?_eq_some_iff.mp h).1
  by_cases e : i = j
  · subst e
    rcases o with ⟨z1, z2⟩ | z1
    · rw [List.getElem?_set_self hi] at z1; cases z1
    · rw [List.getElem?_set_self hi] at z1; cases z1
  · refine e (s.one (c := c) (d := d) (a := p) (.inl ⟨h, e0⟩) ?_)
    rcases o with ⟨z1, z2⟩ | z1
    · rw [List.getElem?_set_ne e] at z1; exact .inl ⟨z1, z2⟩
    · rw [List.getElem?_set_ne e] at z1; exact .inr z1
end
/-! ### judgements -/
/-- an expression evaluates to a frozen value -/
def ES (t : TE) (W W' : List Sl) (r : R) : Prop := ∀ (F H : Hp) (σ : St) (Q : VK), Sat F H σ W →
  (∀ v F' H', Rel F H (Own W σ) F' H' (Own W' σ) → Sat F' H' σ W' → r.p F' v → Q v H') → t σ H Q
/-- .. to a new object that is owned by nobody yet -/
def ESN (t : TE) (W W' : List Sl) (c : OC) : Prop := ∀ (F H : Hp) (σ : St) (Q : VK), Sat F H σ W →
  (∀ p o F' H', Rel F H (Own W σ) F' H' (Own W' σ) → Sat F' H' σ W' → H p = none → H' p = some o → F' p = none → ¬ Own W' σ p → c.p F' p o → Q (.ref p) H') → t σ H Q
/-- a test -/
def ET (t : TT) (W W' : List Sl) (b : Bool) : Prop := ∀ (F H : Hp) (σ : St) (Q : Bool → Hp → Prop), Sat F H σ W →
  (∀ F' H', Rel F H (Own W σ) F' H' (Own W' σ) → Sat F' H' σ W' → Q b H') → t σ H Q
/-- arguments -/
def AS (t : TA) (W W' : List Sl) (rs : List R) : Prop := ∀ (F H : Hp) (σ : St) (Q : List V → Hp → Prop), Sat F H σ W →
  (∀ vs F' H', Rel F H (Own W σ) F' H' (Own W' σ) → Sat F' H' σ W' → All2 rs F' vs → Q vs H') → t σ H Q
structure Post where
  nx : List Sl → Prop
  rt : List Sl → R → Prop
  bk : List Sl → Prop := fun _ => False
  ct : List Sl → Prop := fun _ => False
/-- a statement -/
def SS (t : TS) (W : List Sl) (P : Post) : Prop := ∀ (F H : Hp) (σ : St) (D : Ends), Sat F H σ W →
  (∀ W' σ' F' H', P.nx W' → Rel F H (Own W σ) F' H' (Own W' σ') → Sat F' H' σ' W' → D.nx σ' H') →
  (∀ W' σ' r v F' H', P.rt W' r → Rel F H (Own W σ) F' H' (Own W' σ') → Sat F' H' σ' W' → r.p F' v → D.rt v H') →
  (∀ W' σ' F' H', P.bk W' → Rel F H (Own W σ) F' H' (Own W' σ') → Sat F' H' σ' W' → D.bk σ' H') →
  (∀ W' σ' F' H', P.ct W' → Rel F H (Own W σ) F' H' (Own W' σ') → Sat F' H' σ' W' → D.ct σ' H') → t D σ H
section
variable {W W' W1 W2 W3 : List Sl} {K : PySem.W.Frag} {ta tb tc te : TE} {t u : TT} {r ra rb : R} {x y z v : V}
theorem ES.imp {r' : R} (h : ES te W W' r) (e : ∀ F v, r.p F v → r'.p F v) : ES te W W' r' := fun F H σ Q s k => h F H σ Q s fun v F' H' a b c => k v F' H' a b (e _ _ c)
/-! values -/
theorem es_var (i : Nat) (h : W[i]? = some (.fz r)) : ES (tVar i) W W r := fun F H σ Q s k => by
  obtain ⟨v, h1, h2⟩ := s.fz i r h
  exact ⟨v, h1, k v F H Rel.refl s h2⟩
theorem es_c : ES (tC v) W W (eV v) := fun F H σ Q s k => k v F H Rel.refl s rfl
/-- two values, an operation that changes nothing -/
theorem es_op {g : R2} (ha : ES ta W W1 (eV x)) (hb : ES tb W1 W2 (eV y)) (hg : ∀ (H : Hp) (Q : VK), Q z H → g x y H Q) : ES (tOp g ta tb) W W2 (eV z) := fun F H σ Q s k =>
  ha F H σ _ s fun v F1 H1 a1 s1 e1 => hb F1 H1 σ _ s1 fun w F2 H2 a2 s2 e2 => by
    have e1' : v = x := e1
    have e2' : w = y := e2
    subst e1' e2'
    exact hg H2 Q (k z F2 H2 (a1.trans a2) s2 rfl)
theorem es_un {g : V → Hp → VK → Prop} (ha : ES ta W W1 (eV x)) (hg : ∀ (H : Hp) (Q : VK), Q z H → g x H Q) : ES (tUn g ta) W W1 (eV z) := fun F H σ Q s k =>
  ha F H σ _ s fun v F1 H1 a1 s1 e1 => by
    have e1' : v = x := e1
    subst e1'
    exact hg H1 Q (k z F1 H1 a1 s1 rfl)
section
variable {i j : Int}
theorem es_add (ha : ES ta W W1 (eI i)) (hb : ES tb W1 W2 (eI j)) : ES (tOp (rI0 fun i j => .int (i + j)) ta tb) W W2 (eI (i + j)) := es_op ha hb fun _ _ q => ⟨i, j, rfl, rfl, q⟩
theorem es_sub (ha : ES ta W W1 (eI i)) (hb : ES tb W1 W2 (eI j)) : ES (tOp (rI0 fun i j => .int (i - j)) ta tb) W W2 (eI (i - j)) := es_op ha hb fun _ _ q => ⟨i, j, rfl, rfl, q⟩
theorem es_mul (ha : ES ta W W1 (eI i)) (hb : ES tb W1 W2 (eI j)) (c : CMul i j) : ES (tOp (rI CMul fun i j => .int (i * j)) ta tb) W W2 (eI (i * j)) := es_op ha hb fun _ _ q => ⟨i, j, rfl, rfl, c, q⟩
theorem es_mod (ha : ES ta W W1 (eI i)) (hb : ES tb W1 W2 (eI j)) (c : 0 < j) : ES (tOp (rI (fun _ j => 0 < j) fun i j => .int (i % j)) ta tb) W W2 (eI (i % j)) := es_op ha hb fun _ _ q => ⟨i, j, rfl, rfl, c, q⟩
theorem es_pow (ha : ES ta W W1 (eI i)) (hb : ES tb W1 W2 (eI j)) (c : CPow i j) : ES (tOp (rI CPow fun i j => .int (i ^ j.toNat)) ta tb) W W2 (eI (i ^ j.toNat)) := es_op ha hb fun _ _ q => ⟨i, j, rfl, rfl, c, q⟩
theorem es_shl (ha : ES ta W W1 (eI i)) (hb : ES tb W1 W2 (eI j)) (c : CPow i j) : ES (tOp (rI CPow fun i j => .int (i * 2 ^ j.toNat)) ta tb) W W2 (eI (i * 2 ^ j.toNat)) := es_op ha hb fun _ _ q => ⟨i, j, rfl, rfl, c, q⟩
theorem es_shr (ha : ES ta W W1 (eI i)) (hb : ES tb W1 W2 (eI j)) (c : 0 ≤ j) : ES (tOp (rI (fun _ j => 0 ≤ j) fun i j => .int (i / 2 ^ j.toNat)) ta tb) W W2 (eI (i / 2 ^ j.toNat)) := es_op ha hb fun _ _ q => ⟨i, j, rfl, rfl, c, q⟩
theorem es_and (ha : ES ta W W1 (eI i)) (hb : ES tb W1 W2 (eI j)) : ES (tOp (rI0 fun i j => .int (Builtin.bitAnd i j)) ta tb) W W2 (eI (Builtin.bitAnd i j)) := es_op ha hb fun _ _ q => ⟨i, j, rfl, rfl, q⟩
theorem es_neg (ha : ES ta W W1 (eI i)) : ES (tUn (rU fun i => .int (-i)) ta) W W1 (eI (-i)) := es_un ha fun _ _ q => ⟨i, rfl, q⟩
end
end
end Fw
end
section
set_option maxRecDepth 100000
namespace Fw
open PySem L2
section
variable {W W' W1 W2 W3 : List Sl} {K : PySem.W.Frag} {ta tb tc te : TE} {t u : TT} {r ra rb : R} {x y z v : V} {a b : Bool}
/-! tests -/
theorem et_cmp {g : R2} (ha : ES ta W W1 (eV x)) (hb : ES tb W1 W2 (eV y)) (hg : ∀ (H : Hp) (Q : VK), Q (.bl b) H → g x y H Q) : ET (tTest (tOp g ta tb)) W W2 b := fun F H σ Q s k =>
  es_op ha hb hg F H σ _ s fun v F1 H1 a1 s1 e1 => ⟨b, e1, k F1 H1 a1 s1⟩
theorem et_val (h : ES te W W1 (eB b)) : ET (tB te) W W1 b := fun F H σ Q s k => h F H σ _ s fun v F1 H1 a1 s1 e1 => ⟨b, e1, k F1 H1 a1 s1⟩
theorem et_not (h : ET t W W1 a) : ET (tNot t) W W1 (!a) := fun F H σ Q s k => h F H σ _ s k
theorem et_or (h : ET t W W1 a) (h2 : a = false → ET u W1 W1 b) : ET (tOr t u) W W1 (a || b) := fun F H σ Q s k => h F H σ _ s fun F1 H1 a1 s1 => by
  cases a with
  | true =>
    rw [if_pos rfl]
    exact k F1 H1 a1 s1
  | false =>
    rw [if_neg Bool.false_ne_true]
    exact h2 rfl F1 H1 σ Q s1 fun F2 H2 a2 s2 => k F2 H2 (a1.trans a2) s2
theorem es_andV (h : ES ta W W1 (eB a)) (h2 : a = true → ES tb W1 W1 (eB b)) : ES (tAndV ta tb) W W1 (eB (a && b)) := fun F H σ Q s k => h F H σ _ s fun v F1 H1 a1 s1 e1 => ⟨a, e1, by
  cases a with
  | true =>
    rw [if_pos rfl]
    exact h2 rfl F1 H1 σ Q s1 fun w F2 H2 a2 s2 e2 => k w F2 H2 (a1.trans a2) s2 e2
  | false =>
    rw [if_neg Bool.false_ne_true]
    exact k _ F1 H1 a1 s1 rfl⟩
theorem es_notV (h : ES ta W W1 (eB a)) : ES (tNotV ta) W W1 (eB (!a)) := fun F H σ Q s k => h F H σ _ s fun v F1 H1 a1 s1 e1 => ⟨a, e1, k _ F1 H1 a1 s1 rfl⟩
theorem es_if {α : Type} {e : α → R} {p q : α} (h : ET t W W1 a) (h1 : a = true → ES ta W1 W2 (e p)) (h2 : a = false → ES tb W1 W2 (e q)) : ES (tIf t ta tb) W W2 (e (if a = true then p else q)) := fun F H σ Q s k => h F H σ _ s fun F1 H1 a1 s1 => by
  cases a with
  | true =>
    rw [if_pos rfl] at k ⊢
    exact h1 rfl F1 H1 σ Q s1 fun w F2 H2 a2 s2 e2 => k w F2 H2 (a1.trans a2) s2 e2
  | false =>
    rw [if_neg Bool.false_ne_true] at k ⊢
    exact h2 rfl F1 H1 σ Q s1 fun w F2 H2 a2 s2 e2 => k w F2 H2 (a1.trans a2) s2 e2
section
variable {i j : Int}
theorem q_lt : ∀ (H : Hp) (Q : VK), Q (.bl (decide (i < j))) H → rI0 (fun i j => .bl (decide (i < j))) (.int i) (.int j) H Q := fun _ _ q => ⟨i, j, rfl, rfl, q⟩
theorem q_le : ∀ (H : Hp) (Q : VK), Q (.bl (decide (i ≤ j))) H → rI0 (fun i j => .bl (decide (i ≤ j))) (.int i) (.int j) H Q := fun _ _ q => ⟨i, j, rfl, rfl, q⟩
theorem q_gt : ∀ (H : Hp) (Q : VK), Q (.bl (decide (j < i))) H → rI0 (fun i j => .bl (decide (j < i))) (.int i) (.int j) H Q := fun _ _ q => ⟨i, j, rfl, rfl, q⟩
theorem q_eqI : ∀ (H : Hp) (Q : VK), Q (.bl (decide (i = j))) H → rEq (.int i) (.int j) H Q := fun _ _ q => ⟨rfl, by
  have e : decide (V.int i = V.int j) = decide (i = j) := by simp
  rw [e]; exact q⟩
theorem q_neI : ∀ (H : Hp) (Q : VK), Q (.bl (!decide (i = j))) H → rNe (.int i) (.int j) H Q := fun _ _ q => ⟨rfl, by
  have e : decide (V.int i = V.int j) = decide (i = j) := by simp
  rw [e]; exact q⟩
theorem q_neS {i j : Str} : ∀ (H : Hp) (Q : VK), Q (.bl (!decide (i = j))) H → rNe (.str i) (.str j) H Q := fun _ _ q => ⟨rfl, by
  have e : decide (V.str i = V.str j) = decide (i = j) := by simp
  rw [e]; exact q⟩
end
/-- a < b < c -/
theorem es_chain {g g' : R2} (ha : ES ta W W1 (eV x)) (hb : ES tb W1 W2 (eV y)) (hg : ∀ (H : Hp) (Q : VK), Q (.bl a) H → g x y H Q) (hc : a = true → ES tc W2 W2 (eV z)) (hg' : ∀ (H : Hp) (Q : VK), Q (.bl b) H → g' y z H Q) :
    ES (tChain g g' ta tb tc) W W2 (eB (a && b)) := fun F H σ Q s k =>
  ha F H σ _ s fun v F1 H1 a1 s1 e1 => hb F1 H1 σ _ s1 fun w F2 H2 a2 s2 e2 => by
    have e1' : v = x := e1
    have e2' : w = y := e2
    subst e1' e2'
    refine hg H2 _ ⟨a, rfl, ?_⟩
    cases a with
    | false =>
      rw [if_neg Bool.false_ne_true]
      exact k _ F2 H2 (a1.trans a2) s2 rfl
    | true =>
      rw [if_pos rfl]
      refine hc rfl F2 H2 σ _ s2 fun w' F3 H3 a3 s3 e3 => ?_
      have e3' : w' = z := e3
      subst e3'
      exact hg' H3 Q (k _ F3 H3 ((a1.trans a2).trans a3) s3 rfl)
theorem et_test (h : ES te W W1 (eB b)) : ET (tTest te) W W1 b := fun F H σ Q s k => h F H σ _ s fun v F1 H1 a1 s1 e1 => ⟨b, e1, k F1 H1 a1 s1⟩
/-! arguments, displays -/
theorem as_nil : AS tNil W W [] := fun F H σ Q s k => k [] F H Rel.refl s trivial
theorem as_cons {tr : TA} {rs : List R} (h : ES ta W W1 r) (hr : AS tr W1 W2 rs) : AS (tCons ta tr) W W2 (r :: rs) := fun F H σ Q s k =>
  h F H σ _ s fun v F1 H1 a1 s1 e1 => hr F1 H1 σ _ s1 fun vs F2 H2 a2 s2 e2 => k (v :: vs) F2 H2 (a1.trans a2) s2 ⟨r.mono a2.f e1, e2⟩
theorem es_tup {tr : TA} {rs : List R} (h : AS tr W W1 rs) (hl : rs.length ≤ 100000 := by exact Nat.le_of_ble_eq_true rfl) : ES (tTup tr) W W1 (eT K rs) := fun F H σ Q s k =>
  h F H σ _ s fun vs F1 H1 a1 s1 e1 => ⟨by rw [e1.len]; exact Nat.le_trans hl (by decide), fun p hp => k _ _ _ (a1.trans (Rel.lay s1.ex hp)) (s1.lay hp) ⟨p, vs, rfl, upd_same, e1.mono fun a o q => by
    rw [upd_ne (ne_of_none q (s1.ex.free hp))]; exact q⟩⟩
theorem not_own {F H : Hp} {σ : St} {p : Addr} (s : Sat F H σ W) (hp : H p = none) : ¬ Own W σ p := fun o => by
  obtain ⟨u, e⟩ := o.lt s
  rw [hp] at e; cases e
theorem en_lst {tr : TA} {rs : List R} (h : AS tr W W1 rs) (hl : rs.length ≤ 100000 := by exact Nat.le_of_ble_eq_true rfl) : ESN (tLst tr) W W1 (oL rs) := fun F H σ Q s k =>
  h F H σ _ s fun vs F1 H1 a1 s1 e1 => ⟨by rw [e1.len]; exact Nat.le_trans hl (by decide), fun p hp =>
    have e : Same H1 (upd H1 p (.lst vs)) := fun a o q => by rw [upd_ne (ne_of_none q hp)]; exact q
    k p (.lst vs) F1 _ (a1.trans (Rel.grow e)) (s1.grow e) (a1.t p hp) upd_same (s1.ex.free hp) (not_own s1 hp) ⟨nofun, vs, rfl, e1⟩⟩
/-- a new list, frozen -/
def eL (rs : List R) : R := ⟨fun F v => ∃ p xs, v = .ref p ∧ F p = some (.lst xs) ∧ All2 rs F xs, fun e ⟨p, xs, h1, h2, h3⟩ => ⟨p, xs, h1, e _ _ h2, h3.mono e⟩⟩
def eLs {α : Type} (e : α → R) (l : List α) : R := eL (l.map e)
/-- what is new may be frozen -/
theorem Sat.freeze {F H : Hp} {σ : St} {p : Addr} {o : HO} (s : Sat F H σ W) (hp : H p = some o) (fp : F p = none) (np : ¬ Own W σ p) : Sat (upd F p o) H σ W := by
  have e : Same F (upd F p o) := fun a u h => by rw [upd_ne (ne_of_none h fp)]; exact h
  refine ⟨fun a u h => ?_, s.len, fun i r h => ?_, fun i c h => ?_, s.ds, Gh.mk' (σ2 := σ) s e (fun _ _ => rfl) fun a w => by
    rw [upd_ne (fun z => by rw [z] at w; exact np w)]; exact w.fr s⟩
  · by_cases q : a = p
    · subst q; rw [upd_same] at h; cases h; exact hp
    · rw [upd_ne q] at h; exact s.ex a u h
  · obtain ⟨v, h1, h2⟩ := s.fz i r h
    exact ⟨v, h1, r.mono e h2⟩
  · obtain ⟨q, u, h1, h2, h3, h4⟩ := s.ow i c h
    have ne : q ≠ p := fun z => by subst z; exact np ⟨i, c, .inl ⟨h, h1⟩⟩
    exact ⟨q, u, h1, h2, by rw [upd_ne ne]; exact h3, c.mono e h4⟩
theorem Rel.freeze {F H F' H' : Hp} {M M' : Addr → Prop} {p : Addr} {o : HO} (a : Rel F H M F' H' M') (h0 : H p = none ∨ M p) (fp : F' p = none) : Rel F H M (upd F' p o) H' M' where
  f := fun x u h => by
    have q := a.f x u h
    rw [upd_ne (ne_of_none q fp)]; exact q
  h := a.h
  n := fun x u h => by
    by_cases e : x = p
    · subst e; exact .inr (h0.imp id .inl)
    · rw [upd_ne e] at h; exact a.n x u h
  t := a.t
  o := a.o
theorem es_fr {rs : List R} (h : ESN te W W1 (oL rs)) : ES te W W1 (eL rs) := fun F H σ Q s k =>
  h F H σ _ s fun p o F1 H1 a1 s1 hp ho fp np ⟨_, xs, e, c⟩ => by
    subst e
    exact k _ _ H1 (a1.freeze (.inl hp) fp) (s1.freeze ho fp np) ⟨p, xs, rfl, upd_same, c.mono fun a o q => by rw [upd_ne (ne_of_none q fp)]; exact q⟩
end
end Fw
end
section
set_option maxRecDepth 100000
namespace Fw
open PySem L2
abbrev Nob : Addr → Prop := fun _ => False
/-- the promise of a def that changes nothing: what comes in, when it holds, what comes out -/
def spF {ι : Type} (as : ι → List R) (ok : ι → Prop) (res : ι → R) : Sp := fun vs H Q _ => ∃ (d : ι) (F : Hp), ok d ∧ Same F H ∧ All2 (as d) F vs ∧
  ∀ v F' H', Rel F H Nob F' H' Nob → Same F' H' → (res d).p F' v → Q v H'
/-- .. that changes its first argument alone -/
def spB {ι : Type} (c : ι → List R) (as : ι → List R) (ok : ι → Prop) (c' : ι → List R) (res : ι → R) : Sp := fun vs H Q _ => ∃ (d : ι) (F : Hp) (p : Addr) (o : List V) (ws : List V), vs = .ref p :: ws ∧ ok d ∧ Same F H ∧
  H p = some (.lst o) ∧ F p = none ∧ All2 (c d) F o ∧ All2 (as d) F ws ∧
  ∀ v F' H' o', Rel F H (fun a => a = p) F' H' (fun a => a = p) → Same F' H' → H' p = some (.lst o') → F' p = none → All2 (c' d) F' o' → (res d).p F' v → Q v H'
section
variable {W W' W1 W2 W3 : List Sl} {K : PySem.W.Frag} {ta tb tc te to : TE} {t u : TT} {r ra rb : R} {x y z v : V} {a b : Bool} {ι : Type} {F H F' H' : Hp} {σ : St} {E : XK}
theorem Sat.pure (s : Sat F H σ W) (q : Rel F H Nob F' H' Nob) (e : Same F' H') : Sat F' H' σ W := by
  refine ⟨e, s.len, fun i r h => ?_, fun i c h => ?_, s.ds, Gh.rel s q e fun _ _ _ _ z => z⟩
  · obtain ⟨v, h1, h2⟩ := s.fz i r h
    exact ⟨v, h1, r.mono q.f h2⟩
  · obtain ⟨p, o, h1, h2, h3, h4⟩ := s.ow i c h
    refine ⟨p, o, h1, q.h p o (fun z => z) h2, ?_, c.mono q.f h4⟩
    exact q.nof e h3 h2 (fun z => z) (c.nt h4)
theorem Rel.pure {M : Addr → Prop} (q : Rel F H Nob F' H' Nob) : Rel F H M F' H' M :=
  ⟨q.f, fun a o _ h => q.h a o (fun z => z) h, fun a o h => (q.n a o h).imp id (Or.imp id (Or.imp False.elim id)), q.t, fun _ m => .inl m⟩
theorem es_call {as : ι → List R} {ok : ι → Prop} {res : ι → R} {tr : TA} (d : ι) (h : AS tr W W1 (as d)) (g : ok d) : ES (tCall (spF as ok res) [] E tr) W W1 (res d) := fun F H σ Q s k =>
  h F H σ _ s fun vs F1 H1 a1 s1 e1 => by
    rw [List.append_nil]
    exact ⟨d, F1, g, s1.ex, e1, fun v F2 H2 q e2 hv => k v F2 H2 (a1.trans q.pure) (s1.pure q e2) hv⟩
theorem es_callB {c c' : ι → List R} {c0 : OC} {q : Option Addr} {as : ι → List R} {ok : ι → Prop} {res : ι → R} {tr : TA} (d : ι) (i : Nat) (h0 : W[i]? = some (.ow c0)) (h : AS tr W W1 (as d)) (h1 : W1[i]? = some (.ow (oLq q (c d)))) (g : ok d) :
    ES (tCall (spB c as ok c' res) [] E (tCons (tVar i) tr)) W (W1.set i (.ow (oLq q (c' d)))) (res d) := fun F H σ Q s k => by
  obtain ⟨p, o0, e0, _⟩ := s.ow i c0 h0
  refine ⟨.ref p, e0, h F H σ _ s fun vs F1 H1 a1 s1 e1 => ?_⟩
  show spB c as ok c' res ((V.ref p :: vs) ++ []) H1 Q E
  rw [List.append_nil]
  obtain ⟨p', _, e2, g1, g2, gq, o, rfl, g3⟩ := s1.ow i _ h1
  rw [e0] at e2; cases e2
  refine ⟨d, F1, p, o, vs, rfl, g, s1.ex, g1, g2, g3, e1, fun v F2 H2 o2 q' ex hp fp hc hv => ?_⟩
  have mv : ∀ a, a ≠ p → Own W1 σ a → F2 a = none := fun a ne ow => ow.nof s1 q' ex ne
  have own1 : Own W1 σ p := ⟨i, _, .inl ⟨h1, e0⟩⟩
  refine k v F2 H2 (a1.trans ⟨q'.f, fun a o n hh => q'.h a o (fun z => n (z ▸ own1)) hh, fun a o hh => ?_, q'.t, fun a m => .inl ((Own.mut h1).mp m)⟩) ?_ hv
  · rcases q'.n a o hh with y | y | y | y
    · exact .inl y
    · exact .inr (.inl y)
    · exact .inr (.inr (.inl (y ▸ own1)))
    · exact .inr (.inr (.inr y))
  · have hi : i < W1.length := (List.getElem?_eq_some_iff.mp h1).1
    refine ⟨ex, fun j => (s1.len j).trans (len_mut (y := .ow (oLq q (c' d))) h1 rfl j).symm, fun j r hj => ?_, fun j cj hj => ?_, fun j l cj cl a w1 w2 => ?_, (Gh.rel s1 q' ex fun j a e hg z => s1.gh.ow i j a _ e h1 hg (by rw [z]; exact e0)).set h1⟩
    · by_cases ej : i = j
      · subst ej; rw [List.getElem?_set_self hi] at hj; cases hj
      · rw [List.getElem?_set_ne ej] at hj
        obtain ⟨w, y1, y2⟩ := s1.fz j r hj
        exact ⟨w, y1, r.mono q'.f y2⟩
    · by_cases ej : i = j
      · subst ej; rw [List.getElem?_set_self hi] at hj; cases hj
        exact ⟨p, .lst o2, e0, hp, fp, gq, o2, rfl, hc⟩
      · rw [List.getElem?_set_ne ej] at hj
        obtain ⟨pj, oj, z1, z2, z3, z4⟩ := s1.ow j cj hj
        have ne : pj ≠ p := fun z => by subst z; exact ej (s1.ds i j _ _ _ h1 hj e0 z1)
        exact ⟨pj, oj, z1, q'.h pj oj ne z2, mv pj ne ⟨j, cj, .inl ⟨hj, z1⟩⟩, cj.mono q'.f z4⟩
    · have old : ∀ (j : Nat) (e : OC), (W1.set i (.ow (oLq q (c' d))))[j]? = some (.ow e) → ∃ e', W1[j]? = some (.ow e') := fun j e h => by
        by_cases z : i = j
        · subst z; exact ⟨_, h1⟩
        · rw [List.getElem?_set_ne z] at h; exact ⟨e, h⟩
      obtain ⟨b1, y1⟩ := old j cj w1
      obtain ⟨b2, y2⟩ := old l cl w2
      exact s1.ds j l b1 b2 a y1 y2
/-! subscripts -/
theorem sqT_up {a : Addr} {xs : List V} (e : Same F F') (h : F a = some (.tup xs)) : SqT K F' a xs := .inl (.inl (e _ _ h))
theorem atI_k {α : Type} {xs : List α} {k : Nat} {x : α} (h : xs[k]? = some x) : atI xs (k : Int) = some x := by
  have hk : k < xs.length := (List.getElem?_eq_some_iff.mp h).1
  unfold atI ixN
  rw [if_pos (Int.natCast_nonneg k), if_pos (by omega)]
  simpa using h
theorem es_ixT {rs : List R} {k : Nat} (h : ES ta W W1 (eT K rs)) (hk : rs[k]? = some r) : ES (tOp (rIxT K) ta (tC (.int (k : Int)))) W W1 r := fun F H σ Q s q =>
  h F H σ _ s fun v F1 H1 a1 s1 ⟨p, xs, e1, e2, e3⟩ => by
    subst e1
    obtain ⟨x, g1, g2⟩ := e3.get' hk
    exact ⟨p, xs, (k : Int), x, rfl, rfl, sqT_up s1.ex e2, atI_k g1, q x F1 H1 a1 s1 g2⟩
end
end Fw
end
section
set_option maxRecDepth 100000
namespace Fw
open PySem L2
section
variable {W W' W0 W1 W2 W3 : List Sl} {K : PySem.W.Frag} {ta tb tc te to : TE} {tc' : TT} {r ra rb : R} {x y z v : V} {a b : Bool} {ι : Type} {F H F' H' : Hp} {σ : St} {E : XK} {P P1 : Post} {tt uu : TS}
/-! statements -/
theorem ss_nx (h : P.nx W) : SS tNext W P := fun F H σ D s kn _ _ _ => kn W σ F H h Rel.refl s
/-- one statement, then the rest -/
theorem ss_seq (N : List Sl → Prop) (h : SS tt W ⟨N, P.rt, P.bk, P.ct⟩) (k : ∀ W', N W' → SS uu W' P) : SS (tSeq tt uu) W P := fun F H σ D s kn kr kb kc =>
  h F H σ { D with nx := uu D } s
    (fun W1 σ1 F1 H1 n a1 s1 => k W1 n F1 H1 σ1 D s1 (fun W2 σ2 F2 H2 n2 a2 s2 => kn W2 σ2 F2 H2 n2 (a1.trans a2) s2) (fun W2 σ2 r v F2 H2 n2 a2 s2 => kr W2 σ2 r v F2 H2 n2 (a1.trans a2) s2)
      (fun W2 σ2 F2 H2 n2 a2 s2 => kb W2 σ2 F2 H2 n2 (a1.trans a2) s2) fun W2 σ2 F2 H2 n2 a2 s2 => kc W2 σ2 F2 H2 n2 (a1.trans a2) s2)
    kr kb kc
/-- .. what is forgotten between -/
theorem ss_seqTo (W1 : List Sl) (h : SS tt W ⟨fun W' => Wk W' W1, P.rt, P.bk, P.ct⟩) (k : SS uu W1 P) : SS (tSeq tt uu) W P := fun F H σ D s kn kr kb kc =>
  h F H σ { D with nx := uu D } s
    (fun W' σ1 F1 H1 n a1 s1 => k F1 H1 σ1 D (s1.weak n) (fun W2 σ2 F2 H2 n2 a2 s2 => kn W2 σ2 F2 H2 n2 ((a1.sub fun _ o => n.sub o).trans a2) s2) (fun W2 σ2 r v F2 H2 n2 a2 s2 => kr W2 σ2 r v F2 H2 n2 ((a1.sub fun _ o => n.sub o).trans a2) s2)
      (fun W2 σ2 F2 H2 n2 a2 s2 => kb W2 σ2 F2 H2 n2 ((a1.sub fun _ o => n.sub o).trans a2) s2) fun W2 σ2 F2 H2 n2 a2 s2 => kc W2 σ2 F2 H2 n2 ((a1.sub fun _ o => n.sub o).trans a2) s2)
    kr kb kc
theorem SS.weak (h : SS tt W1 P) (k : Wk W W1) : SS tt W P := fun F H σ D s kn kr kb kc =>
  h F H σ D (s.weak k) (fun W2 σ2 F2 H2 n2 a2 s2 => kn W2 σ2 F2 H2 n2 ((Rel.refl.sub fun _ o => k.sub o).trans a2) s2) (fun W2 σ2 r v F2 H2 n2 a2 s2 => kr W2 σ2 r v F2 H2 n2 ((Rel.refl.sub fun _ o => k.sub o).trans a2) s2)
    (fun W2 σ2 F2 H2 n2 a2 s2 => kb W2 σ2 F2 H2 n2 ((Rel.refl.sub fun _ o => k.sub o).trans a2) s2) fun W2 σ2 F2 H2 n2 a2 s2 => kc W2 σ2 F2 H2 n2 ((Rel.refl.sub fun _ o => k.sub o).trans a2) s2
theorem SS.imp {P' : Post} (h : SS tt W P) (n : ∀ W', P.nx W' → P'.nx W') (q : ∀ W' r, P.rt W' r → P'.rt W' r) (bk : ∀ W', P.bk W' → P'.bk W') (ct : ∀ W', P.ct W' → P'.ct W') : SS tt W P' := fun F H σ D s kn kr kb kc =>
  h F H σ D s (fun W' σ' F' H' z => kn W' σ' F' H' (n _ z)) (fun W' σ' r v F' H' z => kr W' σ' r v F' H' (q _ _ z)) (fun W' σ' F' H' z => kb W' σ' F' H' (bk _ z)) fun W' σ' F' H' z => kc W' σ' F' H' (ct _ z)
/-- x = e -/
theorem ss_set {i : Nat} (h : ES te W W1 r) (k : P.nx (W1.set i (.fz r))) (hn : ghAt W1 i = false := by rfl) : SS (tAsg te (gName i)) W P := fun F H σ D s kn _ _ _ =>
  h F H σ _ s fun v F1 H1 a1 s1 e1 => kn _ _ F1 H1 k (a1.sub fun _ o => o.put) (s1.put e1 hn)
/-- x = e, e new: x owns it -/
theorem ss_own {i : Nat} {c : OC} (h : ESN te W W1 c) (k : P.nx (W1.set i (.ow c))) (hn : ghAt W1 i = false := by rfl) : SS (tAsg te (gName i)) W P := fun F H σ D s kn _ _ _ =>
  h F H σ _ s fun p o F1 H1 a1 s1 hp ho fp np hc => kn _ _ F1 H1 k
    ⟨a1.f, a1.h, a1.n, a1.t, fun a m => (Own.own m).elim (a1.o a) fun z => .inr (z ▸ hp)⟩ (s1.own ho fp np hc hn)
theorem ss_ret (h : ES te W W1 r) (k : P.rt W1 r) : SS (tRet te) W P := fun F H σ D s _ kr _ _ =>
  h F H σ _ s fun v F1 H1 a1 s1 e1 => kr W1 σ r v F1 H1 k a1 s1 e1
theorem ss_drop (h : ES te W W1 r) (k : P.nx W1) : SS (tDrop te) W P := fun F H σ D s kn _ _ _ =>
  h F H σ _ s fun v F1 H1 a1 s1 e1 => kn W1 σ F1 H1 k a1 s1
theorem ss_if (h : ET tc' W W1 a) (h1 : a = true → SS tt W1 P) (h2 : a = false → SS uu W1 P) : SS (tIfS tc' tt uu) W P := fun F H σ D s kn kr kb kc =>
  h F H σ _ s fun F1 H1 a1 s1 => by
    cases a with
    | true =>
      rw [if_pos rfl]
      exact h1 rfl F1 H1 σ D s1 (fun W2 σ2 F2 H2 n2 a2 s2 => kn W2 σ2 F2 H2 n2 (a1.trans a2) s2) (fun W2 σ2 r v F2 H2 n2 a2 s2 => kr W2 σ2 r v F2 H2 n2 (a1.trans a2) s2)
        (fun W2 σ2 F2 H2 n2 a2 s2 => kb W2 σ2 F2 H2 n2 (a1.trans a2) s2) fun W2 σ2 F2 H2 n2 a2 s2 => kc W2 σ2 F2 H2 n2 (a1.trans a2) s2
    | false =>
      rw [if_neg Bool.false_ne_true]
      exact h2 rfl F1 H1 σ D s1 (fun W2 σ2 F2 H2 n2 a2 s2 => kn W2 σ2 F2 H2 n2 (a1.trans a2) s2) (fun W2 σ2 r v F2 H2 n2 a2 s2 => kr W2 σ2 r v F2 H2 n2 (a1.trans a2) s2)
        (fun W2 σ2 F2 H2 n2 a2 s2 => kb W2 σ2 F2 H2 n2 (a1.trans a2) s2) fun W2 σ2 F2 H2 n2 a2 s2 => kc W2 σ2 F2 H2 n2 (a1.trans a2) s2
/-- targets: from a frozen value, the slots behind; is: the slots that are stored -/
def GS (g : TG) (r : R) (W W' : List Sl) (is : List Nat) : Prop := ∀ (F H : Hp) (σ : St) (v : V) (Q : St → Hp → Prop), Sat F H σ W → r.p F v →
  (∀ σ', (∀ a, Own W' σ' a → Own W σ a) → Sat F H σ' W' → (σ'.length = σ.length ∧ ∀ j, j ∉ is → σ'[j]? = σ[j]?) → Q σ' H) → g v σ H Q
theorem gs_name (i : Nat) (hn : ghAt W i = false := by rfl) : GS (gName i) r W (W.set i (.fz r)) [i] := fun F H σ v Q s hv k => k _ (fun _ o => o.put) (s.put hv hn) ⟨by simp, fun j hj => by
  rw [List.getElem?_set_ne (by simpa [eq_comm] using hj)]⟩
/-- several targets -/
def GSs (g : TGs) (rs : List R) (W W' : List Sl) (is : List Nat) : Prop := ∀ (F H : Hp) (σ : St) (vs : List V) (Q : St → Hp → Prop), Sat F H σ W → All2 rs F vs →
  (∀ σ', (∀ a, Own W' σ' a → Own W σ a) → Sat F H σ' W' → (σ'.length = σ.length ∧ ∀ j, j ∉ is → σ'[j]? = σ[j]?) → Q σ' H) → g vs σ H Q
theorem gs_nil : GSs gNil [] W W [] := fun F H σ vs Q s hv k => by
  cases vs with
  | nil => exact ⟨rfl, k σ (fun _ o => o) s ⟨rfl, fun _ _ => rfl⟩⟩
  | cons v vs => exact hv.elim
theorem gs_cons {g : TG} {gs : TGs} {rs : List R} {is js : List Nat} (h1 : GS g r W W1 is) (h2 : GSs gs rs W1 W2 js) : GSs (gCons g gs) (r :: rs) W W2 (is ++ js) := fun F H σ vs Q s hv k => by
  cases vs with
  | nil => exact hv.elim
  | cons v vs => exact ⟨v, vs, rfl, h1 F H σ v _ s hv.1 fun σ1 o1 s1 d1 => h2 F H σ1 vs Q s1 hv.2 fun σ2 o2 s2 d2 => k σ2 (fun a o => o1 a (o2 a o)) s2 ⟨d2.1.trans d1.1, fun j hj => by
      rw [d2.2 j (fun z => hj (List.mem_append_right _ z)), d1.2 j (fun z => hj (List.mem_append_left _ z))]⟩⟩
theorem gs_tup {gs : TGs} {rs : List R} {n : Nat} {is : List Nat} (h : GSs gs rs W W1 is) (hn : rs.length = n := by rfl) : GS (gTup K n gs) (eT K rs) W W1 is := fun F H σ v Q s ⟨p, xs, e1, e2, e3⟩ k =>
  ⟨p, xs, e1, sqT_up s.ex e2, e3.len.trans hn, h F H σ xs Q s e3 k⟩
theorem ss_asg {g : TG} {is : List Nat} (h : ES te W W1 r) (hg : GS g r W1 W2 is) (k : P.nx W2) : SS (tAsg te g) W P := fun F H σ D s kn _ _ _ =>
  h F H σ _ s fun v F1 H1 a1 s1 e1 => hg F1 H1 σ v _ s1 e1 fun σ2 o2 s2 _ => kn W2 σ2 F1 H1 k (a1.sub o2) s2
/-- x += e, x -= e -/
theorem ss_aug {i : Nat} {f : Int → Int → Int} {m n : Int} (h0 : W[i]? = some (.fz (eI m))) (h : ES te W W1 (eI n)) (k : P.nx (W1.set i (.fz (eI (f m n))))) (hn : ghAt W1 i = false := by rfl) : SS (tAug i te (ipI f)) W P := fun F H σ D s kn _ _ _ => by
  obtain ⟨v, e, hv⟩ := s.fz i _ h0
  have hv' : v = V.int m := hv
  subst hv'
  refine ⟨_, e, h F H σ _ s fun w F1 H1 a1 s1 e1 => ?_⟩
  have e1' : w = V.int n := e1
  subst e1'
  exact ⟨m, n, rfl, rfl, kn _ _ F1 H1 k (a1.sub fun _ o => o.put) (s1.put rfl hn)⟩
/-- xs.append(e) as a statement, xs owned -/
theorem ss_append {i : Nat} {rs0 rs : List R} {q0 q1 : Option Addr} (h0 : W[i]? = some (.ow (oLq q0 rs0))) (h : ES te W W1 r) (h1 : W1[i]? = some (.ow (oLq q1 rs))) (hl : rs.length < 16000000) (k : P.nx (W1.set i (.ow (oLq q1 (rs ++ [r]))))) :
    SS (tDrop (tBM K "list" rAppend (tVar i) (tCons te tNil))) W P := fun F H σ D s kn _ _ _ => by
  obtain ⟨p, o, e0, g1, _, ⟨_, xs, rfl, _⟩⟩ := s.ow i _ h0
  refine ⟨.ref p, e0, .inl ⟨rfl, xs, .inl (.inl g1)⟩, h F H σ _ s fun v F1 H1 a1 s1 e1 => ?_⟩
  obtain ⟨p', o', e0', y1, y2, ⟨yq, ys, rfl, y3⟩⟩ := s1.ow i _ h1
  rw [e0] at e0'; cases e0'
  refine ⟨p, ys, v, rfl, rfl, y1, Nat.lt_of_lt_of_le (by rw [y3.len]; exact hl) (by decide), kn _ _ _ _ k (a1.trans ⟨fun _ _ z => z, fun a u n z => ?_, fun _ _ z => .inl z, fun a z => ?_, fun a m => .inl ((Own.mut h1).mp m)⟩) (s1.mut h1 e0 ⟨yq, _, rfl, y3.app ⟨e1, trivial⟩⟩)⟩
  · rw [upd_ne (fun q : a = p => n (by rw [q]; exact ⟨i, _, .inl ⟨h1, e0⟩⟩))]; exact z
  · by_cases q : a = p
    · subst q; rw [upd_same] at z; cases z
    · rw [upd_ne q] at z; exact z
/-! loops -/
end
end Fw
end
section
set_option maxRecDepth 100000
namespace Fw
open PySem L2
/-! folds: how a loop's data goes -/
def okF {α β : Type} (ok : β → α → Prop) (b : β → α → β) : β → List α → Prop
  | _, [] => True
  | s, x :: xs => ok s x ∧ okF ok b (b s x) xs
theorem okF_at {α β : Type} {ok : β → α → Prop} {b : β → α → β} : ∀ {l : List α} {s : β} {i : Nat} {x : α}, okF ok b s l → l[i]? = some x → ok ((l.take i).foldl b s) x
  | y :: ys, s, 0, x, h, e => by simp at e; subst e; exact h.1
  | y :: ys, s, i + 1, x, h, e => okF_at (l := ys) (s := b s y) (i := i) h.2 (by simpa using e)
  | [], _, _, _, _, e => by simp at e
theorem foldl_take {α β : Type} {b : β → α → β} : ∀ {l : List α} {s : β} {i : Nat} {x : α}, l[i]? = some x → (l.take (i + 1)).foldl b s = b ((l.take i).foldl b s) x
  | y :: ys, s, 0, x, e => by simp at e; subst e; simp
  | y :: ys, s, i + 1, x, e => foldl_take (l := ys) (s := b s y) (i := i) (by simpa using e)
  | [], _, _, _, e => by simp at e
@[irreducible] def rng (lo hi : Int) : List Int := (List.range (hi - lo).toNat).map fun k : Nat => lo + (k : Int)
theorem rng_at {lo hi : Int} {i : Nat} (h : i < (hi - lo).toNat) : (rng lo hi)[i]? = some (lo + (i : Int)) := by
  unfold rng
  rw [List.getElem?_map, List.getElem?_range h]; rfl
theorem rng_len {lo hi : Int} : (rng lo hi).length = (hi - lo).toNat := by unfold rng; simp
end Fw
end
section
set_option maxRecDepth 100000
namespace Fw
open PySem L2
/-! comprehensions -/
theorem wipe_in {σ : St} {i : Nat} : ∀ {vs : List Nat}, i ∈ vs → (wipe σ vs)[i]? = if i < σ.length then some none else none
  | v :: vs, h => by
    show ((wipe σ vs).set v none)[i]? = _
    have el : (wipe σ vs).length = σ.length := wipe_length σ vs
    by_cases e : v = i
    · subst e
      by_cases hl : v < σ.length
      · rw [List.getElem?_set_self (by rw [el]; exact hl), if_pos hl]
      · rw [List.getElem?_eq_none (by rw [List.length_set, el]; omega), if_neg hl]
    · rw [List.getElem?_set_ne e]
      exact wipe_in ((List.mem_cons.mp h).resolve_left fun z => e z.symm)
theorem wipe_out' {σ : St} {i : Nat} : ∀ {vs : List Nat}, i ∉ vs → (wipe σ vs)[i]? = σ[i]?
  | [], _ => rfl
  | v :: vs, h => by
    show ((wipe σ vs).set v none)[i]? = _
    rw [List.getElem?_set_ne (fun e => h (by rw [e]; exact List.mem_cons_self)), wipe_out' fun z => h (List.mem_cons_of_mem _ z)]
theorem wipe_eq {σ σ' : St} {vs is : List Nat} (hl : σ'.length = σ.length) (h : ∀ j, j ∉ is → σ'[j]? = (wipe σ vs)[j]?) (hs : ∀ j ∈ is, j ∈ vs) : wipe σ' vs = wipe σ vs := by
  refine List.ext_getElem? fun j => ?_
  by_cases hj : j ∈ vs
  · rw [wipe_in hj, wipe_in hj, hl]
  · rw [wipe_out' hj]
    exact h j fun z => hj (hs j z)
def wipeW : List Sl → List Nat → List Sl
  | W, [] => W
  | W, v :: vs => (wipeW W vs).set v .no
section
variable {W W' W0 W1 W2 W3 : List Sl} {K : PySem.W.Frag} {ta tb tc te to tl : TE} {tc' tt : TT} {r ra rb : R} {x y z v : V} {a b : Bool} {ι : Type} {F H F' H' : Hp} {σ : St} {E : XK} {P P1 : Post} {ts uu : TS} {g : TG}
variable {α β : Type}
theorem ghAt_wipe {w : Nat} (h : ghAt W w = false) : ∀ vs : List Nat, ghAt (wipeW W vs) w = false
  | [] => h
  | v :: vs => ghAt_set (ghAt_wipe h vs) rfl
theorem Sat.wipe (s : Sat F H σ W) : ∀ vs : List Nat, ghV W vs = true → Sat F H (L2.wipe σ vs) (wipeW W vs) ∧ ∀ a, Own (wipeW W vs) (L2.wipe σ vs) a → Own W σ a
  | [], _ => ⟨s, fun _ o => o⟩
  | w :: vs, hv => by
    unfold ghV at hv
    rw [List.all_cons, Bool.and_eq_true] at hv
    have hw : ghAt W w = false := by simpa using hv.1
    obtain ⟨s1, o1⟩ := Sat.wipe s vs hv.2
    have key : ∀ (i : Nat) (c : OC), ((wipeW W vs).set w .no)[i]? = some (.ow c) → w ≠ i ∧ (wipeW W vs)[i]? = some (.ow c) := fun i c h => by
      by_cases e : w = i
      · subst e
        have hi : w < (wipeW W vs).length := by
          have := (List.getElem?_eq_some_iff.mp h).1
          simpa using this
        rw [List.getElem?_set_self hi] at h; cases h
      · rw [List.getElem?_set_ne e] at h; exact ⟨e, h⟩
    have keyf : ∀ (i : Nat) (c : R), ((wipeW W vs).set w .no)[i]? = some (.fz c) → w ≠ i ∧ (wipeW W vs)[i]? = some (.fz c) := fun i c h => by
      by_cases e : w = i
      · subst e
        have hi : w < (wipeW W vs).length := by
          have := (List.getElem?_eq_some_iff.mp h).1
          simpa using this
        rw [List.getElem?_set_self hi] at h; cases h
      · rw [List.getElem?_set_ne e] at h; exact ⟨e, h⟩
    refine ⟨⟨s1.ex, len_set s1.len (ghAt_wipe hw vs) rfl, fun i c h => ?_, fun i c h => ?_, fun i j c d p h1 h2 h3 h4 => ?_, fun i a c h => s1.gh.at' i a c (gh_set rfl h).2, fun i j a c d h1 h2 h3 => ?_, fun i j a c d h1 h2 => s1.gh.un i j a c d (gh_set rfl h1).2 (gh_set rfl h2).2⟩, fun p ⟨i, c, ho⟩ => ?_⟩
    · obtain ⟨ne, q⟩ := keyf i c h
      obtain ⟨u, y1, y2⟩ := s1.fz i c q
      exact ⟨u, by show ((L2.wipe σ vs).set w none)[i]? = _; rw [List.getElem?_set_ne ne]; exact y1, y2⟩
    · obtain ⟨ne, q⟩ := key i c h
      obtain ⟨p, o, y1, y2⟩ := s1.ow i c q
      exact ⟨p, o, by show ((L2.wipe σ vs).set w none)[i]? = _; rw [List.getElem?_set_ne ne]; exact y1, y2⟩
    · obtain ⟨ne, q⟩ := key i c h1
      obtain ⟨ne', q'⟩ := key j d h2
      have h3' : ((L2.wipe σ vs).set w none)[i]? = some (some (.ref p)) := h3
      have h4' : ((L2.wipe σ vs).set w none)[j]? = some (some (.ref p)) := h4
      rw [List.getElem?_set_ne ne] at h3'
      rw [List.getElem?_set_ne ne'] at h4'
      exact s1.ds i j c d p q q' h3' h4'
    · obtain ⟨ne, q⟩ := key i c h1
      have h3' : ((L2.wipe σ vs).set w none)[i]? = some (some (.ref a)) := h3
      rw [List.getElem?_set_ne ne] at h3'
      exact s1.gh.ow i j a c d q (gh_set rfl h2).2 h3'
    · rcases ho with ⟨h1, h2⟩ | h1
      · obtain ⟨ne, q⟩ := key i c h1
        have h2' : ((L2.wipe σ vs).set w none)[i]? = some (some (.ref p)) := h2
        rw [List.getElem?_set_ne ne] at h2'
        exact o1 p ⟨i, c, .inl ⟨q, h2'⟩⟩
      · exact o1 p ⟨i, c, .inr (gh_set rfl h1).2⟩
/-- the frozen slots alone -/
def frW : List Sl → List Sl
  | [] => []
  | .ow _ :: W => .no :: frW W
  | .fz r :: W => .fz r :: frW W
  | .no :: W => .no :: frW W
  | .gh _ _ :: W => .gx :: frW W
  | .gx :: W => .gx :: frW W
theorem frW_at : ∀ {W : List Sl} {i : Nat} {r : R}, (frW W)[i]? = some (.fz r) → W[i]? = some (.fz r)
  | .ow _ :: W, 0, s, h => by cases h
  | .fz _ :: W, 0, s, h => h
  | .no :: W, 0, s, h => by cases h
  | .gh _ _ :: W, 0, s, h => by cases h
  | .gx :: W, 0, s, h => by cases h
  | .ow _ :: W, i + 1, s, h => frW_at (W := W) (i := i) h
  | .fz _ :: W, i + 1, s, h => frW_at (W := W) (i := i) h
  | .no :: W, i + 1, s, h => frW_at (W := W) (i := i) h
  | .gh _ _ :: W, i + 1, s, h => frW_at (W := W) (i := i) h
  | .gx :: W, i + 1, s, h => frW_at (W := W) (i := i) h
theorem frW_rl : ∀ (W : List Sl) (i : Nat), (∃ s, (frW W)[i]? = some s ∧ s.real = true) ↔ ∃ s, W[i]? = some s ∧ s.real = true
  | [], _ => Iff.rfl
  | .ow _ :: W, 0 => ⟨fun _ => ⟨_, rfl, rfl⟩, fun _ => ⟨_, rfl, rfl⟩⟩
  | .fz _ :: W, 0 => ⟨fun _ => ⟨_, rfl, rfl⟩, fun _ => ⟨_, rfl, rfl⟩⟩
  | .no :: W, 0 => ⟨fun _ => ⟨_, rfl, rfl⟩, fun _ => ⟨_, rfl, rfl⟩⟩
  | .gh _ _ :: W, 0 => ⟨fun ⟨s, h, r⟩ => (by cases h; cases r), fun ⟨s, h, r⟩ => (by cases h; cases r)⟩
  | .gx :: W, 0 => Iff.rfl
  | .ow _ :: W, i + 1 => frW_rl W i
  | .fz _ :: W, i + 1 => frW_rl W i
  | .no :: W, i + 1 => frW_rl W i
  | .gh _ _ :: W, i + 1 => frW_rl W i
  | .gx :: W, i + 1 => frW_rl W i
theorem frW_no : ∀ {W : List Sl} {i : Nat} {c : OC}, ¬ (frW W)[i]? = some (.ow c)
  | .ow _ :: W, 0, s, h => by cases h
  | .fz _ :: W, 0, s, h => by cases h
  | .no :: W, 0, s, h => by cases h
  | .gh _ _ :: W, 0, s, h => by cases h
  | .gx :: W, 0, s, h => by cases h
  | .ow _ :: W, i + 1, s, h => frW_no (W := W) (i := i) h
  | .fz _ :: W, i + 1, s, h => frW_no (W := W) (i := i) h
  | .no :: W, i + 1, s, h => frW_no (W := W) (i := i) h
  | .gh _ _ :: W, i + 1, s, h => frW_no (W := W) (i := i) h
  | .gx :: W, i + 1, s, h => frW_no (W := W) (i := i) h
theorem frW_ng : ∀ {W : List Sl} {i : Nat} {q : Addr} {c : OC}, ¬ (frW W)[i]? = some (.gh q c)
  | .ow _ :: W, 0, _, s, h => by cases h
  | .fz _ :: W, 0, _, s, h => by cases h
  | .no :: W, 0, _, s, h => by cases h
  | .gh _ _ :: W, 0, _, s, h => by cases h
  | .gx :: W, 0, _, s, h => by cases h
  | .ow _ :: W, i + 1, _, s, h => frW_ng (W := W) (i := i) h
  | .fz _ :: W, i + 1, _, s, h => frW_ng (W := W) (i := i) h
  | .no :: W, i + 1, _, s, h => frW_ng (W := W) (i := i) h
  | .gh _ _ :: W, i + 1, _, s, h => frW_ng (W := W) (i := i) h
  | .gx :: W, i + 1, _, s, h => frW_ng (W := W) (i := i) h
theorem own_fr {p : Addr} (o : Own (frW W) σ p) : False := by
  obtain ⟨i, c, ⟨h, _⟩ | h⟩ := o
  · exact frW_no h
  · exact frW_ng h
theorem Sat.fr (s : Sat F H σ W) : Sat F H σ (frW W) := by
  refine ⟨s.ex, fun i => (s.len i).trans (frW_rl W i).symm, fun i r h => s.fz i r (frW_at h), fun i c h => (frW_no h).elim, fun i j c d p h => (frW_no h).elim, fun i q c h => (frW_ng h).elim, fun i j q c d h => (frW_no h).elim, fun i j q c d h => (frW_ng h).elim⟩
/-- the slots in a comprehension's block -/
def blW (W : List Sl) (vs : List Nat) : List Sl := frW (wipeW W vs)
/-- what the walk of a comprehension keeps -/
def CI (F1 H1 : Hp) (D : Addr) (rs : List R) (H : Hp) : Prop :=
  ∃ F acc, Rel F1 H1 Nob F H Nob ∧ Same F H ∧ F D = none ∧ H D = some (.lst acc) ∧ All2 rs F acc
/-- how a comprehension's data goes -/
def lcR {α : Type} (p : α → Bool) (f : α → R) (l : List α) : List R := (l.filter p).map f
theorem lcR_take {p : α → Bool} {f : α → R} {l : List α} {i : Nat} {x : α} (h : l[i]? = some x) : lcR p f (l.take (i + 1)) = if p x = true then lcR p f (l.take i) ++ [f x] else lcR p f (l.take i) := by
  have hi := (List.getElem?_eq_some_iff.mp h).1
  have e : l.take (i + 1) = l.take i ++ [x] := by
    rw [List.take_add_one, h]; rfl
  unfold lcR
  rw [e, List.filter_append, List.map_append]
  by_cases q : p x = true
  · rw [if_pos q, List.filter_cons, if_pos q]; rfl
  · rw [if_neg q, List.filter_cons, if_neg q]; simp
theorem lcR_len {p : α → Bool} {f : α → R} {l : List α} : (lcR p f l).length ≤ l.length := by
  unfold lcR; rw [List.length_map]; exact List.length_filter_le p l
theorem et_yes : ET tYes W W true := fun F H σ Q s k => k F H Rel.refl s
end
end Fw
end
section
set_option maxRecDepth 100000
namespace Fw
open PySem L2 PySem.Spec PyProof.Rows
/-- a def's promise where no guard of a display runs -/
structure FnG (P : Program) (w : World) (K : PySem.W.Frag) (mg : Str → Option Value) (base : Heap) (CX : CXT) (k : Nat) (f : Addr) (fd : FuncData) (ps : List Str) (sp : Sp) : Prop where
  len : ∀ vs H Q E, sp vs H Q E → vs.length = ps.length
  run : ∀ (A : Around) (outer : List Env) (s : Shared) (H : Hp) (args : Args) (us : List Value) (vs : List V) (Q : VK) (E : XK), A.guards = some [] → Room k A → Env0 P w K mg base A outer s H →
    BindsTo s fd args (ps.zip us) → Vals vs us → sp vs H Q E → codeAny (model P w) A (.call (.ref f) args) (CR CX outer P w H s Q E) s
section
variable {P : Program} {w : World} {K : PySem.W.Frag} {mg : Str → Option Value} {base : Heap} {CX : CXT} {k j : Nat} {f : Addr} {fd : FuncData} {ps : List Str} {sp sp' : Sp}
theorem FnG.mono (F : FnG P w K mg base CX j f fd ps sp) (h : j ≤ k) : FnG P w K mg base CX k f fd ps sp :=
  ⟨F.len, fun A outer s H args us vs Q E hg hr => F.run A outer s H args us vs Q E hg (hr.mono h)⟩
theorem FnG.imp (F : FnG P w K mg base CX k f fd ps sp) (h : ∀ vs H Q E, sp' vs H Q E → sp vs H Q E) : FnG P w K mg base CX k f fd ps sp' :=
  ⟨fun vs H Q E q => F.len vs H Q E (h _ _ _ _ q), fun A outer s H args us vs Q E hg hr he hb hv hs => F.run A outer s H args us vs Q E hg hr he hb hv (h _ _ _ _ hs)⟩
/-- a def of the text, by its body -/
theorem fng_of {name qual : Str} {params : Arguments} {body : List Stmt} {scope : Scope} {dV kV doc pm cdv ct oc : Value} {an od : Option Addr} {osl : Array (Option Value)} {N : List Str}
    (lk : K.lookup f = some ⟨oc, od, .func (PySem.W.fnOf name qual params body scope dV kV doc pm an cdv ct), osl⟩) (hcd : PySem.W.codeIn K cdv qual = true) (S : FnScope N ps scope) (len : ∀ vs H Q E, sp vs H Q E → vs.length = ps.length)
    (hbody : ∀ (A : Around) (outer : List Env) (s : Shared) (H : Hp) (vs : List V) (Q : VK) (E : XK), A.guards = some [] → Room k (A.deeper (envOfC qual scope s.heap.objs.size f cdv)) → sp vs H Q E →
      ∃ t, PSs (cxOf CX P w K mg base N qual scope f cdv A outer s H E) body t ∧ t { nx := fun _ H' => Q .non H', rt := Q } (start N vs) H) :
    FnG P w K mg base CX (k + 1) f (PySem.W.fnOf name qual params body scope dV kV doc pm an cdv ct) ps sp :=
  ⟨len, fun A outer s H args us vs Q E hg hr e0 hb r hsp => by
    have old : ∀ b o, base.get? b = some o → s.heap.get? b = some o := fun b o e => (e0.bs b o e).1
    have KX := e0.mod.kin.keeps old
    have lim := e0.mod.nolimit.keeps old
    refine codeAny_call_function hr.depth (KX _ _ lk) rfl S.co S.gen rfl (PySem.W.codeRec_of KX hcd) (hb _ _ _ _ ?_)
    refine wpAny_newFunctionEnv_cells S.kind (fun y hy => ?_) fun env he s1 x => ?_
    · obtain ⟨n, v⟩ := y
      exact (S.par n (List.of_mem_zip hy).1).imp id fun q => ⟨q, PySem.W.cellsFrom_some _ _ _ (.inl q)⟩
    · subst he
      obtain ⟨t, ht, hq⟩ := hbody A outer s H vs Q E hg (hr.deeper _) hsp
      have I := inv_start (CX := CX) (E := E) S hr.hd e0 (len _ _ _ _ hsp) r x
      have fin : ∀ {s' : Shared} {σ' : L2.St} {H' : Hp} {v : V} {u : Value}, Inv (cxOf CX P w K mg base N qual scope f cdv A outer s H E) [] σ' H' s' → RelV v u → Q v H' → CE outer P w H s Q u s' :=
        fun J rv q => ⟨_, _, J.os, J.bare, J.base, J.hok, rv, q⟩
      refine ⟨lim.keeps x.toInCall.keep, codeAny_func (wpAny_mono (ht.run [] s1 (start N vs) H _ I hq) (fun fl s' hs => ?_) fun e s' hs => hs)⟩
      cases fl with
      | ret u => exact let ⟨v, σ', H', J, rv, q⟩ := hs; fin J rv q
      | next => exact let ⟨σ', H', J, q⟩ := hs; fin (v := V.non) (u := Value.none) J rfl q
      | brk => exact hs.elim fun _ z => z.elim fun _ z => z.2.elim
      | cont => exact hs.elim fun _ z => z.elim fun _ z => z.2.elim⟩
theorem Fun.okG {x qual : Str} {st : Stmt} {N : List Str} (F : L2.Fun K x qual st f fd) (S : FnScope N ps (defScope st)) (len : ∀ vs H Q E, sp vs H Q E → vs.length = ps.length)
    (hbody : ∀ (cdv : Value) (A : Around) (outer : List Env) (s : Shared) (H : Hp) (vs : List V) (Q : VK) (E : XK), A.guards = some [] → Room k (A.deeper (envOfC qual (defScope st) s.heap.objs.size f cdv)) → sp vs H Q E →
      ∃ t, PSs (cxOf CX0 P w K mg base N qual (defScope st) f cdv A outer s H E).nox (defBody st) t ∧ t { nx := fun _ H' => Q .non H', rt := Q } (start N vs) H) : FnG P w K mg base CX0 (k + 1) f fd ps sp := by
  obtain ⟨oc, od, kV, doc, pm, an, cdv, ct, osl, e, lk, hcd⟩ := F.ex
  subst e
  exact fng_of lk hcd S len fun A outer s H vs Q E hg hr hsp => let ⟨t, h, q⟩ := hbody cdv A outer s H vs Q E hg hr hsp; ⟨t, h.nox, q⟩
end
section
variable {X : Cx} {CX : CXT} {k : Nat} {f C p g : Addr} {fd : FuncData} {ps : List Str} {sp : Sp} {dvs : List V} {ds : List Value} {E : XK} {x m : Str} {pp pos apos : Pos} {e o : Expr} {es : List Expr} {ta : TE} {t : TA}
theorem run_fng {pins : List (Addr × Obj)} {σ : L2.St} {H : Hp} {s : Shared} {Q : VK} {us : List Value} {vs : List V} (F : FnG X.prog X.w X.K X.mg X.base CX k f fd ps sp) (hG : X.A.guards = some []) (hr : Room k X.A) (hb : Binds X.K fd ps ds) (hd : Vals dvs ds)
    (hx : Passes CX X E) (I : Inv X pins σ H s) (r : Vals vs us) (h : sp (vs ++ dvs) H Q E) : wpAny (model X.prog X.w) X.A (call (.ref f) us) (EP X pins σ Q) X.xe s := by
  have r2 := r.append hd
  refine wpAny_call (codeAny_mono (F.run X.A X.stack s H ⟨us, []⟩ _ _ Q E hG hr I.env0 (hb s us I.kIn (r2.length.symm.trans (F.len _ _ _ _ h))) r2 h) fun q s' hq => ?_)
  match q, hq with
  | .error e, hq => exact hx pins σ H s e s' I hq
  | .ok (.ret u), hq => exact I.after hq
  | .ok .next, hq => exact hq.elim
  | .ok .brk, hq => exact hq.elim
  | .ok .cont, hq => exact hq.elim
theorem pg_call (F : FnG X.prog X.w X.K X.mg X.base CX k f fd ps sp) (hG : X.A.guards = some []) (hr : Room k X.A) (hg : Gl X x) (hm : X.mg x = some (.ref f)) (hk : PySem.W.keepIn X.K (.ref f) = true) (hb : Binds X.K fd ps ds) (hd : Vals dvs ds) (hx : Passes CX X E)
    (ha : PA X (e :: es) t) (hdb : (x == ("__debug__" : Str)) = false := by decide) (he : starEach (e :: es) X.env = (false, eval e X.env) :: starEach es X.env := by rfl) (hpl : (backTo pos (starEach es X.env)).any (·.1) = false := by rfl) :
    PE X (.Call (.Name x pp) (e :: es) [] pos) (tCall sp dvs E t) :=
  ⟨fun pins s σ H Q I h => wpAny_Call_Name_kw (ld_glob I hg hm (PySem.W.callWith_K (h₀ := X.base) I.ok.mod.kin hk
    (thn (ha.run pos pins s σ H _ I h) fun us s1 ⟨vs, H1, I1, r, q⟩ => ⟨I1.kIn, run_fng F hG hr hb hd hx I1 r q⟩) he hpl) hdb)⟩
theorem pg_call0 (F : FnG X.prog X.w X.K X.mg X.base CX k f fd ps sp) (hG : X.A.guards = some []) (hr : Room k X.A) (hg : Gl X x) (hm : X.mg x = some (.ref f)) (hk : PySem.W.keepIn X.K (.ref f) = true) (hb : Binds X.K fd ps ds) (hd : Vals dvs ds) (hx : Passes CX X E)
    (hdb : (x == ("__debug__" : Str)) = false := by decide) : PE X (.Call (.Name x pp) [] [] pos) (tCall sp dvs E tNil) :=
  ⟨fun pins s σ H Q I h => wpAny_Call_Name_kw (ld_glob I hg hm (PySem.W.callWith_K0 I.kIn hk (run_fng (us := []) F hG hr hb hd hx I .nil h)) hdb)⟩
theorem pg_meth {pl : Sem Bool} (he : PE X o ta) (c : Cls X.K C) (hm : Meth X.K C m f) (F : FnG X.prog X.w X.K X.mg X.base CX k f fd ps sp) (hG : X.A.guards = some []) (hr : Room k X.A) (hb : Binds X.K fd ps ds) (hd : Vals dvs ds) (hx : Passes CX X E) (ha : PA X (e :: es) t)
    (hst : starEach (e :: es) X.env = (false, eval e X.env) :: starEach es X.env := by rfl) (hpl : (backTo pos (starEach es X.env)).any (·.1) = false := by rfl)
    (ht : eval (.Call (.Attribute o m apos) (e :: es) [] pos) X.env = (eval o X.env >>= fun ov => standAt apos.atName >>= fun _ => holding [ov] (getMethod ov m pl) >>= fun fm =>
      callWith pos fm.1 fm.2 (backTo pos (starEach (e :: es) X.env)) (backToKw pos (keywordEach [] X.env))) := by rfl) :
    PE X (.Call (.Attribute o m apos) (e :: es) [] pos) (tMeth C m sp dvs E ta t) := by
  refine ⟨fun pins s σ H Q I h => PySem.W.methodCall_KW (pl := pl) (thn (he.run pins s σ H _ I h) fun u s1 ⟨x, H1, I1, rx, a, dx, fs, ex, ea, l, q⟩ => ?_) ht⟩
  subst ex
  cases (show u = Value.ref a from rx)
  refine getmeth_ok I1 ea c hm l (PySem.W.callWith_K (first := [.ref a]) (h₀ := X.base) I.ok.mod.kin hm.kp (thn (ha.run pos pins s1 σ H1 _ I1 q) fun us s2 ⟨vs, H2, I2, r, q2⟩ => ⟨I2.kIn, ?_⟩) hst hpl)
  exact run_fng (us := .ref a :: us) (vs := .ref a :: vs) F hG hr hb hd hx I2 (.cons rfl r) q2
theorem pg_make (M : Mk X.K C f) (F : FnG X.prog X.w X.K X.mg X.base CX k f fd ps sp) (hG : X.A.guards = some []) (hr : Room (k + 1) X.A) (hg : Gl X x) (hm : X.mg x = some (.ref C)) (hb : Binds X.K fd ps ds) (hd : Vals dvs ds) (hx : Passes CX X E)
    (ha : PA X (e :: es) t) (hdb : (x == ("__debug__" : Str)) = false := by decide) (he : starEach (e :: es) X.env = (false, eval e X.env) :: starEach es X.env := by rfl) (hpl : (backTo pos (starEach es X.env)).any (·.1) = false := by rfl) :
    PE X (.Call (.Name x pp) (e :: es) [] pos) (tMake C sp dvs E t) := by
  refine ⟨fun pins s0 σ H0 Q I0 h0 => wpAny_Call_Name_kw (ld_glob I0 hg hm (PySem.W.callWith_K (h₀ := X.base) I0.ok.mod.kin M.kp (thn (ha.run pos pins s0 σ H0 _ I0 h0) fun us s ⟨vs, H, I, r, h⟩ => ⟨I.kIn, ?_⟩) he hpl) hdb)⟩
  have hq := h (s.heap.objs.size + 1) s.heap.objs.size (I.hok.fresh (Nat.le_succ _)) (I.hok.fresh (Nat.le_refl _)) (Nat.ne_of_lt (Nat.lt_succ_self _))
  have I2 := Inv.made (C := C) I
  have r2 : Vals (V.ref (s.heap.objs.size + 1) :: (vs ++ dvs)) (Value.ref (s.heap.objs.size + 1) :: (us ++ ds)) := .cons rfl (r.append hd)
  have gd : ∀ us', (X.A.under (.builtin "type.__call__" ⟨.ref C :: us', []⟩)).guards = some [] := fun us' => by
    have : (X.A.under (.builtin "type.__call__" ⟨.ref C :: us', []⟩)).guards = X.A.guards := rfl
    rw [this]; exact hG
  refine wpAny_call (make_map (f := f) I.kIn M.makes M.init (beq_iff_eq.mp M.fn) (codeAny_mono (F.run _ X.stack _ _ ⟨Value.ref (s.heap.objs.size + 1) :: us, []⟩ _ _ _ E (gd us) (hr.make C us [])
    (I2.env0.make C us []) (hb _ (Value.ref (s.heap.objs.size + 1) :: us) I2.kIn (r2.length.symm.trans (F.len _ _ _ _ hq))) r2 hq) fun q s' hq' => ?_))
  match q, hq' with
  | .error e, hq' => exact hx pins σ _ _ e s' I2 hq'
  | .ok (.ret u), hq' =>
    obtain ⟨v, H', I3, rv, ev, q3⟩ := I2.after hq'
    subst ev
    exact ⟨rv, V.ref (s.heap.objs.size + 1), H', I3, rfl, q3⟩
  | .ok .next, hq' => exact hq'.elim
  | .ok .brk, hq' => exact hq'.elim
  | .ok .cont, hq' => exact hq'.elim
end
end Fw
end
section
set_option maxRecDepth 100000
namespace Fw
open PySem L2
section
variable {W W' W0 W1 W2 W3 : List Sl} {K : PySem.W.Frag} {ta tb tc te to tl : TE} {tc' tt : TT} {r ra rb : R} {x y z v : V} {a b : Bool} {ι : Type} {F H F' H' : Hp} {σ : L2.St} {E : XK} {P P1 : Post} {ts uu : TS} {g : TG}
variable {α β : Type}
/-- a built-in of one value, of two -/
theorem es_cb1 {g : List V → Hp → VK → Prop} (ha : ES ta W W1 (eV x)) (hg : ∀ (H : Hp) (Q : VK), Q z H → g [x] H Q) : ES (tCB g (tCons ta tNil)) W W1 (eV z) := fun F H σ Q s k =>
  ha F H σ _ s fun v F1 H1 a1 s1 e1 => by
    have e1' : v = x := e1
    subst e1'
    exact hg H1 Q (k z F1 H1 a1 s1 rfl)
theorem es_cb2 {g : List V → Hp → VK → Prop} (ha : ES ta W W1 (eV x)) (hb : ES tb W1 W2 (eV y)) (hg : ∀ (H : Hp) (Q : VK), Q z H → g [x, y] H Q) : ES (tCB g (tCons ta (tCons tb tNil))) W W2 (eV z) := fun F H σ Q s k =>
  ha F H σ _ s fun v F1 H1 a1 s1 e1 => hb F1 H1 σ _ s1 fun w F2 H2 a2 s2 e2 => by
    have e1' : v = x := e1
    have e2' : w = y := e2
    subst e1' e2'
    exact hg H2 Q (k z F2 H2 (a1.trans a2) s2 rfl)
theorem es_int {i : Int} {q : List V → Hp → VK → Prop} (ha : ES ta W W1 (eI i)) : ES (tCB (fun xs H Q => (∃ i, xs = [.int i] ∧ Q (.int i) H) ∨ q xs H Q) (tCons ta tNil)) W W1 (eI i) := es_cb1 ha fun _ _ k => .inl ⟨i, rfl, k⟩
def max2 (i j : Int) : Int := if j > i then j else i
theorem es_max2 {i j : Int} (ha : ES ta W W1 (eI i)) (hb : ES tb W1 W2 (eI j)) : ES (tCB (fun xs H Q => ∃ i j, xs = [.int i, .int j] ∧ Q (.int (if j > i then j else i)) H) (tCons ta (tCons tb tNil))) W W2 (eI (max2 i j)) := es_cb2 ha hb fun _ _ k => ⟨i, j, rfl, k⟩
theorem es_fdivW {i j : Int} (ha : ES ta W W1 (eI i)) (hb : ES tb W1 W2 (eI j)) (c : CDivW i j) : ES (tOp (rI CDivW fun i j => .int (i / j)) ta tb) W W2 (eI (i / j)) := es_op ha hb fun _ _ q => ⟨i, j, rfl, rfl, c, q⟩
theorem es_mulW {i j : Int} (ha : ES ta W W1 (eI i)) (hb : ES tb W1 W2 (eI j)) (c : CMulW i j) : ES (tOp (rI CMulW fun i j => .int (i * j)) ta tb) W W2 (eI (i * j)) := es_op ha hb fun _ _ q => ⟨i, j, rfl, rfl, c, q⟩
/-- xs[k], xs owned, k written -/
theorem es_ixO {rs : List R} {q0 : Option Addr} {k i : Nat} (h : W[i]? = some (.ow (oLq q0 rs))) (hk : rs[k]? = some r) : ES (tOp (rIxL K) (tVar i) (tC (.int (k : Int)))) W W r := fun F H σ Q s q => by
  obtain ⟨p, o, e0, g1, _, ⟨_, xs, rfl, g2⟩⟩ := s.ow i _ h
  obtain ⟨x, z1, z2⟩ := g2.get' hk
  exact ⟨.ref p, e0, p, xs, k, x, rfl, rfl, .inl (.inl g1), atI_k z1, q x F H Rel.refl s z2⟩
/-- xs[k] = e, xs owned, k written -/
theorem ss_setk {i k : Nat} {rs : List R} {q1 : Option Addr} (h : ES te W W1 r) (h1 : W1[i]? = some (.ow (oLq q1 rs))) (hk : k < rs.length) (n : P.nx (W1.set i (.ow (oLq q1 (rs.set k r))))) :
    SS (tAsg te (gSub (tVar i) (tC (.int (k : Int))) rSetL)) W P := fun F H σ D s kn _ _ _ =>
  h F H σ _ s fun v F1 H1 a1 s1 e1 => by
    obtain ⟨p, o, e0, y1, y2, ⟨yq, ys, rfl, y3⟩⟩ := s1.ow i _ h1
    have el := y3.len
    refine ⟨.ref p, e0, p, ys, k, k, rfl, rfl, y1, ?_, kn _ _ _ _ n (a1.trans ⟨fun _ _ z => z, fun a u n z => ?_, fun _ _ z => .inl z, fun a z => ?_, fun a m => .inl ((Own.mut h1).mp m)⟩) (s1.mut h1 e0 ⟨yq, _, rfl, y3.set e1 _⟩)⟩
    · unfold ixN
      rw [if_pos (by omega), if_pos (by omega)]
      rfl
    · rw [upd_ne (fun q : a = p => n (by rw [q]; exact ⟨i, _, .inl ⟨h1, e0⟩⟩))]; exact z
    · by_cases q : a = p
      · subst q; rw [upd_same] at z; cases z
      · rw [upd_ne q] at z; exact z
/-- the slots as a def begins: what is frozen, then nothing -/
def slF (rs : List R) (n : Nat) : List Sl := rs.map .fz ++ List.replicate (n - rs.length) .no
theorem slF_ow {rs : List R} {n i : Nat} {c : OC} (h : (slF rs n)[i]? = some (.ow c)) : False := by
  rcases List.mem_append.mp (List.mem_of_getElem? h) with z | z
  · obtain ⟨r, _, e⟩ := List.mem_map.mp z; cases e
  · cases List.eq_of_mem_replicate z
theorem slF_fz {rs : List R} {n i : Nat} {r : R} (h : (slF rs n)[i]? = some (.fz r)) : rs[i]? = some r := by
  unfold slF at h
  have hi : i < rs.length := by
    by_cases z : i < rs.length
    · exact z
    · rw [List.getElem?_append_right (by simpa using z), List.getElem?_replicate] at h
      split at h <;> cases h
  rw [List.getElem?_append_left (by simpa using hi), List.getElem?_map] at h
  cases q : rs[i]? with
  | none => rw [q] at h; cases h
  | some r' => rw [q] at h; have z := Option.some.inj h; injection z with z; rw [z]
theorem slF_real {rs : List R} {n i : Nat} {s : Sl} (h : (slF rs n)[i]? = some s) : s.real = true := by
  rcases List.mem_append.mp (List.mem_of_getElem? h) with z | z
  · obtain ⟨r, _, e⟩ := List.mem_map.mp z
    rw [← e]; rfl
  · rw [List.eq_of_mem_replicate z]; rfl
theorem slF_ng {rs : List R} {n i : Nat} {q : Addr} {c : OC} (h : (slF rs n)[i]? = some (.gh q c)) : False := by
  have := slF_real h
  cases this
theorem slF_own {rs : List R} {n : Nat} {σ : L2.St} {a : Addr} (o : Own (slF rs n) σ a) : False := by
  obtain ⟨i, c, ⟨h, _⟩ | h⟩ := o
  · exact slF_ow h
  · exact slF_ng h
theorem len_real {σ : L2.St} {W : List Sl} (h : σ.length = W.length) (r : ∀ (i : Nat) (s : Sl), W[i]? = some s → s.real = true) : ∀ i : Nat, i < σ.length ↔ ∃ s, W[i]? = some s ∧ s.real = true := fun i => by
  rw [h]
  constructor
  · intro hi
    exact ⟨W[i], List.getElem?_eq_getElem hi, r i _ (List.getElem?_eq_getElem hi)⟩
  · rintro ⟨s, h1, _⟩
    exact (List.getElem?_eq_some_iff.mp h1).1
theorem Gh.no {F H : Hp} {σ : L2.St} {W : List Sl} (n : ∀ (i : Nat) (q : Addr) (c : OC), W[i]? = some (Sl.gh q c) → False) : Gh F H σ W := ⟨fun i q c h => (n i q c h).elim, fun i j q c d _ h => (n j q d h).elim, fun i j q c d h => (n i q c h).elim⟩
theorem slF_gh {rs : List R} {n i : Nat} {x : Sl} {q : Addr} {c : OC} (hx : x.real = true) (h : (x :: slF rs n)[i]? = some (.gh q c)) : False := by
  cases i with
  | zero => cases h; cases hx
  | succ i => exact slF_ng (i := i) h
theorem start_at {N : List Str} {vs : List V} {i : Nat} {v : V} (h : vs[i]? = some v) : (L2.start N vs)[i]? = some (some v) := by
  unfold L2.start
  have hi := (List.getElem?_eq_some_iff.mp h).1
  rw [List.getElem?_append_left (by simpa using hi), List.getElem?_map, h]; rfl
/-- a def's body: from what comes in to what goes out -/
theorem def_F {as : ι → List R} {ok : ι → Prop} {res : ι → R} {N : List Str} {vs : List V} {H : Hp} {Q : VK} {E : XK} (h : spF as ok res vs H Q E) (hN : ∀ d, (as d).length ≤ N.length)
    (k : ∀ d, ok d → SS ts (slF (as d) N.length) ⟨fun _ => res d = eN, fun _ r => r = res d, fun _ => False, fun _ => False⟩) : ts { nx := fun _ H' => Q .non H', rt := Q } (L2.start N vs) H := by
  obtain ⟨d, F, hok, ex, ha, hq⟩ := h
  have el := ha.len
  have s : Sat F H (L2.start N vs) (slF (as d) N.length) := by
    refine ⟨ex, ?_, fun i r h => ?_, fun i c h => (slF_ow h).elim, fun i j c e p h => (slF_ow h).elim, Gh.no fun i q c h => slF_ng h⟩
    · refine len_real ?_ fun i s h => slF_real h
      unfold L2.start slF; simp [el]
    · obtain ⟨x, z1, z2⟩ := ha.get' (slF_fz h)
      exact ⟨x, start_at z1, z2⟩
  have own0 : ∀ a, ¬ Own (slF (as d) N.length) (L2.start N vs) a := fun a o => slF_own o
  have up : ∀ {F' H' : Hp} {M : Addr → Prop}, Rel F H (Own (slF (as d) N.length) (L2.start N vs)) F' H' M → Rel F H Nob F' H' Nob := fun a =>
    ⟨a.f, fun x o n h => a.h x o (own0 x) h, fun x o h => (a.n x o h).imp id (Or.imp id (Or.imp (fun m => own0 x m) id)), a.t, fun x m => m.elim⟩
  refine k d hok F H (L2.start N vs) _ s (fun W' σ' F' H' z a s' => ?_) (fun W' σ' r v F' H' z a s' hv => ?_) (fun _ _ _ _ z => z.elim) fun _ _ _ _ z => z.elim
  · exact hq .non F' H' (up a) s'.ex (by rw [z]; rfl)
  · have z' : r = res d := z
    subst z'; exact hq v F' H' (up a) s'.ex hv
theorem def_B {c c' : ι → List R} {as : ι → List R} {ok : ι → Prop} {res : ι → R} {N : List Str} {vs : List V} {H : Hp} {Q : VK} {E : XK} (h : spB c as ok c' res vs H Q E) (hN : ∀ d, (as d).length < N.length)
    (k : ∀ d p, ok d → SS ts (.ow (oLq (some p) (c d)) :: slF (as d) (N.length - 1)) ⟨fun W' => res d = eN ∧ W'[0]? = some (.ow (oLq (some p) (c' d))), fun W' r => r = res d ∧ W'[0]? = some (.ow (oLq (some p) (c' d))), fun _ => False, fun _ => False⟩) :
    ts { nx := fun _ H' => Q .non H', rt := Q } (L2.start N vs) H := by
  obtain ⟨d, F, p, o, ws, rfl, hok, ex, hp, fp, hc, ha, hq⟩ := h
  have el := ha.len
  have hN' := hN d
  have s : Sat F H (L2.start N (.ref p :: ws)) (.ow (oLq (some p) (c d)) :: slF (as d) (N.length - 1)) := by
    refine ⟨ex, ?_, fun i r h => ?_, fun i e h => ?_, fun i j e e' q h1 h2 => ?_, Gh.no fun i q c h => slF_gh rfl h⟩
    · refine len_real ?_ fun i s h => ?_
      · unfold L2.start slF; simp [el]; omega
      · cases i with
        | zero => cases h; rfl
        | succ i => exact slF_real (i := i) h
    · cases i with
      | zero => cases h
      | succ i =>
        obtain ⟨x, z1, z2⟩ := ha.get' (slF_fz (i := i) h)
        exact ⟨x, start_at z1, z2⟩
    · cases i with
      | zero =>
        cases h
        exact ⟨p, .lst o, rfl, hp, fp, fun _ z => Option.some.inj z, o, rfl, hc⟩
      | succ i => exact (slF_ow (i := i) h).elim
    · cases i with
      | zero => cases j with
        | zero => exact fun _ _ => rfl
        | succ j => exact (slF_ow (i := j) h2).elim
      | succ i => exact (slF_ow (i := i) h1).elim
  have own0 : ∀ a, Own (.ow (oLq (some p) (c d)) :: slF (as d) (N.length - 1)) (L2.start N (.ref p :: ws)) a → a = p := fun a ⟨i, e, o⟩ => by
    rcases o with ⟨h1, h2⟩ | h1
    · cases i with
      | zero =>
        have z : some (some (V.ref p)) = some (some (.ref a)) := h2
        cases z; rfl
      | succ i => exact (slF_ow (i := i) h1).elim
    · exact (slF_gh rfl h1).elim
  have own1 : Own (.ow (oLq (some p) (c d)) :: slF (as d) (N.length - 1)) (L2.start N (.ref p :: ws)) p := ⟨0, _, .inl ⟨rfl, rfl⟩⟩
  have up : ∀ {F' H' : Hp} {M : Addr → Prop}, Rel F H (Own (.ow (oLq (some p) (c d)) :: slF (as d) (N.length - 1)) (L2.start N (.ref p :: ws))) F' H' M → Rel F H (fun a => a = p) F' H' (fun a => a = p) := fun a =>
    ⟨a.f, fun x o n h => a.h x o (fun z => n (own0 x z)) h, fun x o h => (a.n x o h).imp id (Or.imp id (Or.imp (fun m => own0 x m) id)), a.t, fun x m => .inl m⟩
  have fin : ∀ {W' : List Sl} {σ' : L2.St} {F' H' : Hp}, Sat F' H' σ' W' → W'[0]? = some (.ow (oLq (some p) (c' d))) → ∃ o', H' p = some (.lst o') ∧ F' p = none ∧ All2 (c' d) F' o' := fun {W' σ' F' H'} s' hw => by
    obtain ⟨p', _, _, y1, y2, yq, ys, rfl, y3⟩ := s'.ow 0 _ hw
    cases yq p rfl
    exact ⟨ys, y1, y2, y3⟩
  refine k d p hok F H (L2.start N (.ref p :: ws)) _ s (fun W' σ' F' H' z a s' => ?_) (fun W' σ' r v F' H' z a s' hv => ?_) (fun _ _ _ _ z => z.elim) fun _ _ _ _ z => z.elim
  · obtain ⟨z1, z2⟩ := z
    obtain ⟨o', y1, y2, y3⟩ := fin s' z2
    exact hq .non F' H' o' (up a) s'.ex y1 y2 y3 (by rw [z1]; rfl)
  · obtain ⟨z1, z2⟩ := z
    subst z1
    obtain ⟨o', y1, y2, y3⟩ := fin s' z2
    exact hq v F' H' o' (up a) s'.ex y1 y2 y3 hv
end
end Fw
end
section
set_option maxRecDepth 100000
namespace Fw
open PySem L2
section
variable {W W' W0 W1 W2 W3 : List Sl} {K : PySem.W.Frag} {ta tb tc te to tl : TE} {tc' tt : TT} {r ra rb : R} {x y z v : V} {a b : Bool} {ι : Type} {F H F' H' : Hp} {σ : L2.St} {E : XK} {P P1 : Post} {ts uu tA tB : TS} {g : TG}
variable {α β γ δ : Type}
theorem ss_nxq {s3 : TS} (h : SS s3 W P) : SS (tSeq tNext s3) W P := h
theorem ss_seq1 (v1 : α) (mk : α → List Sl) (h : SS ts W ⟨fun W' => Wk W' (mk v1), P.rt, P.bk, P.ct⟩) (k : ∀ x1, x1 = v1 → SS uu (mk x1) P) : SS (tSeq ts uu) W P := ss_seqTo (mk v1) h (k v1 rfl)
theorem ss_seq2 (v1 : α) (v2 : β) (mk : α → β → List Sl) (h : SS ts W ⟨fun W' => Wk W' (mk v1 v2), P.rt, P.bk, P.ct⟩) (k : ∀ x1, x1 = v1 → ∀ x2, x2 = v2 → SS uu (mk x1 x2) P) : SS (tSeq ts uu) W P := ss_seqTo (mk v1 v2) h (k v1 rfl v2 rfl)
theorem ss_seq3 (v1 : α) (v2 : β) (v3 : γ) (mk : α → β → γ → List Sl) (h : SS ts W ⟨fun W' => Wk W' (mk v1 v2 v3), P.rt, P.bk, P.ct⟩) (k : ∀ x1, x1 = v1 → ∀ x2, x2 = v2 → ∀ x3, x3 = v3 → SS uu (mk x1 x2 x3) P) : SS (tSeq ts uu) W P :=
  ss_seqTo (mk v1 v2 v3) h (k v1 rfl v2 rfl v3 rfl)
theorem ss_retq (h : ES te W W1 r) (k : P.rt W1 r) : SS (tSeq (tRet te) uu) W P := ss_seq (fun _ => False) (ss_ret h k) fun _ z => z.elim
theorem ss_neverq (h : False) : SS (tSeq ts uu) W P := h.elim
/-- an if one way of which ends -/
theorem ss_ifL (h : ET tc' W W1 a) (h1 : a = true → SS tA W1 ⟨fun _ => False, P.rt, P.bk, P.ct⟩) (h2 : a = false → SS (tSeq tB uu) W1 P) : SS (tSeq (tIfS tc' tA tB) uu) W P := fun F H σ D s kn kr kb kc =>
  h F H σ _ s fun F1 H1 a1 s1 => by
    cases a with
    | true =>
      rw [if_pos rfl]
      exact h1 rfl F1 H1 σ { D with nx := uu D } s1 (fun _ _ _ _ z => z.elim) (fun W2 σ2 r v F2 H2 n2 a2 s2 => kr W2 σ2 r v F2 H2 n2 (a1.trans a2) s2)
        (fun W2 σ2 F2 H2 n2 a2 s2 => kb W2 σ2 F2 H2 n2 (a1.trans a2) s2) fun W2 σ2 F2 H2 n2 a2 s2 => kc W2 σ2 F2 H2 n2 (a1.trans a2) s2
    | false =>
      rw [if_neg Bool.false_ne_true]
      exact h2 rfl F1 H1 σ D s1 (fun W2 σ2 F2 H2 n2 a2 s2 => kn W2 σ2 F2 H2 n2 (a1.trans a2) s2) (fun W2 σ2 r v F2 H2 n2 a2 s2 => kr W2 σ2 r v F2 H2 n2 (a1.trans a2) s2)
        (fun W2 σ2 F2 H2 n2 a2 s2 => kb W2 σ2 F2 H2 n2 (a1.trans a2) s2) fun W2 σ2 F2 H2 n2 a2 s2 => kc W2 σ2 F2 H2 n2 (a1.trans a2) s2
/-! several names at once, some of them given new lists -/
inductive Ds where
  | fz (r : R)
  | nw (c : OC)
def MOk (F' H' : Hp) : Hp → List Ds → List V → Prop
  | _, [], [] => True
  | H, .fz r :: ds, v :: vs => r.p F' v ∧ MOk F' H' H ds vs
  | H, .nw c :: ds, v :: vs => ∃ p o, v = .ref p ∧ H p = none ∧ H' p = some o ∧ F' p = none ∧ c.p F' p o ∧ MOk F' H' (upd H p o) ds vs
  | _, _, _ => False
theorem MOk.base {F' H' : Hp} : ∀ {ds : List Ds} {vs : List V} {H1 H2 : Hp}, (∀ a, H1 a = none → H2 a = none) → MOk F' H' H1 ds vs → MOk F' H' H2 ds vs
  | [], [], _, _, _, _ => trivial
  | .fz _ :: _, _ :: _, _, _, e, h => ⟨h.1, MOk.base e h.2⟩
  | .nw _ :: _, _ :: _, H1, H2, e, ⟨p, o, h1, h2, h3, h4, h5, h6⟩ => ⟨p, o, h1, e p h2, h3, h4, h5, MOk.base (fun a z => by
      by_cases q : a = p
      · subst q; rw [upd_same] at z; cases z
      · rw [upd_ne q] at z ⊢; exact e a z) h6⟩
  | [], _ :: _, _, _, _, h => h.elim
  | .fz _ :: _, [], _, _, _, h => h.elim
  | .nw _ :: _, [], _, _, _, h => h.elim
theorem MOk.len {F' H' : Hp} : ∀ {ds : List Ds} {vs : List V} {H : Hp}, MOk F' H' H ds vs → vs.length = ds.length
  | [], [], _, _ => rfl
  | .fz _ :: _, _ :: _, _, h => congrArg (· + 1) (MOk.len h.2)
  | .nw _ :: _, _ :: _, _, ⟨_, _, _, _, _, _, _, h⟩ => congrArg (· + 1) (MOk.len h)
  | [], _ :: _, _, h => h.elim
  | .fz _ :: _, [], _, h => h.elim
  | .nw _ :: _, [], _, h => h.elim
/-- a further object is frozen -/
theorem MOk.lay {F' H' : Hp} {q : Addr} {u : HO} (hq : H' q = none) : ∀ {ds : List Ds} {vs : List V} {H : Hp}, Same F' H' → MOk F' H' H ds vs → MOk (upd F' q u) (upd H' q u) H ds vs
  | [], [], _, _, _ => trivial
  | .fz r :: _, _ :: _, _, e, h => ⟨r.mono (fun a o z => by rw [upd_ne (ne_of_none (e a o z) hq)]; exact z) h.1, MOk.lay hq e h.2⟩
  | .nw c :: _, _ :: _, H, e, ⟨p, o, h1, h2, h3, h4, h5, h6⟩ => by
    have ne : p ≠ q := ne_of_none h3 hq
    exact ⟨p, o, h1, h2, by rw [upd_ne ne]; exact h3, by rw [upd_ne ne]; exact h4, c.mono (fun a o z => by rw [upd_ne (ne_of_none (e a o z) hq)]; exact z) h5, MOk.lay hq e h6⟩
  | [], _ :: _, _, _, h => h.elim
  | .fz _ :: _, [], _, _, h => h.elim
  | .nw _ :: _, [], _, _, h => h.elim
def AM (t : TA) (W W' : List Sl) (ds : List Ds) : Prop := ∀ (F H : Hp) (σ : L2.St) (Q : List V → Hp → Prop), Sat F H σ W →
  (∀ vs F' H', Rel F H (Own W σ) F' H' (Own W' σ) → Sat F' H' σ W' → (∀ a, Own W' σ a → ∃ o, H a = some o) → MOk F' H' H ds vs → Q vs H') → t σ H Q
theorem am_nil : AM tNil W W [] := fun F H σ Q s k => k [] F H Rel.refl s (fun a o => o.lt s) trivial
theorem am_fz {tr : TA} {ds : List Ds} (h : ES ta W W r) (hr : AM tr W W ds) : AM (tCons ta tr) W W (.fz r :: ds) := fun F H σ Q s k =>
  h F H σ _ s fun v F1 H1 a1 s1 e1 => hr F1 H1 σ _ s1 fun vs F2 H2 a2 s2 o2 e2 => k (v :: vs) F2 H2 (a1.trans a2) s2 (fun a o => o.lt s) ⟨r.mono a2.f e1, e2.base fun a z => a1.t a z⟩
/-- .. what comes first may change what is owned -/
theorem am_fzb {tr : TA} {ds : List Ds} (h : ES ta W W1 r) (hr : AM tr W1 W2 ds) (ho : ∀ (σ : L2.St) (a : Addr), Own W2 σ a → Own W σ a) : AM (tCons ta tr) W W2 (.fz r :: ds) := fun F H σ Q s k =>
  h F H σ _ s fun v F1 H1 a1 s1 e1 => hr F1 H1 σ _ s1 fun vs F2 H2 a2 s2 o2 e2 => k (v :: vs) F2 H2 (a1.trans a2) s2 (fun a o => (ho σ a o).lt s) ⟨r.mono a2.f e1, e2.base fun a z => a1.t a z⟩
def putV : L2.St → List Nat → List V → L2.St
  | σ, i :: is, v :: vs => putV (σ.set i (some v)) is vs
  | σ, _, _ => σ
def putD : List Sl → List Nat → List Ds → List Sl
  | W, i :: is, .fz r :: ds => putD (W.set i (.fz r)) is ds
  | W, i :: is, .nw c :: ds => putD (W.set i (.ow c)) is ds
  | W, _, _ => W
theorem put_all {F H : Hp} : ∀ {is : List Nat} {ds : List Ds} {vs : List V} {σ : L2.St} {W : List Sl} {Hb : Hp}, Sat F H σ W → ghV W is = true → (∀ a, Own W σ a → ∃ o, Hb a = some o) → MOk F H Hb ds vs →
    Sat F H (putV σ is vs) (putD W is ds) ∧ ∀ a, Own (putD W is ds) (putV σ is vs) a → Own W σ a ∨ Hb a = none
  | [], [], [], σ, W, Hb, s, _, _, _ => ⟨s, fun _ o => .inl o⟩
  | [], .fz _ :: _, _ :: _, σ, W, Hb, s, _, _, _ => ⟨s, fun _ o => .inl o⟩
  | [], .nw _ :: _, _ :: _, σ, W, Hb, s, _, _, _ => ⟨s, fun _ o => .inl o⟩
  | _ :: _, [], [], σ, W, Hb, s, _, _, _ => ⟨s, fun _ o => .inl o⟩
  | i :: is, .fz r :: ds, v :: vs, σ, W, Hb, s, hv, ho, h => by
    obtain ⟨s1, o1⟩ := put_all (is := is) (s.put (i := i) h.1 (ghV_hd hv)) (ghV_tl hv rfl) (fun a o => ho a o.put) h.2
    exact ⟨s1, fun a o => (o1 a o).imp (fun z => z.put) id⟩
  | i :: is, .nw c :: ds, v :: vs, σ, W, Hb, s, hv, ho, ⟨p, o, e, h2, h3, h4, h5, h6⟩ => by
    subst e
    have np : ¬ Own W σ p := fun z => by
      obtain ⟨u, y⟩ := ho p z
      rw [h2] at y; cases y
    obtain ⟨s1, o1⟩ := put_all (is := is) (s.own (i := i) h3 h4 np h5 (ghV_hd hv)) (ghV_tl hv rfl) (fun a z => by
      rcases z.own with y | y
      · obtain ⟨u, q⟩ := ho a y
        exact ⟨u, by rw [upd_ne (fun e => by subst e; rw [h2] at q; cases q)]; exact q⟩
      · subst y; exact ⟨o, upd_same⟩) h6
    refine ⟨s1, fun a z => ?_⟩
    rcases o1 a z with y | y
    · rcases y.own with q | q
      · exact .inl q
      · subst q; exact .inr h2
    · by_cases q : a = p
      · subst q; rw [upd_same] at y; cases y
      · rw [upd_ne q] at y; exact .inr y
  | [], [], _ :: _, _, _, _, _, _, _, h => h.elim
  | _ :: _, [], _ :: _, _, _, _, _, _, _, h => h.elim
  | [], .fz _ :: _, [], _, _, _, _, _, _, h => h.elim
  | [], .nw _ :: _, [], _, _, _, _, _, _, h => h.elim
  | _ :: _, .fz _ :: _, [], _, _, _, _, _, _, h => h.elim
  | _ :: _, .nw _ :: _, [], _, _, _, _, _, _, h => h.elim
/-- a, b = e1, e2 -/
theorem ss_parM {i j : Nat} {tr : TA} {d1 d2 : Ds} (h : AM tr W W1 [d1, d2]) (k : P.nx (putD W1 [i, j] [d1, d2])) (hv : ghV W1 [i, j] = true := by rfl) : SS (tPar i j tr) W P := fun F H σ D s kn _ _ _ =>
  h F H σ _ s fun vs F1 H1 a1 s1 o1 e1 => by
    match vs, e1.len with
    | [v, w], _ =>
      obtain ⟨s2, o2⟩ := put_all (is := [i, j]) s1 hv o1 e1
      exact ⟨v, w, rfl, kn _ _ F1 H1 k ⟨a1.f, a1.h, a1.n, a1.t, fun a m => (o2 a m).elim (a1.o a) .inr⟩ s2⟩
def gNames : List Nat → TGs
  | [] => gNil
  | i :: is => gCons (gName i) (gNames is)
theorem gNames_go {Q : L2.St → Hp → Prop} {H : Hp} : ∀ {is : List Nat} {vs : List V} {σ : L2.St}, vs.length = is.length → Q (putV σ is vs) H → gNames is vs σ H Q
  | [], [], _, _, q => ⟨rfl, q⟩
  | i :: is, v :: vs, σ, h, q => ⟨v, vs, rfl, gNames_go (is := is) (vs := vs) (by simpa using h) q⟩
  | [], _ :: _, _, h, _ => by cases h
  | _ :: _, [], _, h, _ => by cases h
/-- (a, b, ..) = (e1, e2, ..) by a tuple -/
theorem ss_tupM {tr : TA} {ds : List Ds} {n : Nat} (is : List Nat) (h : AM tr W W1 ds) (hn : is.length = n) (hd : ds.length = n) (hz : n ≤ 100000) (k : P.nx (putD W1 is ds)) (hv : ghV W1 is = true := by rfl) : SS (tAsg (tTup tr) (gTup K n (gNames is))) W P := fun F H σ D s kn _ _ _ =>
  h F H σ _ s fun vs F1 H1 a1 s1 o1 e1 => by
    refine ⟨Nat.le_trans (by rw [e1.len, hd]; exact hz) (by decide), fun p hp => ⟨p, vs, rfl, .inl (.inl upd_same), e1.len.trans hd, gNames_go (e1.len.trans (hd.trans hn.symm)) ?_⟩⟩
    obtain ⟨s2, o2⟩ := put_all (is := is) (s1.lay (o := .tup vs) hp) hv (fun a o => o1 a o) (MOk.lay hp s1.ex e1)
    have a2 := a1.trans (Rel.lay (o := HO.tup vs) s1.ex hp)
    exact kn _ _ _ _ k ⟨a2.f, a2.h, a2.n, a2.t, fun a m => (o2 a m).elim (a2.o a) .inr⟩ s2
end
end Fw
end
section
set_option maxRecDepth 100000
namespace Fw
open PySem L2
def owPos (W : List Sl) : List (Option (Option Addr)) := W.map fun | .ow _ => some none | .gh q _ => some (some q) | _ => none
theorem own_pos {W W' : List Sl} {σ : L2.St} {a : Addr} (h : owPos W' = owPos W) (o : Own W' σ a) : Own W σ a := by
  obtain ⟨i, c, ⟨h1, h2⟩ | h1⟩ := o
  · have e : (owPos W')[i]? = some (some none) := by unfold owPos; rw [List.getElem?_map, h1]; rfl
    rw [h] at e
    unfold owPos at e
    rw [List.getElem?_map] at e
    cases q : W[i]? with
    | none => rw [q] at e; cases e
    | some s =>
      rw [q] at e
      cases s with
      | ow d => exact ⟨i, d, .inl ⟨q, h2⟩⟩
      | _ => cases e
  · have e : (owPos W')[i]? = some (some (some a)) := by unfold owPos; rw [List.getElem?_map, h1]; rfl
    rw [h] at e
    unfold owPos at e
    rw [List.getElem?_map] at e
    cases q : W[i]? with
    | none => rw [q] at e; cases e
    | some s =>
      rw [q] at e
      cases s with
      | gh b d =>
        have : a = b := by
          have := Option.some.inj (Option.some.inj (Option.some.inj e))
          exact this.symm
        subst this
        exact ⟨i, d, .inr q⟩
      | _ => cases e
section
variable {W W' W0 W1 W2 W3 : List Sl} {K : PySem.W.Frag} {ta tb tc te to tl : TE} {tc' tt : TT} {r ra rb : R} {x y z v : V} {a b : Bool} {ι : Type} {F H F' H' : Hp} {σ : L2.St} {E : XK} {P P1 : Post} {ts uu tA tB : TS} {g : TG}
variable {α β γ δ : Type}
theorem am_fzo {tr : TA} {ds : List Ds} (h : ES ta W W1 r) (hr : AM tr W1 W2 ds) (ho : owPos W2 = owPos W) : AM (tCons ta tr) W W2 (.fz r :: ds) := am_fzb h hr fun _ _ o => own_pos ho o
theorem am_nwo {tr : TA} {ds : List Ds} {c : OC} (h : ESN ta W W1 c) (hr : AM tr W1 W2 ds) (ho : owPos W2 = owPos W) : AM (tCons ta tr) W W2 (.nw c :: ds) := fun F H σ Q s k =>
  h F H σ _ s fun p o F1 H1 a1 s1 hp ho1 fp np hc => hr F1 H1 σ _ s1 fun vs F2 H2 a2 s2 o2 e2 => by
    have f2 : F2 p = none := a2.nof s2.ex fp ho1 np (c.nt hc)
    refine k (.ref p :: vs) F2 H2 (a1.trans a2) s2 (fun a o => (own_pos ho o).lt s) ⟨p, o, rfl, hp, a2.h p o np ho1, f2, c.mono a2.f hc, e2.base fun a z => ?_⟩
    by_cases q : a = p
    · subst q; rw [ho1] at z; cases z
    · rw [upd_ne q]; exact a1.t a z
/-- a built-in of a frozen thing that gives a plain value -/
theorem es_cbr {g : List V → Hp → VK → Prop} (ha : ES ta W W1 r) (hg : ∀ (F H : Hp) (v : V) (Q : VK), Same F H → r.p F v → Q z H → g [v] H Q) : ES (tCB g (tCons ta tNil)) W W1 (eV z) := fun F H σ Q s k =>
  ha F H σ _ s fun v F1 H1 a1 s1 e1 => hg F1 H1 v Q s1.ex e1 (k z F1 H1 a1 s1 rfl)
theorem all2_ints {F : Hp} : ∀ {l : List Int} {xs : List V}, All2 (l.map fun i => eI i) F xs → xs = l.map V.int
  | [], [], _ => rfl
  | i :: l, x :: xs, h => by
    have e : x = V.int i := h.1
    subst e
    rw [all2_ints h.2]; rfl
  | [], _ :: _, h => h.elim
  | _ :: _, [], h => h.elim
theorem es_sum {l : List Int} (ha : ES ta W W1 (eLs (fun i => eI i) l)) : ES (tCB (rSum K) (tCons ta tNil)) W W1 (eI l.sum) := es_cbr ha fun F H v Q e ⟨p, xs, h1, h2, h3⟩ q => by
  subst h1
  cases all2_ints h3
  exact ⟨p, l, rfl, .inl (.inl (e _ _ h2)), q⟩
/-- len of a list, of a tuple -/
theorem es_lenL {rs : List R} (ha : ES ta W W1 (eL rs)) : ES (tCB (fun xs H Q => ∃ p ys, xs = [.ref p] ∧ (SqL K H p ys ∨ SqT K H p ys) ∧ Q (.int ys.length) H) (tCons ta tNil)) W W1 (eI (rs.length : Int)) := es_cbr ha fun F H v Q e ⟨p, xs, h1, h2, h3⟩ q => by
  subst h1
  rw [← h3.len] at q
  exact ⟨p, xs, rfl, .inl (.inl (.inl (e _ _ h2))), q⟩
theorem es_lenLs {e : α → R} {l : List α} (ha : ES ta W W1 (eLs e l)) : ES (tCB (fun xs H Q => ∃ p ys, xs = [.ref p] ∧ (SqL K H p ys ∨ SqT K H p ys) ∧ Q (.int ys.length) H) (tCons ta tNil)) W W1 (eI (l.length : Int)) := by
  have h := es_lenL (K := K) ha
  rw [List.length_map] at h; exact h
/-- xs[i], a frozen list, an open index in bounds -/
def nth [Inhabited α] (l : List α) (i : Int) : α := l.getD i.toNat default
theorem nth_get [Inhabited α] {l : List α} {i : Int} (h : 0 ≤ i ∧ i < l.length) : l[i.toNat]? = some (nth l i) := by
  have hb : i.toNat < l.length := by omega
  unfold nth
  rw [List.getD_eq_getElem?_getD, List.getElem?_eq_getElem hb]; rfl
theorem es_ixL [Inhabited α] {e : α → R} {l : List α} {i : Int} (ha : ES ta W W1 (eLs e l)) (hi : ES tb W1 W2 (eI i)) (h : 0 ≤ i ∧ i < l.length) : ES (tOp (rIxL K) ta tb) W W2 (e (nth l i)) := fun F H σ Q s k =>
  ha F H σ _ s fun v F1 H1 a1 s1 ⟨p, xs, h1, h2, h3⟩ => hi F1 H1 σ _ s1 fun w F2 H2 a2 s2 e2 => by
    have e2' : w = V.int i := e2
    subst h1 e2'
    obtain ⟨x, z1, z2⟩ := h3.get' (i := i.toNat) (r := e (nth l i)) (by rw [List.getElem?_map, nth_get h]; rfl)
    have hx := atI_k z1
    rw [Int.toNat_of_nonneg h.1] at hx
    exact ⟨p, xs, i, x, rfl, rfl, .inl (.inl (s2.ex _ _ (a2.f _ _ h2))), hx, k x F2 H2 (a1.trans a2) s2 ((e (nth l i)).mono a2.f z2)⟩
/-- a field of an instance -/
def eIns (C : Addr) (fs : List (Str × R)) : R := ⟨fun F v => ∃ p dx gs, v = .ref p ∧ F p = some (.ins C dx gs) ∧ gs.map Prod.fst = fs.map Prod.fst ∧ All2 (fs.map Prod.snd) F (gs.map Prod.snd),
  fun e ⟨p, dx, gs, h1, h2, h3, h4⟩ => ⟨p, dx, gs, h1, e _ _ h2, h3, h4.mono e⟩⟩
theorem ins_look {F : Hp} : ∀ {fs : List (Str × R)} {gs : List (Str × V)} {f : Str} {r : R}, gs.map Prod.fst = fs.map Prod.fst → All2 (fs.map Prod.snd) F (gs.map Prod.snd) → fs.lookup f = some r → ∃ v, gs.lookup f = some v ∧ r.p F v
  | (n, q) :: fs, (m, v) :: gs, f, r, e, h, l => by
    have en : m = n := (List.cons.inj e).1
    subst en
    unfold List.lookup at l ⊢
    by_cases z : (f == m) = true
    · rw [z] at l ⊢
      cases l
      exact ⟨v, rfl, h.1⟩
    · have z' : (f == m) = false := by simpa using z
      rw [z'] at l ⊢
      exact ins_look (List.cons.inj e).2 h.2 l
  | [], _, f, r, _, _, l => by cases l
  | _ :: _, [], _, _, _, h, _ => h.elim
theorem ins_none : ∀ {fs : List (Str × R)} {gs : List (Str × V)} {f : Str}, gs.map Prod.fst = fs.map Prod.fst → fs.lookup f = none → gs.lookup f = none
  | (n, q) :: fs, (m, v) :: gs, f, e, l => by
    have en : m = n := (List.cons.inj e).1
    subst en
    unfold List.lookup at l ⊢
    by_cases z : (f == m) = true
    · rw [z] at l; cases l
    · have z' : (f == m) = false := by simpa using z
      rw [z'] at l ⊢
      exact ins_none (List.cons.inj e).2 l
  | [], [], f, _, _ => rfl
  | [], _ :: _, _, e, _ => by cases e
  | _ :: _, [], _, e, _ => by cases e
theorem es_fld {C : Addr} {fs : List (Str × R)} {f : Str} (c : Cls K C) (n : NoAttr K C f) (ha : ES ta W W1 (eIns C fs)) (hf : fs.lookup f = some r) : ES (tFld K ta f) W W1 r := fun F H σ Q s k =>
  ha F H σ _ s fun v F1 H1 a1 s1 ⟨p, dx, gs, h1, h2, h3, h4⟩ => by
    obtain ⟨w, z1, z2⟩ := ins_look h3 h4 hf
    exact ⟨p, C, dx, gs, w, h1, s1.ex _ _ h2, c, n, z1, k w F1 H1 a1 s1 z2⟩
/-- isinstance -/
theorem es_isi {c : V} {u t : Value} (ha : ES ta W W1 r) (hc : ClsV c u) (ht : ∀ (F H : Hp) (v : V), Same F H → r.p F v → TyX K H v t) (hk : PySem.W.kitOne K t u = some b) : ES (tCB (rIsi K) (tCons ta (tCons (tC c) tNil))) W W1 (eB b) := fun F H σ Q s k =>
  ha F H σ _ s fun v F1 H1 a1 s1 e1 => ⟨v, c, t, u, b, rfl, hc, ht F1 H1 v s1.ex e1, hk, k _ F1 H1 a1 s1 rfl⟩
theorem ty_int {i : Int} : ∀ (F H : Hp) (v : V), Same F H → (eI i).p F v → TyX K H v (.type "int") := fun F H v _ h => by
  have e : v = V.int i := h
  subst e; exact .base (.int i)
theorem ty_lst {rs : List R} : ∀ (F H : Hp) (v : V), Same F H → (eL rs).p F v → TyX K H v (.type "list") := fun F H v e ⟨p, xs, h1, h2, _⟩ => by
  subst h1; exact .base (.lst (e _ _ h2))
end
end Fw
end
section
set_option maxRecDepth 100000
namespace Fw
open PySem L2
structure Bag where
  a : Int
  c : Int
  t : Int
abbrev bagR (b : Bag) : List R := [eI b.a, eI b.c, eI b.t]
structure Tbl where
  capacity : Int
  rate : Int
  shift : Int
structure TblTxt (K : PySem.W.Frag) (mg : Str → Option Value) (C : Addr) : Prop where
  cl : Cls K C
  nC : NoAttr K C "own_capacity"
  nR : NoAttr K C "own_rate"
  nS : NoAttr K C "own_shift"
  mgT : mg "Table" = some (.ref C)
  isT : PySem.W.kitOne K (.ref C) (.ref C) = some true
  xa : PySem.W.findIn K (.ref C) "__class__" = some (some (.builtin "object.__class__"))
  xb : PySem.W.specialIn K (.builtin "object.__class__") "__get__" = some (some (.builtin "getset_descriptor.__get__"))
  xc : PySem.W.takesIn K (.builtin "object.__class__") = some true
  xd : PySem.W.mroIn K C (.type "object") = some true
instance : Inhabited Bag := ⟨⟨0, 0, 0⟩⟩
instance : Inhabited Tbl := ⟨⟨0, 0, 0⟩⟩
theorem sq_assoc {a b c : TS} : tSeq (tSeq a b) c = tSeq a (tSeq b c) := rfl
theorem sq_next {c : TS} : tSeq tNext c = c := rfl
section
variable {W W' W0 W1 W2 W3 : List Sl} {K : PySem.W.Frag} {ta tb tc te to tl : TE} {tc' tt : TT} {r ra rb : R} {x y z v : V} {a b : Bool} {ι : Type} {F H F' H' : Hp} {σ : L2.St} {E : XK} {P P1 : Post} {ts uu tA tB : TS} {g : TG}
variable {α β γ δ : Type}
theorem es_frs (e : α → R) (l : List α) (h : ESN te W W1 (oL (l.map e))) : ES te W W1 (eLs e l) := es_fr h
theorem es_shlL {i j : Int} (ha : ES ta W W1 (eI i)) (hb : ES tb W1 W2 (eI j)) (c : 0 ≤ j ∧ j ≤ 1000000) (d : i.natAbs < 2 ^ 64) : ES (tOp (rI CPow fun i j => .int (i * 2 ^ j.toNat)) ta tb) W W2 (eI (i * 2 ^ j.toNat)) := es_shl ha hb ⟨c.1, c.2, d⟩
theorem es_shlW {i j : Int} (ha : ES ta W W1 (eI i)) (hb : ES tb W1 W2 (eI j)) (c : CShl i j) : ES (tOp (rI CShl fun i j => .int (i * 2 ^ j.toNat)) ta tb) W W2 (eI (i * 2 ^ j.toNat)) := es_op ha hb fun _ _ q => ⟨i, j, rfl, rfl, c, q⟩
/-- xs + ys -/
theorem en_cat {e : α → R} {l m : List α} (ha : ES ta W W1 (eLs e l)) (hb : ES tb W1 W2 (eLs e m)) (c : l.length + m.length ≤ 16000000) : ESN (tOp rCat ta tb) W W2 (oL ((l ++ m).map e)) := fun F H σ Q s k =>
  ha F H σ _ s fun v F1 H1 a1 s1 ⟨p, xs, h1, h2, h3⟩ => hb F1 H1 σ _ s1 fun w F2 H2 a2 s2 ⟨q, ys, g1, g2, g3⟩ => by
    subst h1 g1
    have e1 := h3.len
    have e2 := g3.len
    rw [List.length_map] at e1 e2
    refine ⟨p, q, xs, ys, rfl, rfl, s2.ex _ _ (a2.f _ _ h2), s2.ex _ _ g2, Nat.le_trans (by rw [e1, e2]; exact c) (by decide), fun l' hl => ?_⟩
    have ex : Same H2 (upd H2 l' (.lst (xs ++ ys))) := fun a o q => by rw [upd_ne (ne_of_none q hl)]; exact q
    refine k l' _ F2 _ ((a1.trans a2).trans (Rel.grow ex)) (s2.grow ex) ((a1.trans a2).t _ hl) upd_same (s2.ex.free hl) (not_own s2 hl) ⟨nofun, _, rfl, ?_⟩
    rw [List.map_append]
    exact (h3.mono a2.f).app g3
theorem en_lcF (e : β → R) (f : α → β) {p : α → Bool} {l : List α} (h : ESN te W W1 (oL ((l.filter p).map fun x => e (f x)))) (hp : ∀ x, p x = true := by intro _; rfl) : ESN te W W1 (oL ((l.map f).map e)) := by
  rw [List.map_map]
  have : l.filter p = l := List.filter_eq_self.mpr fun x _ => hp x
  rw [this] at h
  exact h
theorem en_lcFT (e : β → R) (f : α → β) {p : α → Bool} {l : List α} (h : ESN te W W1 (oL ((l.filter p).map fun x => e (f x)))) : ESN te W W1 (oL (((l.filter p).map f).map e)) := by
  rw [List.map_map]; exact h
theorem ss_ifj (vA vB : α) (mk : α → List Sl) (h : ET tc' W W1 a) (hA : a = true → SS tA W1 ⟨fun W' => Wk W' (mk vA), P.rt, P.bk, P.ct⟩) (hB : a = false → SS tB W1 ⟨fun W' => Wk W' (mk vB), P.rt, P.bk, P.ct⟩)
    (k : ∀ x, x = (if a = true then vA else vB) → SS uu (mk x) P) : SS (tSeq (tIfS tc' tA tB) uu) W P := by
  refine ss_seqTo (mk (if a = true then vA else vB)) (ss_if h (fun q => ?_) fun q => ?_) (k _ rfl)
  · have e : (if a = true then vA else vB) = vA := if_pos q
    rw [e]; exact hA q
  · have e : (if a = true then vA else vB) = vB := if_neg (by rw [q]; exact Bool.false_ne_true)
    rw [e]; exact hB q
theorem ss_appendO {e : α → R} {x : α} {l0 l : List α} {i : Nat} {q0 q1 : Option Addr} (h0 : W[i]? = some (.ow (oLq q0 (l0.map e)))) (h : ES te W W1 (e x)) (h1 : W1[i]? = some (.ow (oLq q1 (l.map e)))) (hl : l.length < 16000000)
    (k : P.nx (W1.set i (.ow (oLq q1 ((l ++ [x]).map e))))) : SS (tDrop (tBM K "list" rAppend (tVar i) (tCons te tNil))) W P :=
  ss_append h0 h h1 (by rw [List.length_map]; exact hl) (by rw [List.map_append] at k; exact k)
theorem es_ixLastO [Inhabited α] {e : α → R} {l : List α} {i : Nat} {q : Option Addr} (h0 : W[i]? = some (.ow (oLq q (l.map e)))) (h : l ≠ []) : ES (tOp (rIxL K) (tVar i) (tUn (rU fun i => .int (-i)) (tC (.int 1)))) W W (e (nth l (l.length - 1))) := fun F H σ Q s k => by
  obtain ⟨p, o, e0, g1, _, ⟨_, xs, rfl, h3⟩⟩ := s.ow i _ h0
  have pos : 0 < l.length := List.length_pos_iff.mpr h
  have hn := nth_get (l := l) (i := (l.length : Int) - 1) (by omega)
  have hb : ((l.length : Int) - 1).toNat = l.length - 1 := by omega
  rw [hb] at hn
  obtain ⟨x, z1, z2⟩ := h3.get' (i := l.length - 1) (r := e (nth l (l.length - 1))) (by rw [List.getElem?_map, hn]; rfl)
  have el := h3.len
  rw [List.length_map] at el
  refine ⟨.ref p, e0, 1, rfl, p, xs, -1, x, rfl, rfl, .inl (.inl g1), ?_, k x F H Rel.refl s z2⟩
  unfold atI ixN
  rw [if_neg (by omega), if_pos (by omega)]
  have e3 : (-1 + (xs.length : Int)).toNat = l.length - 1 := by omega
  show xs[(-1 + (xs.length : Int)).toNat]? = some x
  rw [e3]; exact z1
/-- an owned list is handed out -/
theorem ss_retO {e : α → R} {l : List α} {i : Nat} {q : Option Addr} (h0 : W[i]? = some (.ow (oLq q (l.map e)))) (k : P.rt (W.set i .no) (eLs e l)) : SS (tSeq (tRet (tVar i)) uu) W P := fun F H σ D s _ kr _ _ => by
  obtain ⟨p, o, e0, g1, g2, ⟨_, xs, rfl, h3⟩⟩ := s.ow i _ h0
  have hi : i < W.length := (List.getElem?_eq_some_iff.mp h0).1
  have wk : Wk W (W.set i .no) := Wk.no h0 rfl
  have s1 := s.weak wk
  have np : ¬ Own (W.set i .no) σ p := no_own_no s h0 e0
  refine ⟨.ref p, e0, kr _ σ _ _ _ H k ((Rel.refl.sub fun a o => wk.sub o).freeze (p := p) (o := .lst xs) (.inr ⟨i, _, .inl ⟨h0, e0⟩⟩) g2) (s1.freeze g1 g2 np) ⟨p, xs, rfl, upd_same, h3.mono fun a o z => ?_⟩⟩
  rw [upd_ne (ne_of_none z g2)]; exact z
theorem ty_bl {i : Bool} : ∀ (F H : Hp) (v : V), Same F H → (eB i).p F v → TyX K H v (.type "bool") := fun F H v _ h => by
  have e : v = V.bl i := h
  subst e; exact .base (.bl i)
theorem ty_str {i : Str} : ∀ (F H : Hp) (v : V), Same F H → (eS i).p F v → TyX K H v (.type "str") := fun F H v _ h => by
  have e : v = V.str i := h
  subst e; exact .base (.str i)
theorem ty_tup {rs : List R} : ∀ (F H : Hp) (v : V), Same F H → (eT K rs).p F v → TyX K H v (.type "tuple") := fun F H v e ⟨p, xs, h1, h2, _⟩ => by
  subst h1
  exact .base (.tup (e _ _ h2))
theorem ty_ins {C : Addr} {fs : List (Str × R)} (cl : Cls K C) (xa : PySem.W.findIn K (.ref C) "__class__" = some (some (.builtin "object.__class__"))) (xb : PySem.W.specialIn K (.builtin "object.__class__") "__get__" = some (some (.builtin "getset_descriptor.__get__")))
    (xc : PySem.W.takesIn K (.builtin "object.__class__") = some true) (xd : PySem.W.mroIn K C (.type "object") = some true) : ∀ (F H : Hp) (v : V), Same F H → (eIns C fs).p F v → TyX K H v (.ref C) := fun F H v e ⟨p, dx, gs, h1, h2, _⟩ => by
  subst h1
  exact .base (.ins (e _ _ h2) cl xa xb xc xd)
/-- what comes out is new and owned -/
def spN {ι : Type} (as : ι → List R) (ok : ι → Prop) (c : ι → List R) : Sp := fun vs H Q _ => ∃ (d : ι) (F : Hp), ok d ∧ Same F H ∧ All2 (as d) F vs ∧
  ∀ p o F' H', Rel F H Nob F' H' Nob → Same F' H' → H p = none → H' p = some (.lst o) → F' p = none → All2 (c d) F' o → Q (.ref p) H'
theorem en_call {as : ι → List R} {ok : ι → Prop} {c : ι → List R} {tr : TA} (d : ι) (h : AS tr W W1 (as d)) (gd : ok d) : ESN (tCall (spN as ok c) [] E tr) W W1 (oL (c d)) := fun F H σ Q s k =>
  h F H σ _ s fun vs F1 H1 a1 s1 e1 => by
    rw [List.append_nil]
    refine ⟨d, F1, gd, s1.ex, e1, fun p o F2 H2 q e2 hp ho fp hc => k p _ F2 H2 (a1.trans q.pure) (s1.pure q e2) (a1.t p hp) ho fp ?_ ⟨nofun, o, rfl, hc⟩⟩
    exact fun ow => by
      obtain ⟨u, z⟩ := ow.lt s1
      rw [hp] at z; cases z
/-- a body that ends in `return` of what is new -/
def SSN (t : TS) (W : List Sl) (c : List R) : Prop := ∀ (F H : Hp) (σ : L2.St) (D : Ends), Sat F H σ W →
  (∀ p o F' H', Rel F H (Own W σ) F' H' (fun a => Own W σ a) → Same F' H' → H p = none → H' p = some (.lst o) → F' p = none → All2 c F' o → D.rt (.ref p) H') → t D σ H
theorem sn_ret {c : List R} (h : ESN te W W (oL c)) : SSN (tSeq (tRet te) uu) W c := fun F H σ D s k =>
  h F H σ _ s fun p o F1 H1 a1 s1 hp ho fp np ⟨_, xs, e, hc⟩ => by
    subst e
    exact k p xs F1 H1 a1 s1.ex hp ho fp hc
theorem def_N {as : ι → List R} {ok : ι → Prop} {c : ι → List R} {N : List Str} {vs : List V} {H : Hp} {Q : VK} {E : XK} (h : spN as ok c vs H Q E) (hN : ∀ d, (as d).length ≤ N.length)
    (k : ∀ d, ok d → SSN ts (slF (as d) N.length) (c d)) : ts { nx := fun _ H' => Q .non H', rt := Q } (L2.start N vs) H := by
  obtain ⟨d, F, hok, ex, ha, hq⟩ := h
  have el := ha.len
  have s : Sat F H (L2.start N vs) (slF (as d) N.length) := by
    refine ⟨ex, ?_, fun i r h => ?_, fun i c h => (slF_ow h).elim, fun i j c e p h => (slF_ow h).elim, Gh.no fun i q c h => slF_ng h⟩
    · refine len_real ?_ fun i s h => slF_real h
      unfold L2.start slF; simp [el]
    · obtain ⟨x, z1, z2⟩ := ha.get' (slF_fz h)
      exact ⟨x, start_at z1, z2⟩
  have own0 : ∀ a, ¬ Own (slF (as d) N.length) (L2.start N vs) a := fun a o => slF_own o
  refine k d hok F H (L2.start N vs) _ s fun p o F' H' a e hp ho fp hc => hq p o F' H' ⟨a.f, fun x o n h => a.h x o (own0 x) h, fun x o h => (a.n x o h).imp id (Or.imp id (Or.imp (fun m => own0 x m) id)), a.t, fun x m => m.elim⟩ e hp ho fp hc
/-- what a def hands back: a value; a value and what its first argument becomes -/
def FP (e : α → R) (v : α) : Post := ⟨fun _ => e v = eN, fun _ r => r = e v, fun _ => False, fun _ => False⟩
def BP (e : α → R) (p : Addr) (v : α × Bag) : Post := ⟨fun W' => e v.1 = eN ∧ W'[0]? = some (.ow (oLq (some p) (bagR v.2))), fun W' r => r = e v.1 ∧ W'[0]? = some (.ow (oLq (some p) (bagR v.2))), fun _ => False, fun _ => False⟩
def noNx (P : Post) : Post := ⟨fun _ => False, P.rt, P.bk, P.ct⟩
theorem ss_ifLv (Q : α → Post) {vA vB : α} (h : ET tc' W W1 a) (hA : a = true → SS tA W1 (noNx (Q vA))) (hB : a = false → SS (tSeq tB uu) W1 (Q vB)) : SS (tSeq (tIfS tc' tA tB) uu) W (Q (if a = true then vA else vB)) := by
  refine ss_ifL h (fun q => ?_) fun q => ?_
  · rw [if_pos q]; exact hA q
  · rw [if_neg (by rw [q]; exact Bool.false_ne_true)]; exact hB q
end
end Fw
end
section
set_option maxRecDepth 100000
namespace Fw
open PySem L2
/-- what is walked gives these items, one a turn -/
def Wlk (J : It) (F1 : Hp) (rs : List R) : Prop := ∀ (i : Nat) (F H : Hp), Same F1 F → Same F H →
  (∀ r, rs[i]? = some r → J.go i H ∧ ∀ x H', J.yld i H x H' → ∃ F', Rel F H Nob F' H' Nob ∧ Same F' H' ∧ r.p F' x) ∧ (rs.length ≤ i → J.stop i H)
def IS (wi : TI) (W W' : List Sl) (rs : List R) : Prop := ∀ (F H : Hp) (σ : L2.St) (Q : It → Hp → Prop), Sat F H σ W →
  (∀ J F' H', Rel F H (Own W σ) F' H' (Own W' σ) → Sat F' H' σ W' → Wlk J F' rs → Q J H') → wi σ H Q
section
variable {W W' W0 W1 W2 W3 : List Sl} {K : PySem.W.Frag} {ta tb tc te to tl : TE} {tc' tt : TT} {r ra rb : R} {x y z v : V} {a b : Bool} {ι : Type} {F H F' H' : Hp} {σ : L2.St} {E : XK} {P P1 : Post} {ts uu tA tB : TS} {g : TG} {wi : TI}
variable {α β γ δ ρ : Type}
theorem is_list {e : α → R} {l : List α} (h : ES tl W W1 (eLs e l)) : IS (iList K tl) W W1 (l.map e) := fun F H σ Q s k =>
  h F H σ _ s fun v F1 H1 a1 s1 ⟨p, xs, e1, e2, e3⟩ => by
    refine ⟨p, e1, ⟨xs, .inl (.inl (s1.ex _ _ e2))⟩, k (Itl K p) F1 H1 a1 s1 fun i F' H' f1 f2 => ⟨fun r hr => ?_, fun hl => ?_⟩⟩
    · obtain ⟨x, z1, z2⟩ := e3.get' hr
      have q : SqL K H' p xs := .inl (.inl (f2 _ _ (f1 _ _ e2)))
      refine ⟨⟨xs, x, q, z1⟩, fun y H'' ⟨u1, u2⟩ => ?_⟩
      subst u1
      have ey := u2 xs q
      rw [z1] at ey; cases ey
      exact ⟨F', Rel.refl, f2, r.mono f1 z2⟩
    · exact ⟨xs, .inl (.inl (f2 _ _ (f1 _ _ e2))), by rw [e3.len]; exact hl⟩
theorem is_tup {rs : List R} (h : ES tl W W1 (eT K rs)) : IS (iTup K tl) W W1 rs := fun F H σ Q s k =>
  h F H σ _ s fun v F1 H1 a1 s1 ⟨p, xs, e1, e2, e3⟩ => by
    refine ⟨p, e1, ⟨xs, sqT_up s1.ex e2⟩, k (Itt K p) F1 H1 a1 s1 fun i F' H' f1 f2 => ⟨fun r hr => ?_, fun hl => ?_⟩⟩
    · obtain ⟨x, z1, z2⟩ := e3.get' hr
      have q : SqT K H' p xs := sqT_up f2 (f1 _ _ e2)
      refine ⟨⟨xs, x, q, z1⟩, fun y H'' ⟨u1, u2⟩ => ?_⟩
      subst u1
      have ey := u2 xs q
      rw [z1] at ey; cases ey
      exact ⟨F', Rel.refl, f2, r.mono f1 z2⟩
    · exact ⟨xs, sqT_up f2 (f1 _ _ e2), by rw [e3.len]; exact hl⟩
theorem wlk_rng {lo n : Int} : Wlk (Itr lo (n - lo).toNat) F ((rng lo n).map eI) := fun i F' H' f1 f2 => ⟨fun r hr => by
  rw [List.getElem?_map] at hr
  have hi : i < (n - lo).toNat := by
    cases q : (rng lo n)[i]? with
    | none => rw [q] at hr; cases hr
    | some x => rw [← rng_len]; exact (List.getElem?_eq_some_iff.mp q).1
  rw [rng_at hi] at hr
  cases hr
  refine ⟨hi, fun x H'' ⟨u1, u2⟩ => ?_⟩
  subst u1
  exact ⟨F', Rel.refl, f2, u2⟩, fun hl => by rw [List.length_map, rng_len] at hl; exact hl⟩
theorem is_rng1 {tr : TA} {n : Int} (h : AS tr W W1 [eI n]) (hn : -(2 ^ 62) ≤ n ∧ n < 2 ^ 62) : IS (iRng1 tr) W W1 ((rng 0 n).map eI) := fun F H σ Q s k =>
  h F H σ _ s fun vs F1 H1 a1 s1 e1 => by
    match vs, e1 with
    | [v], e1 =>
      have e : v = V.int n := e1.1
      subst e
      have q := k _ F1 H1 a1 s1 (wlk_rng (lo := 0) (n := n))
      have en : (n - 0).toNat = n.toNat := by omega
      rw [en] at q
      exact ⟨n, rfl, hn.1, hn.2, q⟩
    | [], e1 => exact e1.elim
    | _ :: _ :: _, e1 => exact e1.2.elim
@[irreducible] def enumI (l : List α) : List (Int × α) := l.zipIdx.map fun p => ((p.2 : Int), p.1)
theorem enumI_at {l : List α} {i : Nat} : (enumI l)[i]? = (l[i]?).map fun x => ((i : Int), x) := by
  unfold enumI
  rw [List.getElem?_map, List.getElem?_zipIdx]
  cases l[i]? with
  | none => rfl
  | some x => simp
theorem enumI_len {l : List α} : (enumI l).length = l.length := by unfold enumI; simp
/-- a new pair is laid -/
theorem pair_new {T : Addr} {xs : List V} {rs : List R} (f2 : Same F H) (hT : H T = none) (h : All2 rs F xs) : ∃ F', Rel F H Nob F' (upd H T (.tup xs)) Nob ∧ Same F' (upd H T (.tup xs)) ∧ (eT K rs).p F' (.ref T) := by
  have fT := f2.free hT
  refine ⟨upd F T (.tup xs), Rel.lay f2 hT, fun a o z => ?_, T, xs, rfl, upd_same, h.mono fun a o z => by rw [upd_ne (ne_of_none z fT)]; exact z⟩
  by_cases q : a = T
  · subst q; rw [upd_same] at z; cases z; exact upd_same
  · rw [upd_ne q] at z ⊢; exact f2 a o z
theorem is_enum {e : α → R} {l : List α} (h : ES tl W W1 (eLs e l)) : IS (iEnum K (tCons tl tNil)) W W1 ((enumI l).map (eP2 K eI e)) := fun F H σ Q s k =>
  h F H σ _ s fun v F1 H1 a1 s1 ⟨p, xs, e1, e2, e3⟩ => by
    subst e1
    refine ⟨p, xs, rfl, .inl (.inl (s1.ex _ _ e2)), k (Ite K p) F1 H1 a1 s1 fun i F' H' f1 f2 => ⟨fun r hr => ?_, fun hl => ?_⟩⟩
    · rw [List.getElem?_map, enumI_at] at hr
      cases q : l[i]? with
      | none => rw [q] at hr; cases hr
      | some x0 =>
        rw [q] at hr; cases hr
        obtain ⟨x, z1, z2⟩ := e3.get' (i := i) (r := e x0) (by rw [List.getElem?_map, q]; rfl)
        have qs : SqL K H' p xs := .inl (.inl (f2 _ _ (f1 _ _ e2)))
        refine ⟨⟨xs, x, qs, z1⟩, fun y H'' ⟨T, x', u1, u2, u3, u4⟩ => ?_⟩
        subst u1 u3
        have ey := u4 xs qs
        rw [z1] at ey; cases ey
        exact pair_new f2 u2 ⟨rfl, (e x0).mono f1 z2, trivial⟩
    · refine ⟨xs, .inl (.inl (f2 _ _ (f1 _ _ e2))), ?_⟩
      rw [e3.len, List.length_map]
      rw [List.length_map, enumI_len] at hl; exact hl
/-- for over any source -/
theorem ss_forS {tb : TS} {rs : List R} (I : Nat → List Sl → Prop) (h : IS wi W W1 rs) (h0 : I 0 W1)
    (hs : ∀ i r W', rs[i]? = some r → I i W' → ∃ W2 is, GS g r W' W2 is ∧ SS tb W2 ⟨I (i + 1), P.rt, P.nx, I (i + 1)⟩) (hd : ∀ W', I rs.length W' → P.nx W') : SS (tFor wi g tb) W P := fun F H σ D s kn kr kb kc =>
  h F H σ _ s fun J F1 H1 a1 s1 hw => by
    refine ⟨fun i m σ' H' => m = rs.length - i ∧ i ≤ rs.length ∧ ∃ W' F', I i W' ∧ Rel F1 H1 (Own W1 σ) F' H' (Own W' σ') ∧ Sat F' H' σ' W', ⟨rs.length, by simp, Nat.zero_le _, W1, F1, h0, Rel.refl, s1⟩, ?_⟩
    rintro i m σ' H' ⟨rfl, hi, W', F', hI, q, s'⟩
    obtain ⟨w1, w2⟩ := hw i F' H' q.f s'.ex
    by_cases hlt : i < rs.length
    · have hr : rs[i]? = some rs[i] := List.getElem?_eq_getElem hlt
      obtain ⟨go, yl⟩ := w1 _ hr
      obtain ⟨W2, is, hg, hb⟩ := hs i _ W' hr hI
      refine .inr ⟨go, fun σ' H' => ∃ W' F', I (i + 1) W' ∧ Rel F1 H1 (Own W1 σ) F' H' (Own W' σ') ∧ Sat F' H' σ' W', fun σ2 H2 z => ⟨rs.length - (i + 1), by omega, rfl, hlt, z⟩, fun x H2 y => ?_⟩
      obtain ⟨F2, q2, e2, hx⟩ := yl x H2 y
      have s2 := s'.pure q2 e2
      refine hg F2 H2 σ' x _ s2 hx fun σ3 o3 s3 _ => hb F2 H2 σ3 _ s3 ?_ ?_ ?_ ?_
      · exact fun W4 σ4 F4 H4 n4 a4 s4 => ⟨W4, F4, n4, (q.trans q2.pure).trans ((Rel.refl.sub o3).trans a4), s4⟩
      · exact fun W4 σ4 r4 v4 F4 H4 n4 a4 s4 y4 => kr W4 σ4 r4 v4 F4 H4 n4 (a1.trans ((q.trans q2.pure).trans ((Rel.refl.sub o3).trans a4))) s4 y4
      · exact fun W4 σ4 F4 H4 n4 a4 s4 => kn W4 σ4 F4 H4 n4 (a1.trans ((q.trans q2.pure).trans ((Rel.refl.sub o3).trans a4))) s4
      · exact fun W4 σ4 F4 H4 n4 a4 s4 => ⟨W4, F4, n4, (q.trans q2.pure).trans ((Rel.refl.sub o3).trans a4), s4⟩
    · have e : i = rs.length := by omega
      subst e
      exact .inl ⟨w2 (Nat.le_refl _), kn W' σ' F' H' (hd W' hI) (a1.trans q) s'⟩
theorem sf_S {e : α → R} {l : List α} (mk : β → List Sl) (bd : β → α → β) (ok : β → α → Prop) (s0 : β) (h : IS wi W W1 (l.map e)) (w : Wk W1 (mk s0)) (hg : okF ok bd s0 l)
    (hs : ∀ s x, x ∈ l → ok s x → ∃ W2 is, GS g (e x) (mk s) W2 is ∧ SS ts W2 ⟨fun W' => Wk W' (mk (bd s x)), P.rt, fun _ => False, fun W' => Wk W' (mk (bd s x))⟩) (hd : ∀ W', Wk W' (mk (l.foldl bd s0)) → P.nx W') : SS (tFor wi g ts) W P := by
  refine ss_forS (fun i W' => Wk W' (mk ((l.take i).foldl bd s0))) h (by simpa using w) (fun i r W' hr hi => ?_) fun W' hw => hd W' (by rw [List.length_map, List.take_length] at hw; exact hw)
  rw [List.getElem?_map] at hr
  cases q : l[i]? with
  | none => rw [q] at hr; cases hr
  | some x =>
    rw [q] at hr
    have er : e x = r := Option.some.inj hr
    subst er
    obtain ⟨W2, is, h1, h2⟩ := hs _ x (List.mem_of_getElem? q) (okF_at hg q)
    rw [foldl_take q]
    exact ⟨W2, is, fun F H σ v Q s hv k => h1 F H σ v Q (s.weak hi) hv fun σ' o s' d => k σ' (fun a z => hi.sub (o a z)) s' d, h2.imp (fun _ z => z) (fun _ _ z => z) (fun _ z => z.elim) fun _ z => z⟩
/-- .. whose turns may hand something back -/
def loopR (bd : β → α → ρ ⊕ β) : β → List α → ρ ⊕ β
  | s, [] => .inr s
  | s, x :: l => match bd s x with
    | .inl r => .inl r
    | .inr s' => loopR bd s' l
def okR (ok : β → α → Prop) (bd : β → α → ρ ⊕ β) : β → List α → Prop
  | _, [] => True
  | s, x :: l => ok s x ∧ match bd s x with
    | .inl _ => True
    | .inr s' => okR ok bd s' l
def LQ (mk : β → List Sl) (Q : γ → Post) (vR : ρ → γ) : ρ ⊕ β → Post
  | .inl r => ⟨fun _ => False, (Q (vR r)).rt, fun _ => False, fun _ => False⟩
  | .inr s => ⟨fun W' => Wk W' (mk s), fun _ _ => False, fun _ => False, fun W' => Wk W' (mk s)⟩
def sumC (vR : ρ → γ) (vN : β → γ) : ρ ⊕ β → γ
  | .inl r => vR r
  | .inr s => vN s
theorem ci_go {F1 H1 : Hp} {D : Addr} {rs : List R} {acc : List V} {vs is : List Nat} {p : Bool} {xv : V} (hD : H1 D = none) (s1 : Sat F1 H1 σ W1) (hv : ghV W1 vs = true) (q : Rel F1 H1 Nob F H Nob) (ex : Same F H) (fD : F D = none) (hDl : H D = some (.lst acc)) (ha : All2 rs F acc) (hx : ra.p F xv) (hl : rs.length < 16000000)
    (hg : GS g ra (blW W1 vs) W2 is) (his : ∀ j ∈ is, j ∈ vs) (ht : ET tt W2 W2 p) (he : p = true → ES te W2 W2 rb) :
    g xv (wipe σ vs) H fun σ2 H2 => wipe σ2 vs = wipe σ vs ∧ tt σ2 H2 fun b H3 =>
      if b = true then te σ2 H3 fun y H4 => ∃ acc, H4 D = some (.lst acc) ∧ acc.length < sizeLine ∧ CI F1 H1 D (if p = true then rs ++ [rb] else rs) (upd H4 D (.lst (acc ++ [y]))) else CI F1 H1 D (if p = true then rs ++ [rb] else rs) H3 := by
  obtain ⟨sw, _⟩ := (s1.pure q ex).wipe vs hv
  refine hg F H (wipe σ vs) xv _ sw.fr hx fun σ2 o2 s2 d2 => ⟨wipe_eq (d2.1.trans (wipe_length σ vs)) d2.2 his, ?_⟩
  have none2 : ∀ a, ¬ Own W2 σ2 a := fun a o => own_fr (o2 a o)
  have up : ∀ {F F' H H' : Hp}, Rel F H (Own W2 σ2) F' H' (Own W2 σ2) → Rel F H Nob F' H' Nob := fun {F F' H H'} a =>
    ⟨a.f, fun x o n h => a.h x o (none2 x) h, fun x o h => (a.n x o h).imp id (Or.imp id (Or.imp (fun m => none2 x m) id)), a.t, fun x m => .inl m⟩
  refine ht F H σ2 _ s2 fun F3 H3 a3 s3 => ?_
  have q3 := q.trans (up a3)
  have hD3 : H3 D = some (.lst acc) := (up a3).h D _ (fun z => z) hDl
  have fresh : ∀ {F' H' : Hp}, Rel F1 H1 Nob F' H' Nob → Same F' H' → Rel F H Nob F' H' Nob → F' D = none := fun {F' H'} a ex b => b.nof ex fD hDl (fun z => z) (fun xs e => by cases e)
  cases p with
  | false =>
    rw [if_neg Bool.false_ne_true, if_neg Bool.false_ne_true]
    exact ⟨F3, acc, q3, s3.ex, fresh q3 s3.ex (up a3), hD3, ha.mono a3.f⟩
  | true =>
    rw [if_pos rfl, if_pos rfl]
    refine he rfl F3 H3 σ2 _ s3 fun y F4 H4 a4 s4 hy => ?_
    have q4 := q3.trans (up a4)
    have f4 := fresh q4 s4.ex ((up a3).trans (up a4))
    refine ⟨acc, (up a4).h D _ (fun z => z) hD3, Nat.lt_of_lt_of_le (by rw [ha.len]; exact hl) (by decide), F4, acc ++ [y], ?_, fun a o h => ?_, f4, upd_same, (ha.mono (fun a o h => a4.f a o (a3.f a o h))).app ⟨hy, trivial⟩⟩
    · refine ⟨q4.f, fun a o n h => ?_, q4.n, fun a h => ?_, fun _ m => m.elim⟩
      · rw [upd_ne (ne_of_none h hD)]; exact q4.h a o n h
      · by_cases e : a = D
        · subst e; exact hD
        · rw [upd_ne e] at h; exact q4.t a h
    · rw [upd_ne (ne_of_none h f4)]; exact s4.ex a o h
theorem en_lcS {e : α → R} {l : List α} {f : α → R} {vs is : List Nat} (p : α → Bool) (W2 : α → List Sl) (h : IS wi W W1 (l.map e)) (hz : l.length < 16000000) (his : ∀ j ∈ is, j ∈ vs)
    (hg : ∀ x, GS g (e x) (blW W1 vs) (W2 x) is) (ht : ∀ x ∈ l, ET tt (W2 x) (W2 x) (p x)) (he : ∀ x ∈ l, p x = true → ES te (W2 x) (W2 x) (f x)) (hv : ghV W1 vs = true := by rfl) :
    ESN (tLc wi g tt te vs) W W1 (oL ((l.filter p).map f)) := fun F H σ Q s k =>
  h F H σ _ s fun J F1 H1 a1 s1 hw D hD => by
    have fD : F1 D = none := s1.ex.free hD
    refine ⟨fun i m H' => m = l.length - i ∧ i ≤ l.length ∧ CI F1 H1 D (lcR p f (l.take i)) H', ⟨l.length, by simp, Nat.zero_le _, F1, [], Rel.grow fun a o h => ?_, fun a o h => ?_, fD, upd_same, by simp [lcR, All2]⟩, ?_⟩
    · rw [upd_ne (ne_of_none h hD)]; exact h
    · rw [upd_ne (ne_of_none h fD)]; exact s1.ex a o h
    rintro i m H' ⟨rfl, hi, F', acc, q, ex, f', hDl, ha⟩
    obtain ⟨w1, w2⟩ := hw i F' H' q.f ex
    by_cases hlt : i < l.length
    · have hy : l[i]? = some l[i] := List.getElem?_eq_getElem hlt
      have my := List.mem_of_getElem? hy
      obtain ⟨go, yl⟩ := w1 (e l[i]) (by rw [List.getElem?_map, hy]; rfl)
      refine .inr ⟨go, CI F1 H1 D (lcR p f (l.take (i + 1))), fun H2 z => ⟨l.length - (i + 1), by omega, rfl, hlt, z⟩, fun x H2 y => ?_⟩
      obtain ⟨F2, q2, e2, hx⟩ := yl x H2 y
      have d2 : H2 D = some (.lst acc) := q2.h D _ (fun z => z) hDl
      have f2 : F2 D = none := q2.nof e2 f' hDl (fun z => z) (fun xs e => by cases e)
      rw [lcR_take hy]
      exact ci_go hD s1 hv (q.trans q2) e2 f2 d2 (ha.mono q2.f) hx (by have := lcR_len (p := p) (f := f) (l := l.take i); have := List.length_take_le' i l; omega) (hg l[i]) his (ht _ my) (he _ my)
    · have e : i = l.length := by omega
      subst e
      rw [List.take_length] at ha
      exact .inl ⟨w2 (by rw [List.length_map]; exact Nat.le_refl _), k D _ F' H' (a1.trans q.pure) (s1.pure q ex) (a1.t D hD) hDl f' (fun o => by
        obtain ⟨u, z⟩ := o.lt s1
        rw [hD] at z; cases z) ⟨nofun, acc, rfl, ha⟩⟩
end
end Fw
end
section
set_option maxRecDepth 100000
namespace Fw
open PySem L2
/-- frozen things that are data -/
class DatE (K : PySem.W.Frag) {α : Type} (e : α → R) where
  d : α → PyData
  dep : Nat
  ok : ∀ {F H : Hp} {v : V} {x : α}, Same F H → (e x).p F v → Dp K H v (d x)
  lay : ∀ x, (d x).canLay0 = true
  dpt : ∀ x, (d x).depth ≤ dep
  eqv : ∀ x y, PyData.eqv (d x) (d y) = true ↔ x = y
  nod : ∀ x, (d x).hasDict = false
instance {K : PySem.W.Frag} : DatE K eI where
  d := .int
  dep := 0
  ok := fun _ h => by
    cases (show _ = V.int _ from h)
    exact .int _
  lay := fun _ => rfl
  dpt := fun _ => by simp [PyData.depth]
  eqv := fun x y => by simp [PyData.eqv]
  nod := fun _ => rfl
instance {K : PySem.W.Frag} : DatE K eB where
  d := .bool
  dep := 0
  ok := fun _ h => by
    cases (show _ = V.bl _ from h)
    exact .bl _
  lay := fun _ => rfl
  dpt := fun _ => by simp [PyData.depth]
  eqv := fun x y => by simp [PyData.eqv]
  nod := fun _ => rfl
theorem dpAll {K : PySem.W.Frag} {α : Type} {e : α → R} [D : DatE K e] {F H : Hp} (f : Same F H) : ∀ {l : List α} {xs : List V}, All2 (l.map e) F xs → DpAll K H xs (l.map (D.d))
  | [], [], _ => .nil
  | _ :: _, _ :: _, h => .cons (D.ok f h.1) (dpAll f h.2)
  | [], _ :: _, h => h.elim
  | _ :: _, [], h => h.elim
theorem layAll {K : PySem.W.Frag} {α : Type} {e : α → R} [D : DatE K e] : ∀ l : List α, PyData.canLayAll0 (l.map D.d) = true
  | [] => rfl
  | x :: l => by simp [PyData.canLayAll0, D.lay x, layAll l]
theorem eqvAll_iff {K : PySem.W.Frag} {α : Type} {e : α → R} [D : DatE K e] : ∀ l m : List α, PyData.eqvAll (l.map D.d) (m.map D.d) = true ↔ l = m
  | [], [] => by simp [PyData.eqvAll]
  | x :: l, y :: m => by simp [PyData.eqvAll, D.eqv, eqvAll_iff l m]
  | [], _ :: _ => by simp [PyData.eqvAll]
  | _ :: _, [] => by simp [PyData.eqvAll]
theorem depAll {K : PySem.W.Frag} {α : Type} {e : α → R} [D : DatE K e] : ∀ l : List α, PyData.depthAll (l.map D.d) ≤ D.dep
  | [] => by simp [PyData.depthAll]
  | x :: l => by
    have h1 := D.dpt x
    have h2 := depAll (D := D) l
    simp only [List.map_cons, PyData.depthAll]
    omega
theorem nodAll {K : PySem.W.Frag} {α : Type} {e : α → R} [D : DatE K e] : ∀ l : List α, PyData.hasDictAll (l.map D.d) = false
  | [] => rfl
  | x :: l => by simp [PyData.hasDictAll, D.nod x, nodAll l]
instance datLs {K : PySem.W.Frag} {α : Type} {e : α → R} [D : DatE K e] : DatE K (eLs e) where
  d := fun l => .list (l.map D.d)
  dep := D.dep + 1
  ok := fun f ⟨p, xs, h1, h2, h3⟩ => by
    subst h1
    exact .lst (.inl (.inl (f _ _ h2))) (dpAll f h3)
  lay := fun l => by show PyData.canLayAll0 _ = true; exact layAll l
  dpt := fun l => by
    have h := depAll (D := D) l
    simp only [PyData.depth]
    omega
  eqv := fun l m => by show PyData.eqvAll _ _ = true ↔ _; exact eqvAll_iff l m
  nod := fun l => by show PyData.hasDictAll _ = false; exact nodAll l
instance {K : PySem.W.Frag} {α β : Type} {e : α → R} {f : β → R} [D : DatE K e] [D' : DatE K f] : DatE K (eP2 K e f) where
  d := fun x => .tuple [D.d x.1, D'.d x.2]
  dep := max D.dep D'.dep + 1
  ok := fun f ⟨p, xs, h1, h2, h3⟩ => by
    subst h1
    match xs, h3 with
    | [x, y], h3 => exact .tup (sqT_up f h2) (.cons (D.ok f h3.1) (.cons (D'.ok f h3.2.1) .nil))
    | [], h3 => exact h3.elim
    | [_], h3 => exact h3.2.elim
    | _ :: _ :: _ :: _, h3 => exact h3.2.2.elim
  lay := fun x => by simp [PyData.canLay0, PyData.canLayAll0, D.lay, D'.lay]
  dpt := fun x => by
    have h1 := D.dpt x.1
    have h2 := D'.dpt x.2
    simp only [PyData.depth, PyData.depthAll]
    omega
  eqv := fun x y => by
    obtain ⟨x1, x2⟩ := x
    obtain ⟨y1, y2⟩ := y
    simp [PyData.eqv, PyData.eqvAll, D.eqv, D'.eqv]
  nod := fun x => by simp [PyData.hasDict, PyData.hasDictAll, D.nod, D'.nod]
instance {K : PySem.W.Frag} {α β γ : Type} {e : α → R} {f : β → R} {g : γ → R} [D : DatE K e] [D' : DatE K f] [D'' : DatE K g] : DatE K (eP3 K e f g) where
  d := fun x => .tuple [D.d x.1, D'.d x.2.1, D''.d x.2.2]
  dep := max D.dep (max D'.dep D''.dep) + 1
  ok := fun f ⟨p, xs, h1, h2, h3⟩ => by
    subst h1
    match xs, h3 with
    | [x, y, z], h3 => exact .tup (sqT_up f h2) (.cons (D.ok f h3.1) (.cons (D'.ok f h3.2.1) (.cons (D''.ok f h3.2.2.1) .nil)))
    | [], h3 => exact h3.elim
    | [_], h3 => exact h3.2.elim
    | [_, _], h3 => exact h3.2.2.elim
    | _ :: _ :: _ :: _ :: _, h3 => exact h3.2.2.2.elim
  lay := fun x => by simp [PyData.canLay0, PyData.canLayAll0, D.lay, D'.lay, D''.lay]
  dpt := fun x => by
    have h1 := D.dpt x.1
    have h2 := D'.dpt x.2.1
    have h3 := D''.dpt x.2.2
    simp only [PyData.depth, PyData.depthAll]
    omega
  eqv := fun x y => by
    obtain ⟨x1, x2, x3⟩ := x
    obtain ⟨y1, y2, y3⟩ := y
    simp [PyData.eqv, PyData.eqvAll, D.eqv, D'.eqv, D''.eqv]
  nod := fun x => by simp [PyData.hasDict, PyData.hasDictAll, D.nod, D'.nod, D''.nod]
section
variable {W W' W0 W1 W2 W3 : List Sl} {K : PySem.W.Frag} {ta tb tc te to tl : TE} {r ra rb : R} {a b : Bool} {F H F' H' : Hp} {σ : L2.St} {E : XK}
variable {α β γ δ ρ : Type}
theorem shp {e : α → R} [D : DatE K e] (h : D.dep ≤ 64) (x : α) : SeqAt.shaped (D.d x) = true := by
  unfold SeqAt.shaped
  rw [D.lay x, decide_eq_true (Nat.le_trans (D.dpt x) h)]; rfl
theorem eqv_nil (ds : List PyData) : PyData.eqv (.list ds) (.list []) = ds.isEmpty := by cases ds <;> simp [PyData.eqv, PyData.eqvAll]
theorem es_neNil {e : α → R} [D : DatE K e] {l : List α} (ha : ES ta W W1 (eLs e l)) (h : D.dep + 1 ≤ 64 := by decide) : ES (tOp (rNeD K) ta (tLst tNil)) W W1 (eB (!l.isEmpty)) := fun F H σ Q s k =>
  ha F H σ _ s fun v F1 H1 a1 s1 e1 => ⟨Nat.zero_le _, fun p hp => by
    have ex : Same H1 (upd H1 p (.lst [])) := fun a o z => by rw [upd_ne (ne_of_none z hp)]; exact z
    refine ⟨(datLs (K := K) (e := e)).d l, .list [], (datLs (K := K) (e := e)).ok (fun a o z => ex a o (s1.ex a o z)) e1, .lst (.inl (.inl upd_same)) .nil, shp (K := K) (e := eLs e) h l, by decide +kernel, ?_⟩
    have eq : PyData.eqv ((datLs (K := K) (e := e)).d l) (.list []) = l.isEmpty := by
      show PyData.eqv (PyData.list (l.map D.d)) (.list []) = l.isEmpty
      rw [eqv_nil]
      cases l <;> rfl
    rw [eq]; exact k _ F1 _ (a1.trans (Rel.grow ex)) (s1.grow ex) rfl⟩
/-- repr -/
def reprI (i : Int) : Str := toString i
theorem es_reprI {i : Int} (ha : ES ta W W1 (eI i)) (h : i.natAbs.log2 < 1920) : ES (tCB (fun xs H Q => ∃ i, xs = [.int i] ∧ i.natAbs.log2 < 1920 ∧ Q (.str (toString i)) H) (tCons ta tNil)) W W1 (eS (reprI i)) := es_cb1 ha fun _ _ q => ⟨i, rfl, h, q⟩
end
end Fw
end
section
set_option maxRecDepth 100000
namespace Fw
open PySem L2
/-- an owned instance -/
def oI (q : Option Addr) (C : Addr) (fs : List (Str × R)) : OC := ⟨fun F a o => (∀ p, q = some p → a = p) ∧ ∃ dx gs, o = .ins C dx gs ∧ gs.map Prod.fst = fs.map Prod.fst ∧ All2 (fs.map Prod.snd) F (gs.map Prod.snd),
  fun e ⟨z, dx, gs, h1, h2, h3⟩ => ⟨z, dx, gs, h1, h2, h3.mono e⟩, fun ⟨_, dx, gs, h1, _⟩ xs e => by rw [h1] at e; cases e⟩
def putR (f : Str) (r : R) : List (Str × R) → List (Str × R)
  | [] => [(f, r)]
  | (g, x) :: l => if g = f then (g, r) :: l else (g, x) :: putR f r l
theorem putR_ok {F : Hp} {f : Str} {r : R} {v : V} (h : r.p F v) : ∀ {fs : List (Str × R)} {gs : List (Str × V)}, gs.map Prod.fst = fs.map Prod.fst → All2 (fs.map Prod.snd) F (gs.map Prod.snd) →
    (putF f v gs).map Prod.fst = (putR f r fs).map Prod.fst ∧ All2 ((putR f r fs).map Prod.snd) F ((putF f v gs).map Prod.snd)
  | [], [], _, _ => ⟨rfl, h, trivial⟩
  | (n, q) :: fs, (m, w) :: gs, e, k => by
    have en : m = n := (List.cons.inj e).1
    subst en
    have ih := putR_ok (f := f) h (List.cons.inj e).2 k.2
    show ((if m = f then (m, v) :: gs else (m, w) :: putF f v gs)).map Prod.fst = (if m = f then (m, r) :: fs else (m, q) :: putR f r fs).map Prod.fst ∧
      All2 ((if m = f then (m, r) :: fs else (m, q) :: putR f r fs).map Prod.snd) F ((if m = f then (m, v) :: gs else (m, w) :: putF f v gs).map Prod.snd)
    by_cases z : m = f
    · rw [if_pos z, if_pos z]
      exact ⟨e, h, k.2⟩
    · rw [if_neg z, if_neg z]
      exact ⟨congrArg (m :: ·) ih.1, k.1, ih.2⟩
  | [], _ :: _, e, _ => by cases e
  | _ :: _, [], e, _ => by cases e
/-- the promise of an __init__ -/
def spI {ι : Type} (C : Addr) (as : ι → List R) (ok : ι → Prop) (fs : ι → List (Str × R)) : Sp := fun vs H Q _ => ∃ (d : ι) (F : Hp) (p dx : Addr) (ws : List V), vs = .ref p :: ws ∧ ok d ∧ Same F H ∧
  H p = some (.ins C dx []) ∧ F p = none ∧ All2 (as d) F ws ∧
  ∀ F' H' dx' gs, Rel F H (fun a => a = p) F' H' (fun a => a = p) → Same F' H' → H' p = some (.ins C dx' gs) → F' p = none → gs.map Prod.fst = (fs d).map Prod.fst → All2 ((fs d).map Prod.snd) F' (gs.map Prod.snd) → Q .non H'
section
variable {W W' W0 W1 W2 W3 : List Sl} {K : PySem.W.Frag} {ta tb tc te to tl tv : TE} {r ra rb : R} {a b : Bool} {F H F' H' : Hp} {σ : L2.St} {E : XK} {P : Post} {ts uu : TS}
variable {α β γ δ ρ ι : Type}
theorem ss_fld {i : Nat} {q : Option Addr} {C : Addr} {fs : List (Str × R)} {f : Str} (c : Cls K C) (n : NoAttr K C f) (h : ES tv W W1 r) (h1 : W1[i]? = some (.ow (oI q C fs))) (hl : fs.length < 1000) (k : P.nx (W1.set i (.ow (oI q C (putR f r fs))))) :
    SS (sFld K (tVar i) tv f) W P := fun F H σ D s kn _ _ _ =>
  h F H σ _ s fun v F1 H1 a1 s1 e1 => by
    obtain ⟨p, o, e0, y1, y2, ⟨yq, dx, gs, rfl, y3, y4⟩⟩ := s1.ow i _ h1
    have el : gs.length = fs.length := by have := congrArg List.length y3; simpa using this
    obtain ⟨z1, z2⟩ := putR_ok (f := f) e1 y3 y4
    refine ⟨.ref p, e0, p, C, dx, gs, rfl, y1, c, n, by rw [el]; exact hl, kn _ _ _ _ k (a1.trans ⟨fun _ _ z => z, fun a u n z => ?_, fun _ _ z => .inl z, fun a z => ?_, fun a m => .inl ((Own.mut h1).mp m)⟩) (s1.mut h1 e0 ⟨yq, dx, _, rfl, z1, z2⟩)⟩
    · rw [upd_ne (fun q : a = p => n (by rw [q]; exact ⟨i, _, .inl ⟨h1, e0⟩⟩))]; exact z
    · by_cases q : a = p
      · subst q; rw [upd_same] at z; cases z
      · rw [upd_ne q] at z; exact z
theorem def_I {C : Addr} {as : ι → List R} {ok : ι → Prop} {fs : ι → List (Str × R)} {N : List Str} {vs : List V} {H : Hp} {Q : VK} {E : XK} (h : spI C as ok fs vs H Q E) (hN : ∀ d, (as d).length < N.length)
    (k : ∀ d p, ok d → SS ts (.ow (oI (some p) C []) :: slF (as d) (N.length - 1)) ⟨fun W' => W'[0]? = some (.ow (oI (some p) C (fs d))), fun _ _ => False, fun _ => False, fun _ => False⟩) :
    ts { nx := fun _ H' => Q .non H', rt := Q } (L2.start N vs) H := by
  obtain ⟨d, F, p, dx, ws, rfl, hok, ex, hp, fp, ha, hq⟩ := h
  have el := ha.len
  have hN' := hN d
  have s : Sat F H (L2.start N (.ref p :: ws)) (.ow (oI (some p) C []) :: slF (as d) (N.length - 1)) := by
    refine ⟨ex, ?_, fun i r h => ?_, fun i e h => ?_, fun i j e e' q h1 h2 => ?_, Gh.no fun i q c h => slF_gh rfl h⟩
    · refine len_real ?_ fun i s h => ?_
      · unfold L2.start slF; simp [el]; omega
      · cases i with
        | zero => cases h; rfl
        | succ i => exact slF_real (i := i) h
    · cases i with
      | zero => cases h
      | succ i =>
        obtain ⟨x, z1, z2⟩ := ha.get' (slF_fz (i := i) h)
        exact ⟨x, start_at z1, z2⟩
    · cases i with
      | zero =>
        cases h
        exact ⟨p, .ins C dx [], rfl, hp, fp, fun _ z => Option.some.inj z, dx, [], rfl, rfl, trivial⟩
      | succ i => exact (slF_ow (i := i) h).elim
    · cases i with
      | zero => cases j with
        | zero => exact fun _ _ => rfl
        | succ j => exact (slF_ow (i := j) h2).elim
      | succ i => exact (slF_ow (i := i) h1).elim
  have own0 : ∀ a, Own (.ow (oI (some p) C []) :: slF (as d) (N.length - 1)) (L2.start N (.ref p :: ws)) a → a = p := fun a ⟨i, e, o⟩ => by
    rcases o with ⟨h1, h2⟩ | h1
    · cases i with
      | zero =>
        have z : some (some (V.ref p)) = some (some (.ref a)) := h2
        cases z; rfl
      | succ i => exact (slF_ow (i := i) h1).elim
    · exact (slF_gh rfl h1).elim
  refine k d p hok F H (L2.start N (.ref p :: ws)) _ s (fun W' σ' F' H' z a s' => ?_) (fun _ _ _ _ _ _ z => z.elim) (fun _ _ _ _ z => z.elim) fun _ _ _ _ z => z.elim
  obtain ⟨p', _, _, y1, y2, yq, dx', gs, rfl, y3, y4⟩ := s'.ow 0 _ z
  cases yq p rfl
  exact hq F' H' dx' gs ⟨a.f, fun x o n h => a.h x o (fun z => n (own0 x z)) h, fun x o h => (a.n x o h).imp id (Or.imp id (Or.imp (fun m => own0 x m) id)), a.t, fun x m => .inl m⟩ s'.ex y1 y2 y3 y4
theorem es_make {C : Addr} {as : ι → List R} {ok : ι → Prop} {fs : ι → List (Str × R)} {tr : TA} (d : ι) (h : AS tr W W1 (as d)) (g : ok d) : ES (tMake C (spI C as ok fs) [] E tr) W W1 (eIns C (fs d)) := fun F H σ Q s k =>
  h F H σ _ s fun vs F1 H1 a1 s1 e1 x dx hx hdx ne => by
    rw [List.append_nil]
    have hxd : upd (upd H1 dx (.own x)) x (.ins C dx []) x = some (.ins C dx []) := upd_same
    have f1 : F1 x = none := s1.ex.free hx
    have f2 : F1 dx = none := s1.ex.free hdx
    have grow : Same H1 (upd (upd H1 dx (.own x)) x (.ins C dx [])) := fun a o z => by
      rw [upd_ne (ne_of_none z hx), upd_ne (ne_of_none z hdx)]; exact z
    refine ⟨d, F1, x, dx, vs, rfl, g, fun a o z => grow a o (s1.ex a o z), hxd, f1, e1, fun F2 H2 dx' gs q ex h2 f2' hn ha => ⟨rfl, ?_⟩⟩
    -- the new instance is frozen
    have q1 : Rel F1 H1 (Own W1 σ) F2 H2 (Own W1 σ) := by
      refine ⟨q.f, fun a o n z => q.h a o (fun e => by subst e; rw [hx] at z; cases z) (grow a o z), fun a o z => ?_, fun a z => ?_, fun a m => .inl m⟩
      · rcases q.n a o z with y | y | y | y
        · exact .inl y
        · exact .inr (.inl (grow.free y))
        · subst y; exact .inr (.inl hx)
        · exact .inr (.inr (.inr y))
      · exact grow.free (q.t a z)
    have s2 : Sat F2 H2 σ W1 := by
      refine ⟨ex, s1.len, fun i r h => ?_, fun i c h => ?_, s1.ds, Gh.rel (s1.grow grow) q ex fun i a c h z => ?_⟩
      · obtain ⟨v, z1, z2⟩ := s1.fz i r h
        exact ⟨v, z1, r.mono q.f z2⟩
      · obtain ⟨p, o, z1, z2, z3, z4⟩ := s1.ow i c h
        have np : p ≠ x := ne_of_none z2 hx
        refine ⟨p, o, z1, q.h p o np (grow p o z2), ?_, c.mono q.f z4⟩
        exact q.nof ex z3 (grow p o z2) np (c.nt z4)
      · obtain ⟨u, y, _⟩ := s1.gh.at' i a c h
        rw [z, hx] at y; cases y
    have np : ¬ Own W1 σ x := not_own s1 hx
    exact k _ _ H2 ((a1.trans q1).freeze (.inl (a1.t x hx)) f2') (s2.freeze h2 f2' np) ⟨x, dx', gs, rfl, upd_same, hn, ha.mono fun a o z => by rw [upd_ne (ne_of_none z f2')]; exact z⟩
/-- the script: it is read alone -/
def eQ (K : PySem.W.Frag) (e : α → R) (l : List α) : R := ⟨fun F v => ∃ p xs, v = .ref p ∧ SqL K F p xs ∧ All2 (l.map e) F xs, fun e ⟨p, xs, h1, h2, h3⟩ => ⟨p, xs, h1, Same.seq e h2, h3.mono e⟩⟩
@[irreducible] def cutL (l : List α) (lo hi : Option Int) : List α := (l.drop (HT.sIx l.length 0 lo)).take (HT.sIx l.length l.length hi - HT.sIx l.length 0 lo)
theorem All2.drop' {F : Hp} : ∀ {rs : List R} {xs : List V} (n : Nat), All2 rs F xs → All2 (rs.drop n) F (xs.drop n)
  | _, _, 0, h => h
  | [], [], _ + 1, h => h
  | _ :: rs, _ :: xs, n + 1, h => All2.drop' (rs := rs) (xs := xs) n h.2
  | [], _ :: _, _, h => h.elim
  | _ :: _, [], _, h => h.elim
theorem All2.take' {F : Hp} : ∀ {rs : List R} {xs : List V} (n : Nat), All2 rs F xs → All2 (rs.take n) F (xs.take n)
  | _, _, 0, _ => trivial
  | [], [], _ + 1, h => h
  | _ :: rs, _ :: xs, n + 1, h => ⟨h.1, All2.take' (rs := rs) (xs := xs) n h.2⟩
  | [], _ :: _, _, h => h.elim
  | _ :: _, [], _, h => h.elim
theorem cut_ok {F : Hp} {e : α → R} {l : List α} {xs : List V} {lo hi : Option Int} (h : All2 (l.map e) F xs) : All2 ((cutL l lo hi).map e) F (cutV xs lo hi) := by
  have el := h.len
  rw [List.length_map] at el
  unfold cutL cutV
  rw [List.map_take, List.map_drop, el]
  exact All2.take' _ (All2.drop' _ h)
def OSm (t : TO) (W W' : List Sl) (o : Option Int) : Prop := ∀ (F H : Hp) (σ : L2.St) (Q : Option Int → Hp → Prop), Sat F H σ W →
  (∀ F' H', Rel F H (Own W σ) F' H' (Own W' σ) → Sat F' H' σ W' → Q o H') → t σ H Q
theorem os_no : OSm tNoPart W W none := fun F H σ Q s k => k F H Rel.refl s
theorem os_some {i : Int} (h : ES te W W1 (eI i)) : OSm (tPart te) W W1 (some i) := fun F H σ Q s k => h F H σ _ s fun v F1 H1 a1 s1 e1 => ⟨i, e1, k F1 H1 a1 s1⟩
theorem en_slice {e : α → R} {l : List α} {lo hi : Option Int} {tlo thi : TO} (h : ES te W W1 (eLs e l)) (h1 : OSm tlo W1 W2 lo) (h2 : OSm thi W2 W3 hi) : ESN (tSl (rSlL K) te tlo thi) W W3 (oL ((cutL l lo hi).map e)) := fun F H σ Q s k =>
  h F H σ _ s fun v F1 H1 a1 s1 ⟨p, xs, e1, e2, e3⟩ => h1 F1 H1 σ _ s1 fun F2 H2 a2 s2 => h2 F2 H2 σ _ s2 fun F3 H3 a3 s3 => by
    subst e1
    have e2' := a3.f _ _ (a2.f _ _ e2)
    refine ⟨p, xs, rfl, .inl (.inl (s3.ex _ _ e2')), fun q hq => ?_⟩
    have ex : Same H3 (upd H3 q (.lst (cutV xs lo hi))) := fun a o z => by rw [upd_ne (ne_of_none z hq)]; exact z
    have aa := (a1.trans a2).trans a3
    exact k q _ F3 _ (aa.trans (Rel.grow ex)) (s3.grow ex) (aa.t _ hq) upd_same (s3.ex.free hq) (not_own s3 hq) ⟨nofun, _, rfl, cut_ok ((e3.mono a2.f).mono a3.f)⟩
theorem en_sliceQ {e : α → R} {l : List α} {lo hi : Option Int} {tlo thi : TO} (h : ES te W W1 (eQ K e l)) (h1 : OSm tlo W1 W2 lo) (h2 : OSm thi W2 W3 hi) : ESN (tSl (rSlL K) te tlo thi) W W3 (oL ((cutL l lo hi).map e)) := fun F H σ Q s k =>
  h F H σ _ s fun v F1 H1 a1 s1 ⟨p, xs, e1, e2, e3⟩ => h1 F1 H1 σ _ s1 fun F2 H2 a2 s2 => h2 F2 H2 σ _ s2 fun F3 H3 a3 s3 => by
    subst e1
    refine ⟨p, xs, rfl, Same.seq s3.ex (Same.seq a3.f (Same.seq a2.f e2)), fun q hq => ?_⟩
    have ex : Same H3 (upd H3 q (.lst (cutV xs lo hi))) := fun a o z => by rw [upd_ne (ne_of_none z hq)]; exact z
    have aa := (a1.trans a2).trans a3
    exact k q _ F3 _ (aa.trans (Rel.grow ex)) (s3.grow ex) (aa.t _ hq) upd_same (s3.ex.free hq) (not_own s3 hq) ⟨nofun, _, rfl, cut_ok ((e3.mono a2.f).mono a3.f)⟩
end
end Fw
end
section
set_option maxRecDepth 100000
namespace Fw
open PySem L2
section
variable {W W' W0 W1 W2 W3 : List Sl} {K : PySem.W.Frag} {ta tb tc te to tl tv : TE} {r ra rb : R} {a b : Bool} {F H F' H' : Hp} {σ : L2.St} {E : XK} {P : Post} {ts uu : TS}
variable {α β γ δ ρ ι : Type}
theorem putR_new {f : Str} {r : R} : ∀ {fs : List (Str × R)}, (fs.map Prod.fst).contains f = false → putR f r fs = fs ++ [(f, r)]
  | [], _ => rfl
  | (g, x) :: l, h => by
    have h1 : ¬ g = f ∧ (l.map Prod.fst).contains f = false := by
      simp only [List.map_cons, List.contains_cons, Bool.or_eq_false_iff, beq_eq_false_iff_ne] at h
      exact ⟨fun e => h.1 e.symm, h.2⟩
    show (if g = f then (g, r) :: l else (g, x) :: putR f r l) = _
    rw [if_neg h1.1, putR_new h1.2]; rfl
theorem tbl_no {m : Str} {x y z : R} (h : ((m == "own_capacity") || (m == "own_rate") || (m == "own_shift")) = false) : List.lookup m [(("own_capacity" : Str), x), ("own_rate", y), ("own_shift", z)] = none := by
  simp only [Bool.or_eq_false_iff] at h
  simp [List.lookup, h.1.1, h.1.2, h.2]
theorem ss_let1 (v : α) (mk : α → List Sl) (k : ∀ x, x = v → SS ts (mk x) P) : SS ts (mk v) P := k v rfl
theorem ss_fldN {i : Nat} {q : Option Addr} {C : Addr} {fs : List (Str × R)} {f : Str} (c : Cls K C) (n : NoAttr K C f) (h : ES tv W W1 r) (h1 : W1[i]? = some (.ow (oI q C fs))) (hl : fs.length < 1000) (hf : (fs.map Prod.fst).contains f = false) (k : P.nx (W1.set i (.ow (oI q C (fs ++ [(f, r)]))))) :
    SS (sFld K (tVar i) tv f) W P := ss_fld c n h h1 hl (by rw [putR_new hf]; exact k)
end
end Fw
end
section
set_option maxRecDepth 100000
namespace Fw
open PySem L2 PySem.Spec PyProof.Rows
/-- the promise of a law that reads its script -/
theorem law_pr {K : PySem.W.Frag} {H : Hp} {a : Addr} {ns : List Int} {ok : List Int → Prop} {m : List Int → Bool} (S : SqL K H a (ns.map V.int)) (h1 : ok ns) (h2 : m ns = true) :
    spF (ι := List Int) (fun d => [eQ K eI d]) (fun d => ok d) (fun d => eB (m d)) [.ref a] H (fun v _ => v = .bl true) fun _ _ _ => False := by
  refine ⟨ns, H, h1, fun _ _ z => z, ⟨⟨a, ns.map V.int, rfl, S, ?_⟩, trivial⟩, fun v F' H' _ _ hv => ?_⟩
  · induction ns with
    | nil => trivial
    | cons z l ih => exact ⟨rfl, ih' l⟩
  · have e : v = V.bl (m ns) := hv
    rw [e, h2]
where ih' {F : Hp} : ∀ l : List Int, All2 (l.map eI) F (l.map V.int)
  | [] => trivial
  | _ :: l => ⟨rfl, ih' l⟩
end Fw
end
section
set_option maxRecDepth 100000
namespace Fw
open PySem L2
section
variable {X : Cx} {CX : CXT} {k : Nat} {f C : Addr} {fd : FuncData} {ps : List Str} {sp : Sp} {E : XK}
def reprO : Option Int → Str
  | none => "None"
  | some i => reprI i
def rReprO : List V → Hp → VK → Prop := fun xs H Q => (xs = [.non] ∧ Q (.str "None") H) ∨ ∃ i, xs = [.int i] ∧ i.natAbs.log2 < 1920 ∧ Q (.str (toString i)) H
theorem call_reprO : CallR X (.builtin "repr") rReprO := by
  intro pins s σ H xs us Q I r h
  rcases h with ⟨e, q⟩ | h
  · subst e
    obtain ⟨u, e, ru⟩ := vals1 r
    subst e
    cases (show u = Value.none from ru)
    exact PySem.P.repr_of_none ⟨.str _, H, I.tok _, ⟨_, rfl⟩, q⟩
  · exact SkE.call_repr_int pins s σ H xs us Q I r h
theorem op_eqDK {K : PySem.W.Frag} (hK : X.K = K) (hu : X.A.units + 64 < cLine) : OpR X (compareOp .Eq) (rEqD K) := by subst hK; exact op_eqD hu
theorem op_neDK {K : PySem.W.Frag} (hK : X.K = K) (hu : X.A.units + 64 < cLine) : OpR X (compareOp .NotEq) (rNeD K) := by subst hK; exact op_neD hu
end
section
variable {W W' W0 W1 W2 W3 : List Sl} {K : PySem.W.Frag} {ta tb tc te to tl tv : TE} {r ra rb : R} {a b : Bool} {F H F' H' : Hp} {σ : L2.St} {E : XK} {P : Post} {ts uu : TS} {tt : TT}
variable {α β γ δ ρ ι : Type}
theorem es_reprO {o : Option Int} (ha : ES ta W W1 (eO eI o)) (h : ∀ i, o = some i → i.natAbs.log2 < 1920) : ES (tCB rReprO (tCons ta tNil)) W W1 (eS (reprO o)) := by
  cases o with
  | none => exact es_cb1 (x := .non) (z := .str "None") ha fun _ _ q => .inl ⟨rfl, q⟩
  | some i => exact es_cb1 (x := .int i) (z := .str (reprI i)) ha fun _ _ q => .inr ⟨i, rfl, h i rfl, q⟩
/-- {} -/
def eD0 : R := ⟨fun F v => ∃ p, v = .ref p ∧ F p = some (.dK []), fun e ⟨p, h1, h2⟩ => ⟨p, h1, e _ _ h2⟩⟩
theorem es_dnew : ES tDNewK W W eD0 := fun F H σ Q s k p hp => by
  have ex : Same H (upd H p (.dK [])) := fun a o z => by rw [upd_ne (ne_of_none z hp)]; exact z
  have np : ¬ Own W σ p := not_own s hp
  have fp : F p = none := s.ex.free hp
  exact k _ _ _ ((Rel.grow ex).freeze (.inl hp) fp) ((s.grow ex).freeze upd_same fp np) ⟨p, rfl, upd_same⟩
theorem ty_dn : ∀ (F H : Hp) (v : V), Same F H → eD0.p F v → TyX K H v (.type "dict") := fun F H v e ⟨p, h1, h2⟩ => by
  subst h1; exact .base (.dK (e _ _ h2))
theorem ty_non : ∀ (F H : Hp) (v : V), Same F H → eN.p F v → TyX K H v (.type "NoneType") := fun F H v e h => by
  have e' : v = V.non := h
  subst e'; exact .base .non
/-- what is there of an Option -/
def unO [Inhabited α] (o : Option α) : α := o.getD default
theorem es_unO [Inhabited α] {e : α → R} {o : Option α} (h : ES te W W1 (eO e o)) (g : o.isSome = true) : ES te W W1 (e (unO o)) := by
  cases o with
  | none => cases g
  | some x => exact h
class NotN (e : α → R) : Prop where
  no : ∀ F x v, (e x).p F v → v ≠ .non
instance : NotN eI := ⟨fun F x v h e => by have h' : v = V.int x := h; rw [h'] at e; cases e⟩
theorem et_isN {e : α → R} [N : NotN e] {o : Option α} (h : ES te W W1 (eO e o)) : ET (tB (tIsN te)) W W1 (!o.isSome) := fun F H σ Q s k =>
  h F H σ _ s fun v F1 H1 a1 s1 e1 => by
    refine ⟨_, rfl, ?_⟩
    have eq : decide (v = .non) = (!o.isSome) := by
      cases o with
      | none => exact decide_eq_true (show v = .non from e1)
      | some x => exact decide_eq_false (N.no _ _ _ e1)
    rw [eq]; exact k F1 H1 a1 s1
/-- a cut: the rest by a name of its own -/
theorem ss_cut (Q : α → Post) {v v' : α} (e : v = v') (h : SS ts W (Q v')) : SS ts W (Q v) := e ▸ h
end
end Fw
end
section
set_option maxRecDepth 100000
namespace Fw
open PySem L2
abbrev Trip := Int × Int × Int
def tyO : Nat × Trip → String
  | (0, _) => "NoneType"
  | (1, _) => "int"
  | (2, _) => "bool"
  | (3, _) => "str"
  | (4, _) => "tuple"
  | (5, _) => "list"
  | (_, _) => "dict"
structure OddNo (K : PySem.W.Frag) (C : Addr) : Prop where
  cls : PySem.W.isClsIn K C = true
  typ : PySem.W.typeIn K (.ref C) = some (.type "type")
  s0 : PySem.W.subIn K (.type "NoneType") (.ref C) = some false
  s1 : PySem.W.subIn K (.type "int") (.ref C) = some false
  s2 : PySem.W.subIn K (.type "bool") (.ref C) = some false
  s3 : PySem.W.subIn K (.type "str") (.ref C) = some false
  s4 : PySem.W.subIn K (.type "tuple") (.ref C) = some false
  s5 : PySem.W.subIn K (.type "list") (.ref C) = some false
  s6 : PySem.W.subIn K (.type "dict") (.ref C) = some false
section
variable {K : PySem.W.Frag} {C : Addr}
theorem OddNo.sub (N : OddNo K C) : ∀ x : Nat × Trip, PySem.W.subIn K (.type (tyO x)) (.ref C) = some false
  | (0, _) => N.s0
  | (1, _) => N.s1
  | (2, _) => N.s2
  | (3, _) => N.s3
  | (4, _) => N.s4
  | (5, _) => N.s5
  | (_ + 6, _) => N.s6
end
/-- a list of three ints and a bool -/
def eLm (x : Int × Int × Int × Bool) : R := eL [eI x.1, eI x.2.1, eI x.2.2.1, eB x.2.2.2]
instance {K : PySem.W.Frag} : DatE K eLm where
  d := fun x => .list [.int x.1, .int x.2.1, .int x.2.2.1, .bool x.2.2.2]
  dep := 1
  ok := fun f ⟨p, xs, h1, h2, h3⟩ => by
    subst h1
    match xs, h3 with
    | [x, y, z, b], h3 =>
      obtain ⟨e1, e2, e3, e4, _⟩ := h3
      cases (show x = V.int _ from e1)
      cases (show y = V.int _ from e2)
      cases (show z = V.int _ from e3)
      cases (show b = V.bl _ from e4)
      exact .lst (.inl (.inl (f _ _ h2))) (.cons (.int _) (.cons (.int _) (.cons (.int _) (.cons (.bl _) .nil))))
    | [], h3 => exact h3.elim
    | [_], h3 => exact h3.2.elim
    | [_, _], h3 => exact h3.2.2.elim
    | [_, _, _], h3 => exact h3.2.2.2.elim
    | _ :: _ :: _ :: _ :: _ :: _, h3 => exact h3.2.2.2.2.elim
  lay := fun x => by simp [PyData.canLay0, PyData.canLayAll0]
  dpt := fun x => by simp [PyData.depth, PyData.depthAll]
  eqv := fun x y => by
    obtain ⟨x1, x2, x3, x4⟩ := x
    obtain ⟨y1, y2, y3, y4⟩ := y
    simp [PyData.eqv, PyData.eqvAll]
  nod := fun x => by simp [PyData.hasDict, PyData.hasDictAll]
def optD {α : Type} (f : α → PyData) (o : Option α) : PyData := match o with
  | none => .none
  | some x => f x
instance {K : PySem.W.Frag} : DatE K (eO eI) where
  d := fun o => optD .int o
  dep := 0
  ok := fun {F H v x} f h => by
    cases x with
    | none =>
      cases (show v = V.non from h)
      exact .non
    | some i =>
      cases (show v = V.int i from h)
      exact .int i
  lay := fun x => by cases x <;> rfl
  dpt := fun x => by cases x <;> simp [optD, PyData.depth]
  eqv := fun x y => by cases x <;> cases y <;> simp [optD, PyData.eqv]
  nod := fun x => by cases x <;> rfl
section
variable {W W' W0 W1 W2 W3 : List Sl} {te : TE} {α : Type}
def ReprF (d : PyData) : Prop := d.showable = true ∧ d.shown.length ≤ sizeLine
end
end Fw
end
section
set_option maxRecDepth 100000
namespace Fw
open PySem L2
/-! texts of ints and lists of ints are short -/
theorem shown_int {i : Int} {k : Nat} (hk : 0 < k) (h : i.natAbs.log2 < k) : (PyData.shown (.int i)).length ≤ k + 1 := by
  have e : PyData.shown (.int i) = Str.ofString (toString i) := rfl
  rw [e]
  have := int_text_length_le hk h
  rw [ofString_length]; exact this
end Fw
end
section
set_option maxRecDepth 100000
namespace Fw
open PySem L2 PySem.Spec PyProof.Rows
section
variable {X : Cx} {e : Expr} {te : L2.St → Hp → (Int → Int → Hp → Prop) → Prop}
variable {W W1 W2 : List Sl} {ta tb : TE}
theorem en_catO {α : Type} {e : α → R} {l m : List α} {i : Nat} {q : Option Addr} (h0 : W[i]? = some (.ow (oLq q (l.map e)))) (hb : ES tb W W2 (eLs e m)) (h2 : W2[i]? = some (.ow (oLq q (l.map e)))) (c : l.length + m.length ≤ 16000000) : ESN (tOp rCat (tVar i) tb) W W2 (oL ((l ++ m).map e)) := fun F H σ Q s k => by
  obtain ⟨p, o, e0, _⟩ := s.ow i _ h0
  refine ⟨.ref p, e0, hb F H σ _ s fun w F2 H2 a2 s2 ⟨b, ys, g1, g2, g3⟩ => ?_⟩
  subst g1
  obtain ⟨p', o', e0', z1, z2, ⟨_, xs, eo, z3⟩⟩ := s2.ow i _ h2
  subst eo
  have ep : p' = p := by rw [e0] at e0'; cases e0'; rfl
  subst ep
  have e1 := z3.len
  have e2 := g3.len
  rw [List.length_map] at e1 e2
  refine ⟨p', b, xs, ys, rfl, rfl, z1, s2.ex _ _ g2, Nat.le_trans (by rw [e1, e2]; exact c) (by decide), fun l' hl => ?_⟩
  have ex : Same H2 (upd H2 l' (.lst (xs ++ ys))) := fun a o q => by rw [upd_ne (ne_of_none q hl)]; exact q
  refine k l' _ F2 _ (a2.trans (Rel.grow ex)) (s2.grow ex) (a2.t _ hl) upd_same (s2.ex.free hl) (not_own s2 hl) ⟨nofun, _, rfl, ?_⟩
  rw [List.map_append]
  exact z3.app g3
end
end Fw
end
section
set_option maxRecDepth 100000
namespace Fw
open PySem L2 PySem.Spec PyProof.Rows
section
variable {X : Cx}
def rSetL (K : PySem.W.Frag) (w : World) : List V → Hp → VK → Prop := fun xs H Q => ∃ (l : Addr) (ns : List Int), xs = [.ref l] ∧ SqL K H l (ns.map V.int) ∧ ns.length ≤ 60 ∧ ∀ p c, H p = none → c ≤ ns.length → Q (.ref p) (upd H p (SetO w p (fun j => decide (j ∈ ns)) c))
end
end Fw
end
section
set_option maxRecDepth 100000
namespace Fw
open PySem L2 PySem.Spec PyProof.Rows
end Fw
end
section
set_option maxRecDepth 100000
namespace Fw
open PySem L2
/-! dicts of ints that a def owns -/
def pt (kvs : List (Int × Int)) (k v : Int) : List (Int × Int) := if (kvs.any fun p => decide (p.1 = k)) = true then kvs.map (fun p => if p.1 = k then (p.1, v) else p) else kvs ++ [(k, v)]
end Fw
end
section
set_option maxRecDepth 100000
namespace Fw
open PySem L2
end Fw
namespace Fw
open PySem L2
end Fw
end
section
set_option maxRecDepth 100000
namespace Fw
open PySem L2
end Fw
end
section
set_option maxRecDepth 100000
namespace Fw
open PySem L2
end Fw
end
section
set_option maxRecDepth 100000
namespace Fw
open PySem L2
/-! sorted pairs -/
section
variable {W W1 W2 W3 : List Sl} {K : PySem.W.Frag} {ta tk tv tx td : TE} {F H : Hp} {α κ κ' : Type}
/-! [*xs, ..] -/
/-! xs.pop() -/
/-! dicts with typed values -/
def DRel (tk : κ → κ') (e : α → R) (F : Hp) : List (κ × α) → List (κ' × V) → Prop
  | [], [] => True
  | kv :: l, w :: ws => w.1 = tk kv.1 ∧ (e kv.2).p F w.2 ∧ DRel tk e F l ws
  | _, _ => False
section
variable [DecidableEq κ] [DecidableEq κ']
def gtK (l : List (κ × α)) (k : κ) : Option α := (l.find? fun p => decide (p.1 = k)).map (·.2)
def ptK (l : List (κ × α)) (k : κ) (v : α) : List (κ × α) := if (l.any fun p => decide (p.1 = k)) = true then l.map (fun p => if p.1 = k then (p.1, v) else p) else l ++ [(k, v)]
def dpK (l : List (κ × α)) (k : κ) : List (κ × α) := l.filter fun p => decide (p.1 ≠ k)
end
variable {tk' : κ → κ'} {e : α → R}
theorem DRel.mono {F F' : Hp} (x : Same F F') : ∀ {l : List (κ × α)} {ws : List (κ' × V)}, DRel tk' e F l ws → DRel tk' e F' l ws
  | [], [], _ => trivial
  | kv :: l, w :: ws, h => ⟨h.1, (e kv.2).mono x h.2.1, DRel.mono x h.2.2⟩
  | [], _ :: _, h => h.elim
  | _ :: _, [], h => h.elim
theorem DRel.len : ∀ {l : List (κ × α)} {ws : List (κ' × V)}, DRel tk' e F l ws → ws.length = l.length
  | [], [], _ => rfl
  | kv :: l, w :: ws, h => congrArg (· + 1) (DRel.len h.2.2)
  | [], _ :: _, h => h.elim
  | _ :: _, [], h => h.elim
theorem DRel.at : ∀ {l : List (κ × α)} {ws : List (κ' × V)} {i : Nat} {kv : κ × α}, DRel tk' e F l ws → l[i]? = some kv → ∃ w, ws[i]? = some w ∧ w.1 = tk' kv.1 ∧ (e kv.2).p F w.2
  | kv :: l, w :: ws, 0, kv', h, z => by simp at z; subst z; exact ⟨w, rfl, h.1, h.2.1⟩
  | kv :: l, w :: ws, i + 1, kv', h, z => by
    obtain ⟨w', h1, h2⟩ := DRel.at (i := i) (kv := kv') h.2.2 (by simpa using z)
    exact ⟨w', by simpa using h1, h2⟩
  | [], [], _, _, _, z => by simp at z
  | [], _ :: _, _, _, h, _ => h.elim
  | _ :: _, [], _, _, h, _ => h.elim
theorem DRel.app : ∀ {l : List (κ × α)} {ws : List (κ' × V)} {kv : κ × α} {w : κ' × V}, DRel tk' e F l ws → w.1 = tk' kv.1 → (e kv.2).p F w.2 → DRel tk' e F (l ++ [kv]) (ws ++ [w])
  | [], [], _, _, _, h1, h2 => ⟨h1, h2, trivial⟩
  | _ :: _, _ :: _, _, _, h, h1, h2 => ⟨h.1, h.2.1, DRel.app h.2.2 h1 h2⟩
  | [], _ :: _, _, _, h, _, _ => h.elim
  | _ :: _, [], _, _, h, _, _ => h.elim
section
variable [DecidableEq κ] [DecidableEq κ'] (inj : ∀ a b, tk' a = tk' b → a = b)
include inj
theorem DRel.get (k : κ) : ∀ {l : List (κ × α)} {ws : List (κ' × V)}, DRel tk' e F l ws → (∀ v, gtK l k = some v → ∃ x, valV ws (tk' k) = some x ∧ (e v).p F x) ∧ (gtK l k = none → valV ws (tk' k) = none)
  | [], [], _ => ⟨fun v h => (by cases h), fun _ => rfl⟩
  | kv :: l, w :: ws, h => by
    have ih := DRel.get k h.2.2
    unfold gtK valV at *
    rw [List.find?_cons, List.find?_cons, h.1]
    by_cases z : kv.1 = k
    · rw [decide_eq_true z, decide_eq_true (by rw [z])]
      exact ⟨fun v hv => by cases hv; exact ⟨w.2, rfl, h.2.1⟩, fun hv => by cases hv⟩
    · rw [decide_eq_false z, decide_eq_false (fun y => z (inj _ _ y))]
      exact ih
  | [], _ :: _, h => h.elim
  | _ :: _, [], h => h.elim
theorem DRel.any (k : κ) : ∀ {l : List (κ × α)} {ws : List (κ' × V)}, DRel tk' e F l ws → (ws.any fun w => decide (w.1 = tk' k)) = l.any fun p => decide (p.1 = k)
  | [], [], _ => rfl
  | kv :: l, w :: ws, h => by
    rw [List.any_cons, List.any_cons, DRel.any k h.2.2, h.1]
    congr 1
    exact decide_eq_decide.mpr ⟨fun y => inj _ _ y, fun y => by rw [y]⟩
  | [], _ :: _, h => h.elim
  | _ :: _, [], h => h.elim
theorem DRel.rep (k : κ) {v : α} {x : V} (hx : (e v).p F x) : ∀ {l : List (κ × α)} {ws : List (κ' × V)}, DRel tk' e F l ws → DRel tk' e F (l.map fun p => if p.1 = k then (p.1, v) else p) (ws.map fun w => if w.1 = tk' k then (w.1, x) else w)
  | [], [], _ => trivial
  | kv :: l, w :: ws, h => by
    refine ⟨?_, ?_, DRel.rep k hx h.2.2⟩
    · show (if w.1 = tk' k then (w.1, x) else w).1 = tk' (if kv.1 = k then (kv.1, v) else kv).1
      have a : (if w.1 = tk' k then (w.1, x) else w).1 = w.1 := by split <;> rfl
      have b : (if kv.1 = k then (kv.1, v) else kv).1 = kv.1 := by split <;> rfl
      rw [a, b]; exact h.1
    · show (e (if kv.1 = k then (kv.1, v) else kv).2).p F (if w.1 = tk' k then (w.1, x) else w).2
      by_cases z : kv.1 = k
      · rw [if_pos z, if_pos (by rw [h.1, z])]; exact hx
      · rw [if_neg z, if_neg (by rw [h.1]; exact fun y => z (inj _ _ y))]; exact h.2.1
  | [], _ :: _, h => h.elim
  | _ :: _, [], h => h.elim
theorem DRel.put (k : κ) {v : α} {x : V} (hx : (e v).p F x) {l : List (κ × α)} {ws : List (κ' × V)} (h : DRel tk' e F l ws) : DRel tk' e F (ptK l k v) (putK ws (tk' k) x) := by
  unfold ptK putK
  rw [DRel.any inj k h]
  by_cases z : (l.any fun p => decide (p.1 = k)) = true
  · rw [if_pos z, if_pos z]; exact DRel.rep inj k hx h
  · rw [if_neg z, if_neg z]; exact h.app rfl hx
end
end
end Fw
end
section
set_option maxRecDepth 100000
namespace Fw
open PySem L2
end Fw
end
section
set_option maxRecDepth 100000
namespace Fw
open PySem L2 PyProof.Rows PySem.Spec
section
variable {W W' W0 W1 W2 W3 : List Sl} {K : PySem.W.Frag} {ta tb te : TE} {α β : Type} {tt : TS} {P : Post}
@[reducible] def datO {e : α → R} (D : DatE K e) (h : ∀ x, PyData.eqv .none (D.d x) = false ∧ PyData.eqv (D.d x) .none = false) : DatE K (eO e) where
  d := fun o => optD D.d o
  dep := D.dep
  ok := fun {F H v x} f g => by
    cases x with
    | none =>
      cases (show v = V.non from g)
      exact .non
    | some x => exact D.ok f g
  lay := fun x => by
    cases x with
    | none => rfl
    | some x => exact D.lay x
  dpt := fun x => by
    cases x with
    | none => simp [optD, PyData.depth]
    | some x => exact D.dpt x
  eqv := fun x y => by
    cases x with
    | none =>
      cases y with
      | none => simp [optD, PyData.eqv]
      | some y =>
        show PyData.eqv .none (D.d y) = true ↔ _
        rw [(h y).1]; simp
    | some x =>
      cases y with
      | none =>
        show PyData.eqv (D.d x) .none = true ↔ _
        rw [(h x).2]; simp
      | some y =>
        show PyData.eqv (D.d x) (D.d y) = true ↔ _
        rw [D.eqv]; simp
  nod := fun x => by
    cases x with
    | none => rfl
    | some x => exact D.nod x
instance {a : α → R} {b : β → R} [DatE K a] [DatE K b] : DatE K (eO (eP2 K a b)) := datO inferInstance fun x => ⟨rfl, rfl⟩
instance {a : α → R} {b : β → R} : NotN (eP2 K a b) := ⟨fun F x v h e => by obtain ⟨p, _, h', _⟩ := h; rw [h'] at e; cases e⟩
/-- an owned list is frozen, nothing is run -/
theorem sat_frz {e : α → R} {l : List α} {i : Nat} {q : Option Addr} {F H : Hp} {σ : L2.St} (s : Sat F H σ W) (h0 : W[i]? = some (.ow (oLq q (l.map e)))) :
    ∃ F', Rel F H (Own W σ) F' H (Own (W.set i (.fz (eLs e l))) σ) ∧ Sat F' H σ (W.set i (.fz (eLs e l))) := by
  obtain ⟨p, o, e0, g1, g2, ⟨yq, xs, rfl, h3⟩⟩ := s.ow i _ h0
  have hi : i < W.length := (List.getElem?_eq_some_iff.mp h0).1
  have ow : Own W σ p := ⟨i, _, .inl ⟨h0, e0⟩⟩
  have wk := Wk.no h0 rfl
  have np : ¬ Own (W.set i .no) σ p := no_own_no s h0 e0
  have s1 := (s.weak wk).freeze g1 g2 np
  have s2 : Sat (upd F p (.lst xs)) H (σ.set i (some (.ref p))) ((W.set i .no).set i (.fz (eLs e l))) := s1.put ⟨p, xs, rfl, upd_same, h3.mono fun a o z => by rw [upd_ne (ne_of_none z g2)]; exact z⟩ (ghAt_of (List.getElem?_set_self hi) rfl)
  have es : σ.set i (some (.ref p)) = σ := by
    refine List.ext_getElem? fun j => ?_
    by_cases e : i = j
    · subst e
      rw [List.getElem?_set_self (s.lt h0 rfl), e0]
    · rw [List.getElem?_set_ne e]
  have ew : (W.set i .no).set i (.fz (eLs e l)) = W.set i (.fz (eLs e l)) := by rw [List.set_set]
  rw [es, ew] at s2
  refine ⟨_, ⟨fun a u h => ?_, fun _ _ _ h => h, fun a u h => ?_, fun _ h => h, fun a m => .inl ?_⟩, s2⟩
  · rw [upd_ne (ne_of_none h g2)]; exact h
  · by_cases z : a = p
    · subst z; exact .inr (.inr (.inl ow))
    · rw [upd_ne z] at h; exact .inl h
  · obtain ⟨j, c, ⟨z1, z2⟩ | z1⟩ := m
    · by_cases e : i = j
      · subst e; rw [List.getElem?_set_self hi] at z1; cases z1
      · rw [List.getElem?_set_ne e] at z1
        exact ⟨j, c, .inl ⟨z1, z2⟩⟩
    · exact ⟨j, c, .inr (gh_set rfl z1).2⟩
theorem ss_frz {e : α → R} {l : List α} (i : Nat) {q : Option Addr} (h0 : W[i]? = some (.ow (oLq q (l.map e)))) (h : SS tt (W.set i (.fz (eLs e l))) P) : SS tt W P := fun F H σ D s kn kr kb kc => by
  obtain ⟨F', r, s'⟩ := sat_frz s h0
  exact h F' H σ D s' (fun W2 σ2 F2 H2 n2 a2 s2 => kn W2 σ2 F2 H2 n2 (r.trans a2) s2) (fun W2 σ2 v' v F2 H2 n2 a2 s2 => kr W2 σ2 v' v F2 H2 n2 (r.trans a2) s2)
    (fun W2 σ2 F2 H2 n2 a2 s2 => kb W2 σ2 F2 H2 n2 (r.trans a2) s2) fun W2 σ2 F2 H2 n2 a2 s2 => kc W2 σ2 F2 H2 n2 (r.trans a2) s2
end
end Fw
end
section
set_option maxRecDepth 100000
namespace Fw
open PySem L2
section
variable {K : PySem.W.Frag} {α β γ δ ε : Type} {W W1 : List Sl} {te : TE}
/-! lists of unlike things -/
def eM2 (a : α → R) (b : β → R) (x : α × β) : R := eL [a x.1, b x.2]
def eM3 (a : α → R) (b : β → R) (c : γ → R) (x : α × β × γ) : R := eL [a x.1, b x.2.1, c x.2.2]
def eM4 (a : α → R) (b : β → R) (c : γ → R) (d : δ → R) (x : α × β × γ × δ) : R := eL [a x.1, b x.2.1, c x.2.2.1, d x.2.2.2]
instance {e : α → R} {f : β → R} [D : DatE K e] [D' : DatE K f] : DatE K (eM2 e f) where
  d := fun x => .list [D.d x.1, D'.d x.2]
  dep := max D.dep D'.dep + 1
  ok := fun f ⟨p, xs, h1, h2, h3⟩ => by
    subst h1
    match xs, h3 with
    | [x, y], h3 => exact .lst (.inl (.inl (f _ _ h2))) (.cons (D.ok f h3.1) (.cons (D'.ok f h3.2.1) .nil))
    | [], h3 => exact h3.elim
    | [_], h3 => exact h3.2.elim
    | _ :: _ :: _ :: _, h3 => exact h3.2.2.elim
  lay := fun x => by simp [PyData.canLay0, PyData.canLayAll0, D.lay, D'.lay]
  dpt := fun x => by
    have h1 := D.dpt x.1
    have h2 := D'.dpt x.2
    simp only [PyData.depth, PyData.depthAll]
    omega
  eqv := fun x y => by
    obtain ⟨x1, x2⟩ := x
    obtain ⟨y1, y2⟩ := y
    simp [PyData.eqv, PyData.eqvAll, D.eqv, D'.eqv]
  nod := fun x => by simp [PyData.hasDict, PyData.hasDictAll, D.nod, D'.nod]
instance {e : α → R} {f : β → R} {g : γ → R} [D : DatE K e] [D' : DatE K f] [D'' : DatE K g] : DatE K (eM3 e f g) where
  d := fun x => .list [D.d x.1, D'.d x.2.1, D''.d x.2.2]
  dep := max D.dep (max D'.dep D''.dep) + 1
  ok := fun f ⟨p, xs, h1, h2, h3⟩ => by
    subst h1
    match xs, h3 with
    | [x, y, z], h3 => exact .lst (.inl (.inl (f _ _ h2))) (.cons (D.ok f h3.1) (.cons (D'.ok f h3.2.1) (.cons (D''.ok f h3.2.2.1) .nil)))
    | [], h3 => exact h3.elim
    | [_], h3 => exact h3.2.elim
    | [_, _], h3 => exact h3.2.2.elim
    | _ :: _ :: _ :: _ :: _, h3 => exact h3.2.2.2.elim
  lay := fun x => by simp [PyData.canLay0, PyData.canLayAll0, D.lay, D'.lay, D''.lay]
  dpt := fun x => by
    have h1 := D.dpt x.1
    have h2 := D'.dpt x.2.1
    have h3 := D''.dpt x.2.2
    simp only [PyData.depth, PyData.depthAll]
    omega
  eqv := fun x y => by
    obtain ⟨x1, x2, x3⟩ := x
    obtain ⟨y1, y2, y3⟩ := y
    simp [PyData.eqv, PyData.eqvAll, D.eqv, D'.eqv, D''.eqv]
  nod := fun x => by simp [PyData.hasDict, PyData.hasDictAll, D.nod, D'.nod, D''.nod]
instance {e : α → R} {f : β → R} {g : γ → R} {h : δ → R} [D : DatE K e] [D' : DatE K f] [D'' : DatE K g] [D3 : DatE K h] : DatE K (eM4 e f g h) where
  d := fun x => .list [D.d x.1, D'.d x.2.1, D''.d x.2.2.1, D3.d x.2.2.2]
  dep := max D.dep (max D'.dep (max D''.dep D3.dep)) + 1
  ok := fun f ⟨p, xs, h1, h2, h3⟩ => by
    subst h1
    match xs, h3 with
    | [x, y, z, w], h3 => exact .lst (.inl (.inl (f _ _ h2))) (.cons (D.ok f h3.1) (.cons (D'.ok f h3.2.1) (.cons (D''.ok f h3.2.2.1) (.cons (D3.ok f h3.2.2.2.1) .nil))))
    | [], h3 => exact h3.elim
    | [_], h3 => exact h3.2.elim
    | [_, _], h3 => exact h3.2.2.elim
    | [_, _, _], h3 => exact h3.2.2.2.elim
    | _ :: _ :: _ :: _ :: _ :: _, h3 => exact h3.2.2.2.2.elim
  lay := fun x => by simp [PyData.canLay0, PyData.canLayAll0, D.lay, D'.lay, D''.lay, D3.lay]
  dpt := fun x => by
    have h1 := D.dpt x.1
    have h2 := D'.dpt x.2.1
    have h3 := D''.dpt x.2.2.1
    have h4 := D3.dpt x.2.2.2
    simp only [PyData.depth, PyData.depthAll]
    omega
  eqv := fun x y => by
    obtain ⟨x1, x2, x3, x4⟩ := x
    obtain ⟨y1, y2, y3, y4⟩ := y
    simp [PyData.eqv, PyData.eqvAll, D.eqv, D'.eqv, D''.eqv, D3.eqv]
  nod := fun x => by simp [PyData.hasDict, PyData.hasDictAll, D.nod, D'.nod, D''.nod, D3.nod]
end
end Fw
end
section
set_option maxRecDepth 100000
set_option maxHeartbeats 2000000
/-! exceptions as values: made, asked for their class, read -/
namespace Fw
open PySem L2 PyProof.Rows PySem.Spec
/-- an exception: its class's number, what it holds -/
structure Xc where
  c : Nat
  f : Option (Option Int)
instance : Inhabited Xc := ⟨⟨0, none⟩⟩
def xfn (i : Nat) : Str := if i = 2 then "part" else if i = 3 then "total" else "item"
/-- what a class must say -/
structure XcC (K : PySem.W.Frag) (C : Addr) : Prop where
  cl : (PySem.W.clsIn K C).isSome = true
  ga : PySem.W.findIn K (.ref C) "__getattribute__" = some (some (.builtin "BaseException.__getattribute__"))
  gg : PySem.W.findIn K (.ref C) "__getattr__" = some none
  sb : PySem.W.subIn K (.ref C) (.type "BaseException") = some true
  hd : PySem.W.hasDictIn K C = true
  ha : PySem.W.findIn K (.ref C) "__class__" = some (some (.builtin "object.__class__"))
  hn : PySem.W.specialIn K (.builtin "object.__class__") "__get__" = some (some (.builtin "getset_descriptor.__get__"))
  ht : PySem.W.takesIn K (.builtin "object.__class__") = some true
  hm : PySem.W.mroIn K C (.type "object") = some true
section
variable {X : Cx}
/-- __init__ that stores its one value -/
def spXi (C : Addr) (f : Str) : Sp := fun vs H Q E => ∃ a y, vs = [.ref a, y] ∧ H a = some (exo a C none) ∧ ∀ dx, H dx = none → dx ≠ a → Q .non (upd (upd H dx (exd dx [(f, y)])) a (exo a C (some dx)))
end
theorem fn_xi {CX : CXT} {P : Program} {w : World} {K : PySem.W.Frag} {mg : Str → Option Value} {base : Heap} {k : Nat} {fa C : Addr} {name qual f p1 : Str} {params : Arguments} {body : List Stmt} {scope : Scope} {dV kV doc pm cdv ct oc : Value} {an od : Option Addr}
    {osl : Array (Option Value)} {N : List Str} {q1 q2 q3 q4 : Pos} (lk : K.lookup fa = some ⟨oc, od, .func (PySem.W.fnOf name qual params body scope dV kV doc pm an cdv ct), osl⟩) (hcd : PySem.W.codeIn K cdv qual = true) (S : FnScope N ["self", p1] scope)
    (hN : N = [("self" : Str), p1]) (hb : body = [.Assign [.Attribute (.Name "self" q1) f q2] (.Name p1 q3) q4]) (T : OexC K C) (hno : PySem.W.findIn K (.ref C) f = some none) (d1 : (p1 == ("__debug__" : Str)) = false := by decide) (d2 : (p1 == ("__classdict__" : Str)) = false := by decide) :
    FnOk P w K mg base CX (k + 1) fa (PySem.W.fnOf name qual params body scope dV kV doc pm an cdv ct) ["self", p1] (spXi C f) := by
  refine fn_of lk hcd S (fun vs H Q E h => ?_) (fun A outer s H vs Q E hr h => ?_)
  · obtain ⟨a, y, e, _⟩ := h
    rw [e]
    rfl
  · obtain ⟨a, y, e, ea, q⟩ := h
    subst e
    subst hb
    subst hN
    refine ⟨_, pss_one (ps_ost (pe_var (i := 0) rfl ((S.par "self" (List.Mem.head _)).elim (fun z => .inl z) (fun z => .inr (.inl z)))) (pe_var (i := 1) rfl ((S.par p1 (List.Mem.tail _ (List.Mem.head _))).elim (fun z => .inl z) (fun z => .inr (.inl z))) d1 d2) rfl), ?_⟩
    exact ⟨y, rfl, .ref a, rfl, a, C, rfl, T, hno, .inl ⟨ea, fun dx n ne => q dx n ne⟩⟩
section
variable {W W' W1 : List Sl} {K : PySem.W.Frag} {ta : TE} {r : R} {ad : Nat → Addr}
def isX (x : Xc) (j : Nat) : Bool := decide (x.c = j) || decide (j = 17)
/-- what is said of the classes -/
structure XT (K : PySem.W.Frag) (ad : Nat → Addr) : Prop where
  cls : ∀ i, i < 18 → XcC K (ad i)
  sub : ∀ i, i < 18 → ∀ j, j < 18 → PySem.W.kitOne K (.ref (ad i)) (.ref (ad j)) = some (decide (i = j) || decide (j = 17))
  val : ∀ i, i < 18 → PySem.W.kitOne K (.ref (ad i)) (.type "ValueError") = some true
  nof : ∀ i, i < 4 → PySem.W.findIn K (.ref (ad i)) (xfn i) = some none
def xget (x : Xc) : Option Int := x.f.getD none
/-- a class whose __init__ stores its one value -/
structure XDs (P : Program) (w : World) (K : PySem.W.Frag) (mg : Str → Option Value) (base : Heap) (ad : Nat → Addr) (i : Nat) (fI : Addr) (fd : FuncData) (p : Str) : Prop where
  T : OexC K (ad i)
  iC : PySem.W.findIn K (.ref (ad i)) "__init__" = some (some (.ref fI))
  tI : PySem.W.typeIn K (.ref fI) = some (.type "function")
  F : FnOk P w K mg base CX0 1 fI fd ["self", p] (spXi (ad i) (xfn i))
  hb : Binds K fd ["self", p] []
end
end Fw
end
section
set_option maxRecDepth 100000
/-! a list times a number; not in a list -/
namespace Fw
open PySem L2 PyProof.Rows PySem.Spec
theorem All2.rep {F : Hp} {rs : List R} {xs : List V} (h : All2 rs F xs) : ∀ n : Nat, All2 (List.replicate n rs).flatten F (List.replicate n xs).flatten
  | 0 => trivial
  | n + 1 => by
    rw [List.replicate_succ, List.replicate_succ, List.flatten_cons, List.flatten_cons]
    exact h.app (All2.rep h n)
section
variable {W W' W1 W2 : List Sl} {K : PySem.W.Frag} {ta tb : TE} {α : Type} {e : α → R}
theorem en_rep {l : List α} {k : Int} (ha : ES ta W W1 (eLs e l)) (hb : ES tb W1 W2 (eI k)) (g : 0 ≤ k ∧ k ≤ 1000 ∧ l.length ≤ 1000) : ESN (tOp rRep ta tb) W W2 (oLs e (List.replicate k.toNat l).flatten) := fun F H σ Q s kk =>
  ha F H σ _ s fun v F1 H1 a1 s1 e1 => hb F1 H1 σ _ s1 fun y F2 H2 a2 s2 e2 => by
    obtain ⟨p, xs, h1, h2, h3⟩ := (eLs e l).mono a2.f e1
    have ey : y = V.int k := e2
    subst h1 ey
    obtain ⟨g1, g2, g3⟩ := g
    have hl : xs.length = l.length := by rw [h3.len, List.length_map]
    refine ⟨p, k, xs, rfl, rfl, s2.ex _ _ h2, by omega, by omega, ?_, fun r hr => ?_⟩
    · have : xs.length * k.toNat ≤ 1000 * 1000 := Nat.mul_le_mul (by omega) (by omega)
      rw [sizeLine_eq]; omega
    have exr : Same H2 (upd H2 r (.lst (List.replicate k.toNat xs).flatten)) := fun a o z => by rw [upd_ne (ne_of_none z hr)]; exact z
    refine kk r _ F2 _ ((a1.trans a2).trans (Rel.grow exr)) (s2.grow exr) (a1.t _ (a2.t _ hr)) upd_same (s2.ex.free hr) (not_own s2 hr) ⟨nofun, _, rfl, ?_⟩
    have z := All2.rep h3 k.toNat
    rw [List.map_flatten, List.map_replicate]
    exact z
end
end Fw
end
section
set_option maxRecDepth 100000
/-! the law's list, as it lies: the law's list + a list -/
namespace Fw
open PySem L2 PyProof.Rows PySem.Spec
theorem kit_refs {K : PySem.W.Frag} {C D : Addr} {b : Bool} (cl : PySem.W.isClsIn K C = true) (ty : PySem.W.typeIn K (.ref C) = some (.type "type")) (s : PySem.W.subIn K (.ref D) (.ref C) = some b) (r : PySem.W.subIn K (.ref D) (.ref D) = some true) : PySem.W.kitOne K (.ref D) (.ref C) = some b := by
  unfold PySem.W.kitOne
  by_cases h : (Value.ref D == Value.ref C) = true
  · have e : D = C := Value.ref.inj (beq_iff_eq.mp h)
    subst e
    rw [if_pos h]
    exact r.symm.trans s
  · rw [if_neg h]
    unfold PySem.W.kitCls
    dsimp only
    have hc : (PySem.W.clsIn K C).isSome = true := cl
    rw [hc, ty, if_pos (by simp)]
    exact s
theorem kit_type {K : PySem.W.Frag} {D : Addr} {n : String} {b : Bool} (hm : PySem.W.kitMeta n = true) (s : PySem.W.subIn K (.ref D) (.type n) = some b) : PySem.W.kitOne K (.ref D) (.type n) = some b := by
  unfold PySem.W.kitOne
  by_cases h : (Value.ref D == Value.type n) = true
  · cases beq_iff_eq.mp h
  · rw [if_neg h]
    unfold PySem.W.kitCls
    dsimp only
    rw [if_pos hm]
    exact s
end Fw
end
section
set_option maxRecDepth 100000
/-! texts: str(int), int(text), join, split, signs; a def's own list handed out -/
namespace Fw
open PySem L2 PyProof.Rows PySem.Spec
section
variable {W W' W0 W1 W2 W3 : List Sl} {K : PySem.W.Frag} {ta tb te to tl : TE} {r : R} {α : Type} {e : α → R} {F H F' H' : Hp} {σ : L2.St} {ts uu : TS} {ι : Type} {E : XK}
theorem es_addS {a b : Str} (ha : ES ta W W1 (eS a)) (hb : ES tb W1 W2 (eS b)) (g : a.length + b.length ≤ 16000000) : ES (tOp (fun x y H Q => ∃ i j : Str, x = .str i ∧ y = .str j ∧ i.length + j.length ≤ sizeLine ∧ Q (.str (i ++ j)) H) ta tb) W W2 (eS (a ++ b)) := fun F H σ Q s k =>
  ha F H σ _ s fun v F1 H1 a1 s1 e1 => hb F1 H1 σ _ s1 fun w F2 H2 a2 s2 e2 => ⟨a, b, e1, e2, Nat.le_trans g (by rw [sizeLine_eq]; decide), k _ F2 H2 (a1.trans a2) s2 rfl⟩
end
end Fw
end
section
/-! four in a tuple -/
namespace Fw
open PySem L2
theorem ix_tupK {X : Cx} {K : PySem.W.Frag} (h : X.K = K) : IxR X (rIxT K) := by subst h; exact ix_tup
end Fw
end
section
set_option maxRecDepth 100000
/-! dicts of ints that are handed out: frozen; their items -/
namespace Fw
open PySem L2
end Fw
end
section
set_option maxRecDepth 100000
set_option maxHeartbeats 2000000
/-! sorted(d.items()), d a dict of ints -/
namespace Fw
open PySem L2 L2.DX PySem.Spec PyProof.Rows
end Fw
end
section
set_option maxRecDepth 100000
/-! sorted(d.items()), typed -/
namespace Fw
open PySem L2 L2.DX
end Fw
end
section
set_option maxRecDepth 100000
set_option maxHeartbeats 2000000
/-! max(d.items()), d a dict of ints -/
namespace Fw
open PySem L2 L2.DX PySem.Spec PyProof.Rows PySem.W
/-! typed -/
end Fw
end
section
set_option maxRecDepth 100000
/-! lists of five unlike things: a list and a list of two more -/
namespace Fw
open PySem L2 L2.DX
section
variable {W W' W0 W1 W2 W3 : List Sl} {K : PySem.W.Frag} {ta tb : TE} {α β γ δ ε : Type}
def eM5 (a : α → R) (b : β → R) (c : γ → R) (d : δ → R) (e : ε → R) (x : α × β × γ × δ × ε) : R := eL [a x.1, b x.2.1, c x.2.2.1, d x.2.2.2.1, e x.2.2.2.2]
instance {e : α → R} {f : β → R} {g : γ → R} {h : δ → R} {i : ε → R} [D : DatE K e] [D' : DatE K f] [D'' : DatE K g] [D3 : DatE K h] [D4 : DatE K i] : DatE K (eM5 e f g h i) where
  d := fun x => .list [D.d x.1, D'.d x.2.1, D''.d x.2.2.1, D3.d x.2.2.2.1, D4.d x.2.2.2.2]
  dep := max D.dep (max D'.dep (max D''.dep (max D3.dep D4.dep))) + 1
  ok := fun f ⟨p, xs, h1, h2, h3⟩ => by
    subst h1
    match xs, h3 with
    | [x, y, z, w, v], h3 => exact .lst (.inl (.inl (f _ _ h2))) (.cons (D.ok f h3.1) (.cons (D'.ok f h3.2.1) (.cons (D''.ok f h3.2.2.1) (.cons (D3.ok f h3.2.2.2.1) (.cons (D4.ok f h3.2.2.2.2.1) .nil)))))
    | [], h3 => exact h3.elim
    | [_], h3 => exact h3.2.elim
    | [_, _], h3 => exact h3.2.2.elim
    | [_, _, _], h3 => exact h3.2.2.2.elim
    | [_, _, _, _], h3 => exact h3.2.2.2.2.elim
    | _ :: _ :: _ :: _ :: _ :: _ :: _, h3 => exact h3.2.2.2.2.2.elim
  lay := fun x => by simp [PyData.canLay0, PyData.canLayAll0, D.lay, D'.lay, D''.lay, D3.lay, D4.lay]
  dpt := fun x => by
    have h1 := D.dpt x.1
    have h2 := D'.dpt x.2.1
    have h3 := D''.dpt x.2.2.1
    have h4 := D3.dpt x.2.2.2.1
    have h5 := D4.dpt x.2.2.2.2
    simp only [PyData.depth, PyData.depthAll]
    omega
  eqv := fun x y => by
    obtain ⟨x1, x2, x3, x4, x5⟩ := x
    obtain ⟨y1, y2, y3, y4, y5⟩ := y
    simp [PyData.eqv, PyData.eqvAll, D.eqv, D'.eqv, D''.eqv, D3.eqv, D4.eqv]
  nod := fun x => by simp [PyData.hasDict, PyData.hasDictAll, D.nod, D'.nod, D''.nod, D3.nod, D4.nod]
end
end Fw
end
section
set_option maxRecDepth 100000
/-! dict(pairs of ints), frozen; in, not in -/
namespace Fw
open PySem L2 L2.DX
theorem ix_listK {X : Cx} {K : PySem.W.Frag} (h : X.K = K) : IxR X (rIxL K) := by
  subst h
  exact ix_list
theorem call_len_seqK {X : Cx} {K : PySem.W.Frag} (h : X.K = K) : CallR X (.builtin "len") (fun xs H Q => ∃ p ys, xs = [.ref p] ∧ (SqL K H p ys ∨ SqT K H p ys) ∧ Q (.int (ys.length : Nat)) H) := by
  subst h
  exact call_len_seq
section
variable {W W' W0 W1 W2 W3 : List Sl} {K : PySem.W.Frag} {td te tk tx : TE}
theorem es_andG {a b : Bool} {ta tb : TE} (h : ES ta W W1 (eB a)) (g : a = true) (h2 : ES tb W1 W2 (eB b)) : ES (tAndV ta tb) W W2 (eB b) := fun F H σ Q s k => h F H σ _ s fun v F1 H1 a1 s1 e1 => ⟨a, e1, by
  subst g
  rw [if_pos rfl]
  exact h2 F1 H1 σ Q s1 fun w F2 H2 a2 s2 e2 => k w F2 H2 (a1.trans a2) s2 e2⟩
end
end Fw
end
section
set_option maxRecDepth 100000
/-! range with a step, xs[i] = v, list(d) of a dict with tuple keys -/
namespace Fw
open PySem L2 L2.DX
end Fw
end
section
set_option maxRecDepth 100000
set_option maxHeartbeats 2000000
/-! an own list read while it is built; sorted(set(xs)) of any length; lists of unlike things put together -/
namespace Fw
open PySem L2 L2.DX PySem.Spec PyProof.Rows
/-! sorted(set(xs)) -/
end Fw
end
section
set_option maxRecDepth 100000
/-! a while that is broken where it would end -/
namespace Fw
open PySem L2
end Fw
end
section
set_option maxRecDepth 100000
/-! a list of Options that are all there -/
namespace Fw
open PySem L2
end Fw
end
section
set_option maxRecDepth 100000
set_option maxHeartbeats 2000000
/-! a caught exception that is kept -/
namespace Fw
open PySem L2 PyProof.Rows PySem.Spec
/-- at a: an exception of the class cls that was raised and caught, its dict at d -/
def xcO (a : Addr) (cls : Value) (d : Option Addr) : HO := .ext fun h => ∃ (oe : Obj) (vs : Array Value), h.get? a = some oe ∧ Zc cls d oe ∧ oe.data = .fields vs
theorem xcO_ok {P : Program} {w : World} {H : Hp} {h : Heap} {a : Addr} {cls : Value} {d : Option Addr} {oe : Obj} {vs : Array Value} (e : h.get? a = some oe) (z : Zc cls d oe) (dd : oe.data = .fields vs) : ObjOk P w H h a (xcO a cls d) :=
  ⟨⟨oe, vs, e, z, dd⟩, ⟨oe, e⟩, fun _ _ ⟨o, v, q, r⟩ k => ⟨o, v, k o q, r⟩⟩
theorem trackX {X : Cx} {pins : List (Addr × Obj)} {σ : L2.St} {H : Hp} {s : Shared} {a : Addr} {oe : Obj} {vs : Array Value} {cls : Value} {d : Option Addr} (I : Inv X pins σ H s) (ha : s.heap.get? a = some oe) (z : Zc cls d oe) (hd : oe.data = .fields vs)
    (n0 : X.s_0.heap.get? a = none) (na : H a = none) (nL : a ≠ X.env.locals) (np : ∀ p ∈ X.pn ++ pins, p.1 ≠ a) : Inv X pins σ (upd H a (xcO a cls d)) s := by
  have neN : ∀ b u, H b = some u → b ≠ a := fun b u e q => by rw [q, na] at e; cases e
  refine ⟨I.ok, I.os, I.bare, ⟨I.base.keep, I.base.slot, fun b o e n hb => ?_, I.base.there, fun b xs e => ?_, fun b o u e => ?_, fun b ps e => ?_⟩, I.loc, I.cell, ?_, fun x c e => ?_, fun p hp => ?_, fun b u e => ?_, I.len⟩
  · rw [upd_ne (fun q => by rw [q, n0] at e; cases e)]
    exact I.base.free b o e n hb
  · have q := I.base.tups b xs e
    rw [upd_ne (neN b _ q)]; exact q
  · have q := I.base.frzs b o u e
    rw [upd_ne (neN b _ q)]; exact q
  · obtain ⟨m, q⟩ := I.base.tbls b ps e
    exact ⟨m, by rw [upd_ne (neN b _ q)]; exact q⟩
  · rw [upd_ne (Ne.symm nL)]; exact I.free
  · obtain ⟨v, o, ho, hc⟩ := I.cell x c e
    rw [upd_ne (fun q => by rw [q, ha] at ho; cases ho; rw [hd] at hc; cases hc)]
    exact I.freeC x c e
  · obtain ⟨h1, h2, h3⟩ := I.pin p hp
    exact ⟨h1, by rw [upd_ne (np p hp)]; exact h2, h3⟩
  · by_cases hb : b = a
    · subst hb
      rw [upd_same] at e
      cases e
      exact xcO_ok ha z hd
    · rw [upd_ne hb] at e
      exact (I.hok b u e).stay (fun c v _ q => q) (fun c q => by rw [upd_ne (neN c _ q)]; exact q) fun c xs q => by rw [upd_ne (neN c _ q)]; exact q
/-- try: body except X as n: suite, where what is caught is kept -/
def wAsK (K : PySem.W.Frag) (c : Value) (i : Nat) (ts : Addr → Value → Option Addr → TS) (Wout : WX) (D : Ends) : WX := fun cls d σ H =>
  ∃ b, PySem.W.exmOne K cls c = some b ∧ (b = true → ∀ a, H a = none → ts a cls d { nx := fun σ' H' => H' a = none ∧ D.nx (σ'.set i none) (upd H' a (xcO a cls d)), rt := fun _ _ => False, bk := fun _ _ => False, ct := fun _ _ => False } (σ.set i (some (.ref a))) H) ∧
    (b = false → Wout cls d σ H)
section
variable {X : Cx} {x n : Str} {c : Value} {i : Nat} {body suite : List Stmt} {b₀ : Stmt} {np pos pos' : Pos} {tb : WX → TS} {ts : Addr → Value → Option Addr → TS} {Wout : WX}
theorem ps_try_keep (hs : X.stack = X.env :: X.outer) (hf : X.env.frame = some X.env.locals) (hN : X.N.Nodup) (hi : X.N[i]? = some n) (hln : X.env.kindOf n = some .local) (hex : X.ex = []) (hc : Names X x c) (tk : Takes X Wout)
    (hb : ∀ (W : WX) (pn : List (Addr × Obj)) (xe : Value → Shared → Prop), Takes (X.tr pn xe) W → PassesOwn (model X.prog X.w) X.A X.env xe → PSs (X.tr pn xe) body (tb W))
    (hsu : ∀ (a : Addr) (oe : Obj) (cls : Value) (d : Option Addr) (pn : List (Addr × Obj)), Zc cls d oe → (∃ vs, oe.data = .fields vs) → PSs (X.suite a ((a, oe) :: pn)) (b₀ :: suite) (ts a cls d)) :
    PS X (.Try body [.ExceptHandler (some (.Name x np)) (some n) (b₀ :: suite) pos'] [] [] pos) (fun D σ H => tb (wAsK X.K c i ts Wout D) D σ H) := by
  refine ⟨fun pins s σ H D I h => ?_⟩
  have ok := I.ok
  have hfr : X.A.frames = some (X.env :: X.outer) := by rw [ok.frames, hs]
  have hloc : Loc X.env.scope n := .inl hln
  refine wpAny_Try_except ?_
  refine wpAny_mono ((hb (wAsK X.K c i ts Wout D) (X.pn ++ pins) (fun e s₁ => wpAny (model X.prog X.w) X.A (noteFrame e X.env) (fun _ s₂ => wpAny (model X.prog X.w) X.A (setFlight e none) (fun _ s₃ =>
    wpAny (model X.prog X.w) X.A (handleBy e X.env [.ExceptHandler (some (.Name x np)) (some n) (b₀ :: suite) pos']) (SP X pins D) X.xe s₃) X.xe s₂) X.xe s₁) (fun u s' xx => ?_) PassesOwn.looking).run [] s σ H D (I.toTry _) h) (fun f s1 hsp => ?_) (fun e s1 he => he)
  · obtain ⟨a, B, sI, pins', σ', H', cls, d, rfl, J', nb, up, sky, na, os, ag, b, hb1, hyes, hno⟩ := xx
    have J : Inv X pins σ' H' sI := J'.ofTry ok
    have sky' : Sky B (X.env :: X.outer) a (Zc cls d) X.env.locals s'.heap := by rw [← hs]; exact sky
    show wpAny (model X.prog X.w) X.A (noteFrame (.ref a) X.env) _ _ _
    refine Sky.land Zc.steady hfr hf sky' fun h3 fl3 up3 => ?_
    have J3 : Inv X pins σ' H' { s' with heap := h3 } := J.landed nb fl3.1 (up.trans up3) os ag
    obtain ⟨oe3, vs3, he3, hz3, hd3⟩ := fl3.there
    have notFr : ∀ {h : Heap} {o : Obj} {vs : Array Value}, h.FunFrames B (X.env :: X.outer) → h.get? a = some o → o.data = .fields vs → a ∉ frs (X.env :: X.outer) := fun {h o vs} ff e dd hm => by
      obtain ⟨_, o', e', hnf⟩ := ff.mem hm
      rw [e] at e'; cases e'
      exact hnf _ dd
    have nfr := notFr fl3.2.2.1 he3 hd3
    have nL : a ≠ X.env.locals := fun z => nfr (List.mem_filterMap.mpr ⟨X.env, List.mem_cons_self, by rw [hf, z]⟩)
    have nF : a ∉ X.fs := fun hm => by
      obtain ⟨e, he, q⟩ := List.mem_filterMap.mp hm
      exact nfr (List.mem_filterMap.mpr ⟨e, List.mem_cons_of_mem _ he, q⟩)
    have nI : sI.heap.get? a = none := by
      cases q : sI.heap.get? a with
      | none => rfl
      | some o =>
        have z := nb a o q (by rw [hs]; exact nfr)
        have z2 : B.get? a = none := fl3.2.1
        rw [z2] at z; cases z
    have n0 : X.s_0.heap.get? a = none := by
      cases q : X.s_0.heap.get? a with
      | none => rfl
      | some o =>
        obtain ⟨o', z⟩ := J.base.there a o q (by rw [hex]; exact fun w => nomatch w)
        rw [nI] at z; cases z
    have npn : ∀ p ∈ X.pn ++ pins, p.1 ≠ a := fun p hp q => by
      have z := (J.pin p hp).1
      rw [q, nI] at z; cases z
    have S3 := J3.suite he3 hd3 na nL nF
    refine wpAny_handleBy_cons (codeAny_handlers_test ?_) (by intro q; cases q)
    have LT : PySem.W.Looks (model X.prog X.w) h3 (typeOf (.ref a)) cls := fun A Q E s k q => wpAny_typeOf_ref (k _ _ he3) (by rw [hz3.1]; exact q)
    have LM := PySem.W.exm_one (M := model X.prog X.w) (J3.kIn) LT hb1
    have test : ∀ {Q : Value → Shared → Prop} {E : Value → Shared → Prop}, Q c { s' with heap := h3 } → wpAny (model X.prog X.w) (X.A.mark (some (.ref a))) (eval (.Name x np) X.env) Q E { s' with heap := h3 } := fun {Q E} q => by
      obtain ⟨hg, hdbg, hm | ⟨hm, hv, hnn⟩⟩ := hc
      · exact ld_glob (X := X.suite a ((a, oe3) :: (X.pn ++ pins))) S3 hg hm q hdbg
      · exact ld_blt (X := X.suite a ((a, oe3) :: (X.pn ++ pins))) S3 hg hm hv q hnn hdbg
    refine test (LM.here ?_)
    cases b with
    | true =>
      refine codeAny_handlers_suite_as ?_
      refine HandSPX.lands_againZ fl3 fun h4 fl4 up4 => ?_
      have J4 : Inv X pins σ' H' { s' with heap := h4 } := J.landed nb fl4.1 ((up.trans up3).trans up4) os ag
      obtain ⟨oe4, vs4, he4, hz4, hd4⟩ := fl4.there
      have S4 := J4.suite he4 hd4 na nL nF
      refine store_ok (X := X.suite a ((a, oe4) :: (X.pn ++ pins))) (v := .ref a) S4 hN hi hloc rfl (fun s5 S5 => ?_) (.inr hln)
      refine wpAny_mono ((hsu a oe4 cls d (X.pn ++ pins) hz4 ⟨_, hd4⟩).run [] s5 _ H' _ S5 (hyes rfl a na)) (fun f s6 hsp => ?_) (fun _ _ z => False.elim z)
      cases f with
      | next =>
        obtain ⟨σ6, H6, S6, n6, q6⟩ := hsp
        refine gone_ok (X := X.suite a ((a, oe4) :: (X.pn ++ pins))) S6 hN hi hln fun s7 S7 => ?_
        have pa := S7.pin (a, oe4) (List.mem_append_left _ (List.mem_cons_self ..))
        exact ⟨_, _, trackX (S7.unsuite ok) pa.1 hz4 hd4 n0 n6 nL npn, q6⟩
      | brk => exact hsp.elim fun _ z => z.elim fun _ z => z.2.elim
      | cont => exact hsp.elim fun _ z => z.elim fun _ z => z.2.elim
      | ret u =>
        obtain ⟨v6, σ6, H6, S6, r6, q6⟩ := hsp
        exact q6.elim
    | false =>
      show wpAny _ X.A (handleBy (.ref a) X.env []) _ _ _
      refine wpAny_handleBy_nil ?_
      obtain ⟨k1, k2, k3, oe, vs, T, oT, ts', he, hz, hd, h1, hr⟩ := id fl3
      unfold PySem.passOn
      refine wpAny_bind (wpAny_field he hd h1 ?_)
      rw [if_neg (show ¬ ((Value.ref T == Value.none) = true) from by simp)]
      have fin : wpAny (model X.prog X.w) X.A (setFlight (.ref a) X.env.frame) (fun _ s4 => wpAny (model X.prog X.w) X.A (throw (.ref a) : Sem Flow) (SP X pins D) X.xe s4) X.xe { s' with heap := h3 } := by
        rw [hf]
        refine HandSPX.setFlight_upZ fl3 fun h4 hh4 up4 => wpAny_throw (tk _ _ ?_)
        exact ⟨a, B, sI, pins, σ', H', cls, d, rfl, J, nb, (up.trans up3).trans up4, .inr (.inr (by rw [hs]; exact hh4)), na, os, ag, hno rfl⟩
      first
        | exact wpAny_bind (wpAny_pure (wpAny_bind fin))
        | exact wpAny_bind fin
  · cases f with
    | next =>
      obtain ⟨σ', H', J', q⟩ := hsp
      exact wpAny_execs_nil ⟨σ', H', J'.ofTry ok, q⟩
    | brk =>
      obtain ⟨σ', H', J', q⟩ := hsp
      exact ⟨σ', H', J'.ofTry ok, q⟩
    | cont =>
      obtain ⟨σ', H', J', q⟩ := hsp
      exact ⟨σ', H', J'.ofTry ok, q⟩
    | ret u =>
      obtain ⟨v, σ', H', J', r, q⟩ := hsp
      exact ⟨v, σ', H', J'.ofTry ok, r, q⟩
/-- isinstance of a caught one -/
def rIsC (K : PySem.W.Frag) : List V → Hp → VK → Prop := fun xs H Q => ∃ (a C : Addr) (c : V) (u : Value) (b : Bool) (d : Option Addr), XcC K C ∧ xs = [.ref a, c] ∧ ClsV c u ∧ H a = some (xcO a (.ref C) d) ∧ (∀ dd, d = some dd → ∃ fs, H dd = some (.xd fs)) ∧ PySem.W.kitOne K (.ref C) u = some b ∧ Q (.bl b) H
theorem call_isC : CallR X (.builtin "isinstance") (rIsC X.K) := by
  intro pins s σ H xs us Q I r h
  obtain ⟨a, C, c, u, b, d, T, rfl, k, ea, ed, e, q⟩ := h
  obtain ⟨u1, u2, rfl, r1, r2⟩ := vals2 r
  have e2 := k.eq r2
  subst e2
  cases (show u1 = Value.ref a from r1)
  have x : ObjOk X.prog X.w H s.heap a (xcO a (.ref C) d) := I.hok a _ ea
  obtain ⟨oe, vs, ho, ⟨hz1, hz2⟩, hd⟩ := x.1
  cases d with
  | none =>
    have J : PySem.W.InstAt s.heap a oe C none := by
      obtain ⟨oc, od, oda, osl⟩ := oe
      dsimp only at hz1 hz2 hd
      subst hz1 hz2 hd
      exact ⟨ho, rfl, rfl, trivial⟩
    exact PySem.W.kia_one (PySem.W.kitx_exc (x := a) (od := none) T.cl T.ga T.gg T.sb T.ha T.hn T.ht T.hm) I.kIn J e (fun z => nomatch z) fun tk => ⟨.bl b, H, I.tok tk, rfl, q⟩
  | some dd =>
    obtain ⟨fs, hf⟩ := ed dd rfl
    obtain ⟨mA, hns, rel⟩ := (show ObjOk X.prog X.w H s.heap dd (.xd fs) from I.hok dd _ hf)
    obtain ⟨od, hod, hl⟩ := lookIn_ns hns
    have J : PySem.W.InstAt s.heap a oe C (some od) := by
      obtain ⟨oc, odi, oda, osl⟩ := oe
      dsimp only at hz1 hz2 hd
      subst hz1 hz2 hd
      exact ⟨ho, rfl, rfl, hod⟩
    exact PySem.W.kia_one (PySem.W.kitx_exc (x := a) (od := some od) T.cl T.ga T.gg T.sb T.ha T.hn T.ht T.hm) I.kIn J e (fun z => nomatch z) fun tk => ⟨.bl b, H, I.tok tk, rfl, q⟩
/-- e.f -/
def tCg (K : PySem.W.Frag) (f : Str) (te : TE) : TE := fun σ H Q => te σ H fun x H1 => ∃ (a C : Addr) (y : V) (dd : Addr), XcC K C ∧ PySem.W.findIn K (.ref C) f = some none ∧ x = .ref a ∧ H1 a = some (xcO a (.ref C) (some dd)) ∧ H1 dd = some (.xd [(f, y)]) ∧ Q y H1
theorem pe_cg {e : Expr} {te : TE} {pos : Pos} {n : Str} (he : PE X e te) (hb : attributeBase e n X.env (eval e X.env) = eval e X.env := by rfl) : PE X (.Attribute e n pos) (tCg X.K n te) := by
  refine ⟨fun pins s σ H Q I h => ?_⟩
  refine attr_of hb (thn (he.run pins s σ H _ I h) fun u s1 hh => ?_)
  obtain ⟨x, H1, I1, rx, a, C, y, dd, T, hno, ex, ea, ed, q⟩ := hh
  subst ex
  obtain rfl : u = Value.ref a := rx
  have x : ObjOk X.prog X.w H1 s1.heap a (xcO a (.ref C) (some dd)) := I1.hok a _ ea
  obtain ⟨oe, vs, ho, ⟨hz1, hz2⟩, hd⟩ := x.1
  obtain ⟨mA, hns, rel⟩ := (show ObjOk X.prog X.w H1 s1.heap dd (.xd [(n, y)]) from I1.hok dd _ ed)
  obtain ⟨od, hod, hl⟩ := lookIn_ns hns
  obtain ⟨u, hu, ru⟩ := RelO.some_of (v := y) (o := mA n) (by have z := rel n; rw [show List.lookup n [(n, y)] = some y from by simp [List.lookup]] at z; exact z)
  have J : PySem.W.InstAt s1.heap a oe C (some od) := by
    obtain ⟨oc, odi, oda, osl⟩ := oe
    dsimp only at hz1 hz2 hd
    subst hz1 hz2 hd
    exact ⟨ho, rfl, rfl, hod⟩
  exact PySem.HandSPX.exc_get I1.kIn J T.ga T.gg T.sb (PySem.W.findObj_own T.hd hno rfl (by rw [hl, hu])) (handed_of ru) ⟨y, H1, I1.tok _, ru, q⟩
end
end Fw
end
section
set_option maxRecDepth 100000
set_option maxHeartbeats 2000000
/-! defs that raise -/
namespace Fw
open PySem L2 PyProof.Rows PySem.Spec
/-- what is kept of the heap up to a raise -/
structure An where
  p : Hp → Prop
  mono : ∀ {F F' : Hp}, Same F F' → p F → p F'
def eAt (A : An) (r : R) : R := ⟨fun F v => A.p F ∧ r.p F v, fun e h => ⟨A.mono e h.1, r.mono e h.2⟩⟩
def xV : Option Int → V
  | none => .non
  | some i => .int i
/-- the exception that comes out: its class, its dict -/
def exH (ad : Nat → Addr) (x : Xc) (cls : Value) (d : Option Addr) (F H : Hp) : Prop := cls = .ref (ad x.c) ∧ match x.f with
  | none => d = none
  | some o => ∃ dd, d = some dd ∧ H dd = some (.xd [(xfn x.c, xV o)]) ∧ F dd = none
def HE (ad : Nat → Addr) (A : An) (E : XK) (x : Xc) : Prop := ∀ cls dd F' H', A.p F' → Same F' H' → exH ad x cls dd F' H' → E cls dd H'
/-- a promise of a def that answers or raises -/
def spX {ι β : Type} (ad : Nat → Addr) (as : ι → List R) (ok : ι → Prop) (m : ι → Xc ⊕ β) (res : β → R) : Sp := fun vs H Q E => ∃ (d : ι) (F : Hp), ok d ∧ Same F H ∧ All2 (as d) F vs ∧
  (∀ b, m d = .inr b → ∀ v F' H', Rel F H Nob F' H' Nob → Same F' H' → (res b).p F' v → Q v H') ∧
  (∀ x, m d = .inl x → ∀ cls dd H', Same H H' → exH ad x cls dd H H' → E cls dd H')
def FPX {β : Type} (res : β → R) (v : Xc ⊕ β) : Post := ⟨fun _ => ∃ b, v = .inr b ∧ res b = eN, fun _ r => ∃ b, v = .inr b ∧ r = res b, fun _ => False, fun _ => False⟩
theorem spX.len {ι β : Type} {ad : Nat → Addr} {as : ι → List R} {ok : ι → Prop} {m : ι → Xc ⊕ β} {res : β → R} {vs : List V} {H : Hp} {Q : VK} {E : XK} {n : Nat} (h : spX ad as ok m res vs H Q E) (hn : ∀ d, (as d).length = n) : vs.length = n := by
  obtain ⟨d, F, _, _, ha, _⟩ := h
  rw [ha.len, hn]
section
variable {W W' W1 W2 : List Sl} {K : PySem.W.Frag} {ad : Nat → Addr} {A : An} {E : XK} {r : R} {P : Post} {ts uu : TS} {ta te : TE} {ι β γ δ : Type}
theorem es_at (h : ES te W W1 (eAt A r)) : ES te W W1 r := h.imp fun _ _ z => z.2
theorem def_X {as : ι → List R} {ok : ι → Prop} {m : ι → Xc ⊕ β} {res : β → R} {N : List Str} {vs : List V} {H : Hp} {Q : VK} (h : spX ad as ok m res vs H Q E) (hN : ∀ d, (as d).length ≤ N.length)
    (k : ∀ d, ok d → ∀ A : An, (∀ x, m d = .inl x → HE ad A E x) → SS ts (slF ((as d).map (eAt A)) N.length) (FPX res (m d))) : ts { nx := fun _ H' => Q .non H', rt := Q } (L2.start N vs) H := by
  obtain ⟨d, F, hok, ex, ha, hq, he⟩ := h
  have main : ∀ (A : An) (F0 : Hp), Same F0 H → Same F F0 → A.p F0 → (∀ x, m d = .inl x → HE ad A E x) → (∀ b, m d = .inr b → F0 = F) → ts { nx := fun _ H' => Q .non H', rt := Q } (L2.start N vs) H := by
    intro A F0 ex0 up0 hA hE hF
    have ha0 : All2 ((as d).map (eAt A)) F0 vs := by
      have := ha.mono up0
      clear hq he hE hF ha
      generalize as d = rs at *
      induction rs generalizing vs with
      | nil => exact this
      | cons r rs ih =>
        cases vs with
        | nil => exact this.elim
        | cons v vs => exact ⟨⟨hA, this.1⟩, ih this.2⟩
    have el := ha0.len
    have s : Sat F0 H (L2.start N vs) (slF ((as d).map (eAt A)) N.length) := by
      refine ⟨ex0, ?_, fun i r h => ?_, fun i c h => (slF_ow h).elim, fun i j c e p h => (slF_ow h).elim, Gh.no fun i q c h => slF_ng h⟩
      · refine len_real ?_ fun i s h => slF_real h
        unfold L2.start slF; simp at el; simp [el]
      · obtain ⟨x, z1, z2⟩ := ha0.get' (slF_fz h)
        exact ⟨x, start_at z1, z2⟩
    have own0 : ∀ a, ¬ Own (slF ((as d).map (eAt A)) N.length) (L2.start N vs) a := fun a o => slF_own o
    have up : ∀ {F' H' : Hp} {M : Addr → Prop}, Rel F0 H (Own (slF ((as d).map (eAt A)) N.length) (L2.start N vs)) F' H' M → Rel F0 H Nob F' H' Nob := fun a =>
      ⟨a.f, fun x o n h => a.h x o (own0 x) h, fun x o h => (a.n x o h).imp id (Or.imp id (Or.imp (fun m => own0 x m) id)), a.t, fun x m => m.elim⟩
    refine k d hok A hE F0 H (L2.start N vs) _ s (fun W' σ' F' H' z a s' => ?_) (fun W' σ' r v F' H' z a s' hv => ?_) (fun _ _ _ _ z => z.elim) fun _ _ _ _ z => z.elim
    · obtain ⟨b, e1, e2⟩ := z
      have e := hF b e1
      subst e
      exact hq b e1 .non F' H' (up a) s'.ex (by rw [e2]; rfl)
    · obtain ⟨b, e1, e2⟩ := z
      have e := hF b e1
      subst e e2
      exact hq b e1 v F' H' (up a) s'.ex hv
  cases hm : m d with
  | inl x =>
    refine main ⟨fun F' => Same H F', fun e h a o z => e a o (h a o z)⟩ H (fun _ _ z => z) ex (fun _ _ z => z) (fun y hy cls dd F' H' hA hs hx => ?_) (fun b hb => by rw [hm] at hb; cases hb)
    rw [hm] at hy
    cases hy
    refine he x hm cls dd H' (fun a o z => hs a o (hA a o z)) ⟨hx.1, ?_⟩
    have h2 := hx.2
    cases q : x.f with
    | none => rw [q] at h2; exact h2
    | some o =>
      rw [q] at h2
      obtain ⟨d1, k1, k2, k3⟩ := h2
      refine ⟨d1, k1, k2, ?_⟩
      cases z : H d1 with
      | none => rfl
      | some u =>
        have := hA d1 u z
        rw [k3] at this; cases this
  | inr b => exact main ⟨fun _ => True, fun _ _ => trivial⟩ F ex (fun _ _ z => z) trivial (fun x hx => by rw [hm] at hx; cases hx) fun _ _ => rfl
/-- in a branch -/
theorem HEt {δ : Type} {c : Xc → δ} {a : Bool} {vA vB : δ} {G : Xc → Prop} (q : a = true) (h : ∀ x, (if a = true then vA else vB) = c x → G x) : ∀ x, vA = c x → G x := fun x e => h x (by rw [if_pos q]; exact e)
theorem HEf {δ : Type} {c : Xc → δ} {a : Bool} {vA vB : δ} {G : Xc → Prop} (q : a = false) (h : ∀ x, (if a = true then vA else vB) = c x → G x) : ∀ x, vB = c x → G x := fun x e => h x (by rw [if_neg (by rw [q]; exact Bool.false_ne_true)]; exact e)
/-- raise -/
theorem ss_raiseN {i c : Nat} (hi : W[i]? = some (.fz (eAt A r))) (hE : HE ad A E ⟨c, none⟩) : SS (fun _ σ H => E (.ref (ad c)) none H) W P := fun F H σ D s _ _ _ _ => by
  obtain ⟨v, _, h2⟩ := s.fz i _ hi
  exact hE _ _ F H h2.1 s.ex ⟨rfl, rfl⟩
theorem ss_raiseD {i c : Nat} {o : Option Int} (hi : W1[i]? = some (.fz (eAt A r))) (h : ES ta W W1 (eO eI o)) (hE : HE ad A E ⟨c, some o⟩) :
    SS (fun _ σ H => tMkO (ad c) (spXi (ad c) (xfn c)) [] (tCons ta tNil) σ H fun cls d H' => E cls d H') W P := fun F H σ D s _ _ _ _ =>
  h F H σ _ s fun v F1 H1 a1 s1 e1 => by
    obtain ⟨w, _, h2⟩ := s1.fz i _ hi
    show [v].length ≤ 1000 ∧ _
    refine ⟨Nat.le_of_ble_eq_true rfl, fun a ha => ⟨a, v, rfl, upd_same, fun dx hd ne => ⟨rfl, dx, [(xfn c, v)], upd_same, ?_, ?_, ?_⟩⟩⟩
    · rw [upd_ne ne]; exact upd_same
    · rw [upd_ne ne] at hd; exact hd
    · have hd1 : H1 dx = none := by rw [upd_ne ne] at hd; exact hd
      have ev : v = xV o := by
        cases o with
        | none => exact e1
        | some j => exact e1
      have f1 : ∀ {b : Addr}, H1 b = none → F1 b = none := fun {b} z => by
        cases q : F1 b with
        | none => rfl
        | some u => have := s1.ex b u q; rw [z] at this; cases this
      refine hE _ _ F1 _ h2.1 (fun b u z => ?_) ⟨rfl, dx, rfl, by rw [upd_same, ev], f1 hd1⟩
      have hb := s1.ex b u z
      have n1 : b ≠ a := fun q => by rw [q, ha] at hb; cases hb
      have n2 : b ≠ dx := fun q => by rw [q, hd1] at hb; cases hb
      rw [upd_ne n2, del_ne n1, upd_ne n1, upd_ne n2, upd_ne n1]
      exact hb
/-- a call of a def that may raise -/
def xbind (m : Xc ⊕ β) (k : β → Xc ⊕ γ) : Xc ⊕ γ := match m with
  | .inl x => .inl x
  | .inr b => k b
theorem es_callXr {as : ι → List R} {ok : ι → Prop} {m : ι → Xc ⊕ β} {res : β → R} {tr : TA} (d : ι) {b : β} (h : AS tr W W1 (as d)) (g : ok d) (hm : m d = .inr b) : ES (tCall (spX ad as ok m res) [] E tr) W W1 (res b) := fun F H σ Q s k =>
  h F H σ _ s fun vs F1 H1 a1 s1 e1 => by
    rw [List.append_nil]
    refine ⟨d, F1, g, s1.ex, e1, fun b' hb v F2 H2 q e2 hv => ?_, fun x hx => by rw [hm] at hx; cases hx⟩
    rw [hm] at hb
    cases hb
    exact k v F2 H2 (a1.trans q.pure) (s1.pure q e2) hv
/-- a loop with return or raise in its body -/
theorem sf_SRX {ρ : Type} {wi : TI} {g : TG} {e : α → R} {l : List α} (mk : β → List Sl) (bd : β → α → ρ ⊕ β) (ok : β → α → Prop) (s0 : β) (Q : γ → Post) (vR : ρ → γ) (vN : β → γ) {c : Xc → γ} {G : Xc → Prop} (hE : ∀ x, sumC vR vN (loopR bd s0 l) = c x → G x)
    (h : IS wi W W1 (l.map e)) (w : Wk W1 (mk s0)) (hg : okR ok bd s0 l)
    (hs : ∀ s x, x ∈ l → ok s x → (∀ y z, bd s x = .inl z → vR z = c y → G y) → ∃ W2 is, GS g (e x) (mk s) W2 is ∧ SS ts W2 (LQ mk Q vR (bd s x))) (hd : ∀ s, loopR bd s0 l = .inr s → (∀ x, vN s = c x → G x) → SS uu (mk s) (Q (vN s))) :
    SS (tSeq (tFor wi g ts) uu) W (Q (sumC vR vN (loopR bd s0 l))) := by
  refine ss_seq (fun W' => ∃ s, loopR bd s0 l = .inr s ∧ Wk W' (mk s)) ?_ (fun W' ⟨s, e1, e2⟩ => by rw [e1]; exact (hd s e1 (fun x hx => hE x (by rw [e1]; exact hx))).weak e2)
  refine ss_forS (fun i W' => ∃ s, Wk W' (mk s) ∧ loopR bd s (l.drop i) = loopR bd s0 l ∧ okR ok bd s (l.drop i)) h ⟨s0, w, rfl, hg⟩ (fun i r W' hr ⟨s, z1, z2, z3⟩ => ?_) fun W' ⟨s, z1, z2, _⟩ => ⟨s, by rw [List.length_map, List.drop_length] at z2; exact z2.symm, z1⟩
  rw [List.getElem?_map] at hr
  cases q : l[i]? with
  | none => rw [q] at hr; cases hr
  | some x =>
    rw [q] at hr
    have er : e x = r := Option.some.inj hr
    subst er
    have ed : l.drop i = x :: l.drop (i + 1) := by
      have hi := (List.getElem?_eq_some_iff.mp q).1
      rw [List.drop_eq_getElem_cons hi]
      rw [List.getElem?_eq_getElem hi] at q
      cases q; rfl
    rw [ed] at z2 z3
    have hE2 : ∀ y z, bd s x = .inl z → vR z = c y → G y := fun y z hb hv => by
      simp only [loopR, hb] at z2
      exact hE y (by rw [← z2]; exact hv)
    obtain ⟨W2, is, h1, h2⟩ := hs s x (List.mem_of_getElem? q) z3.1 hE2
    refine ⟨W2, is, fun F H σ v Q s hv k => h1 F H σ v Q (s.weak z1) hv fun σ' o s' d => k σ' (fun a z => z1.sub (o a z)) s' d, ?_⟩
    have z4 := z3.2
    cases eb : bd s x with
    | inl r =>
      rw [eb] at h2
      simp only [loopR, eb] at z2
      refine h2.imp (fun _ z => z.elim) (fun W' r' z => ?_) (fun W' z => z.elim) fun W' z => z.elim
      show (Q (sumC vR vN (loopR bd s0 l))).rt W' r'
      rw [← z2]; exact z
    | inr s' =>
      rw [eb] at h2
      simp only [loopR, eb] at z2
      simp only [eb] at z4
      exact h2.imp (fun _ z => ⟨s', z, z2, z4⟩) (fun _ _ z => z.elim) (fun _ z => z.elim) fun _ z => ⟨s', z, z2, z4⟩
end
section
open PySem.Spec
variable {P : Program} {w : World} {K : PySem.W.Frag} {mg : Str → Option Value} {base : Heap} {k : Nat} {f : Addr} {fd : FuncData} {ps : List Str} {sp : Sp}
theorem Fun.okGX {x qual : Str} {st : Stmt} {N : List Str} (F : L2.Fun K x qual st f fd) (S : FnScope N ps (defScope st)) (len : ∀ vs H Q E, sp vs H Q E → vs.length = ps.length)
    (hbody : ∀ (cdv : Value) (A : Around) (outer : List Env) (s : Shared) (H : Hp) (vs : List V) (Q : VK) (E : XK), A.guards = some [] → Room k (A.deeper (envOfC qual (defScope st) s.heap.objs.size f cdv)) → sp vs H Q E →
      ∃ t, PSs (cxOf (L2.CX P w) P w K mg base N qual (defScope st) f cdv A outer s H E) (defBody st) t ∧ t { nx := fun _ H' => Q .non H', rt := Q } (start N vs) H) : FnG P w K mg base (L2.CX P w) (k + 1) f fd ps sp := by
  obtain ⟨oc, od, kV, doc, pm, an, cdv, ct, osl, e, lk, hcd⟩ := F.ex
  subst e
  exact fng_of lk hcd S len fun A outer s H vs Q E hg hr hsp => hbody cdv A outer s H vs Q E hg hr hsp
end
section
variable {X : Cx} {CX : CXT} {k : Nat} {f C p g : Addr} {fd : FuncData} {ps : List Str} {sp : Sp} {dvs : List V} {ds : List Value} {E : L2.St → XK} {x m : Str} {pp pos apos : Pos} {e o : Expr} {es : List Expr} {ta : TE} {t : TA}
/-- in a try: f(e, ..) -/
theorem pg_callS (F : FnG X.prog X.w X.K X.mg X.base CX k f fd ps sp) (hG : X.A.guards = some []) (hr : Room k X.A) (hg : Gl X x) (hm : X.mg x = some (.ref f)) (hk : PySem.W.keepIn X.K (.ref f) = true) (hb : Binds X.K fd ps ds) (hd : Vals dvs ds) (hx : ∀ σ, PassesAt CX X σ (E σ))
    (ha : PA X (e :: es) t) (hdb : (x == ("__debug__" : Str)) = false := by decide) (he : starEach (e :: es) X.env = (false, eval e X.env) :: starEach es X.env := by rfl) (hpl : (backTo pos (starEach es X.env)).any (·.1) = false := by rfl) :
    PE X (.Call (.Name x pp) (e :: es) [] pos) (tCallSD sp dvs E t) := by
  refine ⟨fun pins s σ H Q I h => wpAny_Call_Name_kw (ld_glob I hg hm (PySem.W.callWith_K (h₀ := X.base) I.ok.mod.kin hk
    (thn (ha.run pos pins s σ H _ I h) fun us s1 ⟨vs, H1, I1, r, q⟩ => ⟨I1.kIn, ?_⟩) he hpl) hdb)⟩
  have r2 := r.append hd
  refine wpAny_call (codeAny_mono (F.run X.A X.stack s1 H1 ⟨us, []⟩ _ _ Q (E σ) hG hr I1.env0 (hb s1 us I1.kIn (r2.length.symm.trans (F.len _ _ _ _ q))) r2 q) fun r' s' hq => ?_)
  match r', hq with
  | .error e, hq => exact hx σ pins H1 s1 e s' I1 hq
  | .ok (.ret u), hq => exact I1.after hq
  | .ok .next, hq => exact hq.elim
  | .ok .brk, hq => exact hq.elim
  | .ok .cont, hq => exact hq.elim
end
/-! try -/
/-- a try's body: ends without an exception, or with x -/
def SB (ad : Nat → Addr) (tb : WX → TS) (W : List Sl) (m : Option Xc) : Prop := ∀ (F H : Hp) (σ : L2.St) (D : Ends) (Wx : WX), Sat F H σ W →
  (m = none → ∀ F' H', Rel F H (Own W σ) F' H' (Own W σ) → Sat F' H' σ W → D.nx σ H') →
  (∀ x, m = some x → ∀ cls dd F' H', Rel F H (Own W σ) F' H' (Own W σ) → Sat F' H' σ W → (∀ d1, dd = some d1 → H d1 = none) → exH ad x cls dd F' H' → Wx cls dd σ H') → tb Wx D σ H
def xOf {β : Type} : Xc ⊕ β → Option Xc
  | .inl x => some x
  | .inr _ => none
section
variable {W : List Sl} {K : PySem.W.Frag} {ad : Nat → Addr} {ι β : Type} {tt : TT} {a : Bool} {m1 m2 : Option Xc} {t1 t2 : WX → TS}
theorem sb_call {as : ι → List R} {ok : ι → Prop} {m : ι → Xc ⊕ β} {res : β → R} {tr : TA} (d : ι) (h : AS tr W W (as d)) (g : ok d) : SB ad (fun Wx => tSeq (tDrop (tCallSD (spX ad as ok m res) [] (fun σ => WE Wx σ) tr)) tNext) W (xOf (m d)) := fun F H σ D Wx s kn kx =>
  h F H σ _ s fun vs F1 H1 a1 s1 e1 => by
    rw [List.append_nil]
    refine ⟨d, F1, g, s1.ex, e1, fun b hb v F2 H2 q e2 hv => ?_, fun x hx cls dd H' sm hH => ?_⟩
    · exact kn (by rw [hb]; rfl) F2 H2 (a1.trans q.pure) (s1.pure q e2)
    · refine kx x (by rw [hx]; rfl) cls dd F1 H' (a1.trans (Rel.grow sm)) (s1.grow sm) (fun d1 e1 => ?_) ⟨hH.1, ?_⟩
      · have h3 := hH.2
        cases q : x.f with
        | none => rw [q] at h3; rw [h3] at e1; cases e1
        | some o =>
          rw [q] at h3
          obtain ⟨d2, k1, k2, k3⟩ := h3
          rw [k1] at e1
          cases e1
          exact a1.t _ k3
      have h3 := hH.2
      cases q : x.f with
      | none => rw [q] at h3; exact h3
      | some o =>
        rw [q] at h3
        obtain ⟨d1, k1, k2, k3⟩ := h3
        refine ⟨d1, k1, k2, ?_⟩
        cases z : F1 d1 with
        | none => rfl
        | some u => have := s1.ex d1 u z; rw [k3] at this; cases this
/-- a caught exception -/
def eC (ad : Nat → Addr) (x : Xc) : R := ⟨fun F v => ∃ a, v = .ref a ∧ match x.f with
  | none => F a = some (xcO a (.ref (ad x.c)) none)
  | some o => ∃ dd, F a = some (xcO a (.ref (ad x.c)) (some dd)) ∧ F dd = some (.xd [(xfn x.c, xV o)]), fun {F F' v} e h => by
    obtain ⟨a, h1, h2⟩ := h
    refine ⟨a, h1, ?_⟩
    cases q : x.f with
    | none => rw [q] at h2; exact e _ _ h2
    | some o =>
      rw [q] at h2
      obtain ⟨dd, k1, k2⟩ := h2
      exact ⟨dd, e _ _ k1, e _ _ k2⟩⟩
instance : NotN (eC ad) := ⟨fun F x v h e => by obtain ⟨a, h1, _⟩ := h; rw [h1] at e; cases e⟩
/-- try: .. except X as n: c = n -/
theorem ss_try {tb : WX → TS} {i j : Nat} {m : Option Xc} {c : Value} {P : Post} (hij : i ≠ j) (h : SB ad tb W m) (hi : W[i]? = some .no) (hj : W[j]? = some (.fz eN)) (hl : i < W.length) (hc : ∀ x, m = some x → PySem.W.exmOne K (.ref (ad x.c)) c = some true)
    (k : P.nx (W.set j (.fz (eO (eC ad) m)))) :
    SS (fun D σ H => tb (wAsK K c i (fun _ _ _ => tSeq (fun D σ H => tVar i σ H fun v H1 => D.nx (σ.set j (some v)) H1) tNext) (fun _ _ _ _ => False) D) D σ H) W P := fun F H σ D s kn _ _ _ => by
  refine h F H σ D _ s (fun e F' H' q s' => ?_) fun x e cls dd F' H' q s' hdn hx => ?_
  · subst e
    have ew : W.set j (.fz (eO (eC ad) none)) = W := by
      refine List.ext_getElem? fun n => ?_
      by_cases hn : j = n
      · subst hn
        rw [List.getElem?_set_self (List.getElem?_eq_some_iff.mp hj).1, hj]; rfl
      · rw [List.getElem?_set_ne hn]
    rw [ew] at k
    exact kn W σ F' H' k q s'
  · subst e
    obtain ⟨ec, hx2⟩ := hx
    subst ec
    refine ⟨true, hc x rfl, fun _ a na => ?_, fun z => by cases z⟩
    have len := s'.len
    have hli : i < σ.length := s'.lt hi rfl
    have hlj : j < σ.length := s'.lt hj rfl
    have hlw : j < W.length := (List.getElem?_eq_some_iff.mp hj).1
    show tVar i (σ.set i (some (.ref a))) H' _
    refine ⟨.ref a, List.getElem?_set_self hli, na, ?_⟩
    have fa : F' a = none := s'.ex.free na
    have eσ : (((σ.set i (some (V.ref a))).set j (some (.ref a))).set i none) = ((σ.set i none).set j (some (.ref a))) := by
      rw [List.set_comm _ _ hij, List.set_set, List.set_comm _ _ (Ne.symm hij)]
    rw [eσ]
    have own2 : ∀ b, Own (W.set j (.fz (eO (eC ad) (some x)))) ((σ.set i none).set j (some (.ref a))) b → Own W σ b := fun b o => by
      have o' := Own.put (W := W) (σ := σ.set i none) (i := j) o
      obtain ⟨n, cn, ⟨h1, h2⟩ | h1⟩ := o'
      · have hni : i ≠ n := fun z => by rw [← z, hi] at h1; cases h1
        rw [List.getElem?_set_ne hni] at h2
        exact ⟨n, cn, .inl ⟨h1, h2⟩⟩
      · exact ⟨n, cn, .inr h1⟩
    have sat : ∀ F2 : Hp, Same F' F2 → Same F2 (upd H' a (xcO a (.ref (ad x.c)) dd)) → (∀ p, Own W σ p → F' p = none → F2 p = none) → (eC ad x).p F2 (.ref a) →
        Sat F2 (upd H' a (xcO a (.ref (ad x.c)) dd)) ((σ.set i none).set j (some (.ref a))) (W.set j (.fz (eO (eC ad) (some x)))) := fun F2 up ex2 fr hp => by
      refine Sat.put (r := eO (eC ad) (some x)) ⟨ex2, fun n => by rw [List.length_set]; exact len n, fun n r hr => ?_, fun n cn hcn => ?_, fun n1 n2 c1 c2 p h1 h2 h3 h4 => ?_, fun n q cn hcn => ?_, fun n1 n2 q c1 c2 h1 h2 h3 => ?_, s'.gh.un⟩ hp (ghAt_of hj rfl)
      · have hni : i ≠ n := fun z => by rw [← z, hi] at hr; cases hr
        obtain ⟨v, h1, h2⟩ := s'.fz n r hr
        exact ⟨v, by rw [List.getElem?_set_ne hni]; exact h1, r.mono up h2⟩
      · have hni : i ≠ n := fun z => by rw [← z, hi] at hcn; cases hcn
        obtain ⟨p, o, h1, h2, h3, h4⟩ := s'.ow n cn hcn
        have pa : p ≠ a := fun z => by rw [z, na] at h2; cases h2
        exact ⟨p, o, by rw [List.getElem?_set_ne hni]; exact h1, by rw [upd_ne pa]; exact h2, fr p ⟨n, cn, .inl ⟨hcn, h1⟩⟩ h3, cn.mono up h4⟩
      · have hn1 : i ≠ n1 := fun z => by rw [← z, hi] at h1; cases h1
        have hn2 : i ≠ n2 := fun z => by rw [← z, hi] at h2; cases h2
        rw [List.getElem?_set_ne hn1] at h3
        rw [List.getElem?_set_ne hn2] at h4
        exact s'.ds n1 n2 c1 c2 p h1 h2 h3 h4
      · obtain ⟨o, h1, h2, h3⟩ := s'.gh.at' n q cn hcn
        have qa : q ≠ a := fun z => by rw [z, na] at h1; cases h1
        exact ⟨o, by rw [upd_ne qa]; exact h1, fr q ⟨n, cn, .inr hcn⟩ h2, cn.mono up h3⟩
      · have hn1 : i ≠ n1 := fun z => by rw [← z, hi] at h1; cases h1
        rw [List.getElem?_set_ne hn1] at h3
        exact s'.gh.ow n1 n2 q c1 c2 h1 h2 h3
    have rel : ∀ F2 : Hp, Same F' F2 → (∀ b o, F2 b = some o → F' b = some o ∨ b = a ∨ H b = none) → Rel F H (Own W σ) F2 (upd H' a (xcO a (.ref (ad x.c)) dd)) (Own (W.set j (.fz (eO (eC ad) (some x)))) ((σ.set i none).set j (some (.ref a)))) := fun F2 up back =>
      ⟨fun b o z => up b o (q.f b o z), fun b o nm z => by
        have := q.h b o nm z
        rw [upd_ne (fun e => by rw [e, na] at this; cases this)]; exact this, fun b o z => by
        rcases back b o z with e | e | e
        · exact q.n b o e
        · rw [e]; exact .inr (.inl (q.t a na))
        · exact .inr (.inl e), fun b z => by
        by_cases e : b = a
        · rw [e]; exact q.t a na
        · rw [upd_ne e] at z; exact q.t b z, fun b o => .inl (own2 b o)⟩
    have ownH : ∀ p, Own W σ p → ∃ u, H p = some u := fun p o => o.lt s
    cases hq : x.f with
    | none =>
      rw [hq] at hx2
      have hx3 : dd = none := hx2
      subst hx3
      have up : Same F' (upd F' a (xcO a (.ref (ad x.c)) none)) := fun b u z => by rw [upd_ne (fun e => by rw [e, fa] at z; cases z)]; exact z
      refine kn _ _ (upd F' a (xcO a (.ref (ad x.c)) none)) _ k (rel _ up fun b o z => ?_) (sat _ up (fun b o z => ?_) (fun p o z => ?_) ⟨a, rfl, ?_⟩)
      · by_cases e : b = a
        · exact .inr (.inl e)
        · rw [upd_ne e] at z; exact .inl z
      · by_cases e : b = a
        · rw [e, upd_same] at z; rw [e, upd_same]; exact z
        · rw [upd_ne e] at z; rw [upd_ne e]; exact s'.ex b o z
      · obtain ⟨u, hu⟩ := ownH p o
        rw [upd_ne (fun e => by rw [e, q.t a na] at hu; cases hu)]; exact z
      · rw [hq]; exact upd_same
    | some o0 =>
      rw [hq] at hx2
      obtain ⟨d1, k1, k2, k3⟩ := hx2
      subst k1
      have hd1 := hdn d1 rfl
      have da : d1 ≠ a := fun e => by rw [e, na] at k2; cases k2
      have up : Same F' (upd (upd F' d1 (.xd [(xfn x.c, xV o0)])) a (xcO a (.ref (ad x.c)) (some d1))) := fun b u z => by
        rw [upd_ne (fun e => by rw [e, fa] at z; cases z), upd_ne (fun e => by rw [e, k3] at z; cases z)]; exact z
      refine kn _ _ (upd (upd F' d1 (.xd [(xfn x.c, xV o0)])) a (xcO a (.ref (ad x.c)) (some d1))) _ k (rel _ up fun b o z => ?_) (sat _ up (fun b o z => ?_) (fun p o z => ?_) ⟨a, rfl, ?_⟩)
      · by_cases e : b = a
        · exact .inr (.inl e)
        · rw [upd_ne e] at z
          by_cases e2 : b = d1
          · rw [e2]; exact .inr (.inr hd1)
          · rw [upd_ne e2] at z; exact .inl z
      · by_cases e : b = a
        · rw [e, upd_same] at z; rw [e, upd_same]; exact z
        · rw [upd_ne e] at z; rw [upd_ne e]
          by_cases e2 : b = d1
          · rw [e2, upd_same] at z; rw [e2, k2]; exact z
          · rw [upd_ne e2] at z; exact s'.ex b o z
      · obtain ⟨u, hu⟩ := ownH p o
        rw [upd_ne (fun e => by rw [e, q.t a na] at hu; cases hu), upd_ne (fun e => by rw [e, hd1] at hu; cases hu)]; exact z
      · rw [hq]; exact ⟨d1, upd_same, by rw [upd_ne da]; exact upd_same⟩
end
section
variable {W W1 : List Sl} {K : PySem.W.Frag} {ad : Nat → Addr} {ta : TE}
theorem es_isCb {x : Xc} {c : V} {u : Value} {b : Bool} (T : XT K ad) (h : ES ta W W1 (eC ad x)) (hx : x.c < 18) (hc : ClsV c u) (hk : PySem.W.kitOne K (.ref (ad x.c)) u = some b) : ES (tCB (rIsC K) (tCons ta (tCons (tC c) tNil))) W W1 (eB b) := fun F H σ Q s k =>
  h F H σ _ s fun v F1 H1 a1 s1 e1 => by
    obtain ⟨a, ev, e2⟩ := id e1
    cases q : x.f with
    | none =>
      rw [q] at e2
      exact ⟨a, ad x.c, c, u, b, none, T.cls _ hx, by rw [ev], hc, s1.ex _ _ e2, fun _ z => (by cases z), hk, k _ F1 H1 a1 s1 rfl⟩
    | some o =>
      rw [q] at e2
      obtain ⟨dd, k1, k2⟩ := e2
      exact ⟨a, ad x.c, c, u, b, some dd, T.cls _ hx, by rw [ev], hc, s1.ex _ _ k1, fun _ z => (by cases z; exact ⟨_, s1.ex _ _ k2⟩), hk, k _ F1 H1 a1 s1 rfl⟩
theorem es_isC {x : Xc} {j : Nat} (T : XT K ad) (h : ES ta W W1 (eC ad x)) (hx : x.c < 18) (hj : j < 18) : ES (tCB (rIsC K) (tCons ta (tCons (tC (.ref (ad j))) tNil))) W W1 (eB (isX x j)) :=
  es_isCb T h hx (.own _) (T.sub _ hx _ hj)
theorem es_isCV {x : Xc} (T : XT K ad) (h : ES ta W W1 (eC ad x)) (hx : x.c < 18) : ES (tCB (rIsC K) (tCons ta (tCons (tC (.ty "ValueError")) tNil))) W W1 (eB true) :=
  es_isCb T h hx (.ty _) (T.val _ hx)
theorem es_cget {x : Xc} {n : Str} (T : XT K ad) (h : ES ta W W1 (eC ad x)) (g : x.c < 4 ∧ x.f.isSome = true ∧ xfn x.c = n) : ES (tCg K n ta) W W1 (eO eI (xget x)) := fun F H σ Q s k =>
  h F H σ _ s fun v F1 H1 a1 s1 e1 => by
    obtain ⟨g1, g2, g3⟩ := g
    obtain ⟨a, ev, e2⟩ := id e1
    obtain ⟨o, q⟩ := Option.isSome_iff_exists.mp g2
    rw [q] at e2
    obtain ⟨dd, k1, k2⟩ := e2
    subst g3
    have e3 : xget x = o := by unfold xget; rw [q]; rfl
    refine ⟨a, ad x.c, xV o, dd, T.cls _ (by omega), T.nof _ g1, ev, s1.ex _ _ k1, s1.ex _ _ k2, k _ F1 H1 a1 s1 ?_⟩
    rw [e3]
    cases o with
    | none => exact rfl
    | some i => exact rfl
end
end Fw
end
section
set_option maxRecDepth 100000
set_option maxHeartbeats 2000000
/-! values of any kind -/
namespace Fw
open PySem L2 PyProof.Rows PySem.Spec
inductive U where
  | non
  | int (i : Int)
  | bl (b : Bool)
  | str (s : Str)
  | tup (l : List U)
  | lst (l : List U)
  | dic
  | tbl (t : Tbl)
instance : Inhabited U := ⟨.non⟩
abbrev eTbl' (C : Addr) (t : Tbl) : R := eIns C [("own_capacity", eI t.capacity), ("own_rate", eI t.rate), ("own_shift", eI t.shift)]
mutual
def uP (C : Addr) (F : Hp) : U → V → Prop
  | .non, v => v = .non
  | .int i, v => v = .int i
  | .bl b, v => v = .bl b
  | .str s, v => v = .str s
  | .tup l, v => ∃ p xs, v = .ref p ∧ F p = some (.tup xs) ∧ uPs C F l xs
  | .lst l, v => ∃ p xs, v = .ref p ∧ F p = some (.lst xs) ∧ uPs C F l xs
  | .dic, v => eD0.p F v
  | .tbl t, v => (eTbl' C t).p F v
def uPs (C : Addr) (F : Hp) : List U → List V → Prop
  | [], xs => xs = []
  | u :: l, xs => ∃ x ys, xs = x :: ys ∧ uP C F u x ∧ uPs C F l ys
end
mutual
theorem uP_mono {C : Addr} {F F' : Hp} (e : Same F F') : ∀ (u : U) (v : V), uP C F u v → uP C F' u v
  | .non, _, h => h
  | .int _, _, h => h
  | .bl _, _, h => h
  | .str _, _, h => h
  | .tup l, v, h => by
    unfold uP at h ⊢
    obtain ⟨p, xs, h1, h2, h3⟩ := h
    exact ⟨p, xs, h1, e _ _ h2, uPs_mono e l xs h3⟩
  | .lst l, v, h => by
    unfold uP at h ⊢
    obtain ⟨p, xs, h1, h2, h3⟩ := h
    exact ⟨p, xs, h1, e _ _ h2, uPs_mono e l xs h3⟩
  | .dic, v, h => by unfold uP at h ⊢; exact eD0.mono e h
  | .tbl t, v, h => by unfold uP at h ⊢; exact (eTbl' C t).mono e h
theorem uPs_mono {C : Addr} {F F' : Hp} (e : Same F F') : ∀ (l : List U) (xs : List V), uPs C F l xs → uPs C F' l xs
  | [], _, h => h
  | u :: l, xs, h => by
    unfold uPs at h ⊢
    obtain ⟨x, ys, h1, h2, h3⟩ := h
    exact ⟨x, ys, h1, uP_mono e u x h2, uPs_mono e l ys h3⟩
end
def eU (C : Addr) (u : U) : R := ⟨fun F v => uP C F u v, fun e h => uP_mono e u _ h⟩
theorem uPs_all {C : Addr} {F : Hp} : ∀ {l : List U} {xs : List V}, uPs C F l xs ↔ All2 (l.map (eU C)) F xs
  | [], xs => by
    unfold uPs
    constructor
    · rintro rfl; trivial
    · intro h
      cases xs with
      | nil => rfl
      | cons x xs => exact h.elim
  | u :: l, xs => by
    unfold uPs
    constructor
    · rintro ⟨x, ys, rfl, h1, h2⟩
      exact ⟨h1, uPs_all.mp h2⟩
    · intro h
      cases xs with
      | nil => exact h.elim
      | cons x xs => exact ⟨x, xs, rfl, h.1, uPs_all.mpr h.2⟩
section
variable {W W1 W2 : List Sl} {K : PySem.W.Frag} {C : Addr} {te ta tb : TE} {F : Hp} {v : V} {α : Type}
/-! from and to U -/
theorem eU_lst {l : List U} : (eU C (.lst l)).p F v ↔ (eLs (eU C) l).p F v := by
  show uP C F (.lst l) v ↔ _
  unfold uP
  constructor
  · rintro ⟨p, xs, h1, h2, h3⟩
    exact ⟨p, xs, h1, h2, uPs_all.mp h3⟩
  · rintro ⟨p, xs, h1, h2, h3⟩
    exact ⟨p, xs, h1, h2, uPs_all.mpr h3⟩
theorem eU_tup {l : List U} : (eU C (.tup l)).p F v ↔ (eT K (l.map (eU C))).p F v := by
  show uP C F (.tup l) v ↔ _
  unfold uP
  constructor
  · rintro ⟨p, xs, h1, h2, h3⟩
    exact ⟨p, xs, h1, h2, uPs_all.mp h3⟩
  · rintro ⟨p, xs, h1, h2, h3⟩
    exact ⟨p, xs, h1, h2, uPs_all.mpr h3⟩
class UE (K : PySem.W.Frag) (C : Addr) {α : Type} (e : α → R) where
  u : α → U
  ok : ∀ F v x, (e x).p F v ↔ uP C F (u x) v
instance : UE K C (α := Int) eI := ⟨U.int, fun F v x => by unfold uP; exact Iff.rfl⟩
instance : UE K C (α := Bool) eB := ⟨U.bl, fun F v x => by unfold uP; exact Iff.rfl⟩
instance : UE K C (α := Str) eS := ⟨U.str, fun F v x => by unfold uP; exact Iff.rfl⟩
instance : UE K C (α := Tbl) (eTbl' C) := ⟨U.tbl, fun F v x => by unfold uP; exact Iff.rfl⟩
instance : UE K C (α := U) (eU C) := ⟨id, fun F v x => Iff.rfl⟩
theorem All2.iff {e : α → R} {f : α → R} (h : ∀ F v x, (e x).p F v ↔ (f x).p F v) {F : Hp} : ∀ {l : List α} {xs : List V}, All2 (l.map e) F xs ↔ All2 (l.map f) F xs
  | [], [] => Iff.rfl
  | [], _ :: _ => Iff.rfl
  | _ :: _, [] => Iff.rfl
  | a :: l, x :: xs => by
    show (_ ∧ _) ↔ (_ ∧ _)
    rw [h F x a]
    exact and_congr Iff.rfl (All2.iff h)
instance {e : α → R} [E : UE K C e] : UE K C (eLs e) := ⟨fun l => U.lst (l.map E.u), fun F v l => by
  have h := eU_lst (C := C) (F := F) (v := v) (l := l.map E.u)
  refine Iff.trans ?_ h.symm
  unfold eLs
  rw [List.map_map]
  exact exists_congr fun p => exists_congr fun xs => and_congr Iff.rfl (and_congr Iff.rfl (All2.iff (f := fun x => eU C (E.u x)) E.ok))⟩
instance {β : Type} {a : α → R} {b : β → R} [A : UE K C a] [B : UE K C b] : UE K C (eP2 K a b) := ⟨fun x => U.tup [A.u x.1, B.u x.2], fun F v x => by
  refine Iff.trans ?_ (eU_tup (K := K) (C := C) (F := F) (v := v) (l := [A.u x.1, B.u x.2])).symm
  refine exists_congr fun p => exists_congr fun xs => and_congr Iff.rfl (and_congr Iff.rfl ?_)
  match xs with
  | [] => exact Iff.rfl
  | [_] => exact and_congr (A.ok ..) Iff.rfl
  | [_, _] => exact and_congr (A.ok ..) (and_congr (B.ok ..) Iff.rfl)
  | _ :: _ :: _ :: _ => exact and_congr (A.ok ..) (and_congr (B.ok ..) Iff.rfl)⟩
instance {β γ : Type} {a : α → R} {b : β → R} {c : γ → R} [A : UE K C a] [B : UE K C b] [D : UE K C c] : UE K C (eP3 K a b c) := ⟨fun x => U.tup [A.u x.1, B.u x.2.1, D.u x.2.2], fun F v x => by
  refine Iff.trans ?_ (eU_tup (K := K) (C := C) (F := F) (v := v) (l := [A.u x.1, B.u x.2.1, D.u x.2.2])).symm
  refine exists_congr fun p => exists_congr fun xs => and_congr Iff.rfl (and_congr Iff.rfl ?_)
  match xs with
  | [] => exact Iff.rfl
  | [_] => exact and_congr (A.ok ..) Iff.rfl
  | [_, _] => exact and_congr (A.ok ..) (and_congr (B.ok ..) Iff.rfl)
  | [_, _, _] => exact and_congr (A.ok ..) (and_congr (B.ok ..) (and_congr (D.ok ..) Iff.rfl))
  | _ :: _ :: _ :: _ :: _ => exact and_congr (A.ok ..) (and_congr (B.ok ..) (and_congr (D.ok ..) Iff.rfl))⟩
theorem es_toU {e : α → R} [E : UE K C e] {x : α} (h : ES te W W1 (e x)) : ES te W W1 (eU C (E.u x)) := h.imp fun F v z => (E.ok F v x).mp z
theorem es_nonU (h : ES te W W1 eN) : ES te W W1 (eU C .non) := h.imp fun F v z => by show uP C F .non v; unfold uP; exact z
theorem es_dicU (h : ES te W W1 eD0) : ES te W W1 (eU C .dic) := h.imp fun F v z => by show uP C F .dic v; unfold uP; exact z
theorem es_ofU (K : PySem.W.Frag) {e : α → R} [E : UE K C e] {u : U} {x : α} (h : ES te W W1 (eU C u)) (g : u = E.u x) : ES te W W1 (e x) := h.imp fun F v z => (E.ok F v x).mpr (by rw [← g]; exact z)
theorem es_tupU {l : List U} (h : ES te W W1 (eT K (l.map (eU C)))) : ES te W W1 (eU C (.tup l)) := h.imp fun F v z => eU_tup.mpr z
/-! views -/
def U.unI : U → Int
  | .int i => i
  | _ => 0
def U.unL : U → List U
  | .lst l => l
  | _ => []
def U.unTb : U → Tbl
  | .tbl t => t
  | _ => default
def U.els' : U → List U
  | .tup l => l
  | .lst l => l
  | _ => []
def U.ty : U → Nat
  | .non => 0
  | .int _ => 1
  | .bl _ => 2
  | .str _ => 3
  | .tup _ => 4
  | .lst _ => 5
  | .dic => 6
  | .tbl _ => 7
theorem es_unI {u : U} (h : ES te W W1 (eU C u)) (g : u.ty = 1) : ES te W W1 (eI u.unI) := by
  cases u with
  | int i => exact h.imp fun F v z => by (have z' : uP C F (.int i) v := z); unfold uP at z'; exact z'
  | _ => cases g
theorem es_unL {u : U} (h : ES te W W1 (eU C u)) (g : u.ty = 5) : ES te W W1 (eLs (eU C) u.unL) := by
  cases u with
  | lst l => exact h.imp fun F v z => eU_lst.mp z
  | _ => cases g
theorem es_unTb {u : U} (h : ES te W W1 (eU C u)) (g : u.ty = 7) : ES te W W1 (eTbl' C u.unTb) := by
  cases u with
  | tbl t => exact h.imp fun F v z => by (have z' : uP C F (.tbl t) v := z); unfold uP at z'; exact z'
  | _ => cases g
def U.unSp (u : U) : List (Int × Int) := u.unL.map fun p => (U.unI (nth (U.els' p) 0), U.unI (nth (U.els' p) 1))
def U.ofSp (l : List (Int × Int)) : U := U.lst (l.map fun y => U.tup [U.int y.1, U.int y.2])
/-! isinstance -/
def U.isT (u : U) (n : Nat) : Bool := decide (u.ty = n) || (decide (n = 1) && decide (u.ty = 2))
def tyN : Nat → String
  | 0 => "NoneType"
  | 1 => "int"
  | 2 => "bool"
  | 3 => "str"
  | 4 => "tuple"
  | 5 => "list"
  | _ => "dict"
structure TbTy (K : PySem.W.Frag) (C : Addr) : Prop where
  ty : ∀ (t : Tbl) (F H : Hp) (v : V), Same F H → (eTbl' C t).p F v → TyX K H v (.ref C)
  no : ∀ n, n < 7 → PySem.W.kitOne K (.ref C) (.type (tyN n)) = some false
  odd : OddNo K C
  self : PySem.W.kitOne K (.ref C) (.ref C) = some true
theorem ty_U : ∀ (u : U) (F H : Hp) (v : V), Same F H → (eU C u).p F v → u.ty < 7 → TyX K H v (.type (tyN u.ty))
  | .non, F, H, v, e, h, _ => ty_non F H v e (by (have z : uP C F .non v := h); unfold uP at z; exact z)
  | .int i, F, H, v, e, h, _ => ty_int (i := i) F H v e (by (have z : uP C F (.int i) v := h); unfold uP at z; exact z)
  | .bl b, F, H, v, e, h, _ => ty_bl (i := b) F H v e (by (have z : uP C F (.bl b) v := h); unfold uP at z; exact z)
  | .str s, F, H, v, e, h, _ => ty_str (i := s) F H v e (by (have z : uP C F (.str s) v := h); unfold uP at z; exact z)
  | .tup l, F, H, v, e, h, _ => ty_tup F H v e (eU_tup.mp h)
  | .lst l, F, H, v, e, h, _ => ty_lst F H v e (eU_lst.mp h)
  | .dic, F, H, v, e, h, _ => ty_dn F H v e (by (have z : uP C F .dic v := h); unfold uP at z; exact z)
  | .tbl t, _, _, _, _, _, h => absurd h (by show ¬ 7 < 7; decide)
theorem kit_tyN : ∀ n, n < 7 → ∀ m, m < 7 → PySem.W.kitOne K (.type (tyN n)) (.type (tyN m)) = some (decide (n = m) || (decide (m = 1) && decide (n = 2))) := by
  intro n hn m hm
  have hn' : n = 0 ∨ n = 1 ∨ n = 2 ∨ n = 3 ∨ n = 4 ∨ n = 5 ∨ n = 6 := by omega
  have hm' : m = 0 ∨ m = 1 ∨ m = 2 ∨ m = 3 ∨ m = 4 ∨ m = 5 ∨ m = 6 := by omega
  rcases hn' with rfl | rfl | rfl | rfl | rfl | rfl | rfl <;> rcases hm' with rfl | rfl | rfl | rfl | rfl | rfl | rfl <;> exact kit_ty (by decide +kernel)
theorem es_isU (T : TbTy K C) {u : U} {n : Nat} (hn : n < 7) (h : ES te W W1 (eU C u)) : ES (tCB (rIsi K) (tCons te (tCons (tC (.ty (tyN n))) tNil))) W W1 (eB (u.isT n)) := by
  by_cases q : u.ty < 7
  · exact es_isi h (.ty _) (fun F H v e z => ty_U u F H v e z q) (kit_tyN u.ty q n hn)
  · cases u with
    | tbl t =>
      have e : (U.tbl t).isT n = false := by
        unfold U.isT
        rw [decide_eq_false (show ¬ (U.tbl t).ty = n by show ¬ 7 = n; omega), decide_eq_false (show ¬ (U.tbl t).ty = 2 by show ¬ 7 = 2; decide), Bool.and_false]; rfl
      rw [e]
      exact es_isi h (.ty _) (fun F H v ex z => T.ty t F H v ex (by (have z' : uP C F (.tbl t) v := z); unfold uP at z'; exact z')) (T.no n hn)
    | _ => exact absurd (Nat.le_of_ble_eq_true rfl) q
theorem OddNo.subN (N : OddNo K C) : ∀ n, n < 7 → PySem.W.subIn K (.type (tyN n)) (.ref C) = some false := by
  intro n hn
  have hn' : n = 0 ∨ n = 1 ∨ n = 2 ∨ n = 3 ∨ n = 4 ∨ n = 5 ∨ n = 6 := by omega
  rcases hn' with rfl | rfl | rfl | rfl | rfl | rfl | rfl
  · exact N.s0
  · exact N.s1
  · exact N.s2
  · exact N.s3
  · exact N.s4
  · exact N.s5
  · exact N.s6
theorem kit_N (N : OddNo K C) {n : Nat} (hn : n < 7) : PySem.W.kitOne K (.type (tyN n)) (.ref C) = some false := by
  have h : PySem.W.kitCls K (.type (tyN n)) (.ref C) = some false := by
    unfold PySem.W.kitCls
    dsimp only
    have hc : (PySem.W.clsIn K C).isSome = true := N.cls
    rw [hc, N.typ, if_pos (by simp)]
    exact N.subN n hn
  show (if (Value.type (tyN n) == Value.ref C) = true then some true else PySem.W.kitCls K (.type (tyN n)) (.ref C)) = some false
  rw [h]; rfl
theorem es_isUT (T : TbTy K C) {u : U} (h : ES te W W1 (eU C u)) : ES (tCB (rIsi K) (tCons te (tCons (tC (.ref C)) tNil))) W W1 (eB (decide (u.ty = 7))) := by
  by_cases q : u.ty < 7
  · rw [decide_eq_false (by omega)]
    exact es_isi h (.own _) (fun F H v e z => ty_U u F H v e z q) (kit_N T.odd q)
  · cases u with
    | tbl t => exact es_isi h (.own _) (fun F H v ex z => T.ty t F H v ex (by (have z' : uP C F (.tbl t) v := z); unfold uP at z'; exact z')) T.self
    | _ => exact absurd (Nat.le_of_ble_eq_true rfl) q
/-! len, items -/
abbrev U.els (u : U) : List U := U.els' u
theorem es_lenU {u : U} (h : ES te W W1 (eU C u)) (g : u.ty = 4 ∨ u.ty = 5) : ES (tCB (fun xs H Q => ∃ p ys, xs = [.ref p] ∧ (SqL K H p ys ∨ SqT K H p ys) ∧ Q (.int (ys.length : Nat)) H) (tCons te tNil)) W W1 (eI (u.els.length : Int)) := fun F H σ Q s k =>
  h F H σ _ s fun v F1 H1 a1 s1 e1 => by
    cases u with
    | lst l =>
      obtain ⟨p, xs, h1, h2, h3⟩ := eU_lst.mp e1
      subst h1
      have el := h3.len
      rw [List.length_map] at el
      exact ⟨p, xs, rfl, .inl (.inl (.inl (s1.ex _ _ h2))), k _ F1 H1 a1 s1 (by show V.int _ = _; rw [el]; rfl)⟩
    | tup l =>
      obtain ⟨p, xs, h1, h2, h3⟩ := (eU_tup (K := K)).mp e1
      subst h1
      have el := h3.len
      rw [List.length_map] at el
      exact ⟨p, xs, rfl, .inr (sqT_up s1.ex h2), k _ F1 H1 a1 s1 (by show V.int _ = _; rw [el]; rfl)⟩
    | _ => rcases g with g | g <;> cases g
theorem es_ixU {u : U} {k : Nat} (h : ES te W W1 (eU C u)) (g : u.ty = 4 ∧ k < u.els.length) : ES (tOp (rIxT K) te (tC (.int (k : Int)))) W W1 (eU C (nth u.els k)) := by
  cases u with
  | tup l =>
    have hk : (l.map (eU C))[k]? = some (eU C (nth l k)) := by
      rw [List.getElem?_map]
      have hk' : k < l.length := g.2
      rw [List.getElem?_eq_getElem hk']
      unfold nth
      rw [Int.toNat_natCast, List.getD_eq_getElem?_getD, List.getElem?_eq_getElem hk']
      rfl
    exact es_ixT (rs := l.map (eU C)) (h.imp fun F v z => eU_tup.mp z) hk
  | _ => cases g.1
/-! the body of a try -/
end
end Fw
end
section
set_option maxRecDepth 100000
set_option maxHeartbeats 2000000
/-! values of any kind: shown -/
namespace Fw
open PySem L2 PyProof.Rows PySem.Spec
mutual
def U.d : U → PyData
  | .non => .none
  | .int i => .int i
  | .bl b => .bool b
  | .str s => .str s
  | .tup l => .tuple (U.ds l)
  | .lst l => .list (U.ds l)
  | .dic => .dict []
  | .tbl _ => .none
def U.ds : List U → List PyData
  | [] => []
  | u :: l => u.d :: U.ds l
end
mutual
def U.pure : U → Bool
  | .tup l => U.pures l
  | .lst l => U.pures l
  | .tbl _ => false
  | _ => true
def U.pures : List U → Bool
  | [] => true
  | u :: l => u.pure && U.pures l
end
section
variable {X : Cx} {pins : List (Addr × Obj)} {σ : L2.St} {H F : Hp} {s : Shared} {C : Addr}
mutual
theorem uP_reads (I : Inv X pins σ H s) (sm : H sysModules = none) (ex : Same F H) : ∀ (u : U) (v : V) (x : Value), u.pure = true → uP C F u v → RelV v x → ∃ as, Reads s.heap x u.d as ∧ sysModules ∉ as
  | .non, v, x, _, h, r => by
    unfold uP at h
    subst h
    cases (show x = Value.none from r)
    exact ⟨_, Reads.none, by simp⟩
  | .bl b, v, x, _, h, r => by
    unfold uP at h
    subst h
    cases (show x = Value.bool b from r)
    exact ⟨_, Reads.bool b, by simp⟩
  | .int i, v, x, _, h, r => by
    unfold uP at h
    subst h
    obtain ⟨t, rfl⟩ := (show ∃ t, x = Value.int i t from r)
    exact ⟨_, Reads.int i t, by simp⟩
  | .str z, v, x, _, h, r => by
    unfold uP at h
    subst h
    obtain ⟨t, rfl⟩ := (show ∃ t, x = Value.str z t from r)
    exact ⟨_, Reads.str z t, by simp⟩
  | .lst l, v, x, hp, h, r => by
    unfold uP at h
    obtain ⟨p, xs, rfl, h2, h3⟩ := h
    cases (show x = Value.ref p from r)
    have hl := ex _ _ h2
    obtain ⟨its, rv, ⟨o, n, ho, hc, _, hd⟩, _⟩ := I.list (.inl (.inl hl))
    obtain ⟨as, hr, hn⟩ := uPs_reads I sm ex l xs its (by unfold U.pure at hp; exact hp) h3 rv
    refine ⟨_, Reads.list ho hc hd hr, ?_⟩
    rw [List.mem_cons]
    rintro (e | e)
    · rw [e, hl] at sm; cases sm
    · exact hn e
  | .tup l, v, x, hp, h, r => by
    unfold uP at h
    obtain ⟨p, xs, rfl, h2, h3⟩ := h
    cases (show x = Value.ref p from r)
    obtain ⟨its, rv, ⟨o, ho, hc, n, hd⟩, _⟩ := I.tuple (sqT_up (K := X.K) ex h2)
    obtain ⟨as, hr, hn⟩ := uPs_reads I sm ex l xs its (by unfold U.pure at hp; exact hp) h3 rv
    exact ⟨_, Reads.tuple ho hc hd hr, hn⟩
  | .dic, v, x, _, h, r => by
    unfold uP at h
    obtain ⟨p, rfl, h2⟩ := h
    cases (show x = Value.ref p from r)
    have hk := ex _ _ h2
    obtain ⟨_, hsm, vs, rel, o, es, ep, ho, hx, hd, he⟩ := dk_of I.hok hk
    have hvs : vs = [] := by
      cases rel with
      | nil => rfl
    subst hvs
    have hes : es.toList = [] := by
      have hl := he.2.1.length
      exact List.length_eq_zero_iff.mp hl
    refine ⟨_, Reads.dict (as := []) (bs := []) ho hx.1 hd (by rw [hes]; exact ReadsAll.nil) (by rw [hes]; exact ReadsAll.nil), ?_⟩
    simp only [List.append_nil, List.mem_singleton]
    intro e
    rw [e, beq_self_eq_true] at hsm
    cases hsm
  | .tbl t, _, _, hp, _, _ => by unfold U.pure at hp; cases hp
theorem uPs_reads (I : Inv X pins σ H s) (sm : H sysModules = none) (ex : Same F H) : ∀ (l : List U) (vs : List V) (xs : List Value), U.pures l = true → uPs C F l vs → Vals vs xs → ∃ as, ReadsAll s.heap xs (U.ds l) as ∧ sysModules ∉ as
  | [], vs, xs, _, h, r => by
    unfold uPs at h
    subst h
    cases r
    exact ⟨_, ReadsAll.nil, by simp⟩
  | u :: l, vs, xs, hp, h, r => by
    unfold uPs at h
    obtain ⟨v, ws, rfl, h1, h2⟩ := h
    unfold U.pures at hp
    rw [Bool.and_eq_true] at hp
    cases r with
    | cons r1 r2 =>
      obtain ⟨as, q1, n1⟩ := uP_reads I sm ex u v _ hp.1 h1 r1
      obtain ⟨bs, q2, n2⟩ := uPs_reads I sm ex l ws _ hp.2 h2 r2
      exact ⟨_, ReadsAll.cons q1 q2, fun m => (List.mem_append.mp m).elim n1 n2⟩
end
def rReprU (C : Addr) : List V → Hp → VK → Prop := fun xs H Q => ∃ (u : U) (v : V) (F : Hp), xs = [v] ∧ Same F H ∧ uP C F u v ∧ u.pure = true ∧ u.d.showable = true ∧ u.d.depth ≤ 60 ∧ u.d.shown.length ≤ sizeLine ∧ Q (.str u.d.shown) H
theorem call_reprU (hG : X.A.guards = some []) {k : Nat} (hr : Room k X.A) (SM : ∃ mm, X.base.Ns sysModules mm) : CallR X (.builtin "repr") (rReprU C) := by
  intro pins s σ H xs us Q I r h
  obtain ⟨u, v, F, rfl, ex, hu, hp, h1, h3, h4, q⟩ := h
  have sm : H sysModules = none := by
    obtain ⟨mm, o, es, ep, ho, _⟩ := SM
    exact (I.bs sysModules o ho).2
  obtain ⟨x, rfl, rx⟩ := vals1 r
  obtain ⟨as, rd, hn⟩ := uP_reads I sm ex u v x hp hu rx
  have hun := hr.un
  have big : ∀ a, x = .ref a → wpAny (model X.prog X.w) X.A (call (.builtin "repr") [x]) (fun v' s' => ∃ (w : V) (H' : Hp), Inv X pins σ H' s' ∧ RelV w v' ∧ Q w H') X.xe s := fun a e => by
    subst e
    exact repr_of_reads' rd h1 (fun _ => hn) hG (by omega) (fun _ _ z => z) (fun h' u' tk hk => ⟨.str u.d.shown, H, I.kept (t' := tk) hk, ⟨_, rfl⟩, q⟩) h4
  cases u with
  | non =>
    unfold uP at hu
    subst hu
    cases (show x = Value.none from rx)
    exact PySem.P.repr_of_none ⟨.str _, H, I.tok _, ⟨_, rfl⟩, q⟩
  | bl b =>
    unfold uP at hu
    subst hu
    cases (show x = Value.bool b from rx)
    exact PySem.P.repr_of_bool ⟨.str _, H, I.tok _, ⟨_, rfl⟩, q⟩
  | int i =>
    unfold uP at hu
    subst hu
    obtain ⟨t, rfl⟩ := (show ∃ t, x = Value.int i t from rx)
    exact PySem.P.repr_of_int (of_decide_eq_true h1) ⟨.str _, H, I.tok _, ⟨_, rfl⟩, q⟩
  | str z =>
    unfold uP at hu
    subst hu
    obtain ⟨t, rfl⟩ := (show ∃ t, x = Value.str z t from rx)
    exact PySem.P.repr_of_str ⟨.str _, H, I.tok _, ⟨_, rfl⟩, q⟩ h4
  | lst l =>
    unfold uP at hu
    obtain ⟨p, xs, rfl, _, _⟩ := hu
    exact big p rx
  | tup l =>
    unfold uP at hu
    obtain ⟨p, xs, rfl, _, _⟩ := hu
    exact big p rx
  | dic =>
    unfold uP at hu
    obtain ⟨p, rfl, _⟩ := hu
    exact big p rx
  | tbl t => unfold U.pure at hp; cases hp
end
section
variable {W W1 : List Sl} {K : PySem.W.Frag} {C : Addr} {te : TE}
def ReprU (u : U) : Prop := u.pure = true ∧ u.d.showable = true ∧ u.d.depth ≤ 60 ∧ u.d.shown.length ≤ sizeLine
def reprU (u : U) : Str := u.d.shown
theorem es_reprU {u : U} (h : ES te W W1 (eU C u)) (g : ReprU u) : ES (tCB (rReprU C) (tCons te tNil)) W W1 (eS (reprU u)) := fun F H σ Q s k =>
  h F H σ _ s fun v F1 H1 a1 s1 e1 => ⟨u, v, F1, rfl, s1.ex, e1, g.1, g.2.1, g.2.2.1, g.2.2.2, k _ F1 H1 a1 s1 rfl⟩
instance : UE K C (α := Unit) (fun _ => eN) := ⟨fun _ => U.non, fun F v x => by unfold uP; exact Iff.rfl⟩
/-- tuple(xs) -/
theorem es_tupLU {α : Type} {e : α → R} [E : UE K C e] {l : List α} (h : ES te W W1 (eLs e l)) :
    ES (tCB (fun xs H Q => ∃ p ys, xs = [.ref p] ∧ ((SqL K H p ys ∧ ∀ l, H l = none → Q (.ref l) (upd H l (.tup ys))) ∨ (SqT K H p ys ∧ Q (.ref p) H))) (tCons te tNil)) W W1 (eU C (.tup (l.map E.u))) := fun F H σ Q s k =>
  h F H σ _ s fun v F1 H1 a1 s1 ⟨p, xs, h1, h2, h3⟩ => by
    subst h1
    refine ⟨p, xs, rfl, .inl ⟨.inl (.inl (s1.ex _ _ h2)), fun q hq => k _ _ _ (a1.trans (Rel.lay s1.ex hq)) (s1.lay hq) ?_⟩⟩
    have same : Same F1 (upd F1 q (.tup xs)) := fun a o z => by rw [upd_ne (ne_of_none z (s1.ex.free hq))]; exact z
    refine (eU_tup (K := K)).mpr ⟨q, xs, rfl, upd_same, ?_⟩
    have h4 : All2 (l.map fun x => eU C (E.u x)) F1 xs := (All2.iff E.ok).mp h3
    rw [List.map_map]
    exact h4.mono same
end
/-! the walk, where the table of modules is told -/
section
variable {P : Program} {w : World} {K : PySem.W.Frag} {mg mb : Str → Option Value} {CX : CXT} {k : Nat} {fa a : Addr} {fd : FuncData} {x : Str} {sp : Sp} {t : Shared} {us : List Value} {ns : List Int}
theorem lawG_core3 {H : Hp} (SM : ∃ mm, t.heap.Ns sysModules mm) (KX : K.In t.heap) (nG : t.heap.Ns mainGlobals mg) (nB : t.heap.Ns builtinsNs mb) (nb : ∀ x : Str, x ≠ "__name__" → mb x = bootBuiltins x) (nl : t.heap.NoLimit) (g0 : t.gens = #[])
    (at_ : t.heap.get? a = some { cls := .type "list", data := .seq us.toArray }) (room : Room k callerA)
    (F : ∀ base : Heap, K.In base → base.Ns mainGlobals mg → (∃ mm, base.Ns sysModules mm) → FnG P w K mg base CX k fa fd [x] sp) (bind : ∀ (s : Shared) (u : Value), BindsTo s fd ⟨[u], []⟩ [(x, u)])
    (pr : sp [.ref a] H (fun v _ => v = .bl true) fun _ _ _ => False) (noX : ∀ H e s', CX [] H t (fun _ _ _ => False) e s' → False)
    (only : Only H) (ok : HOk P w H t.heap) (one : ∀ b, H b ≠ none → b = a) (away : H a ≠ none → K.lookup a = none) :
    codeAny (model P w) callerA (.call (.ref fa) ⟨[.ref a], []⟩) (fun r s' => r = .ok (.ret (.bool true)) ∧ OldK t.heap s'.heap ∧ s'.os = t.os ∧ AllBare s'.gens) t := by
  have up : ∀ {b : Addr} {o : Obj}, t.heap.get? b = some o → H b = none → (hidT t.heap H).get? b = some o := fun h n => hidT_get h n
  have free : ∀ {b : Addr} {o : Obj} {es : Array DictEntry} {n : Nat}, t.heap.get? b = some o → o.data = .dict es n → H b = none := fun {b o es n} h d => by
    by_cases q : H b = none
    · exact q
    · obtain rfl := one b q
      cases at_.symm.trans h
      have d' : Data.seq us.toArray _ = Data.dict es n := d
      exact nomatch d'
  have nsUp : ∀ {b : Addr} {m : Str → Option Value}, t.heap.Ns b m → (hidT t.heap H).Ns b m := fun ⟨o, es, n, h, d, r⟩ => ⟨o, es, n, up h (free h d), d, r⟩
  have kUp : K.In (hidT t.heap H) := fun b o h => up (KX b o h) (by
    by_cases q : H b = none
    · exact q
    · obtain rfl := one b q
      rw [away q] at h; exact nomatch h)
  have md : Mod K mg (hidT t.heap H) := ⟨kUp, nsUp nG, ⟨mb, nsUp nB, nb⟩, nl.elim fun mc z => ⟨mc, nsUp z.1, z.2⟩⟩
  have env : Env0 P w K mg (hidT t.heap H) callerA [] t H := ⟨rfl, md, fun _ _ h => of_hidT h, Nat.le_of_eq (hidT_size _ _), trivial, fun b hb => (by cases hb), ok, .of_eq g0⟩
  have run := (F _ kUp (nsUp nG) (SM.imp fun _ z => nsUp z)).run callerA [] t H ⟨[.ref a], []⟩ [.ref a] [.ref a] _ _ rfl room env (bind t (.ref a)) (.cons rfl .nil) pr
  refine codeAny_mono run fun r s' h => ?_
  match r, h with
  | .error e, h => exact (noX H e s' h).elim
  | .ok (.ret u), h =>
    obtain ⟨v, H2, os, bare, un, ok2, rel, q⟩ := h
    obtain rfl : v = .bl true := q
    obtain rfl : u = Value.bool true := rel
    refine ⟨rfl, OldK.of_keep fun b o h => ?_, os, bare⟩
    rcases only b with z | ⟨ob, xs, z⟩
    · exact un.keep b o h z (fun m => by cases m) (by simp)
    · have e1 := (ok b _ z).1
      have e2 := (ok2 b _ (un.frzs b ob _ z)).1
      exact (Option.some.inj (h.symm.trans e1)) ▸ e2
theorem lawG3 {mb : Str → Option Value} (SM : ∃ mm, t.heap.Ns sysModules mm) (KX : K.In t.heap) (nG : t.heap.Ns mainGlobals mg) (nB : t.heap.Ns builtinsNs mb) (nb : ∀ x : Str, x ≠ "__name__" → mb x = bootBuiltins x) (nl : t.heap.NoLimit) (g0 : t.gens = #[])
    (at_ : t.heap.get? a = some { cls := .type "list", data := .seq us.toArray }) (iv : IntsAre us ns) (short : ns.length ≤ sizeLine) (room : Room k callerA)
    (F : ∀ base : Heap, K.In base → base.Ns mainGlobals mg → (∃ mm, base.Ns sysModules mm) → FnG P w K mg base CX k fa fd [x] sp) (bind : ∀ (s : Shared) (u : Value), BindsTo s fd ⟨[u], []⟩ [(x, u)])
    (pr : ∀ H : Hp, SqL K H a (ns.map V.int) → sp [.ref a] H (fun v _ => v = .bl true) fun _ _ _ => False) (noX : ∀ H e s', CX [] H t (fun _ _ _ => False) e s' → False) :
    codeAny (model P w) callerA (.call (.ref fa) ⟨[.ref a], []⟩) (fun r s' => r = .ok (.ret (.bool true)) ∧ OldK t.heap s'.heap ∧ s'.os = t.os ∧ AllBare s'.gens) t := by
  have rv := vals_ints iv
  cases hk : K.lookup a with
  | some o =>
    cases at_.symm.trans (KX a o hk)
    refine lawG_core3 (H := fun _ => none) SM KX nG nB nb nl g0 at_ room F bind (pr _ (.inr ⟨_, us.toArray, _, hk, rfl, rfl, rfl, ?_, ?_⟩)) noX (fun _ => .inl rfl) (fun b u z => nomatch z) (fun b z => absurd rfl z) fun z => absurd rfl z
    · rw [List.size_toArray, iv.length]; exact short
    · simpa using rv
  | none =>
    let ob : Obj := { cls := .type "list", data := .seq us.toArray }
    let G : Hp := fun b => if b = a then some (.frz ob (.lst (ns.map V.int))) else none
    have yes : G a = some (.frz ob (.lst (ns.map V.int))) := if_pos rfl
    have no : ∀ b, b ≠ a → G b = none := fun b h => if_neg h
    refine lawG_core3 (H := G) SM KX nG nB nb nl g0 at_ room F bind (pr _ (.inl (.inr ⟨ob, yes⟩))) noX (fun b => ?_) (fun b u z => ?_) (fun b z => ?_) fun _ => hk
    · by_cases h : b = a
      · subst h; exact .inr ⟨_, _, yes⟩
      · exact .inl (no b h)
    · by_cases h : b = a
      · subst h
        cases yes.symm.trans z
        exact ⟨at_, by rw [List.length_map]; exact short, us, _, rv, at_⟩
      · rw [no b h] at z; exact nomatch z
    · by_cases h : b = a
      · exact h
      · exact absurd (no b h) z
end
theorem walk_ofG3 {l : PySem.W.OpenLaw} {n k : Nat} {q : Program} {loose : List Str} {XP : (Str → Option Value) → Heap → Prop} {YP : World → Heap → Prop} {d : DefRec} {K : Params → PySem.W.Frag} {sp : PySem.W.Frag → Sp} {x : Str}
    (hn : l.most = some n) (hn2 : n ≤ sizeLine) (hdf : d.params.defaults = []) (hr : Room k callerA) (hi : importsNone q = true) (hY : ∀ (w : World) (h : Heap), YP w h → (K w.params).In h)
    (F : ∀ (w : World) (mg : Str → Option Value) (fa : Addr) (h : Heap), (K w.params).In h → h.Ns mainGlobals mg → mg d.name = some (.ref fa) →
      ∃ fd : FuncData, (∀ (s : Shared) (u : Value), BindsTo s fd ⟨[u], []⟩ [(x, u)]) ∧ ∀ base : Heap, (K w.params).In base → base.Ns mainGlobals mg → (∃ mm, base.Ns sysModules mm) → FnG l.prog w (K w.params) mg base CX0 k fa fd [x] (sp (K w.params)))
    (pr : ∀ (K : PySem.W.Frag) (H : Hp) (a : Addr) (ns : List Int), ns.length ≤ n → (∀ z ∈ ns, Builtin.Int.intBits z ≤ 1048576) → SqL K H a (ns.map V.int) → sp K [.ref a] H (fun v _ => v = .bl true) fun _ _ _ => False) :
    PySem.W.WalkO q loose XP YP l.row.toRowW d [] (fun f vs => PySem.call f vs) := by
  refine Att.attach_callB hn hdf fun w s₀ t mg mb fa o pm cd doc a us ns G Y ho hd hcd hmg at_ iv len bits g0 => ?_
  have KX := hY w _ Y
  obtain ⟨fd, bd, FG⟩ := F w mg fa _ KX G.T.g hmg
  have SM : ∃ mm, t.heap.Ns sysModules mm := let ⟨mm, z, _⟩ := (G.T.seer hi).mods; ⟨mm, z⟩
  exact lawG3 SM KX G.T.g G.T.b G.T.builtins G.T.nolimit g0 at_ iv (Nat.le_trans len hn2) hr FG bd (fun H S => pr (K w.params) H a ns len bits S) fun _ _ _ z => z
end Fw
end
section
set_option maxRecDepth 100000
namespace Fw
open PySem L2 PyProof.Rows PySem.Spec
theorem exm_of {K : PySem.W.Frag} {C D : Addr} {b : Bool} (h1 : PySem.W.subIn K (.ref C) (.type "BaseException") = some true) (h2 : PySem.W.isClsIn K C = true) (h3 : PySem.W.typeIn K (.ref C) = some (.type "type")) (h4 : PySem.W.subIn K (.ref D) (.ref C) = some b) : PySem.W.exmOne K (.ref D) (.ref C) = some b := by
  unfold PySem.W.exmOne
  rw [h1, if_pos (by simp)]
  unfold PySem.W.kitCls
  dsimp only
  have hc : (PySem.W.clsIn K C).isSome = true := h2
  rw [hc, h3, if_pos (by simp)]
  exact h4
theorem op_in_seqK {X : Cx} {K : PySem.W.Frag} (h : X.K = K) : OpR X (compareOp .In) (rIn K false) := by subst h; exact op_in_seq
section
variable {W W1 W2 : List Sl} {K : PySem.W.Frag} {C : Addr} {te ta tb : TE} {α : Type}
theorem es_upU {e : α → R} [E : UE K C e] {l : List α} (h : ES te W W1 (eLs e l)) : ES te W W1 (eLs (eU C) (l.map E.u)) := h.imp fun F v ⟨p, xs, h1, h2, h3⟩ => ⟨p, xs, h1, h2, by
  rw [List.map_map]
  exact (All2.iff (f := fun x => eU C (E.u x)) E.ok).mp h3⟩
theorem strs_flat {F : Hp} : ∀ {l : List Str} {xs : List V}, All2 (l.map fun s => eS s) F xs → xs = l.map V.str
  | [], [], _ => rfl
  | s :: l, x :: xs, h => by
    have e : x = V.str s := h.1
    rw [e, strs_flat h.2]; rfl
  | [], _ :: _, h => h.elim
  | _ :: _, [], h => h.elim
/-- x in ("a", ..) -/
theorem es_inTS {x : Str} {l : List Str} (ha : ES ta W W1 (eS x)) (hb : ES tb W1 W2 (eT K (l.map fun s => eS s))) : ES (tOp (rIn K false) ta tb) W W2 (eB (decide (x ∈ l))) := fun F H σ Q s k =>
  ha F H σ _ s fun v F1 H1 a1 s1 e1 => hb F1 H1 σ _ s1 fun w F2 H2 a2 s2 ⟨p, xs, h1, h2, h3⟩ => by
    have e1' : v = V.str x := e1
    subst e1' h1
    have ex := strs_flat h3
    subst ex
    refine ⟨p, _, rfl, .inr (sqT_up s2.ex h2), rfl, ?_, ?_⟩
    · rw [List.all_eq_true]
      intro y hy
      obtain ⟨z, _, rfl⟩ := List.mem_map.mp hy
      rfl
    · have e : inV (V.str x) (l.map V.str) = decide (x ∈ l) := by
        unfold inV
        rw [Bool.eq_iff_iff, List.any_eq_true, decide_eq_true_iff]
        constructor
        · rintro ⟨y, hy, q⟩
          obtain ⟨z, hz, rfl⟩ := List.mem_map.mp hy
          have : z = x := by simpa [eqV] using q
          rw [← this]; exact hz
        · intro hx
          exact ⟨_, List.mem_map.mpr ⟨x, hx, rfl⟩, by simp [eqV]⟩
      show Q (.bl (inV (V.str x) (l.map V.str))) H2
      rw [e]
      exact k _ F2 H2 (a1.trans a2) s2 rfl
theorem es_toU2 {e : α → R} [E : UE K C e] {x : α} {u : U} (h : ES te W W1 (e x)) (g : E.u x = u) : ES te W W1 (eU C u) := g ▸ es_toU h
theorem es_upU2 {e : α → R} [E : UE K C e] {l : List α} {m : List U} (h : ES te W W1 (eLs e l)) (g : l.map E.u = m) : ES te W W1 (eLs (eU C) m) := g ▸ es_upU h
theorem es_tupLU2 {e : α → R} [E : UE K C e] {l : List α} {u : U} (h : ES te W W1 (eLs e l)) (g : U.tup (l.map E.u) = u) :
    ES (tCB (fun xs H Q => ∃ p ys, xs = [.ref p] ∧ ((SqL K H p ys ∧ ∀ l, H l = none → Q (.ref l) (upd H l (.tup ys))) ∨ (SqT K H p ys ∧ Q (.ref p) H))) (tCons te tNil)) W W1 (eU C u) := g ▸ es_tupLU h
/-! lists of texts compared -/
def StrsOk (l : List Str) : Prop := (PyData.list (l.map PyData.str)).canLay0 = true
theorem depth_strs : ∀ l : List Str, PyData.depthAll (l.map PyData.str) = 0
  | [] => rfl
  | x :: l => by simp [PyData.depthAll, PyData.depth, depth_strs l]
theorem shp_strs {l : List Str} (h : StrsOk l) : SeqAt.shaped (.list (l.map PyData.str)) = true := by
  unfold SeqAt.shaped
  have q : (PyData.list (l.map PyData.str)).depth ≤ 64 := by
    simp only [PyData.depth, depth_strs]; decide
  rw [h, decide_eq_true q]; rfl
theorem eqv_strs : ∀ l m : List Str, PyData.eqvAll (l.map PyData.str) (m.map PyData.str) = decide (l = m)
  | [], [] => by simp [PyData.eqvAll]
  | [], _ :: _ => by simp [PyData.eqvAll]
  | _ :: _, [] => by simp [PyData.eqvAll]
  | x :: l, y :: m => by
    have ih := eqv_strs l m
    simp only [List.map_cons, PyData.eqvAll, PyData.eqv, ih]
    rw [Bool.eq_iff_iff]
    simp
theorem dp_strs {F H : Hp} (ex : Same F H) {l : List Str} {v : V} (h : (eLs eS l).p F v) : Dp K H v (.list (l.map PyData.str)) := by
  obtain ⟨p, xs, rfl, h2, h3⟩ := h
  have e := strs_flat h3
  subst e
  refine .lst (.inl (.inl (ex _ _ h2))) ?_
  clear h2 h3
  induction l with
  | nil => exact .nil
  | cons x l ih => exact .cons (.str x) ih
theorem es_eqLS {l m : List Str} (ha : ES ta W W1 (eLs eS l)) (hb : ES tb W1 W2 (eLs eS m)) (g : StrsOk l ∧ StrsOk m) : ES (tOp (rEqD K) ta tb) W W2 (eB (decide (l = m))) := fun F H σ Q s k =>
  ha F H σ _ s fun v F1 H1 a1 s1 e1 => hb F1 H1 σ _ s1 fun w F2 H2 a2 s2 e2 => by
    refine ⟨_, _, dp_strs s2.ex ((eLs eS l).mono a2.f e1), dp_strs s2.ex e2, shp_strs g.1, shp_strs g.2, ?_⟩
    rw [show PyData.eqv (.list (l.map PyData.str)) (.list (m.map PyData.str)) = decide (l = m) by simp only [PyData.eqv]; exact eqv_strs l m]
    exact k _ F2 H2 (a1.trans a2) s2 rfl
theorem es_neLS {l m : List Str} (ha : ES ta W W1 (eLs eS l)) (hb : ES tb W1 W2 (eLs eS m)) (g : StrsOk l ∧ StrsOk m) : ES (tOp (rNeD K) ta tb) W W2 (eB (!decide (l = m))) := fun F H σ Q s k =>
  ha F H σ _ s fun v F1 H1 a1 s1 e1 => hb F1 H1 σ _ s1 fun w F2 H2 a2 s2 e2 => by
    refine ⟨_, _, dp_strs s2.ex ((eLs eS l).mono a2.f e1), dp_strs s2.ex e2, shp_strs g.1, shp_strs g.2, ?_⟩
    rw [show PyData.eqv (.list (l.map PyData.str)) (.list (m.map PyData.str)) = decide (l = m) by simp only [PyData.eqv]; exact eqv_strs l m]
    exact k _ F2 H2 (a1.trans a2) s2 rfl
end
end Fw
end
section
set_option maxRecDepth 100000
set_option maxHeartbeats 2000000
/-! a comprehension whose turns change owned objects -/
namespace Fw
open PySem L2 PyProof.Rows PySem.Spec
end Fw
end
section
set_option maxRecDepth 100000
set_option maxHeartbeats 2000000
/-! more of texts: cuts, not in, a text times a number; three comparisons in a row; None in a list -/
namespace Fw
open PySem L2 PyProof.Rows PySem.Spec PyProof PyProof.Rows
def U.ofO : Option Int → U
  | none => .non
  | some i => .int i
section
variable {W W1 W2 W3 : List Sl} {K : PySem.W.Frag} {C : Addr} {te ta tb tc td : TE} {α : Type}
instance : UE K C (α := Option Int) (eO eI) := ⟨U.ofO, fun F v x => by
  cases x with
  | none => unfold U.ofO uP; exact Iff.rfl
  | some i => unfold U.ofO uP; exact Iff.rfl⟩
end
/-! a text times a number -/
/-! three comparisons in a row -/
end Fw
end
section
set_option maxRecDepth 100000
set_option maxHeartbeats 2000000
/-! objects beside the frame: instances that change, their lists -/
namespace Fw
open PySem L2 PyProof.Rows PySem.Spec
/-- .. perhaps the very object -/
def oX (k : Option HO) (c : OC) : OC := ⟨fun F a o => (∀ u, k = some u → o = u) ∧ c.p F a o, fun e h => ⟨h.1, c.mono e h.2⟩, fun h => c.nt h.2⟩
end Fw
end
section
set_option maxRecDepth 100000
set_option maxHeartbeats 2000000
/-! promises of defs that are given objects beside -/
namespace Fw
open PySem L2 PyProof.Rows PySem.Spec
abbrev GL := List (Addr × OC)
structure GhL (F H : Hp) (gs : GL) : Prop where
  at' : ∀ (k : Nat) (q : Addr) (c : OC), gs[k]? = some (q, c) → ∃ o, H q = some o ∧ F q = none ∧ c.p F q o
  un : ∀ (k l : Nat) (q : Addr) (c d : OC), gs[k]? = some (q, c) → gs[l]? = some (q, d) → k = l
def gM (gs : GL) (a : Addr) : Prop := ∃ (k : Nat) (c : OC), gs[k]? = some (a, c)
def kX (z : List (Addr × Option HO)) (H : Hp) : Prop := ∀ q k, (q, k) ∈ z → ∀ o, k = some o → H q = some o
/-- the slots from j on are these objects -/
def atX (W : List Sl) : Nat → GL → Prop
  | _, [] => True
  | j, g :: t => (∃ k, W[j]? = some (.gh g.1 (oX k g.2))) ∧ atX W (j + 1) t
def HEG (ad : Nat → Addr) (A : An) (z : List (Addr × Option HO)) (E : XK) (x : Xc) : Prop := ∀ cls dd F' H', A.p F' → Same F' H' → kX z H' → (∀ d1, dd = some d1 → ∀ q k, (q, k) ∈ z → d1 ≠ q) → exH ad x cls dd F' H' → E cls dd H'
def spGX {ι β : Type} (ad : Nat → Addr) (as : ι → List R) (gs : ι → GL) (ok : ι → Prop) (m : ι → Xc ⊕ β) (res : ι → β → R) (gs' : ι → β → GL) : Sp := fun vs H Q E => ∃ (d : ι) (F : Hp), ok d ∧ Same F H ∧ All2 (as d) F vs ∧ GhL F H (gs d) ∧
  (∀ b, m d = .inr b → ∀ v F' H', Rel F H (gM (gs d)) F' H' (gM (gs d)) → Same F' H' → GhL F' H' (gs' d b) → (res d b).p F' v → Q v H') ∧
  (∀ x, m d = .inl x → ∀ cls dd H', Same H H' → exH ad x cls dd H H' → E cls dd H')
theorem spGX.len {ι β : Type} {ad : Nat → Addr} {as : ι → List R} {gs : ι → GL} {ok : ι → Prop} {m : ι → Xc ⊕ β} {res : ι → β → R} {gs' : ι → β → GL} {vs : List V} {H : Hp} {Q : VK} {E : XK} {n : Nat} (h : spGX ad as gs ok m res gs' vs H Q E) (hn : ∀ d, (as d).length = n) : vs.length = n := by
  obtain ⟨d, F, _, _, ha, _⟩ := h
  rw [ha.len, hn]
section
variable {W W' W0 W1 W2 W3 : List Sl} {K : PySem.W.Frag} {ad : Nat → Addr} {A : An} {E : XK} {r : R} {P : Post} {ts uu : TS} {ta tb te to : TE} {tt : TT} {ι β γ δ : Type} {F H F' H' : Hp} {σ : L2.St} {gs gs' : GL} {z : List (Addr × Option HO)}
theorem HE.g {x : Xc} (h : HE ad A E x) : HEG ad A [] E x := fun cls dd F' H' a b _ _ c => h cls dd F' H' a b c
theorem atX.get : ∀ {gs : GL} {j k : Nat} {q : Addr} {c : OC}, atX W j gs → gs[k]? = some (q, c) → ∃ kk, W[j + k]? = some (.gh q (oX kk c))
  | g :: t, j, 0, q, c, h, e => by
    have e' : g = (q, c) := by simpa using e
    subst e'
    obtain ⟨k, h1⟩ := h.1
    exact ⟨k, h1⟩
  | g :: t, j, k + 1, q, c, h, e => by
    obtain ⟨kk, h1⟩ := atX.get (k := k) h.2 (by simpa using e)
    exact ⟨kk, by rw [show j + (k + 1) = j + 1 + k by omega]; exact h1⟩
  | [], _, _, _, _, _, e => by simp at e
theorem atX.gh {j : Nat} (s : Sat F H σ W) (h : atX W j gs) : GhL F H gs :=
  ⟨fun k q c e => by
    obtain ⟨kk, h1⟩ := h.get e
    obtain ⟨o, a, b, c'⟩ := s.gh.at' _ q _ h1
    exact ⟨o, a, b, c'.2⟩, fun k l q c d e1 e2 => by
    obtain ⟨_, h1⟩ := h.get e1
    obtain ⟨_, h2⟩ := h.get e2
    have := s.gh.un _ _ q _ _ h1 h2
    omega⟩
theorem atX.own {j : Nat} {a : Addr} (h : atX W j gs) (m : gM gs a) : Own W σ a := by
  obtain ⟨k, c, e⟩ := m
  obtain ⟨kk, h1⟩ := h.get e
  exact ⟨_, _, .inr h1⟩
/-! the call's frame -/
theorem atX.len : ∀ {gs : GL} {j : Nat}, atX W j gs → gs ≠ [] → j + gs.length ≤ W.length
  | [], _, _, h => absurd rfl h
  | [g], j, h, _ => by
    obtain ⟨k, e⟩ := h.1
    have := (List.getElem?_eq_some_iff.mp e).1
    simp only [List.length_cons, List.length_nil]; omega
  | g :: g2 :: t, j, h, _ => by
    have := atX.len h.2 (by simp)
    simp only [List.length_cons] at this ⊢
    omega
end
end Fw
end
section
set_option maxRecDepth 100000
set_option maxHeartbeats 2000000
/-! a def that is given objects beside: its body; calls -/
namespace Fw
open PySem L2 PyProof.Rows PySem.Spec
end Fw
end
section
set_option maxRecDepth 100000
set_option maxHeartbeats 2000000
/-! raising calls where objects lie beside -/
namespace Fw
open PySem L2 PyProof.Rows PySem.Spec
/-- the slots hold these very objects -/
def kAt (W : List Sl) : List (Addr × Option HO) → Prop
  | [] => True
  | g :: t => (∃ (i : Nat) (c : OC), W[i]? = some (Sl.gh g.1 (oX g.2 c))) ∧ kAt W t
def eF : R := ⟨fun _ _ => False, fun _ h => h⟩
section
variable {W W' W0 W1 W2 W3 : List Sl} {K : PySem.W.Frag} {ad : Nat → Addr} {A : An} {E : XK} {r : R} {P : Post} {ts uu : TS} {ta tb te to : TE} {tt : TT} {ι β γ δ : Type} {F H F' H' : Hp} {σ : L2.St} {gs gs' : GL} {z : List (Addr × Option HO)}
theorem kAt.get : ∀ {z : List (Addr × Option HO)} {q : Addr} {k : Option HO}, kAt W z → (q, k) ∈ z → ∃ (i : Nat) (c : OC), W[i]? = some (Sl.gh q (oX k c))
  | g :: t, q, k, h, m => by
    rcases List.mem_cons.mp m with e | m
    · subst e; exact h.1
    · exact kAt.get h.2 m
  | [], _, _, _, m => by cases m
theorem HEG.run {x : Xc} {i : Nat} {cls : Value} {dd : Option Addr} (hE : HEG ad A z E x) (s : Sat F H σ W) (hk : kAt W z) (hi : W[i]? = some (.fz (eAt A r))) (sm : Same H H') (hx : exH ad x cls dd H H') : E cls dd H' := by
  obtain ⟨w, _, h2⟩ := s.fz i _ hi
  refine hE cls dd F H' h2.1 (fun a o y => sm a o (s.ex a o y)) (fun q k m o e => ?_) (fun d1 e q k m y => ?_) ⟨hx.1, ?_⟩
  · obtain ⟨n, c, hn⟩ := hk.get m
    obtain ⟨u, g1, _, g3, _⟩ := s.gh.at' n q _ hn
    have := g3 o e
    subst this
    exact sm _ _ g1
  · obtain ⟨n, c, hn⟩ := hk.get m
    obtain ⟨u, g1, _⟩ := s.gh.at' n q _ hn
    have h3 := hx.2
    cases f : x.f with
    | none => rw [f] at h3; rw [h3] at e; cases e
    | some o =>
      rw [f] at h3
      obtain ⟨d2, k1, _, k3⟩ := h3
      rw [k1] at e
      cases e
      rw [y, g1] at k3; cases k3
  · have h3 := hx.2
    cases f : x.f with
    | none => rw [f] at h3; exact h3
    | some o =>
      rw [f] at h3
      obtain ⟨d2, k1, k2, k3⟩ := h3
      exact ⟨d2, k1, k2, s.ex.free k3⟩
/-- an expression that answers or raises -/
structure EX (ad : Nat → Addr) (A : An) (z : List (Addr × Option HO)) (E : XK) (te : TE) (W : List Sl) (m : Xc ⊕ β) (W1 : β → List Sl) (res : β → R) : Prop where
  nr : ∀ b, m = .inr b → ES te W (W1 b) (res b)
  xr : ∀ x, m = .inl x → HEG ad A z E x → ES te W W eF
theorem ex_call {as : ι → List R} {ok : ι → Prop} {m : ι → Xc ⊕ β} {res : β → R} {tr : TA} (d : ι) {i : Nat} (h : AS tr W W1 (as d)) (g : ok d) (hi : W1[i]? = some (.fz (eAt A r))) (hk : kAt W1 z) :
    EX ad A z E (tCall (spX ad as ok m res) [] E tr) W (m d) (fun _ => W1) res :=
  ⟨fun b hm => es_callXr d h g hm, fun x hm hE F H σ Q s k => h F H σ _ s fun vs F1 H1 a1 s1 e1 => by
    rw [List.append_nil]
    refine ⟨d, F1, g, s1.ex, e1, fun b' hb => (by rw [hm] at hb; cases hb), fun y hy cls dd H' sm hx => ?_⟩
    rw [hm] at hy
    cases hy
    exact hE.run s1 hk hi sm hx⟩
/-! statements -/
theorem xs_drop {P : Post} (h : ES te W W eF) : SS (tDrop te) W P := fun F H σ D s _ _ _ _ => h F H σ _ s fun _ _ _ _ _ hv => hv.elim
theorem ss_xS {st : TS} {W1 : β → List Sl} {res : β → R} {m : Xc ⊕ β} {G : Xc ⊕ γ → Post} {kk : β → Xc ⊕ γ} (h : EX ad A z E te W m W1 res) (hst : ∀ P, ES te W W eF → SS st W P) (hE : ∀ x, xbind m kk = .inl x → HEG ad A z E x)
    (k : ∀ b, m = .inr b → (∀ x, kk b = .inl x → HEG ad A z E x) → ES te W (W1 b) (res b) → SS (tSeq st uu) W (G (kk b))) : SS (tSeq st uu) W (G (xbind m kk)) := by
  cases hm : m with
  | inl x =>
    rw [hm] at hE
    exact ss_seq (fun _ => False) (hst _ (h.xr x hm (hE x rfl))) fun _ y => y.elim
  | inr b =>
    rw [hm] at hE
    exact k b hm hE (h.nr b hm)
end
end Fw
end
section
set_option maxRecDepth 100000
set_option maxHeartbeats 2000000
/-! objects beside: a new list handed out, a try that assigns, lists and tuples -/
namespace Fw
open PySem L2 PyProof.Rows PySem.Spec
end Fw
end
section
set_option maxRecDepth 100000
set_option maxHeartbeats 2000000
/-! an instance whose lists lie beside it is made -/
namespace Fw
open PySem L2 PyProof.Rows PySem.Spec
end Fw
end
section
set_option maxRecDepth 100000
set_option maxHeartbeats 2000000
/-! live tables -/
namespace Fw
open PySem L2 PyProof.Rows PySem.Spec
instance : Inhabited Tbl := ⟨⟨0, 0, 0⟩⟩
abbrev eTL {α : Type} (K : PySem.W.Frag) (e : α → R) (l : List α) : R := eT K (l.map e)
abbrev ePs (K : PySem.W.Frag) : List (Int × Int) × Int → R := eP2 K (eTL K (eP2 K eI eI)) eI
section
variable {W W' W0 W1 W2 W3 : List Sl} {K : PySem.W.Frag} {ad : Nat → Addr} {A : An} {E : XK} {r : R} {P : Post} {ts uu : TS} {ta tb te to tv : TE} {tt : TT} {ι β γ δ α : Type} {F H F' H' : Hp} {σ : L2.St} {gs gs' : GL}
theorem HEG.h {x : Xc} (h : HEG ad A [] E x) : HE ad A E x := fun cls dd F' H' a b c => h cls dd F' H' a b (fun _ _ m => by cases m) (fun _ _ _ _ m => by cases m) c
theorem ss_xS0 {st : TS} {W1 : β → List Sl} {res : β → R} {m : Xc ⊕ β} {G : Xc ⊕ γ → Post} {kk : β → Xc ⊕ γ} (h : EX ad A [] E te W m W1 res) (hst : ∀ P, ES te W W eF → SS st W P) (hE : ∀ x, xbind m kk = .inl x → HE ad A E x)
    (k : ∀ b, m = .inr b → (∀ x, kk b = .inl x → HE ad A E x) → ES te W (W1 b) (res b) → SS (tSeq st uu) W (G (kk b))) : SS (tSeq st uu) W (G (xbind m kk)) :=
  ss_xS h hst (fun x e => (hE x e).g) fun b hm h2 he => k b hm (fun x e => (h2 x e).h) he
/-! e.f, a property whose getter asks for no guard -/
/-! any data compared -/
end
end Fw
end
section
set_option maxRecDepth 100000
set_option maxHeartbeats 2000000
/-! live tables: the class -/
namespace Fw
open PySem L2 PyProof.Rows PySem.Spec
end Fw
end
section
set_option maxRecDepth 100000
set_option maxHeartbeats 2000000
/-! live tables: made, tried -/
namespace Fw
open PySem L2 PyProof.Rows PySem.Spec
end Fw
end
section
set_option maxRecDepth 100000
set_option maxHeartbeats 2000000
/-! sorted triples; x += e, x as it came in -/
namespace SrtO
open PySem PySem.Spec PyProof.Rows
def IsTrip (h : Heap) (v : Value) (x y z : Int) : Prop := ∃ a o t u r n, v = .ref a ∧ h.get? a = some o ∧ o.cls = .type "tuple" ∧ o.data = .seq #[.int x t, .int y u, .int z r] n
theorem IsTrip.keeps {h h' : Heap} {v : Value} {x y z : Int} (p : IsTrip h v x y z) (k : ∀ b o, h.get? b = some o → o.cls = .type "tuple" → h'.get? b = some o) : IsTrip h' v x y z := by
  obtain ⟨a, o, t, u, r, n, e, ho, hc, hd⟩ := p
  exact ⟨a, o, t, u, r, n, e, k _ _ ho hc, hc, hd⟩
end SrtO
namespace Fw
open PySem L2 PyProof.Rows PySem.Spec
end Fw
end
section
set_option maxRecDepth 100000
set_option maxHeartbeats 2000000
/-! a text or None compared -/
namespace Fw
open PySem L2 PyProof.Rows PySem.Spec
section
variable {α : Type} {W W1 W2 : List Sl} {K : PySem.W.Frag} {ta tb : TE} {F H : Hp}
instance {e : α → R} : NotN (eLs e) := ⟨fun F l v h e => by obtain ⟨p, xs, h1, _⟩ := h; rw [h1] at e; cases e⟩
end
end Fw
end
section
set_option maxRecDepth 100000
set_option maxHeartbeats 2000000
/-! live tables: undo, log, == -/
namespace Fw
open PySem L2 PyProof.Rows PySem.Spec
instance datTL {K : PySem.W.Frag} {α : Type} {e : α → R} [D : DatE K e] : DatE K (eTL K e) where
  d := fun l => .tuple (l.map D.d)
  dep := D.dep + 1
  ok := fun f ⟨p, xs, h1, h2, h3⟩ => by
    subst h1
    exact .tup (.inl (.inl (f _ _ h2))) (dpAll f h3)
  lay := fun l => by show PyData.canLayAll0 _ = true; exact layAll l
  dpt := fun l => by
    have h := depAll (D := D) l
    simp only [PyData.depth]
    omega
  eqv := fun l m => by show PyData.eqvAll _ _ = true ↔ _; exact eqvAll_iff l m
  nod := fun l => by show PyData.hasDictAll _ = false; exact nodAll l
instance {K : PySem.W.Frag} : DatE K (ePs K) := inferInstanceAs (DatE K (eP2 K (eTL K (eP2 K eI eI)) eI))
end Fw
end
section
set_option maxRecDepth 100000
set_option maxHeartbeats 2000000
/-! a def that only reads the objects beside; a == b -/
namespace Fw
open PySem L2 PyProof.Rows PySem.Spec
/-- at these places of the frame -/
def inX (W : List Sl) : List Nat → GL → Prop
  | [], [] => True
  | i :: is, g :: t => (∃ k : Option HO, W[i]? = some (.gh g.1 (oX k g.2))) ∧ inX W is t
  | _, _ => False
section
variable {W W' W0 W1 W2 W3 : List Sl} {K : PySem.W.Frag} {ad : Nat → Addr} {A : An} {E : XK} {r r0 : R} {P : Post} {ts uu : TS} {ta tb te to tv : TE} {tt : TT} {ι β γ δ α : Type} {F H F' H' : Hp} {σ : L2.St} {gs gs' : GL} {p : Addr} {kk : Option HO} {j : Nat}
theorem inX.get : ∀ {is : List Nat} {gs : GL} {k : Nat} {q : Addr} {c : OC}, inX W is gs → gs[k]? = some (q, c) → ∃ (i : Nat) (kk : Option HO), is[k]? = some i ∧ W[i]? = some (Sl.gh q (oX kk c))
  | i :: is, g :: t, 0, q, c, h, e => by
    have e' : g = (q, c) := by simpa using e
    subst e'
    obtain ⟨kk, h1⟩ := h.1
    exact ⟨i, kk, rfl, h1⟩
  | i :: is, g :: t, k + 1, q, c, h, e => by
    obtain ⟨i', kk, h1, h2⟩ := inX.get (k := k) h.2 (by simpa using e)
    exact ⟨i', kk, by simpa using h1, h2⟩
  | [], [], _, _, _, _, e => by simp at e
  | [], _ :: _, _, _, _, h, _ => h.elim
  | _ :: _, [], _, _, _, _, e => by simp at e
theorem inX.gh {is : List Nat} (s : Sat F H σ W) (h : inX W is gs) (un : is.Nodup) : GhL F H gs :=
  ⟨fun k q c e => by
    obtain ⟨i, kk, _, h1⟩ := h.get e
    obtain ⟨o, a, b, c'⟩ := s.gh.at' _ q _ h1
    exact ⟨o, a, b, c'.2⟩, fun k l q c d e1 e2 => by
    obtain ⟨i1, _, h1, h2⟩ := h.get e1
    obtain ⟨i2, _, h3, h4⟩ := h.get e2
    have e := s.gh.un _ _ q _ _ h2 h4
    subst e
    have hk := (List.getElem?_eq_some_iff.mp h1)
    have hl := (List.getElem?_eq_some_iff.mp h3)
    obtain ⟨k1, k2⟩ := hk
    obtain ⟨l1, l2⟩ := hl
    exact (List.getElem_inj (h₀ := k1) (h₁ := l1) un).mp (by rw [k2, l2])⟩
end
end Fw
end
section
set_option maxRecDepth 100000
namespace Fw
open PySem L2 PyProof.Rows PySem.Spec
end Fw
end
section
set_option maxRecDepth 100000
namespace Fw
open PySem L2 PyProof.Rows PySem.Spec
end Fw
end
section
set_option maxRecDepth 100000
set_option maxHeartbeats 2000000
/-! a, b, c = [LiveTable(t) for _ in range(3)] -/
namespace Fw
open PySem L2 PyProof.Rows PySem.Spec
end Fw
end
section
set_option maxRecDepth 100000
/-! lists of calls compared -/
namespace Fw
open PySem L2 PyProof.Rows PySem.Spec
end Fw
end
section
set_option maxRecDepth 100000
/-! a, b = LiveTable(t), a new list -/
namespace Fw
open PySem L2 PyProof.Rows PySem.Spec
end Fw
end
section
namespace Fw
open PySem L2 PyProof.Rows PySem.Spec
end Fw
end
section
set_option maxRecDepth 100000
set_option maxHeartbeats 400000
/-! dicts with pairs of ints as keys that change: a display with one pair, pop, a parameter that a def changes, one handed out; while with a way out -/
namespace L2
open PySem PySem.Spec PyProof.Rows
end L2
namespace Fw
open PySem L2 PyProof.Rows PySem.Spec
theorem DRel.drop {κ κ' α : Type} [DecidableEq κ] [DecidableEq κ'] {tk' : κ → κ'} (inj : ∀ a b, tk' a = tk' b → a = b) {e : α → R} {F : Hp} (k : κ) : ∀ {l : List (κ × α)} {ws : List (κ' × V)}, DRel tk' e F l ws → DRel tk' e F (dpK l k) (dropK ws (tk' k))
  | [], [], _ => trivial
  | kv :: l, w :: ws, h => by
    have ih := DRel.drop inj k h.2.2
    by_cases z : kv.1 = k
    · have z2 : w.1 = tk' k := by rw [h.1, z]
      have e1 : dpK (kv :: l) k = dpK l k := List.filter_cons_of_neg (by simp [z])
      have e2 : dropK (w :: ws) (tk' k) = dropK ws (tk' k) := List.filter_cons_of_neg (by simp [z2])
      rw [e1, e2]; exact ih
    · have z2 : w.1 ≠ tk' k := fun y => z (inj _ _ (by rw [← h.1, y]))
      have e1 : dpK (kv :: l) k = kv :: dpK l k := List.filter_cons_of_pos (by simp [z])
      have e2 : dropK (w :: ws) (tk' k) = w :: dropK ws (tk' k) := List.filter_cons_of_pos (by simp [z2])
      rw [e1, e2]; exact ⟨h.1, h.2.1, ih⟩
  | [], _ :: _, h => h.elim
  | _ :: _, [], h => h.elim
end Fw
end
section
set_option maxRecDepth 100000
set_option maxHeartbeats 1000000
namespace Fw
open PySem L2 PyProof.Rows PySem.Spec
end Fw
end
section
set_option maxRecDepth 100000
namespace Fw
open PySem L2 PyProof.Rows PySem.Spec
end Fw
end
section
set_option maxRecDepth 100000
set_option maxHeartbeats 1000000
/-! a method with a star parameter: what is left over of the arguments is a tuple -/
namespace Fw
open PySem L2 PySem.Spec PyProof.Rows
/-- the promise of a def (self, *rest), where no guard of a display runs; sp is told of self and of the tuple -/
def FnGS (P : Program) (w : World) (K : PySem.W.Frag) (mg : Str → Option Value) (base : Heap) (CX : CXT) (k : Nat) (f : Addr) (sp : Sp) : Prop :=
  ∀ (A : Around) (outer : List Env) (s : Shared) (H : Hp) (us : List Value) (vs : List V) (Q : VK) (E : XK), A.guards = some [] → Room k A → Env0 P w K mg base A outer s H → Vals vs us →
    (∃ x rest, vs = x :: rest ∧ rest.length ≤ sizeLine ∧ ∀ p, H p = none → sp [x, .ref p] (upd H p (.tup rest)) Q E) → codeAny (model P w) A (.call (.ref f) ⟨us, []⟩) (CR CX outer P w H s Q E) s
section
variable {P : Program} {w : World} {K : PySem.W.Frag} {mg : Str → Option Value} {base : Heap} {CX : CXT} {k j : Nat} {f : Addr} {fd : FuncData} {ps : List Str} {sp sp' : Sp}
theorem FnGS.mono (F : FnGS P w K mg base CX j f sp) (h : j ≤ k) : FnGS P w K mg base CX k f sp := fun A outer s H us vs Q E hg hr => F A outer s H us vs Q E hg (hr.mono h)
end
end Fw
namespace Fw
open PySem L2 PyProof.Rows PySem.Spec
end Fw
end
section
set_option maxRecDepth 100000
set_option maxHeartbeats 2000000
/-! a def that only reads the objects beside, and answers or raises -/
namespace Fw
open PySem L2 PyProof.Rows PySem.Spec
def spGRX {ι β : Type} (ad : Nat → Addr) (as : ι → List R) (gs : ι → GL) (ok : ι → Prop) (m : ι → Xc ⊕ β) (res : ι → β → R) : Sp := fun vs H Q E => ∃ (d : ι) (F : Hp), ok d ∧ Same F H ∧ All2 (as d) F vs ∧ GhL F H (gs d) ∧
  (∀ b, m d = .inr b → ∀ v F' H', Rel F H Nob F' H' Nob → Same F' H' → (res d b).p F' v → Q v H') ∧
  (∀ x, m d = .inl x → ∀ cls dd H', Same H H' → exH ad x cls dd H H' → E cls dd H')
theorem spGRX.len {ι β : Type} {ad : Nat → Addr} {as : ι → List R} {gs : ι → GL} {ok : ι → Prop} {m : ι → Xc ⊕ β} {res : ι → β → R} {vs : List V} {H : Hp} {Q : VK} {E : XK} {n : Nat} (h : spGRX ad as gs ok m res vs H Q E) (hn : ∀ d, (as d).length = n) : vs.length = n := by
  obtain ⟨d, F, _, _, ha, _⟩ := h
  rw [ha.len, hn]
end Fw
end
section
set_option maxRecDepth 100000
/-! a, b = LiveTable(t), LiveTable(u) -/
namespace Fw
open PySem L2 PyProof.Rows PySem.Spec
end Fw
end
section
set_option maxRecDepth 100000
set_option maxHeartbeats 2000000
/-! a def that draws from its first parameter and reads objects beside -/
namespace Fw
open PySem L2 PyProof.Rows PySem.Spec
end Fw
end
section
set_option maxRecDepth 100000
/-! data with texts in it compared -/
namespace Fw
open PySem L2 PyProof.Rows PySem.Spec
class DatL (K : PySem.W.Frag) {α : Type} (e : α → R) where
  d : α → PyData
  dep : Nat
  ok : ∀ {F H : Hp} {v : V} {x : α}, Same F H → (e x).p F v → Dp K H v (d x)
  dpt : ∀ x, (d x).depth ≤ dep
  eqv : ∀ x y, PyData.eqv (d x) (d y) = true ↔ x = y
instance (priority := 10) {K : PySem.W.Frag} {α : Type} {e : α → R} [D : DatE K e] : DatL K e := ⟨D.d, D.dep, D.ok, D.dpt, D.eqv⟩
instance {K : PySem.W.Frag} : DatL K eS where
  d := .str
  dep := 0
  ok := fun _ h => by
    cases (show _ = V.str _ from h)
    exact .str _
  dpt := fun _ => by simp [PyData.depth]
  eqv := fun x y => by simp [PyData.eqv]
instance {K : PySem.W.Frag} : DatL K eI where
  d := .int
  dep := 0
  ok := fun _ h => by
    cases (show _ = V.int _ from h)
    exact .int _
  dpt := fun _ => by simp [PyData.depth]
  eqv := fun x y => by simp [PyData.eqv]
theorem dpAllL {K : PySem.W.Frag} {α : Type} {e : α → R} [D : DatL K e] {F H : Hp} (f : Same F H) : ∀ {l : List α} {xs : List V}, All2 (l.map e) F xs → DpAll K H xs (l.map (D.d))
  | [], [], _ => .nil
  | _ :: _, _ :: _, h => .cons (D.ok f h.1) (dpAllL f h.2)
  | [], _ :: _, h => h.elim
  | _ :: _, [], h => h.elim
theorem eqvAllL {K : PySem.W.Frag} {α : Type} {e : α → R} [D : DatL K e] : ∀ l m : List α, PyData.eqvAll (l.map D.d) (m.map D.d) = true ↔ l = m
  | [], [] => by simp [PyData.eqvAll]
  | x :: l, y :: m => by simp [PyData.eqvAll, D.eqv, eqvAllL l m]
  | [], _ :: _ => by simp [PyData.eqvAll]
  | _ :: _, [] => by simp [PyData.eqvAll]
theorem depAllL {K : PySem.W.Frag} {α : Type} {e : α → R} [D : DatL K e] : ∀ l : List α, PyData.depthAll (l.map D.d) ≤ D.dep
  | [] => by simp [PyData.depthAll]
  | x :: l => by
    have h1 := D.dpt x
    have h2 := depAllL (D := D) l
    simp only [List.map_cons, PyData.depthAll]
    omega
instance {K : PySem.W.Frag} {α : Type} {e : α → R} [D : DatL K e] : DatL K (eLs e) where
  d := fun l => .list (l.map D.d)
  dep := D.dep + 1
  ok := fun f ⟨p, xs, h1, h2, h3⟩ => by
    subst h1
    exact .lst (.inl (.inl (f _ _ h2))) (dpAllL f h3)
  dpt := fun l => by
    have h := depAllL (D := D) l
    simp only [PyData.depth]
    omega
  eqv := fun l m => by show PyData.eqvAll _ _ = true ↔ _; exact eqvAllL l m
instance {K : PySem.W.Frag} {α β : Type} {e : α → R} {f : β → R} [D : DatL K e] [D' : DatL K f] : DatL K (eP2 K e f) where
  d := fun x => .tuple [D.d x.1, D'.d x.2]
  dep := max D.dep D'.dep + 1
  ok := fun f ⟨p, xs, h1, h2, h3⟩ => by
    subst h1
    match xs, h3 with
    | [x, y], h3 => exact .tup (sqT_up f h2) (.cons (D.ok f h3.1) (.cons (D'.ok f h3.2.1) .nil))
    | [], h3 => exact h3.elim
    | [_], h3 => exact h3.2.elim
    | _ :: _ :: _ :: _, h3 => exact h3.2.2.elim
  dpt := fun x => by
    have h1 := D.dpt x.1
    have h2 := D'.dpt x.2
    simp only [PyData.depth, PyData.depthAll]
    omega
  eqv := fun x y => by
    obtain ⟨x1, x2⟩ := x
    obtain ⟨y1, y2⟩ := y
    simp [PyData.eqv, PyData.eqvAll, D.eqv, D'.eqv]
instance {K : PySem.W.Frag} {α β γ : Type} {e : α → R} {f : β → R} {g : γ → R} [D : DatL K e] [D' : DatL K f] [D'' : DatL K g] : DatL K (eP3 K e f g) where
  d := fun x => .tuple [D.d x.1, D'.d x.2.1, D''.d x.2.2]
  dep := max D.dep (max D'.dep D''.dep) + 1
  ok := fun f ⟨p, xs, h1, h2, h3⟩ => by
    subst h1
    match xs, h3 with
    | [x, y, z], h3 => exact .tup (sqT_up f h2) (.cons (D.ok f h3.1) (.cons (D'.ok f h3.2.1) (.cons (D''.ok f h3.2.2.1) .nil)))
    | [], h3 => exact h3.elim
    | [_], h3 => exact h3.2.elim
    | [_, _], h3 => exact h3.2.2.elim
    | _ :: _ :: _ :: _ :: _, h3 => exact h3.2.2.2.elim
  dpt := fun x => by
    have h1 := D.dpt x.1
    have h2 := D'.dpt x.2.1
    have h3 := D''.dpt x.2.2
    simp only [PyData.depth, PyData.depthAll]
    omega
  eqv := fun x y => by
    obtain ⟨x1, x2, x3⟩ := x
    obtain ⟨y1, y2, y3⟩ := y
    simp [PyData.eqv, PyData.eqvAll, D.eqv, D'.eqv, D''.eqv]
instance {K : PySem.W.Frag} {α β γ : Type} {e : α → R} {f : β → R} {g : γ → R} [D : DatL K e] [D' : DatL K f] [D'' : DatL K g] : DatL K (eM3 e f g) where
  d := fun x => .list [D.d x.1, D'.d x.2.1, D''.d x.2.2]
  dep := max D.dep (max D'.dep D''.dep) + 1
  ok := fun f ⟨p, xs, h1, h2, h3⟩ => by
    subst h1
    match xs, h3 with
    | [x, y, z], h3 => exact .lst (.inl (.inl (f _ _ h2))) (.cons (D.ok f h3.1) (.cons (D'.ok f h3.2.1) (.cons (D''.ok f h3.2.2.1) .nil)))
    | [], h3 => exact h3.elim
    | [_], h3 => exact h3.2.elim
    | [_, _], h3 => exact h3.2.2.elim
    | _ :: _ :: _ :: _ :: _, h3 => exact h3.2.2.2.elim
  dpt := fun x => by
    have h1 := D.dpt x.1
    have h2 := D'.dpt x.2.1
    have h3 := D''.dpt x.2.2
    simp only [PyData.depth, PyData.depthAll]
    omega
  eqv := fun x y => by
    obtain ⟨x1, x2, x3⟩ := x
    obtain ⟨y1, y2, y3⟩ := y
    simp [PyData.eqv, PyData.eqvAll, D.eqv, D'.eqv, D''.eqv]
end Fw
end
section
set_option maxRecDepth 100000
/-! a, b, .. = LiveTable(t), .. -/
namespace Fw
open PySem L2 PyProof.Rows PySem.Spec
end Fw
end
section
set_option maxRecDepth 100000
/-! a live object == what is none -/
namespace Fw
open PySem L2 PyProof.Rows PySem.Spec
end Fw
end
section
set_option maxRecDepth 100000
set_option maxHeartbeats 1000000
/-! live tables without a name -/
namespace Fw
open PySem L2 PyProof.Rows PySem.Spec
end Fw
end
section
set_option maxRecDepth 100000
set_option maxHeartbeats 1000000
/-! match of a text with texts; get of a written dict -/
namespace L2
open PySem PySem.Spec PyProof.Rows
end L2
namespace Fw
open PySem L2 PyProof.Rows PySem.Spec
end Fw
/-! get of a written dict from texts to ints -/
namespace L2
open PySem PySem.Spec PyProof.Rows
end L2
namespace Fw
open PySem L2 PyProof.Rows PySem.Spec
end Fw
end
section
set_option maxRecDepth 100000
set_option maxHeartbeats 2000000
/-! objects beside whose neighbours are replaced -/
namespace Fw
open PySem L2 PyProof.Rows PySem.Spec
end Fw
end
section
set_option maxRecDepth 100000
set_option maxHeartbeats 2000000
/-! consoles: an object that names a live table -/
namespace Fw
open PySem L2 PyProof.Rows PySem.Spec
end Fw
end
section
set_option maxRecDepth 100000
set_option maxHeartbeats 2000000
/-! consoles are made, and given another live table -/
namespace Fw
open PySem L2 PyProof.Rows PySem.Spec
end Fw
end
section
set_option maxRecDepth 100000
/-! str of a number or a text; a tuple of unlike things walked -/
namespace L2
open PySem PySem.Spec
end L2
namespace Fw
open PySem L2 PyProof.Rows PySem.Spec
end Fw
end
section
open PySem L2 PyProof.Rows PySem.Spec
namespace Fw
end Fw
end
section
set_option maxRecDepth 100000
set_option maxHeartbeats 2000000
/-! try: o.m(..) except X as n: c = n, where o stands beside -/
namespace Fw
open PySem L2 PyProof.Rows PySem.Spec
section
variable {W W' W0 W1 W2 W3 : List Sl} {K : PySem.W.Frag} {ad : Nat → Addr} {A : An} {r r0 : R} {P : Post} {ts uu : TS} {ta tb te to tv : TE} {tt : TT} {ι β γ δ α : Type} {F H F' H' : Hp} {σ : L2.St} {gs gs' : GL} {p : Addr} {kk : Option HO} {j : Nat} {z : List (Addr × Option HO)}
theorem exH_up {x : Xc} {cls : Value} {dd : Option Addr} {F H H' : Hp} (ex : Same F H) (h : exH ad x cls dd H H') : exH ad x cls dd F H' := by
  refine ⟨h.1, ?_⟩
  have h2 := h.2
  cases q : x.f with
  | none => rw [q] at h2; exact h2
  | some o =>
    rw [q] at h2
    obtain ⟨d1, k1, k2, k3⟩ := h2
    refine ⟨d1, k1, k2, ?_⟩
    cases z : F d1 with
    | none => rfl
    | some u => have := ex d1 u z; rw [k3] at this; cases this
end
/-! the objects made within a loop's body are let go at its end -/
/-! C(..) where __init__ raises -/
section
variable {W W' W0 W1 W2 W3 : List Sl} {K : PySem.W.Frag} {ad : Nat → Addr} {A : An} {E E' : XK} {r r0 : R} {P : Post} {ta tb te to tv : TE} {ι β : Type} {z : List (Addr × Option HO)}
theorem ex_mkX {as : ι → List R} {ok : ι → Prop} {m : ι → Xc ⊕ β} {res : β → R} {tr : TA} {C : Addr} {rs : List R} (d : ι) {i : Nat} (h : AS tr W W1 rs) (hd : as d = eAny :: rs) (g : ok d) (hx : ∀ b, m d = .inr b → False) (hi : W1[i]? = some (.fz (eAt A r))) (hk : kAt W1 z) :
    EX ad A z E (tMake C (spX ad as ok m res) [] E tr) W (m d) (fun _ => W1) (fun _ : β => eF) :=
  ⟨fun b hb => (hx b hb).elim, fun x hm hE F H σ Q s k => h F H σ _ s fun vs F1 H1 a1 s1 e1 => by
    intro p dx h1 h2 h3
    rw [List.append_nil]
    have grow : Same H1 (upd (upd H1 dx (.own p)) p (.ins C dx [])) := fun b u y => by
      rw [upd_ne (ne_of_none y h1), upd_ne (ne_of_none y h2)]; exact y
    exact ⟨d, F1, g, fun b u y => grow b u (s1.ex b u y), (by rw [hd]; exact ⟨trivial, e1⟩), fun b hb => (hx b hb).elim, fun y hy cls dd H' sm hx => by
      rw [hm] at hy; cases hy
      exact hE.run s1 hk hi (fun b u y => sm b u (grow b u y)) (exH_up grow hx)⟩⟩
end
/-! (a, b) = (a new list, C()), the names in a comprehension block -/
end Fw
end
section
set_option maxRecDepth 100000
set_option maxHeartbeats 2000000
/-! methods of an instance that answer or raise; C(..) that raises, as a statement; an if at a def's end -/
namespace Fw
open PySem L2 PyProof.Rows PySem.Spec
section
variable {W W' W0 W1 W2 W3 : List Sl} {K : PySem.W.Frag} {ad : Nat → Addr} {A : An} {E E' : XK} {r r0 : R} {P : Post} {ta tb te to tv : TE} {ι β : Type} {z : List (Addr × Option HO)}
theorem es_methXr {as : ι → List R} {ok : ι → Prop} {m : ι → Xc ⊕ β} {res : β → R} {tr : TA} {C : Addr} {mn : Str} {fs : List (Str × R)} {rs : List R} (d : ι) {b : β} (ho : ES to W W1 (eIns C fs)) (hn : fs.lookup mn = none) (h : AS tr W1 W2 rs) (hd : as d = eIns C fs :: rs) (g : ok d) (hm : m d = .inr b) :
    ES (tMeth C mn (spX ad as ok m res) [] E to tr) W W2 (res b) := fun F H σ Q s k =>
  ho F H σ _ s fun v F1 H1 a1 s1 e1 => by
    obtain ⟨p, dx, gs, h1, h2, h3, h4⟩ := id e1
    refine ⟨p, dx, gs, h1, s1.ex _ _ h2, ins_none h3 hn, h F1 H1 σ _ s1 fun vs F2 H2 a2 s2 e2 => ?_⟩
    rw [List.append_nil]
    exact ⟨d, F2, g, s2.ex, by rw [hd]; exact ⟨(eIns C fs).mono a2.f e1, e2⟩, fun b' hb v F3 H3 q e3 hv => (by rw [hm] at hb; cases hb; exact k v F3 H3 ((a1.trans a2).trans q.pure) (s2.pure q e3) hv), fun x hx => by rw [hm] at hx; cases hx⟩
theorem ex_meth {as : ι → List R} {ok : ι → Prop} {m : ι → Xc ⊕ β} {res : β → R} {tr : TA} {C : Addr} {mn : Str} {fs : List (Str × R)} {rs : List R} (d : ι) {i : Nat} (ho : ES to W W1 (eIns C fs)) (hn : fs.lookup mn = none) (h : AS tr W1 W2 rs) (hd : as d = eIns C fs :: rs) (g : ok d) (hi : W2[i]? = some (.fz (eAt A r))) (hk : kAt W2 z) :
    EX ad A z E (tMeth C mn (spX ad as ok m res) [] E to tr) W (m d) (fun _ => W2) res :=
  ⟨fun b hm => es_methXr d ho hn h hd g hm, fun x hm hE F H σ Q s k => ho F H σ _ s fun v F1 H1 a1 s1 e1 => by
    obtain ⟨p, dx, gs, h1, h2, h3, h4⟩ := id e1
    refine ⟨p, dx, gs, h1, s1.ex _ _ h2, ins_none h3 hn, h F1 H1 σ _ s1 fun vs F2 H2 a2 s2 e2 => ?_⟩
    rw [List.append_nil]
    refine ⟨d, F2, g, s2.ex, by rw [hd]; exact ⟨(eIns C fs).mono a2.f e1, e2⟩, fun b' hb => (by rw [hm] at hb; cases hb), fun y hy cls dd H' sm hx => ?_⟩
    rw [hm] at hy
    cases hy
    exact hE.run s2 hk hi sm hx⟩
theorem ex_mkX2 {as : ι → List R} {ok : ι → Prop} {m : ι → Xc ⊕ β} {res res' : β → R} {tr : TA} {C : Addr} {rs : List R} (d : ι) {i : Nat} (h : AS tr W W1 rs) (hd : as d = eAny :: rs) (g : ok d) (hx : ∀ b, m d = .inr b → False) (hi : W1[i]? = some (.fz (eAt A r))) (hk : kAt W1 z) :
    EX ad A z E (tMake C (spX ad as ok m res) [] E tr) W (m d) (fun _ => W1) res' :=
  ⟨fun b hb => (hx b hb).elim, (ex_mkX (z := z) d h hd g hx hi hk).xr⟩
end
section
variable {W W1 : List Sl} {tc' : TT} {tA tB uu : TS} {a : Bool} {α : Type}
theorem ss_ifE {P : Post} (h : ET tc' W W1 a) (h1 : a = true → SS (tSeq tA uu) W1 P) (h2 : a = false → SS (tSeq tB uu) W1 P) : SS (tSeq (tIfS tc' tA tB) uu) W P := fun F H σ D s kn kr kb kc =>
  h F H σ _ s fun F1 H1 a1 s1 => by
    cases a with
    | true =>
      rw [if_pos rfl]
      exact h1 rfl F1 H1 σ D s1 (fun W2 σ2 F2 H2 n2 a2 s2 => kn W2 σ2 F2 H2 n2 (a1.trans a2) s2) (fun W2 σ2 r v F2 H2 n2 a2 s2 => kr W2 σ2 r v F2 H2 n2 (a1.trans a2) s2)
        (fun W2 σ2 F2 H2 n2 a2 s2 => kb W2 σ2 F2 H2 n2 (a1.trans a2) s2) fun W2 σ2 F2 H2 n2 a2 s2 => kc W2 σ2 F2 H2 n2 (a1.trans a2) s2
    | false =>
      rw [if_neg Bool.false_ne_true]
      exact h2 rfl F1 H1 σ D s1 (fun W2 σ2 F2 H2 n2 a2 s2 => kn W2 σ2 F2 H2 n2 (a1.trans a2) s2) (fun W2 σ2 r v F2 H2 n2 a2 s2 => kr W2 σ2 r v F2 H2 n2 (a1.trans a2) s2)
        (fun W2 σ2 F2 H2 n2 a2 s2 => kb W2 σ2 F2 H2 n2 (a1.trans a2) s2) fun W2 σ2 F2 H2 n2 a2 s2 => kc W2 σ2 F2 H2 n2 (a1.trans a2) s2
theorem ss_ifEv (Q : α → Post) {vA vB : α} (h : ET tc' W W1 a) (hA : a = true → SS (tSeq tA uu) W1 (Q vA)) (hB : a = false → SS (tSeq tB uu) W1 (Q vB)) : SS (tSeq (tIfS tc' tA tB) uu) W (Q (if a = true then vA else vB)) := by
  refine ss_ifE h (fun q => ?_) fun q => ?_
  · rw [if_pos q]; exact hA q
  · rw [if_neg (by rw [q]; exact Bool.false_ne_true)]; exact hB q
end
end Fw
end
section
set_option maxRecDepth 100000
set_option maxHeartbeats 800000
namespace My
open PySem L2 Fw
def top (i : Nat) : Stmt := PySem.Challenge.pw_hashdoors_k05_errors_of_tables.main.body.getD i (.Pass ⟨0, 0, 0, 0⟩)
abbrev eTbl (C : Addr) (t : Tbl) : R := eIns C [("own_capacity", eI t.capacity), ("own_rate", eI t.rate), ("own_shift", eI t.shift)]
def m_is_int (value_1 : Int) : Bool :=
true && (!false)
def m_is_int_ok (value_1 : Int) : Prop :=
True
def sp_is_int (K : PySem.W.Frag) (CT : Nat → Addr) : Sp := spF (ι := Int) (fun d => [eI d]) (fun d => m_is_int_ok d) (fun d => eB (m_is_int d))
abbrev s_is_int : Stmt := top 23
abbrev N_is_int : List Str := ["value"]
theorem sc_is_int : FnScope N_is_int ["value"] (defScope s_is_int) := ⟨rfl, rfl, rfl, by decide +kernel, rfl, by decide +kernel, by decide +kernel⟩
section
variable {P : Program} {w : World} {K : PySem.W.Frag} {mg : Str → Option Value} {base : Heap} {CT : Nat → Addr}
theorem ok_is_int {f : Addr} {fd : FuncData} (F : Fun K "is_int" "is_int" s_is_int f fd) (n_bool : mg "bool" = none) (n_int : mg "int" = none) (n_isinstance : mg "isinstance" = none) : FnG P w K mg base CX0 1 f fd ["value"] (sp_is_int K CT) := by
  refine Fun.okG F sc_is_int (fun vs H Q E h => ?_) (fun cdv A outer s H vs Q E hG hr h => ?_)
  · obtain ⟨d, F, _, _, h, _⟩ := h
    exact h.len
  · have nd := sc_is_int.nd
    have hU := hr.units
    refine ⟨_, (pss_cons (ps_ret (pe_and (pe_callB call_isi rfl n_isinstance (by decide +kernel) (pa_cons (pv 0) (pa_cons (pe_bltn (v := .ty "int") rfl n_int (by decide +kernel) rfl) pa_nil))) (pe_one (pe_not (pe_callB call_isi rfl n_isinstance (by decide +kernel) (pa_cons (pv 0) (pa_cons (pe_bltn (v := .ty "bool") rfl n_bool (by decide +kernel) rfl) pa_nil)))))))
 pss_nil), ?_⟩
    refine def_F h (fun d => Nat.le_of_ble_eq_true rfl) (fun value_1 h => ?_)
    replace h : m_is_int_ok value_1 := h
    unfold m_is_int_ok at h
    show SS _ [.fz (eI value_1)] (FP eB (m_is_int value_1))
    refine ss_retq (es_andV (es_isi (b := true) (es_var 0 rfl) (.ty "int") ty_int (kit_ty (by decide +kernel))) (fun hc10 => (es_notV (es_isi (b := false) (es_var 0 rfl) (.ty "bool") ty_int (kit_ty (by decide +kernel)))))) ?_
    exact rfl
end
def m_is_int__2 (value_1 : U) : Bool :=
(U.isT value_1 1) && (!(U.isT value_1 2))
def m_is_int__2_ok (value_1 : U) : Prop :=
True
def sp_is_int__2 (K : PySem.W.Frag) (CT : Nat → Addr) : Sp := spF (ι := U) (fun d => [(eU (CT 18)) d]) (fun d => m_is_int__2_ok d) (fun d => eB (m_is_int__2 d))
abbrev s_is_int__2 : Stmt := top 23
abbrev N_is_int__2 : List Str := ["value"]
theorem sc_is_int__2 : FnScope N_is_int__2 ["value"] (defScope s_is_int__2) := ⟨rfl, rfl, rfl, by decide +kernel, rfl, by decide +kernel, by decide +kernel⟩
section
variable {P : Program} {w : World} {K : PySem.W.Frag} {mg : Str → Option Value} {base : Heap} {CT : Nat → Addr}
theorem ok_is_int__2 {f : Addr} {fd : FuncData} (F : Fun K "is_int" "is_int" s_is_int__2 f fd) (n_bool : mg "bool" = none) (n_int : mg "int" = none) (n_isinstance : mg "isinstance" = none) (TY : TbTy K (CT 18)) : FnG P w K mg base CX0 1 f fd ["value"] (sp_is_int__2 K CT) := by
  refine Fun.okG F sc_is_int__2 (fun vs H Q E h => ?_) (fun cdv A outer s H vs Q E hG hr h => ?_)
  · obtain ⟨d, F, _, _, h, _⟩ := h
    exact h.len
  · have nd := sc_is_int__2.nd
    have hU := hr.units
    refine ⟨_, (pss_cons (ps_ret (pe_and (pe_callB call_isi rfl n_isinstance (by decide +kernel) (pa_cons (pv 0) (pa_cons (pe_bltn (v := .ty "int") rfl n_int (by decide +kernel) rfl) pa_nil))) (pe_one (pe_not (pe_callB call_isi rfl n_isinstance (by decide +kernel) (pa_cons (pv 0) (pa_cons (pe_bltn (v := .ty "bool") rfl n_bool (by decide +kernel) rfl) pa_nil)))))))
 pss_nil), ?_⟩
    refine def_F h (fun d => Nat.le_of_ble_eq_true rfl) (fun value_1 h => ?_)
    replace h : m_is_int__2_ok value_1 := h
    unfold m_is_int__2_ok at h
    show SS _ [.fz ((eU (CT 18)) value_1)] (FP eB (m_is_int__2 value_1))
    refine ss_retq (es_andV (es_isU (n := 1) TY (by decide) (es_var 0 rfl)) (fun hc10 => (es_notV (es_isU (n := 2) TY (by decide) (es_var 0 rfl))))) ?_
    exact rfl
end
def m_is_whole (value_1 : Int) (low_2 : Int) (high_3 : Int) : Bool :=
(m_is_int value_1) && ((decide (low_2 ≤ value_1)) && (decide (value_1 ≤ high_3)))
def m_is_whole_ok (value_1 : Int) (low_2 : Int) (high_3 : Int) : Prop :=
(m_is_int_ok value_1) ∧ True
def sp_is_whole (K : PySem.W.Frag) (CT : Nat → Addr) : Sp := spF (ι := Int × Int × Int) (fun d => [eI d.1, eI d.2.1, eI d.2.2]) (fun d => m_is_whole_ok d.1 d.2.1 d.2.2) (fun d => eB (m_is_whole d.1 d.2.1 d.2.2))
abbrev s_is_whole : Stmt := top 24
abbrev N_is_whole : List Str := ["value", "low", "high"]
theorem sc_is_whole : FnScope N_is_whole ["value", "low", "high"] (defScope s_is_whole) := ⟨rfl, rfl, rfl, by decide +kernel, rfl, by decide +kernel, by decide +kernel⟩
section
variable {P : Program} {w : World} {K : PySem.W.Frag} {mg : Str → Option Value} {base : Heap} {CT : Nat → Addr}
theorem ok_is_whole {f : Addr} {fd : FuncData} (F : Fun K "is_whole" "is_whole" s_is_whole f fd) {a_is_int : Addr} {fd_is_int : FuncData} (F_is_int : Fun K "is_int" "is_int" s_is_int a_is_int fd_is_int) (G_is_int : FnG P w K mg base CX0 1 a_is_int fd_is_int ["value"] (sp_is_int K CT)) (j_is_int : mg "is_int" = some (.ref a_is_int)) (b_is_int : Binds K fd_is_int ["value"] []) : FnG P w K mg base CX0 2 f fd ["value", "low", "high"] (sp_is_whole K CT) := by
  refine Fun.okG F sc_is_whole (fun vs H Q E h => ?_) (fun cdv A outer s H vs Q E hG hr h => ?_)
  · obtain ⟨d, F, _, _, h, _⟩ := h
    exact h.len
  · have nd := sc_is_whole.nd
    have hU := hr.units
    refine ⟨_, (pss_cons (ps_ret (pe_and (pg_call G_is_int hG (hr.mono (by decide)) rfl j_is_int F_is_int.kp b_is_int .nil pass0 (pa_cons (pv 0) pa_nil)) (pe_one (pe_chain op_le op_le (pv 1) (pv 0) (pv 2)))))
 pss_nil), ?_⟩
    refine def_F h (fun d => Nat.le_of_ble_eq_true rfl) (fun d h => ?_)
    obtain ⟨value_1, low_2, high_3⟩ := d
    replace h : m_is_whole_ok value_1 low_2 high_3 := h
    unfold m_is_whole_ok at h
    show SS _ [.fz (eI value_1), .fz (eI low_2), .fz (eI high_3)] (FP eB (m_is_whole value_1 low_2 high_3))
    obtain ⟨g1, h⟩ := h
    refine ss_retq (es_andV (es_call value_1 (as_cons (es_var 0 rfl) as_nil) g1) (fun hc10 => (es_chain (es_var 1 rfl) (es_var 0 rfl) q_le (fun hc => (es_var 2 rfl)) q_le))) ?_
    exact rfl
end
def m_is_whole__2 (value_1 : U) (low_2 : Int) (high_3 : Int) : Bool :=
(m_is_int__2 value_1) && ((decide (low_2 ≤ (U.unI value_1))) && (decide ((U.unI value_1) ≤ high_3)))
def m_is_whole__2_ok (value_1 : U) (low_2 : Int) (high_3 : Int) : Prop :=
(m_is_int__2_ok value_1) ∧ ((m_is_int__2 value_1) = true → U.ty value_1 = 1) ∧ True
def sp_is_whole__2 (K : PySem.W.Frag) (CT : Nat → Addr) : Sp := spF (ι := U × Int × Int) (fun d => [(eU (CT 18)) d.1, eI d.2.1, eI d.2.2]) (fun d => m_is_whole__2_ok d.1 d.2.1 d.2.2) (fun d => eB (m_is_whole__2 d.1 d.2.1 d.2.2))
abbrev s_is_whole__2 : Stmt := top 24
abbrev N_is_whole__2 : List Str := ["value", "low", "high"]
theorem sc_is_whole__2 : FnScope N_is_whole__2 ["value", "low", "high"] (defScope s_is_whole__2) := ⟨rfl, rfl, rfl, by decide +kernel, rfl, by decide +kernel, by decide +kernel⟩
section
variable {P : Program} {w : World} {K : PySem.W.Frag} {mg : Str → Option Value} {base : Heap} {CT : Nat → Addr}
theorem ok_is_whole__2 {f : Addr} {fd : FuncData} (F : Fun K "is_whole" "is_whole" s_is_whole__2 f fd) {a_is_int__2 : Addr} {fd_is_int__2 : FuncData} (F_is_int__2 : Fun K "is_int" "is_int" s_is_int__2 a_is_int__2 fd_is_int__2) (G_is_int__2 : FnG P w K mg base CX0 1 a_is_int__2 fd_is_int__2 ["value"] (sp_is_int__2 K CT)) (j_is_int__2 : mg "is_int" = some (.ref a_is_int__2)) (b_is_int__2 : Binds K fd_is_int__2 ["value"] []) : FnG P w K mg base CX0 2 f fd ["value", "low", "high"] (sp_is_whole__2 K CT) := by
  refine Fun.okG F sc_is_whole__2 (fun vs H Q E h => ?_) (fun cdv A outer s H vs Q E hG hr h => ?_)
  · obtain ⟨d, F, _, _, h, _⟩ := h
    exact h.len
  · have nd := sc_is_whole__2.nd
    have hU := hr.units
    refine ⟨_, (pss_cons (ps_ret (pe_and (pg_call G_is_int__2 hG (hr.mono (by decide)) rfl j_is_int__2 F_is_int__2.kp b_is_int__2 .nil pass0 (pa_cons (pv 0) pa_nil)) (pe_one (pe_chain op_le op_le (pv 1) (pv 0) (pv 2)))))
 pss_nil), ?_⟩
    refine def_F h (fun d => Nat.le_of_ble_eq_true rfl) (fun d h => ?_)
    obtain ⟨value_1, low_2, high_3⟩ := d
    replace h : m_is_whole__2_ok value_1 low_2 high_3 := h
    unfold m_is_whole__2_ok at h
    show SS _ [.fz ((eU (CT 18)) value_1), .fz (eI low_2), .fz (eI high_3)] (FP eB (m_is_whole__2 value_1 low_2 high_3))
    obtain ⟨g1, g2, h⟩ := h
    refine ss_retq (es_andV (es_call value_1 (as_cons (es_var 0 rfl) as_nil) g1) (fun hc10 => (es_chain (es_var 1 rfl) (es_unI (es_var 0 rfl) (g2 hc10)) q_le (fun hc => (es_var 2 rfl)) q_le))) ?_
    exact rfl
end
def m_is_span__2 (value_1 : U) (ahead_2 : Int) : Bool :=
if ((!(U.isT value_1 4)) || ((!decide (((U.els value_1).length : Int) = 2)) || (!(m_is_whole__2 (nth (U.els value_1) 0) ahead_2 (1000000000000000000000000000000 - 1))))) = true then (
false)
else (
m_is_whole__2 (nth (U.els value_1) 1) ((U.unI (nth (U.els value_1) 0)) + 1) 1000000000000000000000000000000)
def m_is_span__2_ok (value_1 : U) (ahead_2 : Int) : Prop :=
((!(U.isT value_1 4)) = false → U.ty value_1 = 4 ∨ U.ty value_1 = 5) ∧ ((!(U.isT value_1 4)) = false → (!decide (((U.els value_1).length : Int) = 2)) = false → U.ty value_1 = 4 ∧ 0 < (U.els value_1).length) ∧ ((!(U.isT value_1 4)) = false → (!decide (((U.els value_1).length : Int) = 2)) = false → m_is_whole__2_ok (nth (U.els value_1) 0) ahead_2 (1000000000000000000000000000000 - 1)) ∧ (((!(U.isT value_1 4)) || ((!decide (((U.els value_1).length : Int) = 2)) || (!(m_is_whole__2 (nth (U.els value_1) 0) ahead_2 (1000000000000000000000000000000 - 1))))) = true → (True)) ∧ (((!(U.isT value_1 4)) || ((!decide (((U.els value_1).length : Int) = 2)) || (!(m_is_whole__2 (nth (U.els value_1) 0) ahead_2 (1000000000000000000000000000000 - 1))))) = false → ((U.ty value_1 = 4 ∧ 1 < (U.els value_1).length) ∧ (U.ty value_1 = 4 ∧ 0 < (U.els value_1).length) ∧ (U.ty (nth (U.els value_1) 0) = 1) ∧ (m_is_whole__2_ok (nth (U.els value_1) 1) ((U.unI (nth (U.els value_1) 0)) + 1) 1000000000000000000000000000000) ∧ True))
def sp_is_span__2 (K : PySem.W.Frag) (CT : Nat → Addr) : Sp := spF (ι := U × Int) (fun d => [(eU (CT 18)) d.1, eI d.2]) (fun d => m_is_span__2_ok d.1 d.2) (fun d => eB (m_is_span__2 d.1 d.2))
abbrev s_is_span__2 : Stmt := top 25
abbrev N_is_span__2 : List Str := ["value", "ahead"]
theorem sc_is_span__2 : FnScope N_is_span__2 ["value", "ahead"] (defScope s_is_span__2) := ⟨rfl, rfl, rfl, by decide +kernel, rfl, by decide +kernel, by decide +kernel⟩
section
variable {P : Program} {w : World} {K : PySem.W.Frag} {mg : Str → Option Value} {base : Heap} {CT : Nat → Addr}
theorem ok_is_span__2 {f : Addr} {fd : FuncData} (F : Fun K "is_span" "is_span" s_is_span__2 f fd) {a_is_whole__2 : Addr} {fd_is_whole__2 : FuncData} (F_is_whole__2 : Fun K "is_whole" "is_whole" s_is_whole__2 a_is_whole__2 fd_is_whole__2) (G_is_whole__2 : FnG P w K mg base CX0 2 a_is_whole__2 fd_is_whole__2 ["value", "low", "high"] (sp_is_whole__2 K CT)) (j_is_whole__2 : mg "is_whole" = some (.ref a_is_whole__2)) (b_is_whole__2 : Binds K fd_is_whole__2 ["value", "low", "high"] []) (n_isinstance : mg "isinstance" = none) (n_len : mg "len" = none) (n_tuple : mg "tuple" = none) (c_MOST_KEY : ∃ t, mg "MOST_KEY" = some (.int 1000000000000000000000000000000 t)) (TY : TbTy K (CT 18)) : FnG P w K mg base CX0 3 f fd ["value", "ahead"] (sp_is_span__2 K CT) := by
  obtain ⟨t_MOST_KEY, c_MOST_KEY⟩ := c_MOST_KEY
  refine Fun.okG F sc_is_span__2 (fun vs H Q E h => ?_) (fun cdv A outer s H vs Q E hG hr h => ?_)
  · obtain ⟨d, F, _, _, h, _⟩ := h
    exact h.len
  · have nd := sc_is_span__2.nd
    have hU := hr.units
    refine ⟨_, (pss_cons (ps_if (PW.pt (pw_or (pt_not (pt_val (pe_callB call_isi rfl n_isinstance (by decide +kernel) (pa_cons (pv 0) (pa_cons (pe_bltn (v := .ty "tuple") rfl n_tuple (by decide +kernel) rfl) pa_nil))))) (pw_or (pt_cmpR op_ne (pe_callB (call_len_seqK (K := K) rfl) rfl n_len (by decide +kernel) (pa_cons (pv 0) pa_nil)) pe_int (nomark _)) (pw_or1 (pt_not (pt_val (pg_call G_is_whole__2 hG (hr.mono (by decide)) rfl j_is_whole__2 F_is_whole__2.kp b_is_whole__2 .nil pass0 (pa_cons (pe_ix (ix_tupK (K := K) rfl) (pv 0) pe_int (fun _ _ => rfl)) (pa_cons (pv 1) (pa_cons (pe_op op_sub (pe_glob (v := .int 1000000000000000000000000000000) rfl c_MOST_KEY ⟨_, rfl⟩) pe_int) pa_nil)))))))))) (pss_cons (ps_ret pe_bl)
 pss_nil) pss_nil)
 (pss_cons (ps_ret (pg_call G_is_whole__2 hG (hr.mono (by decide)) rfl j_is_whole__2 F_is_whole__2.kp b_is_whole__2 .nil pass0 (pa_cons (pe_ix (ix_tupK (K := K) rfl) (pv 0) pe_int (fun _ _ => rfl)) (pa_cons (pe_op op_add (pe_ix (ix_tupK (K := K) rfl) (pv 0) pe_int (fun _ _ => rfl)) pe_int) (pa_cons (pe_glob (v := .int 1000000000000000000000000000000) rfl c_MOST_KEY ⟨_, rfl⟩) pa_nil)))))
 pss_nil)), ?_⟩
    refine def_F h (fun d => Nat.le_of_ble_eq_true rfl) (fun d h => ?_)
    obtain ⟨value_1, ahead_2⟩ := d
    replace h : m_is_span__2_ok value_1 ahead_2 := h
    unfold m_is_span__2_ok at h
    show SS _ [.fz ((eU (CT 18)) value_1), .fz (eI ahead_2)] (FP eB (m_is_span__2 value_1 ahead_2))
    obtain ⟨g1, g2, g3, h⟩ := h
    obtain ⟨hA, hB⟩ := h
    refine ss_ifLv (FP eB) (et_or (et_not (et_val (es_isU (n := 4) TY (by decide) (es_var 0 rfl)))) (fun hc10 => (et_or (et_cmp (es_lenU (es_var 0 rfl) (g1 hc10)) es_c q_neI) (fun hc11 => (et_not (et_val (es_call (nth (U.els value_1) 0, ahead_2, 1000000000000000000000000000000 - 1) (as_cons (es_ixU (K := K) (k := 0) (es_var 0 rfl) (g2 hc10 hc11)) (as_cons (es_var 1 rfl) (as_cons (es_sub es_c es_c) as_nil))) (g3 hc10 hc11)))))))) (fun hc => ?_) (fun hc => ?_)
    · replace h := hA hc; clear hA hB
      refine ss_retq es_c ?_
      exact rfl
    · replace h := hB hc; clear hA hB
      refine ss_nxq ?_
      obtain ⟨g4, g5, g6, g7, h⟩ := h
      refine ss_retq (es_call (nth (U.els value_1) 1, (U.unI (nth (U.els value_1) 0)) + 1, 1000000000000000000000000000000) (as_cons (es_ixU (K := K) (k := 1) (es_var 0 rfl) g4) (as_cons (es_add (es_unI (es_ixU (K := K) (k := 0) (es_var 0 rfl) g5) g6) es_c) (as_cons es_c as_nil))) g7) ?_
      exact rfl
end
def m_require_spans_b1 (s_3 : Int) (x_4 : Int × U) : (Xc ⊕ (Unit)) ⊕ (Int) :=
if (!(m_is_span__2 x_4.2 s_3)) = true then (
.inl (.inl (⟨0, some (some x_4.1)⟩)))
else (
let ahead_5 := U.unI (nth (U.els x_4.2) 1)
.inr ahead_5)
def m_require_spans_o1 (s_3 : Int) (x_4 : Int × U) : Prop :=
(m_is_span__2_ok x_4.2 s_3) ∧ ((!(m_is_span__2 x_4.2 s_3)) = true → (True)) ∧ ((!(m_is_span__2 x_4.2 s_3)) = false → ((U.ty x_4.2 = 4 ∧ 1 < (U.els x_4.2).length) ∧ (U.ty (nth (U.els x_4.2) 1) = 1) ∧ (∀ ahead_5, ahead_5 = (U.unI (nth (U.els x_4.2) 1)) → True)))
def m_require_spans_r1 (s_3 : Int) : Xc ⊕ (Unit) :=
.inr ()
def m_require_spans_q1 (s_3 : Int) : Prop :=
True
def m_require_spans_t2 (spans_1 : U) (ahead_2 : Int) : Xc ⊕ (Unit) :=
sumC id (m_require_spans_r1) (loopR (m_require_spans_b1) ahead_2 (enumI (U.unL spans_1)))
def m_require_spans_u2 (spans_1 : U) (ahead_2 : Int) : Prop :=
(U.ty spans_1 = 5) ∧ (okR (m_require_spans_o1) (m_require_spans_b1) ahead_2 (enumI (U.unL spans_1))) ∧ (∀ s_3, loopR (m_require_spans_b1) ahead_2 (enumI (U.unL spans_1)) = .inr s_3 → m_require_spans_q1 s_3)
def m_require_spans (spans_1 : U) : Xc ⊕ (Unit) :=
if ((!(U.isT spans_1 5)) || (decide (12 < ((U.els spans_1).length : Int)))) = true then (
.inl (⟨0, some (none : Option Int)⟩))
else (
let ahead_2 := (0 : Int)
m_require_spans_t2 spans_1 ahead_2)
def m_require_spans_ok (spans_1 : U) : Prop :=
((!(U.isT spans_1 5)) = false → U.ty spans_1 = 4 ∨ U.ty spans_1 = 5) ∧ (((!(U.isT spans_1 5)) || (decide (12 < ((U.els spans_1).length : Int)))) = true → (True)) ∧ (((!(U.isT spans_1 5)) || (decide (12 < ((U.els spans_1).length : Int)))) = false → ((∀ ahead_2, ahead_2 = (0 : Int) → m_require_spans_u2 spans_1 ahead_2)))
def sp_require_spans (K : PySem.W.Frag) (CT : Nat → Addr) : Sp := spX (ι := U) CT (fun d => [(eU (CT 18)) d]) (fun d => m_require_spans_ok d) (fun d => m_require_spans d) (fun d => eN)
abbrev s_require_spans : Stmt := top 26
abbrev N_require_spans : List Str := ["spans", "ahead", "item", "span"]
theorem sc_require_spans : FnScope N_require_spans ["spans"] (defScope s_require_spans) := ⟨rfl, rfl, rfl, by decide +kernel, rfl, by decide +kernel, by decide +kernel⟩
section
variable {P : Program} {w : World} {K : PySem.W.Frag} {mg : Str → Option Value} {base : Heap} {CT : Nat → Addr}
theorem ok_require_spans {f : Addr} {fd : FuncData} (F : Fun K "require_spans" "require_spans" s_require_spans f fd) {a_is_span__2 : Addr} {fd_is_span__2 : FuncData} (F_is_span__2 : Fun K "is_span" "is_span" s_is_span__2 a_is_span__2 fd_is_span__2) (G_is_span__2 : FnG P w K mg base CX0 3 a_is_span__2 fd_is_span__2 ["value", "ahead"] (sp_is_span__2 K CT)) (j_is_span__2 : mg "is_span" = some (.ref a_is_span__2)) (b_is_span__2 : Binds K fd_is_span__2 ["value", "ahead"] []) (n_enumerate : mg "enumerate" = none) (n_isinstance : mg "isinstance" = none) (n_len : mg "len" = none) (n_list : mg "list" = none) (c_MOST_SPANS : ∃ t, mg "MOST_SPANS" = some (.int 12 t)) (TY : TbTy K (CT 18)) {fI0 : Addr} {fD0 : FuncData} {fP0 : Str} (XD0 : XDs P w K mg base CT 0 fI0 fD0 fP0) (xg0 : mg "InvalidSpans" = some (.ref (CT 0))) : FnG P w K mg base (L2.CX P w) 4 f fd ["spans"] (sp_require_spans K CT) := by
  obtain ⟨t_MOST_SPANS, c_MOST_SPANS⟩ := c_MOST_SPANS
  refine Fw.Fun.okGX F sc_require_spans (fun vs H Q E h => ?_) (fun cdv A outer s H vs Q E hG hr h => ?_)
  · obtain ⟨d, F, _, _, h, _⟩ := h
    exact h.len
  · have nd := sc_require_spans.nd
    have hU := hr.units
    refine ⟨_, (pss_cons (ps_if (PW.pt (pw_or (pt_not (pt_val (pe_callB call_isi rfl n_isinstance (by decide +kernel) (pa_cons (pv 0) (pa_cons (pe_bltn (v := .ty "list") rfl n_list (by decide +kernel) rfl) pa_nil))))) (pw_or1 (pt_cmpR op_gt (pe_callB (call_len_seqK (K := K) rfl) rfl n_len (by decide +kernel) (pa_cons (pv 0) pa_nil)) (pe_glob (v := .int 12) rfl c_MOST_SPANS ⟨_, rfl⟩) (nomark _))))) (pss_cons (ps_raise rfl (takes_of rfl rfl rfl rfl) (pmk_oex XD0.T XD0.iC XD0.tI XD0.F (hr.mono (by decide)) XD0.hb .nil pass0 rfl xg0 (pa_cons pe_non pa_nil)))
 pss_nil) pss_nil)
 (pss_cons (ps_set (i := 1) nd rfl (by first | exact .inl rfl | exact .inr rfl) pe_int)
 (pss_cons (ps_for (passes_of rfl) rfl (pi_enum rfl n_enumerate (pa_cons (pv 0) pa_nil)) (pg_tup rfl (pgs_cons (pg_name (i := 2) nd rfl (by first | exact .inl rfl | exact .inr rfl)) (pgs_cons (pg_name (i := 3) nd rfl (by first | exact .inl rfl | exact .inr rfl)) pgs_nil))) (pss_cons (ps_if (pt_not (pt_val (pg_call G_is_span__2 hG (hr.mono (by decide)) rfl j_is_span__2 F_is_span__2.kp b_is_span__2 .nil pass0 (pa_cons (pv 3) (pa_cons (pv 1) pa_nil))))) (pss_cons (ps_raise rfl (takes_of rfl rfl rfl rfl) (pmk_oex XD0.T XD0.iC XD0.tI XD0.F (hr.mono (by decide)) XD0.hb .nil pass0 rfl xg0 (pa_cons (pv 2) pa_nil)))
 pss_nil) pss_nil)
 (pss_cons (ps_set (i := 1) nd rfl (by first | exact .inl rfl | exact .inr rfl) (pe_ix (ix_tupK (K := K) rfl) (pv 3) pe_int (fun _ _ => rfl)))
 pss_nil)))
 pss_nil))), ?_⟩
    refine def_X h (fun d => Nat.le_of_ble_eq_true rfl) (fun spans_1 h A hE => ?_)
    replace h : m_require_spans_ok spans_1 := h
    unfold m_require_spans_ok at h
    replace hE : ∀ y, m_require_spans spans_1 = .inl y → HE CT A E y := hE
    show SS _ [.fz (eAt A ((eU (CT 18)) spans_1)), .no, .no, .no] (FPX (fun _ : Unit => eN) (m_require_spans spans_1))
    obtain ⟨g1, h⟩ := h
    obtain ⟨hA, hB⟩ := h
    refine ss_ifLv (FPX (fun _ : Unit => eN)) (et_or (et_not (et_val (es_isU (n := 5) TY (by decide) (es_at (es_var 0 rfl))))) (fun hc10 => (et_cmp (es_lenU (es_at (es_var 0 rfl)) (g1 hc10)) es_c q_gt))) (fun hc => ?_) (fun hc => ?_)
    · replace h := hA hc; clear hA hB; replace hE := HEt hc hE
      exact ss_raiseD (A := A) (ad := CT) (i := 0) (c := 0) (o := (none : Option Int)) rfl es_c (hE _ rfl)
    · replace h := hB hc; clear hA hB; replace hE := HEf hc hE
      refine ss_nxq ?_
      refine ss_seq1 (0 : Int) (fun ahead_2 => [.fz (eAt A ((eU (CT 18)) spans_1)), .fz (eI ahead_2), .no, .no]) (ss_set es_c Wk.refl) (fun ahead_2 e_ahead_2 => ?_)
      replace h := h ahead_2 e_ahead_2
      replace hE : ∀ y, m_require_spans_t2 spans_1 ahead_2 = Sum.inl y → HE CT A E y := fun y e => hE y (Eq.trans (by replace e_ahead_2 := Eq.symm e_ahead_2; subst e_ahead_2; rfl) e)
      refine ss_cut (FPX (fun _ : Unit => eN)) (v' := m_require_spans_t2 spans_1 ahead_2) (by replace e_ahead_2 := Eq.symm e_ahead_2; subst e_ahead_2; rfl) ?_
      clear e_ahead_2
      unfold m_require_spans_u2 at h
      obtain ⟨g2, g6, h⟩ := h
      refine sf_SRX (e := (eP2 K eI (eU (CT 18)))) (l := (enumI (U.unL spans_1))) (fun (s_3 : Int) => [.fz (eAt A ((eU (CT 18)) spans_1)), .fz (eI s_3), .no, .no]) (m_require_spans_b1) (m_require_spans_o1) ahead_2 (FPX (fun _ : Unit => eN)) id (m_require_spans_r1) (c := Sum.inl) (G := HE CT A E) hE (is_enum (e := (eU (CT 18))) (es_unL (es_at (es_var 0 rfl)) g2)) Wk.refl g6 (fun s_3 x_4 _ h hE => ⟨[.fz (eAt A ((eU (CT 18)) spans_1)), .fz (eI s_3), .fz (eI x_4.1), .fz ((eU (CT 18)) x_4.2)], _, gs_tup (gs_cons (gs_name 2) (gs_cons (gs_name 3) gs_nil)), ?_⟩) (fun s_3 e_s_3 hE => ?_)
      · unfold m_require_spans_o1 at h
        replace hE : ∀ y, m_require_spans_b1 s_3 x_4 = (fun y => Sum.inl (Sum.inl y)) y → HE CT A E y := fun y e => hE y _ e rfl
        obtain ⟨g3, h⟩ := h
        obtain ⟨hA, hB⟩ := h
        refine ss_ifLv (LQ (fun (s_3 : Int) => [.fz (eAt A ((eU (CT 18)) spans_1)), .fz (eI s_3), .no, .no]) (FPX (fun _ : Unit => eN)) id) (et_not (et_val (es_call (x_4.2, s_3) (as_cons (es_var 3 rfl) (as_cons (es_var 1 rfl) as_nil)) g3))) (fun hc => ?_) (fun hc => ?_)
        · replace h := hA hc; clear hA hB; replace hE := HEt hc hE
          exact ss_raiseD (A := A) (ad := CT) (i := 0) (c := 0) (o := some x_4.1) rfl (es_var 2 rfl) (hE _ rfl)
        · replace h := hB hc; clear hA hB; replace hE := HEf hc hE
          refine ss_nxq ?_
          obtain ⟨g4, g5, h⟩ := h
          refine ss_seq1 (U.unI (nth (U.els x_4.2) 1)) (fun ahead_5 => [.fz (eAt A ((eU (CT 18)) spans_1)), .fz (eI ahead_5), .fz (eI x_4.1), .fz ((eU (CT 18)) x_4.2)]) (ss_set (es_unI (es_ixU (K := K) (k := 1) (es_var 3 rfl) g4) g5) Wk.refl) (fun ahead_5 e_ahead_5 => ?_)
          replace h := h ahead_5 e_ahead_5
          replace e_ahead_5 := Eq.symm e_ahead_5; subst e_ahead_5
          exact ss_nx ⟨.inr rfl, ⟨.inr rfl, ⟨.inl ⟨rfl, rfl⟩, ⟨.inl ⟨rfl, rfl⟩, trivial⟩⟩⟩⟩
      · replace h := h s_3 e_s_3; unfold m_require_spans_q1 at h
        exact ss_nx ⟨_, rfl, rfl⟩
end
def m_require_key (value_1 : U) : Xc ⊕ (Unit) :=
if (!(m_is_whole__2 value_1 0 (1000000000000000000000000000000 - 1))) = true then (
.inl (⟨8, none⟩))
else (
.inr ())
def m_require_key_ok (value_1 : U) : Prop :=
(m_is_whole__2_ok value_1 0 (1000000000000000000000000000000 - 1)) ∧ ((!(m_is_whole__2 value_1 0 (1000000000000000000000000000000 - 1))) = true → (True)) ∧ ((!(m_is_whole__2 value_1 0 (1000000000000000000000000000000 - 1))) = false → (True))
def sp_require_key (K : PySem.W.Frag) (CT : Nat → Addr) : Sp := spX (ι := U) CT (fun d => [(eU (CT 18)) d]) (fun d => m_require_key_ok d) (fun d => m_require_key d) (fun d => eN)
abbrev s_require_key : Stmt := top 27
abbrev N_require_key : List Str := ["value"]
theorem sc_require_key : FnScope N_require_key ["value"] (defScope s_require_key) := ⟨rfl, rfl, rfl, by decide +kernel, rfl, by decide +kernel, by decide +kernel⟩
section
variable {P : Program} {w : World} {K : PySem.W.Frag} {mg : Str → Option Value} {base : Heap} {CT : Nat → Addr}
theorem ok_require_key {f : Addr} {fd : FuncData} (F : Fun K "require_key" "require_key" s_require_key f fd) {a_is_whole__2 : Addr} {fd_is_whole__2 : FuncData} (F_is_whole__2 : Fun K "is_whole" "is_whole" s_is_whole__2 a_is_whole__2 fd_is_whole__2) (G_is_whole__2 : FnG P w K mg base CX0 2 a_is_whole__2 fd_is_whole__2 ["value", "low", "high"] (sp_is_whole__2 K CT)) (j_is_whole__2 : mg "is_whole" = some (.ref a_is_whole__2)) (b_is_whole__2 : Binds K fd_is_whole__2 ["value", "low", "high"] []) (c_MOST_KEY : ∃ t, mg "MOST_KEY" = some (.int 1000000000000000000000000000000 t)) (xb8 : PySem.W.subIn K (.ref (CT 8)) (.type "BaseException") = some true ∧ PySem.W.typeIn K (.ref (CT 8)) = some (.type "type")) (xg8 : mg "InvalidKey" = some (.ref (CT 8))) (xn8 : PySem.W.excIn K (CT 8) [.type "ValueError", .type "Exception", .type "BaseException", .type "object"] "ValueError.__new__" = true ∧ PySem.W.keepIn K (.ref (CT 8)) = true) : FnG P w K mg base (L2.CX P w) 3 f fd ["value"] (sp_require_key K CT) := by
  obtain ⟨t_MOST_KEY, c_MOST_KEY⟩ := c_MOST_KEY
  refine Fw.Fun.okGX F sc_require_key (fun vs H Q E h => ?_) (fun cdv A outer s H vs Q E hG hr h => ?_)
  · obtain ⟨d, F, _, _, h, _⟩ := h
    exact h.len
  · have nd := sc_require_key.nd
    have hU := hr.units
    refine ⟨_, (pss_cons (ps_if (pt_not (pt_val (pg_call G_is_whole__2 hG (hr.mono (by decide)) rfl j_is_whole__2 F_is_whole__2.kp b_is_whole__2 .nil pass0 (pa_cons (pv 0) (pa_cons pe_int (pa_cons (pe_op op_sub (pe_glob (v := .int 1000000000000000000000000000000) rfl c_MOST_KEY ⟨_, rfl⟩) pe_int) pa_nil)))))) (pss_cons (ps_raise rfl (takes_of rfl rfl rfl rfl) (pmk_own PySem.F.excBase_ValueError xn8.1 xg8 xn8.2 (raises_own xb8.1 xb8.2) rfl))
 pss_nil) pss_nil)
 pss_nil), ?_⟩
    refine def_X h (fun d => Nat.le_of_ble_eq_true rfl) (fun value_1 h A hE => ?_)
    replace h : m_require_key_ok value_1 := h
    unfold m_require_key_ok at h
    replace hE : ∀ y, m_require_key value_1 = .inl y → HE CT A E y := hE
    show SS _ [.fz (eAt A ((eU (CT 18)) value_1))] (FPX (fun _ : Unit => eN) (m_require_key value_1))
    obtain ⟨g1, h⟩ := h
    obtain ⟨hA, hB⟩ := h
    refine ss_ifLv (FPX (fun _ : Unit => eN)) (et_not (et_val (es_call (value_1, 0, 1000000000000000000000000000000 - 1) (as_cons (es_at (es_var 0 rfl)) (as_cons es_c (as_cons (es_sub es_c es_c) as_nil))) g1))) (fun hc => ?_) (fun hc => ?_)
    · replace h := hA hc; clear hA hB; replace hE := HEt hc hE
      exact ss_raiseN (A := A) (ad := CT) (i := 0) (c := 8) rfl (hE _ rfl)
    · replace h := hB hc; clear hA hB; replace hE := HEf hc hE
      refine ss_nxq ?_
      exact ss_nx ⟨_, rfl, rfl⟩
end
def m_require_depth (value_1 : U) : Xc ⊕ (Unit) :=
if (!(m_is_whole__2 value_1 0 100)) = true then (
.inl (⟨9, none⟩))
else (
.inr ())
def m_require_depth_ok (value_1 : U) : Prop :=
(m_is_whole__2_ok value_1 0 100) ∧ ((!(m_is_whole__2 value_1 0 100)) = true → (True)) ∧ ((!(m_is_whole__2 value_1 0 100)) = false → (True))
def sp_require_depth (K : PySem.W.Frag) (CT : Nat → Addr) : Sp := spX (ι := U) CT (fun d => [(eU (CT 18)) d]) (fun d => m_require_depth_ok d) (fun d => m_require_depth d) (fun d => eN)
abbrev s_require_depth : Stmt := top 28
abbrev N_require_depth : List Str := ["value"]
theorem sc_require_depth : FnScope N_require_depth ["value"] (defScope s_require_depth) := ⟨rfl, rfl, rfl, by decide +kernel, rfl, by decide +kernel, by decide +kernel⟩
section
variable {P : Program} {w : World} {K : PySem.W.Frag} {mg : Str → Option Value} {base : Heap} {CT : Nat → Addr}
theorem ok_require_depth {f : Addr} {fd : FuncData} (F : Fun K "require_depth" "require_depth" s_require_depth f fd) {a_is_whole__2 : Addr} {fd_is_whole__2 : FuncData} (F_is_whole__2 : Fun K "is_whole" "is_whole" s_is_whole__2 a_is_whole__2 fd_is_whole__2) (G_is_whole__2 : FnG P w K mg base CX0 2 a_is_whole__2 fd_is_whole__2 ["value", "low", "high"] (sp_is_whole__2 K CT)) (j_is_whole__2 : mg "is_whole" = some (.ref a_is_whole__2)) (b_is_whole__2 : Binds K fd_is_whole__2 ["value", "low", "high"] []) (c_MOST_DEPTH : ∃ t, mg "MOST_DEPTH" = some (.int 100 t)) (xb9 : PySem.W.subIn K (.ref (CT 9)) (.type "BaseException") = some true ∧ PySem.W.typeIn K (.ref (CT 9)) = some (.type "type")) (xg9 : mg "InvalidDepth" = some (.ref (CT 9))) (xn9 : PySem.W.excIn K (CT 9) [.type "ValueError", .type "Exception", .type "BaseException", .type "object"] "ValueError.__new__" = true ∧ PySem.W.keepIn K (.ref (CT 9)) = true) : FnG P w K mg base (L2.CX P w) 3 f fd ["value"] (sp_require_depth K CT) := by
  obtain ⟨t_MOST_DEPTH, c_MOST_DEPTH⟩ := c_MOST_DEPTH
  refine Fw.Fun.okGX F sc_require_depth (fun vs H Q E h => ?_) (fun cdv A outer s H vs Q E hG hr h => ?_)
  · obtain ⟨d, F, _, _, h, _⟩ := h
    exact h.len
  · have nd := sc_require_depth.nd
    have hU := hr.units
    refine ⟨_, (pss_cons (ps_if (pt_not (pt_val (pg_call G_is_whole__2 hG (hr.mono (by decide)) rfl j_is_whole__2 F_is_whole__2.kp b_is_whole__2 .nil pass0 (pa_cons (pv 0) (pa_cons pe_int (pa_cons (pe_glob (v := .int 100) rfl c_MOST_DEPTH ⟨_, rfl⟩) pa_nil)))))) (pss_cons (ps_raise rfl (takes_of rfl rfl rfl rfl) (pmk_own PySem.F.excBase_ValueError xn9.1 xg9 xn9.2 (raises_own xb9.1 xb9.2) rfl))
 pss_nil) pss_nil)
 pss_nil), ?_⟩
    refine def_X h (fun d => Nat.le_of_ble_eq_true rfl) (fun value_1 h A hE => ?_)
    replace h : m_require_depth_ok value_1 := h
    unfold m_require_depth_ok at h
    replace hE : ∀ y, m_require_depth value_1 = .inl y → HE CT A E y := hE
    show SS _ [.fz (eAt A ((eU (CT 18)) value_1))] (FPX (fun _ : Unit => eN) (m_require_depth value_1))
    obtain ⟨g1, h⟩ := h
    obtain ⟨hA, hB⟩ := h
    refine ss_ifLv (FPX (fun _ : Unit => eN)) (et_not (et_val (es_call (value_1, 0, 100) (as_cons (es_at (es_var 0 rfl)) (as_cons es_c (as_cons es_c as_nil))) g1))) (fun hc => ?_) (fun hc => ?_)
    · replace h := hA hc; clear hA hB; replace hE := HEt hc hE
      exact ss_raiseN (A := A) (ad := CT) (i := 0) (c := 9) rfl (hE _ rfl)
    · replace h := hB hc; clear hA hB; replace hE := HEf hc hE
      refine ss_nxq ?_
      exact ss_nx ⟨_, rfl, rfl⟩
end
def m_require_tail (depth_1 : Int) (value_2 : U) : Xc ⊕ (Unit) :=
if (!(m_is_whole__2 value_2 0 ((1 * 2 ^ depth_1.toNat) - 1))) = true then (
.inl (⟨10, none⟩))
else (
.inr ())
def m_require_tail_ok (depth_1 : Int) (value_2 : U) : Prop :=
(0 ≤ depth_1 ∧ depth_1 ≤ 1000000) ∧ (m_is_whole__2_ok value_2 0 ((1 * 2 ^ depth_1.toNat) - 1)) ∧ ((!(m_is_whole__2 value_2 0 ((1 * 2 ^ depth_1.toNat) - 1))) = true → (True)) ∧ ((!(m_is_whole__2 value_2 0 ((1 * 2 ^ depth_1.toNat) - 1))) = false → (True))
def sp_require_tail (K : PySem.W.Frag) (CT : Nat → Addr) : Sp := spX (ι := Int × U) CT (fun d => [eI d.1, (eU (CT 18)) d.2]) (fun d => m_require_tail_ok d.1 d.2) (fun d => m_require_tail d.1 d.2) (fun d => eN)
abbrev s_require_tail : Stmt := top 29
abbrev N_require_tail : List Str := ["depth", "value"]
theorem sc_require_tail : FnScope N_require_tail ["depth", "value"] (defScope s_require_tail) := ⟨rfl, rfl, rfl, by decide +kernel, rfl, by decide +kernel, by decide +kernel⟩
section
variable {P : Program} {w : World} {K : PySem.W.Frag} {mg : Str → Option Value} {base : Heap} {CT : Nat → Addr}
theorem ok_require_tail {f : Addr} {fd : FuncData} (F : Fun K "require_tail" "require_tail" s_require_tail f fd) {a_is_whole__2 : Addr} {fd_is_whole__2 : FuncData} (F_is_whole__2 : Fun K "is_whole" "is_whole" s_is_whole__2 a_is_whole__2 fd_is_whole__2) (G_is_whole__2 : FnG P w K mg base CX0 2 a_is_whole__2 fd_is_whole__2 ["value", "low", "high"] (sp_is_whole__2 K CT)) (j_is_whole__2 : mg "is_whole" = some (.ref a_is_whole__2)) (b_is_whole__2 : Binds K fd_is_whole__2 ["value", "low", "high"] []) (xb10 : PySem.W.subIn K (.ref (CT 10)) (.type "BaseException") = some true ∧ PySem.W.typeIn K (.ref (CT 10)) = some (.type "type")) (xg10 : mg "InvalidTail" = some (.ref (CT 10))) (xn10 : PySem.W.excIn K (CT 10) [.type "ValueError", .type "Exception", .type "BaseException", .type "object"] "ValueError.__new__" = true ∧ PySem.W.keepIn K (.ref (CT 10)) = true) : FnG P w K mg base (L2.CX P w) 3 f fd ["depth", "value"] (sp_require_tail K CT) := by
  refine Fw.Fun.okGX F sc_require_tail (fun vs H Q E h => ?_) (fun cdv A outer s H vs Q E hG hr h => ?_)
  · obtain ⟨d, F, _, _, h, _⟩ := h
    exact h.len
  · have nd := sc_require_tail.nd
    have hU := hr.units
    refine ⟨_, (pss_cons (ps_if (pt_not (pt_val (pg_call G_is_whole__2 hG (hr.mono (by decide)) rfl j_is_whole__2 F_is_whole__2.kp b_is_whole__2 .nil pass0 (pa_cons (pv 1) (pa_cons pe_int (pa_cons (pe_op op_sub (pe_op op_shl pe_int (pv 0)) pe_int) pa_nil)))))) (pss_cons (ps_raise rfl (takes_of rfl rfl rfl rfl) (pmk_own PySem.F.excBase_ValueError xn10.1 xg10 xn10.2 (raises_own xb10.1 xb10.2) rfl))
 pss_nil) pss_nil)
 pss_nil), ?_⟩
    refine def_X h (fun d => Nat.le_of_ble_eq_true rfl) (fun d h A hE => ?_)
    obtain ⟨depth_1, value_2⟩ := d
    replace h : m_require_tail_ok depth_1 value_2 := h
    unfold m_require_tail_ok at h
    replace hE : ∀ y, m_require_tail depth_1 value_2 = .inl y → HE CT A E y := hE
    show SS _ [.fz (eAt A (eI depth_1)), .fz (eAt A ((eU (CT 18)) value_2))] (FPX (fun _ : Unit => eN) (m_require_tail depth_1 value_2))
    obtain ⟨g1, g2, h⟩ := h
    obtain ⟨hA, hB⟩ := h
    refine ss_ifLv (FPX (fun _ : Unit => eN)) (et_not (et_val (es_call (value_2, 0, (1 * 2 ^ depth_1.toNat) - 1) (as_cons (es_at (es_var 1 rfl)) (as_cons es_c (as_cons (es_sub (es_shlL (i := 1) es_c (es_at (es_var 0 rfl)) g1 (by decide)) es_c) as_nil))) g2))) (fun hc => ?_) (fun hc => ?_)
    · replace h := hA hc; clear hA hB; replace hE := HEt hc hE
      exact ss_raiseN (A := A) (ad := CT) (i := 0) (c := 10) rfl (hE _ rfl)
    · replace h := hB hc; clear hA hB; replace hE := HEf hc hE
      refine ss_nxq ?_
      exact ss_nx ⟨_, rfl, rfl⟩
end
def m_require_number (value_1 : U) : Xc ⊕ (Unit) :=
if ((!(m_is_int__2 value_1)) || (decide ((U.unI value_1) < 0))) = true then (
.inl (⟨12, none⟩))
else (
.inr ())
def m_require_number_ok (value_1 : U) : Prop :=
(m_is_int__2_ok value_1) ∧ ((!(m_is_int__2 value_1)) = false → U.ty value_1 = 1) ∧ (((!(m_is_int__2 value_1)) || (decide ((U.unI value_1) < 0))) = true → (True)) ∧ (((!(m_is_int__2 value_1)) || (decide ((U.unI value_1) < 0))) = false → (True))
def sp_require_number (K : PySem.W.Frag) (CT : Nat → Addr) : Sp := spX (ι := U) CT (fun d => [(eU (CT 18)) d]) (fun d => m_require_number_ok d) (fun d => m_require_number d) (fun d => eN)
abbrev s_require_number : Stmt := top 30
abbrev N_require_number : List Str := ["value"]
theorem sc_require_number : FnScope N_require_number ["value"] (defScope s_require_number) := ⟨rfl, rfl, rfl, by decide +kernel, rfl, by decide +kernel, by decide +kernel⟩
section
variable {P : Program} {w : World} {K : PySem.W.Frag} {mg : Str → Option Value} {base : Heap} {CT : Nat → Addr}
theorem ok_require_number {f : Addr} {fd : FuncData} (F : Fun K "require_number" "require_number" s_require_number f fd) {a_is_int__2 : Addr} {fd_is_int__2 : FuncData} (F_is_int__2 : Fun K "is_int" "is_int" s_is_int__2 a_is_int__2 fd_is_int__2) (G_is_int__2 : FnG P w K mg base CX0 1 a_is_int__2 fd_is_int__2 ["value"] (sp_is_int__2 K CT)) (j_is_int__2 : mg "is_int" = some (.ref a_is_int__2)) (b_is_int__2 : Binds K fd_is_int__2 ["value"] []) (xb12 : PySem.W.subIn K (.ref (CT 12)) (.type "BaseException") = some true ∧ PySem.W.typeIn K (.ref (CT 12)) = some (.type "type")) (xg12 : mg "InvalidNumber" = some (.ref (CT 12))) (xn12 : PySem.W.excIn K (CT 12) [.type "ValueError", .type "Exception", .type "BaseException", .type "object"] "ValueError.__new__" = true ∧ PySem.W.keepIn K (.ref (CT 12)) = true) : FnG P w K mg base (L2.CX P w) 2 f fd ["value"] (sp_require_number K CT) := by
  refine Fw.Fun.okGX F sc_require_number (fun vs H Q E h => ?_) (fun cdv A outer s H vs Q E hG hr h => ?_)
  · obtain ⟨d, F, _, _, h, _⟩ := h
    exact h.len
  · have nd := sc_require_number.nd
    have hU := hr.units
    refine ⟨_, (pss_cons (ps_if (PW.pt (pw_or (pt_not (pt_val (pg_call G_is_int__2 hG (hr.mono (by decide)) rfl j_is_int__2 F_is_int__2.kp b_is_int__2 .nil pass0 (pa_cons (pv 0) pa_nil)))) (pw_or1 (pt_cmpR op_lt (pv 0) pe_int (nomark _))))) (pss_cons (ps_raise rfl (takes_of rfl rfl rfl rfl) (pmk_own PySem.F.excBase_ValueError xn12.1 xg12 xn12.2 (raises_own xb12.1 xb12.2) rfl))
 pss_nil) pss_nil)
 pss_nil), ?_⟩
    refine def_X h (fun d => Nat.le_of_ble_eq_true rfl) (fun value_1 h A hE => ?_)
    replace h : m_require_number_ok value_1 := h
    unfold m_require_number_ok at h
    replace hE : ∀ y, m_require_number value_1 = .inl y → HE CT A E y := hE
    show SS _ [.fz (eAt A ((eU (CT 18)) value_1))] (FPX (fun _ : Unit => eN) (m_require_number value_1))
    obtain ⟨g1, g2, h⟩ := h
    obtain ⟨hA, hB⟩ := h
    refine ss_ifLv (FPX (fun _ : Unit => eN)) (et_or (et_not (et_val (es_call value_1 (as_cons (es_at (es_var 0 rfl)) as_nil) g1))) (fun hc10 => (et_cmp (es_unI (es_at (es_var 0 rfl)) (g2 hc10)) es_c q_lt))) (fun hc => ?_) (fun hc => ?_)
    · replace h := hA hc; clear hA hB; replace hE := HEt hc hE
      exact ss_raiseN (A := A) (ad := CT) (i := 0) (c := 12) rfl (hE _ rfl)
    · replace h := hB hc; clear hA hB; replace hE := HEf hc hE
      refine ss_nxq ?_
      exact ss_nx ⟨_, rfl, rfl⟩
end
def m_Table___init___ok (capacity_2 : Int) (rate_3 : Int) (shift_4 : Int) : Prop :=
(m_is_whole_ok capacity_2 1 1000000000000000000000000000000) ∧ (!(m_is_whole capacity_2 1 1000000000000000000000000000000)) = false ∧ ((m_is_whole_ok rate_3 1 1000000000000000000000000000000) ∧ ((!(m_is_whole rate_3 1 1000000000000000000000000000000)) || (decide ((Builtin.bitAnd rate_3 1) = 0))) = false ∧ ((m_is_whole_ok shift_4 0 1000000000000000000000000000000) ∧ (!(m_is_whole shift_4 0 1000000000000000000000000000000)) = false ∧ ((((True))))))
def sp_Table___init__ (K : PySem.W.Frag) (CT : Nat → Addr) : Sp := spI (ι := Int × Int × Int) (CT 18) (fun d => [eI d.1, eI d.2.1, eI d.2.2]) (fun d => m_Table___init___ok d.1 d.2.1 d.2.2) (fun d => [("own_capacity", eI d.1), ("own_rate", eI d.2.1), ("own_shift", eI d.2.2)])
abbrev s_Table___init__ : Stmt := inClass (top 32) 0
abbrev N_Table___init__ : List Str := ["self", "capacity", "rate", "shift"]
theorem sc_Table___init__ : FnScope N_Table___init__ ["self", "capacity", "rate", "shift"] (defScope s_Table___init__) := ⟨rfl, rfl, rfl, by decide +kernel, rfl, by decide +kernel, by decide +kernel⟩
section
variable {P : Program} {w : World} {K : PySem.W.Frag} {mg : Str → Option Value} {base : Heap} {CT : Nat → Addr}
theorem ok_Table___init__ {f : Addr} {fd : FuncData} (F : Fun K "__init__" "Table.__init__" s_Table___init__ f fd) {a_is_whole : Addr} {fd_is_whole : FuncData} (F_is_whole : Fun K "is_whole" "is_whole" s_is_whole a_is_whole fd_is_whole) (G_is_whole : FnG P w K mg base CX0 2 a_is_whole fd_is_whole ["value", "low", "high"] (sp_is_whole K CT)) (j_is_whole : mg "is_whole" = some (.ref a_is_whole)) (b_is_whole : Binds K fd_is_whole ["value", "low", "high"] []) (c_MOST_KEY : ∃ t, mg "MOST_KEY" = some (.int 1000000000000000000000000000000 t)) (TT : TblTxt K mg (CT 18)) : FnG P w K mg base CX0 3 f fd ["self", "capacity", "rate", "shift"] (sp_Table___init__ K CT) := by
  obtain ⟨t_MOST_KEY, c_MOST_KEY⟩ := c_MOST_KEY
  obtain ⟨clT, na_own_capacity, na_own_rate, na_own_shift, mgT, isT, xaT, xbT, xcT, xdT⟩ := TT
  refine Fun.okG F sc_Table___init__ (fun vs H Q E h => ?_) (fun cdv A outer s H vs Q E hG hr h => ?_)
  · obtain ⟨d, F, p, dx, ws, rfl, _, _, _, _, h, _⟩ := h
    exact congrArg (· + 1) h.len
  · have nd := sc_Table___init__.nd
    have hU := hr.units
    refine ⟨_, (pss_cons (ps_if (pt_not (pt_val (pg_call G_is_whole hG (hr.mono (by decide)) rfl j_is_whole F_is_whole.kp b_is_whole .nil pass0 (pa_cons (pv 1) (pa_cons pe_int (pa_cons (pe_glob (v := .int 1000000000000000000000000000000) rfl c_MOST_KEY ⟨_, rfl⟩) pa_nil)))))) (pss_one ps_never) pss_nil)
 (pss_cons (ps_if (PW.pt (pw_or (pt_not (pt_val (pg_call G_is_whole hG (hr.mono (by decide)) rfl j_is_whole F_is_whole.kp b_is_whole .nil pass0 (pa_cons (pv 2) (pa_cons pe_int (pa_cons (pe_glob (v := .int 1000000000000000000000000000000) rfl c_MOST_KEY ⟨_, rfl⟩) pa_nil)))))) (pw_or1 (pt_cmpR op_eq (pe_op op_and (pv 2) pe_int) pe_int (nomark _))))) (pss_one ps_never) pss_nil)
 (pss_cons (ps_if (pt_not (pt_val (pg_call G_is_whole hG (hr.mono (by decide)) rfl j_is_whole F_is_whole.kp b_is_whole .nil pass0 (pa_cons (pv 3) (pa_cons pe_int (pa_cons (pe_glob (v := .int 1000000000000000000000000000000) rfl c_MOST_KEY ⟨_, rfl⟩) pa_nil)))))) (pss_one ps_never) pss_nil)
 (pss_cons (ps_fld (pv 0) (pv 1) rfl)
 (pss_cons (ps_fld (pv 0) (pv 2) rfl)
 (pss_cons (ps_fld (pv 0) (pv 3) rfl)
 pss_nil)))))), ?_⟩
    refine def_I h (fun d => Nat.le_of_ble_eq_true rfl) (fun d p h => ?_)
    obtain ⟨capacity_2, rate_3, shift_4⟩ := d
    replace h : m_Table___init___ok capacity_2 rate_3 shift_4 := h
    unfold m_Table___init___ok at h
    show SS _ [.ow (oI (some p) (CT 18) []), .fz (eI capacity_2), .fz (eI rate_3), .fz (eI shift_4)] ⟨fun W' => W'[0]? = some (.ow (oI (some p) (CT 18) [("own_capacity", eI capacity_2), ("own_rate", eI rate_3), ("own_shift", eI shift_4)])), fun _ _ => False, fun _ => False, fun _ => False⟩
    obtain ⟨g1, h⟩ := h
    obtain ⟨hn, h⟩ := h
    refine ss_ifL (et_not (et_val (es_call (capacity_2, 1, 1000000000000000000000000000000) (as_cons (es_var 1 rfl) (as_cons es_c (as_cons es_c as_nil))) g1))) (fun hc => absurd (hc.symm.trans hn) (by decide)) (fun _ => ss_nxq ?_)
    obtain ⟨g2, h⟩ := h
    obtain ⟨hn, h⟩ := h
    refine ss_ifL (et_or (et_not (et_val (es_call (rate_3, 1, 1000000000000000000000000000000) (as_cons (es_var 2 rfl) (as_cons es_c (as_cons es_c as_nil))) g2))) (fun hc10 => (et_cmp (es_and (es_var 2 rfl) es_c) es_c q_eqI))) (fun hc => absurd (hc.symm.trans hn) (by decide)) (fun _ => ss_nxq ?_)
    obtain ⟨g3, h⟩ := h
    obtain ⟨hn, h⟩ := h
    refine ss_ifL (et_not (et_val (es_call (shift_4, 0, 1000000000000000000000000000000) (as_cons (es_var 3 rfl) (as_cons es_c (as_cons es_c as_nil))) g3))) (fun hc => absurd (hc.symm.trans hn) (by decide)) (fun _ => ss_nxq ?_)
    refine ss_seqTo [.ow (oI (some p) (CT 18) [("own_capacity", eI capacity_2)]), .fz (eI capacity_2), .fz (eI rate_3), .fz (eI shift_4)] (ss_fldN clT na_own_capacity (es_var 1 rfl) rfl (Nat.le_of_ble_eq_true rfl) (by simp only [List.map_cons, List.map_nil]; decide +kernel) Wk.refl) ?_
    refine ss_seqTo [.ow (oI (some p) (CT 18) [("own_capacity", eI capacity_2), ("own_rate", eI rate_3)]), .fz (eI capacity_2), .fz (eI rate_3), .fz (eI shift_4)] (ss_fldN clT na_own_rate (es_var 2 rfl) rfl (Nat.le_of_ble_eq_true rfl) (by simp only [List.map_cons, List.map_nil]; decide +kernel) Wk.refl) ?_
    refine ss_seqTo [.ow (oI (some p) (CT 18) [("own_capacity", eI capacity_2), ("own_rate", eI rate_3), ("own_shift", eI shift_4)]), .fz (eI capacity_2), .fz (eI rate_3), .fz (eI shift_4)] (ss_fldN clT na_own_shift (es_var 3 rfl) rfl (Nat.le_of_ble_eq_true rfl) (by simp only [List.map_cons, List.map_nil]; decide +kernel) Wk.refl) ?_
    exact ss_nx rfl
end
def m_Table___init__4 (self_1 : Unit) (capacity_2 : U) (rate_3 : U) (shift_4 : U) : Xc ⊕ (Unit) :=
if (!(m_is_whole__2 capacity_2 1 1000000000000000000000000000000)) = true then (
.inl (⟨4, none⟩))
else (
if ((!(m_is_whole__2 rate_3 1 1000000000000000000000000000000)) || (decide ((Builtin.bitAnd (U.unI rate_3) 1) = 0))) = true then (
.inl (⟨5, none⟩))
else (
if (!(m_is_whole__2 shift_4 0 1000000000000000000000000000000)) = true then (
.inl (⟨6, none⟩))
else (
.inr default)))
def m_Table___init__4_ok (self_1 : Unit) (capacity_2 : U) (rate_3 : U) (shift_4 : U) : Prop :=
(m_is_whole__2_ok capacity_2 1 1000000000000000000000000000000) ∧ ((!(m_is_whole__2 capacity_2 1 1000000000000000000000000000000)) = true → (True)) ∧ ((!(m_is_whole__2 capacity_2 1 1000000000000000000000000000000)) = false → ((m_is_whole__2_ok rate_3 1 1000000000000000000000000000000) ∧ ((!(m_is_whole__2 rate_3 1 1000000000000000000000000000000)) = false → U.ty rate_3 = 1) ∧ (((!(m_is_whole__2 rate_3 1 1000000000000000000000000000000)) || (decide ((Builtin.bitAnd (U.unI rate_3) 1) = 0))) = true → (True)) ∧ (((!(m_is_whole__2 rate_3 1 1000000000000000000000000000000)) || (decide ((Builtin.bitAnd (U.unI rate_3) 1) = 0))) = false → ((m_is_whole__2_ok shift_4 0 1000000000000000000000000000000) ∧ ((!(m_is_whole__2 shift_4 0 1000000000000000000000000000000)) = true → (True)) ∧ ((!(m_is_whole__2 shift_4 0 1000000000000000000000000000000)) = false → (False))))))
def sp_Table___init__4 (K : PySem.W.Frag) (CT : Nat → Addr) : Sp := spX (ι := Unit × U × U × U) CT (fun d => [eAny, (eU (CT 18)) d.2.1, (eU (CT 18)) d.2.2.1, (eU (CT 18)) d.2.2.2]) (fun d => m_Table___init__4_ok d.1 d.2.1 d.2.2.1 d.2.2.2) (fun d => m_Table___init__4 d.1 d.2.1 d.2.2.1 d.2.2.2) (fun d => eN)
abbrev s_Table___init__4 : Stmt := inClass (top 32) 0
abbrev N_Table___init__4 : List Str := ["self", "capacity", "rate", "shift"]
theorem sc_Table___init__4 : FnScope N_Table___init__4 ["self", "capacity", "rate", "shift"] (defScope s_Table___init__4) := ⟨rfl, rfl, rfl, by decide +kernel, rfl, by decide +kernel, by decide +kernel⟩
section
variable {P : Program} {w : World} {K : PySem.W.Frag} {mg : Str → Option Value} {base : Heap} {CT : Nat → Addr}
theorem ok_Table___init__4 {f : Addr} {fd : FuncData} (F : Fun K "__init__" "Table.__init__" s_Table___init__4 f fd) {a_is_whole__2 : Addr} {fd_is_whole__2 : FuncData} (F_is_whole__2 : Fun K "is_whole" "is_whole" s_is_whole__2 a_is_whole__2 fd_is_whole__2) (G_is_whole__2 : FnG P w K mg base CX0 2 a_is_whole__2 fd_is_whole__2 ["value", "low", "high"] (sp_is_whole__2 K CT)) (j_is_whole__2 : mg "is_whole" = some (.ref a_is_whole__2)) (b_is_whole__2 : Binds K fd_is_whole__2 ["value", "low", "high"] []) (c_MOST_KEY : ∃ t, mg "MOST_KEY" = some (.int 1000000000000000000000000000000 t)) (xb4 : PySem.W.subIn K (.ref (CT 4)) (.type "BaseException") = some true ∧ PySem.W.typeIn K (.ref (CT 4)) = some (.type "type")) (xb5 : PySem.W.subIn K (.ref (CT 5)) (.type "BaseException") = some true ∧ PySem.W.typeIn K (.ref (CT 5)) = some (.type "type")) (xb6 : PySem.W.subIn K (.ref (CT 6)) (.type "BaseException") = some true ∧ PySem.W.typeIn K (.ref (CT 6)) = some (.type "type")) (xg4 : mg "InvalidCapacity" = some (.ref (CT 4))) (xg5 : mg "InvalidRate" = some (.ref (CT 5))) (xg6 : mg "InvalidShift" = some (.ref (CT 6))) (xn4 : PySem.W.excIn K (CT 4) [.type "ValueError", .type "Exception", .type "BaseException", .type "object"] "ValueError.__new__" = true ∧ PySem.W.keepIn K (.ref (CT 4)) = true) (xn5 : PySem.W.excIn K (CT 5) [.type "ValueError", .type "Exception", .type "BaseException", .type "object"] "ValueError.__new__" = true ∧ PySem.W.keepIn K (.ref (CT 5)) = true) (xn6 : PySem.W.excIn K (CT 6) [.type "ValueError", .type "Exception", .type "BaseException", .type "object"] "ValueError.__new__" = true ∧ PySem.W.keepIn K (.ref (CT 6)) = true) : FnG P w K mg base (L2.CX P w) 3 f fd ["self", "capacity", "rate", "shift"] (sp_Table___init__4 K CT) := by
  obtain ⟨t_MOST_KEY, c_MOST_KEY⟩ := c_MOST_KEY
  refine Fw.Fun.okGX F sc_Table___init__4 (fun vs H Q E h => ?_) (fun cdv A outer s H vs Q E hG hr h => ?_)
  · obtain ⟨d, F, _, _, h, _⟩ := h
    exact h.len
  · have nd := sc_Table___init__4.nd
    have hU := hr.units
    refine ⟨_, (pss_cons (ps_if (pt_not (pt_val (pg_call G_is_whole__2 hG (hr.mono (by decide)) rfl j_is_whole__2 F_is_whole__2.kp b_is_whole__2 .nil pass0 (pa_cons (pv 1) (pa_cons pe_int (pa_cons (pe_glob (v := .int 1000000000000000000000000000000) rfl c_MOST_KEY ⟨_, rfl⟩) pa_nil)))))) (pss_cons (ps_raise rfl (takes_of rfl rfl rfl rfl) (pmk_own PySem.F.excBase_ValueError xn4.1 xg4 xn4.2 (raises_own xb4.1 xb4.2) rfl))
 pss_nil) pss_nil)
 (pss_cons (ps_if (PW.pt (pw_or (pt_not (pt_val (pg_call G_is_whole__2 hG (hr.mono (by decide)) rfl j_is_whole__2 F_is_whole__2.kp b_is_whole__2 .nil pass0 (pa_cons (pv 2) (pa_cons pe_int (pa_cons (pe_glob (v := .int 1000000000000000000000000000000) rfl c_MOST_KEY ⟨_, rfl⟩) pa_nil)))))) (pw_or1 (pt_cmpR op_eq (pe_op op_and (pv 2) pe_int) pe_int (nomark _))))) (pss_cons (ps_raise rfl (takes_of rfl rfl rfl rfl) (pmk_own PySem.F.excBase_ValueError xn5.1 xg5 xn5.2 (raises_own xb5.1 xb5.2) rfl))
 pss_nil) pss_nil)
 (pss_cons (ps_if (pt_not (pt_val (pg_call G_is_whole__2 hG (hr.mono (by decide)) rfl j_is_whole__2 F_is_whole__2.kp b_is_whole__2 .nil pass0 (pa_cons (pv 3) (pa_cons pe_int (pa_cons (pe_glob (v := .int 1000000000000000000000000000000) rfl c_MOST_KEY ⟨_, rfl⟩) pa_nil)))))) (pss_cons (ps_raise rfl (takes_of rfl rfl rfl rfl) (pmk_own PySem.F.excBase_ValueError xn6.1 xg6 xn6.2 (raises_own xb6.1 xb6.2) rfl))
 pss_nil) pss_nil)
 (pss_cons ps_never
 (pss_cons ps_never
 (pss_cons ps_never
 pss_nil)))))), ?_⟩
    refine def_X h (fun d => Nat.le_of_ble_eq_true rfl) (fun d h A hE => ?_)
    obtain ⟨self_1, capacity_2, rate_3, shift_4⟩ := d
    replace h : m_Table___init__4_ok self_1 capacity_2 rate_3 shift_4 := h
    unfold m_Table___init__4_ok at h
    replace hE : ∀ y, m_Table___init__4 self_1 capacity_2 rate_3 shift_4 = .inl y → HE CT A E y := hE
    show SS _ [.fz (eAt A (eAny)), .fz (eAt A ((eU (CT 18)) capacity_2)), .fz (eAt A ((eU (CT 18)) rate_3)), .fz (eAt A ((eU (CT 18)) shift_4))] (FPX (fun _ : Unit => eN) (m_Table___init__4 self_1 capacity_2 rate_3 shift_4))
    obtain ⟨g1, h⟩ := h
    obtain ⟨hA, hB⟩ := h
    refine ss_ifLv (FPX (fun _ : Unit => eN)) (et_not (et_val (es_call (capacity_2, 1, 1000000000000000000000000000000) (as_cons (es_at (es_var 1 rfl)) (as_cons es_c (as_cons es_c as_nil))) g1))) (fun hc => ?_) (fun hc => ?_)
    · replace h := hA hc; clear hA hB; replace hE := HEt hc hE
      exact ss_raiseN (A := A) (ad := CT) (i := 0) (c := 4) rfl (hE _ rfl)
    · replace h := hB hc; clear hA hB; replace hE := HEf hc hE
      refine ss_nxq ?_
      obtain ⟨g2, g3, h⟩ := h
      obtain ⟨hA, hB⟩ := h
      refine ss_ifLv (FPX (fun _ : Unit => eN)) (et_or (et_not (et_val (es_call (rate_3, 1, 1000000000000000000000000000000) (as_cons (es_at (es_var 2 rfl)) (as_cons es_c (as_cons es_c as_nil))) g2))) (fun hc10 => (et_cmp (es_and (es_unI (es_at (es_var 2 rfl)) (g3 hc10)) es_c) es_c q_eqI))) (fun hc => ?_) (fun hc => ?_)
      · replace h := hA hc; clear hA hB; replace hE := HEt hc hE
        exact ss_raiseN (A := A) (ad := CT) (i := 0) (c := 5) rfl (hE _ rfl)
      · replace h := hB hc; clear hA hB; replace hE := HEf hc hE
        refine ss_nxq ?_
        obtain ⟨g4, h⟩ := h
        obtain ⟨hA, hB⟩ := h
        refine ss_ifLv (FPX (fun _ : Unit => eN)) (et_not (et_val (es_call (shift_4, 0, 1000000000000000000000000000000) (as_cons (es_at (es_var 3 rfl)) (as_cons es_c (as_cons es_c as_nil))) g4))) (fun hc => ?_) (fun hc => ?_)
        · replace h := hA hc; clear hA hB; replace hE := HEt hc hE
          exact ss_raiseN (A := A) (ad := CT) (i := 0) (c := 6) rfl (hE _ rfl)
        · replace h := hB hc; clear hA hB; replace hE := HEf hc hE
          refine ss_nxq ?_
          exact ss_neverq h.elim
end
def m_Table_value (self_1 : Tbl) (key_2 : U) : Xc ⊕ (Int) :=
xbind (m_require_key key_2) (fun b_3 => .inr ((self_1.rate * (U.unI key_2)) + self_1.shift))
def m_Table_value_ok (self_1 : Tbl) (key_2 : U) : Prop :=
(m_require_key_ok key_2) ∧ (∀ b_3, (m_require_key key_2) = .inr b_3 → (((U.ty key_2 = 1) ∧ (CMulW self_1.rate (U.unI key_2)) ∧ True)))
def sp_Table_value (K : PySem.W.Frag) (CT : Nat → Addr) : Sp := spX (ι := Tbl × U) CT (fun d => [(eTbl (CT 18)) d.1, (eU (CT 18)) d.2]) (fun d => m_Table_value_ok d.1 d.2) (fun d => m_Table_value d.1 d.2) (fun d => eI d)
abbrev s_Table_value : Stmt := inClass (top 32) 4
abbrev N_Table_value : List Str := ["self", "key"]
theorem sc_Table_value : FnScope N_Table_value ["self", "key"] (defScope s_Table_value) := ⟨rfl, rfl, rfl, by decide +kernel, rfl, by decide +kernel, by decide +kernel⟩
section
variable {P : Program} {w : World} {K : PySem.W.Frag} {mg : Str → Option Value} {base : Heap} {CT : Nat → Addr}
theorem ok_Table_value {f : Addr} {fd : FuncData} (F : Fun K "value" "Table.value" s_Table_value f fd) {a_require_key : Addr} {fd_require_key : FuncData} (F_require_key : Fun K "require_key" "require_key" s_require_key a_require_key fd_require_key) (G_require_key : FnG P w K mg base (L2.CX P w) 3 a_require_key fd_require_key ["value"] (sp_require_key K CT)) (j_require_key : mg "require_key" = some (.ref a_require_key)) (b_require_key : Binds K fd_require_key ["value"] []) (TT : TblTxt K mg (CT 18)) : FnG P w K mg base (L2.CX P w) 4 f fd ["self", "key"] (sp_Table_value K CT) := by
  obtain ⟨clT, na_own_capacity, na_own_rate, na_own_shift, mgT, isT, xaT, xbT, xcT, xdT⟩ := TT
  refine Fw.Fun.okGX F sc_Table_value (fun vs H Q E h => ?_) (fun cdv A outer s H vs Q E hG hr h => ?_)
  · obtain ⟨d, F, _, _, h, _⟩ := h
    exact h.len
  · have nd := sc_Table_value.nd
    have hU := hr.units
    refine ⟨_, (pss_cons (ps_expr (pg_call G_require_key hG (hr.mono (by decide)) rfl j_require_key F_require_key.kp b_require_key .nil (passes_call (takes_of rfl rfl rfl rfl) (fun _ _ _ _ h => h)) (pa_cons (pv 1) pa_nil)))
 (pss_cons (ps_ret (pe_op op_add (pe_op op_mulW (pe_fld (pv 0) rfl) (pv 1)) (pe_fld (pv 0) rfl)))
 pss_nil)), ?_⟩
    refine def_X h (fun d => Nat.le_of_ble_eq_true rfl) (fun d h A hE => ?_)
    obtain ⟨self_1, key_2⟩ := d
    replace h : m_Table_value_ok self_1 key_2 := h
    unfold m_Table_value_ok at h
    replace hE : ∀ y, m_Table_value self_1 key_2 = .inl y → HE CT A E y := hE
    show SS _ [.fz (eAt A ((eTbl (CT 18)) self_1)), .fz (eAt A ((eU (CT 18)) key_2))] (FPX eI (m_Table_value self_1 key_2))
    obtain ⟨g1, h⟩ := h
    refine ss_xS0 (G := (FPX eI)) (W1 := fun b_3 => [.fz (eAt A ((eTbl (CT 18)) self_1)), .fz (eAt A ((eU (CT 18)) key_2))]) (res := fun b_3 => eN) (ex_call (A := A) (z := []) (i := 0) key_2 (as_cons (es_at (es_var 1 rfl)) as_nil) g1 rfl trivial) (fun _ => xs_drop) hE (fun b_3 hm_b_3 hE he_b_3 => ?_)
    replace h := h b_3 hm_b_3
    refine ss_seqTo [.fz (eAt A ((eTbl (CT 18)) self_1)), .fz (eAt A ((eU (CT 18)) key_2))] (ss_drop he_b_3 Wk.refl) ?_
    obtain ⟨g2, g3, h⟩ := h
    refine ss_retq (es_add (es_mulW (es_fld clT na_own_rate (es_at (es_var 0 rfl)) rfl) (es_unI (es_at (es_var 1 rfl)) g2) g3) (es_fld clT na_own_shift (es_at (es_var 0 rfl)) rfl)) ?_
    exact ⟨_, rfl, rfl⟩
end
def m_tail_of (table_1 : Tbl) (key_2 : Int) (depth_3 : Int) : Int :=
Builtin.bitAnd ((table_1.rate * key_2) + table_1.shift) ((1 * 2 ^ depth_3.toNat) - 1)
def m_tail_of_ok (table_1 : Tbl) (key_2 : Int) (depth_3 : Int) : Prop :=
(CMulW table_1.rate key_2) ∧ (0 ≤ depth_3 ∧ depth_3 ≤ 1000000) ∧ True
def sp_tail_of (K : PySem.W.Frag) (CT : Nat → Addr) : Sp := spF (ι := Tbl × Int × Int) (fun d => [(eTbl (CT 18)) d.1, eI d.2.1, eI d.2.2]) (fun d => m_tail_of_ok d.1 d.2.1 d.2.2) (fun d => eI (m_tail_of d.1 d.2.1 d.2.2))
abbrev s_tail_of : Stmt := top 34
abbrev N_tail_of : List Str := ["table", "key", "depth"]
theorem sc_tail_of : FnScope N_tail_of ["table", "key", "depth"] (defScope s_tail_of) := ⟨rfl, rfl, rfl, by decide +kernel, rfl, by decide +kernel, by decide +kernel⟩
section
variable {P : Program} {w : World} {K : PySem.W.Frag} {mg : Str → Option Value} {base : Heap} {CT : Nat → Addr}
theorem ok_tail_of {f : Addr} {fd : FuncData} (F : Fun K "tail_of" "tail_of" s_tail_of f fd) (TT : TblTxt K mg (CT 18)) : FnG P w K mg base CX0 1 f fd ["table", "key", "depth"] (sp_tail_of K CT) := by
  obtain ⟨clT, na_own_capacity, na_own_rate, na_own_shift, mgT, isT, xaT, xbT, xcT, xdT⟩ := TT
  refine Fun.okG F sc_tail_of (fun vs H Q E h => ?_) (fun cdv A outer s H vs Q E hG hr h => ?_)
  · obtain ⟨d, F, _, _, h, _⟩ := h
    exact h.len
  · have nd := sc_tail_of.nd
    have hU := hr.units
    refine ⟨_, (pss_cons (ps_ret (pe_op op_and (pe_op op_add (pe_op op_mulW (pe_fld (pv 0) rfl) (pv 1)) (pe_fld (pv 0) rfl)) (pe_op op_sub (pe_op op_shl pe_int (pv 2)) pe_int)))
 pss_nil), ?_⟩
    refine def_F h (fun d => Nat.le_of_ble_eq_true rfl) (fun d h => ?_)
    obtain ⟨table_1, key_2, depth_3⟩ := d
    replace h : m_tail_of_ok table_1 key_2 depth_3 := h
    unfold m_tail_of_ok at h
    show SS _ [.fz ((eTbl (CT 18)) table_1), .fz (eI key_2), .fz (eI depth_3)] (FP eI (m_tail_of table_1 key_2 depth_3))
    obtain ⟨g1, g2, h⟩ := h
    refine ss_retq (es_and (es_add (es_mulW (es_fld clT na_own_rate (es_var 0 rfl) rfl) (es_var 1 rfl) g1) (es_fld clT na_own_shift (es_var 0 rfl) rfl)) (es_sub (es_shlL (i := 1) es_c (es_var 2 rfl) g2 (by decide)) es_c)) ?_
    exact rfl
end
def m_Table_tail (self_1 : Tbl) (key_2 : U) (depth_3 : U) : Xc ⊕ (Int) :=
xbind (m_require_key key_2) (fun b_4 => xbind (m_require_depth depth_3) (fun b_5 => .inr (m_tail_of self_1 (U.unI key_2) (U.unI depth_3))))
def m_Table_tail_ok (self_1 : Tbl) (key_2 : U) (depth_3 : U) : Prop :=
(m_require_key_ok key_2) ∧ (∀ b_4, (m_require_key key_2) = .inr b_4 → (((m_require_depth_ok depth_3) ∧ (∀ b_5, (m_require_depth depth_3) = .inr b_5 → (((U.ty key_2 = 1) ∧ (U.ty depth_3 = 1) ∧ (m_tail_of_ok self_1 (U.unI key_2) (U.unI depth_3)) ∧ True))))))
def sp_Table_tail (K : PySem.W.Frag) (CT : Nat → Addr) : Sp := spX (ι := Tbl × U × U) CT (fun d => [(eTbl (CT 18)) d.1, (eU (CT 18)) d.2.1, (eU (CT 18)) d.2.2]) (fun d => m_Table_tail_ok d.1 d.2.1 d.2.2) (fun d => m_Table_tail d.1 d.2.1 d.2.2) (fun d => eI d)
abbrev s_Table_tail : Stmt := inClass (top 32) 5
abbrev N_Table_tail : List Str := ["self", "key", "depth"]
theorem sc_Table_tail : FnScope N_Table_tail ["self", "key", "depth"] (defScope s_Table_tail) := ⟨rfl, rfl, rfl, by decide +kernel, rfl, by decide +kernel, by decide +kernel⟩
section
variable {P : Program} {w : World} {K : PySem.W.Frag} {mg : Str → Option Value} {base : Heap} {CT : Nat → Addr}
theorem ok_Table_tail {f : Addr} {fd : FuncData} (F : Fun K "tail" "Table.tail" s_Table_tail f fd) {a_require_key : Addr} {fd_require_key : FuncData} (F_require_key : Fun K "require_key" "require_key" s_require_key a_require_key fd_require_key) (G_require_key : FnG P w K mg base (L2.CX P w) 3 a_require_key fd_require_key ["value"] (sp_require_key K CT)) (j_require_key : mg "require_key" = some (.ref a_require_key)) (b_require_key : Binds K fd_require_key ["value"] []) {a_require_depth : Addr} {fd_require_depth : FuncData} (F_require_depth : Fun K "require_depth" "require_depth" s_require_depth a_require_depth fd_require_depth) (G_require_depth : FnG P w K mg base (L2.CX P w) 3 a_require_depth fd_require_depth ["value"] (sp_require_depth K CT)) (j_require_depth : mg "require_depth" = some (.ref a_require_depth)) (b_require_depth : Binds K fd_require_depth ["value"] []) {a_tail_of : Addr} {fd_tail_of : FuncData} (F_tail_of : Fun K "tail_of" "tail_of" s_tail_of a_tail_of fd_tail_of) (G_tail_of : FnG P w K mg base CX0 1 a_tail_of fd_tail_of ["table", "key", "depth"] (sp_tail_of K CT)) (j_tail_of : mg "tail_of" = some (.ref a_tail_of)) (b_tail_of : Binds K fd_tail_of ["table", "key", "depth"] []) : FnG P w K mg base (L2.CX P w) 4 f fd ["self", "key", "depth"] (sp_Table_tail K CT) := by
  refine Fw.Fun.okGX F sc_Table_tail (fun vs H Q E h => ?_) (fun cdv A outer s H vs Q E hG hr h => ?_)
  · obtain ⟨d, F, _, _, h, _⟩ := h
    exact h.len
  · have nd := sc_Table_tail.nd
    have hU := hr.units
    refine ⟨_, (pss_cons (ps_expr (pg_call G_require_key hG (hr.mono (by decide)) rfl j_require_key F_require_key.kp b_require_key .nil (passes_call (takes_of rfl rfl rfl rfl) (fun _ _ _ _ h => h)) (pa_cons (pv 1) pa_nil)))
 (pss_cons (ps_expr (pg_call G_require_depth hG (hr.mono (by decide)) rfl j_require_depth F_require_depth.kp b_require_depth .nil (passes_call (takes_of rfl rfl rfl rfl) (fun _ _ _ _ h => h)) (pa_cons (pv 2) pa_nil)))
 (pss_cons (ps_ret (pg_call G_tail_of hG (hr.mono (by decide)) rfl j_tail_of F_tail_of.kp b_tail_of .nil pass0 (pa_cons (pv 0) (pa_cons (pv 1) (pa_cons (pv 2) pa_nil)))))
 pss_nil))), ?_⟩
    refine def_X h (fun d => Nat.le_of_ble_eq_true rfl) (fun d h A hE => ?_)
    obtain ⟨self_1, key_2, depth_3⟩ := d
    replace h : m_Table_tail_ok self_1 key_2 depth_3 := h
    unfold m_Table_tail_ok at h
    replace hE : ∀ y, m_Table_tail self_1 key_2 depth_3 = .inl y → HE CT A E y := hE
    show SS _ [.fz (eAt A ((eTbl (CT 18)) self_1)), .fz (eAt A ((eU (CT 18)) key_2)), .fz (eAt A ((eU (CT 18)) depth_3))] (FPX eI (m_Table_tail self_1 key_2 depth_3))
    obtain ⟨g1, h⟩ := h
    refine ss_xS0 (G := (FPX eI)) (W1 := fun b_4 => [.fz (eAt A ((eTbl (CT 18)) self_1)), .fz (eAt A ((eU (CT 18)) key_2)), .fz (eAt A ((eU (CT 18)) depth_3))]) (res := fun b_4 => eN) (ex_call (A := A) (z := []) (i := 0) key_2 (as_cons (es_at (es_var 1 rfl)) as_nil) g1 rfl trivial) (fun _ => xs_drop) hE (fun b_4 hm_b_4 hE he_b_4 => ?_)
    replace h := h b_4 hm_b_4
    refine ss_seqTo [.fz (eAt A ((eTbl (CT 18)) self_1)), .fz (eAt A ((eU (CT 18)) key_2)), .fz (eAt A ((eU (CT 18)) depth_3))] (ss_drop he_b_4 Wk.refl) ?_
    obtain ⟨g2, h⟩ := h
    refine ss_xS0 (G := (FPX eI)) (W1 := fun b_5 => [.fz (eAt A ((eTbl (CT 18)) self_1)), .fz (eAt A ((eU (CT 18)) key_2)), .fz (eAt A ((eU (CT 18)) depth_3))]) (res := fun b_5 => eN) (ex_call (A := A) (z := []) (i := 0) depth_3 (as_cons (es_at (es_var 2 rfl)) as_nil) g2 rfl trivial) (fun _ => xs_drop) hE (fun b_5 hm_b_5 hE he_b_5 => ?_)
    replace h := h b_5 hm_b_5
    refine ss_seqTo [.fz (eAt A ((eTbl (CT 18)) self_1)), .fz (eAt A ((eU (CT 18)) key_2)), .fz (eAt A ((eU (CT 18)) depth_3))] (ss_drop he_b_5 Wk.refl) ?_
    obtain ⟨g3, g4, g5, h⟩ := h
    refine ss_retq (es_call (self_1, U.unI key_2, U.unI depth_3) (as_cons (es_at (es_var 0 rfl)) (as_cons (es_unI (es_at (es_var 1 rfl)) g3) (as_cons (es_unI (es_at (es_var 2 rfl)) g4) as_nil))) g5) ?_
    exact ⟨_, rfl, rfl⟩
end
def m_require_table (value_1 : U) : Xc ⊕ (Unit) :=
if (!(decide (U.ty value_1 = 7))) = true then (
.inl (⟨7, none⟩))
else (
.inr ())
def m_require_table_ok (value_1 : U) : Prop :=
((!(decide (U.ty value_1 = 7))) = true → (True)) ∧ ((!(decide (U.ty value_1 = 7))) = false → (True))
def sp_require_table (K : PySem.W.Frag) (CT : Nat → Addr) : Sp := spX (ι := U) CT (fun d => [(eU (CT 18)) d]) (fun d => m_require_table_ok d) (fun d => m_require_table d) (fun d => eN)
abbrev s_require_table : Stmt := top 35
abbrev N_require_table : List Str := ["value"]
theorem sc_require_table : FnScope N_require_table ["value"] (defScope s_require_table) := ⟨rfl, rfl, rfl, by decide +kernel, rfl, by decide +kernel, by decide +kernel⟩
section
variable {P : Program} {w : World} {K : PySem.W.Frag} {mg : Str → Option Value} {base : Heap} {CT : Nat → Addr}
theorem ok_require_table {f : Addr} {fd : FuncData} (F : Fun K "require_table" "require_table" s_require_table f fd) (n_isinstance : mg "isinstance" = none) (TY : TbTy K (CT 18)) (xb7 : PySem.W.subIn K (.ref (CT 7)) (.type "BaseException") = some true ∧ PySem.W.typeIn K (.ref (CT 7)) = some (.type "type")) (xg7 : mg "InvalidTable" = some (.ref (CT 7))) (xn7 : PySem.W.excIn K (CT 7) [.type "ValueError", .type "Exception", .type "BaseException", .type "object"] "ValueError.__new__" = true ∧ PySem.W.keepIn K (.ref (CT 7)) = true) (TT : TblTxt K mg (CT 18)) : FnG P w K mg base (L2.CX P w) 1 f fd ["value"] (sp_require_table K CT) := by
  obtain ⟨clT, na_own_capacity, na_own_rate, na_own_shift, mgT, isT, xaT, xbT, xcT, xdT⟩ := TT
  refine Fw.Fun.okGX F sc_require_table (fun vs H Q E h => ?_) (fun cdv A outer s H vs Q E hG hr h => ?_)
  · obtain ⟨d, F, _, _, h, _⟩ := h
    exact h.len
  · have nd := sc_require_table.nd
    have hU := hr.units
    refine ⟨_, (pss_cons (ps_if (pt_not (pt_val (pe_callB call_isi rfl n_isinstance (by decide +kernel) (pa_cons (pv 0) (pa_cons (pe_glob (v := .ref (CT 18)) rfl mgT rfl) pa_nil))))) (pss_cons (ps_raise rfl (takes_of rfl rfl rfl rfl) (pmk_own PySem.F.excBase_ValueError xn7.1 xg7 xn7.2 (raises_own xb7.1 xb7.2) rfl))
 pss_nil) pss_nil)
 pss_nil), ?_⟩
    refine def_X h (fun d => Nat.le_of_ble_eq_true rfl) (fun value_1 h A hE => ?_)
    replace h : m_require_table_ok value_1 := h
    unfold m_require_table_ok at h
    replace hE : ∀ y, m_require_table value_1 = .inl y → HE CT A E y := hE
    show SS _ [.fz (eAt A ((eU (CT 18)) value_1))] (FPX (fun _ : Unit => eN) (m_require_table value_1))
    obtain ⟨hA, hB⟩ := h
    refine ss_ifLv (FPX (fun _ : Unit => eN)) (et_not (et_val (es_isUT TY (es_at (es_var 0 rfl))))) (fun hc => ?_) (fun hc => ?_)
    · replace h := hA hc; clear hA hB; replace hE := HEt hc hE
      exact ss_raiseN (A := A) (ad := CT) (i := 0) (c := 7) rfl (hE _ rfl)
    · replace h := hB hc; clear hA hB; replace hE := HEf hc hE
      refine ss_nxq ?_
      exact ss_nx ⟨_, rfl, rfl⟩
end
def m_residue_of_b1 (table_1 : Tbl) (most_4 : Int) (s_6 : Int) (x_7 : Int) : Int :=
let found_8 := Builtin.bitAnd (s_6 * (2 - (table_1.rate * s_6))) most_4
found_8
def m_residue_of_o1 (table_1 : Tbl) (most_4 : Int) (s_6 : Int) (x_7 : Int) : Prop :=
(CMulW table_1.rate s_6) ∧ (CMulW s_6 (2 - (table_1.rate * s_6))) ∧ (∀ found_8, found_8 = (Builtin.bitAnd (s_6 * (2 - (table_1.rate * s_6))) most_4) → True)
def m_residue_of (table_1 : Tbl) (depth_2 : Int) (tail_3 : Int) : Int :=
let most_4 := (1 * 2 ^ depth_2.toNat) - 1
let found_5 := (1 : Int)
let f_9 := List.foldl (m_residue_of_b1 table_1 most_4) found_5 (rng 0 7)
Builtin.bitAnd (f_9 * (tail_3 - table_1.shift)) most_4
def m_residue_of_ok (table_1 : Tbl) (depth_2 : Int) (tail_3 : Int) : Prop :=
(0 ≤ depth_2 ∧ depth_2 ≤ 1000000) ∧ (∀ most_4, most_4 = ((1 * 2 ^ depth_2.toNat) - 1) → ∀ found_5, found_5 = (1 : Int) → (okF (m_residue_of_o1 table_1 most_4) (m_residue_of_b1 table_1 most_4) found_5 (rng 0 7)) ∧ (∀ f_9, f_9 = List.foldl (m_residue_of_b1 table_1 most_4) found_5 (rng 0 7) → (CMulW f_9 (tail_3 - table_1.shift)) ∧ True))
def sp_residue_of (K : PySem.W.Frag) (CT : Nat → Addr) : Sp := spF (ι := Tbl × Int × Int) (fun d => [(eTbl (CT 18)) d.1, eI d.2.1, eI d.2.2]) (fun d => m_residue_of_ok d.1 d.2.1 d.2.2) (fun d => eI (m_residue_of d.1 d.2.1 d.2.2))
abbrev s_residue_of : Stmt := top 36
abbrev N_residue_of : List Str := ["table", "depth", "tail", "most", "found", "turn"]
theorem sc_residue_of : FnScope N_residue_of ["table", "depth", "tail"] (defScope s_residue_of) := ⟨rfl, rfl, rfl, by decide +kernel, rfl, by decide +kernel, by decide +kernel⟩
section
variable {P : Program} {w : World} {K : PySem.W.Frag} {mg : Str → Option Value} {base : Heap} {CT : Nat → Addr}
theorem ok_residue_of {f : Addr} {fd : FuncData} (F : Fun K "residue_of" "residue_of" s_residue_of f fd) (n_range : mg "range" = none) (TT : TblTxt K mg (CT 18)) : FnG P w K mg base CX0 1 f fd ["table", "depth", "tail"] (sp_residue_of K CT) := by
  obtain ⟨clT, na_own_capacity, na_own_rate, na_own_shift, mgT, isT, xaT, xbT, xcT, xdT⟩ := TT
  refine Fun.okG F sc_residue_of (fun vs H Q E h => ?_) (fun cdv A outer s H vs Q E hG hr h => ?_)
  · obtain ⟨d, F, _, _, h, _⟩ := h
    exact h.len
  · have nd := sc_residue_of.nd
    have hU := hr.units
    refine ⟨_, (pss_cons (ps_par (i := 3) (j := 4) rfl nd rfl rfl (by decide) rfl rfl (pa_cons (pe_op op_sub (pe_op op_shl pe_int (pv 1)) pe_int) (pa_cons pe_int pa_nil)) (by rfl))
 (pss_cons (ps_for PassesOwn.never rfl (pi_range1 rfl n_range (pa_cons pe_int pa_nil)) (pg_name (i := 5) nd rfl (by first | exact .inl rfl | exact .inr rfl)) (pss_cons (ps_set (i := 4) nd rfl (by first | exact .inl rfl | exact .inr rfl) (pe_op op_and (pe_op op_mulW (pv 4) (pe_op op_sub pe_int (pe_op op_mulW (pe_fld (pv 0) rfl) (pv 4)))) (pv 3)))
 pss_nil))
 (pss_cons (ps_ret (pe_op op_and (pe_op op_mulW (pv 4) (pe_op op_sub (pv 2) (pe_fld (pv 0) rfl))) (pv 3)))
 pss_nil))), ?_⟩
    refine def_F h (fun d => Nat.le_of_ble_eq_true rfl) (fun d h => ?_)
    obtain ⟨table_1, depth_2, tail_3⟩ := d
    replace h : m_residue_of_ok table_1 depth_2 tail_3 := h
    unfold m_residue_of_ok at h
    show SS _ [.fz ((eTbl (CT 18)) table_1), .fz (eI depth_2), .fz (eI tail_3), .no, .no, .no] (FP eI (m_residue_of table_1 depth_2 tail_3))
    obtain ⟨g1, h⟩ := h
    refine ss_seq2 ((1 * 2 ^ depth_2.toNat) - 1) (1 : Int) (fun most_4 found_5 => [.fz ((eTbl (CT 18)) table_1), .fz (eI depth_2), .fz (eI tail_3), .fz (eI most_4), .fz (eI found_5), .no]) (ss_parM (am_fz (es_sub (es_shlL (i := 1) es_c (es_var 1 rfl) g1 (by decide)) es_c) (am_fz es_c am_nil)) Wk.refl) (fun most_4 e_most_4 found_5 e_found_5 => ?_)
    replace h := h most_4 e_most_4 found_5 e_found_5
    obtain ⟨g4, h⟩ := h
    refine ss_seq1 (List.foldl (m_residue_of_b1 table_1 most_4) found_5 (rng 0 7)) (fun f_9 => [.fz ((eTbl (CT 18)) table_1), .fz (eI depth_2), .fz (eI tail_3), .fz (eI most_4), .fz (eI f_9), .no]) (sf_S (e := eI) (l := (rng 0 7)) (fun s_6 => [.fz ((eTbl (CT 18)) table_1), .fz (eI depth_2), .fz (eI tail_3), .fz (eI most_4), .fz (eI s_6), .no]) (m_residue_of_b1 table_1 most_4) (m_residue_of_o1 table_1 most_4) found_5 (is_rng1 (as_cons es_c as_nil) (by decide)) Wk.refl g4 (fun s_6 x_7 _ h => ⟨[.fz ((eTbl (CT 18)) table_1), .fz (eI depth_2), .fz (eI tail_3), .fz (eI most_4), .fz (eI s_6), .fz (eI x_7)], _, gs_name 5, ?_⟩) (fun _ hw => hw)) (fun f_9 e_f_9 => ?_)
    · unfold m_residue_of_o1 at h
      obtain ⟨g2, g3, h⟩ := h
      refine ss_seq1 (Builtin.bitAnd (s_6 * (2 - (table_1.rate * s_6))) most_4) (fun found_8 => [.fz ((eTbl (CT 18)) table_1), .fz (eI depth_2), .fz (eI tail_3), .fz (eI most_4), .fz (eI found_8), .fz (eI x_7)]) (ss_set (es_and (es_mulW (es_var 4 rfl) (es_sub es_c (es_mulW (es_fld clT na_own_rate (es_var 0 rfl) rfl) (es_var 4 rfl) g2)) g3) (es_var 3 rfl)) Wk.refl) (fun found_8 e_found_8 => ?_)
      replace h := h found_8 e_found_8
      replace e_found_8 := Eq.symm e_found_8; subst e_found_8
      exact ss_nx ⟨.inr rfl, ⟨.inr rfl, ⟨.inr rfl, ⟨.inr rfl, ⟨.inr rfl, ⟨.inl ⟨rfl, rfl⟩, trivial⟩⟩⟩⟩⟩⟩
    replace h := h f_9 e_f_9
    obtain ⟨g5, h⟩ := h
    refine ss_retq (es_and (es_mulW (es_var 4 rfl) (es_sub (es_var 2 rfl) (es_fld clT na_own_shift (es_var 0 rfl) rfl)) g5) (es_var 3 rfl)) ?_
    replace e_f_9 := Eq.symm e_f_9; subst e_f_9; replace e_found_5 := Eq.symm e_found_5; subst e_found_5; replace e_most_4 := Eq.symm e_most_4; subst e_most_4
    exact rfl
end
def m_residue_count (spans_1 : List (Int × Int)) (depth_2 : Int) (residue_3 : Int) : Int :=
(List.map (fun (x_4 : Int × Int) => (((x_4.2 - 1) - residue_3) / 2 ^ depth_2.toNat) - (((x_4.1 - 1) - residue_3) / 2 ^ depth_2.toNat)) spans_1).sum
def m_residue_count_ok (spans_1 : List (Int × Int)) (depth_2 : Int) (residue_3 : Int) : Prop :=
(∀ x_4 ∈ spans_1, 0 ≤ depth_2) ∧ (∀ x_4 ∈ spans_1, 0 ≤ depth_2) ∧ (spans_1.length < 16000000) ∧ True
def sp_residue_count (K : PySem.W.Frag) (CT : Nat → Addr) : Sp := spF (ι := (List (Int × Int)) × Int × Int) (fun d => [(eLs (eP2 K eI eI)) d.1, eI d.2.1, eI d.2.2]) (fun d => m_residue_count_ok d.1 d.2.1 d.2.2) (fun d => eI (m_residue_count d.1 d.2.1 d.2.2))
abbrev s_residue_count : Stmt := top 37
abbrev N_residue_count : List Str := ["spans", "depth", "residue", "first", "end"]
theorem sc_residue_count : FnScope N_residue_count ["spans", "depth", "residue"] (defScope s_residue_count) := ⟨rfl, rfl, rfl, by decide +kernel, rfl, by decide +kernel, by decide +kernel⟩
section
variable {P : Program} {w : World} {K : PySem.W.Frag} {mg : Str → Option Value} {base : Heap} {CT : Nat → Addr}
theorem ok_residue_count {f : Addr} {fd : FuncData} (F : Fun K "residue_count" "residue_count" s_residue_count f fd) (n_sum : mg "sum" = none) : FnG P w K mg base CX0 1 f fd ["spans", "depth", "residue"] (sp_residue_count K CT) := by
  refine Fun.okG F sc_residue_count (fun vs H Q E h => ?_) (fun cdv A outer s H vs Q E hG hr h => ?_)
  · obtain ⟨d, F, _, _, h, _⟩ := h
    exact h.len
  · have nd := sc_residue_count.nd
    have hU := hr.units
    refine ⟨_, (pss_cons (ps_ret (pe_callB (cr_sum rfl) rfl n_sum (by decide +kernel) (pa_cons (pe_lc (own := [("first", 3), ("end", 4)]) (g := gTup K 2 (gNames [3, 4])) (tt := tYes) rfl nd (pi_list (pv 0)) (blkOk_by (own := [("first", 3), ("end", 4)]) (N := N_residue_count) (sc := defScope s_residue_count) (by decide +kernel)) (fun _ _ _ _ _ => pg_tup rfl (pgs_cons (pg_name (i := 3) nd rfl (by first | exact .inl rfl | exact .inr rfl)) (pgs_cons (pg_name (i := 4) nd rfl (by first | exact .inl rfl | exact .inr rfl)) pgs_nil))) (fun _ _ _ _ _ => pts_nil) (fun _ _ _ _ _ => (pe_op op_sub (pe_op op_shr (pe_op op_sub (pe_op op_sub (pv 4) pe_int) (pv 2)) (pv 1)) (pe_op op_shr (pe_op op_sub (pe_op op_sub (pv 3) pe_int) (pv 2)) (pv 1))))) pa_nil)))
 pss_nil), ?_⟩
    refine def_F h (fun d => Nat.le_of_ble_eq_true rfl) (fun d h => ?_)
    obtain ⟨spans_1, depth_2, residue_3⟩ := d
    replace h : m_residue_count_ok spans_1 depth_2 residue_3 := h
    unfold m_residue_count_ok at h
    show SS _ [.fz ((eLs (eP2 K eI eI)) spans_1), .fz (eI depth_2), .fz (eI residue_3), .no, .no] (FP eI (m_residue_count spans_1 depth_2 residue_3))
    obtain ⟨g1, g2, g3, h⟩ := h
    refine ss_retq (es_sum (es_frs eI (List.map (fun (x_4 : Int × Int) => (((x_4.2 - 1) - residue_3) / 2 ^ depth_2.toNat) - (((x_4.1 - 1) - residue_3) / 2 ^ depth_2.toNat)) spans_1) (en_lcF eI (fun (x_4 : Int × Int) => (((x_4.2 - 1) - residue_3) / 2 ^ depth_2.toNat) - (((x_4.1 - 1) - residue_3) / 2 ^ depth_2.toNat)) (en_lcS (e := (eP2 K eI eI)) (l := spans_1) (f := (fun (x_4 : Int × Int) => eI ((((x_4.2 - 1) - residue_3) / 2 ^ depth_2.toNat) - (((x_4.1 - 1) - residue_3) / 2 ^ depth_2.toNat)))) (is := [3, 4]) (vs := [3, 4]) (fun (x_4 : Int × Int) => true) (fun (x_4 : Int × Int) => [.fz ((eLs (eP2 K eI eI)) spans_1), .fz (eI depth_2), .fz (eI residue_3), .fz (eI x_4.1), .fz (eI x_4.2)]) (is_list (e := (eP2 K eI eI)) (es_var 0 rfl)) g3 (fun _ h => h) (fun x_4 => gs_tup (gs_cons (gs_name 3) (gs_cons (gs_name 4) gs_nil))) (fun x_4 hx => et_yes) (fun x_4 hx _ => (es_sub (es_shr (es_sub (es_sub (es_var 4 rfl) es_c) (es_var 2 rfl)) (es_var 1 rfl) (g1 x_4 hx)) (es_shr (es_sub (es_sub (es_var 3 rfl) es_c) (es_var 2 rfl)) (es_var 1 rfl) (g2 x_4 hx)))))))) ?_
    exact rfl
end
def m_require_place (table_1 : U) (spans_2 : U) (depth_3 : U) (tail_4 : U) : Xc ⊕ (Unit) :=
xbind (m_require_table table_1) (fun b_5 => xbind (m_require_spans spans_2) (fun b_6 => xbind (m_require_depth depth_3) (fun b_7 => xbind (m_require_tail (U.unI depth_3) tail_4) (fun b_8 => .inr ()))))
def m_require_place_ok (table_1 : U) (spans_2 : U) (depth_3 : U) (tail_4 : U) : Prop :=
(m_require_table_ok table_1) ∧ (∀ b_5, (m_require_table table_1) = .inr b_5 → (((m_require_spans_ok spans_2) ∧ (∀ b_6, (m_require_spans spans_2) = .inr b_6 → (((m_require_depth_ok depth_3) ∧ (∀ b_7, (m_require_depth depth_3) = .inr b_7 → (((U.ty depth_3 = 1) ∧ (m_require_tail_ok (U.unI depth_3) tail_4) ∧ (∀ b_8, (m_require_tail (U.unI depth_3) tail_4) = .inr b_8 → ((True))))))))))))
def sp_require_place (K : PySem.W.Frag) (CT : Nat → Addr) : Sp := spX (ι := U × U × U × U) CT (fun d => [(eU (CT 18)) d.1, (eU (CT 18)) d.2.1, (eU (CT 18)) d.2.2.1, (eU (CT 18)) d.2.2.2]) (fun d => m_require_place_ok d.1 d.2.1 d.2.2.1 d.2.2.2) (fun d => m_require_place d.1 d.2.1 d.2.2.1 d.2.2.2) (fun d => eN)
abbrev s_require_place : Stmt := top 38
abbrev N_require_place : List Str := ["table", "spans", "depth", "tail"]
theorem sc_require_place : FnScope N_require_place ["table", "spans", "depth", "tail"] (defScope s_require_place) := ⟨rfl, rfl, rfl, by decide +kernel, rfl, by decide +kernel, by decide +kernel⟩
section
variable {P : Program} {w : World} {K : PySem.W.Frag} {mg : Str → Option Value} {base : Heap} {CT : Nat → Addr}
theorem ok_require_place {f : Addr} {fd : FuncData} (F : Fun K "require_place" "require_place" s_require_place f fd) {a_require_table : Addr} {fd_require_table : FuncData} (F_require_table : Fun K "require_table" "require_table" s_require_table a_require_table fd_require_table) (G_require_table : FnG P w K mg base (L2.CX P w) 1 a_require_table fd_require_table ["value"] (sp_require_table K CT)) (j_require_table : mg "require_table" = some (.ref a_require_table)) (b_require_table : Binds K fd_require_table ["value"] []) {a_require_spans : Addr} {fd_require_spans : FuncData} (F_require_spans : Fun K "require_spans" "require_spans" s_require_spans a_require_spans fd_require_spans) (G_require_spans : FnG P w K mg base (L2.CX P w) 4 a_require_spans fd_require_spans ["spans"] (sp_require_spans K CT)) (j_require_spans : mg "require_spans" = some (.ref a_require_spans)) (b_require_spans : Binds K fd_require_spans ["spans"] []) {a_require_depth : Addr} {fd_require_depth : FuncData} (F_require_depth : Fun K "require_depth" "require_depth" s_require_depth a_require_depth fd_require_depth) (G_require_depth : FnG P w K mg base (L2.CX P w) 3 a_require_depth fd_require_depth ["value"] (sp_require_depth K CT)) (j_require_depth : mg "require_depth" = some (.ref a_require_depth)) (b_require_depth : Binds K fd_require_depth ["value"] []) {a_require_tail : Addr} {fd_require_tail : FuncData} (F_require_tail : Fun K "require_tail" "require_tail" s_require_tail a_require_tail fd_require_tail) (G_require_tail : FnG P w K mg base (L2.CX P w) 3 a_require_tail fd_require_tail ["depth", "value"] (sp_require_tail K CT)) (j_require_tail : mg "require_tail" = some (.ref a_require_tail)) (b_require_tail : Binds K fd_require_tail ["depth", "value"] []) : FnG P w K mg base (L2.CX P w) 5 f fd ["table", "spans", "depth", "tail"] (sp_require_place K CT) := by
  refine Fw.Fun.okGX F sc_require_place (fun vs H Q E h => ?_) (fun cdv A outer s H vs Q E hG hr h => ?_)
  · obtain ⟨d, F, _, _, h, _⟩ := h
    exact h.len
  · have nd := sc_require_place.nd
    have hU := hr.units
    refine ⟨_, (pss_cons (ps_expr (pg_call G_require_table hG (hr.mono (by decide)) rfl j_require_table F_require_table.kp b_require_table .nil (passes_call (takes_of rfl rfl rfl rfl) (fun _ _ _ _ h => h)) (pa_cons (pv 0) pa_nil)))
 (pss_cons (ps_expr (pg_call G_require_spans hG (hr.mono (by decide)) rfl j_require_spans F_require_spans.kp b_require_spans .nil (passes_call (takes_of rfl rfl rfl rfl) (fun _ _ _ _ h => h)) (pa_cons (pv 1) pa_nil)))
 (pss_cons (ps_expr (pg_call G_require_depth hG (hr.mono (by decide)) rfl j_require_depth F_require_depth.kp b_require_depth .nil (passes_call (takes_of rfl rfl rfl rfl) (fun _ _ _ _ h => h)) (pa_cons (pv 2) pa_nil)))
 (pss_cons (ps_expr (pg_call G_require_tail hG (hr.mono (by decide)) rfl j_require_tail F_require_tail.kp b_require_tail .nil (passes_call (takes_of rfl rfl rfl rfl) (fun _ _ _ _ h => h)) (pa_cons (pv 2) (pa_cons (pv 3) pa_nil))))
 pss_nil)))), ?_⟩
    refine def_X h (fun d => Nat.le_of_ble_eq_true rfl) (fun d h A hE => ?_)
    obtain ⟨table_1, spans_2, depth_3, tail_4⟩ := d
    replace h : m_require_place_ok table_1 spans_2 depth_3 tail_4 := h
    unfold m_require_place_ok at h
    replace hE : ∀ y, m_require_place table_1 spans_2 depth_3 tail_4 = .inl y → HE CT A E y := hE
    show SS _ [.fz (eAt A ((eU (CT 18)) table_1)), .fz (eAt A ((eU (CT 18)) spans_2)), .fz (eAt A ((eU (CT 18)) depth_3)), .fz (eAt A ((eU (CT 18)) tail_4))] (FPX (fun _ : Unit => eN) (m_require_place table_1 spans_2 depth_3 tail_4))
    obtain ⟨g1, h⟩ := h
    refine ss_xS0 (G := (FPX (fun _ : Unit => eN))) (W1 := fun b_5 => [.fz (eAt A ((eU (CT 18)) table_1)), .fz (eAt A ((eU (CT 18)) spans_2)), .fz (eAt A ((eU (CT 18)) depth_3)), .fz (eAt A ((eU (CT 18)) tail_4))]) (res := fun b_5 => eN) (ex_call (A := A) (z := []) (i := 0) table_1 (as_cons (es_at (es_var 0 rfl)) as_nil) g1 rfl trivial) (fun _ => xs_drop) hE (fun b_5 hm_b_5 hE he_b_5 => ?_)
    replace h := h b_5 hm_b_5
    refine ss_seqTo [.fz (eAt A ((eU (CT 18)) table_1)), .fz (eAt A ((eU (CT 18)) spans_2)), .fz (eAt A ((eU (CT 18)) depth_3)), .fz (eAt A ((eU (CT 18)) tail_4))] (ss_drop he_b_5 Wk.refl) ?_
    obtain ⟨g2, h⟩ := h
    refine ss_xS0 (G := (FPX (fun _ : Unit => eN))) (W1 := fun b_6 => [.fz (eAt A ((eU (CT 18)) table_1)), .fz (eAt A ((eU (CT 18)) spans_2)), .fz (eAt A ((eU (CT 18)) depth_3)), .fz (eAt A ((eU (CT 18)) tail_4))]) (res := fun b_6 => eN) (ex_call (A := A) (z := []) (i := 0) spans_2 (as_cons (es_at (es_var 1 rfl)) as_nil) g2 rfl trivial) (fun _ => xs_drop) hE (fun b_6 hm_b_6 hE he_b_6 => ?_)
    replace h := h b_6 hm_b_6
    refine ss_seqTo [.fz (eAt A ((eU (CT 18)) table_1)), .fz (eAt A ((eU (CT 18)) spans_2)), .fz (eAt A ((eU (CT 18)) depth_3)), .fz (eAt A ((eU (CT 18)) tail_4))] (ss_drop he_b_6 Wk.refl) ?_
    obtain ⟨g3, h⟩ := h
    refine ss_xS0 (G := (FPX (fun _ : Unit => eN))) (W1 := fun b_7 => [.fz (eAt A ((eU (CT 18)) table_1)), .fz (eAt A ((eU (CT 18)) spans_2)), .fz (eAt A ((eU (CT 18)) depth_3)), .fz (eAt A ((eU (CT 18)) tail_4))]) (res := fun b_7 => eN) (ex_call (A := A) (z := []) (i := 0) depth_3 (as_cons (es_at (es_var 2 rfl)) as_nil) g3 rfl trivial) (fun _ => xs_drop) hE (fun b_7 hm_b_7 hE he_b_7 => ?_)
    replace h := h b_7 hm_b_7
    refine ss_seqTo [.fz (eAt A ((eU (CT 18)) table_1)), .fz (eAt A ((eU (CT 18)) spans_2)), .fz (eAt A ((eU (CT 18)) depth_3)), .fz (eAt A ((eU (CT 18)) tail_4))] (ss_drop he_b_7 Wk.refl) ?_
    obtain ⟨g4, g5, h⟩ := h
    refine ss_xS0 (G := (FPX (fun _ : Unit => eN))) (W1 := fun b_8 => [.fz (eAt A ((eU (CT 18)) table_1)), .fz (eAt A ((eU (CT 18)) spans_2)), .fz (eAt A ((eU (CT 18)) depth_3)), .fz (eAt A ((eU (CT 18)) tail_4))]) (res := fun b_8 => eN) (ex_call (A := A) (z := []) (i := 0) (U.unI depth_3, tail_4) (as_cons (es_unI (es_at (es_var 2 rfl)) g4) (as_cons (es_at (es_var 3 rfl)) as_nil)) g5 rfl trivial) (fun _ => xs_drop) hE (fun b_8 hm_b_8 hE he_b_8 => ?_)
    replace h := h b_8 hm_b_8
    refine ss_seqTo [.fz (eAt A ((eU (CT 18)) table_1)), .fz (eAt A ((eU (CT 18)) spans_2)), .fz (eAt A ((eU (CT 18)) depth_3)), .fz (eAt A ((eU (CT 18)) tail_4))] (ss_drop he_b_8 Wk.refl) ?_
    exact ss_nx ⟨_, rfl, rfl⟩
end
def m_key_count (spans_1 : U) : Xc ⊕ (Int) :=
xbind (m_require_spans spans_1) (fun b_2 => .inr ((List.map (fun (x_3 : Int × Int) => x_3.2 - x_3.1) (U.unSp spans_1)).sum))
def m_key_count_ok (spans_1 : U) : Prop :=
(m_require_spans_ok spans_1) ∧ (∀ b_2, (m_require_spans spans_1) = .inr b_2 → (((spans_1 = U.ofSp (U.unSp spans_1)) ∧ ((U.unSp spans_1).length < 16000000) ∧ True)))
def sp_key_count (K : PySem.W.Frag) (CT : Nat → Addr) : Sp := spX (ι := U) CT (fun d => [(eU (CT 18)) d]) (fun d => m_key_count_ok d) (fun d => m_key_count d) (fun d => eI d)
abbrev s_key_count : Stmt := top 39
abbrev N_key_count : List Str := ["spans", "first", "end"]
theorem sc_key_count : FnScope N_key_count ["spans"] (defScope s_key_count) := ⟨rfl, rfl, rfl, by decide +kernel, rfl, by decide +kernel, by decide +kernel⟩
section
variable {P : Program} {w : World} {K : PySem.W.Frag} {mg : Str → Option Value} {base : Heap} {CT : Nat → Addr}
theorem ok_key_count {f : Addr} {fd : FuncData} (F : Fun K "key_count" "key_count" s_key_count f fd) {a_require_spans : Addr} {fd_require_spans : FuncData} (F_require_spans : Fun K "require_spans" "require_spans" s_require_spans a_require_spans fd_require_spans) (G_require_spans : FnG P w K mg base (L2.CX P w) 4 a_require_spans fd_require_spans ["spans"] (sp_require_spans K CT)) (j_require_spans : mg "require_spans" = some (.ref a_require_spans)) (b_require_spans : Binds K fd_require_spans ["spans"] []) (n_sum : mg "sum" = none) : FnG P w K mg base (L2.CX P w) 5 f fd ["spans"] (sp_key_count K CT) := by
  refine Fw.Fun.okGX F sc_key_count (fun vs H Q E h => ?_) (fun cdv A outer s H vs Q E hG hr h => ?_)
  · obtain ⟨d, F, _, _, h, _⟩ := h
    exact h.len
  · have nd := sc_key_count.nd
    have hU := hr.units
    refine ⟨_, (pss_cons (ps_expr (pg_call G_require_spans hG (hr.mono (by decide)) rfl j_require_spans F_require_spans.kp b_require_spans .nil (passes_call (takes_of rfl rfl rfl rfl) (fun _ _ _ _ h => h)) (pa_cons (pv 0) pa_nil)))
 (pss_cons (ps_ret (pe_callB (cr_sum rfl) rfl n_sum (by decide +kernel) (pa_cons (pe_lc (own := [("first", 1), ("end", 2)]) (g := gTup K 2 (gNames [1, 2])) (tt := tYes) rfl nd (pi_list (pv 0)) (blkOk_by (own := [("first", 1), ("end", 2)]) (N := N_key_count) (sc := defScope s_key_count) (by decide +kernel)) (fun _ _ _ _ _ => pg_tup rfl (pgs_cons (pg_name (i := 1) nd rfl (by first | exact .inl rfl | exact .inr rfl)) (pgs_cons (pg_name (i := 2) nd rfl (by first | exact .inl rfl | exact .inr rfl)) pgs_nil))) (fun _ _ _ _ _ => pts_nil) (fun _ _ _ _ _ => (pe_op op_sub (pv 2) (pv 1)))) pa_nil)))
 pss_nil)), ?_⟩
    refine def_X h (fun d => Nat.le_of_ble_eq_true rfl) (fun spans_1 h A hE => ?_)
    replace h : m_key_count_ok spans_1 := h
    unfold m_key_count_ok at h
    replace hE : ∀ y, m_key_count spans_1 = .inl y → HE CT A E y := hE
    show SS _ [.fz (eAt A ((eU (CT 18)) spans_1)), .no, .no] (FPX eI (m_key_count spans_1))
    obtain ⟨g1, h⟩ := h
    refine ss_xS0 (G := (FPX eI)) (W1 := fun b_2 => [.fz (eAt A ((eU (CT 18)) spans_1)), .no, .no]) (res := fun b_2 => eN) (ex_call (A := A) (z := []) (i := 0) spans_1 (as_cons (es_at (es_var 0 rfl)) as_nil) g1 rfl trivial) (fun _ => xs_drop) hE (fun b_2 hm_b_2 hE he_b_2 => ?_)
    replace h := h b_2 hm_b_2
    refine ss_seqTo [.fz (eAt A ((eU (CT 18)) spans_1)), .no, .no] (ss_drop he_b_2 Wk.refl) ?_
    obtain ⟨g2, g3, h⟩ := h
    refine ss_retq (es_sum (es_frs eI (List.map (fun (x_3 : Int × Int) => x_3.2 - x_3.1) (U.unSp spans_1)) (en_lcF eI (fun (x_3 : Int × Int) => x_3.2 - x_3.1) (en_lcS (e := (eP2 K eI eI)) (l := (U.unSp spans_1)) (f := (fun (x_3 : Int × Int) => eI (x_3.2 - x_3.1))) (is := [1, 2]) (vs := [1, 2]) (fun (x_3 : Int × Int) => true) (fun (x_3 : Int × Int) => [.fz (eAt A ((eU (CT 18)) spans_1)), .fz (eI x_3.1), .fz (eI x_3.2)]) (is_list (e := (eP2 K eI eI)) (es_ofU K (e := eLs (eP2 K eI eI)) (C := (CT 18)) (x := U.unSp spans_1) (es_at (es_var 0 rfl)) g2)) g3 (fun _ h => h) (fun x_3 => gs_tup (gs_cons (gs_name 1) (gs_cons (gs_name 2) gs_nil))) (fun x_3 hx => et_yes) (fun x_3 hx _ => (es_sub (es_var 2 rfl) (es_var 1 rfl))))))) ?_
    exact ⟨_, rfl, rfl⟩
end
def m_tail_count (table_1 : U) (spans_2 : U) (depth_3 : U) (tail_4 : U) : Xc ⊕ (Int) :=
xbind (m_require_place table_1 spans_2 depth_3 tail_4) (fun b_5 => .inr (m_residue_count (U.unSp spans_2) (U.unI depth_3) (m_residue_of (U.unTb table_1) (U.unI depth_3) (U.unI tail_4))))
def m_tail_count_ok (table_1 : U) (spans_2 : U) (depth_3 : U) (tail_4 : U) : Prop :=
(m_require_place_ok table_1 spans_2 depth_3 tail_4) ∧ (∀ b_5, (m_require_place table_1 spans_2 depth_3 tail_4) = .inr b_5 → (((spans_2 = U.ofSp (U.unSp spans_2)) ∧ (U.ty depth_3 = 1) ∧ (U.ty table_1 = 7) ∧ (U.ty depth_3 = 1) ∧ (U.ty tail_4 = 1) ∧ (m_residue_of_ok (U.unTb table_1) (U.unI depth_3) (U.unI tail_4)) ∧ (m_residue_count_ok (U.unSp spans_2) (U.unI depth_3) (m_residue_of (U.unTb table_1) (U.unI depth_3) (U.unI tail_4))) ∧ True)))
def sp_tail_count (K : PySem.W.Frag) (CT : Nat → Addr) : Sp := spX (ι := U × U × U × U) CT (fun d => [(eU (CT 18)) d.1, (eU (CT 18)) d.2.1, (eU (CT 18)) d.2.2.1, (eU (CT 18)) d.2.2.2]) (fun d => m_tail_count_ok d.1 d.2.1 d.2.2.1 d.2.2.2) (fun d => m_tail_count d.1 d.2.1 d.2.2.1 d.2.2.2) (fun d => eI d)
abbrev s_tail_count : Stmt := top 40
abbrev N_tail_count : List Str := ["table", "spans", "depth", "tail"]
theorem sc_tail_count : FnScope N_tail_count ["table", "spans", "depth", "tail"] (defScope s_tail_count) := ⟨rfl, rfl, rfl, by decide +kernel, rfl, by decide +kernel, by decide +kernel⟩
section
variable {P : Program} {w : World} {K : PySem.W.Frag} {mg : Str → Option Value} {base : Heap} {CT : Nat → Addr}
theorem ok_tail_count {f : Addr} {fd : FuncData} (F : Fun K "tail_count" "tail_count" s_tail_count f fd) {a_require_place : Addr} {fd_require_place : FuncData} (F_require_place : Fun K "require_place" "require_place" s_require_place a_require_place fd_require_place) (G_require_place : FnG P w K mg base (L2.CX P w) 5 a_require_place fd_require_place ["table", "spans", "depth", "tail"] (sp_require_place K CT)) (j_require_place : mg "require_place" = some (.ref a_require_place)) (b_require_place : Binds K fd_require_place ["table", "spans", "depth", "tail"] []) {a_residue_count : Addr} {fd_residue_count : FuncData} (F_residue_count : Fun K "residue_count" "residue_count" s_residue_count a_residue_count fd_residue_count) (G_residue_count : FnG P w K mg base CX0 1 a_residue_count fd_residue_count ["spans", "depth", "residue"] (sp_residue_count K CT)) (j_residue_count : mg "residue_count" = some (.ref a_residue_count)) (b_residue_count : Binds K fd_residue_count ["spans", "depth", "residue"] []) {a_residue_of : Addr} {fd_residue_of : FuncData} (F_residue_of : Fun K "residue_of" "residue_of" s_residue_of a_residue_of fd_residue_of) (G_residue_of : FnG P w K mg base CX0 1 a_residue_of fd_residue_of ["table", "depth", "tail"] (sp_residue_of K CT)) (j_residue_of : mg "residue_of" = some (.ref a_residue_of)) (b_residue_of : Binds K fd_residue_of ["table", "depth", "tail"] []) : FnG P w K mg base (L2.CX P w) 6 f fd ["table", "spans", "depth", "tail"] (sp_tail_count K CT) := by
  refine Fw.Fun.okGX F sc_tail_count (fun vs H Q E h => ?_) (fun cdv A outer s H vs Q E hG hr h => ?_)
  · obtain ⟨d, F, _, _, h, _⟩ := h
    exact h.len
  · have nd := sc_tail_count.nd
    have hU := hr.units
    refine ⟨_, (pss_cons (ps_expr (pg_call G_require_place hG (hr.mono (by decide)) rfl j_require_place F_require_place.kp b_require_place .nil (passes_call (takes_of rfl rfl rfl rfl) (fun _ _ _ _ h => h)) (pa_cons (pv 0) (pa_cons (pv 1) (pa_cons (pv 2) (pa_cons (pv 3) pa_nil))))))
 (pss_cons (ps_ret (pg_call G_residue_count hG (hr.mono (by decide)) rfl j_residue_count F_residue_count.kp b_residue_count .nil pass0 (pa_cons (pv 1) (pa_cons (pv 2) (pa_cons (pg_call G_residue_of hG (hr.mono (by decide)) rfl j_residue_of F_residue_of.kp b_residue_of .nil pass0 (pa_cons (pv 0) (pa_cons (pv 2) (pa_cons (pv 3) pa_nil)))) pa_nil)))))
 pss_nil)), ?_⟩
    refine def_X h (fun d => Nat.le_of_ble_eq_true rfl) (fun d h A hE => ?_)
    obtain ⟨table_1, spans_2, depth_3, tail_4⟩ := d
    replace h : m_tail_count_ok table_1 spans_2 depth_3 tail_4 := h
    unfold m_tail_count_ok at h
    replace hE : ∀ y, m_tail_count table_1 spans_2 depth_3 tail_4 = .inl y → HE CT A E y := hE
    show SS _ [.fz (eAt A ((eU (CT 18)) table_1)), .fz (eAt A ((eU (CT 18)) spans_2)), .fz (eAt A ((eU (CT 18)) depth_3)), .fz (eAt A ((eU (CT 18)) tail_4))] (FPX eI (m_tail_count table_1 spans_2 depth_3 tail_4))
    obtain ⟨g1, h⟩ := h
    refine ss_xS0 (G := (FPX eI)) (W1 := fun b_5 => [.fz (eAt A ((eU (CT 18)) table_1)), .fz (eAt A ((eU (CT 18)) spans_2)), .fz (eAt A ((eU (CT 18)) depth_3)), .fz (eAt A ((eU (CT 18)) tail_4))]) (res := fun b_5 => eN) (ex_call (A := A) (z := []) (i := 0) (table_1, spans_2, depth_3, tail_4) (as_cons (es_at (es_var 0 rfl)) (as_cons (es_at (es_var 1 rfl)) (as_cons (es_at (es_var 2 rfl)) (as_cons (es_at (es_var 3 rfl)) as_nil)))) g1 rfl trivial) (fun _ => xs_drop) hE (fun b_5 hm_b_5 hE he_b_5 => ?_)
    replace h := h b_5 hm_b_5
    refine ss_seqTo [.fz (eAt A ((eU (CT 18)) table_1)), .fz (eAt A ((eU (CT 18)) spans_2)), .fz (eAt A ((eU (CT 18)) depth_3)), .fz (eAt A ((eU (CT 18)) tail_4))] (ss_drop he_b_5 Wk.refl) ?_
    obtain ⟨g2, g3, g4, g5, g6, g7, g8, h⟩ := h
    refine ss_retq (es_call (U.unSp spans_2, U.unI depth_3, m_residue_of (U.unTb table_1) (U.unI depth_3) (U.unI tail_4)) (as_cons (es_ofU K (e := eLs (eP2 K eI eI)) (C := (CT 18)) (x := U.unSp spans_2) (es_at (es_var 1 rfl)) g2) (as_cons (es_unI (es_at (es_var 2 rfl)) g3) (as_cons (es_call (U.unTb table_1, U.unI depth_3, U.unI tail_4) (as_cons (es_unTb (es_at (es_var 0 rfl)) g4) (as_cons (es_unI (es_at (es_var 2 rfl)) g5) (as_cons (es_unI (es_at (es_var 3 rfl)) g6) as_nil))) g7) as_nil))) g8) ?_
    exact ⟨_, rfl, rfl⟩
end
def m_nth_key_t2 (depth_3 : U) (residue_8 : Int) (s_10 : Int) (x_11 : Int × Int) (many_12 : Int) : (Xc ⊕ (Option Int)) ⊕ (Int) :=
if (decide (s_10 < many_12)) = true then (
.inl (.inr (some ((x_11.1 + (Builtin.bitAnd (residue_8 - x_11.1) ((1 * 2 ^ (U.unI depth_3).toNat) - 1))) + (s_10 * 2 ^ (U.unI depth_3).toNat)))))
else (
let left_13 := s_10 - many_12
.inr left_13)
def m_nth_key_u2 (depth_3 : U) (residue_8 : Int) (s_10 : Int) (x_11 : Int × Int) (many_12 : Int) : Prop :=
((decide (s_10 < many_12)) = true → ((U.ty depth_3 = 1) ∧ (0 ≤ (U.unI depth_3) ∧ (U.unI depth_3) ≤ 1000000) ∧ (U.ty depth_3 = 1) ∧ (CShl s_10 (U.unI depth_3)) ∧ True)) ∧ ((decide (s_10 < many_12)) = false → ((∀ left_13, left_13 = (s_10 - many_12) → True)))
def m_nth_key_b1 (depth_3 : U) (residue_8 : Int) (s_10 : Int) (x_11 : Int × Int) : (Xc ⊕ (Option Int)) ⊕ (Int) :=
let many_12 := m_residue_count ([((x_11.1, x_11.2) : Int × Int)] : List (Int × Int)) (U.unI depth_3) residue_8
m_nth_key_t2 depth_3 residue_8 s_10 x_11 many_12
def m_nth_key_o1 (depth_3 : U) (residue_8 : Int) (s_10 : Int) (x_11 : Int × Int) : Prop :=
(U.ty depth_3 = 1) ∧ (m_residue_count_ok ([((x_11.1, x_11.2) : Int × Int)] : List (Int × Int)) (U.unI depth_3) residue_8) ∧ (∀ many_12, many_12 = (m_residue_count ([((x_11.1, x_11.2) : Int × Int)] : List (Int × Int)) (U.unI depth_3) residue_8) → m_nth_key_u2 depth_3 residue_8 s_10 x_11 many_12)
def m_nth_key_r1 (depth_3 : U) (residue_8 : Int) (s_10 : Int) : Xc ⊕ (Option Int) :=
.inr (none : Option Int)
def m_nth_key_q1 (depth_3 : U) (residue_8 : Int) (s_10 : Int) : Prop :=
True
def m_nth_key_t3 (spans_2 : U) (depth_3 : U) (residue_8 : Int) (left_9 : Int) : Xc ⊕ (Option Int) :=
sumC id (m_nth_key_r1 depth_3 residue_8) (loopR (m_nth_key_b1 depth_3 residue_8) left_9 (U.unSp spans_2))
def m_nth_key_u3 (spans_2 : U) (depth_3 : U) (residue_8 : Int) (left_9 : Int) : Prop :=
(spans_2 = U.ofSp (U.unSp spans_2)) ∧ (okR (m_nth_key_o1 depth_3 residue_8) (m_nth_key_b1 depth_3 residue_8) left_9 (U.unSp spans_2)) ∧ (∀ s_10, loopR (m_nth_key_b1 depth_3 residue_8) left_9 (U.unSp spans_2) = .inr s_10 → m_nth_key_q1 depth_3 residue_8 s_10)
def m_nth_key (table_1 : U) (spans_2 : U) (depth_3 : U) (tail_4 : U) (number_5 : U) : Xc ⊕ (Option Int) :=
xbind (m_require_place table_1 spans_2 depth_3 tail_4) (fun b_6 => xbind (m_require_number number_5) (fun b_7 => let residue_8 := m_residue_of (U.unTb table_1) (U.unI depth_3) (U.unI tail_4)
let left_9 := U.unI number_5
m_nth_key_t3 spans_2 depth_3 residue_8 left_9))
def m_nth_key_ok (table_1 : U) (spans_2 : U) (depth_3 : U) (tail_4 : U) (number_5 : U) : Prop :=
(m_require_place_ok table_1 spans_2 depth_3 tail_4) ∧ (∀ b_6, (m_require_place table_1 spans_2 depth_3 tail_4) = .inr b_6 → (((m_require_number_ok number_5) ∧ (∀ b_7, (m_require_number number_5) = .inr b_7 → (((U.ty table_1 = 7) ∧ (U.ty depth_3 = 1) ∧ (U.ty tail_4 = 1) ∧ (m_residue_of_ok (U.unTb table_1) (U.unI depth_3) (U.unI tail_4)) ∧ (U.ty number_5 = 1) ∧ (∀ residue_8, residue_8 = (m_residue_of (U.unTb table_1) (U.unI depth_3) (U.unI tail_4)) → ∀ left_9, left_9 = (U.unI number_5) → m_nth_key_u3 spans_2 depth_3 residue_8 left_9)))))))
def sp_nth_key (K : PySem.W.Frag) (CT : Nat → Addr) : Sp := spX (ι := U × U × U × U × U) CT (fun d => [(eU (CT 18)) d.1, (eU (CT 18)) d.2.1, (eU (CT 18)) d.2.2.1, (eU (CT 18)) d.2.2.2.1, (eU (CT 18)) d.2.2.2.2]) (fun d => m_nth_key_ok d.1 d.2.1 d.2.2.1 d.2.2.2.1 d.2.2.2.2) (fun d => m_nth_key d.1 d.2.1 d.2.2.1 d.2.2.2.1 d.2.2.2.2) (fun d => (eO eI) d)
abbrev s_nth_key : Stmt := top 41
abbrev N_nth_key : List Str := ["table", "spans", "depth", "tail", "number", "residue", "left", "first", "end", "many"]
theorem sc_nth_key : FnScope N_nth_key ["table", "spans", "depth", "tail", "number"] (defScope s_nth_key) := ⟨rfl, rfl, rfl, by decide +kernel, rfl, by decide +kernel, by decide +kernel⟩
section
variable {P : Program} {w : World} {K : PySem.W.Frag} {mg : Str → Option Value} {base : Heap} {CT : Nat → Addr}
theorem ok_nth_key {f : Addr} {fd : FuncData} (F : Fun K "nth_key" "nth_key" s_nth_key f fd) {a_require_place : Addr} {fd_require_place : FuncData} (F_require_place : Fun K "require_place" "require_place" s_require_place a_require_place fd_require_place) (G_require_place : FnG P w K mg base (L2.CX P w) 5 a_require_place fd_require_place ["table", "spans", "depth", "tail"] (sp_require_place K CT)) (j_require_place : mg "require_place" = some (.ref a_require_place)) (b_require_place : Binds K fd_require_place ["table", "spans", "depth", "tail"] []) {a_require_number : Addr} {fd_require_number : FuncData} (F_require_number : Fun K "require_number" "require_number" s_require_number a_require_number fd_require_number) (G_require_number : FnG P w K mg base (L2.CX P w) 2 a_require_number fd_require_number ["value"] (sp_require_number K CT)) (j_require_number : mg "require_number" = some (.ref a_require_number)) (b_require_number : Binds K fd_require_number ["value"] []) {a_residue_of : Addr} {fd_residue_of : FuncData} (F_residue_of : Fun K "residue_of" "residue_of" s_residue_of a_residue_of fd_residue_of) (G_residue_of : FnG P w K mg base CX0 1 a_residue_of fd_residue_of ["table", "depth", "tail"] (sp_residue_of K CT)) (j_residue_of : mg "residue_of" = some (.ref a_residue_of)) (b_residue_of : Binds K fd_residue_of ["table", "depth", "tail"] []) {a_residue_count : Addr} {fd_residue_count : FuncData} (F_residue_count : Fun K "residue_count" "residue_count" s_residue_count a_residue_count fd_residue_count) (G_residue_count : FnG P w K mg base CX0 1 a_residue_count fd_residue_count ["spans", "depth", "residue"] (sp_residue_count K CT)) (j_residue_count : mg "residue_count" = some (.ref a_residue_count)) (b_residue_count : Binds K fd_residue_count ["spans", "depth", "residue"] []) : FnG P w K mg base (L2.CX P w) 6 f fd ["table", "spans", "depth", "tail", "number"] (sp_nth_key K CT) := by
  refine Fw.Fun.okGX F sc_nth_key (fun vs H Q E h => ?_) (fun cdv A outer s H vs Q E hG hr h => ?_)
  · obtain ⟨d, F, _, _, h, _⟩ := h
    exact h.len
  · have nd := sc_nth_key.nd
    have hU := hr.units
    refine ⟨_, (pss_cons (ps_expr (pg_call G_require_place hG (hr.mono (by decide)) rfl j_require_place F_require_place.kp b_require_place .nil (passes_call (takes_of rfl rfl rfl rfl) (fun _ _ _ _ h => h)) (pa_cons (pv 0) (pa_cons (pv 1) (pa_cons (pv 2) (pa_cons (pv 3) pa_nil))))))
 (pss_cons (ps_expr (pg_call G_require_number hG (hr.mono (by decide)) rfl j_require_number F_require_number.kp b_require_number .nil (passes_call (takes_of rfl rfl rfl rfl) (fun _ _ _ _ h => h)) (pa_cons (pv 4) pa_nil)))
 (pss_cons (ps_par (i := 5) (j := 6) rfl nd rfl rfl (by decide) rfl rfl (pa_cons (pg_call G_residue_of hG (hr.mono (by decide)) rfl j_residue_of F_residue_of.kp b_residue_of .nil pass0 (pa_cons (pv 0) (pa_cons (pv 2) (pa_cons (pv 3) pa_nil)))) (pa_cons (pv 4) pa_nil)) (by rfl))
 (pss_cons (ps_for (passes_of rfl) rfl (pi_list (pv 1)) (pg_tup rfl (pgs_cons (pg_name (i := 7) nd rfl (by first | exact .inl rfl | exact .inr rfl)) (pgs_cons (pg_name (i := 8) nd rfl (by first | exact .inl rfl | exact .inr rfl)) pgs_nil))) (pss_cons (ps_set (i := 9) nd rfl (by first | exact .inl rfl | exact .inr rfl) (pg_call G_residue_count hG (hr.mono (by decide)) rfl j_residue_count F_residue_count.kp b_residue_count .nil pass0 (pa_cons (pe_lst (pa_cons (pe_tup (pa_cons (pv 7) (pa_cons (pv 8) pa_nil))) pa_nil)) (pa_cons (pv 2) (pa_cons (pv 5) pa_nil)))))
 (pss_cons (ps_if (pt_cmpR op_lt (pv 6) (pv 9) (nomark _)) (pss_cons (ps_ret (pe_op op_add (pe_op op_add (pv 7) (pe_op op_and (pe_op op_sub (pv 5) (pv 7)) (pe_op op_sub (pe_op op_shl pe_int (pv 2)) pe_int))) (pe_op op_shlW (pv 6) (pv 2))))
 pss_nil) pss_nil)
 (pss_cons (ps_aug (i := 6) nd rfl (by first | exact .inl rfl | exact .inr rfl) (pv 9) ip_sub)
 pss_nil))))
 (pss_cons (ps_ret pe_non)
 pss_nil))))), ?_⟩
    refine def_X h (fun d => Nat.le_of_ble_eq_true rfl) (fun d h A hE => ?_)
    obtain ⟨table_1, spans_2, depth_3, tail_4, number_5⟩ := d
    replace h : m_nth_key_ok table_1 spans_2 depth_3 tail_4 number_5 := h
    unfold m_nth_key_ok at h
    replace hE : ∀ y, m_nth_key table_1 spans_2 depth_3 tail_4 number_5 = .inl y → HE CT A E y := hE
    show SS _ [.fz (eAt A ((eU (CT 18)) table_1)), .fz (eAt A ((eU (CT 18)) spans_2)), .fz (eAt A ((eU (CT 18)) depth_3)), .fz (eAt A ((eU (CT 18)) tail_4)), .fz (eAt A ((eU (CT 18)) number_5)), .no, .no, .no, .no, .no] (FPX (eO eI) (m_nth_key table_1 spans_2 depth_3 tail_4 number_5))
    obtain ⟨g1, h⟩ := h
    refine ss_xS0 (G := (FPX (eO eI))) (W1 := fun b_6 => [.fz (eAt A ((eU (CT 18)) table_1)), .fz (eAt A ((eU (CT 18)) spans_2)), .fz (eAt A ((eU (CT 18)) depth_3)), .fz (eAt A ((eU (CT 18)) tail_4)), .fz (eAt A ((eU (CT 18)) number_5)), .no, .no, .no, .no, .no]) (res := fun b_6 => eN) (ex_call (A := A) (z := []) (i := 0) (table_1, spans_2, depth_3, tail_4) (as_cons (es_at (es_var 0 rfl)) (as_cons (es_at (es_var 1 rfl)) (as_cons (es_at (es_var 2 rfl)) (as_cons (es_at (es_var 3 rfl)) as_nil)))) g1 rfl trivial) (fun _ => xs_drop) hE (fun b_6 hm_b_6 hE he_b_6 => ?_)
    replace h := h b_6 hm_b_6
    refine ss_seqTo [.fz (eAt A ((eU (CT 18)) table_1)), .fz (eAt A ((eU (CT 18)) spans_2)), .fz (eAt A ((eU (CT 18)) depth_3)), .fz (eAt A ((eU (CT 18)) tail_4)), .fz (eAt A ((eU (CT 18)) number_5)), .no, .no, .no, .no, .no] (ss_drop he_b_6 Wk.refl) ?_
    obtain ⟨g2, h⟩ := h
    refine ss_xS0 (G := (FPX (eO eI))) (W1 := fun b_7 => [.fz (eAt A ((eU (CT 18)) table_1)), .fz (eAt A ((eU (CT 18)) spans_2)), .fz (eAt A ((eU (CT 18)) depth_3)), .fz (eAt A ((eU (CT 18)) tail_4)), .fz (eAt A ((eU (CT 18)) number_5)), .no, .no, .no, .no, .no]) (res := fun b_7 => eN) (ex_call (A := A) (z := []) (i := 0) number_5 (as_cons (es_at (es_var 4 rfl)) as_nil) g2 rfl trivial) (fun _ => xs_drop) hE (fun b_7 hm_b_7 hE he_b_7 => ?_)
    replace h := h b_7 hm_b_7
    refine ss_seqTo [.fz (eAt A ((eU (CT 18)) table_1)), .fz (eAt A ((eU (CT 18)) spans_2)), .fz (eAt A ((eU (CT 18)) depth_3)), .fz (eAt A ((eU (CT 18)) tail_4)), .fz (eAt A ((eU (CT 18)) number_5)), .no, .no, .no, .no, .no] (ss_drop he_b_7 Wk.refl) ?_
    obtain ⟨g3, g4, g5, g6, g7, h⟩ := h
    refine ss_seq2 (m_residue_of (U.unTb table_1) (U.unI depth_3) (U.unI tail_4)) (U.unI number_5) (fun residue_8 left_9 => [.fz (eAt A ((eU (CT 18)) table_1)), .fz (eAt A ((eU (CT 18)) spans_2)), .fz (eAt A ((eU (CT 18)) depth_3)), .fz (eAt A ((eU (CT 18)) tail_4)), .fz (eAt A ((eU (CT 18)) number_5)), .fz (eI residue_8), .fz (eI left_9), .no, .no, .no]) (ss_parM (am_fz (es_call (U.unTb table_1, U.unI depth_3, U.unI tail_4) (as_cons (es_unTb (es_at (es_var 0 rfl)) g3) (as_cons (es_unI (es_at (es_var 2 rfl)) g4) (as_cons (es_unI (es_at (es_var 3 rfl)) g5) as_nil))) g6) (am_fz (es_unI (es_at (es_var 4 rfl)) g7) am_nil)) Wk.refl) (fun residue_8 e_residue_8 left_9 e_left_9 => ?_)
    replace h := h residue_8 e_residue_8 left_9 e_left_9
    replace hE : ∀ y, m_nth_key_t3 spans_2 depth_3 residue_8 left_9 = Sum.inl y → HE CT A E y := fun y e => hE y (Eq.trans (by replace e_left_9 := Eq.symm e_left_9; subst e_left_9; replace e_residue_8 := Eq.symm e_residue_8; subst e_residue_8; rfl) e)
    refine ss_cut (FPX (eO eI)) (v' := m_nth_key_t3 spans_2 depth_3 residue_8 left_9) (by replace e_left_9 := Eq.symm e_left_9; subst e_left_9; replace e_residue_8 := Eq.symm e_residue_8; subst e_residue_8; rfl) ?_
    clear e_left_9 e_residue_8
    unfold m_nth_key_u3 at h
    obtain ⟨g8, g15, h⟩ := h
    refine sf_SRX (e := (eP2 K eI eI)) (l := (U.unSp spans_2)) (fun (s_10 : Int) => [.fz (eAt A ((eU (CT 18)) table_1)), .fz (eAt A ((eU (CT 18)) spans_2)), .fz (eAt A ((eU (CT 18)) depth_3)), .fz (eAt A ((eU (CT 18)) tail_4)), .fz (eAt A ((eU (CT 18)) number_5)), .fz (eI residue_8), .fz (eI s_10), .no, .no, .no]) (m_nth_key_b1 depth_3 residue_8) (m_nth_key_o1 depth_3 residue_8) left_9 (FPX (eO eI)) id (m_nth_key_r1 depth_3 residue_8) (c := Sum.inl) (G := HE CT A E) hE (is_list (e := (eP2 K eI eI)) (es_ofU K (e := eLs (eP2 K eI eI)) (C := (CT 18)) (x := U.unSp spans_2) (es_at (es_var 1 rfl)) g8)) Wk.refl g15 (fun s_10 x_11 _ h hE => ⟨[.fz (eAt A ((eU (CT 18)) table_1)), .fz (eAt A ((eU (CT 18)) spans_2)), .fz (eAt A ((eU (CT 18)) depth_3)), .fz (eAt A ((eU (CT 18)) tail_4)), .fz (eAt A ((eU (CT 18)) number_5)), .fz (eI residue_8), .fz (eI s_10), .fz (eI x_11.1), .fz (eI x_11.2), .no], _, gs_tup (gs_cons (gs_name 7) (gs_cons (gs_name 8) gs_nil)), ?_⟩) (fun s_10 e_s_10 hE => ?_)
    · unfold m_nth_key_o1 at h
      replace hE : ∀ y, m_nth_key_b1 depth_3 residue_8 s_10 x_11 = (fun y => Sum.inl (Sum.inl y)) y → HE CT A E y := fun y e => hE y _ e rfl
      obtain ⟨g9, g10, h⟩ := h
      refine ss_seq1 (m_residue_count ([((x_11.1, x_11.2) : Int × Int)] : List (Int × Int)) (U.unI depth_3) residue_8) (fun many_12 => [.fz (eAt A ((eU (CT 18)) table_1)), .fz (eAt A ((eU (CT 18)) spans_2)), .fz (eAt A ((eU (CT 18)) depth_3)), .fz (eAt A ((eU (CT 18)) tail_4)), .fz (eAt A ((eU (CT 18)) number_5)), .fz (eI residue_8), .fz (eI s_10), .fz (eI x_11.1), .fz (eI x_11.2), .fz (eI many_12)]) (ss_set (es_call (([((x_11.1, x_11.2) : Int × Int)] : List (Int × Int)), U.unI depth_3, residue_8) (as_cons (es_frs (eP2 K eI eI) ([((x_11.1, x_11.2) : Int × Int)] : List (Int × Int)) (en_lst (rs := List.map (eP2 K eI eI) [((x_11.1, x_11.2) : Int × Int)]) (as_cons (es_tup (K := K) (as_cons (es_var 7 rfl) (as_cons (es_var 8 rfl) as_nil))) as_nil))) (as_cons (es_unI (es_at (es_var 2 rfl)) g9) (as_cons (es_var 5 rfl) as_nil))) g10) Wk.refl) (fun many_12 e_many_12 => ?_)
      replace h := h many_12 e_many_12
      replace hE : ∀ y, m_nth_key_t2 depth_3 residue_8 s_10 x_11 many_12 = (fun y => Sum.inl (Sum.inl y)) y → HE CT A E y := fun y e => hE y (Eq.trans (by replace e_many_12 := Eq.symm e_many_12; subst e_many_12; rfl) e)
      refine ss_cut (LQ (fun (s_10 : Int) => [.fz (eAt A ((eU (CT 18)) table_1)), .fz (eAt A ((eU (CT 18)) spans_2)), .fz (eAt A ((eU (CT 18)) depth_3)), .fz (eAt A ((eU (CT 18)) tail_4)), .fz (eAt A ((eU (CT 18)) number_5)), .fz (eI residue_8), .fz (eI s_10), .no, .no, .no]) (FPX (eO eI)) id) (v' := m_nth_key_t2 depth_3 residue_8 s_10 x_11 many_12) (by replace e_many_12 := Eq.symm e_many_12; subst e_many_12; rfl) ?_
      clear e_many_12
      unfold m_nth_key_u2 at h
      obtain ⟨hA, hB⟩ := h
      refine ss_ifLv (LQ (fun (s_10 : Int) => [.fz (eAt A ((eU (CT 18)) table_1)), .fz (eAt A ((eU (CT 18)) spans_2)), .fz (eAt A ((eU (CT 18)) depth_3)), .fz (eAt A ((eU (CT 18)) tail_4)), .fz (eAt A ((eU (CT 18)) number_5)), .fz (eI residue_8), .fz (eI s_10), .no, .no, .no]) (FPX (eO eI)) id) (et_cmp (es_var 6 rfl) (es_var 9 rfl) q_lt) (fun hc => ?_) (fun hc => ?_)
      · replace h := hA hc; clear hA hB; replace hE := HEt hc hE
        obtain ⟨g11, g12, g13, g14, h⟩ := h
        refine ss_retq (es_add (es_add (es_var 7 rfl) (es_and (es_sub (es_var 5 rfl) (es_var 7 rfl)) (es_sub (es_shlL (i := 1) es_c (es_unI (es_at (es_var 2 rfl)) g11) g12 (by decide)) es_c))) (es_shlW (es_var 6 rfl) (es_unI (es_at (es_var 2 rfl)) g13) g14)) ?_
        exact ⟨_, rfl, rfl⟩
      · replace h := hB hc; clear hA hB; replace hE := HEf hc hE
        refine ss_nxq ?_
        refine ss_seq1 (s_10 - many_12) (fun left_13 => [.fz (eAt A ((eU (CT 18)) table_1)), .fz (eAt A ((eU (CT 18)) spans_2)), .fz (eAt A ((eU (CT 18)) depth_3)), .fz (eAt A ((eU (CT 18)) tail_4)), .fz (eAt A ((eU (CT 18)) number_5)), .fz (eI residue_8), .fz (eI left_13), .fz (eI x_11.1), .fz (eI x_11.2), .fz (eI many_12)]) (ss_aug rfl (es_var 9 rfl) Wk.refl) (fun left_13 e_left_13 => ?_)
        replace h := h left_13 e_left_13
        replace e_left_13 := Eq.symm e_left_13; subst e_left_13
        exact ss_nx ⟨.inr rfl, ⟨.inr rfl, ⟨.inr rfl, ⟨.inr rfl, ⟨.inr rfl, ⟨.inr rfl, ⟨.inr rfl, ⟨.inl ⟨rfl, rfl⟩, ⟨.inl ⟨rfl, rfl⟩, ⟨.inl ⟨rfl, rfl⟩, trivial⟩⟩⟩⟩⟩⟩⟩⟩⟩⟩
    · replace h := h s_10 e_s_10; unfold m_nth_key_q1 at h
      refine ss_retq es_c ?_
      exact ⟨_, rfl, rfl⟩
end
def m_bag (cell_1 : Int) : Bag :=
⟨max2 0 (cell_1 - (10 ^ 18)), cell_1, 0⟩
def m_bag_ok (cell_1 : Int) : Prop :=
True
def sp_bag (K : PySem.W.Frag) (CT : Nat → Addr) : Sp := spN (ι := Int) (fun d => [eI d]) (fun d => m_bag_ok d) (fun d => bagR (m_bag d))
abbrev s_bag : Stmt := top 43
abbrev N_bag : List Str := ["_law_cell"]
theorem sc_bag : FnScope N_bag ["_law_cell"] (defScope s_bag) := ⟨rfl, rfl, rfl, by decide +kernel, rfl, by decide +kernel, by decide +kernel⟩
section
variable {P : Program} {w : World} {K : PySem.W.Frag} {mg : Str → Option Value} {base : Heap} {CT : Nat → Addr}
theorem ok_bag {f : Addr} {fd : FuncData} (F : Fun K "_law_bag" "_law_bag" s_bag f fd) (n_max : mg "max" = none) : FnG P w K mg base CX0 1 f fd ["_law_cell"] (sp_bag K CT) := by
  refine Fun.okG F sc_bag (fun vs H Q E h => ?_) (fun cdv A outer s H vs Q E hG hr h => ?_)
  · obtain ⟨d, F, _, _, h, _⟩ := h
    exact h.len
  · have nd := sc_bag.nd
    have hU := hr.units
    refine ⟨_, (pss_cons (ps_ret (pe_lst (pa_cons (pe_callB (call_max2 rfl) rfl n_max (by decide +kernel) (pa_cons pe_int (pa_cons (pe_op op_sub (pv 0) (pe_op op_pow pe_int pe_int)) pa_nil))) (pa_cons (pv 0) (pa_cons pe_int pa_nil)))))
 pss_nil), ?_⟩
    refine def_N h (fun d => Nat.le_of_ble_eq_true rfl) (fun cell_1 h => ?_)
    replace h : m_bag_ok cell_1 := h
    unfold m_bag_ok at h
    show SSN _ [.fz (eI cell_1)] _
    exact sn_ret (en_lst (as_cons (es_max2 es_c (es_sub (es_var 0 rfl) (es_pow es_c es_c ⟨by decide, by decide, by decide⟩))) (as_cons (es_var 0 rfl) (as_cons es_c as_nil))))
end
def m_pick_t1 (many_2 : Int) (bag_3 : Bag) : Int × Bag :=
if (decide (0 < bag_3.a)) = true then (
let told_4 := bag_3.a % many_2
let bag_5 := (⟨bag_3.a / many_2, bag_3.c, bag_3.t⟩ : Bag)
(told_4, bag_5))
else (
let seed_6 := bag_3.c
let turn_7 := bag_3.t
let first_8 := ((((seed_6 % 2147483629) * 48271) + (turn_7 * 69621)) + 12345) % 2147483647
let second_9 := ((first_8 * first_8) + (turn_7 * 40692)) % 2147483587
let drawn_10 := ((first_8 * 2147483587) + second_9) / 32
let j_12 : Int := (if (decide ((10 ^ 15) < many_2)) = true then (
let drawn_11 := (drawn_10 ^ 8) + second_9
drawn_11)
else (
drawn_10))
(j_12 % many_2, bag_3))
def m_pick_u1 (many_2 : Int) (bag_3 : Bag) : Prop :=
((decide (0 < bag_3.a)) = true → (((0 : Int) < many_2) ∧ (∀ told_4, told_4 = (bag_3.a % many_2) → (CDivW bag_3.a many_2) ∧ (∀ bag_5, bag_5 = (⟨bag_3.a / many_2, bag_3.c, bag_3.t⟩ : Bag) → True)))) ∧ ((decide (0 < bag_3.a)) = false → ((∀ seed_6, seed_6 = bag_3.c → ∀ turn_7, turn_7 = bag_3.t → (∀ first_8, first_8 = (((((seed_6 % 2147483629) * 48271) + (turn_7 * 69621)) + 12345) % 2147483647) → (CMulW first_8 first_8) ∧ (∀ second_9, second_9 = (((first_8 * first_8) + (turn_7 * 40692)) % 2147483587) → (∀ drawn_10, drawn_10 = (((first_8 * 2147483587) + second_9) / 32) → ((decide ((10 ^ 15) < many_2)) = true → ((drawn_10.natAbs < 2 ^ 64) ∧ (∀ drawn_11, drawn_11 = ((drawn_10 ^ 8) + second_9) → True))) ∧ ((decide ((10 ^ 15) < many_2)) = false → (True)) ∧ (∀ j_12 : Int, j_12 = (if (decide ((10 ^ 15) < many_2)) = true then (
let drawn_11 := (drawn_10 ^ 8) + second_9
drawn_11)
else (
drawn_10)) → (((0 : Int) < many_2) ∧ True))))))))
def m_pick (bag_1 : Bag) (many_2 : Int) : Int × Bag :=
let bag_3 := (⟨bag_1.a, bag_1.c, bag_1.t + 1⟩ : Bag)
m_pick_t1 many_2 bag_3
def m_pick_ok (bag_1 : Bag) (many_2 : Int) : Prop :=
(∀ bag_3, bag_3 = (⟨bag_1.a, bag_1.c, bag_1.t + 1⟩ : Bag) → m_pick_u1 many_2 bag_3)
def sp_pick (K : PySem.W.Frag) (CT : Nat → Addr) : Sp := spB (ι := Bag × Int) (fun d => bagR d.1) (fun d => [eI d.2]) (fun d => m_pick_ok d.1 d.2) (fun d => bagR (m_pick d.1 d.2).2) (fun d => eI ((m_pick d.1 d.2).1))
abbrev s_pick : Stmt := top 44
abbrev N_pick : List Str := ["_law_bag_here", "_law_many", "_law_told_here", "_law_seed", "_law_turn", "_law_first", "_law_second", "_law_drawn"]
theorem sc_pick : FnScope N_pick ["_law_bag_here", "_law_many"] (defScope s_pick) := ⟨rfl, rfl, rfl, by decide +kernel, rfl, by decide +kernel, by decide +kernel⟩
section
variable {P : Program} {w : World} {K : PySem.W.Frag} {mg : Str → Option Value} {base : Heap} {CT : Nat → Addr}
theorem ok_pick {f : Addr} {fd : FuncData} (F : Fun K "_law_pick" "_law_pick" s_pick f fd) (n_int : mg "int" = none) : FnG P w K mg base CX0 1 f fd ["_law_bag_here", "_law_many"] (sp_pick K CT) := by
  refine Fun.okG F sc_pick (fun vs H Q E h => ?_) (fun cdv A outer s H vs Q E hG hr h => ?_)
  · obtain ⟨d, F, p, o, ws, rfl, _, _, _, _, _, h, _⟩ := h
    exact congrArg (· + 1) h.len
  · have nd := sc_pick.nd
    have hU := hr.units
    refine ⟨_, (pss_cons (ps_asg (pe_op op_add (pe_ix (ix_listK (K := K) rfl) (pv 0) pe_int (fun _ _ => rfl)) pe_int) (pg_sub (pv 0) pe_int set_list))
 (pss_cons (ps_if (pt_cmpR op_gt (pe_ix (ix_listK (K := K) rfl) (pv 0) pe_int (fun _ _ => rfl)) pe_int (nomark _)) (pss_cons (ps_set (i := 2) nd rfl (by first | exact .inl rfl | exact .inr rfl) (pe_op op_mod (pe_callTy call_int1 rfl n_int (by decide +kernel) (pa_cons (pe_ix (ix_listK (K := K) rfl) (pv 0) pe_int (fun _ _ => rfl)) pa_nil)) (pv 1)))
 (pss_cons (ps_asg (pe_op op_fdivW (pe_callTy call_int1 rfl n_int (by decide +kernel) (pa_cons (pe_ix (ix_listK (K := K) rfl) (pv 0) pe_int (fun _ _ => rfl)) pa_nil)) (pv 1)) (pg_sub (pv 0) pe_int set_list))
 (pss_cons (ps_ret (pv 2))
 pss_nil))) pss_nil)
 (pss_cons (ps_par (i := 3) (j := 4) rfl nd rfl rfl (by decide) rfl rfl (pa_cons (pe_callTy call_int1 rfl n_int (by decide +kernel) (pa_cons (pe_ix (ix_listK (K := K) rfl) (pv 0) pe_int (fun _ _ => rfl)) pa_nil)) (pa_cons (pe_callTy call_int1 rfl n_int (by decide +kernel) (pa_cons (pe_ix (ix_listK (K := K) rfl) (pv 0) pe_int (fun _ _ => rfl)) pa_nil)) pa_nil)) (by rfl))
 (pss_cons (ps_set (i := 5) nd rfl (by first | exact .inl rfl | exact .inr rfl) (pe_op op_mod (pe_callTy call_int1 rfl n_int (by decide +kernel) (pa_cons (pe_op op_add (pe_op op_add (pe_op op_mul (pe_op op_mod (pv 3) pe_int) pe_int) (pe_op op_mul (pv 4) pe_int)) pe_int) pa_nil)) pe_int))
 (pss_cons (ps_set (i := 6) nd rfl (by first | exact .inl rfl | exact .inr rfl) (pe_op op_mod (pe_callTy call_int1 rfl n_int (by decide +kernel) (pa_cons (pe_op op_add (pe_op op_mulW (pv 5) (pv 5)) (pe_op op_mul (pv 4) pe_int)) pa_nil)) pe_int))
 (pss_cons (ps_set (i := 7) nd rfl (by first | exact .inl rfl | exact .inr rfl) (pe_op op_fdivW (pe_callTy call_int1 rfl n_int (by decide +kernel) (pa_cons (pe_op op_add (pe_op op_mul (pv 5) pe_int) (pv 6)) pa_nil)) pe_int))
 (pss_cons (ps_if (pt_cmpR op_gt (pv 1) (pe_op op_pow pe_int pe_int) (nomark _)) (pss_cons (ps_set (i := 7) nd rfl (by first | exact .inl rfl | exact .inr rfl) (pe_op op_add (pe_op op_pow (pv 7) pe_int) (pv 6)))
 pss_nil) pss_nil)
 (pss_cons (ps_ret (pe_op op_mod (pe_callTy call_int1 rfl n_int (by decide +kernel) (pa_cons (pv 7) pa_nil)) (pv 1)))
 pss_nil)))))))), ?_⟩
    refine def_B h (fun d => Nat.le_of_ble_eq_true rfl) (fun d p h => ?_)
    obtain ⟨bag_1, many_2⟩ := d
    replace h : m_pick_ok bag_1 many_2 := h
    unfold m_pick_ok at h
    show SS _ [.ow (oLq (some p) (bagR bag_1)), .fz (eI many_2), .no, .no, .no, .no, .no, .no] (BP eI p (m_pick bag_1 many_2))
    refine ss_seq1 (⟨bag_1.a, bag_1.c, bag_1.t + 1⟩ : Bag) (fun bag_3 => [.ow (oLq (some p) (bagR bag_3)), .fz (eI many_2), .no, .no, .no, .no, .no, .no]) (ss_setk (k := 2) (es_add (es_ixO (k := 2) (i := 0) rfl rfl) es_c) rfl (by show 2 < 3; decide) Wk.refl) (fun bag_3 e_bag_3 => ?_)
    replace h := h bag_3 e_bag_3
    refine ss_cut (BP eI p) (v' := m_pick_t1 many_2 bag_3) (by replace e_bag_3 := Eq.symm e_bag_3; subst e_bag_3; rfl) ?_
    clear e_bag_3
    unfold m_pick_u1 at h
    obtain ⟨hA, hB⟩ := h
    refine ss_ifLv (BP eI p) (et_cmp (es_ixO (k := 0) (i := 0) rfl rfl) es_c q_gt) (fun hc => ?_) (fun hc => ?_)
    · replace h := hA hc; clear hA hB
      obtain ⟨g1, h⟩ := h
      refine ss_seq1 (bag_3.a % many_2) (fun told_4 => [.ow (oLq (some p) (bagR bag_3)), .fz (eI many_2), .fz (eI told_4), .no, .no, .no, .no, .no]) (ss_set (es_mod (es_int (es_ixO (k := 0) (i := 0) rfl rfl)) (es_var 1 rfl) g1) Wk.refl) (fun told_4 e_told_4 => ?_)
      replace h := h told_4 e_told_4
      obtain ⟨g2, h⟩ := h
      refine ss_seq1 (⟨bag_3.a / many_2, bag_3.c, bag_3.t⟩ : Bag) (fun bag_5 => [.ow (oLq (some p) (bagR bag_5)), .fz (eI many_2), .fz (eI told_4), .no, .no, .no, .no, .no]) (ss_setk (k := 0) (es_fdivW (es_int (es_ixO (k := 0) (i := 0) rfl rfl)) (es_var 1 rfl) g2) rfl (by show 0 < 3; decide) Wk.refl) (fun bag_5 e_bag_5 => ?_)
      replace h := h bag_5 e_bag_5
      refine ss_retq (es_var 2 rfl) ?_
      replace e_bag_5 := Eq.symm e_bag_5; subst e_bag_5; replace e_told_4 := Eq.symm e_told_4; subst e_told_4
      exact ⟨rfl, rfl⟩
    · replace h := hB hc; clear hA hB
      refine ss_nxq ?_
      refine ss_seq2 bag_3.c bag_3.t (fun seed_6 turn_7 => [.ow (oLq (some p) (bagR bag_3)), .fz (eI many_2), .no, .fz (eI seed_6), .fz (eI turn_7), .no, .no, .no]) (ss_parM (am_fz (es_int (es_ixO (k := 1) (i := 0) rfl rfl)) (am_fz (es_int (es_ixO (k := 2) (i := 0) rfl rfl)) am_nil)) Wk.refl) (fun seed_6 e_seed_6 turn_7 e_turn_7 => ?_)
      replace h := h seed_6 e_seed_6 turn_7 e_turn_7
      refine ss_seq1 (((((seed_6 % 2147483629) * 48271) + (turn_7 * 69621)) + 12345) % 2147483647) (fun first_8 => [.ow (oLq (some p) (bagR bag_3)), .fz (eI many_2), .no, .fz (eI seed_6), .fz (eI turn_7), .fz (eI first_8), .no, .no]) (ss_set (es_mod (es_int (es_add (es_add (es_mul (es_mod (es_var 3 rfl) es_c (by decide)) es_c (.inr (by decide))) (es_mul (es_var 4 rfl) es_c (.inr (by decide)))) es_c)) es_c (by decide)) Wk.refl) (fun first_8 e_first_8 => ?_)
      replace h := h first_8 e_first_8
      obtain ⟨g3, h⟩ := h
      refine ss_seq1 (((first_8 * first_8) + (turn_7 * 40692)) % 2147483587) (fun second_9 => [.ow (oLq (some p) (bagR bag_3)), .fz (eI many_2), .no, .fz (eI seed_6), .fz (eI turn_7), .fz (eI first_8), .fz (eI second_9), .no]) (ss_set (es_mod (es_int (es_add (es_mulW (es_var 5 rfl) (es_var 5 rfl) g3) (es_mul (es_var 4 rfl) es_c (.inr (by decide))))) es_c (by decide)) Wk.refl) (fun second_9 e_second_9 => ?_)
      replace h := h second_9 e_second_9
      refine ss_seq1 (((first_8 * 2147483587) + second_9) / 32) (fun drawn_10 => [.ow (oLq (some p) (bagR bag_3)), .fz (eI many_2), .no, .fz (eI seed_6), .fz (eI turn_7), .fz (eI first_8), .fz (eI second_9), .fz (eI drawn_10)]) (ss_set (es_fdivW (es_int (es_add (es_mul (es_var 5 rfl) es_c (.inr (by decide))) (es_var 6 rfl))) es_c ⟨by decide, by decide +kernel⟩) Wk.refl) (fun drawn_10 e_drawn_10 => ?_)
      replace h := h drawn_10 e_drawn_10
      obtain ⟨hA, hB, h⟩ := h
      refine ss_ifj (α := Int) (
let drawn_11 := (drawn_10 ^ 8) + second_9
drawn_11)
                                                                                                                        (
drawn_10)
                                                                                                                        (fun j_12 => [.ow (oLq (some p) (bagR bag_3)), .fz (eI many_2), .no, .fz (eI seed_6), .fz (eI turn_7), .fz (eI first_8), .fz (eI second_9), .fz (eI j_12)]) (et_cmp (es_var 1 rfl) (es_pow es_c es_c ⟨by decide, by decide, by decide⟩) q_gt) (fun hc => ?_) (fun hc => ?_) (fun j_12 e_j_12 => ?_)
      · replace h := hA hc; clear hA hB
        obtain ⟨g4, h⟩ := h
        refine ss_seq1 ((drawn_10 ^ 8) + second_9) (fun drawn_11 => [.ow (oLq (some p) (bagR bag_3)), .fz (eI many_2), .no, .fz (eI seed_6), .fz (eI turn_7), .fz (eI first_8), .fz (eI second_9), .fz (eI drawn_11)]) (ss_set (es_add (es_pow (es_var 7 rfl) es_c ⟨by decide, by decide, g4⟩) (es_var 6 rfl)) Wk.refl) (fun drawn_11 e_drawn_11 => ?_)
        replace h := h drawn_11 e_drawn_11
        replace e_drawn_11 := Eq.symm e_drawn_11; subst e_drawn_11
        exact ss_nx ⟨.inr rfl, ⟨.inr rfl, ⟨.inr rfl, ⟨.inr rfl, ⟨.inr rfl, ⟨.inr rfl, ⟨.inr rfl, ⟨.inr rfl, trivial⟩⟩⟩⟩⟩⟩⟩⟩
      · replace h := hB hc; clear hA hB
        exact ss_nx ⟨.inr rfl, ⟨.inr rfl, ⟨.inr rfl, ⟨.inr rfl, ⟨.inr rfl, ⟨.inr rfl, ⟨.inr rfl, ⟨.inr rfl, trivial⟩⟩⟩⟩⟩⟩⟩⟩
      clear hA hB; replace h := h j_12 e_j_12
      obtain ⟨g5, h⟩ := h
      refine ss_retq (es_mod (es_int (es_var 7 rfl)) (es_var 1 rfl) g5) ?_
      replace e_j_12 := Eq.symm e_j_12; subst e_j_12; replace e_drawn_10 := Eq.symm e_drawn_10; subst e_drawn_10; replace e_second_9 := Eq.symm e_second_9; subst e_second_9; replace e_first_8 := Eq.symm e_first_8; subst e_first_8; replace e_turn_7 := Eq.symm e_turn_7; subst e_turn_7; replace e_seed_6 := Eq.symm e_seed_6; subst e_seed_6
      exact ⟨rfl, rfl⟩
end
def m_three (bag_1 : Bag) (most_2 : Int) : (Int × Int × Int) × Bag :=
let rate_4 := (2 * ((m_pick ((m_pick bag_1 2).2) (nth ([5, 5 * (10 ^ 29)] : List Int) ((m_pick bag_1 2).1))).1)) + 1
let bag_3 := (m_pick ((m_pick bag_1 2).2) (nth ([5, 5 * (10 ^ 29)] : List Int) ((m_pick bag_1 2).1))).2
(((1 + ((m_pick bag_3 most_2).1), rate_4, (m_pick ((m_pick ((m_pick bag_3 most_2).2) 2).2) (nth ([9, (10 ^ 30) + 1] : List Int) ((m_pick ((m_pick bag_3 most_2).2) 2).1))).1) : Int × Int × Int), (m_pick ((m_pick ((m_pick bag_3 most_2).2) 2).2) (nth ([9, (10 ^ 30) + 1] : List Int) ((m_pick ((m_pick bag_3 most_2).2) 2).1))).2)
def m_three_ok (bag_1 : Bag) (most_2 : Int) : Prop :=
(m_pick_ok bag_1 2) ∧ (0 ≤ ((m_pick bag_1 2).1) ∧ ((m_pick bag_1 2).1) < ([5, 5 * (10 ^ 29)] : List Int).length) ∧ (m_pick_ok ((m_pick bag_1 2).2) (nth ([5, 5 * (10 ^ 29)] : List Int) ((m_pick bag_1 2).1))) ∧ (∀ rate_4, rate_4 = ((2 * ((m_pick ((m_pick bag_1 2).2) (nth ([5, 5 * (10 ^ 29)] : List Int) ((m_pick bag_1 2).1))).1)) + 1) → ∀ bag_3, bag_3 = ((m_pick ((m_pick bag_1 2).2) (nth ([5, 5 * (10 ^ 29)] : List Int) ((m_pick bag_1 2).1))).2) → (m_pick_ok bag_3 most_2) ∧ (m_pick_ok ((m_pick bag_3 most_2).2) 2) ∧ (0 ≤ ((m_pick ((m_pick bag_3 most_2).2) 2).1) ∧ ((m_pick ((m_pick bag_3 most_2).2) 2).1) < ([9, (10 ^ 30) + 1] : List Int).length) ∧ (m_pick_ok ((m_pick ((m_pick bag_3 most_2).2) 2).2) (nth ([9, (10 ^ 30) + 1] : List Int) ((m_pick ((m_pick bag_3 most_2).2) 2).1))) ∧ True)
def sp_three (K : PySem.W.Frag) (CT : Nat → Addr) : Sp := spB (ι := Bag × Int) (fun d => bagR d.1) (fun d => [eI d.2]) (fun d => m_three_ok d.1 d.2) (fun d => bagR (m_three d.1 d.2).2) (fun d => (eP3 K eI eI eI) ((m_three d.1 d.2).1))
abbrev s_three : Stmt := top 45
abbrev N_three : List Str := ["_law_bag_here", "_law_most", "_law_rate"]
theorem sc_three : FnScope N_three ["_law_bag_here", "_law_most"] (defScope s_three) := ⟨rfl, rfl, rfl, by decide +kernel, rfl, by decide +kernel, by decide +kernel⟩
section
variable {P : Program} {w : World} {K : PySem.W.Frag} {mg : Str → Option Value} {base : Heap} {CT : Nat → Addr}
theorem ok_three {f : Addr} {fd : FuncData} (F : Fun K "_law_three" "_law_three" s_three f fd) {a_pick : Addr} {fd_pick : FuncData} (F_pick : Fun K "_law_pick" "_law_pick" s_pick a_pick fd_pick) (G_pick : FnG P w K mg base CX0 1 a_pick fd_pick ["_law_bag_here", "_law_many"] (sp_pick K CT)) (j_pick : mg "_law_pick" = some (.ref a_pick)) (b_pick : Binds K fd_pick ["_law_bag_here", "_law_many"] []) : FnG P w K mg base CX0 2 f fd ["_law_bag_here", "_law_most"] (sp_three K CT) := by
  refine Fun.okG F sc_three (fun vs H Q E h => ?_) (fun cdv A outer s H vs Q E hG hr h => ?_)
  · obtain ⟨d, F, p, o, ws, rfl, _, _, _, _, _, h, _⟩ := h
    exact congrArg (· + 1) h.len
  · have nd := sc_three.nd
    have hU := hr.units
    refine ⟨_, (pss_cons (ps_set (i := 2) nd rfl (by first | exact .inl rfl | exact .inr rfl) (pe_op op_add (pe_op op_mul pe_int (pg_call G_pick hG (hr.mono (by decide)) rfl j_pick F_pick.kp b_pick .nil pass0 (pa_cons (pv 0) (pa_cons (pe_ix (ix_listK (K := K) rfl) (pe_lst (pa_cons pe_int (pa_cons (pe_op op_mul pe_int (pe_op op_pow pe_int pe_int)) pa_nil))) (pg_call G_pick hG (hr.mono (by decide)) rfl j_pick F_pick.kp b_pick .nil pass0 (pa_cons (pv 0) (pa_cons pe_int pa_nil))) (fun _ _ => rfl)) pa_nil)))) pe_int))
 (pss_cons (ps_ret (pe_tup (pa_cons (pe_op op_add pe_int (pg_call G_pick hG (hr.mono (by decide)) rfl j_pick F_pick.kp b_pick .nil pass0 (pa_cons (pv 0) (pa_cons (pv 1) pa_nil)))) (pa_cons (pv 2) (pa_cons (pg_call G_pick hG (hr.mono (by decide)) rfl j_pick F_pick.kp b_pick .nil pass0 (pa_cons (pv 0) (pa_cons (pe_ix (ix_listK (K := K) rfl) (pe_lst (pa_cons pe_int (pa_cons (pe_op op_add (pe_op op_pow pe_int pe_int) pe_int) pa_nil))) (pg_call G_pick hG (hr.mono (by decide)) rfl j_pick F_pick.kp b_pick .nil pass0 (pa_cons (pv 0) (pa_cons pe_int pa_nil))) (fun _ _ => rfl)) pa_nil))) pa_nil)))))
 pss_nil)), ?_⟩
    refine def_B h (fun d => Nat.le_of_ble_eq_true rfl) (fun d p h => ?_)
    obtain ⟨bag_1, most_2⟩ := d
    replace h : m_three_ok bag_1 most_2 := h
    unfold m_three_ok at h
    show SS _ [.ow (oLq (some p) (bagR bag_1)), .fz (eI most_2), .no] (BP (eP3 K eI eI eI) p (m_three bag_1 most_2))
    obtain ⟨g1, g2, g3, h⟩ := h
    refine ss_seq2 ((2 * ((m_pick ((m_pick bag_1 2).2) (nth ([5, 5 * (10 ^ 29)] : List Int) ((m_pick bag_1 2).1))).1)) + 1) ((m_pick ((m_pick bag_1 2).2) (nth ([5, 5 * (10 ^ 29)] : List Int) ((m_pick bag_1 2).1))).2) (fun rate_4 bag_3 => [.ow (oLq (some p) (bagR bag_3)), .fz (eI most_2), .fz (eI rate_4)]) (ss_set (es_add (es_mul es_c (es_callB ((m_pick bag_1 2).2, nth ([5, 5 * (10 ^ 29)] : List Int) ((m_pick bag_1 2).1)) 0 rfl (as_cons (es_ixL (e := eI) (es_frs eI ([5, 5 * (10 ^ 29)] : List Int) (en_lst (as_cons es_c (as_cons (es_mul es_c (es_pow es_c es_c ⟨by decide, by decide, by decide⟩) (.inl (by decide))) as_nil)))) (es_callB (bag_1, 2) 0 rfl (as_cons es_c as_nil) rfl g1) g2) as_nil) rfl g3) (.inl (by decide))) es_c) Wk.refl) (fun rate_4 e_rate_4 bag_3 e_bag_3 => ?_)
    replace h := h rate_4 e_rate_4 bag_3 e_bag_3
    obtain ⟨g4, g5, g6, g7, h⟩ := h
    refine ss_retq (es_tup (K := K) (as_cons (es_add es_c (es_callB (bag_3, most_2) 0 rfl (as_cons (es_var 1 rfl) as_nil) rfl g4)) (as_cons (es_var 2 rfl) (as_cons (es_callB ((m_pick ((m_pick bag_3 most_2).2) 2).2, nth ([9, (10 ^ 30) + 1] : List Int) ((m_pick ((m_pick bag_3 most_2).2) 2).1)) 0 rfl (as_cons (es_ixL (e := eI) (es_frs eI ([9, (10 ^ 30) + 1] : List Int) (en_lst (as_cons es_c (as_cons (es_add (es_pow es_c es_c ⟨by decide, by decide, by decide⟩) es_c) as_nil)))) (es_callB ((m_pick bag_3 most_2).2, 2) 0 rfl (as_cons es_c as_nil) rfl g5) g6) as_nil) rfl g7) as_nil)))) ?_
    replace e_bag_3 := Eq.symm e_bag_3; subst e_bag_3; replace e_rate_4 := Eq.symm e_rate_4; subst e_rate_4
    exact ⟨rfl, rfl⟩
end
def m_spans_b1 (wide_3 : Int) (s_7 : Bag × (List (Int × Int)) × Int) (x_8 : Int) : Bag × (List (Int × Int)) × Int :=
let at_10 := s_7.2.2 + (nth ([0, 1, (m_pick s_7.1 wide_3).1] : List Int) ((m_pick ((m_pick s_7.1 wide_3).2) 3).1))
let bag_9 := (m_pick ((m_pick s_7.1 wide_3).2) 3).2
let found_11 := s_7.2.1 ++ [((at_10, (at_10 + 1) + ((m_pick bag_9 wide_3).1)) : Int × Int)]
let bag_12 := (m_pick bag_9 wide_3).2
let at_13 := (nth found_11 (found_11.length - 1)).2
(bag_12, found_11, at_13)
def m_spans_o1 (wide_3 : Int) (s_7 : Bag × (List (Int × Int)) × Int) (x_8 : Int) : Prop :=
(m_pick_ok s_7.1 wide_3) ∧ (m_pick_ok ((m_pick s_7.1 wide_3).2) 3) ∧ (0 ≤ ((m_pick ((m_pick s_7.1 wide_3).2) 3).1) ∧ ((m_pick ((m_pick s_7.1 wide_3).2) 3).1) < ([0, 1, (m_pick s_7.1 wide_3).1] : List Int).length) ∧ (∀ at_10, at_10 = (s_7.2.2 + (nth ([0, 1, (m_pick s_7.1 wide_3).1] : List Int) ((m_pick ((m_pick s_7.1 wide_3).2) 3).1))) → ∀ bag_9, bag_9 = ((m_pick ((m_pick s_7.1 wide_3).2) 3).2) → (m_pick_ok bag_9 wide_3) ∧ (s_7.2.1.length < 16000000) ∧ (∀ found_11, found_11 = (s_7.2.1 ++ [((at_10, (at_10 + 1) + ((m_pick bag_9 wide_3).1)) : Int × Int)]) → ∀ bag_12, bag_12 = ((m_pick bag_9 wide_3).2) → (found_11 ≠ []) ∧ (∀ at_13, at_13 = ((nth found_11 (found_11.length - 1)).2) → True)))
def m_spans (bag_1 : Bag) (many_2 : Int) (wide_3 : Int) : (List (Int × Int)) × Bag :=
let at_5 := nth ([0, (m_pick bag_1 wide_3).1] : List Int) ((m_pick ((m_pick bag_1 wide_3).2) 2).1)
let bag_4 := (m_pick ((m_pick bag_1 wide_3).2) 2).2
let f_14 := List.foldl (m_spans_b1 wide_3) ((m_pick bag_4 (many_2 + 1)).2, ([] : List (Int × Int)), at_5) (rng 0 ((m_pick bag_4 (many_2 + 1)).1))
(f_14.2.1, f_14.1)
def m_spans_ok (bag_1 : Bag) (many_2 : Int) (wide_3 : Int) : Prop :=
(m_pick_ok bag_1 wide_3) ∧ (m_pick_ok ((m_pick bag_1 wide_3).2) 2) ∧ (0 ≤ ((m_pick ((m_pick bag_1 wide_3).2) 2).1) ∧ ((m_pick ((m_pick bag_1 wide_3).2) 2).1) < ([0, (m_pick bag_1 wide_3).1] : List Int).length) ∧ (∀ at_5, at_5 = (nth ([0, (m_pick bag_1 wide_3).1] : List Int) ((m_pick ((m_pick bag_1 wide_3).2) 2).1)) → ∀ bag_4, bag_4 = ((m_pick ((m_pick bag_1 wide_3).2) 2).2) → (m_pick_ok bag_4 (many_2 + 1)) ∧ (-(2 ^ 62) ≤ (((m_pick bag_4 (many_2 + 1)).1) : Int) ∧ (((m_pick bag_4 (many_2 + 1)).1) : Int) < 2 ^ 62) ∧ (okF (m_spans_o1 wide_3) (m_spans_b1 wide_3) ((m_pick bag_4 (many_2 + 1)).2, ([] : List (Int × Int)), at_5) (rng 0 ((m_pick bag_4 (many_2 + 1)).1))) ∧ (∀ f_14, f_14 = List.foldl (m_spans_b1 wide_3) ((m_pick bag_4 (many_2 + 1)).2, ([] : List (Int × Int)), at_5) (rng 0 ((m_pick bag_4 (many_2 + 1)).1)) → True))
def sp_spans (K : PySem.W.Frag) (CT : Nat → Addr) : Sp := spB (ι := Bag × Int × Int) (fun d => bagR d.1) (fun d => [eI d.2.1, eI d.2.2]) (fun d => m_spans_ok d.1 d.2.1 d.2.2) (fun d => bagR (m_spans d.1 d.2.1 d.2.2).2) (fun d => (eLs (eP2 K eI eI)) ((m_spans d.1 d.2.1 d.2.2).1))
abbrev s_spans : Stmt := top 46
abbrev N_spans : List Str := ["_law_bag_here", "_law_many", "_law_wide", "_law_found", "_law_at", "_law_turn"]
theorem sc_spans : FnScope N_spans ["_law_bag_here", "_law_many", "_law_wide"] (defScope s_spans) := ⟨rfl, rfl, rfl, by decide +kernel, rfl, by decide +kernel, by decide +kernel⟩
section
variable {P : Program} {w : World} {K : PySem.W.Frag} {mg : Str → Option Value} {base : Heap} {CT : Nat → Addr}
theorem ok_spans {f : Addr} {fd : FuncData} (F : Fun K "_law_spans" "_law_spans" s_spans f fd) {a_pick : Addr} {fd_pick : FuncData} (F_pick : Fun K "_law_pick" "_law_pick" s_pick a_pick fd_pick) (G_pick : FnG P w K mg base CX0 1 a_pick fd_pick ["_law_bag_here", "_law_many"] (sp_pick K CT)) (j_pick : mg "_law_pick" = some (.ref a_pick)) (b_pick : Binds K fd_pick ["_law_bag_here", "_law_many"] []) (n_range : mg "range" = none) : FnG P w K mg base CX0 2 f fd ["_law_bag_here", "_law_many", "_law_wide"] (sp_spans K CT) := by
  refine Fun.okG F sc_spans (fun vs H Q E h => ?_) (fun cdv A outer s H vs Q E hG hr h => ?_)
  · obtain ⟨d, F, p, o, ws, rfl, _, _, _, _, _, h, _⟩ := h
    exact congrArg (· + 1) h.len
  · have nd := sc_spans.nd
    have hU := hr.units
    refine ⟨_, (pss_cons (ps_par (i := 3) (j := 4) rfl nd rfl rfl (by decide) rfl rfl (pa_cons (pe_lst pa_nil) (pa_cons (pe_ix (ix_listK (K := K) rfl) (pe_lst (pa_cons pe_int (pa_cons (pg_call G_pick hG (hr.mono (by decide)) rfl j_pick F_pick.kp b_pick .nil pass0 (pa_cons (pv 0) (pa_cons (pv 2) pa_nil))) pa_nil))) (pg_call G_pick hG (hr.mono (by decide)) rfl j_pick F_pick.kp b_pick .nil pass0 (pa_cons (pv 0) (pa_cons pe_int pa_nil))) (fun _ _ => rfl)) pa_nil)) (by rfl))
 (pss_cons (ps_for PassesOwn.never rfl (pi_range1 rfl n_range (pa_cons (pg_call G_pick hG (hr.mono (by decide)) rfl j_pick F_pick.kp b_pick .nil pass0 (pa_cons (pv 0) (pa_cons (pe_op op_add (pv 1) pe_int) pa_nil))) pa_nil)) (pg_name (i := 5) nd rfl (by first | exact .inl rfl | exact .inr rfl)) (pss_cons (ps_set (i := 4) nd rfl (by first | exact .inl rfl | exact .inr rfl) (pe_op op_add (pv 4) (pe_ix (ix_listK (K := K) rfl) (pe_lst (pa_cons pe_int (pa_cons pe_int (pa_cons (pg_call G_pick hG (hr.mono (by decide)) rfl j_pick F_pick.kp b_pick .nil pass0 (pa_cons (pv 0) (pa_cons (pv 2) pa_nil))) pa_nil)))) (pg_call G_pick hG (hr.mono (by decide)) rfl j_pick F_pick.kp b_pick .nil pass0 (pa_cons (pv 0) (pa_cons pe_int pa_nil))) (fun _ _ => rfl))))
 (pss_cons (ps_expr (pe_bm PySem.F.plainAttrs_list PySem.F.slot_list_append PySem.F.type_list_append mt_append (pv 3) (pa_cons (pe_tup (pa_cons (pv 4) (pa_cons (pe_op op_add (pe_op op_add (pv 4) pe_int) (pg_call G_pick hG (hr.mono (by decide)) rfl j_pick F_pick.kp b_pick .nil pass0 (pa_cons (pv 0) (pa_cons (pv 2) pa_nil)))) pa_nil))) pa_nil)))
 (pss_cons (ps_set (i := 4) nd rfl (by first | exact .inl rfl | exact .inr rfl) (pe_ix (ix_tupK (K := K) rfl) (pe_ix (ix_listK (K := K) rfl) (pv 3) (pe_un un_neg pe_int) (fun _ _ => rfl)) pe_int (fun _ _ => rfl)))
 pss_nil))))
 (pss_cons (ps_ret (pv 3))
 pss_nil))), ?_⟩
    refine def_B h (fun d => Nat.le_of_ble_eq_true rfl) (fun d p h => ?_)
    obtain ⟨bag_1, many_2, wide_3⟩ := d
    replace h : m_spans_ok bag_1 many_2 wide_3 := h
    unfold m_spans_ok at h
    show SS _ [.ow (oLq (some p) (bagR bag_1)), .fz (eI many_2), .fz (eI wide_3), .no, .no, .no] (BP (eLs (eP2 K eI eI)) p (m_spans bag_1 many_2 wide_3))
    obtain ⟨g1, g2, g3, h⟩ := h
    refine ss_seq2 (nth ([0, (m_pick bag_1 wide_3).1] : List Int) ((m_pick ((m_pick bag_1 wide_3).2) 2).1)) ((m_pick ((m_pick bag_1 wide_3).2) 2).2) (fun at_5 bag_4 => [.ow (oLq (some p) (bagR bag_4)), .fz (eI many_2), .fz (eI wide_3), .ow (oLs (eP2 K eI eI) ([] : List (Int × Int))), .fz (eI at_5), .no]) (ss_parM (am_nwo (en_lst as_nil) (am_fzo (es_ixL (e := eI) (es_frs eI ([0, (m_pick bag_1 wide_3).1] : List Int) (en_lst (as_cons es_c (as_cons (es_callB (bag_1, wide_3) 0 rfl (as_cons (es_var 2 rfl) as_nil) rfl g1) as_nil)))) (es_callB ((m_pick bag_1 wide_3).2, 2) 0 rfl (as_cons es_c as_nil) rfl g2) g3) am_nil rfl) rfl) Wk.refl) (fun at_5 e_at_5 bag_4 e_bag_4 => ?_)
    replace h := h at_5 e_at_5 bag_4 e_bag_4
    obtain ⟨g4, g5, g12, h⟩ := h
    refine ss_seq1 (List.foldl (m_spans_b1 wide_3) ((m_pick bag_4 (many_2 + 1)).2, ([] : List (Int × Int)), at_5) (rng 0 ((m_pick bag_4 (many_2 + 1)).1))) (fun f_14 => [.ow (oLq (some p) (bagR f_14.1)), .fz (eI many_2), .fz (eI wide_3), .ow (oLs (eP2 K eI eI) f_14.2.1), .fz (eI f_14.2.2), .no]) (sf_S (e := eI) (l := (rng 0 ((m_pick bag_4 (many_2 + 1)).1))) (fun s_7 => [.ow (oLq (some p) (bagR s_7.1)), .fz (eI many_2), .fz (eI wide_3), .ow (oLs (eP2 K eI eI) s_7.2.1), .fz (eI s_7.2.2), .no]) (m_spans_b1 wide_3) (m_spans_o1 wide_3) ((m_pick bag_4 (many_2 + 1)).2, ([] : List (Int × Int)), at_5) (is_rng1 (as_cons (es_callB (bag_4, many_2 + 1) 0 rfl (as_cons (es_add (es_var 1 rfl) es_c) as_nil) rfl g4) as_nil) g5) Wk.refl g12 (fun s_7 x_8 _ h => ⟨[.ow (oLq (some p) (bagR s_7.1)), .fz (eI many_2), .fz (eI wide_3), .ow (oLs (eP2 K eI eI) s_7.2.1), .fz (eI s_7.2.2), .fz (eI x_8)], _, gs_name 5, ?_⟩) (fun _ hw => hw)) (fun f_14 e_f_14 => ?_)
    · unfold m_spans_o1 at h
      obtain ⟨g6, g7, g8, h⟩ := h
      refine ss_seq2 (s_7.2.2 + (nth ([0, 1, (m_pick s_7.1 wide_3).1] : List Int) ((m_pick ((m_pick s_7.1 wide_3).2) 3).1))) ((m_pick ((m_pick s_7.1 wide_3).2) 3).2) (fun at_10 bag_9 => [.ow (oLq (some p) (bagR bag_9)), .fz (eI many_2), .fz (eI wide_3), .ow (oLs (eP2 K eI eI) s_7.2.1), .fz (eI at_10), .fz (eI x_8)]) (ss_set (es_add (es_var 4 rfl) (es_ixL (e := eI) (es_frs eI ([0, 1, (m_pick s_7.1 wide_3).1] : List Int) (en_lst (as_cons es_c (as_cons es_c (as_cons (es_callB (s_7.1, wide_3) 0 rfl (as_cons (es_var 2 rfl) as_nil) rfl g6) as_nil))))) (es_callB ((m_pick s_7.1 wide_3).2, 3) 0 rfl (as_cons es_c as_nil) rfl g7) g8)) Wk.refl) (fun at_10 e_at_10 bag_9 e_bag_9 => ?_)
      replace h := h at_10 e_at_10 bag_9 e_bag_9
      obtain ⟨g9, g10, h⟩ := h
      refine ss_seq2 (s_7.2.1 ++ [((at_10, (at_10 + 1) + ((m_pick bag_9 wide_3).1)) : Int × Int)]) ((m_pick bag_9 wide_3).2) (fun found_11 bag_12 => [.ow (oLq (some p) (bagR bag_12)), .fz (eI many_2), .fz (eI wide_3), .ow (oLs (eP2 K eI eI) found_11), .fz (eI at_10), .fz (eI x_8)]) (ss_appendO (e := (eP2 K eI eI)) (x := ((at_10, (at_10 + 1) + ((m_pick bag_9 wide_3).1)) : Int × Int)) rfl (es_tup (K := K) (as_cons (es_var 4 rfl) (as_cons (es_add (es_add (es_var 4 rfl) es_c) (es_callB (bag_9, wide_3) 0 rfl (as_cons (es_var 2 rfl) as_nil) rfl g9)) as_nil))) rfl g10 Wk.refl) (fun found_11 e_found_11 bag_12 e_bag_12 => ?_)
      replace h := h found_11 e_found_11 bag_12 e_bag_12
      obtain ⟨g11, h⟩ := h
      refine ss_seq1 ((nth found_11 (found_11.length - 1)).2) (fun at_13 => [.ow (oLq (some p) (bagR bag_12)), .fz (eI many_2), .fz (eI wide_3), .ow (oLs (eP2 K eI eI) found_11), .fz (eI at_13), .fz (eI x_8)]) (ss_set (es_ixT (k := 1) (es_ixLastO (e := (eP2 K eI eI)) (i := 3) rfl g11) rfl) Wk.refl) (fun at_13 e_at_13 => ?_)
      replace h := h at_13 e_at_13
      replace e_at_13 := Eq.symm e_at_13; subst e_at_13; replace e_bag_12 := Eq.symm e_bag_12; subst e_bag_12; replace e_found_11 := Eq.symm e_found_11; subst e_found_11; replace e_bag_9 := Eq.symm e_bag_9; subst e_bag_9; replace e_at_10 := Eq.symm e_at_10; subst e_at_10
      exact ss_nx ⟨.inr rfl, ⟨.inr rfl, ⟨.inr rfl, ⟨.inr rfl, ⟨.inr rfl, ⟨.inl ⟨rfl, rfl⟩, trivial⟩⟩⟩⟩⟩⟩
    replace h := h f_14 e_f_14
    refine ss_retO (e := (eP2 K eI eI)) (i := 3) rfl ?_
    replace e_f_14 := Eq.symm e_f_14; subst e_f_14; replace e_bag_4 := Eq.symm e_bag_4; subst e_bag_4; replace e_at_5 := Eq.symm e_at_5; subst e_at_5
    exact ⟨rfl, rfl⟩
end
def m_class_t1 (caught_1 : Xc) (found_14 : List Str) : Str :=
if ((!decide ((found_14.length : Int) = 1)) || (!true)) = true then (
(Str.ofString "odd"))
else (
(nth found_14 0) ++ (if (decide ((nth found_14 0) ∈ ([(Str.ofString "InvalidSpans"), (Str.ofString "InvalidSeen")] : List Str))) = true then (Str.ofString " ") ++ (reprO (xget caught_1)) else (Str.ofString "")))
def m_class_u1 (caught_1 : Xc) (found_14 : List Str) : Prop :=
((!decide ((found_14.length : Int) = 1)) = false → caught_1.c < 18) ∧ (((!decide ((found_14.length : Int) = 1)) || (!true)) = true → (True)) ∧ (((!decide ((found_14.length : Int) = 1)) || (!true)) = false → ((0 ≤ (0 : Int) ∧ (0 : Int) < found_14.length) ∧ (0 ≤ (0 : Int) ∧ (0 : Int) < found_14.length) ∧ ((decide ((nth found_14 0) ∈ ([(Str.ofString "InvalidSpans"), (Str.ofString "InvalidSeen")] : List Str))) = true → caught_1.c < 4 ∧ caught_1.f.isSome = true ∧ xfn caught_1.c = "item") ∧ ((decide ((nth found_14 0) ∈ ([(Str.ofString "InvalidSpans"), (Str.ofString "InvalidSeen")] : List Str))) = true → ∀ i, (xget caught_1) = some i → i.natAbs.log2 < 1920) ∧ ((decide ((nth found_14 0) ∈ ([(Str.ofString "InvalidSpans"), (Str.ofString "InvalidSeen")] : List Str))) = true → (Str.ofString " ").length + (reprO (xget caught_1)).length ≤ 16000000) ∧ ((nth found_14 0).length + (if (decide ((nth found_14 0) ∈ ([(Str.ofString "InvalidSpans"), (Str.ofString "InvalidSeen")] : List Str))) = true then (Str.ofString " ") ++ (reprO (xget caught_1)) else (Str.ofString "")).length ≤ 16000000) ∧ True))
def m_class (caught_1 : Xc) : Str :=
let some_2 := ([(((Str.ofString "InvalidSpans"), isX caught_1 0) : Str × Bool), (((Str.ofString "InvalidSeen"), isX caught_1 1) : Str × Bool)] : List (Str × Bool))
let some_3 := some_2 ++ ([((Str.ofString "InvalidText"), isX caught_1 2), ((Str.ofString "OverBudget"), isX caught_1 3)] : List (Str × Bool))
let some_4 := some_3 ++ ([((Str.ofString "InvalidCapacity"), isX caught_1 4)] : List (Str × Bool))
let some_5 := some_4 ++ ([((Str.ofString "InvalidRate"), isX caught_1 5), ((Str.ofString "InvalidShift"), isX caught_1 6)] : List (Str × Bool))
let some_6 := some_5 ++ ([((Str.ofString "InvalidTable"), isX caught_1 7), ((Str.ofString "InvalidKey"), isX caught_1 8)] : List (Str × Bool))
let some_7 := some_6 ++ ([((Str.ofString "InvalidDepth"), isX caught_1 9), ((Str.ofString "InvalidTail"), isX caught_1 10)] : List (Str × Bool))
let some_8 := some_7 ++ ([((Str.ofString "InvalidSpan"), isX caught_1 11), ((Str.ofString "Nothing"), isX caught_1 15)] : List (Str × Bool))
let some_9 := some_8 ++ ([((Str.ofString "InvalidNumber"), isX caught_1 12)] : List (Str × Bool))
let some_10 := some_9 ++ ([((Str.ofString "InvalidBudget"), isX caught_1 13)] : List (Str × Bool))
let some_11 := some_10 ++ ([((Str.ofString "InvalidOperation"), isX caught_1 14)] : List (Str × Bool))
let some_12 := some_11 ++ ([((Str.ofString "InvalidCommand"), isX caught_1 16)] : List (Str × Bool))
let found_14 := (List.filter (fun (x_13 : Str × Bool) => x_13.2) some_12).map fun (x_13 : Str × Bool) => x_13.1
m_class_t1 caught_1 found_14
def m_class_ok (caught_1 : Xc) : Prop :=
(caught_1.c < 18) ∧ (caught_1.c < 18) ∧ (∀ some_2, some_2 = ([(((Str.ofString "InvalidSpans"), isX caught_1 0) : Str × Bool), (((Str.ofString "InvalidSeen"), isX caught_1 1) : Str × Bool)] : List (Str × Bool)) → (caught_1.c < 18) ∧ (caught_1.c < 18) ∧ (some_2.length + ([((Str.ofString "InvalidText"), isX caught_1 2), ((Str.ofString "OverBudget"), isX caught_1 3)] : List (Str × Bool)).length ≤ 16000000) ∧ (∀ some_3, some_3 = (some_2 ++ ([((Str.ofString "InvalidText"), isX caught_1 2), ((Str.ofString "OverBudget"), isX caught_1 3)] : List (Str × Bool))) → (caught_1.c < 18) ∧ (some_3.length + ([((Str.ofString "InvalidCapacity"), isX caught_1 4)] : List (Str × Bool)).length ≤ 16000000) ∧ (∀ some_4, some_4 = (some_3 ++ ([((Str.ofString "InvalidCapacity"), isX caught_1 4)] : List (Str × Bool))) → (caught_1.c < 18) ∧ (caught_1.c < 18) ∧ (some_4.length + ([((Str.ofString "InvalidRate"), isX caught_1 5), ((Str.ofString "InvalidShift"), isX caught_1 6)] : List (Str × Bool)).length ≤ 16000000) ∧ (∀ some_5, some_5 = (some_4 ++ ([((Str.ofString "InvalidRate"), isX caught_1 5), ((Str.ofString "InvalidShift"), isX caught_1 6)] : List (Str × Bool))) → (caught_1.c < 18) ∧ (caught_1.c < 18) ∧ (some_5.length + ([((Str.ofString "InvalidTable"), isX caught_1 7), ((Str.ofString "InvalidKey"), isX caught_1 8)] : List (Str × Bool)).length ≤ 16000000) ∧ (∀ some_6, some_6 = (some_5 ++ ([((Str.ofString "InvalidTable"), isX caught_1 7), ((Str.ofString "InvalidKey"), isX caught_1 8)] : List (Str × Bool))) → (caught_1.c < 18) ∧ (caught_1.c < 18) ∧ (some_6.length + ([((Str.ofString "InvalidDepth"), isX caught_1 9), ((Str.ofString "InvalidTail"), isX caught_1 10)] : List (Str × Bool)).length ≤ 16000000) ∧ (∀ some_7, some_7 = (some_6 ++ ([((Str.ofString "InvalidDepth"), isX caught_1 9), ((Str.ofString "InvalidTail"), isX caught_1 10)] : List (Str × Bool))) → (caught_1.c < 18) ∧ (caught_1.c < 18) ∧ (some_7.length + ([((Str.ofString "InvalidSpan"), isX caught_1 11), ((Str.ofString "Nothing"), isX caught_1 15)] : List (Str × Bool)).length ≤ 16000000) ∧ (∀ some_8, some_8 = (some_7 ++ ([((Str.ofString "InvalidSpan"), isX caught_1 11), ((Str.ofString "Nothing"), isX caught_1 15)] : List (Str × Bool))) → (caught_1.c < 18) ∧ (some_8.length + ([((Str.ofString "InvalidNumber"), isX caught_1 12)] : List (Str × Bool)).length ≤ 16000000) ∧ (∀ some_9, some_9 = (some_8 ++ ([((Str.ofString "InvalidNumber"), isX caught_1 12)] : List (Str × Bool))) → (caught_1.c < 18) ∧ (some_9.length + ([((Str.ofString "InvalidBudget"), isX caught_1 13)] : List (Str × Bool)).length ≤ 16000000) ∧ (∀ some_10, some_10 = (some_9 ++ ([((Str.ofString "InvalidBudget"), isX caught_1 13)] : List (Str × Bool))) → (caught_1.c < 18) ∧ (some_10.length + ([((Str.ofString "InvalidOperation"), isX caught_1 14)] : List (Str × Bool)).length ≤ 16000000) ∧ (∀ some_11, some_11 = (some_10 ++ ([((Str.ofString "InvalidOperation"), isX caught_1 14)] : List (Str × Bool))) → (caught_1.c < 18) ∧ (some_11.length + ([((Str.ofString "InvalidCommand"), isX caught_1 16)] : List (Str × Bool)).length ≤ 16000000) ∧ (∀ some_12, some_12 = (some_11 ++ ([((Str.ofString "InvalidCommand"), isX caught_1 16)] : List (Str × Bool))) → (some_12.length < 16000000) ∧ (∀ found_14, found_14 = ((List.filter (fun (x_13 : Str × Bool) => x_13.2) some_12).map fun (x_13 : Str × Bool) => x_13.1) → m_class_u1 caught_1 found_14))))))))))))
def sp_class (K : PySem.W.Frag) (CT : Nat → Addr) : Sp := spF (ι := Xc) (fun d => [(eC CT) d]) (fun d => m_class_ok d) (fun d => eS (m_class d))
abbrev s_class : Stmt := top 47
abbrev N_class : List Str := ["_law_caught", "_law_some", "_law_found", "_law_name", "_law_is_one"]
theorem sc_class : FnScope N_class ["_law_caught"] (defScope s_class) := ⟨rfl, rfl, rfl, by decide +kernel, rfl, by decide +kernel, by decide +kernel⟩
section
variable {P : Program} {w : World} {K : PySem.W.Frag} {mg : Str → Option Value} {base : Heap} {CT : Nat → Addr}
theorem ok_class {f : Addr} {fd : FuncData} (F : Fun K "_law_class" "_law_class" s_class f fd) (n_ValueError : mg "ValueError" = none) (n_isinstance : mg "isinstance" = none) (n_len : mg "len" = none) (n_repr : mg "repr" = none) (XX : XT K CT) (xg0 : mg "InvalidSpans" = some (.ref (CT 0))) (xg1 : mg "InvalidSeen" = some (.ref (CT 1))) (xg10 : mg "InvalidTail" = some (.ref (CT 10))) (xg11 : mg "InvalidSpan" = some (.ref (CT 11))) (xg12 : mg "InvalidNumber" = some (.ref (CT 12))) (xg13 : mg "InvalidBudget" = some (.ref (CT 13))) (xg14 : mg "InvalidOperation" = some (.ref (CT 14))) (xg15 : mg "Nothing" = some (.ref (CT 15))) (xg16 : mg "InvalidCommand" = some (.ref (CT 16))) (xg2 : mg "InvalidText" = some (.ref (CT 2))) (xg3 : mg "OverBudget" = some (.ref (CT 3))) (xg4 : mg "InvalidCapacity" = some (.ref (CT 4))) (xg5 : mg "InvalidRate" = some (.ref (CT 5))) (xg6 : mg "InvalidShift" = some (.ref (CT 6))) (xg7 : mg "InvalidTable" = some (.ref (CT 7))) (xg8 : mg "InvalidKey" = some (.ref (CT 8))) (xg9 : mg "InvalidDepth" = some (.ref (CT 9))) : FnG P w K mg base CX0 1 f fd ["_law_caught"] (sp_class K CT) := by
  refine Fun.okG F sc_class (fun vs H Q E h => ?_) (fun cdv A outer s H vs Q E hG hr h => ?_)
  · obtain ⟨d, F, _, _, h, _⟩ := h
    exact h.len
  · have nd := sc_class.nd
    have hU := hr.units
    refine ⟨_, (pss_cons (ps_set (i := 1) nd rfl (by first | exact .inl rfl | exact .inr rfl) (pe_lst (pa_cons (pe_tup (pa_cons pe_str (pa_cons (pe_callB call_isC rfl n_isinstance (by decide +kernel) (pa_cons (pv 0) (pa_cons (pe_glob (v := .ref (CT 0)) rfl xg0 rfl) pa_nil))) pa_nil))) (pa_cons (pe_tup (pa_cons pe_str (pa_cons (pe_callB call_isC rfl n_isinstance (by decide +kernel) (pa_cons (pv 0) (pa_cons (pe_glob (v := .ref (CT 1)) rfl xg1 rfl) pa_nil))) pa_nil))) pa_nil))))
 (pss_cons (ps_set (i := 1) nd rfl (by first | exact .inl rfl | exact .inr rfl) (pe_op op_cat (pv 1) (pe_lst (pa_cons (pe_tup (pa_cons pe_str (pa_cons (pe_callB call_isC rfl n_isinstance (by decide +kernel) (pa_cons (pv 0) (pa_cons (pe_glob (v := .ref (CT 2)) rfl xg2 rfl) pa_nil))) pa_nil))) (pa_cons (pe_tup (pa_cons pe_str (pa_cons (pe_callB call_isC rfl n_isinstance (by decide +kernel) (pa_cons (pv 0) (pa_cons (pe_glob (v := .ref (CT 3)) rfl xg3 rfl) pa_nil))) pa_nil))) pa_nil)))))
 (pss_cons (ps_set (i := 1) nd rfl (by first | exact .inl rfl | exact .inr rfl) (pe_op op_cat (pv 1) (pe_lst (pa_cons (pe_tup (pa_cons pe_str (pa_cons (pe_callB call_isC rfl n_isinstance (by decide +kernel) (pa_cons (pv 0) (pa_cons (pe_glob (v := .ref (CT 4)) rfl xg4 rfl) pa_nil))) pa_nil))) pa_nil))))
 (pss_cons (ps_set (i := 1) nd rfl (by first | exact .inl rfl | exact .inr rfl) (pe_op op_cat (pv 1) (pe_lst (pa_cons (pe_tup (pa_cons pe_str (pa_cons (pe_callB call_isC rfl n_isinstance (by decide +kernel) (pa_cons (pv 0) (pa_cons (pe_glob (v := .ref (CT 5)) rfl xg5 rfl) pa_nil))) pa_nil))) (pa_cons (pe_tup (pa_cons pe_str (pa_cons (pe_callB call_isC rfl n_isinstance (by decide +kernel) (pa_cons (pv 0) (pa_cons (pe_glob (v := .ref (CT 6)) rfl xg6 rfl) pa_nil))) pa_nil))) pa_nil)))))
 (pss_cons (ps_set (i := 1) nd rfl (by first | exact .inl rfl | exact .inr rfl) (pe_op op_cat (pv 1) (pe_lst (pa_cons (pe_tup (pa_cons pe_str (pa_cons (pe_callB call_isC rfl n_isinstance (by decide +kernel) (pa_cons (pv 0) (pa_cons (pe_glob (v := .ref (CT 7)) rfl xg7 rfl) pa_nil))) pa_nil))) (pa_cons (pe_tup (pa_cons pe_str (pa_cons (pe_callB call_isC rfl n_isinstance (by decide +kernel) (pa_cons (pv 0) (pa_cons (pe_glob (v := .ref (CT 8)) rfl xg8 rfl) pa_nil))) pa_nil))) pa_nil)))))
 (pss_cons (ps_set (i := 1) nd rfl (by first | exact .inl rfl | exact .inr rfl) (pe_op op_cat (pv 1) (pe_lst (pa_cons (pe_tup (pa_cons pe_str (pa_cons (pe_callB call_isC rfl n_isinstance (by decide +kernel) (pa_cons (pv 0) (pa_cons (pe_glob (v := .ref (CT 9)) rfl xg9 rfl) pa_nil))) pa_nil))) (pa_cons (pe_tup (pa_cons pe_str (pa_cons (pe_callB call_isC rfl n_isinstance (by decide +kernel) (pa_cons (pv 0) (pa_cons (pe_glob (v := .ref (CT 10)) rfl xg10 rfl) pa_nil))) pa_nil))) pa_nil)))))
 (pss_cons (ps_set (i := 1) nd rfl (by first | exact .inl rfl | exact .inr rfl) (pe_op op_cat (pv 1) (pe_lst (pa_cons (pe_tup (pa_cons pe_str (pa_cons (pe_callB call_isC rfl n_isinstance (by decide +kernel) (pa_cons (pv 0) (pa_cons (pe_glob (v := .ref (CT 11)) rfl xg11 rfl) pa_nil))) pa_nil))) (pa_cons (pe_tup (pa_cons pe_str (pa_cons (pe_callB call_isC rfl n_isinstance (by decide +kernel) (pa_cons (pv 0) (pa_cons (pe_glob (v := .ref (CT 15)) rfl xg15 rfl) pa_nil))) pa_nil))) pa_nil)))))
 (pss_cons (ps_set (i := 1) nd rfl (by first | exact .inl rfl | exact .inr rfl) (pe_op op_cat (pv 1) (pe_lst (pa_cons (pe_tup (pa_cons pe_str (pa_cons (pe_callB call_isC rfl n_isinstance (by decide +kernel) (pa_cons (pv 0) (pa_cons (pe_glob (v := .ref (CT 12)) rfl xg12 rfl) pa_nil))) pa_nil))) pa_nil))))
 (pss_cons (ps_set (i := 1) nd rfl (by first | exact .inl rfl | exact .inr rfl) (pe_op op_cat (pv 1) (pe_lst (pa_cons (pe_tup (pa_cons pe_str (pa_cons (pe_callB call_isC rfl n_isinstance (by decide +kernel) (pa_cons (pv 0) (pa_cons (pe_glob (v := .ref (CT 13)) rfl xg13 rfl) pa_nil))) pa_nil))) pa_nil))))
 (pss_cons (ps_set (i := 1) nd rfl (by first | exact .inl rfl | exact .inr rfl) (pe_op op_cat (pv 1) (pe_lst (pa_cons (pe_tup (pa_cons pe_str (pa_cons (pe_callB call_isC rfl n_isinstance (by decide +kernel) (pa_cons (pv 0) (pa_cons (pe_glob (v := .ref (CT 14)) rfl xg14 rfl) pa_nil))) pa_nil))) pa_nil))))
 (pss_cons (ps_set (i := 1) nd rfl (by first | exact .inl rfl | exact .inr rfl) (pe_op op_cat (pv 1) (pe_lst (pa_cons (pe_tup (pa_cons pe_str (pa_cons (pe_callB call_isC rfl n_isinstance (by decide +kernel) (pa_cons (pv 0) (pa_cons (pe_glob (v := .ref (CT 16)) rfl xg16 rfl) pa_nil))) pa_nil))) pa_nil))))
 (pss_cons (ps_setLc (i := 2) (own := [("_law_name", 3), ("_law_is_one", 4)]) (g := gTup K 2 (gNames [3, 4])) rfl nd rfl rfl (sw_true rfl rfl rfl (by decide +kernel)) (pi_list (pv 1)) (blkOk_by (own := [("_law_name", 3), ("_law_is_one", 4)]) (N := N_class) (sc := defScope s_class) (by decide +kernel)) (fun _ _ _ _ _ => pg_tup rfl (pgs_cons (pg_name (i := 3) nd rfl (by first | exact .inl rfl | exact .inr rfl)) (pgs_cons (pg_name (i := 4) nd rfl (by first | exact .inl rfl | exact .inr rfl)) pgs_nil))) (fun _ _ _ _ _ => pts_one (pt_val (pv 4))) (fun _ _ _ _ _ => (pv 3)))
 (pss_cons (ps_if (PW.pt (pw_or (pt_cmpR op_ne (pe_callB (call_len_seqK (K := K) rfl) rfl n_len (by decide +kernel) (pa_cons (pv 2) pa_nil)) pe_int (nomark _)) (pw_or1 (pt_not (pt_val (pe_callB call_isC rfl n_isinstance (by decide +kernel) (pa_cons (pv 0) (pa_cons (pe_bltn (v := .ty "ValueError") rfl n_ValueError (by decide +kernel) rfl) pa_nil)))))))) (pss_cons (ps_ret pe_str)
 pss_nil) pss_nil)
 (pss_cons (ps_ret (pe_op op_add_str (pe_ix (ix_listK (K := K) rfl) (pv 2) pe_int (fun _ _ => rfl)) (pe_ifExp (pt_cmpR (op_in_seqK (K := K) rfl) (pe_ix (ix_listK (K := K) rfl) (pv 2) pe_int (fun _ _ => rfl)) (pe_tup (pa_cons pe_str (pa_cons pe_str pa_nil))) (by rfl)) (pe_op op_add_str pe_str (pe_callB call_reprO rfl n_repr (by decide +kernel) (pa_cons (pe_cg (pv 0)) pa_nil))) pe_str)))
 pss_nil)))))))))))))), ?_⟩
    refine def_F h (fun d => Nat.le_of_ble_eq_true rfl) (fun caught_1 h => ?_)
    replace h : m_class_ok caught_1 := h
    unfold m_class_ok at h
    show SS _ [.fz ((eC CT) caught_1), .no, .no, .no, .no] (FP eS (m_class caught_1))
    obtain ⟨g1, g2, h⟩ := h
    refine ss_seq1 ([(((Str.ofString "InvalidSpans"), isX caught_1 0) : Str × Bool), (((Str.ofString "InvalidSeen"), isX caught_1 1) : Str × Bool)] : List (Str × Bool)) (fun some_2 => [.fz ((eC CT) caught_1), .ow (oLs (eP2 K eS eB) some_2), .no, .no, .no]) (ss_own (en_lst (rs := List.map (eP2 K eS eB) [(((Str.ofString "InvalidSpans"), isX caught_1 0) : Str × Bool), (((Str.ofString "InvalidSeen"), isX caught_1 1) : Str × Bool)]) (as_cons (es_tup (K := K) (as_cons es_c (as_cons (es_isC (j := 0) XX (es_var 0 rfl) g1 (by decide)) as_nil))) (as_cons (es_tup (K := K) (as_cons es_c (as_cons (es_isC (j := 1) XX (es_var 0 rfl) g2 (by decide)) as_nil))) as_nil))) Wk.refl) (fun some_2 e_some_2 => ?_)
    replace h := h some_2 e_some_2
    obtain ⟨g3, g4, g5, h⟩ := h
    refine ss_seq1 (some_2 ++ ([((Str.ofString "InvalidText"), isX caught_1 2), ((Str.ofString "OverBudget"), isX caught_1 3)] : List (Str × Bool))) (fun some_3 => [.fz ((eC CT) caught_1), .ow (oLs (eP2 K eS eB) some_3), .no, .no, .no]) (ss_own (en_catO (e := (eP2 K eS eB)) (i := 1) rfl (es_frs (eP2 K eS eB) ([((Str.ofString "InvalidText"), isX caught_1 2), ((Str.ofString "OverBudget"), isX caught_1 3)] : List (Str × Bool)) (en_lst (as_cons (es_tup (K := K) (as_cons es_c (as_cons (es_isC (j := 2) XX (es_var 0 rfl) g3 (by decide)) as_nil))) (as_cons (es_tup (K := K) (as_cons es_c (as_cons (es_isC (j := 3) XX (es_var 0 rfl) g4 (by decide)) as_nil))) as_nil)))) rfl g5) Wk.refl) (fun some_3 e_some_3 => ?_)
    replace h := h some_3 e_some_3
    obtain ⟨g6, g7, h⟩ := h
    refine ss_seq1 (some_3 ++ ([((Str.ofString "InvalidCapacity"), isX caught_1 4)] : List (Str × Bool))) (fun some_4 => [.fz ((eC CT) caught_1), .ow (oLs (eP2 K eS eB) some_4), .no, .no, .no]) (ss_own (en_catO (e := (eP2 K eS eB)) (i := 1) rfl (es_frs (eP2 K eS eB) ([((Str.ofString "InvalidCapacity"), isX caught_1 4)] : List (Str × Bool)) (en_lst (as_cons (es_tup (K := K) (as_cons es_c (as_cons (es_isC (j := 4) XX (es_var 0 rfl) g6 (by decide)) as_nil))) as_nil))) rfl g7) Wk.refl) (fun some_4 e_some_4 => ?_)
    replace h := h some_4 e_some_4
    obtain ⟨g8, g9, g10, h⟩ := h
    refine ss_seq1 (some_4 ++ ([((Str.ofString "InvalidRate"), isX caught_1 5), ((Str.ofString "InvalidShift"), isX caught_1 6)] : List (Str × Bool))) (fun some_5 => [.fz ((eC CT) caught_1), .ow (oLs (eP2 K eS eB) some_5), .no, .no, .no]) (ss_own (en_catO (e := (eP2 K eS eB)) (i := 1) rfl (es_frs (eP2 K eS eB) ([((Str.ofString "InvalidRate"), isX caught_1 5), ((Str.ofString "InvalidShift"), isX caught_1 6)] : List (Str × Bool)) (en_lst (as_cons (es_tup (K := K) (as_cons es_c (as_cons (es_isC (j := 5) XX (es_var 0 rfl) g8 (by decide)) as_nil))) (as_cons (es_tup (K := K) (as_cons es_c (as_cons (es_isC (j := 6) XX (es_var 0 rfl) g9 (by decide)) as_nil))) as_nil)))) rfl g10) Wk.refl) (fun some_5 e_some_5 => ?_)
    replace h := h some_5 e_some_5
    obtain ⟨g11, g12, g13, h⟩ := h
    refine ss_seq1 (some_5 ++ ([((Str.ofString "InvalidTable"), isX caught_1 7), ((Str.ofString "InvalidKey"), isX caught_1 8)] : List (Str × Bool))) (fun some_6 => [.fz ((eC CT) caught_1), .ow (oLs (eP2 K eS eB) some_6), .no, .no, .no]) (ss_own (en_catO (e := (eP2 K eS eB)) (i := 1) rfl (es_frs (eP2 K eS eB) ([((Str.ofString "InvalidTable"), isX caught_1 7), ((Str.ofString "InvalidKey"), isX caught_1 8)] : List (Str × Bool)) (en_lst (as_cons (es_tup (K := K) (as_cons es_c (as_cons (es_isC (j := 7) XX (es_var 0 rfl) g11 (by decide)) as_nil))) (as_cons (es_tup (K := K) (as_cons es_c (as_cons (es_isC (j := 8) XX (es_var 0 rfl) g12 (by decide)) as_nil))) as_nil)))) rfl g13) Wk.refl) (fun some_6 e_some_6 => ?_)
    replace h := h some_6 e_some_6
    obtain ⟨g14, g15, g16, h⟩ := h
    refine ss_seq1 (some_6 ++ ([((Str.ofString "InvalidDepth"), isX caught_1 9), ((Str.ofString "InvalidTail"), isX caught_1 10)] : List (Str × Bool))) (fun some_7 => [.fz ((eC CT) caught_1), .ow (oLs (eP2 K eS eB) some_7), .no, .no, .no]) (ss_own (en_catO (e := (eP2 K eS eB)) (i := 1) rfl (es_frs (eP2 K eS eB) ([((Str.ofString "InvalidDepth"), isX caught_1 9), ((Str.ofString "InvalidTail"), isX caught_1 10)] : List (Str × Bool)) (en_lst (as_cons (es_tup (K := K) (as_cons es_c (as_cons (es_isC (j := 9) XX (es_var 0 rfl) g14 (by decide)) as_nil))) (as_cons (es_tup (K := K) (as_cons es_c (as_cons (es_isC (j := 10) XX (es_var 0 rfl) g15 (by decide)) as_nil))) as_nil)))) rfl g16) Wk.refl) (fun some_7 e_some_7 => ?_)
    replace h := h some_7 e_some_7
    obtain ⟨g17, g18, g19, h⟩ := h
    refine ss_seq1 (some_7 ++ ([((Str.ofString "InvalidSpan"), isX caught_1 11), ((Str.ofString "Nothing"), isX caught_1 15)] : List (Str × Bool))) (fun some_8 => [.fz ((eC CT) caught_1), .ow (oLs (eP2 K eS eB) some_8), .no, .no, .no]) (ss_own (en_catO (e := (eP2 K eS eB)) (i := 1) rfl (es_frs (eP2 K eS eB) ([((Str.ofString "InvalidSpan"), isX caught_1 11), ((Str.ofString "Nothing"), isX caught_1 15)] : List (Str × Bool)) (en_lst (as_cons (es_tup (K := K) (as_cons es_c (as_cons (es_isC (j := 11) XX (es_var 0 rfl) g17 (by decide)) as_nil))) (as_cons (es_tup (K := K) (as_cons es_c (as_cons (es_isC (j := 15) XX (es_var 0 rfl) g18 (by decide)) as_nil))) as_nil)))) rfl g19) Wk.refl) (fun some_8 e_some_8 => ?_)
    replace h := h some_8 e_some_8
    obtain ⟨g20, g21, h⟩ := h
    refine ss_seq1 (some_8 ++ ([((Str.ofString "InvalidNumber"), isX caught_1 12)] : List (Str × Bool))) (fun some_9 => [.fz ((eC CT) caught_1), .ow (oLs (eP2 K eS eB) some_9), .no, .no, .no]) (ss_own (en_catO (e := (eP2 K eS eB)) (i := 1) rfl (es_frs (eP2 K eS eB) ([((Str.ofString "InvalidNumber"), isX caught_1 12)] : List (Str × Bool)) (en_lst (as_cons (es_tup (K := K) (as_cons es_c (as_cons (es_isC (j := 12) XX (es_var 0 rfl) g20 (by decide)) as_nil))) as_nil))) rfl g21) Wk.refl) (fun some_9 e_some_9 => ?_)
    replace h := h some_9 e_some_9
    obtain ⟨g22, g23, h⟩ := h
    refine ss_seq1 (some_9 ++ ([((Str.ofString "InvalidBudget"), isX caught_1 13)] : List (Str × Bool))) (fun some_10 => [.fz ((eC CT) caught_1), .ow (oLs (eP2 K eS eB) some_10), .no, .no, .no]) (ss_own (en_catO (e := (eP2 K eS eB)) (i := 1) rfl (es_frs (eP2 K eS eB) ([((Str.ofString "InvalidBudget"), isX caught_1 13)] : List (Str × Bool)) (en_lst (as_cons (es_tup (K := K) (as_cons es_c (as_cons (es_isC (j := 13) XX (es_var 0 rfl) g22 (by decide)) as_nil))) as_nil))) rfl g23) Wk.refl) (fun some_10 e_some_10 => ?_)
    replace h := h some_10 e_some_10
    obtain ⟨g24, g25, h⟩ := h
    refine ss_seq1 (some_10 ++ ([((Str.ofString "InvalidOperation"), isX caught_1 14)] : List (Str × Bool))) (fun some_11 => [.fz ((eC CT) caught_1), .ow (oLs (eP2 K eS eB) some_11), .no, .no, .no]) (ss_own (en_catO (e := (eP2 K eS eB)) (i := 1) rfl (es_frs (eP2 K eS eB) ([((Str.ofString "InvalidOperation"), isX caught_1 14)] : List (Str × Bool)) (en_lst (as_cons (es_tup (K := K) (as_cons es_c (as_cons (es_isC (j := 14) XX (es_var 0 rfl) g24 (by decide)) as_nil))) as_nil))) rfl g25) Wk.refl) (fun some_11 e_some_11 => ?_)
    replace h := h some_11 e_some_11
    obtain ⟨g26, g27, h⟩ := h
    refine ss_seq1 (some_11 ++ ([((Str.ofString "InvalidCommand"), isX caught_1 16)] : List (Str × Bool))) (fun some_12 => [.fz ((eC CT) caught_1), .ow (oLs (eP2 K eS eB) some_12), .no, .no, .no]) (ss_own (en_catO (e := (eP2 K eS eB)) (i := 1) rfl (es_frs (eP2 K eS eB) ([((Str.ofString "InvalidCommand"), isX caught_1 16)] : List (Str × Bool)) (en_lst (as_cons (es_tup (K := K) (as_cons es_c (as_cons (es_isC (j := 16) XX (es_var 0 rfl) g26 (by decide)) as_nil))) as_nil))) rfl g27) Wk.refl) (fun some_12 e_some_12 => ?_)
    replace h := h some_12 e_some_12
    refine ss_frz (e := (eP2 K eS eB)) (l := some_12) 1 rfl ?_
    obtain ⟨g28, h⟩ := h
    refine ss_seq1 ((List.filter (fun (x_13 : Str × Bool) => x_13.2) some_12).map fun (x_13 : Str × Bool) => x_13.1) (fun found_14 => [.fz ((eC CT) caught_1), .fz ((eLs (eP2 K eS eB)) some_12), .fz ((eLs eS) found_14), .no, .no]) (ss_set (es_frs eS ((List.filter (fun (x_13 : Str × Bool) => x_13.2) some_12).map fun (x_13 : Str × Bool) => x_13.1) (en_lcFT eS (fun (x_13 : Str × Bool) => x_13.1) (en_lcS (e := (eP2 K eS eB)) (l := some_12) (f := (fun (x_13 : Str × Bool) => eS x_13.1)) (is := [3, 4]) (vs := [3, 4]) (fun (x_13 : Str × Bool) => x_13.2) (fun (x_13 : Str × Bool) => [.fz ((eC CT) caught_1), .fz ((eLs (eP2 K eS eB)) some_12), .no, .fz (eS x_13.1), .fz (eB x_13.2)]) (is_list (e := (eP2 K eS eB)) (es_var 1 rfl)) g28 (fun _ h => h) (fun x_13 => gs_tup (gs_cons (gs_name 3) (gs_cons (gs_name 4) gs_nil))) (fun x_13 hx => (et_val (es_var 4 rfl))) (fun x_13 hx hp => (es_var 3 rfl))))) Wk.refl) (fun found_14 e_found_14 => ?_)
    replace h := h found_14 e_found_14
    refine ss_cut (FP eS) (v' := m_class_t1 caught_1 found_14) (by replace e_found_14 := Eq.symm e_found_14; subst e_found_14; replace e_some_12 := Eq.symm e_some_12; subst e_some_12; replace e_some_11 := Eq.symm e_some_11; subst e_some_11; replace e_some_10 := Eq.symm e_some_10; subst e_some_10; replace e_some_9 := Eq.symm e_some_9; subst e_some_9; replace e_some_8 := Eq.symm e_some_8; subst e_some_8; replace e_some_7 := Eq.symm e_some_7; subst e_some_7; replace e_some_6 := Eq.symm e_some_6; subst e_some_6; replace e_some_5 := Eq.symm e_some_5; subst e_some_5; replace e_some_4 := Eq.symm e_some_4; subst e_some_4; replace e_some_3 := Eq.symm e_some_3; subst e_some_3; replace e_some_2 := Eq.symm e_some_2; subst e_some_2; rfl) ?_
    clear e_found_14 e_some_12 e_some_11 e_some_10 e_some_9 e_some_8 e_some_7 e_some_6 e_some_5 e_some_4 e_some_3 e_some_2
    unfold m_class_u1 at h
    obtain ⟨g29, h⟩ := h
    obtain ⟨hA, hB⟩ := h
    refine ss_ifLv (FP eS) (et_or (et_cmp (es_lenLs (e := eS) (es_var 2 rfl)) es_c q_neI) (fun hc10 => (et_not (et_val (es_isCV XX (es_var 0 rfl) (g29 hc10)))))) (fun hc => ?_) (fun hc => ?_)
    · replace h := hA hc; clear hA hB
      refine ss_retq es_c ?_
      exact rfl
    · replace h := hB hc; clear hA hB
      refine ss_nxq ?_
      obtain ⟨g30, g31, g32, g33, g34, g35, h⟩ := h
      refine ss_retq (es_addS (es_ixL (e := eS) (es_var 2 rfl) es_c g30) (es_if (e := eS) (p := ((Str.ofString " ") ++ (reprO (xget caught_1)))) (q := (Str.ofString "")) (et_test (es_inTS (K := K) (l := [(Str.ofString "InvalidSpans"), (Str.ofString "InvalidSeen")]) (es_ixL (e := eS) (es_var 2 rfl) es_c g31) (es_tup (K := K) (as_cons es_c (as_cons es_c as_nil))))) (fun hc => (es_addS es_c (es_reprO (es_cget XX (es_var 0 rfl) (g32 hc)) (g33 hc)) (g34 hc))) (fun hc => es_c)) g35) ?_
      exact rfl
end
def m_bad_tables : List U :=
([U.non, U.int 0, U.bl true, U.str (Str.ofString ""), U.str (Str.ofString "2 1 0"), U.tup [U.int 2, U.int 1, U.int 0], U.lst [U.int 2, U.int 1, U.int 0], U.lst [], U.tup [], U.dic, U.int (10 ^ 40)] : List U)
def m_bad_tables_ok : Prop :=
True
def sp_bad_tables (K : PySem.W.Frag) (CT : Nat → Addr) : Sp := spF (ι := Unit) (fun d => []) (fun d => m_bad_tables_ok ) (fun d => (eLs (eU (CT 18))) m_bad_tables)
abbrev s_bad_tables : Stmt := top 48
abbrev N_bad_tables : List Str := []
theorem sc_bad_tables : FnScope N_bad_tables [] (defScope s_bad_tables) := ⟨rfl, rfl, rfl, by decide +kernel, rfl, by decide +kernel, by decide +kernel⟩
section
variable {P : Program} {w : World} {K : PySem.W.Frag} {mg : Str → Option Value} {base : Heap} {CT : Nat → Addr}
theorem ok_bad_tables {f : Addr} {fd : FuncData} (F : Fun K "_law_bad_tables" "_law_bad_tables" s_bad_tables f fd) : FnG P w K mg base CX0 1 f fd [] (sp_bad_tables K CT) := by
  refine Fun.okG F sc_bad_tables (fun vs H Q E h => ?_) (fun cdv A outer s H vs Q E hG hr h => ?_)
  · obtain ⟨d, F, _, _, h, _⟩ := h
    exact h.len
  · have nd := sc_bad_tables.nd
    have hU := hr.units
    refine ⟨_, (pss_cons (ps_ret (pe_lst (pa_cons pe_non (pa_cons pe_int (pa_cons pe_bl (pa_cons pe_str (pa_cons pe_str (pa_cons (pe_tup (pa_cons pe_int (pa_cons pe_int (pa_cons pe_int pa_nil)))) (pa_cons (pe_lst (pa_cons pe_int (pa_cons pe_int (pa_cons pe_int pa_nil)))) (pa_cons (pe_lst pa_nil) (pa_cons (pe_tup pa_nil) (pa_cons pe_dnewK (pa_cons (pe_op op_pow pe_int pe_int) pa_nil)))))))))))))
 pss_nil), ?_⟩
    refine def_F h (fun d => Nat.le_of_ble_eq_true rfl) (fun d h => ?_)
    replace h : m_bad_tables_ok  := h
    unfold m_bad_tables_ok at h
    show SS _ [] (FP (eLs (eU (CT 18))) (m_bad_tables ))
    refine ss_retq (es_frs (eU (CT 18)) ([U.non, U.int 0, U.bl true, U.str (Str.ofString ""), U.str (Str.ofString "2 1 0"), U.tup [U.int 2, U.int 1, U.int 0], U.lst [U.int 2, U.int 1, U.int 0], U.lst [], U.tup [], U.dic, U.int (10 ^ 40)] : List U) (en_lst (rs := List.map (eU (CT 18)) [U.non, U.int 0, U.bl true, U.str (Str.ofString ""), U.str (Str.ofString "2 1 0"), U.tup [U.int 2, U.int 1, U.int 0], U.lst [U.int 2, U.int 1, U.int 0], U.lst [], U.tup [], U.dic, U.int (10 ^ 40)]) (as_cons (es_nonU es_c) (as_cons (es_toU2 (K := K) (C := (CT 18)) (e := eI) (x := 0) (u := U.int 0) es_c rfl) (as_cons (es_toU2 (K := K) (C := (CT 18)) (e := eB) (x := true) (u := U.bl true) es_c rfl) (as_cons (es_toU2 (K := K) (C := (CT 18)) (e := eS) (x := (Str.ofString "")) (u := U.str (Str.ofString "")) es_c rfl) (as_cons (es_toU2 (K := K) (C := (CT 18)) (e := eS) (x := (Str.ofString "2 1 0")) (u := U.str (Str.ofString "2 1 0")) es_c rfl) (as_cons (es_tupU (K := K) (l := [U.int 2, U.int 1, U.int 0]) (es_tup (K := K) (as_cons (es_toU2 (K := K) (C := (CT 18)) (e := eI) (x := 2) (u := U.int 2) es_c rfl) (as_cons (es_toU2 (K := K) (C := (CT 18)) (e := eI) (x := 1) (u := U.int 1) es_c rfl) (as_cons (es_toU2 (K := K) (C := (CT 18)) (e := eI) (x := 0) (u := U.int 0) es_c rfl) as_nil))))) (as_cons (es_toU2 (K := K) (C := (CT 18)) (e := (eLs (eU (CT 18)))) (x := [U.int 2, U.int 1, U.int 0]) (u := U.lst [U.int 2, U.int 1, U.int 0]) (es_frs (eU (CT 18)) [U.int 2, U.int 1, U.int 0] (en_lst (as_cons (es_toU2 (K := K) (C := (CT 18)) (e := eI) (x := 2) (u := U.int 2) es_c rfl) (as_cons (es_toU2 (K := K) (C := (CT 18)) (e := eI) (x := 1) (u := U.int 1) es_c rfl) (as_cons (es_toU2 (K := K) (C := (CT 18)) (e := eI) (x := 0) (u := U.int 0) es_c rfl) as_nil))))) (congrArg U.lst (List.map_id _))) (as_cons (es_toU2 (K := K) (C := (CT 18)) (e := (eLs (eU (CT 18)))) (x := []) (u := U.lst []) (es_frs (eU (CT 18)) [] (en_lst as_nil)) (congrArg U.lst (List.map_id _))) (as_cons (es_tupU (K := K) (l := []) (es_tup (K := K) as_nil)) (as_cons (es_dicU es_dnew) (as_cons (es_toU2 (K := K) (C := (CT 18)) (e := eI) (x := (10 ^ 40)) (u := U.int (10 ^ 40)) (es_pow es_c es_c ⟨by decide, by decide, by decide⟩) rfl) as_nil))))))))))))) ?_
    exact rfl
end
def m_bad_spans_b1 (s_3 : (List (U × Str))) (x_4 : U) : (List (U × Str)) :=
let found_5 := s_3 ++ [((x_4, (Str.ofString "InvalidSpans None")) : U × Str)]
found_5
def m_bad_spans_o1 (s_3 : (List (U × Str))) (x_4 : U) : Prop :=
(s_3.length < 16000000) ∧ (∀ found_5, found_5 = (s_3 ++ [((x_4, (Str.ofString "InvalidSpans None")) : U × Str)]) → True)
def m_bad_spans_b2 (spans_2 : List (Int × Int)) (at_8 : Int) (s_13 : (List (U × Str))) (x_14 : U) : (List (U × Str)) :=
let found_15 := s_13 ++ [((U.lst ((List.map (fun y : Int × Int => U.tup [U.int y.1, U.int y.2]) (cutL spans_2 none (some at_8))) ++ ([x_14] : List U)), (Str.ofString "InvalidSpans ") ++ (reprI at_8)) : U × Str)]
let found_16 := found_15 ++ [((U.lst ((List.map (fun y : Int × Int => U.tup [U.int y.1, U.int y.2]) (cutL spans_2 none (some at_8))) ++ (cutL ([x_14, U.non] : List U) none (some (12 - at_8)))), (Str.ofString "InvalidSpans ") ++ (reprI at_8)) : U × Str)]
found_16
def m_bad_spans_o2 (spans_2 : List (Int × Int)) (at_8 : Int) (s_13 : (List (U × Str))) (x_14 : U) : Prop :=
((List.map (fun y : Int × Int => U.tup [U.int y.1, U.int y.2]) (cutL spans_2 none (some at_8))).length + ([x_14] : List U).length ≤ 16000000) ∧ (at_8.natAbs.log2 < 1920) ∧ ((Str.ofString "InvalidSpans ").length + (reprI at_8).length ≤ 16000000) ∧ (s_13.length < 16000000) ∧ (∀ found_15, found_15 = (s_13 ++ [((U.lst ((List.map (fun y : Int × Int => U.tup [U.int y.1, U.int y.2]) (cutL spans_2 none (some at_8))) ++ ([x_14] : List U)), (Str.ofString "InvalidSpans ") ++ (reprI at_8)) : U × Str)]) → ((List.map (fun y : Int × Int => U.tup [U.int y.1, U.int y.2]) (cutL spans_2 none (some at_8))).length + (cutL ([x_14, U.non] : List U) none (some (12 - at_8))).length ≤ 16000000) ∧ (at_8.natAbs.log2 < 1920) ∧ ((Str.ofString "InvalidSpans ").length + (reprI at_8).length ≤ 16000000) ∧ (found_15.length < 16000000) ∧ (∀ found_16, found_16 = (found_15 ++ [((U.lst ((List.map (fun y : Int × Int => U.tup [U.int y.1, U.int y.2]) (cutL spans_2 none (some at_8))) ++ (cutL ([x_14, U.non] : List U) none (some (12 - at_8)))), (Str.ofString "InvalidSpans ") ++ (reprI at_8)) : U × Str)]) → True))
@[irreducible] def m_bad_spans (bag_1 : Bag) (spans_2 : List (Int × Int)) : (List (U × Str)) × Bag :=
let f_6 := List.foldl (m_bad_spans_b1) ([] : List (U × Str)) ([U.non, U.int 0, U.bl true, U.str (Str.ofString ""), U.str (Str.ofString "0-5"), U.tup [], U.dic, U.tup (List.map (fun y : Int × Int => U.tup [U.int y.1, U.int y.2]) spans_2), U.tup [U.int 0, U.int 5], U.lst (List.map (fun y : Unit => U.non) ((List.replicate (Int.toNat (13 : Int)) ([()] : List Unit)).flatten)), U.int (10 ^ 40)] : List U)
let at_8 := (m_pick bag_1 ((spans_2.length : Int) + 1)).1
let bag_7 := (m_pick bag_1 ((spans_2.length : Int) + 1)).2
let before_9 := if (decide (0 < at_8)) = true then (nth spans_2 (at_8 - 1)).2 else 0
let odd_10 := ([U.non, U.int 0, U.str (Str.ofString ""), U.tup [], U.tup [U.int before_9], U.tup [U.int before_9, U.int (before_9 + 1), U.int 0], U.lst [U.int before_9, U.int (before_9 + 1)], U.tup [U.int (before_9 + 1), U.int before_9], U.dic] : List U)
let odd_11 := odd_10 ++ ([U.tup [U.int before_9, U.int before_9], U.tup [U.int (before_9 - 1), U.int (before_9 + 1)], U.tup [U.int before_9, U.int ((10 ^ 30) + 1)], U.tup [U.int (-1), U.int (before_9 + 1)]] : List U)
let odd_12 := odd_11 ++ [U.tup [U.non, U.int (before_9 + 1)]]
let f_17 := List.foldl (m_bad_spans_b2 spans_2 at_8) f_6 (odd_12 ++ ([U.tup [U.int before_9, U.non], U.tup [U.int before_9, U.str (Str.ofString "9")], U.tup [U.bl false, U.int (before_9 + 1)], U.tup [U.int before_9, U.int (10 ^ 60)], U.tup [U.int before_9, U.bl true]] : List U))
(f_17, bag_7)
def m_bad_spans_ok (bag_1 : Bag) (spans_2 : List (Int × Int)) : Prop :=
(((0 : Int) ≤ (13 : Int) ∧ (13 : Int) ≤ (1000 : Int) ∧ ([()] : List Unit).length ≤ 1000) ∧ (okF (m_bad_spans_o1) (m_bad_spans_b1) ([] : List (U × Str)) ([U.non, U.int 0, U.bl true, U.str (Str.ofString ""), U.str (Str.ofString "0-5"), U.tup [], U.dic, U.tup (List.map (fun y : Int × Int => U.tup [U.int y.1, U.int y.2]) spans_2), U.tup [U.int 0, U.int 5], U.lst (List.map (fun y : Unit => U.non) ((List.replicate (Int.toNat (13 : Int)) ([()] : List Unit)).flatten)), U.int (10 ^ 40)] : List U)) ∧ (∀ f_6, f_6 = List.foldl (m_bad_spans_b1) ([] : List (U × Str)) ([U.non, U.int 0, U.bl true, U.str (Str.ofString ""), U.str (Str.ofString "0-5"), U.tup [], U.dic, U.tup (List.map (fun y : Int × Int => U.tup [U.int y.1, U.int y.2]) spans_2), U.tup [U.int 0, U.int 5], U.lst (List.map (fun y : Unit => U.non) ((List.replicate (Int.toNat (13 : Int)) ([()] : List Unit)).flatten)), U.int (10 ^ 40)] : List U) → (m_pick_ok bag_1 ((spans_2.length : Int) + 1)) ∧ (∀ at_8, at_8 = ((m_pick bag_1 ((spans_2.length : Int) + 1)).1) → ∀ bag_7, bag_7 = ((m_pick bag_1 ((spans_2.length : Int) + 1)).2) → ((decide (0 < at_8)) = true → 0 ≤ (at_8 - 1) ∧ (at_8 - 1) < spans_2.length) ∧ (∀ before_9, before_9 = (if (decide (0 < at_8)) = true then (nth spans_2 (at_8 - 1)).2 else 0) → (∀ odd_10, odd_10 = ([U.non, U.int 0, U.str (Str.ofString ""), U.tup [], U.tup [U.int before_9], U.tup [U.int before_9, U.int (before_9 + 1), U.int 0], U.lst [U.int before_9, U.int (before_9 + 1)], U.tup [U.int (before_9 + 1), U.int before_9], U.dic] : List U) → (odd_10.length + ([U.tup [U.int before_9, U.int before_9], U.tup [U.int (before_9 - 1), U.int (before_9 + 1)], U.tup [U.int before_9, U.int ((10 ^ 30) + 1)], U.tup [U.int (-1), U.int (before_9 + 1)]] : List U).length ≤ 16000000) ∧ (∀ odd_11, odd_11 = (odd_10 ++ ([U.tup [U.int before_9, U.int before_9], U.tup [U.int (before_9 - 1), U.int (before_9 + 1)], U.tup [U.int before_9, U.int ((10 ^ 30) + 1)], U.tup [U.int (-1), U.int (before_9 + 1)]] : List U)) → (odd_11.length < 16000000) ∧ (∀ odd_12, odd_12 = (odd_11 ++ [U.tup [U.non, U.int (before_9 + 1)]]) → (odd_12.length + ([U.tup [U.int before_9, U.non], U.tup [U.int before_9, U.str (Str.ofString "9")], U.tup [U.bl false, U.int (before_9 + 1)], U.tup [U.int before_9, U.int (10 ^ 60)], U.tup [U.int before_9, U.bl true]] : List U).length ≤ 16000000) ∧ (okF (m_bad_spans_o2 spans_2 at_8) (m_bad_spans_b2 spans_2 at_8) f_6 (odd_12 ++ ([U.tup [U.int before_9, U.non], U.tup [U.int before_9, U.str (Str.ofString "9")], U.tup [U.bl false, U.int (before_9 + 1)], U.tup [U.int before_9, U.int (10 ^ 60)], U.tup [U.int before_9, U.bl true]] : List U))) ∧ (∀ f_17, f_17 = List.foldl (m_bad_spans_b2 spans_2 at_8) f_6 (odd_12 ++ ([U.tup [U.int before_9, U.non], U.tup [U.int before_9, U.str (Str.ofString "9")], U.tup [U.bl false, U.int (before_9 + 1)], U.tup [U.int before_9, U.int (10 ^ 60)], U.tup [U.int before_9, U.bl true]] : List U)) → True))))))))
def sp_bad_spans (K : PySem.W.Frag) (CT : Nat → Addr) : Sp := spB (ι := Bag × (List (Int × Int))) (fun d => bagR d.1) (fun d => [(eLs (eP2 K eI eI)) d.2]) (fun d => m_bad_spans_ok d.1 d.2) (fun d => bagR (m_bad_spans d.1 d.2).2) (fun d => (eLs (eP2 K (eU (CT 18)) eS)) ((m_bad_spans d.1 d.2).1))
abbrev s_bad_spans : Stmt := top 49
abbrev N_bad_spans : List Str := ["_law_bag_here", "_law_spans_here", "_law_found", "_law_bad", "_law_at", "_law_before", "_law_odd"]
theorem sc_bad_spans : FnScope N_bad_spans ["_law_bag_here", "_law_spans_here"] (defScope s_bad_spans) := ⟨rfl, rfl, rfl, by decide +kernel, rfl, by decide +kernel, by decide +kernel⟩
section
variable {P : Program} {w : World} {K : PySem.W.Frag} {mg : Str → Option Value} {base : Heap} {CT : Nat → Addr}
theorem ok_bad_spans {f : Addr} {fd : FuncData} (F : Fun K "_law_bad_spans" "_law_bad_spans" s_bad_spans f fd) {a_pick : Addr} {fd_pick : FuncData} (F_pick : Fun K "_law_pick" "_law_pick" s_pick a_pick fd_pick) (G_pick : FnG P w K mg base CX0 1 a_pick fd_pick ["_law_bag_here", "_law_many"] (sp_pick K CT)) (j_pick : mg "_law_pick" = some (.ref a_pick)) (b_pick : Binds K fd_pick ["_law_bag_here", "_law_many"] []) (n_len : mg "len" = none) (n_repr : mg "repr" = none) (n_tuple : mg "tuple" = none) : FnG P w K mg base CX0 2 f fd ["_law_bag_here", "_law_spans_here"] (sp_bad_spans K CT) := by
  refine Fun.okG F sc_bad_spans (fun vs H Q E h => ?_) (fun cdv A outer s H vs Q E hG hr h => ?_)
  · obtain ⟨d, F, p, o, ws, rfl, _, _, _, _, _, h, _⟩ := h
    exact congrArg (· + 1) h.len
  · have nd := sc_bad_spans.nd
    have hU := hr.units
    refine ⟨_, (pss_cons (ps_set (i := 2) nd rfl (by first | exact .inl rfl | exact .inr rfl) (pe_lst pa_nil))
 (pss_cons (ps_for PassesOwn.never rfl (pi_tup (pe_tup (pa_cons pe_non (pa_cons pe_int (pa_cons pe_bl (pa_cons pe_str (pa_cons pe_str (pa_cons (pe_tup pa_nil) (pa_cons pe_dnewK (pa_cons (pe_callTy call_tuple_of rfl n_tuple (by decide +kernel) (pa_cons (pv 1) pa_nil)) (pa_cons (pe_tup (pa_cons pe_int (pa_cons pe_int pa_nil))) (pa_cons (pe_op op_rep (pe_lst (pa_cons pe_non pa_nil)) pe_int) (pa_cons (pe_op op_pow pe_int pe_int) pa_nil))))))))))))) (pg_name (i := 3) nd rfl (by first | exact .inl rfl | exact .inr rfl)) (pss_cons (ps_expr (pe_bm PySem.F.plainAttrs_list PySem.F.slot_list_append PySem.F.type_list_append mt_append (pv 2) (pa_cons (pe_tup (pa_cons (pv 3) (pa_cons pe_str pa_nil))) pa_nil)))
 pss_nil))
 (pss_cons (ps_set (i := 4) nd rfl (by first | exact .inl rfl | exact .inr rfl) (pg_call G_pick hG (hr.mono (by decide)) rfl j_pick F_pick.kp b_pick .nil pass0 (pa_cons (pv 0) (pa_cons (pe_op op_add (pe_callB (call_len_seqK (K := K) rfl) rfl n_len (by decide +kernel) (pa_cons (pv 1) pa_nil)) pe_int) pa_nil))))
 (pss_cons (ps_set (i := 5) nd rfl (by first | exact .inl rfl | exact .inr rfl) (pe_ifExp (pt_cmpR op_gt (pv 4) pe_int (nomark _)) (pe_ix (ix_tupK (K := K) rfl) (pe_ix (ix_listK (K := K) rfl) (pv 1) (pe_op op_sub (pv 4) pe_int) (fun _ _ => rfl)) pe_int (fun _ _ => rfl)) pe_int))
 (pss_cons (ps_set (i := 6) nd rfl (by first | exact .inl rfl | exact .inr rfl) (pe_lst (pa_cons pe_non (pa_cons pe_int (pa_cons pe_str (pa_cons (pe_tup pa_nil) (pa_cons (pe_tup (pa_cons (pv 5) pa_nil)) (pa_cons (pe_tup (pa_cons (pv 5) (pa_cons (pe_op op_add (pv 5) pe_int) (pa_cons pe_int pa_nil)))) (pa_cons (pe_lst (pa_cons (pv 5) (pa_cons (pe_op op_add (pv 5) pe_int) pa_nil))) (pa_cons (pe_tup (pa_cons (pe_op op_add (pv 5) pe_int) (pa_cons (pv 5) pa_nil))) (pa_cons pe_dnewK pa_nil)))))))))))
 (pss_cons (ps_set (i := 6) nd rfl (by first | exact .inl rfl | exact .inr rfl) (pe_op op_cat (pv 6) (pe_lst (pa_cons (pe_tup (pa_cons (pv 5) (pa_cons (pv 5) pa_nil))) (pa_cons (pe_tup (pa_cons (pe_op op_sub (pv 5) pe_int) (pa_cons (pe_op op_add (pv 5) pe_int) pa_nil))) (pa_cons (pe_tup (pa_cons (pv 5) (pa_cons (pe_op op_add (pe_op op_pow pe_int pe_int) pe_int) pa_nil))) (pa_cons (pe_tup (pa_cons (pe_un un_neg pe_int) (pa_cons (pe_op op_add (pv 5) pe_int) pa_nil))) pa_nil)))))))
 (pss_cons (ps_expr (pe_bm PySem.F.plainAttrs_list PySem.F.slot_list_append PySem.F.type_list_append mt_append (pv 6) (pa_cons (pe_tup (pa_cons pe_non (pa_cons (pe_op op_add (pv 5) pe_int) pa_nil))) pa_nil)))
 (pss_cons (ps_for PassesOwn.never rfl (pi_list (pe_op op_cat (pv 6) (pe_lst (pa_cons (pe_tup (pa_cons (pv 5) (pa_cons pe_non pa_nil))) (pa_cons (pe_tup (pa_cons (pv 5) (pa_cons pe_str pa_nil))) (pa_cons (pe_tup (pa_cons pe_bl (pa_cons (pe_op op_add (pv 5) pe_int) pa_nil))) (pa_cons (pe_tup (pa_cons (pv 5) (pa_cons (pe_op op_pow pe_int pe_int) pa_nil))) (pa_cons (pe_tup (pa_cons (pv 5) (pa_cons pe_bl pa_nil))) pa_nil)))))))) (pg_name (i := 3) nd rfl (by first | exact .inl rfl | exact .inr rfl)) (pss_cons (ps_expr (pe_bm PySem.F.plainAttrs_list PySem.F.slot_list_append PySem.F.type_list_append mt_append (pv 2) (pa_cons (pe_tup (pa_cons (pe_op op_cat (pe_slice sl_list (pv 1) po_none (po_some (pv 4))) (pe_lst (pa_cons (pv 3) pa_nil))) (pa_cons (pe_op op_add_str pe_str (pe_callB SkE.call_repr_int rfl n_repr (by decide +kernel) (pa_cons (pv 4) pa_nil))) pa_nil))) pa_nil)))
 (pss_cons (ps_expr (pe_bm PySem.F.plainAttrs_list PySem.F.slot_list_append PySem.F.type_list_append mt_append (pv 2) (pa_cons (pe_tup (pa_cons (pe_op op_cat (pe_slice sl_list (pv 1) po_none (po_some (pv 4))) (pe_slice sl_list (pe_lst (pa_cons (pv 3) (pa_cons pe_non pa_nil))) po_none (po_some (pe_op op_sub pe_int (pv 4))))) (pa_cons (pe_op op_add_str pe_str (pe_callB SkE.call_repr_int rfl n_repr (by decide +kernel) (pa_cons (pv 4) pa_nil))) pa_nil))) pa_nil)))
 pss_nil)))
 (pss_cons (ps_ret (pv 2))
 pss_nil))))))))), ?_⟩
    refine def_B h (fun d => Nat.le_of_ble_eq_true rfl) (fun d p h => ?_)
    obtain ⟨bag_1, spans_2⟩ := d
    replace h : m_bad_spans_ok bag_1 spans_2 := h
    unfold m_bad_spans_ok at h
    show SS _ [.ow (oLq (some p) (bagR bag_1)), .fz ((eLs (eP2 K eI eI)) spans_2), .no, .no, .no, .no, .no] (BP (eLs (eP2 K (eU (CT 18)) eS)) p (m_bad_spans bag_1 spans_2))
    unfold m_bad_spans
    refine ss_seqTo [.ow (oLq (some p) (bagR bag_1)), .fz ((eLs (eP2 K eI eI)) spans_2), .ow (oLs (eP2 K (eU (CT 18)) eS) ([] : List (U × Str))), .no, .no, .no, .no] (ss_own (en_lst as_nil) Wk.refl) ?_
    obtain ⟨g1, g3, h⟩ := h
    refine ss_seq1 (List.foldl (m_bad_spans_b1) ([] : List (U × Str)) ([U.non, U.int 0, U.bl true, U.str (Str.ofString ""), U.str (Str.ofString "0-5"), U.tup [], U.dic, U.tup (List.map (fun y : Int × Int => U.tup [U.int y.1, U.int y.2]) spans_2), U.tup [U.int 0, U.int 5], U.lst (List.map (fun y : Unit => U.non) ((List.replicate (Int.toNat (13 : Int)) ([()] : List Unit)).flatten)), U.int (10 ^ 40)] : List U)) (fun f_6 => [.ow (oLq (some p) (bagR bag_1)), .fz ((eLs (eP2 K eI eI)) spans_2), .ow (oLs (eP2 K (eU (CT 18)) eS) f_6), .no, .no, .no, .no]) (sf_S (e := (eU (CT 18))) (l := ([U.non, U.int 0, U.bl true, U.str (Str.ofString ""), U.str (Str.ofString "0-5"), U.tup [], U.dic, U.tup (List.map (fun y : Int × Int => U.tup [U.int y.1, U.int y.2]) spans_2), U.tup [U.int 0, U.int 5], U.lst (List.map (fun y : Unit => U.non) ((List.replicate (Int.toNat (13 : Int)) ([()] : List Unit)).flatten)), U.int (10 ^ 40)] : List U)) (fun s_3 => [.ow (oLq (some p) (bagR bag_1)), .fz ((eLs (eP2 K eI eI)) spans_2), .ow (oLs (eP2 K (eU (CT 18)) eS) s_3), .no, .no, .no, .no]) (m_bad_spans_b1) (m_bad_spans_o1) ([] : List (U × Str)) (is_tup (es_tup (K := K) (as_cons (es_nonU es_c) (as_cons (es_toU2 (K := K) (C := (CT 18)) (e := eI) (x := 0) (u := U.int 0) es_c rfl) (as_cons (es_toU2 (K := K) (C := (CT 18)) (e := eB) (x := true) (u := U.bl true) es_c rfl) (as_cons (es_toU2 (K := K) (C := (CT 18)) (e := eS) (x := (Str.ofString "")) (u := U.str (Str.ofString "")) es_c rfl) (as_cons (es_toU2 (K := K) (C := (CT 18)) (e := eS) (x := (Str.ofString "0-5")) (u := U.str (Str.ofString "0-5")) es_c rfl) (as_cons (es_tupU (K := K) (l := []) (es_tup (K := K) as_nil)) (as_cons (es_dicU es_dnew) (as_cons (es_tupLU2 (K := K) (C := (CT 18)) (e := (eP2 K eI eI)) (l := spans_2) (u := U.tup (List.map (fun y : Int × Int => U.tup [U.int y.1, U.int y.2]) spans_2)) (es_var 1 rfl) rfl) (as_cons (es_tupU (K := K) (l := [U.int 0, U.int 5]) (es_tup (K := K) (as_cons (es_toU2 (K := K) (C := (CT 18)) (e := eI) (x := 0) (u := U.int 0) es_c rfl) (as_cons (es_toU2 (K := K) (C := (CT 18)) (e := eI) (x := 5) (u := U.int 5) es_c rfl) as_nil)))) (as_cons (es_toU2 (K := K) (C := (CT 18)) (e := (eLs (fun _ : Unit => eN))) (x := ((List.replicate (Int.toNat (13 : Int)) ([()] : List Unit)).flatten)) (u := U.lst (List.map (fun y : Unit => U.non) ((List.replicate (Int.toNat (13 : Int)) ([()] : List Unit)).flatten))) (es_frs (fun _ : Unit => eN) ((List.replicate (Int.toNat (13 : Int)) ([()] : List Unit)).flatten) (en_rep (e := (fun _ : Unit => eN)) (es_frs (fun _ : Unit => eN) ([()] : List Unit) (en_lst (as_cons es_c as_nil))) es_c g1)) rfl) (as_cons (es_toU2 (K := K) (C := (CT 18)) (e := eI) (x := (10 ^ 40)) (u := U.int (10 ^ 40)) (es_pow es_c es_c ⟨by decide, by decide, by decide⟩) rfl) as_nil))))))))))))) Wk.refl g3 (fun s_3 x_4 _ h => ⟨[.ow (oLq (some p) (bagR bag_1)), .fz ((eLs (eP2 K eI eI)) spans_2), .ow (oLs (eP2 K (eU (CT 18)) eS) s_3), .fz ((eU (CT 18)) x_4), .no, .no, .no], _, gs_name 3, ?_⟩) (fun _ hw => hw)) (fun f_6 e_f_6 => ?_)
    · unfold m_bad_spans_o1 at h
      obtain ⟨g2, h⟩ := h
      refine ss_seq1 (s_3 ++ [((x_4, (Str.ofString "InvalidSpans None")) : U × Str)]) (fun found_5 => [.ow (oLq (some p) (bagR bag_1)), .fz ((eLs (eP2 K eI eI)) spans_2), .ow (oLs (eP2 K (eU (CT 18)) eS) found_5), .fz ((eU (CT 18)) x_4), .no, .no, .no]) (ss_appendO (e := (eP2 K (eU (CT 18)) eS)) (x := ((x_4, (Str.ofString "InvalidSpans None")) : U × Str)) rfl (es_tup (K := K) (as_cons (es_var 3 rfl) (as_cons es_c as_nil))) rfl g2 Wk.refl) (fun found_5 e_found_5 => ?_)
      replace h := h found_5 e_found_5
      replace e_found_5 := Eq.symm e_found_5; subst e_found_5
      exact ss_nx ⟨.inr rfl, ⟨.inr rfl, ⟨.inr rfl, ⟨.inl ⟨rfl, rfl⟩, ⟨.inr rfl, ⟨.inr rfl, ⟨.inr rfl, trivial⟩⟩⟩⟩⟩⟩⟩
    replace h := h f_6 e_f_6
    obtain ⟨g4, h⟩ := h
    refine ss_seq2 ((m_pick bag_1 ((spans_2.length : Int) + 1)).1) ((m_pick bag_1 ((spans_2.length : Int) + 1)).2) (fun at_8 bag_7 => [.ow (oLq (some p) (bagR bag_7)), .fz ((eLs (eP2 K eI eI)) spans_2), .ow (oLs (eP2 K (eU (CT 18)) eS) f_6), .no, .fz (eI at_8), .no, .no]) (ss_set (es_callB (bag_1, (spans_2.length : Int) + 1) 0 rfl (as_cons (es_add (es_lenLs (e := (eP2 K eI eI)) (es_var 1 rfl)) es_c) as_nil) rfl g4) Wk.refl) (fun at_8 e_at_8 bag_7 e_bag_7 => ?_)
    replace h := h at_8 e_at_8 bag_7 e_bag_7
    obtain ⟨g5, h⟩ := h
    refine ss_seq1 (if (decide (0 < at_8)) = true then (nth spans_2 (at_8 - 1)).2 else 0) (fun before_9 => [.ow (oLq (some p) (bagR bag_7)), .fz ((eLs (eP2 K eI eI)) spans_2), .ow (oLs (eP2 K (eU (CT 18)) eS) f_6), .no, .fz (eI at_8), .fz (eI before_9), .no]) (ss_set (es_if (e := eI) (p := ((nth spans_2 (at_8 - 1)).2)) (q := 0) (et_cmp (es_var 4 rfl) es_c q_gt) (fun hc => (es_ixT (k := 1) (es_ixL (e := (eP2 K eI eI)) (es_var 1 rfl) (es_sub (es_var 4 rfl) es_c) (g5 hc)) rfl)) (fun hc => es_c)) Wk.refl) (fun before_9 e_before_9 => ?_)
    replace h := h before_9 e_before_9
    refine ss_seq1 ([U.non, U.int 0, U.str (Str.ofString ""), U.tup [], U.tup [U.int before_9], U.tup [U.int before_9, U.int (before_9 + 1), U.int 0], U.lst [U.int before_9, U.int (before_9 + 1)], U.tup [U.int (before_9 + 1), U.int before_9], U.dic] : List U) (fun odd_10 => [.ow (oLq (some p) (bagR bag_7)), .fz ((eLs (eP2 K eI eI)) spans_2), .ow (oLs (eP2 K (eU (CT 18)) eS) f_6), .no, .fz (eI at_8), .fz (eI before_9), .ow (oLs (eU (CT 18)) odd_10)]) (ss_own (en_lst (rs := List.map (eU (CT 18)) [U.non, U.int 0, U.str (Str.ofString ""), U.tup [], U.tup [U.int before_9], U.tup [U.int before_9, U.int (before_9 + 1), U.int 0], U.lst [U.int before_9, U.int (before_9 + 1)], U.tup [U.int (before_9 + 1), U.int before_9], U.dic]) (as_cons (es_nonU es_c) (as_cons (es_toU2 (K := K) (C := (CT 18)) (e := eI) (x := 0) (u := U.int 0) es_c rfl) (as_cons (es_toU2 (K := K) (C := (CT 18)) (e := eS) (x := (Str.ofString "")) (u := U.str (Str.ofString "")) es_c rfl) (as_cons (es_tupU (K := K) (l := []) (es_tup (K := K) as_nil)) (as_cons (es_tupU (K := K) (l := [U.int before_9]) (es_tup (K := K) (as_cons (es_toU2 (K := K) (C := (CT 18)) (e := eI) (x := before_9) (u := U.int before_9) (es_var 5 rfl) rfl) as_nil))) (as_cons (es_tupU (K := K) (l := [U.int before_9, U.int (before_9 + 1), U.int 0]) (es_tup (K := K) (as_cons (es_toU2 (K := K) (C := (CT 18)) (e := eI) (x := before_9) (u := U.int before_9) (es_var 5 rfl) rfl) (as_cons (es_toU2 (K := K) (C := (CT 18)) (e := eI) (x := (before_9 + 1)) (u := U.int (before_9 + 1)) (es_add (es_var 5 rfl) es_c) rfl) (as_cons (es_toU2 (K := K) (C := (CT 18)) (e := eI) (x := 0) (u := U.int 0) es_c rfl) as_nil))))) (as_cons (es_toU2 (K := K) (C := (CT 18)) (e := (eLs (eU (CT 18)))) (x := [U.int before_9, U.int (before_9 + 1)]) (u := U.lst [U.int before_9, U.int (before_9 + 1)]) (es_frs (eU (CT 18)) [U.int before_9, U.int (before_9 + 1)] (en_lst (as_cons (es_toU2 (K := K) (C := (CT 18)) (e := eI) (x := before_9) (u := U.int before_9) (es_var 5 rfl) rfl) (as_cons (es_toU2 (K := K) (C := (CT 18)) (e := eI) (x := (before_9 + 1)) (u := U.int (before_9 + 1)) (es_add (es_var 5 rfl) es_c) rfl) as_nil)))) (congrArg U.lst (List.map_id _))) (as_cons (es_tupU (K := K) (l := [U.int (before_9 + 1), U.int before_9]) (es_tup (K := K) (as_cons (es_toU2 (K := K) (C := (CT 18)) (e := eI) (x := (before_9 + 1)) (u := U.int (before_9 + 1)) (es_add (es_var 5 rfl) es_c) rfl) (as_cons (es_toU2 (K := K) (C := (CT 18)) (e := eI) (x := before_9) (u := U.int before_9) (es_var 5 rfl) rfl) as_nil)))) (as_cons (es_dicU es_dnew) as_nil)))))))))) Wk.refl) (fun odd_10 e_odd_10 => ?_)
    replace h := h odd_10 e_odd_10
    obtain ⟨g6, h⟩ := h
    refine ss_seq1 (odd_10 ++ ([U.tup [U.int before_9, U.int before_9], U.tup [U.int (before_9 - 1), U.int (before_9 + 1)], U.tup [U.int before_9, U.int ((10 ^ 30) + 1)], U.tup [U.int (-1), U.int (before_9 + 1)]] : List U)) (fun odd_11 => [.ow (oLq (some p) (bagR bag_7)), .fz ((eLs (eP2 K eI eI)) spans_2), .ow (oLs (eP2 K (eU (CT 18)) eS) f_6), .no, .fz (eI at_8), .fz (eI before_9), .ow (oLs (eU (CT 18)) odd_11)]) (ss_own (en_catO (e := (eU (CT 18))) (i := 6) rfl (es_frs (eU (CT 18)) ([U.tup [U.int before_9, U.int before_9], U.tup [U.int (before_9 - 1), U.int (before_9 + 1)], U.tup [U.int before_9, U.int ((10 ^ 30) + 1)], U.tup [U.int (-1), U.int (before_9 + 1)]] : List U) (en_lst (rs := List.map (eU (CT 18)) [U.tup [U.int before_9, U.int before_9], U.tup [U.int (before_9 - 1), U.int (before_9 + 1)], U.tup [U.int before_9, U.int ((10 ^ 30) + 1)], U.tup [U.int (-1), U.int (before_9 + 1)]]) (as_cons (es_tupU (K := K) (l := [U.int before_9, U.int before_9]) (es_tup (K := K) (as_cons (es_toU2 (K := K) (C := (CT 18)) (e := eI) (x := before_9) (u := U.int before_9) (es_var 5 rfl) rfl) (as_cons (es_toU2 (K := K) (C := (CT 18)) (e := eI) (x := before_9) (u := U.int before_9) (es_var 5 rfl) rfl) as_nil)))) (as_cons (es_tupU (K := K) (l := [U.int (before_9 - 1), U.int (before_9 + 1)]) (es_tup (K := K) (as_cons (es_toU2 (K := K) (C := (CT 18)) (e := eI) (x := (before_9 - 1)) (u := U.int (before_9 - 1)) (es_sub (es_var 5 rfl) es_c) rfl) (as_cons (es_toU2 (K := K) (C := (CT 18)) (e := eI) (x := (before_9 + 1)) (u := U.int (before_9 + 1)) (es_add (es_var 5 rfl) es_c) rfl) as_nil)))) (as_cons (es_tupU (K := K) (l := [U.int before_9, U.int ((10 ^ 30) + 1)]) (es_tup (K := K) (as_cons (es_toU2 (K := K) (C := (CT 18)) (e := eI) (x := before_9) (u := U.int before_9) (es_var 5 rfl) rfl) (as_cons (es_toU2 (K := K) (C := (CT 18)) (e := eI) (x := ((10 ^ 30) + 1)) (u := U.int ((10 ^ 30) + 1)) (es_add (es_pow es_c es_c ⟨by decide, by decide, by decide⟩) es_c) rfl) as_nil)))) (as_cons (es_tupU (K := K) (l := [U.int (-1), U.int (before_9 + 1)]) (es_tup (K := K) (as_cons (es_toU2 (K := K) (C := (CT 18)) (e := eI) (x := (-1)) (u := U.int (-1)) (es_neg es_c) rfl) (as_cons (es_toU2 (K := K) (C := (CT 18)) (e := eI) (x := (before_9 + 1)) (u := U.int (before_9 + 1)) (es_add (es_var 5 rfl) es_c) rfl) as_nil)))) as_nil)))))) rfl g6) Wk.refl) (fun odd_11 e_odd_11 => ?_)
    replace h := h odd_11 e_odd_11
    obtain ⟨g7, h⟩ := h
    refine ss_seq1 (odd_11 ++ [U.tup [U.non, U.int (before_9 + 1)]]) (fun odd_12 => [.ow (oLq (some p) (bagR bag_7)), .fz ((eLs (eP2 K eI eI)) spans_2), .ow (oLs (eP2 K (eU (CT 18)) eS) f_6), .no, .fz (eI at_8), .fz (eI before_9), .ow (oLs (eU (CT 18)) odd_12)]) (ss_appendO (e := (eU (CT 18))) (x := (U.tup [U.non, U.int (before_9 + 1)])) rfl (es_tupU (K := K) (l := [U.non, U.int (before_9 + 1)]) (es_tup (K := K) (as_cons (es_nonU es_c) (as_cons (es_toU2 (K := K) (C := (CT 18)) (e := eI) (x := (before_9 + 1)) (u := U.int (before_9 + 1)) (es_add (es_var 5 rfl) es_c) rfl) as_nil)))) rfl g7 Wk.refl) (fun odd_12 e_odd_12 => ?_)
    replace h := h odd_12 e_odd_12
    obtain ⟨g8, g17, h⟩ := h
    refine ss_seq1 (List.foldl (m_bad_spans_b2 spans_2 at_8) f_6 (odd_12 ++ ([U.tup [U.int before_9, U.non], U.tup [U.int before_9, U.str (Str.ofString "9")], U.tup [U.bl false, U.int (before_9 + 1)], U.tup [U.int before_9, U.int (10 ^ 60)], U.tup [U.int before_9, U.bl true]] : List U))) (fun f_17 => [.ow (oLq (some p) (bagR bag_7)), .fz ((eLs (eP2 K eI eI)) spans_2), .ow (oLs (eP2 K (eU (CT 18)) eS) f_17), .no, .fz (eI at_8), .fz (eI before_9), .ow (oLs (eU (CT 18)) odd_12)]) (sf_S (e := (eU (CT 18))) (l := (odd_12 ++ ([U.tup [U.int before_9, U.non], U.tup [U.int before_9, U.str (Str.ofString "9")], U.tup [U.bl false, U.int (before_9 + 1)], U.tup [U.int before_9, U.int (10 ^ 60)], U.tup [U.int before_9, U.bl true]] : List U))) (fun s_13 => [.ow (oLq (some p) (bagR bag_7)), .fz ((eLs (eP2 K eI eI)) spans_2), .ow (oLs (eP2 K (eU (CT 18)) eS) s_13), .no, .fz (eI at_8), .fz (eI before_9), .ow (oLs (eU (CT 18)) odd_12)]) (m_bad_spans_b2 spans_2 at_8) (m_bad_spans_o2 spans_2 at_8) f_6 (is_list (e := (eU (CT 18))) (es_frs (eU (CT 18)) (odd_12 ++ ([U.tup [U.int before_9, U.non], U.tup [U.int before_9, U.str (Str.ofString "9")], U.tup [U.bl false, U.int (before_9 + 1)], U.tup [U.int before_9, U.int (10 ^ 60)], U.tup [U.int before_9, U.bl true]] : List U)) (en_catO (e := (eU (CT 18))) (i := 6) rfl (es_frs (eU (CT 18)) ([U.tup [U.int before_9, U.non], U.tup [U.int before_9, U.str (Str.ofString "9")], U.tup [U.bl false, U.int (before_9 + 1)], U.tup [U.int before_9, U.int (10 ^ 60)], U.tup [U.int before_9, U.bl true]] : List U) (en_lst (rs := List.map (eU (CT 18)) [U.tup [U.int before_9, U.non], U.tup [U.int before_9, U.str (Str.ofString "9")], U.tup [U.bl false, U.int (before_9 + 1)], U.tup [U.int before_9, U.int (10 ^ 60)], U.tup [U.int before_9, U.bl true]]) (as_cons (es_tupU (K := K) (l := [U.int before_9, U.non]) (es_tup (K := K) (as_cons (es_toU2 (K := K) (C := (CT 18)) (e := eI) (x := before_9) (u := U.int before_9) (es_var 5 rfl) rfl) (as_cons (es_nonU es_c) as_nil)))) (as_cons (es_tupU (K := K) (l := [U.int before_9, U.str (Str.ofString "9")]) (es_tup (K := K) (as_cons (es_toU2 (K := K) (C := (CT 18)) (e := eI) (x := before_9) (u := U.int before_9) (es_var 5 rfl) rfl) (as_cons (es_toU2 (K := K) (C := (CT 18)) (e := eS) (x := (Str.ofString "9")) (u := U.str (Str.ofString "9")) es_c rfl) as_nil)))) (as_cons (es_tupU (K := K) (l := [U.bl false, U.int (before_9 + 1)]) (es_tup (K := K) (as_cons (es_toU2 (K := K) (C := (CT 18)) (e := eB) (x := false) (u := U.bl false) es_c rfl) (as_cons (es_toU2 (K := K) (C := (CT 18)) (e := eI) (x := (before_9 + 1)) (u := U.int (before_9 + 1)) (es_add (es_var 5 rfl) es_c) rfl) as_nil)))) (as_cons (es_tupU (K := K) (l := [U.int before_9, U.int (10 ^ 60)]) (es_tup (K := K) (as_cons (es_toU2 (K := K) (C := (CT 18)) (e := eI) (x := before_9) (u := U.int before_9) (es_var 5 rfl) rfl) (as_cons (es_toU2 (K := K) (C := (CT 18)) (e := eI) (x := (10 ^ 60)) (u := U.int (10 ^ 60)) (es_pow es_c es_c ⟨by decide, by decide, by decide⟩) rfl) as_nil)))) (as_cons (es_tupU (K := K) (l := [U.int before_9, U.bl true]) (es_tup (K := K) (as_cons (es_toU2 (K := K) (C := (CT 18)) (e := eI) (x := before_9) (u := U.int before_9) (es_var 5 rfl) rfl) (as_cons (es_toU2 (K := K) (C := (CT 18)) (e := eB) (x := true) (u := U.bl true) es_c rfl) as_nil)))) as_nil))))))) rfl g8))) Wk.refl g17 (fun s_13 x_14 _ h => ⟨[.ow (oLq (some p) (bagR bag_7)), .fz ((eLs (eP2 K eI eI)) spans_2), .ow (oLs (eP2 K (eU (CT 18)) eS) s_13), .fz ((eU (CT 18)) x_14), .fz (eI at_8), .fz (eI before_9), .ow (oLs (eU (CT 18)) odd_12)], _, gs_name 3, ?_⟩) (fun _ hw => hw)) (fun f_17 e_f_17 => ?_)
    · unfold m_bad_spans_o2 at h
      obtain ⟨g9, g10, g11, g12, h⟩ := h
      refine ss_seq1 (s_13 ++ [((U.lst ((List.map (fun y : Int × Int => U.tup [U.int y.1, U.int y.2]) (cutL spans_2 none (some at_8))) ++ ([x_14] : List U)), (Str.ofString "InvalidSpans ") ++ (reprI at_8)) : U × Str)]) (fun found_15 => [.ow (oLq (some p) (bagR bag_7)), .fz ((eLs (eP2 K eI eI)) spans_2), .ow (oLs (eP2 K (eU (CT 18)) eS) found_15), .fz ((eU (CT 18)) x_14), .fz (eI at_8), .fz (eI before_9), .ow (oLs (eU (CT 18)) odd_12)]) (ss_appendO (e := (eP2 K (eU (CT 18)) eS)) (x := ((U.lst ((List.map (fun y : Int × Int => U.tup [U.int y.1, U.int y.2]) (cutL spans_2 none (some at_8))) ++ ([x_14] : List U)), (Str.ofString "InvalidSpans ") ++ (reprI at_8)) : U × Str)) rfl (es_tup (K := K) (as_cons (es_toU2 (K := K) (C := (CT 18)) (e := (eLs (eU (CT 18)))) (x := ((List.map (fun y : Int × Int => U.tup [U.int y.1, U.int y.2]) (cutL spans_2 none (some at_8))) ++ ([x_14] : List U))) (u := U.lst ((List.map (fun y : Int × Int => U.tup [U.int y.1, U.int y.2]) (cutL spans_2 none (some at_8))) ++ ([x_14] : List U))) (es_frs (eU (CT 18)) ((List.map (fun y : Int × Int => U.tup [U.int y.1, U.int y.2]) (cutL spans_2 none (some at_8))) ++ ([x_14] : List U)) (en_cat (es_upU2 (K := K) (C := (CT 18)) (e := (eP2 K eI eI)) (l := (cutL spans_2 none (some at_8))) (m := List.map (fun y : Int × Int => U.tup [U.int y.1, U.int y.2]) (cutL spans_2 none (some at_8))) (es_frs (eP2 K eI eI) (cutL spans_2 none (some at_8)) (en_slice (e := (eP2 K eI eI)) (es_var 1 rfl) os_no (os_some (es_var 4 rfl)))) rfl) (es_frs (eU (CT 18)) ([x_14] : List U) (en_lst (rs := List.map (eU (CT 18)) [x_14]) (as_cons (es_var 3 rfl) as_nil))) g9)) (congrArg U.lst (List.map_id _))) (as_cons (es_addS es_c (es_reprI (es_var 4 rfl) g10) g11) as_nil))) rfl g12 Wk.refl) (fun found_15 e_found_15 => ?_)
      replace h := h found_15 e_found_15
      obtain ⟨g13, g14, g15, g16, h⟩ := h
      refine ss_seq1 (found_15 ++ [((U.lst ((List.map (fun y : Int × Int => U.tup [U.int y.1, U.int y.2]) (cutL spans_2 none (some at_8))) ++ (cutL ([x_14, U.non] : List U) none (some (12 - at_8)))), (Str.ofString "InvalidSpans ") ++ (reprI at_8)) : U × Str)]) (fun found_16 => [.ow (oLq (some p) (bagR bag_7)), .fz ((eLs (eP2 K eI eI)) spans_2), .ow (oLs (eP2 K (eU (CT 18)) eS) found_16), .fz ((eU (CT 18)) x_14), .fz (eI at_8), .fz (eI before_9), .ow (oLs (eU (CT 18)) odd_12)]) (ss_appendO (e := (eP2 K (eU (CT 18)) eS)) (x := ((U.lst ((List.map (fun y : Int × Int => U.tup [U.int y.1, U.int y.2]) (cutL spans_2 none (some at_8))) ++ (cutL ([x_14, U.non] : List U) none (some (12 - at_8)))), (Str.ofString "InvalidSpans ") ++ (reprI at_8)) : U × Str)) rfl (es_tup (K := K) (as_cons (es_toU2 (K := K) (C := (CT 18)) (e := (eLs (eU (CT 18)))) (x := ((List.map (fun y : Int × Int => U.tup [U.int y.1, U.int y.2]) (cutL spans_2 none (some at_8))) ++ (cutL ([x_14, U.non] : List U) none (some (12 - at_8))))) (u := U.lst ((List.map (fun y : Int × Int => U.tup [U.int y.1, U.int y.2]) (cutL spans_2 none (some at_8))) ++ (cutL ([x_14, U.non] : List U) none (some (12 - at_8))))) (es_frs (eU (CT 18)) ((List.map (fun y : Int × Int => U.tup [U.int y.1, U.int y.2]) (cutL spans_2 none (some at_8))) ++ (cutL ([x_14, U.non] : List U) none (some (12 - at_8)))) (en_cat (es_upU2 (K := K) (C := (CT 18)) (e := (eP2 K eI eI)) (l := (cutL spans_2 none (some at_8))) (m := List.map (fun y : Int × Int => U.tup [U.int y.1, U.int y.2]) (cutL spans_2 none (some at_8))) (es_frs (eP2 K eI eI) (cutL spans_2 none (some at_8)) (en_slice (e := (eP2 K eI eI)) (es_var 1 rfl) os_no (os_some (es_var 4 rfl)))) rfl) (es_frs (eU (CT 18)) (cutL ([x_14, U.non] : List U) none (some (12 - at_8))) (en_slice (e := (eU (CT 18))) (es_frs (eU (CT 18)) ([x_14, U.non] : List U) (en_lst (rs := List.map (eU (CT 18)) [x_14, U.non]) (as_cons (es_var 3 rfl) (as_cons (es_nonU es_c) as_nil)))) os_no (os_some (es_sub es_c (es_var 4 rfl))))) g13)) (congrArg U.lst (List.map_id _))) (as_cons (es_addS es_c (es_reprI (es_var 4 rfl) g14) g15) as_nil))) rfl g16 Wk.refl) (fun found_16 e_found_16 => ?_)
      replace h := h found_16 e_found_16
      replace e_found_16 := Eq.symm e_found_16; subst e_found_16; replace e_found_15 := Eq.symm e_found_15; subst e_found_15
      exact ss_nx ⟨.inr rfl, ⟨.inr rfl, ⟨.inr rfl, ⟨.inl ⟨rfl, rfl⟩, ⟨.inr rfl, ⟨.inr rfl, ⟨.inr rfl, trivial⟩⟩⟩⟩⟩⟩⟩
    replace h := h f_17 e_f_17
    refine ss_retO (e := (eP2 K (eU (CT 18)) eS)) (i := 2) rfl ?_
    replace e_f_17 := Eq.symm e_f_17; subst e_f_17; replace e_odd_12 := Eq.symm e_odd_12; subst e_odd_12; replace e_odd_11 := Eq.symm e_odd_11; subst e_odd_11; replace e_odd_10 := Eq.symm e_odd_10; subst e_odd_10; replace e_before_9 := Eq.symm e_before_9; subst e_before_9; replace e_bag_7 := Eq.symm e_bag_7; subst e_bag_7; replace e_at_8 := Eq.symm e_at_8; subst e_at_8; replace e_f_6 := Eq.symm e_f_6; subst e_f_6
    exact ⟨rfl, rfl⟩
end
def m_bad_integers (low_1 : Int) (high_2 : Int) : List U :=
let found_3 := ([U.non, U.bl true, U.bl false, U.str (Str.ofString ""), U.str (Str.ofString "1"), U.lst [], U.lst [U.int low_1], U.tup [U.int low_1], U.dic, U.int (low_1 - 1), U.int (high_2 + 1), U.int (low_1 - (10 ^ 30)), U.int (high_2 + (10 ^ 40))] : List U)
found_3 ++ ([U.int (0 - ((10 ^ 64) * (10 ^ 30)))] : List U)
def m_bad_integers_ok (low_1 : Int) (high_2 : Int) : Prop :=
(∀ found_3, found_3 = ([U.non, U.bl true, U.bl false, U.str (Str.ofString ""), U.str (Str.ofString "1"), U.lst [], U.lst [U.int low_1], U.tup [U.int low_1], U.dic, U.int (low_1 - 1), U.int (high_2 + 1), U.int (low_1 - (10 ^ 30)), U.int (high_2 + (10 ^ 40))] : List U) → (CMulW (10 ^ 64) (10 ^ 30)) ∧ (found_3.length + ([U.int (0 - ((10 ^ 64) * (10 ^ 30)))] : List U).length ≤ 16000000) ∧ True)
def sp_bad_integers (K : PySem.W.Frag) (CT : Nat → Addr) : Sp := spF (ι := Int × Int) (fun d => [eI d.1, eI d.2]) (fun d => m_bad_integers_ok d.1 d.2) (fun d => (eLs (eU (CT 18))) (m_bad_integers d.1 d.2))
abbrev s_bad_integers : Stmt := top 50
abbrev N_bad_integers : List Str := ["_law_low", "_law_high", "_law_found"]
theorem sc_bad_integers : FnScope N_bad_integers ["_law_low", "_law_high"] (defScope s_bad_integers) := ⟨rfl, rfl, rfl, by decide +kernel, rfl, by decide +kernel, by decide +kernel⟩
section
variable {P : Program} {w : World} {K : PySem.W.Frag} {mg : Str → Option Value} {base : Heap} {CT : Nat → Addr}
theorem ok_bad_integers {f : Addr} {fd : FuncData} (F : Fun K "_law_bad_integers" "_law_bad_integers" s_bad_integers f fd) : FnG P w K mg base CX0 1 f fd ["_law_low", "_law_high"] (sp_bad_integers K CT) := by
  refine Fun.okG F sc_bad_integers (fun vs H Q E h => ?_) (fun cdv A outer s H vs Q E hG hr h => ?_)
  · obtain ⟨d, F, _, _, h, _⟩ := h
    exact h.len
  · have nd := sc_bad_integers.nd
    have hU := hr.units
    refine ⟨_, (pss_cons (ps_set (i := 2) nd rfl (by first | exact .inl rfl | exact .inr rfl) (pe_lst (pa_cons pe_non (pa_cons pe_bl (pa_cons pe_bl (pa_cons pe_str (pa_cons pe_str (pa_cons (pe_lst pa_nil) (pa_cons (pe_lst (pa_cons (pv 0) pa_nil)) (pa_cons (pe_tup (pa_cons (pv 0) pa_nil)) (pa_cons pe_dnewK (pa_cons (pe_op op_sub (pv 0) pe_int) (pa_cons (pe_op op_add (pv 1) pe_int) (pa_cons (pe_op op_sub (pv 0) (pe_op op_pow pe_int pe_int)) (pa_cons (pe_op op_add (pv 1) (pe_op op_pow pe_int pe_int)) pa_nil)))))))))))))))
 (pss_cons (ps_ret (pe_op op_cat (pv 2) (pe_lst (pa_cons (pe_op op_sub pe_int (pe_op op_mulW (pe_op op_pow pe_int pe_int) (pe_op op_pow pe_int pe_int))) pa_nil))))
 pss_nil)), ?_⟩
    refine def_F h (fun d => Nat.le_of_ble_eq_true rfl) (fun d h => ?_)
    obtain ⟨low_1, high_2⟩ := d
    replace h : m_bad_integers_ok low_1 high_2 := h
    unfold m_bad_integers_ok at h
    show SS _ [.fz (eI low_1), .fz (eI high_2), .no] (FP (eLs (eU (CT 18))) (m_bad_integers low_1 high_2))
    refine ss_seq1 ([U.non, U.bl true, U.bl false, U.str (Str.ofString ""), U.str (Str.ofString "1"), U.lst [], U.lst [U.int low_1], U.tup [U.int low_1], U.dic, U.int (low_1 - 1), U.int (high_2 + 1), U.int (low_1 - (10 ^ 30)), U.int (high_2 + (10 ^ 40))] : List U) (fun found_3 => [.fz (eI low_1), .fz (eI high_2), .fz ((eLs (eU (CT 18))) found_3)]) (ss_set (es_frs (eU (CT 18)) ([U.non, U.bl true, U.bl false, U.str (Str.ofString ""), U.str (Str.ofString "1"), U.lst [], U.lst [U.int low_1], U.tup [U.int low_1], U.dic, U.int (low_1 - 1), U.int (high_2 + 1), U.int (low_1 - (10 ^ 30)), U.int (high_2 + (10 ^ 40))] : List U) (en_lst (rs := List.map (eU (CT 18)) [U.non, U.bl true, U.bl false, U.str (Str.ofString ""), U.str (Str.ofString "1"), U.lst [], U.lst [U.int low_1], U.tup [U.int low_1], U.dic, U.int (low_1 - 1), U.int (high_2 + 1), U.int (low_1 - (10 ^ 30)), U.int (high_2 + (10 ^ 40))]) (as_cons (es_nonU es_c) (as_cons (es_toU2 (K := K) (C := (CT 18)) (e := eB) (x := true) (u := U.bl true) es_c rfl) (as_cons (es_toU2 (K := K) (C := (CT 18)) (e := eB) (x := false) (u := U.bl false) es_c rfl) (as_cons (es_toU2 (K := K) (C := (CT 18)) (e := eS) (x := (Str.ofString "")) (u := U.str (Str.ofString "")) es_c rfl) (as_cons (es_toU2 (K := K) (C := (CT 18)) (e := eS) (x := (Str.ofString "1")) (u := U.str (Str.ofString "1")) es_c rfl) (as_cons (es_toU2 (K := K) (C := (CT 18)) (e := (eLs (eU (CT 18)))) (x := []) (u := U.lst []) (es_frs (eU (CT 18)) [] (en_lst as_nil)) (congrArg U.lst (List.map_id _))) (as_cons (es_toU2 (K := K) (C := (CT 18)) (e := (eLs (eU (CT 18)))) (x := [U.int low_1]) (u := U.lst [U.int low_1]) (es_frs (eU (CT 18)) [U.int low_1] (en_lst (as_cons (es_toU2 (K := K) (C := (CT 18)) (e := eI) (x := low_1) (u := U.int low_1) (es_var 0 rfl) rfl) as_nil))) (congrArg U.lst (List.map_id _))) (as_cons (es_tupU (K := K) (l := [U.int low_1]) (es_tup (K := K) (as_cons (es_toU2 (K := K) (C := (CT 18)) (e := eI) (x := low_1) (u := U.int low_1) (es_var 0 rfl) rfl) as_nil))) (as_cons (es_dicU es_dnew) (as_cons (es_toU2 (K := K) (C := (CT 18)) (e := eI) (x := (low_1 - 1)) (u := U.int (low_1 - 1)) (es_sub (es_var 0 rfl) es_c) rfl) (as_cons (es_toU2 (K := K) (C := (CT 18)) (e := eI) (x := (high_2 + 1)) (u := U.int (high_2 + 1)) (es_add (es_var 1 rfl) es_c) rfl) (as_cons (es_toU2 (K := K) (C := (CT 18)) (e := eI) (x := (low_1 - (10 ^ 30))) (u := U.int (low_1 - (10 ^ 30))) (es_sub (es_var 0 rfl) (es_pow es_c es_c ⟨by decide, by decide, by decide⟩)) rfl) (as_cons (es_toU2 (K := K) (C := (CT 18)) (e := eI) (x := (high_2 + (10 ^ 40))) (u := U.int (high_2 + (10 ^ 40))) (es_add (es_var 1 rfl) (es_pow es_c es_c ⟨by decide, by decide, by decide⟩)) rfl) as_nil))))))))))))))) Wk.refl) (fun found_3 e_found_3 => ?_)
    replace h := h found_3 e_found_3
    obtain ⟨g1, g2, h⟩ := h
    refine ss_retq (es_frs (eU (CT 18)) (found_3 ++ ([U.int (0 - ((10 ^ 64) * (10 ^ 30)))] : List U)) (en_cat (es_var 2 rfl) (es_frs (eU (CT 18)) ([U.int (0 - ((10 ^ 64) * (10 ^ 30)))] : List U) (en_lst (rs := List.map (eU (CT 18)) [U.int (0 - ((10 ^ 64) * (10 ^ 30)))]) (as_cons (es_toU2 (K := K) (C := (CT 18)) (e := eI) (x := (0 - ((10 ^ 64) * (10 ^ 30)))) (u := U.int (0 - ((10 ^ 64) * (10 ^ 30)))) (es_sub es_c (es_mulW (es_pow es_c es_c ⟨by decide, by decide, by decide⟩) (es_pow es_c es_c ⟨by decide, by decide, by decide⟩) g1)) rfl) as_nil))) g2)) ?_
    replace e_found_3 := Eq.symm e_found_3; subst e_found_3
    exact rfl
end
def m_called (way_1 : Int) (some_2 : List U) : Xc ⊕ (Unit) :=
if (decide (way_1 = 0)) = true then (
xbind (m_Table___init__4 () (nth some_2 0) (nth some_2 1) (nth some_2 2)) (fun b_3 => .inr ()))
else (
if (decide (way_1 = 1)) = true then (
xbind (m_Table_value (U.unTb (nth some_2 0)) (nth some_2 1)) (fun b_4 => .inr ()))
else (
if (decide (way_1 = 2)) = true then (
xbind (m_Table_tail (U.unTb (nth some_2 0)) (nth some_2 1) (nth some_2 2)) (fun b_5 => .inr ()))
else (
if (decide (way_1 = 3)) = true then (
xbind (m_key_count (nth some_2 0)) (fun b_6 => .inr ()))
else (
if (decide (way_1 = 4)) = true then (
xbind (m_tail_count (nth some_2 0) (nth some_2 1) (nth some_2 2) (nth some_2 3)) (fun b_7 => .inr ()))
else (
xbind (m_nth_key (nth some_2 0) (nth some_2 1) (nth some_2 2) (nth some_2 3) (nth some_2 4)) (fun b_8 => .inr ()))))))
def m_called_ok (way_1 : Int) (some_2 : List U) : Prop :=
((decide (way_1 = 0)) = true → ((0 ≤ (0 : Int) ∧ (0 : Int) < some_2.length) ∧ (0 ≤ (1 : Int) ∧ (1 : Int) < some_2.length) ∧ (0 ≤ (2 : Int) ∧ (2 : Int) < some_2.length) ∧ (m_Table___init__4_ok () (nth some_2 0) (nth some_2 1) (nth some_2 2)) ∧ (∀ b, (m_Table___init__4 () (nth some_2 0) (nth some_2 1) (nth some_2 2)) = .inr b → False) ∧ (∀ b_3, (m_Table___init__4 () (nth some_2 0) (nth some_2 1) (nth some_2 2)) = .inr b_3 → ((True))))) ∧ ((decide (way_1 = 0)) = false → (((decide (way_1 = 1)) = true → ((0 ≤ (0 : Int) ∧ (0 : Int) < some_2.length) ∧ (U.ty (nth some_2 0) = 7) ∧ (0 ≤ (1 : Int) ∧ (1 : Int) < some_2.length) ∧ (m_Table_value_ok (U.unTb (nth some_2 0)) (nth some_2 1)) ∧ (∀ b_4, (m_Table_value (U.unTb (nth some_2 0)) (nth some_2 1)) = .inr b_4 → ((True))))) ∧ ((decide (way_1 = 1)) = false → (((decide (way_1 = 2)) = true → ((0 ≤ (0 : Int) ∧ (0 : Int) < some_2.length) ∧ (U.ty (nth some_2 0) = 7) ∧ (0 ≤ (1 : Int) ∧ (1 : Int) < some_2.length) ∧ (0 ≤ (2 : Int) ∧ (2 : Int) < some_2.length) ∧ (m_Table_tail_ok (U.unTb (nth some_2 0)) (nth some_2 1) (nth some_2 2)) ∧ (∀ b_5, (m_Table_tail (U.unTb (nth some_2 0)) (nth some_2 1) (nth some_2 2)) = .inr b_5 → ((True))))) ∧ ((decide (way_1 = 2)) = false → (((decide (way_1 = 3)) = true → ((0 ≤ (0 : Int) ∧ (0 : Int) < some_2.length) ∧ (m_key_count_ok (nth some_2 0)) ∧ (∀ b_6, (m_key_count (nth some_2 0)) = .inr b_6 → ((True))))) ∧ ((decide (way_1 = 3)) = false → (((decide (way_1 = 4)) = true → ((0 ≤ (0 : Int) ∧ (0 : Int) < some_2.length) ∧ (0 ≤ (1 : Int) ∧ (1 : Int) < some_2.length) ∧ (0 ≤ (2 : Int) ∧ (2 : Int) < some_2.length) ∧ (0 ≤ (3 : Int) ∧ (3 : Int) < some_2.length) ∧ (m_tail_count_ok (nth some_2 0) (nth some_2 1) (nth some_2 2) (nth some_2 3)) ∧ (∀ b_7, (m_tail_count (nth some_2 0) (nth some_2 1) (nth some_2 2) (nth some_2 3)) = .inr b_7 → ((True))))) ∧ ((decide (way_1 = 4)) = false → ((0 ≤ (0 : Int) ∧ (0 : Int) < some_2.length) ∧ (0 ≤ (1 : Int) ∧ (1 : Int) < some_2.length) ∧ (0 ≤ (2 : Int) ∧ (2 : Int) < some_2.length) ∧ (0 ≤ (3 : Int) ∧ (3 : Int) < some_2.length) ∧ (0 ≤ (4 : Int) ∧ (4 : Int) < some_2.length) ∧ (m_nth_key_ok (nth some_2 0) (nth some_2 1) (nth some_2 2) (nth some_2 3) (nth some_2 4)) ∧ (∀ b_8, (m_nth_key (nth some_2 0) (nth some_2 1) (nth some_2 2) (nth some_2 3) (nth some_2 4)) = .inr b_8 → ((True)))))))))))))
def sp_called (K : PySem.W.Frag) (CT : Nat → Addr) : Sp := spX (ι := Int × (List U)) CT (fun d => [eI d.1, (eLs (eU (CT 18))) d.2]) (fun d => m_called_ok d.1 d.2) (fun d => m_called d.1 d.2) (fun d => eN)
abbrev s_called : Stmt := top 51
abbrev N_called : List Str := ["_law_way", "_law_some"]
theorem sc_called : FnScope N_called ["_law_way", "_law_some"] (defScope s_called) := ⟨rfl, rfl, rfl, by decide +kernel, rfl, by decide +kernel, by decide +kernel⟩
section
variable {P : Program} {w : World} {K : PySem.W.Frag} {mg : Str → Option Value} {base : Heap} {CT : Nat → Addr}
theorem ok_called {f : Addr} {fd : FuncData} (F : Fun K "_law_called" "_law_called" s_called f fd) {a_Table___init__4 : Addr} {fd_Table___init__4 : FuncData} (F_Table___init__4 : Fun K "__init__" "Table.__init__" s_Table___init__4 a_Table___init__4 fd_Table___init__4) (G_Table___init__4 : FnG P w K mg base (L2.CX P w) 3 a_Table___init__4 fd_Table___init__4 ["self", "capacity", "rate", "shift"] (sp_Table___init__4 K CT)) (MT4 : Mk K (CT 18) a_Table___init__4) (b_Table___init__4 : Binds K fd_Table___init__4 ["self", "capacity", "rate", "shift"] []) {a_Table_value : Addr} {fd_Table_value : FuncData} (F_Table_value : Fun K "value" "Table.value" s_Table_value a_Table_value fd_Table_value) (G_Table_value : FnG P w K mg base (L2.CX P w) 4 a_Table_value fd_Table_value ["self", "key"] (sp_Table_value K CT)) (M_Table_value : Meth K (CT 18) "value" a_Table_value) (b_Table_value : Binds K fd_Table_value ["self", "key"] []) {a_Table_tail : Addr} {fd_Table_tail : FuncData} (F_Table_tail : Fun K "tail" "Table.tail" s_Table_tail a_Table_tail fd_Table_tail) (G_Table_tail : FnG P w K mg base (L2.CX P w) 4 a_Table_tail fd_Table_tail ["self", "key", "depth"] (sp_Table_tail K CT)) (M_Table_tail : Meth K (CT 18) "tail" a_Table_tail) (b_Table_tail : Binds K fd_Table_tail ["self", "key", "depth"] []) {a_key_count : Addr} {fd_key_count : FuncData} (F_key_count : Fun K "key_count" "key_count" s_key_count a_key_count fd_key_count) (G_key_count : FnG P w K mg base (L2.CX P w) 5 a_key_count fd_key_count ["spans"] (sp_key_count K CT)) (j_key_count : mg "key_count" = some (.ref a_key_count)) (b_key_count : Binds K fd_key_count ["spans"] []) {a_tail_count : Addr} {fd_tail_count : FuncData} (F_tail_count : Fun K "tail_count" "tail_count" s_tail_count a_tail_count fd_tail_count) (G_tail_count : FnG P w K mg base (L2.CX P w) 6 a_tail_count fd_tail_count ["table", "spans", "depth", "tail"] (sp_tail_count K CT)) (j_tail_count : mg "tail_count" = some (.ref a_tail_count)) (b_tail_count : Binds K fd_tail_count ["table", "spans", "depth", "tail"] []) {a_nth_key : Addr} {fd_nth_key : FuncData} (F_nth_key : Fun K "nth_key" "nth_key" s_nth_key a_nth_key fd_nth_key) (G_nth_key : FnG P w K mg base (L2.CX P w) 6 a_nth_key fd_nth_key ["table", "spans", "depth", "tail", "number"] (sp_nth_key K CT)) (j_nth_key : mg "nth_key" = some (.ref a_nth_key)) (b_nth_key : Binds K fd_nth_key ["table", "spans", "depth", "tail", "number"] []) (TT : TblTxt K mg (CT 18)) : FnG P w K mg base (L2.CX P w) 7 f fd ["_law_way", "_law_some"] (sp_called K CT) := by
  obtain ⟨clT, na_own_capacity, na_own_rate, na_own_shift, mgT, isT, xaT, xbT, xcT, xdT⟩ := TT
  refine Fw.Fun.okGX F sc_called (fun vs H Q E h => ?_) (fun cdv A outer s H vs Q E hG hr h => ?_)
  · obtain ⟨d, F, _, _, h, _⟩ := h
    exact h.len
  · have nd := sc_called.nd
    have hU := hr.units
    refine ⟨_, (pss_cons (ps_if (pt_cmpR op_eq (pv 0) pe_int (nomark _)) (pss_cons (ps_expr (pg_make MT4 G_Table___init__4 hG (hr.mono (by decide)) rfl mgT b_Table___init__4 .nil (passes_call (takes_of rfl rfl rfl rfl) (fun _ _ _ _ h => h)) (pa_cons (pe_ix (ix_listK (K := K) rfl) (pv 1) pe_int (fun _ _ => rfl)) (pa_cons (pe_ix (ix_listK (K := K) rfl) (pv 1) pe_int (fun _ _ => rfl)) (pa_cons (pe_ix (ix_listK (K := K) rfl) (pv 1) pe_int (fun _ _ => rfl)) pa_nil)))))
 pss_nil) (pss_cons (ps_if (pt_cmpR op_eq (pv 0) pe_int (nomark _)) (pss_cons (ps_expr (pg_meth (pe_ix (ix_listK (K := K) rfl) (pv 1) pe_int (fun _ _ => rfl)) clT M_Table_value G_Table_value hG (hr.mono (by decide)) b_Table_value .nil (passes_call (takes_of rfl rfl rfl rfl) (fun _ _ _ _ h => h)) (pa_cons (pe_ix (ix_listK (K := K) rfl) (pv 1) pe_int (fun _ _ => rfl)) pa_nil)))
 pss_nil) (pss_cons (ps_if (pt_cmpR op_eq (pv 0) pe_int (nomark _)) (pss_cons (ps_expr (pg_meth (pe_ix (ix_listK (K := K) rfl) (pv 1) pe_int (fun _ _ => rfl)) clT M_Table_tail G_Table_tail hG (hr.mono (by decide)) b_Table_tail .nil (passes_call (takes_of rfl rfl rfl rfl) (fun _ _ _ _ h => h)) (pa_cons (pe_ix (ix_listK (K := K) rfl) (pv 1) pe_int (fun _ _ => rfl)) (pa_cons (pe_ix (ix_listK (K := K) rfl) (pv 1) pe_int (fun _ _ => rfl)) pa_nil))))
 pss_nil) (pss_cons (ps_if (pt_cmpR op_eq (pv 0) pe_int (nomark _)) (pss_cons (ps_expr (pg_call G_key_count hG (hr.mono (by decide)) rfl j_key_count F_key_count.kp b_key_count .nil (passes_call (takes_of rfl rfl rfl rfl) (fun _ _ _ _ h => h)) (pa_cons (pe_ix (ix_listK (K := K) rfl) (pv 1) pe_int (fun _ _ => rfl)) pa_nil)))
 pss_nil) (pss_cons (ps_if (pt_cmpR op_eq (pv 0) pe_int (nomark _)) (pss_cons (ps_expr (pg_call G_tail_count hG (hr.mono (by decide)) rfl j_tail_count F_tail_count.kp b_tail_count .nil (passes_call (takes_of rfl rfl rfl rfl) (fun _ _ _ _ h => h)) (pa_cons (pe_ix (ix_listK (K := K) rfl) (pv 1) pe_int (fun _ _ => rfl)) (pa_cons (pe_ix (ix_listK (K := K) rfl) (pv 1) pe_int (fun _ _ => rfl)) (pa_cons (pe_ix (ix_listK (K := K) rfl) (pv 1) pe_int (fun _ _ => rfl)) (pa_cons (pe_ix (ix_listK (K := K) rfl) (pv 1) pe_int (fun _ _ => rfl)) pa_nil))))))
 pss_nil) (pss_cons (ps_expr (pg_call G_nth_key hG (hr.mono (by decide)) rfl j_nth_key F_nth_key.kp b_nth_key .nil (passes_call (takes_of rfl rfl rfl rfl) (fun _ _ _ _ h => h)) (pa_cons (pe_ix (ix_listK (K := K) rfl) (pv 1) pe_int (fun _ _ => rfl)) (pa_cons (pe_ix (ix_listK (K := K) rfl) (pv 1) pe_int (fun _ _ => rfl)) (pa_cons (pe_ix (ix_listK (K := K) rfl) (pv 1) pe_int (fun _ _ => rfl)) (pa_cons (pe_ix (ix_listK (K := K) rfl) (pv 1) pe_int (fun _ _ => rfl)) (pa_cons (pe_ix (ix_listK (K := K) rfl) (pv 1) pe_int (fun _ _ => rfl)) pa_nil)))))))
 pss_nil))
 pss_nil))
 pss_nil))
 pss_nil))
 pss_nil))
 pss_nil), ?_⟩
    refine def_X h (fun d => Nat.le_of_ble_eq_true rfl) (fun d h A hE => ?_)
    obtain ⟨way_1, some_2⟩ := d
    replace h : m_called_ok way_1 some_2 := h
    unfold m_called_ok at h
    replace hE : ∀ y, m_called way_1 some_2 = .inl y → HE CT A E y := hE
    show SS _ [.fz (eAt A (eI way_1)), .fz (eAt A ((eLs (eU (CT 18))) some_2))] (FPX (fun _ : Unit => eN) (m_called way_1 some_2))
    obtain ⟨hA, hB⟩ := h
    refine ss_ifEv (FPX (fun _ : Unit => eN)) (et_cmp (es_at (es_var 0 rfl)) es_c q_eqI) (fun hc => ?_) (fun hc => ?_)
    · replace h := hA hc; clear hA hB; replace hE := HEt hc hE
      simp only [sq_assoc, sq_next]
      obtain ⟨g1, g2, g3, g4, g5, h⟩ := h
      refine ss_xS0 (G := (FPX (fun _ : Unit => eN))) (W1 := fun b_3 => [.fz (eAt A (eI way_1)), .fz (eAt A ((eLs (eU (CT 18))) some_2))]) (res := fun b_3 => eN) (ex_mkX2 (A := A) (z := []) (i := 0) ((), nth some_2 0, nth some_2 1, nth some_2 2) (as_cons (es_ixL (e := (eU (CT 18))) (es_at (es_var 1 rfl)) es_c g1) (as_cons (es_ixL (e := (eU (CT 18))) (es_at (es_var 1 rfl)) es_c g2) (as_cons (es_ixL (e := (eU (CT 18))) (es_at (es_var 1 rfl)) es_c g3) as_nil))) rfl g4 g5 rfl trivial) (fun _ => xs_drop) hE (fun b_3 hm_b_3 hE he_b_3 => ?_)
      replace h := h b_3 hm_b_3
      refine ss_seqTo [.fz (eAt A (eI way_1)), .fz (eAt A ((eLs (eU (CT 18))) some_2))] (ss_drop he_b_3 Wk.refl) ?_
      exact ss_nx ⟨_, rfl, rfl⟩
    · replace h := hB hc; clear hA hB; replace hE := HEf hc hE
      simp only [sq_assoc, sq_next]
      obtain ⟨hA, hB⟩ := h
      refine ss_ifEv (FPX (fun _ : Unit => eN)) (et_cmp (es_at (es_var 0 rfl)) es_c q_eqI) (fun hc => ?_) (fun hc => ?_)
      · replace h := hA hc; clear hA hB; replace hE := HEt hc hE
        simp only [sq_assoc, sq_next]
        obtain ⟨g6, g7, g8, g9, h⟩ := h
        refine ss_xS0 (G := (FPX (fun _ : Unit => eN))) (W1 := fun b_4 => [.fz (eAt A (eI way_1)), .fz (eAt A ((eLs (eU (CT 18))) some_2))]) (res := fun b_4 => eI b_4) (ex_meth (A := A) (z := []) (i := 0) (U.unTb (nth some_2 0), nth some_2 1) (es_unTb (es_ixL (e := (eU (CT 18))) (es_at (es_var 1 rfl)) es_c g6) g7) (tbl_no (by decide +kernel)) (as_cons (es_ixL (e := (eU (CT 18))) (es_at (es_var 1 rfl)) es_c g8) as_nil) rfl g9 rfl trivial) (fun _ => xs_drop) hE (fun b_4 hm_b_4 hE he_b_4 => ?_)
        replace h := h b_4 hm_b_4
        refine ss_seqTo [.fz (eAt A (eI way_1)), .fz (eAt A ((eLs (eU (CT 18))) some_2))] (ss_drop he_b_4 Wk.refl) ?_
        exact ss_nx ⟨_, rfl, rfl⟩
      · replace h := hB hc; clear hA hB; replace hE := HEf hc hE
        simp only [sq_assoc, sq_next]
        obtain ⟨hA, hB⟩ := h
        refine ss_ifEv (FPX (fun _ : Unit => eN)) (et_cmp (es_at (es_var 0 rfl)) es_c q_eqI) (fun hc => ?_) (fun hc => ?_)
        · replace h := hA hc; clear hA hB; replace hE := HEt hc hE
          simp only [sq_assoc, sq_next]
          obtain ⟨g10, g11, g12, g13, g14, h⟩ := h
          refine ss_xS0 (G := (FPX (fun _ : Unit => eN))) (W1 := fun b_5 => [.fz (eAt A (eI way_1)), .fz (eAt A ((eLs (eU (CT 18))) some_2))]) (res := fun b_5 => eI b_5) (ex_meth (A := A) (z := []) (i := 0) (U.unTb (nth some_2 0), nth some_2 1, nth some_2 2) (es_unTb (es_ixL (e := (eU (CT 18))) (es_at (es_var 1 rfl)) es_c g10) g11) (tbl_no (by decide +kernel)) (as_cons (es_ixL (e := (eU (CT 18))) (es_at (es_var 1 rfl)) es_c g12) (as_cons (es_ixL (e := (eU (CT 18))) (es_at (es_var 1 rfl)) es_c g13) as_nil)) rfl g14 rfl trivial) (fun _ => xs_drop) hE (fun b_5 hm_b_5 hE he_b_5 => ?_)
          replace h := h b_5 hm_b_5
          refine ss_seqTo [.fz (eAt A (eI way_1)), .fz (eAt A ((eLs (eU (CT 18))) some_2))] (ss_drop he_b_5 Wk.refl) ?_
          exact ss_nx ⟨_, rfl, rfl⟩
        · replace h := hB hc; clear hA hB; replace hE := HEf hc hE
          simp only [sq_assoc, sq_next]
          obtain ⟨hA, hB⟩ := h
          refine ss_ifEv (FPX (fun _ : Unit => eN)) (et_cmp (es_at (es_var 0 rfl)) es_c q_eqI) (fun hc => ?_) (fun hc => ?_)
          · replace h := hA hc; clear hA hB; replace hE := HEt hc hE
            simp only [sq_assoc, sq_next]
            obtain ⟨g15, g16, h⟩ := h
            refine ss_xS0 (G := (FPX (fun _ : Unit => eN))) (W1 := fun b_6 => [.fz (eAt A (eI way_1)), .fz (eAt A ((eLs (eU (CT 18))) some_2))]) (res := fun b_6 => eI b_6) (ex_call (A := A) (z := []) (i := 0) (nth some_2 0) (as_cons (es_ixL (e := (eU (CT 18))) (es_at (es_var 1 rfl)) es_c g15) as_nil) g16 rfl trivial) (fun _ => xs_drop) hE (fun b_6 hm_b_6 hE he_b_6 => ?_)
            replace h := h b_6 hm_b_6
            refine ss_seqTo [.fz (eAt A (eI way_1)), .fz (eAt A ((eLs (eU (CT 18))) some_2))] (ss_drop he_b_6 Wk.refl) ?_
            exact ss_nx ⟨_, rfl, rfl⟩
          · replace h := hB hc; clear hA hB; replace hE := HEf hc hE
            simp only [sq_assoc, sq_next]
            obtain ⟨hA, hB⟩ := h
            refine ss_ifEv (FPX (fun _ : Unit => eN)) (et_cmp (es_at (es_var 0 rfl)) es_c q_eqI) (fun hc => ?_) (fun hc => ?_)
            · replace h := hA hc; clear hA hB; replace hE := HEt hc hE
              simp only [sq_assoc, sq_next]
              obtain ⟨g17, g18, g19, g20, g21, h⟩ := h
              refine ss_xS0 (G := (FPX (fun _ : Unit => eN))) (W1 := fun b_7 => [.fz (eAt A (eI way_1)), .fz (eAt A ((eLs (eU (CT 18))) some_2))]) (res := fun b_7 => eI b_7) (ex_call (A := A) (z := []) (i := 0) (nth some_2 0, nth some_2 1, nth some_2 2, nth some_2 3) (as_cons (es_ixL (e := (eU (CT 18))) (es_at (es_var 1 rfl)) es_c g17) (as_cons (es_ixL (e := (eU (CT 18))) (es_at (es_var 1 rfl)) es_c g18) (as_cons (es_ixL (e := (eU (CT 18))) (es_at (es_var 1 rfl)) es_c g19) (as_cons (es_ixL (e := (eU (CT 18))) (es_at (es_var 1 rfl)) es_c g20) as_nil)))) g21 rfl trivial) (fun _ => xs_drop) hE (fun b_7 hm_b_7 hE he_b_7 => ?_)
              replace h := h b_7 hm_b_7
              refine ss_seqTo [.fz (eAt A (eI way_1)), .fz (eAt A ((eLs (eU (CT 18))) some_2))] (ss_drop he_b_7 Wk.refl) ?_
              exact ss_nx ⟨_, rfl, rfl⟩
            · replace h := hB hc; clear hA hB; replace hE := HEf hc hE
              simp only [sq_assoc, sq_next]
              obtain ⟨g22, g23, g24, g25, g26, g27, h⟩ := h
              refine ss_xS0 (G := (FPX (fun _ : Unit => eN))) (W1 := fun b_8 => [.fz (eAt A (eI way_1)), .fz (eAt A ((eLs (eU (CT 18))) some_2))]) (res := fun b_8 => (eO eI) b_8) (ex_call (A := A) (z := []) (i := 0) (nth some_2 0, nth some_2 1, nth some_2 2, nth some_2 3, nth some_2 4) (as_cons (es_ixL (e := (eU (CT 18))) (es_at (es_var 1 rfl)) es_c g22) (as_cons (es_ixL (e := (eU (CT 18))) (es_at (es_var 1 rfl)) es_c g23) (as_cons (es_ixL (e := (eU (CT 18))) (es_at (es_var 1 rfl)) es_c g24) (as_cons (es_ixL (e := (eU (CT 18))) (es_at (es_var 1 rfl)) es_c g25) (as_cons (es_ixL (e := (eU (CT 18))) (es_at (es_var 1 rfl)) es_c g26) as_nil))))) g27 rfl trivial) (fun _ => xs_drop) hE (fun b_8 hm_b_8 hE he_b_8 => ?_)
              replace h := h b_8 hm_b_8
              refine ss_seqTo [.fz (eAt A (eI way_1)), .fz (eAt A ((eLs (eU (CT 18))) some_2))] (ss_drop he_b_8 Wk.refl) ?_
              exact ss_nx ⟨_, rfl, rfl⟩
end
def m_called__2 (way_1 : Int) (some_2 : List U) : Xc ⊕ (Unit) :=
if (decide (way_1 = 0)) = true then (
.inr ())
else (
if (decide (way_1 = 1)) = true then (
xbind (m_Table_value (U.unTb (nth some_2 0)) (nth some_2 1)) (fun b_3 => .inr ()))
else (
if (decide (way_1 = 2)) = true then (
xbind (m_Table_tail (U.unTb (nth some_2 0)) (nth some_2 1) (nth some_2 2)) (fun b_4 => .inr ()))
else (
if (decide (way_1 = 3)) = true then (
xbind (m_key_count (nth some_2 0)) (fun b_5 => .inr ()))
else (
if (decide (way_1 = 4)) = true then (
xbind (m_tail_count (nth some_2 0) (nth some_2 1) (nth some_2 2) (nth some_2 3)) (fun b_6 => .inr ()))
else (
xbind (m_nth_key (nth some_2 0) (nth some_2 1) (nth some_2 2) (nth some_2 3) (nth some_2 4)) (fun b_7 => .inr ()))))))
def m_called__2_ok (way_1 : Int) (some_2 : List U) : Prop :=
((decide (way_1 = 0)) = true → ((0 ≤ (0 : Int) ∧ (0 : Int) < some_2.length) ∧ (U.ty (nth some_2 0) = 1) ∧ (0 ≤ (1 : Int) ∧ (1 : Int) < some_2.length) ∧ (U.ty (nth some_2 1) = 1) ∧ (0 ≤ (2 : Int) ∧ (2 : Int) < some_2.length) ∧ (U.ty (nth some_2 2) = 1) ∧ (m_Table___init___ok (U.unI (nth some_2 0)) (U.unI (nth some_2 1)) (U.unI (nth some_2 2))) ∧ (True))) ∧ ((decide (way_1 = 0)) = false → (((decide (way_1 = 1)) = true → ((0 ≤ (0 : Int) ∧ (0 : Int) < some_2.length) ∧ (U.ty (nth some_2 0) = 7) ∧ (0 ≤ (1 : Int) ∧ (1 : Int) < some_2.length) ∧ (m_Table_value_ok (U.unTb (nth some_2 0)) (nth some_2 1)) ∧ (∀ b_3, (m_Table_value (U.unTb (nth some_2 0)) (nth some_2 1)) = .inr b_3 → ((True))))) ∧ ((decide (way_1 = 1)) = false → (((decide (way_1 = 2)) = true → ((0 ≤ (0 : Int) ∧ (0 : Int) < some_2.length) ∧ (U.ty (nth some_2 0) = 7) ∧ (0 ≤ (1 : Int) ∧ (1 : Int) < some_2.length) ∧ (0 ≤ (2 : Int) ∧ (2 : Int) < some_2.length) ∧ (m_Table_tail_ok (U.unTb (nth some_2 0)) (nth some_2 1) (nth some_2 2)) ∧ (∀ b_4, (m_Table_tail (U.unTb (nth some_2 0)) (nth some_2 1) (nth some_2 2)) = .inr b_4 → ((True))))) ∧ ((decide (way_1 = 2)) = false → (((decide (way_1 = 3)) = true → ((0 ≤ (0 : Int) ∧ (0 : Int) < some_2.length) ∧ (m_key_count_ok (nth some_2 0)) ∧ (∀ b_5, (m_key_count (nth some_2 0)) = .inr b_5 → ((True))))) ∧ ((decide (way_1 = 3)) = false → (((decide (way_1 = 4)) = true → ((0 ≤ (0 : Int) ∧ (0 : Int) < some_2.length) ∧ (0 ≤ (1 : Int) ∧ (1 : Int) < some_2.length) ∧ (0 ≤ (2 : Int) ∧ (2 : Int) < some_2.length) ∧ (0 ≤ (3 : Int) ∧ (3 : Int) < some_2.length) ∧ (m_tail_count_ok (nth some_2 0) (nth some_2 1) (nth some_2 2) (nth some_2 3)) ∧ (∀ b_6, (m_tail_count (nth some_2 0) (nth some_2 1) (nth some_2 2) (nth some_2 3)) = .inr b_6 → ((True))))) ∧ ((decide (way_1 = 4)) = false → ((0 ≤ (0 : Int) ∧ (0 : Int) < some_2.length) ∧ (0 ≤ (1 : Int) ∧ (1 : Int) < some_2.length) ∧ (0 ≤ (2 : Int) ∧ (2 : Int) < some_2.length) ∧ (0 ≤ (3 : Int) ∧ (3 : Int) < some_2.length) ∧ (0 ≤ (4 : Int) ∧ (4 : Int) < some_2.length) ∧ (m_nth_key_ok (nth some_2 0) (nth some_2 1) (nth some_2 2) (nth some_2 3) (nth some_2 4)) ∧ (∀ b_7, (m_nth_key (nth some_2 0) (nth some_2 1) (nth some_2 2) (nth some_2 3) (nth some_2 4)) = .inr b_7 → ((True)))))))))))))
def sp_called__2 (K : PySem.W.Frag) (CT : Nat → Addr) : Sp := spX (ι := Int × (List U)) CT (fun d => [eI d.1, (eLs (eU (CT 18))) d.2]) (fun d => m_called__2_ok d.1 d.2) (fun d => m_called__2 d.1 d.2) (fun d => eN)
abbrev s_called__2 : Stmt := top 51
abbrev N_called__2 : List Str := ["_law_way", "_law_some"]
theorem sc_called__2 : FnScope N_called__2 ["_law_way", "_law_some"] (defScope s_called__2) := ⟨rfl, rfl, rfl, by decide +kernel, rfl, by decide +kernel, by decide +kernel⟩
section
variable {P : Program} {w : World} {K : PySem.W.Frag} {mg : Str → Option Value} {base : Heap} {CT : Nat → Addr}
theorem ok_called__2 {f : Addr} {fd : FuncData} (F : Fun K "_law_called" "_law_called" s_called__2 f fd) {a_Table___init__ : Addr} {fd_Table___init__ : FuncData} (F_Table___init__ : Fun K "__init__" "Table.__init__" s_Table___init__ a_Table___init__ fd_Table___init__) (G_Table___init__ : FnG P w K mg base CX0 3 a_Table___init__ fd_Table___init__ ["self", "capacity", "rate", "shift"] (sp_Table___init__ K CT)) (MT : Mk K (CT 18) a_Table___init__) (b_Table___init__ : Binds K fd_Table___init__ ["self", "capacity", "rate", "shift"] []) {a_Table_value : Addr} {fd_Table_value : FuncData} (F_Table_value : Fun K "value" "Table.value" s_Table_value a_Table_value fd_Table_value) (G_Table_value : FnG P w K mg base (L2.CX P w) 4 a_Table_value fd_Table_value ["self", "key"] (sp_Table_value K CT)) (M_Table_value : Meth K (CT 18) "value" a_Table_value) (b_Table_value : Binds K fd_Table_value ["self", "key"] []) {a_Table_tail : Addr} {fd_Table_tail : FuncData} (F_Table_tail : Fun K "tail" "Table.tail" s_Table_tail a_Table_tail fd_Table_tail) (G_Table_tail : FnG P w K mg base (L2.CX P w) 4 a_Table_tail fd_Table_tail ["self", "key", "depth"] (sp_Table_tail K CT)) (M_Table_tail : Meth K (CT 18) "tail" a_Table_tail) (b_Table_tail : Binds K fd_Table_tail ["self", "key", "depth"] []) {a_key_count : Addr} {fd_key_count : FuncData} (F_key_count : Fun K "key_count" "key_count" s_key_count a_key_count fd_key_count) (G_key_count : FnG P w K mg base (L2.CX P w) 5 a_key_count fd_key_count ["spans"] (sp_key_count K CT)) (j_key_count : mg "key_count" = some (.ref a_key_count)) (b_key_count : Binds K fd_key_count ["spans"] []) {a_tail_count : Addr} {fd_tail_count : FuncData} (F_tail_count : Fun K "tail_count" "tail_count" s_tail_count a_tail_count fd_tail_count) (G_tail_count : FnG P w K mg base (L2.CX P w) 6 a_tail_count fd_tail_count ["table", "spans", "depth", "tail"] (sp_tail_count K CT)) (j_tail_count : mg "tail_count" = some (.ref a_tail_count)) (b_tail_count : Binds K fd_tail_count ["table", "spans", "depth", "tail"] []) {a_nth_key : Addr} {fd_nth_key : FuncData} (F_nth_key : Fun K "nth_key" "nth_key" s_nth_key a_nth_key fd_nth_key) (G_nth_key : FnG P w K mg base (L2.CX P w) 6 a_nth_key fd_nth_key ["table", "spans", "depth", "tail", "number"] (sp_nth_key K CT)) (j_nth_key : mg "nth_key" = some (.ref a_nth_key)) (b_nth_key : Binds K fd_nth_key ["table", "spans", "depth", "tail", "number"] []) (TT : TblTxt K mg (CT 18)) : FnG P w K mg base (L2.CX P w) 7 f fd ["_law_way", "_law_some"] (sp_called__2 K CT) := by
  obtain ⟨clT, na_own_capacity, na_own_rate, na_own_shift, mgT, isT, xaT, xbT, xcT, xdT⟩ := TT
  refine Fw.Fun.okGX F sc_called__2 (fun vs H Q E h => ?_) (fun cdv A outer s H vs Q E hG hr h => ?_)
  · obtain ⟨d, F, _, _, h, _⟩ := h
    exact h.len
  · have nd := sc_called__2.nd
    have hU := hr.units
    refine ⟨_, (pss_cons (ps_if (pt_cmpR op_eq (pv 0) pe_int (nomark _)) (pss_cons (ps_expr (pg_make MT G_Table___init__ hG (hr.mono (by decide)) rfl mgT b_Table___init__ .nil pass0 (pa_cons (pe_ix (ix_listK (K := K) rfl) (pv 1) pe_int (fun _ _ => rfl)) (pa_cons (pe_ix (ix_listK (K := K) rfl) (pv 1) pe_int (fun _ _ => rfl)) (pa_cons (pe_ix (ix_listK (K := K) rfl) (pv 1) pe_int (fun _ _ => rfl)) pa_nil)))))
 pss_nil) (pss_cons (ps_if (pt_cmpR op_eq (pv 0) pe_int (nomark _)) (pss_cons (ps_expr (pg_meth (pe_ix (ix_listK (K := K) rfl) (pv 1) pe_int (fun _ _ => rfl)) clT M_Table_value G_Table_value hG (hr.mono (by decide)) b_Table_value .nil (passes_call (takes_of rfl rfl rfl rfl) (fun _ _ _ _ h => h)) (pa_cons (pe_ix (ix_listK (K := K) rfl) (pv 1) pe_int (fun _ _ => rfl)) pa_nil)))
 pss_nil) (pss_cons (ps_if (pt_cmpR op_eq (pv 0) pe_int (nomark _)) (pss_cons (ps_expr (pg_meth (pe_ix (ix_listK (K := K) rfl) (pv 1) pe_int (fun _ _ => rfl)) clT M_Table_tail G_Table_tail hG (hr.mono (by decide)) b_Table_tail .nil (passes_call (takes_of rfl rfl rfl rfl) (fun _ _ _ _ h => h)) (pa_cons (pe_ix (ix_listK (K := K) rfl) (pv 1) pe_int (fun _ _ => rfl)) (pa_cons (pe_ix (ix_listK (K := K) rfl) (pv 1) pe_int (fun _ _ => rfl)) pa_nil))))
 pss_nil) (pss_cons (ps_if (pt_cmpR op_eq (pv 0) pe_int (nomark _)) (pss_cons (ps_expr (pg_call G_key_count hG (hr.mono (by decide)) rfl j_key_count F_key_count.kp b_key_count .nil (passes_call (takes_of rfl rfl rfl rfl) (fun _ _ _ _ h => h)) (pa_cons (pe_ix (ix_listK (K := K) rfl) (pv 1) pe_int (fun _ _ => rfl)) pa_nil)))
 pss_nil) (pss_cons (ps_if (pt_cmpR op_eq (pv 0) pe_int (nomark _)) (pss_cons (ps_expr (pg_call G_tail_count hG (hr.mono (by decide)) rfl j_tail_count F_tail_count.kp b_tail_count .nil (passes_call (takes_of rfl rfl rfl rfl) (fun _ _ _ _ h => h)) (pa_cons (pe_ix (ix_listK (K := K) rfl) (pv 1) pe_int (fun _ _ => rfl)) (pa_cons (pe_ix (ix_listK (K := K) rfl) (pv 1) pe_int (fun _ _ => rfl)) (pa_cons (pe_ix (ix_listK (K := K) rfl) (pv 1) pe_int (fun _ _ => rfl)) (pa_cons (pe_ix (ix_listK (K := K) rfl) (pv 1) pe_int (fun _ _ => rfl)) pa_nil))))))
 pss_nil) (pss_cons (ps_expr (pg_call G_nth_key hG (hr.mono (by decide)) rfl j_nth_key F_nth_key.kp b_nth_key .nil (passes_call (takes_of rfl rfl rfl rfl) (fun _ _ _ _ h => h)) (pa_cons (pe_ix (ix_listK (K := K) rfl) (pv 1) pe_int (fun _ _ => rfl)) (pa_cons (pe_ix (ix_listK (K := K) rfl) (pv 1) pe_int (fun _ _ => rfl)) (pa_cons (pe_ix (ix_listK (K := K) rfl) (pv 1) pe_int (fun _ _ => rfl)) (pa_cons (pe_ix (ix_listK (K := K) rfl) (pv 1) pe_int (fun _ _ => rfl)) (pa_cons (pe_ix (ix_listK (K := K) rfl) (pv 1) pe_int (fun _ _ => rfl)) pa_nil)))))))
 pss_nil))
 pss_nil))
 pss_nil))
 pss_nil))
 pss_nil))
 pss_nil), ?_⟩
    refine def_X h (fun d => Nat.le_of_ble_eq_true rfl) (fun d h A hE => ?_)
    obtain ⟨way_1, some_2⟩ := d
    replace h : m_called__2_ok way_1 some_2 := h
    unfold m_called__2_ok at h
    replace hE : ∀ y, m_called__2 way_1 some_2 = .inl y → HE CT A E y := hE
    show SS _ [.fz (eAt A (eI way_1)), .fz (eAt A ((eLs (eU (CT 18))) some_2))] (FPX (fun _ : Unit => eN) (m_called__2 way_1 some_2))
    obtain ⟨hA, hB⟩ := h
    refine ss_ifEv (FPX (fun _ : Unit => eN)) (et_cmp (es_at (es_var 0 rfl)) es_c q_eqI) (fun hc => ?_) (fun hc => ?_)
    · replace h := hA hc; clear hA hB; replace hE := HEt hc hE
      simp only [sq_assoc, sq_next]
      obtain ⟨g1, g2, g3, g4, g5, g6, g7, h⟩ := h
      refine ss_seqTo [.fz (eAt A (eI way_1)), .fz (eAt A ((eLs (eU (CT 18))) some_2))] (ss_drop (es_make (U.unI (nth some_2 0), U.unI (nth some_2 1), U.unI (nth some_2 2)) (as_cons (es_unI (es_ixL (e := (eU (CT 18))) (es_at (es_var 1 rfl)) es_c g1) g2) (as_cons (es_unI (es_ixL (e := (eU (CT 18))) (es_at (es_var 1 rfl)) es_c g3) g4) (as_cons (es_unI (es_ixL (e := (eU (CT 18))) (es_at (es_var 1 rfl)) es_c g5) g6) as_nil))) g7) Wk.refl) ?_
      exact ss_nx ⟨_, rfl, rfl⟩
    · replace h := hB hc; clear hA hB; replace hE := HEf hc hE
      simp only [sq_assoc, sq_next]
      obtain ⟨hA, hB⟩ := h
      refine ss_ifEv (FPX (fun _ : Unit => eN)) (et_cmp (es_at (es_var 0 rfl)) es_c q_eqI) (fun hc => ?_) (fun hc => ?_)
      · replace h := hA hc; clear hA hB; replace hE := HEt hc hE
        simp only [sq_assoc, sq_next]
        obtain ⟨g8, g9, g10, g11, h⟩ := h
        refine ss_xS0 (G := (FPX (fun _ : Unit => eN))) (W1 := fun b_3 => [.fz (eAt A (eI way_1)), .fz (eAt A ((eLs (eU (CT 18))) some_2))]) (res := fun b_3 => eI b_3) (ex_meth (A := A) (z := []) (i := 0) (U.unTb (nth some_2 0), nth some_2 1) (es_unTb (es_ixL (e := (eU (CT 18))) (es_at (es_var 1 rfl)) es_c g8) g9) (tbl_no (by decide +kernel)) (as_cons (es_ixL (e := (eU (CT 18))) (es_at (es_var 1 rfl)) es_c g10) as_nil) rfl g11 rfl trivial) (fun _ => xs_drop) hE (fun b_3 hm_b_3 hE he_b_3 => ?_)
        replace h := h b_3 hm_b_3
        refine ss_seqTo [.fz (eAt A (eI way_1)), .fz (eAt A ((eLs (eU (CT 18))) some_2))] (ss_drop he_b_3 Wk.refl) ?_
        exact ss_nx ⟨_, rfl, rfl⟩
      · replace h := hB hc; clear hA hB; replace hE := HEf hc hE
        simp only [sq_assoc, sq_next]
        obtain ⟨hA, hB⟩ := h
        refine ss_ifEv (FPX (fun _ : Unit => eN)) (et_cmp (es_at (es_var 0 rfl)) es_c q_eqI) (fun hc => ?_) (fun hc => ?_)
        · replace h := hA hc; clear hA hB; replace hE := HEt hc hE
          simp only [sq_assoc, sq_next]
          obtain ⟨g12, g13, g14, g15, g16, h⟩ := h
          refine ss_xS0 (G := (FPX (fun _ : Unit => eN))) (W1 := fun b_4 => [.fz (eAt A (eI way_1)), .fz (eAt A ((eLs (eU (CT 18))) some_2))]) (res := fun b_4 => eI b_4) (ex_meth (A := A) (z := []) (i := 0) (U.unTb (nth some_2 0), nth some_2 1, nth some_2 2) (es_unTb (es_ixL (e := (eU (CT 18))) (es_at (es_var 1 rfl)) es_c g12) g13) (tbl_no (by decide +kernel)) (as_cons (es_ixL (e := (eU (CT 18))) (es_at (es_var 1 rfl)) es_c g14) (as_cons (es_ixL (e := (eU (CT 18))) (es_at (es_var 1 rfl)) es_c g15) as_nil)) rfl g16 rfl trivial) (fun _ => xs_drop) hE (fun b_4 hm_b_4 hE he_b_4 => ?_)
          replace h := h b_4 hm_b_4
          refine ss_seqTo [.fz (eAt A (eI way_1)), .fz (eAt A ((eLs (eU (CT 18))) some_2))] (ss_drop he_b_4 Wk.refl) ?_
          exact ss_nx ⟨_, rfl, rfl⟩
        · replace h := hB hc; clear hA hB; replace hE := HEf hc hE
          simp only [sq_assoc, sq_next]
          obtain ⟨hA, hB⟩ := h
          refine ss_ifEv (FPX (fun _ : Unit => eN)) (et_cmp (es_at (es_var 0 rfl)) es_c q_eqI) (fun hc => ?_) (fun hc => ?_)
          · replace h := hA hc; clear hA hB; replace hE := HEt hc hE
            simp only [sq_assoc, sq_next]
            obtain ⟨g17, g18, h⟩ := h
            refine ss_xS0 (G := (FPX (fun _ : Unit => eN))) (W1 := fun b_5 => [.fz (eAt A (eI way_1)), .fz (eAt A ((eLs (eU (CT 18))) some_2))]) (res := fun b_5 => eI b_5) (ex_call (A := A) (z := []) (i := 0) (nth some_2 0) (as_cons (es_ixL (e := (eU (CT 18))) (es_at (es_var 1 rfl)) es_c g17) as_nil) g18 rfl trivial) (fun _ => xs_drop) hE (fun b_5 hm_b_5 hE he_b_5 => ?_)
            replace h := h b_5 hm_b_5
            refine ss_seqTo [.fz (eAt A (eI way_1)), .fz (eAt A ((eLs (eU (CT 18))) some_2))] (ss_drop he_b_5 Wk.refl) ?_
            exact ss_nx ⟨_, rfl, rfl⟩
          · replace h := hB hc; clear hA hB; replace hE := HEf hc hE
            simp only [sq_assoc, sq_next]
            obtain ⟨hA, hB⟩ := h
            refine ss_ifEv (FPX (fun _ : Unit => eN)) (et_cmp (es_at (es_var 0 rfl)) es_c q_eqI) (fun hc => ?_) (fun hc => ?_)
            · replace h := hA hc; clear hA hB; replace hE := HEt hc hE
              simp only [sq_assoc, sq_next]
              obtain ⟨g19, g20, g21, g22, g23, h⟩ := h
              refine ss_xS0 (G := (FPX (fun _ : Unit => eN))) (W1 := fun b_6 => [.fz (eAt A (eI way_1)), .fz (eAt A ((eLs (eU (CT 18))) some_2))]) (res := fun b_6 => eI b_6) (ex_call (A := A) (z := []) (i := 0) (nth some_2 0, nth some_2 1, nth some_2 2, nth some_2 3) (as_cons (es_ixL (e := (eU (CT 18))) (es_at (es_var 1 rfl)) es_c g19) (as_cons (es_ixL (e := (eU (CT 18))) (es_at (es_var 1 rfl)) es_c g20) (as_cons (es_ixL (e := (eU (CT 18))) (es_at (es_var 1 rfl)) es_c g21) (as_cons (es_ixL (e := (eU (CT 18))) (es_at (es_var 1 rfl)) es_c g22) as_nil)))) g23 rfl trivial) (fun _ => xs_drop) hE (fun b_6 hm_b_6 hE he_b_6 => ?_)
              replace h := h b_6 hm_b_6
              refine ss_seqTo [.fz (eAt A (eI way_1)), .fz (eAt A ((eLs (eU (CT 18))) some_2))] (ss_drop he_b_6 Wk.refl) ?_
              exact ss_nx ⟨_, rfl, rfl⟩
            · replace h := hB hc; clear hA hB; replace hE := HEf hc hE
              simp only [sq_assoc, sq_next]
              obtain ⟨g24, g25, g26, g27, g28, g29, h⟩ := h
              refine ss_xS0 (G := (FPX (fun _ : Unit => eN))) (W1 := fun b_7 => [.fz (eAt A (eI way_1)), .fz (eAt A ((eLs (eU (CT 18))) some_2))]) (res := fun b_7 => (eO eI) b_7) (ex_call (A := A) (z := []) (i := 0) (nth some_2 0, nth some_2 1, nth some_2 2, nth some_2 3, nth some_2 4) (as_cons (es_ixL (e := (eU (CT 18))) (es_at (es_var 1 rfl)) es_c g24) (as_cons (es_ixL (e := (eU (CT 18))) (es_at (es_var 1 rfl)) es_c g25) (as_cons (es_ixL (e := (eU (CT 18))) (es_at (es_var 1 rfl)) es_c g26) (as_cons (es_ixL (e := (eU (CT 18))) (es_at (es_var 1 rfl)) es_c g27) (as_cons (es_ixL (e := (eU (CT 18))) (es_at (es_var 1 rfl)) es_c g28) as_nil))))) g29 rfl trivial) (fun _ => xs_drop) hE (fun b_7 hm_b_7 hE he_b_7 => ?_)
              replace h := h b_7 hm_b_7
              refine ss_seqTo [.fz (eAt A (eI way_1)), .fz (eAt A ((eLs (eU (CT 18))) some_2))] (ss_drop he_b_7 Wk.refl) ?_
              exact ss_nx ⟨_, rfl, rfl⟩
end
def m_told_t1 (some_2 : List U) (caught_5 : Option Xc) : Str :=
if (!decide ((reprU (U.lst (cutL some_2 (some 1) none))) = (reprU (U.lst (cutL some_2 (some 1) none))))) = true then (
(Str.ofString "changed"))
else (
if (!caught_5.isSome) = true then (Str.ofString "fine") else m_class (unO caught_5))
def m_told_u1 (some_2 : List U) (caught_5 : Option Xc) : Prop :=
(ReprU (U.lst (cutL some_2 (some 1) none))) ∧ ((!decide ((reprU (U.lst (cutL some_2 (some 1) none))) = (reprU (U.lst (cutL some_2 (some 1) none))))) = true → (True)) ∧ ((!decide ((reprU (U.lst (cutL some_2 (some 1) none))) = (reprU (U.lst (cutL some_2 (some 1) none))))) = false → (((!caught_5.isSome) = false → caught_5.isSome = true) ∧ ((!caught_5.isSome) = false → m_class_ok (unO caught_5)) ∧ True))
def m_told (way_1 : Int) (some_2 : List U) : Str :=
let caught_3 := ()
let kept_4 := reprU (U.lst (cutL some_2 (some 1) none))
let caught_5 := xOf (m_called way_1 some_2)
m_told_t1 some_2 caught_5
def m_told_ok (way_1 : Int) (some_2 : List U) : Prop :=
(ReprU (U.lst (cutL some_2 (some 1) none))) ∧ (∀ caught_3, caught_3 = () → ∀ kept_4, kept_4 = (reprU (U.lst (cutL some_2 (some 1) none))) → (m_called_ok way_1 some_2) ∧ (∀ x, (xOf (m_called way_1 some_2)) = some x → x.c < 18) ∧ (∀ caught_5, caught_5 = (xOf (m_called way_1 some_2)) → (m_told_u1 some_2 caught_5)))
def sp_told (K : PySem.W.Frag) (CT : Nat → Addr) : Sp := spF (ι := Int × (List U)) (fun d => [eI d.1, (eLs (eU (CT 18))) d.2]) (fun d => m_told_ok d.1 d.2) (fun d => eS (m_told d.1 d.2))
abbrev s_told : Stmt := top 52
abbrev N_told : List Str := ["_law_way", "_law_some", "_law_caught", "_law_kept", "e"]
theorem sc_told : FnScope N_told ["_law_way", "_law_some"] (defScope s_told) := ⟨rfl, rfl, rfl, by decide +kernel, rfl, by decide +kernel, by decide +kernel⟩
section
variable {P : Program} {w : World} {K : PySem.W.Frag} {mg : Str → Option Value} {base : Heap} {CT : Nat → Addr}
theorem ok_told {f : Addr} {fd : FuncData} (F : Fun K "_law_told" "_law_told" s_told f fd) {a_called : Addr} {fd_called : FuncData} (F_called : Fun K "_law_called" "_law_called" s_called a_called fd_called) (G_called : FnG P w K mg base (L2.CX P w) 7 a_called fd_called ["_law_way", "_law_some"] (sp_called K CT)) (j_called : mg "_law_called" = some (.ref a_called)) (b_called : Binds K fd_called ["_law_way", "_law_some"] []) {a_class : Addr} {fd_class : FuncData} (F_class : Fun K "_law_class" "_law_class" s_class a_class fd_class) (G_class : FnG P w K mg base CX0 1 a_class fd_class ["_law_caught"] (sp_class K CT)) (j_class : mg "_law_class" = some (.ref a_class)) (b_class : Binds K fd_class ["_law_caught"] []) (n_repr : mg "repr" = none) (SM : ∃ mm, base.Ns sysModules mm) (XM : ∀ i, i < 18 → PySem.W.exmOne K (.ref (CT i)) (.ref (CT 17)) = some true) (XX : XT K CT) (xg17 : mg "HashError" = some (.ref (CT 17))) : FnG P w K mg base CX0 8 f fd ["_law_way", "_law_some"] (sp_told K CT) := by
  refine Fun.okG F sc_told (fun vs H Q E h => ?_) (fun cdv A outer s H vs Q E hG hr h => ?_)
  · obtain ⟨d, F, _, _, h, _⟩ := h
    exact h.len
  · have nd := sc_told.nd
    have hU := hr.units
    refine ⟨_, (pss_cons (ps_par (i := 2) (j := 3) rfl nd rfl rfl (by decide) rfl rfl (pa_cons pe_non (pa_cons (pe_callB (call_reprU (C := (CT 18)) hG hr SM) rfl n_repr (by decide +kernel) (pa_cons (pe_slice sl_list (pv 1) (po_some pe_int) po_none) pa_nil)) pa_nil)) (by rfl))
 (pss_cons (ps_try_keep (i := 4) rfl rfl nd rfl rfl rfl ⟨rfl, by decide, .inl xg17⟩ takes0 (fun W pn xe tk _ => (pss_cons (ps_expr (pg_callS G_called hG (hr.mono (by decide)) rfl j_called F_called.kp b_called .nil (fun σ => passAt tk σ) (pa_cons (pv 0) (pa_cons (pv 1) pa_nil)))) pss_nil)) (fun a oe cls d pn _ _ => (pss_cons (ps_set (i := 2) nd rfl (by first | exact .inl rfl | exact .inr rfl) (pv 4)) pss_nil)))
 (pss_cons (ps_if (pt_cmpR op_ne (pe_callB (call_reprU (C := (CT 18)) hG hr SM) rfl n_repr (by decide +kernel) (pa_cons (pe_slice sl_list (pv 1) (po_some pe_int) po_none) pa_nil)) (pv 3) (nomark _)) (pss_cons (ps_ret pe_str)
 pss_nil) pss_nil)
 (pss_cons (ps_ret (pe_ifExp (pt_cmp (pc_isN (pv 2))) pe_str (pg_call G_class hG (hr.mono (by decide)) rfl j_class F_class.kp b_class .nil pass0 (pa_cons (pv 2) pa_nil))))
 pss_nil)))), ?_⟩
    refine def_F h (fun d => Nat.le_of_ble_eq_true rfl) (fun d h => ?_)
    obtain ⟨way_1, some_2⟩ := d
    replace h : m_told_ok way_1 some_2 := h
    unfold m_told_ok at h
    show SS _ [.fz (eI way_1), .fz ((eLs (eU (CT 18))) some_2), .no, .no, .no] (FP eS (m_told way_1 some_2))
    obtain ⟨g1, h⟩ := h
    refine ss_seq2 () (reprU (U.lst (cutL some_2 (some 1) none))) (fun caught_3 kept_4 => [.fz (eI way_1), .fz ((eLs (eU (CT 18))) some_2), .fz (eN), .fz (eS kept_4), .no]) (ss_parM (am_fz es_c (am_fz (es_reprU (es_toU2 (K := K) (C := (CT 18)) (e := (eLs (eU (CT 18)))) (x := (cutL some_2 (some 1) none)) (u := U.lst (cutL some_2 (some 1) none)) (es_frs (eU (CT 18)) (cutL some_2 (some 1) none) (en_slice (e := (eU (CT 18))) (es_var 1 rfl) (os_some es_c) os_no)) (congrArg U.lst (List.map_id _))) g1) am_nil)) Wk.refl) (fun caught_3 e_caught_3 kept_4 e_kept_4 => ?_)
    replace h := h caught_3 e_caught_3 kept_4 e_kept_4
    replace e_kept_4 := Eq.symm e_kept_4; subst e_kept_4; replace e_caught_3 := Eq.symm e_caught_3; subst e_caught_3
    obtain ⟨g2, g3, h⟩ := h
    refine ss_seq1 (xOf (m_called way_1 some_2)) (fun caught_5 => [.fz (eI way_1), .fz ((eLs (eU (CT 18))) some_2), .fz ((eO (eC CT)) caught_5), .fz (eS (reprU (U.lst (cutL some_2 (some 1) none)))), .no]) (ss_try (K := K) (ad := CT) (i := 4) (j := 2) (c := .ref (CT 17)) (by decide) (sb_call (way_1, some_2) (as_cons (es_var 0 rfl) (as_cons (es_var 1 rfl) as_nil)) g2) rfl rfl (Nat.le_of_ble_eq_true rfl) (fun x hx => XM x.c (g3 x hx)) Wk.refl) (fun caught_5 e_caught_5 => ?_)
    replace h := h caught_5 e_caught_5
    refine ss_cut (FP eS) (v' := m_told_t1 some_2 caught_5) (by replace e_caught_5 := Eq.symm e_caught_5; subst e_caught_5; rfl) ?_
    clear e_caught_5
    unfold m_told_u1 at h
    obtain ⟨g4, h⟩ := h
    obtain ⟨hA, hB⟩ := h
    refine ss_ifLv (FP eS) (et_cmp (es_reprU (es_toU2 (K := K) (C := (CT 18)) (e := (eLs (eU (CT 18)))) (x := (cutL some_2 (some 1) none)) (u := U.lst (cutL some_2 (some 1) none)) (es_frs (eU (CT 18)) (cutL some_2 (some 1) none) (en_slice (e := (eU (CT 18))) (es_var 1 rfl) (os_some es_c) os_no)) (congrArg U.lst (List.map_id _))) g4) (es_var 3 rfl) q_neS) (fun hc => ?_) (fun hc => ?_)
    · replace h := hA hc; clear hA hB
      refine ss_retq es_c ?_
      exact rfl
    · replace h := hB hc; clear hA hB
      refine ss_nxq ?_
      obtain ⟨g5, g6, h⟩ := h
      refine ss_retq (es_if (e := eS) (p := (Str.ofString "fine")) (q := (m_class (unO caught_5))) (et_isN (e := (eC CT)) (es_var 2 rfl)) (fun hc => es_c) (fun hc => (es_call (unO caught_5) (as_cons (es_unO (e := (eC CT)) (es_var 2 rfl) (g5 hc)) as_nil) (g6 hc)))) ?_
      exact rfl
end
def m_told__2_t1 (some_2 : List U) (caught_5 : Option Xc) : Str :=
if (!decide ((reprU (U.lst (cutL some_2 (some 1) none))) = (reprU (U.lst (cutL some_2 (some 1) none))))) = true then (
(Str.ofString "changed"))
else (
if (!caught_5.isSome) = true then (Str.ofString "fine") else m_class (unO caught_5))
def m_told__2_u1 (some_2 : List U) (caught_5 : Option Xc) : Prop :=
(ReprU (U.lst (cutL some_2 (some 1) none))) ∧ ((!decide ((reprU (U.lst (cutL some_2 (some 1) none))) = (reprU (U.lst (cutL some_2 (some 1) none))))) = true → (True)) ∧ ((!decide ((reprU (U.lst (cutL some_2 (some 1) none))) = (reprU (U.lst (cutL some_2 (some 1) none))))) = false → (((!caught_5.isSome) = false → caught_5.isSome = true) ∧ ((!caught_5.isSome) = false → m_class_ok (unO caught_5)) ∧ True))
def m_told__2 (way_1 : Int) (some_2 : List U) : Str :=
let caught_3 := ()
let kept_4 := reprU (U.lst (cutL some_2 (some 1) none))
let caught_5 := xOf (m_called__2 way_1 some_2)
m_told__2_t1 some_2 caught_5
def m_told__2_ok (way_1 : Int) (some_2 : List U) : Prop :=
(ReprU (U.lst (cutL some_2 (some 1) none))) ∧ (∀ caught_3, caught_3 = () → ∀ kept_4, kept_4 = (reprU (U.lst (cutL some_2 (some 1) none))) → (m_called__2_ok way_1 some_2) ∧ (∀ x, (xOf (m_called__2 way_1 some_2)) = some x → x.c < 18) ∧ (∀ caught_5, caught_5 = (xOf (m_called__2 way_1 some_2)) → (m_told__2_u1 some_2 caught_5)))
def sp_told__2 (K : PySem.W.Frag) (CT : Nat → Addr) : Sp := spF (ι := Int × (List U)) (fun d => [eI d.1, (eLs (eU (CT 18))) d.2]) (fun d => m_told__2_ok d.1 d.2) (fun d => eS (m_told__2 d.1 d.2))
abbrev s_told__2 : Stmt := top 52
abbrev N_told__2 : List Str := ["_law_way", "_law_some", "_law_caught", "_law_kept", "e"]
theorem sc_told__2 : FnScope N_told__2 ["_law_way", "_law_some"] (defScope s_told__2) := ⟨rfl, rfl, rfl, by decide +kernel, rfl, by decide +kernel, by decide +kernel⟩
section
variable {P : Program} {w : World} {K : PySem.W.Frag} {mg : Str → Option Value} {base : Heap} {CT : Nat → Addr}
theorem ok_told__2 {f : Addr} {fd : FuncData} (F : Fun K "_law_told" "_law_told" s_told__2 f fd) {a_called__2 : Addr} {fd_called__2 : FuncData} (F_called__2 : Fun K "_law_called" "_law_called" s_called__2 a_called__2 fd_called__2) (G_called__2 : FnG P w K mg base (L2.CX P w) 7 a_called__2 fd_called__2 ["_law_way", "_law_some"] (sp_called__2 K CT)) (j_called__2 : mg "_law_called" = some (.ref a_called__2)) (b_called__2 : Binds K fd_called__2 ["_law_way", "_law_some"] []) {a_class : Addr} {fd_class : FuncData} (F_class : Fun K "_law_class" "_law_class" s_class a_class fd_class) (G_class : FnG P w K mg base CX0 1 a_class fd_class ["_law_caught"] (sp_class K CT)) (j_class : mg "_law_class" = some (.ref a_class)) (b_class : Binds K fd_class ["_law_caught"] []) (n_repr : mg "repr" = none) (SM : ∃ mm, base.Ns sysModules mm) (XM : ∀ i, i < 18 → PySem.W.exmOne K (.ref (CT i)) (.ref (CT 17)) = some true) (XX : XT K CT) (xg17 : mg "HashError" = some (.ref (CT 17))) : FnG P w K mg base CX0 8 f fd ["_law_way", "_law_some"] (sp_told__2 K CT) := by
  refine Fun.okG F sc_told__2 (fun vs H Q E h => ?_) (fun cdv A outer s H vs Q E hG hr h => ?_)
  · obtain ⟨d, F, _, _, h, _⟩ := h
    exact h.len
  · have nd := sc_told__2.nd
    have hU := hr.units
    refine ⟨_, (pss_cons (ps_par (i := 2) (j := 3) rfl nd rfl rfl (by decide) rfl rfl (pa_cons pe_non (pa_cons (pe_callB (call_reprU (C := (CT 18)) hG hr SM) rfl n_repr (by decide +kernel) (pa_cons (pe_slice sl_list (pv 1) (po_some pe_int) po_none) pa_nil)) pa_nil)) (by rfl))
 (pss_cons (ps_try_keep (i := 4) rfl rfl nd rfl rfl rfl ⟨rfl, by decide, .inl xg17⟩ takes0 (fun W pn xe tk _ => (pss_cons (ps_expr (pg_callS G_called__2 hG (hr.mono (by decide)) rfl j_called__2 F_called__2.kp b_called__2 .nil (fun σ => passAt tk σ) (pa_cons (pv 0) (pa_cons (pv 1) pa_nil)))) pss_nil)) (fun a oe cls d pn _ _ => (pss_cons (ps_set (i := 2) nd rfl (by first | exact .inl rfl | exact .inr rfl) (pv 4)) pss_nil)))
 (pss_cons (ps_if (pt_cmpR op_ne (pe_callB (call_reprU (C := (CT 18)) hG hr SM) rfl n_repr (by decide +kernel) (pa_cons (pe_slice sl_list (pv 1) (po_some pe_int) po_none) pa_nil)) (pv 3) (nomark _)) (pss_cons (ps_ret pe_str)
 pss_nil) pss_nil)
 (pss_cons (ps_ret (pe_ifExp (pt_cmp (pc_isN (pv 2))) pe_str (pg_call G_class hG (hr.mono (by decide)) rfl j_class F_class.kp b_class .nil pass0 (pa_cons (pv 2) pa_nil))))
 pss_nil)))), ?_⟩
    refine def_F h (fun d => Nat.le_of_ble_eq_true rfl) (fun d h => ?_)
    obtain ⟨way_1, some_2⟩ := d
    replace h : m_told__2_ok way_1 some_2 := h
    unfold m_told__2_ok at h
    show SS _ [.fz (eI way_1), .fz ((eLs (eU (CT 18))) some_2), .no, .no, .no] (FP eS (m_told__2 way_1 some_2))
    obtain ⟨g1, h⟩ := h
    refine ss_seq2 () (reprU (U.lst (cutL some_2 (some 1) none))) (fun caught_3 kept_4 => [.fz (eI way_1), .fz ((eLs (eU (CT 18))) some_2), .fz (eN), .fz (eS kept_4), .no]) (ss_parM (am_fz es_c (am_fz (es_reprU (es_toU2 (K := K) (C := (CT 18)) (e := (eLs (eU (CT 18)))) (x := (cutL some_2 (some 1) none)) (u := U.lst (cutL some_2 (some 1) none)) (es_frs (eU (CT 18)) (cutL some_2 (some 1) none) (en_slice (e := (eU (CT 18))) (es_var 1 rfl) (os_some es_c) os_no)) (congrArg U.lst (List.map_id _))) g1) am_nil)) Wk.refl) (fun caught_3 e_caught_3 kept_4 e_kept_4 => ?_)
    replace h := h caught_3 e_caught_3 kept_4 e_kept_4
    replace e_kept_4 := Eq.symm e_kept_4; subst e_kept_4; replace e_caught_3 := Eq.symm e_caught_3; subst e_caught_3
    obtain ⟨g2, g3, h⟩ := h
    refine ss_seq1 (xOf (m_called__2 way_1 some_2)) (fun caught_5 => [.fz (eI way_1), .fz ((eLs (eU (CT 18))) some_2), .fz ((eO (eC CT)) caught_5), .fz (eS (reprU (U.lst (cutL some_2 (some 1) none)))), .no]) (ss_try (K := K) (ad := CT) (i := 4) (j := 2) (c := .ref (CT 17)) (by decide) (sb_call (way_1, some_2) (as_cons (es_var 0 rfl) (as_cons (es_var 1 rfl) as_nil)) g2) rfl rfl (Nat.le_of_ble_eq_true rfl) (fun x hx => XM x.c (g3 x hx)) Wk.refl) (fun caught_5 e_caught_5 => ?_)
    replace h := h caught_5 e_caught_5
    refine ss_cut (FP eS) (v' := m_told__2_t1 some_2 caught_5) (by replace e_caught_5 := Eq.symm e_caught_5; subst e_caught_5; rfl) ?_
    clear e_caught_5
    unfold m_told__2_u1 at h
    obtain ⟨g4, h⟩ := h
    obtain ⟨hA, hB⟩ := h
    refine ss_ifLv (FP eS) (et_cmp (es_reprU (es_toU2 (K := K) (C := (CT 18)) (e := (eLs (eU (CT 18)))) (x := (cutL some_2 (some 1) none)) (u := U.lst (cutL some_2 (some 1) none)) (es_frs (eU (CT 18)) (cutL some_2 (some 1) none) (en_slice (e := (eU (CT 18))) (es_var 1 rfl) (os_some es_c) os_no)) (congrArg U.lst (List.map_id _))) g4) (es_var 3 rfl) q_neS) (fun hc => ?_) (fun hc => ?_)
    · replace h := hA hc; clear hA hB
      refine ss_retq es_c ?_
      exact rfl
    · replace h := hB hc; clear hA hB
      refine ss_nxq ?_
      obtain ⟨g5, g6, h⟩ := h
      refine ss_retq (es_if (e := eS) (p := (Str.ofString "fine")) (q := (m_class (unO caught_5))) (et_isN (e := (eC CT)) (es_var 2 rfl)) (fun hc => es_c) (fun hc => (es_call (unO caught_5) (as_cons (es_unO (e := (eC CT)) (es_var 2 rfl) (g5 hc)) as_nil) (g6 hc)))) ?_
      exact rfl
end
def m_made_right_b1 (t_2 : Int × Int × Int) (s_6 : Unit) (x_7 : U) : Unit :=
()
def m_made_right_o1 (t_2 : Int × Int × Int) (s_6 : Unit) (x_7 : U) : Prop :=
(m_told_ok 0 ([x_7, U.int t_2.2.1, U.int t_2.2.2] : List U)) ∧ (m_told_ok 0 ([x_7, U.non, U.non] : List U)) ∧ ((0 : Int) ≤ (2 : Int) ∧ (2 : Int) ≤ (1000 : Int) ∧ ([(Str.ofString "InvalidCapacity")] : List Str).length ≤ 1000) ∧ (StrsOk ([m_told 0 ([x_7, U.int t_2.2.1, U.int t_2.2.2] : List U), m_told 0 ([x_7, U.non, U.non] : List U)] : List Str) ∧ StrsOk ((List.replicate (Int.toNat (2 : Int)) ([(Str.ofString "InvalidCapacity")] : List Str)).flatten)) ∧ (!decide (([m_told 0 ([x_7, U.int t_2.2.1, U.int t_2.2.2] : List U), m_told 0 ([x_7, U.non, U.non] : List U)] : List Str) = ((List.replicate (Int.toNat (2 : Int)) ([(Str.ofString "InvalidCapacity")] : List Str)).flatten))) = false ∧ (True)
def m_made_right_b2 (t_2 : Int × Int × Int) (s_9 : Unit) (x_10 : U) : Unit :=
()
def m_made_right_o2 (t_2 : Int × Int × Int) (s_9 : Unit) (x_10 : U) : Prop :=
(m_told_ok 0 ([U.int t_2.1, x_10, U.int t_2.2.2] : List U)) ∧ (m_told_ok 0 ([U.int t_2.1, x_10, U.non] : List U)) ∧ ((0 : Int) ≤ (2 : Int) ∧ (2 : Int) ≤ (1000 : Int) ∧ ([(Str.ofString "InvalidRate")] : List Str).length ≤ 1000) ∧ (StrsOk ([m_told 0 ([U.int t_2.1, x_10, U.int t_2.2.2] : List U), m_told 0 ([U.int t_2.1, x_10, U.non] : List U)] : List Str) ∧ StrsOk ((List.replicate (Int.toNat (2 : Int)) ([(Str.ofString "InvalidRate")] : List Str)).flatten)) ∧ (!decide (([m_told 0 ([U.int t_2.1, x_10, U.int t_2.2.2] : List U), m_told 0 ([U.int t_2.1, x_10, U.non] : List U)] : List Str) = ((List.replicate (Int.toNat (2 : Int)) ([(Str.ofString "InvalidRate")] : List Str)).flatten))) = false ∧ (True)
def m_made_right_b3 (t_2 : Int × Int × Int) (s_12 : Unit) (x_13 : U) : Unit :=
()
def m_made_right_o3 (t_2 : Int × Int × Int) (s_12 : Unit) (x_13 : U) : Prop :=
(m_told_ok 0 ([U.int t_2.1, U.int t_2.2.1, x_13] : List U)) ∧ (!decide ((m_told 0 ([U.int t_2.1, U.int t_2.2.1, x_13] : List U)) = (Str.ofString "InvalidShift"))) = false ∧ (True)
def m_made_right_b4 (table_4 : Tbl) (s_15 : Unit) (x_16 : U) : Unit :=
let told_17 := ([m_told 1 ([U.tbl table_4, x_16] : List U), m_told 2 ([U.tbl table_4, x_16, U.int 1] : List U), m_told 2 ([U.tbl table_4, x_16, U.non] : List U)] : List Str)
()
def m_made_right_o4 (table_4 : Tbl) (s_15 : Unit) (x_16 : U) : Prop :=
(m_told_ok 1 ([U.tbl table_4, x_16] : List U)) ∧ (m_told_ok 2 ([U.tbl table_4, x_16, U.int 1] : List U)) ∧ (m_told_ok 2 ([U.tbl table_4, x_16, U.non] : List U)) ∧ (∀ told_17, told_17 = ([m_told 1 ([U.tbl table_4, x_16] : List U), m_told 2 ([U.tbl table_4, x_16, U.int 1] : List U), m_told 2 ([U.tbl table_4, x_16, U.non] : List U)] : List Str) → ((0 : Int) ≤ (3 : Int) ∧ (3 : Int) ≤ (1000 : Int) ∧ ([(Str.ofString "InvalidKey")] : List Str).length ≤ 1000) ∧ (StrsOk told_17 ∧ StrsOk ((List.replicate (Int.toNat (3 : Int)) ([(Str.ofString "InvalidKey")] : List Str)).flatten)) ∧ (!decide (told_17 = ((List.replicate (Int.toNat (3 : Int)) ([(Str.ofString "InvalidKey")] : List Str)).flatten))) = false ∧ (True))
def m_made_right (bag_1 : Bag) : Bool × Bag :=
let t_2 := (m_three bag_1 (10 ^ 30)).1
let bag_3 := (m_three bag_1 (10 ^ 30)).2
let table_4 := (⟨t_2.1, t_2.2.1, t_2.2.2⟩ : Tbl)
let far_5 := 10 ^ 30
let f_8 := List.foldl (m_made_right_b1 t_2) () (m_bad_integers 1 far_5)
let f_11 := List.foldl (m_made_right_b2 t_2) () ((m_bad_integers 1 (far_5 - 1)) ++ ([U.int 2, U.int far_5, U.int 4] : List U))
let f_14 := List.foldl (m_made_right_b3 t_2) () (m_bad_integers 0 far_5)
let f_18 := List.foldl (m_made_right_b4 table_4) () (m_bad_integers 0 (far_5 - 1))
let told_21 := ([m_told__2 0 ([U.int far_5, U.int (far_5 - 1), U.int far_5] : List U), m_told__2 0 ([U.int 1, U.int 1, U.int 0] : List U), m_told 1 ([U.tbl table_4, U.int (far_5 - 1)] : List U)] : List Str)
(decide ((told_21 ++ (List.map (fun (x_23 : Int) => m_told 2 ([U.tbl table_4, U.int 0, U.int x_23] : List U)) ([0, 100] : List Int))) = ((List.replicate (Int.toNat (5 : Int)) ([(Str.ofString "fine")] : List Str)).flatten)), bag_3)
def m_made_right_ok (bag_1 : Bag) : Prop :=
(m_three_ok bag_1 (10 ^ 30)) ∧ (∀ t_2, t_2 = ((m_three bag_1 (10 ^ 30)).1) → ∀ bag_3, bag_3 = ((m_three bag_1 (10 ^ 30)).2) → (m_Table___init___ok t_2.1 t_2.2.1 t_2.2.2) ∧ (∀ table_4, table_4 = (⟨t_2.1, t_2.2.1, t_2.2.2⟩ : Tbl) → ∀ far_5, far_5 = ((10 ^ 30) : Int) → (m_bad_integers_ok 1 far_5) ∧ (okF (m_made_right_o1 t_2) (m_made_right_b1 t_2) () (m_bad_integers 1 far_5)) ∧ (∀ f_8, f_8 = List.foldl (m_made_right_b1 t_2) () (m_bad_integers 1 far_5) → (m_bad_integers_ok 1 (far_5 - 1)) ∧ (m_bad_integers_ok 1 (far_5 - 1)) ∧ ((m_bad_integers 1 (far_5 - 1)).length + ([U.int 2, U.int far_5, U.int 4] : List U).length ≤ 16000000) ∧ (okF (m_made_right_o2 t_2) (m_made_right_b2 t_2) () ((m_bad_integers 1 (far_5 - 1)) ++ ([U.int 2, U.int far_5, U.int 4] : List U))) ∧ (∀ f_11, f_11 = List.foldl (m_made_right_b2 t_2) () ((m_bad_integers 1 (far_5 - 1)) ++ ([U.int 2, U.int far_5, U.int 4] : List U)) → (m_bad_integers_ok 0 far_5) ∧ (okF (m_made_right_o3 t_2) (m_made_right_b3 t_2) () (m_bad_integers 0 far_5)) ∧ (∀ f_14, f_14 = List.foldl (m_made_right_b3 t_2) () (m_bad_integers 0 far_5) → (m_bad_integers_ok 0 (far_5 - 1)) ∧ (okF (m_made_right_o4 table_4) (m_made_right_b4 table_4) () (m_bad_integers 0 (far_5 - 1))) ∧ (∀ f_18, f_18 = List.foldl (m_made_right_b4 table_4) () (m_bad_integers 0 (far_5 - 1)) → (m_bad_integers_ok 0 100) ∧ (∀ x_20 ∈ (m_bad_integers 0 100), m_told_ok 2 ([U.tbl table_4, U.int 5, x_20] : List U)) ∧ ((m_bad_integers 0 100).length < 16000000) ∧ (!((List.filter (fun (x_20 : U) => !decide ((m_told 2 ([U.tbl table_4, U.int 5, x_20] : List U)) = (Str.ofString "InvalidDepth"))) (m_bad_integers 0 100)).map fun (x_20 : U) => (1 : Int)).isEmpty) = false ∧ ((m_told__2_ok 0 ([U.int far_5, U.int (far_5 - 1), U.int far_5] : List U)) ∧ (m_told__2_ok 0 ([U.int 1, U.int 1, U.int 0] : List U)) ∧ (m_told_ok 1 ([U.tbl table_4, U.int (far_5 - 1)] : List U)) ∧ (∀ told_21, told_21 = ([m_told__2 0 ([U.int far_5, U.int (far_5 - 1), U.int far_5] : List U), m_told__2 0 ([U.int 1, U.int 1, U.int 0] : List U), m_told 1 ([U.tbl table_4, U.int (far_5 - 1)] : List U)] : List Str) → (∀ x_23 ∈ ([0, 100] : List Int), m_told_ok 2 ([U.tbl table_4, U.int 0, U.int x_23] : List U)) ∧ (([0, 100] : List Int).length < 16000000) ∧ (told_21.length + (List.map (fun (x_23 : Int) => m_told 2 ([U.tbl table_4, U.int 0, U.int x_23] : List U)) ([0, 100] : List Int)).length ≤ 16000000) ∧ ((0 : Int) ≤ (5 : Int) ∧ (5 : Int) ≤ (1000 : Int) ∧ ([(Str.ofString "fine")] : List Str).length ≤ 1000) ∧ (StrsOk (told_21 ++ (List.map (fun (x_23 : Int) => m_told 2 ([U.tbl table_4, U.int 0, U.int x_23] : List U)) ([0, 100] : List Int))) ∧ StrsOk ((List.replicate (Int.toNat (5 : Int)) ([(Str.ofString "fine")] : List Str)).flatten)) ∧ True))))))))
def sp_made_right (K : PySem.W.Frag) (CT : Nat → Addr) : Sp := spB (ι := Bag) (fun d => bagR d) (fun d => []) (fun d => m_made_right_ok d) (fun d => bagR (m_made_right d).2) (fun d => eB ((m_made_right d).1))
abbrev s_made_right : Stmt := top 53
abbrev N_made_right : List Str := ["_law_bag_here", "_law_capacity", "_law_rate", "_law_shift", "_law_table", "_law_far", "_law_bad", "_law_told_here", "_law_depth"]
theorem sc_made_right : FnScope N_made_right ["_law_bag_here"] (defScope s_made_right) := ⟨rfl, rfl, rfl, by decide +kernel, rfl, by decide +kernel, by decide +kernel⟩
section
variable {P : Program} {w : World} {K : PySem.W.Frag} {mg : Str → Option Value} {base : Heap} {CT : Nat → Addr}
theorem ok_made_right {f : Addr} {fd : FuncData} (F : Fun K "_law_made_right" "_law_made_right" s_made_right f fd) {a_three : Addr} {fd_three : FuncData} (F_three : Fun K "_law_three" "_law_three" s_three a_three fd_three) (G_three : FnG P w K mg base CX0 2 a_three fd_three ["_law_bag_here", "_law_most"] (sp_three K CT)) (j_three : mg "_law_three" = some (.ref a_three)) (b_three : Binds K fd_three ["_law_bag_here", "_law_most"] []) {a_Table___init__ : Addr} {fd_Table___init__ : FuncData} (F_Table___init__ : Fun K "__init__" "Table.__init__" s_Table___init__ a_Table___init__ fd_Table___init__) (G_Table___init__ : FnG P w K mg base CX0 3 a_Table___init__ fd_Table___init__ ["self", "capacity", "rate", "shift"] (sp_Table___init__ K CT)) (MT : Mk K (CT 18) a_Table___init__) (b_Table___init__ : Binds K fd_Table___init__ ["self", "capacity", "rate", "shift"] []) {a_bad_integers : Addr} {fd_bad_integers : FuncData} (F_bad_integers : Fun K "_law_bad_integers" "_law_bad_integers" s_bad_integers a_bad_integers fd_bad_integers) (G_bad_integers : FnG P w K mg base CX0 1 a_bad_integers fd_bad_integers ["_law_low", "_law_high"] (sp_bad_integers K CT)) (j_bad_integers : mg "_law_bad_integers" = some (.ref a_bad_integers)) (b_bad_integers : Binds K fd_bad_integers ["_law_low", "_law_high"] []) {a_told : Addr} {fd_told : FuncData} (F_told : Fun K "_law_told" "_law_told" s_told a_told fd_told) (G_told : FnG P w K mg base CX0 8 a_told fd_told ["_law_way", "_law_some"] (sp_told K CT)) (j_told : mg "_law_told" = some (.ref a_told)) (b_told : Binds K fd_told ["_law_way", "_law_some"] []) {a_told__2 : Addr} {fd_told__2 : FuncData} (F_told__2 : Fun K "_law_told" "_law_told" s_told__2 a_told__2 fd_told__2) (G_told__2 : FnG P w K mg base CX0 8 a_told__2 fd_told__2 ["_law_way", "_law_some"] (sp_told__2 K CT)) (j_told__2 : mg "_law_told" = some (.ref a_told__2)) (b_told__2 : Binds K fd_told__2 ["_law_way", "_law_some"] []) (TT : TblTxt K mg (CT 18)) : FnG P w K mg base CX0 9 f fd ["_law_bag_here"] (sp_made_right K CT) := by
  obtain ⟨clT, na_own_capacity, na_own_rate, na_own_shift, mgT, isT, xaT, xbT, xcT, xdT⟩ := TT
  refine Fun.okG F sc_made_right (fun vs H Q E h => ?_) (fun cdv A outer s H vs Q E hG hr h => ?_)
  · obtain ⟨d, F, p, o, ws, rfl, _, _, _, _, _, h, _⟩ := h
    exact congrArg (· + 1) h.len
  · have nd := sc_made_right.nd
    have hU := hr.units
    refine ⟨_, (pss_cons (ps_asg (pg_call G_three hG (hr.mono (by decide)) rfl j_three F_three.kp b_three .nil pass0 (pa_cons (pv 0) (pa_cons (pe_op op_pow pe_int pe_int) pa_nil))) (pg_tup rfl (pgs_cons (pg_name (i := 1) nd rfl (by first | exact .inl rfl | exact .inr rfl)) (pgs_cons (pg_name (i := 2) nd rfl (by first | exact .inl rfl | exact .inr rfl)) (pgs_cons (pg_name (i := 3) nd rfl (by first | exact .inl rfl | exact .inr rfl)) pgs_nil)))))
 (pss_cons (ps_asg (pe_tup (pa_cons (pg_make MT G_Table___init__ hG (hr.mono (by decide)) rfl mgT b_Table___init__ .nil pass0 (pa_cons (pv 1) (pa_cons (pv 2) (pa_cons (pv 3) pa_nil)))) (pa_cons (pe_op op_pow pe_int pe_int) pa_nil))) (pg_tup rfl (pgs_cons (pg_name (i := 4) nd rfl (by first | exact .inl rfl | exact .inr rfl)) (pgs_cons (pg_name (i := 5) nd rfl (by first | exact .inl rfl | exact .inr rfl)) pgs_nil))))
 (pss_cons (ps_for PassesOwn.never rfl (pi_list (pg_call G_bad_integers hG (hr.mono (by decide)) rfl j_bad_integers F_bad_integers.kp b_bad_integers .nil pass0 (pa_cons pe_int (pa_cons (pv 5) pa_nil)))) (pg_name (i := 6) nd rfl (by first | exact .inl rfl | exact .inr rfl)) (pss_cons (ps_if (pt_cmpR (op_neDK (K := K) rfl hU) (pe_lst (pa_cons (pg_call G_told hG (hr.mono (by decide)) rfl j_told F_told.kp b_told .nil pass0 (pa_cons pe_int (pa_cons (pe_lst (pa_cons (pv 6) (pa_cons (pv 2) (pa_cons (pv 3) pa_nil)))) pa_nil))) (pa_cons (pg_call G_told hG (hr.mono (by decide)) rfl j_told F_told.kp b_told .nil pass0 (pa_cons pe_int (pa_cons (pe_lst (pa_cons (pv 6) (pa_cons pe_non (pa_cons pe_non pa_nil)))) pa_nil))) pa_nil))) (pe_op op_rep (pe_lst (pa_cons pe_str pa_nil)) pe_int) (nomark _)) (pss_one ps_never) pss_nil)
 pss_nil))
 (pss_cons (ps_for PassesOwn.never rfl (pi_list (pe_op op_cat (pg_call G_bad_integers hG (hr.mono (by decide)) rfl j_bad_integers F_bad_integers.kp b_bad_integers .nil pass0 (pa_cons pe_int (pa_cons (pe_op op_sub (pv 5) pe_int) pa_nil))) (pe_lst (pa_cons pe_int (pa_cons (pv 5) (pa_cons pe_int pa_nil)))))) (pg_name (i := 6) nd rfl (by first | exact .inl rfl | exact .inr rfl)) (pss_cons (ps_if (pt_cmpR (op_neDK (K := K) rfl hU) (pe_lst (pa_cons (pg_call G_told hG (hr.mono (by decide)) rfl j_told F_told.kp b_told .nil pass0 (pa_cons pe_int (pa_cons (pe_lst (pa_cons (pv 1) (pa_cons (pv 6) (pa_cons (pv 3) pa_nil)))) pa_nil))) (pa_cons (pg_call G_told hG (hr.mono (by decide)) rfl j_told F_told.kp b_told .nil pass0 (pa_cons pe_int (pa_cons (pe_lst (pa_cons (pv 1) (pa_cons (pv 6) (pa_cons pe_non pa_nil)))) pa_nil))) pa_nil))) (pe_op op_rep (pe_lst (pa_cons pe_str pa_nil)) pe_int) (nomark _)) (pss_one ps_never) pss_nil)
 pss_nil))
 (pss_cons (ps_for PassesOwn.never rfl (pi_list (pg_call G_bad_integers hG (hr.mono (by decide)) rfl j_bad_integers F_bad_integers.kp b_bad_integers .nil pass0 (pa_cons pe_int (pa_cons (pv 5) pa_nil)))) (pg_name (i := 6) nd rfl (by first | exact .inl rfl | exact .inr rfl)) (pss_cons (ps_if (pt_cmpR op_ne (pg_call G_told hG (hr.mono (by decide)) rfl j_told F_told.kp b_told .nil pass0 (pa_cons pe_int (pa_cons (pe_lst (pa_cons (pv 1) (pa_cons (pv 2) (pa_cons (pv 6) pa_nil)))) pa_nil))) pe_str (nomark _)) (pss_one ps_never) pss_nil)
 pss_nil))
 (pss_cons (ps_for PassesOwn.never rfl (pi_list (pg_call G_bad_integers hG (hr.mono (by decide)) rfl j_bad_integers F_bad_integers.kp b_bad_integers .nil pass0 (pa_cons pe_int (pa_cons (pe_op op_sub (pv 5) pe_int) pa_nil)))) (pg_name (i := 6) nd rfl (by first | exact .inl rfl | exact .inr rfl)) (pss_cons (ps_set (i := 7) nd rfl (by first | exact .inl rfl | exact .inr rfl) (pe_lst (pa_cons (pg_call G_told hG (hr.mono (by decide)) rfl j_told F_told.kp b_told .nil pass0 (pa_cons pe_int (pa_cons (pe_lst (pa_cons (pv 4) (pa_cons (pv 6) pa_nil))) pa_nil))) (pa_cons (pg_call G_told hG (hr.mono (by decide)) rfl j_told F_told.kp b_told .nil pass0 (pa_cons pe_int (pa_cons (pe_lst (pa_cons (pv 4) (pa_cons (pv 6) (pa_cons pe_int pa_nil)))) pa_nil))) (pa_cons (pg_call G_told hG (hr.mono (by decide)) rfl j_told F_told.kp b_told .nil pass0 (pa_cons pe_int (pa_cons (pe_lst (pa_cons (pv 4) (pa_cons (pv 6) (pa_cons pe_non pa_nil)))) pa_nil))) pa_nil)))))
 (pss_cons (ps_if (pt_cmpR (op_neDK (K := K) rfl hU) (pv 7) (pe_op op_rep (pe_lst (pa_cons pe_str pa_nil)) pe_int) (nomark _)) (pss_one ps_never) pss_nil)
 pss_nil)))
 (pss_cons (ps_if (pt_cmpR (op_neDK (K := K) rfl hU) (pe_lc (own := [("_law_bad", 6)]) (g := gName 6) rfl nd (pi_list (pg_call G_bad_integers hG (hr.mono (by decide)) rfl j_bad_integers F_bad_integers.kp b_bad_integers .nil pass0 (pa_cons pe_int (pa_cons pe_int pa_nil)))) (blkOk_by (own := [("_law_bad", 6)]) (N := N_made_right) (sc := defScope s_made_right) (by decide +kernel)) (fun _ _ _ _ _ => pg_name (i := 6) nd rfl (by first | exact .inl rfl | exact .inr rfl)) (fun _ _ _ _ _ => pts_one (pt_cmpR op_ne (pg_call G_told hG (hr.mono (by decide)) rfl j_told F_told.kp b_told .nil pass0 (pa_cons pe_int (pa_cons (pe_lst (pa_cons (pv 4) (pa_cons pe_int (pa_cons (pv 6) pa_nil)))) pa_nil))) pe_str (nomark _))) (fun _ _ _ _ _ => pe_int)) (pe_lst pa_nil) (nomark _)) (pss_one ps_never) pss_nil)
 (pss_cons (ps_set (i := 7) nd rfl (by first | exact .inl rfl | exact .inr rfl) (pe_lst (pa_cons (pg_call G_told__2 hG (hr.mono (by decide)) rfl j_told__2 F_told__2.kp b_told__2 .nil pass0 (pa_cons pe_int (pa_cons (pe_lst (pa_cons (pv 5) (pa_cons (pe_op op_sub (pv 5) pe_int) (pa_cons (pv 5) pa_nil)))) pa_nil))) (pa_cons (pg_call G_told__2 hG (hr.mono (by decide)) rfl j_told__2 F_told__2.kp b_told__2 .nil pass0 (pa_cons pe_int (pa_cons (pe_lst (pa_cons pe_int (pa_cons pe_int (pa_cons pe_int pa_nil)))) pa_nil))) (pa_cons (pg_call G_told hG (hr.mono (by decide)) rfl j_told F_told.kp b_told .nil pass0 (pa_cons pe_int (pa_cons (pe_lst (pa_cons (pv 4) (pa_cons (pe_op op_sub (pv 5) pe_int) pa_nil))) pa_nil))) pa_nil)))))
 (pss_cons (ps_ret (pe_cmpR (op_eqDK (K := K) rfl hU) (pe_op op_cat (pv 7) (pe_lc (own := [("_law_depth", 8)]) (g := gName 8) (tt := tYes) rfl nd (pi_tup (pe_tup (pa_cons pe_int (pa_cons pe_int pa_nil)))) (blkOk_by (own := [("_law_depth", 8)]) (N := N_made_right) (sc := defScope s_made_right) (by decide +kernel)) (fun _ _ _ _ _ => pg_name (i := 8) nd rfl (by first | exact .inl rfl | exact .inr rfl)) (fun _ _ _ _ _ => pts_nil) (fun _ _ _ _ _ => (pg_call G_told hG (hr.mono (by decide)) rfl j_told F_told.kp b_told .nil pass0 (pa_cons pe_int (pa_cons (pe_lst (pa_cons (pv 4) (pa_cons pe_int (pa_cons (pv 8) pa_nil)))) pa_nil)))))) (pe_op op_rep (pe_lst (pa_cons pe_str pa_nil)) pe_int) (nomark _)))
 pss_nil))))))))), ?_⟩
    refine def_B h (fun d => Nat.le_of_ble_eq_true rfl) (fun bag_1 p h => ?_)
    replace h : m_made_right_ok bag_1 := h
    unfold m_made_right_ok at h
    show SS _ [.ow (oLq (some p) (bagR bag_1)), .no, .no, .no, .no, .no, .no, .no, .no] (BP eB p (m_made_right bag_1))
    obtain ⟨g1, h⟩ := h
    refine ss_seq2 ((m_three bag_1 (10 ^ 30)).1) ((m_three bag_1 (10 ^ 30)).2) (fun t_2 bag_3 => [.ow (oLq (some p) (bagR bag_3)), .fz (eI t_2.1), .fz (eI t_2.2.1), .fz (eI t_2.2.2), .no, .no, .no, .no, .no]) (ss_asg (es_callB (bag_1, 10 ^ 30) 0 rfl (as_cons (es_pow es_c es_c ⟨by decide, by decide, by decide⟩) as_nil) rfl g1) (gs_tup (gs_cons (gs_name 1) (gs_cons (gs_name 2) (gs_cons (gs_name 3) gs_nil)))) Wk.refl) (fun t_2 e_t_2 bag_3 e_bag_3 => ?_)
    replace h := h t_2 e_t_2 bag_3 e_bag_3
    obtain ⟨g2, h⟩ := h
    refine ss_seq2 (⟨t_2.1, t_2.2.1, t_2.2.2⟩ : Tbl) ((10 ^ 30) : Int) (fun table_4 far_5 => [.ow (oLq (some p) (bagR bag_3)), .fz (eI t_2.1), .fz (eI t_2.2.1), .fz (eI t_2.2.2), .fz ((eTbl (CT 18)) table_4), .fz (eI far_5), .no, .no, .no]) (ss_tupM (K := K) [4, 5] (am_fz (es_make (t_2.1, t_2.2.1, t_2.2.2) (as_cons (es_var 1 rfl) (as_cons (es_var 2 rfl) (as_cons (es_var 3 rfl) as_nil))) g2) (am_fz (es_pow es_c es_c ⟨by decide, by decide, by decide⟩) am_nil)) rfl rfl (Nat.le_of_ble_eq_true rfl) Wk.refl) (fun table_4 e_table_4 far_5 e_far_5 => ?_)
    replace h := h table_4 e_table_4 far_5 e_far_5
    obtain ⟨g3, g8, h⟩ := h
    refine ss_seq1 (List.foldl (m_made_right_b1 t_2) () (m_bad_integers 1 far_5)) (fun f_8 => [.ow (oLq (some p) (bagR bag_3)), .fz (eI t_2.1), .fz (eI t_2.2.1), .fz (eI t_2.2.2), .fz ((eTbl (CT 18)) table_4), .fz (eI far_5), .no, .no, .no]) (sf_S (e := (eU (CT 18))) (l := (m_bad_integers 1 far_5)) (fun s_6 => [.ow (oLq (some p) (bagR bag_3)), .fz (eI t_2.1), .fz (eI t_2.2.1), .fz (eI t_2.2.2), .fz ((eTbl (CT 18)) table_4), .fz (eI far_5), .no, .no, .no]) (m_made_right_b1 t_2) (m_made_right_o1 t_2) () (is_list (e := (eU (CT 18))) (es_call (1, far_5) (as_cons es_c (as_cons (es_var 5 rfl) as_nil)) g3)) Wk.refl g8 (fun s_6 x_7 _ h => ⟨[.ow (oLq (some p) (bagR bag_3)), .fz (eI t_2.1), .fz (eI t_2.2.1), .fz (eI t_2.2.2), .fz ((eTbl (CT 18)) table_4), .fz (eI far_5), .fz ((eU (CT 18)) x_7), .no, .no], _, gs_name 6, ?_⟩) (fun _ hw => hw)) (fun f_8 e_f_8 => ?_)
    · unfold m_made_right_o1 at h
      obtain ⟨g4, g5, g6, g7, h⟩ := h
      obtain ⟨hn, h⟩ := h
      refine ss_ifL (et_test (es_neLS (K := K) (es_frs eS ([m_told 0 ([x_7, U.int t_2.2.1, U.int t_2.2.2] : List U), m_told 0 ([x_7, U.non, U.non] : List U)] : List Str) (en_lst (as_cons (es_call (0, ([x_7, U.int t_2.2.1, U.int t_2.2.2] : List U)) (as_cons es_c (as_cons (es_frs (eU (CT 18)) ([x_7, U.int t_2.2.1, U.int t_2.2.2] : List U) (en_lst (rs := List.map (eU (CT 18)) [x_7, U.int t_2.2.1, U.int t_2.2.2]) (as_cons (es_var 6 rfl) (as_cons (es_toU2 (K := K) (C := (CT 18)) (e := eI) (x := t_2.2.1) (u := U.int t_2.2.1) (es_var 2 rfl) rfl) (as_cons (es_toU2 (K := K) (C := (CT 18)) (e := eI) (x := t_2.2.2) (u := U.int t_2.2.2) (es_var 3 rfl) rfl) as_nil))))) as_nil)) g4) (as_cons (es_call (0, ([x_7, U.non, U.non] : List U)) (as_cons es_c (as_cons (es_frs (eU (CT 18)) ([x_7, U.non, U.non] : List U) (en_lst (rs := List.map (eU (CT 18)) [x_7, U.non, U.non]) (as_cons (es_var 6 rfl) (as_cons (es_nonU es_c) (as_cons (es_nonU es_c) as_nil))))) as_nil)) g5) as_nil)))) (es_frs eS ((List.replicate (Int.toNat (2 : Int)) ([(Str.ofString "InvalidCapacity")] : List Str)).flatten) (en_rep (e := eS) (es_frs eS ([(Str.ofString "InvalidCapacity")] : List Str) (en_lst (rs := List.map eS [(Str.ofString "InvalidCapacity")]) (as_cons es_c as_nil))) es_c g6)) g7)) (fun hc => absurd (hc.symm.trans hn) (by decide)) (fun _ => ss_nxq ?_)
      exact ss_nx ⟨.inr rfl, ⟨.inr rfl, ⟨.inr rfl, ⟨.inr rfl, ⟨.inr rfl, ⟨.inr rfl, ⟨.inl ⟨rfl, rfl⟩, ⟨.inr rfl, ⟨.inr rfl, trivial⟩⟩⟩⟩⟩⟩⟩⟩⟩
    replace h := h f_8 e_f_8
    obtain ⟨g9, g10, g11, g16, h⟩ := h
    refine ss_seq1 (List.foldl (m_made_right_b2 t_2) () ((m_bad_integers 1 (far_5 - 1)) ++ ([U.int 2, U.int far_5, U.int 4] : List U))) (fun f_11 => [.ow (oLq (some p) (bagR bag_3)), .fz (eI t_2.1), .fz (eI t_2.2.1), .fz (eI t_2.2.2), .fz ((eTbl (CT 18)) table_4), .fz (eI far_5), .no, .no, .no]) (sf_S (e := (eU (CT 18))) (l := ((m_bad_integers 1 (far_5 - 1)) ++ ([U.int 2, U.int far_5, U.int 4] : List U))) (fun s_9 => [.ow (oLq (some p) (bagR bag_3)), .fz (eI t_2.1), .fz (eI t_2.2.1), .fz (eI t_2.2.2), .fz ((eTbl (CT 18)) table_4), .fz (eI far_5), .no, .no, .no]) (m_made_right_b2 t_2) (m_made_right_o2 t_2) () (is_list (e := (eU (CT 18))) (es_frs (eU (CT 18)) ((m_bad_integers 1 (far_5 - 1)) ++ ([U.int 2, U.int far_5, U.int 4] : List U)) (en_cat (es_call (1, far_5 - 1) (as_cons es_c (as_cons (es_sub (es_var 5 rfl) es_c) as_nil)) g10) (es_frs (eU (CT 18)) ([U.int 2, U.int far_5, U.int 4] : List U) (en_lst (rs := List.map (eU (CT 18)) [U.int 2, U.int far_5, U.int 4]) (as_cons (es_toU2 (K := K) (C := (CT 18)) (e := eI) (x := 2) (u := U.int 2) es_c rfl) (as_cons (es_toU2 (K := K) (C := (CT 18)) (e := eI) (x := far_5) (u := U.int far_5) (es_var 5 rfl) rfl) (as_cons (es_toU2 (K := K) (C := (CT 18)) (e := eI) (x := 4) (u := U.int 4) es_c rfl) as_nil))))) g11))) Wk.refl g16 (fun s_9 x_10 _ h => ⟨[.ow (oLq (some p) (bagR bag_3)), .fz (eI t_2.1), .fz (eI t_2.2.1), .fz (eI t_2.2.2), .fz ((eTbl (CT 18)) table_4), .fz (eI far_5), .fz ((eU (CT 18)) x_10), .no, .no], _, gs_name 6, ?_⟩) (fun _ hw => hw)) (fun f_11 e_f_11 => ?_)
    · unfold m_made_right_o2 at h
      obtain ⟨g12, g13, g14, g15, h⟩ := h
      obtain ⟨hn, h⟩ := h
      refine ss_ifL (et_test (es_neLS (K := K) (es_frs eS ([m_told 0 ([U.int t_2.1, x_10, U.int t_2.2.2] : List U), m_told 0 ([U.int t_2.1, x_10, U.non] : List U)] : List Str) (en_lst (as_cons (es_call (0, ([U.int t_2.1, x_10, U.int t_2.2.2] : List U)) (as_cons es_c (as_cons (es_frs (eU (CT 18)) ([U.int t_2.1, x_10, U.int t_2.2.2] : List U) (en_lst (rs := List.map (eU (CT 18)) [U.int t_2.1, x_10, U.int t_2.2.2]) (as_cons (es_toU2 (K := K) (C := (CT 18)) (e := eI) (x := t_2.1) (u := U.int t_2.1) (es_var 1 rfl) rfl) (as_cons (es_var 6 rfl) (as_cons (es_toU2 (K := K) (C := (CT 18)) (e := eI) (x := t_2.2.2) (u := U.int t_2.2.2) (es_var 3 rfl) rfl) as_nil))))) as_nil)) g12) (as_cons (es_call (0, ([U.int t_2.1, x_10, U.non] : List U)) (as_cons es_c (as_cons (es_frs (eU (CT 18)) ([U.int t_2.1, x_10, U.non] : List U) (en_lst (rs := List.map (eU (CT 18)) [U.int t_2.1, x_10, U.non]) (as_cons (es_toU2 (K := K) (C := (CT 18)) (e := eI) (x := t_2.1) (u := U.int t_2.1) (es_var 1 rfl) rfl) (as_cons (es_var 6 rfl) (as_cons (es_nonU es_c) as_nil))))) as_nil)) g13) as_nil)))) (es_frs eS ((List.replicate (Int.toNat (2 : Int)) ([(Str.ofString "InvalidRate")] : List Str)).flatten) (en_rep (e := eS) (es_frs eS ([(Str.ofString "InvalidRate")] : List Str) (en_lst (rs := List.map eS [(Str.ofString "InvalidRate")]) (as_cons es_c as_nil))) es_c g14)) g15)) (fun hc => absurd (hc.symm.trans hn) (by decide)) (fun _ => ss_nxq ?_)
      exact ss_nx ⟨.inr rfl, ⟨.inr rfl, ⟨.inr rfl, ⟨.inr rfl, ⟨.inr rfl, ⟨.inr rfl, ⟨.inl ⟨rfl, rfl⟩, ⟨.inr rfl, ⟨.inr rfl, trivial⟩⟩⟩⟩⟩⟩⟩⟩⟩
    replace h := h f_11 e_f_11
    obtain ⟨g17, g19, h⟩ := h
    refine ss_seq1 (List.foldl (m_made_right_b3 t_2) () (m_bad_integers 0 far_5)) (fun f_14 => [.ow (oLq (some p) (bagR bag_3)), .fz (eI t_2.1), .fz (eI t_2.2.1), .fz (eI t_2.2.2), .fz ((eTbl (CT 18)) table_4), .fz (eI far_5), .no, .no, .no]) (sf_S (e := (eU (CT 18))) (l := (m_bad_integers 0 far_5)) (fun s_12 => [.ow (oLq (some p) (bagR bag_3)), .fz (eI t_2.1), .fz (eI t_2.2.1), .fz (eI t_2.2.2), .fz ((eTbl (CT 18)) table_4), .fz (eI far_5), .no, .no, .no]) (m_made_right_b3 t_2) (m_made_right_o3 t_2) () (is_list (e := (eU (CT 18))) (es_call (0, far_5) (as_cons es_c (as_cons (es_var 5 rfl) as_nil)) g17)) Wk.refl g19 (fun s_12 x_13 _ h => ⟨[.ow (oLq (some p) (bagR bag_3)), .fz (eI t_2.1), .fz (eI t_2.2.1), .fz (eI t_2.2.2), .fz ((eTbl (CT 18)) table_4), .fz (eI far_5), .fz ((eU (CT 18)) x_13), .no, .no], _, gs_name 6, ?_⟩) (fun _ hw => hw)) (fun f_14 e_f_14 => ?_)
    · unfold m_made_right_o3 at h
      obtain ⟨g18, h⟩ := h
      obtain ⟨hn, h⟩ := h
      refine ss_ifL (et_cmp (es_call (0, ([U.int t_2.1, U.int t_2.2.1, x_13] : List U)) (as_cons es_c (as_cons (es_frs (eU (CT 18)) ([U.int t_2.1, U.int t_2.2.1, x_13] : List U) (en_lst (rs := List.map (eU (CT 18)) [U.int t_2.1, U.int t_2.2.1, x_13]) (as_cons (es_toU2 (K := K) (C := (CT 18)) (e := eI) (x := t_2.1) (u := U.int t_2.1) (es_var 1 rfl) rfl) (as_cons (es_toU2 (K := K) (C := (CT 18)) (e := eI) (x := t_2.2.1) (u := U.int t_2.2.1) (es_var 2 rfl) rfl) (as_cons (es_var 6 rfl) as_nil))))) as_nil)) g18) es_c q_neS) (fun hc => absurd (hc.symm.trans hn) (by decide)) (fun _ => ss_nxq ?_)
      exact ss_nx ⟨.inr rfl, ⟨.inr rfl, ⟨.inr rfl, ⟨.inr rfl, ⟨.inr rfl, ⟨.inr rfl, ⟨.inl ⟨rfl, rfl⟩, ⟨.inr rfl, ⟨.inr rfl, trivial⟩⟩⟩⟩⟩⟩⟩⟩⟩
    replace h := h f_14 e_f_14
    obtain ⟨g20, g26, h⟩ := h
    refine ss_seq1 (List.foldl (m_made_right_b4 table_4) () (m_bad_integers 0 (far_5 - 1))) (fun f_18 => [.ow (oLq (some p) (bagR bag_3)), .fz (eI t_2.1), .fz (eI t_2.2.1), .fz (eI t_2.2.2), .fz ((eTbl (CT 18)) table_4), .fz (eI far_5), .no, .no, .no]) (sf_S (e := (eU (CT 18))) (l := (m_bad_integers 0 (far_5 - 1))) (fun s_15 => [.ow (oLq (some p) (bagR bag_3)), .fz (eI t_2.1), .fz (eI t_2.2.1), .fz (eI t_2.2.2), .fz ((eTbl (CT 18)) table_4), .fz (eI far_5), .no, .no, .no]) (m_made_right_b4 table_4) (m_made_right_o4 table_4) () (is_list (e := (eU (CT 18))) (es_call (0, far_5 - 1) (as_cons es_c (as_cons (es_sub (es_var 5 rfl) es_c) as_nil)) g20)) Wk.refl g26 (fun s_15 x_16 _ h => ⟨[.ow (oLq (some p) (bagR bag_3)), .fz (eI t_2.1), .fz (eI t_2.2.1), .fz (eI t_2.2.2), .fz ((eTbl (CT 18)) table_4), .fz (eI far_5), .fz ((eU (CT 18)) x_16), .no, .no], _, gs_name 6, ?_⟩) (fun _ hw => hw)) (fun f_18 e_f_18 => ?_)
    · unfold m_made_right_o4 at h
      obtain ⟨g21, g22, g23, h⟩ := h
      refine ss_seq1 ([m_told 1 ([U.tbl table_4, x_16] : List U), m_told 2 ([U.tbl table_4, x_16, U.int 1] : List U), m_told 2 ([U.tbl table_4, x_16, U.non] : List U)] : List Str) (fun told_17 => [.ow (oLq (some p) (bagR bag_3)), .fz (eI t_2.1), .fz (eI t_2.2.1), .fz (eI t_2.2.2), .fz ((eTbl (CT 18)) table_4), .fz (eI far_5), .fz ((eU (CT 18)) x_16), .fz ((eLs eS) told_17), .no]) (ss_set (es_frs eS ([m_told 1 ([U.tbl table_4, x_16] : List U), m_told 2 ([U.tbl table_4, x_16, U.int 1] : List U), m_told 2 ([U.tbl table_4, x_16, U.non] : List U)] : List Str) (en_lst (as_cons (es_call (1, ([U.tbl table_4, x_16] : List U)) (as_cons es_c (as_cons (es_frs (eU (CT 18)) ([U.tbl table_4, x_16] : List U) (en_lst (rs := List.map (eU (CT 18)) [U.tbl table_4, x_16]) (as_cons (es_toU2 (K := K) (C := (CT 18)) (e := (eTbl (CT 18))) (x := table_4) (u := U.tbl table_4) (es_var 4 rfl) rfl) (as_cons (es_var 6 rfl) as_nil)))) as_nil)) g21) (as_cons (es_call (2, ([U.tbl table_4, x_16, U.int 1] : List U)) (as_cons es_c (as_cons (es_frs (eU (CT 18)) ([U.tbl table_4, x_16, U.int 1] : List U) (en_lst (rs := List.map (eU (CT 18)) [U.tbl table_4, x_16, U.int 1]) (as_cons (es_toU2 (K := K) (C := (CT 18)) (e := (eTbl (CT 18))) (x := table_4) (u := U.tbl table_4) (es_var 4 rfl) rfl) (as_cons (es_var 6 rfl) (as_cons (es_toU2 (K := K) (C := (CT 18)) (e := eI) (x := 1) (u := U.int 1) es_c rfl) as_nil))))) as_nil)) g22) (as_cons (es_call (2, ([U.tbl table_4, x_16, U.non] : List U)) (as_cons es_c (as_cons (es_frs (eU (CT 18)) ([U.tbl table_4, x_16, U.non] : List U) (en_lst (rs := List.map (eU (CT 18)) [U.tbl table_4, x_16, U.non]) (as_cons (es_toU2 (K := K) (C := (CT 18)) (e := (eTbl (CT 18))) (x := table_4) (u := U.tbl table_4) (es_var 4 rfl) rfl) (as_cons (es_var 6 rfl) (as_cons (es_nonU es_c) as_nil))))) as_nil)) g23) as_nil))))) Wk.refl) (fun told_17 e_told_17 => ?_)
      replace h := h told_17 e_told_17
      obtain ⟨g24, g25, h⟩ := h
      obtain ⟨hn, h⟩ := h
      refine ss_ifL (et_test (es_neLS (K := K) (es_var 7 rfl) (es_frs eS ((List.replicate (Int.toNat (3 : Int)) ([(Str.ofString "InvalidKey")] : List Str)).flatten) (en_rep (e := eS) (es_frs eS ([(Str.ofString "InvalidKey")] : List Str) (en_lst (rs := List.map eS [(Str.ofString "InvalidKey")]) (as_cons es_c as_nil))) es_c g24)) g25)) (fun hc => absurd (hc.symm.trans hn) (by decide)) (fun _ => ss_nxq ?_)
      replace e_told_17 := Eq.symm e_told_17; subst e_told_17
      exact ss_nx ⟨.inr rfl, ⟨.inr rfl, ⟨.inr rfl, ⟨.inr rfl, ⟨.inr rfl, ⟨.inr rfl, ⟨.inl ⟨rfl, rfl⟩, ⟨.inl ⟨rfl, rfl⟩, ⟨.inr rfl, trivial⟩⟩⟩⟩⟩⟩⟩⟩⟩
    replace h := h f_18 e_f_18
    obtain ⟨g27, g28, g29, h⟩ := h
    obtain ⟨hn, h⟩ := h
    refine ss_ifL (et_test (es_neNil (K := K) (e := eI) (es_frs eI ((List.filter (fun (x_20 : U) => !decide ((m_told 2 ([U.tbl table_4, U.int 5, x_20] : List U)) = (Str.ofString "InvalidDepth"))) (m_bad_integers 0 100)).map fun (x_20 : U) => (1 : Int)) (en_lcFT eI (fun (x_20 : U) => (1 : Int)) (en_lcS (e := (eU (CT 18))) (l := (m_bad_integers 0 100)) (f := (fun (x_20 : U) => eI (1 : Int))) (is := [6]) (vs := [6]) (fun (x_20 : U) => !decide ((m_told 2 ([U.tbl table_4, U.int 5, x_20] : List U)) = (Str.ofString "InvalidDepth"))) (fun (x_20 : U) => [.no, .fz (eI t_2.1), .fz (eI t_2.2.1), .fz (eI t_2.2.2), .fz ((eTbl (CT 18)) table_4), .fz (eI far_5), .fz ((eU (CT 18)) x_20), .no, .no]) (is_list (e := (eU (CT 18))) (es_call (0, 100) (as_cons es_c (as_cons es_c as_nil)) g27)) g29 (fun _ h => h) (fun x_20 => gs_name 6) (fun x_20 hx => (et_cmp (es_call (2, ([U.tbl table_4, U.int 5, x_20] : List U)) (as_cons es_c (as_cons (es_frs (eU (CT 18)) ([U.tbl table_4, U.int 5, x_20] : List U) (en_lst (rs := List.map (eU (CT 18)) [U.tbl table_4, U.int 5, x_20]) (as_cons (es_toU2 (K := K) (C := (CT 18)) (e := (eTbl (CT 18))) (x := table_4) (u := U.tbl table_4) (es_var 4 rfl) rfl) (as_cons (es_toU2 (K := K) (C := (CT 18)) (e := eI) (x := 5) (u := U.int 5) es_c rfl) (as_cons (es_var 6 rfl) as_nil))))) as_nil)) (g28 x_20 hx)) es_c q_neS)) (fun x_20 hx hp => es_c)))) (Nat.le_of_ble_eq_true rfl))) (fun hc => absurd (hc.symm.trans hn) (by decide)) (fun _ => ss_nxq ?_)
    obtain ⟨g30, g31, g32, h⟩ := h
    refine ss_seq1 ([m_told__2 0 ([U.int far_5, U.int (far_5 - 1), U.int far_5] : List U), m_told__2 0 ([U.int 1, U.int 1, U.int 0] : List U), m_told 1 ([U.tbl table_4, U.int (far_5 - 1)] : List U)] : List Str) (fun told_21 => [.ow (oLq (some p) (bagR bag_3)), .fz (eI t_2.1), .fz (eI t_2.2.1), .fz (eI t_2.2.2), .fz ((eTbl (CT 18)) table_4), .fz (eI far_5), .no, .fz ((eLs eS) told_21), .no]) (ss_set (es_frs eS ([m_told__2 0 ([U.int far_5, U.int (far_5 - 1), U.int far_5] : List U), m_told__2 0 ([U.int 1, U.int 1, U.int 0] : List U), m_told 1 ([U.tbl table_4, U.int (far_5 - 1)] : List U)] : List Str) (en_lst (as_cons (es_call (0, ([U.int far_5, U.int (far_5 - 1), U.int far_5] : List U)) (as_cons es_c (as_cons (es_frs (eU (CT 18)) ([U.int far_5, U.int (far_5 - 1), U.int far_5] : List U) (en_lst (rs := List.map (eU (CT 18)) [U.int far_5, U.int (far_5 - 1), U.int far_5]) (as_cons (es_toU2 (K := K) (C := (CT 18)) (e := eI) (x := far_5) (u := U.int far_5) (es_var 5 rfl) rfl) (as_cons (es_toU2 (K := K) (C := (CT 18)) (e := eI) (x := (far_5 - 1)) (u := U.int (far_5 - 1)) (es_sub (es_var 5 rfl) es_c) rfl) (as_cons (es_toU2 (K := K) (C := (CT 18)) (e := eI) (x := far_5) (u := U.int far_5) (es_var 5 rfl) rfl) as_nil))))) as_nil)) g30) (as_cons (es_call (0, ([U.int 1, U.int 1, U.int 0] : List U)) (as_cons es_c (as_cons (es_frs (eU (CT 18)) ([U.int 1, U.int 1, U.int 0] : List U) (en_lst (rs := List.map (eU (CT 18)) [U.int 1, U.int 1, U.int 0]) (as_cons (es_toU2 (K := K) (C := (CT 18)) (e := eI) (x := 1) (u := U.int 1) es_c rfl) (as_cons (es_toU2 (K := K) (C := (CT 18)) (e := eI) (x := 1) (u := U.int 1) es_c rfl) (as_cons (es_toU2 (K := K) (C := (CT 18)) (e := eI) (x := 0) (u := U.int 0) es_c rfl) as_nil))))) as_nil)) g31) (as_cons (es_call (1, ([U.tbl table_4, U.int (far_5 - 1)] : List U)) (as_cons es_c (as_cons (es_frs (eU (CT 18)) ([U.tbl table_4, U.int (far_5 - 1)] : List U) (en_lst (rs := List.map (eU (CT 18)) [U.tbl table_4, U.int (far_5 - 1)]) (as_cons (es_toU2 (K := K) (C := (CT 18)) (e := (eTbl (CT 18))) (x := table_4) (u := U.tbl table_4) (es_var 4 rfl) rfl) (as_cons (es_toU2 (K := K) (C := (CT 18)) (e := eI) (x := (far_5 - 1)) (u := U.int (far_5 - 1)) (es_sub (es_var 5 rfl) es_c) rfl) as_nil)))) as_nil)) g32) as_nil))))) Wk.refl) (fun told_21 e_told_21 => ?_)
    replace h := h told_21 e_told_21
    obtain ⟨g33, g34, g35, g36, g37, h⟩ := h
    refine ss_retq (es_eqLS (K := K) (es_frs eS (told_21 ++ (List.map (fun (x_23 : Int) => m_told 2 ([U.tbl table_4, U.int 0, U.int x_23] : List U)) ([0, 100] : List Int))) (en_cat (es_var 7 rfl) (es_frs eS (List.map (fun (x_23 : Int) => m_told 2 ([U.tbl table_4, U.int 0, U.int x_23] : List U)) ([0, 100] : List Int)) (en_lcF eS (fun (x_23 : Int) => m_told 2 ([U.tbl table_4, U.int 0, U.int x_23] : List U)) (en_lcS (e := eI) (l := ([0, 100] : List Int)) (f := (fun (x_23 : Int) => eS (m_told 2 ([U.tbl table_4, U.int 0, U.int x_23] : List U)))) (is := [8]) (vs := [8]) (fun (x_23 : Int) => true) (fun (x_23 : Int) => [.no, .fz (eI t_2.1), .fz (eI t_2.2.1), .fz (eI t_2.2.2), .fz ((eTbl (CT 18)) table_4), .fz (eI far_5), .no, .fz ((eLs eS) told_21), .fz (eI x_23)]) (is_tup (es_tup (K := K) (as_cons es_c (as_cons es_c as_nil)))) g34 (fun _ h => h) (fun x_23 => gs_name 8) (fun x_23 hx => et_yes) (fun x_23 hx _ => (es_call (2, ([U.tbl table_4, U.int 0, U.int x_23] : List U)) (as_cons es_c (as_cons (es_frs (eU (CT 18)) ([U.tbl table_4, U.int 0, U.int x_23] : List U) (en_lst (rs := List.map (eU (CT 18)) [U.tbl table_4, U.int 0, U.int x_23]) (as_cons (es_toU2 (K := K) (C := (CT 18)) (e := (eTbl (CT 18))) (x := table_4) (u := U.tbl table_4) (es_var 4 rfl) rfl) (as_cons (es_toU2 (K := K) (C := (CT 18)) (e := eI) (x := 0) (u := U.int 0) es_c rfl) (as_cons (es_toU2 (K := K) (C := (CT 18)) (e := eI) (x := x_23) (u := U.int x_23) (es_var 8 rfl) rfl) as_nil))))) as_nil)) (g33 x_23 hx)))))) g35)) (es_frs eS ((List.replicate (Int.toNat (5 : Int)) ([(Str.ofString "fine")] : List Str)).flatten) (en_rep (e := eS) (es_frs eS ([(Str.ofString "fine")] : List Str) (en_lst (rs := List.map eS [(Str.ofString "fine")]) (as_cons es_c as_nil))) es_c g36)) g37) ?_
    replace e_told_21 := Eq.symm e_told_21; subst e_told_21; replace e_f_18 := Eq.symm e_f_18; subst e_f_18; replace e_f_14 := Eq.symm e_f_14; subst e_f_14; replace e_f_11 := Eq.symm e_f_11; subst e_f_11; replace e_f_8 := Eq.symm e_f_8; subst e_f_8; replace e_far_5 := Eq.symm e_far_5; subst e_far_5; replace e_table_4 := Eq.symm e_table_4; subst e_table_4; replace e_bag_3 := Eq.symm e_bag_3; subst e_bag_3; replace e_t_2 := Eq.symm e_t_2; subst e_t_2
    exact ⟨rfl, rfl⟩
end
def m_right_b1 (spans_6 : List (Int × Int)) (s_9 : Unit) (x_10 : U) : Unit :=
let told_11 := ([m_told 4 ([x_10, U.lst (List.map (fun y : Int × Int => U.tup [U.int y.1, U.int y.2]) spans_6), U.int 0, U.int 0] : List U), m_told 4 ([x_10, U.non, U.non, U.non] : List U)] : List Str)
()
def m_right_o1 (spans_6 : List (Int × Int)) (s_9 : Unit) (x_10 : U) : Prop :=
(m_told_ok 4 ([x_10, U.lst (List.map (fun y : Int × Int => U.tup [U.int y.1, U.int y.2]) spans_6), U.int 0, U.int 0] : List U)) ∧ (m_told_ok 4 ([x_10, U.non, U.non, U.non] : List U)) ∧ (∀ told_11, told_11 = ([m_told 4 ([x_10, U.lst (List.map (fun y : Int × Int => U.tup [U.int y.1, U.int y.2]) spans_6), U.int 0, U.int 0] : List U), m_told 4 ([x_10, U.non, U.non, U.non] : List U)] : List Str) → (m_told_ok 5 ([x_10, U.non, U.non, U.non, U.non] : List U)) ∧ (told_11.length + ([m_told 5 ([x_10, U.non, U.non, U.non, U.non] : List U)] : List Str).length ≤ 16000000) ∧ ((0 : Int) ≤ (3 : Int) ∧ (3 : Int) ≤ (1000 : Int) ∧ ([(Str.ofString "InvalidTable")] : List Str).length ≤ 1000) ∧ (StrsOk (told_11 ++ ([m_told 5 ([x_10, U.non, U.non, U.non, U.non] : List U)] : List Str)) ∧ StrsOk ((List.replicate (Int.toNat (3 : Int)) ([(Str.ofString "InvalidTable")] : List Str)).flatten)) ∧ (!decide ((told_11 ++ ([m_told 5 ([x_10, U.non, U.non, U.non, U.non] : List U)] : List Str)) = ((List.replicate (Int.toNat (3 : Int)) ([(Str.ofString "InvalidTable")] : List Str)).flatten))) = false ∧ (True))
def m_right_b2 (table_5 : Tbl) (s_14 : Unit) (x_15 : U × Str) : Unit :=
let told_16 := ([m_told 3 ([x_15.1] : List U), m_told 4 ([U.tbl table_5, x_15.1, U.int 0, U.int 0] : List U), m_told 4 ([U.tbl table_5, x_15.1, U.non, U.non] : List U)] : List Str)
()
def m_right_o2 (table_5 : Tbl) (s_14 : Unit) (x_15 : U × Str) : Prop :=
(m_told_ok 3 ([x_15.1] : List U)) ∧ (m_told_ok 4 ([U.tbl table_5, x_15.1, U.int 0, U.int 0] : List U)) ∧ (m_told_ok 4 ([U.tbl table_5, x_15.1, U.non, U.non] : List U)) ∧ (∀ told_16, told_16 = ([m_told 3 ([x_15.1] : List U), m_told 4 ([U.tbl table_5, x_15.1, U.int 0, U.int 0] : List U), m_told 4 ([U.tbl table_5, x_15.1, U.non, U.non] : List U)] : List Str) → (m_told_ok 5 ([U.tbl table_5, x_15.1, U.non, U.int 0, U.int 0] : List U)) ∧ (told_16.length + ([m_told 5 ([U.tbl table_5, x_15.1, U.non, U.int 0, U.int 0] : List U)] : List Str).length ≤ 16000000) ∧ ((0 : Int) ≤ (4 : Int) ∧ (4 : Int) ≤ (1000 : Int) ∧ ([x_15.2] : List Str).length ≤ 1000) ∧ (StrsOk (told_16 ++ ([m_told 5 ([U.tbl table_5, x_15.1, U.non, U.int 0, U.int 0] : List U)] : List Str)) ∧ StrsOk ((List.replicate (Int.toNat (4 : Int)) ([x_15.2] : List Str)).flatten)) ∧ (!decide ((told_16 ++ ([m_told 5 ([U.tbl table_5, x_15.1, U.non, U.int 0, U.int 0] : List U)] : List Str)) = ((List.replicate (Int.toNat (4 : Int)) ([x_15.2] : List Str)).flatten))) = false ∧ (True))
def m_right_b3 (table_5 : Tbl) (spans_6 : List (Int × Int)) (s_18 : Unit) (x_19 : U) : Unit :=
let told_20 := ([m_told 4 ([U.tbl table_5, U.lst (List.map (fun y : Int × Int => U.tup [U.int y.1, U.int y.2]) spans_6), x_19, U.non] : List U), m_told 5 ([U.tbl table_5, U.lst (List.map (fun y : Int × Int => U.tup [U.int y.1, U.int y.2]) spans_6), x_19, U.non, U.non] : List U)] : List Str)
()
def m_right_o3 (table_5 : Tbl) (spans_6 : List (Int × Int)) (s_18 : Unit) (x_19 : U) : Prop :=
(m_told_ok 4 ([U.tbl table_5, U.lst (List.map (fun y : Int × Int => U.tup [U.int y.1, U.int y.2]) spans_6), x_19, U.non] : List U)) ∧ (m_told_ok 5 ([U.tbl table_5, U.lst (List.map (fun y : Int × Int => U.tup [U.int y.1, U.int y.2]) spans_6), x_19, U.non, U.non] : List U)) ∧ (∀ told_20, told_20 = ([m_told 4 ([U.tbl table_5, U.lst (List.map (fun y : Int × Int => U.tup [U.int y.1, U.int y.2]) spans_6), x_19, U.non] : List U), m_told 5 ([U.tbl table_5, U.lst (List.map (fun y : Int × Int => U.tup [U.int y.1, U.int y.2]) spans_6), x_19, U.non, U.non] : List U)] : List Str) → ((0 : Int) ≤ (2 : Int) ∧ (2 : Int) ≤ (1000 : Int) ∧ ([(Str.ofString "InvalidDepth")] : List Str).length ≤ 1000) ∧ (StrsOk told_20 ∧ StrsOk ((List.replicate (Int.toNat (2 : Int)) ([(Str.ofString "InvalidDepth")] : List Str)).flatten)) ∧ (!decide (told_20 = ((List.replicate (Int.toNat (2 : Int)) ([(Str.ofString "InvalidDepth")] : List Str)).flatten))) = false ∧ (True))
def m_right_b4 (table_5 : Tbl) (spans_6 : List (Int × Int)) (depth_8 : Int) (s_22 : Unit) (x_23 : U) : Unit :=
let told_24 := ([m_told 4 ([U.tbl table_5, U.lst (List.map (fun y : Int × Int => U.tup [U.int y.1, U.int y.2]) spans_6), U.int depth_8, x_23] : List U), m_told 5 ([U.tbl table_5, U.lst (List.map (fun y : Int × Int => U.tup [U.int y.1, U.int y.2]) spans_6), U.int depth_8, x_23, U.int 0] : List U)] : List Str)
()
def m_right_o4 (table_5 : Tbl) (spans_6 : List (Int × Int)) (depth_8 : Int) (s_22 : Unit) (x_23 : U) : Prop :=
(m_told_ok 4 ([U.tbl table_5, U.lst (List.map (fun y : Int × Int => U.tup [U.int y.1, U.int y.2]) spans_6), U.int depth_8, x_23] : List U)) ∧ (m_told_ok 5 ([U.tbl table_5, U.lst (List.map (fun y : Int × Int => U.tup [U.int y.1, U.int y.2]) spans_6), U.int depth_8, x_23, U.int 0] : List U)) ∧ (∀ told_24, told_24 = ([m_told 4 ([U.tbl table_5, U.lst (List.map (fun y : Int × Int => U.tup [U.int y.1, U.int y.2]) spans_6), U.int depth_8, x_23] : List U), m_told 5 ([U.tbl table_5, U.lst (List.map (fun y : Int × Int => U.tup [U.int y.1, U.int y.2]) spans_6), U.int depth_8, x_23, U.int 0] : List U)] : List Str) → (m_told_ok 5 ([U.tbl table_5, U.lst (List.map (fun y : Int × Int => U.tup [U.int y.1, U.int y.2]) spans_6), U.int depth_8, x_23, U.non] : List U)) ∧ (told_24.length + ([m_told 5 ([U.tbl table_5, U.lst (List.map (fun y : Int × Int => U.tup [U.int y.1, U.int y.2]) spans_6), U.int depth_8, x_23, U.non] : List U)] : List Str).length ≤ 16000000) ∧ ((0 : Int) ≤ (3 : Int) ∧ (3 : Int) ≤ (1000 : Int) ∧ ([(Str.ofString "InvalidTail")] : List Str).length ≤ 1000) ∧ (StrsOk (told_24 ++ ([m_told 5 ([U.tbl table_5, U.lst (List.map (fun y : Int × Int => U.tup [U.int y.1, U.int y.2]) spans_6), U.int depth_8, x_23, U.non] : List U)] : List Str)) ∧ StrsOk ((List.replicate (Int.toNat (3 : Int)) ([(Str.ofString "InvalidTail")] : List Str)).flatten)) ∧ (!decide ((told_24 ++ ([m_told 5 ([U.tbl table_5, U.lst (List.map (fun y : Int × Int => U.tup [U.int y.1, U.int y.2]) spans_6), U.int depth_8, x_23, U.non] : List U)] : List Str)) = ((List.replicate (Int.toNat (3 : Int)) ([(Str.ofString "InvalidTail")] : List Str)).flatten))) = false ∧ (True))
def m_right_b5 (table_5 : Tbl) (spans_6 : List (Int × Int)) (depth_8 : Int) (s_26 : Unit) (x_27 : U) : Unit :=
()
def m_right_o5 (table_5 : Tbl) (spans_6 : List (Int × Int)) (depth_8 : Int) (s_26 : Unit) (x_27 : U) : Prop :=
(m_told_ok 5 ([U.tbl table_5, U.lst (List.map (fun y : Int × Int => U.tup [U.int y.1, U.int y.2]) spans_6), U.int depth_8, U.int 0, x_27] : List U)) ∧ (!decide ((m_told 5 ([U.tbl table_5, U.lst (List.map (fun y : Int × Int => U.tup [U.int y.1, U.int y.2]) spans_6), U.int depth_8, U.int 0, x_27] : List U)) = (Str.ofString "InvalidNumber"))) = false ∧ (True)
def m_right (bag_1 : Bag) : Bool × Bag :=
let t_2 := (m_three bag_1 9).1
let bag_3 := (m_three bag_1 9).2
let table_5 := (⟨t_2.1, t_2.2.1, t_2.2.2⟩ : Tbl)
let spans_6 := (m_spans ((m_pick bag_3 2).2) 11 (nth ([9, 10 ^ 28] : List Int) ((m_pick bag_3 2).1))).1
let bag_4 := (m_spans ((m_pick bag_3 2).2) 11 (nth ([9, 10 ^ 28] : List Int) ((m_pick bag_3 2).1))).2
let depth_8 := (m_pick bag_4 101).1
let bag_7 := (m_pick bag_4 101).2
let f_12 := List.foldl (m_right_b1 spans_6) () m_bad_tables
let f_17 := List.foldl (m_right_b2 table_5) () ((m_bad_spans bag_7 spans_6).1)
let f_21 := List.foldl (m_right_b3 table_5 spans_6) () (m_bad_integers 0 100)
let f_25 := List.foldl (m_right_b4 table_5 spans_6 depth_8) () (m_bad_integers 0 ((1 * 2 ^ depth_8.toNat) - 1))
let f_28 := List.foldl (m_right_b5 table_5 spans_6 depth_8) () ([U.non, U.bl true, U.bl false, U.str (Str.ofString ""), U.str (Str.ofString "1"), U.lst [U.int 1], U.tup [U.int 1], U.dic, U.int (-1), U.int (0 - (10 ^ 60))] : List U)
let good_29 := ([m_told 3 ([U.lst (List.map (fun y : Int × Int => U.tup [U.int y.1, U.int y.2]) spans_6)] : List U), m_told 3 ([U.lst []] : List U), m_told 4 ([U.tbl table_5, U.lst (List.map (fun y : Int × Int => U.tup [U.int y.1, U.int y.2]) spans_6), U.int depth_8, U.int ((1 * 2 ^ depth_8.toNat) - 1)] : List U)] : List Str)
((m_made_right ((m_bad_spans bag_7 spans_6).2)).1, (m_made_right ((m_bad_spans bag_7 spans_6).2)).2)
def m_right_ok (bag_1 : Bag) : Prop :=
(m_three_ok bag_1 9) ∧ (∀ t_2, t_2 = ((m_three bag_1 9).1) → ∀ bag_3, bag_3 = ((m_three bag_1 9).2) → (m_Table___init___ok t_2.1 t_2.2.1 t_2.2.2) ∧ (m_pick_ok bag_3 2) ∧ (0 ≤ ((m_pick bag_3 2).1) ∧ ((m_pick bag_3 2).1) < ([9, 10 ^ 28] : List Int).length) ∧ (m_spans_ok ((m_pick bag_3 2).2) 11 (nth ([9, 10 ^ 28] : List Int) ((m_pick bag_3 2).1))) ∧ (∀ table_5, table_5 = (⟨t_2.1, t_2.2.1, t_2.2.2⟩ : Tbl) → ∀ spans_6, spans_6 = ((m_spans ((m_pick bag_3 2).2) 11 (nth ([9, 10 ^ 28] : List Int) ((m_pick bag_3 2).1))).1) → ∀ bag_4, bag_4 = ((m_spans ((m_pick bag_3 2).2) 11 (nth ([9, 10 ^ 28] : List Int) ((m_pick bag_3 2).1))).2) → (m_pick_ok bag_4 101) ∧ (∀ depth_8, depth_8 = ((m_pick bag_4 101).1) → ∀ bag_7, bag_7 = ((m_pick bag_4 101).2) → (m_bad_tables_ok ) ∧ (okF (m_right_o1 spans_6) (m_right_b1 spans_6) () m_bad_tables) ∧ (∀ f_12, f_12 = List.foldl (m_right_b1 spans_6) () m_bad_tables → (m_bad_spans_ok bag_7 spans_6) ∧ (okF (m_right_o2 table_5) (m_right_b2 table_5) () ((m_bad_spans bag_7 spans_6).1)) ∧ (∀ f_17, f_17 = List.foldl (m_right_b2 table_5) () ((m_bad_spans bag_7 spans_6).1) → (m_bad_integers_ok 0 100) ∧ (okF (m_right_o3 table_5 spans_6) (m_right_b3 table_5 spans_6) () (m_bad_integers 0 100)) ∧ (∀ f_21, f_21 = List.foldl (m_right_b3 table_5 spans_6) () (m_bad_integers 0 100) → (0 ≤ depth_8 ∧ depth_8 ≤ 1000000) ∧ (m_bad_integers_ok 0 ((1 * 2 ^ depth_8.toNat) - 1)) ∧ (okF (m_right_o4 table_5 spans_6 depth_8) (m_right_b4 table_5 spans_6 depth_8) () (m_bad_integers 0 ((1 * 2 ^ depth_8.toNat) - 1))) ∧ (∀ f_25, f_25 = List.foldl (m_right_b4 table_5 spans_6 depth_8) () (m_bad_integers 0 ((1 * 2 ^ depth_8.toNat) - 1)) → (okF (m_right_o5 table_5 spans_6 depth_8) (m_right_b5 table_5 spans_6 depth_8) () ([U.non, U.bl true, U.bl false, U.str (Str.ofString ""), U.str (Str.ofString "1"), U.lst [U.int 1], U.tup [U.int 1], U.dic, U.int (-1), U.int (0 - (10 ^ 60))] : List U)) ∧ (∀ f_28, f_28 = List.foldl (m_right_b5 table_5 spans_6 depth_8) () ([U.non, U.bl true, U.bl false, U.str (Str.ofString ""), U.str (Str.ofString "1"), U.lst [U.int 1], U.tup [U.int 1], U.dic, U.int (-1), U.int (0 - (10 ^ 60))] : List U) → (m_told_ok 3 ([U.lst (List.map (fun y : Int × Int => U.tup [U.int y.1, U.int y.2]) spans_6)] : List U)) ∧ (m_told_ok 3 ([U.lst []] : List U)) ∧ (0 ≤ depth_8 ∧ depth_8 ≤ 1000000) ∧ (m_told_ok 4 ([U.tbl table_5, U.lst (List.map (fun y : Int × Int => U.tup [U.int y.1, U.int y.2]) spans_6), U.int depth_8, U.int ((1 * 2 ^ depth_8.toNat) - 1)] : List U)) ∧ (∀ good_29, good_29 = ([m_told 3 ([U.lst (List.map (fun y : Int × Int => U.tup [U.int y.1, U.int y.2]) spans_6)] : List U), m_told 3 ([U.lst []] : List U), m_told 4 ([U.tbl table_5, U.lst (List.map (fun y : Int × Int => U.tup [U.int y.1, U.int y.2]) spans_6), U.int depth_8, U.int ((1 * 2 ^ depth_8.toNat) - 1)] : List U)] : List Str) → (m_told_ok 5 ([U.tbl table_5, U.lst (List.map (fun y : Int × Int => U.tup [U.int y.1, U.int y.2]) spans_6), U.int 0, U.int 0, U.int (10 ^ 60)] : List U)) ∧ (good_29.length + ([m_told 5 ([U.tbl table_5, U.lst (List.map (fun y : Int × Int => U.tup [U.int y.1, U.int y.2]) spans_6), U.int 0, U.int 0, U.int (10 ^ 60)] : List U)] : List Str).length ≤ 16000000) ∧ ((0 : Int) ≤ (4 : Int) ∧ (4 : Int) ≤ (1000 : Int) ∧ ([(Str.ofString "fine")] : List Str).length ≤ 1000) ∧ (StrsOk (good_29 ++ ([m_told 5 ([U.tbl table_5, U.lst (List.map (fun y : Int × Int => U.tup [U.int y.1, U.int y.2]) spans_6), U.int 0, U.int 0, U.int (10 ^ 60)] : List U)] : List Str)) ∧ StrsOk ((List.replicate (Int.toNat (4 : Int)) ([(Str.ofString "fine")] : List Str)).flatten)) ∧ ((decide ((good_29 ++ ([m_told 5 ([U.tbl table_5, U.lst (List.map (fun y : Int × Int => U.tup [U.int y.1, U.int y.2]) spans_6), U.int 0, U.int 0, U.int (10 ^ 60)] : List U)] : List Str)) = ((List.replicate (Int.toNat (4 : Int)) ([(Str.ofString "fine")] : List Str)).flatten))) = true) ∧ (m_made_right_ok ((m_bad_spans bag_7 spans_6).2)) ∧ True)))))))))
def sp_right (K : PySem.W.Frag) (CT : Nat → Addr) : Sp := spB (ι := Bag) (fun d => bagR d) (fun d => []) (fun d => m_right_ok d) (fun d => bagR (m_right d).2) (fun d => eB ((m_right d).1))
abbrev s_right : Stmt := top 54
abbrev N_right : List Str := ["_law_bag_here", "_law_capacity", "_law_rate", "_law_shift", "_law_table", "_law_spans_here", "_law_depth", "_law_bad", "_law_told_here", "_law_due", "_law_good"]
theorem sc_right : FnScope N_right ["_law_bag_here"] (defScope s_right) := ⟨rfl, rfl, rfl, by decide +kernel, rfl, by decide +kernel, by decide +kernel⟩
section
variable {P : Program} {w : World} {K : PySem.W.Frag} {mg : Str → Option Value} {base : Heap} {CT : Nat → Addr}
theorem ok_right {f : Addr} {fd : FuncData} (F : Fun K "_law_right" "_law_right" s_right f fd) {a_three : Addr} {fd_three : FuncData} (F_three : Fun K "_law_three" "_law_three" s_three a_three fd_three) (G_three : FnG P w K mg base CX0 2 a_three fd_three ["_law_bag_here", "_law_most"] (sp_three K CT)) (j_three : mg "_law_three" = some (.ref a_three)) (b_three : Binds K fd_three ["_law_bag_here", "_law_most"] []) {a_Table___init__ : Addr} {fd_Table___init__ : FuncData} (F_Table___init__ : Fun K "__init__" "Table.__init__" s_Table___init__ a_Table___init__ fd_Table___init__) (G_Table___init__ : FnG P w K mg base CX0 3 a_Table___init__ fd_Table___init__ ["self", "capacity", "rate", "shift"] (sp_Table___init__ K CT)) (MT : Mk K (CT 18) a_Table___init__) (b_Table___init__ : Binds K fd_Table___init__ ["self", "capacity", "rate", "shift"] []) {a_spans : Addr} {fd_spans : FuncData} (F_spans : Fun K "_law_spans" "_law_spans" s_spans a_spans fd_spans) (G_spans : FnG P w K mg base CX0 2 a_spans fd_spans ["_law_bag_here", "_law_many", "_law_wide"] (sp_spans K CT)) (j_spans : mg "_law_spans" = some (.ref a_spans)) (b_spans : Binds K fd_spans ["_law_bag_here", "_law_many", "_law_wide"] []) {a_pick : Addr} {fd_pick : FuncData} (F_pick : Fun K "_law_pick" "_law_pick" s_pick a_pick fd_pick) (G_pick : FnG P w K mg base CX0 1 a_pick fd_pick ["_law_bag_here", "_law_many"] (sp_pick K CT)) (j_pick : mg "_law_pick" = some (.ref a_pick)) (b_pick : Binds K fd_pick ["_law_bag_here", "_law_many"] []) {a_bad_tables : Addr} {fd_bad_tables : FuncData} (F_bad_tables : Fun K "_law_bad_tables" "_law_bad_tables" s_bad_tables a_bad_tables fd_bad_tables) (G_bad_tables : FnG P w K mg base CX0 1 a_bad_tables fd_bad_tables [] (sp_bad_tables K CT)) (j_bad_tables : mg "_law_bad_tables" = some (.ref a_bad_tables)) (b_bad_tables : Binds K fd_bad_tables [] []) {a_told : Addr} {fd_told : FuncData} (F_told : Fun K "_law_told" "_law_told" s_told a_told fd_told) (G_told : FnG P w K mg base CX0 8 a_told fd_told ["_law_way", "_law_some"] (sp_told K CT)) (j_told : mg "_law_told" = some (.ref a_told)) (b_told : Binds K fd_told ["_law_way", "_law_some"] []) {a_bad_spans : Addr} {fd_bad_spans : FuncData} (F_bad_spans : Fun K "_law_bad_spans" "_law_bad_spans" s_bad_spans a_bad_spans fd_bad_spans) (G_bad_spans : FnG P w K mg base CX0 2 a_bad_spans fd_bad_spans ["_law_bag_here", "_law_spans_here"] (sp_bad_spans K CT)) (j_bad_spans : mg "_law_bad_spans" = some (.ref a_bad_spans)) (b_bad_spans : Binds K fd_bad_spans ["_law_bag_here", "_law_spans_here"] []) {a_bad_integers : Addr} {fd_bad_integers : FuncData} (F_bad_integers : Fun K "_law_bad_integers" "_law_bad_integers" s_bad_integers a_bad_integers fd_bad_integers) (G_bad_integers : FnG P w K mg base CX0 1 a_bad_integers fd_bad_integers ["_law_low", "_law_high"] (sp_bad_integers K CT)) (j_bad_integers : mg "_law_bad_integers" = some (.ref a_bad_integers)) (b_bad_integers : Binds K fd_bad_integers ["_law_low", "_law_high"] []) {a_made_right : Addr} {fd_made_right : FuncData} (F_made_right : Fun K "_law_made_right" "_law_made_right" s_made_right a_made_right fd_made_right) (G_made_right : FnG P w K mg base CX0 9 a_made_right fd_made_right ["_law_bag_here"] (sp_made_right K CT)) (j_made_right : mg "_law_made_right" = some (.ref a_made_right)) (b_made_right : Binds K fd_made_right ["_law_bag_here"] []) (TT : TblTxt K mg (CT 18)) : FnG P w K mg base CX0 10 f fd ["_law_bag_here"] (sp_right K CT) := by
  obtain ⟨clT, na_own_capacity, na_own_rate, na_own_shift, mgT, isT, xaT, xbT, xcT, xdT⟩ := TT
  refine Fun.okG F sc_right (fun vs H Q E h => ?_) (fun cdv A outer s H vs Q E hG hr h => ?_)
  · obtain ⟨d, F, p, o, ws, rfl, _, _, _, _, _, h, _⟩ := h
    exact congrArg (· + 1) h.len
  · have nd := sc_right.nd
    have hU := hr.units
    refine ⟨_, (pss_cons (ps_asg (pg_call G_three hG (hr.mono (by decide)) rfl j_three F_three.kp b_three .nil pass0 (pa_cons (pv 0) (pa_cons pe_int pa_nil))) (pg_tup rfl (pgs_cons (pg_name (i := 1) nd rfl (by first | exact .inl rfl | exact .inr rfl)) (pgs_cons (pg_name (i := 2) nd rfl (by first | exact .inl rfl | exact .inr rfl)) (pgs_cons (pg_name (i := 3) nd rfl (by first | exact .inl rfl | exact .inr rfl)) pgs_nil)))))
 (pss_cons (ps_par (i := 4) (j := 5) rfl nd rfl rfl (by decide) rfl rfl (pa_cons (pg_make MT G_Table___init__ hG (hr.mono (by decide)) rfl mgT b_Table___init__ .nil pass0 (pa_cons (pv 1) (pa_cons (pv 2) (pa_cons (pv 3) pa_nil)))) (pa_cons (pg_call G_spans hG (hr.mono (by decide)) rfl j_spans F_spans.kp b_spans .nil pass0 (pa_cons (pv 0) (pa_cons pe_int (pa_cons (pe_ix (ix_listK (K := K) rfl) (pe_lst (pa_cons pe_int (pa_cons (pe_op op_pow pe_int pe_int) pa_nil))) (pg_call G_pick hG (hr.mono (by decide)) rfl j_pick F_pick.kp b_pick .nil pass0 (pa_cons (pv 0) (pa_cons pe_int pa_nil))) (fun _ _ => rfl)) pa_nil)))) pa_nil)) (by rfl))
 (pss_cons (ps_set (i := 6) nd rfl (by first | exact .inl rfl | exact .inr rfl) (pg_call G_pick hG (hr.mono (by decide)) rfl j_pick F_pick.kp b_pick .nil pass0 (pa_cons (pv 0) (pa_cons pe_int pa_nil))))
 (pss_cons (ps_for PassesOwn.never rfl (pi_list (pg_call0 G_bad_tables hG (hr.mono (by decide)) rfl j_bad_tables F_bad_tables.kp b_bad_tables .nil pass0)) (pg_name (i := 7) nd rfl (by first | exact .inl rfl | exact .inr rfl)) (pss_cons (ps_set (i := 8) nd rfl (by first | exact .inl rfl | exact .inr rfl) (pe_lst (pa_cons (pg_call G_told hG (hr.mono (by decide)) rfl j_told F_told.kp b_told .nil pass0 (pa_cons pe_int (pa_cons (pe_lst (pa_cons (pv 7) (pa_cons (pv 5) (pa_cons pe_int (pa_cons pe_int pa_nil))))) pa_nil))) (pa_cons (pg_call G_told hG (hr.mono (by decide)) rfl j_told F_told.kp b_told .nil pass0 (pa_cons pe_int (pa_cons (pe_lst (pa_cons (pv 7) (pa_cons pe_non (pa_cons pe_non (pa_cons pe_non pa_nil))))) pa_nil))) pa_nil))))
 (pss_cons (ps_if (pt_cmpR (op_neDK (K := K) rfl hU) (pe_op op_cat (pv 8) (pe_lst (pa_cons (pg_call G_told hG (hr.mono (by decide)) rfl j_told F_told.kp b_told .nil pass0 (pa_cons pe_int (pa_cons (pe_lst (pa_cons (pv 7) (pa_cons pe_non (pa_cons pe_non (pa_cons pe_non (pa_cons pe_non pa_nil)))))) pa_nil))) pa_nil))) (pe_op op_rep (pe_lst (pa_cons pe_str pa_nil)) pe_int) (nomark _)) (pss_one ps_never) pss_nil)
 pss_nil)))
 (pss_cons (ps_for PassesOwn.never rfl (pi_list (pg_call G_bad_spans hG (hr.mono (by decide)) rfl j_bad_spans F_bad_spans.kp b_bad_spans .nil pass0 (pa_cons (pv 0) (pa_cons (pv 5) pa_nil)))) (pg_tup rfl (pgs_cons (pg_name (i := 7) nd rfl (by first | exact .inl rfl | exact .inr rfl)) (pgs_cons (pg_name (i := 9) nd rfl (by first | exact .inl rfl | exact .inr rfl)) pgs_nil))) (pss_cons (ps_set (i := 8) nd rfl (by first | exact .inl rfl | exact .inr rfl) (pe_lst (pa_cons (pg_call G_told hG (hr.mono (by decide)) rfl j_told F_told.kp b_told .nil pass0 (pa_cons pe_int (pa_cons (pe_lst (pa_cons (pv 7) pa_nil)) pa_nil))) (pa_cons (pg_call G_told hG (hr.mono (by decide)) rfl j_told F_told.kp b_told .nil pass0 (pa_cons pe_int (pa_cons (pe_lst (pa_cons (pv 4) (pa_cons (pv 7) (pa_cons pe_int (pa_cons pe_int pa_nil))))) pa_nil))) (pa_cons (pg_call G_told hG (hr.mono (by decide)) rfl j_told F_told.kp b_told .nil pass0 (pa_cons pe_int (pa_cons (pe_lst (pa_cons (pv 4) (pa_cons (pv 7) (pa_cons pe_non (pa_cons pe_non pa_nil))))) pa_nil))) pa_nil)))))
 (pss_cons (ps_if (pt_cmpR (op_neDK (K := K) rfl hU) (pe_op op_cat (pv 8) (pe_lst (pa_cons (pg_call G_told hG (hr.mono (by decide)) rfl j_told F_told.kp b_told .nil pass0 (pa_cons pe_int (pa_cons (pe_lst (pa_cons (pv 4) (pa_cons (pv 7) (pa_cons pe_non (pa_cons pe_int (pa_cons pe_int pa_nil)))))) pa_nil))) pa_nil))) (pe_op op_rep (pe_lst (pa_cons (pv 9) pa_nil)) pe_int) (nomark _)) (pss_one ps_never) pss_nil)
 pss_nil)))
 (pss_cons (ps_for PassesOwn.never rfl (pi_list (pg_call G_bad_integers hG (hr.mono (by decide)) rfl j_bad_integers F_bad_integers.kp b_bad_integers .nil pass0 (pa_cons pe_int (pa_cons pe_int pa_nil)))) (pg_name (i := 7) nd rfl (by first | exact .inl rfl | exact .inr rfl)) (pss_cons (ps_set (i := 8) nd rfl (by first | exact .inl rfl | exact .inr rfl) (pe_lst (pa_cons (pg_call G_told hG (hr.mono (by decide)) rfl j_told F_told.kp b_told .nil pass0 (pa_cons pe_int (pa_cons (pe_lst (pa_cons (pv 4) (pa_cons (pv 5) (pa_cons (pv 7) (pa_cons pe_non pa_nil))))) pa_nil))) (pa_cons (pg_call G_told hG (hr.mono (by decide)) rfl j_told F_told.kp b_told .nil pass0 (pa_cons pe_int (pa_cons (pe_lst (pa_cons (pv 4) (pa_cons (pv 5) (pa_cons (pv 7) (pa_cons pe_non (pa_cons pe_non pa_nil)))))) pa_nil))) pa_nil))))
 (pss_cons (ps_if (pt_cmpR (op_neDK (K := K) rfl hU) (pv 8) (pe_op op_rep (pe_lst (pa_cons pe_str pa_nil)) pe_int) (nomark _)) (pss_one ps_never) pss_nil)
 pss_nil)))
 (pss_cons (ps_for PassesOwn.never rfl (pi_list (pg_call G_bad_integers hG (hr.mono (by decide)) rfl j_bad_integers F_bad_integers.kp b_bad_integers .nil pass0 (pa_cons pe_int (pa_cons (pe_op op_sub (pe_op op_shl pe_int (pv 6)) pe_int) pa_nil)))) (pg_name (i := 7) nd rfl (by first | exact .inl rfl | exact .inr rfl)) (pss_cons (ps_set (i := 8) nd rfl (by first | exact .inl rfl | exact .inr rfl) (pe_lst (pa_cons (pg_call G_told hG (hr.mono (by decide)) rfl j_told F_told.kp b_told .nil pass0 (pa_cons pe_int (pa_cons (pe_lst (pa_cons (pv 4) (pa_cons (pv 5) (pa_cons (pv 6) (pa_cons (pv 7) pa_nil))))) pa_nil))) (pa_cons (pg_call G_told hG (hr.mono (by decide)) rfl j_told F_told.kp b_told .nil pass0 (pa_cons pe_int (pa_cons (pe_lst (pa_cons (pv 4) (pa_cons (pv 5) (pa_cons (pv 6) (pa_cons (pv 7) (pa_cons pe_int pa_nil)))))) pa_nil))) pa_nil))))
 (pss_cons (ps_if (pt_cmpR (op_neDK (K := K) rfl hU) (pe_op op_cat (pv 8) (pe_lst (pa_cons (pg_call G_told hG (hr.mono (by decide)) rfl j_told F_told.kp b_told .nil pass0 (pa_cons pe_int (pa_cons (pe_lst (pa_cons (pv 4) (pa_cons (pv 5) (pa_cons (pv 6) (pa_cons (pv 7) (pa_cons pe_non pa_nil)))))) pa_nil))) pa_nil))) (pe_op op_rep (pe_lst (pa_cons pe_str pa_nil)) pe_int) (nomark _)) (pss_one ps_never) pss_nil)
 pss_nil)))
 (pss_cons (ps_for PassesOwn.never rfl (pi_list (pe_lst (pa_cons pe_non (pa_cons pe_bl (pa_cons pe_bl (pa_cons pe_str (pa_cons pe_str (pa_cons (pe_lst (pa_cons pe_int pa_nil)) (pa_cons (pe_tup (pa_cons pe_int pa_nil)) (pa_cons pe_dnewK (pa_cons (pe_un un_neg pe_int) (pa_cons (pe_op op_sub pe_int (pe_op op_pow pe_int pe_int)) pa_nil)))))))))))) (pg_name (i := 7) nd rfl (by first | exact .inl rfl | exact .inr rfl)) (pss_cons (ps_if (pt_cmpR op_ne (pg_call G_told hG (hr.mono (by decide)) rfl j_told F_told.kp b_told .nil pass0 (pa_cons pe_int (pa_cons (pe_lst (pa_cons (pv 4) (pa_cons (pv 5) (pa_cons (pv 6) (pa_cons pe_int (pa_cons (pv 7) pa_nil)))))) pa_nil))) pe_str (nomark _)) (pss_one ps_never) pss_nil)
 pss_nil))
 (pss_cons (ps_set (i := 10) nd rfl (by first | exact .inl rfl | exact .inr rfl) (pe_lst (pa_cons (pg_call G_told hG (hr.mono (by decide)) rfl j_told F_told.kp b_told .nil pass0 (pa_cons pe_int (pa_cons (pe_lst (pa_cons (pv 5) pa_nil)) pa_nil))) (pa_cons (pg_call G_told hG (hr.mono (by decide)) rfl j_told F_told.kp b_told .nil pass0 (pa_cons pe_int (pa_cons (pe_lst (pa_cons (pe_lst pa_nil) pa_nil)) pa_nil))) (pa_cons (pg_call G_told hG (hr.mono (by decide)) rfl j_told F_told.kp b_told .nil pass0 (pa_cons pe_int (pa_cons (pe_lst (pa_cons (pv 4) (pa_cons (pv 5) (pa_cons (pv 6) (pa_cons (pe_op op_sub (pe_op op_shl pe_int (pv 6)) pe_int) pa_nil))))) pa_nil))) pa_nil)))))
 (pss_cons (ps_ret (pe_and (pe_cmpR (op_eqDK (K := K) rfl hU) (pe_op op_cat (pv 10) (pe_lst (pa_cons (pg_call G_told hG (hr.mono (by decide)) rfl j_told F_told.kp b_told .nil pass0 (pa_cons pe_int (pa_cons (pe_lst (pa_cons (pv 4) (pa_cons (pv 5) (pa_cons pe_int (pa_cons pe_int (pa_cons (pe_op op_pow pe_int pe_int) pa_nil)))))) pa_nil))) pa_nil))) (pe_op op_rep (pe_lst (pa_cons pe_str pa_nil)) pe_int) (nomark _)) (pe_one (pg_call G_made_right hG (hr.mono (by decide)) rfl j_made_right F_made_right.kp b_made_right .nil pass0 (pa_cons (pv 0) pa_nil)))))
 pss_nil)))))))))), ?_⟩
    refine def_B h (fun d => Nat.le_of_ble_eq_true rfl) (fun bag_1 p h => ?_)
    replace h : m_right_ok bag_1 := h
    unfold m_right_ok at h
    show SS _ [.ow (oLq (some p) (bagR bag_1)), .no, .no, .no, .no, .no, .no, .no, .no, .no, .no] (BP eB p (m_right bag_1))
    obtain ⟨g1, h⟩ := h
    refine ss_seq2 ((m_three bag_1 9).1) ((m_three bag_1 9).2) (fun t_2 bag_3 => [.ow (oLq (some p) (bagR bag_3)), .fz (eI t_2.1), .fz (eI t_2.2.1), .fz (eI t_2.2.2), .no, .no, .no, .no, .no, .no, .no]) (ss_asg (es_callB (bag_1, 9) 0 rfl (as_cons es_c as_nil) rfl g1) (gs_tup (gs_cons (gs_name 1) (gs_cons (gs_name 2) (gs_cons (gs_name 3) gs_nil)))) Wk.refl) (fun t_2 e_t_2 bag_3 e_bag_3 => ?_)
    replace h := h t_2 e_t_2 bag_3 e_bag_3
    obtain ⟨g2, g3, g4, g5, h⟩ := h
    refine ss_seq3 (⟨t_2.1, t_2.2.1, t_2.2.2⟩ : Tbl) ((m_spans ((m_pick bag_3 2).2) 11 (nth ([9, 10 ^ 28] : List Int) ((m_pick bag_3 2).1))).1) ((m_spans ((m_pick bag_3 2).2) 11 (nth ([9, 10 ^ 28] : List Int) ((m_pick bag_3 2).1))).2) (fun table_5 spans_6 bag_4 => [.ow (oLq (some p) (bagR bag_4)), .fz (eI t_2.1), .fz (eI t_2.2.1), .fz (eI t_2.2.2), .fz ((eTbl (CT 18)) table_5), .fz ((eLs (eP2 K eI eI)) spans_6), .no, .no, .no, .no, .no]) (ss_parM (am_fzo (es_make (t_2.1, t_2.2.1, t_2.2.2) (as_cons (es_var 1 rfl) (as_cons (es_var 2 rfl) (as_cons (es_var 3 rfl) as_nil))) g2) (am_fzo (es_callB ((m_pick bag_3 2).2, 11, nth ([9, 10 ^ 28] : List Int) ((m_pick bag_3 2).1)) 0 rfl (as_cons es_c (as_cons (es_ixL (e := eI) (es_frs eI ([9, 10 ^ 28] : List Int) (en_lst (as_cons es_c (as_cons (es_pow es_c es_c ⟨by decide, by decide, by decide⟩) as_nil)))) (es_callB (bag_3, 2) 0 rfl (as_cons es_c as_nil) rfl g3) g4) as_nil)) rfl g5) am_nil rfl) rfl) Wk.refl) (fun table_5 e_table_5 spans_6 e_spans_6 bag_4 e_bag_4 => ?_)
    replace h := h table_5 e_table_5 spans_6 e_spans_6 bag_4 e_bag_4
    obtain ⟨g6, h⟩ := h
    refine ss_seq2 ((m_pick bag_4 101).1) ((m_pick bag_4 101).2) (fun depth_8 bag_7 => [.ow (oLq (some p) (bagR bag_7)), .fz (eI t_2.1), .fz (eI t_2.2.1), .fz (eI t_2.2.2), .fz ((eTbl (CT 18)) table_5), .fz ((eLs (eP2 K eI eI)) spans_6), .fz (eI depth_8), .no, .no, .no, .no]) (ss_set (es_callB (bag_4, 101) 0 rfl (as_cons es_c as_nil) rfl g6) Wk.refl) (fun depth_8 e_depth_8 bag_7 e_bag_7 => ?_)
    replace h := h depth_8 e_depth_8 bag_7 e_bag_7
    obtain ⟨g7, g14, h⟩ := h
    refine ss_seq1 (List.foldl (m_right_b1 spans_6) () m_bad_tables) (fun f_12 => [.ow (oLq (some p) (bagR bag_7)), .fz (eI t_2.1), .fz (eI t_2.2.1), .fz (eI t_2.2.2), .fz ((eTbl (CT 18)) table_5), .fz ((eLs (eP2 K eI eI)) spans_6), .fz (eI depth_8), .no, .no, .no, .no]) (sf_S (e := (eU (CT 18))) (l := m_bad_tables) (fun s_9 => [.ow (oLq (some p) (bagR bag_7)), .fz (eI t_2.1), .fz (eI t_2.2.1), .fz (eI t_2.2.2), .fz ((eTbl (CT 18)) table_5), .fz ((eLs (eP2 K eI eI)) spans_6), .fz (eI depth_8), .no, .no, .no, .no]) (m_right_b1 spans_6) (m_right_o1 spans_6) () (is_list (e := (eU (CT 18))) (es_call () as_nil g7)) Wk.refl g14 (fun s_9 x_10 _ h => ⟨[.ow (oLq (some p) (bagR bag_7)), .fz (eI t_2.1), .fz (eI t_2.2.1), .fz (eI t_2.2.2), .fz ((eTbl (CT 18)) table_5), .fz ((eLs (eP2 K eI eI)) spans_6), .fz (eI depth_8), .fz ((eU (CT 18)) x_10), .no, .no, .no], _, gs_name 7, ?_⟩) (fun _ hw => hw)) (fun f_12 e_f_12 => ?_)
    · unfold m_right_o1 at h
      obtain ⟨g8, g9, h⟩ := h
      refine ss_seq1 ([m_told 4 ([x_10, U.lst (List.map (fun y : Int × Int => U.tup [U.int y.1, U.int y.2]) spans_6), U.int 0, U.int 0] : List U), m_told 4 ([x_10, U.non, U.non, U.non] : List U)] : List Str) (fun told_11 => [.ow (oLq (some p) (bagR bag_7)), .fz (eI t_2.1), .fz (eI t_2.2.1), .fz (eI t_2.2.2), .fz ((eTbl (CT 18)) table_5), .fz ((eLs (eP2 K eI eI)) spans_6), .fz (eI depth_8), .fz ((eU (CT 18)) x_10), .fz ((eLs eS) told_11), .no, .no]) (ss_set (es_frs eS ([m_told 4 ([x_10, U.lst (List.map (fun y : Int × Int => U.tup [U.int y.1, U.int y.2]) spans_6), U.int 0, U.int 0] : List U), m_told 4 ([x_10, U.non, U.non, U.non] : List U)] : List Str) (en_lst (as_cons (es_call (4, ([x_10, U.lst (List.map (fun y : Int × Int => U.tup [U.int y.1, U.int y.2]) spans_6), U.int 0, U.int 0] : List U)) (as_cons es_c (as_cons (es_frs (eU (CT 18)) ([x_10, U.lst (List.map (fun y : Int × Int => U.tup [U.int y.1, U.int y.2]) spans_6), U.int 0, U.int 0] : List U) (en_lst (rs := List.map (eU (CT 18)) [x_10, U.lst (List.map (fun y : Int × Int => U.tup [U.int y.1, U.int y.2]) spans_6), U.int 0, U.int 0]) (as_cons (es_var 7 rfl) (as_cons (es_toU2 (K := K) (C := (CT 18)) (e := (eLs (eP2 K eI eI))) (x := spans_6) (u := U.lst (List.map (fun y : Int × Int => U.tup [U.int y.1, U.int y.2]) spans_6)) (es_var 5 rfl) rfl) (as_cons (es_toU2 (K := K) (C := (CT 18)) (e := eI) (x := 0) (u := U.int 0) es_c rfl) (as_cons (es_toU2 (K := K) (C := (CT 18)) (e := eI) (x := 0) (u := U.int 0) es_c rfl) as_nil)))))) as_nil)) g8) (as_cons (es_call (4, ([x_10, U.non, U.non, U.non] : List U)) (as_cons es_c (as_cons (es_frs (eU (CT 18)) ([x_10, U.non, U.non, U.non] : List U) (en_lst (rs := List.map (eU (CT 18)) [x_10, U.non, U.non, U.non]) (as_cons (es_var 7 rfl) (as_cons (es_nonU es_c) (as_cons (es_nonU es_c) (as_cons (es_nonU es_c) as_nil)))))) as_nil)) g9) as_nil)))) Wk.refl) (fun told_11 e_told_11 => ?_)
      replace h := h told_11 e_told_11
      obtain ⟨g10, g11, g12, g13, h⟩ := h
      obtain ⟨hn, h⟩ := h
      refine ss_ifL (et_test (es_neLS (K := K) (es_frs eS (told_11 ++ ([m_told 5 ([x_10, U.non, U.non, U.non, U.non] : List U)] : List Str)) (en_cat (es_var 8 rfl) (es_frs eS ([m_told 5 ([x_10, U.non, U.non, U.non, U.non] : List U)] : List Str) (en_lst (as_cons (es_call (5, ([x_10, U.non, U.non, U.non, U.non] : List U)) (as_cons es_c (as_cons (es_frs (eU (CT 18)) ([x_10, U.non, U.non, U.non, U.non] : List U) (en_lst (rs := List.map (eU (CT 18)) [x_10, U.non, U.non, U.non, U.non]) (as_cons (es_var 7 rfl) (as_cons (es_nonU es_c) (as_cons (es_nonU es_c) (as_cons (es_nonU es_c) (as_cons (es_nonU es_c) as_nil))))))) as_nil)) g10) as_nil))) g11)) (es_frs eS ((List.replicate (Int.toNat (3 : Int)) ([(Str.ofString "InvalidTable")] : List Str)).flatten) (en_rep (e := eS) (es_frs eS ([(Str.ofString "InvalidTable")] : List Str) (en_lst (rs := List.map eS [(Str.ofString "InvalidTable")]) (as_cons es_c as_nil))) es_c g12)) g13)) (fun hc => absurd (hc.symm.trans hn) (by decide)) (fun _ => ss_nxq ?_)
      replace e_told_11 := Eq.symm e_told_11; subst e_told_11
      exact ss_nx ⟨.inr rfl, ⟨.inr rfl, ⟨.inr rfl, ⟨.inr rfl, ⟨.inr rfl, ⟨.inr rfl, ⟨.inr rfl, ⟨.inl ⟨rfl, rfl⟩, ⟨.inl ⟨rfl, rfl⟩, ⟨.inr rfl, ⟨.inr rfl, trivial⟩⟩⟩⟩⟩⟩⟩⟩⟩⟩⟩
    replace h := h f_12 e_f_12
    obtain ⟨g15, g23, h⟩ := h
    refine ss_seq1 (List.foldl (m_right_b2 table_5) () ((m_bad_spans bag_7 spans_6).1)) (fun f_17 => [.ow (oLq (some p) (bagR ((m_bad_spans bag_7 spans_6).2))), .fz (eI t_2.1), .fz (eI t_2.2.1), .fz (eI t_2.2.2), .fz ((eTbl (CT 18)) table_5), .fz ((eLs (eP2 K eI eI)) spans_6), .fz (eI depth_8), .no, .no, .no, .no]) (sf_S (e := (eP2 K (eU (CT 18)) eS)) (l := ((m_bad_spans bag_7 spans_6).1)) (fun s_14 => [.ow (oLq (some p) (bagR ((m_bad_spans bag_7 spans_6).2))), .fz (eI t_2.1), .fz (eI t_2.2.1), .fz (eI t_2.2.2), .fz ((eTbl (CT 18)) table_5), .fz ((eLs (eP2 K eI eI)) spans_6), .fz (eI depth_8), .no, .no, .no, .no]) (m_right_b2 table_5) (m_right_o2 table_5) () (is_list (e := (eP2 K (eU (CT 18)) eS)) (es_callB (bag_7, spans_6) 0 rfl (as_cons (es_var 5 rfl) as_nil) rfl g15)) Wk.refl g23 (fun s_14 x_15 _ h => ⟨[.ow (oLq (some p) (bagR ((m_bad_spans bag_7 spans_6).2))), .fz (eI t_2.1), .fz (eI t_2.2.1), .fz (eI t_2.2.2), .fz ((eTbl (CT 18)) table_5), .fz ((eLs (eP2 K eI eI)) spans_6), .fz (eI depth_8), .fz ((eU (CT 18)) x_15.1), .no, .fz (eS x_15.2), .no], _, gs_tup (gs_cons (gs_name 7) (gs_cons (gs_name 9) gs_nil)), ?_⟩) (fun _ hw => hw)) (fun f_17 e_f_17 => ?_)
    · unfold m_right_o2 at h
      obtain ⟨g16, g17, g18, h⟩ := h
      refine ss_seq1 ([m_told 3 ([x_15.1] : List U), m_told 4 ([U.tbl table_5, x_15.1, U.int 0, U.int 0] : List U), m_told 4 ([U.tbl table_5, x_15.1, U.non, U.non] : List U)] : List Str) (fun told_16 => [.ow (oLq (some p) (bagR ((m_bad_spans bag_7 spans_6).2))), .fz (eI t_2.1), .fz (eI t_2.2.1), .fz (eI t_2.2.2), .fz ((eTbl (CT 18)) table_5), .fz ((eLs (eP2 K eI eI)) spans_6), .fz (eI depth_8), .fz ((eU (CT 18)) x_15.1), .fz ((eLs eS) told_16), .fz (eS x_15.2), .no]) (ss_set (es_frs eS ([m_told 3 ([x_15.1] : List U), m_told 4 ([U.tbl table_5, x_15.1, U.int 0, U.int 0] : List U), m_told 4 ([U.tbl table_5, x_15.1, U.non, U.non] : List U)] : List Str) (en_lst (as_cons (es_call (3, ([x_15.1] : List U)) (as_cons es_c (as_cons (es_frs (eU (CT 18)) ([x_15.1] : List U) (en_lst (rs := List.map (eU (CT 18)) [x_15.1]) (as_cons (es_var 7 rfl) as_nil))) as_nil)) g16) (as_cons (es_call (4, ([U.tbl table_5, x_15.1, U.int 0, U.int 0] : List U)) (as_cons es_c (as_cons (es_frs (eU (CT 18)) ([U.tbl table_5, x_15.1, U.int 0, U.int 0] : List U) (en_lst (rs := List.map (eU (CT 18)) [U.tbl table_5, x_15.1, U.int 0, U.int 0]) (as_cons (es_toU2 (K := K) (C := (CT 18)) (e := (eTbl (CT 18))) (x := table_5) (u := U.tbl table_5) (es_var 4 rfl) rfl) (as_cons (es_var 7 rfl) (as_cons (es_toU2 (K := K) (C := (CT 18)) (e := eI) (x := 0) (u := U.int 0) es_c rfl) (as_cons (es_toU2 (K := K) (C := (CT 18)) (e := eI) (x := 0) (u := U.int 0) es_c rfl) as_nil)))))) as_nil)) g17) (as_cons (es_call (4, ([U.tbl table_5, x_15.1, U.non, U.non] : List U)) (as_cons es_c (as_cons (es_frs (eU (CT 18)) ([U.tbl table_5, x_15.1, U.non, U.non] : List U) (en_lst (rs := List.map (eU (CT 18)) [U.tbl table_5, x_15.1, U.non, U.non]) (as_cons (es_toU2 (K := K) (C := (CT 18)) (e := (eTbl (CT 18))) (x := table_5) (u := U.tbl table_5) (es_var 4 rfl) rfl) (as_cons (es_var 7 rfl) (as_cons (es_nonU es_c) (as_cons (es_nonU es_c) as_nil)))))) as_nil)) g18) as_nil))))) Wk.refl) (fun told_16 e_told_16 => ?_)
      replace h := h told_16 e_told_16
      obtain ⟨g19, g20, g21, g22, h⟩ := h
      obtain ⟨hn, h⟩ := h
      refine ss_ifL (et_test (es_neLS (K := K) (es_frs eS (told_16 ++ ([m_told 5 ([U.tbl table_5, x_15.1, U.non, U.int 0, U.int 0] : List U)] : List Str)) (en_cat (es_var 8 rfl) (es_frs eS ([m_told 5 ([U.tbl table_5, x_15.1, U.non, U.int 0, U.int 0] : List U)] : List Str) (en_lst (as_cons (es_call (5, ([U.tbl table_5, x_15.1, U.non, U.int 0, U.int 0] : List U)) (as_cons es_c (as_cons (es_frs (eU (CT 18)) ([U.tbl table_5, x_15.1, U.non, U.int 0, U.int 0] : List U) (en_lst (rs := List.map (eU (CT 18)) [U.tbl table_5, x_15.1, U.non, U.int 0, U.int 0]) (as_cons (es_toU2 (K := K) (C := (CT 18)) (e := (eTbl (CT 18))) (x := table_5) (u := U.tbl table_5) (es_var 4 rfl) rfl) (as_cons (es_var 7 rfl) (as_cons (es_nonU es_c) (as_cons (es_toU2 (K := K) (C := (CT 18)) (e := eI) (x := 0) (u := U.int 0) es_c rfl) (as_cons (es_toU2 (K := K) (C := (CT 18)) (e := eI) (x := 0) (u := U.int 0) es_c rfl) as_nil))))))) as_nil)) g19) as_nil))) g20)) (es_frs eS ((List.replicate (Int.toNat (4 : Int)) ([x_15.2] : List Str)).flatten) (en_rep (e := eS) (es_frs eS ([x_15.2] : List Str) (en_lst (rs := List.map eS [x_15.2]) (as_cons (es_var 9 rfl) as_nil))) es_c g21)) g22)) (fun hc => absurd (hc.symm.trans hn) (by decide)) (fun _ => ss_nxq ?_)
      replace e_told_16 := Eq.symm e_told_16; subst e_told_16
      exact ss_nx ⟨.inr rfl, ⟨.inr rfl, ⟨.inr rfl, ⟨.inr rfl, ⟨.inr rfl, ⟨.inr rfl, ⟨.inr rfl, ⟨.inl ⟨rfl, rfl⟩, ⟨.inl ⟨rfl, rfl⟩, ⟨.inl ⟨rfl, rfl⟩, ⟨.inr rfl, trivial⟩⟩⟩⟩⟩⟩⟩⟩⟩⟩⟩
    replace h := h f_17 e_f_17
    obtain ⟨g24, g29, h⟩ := h
    refine ss_seq1 (List.foldl (m_right_b3 table_5 spans_6) () (m_bad_integers 0 100)) (fun f_21 => [.ow (oLq (some p) (bagR ((m_bad_spans bag_7 spans_6).2))), .fz (eI t_2.1), .fz (eI t_2.2.1), .fz (eI t_2.2.2), .fz ((eTbl (CT 18)) table_5), .fz ((eLs (eP2 K eI eI)) spans_6), .fz (eI depth_8), .no, .no, .no, .no]) (sf_S (e := (eU (CT 18))) (l := (m_bad_integers 0 100)) (fun s_18 => [.ow (oLq (some p) (bagR ((m_bad_spans bag_7 spans_6).2))), .fz (eI t_2.1), .fz (eI t_2.2.1), .fz (eI t_2.2.2), .fz ((eTbl (CT 18)) table_5), .fz ((eLs (eP2 K eI eI)) spans_6), .fz (eI depth_8), .no, .no, .no, .no]) (m_right_b3 table_5 spans_6) (m_right_o3 table_5 spans_6) () (is_list (e := (eU (CT 18))) (es_call (0, 100) (as_cons es_c (as_cons es_c as_nil)) g24)) Wk.refl g29 (fun s_18 x_19 _ h => ⟨[.ow (oLq (some p) (bagR ((m_bad_spans bag_7 spans_6).2))), .fz (eI t_2.1), .fz (eI t_2.2.1), .fz (eI t_2.2.2), .fz ((eTbl (CT 18)) table_5), .fz ((eLs (eP2 K eI eI)) spans_6), .fz (eI depth_8), .fz ((eU (CT 18)) x_19), .no, .no, .no], _, gs_name 7, ?_⟩) (fun _ hw => hw)) (fun f_21 e_f_21 => ?_)
    · unfold m_right_o3 at h
      obtain ⟨g25, g26, h⟩ := h
      refine ss_seq1 ([m_told 4 ([U.tbl table_5, U.lst (List.map (fun y : Int × Int => U.tup [U.int y.1, U.int y.2]) spans_6), x_19, U.non] : List U), m_told 5 ([U.tbl table_5, U.lst (List.map (fun y : Int × Int => U.tup [U.int y.1, U.int y.2]) spans_6), x_19, U.non, U.non] : List U)] : List Str) (fun told_20 => [.ow (oLq (some p) (bagR ((m_bad_spans bag_7 spans_6).2))), .fz (eI t_2.1), .fz (eI t_2.2.1), .fz (eI t_2.2.2), .fz ((eTbl (CT 18)) table_5), .fz ((eLs (eP2 K eI eI)) spans_6), .fz (eI depth_8), .fz ((eU (CT 18)) x_19), .fz ((eLs eS) told_20), .no, .no]) (ss_set (es_frs eS ([m_told 4 ([U.tbl table_5, U.lst (List.map (fun y : Int × Int => U.tup [U.int y.1, U.int y.2]) spans_6), x_19, U.non] : List U), m_told 5 ([U.tbl table_5, U.lst (List.map (fun y : Int × Int => U.tup [U.int y.1, U.int y.2]) spans_6), x_19, U.non, U.non] : List U)] : List Str) (en_lst (as_cons (es_call (4, ([U.tbl table_5, U.lst (List.map (fun y : Int × Int => U.tup [U.int y.1, U.int y.2]) spans_6), x_19, U.non] : List U)) (as_cons es_c (as_cons (es_frs (eU (CT 18)) ([U.tbl table_5, U.lst (List.map (fun y : Int × Int => U.tup [U.int y.1, U.int y.2]) spans_6), x_19, U.non] : List U) (en_lst (rs := List.map (eU (CT 18)) [U.tbl table_5, U.lst (List.map (fun y : Int × Int => U.tup [U.int y.1, U.int y.2]) spans_6), x_19, U.non]) (as_cons (es_toU2 (K := K) (C := (CT 18)) (e := (eTbl (CT 18))) (x := table_5) (u := U.tbl table_5) (es_var 4 rfl) rfl) (as_cons (es_toU2 (K := K) (C := (CT 18)) (e := (eLs (eP2 K eI eI))) (x := spans_6) (u := U.lst (List.map (fun y : Int × Int => U.tup [U.int y.1, U.int y.2]) spans_6)) (es_var 5 rfl) rfl) (as_cons (es_var 7 rfl) (as_cons (es_nonU es_c) as_nil)))))) as_nil)) g25) (as_cons (es_call (5, ([U.tbl table_5, U.lst (List.map (fun y : Int × Int => U.tup [U.int y.1, U.int y.2]) spans_6), x_19, U.non, U.non] : List U)) (as_cons es_c (as_cons (es_frs (eU (CT 18)) ([U.tbl table_5, U.lst (List.map (fun y : Int × Int => U.tup [U.int y.1, U.int y.2]) spans_6), x_19, U.non, U.non] : List U) (en_lst (rs := List.map (eU (CT 18)) [U.tbl table_5, U.lst (List.map (fun y : Int × Int => U.tup [U.int y.1, U.int y.2]) spans_6), x_19, U.non, U.non]) (as_cons (es_toU2 (K := K) (C := (CT 18)) (e := (eTbl (CT 18))) (x := table_5) (u := U.tbl table_5) (es_var 4 rfl) rfl) (as_cons (es_toU2 (K := K) (C := (CT 18)) (e := (eLs (eP2 K eI eI))) (x := spans_6) (u := U.lst (List.map (fun y : Int × Int => U.tup [U.int y.1, U.int y.2]) spans_6)) (es_var 5 rfl) rfl) (as_cons (es_var 7 rfl) (as_cons (es_nonU es_c) (as_cons (es_nonU es_c) as_nil))))))) as_nil)) g26) as_nil)))) Wk.refl) (fun told_20 e_told_20 => ?_)
      replace h := h told_20 e_told_20
      obtain ⟨g27, g28, h⟩ := h
      obtain ⟨hn, h⟩ := h
      refine ss_ifL (et_test (es_neLS (K := K) (es_var 8 rfl) (es_frs eS ((List.replicate (Int.toNat (2 : Int)) ([(Str.ofString "InvalidDepth")] : List Str)).flatten) (en_rep (e := eS) (es_frs eS ([(Str.ofString "InvalidDepth")] : List Str) (en_lst (rs := List.map eS [(Str.ofString "InvalidDepth")]) (as_cons es_c as_nil))) es_c g27)) g28)) (fun hc => absurd (hc.symm.trans hn) (by decide)) (fun _ => ss_nxq ?_)
      replace e_told_20 := Eq.symm e_told_20; subst e_told_20
      exact ss_nx ⟨.inr rfl, ⟨.inr rfl, ⟨.inr rfl, ⟨.inr rfl, ⟨.inr rfl, ⟨.inr rfl, ⟨.inr rfl, ⟨.inl ⟨rfl, rfl⟩, ⟨.inl ⟨rfl, rfl⟩, ⟨.inr rfl, ⟨.inr rfl, trivial⟩⟩⟩⟩⟩⟩⟩⟩⟩⟩⟩
    replace h := h f_21 e_f_21
    obtain ⟨g30, g31, g38, h⟩ := h
    refine ss_seq1 (List.foldl (m_right_b4 table_5 spans_6 depth_8) () (m_bad_integers 0 ((1 * 2 ^ depth_8.toNat) - 1))) (fun f_25 => [.ow (oLq (some p) (bagR ((m_bad_spans bag_7 spans_6).2))), .fz (eI t_2.1), .fz (eI t_2.2.1), .fz (eI t_2.2.2), .fz ((eTbl (CT 18)) table_5), .fz ((eLs (eP2 K eI eI)) spans_6), .fz (eI depth_8), .no, .no, .no, .no]) (sf_S (e := (eU (CT 18))) (l := (m_bad_integers 0 ((1 * 2 ^ depth_8.toNat) - 1))) (fun s_22 => [.ow (oLq (some p) (bagR ((m_bad_spans bag_7 spans_6).2))), .fz (eI t_2.1), .fz (eI t_2.2.1), .fz (eI t_2.2.2), .fz ((eTbl (CT 18)) table_5), .fz ((eLs (eP2 K eI eI)) spans_6), .fz (eI depth_8), .no, .no, .no, .no]) (m_right_b4 table_5 spans_6 depth_8) (m_right_o4 table_5 spans_6 depth_8) () (is_list (e := (eU (CT 18))) (es_call (0, (1 * 2 ^ depth_8.toNat) - 1) (as_cons es_c (as_cons (es_sub (es_shlL (i := 1) es_c (es_var 6 rfl) g30 (by decide)) es_c) as_nil)) g31)) Wk.refl g38 (fun s_22 x_23 _ h => ⟨[.ow (oLq (some p) (bagR ((m_bad_spans bag_7 spans_6).2))), .fz (eI t_2.1), .fz (eI t_2.2.1), .fz (eI t_2.2.2), .fz ((eTbl (CT 18)) table_5), .fz ((eLs (eP2 K eI eI)) spans_6), .fz (eI depth_8), .fz ((eU (CT 18)) x_23), .no, .no, .no], _, gs_name 7, ?_⟩) (fun _ hw => hw)) (fun f_25 e_f_25 => ?_)
    · unfold m_right_o4 at h
      obtain ⟨g32, g33, h⟩ := h
      refine ss_seq1 ([m_told 4 ([U.tbl table_5, U.lst (List.map (fun y : Int × Int => U.tup [U.int y.1, U.int y.2]) spans_6), U.int depth_8, x_23] : List U), m_told 5 ([U.tbl table_5, U.lst (List.map (fun y : Int × Int => U.tup [U.int y.1, U.int y.2]) spans_6), U.int depth_8, x_23, U.int 0] : List U)] : List Str) (fun told_24 => [.ow (oLq (some p) (bagR ((m_bad_spans bag_7 spans_6).2))), .fz (eI t_2.1), .fz (eI t_2.2.1), .fz (eI t_2.2.2), .fz ((eTbl (CT 18)) table_5), .fz ((eLs (eP2 K eI eI)) spans_6), .fz (eI depth_8), .fz ((eU (CT 18)) x_23), .fz ((eLs eS) told_24), .no, .no]) (ss_set (es_frs eS ([m_told 4 ([U.tbl table_5, U.lst (List.map (fun y : Int × Int => U.tup [U.int y.1, U.int y.2]) spans_6), U.int depth_8, x_23] : List U), m_told 5 ([U.tbl table_5, U.lst (List.map (fun y : Int × Int => U.tup [U.int y.1, U.int y.2]) spans_6), U.int depth_8, x_23, U.int 0] : List U)] : List Str) (en_lst (as_cons (es_call (4, ([U.tbl table_5, U.lst (List.map (fun y : Int × Int => U.tup [U.int y.1, U.int y.2]) spans_6), U.int depth_8, x_23] : List U)) (as_cons es_c (as_cons (es_frs (eU (CT 18)) ([U.tbl table_5, U.lst (List.map (fun y : Int × Int => U.tup [U.int y.1, U.int y.2]) spans_6), U.int depth_8, x_23] : List U) (en_lst (rs := List.map (eU (CT 18)) [U.tbl table_5, U.lst (List.map (fun y : Int × Int => U.tup [U.int y.1, U.int y.2]) spans_6), U.int depth_8, x_23]) (as_cons (es_toU2 (K := K) (C := (CT 18)) (e := (eTbl (CT 18))) (x := table_5) (u := U.tbl table_5) (es_var 4 rfl) rfl) (as_cons (es_toU2 (K := K) (C := (CT 18)) (e := (eLs (eP2 K eI eI))) (x := spans_6) (u := U.lst (List.map (fun y : Int × Int => U.tup [U.int y.1, U.int y.2]) spans_6)) (es_var 5 rfl) rfl) (as_cons (es_toU2 (K := K) (C := (CT 18)) (e := eI) (x := depth_8) (u := U.int depth_8) (es_var 6 rfl) rfl) (as_cons (es_var 7 rfl) as_nil)))))) as_nil)) g32) (as_cons (es_call (5, ([U.tbl table_5, U.lst (List.map (fun y : Int × Int => U.tup [U.int y.1, U.int y.2]) spans_6), U.int depth_8, x_23, U.int 0] : List U)) (as_cons es_c (as_cons (es_frs (eU (CT 18)) ([U.tbl table_5, U.lst (List.map (fun y : Int × Int => U.tup [U.int y.1, U.int y.2]) spans_6), U.int depth_8, x_23, U.int 0] : List U) (en_lst (rs := List.map (eU (CT 18)) [U.tbl table_5, U.lst (List.map (fun y : Int × Int => U.tup [U.int y.1, U.int y.2]) spans_6), U.int depth_8, x_23, U.int 0]) (as_cons (es_toU2 (K := K) (C := (CT 18)) (e := (eTbl (CT 18))) (x := table_5) (u := U.tbl table_5) (es_var 4 rfl) rfl) (as_cons (es_toU2 (K := K) (C := (CT 18)) (e := (eLs (eP2 K eI eI))) (x := spans_6) (u := U.lst (List.map (fun y : Int × Int => U.tup [U.int y.1, U.int y.2]) spans_6)) (es_var 5 rfl) rfl) (as_cons (es_toU2 (K := K) (C := (CT 18)) (e := eI) (x := depth_8) (u := U.int depth_8) (es_var 6 rfl) rfl) (as_cons (es_var 7 rfl) (as_cons (es_toU2 (K := K) (C := (CT 18)) (e := eI) (x := 0) (u := U.int 0) es_c rfl) as_nil))))))) as_nil)) g33) as_nil)))) Wk.refl) (fun told_24 e_told_24 => ?_)
      replace h := h told_24 e_told_24
      obtain ⟨g34, g35, g36, g37, h⟩ := h
      obtain ⟨hn, h⟩ := h
      refine ss_ifL (et_test (es_neLS (K := K) (es_frs eS (told_24 ++ ([m_told 5 ([U.tbl table_5, U.lst (List.map (fun y : Int × Int => U.tup [U.int y.1, U.int y.2]) spans_6), U.int depth_8, x_23, U.non] : List U)] : List Str)) (en_cat (es_var 8 rfl) (es_frs eS ([m_told 5 ([U.tbl table_5, U.lst (List.map (fun y : Int × Int => U.tup [U.int y.1, U.int y.2]) spans_6), U.int depth_8, x_23, U.non] : List U)] : List Str) (en_lst (as_cons (es_call (5, ([U.tbl table_5, U.lst (List.map (fun y : Int × Int => U.tup [U.int y.1, U.int y.2]) spans_6), U.int depth_8, x_23, U.non] : List U)) (as_cons es_c (as_cons (es_frs (eU (CT 18)) ([U.tbl table_5, U.lst (List.map (fun y : Int × Int => U.tup [U.int y.1, U.int y.2]) spans_6), U.int depth_8, x_23, U.non] : List U) (en_lst (rs := List.map (eU (CT 18)) [U.tbl table_5, U.lst (List.map (fun y : Int × Int => U.tup [U.int y.1, U.int y.2]) spans_6), U.int depth_8, x_23, U.non]) (as_cons (es_toU2 (K := K) (C := (CT 18)) (e := (eTbl (CT 18))) (x := table_5) (u := U.tbl table_5) (es_var 4 rfl) rfl) (as_cons (es_toU2 (K := K) (C := (CT 18)) (e := (eLs (eP2 K eI eI))) (x := spans_6) (u := U.lst (List.map (fun y : Int × Int => U.tup [U.int y.1, U.int y.2]) spans_6)) (es_var 5 rfl) rfl) (as_cons (es_toU2 (K := K) (C := (CT 18)) (e := eI) (x := depth_8) (u := U.int depth_8) (es_var 6 rfl) rfl) (as_cons (es_var 7 rfl) (as_cons (es_nonU es_c) as_nil))))))) as_nil)) g34) as_nil))) g35)) (es_frs eS ((List.replicate (Int.toNat (3 : Int)) ([(Str.ofString "InvalidTail")] : List Str)).flatten) (en_rep (e := eS) (es_frs eS ([(Str.ofString "InvalidTail")] : List Str) (en_lst (rs := List.map eS [(Str.ofString "InvalidTail")]) (as_cons es_c as_nil))) es_c g36)) g37)) (fun hc => absurd (hc.symm.trans hn) (by decide)) (fun _ => ss_nxq ?_)
      replace e_told_24 := Eq.symm e_told_24; subst e_told_24
      exact ss_nx ⟨.inr rfl, ⟨.inr rfl, ⟨.inr rfl, ⟨.inr rfl, ⟨.inr rfl, ⟨.inr rfl, ⟨.inr rfl, ⟨.inl ⟨rfl, rfl⟩, ⟨.inl ⟨rfl, rfl⟩, ⟨.inr rfl, ⟨.inr rfl, trivial⟩⟩⟩⟩⟩⟩⟩⟩⟩⟩⟩
    replace h := h f_25 e_f_25
    obtain ⟨g40, h⟩ := h
    refine ss_seq1 (List.foldl (m_right_b5 table_5 spans_6 depth_8) () ([U.non, U.bl true, U.bl false, U.str (Str.ofString ""), U.str (Str.ofString "1"), U.lst [U.int 1], U.tup [U.int 1], U.dic, U.int (-1), U.int (0 - (10 ^ 60))] : List U)) (fun f_28 => [.ow (oLq (some p) (bagR ((m_bad_spans bag_7 spans_6).2))), .fz (eI t_2.1), .fz (eI t_2.2.1), .fz (eI t_2.2.2), .fz ((eTbl (CT 18)) table_5), .fz ((eLs (eP2 K eI eI)) spans_6), .fz (eI depth_8), .no, .no, .no, .no]) (sf_S (e := (eU (CT 18))) (l := ([U.non, U.bl true, U.bl false, U.str (Str.ofString ""), U.str (Str.ofString "1"), U.lst [U.int 1], U.tup [U.int 1], U.dic, U.int (-1), U.int (0 - (10 ^ 60))] : List U)) (fun s_26 => [.ow (oLq (some p) (bagR ((m_bad_spans bag_7 spans_6).2))), .fz (eI t_2.1), .fz (eI t_2.2.1), .fz (eI t_2.2.2), .fz ((eTbl (CT 18)) table_5), .fz ((eLs (eP2 K eI eI)) spans_6), .fz (eI depth_8), .no, .no, .no, .no]) (m_right_b5 table_5 spans_6 depth_8) (m_right_o5 table_5 spans_6 depth_8) () (is_list (e := (eU (CT 18))) (es_frs (eU (CT 18)) ([U.non, U.bl true, U.bl false, U.str (Str.ofString ""), U.str (Str.ofString "1"), U.lst [U.int 1], U.tup [U.int 1], U.dic, U.int (-1), U.int (0 - (10 ^ 60))] : List U) (en_lst (rs := List.map (eU (CT 18)) [U.non, U.bl true, U.bl false, U.str (Str.ofString ""), U.str (Str.ofString "1"), U.lst [U.int 1], U.tup [U.int 1], U.dic, U.int (-1), U.int (0 - (10 ^ 60))]) (as_cons (es_nonU es_c) (as_cons (es_toU2 (K := K) (C := (CT 18)) (e := eB) (x := true) (u := U.bl true) es_c rfl) (as_cons (es_toU2 (K := K) (C := (CT 18)) (e := eB) (x := false) (u := U.bl false) es_c rfl) (as_cons (es_toU2 (K := K) (C := (CT 18)) (e := eS) (x := (Str.ofString "")) (u := U.str (Str.ofString "")) es_c rfl) (as_cons (es_toU2 (K := K) (C := (CT 18)) (e := eS) (x := (Str.ofString "1")) (u := U.str (Str.ofString "1")) es_c rfl) (as_cons (es_toU2 (K := K) (C := (CT 18)) (e := (eLs (eU (CT 18)))) (x := [U.int 1]) (u := U.lst [U.int 1]) (es_frs (eU (CT 18)) [U.int 1] (en_lst (as_cons (es_toU2 (K := K) (C := (CT 18)) (e := eI) (x := 1) (u := U.int 1) es_c rfl) as_nil))) (congrArg U.lst (List.map_id _))) (as_cons (es_tupU (K := K) (l := [U.int 1]) (es_tup (K := K) (as_cons (es_toU2 (K := K) (C := (CT 18)) (e := eI) (x := 1) (u := U.int 1) es_c rfl) as_nil))) (as_cons (es_dicU es_dnew) (as_cons (es_toU2 (K := K) (C := (CT 18)) (e := eI) (x := (-1)) (u := U.int (-1)) (es_neg es_c) rfl) (as_cons (es_toU2 (K := K) (C := (CT 18)) (e := eI) (x := (0 - (10 ^ 60))) (u := U.int (0 - (10 ^ 60))) (es_sub es_c (es_pow es_c es_c ⟨by decide, by decide, by decide⟩)) rfl) as_nil))))))))))))) Wk.refl g40 (fun s_26 x_27 _ h => ⟨[.ow (oLq (some p) (bagR ((m_bad_spans bag_7 spans_6).2))), .fz (eI t_2.1), .fz (eI t_2.2.1), .fz (eI t_2.2.2), .fz ((eTbl (CT 18)) table_5), .fz ((eLs (eP2 K eI eI)) spans_6), .fz (eI depth_8), .fz ((eU (CT 18)) x_27), .no, .no, .no], _, gs_name 7, ?_⟩) (fun _ hw => hw)) (fun f_28 e_f_28 => ?_)
    · unfold m_right_o5 at h
      obtain ⟨g39, h⟩ := h
      obtain ⟨hn, h⟩ := h
      refine ss_ifL (et_cmp (es_call (5, ([U.tbl table_5, U.lst (List.map (fun y : Int × Int => U.tup [U.int y.1, U.int y.2]) spans_6), U.int depth_8, U.int 0, x_27] : List U)) (as_cons es_c (as_cons (es_frs (eU (CT 18)) ([U.tbl table_5, U.lst (List.map (fun y : Int × Int => U.tup [U.int y.1, U.int y.2]) spans_6), U.int depth_8, U.int 0, x_27] : List U) (en_lst (rs := List.map (eU (CT 18)) [U.tbl table_5, U.lst (List.map (fun y : Int × Int => U.tup [U.int y.1, U.int y.2]) spans_6), U.int depth_8, U.int 0, x_27]) (as_cons (es_toU2 (K := K) (C := (CT 18)) (e := (eTbl (CT 18))) (x := table_5) (u := U.tbl table_5) (es_var 4 rfl) rfl) (as_cons (es_toU2 (K := K) (C := (CT 18)) (e := (eLs (eP2 K eI eI))) (x := spans_6) (u := U.lst (List.map (fun y : Int × Int => U.tup [U.int y.1, U.int y.2]) spans_6)) (es_var 5 rfl) rfl) (as_cons (es_toU2 (K := K) (C := (CT 18)) (e := eI) (x := depth_8) (u := U.int depth_8) (es_var 6 rfl) rfl) (as_cons (es_toU2 (K := K) (C := (CT 18)) (e := eI) (x := 0) (u := U.int 0) es_c rfl) (as_cons (es_var 7 rfl) as_nil))))))) as_nil)) g39) es_c q_neS) (fun hc => absurd (hc.symm.trans hn) (by decide)) (fun _ => ss_nxq ?_)
      exact ss_nx ⟨.inr rfl, ⟨.inr rfl, ⟨.inr rfl, ⟨.inr rfl, ⟨.inr rfl, ⟨.inr rfl, ⟨.inr rfl, ⟨.inl ⟨rfl, rfl⟩, ⟨.inr rfl, ⟨.inr rfl, ⟨.inr rfl, trivial⟩⟩⟩⟩⟩⟩⟩⟩⟩⟩⟩
    replace h := h f_28 e_f_28
    obtain ⟨g41, g42, g43, g44, h⟩ := h
    refine ss_seq1 ([m_told 3 ([U.lst (List.map (fun y : Int × Int => U.tup [U.int y.1, U.int y.2]) spans_6)] : List U), m_told 3 ([U.lst []] : List U), m_told 4 ([U.tbl table_5, U.lst (List.map (fun y : Int × Int => U.tup [U.int y.1, U.int y.2]) spans_6), U.int depth_8, U.int ((1 * 2 ^ depth_8.toNat) - 1)] : List U)] : List Str) (fun good_29 => [.ow (oLq (some p) (bagR ((m_bad_spans bag_7 spans_6).2))), .fz (eI t_2.1), .fz (eI t_2.2.1), .fz (eI t_2.2.2), .fz ((eTbl (CT 18)) table_5), .fz ((eLs (eP2 K eI eI)) spans_6), .fz (eI depth_8), .no, .no, .no, .fz ((eLs eS) good_29)]) (ss_set (es_frs eS ([m_told 3 ([U.lst (List.map (fun y : Int × Int => U.tup [U.int y.1, U.int y.2]) spans_6)] : List U), m_told 3 ([U.lst []] : List U), m_told 4 ([U.tbl table_5, U.lst (List.map (fun y : Int × Int => U.tup [U.int y.1, U.int y.2]) spans_6), U.int depth_8, U.int ((1 * 2 ^ depth_8.toNat) - 1)] : List U)] : List Str) (en_lst (as_cons (es_call (3, ([U.lst (List.map (fun y : Int × Int => U.tup [U.int y.1, U.int y.2]) spans_6)] : List U)) (as_cons es_c (as_cons (es_frs (eU (CT 18)) ([U.lst (List.map (fun y : Int × Int => U.tup [U.int y.1, U.int y.2]) spans_6)] : List U) (en_lst (rs := List.map (eU (CT 18)) [U.lst (List.map (fun y : Int × Int => U.tup [U.int y.1, U.int y.2]) spans_6)]) (as_cons (es_toU2 (K := K) (C := (CT 18)) (e := (eLs (eP2 K eI eI))) (x := spans_6) (u := U.lst (List.map (fun y : Int × Int => U.tup [U.int y.1, U.int y.2]) spans_6)) (es_var 5 rfl) rfl) as_nil))) as_nil)) g41) (as_cons (es_call (3, ([U.lst []] : List U)) (as_cons es_c (as_cons (es_frs (eU (CT 18)) ([U.lst []] : List U) (en_lst (rs := List.map (eU (CT 18)) [U.lst []]) (as_cons (es_toU2 (K := K) (C := (CT 18)) (e := (eLs (eU (CT 18)))) (x := []) (u := U.lst []) (es_frs (eU (CT 18)) [] (en_lst as_nil)) (congrArg U.lst (List.map_id _))) as_nil))) as_nil)) g42) (as_cons (es_call (4, ([U.tbl table_5, U.lst (List.map (fun y : Int × Int => U.tup [U.int y.1, U.int y.2]) spans_6), U.int depth_8, U.int ((1 * 2 ^ depth_8.toNat) - 1)] : List U)) (as_cons es_c (as_cons (es_frs (eU (CT 18)) ([U.tbl table_5, U.lst (List.map (fun y : Int × Int => U.tup [U.int y.1, U.int y.2]) spans_6), U.int depth_8, U.int ((1 * 2 ^ depth_8.toNat) - 1)] : List U) (en_lst (rs := List.map (eU (CT 18)) [U.tbl table_5, U.lst (List.map (fun y : Int × Int => U.tup [U.int y.1, U.int y.2]) spans_6), U.int depth_8, U.int ((1 * 2 ^ depth_8.toNat) - 1)]) (as_cons (es_toU2 (K := K) (C := (CT 18)) (e := (eTbl (CT 18))) (x := table_5) (u := U.tbl table_5) (es_var 4 rfl) rfl) (as_cons (es_toU2 (K := K) (C := (CT 18)) (e := (eLs (eP2 K eI eI))) (x := spans_6) (u := U.lst (List.map (fun y : Int × Int => U.tup [U.int y.1, U.int y.2]) spans_6)) (es_var 5 rfl) rfl) (as_cons (es_toU2 (K := K) (C := (CT 18)) (e := eI) (x := depth_8) (u := U.int depth_8) (es_var 6 rfl) rfl) (as_cons (es_toU2 (K := K) (C := (CT 18)) (e := eI) (x := ((1 * 2 ^ depth_8.toNat) - 1)) (u := U.int ((1 * 2 ^ depth_8.toNat) - 1)) (es_sub (es_shlL (i := 1) es_c (es_var 6 rfl) g43 (by decide)) es_c) rfl) as_nil)))))) as_nil)) g44) as_nil))))) Wk.refl) (fun good_29 e_good_29 => ?_)
    replace h := h good_29 e_good_29
    obtain ⟨g45, g46, g47, g48, g49, g50, h⟩ := h
    refine ss_retq (es_andG (es_eqLS (K := K) (es_frs eS (good_29 ++ ([m_told 5 ([U.tbl table_5, U.lst (List.map (fun y : Int × Int => U.tup [U.int y.1, U.int y.2]) spans_6), U.int 0, U.int 0, U.int (10 ^ 60)] : List U)] : List Str)) (en_cat (es_var 10 rfl) (es_frs eS ([m_told 5 ([U.tbl table_5, U.lst (List.map (fun y : Int × Int => U.tup [U.int y.1, U.int y.2]) spans_6), U.int 0, U.int 0, U.int (10 ^ 60)] : List U)] : List Str) (en_lst (as_cons (es_call (5, ([U.tbl table_5, U.lst (List.map (fun y : Int × Int => U.tup [U.int y.1, U.int y.2]) spans_6), U.int 0, U.int 0, U.int (10 ^ 60)] : List U)) (as_cons es_c (as_cons (es_frs (eU (CT 18)) ([U.tbl table_5, U.lst (List.map (fun y : Int × Int => U.tup [U.int y.1, U.int y.2]) spans_6), U.int 0, U.int 0, U.int (10 ^ 60)] : List U) (en_lst (rs := List.map (eU (CT 18)) [U.tbl table_5, U.lst (List.map (fun y : Int × Int => U.tup [U.int y.1, U.int y.2]) spans_6), U.int 0, U.int 0, U.int (10 ^ 60)]) (as_cons (es_toU2 (K := K) (C := (CT 18)) (e := (eTbl (CT 18))) (x := table_5) (u := U.tbl table_5) (es_var 4 rfl) rfl) (as_cons (es_toU2 (K := K) (C := (CT 18)) (e := (eLs (eP2 K eI eI))) (x := spans_6) (u := U.lst (List.map (fun y : Int × Int => U.tup [U.int y.1, U.int y.2]) spans_6)) (es_var 5 rfl) rfl) (as_cons (es_toU2 (K := K) (C := (CT 18)) (e := eI) (x := 0) (u := U.int 0) es_c rfl) (as_cons (es_toU2 (K := K) (C := (CT 18)) (e := eI) (x := 0) (u := U.int 0) es_c rfl) (as_cons (es_toU2 (K := K) (C := (CT 18)) (e := eI) (x := (10 ^ 60)) (u := U.int (10 ^ 60)) (es_pow es_c es_c ⟨by decide, by decide, by decide⟩) rfl) as_nil))))))) as_nil)) g45) as_nil))) g46)) (es_frs eS ((List.replicate (Int.toNat (4 : Int)) ([(Str.ofString "fine")] : List Str)).flatten) (en_rep (e := eS) (es_frs eS ([(Str.ofString "fine")] : List Str) (en_lst (rs := List.map eS [(Str.ofString "fine")]) (as_cons es_c as_nil))) es_c g47)) g48) g49 (es_callB (m_bad_spans bag_7 spans_6).2 0 rfl as_nil rfl g50)) ?_
    replace e_good_29 := Eq.symm e_good_29; subst e_good_29; replace e_f_28 := Eq.symm e_f_28; subst e_f_28; replace e_f_25 := Eq.symm e_f_25; subst e_f_25; replace e_f_21 := Eq.symm e_f_21; subst e_f_21; replace e_f_17 := Eq.symm e_f_17; subst e_f_17; replace e_f_12 := Eq.symm e_f_12; subst e_f_12; replace e_bag_7 := Eq.symm e_bag_7; subst e_bag_7; replace e_depth_8 := Eq.symm e_depth_8; subst e_depth_8; replace e_bag_4 := Eq.symm e_bag_4; subst e_bag_4; replace e_spans_6 := Eq.symm e_spans_6; subst e_spans_6; replace e_table_5 := Eq.symm e_table_5; subst e_table_5; replace e_bag_3 := Eq.symm e_bag_3; subst e_bag_3; replace e_t_2 := Eq.symm e_t_2; subst e_t_2
    exact ⟨rfl, rfl⟩
end
def m_law_b1 (s_2 : Unit) (x_3 : Int) : Unit :=
let bag_4 := m_bag x_3
let bag_5 := (m_right bag_4).2
()
def m_law_o1 (s_2 : Unit) (x_3 : Int) : Prop :=
(m_bag_ok x_3) ∧ (∀ bag_4, bag_4 = (m_bag x_3) → (m_right_ok bag_4) ∧ (!((m_right bag_4).1)) = false ∧ (∀ bag_5, bag_5 = ((m_right bag_4).2) → (True)))
def m_law (script_1 : List Int) : Bool :=
let f_6 := List.foldl (m_law_b1) () ((cutL script_1 none (some 6)) ++ ([0] : List Int))
true
def m_law_ok (script_1 : List Int) : Prop :=
((cutL script_1 none (some 6)).length + ([0] : List Int).length ≤ 16000000) ∧ (okF (m_law_o1) (m_law_b1) () ((cutL script_1 none (some 6)) ++ ([0] : List Int))) ∧ (∀ f_6, f_6 = List.foldl (m_law_b1) () ((cutL script_1 none (some 6)) ++ ([0] : List Int)) → True)
def sp_law (K : PySem.W.Frag) (CT : Nat → Addr) : Sp := spF (ι := (List Int)) (fun d => [(eQ K eI) d]) (fun d => m_law_ok d) (fun d => eB (m_law d))
abbrev s_law : Stmt := top 55
abbrev N_law : List Str := ["_law_script", "_law_cell", "_law_bag_here"]
theorem sc_law : FnScope N_law ["_law_script"] (defScope s_law) := ⟨rfl, rfl, rfl, by decide +kernel, rfl, by decide +kernel, by decide +kernel⟩
section
variable {P : Program} {w : World} {K : PySem.W.Frag} {mg : Str → Option Value} {base : Heap} {CT : Nat → Addr}
theorem ok_law {f : Addr} {fd : FuncData} (F : Fun K "law" "law" s_law f fd) {a_bag : Addr} {fd_bag : FuncData} (F_bag : Fun K "_law_bag" "_law_bag" s_bag a_bag fd_bag) (G_bag : FnG P w K mg base CX0 1 a_bag fd_bag ["_law_cell"] (sp_bag K CT)) (j_bag : mg "_law_bag" = some (.ref a_bag)) (b_bag : Binds K fd_bag ["_law_cell"] []) {a_right : Addr} {fd_right : FuncData} (F_right : Fun K "_law_right" "_law_right" s_right a_right fd_right) (G_right : FnG P w K mg base CX0 10 a_right fd_right ["_law_bag_here"] (sp_right K CT)) (j_right : mg "_law_right" = some (.ref a_right)) (b_right : Binds K fd_right ["_law_bag_here"] []) : FnG P w K mg base CX0 11 f fd ["_law_script"] (sp_law K CT) := by
  refine Fun.okG F sc_law (fun vs H Q E h => ?_) (fun cdv A outer s H vs Q E hG hr h => ?_)
  · obtain ⟨d, F, _, _, h, _⟩ := h
    exact h.len
  · have nd := sc_law.nd
    have hU := hr.units
    refine ⟨_, (pss_cons (ps_for PassesOwn.never rfl (pi_list (pe_op op_cat (pe_slice sl_list (pv 0) po_none (po_some pe_int)) (pe_lst (pa_cons pe_int pa_nil)))) (pg_name (i := 1) nd rfl (by first | exact .inl rfl | exact .inr rfl)) (pss_cons (ps_set (i := 2) nd rfl (by first | exact .inl rfl | exact .inr rfl) (pg_call G_bag hG (hr.mono (by decide)) rfl j_bag F_bag.kp b_bag .nil pass0 (pa_cons (pv 1) pa_nil)))
 (pss_cons (ps_if (pt_not (pt_val (pg_call G_right hG (hr.mono (by decide)) rfl j_right F_right.kp b_right .nil pass0 (pa_cons (pv 2) pa_nil)))) (pss_one ps_never) pss_nil)
 pss_nil)))
 (pss_cons (ps_ret pe_bl)
 pss_nil)), ?_⟩
    refine def_F h (fun d => Nat.le_of_ble_eq_true rfl) (fun script_1 h => ?_)
    replace h : m_law_ok script_1 := h
    unfold m_law_ok at h
    show SS _ [.fz ((eQ K eI) script_1), .no, .no] (FP eB (m_law script_1))
    obtain ⟨g1, g4, h⟩ := h
    refine ss_seq1 (List.foldl (m_law_b1) () ((cutL script_1 none (some 6)) ++ ([0] : List Int))) (fun f_6 => [.fz ((eQ K eI) script_1), .no, .no]) (sf_S (e := eI) (l := ((cutL script_1 none (some 6)) ++ ([0] : List Int))) (fun s_2 => [.fz ((eQ K eI) script_1), .no, .no]) (m_law_b1) (m_law_o1) () (is_list (e := eI) (es_frs eI ((cutL script_1 none (some 6)) ++ ([0] : List Int)) (en_cat (es_frs eI (cutL script_1 none (some 6)) (en_sliceQ (e := eI) (es_var 0 rfl) os_no (os_some es_c))) (es_frs eI ([0] : List Int) (en_lst (as_cons es_c as_nil))) g1))) Wk.refl g4 (fun s_2 x_3 _ h => ⟨[.fz ((eQ K eI) script_1), .fz (eI x_3), .no], _, gs_name 1, ?_⟩) (fun _ hw => hw)) (fun f_6 e_f_6 => ?_)
    · unfold m_law_o1 at h
      obtain ⟨g2, h⟩ := h
      refine ss_seq1 (m_bag x_3) (fun bag_4 => [.fz ((eQ K eI) script_1), .fz (eI x_3), .ow (oLq none (bagR bag_4))]) (ss_own (en_call x_3 (as_cons (es_var 1 rfl) as_nil) g2) Wk.refl) (fun bag_4 e_bag_4 => ?_)
      replace h := h bag_4 e_bag_4
      obtain ⟨g3, h⟩ := h
      obtain ⟨hn, h⟩ := h
      refine ss_ifL (et_not (et_val (es_callB bag_4 2 rfl as_nil rfl g3))) (fun hc => absurd (hc.symm.trans hn) (by decide)) (fun _ => ss_nxq ?_)
      refine ss_let1 ((m_right bag_4).2) (fun bag_5 => [.fz ((eQ K eI) script_1), .fz (eI x_3), .ow (oLq none (bagR bag_5))]) (fun bag_5 e_bag_5 => ?_)
      replace h := h bag_5 e_bag_5
      replace e_bag_5 := Eq.symm e_bag_5; subst e_bag_5; replace e_bag_4 := Eq.symm e_bag_4; subst e_bag_4
      exact ss_nx ⟨.inr rfl, ⟨.inl ⟨rfl, rfl⟩, ⟨.inl ⟨rfl, rfl⟩, trivial⟩⟩⟩
    replace h := h f_6 e_f_6
    refine ss_retq es_c ?_
    replace e_f_6 := Eq.symm e_f_6; subst e_f_6
    exact rfl
end
end My
end
section
set_option maxRecDepth 100000
namespace My
open PySem L2 Fw
def Sm (k : Nat) (x : Int) : Prop := x.natAbs < 2 ^ k
theorem Sm.mono {k j : Nat} {x : Int} (h : Sm k x) (l : k ≤ j) : Sm j x := Nat.lt_of_lt_of_le h (Nat.pow_le_pow_right (by decide) l)
theorem Sm.mul {a b : Nat} {x y : Int} (h : Sm a x) (h' : Sm b y) : Sm (a + b) (x * y) := by
  unfold Sm at *
  rw [Int.natAbs_mul, Nat.pow_add]
  exact Nat.mul_lt_mul_of_lt_of_lt h h'
theorem Sm.sub {k : Nat} {x y : Int} (h : Sm k x) (h' : Sm k y) : Sm (k + 1) (x - y) := by
  unfold Sm at *
  rw [Nat.pow_succ]
  have := Int.natAbs_sub_le x y
  omega
theorem Sm.lg {k : Nat} {x : Int} (h : Sm k x) : x.natAbs.log2 ≤ k := by
  by_cases z : x.natAbs = 0
  · rw [z]; exact Nat.zero_le _
  · exact Nat.le_of_lt ((Nat.log2_lt z).mpr h)
theorem Sm.cm {a b : Nat} {x y : Int} (h : Sm a x) (h' : Sm b y) (l : a + b < 1000000) : CMulW x y := by
  unfold CMulW
  have := h.lg
  have := h'.lg
  omega
theorem sm_of {k : Nat} {x : Int} (h1 : 0 ≤ x) (h2 : x < 2 ^ k) : Sm k x := by
  unfold Sm
  have e : ((2 ^ k : Nat) : Int) = 2 ^ k := by push_cast; rfl
  omega
theorem pw_pos (d : Nat) : (0 : Int) < 2 ^ d := Int.pow_pos (by decide)
theorem pw_eq (d : Nat) : (1 : Int) * 2 ^ d = 2 ^ d := Int.one_mul _
theorem mask (x : Int) (d : Nat) : Builtin.bitAnd x (1 * 2 ^ d - 1) = x % 2 ^ d := by rw [pw_eq]; exact PySem.W.kbt_mask x d
theorem pw_lt {d k : Nat} (h : d ≤ k) : (2 : Int) ^ d ≤ 2 ^ k := by
  have : (2 : Nat) ^ d ≤ 2 ^ k := Nat.pow_le_pow_right (by decide) h
  exact_mod_cast this
theorem okF_inv {α β : Type} {ok : β → α → Prop} {b : β → α → β} (I : Nat → β → Prop) : ∀ {l : List α} {s : β} {n : Nat}, I n s → (∀ n s x, x ∈ l → I n s → ok s x ∧ I (n + 1) (b s x)) → okF ok b s l ∧ I (n + l.length) (l.foldl b s)
  | [], s, n, h, _ => ⟨trivial, h⟩
  | x :: l, s, n, h, k => by
    obtain ⟨h1, h2⟩ := k n s x (List.mem_cons_self ..) h
    obtain ⟨g1, g2⟩ := okF_inv I (l := l) h2 fun n s y hy => k n s y (List.mem_cons_of_mem _ hy)
    refine ⟨⟨h1, g1⟩, ?_⟩
    have e : n + (x :: l).length = n + 1 + l.length := by rw [List.length_cons]; omega
    rw [e]; exact g2
theorem okF_I {α β : Type} {ok : β → α → Prop} {b : β → α → β} (I : β → Prop) {l : List α} {s : β} (h : I s) (k : ∀ s x, x ∈ l → I s → ok s x ∧ I (b s x)) : okF ok b s l ∧ I (l.foldl b s) :=
  okF_inv (fun _ => I) (n := 0) h fun _ s x hx hs => k s x hx hs
theorem len_rng (a b : Int) : (rng a b).length = (b - a).toNat := by unfold rng; simp
theorem pick_lt (b : Bag) {n : Int} (h : 0 < n) : 0 ≤ (m_pick b n).1 ∧ (m_pick b n).1 < n := by
  unfold m_pick
  dsimp only
  unfold m_pick_t1
  dsimp only
  split
  · exact ⟨Int.emod_nonneg _ (by omega), Int.emod_lt_of_pos _ h⟩
  · exact ⟨Int.emod_nonneg _ (by omega), Int.emod_lt_of_pos _ h⟩
theorem pick_ok (b : Bag) {n : Int} (h : 0 < n) (h' : n.natAbs.log2 < 9000) : m_pick_ok b n := by
  unfold m_pick_ok
  intro b3 _
  unfold m_pick_u1
  refine ⟨fun _ => ⟨h, fun _ _ => ⟨⟨h, h'⟩, fun _ _ => trivial⟩⟩, fun _ s _ t _ f hf => ?_⟩
  have f1 : 0 ≤ f ∧ f < 2147483647 := by
    rw [hf]; exact ⟨Int.emod_nonneg _ (by decide), Int.emod_lt_of_pos _ (by decide)⟩
  have fs : Sm 32 f := sm_of f1.1 (Int.lt_trans f1.2 (by decide))
  refine ⟨fs.cm fs (by decide), fun g hg d hd => ?_⟩
  have g1 : 0 ≤ g ∧ g < 2147483587 := by
    rw [hg]; exact ⟨Int.emod_nonneg _ (by decide), Int.emod_lt_of_pos _ (by decide)⟩
  refine ⟨fun _ => ⟨?_, fun _ _ => trivial⟩, fun _ => trivial, fun _ _ => ⟨h, trivial⟩⟩
  rw [hd]
  have e : (2 : Nat) ^ 64 = 18446744073709551616 := by decide
  rw [e]
  omega
theorem whole_iff {v a b : Int} : m_is_whole v a b = true ↔ a ≤ v ∧ v ≤ b := by
  unfold m_is_whole m_is_int
  simp
theorem whole_ok (v a b : Int) : m_is_whole_ok v a b := ⟨trivial, trivial⟩
theorem nwhole {v a b : Int} (h : a ≤ v ∧ v ≤ b) : (!(m_is_whole v a b)) = false := by rw [whole_iff.mpr h]; rfl
def SpC : Int → List (Int × Int) → Int → Prop
  | a, [], b => a = b
  | a, x :: l, b => a ≤ x.1 ∧ x.1 < x.2 ∧ SpC x.2 l b
def Sp0 (l : List (Int × Int)) : Prop := l.length ≤ 12 ∧ ∃ b, SpC 0 l b ∧ b ≤ 10 ^ 30
theorem SpC.le : ∀ {l : List (Int × Int)} {a b : Int}, SpC a l b → a ≤ b
  | [], _, _, h => Int.le_of_eq h
  | _ :: l, _, _, h => by have := SpC.le h.2.2; have := h.1; have := h.2.1; omega
theorem SpC.app : ∀ {l m : List (Int × Int)} {a b c : Int}, SpC a l b → SpC b m c → SpC a (l ++ m) c
  | [], _, _, _, _, h, h' => by cases h; exact h'
  | _ :: l, _, _, _, _, h, h' => ⟨h.1, h.2.1, h.2.2.app h'⟩
theorem SpC.mem : ∀ {l : List (Int × Int)} {a b : Int} {x : Int × Int}, SpC a l b → x ∈ l → a ≤ x.1 ∧ x.1 < x.2 ∧ x.2 ≤ b
  | y :: l, a, b, x, h, m => by
    rcases List.mem_cons.mp m with e | m
    · subst e; exact ⟨h.1, h.2.1, h.2.2.le⟩
    · have := h.2.2.mem m; have := h.1; have := h.2.1; omega
theorem Sp0.mem {l : List (Int × Int)} {x : Int × Int} (h : Sp0 l) (m : x ∈ l) : 0 ≤ x.1 ∧ x.1 < x.2 ∧ x.2 ≤ 10 ^ 30 := by
  obtain ⟨_, b, h1, h2⟩ := h
  have := h1.mem m; omega
theorem newton {r f : Int} {a : Nat} (h : (2 : Int) ^ a ∣ 1 - r * f) : (2 : Int) ^ (a + a) ∣ 1 - r * (f * (2 - r * f)) := by
  obtain ⟨k, hk⟩ := h
  refine ⟨k * k, ?_⟩
  have e : 1 - r * (f * (2 - r * f)) = (1 - r * f) * (1 - r * f) := by
    rw [← Int.mul_assoc]
    generalize r * f = z
    have e1 : z * (2 - z) = z * 2 - z * z := Int.mul_sub ..
    have e2 : (1 - z) * (1 - z) = (1 - z) * 1 - (1 - z) * z := Int.mul_sub ..
    have e3 : (1 - z) * z = 1 * z - z * z := Int.sub_mul ..
    omega
  rw [e, hk, Int.pow_add, Int.mul_assoc, Int.mul_assoc, Int.mul_left_comm k]
structure TOk (T : Tbl) : Prop where
  c : 1 ≤ T.capacity ∧ T.capacity ≤ 10 ^ 30
  r : 1 ≤ T.rate ∧ T.rate ≤ 10 ^ 30
  s : 0 ≤ T.shift ∧ T.shift ≤ 10 ^ 30
  o : T.rate % 2 = 1
theorem make_ok {c r s : Int} (T : TOk ⟨c, r, s⟩) : m_Table___init___ok c r s := by
  have tc := T.c; have tr := T.r; have ts := T.s; have to := T.o
  dsimp only at tc tr ts to
  refine ⟨whole_ok _ _ _, nwhole (by omega), whole_ok _ _ _, ?_, whole_ok _ _ _, nwhole (by omega), trivial⟩
  have e : Builtin.bitAnd r 1 = r % 2 := mask r 1
  rw [nwhole (by omega), e, to]; rfl
theorem pow_dvd {i j : Nat} (h : i ≤ j) : (2 : Int) ^ i ∣ 2 ^ j := ⟨2 ^ (j - i), by rw [← Int.pow_add]; congr 1; omega⟩
theorem new_step {r f : Int} {a d : Nat} (h : (2 : Int) ^ min a d ∣ 1 - r * f) : (2 : Int) ^ min (a + a) d ∣ 1 - r * (f * (2 - r * f) % 2 ^ d) := by
  have h1 : (2 : Int) ^ min (a + a) d ∣ 1 - r * (f * (2 - r * f)) := by
    refine Int.dvd_trans ?_ (newton h)
    exact pow_dvd (by omega)
  have e : 1 - r * (f * (2 - r * f) % 2 ^ d) = (1 - r * (f * (2 - r * f))) + 2 ^ d * (r * (f * (2 - r * f) / 2 ^ d)) := by
    rw [Int.emod_def, Int.mul_sub, Int.mul_left_comm r (2 ^ d) (f * (2 - r * f) / 2 ^ d)]; omega
  rw [e]
  exact Int.dvd_add h1 (Int.dvd_trans (pow_dvd (by omega)) ⟨_, rfl⟩)
theorem sm_rate {T : Tbl} (h : TOk T) : Sm 100 T.rate := sm_of (by have := h.r; omega) (by have := h.r; omega)
theorem res_fold {T : Tbl} (h : TOk T) {d : Nat} (hd : d ≤ 128) : okF (m_residue_of_o1 T (1 * 2 ^ d - 1)) (m_residue_of_b1 T (1 * 2 ^ d - 1)) 1 (rng 0 7) ∧
    Sm 129 ((rng 0 7).foldl (m_residue_of_b1 T (1 * 2 ^ d - 1)) 1) ∧ (2 : Int) ^ d ∣ 1 - T.rate * ((rng 0 7).foldl (m_residue_of_b1 T (1 * 2 ^ d - 1)) 1) := by
  obtain ⟨h1, h2, h3⟩ := okF_inv (ok := m_residue_of_o1 T (1 * 2 ^ d - 1)) (b := m_residue_of_b1 T (1 * 2 ^ d - 1)) (fun n f => Sm 129 f ∧ (2 : Int) ^ min (2 ^ n) d ∣ 1 - T.rate * f) (l := rng 0 7) (s := 1) (n := 0)
    ⟨show (1 : Nat) < 2 ^ 129 by decide, by
      refine Int.dvd_trans (pow_dvd (Nat.min_le_left (2 ^ 0) d)) ?_
      have := h.o
      exact ⟨(1 - T.rate) / 2, by have : (2 : Int) ^ 2 ^ 0 = 2 := rfl
                                  rw [this]; omega⟩⟩
    (fun n f x _ ⟨i1, i2⟩ => by
      have b : m_residue_of_b1 T (1 * 2 ^ d - 1) f x = f * (2 - T.rate * f) % 2 ^ d := mask _ d
      have rf : Sm 229 (T.rate * f) := (sm_rate h).mul i1
      have s2 : Sm 230 (2 - T.rate * f) := Sm.sub (Sm.mono (k := 2) (show (2 : Nat) < 2 ^ 2 by decide) (by decide)) rf
      refine ⟨⟨(sm_rate h).cm i1 (by decide), i1.cm s2 (by decide), fun _ _ => trivial⟩, ?_, ?_⟩
      · rw [b]
        refine sm_of (Int.emod_nonneg _ (Int.ne_of_gt (pw_pos d))) (Int.lt_of_lt_of_le (Int.emod_lt_of_pos _ (pw_pos d)) (pw_lt (by omega)))
      · rw [b]
        have := new_step i2
        have e : 2 ^ n + 2 ^ n = 2 ^ (n + 1) := by rw [Nat.pow_succ]; omega
        rwa [e] at this)
  refine ⟨h1, h2, ?_⟩
  have e : min (2 ^ (0 + (rng 0 7).length)) d = d := by
    rw [len_rng]
    have : 2 ^ (0 + ((7 : Int) - 0).toNat) = 128 := by decide
    omega
  rw [e] at h3; exact h3
theorem res_of_ok {T : Tbl} (h : TOk T) {d t : Int} (hd : 0 ≤ d ∧ d ≤ 128) (ht : 0 ≤ t ∧ t < 2 ^ 129) : m_residue_of_ok T d t := by
  obtain ⟨h1, h2, _⟩ := res_fold h (d := d.toNat) (by omega)
  refine ⟨by omega, fun m hm f hf => ?_⟩
  subst hm hf
  refine ⟨h1, fun g hg => ?_⟩
  subst hg
  have hs := h.s
  have s1 : Sm 130 (t - T.shift) := Sm.sub (sm_of ht.1 ht.2) (sm_of hs.1 (by omega))
  exact ⟨h2.cm s1 (by decide), trivial⟩
theorem Sp0.len {l : List (Int × Int)} (h : Sp0 l) : l.length ≤ 12 := h.1
def cnt (d : Nat) (R : Int) (x : Int × Int) : Int := (x.2 - 1 - R) / 2 ^ d - (x.1 - 1 - R) / 2 ^ d
theorem rc_eq (l : List (Int × Int)) (d R : Int) : m_residue_count l d R = (l.map (cnt d.toNat R)).sum := rfl
theorem div_step {y m : Int} (hm : 0 < m) : y / m - (y - 1) / m = if m ∣ y then 1 else 0 := by
  have h1 : y % m + m * (y / m) = y := by rw [Int.emod_def]; omega
  have r1 := Int.emod_nonneg y (Int.ne_of_gt hm)
  have r2 := Int.emod_lt_of_pos y hm
  split
  · rename_i h
    have z : y % m = 0 := Int.emod_eq_zero_of_dvd h
    have : (y - 1) / m = y / m - 1 := by
      refine (PySem.W.kbt_unique hm (r := m - 1) ?_ (by omega) (by omega)).1
      rw [Int.mul_sub, Int.mul_one]; omega
    omega
  · rename_i h
    have z : y % m ≠ 0 := fun z => h (Int.dvd_of_emod_eq_zero z)
    have : (y - 1) / m = y / m := (PySem.W.kbt_unique hm (r := y % m - 1) (by omega) (by omega) (by omega)).1
    omega
theorem pickk (b : Bag) {n : Int} (h : 0 < n) (h' : n ≤ 2 ^ 200) : m_pick_ok b n := pick_ok b h (by
  have := Sm.lg (k := 201) (sm_of (Int.le_of_lt h) (Int.lt_of_le_of_lt h' (by decide)))
  omega)
theorem nth2 {α : Type} [Inhabited α] (a b : α) {i : Int} (h : 0 ≤ i ∧ i < 2) : nth [a, b] i = a ∨ nth [a, b] i = b := by
  have : i = 0 ∨ i = 1 := by omega
  rcases this with e | e <;> subst e
  · exact .inl rfl
  · exact .inr rfl
theorem nth3 {α : Type} [Inhabited α] (a b c : α) {i : Int} (h : 0 ≤ i ∧ i < 3) : nth [a, b, c] i = a ∨ nth [a, b, c] i = b ∨ nth [a, b, c] i = c := by
  have : i = 0 ∨ i = 1 ∨ i = 2 := by omega
  rcases this with e | e | e <;> subst e
  · exact .inl rfl
  · exact .inr (.inl rfl)
  · exact .inr (.inr rfl)
theorem nth_last {α : Type} [Inhabited α] (l : List α) (x : α) : nth (l ++ [x]) ((l ++ [x]).length - 1) = x := by
  unfold nth
  have e : (((l ++ [x]).length : Int) - 1).toNat = l.length := by rw [List.length_append, List.length_singleton]; omega
  rw [e]; simp
theorem three_all (b : Bag) {most : Int} (h : 0 < most ∧ most ≤ 10 ^ 30) : m_three_ok b most ∧ TOk ⟨(m_three b most).1.1, (m_three b most).1.2.1, (m_three b most).1.2.2⟩ := by
  have p1 := pick_lt b (n := 2) (by decide)
  have n1 := nth2 (5 : Int) (5 * 10 ^ 29) p1
  have p2 := pick_lt (m_pick (m_pick (m_pick b 2).2 (nth ([5, 5 * (10 ^ 29)] : List Int) ((m_pick b 2).1))).2 most).2 (n := 2) (by decide)
  have n2 := nth2 (9 : Int) (10 ^ 30 + 1) p2
  have k1 : 0 < nth ([5, 5 * (10 ^ 29)] : List Int) ((m_pick b 2).1) ∧ nth ([5, 5 * (10 ^ 29)] : List Int) ((m_pick b 2).1) ≤ 5 * 10 ^ 29 := by
    rcases n1 with e | e <;> rw [e] <;> decide
  have k2 : 0 < nth ([9, (10 ^ 30) + 1] : List Int) ((m_pick (m_pick (m_pick (m_pick b 2).2 (nth ([5, 5 * (10 ^ 29)] : List Int) ((m_pick b 2).1))).2 most).2 2).1) ∧
      nth ([9, (10 ^ 30) + 1] : List Int) ((m_pick (m_pick (m_pick (m_pick b 2).2 (nth ([5, 5 * (10 ^ 29)] : List Int) ((m_pick b 2).1))).2 most).2 2).1) ≤ 10 ^ 30 + 1 := by
    rcases n2 with e | e <;> rw [e] <;> decide
  have r := pick_lt (m_pick b 2).2 k1.1
  have s := pick_lt (m_pick (m_pick (m_pick (m_pick b 2).2 (nth ([5, 5 * (10 ^ 29)] : List Int) ((m_pick b 2).1))).2 most).2 2).2 k2.1
  have c := pick_lt (m_pick (m_pick b 2).2 (nth ([5, 5 * (10 ^ 29)] : List Int) ((m_pick b 2).1))).2 h.1
  refine ⟨⟨pickk _ (by decide) (by decide), p1, pickk _ k1.1 (by omega), fun z hz w hw => ?_⟩, ?_⟩
  · subst hw
    exact ⟨pickk _ h.1 (by omega), pickk _ (by decide) (by decide), p2, pickk _ k2.1 (by omega), trivial⟩
  · unfold m_three
    dsimp only
    refine ⟨?_, ?_, ?_, ?_⟩ <;> dsimp only <;> omega
theorem spans_all (b : Bag) {many wide : Int} (hm : 0 ≤ many ∧ many ≤ 12) (hw : 0 < wide ∧ wide ≤ 10 ^ 28) : m_spans_ok b many wide ∧ ((m_spans b many wide).1.length : Int) ≤ many ∧ ∃ e, SpC 0 (m_spans b many wide).1 e ∧ e ≤ wide * 25 := by
  have p0 := pick_lt b hw.1
  have p1 := pick_lt (m_pick b wide).2 (n := 2) (by decide)
  have n1 := nth2 (0 : Int) (m_pick b wide).1 p1
  have k1 : 0 ≤ nth ([0, (m_pick b wide).1] : List Int) (m_pick (m_pick b wide).2 2).1 ∧ nth ([0, (m_pick b wide).1] : List Int) (m_pick (m_pick b wide).2 2).1 < wide := by
    rcases n1 with e | e <;> rw [e] <;> omega
  have p2 := pick_lt (m_pick (m_pick b wide).2 2).2 (n := many + 1) (by omega)
  have body : ∀ a0 b0 (l : List Int), 0 ≤ a0 → a0 < wide → (l.length : Int) ≤ many → okF (m_spans_o1 wide) (m_spans_b1 wide) (b0, ([] : List (Int × Int)), a0) l ∧
      (fun (n : Nat) (s : Bag × List (Int × Int) × Int) => s.2.1.length ≤ n ∧ ∃ c, SpC 0 s.2.1 c ∧ c ≤ s.2.2 ∧ 0 ≤ s.2.2 ∧ s.2.2 ≤ wide * (1 + 2 * n)) (0 + l.length) (l.foldl (m_spans_b1 wide) (b0, ([] : List (Int × Int)), a0)) := by
    intro a0 b0 l ha ha' hl
    have go : ∀ (l : List Int) (n : Nat) (s : Bag × List (Int × Int) × Int), (n : Int) + l.length ≤ many → (s.2.1.length ≤ n ∧ ∃ c, SpC 0 s.2.1 c ∧ c ≤ s.2.2 ∧ 0 ≤ s.2.2 ∧ s.2.2 ≤ wide * (1 + 2 * n)) → okF (m_spans_o1 wide) (m_spans_b1 wide) s l ∧
        ((l.foldl (m_spans_b1 wide) s).2.1.length ≤ n + l.length ∧ ∃ c, SpC 0 (l.foldl (m_spans_b1 wide) s).2.1 c ∧ c ≤ (l.foldl (m_spans_b1 wide) s).2.2 ∧ 0 ≤ (l.foldl (m_spans_b1 wide) s).2.2 ∧ (l.foldl (m_spans_b1 wide) s).2.2 ≤ wide * (1 + 2 * ((n + l.length : Nat) : Int))) := by
      intro l
      induction l with
      | nil => exact fun n s _ h => ⟨trivial, h⟩
      | cons x l ih =>
        intro n s hn ⟨h1, c, h2, h3, h4, h5⟩
        rw [List.length_cons] at hn
        have q1 := pick_lt s.1 hw.1
        have q2 := pick_lt (m_pick s.1 wide).2 (n := 3) (by decide)
        have q3 := pick_lt (m_pick (m_pick s.1 wide).2 3).2 hw.1
        have m3 := nth3 (0 : Int) 1 (m_pick s.1 wide).1 q2
        have kk : 0 ≤ nth ([0, 1, (m_pick s.1 wide).1] : List Int) (m_pick (m_pick s.1 wide).2 3).1 ∧ nth ([0, 1, (m_pick s.1 wide).1] : List Int) (m_pick (m_pick s.1 wide).2 3).1 ≤ wide := by
          rcases m3 with e | e | e <;> rw [e] <;> omega
        have eb : m_spans_b1 wide s x = ((m_pick (m_pick (m_pick s.1 wide).2 3).2 wide).2,
            s.2.1 ++ [(s.2.2 + nth ([0, 1, (m_pick s.1 wide).1] : List Int) (m_pick (m_pick s.1 wide).2 3).1, s.2.2 + nth ([0, 1, (m_pick s.1 wide).1] : List Int) (m_pick (m_pick s.1 wide).2 3).1 + 1 + (m_pick (m_pick (m_pick s.1 wide).2 3).2 wide).1)],
            s.2.2 + nth ([0, 1, (m_pick s.1 wide).1] : List Int) (m_pick (m_pick s.1 wide).2 3).1 + 1 + (m_pick (m_pick (m_pick s.1 wide).2 3).2 wide).1) := by
          unfold m_spans_b1
          dsimp only
          rw [nth_last]
        have ok1 : m_spans_o1 wide s x := ⟨pickk _ hw.1 (by omega), pickk _ (by decide) (by decide), q2, fun a _ b hb => ⟨by subst hb; exact pickk _ hw.1 (by omega), by omega, fun f hf _ _ => ⟨by rw [hf]; simp, fun _ _ => trivial⟩⟩⟩
        generalize nth ([0, 1, (m_pick s.1 wide).1] : List Int) (m_pick (m_pick s.1 wide).2 3).1 = g at *
        generalize (m_pick (m_pick (m_pick s.1 wide).2 3).2 wide).1 = v at *
        obtain ⟨r1, r2⟩ := ih (n + 1) (m_spans_b1 wide s x) (by omega) (by
          rw [eb]
          refine ⟨by simp <;> omega, s.2.2 + g + 1 + v, h2.app ⟨by show c ≤ s.2.2 + g; omega, by show s.2.2 + g < s.2.2 + g + 1 + v; omega, rfl⟩, Int.le_refl _, by show 0 ≤ s.2.2 + g + 1 + v; omega, ?_⟩
          show s.2.2 + g + 1 + v ≤ wide * (1 + 2 * ((n + 1 : Nat) : Int))
          have e1 : wide * (1 + 2 * ((n + 1 : Nat) : Int)) = wide * (1 + 2 * (n : Int)) + wide * 2 := by rw [← Int.mul_add]; congr 1 <;> omega
          omega)
        rw [List.foldl_cons, List.length_cons]
        have e2 : n + (l.length + 1) = n + 1 + l.length := by omega
        rw [e2]
        exact ⟨⟨ok1, r1⟩, r2⟩
    have e0 : wide * (1 + 2 * ((0 : Nat) : Int)) = wide := by simp
    obtain ⟨g1, g2⟩ := go l 0 (b0, [], a0) (by omega) ⟨Nat.le_refl _, 0, rfl, ha, ha, by rw [e0]; exact Int.le_of_lt ha'⟩
    exact ⟨g1, g2⟩
  generalize hA : nth ([0, (m_pick b wide).1] : List Int) (m_pick (m_pick b wide).2 2).1 = a0 at *
  have hl : ((rng 0 (m_pick (m_pick (m_pick b wide).2 2).2 (many + 1)).1).length : Int) ≤ many := by rw [len_rng]; omega
  obtain ⟨o1, o2, c, o3, o4, o5, o6⟩ := body a0 (m_pick (m_pick (m_pick b wide).2 2).2 (many + 1)).2 (rng 0 (m_pick (m_pick (m_pick b wide).2 2).2 (many + 1)).1) k1.1 k1.2 hl
  refine ⟨⟨pickk _ hw.1 (by omega), pickk _ (by decide) (by decide), p1, fun a ha b' hb => ?_⟩, ?_⟩
  · subst hb
    rw [hA] at ha
    subst ha
    exact ⟨pickk _ (by omega) (by omega), by omega, o1, fun _ _ => trivial⟩
  · unfold m_spans
    dsimp only
    rw [hA]
    generalize List.foldl _ _ _ = f at *
    refine ⟨by omega, c, o3, ?_⟩
    have e1 : wide * (1 + 2 * ((0 + (rng 0 (m_pick (m_pick (m_pick b wide).2 2).2 (many + 1)).1).length : Nat) : Int)) ≤ wide * 25 := Int.mul_le_mul_of_nonneg_left (by omega) (by omega)
    omega
theorem cut_take {α : Type} (l : List α) {k : Int} (h : 0 ≤ k ∧ k ≤ l.length) : cutL l none (some k) = l.take k.toNat := by
  unfold cutL HT.sIx
  dsimp only
  rw [if_neg (by omega), Nat.sub_zero, List.drop_zero]
  congr 1; omega
theorem cut_drop {α : Type} (l : List α) {k : Int} (h : 0 ≤ k ∧ k ≤ l.length) : cutL l (some k) none = l.drop k.toNat := by
  unfold cutL HT.sIx
  dsimp only
  rw [if_neg (by omega)]
  have e : min k.toNat l.length = k.toNat := by omega
  rw [e]
  exact List.take_of_length_le (by rw [List.length_drop]; omega)
theorem nd {p : Prop} [Decidable p] (h : p) : (!decide p) = false := by rw [decide_eq_true h]; rfl
def Rem (d : Nat) (R k : Int) : Bool := decide ((k - R) % 2 ^ d = 0)
theorem rem_iff {d : Nat} {R k : Int} : Rem d R k = true ↔ (2 : Int) ^ d ∣ k - R := by
  unfold Rem
  rw [decide_eq_true_iff]
  exact ⟨Int.dvd_of_emod_eq_zero, Int.emod_eq_zero_of_dvd⟩
def base (d : Nat) (R f : Int) : Int := R + ((f - 1 - R) / 2 ^ d + 1) * 2 ^ d
theorem rng_snoc (f : Int) (n : Nat) : rng f (f + ((n + 1 : Nat) : Int)) = rng f (f + n) ++ [f + n] := by
  unfold rng
  have e1 : (f + ((n + 1 : Nat) : Int) - f).toNat = n + 1 := by omega
  have e2 : (f + (n : Int) - f).toNat = n := by omega
  rw [e1, e2, List.range_succ, List.map_append]; rfl
theorem rng_nil (f : Int) : rng f (f + ((0 : Nat) : Int)) = [] := by
  unfold rng
  have e2 : (f + ((0 : Nat) : Int) - f).toNat = 0 := by omega
  rw [e2]; rfl
theorem span_rem (d : Nat) (R f : Int) : ∀ n : Nat, 0 ≤ cnt d R (f, f + n) ∧ (rng f (f + n)).filter (Rem d R) = (List.range (cnt d R (f, f + n)).toNat).map fun i : Nat => base d R f + (i : Int) * 2 ^ d
  | 0 => by
    rw [rng_nil]
    have e : cnt d R (f, f + ((0 : Nat) : Int)) = 0 := by
      unfold cnt
      dsimp only
      have : f + ((0 : Nat) : Int) = f := by omega
      rw [this]; omega
    rw [e]
    exact ⟨Int.le_refl _, rfl⟩
  | n + 1 => by
    obtain ⟨h1, h2⟩ := span_rem d R f n
    have hp := pw_pos d
    rw [rng_snoc, List.filter_append, h2]
    have st := div_step (y := f + n - R) hp
    have ec : cnt d R (f, f + ((n + 1 : Nat) : Int)) = cnt d R (f, f + n) + (if (2 : Int) ^ d ∣ f + n - R then 1 else 0) := by
      unfold cnt
      dsimp only
      rw [← st]
      have e1 : f + ((n + 1 : Nat) : Int) - 1 - R = f + n - R := by omega
      have e2 : f + (n : Int) - 1 - R = f + n - R - 1 := by omega
      rw [e1, e2]; omega
    by_cases hd : (2 : Int) ^ d ∣ f + n - R
    · rw [if_pos hd] at ec
      have hr : Rem d R (f + n) = true := rem_iff.mpr hd
      have e3 : [f + (n : Int)].filter (Rem d R) = [f + n] := by
        rw [List.filter_cons, if_pos hr]; rfl
      rw [ec, e3]
      have e4 : (cnt d R (f, f + n) + 1).toNat = (cnt d R (f, f + n)).toNat + 1 := by omega
      rw [e4, List.range_succ, List.map_append]
      refine ⟨by omega, ?_⟩
      congr 1
      show [f + (n : Int)] = [base d R f + ((cnt d R (f, f + n)).toNat : Int) * 2 ^ d]
      congr 1
      have e5 : ((cnt d R (f, f + n)).toNat : Int) = cnt d R (f, f + n) := by omega
      rw [e5]
      obtain ⟨q, hq⟩ := hd
      have e6 : (f + (n : Int) - 1 - R) / 2 ^ d = q - 1 := by
        refine (PySem.W.kbt_unique hp (r := 2 ^ d - 1) ?_ (by omega) (by omega)).1
        rw [Int.mul_sub, Int.mul_one]; omega
      unfold cnt base
      dsimp only
      rw [e6]
      generalize (f - 1 - R) / 2 ^ d = p
      have e7 : R + (p + 1) * 2 ^ d + (q - 1 - p) * 2 ^ d = R + ((p + 1) + (q - 1 - p)) * 2 ^ d := by rw [Int.add_mul (p + 1)]; omega
      have e8 : (p + 1) + (q - 1 - p) = q := by omega
      rw [e7, e8, Int.mul_comm]; omega
    · rw [if_neg hd] at ec
      have hr : Rem d R (f + n) = false := by
        cases z : Rem d R (f + n) with
        | true => exact (hd (rem_iff.mp z)).elim
        | false => rfl
      have e3 : [f + (n : Int)].filter (Rem d R) = [] := by
        rw [List.filter_cons, hr]; rfl
      rw [ec, e3, Int.add_zero, List.append_nil]
      exact ⟨h1, rfl⟩
theorem span_rem' (d : Nat) (R : Int) {x : Int × Int} (h : x.1 ≤ x.2) : 0 ≤ cnt d R x ∧ (rng x.1 x.2).filter (Rem d R) = (List.range (cnt d R x).toNat).map fun i : Nat => base d R x.1 + (i : Int) * 2 ^ d := by
  have := span_rem d R x.1 (x.2 - x.1).toNat
  have e : x.1 + ((x.2 - x.1).toNat : Int) = x.2 := by omega
  rw [e] at this
  exact this
theorem bits_sm {k : Nat} {x : Int} (h : Sm k x) : Builtin.Int.intBits x ≤ k + 1 := by
  have := h.lg
  unfold Builtin.Int.intBits
  split <;> omega
theorem okF_invB {α β : Type} {ok : β → α → Prop} {b : β → α → β} (I : Nat → β → Prop) {m : Nat} : ∀ {l : List α} {s : β} {n : Nat}, n + l.length ≤ m → I n s → (∀ n s x, x ∈ l → n < m → I n s → ok s x ∧ I (n + 1) (b s x)) → okF ok b s l ∧ I (n + l.length) (l.foldl b s)
  | [], s, n, _, h, _ => ⟨trivial, h⟩
  | x :: l, s, n, hm, h, k => by
    rw [List.length_cons] at hm
    obtain ⟨h1, h2⟩ := k n s x (List.mem_cons_self ..) (by omega) h
    obtain ⟨g1, g2⟩ := okF_invB I (l := l) (by omega) h2 fun n s y hy => k n s y (List.mem_cons_of_mem _ hy)
    refine ⟨⟨h1, g1⟩, ?_⟩
    have e : n + (x :: l).length = n + 1 + l.length := by rw [List.length_cons]; omega
    rw [e]; exact g2
def Chain (g : Int → Int) : Int → List (Int × Int × Int) → Int → Prop
  | a, [], b => a = b
  | a, x :: l, b => x.1 = a ∧ a < x.2.1 ∧ (∀ r, a ≤ r → r < x.2.1 → g r = x.2.2) ∧ Chain g x.2.1 l b
theorem Chain.le {g : Int → Int} : ∀ {l : List (Int × Int × Int)} {a b : Int}, Chain g a l b → a ≤ b
  | [], _, _, h => Int.le_of_eq h
  | x :: l, a, b, h => by have := h.2.1; have := h.2.2.2.le; omega
theorem Chain.mem {g : Int → Int} : ∀ {l : List (Int × Int × Int)} {a b : Int} {x : Int × Int × Int}, Chain g a l b → x ∈ l → a ≤ x.1 ∧ x.1 < x.2.1 ∧ x.2.1 ≤ b ∧ ∀ r, x.1 ≤ r → r < x.2.1 → g r = x.2.2
  | y :: l, a, b, x, h, m => by
    have h0 := h.1
    have h1 := h.2.1
    have h2 := h.2.2.2.le
    rcases List.mem_cons.mp m with e | m
    · subst e
      exact ⟨by omega, by omega, h2, fun r p q => h.2.2.1 r (by omega) q⟩
    · obtain ⟨g1, g2, g3, g4⟩ := h.2.2.2.mem m
      exact ⟨by omega, g2, g3, g4⟩
  | [], _, _, _, _, m => by cases m
theorem Chain.at {g : Int → Int} : ∀ {l : List (Int × Int × Int)} {a b r : Int}, Chain g a l b → a ≤ r → r < b → ∃ x ∈ l, x.1 ≤ r ∧ r < x.2.1
  | [], a, b, r, h, p, q => by have : a = b := h; omega
  | x :: l, a, b, r, h, p, q => by
    by_cases z : r < x.2.1
    · exact ⟨x, List.mem_cons_self .., by have := h.1; omega, z⟩
    · obtain ⟨y, m, h1⟩ := h.2.2.2.at (by omega) q
      exact ⟨y, List.mem_cons_of_mem _ m, h1⟩
def Spx (l : List (Int × Int)) : Prop := l.length ≤ 24 ∧ ∃ b, SpC 0 l b ∧ b ≤ 10 ^ 30
theorem Sp0.x {l : List (Int × Int)} (h : Sp0 l) : Spx l := ⟨by have := h.1; omega, h.2⟩
theorem Spx.mem {l : List (Int × Int)} {x : Int × Int} (h : Spx l) (m : x ∈ l) : 0 ≤ x.1 ∧ x.1 < x.2 ∧ x.2 ≤ 10 ^ 30 := by
  obtain ⟨_, b, h2, h3⟩ := h
  have := h2.mem m
  omega
structure SB (n : Nat) (d : PyData) : Prop where
  s : d.showable = true
  l : d.leavesShort 1001 = true
  b : d.bulk ≤ n
theorem SB.mono {n m : Nat} {d : PyData} (h : SB n d) (l : n ≤ m) : SB m d := ⟨h.s, h.l, Nat.le_trans h.b l⟩
theorem SB.repr {n : Nat} {d : PyData} (h : SB n d) (hn : n ≤ 16000) : ReprF d := by
  refine ⟨h.s, Nat.le_trans (PyData.shown_le_bulk 1001 (by decide) _ h.l) ?_⟩
  have := h.b
  have : (1001 + 2) * d.bulk ≤ (1001 + 2) * 16000 := Nat.mul_le_mul_left _ (by omega)
  rw [sizeLine_eq]
  omega
structure RB (k : Nat) (b : Bag) : Prop where
  c : 0 ≤ b.c ∧ b.c < 2 ^ 150
  t : 0 ≤ b.t ∧ b.t ≤ k
theorem RB.mono {k j : Nat} {b : Bag} (h : RB k b) (l : k ≤ j) : RB j b := ⟨h.c, h.t.1, by have := h.t.2; omega⟩
theorem Chain.app {g : Int → Int} : ∀ {l m : List (Int × Int × Int)} {a b c : Int}, Chain g a l b → Chain g b m c → Chain g a (l ++ m) c
  | [], _, _, _, _, h, h' => by cases h; exact h'
  | _ :: _, _, _, _, _, h, h' => ⟨h.1, h.2.1, h.2.2.1, h.2.2.2.app h'⟩
theorem Chain.shift {g : Int → Int} (N : Int) (hg : ∀ r, g (r + N) = g r) : ∀ {l : List (Int × Int × Int)} {a b : Int}, Chain g a l b → Chain g (a + N) (l.map fun x => (x.1 + N, x.2.1 + N, x.2.2)) (b + N)
  | [], _, _, h => by cases h; rfl
  | x :: l, a, b, h => by
    refine ⟨by dsimp only; rw [h.1], by have := h.2.1; dsimp only; omega, fun r h1 h2 => ?_, h.2.2.2.shift N hg⟩
    dsimp only at h2
    have q := h.2.2.1 (r - N) (by omega) (by omega)
    rw [← hg (r - N), Int.sub_add_cancel] at q
    exact q
end My
end
section
set_option maxRecDepth 100000
namespace My
open PySem L2 Fw
abbrev uS (y : Int × Int) : U := U.tup [U.int y.1, U.int y.2]
abbrev eni (n : Nat) (l : List U) : List (Int × U) := (l.zipIdx n).map fun p => ((p.2 : Int), p.1)
theorem int2 (v : U) : m_is_int__2 v = true ↔ v.ty = 1 := by
  cases v <;> simp [m_is_int__2, U.isT, U.ty]
theorem whole2 {v : U} {a b : Int} : m_is_whole__2 v a b = true ↔ ∃ i, v = .int i ∧ a ≤ i ∧ i ≤ b := by
  unfold m_is_whole__2
  rw [Bool.and_eq_true, Bool.and_eq_true, int2, decide_eq_true_iff, decide_eq_true_iff]
  constructor
  · rintro ⟨h, h1, h2⟩
    cases v with
    | int i => exact ⟨i, rfl, h1, h2⟩
    | _ => cases h
  · rintro ⟨i, rfl, h1, h2⟩
    exact ⟨rfl, h1, h2⟩
theorem whole2_ok (v : U) (a b : Int) : m_is_whole__2_ok v a b := ⟨trivial, fun h => (int2 v).mp h, trivial⟩
theorem isT4 {v : U} : (!(U.isT v 4)) = false ↔ ∃ l, v = .tup l := by
  cases v <;> simp [U.isT, U.ty]
theorem isT5 {v : U} : (!(U.isT v 5)) = false ↔ ∃ l, v = .lst l := by
  cases v <;> simp [U.isT, U.ty]
theorem span2 {v : U} {a : Int} : m_is_span__2 v a = true ↔ ∃ x : Int × Int, v = uS x ∧ a ≤ x.1 ∧ x.1 < x.2 ∧ x.2 ≤ 10 ^ 30 := by
  unfold m_is_span__2
  constructor
  · intro h
    by_cases q : ((!(U.isT v 4)) || ((!decide (((U.els v).length : Int) = 2)) || (!(m_is_whole__2 (nth (U.els v) 0) a (1000000000000000000000000000000 - 1))))) = true
    · rw [if_pos q] at h; cases h
    · rw [if_neg q] at h
      have q' : ((!(U.isT v 4)) || ((!decide (((U.els v).length : Int) = 2)) || (!(m_is_whole__2 (nth (U.els v) 0) a (1000000000000000000000000000000 - 1))))) = false := by simpa using q
      rw [Bool.or_eq_false_iff, Bool.or_eq_false_iff] at q'
      obtain ⟨q1, q2, q3⟩ := q'
      obtain ⟨l, rfl⟩ := isT4.mp q1
      have q2' : ((l.length : Int) = 2) := by
        have : ((U.els (.tup l)).length : Int) = 2 := by simpa using q2
        exact this
      match l, q2' with
      | [u, w], _ =>
        have q3' : m_is_whole__2 u a (1000000000000000000000000000000 - 1) = true := by
          have : (!(m_is_whole__2 u a (1000000000000000000000000000000 - 1))) = false := q3
          simpa using this
        obtain ⟨i, rfl, i1, i2⟩ := whole2.mp q3'
        obtain ⟨j, hj, j1, j2⟩ := whole2.mp h
        have hj' : w = .int j := hj
        subst hj'
        have j1' : i + 1 ≤ j := j1
        exact ⟨(i, j), rfl, i1, by show i < j; omega, j2⟩
      | [], h => exact absurd h (by decide)
      | [_], h => simp at h
      | _ :: _ :: _ :: _, h => simp at h; omega
  · rintro ⟨x, rfl, h1, h2, h3⟩
    have w1 : m_is_whole__2 (U.int x.1) a (1000000000000000000000000000000 - 1) = true := whole2.mpr ⟨_, rfl, h1, by omega⟩
    have w2 : m_is_whole__2 (U.int x.2) (x.1 + 1) 1000000000000000000000000000000 = true := whole2.mpr ⟨_, rfl, by omega, by omega⟩
    show (if ((!true) || ((!true) || (!(m_is_whole__2 (U.int x.1) a (1000000000000000000000000000000 - 1))))) = true then false else m_is_whole__2 (U.int x.2) (x.1 + 1) 1000000000000000000000000000000) = true
    rw [w1, w2]; rfl
theorem span2_ok (v : U) (a : Int) : m_is_span__2_ok v a := by
  have two : (!decide (((U.els v).length : Int) = 2)) = false → (U.els v).length = 2 := fun h => by
    have : ((U.els v).length : Int) = 2 := by simpa using h
    omega
  have ty4 : (!(U.isT v 4)) = false → U.ty v = 4 := fun h => by
    obtain ⟨l, rfl⟩ := isT4.mp h
    rfl
  refine ⟨fun h => .inl (ty4 h), fun h1 h2 => ⟨ty4 h1, by rw [two h2]; decide⟩, fun _ _ => whole2_ok _ _ _, fun _ => trivial, fun h => ?_⟩
  rw [Bool.or_eq_false_iff, Bool.or_eq_false_iff] at h
  obtain ⟨q1, q2, q3⟩ := h
  have q3' : m_is_whole__2 (nth (U.els v) 0) a (1000000000000000000000000000000 - 1) = true := by simpa using q3
  obtain ⟨i, hi, _⟩ := whole2.mp q3'
  exact ⟨⟨ty4 q1, by rw [two q2]; decide⟩, ⟨ty4 q1, by rw [two q2]; decide⟩, by rw [hi]; rfl, whole2_ok _ _ _, trivial⟩
theorem sb1_good {a : Int} {n : Int} {x : Int × Int} (h1 : a ≤ x.1) (h2 : x.1 < x.2) (h3 : x.2 ≤ 10 ^ 30) : m_require_spans_b1 a (n, uS x) = .inr x.2 := by
  unfold m_require_spans_b1
  rw [show m_is_span__2 ((n, uS x) : Int × U).2 a = true from span2.mpr ⟨x, rfl, h1, h2, h3⟩]
  rfl
theorem sb1_bad {a : Int} {n : Int} {u : U} (h : m_is_span__2 u a = false) : m_require_spans_b1 a (n, u) = .inl (.inl ⟨0, some (some n)⟩) := by
  unfold m_require_spans_b1
  rw [show m_is_span__2 ((n, u) : Int × U).2 a = false from h]
  rfl
theorem loopR_inl {α β ρ : Type} {bd : β → α → ρ ⊕ β} {s : β} {x : α} {l : List α} {r : ρ} (h : bd s x = .inl r) : loopR bd s (x :: l) = .inl r := by
  simp only [loopR, h]
theorem loopR_inr {α β ρ : Type} {bd : β → α → ρ ⊕ β} {s s' : β} {x : α} {l : List α} (h : bd s x = .inr s') : loopR bd s (x :: l) = loopR bd s' l := by
  simp only [loopR, h]
theorem sp_good : ∀ (ps : List (Int × Int)) {a b : Int} (n : Nat) (rest : List U), SpC a ps b → b ≤ 10 ^ 30 → loopR m_require_spans_b1 a (eni n (ps.map uS ++ rest)) = loopR m_require_spans_b1 b (eni (n + ps.length) rest)
  | [], a, b, n, rest, h, _ => by
    have e : a = b := h
    rw [e]; rfl
  | x :: ps, a, b, n, rest, h, hb => by
    have h1 := h.1
    have h2 := h.2.1
    have h3 := h.2.2.le
    have h4 : x.2 ≤ 10 ^ 30 := by omega
    show loopR m_require_spans_b1 a (((n : Int), uS x) :: eni (n + 1) (ps.map uS ++ rest)) = _
    rw [loopR_inr (sb1_good h1 h2 h4), sp_good ps (n + 1) rest h.2.2 hb, List.length_cons, show n + 1 + ps.length = n + (ps.length + 1) by omega]
theorem sp_okR : ∀ (l : List U) (n : Nat) (a : Int), okR m_require_spans_o1 m_require_spans_b1 a (eni n l)
  | [], _, _ => trivial
  | u :: l, n, a => by
    show m_require_spans_o1 a ((n : Int), u) ∧ _
    refine ⟨⟨span2_ok _ _, fun _ => trivial, fun h => ?_⟩, ?_⟩
    · have h' : m_is_span__2 u a = true := by simpa using h
      obtain ⟨x, rfl, _⟩ := span2.mp h'
      exact ⟨⟨rfl, by show 1 < 2; decide⟩, rfl, fun _ _ => trivial⟩
    · cases q : m_is_span__2 u a with
      | true =>
        obtain ⟨x, rfl, h1, h2, h3⟩ := span2.mp q
        rw [sb1_good h1 h2 h3]
        exact sp_okR l (n + 1) x.2
      | false =>
        rw [sb1_bad q]; trivial
theorem sp_inr : ∀ (l : List U) (n : Nat) (a s : Int), a ≤ 10 ^ 30 → loopR m_require_spans_b1 a (eni n l) = .inr s → ∃ ps, l = ps.map uS ∧ SpC a ps s ∧ s ≤ 10 ^ 30
  | [], _, a, s, ha, h => by
    have e : a = s := Sum.inr.inj h
    exact ⟨[], rfl, e, by omega⟩
  | u :: l, n, a, s, ha, h => by
    have h' : loopR m_require_spans_b1 a (((n : Int), u) :: eni (n + 1) l) = .inr s := h
    unfold loopR at h'
    cases q : m_is_span__2 u a with
    | true =>
      obtain ⟨x, rfl, h1, h2, h3⟩ := span2.mp q
      rw [sb1_good h1 h2 h3] at h'
      obtain ⟨ps, e1, e2, e3⟩ := sp_inr l (n + 1) x.2 s h3 h'
      exact ⟨x :: ps, by rw [e1]; rfl, ⟨h1, h2, e2⟩, e3⟩
    | false =>
      rw [sb1_bad q] at h'
      cases h'
theorem eni_enum (l : List U) : enumI l = eni 0 l := by unfold enumI; rfl
theorem rs_ok (v : U) : m_require_spans_ok v := by
  refine ⟨fun h => ?_, fun _ => trivial, fun h => fun a ha => ?_⟩
  · obtain ⟨l, rfl⟩ := isT5.mp h
    exact .inr rfl
  · rw [Bool.or_eq_false_iff] at h
    obtain ⟨l, rfl⟩ := isT5.mp h.1
    refine ⟨rfl, ?_, fun _ _ => trivial⟩
    rw [eni_enum]
    exact sp_okR _ _ _
theorem rs_lst {l : List U} (h : l.length ≤ 12) : m_require_spans (.lst l) = sumC id m_require_spans_r1 (loopR m_require_spans_b1 0 (eni 0 l)) := by
  unfold m_require_spans
  have c : ((!(U.isT (.lst l) 5)) || (decide (12 < ((U.els (.lst l)).length : Int)))) = false := by
    rw [Bool.or_eq_false_iff]
    exact ⟨rfl, decide_eq_false (by show ¬ 12 < (l.length : Int); omega)⟩
  rw [c, if_neg Bool.false_ne_true]
  unfold m_require_spans_t2
  dsimp only
  rw [eni_enum]; rfl
theorem rs_good {l : List (Int × Int)} (h : Sp0 l) : m_require_spans (.lst (l.map uS)) = .inr () := by
  obtain ⟨hl, b, hs, hb⟩ := h
  rw [rs_lst (by rw [List.length_map]; exact hl)]
  have := sp_good l 0 [] hs hb
  rw [List.append_nil] at this
  rw [this]; rfl
theorem rs_odd {v : U} (h : v.ty ≠ 5 ∨ 12 < v.els.length) : m_require_spans v = .inl ⟨0, some none⟩ := by
  unfold m_require_spans
  have c : ((!(U.isT v 5)) || (decide (12 < ((U.els v).length : Int)))) = true := by
    rw [Bool.or_eq_true]
    rcases h with h | h
    · left
      cases q : (!(U.isT v 5)) with
      | true => rfl
      | false =>
        obtain ⟨l, rfl⟩ := isT5.mp q
        exact absurd rfl h
    · right
      exact decide_eq_true (by omega)
  rw [c, if_pos rfl]
theorem rs_bad {ps : List (Int × Int)} {b : Int} {u : U} {rest : List U} (hs : SpC 0 ps b) (hb : b ≤ 10 ^ 30) (hu : m_is_span__2 u b = false) (hl : ps.length + 1 + rest.length ≤ 12) :
    m_require_spans (.lst (ps.map uS ++ u :: rest)) = .inl ⟨0, some (some (ps.length : Int))⟩ := by
  rw [rs_lst (by rw [List.length_append, List.length_map, List.length_cons]; omega), sp_good ps 0 (u :: rest) hs hb]
  show sumC id m_require_spans_r1 (loopR m_require_spans_b1 b (((((0 + ps.length : Nat)) : Int), u) :: eni (0 + ps.length + 1) rest)) = _
  rw [loopR_inl (sb1_bad hu), Nat.zero_add]
  rfl
theorem rs_inr {v : U} {b : Unit} (h : m_require_spans v = .inr b) : ∃ l, v = .lst (l.map uS) ∧ Sp0 l := by
  by_cases q : v.ty ≠ 5 ∨ 12 < v.els.length
  · rw [rs_odd q] at h; cases h
  · have q5 : v.ty = 5 := by
      by_cases w : v.ty = 5
      · exact w
      · exact absurd (.inl w) q
    cases v with
    | lst l =>
      have ql : l.length ≤ 12 := by
        by_cases w : 12 < l.length
        · exact absurd (.inr w) q
        · omega
      rw [rs_lst ql] at h
      cases e : loopR m_require_spans_b1 0 (eni 0 l) with
      | inl r =>
        rw [e] at h
        have h' : r = .inr b := h
        subst h'
        exfalso
        have no : ∀ (l : List U) (n : Nat) (a : Int), loopR m_require_spans_b1 a (eni n l) ≠ .inl (.inr b) := fun l => by
          induction l with
          | nil => intro n a z; cases z
          | cons u l ih =>
            intro n a z
            have z' : loopR m_require_spans_b1 a (((n : Int), u) :: eni (n + 1) l) = .inl (.inr b) := z
            unfold loopR at z'
            cases q : m_is_span__2 u a with
            | true =>
              obtain ⟨x, rfl, h1, h2, h3⟩ := span2.mp q
              rw [sb1_good h1 h2 h3] at z'
              exact ih (n + 1) x.2 z'
            | false =>
              rw [sb1_bad q] at z'
              cases z'
        exact no l 0 0 e
      | inr s =>
        obtain ⟨ps, e1, e2, e3⟩ := sp_inr l 0 0 s (by decide) e
        refine ⟨ps, by rw [e1], ?_, s, e2, e3⟩
        rw [e1, List.length_map] at ql
        exact ql
    | _ => cases q5
theorem unSp_of (l : List (Int × Int)) : U.unSp (.lst (l.map uS)) = l := by
  show (l.map uS).map _ = l
  rw [List.map_map]
  exact List.map_id' l
theorem rt_inr {v : U} {b : Unit} (h : m_require_table v = .inr b) : ∃ t, v = .tbl t := by
  unfold m_require_table at h
  cases v with
  | tbl t => exact ⟨t, rfl⟩
  | _ => cases h
theorem rt_bad {v : U} (h : v.ty ≠ 7) : m_require_table v = .inl ⟨7, none⟩ := by
  unfold m_require_table
  rw [decide_eq_false h]; rfl
theorem rt_good (t : Tbl) : m_require_table (.tbl t) = .inr () := rfl
theorem rd_ok (v : U) : m_require_depth_ok v := ⟨whole2_ok _ _ _, fun _ => trivial, fun _ => trivial⟩
theorem rd_inr {v : U} {b : Unit} (h : m_require_depth v = .inr b) : ∃ d : Int, v = .int d ∧ 0 ≤ d ∧ d ≤ 100 := by
  unfold m_require_depth at h
  cases q : m_is_whole__2 v 0 100 with
  | true => exact whole2.mp q
  | false => rw [q] at h; cases h
end My
end
section
set_option maxRecDepth 100000
namespace My
open PySem L2 Fw TL
structure PU (n m : Nat) (u : U) : Prop where
  p : u.pure = true
  s : u.d.showable = true
  l : u.d.leavesShort 1001 = true
  b : u.d.bulk ≤ n
  d : u.d.depth ≤ m
theorem PU.mono {n m n' m' : Nat} {u : U} (h : PU n m u) (a : n ≤ n') (b : m ≤ m') : PU n' m' u := ⟨h.p, h.s, h.l, Nat.le_trans h.b a, Nat.le_trans h.d b⟩
theorem PU.repr {n m : Nat} {u : U} (h : PU n m u) (hn : n ≤ 16000) (hm : m ≤ 60) : ReprU u := by
  refine ⟨h.p, h.s, Nat.le_trans h.d hm, Nat.le_trans (PyData.shown_le_bulk 1001 (by decide) _ h.l) ?_⟩
  have := h.b
  have : (1001 + 2) * u.d.bulk ≤ (1001 + 2) * 16000 := Nat.mul_le_mul_left _ (by omega)
  have e : sizeLine = 16777216 := by decide
  rw [e]
  omega
theorem pu_all {n m : Nat} : ∀ {l : List U}, (∀ u ∈ l, PU n m u) → U.pures l = true ∧ PyData.showableAll (U.ds l) = true ∧ PyData.leavesShortAll 1001 (U.ds l) = true ∧ PyData.bulkAll (U.ds l) ≤ l.length * (n + 1) ∧ PyData.depthAll (U.ds l) ≤ m
  | [], _ => ⟨by unfold U.pures; rfl, by unfold U.ds; rfl, by unfold U.ds; rfl, by unfold U.ds; exact Nat.zero_le _, by unfold U.ds; exact Nat.zero_le _⟩
  | x :: l, h => by
    obtain ⟨h1, h2, h3, h4, h5⟩ := pu_all (l := l) fun y hy => h y (List.mem_cons_of_mem _ hy)
    have hx := h x (List.mem_cons_self ..)
    have e : U.ds (x :: l) = x.d :: U.ds l := by rw [U.ds]
    refine ⟨?_, ?_, ?_, ?_, ?_⟩
    · rw [U.pures, hx.p, h1]; rfl
    · rw [e, PyData.showableAll, hx.s, h2]; rfl
    · rw [e, PyData.leavesShortAll, hx.l, h3]; rfl
    · rw [e, PyData.bulkAll, List.length_cons, Nat.succ_mul]
      have := hx.b
      omega
    · rw [e, PyData.depthAll]
      have := hx.d
      omega
theorem pu_lst {n m k : Nat} {l : List U} (h : ∀ u ∈ l, PU n m u) (hk : l.length ≤ k) : PU (k * (n + 1)) (m + 1) (.lst l) := by
  obtain ⟨h1, h2, h3, h4, h5⟩ := pu_all h
  have e : (U.lst l).d = .list (U.ds l) := by rw [U.d]
  refine ⟨by rw [U.pure]; exact h1, by rw [e, PyData.showable]; exact h2, by rw [e, PyData.leavesShort]; exact h3, ?_, by rw [e, PyData.depth]; omega⟩
  rw [e, PyData.bulk]
  exact Nat.le_trans h4 (Nat.mul_le_mul_right _ hk)
theorem pu_tup {n m k : Nat} {l : List U} (h : ∀ u ∈ l, PU n m u) (hk : l.length ≤ k) : PU (k * (n + 1)) (m + 1) (.tup l) := by
  obtain ⟨h1, h2, h3, h4, h5⟩ := pu_all h
  have e : (U.tup l).d = .tuple (U.ds l) := by rw [U.d]
  refine ⟨by rw [U.pure]; exact h1, by rw [e, PyData.showable]; exact h2, by rw [e, PyData.leavesShort]; exact h3, ?_, by rw [e, PyData.depth]; omega⟩
  rw [e, PyData.bulk]
  exact Nat.le_trans h4 (Nat.mul_le_mul_right _ hk)
theorem pu_non : PU 0 0 .non := ⟨by rw [U.pure] <;> simp, by rw [U.d]; rfl, by rw [U.d]; rfl, by rw [U.d]; decide, by rw [U.d]; decide⟩
theorem pu_dic : PU 0 1 .dic := ⟨by rw [U.pure] <;> simp, by rw [U.d]; rfl, by rw [U.d]; rfl, by rw [U.d]; decide, by rw [U.d]; decide⟩
theorem pu_bl (b : Bool) : PU 0 0 (.bl b) := ⟨by rw [U.pure] <;> simp, by rw [U.d]; rfl, by rw [U.d]; cases b <;> rfl, by rw [U.d]; exact Nat.le_refl _, by rw [U.d]; exact Nat.le_refl _⟩
theorem pu_int {i : Int} (h : i.natAbs.log2 < 1000) : PU 0 0 (.int i) := by
  have e : (U.int i).d = .int i := by rw [U.d]
  exact ⟨by rw [U.pure] <;> simp, by rw [e]; exact decide_eq_true (by omega), by rw [e]; exact decide_eq_true (shown_int (k := 1000) (by decide) h), by rw [e]; exact Nat.le_refl _, by rw [e]; exact Nat.le_refl _⟩
theorem pu_sm {i : Int} (h : Sm 900 i) : PU 0 0 (.int i) := pu_int (by have := h.lg; omega)
theorem pu_str {s : Str} {n : Nat} (h : s.length ≤ n) (g : ∀ c ∈ tl s, c < 16 ^ 8) : PU n 0 (.str s) := by
  have e : (U.str s).d = .str s := by rw [U.d]
  refine ⟨by rw [U.pure] <;> simp, by rw [e]; rfl, by rw [e]; exact List.all_eq_true.mpr fun c hc => decide_eq_true (g c hc), by rw [e]; exact h, by rw [e]; exact Nat.le_refl _⟩
theorem sp_in : ∀ {l : List (Int × Int)} {a b : Int}, SpC a l b → ∀ x ∈ l, a ≤ x.1 ∧ x.1 < x.2 ∧ x.2 ≤ b
  | [], _, _, _, x, hx => by cases hx
  | y :: l, a, b, h, x, hx => by
    rcases List.mem_cons.mp hx with rfl | hx
    · exact ⟨h.1, h.2.1, h.2.2.le⟩
    · obtain ⟨h1, h2, h3⟩ := sp_in h.2.2 x hx
      have := h.1; have := h.2.1
      exact ⟨by omega, h2, h3⟩
theorem pu_span {x : Int × Int} (h : 0 ≤ x.1 ∧ x.1 < x.2 ∧ x.2 ≤ 10 ^ 30) : PU 110 2 (uS x) :=
  (pu_tup (l := [U.int x.1, U.int x.2]) (k := 2) (n := 0) (m := 0) (fun u hu => by
    simp only [List.mem_cons, List.not_mem_nil, or_false] at hu
    rcases hu with rfl | rfl
    · exact pu_sm (sm_of h.1 (by omega))
    · exact pu_sm (sm_of (by omega) (by omega))) (Nat.le_refl 2)).mono (by decide) (by decide)
theorem pu_spans {l : List (Int × Int)} {b : Int} (h : SpC 0 l b) (hb : b ≤ 10 ^ 30) : ∀ u ∈ l.map uS, PU 110 2 u := fun u hu => by
  obtain ⟨x, hx, rfl⟩ := List.mem_map.mp hu
  obtain ⟨h1, h2, h3⟩ := sp_in h x hx
  exact pu_span ⟨h1, h2, by omega⟩
theorem strs3 {w : Str} (h : (PyData.str w).canLay0 = true) : StrsOk [w, w, w] := by
  show ((PyData.str w).canLay0 && ((PyData.str w).canLay0 && ((PyData.str w).canLay0 && true))) = true
  rw [h]; rfl
end My
end
section
set_option maxRecDepth 100000
set_option exponentiation.threshold 1000
set_option maxHeartbeats 1000000
namespace My
open PySem L2 Fw TL
/-! the words of the errors -/
abbrev clsL (x : Xc) : List (Str × Bool) := ([(((Str.ofString "InvalidSpans"), isX x 0) : Str × Bool), (((Str.ofString "InvalidSeen"), isX x 1) : Str × Bool)] : List (Str × Bool)) ++ ([((Str.ofString "InvalidText"), isX x 2), ((Str.ofString "OverBudget"), isX x 3)] : List (Str × Bool)) ++ ([((Str.ofString "InvalidCapacity"), isX x 4)] : List (Str × Bool)) ++ ([((Str.ofString "InvalidRate"), isX x 5), ((Str.ofString "InvalidShift"), isX x 6)] : List (Str × Bool)) ++ ([((Str.ofString "InvalidTable"), isX x 7), ((Str.ofString "InvalidKey"), isX x 8)] : List (Str × Bool)) ++ ([((Str.ofString "InvalidDepth"), isX x 9), ((Str.ofString "InvalidTail"), isX x 10)] : List (Str × Bool)) ++ ([((Str.ofString "InvalidSpan"), isX x 11), ((Str.ofString "Nothing"), isX x 15)] : List (Str × Bool)) ++ ([((Str.ofString "InvalidNumber"), isX x 12)] : List (Str × Bool)) ++ ([((Str.ofString "InvalidBudget"), isX x 13)] : List (Str × Bool)) ++ ([((Str.ofString "InvalidOperation"), isX x 14)] : List (Str × Bool)) ++ ([((Str.ofString "InvalidCommand"), isX x 16)] : List (Str × Bool))
theorem class_ok {x : Xc} {n : Str} (h : x.c < 18) (hf : ((List.filter (fun (x_19 : Str × Bool) => x_19.2) (clsL x)).map fun (x_19 : Str × Bool) => x_19.1) = [n]) (k : m_class_u1 x [n]) : m_class_ok x := by
  unfold m_class_ok
  refine ⟨h, h, fun s2 e2 => ?_⟩
  refine ⟨h, h, by rw [e2]; simp, fun s3 e3 => ?_⟩
  subst e2
  refine ⟨h, by rw [e3]; simp, fun s4 e4 => ?_⟩
  subst e3
  refine ⟨h, h, by rw [e4]; simp, fun s5 e5 => ?_⟩
  subst e4
  refine ⟨h, h, by rw [e5]; simp, fun s6 e6 => ?_⟩
  subst e5
  refine ⟨h, h, by rw [e6]; simp, fun s7 e7 => ?_⟩
  subst e6
  refine ⟨h, h, by rw [e7]; simp, fun s8 e8 => ?_⟩
  subst e7
  refine ⟨h, by rw [e8]; simp, fun s9 e9 => ?_⟩
  subst e8
  refine ⟨h, by rw [e9]; simp, fun s10 e10 => ?_⟩
  subst e9
  refine ⟨h, by rw [e10]; simp, fun s11 e11 => ?_⟩
  subst e10
  refine ⟨h, by rw [e11]; simp, fun s12 e12 => ?_⟩
  subst e11
  refine ⟨by rw [e12]; simp, fun f ef => ?_⟩
  subst e12
  rw [ef, show (List.filter (fun (x_19 : Str × Bool) => x_19.2) _).map (fun (x_19 : Str × Bool) => x_19.1) = [n] from hf]
  exact k
theorem class_eq {x : Xc} {n : Str} (hf : ((List.filter (fun (x_19 : Str × Bool) => x_19.2) (clsL x)).map fun (x_19 : Str × Bool) => x_19.1) = [n]) : m_class x = m_class_t1 x [n] := by
  unfold m_class
  dsimp only
  rw [show (List.filter (fun (x_19 : Str × Bool) => x_19.2) _).map (fun (x_19 : Str × Bool) => x_19.1) = [n] from hf]
structure TC (x : Xc) (w : Str) : Prop where
  c : x.c < 18
  o : m_class_ok x
  v : m_class x = w
  s : (PyData.str w).canLay0 = true
theorem tc_one {x : Xc} {n : Str} (h : x.c < 18) (hf : ((List.filter (fun (x_19 : Str × Bool) => x_19.2) (clsL x)).map fun (x_19 : Str × Bool) => x_19.1) = [n]) (d1 : decide (nth ([n] : List Str) 0 ∈ ([(Str.ofString "InvalidSpans"), (Str.ofString "InvalidSeen")] : List Str)) = false)
    (l : (nth ([n] : List Str) 0).length + (Str.ofString "").length ≤ 16000000) (ap : nth ([n] : List Str) 0 ++ Str.ofString "" = n) (s : (PyData.str n).canLay0 = true) : TC x n := by
  have i0 : 0 ≤ (0 : Int) ∧ (0 : Int) < ([n] : List Str).length := by show 0 ≤ (0 : Int) ∧ (0 : Int) < ((1 : Nat) : Int); decide
  refine ⟨h, class_ok h hf ?_, ?_, s⟩
  · refine ⟨fun _ => h, fun _ => trivial, fun _ => ⟨i0, i0, fun z => ?_, fun z => ?_, fun z => ?_, ?_, trivial⟩⟩
    · rw [d1] at z; cases z
    · rw [d1] at z; cases z
    · rw [d1] at z; cases z
    · rw [d1, if_neg Bool.false_ne_true]; exact l
  · rw [class_eq hf]
    unfold m_class_t1
    rw [d1]
    exact ap
theorem tc_cap : TC ⟨4, none⟩ (Str.ofString "InvalidCapacity") := tc_one (by decide) (by decide +kernel) (by decide +kernel) (by decide +kernel) (by decide +kernel) (by decide +kernel)
theorem tc_rate : TC ⟨5, none⟩ (Str.ofString "InvalidRate") := tc_one (by decide) (by decide +kernel) (by decide +kernel) (by decide +kernel) (by decide +kernel) (by decide +kernel)
theorem tc_shift : TC ⟨6, none⟩ (Str.ofString "InvalidShift") := tc_one (by decide) (by decide +kernel) (by decide +kernel) (by decide +kernel) (by decide +kernel) (by decide +kernel)
theorem tc_table : TC ⟨7, none⟩ (Str.ofString "InvalidTable") := tc_one (by decide) (by decide +kernel) (by decide +kernel) (by decide +kernel) (by decide +kernel) (by decide +kernel)
theorem tc_key : TC ⟨8, none⟩ (Str.ofString "InvalidKey") := tc_one (by decide) (by decide +kernel) (by decide +kernel) (by decide +kernel) (by decide +kernel) (by decide +kernel)
theorem tc_depth : TC ⟨9, none⟩ (Str.ofString "InvalidDepth") := tc_one (by decide) (by decide +kernel) (by decide +kernel) (by decide +kernel) (by decide +kernel) (by decide +kernel)
theorem tc_tail : TC ⟨10, none⟩ (Str.ofString "InvalidTail") := tc_one (by decide) (by decide +kernel) (by decide +kernel) (by decide +kernel) (by decide +kernel) (by decide +kernel)
theorem tc_number : TC ⟨12, none⟩ (Str.ofString "InvalidNumber") := tc_one (by decide) (by decide +kernel) (by decide +kernel) (by decide +kernel) (by decide +kernel) (by decide +kernel)
theorem tc_sp {o : Option Int} (h : ∀ i, o = some i → i.natAbs.log2 < 1920) {w : Str} (l0 : (Str.ofString " ").length + (reprO o).length ≤ 16000000) (l : (nth ([(Str.ofString "InvalidSpans")] : List Str) 0).length + (Str.ofString " " ++ reprO o).length ≤ 16000000) (e : nth ([(Str.ofString "InvalidSpans")] : List Str) 0 ++ (Str.ofString " " ++ reprO o) = w) (s : (PyData.str w).canLay0 = true) : TC ⟨0, some o⟩ w := by
  have hf : ((List.filter (fun (x_19 : Str × Bool) => x_19.2) (clsL ⟨0, some o⟩)).map fun (x_19 : Str × Bool) => x_19.1) = [Str.ofString "InvalidSpans"] := by
    have e : clsL ⟨0, some o⟩ = clsL ⟨0, none⟩ := rfl
    rw [e]; decide +kernel
  have d1 : decide (nth ([(Str.ofString "InvalidSpans")] : List Str) 0 ∈ ([(Str.ofString "InvalidSpans"), (Str.ofString "InvalidSeen")] : List Str)) = true := by decide +kernel
  have i0 : 0 ≤ (0 : Int) ∧ (0 : Int) < ([Str.ofString "InvalidSpans"] : List Str).length := by show 0 ≤ (0 : Int) ∧ (0 : Int) < ((1 : Nat) : Int); decide
  refine ⟨by show 0 < 18; decide, class_ok (by show 0 < 18; decide) hf ?_, ?_, s⟩
  · refine ⟨fun _ => by show 0 < 18; decide, fun _ => trivial, fun _ => ⟨i0, i0, fun _ => ⟨by show 0 < 4; decide, rfl, rfl⟩, fun _ => h, fun _ => l0, ?_, trivial⟩⟩
    rw [d1, if_pos rfl]
    exact l
  · rw [class_eq hf]
    unfold m_class_t1
    rw [d1]
    exact e
theorem tc_none : TC ⟨0, some none⟩ (Str.ofString "InvalidSpans None") := tc_sp (fun _ e => by cases e) (by decide +kernel) (by decide +kernel) (by decide +kernel) (by decide +kernel)
theorem tc_at {i : Int} (h : 0 ≤ i ∧ i ≤ 11) : TC ⟨0, some (some i)⟩ (Str.ofString "InvalidSpans " ++ reprI i) := by
  have : i = 0 ∨ i = 1 ∨ i = 2 ∨ i = 3 ∨ i = 4 ∨ i = 5 ∨ i = 6 ∨ i = 7 ∨ i = 8 ∨ i = 9 ∨ i = 10 ∨ i = 11 := by omega
  refine tc_sp (fun j e => ?_) ?_ ?_ ?_ ?_
  · cases e
    have := (sm_of (k := 100) h.1 (by omega)).lg
    omega
  all_goals rcases this with rfl | rfl | rfl | rfl | rfl | rfl | rfl | rfl | rfl | rfl | rfl | rfl <;> decide +kernel
/-! what a call tells -/
theorem cut1 (a : U) (l : List U) : cutL (a :: l) (some 1) none = l := by
  rw [cut_drop (a :: l) (k := 1) ⟨by decide, by rw [List.length_cons]; omega⟩]; rfl
theorem told_ok {w : Int} {a : U} {l : List U} (hr : ReprU (.lst l)) (ho : m_called_ok w (a :: l)) {c : Option Xc} (e : xOf (m_called w (a :: l)) = c) (hx : ∀ x, c = some x → x.c < 18 ∧ m_class_ok x) :
    m_told_ok w (a :: l) ∧ m_told w (a :: l) = if (!c.isSome) = true then (Str.ofString "fine") else m_class (unO c) := by
  constructor
  · unfold m_told_ok
    rw [cut1, e]
    refine ⟨hr, fun _ _ _ _ => ⟨ho, fun x hc => (hx x hc).1, fun c' hc' => ?_⟩⟩
    subst hc'
    unfold m_told_u1
    rw [cut1]
    refine ⟨hr, fun _ => trivial, fun _ => ⟨fun z => by simpa using z, fun z => ?_, trivial⟩⟩
    cases c' with
    | none => cases z
    | some x => exact (hx x rfl).2
  · unfold m_told
    rw [e]
    dsimp only
    unfold m_told_t1
    rw [decide_eq_true rfl]
    rfl
theorem told_err {w : Int} {a : U} {l : List U} (hr : ReprU (.lst l)) (ho : m_called_ok w (a :: l)) {x : Xc} {v : Str} (e : xOf (m_called w (a :: l)) = some x) (k : TC x v) : m_told_ok w (a :: l) ∧ m_told w (a :: l) = v := by
  obtain ⟨h, g⟩ := told_ok hr ho e fun y hy => by cases hy; exact ⟨k.c, k.o⟩
  have e1 : (!(some x : Option Xc).isSome) = false := rfl
  have e2 : unO (some x) = x := rfl
  rw [e1, if_neg Bool.false_ne_true, e2] at g
  exact ⟨h, g.trans k.v⟩
theorem told_fine {w : Int} {a : U} {l : List U} (hr : ReprU (.lst l)) (ho : m_called_ok w (a :: l)) (e : xOf (m_called w (a :: l)) = none) : m_told_ok w (a :: l) ∧ m_told w (a :: l) = Str.ofString "fine" := by
  obtain ⟨h, g⟩ := told_ok hr ho e fun y hy => by cases hy
  have e1 : (!(none : Option Xc).isSome) = true := rfl
  rw [e1, if_pos rfl] at g
  exact ⟨h, g⟩
theorem rp_tail {l : List U} (h : ∀ u ∈ l, PU 1500 3 u) (hk : l.length ≤ 4) : ReprU (.lst l) := (pu_lst (k := 4) h hk).repr (by decide) (by decide)
/-! the checks -/
theorem whole_t4 {v : U} (h : v.ty ≠ 1) {a b : Int} : m_is_whole__2 v a b = false := by
  rw [Bool.eq_false_iff]
  intro z
  obtain ⟨i, rfl, _⟩ := whole2.mp z
  exact h rfl
theorem whole_out {i a b : Int} (h : i < a ∨ b < i) : m_is_whole__2 (.int i) a b = false := by
  rw [Bool.eq_false_iff]
  intro z
  obtain ⟨j, e, h1, h2⟩ := whole2.mp z
  cases e; omega
theorem ky_ok (v : U) : m_require_key_ok v := ⟨whole2_ok _ _ _, fun _ => trivial, fun _ => trivial⟩
theorem ky_inr {v : U} {b : Unit} (h : m_require_key v = .inr b) : ∃ d : Int, v = .int d ∧ 0 ≤ d ∧ d ≤ 10 ^ 30 - 1 := by
  unfold m_require_key at h
  cases q : m_is_whole__2 v 0 (1000000000000000000000000000000 - 1) with
  | true => exact whole2.mp q
  | false => rw [q] at h; cases h
theorem ky_bad {v : U} (h : m_is_whole__2 v 0 (1000000000000000000000000000000 - 1) = false) : m_require_key v = .inl ⟨8, none⟩ := by
  unfold m_require_key
  rw [h]; rfl
theorem ky_good {d : Int} (h : 0 ≤ d ∧ d ≤ 10 ^ 30 - 1) : m_require_key (.int d) = .inr () := by
  unfold m_require_key
  have e : m_is_whole__2 (.int d) 0 (1000000000000000000000000000000 - 1) = true := whole2.mpr ⟨d, rfl, h.1, h.2⟩
  rw [e]; rfl
theorem rd_bad {v : U} (h : m_is_whole__2 v 0 100 = false) : m_require_depth v = .inl ⟨9, none⟩ := by
  unfold m_require_depth
  rw [h]; rfl
theorem rd_good {d : Int} (h : 0 ≤ d ∧ d ≤ 100) : m_require_depth (.int d) = .inr () := by
  unfold m_require_depth
  rw [whole2.mpr ⟨d, rfl, h.1, h.2⟩]; rfl
theorem rtl_ok {d : Int} (hd : 0 ≤ d ∧ d ≤ 100) (v : U) : m_require_tail_ok d v := ⟨by omega, whole2_ok _ _ _, fun _ => trivial, fun _ => trivial⟩
theorem rtl_inr {d : Int} {v : U} {b : Unit} (h : m_require_tail d v = .inr b) : ∃ t : Int, v = .int t ∧ 0 ≤ t ∧ t < 2 ^ d.toNat := by
  unfold m_require_tail at h
  cases q : m_is_whole__2 v 0 ((1 * 2 ^ d.toNat) - 1) with
  | true =>
    obtain ⟨t, e, h1, h2⟩ := whole2.mp q
    rw [pw_eq] at h2
    exact ⟨t, e, h1, by omega⟩
  | false => rw [q] at h; cases h
theorem rtl_bad {d : Int} {v : U} (h : m_is_whole__2 v 0 ((1 * 2 ^ d.toNat) - 1) = false) : m_require_tail d v = .inl ⟨10, none⟩ := by
  unfold m_require_tail
  rw [h]; rfl
theorem rtl_good {d t : Int} (h : 0 ≤ t ∧ t < 2 ^ d.toNat) : m_require_tail d (.int t) = .inr () := by
  unfold m_require_tail
  rw [whole2.mpr ⟨t, rfl, h.1, by rw [pw_eq]; omega⟩]; rfl
theorem nm_ok (v : U) : m_require_number_ok v := ⟨trivial, fun h => (int2 v).mp (by simpa using h), fun _ => trivial, fun _ => trivial⟩
theorem nm_inr {v : U} {b : Unit} (h : m_require_number v = .inr b) : ∃ t : Int, v = .int t ∧ 0 ≤ t := by
  unfold m_require_number at h
  cases q : m_is_int__2 v with
  | true =>
    have q1 := (int2 v).mp q
    cases v with
    | int i =>
      by_cases z : i < 0
      · rw [q] at h
        have : decide (U.unI (U.int i) < 0) = true := decide_eq_true z
        rw [this] at h; cases h
      · exact ⟨i, rfl, by omega⟩
    | _ => cases q1
  | false => rw [q] at h; cases h
theorem nm_bad {v : U} (h : v.ty ≠ 1 ∨ ∃ i, v = .int i ∧ i < 0) : m_require_number v = .inl ⟨12, none⟩ := by
  unfold m_require_number
  rcases h with h | ⟨i, rfl, h⟩
  · have : m_is_int__2 v = false := by
      rw [Bool.eq_false_iff]
      intro z
      exact h ((int2 v).mp z)
    rw [this]; rfl
  · have : decide (U.unI (U.int i) < 0) = true := decide_eq_true h
    rw [this, Bool.or_true]; rfl
theorem nm_good {i : Int} (h : 0 ≤ i) : m_require_number (.int i) = .inr () := by
  unfold m_require_number
  have e1 : m_is_int__2 (.int i) = true := (int2 _).mpr rfl
  have e2 : decide (U.unI (U.int i) < 0) = false := decide_eq_false (by show ¬ i < 0; omega)
  rw [e1, e2]; rfl
theorem rp_ok (t s d v : U) : m_require_place_ok t s d v := by
  refine ⟨⟨fun _ => trivial, fun _ => trivial⟩, fun b _ => ⟨rs_ok s, fun _ _ => ⟨rd_ok d, fun b7 h7 => ?_⟩⟩⟩
  obtain ⟨i, rfl, h⟩ := rd_inr h7
  exact ⟨rfl, rtl_ok h v, fun _ _ => trivial⟩
theorem rp_inr {t s d v : U} {b : Unit} (h : m_require_place t s d v = .inr b) : ∃ (T : Tbl) (l : List (Int × Int)) (i j : Int), t = .tbl T ∧ s = .lst (l.map uS) ∧ Sp0 l ∧ d = .int i ∧ (0 ≤ i ∧ i ≤ 100) ∧ v = .int j ∧ 0 ≤ j ∧ j < 2 ^ i.toNat := by
  unfold m_require_place xbind at h
  cases e1 : m_require_table t with
  | inl x => rw [e1] at h; cases h
  | inr b1 =>
    obtain ⟨T, rfl⟩ := rt_inr e1
    rw [e1] at h
    dsimp only at h
    cases e2 : m_require_spans s with
    | inl x => rw [e2] at h; cases h
    | inr b2 =>
      obtain ⟨l, h1, h2⟩ := rs_inr e2
      rw [e2] at h
      dsimp only at h
      cases e3 : m_require_depth d with
      | inl x => rw [e3] at h; cases h
      | inr b3 =>
        obtain ⟨i, rfl, h3⟩ := rd_inr e3
        rw [e3] at h
        dsimp only at h
        cases e4 : m_require_tail (U.unI (U.int i)) v with
        | inl x => rw [e4] at h; cases h
        | inr b4 =>
          obtain ⟨j, rfl, h4, h5⟩ := rtl_inr e4
          exact ⟨T, l, i, j, rfl, h1, h2, rfl, h3, rfl, h4, h5⟩
theorem rp_tab {t s d v : U} (h : t.ty ≠ 7) : m_require_place t s d v = .inl ⟨7, none⟩ := by
  unfold m_require_place
  rw [rt_bad h]; rfl
theorem rp_sp {T : Tbl} {s d v : U} {x : Xc} (h : m_require_spans s = .inl x) : m_require_place (.tbl T) s d v = .inl x := by
  unfold m_require_place
  rw [rt_good, h]; rfl
theorem rp_depth {T : Tbl} {l : List (Int × Int)} (hl : Sp0 l) {d v : U} (h : m_is_whole__2 d 0 100 = false) : m_require_place (.tbl T) (.lst (l.map uS)) d v = .inl ⟨9, none⟩ := by
  unfold m_require_place
  rw [rt_good, rs_good hl, rd_bad h]; rfl
theorem rp_tl {T : Tbl} {l : List (Int × Int)} (hl : Sp0 l) {i : Int} (hi : 0 ≤ i ∧ i ≤ 100) {v : U} (h : m_is_whole__2 v 0 ((1 * 2 ^ i.toNat) - 1) = false) : m_require_place (.tbl T) (.lst (l.map uS)) (.int i) v = .inl ⟨10, none⟩ := by
  unfold m_require_place
  rw [rt_good, rs_good hl, rd_good hi, show m_require_tail (U.unI (U.int i)) v = .inl ⟨10, none⟩ from rtl_bad h]; rfl
theorem rp_good {T : Tbl} {l : List (Int × Int)} (hl : Sp0 l) {i j : Int} (hi : 0 ≤ i ∧ i ≤ 100) (hj : 0 ≤ j ∧ j < 2 ^ i.toNat) : m_require_place (.tbl T) (.lst (l.map uS)) (.int i) (.int j) = .inr () := by
  unfold m_require_place
  rw [rt_good, rs_good hl, rd_good hi, show m_require_tail (U.unI (U.int i)) (.int j) = .inr () from rtl_good hj]; rfl
end My
end
section
set_option maxRecDepth 100000
set_option exponentiation.threshold 1000
set_option maxHeartbeats 1000000
namespace My
open PySem L2 Fw TL
/-! the functions -/
theorem i0 {l : List U} (h : 0 < l.length) : 0 ≤ (0 : Int) ∧ (0 : Int) < l.length := by omega
theorem i1 {l : List U} (h : 1 < l.length) : 0 ≤ (1 : Int) ∧ (1 : Int) < l.length := by omega
theorem i2 {l : List U} (h : 2 < l.length) : 0 ≤ (2 : Int) ∧ (2 : Int) < l.length := by omega
theorem i3 {l : List U} (h : 3 < l.length) : 0 ≤ (3 : Int) ∧ (3 : Int) < l.length := by omega
theorem i4 {l : List U} (h : 4 < l.length) : 0 ≤ (4 : Int) ∧ (4 : Int) < l.length := by omega
theorem nwalk5 {d : Int} (hd : 0 ≤ d ∧ d ≤ 100) (R : Int) : ∀ {l : List (Int × Int)} {a b : Int} (n : Int), SpC a l b → 0 ≤ a → b ≤ 10 ^ 30 → 0 ≤ n →
    okR (m_nth_key_o1 (.int d) R) (m_nth_key_b1 (.int d) R) n l ∧ ∃ o, sumC id (m_nth_key_r1 (.int d) R) (loopR (m_nth_key_b1 (.int d) R) n l) = .inr o
  | [], a, b, n, _, _, _, _ => ⟨trivial, _, rfl⟩
  | x :: l, a, b, n, h, ha, hb, hn => by
    have hle := h.2.2.le
    have hx1 := h.1
    have hx2 := h.2.1
    obtain ⟨h1, h2⟩ := span_rem' d.toNat R (x := x) (by have := h.2.1; omega)
    have ec : m_residue_count [(x.1, x.2)] d R = cnt d.toNat R x := by
      rw [rc_eq]
      simp only [List.map_cons, List.map_nil, List.sum_cons, List.sum_nil]
      exact Int.add_zero _
    have hc : cnt d.toNat R x ≤ x.2 - x.1 := by
      have := congrArg List.length h2
      rw [List.length_map, List.length_range] at this
      have l2 := List.length_filter_le (Rem d.toNat R) (rng x.1 x.2)
      rw [len_rng] at l2
      omega
    have ok1 : m_nth_key_o1 (.int d) R n x := by
      refine ⟨rfl, ⟨fun _ _ => hd.1, fun _ _ => hd.1, Nat.le_of_ble_eq_true rfl, trivial⟩, fun many hm => ?_⟩
      have hm' : many = cnt d.toNat R x := hm.trans ec
      refine ⟨fun z => ⟨rfl, ⟨hd.1, by show d ≤ 1000000; omega⟩, rfl, ⟨hd.1, ?_⟩, trivial⟩, fun _ _ _ => trivial⟩
      have z' := of_decide_eq_true z
      have := bits_sm (k := 100) (sm_of (x := n) hn (by omega))
      have e7 : (2 : Int) ^ 27 = 134217728 := by decide
      show _ + d ≤ _
      rw [e7]
      omega
    by_cases z : n < cnt d.toNat R x
    · have eb : ∃ o, m_nth_key_b1 (.int d) R n x = .inl (.inr o) := by
        unfold m_nth_key_b1
        dsimp only
        rw [show m_residue_count ([((x.1, x.2) : Int × Int)] : List (Int × Int)) (U.unI (.int d)) R = cnt d.toNat R x from ec]
        unfold m_nth_key_t2
        rw [decide_eq_true z, if_pos rfl]
        exact ⟨_, rfl⟩
      obtain ⟨o, eb⟩ := eb
      refine ⟨⟨ok1, by rw [eb]; trivial⟩, o, ?_⟩
      unfold loopR
      rw [eb]; rfl
    · have eb : m_nth_key_b1 (.int d) R n x = .inr (n - cnt d.toNat R x) := by
        unfold m_nth_key_b1
        dsimp only
        rw [show m_residue_count ([((x.1, x.2) : Int × Int)] : List (Int × Int)) (U.unI (.int d)) R = cnt d.toNat R x from ec]
        unfold m_nth_key_t2
        rw [decide_eq_false z, if_neg Bool.false_ne_true]
      obtain ⟨g1, o, g2⟩ := nwalk5 hd R (l := l) (n - cnt d.toNat R x) h.2.2 (by have := h.1; have := h.2.1; omega) hb (by omega)
      refine ⟨⟨ok1, by rw [eb]; exact g1⟩, o, ?_⟩
      unfold loopR
      rw [eb]
      exact g2
theorem ofSp_of (l : List (Int × Int)) : U.lst (l.map uS) = U.ofSp (U.unSp (.lst (l.map uS))) := by rw [unSp_of]; rfl
theorem kc_ok (s : U) : m_key_count_ok s := by
  refine ⟨rs_ok s, fun b hb => ?_⟩
  obtain ⟨l, rfl, hl⟩ := rs_inr hb
  refine ⟨ofSp_of l, ?_, trivial⟩
  rw [unSp_of]
  have := hl.1; omega
theorem tct_ok {t s d v : U} (hT : ∀ T, t = .tbl T → TOk T) : m_tail_count_ok t s d v := by
  refine ⟨rp_ok t s d v, fun b hb => ?_⟩
  obtain ⟨T, l, i, j, rfl, rfl, hl, rfl, hi, rfl, hj⟩ := rp_inr hb
  have h2 : j < 2 ^ 129 := Int.lt_of_lt_of_le hj.2 (pw_lt (by omega))
  refine ⟨ofSp_of l, rfl, rfl, rfl, rfl, res_of_ok (hT T rfl) (d := i) (by omega) ⟨hj.1, h2⟩, ?_, trivial⟩
  rw [unSp_of]
  exact ⟨fun _ _ => hi.1, fun _ _ => hi.1, by have := hl.1; omega, trivial⟩
theorem nk_all {t s d v n : U} (hT : ∀ T, t = .tbl T → TOk T) : m_nth_key_ok t s d v n ∧ ∀ b, m_require_place t s d v = .inr b → ∀ b', m_require_number n = .inr b' → ∃ o, m_nth_key t s d v n = .inr o := by
  constructor
  · refine ⟨rp_ok t s d v, fun b hb => ⟨nm_ok n, fun b' hb' => ?_⟩⟩
    obtain ⟨T, l, i, j, rfl, rfl, hl, rfl, hi, rfl, hj⟩ := rp_inr hb
    obtain ⟨k, rfl, hk⟩ := nm_inr hb'
    have h2 : j < 2 ^ 129 := Int.lt_of_lt_of_le hj.2 (pw_lt (by omega))
    refine ⟨rfl, rfl, rfl, res_of_ok (hT T rfl) (d := i) (by omega) ⟨hj.1, h2⟩, rfl, fun r hr z hz => ?_⟩
    have hz' : z = k := hz
    subst hr hz'
    obtain ⟨_, e, hs, he⟩ := hl
    refine ⟨ofSp_of l, ?_, fun _ _ => trivial⟩
    rw [unSp_of]
    exact (nwalk5 hi _ z hs (Int.le_refl _) he hk).1
  · intro b hb b' hb'
    obtain ⟨T, l, i, j, rfl, rfl, hl, rfl, hi, rfl, hj⟩ := rp_inr hb
    obtain ⟨k, rfl, hk⟩ := nm_inr hb'
    obtain ⟨_, e, hs, he⟩ := hl
    unfold m_nth_key
    rw [hb, hb']
    unfold xbind
    dsimp only
    unfold m_nth_key_t3
    rw [unSp_of]
    exact (nwalk5 hi _ k hs (Int.le_refl _) he hk).2
/-! the calls -/
theorem c0_err {a b c : U} {x : Xc} (h : m_Table___init__4 () a b c = .inl x) : m_called_ok 0 [a, b, c] ∧ xOf (m_called 0 [a, b, c]) = some x := by
  constructor
  · refine ⟨fun _ => ⟨i0 (Nat.le_of_ble_eq_true rfl), i1 (Nat.le_of_ble_eq_true rfl), i2 (Nat.le_of_ble_eq_true rfl), ⟨whole2_ok _ _ _, fun _ => trivial, fun q1 => ⟨whole2_ok _ _ _, fun (q : (!(m_is_whole__2 b 1 1000000000000000000000000000000)) = false) => ?_, fun _ => trivial, fun q2 => ⟨whole2_ok _ _ _, fun _ => trivial, fun q3 => ?_⟩⟩⟩, fun z hz => ?_, fun _ _ => trivial⟩, fun z => absurd z (by decide)⟩
    · obtain ⟨i, e, _⟩ := whole2.mp (show m_is_whole__2 b 1 1000000000000000000000000000000 = true by simpa using q)
      show U.ty b = 1
      rw [e]; rfl
    · have q1' : (!(m_is_whole__2 a 1 1000000000000000000000000000000)) = false := q1
      have q2' : ((!(m_is_whole__2 b 1 1000000000000000000000000000000)) || (decide ((Builtin.bitAnd (U.unI b) 1) = 0))) = false := q2
      have q3' : (!(m_is_whole__2 c 0 1000000000000000000000000000000)) = false := q3
      unfold m_Table___init__4 at h
      rw [q1', q2', q3'] at h
      cases h
    · have hz' : m_Table___init__4 () a b c = .inr z := hz
      rw [h] at hz'; cases hz'
  · unfold m_called
    rw [decide_eq_true rfl, if_pos rfl]
    show xOf (xbind (m_Table___init__4 () a b c) _) = _
    rw [h]; rfl
theorem c1_ok {T : Tbl} (hT : TOk T) (k : U) : m_called_ok 1 [.tbl T, k] ∧ xOf (m_called 1 [.tbl T, k]) = xOf (m_require_key k) := by
  constructor
  · refine ⟨fun z => absurd z (by decide), fun _ => ⟨fun _ => ⟨i0 (Nat.le_of_ble_eq_true rfl), rfl, i1 (Nat.le_of_ble_eq_true rfl), ⟨ky_ok k, fun b hb => ?_⟩, fun _ _ => trivial⟩, fun z => absurd z (by decide)⟩⟩
    obtain ⟨i, rfl, h⟩ := ky_inr hb
    exact ⟨rfl, (sm_rate hT).cm (sm_of (k := 100) h.1 (by show i < _; omega)) (by decide), trivial⟩
  · unfold m_called
    rw [decide_eq_false (by decide), if_neg Bool.false_ne_true, decide_eq_true rfl, if_pos rfl]
    show xOf (xbind (m_Table_value T k) _) = _
    unfold m_Table_value
    cases m_require_key k <;> rfl
theorem c2_ok {T : Tbl} (hT : TOk T) (k d : U) : m_called_ok 2 [.tbl T, k, d] ∧ xOf (m_called 2 [.tbl T, k, d]) = xOf (xbind (m_require_key k) fun _ => m_require_depth d) := by
  constructor
  · refine ⟨fun z => absurd z (by decide), fun _ => ⟨fun z => absurd z (by decide), fun _ => ⟨fun _ => ⟨i0 (Nat.le_of_ble_eq_true rfl), rfl, i1 (Nat.le_of_ble_eq_true rfl), i2 (Nat.le_of_ble_eq_true rfl), ⟨ky_ok k, fun b hb => ⟨rd_ok d, fun b' hb' => ?_⟩⟩, fun _ _ => trivial⟩, fun z => absurd z (by decide)⟩⟩⟩
    obtain ⟨i, rfl, h⟩ := ky_inr hb
    obtain ⟨j, rfl, g⟩ := rd_inr hb'
    exact ⟨rfl, rfl, ⟨(sm_rate hT).cm (sm_of (k := 100) h.1 (by show i < _; omega)) (by decide), ⟨g.1, by show j ≤ 1000000; omega⟩, trivial⟩, trivial⟩
  · unfold m_called
    rw [decide_eq_false (by decide), if_neg Bool.false_ne_true, decide_eq_false (by decide), if_neg Bool.false_ne_true, decide_eq_true rfl, if_pos rfl]
    show xOf (xbind (m_Table_tail T k d) _) = _
    unfold m_Table_tail
    cases m_require_key k with
    | inl x => rfl
    | inr b =>
      show xOf (xbind (xbind (m_require_depth d) _) _) = xOf (m_require_depth d)
      cases m_require_depth d <;> rfl
theorem c3_ok (s : U) : m_called_ok 3 [s] ∧ xOf (m_called 3 [s]) = xOf (m_require_spans s) := by
  constructor
  · exact ⟨fun z => absurd z (by decide), fun _ => ⟨fun z => absurd z (by decide), fun _ => ⟨fun z => absurd z (by decide), fun _ => ⟨fun _ => ⟨i0 (Nat.le_of_ble_eq_true rfl), kc_ok s, fun _ _ => trivial⟩, fun z => absurd z (by decide)⟩⟩⟩⟩
  · unfold m_called
    rw [decide_eq_false (by decide), if_neg Bool.false_ne_true, decide_eq_false (by decide), if_neg Bool.false_ne_true, decide_eq_false (by decide), if_neg Bool.false_ne_true, decide_eq_true rfl, if_pos rfl]
    show xOf (xbind (m_key_count s) _) = _
    unfold m_key_count
    cases m_require_spans s <;> rfl
theorem c4_ok {t : U} (hT : ∀ T, t = .tbl T → TOk T) (s d v : U) : m_called_ok 4 [t, s, d, v] ∧ xOf (m_called 4 [t, s, d, v]) = xOf (m_require_place t s d v) := by
  constructor
  · exact ⟨fun z => absurd z (by decide), fun _ => ⟨fun z => absurd z (by decide), fun _ => ⟨fun z => absurd z (by decide), fun _ => ⟨fun z => absurd z (by decide), fun _ => ⟨fun _ => ⟨i0 (Nat.le_of_ble_eq_true rfl), i1 (Nat.le_of_ble_eq_true rfl), i2 (Nat.le_of_ble_eq_true rfl), i3 (Nat.le_of_ble_eq_true rfl), tct_ok hT, fun _ _ => trivial⟩, fun z => absurd z (by decide)⟩⟩⟩⟩⟩
  · unfold m_called
    rw [decide_eq_false (by decide), if_neg Bool.false_ne_true, decide_eq_false (by decide), if_neg Bool.false_ne_true, decide_eq_false (by decide), if_neg Bool.false_ne_true, decide_eq_false (by decide), if_neg Bool.false_ne_true, decide_eq_true rfl, if_pos rfl]
    show xOf (xbind (m_tail_count t s d v) _) = _
    unfold m_tail_count
    cases m_require_place t s d v <;> rfl
theorem c5_ok {t : U} (hT : ∀ T, t = .tbl T → TOk T) (s d v n : U) : m_called_ok 5 [t, s, d, v, n] ∧ xOf (m_called 5 [t, s, d, v, n]) = xOf (xbind (m_require_place t s d v) fun _ => m_require_number n) := by
  constructor
  · exact ⟨fun z => absurd z (by decide), fun _ => ⟨fun z => absurd z (by decide), fun _ => ⟨fun z => absurd z (by decide), fun _ => ⟨fun z => absurd z (by decide), fun _ => ⟨fun z => absurd z (by decide), fun _ => ⟨i0 (Nat.le_of_ble_eq_true rfl), i1 (Nat.le_of_ble_eq_true rfl), i2 (Nat.le_of_ble_eq_true rfl), i3 (Nat.le_of_ble_eq_true rfl), i4 (Nat.le_of_ble_eq_true rfl), (nk_all hT).1, fun _ _ => trivial⟩⟩⟩⟩⟩⟩
  · have hn := (nk_all (t := t) (s := s) (d := d) (v := v) (n := n) hT).2
    unfold m_called
    rw [decide_eq_false (by decide), if_neg Bool.false_ne_true, decide_eq_false (by decide), if_neg Bool.false_ne_true, decide_eq_false (by decide), if_neg Bool.false_ne_true, decide_eq_false (by decide), if_neg Bool.false_ne_true, decide_eq_false (by decide), if_neg Bool.false_ne_true]
    show xOf (xbind (m_nth_key t s d v n) _) = _
    cases e1 : m_require_place t s d v with
    | inl x => unfold m_nth_key; rw [e1]; rfl
    | inr b =>
      cases e2 : m_require_number n with
      | inl x => unfold m_nth_key; rw [e1, e2]; rfl
      | inr b' =>
        obtain ⟨o, e3⟩ := hn b e1 b' e2
        rw [e3]; rfl
theorem c0_fine {a b c : Int} (hT : TOk ⟨a, b, c⟩) (p : PU 1500 3 (.int b)) (q : PU 1500 3 (.int c)) : m_told__2_ok 0 [.int a, .int b, .int c] ∧ m_told__2 0 [.int a, .int b, .int c] = Str.ofString "fine" := by
  have hr : ReprU (.lst [.int b, .int c]) := rp_tail (fun u hu => by
    simp only [List.mem_cons, List.not_mem_nil, or_false] at hu
    rcases hu with rfl | rfl
    · exact p
    · exact q) (Nat.le_of_ble_eq_true rfl)
  have ok : m_called__2_ok 0 [.int a, .int b, .int c] := ⟨fun _ => ⟨i0 (Nat.le_of_ble_eq_true rfl), rfl, i1 (Nat.le_of_ble_eq_true rfl), rfl, i2 (Nat.le_of_ble_eq_true rfl), rfl, make_ok hT, trivial⟩, fun z => absurd z (by decide)⟩
  have e : xOf (m_called__2 0 [.int a, .int b, .int c]) = none := by
    unfold m_called__2
    rw [decide_eq_true rfl, if_pos rfl]; rfl
  constructor
  · unfold m_told__2_ok
    rw [cut1, e]
    refine ⟨hr, fun _ _ _ _ => ⟨ok, fun x hc => by (cases hc), fun c' hc' => ?_⟩⟩
    subst hc'
    unfold m_told__2_u1
    rw [cut1]
    exact ⟨hr, fun _ => trivial, fun _ => ⟨fun z => absurd z (by decide), fun z => absurd z (by decide), trivial⟩⟩
  · unfold m_told__2
    rw [e]
    dsimp only
    unfold m_told__2_t1
    rw [decide_eq_true rfl]
    rfl
/-! values that are none -/
theorem pz {n m : Nat} {u : U} (h : PU n m u) (a : n ≤ 1500) (b : m ≤ 3) : PU 1500 3 u := h.mono a b
theorem pN : PU 1500 3 U.non := pz pu_non (by decide) (by decide)
theorem pI {i : Int} (hi : i.natAbs < 2 ^ 900) : PU 1500 3 (U.int i) := pz (pu_sm hi) (by decide) (by decide)
theorem bi_ok (a b : Int) : m_bad_integers_ok a b := fun f e => ⟨by unfold CMulW; decide +kernel, by rw [e]; simp, trivial⟩
theorem bi_all {a b : Int} (ha : 0 ≤ a ∧ a ≤ 1) (hb : 0 ≤ b ∧ b ≤ 10 ^ 31) (hab : a ≤ b + 1) : (m_bad_integers a b).length = 14 ∧ ∀ u ∈ m_bad_integers a b, PU 1500 3 u ∧ (u.ty ≠ 1 ∨ ∃ i, u = .int i ∧ (i < a ∨ b < i)) := by
  refine ⟨rfl, fun u hu => ?_⟩
  have hu' : u ∈ ([U.non, U.bl true, U.bl false, U.str (Str.ofString ""), U.str (Str.ofString "1"), U.lst [], U.lst [U.int a], U.tup [U.int a], U.dic, U.int (a - 1), U.int (b + 1), U.int (a - (10 ^ 30)), U.int (b + (10 ^ 40)), U.int (0 - ((10 ^ 64) * (10 ^ 30)))] : List U) := hu
  have pa : PU 0 0 (U.int a) := pu_sm (by unfold Sm; omega)
  simp only [List.mem_cons, List.not_mem_nil, or_false] at hu'
  rcases hu' with rfl | rfl | rfl | rfl | rfl | rfl | rfl | rfl | rfl | rfl | rfl | rfl | rfl | rfl
  · exact ⟨pN, .inl (by simp [U.ty])⟩
  · exact ⟨pz (pu_bl _) (by decide) (by decide), .inl (by simp [U.ty])⟩
  · exact ⟨pz (pu_bl _) (by decide) (by decide), .inl (by simp [U.ty])⟩
  · exact ⟨pz (pu_str (n := 10) (by decide +kernel) (by decide +kernel)) (by decide) (by decide), .inl (by simp [U.ty])⟩
  · exact ⟨pz (pu_str (n := 10) (by decide +kernel) (by decide +kernel)) (by decide) (by decide), .inl (by simp [U.ty])⟩
  · exact ⟨pz (pu_lst (l := []) (k := 0) (n := 0) (m := 0) (fun w hw => by cases hw) (Nat.le_refl 0)) (by decide) (by decide), .inl (by simp [U.ty])⟩
  · exact ⟨pz (pu_lst (l := [U.int a]) (k := 1) (n := 0) (m := 0) (fun w hw => by
      rw [List.mem_singleton] at hw
      subst hw
      exact pa) (Nat.le_refl 1)) (by decide) (by decide), .inl (by simp [U.ty])⟩
  · exact ⟨pz (pu_tup (l := [U.int a]) (k := 1) (n := 0) (m := 0) (fun w hw => by
      rw [List.mem_singleton] at hw
      subst hw
      exact pa) (Nat.le_refl 1)) (by decide) (by decide), .inl (by simp [U.ty])⟩
  · exact ⟨pz pu_dic (by decide) (by decide), .inl (by simp [U.ty])⟩
  · exact ⟨pI (by omega), .inr ⟨_, rfl, .inl (by omega)⟩⟩
  · exact ⟨pI (by omega), .inr ⟨_, rfl, .inr (by omega)⟩⟩
  · exact ⟨pI (by omega), .inr ⟨_, rfl, .inl (by omega)⟩⟩
  · exact ⟨pI (by omega), .inr ⟨_, rfl, .inr (by omega)⟩⟩
  · exact ⟨pI (by decide), .inr ⟨_, rfl, .inl (by omega)⟩⟩
theorem bi_whole {u : U} {a b : Int} (h : u.ty ≠ 1 ∨ ∃ i, u = .int i ∧ (i < a ∨ b < i)) : m_is_whole__2 u a b = false := by
  rcases h with h | ⟨i, rfl, h⟩
  · exact whole_t4 h
  · exact whole_out h
end My
end
section
set_option maxRecDepth 100000
set_option exponentiation.threshold 1000
set_option maxHeartbeats 1000000
namespace My
open PySem L2 Fw TL
/-- values that are no span from a place on -/
theorem odd_all {e : Int} (h : 0 ≤ e ∧ e ≤ 10 ^ 30) : ∀ u ∈ (([U.non, U.int 0, U.str (Str.ofString ""), U.tup [], U.tup [U.int e], U.tup [U.int e, U.int (e + 1), U.int 0], U.lst [U.int e, U.int (e + 1)], U.tup [U.int (e + 1), U.int e], U.dic] : List U) ++ ([U.tup [U.int e, U.int e], U.tup [U.int (e - 1), U.int (e + 1)], U.tup [U.int e, U.int ((10 ^ 30) + 1)], U.tup [U.int (-1), U.int (e + 1)]] : List U) ++ [U.tup [U.non, U.int (e + 1)]] ++ ([U.tup [U.int e, U.non], U.tup [U.int e, U.str (Str.ofString "9")], U.tup [U.bl false, U.int (e + 1)], U.tup [U.int e, U.int (10 ^ 60)], U.tup [U.int e, U.bl true]] : List U) : List U), PU 110 2 u ∧ m_is_span__2 u e = false := by
  intro u hu
  have si : ∀ i : Int, -10 ≤ i → i ≤ 10 ^ 31 → PU 0 0 (.int i) := fun i h1 h2 => pu_sm (by unfold Sm; omega)
  have big1 : PU 0 0 (.int (10 ^ 60)) := pu_sm (by unfold Sm; decide)
  have t2 : ∀ {a b : U}, PU 32 0 a → PU 32 0 b → PU 110 2 (.tup [a, b]) := fun {a b} ha hb => (pu_tup (l := [a, b]) (k := 2) (n := 32) (m := 0) (fun w hw => by
    simp only [List.mem_cons, List.not_mem_nil, or_false] at hw
    rcases hw with rfl | rfl
    · exact ha
    · exact hb) (Nat.le_refl 2)).mono (by decide) (by decide)
  have z32 : ∀ {u : U}, PU 0 0 u → PU 32 0 u := fun h => h.mono (by decide) (by decide)
  have z110 : ∀ {u : U}, PU 0 0 u → PU 110 2 u := fun h => h.mono (by decide) (by decide)
  have i0 := si e (by omega) (by omega)
  have i1 := si (e + 1) (by omega) (by omega)
  have im := si (e - 1) (by omega) (by omega)
  have i31 := si (10 ^ 30 + 1) (by decide) (by decide)
  have in1 := si (-1) (by decide) (by decide)
  have iz := si 0 (by decide) (by decide)
  have st : PU 32 0 (U.str (Str.ofString "9")) := (pu_str (n := 10) (by decide +kernel) (by decide +kernel)).mono (by decide) (by decide)
  have no : ∀ {u : U}, (∀ x : Int × Int, u = uS x → e ≤ x.1 → x.1 < x.2 → x.2 ≤ 10 ^ 30 → False) → m_is_span__2 u e = false := fun k => by
    rw [Bool.eq_false_iff]
    intro z
    obtain ⟨x, e, h1, h2, h3⟩ := span2.mp z
    exact k x e h1 h2 h3
  have pr : ∀ {a b : Int}, (e ≤ a → a < b → b ≤ 10 ^ 30 → False) → m_is_span__2 (.tup [.int a, .int b]) e = false := fun {a b} k => no fun x e h1 h2 h3 => by
    obtain ⟨y, z⟩ := x
    have e' : U.tup [U.int a, U.int b] = U.tup [U.int y, U.int z] := e
    simp only [U.tup.injEq, List.cons.injEq, U.int.injEq, and_true] at e'
    obtain ⟨rfl, rfl⟩ := e'
    exact k h1 h2 h3
  simp only [List.mem_append, List.mem_cons, List.not_mem_nil, or_false] at hu
  rcases hu with (((rfl | rfl | rfl | rfl | rfl | rfl | rfl | rfl | rfl) | rfl | rfl | rfl | rfl) | rfl) | rfl | rfl | rfl | rfl | rfl
  · exact ⟨z110 pu_non, no fun x e => by cases e⟩
  · exact ⟨z110 iz, no fun x e => by cases e⟩
  · exact ⟨(pu_str (n := 10) (by decide +kernel) (by decide +kernel)).mono (by decide) (by decide), no fun x e => by cases e⟩
  · exact ⟨(pu_tup (l := []) (k := 0) (n := 0) (m := 0) (fun w hw => by cases hw) (Nat.le_refl 0)).mono (by decide) (by decide), no fun x e => by cases e⟩
  · exact ⟨(pu_tup (l := [U.int e]) (k := 1) (n := 0) (m := 0) (fun w hw => by
      simp only [List.mem_cons, List.not_mem_nil, or_false] at hw
      rcases hw with rfl
      exact i0) (Nat.le_refl 1)).mono (by decide) (by decide), no fun x e => by simp [uS] at e⟩
  · exact ⟨(pu_tup (l := [U.int e, U.int (e + 1), U.int 0]) (k := 3) (n := 0) (m := 0) (fun w hw => by
      simp only [List.mem_cons, List.not_mem_nil, or_false] at hw
      rcases hw with rfl | rfl | rfl
      · exact i0
      · exact i1
      · exact iz) (Nat.le_refl 3)).mono (by decide) (by decide), no fun x e => by simp [uS] at e⟩
  · exact ⟨(pu_lst (l := [U.int e, U.int (e + 1)]) (k := 2) (n := 0) (m := 0) (fun w hw => by
      simp only [List.mem_cons, List.not_mem_nil, or_false] at hw
      rcases hw with rfl | rfl
      · exact i0
      · exact i1) (Nat.le_refl 2)).mono (by decide) (by decide), no fun x e => by cases e⟩
  · exact ⟨t2 (z32 i1) (z32 i0), pr fun h1 h2 h3 => by omega⟩
  · exact ⟨pu_dic.mono (by decide) (by decide), no fun x e => by cases e⟩
  · exact ⟨t2 (z32 i0) (z32 i0), pr fun h1 h2 h3 => by omega⟩
  · exact ⟨t2 (z32 im) (z32 i1), pr fun h1 h2 h3 => by omega⟩
  · exact ⟨t2 (z32 i0) (z32 i31), pr fun h1 h2 h3 => by omega⟩
  · exact ⟨t2 (z32 in1) (z32 i1), pr fun h1 h2 h3 => by omega⟩
  · exact ⟨t2 (z32 pu_non) (z32 i1), no fun x e => by simp [uS] at e⟩
  · exact ⟨t2 (z32 i0) (z32 pu_non), no fun x e => by simp [uS] at e⟩
  · exact ⟨t2 (z32 i0) st, no fun x e => by simp [uS] at e⟩
  · exact ⟨t2 (z32 (pu_bl _)) (z32 i1), no fun x e => by simp [uS] at e⟩
  · exact ⟨t2 (z32 i0) (z32 big1), pr fun h1 h2 h3 => by omega⟩
  · exact ⟨t2 (z32 i0) (z32 (pu_bl _)), no fun x e => by simp [uS] at e⟩
/-- a list that is no spans, with its word -/
structure WL (p : U × Str) : Prop where
  b : PU 1500 3 p.1
  x : ∃ x, m_require_spans p.1 = .inl x ∧ TC x p.2
theorem wl_odd {u : U} (h : u.ty ≠ 5 ∨ 12 < u.els.length) (b : PU 1500 3 u) : WL (u, Str.ofString "InvalidSpans None") := ⟨b, _, rs_odd h, tc_none⟩
theorem sp_takeE : ∀ {l : List (Int × Int)} {a b : Int} (n : Nat), SpC a l b → n < l.length → ∃ e, SpC a (l.take (n + 1)) e ∧ e ≤ b ∧ (nth l (n : Int)).2 = e
  | [], a, b, n, _, hn => by cases hn
  | x :: l, a, b, 0, h, _ => ⟨x.2, ⟨h.1, h.2.1, rfl⟩, h.2.2.le, rfl⟩
  | x :: l, a, b, n + 1, h, hn => by
    obtain ⟨e, h1, h2, h3⟩ := sp_takeE n h.2.2 (by rw [List.length_cons] at hn; omega)
    refine ⟨e, ⟨h.1, h.2.1, h1⟩, h2, ?_⟩
    rw [← h3]
    unfold nth
    have e1 : (((n + 1 : Nat) : Int)).toNat = n + 1 := by omega
    have e2 : ((n : Int)).toNat = n := by omega
    rw [e1, e2]; rfl
theorem cut_far {u : U} {k : Int} (h : 2 ≤ k) : cutL ([u, U.non] : List U) none (some k) = [u, U.non] := by
  unfold cutL
  have e : HT.sIx ([u, U.non] : List U).length ([u, U.non] : List U).length (some k) = 2 := by
    unfold HT.sIx
    dsimp only
    simp only [List.length_cons, List.length_nil]
    split <;> omega
  rw [e]; rfl
theorem bs_all (b : Bag) {l : List (Int × Int)} (hl : Sp0 l) (hk : l.length ≤ 11) : m_bad_spans_ok b l ∧ ∀ p ∈ (m_bad_spans b l).1, WL p := by
  have p1 := pick_lt b (n := (l.length : Int) + 1) (by omega)
  have pk := pickk b (n := (l.length : Int) + 1) (by omega) (by omega)
  obtain ⟨i, hi⟩ : ∃ i, i = (m_pick b ((l.length : Int) + 1)).1 := ⟨_, rfl⟩
  rw [← hi] at p1
  obtain ⟨_, bb, hs, hb⟩ := id hl
  have ct : cutL l none (some i) = l.take i.toNat := cut_take l (by omega)
  obtain ⟨e, s1, s2, s3⟩ : ∃ e, SpC 0 (l.take i.toNat) e ∧ e ≤ bb ∧ (if (decide (0 < i)) = true then (nth l (i - 1)).2 else 0) = e := by
    by_cases z : 0 < i
    · obtain ⟨e, h1, h2, h3⟩ := sp_takeE (i.toNat - 1) hs (by omega)
      rw [show i.toNat - 1 + 1 = i.toNat by omega] at h1
      refine ⟨e, h1, h2, ?_⟩
      rw [decide_eq_true z, if_pos rfl, ← h3]
      congr 2
      omega
    · have : i = 0 := by omega
      subst this
      exact ⟨0, rfl, hs.le, rfl⟩
  have e0 : 0 ≤ e := s1.le
  have len : (l.take i.toNat).length = i.toNat := by rw [List.length_take]; omega
  obtain ⟨ps, hps⟩ : ∃ ps, ps = l.take i.toNat := ⟨_, rfl⟩
  rw [← hps] at s1 len ct
  have q3 := odd_all (e := e) ⟨e0, by omega⟩
  have pm : ∀ u ∈ ps.map uS, PU 110 2 u := pu_spans s1 (by omega)
  have one : ∀ u : U, PU 110 2 u → m_is_span__2 u e = false → ∀ rest : List U, (∀ w ∈ rest, PU 110 2 w) → i + 1 + rest.length ≤ 12 → WL (U.lst (ps.map uS ++ u :: rest), Str.ofString "InvalidSpans " ++ reprI i) := fun u hu hn rest hr hle => by
    refine ⟨?_, _, rs_bad s1 (by omega) hn (by rw [len]; omega), ?_⟩
    · refine (pu_lst (k := 12) (n := 110) (m := 2) (fun w hw => ?_) ?_).mono (by decide) (by decide)
      · rcases List.mem_append.mp hw with m | m
        · exact pm w m
        · rcases List.mem_cons.mp m with rfl | m
          · exact hu
          · exact hr w m
      · rw [List.length_append, List.length_map, List.length_cons, len]; omega
    · rw [len, show ((i.toNat : Nat) : Int) = i by omega]
      exact tc_at (by omega)
  have si : i.natAbs.log2 < 1920 := by
    have := (sm_of (k := 100) p1.1 (by omega)).lg
    omega
  have sl : (Str.ofString "InvalidSpans ").length + (reprI i).length ≤ 16000000 := by
    have : i = 0 ∨ i = 1 ∨ i = 2 ∨ i = 3 ∨ i = 4 ∨ i = 5 ∨ i = 6 ∨ i = 7 ∨ i = 8 ∨ i = 9 ∨ i = 10 ∨ i = 11 := by omega
    rcases this with rfl | rfl | rfl | rfl | rfl | rfl | rfl | rfl | rfl | rfl | rfl | rfl <;> decide +kernel
  obtain ⟨od, hod⟩ : ∃ od : List U, od = ([U.non, U.int 0, U.bl true, U.str (Str.ofString ""), U.str (Str.ofString "0-5"), U.tup [], U.dic, U.tup (List.map (fun y : Int × Int => U.tup [U.int y.1, U.int y.2]) l), U.tup [U.int 0, U.int 5], U.lst (List.map (fun y : Unit => U.non) ((List.replicate (Int.toNat (13 : Int)) ([()] : List Unit)).flatten)), U.int (10 ^ 40)] : List U) := ⟨_, rfl⟩
  have w0 : ∀ u ∈ od, WL (u, (Str.ofString "InvalidSpans None")) := by
    intro u hu
    subst hod
    simp only [List.mem_cons, List.not_mem_nil, or_false] at hu
    rcases hu with rfl | rfl | rfl | rfl | rfl | rfl | rfl | rfl | rfl | rfl | rfl
    · exact wl_odd (.inl (by decide)) pN
    · exact wl_odd (.inl (by decide)) (pI (by decide))
    · exact wl_odd (.inl (by decide)) (pz (pu_bl _) (by decide) (by decide))
    · exact wl_odd (.inl (by simp [U.ty])) (pz (pu_str (n := 10) (by decide +kernel) (by decide +kernel)) (by decide) (by decide))
    · exact wl_odd (.inl (by simp [U.ty])) (pz (pu_str (n := 10) (by decide +kernel) (by decide +kernel)) (by decide) (by decide))
    · exact wl_odd (.inl (by decide)) (pz (pu_tup (l := []) (k := 0) (n := 0) (m := 0) (fun w hw => by cases hw) (Nat.le_refl 0)) (by decide) (by decide))
    · exact wl_odd (.inl (by decide)) (pz pu_dic (by decide) (by decide))
    · refine wl_odd (.inl (by simp [U.ty])) (pz (pu_tup (k := 12) (n := 110) (m := 2) (pu_spans hs hb) (by rw [List.length_map]; omega)) (by decide) (by decide))
    · exact wl_odd (.inl (by simp [U.ty])) (pz (pu_span (x := (0, 5)) (by decide)) (by decide) (by decide))
    · refine wl_odd (.inr (by decide)) (pz (pu_lst (k := 13) (n := 0) (m := 0) (fun w hw => ?_) (by decide)) (by decide) (by decide))
      obtain ⟨y, hy, rfl⟩ := List.mem_map.mp hw
      exact pu_non
    · exact wl_odd (.inl (by simp [U.ty])) (pI (by decide))
  have lod : od.length = 11 := by rw [hod]; rfl
  obtain ⟨f1, f2⟩ := okF_invB (ok := m_bad_spans_o1) (b := m_bad_spans_b1) (m := 11) (fun n s => s.length = n ∧ ∀ p ∈ s, WL p) (l := od) (s := ([] : List (U × Str))) (n := 0) (by rw [lod]; decide) ⟨rfl, fun p hp => by cases hp⟩ fun n s u hu hn hs' => by
    refine ⟨⟨by have := hs'.1; omega, fun _ _ => trivial⟩, ?_⟩
    unfold m_bad_spans_b1
    refine ⟨by rw [List.length_append, hs'.1]; rfl, fun p hp => ?_⟩
    rcases List.mem_append.mp hp with m | m
    · exact hs'.2 p m
    · rw [List.mem_singleton] at m
      subst m; exact w0 u hu
  obtain ⟨F, hF⟩ : ∃ F, F = List.foldl m_bad_spans_b1 ([] : List (U × Str)) od := ⟨_, rfl⟩
  rw [← hF] at f2
  obtain ⟨ol, hol⟩ : ∃ ol : List U, ol = ([U.non, U.int 0, U.str (Str.ofString ""), U.tup [], U.tup [U.int e], U.tup [U.int e, U.int (e + 1), U.int 0], U.lst [U.int e, U.int (e + 1)], U.tup [U.int (e + 1), U.int e], U.dic] : List U) ++ ([U.tup [U.int e, U.int e], U.tup [U.int (e - 1), U.int (e + 1)], U.tup [U.int e, U.int ((10 ^ 30) + 1)], U.tup [U.int (-1), U.int (e + 1)]] : List U) ++ [U.tup [U.non, U.int (e + 1)]] ++ ([U.tup [U.int e, U.non], U.tup [U.int e, U.str (Str.ofString "9")], U.tup [U.bl false, U.int (e + 1)], U.tup [U.int e, U.int (10 ^ 60)], U.tup [U.int e, U.bl true]] : List U) := ⟨_, rfl⟩
  rw [← hol] at q3
  have lol : ol.length = 19 := by rw [hol]; rfl
  obtain ⟨g1, g2⟩ := okF_invB (ok := m_bad_spans_o2 l i) (b := m_bad_spans_b2 l i) (m := 19) (fun n s => s.length ≤ 11 + 2 * n ∧ ∀ p ∈ s, WL p) (l := ol) (s := F) (n := 0) (by rw [lol]; decide) ⟨by rw [f2.1, lod]; decide, f2.2⟩ fun n s u hu hn hs' => by
    obtain ⟨p1', p2⟩ := q3 u hu
    have l1 : (List.map (fun y : Int × Int => U.tup [U.int y.1, U.int y.2]) ps).length = i.toNat := by rw [List.length_map]; exact len
    have w1 := one u p1' p2 [] (fun w hw => by cases hw) (by show i + 1 + ((0 : Nat) : Int) ≤ 12; omega)
    have hs1 := hs'.1
    have c2 : ∃ rest : List U, cutL ([u, U.non] : List U) none (some (12 - i)) = u :: rest ∧ (∀ w ∈ rest, PU 110 2 w) ∧ i + 1 + rest.length ≤ 12 ∧ rest.length ≤ 1 := by
      by_cases z : i = 11
      · refine ⟨[], ?_, (fun w hw => by cases hw), (by rw [z]; decide), by decide⟩
        rw [z, cut_take [u, U.non] (k := 12 - 11) ⟨by decide, by show (12 : Int) - 11 ≤ ((2 : Nat) : Int); decide⟩]; rfl
      · refine ⟨[U.non], ?_, (fun w hw => ?_), (by show i + 1 + ((1 : Nat) : Int) ≤ 12; omega), by decide⟩
        · by_cases y : i = 10
          · rw [y, cut_take [u, U.non] (k := 12 - 10) ⟨by decide, by show (12 : Int) - 10 ≤ ((2 : Nat) : Int); decide⟩]; rfl
          · have : i = 0 ∨ i = 1 ∨ i = 2 ∨ i = 3 ∨ i = 4 ∨ i = 5 ∨ i = 6 ∨ i = 7 ∨ i = 8 ∨ i = 9 := by omega
            rcases this with rfl | rfl | rfl | rfl | rfl | rfl | rfl | rfl | rfl | rfl <;> exact cut_far (by decide)
        · rw [List.mem_singleton] at hw
          subst hw
          exact pu_non.mono (by decide) (by decide)
    obtain ⟨rest, c3, c4, c5, c6⟩ := c2
    have w2 := one u p1' p2 rest c4 c5
    refine ⟨?_, ?_⟩
    · unfold m_bad_spans_o2
      rw [ct, c3]
      refine ⟨by rw [l1]; show i.toNat + 1 ≤ 16000000; omega, si, sl, by omega, fun f ef => ⟨by rw [l1, List.length_cons]; omega, si, sl, by rw [ef, List.length_append]; show s.length + 1 < 16000000; omega, fun _ _ => trivial⟩⟩
    · unfold m_bad_spans_b2
      rw [ct, c3]
      dsimp only
      refine ⟨by rw [List.length_append, List.length_append]; show s.length + 1 + 1 ≤ _; omega, fun p hp => ?_⟩
      rcases List.mem_append.mp hp with m | m
      · rcases List.mem_append.mp m with m | m
        · exact hs'.2 p m
        · rw [List.mem_singleton] at m
          subst m; exact w1
      · rw [List.mem_singleton] at m
        subst m; exact w2
  refine ⟨?_, ?_⟩
  · unfold m_bad_spans_ok
    rw [← hod, ← hi]
    refine ⟨⟨by decide, by decide, by decide⟩, f1, fun F' eF => ⟨pk, fun i' ei b' eb => ?_⟩⟩
    subst i' b'
    rw [← hF] at eF
    subst F'
    refine ⟨fun z => by have := of_decide_eq_true z; omega, fun e' ee => ?_⟩
    rw [s3] at ee
    subst e'
    refine fun o1 eo1 => ⟨by rw [eo1]; simp, fun o2 eo2 => ?_⟩
    subst o1
    refine ⟨by rw [eo2]; simp, fun o3 eo3 => ?_⟩
    subst o2 o3
    rw [← hol]
    exact ⟨by simp, g1, fun _ _ => trivial⟩
  · unfold m_bad_spans
    dsimp only
    rw [← hod, ← hi, s3, ← hF, ← hol]
    exact g2.2
end My
end
section
set_option maxRecDepth 100000
set_option exponentiation.threshold 1000
set_option maxHeartbeats 2000000
namespace My
open PySem L2 Fw TL
theorem strs2 {w : Str} (h : (PyData.str w).canLay0 = true) : StrsOk [w, w] := by
  show ((PyData.str w).canLay0 && ((PyData.str w).canLay0 && true)) = true
  rw [h]; rfl
theorem strs4 {w : Str} (h : (PyData.str w).canLay0 = true) : StrsOk [w, w, w, w] := by
  show ((PyData.str w).canLay0 && ((PyData.str w).canLay0 && ((PyData.str w).canLay0 && ((PyData.str w).canLay0 && true)))) = true
  rw [h]; rfl
theorem strs5 {w : Str} (h : (PyData.str w).canLay0 = true) : StrsOk [w, w, w, w, w] := by
  show ((PyData.str w).canLay0 && ((PyData.str w).canLay0 && ((PyData.str w).canLay0 && ((PyData.str w).canLay0 && ((PyData.str w).canLay0 && true))))) = true
  rw [h]; rfl
theorem rep2 (w : Str) : (List.replicate (Int.toNat (2 : Int)) ([w] : List Str)).flatten = [w, w] := rfl
theorem rep3 (w : Str) : (List.replicate (Int.toNat (3 : Int)) ([w] : List Str)).flatten = [w, w, w] := rfl
theorem rep4 (w : Str) : (List.replicate (Int.toNat (4 : Int)) ([w] : List Str)).flatten = [w, w, w, w] := rfl
theorem rep5 (w : Str) : (List.replicate (Int.toNat (5 : Int)) ([w] : List Str)).flatten = [w, w, w, w, w] := rfl
theorem nde (l : List Str) : (!decide (l = l)) = false := by rw [decide_eq_true rfl]; rfl
theorem c2s {w x y : Str} (s : (PyData.str w).canLay0 = true) (hx : x = w) (hy : y = w) : ((0 : Int) ≤ (2 : Int) ∧ (2 : Int) ≤ (1000 : Int) ∧ ([w] : List Str).length ≤ 1000) ∧ (StrsOk ([x, y] : List Str) ∧ StrsOk ((List.replicate (Int.toNat (2 : Int)) ([w] : List Str)).flatten)) ∧ (!decide (([x, y] : List Str) = ((List.replicate (Int.toNat (2 : Int)) ([w] : List Str)).flatten))) = false ∧ True := by
  subst hx hy
  rw [rep2]
  exact ⟨⟨by decide, by decide, by show 1 ≤ 1000; decide⟩, ⟨strs2 s, strs2 s⟩, nde _, trivial⟩
theorem c3s {w x y z : Str} (s : (PyData.str w).canLay0 = true) (hx : x = w) (hy : y = w) (hz : z = w) : ((0 : Int) ≤ (3 : Int) ∧ (3 : Int) ≤ (1000 : Int) ∧ ([w] : List Str).length ≤ 1000) ∧ (StrsOk ([x, y, z] : List Str) ∧ StrsOk ((List.replicate (Int.toNat (3 : Int)) ([w] : List Str)).flatten)) ∧ (!decide (([x, y, z] : List Str) = ((List.replicate (Int.toNat (3 : Int)) ([w] : List Str)).flatten))) = false ∧ True := by
  subst hx hy hz
  rw [rep3]
  exact ⟨⟨by decide, by decide, by show 1 ≤ 1000; decide⟩, ⟨strs3 s, strs3 s⟩, nde _, trivial⟩
theorem c4s {w x y z u : Str} (s : (PyData.str w).canLay0 = true) (hx : x = w) (hy : y = w) (hz : z = w) (hu : u = w) : ((0 : Int) ≤ (4 : Int) ∧ (4 : Int) ≤ (1000 : Int) ∧ ([w] : List Str).length ≤ 1000) ∧ (StrsOk ([x, y, z, u] : List Str) ∧ StrsOk ((List.replicate (Int.toNat (4 : Int)) ([w] : List Str)).flatten)) ∧ (!decide (([x, y, z, u] : List Str) = ((List.replicate (Int.toNat (4 : Int)) ([w] : List Str)).flatten))) = false ∧ True := by
  subst hx hy hz hu
  rw [rep4]
  exact ⟨⟨by decide, by decide, by show 1 ≤ 1000; decide⟩, ⟨strs4 s, strs4 s⟩, nde _, trivial⟩
theorem rp1 {a : U} (ha : PU 1500 3 a) : ReprU (.lst [a]) := rp_tail (fun u hu => by
  simp only [List.mem_cons, List.not_mem_nil, or_false] at hu
  rcases hu with rfl
  exact ha) (Nat.le_of_ble_eq_true rfl)
theorem rp0 : ReprU (.lst []) := rp_tail (fun u hu => by cases hu) (Nat.le_of_ble_eq_true rfl)
theorem rp2 {a b : U} (ha : PU 1500 3 a) (hb : PU 1500 3 b) : ReprU (.lst [a, b]) := rp_tail (fun u hu => by
  simp only [List.mem_cons, List.not_mem_nil, or_false] at hu
  rcases hu with rfl | rfl
  · exact ha
  · exact hb) (Nat.le_of_ble_eq_true rfl)
theorem rp3 {a b c : U} (ha : PU 1500 3 a) (hb : PU 1500 3 b) (hc : PU 1500 3 c) : ReprU (.lst [a, b, c]) := rp_tail (fun u hu => by
  simp only [List.mem_cons, List.not_mem_nil, or_false] at hu
  rcases hu with rfl | rfl | rfl
  · exact ha
  · exact hb
  · exact hc) (Nat.le_of_ble_eq_true rfl)
theorem rp4 {a b c d : U} (ha : PU 1500 3 a) (hb : PU 1500 3 b) (hc : PU 1500 3 c) (hd : PU 1500 3 d) : ReprU (.lst [a, b, c, d]) := rp_tail (fun u hu => by
  simp only [List.mem_cons, List.not_mem_nil, or_false] at hu
  rcases hu with rfl | rfl | rfl | rfl
  · exact ha
  · exact hb
  · exact hc
  · exact hd) (Nat.le_of_ble_eq_true rfl)
/-! Table(..) -/
theorem in_cap {a b c : U} (h : m_is_whole__2 a 1 1000000000000000000000000000000 = false) : m_Table___init__4 () a b c = .inl ⟨4, none⟩ := by
  unfold m_Table___init__4
  rw [h]; rfl
theorem in_rate {a b c : U} (h : m_is_whole__2 a 1 1000000000000000000000000000000 = true) (g : ((!(m_is_whole__2 b 1 1000000000000000000000000000000)) || (decide ((Builtin.bitAnd (U.unI b) 1) = 0))) = true) : m_Table___init__4 () a b c = .inl ⟨5, none⟩ := by
  unfold m_Table___init__4
  rw [h, g]; rfl
theorem in_shift {a b : Int} {c : U} (ha : 1 ≤ a ∧ a ≤ 10 ^ 30) (hb : 1 ≤ b ∧ b ≤ 10 ^ 30) (ho : b % 2 = 1) (h : m_is_whole__2 c 0 1000000000000000000000000000000 = false) : m_Table___init__4 () (.int a) (.int b) c = .inl ⟨6, none⟩ := by
  unfold m_Table___init__4
  have e : Builtin.bitAnd (U.unI (.int b)) 1 = b % 2 := mask b 1
  have e1 : m_is_whole__2 (.int a) 1 1000000000000000000000000000000 = true := whole2.mpr ⟨a, rfl, ha.1, ha.2⟩
  have e2 : m_is_whole__2 (.int b) 1 1000000000000000000000000000000 = true := whole2.mpr ⟨b, rfl, hb.1, hb.2⟩
  rw [e1, e2, e, ho, h]; rfl
theorem made_all (b : Bag) : m_made_right_ok b ∧ (m_made_right b).1 = true := by
  obtain ⟨a1, a2⟩ := three_all b (most := 10 ^ 30) (by decide)
  obtain ⟨t, ht⟩ : ∃ t, t = (m_three b (10 ^ 30)).1 := ⟨_, rfl⟩
  rw [← ht] at a2
  obtain ⟨T, hT⟩ : ∃ T : Tbl, T = ⟨t.1, t.2.1, t.2.2⟩ := ⟨_, rfl⟩
  have a2' := a2
  have ac := a2.c; have ar := a2.r; have as' := a2.s; have ao := a2.o
  dsimp only at ac ar as' ao
  rw [← hT] at a2
  have pr : PU 1500 3 (U.int t.2.1) := pI (by omega)
  have ps : PU 1500 3 (U.int t.2.2) := pI (by omega)
  have g1 : okF (m_made_right_o1 t) (m_made_right_b1 t) () (m_bad_integers 1 (10 ^ 30)) := (okF_I (fun _ => True) trivial fun s u hu _ => ⟨by
    obtain ⟨p, q⟩ := (bi_all (a := 1) (b := 10 ^ 30) (by decide) (by decide) (by decide)).2 u hu
    have w := in_cap (b := U.int t.2.1) (c := U.int t.2.2) (bi_whole q)
    have w' := in_cap (b := U.non) (c := U.non) (bi_whole q)
    obtain ⟨x1, x2⟩ := told_err (rp2 pr ps) (c0_err w).1 (c0_err w).2 tc_cap
    obtain ⟨y1, y2⟩ := told_err (rp2 pN pN) (c0_err w').1 (c0_err w').2 tc_cap
    exact ⟨x1, y1, c2s tc_cap.s x2 y2⟩, trivial⟩).1
  have g2 : okF (m_made_right_o2 t) (m_made_right_b2 t) () ((m_bad_integers 1 (10 ^ 30 - 1)) ++ ([U.int 2, U.int (10 ^ 30), U.int 4] : List U)) := (okF_I (fun _ => True) trivial fun s u hu _ => ⟨by
    have k : PU 1500 3 u ∧ ((!(m_is_whole__2 u 1 1000000000000000000000000000000)) || (decide ((Builtin.bitAnd (U.unI u) 1) = 0))) = true := by
      rcases List.mem_append.mp hu with m | m
      · obtain ⟨p, q⟩ := (bi_all (a := 1) (b := 10 ^ 30 - 1) (by decide) (by decide) (by decide)).2 u m
        refine ⟨p, ?_⟩
        rcases q with q | ⟨i, rfl, q⟩
        · rw [whole_t4 q]; rfl
        · by_cases z : i = 10 ^ 30
          · rw [z]; decide +kernel
          · rw [whole_out (i := i) (a := 1) (b := 1000000000000000000000000000000) (by omega)]; rfl
      · simp only [List.mem_cons, List.not_mem_nil, or_false] at m
        rcases m with rfl | rfl | rfl
        · exact ⟨pI (by decide), by decide +kernel⟩
        · exact ⟨pI (by decide), by decide +kernel⟩
        · exact ⟨pI (by decide), by decide +kernel⟩
    have w := in_rate (a := U.int t.1) (c := U.int t.2.2) (whole2.mpr ⟨t.1, rfl, ac.1, ac.2⟩) k.2
    have w' := in_rate (a := U.int t.1) (c := U.non) (whole2.mpr ⟨t.1, rfl, ac.1, ac.2⟩) k.2
    obtain ⟨x1, x2⟩ := told_err (rp2 k.1 ps) (c0_err w).1 (c0_err w).2 tc_rate
    obtain ⟨y1, y2⟩ := told_err (rp2 k.1 pN) (c0_err w').1 (c0_err w').2 tc_rate
    exact ⟨x1, y1, c2s tc_rate.s x2 y2⟩, trivial⟩).1
  have g3 : okF (m_made_right_o3 t) (m_made_right_b3 t) () (m_bad_integers 0 (10 ^ 30)) := (okF_I (fun _ => True) trivial fun s u hu _ => ⟨by
    obtain ⟨p, q⟩ := (bi_all (a := 0) (b := 10 ^ 30) (by decide) (by decide) (by decide)).2 u hu
    have w := in_shift ac ar ao (bi_whole q)
    obtain ⟨x1, x2⟩ := told_err (rp2 pr p) (c0_err w).1 (c0_err w).2 tc_shift
    exact ⟨x1, by rw [x2, decide_eq_true rfl]; rfl, trivial⟩, trivial⟩).1
  have g4 : okF (m_made_right_o4 T) (m_made_right_b4 T) () (m_bad_integers 0 (10 ^ 30 - 1)) := (okF_I (fun _ => True) trivial fun s u hu _ => ⟨by
    obtain ⟨p, q⟩ := (bi_all (a := 0) (b := 10 ^ 30 - 1) (by decide) (by decide) (by decide)).2 u hu
    have kb := ky_bad (bi_whole q)
    obtain ⟨d1, e1⟩ := c1_ok a2 u
    obtain ⟨d2, e2⟩ := c2_ok a2 u (.int 1)
    obtain ⟨d3, e3⟩ := c2_ok a2 u .non
    rw [kb] at e1 e2 e3
    obtain ⟨x1, x2⟩ := told_err (rp1 p) d1 e1 tc_key
    obtain ⟨y1, y2⟩ := told_err (rp2 p (pI (by decide))) d2 e2 tc_key
    obtain ⟨z1, z2⟩ := told_err (rp2 p pN) d3 e3 tc_key
    refine ⟨x1, y1, z1, fun o eo => ?_⟩
    subst eo
    exact c3s tc_key.s x2 y2 z2, trivial⟩).1
  have dp : ∀ u ∈ m_bad_integers 0 100, m_told_ok 2 ([U.tbl T, U.int 5, u] : List U) ∧ m_told 2 ([U.tbl T, U.int 5, u] : List U) = Str.ofString "InvalidDepth" := fun u hu => by
    obtain ⟨p, q⟩ := (bi_all (a := 0) (b := 100) (by decide) (by decide) (by decide)).2 u hu
    obtain ⟨d2, e2⟩ := c2_ok a2 (.int 5) u
    rw [ky_good (d := 5) (by decide)] at e2
    have e3 : xOf (m_called 2 [U.tbl T, U.int 5, u]) = some ⟨9, none⟩ := by
      rw [e2]
      show xOf (m_require_depth u) = _
      rw [rd_bad (bi_whole q)]; rfl
    exact told_err (rp2 (pI (by decide)) p) d2 e3 tc_depth
  have fl : (List.filter (fun (x_20 : U) => !decide ((m_told 2 ([U.tbl T, U.int 5, x_20] : List U)) = (Str.ofString "InvalidDepth"))) (m_bad_integers 0 100)) = [] := by
    rw [List.filter_eq_nil_iff]
    intro u hu
    rw [(dp u hu).2, decide_eq_true rfl]
    exact Bool.false_ne_true
  have tb1 : TOk ⟨10 ^ 30, 10 ^ 30 - 1, 10 ^ 30⟩ := ⟨by decide, by decide, by decide, by decide⟩
  have tb2 : TOk ⟨1, 1, 0⟩ := ⟨by decide, by decide, by decide, by decide⟩
  obtain ⟨f1, f2⟩ := c0_fine tb1 (pI (by decide)) (pI (by decide))
  obtain ⟨f3, f4⟩ := c0_fine tb2 (pI (by decide)) (pI (by decide))
  obtain ⟨f5, f6⟩ : m_told_ok 1 ([U.tbl T, U.int (10 ^ 30 - 1)] : List U) ∧ m_told 1 ([U.tbl T, U.int (10 ^ 30 - 1)] : List U) = Str.ofString "fine" := by
    obtain ⟨d1, e1⟩ := c1_ok a2 (.int (10 ^ 30 - 1))
    rw [ky_good (d := 10 ^ 30 - 1) (by decide)] at e1
    exact told_fine (rp1 (pI (by decide))) d1 e1
  have f7 : ∀ x ∈ ([0, 100] : List Int), m_told_ok 2 ([U.tbl T, U.int 0, U.int x] : List U) ∧ m_told 2 ([U.tbl T, U.int 0, U.int x] : List U) = Str.ofString "fine" := fun x hx => by
    obtain ⟨d1, e1⟩ := c2_ok a2 (.int 0) (.int x)
    have hx' : 0 ≤ x ∧ x ≤ 100 := by
      simp only [List.mem_cons, List.not_mem_nil, or_false] at hx
      rcases hx with rfl | rfl <;> decide
    have e2 : xOf (m_called 2 [U.tbl T, U.int 0, U.int x]) = none := by
      rw [e1, ky_good (d := 0) (by decide)]
      show xOf (m_require_depth (.int x)) = _
      rw [rd_good hx']; rfl
    exact told_fine (rp2 (pI (by decide)) (pI (by omega))) d1 e2
  have m7 : (List.map (fun (x_23 : Int) => m_told 2 ([U.tbl T, U.int 0, U.int x_23] : List U)) ([0, 100] : List Int)) = [Str.ofString "fine", Str.ofString "fine"] := by
    rw [List.map_cons, List.map_cons, List.map_nil, (f7 0 (by decide)).2, (f7 100 (by decide)).2]
  have fc : (PyData.str (Str.ofString "fine")).canLay0 = true := by decide +kernel
  constructor
  · unfold m_made_right_ok
    rw [← ht]
    refine ⟨a1, fun t' et b' _ => ?_⟩
    subst t'
    refine ⟨make_ok a2', fun T' eT => ?_⟩
    rw [← hT] at eT
    subst T'
    intro far efar
    subst far
    refine ⟨bi_ok _ _, g1, fun _ _ => ⟨bi_ok _ _, bi_ok _ _, by decide, g2, fun _ _ => ⟨bi_ok _ _, g3, fun _ _ => ⟨bi_ok _ _, g4, fun _ _ => ⟨bi_ok _ _, fun u hu => (dp u hu).1, by decide, ?_, f1, f3, f5, fun o eo => ?_⟩⟩⟩⟩⟩
    · rw [fl]; rfl
    · rw [f2, f4, f6] at eo
      subst eo
      refine ⟨fun x hx => (f7 x hx).1, by decide, by rw [m7]; decide, ⟨by decide, by decide, by show 1 ≤ 1000; decide⟩, ⟨?_, ?_⟩, trivial⟩
      · rw [m7]; exact strs5 fc
      · rw [rep5]; exact strs5 fc
  · unfold m_made_right
    dsimp only
    rw [← ht, ← hT, f2, f4, f6, m7, rep5]
    exact decide_eq_true rfl
theorem right_all (b : Bag) : m_right_ok b ∧ (m_right b).1 = true := by
  obtain ⟨a1, a2⟩ := three_all b (most := 9) (by decide)
  obtain ⟨t, ht⟩ : ∃ t, t = (m_three b 9).1 := ⟨_, rfl⟩
  obtain ⟨b3, hb3⟩ : ∃ b3, b3 = (m_three b 9).2 := ⟨_, rfl⟩
  rw [← ht] at a2
  obtain ⟨T, hT⟩ : ∃ T : Tbl, T = ⟨t.1, t.2.1, t.2.2⟩ := ⟨_, rfl⟩
  have a2' := a2
  rw [← hT] at a2
  have p1 := pick_lt b3 (n := 2) (by decide)
  have n1 := nth2 (9 : Int) (10 ^ 28) p1
  obtain ⟨w, hw⟩ : ∃ w, w = nth ([9, 10 ^ 28] : List Int) ((m_pick b3 2).1) := ⟨_, rfl⟩
  have w1 : 0 < w ∧ w ≤ 10 ^ 28 := by
    rw [hw]
    rcases n1 with e | e <;> rw [e] <;> decide
  obtain ⟨c1, c2, e, c3, c4⟩ := spans_all (m_pick b3 2).2 (many := 11) (wide := w) (by decide) w1
  obtain ⟨l, hl⟩ : ∃ l, l = (m_spans (m_pick b3 2).2 11 w).1 := ⟨_, rfl⟩
  obtain ⟨b4, hb4⟩ : ∃ b4, b4 = (m_spans (m_pick b3 2).2 11 w).2 := ⟨_, rfl⟩
  rw [← hl] at c2 c3
  have sl : Sp0 l := ⟨by omega, e, c3, by omega⟩
  have p2 := pick_lt b4 (n := 101) (by decide)
  obtain ⟨d, hd⟩ : ∃ d, d = (m_pick b4 101).1 := ⟨_, rfl⟩
  obtain ⟨b7, hb7⟩ : ∃ b7, b7 = (m_pick b4 101).2 := ⟨_, rfl⟩
  rw [← hd] at p2
  have hd1 : 0 ≤ d ∧ d ≤ 100 := by omega
  obtain ⟨s1, s2⟩ := bs_all b7 sl (by omega)
  obtain ⟨r1, r2⟩ := made_all (m_bad_spans b7 l).2
  have ft : ∀ T', U.tbl T = .tbl T' → TOk T' := fun T' e => by cases e; exact a2
  have pw0 := pw_pos d.toNat
  have pw1 : (2 : Int) ^ d.toNat ≤ 2 ^ 100 := pw_lt (by omega)
  have psl : PU 1500 3 (U.lst (List.map (fun y : Int × Int => U.tup [U.int y.1, U.int y.2]) l)) := pz (pu_lst (k := 12) (n := 110) (m := 2) (pu_spans c3 (by omega)) (by rw [List.length_map]; omega)) (by decide) (by decide)
  have p0 : PU 1500 3 (U.int 0) := pI (by decide)
  have pd : PU 1500 3 (U.int d) := pI (by omega)
  have pe : PU 1500 3 (U.lst []) := pz (pu_lst (l := []) (k := 0) (n := 0) (m := 0) (fun w hw => by cases hw) (Nat.le_refl 0)) (by decide) (by decide)
  have g1 : okF (m_right_o1 l) (m_right_b1 l) () m_bad_tables := (okF_I (fun _ => True) trivial fun s u hu _ => ⟨by
    have hu' : u ∈ ([U.non, U.int 0, U.bl true, U.str (Str.ofString ""), U.str (Str.ofString "2 1 0"), U.tup [U.int 2, U.int 1, U.int 0], U.lst [U.int 2, U.int 1, U.int 0], U.lst [], U.tup [], U.dic, U.int (10 ^ 40)] : List U) := hu
    have u7 : u.ty ≠ 7 := by
      simp only [List.mem_cons, List.not_mem_nil, or_false] at hu'
      rcases hu' with rfl | rfl | rfl | rfl | rfl | rfl | rfl | rfl | rfl | rfl | rfl <;> simp [U.ty]
    have f0 : ∀ T', u = .tbl T' → TOk T' := fun T' e => absurd (by rw [e]; rfl) u7
    obtain ⟨d1, e1⟩ := c4_ok f0 (U.lst (List.map (fun y : Int × Int => U.tup [U.int y.1, U.int y.2]) l)) (.int 0) (.int 0)
    obtain ⟨d2, e2⟩ := c4_ok f0 .non .non .non
    obtain ⟨d3, e3⟩ := c5_ok f0 .non .non .non .non
    rw [rp_tab u7] at e1 e2 e3
    obtain ⟨x1, x2⟩ := told_err (rp3 psl p0 p0) d1 e1 tc_table
    obtain ⟨y1, y2⟩ := told_err (rp3 pN pN pN) d2 e2 tc_table
    obtain ⟨z1, z2⟩ := told_err (rp4 pN pN pN pN) d3 e3 tc_table
    refine ⟨x1, y1, fun o eo => ⟨z1, ?_⟩⟩
    rw [x2, y2] at eo
    subst eo
    rw [z2]
    exact ⟨by decide, c3s tc_table.s rfl rfl rfl⟩, trivial⟩).1
  have g2 : okF (m_right_o2 T) (m_right_b2 T) () ((m_bad_spans b7 l).1) := (okF_I (fun _ => True) trivial fun s p hp _ => ⟨by
    obtain ⟨pu, x, q1, q2⟩ := s2 p hp
    obtain ⟨d1, e1⟩ := c3_ok p.1
    obtain ⟨d2, e2⟩ := c4_ok ft p.1 (.int 0) (.int 0)
    obtain ⟨d3, e3⟩ := c4_ok ft p.1 .non .non
    obtain ⟨d4, e4⟩ := c5_ok ft p.1 .non (.int 0) (.int 0)
    rw [q1] at e1
    rw [rp_sp q1] at e2 e3 e4
    obtain ⟨x1, x2⟩ := told_err rp0 d1 e1 q2
    obtain ⟨y1, y2⟩ := told_err (rp3 pu p0 p0) d2 e2 q2
    obtain ⟨z1, z2⟩ := told_err (rp3 pu pN pN) d3 e3 q2
    obtain ⟨v1, v2⟩ := told_err (rp4 pu pN p0 p0) d4 e4 q2
    refine ⟨x1, y1, z1, fun o eo => ⟨v1, ?_⟩⟩
    rw [x2, y2, z2] at eo
    subst eo
    rw [v2]
    exact ⟨by show 3 + 1 ≤ 16000000; decide, c4s q2.s rfl rfl rfl rfl⟩, trivial⟩).1
  have g3 : okF (m_right_o3 T l) (m_right_b3 T l) () (m_bad_integers 0 100) := (okF_I (fun _ => True) trivial fun s u hu _ => ⟨by
    obtain ⟨p, q⟩ := (bi_all (a := 0) (b := 100) (by decide) (by decide) (by decide)).2 u hu
    obtain ⟨d1, e1⟩ := c4_ok ft (U.lst (List.map (fun y : Int × Int => U.tup [U.int y.1, U.int y.2]) l)) u .non
    obtain ⟨d2, e2⟩ := c5_ok ft (U.lst (List.map (fun y : Int × Int => U.tup [U.int y.1, U.int y.2]) l)) u .non .non
    rw [rp_depth sl (bi_whole q)] at e1 e2
    obtain ⟨x1, x2⟩ := told_err (rp3 psl p pN) d1 e1 tc_depth
    obtain ⟨y1, y2⟩ := told_err (rp4 psl p pN pN) d2 e2 tc_depth
    refine ⟨x1, y1, fun o eo => ?_⟩
    subst eo
    exact c2s tc_depth.s x2 y2, trivial⟩).1
  have g4 : okF (m_right_o4 T l d) (m_right_b4 T l d) () (m_bad_integers 0 ((1 * 2 ^ d.toNat) - 1)) := (okF_I (fun _ => True) trivial fun s u hu _ => ⟨by
    obtain ⟨p, q⟩ := (bi_all (a := 0) (b := (1 * 2 ^ d.toNat) - 1) (by decide) (by rw [pw_eq]; omega) (by rw [pw_eq]; omega)).2 u hu
    obtain ⟨d1, e1⟩ := c4_ok ft (U.lst (List.map (fun y : Int × Int => U.tup [U.int y.1, U.int y.2]) l)) (.int d) u
    obtain ⟨d2, e2⟩ := c5_ok ft (U.lst (List.map (fun y : Int × Int => U.tup [U.int y.1, U.int y.2]) l)) (.int d) u (.int 0)
    obtain ⟨d3, e3⟩ := c5_ok ft (U.lst (List.map (fun y : Int × Int => U.tup [U.int y.1, U.int y.2]) l)) (.int d) u .non
    rw [rp_tl sl hd1 (bi_whole q)] at e1 e2 e3
    obtain ⟨x1, x2⟩ := told_err (rp3 psl pd p) d1 e1 tc_tail
    obtain ⟨y1, y2⟩ := told_err (rp4 psl pd p p0) d2 e2 tc_tail
    obtain ⟨z1, z2⟩ := told_err (rp4 psl pd p pN) d3 e3 tc_tail
    refine ⟨x1, y1, fun o eo => ⟨z1, ?_⟩⟩
    rw [x2, y2] at eo
    subst eo
    rw [z2]
    exact ⟨by decide, c3s tc_tail.s rfl rfl rfl⟩, trivial⟩).1
  have g5 : okF (m_right_o5 T l d) (m_right_b5 T l d) () ([U.non, U.bl true, U.bl false, U.str (Str.ofString ""), U.str (Str.ofString "1"), U.lst [U.int 1], U.tup [U.int 1], U.dic, U.int (-1), U.int (0 - (10 ^ 60))] : List U) := (okF_I (fun _ => True) trivial fun s u hu _ => ⟨by
    have k : PU 1500 3 u ∧ (u.ty ≠ 1 ∨ ∃ i, u = .int i ∧ i < 0) := by
      simp only [List.mem_cons, List.not_mem_nil, or_false] at hu
      rcases hu with rfl | rfl | rfl | rfl | rfl | rfl | rfl | rfl | rfl | rfl
      · exact ⟨pN, .inl (by simp [U.ty])⟩
      · exact ⟨pz (pu_bl _) (by decide) (by decide), .inl (by simp [U.ty])⟩
      · exact ⟨pz (pu_bl _) (by decide) (by decide), .inl (by simp [U.ty])⟩
      · exact ⟨pz (pu_str (n := 10) (by decide +kernel) (by decide +kernel)) (by decide) (by decide), .inl (by simp [U.ty])⟩
      · exact ⟨pz (pu_str (n := 10) (by decide +kernel) (by decide +kernel)) (by decide) (by decide), .inl (by simp [U.ty])⟩
      · exact ⟨pz (pu_lst (l := [U.int 1]) (k := 1) (n := 0) (m := 0) (fun w hw => by
          rw [List.mem_singleton] at hw
          subst hw
          exact pu_sm (by unfold Sm; decide)) (Nat.le_refl 1)) (by decide) (by decide), .inl (by simp [U.ty])⟩
      · exact ⟨pz (pu_tup (l := [U.int 1]) (k := 1) (n := 0) (m := 0) (fun w hw => by
          rw [List.mem_singleton] at hw
          subst hw
          exact pu_sm (by unfold Sm; decide)) (Nat.le_refl 1)) (by decide) (by decide), .inl (by simp [U.ty])⟩
      · exact ⟨pz pu_dic (by decide) (by decide), .inl (by simp [U.ty])⟩
      · exact ⟨pI (by decide), .inr ⟨_, rfl, by decide⟩⟩
      · exact ⟨pI (by decide), .inr ⟨_, rfl, by decide⟩⟩
    obtain ⟨d1, e1⟩ := c5_ok ft (U.lst (List.map (fun y : Int × Int => U.tup [U.int y.1, U.int y.2]) l)) (.int d) (.int 0) u
    have e2 : xOf (m_called 5 [U.tbl T, U.lst (List.map (fun y : Int × Int => U.tup [U.int y.1, U.int y.2]) l), U.int d, U.int 0, u]) = some ⟨12, none⟩ := by
      rw [e1, rp_good sl hd1 (j := 0) ⟨Int.le_refl _, pw0⟩]
      show xOf (m_require_number u) = _
      rw [nm_bad k.2]; rfl
    obtain ⟨x1, x2⟩ := told_err (rp4 psl pd p0 k.1) d1 e2 tc_number
    exact ⟨x1, by rw [x2, decide_eq_true rfl]; rfl, trivial⟩, trivial⟩).1
  obtain ⟨f1, f2⟩ : m_told_ok 3 ([U.lst (List.map (fun y : Int × Int => U.tup [U.int y.1, U.int y.2]) l)] : List U) ∧ m_told 3 ([U.lst (List.map (fun y : Int × Int => U.tup [U.int y.1, U.int y.2]) l)] : List U) = Str.ofString "fine" := by
    obtain ⟨d1, e1⟩ := c3_ok (U.lst (List.map (fun y : Int × Int => U.tup [U.int y.1, U.int y.2]) l))
    rw [rs_good sl] at e1
    exact told_fine rp0 d1 e1
  obtain ⟨f3, f4⟩ : m_told_ok 3 ([U.lst []] : List U) ∧ m_told 3 ([U.lst []] : List U) = Str.ofString "fine" := by
    obtain ⟨d1, e1⟩ := c3_ok (U.lst [])
    have sn : Sp0 [] := ⟨by decide, 0, rfl, by decide⟩
    rw [show m_require_spans (.lst []) = .inr () from rs_good sn] at e1
    exact told_fine rp0 d1 e1
  obtain ⟨f5, f6⟩ : m_told_ok 4 ([U.tbl T, U.lst (List.map (fun y : Int × Int => U.tup [U.int y.1, U.int y.2]) l), U.int d, U.int ((1 * 2 ^ d.toNat) - 1)] : List U) ∧ m_told 4 ([U.tbl T, U.lst (List.map (fun y : Int × Int => U.tup [U.int y.1, U.int y.2]) l), U.int d, U.int ((1 * 2 ^ d.toNat) - 1)] : List U) = Str.ofString "fine" := by
    obtain ⟨d1, e1⟩ := c4_ok ft (U.lst (List.map (fun y : Int × Int => U.tup [U.int y.1, U.int y.2]) l)) (.int d) (.int ((1 * 2 ^ d.toNat) - 1))
    rw [rp_good sl hd1 (j := (1 * 2 ^ d.toNat) - 1) (by rw [pw_eq]; omega)] at e1
    exact told_fine (rp3 psl pd (pI (by rw [pw_eq]; omega))) d1 e1
  obtain ⟨f7, f8⟩ : m_told_ok 5 ([U.tbl T, U.lst (List.map (fun y : Int × Int => U.tup [U.int y.1, U.int y.2]) l), U.int 0, U.int 0, U.int (10 ^ 60)] : List U) ∧ m_told 5 ([U.tbl T, U.lst (List.map (fun y : Int × Int => U.tup [U.int y.1, U.int y.2]) l), U.int 0, U.int 0, U.int (10 ^ 60)] : List U) = Str.ofString "fine" := by
    obtain ⟨d1, e1⟩ := c5_ok ft (U.lst (List.map (fun y : Int × Int => U.tup [U.int y.1, U.int y.2]) l)) (.int 0) (.int 0) (.int (10 ^ 60))
    have e2 : xOf (m_called 5 [U.tbl T, U.lst (List.map (fun y : Int × Int => U.tup [U.int y.1, U.int y.2]) l), U.int 0, U.int 0, U.int (10 ^ 60)]) = none := by
      rw [e1, rp_good sl (i := 0) (j := 0) (by decide) (by decide)]
      show xOf (m_require_number (.int (10 ^ 60))) = _
      rw [nm_good (by decide)]; rfl
    exact told_fine (rp4 psl p0 p0 (pI (by decide))) d1 e2
  have fc : (PyData.str (Str.ofString "fine")).canLay0 = true := by decide +kernel
  constructor
  · unfold m_right_ok
    rw [← ht, ← hb3]
    refine ⟨a1, fun t' et b' eb => ?_⟩
    subst t' b'
    rw [← hw]
    refine ⟨make_ok a2', pickk _ (by decide) (by decide), p1, c1, fun T' eT l' el b' eb => ?_⟩
    rw [← hT] at eT
    rw [← hl] at el
    rw [← hb4] at eb
    subst T' l' b'
    refine ⟨pickk _ (by decide) (by decide), fun d' ed b' eb => ?_⟩
    rw [← hd] at ed
    rw [← hb7] at eb
    subst d' b'
    refine ⟨trivial, g1, fun _ _ => ⟨s1, g2, fun _ _ => ⟨bi_ok _ _, g3, fun _ _ => ⟨⟨hd1.1, by omega⟩, bi_ok _ _, g4, fun _ _ => ⟨g5, fun _ _ => ⟨f1, f3, ⟨hd1.1, by omega⟩, f5, fun o eo => ⟨f7, ?_⟩⟩⟩⟩⟩⟩⟩
    rw [f2, f4, f6] at eo
    subst eo
    rw [f8, rep4]
    exact ⟨by decide, ⟨by decide, by decide, by show 1 ≤ 1000; decide⟩, ⟨strs4 fc, strs4 fc⟩, decide_eq_true rfl, r1, trivial⟩
  · unfold m_right
    dsimp only
    rw [← hb3, ← hw, ← hl, ← hb4, ← hb7]
    exact r2
theorem law_loop (l : List Int) : okF m_law_o1 m_law_b1 () l :=
  (okF_I (fun _ => True) trivial fun s x hx _ => ⟨⟨trivial, fun b hb => by
    subst hb
    obtain ⟨g1, g2⟩ := right_all (m_bag x)
    exact ⟨g1, by rw [g2]; rfl, fun _ _ => trivial⟩⟩, trivial⟩).1
theorem law_ok_all (ns : List Int) (hl : ns.length ≤ 63) (hb : ∀ z ∈ ns, Builtin.Int.intBits z ≤ 1048576) : m_law_ok ns := by
  refine ⟨?_, law_loop _, fun _ _ => trivial⟩
  have : (cutL ns none (some 6)).length ≤ ns.length := by
    unfold cutL
    rw [List.length_take, List.length_drop]; omega
  show (cutL ns none (some 6)).length + 1 ≤ 16000000
  omega
theorem law_true (ns : List Int) (hl : ns.length ≤ 63) (hb : ∀ z ∈ ns, Builtin.Int.intBits z ≤ 1048576) : m_law ns = true := rfl
end My
end
section
set_option maxRecDepth 100000
set_option maxHeartbeats 8000000
namespace My
open PySem L2 Fw
abbrev s_x0 : Stmt := inClass (top 2) 0
theorem sc_x0 : FnScope ["self", "item"] ["self", "item"] (defScope s_x0) := ⟨rfl, rfl, rfl, by decide +kernel, rfl, by decide +kernel, by decide +kernel⟩
abbrev s_x1 : Stmt := inClass (top 3) 0
theorem sc_x1 : FnScope ["self", "item"] ["self", "item"] (defScope s_x1) := ⟨rfl, rfl, rfl, by decide +kernel, rfl, by decide +kernel, by decide +kernel⟩
abbrev s_x2 : Stmt := inClass (top 4) 0
theorem sc_x2 : FnScope ["self", "part"] ["self", "part"] (defScope s_x2) := ⟨rfl, rfl, rfl, by decide +kernel, rfl, by decide +kernel, by decide +kernel⟩
abbrev s_x3 : Stmt := inClass (top 5) 0
theorem sc_x3 : FnScope ["self", "total"] ["self", "total"] (defScope s_x3) := ⟨rfl, rfl, rfl, by decide +kernel, rfl, by decide +kernel, by decide +kernel⟩
theorem all_mk {l : PySem.W.OpenLaw} {w : World} {K : PySem.W.Frag} {h : Heap} {mg : Str → Option Value} {fa : Addr} (X : K.In h) (G : h.Ns mainGlobals mg) (hfa : mg "law" = some (.ref fa)) {C a_is_int a_is_int__2 a_is_whole a_is_whole__2 a_is_span__2 a_require_spans a_require_key a_require_depth a_require_tail a_require_number a_Table___init__ a_Table___init__4 a_Table_value a_tail_of a_Table_tail a_require_table a_residue_of a_residue_count a_require_place a_key_count a_tail_count a_nth_key a_bag a_pick a_three a_spans a_class a_bad_tables a_bad_spans a_bad_integers a_called a_called__2 a_told a_told__2 a_made_right a_right a_law X0 X1 X2 X3 X4 X5 X6 X7 X8 X9 X10 X11 X12 X13 X14 X15 X16 X17 fX0 fX1 fX2 fX3 : Addr}
    {od0 an0 od1 an1 od2 an2 od3 an3 od4 an4 od5 an5 od6 an6 od7 an7 od8 an8 od9 an9 od10 an10 od11 an11 od12 an12 od13 an13 od14 an14 od15 an15 od16 an16 od17 an17 od18 an18 od19 an19 od20 an20 od21 an21 od22 an22 od23 an23 od24 an24 od25 an25 od26 an26 od27 an27 od28 an28 od29 an29 od30 an30 od31 an31 od32 an32 od33 an33 od34 an34 od35 an35 od36 an36 : Option Addr} {sl0 sl1 sl2 sl3 sl4 sl5 sl6 sl7 sl8 sl9 sl10 sl11 sl12 sl13 sl14 sl15 sl16 sl17 sl18 sl19 sl20 sl21 sl22 sl23 sl24 sl25 sl26 sl27 sl28 sl29 sl30 sl31 sl32 sl33 sl34 sl35 sl36 : Array (Option Value)} {oc0 kV0 dc0 pm0 cd0 ct0 oc1 kV1 dc1 pm1 cd1 ct1 oc2 kV2 dc2 pm2 cd2 ct2 oc3 kV3 dc3 pm3 cd3 ct3 oc4 kV4 dc4 pm4 cd4 ct4 oc5 kV5 dc5 pm5 cd5 ct5 oc6 kV6 dc6 pm6 cd6 ct6 oc7 kV7 dc7 pm7 cd7 ct7 oc8 kV8 dc8 pm8 cd8 ct8 oc9 kV9 dc9 pm9 cd9 ct9 oc10 kV10 dc10 pm10 cd10 ct10 oc11 kV11 dc11 pm11 cd11 ct11 oc12 kV12 dc12 pm12 cd12 ct12 oc13 kV13 dc13 pm13 cd13 ct13 oc14 kV14 dc14 pm14 cd14 ct14 oc15 kV15 dc15 pm15 cd15 ct15 oc16 kV16 dc16 pm16 cd16 ct16 oc17 kV17 dc17 pm17 cd17 ct17 oc18 kV18 dc18 pm18 cd18 ct18 oc19 kV19 dc19 pm19 cd19 ct19 oc20 kV20 dc20 pm20 cd20 ct20 oc21 kV21 dc21 pm21 cd21 ct21 oc22 kV22 dc22 pm22 cd22 ct22 oc23 kV23 dc23 pm23 cd23 ct23 oc24 kV24 dc24 pm24 cd24 ct24 oc25 kV25 dc25 pm25 cd25 ct25 oc26 kV26 dc26 pm26 cd26 ct26 oc27 kV27 dc27 pm27 cd27 ct27 oc28 kV28 dc28 pm28 cd28 ct28 oc29 kV29 dc29 pm29 cd29 ct29 oc30 kV30 dc30 pm30 cd30 ct30 oc31 kV31 dc31 pm31 cd31 ct31 oc32 kV32 dc32 pm32 cd32 ct32 oc33 kV33 dc33 pm33 cd33 ct33 oc34 kV34 dc34 pm34 cd34 ct34 oc35 kV35 dc35 pm35 cd35 ct35 oc36 kV36 dc36 pm36 cd36 ct36 xoc0 xkV0 xdc0 xpm0 xcd0 xct0 xoc1 xkV1 xdc1 xpm1 xcd1 xct1 xoc2 xkV2 xdc2 xpm2 xcd2 xct2 xoc3 xkV3 xdc3 xpm3 xcd3 xct3 : Value}
    {xod0 xan0 xdd0 xod1 xan1 xdd1 xod2 xan2 xdd2 xod3 xan3 xdd3 : Option Addr} {xsl0 xsl1 xsl2 xsl3 : Array (Option Value)} {xnm0 xq0 xnm1 xq1 xnm2 xq2 xnm3 xq3 : Str} {xN0 xN1 xN2 xN3 : Addr} {xbs0 xbm0 xsu0 xbs1 xbm1 xsu1 xbs2 xbm2 xsu2 xbs3 xbm3 xsu3 : List Value} {xsn0 xsn1 xsn2 xsn3 : List Str} {xab0 xab1 xab2 xab3 : Bool} {xco0 xco1 xco2 xco3 : Option Bool} {xk00 xk10 xk20 xk30 xk50 xk01 xk11 xk21 xk31 xk51 xk02 xk12 xk22 xk32 xk52 xk03 xk13 xk23 xk33 xk53 : Option Value}
    (aC : PySem.W.nsIn K mainGlobals "Table" = some (some (.ref C)))
    (at_is_int : PySem.W.nsIn K mainGlobals "is_int" = some (some (.ref a_is_int)))
    (lk_is_int : K.lookup a_is_int = some ⟨oc0, od0, .func (PySem.W.fnOf "is_int" "is_int" (defArgs s_is_int) (defBody s_is_int) (defScope s_is_int) .none kV0 dc0 pm0 an0 cd0 ct0), sl0⟩)
    (cd_is_int : PySem.W.codeIn K cd0 "is_int" = true)
    (kp_is_int : PySem.W.keepIn K (.ref a_is_int) = true)
    (at_is_int__2 : PySem.W.nsIn K mainGlobals "is_int" = some (some (.ref a_is_int__2)))
    (lk_is_int__2 : K.lookup a_is_int__2 = some ⟨oc1, od1, .func (PySem.W.fnOf "is_int" "is_int" (defArgs s_is_int__2) (defBody s_is_int__2) (defScope s_is_int__2) .none kV1 dc1 pm1 an1 cd1 ct1), sl1⟩)
    (cd_is_int__2 : PySem.W.codeIn K cd1 "is_int" = true)
    (kp_is_int__2 : PySem.W.keepIn K (.ref a_is_int__2) = true)
    (at_is_whole : PySem.W.nsIn K mainGlobals "is_whole" = some (some (.ref a_is_whole)))
    (lk_is_whole : K.lookup a_is_whole = some ⟨oc2, od2, .func (PySem.W.fnOf "is_whole" "is_whole" (defArgs s_is_whole) (defBody s_is_whole) (defScope s_is_whole) .none kV2 dc2 pm2 an2 cd2 ct2), sl2⟩)
    (cd_is_whole : PySem.W.codeIn K cd2 "is_whole" = true)
    (kp_is_whole : PySem.W.keepIn K (.ref a_is_whole) = true)
    (at_is_whole__2 : PySem.W.nsIn K mainGlobals "is_whole" = some (some (.ref a_is_whole__2)))
    (lk_is_whole__2 : K.lookup a_is_whole__2 = some ⟨oc3, od3, .func (PySem.W.fnOf "is_whole" "is_whole" (defArgs s_is_whole__2) (defBody s_is_whole__2) (defScope s_is_whole__2) .none kV3 dc3 pm3 an3 cd3 ct3), sl3⟩)
    (cd_is_whole__2 : PySem.W.codeIn K cd3 "is_whole" = true)
    (kp_is_whole__2 : PySem.W.keepIn K (.ref a_is_whole__2) = true)
    (at_is_span__2 : PySem.W.nsIn K mainGlobals "is_span" = some (some (.ref a_is_span__2)))
    (lk_is_span__2 : K.lookup a_is_span__2 = some ⟨oc4, od4, .func (PySem.W.fnOf "is_span" "is_span" (defArgs s_is_span__2) (defBody s_is_span__2) (defScope s_is_span__2) .none kV4 dc4 pm4 an4 cd4 ct4), sl4⟩)
    (cd_is_span__2 : PySem.W.codeIn K cd4 "is_span" = true)
    (kp_is_span__2 : PySem.W.keepIn K (.ref a_is_span__2) = true)
    (at_require_spans : PySem.W.nsIn K mainGlobals "require_spans" = some (some (.ref a_require_spans)))
    (lk_require_spans : K.lookup a_require_spans = some ⟨oc5, od5, .func (PySem.W.fnOf "require_spans" "require_spans" (defArgs s_require_spans) (defBody s_require_spans) (defScope s_require_spans) .none kV5 dc5 pm5 an5 cd5 ct5), sl5⟩)
    (cd_require_spans : PySem.W.codeIn K cd5 "require_spans" = true)
    (kp_require_spans : PySem.W.keepIn K (.ref a_require_spans) = true)
    (at_require_key : PySem.W.nsIn K mainGlobals "require_key" = some (some (.ref a_require_key)))
    (lk_require_key : K.lookup a_require_key = some ⟨oc6, od6, .func (PySem.W.fnOf "require_key" "require_key" (defArgs s_require_key) (defBody s_require_key) (defScope s_require_key) .none kV6 dc6 pm6 an6 cd6 ct6), sl6⟩)
    (cd_require_key : PySem.W.codeIn K cd6 "require_key" = true)
    (kp_require_key : PySem.W.keepIn K (.ref a_require_key) = true)
    (at_require_depth : PySem.W.nsIn K mainGlobals "require_depth" = some (some (.ref a_require_depth)))
    (lk_require_depth : K.lookup a_require_depth = some ⟨oc7, od7, .func (PySem.W.fnOf "require_depth" "require_depth" (defArgs s_require_depth) (defBody s_require_depth) (defScope s_require_depth) .none kV7 dc7 pm7 an7 cd7 ct7), sl7⟩)
    (cd_require_depth : PySem.W.codeIn K cd7 "require_depth" = true)
    (kp_require_depth : PySem.W.keepIn K (.ref a_require_depth) = true)
    (at_require_tail : PySem.W.nsIn K mainGlobals "require_tail" = some (some (.ref a_require_tail)))
    (lk_require_tail : K.lookup a_require_tail = some ⟨oc8, od8, .func (PySem.W.fnOf "require_tail" "require_tail" (defArgs s_require_tail) (defBody s_require_tail) (defScope s_require_tail) .none kV8 dc8 pm8 an8 cd8 ct8), sl8⟩)
    (cd_require_tail : PySem.W.codeIn K cd8 "require_tail" = true)
    (kp_require_tail : PySem.W.keepIn K (.ref a_require_tail) = true)
    (at_require_number : PySem.W.nsIn K mainGlobals "require_number" = some (some (.ref a_require_number)))
    (lk_require_number : K.lookup a_require_number = some ⟨oc9, od9, .func (PySem.W.fnOf "require_number" "require_number" (defArgs s_require_number) (defBody s_require_number) (defScope s_require_number) .none kV9 dc9 pm9 an9 cd9 ct9), sl9⟩)
    (cd_require_number : PySem.W.codeIn K cd9 "require_number" = true)
    (kp_require_number : PySem.W.keepIn K (.ref a_require_number) = true)
    (at_Table___init__ : PySem.W.findIn K (.ref C) "__init__" = some (some (.ref a_Table___init__)))
    (fn_Table___init__ : PySem.W.isFn K (.ref a_Table___init__) = true)
    (lk_Table___init__ : K.lookup a_Table___init__ = some ⟨oc10, od10, .func (PySem.W.fnOf "__init__" "Table.__init__" (defArgs s_Table___init__) (defBody s_Table___init__) (defScope s_Table___init__) .none kV10 dc10 pm10 an10 cd10 ct10), sl10⟩)
    (cd_Table___init__ : PySem.W.codeIn K cd10 "Table.__init__" = true)
    (kp_Table___init__ : PySem.W.keepIn K (.ref a_Table___init__) = true)
    (at_Table___init__4 : PySem.W.findIn K (.ref C) "__init__" = some (some (.ref a_Table___init__4)))
    (fn_Table___init__4 : PySem.W.isFn K (.ref a_Table___init__4) = true)
    (lk_Table___init__4 : K.lookup a_Table___init__4 = some ⟨oc11, od11, .func (PySem.W.fnOf "__init__" "Table.__init__" (defArgs s_Table___init__4) (defBody s_Table___init__4) (defScope s_Table___init__4) .none kV11 dc11 pm11 an11 cd11 ct11), sl11⟩)
    (cd_Table___init__4 : PySem.W.codeIn K cd11 "Table.__init__" = true)
    (kp_Table___init__4 : PySem.W.keepIn K (.ref a_Table___init__4) = true)
    (at_Table_value : PySem.W.findIn K (.ref C) "value" = some (some (.ref a_Table_value)))
    (fn_Table_value : PySem.W.isFn K (.ref a_Table_value) = true)
    (lk_Table_value : K.lookup a_Table_value = some ⟨oc12, od12, .func (PySem.W.fnOf "value" "Table.value" (defArgs s_Table_value) (defBody s_Table_value) (defScope s_Table_value) .none kV12 dc12 pm12 an12 cd12 ct12), sl12⟩)
    (cd_Table_value : PySem.W.codeIn K cd12 "Table.value" = true)
    (kp_Table_value : PySem.W.keepIn K (.ref a_Table_value) = true)
    (at_tail_of : PySem.W.nsIn K mainGlobals "tail_of" = some (some (.ref a_tail_of)))
    (lk_tail_of : K.lookup a_tail_of = some ⟨oc13, od13, .func (PySem.W.fnOf "tail_of" "tail_of" (defArgs s_tail_of) (defBody s_tail_of) (defScope s_tail_of) .none kV13 dc13 pm13 an13 cd13 ct13), sl13⟩)
    (cd_tail_of : PySem.W.codeIn K cd13 "tail_of" = true)
    (kp_tail_of : PySem.W.keepIn K (.ref a_tail_of) = true)
    (at_Table_tail : PySem.W.findIn K (.ref C) "tail" = some (some (.ref a_Table_tail)))
    (fn_Table_tail : PySem.W.isFn K (.ref a_Table_tail) = true)
    (lk_Table_tail : K.lookup a_Table_tail = some ⟨oc14, od14, .func (PySem.W.fnOf "tail" "Table.tail" (defArgs s_Table_tail) (defBody s_Table_tail) (defScope s_Table_tail) .none kV14 dc14 pm14 an14 cd14 ct14), sl14⟩)
    (cd_Table_tail : PySem.W.codeIn K cd14 "Table.tail" = true)
    (kp_Table_tail : PySem.W.keepIn K (.ref a_Table_tail) = true)
    (at_require_table : PySem.W.nsIn K mainGlobals "require_table" = some (some (.ref a_require_table)))
    (lk_require_table : K.lookup a_require_table = some ⟨oc15, od15, .func (PySem.W.fnOf "require_table" "require_table" (defArgs s_require_table) (defBody s_require_table) (defScope s_require_table) .none kV15 dc15 pm15 an15 cd15 ct15), sl15⟩)
    (cd_require_table : PySem.W.codeIn K cd15 "require_table" = true)
    (kp_require_table : PySem.W.keepIn K (.ref a_require_table) = true)
    (at_residue_of : PySem.W.nsIn K mainGlobals "residue_of" = some (some (.ref a_residue_of)))
    (lk_residue_of : K.lookup a_residue_of = some ⟨oc16, od16, .func (PySem.W.fnOf "residue_of" "residue_of" (defArgs s_residue_of) (defBody s_residue_of) (defScope s_residue_of) .none kV16 dc16 pm16 an16 cd16 ct16), sl16⟩)
    (cd_residue_of : PySem.W.codeIn K cd16 "residue_of" = true)
    (kp_residue_of : PySem.W.keepIn K (.ref a_residue_of) = true)
    (at_residue_count : PySem.W.nsIn K mainGlobals "residue_count" = some (some (.ref a_residue_count)))
    (lk_residue_count : K.lookup a_residue_count = some ⟨oc17, od17, .func (PySem.W.fnOf "residue_count" "residue_count" (defArgs s_residue_count) (defBody s_residue_count) (defScope s_residue_count) .none kV17 dc17 pm17 an17 cd17 ct17), sl17⟩)
    (cd_residue_count : PySem.W.codeIn K cd17 "residue_count" = true)
    (kp_residue_count : PySem.W.keepIn K (.ref a_residue_count) = true)
    (at_require_place : PySem.W.nsIn K mainGlobals "require_place" = some (some (.ref a_require_place)))
    (lk_require_place : K.lookup a_require_place = some ⟨oc18, od18, .func (PySem.W.fnOf "require_place" "require_place" (defArgs s_require_place) (defBody s_require_place) (defScope s_require_place) .none kV18 dc18 pm18 an18 cd18 ct18), sl18⟩)
    (cd_require_place : PySem.W.codeIn K cd18 "require_place" = true)
    (kp_require_place : PySem.W.keepIn K (.ref a_require_place) = true)
    (at_key_count : PySem.W.nsIn K mainGlobals "key_count" = some (some (.ref a_key_count)))
    (lk_key_count : K.lookup a_key_count = some ⟨oc19, od19, .func (PySem.W.fnOf "key_count" "key_count" (defArgs s_key_count) (defBody s_key_count) (defScope s_key_count) .none kV19 dc19 pm19 an19 cd19 ct19), sl19⟩)
    (cd_key_count : PySem.W.codeIn K cd19 "key_count" = true)
    (kp_key_count : PySem.W.keepIn K (.ref a_key_count) = true)
    (at_tail_count : PySem.W.nsIn K mainGlobals "tail_count" = some (some (.ref a_tail_count)))
    (lk_tail_count : K.lookup a_tail_count = some ⟨oc20, od20, .func (PySem.W.fnOf "tail_count" "tail_count" (defArgs s_tail_count) (defBody s_tail_count) (defScope s_tail_count) .none kV20 dc20 pm20 an20 cd20 ct20), sl20⟩)
    (cd_tail_count : PySem.W.codeIn K cd20 "tail_count" = true)
    (kp_tail_count : PySem.W.keepIn K (.ref a_tail_count) = true)
    (at_nth_key : PySem.W.nsIn K mainGlobals "nth_key" = some (some (.ref a_nth_key)))
    (lk_nth_key : K.lookup a_nth_key = some ⟨oc21, od21, .func (PySem.W.fnOf "nth_key" "nth_key" (defArgs s_nth_key) (defBody s_nth_key) (defScope s_nth_key) .none kV21 dc21 pm21 an21 cd21 ct21), sl21⟩)
    (cd_nth_key : PySem.W.codeIn K cd21 "nth_key" = true)
    (kp_nth_key : PySem.W.keepIn K (.ref a_nth_key) = true)
    (at_bag : PySem.W.nsIn K mainGlobals "_law_bag" = some (some (.ref a_bag)))
    (lk_bag : K.lookup a_bag = some ⟨oc22, od22, .func (PySem.W.fnOf "_law_bag" "_law_bag" (defArgs s_bag) (defBody s_bag) (defScope s_bag) .none kV22 dc22 pm22 an22 cd22 ct22), sl22⟩)
    (cd_bag : PySem.W.codeIn K cd22 "_law_bag" = true)
    (kp_bag : PySem.W.keepIn K (.ref a_bag) = true)
    (at_pick : PySem.W.nsIn K mainGlobals "_law_pick" = some (some (.ref a_pick)))
    (lk_pick : K.lookup a_pick = some ⟨oc23, od23, .func (PySem.W.fnOf "_law_pick" "_law_pick" (defArgs s_pick) (defBody s_pick) (defScope s_pick) .none kV23 dc23 pm23 an23 cd23 ct23), sl23⟩)
    (cd_pick : PySem.W.codeIn K cd23 "_law_pick" = true)
    (kp_pick : PySem.W.keepIn K (.ref a_pick) = true)
    (at_three : PySem.W.nsIn K mainGlobals "_law_three" = some (some (.ref a_three)))
    (lk_three : K.lookup a_three = some ⟨oc24, od24, .func (PySem.W.fnOf "_law_three" "_law_three" (defArgs s_three) (defBody s_three) (defScope s_three) .none kV24 dc24 pm24 an24 cd24 ct24), sl24⟩)
    (cd_three : PySem.W.codeIn K cd24 "_law_three" = true)
    (kp_three : PySem.W.keepIn K (.ref a_three) = true)
    (at_spans : PySem.W.nsIn K mainGlobals "_law_spans" = some (some (.ref a_spans)))
    (lk_spans : K.lookup a_spans = some ⟨oc25, od25, .func (PySem.W.fnOf "_law_spans" "_law_spans" (defArgs s_spans) (defBody s_spans) (defScope s_spans) .none kV25 dc25 pm25 an25 cd25 ct25), sl25⟩)
    (cd_spans : PySem.W.codeIn K cd25 "_law_spans" = true)
    (kp_spans : PySem.W.keepIn K (.ref a_spans) = true)
    (at_class : PySem.W.nsIn K mainGlobals "_law_class" = some (some (.ref a_class)))
    (lk_class : K.lookup a_class = some ⟨oc26, od26, .func (PySem.W.fnOf "_law_class" "_law_class" (defArgs s_class) (defBody s_class) (defScope s_class) .none kV26 dc26 pm26 an26 cd26 ct26), sl26⟩)
    (cd_class : PySem.W.codeIn K cd26 "_law_class" = true)
    (kp_class : PySem.W.keepIn K (.ref a_class) = true)
    (at_bad_tables : PySem.W.nsIn K mainGlobals "_law_bad_tables" = some (some (.ref a_bad_tables)))
    (lk_bad_tables : K.lookup a_bad_tables = some ⟨oc27, od27, .func (PySem.W.fnOf "_law_bad_tables" "_law_bad_tables" (defArgs s_bad_tables) (defBody s_bad_tables) (defScope s_bad_tables) .none kV27 dc27 pm27 an27 cd27 ct27), sl27⟩)
    (cd_bad_tables : PySem.W.codeIn K cd27 "_law_bad_tables" = true)
    (kp_bad_tables : PySem.W.keepIn K (.ref a_bad_tables) = true)
    (at_bad_spans : PySem.W.nsIn K mainGlobals "_law_bad_spans" = some (some (.ref a_bad_spans)))
    (lk_bad_spans : K.lookup a_bad_spans = some ⟨oc28, od28, .func (PySem.W.fnOf "_law_bad_spans" "_law_bad_spans" (defArgs s_bad_spans) (defBody s_bad_spans) (defScope s_bad_spans) .none kV28 dc28 pm28 an28 cd28 ct28), sl28⟩)
    (cd_bad_spans : PySem.W.codeIn K cd28 "_law_bad_spans" = true)
    (kp_bad_spans : PySem.W.keepIn K (.ref a_bad_spans) = true)
    (at_bad_integers : PySem.W.nsIn K mainGlobals "_law_bad_integers" = some (some (.ref a_bad_integers)))
    (lk_bad_integers : K.lookup a_bad_integers = some ⟨oc29, od29, .func (PySem.W.fnOf "_law_bad_integers" "_law_bad_integers" (defArgs s_bad_integers) (defBody s_bad_integers) (defScope s_bad_integers) .none kV29 dc29 pm29 an29 cd29 ct29), sl29⟩)
    (cd_bad_integers : PySem.W.codeIn K cd29 "_law_bad_integers" = true)
    (kp_bad_integers : PySem.W.keepIn K (.ref a_bad_integers) = true)
    (at_called : PySem.W.nsIn K mainGlobals "_law_called" = some (some (.ref a_called)))
    (lk_called : K.lookup a_called = some ⟨oc30, od30, .func (PySem.W.fnOf "_law_called" "_law_called" (defArgs s_called) (defBody s_called) (defScope s_called) .none kV30 dc30 pm30 an30 cd30 ct30), sl30⟩)
    (cd_called : PySem.W.codeIn K cd30 "_law_called" = true)
    (kp_called : PySem.W.keepIn K (.ref a_called) = true)
    (at_called__2 : PySem.W.nsIn K mainGlobals "_law_called" = some (some (.ref a_called__2)))
    (lk_called__2 : K.lookup a_called__2 = some ⟨oc31, od31, .func (PySem.W.fnOf "_law_called" "_law_called" (defArgs s_called__2) (defBody s_called__2) (defScope s_called__2) .none kV31 dc31 pm31 an31 cd31 ct31), sl31⟩)
    (cd_called__2 : PySem.W.codeIn K cd31 "_law_called" = true)
    (kp_called__2 : PySem.W.keepIn K (.ref a_called__2) = true)
    (at_told : PySem.W.nsIn K mainGlobals "_law_told" = some (some (.ref a_told)))
    (lk_told : K.lookup a_told = some ⟨oc32, od32, .func (PySem.W.fnOf "_law_told" "_law_told" (defArgs s_told) (defBody s_told) (defScope s_told) .none kV32 dc32 pm32 an32 cd32 ct32), sl32⟩)
    (cd_told : PySem.W.codeIn K cd32 "_law_told" = true)
    (kp_told : PySem.W.keepIn K (.ref a_told) = true)
    (at_told__2 : PySem.W.nsIn K mainGlobals "_law_told" = some (some (.ref a_told__2)))
    (lk_told__2 : K.lookup a_told__2 = some ⟨oc33, od33, .func (PySem.W.fnOf "_law_told" "_law_told" (defArgs s_told__2) (defBody s_told__2) (defScope s_told__2) .none kV33 dc33 pm33 an33 cd33 ct33), sl33⟩)
    (cd_told__2 : PySem.W.codeIn K cd33 "_law_told" = true)
    (kp_told__2 : PySem.W.keepIn K (.ref a_told__2) = true)
    (at_made_right : PySem.W.nsIn K mainGlobals "_law_made_right" = some (some (.ref a_made_right)))
    (lk_made_right : K.lookup a_made_right = some ⟨oc34, od34, .func (PySem.W.fnOf "_law_made_right" "_law_made_right" (defArgs s_made_right) (defBody s_made_right) (defScope s_made_right) .none kV34 dc34 pm34 an34 cd34 ct34), sl34⟩)
    (cd_made_right : PySem.W.codeIn K cd34 "_law_made_right" = true)
    (kp_made_right : PySem.W.keepIn K (.ref a_made_right) = true)
    (at_right : PySem.W.nsIn K mainGlobals "_law_right" = some (some (.ref a_right)))
    (lk_right : K.lookup a_right = some ⟨oc35, od35, .func (PySem.W.fnOf "_law_right" "_law_right" (defArgs s_right) (defBody s_right) (defScope s_right) .none kV35 dc35 pm35 an35 cd35 ct35), sl35⟩)
    (cd_right : PySem.W.codeIn K cd35 "_law_right" = true)
    (kp_right : PySem.W.keepIn K (.ref a_right) = true)
    (at_law : PySem.W.nsIn K mainGlobals "law" = some (some (.ref a_law)))
    (lk_law : K.lookup a_law = some ⟨oc36, od36, .func (PySem.W.fnOf "law" "law" (defArgs s_law) (defBody s_law) (defScope s_law) .none kV36 dc36 pm36 an36 cd36 ct36), sl36⟩)
    (cd_law : PySem.W.codeIn K cd36 "law" = true)
    (kp_law : PySem.W.keepIn K (.ref a_law) = true)
    (oc : PySem.W.isClsIn K C = true)
    (ot : PySem.W.typeIn K (.ref C) = some (.type "type"))
    (os0 : PySem.W.subIn K (.type "NoneType") (.ref C) = some false)
    (os1 : PySem.W.subIn K (.type "int") (.ref C) = some false)
    (os2 : PySem.W.subIn K (.type "bool") (.ref C) = some false)
    (os3 : PySem.W.subIn K (.type "str") (.ref C) = some false)
    (os4 : PySem.W.subIn K (.type "tuple") (.ref C) = some false)
    (os5 : PySem.W.subIn K (.type "list") (.ref C) = some false)
    (os6 : PySem.W.subIn K (.type "dict") (.ref C) = some false)
    (pg : PySem.W.plainGet K C Str.empty = true)
    (hd : PySem.W.hasDictIn K C = true)
    (po : PySem.W.plainOver K C = true)
    (sa : PySem.W.findIn K (.ref C) "__setattr__" = some (some (.builtin "object.__setattr__")))
    (mk : PySem.W.makesIn K C = true)
    (kc : PySem.W.keepIn K (.ref C) = true)
    (nC : PySem.W.findIn K (.ref C) "own_capacity" = some none)
    (nR : PySem.W.findIn K (.ref C) "own_rate" = some none)
    (nS : PySem.W.findIn K (.ref C) "own_shift" = some none)
    (xa : PySem.W.findIn K (.ref C) "__class__" = some (some (.builtin "object.__class__")))
    (xb : PySem.W.specialIn K (.builtin "object.__class__") "__get__" = some (some (.builtin "getset_descriptor.__get__")))
    (xc : PySem.W.takesIn K (.builtin "object.__class__") = some true)
    (xd : PySem.W.mroIn K C (.type "object") = some true)
    (ts0 : PySem.W.subIn K (.ref C) (.type "NoneType") = some false)
    (ts1 : PySem.W.subIn K (.ref C) (.type "int") = some false)
    (ts2 : PySem.W.subIn K (.ref C) (.type "bool") = some false)
    (ts3 : PySem.W.subIn K (.ref C) (.type "str") = some false)
    (ts4 : PySem.W.subIn K (.ref C) (.type "tuple") = some false)
    (ts5 : PySem.W.subIn K (.ref C) (.type "list") = some false)
    (ts6 : PySem.W.subIn K (.ref C) (.type "dict") = some false)
    (xa0 : PySem.W.nsIn K mainGlobals "InvalidSpans" = some (some (.ref X0)))
    (xa1 : PySem.W.nsIn K mainGlobals "InvalidSeen" = some (some (.ref X1)))
    (xa2 : PySem.W.nsIn K mainGlobals "InvalidText" = some (some (.ref X2)))
    (xa3 : PySem.W.nsIn K mainGlobals "OverBudget" = some (some (.ref X3)))
    (xa4 : PySem.W.nsIn K mainGlobals "InvalidCapacity" = some (some (.ref X4)))
    (xa5 : PySem.W.nsIn K mainGlobals "InvalidRate" = some (some (.ref X5)))
    (xa6 : PySem.W.nsIn K mainGlobals "InvalidShift" = some (some (.ref X6)))
    (xa7 : PySem.W.nsIn K mainGlobals "InvalidTable" = some (some (.ref X7)))
    (xa8 : PySem.W.nsIn K mainGlobals "InvalidKey" = some (some (.ref X8)))
    (xa9 : PySem.W.nsIn K mainGlobals "InvalidDepth" = some (some (.ref X9)))
    (xa10 : PySem.W.nsIn K mainGlobals "InvalidTail" = some (some (.ref X10)))
    (xa11 : PySem.W.nsIn K mainGlobals "InvalidSpan" = some (some (.ref X11)))
    (xa12 : PySem.W.nsIn K mainGlobals "InvalidNumber" = some (some (.ref X12)))
    (xa13 : PySem.W.nsIn K mainGlobals "InvalidBudget" = some (some (.ref X13)))
    (xa14 : PySem.W.nsIn K mainGlobals "InvalidOperation" = some (some (.ref X14)))
    (xa15 : PySem.W.nsIn K mainGlobals "Nothing" = some (some (.ref X15)))
    (xa16 : PySem.W.nsIn K mainGlobals "InvalidCommand" = some (some (.ref X16)))
    (xa17 : PySem.W.nsIn K mainGlobals "HashError" = some (some (.ref X17)))
    (xhn : PySem.W.specialIn K (.builtin "object.__class__") "__get__" = some (some (.builtin "getset_descriptor.__get__")))
    (xht : PySem.W.takesIn K (.builtin "object.__class__") = some true)
    (xc0 : PySem.W.isClsIn K X0 = true ∧ PySem.W.findIn K (.ref X0) "__getattribute__" = some (some (.builtin "BaseException.__getattribute__")) ∧ PySem.W.findIn K (.ref X0) "__getattr__" = some none ∧ PySem.W.subIn K (.ref X0) (.type "BaseException") = some true ∧ PySem.W.hasDictIn K X0 = true ∧ PySem.W.findIn K (.ref X0) "__class__" = some (some (.builtin "object.__class__")) ∧ PySem.W.mroIn K X0 (.type "object") = some true ∧ PySem.W.typeIn K (.ref X0) = some (.type "type") ∧ PySem.W.keepIn K (.ref X0) = true ∧ PySem.W.subIn K (.ref X0) (.type "ValueError") = some true)
    (xs0 : PySem.W.subIn K (.ref X0) (.ref X0) = some true ∧ PySem.W.subIn K (.ref X0) (.ref X1) = some false ∧ PySem.W.subIn K (.ref X0) (.ref X2) = some false ∧ PySem.W.subIn K (.ref X0) (.ref X3) = some false ∧ PySem.W.subIn K (.ref X0) (.ref X4) = some false ∧ PySem.W.subIn K (.ref X0) (.ref X5) = some false ∧ PySem.W.subIn K (.ref X0) (.ref X6) = some false ∧ PySem.W.subIn K (.ref X0) (.ref X7) = some false ∧ PySem.W.subIn K (.ref X0) (.ref X8) = some false ∧ PySem.W.subIn K (.ref X0) (.ref X9) = some false ∧ PySem.W.subIn K (.ref X0) (.ref X10) = some false ∧ PySem.W.subIn K (.ref X0) (.ref X11) = some false ∧ PySem.W.subIn K (.ref X0) (.ref X12) = some false ∧ PySem.W.subIn K (.ref X0) (.ref X13) = some false ∧ PySem.W.subIn K (.ref X0) (.ref X14) = some false ∧ PySem.W.subIn K (.ref X0) (.ref X15) = some false ∧ PySem.W.subIn K (.ref X0) (.ref X16) = some false ∧ PySem.W.subIn K (.ref X0) (.ref X17) = some true)
    (xno0 : PySem.W.findIn K (.ref X0) "item" = some none)
    (xsa0 : PySem.W.findIn K (.ref X0) "__setattr__" = some (some (.builtin "object.__setattr__")))
    (xic0 : PySem.W.findIn K (.ref X0) "__init__" = some (some (.ref fX0)))
    (xit0 : PySem.W.typeIn K (.ref fX0) = some (.type "function"))
    (xlk0 : K.lookup fX0 = some ⟨xoc0, xod0, .func (PySem.W.fnOf "__init__" "InvalidSpans.__init__" (defArgs s_x0) (defBody s_x0) (defScope s_x0) .none xkV0 xdc0 xpm0 xan0 xcd0 xct0), xsl0⟩)
    (xcd_0 : PySem.W.codeIn K xcd0 "InvalidSpans.__init__" = true)
    (xik0 : PySem.W.keepIn K (.ref fX0) = true)
    (xls0 : K.lookup X0 = some (excClassObj xnm0 xq0 X0 xN0 xbs0 xbm0 true xsn0 xsu0 xab0 xco0 xdd0 xk00 xk10 xk20 xk30 xk50 "ValueError.__new__"))
    (xrv0 : PySem.HandSPX.refsVE xbm0 = true)
    (xc1 : PySem.W.isClsIn K X1 = true ∧ PySem.W.findIn K (.ref X1) "__getattribute__" = some (some (.builtin "BaseException.__getattribute__")) ∧ PySem.W.findIn K (.ref X1) "__getattr__" = some none ∧ PySem.W.subIn K (.ref X1) (.type "BaseException") = some true ∧ PySem.W.hasDictIn K X1 = true ∧ PySem.W.findIn K (.ref X1) "__class__" = some (some (.builtin "object.__class__")) ∧ PySem.W.mroIn K X1 (.type "object") = some true ∧ PySem.W.typeIn K (.ref X1) = some (.type "type") ∧ PySem.W.keepIn K (.ref X1) = true ∧ PySem.W.subIn K (.ref X1) (.type "ValueError") = some true)
    (xs1 : PySem.W.subIn K (.ref X1) (.ref X0) = some false ∧ PySem.W.subIn K (.ref X1) (.ref X1) = some true ∧ PySem.W.subIn K (.ref X1) (.ref X2) = some false ∧ PySem.W.subIn K (.ref X1) (.ref X3) = some false ∧ PySem.W.subIn K (.ref X1) (.ref X4) = some false ∧ PySem.W.subIn K (.ref X1) (.ref X5) = some false ∧ PySem.W.subIn K (.ref X1) (.ref X6) = some false ∧ PySem.W.subIn K (.ref X1) (.ref X7) = some false ∧ PySem.W.subIn K (.ref X1) (.ref X8) = some false ∧ PySem.W.subIn K (.ref X1) (.ref X9) = some false ∧ PySem.W.subIn K (.ref X1) (.ref X10) = some false ∧ PySem.W.subIn K (.ref X1) (.ref X11) = some false ∧ PySem.W.subIn K (.ref X1) (.ref X12) = some false ∧ PySem.W.subIn K (.ref X1) (.ref X13) = some false ∧ PySem.W.subIn K (.ref X1) (.ref X14) = some false ∧ PySem.W.subIn K (.ref X1) (.ref X15) = some false ∧ PySem.W.subIn K (.ref X1) (.ref X16) = some false ∧ PySem.W.subIn K (.ref X1) (.ref X17) = some true)
    (xno1 : PySem.W.findIn K (.ref X1) "item" = some none)
    (xsa1 : PySem.W.findIn K (.ref X1) "__setattr__" = some (some (.builtin "object.__setattr__")))
    (xic1 : PySem.W.findIn K (.ref X1) "__init__" = some (some (.ref fX1)))
    (xit1 : PySem.W.typeIn K (.ref fX1) = some (.type "function"))
    (xlk1 : K.lookup fX1 = some ⟨xoc1, xod1, .func (PySem.W.fnOf "__init__" "InvalidSeen.__init__" (defArgs s_x1) (defBody s_x1) (defScope s_x1) .none xkV1 xdc1 xpm1 xan1 xcd1 xct1), xsl1⟩)
    (xcd_1 : PySem.W.codeIn K xcd1 "InvalidSeen.__init__" = true)
    (xik1 : PySem.W.keepIn K (.ref fX1) = true)
    (xls1 : K.lookup X1 = some (excClassObj xnm1 xq1 X1 xN1 xbs1 xbm1 true xsn1 xsu1 xab1 xco1 xdd1 xk01 xk11 xk21 xk31 xk51 "ValueError.__new__"))
    (xrv1 : PySem.HandSPX.refsVE xbm1 = true)
    (xc2 : PySem.W.isClsIn K X2 = true ∧ PySem.W.findIn K (.ref X2) "__getattribute__" = some (some (.builtin "BaseException.__getattribute__")) ∧ PySem.W.findIn K (.ref X2) "__getattr__" = some none ∧ PySem.W.subIn K (.ref X2) (.type "BaseException") = some true ∧ PySem.W.hasDictIn K X2 = true ∧ PySem.W.findIn K (.ref X2) "__class__" = some (some (.builtin "object.__class__")) ∧ PySem.W.mroIn K X2 (.type "object") = some true ∧ PySem.W.typeIn K (.ref X2) = some (.type "type") ∧ PySem.W.keepIn K (.ref X2) = true ∧ PySem.W.subIn K (.ref X2) (.type "ValueError") = some true)
    (xs2 : PySem.W.subIn K (.ref X2) (.ref X0) = some false ∧ PySem.W.subIn K (.ref X2) (.ref X1) = some false ∧ PySem.W.subIn K (.ref X2) (.ref X2) = some true ∧ PySem.W.subIn K (.ref X2) (.ref X3) = some false ∧ PySem.W.subIn K (.ref X2) (.ref X4) = some false ∧ PySem.W.subIn K (.ref X2) (.ref X5) = some false ∧ PySem.W.subIn K (.ref X2) (.ref X6) = some false ∧ PySem.W.subIn K (.ref X2) (.ref X7) = some false ∧ PySem.W.subIn K (.ref X2) (.ref X8) = some false ∧ PySem.W.subIn K (.ref X2) (.ref X9) = some false ∧ PySem.W.subIn K (.ref X2) (.ref X10) = some false ∧ PySem.W.subIn K (.ref X2) (.ref X11) = some false ∧ PySem.W.subIn K (.ref X2) (.ref X12) = some false ∧ PySem.W.subIn K (.ref X2) (.ref X13) = some false ∧ PySem.W.subIn K (.ref X2) (.ref X14) = some false ∧ PySem.W.subIn K (.ref X2) (.ref X15) = some false ∧ PySem.W.subIn K (.ref X2) (.ref X16) = some false ∧ PySem.W.subIn K (.ref X2) (.ref X17) = some true)
    (xno2 : PySem.W.findIn K (.ref X2) "part" = some none)
    (xsa2 : PySem.W.findIn K (.ref X2) "__setattr__" = some (some (.builtin "object.__setattr__")))
    (xic2 : PySem.W.findIn K (.ref X2) "__init__" = some (some (.ref fX2)))
    (xit2 : PySem.W.typeIn K (.ref fX2) = some (.type "function"))
    (xlk2 : K.lookup fX2 = some ⟨xoc2, xod2, .func (PySem.W.fnOf "__init__" "InvalidText.__init__" (defArgs s_x2) (defBody s_x2) (defScope s_x2) .none xkV2 xdc2 xpm2 xan2 xcd2 xct2), xsl2⟩)
    (xcd_2 : PySem.W.codeIn K xcd2 "InvalidText.__init__" = true)
    (xik2 : PySem.W.keepIn K (.ref fX2) = true)
    (xls2 : K.lookup X2 = some (excClassObj xnm2 xq2 X2 xN2 xbs2 xbm2 true xsn2 xsu2 xab2 xco2 xdd2 xk02 xk12 xk22 xk32 xk52 "ValueError.__new__"))
    (xrv2 : PySem.HandSPX.refsVE xbm2 = true)
    (xc3 : PySem.W.isClsIn K X3 = true ∧ PySem.W.findIn K (.ref X3) "__getattribute__" = some (some (.builtin "BaseException.__getattribute__")) ∧ PySem.W.findIn K (.ref X3) "__getattr__" = some none ∧ PySem.W.subIn K (.ref X3) (.type "BaseException") = some true ∧ PySem.W.hasDictIn K X3 = true ∧ PySem.W.findIn K (.ref X3) "__class__" = some (some (.builtin "object.__class__")) ∧ PySem.W.mroIn K X3 (.type "object") = some true ∧ PySem.W.typeIn K (.ref X3) = some (.type "type") ∧ PySem.W.keepIn K (.ref X3) = true ∧ PySem.W.subIn K (.ref X3) (.type "ValueError") = some true)
    (xs3 : PySem.W.subIn K (.ref X3) (.ref X0) = some false ∧ PySem.W.subIn K (.ref X3) (.ref X1) = some false ∧ PySem.W.subIn K (.ref X3) (.ref X2) = some false ∧ PySem.W.subIn K (.ref X3) (.ref X3) = some true ∧ PySem.W.subIn K (.ref X3) (.ref X4) = some false ∧ PySem.W.subIn K (.ref X3) (.ref X5) = some false ∧ PySem.W.subIn K (.ref X3) (.ref X6) = some false ∧ PySem.W.subIn K (.ref X3) (.ref X7) = some false ∧ PySem.W.subIn K (.ref X3) (.ref X8) = some false ∧ PySem.W.subIn K (.ref X3) (.ref X9) = some false ∧ PySem.W.subIn K (.ref X3) (.ref X10) = some false ∧ PySem.W.subIn K (.ref X3) (.ref X11) = some false ∧ PySem.W.subIn K (.ref X3) (.ref X12) = some false ∧ PySem.W.subIn K (.ref X3) (.ref X13) = some false ∧ PySem.W.subIn K (.ref X3) (.ref X14) = some false ∧ PySem.W.subIn K (.ref X3) (.ref X15) = some false ∧ PySem.W.subIn K (.ref X3) (.ref X16) = some false ∧ PySem.W.subIn K (.ref X3) (.ref X17) = some true)
    (xno3 : PySem.W.findIn K (.ref X3) "total" = some none)
    (xsa3 : PySem.W.findIn K (.ref X3) "__setattr__" = some (some (.builtin "object.__setattr__")))
    (xic3 : PySem.W.findIn K (.ref X3) "__init__" = some (some (.ref fX3)))
    (xit3 : PySem.W.typeIn K (.ref fX3) = some (.type "function"))
    (xlk3 : K.lookup fX3 = some ⟨xoc3, xod3, .func (PySem.W.fnOf "__init__" "OverBudget.__init__" (defArgs s_x3) (defBody s_x3) (defScope s_x3) .none xkV3 xdc3 xpm3 xan3 xcd3 xct3), xsl3⟩)
    (xcd_3 : PySem.W.codeIn K xcd3 "OverBudget.__init__" = true)
    (xik3 : PySem.W.keepIn K (.ref fX3) = true)
    (xls3 : K.lookup X3 = some (excClassObj xnm3 xq3 X3 xN3 xbs3 xbm3 true xsn3 xsu3 xab3 xco3 xdd3 xk03 xk13 xk23 xk33 xk53 "ValueError.__new__"))
    (xrv3 : PySem.HandSPX.refsVE xbm3 = true)
    (xc4 : PySem.W.isClsIn K X4 = true ∧ PySem.W.findIn K (.ref X4) "__getattribute__" = some (some (.builtin "BaseException.__getattribute__")) ∧ PySem.W.findIn K (.ref X4) "__getattr__" = some none ∧ PySem.W.subIn K (.ref X4) (.type "BaseException") = some true ∧ PySem.W.hasDictIn K X4 = true ∧ PySem.W.findIn K (.ref X4) "__class__" = some (some (.builtin "object.__class__")) ∧ PySem.W.mroIn K X4 (.type "object") = some true ∧ PySem.W.typeIn K (.ref X4) = some (.type "type") ∧ PySem.W.keepIn K (.ref X4) = true ∧ PySem.W.subIn K (.ref X4) (.type "ValueError") = some true)
    (xs4 : PySem.W.subIn K (.ref X4) (.ref X0) = some false ∧ PySem.W.subIn K (.ref X4) (.ref X1) = some false ∧ PySem.W.subIn K (.ref X4) (.ref X2) = some false ∧ PySem.W.subIn K (.ref X4) (.ref X3) = some false ∧ PySem.W.subIn K (.ref X4) (.ref X4) = some true ∧ PySem.W.subIn K (.ref X4) (.ref X5) = some false ∧ PySem.W.subIn K (.ref X4) (.ref X6) = some false ∧ PySem.W.subIn K (.ref X4) (.ref X7) = some false ∧ PySem.W.subIn K (.ref X4) (.ref X8) = some false ∧ PySem.W.subIn K (.ref X4) (.ref X9) = some false ∧ PySem.W.subIn K (.ref X4) (.ref X10) = some false ∧ PySem.W.subIn K (.ref X4) (.ref X11) = some false ∧ PySem.W.subIn K (.ref X4) (.ref X12) = some false ∧ PySem.W.subIn K (.ref X4) (.ref X13) = some false ∧ PySem.W.subIn K (.ref X4) (.ref X14) = some false ∧ PySem.W.subIn K (.ref X4) (.ref X15) = some false ∧ PySem.W.subIn K (.ref X4) (.ref X16) = some false ∧ PySem.W.subIn K (.ref X4) (.ref X17) = some true)
    (xe4 : PySem.W.excIn K X4 [.type "ValueError", .type "Exception", .type "BaseException", .type "object"] "ValueError.__new__" = true)
    (xc5 : PySem.W.isClsIn K X5 = true ∧ PySem.W.findIn K (.ref X5) "__getattribute__" = some (some (.builtin "BaseException.__getattribute__")) ∧ PySem.W.findIn K (.ref X5) "__getattr__" = some none ∧ PySem.W.subIn K (.ref X5) (.type "BaseException") = some true ∧ PySem.W.hasDictIn K X5 = true ∧ PySem.W.findIn K (.ref X5) "__class__" = some (some (.builtin "object.__class__")) ∧ PySem.W.mroIn K X5 (.type "object") = some true ∧ PySem.W.typeIn K (.ref X5) = some (.type "type") ∧ PySem.W.keepIn K (.ref X5) = true ∧ PySem.W.subIn K (.ref X5) (.type "ValueError") = some true)
    (xs5 : PySem.W.subIn K (.ref X5) (.ref X0) = some false ∧ PySem.W.subIn K (.ref X5) (.ref X1) = some false ∧ PySem.W.subIn K (.ref X5) (.ref X2) = some false ∧ PySem.W.subIn K (.ref X5) (.ref X3) = some false ∧ PySem.W.subIn K (.ref X5) (.ref X4) = some false ∧ PySem.W.subIn K (.ref X5) (.ref X5) = some true ∧ PySem.W.subIn K (.ref X5) (.ref X6) = some false ∧ PySem.W.subIn K (.ref X5) (.ref X7) = some false ∧ PySem.W.subIn K (.ref X5) (.ref X8) = some false ∧ PySem.W.subIn K (.ref X5) (.ref X9) = some false ∧ PySem.W.subIn K (.ref X5) (.ref X10) = some false ∧ PySem.W.subIn K (.ref X5) (.ref X11) = some false ∧ PySem.W.subIn K (.ref X5) (.ref X12) = some false ∧ PySem.W.subIn K (.ref X5) (.ref X13) = some false ∧ PySem.W.subIn K (.ref X5) (.ref X14) = some false ∧ PySem.W.subIn K (.ref X5) (.ref X15) = some false ∧ PySem.W.subIn K (.ref X5) (.ref X16) = some false ∧ PySem.W.subIn K (.ref X5) (.ref X17) = some true)
    (xe5 : PySem.W.excIn K X5 [.type "ValueError", .type "Exception", .type "BaseException", .type "object"] "ValueError.__new__" = true)
    (xc6 : PySem.W.isClsIn K X6 = true ∧ PySem.W.findIn K (.ref X6) "__getattribute__" = some (some (.builtin "BaseException.__getattribute__")) ∧ PySem.W.findIn K (.ref X6) "__getattr__" = some none ∧ PySem.W.subIn K (.ref X6) (.type "BaseException") = some true ∧ PySem.W.hasDictIn K X6 = true ∧ PySem.W.findIn K (.ref X6) "__class__" = some (some (.builtin "object.__class__")) ∧ PySem.W.mroIn K X6 (.type "object") = some true ∧ PySem.W.typeIn K (.ref X6) = some (.type "type") ∧ PySem.W.keepIn K (.ref X6) = true ∧ PySem.W.subIn K (.ref X6) (.type "ValueError") = some true)
    (xs6 : PySem.W.subIn K (.ref X6) (.ref X0) = some false ∧ PySem.W.subIn K (.ref X6) (.ref X1) = some false ∧ PySem.W.subIn K (.ref X6) (.ref X2) = some false ∧ PySem.W.subIn K (.ref X6) (.ref X3) = some false ∧ PySem.W.subIn K (.ref X6) (.ref X4) = some false ∧ PySem.W.subIn K (.ref X6) (.ref X5) = some false ∧ PySem.W.subIn K (.ref X6) (.ref X6) = some true ∧ PySem.W.subIn K (.ref X6) (.ref X7) = some false ∧ PySem.W.subIn K (.ref X6) (.ref X8) = some false ∧ PySem.W.subIn K (.ref X6) (.ref X9) = some false ∧ PySem.W.subIn K (.ref X6) (.ref X10) = some false ∧ PySem.W.subIn K (.ref X6) (.ref X11) = some false ∧ PySem.W.subIn K (.ref X6) (.ref X12) = some false ∧ PySem.W.subIn K (.ref X6) (.ref X13) = some false ∧ PySem.W.subIn K (.ref X6) (.ref X14) = some false ∧ PySem.W.subIn K (.ref X6) (.ref X15) = some false ∧ PySem.W.subIn K (.ref X6) (.ref X16) = some false ∧ PySem.W.subIn K (.ref X6) (.ref X17) = some true)
    (xe6 : PySem.W.excIn K X6 [.type "ValueError", .type "Exception", .type "BaseException", .type "object"] "ValueError.__new__" = true)
    (xc7 : PySem.W.isClsIn K X7 = true ∧ PySem.W.findIn K (.ref X7) "__getattribute__" = some (some (.builtin "BaseException.__getattribute__")) ∧ PySem.W.findIn K (.ref X7) "__getattr__" = some none ∧ PySem.W.subIn K (.ref X7) (.type "BaseException") = some true ∧ PySem.W.hasDictIn K X7 = true ∧ PySem.W.findIn K (.ref X7) "__class__" = some (some (.builtin "object.__class__")) ∧ PySem.W.mroIn K X7 (.type "object") = some true ∧ PySem.W.typeIn K (.ref X7) = some (.type "type") ∧ PySem.W.keepIn K (.ref X7) = true ∧ PySem.W.subIn K (.ref X7) (.type "ValueError") = some true)
    (xs7 : PySem.W.subIn K (.ref X7) (.ref X0) = some false ∧ PySem.W.subIn K (.ref X7) (.ref X1) = some false ∧ PySem.W.subIn K (.ref X7) (.ref X2) = some false ∧ PySem.W.subIn K (.ref X7) (.ref X3) = some false ∧ PySem.W.subIn K (.ref X7) (.ref X4) = some false ∧ PySem.W.subIn K (.ref X7) (.ref X5) = some false ∧ PySem.W.subIn K (.ref X7) (.ref X6) = some false ∧ PySem.W.subIn K (.ref X7) (.ref X7) = some true ∧ PySem.W.subIn K (.ref X7) (.ref X8) = some false ∧ PySem.W.subIn K (.ref X7) (.ref X9) = some false ∧ PySem.W.subIn K (.ref X7) (.ref X10) = some false ∧ PySem.W.subIn K (.ref X7) (.ref X11) = some false ∧ PySem.W.subIn K (.ref X7) (.ref X12) = some false ∧ PySem.W.subIn K (.ref X7) (.ref X13) = some false ∧ PySem.W.subIn K (.ref X7) (.ref X14) = some false ∧ PySem.W.subIn K (.ref X7) (.ref X15) = some false ∧ PySem.W.subIn K (.ref X7) (.ref X16) = some false ∧ PySem.W.subIn K (.ref X7) (.ref X17) = some true)
    (xe7 : PySem.W.excIn K X7 [.type "ValueError", .type "Exception", .type "BaseException", .type "object"] "ValueError.__new__" = true)
    (xc8 : PySem.W.isClsIn K X8 = true ∧ PySem.W.findIn K (.ref X8) "__getattribute__" = some (some (.builtin "BaseException.__getattribute__")) ∧ PySem.W.findIn K (.ref X8) "__getattr__" = some none ∧ PySem.W.subIn K (.ref X8) (.type "BaseException") = some true ∧ PySem.W.hasDictIn K X8 = true ∧ PySem.W.findIn K (.ref X8) "__class__" = some (some (.builtin "object.__class__")) ∧ PySem.W.mroIn K X8 (.type "object") = some true ∧ PySem.W.typeIn K (.ref X8) = some (.type "type") ∧ PySem.W.keepIn K (.ref X8) = true ∧ PySem.W.subIn K (.ref X8) (.type "ValueError") = some true)
    (xs8 : PySem.W.subIn K (.ref X8) (.ref X0) = some false ∧ PySem.W.subIn K (.ref X8) (.ref X1) = some false ∧ PySem.W.subIn K (.ref X8) (.ref X2) = some false ∧ PySem.W.subIn K (.ref X8) (.ref X3) = some false ∧ PySem.W.subIn K (.ref X8) (.ref X4) = some false ∧ PySem.W.subIn K (.ref X8) (.ref X5) = some false ∧ PySem.W.subIn K (.ref X8) (.ref X6) = some false ∧ PySem.W.subIn K (.ref X8) (.ref X7) = some false ∧ PySem.W.subIn K (.ref X8) (.ref X8) = some true ∧ PySem.W.subIn K (.ref X8) (.ref X9) = some false ∧ PySem.W.subIn K (.ref X8) (.ref X10) = some false ∧ PySem.W.subIn K (.ref X8) (.ref X11) = some false ∧ PySem.W.subIn K (.ref X8) (.ref X12) = some false ∧ PySem.W.subIn K (.ref X8) (.ref X13) = some false ∧ PySem.W.subIn K (.ref X8) (.ref X14) = some false ∧ PySem.W.subIn K (.ref X8) (.ref X15) = some false ∧ PySem.W.subIn K (.ref X8) (.ref X16) = some false ∧ PySem.W.subIn K (.ref X8) (.ref X17) = some true)
    (xe8 : PySem.W.excIn K X8 [.type "ValueError", .type "Exception", .type "BaseException", .type "object"] "ValueError.__new__" = true)
    (xc9 : PySem.W.isClsIn K X9 = true ∧ PySem.W.findIn K (.ref X9) "__getattribute__" = some (some (.builtin "BaseException.__getattribute__")) ∧ PySem.W.findIn K (.ref X9) "__getattr__" = some none ∧ PySem.W.subIn K (.ref X9) (.type "BaseException") = some true ∧ PySem.W.hasDictIn K X9 = true ∧ PySem.W.findIn K (.ref X9) "__class__" = some (some (.builtin "object.__class__")) ∧ PySem.W.mroIn K X9 (.type "object") = some true ∧ PySem.W.typeIn K (.ref X9) = some (.type "type") ∧ PySem.W.keepIn K (.ref X9) = true ∧ PySem.W.subIn K (.ref X9) (.type "ValueError") = some true)
    (xs9 : PySem.W.subIn K (.ref X9) (.ref X0) = some false ∧ PySem.W.subIn K (.ref X9) (.ref X1) = some false ∧ PySem.W.subIn K (.ref X9) (.ref X2) = some false ∧ PySem.W.subIn K (.ref X9) (.ref X3) = some false ∧ PySem.W.subIn K (.ref X9) (.ref X4) = some false ∧ PySem.W.subIn K (.ref X9) (.ref X5) = some false ∧ PySem.W.subIn K (.ref X9) (.ref X6) = some false ∧ PySem.W.subIn K (.ref X9) (.ref X7) = some false ∧ PySem.W.subIn K (.ref X9) (.ref X8) = some false ∧ PySem.W.subIn K (.ref X9) (.ref X9) = some true ∧ PySem.W.subIn K (.ref X9) (.ref X10) = some false ∧ PySem.W.subIn K (.ref X9) (.ref X11) = some false ∧ PySem.W.subIn K (.ref X9) (.ref X12) = some false ∧ PySem.W.subIn K (.ref X9) (.ref X13) = some false ∧ PySem.W.subIn K (.ref X9) (.ref X14) = some false ∧ PySem.W.subIn K (.ref X9) (.ref X15) = some false ∧ PySem.W.subIn K (.ref X9) (.ref X16) = some false ∧ PySem.W.subIn K (.ref X9) (.ref X17) = some true)
    (xe9 : PySem.W.excIn K X9 [.type "ValueError", .type "Exception", .type "BaseException", .type "object"] "ValueError.__new__" = true)
    (xc10 : PySem.W.isClsIn K X10 = true ∧ PySem.W.findIn K (.ref X10) "__getattribute__" = some (some (.builtin "BaseException.__getattribute__")) ∧ PySem.W.findIn K (.ref X10) "__getattr__" = some none ∧ PySem.W.subIn K (.ref X10) (.type "BaseException") = some true ∧ PySem.W.hasDictIn K X10 = true ∧ PySem.W.findIn K (.ref X10) "__class__" = some (some (.builtin "object.__class__")) ∧ PySem.W.mroIn K X10 (.type "object") = some true ∧ PySem.W.typeIn K (.ref X10) = some (.type "type") ∧ PySem.W.keepIn K (.ref X10) = true ∧ PySem.W.subIn K (.ref X10) (.type "ValueError") = some true)
    (xs10 : PySem.W.subIn K (.ref X10) (.ref X0) = some false ∧ PySem.W.subIn K (.ref X10) (.ref X1) = some false ∧ PySem.W.subIn K (.ref X10) (.ref X2) = some false ∧ PySem.W.subIn K (.ref X10) (.ref X3) = some false ∧ PySem.W.subIn K (.ref X10) (.ref X4) = some false ∧ PySem.W.subIn K (.ref X10) (.ref X5) = some false ∧ PySem.W.subIn K (.ref X10) (.ref X6) = some false ∧ PySem.W.subIn K (.ref X10) (.ref X7) = some false ∧ PySem.W.subIn K (.ref X10) (.ref X8) = some false ∧ PySem.W.subIn K (.ref X10) (.ref X9) = some false ∧ PySem.W.subIn K (.ref X10) (.ref X10) = some true ∧ PySem.W.subIn K (.ref X10) (.ref X11) = some false ∧ PySem.W.subIn K (.ref X10) (.ref X12) = some false ∧ PySem.W.subIn K (.ref X10) (.ref X13) = some false ∧ PySem.W.subIn K (.ref X10) (.ref X14) = some false ∧ PySem.W.subIn K (.ref X10) (.ref X15) = some false ∧ PySem.W.subIn K (.ref X10) (.ref X16) = some false ∧ PySem.W.subIn K (.ref X10) (.ref X17) = some true)
    (xe10 : PySem.W.excIn K X10 [.type "ValueError", .type "Exception", .type "BaseException", .type "object"] "ValueError.__new__" = true)
    (xc11 : PySem.W.isClsIn K X11 = true ∧ PySem.W.findIn K (.ref X11) "__getattribute__" = some (some (.builtin "BaseException.__getattribute__")) ∧ PySem.W.findIn K (.ref X11) "__getattr__" = some none ∧ PySem.W.subIn K (.ref X11) (.type "BaseException") = some true ∧ PySem.W.hasDictIn K X11 = true ∧ PySem.W.findIn K (.ref X11) "__class__" = some (some (.builtin "object.__class__")) ∧ PySem.W.mroIn K X11 (.type "object") = some true ∧ PySem.W.typeIn K (.ref X11) = some (.type "type") ∧ PySem.W.keepIn K (.ref X11) = true ∧ PySem.W.subIn K (.ref X11) (.type "ValueError") = some true)
    (xs11 : PySem.W.subIn K (.ref X11) (.ref X0) = some false ∧ PySem.W.subIn K (.ref X11) (.ref X1) = some false ∧ PySem.W.subIn K (.ref X11) (.ref X2) = some false ∧ PySem.W.subIn K (.ref X11) (.ref X3) = some false ∧ PySem.W.subIn K (.ref X11) (.ref X4) = some false ∧ PySem.W.subIn K (.ref X11) (.ref X5) = some false ∧ PySem.W.subIn K (.ref X11) (.ref X6) = some false ∧ PySem.W.subIn K (.ref X11) (.ref X7) = some false ∧ PySem.W.subIn K (.ref X11) (.ref X8) = some false ∧ PySem.W.subIn K (.ref X11) (.ref X9) = some false ∧ PySem.W.subIn K (.ref X11) (.ref X10) = some false ∧ PySem.W.subIn K (.ref X11) (.ref X11) = some true ∧ PySem.W.subIn K (.ref X11) (.ref X12) = some false ∧ PySem.W.subIn K (.ref X11) (.ref X13) = some false ∧ PySem.W.subIn K (.ref X11) (.ref X14) = some false ∧ PySem.W.subIn K (.ref X11) (.ref X15) = some false ∧ PySem.W.subIn K (.ref X11) (.ref X16) = some false ∧ PySem.W.subIn K (.ref X11) (.ref X17) = some true)
    (xe11 : PySem.W.excIn K X11 [.type "ValueError", .type "Exception", .type "BaseException", .type "object"] "ValueError.__new__" = true)
    (xc12 : PySem.W.isClsIn K X12 = true ∧ PySem.W.findIn K (.ref X12) "__getattribute__" = some (some (.builtin "BaseException.__getattribute__")) ∧ PySem.W.findIn K (.ref X12) "__getattr__" = some none ∧ PySem.W.subIn K (.ref X12) (.type "BaseException") = some true ∧ PySem.W.hasDictIn K X12 = true ∧ PySem.W.findIn K (.ref X12) "__class__" = some (some (.builtin "object.__class__")) ∧ PySem.W.mroIn K X12 (.type "object") = some true ∧ PySem.W.typeIn K (.ref X12) = some (.type "type") ∧ PySem.W.keepIn K (.ref X12) = true ∧ PySem.W.subIn K (.ref X12) (.type "ValueError") = some true)
    (xs12 : PySem.W.subIn K (.ref X12) (.ref X0) = some false ∧ PySem.W.subIn K (.ref X12) (.ref X1) = some false ∧ PySem.W.subIn K (.ref X12) (.ref X2) = some false ∧ PySem.W.subIn K (.ref X12) (.ref X3) = some false ∧ PySem.W.subIn K (.ref X12) (.ref X4) = some false ∧ PySem.W.subIn K (.ref X12) (.ref X5) = some false ∧ PySem.W.subIn K (.ref X12) (.ref X6) = some false ∧ PySem.W.subIn K (.ref X12) (.ref X7) = some false ∧ PySem.W.subIn K (.ref X12) (.ref X8) = some false ∧ PySem.W.subIn K (.ref X12) (.ref X9) = some false ∧ PySem.W.subIn K (.ref X12) (.ref X10) = some false ∧ PySem.W.subIn K (.ref X12) (.ref X11) = some false ∧ PySem.W.subIn K (.ref X12) (.ref X12) = some true ∧ PySem.W.subIn K (.ref X12) (.ref X13) = some false ∧ PySem.W.subIn K (.ref X12) (.ref X14) = some false ∧ PySem.W.subIn K (.ref X12) (.ref X15) = some false ∧ PySem.W.subIn K (.ref X12) (.ref X16) = some false ∧ PySem.W.subIn K (.ref X12) (.ref X17) = some true)
    (xe12 : PySem.W.excIn K X12 [.type "ValueError", .type "Exception", .type "BaseException", .type "object"] "ValueError.__new__" = true)
    (xc13 : PySem.W.isClsIn K X13 = true ∧ PySem.W.findIn K (.ref X13) "__getattribute__" = some (some (.builtin "BaseException.__getattribute__")) ∧ PySem.W.findIn K (.ref X13) "__getattr__" = some none ∧ PySem.W.subIn K (.ref X13) (.type "BaseException") = some true ∧ PySem.W.hasDictIn K X13 = true ∧ PySem.W.findIn K (.ref X13) "__class__" = some (some (.builtin "object.__class__")) ∧ PySem.W.mroIn K X13 (.type "object") = some true ∧ PySem.W.typeIn K (.ref X13) = some (.type "type") ∧ PySem.W.keepIn K (.ref X13) = true ∧ PySem.W.subIn K (.ref X13) (.type "ValueError") = some true)
    (xs13 : PySem.W.subIn K (.ref X13) (.ref X0) = some false ∧ PySem.W.subIn K (.ref X13) (.ref X1) = some false ∧ PySem.W.subIn K (.ref X13) (.ref X2) = some false ∧ PySem.W.subIn K (.ref X13) (.ref X3) = some false ∧ PySem.W.subIn K (.ref X13) (.ref X4) = some false ∧ PySem.W.subIn K (.ref X13) (.ref X5) = some false ∧ PySem.W.subIn K (.ref X13) (.ref X6) = some false ∧ PySem.W.subIn K (.ref X13) (.ref X7) = some false ∧ PySem.W.subIn K (.ref X13) (.ref X8) = some false ∧ PySem.W.subIn K (.ref X13) (.ref X9) = some false ∧ PySem.W.subIn K (.ref X13) (.ref X10) = some false ∧ PySem.W.subIn K (.ref X13) (.ref X11) = some false ∧ PySem.W.subIn K (.ref X13) (.ref X12) = some false ∧ PySem.W.subIn K (.ref X13) (.ref X13) = some true ∧ PySem.W.subIn K (.ref X13) (.ref X14) = some false ∧ PySem.W.subIn K (.ref X13) (.ref X15) = some false ∧ PySem.W.subIn K (.ref X13) (.ref X16) = some false ∧ PySem.W.subIn K (.ref X13) (.ref X17) = some true)
    (xe13 : PySem.W.excIn K X13 [.type "ValueError", .type "Exception", .type "BaseException", .type "object"] "ValueError.__new__" = true)
    (xc14 : PySem.W.isClsIn K X14 = true ∧ PySem.W.findIn K (.ref X14) "__getattribute__" = some (some (.builtin "BaseException.__getattribute__")) ∧ PySem.W.findIn K (.ref X14) "__getattr__" = some none ∧ PySem.W.subIn K (.ref X14) (.type "BaseException") = some true ∧ PySem.W.hasDictIn K X14 = true ∧ PySem.W.findIn K (.ref X14) "__class__" = some (some (.builtin "object.__class__")) ∧ PySem.W.mroIn K X14 (.type "object") = some true ∧ PySem.W.typeIn K (.ref X14) = some (.type "type") ∧ PySem.W.keepIn K (.ref X14) = true ∧ PySem.W.subIn K (.ref X14) (.type "ValueError") = some true)
    (xs14 : PySem.W.subIn K (.ref X14) (.ref X0) = some false ∧ PySem.W.subIn K (.ref X14) (.ref X1) = some false ∧ PySem.W.subIn K (.ref X14) (.ref X2) = some false ∧ PySem.W.subIn K (.ref X14) (.ref X3) = some false ∧ PySem.W.subIn K (.ref X14) (.ref X4) = some false ∧ PySem.W.subIn K (.ref X14) (.ref X5) = some false ∧ PySem.W.subIn K (.ref X14) (.ref X6) = some false ∧ PySem.W.subIn K (.ref X14) (.ref X7) = some false ∧ PySem.W.subIn K (.ref X14) (.ref X8) = some false ∧ PySem.W.subIn K (.ref X14) (.ref X9) = some false ∧ PySem.W.subIn K (.ref X14) (.ref X10) = some false ∧ PySem.W.subIn K (.ref X14) (.ref X11) = some false ∧ PySem.W.subIn K (.ref X14) (.ref X12) = some false ∧ PySem.W.subIn K (.ref X14) (.ref X13) = some false ∧ PySem.W.subIn K (.ref X14) (.ref X14) = some true ∧ PySem.W.subIn K (.ref X14) (.ref X15) = some false ∧ PySem.W.subIn K (.ref X14) (.ref X16) = some false ∧ PySem.W.subIn K (.ref X14) (.ref X17) = some true)
    (xe14 : PySem.W.excIn K X14 [.type "ValueError", .type "Exception", .type "BaseException", .type "object"] "ValueError.__new__" = true)
    (xc15 : PySem.W.isClsIn K X15 = true ∧ PySem.W.findIn K (.ref X15) "__getattribute__" = some (some (.builtin "BaseException.__getattribute__")) ∧ PySem.W.findIn K (.ref X15) "__getattr__" = some none ∧ PySem.W.subIn K (.ref X15) (.type "BaseException") = some true ∧ PySem.W.hasDictIn K X15 = true ∧ PySem.W.findIn K (.ref X15) "__class__" = some (some (.builtin "object.__class__")) ∧ PySem.W.mroIn K X15 (.type "object") = some true ∧ PySem.W.typeIn K (.ref X15) = some (.type "type") ∧ PySem.W.keepIn K (.ref X15) = true ∧ PySem.W.subIn K (.ref X15) (.type "ValueError") = some true)
    (xs15 : PySem.W.subIn K (.ref X15) (.ref X0) = some false ∧ PySem.W.subIn K (.ref X15) (.ref X1) = some false ∧ PySem.W.subIn K (.ref X15) (.ref X2) = some false ∧ PySem.W.subIn K (.ref X15) (.ref X3) = some false ∧ PySem.W.subIn K (.ref X15) (.ref X4) = some false ∧ PySem.W.subIn K (.ref X15) (.ref X5) = some false ∧ PySem.W.subIn K (.ref X15) (.ref X6) = some false ∧ PySem.W.subIn K (.ref X15) (.ref X7) = some false ∧ PySem.W.subIn K (.ref X15) (.ref X8) = some false ∧ PySem.W.subIn K (.ref X15) (.ref X9) = some false ∧ PySem.W.subIn K (.ref X15) (.ref X10) = some false ∧ PySem.W.subIn K (.ref X15) (.ref X11) = some false ∧ PySem.W.subIn K (.ref X15) (.ref X12) = some false ∧ PySem.W.subIn K (.ref X15) (.ref X13) = some false ∧ PySem.W.subIn K (.ref X15) (.ref X14) = some false ∧ PySem.W.subIn K (.ref X15) (.ref X15) = some true ∧ PySem.W.subIn K (.ref X15) (.ref X16) = some false ∧ PySem.W.subIn K (.ref X15) (.ref X17) = some true)
    (xe15 : PySem.W.excIn K X15 [.type "ValueError", .type "Exception", .type "BaseException", .type "object"] "ValueError.__new__" = true)
    (xc16 : PySem.W.isClsIn K X16 = true ∧ PySem.W.findIn K (.ref X16) "__getattribute__" = some (some (.builtin "BaseException.__getattribute__")) ∧ PySem.W.findIn K (.ref X16) "__getattr__" = some none ∧ PySem.W.subIn K (.ref X16) (.type "BaseException") = some true ∧ PySem.W.hasDictIn K X16 = true ∧ PySem.W.findIn K (.ref X16) "__class__" = some (some (.builtin "object.__class__")) ∧ PySem.W.mroIn K X16 (.type "object") = some true ∧ PySem.W.typeIn K (.ref X16) = some (.type "type") ∧ PySem.W.keepIn K (.ref X16) = true ∧ PySem.W.subIn K (.ref X16) (.type "ValueError") = some true)
    (xs16 : PySem.W.subIn K (.ref X16) (.ref X0) = some false ∧ PySem.W.subIn K (.ref X16) (.ref X1) = some false ∧ PySem.W.subIn K (.ref X16) (.ref X2) = some false ∧ PySem.W.subIn K (.ref X16) (.ref X3) = some false ∧ PySem.W.subIn K (.ref X16) (.ref X4) = some false ∧ PySem.W.subIn K (.ref X16) (.ref X5) = some false ∧ PySem.W.subIn K (.ref X16) (.ref X6) = some false ∧ PySem.W.subIn K (.ref X16) (.ref X7) = some false ∧ PySem.W.subIn K (.ref X16) (.ref X8) = some false ∧ PySem.W.subIn K (.ref X16) (.ref X9) = some false ∧ PySem.W.subIn K (.ref X16) (.ref X10) = some false ∧ PySem.W.subIn K (.ref X16) (.ref X11) = some false ∧ PySem.W.subIn K (.ref X16) (.ref X12) = some false ∧ PySem.W.subIn K (.ref X16) (.ref X13) = some false ∧ PySem.W.subIn K (.ref X16) (.ref X14) = some false ∧ PySem.W.subIn K (.ref X16) (.ref X15) = some false ∧ PySem.W.subIn K (.ref X16) (.ref X16) = some true ∧ PySem.W.subIn K (.ref X16) (.ref X17) = some true)
    (xe16 : PySem.W.excIn K X16 [.type "ValueError", .type "Exception", .type "BaseException", .type "object"] "ValueError.__new__" = true)
    (xc17 : PySem.W.isClsIn K X17 = true ∧ PySem.W.findIn K (.ref X17) "__getattribute__" = some (some (.builtin "BaseException.__getattribute__")) ∧ PySem.W.findIn K (.ref X17) "__getattr__" = some none ∧ PySem.W.subIn K (.ref X17) (.type "BaseException") = some true ∧ PySem.W.hasDictIn K X17 = true ∧ PySem.W.findIn K (.ref X17) "__class__" = some (some (.builtin "object.__class__")) ∧ PySem.W.mroIn K X17 (.type "object") = some true ∧ PySem.W.typeIn K (.ref X17) = some (.type "type") ∧ PySem.W.keepIn K (.ref X17) = true ∧ PySem.W.subIn K (.ref X17) (.type "ValueError") = some true)
    (xs17 : PySem.W.subIn K (.ref X17) (.ref X0) = some false ∧ PySem.W.subIn K (.ref X17) (.ref X1) = some false ∧ PySem.W.subIn K (.ref X17) (.ref X2) = some false ∧ PySem.W.subIn K (.ref X17) (.ref X3) = some false ∧ PySem.W.subIn K (.ref X17) (.ref X4) = some false ∧ PySem.W.subIn K (.ref X17) (.ref X5) = some false ∧ PySem.W.subIn K (.ref X17) (.ref X6) = some false ∧ PySem.W.subIn K (.ref X17) (.ref X7) = some false ∧ PySem.W.subIn K (.ref X17) (.ref X8) = some false ∧ PySem.W.subIn K (.ref X17) (.ref X9) = some false ∧ PySem.W.subIn K (.ref X17) (.ref X10) = some false ∧ PySem.W.subIn K (.ref X17) (.ref X11) = some false ∧ PySem.W.subIn K (.ref X17) (.ref X12) = some false ∧ PySem.W.subIn K (.ref X17) (.ref X13) = some false ∧ PySem.W.subIn K (.ref X17) (.ref X14) = some false ∧ PySem.W.subIn K (.ref X17) (.ref X15) = some false ∧ PySem.W.subIn K (.ref X17) (.ref X16) = some false ∧ PySem.W.subIn K (.ref X17) (.ref X17) = some true)
    (xe17 : PySem.W.excIn K X17 [.type "ValueError", .type "Exception", .type "BaseException", .type "object"] "ValueError.__new__" = true)
    (zn_ValueError : PySem.W.nsIn K mainGlobals "ValueError" = some none)
    (zn_bool : PySem.W.nsIn K mainGlobals "bool" = some none)
    (zn_enumerate : PySem.W.nsIn K mainGlobals "enumerate" = some none)
    (zn_int : PySem.W.nsIn K mainGlobals "int" = some none)
    (zn_isinstance : PySem.W.nsIn K mainGlobals "isinstance" = some none)
    (zn_len : PySem.W.nsIn K mainGlobals "len" = some none)
    (zn_list : PySem.W.nsIn K mainGlobals "list" = some none)
    (zn_max : PySem.W.nsIn K mainGlobals "max" = some none)
    (zn_range : PySem.W.nsIn K mainGlobals "range" = some none)
    (zn_repr : PySem.W.nsIn K mainGlobals "repr" = some none)
    (zn_sum : PySem.W.nsIn K mainGlobals "sum" = some none)
    (zn_tuple : PySem.W.nsIn K mainGlobals "tuple" = some none)
    (zc_MOST_DEPTH : ∃ t, PySem.W.nsIn K mainGlobals "MOST_DEPTH" = some (some (.int 100 t)))
    (zc_MOST_KEY : ∃ t, PySem.W.nsIn K mainGlobals "MOST_KEY" = some (some (.int 1000000000000000000000000000000 t)))
    (zc_MOST_SPANS : ∃ t, PySem.W.nsIn K mainGlobals "MOST_SPANS" = some (some (.int 12 t)))
    : ∃ fd : FuncData, (∀ (s : Shared) (v : Value), BindsTo s fd ⟨[v], []⟩ [("_law_script", v)]) ∧ ∀ base : Heap, K.In base → base.Ns mainGlobals mg → (∃ mm, base.Ns sysModules mm) → FnG l.prog w K mg base CX0 11 fa fd ["_law_script"] (sp_law K default) := by
  have e := hfa.symm.trans (PySem.W.mg_of X G at_law)
  cases e
  have TT : TblTxt K mg C := ⟨⟨pg, hd, po, sa⟩, nC, nR, nS, PySem.W.mg_of X G aC, if_pos (beq_self_eq_true _), xa, xb, xc, xd⟩
  have NO : OddNo K C := ⟨oc, ot, os0, os1, os2, os3, os4, os5, os6⟩
  let AD : Nat → Addr := (fun i => [X0, X1, X2, X3, X4, X5, X6, X7, X8, X9, X10, X11, X12, X13, X14, X15, X16, X17, C].getD i X0)
  have XX : XT K AD := ⟨fun i hi => match i, hi with
    | 0, _ => (⟨xc0.1, xc0.2.1, xc0.2.2.1, xc0.2.2.2.1, xc0.2.2.2.2.1, xc0.2.2.2.2.2.1, xhn, xht, xc0.2.2.2.2.2.2.1⟩ : XcC K X0)
    | 1, _ => (⟨xc1.1, xc1.2.1, xc1.2.2.1, xc1.2.2.2.1, xc1.2.2.2.2.1, xc1.2.2.2.2.2.1, xhn, xht, xc1.2.2.2.2.2.2.1⟩ : XcC K X1)
    | 2, _ => (⟨xc2.1, xc2.2.1, xc2.2.2.1, xc2.2.2.2.1, xc2.2.2.2.2.1, xc2.2.2.2.2.2.1, xhn, xht, xc2.2.2.2.2.2.2.1⟩ : XcC K X2)
    | 3, _ => (⟨xc3.1, xc3.2.1, xc3.2.2.1, xc3.2.2.2.1, xc3.2.2.2.2.1, xc3.2.2.2.2.2.1, xhn, xht, xc3.2.2.2.2.2.2.1⟩ : XcC K X3)
    | 4, _ => (⟨xc4.1, xc4.2.1, xc4.2.2.1, xc4.2.2.2.1, xc4.2.2.2.2.1, xc4.2.2.2.2.2.1, xhn, xht, xc4.2.2.2.2.2.2.1⟩ : XcC K X4)
    | 5, _ => (⟨xc5.1, xc5.2.1, xc5.2.2.1, xc5.2.2.2.1, xc5.2.2.2.2.1, xc5.2.2.2.2.2.1, xhn, xht, xc5.2.2.2.2.2.2.1⟩ : XcC K X5)
    | 6, _ => (⟨xc6.1, xc6.2.1, xc6.2.2.1, xc6.2.2.2.1, xc6.2.2.2.2.1, xc6.2.2.2.2.2.1, xhn, xht, xc6.2.2.2.2.2.2.1⟩ : XcC K X6)
    | 7, _ => (⟨xc7.1, xc7.2.1, xc7.2.2.1, xc7.2.2.2.1, xc7.2.2.2.2.1, xc7.2.2.2.2.2.1, xhn, xht, xc7.2.2.2.2.2.2.1⟩ : XcC K X7)
    | 8, _ => (⟨xc8.1, xc8.2.1, xc8.2.2.1, xc8.2.2.2.1, xc8.2.2.2.2.1, xc8.2.2.2.2.2.1, xhn, xht, xc8.2.2.2.2.2.2.1⟩ : XcC K X8)
    | 9, _ => (⟨xc9.1, xc9.2.1, xc9.2.2.1, xc9.2.2.2.1, xc9.2.2.2.2.1, xc9.2.2.2.2.2.1, xhn, xht, xc9.2.2.2.2.2.2.1⟩ : XcC K X9)
    | 10, _ => (⟨xc10.1, xc10.2.1, xc10.2.2.1, xc10.2.2.2.1, xc10.2.2.2.2.1, xc10.2.2.2.2.2.1, xhn, xht, xc10.2.2.2.2.2.2.1⟩ : XcC K X10)
    | 11, _ => (⟨xc11.1, xc11.2.1, xc11.2.2.1, xc11.2.2.2.1, xc11.2.2.2.2.1, xc11.2.2.2.2.2.1, xhn, xht, xc11.2.2.2.2.2.2.1⟩ : XcC K X11)
    | 12, _ => (⟨xc12.1, xc12.2.1, xc12.2.2.1, xc12.2.2.2.1, xc12.2.2.2.2.1, xc12.2.2.2.2.2.1, xhn, xht, xc12.2.2.2.2.2.2.1⟩ : XcC K X12)
    | 13, _ => (⟨xc13.1, xc13.2.1, xc13.2.2.1, xc13.2.2.2.1, xc13.2.2.2.2.1, xc13.2.2.2.2.2.1, xhn, xht, xc13.2.2.2.2.2.2.1⟩ : XcC K X13)
    | 14, _ => (⟨xc14.1, xc14.2.1, xc14.2.2.1, xc14.2.2.2.1, xc14.2.2.2.2.1, xc14.2.2.2.2.2.1, xhn, xht, xc14.2.2.2.2.2.2.1⟩ : XcC K X14)
    | 15, _ => (⟨xc15.1, xc15.2.1, xc15.2.2.1, xc15.2.2.2.1, xc15.2.2.2.2.1, xc15.2.2.2.2.2.1, xhn, xht, xc15.2.2.2.2.2.2.1⟩ : XcC K X15)
    | 16, _ => (⟨xc16.1, xc16.2.1, xc16.2.2.1, xc16.2.2.2.1, xc16.2.2.2.2.1, xc16.2.2.2.2.2.1, xhn, xht, xc16.2.2.2.2.2.2.1⟩ : XcC K X16)
    | 17, _ => (⟨xc17.1, xc17.2.1, xc17.2.2.1, xc17.2.2.2.1, xc17.2.2.2.2.1, xc17.2.2.2.2.2.1, xhn, xht, xc17.2.2.2.2.2.2.1⟩ : XcC K X17)
    | n + 18, h => absurd h (by omega),
    fun i hi => match i, hi with
    | 0, _ => fun j hj => match j, hj with
      | 0, _ => (kit_refs xc0.1 xc0.2.2.2.2.2.2.2.1 xs0.1 xs0.1 : PySem.W.kitOne K (.ref X0) (.ref X0) = some true)
      | 1, _ => (kit_refs xc1.1 xc1.2.2.2.2.2.2.2.1 xs0.2.1 xs0.1 : PySem.W.kitOne K (.ref X0) (.ref X1) = some false)
      | 2, _ => (kit_refs xc2.1 xc2.2.2.2.2.2.2.2.1 xs0.2.2.1 xs0.1 : PySem.W.kitOne K (.ref X0) (.ref X2) = some false)
      | 3, _ => (kit_refs xc3.1 xc3.2.2.2.2.2.2.2.1 xs0.2.2.2.1 xs0.1 : PySem.W.kitOne K (.ref X0) (.ref X3) = some false)
      | 4, _ => (kit_refs xc4.1 xc4.2.2.2.2.2.2.2.1 xs0.2.2.2.2.1 xs0.1 : PySem.W.kitOne K (.ref X0) (.ref X4) = some false)
      | 5, _ => (kit_refs xc5.1 xc5.2.2.2.2.2.2.2.1 xs0.2.2.2.2.2.1 xs0.1 : PySem.W.kitOne K (.ref X0) (.ref X5) = some false)
      | 6, _ => (kit_refs xc6.1 xc6.2.2.2.2.2.2.2.1 xs0.2.2.2.2.2.2.1 xs0.1 : PySem.W.kitOne K (.ref X0) (.ref X6) = some false)
      | 7, _ => (kit_refs xc7.1 xc7.2.2.2.2.2.2.2.1 xs0.2.2.2.2.2.2.2.1 xs0.1 : PySem.W.kitOne K (.ref X0) (.ref X7) = some false)
      | 8, _ => (kit_refs xc8.1 xc8.2.2.2.2.2.2.2.1 xs0.2.2.2.2.2.2.2.2.1 xs0.1 : PySem.W.kitOne K (.ref X0) (.ref X8) = some false)
      | 9, _ => (kit_refs xc9.1 xc9.2.2.2.2.2.2.2.1 xs0.2.2.2.2.2.2.2.2.2.1 xs0.1 : PySem.W.kitOne K (.ref X0) (.ref X9) = some false)
      | 10, _ => (kit_refs xc10.1 xc10.2.2.2.2.2.2.2.1 xs0.2.2.2.2.2.2.2.2.2.2.1 xs0.1 : PySem.W.kitOne K (.ref X0) (.ref X10) = some false)
      | 11, _ => (kit_refs xc11.1 xc11.2.2.2.2.2.2.2.1 xs0.2.2.2.2.2.2.2.2.2.2.2.1 xs0.1 : PySem.W.kitOne K (.ref X0) (.ref X11) = some false)
      | 12, _ => (kit_refs xc12.1 xc12.2.2.2.2.2.2.2.1 xs0.2.2.2.2.2.2.2.2.2.2.2.2.1 xs0.1 : PySem.W.kitOne K (.ref X0) (.ref X12) = some false)
      | 13, _ => (kit_refs xc13.1 xc13.2.2.2.2.2.2.2.1 xs0.2.2.2.2.2.2.2.2.2.2.2.2.2.1 xs0.1 : PySem.W.kitOne K (.ref X0) (.ref X13) = some false)
      | 14, _ => (kit_refs xc14.1 xc14.2.2.2.2.2.2.2.1 xs0.2.2.2.2.2.2.2.2.2.2.2.2.2.2.1 xs0.1 : PySem.W.kitOne K (.ref X0) (.ref X14) = some false)
      | 15, _ => (kit_refs xc15.1 xc15.2.2.2.2.2.2.2.1 xs0.2.2.2.2.2.2.2.2.2.2.2.2.2.2.2.1 xs0.1 : PySem.W.kitOne K (.ref X0) (.ref X15) = some false)
      | 16, _ => (kit_refs xc16.1 xc16.2.2.2.2.2.2.2.1 xs0.2.2.2.2.2.2.2.2.2.2.2.2.2.2.2.2.1 xs0.1 : PySem.W.kitOne K (.ref X0) (.ref X16) = some false)
      | 17, _ => (kit_refs xc17.1 xc17.2.2.2.2.2.2.2.1 xs0.2.2.2.2.2.2.2.2.2.2.2.2.2.2.2.2.2 xs0.1 : PySem.W.kitOne K (.ref X0) (.ref X17) = some true)
      | n + 18, h => absurd h (by omega)
    | 1, _ => fun j hj => match j, hj with
      | 0, _ => (kit_refs xc0.1 xc0.2.2.2.2.2.2.2.1 xs1.1 xs1.2.1 : PySem.W.kitOne K (.ref X1) (.ref X0) = some false)
      | 1, _ => (kit_refs xc1.1 xc1.2.2.2.2.2.2.2.1 xs1.2.1 xs1.2.1 : PySem.W.kitOne K (.ref X1) (.ref X1) = some true)
      | 2, _ => (kit_refs xc2.1 xc2.2.2.2.2.2.2.2.1 xs1.2.2.1 xs1.2.1 : PySem.W.kitOne K (.ref X1) (.ref X2) = some false)
      | 3, _ => (kit_refs xc3.1 xc3.2.2.2.2.2.2.2.1 xs1.2.2.2.1 xs1.2.1 : PySem.W.kitOne K (.ref X1) (.ref X3) = some false)
      | 4, _ => (kit_refs xc4.1 xc4.2.2.2.2.2.2.2.1 xs1.2.2.2.2.1 xs1.2.1 : PySem.W.kitOne K (.ref X1) (.ref X4) = some false)
      | 5, _ => (kit_refs xc5.1 xc5.2.2.2.2.2.2.2.1 xs1.2.2.2.2.2.1 xs1.2.1 : PySem.W.kitOne K (.ref X1) (.ref X5) = some false)
      | 6, _ => (kit_refs xc6.1 xc6.2.2.2.2.2.2.2.1 xs1.2.2.2.2.2.2.1 xs1.2.1 : PySem.W.kitOne K (.ref X1) (.ref X6) = some false)
      | 7, _ => (kit_refs xc7.1 xc7.2.2.2.2.2.2.2.1 xs1.2.2.2.2.2.2.2.1 xs1.2.1 : PySem.W.kitOne K (.ref X1) (.ref X7) = some false)
      | 8, _ => (kit_refs xc8.1 xc8.2.2.2.2.2.2.2.1 xs1.2.2.2.2.2.2.2.2.1 xs1.2.1 : PySem.W.kitOne K (.ref X1) (.ref X8) = some false)
      | 9, _ => (kit_refs xc9.1 xc9.2.2.2.2.2.2.2.1 xs1.2.2.2.2.2.2.2.2.2.1 xs1.2.1 : PySem.W.kitOne K (.ref X1) (.ref X9) = some false)
      | 10, _ => (kit_refs xc10.1 xc10.2.2.2.2.2.2.2.1 xs1.2.2.2.2.2.2.2.2.2.2.1 xs1.2.1 : PySem.W.kitOne K (.ref X1) (.ref X10) = some false)
      | 11, _ => (kit_refs xc11.1 xc11.2.2.2.2.2.2.2.1 xs1.2.2.2.2.2.2.2.2.2.2.2.1 xs1.2.1 : PySem.W.kitOne K (.ref X1) (.ref X11) = some false)
      | 12, _ => (kit_refs xc12.1 xc12.2.2.2.2.2.2.2.1 xs1.2.2.2.2.2.2.2.2.2.2.2.2.1 xs1.2.1 : PySem.W.kitOne K (.ref X1) (.ref X12) = some false)
      | 13, _ => (kit_refs xc13.1 xc13.2.2.2.2.2.2.2.1 xs1.2.2.2.2.2.2.2.2.2.2.2.2.2.1 xs1.2.1 : PySem.W.kitOne K (.ref X1) (.ref X13) = some false)
      | 14, _ => (kit_refs xc14.1 xc14.2.2.2.2.2.2.2.1 xs1.2.2.2.2.2.2.2.2.2.2.2.2.2.2.1 xs1.2.1 : PySem.W.kitOne K (.ref X1) (.ref X14) = some false)
      | 15, _ => (kit_refs xc15.1 xc15.2.2.2.2.2.2.2.1 xs1.2.2.2.2.2.2.2.2.2.2.2.2.2.2.2.1 xs1.2.1 : PySem.W.kitOne K (.ref X1) (.ref X15) = some false)
      | 16, _ => (kit_refs xc16.1 xc16.2.2.2.2.2.2.2.1 xs1.2.2.2.2.2.2.2.2.2.2.2.2.2.2.2.2.1 xs1.2.1 : PySem.W.kitOne K (.ref X1) (.ref X16) = some false)
      | 17, _ => (kit_refs xc17.1 xc17.2.2.2.2.2.2.2.1 xs1.2.2.2.2.2.2.2.2.2.2.2.2.2.2.2.2.2 xs1.2.1 : PySem.W.kitOne K (.ref X1) (.ref X17) = some true)
      | n + 18, h => absurd h (by omega)
    | 2, _ => fun j hj => match j, hj with
      | 0, _ => (kit_refs xc0.1 xc0.2.2.2.2.2.2.2.1 xs2.1 xs2.2.2.1 : PySem.W.kitOne K (.ref X2) (.ref X0) = some false)
      | 1, _ => (kit_refs xc1.1 xc1.2.2.2.2.2.2.2.1 xs2.2.1 xs2.2.2.1 : PySem.W.kitOne K (.ref X2) (.ref X1) = some false)
      | 2, _ => (kit_refs xc2.1 xc2.2.2.2.2.2.2.2.1 xs2.2.2.1 xs2.2.2.1 : PySem.W.kitOne K (.ref X2) (.ref X2) = some true)
      | 3, _ => (kit_refs xc3.1 xc3.2.2.2.2.2.2.2.1 xs2.2.2.2.1 xs2.2.2.1 : PySem.W.kitOne K (.ref X2) (.ref X3) = some false)
      | 4, _ => (kit_refs xc4.1 xc4.2.2.2.2.2.2.2.1 xs2.2.2.2.2.1 xs2.2.2.1 : PySem.W.kitOne K (.ref X2) (.ref X4) = some false)
      | 5, _ => (kit_refs xc5.1 xc5.2.2.2.2.2.2.2.1 xs2.2.2.2.2.2.1 xs2.2.2.1 : PySem.W.kitOne K (.ref X2) (.ref X5) = some false)
      | 6, _ => (kit_refs xc6.1 xc6.2.2.2.2.2.2.2.1 xs2.2.2.2.2.2.2.1 xs2.2.2.1 : PySem.W.kitOne K (.ref X2) (.ref X6) = some false)
      | 7, _ => (kit_refs xc7.1 xc7.2.2.2.2.2.2.2.1 xs2.2.2.2.2.2.2.2.1 xs2.2.2.1 : PySem.W.kitOne K (.ref X2) (.ref X7) = some false)
      | 8, _ => (kit_refs xc8.1 xc8.2.2.2.2.2.2.2.1 xs2.2.2.2.2.2.2.2.2.1 xs2.2.2.1 : PySem.W.kitOne K (.ref X2) (.ref X8) = some false)
      | 9, _ => (kit_refs xc9.1 xc9.2.2.2.2.2.2.2.1 xs2.2.2.2.2.2.2.2.2.2.1 xs2.2.2.1 : PySem.W.kitOne K (.ref X2) (.ref X9) = some false)
      | 10, _ => (kit_refs xc10.1 xc10.2.2.2.2.2.2.2.1 xs2.2.2.2.2.2.2.2.2.2.2.1 xs2.2.2.1 : PySem.W.kitOne K (.ref X2) (.ref X10) = some false)
      | 11, _ => (kit_refs xc11.1 xc11.2.2.2.2.2.2.2.1 xs2.2.2.2.2.2.2.2.2.2.2.2.1 xs2.2.2.1 : PySem.W.kitOne K (.ref X2) (.ref X11) = some false)
      | 12, _ => (kit_refs xc12.1 xc12.2.2.2.2.2.2.2.1 xs2.2.2.2.2.2.2.2.2.2.2.2.2.1 xs2.2.2.1 : PySem.W.kitOne K (.ref X2) (.ref X12) = some false)
      | 13, _ => (kit_refs xc13.1 xc13.2.2.2.2.2.2.2.1 xs2.2.2.2.2.2.2.2.2.2.2.2.2.2.1 xs2.2.2.1 : PySem.W.kitOne K (.ref X2) (.ref X13) = some false)
      | 14, _ => (kit_refs xc14.1 xc14.2.2.2.2.2.2.2.1 xs2.2.2.2.2.2.2.2.2.2.2.2.2.2.2.1 xs2.2.2.1 : PySem.W.kitOne K (.ref X2) (.ref X14) = some false)
      | 15, _ => (kit_refs xc15.1 xc15.2.2.2.2.2.2.2.1 xs2.2.2.2.2.2.2.2.2.2.2.2.2.2.2.2.1 xs2.2.2.1 : PySem.W.kitOne K (.ref X2) (.ref X15) = some false)
      | 16, _ => (kit_refs xc16.1 xc16.2.2.2.2.2.2.2.1 xs2.2.2.2.2.2.2.2.2.2.2.2.2.2.2.2.2.1 xs2.2.2.1 : PySem.W.kitOne K (.ref X2) (.ref X16) = some false)
      | 17, _ => (kit_refs xc17.1 xc17.2.2.2.2.2.2.2.1 xs2.2.2.2.2.2.2.2.2.2.2.2.2.2.2.2.2.2 xs2.2.2.1 : PySem.W.kitOne K (.ref X2) (.ref X17) = some true)
      | n + 18, h => absurd h (by omega)
    | 3, _ => fun j hj => match j, hj with
      | 0, _ => (kit_refs xc0.1 xc0.2.2.2.2.2.2.2.1 xs3.1 xs3.2.2.2.1 : PySem.W.kitOne K (.ref X3) (.ref X0) = some false)
      | 1, _ => (kit_refs xc1.1 xc1.2.2.2.2.2.2.2.1 xs3.2.1 xs3.2.2.2.1 : PySem.W.kitOne K (.ref X3) (.ref X1) = some false)
      | 2, _ => (kit_refs xc2.1 xc2.2.2.2.2.2.2.2.1 xs3.2.2.1 xs3.2.2.2.1 : PySem.W.kitOne K (.ref X3) (.ref X2) = some false)
      | 3, _ => (kit_refs xc3.1 xc3.2.2.2.2.2.2.2.1 xs3.2.2.2.1 xs3.2.2.2.1 : PySem.W.kitOne K (.ref X3) (.ref X3) = some true)
      | 4, _ => (kit_refs xc4.1 xc4.2.2.2.2.2.2.2.1 xs3.2.2.2.2.1 xs3.2.2.2.1 : PySem.W.kitOne K (.ref X3) (.ref X4) = some false)
      | 5, _ => (kit_refs xc5.1 xc5.2.2.2.2.2.2.2.1 xs3.2.2.2.2.2.1 xs3.2.2.2.1 : PySem.W.kitOne K (.ref X3) (.ref X5) = some false)
      | 6, _ => (kit_refs xc6.1 xc6.2.2.2.2.2.2.2.1 xs3.2.2.2.2.2.2.1 xs3.2.2.2.1 : PySem.W.kitOne K (.ref X3) (.ref X6) = some false)
      | 7, _ => (kit_refs xc7.1 xc7.2.2.2.2.2.2.2.1 xs3.2.2.2.2.2.2.2.1 xs3.2.2.2.1 : PySem.W.kitOne K (.ref X3) (.ref X7) = some false)
      | 8, _ => (kit_refs xc8.1 xc8.2.2.2.2.2.2.2.1 xs3.2.2.2.2.2.2.2.2.1 xs3.2.2.2.1 : PySem.W.kitOne K (.ref X3) (.ref X8) = some false)
      | 9, _ => (kit_refs xc9.1 xc9.2.2.2.2.2.2.2.1 xs3.2.2.2.2.2.2.2.2.2.1 xs3.2.2.2.1 : PySem.W.kitOne K (.ref X3) (.ref X9) = some false)
      | 10, _ => (kit_refs xc10.1 xc10.2.2.2.2.2.2.2.1 xs3.2.2.2.2.2.2.2.2.2.2.1 xs3.2.2.2.1 : PySem.W.kitOne K (.ref X3) (.ref X10) = some false)
      | 11, _ => (kit_refs xc11.1 xc11.2.2.2.2.2.2.2.1 xs3.2.2.2.2.2.2.2.2.2.2.2.1 xs3.2.2.2.1 : PySem.W.kitOne K (.ref X3) (.ref X11) = some false)
      | 12, _ => (kit_refs xc12.1 xc12.2.2.2.2.2.2.2.1 xs3.2.2.2.2.2.2.2.2.2.2.2.2.1 xs3.2.2.2.1 : PySem.W.kitOne K (.ref X3) (.ref X12) = some false)
      | 13, _ => (kit_refs xc13.1 xc13.2.2.2.2.2.2.2.1 xs3.2.2.2.2.2.2.2.2.2.2.2.2.2.1 xs3.2.2.2.1 : PySem.W.kitOne K (.ref X3) (.ref X13) = some false)
      | 14, _ => (kit_refs xc14.1 xc14.2.2.2.2.2.2.2.1 xs3.2.2.2.2.2.2.2.2.2.2.2.2.2.2.1 xs3.2.2.2.1 : PySem.W.kitOne K (.ref X3) (.ref X14) = some false)
      | 15, _ => (kit_refs xc15.1 xc15.2.2.2.2.2.2.2.1 xs3.2.2.2.2.2.2.2.2.2.2.2.2.2.2.2.1 xs3.2.2.2.1 : PySem.W.kitOne K (.ref X3) (.ref X15) = some false)
      | 16, _ => (kit_refs xc16.1 xc16.2.2.2.2.2.2.2.1 xs3.2.2.2.2.2.2.2.2.2.2.2.2.2.2.2.2.1 xs3.2.2.2.1 : PySem.W.kitOne K (.ref X3) (.ref X16) = some false)
      | 17, _ => (kit_refs xc17.1 xc17.2.2.2.2.2.2.2.1 xs3.2.2.2.2.2.2.2.2.2.2.2.2.2.2.2.2.2 xs3.2.2.2.1 : PySem.W.kitOne K (.ref X3) (.ref X17) = some true)
      | n + 18, h => absurd h (by omega)
    | 4, _ => fun j hj => match j, hj with
      | 0, _ => (kit_refs xc0.1 xc0.2.2.2.2.2.2.2.1 xs4.1 xs4.2.2.2.2.1 : PySem.W.kitOne K (.ref X4) (.ref X0) = some false)
      | 1, _ => (kit_refs xc1.1 xc1.2.2.2.2.2.2.2.1 xs4.2.1 xs4.2.2.2.2.1 : PySem.W.kitOne K (.ref X4) (.ref X1) = some false)
      | 2, _ => (kit_refs xc2.1 xc2.2.2.2.2.2.2.2.1 xs4.2.2.1 xs4.2.2.2.2.1 : PySem.W.kitOne K (.ref X4) (.ref X2) = some false)
      | 3, _ => (kit_refs xc3.1 xc3.2.2.2.2.2.2.2.1 xs4.2.2.2.1 xs4.2.2.2.2.1 : PySem.W.kitOne K (.ref X4) (.ref X3) = some false)
      | 4, _ => (kit_refs xc4.1 xc4.2.2.2.2.2.2.2.1 xs4.2.2.2.2.1 xs4.2.2.2.2.1 : PySem.W.kitOne K (.ref X4) (.ref X4) = some true)
      | 5, _ => (kit_refs xc5.1 xc5.2.2.2.2.2.2.2.1 xs4.2.2.2.2.2.1 xs4.2.2.2.2.1 : PySem.W.kitOne K (.ref X4) (.ref X5) = some false)
      | 6, _ => (kit_refs xc6.1 xc6.2.2.2.2.2.2.2.1 xs4.2.2.2.2.2.2.1 xs4.2.2.2.2.1 : PySem.W.kitOne K (.ref X4) (.ref X6) = some false)
      | 7, _ => (kit_refs xc7.1 xc7.2.2.2.2.2.2.2.1 xs4.2.2.2.2.2.2.2.1 xs4.2.2.2.2.1 : PySem.W.kitOne K (.ref X4) (.ref X7) = some false)
      | 8, _ => (kit_refs xc8.1 xc8.2.2.2.2.2.2.2.1 xs4.2.2.2.2.2.2.2.2.1 xs4.2.2.2.2.1 : PySem.W.kitOne K (.ref X4) (.ref X8) = some false)
      | 9, _ => (kit_refs xc9.1 xc9.2.2.2.2.2.2.2.1 xs4.2.2.2.2.2.2.2.2.2.1 xs4.2.2.2.2.1 : PySem.W.kitOne K (.ref X4) (.ref X9) = some false)
      | 10, _ => (kit_refs xc10.1 xc10.2.2.2.2.2.2.2.1 xs4.2.2.2.2.2.2.2.2.2.2.1 xs4.2.2.2.2.1 : PySem.W.kitOne K (.ref X4) (.ref X10) = some false)
      | 11, _ => (kit_refs xc11.1 xc11.2.2.2.2.2.2.2.1 xs4.2.2.2.2.2.2.2.2.2.2.2.1 xs4.2.2.2.2.1 : PySem.W.kitOne K (.ref X4) (.ref X11) = some false)
      | 12, _ => (kit_refs xc12.1 xc12.2.2.2.2.2.2.2.1 xs4.2.2.2.2.2.2.2.2.2.2.2.2.1 xs4.2.2.2.2.1 : PySem.W.kitOne K (.ref X4) (.ref X12) = some false)
      | 13, _ => (kit_refs xc13.1 xc13.2.2.2.2.2.2.2.1 xs4.2.2.2.2.2.2.2.2.2.2.2.2.2.1 xs4.2.2.2.2.1 : PySem.W.kitOne K (.ref X4) (.ref X13) = some false)
      | 14, _ => (kit_refs xc14.1 xc14.2.2.2.2.2.2.2.1 xs4.2.2.2.2.2.2.2.2.2.2.2.2.2.2.1 xs4.2.2.2.2.1 : PySem.W.kitOne K (.ref X4) (.ref X14) = some false)
      | 15, _ => (kit_refs xc15.1 xc15.2.2.2.2.2.2.2.1 xs4.2.2.2.2.2.2.2.2.2.2.2.2.2.2.2.1 xs4.2.2.2.2.1 : PySem.W.kitOne K (.ref X4) (.ref X15) = some false)
      | 16, _ => (kit_refs xc16.1 xc16.2.2.2.2.2.2.2.1 xs4.2.2.2.2.2.2.2.2.2.2.2.2.2.2.2.2.1 xs4.2.2.2.2.1 : PySem.W.kitOne K (.ref X4) (.ref X16) = some false)
      | 17, _ => (kit_refs xc17.1 xc17.2.2.2.2.2.2.2.1 xs4.2.2.2.2.2.2.2.2.2.2.2.2.2.2.2.2.2 xs4.2.2.2.2.1 : PySem.W.kitOne K (.ref X4) (.ref X17) = some true)
      | n + 18, h => absurd h (by omega)
    | 5, _ => fun j hj => match j, hj with
      | 0, _ => (kit_refs xc0.1 xc0.2.2.2.2.2.2.2.1 xs5.1 xs5.2.2.2.2.2.1 : PySem.W.kitOne K (.ref X5) (.ref X0) = some false)
      | 1, _ => (kit_refs xc1.1 xc1.2.2.2.2.2.2.2.1 xs5.2.1 xs5.2.2.2.2.2.1 : PySem.W.kitOne K (.ref X5) (.ref X1) = some false)
      | 2, _ => (kit_refs xc2.1 xc2.2.2.2.2.2.2.2.1 xs5.2.2.1 xs5.2.2.2.2.2.1 : PySem.W.kitOne K (.ref X5) (.ref X2) = some false)
      | 3, _ => (kit_refs xc3.1 xc3.2.2.2.2.2.2.2.1 xs5.2.2.2.1 xs5.2.2.2.2.2.1 : PySem.W.kitOne K (.ref X5) (.ref X3) = some false)
      | 4, _ => (kit_refs xc4.1 xc4.2.2.2.2.2.2.2.1 xs5.2.2.2.2.1 xs5.2.2.2.2.2.1 : PySem.W.kitOne K (.ref X5) (.ref X4) = some false)
      | 5, _ => (kit_refs xc5.1 xc5.2.2.2.2.2.2.2.1 xs5.2.2.2.2.2.1 xs5.2.2.2.2.2.1 : PySem.W.kitOne K (.ref X5) (.ref X5) = some true)
      | 6, _ => (kit_refs xc6.1 xc6.2.2.2.2.2.2.2.1 xs5.2.2.2.2.2.2.1 xs5.2.2.2.2.2.1 : PySem.W.kitOne K (.ref X5) (.ref X6) = some false)
      | 7, _ => (kit_refs xc7.1 xc7.2.2.2.2.2.2.2.1 xs5.2.2.2.2.2.2.2.1 xs5.2.2.2.2.2.1 : PySem.W.kitOne K (.ref X5) (.ref X7) = some false)
      | 8, _ => (kit_refs xc8.1 xc8.2.2.2.2.2.2.2.1 xs5.2.2.2.2.2.2.2.2.1 xs5.2.2.2.2.2.1 : PySem.W.kitOne K (.ref X5) (.ref X8) = some false)
      | 9, _ => (kit_refs xc9.1 xc9.2.2.2.2.2.2.2.1 xs5.2.2.2.2.2.2.2.2.2.1 xs5.2.2.2.2.2.1 : PySem.W.kitOne K (.ref X5) (.ref X9) = some false)
      | 10, _ => (kit_refs xc10.1 xc10.2.2.2.2.2.2.2.1 xs5.2.2.2.2.2.2.2.2.2.2.1 xs5.2.2.2.2.2.1 : PySem.W.kitOne K (.ref X5) (.ref X10) = some false)
      | 11, _ => (kit_refs xc11.1 xc11.2.2.2.2.2.2.2.1 xs5.2.2.2.2.2.2.2.2.2.2.2.1 xs5.2.2.2.2.2.1 : PySem.W.kitOne K (.ref X5) (.ref X11) = some false)
      | 12, _ => (kit_refs xc12.1 xc12.2.2.2.2.2.2.2.1 xs5.2.2.2.2.2.2.2.2.2.2.2.2.1 xs5.2.2.2.2.2.1 : PySem.W.kitOne K (.ref X5) (.ref X12) = some false)
      | 13, _ => (kit_refs xc13.1 xc13.2.2.2.2.2.2.2.1 xs5.2.2.2.2.2.2.2.2.2.2.2.2.2.1 xs5.2.2.2.2.2.1 : PySem.W.kitOne K (.ref X5) (.ref X13) = some false)
      | 14, _ => (kit_refs xc14.1 xc14.2.2.2.2.2.2.2.1 xs5.2.2.2.2.2.2.2.2.2.2.2.2.2.2.1 xs5.2.2.2.2.2.1 : PySem.W.kitOne K (.ref X5) (.ref X14) = some false)
      | 15, _ => (kit_refs xc15.1 xc15.2.2.2.2.2.2.2.1 xs5.2.2.2.2.2.2.2.2.2.2.2.2.2.2.2.1 xs5.2.2.2.2.2.1 : PySem.W.kitOne K (.ref X5) (.ref X15) = some false)
      | 16, _ => (kit_refs xc16.1 xc16.2.2.2.2.2.2.2.1 xs5.2.2.2.2.2.2.2.2.2.2.2.2.2.2.2.2.1 xs5.2.2.2.2.2.1 : PySem.W.kitOne K (.ref X5) (.ref X16) = some false)
      | 17, _ => (kit_refs xc17.1 xc17.2.2.2.2.2.2.2.1 xs5.2.2.2.2.2.2.2.2.2.2.2.2.2.2.2.2.2 xs5.2.2.2.2.2.1 : PySem.W.kitOne K (.ref X5) (.ref X17) = some true)
      | n + 18, h => absurd h (by omega)
    | 6, _ => fun j hj => match j, hj with
      | 0, _ => (kit_refs xc0.1 xc0.2.2.2.2.2.2.2.1 xs6.1 xs6.2.2.2.2.2.2.1 : PySem.W.kitOne K (.ref X6) (.ref X0) = some false)
      | 1, _ => (kit_refs xc1.1 xc1.2.2.2.2.2.2.2.1 xs6.2.1 xs6.2.2.2.2.2.2.1 : PySem.W.kitOne K (.ref X6) (.ref X1) = some false)
      | 2, _ => (kit_refs xc2.1 xc2.2.2.2.2.2.2.2.1 xs6.2.2.1 xs6.2.2.2.2.2.2.1 : PySem.W.kitOne K (.ref X6) (.ref X2) = some false)
      | 3, _ => (kit_refs xc3.1 xc3.2.2.2.2.2.2.2.1 xs6.2.2.2.1 xs6.2.2.2.2.2.2.1 : PySem.W.kitOne K (.ref X6) (.ref X3) = some false)
      | 4, _ => (kit_refs xc4.1 xc4.2.2.2.2.2.2.2.1 xs6.2.2.2.2.1 xs6.2.2.2.2.2.2.1 : PySem.W.kitOne K (.ref X6) (.ref X4) = some false)
      | 5, _ => (kit_refs xc5.1 xc5.2.2.2.2.2.2.2.1 xs6.2.2.2.2.2.1 xs6.2.2.2.2.2.2.1 : PySem.W.kitOne K (.ref X6) (.ref X5) = some false)
      | 6, _ => (kit_refs xc6.1 xc6.2.2.2.2.2.2.2.1 xs6.2.2.2.2.2.2.1 xs6.2.2.2.2.2.2.1 : PySem.W.kitOne K (.ref X6) (.ref X6) = some true)
      | 7, _ => (kit_refs xc7.1 xc7.2.2.2.2.2.2.2.1 xs6.2.2.2.2.2.2.2.1 xs6.2.2.2.2.2.2.1 : PySem.W.kitOne K (.ref X6) (.ref X7) = some false)
      | 8, _ => (kit_refs xc8.1 xc8.2.2.2.2.2.2.2.1 xs6.2.2.2.2.2.2.2.2.1 xs6.2.2.2.2.2.2.1 : PySem.W.kitOne K (.ref X6) (.ref X8) = some false)
      | 9, _ => (kit_refs xc9.1 xc9.2.2.2.2.2.2.2.1 xs6.2.2.2.2.2.2.2.2.2.1 xs6.2.2.2.2.2.2.1 : PySem.W.kitOne K (.ref X6) (.ref X9) = some false)
      | 10, _ => (kit_refs xc10.1 xc10.2.2.2.2.2.2.2.1 xs6.2.2.2.2.2.2.2.2.2.2.1 xs6.2.2.2.2.2.2.1 : PySem.W.kitOne K (.ref X6) (.ref X10) = some false)
      | 11, _ => (kit_refs xc11.1 xc11.2.2.2.2.2.2.2.1 xs6.2.2.2.2.2.2.2.2.2.2.2.1 xs6.2.2.2.2.2.2.1 : PySem.W.kitOne K (.ref X6) (.ref X11) = some false)
      | 12, _ => (kit_refs xc12.1 xc12.2.2.2.2.2.2.2.1 xs6.2.2.2.2.2.2.2.2.2.2.2.2.1 xs6.2.2.2.2.2.2.1 : PySem.W.kitOne K (.ref X6) (.ref X12) = some false)
      | 13, _ => (kit_refs xc13.1 xc13.2.2.2.2.2.2.2.1 xs6.2.2.2.2.2.2.2.2.2.2.2.2.2.1 xs6.2.2.2.2.2.2.1 : PySem.W.kitOne K (.ref X6) (.ref X13) = some false)
      | 14, _ => (kit_refs xc14.1 xc14.2.2.2.2.2.2.2.1 xs6.2.2.2.2.2.2.2.2.2.2.2.2.2.2.1 xs6.2.2.2.2.2.2.1 : PySem.W.kitOne K (.ref X6) (.ref X14) = some false)
      | 15, _ => (kit_refs xc15.1 xc15.2.2.2.2.2.2.2.1 xs6.2.2.2.2.2.2.2.2.2.2.2.2.2.2.2.1 xs6.2.2.2.2.2.2.1 : PySem.W.kitOne K (.ref X6) (.ref X15) = some false)
      | 16, _ => (kit_refs xc16.1 xc16.2.2.2.2.2.2.2.1 xs6.2.2.2.2.2.2.2.2.2.2.2.2.2.2.2.2.1 xs6.2.2.2.2.2.2.1 : PySem.W.kitOne K (.ref X6) (.ref X16) = some false)
      | 17, _ => (kit_refs xc17.1 xc17.2.2.2.2.2.2.2.1 xs6.2.2.2.2.2.2.2.2.2.2.2.2.2.2.2.2.2 xs6.2.2.2.2.2.2.1 : PySem.W.kitOne K (.ref X6) (.ref X17) = some true)
      | n + 18, h => absurd h (by omega)
    | 7, _ => fun j hj => match j, hj with
      | 0, _ => (kit_refs xc0.1 xc0.2.2.2.2.2.2.2.1 xs7.1 xs7.2.2.2.2.2.2.2.1 : PySem.W.kitOne K (.ref X7) (.ref X0) = some false)
      | 1, _ => (kit_refs xc1.1 xc1.2.2.2.2.2.2.2.1 xs7.2.1 xs7.2.2.2.2.2.2.2.1 : PySem.W.kitOne K (.ref X7) (.ref X1) = some false)
      | 2, _ => (kit_refs xc2.1 xc2.2.2.2.2.2.2.2.1 xs7.2.2.1 xs7.2.2.2.2.2.2.2.1 : PySem.W.kitOne K (.ref X7) (.ref X2) = some false)
      | 3, _ => (kit_refs xc3.1 xc3.2.2.2.2.2.2.2.1 xs7.2.2.2.1 xs7.2.2.2.2.2.2.2.1 : PySem.W.kitOne K (.ref X7) (.ref X3) = some false)
      | 4, _ => (kit_refs xc4.1 xc4.2.2.2.2.2.2.2.1 xs7.2.2.2.2.1 xs7.2.2.2.2.2.2.2.1 : PySem.W.kitOne K (.ref X7) (.ref X4) = some false)
      | 5, _ => (kit_refs xc5.1 xc5.2.2.2.2.2.2.2.1 xs7.2.2.2.2.2.1 xs7.2.2.2.2.2.2.2.1 : PySem.W.kitOne K (.ref X7) (.ref X5) = some false)
      | 6, _ => (kit_refs xc6.1 xc6.2.2.2.2.2.2.2.1 xs7.2.2.2.2.2.2.1 xs7.2.2.2.2.2.2.2.1 : PySem.W.kitOne K (.ref X7) (.ref X6) = some false)
      | 7, _ => (kit_refs xc7.1 xc7.2.2.2.2.2.2.2.1 xs7.2.2.2.2.2.2.2.1 xs7.2.2.2.2.2.2.2.1 : PySem.W.kitOne K (.ref X7) (.ref X7) = some true)
      | 8, _ => (kit_refs xc8.1 xc8.2.2.2.2.2.2.2.1 xs7.2.2.2.2.2.2.2.2.1 xs7.2.2.2.2.2.2.2.1 : PySem.W.kitOne K (.ref X7) (.ref X8) = some false)
      | 9, _ => (kit_refs xc9.1 xc9.2.2.2.2.2.2.2.1 xs7.2.2.2.2.2.2.2.2.2.1 xs7.2.2.2.2.2.2.2.1 : PySem.W.kitOne K (.ref X7) (.ref X9) = some false)
      | 10, _ => (kit_refs xc10.1 xc10.2.2.2.2.2.2.2.1 xs7.2.2.2.2.2.2.2.2.2.2.1 xs7.2.2.2.2.2.2.2.1 : PySem.W.kitOne K (.ref X7) (.ref X10) = some false)
      | 11, _ => (kit_refs xc11.1 xc11.2.2.2.2.2.2.2.1 xs7.2.2.2.2.2.2.2.2.2.2.2.1 xs7.2.2.2.2.2.2.2.1 : PySem.W.kitOne K (.ref X7) (.ref X11) = some false)
      | 12, _ => (kit_refs xc12.1 xc12.2.2.2.2.2.2.2.1 xs7.2.2.2.2.2.2.2.2.2.2.2.2.1 xs7.2.2.2.2.2.2.2.1 : PySem.W.kitOne K (.ref X7) (.ref X12) = some false)
      | 13, _ => (kit_refs xc13.1 xc13.2.2.2.2.2.2.2.1 xs7.2.2.2.2.2.2.2.2.2.2.2.2.2.1 xs7.2.2.2.2.2.2.2.1 : PySem.W.kitOne K (.ref X7) (.ref X13) = some false)
      | 14, _ => (kit_refs xc14.1 xc14.2.2.2.2.2.2.2.1 xs7.2.2.2.2.2.2.2.2.2.2.2.2.2.2.1 xs7.2.2.2.2.2.2.2.1 : PySem.W.kitOne K (.ref X7) (.ref X14) = some false)
      | 15, _ => (kit_refs xc15.1 xc15.2.2.2.2.2.2.2.1 xs7.2.2.2.2.2.2.2.2.2.2.2.2.2.2.2.1 xs7.2.2.2.2.2.2.2.1 : PySem.W.kitOne K (.ref X7) (.ref X15) = some false)
      | 16, _ => (kit_refs xc16.1 xc16.2.2.2.2.2.2.2.1 xs7.2.2.2.2.2.2.2.2.2.2.2.2.2.2.2.2.1 xs7.2.2.2.2.2.2.2.1 : PySem.W.kitOne K (.ref X7) (.ref X16) = some false)
      | 17, _ => (kit_refs xc17.1 xc17.2.2.2.2.2.2.2.1 xs7.2.2.2.2.2.2.2.2.2.2.2.2.2.2.2.2.2 xs7.2.2.2.2.2.2.2.1 : PySem.W.kitOne K (.ref X7) (.ref X17) = some true)
      | n + 18, h => absurd h (by omega)
    | 8, _ => fun j hj => match j, hj with
      | 0, _ => (kit_refs xc0.1 xc0.2.2.2.2.2.2.2.1 xs8.1 xs8.2.2.2.2.2.2.2.2.1 : PySem.W.kitOne K (.ref X8) (.ref X0) = some false)
      | 1, _ => (kit_refs xc1.1 xc1.2.2.2.2.2.2.2.1 xs8.2.1 xs8.2.2.2.2.2.2.2.2.1 : PySem.W.kitOne K (.ref X8) (.ref X1) = some false)
      | 2, _ => (kit_refs xc2.1 xc2.2.2.2.2.2.2.2.1 xs8.2.2.1 xs8.2.2.2.2.2.2.2.2.1 : PySem.W.kitOne K (.ref X8) (.ref X2) = some false)
      | 3, _ => (kit_refs xc3.1 xc3.2.2.2.2.2.2.2.1 xs8.2.2.2.1 xs8.2.2.2.2.2.2.2.2.1 : PySem.W.kitOne K (.ref X8) (.ref X3) = some false)
      | 4, _ => (kit_refs xc4.1 xc4.2.2.2.2.2.2.2.1 xs8.2.2.2.2.1 xs8.2.2.2.2.2.2.2.2.1 : PySem.W.kitOne K (.ref X8) (.ref X4) = some false)
      | 5, _ => (kit_refs xc5.1 xc5.2.2.2.2.2.2.2.1 xs8.2.2.2.2.2.1 xs8.2.2.2.2.2.2.2.2.1 : PySem.W.kitOne K (.ref X8) (.ref X5) = some false)
      | 6, _ => (kit_refs xc6.1 xc6.2.2.2.2.2.2.2.1 xs8.2.2.2.2.2.2.1 xs8.2.2.2.2.2.2.2.2.1 : PySem.W.kitOne K (.ref X8) (.ref X6) = some false)
      | 7, _ => (kit_refs xc7.1 xc7.2.2.2.2.2.2.2.1 xs8.2.2.2.2.2.2.2.1 xs8.2.2.2.2.2.2.2.2.1 : PySem.W.kitOne K (.ref X8) (.ref X7) = some false)
      | 8, _ => (kit_refs xc8.1 xc8.2.2.2.2.2.2.2.1 xs8.2.2.2.2.2.2.2.2.1 xs8.2.2.2.2.2.2.2.2.1 : PySem.W.kitOne K (.ref X8) (.ref X8) = some true)
      | 9, _ => (kit_refs xc9.1 xc9.2.2.2.2.2.2.2.1 xs8.2.2.2.2.2.2.2.2.2.1 xs8.2.2.2.2.2.2.2.2.1 : PySem.W.kitOne K (.ref X8) (.ref X9) = some false)
      | 10, _ => (kit_refs xc10.1 xc10.2.2.2.2.2.2.2.1 xs8.2.2.2.2.2.2.2.2.2.2.1 xs8.2.2.2.2.2.2.2.2.1 : PySem.W.kitOne K (.ref X8) (.ref X10) = some false)
      | 11, _ => (kit_refs xc11.1 xc11.2.2.2.2.2.2.2.1 xs8.2.2.2.2.2.2.2.2.2.2.2.1 xs8.2.2.2.2.2.2.2.2.1 : PySem.W.kitOne K (.ref X8) (.ref X11) = some false)
      | 12, _ => (kit_refs xc12.1 xc12.2.2.2.2.2.2.2.1 xs8.2.2.2.2.2.2.2.2.2.2.2.2.1 xs8.2.2.2.2.2.2.2.2.1 : PySem.W.kitOne K (.ref X8) (.ref X12) = some false)
      | 13, _ => (kit_refs xc13.1 xc13.2.2.2.2.2.2.2.1 xs8.2.2.2.2.2.2.2.2.2.2.2.2.2.1 xs8.2.2.2.2.2.2.2.2.1 : PySem.W.kitOne K (.ref X8) (.ref X13) = some false)
      | 14, _ => (kit_refs xc14.1 xc14.2.2.2.2.2.2.2.1 xs8.2.2.2.2.2.2.2.2.2.2.2.2.2.2.1 xs8.2.2.2.2.2.2.2.2.1 : PySem.W.kitOne K (.ref X8) (.ref X14) = some false)
      | 15, _ => (kit_refs xc15.1 xc15.2.2.2.2.2.2.2.1 xs8.2.2.2.2.2.2.2.2.2.2.2.2.2.2.2.1 xs8.2.2.2.2.2.2.2.2.1 : PySem.W.kitOne K (.ref X8) (.ref X15) = some false)
      | 16, _ => (kit_refs xc16.1 xc16.2.2.2.2.2.2.2.1 xs8.2.2.2.2.2.2.2.2.2.2.2.2.2.2.2.2.1 xs8.2.2.2.2.2.2.2.2.1 : PySem.W.kitOne K (.ref X8) (.ref X16) = some false)
      | 17, _ => (kit_refs xc17.1 xc17.2.2.2.2.2.2.2.1 xs8.2.2.2.2.2.2.2.2.2.2.2.2.2.2.2.2.2 xs8.2.2.2.2.2.2.2.2.1 : PySem.W.kitOne K (.ref X8) (.ref X17) = some true)
      | n + 18, h => absurd h (by omega)
    | 9, _ => fun j hj => match j, hj with
      | 0, _ => (kit_refs xc0.1 xc0.2.2.2.2.2.2.2.1 xs9.1 xs9.2.2.2.2.2.2.2.2.2.1 : PySem.W.kitOne K (.ref X9) (.ref X0) = some false)
      | 1, _ => (kit_refs xc1.1 xc1.2.2.2.2.2.2.2.1 xs9.2.1 xs9.2.2.2.2.2.2.2.2.2.1 : PySem.W.kitOne K (.ref X9) (.ref X1) = some false)
      | 2, _ => (kit_refs xc2.1 xc2.2.2.2.2.2.2.2.1 xs9.2.2.1 xs9.2.2.2.2.2.2.2.2.2.1 : PySem.W.kitOne K (.ref X9) (.ref X2) = some false)
      | 3, _ => (kit_refs xc3.1 xc3.2.2.2.2.2.2.2.1 xs9.2.2.2.1 xs9.2.2.2.2.2.2.2.2.2.1 : PySem.W.kitOne K (.ref X9) (.ref X3) = some false)
      | 4, _ => (kit_refs xc4.1 xc4.2.2.2.2.2.2.2.1 xs9.2.2.2.2.1 xs9.2.2.2.2.2.2.2.2.2.1 : PySem.W.kitOne K (.ref X9) (.ref X4) = some false)
      | 5, _ => (kit_refs xc5.1 xc5.2.2.2.2.2.2.2.1 xs9.2.2.2.2.2.1 xs9.2.2.2.2.2.2.2.2.2.1 : PySem.W.kitOne K (.ref X9) (.ref X5) = some false)
      | 6, _ => (kit_refs xc6.1 xc6.2.2.2.2.2.2.2.1 xs9.2.2.2.2.2.2.1 xs9.2.2.2.2.2.2.2.2.2.1 : PySem.W.kitOne K (.ref X9) (.ref X6) = some false)
      | 7, _ => (kit_refs xc7.1 xc7.2.2.2.2.2.2.2.1 xs9.2.2.2.2.2.2.2.1 xs9.2.2.2.2.2.2.2.2.2.1 : PySem.W.kitOne K (.ref X9) (.ref X7) = some false)
      | 8, _ => (kit_refs xc8.1 xc8.2.2.2.2.2.2.2.1 xs9.2.2.2.2.2.2.2.2.1 xs9.2.2.2.2.2.2.2.2.2.1 : PySem.W.kitOne K (.ref X9) (.ref X8) = some false)
      | 9, _ => (kit_refs xc9.1 xc9.2.2.2.2.2.2.2.1 xs9.2.2.2.2.2.2.2.2.2.1 xs9.2.2.2.2.2.2.2.2.2.1 : PySem.W.kitOne K (.ref X9) (.ref X9) = some true)
      | 10, _ => (kit_refs xc10.1 xc10.2.2.2.2.2.2.2.1 xs9.2.2.2.2.2.2.2.2.2.2.1 xs9.2.2.2.2.2.2.2.2.2.1 : PySem.W.kitOne K (.ref X9) (.ref X10) = some false)
      | 11, _ => (kit_refs xc11.1 xc11.2.2.2.2.2.2.2.1 xs9.2.2.2.2.2.2.2.2.2.2.2.1 xs9.2.2.2.2.2.2.2.2.2.1 : PySem.W.kitOne K (.ref X9) (.ref X11) = some false)
      | 12, _ => (kit_refs xc12.1 xc12.2.2.2.2.2.2.2.1 xs9.2.2.2.2.2.2.2.2.2.2.2.2.1 xs9.2.2.2.2.2.2.2.2.2.1 : PySem.W.kitOne K (.ref X9) (.ref X12) = some false)
      | 13, _ => (kit_refs xc13.1 xc13.2.2.2.2.2.2.2.1 xs9.2.2.2.2.2.2.2.2.2.2.2.2.2.1 xs9.2.2.2.2.2.2.2.2.2.1 : PySem.W.kitOne K (.ref X9) (.ref X13) = some false)
      | 14, _ => (kit_refs xc14.1 xc14.2.2.2.2.2.2.2.1 xs9.2.2.2.2.2.2.2.2.2.2.2.2.2.2.1 xs9.2.2.2.2.2.2.2.2.2.1 : PySem.W.kitOne K (.ref X9) (.ref X14) = some false)
      | 15, _ => (kit_refs xc15.1 xc15.2.2.2.2.2.2.2.1 xs9.2.2.2.2.2.2.2.2.2.2.2.2.2.2.2.1 xs9.2.2.2.2.2.2.2.2.2.1 : PySem.W.kitOne K (.ref X9) (.ref X15) = some false)
      | 16, _ => (kit_refs xc16.1 xc16.2.2.2.2.2.2.2.1 xs9.2.2.2.2.2.2.2.2.2.2.2.2.2.2.2.2.1 xs9.2.2.2.2.2.2.2.2.2.1 : PySem.W.kitOne K (.ref X9) (.ref X16) = some false)
      | 17, _ => (kit_refs xc17.1 xc17.2.2.2.2.2.2.2.1 xs9.2.2.2.2.2.2.2.2.2.2.2.2.2.2.2.2.2 xs9.2.2.2.2.2.2.2.2.2.1 : PySem.W.kitOne K (.ref X9) (.ref X17) = some true)
      | n + 18, h => absurd h (by omega)
    | 10, _ => fun j hj => match j, hj with
      | 0, _ => (kit_refs xc0.1 xc0.2.2.2.2.2.2.2.1 xs10.1 xs10.2.2.2.2.2.2.2.2.2.2.1 : PySem.W.kitOne K (.ref X10) (.ref X0) = some false)
      | 1, _ => (kit_refs xc1.1 xc1.2.2.2.2.2.2.2.1 xs10.2.1 xs10.2.2.2.2.2.2.2.2.2.2.1 : PySem.W.kitOne K (.ref X10) (.ref X1) = some false)
      | 2, _ => (kit_refs xc2.1 xc2.2.2.2.2.2.2.2.1 xs10.2.2.1 xs10.2.2.2.2.2.2.2.2.2.2.1 : PySem.W.kitOne K (.ref X10) (.ref X2) = some false)
      | 3, _ => (kit_refs xc3.1 xc3.2.2.2.2.2.2.2.1 xs10.2.2.2.1 xs10.2.2.2.2.2.2.2.2.2.2.1 : PySem.W.kitOne K (.ref X10) (.ref X3) = some false)
      | 4, _ => (kit_refs xc4.1 xc4.2.2.2.2.2.2.2.1 xs10.2.2.2.2.1 xs10.2.2.2.2.2.2.2.2.2.2.1 : PySem.W.kitOne K (.ref X10) (.ref X4) = some false)
      | 5, _ => (kit_refs xc5.1 xc5.2.2.2.2.2.2.2.1 xs10.2.2.2.2.2.1 xs10.2.2.2.2.2.2.2.2.2.2.1 : PySem.W.kitOne K (.ref X10) (.ref X5) = some false)
      | 6, _ => (kit_refs xc6.1 xc6.2.2.2.2.2.2.2.1 xs10.2.2.2.2.2.2.1 xs10.2.2.2.2.2.2.2.2.2.2.1 : PySem.W.kitOne K (.ref X10) (.ref X6) = some false)
      | 7, _ => (kit_refs xc7.1 xc7.2.2.2.2.2.2.2.1 xs10.2.2.2.2.2.2.2.1 xs10.2.2.2.2.2.2.2.2.2.2.1 : PySem.W.kitOne K (.ref X10) (.ref X7) = some false)
      | 8, _ => (kit_refs xc8.1 xc8.2.2.2.2.2.2.2.1 xs10.2.2.2.2.2.2.2.2.1 xs10.2.2.2.2.2.2.2.2.2.2.1 : PySem.W.kitOne K (.ref X10) (.ref X8) = some false)
      | 9, _ => (kit_refs xc9.1 xc9.2.2.2.2.2.2.2.1 xs10.2.2.2.2.2.2.2.2.2.1 xs10.2.2.2.2.2.2.2.2.2.2.1 : PySem.W.kitOne K (.ref X10) (.ref X9) = some false)
      | 10, _ => (kit_refs xc10.1 xc10.2.2.2.2.2.2.2.1 xs10.2.2.2.2.2.2.2.2.2.2.1 xs10.2.2.2.2.2.2.2.2.2.2.1 : PySem.W.kitOne K (.ref X10) (.ref X10) = some true)
      | 11, _ => (kit_refs xc11.1 xc11.2.2.2.2.2.2.2.1 xs10.2.2.2.2.2.2.2.2.2.2.2.1 xs10.2.2.2.2.2.2.2.2.2.2.1 : PySem.W.kitOne K (.ref X10) (.ref X11) = some false)
      | 12, _ => (kit_refs xc12.1 xc12.2.2.2.2.2.2.2.1 xs10.2.2.2.2.2.2.2.2.2.2.2.2.1 xs10.2.2.2.2.2.2.2.2.2.2.1 : PySem.W.kitOne K (.ref X10) (.ref X12) = some false)
      | 13, _ => (kit_refs xc13.1 xc13.2.2.2.2.2.2.2.1 xs10.2.2.2.2.2.2.2.2.2.2.2.2.2.1 xs10.2.2.2.2.2.2.2.2.2.2.1 : PySem.W.kitOne K (.ref X10) (.ref X13) = some false)
      | 14, _ => (kit_refs xc14.1 xc14.2.2.2.2.2.2.2.1 xs10.2.2.2.2.2.2.2.2.2.2.2.2.2.2.1 xs10.2.2.2.2.2.2.2.2.2.2.1 : PySem.W.kitOne K (.ref X10) (.ref X14) = some false)
      | 15, _ => (kit_refs xc15.1 xc15.2.2.2.2.2.2.2.1 xs10.2.2.2.2.2.2.2.2.2.2.2.2.2.2.2.1 xs10.2.2.2.2.2.2.2.2.2.2.1 : PySem.W.kitOne K (.ref X10) (.ref X15) = some false)
      | 16, _ => (kit_refs xc16.1 xc16.2.2.2.2.2.2.2.1 xs10.2.2.2.2.2.2.2.2.2.2.2.2.2.2.2.2.1 xs10.2.2.2.2.2.2.2.2.2.2.1 : PySem.W.kitOne K (.ref X10) (.ref X16) = some false)
      | 17, _ => (kit_refs xc17.1 xc17.2.2.2.2.2.2.2.1 xs10.2.2.2.2.2.2.2.2.2.2.2.2.2.2.2.2.2 xs10.2.2.2.2.2.2.2.2.2.2.1 : PySem.W.kitOne K (.ref X10) (.ref X17) = some true)
      | n + 18, h => absurd h (by omega)
    | 11, _ => fun j hj => match j, hj with
      | 0, _ => (kit_refs xc0.1 xc0.2.2.2.2.2.2.2.1 xs11.1 xs11.2.2.2.2.2.2.2.2.2.2.2.1 : PySem.W.kitOne K (.ref X11) (.ref X0) = some false)
      | 1, _ => (kit_refs xc1.1 xc1.2.2.2.2.2.2.2.1 xs11.2.1 xs11.2.2.2.2.2.2.2.2.2.2.2.1 : PySem.W.kitOne K (.ref X11) (.ref X1) = some false)
      | 2, _ => (kit_refs xc2.1 xc2.2.2.2.2.2.2.2.1 xs11.2.2.1 xs11.2.2.2.2.2.2.2.2.2.2.2.1 : PySem.W.kitOne K (.ref X11) (.ref X2) = some false)
      | 3, _ => (kit_refs xc3.1 xc3.2.2.2.2.2.2.2.1 xs11.2.2.2.1 xs11.2.2.2.2.2.2.2.2.2.2.2.1 : PySem.W.kitOne K (.ref X11) (.ref X3) = some false)
      | 4, _ => (kit_refs xc4.1 xc4.2.2.2.2.2.2.2.1 xs11.2.2.2.2.1 xs11.2.2.2.2.2.2.2.2.2.2.2.1 : PySem.W.kitOne K (.ref X11) (.ref X4) = some false)
      | 5, _ => (kit_refs xc5.1 xc5.2.2.2.2.2.2.2.1 xs11.2.2.2.2.2.1 xs11.2.2.2.2.2.2.2.2.2.2.2.1 : PySem.W.kitOne K (.ref X11) (.ref X5) = some false)
      | 6, _ => (kit_refs xc6.1 xc6.2.2.2.2.2.2.2.1 xs11.2.2.2.2.2.2.1 xs11.2.2.2.2.2.2.2.2.2.2.2.1 : PySem.W.kitOne K (.ref X11) (.ref X6) = some false)
      | 7, _ => (kit_refs xc7.1 xc7.2.2.2.2.2.2.2.1 xs11.2.2.2.2.2.2.2.1 xs11.2.2.2.2.2.2.2.2.2.2.2.1 : PySem.W.kitOne K (.ref X11) (.ref X7) = some false)
      | 8, _ => (kit_refs xc8.1 xc8.2.2.2.2.2.2.2.1 xs11.2.2.2.2.2.2.2.2.1 xs11.2.2.2.2.2.2.2.2.2.2.2.1 : PySem.W.kitOne K (.ref X11) (.ref X8) = some false)
      | 9, _ => (kit_refs xc9.1 xc9.2.2.2.2.2.2.2.1 xs11.2.2.2.2.2.2.2.2.2.1 xs11.2.2.2.2.2.2.2.2.2.2.2.1 : PySem.W.kitOne K (.ref X11) (.ref X9) = some false)
      | 10, _ => (kit_refs xc10.1 xc10.2.2.2.2.2.2.2.1 xs11.2.2.2.2.2.2.2.2.2.2.1 xs11.2.2.2.2.2.2.2.2.2.2.2.1 : PySem.W.kitOne K (.ref X11) (.ref X10) = some false)
      | 11, _ => (kit_refs xc11.1 xc11.2.2.2.2.2.2.2.1 xs11.2.2.2.2.2.2.2.2.2.2.2.1 xs11.2.2.2.2.2.2.2.2.2.2.2.1 : PySem.W.kitOne K (.ref X11) (.ref X11) = some true)
      | 12, _ => (kit_refs xc12.1 xc12.2.2.2.2.2.2.2.1 xs11.2.2.2.2.2.2.2.2.2.2.2.2.1 xs11.2.2.2.2.2.2.2.2.2.2.2.1 : PySem.W.kitOne K (.ref X11) (.ref X12) = some false)
      | 13, _ => (kit_refs xc13.1 xc13.2.2.2.2.2.2.2.1 xs11.2.2.2.2.2.2.2.2.2.2.2.2.2.1 xs11.2.2.2.2.2.2.2.2.2.2.2.1 : PySem.W.kitOne K (.ref X11) (.ref X13) = some false)
      | 14, _ => (kit_refs xc14.1 xc14.2.2.2.2.2.2.2.1 xs11.2.2.2.2.2.2.2.2.2.2.2.2.2.2.1 xs11.2.2.2.2.2.2.2.2.2.2.2.1 : PySem.W.kitOne K (.ref X11) (.ref X14) = some false)
      | 15, _ => (kit_refs xc15.1 xc15.2.2.2.2.2.2.2.1 xs11.2.2.2.2.2.2.2.2.2.2.2.2.2.2.2.1 xs11.2.2.2.2.2.2.2.2.2.2.2.1 : PySem.W.kitOne K (.ref X11) (.ref X15) = some false)
      | 16, _ => (kit_refs xc16.1 xc16.2.2.2.2.2.2.2.1 xs11.2.2.2.2.2.2.2.2.2.2.2.2.2.2.2.2.1 xs11.2.2.2.2.2.2.2.2.2.2.2.1 : PySem.W.kitOne K (.ref X11) (.ref X16) = some false)
      | 17, _ => (kit_refs xc17.1 xc17.2.2.2.2.2.2.2.1 xs11.2.2.2.2.2.2.2.2.2.2.2.2.2.2.2.2.2 xs11.2.2.2.2.2.2.2.2.2.2.2.1 : PySem.W.kitOne K (.ref X11) (.ref X17) = some true)
      | n + 18, h => absurd h (by omega)
    | 12, _ => fun j hj => match j, hj with
      | 0, _ => (kit_refs xc0.1 xc0.2.2.2.2.2.2.2.1 xs12.1 xs12.2.2.2.2.2.2.2.2.2.2.2.2.1 : PySem.W.kitOne K (.ref X12) (.ref X0) = some false)
      | 1, _ => (kit_refs xc1.1 xc1.2.2.2.2.2.2.2.1 xs12.2.1 xs12.2.2.2.2.2.2.2.2.2.2.2.2.1 : PySem.W.kitOne K (.ref X12) (.ref X1) = some false)
      | 2, _ => (kit_refs xc2.1 xc2.2.2.2.2.2.2.2.1 xs12.2.2.1 xs12.2.2.2.2.2.2.2.2.2.2.2.2.1 : PySem.W.kitOne K (.ref X12) (.ref X2) = some false)
      | 3, _ => (kit_refs xc3.1 xc3.2.2.2.2.2.2.2.1 xs12.2.2.2.1 xs12.2.2.2.2.2.2.2.2.2.2.2.2.1 : PySem.W.kitOne K (.ref X12) (.ref X3) = some false)
      | 4, _ => (kit_refs xc4.1 xc4.2.2.2.2.2.2.2.1 xs12.2.2.2.2.1 xs12.2.2.2.2.2.2.2.2.2.2.2.2.1 : PySem.W.kitOne K (.ref X12) (.ref X4) = some false)
      | 5, _ => (kit_refs xc5.1 xc5.2.2.2.2.2.2.2.1 xs12.2.2.2.2.2.1 xs12.2.2.2.2.2.2.2.2.2.2.2.2.1 : PySem.W.kitOne K (.ref X12) (.ref X5) = some false)
      | 6, _ => (kit_refs xc6.1 xc6.2.2.2.2.2.2.2.1 xs12.2.2.2.2.2.2.1 xs12.2.2.2.2.2.2.2.2.2.2.2.2.1 : PySem.W.kitOne K (.ref X12) (.ref X6) = some false)
      | 7, _ => (kit_refs xc7.1 xc7.2.2.2.2.2.2.2.1 xs12.2.2.2.2.2.2.2.1 xs12.2.2.2.2.2.2.2.2.2.2.2.2.1 : PySem.W.kitOne K (.ref X12) (.ref X7) = some false)
      | 8, _ => (kit_refs xc8.1 xc8.2.2.2.2.2.2.2.1 xs12.2.2.2.2.2.2.2.2.1 xs12.2.2.2.2.2.2.2.2.2.2.2.2.1 : PySem.W.kitOne K (.ref X12) (.ref X8) = some false)
      | 9, _ => (kit_refs xc9.1 xc9.2.2.2.2.2.2.2.1 xs12.2.2.2.2.2.2.2.2.2.1 xs12.2.2.2.2.2.2.2.2.2.2.2.2.1 : PySem.W.kitOne K (.ref X12) (.ref X9) = some false)
      | 10, _ => (kit_refs xc10.1 xc10.2.2.2.2.2.2.2.1 xs12.2.2.2.2.2.2.2.2.2.2.1 xs12.2.2.2.2.2.2.2.2.2.2.2.2.1 : PySem.W.kitOne K (.ref X12) (.ref X10) = some false)
      | 11, _ => (kit_refs xc11.1 xc11.2.2.2.2.2.2.2.1 xs12.2.2.2.2.2.2.2.2.2.2.2.1 xs12.2.2.2.2.2.2.2.2.2.2.2.2.1 : PySem.W.kitOne K (.ref X12) (.ref X11) = some false)
      | 12, _ => (kit_refs xc12.1 xc12.2.2.2.2.2.2.2.1 xs12.2.2.2.2.2.2.2.2.2.2.2.2.1 xs12.2.2.2.2.2.2.2.2.2.2.2.2.1 : PySem.W.kitOne K (.ref X12) (.ref X12) = some true)
      | 13, _ => (kit_refs xc13.1 xc13.2.2.2.2.2.2.2.1 xs12.2.2.2.2.2.2.2.2.2.2.2.2.2.1 xs12.2.2.2.2.2.2.2.2.2.2.2.2.1 : PySem.W.kitOne K (.ref X12) (.ref X13) = some false)
      | 14, _ => (kit_refs xc14.1 xc14.2.2.2.2.2.2.2.1 xs12.2.2.2.2.2.2.2.2.2.2.2.2.2.2.1 xs12.2.2.2.2.2.2.2.2.2.2.2.2.1 : PySem.W.kitOne K (.ref X12) (.ref X14) = some false)
      | 15, _ => (kit_refs xc15.1 xc15.2.2.2.2.2.2.2.1 xs12.2.2.2.2.2.2.2.2.2.2.2.2.2.2.2.1 xs12.2.2.2.2.2.2.2.2.2.2.2.2.1 : PySem.W.kitOne K (.ref X12) (.ref X15) = some false)
      | 16, _ => (kit_refs xc16.1 xc16.2.2.2.2.2.2.2.1 xs12.2.2.2.2.2.2.2.2.2.2.2.2.2.2.2.2.1 xs12.2.2.2.2.2.2.2.2.2.2.2.2.1 : PySem.W.kitOne K (.ref X12) (.ref X16) = some false)
      | 17, _ => (kit_refs xc17.1 xc17.2.2.2.2.2.2.2.1 xs12.2.2.2.2.2.2.2.2.2.2.2.2.2.2.2.2.2 xs12.2.2.2.2.2.2.2.2.2.2.2.2.1 : PySem.W.kitOne K (.ref X12) (.ref X17) = some true)
      | n + 18, h => absurd h (by omega)
    | 13, _ => fun j hj => match j, hj with
      | 0, _ => (kit_refs xc0.1 xc0.2.2.2.2.2.2.2.1 xs13.1 xs13.2.2.2.2.2.2.2.2.2.2.2.2.2.1 : PySem.W.kitOne K (.ref X13) (.ref X0) = some false)
      | 1, _ => (kit_refs xc1.1 xc1.2.2.2.2.2.2.2.1 xs13.2.1 xs13.2.2.2.2.2.2.2.2.2.2.2.2.2.1 : PySem.W.kitOne K (.ref X13) (.ref X1) = some false)
      | 2, _ => (kit_refs xc2.1 xc2.2.2.2.2.2.2.2.1 xs13.2.2.1 xs13.2.2.2.2.2.2.2.2.2.2.2.2.2.1 : PySem.W.kitOne K (.ref X13) (.ref X2) = some false)
      | 3, _ => (kit_refs xc3.1 xc3.2.2.2.2.2.2.2.1 xs13.2.2.2.1 xs13.2.2.2.2.2.2.2.2.2.2.2.2.2.1 : PySem.W.kitOne K (.ref X13) (.ref X3) = some false)
      | 4, _ => (kit_refs xc4.1 xc4.2.2.2.2.2.2.2.1 xs13.2.2.2.2.1 xs13.2.2.2.2.2.2.2.2.2.2.2.2.2.1 : PySem.W.kitOne K (.ref X13) (.ref X4) = some false)
      | 5, _ => (kit_refs xc5.1 xc5.2.2.2.2.2.2.2.1 xs13.2.2.2.2.2.1 xs13.2.2.2.2.2.2.2.2.2.2.2.2.2.1 : PySem.W.kitOne K (.ref X13) (.ref X5) = some false)
      | 6, _ => (kit_refs xc6.1 xc6.2.2.2.2.2.2.2.1 xs13.2.2.2.2.2.2.1 xs13.2.2.2.2.2.2.2.2.2.2.2.2.2.1 : PySem.W.kitOne K (.ref X13) (.ref X6) = some false)
      | 7, _ => (kit_refs xc7.1 xc7.2.2.2.2.2.2.2.1 xs13.2.2.2.2.2.2.2.1 xs13.2.2.2.2.2.2.2.2.2.2.2.2.2.1 : PySem.W.kitOne K (.ref X13) (.ref X7) = some false)
      | 8, _ => (kit_refs xc8.1 xc8.2.2.2.2.2.2.2.1 xs13.2.2.2.2.2.2.2.2.1 xs13.2.2.2.2.2.2.2.2.2.2.2.2.2.1 : PySem.W.kitOne K (.ref X13) (.ref X8) = some false)
      | 9, _ => (kit_refs xc9.1 xc9.2.2.2.2.2.2.2.1 xs13.2.2.2.2.2.2.2.2.2.1 xs13.2.2.2.2.2.2.2.2.2.2.2.2.2.1 : PySem.W.kitOne K (.ref X13) (.ref X9) = some false)
      | 10, _ => (kit_refs xc10.1 xc10.2.2.2.2.2.2.2.1 xs13.2.2.2.2.2.2.2.2.2.2.1 xs13.2.2.2.2.2.2.2.2.2.2.2.2.2.1 : PySem.W.kitOne K (.ref X13) (.ref X10) = some false)
      | 11, _ => (kit_refs xc11.1 xc11.2.2.2.2.2.2.2.1 xs13.2.2.2.2.2.2.2.2.2.2.2.1 xs13.2.2.2.2.2.2.2.2.2.2.2.2.2.1 : PySem.W.kitOne K (.ref X13) (.ref X11) = some false)
      | 12, _ => (kit_refs xc12.1 xc12.2.2.2.2.2.2.2.1 xs13.2.2.2.2.2.2.2.2.2.2.2.2.1 xs13.2.2.2.2.2.2.2.2.2.2.2.2.2.1 : PySem.W.kitOne K (.ref X13) (.ref X12) = some false)
      | 13, _ => (kit_refs xc13.1 xc13.2.2.2.2.2.2.2.1 xs13.2.2.2.2.2.2.2.2.2.2.2.2.2.1 xs13.2.2.2.2.2.2.2.2.2.2.2.2.2.1 : PySem.W.kitOne K (.ref X13) (.ref X13) = some true)
      | 14, _ => (kit_refs xc14.1 xc14.2.2.2.2.2.2.2.1 xs13.2.2.2.2.2.2.2.2.2.2.2.2.2.2.1 xs13.2.2.2.2.2.2.2.2.2.2.2.2.2.1 : PySem.W.kitOne K (.ref X13) (.ref X14) = some false)
      | 15, _ => (kit_refs xc15.1 xc15.2.2.2.2.2.2.2.1 xs13.2.2.2.2.2.2.2.2.2.2.2.2.2.2.2.1 xs13.2.2.2.2.2.2.2.2.2.2.2.2.2.1 : PySem.W.kitOne K (.ref X13) (.ref X15) = some false)
      | 16, _ => (kit_refs xc16.1 xc16.2.2.2.2.2.2.2.1 xs13.2.2.2.2.2.2.2.2.2.2.2.2.2.2.2.2.1 xs13.2.2.2.2.2.2.2.2.2.2.2.2.2.1 : PySem.W.kitOne K (.ref X13) (.ref X16) = some false)
      | 17, _ => (kit_refs xc17.1 xc17.2.2.2.2.2.2.2.1 xs13.2.2.2.2.2.2.2.2.2.2.2.2.2.2.2.2.2 xs13.2.2.2.2.2.2.2.2.2.2.2.2.2.1 : PySem.W.kitOne K (.ref X13) (.ref X17) = some true)
      | n + 18, h => absurd h (by omega)
    | 14, _ => fun j hj => match j, hj with
      | 0, _ => (kit_refs xc0.1 xc0.2.2.2.2.2.2.2.1 xs14.1 xs14.2.2.2.2.2.2.2.2.2.2.2.2.2.2.1 : PySem.W.kitOne K (.ref X14) (.ref X0) = some false)
      | 1, _ => (kit_refs xc1.1 xc1.2.2.2.2.2.2.2.1 xs14.2.1 xs14.2.2.2.2.2.2.2.2.2.2.2.2.2.2.1 : PySem.W.kitOne K (.ref X14) (.ref X1) = some false)
      | 2, _ => (kit_refs xc2.1 xc2.2.2.2.2.2.2.2.1 xs14.2.2.1 xs14.2.2.2.2.2.2.2.2.2.2.2.2.2.2.1 : PySem.W.kitOne K (.ref X14) (.ref X2) = some false)
      | 3, _ => (kit_refs xc3.1 xc3.2.2.2.2.2.2.2.1 xs14.2.2.2.1 xs14.2.2.2.2.2.2.2.2.2.2.2.2.2.2.1 : PySem.W.kitOne K (.ref X14) (.ref X3) = some false)
      | 4, _ => (kit_refs xc4.1 xc4.2.2.2.2.2.2.2.1 xs14.2.2.2.2.1 xs14.2.2.2.2.2.2.2.2.2.2.2.2.2.2.1 : PySem.W.kitOne K (.ref X14) (.ref X4) = some false)
      | 5, _ => (kit_refs xc5.1 xc5.2.2.2.2.2.2.2.1 xs14.2.2.2.2.2.1 xs14.2.2.2.2.2.2.2.2.2.2.2.2.2.2.1 : PySem.W.kitOne K (.ref X14) (.ref X5) = some false)
      | 6, _ => (kit_refs xc6.1 xc6.2.2.2.2.2.2.2.1 xs14.2.2.2.2.2.2.1 xs14.2.2.2.2.2.2.2.2.2.2.2.2.2.2.1 : PySem.W.kitOne K (.ref X14) (.ref X6) = some false)
      | 7, _ => (kit_refs xc7.1 xc7.2.2.2.2.2.2.2.1 xs14.2.2.2.2.2.2.2.1 xs14.2.2.2.2.2.2.2.2.2.2.2.2.2.2.1 : PySem.W.kitOne K (.ref X14) (.ref X7) = some false)
      | 8, _ => (kit_refs xc8.1 xc8.2.2.2.2.2.2.2.1 xs14.2.2.2.2.2.2.2.2.1 xs14.2.2.2.2.2.2.2.2.2.2.2.2.2.2.1 : PySem.W.kitOne K (.ref X14) (.ref X8) = some false)
      | 9, _ => (kit_refs xc9.1 xc9.2.2.2.2.2.2.2.1 xs14.2.2.2.2.2.2.2.2.2.1 xs14.2.2.2.2.2.2.2.2.2.2.2.2.2.2.1 : PySem.W.kitOne K (.ref X14) (.ref X9) = some false)
      | 10, _ => (kit_refs xc10.1 xc10.2.2.2.2.2.2.2.1 xs14.2.2.2.2.2.2.2.2.2.2.1 xs14.2.2.2.2.2.2.2.2.2.2.2.2.2.2.1 : PySem.W.kitOne K (.ref X14) (.ref X10) = some false)
      | 11, _ => (kit_refs xc11.1 xc11.2.2.2.2.2.2.2.1 xs14.2.2.2.2.2.2.2.2.2.2.2.1 xs14.2.2.2.2.2.2.2.2.2.2.2.2.2.2.1 : PySem.W.kitOne K (.ref X14) (.ref X11) = some false)
      | 12, _ => (kit_refs xc12.1 xc12.2.2.2.2.2.2.2.1 xs14.2.2.2.2.2.2.2.2.2.2.2.2.1 xs14.2.2.2.2.2.2.2.2.2.2.2.2.2.2.1 : PySem.W.kitOne K (.ref X14) (.ref X12) = some false)
      | 13, _ => (kit_refs xc13.1 xc13.2.2.2.2.2.2.2.1 xs14.2.2.2.2.2.2.2.2.2.2.2.2.2.1 xs14.2.2.2.2.2.2.2.2.2.2.2.2.2.2.1 : PySem.W.kitOne K (.ref X14) (.ref X13) = some false)
      | 14, _ => (kit_refs xc14.1 xc14.2.2.2.2.2.2.2.1 xs14.2.2.2.2.2.2.2.2.2.2.2.2.2.2.1 xs14.2.2.2.2.2.2.2.2.2.2.2.2.2.2.1 : PySem.W.kitOne K (.ref X14) (.ref X14) = some true)
      | 15, _ => (kit_refs xc15.1 xc15.2.2.2.2.2.2.2.1 xs14.2.2.2.2.2.2.2.2.2.2.2.2.2.2.2.1 xs14.2.2.2.2.2.2.2.2.2.2.2.2.2.2.1 : PySem.W.kitOne K (.ref X14) (.ref X15) = some false)
      | 16, _ => (kit_refs xc16.1 xc16.2.2.2.2.2.2.2.1 xs14.2.2.2.2.2.2.2.2.2.2.2.2.2.2.2.2.1 xs14.2.2.2.2.2.2.2.2.2.2.2.2.2.2.1 : PySem.W.kitOne K (.ref X14) (.ref X16) = some false)
      | 17, _ => (kit_refs xc17.1 xc17.2.2.2.2.2.2.2.1 xs14.2.2.2.2.2.2.2.2.2.2.2.2.2.2.2.2.2 xs14.2.2.2.2.2.2.2.2.2.2.2.2.2.2.1 : PySem.W.kitOne K (.ref X14) (.ref X17) = some true)
      | n + 18, h => absurd h (by omega)
    | 15, _ => fun j hj => match j, hj with
      | 0, _ => (kit_refs xc0.1 xc0.2.2.2.2.2.2.2.1 xs15.1 xs15.2.2.2.2.2.2.2.2.2.2.2.2.2.2.2.1 : PySem.W.kitOne K (.ref X15) (.ref X0) = some false)
      | 1, _ => (kit_refs xc1.1 xc1.2.2.2.2.2.2.2.1 xs15.2.1 xs15.2.2.2.2.2.2.2.2.2.2.2.2.2.2.2.1 : PySem.W.kitOne K (.ref X15) (.ref X1) = some false)
      | 2, _ => (kit_refs xc2.1 xc2.2.2.2.2.2.2.2.1 xs15.2.2.1 xs15.2.2.2.2.2.2.2.2.2.2.2.2.2.2.2.1 : PySem.W.kitOne K (.ref X15) (.ref X2) = some false)
      | 3, _ => (kit_refs xc3.1 xc3.2.2.2.2.2.2.2.1 xs15.2.2.2.1 xs15.2.2.2.2.2.2.2.2.2.2.2.2.2.2.2.1 : PySem.W.kitOne K (.ref X15) (.ref X3) = some false)
      | 4, _ => (kit_refs xc4.1 xc4.2.2.2.2.2.2.2.1 xs15.2.2.2.2.1 xs15.2.2.2.2.2.2.2.2.2.2.2.2.2.2.2.1 : PySem.W.kitOne K (.ref X15) (.ref X4) = some false)
      | 5, _ => (kit_refs xc5.1 xc5.2.2.2.2.2.2.2.1 xs15.2.2.2.2.2.1 xs15.2.2.2.2.2.2.2.2.2.2.2.2.2.2.2.1 : PySem.W.kitOne K (.ref X15) (.ref X5) = some false)
      | 6, _ => (kit_refs xc6.1 xc6.2.2.2.2.2.2.2.1 xs15.2.2.2.2.2.2.1 xs15.2.2.2.2.2.2.2.2.2.2.2.2.2.2.2.1 : PySem.W.kitOne K (.ref X15) (.ref X6) = some false)
      | 7, _ => (kit_refs xc7.1 xc7.2.2.2.2.2.2.2.1 xs15.2.2.2.2.2.2.2.1 xs15.2.2.2.2.2.2.2.2.2.2.2.2.2.2.2.1 : PySem.W.kitOne K (.ref X15) (.ref X7) = some false)
      | 8, _ => (kit_refs xc8.1 xc8.2.2.2.2.2.2.2.1 xs15.2.2.2.2.2.2.2.2.1 xs15.2.2.2.2.2.2.2.2.2.2.2.2.2.2.2.1 : PySem.W.kitOne K (.ref X15) (.ref X8) = some false)
      | 9, _ => (kit_refs xc9.1 xc9.2.2.2.2.2.2.2.1 xs15.2.2.2.2.2.2.2.2.2.1 xs15.2.2.2.2.2.2.2.2.2.2.2.2.2.2.2.1 : PySem.W.kitOne K (.ref X15) (.ref X9) = some false)
      | 10, _ => (kit_refs xc10.1 xc10.2.2.2.2.2.2.2.1 xs15.2.2.2.2.2.2.2.2.2.2.1 xs15.2.2.2.2.2.2.2.2.2.2.2.2.2.2.2.1 : PySem.W.kitOne K (.ref X15) (.ref X10) = some false)
      | 11, _ => (kit_refs xc11.1 xc11.2.2.2.2.2.2.2.1 xs15.2.2.2.2.2.2.2.2.2.2.2.1 xs15.2.2.2.2.2.2.2.2.2.2.2.2.2.2.2.1 : PySem.W.kitOne K (.ref X15) (.ref X11) = some false)
      | 12, _ => (kit_refs xc12.1 xc12.2.2.2.2.2.2.2.1 xs15.2.2.2.2.2.2.2.2.2.2.2.2.1 xs15.2.2.2.2.2.2.2.2.2.2.2.2.2.2.2.1 : PySem.W.kitOne K (.ref X15) (.ref X12) = some false)
      | 13, _ => (kit_refs xc13.1 xc13.2.2.2.2.2.2.2.1 xs15.2.2.2.2.2.2.2.2.2.2.2.2.2.1 xs15.2.2.2.2.2.2.2.2.2.2.2.2.2.2.2.1 : PySem.W.kitOne K (.ref X15) (.ref X13) = some false)
      | 14, _ => (kit_refs xc14.1 xc14.2.2.2.2.2.2.2.1 xs15.2.2.2.2.2.2.2.2.2.2.2.2.2.2.1 xs15.2.2.2.2.2.2.2.2.2.2.2.2.2.2.2.1 : PySem.W.kitOne K (.ref X15) (.ref X14) = some false)
      | 15, _ => (kit_refs xc15.1 xc15.2.2.2.2.2.2.2.1 xs15.2.2.2.2.2.2.2.2.2.2.2.2.2.2.2.1 xs15.2.2.2.2.2.2.2.2.2.2.2.2.2.2.2.1 : PySem.W.kitOne K (.ref X15) (.ref X15) = some true)
      | 16, _ => (kit_refs xc16.1 xc16.2.2.2.2.2.2.2.1 xs15.2.2.2.2.2.2.2.2.2.2.2.2.2.2.2.2.1 xs15.2.2.2.2.2.2.2.2.2.2.2.2.2.2.2.1 : PySem.W.kitOne K (.ref X15) (.ref X16) = some false)
      | 17, _ => (kit_refs xc17.1 xc17.2.2.2.2.2.2.2.1 xs15.2.2.2.2.2.2.2.2.2.2.2.2.2.2.2.2.2 xs15.2.2.2.2.2.2.2.2.2.2.2.2.2.2.2.1 : PySem.W.kitOne K (.ref X15) (.ref X17) = some true)
      | n + 18, h => absurd h (by omega)
    | 16, _ => fun j hj => match j, hj with
      | 0, _ => (kit_refs xc0.1 xc0.2.2.2.2.2.2.2.1 xs16.1 xs16.2.2.2.2.2.2.2.2.2.2.2.2.2.2.2.2.1 : PySem.W.kitOne K (.ref X16) (.ref X0) = some false)
      | 1, _ => (kit_refs xc1.1 xc1.2.2.2.2.2.2.2.1 xs16.2.1 xs16.2.2.2.2.2.2.2.2.2.2.2.2.2.2.2.2.1 : PySem.W.kitOne K (.ref X16) (.ref X1) = some false)
      | 2, _ => (kit_refs xc2.1 xc2.2.2.2.2.2.2.2.1 xs16.2.2.1 xs16.2.2.2.2.2.2.2.2.2.2.2.2.2.2.2.2.1 : PySem.W.kitOne K (.ref X16) (.ref X2) = some false)
      | 3, _ => (kit_refs xc3.1 xc3.2.2.2.2.2.2.2.1 xs16.2.2.2.1 xs16.2.2.2.2.2.2.2.2.2.2.2.2.2.2.2.2.1 : PySem.W.kitOne K (.ref X16) (.ref X3) = some false)
      | 4, _ => (kit_refs xc4.1 xc4.2.2.2.2.2.2.2.1 xs16.2.2.2.2.1 xs16.2.2.2.2.2.2.2.2.2.2.2.2.2.2.2.2.1 : PySem.W.kitOne K (.ref X16) (.ref X4) = some false)
      | 5, _ => (kit_refs xc5.1 xc5.2.2.2.2.2.2.2.1 xs16.2.2.2.2.2.1 xs16.2.2.2.2.2.2.2.2.2.2.2.2.2.2.2.2.1 : PySem.W.kitOne K (.ref X16) (.ref X5) = some false)
      | 6, _ => (kit_refs xc6.1 xc6.2.2.2.2.2.2.2.1 xs16.2.2.2.2.2.2.1 xs16.2.2.2.2.2.2.2.2.2.2.2.2.2.2.2.2.1 : PySem.W.kitOne K (.ref X16) (.ref X6) = some false)
      | 7, _ => (kit_refs xc7.1 xc7.2.2.2.2.2.2.2.1 xs16.2.2.2.2.2.2.2.1 xs16.2.2.2.2.2.2.2.2.2.2.2.2.2.2.2.2.1 : PySem.W.kitOne K (.ref X16) (.ref X7) = some false)
      | 8, _ => (kit_refs xc8.1 xc8.2.2.2.2.2.2.2.1 xs16.2.2.2.2.2.2.2.2.1 xs16.2.2.2.2.2.2.2.2.2.2.2.2.2.2.2.2.1 : PySem.W.kitOne K (.ref X16) (.ref X8) = some false)
      | 9, _ => (kit_refs xc9.1 xc9.2.2.2.2.2.2.2.1 xs16.2.2.2.2.2.2.2.2.2.1 xs16.2.2.2.2.2.2.2.2.2.2.2.2.2.2.2.2.1 : PySem.W.kitOne K (.ref X16) (.ref X9) = some false)
      | 10, _ => (kit_refs xc10.1 xc10.2.2.2.2.2.2.2.1 xs16.2.2.2.2.2.2.2.2.2.2.1 xs16.2.2.2.2.2.2.2.2.2.2.2.2.2.2.2.2.1 : PySem.W.kitOne K (.ref X16) (.ref X10) = some false)
      | 11, _ => (kit_refs xc11.1 xc11.2.2.2.2.2.2.2.1 xs16.2.2.2.2.2.2.2.2.2.2.2.1 xs16.2.2.2.2.2.2.2.2.2.2.2.2.2.2.2.2.1 : PySem.W.kitOne K (.ref X16) (.ref X11) = some false)
      | 12, _ => (kit_refs xc12.1 xc12.2.2.2.2.2.2.2.1 xs16.2.2.2.2.2.2.2.2.2.2.2.2.1 xs16.2.2.2.2.2.2.2.2.2.2.2.2.2.2.2.2.1 : PySem.W.kitOne K (.ref X16) (.ref X12) = some false)
      | 13, _ => (kit_refs xc13.1 xc13.2.2.2.2.2.2.2.1 xs16.2.2.2.2.2.2.2.2.2.2.2.2.2.1 xs16.2.2.2.2.2.2.2.2.2.2.2.2.2.2.2.2.1 : PySem.W.kitOne K (.ref X16) (.ref X13) = some false)
      | 14, _ => (kit_refs xc14.1 xc14.2.2.2.2.2.2.2.1 xs16.2.2.2.2.2.2.2.2.2.2.2.2.2.2.1 xs16.2.2.2.2.2.2.2.2.2.2.2.2.2.2.2.2.1 : PySem.W.kitOne K (.ref X16) (.ref X14) = some false)
      | 15, _ => (kit_refs xc15.1 xc15.2.2.2.2.2.2.2.1 xs16.2.2.2.2.2.2.2.2.2.2.2.2.2.2.2.1 xs16.2.2.2.2.2.2.2.2.2.2.2.2.2.2.2.2.1 : PySem.W.kitOne K (.ref X16) (.ref X15) = some false)
      | 16, _ => (kit_refs xc16.1 xc16.2.2.2.2.2.2.2.1 xs16.2.2.2.2.2.2.2.2.2.2.2.2.2.2.2.2.1 xs16.2.2.2.2.2.2.2.2.2.2.2.2.2.2.2.2.1 : PySem.W.kitOne K (.ref X16) (.ref X16) = some true)
      | 17, _ => (kit_refs xc17.1 xc17.2.2.2.2.2.2.2.1 xs16.2.2.2.2.2.2.2.2.2.2.2.2.2.2.2.2.2 xs16.2.2.2.2.2.2.2.2.2.2.2.2.2.2.2.2.1 : PySem.W.kitOne K (.ref X16) (.ref X17) = some true)
      | n + 18, h => absurd h (by omega)
    | 17, _ => fun j hj => match j, hj with
      | 0, _ => (kit_refs xc0.1 xc0.2.2.2.2.2.2.2.1 xs17.1 xs17.2.2.2.2.2.2.2.2.2.2.2.2.2.2.2.2.2 : PySem.W.kitOne K (.ref X17) (.ref X0) = some false)
      | 1, _ => (kit_refs xc1.1 xc1.2.2.2.2.2.2.2.1 xs17.2.1 xs17.2.2.2.2.2.2.2.2.2.2.2.2.2.2.2.2.2 : PySem.W.kitOne K (.ref X17) (.ref X1) = some false)
      | 2, _ => (kit_refs xc2.1 xc2.2.2.2.2.2.2.2.1 xs17.2.2.1 xs17.2.2.2.2.2.2.2.2.2.2.2.2.2.2.2.2.2 : PySem.W.kitOne K (.ref X17) (.ref X2) = some false)
      | 3, _ => (kit_refs xc3.1 xc3.2.2.2.2.2.2.2.1 xs17.2.2.2.1 xs17.2.2.2.2.2.2.2.2.2.2.2.2.2.2.2.2.2 : PySem.W.kitOne K (.ref X17) (.ref X3) = some false)
      | 4, _ => (kit_refs xc4.1 xc4.2.2.2.2.2.2.2.1 xs17.2.2.2.2.1 xs17.2.2.2.2.2.2.2.2.2.2.2.2.2.2.2.2.2 : PySem.W.kitOne K (.ref X17) (.ref X4) = some false)
      | 5, _ => (kit_refs xc5.1 xc5.2.2.2.2.2.2.2.1 xs17.2.2.2.2.2.1 xs17.2.2.2.2.2.2.2.2.2.2.2.2.2.2.2.2.2 : PySem.W.kitOne K (.ref X17) (.ref X5) = some false)
      | 6, _ => (kit_refs xc6.1 xc6.2.2.2.2.2.2.2.1 xs17.2.2.2.2.2.2.1 xs17.2.2.2.2.2.2.2.2.2.2.2.2.2.2.2.2.2 : PySem.W.kitOne K (.ref X17) (.ref X6) = some false)
      | 7, _ => (kit_refs xc7.1 xc7.2.2.2.2.2.2.2.1 xs17.2.2.2.2.2.2.2.1 xs17.2.2.2.2.2.2.2.2.2.2.2.2.2.2.2.2.2 : PySem.W.kitOne K (.ref X17) (.ref X7) = some false)
      | 8, _ => (kit_refs xc8.1 xc8.2.2.2.2.2.2.2.1 xs17.2.2.2.2.2.2.2.2.1 xs17.2.2.2.2.2.2.2.2.2.2.2.2.2.2.2.2.2 : PySem.W.kitOne K (.ref X17) (.ref X8) = some false)
      | 9, _ => (kit_refs xc9.1 xc9.2.2.2.2.2.2.2.1 xs17.2.2.2.2.2.2.2.2.2.1 xs17.2.2.2.2.2.2.2.2.2.2.2.2.2.2.2.2.2 : PySem.W.kitOne K (.ref X17) (.ref X9) = some false)
      | 10, _ => (kit_refs xc10.1 xc10.2.2.2.2.2.2.2.1 xs17.2.2.2.2.2.2.2.2.2.2.1 xs17.2.2.2.2.2.2.2.2.2.2.2.2.2.2.2.2.2 : PySem.W.kitOne K (.ref X17) (.ref X10) = some false)
      | 11, _ => (kit_refs xc11.1 xc11.2.2.2.2.2.2.2.1 xs17.2.2.2.2.2.2.2.2.2.2.2.1 xs17.2.2.2.2.2.2.2.2.2.2.2.2.2.2.2.2.2 : PySem.W.kitOne K (.ref X17) (.ref X11) = some false)
      | 12, _ => (kit_refs xc12.1 xc12.2.2.2.2.2.2.2.1 xs17.2.2.2.2.2.2.2.2.2.2.2.2.1 xs17.2.2.2.2.2.2.2.2.2.2.2.2.2.2.2.2.2 : PySem.W.kitOne K (.ref X17) (.ref X12) = some false)
      | 13, _ => (kit_refs xc13.1 xc13.2.2.2.2.2.2.2.1 xs17.2.2.2.2.2.2.2.2.2.2.2.2.2.1 xs17.2.2.2.2.2.2.2.2.2.2.2.2.2.2.2.2.2 : PySem.W.kitOne K (.ref X17) (.ref X13) = some false)
      | 14, _ => (kit_refs xc14.1 xc14.2.2.2.2.2.2.2.1 xs17.2.2.2.2.2.2.2.2.2.2.2.2.2.2.1 xs17.2.2.2.2.2.2.2.2.2.2.2.2.2.2.2.2.2 : PySem.W.kitOne K (.ref X17) (.ref X14) = some false)
      | 15, _ => (kit_refs xc15.1 xc15.2.2.2.2.2.2.2.1 xs17.2.2.2.2.2.2.2.2.2.2.2.2.2.2.2.1 xs17.2.2.2.2.2.2.2.2.2.2.2.2.2.2.2.2.2 : PySem.W.kitOne K (.ref X17) (.ref X15) = some false)
      | 16, _ => (kit_refs xc16.1 xc16.2.2.2.2.2.2.2.1 xs17.2.2.2.2.2.2.2.2.2.2.2.2.2.2.2.2.1 xs17.2.2.2.2.2.2.2.2.2.2.2.2.2.2.2.2.2 : PySem.W.kitOne K (.ref X17) (.ref X16) = some false)
      | 17, _ => (kit_refs xc17.1 xc17.2.2.2.2.2.2.2.1 xs17.2.2.2.2.2.2.2.2.2.2.2.2.2.2.2.2.2 xs17.2.2.2.2.2.2.2.2.2.2.2.2.2.2.2.2.2 : PySem.W.kitOne K (.ref X17) (.ref X17) = some true)
      | n + 18, h => absurd h (by omega)
    | n + 18, h => absurd h (by omega),
    fun i hi => match i, hi with
    | 0, _ => (kit_type (by decide +kernel) xc0.2.2.2.2.2.2.2.2.2 : PySem.W.kitOne K (.ref X0) (.type "ValueError") = some true)
    | 1, _ => (kit_type (by decide +kernel) xc1.2.2.2.2.2.2.2.2.2 : PySem.W.kitOne K (.ref X1) (.type "ValueError") = some true)
    | 2, _ => (kit_type (by decide +kernel) xc2.2.2.2.2.2.2.2.2.2 : PySem.W.kitOne K (.ref X2) (.type "ValueError") = some true)
    | 3, _ => (kit_type (by decide +kernel) xc3.2.2.2.2.2.2.2.2.2 : PySem.W.kitOne K (.ref X3) (.type "ValueError") = some true)
    | 4, _ => (kit_type (by decide +kernel) xc4.2.2.2.2.2.2.2.2.2 : PySem.W.kitOne K (.ref X4) (.type "ValueError") = some true)
    | 5, _ => (kit_type (by decide +kernel) xc5.2.2.2.2.2.2.2.2.2 : PySem.W.kitOne K (.ref X5) (.type "ValueError") = some true)
    | 6, _ => (kit_type (by decide +kernel) xc6.2.2.2.2.2.2.2.2.2 : PySem.W.kitOne K (.ref X6) (.type "ValueError") = some true)
    | 7, _ => (kit_type (by decide +kernel) xc7.2.2.2.2.2.2.2.2.2 : PySem.W.kitOne K (.ref X7) (.type "ValueError") = some true)
    | 8, _ => (kit_type (by decide +kernel) xc8.2.2.2.2.2.2.2.2.2 : PySem.W.kitOne K (.ref X8) (.type "ValueError") = some true)
    | 9, _ => (kit_type (by decide +kernel) xc9.2.2.2.2.2.2.2.2.2 : PySem.W.kitOne K (.ref X9) (.type "ValueError") = some true)
    | 10, _ => (kit_type (by decide +kernel) xc10.2.2.2.2.2.2.2.2.2 : PySem.W.kitOne K (.ref X10) (.type "ValueError") = some true)
    | 11, _ => (kit_type (by decide +kernel) xc11.2.2.2.2.2.2.2.2.2 : PySem.W.kitOne K (.ref X11) (.type "ValueError") = some true)
    | 12, _ => (kit_type (by decide +kernel) xc12.2.2.2.2.2.2.2.2.2 : PySem.W.kitOne K (.ref X12) (.type "ValueError") = some true)
    | 13, _ => (kit_type (by decide +kernel) xc13.2.2.2.2.2.2.2.2.2 : PySem.W.kitOne K (.ref X13) (.type "ValueError") = some true)
    | 14, _ => (kit_type (by decide +kernel) xc14.2.2.2.2.2.2.2.2.2 : PySem.W.kitOne K (.ref X14) (.type "ValueError") = some true)
    | 15, _ => (kit_type (by decide +kernel) xc15.2.2.2.2.2.2.2.2.2 : PySem.W.kitOne K (.ref X15) (.type "ValueError") = some true)
    | 16, _ => (kit_type (by decide +kernel) xc16.2.2.2.2.2.2.2.2.2 : PySem.W.kitOne K (.ref X16) (.type "ValueError") = some true)
    | 17, _ => (kit_type (by decide +kernel) xc17.2.2.2.2.2.2.2.2.2 : PySem.W.kitOne K (.ref X17) (.type "ValueError") = some true)
    | n + 18, h => absurd h (by omega),
    fun i hi => match i, hi with
    | 0, _ => (xno0 : PySem.W.findIn K (.ref X0) "item" = some none)
    | 1, _ => (xno1 : PySem.W.findIn K (.ref X1) "item" = some none)
    | 2, _ => (xno2 : PySem.W.findIn K (.ref X2) "part" = some none)
    | 3, _ => (xno3 : PySem.W.findIn K (.ref X3) "total" = some none)
    | n + 4, h => absurd h (by omega)⟩
  have xg0 : mg "InvalidSpans" = some (.ref (AD 0)) := PySem.W.mg_of X G xa0
  have xg1 : mg "InvalidSeen" = some (.ref (AD 1)) := PySem.W.mg_of X G xa1
  have xg2 : mg "InvalidText" = some (.ref (AD 2)) := PySem.W.mg_of X G xa2
  have xg3 : mg "OverBudget" = some (.ref (AD 3)) := PySem.W.mg_of X G xa3
  have xg4 : mg "InvalidCapacity" = some (.ref (AD 4)) := PySem.W.mg_of X G xa4
  have xg5 : mg "InvalidRate" = some (.ref (AD 5)) := PySem.W.mg_of X G xa5
  have xg6 : mg "InvalidShift" = some (.ref (AD 6)) := PySem.W.mg_of X G xa6
  have xg7 : mg "InvalidTable" = some (.ref (AD 7)) := PySem.W.mg_of X G xa7
  have xg8 : mg "InvalidKey" = some (.ref (AD 8)) := PySem.W.mg_of X G xa8
  have xg9 : mg "InvalidDepth" = some (.ref (AD 9)) := PySem.W.mg_of X G xa9
  have xg10 : mg "InvalidTail" = some (.ref (AD 10)) := PySem.W.mg_of X G xa10
  have xg11 : mg "InvalidSpan" = some (.ref (AD 11)) := PySem.W.mg_of X G xa11
  have xg12 : mg "InvalidNumber" = some (.ref (AD 12)) := PySem.W.mg_of X G xa12
  have xg13 : mg "InvalidBudget" = some (.ref (AD 13)) := PySem.W.mg_of X G xa13
  have xg14 : mg "InvalidOperation" = some (.ref (AD 14)) := PySem.W.mg_of X G xa14
  have xg15 : mg "Nothing" = some (.ref (AD 15)) := PySem.W.mg_of X G xa15
  have xg16 : mg "InvalidCommand" = some (.ref (AD 16)) := PySem.W.mg_of X G xa16
  have xg17 : mg "HashError" = some (.ref (AD 17)) := PySem.W.mg_of X G xa17
  have xn4 : PySem.W.excIn K (AD 4) [.type "ValueError", .type "Exception", .type "BaseException", .type "object"] "ValueError.__new__" = true ∧ PySem.W.keepIn K (.ref (AD 4)) = true := ⟨xe4, xc4.2.2.2.2.2.2.2.2.1⟩
  have xn5 : PySem.W.excIn K (AD 5) [.type "ValueError", .type "Exception", .type "BaseException", .type "object"] "ValueError.__new__" = true ∧ PySem.W.keepIn K (.ref (AD 5)) = true := ⟨xe5, xc5.2.2.2.2.2.2.2.2.1⟩
  have xn6 : PySem.W.excIn K (AD 6) [.type "ValueError", .type "Exception", .type "BaseException", .type "object"] "ValueError.__new__" = true ∧ PySem.W.keepIn K (.ref (AD 6)) = true := ⟨xe6, xc6.2.2.2.2.2.2.2.2.1⟩
  have xn7 : PySem.W.excIn K (AD 7) [.type "ValueError", .type "Exception", .type "BaseException", .type "object"] "ValueError.__new__" = true ∧ PySem.W.keepIn K (.ref (AD 7)) = true := ⟨xe7, xc7.2.2.2.2.2.2.2.2.1⟩
  have xn8 : PySem.W.excIn K (AD 8) [.type "ValueError", .type "Exception", .type "BaseException", .type "object"] "ValueError.__new__" = true ∧ PySem.W.keepIn K (.ref (AD 8)) = true := ⟨xe8, xc8.2.2.2.2.2.2.2.2.1⟩
  have xn9 : PySem.W.excIn K (AD 9) [.type "ValueError", .type "Exception", .type "BaseException", .type "object"] "ValueError.__new__" = true ∧ PySem.W.keepIn K (.ref (AD 9)) = true := ⟨xe9, xc9.2.2.2.2.2.2.2.2.1⟩
  have xn10 : PySem.W.excIn K (AD 10) [.type "ValueError", .type "Exception", .type "BaseException", .type "object"] "ValueError.__new__" = true ∧ PySem.W.keepIn K (.ref (AD 10)) = true := ⟨xe10, xc10.2.2.2.2.2.2.2.2.1⟩
  have xn11 : PySem.W.excIn K (AD 11) [.type "ValueError", .type "Exception", .type "BaseException", .type "object"] "ValueError.__new__" = true ∧ PySem.W.keepIn K (.ref (AD 11)) = true := ⟨xe11, xc11.2.2.2.2.2.2.2.2.1⟩
  have xn12 : PySem.W.excIn K (AD 12) [.type "ValueError", .type "Exception", .type "BaseException", .type "object"] "ValueError.__new__" = true ∧ PySem.W.keepIn K (.ref (AD 12)) = true := ⟨xe12, xc12.2.2.2.2.2.2.2.2.1⟩
  have xn13 : PySem.W.excIn K (AD 13) [.type "ValueError", .type "Exception", .type "BaseException", .type "object"] "ValueError.__new__" = true ∧ PySem.W.keepIn K (.ref (AD 13)) = true := ⟨xe13, xc13.2.2.2.2.2.2.2.2.1⟩
  have xn14 : PySem.W.excIn K (AD 14) [.type "ValueError", .type "Exception", .type "BaseException", .type "object"] "ValueError.__new__" = true ∧ PySem.W.keepIn K (.ref (AD 14)) = true := ⟨xe14, xc14.2.2.2.2.2.2.2.2.1⟩
  have xn15 : PySem.W.excIn K (AD 15) [.type "ValueError", .type "Exception", .type "BaseException", .type "object"] "ValueError.__new__" = true ∧ PySem.W.keepIn K (.ref (AD 15)) = true := ⟨xe15, xc15.2.2.2.2.2.2.2.2.1⟩
  have xn16 : PySem.W.excIn K (AD 16) [.type "ValueError", .type "Exception", .type "BaseException", .type "object"] "ValueError.__new__" = true ∧ PySem.W.keepIn K (.ref (AD 16)) = true := ⟨xe16, xc16.2.2.2.2.2.2.2.2.1⟩
  have xn17 : PySem.W.excIn K (AD 17) [.type "ValueError", .type "Exception", .type "BaseException", .type "object"] "ValueError.__new__" = true ∧ PySem.W.keepIn K (.ref (AD 17)) = true := ⟨xe17, xc17.2.2.2.2.2.2.2.2.1⟩
  have XO0 : OexC K X0 := ⟨⟨_, _, _, _, _, _, _, _, _, _, _, _, _, _, _, xls0, xrv0⟩, xsa0, xc0.2.2.2.1, xc0.2.2.2.2.2.2.2.1, xc0.2.2.2.2.2.2.2.2.1⟩
  have XB0 := (fun_mk (st := s_x0) xlk0 xcd_0 xik0).binds (ps := ["self", "item"]) fun _ _ _ _ _ _ us hl => match us, hl with | [_, _], _ => rfl
  have XF0 : ∀ base : Heap, FnOk l.prog w K mg base CX0 1 fX0 _ ["self", "item"] (spXi X0 "item") := fun base => fn_xi (CX := CX0) (k := 0) xlk0 xcd_0 sc_x0 rfl rfl XO0 xno0
  have XO1 : OexC K X1 := ⟨⟨_, _, _, _, _, _, _, _, _, _, _, _, _, _, _, xls1, xrv1⟩, xsa1, xc1.2.2.2.1, xc1.2.2.2.2.2.2.2.1, xc1.2.2.2.2.2.2.2.2.1⟩
  have XB1 := (fun_mk (st := s_x1) xlk1 xcd_1 xik1).binds (ps := ["self", "item"]) fun _ _ _ _ _ _ us hl => match us, hl with | [_, _], _ => rfl
  have XF1 : ∀ base : Heap, FnOk l.prog w K mg base CX0 1 fX1 _ ["self", "item"] (spXi X1 "item") := fun base => fn_xi (CX := CX0) (k := 0) xlk1 xcd_1 sc_x1 rfl rfl XO1 xno1
  have XO2 : OexC K X2 := ⟨⟨_, _, _, _, _, _, _, _, _, _, _, _, _, _, _, xls2, xrv2⟩, xsa2, xc2.2.2.2.1, xc2.2.2.2.2.2.2.2.1, xc2.2.2.2.2.2.2.2.2.1⟩
  have XB2 := (fun_mk (st := s_x2) xlk2 xcd_2 xik2).binds (ps := ["self", "part"]) fun _ _ _ _ _ _ us hl => match us, hl with | [_, _], _ => rfl
  have XF2 : ∀ base : Heap, FnOk l.prog w K mg base CX0 1 fX2 _ ["self", "part"] (spXi X2 "part") := fun base => fn_xi (CX := CX0) (k := 0) xlk2 xcd_2 sc_x2 rfl rfl XO2 xno2
  have XO3 : OexC K X3 := ⟨⟨_, _, _, _, _, _, _, _, _, _, _, _, _, _, _, xls3, xrv3⟩, xsa3, xc3.2.2.2.1, xc3.2.2.2.2.2.2.2.1, xc3.2.2.2.2.2.2.2.2.1⟩
  have XB3 := (fun_mk (st := s_x3) xlk3 xcd_3 xik3).binds (ps := ["self", "total"]) fun _ _ _ _ _ _ us hl => match us, hl with | [_, _], _ => rfl
  have XF3 : ∀ base : Heap, FnOk l.prog w K mg base CX0 1 fX3 _ ["self", "total"] (spXi X3 "total") := fun base => fn_xi (CX := CX0) (k := 0) xlk3 xcd_3 sc_x3 rfl rfl XO3 xno3
  have TY : TbTy K C := ⟨fun t F H v e h => ty_ins TT.cl TT.xa TT.xb TT.xc TT.xd F H v e h, fun n hn => match n, hn with
    | 0, _ => kit_type (by decide +kernel) ts0
    | 1, _ => kit_type (by decide +kernel) ts1
    | 2, _ => kit_type (by decide +kernel) ts2
    | 3, _ => kit_type (by decide +kernel) ts3
    | 4, _ => kit_type (by decide +kernel) ts4
    | 5, _ => kit_type (by decide +kernel) ts5
    | 6, _ => kit_type (by decide +kernel) ts6
    | n + 7, h => absurd h (by omega), NO, TT.isT⟩
  have XM : ∀ i, i < 18 → PySem.W.exmOne K (.ref (AD i)) (.ref (AD 17)) = some true := fun i hi => match i, hi with
    | 0, _ => (exm_of xc17.2.2.2.1 xc17.1 xc17.2.2.2.2.2.2.2.1 xs0.2.2.2.2.2.2.2.2.2.2.2.2.2.2.2.2.2 : PySem.W.exmOne K (.ref X0) (.ref X17) = some true)
    | 1, _ => (exm_of xc17.2.2.2.1 xc17.1 xc17.2.2.2.2.2.2.2.1 xs1.2.2.2.2.2.2.2.2.2.2.2.2.2.2.2.2.2 : PySem.W.exmOne K (.ref X1) (.ref X17) = some true)
    | 2, _ => (exm_of xc17.2.2.2.1 xc17.1 xc17.2.2.2.2.2.2.2.1 xs2.2.2.2.2.2.2.2.2.2.2.2.2.2.2.2.2.2 : PySem.W.exmOne K (.ref X2) (.ref X17) = some true)
    | 3, _ => (exm_of xc17.2.2.2.1 xc17.1 xc17.2.2.2.2.2.2.2.1 xs3.2.2.2.2.2.2.2.2.2.2.2.2.2.2.2.2.2 : PySem.W.exmOne K (.ref X3) (.ref X17) = some true)
    | 4, _ => (exm_of xc17.2.2.2.1 xc17.1 xc17.2.2.2.2.2.2.2.1 xs4.2.2.2.2.2.2.2.2.2.2.2.2.2.2.2.2.2 : PySem.W.exmOne K (.ref X4) (.ref X17) = some true)
    | 5, _ => (exm_of xc17.2.2.2.1 xc17.1 xc17.2.2.2.2.2.2.2.1 xs5.2.2.2.2.2.2.2.2.2.2.2.2.2.2.2.2.2 : PySem.W.exmOne K (.ref X5) (.ref X17) = some true)
    | 6, _ => (exm_of xc17.2.2.2.1 xc17.1 xc17.2.2.2.2.2.2.2.1 xs6.2.2.2.2.2.2.2.2.2.2.2.2.2.2.2.2.2 : PySem.W.exmOne K (.ref X6) (.ref X17) = some true)
    | 7, _ => (exm_of xc17.2.2.2.1 xc17.1 xc17.2.2.2.2.2.2.2.1 xs7.2.2.2.2.2.2.2.2.2.2.2.2.2.2.2.2.2 : PySem.W.exmOne K (.ref X7) (.ref X17) = some true)
    | 8, _ => (exm_of xc17.2.2.2.1 xc17.1 xc17.2.2.2.2.2.2.2.1 xs8.2.2.2.2.2.2.2.2.2.2.2.2.2.2.2.2.2 : PySem.W.exmOne K (.ref X8) (.ref X17) = some true)
    | 9, _ => (exm_of xc17.2.2.2.1 xc17.1 xc17.2.2.2.2.2.2.2.1 xs9.2.2.2.2.2.2.2.2.2.2.2.2.2.2.2.2.2 : PySem.W.exmOne K (.ref X9) (.ref X17) = some true)
    | 10, _ => (exm_of xc17.2.2.2.1 xc17.1 xc17.2.2.2.2.2.2.2.1 xs10.2.2.2.2.2.2.2.2.2.2.2.2.2.2.2.2.2 : PySem.W.exmOne K (.ref X10) (.ref X17) = some true)
    | 11, _ => (exm_of xc17.2.2.2.1 xc17.1 xc17.2.2.2.2.2.2.2.1 xs11.2.2.2.2.2.2.2.2.2.2.2.2.2.2.2.2.2 : PySem.W.exmOne K (.ref X11) (.ref X17) = some true)
    | 12, _ => (exm_of xc17.2.2.2.1 xc17.1 xc17.2.2.2.2.2.2.2.1 xs12.2.2.2.2.2.2.2.2.2.2.2.2.2.2.2.2.2 : PySem.W.exmOne K (.ref X12) (.ref X17) = some true)
    | 13, _ => (exm_of xc17.2.2.2.1 xc17.1 xc17.2.2.2.2.2.2.2.1 xs13.2.2.2.2.2.2.2.2.2.2.2.2.2.2.2.2.2 : PySem.W.exmOne K (.ref X13) (.ref X17) = some true)
    | 14, _ => (exm_of xc17.2.2.2.1 xc17.1 xc17.2.2.2.2.2.2.2.1 xs14.2.2.2.2.2.2.2.2.2.2.2.2.2.2.2.2.2 : PySem.W.exmOne K (.ref X14) (.ref X17) = some true)
    | 15, _ => (exm_of xc17.2.2.2.1 xc17.1 xc17.2.2.2.2.2.2.2.1 xs15.2.2.2.2.2.2.2.2.2.2.2.2.2.2.2.2.2 : PySem.W.exmOne K (.ref X15) (.ref X17) = some true)
    | 16, _ => (exm_of xc17.2.2.2.1 xc17.1 xc17.2.2.2.2.2.2.2.1 xs16.2.2.2.2.2.2.2.2.2.2.2.2.2.2.2.2.2 : PySem.W.exmOne K (.ref X16) (.ref X17) = some true)
    | 17, _ => (exm_of xc17.2.2.2.1 xc17.1 xc17.2.2.2.2.2.2.2.1 xs17.2.2.2.2.2.2.2.2.2.2.2.2.2.2.2.2.2 : PySem.W.exmOne K (.ref X17) (.ref X17) = some true)
    | n + 18, h => absurd h (by omega)
  have xb4 : PySem.W.subIn K (.ref (AD 4)) (.type "BaseException") = some true ∧ PySem.W.typeIn K (.ref (AD 4)) = some (.type "type") := ⟨xc4.2.2.2.1, xc4.2.2.2.2.2.2.2.1⟩
  have xb5 : PySem.W.subIn K (.ref (AD 5)) (.type "BaseException") = some true ∧ PySem.W.typeIn K (.ref (AD 5)) = some (.type "type") := ⟨xc5.2.2.2.1, xc5.2.2.2.2.2.2.2.1⟩
  have xb6 : PySem.W.subIn K (.ref (AD 6)) (.type "BaseException") = some true ∧ PySem.W.typeIn K (.ref (AD 6)) = some (.type "type") := ⟨xc6.2.2.2.1, xc6.2.2.2.2.2.2.2.1⟩
  have xb7 : PySem.W.subIn K (.ref (AD 7)) (.type "BaseException") = some true ∧ PySem.W.typeIn K (.ref (AD 7)) = some (.type "type") := ⟨xc7.2.2.2.1, xc7.2.2.2.2.2.2.2.1⟩
  have xb8 : PySem.W.subIn K (.ref (AD 8)) (.type "BaseException") = some true ∧ PySem.W.typeIn K (.ref (AD 8)) = some (.type "type") := ⟨xc8.2.2.2.1, xc8.2.2.2.2.2.2.2.1⟩
  have xb9 : PySem.W.subIn K (.ref (AD 9)) (.type "BaseException") = some true ∧ PySem.W.typeIn K (.ref (AD 9)) = some (.type "type") := ⟨xc9.2.2.2.1, xc9.2.2.2.2.2.2.2.1⟩
  have xb10 : PySem.W.subIn K (.ref (AD 10)) (.type "BaseException") = some true ∧ PySem.W.typeIn K (.ref (AD 10)) = some (.type "type") := ⟨xc10.2.2.2.1, xc10.2.2.2.2.2.2.2.1⟩
  have xb12 : PySem.W.subIn K (.ref (AD 12)) (.type "BaseException") = some true ∧ PySem.W.typeIn K (.ref (AD 12)) = some (.type "type") := ⟨xc12.2.2.2.1, xc12.2.2.2.2.2.2.2.1⟩
  have n_ValueError := PySem.W.mg_none_of X G zn_ValueError
  have n_bool := PySem.W.mg_none_of X G zn_bool
  have n_enumerate := PySem.W.mg_none_of X G zn_enumerate
  have n_int := PySem.W.mg_none_of X G zn_int
  have n_isinstance := PySem.W.mg_none_of X G zn_isinstance
  have n_len := PySem.W.mg_none_of X G zn_len
  have n_list := PySem.W.mg_none_of X G zn_list
  have n_max := PySem.W.mg_none_of X G zn_max
  have n_range := PySem.W.mg_none_of X G zn_range
  have n_repr := PySem.W.mg_none_of X G zn_repr
  have n_sum := PySem.W.mg_none_of X G zn_sum
  have n_tuple := PySem.W.mg_none_of X G zn_tuple
  have c_MOST_DEPTH : ∃ t, mg "MOST_DEPTH" = some (.int 100 t) := zc_MOST_DEPTH.imp fun _ z => PySem.W.mg_of X G z
  have c_MOST_KEY : ∃ t, mg "MOST_KEY" = some (.int 1000000000000000000000000000000 t) := zc_MOST_KEY.imp fun _ z => PySem.W.mg_of X G z
  have c_MOST_SPANS : ∃ t, mg "MOST_SPANS" = some (.int 12 t) := zc_MOST_SPANS.imp fun _ z => PySem.W.mg_of X G z
  have F_is_int := fun_mk (st := s_is_int) lk_is_int cd_is_int kp_is_int
  have j_is_int := PySem.W.mg_of X G at_is_int
  have b_is_int := F_is_int.binds (ps := ["value"]) fun _ _ _ _ _ _ us hl => match us, hl with | [_], _ => rfl
  have F_is_int__2 := fun_mk (st := s_is_int__2) lk_is_int__2 cd_is_int__2 kp_is_int__2
  have j_is_int__2 := PySem.W.mg_of X G at_is_int__2
  have b_is_int__2 := F_is_int__2.binds (ps := ["value"]) fun _ _ _ _ _ _ us hl => match us, hl with | [_], _ => rfl
  have F_is_whole := fun_mk (st := s_is_whole) lk_is_whole cd_is_whole kp_is_whole
  have j_is_whole := PySem.W.mg_of X G at_is_whole
  have b_is_whole := F_is_whole.binds (ps := ["value", "low", "high"]) fun _ _ _ _ _ _ us hl => match us, hl with | [_, _, _], _ => rfl
  have F_is_whole__2 := fun_mk (st := s_is_whole__2) lk_is_whole__2 cd_is_whole__2 kp_is_whole__2
  have j_is_whole__2 := PySem.W.mg_of X G at_is_whole__2
  have b_is_whole__2 := F_is_whole__2.binds (ps := ["value", "low", "high"]) fun _ _ _ _ _ _ us hl => match us, hl with | [_, _, _], _ => rfl
  have F_is_span__2 := fun_mk (st := s_is_span__2) lk_is_span__2 cd_is_span__2 kp_is_span__2
  have j_is_span__2 := PySem.W.mg_of X G at_is_span__2
  have b_is_span__2 := F_is_span__2.binds (ps := ["value", "ahead"]) fun _ _ _ _ _ _ us hl => match us, hl with | [_, _], _ => rfl
  have F_require_spans := fun_mk (st := s_require_spans) lk_require_spans cd_require_spans kp_require_spans
  have j_require_spans := PySem.W.mg_of X G at_require_spans
  have b_require_spans := F_require_spans.binds (ps := ["spans"]) fun _ _ _ _ _ _ us hl => match us, hl with | [_], _ => rfl
  have F_require_key := fun_mk (st := s_require_key) lk_require_key cd_require_key kp_require_key
  have j_require_key := PySem.W.mg_of X G at_require_key
  have b_require_key := F_require_key.binds (ps := ["value"]) fun _ _ _ _ _ _ us hl => match us, hl with | [_], _ => rfl
  have F_require_depth := fun_mk (st := s_require_depth) lk_require_depth cd_require_depth kp_require_depth
  have j_require_depth := PySem.W.mg_of X G at_require_depth
  have b_require_depth := F_require_depth.binds (ps := ["value"]) fun _ _ _ _ _ _ us hl => match us, hl with | [_], _ => rfl
  have F_require_tail := fun_mk (st := s_require_tail) lk_require_tail cd_require_tail kp_require_tail
  have j_require_tail := PySem.W.mg_of X G at_require_tail
  have b_require_tail := F_require_tail.binds (ps := ["depth", "value"]) fun _ _ _ _ _ _ us hl => match us, hl with | [_, _], _ => rfl
  have F_require_number := fun_mk (st := s_require_number) lk_require_number cd_require_number kp_require_number
  have j_require_number := PySem.W.mg_of X G at_require_number
  have b_require_number := F_require_number.binds (ps := ["value"]) fun _ _ _ _ _ _ us hl => match us, hl with | [_], _ => rfl
  have F_Table___init__ := fun_mk (st := s_Table___init__) lk_Table___init__ cd_Table___init__ kp_Table___init__
  have MT : Mk K C a_Table___init__ := ⟨mk, at_Table___init__, fn_Table___init__, kc⟩
  have b_Table___init__ := F_Table___init__.binds (ps := ["self", "capacity", "rate", "shift"]) fun _ _ _ _ _ _ us hl => match us, hl with | [_, _, _, _], _ => rfl
  have F_Table___init__4 := fun_mk (st := s_Table___init__4) lk_Table___init__4 cd_Table___init__4 kp_Table___init__4
  have MT4 : Mk K C a_Table___init__4 := ⟨mk, at_Table___init__4, fn_Table___init__4, kc⟩
  have b_Table___init__4 := F_Table___init__4.binds (ps := ["self", "capacity", "rate", "shift"]) fun _ _ _ _ _ _ us hl => match us, hl with | [_, _, _, _], _ => rfl
  have F_Table_value := fun_mk (st := s_Table_value) lk_Table_value cd_Table_value kp_Table_value
  have M_Table_value : Meth K C "value" a_Table_value := ⟨at_Table_value, fn_Table_value, kp_Table_value⟩
  have b_Table_value := F_Table_value.binds (ps := ["self", "key"]) fun _ _ _ _ _ _ us hl => match us, hl with | [_, _], _ => rfl
  have F_tail_of := fun_mk (st := s_tail_of) lk_tail_of cd_tail_of kp_tail_of
  have j_tail_of := PySem.W.mg_of X G at_tail_of
  have b_tail_of := F_tail_of.binds (ps := ["table", "key", "depth"]) fun _ _ _ _ _ _ us hl => match us, hl with | [_, _, _], _ => rfl
  have F_Table_tail := fun_mk (st := s_Table_tail) lk_Table_tail cd_Table_tail kp_Table_tail
  have M_Table_tail : Meth K C "tail" a_Table_tail := ⟨at_Table_tail, fn_Table_tail, kp_Table_tail⟩
  have b_Table_tail := F_Table_tail.binds (ps := ["self", "key", "depth"]) fun _ _ _ _ _ _ us hl => match us, hl with | [_, _, _], _ => rfl
  have F_require_table := fun_mk (st := s_require_table) lk_require_table cd_require_table kp_require_table
  have j_require_table := PySem.W.mg_of X G at_require_table
  have b_require_table := F_require_table.binds (ps := ["value"]) fun _ _ _ _ _ _ us hl => match us, hl with | [_], _ => rfl
  have F_residue_of := fun_mk (st := s_residue_of) lk_residue_of cd_residue_of kp_residue_of
  have j_residue_of := PySem.W.mg_of X G at_residue_of
  have b_residue_of := F_residue_of.binds (ps := ["table", "depth", "tail"]) fun _ _ _ _ _ _ us hl => match us, hl with | [_, _, _], _ => rfl
  have F_residue_count := fun_mk (st := s_residue_count) lk_residue_count cd_residue_count kp_residue_count
  have j_residue_count := PySem.W.mg_of X G at_residue_count
  have b_residue_count := F_residue_count.binds (ps := ["spans", "depth", "residue"]) fun _ _ _ _ _ _ us hl => match us, hl with | [_, _, _], _ => rfl
  have F_require_place := fun_mk (st := s_require_place) lk_require_place cd_require_place kp_require_place
  have j_require_place := PySem.W.mg_of X G at_require_place
  have b_require_place := F_require_place.binds (ps := ["table", "spans", "depth", "tail"]) fun _ _ _ _ _ _ us hl => match us, hl with | [_, _, _, _], _ => rfl
  have F_key_count := fun_mk (st := s_key_count) lk_key_count cd_key_count kp_key_count
  have j_key_count := PySem.W.mg_of X G at_key_count
  have b_key_count := F_key_count.binds (ps := ["spans"]) fun _ _ _ _ _ _ us hl => match us, hl with | [_], _ => rfl
  have F_tail_count := fun_mk (st := s_tail_count) lk_tail_count cd_tail_count kp_tail_count
  have j_tail_count := PySem.W.mg_of X G at_tail_count
  have b_tail_count := F_tail_count.binds (ps := ["table", "spans", "depth", "tail"]) fun _ _ _ _ _ _ us hl => match us, hl with | [_, _, _, _], _ => rfl
  have F_nth_key := fun_mk (st := s_nth_key) lk_nth_key cd_nth_key kp_nth_key
  have j_nth_key := PySem.W.mg_of X G at_nth_key
  have b_nth_key := F_nth_key.binds (ps := ["table", "spans", "depth", "tail", "number"]) fun _ _ _ _ _ _ us hl => match us, hl with | [_, _, _, _, _], _ => rfl
  have F_bag := fun_mk (st := s_bag) lk_bag cd_bag kp_bag
  have j_bag := PySem.W.mg_of X G at_bag
  have b_bag := F_bag.binds (ps := ["_law_cell"]) fun _ _ _ _ _ _ us hl => match us, hl with | [_], _ => rfl
  have F_pick := fun_mk (st := s_pick) lk_pick cd_pick kp_pick
  have j_pick := PySem.W.mg_of X G at_pick
  have b_pick := F_pick.binds (ps := ["_law_bag_here", "_law_many"]) fun _ _ _ _ _ _ us hl => match us, hl with | [_, _], _ => rfl
  have F_three := fun_mk (st := s_three) lk_three cd_three kp_three
  have j_three := PySem.W.mg_of X G at_three
  have b_three := F_three.binds (ps := ["_law_bag_here", "_law_most"]) fun _ _ _ _ _ _ us hl => match us, hl with | [_, _], _ => rfl
  have F_spans := fun_mk (st := s_spans) lk_spans cd_spans kp_spans
  have j_spans := PySem.W.mg_of X G at_spans
  have b_spans := F_spans.binds (ps := ["_law_bag_here", "_law_many", "_law_wide"]) fun _ _ _ _ _ _ us hl => match us, hl with | [_, _, _], _ => rfl
  have F_class := fun_mk (st := s_class) lk_class cd_class kp_class
  have j_class := PySem.W.mg_of X G at_class
  have b_class := F_class.binds (ps := ["_law_caught"]) fun _ _ _ _ _ _ us hl => match us, hl with | [_], _ => rfl
  have F_bad_tables := fun_mk (st := s_bad_tables) lk_bad_tables cd_bad_tables kp_bad_tables
  have j_bad_tables := PySem.W.mg_of X G at_bad_tables
  have b_bad_tables := F_bad_tables.binds (ps := []) fun _ _ _ _ _ _ us hl => match us, hl with | [], _ => rfl
  have F_bad_spans := fun_mk (st := s_bad_spans) lk_bad_spans cd_bad_spans kp_bad_spans
  have j_bad_spans := PySem.W.mg_of X G at_bad_spans
  have b_bad_spans := F_bad_spans.binds (ps := ["_law_bag_here", "_law_spans_here"]) fun _ _ _ _ _ _ us hl => match us, hl with | [_, _], _ => rfl
  have F_bad_integers := fun_mk (st := s_bad_integers) lk_bad_integers cd_bad_integers kp_bad_integers
  have j_bad_integers := PySem.W.mg_of X G at_bad_integers
  have b_bad_integers := F_bad_integers.binds (ps := ["_law_low", "_law_high"]) fun _ _ _ _ _ _ us hl => match us, hl with | [_, _], _ => rfl
  have F_called := fun_mk (st := s_called) lk_called cd_called kp_called
  have j_called := PySem.W.mg_of X G at_called
  have b_called := F_called.binds (ps := ["_law_way", "_law_some"]) fun _ _ _ _ _ _ us hl => match us, hl with | [_, _], _ => rfl
  have F_called__2 := fun_mk (st := s_called__2) lk_called__2 cd_called__2 kp_called__2
  have j_called__2 := PySem.W.mg_of X G at_called__2
  have b_called__2 := F_called__2.binds (ps := ["_law_way", "_law_some"]) fun _ _ _ _ _ _ us hl => match us, hl with | [_, _], _ => rfl
  have F_told := fun_mk (st := s_told) lk_told cd_told kp_told
  have j_told := PySem.W.mg_of X G at_told
  have b_told := F_told.binds (ps := ["_law_way", "_law_some"]) fun _ _ _ _ _ _ us hl => match us, hl with | [_, _], _ => rfl
  have F_told__2 := fun_mk (st := s_told__2) lk_told__2 cd_told__2 kp_told__2
  have j_told__2 := PySem.W.mg_of X G at_told__2
  have b_told__2 := F_told__2.binds (ps := ["_law_way", "_law_some"]) fun _ _ _ _ _ _ us hl => match us, hl with | [_, _], _ => rfl
  have F_made_right := fun_mk (st := s_made_right) lk_made_right cd_made_right kp_made_right
  have j_made_right := PySem.W.mg_of X G at_made_right
  have b_made_right := F_made_right.binds (ps := ["_law_bag_here"]) fun _ _ _ _ _ _ us hl => match us, hl with | [_], _ => rfl
  have F_right := fun_mk (st := s_right) lk_right cd_right kp_right
  have j_right := PySem.W.mg_of X G at_right
  have b_right := F_right.binds (ps := ["_law_bag_here"]) fun _ _ _ _ _ _ us hl => match us, hl with | [_], _ => rfl
  have F_law := fun_mk (st := s_law) lk_law cd_law kp_law
  have j_law := PySem.W.mg_of X G at_law
  have b_law := F_law.binds (ps := ["_law_script"]) fun _ _ _ _ _ _ us hl => match us, hl with | [_], _ => rfl
  refine ⟨PySem.W.fnOf "law" "law" (defArgs s_law) (defBody s_law) (defScope s_law) .none kV36 dc36 pm36 an36 cd36 ct36, fun s v => .of_eq rfl, fun base _ _ SM => ?_⟩
  have XD0 : XDs l.prog w K mg base AD 0 fX0 _ "item" := ⟨XO0, xic0, xit0, XF0 base, XB0⟩
  have XD1 : XDs l.prog w K mg base AD 1 fX1 _ "item" := ⟨XO1, xic1, xit1, XF1 base, XB1⟩
  have XD2 : XDs l.prog w K mg base AD 2 fX2 _ "part" := ⟨XO2, xic2, xit2, XF2 base, XB2⟩
  have XD3 : XDs l.prog w K mg base AD 3 fX3 _ "total" := ⟨XO3, xic3, xit3, XF3 base, XB3⟩
  have G_is_int : FnG l.prog w K mg base CX0 1 a_is_int _ ["value"] (sp_is_int K AD) := ok_is_int F_is_int n_bool n_int n_isinstance
  have G_is_int__2 : FnG l.prog w K mg base CX0 1 a_is_int__2 _ ["value"] (sp_is_int__2 K AD) := ok_is_int__2 F_is_int__2 n_bool n_int n_isinstance TY
  have G_is_whole : FnG l.prog w K mg base CX0 2 a_is_whole _ ["value", "low", "high"] (sp_is_whole K AD) := ok_is_whole F_is_whole F_is_int G_is_int j_is_int b_is_int
  have G_is_whole__2 : FnG l.prog w K mg base CX0 2 a_is_whole__2 _ ["value", "low", "high"] (sp_is_whole__2 K AD) := ok_is_whole__2 F_is_whole__2 F_is_int__2 G_is_int__2 j_is_int__2 b_is_int__2
  have G_is_span__2 : FnG l.prog w K mg base CX0 3 a_is_span__2 _ ["value", "ahead"] (sp_is_span__2 K AD) := ok_is_span__2 F_is_span__2 F_is_whole__2 G_is_whole__2 j_is_whole__2 b_is_whole__2 n_isinstance n_len n_tuple c_MOST_KEY TY
  have G_require_spans : FnG l.prog w K mg base (L2.CX l.prog w) 4 a_require_spans _ ["spans"] (sp_require_spans K AD) := ok_require_spans F_require_spans F_is_span__2 G_is_span__2 j_is_span__2 b_is_span__2 n_enumerate n_isinstance n_len n_list c_MOST_SPANS TY XD0 xg0
  have G_require_key : FnG l.prog w K mg base (L2.CX l.prog w) 3 a_require_key _ ["value"] (sp_require_key K AD) := ok_require_key F_require_key F_is_whole__2 G_is_whole__2 j_is_whole__2 b_is_whole__2 c_MOST_KEY xb8 xg8 xn8
  have G_require_depth : FnG l.prog w K mg base (L2.CX l.prog w) 3 a_require_depth _ ["value"] (sp_require_depth K AD) := ok_require_depth F_require_depth F_is_whole__2 G_is_whole__2 j_is_whole__2 b_is_whole__2 c_MOST_DEPTH xb9 xg9 xn9
  have G_require_tail : FnG l.prog w K mg base (L2.CX l.prog w) 3 a_require_tail _ ["depth", "value"] (sp_require_tail K AD) := ok_require_tail F_require_tail F_is_whole__2 G_is_whole__2 j_is_whole__2 b_is_whole__2 xb10 xg10 xn10
  have G_require_number : FnG l.prog w K mg base (L2.CX l.prog w) 2 a_require_number _ ["value"] (sp_require_number K AD) := ok_require_number F_require_number F_is_int__2 G_is_int__2 j_is_int__2 b_is_int__2 xb12 xg12 xn12
  have G_Table___init__ : FnG l.prog w K mg base CX0 3 a_Table___init__ _ ["self", "capacity", "rate", "shift"] (sp_Table___init__ K AD) := ok_Table___init__ F_Table___init__ F_is_whole G_is_whole j_is_whole b_is_whole c_MOST_KEY TT
  have G_Table___init__4 : FnG l.prog w K mg base (L2.CX l.prog w) 3 a_Table___init__4 _ ["self", "capacity", "rate", "shift"] (sp_Table___init__4 K AD) := ok_Table___init__4 F_Table___init__4 F_is_whole__2 G_is_whole__2 j_is_whole__2 b_is_whole__2 c_MOST_KEY xb4 xb5 xb6 xg4 xg5 xg6 xn4 xn5 xn6
  have G_Table_value : FnG l.prog w K mg base (L2.CX l.prog w) 4 a_Table_value _ ["self", "key"] (sp_Table_value K AD) := ok_Table_value F_Table_value F_require_key G_require_key j_require_key b_require_key TT
  have G_tail_of : FnG l.prog w K mg base CX0 1 a_tail_of _ ["table", "key", "depth"] (sp_tail_of K AD) := ok_tail_of F_tail_of TT
  have G_Table_tail : FnG l.prog w K mg base (L2.CX l.prog w) 4 a_Table_tail _ ["self", "key", "depth"] (sp_Table_tail K AD) := ok_Table_tail F_Table_tail F_require_key G_require_key j_require_key b_require_key F_require_depth G_require_depth j_require_depth b_require_depth F_tail_of G_tail_of j_tail_of b_tail_of
  have G_require_table : FnG l.prog w K mg base (L2.CX l.prog w) 1 a_require_table _ ["value"] (sp_require_table K AD) := ok_require_table F_require_table n_isinstance TY xb7 xg7 xn7 TT
  have G_residue_of : FnG l.prog w K mg base CX0 1 a_residue_of _ ["table", "depth", "tail"] (sp_residue_of K AD) := ok_residue_of F_residue_of n_range TT
  have G_residue_count : FnG l.prog w K mg base CX0 1 a_residue_count _ ["spans", "depth", "residue"] (sp_residue_count K AD) := ok_residue_count F_residue_count n_sum
  have G_require_place : FnG l.prog w K mg base (L2.CX l.prog w) 5 a_require_place _ ["table", "spans", "depth", "tail"] (sp_require_place K AD) := ok_require_place F_require_place F_require_table G_require_table j_require_table b_require_table F_require_spans G_require_spans j_require_spans b_require_spans F_require_depth G_require_depth j_require_depth b_require_depth F_require_tail G_require_tail j_require_tail b_require_tail
  have G_key_count : FnG l.prog w K mg base (L2.CX l.prog w) 5 a_key_count _ ["spans"] (sp_key_count K AD) := ok_key_count F_key_count F_require_spans G_require_spans j_require_spans b_require_spans n_sum
  have G_tail_count : FnG l.prog w K mg base (L2.CX l.prog w) 6 a_tail_count _ ["table", "spans", "depth", "tail"] (sp_tail_count K AD) := ok_tail_count F_tail_count F_require_place G_require_place j_require_place b_require_place F_residue_count G_residue_count j_residue_count b_residue_count F_residue_of G_residue_of j_residue_of b_residue_of
  have G_nth_key : FnG l.prog w K mg base (L2.CX l.prog w) 6 a_nth_key _ ["table", "spans", "depth", "tail", "number"] (sp_nth_key K AD) := ok_nth_key F_nth_key F_require_place G_require_place j_require_place b_require_place F_require_number G_require_number j_require_number b_require_number F_residue_of G_residue_of j_residue_of b_residue_of F_residue_count G_residue_count j_residue_count b_residue_count
  have G_bag : FnG l.prog w K mg base CX0 1 a_bag _ ["_law_cell"] (sp_bag K AD) := ok_bag F_bag n_max
  have G_pick : FnG l.prog w K mg base CX0 1 a_pick _ ["_law_bag_here", "_law_many"] (sp_pick K AD) := ok_pick F_pick n_int
  have G_three : FnG l.prog w K mg base CX0 2 a_three _ ["_law_bag_here", "_law_most"] (sp_three K AD) := ok_three F_three F_pick G_pick j_pick b_pick
  have G_spans : FnG l.prog w K mg base CX0 2 a_spans _ ["_law_bag_here", "_law_many", "_law_wide"] (sp_spans K AD) := ok_spans F_spans F_pick G_pick j_pick b_pick n_range
  have G_class : FnG l.prog w K mg base CX0 1 a_class _ ["_law_caught"] (sp_class K AD) := ok_class F_class n_ValueError n_isinstance n_len n_repr XX xg0 xg1 xg10 xg11 xg12 xg13 xg14 xg15 xg16 xg2 xg3 xg4 xg5 xg6 xg7 xg8 xg9
  have G_bad_tables : FnG l.prog w K mg base CX0 1 a_bad_tables _ [] (sp_bad_tables K AD) := ok_bad_tables F_bad_tables 
  have G_bad_spans : FnG l.prog w K mg base CX0 2 a_bad_spans _ ["_law_bag_here", "_law_spans_here"] (sp_bad_spans K AD) := ok_bad_spans F_bad_spans F_pick G_pick j_pick b_pick n_len n_repr n_tuple
  have G_bad_integers : FnG l.prog w K mg base CX0 1 a_bad_integers _ ["_law_low", "_law_high"] (sp_bad_integers K AD) := ok_bad_integers F_bad_integers 
  have G_called : FnG l.prog w K mg base (L2.CX l.prog w) 7 a_called _ ["_law_way", "_law_some"] (sp_called K AD) := ok_called F_called F_Table___init__4 G_Table___init__4 MT4 b_Table___init__4 F_Table_value G_Table_value M_Table_value b_Table_value F_Table_tail G_Table_tail M_Table_tail b_Table_tail F_key_count G_key_count j_key_count b_key_count F_tail_count G_tail_count j_tail_count b_tail_count F_nth_key G_nth_key j_nth_key b_nth_key TT
  have G_called__2 : FnG l.prog w K mg base (L2.CX l.prog w) 7 a_called__2 _ ["_law_way", "_law_some"] (sp_called__2 K AD) := ok_called__2 F_called__2 F_Table___init__ G_Table___init__ MT b_Table___init__ F_Table_value G_Table_value M_Table_value b_Table_value F_Table_tail G_Table_tail M_Table_tail b_Table_tail F_key_count G_key_count j_key_count b_key_count F_tail_count G_tail_count j_tail_count b_tail_count F_nth_key G_nth_key j_nth_key b_nth_key TT
  have G_told : FnG l.prog w K mg base CX0 8 a_told _ ["_law_way", "_law_some"] (sp_told K AD) := ok_told F_told F_called G_called j_called b_called F_class G_class j_class b_class n_repr SM XM XX xg17
  have G_told__2 : FnG l.prog w K mg base CX0 8 a_told__2 _ ["_law_way", "_law_some"] (sp_told__2 K AD) := ok_told__2 F_told__2 F_called__2 G_called__2 j_called__2 b_called__2 F_class G_class j_class b_class n_repr SM XM XX xg17
  have G_made_right : FnG l.prog w K mg base CX0 9 a_made_right _ ["_law_bag_here"] (sp_made_right K AD) := ok_made_right F_made_right F_three G_three j_three b_three F_Table___init__ G_Table___init__ MT b_Table___init__ F_bad_integers G_bad_integers j_bad_integers b_bad_integers F_told G_told j_told b_told F_told__2 G_told__2 j_told__2 b_told__2 TT
  have G_right : FnG l.prog w K mg base CX0 10 a_right _ ["_law_bag_here"] (sp_right K AD) := ok_right F_right F_three G_three j_three b_three F_Table___init__ G_Table___init__ MT b_Table___init__ F_spans G_spans j_spans b_spans F_pick G_pick j_pick b_pick F_bad_tables G_bad_tables j_bad_tables b_bad_tables F_told G_told j_told b_told F_bad_spans G_bad_spans j_bad_spans b_bad_spans F_bad_integers G_bad_integers j_bad_integers b_bad_integers F_made_right G_made_right j_made_right b_made_right TT
  have r := ok_law (CT := AD) F_law F_bag G_bag j_bag b_bag F_right G_right j_right b_right
  exact r
end My
open PySem PySem.W PyProof.Rows
set_option maxRecDepth 100000 in
set_option maxHeartbeats 0 in
theorem PySem.Challenge.cw_hashdoors_k05_errors_of_tables_holds : PySem.Challenge.rw_hashdoors_k05_errors_of_tables.Holds := by
  w_on; o_law; k_head; (case hw => w_witness2)
  k_fill
  refine Fw.walk_ofG3 (l := PySem.Challenge.rw_hashdoors_k05_errors_of_tables) (n := 63) (k := 11) (x := "_law_script") (sp := fun K => My.sp_law K default) rfl (by decide) rfl ⟨rfl, by decide, by decide⟩ (by decide +kernel) (fun w h Y => PySem.W.kIn_of Y) ?F (fun K H a ns hl hb S => Fw.law_pr S (My.law_ok_all ns hl hb) (My.law_true ns hl hb))
  case F =>
    intro w mg fa h KX G hmg
    refine' My.all_mk KX G hmg ?aC ?at_is_int ?lk_is_int ?cd_is_int ?kp_is_int ?at_is_int__2 ?lk_is_int__2 ?cd_is_int__2 ?kp_is_int__2 ?at_is_whole ?lk_is_whole ?cd_is_whole ?kp_is_whole ?at_is_whole__2 ?lk_is_whole__2 ?cd_is_whole__2 ?kp_is_whole__2 ?at_is_span__2 ?lk_is_span__2 ?cd_is_span__2 ?kp_is_span__2 ?at_require_spans ?lk_require_spans ?cd_require_spans ?kp_require_spans ?at_require_key ?lk_require_key ?cd_require_key ?kp_require_key ?at_require_depth ?lk_require_depth ?cd_require_depth ?kp_require_depth ?at_require_tail ?lk_require_tail ?cd_require_tail ?kp_require_tail ?at_require_number ?lk_require_number ?cd_require_number ?kp_require_number ?at_Table___init__ ?fn_Table___init__ ?lk_Table___init__ ?cd_Table___init__ ?kp_Table___init__ ?at_Table___init__4 ?fn_Table___init__4 ?lk_Table___init__4 ?cd_Table___init__4 ?kp_Table___init__4 ?at_Table_value ?fn_Table_value ?lk_Table_value ?cd_Table_value ?kp_Table_value ?at_tail_of ?lk_tail_of ?cd_tail_of ?kp_tail_of ?at_Table_tail ?fn_Table_tail ?lk_Table_tail ?cd_Table_tail ?kp_Table_tail ?at_require_table ?lk_require_table ?cd_require_table ?kp_require_table ?at_residue_of ?lk_residue_of ?cd_residue_of ?kp_residue_of ?at_residue_count ?lk_residue_count ?cd_residue_count ?kp_residue_count ?at_require_place ?lk_require_place ?cd_require_place ?kp_require_place ?at_key_count ?lk_key_count ?cd_key_count ?kp_key_count ?at_tail_count ?lk_tail_count ?cd_tail_count ?kp_tail_count ?at_nth_key ?lk_nth_key ?cd_nth_key ?kp_nth_key ?at_bag ?lk_bag ?cd_bag ?kp_bag ?at_pick ?lk_pick ?cd_pick ?kp_pick ?at_three ?lk_three ?cd_three ?kp_three ?at_spans ?lk_spans ?cd_spans ?kp_spans ?at_class ?lk_class ?cd_class ?kp_class ?at_bad_tables ?lk_bad_tables ?cd_bad_tables ?kp_bad_tables ?at_bad_spans ?lk_bad_spans ?cd_bad_spans ?kp_bad_spans ?at_bad_integers ?lk_bad_integers ?cd_bad_integers ?kp_bad_integers ?at_called ?lk_called ?cd_called ?kp_called ?at_called__2 ?lk_called__2 ?cd_called__2 ?kp_called__2 ?at_told ?lk_told ?cd_told ?kp_told ?at_told__2 ?lk_told__2 ?cd_told__2 ?kp_told__2 ?at_made_right ?lk_made_right ?cd_made_right ?kp_made_right ?at_right ?lk_right ?cd_right ?kp_right ?at_law ?lk_law ?cd_law ?kp_law ?oc ?ot ?os0 ?os1 ?os2 ?os3 ?os4 ?os5 ?os6 ?pg ?hd ?po ?sa ?mk ?kc ?nC ?nR ?nS ?xa ?xb ?xc ?xd ?ts0 ?ts1 ?ts2 ?ts3 ?ts4 ?ts5 ?ts6 ?xa0 ?xa1 ?xa2 ?xa3 ?xa4 ?xa5 ?xa6 ?xa7 ?xa8 ?xa9 ?xa10 ?xa11 ?xa12 ?xa13 ?xa14 ?xa15 ?xa16 ?xa17 ?xhn ?xht ?xc0 ?xs0 ?xno0 ?xsa0 ?xic0 ?xit0 ?xlk0 ?xcd_0 ?xik0 ?xls0 ?xrv0 ?xc1 ?xs1 ?xno1 ?xsa1 ?xic1 ?xit1 ?xlk1 ?xcd_1 ?xik1 ?xls1 ?xrv1 ?xc2 ?xs2 ?xno2 ?xsa2 ?xic2 ?xit2 ?xlk2 ?xcd_2 ?xik2 ?xls2 ?xrv2 ?xc3 ?xs3 ?xno3 ?xsa3 ?xic3 ?xit3 ?xlk3 ?xcd_3 ?xik3 ?xls3 ?xrv3 ?xc4 ?xs4 ?xe4 ?xc5 ?xs5 ?xe5 ?xc6 ?xs6 ?xe6 ?xc7 ?xs7 ?xe7 ?xc8 ?xs8 ?xe8 ?xc9 ?xs9 ?xe9 ?xc10 ?xs10 ?xe10 ?xc11 ?xs11 ?xe11 ?xc12 ?xs12 ?xe12 ?xc13 ?xs13 ?xe13 ?xc14 ?xs14 ?xe14 ?xc15 ?xs15 ?xe15 ?xc16 ?xs16 ?xe16 ?xc17 ?xs17 ?xe17 ?zn_ValueError ?zn_bool ?zn_enumerate ?zn_int ?zn_isinstance ?zn_len ?zn_list ?zn_max ?zn_range ?zn_repr ?zn_sum ?zn_tuple ?zc_MOST_DEPTH ?zc_MOST_KEY ?zc_MOST_SPANS
    (case aC => k_is)
    (case at_is_int => k_is)
    (case lk_is_int => k_is)
    (case cd_is_int => k_is)
    (case kp_is_int => k_is)
    (case at_is_int__2 => k_is)
    (case lk_is_int__2 => k_is)
    (case cd_is_int__2 => k_is)
    (case kp_is_int__2 => k_is)
    (case at_is_whole => k_is)
    (case lk_is_whole => k_is)
    (case cd_is_whole => k_is)
    (case kp_is_whole => k_is)
    (case at_is_whole__2 => k_is)
    (case lk_is_whole__2 => k_is)
    (case cd_is_whole__2 => k_is)
    (case kp_is_whole__2 => k_is)
    (case at_is_span__2 => k_is)
    (case lk_is_span__2 => k_is)
    (case cd_is_span__2 => k_is)
    (case kp_is_span__2 => k_is)
    (case at_require_spans => k_is)
    (case lk_require_spans => k_is)
    (case cd_require_spans => k_is)
    (case kp_require_spans => k_is)
    (case at_require_key => k_is)
    (case lk_require_key => k_is)
    (case cd_require_key => k_is)
    (case kp_require_key => k_is)
    (case at_require_depth => k_is)
    (case lk_require_depth => k_is)
    (case cd_require_depth => k_is)
    (case kp_require_depth => k_is)
    (case at_require_tail => k_is)
    (case lk_require_tail => k_is)
    (case cd_require_tail => k_is)
    (case kp_require_tail => k_is)
    (case at_require_number => k_is)
    (case lk_require_number => k_is)
    (case cd_require_number => k_is)
    (case kp_require_number => k_is)
    (case at_Table___init__ => k_is)
    (case fn_Table___init__ => k_is)
    (case lk_Table___init__ => k_is)
    (case cd_Table___init__ => k_is)
    (case kp_Table___init__ => k_is)
    (case at_Table___init__4 => k_is)
    (case fn_Table___init__4 => k_is)
    (case lk_Table___init__4 => k_is)
    (case cd_Table___init__4 => k_is)
    (case kp_Table___init__4 => k_is)
    (case at_Table_value => k_is)
    (case fn_Table_value => k_is)
    (case lk_Table_value => k_is)
    (case cd_Table_value => k_is)
    (case kp_Table_value => k_is)
    (case at_tail_of => k_is)
    (case lk_tail_of => k_is)
    (case cd_tail_of => k_is)
    (case kp_tail_of => k_is)
    (case at_Table_tail => k_is)
    (case fn_Table_tail => k_is)
    (case lk_Table_tail => k_is)
    (case cd_Table_tail => k_is)
    (case kp_Table_tail => k_is)
    (case at_require_table => k_is)
    (case lk_require_table => k_is)
    (case cd_require_table => k_is)
    (case kp_require_table => k_is)
    (case at_residue_of => k_is)
    (case lk_residue_of => k_is)
    (case cd_residue_of => k_is)
    (case kp_residue_of => k_is)
    (case at_residue_count => k_is)
    (case lk_residue_count => k_is)
    (case cd_residue_count => k_is)
    (case kp_residue_count => k_is)
    (case at_require_place => k_is)
    (case lk_require_place => k_is)
    (case cd_require_place => k_is)
    (case kp_require_place => k_is)
    (case at_key_count => k_is)
    (case lk_key_count => k_is)
    (case cd_key_count => k_is)
    (case kp_key_count => k_is)
    (case at_tail_count => k_is)
    (case lk_tail_count => k_is)
    (case cd_tail_count => k_is)
    (case kp_tail_count => k_is)
    (case at_nth_key => k_is)
    (case lk_nth_key => k_is)
    (case cd_nth_key => k_is)
    (case kp_nth_key => k_is)
    (case at_bag => k_is)
    (case lk_bag => k_is)
    (case cd_bag => k_is)
    (case kp_bag => k_is)
    (case at_pick => k_is)
    (case lk_pick => k_is)
    (case cd_pick => k_is)
    (case kp_pick => k_is)
    (case at_three => k_is)
    (case lk_three => k_is)
    (case cd_three => k_is)
    (case kp_three => k_is)
    (case at_spans => k_is)
    (case lk_spans => k_is)
    (case cd_spans => k_is)
    (case kp_spans => k_is)
    (case at_class => k_is)
    (case lk_class => k_is)
    (case cd_class => k_is)
    (case kp_class => k_is)
    (case at_bad_tables => k_is)
    (case lk_bad_tables => k_is)
    (case cd_bad_tables => k_is)
    (case kp_bad_tables => k_is)
    (case at_bad_spans => k_is)
    (case lk_bad_spans => k_is)
    (case cd_bad_spans => k_is)
    (case kp_bad_spans => k_is)
    (case at_bad_integers => k_is)
    (case lk_bad_integers => k_is)
    (case cd_bad_integers => k_is)
    (case kp_bad_integers => k_is)
    (case at_called => k_is)
    (case lk_called => k_is)
    (case cd_called => k_is)
    (case kp_called => k_is)
    (case at_called__2 => k_is)
    (case lk_called__2 => k_is)
    (case cd_called__2 => k_is)
    (case kp_called__2 => k_is)
    (case at_told => k_is)
    (case lk_told => k_is)
    (case cd_told => k_is)
    (case kp_told => k_is)
    (case at_told__2 => k_is)
    (case lk_told__2 => k_is)
    (case cd_told__2 => k_is)
    (case kp_told__2 => k_is)
    (case at_made_right => k_is)
    (case lk_made_right => k_is)
    (case cd_made_right => k_is)
    (case kp_made_right => k_is)
    (case at_right => k_is)
    (case lk_right => k_is)
    (case cd_right => k_is)
    (case kp_right => k_is)
    (case at_law => k_is)
    (case lk_law => k_is)
    (case cd_law => k_is)
    (case kp_law => k_is)
    (case oc => k_is)
    (case ot => k_is)
    (case os0 => k_is)
    (case os1 => k_is)
    (case os2 => k_is)
    (case os3 => k_is)
    (case os4 => k_is)
    (case os5 => k_is)
    (case os6 => k_is)
    (case pg => k_is)
    (case hd => k_is)
    (case po => k_is)
    (case sa => k_is)
    (case mk => k_is)
    (case kc => k_is)
    (case nC => k_is)
    (case nR => k_is)
    (case nS => k_is)
    (case xa => k_is)
    (case xb => k_is)
    (case xc => k_is)
    (case xd => k_is)
    (case ts0 => k_is)
    (case ts1 => k_is)
    (case ts2 => k_is)
    (case ts3 => k_is)
    (case ts4 => k_is)
    (case ts5 => k_is)
    (case ts6 => k_is)
    (case xa0 => k_is)
    (case xa1 => k_is)
    (case xa2 => k_is)
    (case xa3 => k_is)
    (case xa4 => k_is)
    (case xa5 => k_is)
    (case xa6 => k_is)
    (case xa7 => k_is)
    (case xa8 => k_is)
    (case xa9 => k_is)
    (case xa10 => k_is)
    (case xa11 => k_is)
    (case xa12 => k_is)
    (case xa13 => k_is)
    (case xa14 => k_is)
    (case xa15 => k_is)
    (case xa16 => k_is)
    (case xa17 => k_is)
    (case xhn => k_is)
    (case xht => k_is)
    (case xc0 => refine ⟨?_, ?_, ?_, ?_, ?_, ?_, ?_, ?_, ?_, ?_⟩ <;> k_is)
    (case xs0 => refine ⟨?_, ?_, ?_, ?_, ?_, ?_, ?_, ?_, ?_, ?_, ?_, ?_, ?_, ?_, ?_, ?_, ?_, ?_⟩ <;> k_is)
    (case xno0 => k_is)
    (case xsa0 => k_is)
    (case xic0 => k_is)
    (case xit0 => k_is)
    (case xlk0 => k_is)
    (case xcd_0 => k_is)
    (case xik0 => k_is)
    (case xls0 => k_is)
    (case xrv0 => decide +kernel)
    (case xc1 => refine ⟨?_, ?_, ?_, ?_, ?_, ?_, ?_, ?_, ?_, ?_⟩ <;> k_is)
    (case xs1 => refine ⟨?_, ?_, ?_, ?_, ?_, ?_, ?_, ?_, ?_, ?_, ?_, ?_, ?_, ?_, ?_, ?_, ?_, ?_⟩ <;> k_is)
    (case xno1 => k_is)
    (case xsa1 => k_is)
    (case xic1 => k_is)
    (case xit1 => k_is)
    (case xlk1 => k_is)
    (case xcd_1 => k_is)
    (case xik1 => k_is)
    (case xls1 => k_is)
    (case xrv1 => decide +kernel)
    (case xc2 => refine ⟨?_, ?_, ?_, ?_, ?_, ?_, ?_, ?_, ?_, ?_⟩ <;> k_is)
    (case xs2 => refine ⟨?_, ?_, ?_, ?_, ?_, ?_, ?_, ?_, ?_, ?_, ?_, ?_, ?_, ?_, ?_, ?_, ?_, ?_⟩ <;> k_is)
    (case xno2 => k_is)
    (case xsa2 => k_is)
    (case xic2 => k_is)
    (case xit2 => k_is)
    (case xlk2 => k_is)
    (case xcd_2 => k_is)
    (case xik2 => k_is)
    (case xls2 => k_is)
    (case xrv2 => decide +kernel)
    (case xc3 => refine ⟨?_, ?_, ?_, ?_, ?_, ?_, ?_, ?_, ?_, ?_⟩ <;> k_is)
    (case xs3 => refine ⟨?_, ?_, ?_, ?_, ?_, ?_, ?_, ?_, ?_, ?_, ?_, ?_, ?_, ?_, ?_, ?_, ?_, ?_⟩ <;> k_is)
    (case xno3 => k_is)
    (case xsa3 => k_is)
    (case xic3 => k_is)
    (case xit3 => k_is)
    (case xlk3 => k_is)
    (case xcd_3 => k_is)
    (case xik3 => k_is)
    (case xls3 => k_is)
    (case xrv3 => decide +kernel)
    (case xc4 => refine ⟨?_, ?_, ?_, ?_, ?_, ?_, ?_, ?_, ?_, ?_⟩ <;> k_is)
    (case xs4 => refine ⟨?_, ?_, ?_, ?_, ?_, ?_, ?_, ?_, ?_, ?_, ?_, ?_, ?_, ?_, ?_, ?_, ?_, ?_⟩ <;> k_is)
    (case xe4 => k_exc)
    (case xc5 => refine ⟨?_, ?_, ?_, ?_, ?_, ?_, ?_, ?_, ?_, ?_⟩ <;> k_is)
    (case xs5 => refine ⟨?_, ?_, ?_, ?_, ?_, ?_, ?_, ?_, ?_, ?_, ?_, ?_, ?_, ?_, ?_, ?_, ?_, ?_⟩ <;> k_is)
    (case xe5 => k_exc)
    (case xc6 => refine ⟨?_, ?_, ?_, ?_, ?_, ?_, ?_, ?_, ?_, ?_⟩ <;> k_is)
    (case xs6 => refine ⟨?_, ?_, ?_, ?_, ?_, ?_, ?_, ?_, ?_, ?_, ?_, ?_, ?_, ?_, ?_, ?_, ?_, ?_⟩ <;> k_is)
    (case xe6 => k_exc)
    (case xc7 => refine ⟨?_, ?_, ?_, ?_, ?_, ?_, ?_, ?_, ?_, ?_⟩ <;> k_is)
    (case xs7 => refine ⟨?_, ?_, ?_, ?_, ?_, ?_, ?_, ?_, ?_, ?_, ?_, ?_, ?_, ?_, ?_, ?_, ?_, ?_⟩ <;> k_is)
    (case xe7 => k_exc)
    (case xc8 => refine ⟨?_, ?_, ?_, ?_, ?_, ?_, ?_, ?_, ?_, ?_⟩ <;> k_is)
    (case xs8 => refine ⟨?_, ?_, ?_, ?_, ?_, ?_, ?_, ?_, ?_, ?_, ?_, ?_, ?_, ?_, ?_, ?_, ?_, ?_⟩ <;> k_is)
    (case xe8 => k_exc)
    (case xc9 => refine ⟨?_, ?_, ?_, ?_, ?_, ?_, ?_, ?_, ?_, ?_⟩ <;> k_is)
    (case xs9 => refine ⟨?_, ?_, ?_, ?_, ?_, ?_, ?_, ?_, ?_, ?_, ?_, ?_, ?_, ?_, ?_, ?_, ?_, ?_⟩ <;> k_is)
    (case xe9 => k_exc)
    (case xc10 => refine ⟨?_, ?_, ?_, ?_, ?_, ?_, ?_, ?_, ?_, ?_⟩ <;> k_is)
    (case xs10 => refine ⟨?_, ?_, ?_, ?_, ?_, ?_, ?_, ?_, ?_, ?_, ?_, ?_, ?_, ?_, ?_, ?_, ?_, ?_⟩ <;> k_is)
    (case xe10 => k_exc)
    (case xc11 => refine ⟨?_, ?_, ?_, ?_, ?_, ?_, ?_, ?_, ?_, ?_⟩ <;> k_is)
    (case xs11 => refine ⟨?_, ?_, ?_, ?_, ?_, ?_, ?_, ?_, ?_, ?_, ?_, ?_, ?_, ?_, ?_, ?_, ?_, ?_⟩ <;> k_is)
    (case xe11 => k_exc)
    (case xc12 => refine ⟨?_, ?_, ?_, ?_, ?_, ?_, ?_, ?_, ?_, ?_⟩ <;> k_is)
    (case xs12 => refine ⟨?_, ?_, ?_, ?_, ?_, ?_, ?_, ?_, ?_, ?_, ?_, ?_, ?_, ?_, ?_, ?_, ?_, ?_⟩ <;> k_is)
    (case xe12 => k_exc)
    (case xc13 => refine ⟨?_, ?_, ?_, ?_, ?_, ?_, ?_, ?_, ?_, ?_⟩ <;> k_is)
    (case xs13 => refine ⟨?_, ?_, ?_, ?_, ?_, ?_, ?_, ?_, ?_, ?_, ?_, ?_, ?_, ?_, ?_, ?_, ?_, ?_⟩ <;> k_is)
    (case xe13 => k_exc)
    (case xc14 => refine ⟨?_, ?_, ?_, ?_, ?_, ?_, ?_, ?_, ?_, ?_⟩ <;> k_is)
    (case xs14 => refine ⟨?_, ?_, ?_, ?_, ?_, ?_, ?_, ?_, ?_, ?_, ?_, ?_, ?_, ?_, ?_, ?_, ?_, ?_⟩ <;> k_is)
    (case xe14 => k_exc)
    (case xc15 => refine ⟨?_, ?_, ?_, ?_, ?_, ?_, ?_, ?_, ?_, ?_⟩ <;> k_is)
    (case xs15 => refine ⟨?_, ?_, ?_, ?_, ?_, ?_, ?_, ?_, ?_, ?_, ?_, ?_, ?_, ?_, ?_, ?_, ?_, ?_⟩ <;> k_is)
    (case xe15 => k_exc)
    (case xc16 => refine ⟨?_, ?_, ?_, ?_, ?_, ?_, ?_, ?_, ?_, ?_⟩ <;> k_is)
    (case xs16 => refine ⟨?_, ?_, ?_, ?_, ?_, ?_, ?_, ?_, ?_, ?_, ?_, ?_, ?_, ?_, ?_, ?_, ?_, ?_⟩ <;> k_is)
    (case xe16 => k_exc)
    (case xc17 => refine ⟨?_, ?_, ?_, ?_, ?_, ?_, ?_, ?_, ?_, ?_⟩ <;> k_is)
    (case xs17 => refine ⟨?_, ?_, ?_, ?_, ?_, ?_, ?_, ?_, ?_, ?_, ?_, ?_, ?_, ?_, ?_, ?_, ?_, ?_⟩ <;> k_is)
    (case xe17 => k_exc)
    (case zn_ValueError => k_is)
    (case zn_bool => k_is)
    (case zn_enumerate => k_is)
    (case zn_int => k_is)
    (case zn_isinstance => k_is)
    (case zn_len => k_is)
    (case zn_list => k_is)
    (case zn_max => k_is)
    (case zn_range => k_is)
    (case zn_repr => k_is)
    (case zn_sum => k_is)
    (case zn_tuple => k_is)
    (case zc_MOST_DEPTH => exact ⟨_, by k_is⟩)
    (case zc_MOST_KEY => exact ⟨_, by k_is⟩)
    (case zc_MOST_SPANS => exact ⟨_, by k_is⟩)
#print axioms PySem.Challenge.cw_hashdoors_k05_errors_of_tables_holds
end
