import PyProof.Rows.All
import Wide.All
import OpenK.AllK
import Wide.FinOn
import HandS.ForExc
import HandS.Comp
import HandS.Iter
import HandS.Style
import HandS.Flow
import HandS.TupAny
import HandS.TupMul
import HandS.TryMany
import HandS.Wide
import HandS.WideBits
import HandS.IsInst
import HandS.Deep
import KE.BitLaws
import PySem.Challenge.RW_chordkeep_k49_whole_two_squares
set_option Elab.async false
set_option linter.all false
set_option maxRecDepth 100000
set_option maxHeartbeats 4000000
/-! DD1: data without a heap (D), what it is to be laid at a value (Rep), the state of a body (SR), the judgements DE, DT, DA, DL, DS. -/
namespace DD
open PySem PySem.Spec PyProof.Rows L2

abbrev Kf := PySem.W.Frag

/-- data: tuples and lists that nothing changes any more stand as what they hold; tape: the tape of draws -/
inductive D where
  | non | bl (b : Bool) | int (i : Int) | str (s : Str) | tup (ds : List D) | lst (ds : List D) | scr (ns : List Int) | tape

/-- where the tape stands: its list, the list of its cells -/
structure Tp where
  t : Addr
  c : Addr

mutual
def Rep (K : Kf) (F : Hp) (τ : Option Tp) : D → V → Prop
  | .non, v => v = .non
  | .bl b, v => v = .bl b
  | .int i, v => v = .int i
  | .str s, v => v = .str s
  | .tup ds, v => ∃ a vs, v = .ref a ∧ SqT K F a vs ∧ Reps K F τ ds vs
  | .lst ds, v => ∃ a vs, v = .ref a ∧ F a = some (.lst vs) ∧ Reps K F τ ds vs
  | .scr ns, v => ∃ a, v = .ref a ∧ SqL K F a (ns.map V.int)
  | .tape, v => ∃ t, τ = some t ∧ v = .ref t.t
def Reps (K : Kf) (F : Hp) (τ : Option Tp) : List D → List V → Prop
  | [], vs => vs = []
  | d :: ds, vs => ∃ v r, vs = v :: r ∧ Rep K F τ d v ∧ Reps K F τ ds r
end

theorem rd_mono {F F' : Hp} {a : Addr} {u : HO} (e : Same F F') (h : Rd F a u) : Rd F' a u := by
  rcases h with h | ⟨o, h⟩
  · exact .inl (e _ _ h)
  · exact .inr ⟨o, e _ _ h⟩
theorem sqT_mono {K : Kf} {F F' : Hp} {a : Addr} {xs : List V} (e : Same F F') (h : SqT K F a xs) : SqT K F' a xs := by
  rcases h with h | h
  · exact .inl (rd_mono e h)
  · exact .inr h
theorem sqL_mono {K : Kf} {F F' : Hp} {a : Addr} {xs : List V} (e : Same F F') (h : SqL K F a xs) : SqL K F' a xs := e.seq h

section
variable {K : Kf} {F F' H H' : Hp} {τ τ' : Option Tp}
mutual
theorem Rep.mono (e : Same F F') (t : ∀ x, τ = some x → τ' = some x) : ∀ {d : D} {v : V}, Rep K F τ d v → Rep K F' τ' d v
  | .non, _, h => by unfold Rep at h ⊢; exact h
  | .bl _, _, h => by unfold Rep at h ⊢; exact h
  | .int _, _, h => by unfold Rep at h ⊢; exact h
  | .str _, _, h => by unfold Rep at h ⊢; exact h
  | .tup ds, _, h => by
    unfold Rep at h ⊢
    obtain ⟨a, vs, h1, h2, h3⟩ := h
    exact ⟨a, vs, h1, sqT_mono e h2, Reps.mono e t h3⟩
  | .lst ds, _, h => by
    unfold Rep at h ⊢
    obtain ⟨a, vs, h1, h2, h3⟩ := h
    exact ⟨a, vs, h1, e _ _ h2, Reps.mono e t h3⟩
  | .scr ds, _, h => by
    unfold Rep at h ⊢
    obtain ⟨a, h1, h2⟩ := h
    exact ⟨a, h1, sqL_mono e h2⟩
  | .tape, _, h => by
    unfold Rep at h ⊢
    obtain ⟨x, h1, h2⟩ := h
    exact ⟨x, t x h1, h2⟩
theorem Reps.mono (e : Same F F') (t : ∀ x, τ = some x → τ' = some x) : ∀ {ds : List D} {vs : List V}, Reps K F τ ds vs → Reps K F' τ' ds vs
  | [], _, h => by unfold Reps at h ⊢; exact h
  | d :: ds, _, h => by
    unfold Reps at h ⊢
    obtain ⟨v, r, h1, h2, h3⟩ := h
    exact ⟨v, r, h1, Rep.mono e t h2, Reps.mono e t h3⟩
end
theorem Reps.len : ∀ {ds : List D} {vs : List V}, Reps K F τ ds vs → vs.length = ds.length
  | [], _, h => by unfold Reps at h; rw [h]; rfl
  | d :: ds, _, h => by
    unfold Reps at h
    obtain ⟨v, r, h1, h2, h3⟩ := h
    rw [h1, List.length_cons, List.length_cons, Reps.len h3]
theorem Reps.at : ∀ {ds : List D} {vs : List V} {i : Nat} {d : D}, Reps K F τ ds vs → ds[i]? = some d → ∃ v, vs[i]? = some v ∧ Rep K F τ d v
  | [], _, _, _, _, e => by simp at e
  | x :: ds, _, 0, d, h, e => by
    unfold Reps at h
    obtain ⟨v, r, h1, h2, h3⟩ := h
    have : x = d := by simpa using e
    subst this; subst h1
    exact ⟨v, rfl, h2⟩
  | x :: ds, _, i + 1, d, h, e => by
    unfold Reps at h
    obtain ⟨v, r, h1, h2, h3⟩ := h
    subst h1
    obtain ⟨w, q1, q2⟩ := Reps.at (i := i) h3 (by simpa using e)
    exact ⟨w, by simpa using q1, q2⟩
theorem Reps.at' : ∀ {ds : List D} {vs : List V} {i : Nat} {v : V}, Reps K F τ ds vs → vs[i]? = some v → ∃ d, ds[i]? = some d ∧ Rep K F τ d v
  | [], _, _, _, h, e => by unfold Reps at h; subst h; simp at e
  | x :: ds, _, 0, d, h, e => by
    unfold Reps at h
    obtain ⟨v, r, h1, h2, h3⟩ := h
    subst h1
    have : v = d := by simpa using e
    subst this
    exact ⟨x, rfl, h2⟩
  | x :: ds, _, i + 1, d, h, e => by
    unfold Reps at h
    obtain ⟨v, r, h1, h2, h3⟩ := h
    subst h1
    obtain ⟨w, q1, q2⟩ := Reps.at' (i := i) h3 (by simpa using e)
    exact ⟨w, by simpa using q1, q2⟩
theorem Reps.append : ∀ {ds es : List D} {vs us : List V}, Reps K F τ ds vs → Reps K F τ es us → Reps K F τ (ds ++ es) (vs ++ us)
  | [], _, _, _, h, g => by unfold Reps at h; subst h; exact g
  | x :: ds, es, _, us, h, g => by
    unfold Reps at h
    obtain ⟨v, r, h1, h2, h3⟩ := h
    subst h1
    show Reps K F τ (x :: (ds ++ es)) (v :: (r ++ us))
    unfold Reps
    exact ⟨v, _, rfl, h2, Reps.append h3 g⟩
theorem Reps.nil : Reps K F τ [] [] := by unfold Reps; rfl
theorem Reps.cons {d : D} {v : V} {ds : List D} {vs : List V} (h : Rep K F τ d v) (g : Reps K F τ ds vs) : Reps K F τ (d :: ds) (v :: vs) := by
  unfold Reps; exact ⟨v, vs, rfl, h, g⟩
theorem Reps.one {d : D} {v : V} (h : Rep K F τ d v) : Reps K F τ [d] [v] := .cons h .nil
theorem Reps.take : ∀ {ds : List D} {vs : List V} (n : Nat), Reps K F τ ds vs → Reps K F τ (ds.take n) (vs.take n)
  | [], _, n, h => by unfold Reps at h; subst h; simp; exact .nil
  | x :: ds, _, 0, h => .nil
  | x :: ds, _, n + 1, h => by
    unfold Reps at h
    obtain ⟨v, r, h1, h2, h3⟩ := h
    subst h1
    exact .cons h2 (Reps.take n h3)
theorem Reps.drop : ∀ {ds : List D} {vs : List V} (n : Nat), Reps K F τ ds vs → Reps K F τ (ds.drop n) (vs.drop n)
  | [], _, n, h => by unfold Reps at h; subst h; simp; exact .nil
  | x :: ds, _, 0, h => h
  | x :: ds, _, n + 1, h => by
    unfold Reps at h
    obtain ⟨v, r, h1, h2, h3⟩ := h
    subst h1
    exact Reps.drop n h3
theorem Reps.set : ∀ {ds : List D} {vs : List V} (n : Nat) {d : D} {v : V}, Reps K F τ ds vs → Rep K F τ d v → Reps K F τ (ds.set n d) (vs.set n v)
  | [], _, n, _, _, h, g => by unfold Reps at h; subst h; simp; exact .nil
  | x :: ds, _, 0, _, _, h, g => by
    unfold Reps at h
    obtain ⟨v, r, h1, h2, h3⟩ := h
    subst h1
    exact .cons g h3
  | x :: ds, _, n + 1, _, _, h, g => by
    unfold Reps at h
    obtain ⟨v, r, h1, h2, h3⟩ := h
    subst h1
    exact .cons h2 (Reps.set n h3 g)
theorem Reps.reverse : ∀ {ds : List D} {vs : List V}, Reps K F τ ds vs → Reps K F τ ds.reverse vs.reverse
  | [], _, h => by unfold Reps at h; subst h; exact .nil
  | x :: ds, _, h => by
    unfold Reps at h
    obtain ⟨v, r, h1, h2, h3⟩ := h
    subst h1
    rw [List.reverse_cons, List.reverse_cons]
    exact (Reps.reverse h3).append (.one h2)
theorem Reps.ints : ∀ {ns : List Int}, Reps K F τ (ns.map D.int) (ns.map V.int)
  | [] => .nil
  | n :: r => .cons (by unfold Rep; rfl) Reps.ints
theorem Reps.of_ints : ∀ {ns : List Int} {vs : List V}, Reps K F τ (ns.map D.int) vs → vs = ns.map V.int
  | [], _, h => by unfold Reps at h; exact h
  | n :: r, _, h => by
    unfold Reps at h
    obtain ⟨v, s, h1, h2, h3⟩ := h
    unfold Rep at h2
    subst h1; subst h2
    rw [Reps.of_ints h3]; rfl
theorem Reps.of_bls : ∀ {ns : List Bool} {vs : List V}, Reps K F τ (ns.map D.bl) vs → vs = ns.map V.bl
  | [], _, h => by unfold Reps at h; exact h
  | n :: r, _, h => by
    unfold Reps at h
    obtain ⟨v, s, h1, h2, h3⟩ := h
    unfold Rep at h2
    subst h1; subst h2
    rw [Reps.of_bls h3]; rfl
end

/-! ### the tape -/
structure Tape where
  cells : List Int
  seed : Int
def TapeOk (τ : Option Tp) (T : Option Tape) (H : Hp) : Prop :=
  match τ, T with
  | none, none => True
  | some t, some x => t.t ≠ t.c ∧ H t.t = some (.lst [.ref t.c, .int x.seed]) ∧ H t.c = some (.lst (x.cells.map V.int))
  | _, _ => False
/-- an address that is not the tape's -/
def Off (τ : Option Tp) (a : Addr) : Prop := ∀ t, τ = some t → a ≠ t.t ∧ a ≠ t.c
theorem Off.none {a : Addr} : Off none a := fun _ h => by cases h
theorem TapeOk.same {τ : Option Tp} {T : Option Tape} {H H' : Hp} (h : TapeOk τ T H) (e : ∀ t, τ = some t → H' t.t = H t.t ∧ H' t.c = H t.c) : TapeOk τ T H' := by
  cases τ with
  | none =>
    cases T with
    | none => trivial
    | some x => exact h
  | some t =>
    cases T with
    | none => exact h
    | some x =>
      obtain ⟨h1, h2, h3⟩ := h
      obtain ⟨e1, e2⟩ := e t rfl
      exact ⟨h1, e1.trans h2, e2.trans h3⟩
theorem TapeOk.there {τ : Option Tp} {T : Option Tape} {H : Hp} (h : TapeOk τ T H) {t : Tp} (e : τ = some t) : (∃ o, H t.t = some o) ∧ ∃ o, H t.c = some o := by
  subst e
  cases T with
  | none => exact h.elim
  | some x => exact ⟨⟨_, h.2.1⟩, ⟨_, h.2.2⟩⟩
theorem ne_none {H : Hp} {a p : Addr} {o : HO} (h : H a = some o) (n : H p = none) : p ≠ a := fun z => by
  rw [z, h] at n
  cases n
/-- a new object is no tape's -/
theorem TapeOk.off {τ : Option Tp} {T : Option Tape} {H : Hp} (h : TapeOk τ T H) {p : Addr} (n : H p = none) : Off τ p := fun t e => by
  obtain ⟨⟨o, h1⟩, ⟨u, h2⟩⟩ := h.there e
  exact ⟨ne_none h1 n, ne_none h2 n⟩
theorem TapeOk.upd {τ : Option Tp} {T : Option Tape} {H : Hp} (h : TapeOk τ T H) {p : Addr} {o : HO} (n : Off τ p) : TapeOk τ T (upd H p o) :=
  h.same fun t e => ⟨upd_ne (Ne.symm (n t e).1), upd_ne (Ne.symm (n t e).2)⟩

/-! ### how the world goes on -/
structure Go (F H : Hp) (τ : Option Tp) (F' H' : Hp) (τ' : Option Tp) : Prop where
  ff : Same F F'
  fh : Same F' H'
  hh : ∀ a o, H a = some o → Off τ a → H' a = some o
  dom : ∀ a, H' a = none → H a = none
  nw : ∀ a o, F' a = some o → F a = some o ∨ H a = none
  tt : τ' = τ ∨ (τ = none ∧ ∃ t, τ' = some t ∧ H t.t = none ∧ H t.c = none ∧ F' t.t = none ∧ F' t.c = none ∧ H' t.t ≠ none ∧ H' t.c ≠ none)
theorem Go.tm {F H F' H' : Hp} {τ τ' : Option Tp} (g : Go F H τ F' H' τ') : ∀ x, τ = some x → τ' = some x := fun x e => by
  rcases g.tt with h | ⟨h, _⟩
  · rw [h]; exact e
  · rw [h] at e; cases e
theorem Go.refl {F H : Hp} {τ : Option Tp} (h : Same F H) : Go F H τ F H τ := ⟨fun _ _ h => h, h, fun _ _ h _ => h, fun _ h => h, fun _ _ h => .inl h, .inl rfl⟩
theorem Go.off {F H F' H' : Hp} {τ τ' : Option Tp} (g : Go F H τ F' H' τ') {a : Addr} {o : HO} (h : H a = some o) (n : Off τ a) : Off τ' a := fun t e => by
  rcases g.tt with q | ⟨_, t', q, n1, n2, _⟩
  · rw [q] at e; exact n t e
  · rw [q] at e
    cases e
    exact ⟨Ne.symm (ne_none h n1), Ne.symm (ne_none h n2)⟩
theorem Go.trans {F H F1 H1 F2 H2 : Hp} {τ τ1 τ2 : Option Tp} (a : Go F H τ F1 H1 τ1) (b : Go F1 H1 τ1 F2 H2 τ2) : Go F H τ F2 H2 τ2 where
  ff := fun x o h => b.ff _ _ (a.ff _ _ h)
  fh := b.fh
  hh := fun x o h n => b.hh _ _ (a.hh _ _ h n) (a.off h n)
  dom := fun x h => a.dom _ (b.dom _ h)
  nw := fun x o h => by
    rcases b.nw _ _ h with q | q
    · exact a.nw _ _ q
    · exact .inr (a.dom _ q)
  tt := by
    rcases a.tt with q | ⟨q0, t, q, n1, n2, n3, n4, n5, n6⟩
    · rcases b.tt with r | ⟨r0, t', r, m1, m2, m3⟩
      · exact .inl (r.trans q)
      · exact .inr ⟨q ▸ r0, t', r, a.dom _ m1, a.dom _ m2, m3⟩
    · rcases b.tt with r | ⟨r0, t', r, m1, m2, m3⟩
      · have no : ∀ x, F1 x = none → H1 x ≠ none → F2 x = none := fun x h1 h2 => by
          cases e : F2 x with
          | none => rfl
          | some o =>
            rcases b.nw _ _ e with z | z
            · rw [h1] at z; cases z
            · exact absurd z h2
        exact .inr ⟨q0, t, r.trans q, n1, n2, no _ n3 n5, no _ n4 n6, fun z => n5 (b.dom _ z), fun z => n6 (b.dom _ z)⟩
      · rw [q] at r0; cases r0
/-- a new object, known from now on -/
theorem Go.new {F H : Hp} {τ : Option Tp} (h : Same F H) {p : Addr} {o : HO} (n : H p = none) : Go F H τ (upd F p o) (upd H p o) τ := by
  have nf : F p = none := h.free n
  refine ⟨fun a u e => ?_, fun a u e => ?_, fun a u e _ => ?_, fun a e => ?_, fun a u e => ?_, .inl rfl⟩
  · rw [upd_ne (ne_of_none e nf)]; exact e
  · by_cases z : a = p
    · subst z; rw [upd_same] at e ⊢; exact e
    · rw [upd_ne z] at e ⊢; exact h _ _ e
  · rw [upd_ne (ne_of_none e n)]; exact e
  · by_cases z : a = p
    · subst z; exact n
    · rw [upd_ne z] at e; exact e
  · by_cases z : a = p
    · subst z; exact .inr n
    · rw [upd_ne z] at e; exact .inl e
/-- a new object that only the heap knows -/
theorem Go.newH {F H : Hp} {τ : Option Tp} (h : Same F H) {p : Addr} {o : HO} (n : H p = none) : Go F H τ F (upd H p o) τ := by
  have nf : F p = none := h.free n
  refine ⟨fun a u e => e, fun a u e => ?_, fun a u e _ => ?_, fun a e => ?_, fun a u e => .inl e, .inl rfl⟩
  · rw [upd_ne (ne_of_none e nf)]; exact h _ _ e
  · rw [upd_ne (ne_of_none e n)]; exact e
  · by_cases z : a = p
    · subst z; exact n
    · rw [upd_ne z] at e; exact e
def TapeF (τ : Option Tp) (F : Hp) : Prop := ∀ t, τ = some t → F t.t = none ∧ F t.c = none
theorem Go.tf {F H F' H' : Hp} {τ τ' : Option Tp} {T : Option Tape} (g : Go F H τ F' H' τ') (o : TapeOk τ T H) (f : TapeF τ F) : TapeF τ' F' := fun t e => by
  rcases g.tt with q | ⟨q0, t', q, n1, n2, n3, n4, n5, n6⟩
  · rw [q] at e
    obtain ⟨⟨o1, h1⟩, ⟨o2, h2⟩⟩ := o.there e
    obtain ⟨f1, f2⟩ := f t e
    have no : ∀ x u, F x = none → H x = some u → F' x = none := fun x u h1 h2 => by
      cases e : F' x with
      | none => rfl
      | some o =>
        rcases g.nw _ _ e with z | z
        · rw [h1] at z; cases z
        · rw [h2] at z; cases z
    exact ⟨no _ _ f1 h1, no _ _ f2 h2⟩
  · rw [q] at e
    cases e
    exact ⟨n3, n4⟩

/-! ### slots and the state of a body -/
/-- a slot: nothing, data, a list of the body's own that it may change -/
inductive Sl where
  | un | val (d : D) | own (ds : List D)
abbrev DEnv := List Sl
structure SR (K : Kf) (F0 H0 : Hp) (τ0 : Option Tp) (F H : Hp) (τ : Option Tp) (T : Option Tape) (δ : DEnv) (σ : L2.St) : Prop where
  go : Go F0 H0 τ0 F H τ
  tp : TapeOk τ T H
  tf : TapeF τ F
  len : σ.length = δ.length
  val : ∀ (i : Nat) (d : D), δ[i]? = some (.val d) → ∃ v, σ[i]? = some (some v) ∧ Rep K F τ d v
  own : ∀ (i : Nat) (ds : List D), δ[i]? = some (.own ds) → ∃ a vs, σ[i]? = some (some (.ref a)) ∧ H a = some (.lst vs) ∧ Reps K F τ ds vs ∧ F a = none ∧ H0 a = none ∧ Off τ a
  dis : ∀ (i j : Nat) (ds es : List D) (a : Addr), i ≠ j → δ[i]? = some (.own ds) → δ[j]? = some (.own es) → σ[i]? = some (some (.ref a)) → σ[j]? ≠ some (some (.ref a))
section
variable {K : Kf} {F0 H0 F H F' H' : Hp} {τ0 τ τ' : Option Tp} {T T' : Option Tape} {δ δ' : DEnv} {σ σ' : L2.St}
theorem Go.fnone (g : Go F H τ F' H' τ') {a : Addr} {o : HO} (f : F a = none) (h : H a = some o) : F' a = none := by
  cases e : F' a with
  | none => rfl
  | some u =>
    rcases g.nw _ _ e with z | z
    · rw [f] at z; cases z
    · rw [h] at z; cases z
theorem SR.step (s : SR K F0 H0 τ0 F H τ T δ σ) (g : Go F H τ F' H' τ') (t : TapeOk τ' T' H') : SR K F0 H0 τ0 F' H' τ' T' δ σ where
  go := s.go.trans g
  tp := t
  tf := g.tf s.tp s.tf
  len := s.len
  val := fun i d e => by
    obtain ⟨v, h1, h2⟩ := s.val i d e
    exact ⟨v, h1, h2.mono g.ff g.tm⟩
  own := fun i ds e => by
    obtain ⟨a, vs, h1, h2, h3, h4, h5, h6⟩ := s.own i ds e
    exact ⟨a, vs, h1, g.hh _ _ h2 h6, h3.mono g.ff g.tm, g.fnone h4 h2, h5, g.off h2 h6⟩
  dis := s.dis
theorem SR.lt (s : SR K F0 H0 τ0 F H τ T δ σ) {i : Nat} {x : Sl} (h : δ[i]? = some x) : i < σ.length := by
  rw [s.len]; exact (List.getElem?_eq_some_iff.mp h).1
/-- data is stored -/
theorem SR.set (s : SR K F0 H0 τ0 F H τ T δ σ) {i : Nat} {d : D} {v : V} (r : Rep K F τ d v) : SR K F0 H0 τ0 F H τ T (δ.set i (.val d)) (σ.set i (some v)) where
  go := s.go
  tp := s.tp
  tf := s.tf
  len := by rw [List.length_set, List.length_set]; exact s.len
  val := fun j e h => by
    by_cases z : i = j
    · subst z
      have l : i < δ.length := by
        have := (List.getElem?_eq_some_iff.mp h).1
        rwa [List.length_set] at this
      rw [List.getElem?_set_self l] at h
      cases h
      exact ⟨v, List.getElem?_set_self (by rw [s.len]; exact l), r⟩
    · rw [List.getElem?_set_ne z] at h ⊢
      exact s.val j e h
  own := fun j ds h => by
    by_cases z : i = j
    · subst z
      have l : i < δ.length := by
        have := (List.getElem?_eq_some_iff.mp h).1
        rwa [List.length_set] at this
      rw [List.getElem?_set_self l] at h
      cases h
    · rw [List.getElem?_set_ne z] at h ⊢
      exact s.own j ds h
  dis := fun j k ds es a n h1 h2 h3 => by
    have lj : i ≠ j := fun z => by
      subst z
      have l : i < δ.length := by
        have := (List.getElem?_eq_some_iff.mp h1).1
        rwa [List.length_set] at this
      rw [List.getElem?_set_self l] at h1
      cases h1
    have lk : i ≠ k := fun z => by
      subst z
      have l : i < δ.length := by
        have := (List.getElem?_eq_some_iff.mp h2).1
        rwa [List.length_set] at this
      rw [List.getElem?_set_self l] at h2
      cases h2
    rw [List.getElem?_set_ne lj] at h1 h3
    rw [List.getElem?_set_ne lk] at h2 ⊢
    exact s.dis j k ds es a n h1 h2 h3
/-- a new list of one's own is stored -/
theorem SR.setOwn (s : SR K F0 H0 τ0 F H τ T δ σ) {i : Nat} {ds : List D} {p : Addr} {vs : List V} (hp : H p = some (.lst vs)) (r : Reps K F τ ds vs) (f : F p = none) (h0 : H0 p = none) (o : Off τ p)
    (ne : ∀ (j : Nat) (es : List D), δ[j]? = some (.own es) → σ[j]? ≠ some (some (.ref p))) : SR K F0 H0 τ0 F H τ T (δ.set i (.own ds)) (σ.set i (some (.ref p))) where
  go := s.go
  tp := s.tp
  tf := s.tf
  len := by rw [List.length_set, List.length_set]; exact s.len
  val := fun j e h => by
    by_cases z : i = j
    · subst z
      have l : i < δ.length := by
        have := (List.getElem?_eq_some_iff.mp h).1
        rwa [List.length_set] at this
      rw [List.getElem?_set_self l] at h
      cases h
    · rw [List.getElem?_set_ne z] at h ⊢
      exact s.val j e h
  own := fun j es h => by
    by_cases z : i = j
    · subst z
      have l : i < δ.length := by
        have := (List.getElem?_eq_some_iff.mp h).1
        rwa [List.length_set] at this
      rw [List.getElem?_set_self l] at h
      cases h
      exact ⟨p, vs, List.getElem?_set_self (by rw [s.len]; exact l), hp, r, f, h0, o⟩
    · rw [List.getElem?_set_ne z] at h ⊢
      exact s.own j es h
  dis := fun j k es fs a n h1 h2 h3 => by
    by_cases zj : i = j
    · subst zj
      have l : i < σ.length := by
        have := (List.getElem?_eq_some_iff.mp h3).1
        rwa [List.length_set] at this
      rw [List.getElem?_set_self l] at h3
      cases h3
      rw [List.getElem?_set_ne n] at h2 ⊢
      exact ne k fs h2
    · rw [List.getElem?_set_ne zj] at h1 h3
      by_cases zk : i = k
      · subst zk
        have l : i < δ.length := by
          have := (List.getElem?_eq_some_iff.mp h2).1
          rwa [List.length_set] at this
        rw [List.getElem?_set_self (by rw [s.len]; exact l)]
        intro z
        cases z
        exact ne j es h1 h3
      · rw [List.getElem?_set_ne zk] at h2 ⊢
        exact s.dis j k es fs a n h1 h2 h3
/-- a list of one's own is changed -/
theorem SR.write (s : SR K F0 H0 τ0 F H τ T δ σ) {i : Nat} {ds es : List D} {p : Addr} {us : List V} (hi : δ[i]? = some (.own ds)) (hs : σ[i]? = some (some (.ref p))) (r : Reps K F τ es us) :
    SR K F0 H0 τ0 F (upd H p (.lst us)) τ T (δ.set i (.own es)) σ := by
  obtain ⟨a, vs, h1, h2, h3, h4, h5, h6⟩ := s.own i ds hi
  rw [hs] at h1; cases h1
  have li : i < δ.length := (List.getElem?_eq_some_iff.mp hi).1
  refine ⟨⟨s.go.ff, fun b u e => ?_, fun b u e n => ?_, fun b e => ?_, s.go.nw, ?_⟩, s.tp.upd h6, s.tf, by rw [List.length_set]; exact s.len, fun j e h => ?_, fun j fs h => ?_, fun j k fs gs b n k1 k2 k3 => ?_⟩
  · rw [upd_ne (ne_of_none e h4)]; exact s.go.fh _ _ e
  · rw [upd_ne (ne_of_none e h5)]; exact s.go.hh _ _ e n
  · by_cases z : b = p
    · subst z; rw [upd_same] at e; cases e
    · rw [upd_ne z] at e; exact s.go.dom _ e
  · rcases s.go.tt with q | ⟨q0, t, q, n1, n2, n3, n4, n5, n6⟩
    · exact .inl q
    · refine .inr ⟨q0, t, q, n1, n2, n3, n4, ?_, ?_⟩
      · rw [upd_ne (Ne.symm (h6 t q).1)]; exact n5
      · rw [upd_ne (Ne.symm (h6 t q).2)]; exact n6
  · by_cases z : i = j
    · subst z; rw [List.getElem?_set_self li] at h; cases h
    · rw [List.getElem?_set_ne z] at h
      exact s.val j e h
  · by_cases z : i = j
    · subst z
      rw [List.getElem?_set_self li] at h
      cases h
      exact ⟨p, us, hs, upd_same, r, h4, h5, h6⟩
    · rw [List.getElem?_set_ne z] at h
      obtain ⟨b, ws, k1, k2, k3, k4, k5, k6⟩ := s.own j fs h
      have nb : b ≠ p := fun zz => by
        subst zz
        exact s.dis i j ds fs b z hi h hs k1
      exact ⟨b, ws, k1, by rw [upd_ne nb]; exact k2, k3, k4, k5, k6⟩
  · have own' : ∀ {m : Nat} {xs : List D}, (δ.set i (.own es))[m]? = some (.own xs) → ∃ ys, δ[m]? = some (.own ys) := fun {m xs} h => by
      by_cases z : i = m
      · subst z; exact ⟨ds, hi⟩
      · rw [List.getElem?_set_ne z] at h; exact ⟨xs, h⟩
    obtain ⟨x1, g1⟩ := own' k1
    obtain ⟨x2, g2⟩ := own' k2
    exact s.dis j k x1 x2 b n g1 g2 k3
/-- a slot is forgotten -/
theorem SR.forget (s : SR K F0 H0 τ0 F H τ T δ σ) {i : Nat} : SR K F0 H0 τ0 F H τ T (δ.set i .un) (σ.set i none) := by
  have ne : ∀ {j : Nat} {x : Sl}, (δ.set i .un)[j]? = some x → x ≠ .un → i ≠ j := fun {j x} h n z => by
    subst z
    have l : i < δ.length := by
      have := (List.getElem?_eq_some_iff.mp h).1
      rwa [List.length_set] at this
    rw [List.getElem?_set_self l] at h
    cases h
    exact n rfl
  refine ⟨s.go, s.tp, s.tf, by rw [List.length_set, List.length_set]; exact s.len, fun j e h => ?_, fun j es h => ?_, fun j k es fs a n h1 h2 h3 => ?_⟩
  · have z := ne h (by intro z; cases z)
    rw [List.getElem?_set_ne z] at h ⊢
    exact s.val j e h
  · have z := ne h (by intro z; cases z)
    rw [List.getElem?_set_ne z] at h ⊢
    exact s.own j es h
  · have zj := ne h1 (by intro z; cases z)
    have zk := ne h2 (by intro z; cases z)
    rw [List.getElem?_set_ne zj] at h1 h3
    rw [List.getElem?_set_ne zk] at h2 ⊢
    exact s.dis j k es fs a n h1 h2 h3
/-- a list of one's own becomes data -/
theorem SR.freeze (s : SR K F0 H0 τ0 F H τ T δ σ) {i : Nat} {ds : List D} (hi : δ[i]? = some (.own ds)) :
    ∃ F', SR K F0 H0 τ0 F' H τ T (δ.set i (.val (.lst ds))) σ ∧ Same F F' := by
  obtain ⟨a, vs, h1, h2, h3, h4, h5, h6⟩ := s.own i ds hi
  have li : i < δ.length := (List.getElem?_eq_some_iff.mp hi).1
  have ff : Same F (upd F a (.lst vs)) := fun b u e => by rw [upd_ne (ne_of_none e h4)]; exact e
  refine ⟨upd F a (.lst vs), ⟨⟨fun b u e => ff _ _ (s.go.ff _ _ e), fun b u e => ?_, s.go.hh, s.go.dom, fun b u e => ?_, ?_⟩, s.tp, fun t e => ?_, by rw [List.length_set]; exact s.len, fun j e h => ?_, fun j fs h => ?_, fun j k fs gs b n k1 k2 k3 => ?_⟩, ff⟩
  · by_cases z : b = a
    · subst z; rw [upd_same] at e; rw [← e]; exact h2
    · rw [upd_ne z] at e; exact s.go.fh _ _ e
  · by_cases z : b = a
    · subst z; exact .inr h5
    · rw [upd_ne z] at e; exact s.go.nw _ _ e
  · rcases s.go.tt with q | ⟨q0, t, q, n1, n2, n3, n4, n5, n6⟩
    · exact .inl q
    · refine .inr ⟨q0, t, q, n1, n2, ?_, ?_, n5, n6⟩
      · rw [upd_ne (Ne.symm (h6 t q).1)]; exact n3
      · rw [upd_ne (Ne.symm (h6 t q).2)]; exact n4
  · obtain ⟨f1, f2⟩ := s.tf t e
    exact ⟨by rw [upd_ne (Ne.symm (h6 t e).1)]; exact f1, by rw [upd_ne (Ne.symm (h6 t e).2)]; exact f2⟩
  · by_cases z : i = j
    · subst z
      rw [List.getElem?_set_self li] at h
      cases h
      refine ⟨.ref a, h1, ?_⟩
      unfold Rep
      exact ⟨a, vs, rfl, upd_same, h3.mono ff fun _ e => e⟩
    · rw [List.getElem?_set_ne z] at h
      obtain ⟨v, k1, k2⟩ := s.val j e h
      exact ⟨v, k1, k2.mono ff fun _ e => e⟩
  · by_cases z : i = j
    · subst z; rw [List.getElem?_set_self li] at h; cases h
    · rw [List.getElem?_set_ne z] at h
      obtain ⟨b, ws, k1, k2, k3, k4, k5, k6⟩ := s.own j fs h
      have nb : b ≠ a := fun zz => by
        subst zz
        exact s.dis i j ds fs b z hi h h1 k1
      exact ⟨b, ws, k1, k2, k3.mono ff fun _ e => e, by rw [upd_ne nb]; exact k4, k5, k6⟩
  · have nn : ∀ {m : Nat} {xs : List D}, (δ.set i (.val (.lst ds)))[m]? = some (.own xs) → δ[m]? = some (.own xs) := fun {m xs} h => by
      by_cases z : i = m
      · subst z; rw [List.getElem?_set_self li] at h; cases h
      · rw [List.getElem?_set_ne z] at h; exact h
    exact s.dis j k fs gs b n (nn k1) (nn k2) k3
end
end DD

/-! DD2: outcomes, the judgements, expressions, statements, loops. -/
namespace DD
open PySem PySem.Spec PyProof.Rows L2

/-- an exception: its class by the module's name, its one attribute -/
structure Exn where
  cls : Str
  arg : Option (Str × D)
inductive Out (α : Type) where
  | ok (a : α) (T : Option Tape) | exc (e : Exn) (T : Option Tape) | stuck
abbrev Mo (α : Type) := Option Tape → Out α
def Out.bind {α β : Type} : Out α → (α → Mo β) → Out β
  | .ok a T, k => k a T
  | .exc e T, _ => .exc e T
  | .stuck, _ => .stuck
def lift {α : Type} : Option α → Mo α
  | some a, T => .ok a T
  | none, _ => .stuck
/-- bools of ints: by naturals, so that the kernel reckons them without unfolding great numbers -/
def ltI : Int → Int → Bool
  | .ofNat a, .ofNat b => Nat.blt a b
  | .negSucc _, .ofNat _ => true
  | .ofNat _, .negSucc _ => false
  | .negSucc a, .negSucc b => Nat.blt b a
theorem ltI_eq (i j : Int) : ltI i j = decide (i < j) := by
  cases i with
  | ofNat a => cases j with
    | ofNat b =>
      show Nat.blt a b = _
      by_cases h : a < b
      · rw [decide_eq_true (show Int.ofNat a < Int.ofNat b by simpa using h)]; simpa [Nat.blt_eq] using h
      · rw [decide_eq_false (show ¬ Int.ofNat a < Int.ofNat b by simpa using h)]
        cases e : Nat.blt a b with
        | false => rfl
        | true => exact absurd (Nat.blt_eq.mp e) h
    | negSucc b => exact (decide_eq_false (show ¬ Int.ofNat a < Int.negSucc b by have e : Int.ofNat a = (a : Int) := rfl; omega)).symm
  | negSucc a => cases j with
    | ofNat b => exact (decide_eq_true (show Int.negSucc a < Int.ofNat b by have e : Int.ofNat b = (b : Int) := rfl; omega)).symm
    | negSucc b =>
      show Nat.blt b a = _
      by_cases h : b < a
      · rw [decide_eq_true (show Int.negSucc a < Int.negSucc b by omega)]; simpa [Nat.blt_eq] using h
      · rw [decide_eq_false (show ¬ Int.negSucc a < Int.negSucc b by omega)]
        cases e : Nat.blt b a with
        | false => rfl
        | true => exact absurd (Nat.blt_eq.mp e) h
def leI (i j : Int) : Bool := !ltI j i
theorem leI_eq (i j : Int) : leI i j = decide (i ≤ j) := by
  unfold leI
  rw [ltI_eq]
  by_cases h : i ≤ j
  · rw [decide_eq_true h, decide_eq_false (by omega)]; rfl
  · rw [decide_eq_false h, decide_eq_true (by omega)]; rfl
def asB : D → Option Bool
  | .bl b => some b
  | _ => none
def asI : D → Option Int
  | .int b => some b
  | _ => none
theorem asB_eq : ∀ {d : D} {b : Bool}, asB d = some b → d = .bl b
  | .bl b, _, h => by cases h; rfl
  | .non, _, h => by cases h
  | .int _, _, h => by cases h
  | .str _, _, h => by cases h
  | .tup _, _, h => by cases h
  | .lst _, _, h => by cases h
  | .scr _, _, h => by cases h
  | .tape, _, h => by cases h
theorem asI_eq : ∀ {d : D} {b : Int}, asI d = some b → d = .int b
  | .int b, _, h => by cases h; rfl
  | .non, _, h => by cases h
  | .bl _, _, h => by cases h
  | .str _, _, h => by cases h
  | .tup _, _, h => by cases h
  | .lst _, _, h => by cases h
  | .scr _, _, h => by cases h
  | .tape, _, h => by cases h
def scD : D → Option V
  | .non => some .non
  | .bl b => some (.bl b)
  | .int i => some (.int i)
  | .str s => some (.str s)
  | _ => none
def ExR (mg : Str → Option Value) (e : Exn) (c : Value) (dd : Option Addr) (H : Hp) : Prop :=
  ∃ C, mg e.cls = some (.ref C) ∧ c = .ref C ∧ match e.arg with
    | none => dd = none
    | some (x, d) => ∃ a v, dd = some a ∧ scD d = some v ∧ H a = some (.xd [(x, v)])
theorem rep_sc {K : Kf} {F : Hp} {τ : Option Tp} : ∀ {d : D} {v : V}, scD d = some v → Rep K F τ d v
  | .non, v, h => by cases h; unfold Rep; rfl
  | .bl _, v, h => by cases h; unfold Rep; rfl
  | .int _, v, h => by cases h; unfold Rep; rfl
  | .str _, v, h => by cases h; unfold Rep; rfl
  | .tup _, v, h => by cases h
  | .lst _, v, h => by cases h
  | .scr _, v, h => by cases h
  | .tape, v, h => by cases h
theorem sc_rep {K : Kf} {F : Hp} {τ : Option Tp} : ∀ {d : D} {v u : V}, scD d = some v → Rep K F τ d u → u = v
  | .non, v, _, h, g => by cases h; unfold Rep at g; exact g
  | .bl _, v, _, h, g => by cases h; unfold Rep at g; exact g
  | .int _, v, _, h, g => by cases h; unfold Rep at g; exact g
  | .str _, v, _, h, g => by cases h; unfold Rep at g; exact g
  | .tup _, v, _, h, _ => by cases h
  | .lst _, v, _, h, _ => by cases h
  | .scr _, v, _, h, _ => by cases h
  | .tape, v, _, h, _ => by cases h

abbrev RelT (α β : Type) := Hp → Option Tp → α → β → Prop
section
variable {α β γ ε : Type}
/-- what is wanted behind an outcome; R: how the data is laid -/
def Pst (mg : Str → Option Value) (W : WX) (R : RelT α β) (σ : L2.St) (F H : Hp) (τ : Option Tp) (Q : β → Hp → Prop) : Out α → Prop
  | .ok a T' => ∀ b F' H' τ', Go F H τ F' H' τ' → TapeOk τ' T' H' → R F' τ' a b → Q b H'
  | .exc e T' => ∀ c dd F' H' τ', Go F H τ F' H' τ' → TapeOk τ' T' H' → ExR mg e c dd F' → W c dd σ H'
  | .stuck => False
theorem Pst.shift {mg : Str → Option Value} {W : WX} {R : RelT α β} {σ : L2.St} {F H F1 H1 : Hp} {τ τ1 : Option Tp} {Q : β → Hp → Prop} (g : Go F H τ F1 H1 τ1) : ∀ {o : Out α}, Pst mg W R σ F H τ Q o → Pst mg W R σ F1 H1 τ1 Q o
  | .ok a T, h => fun b F' H' τ' g' t r => h b F' H' τ' (g.trans g') t r
  | .exc e T, h => fun c dd F' H' τ' g' t r => h c dd F' H' τ' (g.trans g') t r
  | .stuck, h => h
/-- the reading of a denotation -/
def cG (K : Kf) (mg : Str → Option Value) (W : WX) (R : RelT α β) (f : DEnv → Mo α) : L2.St → Hp → (β → Hp → Prop) → Prop := fun σ H Q =>
  ∃ F0 H0 τ0 F τ T δ, SR K F0 H0 τ0 F H τ T δ σ ∧ Pst mg W R σ F H τ Q (f δ T)
abbrev RB : RelT Bool Bool := fun _ _ a b => b = a
/-- the bind: f first, then what is wanted of g -/
theorem cG_bind {K : Kf} {mg : Str → Option Value} {W : WX} {R1 : RelT α β} {R2 : RelT γ ε} {f : DEnv → Mo α} {g : α → Mo γ} {σ : L2.St} {F0 H0 F H : Hp} {τ0 τ : Option Tp} {T : Option Tape} {δ : DEnv} {Q : ε → Hp → Prop} {Q1 : β → Hp → Prop}
    (s : SR K F0 H0 τ0 F H τ T δ σ) (h : Pst mg W R2 σ F H τ Q ((f δ T).bind g))
    (k : ∀ a b F1 H1 τ1 T1, SR K F0 H0 τ0 F1 H1 τ1 T1 δ σ → Go F H τ F1 H1 τ1 → R1 F1 τ1 a b → Pst mg W R2 σ F1 H1 τ1 Q (g a T1) → Q1 b H1) : cG K mg W R1 f σ H Q1 := by
  refine ⟨F0, H0, τ0, F, τ, T, δ, s, ?_⟩
  cases e : f δ T with
  | ok a T1 =>
    rw [e] at h
    exact fun b F1 H1 τ1 go tp r => k a b F1 H1 τ1 T1 (s.step go tp) go r (Pst.shift go h)
  | exc x T1 =>
    rw [e] at h
    exact h
  | stuck =>
    rw [e] at h
    exact h
end

/-! ### statements' outcomes -/
inductive OS where
  | nx (δ : DEnv) (T : Option Tape) | ret (d : D) (T : Option Tape) | bk (δ : DEnv) (T : Option Tape) | ct (δ : DEnv) (T : Option Tape) | exc (e : Exn) (δ : DEnv) (T : Option Tape) | stuck
abbrev SD := DEnv → Option Tape → OS
def PstS (K : Kf) (mg : Str → Option Value) (W : WX) (F0 H0 : Hp) (τ0 : Option Tp) (D : Ends) : OS → Prop
  | .nx δ T => ∀ F H τ σ, SR K F0 H0 τ0 F H τ T δ σ → D.nx σ H
  | .bk δ T => ∀ F H τ σ, SR K F0 H0 τ0 F H τ T δ σ → D.bk σ H
  | .ct δ T => ∀ F H τ σ, SR K F0 H0 τ0 F H τ T δ σ → D.ct σ H
  | .ret d T => ∀ v F H τ, Go F0 H0 τ0 F H τ → TapeOk τ T H → TapeF τ F → Rep K F τ d v → D.rt v H
  | .exc e δ T => ∀ c dd F H τ σ, SR K F0 H0 τ0 F H τ T δ σ → ExR mg e c dd F → W c dd σ H
  | .stuck => False
def cS (K : Kf) (mg : Str → Option Value) (W : WX) (g : SD) : TS := fun D σ H => ∃ F0 H0 τ0 F τ T δ, SR K F0 H0 τ0 F H τ T δ σ ∧ PstS K mg W F0 H0 τ0 D (g δ T)
/-- an expression's outcome, then a statement's -/
def Out.st {α : Type} : Out α → DEnv → (α → Option Tape → OS) → OS
  | .ok a T, _, k => k a T
  | .exc e T, δ, _ => .exc e δ T
  | .stuck, _, _ => .stuck
theorem cG_st {α β : Type} {K : Kf} {mg : Str → Option Value} {W : WX} {R1 : RelT α β} {f : DEnv → Mo α} {g : α → Option Tape → OS} {σ : L2.St} {F0 H0 F H : Hp} {τ0 τ : Option Tp} {T : Option Tape} {δ : DEnv} {D : Ends} {Q1 : β → Hp → Prop}
    (s : SR K F0 H0 τ0 F H τ T δ σ) (h : PstS K mg W F0 H0 τ0 D ((f δ T).st δ g))
    (k : ∀ a b F1 H1 τ1 T1, SR K F0 H0 τ0 F1 H1 τ1 T1 δ σ → Go F H τ F1 H1 τ1 → R1 F1 τ1 a b → PstS K mg W F0 H0 τ0 D (g a T1) → Q1 b H1) : cG K mg W R1 f σ H Q1 := by
  refine ⟨F0, H0, τ0, F, τ, T, δ, s, ?_⟩
  cases e : f δ T with
  | ok a T1 =>
    rw [e] at h
    exact fun b F1 H1 τ1 go tp r => k a b F1 H1 τ1 T1 (s.step go tp) go r h
  | exc x T1 =>
    rw [e] at h
    exact fun c dd F' H' τ' go tp ex => h c dd F' H' τ' σ (s.step go tp) ex
  | stuck =>
    rw [e] at h
    exact h

/-! ### fresh lists -/
def PstL (K : Kf) (mg : Str → Option Value) (W : WX) (σ : L2.St) (F H : Hp) (τ : Option Tp) (Q : VK) : Out (List D) → Prop
  | .ok ds T' => ∀ p vs F' H' τ', Go F H τ F' H' τ' → TapeOk τ' T' H' → H' p = some (.lst vs) → Reps K F' τ' ds vs → F' p = none → H p = none → Off τ' p → Q (.ref p) H'
  | .exc e T' => ∀ c dd F' H' τ', Go F H τ F' H' τ' → TapeOk τ' T' H' → ExR mg e c dd F' → W c dd σ H'
  | .stuck => False
def cL (K : Kf) (mg : Str → Option Value) (W : WX) (f : DEnv → Mo (List D)) : TE := fun σ H Q => ∃ F0 H0 τ0 F τ T δ, SR K F0 H0 τ0 F H τ T δ σ ∧ PstL K mg W σ F H τ Q (f δ T)

/-! ### the judgements -/
abbrev DE (X : Cx) (W : WX) (e : Expr) (f : DEnv → Mo D) : Prop := PE X e (cG X.K X.mg W (Rep X.K) f)
abbrev DA (X : Cx) (W : WX) (es : List Expr) (f : DEnv → Mo (List D)) : Prop := PA X es (cG X.K X.mg W (Reps X.K) f)
abbrev DT (X : Cx) (W : WX) (e : Expr) (f : DEnv → Mo Bool) : Prop := PT X e (cG X.K X.mg W RB f)
abbrev DW (X : Cx) (W : WX) (e : Expr) (f : DEnv → Mo Bool) : Prop := PW X e (cG X.K X.mg W RB f)
abbrev DL (X : Cx) (W : WX) (e : Expr) (f : DEnv → Mo (List D)) : Prop := PE X e (cL X.K X.mg W f)
abbrev DS (X : Cx) (W : WX) (st : Stmt) (g : SD) : Prop := PS X st (cS X.K X.mg W g)
abbrev DSs (X : Cx) (W : WX) (st : List Stmt) (g : SD) : Prop := PSs X st (cS X.K X.mg W g)
theorem pe_imp {X : Cx} {e : Expr} {t t' : TE} (h : PE X e t) (k : ∀ σ H Q, t' σ H Q → t σ H Q) : PE X e t' := ⟨fun pins s σ H Q I q => h.run pins s σ H Q I (k σ H Q q)⟩
theorem pa_imp {X : Cx} {e : List Expr} {t t' : TA} (h : PA X e t) (k : ∀ σ H Q, t' σ H Q → t σ H Q) : PA X e t' := ⟨fun pos pins s σ H Q I q => h.run pos pins s σ H Q I (k σ H Q q)⟩
theorem pt_imp {X : Cx} {e : Expr} {t t' : TT} (h : PT X e t) (k : ∀ σ H Q, t' σ H Q → t σ H Q) : PT X e t' := ⟨fun pins s σ H Q I q => h.run pins s σ H Q I (k σ H Q q)⟩
theorem pw_imp {X : Cx} {e : Expr} {t t' : TT} (h : PW X e t) (k : ∀ σ H Q, t' σ H Q → t σ H Q) : PW X e t' := ⟨fun wh pins s σ H Q I q => h.run wh pins s σ H Q I (k σ H Q q)⟩
theorem ps_imp {X : Cx} {st : Stmt} {t t' : TS} (h : PS X st t) (k : ∀ D σ H, t' D σ H → t D σ H) : PS X st t' := ⟨fun pins s σ H D I q => h.run pins s σ H D I (k D σ H q)⟩
theorem pss_imp {X : Cx} {st : List Stmt} {t t' : TS} (h : PSs X st t) (k : ∀ D σ H, t' D σ H → t D σ H) : PSs X st t' := ⟨fun pins s σ H D I q => h.run pins s σ H D I (k D σ H q)⟩

section
variable {X : Cx} {W : WX} {a b c : Expr} {f g h : DEnv → Mo D} {pos : Pos}
/-! ### names, constants -/
def slotD (δ : DEnv) (i : Nat) : Option D := match δ[i]? with
  | some (.val d) => some d
  | _ => none
theorem slotD_eq {δ : DEnv} {i : Nat} {d : D} (h : slotD δ i = some d) : δ[i]? = some (.val d) := by
  unfold slotD at h
  split at h
  · rename_i e; cases h; exact e
  · cases h
def dV (i : Nat) : DEnv → Mo D := fun δ T => lift (slotD δ i) T
def dC (d : D) : DEnv → Mo D := fun _ T => .ok d T
theorem de_v (i : Nat) {x : Str} (hN : X.N[i]? = some x := by rfl) (hv : Vis X.env.scope x := by first | exact Or.inl rfl | exact Or.inr (Or.inl rfl) | exact Or.inr (Or.inr rfl)) (hd : (x == ("__debug__" : Str)) = false := by decide)
    (hcd : (x == ("__classdict__" : Str)) = false := by decide) : DE X W (.Name x pos) (dV i) := pe_imp (pe_var hN hv hd hcd) fun σ H Q q => by
  obtain ⟨F0, H0, τ0, F, τ, T, δ, s, p⟩ := q
  unfold dV at p
  cases es : slotD δ i with
  | some d =>
    rw [es] at p
    obtain ⟨v, h1, h2⟩ := s.val i d (slotD_eq es)
    exact ⟨v, h1, p v F H τ (.refl s.go.fh) s.tp h2⟩
  | none => rw [es] at p; exact p.elim
theorem de_c {d : D} {v : V} {e : Expr} (h : PE X e (tC v)) (e1 : scD d = some v) : DE X W e (dC d) := pe_imp h fun σ H Q q => by
  obtain ⟨F0, H0, τ0, F, τ, T, δ, s, p⟩ := q
  exact p v F H τ (.refl s.go.fh) s.tp (rep_sc e1)
theorem de_int {i j} : DE X W (.Constant (.int i) j pos) (dC (.int i)) := de_c pe_int rfl
theorem de_bl {i j} : DE X W (.Constant (.bool i) j pos) (dC (.bl i)) := de_c pe_bl rfl
theorem de_str {i j} : DE X W (.Constant (.str i) j pos) (dC (.str i)) := de_c pe_str rfl
theorem de_non {j} : DE X W (.Constant .none j pos) (dC .non) := de_c pe_non rfl
/-- a module's constant -/
theorem de_glob {x : Str} {d : D} {v : V} {u : Value} (hg : Gl X x) (hm : X.mg x = some u) (r : RelV v u) (hr : ∀ F τ, Rep X.K F τ d v) (hd : (x == ("__debug__" : Str)) = false := by decide) : DE X W (.Name x pos) (dC d) :=
  pe_imp (pe_glob hg hm r hd) fun σ H Q q => by
    obtain ⟨F0, H0, τ0, F, τ, T, δ, s, p⟩ := q
    exact p v F H τ (.refl s.go.fh) s.tp (hr F τ)

/-! ### two-place operations -/
def OpD (K : Kf) (r : R2) (o : D → D → Option D) : Prop := ∀ F H τ T x y v u z (Q : VK), Same F H → TapeOk τ T H → Rep K F τ x v → Rep K F τ y u → o x y = some z →
  (∀ w F' H', Go F H τ F' H' τ → TapeOk τ T H' → Rep K F' τ z w → Q w H') → r v u H Q
def dBin (o : D → D → Option D) (f g : DEnv → Mo D) : DEnv → Mo D := fun δ T => (f δ T).bind fun x T1 => (g δ T1).bind fun y T2 => lift (o x y) T2
theorem cbin {K : Kf} {mg : Str → Option Value} {r : R2} {o : D → D → Option D} (ho : OpD K r o) {σ : L2.St} {H : Hp} {Q : VK} (q : cG K mg W (Rep K) (dBin o f g) σ H Q) : tOp r (cG K mg W (Rep K) f) (cG K mg W (Rep K) g) σ H Q := by
  obtain ⟨F0, H0, τ0, F, τ, T, δ, s, p⟩ := q
  refine cG_bind s p fun x v F1 H1 τ1 T1 s1 g1 r1 p1 => ?_
  refine cG_bind s1 p1 fun y u F2 H2 τ2 T2 s2 g2 r2 p2 => ?_
  cases e : o x y with
  | none => rw [e] at p2; exact p2.elim
  | some z =>
    rw [e] at p2
    exact ho F2 H2 τ2 T2 x y v u z Q s2.go.fh s2.tp (r1.mono g2.ff g2.tm) r2 e fun w F' H' g' t' r' => p2 w F' H' τ2 g' t' r'
theorem de_bin {op : Operator} {r : R2} {o : D → D → Option D} (hp : OpR X (binaryOp op) r) (ho : OpD X.K r o) (ha : DE X W a f) (hb : DE X W b g) : DE X W (.BinOp a op b pos) (dBin o f g) :=
  pe_imp (pe_op hp ha hb) fun σ H Q q => cbin ho q
theorem de_cmp {op : CmpOp} {r : R2} {o : D → D → Option D} (hp : OpR X (compareOp op) r) (ho : OpD X.K r o) (ha : DE X W a f) (hb : DE X W b g) (hm : behindInMarks op b = false) : DE X W (.Compare a [op] [b] pos) (dBin o f g) :=
  pe_imp (pe_cmpR hp ha hb hm) fun σ H Q q => cbin ho q
theorem de_ix {r : R2} {o : D → D → Option D} (hp : IxR X r) (ho : OpD X.K r o) (ha : DE X W a f) (hb : DE X W b g) (hs : PlainIx b) : DE X W (.Subscript a b pos) (dBin o f g) :=
  pe_imp (pe_ix hp ha hb hs) fun σ H Q q => cbin ho q
theorem OpD.or {K : Kf} {r r' : R2} {o o' : D → D → Option D} (h : OpD K r o) (h' : OpD K r' o') : OpD K (fun x y H Q => r x y H Q ∨ r' x y H Q) (fun x y => (o x y).or (o' x y)) := fun F H τ T x y v u z Q fh tp r1 r2 e k => by
  have e : (o x y).or (o' x y) = some z := e
  cases e1 : o x y with
  | some w => rw [e1] at e; exact .inl (h F H τ T x y v u z Q fh tp r1 r2 (e1.trans e) k)
  | none => rw [e1] at e; exact .inr (h' F H τ T x y v u z Q fh tp r1 r2 e k)
/-- one place -/
def dUn (o : D → Option D) (f : DEnv → Mo D) : DEnv → Mo D := fun δ T => (f δ T).bind fun x T1 => lift (o x) T1
def UnD (K : Kf) (r : V → Hp → VK → Prop) (o : D → Option D) : Prop := ∀ F H τ T x v z (Q : VK), Same F H → TapeOk τ T H → Rep K F τ x v → o x = some z → (∀ w F' H', Go F H τ F' H' τ → TapeOk τ T H' → Rep K F' τ z w → Q w H') → r v H Q
theorem cun {K : Kf} {mg : Str → Option Value} {r : V → Hp → VK → Prop} {o : D → Option D} (ho : UnD K r o) {σ : L2.St} {H : Hp} {Q : VK} (q : cG K mg W (Rep K) (dUn o f) σ H Q) : (cG K mg W (Rep K) f) σ H (fun x H1 => r x H1 Q) := by
  obtain ⟨F0, H0, τ0, F, τ, T, δ, s, p⟩ := q
  refine cG_bind s p fun x v F1 H1 τ1 T1 s1 g1 r1 p1 => ?_
  cases e : o x with
  | none => rw [e] at p1; exact p1.elim
  | some z =>
    rw [e] at p1
    exact ho F1 H1 τ1 T1 x v z Q s1.go.fh s1.tp r1 e fun w F' H' g' t' r' => p1 w F' H' τ1 g' t' r'
theorem de_un {op : UnaryOp} {r : V → Hp → VK → Prop} {o : D → Option D} (hp : UnR X (unaryOp op) r) (ho : UnD X.K r o) (ha : DE X W a f) : DE X W (.UnaryOp op a pos) (dUn o f) := pe_imp (pe_un hp ha) fun σ H Q q => cun ho q

/-! ### ints -/
def oI (C : Int → Int → Bool) (p : Int → Int → D) : D → D → Option D
  | .int i, .int j => if C i j = true then some (p i j) else none
  | _, _ => none
theorem opd_I {K : Kf} {C : Int → Int → Bool} {C' : Int → Int → Prop} {p : Int → Int → D} {q : Int → Int → V} (hc : ∀ i j, C i j = true → C' i j) (hq : ∀ i j, scD (p i j) = some (q i j)) : OpD K (rI C' q) (oI C p) := by
  intro F H τ T x y v u z Q fh tp r1 r2 e k
  unfold oI at e
  split at e
  · rename_i i j
    split at e
    · rename_i hcc
      cases e
      unfold Rep at r1 r2
      exact ⟨i, j, r1, r2, hc _ _ hcc, k _ F H (.refl fh) tp (rep_sc (hq i j))⟩
    · cases e
  · cases e
def oI0 (p : Int → Int → D) : D → D → Option D
  | .int i, .int j => some (p i j)
  | _, _ => none
theorem opd_I0 {K : Kf} {p : Int → Int → D} {q : Int → Int → V} (hq : ∀ i j, scD (p i j) = some (q i j)) : OpD K (rI0 q) (oI0 p) := by
  intro F H τ T x y v u z Q fh tp r1 r2 e k
  unfold oI0 at e
  split at e
  · rename_i i j
    cases e
    unfold Rep at r1 r2
    exact ⟨i, j, r1, r2, k _ F H (.refl fh) tp (rep_sc (hq i j))⟩
  · cases e

/-! ### tests -/
def dTv (f : DEnv → Mo D) : DEnv → Mo Bool := fun δ T => (f δ T).bind fun x T1 => lift (asB x) T1
theorem cTv {K : Kf} {mg : Str → Option Value} {σ : L2.St} {H : Hp} {Q : Bool → Hp → Prop} (q : cG K mg W RB (dTv f) σ H Q) : tTest (cG K mg W (Rep K) f) σ H Q := by
  obtain ⟨F0, H0, τ0, F, τ, T, δ, s, p⟩ := q
  refine cG_bind s p fun x v F1 H1 τ1 T1 s1 g1 r1 p1 => ?_
  cases eb : asB x with
  | some b =>
    rw [eb] at p1
    rw [asB_eq eb] at r1
    unfold Rep at r1
    exact ⟨b, r1, p1 b F1 H1 τ1 (.refl s1.go.fh) s1.tp rfl⟩
  | none => rw [eb] at p1; exact p1.elim
theorem dt_cmp {op : CmpOp} {r : R2} {o : D → D → Option D} (hp : OpR X (compareOp op) r) (ho : OpD X.K r o) (ha : DE X W a f) (hb : DE X W b g) (hm : behindInMarks op b = false) : DT X W (.Compare a [op] [b] pos) (dTv (dBin o f g)) :=
  pt_imp (pt_cmpR hp ha hb hm) fun σ H Q q => by
    obtain ⟨F0, H0, τ0, F, τ, T, δ, s, p⟩ := q
    refine cbin (mg := X.mg) (W := W) ho ⟨F0, H0, τ0, F, τ, T, δ, s, ?_⟩
    obtain ⟨F0', H0', τ0', F', τ', T', δ', s', p'⟩ := cTv (K := X.K) (mg := X.mg) (W := W) (f := dBin o f g) ⟨F0, H0, τ0, F, τ, T, δ, s, p⟩
    unfold dTv at p
    cases e : dBin o f g δ T with
    | ok x T1 =>
      rw [e] at p
      have p : Pst X.mg W RB σ F H τ Q (lift (asB x) T1) := p
      intro v F1 H1 τ1 g1 t1 r1
      cases eb : asB x with
      | some k =>
        rw [eb] at p
        rw [asB_eq eb] at r1
        unfold Rep at r1
        exact ⟨k, r1, p k F1 H1 τ1 g1 t1 rfl⟩
      | none => rw [eb] at p; exact p.elim
    | exc x T1 => rw [e] at p; exact p
    | stuck => rw [e] at p; exact p
theorem dt_val {e : Expr} (h : DE X W e f) (he : ∀ whole, isTrue e X.env whole = (do let v ← whole; standAt e.pos; holding [v] (truthy v)) := by intro _; rfl) : DT X W e (dTv f) :=
  pt_imp (pt_val h he) fun σ H Q q => cTv q
def dAnd (t u : DEnv → Mo Bool) : DEnv → Mo Bool := fun δ T => (t δ T).bind fun b T1 => if b = true then u δ T1 else .ok false T1
def dOr (t u : DEnv → Mo Bool) : DEnv → Mo Bool := fun δ T => (t δ T).bind fun b T1 => if b = true then .ok true T1 else u δ T1
def dNot (t : DEnv → Mo Bool) : DEnv → Mo Bool := fun δ T => (t δ T).bind fun b T1 => .ok (!b) T1
variable {t u : DEnv → Mo Bool} {rest : List Expr}
theorem dt_w (h : DW X W a t) : DT X W a t := h.pt
theorem dw_and1 (ha : DT X W a t) : DW X W (.BoolOp .And [a] pos) t := pw_and1 ha
theorem dw_or1 (ha : DT X W a t) : DW X W (.BoolOp .Or [a] pos) t := pw_or1 ha
theorem dw_and (ha : DT X W a t) (hb : DW X W (.BoolOp .And (b :: rest) pos) u) : DW X W (.BoolOp .And (a :: b :: rest) pos) (dAnd t u) := pw_imp (pw_and ha hb) fun σ H Q q => by
  obtain ⟨F0, H0, τ0, F, τ, T, δ, s, p⟩ := q
  refine cG_bind s p fun x v F1 H1 τ1 T1 s1 g1 r1 p1 => ?_
  cases r1
  cases x with
  | true =>
    show cG X.K X.mg W RB u σ H1 Q
    exact ⟨F0, H0, τ0, F1, τ1, T1, δ, s1, p1⟩
  | false => exact p1 false F1 H1 τ1 (.refl s1.go.fh) s1.tp rfl
theorem dw_or (ha : DT X W a t) (hb : DW X W (.BoolOp .Or (b :: rest) pos) u) : DW X W (.BoolOp .Or (a :: b :: rest) pos) (dOr t u) := pw_imp (pw_or ha hb) fun σ H Q q => by
  obtain ⟨F0, H0, τ0, F, τ, T, δ, s, p⟩ := q
  refine cG_bind s p fun x v F1 H1 τ1 T1 s1 g1 r1 p1 => ?_
  cases r1
  cases x with
  | false =>
    show cG X.K X.mg W RB u σ H1 Q
    exact ⟨F0, H0, τ0, F1, τ1, T1, δ, s1, p1⟩
  | true => exact p1 true F1 H1 τ1 (.refl s1.go.fh) s1.tp rfl
theorem dt_not (ha : DT X W a t) : DT X W (.UnaryOp .Not a pos) (dNot t) := pt_imp (pt_not ha) fun σ H Q q => by
  obtain ⟨F0, H0, τ0, F, τ, T, δ, s, p⟩ := q
  refine cG_bind s p fun x v F1 H1 τ1 T1 s1 g1 r1 p1 => ?_
  cases r1
  exact p1 _ F1 H1 τ1 (.refl s1.go.fh) s1.tp rfl
/-! .. as values -/
def dAndV (f g : DEnv → Mo D) : DEnv → Mo D := fun δ T => (f δ T).bind fun x T1 => (lift (asB x) T1).bind fun b T2 => if b = true then g δ T2 else .ok (.bl false) T2
def dOrV (f g : DEnv → Mo D) : DEnv → Mo D := fun δ T => (f δ T).bind fun x T1 => (lift (asB x) T1).bind fun b T2 => if b = true then .ok (.bl true) T2 else g δ T2
def oNotB : D → Option D := fun x => (asB x).map fun b => .bl (!b)
def dNotV (f : DEnv → Mo D) : DEnv → Mo D := dUn oNotB f
theorem de_one {op} (h : DE X W a f) : DE X W (.BoolOp op [a] pos) f := pe_one h
theorem de_and (ha : DE X W a f) (hb : DE X W (.BoolOp .And (b :: rest) pos) g) : DE X W (.BoolOp .And (a :: b :: rest) pos) (dAndV f g) := pe_imp (pe_and ha hb) fun σ H Q q => by
  obtain ⟨F0, H0, τ0, F, τ, T, δ, s, p⟩ := q
  refine cG_bind s p fun x v F1 H1 τ1 T1 s1 g1 r1 p1 => ?_
  cases eb : asB x with
  | none => rw [eb] at p1; exact p1.elim
  | some b =>
    rw [eb] at p1
    have p1 : Pst X.mg W (Rep X.K) σ F1 H1 τ1 Q (if b = true then g δ T1 else .ok (.bl false) T1) := p1
    rw [asB_eq eb] at r1
    have r2 := r1
    unfold Rep at r2
    refine ⟨b, r2, ?_⟩
    cases b with
    | true =>
      show cG X.K X.mg W (Rep X.K) g σ H1 Q
      exact ⟨F0, H0, τ0, F1, τ1, T1, δ, s1, p1⟩
    | false =>
      show Q (.bl false) H1
      exact p1 _ F1 H1 τ1 (.refl s1.go.fh) s1.tp (by rw [r2] at r1; exact r1)
theorem de_or (ha : DE X W a f) (hb : DE X W (.BoolOp .Or (b :: rest) pos) g) : DE X W (.BoolOp .Or (a :: b :: rest) pos) (dOrV f g) := pe_imp (pe_or ha hb) fun σ H Q q => by
  obtain ⟨F0, H0, τ0, F, τ, T, δ, s, p⟩ := q
  refine cG_bind s p fun x v F1 H1 τ1 T1 s1 g1 r1 p1 => ?_
  cases eb : asB x with
  | none => rw [eb] at p1; exact p1.elim
  | some b =>
    rw [eb] at p1
    have p1 : Pst X.mg W (Rep X.K) σ F1 H1 τ1 Q (if b = true then .ok (.bl true) T1 else g δ T1) := p1
    rw [asB_eq eb] at r1
    have r2 := r1
    unfold Rep at r2
    refine ⟨b, r2, ?_⟩
    cases b with
    | false =>
      show cG X.K X.mg W (Rep X.K) g σ H1 Q
      exact ⟨F0, H0, τ0, F1, τ1, T1, δ, s1, p1⟩
    | true =>
      show Q (.bl true) H1
      exact p1 _ F1 H1 τ1 (.refl s1.go.fh) s1.tp (by rw [r2] at r1; exact r1)
theorem de_not (ha : DE X W a f) : DE X W (.UnaryOp .Not a pos) (dNotV f) := pe_imp (pe_not ha) fun σ H Q q => by
  refine cun (r := fun x H1 Q => ∃ c, x = .bl c ∧ Q (.bl (!c)) H1) (fun F H τ T x v z Q fh tp r1 e k => ?_) q
  unfold oNotB at e
  cases eb : asB x with
  | none => rw [eb] at e; cases e
  | some b =>
    rw [eb] at e
    cases e
    rw [asB_eq eb] at r1
    unfold Rep at r1
    exact ⟨_, r1, k _ F H (.refl fh) tp (by unfold Rep; rfl)⟩
/-- a if t else b -/
def dIf (t : DEnv → Mo Bool) (f g : DEnv → Mo D) : DEnv → Mo D := fun δ T => (t δ T).bind fun b T1 => if b = true then f δ T1 else g δ T1
theorem de_if {e : Expr} (ht : DT X W e t) (ha : DE X W a f) (hb : DE X W b g) : DE X W (.IfExp e a b pos) (dIf t f g) := pe_imp (pe_ifExp ht ha hb) fun σ H Q q => by
  obtain ⟨F0, H0, τ0, F, τ, T, δ, s, p⟩ := q
  refine cG_bind s p fun x v F1 H1 τ1 T1 s1 g1 r1 p1 => ?_
  cases r1
  cases x with
  | true =>
    show cG X.K X.mg W (Rep X.K) f σ H1 Q
    exact ⟨F0, H0, τ0, F1, τ1, T1, δ, s1, p1⟩
  | false =>
    show cG X.K X.mg W (Rep X.K) g σ H1 Q
    exact ⟨F0, H0, τ0, F1, τ1, T1, δ, s1, p1⟩

/-! ### argument lists, displays -/
variable {fa : DEnv → Mo (List D)} {es : List Expr}
def aN : DEnv → Mo (List D) := fun _ T => .ok [] T
def aC (f : DEnv → Mo D) (r : DEnv → Mo (List D)) : DEnv → Mo (List D) := fun δ T => (f δ T).bind fun x T1 => (r δ T1).bind fun xs T2 => .ok (x :: xs) T2
theorem da_nil : DA X W [] aN := pa_imp pa_nil fun σ H Q q => by
  obtain ⟨F0, H0, τ0, F, τ, T, δ, s, p⟩ := q
  exact p [] F H τ (.refl s.go.fh) s.tp .nil
theorem da_cons (ha : DE X W a f) (hr : DA X W es fa) (hs : starEach (a :: es) X.env = (false, eval a X.env) :: starEach es X.env := by rfl) : DA X W (a :: es) (aC f fa) := pa_imp (pa_cons ha hr hs) fun σ H Q q => by
  obtain ⟨F0, H0, τ0, F, τ, T, δ, s, p⟩ := q
  refine cG_bind s p fun x v F1 H1 τ1 T1 s1 g1 r1 p1 => ?_
  refine cG_bind s1 p1 fun xs vs F2 H2 τ2 T2 s2 g2 r2 p2 => ?_
  exact p2 (v :: vs) F2 H2 τ2 (.refl s2.go.fh) s2.tp (.cons (r1.mono g2.ff g2.tm) r2)
def line : Nat := 16000000
theorem line_lt {n : Nat} (h : n < line) : n < sizeLine := Nat.lt_of_lt_of_le h (by rw [sizeLine_eq]; decide)
def dTup (r : DEnv → Mo (List D)) : DEnv → Mo D := fun δ T => (r δ T).bind fun xs T1 => if xs.length < line then .ok (.tup xs) T1 else .stuck
theorem de_tup {x1} (h : DA X W es fa) : DE X W (.Tuple es x1 pos) (dTup fa) := pe_imp (pe_tup h) fun σ H Q q => by
  obtain ⟨F0, H0, τ0, F, τ, T, δ, s, p⟩ := q
  refine cG_bind s p fun xs vs F1 H1 τ1 T1 s1 g1 r1 p1 => ?_
  split at p1
  · rename_i hl
    refine ⟨Nat.le_of_lt (by rw [r1.len]; exact line_lt hl), fun q hq => ?_⟩
    have g2 := Go.new (τ := τ1) (o := .tup vs) s1.go.fh hq
    refine p1 _ _ _ τ1 g2 (s1.tp.upd (s1.tp.off hq)) ?_
    unfold Rep
    exact ⟨q, vs, rfl, .inl (.inl upd_same), r1.mono g2.ff fun _ e => e⟩
  · exact p1.elim
def lLst (r : DEnv → Mo (List D)) : DEnv → Mo (List D) := fun δ T => (r δ T).bind fun xs T1 => if xs.length < line then .ok xs T1 else .stuck
theorem cG_bindL {α β : Type} {K : Kf} {mg : Str → Option Value} {R1 : RelT α β} {f : DEnv → Mo α} {g : α → Mo (List D)} {σ : L2.St} {F0 H0 F H : Hp} {τ0 τ : Option Tp} {T : Option Tape} {δ : DEnv} {Q : VK} {Q1 : β → Hp → Prop}
    (s : SR K F0 H0 τ0 F H τ T δ σ) (h : PstL K mg W σ F H τ Q ((f δ T).bind g))
    (k : ∀ a b F1 H1 τ1 T1, SR K F0 H0 τ0 F1 H1 τ1 T1 δ σ → Go F H τ F1 H1 τ1 → R1 F1 τ1 a b → PstL K mg W σ F1 H1 τ1 Q (g a T1) → Q1 b H1) : cG K mg W R1 f σ H Q1 := by
  refine ⟨F0, H0, τ0, F, τ, T, δ, s, ?_⟩
  cases e : f δ T with
  | ok a T1 =>
    rw [e] at h
    refine fun b F1 H1 τ1 go tp r => k a b F1 H1 τ1 T1 (s.step go tp) go r ?_
    have h' : PstL K mg W σ F H τ Q (g a T1) := h
    revert h'
    cases g a T1 with
    | ok ds T2 => exact fun h' p vs F' H' τ' g' t' a1 a2 a3 a4 a5 => h' p vs F' H' τ' (go.trans g') t' a1 a2 a3 (go.dom _ a4) a5
    | exc e T2 => exact fun h' c dd F' H' τ' g' t' a1 => h' c dd F' H' τ' (go.trans g') t' a1
    | stuck => exact fun h' => h'
  | exc x T1 =>
    rw [e] at h
    exact h
  | stuck =>
    rw [e] at h
    exact h
theorem dl_lst (h : DA X W es fa) : DL X W (.List es pos) (lLst fa) := pe_imp (pe_lst h) fun σ H Q q => by
  obtain ⟨F0, H0, τ0, F, τ, T, δ, s, p⟩ := q
  refine cG_bindL s p fun xs vs F1 H1 τ1 T1 s1 g1 r1 p1 => ?_
  split at p1
  · rename_i hl
    refine ⟨Nat.le_of_lt (by rw [r1.len]; exact line_lt hl), fun q hq => ?_⟩
    exact p1 q vs F1 _ τ1 (Go.newH s1.go.fh hq) (s1.tp.upd (s1.tp.off hq)) upd_same r1 (s1.go.fh.free hq) hq (s1.tp.off hq)
  · exact p1.elim
/-- a fresh list as data -/
def dL (f : DEnv → Mo (List D)) : DEnv → Mo D := fun δ T => (f δ T).bind fun xs T1 => .ok (.lst xs) T1
theorem de_L (h : DL X W a fa) : DE X W a (dL fa) := pe_imp h fun σ H Q q => by
  obtain ⟨F0, H0, τ0, F, τ, T, δ, s, p⟩ := q
  refine ⟨F0, H0, τ0, F, τ, T, δ, s, ?_⟩
  unfold dL at p
  cases e : fa δ T with
  | ok xs T1 =>
    rw [e] at p
    intro q vs F' H' τ' g t h1 h2 h3 h4 h5
    have ff : Same F' (upd F' q (.lst vs)) := fun b u e => by rw [upd_ne (ne_of_none e h3)]; exact e
    refine p (.ref q) (upd F' q (.lst vs)) H' τ' ⟨fun b u e => ff _ _ (g.ff _ _ e), fun b u e => ?_, g.hh, g.dom, fun b u e => ?_, ?_⟩ t ?_
    · by_cases z : b = q
      · subst z; rw [upd_same] at e; rw [← e]; exact h1
      · rw [upd_ne z] at e; exact g.fh _ _ e
    · by_cases z : b = q
      · subst z; exact .inr h4
      · rw [upd_ne z] at e; exact g.nw _ _ e
    · rcases g.tt with z | ⟨z0, tt, z, n1, n2, n3, n4, n5⟩
      · exact .inl z
      · exact .inr ⟨z0, tt, z, n1, n2, by rw [upd_ne (Ne.symm (h5 tt z).1)]; exact n3, by rw [upd_ne (Ne.symm (h5 tt z).2)]; exact n4, n5⟩
    · unfold Rep
      exact ⟨q, vs, rfl, upd_same, h2.mono ff fun _ e => e⟩
  | exc x T1 => rw [e] at p; exact p
  | stuck => rw [e] at p; exact p
end
end DD

/-! DD3: statements, loops, targets, what is walked, comprehensions. -/
namespace DD
open PySem PySem.Spec PyProof.Rows L2
section
variable {X : Cx} {W : WX} {a b c : Expr} {f g h : DEnv → Mo D} {pos : Pos} {st : Stmt} {sts : List Stmt} {g1 g2 : SD}
/-! ### blocks -/
def OS.seq : OS → SD → OS
  | .nx δ T, k => k δ T
  | .ret d T, _ => .ret d T
  | .bk δ T, _ => .bk δ T
  | .ct δ T, _ => .ct δ T
  | .exc e δ T, _ => .exc e δ T
  | .stuck, _ => .stuck
/-- the end of a loop's turn: k is the rest of the loop -/
def OS.turn : OS → SD → OS
  | .nx δ T, k => k δ T
  | .ct δ T, k => k δ T
  | .bk δ T, _ => .nx δ T
  | .ret d T, _ => .ret d T
  | .exc e δ T, _ => .exc e δ T
  | .stuck, _ => .stuck
def sSeq (g1 g2 : SD) : SD := fun δ T => (g1 δ T).seq g2
def sNext : SD := fun δ T => .nx δ T
theorem pst_seq {K : Kf} {mg : Str → Option Value} {F0 H0 : Hp} {τ0 : Option Tp} {D : Ends} {δ : DEnv} {T : Option Tape} (h : PstS K mg W F0 H0 τ0 D (sSeq g1 g2 δ T)) : PstS K mg W F0 H0 τ0 { D with nx := cS K mg W g2 D } (g1 δ T) := by
  unfold sSeq at h
  cases e : g1 δ T with
  | nx δ' T' =>
    rw [e] at h
    exact fun F H τ σ s => ⟨F0, H0, τ0, F, τ, T', δ', s, h⟩
  | ret d T' => rw [e] at h; exact h
  | bk δ' T' => rw [e] at h; exact h
  | ct δ' T' => rw [e] at h; exact h
  | exc x δ' T' => rw [e] at h; exact h
  | stuck => rw [e] at h; exact h
theorem dss_nil : DSs X W [] sNext := pss_imp pss_nil fun D σ H q => by
  obtain ⟨F0, H0, τ0, F, τ, T, δ, s, p⟩ := q
  exact p F H τ σ s
theorem dss_cons (h1 : DS X W st g1) (h2 : DSs X W sts g2) : DSs X W (st :: sts) (sSeq g1 g2) := pss_imp (pss_cons h1 h2) fun D σ H q => by
  obtain ⟨F0, H0, τ0, F, τ, T, δ, s, p⟩ := q
  exact ⟨F0, H0, τ0, F, τ, T, δ, s, pst_seq p⟩
theorem dss_one (h1 : DS X W st g1) : DSs X W [st] g1 := pss_one h1
def sBreak : SD := fun δ T => .bk δ T
def sCont : SD := fun δ T => .ct δ T
theorem ds_pass : DS X W (.Pass pos) sNext := ps_imp ps_pass fun D σ H q => by
  obtain ⟨F0, H0, τ0, F, τ, T, δ, s, p⟩ := q
  exact p F H τ σ s
theorem ds_break : DS X W (.Break pos) sBreak := ps_imp ps_break fun D σ H q => by
  obtain ⟨F0, H0, τ0, F, τ, T, δ, s, p⟩ := q
  exact p F H τ σ s
theorem ds_continue : DS X W (.Continue pos) sCont := ps_imp ps_continue fun D σ H q => by
  obtain ⟨F0, H0, τ0, F, τ, T, δ, s, p⟩ := q
  exact p F H τ σ s
def sDrop (f : DEnv → Mo D) : SD := fun δ T => (f δ T).st δ fun _ T1 => .nx δ T1
theorem ds_expr (he : DE X W a f) (hs : swapsWith a none pos.line X.env = pure false := by rfl) : DS X W (.Expr a pos) (sDrop f) := ps_imp (ps_expr he hs) fun D σ H q => by
  obtain ⟨F0, H0, τ0, F, τ, T, δ, s, p⟩ := q
  exact cG_st s p fun x v F1 H1 τ1 T1 s1 g1 r1 p1 => p1 F1 H1 τ1 σ s1
def sRet (f : DEnv → Mo D) : SD := fun δ T => (f δ T).st δ fun d T1 => .ret d T1
theorem ds_ret (he : DE X W a f) : DS X W (.Return (some a) pos) (sRet f) := ps_imp (ps_ret he) fun D σ H q => by
  obtain ⟨F0, H0, τ0, F, τ, T, δ, s, p⟩ := q
  exact cG_st s p fun x v F1 H1 τ1 T1 s1 g1 r1 p1 => p1 v F1 H1 τ1 s1.go s1.tp s1.tf r1
def sRetN : SD := fun δ T => .ret .non T
theorem ds_retN : DS X W (.Return none pos) sRetN := ps_imp ps_retN fun D σ H q => by
  obtain ⟨F0, H0, τ0, F, τ, T, δ, s, p⟩ := q
  exact p .non F H τ s.go s.tp s.tf (by unfold Rep; rfl)
def sIf (t : DEnv → Mo Bool) (g1 g2 : SD) : SD := fun δ T => (t δ T).st δ fun b T1 => if b = true then g1 δ T1 else g2 δ T1
theorem ds_if {t : DEnv → Mo Bool} {ps qs : List Stmt} (hc : DT X W c t) (ha : DSs X W ps g1) (hb : DSs X W qs g2) : DS X W (.If c ps qs pos) (sIf t g1 g2) := ps_imp (ps_if hc ha hb) fun D σ H q => by
  obtain ⟨F0, H0, τ0, F, τ, T, δ, s, p⟩ := q
  refine cG_st s p fun x v F1 H1 τ1 T1 s1 go r1 p1 => ?_
  cases r1
  cases x with
  | true => exact ⟨F0, H0, τ0, F1, τ1, T1, δ, s1, p1⟩
  | false => exact ⟨F0, H0, τ0, F1, τ1, T1, δ, s1, p1⟩

/-! ### name = value -/
def sSet (i : Nat) (f : DEnv → Mo D) : SD := fun δ T => (f δ T).st δ fun d T1 => .nx (δ.set i (.val d)) T1
theorem ds_set (i : Nat) {x : Str} {pos' : Pos} (hN : X.N.Nodup) (he : DE X W a f) (hi : X.N[i]? = some x := by rfl) (hx : Loc X.env.scope x := by first | exact Or.inl rfl | exact Or.inr rfl) (hs : swapsWith a (some (.Name x pos')) pos.line X.env = pure false := by rfl)
    (hf : X.fn x = true ∨ X.env.scope.names.lookup x = some .local := by first | exact .inl rfl | exact .inr rfl | assumption) : DS X W (.Assign [.Name x pos'] a pos) (sSet i f) := ps_imp (ps_set hN hi hx he hs hf) fun D σ H q => by
  obtain ⟨F0, H0, τ0, F, τ, T, δ, s, p⟩ := q
  exact cG_st s p fun x v F1 H1 τ1 T1 s1 go r1 p1 => p1 F1 H1 τ1 _ (s1.set r1)
/-- a fresh list of one's own -/
def sSetL (i : Nat) (f : DEnv → Mo (List D)) : SD := fun δ T => (f δ T).st δ fun ds T1 => .nx (δ.set i (.own ds)) T1
theorem cL_set {K : Kf} {mg : Str → Option Value} {i : Nat} {fl : DEnv → Mo (List D)} {D : Ends} {σ : L2.St} {H : Hp} (q : cS K mg W (sSetL i fl) D σ H) : tAsg (cL K mg W fl) (gName i) D σ H := by
  obtain ⟨F0, H0, τ0, F, τ, T, δ, s, p⟩ := q
  refine ⟨F0, H0, τ0, F, τ, T, δ, s, ?_⟩
  unfold sSetL at p
  cases e : fl δ T with
  | ok ds T1 =>
    rw [e] at p
    intro q vs F' H' τ' go tp h1 h2 h3 h4 h5
    refine p F' H' τ' _ ((s.step go tp).setOwn h1 h2 h3 ?_ h5 fun j es ej z => ?_)
    · exact s.go.dom _ h4
    · obtain ⟨a, us, k1, k2, _⟩ := s.own j es ej
      rw [k1] at z
      cases z
      rw [h4] at k2; cases k2
  | exc x T1 =>
    rw [e] at p
    exact fun c dd F' H' τ' go tp ex => p c dd F' H' τ' σ (s.step go tp) ex
  | stuck =>
    rw [e] at p
    exact p
theorem ds_setL (i : Nat) {fl : DEnv → Mo (List D)} {x : Str} {pos' : Pos} (hN : X.N.Nodup) (he : DL X W a fl) (hi : X.N[i]? = some x := by rfl) (hx : Loc X.env.scope x := by first | exact Or.inl rfl | exact Or.inr rfl) (hs : swapsWith a (some (.Name x pos')) pos.line X.env = pure false := by rfl)
    (hf : X.fn x = true ∨ X.env.scope.names.lookup x = some .local := by first | exact .inl rfl | exact .inr rfl | assumption) : DS X W (.Assign [.Name x pos'] a pos) (sSetL i fl) := ps_imp (ps_set hN hi hx he hs hf) fun D σ H q => cL_set q
/-- return a list of one's own -/
def sRetOwn (i : Nat) : SD := fun δ T => match δ[i]? with
  | some (.own ds) => .ret (.lst ds) T
  | some (.val d) => .ret d T
  | _ => .stuck
theorem ds_retOwn (i : Nat) {x : Str} {p2 : Pos} (hN : X.N[i]? = some x := by rfl) (hv : Vis X.env.scope x := by first | exact Or.inl rfl | exact Or.inr (Or.inl rfl) | exact Or.inr (Or.inr rfl)) (hd : (x == ("__debug__" : Str)) = false := by decide)
    (hcd : (x == ("__classdict__" : Str)) = false := by decide) : DS X W (.Return (some (.Name x p2)) pos) (sRetOwn i) := ps_imp (ps_ret (pe_var hN hv hd hcd)) fun D σ H q => by
  obtain ⟨F0, H0, τ0, F, τ, T, δ, s, p⟩ := q
  unfold sRetOwn at p
  split at p
  · rename_i ds e
    obtain ⟨F', s', _⟩ := s.freeze e
    have li : i < δ.length := (List.getElem?_eq_some_iff.mp e).1
    obtain ⟨v, h1, h2⟩ := s'.val i _ (List.getElem?_set_self li)
    exact ⟨v, h1, p v F' H τ s'.go s'.tp s'.tf h2⟩
  · rename_i d e
    obtain ⟨v, h1, h2⟩ := s.val i d e
    exact ⟨v, h1, p v F H τ s.go s.tp s.tf h2⟩
  · exact p.elim
/-- from here on the list in slot i is data -/
def frz (i : Nat) (δ : DEnv) : DEnv := match δ[i]? with
  | some (.own ds) => δ.set i (.val (.lst ds))
  | _ => δ
def sFrz (i : Nat) (g : SD) : SD := fun δ T => g (frz i δ) T
theorem ds_frz (i : Nat) (h : DS X W st g1) : DS X W st (sFrz i g1) := ps_imp h fun D σ H q => by
  obtain ⟨F0, H0, τ0, F, τ, T, δ, s, p⟩ := q
  unfold sFrz frz at p
  split at p
  · rename_i ds e
    obtain ⟨F', s', _⟩ := s.freeze e
    exact ⟨F0, H0, τ0, F', τ, T, _, s', p⟩
  · exact ⟨F0, H0, τ0, F, τ, T, δ, s, p⟩
theorem dss_frz (i : Nat) (h : DSs X W sts g1) : DSs X W sts (sFrz i g1) := pss_imp h fun D σ H q => by
  obtain ⟨F0, H0, τ0, F, τ, T, δ, s, p⟩ := q
  unfold sFrz frz at p
  split at p
  · rename_i ds e
    obtain ⟨F', s', _⟩ := s.freeze e
    exact ⟨F0, H0, τ0, F', τ, T, _, s', p⟩
  · exact ⟨F0, H0, τ0, F, τ, T, δ, s, p⟩

/-! ### targets -/
abbrev TgD := D → DEnv → Option DEnv
abbrev TgsD := List D → DEnv → Option DEnv
def cT (K : Kf) (t : TgD) (vs : List Nat) : TG := fun v σ H Q => ∃ F0 H0 τ0 F τ T δ d δ', SR K F0 H0 τ0 F H τ T δ σ ∧ Rep K F τ d v ∧ t d δ = some δ' ∧
  ∀ σ', SR K F0 H0 τ0 F H τ T δ' σ' → σ'.length = σ.length → (∀ j, j ∉ vs → σ'[j]? = σ[j]?) → Q σ' H
def cTs (K : Kf) (t : TgsD) (vs : List Nat) : TGs := fun us σ H Q => ∃ F0 H0 τ0 F τ T δ ds δ', SR K F0 H0 τ0 F H τ T δ σ ∧ Reps K F τ ds us ∧ t ds δ = some δ' ∧
  ∀ σ', SR K F0 H0 τ0 F H τ T δ' σ' → σ'.length = σ.length → (∀ j, j ∉ vs → σ'[j]? = σ[j]?) → Q σ' H
abbrev DG (X : Cx) (tg : Expr) (t : TgD) (vs : List Nat) : Prop := PG X tg (cT X.K t vs)
abbrev DGs (X : Cx) (tg : List Expr) (t : TgsD) (vs : List Nat) : Prop := PGs X tg (cTs X.K t vs)
theorem pg_imp {tg : Expr} {t t' : TG} (h : PG X tg t) (k : ∀ v σ H Q, t' v σ H Q → t v σ H Q) : PG X tg t' := ⟨fun pins s σ H v u Q I r q => h.run pins s σ H v u Q I r (k v σ H Q q)⟩
theorem pgs_imp {tg : List Expr} {t t' : TGs} (h : PGs X tg t) (k : ∀ v σ H Q, t' v σ H Q → t v σ H Q) : PGs X tg t' := ⟨fun pins s σ H v u Q I r q => h.run pins s σ H v u Q I r (k v σ H Q q)⟩
def tgN (i : Nat) : TgD := fun d δ => some (δ.set i (.val d))
theorem dg_name (i : Nat) {x : Str} (hN : X.N.Nodup) (hi : X.N[i]? = some x := by rfl) (hx : Loc X.env.scope x := by first | exact Or.inl rfl | exact Or.inr rfl) (hf : X.fn x = true ∨ X.env.scope.names.lookup x = some .local := by first | exact .inl rfl | exact .inr rfl | assumption) :
    DG X (.Name x pos) (tgN i) [i] := pg_imp (pg_name hN hi hx hf) fun v σ H Q q => by
  obtain ⟨F0, H0, τ0, F, τ, T, δ, d, δ', s, r, e, k⟩ := q
  cases e
  refine k _ (s.set r) (List.length_set) fun j hj => ?_
  rw [List.getElem?_set_ne]
  intro z
  exact hj (by rw [z]; exact List.mem_singleton_self _)
def tgNil : TgsD := fun ds δ => match ds with
  | [] => some δ
  | _ => none
def tgCons (t : TgD) (u : TgsD) : TgsD := fun ds δ => match ds with
  | d :: r => (t d δ).bind fun δ' => u r δ'
  | [] => none
theorem dgs_nil : DGs X [] tgNil [] := pgs_imp pgs_nil fun v σ H Q q => by
  obtain ⟨F0, H0, τ0, F, τ, T, δ, ds, δ', s, r, e, k⟩ := q
  unfold tgNil at e
  split at e
  · cases e
    unfold Reps at r
    exact ⟨r, k σ s rfl fun _ _ => rfl⟩
  · cases e
theorem dgs_cons {e : Expr} {es : List Expr} {t : TgD} {u : TgsD} {vs ws : List Nat} (h1 : DG X e t vs) (h2 : DGs X es u ws) (hs : (assignEach (e :: es) X.env).map (·.2) = assign e X.env :: (assignEach es X.env).map (·.2) := by rfl) :
    DGs X (e :: es) (tgCons t u) (vs ++ ws) := pgs_imp (pgs_cons h1 h2 hs) fun v σ H Q q => by
  obtain ⟨F0, H0, τ0, F, τ, T, δ, ds, δ', s, r, e, k⟩ := q
  unfold tgCons at e
  split at e
  · rename_i d dr
    unfold Reps at r
    obtain ⟨x, xs, e1, r1, r2⟩ := r
    cases e2 : t d δ with
    | none => rw [e2] at e; cases e
    | some δ1 =>
      rw [e2] at e
      refine ⟨x, xs, e1, F0, H0, τ0, F, τ, T, δ, d, δ1, s, r1, e2, fun σ1 s1 l1 k1 => ?_⟩
      refine ⟨F0, H0, τ0, F, τ, T, δ1, dr, δ', s1, r2, e, fun σ2 s2 l2 k2 => k σ2 s2 (l2.trans l1) fun j hj => ?_⟩
      rw [k2 j fun z => hj (List.mem_append_right _ z), k1 j fun z => hj (List.mem_append_left _ z)]
  · cases e
def tgT (n : Nat) (t : TgsD) : TgD := fun d δ => match d with
  | .tup ds => if ds.length = n then t ds δ else none
  | _ => none
theorem dg_tup {es : List Expr} {k : Nat} {t : TgsD} {n : Nat} {vs : List Nat} (hc : X.calm = true) (h : DGs X es t vs) (hn : (assignEach es X.env).length = n := by rfl) (hst : (assignEach es X.env).findIdx? (·.1) = none := by rfl) :
    DG X (.Tuple es k pos) (tgT n t) vs := pg_imp (pg_tup hc h hn hst) fun v σ H Q q => by
  obtain ⟨F0, H0, τ0, F, τ, T, δ, d, δ', s, r, e, k⟩ := q
  unfold tgT at e
  split at e
  · rename_i ds
    split at e
    · rename_i hl
      unfold Rep at r
      obtain ⟨a, us, e1, r1, r2⟩ := r
      exact ⟨a, us, e1, sqT_mono s.go.fh r1, r2.len.trans hl, F0, H0, τ0, F, τ, T, δ, ds, δ', s, r2, e, k⟩
    · cases e
  · cases e
/-- target = value -/
def sAsg (t : TgD) (f : DEnv → Mo D) : SD := fun δ T => (f δ T).st δ fun d T1 => (t d δ).elim .stuck fun δ' => .nx δ' T1
theorem ds_asg {tg : Expr} {t : TgD} {vs : List Nat} (he : DE X W a f) (hg : DG X tg t vs) (hs : swapsWithSole [tg] a pos.line X.env = pure false := by rfl) (hw : swappedStores [tg] a X.env = pure none := by rfl)
    (h1 : (assignEach [tg] X.env).map (·.2) = [assign tg X.env] := by rfl) : DS X W (.Assign [tg] a pos) (sAsg t f) := ps_imp (ps_asg he hg hs hw h1) fun D σ H q => by
  obtain ⟨F0, H0, τ0, F, τ, T, δ, s, p⟩ := q
  refine cG_st s p fun x v F1 H1 τ1 T1 s1 go r1 p1 => ?_
  cases e : t x δ with
  | some δ' =>
    rw [e] at p1
    exact ⟨F0, H0, τ0, F1, τ1, T1, δ, x, δ', s1, r1, e, fun σ' s' _ _ => p1 F1 H1 τ1 σ' s'⟩
  | none => rw [e] at p1; exact p1.elim
/-- a, b = x, y -/
def sPar (i j : Nat) (f g : DEnv → Mo D) : SD := fun δ T => (f δ T).st δ fun d T1 => (g δ T1).st δ fun e T2 => .nx ((δ.set i (.val d)).set j (.val e)) T2
theorem cA2 {mg : Str → Option Value} {K : Kf} {f g : DEnv → Mo D} {En : Ends} {σ : L2.St} {F0 H0 F H : Hp} {τ0 τ : Option Tp} {T : Option Tape} {δ : DEnv} {k : D → D → Option Tape → OS} {R : L2.St → Hp → V → V → Prop} (s : SR K F0 H0 τ0 F H τ T δ σ)
    (p : PstS K mg W F0 H0 τ0 En ((f δ T).st δ fun d T1 => (g δ T1).st δ fun e T2 => k d e T2))
    (q : ∀ d e v u F1 H1 τ1 T1, SR K F0 H0 τ0 F1 H1 τ1 T1 δ σ → Rep K F1 τ1 d v → Rep K F1 τ1 e u → PstS K mg W F0 H0 τ0 En (k d e T1) → R σ H1 v u) :
    tCons (cG K mg W (Rep K) f) (tCons (cG K mg W (Rep K) g) tNil) σ H fun vs H1 => ∃ v u, vs = [v, u] ∧ R σ H1 v u := by
  refine cG_st s p fun x v F1 H1 τ1 T1 s1 g1 r1 p1 => ?_
  refine cG_st s1 p1 fun y u F2 H2 τ2 T2 s2 g2 r2 p2 => ?_
  exact ⟨v, u, rfl, q x y v u F2 H2 τ2 T2 s2 (r1.mono g2.ff g2.tm) r2 p2⟩
theorem ds_par (i j : Nat) {x y : Str} {px py pt : Pos} {kt k2 pt2} (hc : X.calm = true) (hN : X.N.Nodup) (ha : DE X W a f) (hb : DE X W b g) (hi : X.N[i]? = some x := by rfl) (hj : X.N[j]? = some y := by rfl) (hij : i ≠ j := by decide)
    (hx : X.env.scope.names.lookup x = some .local := by rfl) (hy : X.env.scope.names.lookup y = some .local := by rfl) (hs1 : starEach [a, b] X.env = (false, eval a X.env) :: starEach [b] X.env := by rfl) (hs2 : starEach [b] X.env = (false, eval b X.env) :: starEach [] X.env := by rfl)
    (hw : swappedStores [.Tuple [.Name x px, .Name y py] kt pt] (.Tuple [a, b] k2 pt2) X.env = pure (some [x, y]) := by rfl)
    (hs : swapsWithSole [.Tuple [.Name x px, .Name y py] kt pt] (.Tuple [a, b] k2 pt2) pos.line X.env = pure false := by rfl) :
    DS X W (.Assign [.Tuple [.Name x px, .Name y py] kt pt] (.Tuple [a, b] k2 pt2) pos) (sPar i j f g) := ps_imp (ps_par hc hN hi hj hij hx hy (pa_cons ha (pa_cons hb pa_nil hs2) hs1) hw hs) fun D σ H q => by
  obtain ⟨F0, H0, τ0, F, τ, T, δ, s, p⟩ := q
  exact cA2 (R := fun σ H1 v u => D.nx ((σ.set i (some v)).set j (some u)) H1) s p fun d e v u F1 H1 τ1 T1 s1 r1 r2 p1 => p1 F1 H1 τ1 _ ((s1.set r1).set r2)
def sPar3 (i j l : Nat) (f g h : DEnv → Mo D) : SD := fun δ T => (f δ T).st δ fun d T1 => (g δ T1).st δ fun e T2 => (h δ T2).st δ fun m T3 => .nx (((δ.set i (.val d)).set j (.val e)).set l (.val m)) T3
theorem ds_par3 (i j l : Nat) {x y z : Str} {px py pz pt : Pos} {kt k2 pt2} (hc : X.calm = true) (hN : X.N.Nodup) (ha : DE X W a f) (hb : DE X W b g) (hcc : DE X W c h) (hi : X.N[i]? = some x := by rfl) (hj : X.N[j]? = some y := by rfl) (hl : X.N[l]? = some z := by rfl) (hij : i ≠ j := by decide) (hil : i ≠ l := by decide) (hjl : j ≠ l := by decide)
    (hx : X.env.scope.names.lookup x = some .local := by rfl) (hy : X.env.scope.names.lookup y = some .local := by rfl) (hz : X.env.scope.names.lookup z = some .local := by rfl)
    (hs1 : starEach [a, b, c] X.env = (false, eval a X.env) :: starEach [b, c] X.env := by rfl) (hs2 : starEach [b, c] X.env = (false, eval b X.env) :: starEach [c] X.env := by rfl) (hs3 : starEach [c] X.env = (false, eval c X.env) :: starEach [] X.env := by rfl)
    (hw : swappedStores [.Tuple [.Name x px, .Name y py, .Name z pz] kt pt] (.Tuple [a, b, c] k2 pt2) X.env = pure (some [x, y, z]) := by rfl)
    (hs : swapsWithSole [.Tuple [.Name x px, .Name y py, .Name z pz] kt pt] (.Tuple [a, b, c] k2 pt2) pos.line X.env = pure false := by rfl) :
    DS X W (.Assign [.Tuple [.Name x px, .Name y py, .Name z pz] kt pt] (.Tuple [a, b, c] k2 pt2) pos) (sPar3 i j l f g h) := ps_imp (ps_par3 hc hN hi hj hl hij hil hjl hx hy hz (pa_cons ha (pa_cons hb (pa_cons hcc pa_nil hs3) hs2) hs1) hw hs) fun D σ H q => by
  obtain ⟨F0, H0, τ0, F, τ, T, δ, s, p⟩ := q
  refine cG_st s p fun x v F1 H1 τ1 T1 s1 g1 r1 p1 => ?_
  refine cG_st s1 p1 fun y u F2 H2 τ2 T2 s2 g2 r2 p2 => ?_
  refine cG_st s2 p2 fun z w F3 H3 τ3 T3 s3 g3 r3 p3 => ?_
  exact ⟨v, u, w, rfl, p3 F3 H3 τ3 _ (((s3.set ((r1.mono g2.ff g2.tm).mono g3.ff g3.tm)).set (r2.mono g3.ff g3.tm)).set r3)⟩
/-- name op= e -/
def sAug (i : Nat) (o : D → D → Option D) (f : DEnv → Mo D) : SD := fun δ T => (slotD δ i).elim .stuck fun x => (f δ T).st δ fun y T1 => (o x y).elim .stuck fun z => .nx (δ.set i (.val z)) T1
theorem ds_aug (i : Nat) {x : Str} {op : Operator} {r : R2} {o : D → D → Option D} {pos' : Pos} (hN : X.N.Nodup) (hp : OpR X (inplaceOp op) r) (ho : OpD X.K r o) (he : DE X W a f) (hi : X.N[i]? = some x := by rfl) (hx : Loc X.env.scope x := by first | exact Or.inl rfl | exact Or.inr rfl)
    (hf : X.fn x = true ∨ X.env.scope.names.lookup x = some .local := by first | exact .inl rfl | exact .inr rfl | assumption) : DS X W (.AugAssign (.Name x pos') op a pos) (sAug i o f) :=
  ps_imp (ps_aug (ti := r) hN hi hx he (fun pins s σ H x y v u Q I rx ry h => hp pins s σ H x y v u Q I rx ry h) hf) fun D σ H q => by
    obtain ⟨F0, H0, τ0, F, τ, T, δ, s, p⟩ := q
    unfold sAug at p
    cases es : slotD δ i with
    | none => rw [es] at p; exact p.elim
    | some d =>
      rw [es] at p
      obtain ⟨v, h1, h2⟩ := s.val i d (slotD_eq es)
      refine ⟨v, h1, ?_⟩
      refine cG_st s p fun y u F1 H1 τ1 T1 s1 go r1 p1 => ?_
      cases ez : o d y with
      | none => rw [ez] at p1; exact p1.elim
      | some z =>
        rw [ez] at p1
        refine ho F1 H1 τ1 T1 d y v u z _ s1.go.fh s1.tp (h2.mono go.ff go.tm) r1 ez fun w F' H' g' t' r' => ?_
        exact p1 F' H' τ1 _ ((s1.step g' t').set r')

/-! ### while -/
def turnW (c : DEnv → Mo Bool) (b : SD) (k : SD) : SD := fun δ T => (c δ T).st δ fun t T1 => if t = true then (b δ T1).turn k else .nx δ T1
def iterW (c : DEnv → Mo Bool) (b : SD) (n : Nat) : SD := Nat.rec (motive := fun _ => SD) (fun _ _ => .stuck) (fun _ k => turnW c b k) n
/-- more turns than any loop here takes -/
def fuel : Nat := 1267650600228229401496703205376
theorem iterW_succ (c : DEnv → Mo Bool) (b : SD) (n : Nat) : iterW c b (n + 1) = turnW c b (iterW c b n) := rfl
def sWhile (c : DEnv → Mo Bool) (b : SD) : SD := iterW c b fuel
theorem ds_while {t : DEnv → Mo Bool} {body : List Stmt} (hp : PassesOwn (model X.prog X.w) X.A X.env X.xe) (hc : DT X W c t) (hb : DSs X W body g1) : DS X W (.While c body [] pos) (sWhile t g1) := ps_imp (ps_while hp hc hb) fun D σ H q => by
  obtain ⟨F0, H0, τ0, F, τ, T, δ, s, p⟩ := q
  refine ⟨fun m σ H => ∃ F τ T δ, SR X.K F0 H0 τ0 F H τ T δ σ ∧ PstS X.K X.mg W F0 H0 τ0 D (iterW t g1 m δ T), ⟨fuel, F, τ, T, δ, s, p⟩, ?_⟩
  rintro m σ H ⟨F, τ, T, δ, s, p⟩
  cases m with
  | zero => exact p.elim
  | succ m =>
    have p' : PstS X.K X.mg W F0 H0 τ0 D (turnW t g1 (iterW t g1 m) δ T) := p
    refine cG_st s p' fun x v F1 H1 τ1 T1 s1 go r1 p1 => ?_
    cases r1
    cases x with
    | false =>
      show D.nx σ H1
      exact p1 F1 H1 τ1 σ s1
    | true =>
      refine (if_pos rfl : _ = _).mpr ?_
      refine ⟨fun σ' H' => ∃ F τ T δ, SR X.K F0 H0 τ0 F H' τ T δ σ' ∧ PstS X.K X.mg W F0 H0 τ0 D (iterW t g1 m δ T), fun σ' H' q => ⟨m, Nat.lt_succ_self m, q⟩, F0, H0, τ0, F1, τ1, T1, δ, s1, ?_⟩
      rw [if_pos rfl] at p1
      cases e : g1 δ T1 with
      | nx δ' T2 => rw [e] at p1; exact fun F H τ σ s => ⟨F, τ, T2, δ', s, p1⟩
      | ct δ' T2 => rw [e] at p1; exact fun F H τ σ s => ⟨F, τ, T2, δ', s, p1⟩
      | bk δ' T2 => rw [e] at p1; exact p1
      | ret d T2 => rw [e] at p1; exact p1
      | exc x δ' T2 => rw [e] at p1; exact p1
      | stuck => rw [e] at p1; exact p1
end
end DD

/-! DD4: what is walked, for, list comprehensions. -/
namespace DD
open PySem PySem.Spec PyProof.Rows L2
section
variable {X : Cx} {W : WX} {a b c : Expr} {f g h : DEnv → Mo D} {pos : Pos} {st : Stmt} {sts : List Stmt} {g1 g2 : SD}
/-- J walks over ds in any heap in which F stands -/
structure ItD (K : Kf) (J : It) (F : Hp) (τ : Option Tp) (ds : List D) : Prop where
  go : ∀ i H, Same F H → i < ds.length → J.go i H
  stop : ∀ i H, Same F H → ds.length ≤ i → J.stop i H
  yld : ∀ i Fi H τi T x H', Same F Fi → Same Fi H → (∀ t, τ = some t → τi = some t) → TapeOk τi T H → i < ds.length → J.yld i H x H' → ∃ d Fi', ds[i]? = some d ∧ Go Fi H τi Fi' H' τi ∧ TapeOk τi T H' ∧ Rep K Fi' τi d x
def cI (K : Kf) (mg : Str → Option Value) (W : WX) (f : DEnv → Mo (List D)) : TI := fun σ H R => cG K mg W (fun F' τ' ds (J : It) => ItD K J F' τ' ds) f σ H fun J H' => R J H'
abbrev DI (X : Cx) (W : WX) (tg it : Expr) (f : DEnv → Mo (List D)) : Prop := PI X tg it (cI X.K X.mg W f)
theorem pi_imp {tg it : Expr} {t t' : TI} (h : PI X tg it t) (k : ∀ σ H R, t' σ H R → t σ H R) : PI X tg it t' := ⟨fun pins s σ H R I q => h.run pins s σ H R I (k σ H R q)⟩

/-! ### for -/
def forD (t : TgD) (b : SD) : List D → SD
  | [], δ, T => .nx δ T
  | d :: ds, δ, T => (t d δ).elim .stuck fun δ' => (b δ' T).turn (forD t b ds)
def sFor (fi : DEnv → Mo (List D)) (t : TgD) (b : SD) : SD := fun δ T => (fi δ T).st δ fun ds T1 => forD t b ds δ T1
theorem Go.back {F0 H0 F3 H3 F6 H6 : Hp} {τ0 τ2 τ6 : Option Tp} {T : Option Tape} (g4 : Go F0 H0 τ0 F3 H3 τ2) (g6 : Go F3 H0 τ2 F6 H6 τ6) (t6 : TapeOk τ6 T H6) (f6 : TapeF τ6 F6) : Go F0 H0 τ0 F6 H6 τ6 where
  ff := fun a o e => g6.ff _ _ (g4.ff _ _ e)
  fh := g6.fh
  hh := fun a o h n => g6.hh a o h (g4.off h n)
  dom := g6.dom
  nw := fun a o e => by
    rcases g6.nw _ _ e with z | z
    · exact g4.nw _ _ z
    · exact .inr z
  tt := by
    rcases g6.tt with q | ⟨q0, t', q, n⟩
    · rcases g4.tt with r | ⟨r0, t, r, m1, m2, _⟩
      · exact .inl (q.trans r)
      · obtain ⟨⟨o1, h1⟩, ⟨o2, h2⟩⟩ := t6.there (q.trans r)
        obtain ⟨f1, f2⟩ := f6 t (q.trans r)
        exact .inr ⟨r0, t, q.trans r, m1, m2, f1, f2, by rw [h1]; simp, by rw [h2]; simp⟩
    · refine .inr ⟨?_, t', q, n⟩
      cases e : τ0 with
      | none => rfl
      | some x =>
        have := g4.tm x e
        rw [q0] at this; cases this
theorem SR.sub {K : Kf} {F0 H0 F H : Hp} {τ0 τ : Option Tp} {T : Option Tape} {δ : DEnv} {σ : L2.St} (s : SR K F0 H0 τ0 F H τ T δ σ) : SR K F H0 τ F H τ T δ σ :=
  ⟨⟨fun _ _ h => h, s.go.fh, fun a o h n => by
    refine s.go.hh a o h fun t e => ?_
    exact n t (s.go.tm t e), s.go.dom, fun _ _ h => .inl h, .inl rfl⟩, s.tp, s.tf, s.len, s.val, s.own, s.dis⟩
theorem SR.back {K : Kf} {F0 H0 F3 H3 F6 H6 : Hp} {τ0 τ2 τ6 : Option Tp} {T6 : Option Tape} {δ6 : DEnv} {σ6 : L2.St} (g4 : Go F0 H0 τ0 F3 H3 τ2) (s : SR K F3 H0 τ2 F6 H6 τ6 T6 δ6 σ6) : SR K F0 H0 τ0 F6 H6 τ6 T6 δ6 σ6 :=
  ⟨g4.back s.go s.tp s.tf, s.tp, s.tf, s.len, s.val, s.own, s.dis⟩
theorem ds_for {tg it : Expr} {body : List Stmt} {fi : DEnv → Mo (List D)} {t : TgD} {vs : List Nat} (hp : PassesOwn (model X.prog X.w) X.A X.env X.xe) (hc : X.calm = true) (hi : DI X W tg it fi) (hg : DG X tg t vs) (hb : DSs X W body g1)
    (hs : ∀ x, foldedSetIterable it X.env x = pure x := by intro _; rfl) : DS X W (.For tg it body [] pos) (sFor fi t g1) := ps_imp (ps_for hp hc hi hg hb hs) fun D σ H q => by
  obtain ⟨F0, H0, τ0, F, τ, T, δ, s, p⟩ := q
  refine cG_st s p fun ds J F1 H1 τ1 T1 s1 go r1 p1 => ?_
  -- the loop
  refine ⟨fun i m σ H => m = ds.length - i ∧ i ≤ ds.length ∧ ∃ F τ T δ, SR X.K F0 H0 τ0 F H τ T δ σ ∧ Same F1 F ∧ (∀ t, τ1 = some t → τ = some t) ∧ PstS X.K X.mg W F0 H0 τ0 D (forD t g1 (ds.drop i) δ T),
    ⟨ds.length, by simp, Nat.zero_le _, F1, τ1, T1, δ, s1, fun _ _ h => h, fun _ h => h, p1⟩, ?_⟩
  rintro i m σ H ⟨rfl, hi, F2, τ2, T2, δ2, s2, ff, tt, p2⟩
  by_cases hlt : i < ds.length
  · refine .inr ⟨r1.go i H (fun a o e => s2.go.fh _ _ (ff _ _ e)) hlt, fun σ' H' => ∃ F τ T δ, SR X.K F0 H0 τ0 F H' τ T δ σ' ∧ Same F1 F ∧ (∀ t, τ1 = some t → τ = some t) ∧ PstS X.K X.mg W F0 H0 τ0 D (forD t g1 (ds.drop (i + 1)) δ T),
      fun σ' H' ⟨F, τ, T, δ, q⟩ => ⟨ds.length - (i + 1), by omega, rfl, hlt, F, τ, T, δ, q⟩, fun x H' y => ?_⟩
    obtain ⟨d, F3, hd, go3, tp3, r3⟩ := r1.yld i F2 H τ2 T2 x H' ff s2.go.fh tt s2.tp hlt y
    have s3 := s2.step go3 tp3
    have ed : ds.drop i = d :: ds.drop (i + 1) := by
      obtain ⟨h1, h2⟩ := List.getElem?_eq_some_iff.mp hd
      rw [List.drop_eq_getElem_cons h1, h2]
    rw [ed] at p2
    unfold forD at p2
    cases et : t d δ2 with
    | none => rw [et] at p2; exact p2.elim
    | some δ3 =>
      rw [et] at p2
      have p2 : PstS X.K X.mg W F0 H0 τ0 D ((g1 δ3 T2).turn (forD t g1 (ds.drop (i + 1)))) := p2
      have f13 : Same F1 F3 := fun a o e => go3.ff _ _ (ff _ _ e)
      refine ⟨F0, H0, τ0, F3, τ2, T2, δ2, d, δ3, s3, r3, et, fun σ4 s4 _ _ => ?_⟩
      refine ⟨F3, H0, τ2, F3, τ2, T2, δ3, s4.sub, ?_⟩
      cases eb : g1 δ3 T2 with
      | nx δ6 T6 =>
        rw [eb] at p2
        exact fun F6 H6 τ6 σ6 s6 => ⟨F6, τ6, T6, δ6, SR.back s4.go s6, fun a o e => s6.go.ff _ _ (f13 _ _ e), fun x e => s6.go.tm x (tt x e), p2⟩
      | ct δ6 T6 =>
        rw [eb] at p2
        exact fun F6 H6 τ6 σ6 s6 => ⟨F6, τ6, T6, δ6, SR.back s4.go s6, fun a o e => s6.go.ff _ _ (f13 _ _ e), fun x e => s6.go.tm x (tt x e), p2⟩
      | bk δ6 T6 =>
        rw [eb] at p2
        exact fun F6 H6 τ6 σ6 s6 => p2 F6 H6 τ6 σ6 (SR.back s4.go s6)
      | ret d6 T6 =>
        rw [eb] at p2
        exact fun v F6 H6 τ6 g6 t6 f6 r6 => p2 v F6 H6 τ6 (s4.go.back g6 t6 f6) t6 f6 r6
      | exc e6 δ6 T6 =>
        rw [eb] at p2
        exact fun c dd F6 H6 τ6 σ6 s6 ex => p2 c dd F6 H6 τ6 σ6 (SR.back s4.go s6) ex
      | stuck => rw [eb] at p2; exact p2
  · refine .inl ⟨r1.stop i H (fun a o e => s2.go.fh _ _ (ff _ _ e)) (by omega), ?_⟩
    have e : i = ds.length := by omega
    rw [e, List.drop_length] at p2
    exact p2 F2 H τ2 σ s2

/-! ### what is walked -/
def tupOf : D → Option (List D)
  | .tup ds => some ds
  | _ => none
def lstOf : D → Option (List D)
  | .lst ds => some ds
  | .scr ns => some (ns.map .int)
  | _ => none
def iSeq (f : DEnv → Mo D) : DEnv → Mo (List D) := fun δ T => (f δ T).bind fun x T1 => lift (tupOf x) T1
def iLst (f : DEnv → Mo D) : DEnv → Mo (List D) := fun δ T => (f δ T).bind fun x T1 => lift (lstOf x) T1
theorem tupOf_eq : ∀ {d : D} {ds : List D}, tupOf d = some ds → d = .tup ds
  | .tup b, _, h => by cases h; rfl
  | .non, _, h => by cases h
  | .bl _, _, h => by cases h
  | .int _, _, h => by cases h
  | .str _, _, h => by cases h
  | .lst _, _, h => by cases h
  | .scr _, _, h => by cases h
  | .tape, _, h => by cases h
theorem rep_lst {K : Kf} {F H : Hp} {τ : Option Tp} (fh : Same F H) {d : D} {v : V} {ds : List D} (h : Rep K F τ d v) (e : lstOf d = some ds) : ∃ a vs, v = .ref a ∧ SqL K F a vs ∧ SqL K H a vs ∧ Reps K F τ ds vs := by
  unfold lstOf at e
  split at e
  · cases e
    unfold Rep at h
    obtain ⟨a, vs, e1, h1, h2⟩ := h
    exact ⟨a, vs, e1, .inl (.inl h1), .inl (.inl (fh _ _ h1)), h2⟩
  · cases e
    unfold Rep at h
    obtain ⟨a, e1, h1⟩ := h
    exact ⟨a, _, e1, h1, sqL_mono fh h1, Reps.ints⟩
  · cases e
theorem itD_list {K : Kf} {F : Hp} {τ : Option Tp} {a : Addr} {vs : List V} {ds : List D} (h : SqL K F a vs) (r : Reps K F τ ds vs) : ItD K (Itl K a) F τ ds where
  go := fun i H e l => by
    obtain ⟨v, h1, _⟩ := r.at (List.getElem?_eq_getElem l)
    exact ⟨vs, v, sqL_mono e h, h1⟩
  stop := fun i H e l => ⟨vs, sqL_mono e h, by rw [r.len]; exact l⟩
  yld := fun i Fi H τi T x H' e fh t tp _ y => by
    obtain ⟨rfl, y⟩ := y
    obtain ⟨d, h1, h2⟩ := r.at' (y vs (sqL_mono (e.trans fh) h))
    exact ⟨d, Fi, h1, .refl fh, tp, h2.mono e t⟩
theorem itD_tup {K : Kf} {F : Hp} {τ : Option Tp} {a : Addr} {vs : List V} {ds : List D} (h : SqT K F a vs) (r : Reps K F τ ds vs) : ItD K (Itt K a) F τ ds where
  go := fun i H e l => by
    obtain ⟨v, h1, _⟩ := r.at (List.getElem?_eq_getElem l)
    exact ⟨vs, v, sqT_mono e h, h1⟩
  stop := fun i H e l => ⟨vs, sqT_mono e h, by rw [r.len]; exact l⟩
  yld := fun i Fi H τi T x H' e fh t tp _ y => by
    obtain ⟨rfl, y⟩ := y
    obtain ⟨d, h1, h2⟩ := r.at' (y vs (sqT_mono (e.trans fh) h))
    exact ⟨d, Fi, h1, .refl fh, tp, h2.mono e t⟩
theorem di_tup {tg : Expr} (h : DE X W a f) : DI X W tg a (iSeq f) := pi_imp (pi_tup h) fun σ H R q => by
  obtain ⟨F0, H0, τ0, F, τ, T, δ, s, p⟩ := q
  refine cG_bind s p fun x v F1 H1 τ1 T1 s1 go r1 p1 => ?_
  cases e : tupOf x with
  | none => rw [e] at p1; exact p1.elim
  | some ds =>
    rw [e] at p1
    rw [tupOf_eq e] at r1
    unfold Rep at r1
    obtain ⟨p, vs, e, h1, h2⟩ := r1
    exact ⟨p, e, ⟨vs, sqT_mono s1.go.fh h1⟩, p1 _ F1 H1 τ1 (.refl s1.go.fh) s1.tp (itD_tup h1 h2)⟩
theorem di_lst {tg : Expr} (h : DE X W a f) : DI X W tg a (iLst f) := pi_imp (pi_list h) fun σ H R q => by
  obtain ⟨F0, H0, τ0, F, τ, T, δ, s, p⟩ := q
  refine cG_bind s p fun x v F1 H1 τ1 T1 s1 go r1 p1 => ?_
  cases e : lstOf x with
  | none => rw [e] at p1; exact p1.elim
  | some ds =>
    rw [e] at p1
    obtain ⟨p, vs, e, h1, h2, h3⟩ := rep_lst s1.go.fh r1 e
    exact ⟨p, e, ⟨vs, h2⟩, p1 _ F1 H1 τ1 (.refl s1.go.fh) s1.tp (itD_list h1 h3)⟩
/-- range(n), range(i, n), range(i, n, c) -/
def rng (lo c : Int) (n : Nat) : List D := (List.range n).map fun i => .int (lo + (i : Nat) * c)
theorem itD_rng {K : Kf} {F : Hp} {τ : Option Tp} {J : It} {lo c : Int} {n : Nat} (hg : ∀ i H, i < n → J.go i H) (hs : ∀ i H, n ≤ i → J.stop i H) (hy : ∀ i H x H', J.yld i H x H' → H' = H ∧ x = .int (lo + (i : Nat) * c)) : ItD K J F τ (rng lo c n) where
  go := fun i H _ l => hg i H (by simpa [rng] using l)
  stop := fun i H _ l => hs i H (by simpa [rng] using l)
  yld := fun i Fi H τi T x H' e fh t tp l y => by
    obtain ⟨rfl, rfl⟩ := hy i H x H' y
    refine ⟨.int (lo + (i : Nat) * c), Fi, ?_, .refl fh, tp, (by unfold Rep; rfl)⟩
    have l' : i < n := by simpa [rng] using l
    unfold rng
    rw [List.getElem?_map, List.getElem?_range l']
    rfl
def rOk (i : Int) : Bool := Nat.blt i.natAbs 1000000000000
def rng1 : List D → Option (List D)
  | [.int j] => if rOk j = true then some (rng 0 1 j.toNat) else none
  | _ => none
def rng2 : List D → Option (List D)
  | [.int i, .int j] => if rOk i = true ∧ rOk j = true then some (rng i 1 (j - i).toNat) else none
  | _ => none
def iR1 (fa : DEnv → Mo (List D)) : DEnv → Mo (List D) := fun δ T => (fa δ T).bind fun ds T1 => lift (rng1 ds) T1
def iR2 (fa : DEnv → Mo (List D)) : DEnv → Mo (List D) := fun δ T => (fa δ T).bind fun ds T1 => lift (rng2 ds) T1
theorem rOk_b {i : Int} (h : rOk i = true) : -(2 ^ 62) ≤ i ∧ i < 2 ^ 62 := by
  unfold rOk at h
  have := Nat.blt_eq.mp h
  omega
variable {fa : DEnv → Mo (List D)}
theorem reps1 {K : Kf} {F : Hp} {τ : Option Tp} {d : D} {vs : List V} (h : Reps K F τ [d] vs) : ∃ v, vs = [v] ∧ Rep K F τ d v := by
  unfold Reps at h
  obtain ⟨v, r, e, h1, h2⟩ := h
  unfold Reps at h2
  exact ⟨v, by rw [e, h2], h1⟩
theorem reps2 {K : Kf} {F : Hp} {τ : Option Tp} {d e : D} {vs : List V} (h : Reps K F τ [d, e] vs) : ∃ v u, vs = [v, u] ∧ Rep K F τ d v ∧ Rep K F τ e u := by
  unfold Reps at h
  obtain ⟨v, r, e, h1, h2⟩ := h
  obtain ⟨u, e2, h3⟩ := reps1 h2
  exact ⟨v, u, by rw [e, e2], h1, h3⟩
theorem reps3 {K : Kf} {F : Hp} {τ : Option Tp} {d e g : D} {vs : List V} (h : Reps K F τ [d, e, g] vs) : ∃ v u w, vs = [v, u, w] ∧ Rep K F τ d v ∧ Rep K F τ e u ∧ Rep K F τ g w := by
  unfold Reps at h
  obtain ⟨v, r, e, h1, h2⟩ := h
  obtain ⟨u, w, e2, h3, h4⟩ := reps2 h2
  exact ⟨v, u, w, by rw [e, e2], h1, h3, h4⟩
theorem di_r1 {tg e : Expr} {p : Pos} (hg : Gl X "range") (hm : X.mg "range" = none) (ha : DA X W [e] fa) (hs : starEach [e] X.env = [(false, eval e X.env)] := by rfl) : DI X W tg (.Call (.Name "range" p) [e] [] pos) (iR1 fa) := pi_imp (pi_range1 hg hm ha hs) fun σ H R q => by
  obtain ⟨F0, H0, τ0, F, τ, T, δ, s, p⟩ := q
  refine cG_bind s p fun x v F1 H1 τ1 T1 s1 go r1 p1 => ?_
  cases er : rng1 x with
  | none => rw [er] at p1; exact p1.elim
  | some ds =>
    rw [er] at p1
    unfold rng1 at er
    split at er
    · rename_i j
      split at er
      · rename_i hj
        cases er
        obtain ⟨u, e, r2⟩ := reps1 r1
        unfold Rep at r2
        obtain ⟨b1, b2⟩ := rOk_b hj
        exact ⟨j, by rw [e, r2], b1, b2, p1 _ F1 H1 τ1 (.refl s1.go.fh) s1.tp (itD_rng (fun i H l => l) (fun i H l => l) fun i H x H' y => ⟨y.1, by rw [y.2, Int.mul_one]⟩)⟩
      · cases er
    · cases er
theorem di_r2 {tg e e' : Expr} {p : Pos} (hg : Gl X "range") (hm : X.mg "range" = none) (ha : DA X W [e, e'] fa) (hs : starEach [e, e'] X.env = [(false, eval e X.env), (false, eval e' X.env)] := by rfl) (hs2 : starEach [e'] X.env = [(false, eval e' X.env)] := by rfl) : DI X W tg (.Call (.Name "range" p) [e, e'] [] pos) (iR2 fa) := pi_imp (pi_range2 hg hm ha hs hs2) fun σ H R q => by
  obtain ⟨F0, H0, τ0, F, τ, T, δ, s, p⟩ := q
  refine cG_bind s p fun x v F1 H1 τ1 T1 s1 go r1 p1 => ?_
  cases er : rng2 x with
  | none => rw [er] at p1; exact p1.elim
  | some ds =>
    rw [er] at p1
    unfold rng2 at er
    split at er
    · rename_i i j
      split at er
      · rename_i hj
        cases er
        obtain ⟨u, w, e, r2, r3⟩ := reps2 r1
        unfold Rep at r2 r3
        obtain ⟨b1, b2⟩ := rOk_b hj.1
        obtain ⟨b3, b4⟩ := rOk_b hj.2
        exact ⟨i, j, by rw [e, r2, r3], ⟨b1, b2, b3, b4⟩, p1 _ F1 H1 τ1 (.refl s1.go.fh) s1.tp (itD_rng (fun i H l => l) (fun i H l => l) fun i H x H' y => ⟨y.1, by rw [y.2, Int.mul_one]⟩)⟩
      · cases er
    · cases er

/-! ### list comprehensions, one clause -/
def wipeD (δ : DEnv) : List Nat → DEnv
  | [] => δ
  | v :: vs => (wipeD δ vs).set v .un
theorem SR.wipe {K : Kf} {F0 H0 F H : Hp} {τ0 τ : Option Tp} {T : Option Tape} {δ : DEnv} {σ : L2.St} (s : SR K F0 H0 τ0 F H τ T δ σ) : ∀ vs : List Nat, SR K F0 H0 τ0 F H τ T (wipeD δ vs) (L2.wipe σ vs)
  | [] => s
  | v :: vs => (SR.wipe s vs).forget
theorem wipe_get {σ : L2.St} {j : Nat} : ∀ {vs : List Nat}, j ∈ vs → j < σ.length → (L2.wipe σ vs)[j]? = some none
  | [], h, _ => by cases h
  | v :: vs, h, l => by
    unfold L2.wipe
    by_cases z : v = j
    · subst z
      exact List.getElem?_set_self (by rw [wipe_length]; exact l)
    · rw [List.getElem?_set_ne z]
      exact wipe_get ((List.mem_cons.mp h).resolve_left (Ne.symm z)) l
theorem wipe_out {σ : L2.St} {j : Nat} : ∀ {vs : List Nat}, j ∉ vs → (L2.wipe σ vs)[j]? = σ[j]?
  | [], _ => rfl
  | v :: vs, h => by
    unfold L2.wipe
    rw [List.getElem?_set_ne fun z => h (by rw [z]; exact List.mem_cons_self), wipe_out fun z => h (List.mem_cons_of_mem _ z)]
theorem wipe_same {σ σ' : L2.St} {vs : List Nat} (hl : σ'.length = σ.length) (h : ∀ j, j ∉ vs → σ'[j]? = σ[j]?) : L2.wipe σ' vs = L2.wipe σ vs := by
  apply List.ext_getElem?
  intro j
  by_cases z : j ∈ vs
  · by_cases l : j < σ.length
    · rw [wipe_get z l, wipe_get z (by rw [hl]; exact l)]
    · rw [List.getElem?_eq_none (by rw [wipe_length, hl]; omega), List.getElem?_eq_none (by rw [wipe_length]; omega)]
  · rw [wipe_out z, wipe_out z, h j z]
/-- a bind where no exception may come -/
def _root_.DD.Out.bindQ {α β : Type} : Out α → (α → Mo β) → Out β
  | .ok a T, k => k a T
  | .exc _ _, _ => .stuck
  | .stuck, _ => .stuck
def lcD (t : TgD) (ft : DEnv → Mo Bool) (fe : DEnv → Mo D) (δ : DEnv) : List D → List D → Mo (List D)
  | [], acc, T => .ok acc T
  | d :: ds, acc, T => (t d δ).elim .stuck fun δ' => (ft δ' T).bindQ fun b T1 => if b = true then (fe δ' T1).bindQ fun y T2 => lcD t ft fe δ ds (acc ++ [y]) T2 else lcD t ft fe δ ds acc T1
def lLc (fi : DEnv → Mo (List D)) (t : TgD) (ft : DEnv → Mo Bool) (fe : DEnv → Mo D) (vs : List Nat) : DEnv → Mo (List D) := fun δ T => (fi δ T).bind fun ds T1 => if ds.length < line then lcD t ft fe (wipeD δ vs) ds [] T1 else .stuck
abbrev W0 : WX := fun _ _ _ _ => False
abbrev DTs (X : Cx) (W : WX) (es : List Expr) (f : DEnv → Mo Bool) : Prop := PTs X es (cG X.K X.mg W RB f)
def tYesD : DEnv → Mo Bool := fun _ T => .ok true T
theorem pts_imp {es : List Expr} {t t' : TT} (h : PTs X es t) (k : ∀ σ H Q, t' σ H Q → t σ H Q) : PTs X es t' := ⟨fun pins s σ H Q I q => h.run pins s σ H Q I (k σ H Q q)⟩
theorem dts_nil : DTs X W [] tYesD := pts_imp pts_nil fun σ H Q q => by
  obtain ⟨F0, H0, τ0, F, τ, T, δ, s, p⟩ := q
  exact p true F H τ (.refl s.go.fh) s.tp rfl
theorem dts_one {t : DEnv → Mo Bool} (h : DT X W c t) : DTs X W [c] t := pts_one h
theorem Go.poke {F H F' H' : Hp} {τ τ' : Option Tp} {a : Addr} {o : HO} (g : Go F H τ F' H' τ') (h : H a = none) (f : F' a = none) (n : Off τ' a) : Go F H τ F' (upd H' a o) τ' where
  ff := g.ff
  fh := fun b u e => by rw [upd_ne (ne_of_none e f)]; exact g.fh _ _ e
  hh := fun b u e k => by rw [upd_ne (ne_of_none e h)]; exact g.hh _ _ e k
  dom := fun b e => by
    by_cases z : b = a
    · subst z; exact h
    · rw [upd_ne z] at e; exact g.dom _ e
  nw := g.nw
  tt := by
    rcases g.tt with q | ⟨q0, t, q, n1, n2, n3, n4, n5, n6⟩
    · exact .inl q
    · exact .inr ⟨q0, t, q, n1, n2, n3, n4, by rw [upd_ne (Ne.symm (n t q).1)]; exact n5, by rw [upd_ne (Ne.symm (n t q).2)]; exact n6⟩
theorem SR.poke {K : Kf} {F0 H0 F H : Hp} {τ0 τ : Option Tp} {T : Option Tape} {δ : DEnv} {σ : L2.St} {a : Addr} {o : HO} (s : SR K F0 H0 τ0 F H τ T δ σ) (h0 : H0 a = none) (f : F a = none) (n : Off τ a)
    (ne : ∀ (j : Nat) (es : List D), δ[j]? = some (.own es) → σ[j]? ≠ some (some (.ref a))) : SR K F0 H0 τ0 F (upd H a o) τ T δ σ :=
  ⟨s.go.poke h0 f n, s.tp.upd n, s.tf, s.len, s.val, fun i ds e => by
    obtain ⟨b, vs, h1, h2, h3⟩ := s.own i ds e
    exact ⟨b, vs, h1, by rw [upd_ne fun z => ne i ds e (by rw [← z]; exact h1)]; exact h2, h3⟩, s.dis⟩
theorem cLc {K : Kf} {mg : Str → Option Value} {fi : DEnv → Mo (List D)} {t : TgD} {ft : DEnv → Mo Bool} {fe : DEnv → Mo D} {ws vs : List Nat} (hw : ∀ j ∈ ws, j ∈ vs) {σ : L2.St} {H : Hp} {Q : VK} (q : cL K mg W (lLc fi t ft fe vs) σ H Q) :
    tLc (cI K mg W fi) (cT K t ws) (cG K mg W0 RB ft) (cG K mg W0 (Rep K) fe) vs σ H Q := by
  obtain ⟨F0, H0, τ0, F, τ, T, δ, s, p⟩ := q
  refine cG_bindL s p fun ds J F1 H1 τ1 T1 s1 go r1 p1 => ?_
  split at p1
  case isFalse => exact p1.elim
  rename_i hlen
  intro Dl hD
  have hF : F1 Dl = none := s1.go.fh.free hD
  have hO : Off τ1 Dl := s1.tp.off hD
  have h0D : H0 Dl = none := s1.go.dom _ hD
  have apart : ∀ (j : Nat) (es : List D), δ[j]? = some (.own es) → σ[j]? ≠ some (some (.ref Dl)) := fun j es e z => by
    obtain ⟨a, us, k1, k2, _⟩ := s1.own j es e
    rw [k1] at z
    cases z
    rw [hD] at k2; cases k2
  refine ⟨fun i m H => m = ds.length - i ∧ i ≤ ds.length ∧ ∃ F2 τ2 T2 acc vs', SR K F0 H0 τ0 F2 H τ2 T2 δ σ ∧ Go F1 H1 τ1 F2 H τ2 ∧ H Dl = some (.lst vs') ∧ Reps K F2 τ2 acc vs' ∧ F2 Dl = none ∧ Off τ2 Dl ∧ acc.length ≤ i ∧ PstL K mg W σ F1 H1 τ1 Q (lcD t ft fe (wipeD δ vs) (ds.drop i) acc T2),
    ⟨ds.length, by simp, Nat.zero_le _, F1, τ1, T1, [], [], s1.step (Go.newH s1.go.fh hD) (s1.tp.upd hO), Go.newH s1.go.fh hD, upd_same, .nil, hF, hO, Nat.le_refl _, p1⟩, ?_⟩
  rintro i m H2 ⟨rfl, hi, F2, τ2, T2, acc, us, s2, g2, hl2, ra, f2, o2, la, p2⟩
  by_cases hlt : i < ds.length
  · refine .inr ⟨r1.go i H2 (fun a o e => s2.go.fh _ _ (g2.ff _ _ e)) hlt, fun H' => ∃ F2 τ2 T2 acc vs', SR K F0 H0 τ0 F2 H' τ2 T2 δ σ ∧ Go F1 H1 τ1 F2 H' τ2 ∧ H' Dl = some (.lst vs') ∧ Reps K F2 τ2 acc vs' ∧ F2 Dl = none ∧ Off τ2 Dl ∧ acc.length ≤ i + 1 ∧ PstL K mg W σ F1 H1 τ1 Q (lcD t ft fe (wipeD δ vs) (ds.drop (i + 1)) acc T2),
      fun H' ⟨F2, τ2, T2, acc, us, q⟩ => ⟨ds.length - (i + 1), by omega, rfl, hlt, F2, τ2, T2, acc, us, q⟩, fun x H' y => ?_⟩
    obtain ⟨d, F3, hd, go3, tp3, r3⟩ := r1.yld i F2 H2 τ2 T2 x H' (g2.ff) s2.go.fh g2.tm s2.tp hlt y
    have s3 := s2.step go3 tp3
    have ed : ds.drop i = d :: ds.drop (i + 1) := by
      obtain ⟨h1, h2⟩ := List.getElem?_eq_some_iff.mp hd
      rw [List.drop_eq_getElem_cons h1, h2]
    rw [ed] at p2
    unfold lcD at p2
    cases et : t d (wipeD δ vs) with
    | none => rw [et] at p2; exact p2.elim
    | some δ3 =>
      rw [et] at p2
      have p2 : PstL K mg W σ F1 H1 τ1 Q ((ft δ3 T2).bindQ fun b T1 => if b = true then (fe δ3 T1).bindQ fun y T2 => lcD t ft fe (wipeD δ vs) (ds.drop (i + 1)) (acc ++ [y]) T2 else lcD t ft fe (wipeD δ vs) (ds.drop (i + 1)) acc T1) := p2
      refine ⟨F0, H0, τ0, F3, τ2, T2, wipeD δ vs, d, δ3, s3.wipe vs, r3, et, fun σ4 s4 l4 k4 => ⟨?_, ?_⟩⟩
      · have e1 : L2.wipe σ4 vs = L2.wipe (L2.wipe σ vs) vs := wipe_same l4 fun j hj => k4 j fun z => hj (hw j z)
        rw [e1]
        exact wipe_same (wipe_length _ _) fun j hj => wipe_out hj
      · refine ⟨F0, H0, τ0, F3, τ2, T2, δ3, s4, ?_⟩
        cases eb : ft δ3 T2 with
        | exc e T5 => rw [eb] at p2; exact p2.elim
        | stuck => rw [eb] at p2; exact p2.elim
        | ok b T5 =>
          rw [eb] at p2
          have p2 : PstL K mg W σ F1 H1 τ1 Q (if b = true then (fe δ3 T5).bindQ fun y T2 => lcD t ft fe (wipeD δ vs) (ds.drop (i + 1)) (acc ++ [y]) T2 else lcD t ft fe (wipeD δ vs) (ds.drop (i + 1)) acc T5) := p2
          intro b' F5 H5 τ5 g5 t5 r5
          cases r5
          have s5 := s4.step g5 t5
          have l5 : H5 Dl = some (.lst us) := g5.hh _ _ (go3.hh _ _ hl2 o2) o2
          have o5 : Off τ5 Dl := g5.off (go3.hh _ _ hl2 o2) o2
          have f3 : F3 Dl = none := go3.fnone f2 hl2
          have f5 : F5 Dl = none := g5.fnone f3 (go3.hh _ _ hl2 o2)
          cases b with
          | false =>
            rw [if_neg Bool.false_ne_true] at p2 ⊢
            exact ⟨F5, τ5, T5, acc, us, s3.step g5 t5, g2.trans (go3.trans g5), l5, ra.mono (fun a o e => g5.ff _ _ (go3.ff _ _ e)) g5.tm, f5, o5, Nat.le_succ_of_le la, p2⟩
          | true =>
            rw [if_pos rfl] at p2 ⊢
            refine ⟨F0, H0, τ0, F5, τ5, T5, δ3, s5, ?_⟩
            cases ey : fe δ3 T5 with
            | exc e T6 => rw [ey] at p2; exact p2.elim
            | stuck => rw [ey] at p2; exact p2.elim
            | ok y T6 =>
              rw [ey] at p2
              have p2 : PstL K mg W σ F1 H1 τ1 Q (lcD t ft fe (wipeD δ vs) (ds.drop (i + 1)) (acc ++ [y]) T6) := p2
              intro v F6 H6 τ6 g6 t6 r6
              have l6 : H6 Dl = some (.lst us) := g6.hh _ _ l5 o5
              have o6 : Off τ6 Dl := g6.off l5 o5
              have f6 : F6 Dl = none := g6.fnone f5 l5
              have gg : Go F2 H2 τ2 F6 H6 τ6 := go3.trans (g5.trans g6)
              refine ⟨us, l6, by rw [ra.len]; exact line_lt (by omega), F6, τ6, T6, acc ++ [y], us ++ [v], (s2.step gg t6).poke h0D f6 o6 apart, (g2.trans gg).poke hD f6 o6, upd_same, ?_, f6, o6, by rw [List.length_append]; simp; omega, p2⟩
              exact (ra.mono gg.ff gg.tm).append (.one r6)
  · refine .inl ⟨r1.stop i H2 (fun a o e => s2.go.fh _ _ (g2.ff _ _ e)) (by omega), ?_⟩
    have e : i = ds.length := by omega
    rw [e, List.drop_length] at p2
    exact p2 Dl us F2 H2 τ2 g2 s2.tp hl2 ra f2 hD o2
theorem dl_lc {elt tg iter : Expr} {ifs : List Expr} {scope : Scope} {own : List (Str × Nat)} {fi : DEnv → Mo (List D)} {t : TgD} {ft : DEnv → Mo Bool} {fe : DEnv → Mo D} {ws : List Nat} (hc : X.calm = true) (hN : X.N.Nodup) (hi : DI X W tg iter fi) (ok : BlkOk X.N X.env.scope scope own) (hw : ∀ j ∈ ws, j ∈ own.map (·.2))
    (hg : ∀ (s : Shared) (H : Hp) (C : Addr) (cl : List (Str × Addr)) (fp : List Addr), DG (X.blk s H scope (compEnvC scope cl C X.env) fp) tg t ws) (ht : ∀ (s : Shared) (H : Hp) (C : Addr) (cl : List (Str × Addr)) (fp : List Addr), DTs (X.blk s H scope (compEnvC scope cl C X.env) fp) W0 ifs ft)
    (he : ∀ (s : Shared) (H : Hp) (C : Addr) (cl : List (Str × Addr)) (fp : List Addr), DE (X.blk s H scope (compEnvC scope cl C X.env) fp) W0 elt fe) (hs : ∀ x, foldedSetIterable iter X.env x = pure x := by intro _; rfl) :
    DL X W (.ListComp elt [⟨tg, iter, ifs, 0⟩] scope pos) (lLc fi t ft fe (own.map (·.2))) := pe_imp (pe_lc hc hN hi ok hg ht he hs) fun σ H Q q => cLc hw q
/-- y = [..] -/
theorem ds_setLc (i : Nat) {y : Str} {py spos : Pos} {elt tg iter : Expr} {ifs : List Expr} {scope : Scope} {own : List (Str × Nat)} {fi : DEnv → Mo (List D)} {t : TgD} {ft : DEnv → Mo Bool} {fe : DEnv → Mo D} {ws : List Nat} (hc : X.calm = true) (hN : X.N.Nodup) (hi : DI X W tg iter fi) (ok : BlkOk X.N X.env.scope scope own) (hw : ∀ j ∈ ws, j ∈ own.map (·.2))
    (hg : ∀ (s : Shared) (H : Hp) (C : Addr) (cl : List (Str × Addr)) (fp : List Addr), DG (X.blk s H scope (compEnvC scope cl C X.env) fp) tg t ws) (ht : ∀ (s : Shared) (H : Hp) (C : Addr) (cl : List (Str × Addr)) (fp : List Addr), DTs (X.blk s H scope (compEnvC scope cl C X.env) fp) W0 ifs ft)
    (he : ∀ (s : Shared) (H : Hp) (C : Addr) (cl : List (Str × Addr)) (fp : List Addr), DE (X.blk s H scope (compEnvC scope cl C X.env) fp) W0 elt fe) (hsw : swapsWith (.ListComp elt [⟨tg, iter, ifs, 0⟩] scope pos) (some (.Name y py)) spos.line X.env = pure true) (hy : X.N[i]? = some y := by rfl) (hyl : X.env.scope.names.lookup y = some .local := by rfl) (hs : ∀ x, foldedSetIterable iter X.env x = pure x := by intro _; rfl) :
    DS X W (.Assign [.Name y py] (.ListComp elt [⟨tg, iter, ifs, 0⟩] scope pos) spos) (sSetL i (lLc fi t ft fe (own.map (·.2)))) := ps_imp (ps_setLc hc hN hy hyl hsw hi ok hg ht he hs) fun D σ H q => by
  obtain ⟨F0, H0, τ0, F, τ, T, δ, s, p⟩ := q
  have := cL_set (W := W) (K := X.K) (mg := X.mg) (i := i) (fl := lLc fi t ft fe (own.map (·.2))) (D := D) (σ := σ) (H := H) ⟨F0, H0, τ0, F, τ, T, δ, s, p⟩
  exact cLc hw this
end
end DD

/-! DD5: defs and their promises, calls, raise, try. -/
namespace DD
open PySem PySem.Spec PyProof.Rows L2

/-- a def's promise by its denotation -/
def SpD (K : Kf) (mg : Str → Option Value) (n : Nat) (den : List D → Mo D) : Sp := fun vs H Q E => ∃ F τ T ds, Same F H ∧ TapeF τ F ∧ TapeOk τ T H ∧ Reps K F τ ds vs ∧ ds.length = n ∧
  Pst mg (fun c dd _ H' => E c dd H') (Rep K) [] F H τ Q (den ds T)
theorem SpD.len {K : Kf} {mg : Str → Option Value} {n : Nat} {den : List D → Mo D} {vs : List V} {H : Hp} {Q : VK} {E : XK} (h : SpD K mg n den vs H Q E) : vs.length = n := by
  obtain ⟨F, τ, T, ds, h1, h2, h3, h4, h5, h6⟩ := h
  rw [h4.len, h5]
/-- a def's denotation by its body's: n parameters, k further names -/
def OS.out : OS → Out D
  | .nx _ T' => .ok .non T'
  | .ret d T' => .ok d T'
  | .exc e _ T' => .exc e T'
  | .bk _ _ => .stuck
  | .ct _ _ => .stuck
  | .stuck => .stuck
def runD (k : Nat) (g : SD) : List D → Mo D := fun ds T => (g (ds.map Sl.val ++ List.replicate k Sl.un) T).out
abbrev WF (E : XK) : WX := fun c d _ H => E c d H
theorem SR.init {K : Kf} {F H : Hp} {τ : Option Tp} {T : Option Tape} {ds : List D} {vs : List V} {N : List Str} {k : Nat} (fh : Same F H) (tf : TapeF τ F) (tp : TapeOk τ T H) (r : Reps K F τ ds vs) (hN : N.length = vs.length + k) :
    SR K F H τ F H τ T (ds.map Sl.val ++ List.replicate k Sl.un) (L2.start N vs) := by
  have hk : N.length - vs.length = k := by omega
  unfold L2.start
  rw [hk]
  refine ⟨.refl fh, tp, tf, by simp [r.len], fun i d e => ?_, fun i es e => ?_, fun i j es fs a n e => ?_⟩
  · by_cases l : i < ds.length
    · rw [List.getElem?_append_left (by simpa using l), List.getElem?_map] at e
      cases e1 : ds[i]? with
      | none => rw [e1] at e; cases e
      | some x =>
        rw [e1] at e
        cases e
        obtain ⟨v, h1, h2⟩ := r.at e1
        refine ⟨v, ?_, h2⟩
        rw [List.getElem?_append_left (by simpa [r.len] using l), List.getElem?_map, h1]
        rfl
    · rw [List.getElem?_append_right (by simpa using Nat.le_of_not_lt l), List.getElem?_replicate] at e
      split at e <;> cases e
  · by_cases l : i < ds.length
    · rw [List.getElem?_append_left (by simpa using l), List.getElem?_map] at e
      cases e1 : ds[i]? with
      | none => rw [e1] at e; cases e
      | some x => rw [e1] at e; cases e
    · rw [List.getElem?_append_right (by simpa using Nat.le_of_not_lt l), List.getElem?_replicate] at e
      split at e <;> cases e
  · by_cases l : i < ds.length
    · rw [List.getElem?_append_left (by simpa using l), List.getElem?_map] at e
      cases e1 : ds[i]? with
      | none => rw [e1] at e; cases e
      | some x => rw [e1] at e; cases e
    · rw [List.getElem?_append_right (by simpa using Nat.le_of_not_lt l), List.getElem?_replicate] at e
      split at e <;> cases e
section
variable {P : Program} {w : World} {K : Kf} {mg : Str → Option Value} {base : Heap}
/-- the context of a def's body -/
abbrev BX (P : Program) (w : World) (K : Kf) (mg : Str → Option Value) (base : Heap) (N : List Str) (qual : Str) (sc : Scope) (f : Addr) (cdv : Value) (A : Around) (outer : List PySem.Env) (s : Shared) (H : Hp) (E : XK) : Cx := cxOf (L2.CX P w) P w K mg base N qual sc f cdv A outer s H E
theorem okD {x qual : Str} {st : Stmt} {f : Addr} {fd : FuncData} {N ps : List Str} {n k j : Nat} {g : SD} (F : Fun K x qual st f fd) (S : FnScope N ps (defScope st)) (hn : ps.length = n) (hk : N.length = n + k)
    (hbody : ∀ (cdv : Value) (A : Around) (outer : List PySem.Env) (s : Shared) (H : Hp) (E : XK), Room j (BX P w K mg base N qual (defScope st) f cdv A outer s H E).A → (BX P w K mg base N qual (defScope st) f cdv A outer s H E).A.units + 64 < cLine → Takes (BX P w K mg base N qual (defScope st) f cdv A outer s H E) (WF E) →
      PassesOwn (model P w) (BX P w K mg base N qual (defScope st) f cdv A outer s H E).A (BX P w K mg base N qual (defScope st) f cdv A outer s H E).env (BX P w K mg base N qual (defScope st) f cdv A outer s H E).xe →
      DSs (BX P w K mg base N qual (defScope st) f cdv A outer s H E) (WF E) (defBody st) g) : FnOk P w K mg base (L2.CX P w) (j + 1) f fd ps (SpD K mg n (runD k g)) := by
  refine F.okX S (fun vs H Q E h => by rw [SpD.len h, hn]) fun cdv A outer s H vs Q E hr h => ?_
  refine ⟨_, hbody cdv A outer s H E hr hr.units (takes_of rfl rfl rfl rfl) (passes_of rfl), ?_⟩
  have hl := SpD.len h
  obtain ⟨F0, τ, T, ds, h1, h2, h3, h4, h5, h6⟩ := h
  refine ⟨F0, H, τ, F0, τ, T, ds.map Sl.val ++ List.replicate k Sl.un, SR.init h1 h2 h3 h4 (by rw [hk, hl]), ?_⟩
  unfold runD at h6
  show PstS K mg (WF E) F0 H τ { nx := fun _ H' => Q .non H', rt := Q } (g (ds.map Sl.val ++ List.replicate k Sl.un) T)
  revert h6
  cases g (ds.map Sl.val ++ List.replicate k Sl.un) T with
  | nx δ T' => exact fun h6 F' H' τ' σ' s' => h6 .non F' H' τ' s'.go s'.tp (by unfold Rep; rfl)
  | ret d T' => exact fun h6 v F' H' τ' g' t' f' r' => h6 v F' H' τ' g' t' r'
  | exc e δ T' => exact fun h6 c dd F' H' τ' σ' s' ex => h6 c dd F' H' τ' s'.go s'.tp ex
  | bk δ T' => exact fun h6 => h6.elim
  | ct δ T' => exact fun h6 => h6.elim
  | stuck => exact fun h6 => h6
end
section
variable {X : Cx} {W : WX} {a b c : Expr} {pos : Pos} {fa : DEnv → Mo (List D)} {es : List Expr}
/-- f(..) -/
def dCall (n : Nat) (den : List D → Mo D) (fa : DEnv → Mo (List D)) : DEnv → Mo D := fun δ T => (fa δ T).bind fun ds T1 => if ds.length = n then den ds T1 else .stuck
theorem cCall {K : Kf} {mg : Str → Option Value} {n : Nat} {den : List D → Mo D} {σ : L2.St} {H : Hp} {Q : VK} (q : cG K mg W (Rep K) (dCall n den fa) σ H Q) : tCallS (SpD K mg n den) (WE W) (cG K mg W (Reps K) fa) σ H Q := by
  obtain ⟨F0, H0, τ0, F, τ, T, δ, s, p⟩ := q
  refine cG_bind s p fun ds vs F1 H1 τ1 T1 s1 g1 r1 p1 => ?_
  split at p1
  · rename_i hl
    refine ⟨F1, τ1, T1, ds, s1.go.fh, s1.tf, s1.tp, r1, hl, ?_⟩
    revert p1
    cases den ds T1 with
    | ok d T2 => exact fun p1 => p1
    | exc e T2 => exact fun p1 => p1
    | stuck => exact fun p1 => p1
  · exact p1.elim
theorem de_call {k : Nat} {f : Addr} {fd : FuncData} {ps : List Str} {n : Nat} {den : List D → Mo D} {x : Str} {p : Pos} {e : Expr} (tk : Takes X W) (F : FnOk X.prog X.w X.K X.mg X.base (L2.CX X.prog X.w) k f fd ps (SpD X.K X.mg n den)) (hr : Room k X.A) (hm : X.mg x = some (.ref f)) (hk : PySem.W.keepIn X.K (.ref f) = true) (hb : Binds X.K fd ps [])
    (ha : DA X W (e :: es) fa) (hg : Gl X x := by rfl) (hdb : (x == ("__debug__" : Str)) = false := by decide) (he : starEach (e :: es) X.env = (false, eval e X.env) :: starEach es X.env := by rfl) (hpl : (backTo pos (starEach es X.env)).any (·.1) = false := by rfl) :
    DE X W (.Call (.Name x p) (e :: es) [] pos) (dCall n den fa) := pe_imp (pe_callS F hr hg hm hk hb (fun σ => passAt tk σ) ha hdb he hpl) fun σ H Q q => cCall q

/-! ### raise -/
section
variable {C : Addr} {bmB : List Value} {B newId initId : String}
theorem pmk_own0 {x : Str} {p : Pos} (F : ExcBaseFacts B newId initId bmB) (q : PySem.W.excIn X.K C bmB newId = true) (gC : X.mg x = some (.ref C)) (kC : PySem.W.keepIn X.K (.ref C) = true) (r : Raises X (.ref C)) (hg : Gl X x)
    (hdb : (x == ("__debug__" : Str)) = false := by decide) : PMk X (.Call (.Name x p) [] [] pos) (fun _ H Q => Q (.ref C) none H) := by
  intro pins s σ H Q I h
  refine wpAny_Call_Name_kw (ld_glob I hg gC ?_ hdb)
  refine PySem.W.callWith_K0 I.kIn kC ?_
  show wpAny _ _ (call (.ref C) []) _ _ _
  obtain ⟨bm, N, nm, qn, bs, hdct, sn, sub, ab, col, dd, k0, k1, k2, k3, k5, mN, hC, hN, hni, T⟩ := exc_obj I.kIn q
  refine wpAny_call_exc_subT F T hC hN hni (fun h' e hm => ?_) (Nat.zero_le _)
  exact mk_of I hm r h (I.hok.gone hm.new)
end
def sRaise (x : Str) : SD := fun δ T => .exc ⟨x, none⟩ δ T
abbrev veb : List Value := [.type "ValueError", .type "Exception", .type "BaseException", .type "object"]
/-- facts of an own exception class without own __init__ -/
structure Xc (K : Kf) (mg : Str → Option Value) (x : Str) (C : Addr) : Prop where
  g : mg x = some (.ref C)
  k : PySem.W.keepIn K (.ref C) = true
  e : PySem.W.excIn K C veb "ValueError.__new__" = true
  s : PySem.W.subIn K (.ref C) (.type "BaseException") = some true
  t : PySem.W.typeIn K (.ref C) = some (.type "type")
theorem ds_raise {x : Str} {C : Addr} {p pos' : Pos} (hc : X.calm = true) (tk : Takes X W) (T : Xc X.K X.mg x C) (hg : Gl X x := by rfl) (hdb : (x == ("__debug__" : Str)) = false := by decide) : DS X W (.Raise (some (.Call (.Name x p) [] [] pos)) none pos') (sRaise x) :=
  ps_imp (ps_raise hc tk (pmk_own0 PySem.F.excBase_ValueError T.e T.g T.k (raises_own T.s T.t) hg hdb)) fun D σ H q => by
    obtain ⟨F0, H0, τ0, F, τ, T', δ, s, p⟩ := q
    exact p (.ref C) none F H τ σ s ⟨C, T.g, rfl, rfl⟩

/-! ### try: .. except X: .. -/
/-- the clauses: the class's name, whether it takes an exception of the class named, the suite -/
abbrev Hd := Str × (Str → Option Bool) × SD
/-- no exception leaves a suite -/
def OS.quiet : OS → OS
  | .exc _ _ _ => .stuck
  | .nx δ T => .nx δ T
  | .ret d T => .ret d T
  | .bk δ T => .bk δ T
  | .ct δ T => .ct δ T
  | .stuck => .stuck
def quiet (g : SD) : SD := fun δ T => (g δ T).quiet
def OS.catch : OS → (Exn → SD) → OS
  | .exc e δ T, k => k e δ T
  | .nx δ T, _ => .nx δ T
  | .ret d T, _ => .ret d T
  | .bk δ T, _ => .bk δ T
  | .ct δ T, _ => .ct δ T
  | .stuck, _ => .stuck
def handle (e : Exn) : List Hd → SD
  | [] => fun δ T => .exc e δ T
  | (_, sub, g) :: r => fun δ T => (sub e.cls).elim .stuck fun b => if b = true then quiet g δ T else handle e r δ T
def sTry (g : SD) (l : List Hd) : SD := fun δ T => (g δ T).catch fun e => handle e l
/-- what a clause's class takes -/
def SubOk (X : Cx) (x : Str) (c : Value) (sub : Str → Option Bool) : Prop := Names X x c ∧ ∀ y C b, X.mg y = some (.ref C) → sub y = some b → PySem.W.exmOne X.K (.ref C) c = some b
inductive HdD (X : Cx) : List ExceptHandler → List Hd → List (Value × SD) → Prop
  | nil : HdD X [] [] []
  | cons {x : Str} {c : Value} {sub : Str → Option Bool} {g : SD} {b₀ : Stmt} {suite : List Stmt} {np pos' : Pos} {hds : List ExceptHandler} {l : List Hd} {m : List (Value × SD)} (hc : SubOk X x c sub)
      (hsu : ∀ (a : Addr) (oe : Obj) (cls : Value) (d : Option Addr) (pn : List (Addr × Obj)), Zc cls d oe → (∃ vs, oe.data = .fields vs) → DSs (X.suite a ((a, oe) :: pn)) W0 (b₀ :: suite) g) (r : HdD X hds l m) :
      HdD X (.ExceptHandler (some (.Name x np)) none (b₀ :: suite) pos' :: hds) ((x, sub, g) :: l) ((c, g) :: m)
/-- the exceptions that leave the try's suites are none -/
theorem HdD.ok {hds : List ExceptHandler} {l : List Hd} {m : List (Value × SD)} (h : HdD X hds l m) : HdsOk X hds (m.map fun p => (p.1, fun _ _ _ => cS X.K X.mg W0 p.2)) := by
  induction h with
  | nil => exact .nil
  | cons hc hsu r ih => exact .cons hc.1 (fun a oe cls d pn z f => hsu a oe cls d pn z f) ih
theorem pst_quiet {K : Kf} {mg : Str → Option Value} {F0 H0 : Hp} {τ0 : Option Tp} {D : Ends} {g : SD} {δ : DEnv} {T : Option Tape} (h : PstS K mg W F0 H0 τ0 D (quiet g δ T)) : PstS K mg W0 F0 H0 τ0 D (g δ T) := by
  unfold quiet at h
  cases e : g δ T with
  | nx δ' T' => rw [e] at h; exact h
  | ret d T' => rw [e] at h; exact h
  | bk δ' T' => rw [e] at h; exact h
  | ct δ' T' => rw [e] at h; exact h
  | exc x δ' T' => rw [e] at h; exact h.elim
  | stuck => rw [e] at h; exact h
theorem HdD.handled {hds : List ExceptHandler} {l : List Hd} {m : List (Value × SD)} {F0 H0 : Hp} {τ0 : Option Tp} {D : Ends} {e : Exn} {δ : DEnv} {T : Option Tape} (h : HdD X hds l m) (p : PstS X.K X.mg W F0 H0 τ0 D (handle e l δ T)) :
    ∀ c dd F H τ σ, SR X.K F0 H0 τ0 F H τ T δ σ → ExR X.mg e c dd F → wMany X.K W D (m.map fun p => (p.1, fun _ _ _ => cS X.K X.mg W0 p.2)) c dd σ H := by
  induction h with
  | nil => exact p
  | cons hc hsu r ih =>
    rename_i x cv sub g b₀ suite np pos' hds l m
    intro c dd F H τ σ s ex
    unfold handle at p
    obtain ⟨C, e1, e2, e3⟩ := id ex
    cases es : sub e.cls with
    | none => rw [es] at p; exact p.elim
    | some b =>
      rw [es] at p
      have p : PstS X.K X.mg W F0 H0 τ0 D (if b = true then quiet g δ T else handle e l δ T) := p
      refine ⟨b, ?_, fun hb a _ => ?_, fun hb => ?_⟩
      · rw [e2]; exact hc.2 _ _ _ e1 es
      · subst hb
        exact ⟨F0, H0, τ0, F, τ, T, δ, s, pst_quiet p⟩
      · subst hb
        exact ih p c dd F H τ σ s ex
theorem ds_try {body : List Stmt} {h₀ : ExceptHandler} {hds : List ExceptHandler} {g : SD} {l : List Hd} {m : List (Value × SD)} (hs : X.stack = X.env :: X.outer) (hf : X.env.frame = some X.env.locals) (tk : Takes X W)
    (hb : ∀ (W' : WX) (pn : List (Addr × Obj)) (xe : Value → Shared → Prop), Takes (X.tr pn xe) W' → PassesOwn (model X.prog X.w) X.A X.env xe → DSs (X.tr pn xe) W' body g) (hh : HdD X (h₀ :: hds) l m) : DS X W (.Try body (h₀ :: hds) [] [] pos) (sTry g l) :=
  ps_imp (ps_try_many (tb := fun W' => cS X.K X.mg W' g) hs hf tk hb hh.ok) fun D σ H q => by
    obtain ⟨F0, H0, τ0, F, τ, T, δ, s, p⟩ := q
    refine ⟨F0, H0, τ0, F, τ, T, δ, s, ?_⟩
    unfold sTry at p
    cases e : g δ T with
    | nx δ' T' => rw [e] at p; exact p
    | ret d T' => rw [e] at p; exact p
    | bk δ' T' => rw [e] at p; exact p
    | ct δ' T' => rw [e] at p; exact p
    | exc x δ' T' => rw [e] at p; exact fun c dd F H τ σ s ex => hh.handled p c dd F H τ σ s ex
    | stuck => rw [e] at p; exact p
end
end DD

/-! DD6: the operations on data. -/
namespace DD
open PySem PySem.Spec PyProof.Rows L2
section
variable {K : Kf}
/-! ### + - * // % ** << >> & -/
def oAdd : D → D → Option D
  | .int i, .int j => some (.int (i + j))
  | .tup xs, .tup ys => if xs.length + ys.length < line then some (.tup (xs ++ ys)) else none
  | .lst xs, .lst ys => if xs.length + ys.length < line then some (.lst (xs ++ ys)) else none
  | _, _ => none
def rAddA (K : Kf) : R2 := fun x y H Q => (∃ i j, x = .int i ∧ y = .int j ∧ Q (.int (i + j)) H) ∨ rCatA K x y H Q ∨ rCat x y H Q
theorem op_addA {X : Cx} : OpR X (binaryOp .Add) (rAddA X.K) := OpR.or op_add (OpR.or op_catA op_cat)
theorem opd_add : OpD K (rAddA K) oAdd := by
  intro F H τ T x y v u z Q fh tp r1 r2 e k
  unfold oAdd at e
  split at e
  · cases e
    unfold Rep at r1 r2
    exact .inl ⟨_, _, r1, r2, k _ F H (.refl fh) tp (by unfold Rep; rfl)⟩
  · rename_i xs ys
    split at e
    · rename_i hl
      cases e
      unfold Rep at r1 r2
      obtain ⟨a, vs, e1, h1, h2⟩ := r1
      obtain ⟨b, us, e2, h3, h4⟩ := r2
      refine .inr (.inl ⟨a, b, vs, us, e1, e2, sqT_mono fh h1, sqT_mono fh h3, ?_, fun z => ?_, fun _ z => ?_, fun _ _ p hp => ?_⟩)
      · rw [h2.len, h4.len]; exact Nat.le_of_lt (line_lt hl)
      · have : xs = [] := by
          have := h2.len
          rw [z] at this
          exact List.length_eq_zero_iff.mp this.symm
        subst this
        exact k _ F H (.refl fh) tp (by unfold Rep; exact ⟨b, us, rfl, h3, h4⟩)
      · have : ys = [] := by
          have := h4.len
          rw [z] at this
          exact List.length_eq_zero_iff.mp this.symm
        subst this
        exact k _ F H (.refl fh) tp (by unfold Rep; rw [List.append_nil]; exact ⟨a, vs, rfl, h1, h2⟩)
      · have g := Go.new (τ := τ) (o := .tup (vs ++ us)) fh hp
        refine k _ _ _ g (tp.upd (tp.off hp)) ?_
        unfold Rep
        exact ⟨p, _, rfl, .inl (.inl upd_same), (h2.append h4).mono g.ff fun _ e => e⟩
    · cases e
  · rename_i xs ys
    split at e
    · rename_i hl
      cases e
      unfold Rep at r1 r2
      obtain ⟨a, vs, e1, h1, h2⟩ := r1
      obtain ⟨b, us, e2, h3, h4⟩ := r2
      refine .inr (.inr ⟨a, b, vs, us, e1, e2, fh _ _ h1, fh _ _ h3, ?_, fun p hp => ?_⟩)
      · rw [h2.len, h4.len]; exact Nat.le_of_lt (line_lt hl)
      · have g := Go.new (τ := τ) (o := .lst (vs ++ us)) fh hp
        refine k _ _ _ g (tp.upd (tp.off hp)) ?_
        unfold Rep
        exact ⟨p, _, rfl, upd_same, (h2.append h4).mono g.ff fun _ e => e⟩
    · cases e
  · cases e
abbrev oAddI : D → D → Option D := oI0 fun i j => .int (i + j)
theorem opd_addI : OpD K (rI0 fun i j => .int (i + j)) oAddI := opd_I0 fun _ _ => rfl
abbrev oSub : D → D → Option D := oI0 fun i j => .int (i - j)
theorem opd_sub : OpD K (rI0 fun i j => .int (i - j)) oSub := opd_I0 fun _ _ => rfl
def cMul (i j : Int) : Bool := Nat.blt i.natAbs 18446744073709551616 || Nat.blt j.natAbs 18446744073709551616
theorem cMul_ok {i j : Int} (h : cMul i j = true) : CMul i j := by
  unfold cMul at h
  simp only [Bool.or_eq_true, Nat.blt_eq] at h
  unfold CMul
  omega
abbrev oMul : D → D → Option D := oI cMul fun i j => .int (i * j)
theorem opd_mul : OpD K (rI CMul fun i j => .int (i * j)) oMul := opd_I (fun _ _ => cMul_ok) fun _ _ => rfl
def posI (j : Int) : Bool := Nat.ble 1 j.toNat
theorem posI_eq {j : Int} : posI j = true ↔ 0 < j := by
  unfold posI
  rw [Nat.ble_eq]
  omega
def nnI (j : Int) : Bool := ltI (-1) j
theorem nnI_eq {j : Int} : nnI j = true ↔ 0 ≤ j := by
  unfold nnI
  rw [ltI_eq, decide_eq_true_eq]
  omega
def cDiv (_ j : Int) : Bool := posI j && Nat.blt j.natAbs 115792089237316195423570985008687907853269984665640564039457584007913129639936
theorem cDiv_ok {i j : Int} (h : cDiv i j = true) : CDivW i j := by
  unfold cDiv at h
  simp only [Bool.and_eq_true, posI_eq, Nat.blt_eq] at h
  exact wide_div (b := 256) h.1 (by omega) (by decide) (by decide)
abbrev oDiv : D → D → Option D := oI cDiv fun i j => .int (i / j)
theorem opd_div : OpD K (rI CDivW fun i j => .int (i / j)) oDiv := opd_I (fun _ _ => cDiv_ok) fun _ _ => rfl
abbrev oMod : D → D → Option D := oI (fun _ j => posI j) fun i j => .int (i % j)
theorem opd_mod : OpD K (rI (fun _ j => 0 < j) fun i j => .int (i % j)) oMod := opd_I (fun _ _ h => posI_eq.mp h) fun _ _ => rfl
def cPow (i j : Int) : Bool := nnI j && Nat.ble j.natAbs 1000000 && Nat.blt i.natAbs 18446744073709551616
theorem cPow_ok {i j : Int} (h : cPow i j = true) : CPow i j := by
  unfold cPow at h
  simp only [Bool.and_eq_true, nnI_eq, Nat.blt_eq, Nat.ble_eq] at h
  exact ⟨h.1.1, by omega, h.2⟩
abbrev oPow : D → D → Option D := oI cPow fun i j => .int (i ^ j.toNat)
theorem opd_pow : OpD K (rI CPow fun i j => .int (i ^ j.toNat)) oPow := opd_I (fun _ _ => cPow_ok) fun _ _ => rfl
abbrev oShl : D → D → Option D := oI cPow fun i j => .int (i * 2 ^ j.toNat)
theorem opd_shl : OpD K (rI CPow fun i j => .int (i * 2 ^ j.toNat)) oShl := opd_I (fun _ _ => cPow_ok) fun _ _ => rfl
abbrev oShr : D → D → Option D := oI (fun _ j => nnI j) fun i j => .int (i / 2 ^ j.toNat)
theorem opd_shr : OpD K (rI (fun _ j => 0 ≤ j) fun i j => .int (i / 2 ^ j.toNat)) oShr := opd_I (fun _ _ h => nnI_eq.mp h) fun _ _ => rfl
abbrev oAnd : D → D → Option D := oI0 fun i j => .int (Builtin.bitAnd i j)
theorem opd_and : OpD K (rI0 fun i j => .int (Builtin.bitAnd i j)) oAnd := opd_I0 fun _ _ => rfl
/-! augmented -/
theorem iop_divW {X : Cx} : OpR X (inplaceOp .FloorDiv) (rI CDiv fun i j => .int (i / j)) := iop_fdiv
/-! ### order of ints -/
abbrev oLt : D → D → Option D := oI0 fun i j => .bl (ltI i j)
abbrev oLe : D → D → Option D := oI0 fun i j => .bl (leI i j)
abbrev oGt : D → D → Option D := oI0 fun i j => .bl (ltI j i)
abbrev oGe : D → D → Option D := oI0 fun i j => .bl (leI j i)
theorem opd_lt : OpD K (rI0 fun i j => .bl (decide (i < j))) oLt := opd_I0 fun _ _ => by rw [ltI_eq]; rfl
theorem opd_le : OpD K (rI0 fun i j => .bl (decide (i ≤ j))) oLe := opd_I0 fun _ _ => by rw [leI_eq]; rfl
theorem opd_gt : OpD K (rI0 fun i j => .bl (decide (j < i))) oGt := opd_I0 fun _ _ => by rw [ltI_eq]; rfl
theorem opd_ge : OpD K (rI0 fun i j => .bl (decide (j ≤ i))) oGe := opd_I0 fun _ _ => by rw [leI_eq]; rfl
/-! ### == -/
mutual
def py : D → PyData
  | .non => .none
  | .bl b => .bool b
  | .int i => .int i
  | .str s => .str s
  | .tup ds => .tuple (pys ds)
  | .lst ds => .list (pys ds)
  | .scr ns => .list (ns.map .int)
  | .tape => .dict []
def pys : List D → List PyData
  | [] => []
  | d :: ds => py d :: pys ds
end
theorem dp_ints {H : Hp} : ∀ ns : List Int, DpAll K H (ns.map V.int) (ns.map PyData.int)
  | [] => .nil
  | n :: r => .cons (.int n) (dp_ints r)
mutual
theorem rep_dp {F H : Hp} {τ : Option Tp} (fh : Same F H) : ∀ {d : D} {v : V}, Rep K F τ d v → (py d).canLay0 = true → Dp K H v (py d)
  | .non, v, h, _ => by unfold Rep at h; subst h; unfold py; exact .non
  | .bl b, v, h, _ => by unfold Rep at h; subst h; unfold py; exact .bl b
  | .int b, v, h, _ => by unfold Rep at h; subst h; unfold py; exact .int b
  | .str b, v, h, _ => by unfold Rep at h; subst h; unfold py; exact .str b
  | .tup ds, v, h, c => by
    unfold Rep at h
    obtain ⟨a, vs, rfl, h1, h2⟩ := h
    unfold py at c ⊢
    unfold PyData.canLay0 at c
    exact .tup (sqT_mono fh h1) (reps_dp fh h2 c)
  | .lst ds, v, h, c => by
    unfold Rep at h
    obtain ⟨a, vs, rfl, h1, h2⟩ := h
    unfold py at c ⊢
    unfold PyData.canLay0 at c
    exact .lst (.inl (.inl (fh _ _ h1))) (reps_dp fh h2 c)
  | .scr ns, v, h, c => by
    unfold Rep at h
    obtain ⟨a, rfl, h1⟩ := h
    unfold py
    exact .lst (sqL_mono fh h1) (dp_ints ns)
  | .tape, v, h, c => by
    unfold py at c
    unfold PyData.canLay0 at c
    cases c
theorem reps_dp {F H : Hp} {τ : Option Tp} (fh : Same F H) : ∀ {ds : List D} {vs : List V}, Reps K F τ ds vs → PyData.canLayAll0 (pys ds) = true → DpAll K H vs (pys ds)
  | [], vs, h, _ => by unfold Reps at h; subst h; unfold pys; exact .nil
  | d :: ds, vs, h, c => by
    unfold Reps at h
    obtain ⟨v, r, rfl, h1, h2⟩ := h
    unfold pys at c ⊢
    unfold PyData.canLayAll0 at c
    rw [Bool.and_eq_true] at c
    exact .cons (rep_dp fh h1 c.1) (reps_dp fh h2 c.2)
end
def eqD (x y : D) : Bool := PyData.eqv (py x) (py y)
def shD (x : D) : Bool := SeqAt.shaped (py x)
def oEq : D → D → Option D := fun x y => if shD x = true ∧ shD y = true then some (.bl (eqD x y)) else none
def oNe : D → D → Option D := fun x y => if shD x = true ∧ shD y = true then some (.bl (!eqD x y)) else none
theorem opd_eq : OpD K (rEqD K) oEq := by
  intro F H τ T x y v u z Q fh tp r1 r2 e k
  unfold oEq at e
  split at e
  · rename_i h
    cases e
    exact ⟨py x, py y, rep_dp fh r1 (SeqAt.canLay_of_shaped h.1), rep_dp fh r2 (SeqAt.canLay_of_shaped h.2), h.1, h.2, k _ F H (.refl fh) tp (by unfold Rep; rfl)⟩
  · cases e
theorem opd_ne : OpD K (rNeD K) oNe := by
  intro F H τ T x y v u z Q fh tp r1 r2 e k
  unfold oNe at e
  split at e
  · rename_i h
    cases e
    exact ⟨py x, py y, rep_dp fh r1 (SeqAt.canLay_of_shaped h.1), rep_dp fh r2 (SeqAt.canLay_of_shaped h.2), h.1, h.2, k _ F H (.refl fh) tp (by unfold Rep; rfl)⟩
  · cases e
/-! ### is None -/
def isN : D → Bool
  | .non => true
  | _ => false
theorem rep_isN {F : Hp} {τ : Option Tp} : ∀ {d : D} {v : V}, Rep K F τ d v → decide (v = .non) = isN d
  | .non, v, h => by unfold Rep at h; subst h; rfl
  | .bl b, v, h => by unfold Rep at h; subst h; rfl
  | .int b, v, h => by unfold Rep at h; subst h; rfl
  | .str b, v, h => by unfold Rep at h; subst h; rfl
  | .tup ds, v, h => by unfold Rep at h; obtain ⟨a, vs, rfl, h1, h2⟩ := h; rfl
  | .lst ds, v, h => by unfold Rep at h; obtain ⟨a, vs, rfl, h1, h2⟩ := h; rfl
  | .scr ds, v, h => by unfold Rep at h; obtain ⟨a, rfl, h1⟩ := h; rfl
  | .tape, v, h => by unfold Rep at h; obtain ⟨a, _, rfl⟩ := h; rfl
def oIs : D → D → Option D
  | x, .non => some (.bl (isN x))
  | _, _ => none
def oIsNot : D → D → Option D
  | x, .non => some (.bl (!isN x))
  | _, _ => none
theorem opd_is : OpD K (fun x y H Q => y = .non ∧ Q (.bl (decide (x = .non))) H) oIs := by
  intro F H τ T x y v u z Q fh tp r1 r2 e k
  unfold oIs at e
  split at e
  · cases e
    unfold Rep at r2
    exact ⟨r2, by rw [rep_isN r1]; exact k _ F H (.refl fh) tp (by unfold Rep; rfl)⟩
  · cases e
theorem opd_isnot : OpD K (fun x y H Q => y = .non ∧ Q (.bl (!decide (x = .non))) H) oIsNot := by
  intro F H τ T x y v u z Q fh tp r1 r2 e k
  unfold oIsNot at e
  split at e
  · cases e
    unfold Rep at r2
    exact ⟨r2, by rw [rep_isN r1]; exact k _ F H (.refl fh) tp (by unfold Rep; rfl)⟩
  · cases e
/-! ### in -/
def flatD : D → Bool
  | .non => true
  | .bl _ => true
  | .int _ => true
  | .str _ => true
  | _ => false
def toV : D → V
  | .non => .non
  | .bl b => .bl b
  | .int i => .int i
  | .str s => .str s
  | _ => .non
theorem rep_flat {F : Hp} {τ : Option Tp} {d : D} {v : V} (h : Rep K F τ d v) (f : flatD d = true) : v = toV d ∧ flatV v = true := by
  cases d with
  | non => unfold Rep at h; subst h; exact ⟨rfl, rfl⟩
  | bl b => unfold Rep at h; subst h; exact ⟨rfl, rfl⟩
  | int b => unfold Rep at h; subst h; exact ⟨rfl, rfl⟩
  | str b => unfold Rep at h; subst h; exact ⟨rfl, rfl⟩
  | _ => cases f
theorem reps_flat {F : Hp} {τ : Option Tp} : ∀ {ds : List D} {vs : List V}, Reps K F τ ds vs → ds.all flatD = true → vs = ds.map toV ∧ vs.all flatV = true
  | [], vs, h, _ => by unfold Reps at h; subst h; exact ⟨rfl, rfl⟩
  | d :: ds, vs, h, f => by
    unfold Reps at h
    obtain ⟨v, r, rfl, h1, h2⟩ := h
    rw [List.all_cons, Bool.and_eq_true] at f
    obtain ⟨k1, k2⟩ := rep_flat h1 f.1
    obtain ⟨k3, k4⟩ := reps_flat h2 f.2
    exact ⟨by rw [k1, k3]; rfl, by rw [List.all_cons, k2, k4]; rfl⟩
def seqOf : D → Option (List D)
  | .tup ds => some ds
  | .lst ds => some ds
  | .scr ns => some (ns.map .int)
  | _ => none
theorem rep_seq {F H : Hp} {τ : Option Tp} (fh : Same F H) {d : D} {v : V} {ds : List D} (h : Rep K F τ d v) (e : seqOf d = some ds) : ∃ a vs, v = .ref a ∧ (SqL K H a vs ∨ SqT K H a vs) ∧ Reps K F τ ds vs := by
  unfold seqOf at e
  split at e
  · cases e
    unfold Rep at h
    obtain ⟨a, vs, e1, h1, h2⟩ := h
    exact ⟨a, vs, e1, .inr (sqT_mono fh h1), h2⟩
  · cases e
    unfold Rep at h
    obtain ⟨a, vs, e1, h1, h2⟩ := h
    exact ⟨a, vs, e1, .inl (.inl (.inl (fh _ _ h1))), h2⟩
  · cases e
    unfold Rep at h
    obtain ⟨a, e1, h1⟩ := h
    exact ⟨a, _, e1, .inl (sqL_mono fh h1), Reps.ints⟩
  · cases e
def inD (x : D) (ds : List D) : Bool := inV (toV x) (ds.map toV)
def oIn (neg : Bool) : D → D → Option D := fun x y => (seqOf y).bind fun ds => if flatD x = true ∧ ds.all flatD = true then some (.bl (if neg then !inD x ds else inD x ds)) else none
theorem opd_in {neg : Bool} : OpD K (rIn K neg) (oIn neg) := by
  intro F H τ T x y v u z Q fh tp r1 r2 e k
  unfold oIn at e
  cases es : seqOf y with
  | none => rw [es] at e; cases e
  | some ds =>
    rw [es] at e
    have e : (if flatD x = true ∧ ds.all flatD = true then some (D.bl (if neg then !inD x ds else inD x ds)) else none) = some z := e
    split at e
    · rename_i hf
      cases e
      obtain ⟨a, vs, e1, h1, h2⟩ := rep_seq fh r2 es
      obtain ⟨k1, k2⟩ := rep_flat r1 hf.1
      obtain ⟨k3, k4⟩ := reps_flat h2 hf.2
      refine ⟨a, vs, e1, h1, k2, k4, ?_⟩
      rw [k1, k3]
      exact k _ F H (.refl fh) tp (by unfold Rep; rfl)
    · cases e
/-! ### x[i] -/
def oIx : D → D → Option D := fun x y => (seqOf x).bind fun ds => (asI y).bind fun i => atI ds i
theorem atI_reps {F : Hp} {τ : Option Tp} {ds : List D} {vs : List V} {i : Int} {d : D} (r : Reps K F τ ds vs) (h : atI ds i = some d) : ∃ v, atI vs i = some v ∧ Rep K F τ d v := by
  unfold atI at h ⊢
  rw [r.len]
  cases e : ixN ds.length i with
  | none => rw [e] at h; cases h
  | some j =>
    rw [e] at h
    exact r.at h
def rIxA (K : Kf) : R2 := fun x y H Q => rIxL K x y H Q ∨ rIxT K x y H Q
theorem ix_A {X : Cx} : IxR X (rIxA X.K) := ix_list.or ix_tup
theorem opd_ix : OpD K (rIxA K) oIx := by
  intro F H τ T x y v u z Q fh tp r1 r2 e k
  unfold oIx at e
  cases es : seqOf x with
  | none => rw [es] at e; cases e
  | some ds =>
    rw [es] at e
    have e : ((asI y).bind fun i => atI ds i) = some z := e
    cases ei : asI y with
    | none => rw [ei] at e; cases e
    | some i =>
      rw [ei] at e
      have e : atI ds i = some z := e
      rw [asI_eq ei] at r2
      obtain ⟨a, vs, e1, h1, h2⟩ := rep_seq fh r1 es
      obtain ⟨w, h3, h4⟩ := atI_reps h2 e
      unfold Rep at r2
      rcases h1 with h1 | h1
      · exact .inl ⟨a, vs, i, w, e1, r2, h1, h3, k w F H (.refl fh) tp h4⟩
      · exact .inr ⟨a, vs, i, w, e1, r2, h1, h3, k w F H (.refl fh) tp h4⟩
/-! ### - x, not -/
def oNeg : D → Option D
  | .int i => some (.int (-i))
  | _ => none
theorem und_neg : UnD K (rU fun i => .int (-i)) oNeg := by
  intro F H τ T x v z Q fh tp r1 e k
  unfold oNeg at e
  split at e
  · cases e
    unfold Rep at r1
    exact ⟨_, r1, k _ F H (.refl fh) tp (by unfold Rep; rfl)⟩
  · cases e
end

/-! ### built-ins called -/
section
variable {X : Cx} {W : WX} {a b c : Expr} {f g h : DEnv → Mo D} {pos : Pos} {fa : DEnv → Mo (List D)} {es : List Expr}
def CallD (K : Kf) (r : List V → Hp → VK → Prop) (o : List D → Option D) : Prop := ∀ F H τ T xs vs z (Q : VK), Same F H → TapeOk τ T H → Reps K F τ xs vs → o xs = some z →
  (∀ w F' H', Go F H τ F' H' τ → TapeOk τ T H' → Rep K F' τ z w → Q w H') → r vs H Q
def dB (o : List D → Option D) (fa : DEnv → Mo (List D)) : DEnv → Mo D := fun δ T => (fa δ T).bind fun xs T1 => lift (o xs) T1
theorem cB {K : Kf} {mg : Str → Option Value} {r : List V → Hp → VK → Prop} {o : List D → Option D} (ho : CallD K r o) {σ : L2.St} {H : Hp} {Q : VK} (q : cG K mg W (Rep K) (dB o fa) σ H Q) : tCB r (cG K mg W (Reps K) fa) σ H Q := by
  obtain ⟨F0, H0, τ0, F, τ, T, δ, s, p⟩ := q
  refine cG_bind s p fun xs vs F1 H1 τ1 T1 s1 g1 r1 p1 => ?_
  cases e : o xs with
  | none => rw [e] at p1; exact p1.elim
  | some z =>
    rw [e] at p1
    exact ho F1 H1 τ1 T1 xs vs z Q s1.go.fh s1.tp r1 e fun w F' H' g' t' r' => p1 w F' H' τ1 g' t' r'
theorem de_b {id : String} {r : List V → Hp → VK → Prop} {o : List D → Option D} {x : Str} {p : Pos} {e : Expr} (hc : CallR X (.builtin id) r) (ho : CallD X.K r o) (hm : X.mg x = none) (hv : bootBuiltins x = some (.builtin id)) (ha : DA X W (e :: es) fa) (hg : Gl X x := by rfl) (hn : x ≠ "__name__" := by decide) (hdb : (x == ("__debug__" : Str)) = false := by decide)
    (he : starEach (e :: es) X.env = (false, eval e X.env) :: starEach es X.env := by rfl) (hpl : (backTo pos (starEach es X.env)).any (·.1) = false := by rfl) : DE X W (.Call (.Name x p) (e :: es) [] pos) (dB o fa) := pe_imp (pe_callB hc hg hm hv ha hn hdb he hpl) fun σ H Q q => cB ho q
theorem de_ty {id : String} {r : List V → Hp → VK → Prop} {o : List D → Option D} {x : Str} {p : Pos} {e : Expr} (hc : CallR X (.type id) r) (ho : CallD X.K r o) (hm : X.mg x = none) (hv : bootBuiltins x = some (.type id)) (ha : DA X W (e :: es) fa) (hg : Gl X x := by rfl) (hn : x ≠ "__name__" := by decide) (hdb : (x == ("__debug__" : Str)) = false := by decide)
    (he : starEach (e :: es) X.env = (false, eval e X.env) :: starEach es X.env := by rfl) (hpl : (backTo pos (starEach es X.env)).any (·.1) = false := by rfl) : DE X W (.Call (.Name x p) (e :: es) [] pos) (dB o fa) := pe_imp (pe_callTy hc hg hm hv ha hn hdb he hpl) fun σ H Q q => cB ho q
variable {K : Kf}
def oAbs : List D → Option D
  | [.int i] => some (.int (if i < 0 then -i else i))
  | _ => none
theorem cd_abs : CallD K (fun xs H Q => ∃ i, xs = [.int i] ∧ Q (.int (if i < 0 then -i else i)) H) oAbs := by
  intro F H τ T xs vs z Q fh tp r e k
  unfold oAbs at e
  split at e
  · cases e
    obtain ⟨v, rfl, r1⟩ := reps1 r
    unfold Rep at r1
    exact ⟨_, by rw [r1], k _ F H (.refl fh) tp (by unfold Rep; rfl)⟩
  · cases e
def oInt : List D → Option D
  | [.int i] => some (.int i)
  | [.bl b] => some (.int (if b then 1 else 0))
  | _ => none
theorem cd_int : CallD K (fun xs H Q => (∃ i, xs = [.int i] ∧ Q (.int i) H) ∨ ∃ k, xs = [.bl k] ∧ Q (.int (if k then 1 else 0)) H) oInt := by
  intro F H τ T xs vs z Q fh tp r e k
  unfold oInt at e
  split at e
  · cases e
    obtain ⟨v, rfl, r1⟩ := reps1 r
    unfold Rep at r1
    exact .inl ⟨_, by rw [r1], k _ F H (.refl fh) tp (by unfold Rep; rfl)⟩
  · cases e
    obtain ⟨v, rfl, r1⟩ := reps1 r
    unfold Rep at r1
    exact .inr ⟨_, by rw [r1], k _ F H (.refl fh) tp (by unfold Rep; rfl)⟩
  · cases e
def oMax : List D → Option D
  | [.int i, .int j] => some (.int (if j > i then j else i))
  | _ => none
def oMin : List D → Option D
  | [.int i, .int j] => some (.int (if j < i then j else i))
  | _ => none
theorem cd_max : CallD K (fun xs H Q => ∃ i j, xs = [.int i, .int j] ∧ Q (.int (if j > i then j else i)) H) oMax := by
  intro F H τ T xs vs z Q fh tp r e k
  unfold oMax at e
  split at e
  · cases e
    obtain ⟨v, u, rfl, r1, r2⟩ := reps2 r
    unfold Rep at r1 r2
    exact ⟨_, _, by rw [r1, r2], k _ F H (.refl fh) tp (by unfold Rep; rfl)⟩
  · cases e
theorem cd_min : CallD K (fun xs H Q => ∃ i j, xs = [.int i, .int j] ∧ Q (.int (if j < i then j else i)) H) oMin := by
  intro F H τ T xs vs z Q fh tp r e k
  unfold oMin at e
  split at e
  · cases e
    obtain ⟨v, u, rfl, r1, r2⟩ := reps2 r
    unfold Rep at r1 r2
    exact ⟨_, _, by rw [r1, r2], k _ F H (.refl fh) tp (by unfold Rep; rfl)⟩
  · cases e
def oLen : List D → Option D
  | [x] => (seqOf x).map fun ds => .int (ds.length : Nat)
  | _ => none
theorem cd_len : CallD K (fun xs H Q => ∃ p ys, xs = [.ref p] ∧ (SqL K H p ys ∨ SqT K H p ys) ∧ Q (.int ys.length) H) oLen := by
  intro F H τ T xs vs z Q fh tp r e k
  unfold oLen at e
  split at e
  · rename_i x
    obtain ⟨v, rfl, r1⟩ := reps1 r
    cases es : seqOf x with
    | none => rw [es] at e; cases e
    | some ds =>
      rw [es] at e
      cases e
      obtain ⟨a, vs, e1, h1, h2⟩ := rep_seq fh r1 es
      exact ⟨a, vs, by rw [e1], h1, k _ F H (.refl fh) tp (by unfold Rep; rw [h2.len])⟩
  · cases e
/-- tuple(x) -/
def oTuple : List D → Option D
  | [x] => (seqOf x).map fun ds => .tup ds
  | _ => none
theorem cd_tuple : CallD K (fun xs H Q => ∃ p ys, xs = [.ref p] ∧ ((SqL K H p ys ∧ ∀ l, H l = none → Q (.ref l) (upd H l (.tup ys))) ∨ (SqT K H p ys ∧ Q (.ref p) H))) oTuple := by
  intro F H τ T xs vs z Q fh tp r e k
  unfold oTuple at e
  split at e
  · rename_i x
    obtain ⟨v, rfl, r1⟩ := reps1 r
    have lst : ∀ {a : Addr} {us : List V} {ds : List D}, v = .ref a → SqL K H a us → Reps K F τ ds us → z = .tup ds → ∃ p ys, [v] = [V.ref p] ∧ ((SqL K H p ys ∧ ∀ l, H l = none → Q (.ref l) (upd H l (.tup ys))) ∨ (SqT K H p ys ∧ Q (.ref p) H)) := fun {a us ds} e1 h1 h2 ez => by
      refine ⟨a, us, by rw [e1], .inl ⟨h1, fun l hl => ?_⟩⟩
      have g := Go.new (τ := τ) (o := .tup us) fh hl
      refine k _ _ _ g (tp.upd (tp.off hl)) ?_
      rw [ez]
      unfold Rep
      exact ⟨l, us, rfl, .inl (.inl upd_same), h2.mono g.ff fun _ e => e⟩
    cases x with
    | tup ds =>
      cases e
      have r2 := r1
      unfold Rep at r2
      obtain ⟨a, us, e1, h1, h2⟩ := r2
      exact ⟨a, us, by rw [e1], .inr ⟨sqT_mono fh h1, by rw [← e1]; exact k _ F H (.refl fh) tp r1⟩⟩
    | lst ds =>
      cases e
      unfold Rep at r1
      obtain ⟨a, us, e1, h1, h2⟩ := r1
      exact lst e1 (.inl (.inl (fh _ _ h1))) h2 rfl
    | scr ns =>
      cases e
      unfold Rep at r1
      obtain ⟨a, e1, h1⟩ := r1
      exact lst e1 (sqL_mono fh h1) Reps.ints rfl
    | _ => cases e
  · cases e
/-- sum(xs) -/
def intsOf : List D → Option (List Int)
  | [] => some []
  | .int i :: r => (intsOf r).map (i :: ·)
  | _ :: _ => none
def blsOf : List D → Option (List Bool)
  | [] => some []
  | .bl i :: r => (blsOf r).map (i :: ·)
  | _ :: _ => none
theorem intsOf_eq : ∀ {ds : List D} {ns : List Int}, intsOf ds = some ns → ds = ns.map .int
  | [], ns, h => by cases h; rfl
  | .int i :: r, ns, h => by
    unfold intsOf at h
    cases e : intsOf r with
    | none => rw [e] at h; cases h
    | some ms => rw [e] at h; cases h; rw [intsOf_eq e]; rfl
  | .non :: _, _, h => by cases h
  | .bl _ :: _, _, h => by cases h
  | .str _ :: _, _, h => by cases h
  | .tup _ :: _, _, h => by cases h
  | .lst _ :: _, _, h => by cases h
  | .scr _ :: _, _, h => by cases h
  | .tape :: _, _, h => by cases h
theorem blsOf_eq : ∀ {ds : List D} {ns : List Bool}, blsOf ds = some ns → ds = ns.map .bl
  | [], ns, h => by cases h; rfl
  | .bl i :: r, ns, h => by
    unfold blsOf at h
    cases e : blsOf r with
    | none => rw [e] at h; cases h
    | some ms => rw [e] at h; cases h; rw [blsOf_eq e]; rfl
  | .non :: _, _, h => by cases h
  | .int _ :: _, _, h => by cases h
  | .str _ :: _, _, h => by cases h
  | .tup _ :: _, _, h => by cases h
  | .lst _ :: _, _, h => by cases h
  | .scr _ :: _, _, h => by cases h
  | .tape :: _, _, h => by cases h
def oSum : List D → Option D
  | [x] => (lstOf x).bind fun ds => (intsOf ds).map fun ns => .int ns.sum
  | _ => none
theorem cd_sum : CallD K (rSum K) oSum := by
  intro F H τ T xs vs z Q fh tp r e k
  unfold oSum at e
  split at e
  · rename_i x
    obtain ⟨v, rfl, r1⟩ := reps1 r
    cases es : lstOf x with
    | none => rw [es] at e; cases e
    | some ds =>
      rw [es] at e
      cases ei : intsOf ds with
      | none => simp [ei] at e
      | some ns =>
        simp [ei] at e
        subst e
        obtain ⟨a, us, e1, _, h1, h2⟩ := rep_lst fh r1 es
        rw [intsOf_eq ei] at h2
        rw [h2.of_ints] at h1
        exact ⟨a, ns, by rw [e1], h1, k _ F H (.refl fh) tp (by unfold Rep; rfl)⟩
  · cases e
def oAll : List D → Option D
  | [x] => (lstOf x).bind fun ds => (blsOf ds).map fun ns => .bl (ns.all id)
  | _ => none
def oAny : List D → Option D
  | [x] => (lstOf x).bind fun ds => (blsOf ds).map fun ns => .bl (ns.any id)
  | _ => none
theorem cd_all : CallD K (rAll K) oAll := by
  intro F H τ T xs vs z Q fh tp r e k
  unfold oAll at e
  split at e
  · rename_i x
    obtain ⟨v, rfl, r1⟩ := reps1 r
    cases es : lstOf x with
    | none => rw [es] at e; cases e
    | some ds =>
      rw [es] at e
      cases ei : blsOf ds with
      | none => simp [ei] at e
      | some ns =>
        simp [ei] at e
        subst e
        obtain ⟨a, us, e1, _, h1, h2⟩ := rep_lst fh r1 es
        rw [blsOf_eq ei] at h2
        rw [h2.of_bls] at h1
        exact ⟨a, ns, by rw [e1], h1, k _ F H (.refl fh) tp (by unfold Rep; simp)⟩
  · cases e
theorem cd_any : CallD K (rAny K) oAny := by
  intro F H τ T xs vs z Q fh tp r e k
  unfold oAny at e
  split at e
  · rename_i x
    obtain ⟨v, rfl, r1⟩ := reps1 r
    cases es : lstOf x with
    | none => rw [es] at e; cases e
    | some ds =>
      rw [es] at e
      cases ei : blsOf ds with
      | none => simp [ei] at e
      | some ns =>
        simp [ei] at e
        subst e
        obtain ⟨a, us, e1, _, h1, h2⟩ := rep_lst fh r1 es
        rw [blsOf_eq ei] at h2
        rw [h2.of_bls] at h1
        exact ⟨a, ns, by rw [e1], h1, k _ F H (.refl fh) tp (by unfold Rep; simp)⟩
  · cases e
/-- isinstance(x, T), T a built-in class -/
def isD (T : String) : D → Option Bool
  | .non => kitB "NoneType" T
  | .bl _ => kitB "bool" T
  | .int _ => kitB "int" T
  | .str _ => kitB "str" T
  | .tup _ => kitB "tuple" T
  | .lst _ => kitB "list" T
  | .scr _ => kitB "list" T
  | .tape => none
theorem tyx_tup {H : Hp} {a : Addr} {vs : List V} (h : SqT K H a vs) : TyX K H (.ref a) (.type "tuple") := by
  rcases h with (h | ⟨o, h⟩) | ⟨o, its, n, h1, h2, h3⟩
  · exact .base (.tup h)
  · exact .fTuple h
  · exact .kTuple h1 h2
theorem tyx_lst {H : Hp} {a : Addr} {vs : List V} (h : SqL K H a vs) : TyX K H (.ref a) (.type "list") := by
  rcases h with (h | ⟨o, h⟩) | ⟨o, its, n, h1, h2, h3⟩
  · exact .base (.lst h)
  · exact .base (.frz h)
  · exact .kList h1 h2
def dIsi (T : String) (f : DEnv → Mo D) : DEnv → Mo D := fun δ T1 => (f δ T1).bind fun x T2 => lift ((isD T x).map .bl) T2
theorem de_isi {T : Str} {Ty : String} {p p2 : Pos} (hm : X.mg "isinstance" = none) (ha : DE X W a f) (hmT : X.mg T = none) (hvT : bootBuiltins T = some (.type Ty)) (hg : Gl X "isinstance" := by rfl) (hgT : Gl X T := by rfl) (hnT : T ≠ "__name__" := by decide) (hdT : (T == ("__debug__" : Str)) = false := by decide)
    (he : starEach [a, .Name T p2] X.env = (false, eval a X.env) :: starEach [.Name T p2] X.env := by rfl) (he2 : starEach [.Name T p2] X.env = (false, eval (.Name T p2) X.env) :: starEach [] X.env := by rfl) (hpl : (backTo pos (starEach [.Name T p2] X.env)).any (·.1) = false := by rfl) :
    DE X W (.Call (.Name "isinstance" p) [a, .Name T p2] [] pos) (dIsi Ty f) :=
  pe_imp (pe_callB call_isi hg hm (by decide +kernel) (pa_cons ha (pa_cons (pe_bltn (v := .ty Ty) hgT hmT hvT rfl hnT hdT) pa_nil he2) he) (by decide) (by decide) he hpl) fun σ H Q q => by
    obtain ⟨F0, H0, τ0, F, τ, T', δ, s, p⟩ := q
    refine cG_bind s p fun x v F1 H1 τ1 T1 s1 g1 r1 p1 => ?_
    have fin : ∀ (t : String) (b : Bool), TyX X.K H1 v (.type t) → kitB t Ty = some b → isD Ty x = some b → rIsi X.K [v, .ty Ty] H1 Q := fun t b ty hb hd => by
      refine ⟨v, .ty Ty, .type t, .type Ty, b, rfl, .ty Ty, ty, hb, ?_⟩
      rw [hd] at p1
      exact p1 _ F1 H1 τ1 (.refl s1.go.fh) s1.tp (by unfold Rep; rfl)
    cases e : isD Ty x with
    | none => rw [e] at p1; exact p1.elim
    | some b =>
      cases x with
      | non => unfold Rep at r1; subst r1; exact fin "NoneType" b (.base .non) e e
      | bl y => unfold Rep at r1; subst r1; exact fin "bool" b (.base (.bl y)) e e
      | int y => unfold Rep at r1; subst r1; exact fin "int" b (.base (.int y)) e e
      | str y => unfold Rep at r1; subst r1; exact fin "str" b (.base (.str y)) e e
      | tup ds => unfold Rep at r1; obtain ⟨q, vs, rfl, h1, h2⟩ := r1; exact fin "tuple" b (tyx_tup (sqT_mono s1.go.fh h1)) e e
      | lst ds => unfold Rep at r1; obtain ⟨q, vs, rfl, h1, h2⟩ := r1; exact fin "list" b (.base (.lst (s1.go.fh _ _ h1))) e e
      | scr ds => unfold Rep at r1; obtain ⟨q, rfl, h1⟩ := r1; exact fin "list" b (tyx_lst (sqL_mono s1.go.fh h1)) e e
      | tape => cases e
/-- x.bit_length() -/
def oBits : D → Option D
  | .int i => some (.int (Builtin.Int.intBits i : Nat))
  | _ => none
theorem de_bits {apos : Pos} (ho : DE X W a f) (hbase : attributeBase a "bit_length" X.env (eval a X.env) = eval a X.env := by rfl) (hline : (apos.endLine == pos.line) = true := by rfl) : DE X W (.Call (.Attribute a "bit_length" apos) [] [] pos) (dUn oBits f) :=
  pe_imp (pe_bits ho hbase hline) fun σ H Q q => cun (r := fun x H1 Q => ∃ i, x = .int i ∧ Q (.int (Builtin.Int.intBits i : Nat)) H1) (fun F H τ T x v z Q fh tp r1 e k => by
    unfold oBits at e
    split at e
    · cases e
      unfold Rep at r1
      exact ⟨_, r1, k _ F H (.refl fh) tp (by unfold Rep; rfl)⟩
    · cases e) q
end
end DD

/-! DD7: short words for a printed proof: a def of the text (DefF), its promise kept (OkF), the law's end. -/
namespace DD
open PySem PySem.Spec PyProof.Rows L2
section
variable {P : Program} {w : World} {K : Kf} {mg : Str → Option Value} {base : Heap}
structure DefF (K : Kf) (mg : Str → Option Value) (x : Str) (st : Stmt) (ps : List Str) (f : Addr) (fd : FuncData) : Prop where
  F : Fun K x x st f fd
  b : Binds K fd ps []
  g : mg x = some (.ref f)
/-- a def of the text stands under its name -/
def Def (K : Kf) (mg : Str → Option Value) (x : Str) (st : Stmt) (ps : List Str) : Prop := ∃ f fd, DefF K mg x st ps f fd
/-- the def x keeps the promise of the denotation den -/
def OkF (P : Program) (w : World) (K : Kf) (mg : Str → Option Value) (base : Heap) (x : Str) (ps : List Str) (k n : Nat) (den : List D → Mo D) : Prop :=
  ∃ f fd, mg x = some (.ref f) ∧ PySem.W.keepIn K (.ref f) = true ∧ Binds K fd ps [] ∧ FnOk P w K mg base (L2.CX P w) k f fd ps (SpD K mg n den)
theorem okF {x : Str} {st : Stmt} {N ps : List Str} {n k j : Nat} {g : SD} (T : Def K mg x st ps) (S : FnScope N ps (defScope st)) (hn : ps.length = n) (hk : N.length = n + k)
    (hbody : ∀ (f : Addr) (cdv : Value) (A : Around) (outer : List PySem.Env) (s : Shared) (H : Hp) (E : XK), Room j (BX P w K mg base N x (defScope st) f cdv A outer s H E).A → (BX P w K mg base N x (defScope st) f cdv A outer s H E).A.units + 64 < cLine → Takes (BX P w K mg base N x (defScope st) f cdv A outer s H E) (WF E) →
      PassesOwn (model P w) (BX P w K mg base N x (defScope st) f cdv A outer s H E).A (BX P w K mg base N x (defScope st) f cdv A outer s H E).env (BX P w K mg base N x (defScope st) f cdv A outer s H E).xe →
      DSs (BX P w K mg base N x (defScope st) f cdv A outer s H E) (WF E) (defBody st) g) : OkF P w K mg base x ps (j + 1) n (runD k g) := by
  obtain ⟨f, fd, F⟩ := T
  exact ⟨f, fd, F.g, F.F.kp, F.b, okD F.F S hn hk fun cdv A outer s H E hr hu tk po => hbody f cdv A outer s H E hr hu tk po⟩
/-- a def by its value: den may be replaced by what it is equal to, where it is asked -/
theorem OkF.imp {x : Str} {ps : List Str} {k n : Nat} {den den' : List D → Mo D} (h : OkF P w K mg base x ps k n den) (e : ∀ ds T, ds.length = n → den' ds T ≠ .stuck → den ds T = den' ds T) : OkF P w K mg base x ps k n den' := by
  obtain ⟨f, fd, h1, h2, h3, h4⟩ := h
  refine ⟨f, fd, h1, h2, h3, h4.imp fun vs H Q E q => ?_⟩
  obtain ⟨F, τ, T, ds, q1, q2, q3, q4, q5, q6⟩ := q
  refine ⟨F, τ, T, ds, q1, q2, q3, q4, q5, ?_⟩
  by_cases z : den' ds T = .stuck
  · rw [z] at q6; exact q6.elim
  · rw [e ds T q5 z]; exact q6
/-- the same by less room -/
theorem OkF.mono {x : Str} {ps : List Str} {k k' n : Nat} {den : List D → Mo D} (h : OkF P w K mg base x ps k n den) (e : k ≤ k') : OkF P w K mg base x ps k' n den := by
  obtain ⟨f, fd, h1, h2, h3, h4⟩ := h
  exact ⟨f, fd, h1, h2, h3, h4.mono e⟩
end
section
variable {X : Cx} {W : WX} {a b c : Expr} {f g : DEnv → Mo D} {pos : Pos} {fa : DEnv → Mo (List D)} {es : List Expr}
theorem de_f {k n j : Nat} {ps : List Str} {den : List D → Mo D} {x : Str} {p : Pos} {e : Expr} (tk : Takes X W) (G : OkF X.prog X.w X.K X.mg X.base x ps k n den) (hr : Room j X.A)
    (ha : DA X W (e :: es) fa) (hj : k ≤ j := by decide) (hg : Gl X x := by rfl) (hdb : (x == ("__debug__" : Str)) = false := by decide) (he : starEach (e :: es) X.env = (false, eval e X.env) :: starEach es X.env := by rfl) (hpl : (backTo pos (starEach es X.env)).any (·.1) = false := by rfl) :
    DE X W (.Call (.Name x p) (e :: es) [] pos) (dCall n den fa) := by
  obtain ⟨f, fd, h1, h2, h3, h4⟩ := G
  exact de_call tk h4 (hr.mono hj) h1 h2 h3 ha hg hdb he hpl
/-- a class of errors stands under its name -/
def Xcs (K : Kf) (mg : Str → Option Value) (x : Str) : Prop := ∃ C, Xc K mg x C
theorem ds_raise' {x : Str} {p pos' : Pos} (hc : X.calm = true) (tk : Takes X W) (T : Xcs X.K X.mg x) (hg : Gl X x := by rfl) (hdb : (x == ("__debug__" : Str)) = false := by decide) : DS X W (.Raise (some (.Call (.Name x p) [] [] pos)) none pos') (sRaise x) := by
  obtain ⟨C, T⟩ := T
  exact ds_raise hc tk T hg hdb
/-- what an except clause takes: rows (class raised, whether) -/
def SubIs (K : Kf) (mg : Str → Option Value) (x : Str) (rows : List (Str × Bool)) : Prop := ∃ c, mg x = some c ∧ ∀ p ∈ rows, ∃ C, mg p.1 = some (.ref C) ∧ PySem.W.exmOne K (.ref C) c = some p.2
def subOf (rows : List (Str × Bool)) : Str → Option Bool := fun y => rows.lookup y
theorem lookup_mem {rows : List (Str × Bool)} {y : Str} {b : Bool} (h : rows.lookup y = some b) : (y, b) ∈ rows := by
  induction rows with
  | nil => cases h
  | cons p r ih =>
    obtain ⟨z, c⟩ := p
    rw [List.lookup_cons] at h
    split at h
    · rename_i e
      cases h
      rw [beq_iff_eq] at e
      rw [e]; exact List.mem_cons_self
    · exact List.mem_cons_of_mem _ (ih h)
theorem subOk {x : Str} {rows : List (Str × Bool)} (h : SubIs X.K X.mg x rows) (hg : Gl X x := by rfl) (hdb : (x == ("__debug__" : Str)) = false := by decide) : ∃ c, SubOk X x c (subOf rows) := by
  obtain ⟨c, h1, h2⟩ := h
  refine ⟨c, ⟨hg, hdb, .inl h1⟩, fun y C b e1 e2 => ?_⟩
  obtain ⟨C', e3, e4⟩ := h2 _ (lookup_mem e2)
  rw [e1] at e3
  cases e3
  exact e4
/-- try: .. except x: .., one clause -/
theorem ds_try1 {body : List Stmt} {x : Str} {rows : List (Str × Bool)} {g1 g2 : SD} {b₀ : Stmt} {suite : List Stmt} {np pos' : Pos} (hs : X.stack = X.env :: X.outer) (hf : X.env.frame = some X.env.locals) (tk : Takes X W) (T : SubIs X.K X.mg x rows)
    (hb : ∀ (W' : WX) (pn : List (Addr × Obj)) (xe : Value → Shared → Prop), Takes (X.tr pn xe) W' → PassesOwn (model X.prog X.w) X.A X.env xe → DSs (X.tr pn xe) W' body g1)
    (hsu : ∀ (a : Addr) (oe : Obj) (cls : Value) (d : Option Addr) (pn : List (Addr × Obj)), Zc cls d oe → (∃ vs, oe.data = .fields vs) → DSs (X.suite a ((a, oe) :: pn)) W0 (b₀ :: suite) g2) (hg : Gl X x := by rfl) (hdb : (x == ("__debug__" : Str)) = false := by decide) :
    DS X W (.Try body [.ExceptHandler (some (.Name x np)) none (b₀ :: suite) pos'] [] [] pos) (sTry g1 [(x, subOf rows, g2)]) := by
  obtain ⟨c, hc⟩ := subOk T hg hdb
  exact ds_try hs hf tk hb (.cons hc hsu .nil)
/-- a module's int -/
def GInt (mg : Str → Option Value) (x : Str) (i : Int) : Prop := ∃ t, mg x = some (.int i t)
theorem de_gint {x : Str} {i : Int} (T : GInt X.mg x i) (hg : Gl X x := by rfl) (hd : (x == ("__debug__" : Str)) = false := by decide) : DE X W (.Name x pos) (dC (.int i)) := by
  obtain ⟨t, e⟩ := T
  exact de_glob hg e (v := .int i) ⟨t, rfl⟩ (fun _ _ => by unfold Rep; rfl) hd
end
/-! ### the law's end -/
def spLaw (K : Kf) : Sp := fun vs H Q _ => ∃ (a : Addr) (ns : List Int), vs = [.ref a] ∧ SqL K H a (ns.map V.int) ∧ ns.length ≤ 63 ∧ ∀ H', Q (.bl true) H'
theorem cx_false {P : Program} {w : World} {outer : List PySem.Env} {H : Hp} {s : Shared} {e : Value} {s' : Shared} (h : L2.CX P w outer H s (fun _ _ _ => False) e s') : False := by
  obtain ⟨_, _, _, _, _, _, _, _, _, _, _, _, z⟩ := h
  exact z
theorem law_ok {P : Program} {w : World} {K : Kf} {mg : Str → Option Value} {base : Heap} {k : Nat} {f : Addr} {fd : FuncData} {ps : List Str} {den : List D → Mo D} (F : FnOk P w K mg base (L2.CX P w) k f fd ps (SpD K mg 1 den))
    (h : ∀ ns : List Int, ns.length ≤ 63 → ∃ T, den [.scr ns] none = .ok (.bl true) T) : FnOk P w K mg base (L2.CX P w) k f fd ps (spLaw K) := F.imp fun vs H Q E q => by
  obtain ⟨a, ns, rfl, h1, h2, h3⟩ := q
  obtain ⟨T, e⟩ := h ns h2
  refine ⟨H, none, none, [.scr ns], fun _ _ h => h, (fun _ z => by cases z), trivial, .one (by unfold Rep; exact ⟨a, rfl, h1⟩), rfl, ?_⟩
  rw [e]
  intro v F' H' τ' g t r
  unfold Rep at r
  rw [r]
  exact h3 H'
theorem law_walk {l : PySem.W.OpenLaw} {k : Nat} {q : Program} {loose : List Str} {XP : (Str → Option Value) → Heap → Prop} {YP : World → Heap → Prop} {d : DefRec} {K : Params → PySem.W.Frag} {x : Str}
    (hn : l.most = some 63) (hdf : d.params.defaults = []) (hr : Room k callerA) (hY : ∀ (w : World) (h : Heap), YP w h → (K w.params).In h)
    (F : ∀ (w : World) (mg : Str → Option Value) (fa : Addr) (h : Heap), (K w.params).In h → h.Ns mainGlobals mg → mg d.name = some (.ref fa) →
      ∃ fd : FuncData, (∀ (s : Shared) (u : Value), BindsTo s fd ⟨[u], []⟩ [(x, u)]) ∧
        ∀ base : Heap, (K w.params).In base → base.Ns mainGlobals mg → FnOk l.prog w (K w.params) mg base (L2.CX l.prog w) k fa fd [x] (spLaw (K w.params))) :
    PySem.W.WalkO q loose XP YP l.row.toRowW d [] (fun f vs => PySem.call f vs) :=
  L2.walk_of (n := 63) (k := k) (x := x) (CX := fun w => L2.CX l.prog w) (sp := fun w => spLaw (K w.params)) hn (by decide) hdf hr hY F (fun w H a ns hl _ hS => ⟨a, ns, rfl, hS, hl, fun _ => rfl⟩) fun w H s e s' z => cx_false z
end DD
namespace DD
open PySem PySem.Spec PyProof.Rows L2
theorem exm_of {K : PySem.W.Frag} {y x : Addr} {b : Bool} (h1 : PySem.W.subIn K (.ref x) (.type "BaseException") = some true) (h2 : PySem.W.isClsIn K x = true) (h3 : PySem.W.typeIn K (.ref x) = some (.type "type")) (h4 : PySem.W.subIn K (.ref y) (.ref x) = some b) :
    PySem.W.exmOne K (.ref y) (.ref x) = some b := by
  have e1 : (PySem.W.subIn K (.ref x) (.type "BaseException") == some true) = true := by rw [h1] <;> rfl
  have e2 : ((PySem.W.clsIn K x).isSome && PySem.W.typeIn K (.ref x) == some (.type "type")) = true := by
    have h2' : (PySem.W.clsIn K x).isSome = true := h2
    rw [h2', h3] <;> rfl
  show (if (PySem.W.subIn K (.ref x) (.type "BaseException") == some true) = true then (if ((PySem.W.clsIn K x).isSome && PySem.W.typeIn K (.ref x) == some (.type "type")) = true then PySem.W.subIn K (.ref y) (.ref x) else none) else none) = some b
  rw [if_pos e1, if_pos e2]
  exact h4
end DD

/-! DD8: how a denotation is reckoned: the applied forms, for simp. -/
namespace DD
open PySem PySem.Spec PyProof.Rows L2
section
variable {α β : Type} {δ : DEnv} {T : Option Tape} {f g h : DEnv → Mo D} {fa : DEnv → Mo (List D)} {t u : DEnv → Mo Bool} {g1 g2 b : SD}
@[simp] theorem Out.bind_ok (a : α) (k : α → Mo β) : (Out.ok a T).bind k = k a T := id rfl
@[simp] theorem Out.bind_exc (e : Exn) (k : α → Mo β) : (Out.exc e T : Out α).bind k = .exc e T := id rfl
@[simp] theorem Out.bind_stuck (k : α → Mo β) : (Out.stuck : Out α).bind k = .stuck := id rfl
@[simp] theorem Out.st_ok (a : α) (k : α → Option Tape → OS) : (Out.ok a T).st δ k = k a T := id rfl
@[simp] theorem Out.st_exc (e : Exn) (k : α → Option Tape → OS) : (Out.exc e T : Out α).st δ k = .exc e δ T := id rfl
@[simp] theorem Out.st_stuck (k : α → Option Tape → OS) : (Out.stuck : Out α).st δ k = .stuck := id rfl
@[simp] theorem lift_some (a : α) : lift (some a) T = .ok a T := id rfl
@[simp] theorem lift_none : (lift none T : Out α) = .stuck := id rfl
@[simp] theorem dC_a (d : D) : dC d δ T = .ok d T := id rfl
@[simp] theorem dV_a (i : Nat) : dV i δ T = lift (slotD δ i) T := id rfl
@[simp] theorem slotD_zero (d : D) (r : DEnv) : slotD (Sl.val d :: r) 0 = some d := id rfl
@[simp] theorem slotD_un (r : DEnv) : slotD (Sl.un :: r) 0 = none := id rfl
@[simp] theorem slotD_own (ds : List D) (r : DEnv) : slotD (Sl.own ds :: r) 0 = none := id rfl
@[simp] theorem slotD_succ (i : Nat) (x : Sl) (r : DEnv) : slotD (x :: r) (i + 1) = slotD r i := id rfl
@[simp] theorem asB_bl (b : Bool) : asB (.bl b) = some b := id rfl
@[simp] theorem asI_int (b : Int) : asI (.int b) = some b := id rfl
@[simp] theorem tupOf_tup (ds : List D) : tupOf (.tup ds) = some ds := id rfl
@[simp] theorem lstOf_lst (ds : List D) : lstOf (.lst ds) = some ds := id rfl
@[simp] theorem lstOf_scr (ns : List Int) : lstOf (.scr ns) = some (ns.map .int) := id rfl
@[simp] theorem bindQ_ok (a : α) (k : α → Mo β) : (Out.ok a T).bindQ k = k a T := id rfl
@[simp] theorem bindQ_exc (e : Exn) (k : α → Mo β) : (Out.exc e T : Out α).bindQ k = .stuck := id rfl
@[simp] theorem bindQ_stuck (k : α → Mo β) : (Out.stuck : Out α).bindQ k = .stuck := id rfl
@[simp] theorem seq_nx (k : SD) : (OS.nx δ T).seq k = k δ T := id rfl
@[simp] theorem seq_ret (d : D) (k : SD) : (OS.ret d T).seq k = .ret d T := id rfl
@[simp] theorem seq_bk (k : SD) : (OS.bk δ T).seq k = .bk δ T := id rfl
@[simp] theorem seq_ct (k : SD) : (OS.ct δ T).seq k = .ct δ T := id rfl
@[simp] theorem seq_exc (e : Exn) (k : SD) : (OS.exc e δ T).seq k = .exc e δ T := id rfl
@[simp] theorem seq_stuck (k : SD) : OS.stuck.seq k = .stuck := id rfl
@[simp] theorem turn_nx (k : SD) : (OS.nx δ T).turn k = k δ T := id rfl
@[simp] theorem turn_ret (d : D) (k : SD) : (OS.ret d T).turn k = .ret d T := id rfl
@[simp] theorem turn_bk (k : SD) : (OS.bk δ T).turn k = .nx δ T := id rfl
@[simp] theorem turn_ct (k : SD) : (OS.ct δ T).turn k = k δ T := id rfl
@[simp] theorem turn_exc (e : Exn) (k : SD) : (OS.exc e δ T).turn k = .exc e δ T := id rfl
@[simp] theorem turn_stuck (k : SD) : OS.stuck.turn k = .stuck := id rfl
@[simp] theorem out_nx : (OS.nx δ T).out = .ok .non T := id rfl
@[simp] theorem out_ret (d : D) : (OS.ret d T).out = .ok d T := id rfl
@[simp] theorem out_exc (e : Exn) : (OS.exc e δ T).out = .exc e T := id rfl
@[simp] theorem out_stuck : OS.stuck.out = .stuck := id rfl
@[simp] theorem catch_nx (k : Exn → SD) : (OS.nx δ T).catch k = .nx δ T := id rfl
@[simp] theorem catch_ret (d : D) (k : Exn → SD) : (OS.ret d T).catch k = .ret d T := id rfl
@[simp] theorem catch_bk (k : Exn → SD) : (OS.bk δ T).catch k = .bk δ T := id rfl
@[simp] theorem catch_ct (k : Exn → SD) : (OS.ct δ T).catch k = .ct δ T := id rfl
@[simp] theorem catch_exc (e : Exn) (k : Exn → SD) : (OS.exc e δ T).catch k = k e δ T := id rfl
@[simp] theorem catch_stuck (k : Exn → SD) : OS.stuck.catch k = .stuck := id rfl
@[simp] theorem quiet_a : quiet g1 δ T = (g1 δ T).quiet := id rfl
@[simp] theorem quiet_nx : (OS.nx δ T).quiet = .nx δ T := id rfl
@[simp] theorem quiet_ret (d : D) : (OS.ret d T).quiet = .ret d T := id rfl
@[simp] theorem quiet_bk : (OS.bk δ T).quiet = .bk δ T := id rfl
@[simp] theorem quiet_ct : (OS.ct δ T).quiet = .ct δ T := id rfl
@[simp] theorem quiet_exc (e : Exn) : (OS.exc e δ T).quiet = .stuck := id rfl
@[simp] theorem handle_nil (e : Exn) : handle e [] δ T = .exc e δ T := id rfl
@[simp] theorem handle_cons (e : Exn) (x : Str) (sub : Str → Option Bool) (r : List Hd) : handle e ((x, sub, g1) :: r) δ T = (sub e.cls).elim .stuck fun b => if b = true then quiet g1 δ T else handle e r δ T := id rfl
@[simp] theorem ltI_b (i j : Int) : ltI i j = decide (i < j) := ltI_eq i j
@[simp] theorem leI_b (i j : Int) : leI i j = decide (i ≤ j) := leI_eq i j
@[simp] theorem dBin_a (o : D → D → Option D) : dBin o f g δ T = (f δ T).bind fun x T1 => (g δ T1).bind fun y T2 => lift (o x y) T2 := id rfl
@[simp] theorem dUn_a (o : D → Option D) : dUn o f δ T = (f δ T).bind fun x T1 => lift (o x) T1 := id rfl
@[simp] theorem dTv_a : dTv f δ T = (f δ T).bind fun x T1 => lift (asB x) T1 := id rfl
@[simp] theorem dAnd_a : dAnd t u δ T = (t δ T).bind fun b T1 => if b = true then u δ T1 else .ok false T1 := id rfl
@[simp] theorem dOr_a : dOr t u δ T = (t δ T).bind fun b T1 => if b = true then .ok true T1 else u δ T1 := id rfl
@[simp] theorem dNot_a : dNot t δ T = (t δ T).bind fun b T1 => .ok (!b) T1 := id rfl
@[simp] theorem dAndV_a : dAndV f g δ T = (f δ T).bind fun x T1 => (lift (asB x) T1).bind fun b T2 => if b = true then g δ T2 else .ok (.bl false) T2 := id rfl
@[simp] theorem dOrV_a : dOrV f g δ T = (f δ T).bind fun x T1 => (lift (asB x) T1).bind fun b T2 => if b = true then .ok (.bl true) T2 else g δ T2 := id rfl
@[simp] theorem dNotV_a : dNotV f δ T = (f δ T).bind fun x T1 => lift ((asB x).map fun b => .bl (!b)) T1 := id rfl
@[simp] theorem dIf_a : dIf t f g δ T = (t δ T).bind fun b T1 => if b = true then f δ T1 else g δ T1 := id rfl
@[simp] theorem aN_a : aN δ T = .ok [] T := id rfl
@[simp] theorem aC_a : aC f fa δ T = (f δ T).bind fun x T1 => (fa δ T1).bind fun xs T2 => .ok (x :: xs) T2 := id rfl
@[simp] theorem dTup_a : dTup fa δ T = (fa δ T).bind fun xs T1 => if xs.length < line then .ok (.tup xs) T1 else .stuck := id rfl
@[simp] theorem lLst_a : lLst fa δ T = (fa δ T).bind fun xs T1 => if xs.length < line then .ok xs T1 else .stuck := id rfl
@[simp] theorem dL_a : dL fa δ T = (fa δ T).bind fun xs T1 => .ok (.lst xs) T1 := id rfl
@[simp] theorem dCall_a (n : Nat) (den : List D → Mo D) : dCall n den fa δ T = (fa δ T).bind fun ds T1 => if ds.length = n then den ds T1 else .stuck := id rfl
@[simp] theorem dB_a (o : List D → Option D) : dB o fa δ T = (fa δ T).bind fun xs T1 => lift (o xs) T1 := id rfl
@[simp] theorem dIsi_a (Ty : String) : dIsi Ty f δ T = (f δ T).bind fun x T2 => lift ((isD Ty x).map .bl) T2 := id rfl
/-! statements -/
@[simp] theorem sSeq_a : sSeq g1 g2 δ T = (g1 δ T).seq g2 := id rfl
@[simp] theorem sNext_a : sNext δ T = .nx δ T := id rfl
@[simp] theorem sBreak_a : sBreak δ T = .bk δ T := id rfl
@[simp] theorem sCont_a : sCont δ T = .ct δ T := id rfl
@[simp] theorem sDrop_a : sDrop f δ T = (f δ T).st δ fun _ T1 => .nx δ T1 := id rfl
@[simp] theorem sRet_a : sRet f δ T = (f δ T).st δ fun d T1 => .ret d T1 := id rfl
@[simp] theorem sRetN_a : sRetN δ T = .ret .non T := id rfl
@[simp] theorem sIf_a : sIf t g1 g2 δ T = (t δ T).st δ fun b T1 => if b = true then g1 δ T1 else g2 δ T1 := id rfl
@[simp] theorem sSet_a (i : Nat) : sSet i f δ T = (f δ T).st δ fun d T1 => .nx (δ.set i (.val d)) T1 := id rfl
@[simp] theorem sSetL_a (i : Nat) : sSetL i fa δ T = (fa δ T).st δ fun ds T1 => .nx (δ.set i (.own ds)) T1 := id rfl
@[simp] theorem sAsg_a (tg : TgD) : sAsg tg f δ T = (f δ T).st δ fun d T1 => (tg d δ).elim .stuck fun δ' => .nx δ' T1 := id rfl
@[simp] theorem sPar_a (i j : Nat) : sPar i j f g δ T = (f δ T).st δ fun d T1 => (g δ T1).st δ fun e T2 => .nx ((δ.set i (.val d)).set j (.val e)) T2 := id rfl
@[simp] theorem sPar3_a (i j l : Nat) : sPar3 i j l f g h δ T = (f δ T).st δ fun d T1 => (g δ T1).st δ fun e T2 => (h δ T2).st δ fun m T3 => .nx (((δ.set i (.val d)).set j (.val e)).set l (.val m)) T3 := id rfl
@[simp] theorem sAug_a (i : Nat) (o : D → D → Option D) : sAug i o f δ T = (slotD δ i).elim .stuck fun x => (f δ T).st δ fun y T1 => (o x y).elim .stuck fun z => .nx (δ.set i (.val z)) T1 := id rfl
@[simp] theorem sFor_a (fi : DEnv → Mo (List D)) (tg : TgD) : sFor fi tg b δ T = (fi δ T).st δ fun ds T1 => forD tg b ds δ T1 := id rfl
@[simp] theorem sRaise_a (x : Str) : sRaise x δ T = .exc ⟨x, none⟩ δ T := id rfl
@[simp] theorem sTry_a (l : List Hd) : sTry g1 l δ T = (g1 δ T).catch fun e => handle e l := id rfl
@[simp] theorem tgN_a (i : Nat) (d : D) : tgN i d δ = some (δ.set i (.val d)) := id rfl
@[simp] theorem tgNil_a : tgNil [] δ = some δ := id rfl
@[simp] theorem tgCons_a (t : TgD) (u : TgsD) (d : D) (r : List D) : tgCons t u (d :: r) δ = (t d δ).bind fun δ' => u r δ' := id rfl
@[simp] theorem tgT_a (n : Nat) (t : TgsD) (ds : List D) : tgT n t (.tup ds) δ = if ds.length = n then t ds δ else none := id rfl
@[simp] theorem iSeq_a : iSeq f δ T = (f δ T).bind fun x T1 => lift (tupOf x) T1 := id rfl
@[simp] theorem iLst_a : iLst f δ T = (f δ T).bind fun x T1 => lift (lstOf x) T1 := id rfl
@[simp] theorem iR1_a : iR1 fa δ T = (fa δ T).bind fun ds T1 => lift (rng1 ds) T1 := id rfl
@[simp] theorem iR2_a : iR2 fa δ T = (fa δ T).bind fun ds T1 => lift (rng2 ds) T1 := id rfl
theorem rng1_i (j : Int) : rng1 [.int j] = if rOk j = true then some (rng 0 1 j.toNat) else none := id rfl
theorem rng2_i (i j : Int) : rng2 [.int i, .int j] = if rOk i = true ∧ rOk j = true then some (rng i 1 (j - i).toNat) else none := id rfl
theorem rng1_ok {j : Int} (h : rOk j = true) : rng1 [.int j] = some (rng 0 1 j.toNat) := if_pos h
theorem rng2_ok {i j : Int} (h : rOk i = true) (h' : rOk j = true) : rng2 [.int i, .int j] = some (rng i 1 (j - i).toNat) := if_pos ⟨h, h'⟩
/-! operations -/
@[simp] theorem oAdd_i (i j : Int) : oAdd (.int i) (.int j) = some (.int (i + j)) := id rfl
@[simp] theorem oI0_i (p : Int → Int → D) (i j : Int) : oI0 p (.int i) (.int j) = some (p i j) := id rfl
theorem oI_i (C : Int → Int → Bool) (p : Int → Int → D) (i j : Int) : oI C p (.int i) (.int j) = if C i j = true then some (p i j) else none := id rfl
theorem oI_ok {C : Int → Int → Bool} {p : Int → Int → D} {i j : Int} (h : C i j = true) : oI C p (.int i) (.int j) = some (p i j) := if_pos h
theorem oMul_r {i j : Int} (h1 : -(2 ^ 64) < j) (h2 : j < 2 ^ 64) : oMul (.int i) (.int j) = some (.int (i * j)) := oI_ok (by unfold cMul; rw [Bool.or_eq_true, Nat.blt_eq, Nat.blt_eq]; omega)
theorem oMul_l {i j : Int} (h1 : -(2 ^ 64) < i) (h2 : i < 2 ^ 64) : oMul (.int i) (.int j) = some (.int (i * j)) := oI_ok (by unfold cMul; rw [Bool.or_eq_true, Nat.blt_eq, Nat.blt_eq]; omega)
theorem oDiv_i {i j : Int} (h1 : 0 < j) (h2 : j < 2 ^ 256) : oDiv (.int i) (.int j) = some (.int (i / j)) := oI_ok (by unfold cDiv; rw [Bool.and_eq_true, posI_eq, Nat.blt_eq]; omega)
theorem oMod_i {i j : Int} (h1 : 0 < j) : oMod (.int i) (.int j) = some (.int (i % j)) := oI_ok (posI_eq.mpr h1)
theorem oShr_i {i j : Int} (h1 : 0 ≤ j) : oShr (.int i) (.int j) = some (.int (i / 2 ^ j.toNat)) := oI_ok (nnI_eq.mpr h1)
@[simp] theorem oShr_1 (i : Int) : oShr (.int i) (.int 1) = some (.int (i / 2)) := id rfl
theorem oAnd_1 (i : Int) : oAnd (.int i) (.int 1) = some (.int (i % 2)) := by
  show some (D.int (Builtin.bitAnd i 1)) = _
  rw [bitAnd_m1]
@[simp] theorem oNeg_i (i : Int) : oNeg (.int i) = some (.int (-i)) := id rfl
@[simp] theorem oEq_i (i j : Int) : oEq (.int i) (.int j) = some (.bl (decide (i = j))) := by
  have : oEq (.int i) (.int j) = some (.bl (i == j)) := id rfl
  rw [this, Bool.beq_eq_decide_eq]
@[simp] theorem oNe_i (i j : Int) : oNe (.int i) (.int j) = some (.bl (!decide (i = j))) := by
  have : oNe (.int i) (.int j) = some (.bl (!(i == j))) := id rfl
  rw [this, Bool.beq_eq_decide_eq]
@[simp] theorem oIs_n (x : D) : oIs x .non = some (.bl (isN x)) := id rfl
@[simp] theorem oIsNot_n (x : D) : oIsNot x .non = some (.bl (!isN x)) := id rfl
@[simp] theorem isN_non : isN .non = true := id rfl
@[simp] theorem isN_int (i : Int) : isN (.int i) = false := id rfl
@[simp] theorem isN_bl (i : Bool) : isN (.bl i) = false := id rfl
@[simp] theorem isN_str (i : Str) : isN (.str i) = false := id rfl
@[simp] theorem isN_tup (i : List D) : isN (.tup i) = false := id rfl
@[simp] theorem isN_lst (i : List D) : isN (.lst i) = false := id rfl
@[simp] theorem oInt_i (i : Int) : oInt [.int i] = some (.int i) := id rfl
@[simp] theorem oAbs_i (i : Int) : oAbs [.int i] = some (.int (if i < 0 then -i else i)) := id rfl
@[simp] theorem oMax_i (i j : Int) : oMax [.int i, .int j] = some (.int (if j > i then j else i)) := id rfl
@[simp] theorem oMin_i (i j : Int) : oMin [.int i, .int j] = some (.int (if j < i then j else i)) := id rfl
@[simp] theorem oLen_x (x : D) : oLen [x] = (seqOf x).map fun ds => .int (ds.length : Nat) := id rfl
@[simp] theorem seqOf_t (ds : List D) : seqOf (.tup ds) = some ds := id rfl
@[simp] theorem seqOf_l (ds : List D) : seqOf (.lst ds) = some ds := id rfl
@[simp] theorem seqOf_s (ns : List Int) : seqOf (.scr ns) = some (ns.map .int) := id rfl
@[simp] theorem oIx_s (x : D) (i : Int) : oIx x (.int i) = (seqOf x).bind fun ds => atI ds i := id rfl
@[simp] theorem oBits_i (i : Int) : oBits (.int i) = some (.int (Builtin.Int.intBits i : Nat)) := id rfl
@[simp] theorem isD_int_int (i : Int) : isD "int" (.int i) = some true := (show kitB "int" "int" = some true by decide +kernel)
@[simp] theorem isD_bool_int (i : Int) : isD "bool" (.int i) = some false := (show kitB "int" "bool" = some false by decide +kernel)
@[simp] theorem isD_int_bl (i : Bool) : isD "int" (.bl i) = some true := (show kitB "bool" "int" = some true by decide +kernel)
@[simp] theorem isD_bool_bl (i : Bool) : isD "bool" (.bl i) = some true := (show kitB "bool" "bool" = some true by decide +kernel)
@[simp] theorem isD_int_non : isD "int" .non = some false := (show kitB "NoneType" "int" = some false by decide +kernel)
@[simp] theorem isD_bool_non : isD "bool" .non = some false := (show kitB "NoneType" "bool" = some false by decide +kernel)
@[simp] theorem isD_int_str (i : Str) : isD "int" (.str i) = some false := (show kitB "str" "int" = some false by decide +kernel)
@[simp] theorem isD_bool_str (i : Str) : isD "bool" (.str i) = some false := (show kitB "str" "bool" = some false by decide +kernel)
@[simp] theorem isD_int_tup (i : List D) : isD "int" (.tup i) = some false := (show kitB "tuple" "int" = some false by decide +kernel)
@[simp] theorem isD_bool_tup (i : List D) : isD "bool" (.tup i) = some false := (show kitB "tuple" "bool" = some false by decide +kernel)
@[simp] theorem isD_tuple_tup (i : List D) : isD "tuple" (.tup i) = some true := (show kitB "tuple" "tuple" = some true by decide +kernel)
@[simp] theorem isD_tuple_int (i : Int) : isD "tuple" (.int i) = some false := (show kitB "int" "tuple" = some false by decide +kernel)
@[simp] theorem isD_tuple_non : isD "tuple" .non = some false := (show kitB "NoneType" "tuple" = some false by decide +kernel)
@[simp] theorem isD_tuple_bl (i : Bool) : isD "tuple" (.bl i) = some false := (show kitB "bool" "tuple" = some false by decide +kernel)
@[simp] theorem isD_tuple_str (i : Str) : isD "tuple" (.str i) = some false := (show kitB "str" "tuple" = some false by decide +kernel)
@[simp] theorem isD_str_str (i : Str) : isD "str" (.str i) = some true := (show kitB "str" "str" = some true by decide +kernel)
@[simp] theorem isD_str_int (i : Int) : isD "str" (.int i) = some false := (show kitB "int" "str" = some false by decide +kernel)
theorem rOk_i {i : Int} (h1 : -1000000000000 < i) (h2 : i < 1000000000000) : rOk i = true := by
  unfold rOk
  rw [Nat.blt_eq]
  omega
@[simp] theorem line_pos (n : Nat) (h : n < 1000) : n < line := Nat.lt_trans h (by decide)
theorem runD_a (k : Nat) (ds : List D) : runD k b ds T = (b (ds.map Sl.val ++ List.replicate k Sl.un) T).out := id rfl
/-! loops -/
theorem forD_nil (tg : TgD) : forD tg b [] δ T = .nx δ T := id rfl
theorem forD_cons (tg : TgD) (d : D) (ds : List D) : forD tg b (d :: ds) δ T = (tg d δ).elim .stuck fun δ' => (b δ' T).turn (forD tg b ds) := id rfl
theorem turnW_a (c : DEnv → Mo Bool) (k : SD) : turnW c b k δ T = (c δ T).st δ fun t T1 => if t = true then (b δ T1).turn k else .nx δ T1 := id rfl
theorem sWhile_a (c : DEnv → Mo Bool) : sWhile c b δ T = iterW c b fuel δ T := id rfl
end
/-! ### equal data, decided -/
mutual
def beqD : D → D → Bool
  | .non, .non => true
  | .bl a, .bl b => a == b
  | .int a, .int b => decide (a = b)
  | .str a, .str b => decide (a = b)
  | .tup a, .tup b => beqDs a b
  | .lst a, .lst b => beqDs a b
  | _, _ => false
def beqDs : List D → List D → Bool
  | [], [] => true
  | x :: xs, y :: ys => beqD x y && beqDs xs ys
  | _, _ => false
end
mutual
theorem beqD_eq : ∀ {x y : D}, beqD x y = true → x = y
  | .non, y, h => by cases y <;> first | rfl | (unfold beqD at h; cases h)
  | .bl a, y, h => by
    cases y <;> first | (unfold beqD at h; cases h; done) | skip
    unfold beqD at h
    rw [beq_iff_eq] at h
    rw [h]
  | .int a, y, h => by
    cases y <;> first | (unfold beqD at h; cases h; done) | skip
    unfold beqD at h
    rw [of_decide_eq_true h]
  | .str a, y, h => by
    cases y <;> first | (unfold beqD at h; cases h; done) | skip
    unfold beqD at h
    rw [of_decide_eq_true h]
  | .tup a, y, h => by
    cases y <;> first | (unfold beqD at h; cases h; done) | skip
    unfold beqD at h
    rw [beqDs_eq h]
  | .lst a, y, h => by
    cases y <;> first | (unfold beqD at h; cases h; done) | skip
    unfold beqD at h
    rw [beqDs_eq h]
  | .scr _, y, h => by cases y <;> (unfold beqD at h; cases h)
  | .tape, y, h => by cases y <;> (unfold beqD at h; cases h)
theorem beqDs_eq : ∀ {x y : List D}, beqDs x y = true → x = y
  | [], [], _ => rfl
  | [], _ :: _, h => by unfold beqDs at h; cases h
  | _ :: _, [], h => by unfold beqDs at h; cases h
  | x :: xs, y :: ys, h => by
    unfold beqDs at h
    rw [Bool.and_eq_true] at h
    rw [beqD_eq h.1, beqDs_eq h.2]
end
/-- the outcome is d, no tape -/
def gives (o : Out D) (d : D) : Bool := match o with
  | .ok x none => beqD x d
  | _ => false
theorem gives_eq {o : Out D} {d : D} (h : gives o d = true) : o = .ok d none := by
  unfold gives at h
  split at h
  · rw [beqD_eq h]
  · cases h
end DD

/-! DD9: what many laws share: the script's cells, the mixed number of a cell. -/
namespace DD
open PySem PySem.Spec PyProof.Rows L2
theorem rng_eq (n : Nat) : rng 0 1 n = (List.range n).map fun i => D.int (i : Nat) := by
  unfold rng
  refine List.map_congr_left fun i _ => ?_
  rw [Int.mul_one, Int.zero_add]
def cellB : SD := sSeq (sIf (dTv (dBin (oLt) (dV 1) (dB oLen (aC (dV 0) (aN))))) (sRet (dBin oMod (dB oAbs (aC (dB oInt (aC (dBin oIx (dV 0) (dV 1)) (aN))) (aN))) (dC (.int 1000000007)))) (sNext)) (sRet (dC (.int 0)))
def richB : SD := sSeq (sSet 2 (dBin oMod (dB oInt (aC (dBin oAdd (dBin oAdd (dBin oMul (dV 0) (dC (.int 48271))) (dBin oMul (dV 1) (dC (.int 69621)))) (dC (.int 11))) (aN))) (dC (.int 2147483647)))) (sRet (dBin oAdd (dBin oMul (dV 2) (dC (.int 2147483629))) (dBin oMod (dB oInt (aC (dBin oAdd (dBin oMul (dV 2) (dC (.int 16807))) (dV 0)) (aN))) (dC (.int 2147483629)))))
theorem cell_at (ns : List Int) (k : Nat) (h : k < ns.length) : atI (ns.map D.int) ((k : Nat) : Int) = some (.int ns[k]) := by
  have e : ixN (ns.map D.int).length ((k : Nat) : Int) = some k := by
    unfold ixN
    simp
    omega
  unfold atI
  rw [e]
  show (ns.map D.int)[k]? = _
  rw [List.getElem?_map, List.getElem?_eq_getElem h]
  rfl
theorem cell_den (ns : List Int) (k : Nat) (T : Option Tape) : ∃ c : Nat, c < 1000000007 ∧ runD 0 cellB [.scr ns, .int k] T = .ok (.int c) T := by
  by_cases h : k < ns.length
  · have h' : (k : Int) < ns.length := by omega
    refine ⟨((if ns[k] < 0 then -ns[k] else ns[k]) % 1000000007).toNat, by omega, ?_⟩
    have e : ((((if ns[k] < 0 then -ns[k] else ns[k]) % 1000000007).toNat : Nat) : Int) = (if ns[k] < 0 then -ns[k] else ns[k]) % 1000000007 := by omega
    rw [e]
    simp [runD_a, cellB, h', cell_at ns k h, oMod_i]
  · have h' : ¬ (k : Int) < ns.length := by omega
    exact ⟨0, by decide, by simp [runD_a, cellB, h']⟩
theorem rich_den (c k : Nat) (hc : c < 1000000007) (hk : k < 1000000) (T : Option Tape) : ∃ r : Nat, r < 9223372036854775808 ∧ runD 1 richB [.int c, .int k] T = .ok (.int r) T := by
  refine ⟨(((c : Int) * 48271 + k * 69621 + 11) % 2147483647 * 2147483629 + (((c : Int) * 48271 + k * 69621 + 11) % 2147483647 * 16807 + c) % 2147483629).toNat, by omega, ?_⟩
  have h1 : 0 ≤ ((c : Int) * 48271 + k * 69621 + 11) % 2147483647 * 2147483629 + (((c : Int) * 48271 + k * 69621 + 11) % 2147483647 * 16807 + c) % 2147483629 := by omega
  rw [Int.toNat_of_nonneg h1]
  simp [runD_a, richB, oMod_i, oMul_r]
/-- a test by == on naturals -/
theorem natBeq {a b : Nat} : Nat.beq a b = true ↔ a = b := Nat.beq_eq ▸ Iff.rfl
theorem find_range (P : Nat → Bool) (m : Nat) (h : ∀ y, m ≤ y → P y = false) : ∀ n, m ≤ n → (List.range n).find? P = (List.range m).find? P := by
  intro n hn
  obtain ⟨d, rfl⟩ := Nat.exists_eq_add_of_le hn
  clear hn
  induction d with
  | zero => rfl
  | succ d ih =>
    rw [← Nat.add_assoc, List.range_succ, List.find?_append, ih]
    have e : [m + d].find? P = none := by
      rw [List.find?_cons, h (m + d) (Nat.le_add_right _ _)]
      rfl
    rw [e, Option.or_none]
theorem findSome_range {α : Type} (P : Nat → Option α) (m : Nat) (h : ∀ y, m ≤ y → P y = none) : ∀ n, m ≤ n → (List.range n).findSome? P = (List.range m).findSome? P := by
  intro n hn
  obtain ⟨d, rfl⟩ := Nat.exists_eq_add_of_le hn
  clear hn
  induction d with
  | zero => rfl
  | succ d ih =>
    rw [← Nat.add_assoc, List.range_succ, List.findSome?_append, ih]
    have e : [m + d].findSome? P = none := by
      rw [List.findSome?_cons, h (m + d) (Nat.le_add_right _ _)]
      rfl
    rw [e, Option.or_none]
end DD

namespace K49
open PySem PySem.Spec PyProof.Rows L2 DD
def topS (i : Nat) : Stmt := PySem.Challenge.pw_chordkeep_k49_whole_two_squares.main.body.getD i (.Pass ⟨0, 0, 0, 0⟩)
abbrev st_is_integer : Stmt := topS 4
abbrev st_power : Stmt := topS 5
abbrev st_jacobi : Stmt := topS 6
abbrev st_nonsquare : Stmt := topS 7
abbrev st_root : Stmt := topS 8
abbrev st_whole_root : Stmt := topS 9
abbrev st_two_squares : Stmt := topS 11
abbrev st_fast_two_squares : Stmt := topS 12
abbrev st_law_cell : Stmt := topS 14
abbrev st_law_rich : Stmt := topS 15
abbrev st_law_prime : Stmt := topS 16
abbrev st_law_due : Stmt := topS 17
abbrev st_law_refused : Stmt := topS 18
abbrev st_law : Stmt := topS 19
def rows_BadNumber : List (Str × Bool) := [(PySem.Str.ofString "BadNumber", true)]
/-- what the top has written -/
structure Top (K : Kf) (mg : Str → Option Value) : Prop where
  b_abs : mg "abs" = none
  b_bool : mg "bool" = none
  b_int : mg "int" = none
  b_isinstance : mg "isinstance" = none
  b_len : mg "len" = none
  b_max : mg "max" = none
  b_min : mg "min" = none
  b_range : mg "range" = none
  s_BadNumber : SubIs K mg "BadNumber" rows_BadNumber
  x_BadNumber : Xcs K mg "BadNumber"
  d_is_integer : Def K mg "is_integer" st_is_integer ["value"]
  d_power : Def K mg "power" st_power ["base", "exponent", "modulus"]
  d_jacobi : Def K mg "jacobi" st_jacobi ["number", "modulus"]
  d_nonsquare : Def K mg "nonsquare" st_nonsquare ["prime"]
  d_root : Def K mg "root" st_root ["number", "prime"]
  d_whole_root : Def K mg "whole_root" st_whole_root ["number"]
  d_two_squares : Def K mg "two_squares" st_two_squares ["prime", "factor"]
  d_fast_two_squares : Def K mg "fast_two_squares" st_fast_two_squares ["prime", "factor"]
  d_law_cell : Def K mg "_law_cell" st_law_cell ["script", "k"]
  d_law_rich : Def K mg "_law_rich" st_law_rich ["cell", "k"]
  d_law_prime : Def K mg "_law_prime" st_law_prime ["rich"]
  d_law_due : Def K mg "_law_due" st_law_due ["p", "factor"]
  d_law_refused : Def K mg "_law_refused" st_law_refused ["p", "factor"]
  d_law : Def K mg "law" st_law ["script"]
section
variable {P : Program} {w : World} {K : Kf} {mg : Str → Option Value} {base : Heap}
/-! ### is_integer: slots 0 value -/
theorem sc_is_integer : FnScope ["value"] ["value"] (defScope st_is_integer) := ⟨rfl, rfl, rfl, by decide +kernel, rfl, by decide +kernel, by decide +kernel⟩
def body_is_integer : SD := sRet (dAndV (dIsi "int" (dV 0)) (dNotV (dIsi "bool" (dV 0))))
theorem body_is_integer_eq (δ : DEnv) (T : Option Tape) : body_is_integer δ T = (sRet (dAndV (dIsi "int" (dV 0)) (dNotV (dIsi "bool" (dV 0))))) δ T := id rfl
def den_is_integer : List D → Mo D := runD 0 body_is_integer
theorem ok_is_integer (T : Top K mg) : OkF P w K mg base "is_integer" ["value"] 1 1 den_is_integer :=
  okF (j := 0) T.d_is_integer sc_is_integer rfl rfl fun f cdv A outer s H E hr hu tk po => by
    have hN := sc_is_integer.nd
    exact (dss_one (ds_ret (de_and (de_isi T.b_isinstance (de_v 0) T.b_int boot_int) (de_one (de_not (de_isi T.b_isinstance (de_v 0) T.b_bool boot_bool))))))
/-! ### power: slots 0 base, 1 exponent, 2 modulus, 3 found -/
theorem sc_power : FnScope ["base", "exponent", "modulus", "found"] ["base", "exponent", "modulus"] (defScope st_power) := ⟨rfl, rfl, rfl, by decide +kernel, rfl, by decide +kernel, by decide +kernel⟩
def wc_power_1 : DEnv → Mo Bool := dTv (dBin (oGt) (dV 1) (dC (.int 0)))
theorem wc_power_1_eq (δ : DEnv) (T : Option Tape) : wc_power_1 δ T = (dTv (dBin (oGt) (dV 1) (dC (.int 0)))) δ T := id rfl
def wb_power_1 : SD := sSeq (sIf (dTv (dBin (oEq) (dBin oAnd (dV 1) (dC (.int 1))) (dC (.int 1)))) (sSet 3 (dBin oMod (dBin oMul (dV 3) (dV 0)) (dV 2))) (sNext)) (sSeq (sSet 0 (dBin oMod (dBin oMul (dV 0) (dV 0)) (dV 2))) (sSet 1 (dBin oShr (dV 1) (dC (.int 1)))))
theorem wb_power_1_eq (δ : DEnv) (T : Option Tape) : wb_power_1 δ T = (sSeq (sIf (dTv (dBin (oEq) (dBin oAnd (dV 1) (dC (.int 1))) (dC (.int 1)))) (sSet 3 (dBin oMod (dBin oMul (dV 3) (dV 0)) (dV 2))) (sNext)) (sSeq (sSet 0 (dBin oMod (dBin oMul (dV 0) (dV 0)) (dV 2))) (sSet 1 (dBin oShr (dV 1) (dC (.int 1)))))) δ T := id rfl
def body_power : SD := sSeq (sSet 3 (dBin oMod (dC (.int 1)) (dV 2))) (sSeq (sSet 0 (dBin oMod (dV 0) (dV 2))) (sSeq (sWhile wc_power_1 wb_power_1) (sRet (dV 3))))
theorem body_power_eq (δ : DEnv) (T : Option Tape) : body_power δ T = (sSeq (sSet 3 (dBin oMod (dC (.int 1)) (dV 2))) (sSeq (sSet 0 (dBin oMod (dV 0) (dV 2))) (sSeq (sWhile wc_power_1 wb_power_1) (sRet (dV 3))))) δ T := id rfl
def den_power : List D → Mo D := runD 1 body_power
theorem ok_power (T : Top K mg) : OkF P w K mg base "power" ["base", "exponent", "modulus"] 1 3 den_power :=
  okF (j := 0) T.d_power sc_power rfl rfl fun f cdv A outer s H E hr hu tk po => by
    have hN := sc_power.nd
    exact (dss_cons (ds_set 3 hN (de_bin op_mod opd_mod de_int (de_v 2))) (dss_cons (ds_set 0 hN (de_bin op_mod opd_mod (de_v 0) (de_v 2))) (dss_cons (ds_while po (dt_cmp op_gt opd_gt (de_v 1) de_int (nomark _)) (dss_cons (ds_if (dt_cmp (op_eqD hu) opd_eq (de_bin op_and opd_and (de_v 1) de_int) de_int (nomark _)) (dss_one (ds_set 3 hN (de_bin op_mod opd_mod (de_bin op_mul opd_mul (de_v 3) (de_v 0)) (de_v 2)))) dss_nil) (dss_cons (ds_set 0 hN (de_bin op_mod opd_mod (de_bin op_mul opd_mul (de_v 0) (de_v 0)) (de_v 2))) (dss_one (ds_set 1 hN (de_bin op_shr opd_shr (de_v 1) de_int)))))) (dss_one (ds_ret (de_v 3))))))
/-! ### jacobi: slots 0 number, 1 modulus, 2 sign -/
theorem sc_jacobi : FnScope ["number", "modulus", "sign"] ["number", "modulus"] (defScope st_jacobi) := ⟨rfl, rfl, rfl, by decide +kernel, rfl, by decide +kernel, by decide +kernel⟩
def wc_jacobi_2 : DEnv → Mo Bool := dTv (dBin (oEq) (dBin oAnd (dV 0) (dC (.int 1))) (dC (.int 0)))
theorem wc_jacobi_2_eq (δ : DEnv) (T : Option Tape) : wc_jacobi_2 δ T = (dTv (dBin (oEq) (dBin oAnd (dV 0) (dC (.int 1))) (dC (.int 0)))) δ T := id rfl
def wb_jacobi_2 : SD := sSeq (sSet 0 (dBin oShr (dV 0) (dC (.int 1)))) (sIf (dTv (dBin (oIn false) (dBin oMod (dV 1) (dC (.int 8))) (dTup (aC (dC (.int 3)) (aC (dC (.int 5)) (aN)))))) (sSet 2 (dUn oNeg (dV 2))) (sNext))
theorem wb_jacobi_2_eq (δ : DEnv) (T : Option Tape) : wb_jacobi_2 δ T = (sSeq (sSet 0 (dBin oShr (dV 0) (dC (.int 1)))) (sIf (dTv (dBin (oIn false) (dBin oMod (dV 1) (dC (.int 8))) (dTup (aC (dC (.int 3)) (aC (dC (.int 5)) (aN)))))) (sSet 2 (dUn oNeg (dV 2))) (sNext))) δ T := id rfl
def wc_jacobi_1 : DEnv → Mo Bool := dTv (dBin (oNe) (dV 0) (dC (.int 0)))
theorem wc_jacobi_1_eq (δ : DEnv) (T : Option Tape) : wc_jacobi_1 δ T = (dTv (dBin (oNe) (dV 0) (dC (.int 0)))) δ T := id rfl
def wb_jacobi_1 : SD := sSeq (sWhile wc_jacobi_2 wb_jacobi_2) (sSeq (sPar 0 1 (dV 1) (dV 0)) (sSeq (sIf (dAnd (dTv (dBin (oEq) (dBin oMod (dV 0) (dC (.int 4))) (dC (.int 3)))) (dTv (dBin (oEq) (dBin oMod (dV 1) (dC (.int 4))) (dC (.int 3))))) (sSet 2 (dUn oNeg (dV 2))) (sNext)) (sSet 0 (dBin oMod (dV 0) (dV 1)))))
theorem wb_jacobi_1_eq (δ : DEnv) (T : Option Tape) : wb_jacobi_1 δ T = (sSeq (sWhile wc_jacobi_2 wb_jacobi_2) (sSeq (sPar 0 1 (dV 1) (dV 0)) (sSeq (sIf (dAnd (dTv (dBin (oEq) (dBin oMod (dV 0) (dC (.int 4))) (dC (.int 3)))) (dTv (dBin (oEq) (dBin oMod (dV 1) (dC (.int 4))) (dC (.int 3))))) (sSet 2 (dUn oNeg (dV 2))) (sNext)) (sSet 0 (dBin oMod (dV 0) (dV 1)))))) δ T := id rfl
def body_jacobi : SD := sSeq (sSet 0 (dBin oMod (dV 0) (dV 1))) (sSeq (sSet 2 (dC (.int 1))) (sSeq (sWhile wc_jacobi_1 wb_jacobi_1) (sRet (dIf (dTv (dBin (oEq) (dV 1) (dC (.int 1)))) (dV 2) (dC (.int 0))))))
theorem body_jacobi_eq (δ : DEnv) (T : Option Tape) : body_jacobi δ T = (sSeq (sSet 0 (dBin oMod (dV 0) (dV 1))) (sSeq (sSet 2 (dC (.int 1))) (sSeq (sWhile wc_jacobi_1 wb_jacobi_1) (sRet (dIf (dTv (dBin (oEq) (dV 1) (dC (.int 1)))) (dV 2) (dC (.int 0))))))) δ T := id rfl
def den_jacobi : List D → Mo D := runD 1 body_jacobi
theorem ok_jacobi (T : Top K mg) : OkF P w K mg base "jacobi" ["number", "modulus"] 1 2 den_jacobi :=
  okF (j := 0) T.d_jacobi sc_jacobi rfl rfl fun f cdv A outer s H E hr hu tk po => by
    have hN := sc_jacobi.nd
    exact (dss_cons (ds_set 0 hN (de_bin op_mod opd_mod (de_v 0) (de_v 1))) (dss_cons (ds_set 2 hN de_int) (dss_cons (ds_while po (dt_cmp (op_neD hu) opd_ne (de_v 0) de_int (nomark _)) (dss_cons (ds_while po (dt_cmp (op_eqD hu) opd_eq (de_bin op_and opd_and (de_v 0) de_int) de_int (nomark _)) (dss_cons (ds_set 0 hN (de_bin op_shr opd_shr (de_v 0) de_int)) (dss_one (ds_if (dt_cmp op_in_seq opd_in (de_bin op_mod opd_mod (de_v 1) de_int) (de_tup (da_cons de_int (da_cons de_int da_nil))) rfl) (dss_one (ds_set 2 hN (de_un un_neg und_neg (de_v 2)))) dss_nil)))) (dss_cons (ds_par 0 1 rfl hN (de_v 1) (de_v 0)) (dss_cons (ds_if (dt_w (dw_and (dt_cmp (op_eqD hu) opd_eq (de_bin op_mod opd_mod (de_v 0) de_int) de_int (nomark _)) (dw_and1 (dt_cmp (op_eqD hu) opd_eq (de_bin op_mod opd_mod (de_v 1) de_int) de_int (nomark _))))) (dss_one (ds_set 2 hN (de_un un_neg und_neg (de_v 2)))) dss_nil) (dss_one (ds_set 0 hN (de_bin op_mod opd_mod (de_v 0) (de_v 1)))))))) (dss_one (ds_ret (de_if (dt_cmp (op_eqD hu) opd_eq (de_v 1) de_int (nomark _)) (de_v 2) de_int))))))
/-! ### nonsquare: slots 0 prime, 1 found -/
theorem sc_nonsquare : FnScope ["prime", "found"] ["prime"] (defScope st_nonsquare) := ⟨rfl, rfl, rfl, by decide +kernel, rfl, by decide +kernel, by decide +kernel⟩
def wc_nonsquare_1 : DEnv → Mo Bool := dTv (dBin (oNe) (dCall 2 den_jacobi (aC (dV 1) (aC (dV 0) (aN)))) (dUn oNeg (dC (.int 1))))
theorem wc_nonsquare_1_eq (δ : DEnv) (T : Option Tape) : wc_nonsquare_1 δ T = (dTv (dBin (oNe) (dCall 2 den_jacobi (aC (dV 1) (aC (dV 0) (aN)))) (dUn oNeg (dC (.int 1))))) δ T := id rfl
def wb_nonsquare_1 : SD := sAug 1 oAddI (dC (.int 1))
theorem wb_nonsquare_1_eq (δ : DEnv) (T : Option Tape) : wb_nonsquare_1 δ T = (sAug 1 oAddI (dC (.int 1))) δ T := id rfl
def body_nonsquare : SD := sSeq (sSet 1 (dC (.int 2))) (sSeq (sWhile wc_nonsquare_1 wb_nonsquare_1) (sRet (dV 1)))
theorem body_nonsquare_eq (δ : DEnv) (T : Option Tape) : body_nonsquare δ T = (sSeq (sSet 1 (dC (.int 2))) (sSeq (sWhile wc_nonsquare_1 wb_nonsquare_1) (sRet (dV 1)))) δ T := id rfl
def den_nonsquare : List D → Mo D := runD 1 body_nonsquare
theorem ok_nonsquare (T : Top K mg) (G_jacobi : OkF P w K mg base "jacobi" ["number", "modulus"] 1 2 den_jacobi) : OkF P w K mg base "nonsquare" ["prime"] 2 1 den_nonsquare :=
  okF (j := 1) T.d_nonsquare sc_nonsquare rfl rfl fun f cdv A outer s H E hr hu tk po => by
    have hN := sc_nonsquare.nd
    exact (dss_cons (ds_set 1 hN de_int) (dss_cons (ds_while po (dt_cmp (op_neD hu) opd_ne (de_f tk G_jacobi hr (da_cons (de_v 1) (da_cons (de_v 0) da_nil))) (de_un un_neg und_neg de_int) (nomark _)) (dss_one (ds_aug 1 hN iop_add opd_addI de_int))) (dss_one (ds_ret (de_v 1)))))
/-! ### root: slots 0 number, 1 prime, 2 turn, 3 odd, 4 twos, 5 found, 6 rest, 7 step, 8 _, 9 square, 10 count -/
theorem sc_root : FnScope ["number", "prime", "turn", "odd", "twos", "found", "rest", "step", "_", "square", "count"] ["number", "prime"] (defScope st_root) := ⟨rfl, rfl, rfl, by decide +kernel, rfl, by decide +kernel, by decide +kernel⟩
def wc_root_1 : DEnv → Mo Bool := dTv (dBin (oEq) (dBin oAnd (dV 3) (dC (.int 1))) (dC (.int 0)))
theorem wc_root_1_eq (δ : DEnv) (T : Option Tape) : wc_root_1 δ T = (dTv (dBin (oEq) (dBin oAnd (dV 3) (dC (.int 1))) (dC (.int 0)))) δ T := id rfl
def wb_root_1 : SD := sPar 3 4 (dBin oShr (dV 3) (dC (.int 1))) (dBin oAdd (dV 4) (dC (.int 1)))
theorem wb_root_1_eq (δ : DEnv) (T : Option Tape) : wb_root_1 δ T = (sPar 3 4 (dBin oShr (dV 3) (dC (.int 1))) (dBin oAdd (dV 4) (dC (.int 1)))) δ T := id rfl
def wc_root_3 : DEnv → Mo Bool := dTv (dBin (oNe) (dV 9) (dC (.int 1)))
theorem wc_root_3_eq (δ : DEnv) (T : Option Tape) : wc_root_3 δ T = (dTv (dBin (oNe) (dV 9) (dC (.int 1)))) δ T := id rfl
def wb_root_3 : SD := sPar 9 10 (dBin oMod (dBin oMul (dV 9) (dV 9)) (dV 1)) (dBin oAdd (dV 10) (dC (.int 1)))
theorem wb_root_3_eq (δ : DEnv) (T : Option Tape) : wb_root_3 δ T = (sPar 9 10 (dBin oMod (dBin oMul (dV 9) (dV 9)) (dV 1)) (dBin oAdd (dV 10) (dC (.int 1)))) δ T := id rfl
def fb_root_4 : SD := sSet 7 (dBin oMod (dBin oMul (dV 7) (dV 7)) (dV 1))
theorem fb_root_4_eq (δ : DEnv) (T : Option Tape) : fb_root_4 δ T = (sSet 7 (dBin oMod (dBin oMul (dV 7) (dV 7)) (dV 1))) δ T := id rfl
def wc_root_2 : DEnv → Mo Bool := dTv (dBin (oNe) (dV 6) (dC (.int 1)))
theorem wc_root_2_eq (δ : DEnv) (T : Option Tape) : wc_root_2 δ T = (dTv (dBin (oNe) (dV 6) (dC (.int 1)))) δ T := id rfl
def wb_root_2 : SD := sSeq (sPar 9 10 (dV 6) (dC (.int 0))) (sSeq (sWhile wc_root_3 wb_root_3) (sSeq (sSet 7 (dV 2)) (sSeq (sFor (iR1 (aC (dBin oSub (dBin oSub (dV 4) (dV 10)) (dC (.int 1))) (aN))) (tgN 8) (fb_root_4)) (sSeq (sPar3 5 2 4 (dBin oMod (dBin oMul (dV 5) (dV 7)) (dV 1)) (dBin oMod (dBin oMul (dV 7) (dV 7)) (dV 1)) (dV 10)) (sSet 6 (dBin oMod (dBin oMul (dV 6) (dV 2)) (dV 1)))))))
theorem wb_root_2_eq (δ : DEnv) (T : Option Tape) : wb_root_2 δ T = (sSeq (sPar 9 10 (dV 6) (dC (.int 0))) (sSeq (sWhile wc_root_3 wb_root_3) (sSeq (sSet 7 (dV 2)) (sSeq (sFor (iR1 (aC (dBin oSub (dBin oSub (dV 4) (dV 10)) (dC (.int 1))) (aN))) (tgN 8) (fb_root_4)) (sSeq (sPar3 5 2 4 (dBin oMod (dBin oMul (dV 5) (dV 7)) (dV 1)) (dBin oMod (dBin oMul (dV 7) (dV 7)) (dV 1)) (dV 10)) (sSet 6 (dBin oMod (dBin oMul (dV 6) (dV 2)) (dV 1)))))))) δ T := id rfl
def body_root : SD := sSeq (sSet 0 (dBin oMod (dV 0) (dV 1))) (sSeq (sIf (dTv (dBin (oEq) (dV 0) (dC (.int 0)))) (sRet (dC (.int 0))) (sNext)) (sSeq (sIf (dTv (dBin (oNe) (dCall 2 den_jacobi (aC (dV 0) (aC (dV 1) (aN)))) (dC (.int 1)))) (sRet (dC .non)) (sNext)) (sSeq (sPar 3 4 (dBin oSub (dV 1) (dC (.int 1))) (dC (.int 0))) (sSeq (sWhile wc_root_1 wb_root_1) (sSeq (sSet 2 (dCall 3 den_power (aC (dCall 1 den_nonsquare (aC (dV 1) (aN))) (aC (dV 3) (aC (dV 1) (aN)))))) (sSeq (sPar 5 6 (dCall 3 den_power (aC (dV 0) (aC (dBin oDiv (dBin oAdd (dV 3) (dC (.int 1))) (dC (.int 2))) (aC (dV 1) (aN))))) (dCall 3 den_power (aC (dV 0) (aC (dV 3) (aC (dV 1) (aN)))))) (sSeq (sWhile wc_root_2 wb_root_2) (sRet (dB oMin (aC (dV 5) (aC (dBin oSub (dV 1) (dV 5)) (aN))))))))))))
theorem body_root_eq (δ : DEnv) (T : Option Tape) : body_root δ T = (sSeq (sSet 0 (dBin oMod (dV 0) (dV 1))) (sSeq (sIf (dTv (dBin (oEq) (dV 0) (dC (.int 0)))) (sRet (dC (.int 0))) (sNext)) (sSeq (sIf (dTv (dBin (oNe) (dCall 2 den_jacobi (aC (dV 0) (aC (dV 1) (aN)))) (dC (.int 1)))) (sRet (dC .non)) (sNext)) (sSeq (sPar 3 4 (dBin oSub (dV 1) (dC (.int 1))) (dC (.int 0))) (sSeq (sWhile wc_root_1 wb_root_1) (sSeq (sSet 2 (dCall 3 den_power (aC (dCall 1 den_nonsquare (aC (dV 1) (aN))) (aC (dV 3) (aC (dV 1) (aN)))))) (sSeq (sPar 5 6 (dCall 3 den_power (aC (dV 0) (aC (dBin oDiv (dBin oAdd (dV 3) (dC (.int 1))) (dC (.int 2))) (aC (dV 1) (aN))))) (dCall 3 den_power (aC (dV 0) (aC (dV 3) (aC (dV 1) (aN)))))) (sSeq (sWhile wc_root_2 wb_root_2) (sRet (dB oMin (aC (dV 5) (aC (dBin oSub (dV 1) (dV 5)) (aN))))))))))))) δ T := id rfl
def den_root : List D → Mo D := runD 9 body_root
theorem ok_root (T : Top K mg) (G_jacobi : OkF P w K mg base "jacobi" ["number", "modulus"] 1 2 den_jacobi) (G_nonsquare : OkF P w K mg base "nonsquare" ["prime"] 2 1 den_nonsquare) (G_power : OkF P w K mg base "power" ["base", "exponent", "modulus"] 1 3 den_power) : OkF P w K mg base "root" ["number", "prime"] 3 2 den_root :=
  okF (j := 2) T.d_root sc_root rfl rfl fun f cdv A outer s H E hr hu tk po => by
    have hN := sc_root.nd
    exact (dss_cons (ds_set 0 hN (de_bin op_mod opd_mod (de_v 0) (de_v 1))) (dss_cons (ds_if (dt_cmp (op_eqD hu) opd_eq (de_v 0) de_int (nomark _)) (dss_one (ds_ret de_int)) dss_nil) (dss_cons (ds_if (dt_cmp (op_neD hu) opd_ne (de_f tk G_jacobi hr (da_cons (de_v 0) (da_cons (de_v 1) da_nil))) de_int (nomark _)) (dss_one (ds_ret de_non)) dss_nil) (dss_cons (ds_par 3 4 rfl hN (de_bin op_sub opd_sub (de_v 1) de_int) de_int) (dss_cons (ds_while po (dt_cmp (op_eqD hu) opd_eq (de_bin op_and opd_and (de_v 3) de_int) de_int (nomark _)) (dss_one (ds_par 3 4 rfl hN (de_bin op_shr opd_shr (de_v 3) de_int) (de_bin op_addA opd_add (de_v 4) de_int)))) (dss_cons (ds_set 2 hN (de_f tk G_power hr (da_cons (de_f tk G_nonsquare hr (da_cons (de_v 1) da_nil)) (da_cons (de_v 3) (da_cons (de_v 1) da_nil))))) (dss_cons (ds_par 5 6 rfl hN (de_f tk G_power hr (da_cons (de_v 0) (da_cons (de_bin op_fdivW opd_div (de_bin op_addA opd_add (de_v 3) de_int) de_int) (da_cons (de_v 1) da_nil)))) (de_f tk G_power hr (da_cons (de_v 0) (da_cons (de_v 3) (da_cons (de_v 1) da_nil))))) (dss_cons (ds_while po (dt_cmp (op_neD hu) opd_ne (de_v 6) de_int (nomark _)) (dss_cons (ds_par 9 10 rfl hN (de_v 6) de_int) (dss_cons (ds_while po (dt_cmp (op_neD hu) opd_ne (de_v 9) de_int (nomark _)) (dss_one (ds_par 9 10 rfl hN (de_bin op_mod opd_mod (de_bin op_mul opd_mul (de_v 9) (de_v 9)) (de_v 1)) (de_bin op_addA opd_add (de_v 10) de_int)))) (dss_cons (ds_set 7 hN (de_v 2)) (dss_cons (ds_for po rfl (di_r1 rfl T.b_range (da_cons (de_bin op_sub opd_sub (de_bin op_sub opd_sub (de_v 4) (de_v 10)) de_int) da_nil)) (dg_name 8 hN) (dss_one (ds_set 7 hN (de_bin op_mod opd_mod (de_bin op_mul opd_mul (de_v 7) (de_v 7)) (de_v 1))))) (dss_cons (ds_par3 5 2 4 rfl hN (de_bin op_mod opd_mod (de_bin op_mul opd_mul (de_v 5) (de_v 7)) (de_v 1)) (de_bin op_mod opd_mod (de_bin op_mul opd_mul (de_v 7) (de_v 7)) (de_v 1)) (de_v 10)) (dss_one (ds_set 6 hN (de_bin op_mod opd_mod (de_bin op_mul opd_mul (de_v 6) (de_v 2)) (de_v 1)))))))))) (dss_one (ds_ret (de_b (call_min2 rfl) cd_min T.b_min boot_min (da_cons (de_v 5) (da_cons (de_bin op_sub opd_sub (de_v 1) (de_v 5)) da_nil)))))))))))))
/-! ### whole_root: slots 0 number, 1 found, 2 closer -/
theorem sc_whole_root : FnScope ["number", "found", "closer"] ["number"] (defScope st_whole_root) := ⟨rfl, rfl, rfl, by decide +kernel, rfl, by decide +kernel, by decide +kernel⟩
def wc_whole_root_1 : DEnv → Mo Bool := dTv (dC (.bl true))
theorem wc_whole_root_1_eq (δ : DEnv) (T : Option Tape) : wc_whole_root_1 δ T = (dTv (dC (.bl true))) δ T := id rfl
def wb_whole_root_1 : SD := sSeq (sSet 2 (dBin oDiv (dBin oAdd (dV 1) (dBin oDiv (dV 0) (dV 1))) (dC (.int 2)))) (sSeq (sIf (dTv (dBin (oGe) (dV 2) (dV 1))) (sRet (dV 1)) (sNext)) (sSet 1 (dV 2)))
theorem wb_whole_root_1_eq (δ : DEnv) (T : Option Tape) : wb_whole_root_1 δ T = (sSeq (sSet 2 (dBin oDiv (dBin oAdd (dV 1) (dBin oDiv (dV 0) (dV 1))) (dC (.int 2)))) (sSeq (sIf (dTv (dBin (oGe) (dV 2) (dV 1))) (sRet (dV 1)) (sNext)) (sSet 1 (dV 2)))) δ T := id rfl
def body_whole_root : SD := sSeq (sIf (dTv (dBin (oLt) (dV 0) (dC (.int 2)))) (sRet (dV 0)) (sNext)) (sSeq (sSet 1 (dBin oShl (dC (.int 1)) (dBin oDiv (dBin oAdd (dUn oBits (dV 0)) (dC (.int 1))) (dC (.int 2))))) (sWhile wc_whole_root_1 wb_whole_root_1))
theorem body_whole_root_eq (δ : DEnv) (T : Option Tape) : body_whole_root δ T = (sSeq (sIf (dTv (dBin (oLt) (dV 0) (dC (.int 2)))) (sRet (dV 0)) (sNext)) (sSeq (sSet 1 (dBin oShl (dC (.int 1)) (dBin oDiv (dBin oAdd (dUn oBits (dV 0)) (dC (.int 1))) (dC (.int 2))))) (sWhile wc_whole_root_1 wb_whole_root_1))) δ T := id rfl
def den_whole_root : List D → Mo D := runD 2 body_whole_root
theorem ok_whole_root (T : Top K mg) : OkF P w K mg base "whole_root" ["number"] 1 1 den_whole_root :=
  okF (j := 0) T.d_whole_root sc_whole_root rfl rfl fun f cdv A outer s H E hr hu tk po => by
    have hN := sc_whole_root.nd
    exact (dss_cons (ds_if (dt_cmp op_lt opd_lt (de_v 0) de_int (nomark _)) (dss_one (ds_ret (de_v 0))) dss_nil) (dss_cons (ds_set 1 hN (de_bin op_shl opd_shl de_int (de_bin op_fdivW opd_div (de_bin op_addA opd_add (de_bits (de_v 0)) de_int) de_int))) (dss_one (ds_while po (dt_val de_bl) (dss_cons (ds_set 2 hN (de_bin op_fdivW opd_div (de_bin op_addA opd_add (de_v 1) (de_bin op_fdivW opd_div (de_v 0) (de_v 1))) de_int)) (dss_cons (ds_if (dt_cmp op_ge opd_ge (de_v 2) (de_v 1) (nomark _)) (dss_one (ds_ret (de_v 1))) dss_nil) (dss_one (ds_set 1 hN (de_v 2)))))))))
/-! ### two_squares: slots 0 prime, 1 factor, 2 x, 3 rest -/
theorem sc_two_squares : FnScope ["prime", "factor", "x", "rest"] ["prime", "factor"] (defScope st_two_squares) := ⟨rfl, rfl, rfl, by decide +kernel, rfl, by decide +kernel, by decide +kernel⟩
def fb_two_squares_1 : SD := sSeq (sSet 3 (dBin oSub (dV 0) (dBin oMul (dV 2) (dV 2)))) (sIf (dAnd (dTv (dBin (oEq) (dBin oMod (dV 3) (dV 1)) (dC (.int 0)))) (dTv (dBin (oEq) (dBin oMul (dCall 1 den_whole_root (aC (dBin oDiv (dV 3) (dV 1)) (aN))) (dCall 1 den_whole_root (aC (dBin oDiv (dV 3) (dV 1)) (aN)))) (dBin oDiv (dV 3) (dV 1))))) (sRet (dTup (aC (dV 2) (aC (dCall 1 den_whole_root (aC (dBin oDiv (dV 3) (dV 1)) (aN))) (aN))))) (sNext))
theorem fb_two_squares_1_eq (δ : DEnv) (T : Option Tape) : fb_two_squares_1 δ T = (sSeq (sSet 3 (dBin oSub (dV 0) (dBin oMul (dV 2) (dV 2)))) (sIf (dAnd (dTv (dBin (oEq) (dBin oMod (dV 3) (dV 1)) (dC (.int 0)))) (dTv (dBin (oEq) (dBin oMul (dCall 1 den_whole_root (aC (dBin oDiv (dV 3) (dV 1)) (aN))) (dCall 1 den_whole_root (aC (dBin oDiv (dV 3) (dV 1)) (aN)))) (dBin oDiv (dV 3) (dV 1))))) (sRet (dTup (aC (dV 2) (aC (dCall 1 den_whole_root (aC (dBin oDiv (dV 3) (dV 1)) (aN))) (aN))))) (sNext))) δ T := id rfl
def body_two_squares : SD := sSeq (sIf (dOr (dNot (dTv (dCall 1 den_is_integer (aC (dV 1) (aN))))) (dTv (dBin (oLt) (dV 1) (dC (.int 1))))) (sRaise (PySem.Str.ofString "BadNumber")) (sNext)) (sSeq (sFor (iR1 (aC (dBin oAdd (dCall 1 den_whole_root (aC (dV 0) (aN))) (dC (.int 1))) (aN))) (tgN 2) (fb_two_squares_1)) (sRet (dC .non)))
theorem body_two_squares_eq (δ : DEnv) (T : Option Tape) : body_two_squares δ T = (sSeq (sIf (dOr (dNot (dTv (dCall 1 den_is_integer (aC (dV 1) (aN))))) (dTv (dBin (oLt) (dV 1) (dC (.int 1))))) (sRaise (PySem.Str.ofString "BadNumber")) (sNext)) (sSeq (sFor (iR1 (aC (dBin oAdd (dCall 1 den_whole_root (aC (dV 0) (aN))) (dC (.int 1))) (aN))) (tgN 2) (fb_two_squares_1)) (sRet (dC .non)))) δ T := id rfl
def den_two_squares : List D → Mo D := runD 2 body_two_squares
theorem ok_two_squares (T : Top K mg) (G_is_integer : OkF P w K mg base "is_integer" ["value"] 1 1 den_is_integer) (G_whole_root : OkF P w K mg base "whole_root" ["number"] 1 1 den_whole_root) : OkF P w K mg base "two_squares" ["prime", "factor"] 2 2 den_two_squares :=
  okF (j := 1) T.d_two_squares sc_two_squares rfl rfl fun f cdv A outer s H E hr hu tk po => by
    have hN := sc_two_squares.nd
    exact (dss_cons (ds_if (dt_w (dw_or (dt_not (dt_val (de_f tk G_is_integer hr (da_cons (de_v 1) da_nil)))) (dw_or1 (dt_cmp op_lt opd_lt (de_v 1) de_int (nomark _))))) (dss_one (ds_raise' rfl tk T.x_BadNumber)) dss_nil) (dss_cons (ds_for po rfl (di_r1 rfl T.b_range (da_cons (de_bin op_addA opd_add (de_f tk G_whole_root hr (da_cons (de_v 0) da_nil)) de_int) da_nil)) (dg_name 2 hN) (dss_cons (ds_set 3 hN (de_bin op_sub opd_sub (de_v 0) (de_bin op_mul opd_mul (de_v 2) (de_v 2)))) (dss_one (ds_if (dt_w (dw_and (dt_cmp (op_eqD hu) opd_eq (de_bin op_mod opd_mod (de_v 3) (de_v 1)) de_int (nomark _)) (dw_and1 (dt_cmp (op_eqD hu) opd_eq (de_bin op_mul opd_mul (de_f tk G_whole_root hr (da_cons (de_bin op_fdivW opd_div (de_v 3) (de_v 1)) da_nil)) (de_f tk G_whole_root hr (da_cons (de_bin op_fdivW opd_div (de_v 3) (de_v 1)) da_nil))) (de_bin op_fdivW opd_div (de_v 3) (de_v 1)) (nomark _))))) (dss_one (ds_ret (de_tup (da_cons (de_v 2) (da_cons (de_f tk G_whole_root hr (da_cons (de_bin op_fdivW opd_div (de_v 3) (de_v 1)) da_nil)) da_nil))))) dss_nil)))) (dss_one (ds_ret de_non))))
/-! ### fast_two_squares: slots 0 prime, 1 factor, 2 side, 3 rest, 4 last, 5 one, 6 other -/
theorem sc_fast_two_squares : FnScope ["prime", "factor", "side", "rest", "last", "one", "other"] ["prime", "factor"] (defScope st_fast_two_squares) := ⟨rfl, rfl, rfl, by decide +kernel, rfl, by decide +kernel, by decide +kernel⟩
def wc_fast_two_squares_1 : DEnv → Mo Bool := dTv (dBin (oGt) (dBin oMul (dV 6) (dV 6)) (dV 0))
theorem wc_fast_two_squares_1_eq (δ : DEnv) (T : Option Tape) : wc_fast_two_squares_1 δ T = (dTv (dBin (oGt) (dBin oMul (dV 6) (dV 6)) (dV 0))) δ T := id rfl
def wb_fast_two_squares_1 : SD := sPar 5 6 (dV 6) (dBin oMod (dV 5) (dV 6))
theorem wb_fast_two_squares_1_eq (δ : DEnv) (T : Option Tape) : wb_fast_two_squares_1 δ T = (sPar 5 6 (dV 6) (dBin oMod (dV 5) (dV 6))) δ T := id rfl
def body_fast_two_squares : SD := sSeq (sSet 2 (dCall 2 den_root (aC (dUn oNeg (dV 1)) (aC (dV 0) (aN))))) (sSeq (sIf (dTv (dBin (oIs) (dV 2) (dC .non))) (sRet (dC .non)) (sNext)) (sSeq (sPar 5 6 (dV 0) (dB oMax (aC (dV 2) (aC (dBin oSub (dV 0) (dV 2)) (aN))))) (sSeq (sWhile wc_fast_two_squares_1 wb_fast_two_squares_1) (sSeq (sSet 3 (dBin oSub (dV 0) (dBin oMul (dV 6) (dV 6)))) (sSeq (sIf (dTv (dBin (oNe) (dBin oMod (dV 3) (dV 1)) (dC (.int 0)))) (sRet (dC .non)) (sNext)) (sSeq (sSet 4 (dCall 1 den_whole_root (aC (dBin oDiv (dV 3) (dV 1)) (aN)))) (sSeq (sIf (dTv (dBin (oNe) (dBin oMul (dBin oMul (dV 4) (dV 4)) (dV 1)) (dV 3))) (sRet (dC .non)) (sNext)) (sRet (dIf (dTv (dBin (oEq) (dV 1) (dC (.int 1)))) (dTup (aC (dB oMin (aC (dV 6) (aC (dV 4) (aN)))) (aC (dB oMax (aC (dV 6) (aC (dV 4) (aN)))) (aN)))) (dTup (aC (dV 6) (aC (dV 4) (aN)))))))))))))
theorem body_fast_two_squares_eq (δ : DEnv) (T : Option Tape) : body_fast_two_squares δ T = (sSeq (sSet 2 (dCall 2 den_root (aC (dUn oNeg (dV 1)) (aC (dV 0) (aN))))) (sSeq (sIf (dTv (dBin (oIs) (dV 2) (dC .non))) (sRet (dC .non)) (sNext)) (sSeq (sPar 5 6 (dV 0) (dB oMax (aC (dV 2) (aC (dBin oSub (dV 0) (dV 2)) (aN))))) (sSeq (sWhile wc_fast_two_squares_1 wb_fast_two_squares_1) (sSeq (sSet 3 (dBin oSub (dV 0) (dBin oMul (dV 6) (dV 6)))) (sSeq (sIf (dTv (dBin (oNe) (dBin oMod (dV 3) (dV 1)) (dC (.int 0)))) (sRet (dC .non)) (sNext)) (sSeq (sSet 4 (dCall 1 den_whole_root (aC (dBin oDiv (dV 3) (dV 1)) (aN)))) (sSeq (sIf (dTv (dBin (oNe) (dBin oMul (dBin oMul (dV 4) (dV 4)) (dV 1)) (dV 3))) (sRet (dC .non)) (sNext)) (sRet (dIf (dTv (dBin (oEq) (dV 1) (dC (.int 1)))) (dTup (aC (dB oMin (aC (dV 6) (aC (dV 4) (aN)))) (aC (dB oMax (aC (dV 6) (aC (dV 4) (aN)))) (aN)))) (dTup (aC (dV 6) (aC (dV 4) (aN)))))))))))))) δ T := id rfl
def den_fast_two_squares : List D → Mo D := runD 5 body_fast_two_squares
theorem ok_fast_two_squares (T : Top K mg) (G_root : OkF P w K mg base "root" ["number", "prime"] 3 2 den_root) (G_whole_root : OkF P w K mg base "whole_root" ["number"] 1 1 den_whole_root) : OkF P w K mg base "fast_two_squares" ["prime", "factor"] 4 2 den_fast_two_squares :=
  okF (j := 3) T.d_fast_two_squares sc_fast_two_squares rfl rfl fun f cdv A outer s H E hr hu tk po => by
    have hN := sc_fast_two_squares.nd
    exact (dss_cons (ds_set 2 hN (de_f tk G_root hr (da_cons (de_un un_neg und_neg (de_v 1)) (da_cons (de_v 0) da_nil)))) (dss_cons (ds_if (dt_cmp op_isN opd_is (de_v 2) de_non (nomark _)) (dss_one (ds_ret de_non)) dss_nil) (dss_cons (ds_par 5 6 rfl hN (de_v 0) (de_b (call_max2 rfl) cd_max T.b_max boot_max (da_cons (de_v 2) (da_cons (de_bin op_sub opd_sub (de_v 0) (de_v 2)) da_nil)))) (dss_cons (ds_while po (dt_cmp op_gt opd_gt (de_bin op_mul opd_mul (de_v 6) (de_v 6)) (de_v 0) (nomark _)) (dss_one (ds_par 5 6 rfl hN (de_v 6) (de_bin op_mod opd_mod (de_v 5) (de_v 6))))) (dss_cons (ds_set 3 hN (de_bin op_sub opd_sub (de_v 0) (de_bin op_mul opd_mul (de_v 6) (de_v 6)))) (dss_cons (ds_if (dt_cmp (op_neD hu) opd_ne (de_bin op_mod opd_mod (de_v 3) (de_v 1)) de_int (nomark _)) (dss_one (ds_ret de_non)) dss_nil) (dss_cons (ds_set 4 hN (de_f tk G_whole_root hr (da_cons (de_bin op_fdivW opd_div (de_v 3) (de_v 1)) da_nil))) (dss_cons (ds_if (dt_cmp (op_neD hu) opd_ne (de_bin op_mul opd_mul (de_bin op_mul opd_mul (de_v 4) (de_v 4)) (de_v 1)) (de_v 3) (nomark _)) (dss_one (ds_ret de_non)) dss_nil) (dss_one (ds_ret (de_if (dt_cmp (op_eqD hu) opd_eq (de_v 1) de_int (nomark _)) (de_tup (da_cons (de_b (call_min2 rfl) cd_min T.b_min boot_min (da_cons (de_v 6) (da_cons (de_v 4) da_nil))) (da_cons (de_b (call_max2 rfl) cd_max T.b_max boot_max (da_cons (de_v 6) (da_cons (de_v 4) da_nil))) da_nil))) (de_tup (da_cons (de_v 6) (da_cons (de_v 4) da_nil))))))))))))))
/-! ### _law_cell: slots 0 script, 1 k -/
theorem sc_law_cell : FnScope ["script", "k"] ["script", "k"] (defScope st_law_cell) := ⟨rfl, rfl, rfl, by decide +kernel, rfl, by decide +kernel, by decide +kernel⟩
def body_law_cell : SD := sSeq (sIf (dTv (dBin (oLt) (dV 1) (dB oLen (aC (dV 0) (aN))))) (sRet (dBin oMod (dB oAbs (aC (dB oInt (aC (dBin oIx (dV 0) (dV 1)) (aN))) (aN))) (dC (.int 1000000007)))) (sNext)) (sRet (dC (.int 0)))
theorem body_law_cell_eq (δ : DEnv) (T : Option Tape) : body_law_cell δ T = (sSeq (sIf (dTv (dBin (oLt) (dV 1) (dB oLen (aC (dV 0) (aN))))) (sRet (dBin oMod (dB oAbs (aC (dB oInt (aC (dBin oIx (dV 0) (dV 1)) (aN))) (aN))) (dC (.int 1000000007)))) (sNext)) (sRet (dC (.int 0)))) δ T := id rfl
def den_law_cell : List D → Mo D := runD 0 body_law_cell
theorem ok_law_cell (T : Top K mg) : OkF P w K mg base "_law_cell" ["script", "k"] 1 2 den_law_cell :=
  okF (j := 0) T.d_law_cell sc_law_cell rfl rfl fun f cdv A outer s H E hr hu tk po => by
    have hN := sc_law_cell.nd
    exact (dss_cons (ds_if (dt_cmp op_lt opd_lt (de_v 1) (de_b call_len_seq cd_len T.b_len boot_len (da_cons (de_v 0) da_nil)) (nomark _)) (dss_one (ds_ret (de_bin op_mod opd_mod (de_b call_abs cd_abs T.b_abs boot_abs (da_cons (de_ty call_int1 cd_int T.b_int boot_int (da_cons (de_ix ix_A opd_ix (de_v 0) (de_v 1) (fun _ _ => rfl)) da_nil)) da_nil)) de_int))) dss_nil) (dss_one (ds_ret de_int)))
/-! ### _law_rich: slots 0 cell, 1 k, 2 mixed -/
theorem sc_law_rich : FnScope ["cell", "k", "mixed"] ["cell", "k"] (defScope st_law_rich) := ⟨rfl, rfl, rfl, by decide +kernel, rfl, by decide +kernel, by decide +kernel⟩
def body_law_rich : SD := sSeq (sSet 2 (dBin oMod (dB oInt (aC (dBin oAdd (dBin oAdd (dBin oMul (dV 0) (dC (.int 48271))) (dBin oMul (dV 1) (dC (.int 69621)))) (dC (.int 11))) (aN))) (dC (.int 2147483647)))) (sRet (dBin oAdd (dBin oMul (dV 2) (dC (.int 2147483629))) (dBin oMod (dB oInt (aC (dBin oAdd (dBin oMul (dV 2) (dC (.int 16807))) (dV 0)) (aN))) (dC (.int 2147483629)))))
theorem body_law_rich_eq (δ : DEnv) (T : Option Tape) : body_law_rich δ T = (sSeq (sSet 2 (dBin oMod (dB oInt (aC (dBin oAdd (dBin oAdd (dBin oMul (dV 0) (dC (.int 48271))) (dBin oMul (dV 1) (dC (.int 69621)))) (dC (.int 11))) (aN))) (dC (.int 2147483647)))) (sRet (dBin oAdd (dBin oMul (dV 2) (dC (.int 2147483629))) (dBin oMod (dB oInt (aC (dBin oAdd (dBin oMul (dV 2) (dC (.int 16807))) (dV 0)) (aN))) (dC (.int 2147483629)))))) δ T := id rfl
def den_law_rich : List D → Mo D := runD 1 body_law_rich
theorem ok_law_rich (T : Top K mg) : OkF P w K mg base "_law_rich" ["cell", "k"] 1 2 den_law_rich :=
  okF (j := 0) T.d_law_rich sc_law_rich rfl rfl fun f cdv A outer s H E hr hu tk po => by
    have hN := sc_law_rich.nd
    exact (dss_cons (ds_set 2 hN (de_bin op_mod opd_mod (de_ty call_int1 cd_int T.b_int boot_int (da_cons (de_bin op_addA opd_add (de_bin op_addA opd_add (de_bin op_mul opd_mul (de_v 0) de_int) (de_bin op_mul opd_mul (de_v 1) de_int)) de_int) da_nil)) de_int)) (dss_one (ds_ret (de_bin op_addA opd_add (de_bin op_mul opd_mul (de_v 2) de_int) (de_bin op_mod opd_mod (de_ty call_int1 cd_int T.b_int boot_int (da_cons (de_bin op_addA opd_add (de_bin op_mul opd_mul (de_v 2) de_int) (de_v 0)) da_nil)) de_int)))))
/-! ### _law_prime: slots 0 rich -/
theorem sc_law_prime : FnScope ["rich"] ["rich"] (defScope st_law_prime) := ⟨rfl, rfl, rfl, by decide +kernel, rfl, by decide +kernel, by decide +kernel⟩
def body_law_prime : SD := sRet (dBin oIx (dL (lLst (aC (dC (.int 5)) (aC (dC (.int 7)) (aC (dC (.int 11)) (aC (dC (.int 13)) (aC (dC (.int 17)) (aC (dC (.int 19)) (aC (dC (.int 23)) (aC (dC (.int 29)) (aC (dC (.int 31)) (aC (dC (.int 37)) (aC (dC (.int 41)) (aC (dC (.int 43)) (aC (dC (.int 47)) (aC (dC (.int 53)) (aC (dC (.int 59)) (aC (dC (.int 61)) (aN))))))))))))))))))) (dBin oMod (dV 0) (dC (.int 16))))
theorem body_law_prime_eq (δ : DEnv) (T : Option Tape) : body_law_prime δ T = (sRet (dBin oIx (dL (lLst (aC (dC (.int 5)) (aC (dC (.int 7)) (aC (dC (.int 11)) (aC (dC (.int 13)) (aC (dC (.int 17)) (aC (dC (.int 19)) (aC (dC (.int 23)) (aC (dC (.int 29)) (aC (dC (.int 31)) (aC (dC (.int 37)) (aC (dC (.int 41)) (aC (dC (.int 43)) (aC (dC (.int 47)) (aC (dC (.int 53)) (aC (dC (.int 59)) (aC (dC (.int 61)) (aN))))))))))))))))))) (dBin oMod (dV 0) (dC (.int 16))))) δ T := id rfl
def den_law_prime : List D → Mo D := runD 0 body_law_prime
theorem ok_law_prime (T : Top K mg) : OkF P w K mg base "_law_prime" ["rich"] 1 1 den_law_prime :=
  okF (j := 0) T.d_law_prime sc_law_prime rfl rfl fun f cdv A outer s H E hr hu tk po => by
    have hN := sc_law_prime.nd
    exact (dss_one (ds_ret (de_ix ix_A opd_ix (de_L (dl_lst (da_cons de_int (da_cons de_int (da_cons de_int (da_cons de_int (da_cons de_int (da_cons de_int (da_cons de_int (da_cons de_int (da_cons de_int (da_cons de_int (da_cons de_int (da_cons de_int (da_cons de_int (da_cons de_int (da_cons de_int (da_cons de_int da_nil)))))))))))))))))) (de_bin op_mod opd_mod (de_v 0) de_int) (fun _ _ => rfl))))
/-! ### _law_due: slots 0 p, 1 factor, 2 x, 3 y -/
theorem sc_law_due : FnScope ["p", "factor", "x", "y"] ["p", "factor"] (defScope st_law_due) := ⟨rfl, rfl, rfl, by decide +kernel, rfl, by decide +kernel, by decide +kernel⟩
def fb_law_due_2 : SD := sIf (dTv (dBin (oEq) (dBin oAdd (dBin oMul (dV 2) (dV 2)) (dBin oMul (dBin oMul (dV 1) (dV 3)) (dV 3))) (dV 0))) (sRet (dTup (aC (dV 2) (aC (dV 3) (aN))))) (sNext)
theorem fb_law_due_2_eq (δ : DEnv) (T : Option Tape) : fb_law_due_2 δ T = (sIf (dTv (dBin (oEq) (dBin oAdd (dBin oMul (dV 2) (dV 2)) (dBin oMul (dBin oMul (dV 1) (dV 3)) (dV 3))) (dV 0))) (sRet (dTup (aC (dV 2) (aC (dV 3) (aN))))) (sNext)) δ T := id rfl
def fb_law_due_1 : SD := sFor (iR1 (aC (dV 0) (aN))) (tgN 3) (fb_law_due_2)
theorem fb_law_due_1_eq (δ : DEnv) (T : Option Tape) : fb_law_due_1 δ T = (sFor (iR1 (aC (dV 0) (aN))) (tgN 3) (fb_law_due_2)) δ T := id rfl
def body_law_due : SD := sSeq (sFor (iR1 (aC (dV 0) (aN))) (tgN 2) (fb_law_due_1)) (sRet (dC .non))
theorem body_law_due_eq (δ : DEnv) (T : Option Tape) : body_law_due δ T = (sSeq (sFor (iR1 (aC (dV 0) (aN))) (tgN 2) (fb_law_due_1)) (sRet (dC .non))) δ T := id rfl
def den_law_due : List D → Mo D := runD 2 body_law_due
theorem ok_law_due (T : Top K mg) : OkF P w K mg base "_law_due" ["p", "factor"] 1 2 den_law_due :=
  okF (j := 0) T.d_law_due sc_law_due rfl rfl fun f cdv A outer s H E hr hu tk po => by
    have hN := sc_law_due.nd
    exact (dss_cons (ds_for po rfl (di_r1 rfl T.b_range (da_cons (de_v 0) da_nil)) (dg_name 2 hN) (dss_one (ds_for po rfl (di_r1 rfl T.b_range (da_cons (de_v 0) da_nil)) (dg_name 3 hN) (dss_one (ds_if (dt_cmp (op_eqD hu) opd_eq (de_bin op_addA opd_add (de_bin op_mul opd_mul (de_v 2) (de_v 2)) (de_bin op_mul opd_mul (de_bin op_mul opd_mul (de_v 1) (de_v 3)) (de_v 3))) (de_v 0) (nomark _)) (dss_one (ds_ret (de_tup (da_cons (de_v 2) (da_cons (de_v 3) da_nil))))) dss_nil))))) (dss_one (ds_ret de_non)))
/-! ### _law_refused: slots 0 p, 1 factor -/
theorem sc_law_refused : FnScope ["p", "factor"] ["p", "factor"] (defScope st_law_refused) := ⟨rfl, rfl, rfl, by decide +kernel, rfl, by decide +kernel, by decide +kernel⟩
def body_law_refused : SD := sSeq (sTry (sDrop (dCall 2 den_two_squares (aC (dV 0) (aC (dV 1) (aN))))) [(PySem.Str.ofString "BadNumber", subOf rows_BadNumber, sRet (dC (.bl true)))]) (sRet (dC (.bl false)))
theorem body_law_refused_eq (δ : DEnv) (T : Option Tape) : body_law_refused δ T = (sSeq (sTry (sDrop (dCall 2 den_two_squares (aC (dV 0) (aC (dV 1) (aN))))) [(PySem.Str.ofString "BadNumber", subOf rows_BadNumber, sRet (dC (.bl true)))]) (sRet (dC (.bl false)))) δ T := id rfl
def den_law_refused : List D → Mo D := runD 0 body_law_refused
theorem ok_law_refused (T : Top K mg) (G_two_squares : OkF P w K mg base "two_squares" ["prime", "factor"] 2 2 den_two_squares) : OkF P w K mg base "_law_refused" ["p", "factor"] 3 2 den_law_refused :=
  okF (j := 2) T.d_law_refused sc_law_refused rfl rfl fun f cdv A outer s H E hr hu tk po => by
    have hN := sc_law_refused.nd
    exact (dss_cons (ds_try1 rfl rfl tk T.s_BadNumber (fun W' pn xe tk' po' => (dss_one (ds_expr (de_f tk' G_two_squares hr (da_cons (de_v 0) (da_cons (de_v 1) da_nil)))))) (fun a oe cls d pn _ _ => (dss_one (ds_ret de_bl)))) (dss_one (ds_ret de_bl)))
/-! ### law: slots 0 script, 1 turn, 2 rich, 3 p, 4 factor, 5 due -/
theorem sc_law : FnScope ["script", "turn", "rich", "p", "factor", "due"] ["script"] (defScope st_law) := ⟨rfl, rfl, rfl, by decide +kernel, rfl, by decide +kernel, by decide +kernel⟩
def fb_law_2 : SD := sSeq (sSet 5 (dCall 2 den_law_due (aC (dV 3) (aC (dV 4) (aN))))) (sSeq (sIf (dTv (dBin (oNe) (dCall 2 den_two_squares (aC (dV 3) (aC (dV 4) (aN)))) (dV 5))) (sRet (dC (.bl false))) (sNext)) (sIf (dAnd (dTv (dBin (oLt) (dV 4) (dV 3))) (dTv (dBin (oNe) (dCall 2 den_fast_two_squares (aC (dV 3) (aC (dV 4) (aN)))) (dV 5)))) (sRet (dC (.bl false))) (sNext)))
theorem fb_law_2_eq (δ : DEnv) (T : Option Tape) : fb_law_2 δ T = (sSeq (sSet 5 (dCall 2 den_law_due (aC (dV 3) (aC (dV 4) (aN))))) (sSeq (sIf (dTv (dBin (oNe) (dCall 2 den_two_squares (aC (dV 3) (aC (dV 4) (aN)))) (dV 5))) (sRet (dC (.bl false))) (sNext)) (sIf (dAnd (dTv (dBin (oLt) (dV 4) (dV 3))) (dTv (dBin (oNe) (dCall 2 den_fast_two_squares (aC (dV 3) (aC (dV 4) (aN)))) (dV 5)))) (sRet (dC (.bl false))) (sNext)))) δ T := id rfl
def fb_law_1 : SD := sSeq (sSet 2 (dCall 2 den_law_rich (aC (dCall 2 den_law_cell (aC (dV 0) (aC (dV 1) (aN)))) (aC (dV 1) (aN))))) (sSeq (sSet 3 (dCall 1 den_law_prime (aC (dV 2) (aN)))) (sSeq (sFor (iLst (dL (lLst (aC (dC (.int 1)) (aC (dC (.int 2)) (aC (dC (.int 3)) (aC (dBin oAdd (dC (.int 1)) (dBin oMod (dBin oDiv (dV 2) (dC (.int 16))) (dBin oSub (dV 3) (dC (.int 1))))) (aC (dBin oSub (dV 3) (dC (.int 1))) (aC (dV 3) (aC (dBin oAdd (dV 3) (dC (.int 3))) (aC (dBin oSub (dV 3) (dC (.int 4))) (aN)))))))))))) (tgN 4) (fb_law_2)) (sIf (dNot (dTv (dCall 2 den_law_refused (aC (dV 3) (aC (dBin oIx (dL (lLst (aC (dC (.int 0)) (aC (dUn oNeg (dC (.int 1))) (aC (dC .non) (aC (dC (.bl true)) (aC (dC (.str (PySem.Str.ofString "1"))) (aC (dTup (aC (dC (.int 1)) (aN))) (aN))))))))) (dBin oMod (dBin oDiv (dV 2) (dC (.int 31))) (dC (.int 6)))) (aN)))))) (sRet (dC (.bl false))) (sNext))))
theorem fb_law_1_eq (δ : DEnv) (T : Option Tape) : fb_law_1 δ T = (sSeq (sSet 2 (dCall 2 den_law_rich (aC (dCall 2 den_law_cell (aC (dV 0) (aC (dV 1) (aN)))) (aC (dV 1) (aN))))) (sSeq (sSet 3 (dCall 1 den_law_prime (aC (dV 2) (aN)))) (sSeq (sFor (iLst (dL (lLst (aC (dC (.int 1)) (aC (dC (.int 2)) (aC (dC (.int 3)) (aC (dBin oAdd (dC (.int 1)) (dBin oMod (dBin oDiv (dV 2) (dC (.int 16))) (dBin oSub (dV 3) (dC (.int 1))))) (aC (dBin oSub (dV 3) (dC (.int 1))) (aC (dV 3) (aC (dBin oAdd (dV 3) (dC (.int 3))) (aC (dBin oSub (dV 3) (dC (.int 4))) (aN)))))))))))) (tgN 4) (fb_law_2)) (sIf (dNot (dTv (dCall 2 den_law_refused (aC (dV 3) (aC (dBin oIx (dL (lLst (aC (dC (.int 0)) (aC (dUn oNeg (dC (.int 1))) (aC (dC .non) (aC (dC (.bl true)) (aC (dC (.str (PySem.Str.ofString "1"))) (aC (dTup (aC (dC (.int 1)) (aN))) (aN))))))))) (dBin oMod (dBin oDiv (dV 2) (dC (.int 31))) (dC (.int 6)))) (aN)))))) (sRet (dC (.bl false))) (sNext))))) δ T := id rfl
def body_law : SD := sSeq (sFor (iR1 (aC (dC (.int 3)) (aN))) (tgN 1) (fb_law_1)) (sRet (dC (.bl true)))
theorem body_law_eq (δ : DEnv) (T : Option Tape) : body_law δ T = (sSeq (sFor (iR1 (aC (dC (.int 3)) (aN))) (tgN 1) (fb_law_1)) (sRet (dC (.bl true)))) δ T := id rfl
def den_law : List D → Mo D := runD 5 body_law
theorem ok_law {f : Addr} {fd : FuncData} (F : Fun K "law" "law" st_law f fd) (T : Top K mg) (G_law_cell : OkF P w K mg base "_law_cell" ["script", "k"] 1 2 den_law_cell) (G_law_rich : OkF P w K mg base "_law_rich" ["cell", "k"] 1 2 den_law_rich) (G_law_prime : OkF P w K mg base "_law_prime" ["rich"] 1 1 den_law_prime) (G_law_due : OkF P w K mg base "_law_due" ["p", "factor"] 1 2 den_law_due) (G_two_squares : OkF P w K mg base "two_squares" ["prime", "factor"] 2 2 den_two_squares) (G_fast_two_squares : OkF P w K mg base "fast_two_squares" ["prime", "factor"] 4 2 den_fast_two_squares) (G_law_refused : OkF P w K mg base "_law_refused" ["p", "factor"] 3 2 den_law_refused) : FnOk P w K mg base (L2.CX P w) 5 f fd ["script"] (SpD K mg 1 den_law) :=
  okD (j := 4) F sc_law rfl rfl fun cdv A outer s H E hr hu tk po => by
    have hN := sc_law.nd
    exact (dss_cons (ds_for po rfl (di_r1 rfl T.b_range (da_cons de_int da_nil)) (dg_name 1 hN) (dss_cons (ds_set 2 hN (de_f tk G_law_rich hr (da_cons (de_f tk G_law_cell hr (da_cons (de_v 0) (da_cons (de_v 1) da_nil))) (da_cons (de_v 1) da_nil)))) (dss_cons (ds_set 3 hN (de_f tk G_law_prime hr (da_cons (de_v 2) da_nil))) (dss_cons (ds_for po rfl (di_lst (de_L (dl_lst (da_cons de_int (da_cons de_int (da_cons de_int (da_cons (de_bin op_addA opd_add de_int (de_bin op_mod opd_mod (de_bin op_fdivW opd_div (de_v 2) de_int) (de_bin op_sub opd_sub (de_v 3) de_int))) (da_cons (de_bin op_sub opd_sub (de_v 3) de_int) (da_cons (de_v 3) (da_cons (de_bin op_addA opd_add (de_v 3) de_int) (da_cons (de_bin op_sub opd_sub (de_v 3) de_int) da_nil))))))))))) (dg_name 4 hN) (dss_cons (ds_set 5 hN (de_f tk G_law_due hr (da_cons (de_v 3) (da_cons (de_v 4) da_nil)))) (dss_cons (ds_if (dt_cmp (op_neD hu) opd_ne (de_f tk G_two_squares hr (da_cons (de_v 3) (da_cons (de_v 4) da_nil))) (de_v 5) (nomark _)) (dss_one (ds_ret de_bl)) dss_nil) (dss_one (ds_if (dt_w (dw_and (dt_cmp op_lt opd_lt (de_v 4) (de_v 3) (nomark _)) (dw_and1 (dt_cmp (op_neD hu) opd_ne (de_f tk G_fast_two_squares hr (da_cons (de_v 3) (da_cons (de_v 4) da_nil))) (de_v 5) (nomark _))))) (dss_one (ds_ret de_bl)) dss_nil))))) (dss_one (ds_if (dt_not (dt_val (de_f tk G_law_refused hr (da_cons (de_v 3) (da_cons (de_ix ix_A opd_ix (de_L (dl_lst (da_cons de_int (da_cons (de_un un_neg und_neg de_int) (da_cons de_non (da_cons de_bl (da_cons de_str (da_cons (de_tup (da_cons de_int da_nil)) da_nil)))))))) (de_bin op_mod opd_mod (de_bin op_fdivW opd_div (de_v 2) de_int) de_int) (fun _ _ => rfl)) da_nil))))) (dss_one (ds_ret de_bl)) dss_nil)))))) (dss_one (ds_ret de_bl)))
end
end K49

set_option maxHeartbeats 1000000
namespace K49
open PySem PySem.Spec PyProof.Rows L2 DD
/-! ### what is due -/
def hit (p f x y : Nat) : Bool := Nat.beq (x * x + f * y * y) p
theorem hit_iff {p f x y : Nat} : hit p f x y = true ↔ (x : Int) * x + f * y * y = p := by
  unfold hit
  rw [natBeq]
  constructor
  · intro h; rw [← h]; simp
  · intro h
    have : ((x * x + f * y * y : Nat) : Int) = (p : Nat) := by rw [← h]; simp
    exact Int.ofNat.inj this
def dueR (n p f : Nat) : Option (Nat × Nat) := (List.range n).findSome? fun x => ((List.range n).find? fun y => hit p f x y).map fun y => (x, y)
def pairD : Option (Nat × Nat) → D
  | none => .non
  | some (x, y) => .tup [.int x, .int y]
/-- the inner loop -/
theorem due_in (p f x : Nat) (T : Option Tape) (hx : x < 100) : ∀ (l : List Nat) (s3 : Sl), (∀ y ∈ l, y < 100) → match l.find? fun y => hit p f x y with
    | some y => forD (tgN 3) fb_law_due_2 (l.map fun i => .int (i : Nat)) [.val (.int p), .val (.int f), .val (.int x), s3] T = .ret (.tup [.int x, .int y]) T
    | none => ∃ s3', forD (tgN 3) fb_law_due_2 (l.map fun i => .int (i : Nat)) [.val (.int p), .val (.int f), .val (.int x), s3] T = .nx [.val (.int p), .val (.int f), .val (.int x), s3'] T
  | [], s3, _ => ⟨s3, rfl⟩
  | y :: l, s3, hl => by
    have hy : y < 100 := hl y List.mem_cons_self
    have h1 : -(2 ^ 64) < (x : Int) := by omega
    have h2 : (x : Int) < 2 ^ 64 := by omega
    have h3 : -(2 ^ 64) < (y : Int) := by omega
    have h4 : (y : Int) < 2 ^ 64 := by omega
    rw [List.find?_cons]
    by_cases h : hit p f x y = true
    · rw [h]
      have := hit_iff.mp h
      simp [forD_cons, fb_law_due_2_eq, oMul_r h1 h2, oMul_r h3 h4, this]
    · have h' : ¬ ((x : Int) * x + f * y * y = p) := fun z => h (hit_iff.mpr z)
      have ih := due_in p f x T hx l (.val (.int y)) fun z hz => hl z (List.mem_cons_of_mem _ hz)
      rw [Bool.eq_false_iff.mpr h]
      simp [forD_cons, fb_law_due_2_eq, oMul_r h1 h2, oMul_r h3 h4, h']
      simpa using ih
theorem due_out (p f : Nat) (T : Option Tape) (hn : p < 100) : ∀ (l : List Nat) (s2 s3 : Sl), (∀ y ∈ l, y < 100) → match l.findSome? fun x => ((List.range p).find? fun y => hit p f x y).map fun y => (x, y) with
    | some (x, y) => forD (tgN 2) fb_law_due_1 (l.map fun i => .int (i : Nat)) [.val (.int p), .val (.int f), s2, s3] T = .ret (.tup [.int x, .int y]) T
    | none => ∃ s2' s3', forD (tgN 2) fb_law_due_1 (l.map fun i => .int (i : Nat)) [.val (.int p), .val (.int f), s2, s3] T = .nx [.val (.int p), .val (.int f), s2', s3'] T
  | [], s2, s3, _ => ⟨s2, s3, rfl⟩
  | x :: l, s2, s3, hl => by
    have hx : x < 100 := hl x List.mem_cons_self
    have hr : rOk ((p : Nat) : Int) = true := rOk_i (by omega) (by omega)
    have inn := due_in p f x T hx (List.range p) s3 fun y hy => by
      have := List.mem_range.mp hy; omega
    rw [List.findSome?_cons]
    cases h : (List.range p).find? fun y => hit p f x y with
    | some y =>
      rw [h] at inn
      have inn : forD (tgN 3) fb_law_due_2 ((List.range p).map fun i => .int (i : Nat)) [.val (.int p), .val (.int f), .val (.int x), s3] T = .ret (.tup [.int x, .int y]) T := inn
      simp [forD_cons, fb_law_due_1_eq, rng1_ok hr, rng_eq, inn]
    | none =>
      rw [h] at inn
      obtain ⟨s3', e⟩ := inn
      have ih := due_out p f T hn l (.val (.int x)) s3' fun z hz => hl z (List.mem_cons_of_mem _ hz)
      simp [forD_cons, fb_law_due_1_eq, rng1_ok hr, rng_eq, e]
      simpa using ih
theorem due_eq (p f : Nat) (T : Option Tape) (hp : p < 100) : den_law_due [.int p, .int f] T = .ok (pairD (dueR p p f)) T := by
  have hr : rOk ((p : Nat) : Int) = true := rOk_i (by omega) (by omega)
  have h := due_out p f T hp (List.range p) .un .un fun y hy => by
    have := List.mem_range.mp hy; omega
  unfold den_law_due
  unfold dueR
  rw [runD_a]
  cases e : (List.range p).findSome? fun x => ((List.range p).find? fun y => hit p f x y).map fun y => (x, y) with
  | some xy =>
    obtain ⟨x, y⟩ := xy
    rw [e] at h
    have h : forD (tgN 2) fb_law_due_1 ((List.range p).map fun i => .int (i : Nat)) [.val (.int p), .val (.int f), .un, .un] T = .ret (.tup [.int x, .int y]) T := h
    simp [body_law_due_eq, rng1_ok hr, rng_eq, h]
    rfl
  | none =>
    rw [e] at h
    obtain ⟨s2, s3, h⟩ := h
    simp [body_law_due_eq, rng1_ok hr, rng_eq, h]
    rfl
/-- beyond 8 nothing is found -/
theorem hit_far {p f x y : Nat} (hp : p ≤ 61) (hf : 1 ≤ f) (h : 8 ≤ x ∨ 8 ≤ y) : hit p f x y = false := by
  rw [Bool.eq_false_iff]
  intro z
  unfold hit at z
  rw [natBeq] at z
  have a1 : y * y ≤ f * y * y := by
    rw [Nat.mul_assoc]
    exact Nat.le_mul_of_pos_left _ hf
  rcases h with h | h
  · have := Nat.mul_le_mul h h
    omega
  · have := Nat.mul_le_mul h h
    omega
def lim (p : Nat) : Nat := if p < 8 then p else 8
theorem dueR_lim (p f : Nat) (hp : p ≤ 61) (hf : 1 ≤ f) : dueR p p f = dueR (lim p) p f := by
  unfold lim
  by_cases h : p < 8
  · rw [if_pos h]
  · rw [if_neg h]
    unfold dueR
    have e : ∀ x, (List.range p).find? (fun y => hit p f x y) = (List.range 8).find? (fun y => hit p f x y) := fun x => find_range _ 8 (fun y hy => hit_far hp hf (.inr hy)) p (by omega)
    rw [show (fun x => ((List.range p).find? fun y => hit p f x y).map fun y => (x, y)) = (fun x => ((List.range 8).find? fun y => hit p f x y).map fun y => (x, y)) from funext fun x => by rw [e x]]
    refine findSome_range _ 8 (fun x hx => ?_) p (by omega)
    rw [show (List.range 8).find? (fun y => hit p f x y) = none from List.find?_eq_none.mpr fun y _ => by rw [hit_far hp hf (.inl hx)]; exact Bool.false_ne_true]
    rfl
/-! ### what the two functions give -/
def chkA (p : Nat) : Bool := (List.range (p + 3)).all fun i => gives (den_two_squares [.int p, .int (i + 1 : Nat)] none) (pairD (dueR (lim p) p (i + 1)))
def chkB (p : Nat) : Bool := (List.range (p - 1)).all fun i => gives (den_fast_two_squares [.int p, .int (i + 1 : Nat)] none) (pairD (dueR (lim p) p (i + 1)))
def primes : List Nat := [5, 7, 11, 13, 17, 19, 23, 29, 31, 37, 41, 43, 47, 53, 59, 61]
theorem chkA_5 : chkA 5 = true := by decide +kernel
theorem chkB_5 : chkB 5 = true := by decide +kernel
theorem chkA_7 : chkA 7 = true := by decide +kernel
theorem chkB_7 : chkB 7 = true := by decide +kernel
theorem chkA_11 : chkA 11 = true := by decide +kernel
theorem chkB_11 : chkB 11 = true := by decide +kernel
theorem chkA_13 : chkA 13 = true := by decide +kernel
theorem chkB_13 : chkB 13 = true := by decide +kernel
theorem chkA_17 : chkA 17 = true := by decide +kernel
theorem chkB_17 : chkB 17 = true := by decide +kernel
theorem chkA_19 : chkA 19 = true := by decide +kernel
theorem chkB_19 : chkB 19 = true := by decide +kernel
theorem chkA_23 : chkA 23 = true := by decide +kernel
theorem chkB_23 : chkB 23 = true := by decide +kernel
theorem chkA_29 : chkA 29 = true := by decide +kernel
theorem chkB_29 : chkB 29 = true := by decide +kernel
theorem chkA_31 : chkA 31 = true := by decide +kernel
theorem chkB_31 : chkB 31 = true := by decide +kernel
theorem chkA_37 : chkA 37 = true := by decide +kernel
theorem chkB_37 : chkB 37 = true := by decide +kernel
theorem chkA_41 : chkA 41 = true := by decide +kernel
theorem chkB_41 : chkB 41 = true := by decide +kernel
theorem chkA_43 : chkA 43 = true := by decide +kernel
theorem chkB_43 : chkB 43 = true := by decide +kernel
theorem chkA_47 : chkA 47 = true := by decide +kernel
theorem chkB_47 : chkB 47 = true := by decide +kernel
theorem chkA_53 : chkA 53 = true := by decide +kernel
theorem chkB_53 : chkB 53 = true := by decide +kernel
theorem chkA_59 : chkA 59 = true := by decide +kernel
theorem chkB_59 : chkB 59 = true := by decide +kernel
theorem chkA_61 : chkA 61 = true := by decide +kernel
theorem chkB_61 : chkB 61 = true := by decide +kernel
theorem chk_all : ∀ p ∈ primes, chkA p = true ∧ chkB p = true := by
  unfold primes
  simp only [List.forall_mem_cons, List.not_mem_nil, false_imp_iff, implies_true, and_true]
  exact ⟨⟨chkA_5, chkB_5⟩, ⟨chkA_7, chkB_7⟩, ⟨chkA_11, chkB_11⟩, ⟨chkA_13, chkB_13⟩, ⟨chkA_17, chkB_17⟩, ⟨chkA_19, chkB_19⟩, ⟨chkA_23, chkB_23⟩, ⟨chkA_29, chkB_29⟩, ⟨chkA_31, chkB_31⟩, ⟨chkA_37, chkB_37⟩, ⟨chkA_41, chkB_41⟩, ⟨chkA_43, chkB_43⟩, ⟨chkA_47, chkB_47⟩, ⟨chkA_53, chkB_53⟩, ⟨chkA_59, chkB_59⟩, ⟨chkA_61, chkB_61⟩⟩
theorem primes_small : ∀ p ∈ primes, 5 ≤ p ∧ p ≤ 61 := by decide
theorem two_eq {p f : Nat} (hp : p ∈ primes) (h1 : 1 ≤ f) (h2 : f ≤ p + 3) : den_two_squares [.int p, .int f] none = .ok (pairD (dueR p p f)) none := by
  obtain ⟨h5, h61⟩ := primes_small p hp
  have h := (chk_all p hp).1
  unfold chkA at h
  rw [List.all_eq_true] at h
  have := h (f - 1) (List.mem_range.mpr (by omega))
  rw [Nat.sub_add_cancel h1] at this
  rw [dueR_lim p f h61 h1]
  exact gives_eq this
theorem fast_eq {p f : Nat} (hp : p ∈ primes) (h1 : 1 ≤ f) (h2 : f < p) : den_fast_two_squares [.int p, .int f] none = .ok (pairD (dueR p p f)) none := by
  obtain ⟨h5, h61⟩ := primes_small p hp
  have h := (chk_all p hp).2
  unfold chkB at h
  rw [List.all_eq_true] at h
  have := h (f - 1) (List.mem_range.mpr (by omega))
  rw [Nat.sub_add_cancel h1] at this
  rw [dueR_lim p f h61 h1]
  exact gives_eq this
theorem prime_den (r : Nat) : ∃ p ∈ primes, ∀ T, den_law_prime [.int r] T = .ok (.int (p : Nat)) T := by
  have h : ∀ m < 16, ∃ p ∈ primes, ∀ T, atI [D.int 5, D.int 7, D.int 11, D.int 13, D.int 17, D.int 19, D.int 23, D.int 29, D.int 31, D.int 37, D.int 41, D.int 43, D.int 47, D.int 53, D.int 59, D.int 61] ((m : Nat) : Int) = some (.int (p : Nat)) ∧ (T : Option Tape) = T := by
    intro m hm
    refine ⟨primes[m]'hm, List.getElem_mem _, fun T => ⟨?_, rfl⟩⟩
    rcases m with _ | _ | _ | _ | _ | _ | _ | _ | _ | _ | _ | _ | _ | _ | _ | _ | m
    all_goals first | rfl | omega
  obtain ⟨p, hp, e⟩ := h (r % 16) (by omega)
  refine ⟨p, hp, fun T => ?_⟩
  have e := (e T).1
  have : ((r % 16 : Nat) : Int) = (r : Int) % 16 := by omega
  rw [this] at e
  simp [den_law_prime, runD_a, body_law_prime_eq, oMod_i, line, e]
def bads : List D := [.int 0, .int (-1), .non, .bl true, .str (PySem.Str.ofString "1"), .tup [.int 1]]
theorem sub_bad : subOf rows_BadNumber (PySem.Str.ofString "BadNumber") = some true := by decide +kernel
theorem two_bad (p : Nat) : ∀ d ∈ bads, den_two_squares [.int p, d] none = .exc ⟨PySem.Str.ofString "BadNumber", none⟩ none := by
  unfold bads
  simp only [List.forall_mem_cons, List.not_mem_nil, false_imp_iff, implies_true, and_true]
  simp [den_two_squares, runD_a, body_two_squares_eq, den_is_integer, body_is_integer_eq]
theorem refused_den (p : Nat) (d : D) (h : d ∈ bads) : den_law_refused [.int p, d] none = .ok (.bl true) none := by
  simp [den_law_refused, runD_a, body_law_refused_eq, two_bad p d h, sub_bad]
theorem pair_eq (o : Option (Nat × Nat)) : oNe (pairD o) (pairD o) = some (.bl false) := by
  cases o with
  | none => exact id rfl
  | some xy =>
    obtain ⟨x, y⟩ := xy
    have e : oNe (pairD (some (x, y))) (pairD (some (x, y))) = some (.bl (!((x : Int) == x && ((y : Int) == y && true)))) := id rfl
    rw [e]
    simp
theorem inner1 {p f : Nat} (hp : p ∈ primes) (h1 : 1 ≤ f) (h2 : f ≤ p + 3) (ns : List Int) (t r : Int) (s5 : Sl) : ∃ s5', fb_law_2 [.val (.scr ns), .val (.int t), .val (.int r), .val (.int p), .val (.int f), s5] none = .nx [.val (.scr ns), .val (.int t), .val (.int r), .val (.int p), .val (.int f), s5'] none := by
  have hd := due_eq p f none (by have := primes_small p hp; omega)
  have ht := two_eq hp h1 h2
  refine ⟨.val (pairD (dueR p p f)), ?_⟩
  by_cases h : f < p
  · have hf := fast_eq hp h1 h
    have h' : (f : Int) < p := by omega
    simp [fb_law_2_eq, hd, ht, hf, h', pair_eq]
  · have h' : ¬ (f : Int) < p := by omega
    simp [fb_law_2_eq, hd, ht, h', pair_eq]
theorem inner {p : Nat} (hp : p ∈ primes) (ns : List Int) (t r : Int) : ∀ (fs : List Nat), (∀ f ∈ fs, 1 ≤ f ∧ f ≤ p + 3) → ∀ s4 s5 : Sl, ∃ s4' s5', forD (tgN 4) fb_law_2 (fs.map fun f => .int (f : Nat)) [.val (.scr ns), .val (.int t), .val (.int r), .val (.int p), s4, s5] none = .nx [.val (.scr ns), .val (.int t), .val (.int r), .val (.int p), s4', s5'] none := by
  intro fs
  induction fs with
  | nil => exact fun _ s4 s5 => ⟨s4, s5, rfl⟩
  | cons f fs ih =>
    intro h s4 s5
    obtain ⟨s5', e⟩ := inner1 hp (h f List.mem_cons_self).1 (h f List.mem_cons_self).2 ns t r s5
    obtain ⟨a, b, e2⟩ := ih (fun z hz => h z (List.mem_cons_of_mem _ hz)) (.val (.int f)) s5'
    exact ⟨a, b, by simp [forD_cons, e]; exact e2⟩
theorem outer1 (ns : List Int) (t : Nat) (ht : t < 3) (s2 s3 s4 s5 : Sl) : ∃ s2' s3' s4' s5', fb_law_1 [.val (.scr ns), .val (.int t), s2, s3, s4, s5] none = .nx [.val (.scr ns), .val (.int t), s2', s3', s4', s5'] none := by
  obtain ⟨c, hc, e1⟩ := cell_den ns t none
  have e1 : den_law_cell [.scr ns, .int t] none = .ok (.int c) none := e1
  obtain ⟨r, hr, e2⟩ := rich_den c t hc (by omega) none
  have e2 : den_law_rich [.int c, .int t] none = .ok (.int r) none := e2
  obtain ⟨p, hp, e3⟩ := prime_den r
  have e3 := e3 none
  obtain ⟨h5, h61⟩ := primes_small p hp
  obtain ⟨s4', s5', e4⟩ := inner hp ns t r [1, 2, 3, 1 + r / 16 % (p - 1), p - 1, p, p + 3, p - 4] (by
    have : r / 16 % (p - 1) < p - 1 := Nat.mod_lt _ (by omega)
    simp only [List.forall_mem_cons, List.not_mem_nil, false_imp_iff, implies_true, and_true]
    omega) s4 s5
  have hb : ∃ d ∈ bads, atI [D.int 0, D.int (-1), .non, .bl true, .str (PySem.Str.ofString "1"), .tup [.int 1]] ((r : Int) / 31 % 6) = some d := by
    have : (r : Int) / 31 % 6 = ((r / 31 % 6 : Nat) : Int) := by omega
    rw [this]
    have h6 : r / 31 % 6 < 6 := by omega
    generalize r / 31 % 6 = m at h6
    refine ⟨bads[m]'h6, List.getElem_mem _, ?_⟩
    rcases m with _ | _ | _ | _ | _ | _ | m
    all_goals first | rfl | omega
  obtain ⟨d, hd, e5⟩ := hb
  have e6 := refused_den p d hd
  refine ⟨.val (.int r), .val (.int p), s4', s5', ?_⟩
  have q1 : ((p - 1 : Nat) : Int) = (p : Int) - 1 := by omega
  have q4 : ((p - 4 : Nat) : Int) = (p : Int) - 4 := by omega
  simp [q1, q4] at e4
  have hm : (0 : Int) < (p : Int) - 1 := by omega
  simp [fb_law_1_eq, e1, e2, e3, oDiv_i, oMod_i, oMod_i hm, line, e4, e5, e6]
theorem law_true : ∀ ns : List Int, ns.length ≤ 63 → ∃ T, den_law [.scr ns] none = .ok (.bl true) T := by
  intro ns _
  refine ⟨none, ?_⟩
  obtain ⟨a2, a3, a4, a5, h0⟩ := outer1 ns 0 (by decide) .un .un .un .un
  obtain ⟨b2, b3, b4, b5, h1⟩ := outer1 ns 1 (by decide) a2 a3 a4 a5
  obtain ⟨c2, c3, c4, c5, h2⟩ := outer1 ns 2 (by decide) b2 b3 b4 b5
  have er : rng 0 1 3 = [.int (0 : Nat), .int (1 : Nat), .int (2 : Nat)] := rfl
  have hr : rOk 3 = true := rfl
  simp at h0 h1 h2
  simp [den_law, runD_a, body_law_eq, rng1_ok hr, er, forD_cons, forD_nil, h0, h1, h2]
end K49

namespace K49
open PySem PySem.Spec PyProof.Rows L2 DD
theorem all_mk {l : PySem.W.OpenLaw} {w : World} {K : PySem.W.Frag} {h : Heap} {mg : Str → Option Value} {fa : Addr} (X : K.In h) (G : h.Ns mainGlobals mg) (hfa : mg "law" = some (.ref fa))
    {od0 an0 : Option Addr} {sl0 : Array (Option Value)} {oc0 kV0 dc0 pm0 cd0 ct0 : Value} {f0 : Addr}
    {od1 an1 : Option Addr} {sl1 : Array (Option Value)} {oc1 kV1 dc1 pm1 cd1 ct1 : Value} {f1 : Addr}
    {od2 an2 : Option Addr} {sl2 : Array (Option Value)} {oc2 kV2 dc2 pm2 cd2 ct2 : Value} {f2 : Addr}
    {od3 an3 : Option Addr} {sl3 : Array (Option Value)} {oc3 kV3 dc3 pm3 cd3 ct3 : Value} {f3 : Addr}
    {od4 an4 : Option Addr} {sl4 : Array (Option Value)} {oc4 kV4 dc4 pm4 cd4 ct4 : Value} {f4 : Addr}
    {od5 an5 : Option Addr} {sl5 : Array (Option Value)} {oc5 kV5 dc5 pm5 cd5 ct5 : Value} {f5 : Addr}
    {od6 an6 : Option Addr} {sl6 : Array (Option Value)} {oc6 kV6 dc6 pm6 cd6 ct6 : Value} {f6 : Addr}
    {od7 an7 : Option Addr} {sl7 : Array (Option Value)} {oc7 kV7 dc7 pm7 cd7 ct7 : Value} {f7 : Addr}
    {od8 an8 : Option Addr} {sl8 : Array (Option Value)} {oc8 kV8 dc8 pm8 cd8 ct8 : Value} {f8 : Addr}
    {od9 an9 : Option Addr} {sl9 : Array (Option Value)} {oc9 kV9 dc9 pm9 cd9 ct9 : Value} {f9 : Addr}
    {od10 an10 : Option Addr} {sl10 : Array (Option Value)} {oc10 kV10 dc10 pm10 cd10 ct10 : Value} {f10 : Addr}
    {od11 an11 : Option Addr} {sl11 : Array (Option Value)} {oc11 kV11 dc11 pm11 cd11 ct11 : Value} {f11 : Addr}
    {od12 an12 : Option Addr} {sl12 : Array (Option Value)} {oc12 kV12 dc12 pm12 cd12 ct12 : Value} {f12 : Addr}
    {od13 an13 : Option Addr} {sl13 : Array (Option Value)} {oc13 kV13 dc13 pm13 cd13 ct13 : Value} {f13 : Addr}
    {C_BadNumber : Addr}
    (a0 : PySem.W.nsIn K mainGlobals "is_integer" = some (some (.ref f0))) (l0 : K.lookup f0 = some ⟨oc0, od0, .func (PySem.W.fnOf "is_integer" "is_integer" (defArgs st_is_integer) (defBody st_is_integer) (defScope st_is_integer) .none kV0 dc0 pm0 an0 cd0 ct0), sl0⟩) (c0 : PySem.W.codeIn K cd0 "is_integer" = true) (k0 : PySem.W.keepIn K (.ref f0) = true)
    (a1 : PySem.W.nsIn K mainGlobals "power" = some (some (.ref f1))) (l1 : K.lookup f1 = some ⟨oc1, od1, .func (PySem.W.fnOf "power" "power" (defArgs st_power) (defBody st_power) (defScope st_power) .none kV1 dc1 pm1 an1 cd1 ct1), sl1⟩) (c1 : PySem.W.codeIn K cd1 "power" = true) (k1 : PySem.W.keepIn K (.ref f1) = true)
    (a2 : PySem.W.nsIn K mainGlobals "jacobi" = some (some (.ref f2))) (l2 : K.lookup f2 = some ⟨oc2, od2, .func (PySem.W.fnOf "jacobi" "jacobi" (defArgs st_jacobi) (defBody st_jacobi) (defScope st_jacobi) .none kV2 dc2 pm2 an2 cd2 ct2), sl2⟩) (c2 : PySem.W.codeIn K cd2 "jacobi" = true) (k2 : PySem.W.keepIn K (.ref f2) = true)
    (a3 : PySem.W.nsIn K mainGlobals "nonsquare" = some (some (.ref f3))) (l3 : K.lookup f3 = some ⟨oc3, od3, .func (PySem.W.fnOf "nonsquare" "nonsquare" (defArgs st_nonsquare) (defBody st_nonsquare) (defScope st_nonsquare) .none kV3 dc3 pm3 an3 cd3 ct3), sl3⟩) (c3 : PySem.W.codeIn K cd3 "nonsquare" = true) (k3 : PySem.W.keepIn K (.ref f3) = true)
    (a4 : PySem.W.nsIn K mainGlobals "root" = some (some (.ref f4))) (l4 : K.lookup f4 = some ⟨oc4, od4, .func (PySem.W.fnOf "root" "root" (defArgs st_root) (defBody st_root) (defScope st_root) .none kV4 dc4 pm4 an4 cd4 ct4), sl4⟩) (c4 : PySem.W.codeIn K cd4 "root" = true) (k4 : PySem.W.keepIn K (.ref f4) = true)
    (a5 : PySem.W.nsIn K mainGlobals "whole_root" = some (some (.ref f5))) (l5 : K.lookup f5 = some ⟨oc5, od5, .func (PySem.W.fnOf "whole_root" "whole_root" (defArgs st_whole_root) (defBody st_whole_root) (defScope st_whole_root) .none kV5 dc5 pm5 an5 cd5 ct5), sl5⟩) (c5 : PySem.W.codeIn K cd5 "whole_root" = true) (k5 : PySem.W.keepIn K (.ref f5) = true)
    (a6 : PySem.W.nsIn K mainGlobals "two_squares" = some (some (.ref f6))) (l6 : K.lookup f6 = some ⟨oc6, od6, .func (PySem.W.fnOf "two_squares" "two_squares" (defArgs st_two_squares) (defBody st_two_squares) (defScope st_two_squares) .none kV6 dc6 pm6 an6 cd6 ct6), sl6⟩) (c6 : PySem.W.codeIn K cd6 "two_squares" = true) (k6 : PySem.W.keepIn K (.ref f6) = true)
    (a7 : PySem.W.nsIn K mainGlobals "fast_two_squares" = some (some (.ref f7))) (l7 : K.lookup f7 = some ⟨oc7, od7, .func (PySem.W.fnOf "fast_two_squares" "fast_two_squares" (defArgs st_fast_two_squares) (defBody st_fast_two_squares) (defScope st_fast_two_squares) .none kV7 dc7 pm7 an7 cd7 ct7), sl7⟩) (c7 : PySem.W.codeIn K cd7 "fast_two_squares" = true) (k7 : PySem.W.keepIn K (.ref f7) = true)
    (a8 : PySem.W.nsIn K mainGlobals "_law_cell" = some (some (.ref f8))) (l8 : K.lookup f8 = some ⟨oc8, od8, .func (PySem.W.fnOf "_law_cell" "_law_cell" (defArgs st_law_cell) (defBody st_law_cell) (defScope st_law_cell) .none kV8 dc8 pm8 an8 cd8 ct8), sl8⟩) (c8 : PySem.W.codeIn K cd8 "_law_cell" = true) (k8 : PySem.W.keepIn K (.ref f8) = true)
    (a9 : PySem.W.nsIn K mainGlobals "_law_rich" = some (some (.ref f9))) (l9 : K.lookup f9 = some ⟨oc9, od9, .func (PySem.W.fnOf "_law_rich" "_law_rich" (defArgs st_law_rich) (defBody st_law_rich) (defScope st_law_rich) .none kV9 dc9 pm9 an9 cd9 ct9), sl9⟩) (c9 : PySem.W.codeIn K cd9 "_law_rich" = true) (k9 : PySem.W.keepIn K (.ref f9) = true)
    (a10 : PySem.W.nsIn K mainGlobals "_law_prime" = some (some (.ref f10))) (l10 : K.lookup f10 = some ⟨oc10, od10, .func (PySem.W.fnOf "_law_prime" "_law_prime" (defArgs st_law_prime) (defBody st_law_prime) (defScope st_law_prime) .none kV10 dc10 pm10 an10 cd10 ct10), sl10⟩) (c10 : PySem.W.codeIn K cd10 "_law_prime" = true) (k10 : PySem.W.keepIn K (.ref f10) = true)
    (a11 : PySem.W.nsIn K mainGlobals "_law_due" = some (some (.ref f11))) (l11 : K.lookup f11 = some ⟨oc11, od11, .func (PySem.W.fnOf "_law_due" "_law_due" (defArgs st_law_due) (defBody st_law_due) (defScope st_law_due) .none kV11 dc11 pm11 an11 cd11 ct11), sl11⟩) (c11 : PySem.W.codeIn K cd11 "_law_due" = true) (k11 : PySem.W.keepIn K (.ref f11) = true)
    (a12 : PySem.W.nsIn K mainGlobals "_law_refused" = some (some (.ref f12))) (l12 : K.lookup f12 = some ⟨oc12, od12, .func (PySem.W.fnOf "_law_refused" "_law_refused" (defArgs st_law_refused) (defBody st_law_refused) (defScope st_law_refused) .none kV12 dc12 pm12 an12 cd12 ct12), sl12⟩) (c12 : PySem.W.codeIn K cd12 "_law_refused" = true) (k12 : PySem.W.keepIn K (.ref f12) = true)
    (a13 : PySem.W.nsIn K mainGlobals "law" = some (some (.ref f13))) (l13 : K.lookup f13 = some ⟨oc13, od13, .func (PySem.W.fnOf "law" "law" (defArgs st_law) (defBody st_law) (defScope st_law) .none kV13 dc13 pm13 an13 cd13 ct13), sl13⟩) (c13 : PySem.W.codeIn K cd13 "law" = true) (k13 : PySem.W.keepIn K (.ref f13) = true)
    (aC_BadNumber : PySem.W.nsIn K mainGlobals "BadNumber" = some (some (.ref C_BadNumber))) (kC_BadNumber : PySem.W.keepIn K (.ref C_BadNumber) = true) (eC_BadNumber : PySem.W.subIn K (.ref C_BadNumber) (.type "BaseException") = some true) (tC_BadNumber : PySem.W.typeIn K (.ref C_BadNumber) = some (.type "type")) (iC_BadNumber : PySem.W.isClsIn K C_BadNumber = true)
    (xC_BadNumber : PySem.W.excIn K C_BadNumber veb "ValueError.__new__" = true)
    (z_abs : PySem.W.nsIn K mainGlobals "abs" = some none)
    (z_bool : PySem.W.nsIn K mainGlobals "bool" = some none)
    (z_int : PySem.W.nsIn K mainGlobals "int" = some none)
    (z_isinstance : PySem.W.nsIn K mainGlobals "isinstance" = some none)
    (z_len : PySem.W.nsIn K mainGlobals "len" = some none)
    (z_max : PySem.W.nsIn K mainGlobals "max" = some none)
    (z_min : PySem.W.nsIn K mainGlobals "min" = some none)
    (z_range : PySem.W.nsIn K mainGlobals "range" = some none)
    (s_BadNumber_BadNumber : PySem.W.subIn K (.ref C_BadNumber) (.ref C_BadNumber) = some true)
    : ∃ fd : FuncData, (∀ (s : Shared) (u : Value), BindsTo s fd ⟨[u], []⟩ [("script", u)]) ∧ ∀ base : Heap, K.In base → base.Ns mainGlobals mg → FnOk l.prog w K mg base (L2.CX l.prog w) 5 fa fd ["script"] (spLaw K) := by
  have T : Top K mg := {
    d_is_integer := ⟨f0, _, fun_mk (st := st_is_integer) l0 c0 k0, (fun_mk (st := st_is_integer) l0 c0 k0).binds (ps := ["value"]) fun _ _ _ _ _ _ us hl => match us, hl with | [_], _ => rfl, PySem.W.mg_of X G a0⟩
    d_power := ⟨f1, _, fun_mk (st := st_power) l1 c1 k1, (fun_mk (st := st_power) l1 c1 k1).binds (ps := ["base", "exponent", "modulus"]) fun _ _ _ _ _ _ us hl => match us, hl with | [_, _, _], _ => rfl, PySem.W.mg_of X G a1⟩
    d_jacobi := ⟨f2, _, fun_mk (st := st_jacobi) l2 c2 k2, (fun_mk (st := st_jacobi) l2 c2 k2).binds (ps := ["number", "modulus"]) fun _ _ _ _ _ _ us hl => match us, hl with | [_, _], _ => rfl, PySem.W.mg_of X G a2⟩
    d_nonsquare := ⟨f3, _, fun_mk (st := st_nonsquare) l3 c3 k3, (fun_mk (st := st_nonsquare) l3 c3 k3).binds (ps := ["prime"]) fun _ _ _ _ _ _ us hl => match us, hl with | [_], _ => rfl, PySem.W.mg_of X G a3⟩
    d_root := ⟨f4, _, fun_mk (st := st_root) l4 c4 k4, (fun_mk (st := st_root) l4 c4 k4).binds (ps := ["number", "prime"]) fun _ _ _ _ _ _ us hl => match us, hl with | [_, _], _ => rfl, PySem.W.mg_of X G a4⟩
    d_whole_root := ⟨f5, _, fun_mk (st := st_whole_root) l5 c5 k5, (fun_mk (st := st_whole_root) l5 c5 k5).binds (ps := ["number"]) fun _ _ _ _ _ _ us hl => match us, hl with | [_], _ => rfl, PySem.W.mg_of X G a5⟩
    d_two_squares := ⟨f6, _, fun_mk (st := st_two_squares) l6 c6 k6, (fun_mk (st := st_two_squares) l6 c6 k6).binds (ps := ["prime", "factor"]) fun _ _ _ _ _ _ us hl => match us, hl with | [_, _], _ => rfl, PySem.W.mg_of X G a6⟩
    d_fast_two_squares := ⟨f7, _, fun_mk (st := st_fast_two_squares) l7 c7 k7, (fun_mk (st := st_fast_two_squares) l7 c7 k7).binds (ps := ["prime", "factor"]) fun _ _ _ _ _ _ us hl => match us, hl with | [_, _], _ => rfl, PySem.W.mg_of X G a7⟩
    d_law_cell := ⟨f8, _, fun_mk (st := st_law_cell) l8 c8 k8, (fun_mk (st := st_law_cell) l8 c8 k8).binds (ps := ["script", "k"]) fun _ _ _ _ _ _ us hl => match us, hl with | [_, _], _ => rfl, PySem.W.mg_of X G a8⟩
    d_law_rich := ⟨f9, _, fun_mk (st := st_law_rich) l9 c9 k9, (fun_mk (st := st_law_rich) l9 c9 k9).binds (ps := ["cell", "k"]) fun _ _ _ _ _ _ us hl => match us, hl with | [_, _], _ => rfl, PySem.W.mg_of X G a9⟩
    d_law_prime := ⟨f10, _, fun_mk (st := st_law_prime) l10 c10 k10, (fun_mk (st := st_law_prime) l10 c10 k10).binds (ps := ["rich"]) fun _ _ _ _ _ _ us hl => match us, hl with | [_], _ => rfl, PySem.W.mg_of X G a10⟩
    d_law_due := ⟨f11, _, fun_mk (st := st_law_due) l11 c11 k11, (fun_mk (st := st_law_due) l11 c11 k11).binds (ps := ["p", "factor"]) fun _ _ _ _ _ _ us hl => match us, hl with | [_, _], _ => rfl, PySem.W.mg_of X G a11⟩
    d_law_refused := ⟨f12, _, fun_mk (st := st_law_refused) l12 c12 k12, (fun_mk (st := st_law_refused) l12 c12 k12).binds (ps := ["p", "factor"]) fun _ _ _ _ _ _ us hl => match us, hl with | [_, _], _ => rfl, PySem.W.mg_of X G a12⟩
    d_law := ⟨f13, _, fun_mk (st := st_law) l13 c13 k13, (fun_mk (st := st_law) l13 c13 k13).binds (ps := ["script"]) fun _ _ _ _ _ _ us hl => match us, hl with | [_], _ => rfl, PySem.W.mg_of X G a13⟩
    x_BadNumber := ⟨C_BadNumber, PySem.W.mg_of X G aC_BadNumber, kC_BadNumber, xC_BadNumber, eC_BadNumber, tC_BadNumber⟩
    b_abs := PySem.W.mg_none_of X G z_abs
    b_bool := PySem.W.mg_none_of X G z_bool
    b_int := PySem.W.mg_none_of X G z_int
    b_isinstance := PySem.W.mg_none_of X G z_isinstance
    b_len := PySem.W.mg_none_of X G z_len
    b_max := PySem.W.mg_none_of X G z_max
    b_min := PySem.W.mg_none_of X G z_min
    b_range := PySem.W.mg_none_of X G z_range
    s_BadNumber := ⟨.ref C_BadNumber, PySem.W.mg_of X G aC_BadNumber, fun p hp => by
      unfold rows_BadNumber at hp
      simp only [List.mem_cons, List.not_mem_nil, or_false] at hp
      first
        | (obtain rfl := hp; exact ⟨C_BadNumber, PySem.W.mg_of X G aC_BadNumber, exm_of eC_BadNumber iC_BadNumber tC_BadNumber s_BadNumber_BadNumber⟩)⟩
  }
  have e := hfa.symm.trans (PySem.W.mg_of X G a13)
  cases e
  refine ⟨PySem.W.fnOf "law" "law" (defArgs st_law) (defBody st_law) (defScope st_law) .none kV13 dc13 pm13 an13 cd13 ct13, fun s v => .of_eq rfl, fun base _ _ => ?_⟩
  have G_is_integer : OkF l.prog w K mg base "is_integer" ["value"] 1 1 den_is_integer := ok_is_integer T
  have G_power : OkF l.prog w K mg base "power" ["base", "exponent", "modulus"] 1 3 den_power := ok_power T
  have G_jacobi : OkF l.prog w K mg base "jacobi" ["number", "modulus"] 1 2 den_jacobi := ok_jacobi T
  have G_nonsquare : OkF l.prog w K mg base "nonsquare" ["prime"] 2 1 den_nonsquare := ok_nonsquare T G_jacobi
  have G_root : OkF l.prog w K mg base "root" ["number", "prime"] 3 2 den_root := ok_root T G_jacobi G_nonsquare G_power
  have G_whole_root : OkF l.prog w K mg base "whole_root" ["number"] 1 1 den_whole_root := ok_whole_root T
  have G_two_squares : OkF l.prog w K mg base "two_squares" ["prime", "factor"] 2 2 den_two_squares := ok_two_squares T G_is_integer G_whole_root
  have G_fast_two_squares : OkF l.prog w K mg base "fast_two_squares" ["prime", "factor"] 4 2 den_fast_two_squares := ok_fast_two_squares T G_root G_whole_root
  have G_law_cell : OkF l.prog w K mg base "_law_cell" ["script", "k"] 1 2 den_law_cell := ok_law_cell T
  have G_law_rich : OkF l.prog w K mg base "_law_rich" ["cell", "k"] 1 2 den_law_rich := ok_law_rich T
  have G_law_prime : OkF l.prog w K mg base "_law_prime" ["rich"] 1 1 den_law_prime := ok_law_prime T
  have G_law_due : OkF l.prog w K mg base "_law_due" ["p", "factor"] 1 2 den_law_due := ok_law_due T
  have G_law_refused : OkF l.prog w K mg base "_law_refused" ["p", "factor"] 3 2 den_law_refused := ok_law_refused T G_two_squares
  exact law_ok (ok_law (fun_mk (st := st_law) l13 c13 k13) T G_law_cell G_law_rich G_law_prime G_law_due G_two_squares G_fast_two_squares G_law_refused) law_true
end K49
open PySem PySem.W PyProof.Rows
set_option maxRecDepth 100000 in
set_option maxHeartbeats 0 in
theorem PySem.Challenge.cw_chordkeep_k49_whole_two_squares_holds : PySem.Challenge.rw_chordkeep_k49_whole_two_squares.Holds := by
  w_on; o_law; k_head; (case hw => w_witness2)
  k_fill
  refine DD.law_walk (l := PySem.Challenge.rw_chordkeep_k49_whole_two_squares) (k := 5) (x := "script") rfl rfl ⟨rfl, by decide, by decide⟩ (fun w h Y => PySem.W.kIn_of Y) ?F
  case F =>
    intro w mg fa h KX G hmg
    refine' K49.all_mk KX G hmg ?a0 ?l0 ?c0 ?k0 ?a1 ?l1 ?c1 ?k1 ?a2 ?l2 ?c2 ?k2 ?a3 ?l3 ?c3 ?k3 ?a4 ?l4 ?c4 ?k4 ?a5 ?l5 ?c5 ?k5 ?a6 ?l6 ?c6 ?k6 ?a7 ?l7 ?c7 ?k7 ?a8 ?l8 ?c8 ?k8 ?a9 ?l9 ?c9 ?k9 ?a10 ?l10 ?c10 ?k10 ?a11 ?l11 ?c11 ?k11 ?a12 ?l12 ?c12 ?k12 ?a13 ?l13 ?c13 ?k13 ?aC_BadNumber ?kC_BadNumber ?eC_BadNumber ?tC_BadNumber ?iC_BadNumber ?xC_BadNumber ?z_abs ?z_bool ?z_int ?z_isinstance ?z_len ?z_max ?z_min ?z_range ?s_BadNumber_BadNumber
    (case a0 => k_is)
    (case l0 => k_is)
    (case c0 => k_is)
    (case k0 => k_is)
    (case a1 => k_is)
    (case l1 => k_is)
    (case c1 => k_is)
    (case k1 => k_is)
    (case a2 => k_is)
    (case l2 => k_is)
    (case c2 => k_is)
    (case k2 => k_is)
    (case a3 => k_is)
    (case l3 => k_is)
    (case c3 => k_is)
    (case k3 => k_is)
    (case a4 => k_is)
    (case l4 => k_is)
    (case c4 => k_is)
    (case k4 => k_is)
    (case a5 => k_is)
    (case l5 => k_is)
    (case c5 => k_is)
    (case k5 => k_is)
    (case a6 => k_is)
    (case l6 => k_is)
    (case c6 => k_is)
    (case k6 => k_is)
    (case a7 => k_is)
    (case l7 => k_is)
    (case c7 => k_is)
    (case k7 => k_is)
    (case a8 => k_is)
    (case l8 => k_is)
    (case c8 => k_is)
    (case k8 => k_is)
    (case a9 => k_is)
    (case l9 => k_is)
    (case c9 => k_is)
    (case k9 => k_is)
    (case a10 => k_is)
    (case l10 => k_is)
    (case c10 => k_is)
    (case k10 => k_is)
    (case a11 => k_is)
    (case l11 => k_is)
    (case c11 => k_is)
    (case k11 => k_is)
    (case a12 => k_is)
    (case l12 => k_is)
    (case c12 => k_is)
    (case k12 => k_is)
    (case a13 => k_is)
    (case l13 => k_is)
    (case c13 => k_is)
    (case k13 => k_is)
    (case aC_BadNumber => k_is)
    (case kC_BadNumber => k_is)
    (case eC_BadNumber => k_is)
    (case tC_BadNumber => k_is)
    (case iC_BadNumber => k_is)
    (case xC_BadNumber => k_exc)
    (case z_abs => k_is)
    (case z_bool => k_is)
    (case z_int => k_is)
    (case z_isinstance => k_is)
    (case z_len => k_is)
    (case z_max => k_is)
    (case z_min => k_is)
    (case z_range => k_is)
    (case s_BadNumber_BadNumber => first | rfl | k_is)

