import PyProof.Rows.All
import Wide.All
import OpenK.AllK
import Wide.FinOn
import HandS.ForExc
import HandS.Comp
import HandS.Iter
import HandS.Style
import HandS.Flow
import HandS.TupAny
import HandS.TupMul
import HandS.TryMany
import HandS.Wide
import HandS.WideBits
import HandS.IsInst
import HandS.Deep
import KE.BitLaws
import HandS.List
import HandS.ExcInit
import HandS.ExcField
import HandS.TupSets
import PySem.Challenge.RW_chordkeep_k59_points_told_shortly
set_option Elab.async false
set_option linter.all false
set_option maxRecDepth 100000
set_option maxHeartbeats 4000000
/-! DD1: data without a heap (D), what it is to be laid at a value (Rep), the state of a body (SR), the judgements DE, DT, DA, DL, DS. -/
namespace DD
open PySem PySem.Spec PyProof.Rows L2

abbrev Kf := PySem.W.Frag

/-- data: tuples and lists that nothing changes any more stand as what they hold; tape: the tape of draws -/
inductive D where
  | non | bl (b : Bool) | int (i : Int) | str (s : Str) | tup (ds : List D) | lst (ds : List D) | scr (ns : List Int) | tape

/-- where the tape stands: its list, the list of its cells -/
structure Tp where
  t : Addr
  c : Addr

mutual
def Rep (K : Kf) (F : Hp) (τ : Option Tp) : D → V → Prop
  | .non, v => v = .non
  | .bl b, v => v = .bl b
  | .int i, v => v = .int i
  | .str s, v => v = .str s
  | .tup ds, v => ∃ a vs, v = .ref a ∧ SqT K F a vs ∧ Reps K F τ ds vs
  | .lst ds, v => ∃ a vs, v = .ref a ∧ F a = some (.lst vs) ∧ Reps K F τ ds vs
  | .scr ns, v => ∃ a, v = .ref a ∧ SqL K F a (ns.map V.int)
  | .tape, v => ∃ t, τ = some t ∧ v = .ref t.t
def Reps (K : Kf) (F : Hp) (τ : Option Tp) : List D → List V → Prop
  | [], vs => vs = []
  | d :: ds, vs => ∃ v r, vs = v :: r ∧ Rep K F τ d v ∧ Reps K F τ ds r
end

theorem rd_mono {F F' : Hp} {a : Addr} {u : HO} (e : Same F F') (h : Rd F a u) : Rd F' a u := by
  rcases h with h | ⟨o, h⟩
  · exact .inl (e _ _ h)
  · exact .inr ⟨o, e _ _ h⟩
theorem sqT_mono {K : Kf} {F F' : Hp} {a : Addr} {xs : List V} (e : Same F F') (h : SqT K F a xs) : SqT K F' a xs := by
  rcases h with h | h
  · exact .inl (rd_mono e h)
  · exact .inr h
theorem sqL_mono {K : Kf} {F F' : Hp} {a : Addr} {xs : List V} (e : Same F F') (h : SqL K F a xs) : SqL K F' a xs := e.seq h

section
variable {K : Kf} {F F' H H' : Hp} {τ τ' : Option Tp}
mutual
theorem Rep.mono (e : Same F F') (t : ∀ x, τ = some x → τ' = some x) : ∀ {d : D} {v : V}, Rep K F τ d v → Rep K F' τ' d v
  | .non, _, h => by unfold Rep at h ⊢; exact h
  | .bl _, _, h => by unfold Rep at h ⊢; exact h
  | .int _, _, h => by unfold Rep at h ⊢; exact h
  | .str _, _, h => by unfold Rep at h ⊢; exact h
  | .tup ds, _, h => by
    unfold Rep at h ⊢
    obtain ⟨a, vs, h1, h2, h3⟩ := h
    exact ⟨a, vs, h1, sqT_mono e h2, Reps.mono e t h3⟩
  | .lst ds, _, h => by
    unfold Rep at h ⊢
    obtain ⟨a, vs, h1, h2, h3⟩ := h
    exact ⟨a, vs, h1, e _ _ h2, Reps.mono e t h3⟩
  | .scr ds, _, h => by
    unfold Rep at h ⊢
    obtain ⟨a, h1, h2⟩ := h
    exact ⟨a, h1, sqL_mono e h2⟩
  | .tape, _, h => by
    unfold Rep at h ⊢
    obtain ⟨x, h1, h2⟩ := h
    exact ⟨x, t x h1, h2⟩
theorem Reps.mono (e : Same F F') (t : ∀ x, τ = some x → τ' = some x) : ∀ {ds : List D} {vs : List V}, Reps K F τ ds vs → Reps K F' τ' ds vs
  | [], _, h => by unfold Reps at h ⊢; exact h
  | d :: ds, _, h => by
    unfold Reps at h ⊢
    obtain ⟨v, r, h1, h2, h3⟩ := h
    exact ⟨v, r, h1, Rep.mono e t h2, Reps.mono e t h3⟩
end
theorem Reps.len : ∀ {ds : List D} {vs : List V}, Reps K F τ ds vs → vs.length = ds.length
  | [], _, h => by unfold Reps at h; rw [h]; rfl
  | d :: ds, _, h => by
    unfold Reps at h
    obtain ⟨v, r, h1, h2, h3⟩ := h
    rw [h1, List.length_cons, List.length_cons, Reps.len h3]
theorem Reps.at : ∀ {ds : List D} {vs : List V} {i : Nat} {d : D}, Reps K F τ ds vs → ds[i]? = some d → ∃ v, vs[i]? = some v ∧ Rep K F τ d v
  | [], _, _, _, _, e => by simp at e
  | x :: ds, _, 0, d, h, e => by
    unfold Reps at h
    obtain ⟨v, r, h1, h2, h3⟩ := h
    have : x = d := by simpa using e
    subst this; subst h1
    exact ⟨v, rfl, h2⟩
  | x :: ds, _, i + 1, d, h, e => by
    unfold Reps at h
    obtain ⟨v, r, h1, h2, h3⟩ := h
    subst h1
    obtain ⟨w, q1, q2⟩ := Reps.at (i := i) h3 (by simpa using e)
    exact ⟨w, by simpa using q1, q2⟩
theorem Reps.at' : ∀ {ds : List D} {vs : List V} {i : Nat} {v : V}, Reps K F τ ds vs → vs[i]? = some v → ∃ d, ds[i]? = some d ∧ Rep K F τ d v
  | [], _, _, _, h, e => by unfold Reps at h; subst h; simp at e
  | x :: ds, _, 0, d, h, e => by
    unfold Reps at h
    obtain ⟨v, r, h1, h2, h3⟩ := h
    subst h1
    have : v = d := by simpa using e
    subst this
    exact ⟨x, rfl, h2⟩
  | x :: ds, _, i + 1, d, h, e => by
    unfold Reps at h
    obtain ⟨v, r, h1, h2, h3⟩ := h
    subst h1
    obtain ⟨w, q1, q2⟩ := Reps.at' (i := i) h3 (by simpa using e)
    exact ⟨w, by simpa using q1, q2⟩
theorem Reps.append : ∀ {ds es : List D} {vs us : List V}, Reps K F τ ds vs → Reps K F τ es us → Reps K F τ (ds ++ es) (vs ++ us)
  | [], _, _, _, h, g => by unfold Reps at h; subst h; exact g
  | x :: ds, es, _, us, h, g => by
    unfold Reps at h
    obtain ⟨v, r, h1, h2, h3⟩ := h
    subst h1
    show Reps K F τ (x :: (ds ++ es)) (v :: (r ++ us))
    unfold Reps
    exact ⟨v, _, rfl, h2, Reps.append h3 g⟩
theorem Reps.nil : Reps K F τ [] [] := by unfold Reps; rfl
theorem Reps.cons {d : D} {v : V} {ds : List D} {vs : List V} (h : Rep K F τ d v) (g : Reps K F τ ds vs) : Reps K F τ (d :: ds) (v :: vs) := by
  unfold Reps; exact ⟨v, vs, rfl, h, g⟩
theorem Reps.one {d : D} {v : V} (h : Rep K F τ d v) : Reps K F τ [d] [v] := .cons h .nil
theorem Reps.take : ∀ {ds : List D} {vs : List V} (n : Nat), Reps K F τ ds vs → Reps K F τ (ds.take n) (vs.take n)
  | [], _, n, h => by unfold Reps at h; subst h; simp; exact .nil
  | x :: ds, _, 0, h => .nil
  | x :: ds, _, n + 1, h => by
    unfold Reps at h
    obtain ⟨v, r, h1, h2, h3⟩ := h
    subst h1
    exact .cons h2 (Reps.take n h3)
theorem Reps.drop : ∀ {ds : List D} {vs : List V} (n : Nat), Reps K F τ ds vs → Reps K F τ (ds.drop n) (vs.drop n)
  | [], _, n, h => by unfold Reps at h; subst h; simp; exact .nil
  | x :: ds, _, 0, h => h
  | x :: ds, _, n + 1, h => by
    unfold Reps at h
    obtain ⟨v, r, h1, h2, h3⟩ := h
    subst h1
    exact Reps.drop n h3
theorem Reps.set : ∀ {ds : List D} {vs : List V} (n : Nat) {d : D} {v : V}, Reps K F τ ds vs → Rep K F τ d v → Reps K F τ (ds.set n d) (vs.set n v)
  | [], _, n, _, _, h, g => by unfold Reps at h; subst h; simp; exact .nil
  | x :: ds, _, 0, _, _, h, g => by
    unfold Reps at h
    obtain ⟨v, r, h1, h2, h3⟩ := h
    subst h1
    exact .cons g h3
  | x :: ds, _, n + 1, _, _, h, g => by
    unfold Reps at h
    obtain ⟨v, r, h1, h2, h3⟩ := h
    subst h1
    exact .cons h2 (Reps.set n h3 g)
theorem Reps.reverse : ∀ {ds : List D} {vs : List V}, Reps K F τ ds vs → Reps K F τ ds.reverse vs.reverse
  | [], _, h => by unfold Reps at h; subst h; exact .nil
  | x :: ds, _, h => by
    unfold Reps at h
    obtain ⟨v, r, h1, h2, h3⟩ := h
    subst h1
    rw [List.reverse_cons, List.reverse_cons]
    exact (Reps.reverse h3).append (.one h2)
theorem Reps.ints : ∀ {ns : List Int}, Reps K F τ (ns.map D.int) (ns.map V.int)
  | [] => .nil
  | n :: r => .cons (by unfold Rep; rfl) Reps.ints
theorem Reps.of_ints : ∀ {ns : List Int} {vs : List V}, Reps K F τ (ns.map D.int) vs → vs = ns.map V.int
  | [], _, h => by unfold Reps at h; exact h
  | n :: r, _, h => by
    unfold Reps at h
    obtain ⟨v, s, h1, h2, h3⟩ := h
    unfold Rep at h2
    subst h1; subst h2
    rw [Reps.of_ints h3]; rfl
theorem Reps.of_bls : ∀ {ns : List Bool} {vs : List V}, Reps K F τ (ns.map D.bl) vs → vs = ns.map V.bl
  | [], _, h => by unfold Reps at h; exact h
  | n :: r, _, h => by
    unfold Reps at h
    obtain ⟨v, s, h1, h2, h3⟩ := h
    unfold Rep at h2
    subst h1; subst h2
    rw [Reps.of_bls h3]; rfl
end

/-! ### the tape -/
structure Tape where
  cells : List Int
  seed : Int
def TapeOk (τ : Option Tp) (T : Option Tape) (H : Hp) : Prop :=
  match τ, T with
  | none, none => True
  | some t, some x => t.t ≠ t.c ∧ H t.t = some (.lst [.ref t.c, .int x.seed]) ∧ H t.c = some (.lst (x.cells.map V.int))
  | _, _ => False
/-- an address that is not the tape's -/
def Off (τ : Option Tp) (a : Addr) : Prop := ∀ t, τ = some t → a ≠ t.t ∧ a ≠ t.c
theorem Off.none {a : Addr} : Off none a := fun _ h => by cases h
theorem TapeOk.same {τ : Option Tp} {T : Option Tape} {H H' : Hp} (h : TapeOk τ T H) (e : ∀ t, τ = some t → H' t.t = H t.t ∧ H' t.c = H t.c) : TapeOk τ T H' := by
  cases τ with
  | none =>
    cases T with
    | none => trivial
    | some x => exact h
  | some t =>
    cases T with
    | none => exact h
    | some x =>
      obtain ⟨h1, h2, h3⟩ := h
      obtain ⟨e1, e2⟩ := e t rfl
      exact ⟨h1, e1.trans h2, e2.trans h3⟩
theorem TapeOk.there {τ : Option Tp} {T : Option Tape} {H : Hp} (h : TapeOk τ T H) {t : Tp} (e : τ = some t) : (∃ o, H t.t = some o) ∧ ∃ o, H t.c = some o := by
  subst e
  cases T with
  | none => exact h.elim
  | some x => exact ⟨⟨_, h.2.1⟩, ⟨_, h.2.2⟩⟩
theorem ne_none {H : Hp} {a p : Addr} {o : HO} (h : H a = some o) (n : H p = none) : p ≠ a := fun z => by
  rw [z, h] at n
  cases n
/-- a new object is no tape's -/
theorem TapeOk.off {τ : Option Tp} {T : Option Tape} {H : Hp} (h : TapeOk τ T H) {p : Addr} (n : H p = none) : Off τ p := fun t e => by
  obtain ⟨⟨o, h1⟩, ⟨u, h2⟩⟩ := h.there e
  exact ⟨ne_none h1 n, ne_none h2 n⟩
theorem TapeOk.upd {τ : Option Tp} {T : Option Tape} {H : Hp} (h : TapeOk τ T H) {p : Addr} {o : HO} (n : Off τ p) : TapeOk τ T (upd H p o) :=
  h.same fun t e => ⟨upd_ne (Ne.symm (n t e).1), upd_ne (Ne.symm (n t e).2)⟩

/-! ### how the world goes on -/
structure Go (F H : Hp) (τ : Option Tp) (F' H' : Hp) (τ' : Option Tp) : Prop where
  ff : Same F F'
  fh : Same F' H'
  hh : ∀ a o, H a = some o → Off τ a → H' a = some o
  dom : ∀ a, H' a = none → H a = none
  nw : ∀ a o, F' a = some o → F a = some o ∨ H a = none
  tt : τ' = τ ∨ (τ = none ∧ ∃ t, τ' = some t ∧ H t.t = none ∧ H t.c = none ∧ F' t.t = none ∧ F' t.c = none ∧ H' t.t ≠ none ∧ H' t.c ≠ none)
theorem Go.tm {F H F' H' : Hp} {τ τ' : Option Tp} (g : Go F H τ F' H' τ') : ∀ x, τ = some x → τ' = some x := fun x e => by
  rcases g.tt with h | ⟨h, _⟩
  · rw [h]; exact e
  · rw [h] at e; cases e
theorem Go.refl {F H : Hp} {τ : Option Tp} (h : Same F H) : Go F H τ F H τ := ⟨fun _ _ h => h, h, fun _ _ h _ => h, fun _ h => h, fun _ _ h => .inl h, .inl rfl⟩
theorem Go.off {F H F' H' : Hp} {τ τ' : Option Tp} (g : Go F H τ F' H' τ') {a : Addr} {o : HO} (h : H a = some o) (n : Off τ a) : Off τ' a := fun t e => by
  rcases g.tt with q | ⟨_, t', q, n1, n2, _⟩
  · rw [q] at e; exact n t e
  · rw [q] at e
    cases e
    exact ⟨Ne.symm (ne_none h n1), Ne.symm (ne_none h n2)⟩
theorem Go.trans {F H F1 H1 F2 H2 : Hp} {τ τ1 τ2 : Option Tp} (a : Go F H τ F1 H1 τ1) (b : Go F1 H1 τ1 F2 H2 τ2) : Go F H τ F2 H2 τ2 where
  ff := fun x o h => b.ff _ _ (a.ff _ _ h)
  fh := b.fh
  hh := fun x o h n => b.hh _ _ (a.hh _ _ h n) (a.off h n)
  dom := fun x h => a.dom _ (b.dom _ h)
  nw := fun x o h => by
    rcases b.nw _ _ h with q | q
    · exact a.nw _ _ q
    · exact .inr (a.dom _ q)
  tt := by
    rcases a.tt with q | ⟨q0, t, q, n1, n2, n3, n4, n5, n6⟩
    · rcases b.tt with r | ⟨r0, t', r, m1, m2, m3⟩
      · exact .inl (r.trans q)
      · exact .inr ⟨q ▸ r0, t', r, a.dom _ m1, a.dom _ m2, m3⟩
    · rcases b.tt with r | ⟨r0, t', r, m1, m2, m3⟩
      · have no : ∀ x, F1 x = none → H1 x ≠ none → F2 x = none := fun x h1 h2 => by
          cases e : F2 x with
          | none => rfl
          | some o =>
            rcases b.nw _ _ e with z | z
            · rw [h1] at z; cases z
            · exact absurd z h2
        exact .inr ⟨q0, t, r.trans q, n1, n2, no _ n3 n5, no _ n4 n6, fun z => n5 (b.dom _ z), fun z => n6 (b.dom _ z)⟩
      · rw [q] at r0; cases r0
/-- a new object, known from now on -/
theorem Go.new {F H : Hp} {τ : Option Tp} (h : Same F H) {p : Addr} {o : HO} (n : H p = none) : Go F H τ (upd F p o) (upd H p o) τ := by
  have nf : F p = none := h.free n
  refine ⟨fun a u e => ?_, fun a u e => ?_, fun a u e _ => ?_, fun a e => ?_, fun a u e => ?_, .inl rfl⟩
  · rw [upd_ne (ne_of_none e nf)]; exact e
  · by_cases z : a = p
    · subst z; rw [upd_same] at e ⊢; exact e
    · rw [upd_ne z] at e ⊢; exact h _ _ e
  · rw [upd_ne (ne_of_none e n)]; exact e
  · by_cases z : a = p
    · subst z; exact n
    · rw [upd_ne z] at e; exact e
  · by_cases z : a = p
    · subst z; exact .inr n
    · rw [upd_ne z] at e; exact .inl e
/-- a new object that only the heap knows -/
theorem Go.newH {F H : Hp} {τ : Option Tp} (h : Same F H) {p : Addr} {o : HO} (n : H p = none) : Go F H τ F (upd H p o) τ := by
  have nf : F p = none := h.free n
  refine ⟨fun a u e => e, fun a u e => ?_, fun a u e _ => ?_, fun a e => ?_, fun a u e => .inl e, .inl rfl⟩
  · rw [upd_ne (ne_of_none e nf)]; exact h _ _ e
  · rw [upd_ne (ne_of_none e n)]; exact e
  · by_cases z : a = p
    · subst z; exact n
    · rw [upd_ne z] at e; exact e
def TapeF (τ : Option Tp) (F : Hp) : Prop := ∀ t, τ = some t → F t.t = none ∧ F t.c = none
theorem Go.tf {F H F' H' : Hp} {τ τ' : Option Tp} {T : Option Tape} (g : Go F H τ F' H' τ') (o : TapeOk τ T H) (f : TapeF τ F) : TapeF τ' F' := fun t e => by
  rcases g.tt with q | ⟨q0, t', q, n1, n2, n3, n4, n5, n6⟩
  · rw [q] at e
    obtain ⟨⟨o1, h1⟩, ⟨o2, h2⟩⟩ := o.there e
    obtain ⟨f1, f2⟩ := f t e
    have no : ∀ x u, F x = none → H x = some u → F' x = none := fun x u h1 h2 => by
      cases e : F' x with
      | none => rfl
      | some o =>
        rcases g.nw _ _ e with z | z
        · rw [h1] at z; cases z
        · rw [h2] at z; cases z
    exact ⟨no _ _ f1 h1, no _ _ f2 h2⟩
  · rw [q] at e
    cases e
    exact ⟨n3, n4⟩

/-! ### slots and the state of a body -/
/-- a slot: nothing, data, a list of the body's own that it may change -/
inductive Sl where
  | un | val (d : D) | own (ds : List D)
abbrev DEnv := List Sl
structure SR (K : Kf) (F0 H0 : Hp) (τ0 : Option Tp) (F H : Hp) (τ : Option Tp) (T : Option Tape) (δ : DEnv) (σ : L2.St) : Prop where
  go : Go F0 H0 τ0 F H τ
  tp : TapeOk τ T H
  tf : TapeF τ F
  len : σ.length = δ.length
  val : ∀ (i : Nat) (d : D), δ[i]? = some (.val d) → ∃ v, σ[i]? = some (some v) ∧ Rep K F τ d v
  own : ∀ (i : Nat) (ds : List D), δ[i]? = some (.own ds) → ∃ a vs, σ[i]? = some (some (.ref a)) ∧ H a = some (.lst vs) ∧ Reps K F τ ds vs ∧ F a = none ∧ H0 a = none ∧ Off τ a
  dis : ∀ (i j : Nat) (ds es : List D) (a : Addr), i ≠ j → δ[i]? = some (.own ds) → δ[j]? = some (.own es) → σ[i]? = some (some (.ref a)) → σ[j]? ≠ some (some (.ref a))
section
variable {K : Kf} {F0 H0 F H F' H' : Hp} {τ0 τ τ' : Option Tp} {T T' : Option Tape} {δ δ' : DEnv} {σ σ' : L2.St}
theorem Go.fnone (g : Go F H τ F' H' τ') {a : Addr} {o : HO} (f : F a = none) (h : H a = some o) : F' a = none := by
  cases e : F' a with
  | none => rfl
  | some u =>
    rcases g.nw _ _ e with z | z
    · rw [f] at z; cases z
    · rw [h] at z; cases z
theorem SR.step (s : SR K F0 H0 τ0 F H τ T δ σ) (g : Go F H τ F' H' τ') (t : TapeOk τ' T' H') : SR K F0 H0 τ0 F' H' τ' T' δ σ where
  go := s.go.trans g
  tp := t
  tf := g.tf s.tp s.tf
  len := s.len
  val := fun i d e => by
    obtain ⟨v, h1, h2⟩ := s.val i d e
    exact ⟨v, h1, h2.mono g.ff g.tm⟩
  own := fun i ds e => by
    obtain ⟨a, vs, h1, h2, h3, h4, h5, h6⟩ := s.own i ds e
    exact ⟨a, vs, h1, g.hh _ _ h2 h6, h3.mono g.ff g.tm, g.fnone h4 h2, h5, g.off h2 h6⟩
  dis := s.dis
theorem SR.lt (s : SR K F0 H0 τ0 F H τ T δ σ) {i : Nat} {x : Sl} (h : δ[i]? = some x) : i < σ.length := by
  rw [s.len]; exact (List.getElem?_eq_some_iff.mp h).1
/-- data is stored -/
theorem SR.set (s : SR K F0 H0 τ0 F H τ T δ σ) {i : Nat} {d : D} {v : V} (r : Rep K F τ d v) : SR K F0 H0 τ0 F H τ T (δ.set i (.val d)) (σ.set i (some v)) where
  go := s.go
  tp := s.tp
  tf := s.tf
  len := by rw [List.length_set, List.length_set]; exact s.len
  val := fun j e h => by
    by_cases z : i = j
    · subst z
      have l : i < δ.length := by
        have := (List.getElem?_eq_some_iff.mp h).1
        rwa [List.length_set] at this
      rw [List.getElem?_set_self l] at h
      cases h
      exact ⟨v, List.getElem?_set_self (by rw [s.len]; exact l), r⟩
    · rw [List.getElem?_set_ne z] at h ⊢
      exact s.val j e h
  own := fun j ds h => by
    by_cases z : i = j
    · subst z
      have l : i < δ.length := by
        have := (List.getElem?_eq_some_iff.mp h).1
        rwa [List.length_set] at this
      rw [List.getElem?_set_self l] at h
      cases h
    · rw [List.getElem?_set_ne z] at h ⊢
      exact s.own j ds h
  dis := fun j k ds es a n h1 h2 h3 => by
    have lj : i ≠ j := fun z => by
      subst z
      have l : i < δ.length := by
        have := (List.getElem?_eq_some_iff.mp h1).1
        rwa [List.length_set] at this
      rw [List.getElem?_set_self l] at h1
      cases h1
    have lk : i ≠ k := fun z => by
      subst z
      have l : i < δ.length := by
        have := (List.getElem?_eq_some_iff.mp h2).1
        rwa [List.length_set] at this
      rw [List.getElem?_set_self l] at h2
      cases h2
    rw [List.getElem?_set_ne lj] at h1 h3
    rw [List.getElem?_set_ne lk] at h2 ⊢
    exact s.dis j k ds es a n h1 h2 h3
/-- a new list of one's own is stored -/
theorem SR.setOwn (s : SR K F0 H0 τ0 F H τ T δ σ) {i : Nat} {ds : List D} {p : Addr} {vs : List V} (hp : H p = some (.lst vs)) (r : Reps K F τ ds vs) (f : F p = none) (h0 : H0 p = none) (o : Off τ p)
    (ne : ∀ (j : Nat) (es : List D), δ[j]? = some (.own es) → σ[j]? ≠ some (some (.ref p))) : SR K F0 H0 τ0 F H τ T (δ.set i (.own ds)) (σ.set i (some (.ref p))) where
  go := s.go
  tp := s.tp
  tf := s.tf
  len := by rw [List.length_set, List.length_set]; exact s.len
  val := fun j e h => by
    by_cases z : i = j
    · subst z
      have l : i < δ.length := by
        have := (List.getElem?_eq_some_iff.mp h).1
        rwa [List.length_set] at this
      rw [List.getElem?_set_self l] at h
      cases h
    · rw [List.getElem?_set_ne z] at h ⊢
      exact s.val j e h
  own := fun j es h => by
    by_cases z : i = j
    · subst z
      have l : i < δ.length := by
        have := (List.getElem?_eq_some_iff.mp h).1
        rwa [List.length_set] at this
      rw [List.getElem?_set_self l] at h
      cases h
      exact ⟨p, vs, List.getElem?_set_self (by rw [s.len]; exact l), hp, r, f, h0, o⟩
    · rw [List.getElem?_set_ne z] at h ⊢
      exact s.own j es h
  dis := fun j k es fs a n h1 h2 h3 => by
    by_cases zj : i = j
    · subst zj
      have l : i < σ.length := by
        have := (List.getElem?_eq_some_iff.mp h3).1
        rwa [List.length_set] at this
      rw [List.getElem?_set_self l] at h3
      cases h3
      rw [List.getElem?_set_ne n] at h2 ⊢
      exact ne k fs h2
    · rw [List.getElem?_set_ne zj] at h1 h3
      by_cases zk : i = k
      · subst zk
        have l : i < δ.length := by
          have := (List.getElem?_eq_some_iff.mp h2).1
          rwa [List.length_set] at this
        rw [List.getElem?_set_self (by rw [s.len]; exact l)]
        intro z
        cases z
        exact ne j es h1 h3
      · rw [List.getElem?_set_ne zk] at h2 ⊢
        exact s.dis j k es fs a n h1 h2 h3
/-- a list of one's own is changed -/
theorem SR.write (s : SR K F0 H0 τ0 F H τ T δ σ) {i : Nat} {ds es : List D} {p : Addr} {us : List V} (hi : δ[i]? = some (.own ds)) (hs : σ[i]? = some (some (.ref p))) (r : Reps K F τ es us) :
    SR K F0 H0 τ0 F (upd H p (.lst us)) τ T (δ.set i (.own es)) σ := by
  obtain ⟨a, vs, h1, h2, h3, h4, h5, h6⟩ := s.own i ds hi
  rw [hs] at h1; cases h1
  have li : i < δ.length := (List.getElem?_eq_some_iff.mp hi).1
  refine ⟨⟨s.go.ff, fun b u e => ?_, fun b u e n => ?_, fun b e => ?_, s.go.nw, ?_⟩, s.tp.upd h6, s.tf, by rw [List.length_set]; exact s.len, fun j e h => ?_, fun j fs h => ?_, fun j k fs gs b n k1 k2 k3 => ?_⟩
  · rw [upd_ne (ne_of_none e h4)]; exact s.go.fh _ _ e
  · rw [upd_ne (ne_of_none e h5)]; exact s.go.hh _ _ e n
  · by_cases z : b = p
    · subst z; rw [upd_same] at e; cases e
    · rw [upd_ne z] at e; exact s.go.dom _ e
  · rcases s.go.tt with q | ⟨q0, t, q, n1, n2, n3, n4, n5, n6⟩
    · exact .inl q
    · refine .inr ⟨q0, t, q, n1, n2, n3, n4, ?_, ?_⟩
      · rw [upd_ne (Ne.symm (h6 t q).1)]; exact n5
      · rw [upd_ne (Ne.symm (h6 t q).2)]; exact n6
  · by_cases z : i = j
    · subst z; rw [List.getElem?_set_self li] at h; cases h
    · rw [List.getElem?_set_ne z] at h
      exact s.val j e h
  · by_cases z : i = j
    · subst z
      rw [List.getElem?_set_self li] at h
      cases h
      exact ⟨p, us, hs, upd_same, r, h4, h5, h6⟩
    · rw [List.getElem?_set_ne z] at h
      obtain ⟨b, ws, k1, k2, k3, k4, k5, k6⟩ := s.own j fs h
      have nb : b ≠ p := fun zz => by
        subst zz
        exact s.dis i j ds fs b z hi h hs k1
      exact ⟨b, ws, k1, by rw [upd_ne nb]; exact k2, k3, k4, k5, k6⟩
  · have own' : ∀ {m : Nat} {xs : List D}, (δ.set i (.own es))[m]? = some (.own xs) → ∃ ys, δ[m]? = some (.own ys) := fun {m xs} h => by
      by_cases z : i = m
      · subst z; exact ⟨ds, hi⟩
      · rw [List.getElem?_set_ne z] at h; exact ⟨xs, h⟩
    obtain ⟨x1, g1⟩ := own' k1
    obtain ⟨x2, g2⟩ := own' k2
    exact s.dis j k x1 x2 b n g1 g2 k3
/-- a slot is forgotten -/
theorem SR.forget (s : SR K F0 H0 τ0 F H τ T δ σ) {i : Nat} : SR K F0 H0 τ0 F H τ T (δ.set i .un) (σ.set i none) := by
  have ne : ∀ {j : Nat} {x : Sl}, (δ.set i .un)[j]? = some x → x ≠ .un → i ≠ j := fun {j x} h n z => by
    subst z
    have l : i < δ.length := by
      have := (List.getElem?_eq_some_iff.mp h).1
      rwa [List.length_set] at this
    rw [List.getElem?_set_self l] at h
    cases h
    exact n rfl
  refine ⟨s.go, s.tp, s.tf, by rw [List.length_set, List.length_set]; exact s.len, fun j e h => ?_, fun j es h => ?_, fun j k es fs a n h1 h2 h3 => ?_⟩
  · have z := ne h (by intro z; cases z)
    rw [List.getElem?_set_ne z] at h ⊢
    exact s.val j e h
  · have z := ne h (by intro z; cases z)
    rw [List.getElem?_set_ne z] at h ⊢
    exact s.own j es h
  · have zj := ne h1 (by intro z; cases z)
    have zk := ne h2 (by intro z; cases z)
    rw [List.getElem?_set_ne zj] at h1 h3
    rw [List.getElem?_set_ne zk] at h2 ⊢
    exact s.dis j k es fs a n h1 h2 h3
/-- a list of one's own becomes data -/
theorem SR.freeze (s : SR K F0 H0 τ0 F H τ T δ σ) {i : Nat} {ds : List D} (hi : δ[i]? = some (.own ds)) :
    ∃ F', SR K F0 H0 τ0 F' H τ T (δ.set i (.val (.lst ds))) σ ∧ Same F F' := by
  obtain ⟨a, vs, h1, h2, h3, h4, h5, h6⟩ := s.own i ds hi
  have li : i < δ.length := (List.getElem?_eq_some_iff.mp hi).1
  have ff : Same F (upd F a (.lst vs)) := fun b u e => by rw [upd_ne (ne_of_none e h4)]; exact e
  refine ⟨upd F a (.lst vs), ⟨⟨fun b u e => ff _ _ (s.go.ff _ _ e), fun b u e => ?_, s.go.hh, s.go.dom, fun b u e => ?_, ?_⟩, s.tp, fun t e => ?_, by rw [List.length_set]; exact s.len, fun j e h => ?_, fun j fs h => ?_, fun j k fs gs b n k1 k2 k3 => ?_⟩, ff⟩
  · by_cases z : b = a
    · subst z; rw [upd_same] at e; rw [← e]; exact h2
    · rw [upd_ne z] at e; exact s.go.fh _ _ e
  · by_cases z : b = a
    · subst z; exact .inr h5
    · rw [upd_ne z] at e; exact s.go.nw _ _ e
  · rcases s.go.tt with q | ⟨q0, t, q, n1, n2, n3, n4, n5, n6⟩
    · exact .inl q
    · refine .inr ⟨q0, t, q, n1, n2, ?_, ?_, n5, n6⟩
      · rw [upd_ne (Ne.symm (h6 t q).1)]; exact n3
      · rw [upd_ne (Ne.symm (h6 t q).2)]; exact n4
  · obtain ⟨f1, f2⟩ := s.tf t e
    exact ⟨by rw [upd_ne (Ne.symm (h6 t e).1)]; exact f1, by rw [upd_ne (Ne.symm (h6 t e).2)]; exact f2⟩
  · by_cases z : i = j
    · subst z
      rw [List.getElem?_set_self li] at h
      cases h
      refine ⟨.ref a, h1, ?_⟩
      unfold Rep
      exact ⟨a, vs, rfl, upd_same, h3.mono ff fun _ e => e⟩
    · rw [List.getElem?_set_ne z] at h
      obtain ⟨v, k1, k2⟩ := s.val j e h
      exact ⟨v, k1, k2.mono ff fun _ e => e⟩
  · by_cases z : i = j
    · subst z; rw [List.getElem?_set_self li] at h; cases h
    · rw [List.getElem?_set_ne z] at h
      obtain ⟨b, ws, k1, k2, k3, k4, k5, k6⟩ := s.own j fs h
      have nb : b ≠ a := fun zz => by
        subst zz
        exact s.dis i j ds fs b z hi h h1 k1
      exact ⟨b, ws, k1, k2, k3.mono ff fun _ e => e, by rw [upd_ne nb]; exact k4, k5, k6⟩
  · have nn : ∀ {m : Nat} {xs : List D}, (δ.set i (.val (.lst ds)))[m]? = some (.own xs) → δ[m]? = some (.own xs) := fun {m xs} h => by
      by_cases z : i = m
      · subst z; rw [List.getElem?_set_self li] at h; cases h
      · rw [List.getElem?_set_ne z] at h; exact h
    exact s.dis j k fs gs b n (nn k1) (nn k2) k3
end
end DD

/-! DD2: outcomes, the judgements, expressions, statements, loops. -/
namespace DD
open PySem PySem.Spec PyProof.Rows L2

/-- an exception: its class by the module's name, its one attribute -/
structure Exn where
  cls : Str
  arg : Option (Str × D)
inductive Out (α : Type) where
  | ok (a : α) (T : Option Tape) | exc (e : Exn) (T : Option Tape) | stuck
abbrev Mo (α : Type) := Option Tape → Out α
def Out.bind {α β : Type} : Out α → (α → Mo β) → Out β
  | .ok a T, k => k a T
  | .exc e T, _ => .exc e T
  | .stuck, _ => .stuck
def lift {α : Type} : Option α → Mo α
  | some a, T => .ok a T
  | none, _ => .stuck
/-- bools of ints: by naturals, so that the kernel reckons them without unfolding great numbers -/
def ltI : Int → Int → Bool
  | .ofNat a, .ofNat b => Nat.blt a b
  | .negSucc _, .ofNat _ => true
  | .ofNat _, .negSucc _ => false
  | .negSucc a, .negSucc b => Nat.blt b a
theorem ltI_eq (i j : Int) : ltI i j = decide (i < j) := by
  cases i with
  | ofNat a => cases j with
    | ofNat b =>
      show Nat.blt a b = _
      by_cases h : a < b
      · rw [decide_eq_true (show Int.ofNat a < Int.ofNat b by simpa using h)]; simpa [Nat.blt_eq] using h
      · rw [decide_eq_false (show ¬ Int.ofNat a < Int.ofNat b by simpa using h)]
        cases e : Nat.blt a b with
        | false => rfl
        | true => exact absurd (Nat.blt_eq.mp e) h
    | negSucc b => exact (decide_eq_false (show ¬ Int.ofNat a < Int.negSucc b by have e : Int.ofNat a = (a : Int) := rfl; omega)).symm
  | negSucc a => cases j with
    | ofNat b => exact (decide_eq_true (show Int.negSucc a < Int.ofNat b by have e : Int.ofNat b = (b : Int) := rfl; omega)).symm
    | negSucc b =>
      show Nat.blt b a = _
      by_cases h : b < a
      · rw [decide_eq_true (show Int.negSucc a < Int.negSucc b by omega)]; simpa [Nat.blt_eq] using h
      · rw [decide_eq_false (show ¬ Int.negSucc a < Int.negSucc b by omega)]
        cases e : Nat.blt b a with
        | false => rfl
        | true => exact absurd (Nat.blt_eq.mp e) h
def leI (i j : Int) : Bool := !ltI j i
theorem leI_eq (i j : Int) : leI i j = decide (i ≤ j) := by
  unfold leI
  rw [ltI_eq]
  by_cases h : i ≤ j
  · rw [decide_eq_true h, decide_eq_false (by omega)]; rfl
  · rw [decide_eq_false h, decide_eq_true (by omega)]; rfl
def asB : D → Option Bool
  | .bl b => some b
  | _ => none
def asI : D → Option Int
  | .int b => some b
  | _ => none
theorem asB_eq : ∀ {d : D} {b : Bool}, asB d = some b → d = .bl b
  | .bl b, _, h => by cases h; rfl
  | .non, _, h => by cases h
  | .int _, _, h => by cases h
  | .str _, _, h => by cases h
  | .tup _, _, h => by cases h
  | .lst _, _, h => by cases h
  | .scr _, _, h => by cases h
  | .tape, _, h => by cases h
theorem asI_eq : ∀ {d : D} {b : Int}, asI d = some b → d = .int b
  | .int b, _, h => by cases h; rfl
  | .non, _, h => by cases h
  | .bl _, _, h => by cases h
  | .str _, _, h => by cases h
  | .tup _, _, h => by cases h
  | .lst _, _, h => by cases h
  | .scr _, _, h => by cases h
  | .tape, _, h => by cases h
def scD : D → Option V
  | .non => some .non
  | .bl b => some (.bl b)
  | .int i => some (.int i)
  | .str s => some (.str s)
  | _ => none
def ExR (mg : Str → Option Value) (e : Exn) (c : Value) (dd : Option Addr) (H : Hp) : Prop :=
  ∃ C, mg e.cls = some (.ref C) ∧ c = .ref C ∧ match e.arg with
    | none => dd = none
    | some (x, d) => ∃ a v, dd = some a ∧ scD d = some v ∧ H a = some (.xd [(x, v)])
theorem rep_sc {K : Kf} {F : Hp} {τ : Option Tp} : ∀ {d : D} {v : V}, scD d = some v → Rep K F τ d v
  | .non, v, h => by cases h; unfold Rep; rfl
  | .bl _, v, h => by cases h; unfold Rep; rfl
  | .int _, v, h => by cases h; unfold Rep; rfl
  | .str _, v, h => by cases h; unfold Rep; rfl
  | .tup _, v, h => by cases h
  | .lst _, v, h => by cases h
  | .scr _, v, h => by cases h
  | .tape, v, h => by cases h
theorem sc_rep {K : Kf} {F : Hp} {τ : Option Tp} : ∀ {d : D} {v u : V}, scD d = some v → Rep K F τ d u → u = v
  | .non, v, _, h, g => by cases h; unfold Rep at g; exact g
  | .bl _, v, _, h, g => by cases h; unfold Rep at g; exact g
  | .int _, v, _, h, g => by cases h; unfold Rep at g; exact g
  | .str _, v, _, h, g => by cases h; unfold Rep at g; exact g
  | .tup _, v, _, h, _ => by cases h
  | .lst _, v, _, h, _ => by cases h
  | .scr _, v, _, h, _ => by cases h
  | .tape, v, _, h, _ => by cases h

abbrev RelT (α β : Type) := Hp → Option Tp → α → β → Prop
section
variable {α β γ ε : Type}
/-- what is wanted behind an outcome; R: how the data is laid -/
def Pst (mg : Str → Option Value) (W : WX) (R : RelT α β) (σ : L2.St) (F H : Hp) (τ : Option Tp) (Q : β → Hp → Prop) : Out α → Prop
  | .ok a T' => ∀ b F' H' τ', Go F H τ F' H' τ' → TapeOk τ' T' H' → R F' τ' a b → Q b H'
  | .exc e T' => ∀ c dd F' H' τ', Go F H τ F' H' τ' → TapeOk τ' T' H' → ExR mg e c dd F' → W c dd σ H'
  | .stuck => False
theorem Pst.shift {mg : Str → Option Value} {W : WX} {R : RelT α β} {σ : L2.St} {F H F1 H1 : Hp} {τ τ1 : Option Tp} {Q : β → Hp → Prop} (g : Go F H τ F1 H1 τ1) : ∀ {o : Out α}, Pst mg W R σ F H τ Q o → Pst mg W R σ F1 H1 τ1 Q o
  | .ok a T, h => fun b F' H' τ' g' t r => h b F' H' τ' (g.trans g') t r
  | .exc e T, h => fun c dd F' H' τ' g' t r => h c dd F' H' τ' (g.trans g') t r
  | .stuck, h => h
/-- the reading of a denotation -/
def cG (K : Kf) (mg : Str → Option Value) (W : WX) (R : RelT α β) (f : DEnv → Mo α) : L2.St → Hp → (β → Hp → Prop) → Prop := fun σ H Q =>
  ∃ F0 H0 τ0 F τ T δ, SR K F0 H0 τ0 F H τ T δ σ ∧ Pst mg W R σ F H τ Q (f δ T)
abbrev RB : RelT Bool Bool := fun _ _ a b => b = a
/-- the bind: f first, then what is wanted of g -/
theorem cG_bind {K : Kf} {mg : Str → Option Value} {W : WX} {R1 : RelT α β} {R2 : RelT γ ε} {f : DEnv → Mo α} {g : α → Mo γ} {σ : L2.St} {F0 H0 F H : Hp} {τ0 τ : Option Tp} {T : Option Tape} {δ : DEnv} {Q : ε → Hp → Prop} {Q1 : β → Hp → Prop}
    (s : SR K F0 H0 τ0 F H τ T δ σ) (h : Pst mg W R2 σ F H τ Q ((f δ T).bind g))
    (k : ∀ a b F1 H1 τ1 T1, SR K F0 H0 τ0 F1 H1 τ1 T1 δ σ → Go F H τ F1 H1 τ1 → R1 F1 τ1 a b → Pst mg W R2 σ F1 H1 τ1 Q (g a T1) → Q1 b H1) : cG K mg W R1 f σ H Q1 := by
  refine ⟨F0, H0, τ0, F, τ, T, δ, s, ?_⟩
  cases e : f δ T with
  | ok a T1 =>
    rw [e] at h
    exact fun b F1 H1 τ1 go tp r => k a b F1 H1 τ1 T1 (s.step go tp) go r (Pst.shift go h)
  | exc x T1 =>
    rw [e] at h
    exact h
  | stuck =>
    rw [e] at h
    exact h
end

/-! ### statements' outcomes -/
inductive OS where
  | nx (δ : DEnv) (T : Option Tape) | ret (d : D) (T : Option Tape) | bk (δ : DEnv) (T : Option Tape) | ct (δ : DEnv) (T : Option Tape) | exc (e : Exn) (δ : DEnv) (T : Option Tape) | stuck
abbrev SD := DEnv → Option Tape → OS
def PstS (K : Kf) (mg : Str → Option Value) (W : WX) (F0 H0 : Hp) (τ0 : Option Tp) (D : Ends) : OS → Prop
  | .nx δ T => ∀ F H τ σ, SR K F0 H0 τ0 F H τ T δ σ → D.nx σ H
  | .bk δ T => ∀ F H τ σ, SR K F0 H0 τ0 F H τ T δ σ → D.bk σ H
  | .ct δ T => ∀ F H τ σ, SR K F0 H0 τ0 F H τ T δ σ → D.ct σ H
  | .ret d T => ∀ v F H τ, Go F0 H0 τ0 F H τ → TapeOk τ T H → TapeF τ F → Rep K F τ d v → D.rt v H
  | .exc e δ T => ∀ c dd F H τ σ, SR K F0 H0 τ0 F H τ T δ σ → ExR mg e c dd F → W c dd σ H
  | .stuck => False
def cS (K : Kf) (mg : Str → Option Value) (W : WX) (g : SD) : TS := fun D σ H => ∃ F0 H0 τ0 F τ T δ, SR K F0 H0 τ0 F H τ T δ σ ∧ PstS K mg W F0 H0 τ0 D (g δ T)
/-- an expression's outcome, then a statement's -/
def Out.st {α : Type} : Out α → DEnv → (α → Option Tape → OS) → OS
  | .ok a T, _, k => k a T
  | .exc e T, δ, _ => .exc e δ T
  | .stuck, _, _ => .stuck
theorem cG_st {α β : Type} {K : Kf} {mg : Str → Option Value} {W : WX} {R1 : RelT α β} {f : DEnv → Mo α} {g : α → Option Tape → OS} {σ : L2.St} {F0 H0 F H : Hp} {τ0 τ : Option Tp} {T : Option Tape} {δ : DEnv} {D : Ends} {Q1 : β → Hp → Prop}
    (s : SR K F0 H0 τ0 F H τ T δ σ) (h : PstS K mg W F0 H0 τ0 D ((f δ T).st δ g))
    (k : ∀ a b F1 H1 τ1 T1, SR K F0 H0 τ0 F1 H1 τ1 T1 δ σ → Go F H τ F1 H1 τ1 → R1 F1 τ1 a b → PstS K mg W F0 H0 τ0 D (g a T1) → Q1 b H1) : cG K mg W R1 f σ H Q1 := by
  refine ⟨F0, H0, τ0, F, τ, T, δ, s, ?_⟩
  cases e : f δ T with
  | ok a T1 =>
    rw [e] at h
    exact fun b F1 H1 τ1 go tp r => k a b F1 H1 τ1 T1 (s.step go tp) go r h
  | exc x T1 =>
    rw [e] at h
    exact fun c dd F' H' τ' go tp ex => h c dd F' H' τ' σ (s.step go tp) ex
  | stuck =>
    rw [e] at h
    exact h

/-! ### fresh lists -/
def PstL (K : Kf) (mg : Str → Option Value) (W : WX) (σ : L2.St) (F H : Hp) (τ : Option Tp) (Q : VK) : Out (List D) → Prop
  | .ok ds T' => ∀ p vs F' H' τ', Go F H τ F' H' τ' → TapeOk τ' T' H' → H' p = some (.lst vs) → Reps K F' τ' ds vs → F' p = none → H p = none → Off τ' p → Q (.ref p) H'
  | .exc e T' => ∀ c dd F' H' τ', Go F H τ F' H' τ' → TapeOk τ' T' H' → ExR mg e c dd F' → W c dd σ H'
  | .stuck => False
def cL (K : Kf) (mg : Str → Option Value) (W : WX) (f : DEnv → Mo (List D)) : TE := fun σ H Q => ∃ F0 H0 τ0 F τ T δ, SR K F0 H0 τ0 F H τ T δ σ ∧ PstL K mg W σ F H τ Q (f δ T)

/-! ### the judgements -/
abbrev DE (X : Cx) (W : WX) (e : Expr) (f : DEnv → Mo D) : Prop := PE X e (cG X.K X.mg W (Rep X.K) f)
abbrev DA (X : Cx) (W : WX) (es : List Expr) (f : DEnv → Mo (List D)) : Prop := PA X es (cG X.K X.mg W (Reps X.K) f)
abbrev DT (X : Cx) (W : WX) (e : Expr) (f : DEnv → Mo Bool) : Prop := PT X e (cG X.K X.mg W RB f)
abbrev DW (X : Cx) (W : WX) (e : Expr) (f : DEnv → Mo Bool) : Prop := PW X e (cG X.K X.mg W RB f)
abbrev DL (X : Cx) (W : WX) (e : Expr) (f : DEnv → Mo (List D)) : Prop := PE X e (cL X.K X.mg W f)
abbrev DS (X : Cx) (W : WX) (st : Stmt) (g : SD) : Prop := PS X st (cS X.K X.mg W g)
abbrev DSs (X : Cx) (W : WX) (st : List Stmt) (g : SD) : Prop := PSs X st (cS X.K X.mg W g)
theorem pe_imp {X : Cx} {e : Expr} {t t' : TE} (h : PE X e t) (k : ∀ σ H Q, t' σ H Q → t σ H Q) : PE X e t' := ⟨fun pins s σ H Q I q => h.run pins s σ H Q I (k σ H Q q)⟩
theorem pa_imp {X : Cx} {e : List Expr} {t t' : TA} (h : PA X e t) (k : ∀ σ H Q, t' σ H Q → t σ H Q) : PA X e t' := ⟨fun pos pins s σ H Q I q => h.run pos pins s σ H Q I (k σ H Q q)⟩
theorem pt_imp {X : Cx} {e : Expr} {t t' : TT} (h : PT X e t) (k : ∀ σ H Q, t' σ H Q → t σ H Q) : PT X e t' := ⟨fun pins s σ H Q I q => h.run pins s σ H Q I (k σ H Q q)⟩
theorem pw_imp {X : Cx} {e : Expr} {t t' : TT} (h : PW X e t) (k : ∀ σ H Q, t' σ H Q → t σ H Q) : PW X e t' := ⟨fun wh pins s σ H Q I q => h.run wh pins s σ H Q I (k σ H Q q)⟩
theorem ps_imp {X : Cx} {st : Stmt} {t t' : TS} (h : PS X st t) (k : ∀ D σ H, t' D σ H → t D σ H) : PS X st t' := ⟨fun pins s σ H D I q => h.run pins s σ H D I (k D σ H q)⟩
theorem pss_imp {X : Cx} {st : List Stmt} {t t' : TS} (h : PSs X st t) (k : ∀ D σ H, t' D σ H → t D σ H) : PSs X st t' := ⟨fun pins s σ H D I q => h.run pins s σ H D I (k D σ H q)⟩

section
variable {X : Cx} {W : WX} {a b c : Expr} {f g h : DEnv → Mo D} {pos : Pos}
/-! ### names, constants -/
def slotD (δ : DEnv) (i : Nat) : Option D := match δ[i]? with
  | some (.val d) => some d
  | _ => none
theorem slotD_eq {δ : DEnv} {i : Nat} {d : D} (h : slotD δ i = some d) : δ[i]? = some (.val d) := by
  unfold slotD at h
  split at h
  · rename_i e; cases h; exact e
  · cases h
def dV (i : Nat) : DEnv → Mo D := fun δ T => lift (slotD δ i) T
def dC (d : D) : DEnv → Mo D := fun _ T => .ok d T
theorem de_v (i : Nat) {x : Str} (hN : X.N[i]? = some x := by rfl) (hv : Vis X.env.scope x := by first | exact Or.inl rfl | exact Or.inr (Or.inl rfl) | exact Or.inr (Or.inr rfl)) (hd : (x == ("__debug__" : Str)) = false := by decide)
    (hcd : (x == ("__classdict__" : Str)) = false := by decide) : DE X W (.Name x pos) (dV i) := pe_imp (pe_var hN hv hd hcd) fun σ H Q q => by
  obtain ⟨F0, H0, τ0, F, τ, T, δ, s, p⟩ := q
  unfold dV at p
  cases es : slotD δ i with
  | some d =>
    rw [es] at p
    obtain ⟨v, h1, h2⟩ := s.val i d (slotD_eq es)
    exact ⟨v, h1, p v F H τ (.refl s.go.fh) s.tp h2⟩
  | none => rw [es] at p; exact p.elim
theorem de_c {d : D} {v : V} {e : Expr} (h : PE X e (tC v)) (e1 : scD d = some v) : DE X W e (dC d) := pe_imp h fun σ H Q q => by
  obtain ⟨F0, H0, τ0, F, τ, T, δ, s, p⟩ := q
  exact p v F H τ (.refl s.go.fh) s.tp (rep_sc e1)
theorem de_int {i j} : DE X W (.Constant (.int i) j pos) (dC (.int i)) := de_c pe_int rfl
theorem de_bl {i j} : DE X W (.Constant (.bool i) j pos) (dC (.bl i)) := de_c pe_bl rfl
theorem de_str {i j} : DE X W (.Constant (.str i) j pos) (dC (.str i)) := de_c pe_str rfl
theorem de_non {j} : DE X W (.Constant .none j pos) (dC .non) := de_c pe_non rfl
/-- a module's constant -/
theorem de_glob {x : Str} {d : D} {v : V} {u : Value} (hg : Gl X x) (hm : X.mg x = some u) (r : RelV v u) (hr : ∀ F τ, Rep X.K F τ d v) (hd : (x == ("__debug__" : Str)) = false := by decide) : DE X W (.Name x pos) (dC d) :=
  pe_imp (pe_glob hg hm r hd) fun σ H Q q => by
    obtain ⟨F0, H0, τ0, F, τ, T, δ, s, p⟩ := q
    exact p v F H τ (.refl s.go.fh) s.tp (hr F τ)

/-! ### two-place operations -/
def OpD (K : Kf) (r : R2) (o : D → D → Option D) : Prop := ∀ F H τ T x y v u z (Q : VK), Same F H → TapeOk τ T H → Rep K F τ x v → Rep K F τ y u → o x y = some z →
  (∀ w F' H', Go F H τ F' H' τ → TapeOk τ T H' → Rep K F' τ z w → Q w H') → r v u H Q
def dBin (o : D → D → Option D) (f g : DEnv → Mo D) : DEnv → Mo D := fun δ T => (f δ T).bind fun x T1 => (g δ T1).bind fun y T2 => lift (o x y) T2
theorem cbin {K : Kf} {mg : Str → Option Value} {r : R2} {o : D → D → Option D} (ho : OpD K r o) {σ : L2.St} {H : Hp} {Q : VK} (q : cG K mg W (Rep K) (dBin o f g) σ H Q) : tOp r (cG K mg W (Rep K) f) (cG K mg W (Rep K) g) σ H Q := by
  obtain ⟨F0, H0, τ0, F, τ, T, δ, s, p⟩ := q
  refine cG_bind s p fun x v F1 H1 τ1 T1 s1 g1 r1 p1 => ?_
  refine cG_bind s1 p1 fun y u F2 H2 τ2 T2 s2 g2 r2 p2 => ?_
  cases e : o x y with
  | none => rw [e] at p2; exact p2.elim
  | some z =>
    rw [e] at p2
    exact ho F2 H2 τ2 T2 x y v u z Q s2.go.fh s2.tp (r1.mono g2.ff g2.tm) r2 e fun w F' H' g' t' r' => p2 w F' H' τ2 g' t' r'
theorem de_bin {op : Operator} {r : R2} {o : D → D → Option D} (hp : OpR X (binaryOp op) r) (ho : OpD X.K r o) (ha : DE X W a f) (hb : DE X W b g) : DE X W (.BinOp a op b pos) (dBin o f g) :=
  pe_imp (pe_op hp ha hb) fun σ H Q q => cbin ho q
theorem de_cmp {op : CmpOp} {r : R2} {o : D → D → Option D} (hp : OpR X (compareOp op) r) (ho : OpD X.K r o) (ha : DE X W a f) (hb : DE X W b g) (hm : behindInMarks op b = false) : DE X W (.Compare a [op] [b] pos) (dBin o f g) :=
  pe_imp (pe_cmpR hp ha hb hm) fun σ H Q q => cbin ho q
theorem de_ix {r : R2} {o : D → D → Option D} (hp : IxR X r) (ho : OpD X.K r o) (ha : DE X W a f) (hb : DE X W b g) (hs : PlainIx b) : DE X W (.Subscript a b pos) (dBin o f g) :=
  pe_imp (pe_ix hp ha hb hs) fun σ H Q q => cbin ho q
theorem OpD.or {K : Kf} {r r' : R2} {o o' : D → D → Option D} (h : OpD K r o) (h' : OpD K r' o') : OpD K (fun x y H Q => r x y H Q ∨ r' x y H Q) (fun x y => (o x y).or (o' x y)) := fun F H τ T x y v u z Q fh tp r1 r2 e k => by
  have e : (o x y).or (o' x y) = some z := e
  cases e1 : o x y with
  | some w => rw [e1] at e; exact .inl (h F H τ T x y v u z Q fh tp r1 r2 (e1.trans e) k)
  | none => rw [e1] at e; exact .inr (h' F H τ T x y v u z Q fh tp r1 r2 e k)
/-- one place -/
def dUn (o : D → Option D) (f : DEnv → Mo D) : DEnv → Mo D := fun δ T => (f δ T).bind fun x T1 => lift (o x) T1
def UnD (K : Kf) (r : V → Hp → VK → Prop) (o : D → Option D) : Prop := ∀ F H τ T x v z (Q : VK), Same F H → TapeOk τ T H → Rep K F τ x v → o x = some z → (∀ w F' H', Go F H τ F' H' τ → TapeOk τ T H' → Rep K F' τ z w → Q w H') → r v H Q
theorem cun {K : Kf} {mg : Str → Option Value} {r : V → Hp → VK → Prop} {o : D → Option D} (ho : UnD K r o) {σ : L2.St} {H : Hp} {Q : VK} (q : cG K mg W (Rep K) (dUn o f) σ H Q) : (cG K mg W (Rep K) f) σ H (fun x H1 => r x H1 Q) := by
  obtain ⟨F0, H0, τ0, F, τ, T, δ, s, p⟩ := q
  refine cG_bind s p fun x v F1 H1 τ1 T1 s1 g1 r1 p1 => ?_
  cases e : o x with
  | none => rw [e] at p1; exact p1.elim
  | some z =>
    rw [e] at p1
    exact ho F1 H1 τ1 T1 x v z Q s1.go.fh s1.tp r1 e fun w F' H' g' t' r' => p1 w F' H' τ1 g' t' r'
theorem de_un {op : UnaryOp} {r : V → Hp → VK → Prop} {o : D → Option D} (hp : UnR X (unaryOp op) r) (ho : UnD X.K r o) (ha : DE X W a f) : DE X W (.UnaryOp op a pos) (dUn o f) := pe_imp (pe_un hp ha) fun σ H Q q => cun ho q

/-! ### ints -/
def oI (C : Int → Int → Bool) (p : Int → Int → D) : D → D → Option D
  | .int i, .int j => if C i j = true then some (p i j) else none
  | _, _ => none
theorem opd_I {K : Kf} {C : Int → Int → Bool} {C' : Int → Int → Prop} {p : Int → Int → D} {q : Int → Int → V} (hc : ∀ i j, C i j = true → C' i j) (hq : ∀ i j, scD (p i j) = some (q i j)) : OpD K (rI C' q) (oI C p) := by
  intro F H τ T x y v u z Q fh tp r1 r2 e k
  unfold oI at e
  split at e
  · rename_i i j
    split at e
    · rename_i hcc
      cases e
      unfold Rep at r1 r2
      exact ⟨i, j, r1, r2, hc _ _ hcc, k _ F H (.refl fh) tp (rep_sc (hq i j))⟩
    · cases e
  · cases e
def oI0 (p : Int → Int → D) : D → D → Option D
  | .int i, .int j => some (p i j)
  | _, _ => none
theorem opd_I0 {K : Kf} {p : Int → Int → D} {q : Int → Int → V} (hq : ∀ i j, scD (p i j) = some (q i j)) : OpD K (rI0 q) (oI0 p) := by
  intro F H τ T x y v u z Q fh tp r1 r2 e k
  unfold oI0 at e
  split at e
  · rename_i i j
    cases e
    unfold Rep at r1 r2
    exact ⟨i, j, r1, r2, k _ F H (.refl fh) tp (rep_sc (hq i j))⟩
  · cases e

/-! ### tests -/
def dTv (f : DEnv → Mo D) : DEnv → Mo Bool := fun δ T => (f δ T).bind fun x T1 => lift (asB x) T1
theorem cTv {K : Kf} {mg : Str → Option Value} {σ : L2.St} {H : Hp} {Q : Bool → Hp → Prop} (q : cG K mg W RB (dTv f) σ H Q) : tTest (cG K mg W (Rep K) f) σ H Q := by
  obtain ⟨F0, H0, τ0, F, τ, T, δ, s, p⟩ := q
  refine cG_bind s p fun x v F1 H1 τ1 T1 s1 g1 r1 p1 => ?_
  cases eb : asB x with
  | some b =>
    rw [eb] at p1
    rw [asB_eq eb] at r1
    unfold Rep at r1
    exact ⟨b, r1, p1 b F1 H1 τ1 (.refl s1.go.fh) s1.tp rfl⟩
  | none => rw [eb] at p1; exact p1.elim
theorem dt_cmp {op : CmpOp} {r : R2} {o : D → D → Option D} (hp : OpR X (compareOp op) r) (ho : OpD X.K r o) (ha : DE X W a f) (hb : DE X W b g) (hm : behindInMarks op b = false) : DT X W (.Compare a [op] [b] pos) (dTv (dBin o f g)) :=
  pt_imp (pt_cmpR hp ha hb hm) fun σ H Q q => by
    obtain ⟨F0, H0, τ0, F, τ, T, δ, s, p⟩ := q
    refine cbin (mg := X.mg) (W := W) ho ⟨F0, H0, τ0, F, τ, T, δ, s, ?_⟩
    obtain ⟨F0', H0', τ0', F', τ', T', δ', s', p'⟩ := cTv (K := X.K) (mg := X.mg) (W := W) (f := dBin o f g) ⟨F0, H0, τ0, F, τ, T, δ, s, p⟩
    unfold dTv at p
    cases e : dBin o f g δ T with
    | ok x T1 =>
      rw [e] at p
      have p : Pst X.mg W RB σ F H τ Q (lift (asB x) T1) := p
      intro v F1 H1 τ1 g1 t1 r1
      cases eb : asB x with
      | some k =>
        rw [eb] at p
        rw [asB_eq eb] at r1
        unfold Rep at r1
        exact ⟨k, r1, p k F1 H1 τ1 g1 t1 rfl⟩
      | none => rw [eb] at p; exact p.elim
    | exc x T1 => rw [e] at p; exact p
    | stuck => rw [e] at p; exact p
theorem dt_val {e : Expr} (h : DE X W e f) (he : ∀ whole, isTrue e X.env whole = (do let v ← whole; standAt e.pos; holding [v] (truthy v)) := by intro _; rfl) : DT X W e (dTv f) :=
  pt_imp (pt_val h he) fun σ H Q q => cTv q
def dAnd (t u : DEnv → Mo Bool) : DEnv → Mo Bool := fun δ T => (t δ T).bind fun b T1 => if b = true then u δ T1 else .ok false T1
def dOr (t u : DEnv → Mo Bool) : DEnv → Mo Bool := fun δ T => (t δ T).bind fun b T1 => if b = true then .ok true T1 else u δ T1
def dNot (t : DEnv → Mo Bool) : DEnv → Mo Bool := fun δ T => (t δ T).bind fun b T1 => .ok (!b) T1
variable {t u : DEnv → Mo Bool} {rest : List Expr}
theorem dt_w (h : DW X W a t) : DT X W a t := h.pt
theorem dw_and1 (ha : DT X W a t) : DW X W (.BoolOp .And [a] pos) t := pw_and1 ha
theorem dw_or1 (ha : DT X W a t) : DW X W (.BoolOp .Or [a] pos) t := pw_or1 ha
theorem dw_and (ha : DT X W a t) (hb : DW X W (.BoolOp .And (b :: rest) pos) u) : DW X W (.BoolOp .And (a :: b :: rest) pos) (dAnd t u) := pw_imp (pw_and ha hb) fun σ H Q q => by
  obtain ⟨F0, H0, τ0, F, τ, T, δ, s, p⟩ := q
  refine cG_bind s p fun x v F1 H1 τ1 T1 s1 g1 r1 p1 => ?_
  cases r1
  cases x with
  | true =>
    show cG X.K X.mg W RB u σ H1 Q
    exact ⟨F0, H0, τ0, F1, τ1, T1, δ, s1, p1⟩
  | false => exact p1 false F1 H1 τ1 (.refl s1.go.fh) s1.tp rfl
theorem dw_or (ha : DT X W a t) (hb : DW X W (.BoolOp .Or (b :: rest) pos) u) : DW X W (.BoolOp .Or (a :: b :: rest) pos) (dOr t u) := pw_imp (pw_or ha hb) fun σ H Q q => by
  obtain ⟨F0, H0, τ0, F, τ, T, δ, s, p⟩ := q
  refine cG_bind s p fun x v F1 H1 τ1 T1 s1 g1 r1 p1 => ?_
  cases r1
  cases x with
  | false =>
    show cG X.K X.mg W RB u σ H1 Q
    exact ⟨F0, H0, τ0, F1, τ1, T1, δ, s1, p1⟩
  | true => exact p1 true F1 H1 τ1 (.refl s1.go.fh) s1.tp rfl
theorem dt_not (ha : DT X W a t) : DT X W (.UnaryOp .Not a pos) (dNot t) := pt_imp (pt_not ha) fun σ H Q q => by
  obtain ⟨F0, H0, τ0, F, τ, T, δ, s, p⟩ := q
  refine cG_bind s p fun x v F1 H1 τ1 T1 s1 g1 r1 p1 => ?_
  cases r1
  exact p1 _ F1 H1 τ1 (.refl s1.go.fh) s1.tp rfl
/-! .. as values -/
def dAndV (f g : DEnv → Mo D) : DEnv → Mo D := fun δ T => (f δ T).bind fun x T1 => (lift (asB x) T1).bind fun b T2 => if b = true then g δ T2 else .ok (.bl false) T2
def dOrV (f g : DEnv → Mo D) : DEnv → Mo D := fun δ T => (f δ T).bind fun x T1 => (lift (asB x) T1).bind fun b T2 => if b = true then .ok (.bl true) T2 else g δ T2
def oNotB : D → Option D := fun x => (asB x).map fun b => .bl (!b)
def dNotV (f : DEnv → Mo D) : DEnv → Mo D := dUn oNotB f
theorem de_one {op} (h : DE X W a f) : DE X W (.BoolOp op [a] pos) f := pe_one h
theorem de_and (ha : DE X W a f) (hb : DE X W (.BoolOp .And (b :: rest) pos) g) : DE X W (.BoolOp .And (a :: b :: rest) pos) (dAndV f g) := pe_imp (pe_and ha hb) fun σ H Q q => by
  obtain ⟨F0, H0, τ0, F, τ, T, δ, s, p⟩ := q
  refine cG_bind s p fun x v F1 H1 τ1 T1 s1 g1 r1 p1 => ?_
  cases eb : asB x with
  | none => rw [eb] at p1; exact p1.elim
  | some b =>
    rw [eb] at p1
    have p1 : Pst X.mg W (Rep X.K) σ F1 H1 τ1 Q (if b = true then g δ T1 else .ok (.bl false) T1) := p1
    rw [asB_eq eb] at r1
    have r2 := r1
    unfold Rep at r2
    refine ⟨b, r2, ?_⟩
    cases b with
    | true =>
      show cG X.K X.mg W (Rep X.K) g σ H1 Q
      exact ⟨F0, H0, τ0, F1, τ1, T1, δ, s1, p1⟩
    | false =>
      show Q (.bl false) H1
      exact p1 _ F1 H1 τ1 (.refl s1.go.fh) s1.tp (by rw [r2] at r1; exact r1)
theorem de_or (ha : DE X W a f) (hb : DE X W (.BoolOp .Or (b :: rest) pos) g) : DE X W (.BoolOp .Or (a :: b :: rest) pos) (dOrV f g) := pe_imp (pe_or ha hb) fun σ H Q q => by
  obtain ⟨F0, H0, τ0, F, τ, T, δ, s, p⟩ := q
  refine cG_bind s p fun x v F1 H1 τ1 T1 s1 g1 r1 p1 => ?_
  cases eb : asB x with
  | none => rw [eb] at p1; exact p1.elim
  | some b =>
    rw [eb] at p1
    have p1 : Pst X.mg W (Rep X.K) σ F1 H1 τ1 Q (if b = true then .ok (.bl true) T1 else g δ T1) := p1
    rw [asB_eq eb] at r1
    have r2 := r1
    unfold Rep at r2
    refine ⟨b, r2, ?_⟩
    cases b with
    | false =>
      show cG X.K X.mg W (Rep X.K) g σ H1 Q
      exact ⟨F0, H0, τ0, F1, τ1, T1, δ, s1, p1⟩
    | true =>
      show Q (.bl true) H1
      exact p1 _ F1 H1 τ1 (.refl s1.go.fh) s1.tp (by rw [r2] at r1; exact r1)
theorem de_not (ha : DE X W a f) : DE X W (.UnaryOp .Not a pos) (dNotV f) := pe_imp (pe_not ha) fun σ H Q q => by
  refine cun (r := fun x H1 Q => ∃ c, x = .bl c ∧ Q (.bl (!c)) H1) (fun F H τ T x v z Q fh tp r1 e k => ?_) q
  unfold oNotB at e
  cases eb : asB x with
  | none => rw [eb] at e; cases e
  | some b =>
    rw [eb] at e
    cases e
    rw [asB_eq eb] at r1
    unfold Rep at r1
    exact ⟨_, r1, k _ F H (.refl fh) tp (by unfold Rep; rfl)⟩
/-- a if t else b -/
def dIf (t : DEnv → Mo Bool) (f g : DEnv → Mo D) : DEnv → Mo D := fun δ T => (t δ T).bind fun b T1 => if b = true then f δ T1 else g δ T1
theorem de_if {e : Expr} (ht : DT X W e t) (ha : DE X W a f) (hb : DE X W b g) : DE X W (.IfExp e a b pos) (dIf t f g) := pe_imp (pe_ifExp ht ha hb) fun σ H Q q => by
  obtain ⟨F0, H0, τ0, F, τ, T, δ, s, p⟩ := q
  refine cG_bind s p fun x v F1 H1 τ1 T1 s1 g1 r1 p1 => ?_
  cases r1
  cases x with
  | true =>
    show cG X.K X.mg W (Rep X.K) f σ H1 Q
    exact ⟨F0, H0, τ0, F1, τ1, T1, δ, s1, p1⟩
  | false =>
    show cG X.K X.mg W (Rep X.K) g σ H1 Q
    exact ⟨F0, H0, τ0, F1, τ1, T1, δ, s1, p1⟩

/-! ### argument lists, displays -/
variable {fa : DEnv → Mo (List D)} {es : List Expr}
def aN : DEnv → Mo (List D) := fun _ T => .ok [] T
def aC (f : DEnv → Mo D) (r : DEnv → Mo (List D)) : DEnv → Mo (List D) := fun δ T => (f δ T).bind fun x T1 => (r δ T1).bind fun xs T2 => .ok (x :: xs) T2
theorem da_nil : DA X W [] aN := pa_imp pa_nil fun σ H Q q => by
  obtain ⟨F0, H0, τ0, F, τ, T, δ, s, p⟩ := q
  exact p [] F H τ (.refl s.go.fh) s.tp .nil
theorem da_cons (ha : DE X W a f) (hr : DA X W es fa) (hs : starEach (a :: es) X.env = (false, eval a X.env) :: starEach es X.env := by rfl) : DA X W (a :: es) (aC f fa) := pa_imp (pa_cons ha hr hs) fun σ H Q q => by
  obtain ⟨F0, H0, τ0, F, τ, T, δ, s, p⟩ := q
  refine cG_bind s p fun x v F1 H1 τ1 T1 s1 g1 r1 p1 => ?_
  refine cG_bind s1 p1 fun xs vs F2 H2 τ2 T2 s2 g2 r2 p2 => ?_
  exact p2 (v :: vs) F2 H2 τ2 (.refl s2.go.fh) s2.tp (.cons (r1.mono g2.ff g2.tm) r2)
def line : Nat := 16000000
theorem line_lt {n : Nat} (h : n < line) : n < sizeLine := Nat.lt_of_lt_of_le h (by rw [sizeLine_eq]; decide)
def dTup (r : DEnv → Mo (List D)) : DEnv → Mo D := fun δ T => (r δ T).bind fun xs T1 => if xs.length < line then .ok (.tup xs) T1 else .stuck
theorem de_tup {x1} (h : DA X W es fa) : DE X W (.Tuple es x1 pos) (dTup fa) := pe_imp (pe_tup h) fun σ H Q q => by
  obtain ⟨F0, H0, τ0, F, τ, T, δ, s, p⟩ := q
  refine cG_bind s p fun xs vs F1 H1 τ1 T1 s1 g1 r1 p1 => ?_
  split at p1
  · rename_i hl
    refine ⟨Nat.le_of_lt (by rw [r1.len]; exact line_lt hl), fun q hq => ?_⟩
    have g2 := Go.new (τ := τ1) (o := .tup vs) s1.go.fh hq
    refine p1 _ _ _ τ1 g2 (s1.tp.upd (s1.tp.off hq)) ?_
    unfold Rep
    exact ⟨q, vs, rfl, .inl (.inl upd_same), r1.mono g2.ff fun _ e => e⟩
  · exact p1.elim
def lLst (r : DEnv → Mo (List D)) : DEnv → Mo (List D) := fun δ T => (r δ T).bind fun xs T1 => if xs.length < line then .ok xs T1 else .stuck
theorem cG_bindL {α β : Type} {K : Kf} {mg : Str → Option Value} {R1 : RelT α β} {f : DEnv → Mo α} {g : α → Mo (List D)} {σ : L2.St} {F0 H0 F H : Hp} {τ0 τ : Option Tp} {T : Option Tape} {δ : DEnv} {Q : VK} {Q1 : β → Hp → Prop}
    (s : SR K F0 H0 τ0 F H τ T δ σ) (h : PstL K mg W σ F H τ Q ((f δ T).bind g))
    (k : ∀ a b F1 H1 τ1 T1, SR K F0 H0 τ0 F1 H1 τ1 T1 δ σ → Go F H τ F1 H1 τ1 → R1 F1 τ1 a b → PstL K mg W σ F1 H1 τ1 Q (g a T1) → Q1 b H1) : cG K mg W R1 f σ H Q1 := by
  refine ⟨F0, H0, τ0, F, τ, T, δ, s, ?_⟩
  cases e : f δ T with
  | ok a T1 =>
    rw [e] at h
    refine fun b F1 H1 τ1 go tp r => k a b F1 H1 τ1 T1 (s.step go tp) go r ?_
    have h' : PstL K mg W σ F H τ Q (g a T1) := h
    revert h'
    cases g a T1 with
    | ok ds T2 => exact fun h' p vs F' H' τ' g' t' a1 a2 a3 a4 a5 => h' p vs F' H' τ' (go.trans g') t' a1 a2 a3 (go.dom _ a4) a5
    | exc e T2 => exact fun h' c dd F' H' τ' g' t' a1 => h' c dd F' H' τ' (go.trans g') t' a1
    | stuck => exact fun h' => h'
  | exc x T1 =>
    rw [e] at h
    exact h
  | stuck =>
    rw [e] at h
    exact h
theorem dl_lst (h : DA X W es fa) : DL X W (.List es pos) (lLst fa) := pe_imp (pe_lst h) fun σ H Q q => by
  obtain ⟨F0, H0, τ0, F, τ, T, δ, s, p⟩ := q
  refine cG_bindL s p fun xs vs F1 H1 τ1 T1 s1 g1 r1 p1 => ?_
  split at p1
  · rename_i hl
    refine ⟨Nat.le_of_lt (by rw [r1.len]; exact line_lt hl), fun q hq => ?_⟩
    exact p1 q vs F1 _ τ1 (Go.newH s1.go.fh hq) (s1.tp.upd (s1.tp.off hq)) upd_same r1 (s1.go.fh.free hq) hq (s1.tp.off hq)
  · exact p1.elim
/-- a fresh list as data -/
def dL (f : DEnv → Mo (List D)) : DEnv → Mo D := fun δ T => (f δ T).bind fun xs T1 => .ok (.lst xs) T1
theorem de_L (h : DL X W a fa) : DE X W a (dL fa) := pe_imp h fun σ H Q q => by
  obtain ⟨F0, H0, τ0, F, τ, T, δ, s, p⟩ := q
  refine ⟨F0, H0, τ0, F, τ, T, δ, s, ?_⟩
  unfold dL at p
  cases e : fa δ T with
  | ok xs T1 =>
    rw [e] at p
    intro q vs F' H' τ' g t h1 h2 h3 h4 h5
    have ff : Same F' (upd F' q (.lst vs)) := fun b u e => by rw [upd_ne (ne_of_none e h3)]; exact e
    refine p (.ref q) (upd F' q (.lst vs)) H' τ' ⟨fun b u e => ff _ _ (g.ff _ _ e), fun b u e => ?_, g.hh, g.dom, fun b u e => ?_, ?_⟩ t ?_
    · by_cases z : b = q
      · subst z; rw [upd_same] at e; rw [← e]; exact h1
      · rw [upd_ne z] at e; exact g.fh _ _ e
    · by_cases z : b = q
      · subst z; exact .inr h4
      · rw [upd_ne z] at e; exact g.nw _ _ e
    · rcases g.tt with z | ⟨z0, tt, z, n1, n2, n3, n4, n5⟩
      · exact .inl z
      · exact .inr ⟨z0, tt, z, n1, n2, by rw [upd_ne (Ne.symm (h5 tt z).1)]; exact n3, by rw [upd_ne (Ne.symm (h5 tt z).2)]; exact n4, n5⟩
    · unfold Rep
      exact ⟨q, vs, rfl, upd_same, h2.mono ff fun _ e => e⟩
  | exc x T1 => rw [e] at p; exact p
  | stuck => rw [e] at p; exact p
end
end DD

/-! DD3: statements, loops, targets, what is walked, comprehensions. -/
namespace DD
open PySem PySem.Spec PyProof.Rows L2
section
variable {X : Cx} {W : WX} {a b c : Expr} {f g h : DEnv → Mo D} {pos : Pos} {st : Stmt} {sts : List Stmt} {g1 g2 : SD}
/-! ### blocks -/
def OS.seq : OS → SD → OS
  | .nx δ T, k => k δ T
  | .ret d T, _ => .ret d T
  | .bk δ T, _ => .bk δ T
  | .ct δ T, _ => .ct δ T
  | .exc e δ T, _ => .exc e δ T
  | .stuck, _ => .stuck
/-- the end of a loop's turn: k is the rest of the loop -/
def OS.turn : OS → SD → OS
  | .nx δ T, k => k δ T
  | .ct δ T, k => k δ T
  | .bk δ T, _ => .nx δ T
  | .ret d T, _ => .ret d T
  | .exc e δ T, _ => .exc e δ T
  | .stuck, _ => .stuck
def sSeq (g1 g2 : SD) : SD := fun δ T => (g1 δ T).seq g2
def sNext : SD := fun δ T => .nx δ T
theorem pst_seq {K : Kf} {mg : Str → Option Value} {F0 H0 : Hp} {τ0 : Option Tp} {D : Ends} {δ : DEnv} {T : Option Tape} (h : PstS K mg W F0 H0 τ0 D (sSeq g1 g2 δ T)) : PstS K mg W F0 H0 τ0 { D with nx := cS K mg W g2 D } (g1 δ T) := by
  unfold sSeq at h
  cases e : g1 δ T with
  | nx δ' T' =>
    rw [e] at h
    exact fun F H τ σ s => ⟨F0, H0, τ0, F, τ, T', δ', s, h⟩
  | ret d T' => rw [e] at h; exact h
  | bk δ' T' => rw [e] at h; exact h
  | ct δ' T' => rw [e] at h; exact h
  | exc x δ' T' => rw [e] at h; exact h
  | stuck => rw [e] at h; exact h
theorem dss_nil : DSs X W [] sNext := pss_imp pss_nil fun D σ H q => by
  obtain ⟨F0, H0, τ0, F, τ, T, δ, s, p⟩ := q
  exact p F H τ σ s
theorem dss_cons (h1 : DS X W st g1) (h2 : DSs X W sts g2) : DSs X W (st :: sts) (sSeq g1 g2) := pss_imp (pss_cons h1 h2) fun D σ H q => by
  obtain ⟨F0, H0, τ0, F, τ, T, δ, s, p⟩ := q
  exact ⟨F0, H0, τ0, F, τ, T, δ, s, pst_seq p⟩
theorem dss_one (h1 : DS X W st g1) : DSs X W [st] g1 := pss_one h1
def sBreak : SD := fun δ T => .bk δ T
def sCont : SD := fun δ T => .ct δ T
theorem ds_pass : DS X W (.Pass pos) sNext := ps_imp ps_pass fun D σ H q => by
  obtain ⟨F0, H0, τ0, F, τ, T, δ, s, p⟩ := q
  exact p F H τ σ s
theorem ds_break : DS X W (.Break pos) sBreak := ps_imp ps_break fun D σ H q => by
  obtain ⟨F0, H0, τ0, F, τ, T, δ, s, p⟩ := q
  exact p F H τ σ s
theorem ds_continue : DS X W (.Continue pos) sCont := ps_imp ps_continue fun D σ H q => by
  obtain ⟨F0, H0, τ0, F, τ, T, δ, s, p⟩ := q
  exact p F H τ σ s
def sDrop (f : DEnv → Mo D) : SD := fun δ T => (f δ T).st δ fun _ T1 => .nx δ T1
theorem ds_expr (he : DE X W a f) (hs : swapsWith a none pos.line X.env = pure false := by rfl) : DS X W (.Expr a pos) (sDrop f) := ps_imp (ps_expr he hs) fun D σ H q => by
  obtain ⟨F0, H0, τ0, F, τ, T, δ, s, p⟩ := q
  exact cG_st s p fun x v F1 H1 τ1 T1 s1 g1 r1 p1 => p1 F1 H1 τ1 σ s1
def sRet (f : DEnv → Mo D) : SD := fun δ T => (f δ T).st δ fun d T1 => .ret d T1
theorem ds_ret (he : DE X W a f) : DS X W (.Return (some a) pos) (sRet f) := ps_imp (ps_ret he) fun D σ H q => by
  obtain ⟨F0, H0, τ0, F, τ, T, δ, s, p⟩ := q
  exact cG_st s p fun x v F1 H1 τ1 T1 s1 g1 r1 p1 => p1 v F1 H1 τ1 s1.go s1.tp s1.tf r1
def sRetN : SD := fun δ T => .ret .non T
theorem ds_retN : DS X W (.Return none pos) sRetN := ps_imp ps_retN fun D σ H q => by
  obtain ⟨F0, H0, τ0, F, τ, T, δ, s, p⟩ := q
  exact p .non F H τ s.go s.tp s.tf (by unfold Rep; rfl)
def sIf (t : DEnv → Mo Bool) (g1 g2 : SD) : SD := fun δ T => (t δ T).st δ fun b T1 => if b = true then g1 δ T1 else g2 δ T1
theorem ds_if {t : DEnv → Mo Bool} {ps qs : List Stmt} (hc : DT X W c t) (ha : DSs X W ps g1) (hb : DSs X W qs g2) : DS X W (.If c ps qs pos) (sIf t g1 g2) := ps_imp (ps_if hc ha hb) fun D σ H q => by
  obtain ⟨F0, H0, τ0, F, τ, T, δ, s, p⟩ := q
  refine cG_st s p fun x v F1 H1 τ1 T1 s1 go r1 p1 => ?_
  cases r1
  cases x with
  | true => exact ⟨F0, H0, τ0, F1, τ1, T1, δ, s1, p1⟩
  | false => exact ⟨F0, H0, τ0, F1, τ1, T1, δ, s1, p1⟩

/-! ### name = value -/
def sSet (i : Nat) (f : DEnv → Mo D) : SD := fun δ T => (f δ T).st δ fun d T1 => .nx (δ.set i (.val d)) T1
theorem ds_set (i : Nat) {x : Str} {pos' : Pos} (hN : X.N.Nodup) (he : DE X W a f) (hi : X.N[i]? = some x := by rfl) (hx : Loc X.env.scope x := by first | exact Or.inl rfl | exact Or.inr rfl) (hs : swapsWith a (some (.Name x pos')) pos.line X.env = pure false := by rfl)
    (hf : X.fn x = true ∨ X.env.scope.names.lookup x = some .local := by first | exact .inl rfl | exact .inr rfl | assumption) : DS X W (.Assign [.Name x pos'] a pos) (sSet i f) := ps_imp (ps_set hN hi hx he hs hf) fun D σ H q => by
  obtain ⟨F0, H0, τ0, F, τ, T, δ, s, p⟩ := q
  exact cG_st s p fun x v F1 H1 τ1 T1 s1 go r1 p1 => p1 F1 H1 τ1 _ (s1.set r1)
/-- a fresh list of one's own -/
def sSetL (i : Nat) (f : DEnv → Mo (List D)) : SD := fun δ T => (f δ T).st δ fun ds T1 => .nx (δ.set i (.own ds)) T1
theorem cL_set {K : Kf} {mg : Str → Option Value} {i : Nat} {fl : DEnv → Mo (List D)} {D : Ends} {σ : L2.St} {H : Hp} (q : cS K mg W (sSetL i fl) D σ H) : tAsg (cL K mg W fl) (gName i) D σ H := by
  obtain ⟨F0, H0, τ0, F, τ, T, δ, s, p⟩ := q
  refine ⟨F0, H0, τ0, F, τ, T, δ, s, ?_⟩
  unfold sSetL at p
  cases e : fl δ T with
  | ok ds T1 =>
    rw [e] at p
    intro q vs F' H' τ' go tp h1 h2 h3 h4 h5
    refine p F' H' τ' _ ((s.step go tp).setOwn h1 h2 h3 ?_ h5 fun j es ej z => ?_)
    · exact s.go.dom _ h4
    · obtain ⟨a, us, k1, k2, _⟩ := s.own j es ej
      rw [k1] at z
      cases z
      rw [h4] at k2; cases k2
  | exc x T1 =>
    rw [e] at p
    exact fun c dd F' H' τ' go tp ex => p c dd F' H' τ' σ (s.step go tp) ex
  | stuck =>
    rw [e] at p
    exact p
theorem ds_setL (i : Nat) {fl : DEnv → Mo (List D)} {x : Str} {pos' : Pos} (hN : X.N.Nodup) (he : DL X W a fl) (hi : X.N[i]? = some x := by rfl) (hx : Loc X.env.scope x := by first | exact Or.inl rfl | exact Or.inr rfl) (hs : swapsWith a (some (.Name x pos')) pos.line X.env = pure false := by rfl)
    (hf : X.fn x = true ∨ X.env.scope.names.lookup x = some .local := by first | exact .inl rfl | exact .inr rfl | assumption) : DS X W (.Assign [.Name x pos'] a pos) (sSetL i fl) := ps_imp (ps_set hN hi hx he hs hf) fun D σ H q => cL_set q
/-- return a list of one's own -/
def sRetOwn (i : Nat) : SD := fun δ T => match δ[i]? with
  | some (.own ds) => .ret (.lst ds) T
  | some (.val d) => .ret d T
  | _ => .stuck
theorem ds_retOwn (i : Nat) {x : Str} {p2 : Pos} (hN : X.N[i]? = some x := by rfl) (hv : Vis X.env.scope x := by first | exact Or.inl rfl | exact Or.inr (Or.inl rfl) | exact Or.inr (Or.inr rfl)) (hd : (x == ("__debug__" : Str)) = false := by decide)
    (hcd : (x == ("__classdict__" : Str)) = false := by decide) : DS X W (.Return (some (.Name x p2)) pos) (sRetOwn i) := ps_imp (ps_ret (pe_var hN hv hd hcd)) fun D σ H q => by
  obtain ⟨F0, H0, τ0, F, τ, T, δ, s, p⟩ := q
  unfold sRetOwn at p
  split at p
  · rename_i ds e
    obtain ⟨F', s', _⟩ := s.freeze e
    have li : i < δ.length := (List.getElem?_eq_some_iff.mp e).1
    obtain ⟨v, h1, h2⟩ := s'.val i _ (List.getElem?_set_self li)
    exact ⟨v, h1, p v F' H τ s'.go s'.tp s'.tf h2⟩
  · rename_i d e
    obtain ⟨v, h1, h2⟩ := s.val i d e
    exact ⟨v, h1, p v F H τ s.go s.tp s.tf h2⟩
  · exact p.elim
/-- from here on the list in slot i is data -/
def frz (i : Nat) (δ : DEnv) : DEnv := match δ[i]? with
  | some (.own ds) => δ.set i (.val (.lst ds))
  | _ => δ
def sFrz (i : Nat) (g : SD) : SD := fun δ T => g (frz i δ) T
theorem ds_frz (i : Nat) (h : DS X W st g1) : DS X W st (sFrz i g1) := ps_imp h fun D σ H q => by
  obtain ⟨F0, H0, τ0, F, τ, T, δ, s, p⟩ := q
  unfold sFrz frz at p
  split at p
  · rename_i ds e
    obtain ⟨F', s', _⟩ := s.freeze e
    exact ⟨F0, H0, τ0, F', τ, T, _, s', p⟩
  · exact ⟨F0, H0, τ0, F, τ, T, δ, s, p⟩
theorem dss_frz (i : Nat) (h : DSs X W sts g1) : DSs X W sts (sFrz i g1) := pss_imp h fun D σ H q => by
  obtain ⟨F0, H0, τ0, F, τ, T, δ, s, p⟩ := q
  unfold sFrz frz at p
  split at p
  · rename_i ds e
    obtain ⟨F', s', _⟩ := s.freeze e
    exact ⟨F0, H0, τ0, F', τ, T, _, s', p⟩
  · exact ⟨F0, H0, τ0, F, τ, T, δ, s, p⟩

/-! ### targets -/
abbrev TgD := D → DEnv → Option DEnv
abbrev TgsD := List D → DEnv → Option DEnv
def cT (K : Kf) (t : TgD) (vs : List Nat) : TG := fun v σ H Q => ∃ F0 H0 τ0 F τ T δ d δ', SR K F0 H0 τ0 F H τ T δ σ ∧ Rep K F τ d v ∧ t d δ = some δ' ∧
  ∀ σ', SR K F0 H0 τ0 F H τ T δ' σ' → σ'.length = σ.length → (∀ j, j ∉ vs → σ'[j]? = σ[j]?) → Q σ' H
def cTs (K : Kf) (t : TgsD) (vs : List Nat) : TGs := fun us σ H Q => ∃ F0 H0 τ0 F τ T δ ds δ', SR K F0 H0 τ0 F H τ T δ σ ∧ Reps K F τ ds us ∧ t ds δ = some δ' ∧
  ∀ σ', SR K F0 H0 τ0 F H τ T δ' σ' → σ'.length = σ.length → (∀ j, j ∉ vs → σ'[j]? = σ[j]?) → Q σ' H
abbrev DG (X : Cx) (tg : Expr) (t : TgD) (vs : List Nat) : Prop := PG X tg (cT X.K t vs)
abbrev DGs (X : Cx) (tg : List Expr) (t : TgsD) (vs : List Nat) : Prop := PGs X tg (cTs X.K t vs)
theorem pg_imp {tg : Expr} {t t' : TG} (h : PG X tg t) (k : ∀ v σ H Q, t' v σ H Q → t v σ H Q) : PG X tg t' := ⟨fun pins s σ H v u Q I r q => h.run pins s σ H v u Q I r (k v σ H Q q)⟩
theorem pgs_imp {tg : List Expr} {t t' : TGs} (h : PGs X tg t) (k : ∀ v σ H Q, t' v σ H Q → t v σ H Q) : PGs X tg t' := ⟨fun pins s σ H v u Q I r q => h.run pins s σ H v u Q I r (k v σ H Q q)⟩
def tgN (i : Nat) : TgD := fun d δ => some (δ.set i (.val d))
theorem dg_name (i : Nat) {x : Str} (hN : X.N.Nodup) (hi : X.N[i]? = some x := by rfl) (hx : Loc X.env.scope x := by first | exact Or.inl rfl | exact Or.inr rfl) (hf : X.fn x = true ∨ X.env.scope.names.lookup x = some .local := by first | exact .inl rfl | exact .inr rfl | assumption) :
    DG X (.Name x pos) (tgN i) [i] := pg_imp (pg_name hN hi hx hf) fun v σ H Q q => by
  obtain ⟨F0, H0, τ0, F, τ, T, δ, d, δ', s, r, e, k⟩ := q
  cases e
  refine k _ (s.set r) (List.length_set) fun j hj => ?_
  rw [List.getElem?_set_ne]
  intro z
  exact hj (by rw [z]; exact List.mem_singleton_self _)
def tgNil : TgsD := fun ds δ => match ds with
  | [] => some δ
  | _ => none
def tgCons (t : TgD) (u : TgsD) : TgsD := fun ds δ => match ds with
  | d :: r => (t d δ).bind fun δ' => u r δ'
  | [] => none
theorem dgs_nil : DGs X [] tgNil [] := pgs_imp pgs_nil fun v σ H Q q => by
  obtain ⟨F0, H0, τ0, F, τ, T, δ, ds, δ', s, r, e, k⟩ := q
  unfold tgNil at e
  split at e
  · cases e
    unfold Reps at r
    exact ⟨r, k σ s rfl fun _ _ => rfl⟩
  · cases e
theorem dgs_cons {e : Expr} {es : List Expr} {t : TgD} {u : TgsD} {vs ws : List Nat} (h1 : DG X e t vs) (h2 : DGs X es u ws) (hs : (assignEach (e :: es) X.env).map (·.2) = assign e X.env :: (assignEach es X.env).map (·.2) := by rfl) :
    DGs X (e :: es) (tgCons t u) (vs ++ ws) := pgs_imp (pgs_cons h1 h2 hs) fun v σ H Q q => by
  obtain ⟨F0, H0, τ0, F, τ, T, δ, ds, δ', s, r, e, k⟩ := q
  unfold tgCons at e
  split at e
  · rename_i d dr
    unfold Reps at r
    obtain ⟨x, xs, e1, r1, r2⟩ := r
    cases e2 : t d δ with
    | none => rw [e2] at e; cases e
    | some δ1 =>
      rw [e2] at e
      refine ⟨x, xs, e1, F0, H0, τ0, F, τ, T, δ, d, δ1, s, r1, e2, fun σ1 s1 l1 k1 => ?_⟩
      refine ⟨F0, H0, τ0, F, τ, T, δ1, dr, δ', s1, r2, e, fun σ2 s2 l2 k2 => k σ2 s2 (l2.trans l1) fun j hj => ?_⟩
      rw [k2 j fun z => hj (List.mem_append_right _ z), k1 j fun z => hj (List.mem_append_left _ z)]
  · cases e
def tgT (n : Nat) (t : TgsD) : TgD := fun d δ => match d with
  | .tup ds => if ds.length = n then t ds δ else none
  | _ => none
theorem dg_tup {es : List Expr} {k : Nat} {t : TgsD} {n : Nat} {vs : List Nat} (hc : X.calm = true) (h : DGs X es t vs) (hn : (assignEach es X.env).length = n := by rfl) (hst : (assignEach es X.env).findIdx? (·.1) = none := by rfl) :
    DG X (.Tuple es k pos) (tgT n t) vs := pg_imp (pg_tup hc h hn hst) fun v σ H Q q => by
  obtain ⟨F0, H0, τ0, F, τ, T, δ, d, δ', s, r, e, k⟩ := q
  unfold tgT at e
  split at e
  · rename_i ds
    split at e
    · rename_i hl
      unfold Rep at r
      obtain ⟨a, us, e1, r1, r2⟩ := r
      exact ⟨a, us, e1, sqT_mono s.go.fh r1, r2.len.trans hl, F0, H0, τ0, F, τ, T, δ, ds, δ', s, r2, e, k⟩
    · cases e
  · cases e
/-- target = value -/
def sAsg (t : TgD) (f : DEnv → Mo D) : SD := fun δ T => (f δ T).st δ fun d T1 => (t d δ).elim .stuck fun δ' => .nx δ' T1
theorem ds_asg {tg : Expr} {t : TgD} {vs : List Nat} (he : DE X W a f) (hg : DG X tg t vs) (hs : swapsWithSole [tg] a pos.line X.env = pure false := by rfl) (hw : swappedStores [tg] a X.env = pure none := by rfl)
    (h1 : (assignEach [tg] X.env).map (·.2) = [assign tg X.env] := by rfl) : DS X W (.Assign [tg] a pos) (sAsg t f) := ps_imp (ps_asg he hg hs hw h1) fun D σ H q => by
  obtain ⟨F0, H0, τ0, F, τ, T, δ, s, p⟩ := q
  refine cG_st s p fun x v F1 H1 τ1 T1 s1 go r1 p1 => ?_
  cases e : t x δ with
  | some δ' =>
    rw [e] at p1
    exact ⟨F0, H0, τ0, F1, τ1, T1, δ, x, δ', s1, r1, e, fun σ' s' _ _ => p1 F1 H1 τ1 σ' s'⟩
  | none => rw [e] at p1; exact p1.elim
/-- a, b = x, y -/
def sPar (i j : Nat) (f g : DEnv → Mo D) : SD := fun δ T => (f δ T).st δ fun d T1 => (g δ T1).st δ fun e T2 => .nx ((δ.set i (.val d)).set j (.val e)) T2
theorem cA2 {mg : Str → Option Value} {K : Kf} {f g : DEnv → Mo D} {En : Ends} {σ : L2.St} {F0 H0 F H : Hp} {τ0 τ : Option Tp} {T : Option Tape} {δ : DEnv} {k : D → D → Option Tape → OS} {R : L2.St → Hp → V → V → Prop} (s : SR K F0 H0 τ0 F H τ T δ σ)
    (p : PstS K mg W F0 H0 τ0 En ((f δ T).st δ fun d T1 => (g δ T1).st δ fun e T2 => k d e T2))
    (q : ∀ d e v u F1 H1 τ1 T1, SR K F0 H0 τ0 F1 H1 τ1 T1 δ σ → Rep K F1 τ1 d v → Rep K F1 τ1 e u → PstS K mg W F0 H0 τ0 En (k d e T1) → R σ H1 v u) :
    tCons (cG K mg W (Rep K) f) (tCons (cG K mg W (Rep K) g) tNil) σ H fun vs H1 => ∃ v u, vs = [v, u] ∧ R σ H1 v u := by
  refine cG_st s p fun x v F1 H1 τ1 T1 s1 g1 r1 p1 => ?_
  refine cG_st s1 p1 fun y u F2 H2 τ2 T2 s2 g2 r2 p2 => ?_
  exact ⟨v, u, rfl, q x y v u F2 H2 τ2 T2 s2 (r1.mono g2.ff g2.tm) r2 p2⟩
theorem ds_par (i j : Nat) {x y : Str} {px py pt : Pos} {kt k2 pt2} (hc : X.calm = true) (hN : X.N.Nodup) (ha : DE X W a f) (hb : DE X W b g) (hi : X.N[i]? = some x := by rfl) (hj : X.N[j]? = some y := by rfl) (hij : i ≠ j := by decide)
    (hx : X.env.scope.names.lookup x = some .local := by rfl) (hy : X.env.scope.names.lookup y = some .local := by rfl) (hs1 : starEach [a, b] X.env = (false, eval a X.env) :: starEach [b] X.env := by rfl) (hs2 : starEach [b] X.env = (false, eval b X.env) :: starEach [] X.env := by rfl)
    (hw : swappedStores [.Tuple [.Name x px, .Name y py] kt pt] (.Tuple [a, b] k2 pt2) X.env = pure (some [x, y]) := by rfl)
    (hs : swapsWithSole [.Tuple [.Name x px, .Name y py] kt pt] (.Tuple [a, b] k2 pt2) pos.line X.env = pure false := by rfl) :
    DS X W (.Assign [.Tuple [.Name x px, .Name y py] kt pt] (.Tuple [a, b] k2 pt2) pos) (sPar i j f g) := ps_imp (ps_par hc hN hi hj hij hx hy (pa_cons ha (pa_cons hb pa_nil hs2) hs1) hw hs) fun D σ H q => by
  obtain ⟨F0, H0, τ0, F, τ, T, δ, s, p⟩ := q
  exact cA2 (R := fun σ H1 v u => D.nx ((σ.set i (some v)).set j (some u)) H1) s p fun d e v u F1 H1 τ1 T1 s1 r1 r2 p1 => p1 F1 H1 τ1 _ ((s1.set r1).set r2)
def sPar3 (i j l : Nat) (f g h : DEnv → Mo D) : SD := fun δ T => (f δ T).st δ fun d T1 => (g δ T1).st δ fun e T2 => (h δ T2).st δ fun m T3 => .nx (((δ.set i (.val d)).set j (.val e)).set l (.val m)) T3
theorem ds_par3 (i j l : Nat) {x y z : Str} {px py pz pt : Pos} {kt k2 pt2} (hc : X.calm = true) (hN : X.N.Nodup) (ha : DE X W a f) (hb : DE X W b g) (hcc : DE X W c h) (hi : X.N[i]? = some x := by rfl) (hj : X.N[j]? = some y := by rfl) (hl : X.N[l]? = some z := by rfl) (hij : i ≠ j := by decide) (hil : i ≠ l := by decide) (hjl : j ≠ l := by decide)
    (hx : X.env.scope.names.lookup x = some .local := by rfl) (hy : X.env.scope.names.lookup y = some .local := by rfl) (hz : X.env.scope.names.lookup z = some .local := by rfl)
    (hs1 : starEach [a, b, c] X.env = (false, eval a X.env) :: starEach [b, c] X.env := by rfl) (hs2 : starEach [b, c] X.env = (false, eval b X.env) :: starEach [c] X.env := by rfl) (hs3 : starEach [c] X.env = (false, eval c X.env) :: starEach [] X.env := by rfl)
    (hw : swappedStores [.Tuple [.Name x px, .Name y py, .Name z pz] kt pt] (.Tuple [a, b, c] k2 pt2) X.env = pure (some [x, y, z]) := by rfl)
    (hs : swapsWithSole [.Tuple [.Name x px, .Name y py, .Name z pz] kt pt] (.Tuple [a, b, c] k2 pt2) pos.line X.env = pure false := by rfl) :
    DS X W (.Assign [.Tuple [.Name x px, .Name y py, .Name z pz] kt pt] (.Tuple [a, b, c] k2 pt2) pos) (sPar3 i j l f g h) := ps_imp (ps_par3 hc hN hi hj hl hij hil hjl hx hy hz (pa_cons ha (pa_cons hb (pa_cons hcc pa_nil hs3) hs2) hs1) hw hs) fun D σ H q => by
  obtain ⟨F0, H0, τ0, F, τ, T, δ, s, p⟩ := q
  refine cG_st s p fun x v F1 H1 τ1 T1 s1 g1 r1 p1 => ?_
  refine cG_st s1 p1 fun y u F2 H2 τ2 T2 s2 g2 r2 p2 => ?_
  refine cG_st s2 p2 fun z w F3 H3 τ3 T3 s3 g3 r3 p3 => ?_
  exact ⟨v, u, w, rfl, p3 F3 H3 τ3 _ (((s3.set ((r1.mono g2.ff g2.tm).mono g3.ff g3.tm)).set (r2.mono g3.ff g3.tm)).set r3)⟩
/-- name op= e -/
def sAug (i : Nat) (o : D → D → Option D) (f : DEnv → Mo D) : SD := fun δ T => (slotD δ i).elim .stuck fun x => (f δ T).st δ fun y T1 => (o x y).elim .stuck fun z => .nx (δ.set i (.val z)) T1
theorem ds_aug (i : Nat) {x : Str} {op : Operator} {r : R2} {o : D → D → Option D} {pos' : Pos} (hN : X.N.Nodup) (hp : OpR X (inplaceOp op) r) (ho : OpD X.K r o) (he : DE X W a f) (hi : X.N[i]? = some x := by rfl) (hx : Loc X.env.scope x := by first | exact Or.inl rfl | exact Or.inr rfl)
    (hf : X.fn x = true ∨ X.env.scope.names.lookup x = some .local := by first | exact .inl rfl | exact .inr rfl | assumption) : DS X W (.AugAssign (.Name x pos') op a pos) (sAug i o f) :=
  ps_imp (ps_aug (ti := r) hN hi hx he (fun pins s σ H x y v u Q I rx ry h => hp pins s σ H x y v u Q I rx ry h) hf) fun D σ H q => by
    obtain ⟨F0, H0, τ0, F, τ, T, δ, s, p⟩ := q
    unfold sAug at p
    cases es : slotD δ i with
    | none => rw [es] at p; exact p.elim
    | some d =>
      rw [es] at p
      obtain ⟨v, h1, h2⟩ := s.val i d (slotD_eq es)
      refine ⟨v, h1, ?_⟩
      refine cG_st s p fun y u F1 H1 τ1 T1 s1 go r1 p1 => ?_
      cases ez : o d y with
      | none => rw [ez] at p1; exact p1.elim
      | some z =>
        rw [ez] at p1
        refine ho F1 H1 τ1 T1 d y v u z _ s1.go.fh s1.tp (h2.mono go.ff go.tm) r1 ez fun w F' H' g' t' r' => ?_
        exact p1 F' H' τ1 _ ((s1.step g' t').set r')

/-! ### while -/
def turnW (c : DEnv → Mo Bool) (b : SD) (k : SD) : SD := fun δ T => (c δ T).st δ fun t T1 => if t = true then (b δ T1).turn k else .nx δ T1
def iterW (c : DEnv → Mo Bool) (b : SD) (n : Nat) : SD := Nat.rec (motive := fun _ => SD) (fun _ _ => .stuck) (fun _ k => turnW c b k) n
/-- more turns than any loop here takes -/
def fuel : Nat := 1267650600228229401496703205376
theorem iterW_succ (c : DEnv → Mo Bool) (b : SD) (n : Nat) : iterW c b (n + 1) = turnW c b (iterW c b n) := rfl
def sWhile (c : DEnv → Mo Bool) (b : SD) : SD := iterW c b fuel
theorem ds_while {t : DEnv → Mo Bool} {body : List Stmt} (hp : PassesOwn (model X.prog X.w) X.A X.env X.xe) (hc : DT X W c t) (hb : DSs X W body g1) : DS X W (.While c body [] pos) (sWhile t g1) := ps_imp (ps_while hp hc hb) fun D σ H q => by
  obtain ⟨F0, H0, τ0, F, τ, T, δ, s, p⟩ := q
  refine ⟨fun m σ H => ∃ F τ T δ, SR X.K F0 H0 τ0 F H τ T δ σ ∧ PstS X.K X.mg W F0 H0 τ0 D (iterW t g1 m δ T), ⟨fuel, F, τ, T, δ, s, p⟩, ?_⟩
  rintro m σ H ⟨F, τ, T, δ, s, p⟩
  cases m with
  | zero => exact p.elim
  | succ m =>
    have p' : PstS X.K X.mg W F0 H0 τ0 D (turnW t g1 (iterW t g1 m) δ T) := p
    refine cG_st s p' fun x v F1 H1 τ1 T1 s1 go r1 p1 => ?_
    cases r1
    cases x with
    | false =>
      show D.nx σ H1
      exact p1 F1 H1 τ1 σ s1
    | true =>
      refine (if_pos rfl : _ = _).mpr ?_
      refine ⟨fun σ' H' => ∃ F τ T δ, SR X.K F0 H0 τ0 F H' τ T δ σ' ∧ PstS X.K X.mg W F0 H0 τ0 D (iterW t g1 m δ T), fun σ' H' q => ⟨m, Nat.lt_succ_self m, q⟩, F0, H0, τ0, F1, τ1, T1, δ, s1, ?_⟩
      rw [if_pos rfl] at p1
      cases e : g1 δ T1 with
      | nx δ' T2 => rw [e] at p1; exact fun F H τ σ s => ⟨F, τ, T2, δ', s, p1⟩
      | ct δ' T2 => rw [e] at p1; exact fun F H τ σ s => ⟨F, τ, T2, δ', s, p1⟩
      | bk δ' T2 => rw [e] at p1; exact p1
      | ret d T2 => rw [e] at p1; exact p1
      | exc x δ' T2 => rw [e] at p1; exact p1
      | stuck => rw [e] at p1; exact p1
end
end DD

/-! DD4: what is walked, for, list comprehensions. -/
namespace DD
open PySem PySem.Spec PyProof.Rows L2
section
variable {X : Cx} {W : WX} {a b c : Expr} {f g h : DEnv → Mo D} {pos : Pos} {st : Stmt} {sts : List Stmt} {g1 g2 : SD}
/-- J walks over ds in any heap in which F stands -/
structure ItD (K : Kf) (J : It) (F : Hp) (τ : Option Tp) (ds : List D) : Prop where
  go : ∀ i H, Same F H → i < ds.length → J.go i H
  stop : ∀ i H, Same F H → ds.length ≤ i → J.stop i H
  yld : ∀ i Fi H τi T x H', Same F Fi → Same Fi H → (∀ t, τ = some t → τi = some t) → TapeOk τi T H → i < ds.length → J.yld i H x H' → ∃ d Fi', ds[i]? = some d ∧ Go Fi H τi Fi' H' τi ∧ TapeOk τi T H' ∧ Rep K Fi' τi d x
def cI (K : Kf) (mg : Str → Option Value) (W : WX) (f : DEnv → Mo (List D)) : TI := fun σ H R => cG K mg W (fun F' τ' ds (J : It) => ItD K J F' τ' ds) f σ H fun J H' => R J H'
abbrev DI (X : Cx) (W : WX) (tg it : Expr) (f : DEnv → Mo (List D)) : Prop := PI X tg it (cI X.K X.mg W f)
theorem pi_imp {tg it : Expr} {t t' : TI} (h : PI X tg it t) (k : ∀ σ H R, t' σ H R → t σ H R) : PI X tg it t' := ⟨fun pins s σ H R I q => h.run pins s σ H R I (k σ H R q)⟩

/-! ### for -/
def forD (t : TgD) (b : SD) : List D → SD
  | [], δ, T => .nx δ T
  | d :: ds, δ, T => (t d δ).elim .stuck fun δ' => (b δ' T).turn (forD t b ds)
def sFor (fi : DEnv → Mo (List D)) (t : TgD) (b : SD) : SD := fun δ T => (fi δ T).st δ fun ds T1 => forD t b ds δ T1
theorem Go.back {F0 H0 F3 H3 F6 H6 : Hp} {τ0 τ2 τ6 : Option Tp} {T : Option Tape} (g4 : Go F0 H0 τ0 F3 H3 τ2) (g6 : Go F3 H0 τ2 F6 H6 τ6) (t6 : TapeOk τ6 T H6) (f6 : TapeF τ6 F6) : Go F0 H0 τ0 F6 H6 τ6 where
  ff := fun a o e => g6.ff _ _ (g4.ff _ _ e)
  fh := g6.fh
  hh := fun a o h n => g6.hh a o h (g4.off h n)
  dom := g6.dom
  nw := fun a o e => by
    rcases g6.nw _ _ e with z | z
    · exact g4.nw _ _ z
    · exact .inr z
  tt := by
    rcases g6.tt with q | ⟨q0, t', q, n⟩
    · rcases g4.tt with r | ⟨r0, t, r, m1, m2, _⟩
      · exact .inl (q.trans r)
      · obtain ⟨⟨o1, h1⟩, ⟨o2, h2⟩⟩ := t6.there (q.trans r)
        obtain ⟨f1, f2⟩ := f6 t (q.trans r)
        exact .inr ⟨r0, t, q.trans r, m1, m2, f1, f2, by rw [h1]; simp, by rw [h2]; simp⟩
    · refine .inr ⟨?_, t', q, n⟩
      cases e : τ0 with
      | none => rfl
      | some x =>
        have := g4.tm x e
        rw [q0] at this; cases this
theorem SR.sub {K : Kf} {F0 H0 F H : Hp} {τ0 τ : Option Tp} {T : Option Tape} {δ : DEnv} {σ : L2.St} (s : SR K F0 H0 τ0 F H τ T δ σ) : SR K F H0 τ F H τ T δ σ :=
  ⟨⟨fun _ _ h => h, s.go.fh, fun a o h n => by
    refine s.go.hh a o h fun t e => ?_
    exact n t (s.go.tm t e), s.go.dom, fun _ _ h => .inl h, .inl rfl⟩, s.tp, s.tf, s.len, s.val, s.own, s.dis⟩
theorem SR.back {K : Kf} {F0 H0 F3 H3 F6 H6 : Hp} {τ0 τ2 τ6 : Option Tp} {T6 : Option Tape} {δ6 : DEnv} {σ6 : L2.St} (g4 : Go F0 H0 τ0 F3 H3 τ2) (s : SR K F3 H0 τ2 F6 H6 τ6 T6 δ6 σ6) : SR K F0 H0 τ0 F6 H6 τ6 T6 δ6 σ6 :=
  ⟨g4.back s.go s.tp s.tf, s.tp, s.tf, s.len, s.val, s.own, s.dis⟩
theorem ds_for {tg it : Expr} {body : List Stmt} {fi : DEnv → Mo (List D)} {t : TgD} {vs : List Nat} (hp : PassesOwn (model X.prog X.w) X.A X.env X.xe) (hc : X.calm = true) (hi : DI X W tg it fi) (hg : DG X tg t vs) (hb : DSs X W body g1)
    (hs : ∀ x, foldedSetIterable it X.env x = pure x := by intro _; rfl) : DS X W (.For tg it body [] pos) (sFor fi t g1) := ps_imp (ps_for hp hc hi hg hb hs) fun D σ H q => by
  obtain ⟨F0, H0, τ0, F, τ, T, δ, s, p⟩ := q
  refine cG_st s p fun ds J F1 H1 τ1 T1 s1 go r1 p1 => ?_
  -- the loop
  refine ⟨fun i m σ H => m = ds.length - i ∧ i ≤ ds.length ∧ ∃ F τ T δ, SR X.K F0 H0 τ0 F H τ T δ σ ∧ Same F1 F ∧ (∀ t, τ1 = some t → τ = some t) ∧ PstS X.K X.mg W F0 H0 τ0 D (forD t g1 (ds.drop i) δ T),
    ⟨ds.length, by simp, Nat.zero_le _, F1, τ1, T1, δ, s1, fun _ _ h => h, fun _ h => h, p1⟩, ?_⟩
  rintro i m σ H ⟨rfl, hi, F2, τ2, T2, δ2, s2, ff, tt, p2⟩
  by_cases hlt : i < ds.length
  · refine .inr ⟨r1.go i H (fun a o e => s2.go.fh _ _ (ff _ _ e)) hlt, fun σ' H' => ∃ F τ T δ, SR X.K F0 H0 τ0 F H' τ T δ σ' ∧ Same F1 F ∧ (∀ t, τ1 = some t → τ = some t) ∧ PstS X.K X.mg W F0 H0 τ0 D (forD t g1 (ds.drop (i + 1)) δ T),
      fun σ' H' ⟨F, τ, T, δ, q⟩ => ⟨ds.length - (i + 1), by omega, rfl, hlt, F, τ, T, δ, q⟩, fun x H' y => ?_⟩
    obtain ⟨d, F3, hd, go3, tp3, r3⟩ := r1.yld i F2 H τ2 T2 x H' ff s2.go.fh tt s2.tp hlt y
    have s3 := s2.step go3 tp3
    have ed : ds.drop i = d :: ds.drop (i + 1) := by
      obtain ⟨h1, h2⟩ := List.getElem?_eq_some_iff.mp hd
      rw [List.drop_eq_getElem_cons h1, h2]
    rw [ed] at p2
    unfold forD at p2
    cases et : t d δ2 with
    | none => rw [et] at p2; exact p2.elim
    | some δ3 =>
      rw [et] at p2
      have p2 : PstS X.K X.mg W F0 H0 τ0 D ((g1 δ3 T2).turn (forD t g1 (ds.drop (i + 1)))) := p2
      have f13 : Same F1 F3 := fun a o e => go3.ff _ _ (ff _ _ e)
      refine ⟨F0, H0, τ0, F3, τ2, T2, δ2, d, δ3, s3, r3, et, fun σ4 s4 _ _ => ?_⟩
      refine ⟨F3, H0, τ2, F3, τ2, T2, δ3, s4.sub, ?_⟩
      cases eb : g1 δ3 T2 with
      | nx δ6 T6 =>
        rw [eb] at p2
        exact fun F6 H6 τ6 σ6 s6 => ⟨F6, τ6, T6, δ6, SR.back s4.go s6, fun a o e => s6.go.ff _ _ (f13 _ _ e), fun x e => s6.go.tm x (tt x e), p2⟩
      | ct δ6 T6 =>
        rw [eb] at p2
        exact fun F6 H6 τ6 σ6 s6 => ⟨F6, τ6, T6, δ6, SR.back s4.go s6, fun a o e => s6.go.ff _ _ (f13 _ _ e), fun x e => s6.go.tm x (tt x e), p2⟩
      | bk δ6 T6 =>
        rw [eb] at p2
        exact fun F6 H6 τ6 σ6 s6 => p2 F6 H6 τ6 σ6 (SR.back s4.go s6)
      | ret d6 T6 =>
        rw [eb] at p2
        exact fun v F6 H6 τ6 g6 t6 f6 r6 => p2 v F6 H6 τ6 (s4.go.back g6 t6 f6) t6 f6 r6
      | exc e6 δ6 T6 =>
        rw [eb] at p2
        exact fun c dd F6 H6 τ6 σ6 s6 ex => p2 c dd F6 H6 τ6 σ6 (SR.back s4.go s6) ex
      | stuck => rw [eb] at p2; exact p2
  · refine .inl ⟨r1.stop i H (fun a o e => s2.go.fh _ _ (ff _ _ e)) (by omega), ?_⟩
    have e : i = ds.length := by omega
    rw [e, List.drop_length] at p2
    exact p2 F2 H τ2 σ s2

/-! ### what is walked -/
def tupOf : D → Option (List D)
  | .tup ds => some ds
  | _ => none
def lstOf : D → Option (List D)
  | .lst ds => some ds
  | .scr ns => some (ns.map .int)
  | _ => none
def iSeq (f : DEnv → Mo D) : DEnv → Mo (List D) := fun δ T => (f δ T).bind fun x T1 => lift (tupOf x) T1
def iLst (f : DEnv → Mo D) : DEnv → Mo (List D) := fun δ T => (f δ T).bind fun x T1 => lift (lstOf x) T1
theorem tupOf_eq : ∀ {d : D} {ds : List D}, tupOf d = some ds → d = .tup ds
  | .tup b, _, h => by cases h; rfl
  | .non, _, h => by cases h
  | .bl _, _, h => by cases h
  | .int _, _, h => by cases h
  | .str _, _, h => by cases h
  | .lst _, _, h => by cases h
  | .scr _, _, h => by cases h
  | .tape, _, h => by cases h
theorem rep_lst {K : Kf} {F H : Hp} {τ : Option Tp} (fh : Same F H) {d : D} {v : V} {ds : List D} (h : Rep K F τ d v) (e : lstOf d = some ds) : ∃ a vs, v = .ref a ∧ SqL K F a vs ∧ SqL K H a vs ∧ Reps K F τ ds vs := by
  unfold lstOf at e
  split at e
  · cases e
    unfold Rep at h
    obtain ⟨a, vs, e1, h1, h2⟩ := h
    exact ⟨a, vs, e1, .inl (.inl h1), .inl (.inl (fh _ _ h1)), h2⟩
  · cases e
    unfold Rep at h
    obtain ⟨a, e1, h1⟩ := h
    exact ⟨a, _, e1, h1, sqL_mono fh h1, Reps.ints⟩
  · cases e
theorem itD_list {K : Kf} {F : Hp} {τ : Option Tp} {a : Addr} {vs : List V} {ds : List D} (h : SqL K F a vs) (r : Reps K F τ ds vs) : ItD K (Itl K a) F τ ds where
  go := fun i H e l => by
    obtain ⟨v, h1, _⟩ := r.at (List.getElem?_eq_getElem l)
    exact ⟨vs, v, sqL_mono e h, h1⟩
  stop := fun i H e l => ⟨vs, sqL_mono e h, by rw [r.len]; exact l⟩
  yld := fun i Fi H τi T x H' e fh t tp _ y => by
    obtain ⟨rfl, y⟩ := y
    obtain ⟨d, h1, h2⟩ := r.at' (y vs (sqL_mono (e.trans fh) h))
    exact ⟨d, Fi, h1, .refl fh, tp, h2.mono e t⟩
theorem itD_tup {K : Kf} {F : Hp} {τ : Option Tp} {a : Addr} {vs : List V} {ds : List D} (h : SqT K F a vs) (r : Reps K F τ ds vs) : ItD K (Itt K a) F τ ds where
  go := fun i H e l => by
    obtain ⟨v, h1, _⟩ := r.at (List.getElem?_eq_getElem l)
    exact ⟨vs, v, sqT_mono e h, h1⟩
  stop := fun i H e l => ⟨vs, sqT_mono e h, by rw [r.len]; exact l⟩
  yld := fun i Fi H τi T x H' e fh t tp _ y => by
    obtain ⟨rfl, y⟩ := y
    obtain ⟨d, h1, h2⟩ := r.at' (y vs (sqT_mono (e.trans fh) h))
    exact ⟨d, Fi, h1, .refl fh, tp, h2.mono e t⟩
theorem di_tup {tg : Expr} (h : DE X W a f) : DI X W tg a (iSeq f) := pi_imp (pi_tup h) fun σ H R q => by
  obtain ⟨F0, H0, τ0, F, τ, T, δ, s, p⟩ := q
  refine cG_bind s p fun x v F1 H1 τ1 T1 s1 go r1 p1 => ?_
  cases e : tupOf x with
  | none => rw [e] at p1; exact p1.elim
  | some ds =>
    rw [e] at p1
    rw [tupOf_eq e] at r1
    unfold Rep at r1
    obtain ⟨p, vs, e, h1, h2⟩ := r1
    exact ⟨p, e, ⟨vs, sqT_mono s1.go.fh h1⟩, p1 _ F1 H1 τ1 (.refl s1.go.fh) s1.tp (itD_tup h1 h2)⟩
theorem di_lst {tg : Expr} (h : DE X W a f) : DI X W tg a (iLst f) := pi_imp (pi_list h) fun σ H R q => by
  obtain ⟨F0, H0, τ0, F, τ, T, δ, s, p⟩ := q
  refine cG_bind s p fun x v F1 H1 τ1 T1 s1 go r1 p1 => ?_
  cases e : lstOf x with
  | none => rw [e] at p1; exact p1.elim
  | some ds =>
    rw [e] at p1
    obtain ⟨p, vs, e, h1, h2, h3⟩ := rep_lst s1.go.fh r1 e
    exact ⟨p, e, ⟨vs, h2⟩, p1 _ F1 H1 τ1 (.refl s1.go.fh) s1.tp (itD_list h1 h3)⟩
/-- range(n), range(i, n), range(i, n, c) -/
def rng (lo c : Int) (n : Nat) : List D := (List.range n).map fun i => .int (lo + (i : Nat) * c)
theorem itD_rng {K : Kf} {F : Hp} {τ : Option Tp} {J : It} {lo c : Int} {n : Nat} (hg : ∀ i H, i < n → J.go i H) (hs : ∀ i H, n ≤ i → J.stop i H) (hy : ∀ i H x H', J.yld i H x H' → H' = H ∧ x = .int (lo + (i : Nat) * c)) : ItD K J F τ (rng lo c n) where
  go := fun i H _ l => hg i H (by simpa [rng] using l)
  stop := fun i H _ l => hs i H (by simpa [rng] using l)
  yld := fun i Fi H τi T x H' e fh t tp l y => by
    obtain ⟨rfl, rfl⟩ := hy i H x H' y
    refine ⟨.int (lo + (i : Nat) * c), Fi, ?_, .refl fh, tp, (by unfold Rep; rfl)⟩
    have l' : i < n := by simpa [rng] using l
    unfold rng
    rw [List.getElem?_map, List.getElem?_range l']
    rfl
def rOk (i : Int) : Bool := Nat.blt i.natAbs 1000000000000
def rng1 : List D → Option (List D)
  | [.int j] => if rOk j = true then some (rng 0 1 j.toNat) else none
  | _ => none
def rng2 : List D → Option (List D)
  | [.int i, .int j] => if rOk i = true ∧ rOk j = true then some (rng i 1 (j - i).toNat) else none
  | _ => none
def iR1 (fa : DEnv → Mo (List D)) : DEnv → Mo (List D) := fun δ T => (fa δ T).bind fun ds T1 => lift (rng1 ds) T1
def iR2 (fa : DEnv → Mo (List D)) : DEnv → Mo (List D) := fun δ T => (fa δ T).bind fun ds T1 => lift (rng2 ds) T1
theorem rOk_b {i : Int} (h : rOk i = true) : -(2 ^ 62) ≤ i ∧ i < 2 ^ 62 := by
  unfold rOk at h
  have := Nat.blt_eq.mp h
  omega
variable {fa : DEnv → Mo (List D)}
theorem reps1 {K : Kf} {F : Hp} {τ : Option Tp} {d : D} {vs : List V} (h : Reps K F τ [d] vs) : ∃ v, vs = [v] ∧ Rep K F τ d v := by
  unfold Reps at h
  obtain ⟨v, r, e, h1, h2⟩ := h
  unfold Reps at h2
  exact ⟨v, by rw [e, h2], h1⟩
theorem reps2 {K : Kf} {F : Hp} {τ : Option Tp} {d e : D} {vs : List V} (h : Reps K F τ [d, e] vs) : ∃ v u, vs = [v, u] ∧ Rep K F τ d v ∧ Rep K F τ e u := by
  unfold Reps at h
  obtain ⟨v, r, e, h1, h2⟩ := h
  obtain ⟨u, e2, h3⟩ := reps1 h2
  exact ⟨v, u, by rw [e, e2], h1, h3⟩
theorem reps3 {K : Kf} {F : Hp} {τ : Option Tp} {d e g : D} {vs : List V} (h : Reps K F τ [d, e, g] vs) : ∃ v u w, vs = [v, u, w] ∧ Rep K F τ d v ∧ Rep K F τ e u ∧ Rep K F τ g w := by
  unfold Reps at h
  obtain ⟨v, r, e, h1, h2⟩ := h
  obtain ⟨u, w, e2, h3, h4⟩ := reps2 h2
  exact ⟨v, u, w, by rw [e, e2], h1, h3, h4⟩
theorem di_r1 {tg e : Expr} {p : Pos} (hg : Gl X "range") (hm : X.mg "range" = none) (ha : DA X W [e] fa) (hs : starEach [e] X.env = [(false, eval e X.env)] := by rfl) : DI X W tg (.Call (.Name "range" p) [e] [] pos) (iR1 fa) := pi_imp (pi_range1 hg hm ha hs) fun σ H R q => by
  obtain ⟨F0, H0, τ0, F, τ, T, δ, s, p⟩ := q
  refine cG_bind s p fun x v F1 H1 τ1 T1 s1 go r1 p1 => ?_
  cases er : rng1 x with
  | none => rw [er] at p1; exact p1.elim
  | some ds =>
    rw [er] at p1
    unfold rng1 at er
    split at er
    · rename_i j
      split at er
      · rename_i hj
        cases er
        obtain ⟨u, e, r2⟩ := reps1 r1
        unfold Rep at r2
        obtain ⟨b1, b2⟩ := rOk_b hj
        exact ⟨j, by rw [e, r2], b1, b2, p1 _ F1 H1 τ1 (.refl s1.go.fh) s1.tp (itD_rng (fun i H l => l) (fun i H l => l) fun i H x H' y => ⟨y.1, by rw [y.2, Int.mul_one]⟩)⟩
      · cases er
    · cases er
theorem di_r2 {tg e e' : Expr} {p : Pos} (hg : Gl X "range") (hm : X.mg "range" = none) (ha : DA X W [e, e'] fa) (hs : starEach [e, e'] X.env = [(false, eval e X.env), (false, eval e' X.env)] := by rfl) (hs2 : starEach [e'] X.env = [(false, eval e' X.env)] := by rfl) : DI X W tg (.Call (.Name "range" p) [e, e'] [] pos) (iR2 fa) := pi_imp (pi_range2 hg hm ha hs hs2) fun σ H R q => by
  obtain ⟨F0, H0, τ0, F, τ, T, δ, s, p⟩ := q
  refine cG_bind s p fun x v F1 H1 τ1 T1 s1 go r1 p1 => ?_
  cases er : rng2 x with
  | none => rw [er] at p1; exact p1.elim
  | some ds =>
    rw [er] at p1
    unfold rng2 at er
    split at er
    · rename_i i j
      split at er
      · rename_i hj
        cases er
        obtain ⟨u, w, e, r2, r3⟩ := reps2 r1
        unfold Rep at r2 r3
        obtain ⟨b1, b2⟩ := rOk_b hj.1
        obtain ⟨b3, b4⟩ := rOk_b hj.2
        exact ⟨i, j, by rw [e, r2, r3], ⟨b1, b2, b3, b4⟩, p1 _ F1 H1 τ1 (.refl s1.go.fh) s1.tp (itD_rng (fun i H l => l) (fun i H l => l) fun i H x H' y => ⟨y.1, by rw [y.2, Int.mul_one]⟩)⟩
      · cases er
    · cases er

/-! ### list comprehensions, one clause -/
def wipeD (δ : DEnv) : List Nat → DEnv
  | [] => δ
  | v :: vs => (wipeD δ vs).set v .un
theorem SR.wipe {K : Kf} {F0 H0 F H : Hp} {τ0 τ : Option Tp} {T : Option Tape} {δ : DEnv} {σ : L2.St} (s : SR K F0 H0 τ0 F H τ T δ σ) : ∀ vs : List Nat, SR K F0 H0 τ0 F H τ T (wipeD δ vs) (L2.wipe σ vs)
  | [] => s
  | v :: vs => (SR.wipe s vs).forget
theorem wipe_get {σ : L2.St} {j : Nat} : ∀ {vs : List Nat}, j ∈ vs → j < σ.length → (L2.wipe σ vs)[j]? = some none
  | [], h, _ => by cases h
  | v :: vs, h, l => by
    unfold L2.wipe
    by_cases z : v = j
    · subst z
      exact List.getElem?_set_self (by rw [wipe_length]; exact l)
    · rw [List.getElem?_set_ne z]
      exact wipe_get ((List.mem_cons.mp h).resolve_left (Ne.symm z)) l
theorem wipe_out {σ : L2.St} {j : Nat} : ∀ {vs : List Nat}, j ∉ vs → (L2.wipe σ vs)[j]? = σ[j]?
  | [], _ => rfl
  | v :: vs, h => by
    unfold L2.wipe
    rw [List.getElem?_set_ne fun z => h (by rw [z]; exact List.mem_cons_self), wipe_out fun z => h (List.mem_cons_of_mem _ z)]
theorem wipe_same {σ σ' : L2.St} {vs : List Nat} (hl : σ'.length = σ.length) (h : ∀ j, j ∉ vs → σ'[j]? = σ[j]?) : L2.wipe σ' vs = L2.wipe σ vs := by
  apply List.ext_getElem?
  intro j
  by_cases z : j ∈ vs
  · by_cases l : j < σ.length
    · rw [wipe_get z l, wipe_get z (by rw [hl]; exact l)]
    · rw [List.getElem?_eq_none (by rw [wipe_length, hl]; omega), List.getElem?_eq_none (by rw [wipe_length]; omega)]
  · rw [wipe_out z, wipe_out z, h j z]
/-- a bind where no exception may come -/
def _root_.DD.Out.bindQ {α β : Type} : Out α → (α → Mo β) → Out β
  | .ok a T, k => k a T
  | .exc _ _, _ => .stuck
  | .stuck, _ => .stuck
def lcD (t : TgD) (ft : DEnv → Mo Bool) (fe : DEnv → Mo D) (δ : DEnv) : List D → List D → Mo (List D)
  | [], acc, T => .ok acc T
  | d :: ds, acc, T => (t d δ).elim .stuck fun δ' => (ft δ' T).bindQ fun b T1 => if b = true then (fe δ' T1).bindQ fun y T2 => lcD t ft fe δ ds (acc ++ [y]) T2 else lcD t ft fe δ ds acc T1
def lLc (fi : DEnv → Mo (List D)) (t : TgD) (ft : DEnv → Mo Bool) (fe : DEnv → Mo D) (vs : List Nat) : DEnv → Mo (List D) := fun δ T => (fi δ T).bind fun ds T1 => if ds.length < line then lcD t ft fe (wipeD δ vs) ds [] T1 else .stuck
abbrev W0 : WX := fun _ _ _ _ => False
abbrev DTs (X : Cx) (W : WX) (es : List Expr) (f : DEnv → Mo Bool) : Prop := PTs X es (cG X.K X.mg W RB f)
def tYesD : DEnv → Mo Bool := fun _ T => .ok true T
theorem pts_imp {es : List Expr} {t t' : TT} (h : PTs X es t) (k : ∀ σ H Q, t' σ H Q → t σ H Q) : PTs X es t' := ⟨fun pins s σ H Q I q => h.run pins s σ H Q I (k σ H Q q)⟩
theorem dts_nil : DTs X W [] tYesD := pts_imp pts_nil fun σ H Q q => by
  obtain ⟨F0, H0, τ0, F, τ, T, δ, s, p⟩ := q
  exact p true F H τ (.refl s.go.fh) s.tp rfl
theorem dts_one {t : DEnv → Mo Bool} (h : DT X W c t) : DTs X W [c] t := pts_one h
theorem Go.poke {F H F' H' : Hp} {τ τ' : Option Tp} {a : Addr} {o : HO} (g : Go F H τ F' H' τ') (h : H a = none) (f : F' a = none) (n : Off τ' a) : Go F H τ F' (upd H' a o) τ' where
  ff := g.ff
  fh := fun b u e => by rw [upd_ne (ne_of_none e f)]; exact g.fh _ _ e
  hh := fun b u e k => by rw [upd_ne (ne_of_none e h)]; exact g.hh _ _ e k
  dom := fun b e => by
    by_cases z : b = a
    · subst z; exact h
    · rw [upd_ne z] at e; exact g.dom _ e
  nw := g.nw
  tt := by
    rcases g.tt with q | ⟨q0, t, q, n1, n2, n3, n4, n5, n6⟩
    · exact .inl q
    · exact .inr ⟨q0, t, q, n1, n2, n3, n4, by rw [upd_ne (Ne.symm (n t q).1)]; exact n5, by rw [upd_ne (Ne.symm (n t q).2)]; exact n6⟩
theorem SR.poke {K : Kf} {F0 H0 F H : Hp} {τ0 τ : Option Tp} {T : Option Tape} {δ : DEnv} {σ : L2.St} {a : Addr} {o : HO} (s : SR K F0 H0 τ0 F H τ T δ σ) (h0 : H0 a = none) (f : F a = none) (n : Off τ a)
    (ne : ∀ (j : Nat) (es : List D), δ[j]? = some (.own es) → σ[j]? ≠ some (some (.ref a))) : SR K F0 H0 τ0 F (upd H a o) τ T δ σ :=
  ⟨s.go.poke h0 f n, s.tp.upd n, s.tf, s.len, s.val, fun i ds e => by
    obtain ⟨b, vs, h1, h2, h3⟩ := s.own i ds e
    exact ⟨b, vs, h1, by rw [upd_ne fun z => ne i ds e (by rw [← z]; exact h1)]; exact h2, h3⟩, s.dis⟩
theorem cLc {K : Kf} {mg : Str → Option Value} {fi : DEnv → Mo (List D)} {t : TgD} {ft : DEnv → Mo Bool} {fe : DEnv → Mo D} {ws vs : List Nat} (hw : ∀ j ∈ ws, j ∈ vs) {σ : L2.St} {H : Hp} {Q : VK} (q : cL K mg W (lLc fi t ft fe vs) σ H Q) :
    tLc (cI K mg W fi) (cT K t ws) (cG K mg W0 RB ft) (cG K mg W0 (Rep K) fe) vs σ H Q := by
  obtain ⟨F0, H0, τ0, F, τ, T, δ, s, p⟩ := q
  refine cG_bindL s p fun ds J F1 H1 τ1 T1 s1 go r1 p1 => ?_
  split at p1
  case isFalse => exact p1.elim
  rename_i hlen
  intro Dl hD
  have hF : F1 Dl = none := s1.go.fh.free hD
  have hO : Off τ1 Dl := s1.tp.off hD
  have h0D : H0 Dl = none := s1.go.dom _ hD
  have apart : ∀ (j : Nat) (es : List D), δ[j]? = some (.own es) → σ[j]? ≠ some (some (.ref Dl)) := fun j es e z => by
    obtain ⟨a, us, k1, k2, _⟩ := s1.own j es e
    rw [k1] at z
    cases z
    rw [hD] at k2; cases k2
  refine ⟨fun i m H => m = ds.length - i ∧ i ≤ ds.length ∧ ∃ F2 τ2 T2 acc vs', SR K F0 H0 τ0 F2 H τ2 T2 δ σ ∧ Go F1 H1 τ1 F2 H τ2 ∧ H Dl = some (.lst vs') ∧ Reps K F2 τ2 acc vs' ∧ F2 Dl = none ∧ Off τ2 Dl ∧ acc.length ≤ i ∧ PstL K mg W σ F1 H1 τ1 Q (lcD t ft fe (wipeD δ vs) (ds.drop i) acc T2),
    ⟨ds.length, by simp, Nat.zero_le _, F1, τ1, T1, [], [], s1.step (Go.newH s1.go.fh hD) (s1.tp.upd hO), Go.newH s1.go.fh hD, upd_same, .nil, hF, hO, Nat.le_refl _, p1⟩, ?_⟩
  rintro i m H2 ⟨rfl, hi, F2, τ2, T2, acc, us, s2, g2, hl2, ra, f2, o2, la, p2⟩
  by_cases hlt : i < ds.length
  · refine .inr ⟨r1.go i H2 (fun a o e => s2.go.fh _ _ (g2.ff _ _ e)) hlt, fun H' => ∃ F2 τ2 T2 acc vs', SR K F0 H0 τ0 F2 H' τ2 T2 δ σ ∧ Go F1 H1 τ1 F2 H' τ2 ∧ H' Dl = some (.lst vs') ∧ Reps K F2 τ2 acc vs' ∧ F2 Dl = none ∧ Off τ2 Dl ∧ acc.length ≤ i + 1 ∧ PstL K mg W σ F1 H1 τ1 Q (lcD t ft fe (wipeD δ vs) (ds.drop (i + 1)) acc T2),
      fun H' ⟨F2, τ2, T2, acc, us, q⟩ => ⟨ds.length - (i + 1), by omega, rfl, hlt, F2, τ2, T2, acc, us, q⟩, fun x H' y => ?_⟩
    obtain ⟨d, F3, hd, go3, tp3, r3⟩ := r1.yld i F2 H2 τ2 T2 x H' (g2.ff) s2.go.fh g2.tm s2.tp hlt y
    have s3 := s2.step go3 tp3
    have ed : ds.drop i = d :: ds.drop (i + 1) := by
      obtain ⟨h1, h2⟩ := List.getElem?_eq_some_iff.mp hd
      rw [List.drop_eq_getElem_cons h1, h2]
    rw [ed] at p2
    unfold lcD at p2
    cases et : t d (wipeD δ vs) with
    | none => rw [et] at p2; exact p2.elim
    | some δ3 =>
      rw [et] at p2
      have p2 : PstL K mg W σ F1 H1 τ1 Q ((ft δ3 T2).bindQ fun b T1 => if b = true then (fe δ3 T1).bindQ fun y T2 => lcD t ft fe (wipeD δ vs) (ds.drop (i + 1)) (acc ++ [y]) T2 else lcD t ft fe (wipeD δ vs) (ds.drop (i + 1)) acc T1) := p2
      refine ⟨F0, H0, τ0, F3, τ2, T2, wipeD δ vs, d, δ3, s3.wipe vs, r3, et, fun σ4 s4 l4 k4 => ⟨?_, ?_⟩⟩
      · have e1 : L2.wipe σ4 vs = L2.wipe (L2.wipe σ vs) vs := wipe_same l4 fun j hj => k4 j fun z => hj (hw j z)
        rw [e1]
        exact wipe_same (wipe_length _ _) fun j hj => wipe_out hj
      · refine ⟨F0, H0, τ0, F3, τ2, T2, δ3, s4, ?_⟩
        cases eb : ft δ3 T2 with
        | exc e T5 => rw [eb] at p2; exact p2.elim
        | stuck => rw [eb] at p2; exact p2.elim
        | ok b T5 =>
          rw [eb] at p2
          have p2 : PstL K mg W σ F1 H1 τ1 Q (if b = true then (fe δ3 T5).bindQ fun y T2 => lcD t ft fe (wipeD δ vs) (ds.drop (i + 1)) (acc ++ [y]) T2 else lcD t ft fe (wipeD δ vs) (ds.drop (i + 1)) acc T5) := p2
          intro b' F5 H5 τ5 g5 t5 r5
          cases r5
          have s5 := s4.step g5 t5
          have l5 : H5 Dl = some (.lst us) := g5.hh _ _ (go3.hh _ _ hl2 o2) o2
          have o5 : Off τ5 Dl := g5.off (go3.hh _ _ hl2 o2) o2
          have f3 : F3 Dl = none := go3.fnone f2 hl2
          have f5 : F5 Dl = none := g5.fnone f3 (go3.hh _ _ hl2 o2)
          cases b with
          | false =>
            rw [if_neg Bool.false_ne_true] at p2 ⊢
            exact ⟨F5, τ5, T5, acc, us, s3.step g5 t5, g2.trans (go3.trans g5), l5, ra.mono (fun a o e => g5.ff _ _ (go3.ff _ _ e)) g5.tm, f5, o5, Nat.le_succ_of_le la, p2⟩
          | true =>
            rw [if_pos rfl] at p2 ⊢
            refine ⟨F0, H0, τ0, F5, τ5, T5, δ3, s5, ?_⟩
            cases ey : fe δ3 T5 with
            | exc e T6 => rw [ey] at p2; exact p2.elim
            | stuck => rw [ey] at p2; exact p2.elim
            | ok y T6 =>
              rw [ey] at p2
              have p2 : PstL K mg W σ F1 H1 τ1 Q (lcD t ft fe (wipeD δ vs) (ds.drop (i + 1)) (acc ++ [y]) T6) := p2
              intro v F6 H6 τ6 g6 t6 r6
              have l6 : H6 Dl = some (.lst us) := g6.hh _ _ l5 o5
              have o6 : Off τ6 Dl := g6.off l5 o5
              have f6 : F6 Dl = none := g6.fnone f5 l5
              have gg : Go F2 H2 τ2 F6 H6 τ6 := go3.trans (g5.trans g6)
              refine ⟨us, l6, by rw [ra.len]; exact line_lt (by omega), F6, τ6, T6, acc ++ [y], us ++ [v], (s2.step gg t6).poke h0D f6 o6 apart, (g2.trans gg).poke hD f6 o6, upd_same, ?_, f6, o6, by rw [List.length_append]; simp; omega, p2⟩
              exact (ra.mono gg.ff gg.tm).append (.one r6)
  · refine .inl ⟨r1.stop i H2 (fun a o e => s2.go.fh _ _ (g2.ff _ _ e)) (by omega), ?_⟩
    have e : i = ds.length := by omega
    rw [e, List.drop_length] at p2
    exact p2 Dl us F2 H2 τ2 g2 s2.tp hl2 ra f2 hD o2
theorem dl_lc {elt tg iter : Expr} {ifs : List Expr} {scope : Scope} {own : List (Str × Nat)} {fi : DEnv → Mo (List D)} {t : TgD} {ft : DEnv → Mo Bool} {fe : DEnv → Mo D} {ws : List Nat} (hc : X.calm = true) (hN : X.N.Nodup) (hi : DI X W tg iter fi) (ok : BlkOk X.N X.env.scope scope own) (hw : ∀ j ∈ ws, j ∈ own.map (·.2))
    (hg : ∀ (s : Shared) (H : Hp) (C : Addr) (cl : List (Str × Addr)) (fp : List Addr), DG (X.blk s H scope (compEnvC scope cl C X.env) fp) tg t ws) (ht : ∀ (s : Shared) (H : Hp) (C : Addr) (cl : List (Str × Addr)) (fp : List Addr), DTs (X.blk s H scope (compEnvC scope cl C X.env) fp) W0 ifs ft)
    (he : ∀ (s : Shared) (H : Hp) (C : Addr) (cl : List (Str × Addr)) (fp : List Addr), DE (X.blk s H scope (compEnvC scope cl C X.env) fp) W0 elt fe) (hs : ∀ x, foldedSetIterable iter X.env x = pure x := by intro _; rfl) :
    DL X W (.ListComp elt [⟨tg, iter, ifs, 0⟩] scope pos) (lLc fi t ft fe (own.map (·.2))) := pe_imp (pe_lc hc hN hi ok hg ht he hs) fun σ H Q q => cLc hw q
/-- y = [..] -/
theorem ds_setLc (i : Nat) {y : Str} {py spos : Pos} {elt tg iter : Expr} {ifs : List Expr} {scope : Scope} {own : List (Str × Nat)} {fi : DEnv → Mo (List D)} {t : TgD} {ft : DEnv → Mo Bool} {fe : DEnv → Mo D} {ws : List Nat} (hc : X.calm = true) (hN : X.N.Nodup) (hi : DI X W tg iter fi) (ok : BlkOk X.N X.env.scope scope own) (hw : ∀ j ∈ ws, j ∈ own.map (·.2))
    (hg : ∀ (s : Shared) (H : Hp) (C : Addr) (cl : List (Str × Addr)) (fp : List Addr), DG (X.blk s H scope (compEnvC scope cl C X.env) fp) tg t ws) (ht : ∀ (s : Shared) (H : Hp) (C : Addr) (cl : List (Str × Addr)) (fp : List Addr), DTs (X.blk s H scope (compEnvC scope cl C X.env) fp) W0 ifs ft)
    (he : ∀ (s : Shared) (H : Hp) (C : Addr) (cl : List (Str × Addr)) (fp : List Addr), DE (X.blk s H scope (compEnvC scope cl C X.env) fp) W0 elt fe) (hsw : swapsWith (.ListComp elt [⟨tg, iter, ifs, 0⟩] scope pos) (some (.Name y py)) spos.line X.env = pure true) (hy : X.N[i]? = some y := by rfl) (hyl : X.env.scope.names.lookup y = some .local := by rfl) (hs : ∀ x, foldedSetIterable iter X.env x = pure x := by intro _; rfl) :
    DS X W (.Assign [.Name y py] (.ListComp elt [⟨tg, iter, ifs, 0⟩] scope pos) spos) (sSetL i (lLc fi t ft fe (own.map (·.2)))) := ps_imp (ps_setLc hc hN hy hyl hsw hi ok hg ht he hs) fun D σ H q => by
  obtain ⟨F0, H0, τ0, F, τ, T, δ, s, p⟩ := q
  have := cL_set (W := W) (K := X.K) (mg := X.mg) (i := i) (fl := lLc fi t ft fe (own.map (·.2))) (D := D) (σ := σ) (H := H) ⟨F0, H0, τ0, F, τ, T, δ, s, p⟩
  exact cLc hw this
end
end DD

/-! DD5: defs and their promises, calls, raise, try. -/
namespace DD
open PySem PySem.Spec PyProof.Rows L2

/-- a def's promise by its denotation -/
def SpD (K : Kf) (mg : Str → Option Value) (n : Nat) (den : List D → Mo D) : Sp := fun vs H Q E => ∃ F τ T ds, Same F H ∧ TapeF τ F ∧ TapeOk τ T H ∧ Reps K F τ ds vs ∧ ds.length = n ∧
  Pst mg (fun c dd _ H' => E c dd H') (Rep K) [] F H τ Q (den ds T)
theorem SpD.len {K : Kf} {mg : Str → Option Value} {n : Nat} {den : List D → Mo D} {vs : List V} {H : Hp} {Q : VK} {E : XK} (h : SpD K mg n den vs H Q E) : vs.length = n := by
  obtain ⟨F, τ, T, ds, h1, h2, h3, h4, h5, h6⟩ := h
  rw [h4.len, h5]
/-- a def's denotation by its body's: n parameters, k further names -/
def OS.out : OS → Out D
  | .nx _ T' => .ok .non T'
  | .ret d T' => .ok d T'
  | .exc e _ T' => .exc e T'
  | .bk _ _ => .stuck
  | .ct _ _ => .stuck
  | .stuck => .stuck
def runD (k : Nat) (g : SD) : List D → Mo D := fun ds T => (g (ds.map Sl.val ++ List.replicate k Sl.un) T).out
abbrev WF (E : XK) : WX := fun c d _ H => E c d H
theorem SR.init {K : Kf} {F H : Hp} {τ : Option Tp} {T : Option Tape} {ds : List D} {vs : List V} {N : List Str} {k : Nat} (fh : Same F H) (tf : TapeF τ F) (tp : TapeOk τ T H) (r : Reps K F τ ds vs) (hN : N.length = vs.length + k) :
    SR K F H τ F H τ T (ds.map Sl.val ++ List.replicate k Sl.un) (L2.start N vs) := by
  have hk : N.length - vs.length = k := by omega
  unfold L2.start
  rw [hk]
  refine ⟨.refl fh, tp, tf, by simp [r.len], fun i d e => ?_, fun i es e => ?_, fun i j es fs a n e => ?_⟩
  · by_cases l : i < ds.length
    · rw [List.getElem?_append_left (by simpa using l), List.getElem?_map] at e
      cases e1 : ds[i]? with
      | none => rw [e1] at e; cases e
      | some x =>
        rw [e1] at e
        cases e
        obtain ⟨v, h1, h2⟩ := r.at e1
        refine ⟨v, ?_, h2⟩
        rw [List.getElem?_append_left (by simpa [r.len] using l), List.getElem?_map, h1]
        rfl
    · rw [List.getElem?_append_right (by simpa using Nat.le_of_not_lt l), List.getElem?_replicate] at e
      split at e <;> cases e
  · by_cases l : i < ds.length
    · rw [List.getElem?_append_left (by simpa using l), List.getElem?_map] at e
      cases e1 : ds[i]? with
      | none => rw [e1] at e; cases e
      | some x => rw [e1] at e; cases e
    · rw [List.getElem?_append_right (by simpa using Nat.le_of_not_lt l), List.getElem?_replicate] at e
      split at e <;> cases e
  · by_cases l : i < ds.length
    · rw [List.getElem?_append_left (by simpa using l), List.getElem?_map] at e
      cases e1 : ds[i]? with
      | none => rw [e1] at e; cases e
      | some x => rw [e1] at e; cases e
    · rw [List.getElem?_append_right (by simpa using Nat.le_of_not_lt l), List.getElem?_replicate] at e
      split at e <;> cases e
section
variable {P : Program} {w : World} {K : Kf} {mg : Str → Option Value} {base : Heap}
/-- the context of a def's body -/
abbrev BX (P : Program) (w : World) (K : Kf) (mg : Str → Option Value) (base : Heap) (N : List Str) (qual : Str) (sc : Scope) (f : Addr) (cdv : Value) (A : Around) (outer : List PySem.Env) (s : Shared) (H : Hp) (E : XK) : Cx := cxOf (L2.CX P w) P w K mg base N qual sc f cdv A outer s H E
theorem okD {x qual : Str} {st : Stmt} {f : Addr} {fd : FuncData} {N ps : List Str} {n k j : Nat} {g : SD} (F : Fun K x qual st f fd) (S : FnScope N ps (defScope st)) (hn : ps.length = n) (hk : N.length = n + k)
    (hbody : ∀ (cdv : Value) (A : Around) (outer : List PySem.Env) (s : Shared) (H : Hp) (E : XK), Room j (BX P w K mg base N qual (defScope st) f cdv A outer s H E).A → (BX P w K mg base N qual (defScope st) f cdv A outer s H E).A.units + 64 < cLine → Takes (BX P w K mg base N qual (defScope st) f cdv A outer s H E) (WF E) →
      PassesOwn (model P w) (BX P w K mg base N qual (defScope st) f cdv A outer s H E).A (BX P w K mg base N qual (defScope st) f cdv A outer s H E).env (BX P w K mg base N qual (defScope st) f cdv A outer s H E).xe →
      DSs (BX P w K mg base N qual (defScope st) f cdv A outer s H E) (WF E) (defBody st) g) : FnOk P w K mg base (L2.CX P w) (j + 1) f fd ps (SpD K mg n (runD k g)) := by
  refine F.okX S (fun vs H Q E h => by rw [SpD.len h, hn]) fun cdv A outer s H vs Q E hr h => ?_
  refine ⟨_, hbody cdv A outer s H E hr hr.units (takes_of rfl rfl rfl rfl) (passes_of rfl), ?_⟩
  have hl := SpD.len h
  obtain ⟨F0, τ, T, ds, h1, h2, h3, h4, h5, h6⟩ := h
  refine ⟨F0, H, τ, F0, τ, T, ds.map Sl.val ++ List.replicate k Sl.un, SR.init h1 h2 h3 h4 (by rw [hk, hl]), ?_⟩
  unfold runD at h6
  show PstS K mg (WF E) F0 H τ { nx := fun _ H' => Q .non H', rt := Q } (g (ds.map Sl.val ++ List.replicate k Sl.un) T)
  revert h6
  cases g (ds.map Sl.val ++ List.replicate k Sl.un) T with
  | nx δ T' => exact fun h6 F' H' τ' σ' s' => h6 .non F' H' τ' s'.go s'.tp (by unfold Rep; rfl)
  | ret d T' => exact fun h6 v F' H' τ' g' t' f' r' => h6 v F' H' τ' g' t' r'
  | exc e δ T' => exact fun h6 c dd F' H' τ' σ' s' ex => h6 c dd F' H' τ' s'.go s'.tp ex
  | bk δ T' => exact fun h6 => h6.elim
  | ct δ T' => exact fun h6 => h6.elim
  | stuck => exact fun h6 => h6
end
section
variable {X : Cx} {W : WX} {a b c : Expr} {pos : Pos} {fa : DEnv → Mo (List D)} {es : List Expr}
/-- f(..) -/
def dCall (n : Nat) (den : List D → Mo D) (fa : DEnv → Mo (List D)) : DEnv → Mo D := fun δ T => (fa δ T).bind fun ds T1 => if ds.length = n then den ds T1 else .stuck
theorem cCall {K : Kf} {mg : Str → Option Value} {n : Nat} {den : List D → Mo D} {σ : L2.St} {H : Hp} {Q : VK} (q : cG K mg W (Rep K) (dCall n den fa) σ H Q) : tCallS (SpD K mg n den) (WE W) (cG K mg W (Reps K) fa) σ H Q := by
  obtain ⟨F0, H0, τ0, F, τ, T, δ, s, p⟩ := q
  refine cG_bind s p fun ds vs F1 H1 τ1 T1 s1 g1 r1 p1 => ?_
  split at p1
  · rename_i hl
    refine ⟨F1, τ1, T1, ds, s1.go.fh, s1.tf, s1.tp, r1, hl, ?_⟩
    revert p1
    cases den ds T1 with
    | ok d T2 => exact fun p1 => p1
    | exc e T2 => exact fun p1 => p1
    | stuck => exact fun p1 => p1
  · exact p1.elim
theorem de_call {k : Nat} {f : Addr} {fd : FuncData} {ps : List Str} {n : Nat} {den : List D → Mo D} {x : Str} {p : Pos} {e : Expr} (tk : Takes X W) (F : FnOk X.prog X.w X.K X.mg X.base (L2.CX X.prog X.w) k f fd ps (SpD X.K X.mg n den)) (hr : Room k X.A) (hm : X.mg x = some (.ref f)) (hk : PySem.W.keepIn X.K (.ref f) = true) (hb : Binds X.K fd ps [])
    (ha : DA X W (e :: es) fa) (hg : Gl X x := by rfl) (hdb : (x == ("__debug__" : Str)) = false := by decide) (he : starEach (e :: es) X.env = (false, eval e X.env) :: starEach es X.env := by rfl) (hpl : (backTo pos (starEach es X.env)).any (·.1) = false := by rfl) :
    DE X W (.Call (.Name x p) (e :: es) [] pos) (dCall n den fa) := pe_imp (pe_callS F hr hg hm hk hb (fun σ => passAt tk σ) ha hdb he hpl) fun σ H Q q => cCall q

/-! ### raise -/
section
variable {C : Addr} {bmB : List Value} {B newId initId : String}
theorem pmk_own0 {x : Str} {p : Pos} (F : ExcBaseFacts B newId initId bmB) (q : PySem.W.excIn X.K C bmB newId = true) (gC : X.mg x = some (.ref C)) (kC : PySem.W.keepIn X.K (.ref C) = true) (r : Raises X (.ref C)) (hg : Gl X x)
    (hdb : (x == ("__debug__" : Str)) = false := by decide) : PMk X (.Call (.Name x p) [] [] pos) (fun _ H Q => Q (.ref C) none H) := by
  intro pins s σ H Q I h
  refine wpAny_Call_Name_kw (ld_glob I hg gC ?_ hdb)
  refine PySem.W.callWith_K0 I.kIn kC ?_
  show wpAny _ _ (call (.ref C) []) _ _ _
  obtain ⟨bm, N, nm, qn, bs, hdct, sn, sub, ab, col, dd, k0, k1, k2, k3, k5, mN, hC, hN, hni, T⟩ := exc_obj I.kIn q
  refine wpAny_call_exc_subT F T hC hN hni (fun h' e hm => ?_) (Nat.zero_le _)
  exact mk_of I hm r h (I.hok.gone hm.new)
end
def sRaise (x : Str) : SD := fun δ T => .exc ⟨x, none⟩ δ T
abbrev veb : List Value := [.type "ValueError", .type "Exception", .type "BaseException", .type "object"]
/-- facts of an own exception class without own __init__ -/
structure Xc (K : Kf) (mg : Str → Option Value) (x : Str) (C : Addr) : Prop where
  g : mg x = some (.ref C)
  k : PySem.W.keepIn K (.ref C) = true
  e : PySem.W.excIn K C veb "ValueError.__new__" = true
  s : PySem.W.subIn K (.ref C) (.type "BaseException") = some true
  t : PySem.W.typeIn K (.ref C) = some (.type "type")
theorem ds_raise {x : Str} {C : Addr} {p pos' : Pos} (hc : X.calm = true) (tk : Takes X W) (T : Xc X.K X.mg x C) (hg : Gl X x := by rfl) (hdb : (x == ("__debug__" : Str)) = false := by decide) : DS X W (.Raise (some (.Call (.Name x p) [] [] pos)) none pos') (sRaise x) :=
  ps_imp (ps_raise hc tk (pmk_own0 PySem.F.excBase_ValueError T.e T.g T.k (raises_own T.s T.t) hg hdb)) fun D σ H q => by
    obtain ⟨F0, H0, τ0, F, τ, T', δ, s, p⟩ := q
    exact p (.ref C) none F H τ σ s ⟨C, T.g, rfl, rfl⟩

/-! ### try: .. except X: .. -/
/-- the clauses: the class's name, whether it takes an exception of the class named, the suite -/
abbrev Hd := Str × (Str → Option Bool) × SD
/-- no exception leaves a suite -/
def OS.quiet : OS → OS
  | .exc _ _ _ => .stuck
  | .nx δ T => .nx δ T
  | .ret d T => .ret d T
  | .bk δ T => .bk δ T
  | .ct δ T => .ct δ T
  | .stuck => .stuck
def quiet (g : SD) : SD := fun δ T => (g δ T).quiet
def OS.catch : OS → (Exn → SD) → OS
  | .exc e δ T, k => k e δ T
  | .nx δ T, _ => .nx δ T
  | .ret d T, _ => .ret d T
  | .bk δ T, _ => .bk δ T
  | .ct δ T, _ => .ct δ T
  | .stuck, _ => .stuck
def handle (e : Exn) : List Hd → SD
  | [] => fun δ T => .exc e δ T
  | (_, sub, g) :: r => fun δ T => (sub e.cls).elim .stuck fun b => if b = true then quiet g δ T else handle e r δ T
def sTry (g : SD) (l : List Hd) : SD := fun δ T => (g δ T).catch fun e => handle e l
/-- what a clause's class takes -/
def SubOk (X : Cx) (x : Str) (c : Value) (sub : Str → Option Bool) : Prop := Names X x c ∧ ∀ y C b, X.mg y = some (.ref C) → sub y = some b → PySem.W.exmOne X.K (.ref C) c = some b
inductive HdD (X : Cx) : List ExceptHandler → List Hd → List (Value × SD) → Prop
  | nil : HdD X [] [] []
  | cons {x : Str} {c : Value} {sub : Str → Option Bool} {g : SD} {b₀ : Stmt} {suite : List Stmt} {np pos' : Pos} {hds : List ExceptHandler} {l : List Hd} {m : List (Value × SD)} (hc : SubOk X x c sub)
      (hsu : ∀ (a : Addr) (oe : Obj) (cls : Value) (d : Option Addr) (pn : List (Addr × Obj)), Zc cls d oe → (∃ vs, oe.data = .fields vs) → DSs (X.suite a ((a, oe) :: pn)) W0 (b₀ :: suite) g) (r : HdD X hds l m) :
      HdD X (.ExceptHandler (some (.Name x np)) none (b₀ :: suite) pos' :: hds) ((x, sub, g) :: l) ((c, g) :: m)
/-- the exceptions that leave the try's suites are none -/
theorem HdD.ok {hds : List ExceptHandler} {l : List Hd} {m : List (Value × SD)} (h : HdD X hds l m) : HdsOk X hds (m.map fun p => (p.1, fun _ _ _ => cS X.K X.mg W0 p.2)) := by
  induction h with
  | nil => exact .nil
  | cons hc hsu r ih => exact .cons hc.1 (fun a oe cls d pn z f => hsu a oe cls d pn z f) ih
theorem pst_quiet {K : Kf} {mg : Str → Option Value} {F0 H0 : Hp} {τ0 : Option Tp} {D : Ends} {g : SD} {δ : DEnv} {T : Option Tape} (h : PstS K mg W F0 H0 τ0 D (quiet g δ T)) : PstS K mg W0 F0 H0 τ0 D (g δ T) := by
  unfold quiet at h
  cases e : g δ T with
  | nx δ' T' => rw [e] at h; exact h
  | ret d T' => rw [e] at h; exact h
  | bk δ' T' => rw [e] at h; exact h
  | ct δ' T' => rw [e] at h; exact h
  | exc x δ' T' => rw [e] at h; exact h.elim
  | stuck => rw [e] at h; exact h
theorem HdD.handled {hds : List ExceptHandler} {l : List Hd} {m : List (Value × SD)} {F0 H0 : Hp} {τ0 : Option Tp} {D : Ends} {e : Exn} {δ : DEnv} {T : Option Tape} (h : HdD X hds l m) (p : PstS X.K X.mg W F0 H0 τ0 D (handle e l δ T)) :
    ∀ c dd F H τ σ, SR X.K F0 H0 τ0 F H τ T δ σ → ExR X.mg e c dd F → wMany X.K W D (m.map fun p => (p.1, fun _ _ _ => cS X.K X.mg W0 p.2)) c dd σ H := by
  induction h with
  | nil => exact p
  | cons hc hsu r ih =>
    rename_i x cv sub g b₀ suite np pos' hds l m
    intro c dd F H τ σ s ex
    unfold handle at p
    obtain ⟨C, e1, e2, e3⟩ := id ex
    cases es : sub e.cls with
    | none => rw [es] at p; exact p.elim
    | some b =>
      rw [es] at p
      have p : PstS X.K X.mg W F0 H0 τ0 D (if b = true then quiet g δ T else handle e l δ T) := p
      refine ⟨b, ?_, fun hb a _ => ?_, fun hb => ?_⟩
      · rw [e2]; exact hc.2 _ _ _ e1 es
      · subst hb
        exact ⟨F0, H0, τ0, F, τ, T, δ, s, pst_quiet p⟩
      · subst hb
        exact ih p c dd F H τ σ s ex
theorem ds_try {body : List Stmt} {h₀ : ExceptHandler} {hds : List ExceptHandler} {g : SD} {l : List Hd} {m : List (Value × SD)} (hs : X.stack = X.env :: X.outer) (hf : X.env.frame = some X.env.locals) (tk : Takes X W)
    (hb : ∀ (W' : WX) (pn : List (Addr × Obj)) (xe : Value → Shared → Prop), Takes (X.tr pn xe) W' → PassesOwn (model X.prog X.w) X.A X.env xe → DSs (X.tr pn xe) W' body g) (hh : HdD X (h₀ :: hds) l m) : DS X W (.Try body (h₀ :: hds) [] [] pos) (sTry g l) :=
  ps_imp (ps_try_many (tb := fun W' => cS X.K X.mg W' g) hs hf tk hb hh.ok) fun D σ H q => by
    obtain ⟨F0, H0, τ0, F, τ, T, δ, s, p⟩ := q
    refine ⟨F0, H0, τ0, F, τ, T, δ, s, ?_⟩
    unfold sTry at p
    cases e : g δ T with
    | nx δ' T' => rw [e] at p; exact p
    | ret d T' => rw [e] at p; exact p
    | bk δ' T' => rw [e] at p; exact p
    | ct δ' T' => rw [e] at p; exact p
    | exc x δ' T' => rw [e] at p; exact fun c dd F H τ σ s ex => hh.handled p c dd F H τ σ s ex
    | stuck => rw [e] at p; exact p
end
end DD

/-! DD6: the operations on data. -/
namespace DD
open PySem PySem.Spec PyProof.Rows L2
section
variable {K : Kf}
/-! ### + - * // % ** << >> & -/
def oAdd : D → D → Option D
  | .int i, .int j => some (.int (i + j))
  | .tup xs, .tup ys => if xs.length + ys.length < line then some (.tup (xs ++ ys)) else none
  | .lst xs, .lst ys => if xs.length + ys.length < line then some (.lst (xs ++ ys)) else none
  | _, _ => none
def rAddA (K : Kf) : R2 := fun x y H Q => (∃ i j, x = .int i ∧ y = .int j ∧ Q (.int (i + j)) H) ∨ rCatA K x y H Q ∨ rCat x y H Q
theorem op_addA {X : Cx} : OpR X (binaryOp .Add) (rAddA X.K) := OpR.or op_add (OpR.or op_catA op_cat)
theorem opd_add : OpD K (rAddA K) oAdd := by
  intro F H τ T x y v u z Q fh tp r1 r2 e k
  unfold oAdd at e
  split at e
  · cases e
    unfold Rep at r1 r2
    exact .inl ⟨_, _, r1, r2, k _ F H (.refl fh) tp (by unfold Rep; rfl)⟩
  · rename_i xs ys
    split at e
    · rename_i hl
      cases e
      unfold Rep at r1 r2
      obtain ⟨a, vs, e1, h1, h2⟩ := r1
      obtain ⟨b, us, e2, h3, h4⟩ := r2
      refine .inr (.inl ⟨a, b, vs, us, e1, e2, sqT_mono fh h1, sqT_mono fh h3, ?_, fun z => ?_, fun _ z => ?_, fun _ _ p hp => ?_⟩)
      · rw [h2.len, h4.len]; exact Nat.le_of_lt (line_lt hl)
      · have : xs = [] := by
          have := h2.len
          rw [z] at this
          exact List.length_eq_zero_iff.mp this.symm
        subst this
        exact k _ F H (.refl fh) tp (by unfold Rep; exact ⟨b, us, rfl, h3, h4⟩)
      · have : ys = [] := by
          have := h4.len
          rw [z] at this
          exact List.length_eq_zero_iff.mp this.symm
        subst this
        exact k _ F H (.refl fh) tp (by unfold Rep; rw [List.append_nil]; exact ⟨a, vs, rfl, h1, h2⟩)
      · have g := Go.new (τ := τ) (o := .tup (vs ++ us)) fh hp
        refine k _ _ _ g (tp.upd (tp.off hp)) ?_
        unfold Rep
        exact ⟨p, _, rfl, .inl (.inl upd_same), (h2.append h4).mono g.ff fun _ e => e⟩
    · cases e
  · rename_i xs ys
    split at e
    · rename_i hl
      cases e
      unfold Rep at r1 r2
      obtain ⟨a, vs, e1, h1, h2⟩ := r1
      obtain ⟨b, us, e2, h3, h4⟩ := r2
      refine .inr (.inr ⟨a, b, vs, us, e1, e2, fh _ _ h1, fh _ _ h3, ?_, fun p hp => ?_⟩)
      · rw [h2.len, h4.len]; exact Nat.le_of_lt (line_lt hl)
      · have g := Go.new (τ := τ) (o := .lst (vs ++ us)) fh hp
        refine k _ _ _ g (tp.upd (tp.off hp)) ?_
        unfold Rep
        exact ⟨p, _, rfl, upd_same, (h2.append h4).mono g.ff fun _ e => e⟩
    · cases e
  · cases e
abbrev oAddI : D → D → Option D := oI0 fun i j => .int (i + j)
theorem opd_addI : OpD K (rI0 fun i j => .int (i + j)) oAddI := opd_I0 fun _ _ => rfl
abbrev oSub : D → D → Option D := oI0 fun i j => .int (i - j)
theorem opd_sub : OpD K (rI0 fun i j => .int (i - j)) oSub := opd_I0 fun _ _ => rfl
def cMul (i j : Int) : Bool := Nat.blt i.natAbs 18446744073709551616 || Nat.blt j.natAbs 18446744073709551616
theorem cMul_ok {i j : Int} (h : cMul i j = true) : CMul i j := by
  unfold cMul at h
  simp only [Bool.or_eq_true, Nat.blt_eq] at h
  unfold CMul
  omega
abbrev oMul : D → D → Option D := oI cMul fun i j => .int (i * j)
theorem opd_mul : OpD K (rI CMul fun i j => .int (i * j)) oMul := opd_I (fun _ _ => cMul_ok) fun _ _ => rfl
def posI (j : Int) : Bool := Nat.ble 1 j.toNat
theorem posI_eq {j : Int} : posI j = true ↔ 0 < j := by
  unfold posI
  rw [Nat.ble_eq]
  omega
def nnI (j : Int) : Bool := ltI (-1) j
theorem nnI_eq {j : Int} : nnI j = true ↔ 0 ≤ j := by
  unfold nnI
  rw [ltI_eq, decide_eq_true_eq]
  omega
def cDiv (_ j : Int) : Bool := posI j && Nat.blt j.natAbs 115792089237316195423570985008687907853269984665640564039457584007913129639936
theorem cDiv_ok {i j : Int} (h : cDiv i j = true) : CDivW i j := by
  unfold cDiv at h
  simp only [Bool.and_eq_true, posI_eq, Nat.blt_eq] at h
  exact wide_div (b := 256) h.1 (by omega) (by decide) (by decide)
abbrev oDiv : D → D → Option D := oI cDiv fun i j => .int (i / j)
theorem opd_div : OpD K (rI CDivW fun i j => .int (i / j)) oDiv := opd_I (fun _ _ => cDiv_ok) fun _ _ => rfl
abbrev oMod : D → D → Option D := oI (fun _ j => posI j) fun i j => .int (i % j)
theorem opd_mod : OpD K (rI (fun _ j => 0 < j) fun i j => .int (i % j)) oMod := opd_I (fun _ _ h => posI_eq.mp h) fun _ _ => rfl
def cPow (i j : Int) : Bool := nnI j && Nat.ble j.natAbs 1000000 && Nat.blt i.natAbs 18446744073709551616
theorem cPow_ok {i j : Int} (h : cPow i j = true) : CPow i j := by
  unfold cPow at h
  simp only [Bool.and_eq_true, nnI_eq, Nat.blt_eq, Nat.ble_eq] at h
  exact ⟨h.1.1, by omega, h.2⟩
abbrev oPow : D → D → Option D := oI cPow fun i j => .int (i ^ j.toNat)
theorem opd_pow : OpD K (rI CPow fun i j => .int (i ^ j.toNat)) oPow := opd_I (fun _ _ => cPow_ok) fun _ _ => rfl
abbrev oShl : D → D → Option D := oI cPow fun i j => .int (i * 2 ^ j.toNat)
theorem opd_shl : OpD K (rI CPow fun i j => .int (i * 2 ^ j.toNat)) oShl := opd_I (fun _ _ => cPow_ok) fun _ _ => rfl
abbrev oShr : D → D → Option D := oI (fun _ j => nnI j) fun i j => .int (i / 2 ^ j.toNat)
theorem opd_shr : OpD K (rI (fun _ j => 0 ≤ j) fun i j => .int (i / 2 ^ j.toNat)) oShr := opd_I (fun _ _ h => nnI_eq.mp h) fun _ _ => rfl
abbrev oAnd : D → D → Option D := oI0 fun i j => .int (Builtin.bitAnd i j)
theorem opd_and : OpD K (rI0 fun i j => .int (Builtin.bitAnd i j)) oAnd := opd_I0 fun _ _ => rfl
/-! augmented -/
theorem iop_divW {X : Cx} : OpR X (inplaceOp .FloorDiv) (rI CDiv fun i j => .int (i / j)) := iop_fdiv
/-! ### order of ints -/
abbrev oLt : D → D → Option D := oI0 fun i j => .bl (ltI i j)
abbrev oLe : D → D → Option D := oI0 fun i j => .bl (leI i j)
abbrev oGt : D → D → Option D := oI0 fun i j => .bl (ltI j i)
abbrev oGe : D → D → Option D := oI0 fun i j => .bl (leI j i)
theorem opd_lt : OpD K (rI0 fun i j => .bl (decide (i < j))) oLt := opd_I0 fun _ _ => by rw [ltI_eq]; rfl
theorem opd_le : OpD K (rI0 fun i j => .bl (decide (i ≤ j))) oLe := opd_I0 fun _ _ => by rw [leI_eq]; rfl
theorem opd_gt : OpD K (rI0 fun i j => .bl (decide (j < i))) oGt := opd_I0 fun _ _ => by rw [ltI_eq]; rfl
theorem opd_ge : OpD K (rI0 fun i j => .bl (decide (j ≤ i))) oGe := opd_I0 fun _ _ => by rw [leI_eq]; rfl
/-! ### == -/
mutual
def py : D → PyData
  | .non => .none
  | .bl b => .bool b
  | .int i => .int i
  | .str s => .str s
  | .tup ds => .tuple (pys ds)
  | .lst ds => .list (pys ds)
  | .scr ns => .list (ns.map .int)
  | .tape => .dict []
def pys : List D → List PyData
  | [] => []
  | d :: ds => py d :: pys ds
end
theorem dp_ints {H : Hp} : ∀ ns : List Int, DpAll K H (ns.map V.int) (ns.map PyData.int)
  | [] => .nil
  | n :: r => .cons (.int n) (dp_ints r)
mutual
theorem rep_dp {F H : Hp} {τ : Option Tp} (fh : Same F H) : ∀ {d : D} {v : V}, Rep K F τ d v → (py d).canLay0 = true → Dp K H v (py d)
  | .non, v, h, _ => by unfold Rep at h; subst h; unfold py; exact .non
  | .bl b, v, h, _ => by unfold Rep at h; subst h; unfold py; exact .bl b
  | .int b, v, h, _ => by unfold Rep at h; subst h; unfold py; exact .int b
  | .str b, v, h, _ => by unfold Rep at h; subst h; unfold py; exact .str b
  | .tup ds, v, h, c => by
    unfold Rep at h
    obtain ⟨a, vs, rfl, h1, h2⟩ := h
    unfold py at c ⊢
    unfold PyData.canLay0 at c
    exact .tup (sqT_mono fh h1) (reps_dp fh h2 c)
  | .lst ds, v, h, c => by
    unfold Rep at h
    obtain ⟨a, vs, rfl, h1, h2⟩ := h
    unfold py at c ⊢
    unfold PyData.canLay0 at c
    exact .lst (.inl (.inl (fh _ _ h1))) (reps_dp fh h2 c)
  | .scr ns, v, h, c => by
    unfold Rep at h
    obtain ⟨a, rfl, h1⟩ := h
    unfold py
    exact .lst (sqL_mono fh h1) (dp_ints ns)
  | .tape, v, h, c => by
    unfold py at c
    unfold PyData.canLay0 at c
    cases c
theorem reps_dp {F H : Hp} {τ : Option Tp} (fh : Same F H) : ∀ {ds : List D} {vs : List V}, Reps K F τ ds vs → PyData.canLayAll0 (pys ds) = true → DpAll K H vs (pys ds)
  | [], vs, h, _ => by unfold Reps at h; subst h; unfold pys; exact .nil
  | d :: ds, vs, h, c => by
    unfold Reps at h
    obtain ⟨v, r, rfl, h1, h2⟩ := h
    unfold pys at c ⊢
    unfold PyData.canLayAll0 at c
    rw [Bool.and_eq_true] at c
    exact .cons (rep_dp fh h1 c.1) (reps_dp fh h2 c.2)
end
def eqD (x y : D) : Bool := PyData.eqv (py x) (py y)
def shD (x : D) : Bool := SeqAt.shaped (py x)
def oEq : D → D → Option D := fun x y => if shD x = true ∧ shD y = true then some (.bl (eqD x y)) else none
def oNe : D → D → Option D := fun x y => if shD x = true ∧ shD y = true then some (.bl (!eqD x y)) else none
theorem opd_eq : OpD K (rEqD K) oEq := by
  intro F H τ T x y v u z Q fh tp r1 r2 e k
  unfold oEq at e
  split at e
  · rename_i h
    cases e
    exact ⟨py x, py y, rep_dp fh r1 (SeqAt.canLay_of_shaped h.1), rep_dp fh r2 (SeqAt.canLay_of_shaped h.2), h.1, h.2, k _ F H (.refl fh) tp (by unfold Rep; rfl)⟩
  · cases e
theorem opd_ne : OpD K (rNeD K) oNe := by
  intro F H τ T x y v u z Q fh tp r1 r2 e k
  unfold oNe at e
  split at e
  · rename_i h
    cases e
    exact ⟨py x, py y, rep_dp fh r1 (SeqAt.canLay_of_shaped h.1), rep_dp fh r2 (SeqAt.canLay_of_shaped h.2), h.1, h.2, k _ F H (.refl fh) tp (by unfold Rep; rfl)⟩
  · cases e
/-! ### is None -/
def isN : D → Bool
  | .non => true
  | _ => false
theorem rep_isN {F : Hp} {τ : Option Tp} : ∀ {d : D} {v : V}, Rep K F τ d v → decide (v = .non) = isN d
  | .non, v, h => by unfold Rep at h; subst h; rfl
  | .bl b, v, h => by unfold Rep at h; subst h; rfl
  | .int b, v, h => by unfold Rep at h; subst h; rfl
  | .str b, v, h => by unfold Rep at h; subst h; rfl
  | .tup ds, v, h => by unfold Rep at h; obtain ⟨a, vs, rfl, h1, h2⟩ := h; rfl
  | .lst ds, v, h => by unfold Rep at h; obtain ⟨a, vs, rfl, h1, h2⟩ := h; rfl
  | .scr ds, v, h => by unfold Rep at h; obtain ⟨a, rfl, h1⟩ := h; rfl
  | .tape, v, h => by unfold Rep at h; obtain ⟨a, _, rfl⟩ := h; rfl
def oIs : D → D → Option D
  | x, .non => some (.bl (isN x))
  | _, _ => none
def oIsNot : D → D → Option D
  | x, .non => some (.bl (!isN x))
  | _, _ => none
theorem opd_is : OpD K (fun x y H Q => y = .non ∧ Q (.bl (decide (x = .non))) H) oIs := by
  intro F H τ T x y v u z Q fh tp r1 r2 e k
  unfold oIs at e
  split at e
  · cases e
    unfold Rep at r2
    exact ⟨r2, by rw [rep_isN r1]; exact k _ F H (.refl fh) tp (by unfold Rep; rfl)⟩
  · cases e
theorem opd_isnot : OpD K (fun x y H Q => y = .non ∧ Q (.bl (!decide (x = .non))) H) oIsNot := by
  intro F H τ T x y v u z Q fh tp r1 r2 e k
  unfold oIsNot at e
  split at e
  · cases e
    unfold Rep at r2
    exact ⟨r2, by rw [rep_isN r1]; exact k _ F H (.refl fh) tp (by unfold Rep; rfl)⟩
  · cases e
/-! ### in -/
def flatD : D → Bool
  | .non => true
  | .bl _ => true
  | .int _ => true
  | .str _ => true
  | _ => false
def toV : D → V
  | .non => .non
  | .bl b => .bl b
  | .int i => .int i
  | .str s => .str s
  | _ => .non
theorem rep_flat {F : Hp} {τ : Option Tp} {d : D} {v : V} (h : Rep K F τ d v) (f : flatD d = true) : v = toV d ∧ flatV v = true := by
  cases d with
  | non => unfold Rep at h; subst h; exact ⟨rfl, rfl⟩
  | bl b => unfold Rep at h; subst h; exact ⟨rfl, rfl⟩
  | int b => unfold Rep at h; subst h; exact ⟨rfl, rfl⟩
  | str b => unfold Rep at h; subst h; exact ⟨rfl, rfl⟩
  | _ => cases f
theorem reps_flat {F : Hp} {τ : Option Tp} : ∀ {ds : List D} {vs : List V}, Reps K F τ ds vs → ds.all flatD = true → vs = ds.map toV ∧ vs.all flatV = true
  | [], vs, h, _ => by unfold Reps at h; subst h; exact ⟨rfl, rfl⟩
  | d :: ds, vs, h, f => by
    unfold Reps at h
    obtain ⟨v, r, rfl, h1, h2⟩ := h
    rw [List.all_cons, Bool.and_eq_true] at f
    obtain ⟨k1, k2⟩ := rep_flat h1 f.1
    obtain ⟨k3, k4⟩ := reps_flat h2 f.2
    exact ⟨by rw [k1, k3]; rfl, by rw [List.all_cons, k2, k4]; rfl⟩
def seqOf : D → Option (List D)
  | .tup ds => some ds
  | .lst ds => some ds
  | .scr ns => some (ns.map .int)
  | _ => none
theorem rep_seq {F H : Hp} {τ : Option Tp} (fh : Same F H) {d : D} {v : V} {ds : List D} (h : Rep K F τ d v) (e : seqOf d = some ds) : ∃ a vs, v = .ref a ∧ (SqL K H a vs ∨ SqT K H a vs) ∧ Reps K F τ ds vs := by
  unfold seqOf at e
  split at e
  · cases e
    unfold Rep at h
    obtain ⟨a, vs, e1, h1, h2⟩ := h
    exact ⟨a, vs, e1, .inr (sqT_mono fh h1), h2⟩
  · cases e
    unfold Rep at h
    obtain ⟨a, vs, e1, h1, h2⟩ := h
    exact ⟨a, vs, e1, .inl (.inl (.inl (fh _ _ h1))), h2⟩
  · cases e
    unfold Rep at h
    obtain ⟨a, e1, h1⟩ := h
    exact ⟨a, _, e1, .inl (sqL_mono fh h1), Reps.ints⟩
  · cases e
def inD (x : D) (ds : List D) : Bool := inV (toV x) (ds.map toV)
def oIn (neg : Bool) : D → D → Option D := fun x y => (seqOf y).bind fun ds => if flatD x = true ∧ ds.all flatD = true then some (.bl (if neg then !inD x ds else inD x ds)) else none
theorem opd_in {neg : Bool} : OpD K (rIn K neg) (oIn neg) := by
  intro F H τ T x y v u z Q fh tp r1 r2 e k
  unfold oIn at e
  cases es : seqOf y with
  | none => rw [es] at e; cases e
  | some ds =>
    rw [es] at e
    have e : (if flatD x = true ∧ ds.all flatD = true then some (D.bl (if neg then !inD x ds else inD x ds)) else none) = some z := e
    split at e
    · rename_i hf
      cases e
      obtain ⟨a, vs, e1, h1, h2⟩ := rep_seq fh r2 es
      obtain ⟨k1, k2⟩ := rep_flat r1 hf.1
      obtain ⟨k3, k4⟩ := reps_flat h2 hf.2
      refine ⟨a, vs, e1, h1, k2, k4, ?_⟩
      rw [k1, k3]
      exact k _ F H (.refl fh) tp (by unfold Rep; rfl)
    · cases e
/-! ### x[i] -/
def oIx : D → D → Option D := fun x y => (seqOf x).bind fun ds => (asI y).bind fun i => atI ds i
theorem atI_reps {F : Hp} {τ : Option Tp} {ds : List D} {vs : List V} {i : Int} {d : D} (r : Reps K F τ ds vs) (h : atI ds i = some d) : ∃ v, atI vs i = some v ∧ Rep K F τ d v := by
  unfold atI at h ⊢
  rw [r.len]
  cases e : ixN ds.length i with
  | none => rw [e] at h; cases h
  | some j =>
    rw [e] at h
    exact r.at h
def rIxA (K : Kf) : R2 := fun x y H Q => rIxL K x y H Q ∨ rIxT K x y H Q
theorem ix_A {X : Cx} : IxR X (rIxA X.K) := ix_list.or ix_tup
theorem opd_ix : OpD K (rIxA K) oIx := by
  intro F H τ T x y v u z Q fh tp r1 r2 e k
  unfold oIx at e
  cases es : seqOf x with
  | none => rw [es] at e; cases e
  | some ds =>
    rw [es] at e
    have e : ((asI y).bind fun i => atI ds i) = some z := e
    cases ei : asI y with
    | none => rw [ei] at e; cases e
    | some i =>
      rw [ei] at e
      have e : atI ds i = some z := e
      rw [asI_eq ei] at r2
      obtain ⟨a, vs, e1, h1, h2⟩ := rep_seq fh r1 es
      obtain ⟨w, h3, h4⟩ := atI_reps h2 e
      unfold Rep at r2
      rcases h1 with h1 | h1
      · exact .inl ⟨a, vs, i, w, e1, r2, h1, h3, k w F H (.refl fh) tp h4⟩
      · exact .inr ⟨a, vs, i, w, e1, r2, h1, h3, k w F H (.refl fh) tp h4⟩
/-! ### - x, not -/
def oNeg : D → Option D
  | .int i => some (.int (-i))
  | _ => none
theorem und_neg : UnD K (rU fun i => .int (-i)) oNeg := by
  intro F H τ T x v z Q fh tp r1 e k
  unfold oNeg at e
  split at e
  · cases e
    unfold Rep at r1
    exact ⟨_, r1, k _ F H (.refl fh) tp (by unfold Rep; rfl)⟩
  · cases e
end

/-! ### built-ins called -/
section
variable {X : Cx} {W : WX} {a b c : Expr} {f g h : DEnv → Mo D} {pos : Pos} {fa : DEnv → Mo (List D)} {es : List Expr}
def CallD (K : Kf) (r : List V → Hp → VK → Prop) (o : List D → Option D) : Prop := ∀ F H τ T xs vs z (Q : VK), Same F H → TapeOk τ T H → Reps K F τ xs vs → o xs = some z →
  (∀ w F' H', Go F H τ F' H' τ → TapeOk τ T H' → Rep K F' τ z w → Q w H') → r vs H Q
def dB (o : List D → Option D) (fa : DEnv → Mo (List D)) : DEnv → Mo D := fun δ T => (fa δ T).bind fun xs T1 => lift (o xs) T1
theorem cB {K : Kf} {mg : Str → Option Value} {r : List V → Hp → VK → Prop} {o : List D → Option D} (ho : CallD K r o) {σ : L2.St} {H : Hp} {Q : VK} (q : cG K mg W (Rep K) (dB o fa) σ H Q) : tCB r (cG K mg W (Reps K) fa) σ H Q := by
  obtain ⟨F0, H0, τ0, F, τ, T, δ, s, p⟩ := q
  refine cG_bind s p fun xs vs F1 H1 τ1 T1 s1 g1 r1 p1 => ?_
  cases e : o xs with
  | none => rw [e] at p1; exact p1.elim
  | some z =>
    rw [e] at p1
    exact ho F1 H1 τ1 T1 xs vs z Q s1.go.fh s1.tp r1 e fun w F' H' g' t' r' => p1 w F' H' τ1 g' t' r'
theorem de_b {id : String} {r : List V → Hp → VK → Prop} {o : List D → Option D} {x : Str} {p : Pos} {e : Expr} (hc : CallR X (.builtin id) r) (ho : CallD X.K r o) (hm : X.mg x = none) (hv : bootBuiltins x = some (.builtin id)) (ha : DA X W (e :: es) fa) (hg : Gl X x := by rfl) (hn : x ≠ "__name__" := by decide) (hdb : (x == ("__debug__" : Str)) = false := by decide)
    (he : starEach (e :: es) X.env = (false, eval e X.env) :: starEach es X.env := by rfl) (hpl : (backTo pos (starEach es X.env)).any (·.1) = false := by rfl) : DE X W (.Call (.Name x p) (e :: es) [] pos) (dB o fa) := pe_imp (pe_callB hc hg hm hv ha hn hdb he hpl) fun σ H Q q => cB ho q
theorem de_ty {id : String} {r : List V → Hp → VK → Prop} {o : List D → Option D} {x : Str} {p : Pos} {e : Expr} (hc : CallR X (.type id) r) (ho : CallD X.K r o) (hm : X.mg x = none) (hv : bootBuiltins x = some (.type id)) (ha : DA X W (e :: es) fa) (hg : Gl X x := by rfl) (hn : x ≠ "__name__" := by decide) (hdb : (x == ("__debug__" : Str)) = false := by decide)
    (he : starEach (e :: es) X.env = (false, eval e X.env) :: starEach es X.env := by rfl) (hpl : (backTo pos (starEach es X.env)).any (·.1) = false := by rfl) : DE X W (.Call (.Name x p) (e :: es) [] pos) (dB o fa) := pe_imp (pe_callTy hc hg hm hv ha hn hdb he hpl) fun σ H Q q => cB ho q
variable {K : Kf}
def oAbs : List D → Option D
  | [.int i] => some (.int (if i < 0 then -i else i))
  | _ => none
theorem cd_abs : CallD K (fun xs H Q => ∃ i, xs = [.int i] ∧ Q (.int (if i < 0 then -i else i)) H) oAbs := by
  intro F H τ T xs vs z Q fh tp r e k
  unfold oAbs at e
  split at e
  · cases e
    obtain ⟨v, rfl, r1⟩ := reps1 r
    unfold Rep at r1
    exact ⟨_, by rw [r1], k _ F H (.refl fh) tp (by unfold Rep; rfl)⟩
  · cases e
def oInt : List D → Option D
  | [.int i] => some (.int i)
  | [.bl b] => some (.int (if b then 1 else 0))
  | _ => none
theorem cd_int : CallD K (fun xs H Q => (∃ i, xs = [.int i] ∧ Q (.int i) H) ∨ ∃ k, xs = [.bl k] ∧ Q (.int (if k then 1 else 0)) H) oInt := by
  intro F H τ T xs vs z Q fh tp r e k
  unfold oInt at e
  split at e
  · cases e
    obtain ⟨v, rfl, r1⟩ := reps1 r
    unfold Rep at r1
    exact .inl ⟨_, by rw [r1], k _ F H (.refl fh) tp (by unfold Rep; rfl)⟩
  · cases e
    obtain ⟨v, rfl, r1⟩ := reps1 r
    unfold Rep at r1
    exact .inr ⟨_, by rw [r1], k _ F H (.refl fh) tp (by unfold Rep; rfl)⟩
  · cases e
def oMax : List D → Option D
  | [.int i, .int j] => some (.int (if j > i then j else i))
  | _ => none
def oMin : List D → Option D
  | [.int i, .int j] => some (.int (if j < i then j else i))
  | _ => none
theorem cd_max : CallD K (fun xs H Q => ∃ i j, xs = [.int i, .int j] ∧ Q (.int (if j > i then j else i)) H) oMax := by
  intro F H τ T xs vs z Q fh tp r e k
  unfold oMax at e
  split at e
  · cases e
    obtain ⟨v, u, rfl, r1, r2⟩ := reps2 r
    unfold Rep at r1 r2
    exact ⟨_, _, by rw [r1, r2], k _ F H (.refl fh) tp (by unfold Rep; rfl)⟩
  · cases e
theorem cd_min : CallD K (fun xs H Q => ∃ i j, xs = [.int i, .int j] ∧ Q (.int (if j < i then j else i)) H) oMin := by
  intro F H τ T xs vs z Q fh tp r e k
  unfold oMin at e
  split at e
  · cases e
    obtain ⟨v, u, rfl, r1, r2⟩ := reps2 r
    unfold Rep at r1 r2
    exact ⟨_, _, by rw [r1, r2], k _ F H (.refl fh) tp (by unfold Rep; rfl)⟩
  · cases e
def oLen : List D → Option D
  | [x] => (seqOf x).map fun ds => .int (ds.length : Nat)
  | _ => none
theorem cd_len : CallD K (fun xs H Q => ∃ p ys, xs = [.ref p] ∧ (SqL K H p ys ∨ SqT K H p ys) ∧ Q (.int ys.length) H) oLen := by
  intro F H τ T xs vs z Q fh tp r e k
  unfold oLen at e
  split at e
  · rename_i x
    obtain ⟨v, rfl, r1⟩ := reps1 r
    cases es : seqOf x with
    | none => rw [es] at e; cases e
    | some ds =>
      rw [es] at e
      cases e
      obtain ⟨a, vs, e1, h1, h2⟩ := rep_seq fh r1 es
      exact ⟨a, vs, by rw [e1], h1, k _ F H (.refl fh) tp (by unfold Rep; rw [h2.len])⟩
  · cases e
/-- tuple(x) -/
def oTuple : List D → Option D
  | [x] => (seqOf x).map fun ds => .tup ds
  | _ => none
theorem cd_tuple : CallD K (fun xs H Q => ∃ p ys, xs = [.ref p] ∧ ((SqL K H p ys ∧ ∀ l, H l = none → Q (.ref l) (upd H l (.tup ys))) ∨ (SqT K H p ys ∧ Q (.ref p) H))) oTuple := by
  intro F H τ T xs vs z Q fh tp r e k
  unfold oTuple at e
  split at e
  · rename_i x
    obtain ⟨v, rfl, r1⟩ := reps1 r
    have lst : ∀ {a : Addr} {us : List V} {ds : List D}, v = .ref a → SqL K H a us → Reps K F τ ds us → z = .tup ds → ∃ p ys, [v] = [V.ref p] ∧ ((SqL K H p ys ∧ ∀ l, H l = none → Q (.ref l) (upd H l (.tup ys))) ∨ (SqT K H p ys ∧ Q (.ref p) H)) := fun {a us ds} e1 h1 h2 ez => by
      refine ⟨a, us, by rw [e1], .inl ⟨h1, fun l hl => ?_⟩⟩
      have g := Go.new (τ := τ) (o := .tup us) fh hl
      refine k _ _ _ g (tp.upd (tp.off hl)) ?_
      rw [ez]
      unfold Rep
      exact ⟨l, us, rfl, .inl (.inl upd_same), h2.mono g.ff fun _ e => e⟩
    cases x with
    | tup ds =>
      cases e
      have r2 := r1
      unfold Rep at r2
      obtain ⟨a, us, e1, h1, h2⟩ := r2
      exact ⟨a, us, by rw [e1], .inr ⟨sqT_mono fh h1, by rw [← e1]; exact k _ F H (.refl fh) tp r1⟩⟩
    | lst ds =>
      cases e
      unfold Rep at r1
      obtain ⟨a, us, e1, h1, h2⟩ := r1
      exact lst e1 (.inl (.inl (fh _ _ h1))) h2 rfl
    | scr ns =>
      cases e
      unfold Rep at r1
      obtain ⟨a, e1, h1⟩ := r1
      exact lst e1 (sqL_mono fh h1) Reps.ints rfl
    | _ => cases e
  · cases e
/-- sum(xs) -/
def intsOf : List D → Option (List Int)
  | [] => some []
  | .int i :: r => (intsOf r).map (i :: ·)
  | _ :: _ => none
def blsOf : List D → Option (List Bool)
  | [] => some []
  | .bl i :: r => (blsOf r).map (i :: ·)
  | _ :: _ => none
theorem intsOf_eq : ∀ {ds : List D} {ns : List Int}, intsOf ds = some ns → ds = ns.map .int
  | [], ns, h => by cases h; rfl
  | .int i :: r, ns, h => by
    unfold intsOf at h
    cases e : intsOf r with
    | none => rw [e] at h; cases h
    | some ms => rw [e] at h; cases h; rw [intsOf_eq e]; rfl
  | .non :: _, _, h => by cases h
  | .bl _ :: _, _, h => by cases h
  | .str _ :: _, _, h => by cases h
  | .tup _ :: _, _, h => by cases h
  | .lst _ :: _, _, h => by cases h
  | .scr _ :: _, _, h => by cases h
  | .tape :: _, _, h => by cases h
theorem blsOf_eq : ∀ {ds : List D} {ns : List Bool}, blsOf ds = some ns → ds = ns.map .bl
  | [], ns, h => by cases h; rfl
  | .bl i :: r, ns, h => by
    unfold blsOf at h
    cases e : blsOf r with
    | none => rw [e] at h; cases h
    | some ms => rw [e] at h; cases h; rw [blsOf_eq e]; rfl
  | .non :: _, _, h => by cases h
  | .int _ :: _, _, h => by cases h
  | .str _ :: _, _, h => by cases h
  | .tup _ :: _, _, h => by cases h
  | .lst _ :: _, _, h => by cases h
  | .scr _ :: _, _, h => by cases h
  | .tape :: _, _, h => by cases h
def oSum : List D → Option D
  | [x] => (lstOf x).bind fun ds => (intsOf ds).map fun ns => .int ns.sum
  | _ => none
theorem cd_sum : CallD K (rSum K) oSum := by
  intro F H τ T xs vs z Q fh tp r e k
  unfold oSum at e
  split at e
  · rename_i x
    obtain ⟨v, rfl, r1⟩ := reps1 r
    cases es : lstOf x with
    | none => rw [es] at e; cases e
    | some ds =>
      rw [es] at e
      cases ei : intsOf ds with
      | none => simp [ei] at e
      | some ns =>
        simp [ei] at e
        subst e
        obtain ⟨a, us, e1, _, h1, h2⟩ := rep_lst fh r1 es
        rw [intsOf_eq ei] at h2
        rw [h2.of_ints] at h1
        exact ⟨a, ns, by rw [e1], h1, k _ F H (.refl fh) tp (by unfold Rep; rfl)⟩
  · cases e
def oAll : List D → Option D
  | [x] => (lstOf x).bind fun ds => (blsOf ds).map fun ns => .bl (ns.all id)
  | _ => none
def oAny : List D → Option D
  | [x] => (lstOf x).bind fun ds => (blsOf ds).map fun ns => .bl (ns.any id)
  | _ => none
theorem cd_all : CallD K (rAll K) oAll := by
  intro F H τ T xs vs z Q fh tp r e k
  unfold oAll at e
  split at e
  · rename_i x
    obtain ⟨v, rfl, r1⟩ := reps1 r
    cases es : lstOf x with
    | none => rw [es] at e; cases e
    | some ds =>
      rw [es] at e
      cases ei : blsOf ds with
      | none => simp [ei] at e
      | some ns =>
        simp [ei] at e
        subst e
        obtain ⟨a, us, e1, _, h1, h2⟩ := rep_lst fh r1 es
        rw [blsOf_eq ei] at h2
        rw [h2.of_bls] at h1
        exact ⟨a, ns, by rw [e1], h1, k _ F H (.refl fh) tp (by unfold Rep; simp)⟩
  · cases e
theorem cd_any : CallD K (rAny K) oAny := by
  intro F H τ T xs vs z Q fh tp r e k
  unfold oAny at e
  split at e
  · rename_i x
    obtain ⟨v, rfl, r1⟩ := reps1 r
    cases es : lstOf x with
    | none => rw [es] at e; cases e
    | some ds =>
      rw [es] at e
      cases ei : blsOf ds with
      | none => simp [ei] at e
      | some ns =>
        simp [ei] at e
        subst e
        obtain ⟨a, us, e1, _, h1, h2⟩ := rep_lst fh r1 es
        rw [blsOf_eq ei] at h2
        rw [h2.of_bls] at h1
        exact ⟨a, ns, by rw [e1], h1, k _ F H (.refl fh) tp (by unfold Rep; simp)⟩
  · cases e
/-- isinstance(x, T), T a built-in class -/
def isD (T : String) : D → Option Bool
  | .non => kitB "NoneType" T
  | .bl _ => kitB "bool" T
  | .int _ => kitB "int" T
  | .str _ => kitB "str" T
  | .tup _ => kitB "tuple" T
  | .lst _ => kitB "list" T
  | .scr _ => kitB "list" T
  | .tape => none
theorem tyx_tup {H : Hp} {a : Addr} {vs : List V} (h : SqT K H a vs) : TyX K H (.ref a) (.type "tuple") := by
  rcases h with (h | ⟨o, h⟩) | ⟨o, its, n, h1, h2, h3⟩
  · exact .base (.tup h)
  · exact .fTuple h
  · exact .kTuple h1 h2
theorem tyx_lst {H : Hp} {a : Addr} {vs : List V} (h : SqL K H a vs) : TyX K H (.ref a) (.type "list") := by
  rcases h with (h | ⟨o, h⟩) | ⟨o, its, n, h1, h2, h3⟩
  · exact .base (.lst h)
  · exact .base (.frz h)
  · exact .kList h1 h2
def dIsi (T : String) (f : DEnv → Mo D) : DEnv → Mo D := fun δ T1 => (f δ T1).bind fun x T2 => lift ((isD T x).map .bl) T2
theorem de_isi {T : Str} {Ty : String} {p p2 : Pos} (hm : X.mg "isinstance" = none) (ha : DE X W a f) (hmT : X.mg T = none) (hvT : bootBuiltins T = some (.type Ty)) (hg : Gl X "isinstance" := by rfl) (hgT : Gl X T := by rfl) (hnT : T ≠ "__name__" := by decide) (hdT : (T == ("__debug__" : Str)) = false := by decide)
    (he : starEach [a, .Name T p2] X.env = (false, eval a X.env) :: starEach [.Name T p2] X.env := by rfl) (he2 : starEach [.Name T p2] X.env = (false, eval (.Name T p2) X.env) :: starEach [] X.env := by rfl) (hpl : (backTo pos (starEach [.Name T p2] X.env)).any (·.1) = false := by rfl) :
    DE X W (.Call (.Name "isinstance" p) [a, .Name T p2] [] pos) (dIsi Ty f) :=
  pe_imp (pe_callB call_isi hg hm (by decide +kernel) (pa_cons ha (pa_cons (pe_bltn (v := .ty Ty) hgT hmT hvT rfl hnT hdT) pa_nil he2) he) (by decide) (by decide) he hpl) fun σ H Q q => by
    obtain ⟨F0, H0, τ0, F, τ, T', δ, s, p⟩ := q
    refine cG_bind s p fun x v F1 H1 τ1 T1 s1 g1 r1 p1 => ?_
    have fin : ∀ (t : String) (b : Bool), TyX X.K H1 v (.type t) → kitB t Ty = some b → isD Ty x = some b → rIsi X.K [v, .ty Ty] H1 Q := fun t b ty hb hd => by
      refine ⟨v, .ty Ty, .type t, .type Ty, b, rfl, .ty Ty, ty, hb, ?_⟩
      rw [hd] at p1
      exact p1 _ F1 H1 τ1 (.refl s1.go.fh) s1.tp (by unfold Rep; rfl)
    cases e : isD Ty x with
    | none => rw [e] at p1; exact p1.elim
    | some b =>
      cases x with
      | non => unfold Rep at r1; subst r1; exact fin "NoneType" b (.base .non) e e
      | bl y => unfold Rep at r1; subst r1; exact fin "bool" b (.base (.bl y)) e e
      | int y => unfold Rep at r1; subst r1; exact fin "int" b (.base (.int y)) e e
      | str y => unfold Rep at r1; subst r1; exact fin "str" b (.base (.str y)) e e
      | tup ds => unfold Rep at r1; obtain ⟨q, vs, rfl, h1, h2⟩ := r1; exact fin "tuple" b (tyx_tup (sqT_mono s1.go.fh h1)) e e
      | lst ds => unfold Rep at r1; obtain ⟨q, vs, rfl, h1, h2⟩ := r1; exact fin "list" b (.base (.lst (s1.go.fh _ _ h1))) e e
      | scr ds => unfold Rep at r1; obtain ⟨q, rfl, h1⟩ := r1; exact fin "list" b (tyx_lst (sqL_mono s1.go.fh h1)) e e
      | tape => cases e
/-- x.bit_length() -/
def oBits : D → Option D
  | .int i => some (.int (Builtin.Int.intBits i : Nat))
  | _ => none
theorem de_bits {apos : Pos} (ho : DE X W a f) (hbase : attributeBase a "bit_length" X.env (eval a X.env) = eval a X.env := by rfl) (hline : (apos.endLine == pos.line) = true := by rfl) : DE X W (.Call (.Attribute a "bit_length" apos) [] [] pos) (dUn oBits f) :=
  pe_imp (pe_bits ho hbase hline) fun σ H Q q => cun (r := fun x H1 Q => ∃ i, x = .int i ∧ Q (.int (Builtin.Int.intBits i : Nat)) H1) (fun F H τ T x v z Q fh tp r1 e k => by
    unfold oBits at e
    split at e
    · cases e
      unfold Rep at r1
      exact ⟨_, r1, k _ F H (.refl fh) tp (by unfold Rep; rfl)⟩
    · cases e) q
end
end DD

/-! DD7: short words for a printed proof: a def of the text (DefF), its promise kept (OkF), the law's end. -/
namespace DD
open PySem PySem.Spec PyProof.Rows L2
section
variable {P : Program} {w : World} {K : Kf} {mg : Str → Option Value} {base : Heap}
structure DefF (K : Kf) (mg : Str → Option Value) (x : Str) (st : Stmt) (ps : List Str) (f : Addr) (fd : FuncData) : Prop where
  F : Fun K x x st f fd
  b : Binds K fd ps []
  g : mg x = some (.ref f)
/-- a def of the text stands under its name -/
def Def (K : Kf) (mg : Str → Option Value) (x : Str) (st : Stmt) (ps : List Str) : Prop := ∃ f fd, DefF K mg x st ps f fd
/-- the def x keeps the promise of the denotation den -/
def OkF (P : Program) (w : World) (K : Kf) (mg : Str → Option Value) (base : Heap) (x : Str) (ps : List Str) (k n : Nat) (den : List D → Mo D) : Prop :=
  ∃ f fd, mg x = some (.ref f) ∧ PySem.W.keepIn K (.ref f) = true ∧ Binds K fd ps [] ∧ FnOk P w K mg base (L2.CX P w) k f fd ps (SpD K mg n den)
theorem okF {x : Str} {st : Stmt} {N ps : List Str} {n k j : Nat} {g : SD} (T : Def K mg x st ps) (S : FnScope N ps (defScope st)) (hn : ps.length = n) (hk : N.length = n + k)
    (hbody : ∀ (f : Addr) (cdv : Value) (A : Around) (outer : List PySem.Env) (s : Shared) (H : Hp) (E : XK), Room j (BX P w K mg base N x (defScope st) f cdv A outer s H E).A → (BX P w K mg base N x (defScope st) f cdv A outer s H E).A.units + 64 < cLine → Takes (BX P w K mg base N x (defScope st) f cdv A outer s H E) (WF E) →
      PassesOwn (model P w) (BX P w K mg base N x (defScope st) f cdv A outer s H E).A (BX P w K mg base N x (defScope st) f cdv A outer s H E).env (BX P w K mg base N x (defScope st) f cdv A outer s H E).xe →
      DSs (BX P w K mg base N x (defScope st) f cdv A outer s H E) (WF E) (defBody st) g) : OkF P w K mg base x ps (j + 1) n (runD k g) := by
  obtain ⟨f, fd, F⟩ := T
  exact ⟨f, fd, F.g, F.F.kp, F.b, okD F.F S hn hk fun cdv A outer s H E hr hu tk po => hbody f cdv A outer s H E hr hu tk po⟩
/-- a def by its value: den may be replaced by what it is equal to, where it is asked -/
theorem OkF.imp {x : Str} {ps : List Str} {k n : Nat} {den den' : List D → Mo D} (h : OkF P w K mg base x ps k n den) (e : ∀ ds T, ds.length = n → den' ds T ≠ .stuck → den ds T = den' ds T) : OkF P w K mg base x ps k n den' := by
  obtain ⟨f, fd, h1, h2, h3, h4⟩ := h
  refine ⟨f, fd, h1, h2, h3, h4.imp fun vs H Q E q => ?_⟩
  obtain ⟨F, τ, T, ds, q1, q2, q3, q4, q5, q6⟩ := q
  refine ⟨F, τ, T, ds, q1, q2, q3, q4, q5, ?_⟩
  by_cases z : den' ds T = .stuck
  · rw [z] at q6; exact q6.elim
  · rw [e ds T q5 z]; exact q6
/-- the same by less room -/
theorem OkF.mono {x : Str} {ps : List Str} {k k' n : Nat} {den : List D → Mo D} (h : OkF P w K mg base x ps k n den) (e : k ≤ k') : OkF P w K mg base x ps k' n den := by
  obtain ⟨f, fd, h1, h2, h3, h4⟩ := h
  exact ⟨f, fd, h1, h2, h3, h4.mono e⟩
end
section
variable {X : Cx} {W : WX} {a b c : Expr} {f g : DEnv → Mo D} {pos : Pos} {fa : DEnv → Mo (List D)} {es : List Expr}
theorem de_f {k n j : Nat} {ps : List Str} {den : List D → Mo D} {x : Str} {p : Pos} {e : Expr} (tk : Takes X W) (G : OkF X.prog X.w X.K X.mg X.base x ps k n den) (hr : Room j X.A)
    (ha : DA X W (e :: es) fa) (hj : k ≤ j := by decide) (hg : Gl X x := by rfl) (hdb : (x == ("__debug__" : Str)) = false := by decide) (he : starEach (e :: es) X.env = (false, eval e X.env) :: starEach es X.env := by rfl) (hpl : (backTo pos (starEach es X.env)).any (·.1) = false := by rfl) :
    DE X W (.Call (.Name x p) (e :: es) [] pos) (dCall n den fa) := by
  obtain ⟨f, fd, h1, h2, h3, h4⟩ := G
  exact de_call tk h4 (hr.mono hj) h1 h2 h3 ha hg hdb he hpl
/-- a class of errors stands under its name -/
def Xcs (K : Kf) (mg : Str → Option Value) (x : Str) : Prop := ∃ C, Xc K mg x C
theorem ds_raise' {x : Str} {p pos' : Pos} (hc : X.calm = true) (tk : Takes X W) (T : Xcs X.K X.mg x) (hg : Gl X x := by rfl) (hdb : (x == ("__debug__" : Str)) = false := by decide) : DS X W (.Raise (some (.Call (.Name x p) [] [] pos)) none pos') (sRaise x) := by
  obtain ⟨C, T⟩ := T
  exact ds_raise hc tk T hg hdb
/-- what an except clause takes: rows (class raised, whether) -/
def SubIs (K : Kf) (mg : Str → Option Value) (x : Str) (rows : List (Str × Bool)) : Prop := ∃ c, mg x = some c ∧ ∀ p ∈ rows, ∃ C, mg p.1 = some (.ref C) ∧ PySem.W.exmOne K (.ref C) c = some p.2
def subOf (rows : List (Str × Bool)) : Str → Option Bool := fun y => rows.lookup y
theorem lookup_mem {rows : List (Str × Bool)} {y : Str} {b : Bool} (h : rows.lookup y = some b) : (y, b) ∈ rows := by
  induction rows with
  | nil => cases h
  | cons p r ih =>
    obtain ⟨z, c⟩ := p
    rw [List.lookup_cons] at h
    split at h
    · rename_i e
      cases h
      rw [beq_iff_eq] at e
      rw [e]; exact List.mem_cons_self
    · exact List.mem_cons_of_mem _ (ih h)
theorem subOk {x : Str} {rows : List (Str × Bool)} (h : SubIs X.K X.mg x rows) (hg : Gl X x := by rfl) (hdb : (x == ("__debug__" : Str)) = false := by decide) : ∃ c, SubOk X x c (subOf rows) := by
  obtain ⟨c, h1, h2⟩ := h
  refine ⟨c, ⟨hg, hdb, .inl h1⟩, fun y C b e1 e2 => ?_⟩
  obtain ⟨C', e3, e4⟩ := h2 _ (lookup_mem e2)
  rw [e1] at e3
  cases e3
  exact e4
/-- try: .. except x: .., one clause -/
theorem ds_try1 {body : List Stmt} {x : Str} {rows : List (Str × Bool)} {g1 g2 : SD} {b₀ : Stmt} {suite : List Stmt} {np pos' : Pos} (hs : X.stack = X.env :: X.outer) (hf : X.env.frame = some X.env.locals) (tk : Takes X W) (T : SubIs X.K X.mg x rows)
    (hb : ∀ (W' : WX) (pn : List (Addr × Obj)) (xe : Value → Shared → Prop), Takes (X.tr pn xe) W' → PassesOwn (model X.prog X.w) X.A X.env xe → DSs (X.tr pn xe) W' body g1)
    (hsu : ∀ (a : Addr) (oe : Obj) (cls : Value) (d : Option Addr) (pn : List (Addr × Obj)), Zc cls d oe → (∃ vs, oe.data = .fields vs) → DSs (X.suite a ((a, oe) :: pn)) W0 (b₀ :: suite) g2) (hg : Gl X x := by rfl) (hdb : (x == ("__debug__" : Str)) = false := by decide) :
    DS X W (.Try body [.ExceptHandler (some (.Name x np)) none (b₀ :: suite) pos'] [] [] pos) (sTry g1 [(x, subOf rows, g2)]) := by
  obtain ⟨c, hc⟩ := subOk T hg hdb
  exact ds_try hs hf tk hb (.cons hc hsu .nil)
/-- a module's int -/
def GInt (mg : Str → Option Value) (x : Str) (i : Int) : Prop := ∃ t, mg x = some (.int i t)
theorem de_gint {x : Str} {i : Int} (T : GInt X.mg x i) (hg : Gl X x := by rfl) (hd : (x == ("__debug__" : Str)) = false := by decide) : DE X W (.Name x pos) (dC (.int i)) := by
  obtain ⟨t, e⟩ := T
  exact de_glob hg e (v := .int i) ⟨t, rfl⟩ (fun _ _ => by unfold Rep; rfl) hd
end
/-! ### the law's end -/
def spLaw (K : Kf) : Sp := fun vs H Q _ => ∃ (a : Addr) (ns : List Int), vs = [.ref a] ∧ SqL K H a (ns.map V.int) ∧ ns.length ≤ 63 ∧ ∀ H', Q (.bl true) H'
theorem cx_false {P : Program} {w : World} {outer : List PySem.Env} {H : Hp} {s : Shared} {e : Value} {s' : Shared} (h : L2.CX P w outer H s (fun _ _ _ => False) e s') : False := by
  obtain ⟨_, _, _, _, _, _, _, _, _, _, _, _, z⟩ := h
  exact z
theorem law_ok {P : Program} {w : World} {K : Kf} {mg : Str → Option Value} {base : Heap} {k : Nat} {f : Addr} {fd : FuncData} {ps : List Str} {den : List D → Mo D} (F : FnOk P w K mg base (L2.CX P w) k f fd ps (SpD K mg 1 den))
    (h : ∀ ns : List Int, ns.length ≤ 63 → ∃ T, den [.scr ns] none = .ok (.bl true) T) : FnOk P w K mg base (L2.CX P w) k f fd ps (spLaw K) := F.imp fun vs H Q E q => by
  obtain ⟨a, ns, rfl, h1, h2, h3⟩ := q
  obtain ⟨T, e⟩ := h ns h2
  refine ⟨H, none, none, [.scr ns], fun _ _ h => h, (fun _ z => by cases z), trivial, .one (by unfold Rep; exact ⟨a, rfl, h1⟩), rfl, ?_⟩
  rw [e]
  intro v F' H' τ' g t r
  unfold Rep at r
  rw [r]
  exact h3 H'
theorem law_walk {l : PySem.W.OpenLaw} {k : Nat} {q : Program} {loose : List Str} {XP : (Str → Option Value) → Heap → Prop} {YP : World → Heap → Prop} {d : DefRec} {K : Params → PySem.W.Frag} {x : Str}
    (hn : l.most = some 63) (hdf : d.params.defaults = []) (hr : Room k callerA) (hY : ∀ (w : World) (h : Heap), YP w h → (K w.params).In h)
    (F : ∀ (w : World) (mg : Str → Option Value) (fa : Addr) (h : Heap), (K w.params).In h → h.Ns mainGlobals mg → mg d.name = some (.ref fa) →
      ∃ fd : FuncData, (∀ (s : Shared) (u : Value), BindsTo s fd ⟨[u], []⟩ [(x, u)]) ∧
        ∀ base : Heap, (K w.params).In base → base.Ns mainGlobals mg → FnOk l.prog w (K w.params) mg base (L2.CX l.prog w) k fa fd [x] (spLaw (K w.params))) :
    PySem.W.WalkO q loose XP YP l.row.toRowW d [] (fun f vs => PySem.call f vs) :=
  L2.walk_of (n := 63) (k := k) (x := x) (CX := fun w => L2.CX l.prog w) (sp := fun w => spLaw (K w.params)) hn (by decide) hdf hr hY F (fun w H a ns hl _ hS => ⟨a, ns, rfl, hS, hl, fun _ => rfl⟩) fun w H s e s' z => cx_false z
end DD
namespace DD
open PySem PySem.Spec PyProof.Rows L2
theorem exm_of {K : PySem.W.Frag} {y x : Addr} {b : Bool} (h1 : PySem.W.subIn K (.ref x) (.type "BaseException") = some true) (h2 : PySem.W.isClsIn K x = true) (h3 : PySem.W.typeIn K (.ref x) = some (.type "type")) (h4 : PySem.W.subIn K (.ref y) (.ref x) = some b) :
    PySem.W.exmOne K (.ref y) (.ref x) = some b := by
  have e1 : (PySem.W.subIn K (.ref x) (.type "BaseException") == some true) = true := by rw [h1] <;> rfl
  have e2 : ((PySem.W.clsIn K x).isSome && PySem.W.typeIn K (.ref x) == some (.type "type")) = true := by
    have h2' : (PySem.W.clsIn K x).isSome = true := h2
    rw [h2', h3] <;> rfl
  show (if (PySem.W.subIn K (.ref x) (.type "BaseException") == some true) = true then (if ((PySem.W.clsIn K x).isSome && PySem.W.typeIn K (.ref x) == some (.type "type")) = true then PySem.W.subIn K (.ref y) (.ref x) else none) else none) = some b
  rw [if_pos e1, if_pos e2]
  exact h4
end DD

/-! DD8: how a denotation is reckoned: the applied forms, for simp. -/
namespace DD
open PySem PySem.Spec PyProof.Rows L2
section
variable {α β : Type} {δ : DEnv} {T : Option Tape} {f g h : DEnv → Mo D} {fa : DEnv → Mo (List D)} {t u : DEnv → Mo Bool} {g1 g2 b : SD}
@[simp] theorem Out.bind_ok (a : α) (k : α → Mo β) : (Out.ok a T).bind k = k a T := id rfl
@[simp] theorem Out.bind_exc (e : Exn) (k : α → Mo β) : (Out.exc e T : Out α).bind k = .exc e T := id rfl
@[simp] theorem Out.bind_stuck (k : α → Mo β) : (Out.stuck : Out α).bind k = .stuck := id rfl
@[simp] theorem Out.st_ok (a : α) (k : α → Option Tape → OS) : (Out.ok a T).st δ k = k a T := id rfl
@[simp] theorem Out.st_exc (e : Exn) (k : α → Option Tape → OS) : (Out.exc e T : Out α).st δ k = .exc e δ T := id rfl
@[simp] theorem Out.st_stuck (k : α → Option Tape → OS) : (Out.stuck : Out α).st δ k = .stuck := id rfl
@[simp] theorem lift_some (a : α) : lift (some a) T = .ok a T := id rfl
@[simp] theorem lift_none : (lift none T : Out α) = .stuck := id rfl
@[simp] theorem dC_a (d : D) : dC d δ T = .ok d T := id rfl
@[simp] theorem dV_a (i : Nat) : dV i δ T = lift (slotD δ i) T := id rfl
@[simp] theorem slotD_zero (d : D) (r : DEnv) : slotD (Sl.val d :: r) 0 = some d := id rfl
@[simp] theorem slotD_un (r : DEnv) : slotD (Sl.un :: r) 0 = none := id rfl
@[simp] theorem slotD_own (ds : List D) (r : DEnv) : slotD (Sl.own ds :: r) 0 = none := id rfl
@[simp] theorem slotD_succ (i : Nat) (x : Sl) (r : DEnv) : slotD (x :: r) (i + 1) = slotD r i := id rfl
@[simp] theorem asB_bl (b : Bool) : asB (.bl b) = some b := id rfl
@[simp] theorem asI_int (b : Int) : asI (.int b) = some b := id rfl
@[simp] theorem tupOf_tup (ds : List D) : tupOf (.tup ds) = some ds := id rfl
@[simp] theorem lstOf_lst (ds : List D) : lstOf (.lst ds) = some ds := id rfl
@[simp] theorem lstOf_scr (ns : List Int) : lstOf (.scr ns) = some (ns.map .int) := id rfl
@[simp] theorem bindQ_ok (a : α) (k : α → Mo β) : (Out.ok a T).bindQ k = k a T := id rfl
@[simp] theorem bindQ_exc (e : Exn) (k : α → Mo β) : (Out.exc e T : Out α).bindQ k = .stuck := id rfl
@[simp] theorem bindQ_stuck (k : α → Mo β) : (Out.stuck : Out α).bindQ k = .stuck := id rfl
@[simp] theorem seq_nx (k : SD) : (OS.nx δ T).seq k = k δ T := id rfl
@[simp] theorem seq_ret (d : D) (k : SD) : (OS.ret d T).seq k = .ret d T := id rfl
@[simp] theorem seq_bk (k : SD) : (OS.bk δ T).seq k = .bk δ T := id rfl
@[simp] theorem seq_ct (k : SD) : (OS.ct δ T).seq k = .ct δ T := id rfl
@[simp] theorem seq_exc (e : Exn) (k : SD) : (OS.exc e δ T).seq k = .exc e δ T := id rfl
@[simp] theorem seq_stuck (k : SD) : OS.stuck.seq k = .stuck := id rfl
@[simp] theorem turn_nx (k : SD) : (OS.nx δ T).turn k = k δ T := id rfl
@[simp] theorem turn_ret (d : D) (k : SD) : (OS.ret d T).turn k = .ret d T := id rfl
@[simp] theorem turn_bk (k : SD) : (OS.bk δ T).turn k = .nx δ T := id rfl
@[simp] theorem turn_ct (k : SD) : (OS.ct δ T).turn k = k δ T := id rfl
@[simp] theorem turn_exc (e : Exn) (k : SD) : (OS.exc e δ T).turn k = .exc e δ T := id rfl
@[simp] theorem turn_stuck (k : SD) : OS.stuck.turn k = .stuck := id rfl
@[simp] theorem out_nx : (OS.nx δ T).out = .ok .non T := id rfl
@[simp] theorem out_ret (d : D) : (OS.ret d T).out = .ok d T := id rfl
@[simp] theorem out_exc (e : Exn) : (OS.exc e δ T).out = .exc e T := id rfl
@[simp] theorem out_stuck : OS.stuck.out = .stuck := id rfl
@[simp] theorem catch_nx (k : Exn → SD) : (OS.nx δ T).catch k = .nx δ T := id rfl
@[simp] theorem catch_ret (d : D) (k : Exn → SD) : (OS.ret d T).catch k = .ret d T := id rfl
@[simp] theorem catch_bk (k : Exn → SD) : (OS.bk δ T).catch k = .bk δ T := id rfl
@[simp] theorem catch_ct (k : Exn → SD) : (OS.ct δ T).catch k = .ct δ T := id rfl
@[simp] theorem catch_exc (e : Exn) (k : Exn → SD) : (OS.exc e δ T).catch k = k e δ T := id rfl
@[simp] theorem catch_stuck (k : Exn → SD) : OS.stuck.catch k = .stuck := id rfl
@[simp] theorem quiet_a : quiet g1 δ T = (g1 δ T).quiet := id rfl
@[simp] theorem quiet_nx : (OS.nx δ T).quiet = .nx δ T := id rfl
@[simp] theorem quiet_ret (d : D) : (OS.ret d T).quiet = .ret d T := id rfl
@[simp] theorem quiet_bk : (OS.bk δ T).quiet = .bk δ T := id rfl
@[simp] theorem quiet_ct : (OS.ct δ T).quiet = .ct δ T := id rfl
@[simp] theorem quiet_exc (e : Exn) : (OS.exc e δ T).quiet = .stuck := id rfl
@[simp] theorem handle_nil (e : Exn) : handle e [] δ T = .exc e δ T := id rfl
@[simp] theorem handle_cons (e : Exn) (x : Str) (sub : Str → Option Bool) (r : List Hd) : handle e ((x, sub, g1) :: r) δ T = (sub e.cls).elim .stuck fun b => if b = true then quiet g1 δ T else handle e r δ T := id rfl
@[simp] theorem ltI_b (i j : Int) : ltI i j = decide (i < j) := ltI_eq i j
@[simp] theorem leI_b (i j : Int) : leI i j = decide (i ≤ j) := leI_eq i j
@[simp] theorem dBin_a (o : D → D → Option D) : dBin o f g δ T = (f δ T).bind fun x T1 => (g δ T1).bind fun y T2 => lift (o x y) T2 := id rfl
@[simp] theorem dUn_a (o : D → Option D) : dUn o f δ T = (f δ T).bind fun x T1 => lift (o x) T1 := id rfl
@[simp] theorem dTv_a : dTv f δ T = (f δ T).bind fun x T1 => lift (asB x) T1 := id rfl
@[simp] theorem dAnd_a : dAnd t u δ T = (t δ T).bind fun b T1 => if b = true then u δ T1 else .ok false T1 := id rfl
@[simp] theorem dOr_a : dOr t u δ T = (t δ T).bind fun b T1 => if b = true then .ok true T1 else u δ T1 := id rfl
@[simp] theorem dNot_a : dNot t δ T = (t δ T).bind fun b T1 => .ok (!b) T1 := id rfl
@[simp] theorem dAndV_a : dAndV f g δ T = (f δ T).bind fun x T1 => (lift (asB x) T1).bind fun b T2 => if b = true then g δ T2 else .ok (.bl false) T2 := id rfl
@[simp] theorem dOrV_a : dOrV f g δ T = (f δ T).bind fun x T1 => (lift (asB x) T1).bind fun b T2 => if b = true then .ok (.bl true) T2 else g δ T2 := id rfl
@[simp] theorem dNotV_a : dNotV f δ T = (f δ T).bind fun x T1 => lift ((asB x).map fun b => .bl (!b)) T1 := id rfl
@[simp] theorem dIf_a : dIf t f g δ T = (t δ T).bind fun b T1 => if b = true then f δ T1 else g δ T1 := id rfl
@[simp] theorem aN_a : aN δ T = .ok [] T := id rfl
@[simp] theorem aC_a : aC f fa δ T = (f δ T).bind fun x T1 => (fa δ T1).bind fun xs T2 => .ok (x :: xs) T2 := id rfl
@[simp] theorem dTup_a : dTup fa δ T = (fa δ T).bind fun xs T1 => if xs.length < line then .ok (.tup xs) T1 else .stuck := id rfl
@[simp] theorem lLst_a : lLst fa δ T = (fa δ T).bind fun xs T1 => if xs.length < line then .ok xs T1 else .stuck := id rfl
@[simp] theorem dL_a : dL fa δ T = (fa δ T).bind fun xs T1 => .ok (.lst xs) T1 := id rfl
@[simp] theorem dCall_a (n : Nat) (den : List D → Mo D) : dCall n den fa δ T = (fa δ T).bind fun ds T1 => if ds.length = n then den ds T1 else .stuck := id rfl
@[simp] theorem dB_a (o : List D → Option D) : dB o fa δ T = (fa δ T).bind fun xs T1 => lift (o xs) T1 := id rfl
@[simp] theorem dIsi_a (Ty : String) : dIsi Ty f δ T = (f δ T).bind fun x T2 => lift ((isD Ty x).map .bl) T2 := id rfl
/-! statements -/
@[simp] theorem sSeq_a : sSeq g1 g2 δ T = (g1 δ T).seq g2 := id rfl
@[simp] theorem sNext_a : sNext δ T = .nx δ T := id rfl
@[simp] theorem sBreak_a : sBreak δ T = .bk δ T := id rfl
@[simp] theorem sCont_a : sCont δ T = .ct δ T := id rfl
@[simp] theorem sDrop_a : sDrop f δ T = (f δ T).st δ fun _ T1 => .nx δ T1 := id rfl
@[simp] theorem sRet_a : sRet f δ T = (f δ T).st δ fun d T1 => .ret d T1 := id rfl
@[simp] theorem sRetN_a : sRetN δ T = .ret .non T := id rfl
@[simp] theorem sIf_a : sIf t g1 g2 δ T = (t δ T).st δ fun b T1 => if b = true then g1 δ T1 else g2 δ T1 := id rfl
@[simp] theorem sSet_a (i : Nat) : sSet i f δ T = (f δ T).st δ fun d T1 => .nx (δ.set i (.val d)) T1 := id rfl
@[simp] theorem sSetL_a (i : Nat) : sSetL i fa δ T = (fa δ T).st δ fun ds T1 => .nx (δ.set i (.own ds)) T1 := id rfl
@[simp] theorem sAsg_a (tg : TgD) : sAsg tg f δ T = (f δ T).st δ fun d T1 => (tg d δ).elim .stuck fun δ' => .nx δ' T1 := id rfl
@[simp] theorem sPar_a (i j : Nat) : sPar i j f g δ T = (f δ T).st δ fun d T1 => (g δ T1).st δ fun e T2 => .nx ((δ.set i (.val d)).set j (.val e)) T2 := id rfl
@[simp] theorem sPar3_a (i j l : Nat) : sPar3 i j l f g h δ T = (f δ T).st δ fun d T1 => (g δ T1).st δ fun e T2 => (h δ T2).st δ fun m T3 => .nx (((δ.set i (.val d)).set j (.val e)).set l (.val m)) T3 := id rfl
@[simp] theorem sAug_a (i : Nat) (o : D → D → Option D) : sAug i o f δ T = (slotD δ i).elim .stuck fun x => (f δ T).st δ fun y T1 => (o x y).elim .stuck fun z => .nx (δ.set i (.val z)) T1 := id rfl
@[simp] theorem sFor_a (fi : DEnv → Mo (List D)) (tg : TgD) : sFor fi tg b δ T = (fi δ T).st δ fun ds T1 => forD tg b ds δ T1 := id rfl
@[simp] theorem sRaise_a (x : Str) : sRaise x δ T = .exc ⟨x, none⟩ δ T := id rfl
@[simp] theorem sTry_a (l : List Hd) : sTry g1 l δ T = (g1 δ T).catch fun e => handle e l := id rfl
@[simp] theorem tgN_a (i : Nat) (d : D) : tgN i d δ = some (δ.set i (.val d)) := id rfl
@[simp] theorem tgNil_a : tgNil [] δ = some δ := id rfl
@[simp] theorem tgCons_a (t : TgD) (u : TgsD) (d : D) (r : List D) : tgCons t u (d :: r) δ = (t d δ).bind fun δ' => u r δ' := id rfl
@[simp] theorem tgT_a (n : Nat) (t : TgsD) (ds : List D) : tgT n t (.tup ds) δ = if ds.length = n then t ds δ else none := id rfl
@[simp] theorem iSeq_a : iSeq f δ T = (f δ T).bind fun x T1 => lift (tupOf x) T1 := id rfl
@[simp] theorem iLst_a : iLst f δ T = (f δ T).bind fun x T1 => lift (lstOf x) T1 := id rfl
@[simp] theorem iR1_a : iR1 fa δ T = (fa δ T).bind fun ds T1 => lift (rng1 ds) T1 := id rfl
@[simp] theorem iR2_a : iR2 fa δ T = (fa δ T).bind fun ds T1 => lift (rng2 ds) T1 := id rfl
theorem rng1_i (j : Int) : rng1 [.int j] = if rOk j = true then some (rng 0 1 j.toNat) else none := id rfl
theorem rng2_i (i j : Int) : rng2 [.int i, .int j] = if rOk i = true ∧ rOk j = true then some (rng i 1 (j - i).toNat) else none := id rfl
theorem rng1_ok {j : Int} (h : rOk j = true) : rng1 [.int j] = some (rng 0 1 j.toNat) := if_pos h
theorem rng2_ok {i j : Int} (h : rOk i = true) (h' : rOk j = true) : rng2 [.int i, .int j] = some (rng i 1 (j - i).toNat) := if_pos ⟨h, h'⟩
/-! operations -/
@[simp] theorem oAdd_i (i j : Int) : oAdd (.int i) (.int j) = some (.int (i + j)) := id rfl
@[simp] theorem oI0_i (p : Int → Int → D) (i j : Int) : oI0 p (.int i) (.int j) = some (p i j) := id rfl
theorem oI_i (C : Int → Int → Bool) (p : Int → Int → D) (i j : Int) : oI C p (.int i) (.int j) = if C i j = true then some (p i j) else none := id rfl
theorem oI_ok {C : Int → Int → Bool} {p : Int → Int → D} {i j : Int} (h : C i j = true) : oI C p (.int i) (.int j) = some (p i j) := if_pos h
theorem oMul_r {i j : Int} (h1 : -(2 ^ 64) < j) (h2 : j < 2 ^ 64) : oMul (.int i) (.int j) = some (.int (i * j)) := oI_ok (by unfold cMul; rw [Bool.or_eq_true, Nat.blt_eq, Nat.blt_eq]; omega)
theorem oMul_l {i j : Int} (h1 : -(2 ^ 64) < i) (h2 : i < 2 ^ 64) : oMul (.int i) (.int j) = some (.int (i * j)) := oI_ok (by unfold cMul; rw [Bool.or_eq_true, Nat.blt_eq, Nat.blt_eq]; omega)
theorem oDiv_i {i j : Int} (h1 : 0 < j) (h2 : j < 2 ^ 256) : oDiv (.int i) (.int j) = some (.int (i / j)) := oI_ok (by unfold cDiv; rw [Bool.and_eq_true, posI_eq, Nat.blt_eq]; omega)
theorem oMod_i {i j : Int} (h1 : 0 < j) : oMod (.int i) (.int j) = some (.int (i % j)) := oI_ok (posI_eq.mpr h1)
theorem oShr_i {i j : Int} (h1 : 0 ≤ j) : oShr (.int i) (.int j) = some (.int (i / 2 ^ j.toNat)) := oI_ok (nnI_eq.mpr h1)
@[simp] theorem oShr_1 (i : Int) : oShr (.int i) (.int 1) = some (.int (i / 2)) := id rfl
theorem oAnd_1 (i : Int) : oAnd (.int i) (.int 1) = some (.int (i % 2)) := by
  show some (D.int (Builtin.bitAnd i 1)) = _
  rw [bitAnd_m1]
@[simp] theorem oNeg_i (i : Int) : oNeg (.int i) = some (.int (-i)) := id rfl
@[simp] theorem oEq_i (i j : Int) : oEq (.int i) (.int j) = some (.bl (decide (i = j))) := by
  have : oEq (.int i) (.int j) = some (.bl (i == j)) := id rfl
  rw [this, Bool.beq_eq_decide_eq]
@[simp] theorem oNe_i (i j : Int) : oNe (.int i) (.int j) = some (.bl (!decide (i = j))) := by
  have : oNe (.int i) (.int j) = some (.bl (!(i == j))) := id rfl
  rw [this, Bool.beq_eq_decide_eq]
@[simp] theorem oIs_n (x : D) : oIs x .non = some (.bl (isN x)) := id rfl
@[simp] theorem oIsNot_n (x : D) : oIsNot x .non = some (.bl (!isN x)) := id rfl
@[simp] theorem isN_non : isN .non = true := id rfl
@[simp] theorem isN_int (i : Int) : isN (.int i) = false := id rfl
@[simp] theorem isN_bl (i : Bool) : isN (.bl i) = false := id rfl
@[simp] theorem isN_str (i : Str) : isN (.str i) = false := id rfl
@[simp] theorem isN_tup (i : List D) : isN (.tup i) = false := id rfl
@[simp] theorem isN_lst (i : List D) : isN (.lst i) = false := id rfl
@[simp] theorem oInt_i (i : Int) : oInt [.int i] = some (.int i) := id rfl
@[simp] theorem oAbs_i (i : Int) : oAbs [.int i] = some (.int (if i < 0 then -i else i)) := id rfl
@[simp] theorem oMax_i (i j : Int) : oMax [.int i, .int j] = some (.int (if j > i then j else i)) := id rfl
@[simp] theorem oMin_i (i j : Int) : oMin [.int i, .int j] = some (.int (if j < i then j else i)) := id rfl
@[simp] theorem oLen_x (x : D) : oLen [x] = (seqOf x).map fun ds => .int (ds.length : Nat) := id rfl
@[simp] theorem seqOf_t (ds : List D) : seqOf (.tup ds) = some ds := id rfl
@[simp] theorem seqOf_l (ds : List D) : seqOf (.lst ds) = some ds := id rfl
@[simp] theorem seqOf_s (ns : List Int) : seqOf (.scr ns) = some (ns.map .int) := id rfl
@[simp] theorem oIx_s (x : D) (i : Int) : oIx x (.int i) = (seqOf x).bind fun ds => atI ds i := id rfl
@[simp] theorem oBits_i (i : Int) : oBits (.int i) = some (.int (Builtin.Int.intBits i : Nat)) := id rfl
@[simp] theorem isD_int_int (i : Int) : isD "int" (.int i) = some true := (show kitB "int" "int" = some true by decide +kernel)
@[simp] theorem isD_bool_int (i : Int) : isD "bool" (.int i) = some false := (show kitB "int" "bool" = some false by decide +kernel)
@[simp] theorem isD_int_bl (i : Bool) : isD "int" (.bl i) = some true := (show kitB "bool" "int" = some true by decide +kernel)
@[simp] theorem isD_bool_bl (i : Bool) : isD "bool" (.bl i) = some true := (show kitB "bool" "bool" = some true by decide +kernel)
@[simp] theorem isD_int_non : isD "int" .non = some false := (show kitB "NoneType" "int" = some false by decide +kernel)
@[simp] theorem isD_bool_non : isD "bool" .non = some false := (show kitB "NoneType" "bool" = some false by decide +kernel)
@[simp] theorem isD_int_str (i : Str) : isD "int" (.str i) = some false := (show kitB "str" "int" = some false by decide +kernel)
@[simp] theorem isD_bool_str (i : Str) : isD "bool" (.str i) = some false := (show kitB "str" "bool" = some false by decide +kernel)
@[simp] theorem isD_int_tup (i : List D) : isD "int" (.tup i) = some false := (show kitB "tuple" "int" = some false by decide +kernel)
@[simp] theorem isD_bool_tup (i : List D) : isD "bool" (.tup i) = some false := (show kitB "tuple" "bool" = some false by decide +kernel)
@[simp] theorem isD_tuple_tup (i : List D) : isD "tuple" (.tup i) = some true := (show kitB "tuple" "tuple" = some true by decide +kernel)
@[simp] theorem isD_tuple_int (i : Int) : isD "tuple" (.int i) = some false := (show kitB "int" "tuple" = some false by decide +kernel)
@[simp] theorem isD_tuple_non : isD "tuple" .non = some false := (show kitB "NoneType" "tuple" = some false by decide +kernel)
@[simp] theorem isD_tuple_bl (i : Bool) : isD "tuple" (.bl i) = some false := (show kitB "bool" "tuple" = some false by decide +kernel)
@[simp] theorem isD_tuple_str (i : Str) : isD "tuple" (.str i) = some false := (show kitB "str" "tuple" = some false by decide +kernel)
@[simp] theorem isD_str_str (i : Str) : isD "str" (.str i) = some true := (show kitB "str" "str" = some true by decide +kernel)
@[simp] theorem isD_str_int (i : Int) : isD "str" (.int i) = some false := (show kitB "int" "str" = some false by decide +kernel)
theorem rOk_i {i : Int} (h1 : -1000000000000 < i) (h2 : i < 1000000000000) : rOk i = true := by
  unfold rOk
  rw [Nat.blt_eq]
  omega
@[simp] theorem line_pos (n : Nat) (h : n < 1000) : n < line := Nat.lt_trans h (by decide)
theorem runD_a (k : Nat) (ds : List D) : runD k b ds T = (b (ds.map Sl.val ++ List.replicate k Sl.un) T).out := id rfl
/-! loops -/
theorem forD_nil (tg : TgD) : forD tg b [] δ T = .nx δ T := id rfl
theorem forD_cons (tg : TgD) (d : D) (ds : List D) : forD tg b (d :: ds) δ T = (tg d δ).elim .stuck fun δ' => (b δ' T).turn (forD tg b ds) := id rfl
theorem turnW_a (c : DEnv → Mo Bool) (k : SD) : turnW c b k δ T = (c δ T).st δ fun t T1 => if t = true then (b δ T1).turn k else .nx δ T1 := id rfl
theorem sWhile_a (c : DEnv → Mo Bool) : sWhile c b δ T = iterW c b fuel δ T := id rfl
end
/-! ### equal data, decided -/
mutual
def beqD : D → D → Bool
  | .non, .non => true
  | .bl a, .bl b => a == b
  | .int a, .int b => decide (a = b)
  | .str a, .str b => decide (a = b)
  | .tup a, .tup b => beqDs a b
  | .lst a, .lst b => beqDs a b
  | _, _ => false
def beqDs : List D → List D → Bool
  | [], [] => true
  | x :: xs, y :: ys => beqD x y && beqDs xs ys
  | _, _ => false
end
mutual
theorem beqD_eq : ∀ {x y : D}, beqD x y = true → x = y
  | .non, y, h => by cases y <;> first | rfl | (unfold beqD at h; cases h)
  | .bl a, y, h => by
    cases y <;> first | (unfold beqD at h; cases h; done) | skip
    unfold beqD at h
    rw [beq_iff_eq] at h
    rw [h]
  | .int a, y, h => by
    cases y <;> first | (unfold beqD at h; cases h; done) | skip
    unfold beqD at h
    rw [of_decide_eq_true h]
  | .str a, y, h => by
    cases y <;> first | (unfold beqD at h; cases h; done) | skip
    unfold beqD at h
    rw [of_decide_eq_true h]
  | .tup a, y, h => by
    cases y <;> first | (unfold beqD at h; cases h; done) | skip
    unfold beqD at h
    rw [beqDs_eq h]
  | .lst a, y, h => by
    cases y <;> first | (unfold beqD at h; cases h; done) | skip
    unfold beqD at h
    rw [beqDs_eq h]
  | .scr _, y, h => by cases y <;> (unfold beqD at h; cases h)
  | .tape, y, h => by cases y <;> (unfold beqD at h; cases h)
theorem beqDs_eq : ∀ {x y : List D}, beqDs x y = true → x = y
  | [], [], _ => rfl
  | [], _ :: _, h => by unfold beqDs at h; cases h
  | _ :: _, [], h => by unfold beqDs at h; cases h
  | x :: xs, y :: ys, h => by
    unfold beqDs at h
    rw [Bool.and_eq_true] at h
    rw [beqD_eq h.1, beqDs_eq h.2]
end
/-- the outcome is d, no tape -/
def gives (o : Out D) (d : D) : Bool := match o with
  | .ok x none => beqD x d
  | _ => false
theorem gives_eq {o : Out D} {d : D} (h : gives o d = true) : o = .ok d none := by
  unfold gives at h
  split at h
  · rw [beqD_eq h]
  · cases h
end DD

/-! DD9: what many laws share: the script's cells, the mixed number of a cell. -/
namespace DD
open PySem PySem.Spec PyProof.Rows L2
theorem rng_eq (n : Nat) : rng 0 1 n = (List.range n).map fun i => D.int (i : Nat) := by
  unfold rng
  refine List.map_congr_left fun i _ => ?_
  rw [Int.mul_one, Int.zero_add]
def cellB : SD := sSeq (sIf (dTv (dBin (oLt) (dV 1) (dB oLen (aC (dV 0) (aN))))) (sRet (dBin oMod (dB oAbs (aC (dB oInt (aC (dBin oIx (dV 0) (dV 1)) (aN))) (aN))) (dC (.int 1000000007)))) (sNext)) (sRet (dC (.int 0)))
def richB : SD := sSeq (sSet 2 (dBin oMod (dB oInt (aC (dBin oAdd (dBin oAdd (dBin oMul (dV 0) (dC (.int 48271))) (dBin oMul (dV 1) (dC (.int 69621)))) (dC (.int 11))) (aN))) (dC (.int 2147483647)))) (sRet (dBin oAdd (dBin oMul (dV 2) (dC (.int 2147483629))) (dBin oMod (dB oInt (aC (dBin oAdd (dBin oMul (dV 2) (dC (.int 16807))) (dV 0)) (aN))) (dC (.int 2147483629)))))
theorem cell_at (ns : List Int) (k : Nat) (h : k < ns.length) : atI (ns.map D.int) ((k : Nat) : Int) = some (.int ns[k]) := by
  have e : ixN (ns.map D.int).length ((k : Nat) : Int) = some k := by
    unfold ixN
    simp
    omega
  unfold atI
  rw [e]
  show (ns.map D.int)[k]? = _
  rw [List.getElem?_map, List.getElem?_eq_getElem h]
  rfl
theorem cell_den (ns : List Int) (k : Nat) (T : Option Tape) : ∃ c : Nat, c < 1000000007 ∧ runD 0 cellB [.scr ns, .int k] T = .ok (.int c) T := by
  by_cases h : k < ns.length
  · have h' : (k : Int) < ns.length := by omega
    refine ⟨((if ns[k] < 0 then -ns[k] else ns[k]) % 1000000007).toNat, by omega, ?_⟩
    have e : ((((if ns[k] < 0 then -ns[k] else ns[k]) % 1000000007).toNat : Nat) : Int) = (if ns[k] < 0 then -ns[k] else ns[k]) % 1000000007 := by omega
    rw [e]
    simp [runD_a, cellB, h', cell_at ns k h, oMod_i]
  · have h' : ¬ (k : Int) < ns.length := by omega
    exact ⟨0, by decide, by simp [runD_a, cellB, h']⟩
theorem rich_den (c k : Nat) (hc : c < 1000000007) (hk : k < 1000000) (T : Option Tape) : ∃ r : Nat, r < 9223372036854775808 ∧ runD 1 richB [.int c, .int k] T = .ok (.int r) T := by
  refine ⟨(((c : Int) * 48271 + k * 69621 + 11) % 2147483647 * 2147483629 + (((c : Int) * 48271 + k * 69621 + 11) % 2147483647 * 16807 + c) % 2147483629).toNat, by omega, ?_⟩
  have h1 : 0 ≤ ((c : Int) * 48271 + k * 69621 + 11) % 2147483647 * 2147483629 + (((c : Int) * 48271 + k * 69621 + 11) % 2147483647 * 16807 + c) % 2147483629 := by omega
  rw [Int.toNat_of_nonneg h1]
  simp [runD_a, richB, oMod_i, oMul_r]
/-- a test by == on naturals -/
theorem natBeq {a b : Nat} : Nat.beq a b = true ↔ a = b := Nat.beq_eq ▸ Iff.rfl
theorem find_range (P : Nat → Bool) (m : Nat) (h : ∀ y, m ≤ y → P y = false) : ∀ n, m ≤ n → (List.range n).find? P = (List.range m).find? P := by
  intro n hn
  obtain ⟨d, rfl⟩ := Nat.exists_eq_add_of_le hn
  clear hn
  induction d with
  | zero => rfl
  | succ d ih =>
    rw [← Nat.add_assoc, List.range_succ, List.find?_append, ih]
    have e : [m + d].find? P = none := by
      rw [List.find?_cons, h (m + d) (Nat.le_add_right _ _)]
      rfl
    rw [e, Option.or_none]
theorem findSome_range {α : Type} (P : Nat → Option α) (m : Nat) (h : ∀ y, m ≤ y → P y = none) : ∀ n, m ≤ n → (List.range n).findSome? P = (List.range m).findSome? P := by
  intro n hn
  obtain ⟨d, rfl⟩ := Nat.exists_eq_add_of_le hn
  clear hn
  induction d with
  | zero => rfl
  | succ d ih =>
    rw [← Nat.add_assoc, List.range_succ, List.findSome?_append, ih]
    have e : [m + d].findSome? P = none := by
      rw [List.findSome?_cons, h (m + d) (Nat.le_add_right _ _)]
      rfl
    rw [e, Option.or_none]
end DD

/-! DD10: a body's own lists: read for a while as data (bor), changed. -/
namespace DD
open PySem PySem.Spec PyProof.Rows L2
/-! ### data in which no list stands -/
mutual
def noL : D → Bool
  | .non => true
  | .bl _ => true
  | .int _ => true
  | .str _ => true
  | .tup ds => noLs ds
  | .lst _ => false
  | .scr _ => false
  | .tape => true
def noLs : List D → Bool
  | [] => true
  | d :: ds => noL d && noLs ds
end
def delH (F : Hp) (a : Addr) : Hp := fun b => if b = a then none else F b
theorem delH_ne {F : Hp} {a b : Addr} (h : b ≠ a) : delH F a b = F b := if_neg h
theorem delH_self {F : Hp} {a : Addr} : delH F a a = none := if_pos rfl
theorem ne_ofH {F : Hp} {a b : Addr} {o u : HO} (h : F a = some o) (g : F b = some u) (n : o ≠ u) : b ≠ a := fun z => by
  subst z
  rw [h] at g
  cases g
  exact n rfl
section
variable {K : Kf} {F : Hp} {τ : Option Tp} {a : Addr} {ws : List V}
mutual
theorem rep_del (h : F a = some (.lst ws)) : ∀ {d : D} {v : V}, noL d = true → Rep K F τ d v → Rep K (delH F a) τ d v
  | .non, _, _, r => by unfold Rep at r ⊢; exact r
  | .bl _, _, _, r => by unfold Rep at r ⊢; exact r
  | .int _, _, _, r => by unfold Rep at r ⊢; exact r
  | .str _, _, _, r => by unfold Rep at r ⊢; exact r
  | .tup ds, _, n, r => by
    unfold Rep at r ⊢
    unfold noL at n
    obtain ⟨b, vs, e, r1, r2⟩ := r
    refine ⟨b, vs, e, ?_, reps_del h n r2⟩
    rcases r1 with (r1 | ⟨o, r1⟩) | r1
    · exact .inl (.inl (by rw [delH_ne (ne_ofH h r1 (by intro z; cases z))]; exact r1))
    · exact .inl (.inr ⟨o, by rw [delH_ne (ne_ofH h r1 (by intro z; cases z))]; exact r1⟩)
    · exact .inr r1
  | .lst ds, _, n, _ => by unfold noL at n; cases n
  | .scr ds, _, n, _ => by unfold noL at n; cases n
  | .tape, _, _, r => by unfold Rep at r ⊢; exact r
theorem reps_del (h : F a = some (.lst ws)) : ∀ {ds : List D} {vs : List V}, noLs ds = true → Reps K F τ ds vs → Reps K (delH F a) τ ds vs
  | [], _, _, r => by unfold Reps at r ⊢; exact r
  | d :: ds, _, n, r => by
    unfold Reps at r ⊢
    unfold noLs at n
    rw [Bool.and_eq_true] at n
    obtain ⟨v, s, e, r1, r2⟩ := r
    exact ⟨v, s, e, rep_del h n.1 r1, reps_del h n.2 r2⟩
end
end
theorem Go.del {F H F2 H2 : Hp} {τ τ2 : Option Tp} {a : Addr} {vs : List V} (f : F a = none) (g : Go (upd F a (.lst vs)) H τ F2 H2 τ2) : Go F H τ (delH F2 a) H2 τ2 where
  ff := fun b o e => by
    have n : b ≠ a := fun z => by subst z; rw [f] at e; cases e
    rw [delH_ne n]
    exact g.ff _ _ (by rw [upd_ne n]; exact e)
  fh := fun b o e => by
    by_cases n : b = a
    · subst n; rw [delH_self] at e; cases e
    · rw [delH_ne n] at e; exact g.fh _ _ e
  hh := g.hh
  dom := g.dom
  nw := fun b o e => by
    by_cases n : b = a
    · subst n; rw [delH_self] at e; cases e
    · rw [delH_ne n] at e
      rcases g.nw _ _ e with z | z
      · rw [upd_ne n] at z; exact .inl z
      · exact .inr z
  tt := by
    rcases g.tt with q | ⟨q0, t, q, n1, n2, n3, n4, n5, n6⟩
    · exact .inl q
    · refine .inr ⟨q0, t, q, n1, n2, ?_, ?_, n5, n6⟩
      · by_cases n : t.t = a
        · rw [n]; exact delH_self
        · rw [delH_ne n]; exact n3
      · by_cases n : t.c = a
        · rw [n]; exact delH_self
        · rw [delH_ne n]; exact n4
theorem ExR.del {mg : Str → Option Value} {e : Exn} {c : Value} {dd : Option Addr} {F : Hp} {a : Addr} {ws : List V} (h : F a = some (.lst ws)) (x : ExR mg e c dd F) : ExR mg e c dd (delH F a) := by
  obtain ⟨C, h1, h2, h3⟩ := x
  refine ⟨C, h1, h2, ?_⟩
  cases e : e.arg with
  | none => rw [e] at h3; exact h3
  | some p =>
    obtain ⟨x, d⟩ := p
    rw [e] at h3
    obtain ⟨b, v, e1, e2, e3⟩ := h3
    exact ⟨b, v, e1, e2, by rw [delH_ne (ne_ofH h e3 (by intro z; cases z))]; exact e3⟩
def ownL (δ : DEnv) (i : Nat) : Option (List D) := match δ[i]? with
  | some (.own ds) => some ds
  | _ => none
theorem ownL_eq {δ : DEnv} {i : Nat} {ds : List D} (h : ownL δ i = some ds) : δ[i]? = some (.own ds) := by
  unfold ownL at h
  split at h
  · rename_i e; cases h; exact e
  · cases h
section
variable {K : Kf} {F0 H0 F H : Hp} {τ0 τ : Option Tp} {T : Option Tape} {δ : DEnv} {σ : L2.St}
theorem SR.freezeA (s : SR K F0 H0 τ0 F H τ T δ σ) {i : Nat} {ds : List D} (hi : δ[i]? = some (.own ds)) :
    ∃ a vs, σ[i]? = some (some (.ref a)) ∧ H a = some (.lst vs) ∧ Reps K F τ ds vs ∧ F a = none ∧ Off τ a ∧ SR K F0 H0 τ0 (upd F a (.lst vs)) H τ T (δ.set i (.val (.lst ds))) σ := by
  obtain ⟨a, vs, h1, h2, h3, h4, h5, h6⟩ := s.own i ds hi
  have li : i < δ.length := (List.getElem?_eq_some_iff.mp hi).1
  have ff : Same F (upd F a (.lst vs)) := fun b u e => by rw [upd_ne (ne_of_none e h4)]; exact e
  refine ⟨a, vs, h1, h2, h3, h4, h6, ⟨⟨fun b u e => ff _ _ (s.go.ff _ _ e), fun b u e => ?_, s.go.hh, s.go.dom, fun b u e => ?_, ?_⟩, s.tp, fun t e => ?_, by rw [List.length_set]; exact s.len, fun j e h => ?_, fun j fs h => ?_, fun j k fs gs b n k1 k2 k3 => ?_⟩⟩
  · by_cases z : b = a
    · subst z; rw [upd_same] at e; rw [← e]; exact h2
    · rw [upd_ne z] at e; exact s.go.fh _ _ e
  · by_cases z : b = a
    · subst z; exact .inr h5
    · rw [upd_ne z] at e; exact s.go.nw _ _ e
  · rcases s.go.tt with q | ⟨q0, t, q, n1, n2, n3, n4, n5, n6⟩
    · exact .inl q
    · refine .inr ⟨q0, t, q, n1, n2, ?_, ?_, n5, n6⟩
      · rw [upd_ne (Ne.symm (h6 t q).1)]; exact n3
      · rw [upd_ne (Ne.symm (h6 t q).2)]; exact n4
  · obtain ⟨f1, f2⟩ := s.tf t e
    exact ⟨by rw [upd_ne (Ne.symm (h6 t e).1)]; exact f1, by rw [upd_ne (Ne.symm (h6 t e).2)]; exact f2⟩
  · by_cases z : i = j
    · subst z
      rw [List.getElem?_set_self li] at h
      cases h
      refine ⟨.ref a, h1, ?_⟩
      unfold Rep
      exact ⟨a, vs, rfl, upd_same, h3.mono ff fun _ e => e⟩
    · rw [List.getElem?_set_ne z] at h
      obtain ⟨v, k1, k2⟩ := s.val j e h
      exact ⟨v, k1, k2.mono ff fun _ e => e⟩
  · by_cases z : i = j
    · subst z; rw [List.getElem?_set_self li] at h; cases h
    · rw [List.getElem?_set_ne z] at h
      obtain ⟨b, ws, k1, k2, k3, k4, k5, k6⟩ := s.own j fs h
      have nb : b ≠ a := fun q => by
        subst q
        exact s.dis i j ds fs b z hi h h1 k1
      exact ⟨b, ws, k1, k2, k3.mono ff fun _ e => e, by rw [upd_ne nb]; exact k4, k5, k6⟩
  · by_cases z : i = j
    · subst z; rw [List.getElem?_set_self li] at k1; cases k1
    · rw [List.getElem?_set_ne z] at k1
      by_cases z2 : i = k
      · subst z2; rw [List.getElem?_set_self li] at k2; cases k2
      · rw [List.getElem?_set_ne z2] at k2
        exact s.dis j k fs gs b n k1 k2 k3
end
/-! ### an own list read for a while -/
section
variable {α β : Type} {K : Kf} {mg : Str → Option Value} {W : WX} {X : Cx} {a b c : Expr} {pos : Pos} {f g h : DEnv → Mo D} {fa : DEnv → Mo (List D)} {t u : DEnv → Mo Bool}
def lstO : D → Option (List D)
  | .lst ds => some ds
  | _ => none
theorem lstO_eq : ∀ {d : D} {ds : List D}, lstO d = some ds → d = .lst ds
  | .lst _, _, h => by cases h; rfl
  | .non, _, h => by cases h
  | .bl _, _, h => by cases h
  | .int _, _, h => by cases h
  | .str _, _, h => by cases h
  | .tup _, _, h => by cases h
  | .scr _, _, h => by cases h
  | .tape, _, h => by cases h
def chkO (p : Bool) (o : Out α) : Out α := if p = true then o else .stuck
def borG (chk : α → Bool) (i : Nat) (f : DEnv → Mo α) : DEnv → Mo α := fun δ T => (ownL δ i).elim (f δ T) fun ds => (f (δ.set i (.val (.lst ds))) T).bind fun d T1 => chkO (chk d) (.ok d T1)
theorem cbor {R : RelT α β} {chk : α → Bool} (hr : ∀ F τ x v a ws, F a = some (.lst ws) → chk x = true → R F τ x v → R (delH F a) τ x v) {i : Nat} {f : DEnv → Mo α} {σ : L2.St} {H : Hp} {Q : β → Hp → Prop} (q : cG K mg W R (borG chk i f) σ H Q) : cG K mg W R f σ H Q := by
  obtain ⟨F0, H0, τ0, F, τ, T, δ, s, p⟩ := q
  unfold borG at p
  cases eo : ownL δ i with
  | none => rw [eo] at p; exact ⟨F0, H0, τ0, F, τ, T, δ, s, p⟩
  | some ds =>
    rw [eo] at p
    obtain ⟨l, vs, h1, h2, h3, h4, h5, s'⟩ := s.freezeA (ownL_eq eo)
    refine ⟨F0, H0, τ0, _, τ, T, _, s', ?_⟩
    have p : Pst mg W R σ F H τ Q ((f (δ.set i (.val (.lst ds))) T).bind fun d T1 => chkO (chk d) (.ok d T1)) := p
    cases e : f (δ.set i (.val (.lst ds))) T with
    | ok x T1 =>
      rw [e] at p
      intro v F2 H2 τ2 go tp r
      have p : Pst mg W R σ F H τ Q (chkO (chk x) (.ok x T1)) := p
      unfold chkO at p
      split at p
      · rename_i hc
        exact p v _ H2 τ2 (go.del h4) tp (hr _ _ _ _ _ _ (go.ff _ _ upd_same) hc r)
      · exact p.elim
    | exc x T1 =>
      rw [e] at p
      exact fun c dd F2 H2 τ2 go tp ex => p c dd _ H2 τ2 (go.del h4) tp (ex.del (go.ff _ _ upd_same))
    | stuck => rw [e] at p; exact p
abbrev bor : Nat → (DEnv → Mo D) → DEnv → Mo D := borG noL
abbrev borT : Nat → (DEnv → Mo Bool) → DEnv → Mo Bool := borG fun _ => true
abbrev borA : Nat → (DEnv → Mo (List D)) → DEnv → Mo (List D) := borG noLs
theorem de_bor (i : Nat) (h : DE X W a f) : DE X W a (bor i f) := pe_imp h fun σ H Q q => cbor (fun F τ x v a ws => fun h1 h2 h3 => rep_del h1 h2 h3) q
theorem dt_bor (i : Nat) (h : DT X W a t) : DT X W a (borT i t) := pt_imp h fun σ H Q q => cbor (fun F τ x v a ws => fun _ _ h3 => h3) q
theorem dw_bor (i : Nat) (h : DW X W a t) : DW X W a (borT i t) := pw_imp h fun σ H Q q => cbor (fun F τ x v a ws => fun _ _ h3 => h3) q
theorem cborL {i : Nat} {f : DEnv → Mo (List D)} {σ : L2.St} {H : Hp} {Q : VK} (q : cL K mg W (borA i f) σ H Q) : cL K mg W f σ H Q := by
  obtain ⟨F0, H0, τ0, F, τ, T, δ, s, p⟩ := q
  unfold borA borG at p
  cases eo : ownL δ i with
  | none => rw [eo] at p; exact ⟨F0, H0, τ0, F, τ, T, δ, s, p⟩
  | some ds =>
    rw [eo] at p
    obtain ⟨l, vs, h1, h2, h3, h4, h5, s'⟩ := s.freezeA (ownL_eq eo)
    refine ⟨F0, H0, τ0, _, τ, T, _, s', ?_⟩
    have p : PstL K mg W σ F H τ Q ((f (δ.set i (.val (.lst ds))) T).bind fun d T1 => chkO (noLs d) (.ok d T1)) := p
    cases e : f (δ.set i (.val (.lst ds))) T with
    | ok x T1 =>
      rw [e] at p
      intro q us F2 H2 τ2 go tp k1 k2 k3 k4 k5
      have p : PstL K mg W σ F H τ Q (chkO (noLs x) (.ok x T1)) := p
      unfold chkO at p
      split at p
      · rename_i hc
        have hl := go.ff _ _ upd_same
        refine p q us _ H2 τ2 (go.del h4) tp k1 (reps_del hl hc k2) ?_ k4 k5
        by_cases z : q = l
        · rw [z]; exact delH_self
        · rw [delH_ne z]; exact k3
      · exact p.elim
    | exc x T1 =>
      rw [e] at p
      exact fun c dd F2 H2 τ2 go tp ex => p c dd _ H2 τ2 (go.del h4) tp (ex.del (go.ff _ _ upd_same))
    | stuck => rw [e] at p; exact p
theorem dl_bor (i : Nat) (h : DL X W a fa) : DL X W a (borA i fa) := pe_imp h fun σ H Q q => cborL q
/-! ### changes -/
def sApp (i : Nat) (f : DEnv → Mo D) : SD := fun δ T => (ownL δ i).elim .stuck fun ds => (f δ T).st δ fun d T1 => if ds.length < line then .nx (δ.set i (.own (ds ++ [d]))) T1 else .stuck
theorem tyV_own {H : Hp} {l : Addr} {xs : List V} (h : H l = some (.lst xs)) : tyV K "list" (.ref l) H := Or.inl ⟨rfl, xs, .inl (.inl h)⟩
theorem ds_append (i : Nat) {x : Str} {p : Pos} {apos cpos : Pos} (he : DE X W a f) (hN : X.N[i]? = some x := by rfl) (hv : Vis X.env.scope x := by first | exact Or.inl rfl | exact Or.inr (Or.inl rfl) | exact Or.inr (Or.inr rfl)) (hd : (x == ("__debug__" : Str)) = false := by decide)
    (hcd : (x == ("__classdict__" : Str)) = false := by decide)
    (h1 : attributeBase (.Name x p) "append" X.env (eval (.Name x p) X.env) = eval (.Name x p) X.env := by rfl)
    (h2 : (((backTo cpos (starEach [a] X.env)).all (!·.1) && (backToKw cpos (keywordEach [] X.env)).all (·.1.isSome)) && decide (([a].length + ([] : List Keyword).length + if ([] : List Keyword).isEmpty = true then 0 else 1) < 30)) = true := by rfl)
    (h3 : (apos.endLine == cpos.line) = true := by rfl) (h4 : starEach [a] X.env = (false, eval a X.env) :: starEach [] X.env := by rfl) (h5 : ((backTo cpos (starEach [] X.env)).any (·.1)) = false := by rfl)
    (h6 : swapsWith (.Call (.Attribute (.Name x p) "append" apos) [a] [] cpos) none pos.line X.env = pure false := by rfl) :
    DS X W (.Expr (.Call (.Attribute (.Name x p) "append" apos) [a] [] cpos) pos) (sApp i f) :=
  ps_imp (ps_expr (pe_bm PySem.F.plainAttrs_list PySem.F.slot_list_append PySem.F.type_list_append mt_append (pe_var hN hv hd hcd) (pa_cons he pa_nil h4) h1 h2 h3 h4 h5) h6) fun D σ H q => by
    obtain ⟨F0, H0, τ0, F, τ, T, δ, s, p⟩ := q
    unfold sApp at p
    cases eo : ownL δ i with
    | none => rw [eo] at p; exact p.elim
    | some ds =>
      rw [eo] at p
      obtain ⟨l, vs, k1, k2, k3, k4, k5, k6⟩ := s.own i ds (ownL_eq eo)
      refine ⟨.ref l, k1, tyV_own k2, ?_⟩
      refine cG_st s p fun y v F1 H1 τ1 T1 s1 go r1 p1 => ?_
      obtain ⟨l', vs', q1, q2, q3, q4, q5, q6⟩ := s1.own i ds (ownL_eq eo)
      rw [k1] at q1
      cases q1
      split at p1
      · rename_i hl
        refine ⟨l, vs', v, rfl, rfl, q2, by rw [q3.len]; exact line_lt hl, ?_⟩
        exact p1 F1 _ τ1 σ (s1.write (ownL_eq eo) k1 (q3.append (.one r1)))
      · exact p1.elim
/-- x.extend(e) -/
def sExt (i : Nat) (f : DEnv → Mo D) : SD := fun δ T => (ownL δ i).elim .stuck fun ds => (f δ T).st δ fun d T1 => (lstO d).elim .stuck fun es => if ds.length + es.length < line then .nx (δ.set i (.own (ds ++ es))) T1 else .stuck
theorem ds_extend (i : Nat) {x : Str} {p : Pos} {apos cpos : Pos} (he : DE X W a f) (hN : X.N[i]? = some x := by rfl) (hv : Vis X.env.scope x := by first | exact Or.inl rfl | exact Or.inr (Or.inl rfl) | exact Or.inr (Or.inr rfl)) (hd : (x == ("__debug__" : Str)) = false := by decide)
    (hcd : (x == ("__classdict__" : Str)) = false := by decide)
    (h1 : attributeBase (.Name x p) "extend" X.env (eval (.Name x p) X.env) = eval (.Name x p) X.env := by rfl)
    (h2 : (((backTo cpos (starEach [a] X.env)).all (!·.1) && (backToKw cpos (keywordEach [] X.env)).all (·.1.isSome)) && decide (([a].length + ([] : List Keyword).length + if ([] : List Keyword).isEmpty = true then 0 else 1) < 30)) = true := by rfl)
    (h3 : (apos.endLine == cpos.line) = true := by rfl) (h4 : starEach [a] X.env = (false, eval a X.env) :: starEach [] X.env := by rfl) (h5 : ((backTo cpos (starEach [] X.env)).any (·.1)) = false := by rfl)
    (h6 : swapsWith (.Call (.Attribute (.Name x p) "extend" apos) [a] [] cpos) none pos.line X.env = pure false := by rfl) :
    DS X W (.Expr (.Call (.Attribute (.Name x p) "extend" apos) [a] [] cpos) pos) (sExt i f) :=
  ps_imp (ps_expr (pe_bm PySem.F.plainAttrs_list PySem.F.slot_list_extend PySem.F.type_list_extend mt_extend (pe_var hN hv hd hcd) (pa_cons he pa_nil h4) h1 h2 h3 h4 h5) h6) fun D σ H q => by
    obtain ⟨F0, H0, τ0, F, τ, T, δ, s, p⟩ := q
    unfold sExt at p
    cases eo : ownL δ i with
    | none => rw [eo] at p; exact p.elim
    | some ds =>
      rw [eo] at p
      obtain ⟨l, vs, k1, k2, k3, k4, k5, k6⟩ := s.own i ds (ownL_eq eo)
      refine ⟨.ref l, k1, tyV_own k2, ?_⟩
      refine cG_st s p fun y v F1 H1 τ1 T1 s1 go r1 p1 => ?_
      obtain ⟨l', vs', q1, q2, q3, q4, q5, q6⟩ := s1.own i ds (ownL_eq eo)
      rw [k1] at q1
      cases q1
      cases el : lstO y with
      | none => rw [el] at p1; exact p1.elim
      | some es =>
        rw [el] at p1
        rw [lstO_eq el] at r1
        unfold Rep at r1
        obtain ⟨b, zs, rfl, z1, z2⟩ := r1
        have p1 : PstS X.K X.mg W F0 H0 τ0 D (if ds.length + es.length < line then OS.nx (δ.set i (.own (ds ++ es))) T1 else .stuck) := p1
        split at p1
        · rename_i hl
          refine ⟨l, b, vs', zs, rfl, rfl, q2, s1.go.fh _ _ z1, by rw [q3.len, z2.len]; exact Nat.le_of_lt (line_lt hl), ?_⟩
          exact p1 F1 _ τ1 σ (s1.write (ownL_eq eo) k1 (q3.append z2))
        · exact p1.elim
/-- x[k] = e -/
def sSetAt (i : Nat) (fe fk : DEnv → Mo D) : SD := fun δ T => (ownL δ i).elim .stuck fun ds => (fe δ T).st δ fun d T1 => (fk δ T1).st δ fun k T2 => (asI k).elim .stuck fun n => (ixN ds.length n).elim .stuck fun j => .nx (δ.set i (.own (ds.set j d))) T2
theorem ds_setAt (i : Nat) {x : Str} {p tpos : Pos} (he : DE X W a f) (hk : DE X W b g) (hN : X.N[i]? = some x := by rfl) (hv : Vis X.env.scope x := by first | exact Or.inl rfl | exact Or.inr (Or.inl rfl) | exact Or.inr (Or.inr rfl)) (hd : (x == ("__debug__" : Str)) = false := by decide)
    (hcd : (x == ("__classdict__" : Str)) = false := by decide)
    (h1 : ∀ (v : Value), assign (.Subscript (.Name x p) b tpos) X.env v = (do
        let ov ← holding [v] (eval (.Name x p) X.env)
        let iv ← holding [v, ov] (eval b X.env)
        standAt tpos
        holding [v, ov, iv] (setItem ov iv v)
        release [v, ov, iv] []) := by intro _; rfl)
    (h2 : swapsWithSole [.Subscript (.Name x p) b tpos] a pos.line X.env = pure false := by rfl) (h3 : swappedStores [.Subscript (.Name x p) b tpos] a X.env = pure none := by rfl) (h4 : (assignEach [.Subscript (.Name x p) b tpos] X.env).map (·.2) = [assign (.Subscript (.Name x p) b tpos) X.env] := by rfl) :
    DS X W (.Assign [.Subscript (.Name x p) b tpos] a pos) (sSetAt i f g) :=
  ps_imp (ps_asg he (pg_sub (pe_var hN hv hd hcd) hk set_list h1) h2 h3 h4) fun D σ H q => by
    obtain ⟨F0, H0, τ0, F, τ, T, δ, s, p⟩ := q
    unfold sSetAt at p
    cases eo : ownL δ i with
    | none => rw [eo] at p; exact p.elim
    | some ds =>
      rw [eo] at p
      refine cG_st s p fun y v F1 H1 τ1 T1 s1 go r1 p1 => ?_
      obtain ⟨l, vs, k1, k2, k3, k4, k5, k6⟩ := s1.own i ds (ownL_eq eo)
      refine ⟨.ref l, k1, ?_⟩
      refine cG_st s1 p1 fun k u F2 H2 τ2 T2 s2 go2 r2 p2 => ?_
      obtain ⟨l', vs', q1, q2, q3, q4, q5, q6⟩ := s2.own i ds (ownL_eq eo)
      rw [k1] at q1
      cases q1
      cases ek : asI k with
      | none => rw [ek] at p2; exact p2.elim
      | some n =>
        rw [ek] at p2
        rw [asI_eq ek] at r2
        unfold Rep at r2
        have p2 : PstS X.K X.mg W F0 H0 τ0 D ((ixN ds.length n).elim .stuck fun j => .nx (δ.set i (.own (ds.set j y))) T2) := p2
        cases ej : ixN ds.length n with
        | none => rw [ej] at p2; exact p2.elim
        | some j =>
          rw [ej] at p2
          refine ⟨l, vs', n, j, rfl, r2, q2, by rw [q3.len]; exact ej, ?_⟩
          exact p2 F2 _ τ2 σ (s2.write (ownL_eq eo) k1 (q3.set j (r1.mono go2.ff go2.tm)))
/-! ### fresh lists -/
/-- list(x) -/
def lList (f : DEnv → Mo D) : DEnv → Mo (List D) := fun δ T => (f δ T).bind fun x T1 => lift (seqOf x) T1
theorem dl_list {p : Pos} (hm : X.mg "list" = none) (ha : DE X W a f) (hg : Gl X "list" := by rfl) (he : starEach [a] X.env = (false, eval a X.env) :: starEach [] X.env := by rfl) (hpl : (backTo pos (starEach [] X.env)).any (·.1) = false := by rfl) :
    DL X W (.Call (.Name "list" p) [a] [] pos) (lList f) := pe_imp (pe_callTy call_list_of hg hm (by decide +kernel) (pa_cons ha pa_nil he) (by decide) (by decide) he hpl) fun σ H Q q => by
  obtain ⟨F0, H0, τ0, F, τ, T, δ, s, p⟩ := q
  refine cG_bindL s p fun x v F1 H1 τ1 T1 s1 g1 r1 p1 => ?_
  cases es : seqOf x with
  | none => rw [es] at p1; exact p1.elim
  | some ds =>
    rw [es] at p1
    obtain ⟨l, vs, e1, h1, h2⟩ := rep_seq s1.go.fh r1 es
    refine ⟨l, vs, by rw [e1], h1, fun q hq => ?_⟩
    exact p1 q vs F1 _ τ1 (Go.newH s1.go.fh hq) (s1.tp.upd (s1.tp.off hq)) upd_same h2 (s1.go.fh.free hq) hq (s1.tp.off hq)
/-- a + b, lists -/
def lCat (f g : DEnv → Mo D) : DEnv → Mo (List D) := fun δ T => (f δ T).bind fun x T1 => (g δ T1).bind fun y T2 => (lift (lstO x) T2).bind fun xs T3 => (lift (lstO y) T3).bind fun ys T4 => chkO (Nat.blt (xs.length + ys.length) line) (.ok (xs ++ ys) T4)
theorem dl_cat (ha : DE X W a f) (hb : DE X W b g) : DL X W (.BinOp a .Add b pos) (lCat f g) := pe_imp (pe_op op_cat ha hb) fun σ H Q q => by
  obtain ⟨F0, H0, τ0, F, τ, T, δ, s, p⟩ := q
  refine cG_bindL s p fun x v F1 H1 τ1 T1 s1 g1 r1 p1 => ?_
  refine cG_bindL s1 p1 fun y u F2 H2 τ2 T2 s2 g2 r2 p2 => ?_
  cases ex : lstO x with
  | none => rw [ex] at p2; exact p2.elim
  | some xs =>
    cases ey : lstO y with
    | none => rw [ex, ey] at p2; exact p2.elim
    | some ys =>
      rw [ex, ey] at p2
      have p2 : PstL X.K X.mg W σ F2 H2 τ2 Q (chkO (Nat.blt (xs.length + ys.length) line) (.ok (xs ++ ys) T2)) := p2
      unfold chkO at p2
      split at p2
      · rename_i hl
        rw [lstO_eq ex] at r1
        rw [lstO_eq ey] at r2
        have r1 := r1.mono g2.ff g2.tm
        unfold Rep at r1 r2
        obtain ⟨l, vs, rfl, h1, h2⟩ := r1
        obtain ⟨m, us, rfl, h3, h4⟩ := r2
        refine ⟨l, m, vs, us, rfl, rfl, s2.go.fh _ _ h1, s2.go.fh _ _ h3, ?_, fun q hq => ?_⟩
        · rw [h2.len, h4.len]; exact Nat.le_of_lt (line_lt (Nat.blt_eq.mp hl))
        · exact p2 q _ F2 _ τ2 (Go.newH s2.go.fh hq) (s2.tp.upd (s2.tp.off hq)) upd_same (h2.append h4) (s2.go.fh.free hq) hq (s2.tp.off hq)
      · exact p2.elim
/-! ### slices -/
def dPart (f : DEnv → Mo D) : DEnv → Mo (Option Int) := fun δ T => (f δ T).bind fun x T1 => (lift (asI x) T1).bind fun i T2 => .ok (some i) T2
def dNoPart : DEnv → Mo (Option Int) := fun _ T => .ok none T
abbrev RO : RelT (Option Int) (Option Int) := fun _ _ a b => b = a
abbrev DO (X : Cx) (W : WX) (e : Option Expr) (f : DEnv → Mo (Option Int)) : Prop := PO X e (cG X.K X.mg W RO f)
theorem po_imp {e : Option Expr} {t t' : TO} (h : PO X e t) (k : ∀ σ H Q, t' σ H Q → t σ H Q) : PO X e t' := ⟨fun pins s σ H Q I q => h.run pins s σ H Q I (k σ H Q q)⟩
theorem do_none : DO X W none dNoPart := po_imp po_none fun σ H Q q => by
  obtain ⟨F0, H0, τ0, F, τ, T, δ, s, p⟩ := q
  exact p none F H τ (.refl s.go.fh) s.tp rfl
theorem do_some (he : DE X W a f) : DO X W (some a) (dPart f) := po_imp (po_some he) fun σ H Q q => by
  obtain ⟨F0, H0, τ0, F, τ, T, δ, s, p⟩ := q
  refine cG_bind s p fun x v F1 H1 τ1 T1 s1 g1 r1 p1 => ?_
  cases ei : asI x with
  | none => rw [ei] at p1; exact p1.elim
  | some i =>
    rw [ei] at p1
    rw [asI_eq ei] at r1
    unfold Rep at r1
    exact ⟨i, r1, p1 (some i) F1 H1 τ1 (.refl s1.go.fh) s1.tp rfl⟩
def cutD (xs : List D) (lo hi : Option Int) : List D := List.take (HT.sIx xs.length xs.length hi - HT.sIx xs.length 0 lo) (List.drop (HT.sIx xs.length 0 lo) xs)
def cutO : D → Option Int → Option Int → Option D
  | .tup ds, lo, hi => some (.tup (cutD ds lo hi))
  | .lst ds, lo, hi => some (.lst (cutD ds lo hi))
  | _, _, _ => none
theorem cut_reps {F : Hp} {τ : Option Tp} {ds : List D} {vs : List V} (r : Reps K F τ ds vs) (lo hi : Option Int) : Reps K F τ (cutD ds lo hi) (cutV vs lo hi) := by
  unfold cutD L2.cutV
  rw [r.len]
  exact (r.drop _).take _
theorem cut_all {xs : List D} {lo hi : Option Int} (h : HT.sIx xs.length 0 lo = 0 ∧ HT.sIx xs.length xs.length hi = xs.length) : cutD xs lo hi = xs := by
  unfold cutD
  rw [h.1, h.2]
  simp
def dSl (f : DEnv → Mo D) (lo hi : DEnv → Mo (Option Int)) : DEnv → Mo D := fun δ T => (f δ T).bind fun x T1 => (lo δ T1).bind fun l T2 => (hi δ T2).bind fun u T3 => lift (cutO x l u) T3
theorem de_slice {lo hi : Option Expr} {fl fh : DEnv → Mo (Option Int)} {p2 : Pos} (ha : DE X W a f) (hl : DO X W lo fl) (hh : DO X W hi fh) : DE X W (.Subscript a (.Slice lo hi none p2) pos) (dSl f fl fh) :=
  pe_imp (pe_slice (sl_tupA.or sl_list) ha hl hh) fun σ H Q q => by
    obtain ⟨F0, H0, τ0, F, τ, T, δ, s, p⟩ := q
    refine cG_bind s p fun x v F1 H1 τ1 T1 s1 g1 r1 p1 => ?_
    refine cG_bind s1 p1 fun l l' F2 H2 τ2 T2 s2 g2 r2 p2 => ?_
    refine cG_bind s2 p2 fun u u' F3 H3 τ3 T3 s3 g3 r3 p3 => ?_
    cases r2; cases r3
    have r1 := (r1.mono g2.ff g2.tm).mono g3.ff g3.tm
    cases x with
    | tup ds =>
      have p3 : Pst X.mg W (Rep X.K) σ F3 H3 τ3 Q (.ok (.tup (cutD ds l u)) T3) := p3
      have r0 := r1
      unfold Rep at r1
      obtain ⟨b, vs, rfl, h1, h2⟩ := r1
      refine .inl ⟨b, vs, rfl, sqT_mono s3.go.fh h1, fun z => ?_, fun _ q hq => ?_⟩
      · rw [h2.len] at z
        refine p3 _ F3 H3 τ3 (.refl s3.go.fh) s3.tp ?_
        rw [cut_all z]
        exact r0
      · have g := Go.new (τ := τ3) (o := .tup (cutV vs l u)) s3.go.fh hq
        refine p3 _ _ _ τ3 g (s3.tp.upd (s3.tp.off hq)) ?_
        unfold Rep
        exact ⟨q, _, rfl, .inl (.inl upd_same), (cut_reps h2 l u).mono g.ff fun _ e => e⟩
    | lst ds =>
      have p3 : Pst X.mg W (Rep X.K) σ F3 H3 τ3 Q (.ok (.lst (cutD ds l u)) T3) := p3
      unfold Rep at r1
      obtain ⟨b, vs, rfl, h1, h2⟩ := r1
      refine .inr ⟨b, vs, rfl, .inl (.inl (s3.go.fh _ _ h1)), fun q hq => ?_⟩
      have g := Go.new (τ := τ3) (o := .lst (cutV vs l u)) s3.go.fh hq
      refine p3 _ _ _ τ3 g (s3.tp.upd (s3.tp.off hq)) ?_
      unfold Rep
      exact ⟨q, _, rfl, upd_same, (cut_reps h2 l u).mono g.ff fun _ e => e⟩
    | _ => exact p3.elim
/-! ### a < b < c -/
def dChain (o o' : D → D → Option D) (f g h : DEnv → Mo D) : DEnv → Mo D := fun δ T => (f δ T).bind fun x T1 => (g δ T1).bind fun y T2 => (lift ((o x y).bind asB) T2).bind fun k T3 => if k = true then (h δ T3).bind fun z T4 => lift (o' y z) T4 else .ok (.bl false) T3
theorem cChain {r r' : R2} {o o' : D → D → Option D} (ho : OpD K r o) (ho' : OpD K r' o') {σ : L2.St} {H : Hp} {Q : VK} (q : cG K mg W (Rep K) (dChain o o' f g h) σ H Q) : tChain r r' (cG K mg W (Rep K) f) (cG K mg W (Rep K) g) (cG K mg W (Rep K) h) σ H Q := by
  obtain ⟨F0, H0, τ0, F, τ, T, δ, s, p⟩ := q
  refine cG_bind s p fun x v F1 H1 τ1 T1 s1 g1 r1 p1 => ?_
  refine cG_bind s1 p1 fun y u F2 H2 τ2 T2 s2 g2 r2 p2 => ?_
  cases e : o x y with
  | none => rw [e] at p2; exact p2.elim
  | some w =>
    cases eb : asB w with
    | none =>
      have e3 : ((o x y).bind asB) = none := by rw [e]; exact eb
      rw [e3] at p2; exact p2.elim
    | some k =>
      have e3 : ((o x y).bind asB) = some k := by rw [e]; exact eb
      rw [e3] at p2
      refine ho F2 H2 τ2 T2 x y v u w _ s2.go.fh s2.tp (r1.mono g2.ff g2.tm) r2 e fun z F3 H3 g3 t3 r3 => ?_
      rw [asB_eq eb] at r3
      unfold Rep at r3
      refine ⟨k, r3, ?_⟩
      have s3 := s2.step g3 t3
      have p2 : Pst mg W (Rep K) σ F2 H2 τ2 Q (if k = true then (h δ T2).bind fun z T4 => lift (o' y z) T4 else .ok (.bl false) T2) := p2
      have p3 := Pst.shift g3 p2
      cases k with
      | true =>
        rw [if_pos rfl] at p3 ⊢
        refine cG_bind s3 p3 fun z' w' F4 H4 τ4 T4 s4 g4 r4 p4 => ?_
        cases e5 : o' y z' with
        | none => rw [e5] at p4; exact p4.elim
        | some w5 =>
          rw [e5] at p4
          exact ho' F4 H4 τ4 T4 y z' u w' w5 Q s4.go.fh s4.tp ((r2.mono g3.ff g3.tm).mono g4.ff g4.tm) r4 e5 fun w6 F6 H6 g6 t6 r6 => p4 w6 F6 H6 τ4 g6 t6 r6
      | false =>
        rw [if_neg Bool.false_ne_true] at p3 ⊢
        exact p3 (.bl false) F3 H3 τ2 (.refl s3.go.fh) s3.tp (by unfold Rep; rfl)
theorem de_chain {op op' : CmpOp} {r r' : R2} {o o' : D → D → Option D} (hp : OpR X (compareOp op) r) (ho : OpD X.K r o) (hp' : OpR X (compareOp op') r') (ho' : OpD X.K r' o') (ha : DE X W a f) (hb : DE X W b g) (hc : DE X W c h) (hl : lastMarks [op, op'] [b, c] = false := by rfl) :
    DE X W (.Compare a [op, op'] [b, c] pos) (dChain o o' f g h) := pe_imp (pe_chain hp hp' ha hb hc hl) fun σ H Q q => cChain ho ho' q
theorem dt_chain {op op' : CmpOp} {r r' : R2} {o o' : D → D → Option D} (hp : OpR X (compareOp op) r) (ho : OpD X.K r o) (hp' : OpR X (compareOp op') r') (ho' : OpD X.K r' o') (ha : DE X W a f) (hb : DE X W b g) (hc : DE X W c h) (hl : lastMarks [op, op'] [b, c] = false := by rfl) :
    DT X W (.Compare a [op, op'] [b, c] pos) (dTv (dChain o o' f g h)) := pt_imp (pt_chain hp hp' ha hb hc hl) fun σ H Q q => by
  have q2 : cG X.K X.mg W (Rep X.K) (dChain o o' f g h) σ H fun x H' => ∃ k, x = .bl k ∧ Q k H' := cTv q
  exact cChain ho ho' q2
end
end DD

/-! DD11: x[lo::-1] of tuples and lists. -/
namespace HT
open PySem PySem.Spec PyProof.Rows
section
variable {prog : Program} {w : World} {A : Around} {E : Value → Shared → Prop} {s : Shared}
/-- how many places a walk backwards from lo has -/
def rvN (n : Nat) : Option Int → Nat
  | none => n
  | some v => if v < 0 then (v + (n : Int) + 1).toNat else min (v + 1).toNat n
theorem rvN_le (n : Nat) (lo : Option Int) : rvN n lo ≤ n := by
  unfold rvN
  split
  · exact Nat.le_refl _
  · split <;> omega
theorem adjust_rv (lo : Option Int) (n : Nat) : Builtin.Slice.sliceAdjust lo none (-1) (n : Int) = (((rvN n lo : Nat) : Int) - 1, -1) := by
  unfold Builtin.Slice.sliceAdjust
  refine Prod.ext ?_ ?_
  · cases lo with
    | none => rfl
    | some v =>
      show (if v < 0 then max (v + (n : Int)) (-1) else min v ((n : Int) - 1)) = (((if v < 0 then (v + (n : Int) + 1).toNat else min (v + 1).toNat n : Nat)) : Int) - 1
      split <;> omega
  · rfl
theorem places_rv (k : Nat) : Builtin.Slice.slicePlaces ((k : Int) - 1) (-1) (-1) = k := by
  unfold Builtin.Slice.slicePlaces
  have h1 : ¬ ((-1 : Int) > 0) := by omega
  have h2 : (- -1 : Int) = 1 := by decide
  simp only [h1, if_false, h2, Int.ediv_one]
  split <;> omega
theorem applied_rv {sl : Addr} {vl vs : Value} {lo : Option Int} {n : Nat} {Q : Int × Int × Nat → Shared → Prop} (hs : s.heap.IsSliceOf sl vl .none vs) (pl : IsPart vl lo) (ps : IsPart vs (some (-1)))
    (h : Q (((rvN n lo : Nat) : Int) - 1, -1, rvN n lo) s) : wpAny (model prog w) A (Builtin.Slice.sliceApplied (.ref sl) (pure (n : Int))) Q E s := by
  obtain ⟨os, hos, hcs, hds⟩ := id hs
  unfold Builtin.Slice.sliceApplied Builtin.Slice.sliceFields
  refine wpAny_bind (wpAny_bind (wpAny_field hos hds (x := vl) rfl (wpAny_bind (wpAny_field hos hds (x := .none) rfl (wpAny_bind (wpAny_field hos hds (x := vs) rfl (wpAny_pure ?_)))))))
  refine wpAny_bind (slicePart_ ps ?_)
  show wpAny _ _ (if ((-1 : Int) == 0) = true then _ else _) _ _ s
  rw [if_neg (by decide)]
  refine wpAny_bind (slicePart_ pl (wpAny_bind (slicePart_none (wpAny_bind (wpAny_pure ?_)))))
  show wpAny _ _ (match Builtin.Slice.sliceAdjust lo none (-1) (n : Int) with | (lo, hi) => pure (lo, (-1 : Int), Builtin.Slice.slicePlaces lo hi (-1))) _ _ s
  rw [adjust_rv lo n]
  show wpAny _ _ (pure (((rvN n lo : Nat) : Int) - 1, (-1 : Int), Builtin.Slice.slicePlaces (((rvN n lo : Nat) : Int) - 1) (-1) (-1))) _ _ s
  rw [places_rv]
  exact wpAny_pure h
theorem fm_congr {α β : Type} {f g : α → Option β} : ∀ {l : List α}, (∀ x ∈ l, f x = g x) → l.filterMap f = l.filterMap g
  | [], _ => rfl
  | x :: l, h => by
    rw [List.filterMap_cons, List.filterMap_cons, h x List.mem_cons_self, fm_congr fun y hy => h y (List.mem_cons_of_mem _ hy)]
theorem pick_rv (xs : Array Value) (k : Nat) (hk : k ≤ xs.size) : ((List.range k).filterMap fun (m : Nat) => xs[(((k : Int) - 1) + (m : Int) * (-1)).toNat]?) = (xs.toList.take k).reverse := by
  have e1 : (List.range k).filterMap (fun (m : Nat) => xs[(((k : Int) - 1) + (m : Int) * (-1)).toNat]?) = ((List.range k).map fun m => k - 1 - m).filterMap (xs[·]?) := by
    rw [List.filterMap_map]
    refine fm_congr fun m hm => ?_
    have := List.mem_range.mp hm
    show xs[(((k : Int) - 1) + (m : Int) * (-1)).toNat]? = xs[k - 1 - m]?
    congr 1
    omega
  rw [e1, PySem.W.krv_range, List.filterMap_reverse]
  congr 1
  have h := pick_run xs 0 k
  have e : (List.range k).map (0 + ·) = List.range k := by
    rw [show ((0 + ·) : Nat → Nat) = id from funext fun k => Nat.zero_add k, List.map_id]
  rw [e, List.drop_zero] at h
  exact h
theorem getItem_tuple_rv {t sl : Addr} {items : Array Value} {vl vs : Value} {lo : Option Int} {Q : Value → Shared → Prop} (ht : IsTup s.heap t items) (hs : s.heap.IsSliceOf sl vl .none vs) (pl : IsPart vl lo) (ps : IsPart vs (some (-1)))
    (h : Q (.ref s.heap.objs.size) { s with heap := s.heap.push { cls := .type "tuple", data := .seq (items.toList.take (rvN items.size lo)).reverse.toArray } })
    (hsz : items.size ≤ sizeLine) : wpAny (model prog w) A (getItem (.ref t) (.ref sl)) Q E s := by
  have hk := rvN_le items.size lo
  have htake : sizeOk (.seq (items.toList.take (rvN items.size lo)).reverse.toArray) := by
    show (items.toList.take (rvN items.size lo)).reverse.toArray.size ≤ sizeLine
    rw [List.size_toArray, List.length_reverse, List.length_take, Array.length_toList]
    omega
  obtain ⟨os, hos, hcs, hds⟩ := id hs
  have hTs : s.TypeIs (.ref sl) "slice" := ⟨os, hos, hcs⟩
  unfold getItem
  try with_reducible refine wpAny_holding ?_
  first | refine wpAny_bind (wpAny_pure ?_) | skip
  refine wpAny_bind (wpAny_sequenceKey ht.typeIs (by decide) ?_)
  refine wpAny_bind (wpAny_callSpecial?_slot (name := Str.ofString "__getitem__") ht.typeIs PyProof.Rows.slot_tuple_getitem
    (wpAny_call_entry PyProof.Rows.slot_tuple_getitem ht.typeIs entry_tuple_getitem ?_ (args_tuple_getitem _ _)))
  show wpAny _ _ (Builtin.Tuple.tupleItemsOf (.ref t) >>= _) _ _ s
  refine wpAny_bind (tupleItemsOf_ ht ?_)
  refine wpAny_bind (wpAny_typeOf hTs ?_)
  rw [if_pos (by decide)]
  refine wpAny_bind (applied_rv hs pl ps ?_)
  have hno : ¬ (((((rvN items.size lo : Nat) : Int) - 1) == 0 && (-1 : Int) == 1 && rvN items.size lo == items.size) = true) := by
    intro q
    rw [Bool.and_eq_true, Bool.and_eq_true] at q
    exact absurd q.1.2 (by decide)
  show wpAny _ _ (if ((((rvN items.size lo : Nat) : Int) - 1) == 0 && (-1 : Int) == 1 && rvN items.size lo == items.size) = true then _ else _) _ _ s
  rw [if_neg hno, pick_rv items _ hk]
  first
    | exact wpAny_bind (m := Builtin.Tuple.tupleExact _) (wpAny_newObj_type (wpAny_pure ⟨_, rfl, wpAny_pure h⟩) htake)
    | exact wpAny_bind (m := Builtin.Tuple.tupleExact _) (wpAny_newObj_type (wpAny_bind (wpAny_pure (wpAny_pure ⟨_, rfl, wpAny_pure h⟩))) htake)
    | exact wpAny_bind (wpAny_bind (m := Builtin.Tuple.tupleExact _) (wpAny_newObj_type (wpAny_pure (wpAny_pure ⟨_, rfl, wpAny_pure h⟩)) htake))
    | exact wpAny_bind (wpAny_bind (m := Builtin.Tuple.tupleExact _) (wpAny_newObj_type (wpAny_pure ⟨_, rfl, wpAny_pure h⟩) htake))
end
end HT
namespace DD
open PySem PySem.Spec PyProof.Rows L2
section
variable {K : Kf} {W : WX} {X : Cx} {a b c : Expr} {pos : Pos} {f g h : DEnv → Mo D} {fa : DEnv → Mo (List D)}
/-- t[lo::-1], t a tuple; l[::-1], l a list -/
def tRv (K : Kf) (te : TE) (tl : TO) : TE := fun σ H Q => te σ H fun x H1 => tl σ H1 fun lo H2 => ∃ a xs, x = .ref a ∧ SqT K H2 a xs ∧ ∀ p, H2 p = none → Q (.ref p) (upd H2 p (.tup (xs.take (HT.rvN xs.length lo)).reverse))
theorem pe_rv {lo : Option Expr} {te : TE} {tl : TO} {k : Nat} {p1 p2 p3 : Pos} (he : PE X a te) (hl : PO X lo tl) : PE X (.Subscript a (.Slice lo none (some (.UnaryOp .USub (.Constant (.int 1) k p1) p2)) p3) pos) (tRv X.K te tl) := by
  refine ⟨fun pins s σ H Q I h => ?_⟩
  refine Subscript_ (thn (he.run pins s σ H _ I h) fun v s1 ⟨x, H1, I1, r1, q1⟩ => ?_)
  have hst : PO X (some (.UnaryOp .USub (.Constant (.int 1) k p1) p2)) (tPart (tUn (rU fun i => .int (-i)) (tC (.int 1)))) := po_some (pe_un un_neg pe_int)
  refine wpAny_Slice (thn (hl.run pins s1 σ H1 _ I1 q1) fun vl s2 ⟨l, H2, I2, pl, q2⟩ => ?_)
  refine thn (po_none.run pins s2 σ H2 (fun o H3 => o = none ∧ H3 = H2) I2 ⟨rfl, rfl⟩) fun vu s3 ⟨u, H3, I3, pu, eu, e3⟩ => ?_
  subst eu e3
  refine thn (hst.run pins s3 σ H3 (fun o H4 => o = some (-1) ∧ H4 = H3) I3 ⟨1, rfl, -1, rfl, rfl, rfl⟩) fun vs s4 ⟨o, H4, I4, ps, eo, e4⟩ => ?_
  subst eo e4
  obtain ⟨t, xs, ex, hx, q⟩ := q2
  subst ex
  cases r1
  cases pu
  have I5 : Inv X pins σ H4 { s4 with heap := s4.heap.push { cls := .type "slice", data := .fields #[vl, .none, vs] } } := I4.kept (t' := s4.toks) fun b ob q => Heap.get?_push_of_some _ q
  obtain ⟨its, r, ht, hz⟩ := I5.tuple hx
  have hlen : its.toArray.size = xs.length := by rw [List.size_toArray]; exact r.length.symm
  show wpAny (model X.prog X.w) X.A (subscriptTail a (.Slice lo none (some (.UnaryOp .USub (.Constant (.int 1) k p1) p2)) p3) (.ref t) (.ref s4.heap.objs.size)) (EP X pins σ Q) X.xe { s4 with heap := s4.heap.push { cls := .type "slice", data := .fields #[vl, .none, vs] } }
  refine tail_any (ops := [.ref t, .ref s4.heap.objs.size]) ht.typeIs (PyProof.Rows.slot_tuple_getitem.lookup) ?_ (by with_unfolding_all rfl)
  refine HT.getItem_tuple_rv ht (Heap.IsSliceOf.new _ vl .none vs) pl ps ?_ (by rw [hlen]; exact hz)
  rw [hlen]
  refine ⟨.ref _, _, I5.laid (t' := s4.toks) (o := .tup (xs.take (HT.rvN xs.length l)).reverse) (fun b ob q => Heap.get?_push_of_some _ q) (Nat.le_refl _) ?_, rfl, q _ (I5.hok.fresh (Nat.le_refl _))⟩
  exact ⟨by rw [List.length_reverse, List.length_take]; omega, _, (r.take _).reverse, IsTup.new _ _⟩
def rvO : D → Option Int → Option D
  | .tup ds, lo => some (.tup (ds.take (HT.rvN ds.length lo)).reverse)
  | _, _ => none
def dRv (f : DEnv → Mo D) (lo : DEnv → Mo (Option Int)) : DEnv → Mo D := fun δ T => (f δ T).bind fun x T1 => (lo δ T1).bind fun l T2 => lift (rvO x l) T2
theorem de_rv {lo : Option Expr} {fl : DEnv → Mo (Option Int)} {k : Nat} {p1 p2 p3 : Pos} (ha : DE X W a f) (hl : DO X W lo fl) : DE X W (.Subscript a (.Slice lo none (some (.UnaryOp .USub (.Constant (.int 1) k p1) p2)) p3) pos) (dRv f fl) :=
  pe_imp (pe_rv ha hl) fun σ H Q q => by
    obtain ⟨F0, H0, τ0, F, τ, T, δ, s, p⟩ := q
    refine cG_bind s p fun x v F1 H1 τ1 T1 s1 g1 r1 p1 => ?_
    refine cG_bind s1 p1 fun l l' F2 H2 τ2 T2 s2 g2 r2 p2 => ?_
    cases r2
    have r1 := r1.mono g2.ff g2.tm
    cases x with
    | tup ds =>
      have p2 : Pst X.mg W (Rep X.K) σ F2 H2 τ2 Q (.ok (.tup (ds.take (HT.rvN ds.length l)).reverse) T2) := p2
      unfold Rep at r1
      obtain ⟨b, vs, rfl, h1, h2⟩ := r1
      refine ⟨b, vs, rfl, sqT_mono s2.go.fh h1, fun q hq => ?_⟩
      have g := Go.new (τ := τ2) (o := .tup (vs.take (HT.rvN vs.length l)).reverse) s2.go.fh hq
      refine p2 _ _ _ τ2 g (s2.tp.upd (s2.tp.off hq)) ?_
      unfold Rep
      refine ⟨q, _, rfl, .inl (.inl upd_same), ?_⟩
      rw [← h2.len]
      exact ((h2.take _).reverse).mono g.ff fun _ e => e
    | _ => exact p2.elim
/-- l[::-1], a list -/
def lRev (f : DEnv → Mo D) : DEnv → Mo (List D) := fun δ T => (f δ T).bind fun x T1 => (lift (lstO x) T1).bind fun ds T2 => .ok ds.reverse T2
theorem dl_rev {k : Nat} {p1 p2 p3 : Pos} (ha : DE X W a f) : DL X W (.Subscript a (.Slice none none (some (.UnaryOp .USub (.Constant (.int 1) k p1) p2)) p3) pos) (lRev f) := pe_imp (pe_revL ha) fun σ H Q q => by
  obtain ⟨F0, H0, τ0, F, τ, T, δ, s, p⟩ := q
  refine cG_bindL s p fun x v F1 H1 τ1 T1 s1 g1 r1 p1 => ?_
  cases ex : lstO x with
  | none => rw [ex] at p1; exact p1.elim
  | some ds =>
    rw [ex] at p1
    rw [lstO_eq ex] at r1
    unfold Rep at r1
    obtain ⟨b, vs, rfl, h1, h2⟩ := r1
    refine ⟨b, vs, rfl, .inl (.inl (s1.go.fh _ _ h1)), fun q hq => ?_⟩
    exact p1 q _ F1 _ τ1 (Go.newH s1.go.fh hq) (s1.tp.upd (s1.tp.off hq)) upd_same h2.reverse (s1.go.fh.free hq) hq (s1.tp.off hq)
end
end DD

/-! DD12: the tape of draws: made, drawn from; recursion by depth. -/
namespace DD
open PySem PySem.Spec PyProof.Rows L2
section
variable {K : Kf} {W : WX} {X : Cx} {a b c : Expr} {pos : Pos} {f g h : DEnv → Mo D} {fa : DEnv → Mo (List D)}
def mkTape (ds : List D) (x : D) : Mo D := fun T => T.elim ((intsOf ds).elim .stuck fun ns => (asI x).elim .stuck fun s => .ok .tape (some ⟨ns, s⟩)) fun _ => .stuck
def dTape (fa : DEnv → Mo (List D)) (f : DEnv → Mo D) : DEnv → Mo D := fun δ T => (fa δ T).bind fun ds T1 => (f δ T1).bind fun x T2 => mkTape ds x T2
/-- [cells, seed] -/
theorem de_tape (hl : DL X W a fa) (he : DE X W b f) (hs1 : starEach [a, b] X.env = (false, eval a X.env) :: starEach [b] X.env := by rfl) (hs2 : starEach [b] X.env = (false, eval b X.env) :: starEach [] X.env := by rfl) : DE X W (.List [a, b] pos) (dTape fa f) :=
  pe_imp (pe_lst (pa_cons hl (pa_cons he pa_nil hs2) hs1)) fun σ H Q q => by
    obtain ⟨F0, H0, τ0, F, τ, T, δ, s, p⟩ := q
    unfold dTape at p
    refine ⟨F0, H0, τ0, F, τ, T, δ, s, ?_⟩
    cases e : fa δ T with
    | exc x T1 => rw [e] at p; exact p
    | stuck => rw [e] at p; exact p
    | ok ds T1 =>
      rw [e] at p
      intro q vs F1 H1 τ1 go tp k1 k2 k3 k4 k5
      have p : Pst X.mg W (Rep X.K) σ F H τ Q ((f δ T1).bind fun x T2 => mkTape ds x T2) := p
      refine ⟨F0, H0, τ0, F1, τ1, T1, δ, s.step go tp, ?_⟩
      cases e2 : f δ T1 with
      | exc x T2 =>
        rw [e2] at p
        exact fun c dd F' H' τ' g t ex => p c dd F' H' τ' (go.trans g) t ex
      | stuck => rw [e2] at p; exact p
      | ok x T2 =>
        rw [e2] at p
        have p : Pst X.mg W (Rep X.K) σ F H τ Q (mkTape ds x T2) := p
        intro v F2 H2 τ2 go2 tp2 r2
        refine ⟨by show 2 ≤ sizeLine; rw [sizeLine_eq]; decide, fun l hl => ?_⟩
        unfold mkTape at p
        cases T2 with
        | some z => exact p.elim
        | none =>
          have ht : τ2 = none := by
            cases τ2 with
            | none => rfl
            | some z => exact tp2.elim
          have p : Pst X.mg W (Rep X.K) σ F H τ Q ((intsOf ds).elim .stuck fun ns => (asI x).elim .stuck fun s => .ok .tape (some ⟨ns, s⟩)) := p
          cases en : intsOf ds with
          | none => rw [en] at p; exact p.elim
          | some ns =>
            rw [en] at p
            have p : Pst X.mg W (Rep X.K) σ F H τ Q ((asI x).elim .stuck fun s => .ok .tape (some ⟨ns, s⟩)) := p
            cases ex : asI x with
            | none => rw [ex] at p; exact p.elim
            | some sd =>
              rw [ex] at p
              have p : Pst X.mg W (Rep X.K) σ F H τ Q (.ok .tape (some ⟨ns, sd⟩)) := p
              subst ht
              rw [asI_eq ex] at r2
              unfold Rep at r2
              subst r2
              rw [intsOf_eq en] at k2
              have hq2 : H2 q = some (.lst (ns.map V.int)) := by rw [← k2.of_ints]; exact go2.hh _ _ k1 k5
              have nql : l ≠ q := fun z => by rw [z, hq2] at hl; cases hl
              have gg := go.trans go2
              have hτ : τ = none := by
                cases τ with
                | none => rfl
                | some z => have := gg.tm z rfl; cases this
              refine p (.ref l) F2 _ (some ⟨l, q⟩) ⟨gg.ff, fun b o e => ?_, fun b o e n => ?_, fun b e => ?_, gg.nw, ?_⟩ ?_ ?_
              · rw [upd_ne (ne_of_none (go2.fh _ _ e) hl)]; exact go2.fh _ _ e
              · have := gg.hh b o e n
                rw [upd_ne (ne_of_none this hl)]; exact this
              · by_cases z : b = l
                · rw [z, upd_same] at e; cases e
                · rw [upd_ne z] at e; exact gg.dom _ e
              · refine .inr ⟨hτ, ⟨l, q⟩, rfl, gg.dom _ hl, k4, go2.fh.free hl, go2.fnone k3 k1, by rw [upd_same]; simp, ?_⟩
                show upd H2 l _ q ≠ none
                rw [upd_ne (Ne.symm nql), hq2]; simp
              · refine ⟨nql, upd_same, ?_⟩
                show upd H2 l _ q = _
                rw [upd_ne (Ne.symm nql)]; exact hq2
              · unfold Rep; exact ⟨⟨l, q⟩, rfl, rfl⟩
end
/-! ### a draw -/
def zeros : List Int → List Int
  | [] => []
  | c :: r => if c = 0 then zeros r else c :: r
def drawT (m : Int) (x : Tape) : Out D := match zeros x.cells with
  | c :: r => .ok (.int (c % m)) (some ⟨c / m :: r, x.seed⟩)
  | [] => .ok (.int ((x.seed * 48271 + 12345) % 2147483647 / 64 % m)) (some ⟨[], (x.seed * 48271 + 12345) % 2147483647⟩)
def drawOk (m : Int) : Bool := posI m && Nat.blt m.natAbs 115792089237316195423570985008687907853269984665640564039457584007913129639936
def denDraw : List D → Mo D
  | [.tape, .int m], some x => if drawOk m = true then drawT m x else .stuck
  | _, _ => .stuck
def rInt1 : List V → Hp → VK → Prop := fun xs H Q => (∃ i, xs = [.int i] ∧ Q (.int i) H) ∨ ∃ k, xs = [.bl k] ∧ Q (.int (if k = true then 1 else 0)) H
def rLenS2 (K : Kf) : List V → Hp → VK → Prop := fun xs H Q => ∃ p ys, xs = [.ref p] ∧ (SqL K H p ys ∨ SqT K H p ys) ∧ Q (.int ys.length) H
def rMod0 : R2 := rI (fun _ j => 0 < j) fun i j => .int (i % j)
def tLen0 (K : Kf) : TT := tTest (tOp (rI0 fun i j => .bl (decide (j < i))) (tCB (rLenS2 K) (tCons (tVar 2) tNil)) (tC (.int 0)))
def tDraw (K : Kf) : TS :=
  tSeq (tAsg (tOp (rIxL K) (tVar 0) (tC (.int 0))) (gName 2))
  (tSeq (tWhile (tAnd (tLen0 K) (tTest (tOp rEq (tOp (rIxL K) (tVar 2) (tC (.int 0))) (tC (.int 0))))) (tDrop (tBM K "list" rPopAt (tVar 2) (tCons (tC (.int 0)) tNil))))
  (tSeq (tIfS (tLen0 K)
      (tSeq (tAsg (tOp (rIxL K) (tVar 2) (tC (.int 0))) (gName 3))
      (tSeq (tAsg (tOp (rI CDivW fun i j => .int (i / j)) (tVar 3) (tVar 1)) (gSub (tVar 2) (tC (.int 0)) rSetL))
      (tRet (tOp rMod0 (tCB rInt1 (tCons (tVar 3) tNil)) (tVar 1))))) tNext)
  (tSeq (tAsg (tOp rMod0 (tCB rInt1 (tCons (tOp (rI0 fun i j => .int (i + j)) (tOp (rI CMul fun i j => .int (i * j)) (tOp (rIxL K) (tVar 0) (tC (.int 1))) (tC (.int 48271))) (tC (.int 12345))) tNil)) (tC (.int 2147483647))) (gSub (tVar 0) (tC (.int 1)) rSetL))
  (tRet (tOp rMod0 (tCB rInt1 (tCons (tOp (rI CDivW fun i j => .int (i / j)) (tOp (rIxL K) (tVar 0) (tC (.int 1))) (tC (.int 64))) tNil)) (tVar 1))))))
section
variable {K : Kf}
theorem draw_run {mg : Str → Option Value} {vs : List V} {H : Hp} {Q : VK} {E : XK} (h : SpD K mg 2 denDraw vs H Q E) : tDraw K { nx := fun _ H' => Q .non H', rt := Q } (L2.start ["tape", "many", "cells", "number"] vs) H := by
  obtain ⟨F, τ, T, ds, fh, tf, tp, rs, hl, p⟩ := h
  unfold denDraw at p
  split at p
  case h_2 => exact p.elim
  rename_i m x
  split at p
  case isFalse => exact p.elim
  rename_i hm
  obtain ⟨v, u, rfl, r1, r2⟩ := reps2 rs
  unfold Rep at r1 r2
  obtain ⟨t, rfl, rfl⟩ := r1
  subst r2
  obtain ⟨n1, n2, n3⟩ := tp
  obtain ⟨f1, f2⟩ := tf t rfl
  unfold drawOk at hm
  rw [Bool.and_eq_true, posI_eq, Nat.blt_eq] at hm
  have hd : CDivW 0 m := wide_div (b := 256) hm.1 (by omega) (by decide) (by decide)
  have hd' : ∀ i, CDivW i m := fun i => hd
  -- the world's end
  have fin : ∀ (H' : Hp) (x' : Tape) (r : Int), (∀ b, b ≠ t.t → b ≠ t.c → H' b = H b) → H' t.t = some (.lst [.ref t.c, .int x'.seed]) → H' t.c = some (.lst (x'.cells.map V.int)) → Pst mg (fun c dd _ H' => E c dd H') (Rep K) [] F H (some t) Q (.ok (.int r) (some x')) → Q (.int r) H' := fun H' x' r e1 e2 e3 p => by
    refine p (.int r) F H' (some t) ⟨fun _ _ e => e, fun b o e => ?_, fun b o e n => ?_, fun b e => ?_, fun _ _ e => .inl e, .inl rfl⟩ ⟨n1, e2, e3⟩ (by unfold Rep; rfl)
    · rw [e1 b (fun z => by rw [z, f1] at e; cases e) (fun z => by rw [z, f2] at e; cases e)]
      exact fh _ _ e
    · obtain ⟨k1, k2⟩ := n t rfl
      rw [e1 b k1 k2]; exact e
    · by_cases z1 : b = t.t
      · rw [z1, e2] at e; cases e
      · by_cases z2 : b = t.c
        · rw [z2, e3] at e; cases e
        · rw [e1 b z1 z2] at e; exact e
  have st : L2.start ["tape", "many", "cells", "number"] [.ref t.t, .int m] = [some (.ref t.t), some (.int m), none, none] := rfl
  rw [st]
  refine ⟨.ref t.t, rfl, t.t, _, 0, .ref t.c, rfl, rfl, .inl (.inl n2), rfl, ?_⟩
  show tSeq _ _ _ [some (.ref t.t), some (.int m), some (.ref t.c), none] H
  refine ⟨fun k σ H' => σ = [some (.ref t.t), some (.int m), some (.ref t.c), none] ∧ ∃ cs : List Int, k = cs.length ∧ zeros cs = zeros x.cells ∧ H' t.c = some (.lst (cs.map V.int)) ∧ ∀ b, b ≠ t.c → H' b = H b, ⟨_, rfl, x.cells, rfl, rfl, n3, fun _ _ => rfl⟩, ?_⟩
  rintro k σ H1 ⟨rfl, cs, rfl, hz, hc, ho⟩
  have ht : H1 t.t = some (.lst [.ref t.c, .int x.seed]) := by rw [ho _ n1]; exact n2
  refine ⟨.ref t.c, rfl, t.c, cs.map V.int, rfl, .inl (.inl (.inl hc)), _, _, rfl, rfl, _, rfl, ?_⟩
  cases cs with
  | nil =>
    have hno : ¬ (decide ((0 : Int) < ((([] : List Int).map V.int).length : Nat)) = true) := by simp
    rw [if_neg hno]
    show (if (false = true) then _ else _)
    rw [if_neg Bool.false_ne_true]
    refine ⟨.ref t.c, rfl, t.c, _, rfl, .inl (.inl (.inl hc)), _, _, rfl, rfl, _, rfl, ?_⟩
    show (if (decide ((0 : Int) < ((([] : List Int).map V.int).length : Nat))) = true then _ else _)
    rw [if_neg hno]
    have p : Pst mg (fun c dd _ H' => E c dd H') (Rep K) [] F H (some t) Q (.ok (.int ((x.seed * 48271 + 12345) % 2147483647 / 64 % m)) (some ⟨[], (x.seed * 48271 + 12345) % 2147483647⟩)) := by
      unfold drawT at p
      rw [← hz] at p
      exact p
    refine ⟨.ref t.t, rfl, t.t, _, 1, .int x.seed, rfl, rfl, .inl (.inl ht), rfl, ?_⟩
    refine ⟨_, _, rfl, rfl, .inr ⟨by decide, by decide⟩, ?_⟩
    refine ⟨_, _, rfl, rfl, .inl ⟨_, rfl, ?_⟩⟩
    refine ⟨_, _, rfl, rfl, (show (0 : Int) < 2147483647 by decide), ?_⟩
    refine ⟨.ref t.t, rfl, t.t, _, 1, 1, rfl, rfl, ht, rfl, ?_⟩
    refine ⟨.ref t.t, rfl, t.t, _, 1, .int ((x.seed * 48271 + 12345) % 2147483647), rfl, rfl, .inl (.inl upd_same), rfl, ?_⟩
    refine ⟨_, _, rfl, rfl, ⟨by decide, by decide⟩, ?_⟩
    refine .inl ⟨_, rfl, ?_⟩
    refine ⟨.int m, rfl, _, _, rfl, rfl, hm.1, ?_⟩
    refine fin _ ⟨[], _⟩ _ (fun b z1 z2 => ?_) upd_same ?_ p
    · rw [upd_ne z1]; exact ho b z2
    · rw [upd_ne (Ne.symm n1)]; exact hc
  | cons c0 r =>
    show (if (decide ((0 : Int) < (((c0 :: r).map V.int).length : Nat))) = true then _ else _)
    have hpos : decide ((0 : Int) < (((c0 :: r).map V.int).length : Nat)) = true := by simp
    rw [if_pos hpos]
    refine ⟨.ref t.c, rfl, t.c, _, 0, .int c0, rfl, rfl, .inl (.inl hc), ?_, ?_⟩
    · unfold atI ixN
      simp
    refine ⟨rfl, _, rfl, ?_⟩
    by_cases z0 : c0 = 0
    · show (if decide (V.int c0 = V.int 0) = true then _ else _)
      rw [if_pos (decide_eq_true (by rw [z0]))]
      refine ⟨fun σ' H' => σ' = [some (.ref t.t), some (.int m), some (.ref t.c), none] ∧ ∃ cs : List Int, cs.length < (c0 :: r).length ∧ zeros cs = zeros x.cells ∧ H' t.c = some (.lst (cs.map V.int)) ∧ ∀ b, b ≠ t.c → H' b = H b, ?_, ?_⟩
      · rintro σ' H' ⟨e, cs, e1, e2⟩
        exact ⟨cs.length, e1, e, cs, rfl, e2⟩
      · refine ⟨.ref t.c, rfl, tyV_own hc, ?_⟩
        refine ⟨t.c, _, 0, 0, .int c0, rfl, rfl, hc, by decide, by decide, ?_, rfl, ?_⟩
        · unfold seqIndex?
          simp
        refine ⟨rfl, r, by simp, ?_, upd_same, fun b z => by rw [upd_ne z]; exact ho b z⟩
        rw [← hz]
        show _ = if c0 = 0 then zeros r else c0 :: r
        rw [if_pos z0]
    · show (if decide (V.int c0 = V.int 0) = true then _ else _)
      rw [if_neg (by simpa using z0)]
      refine ⟨.ref t.c, rfl, t.c, _, rfl, .inl (.inl (.inl hc)), _, _, rfl, rfl, _, rfl, ?_⟩
      show (if (decide ((0 : Int) < (((c0 :: r).map V.int).length : Nat))) = true then _ else _)
      rw [if_pos hpos]
      have p : Pst mg (fun c dd _ H' => E c dd H') (Rep K) [] F H (some t) Q (.ok (.int (c0 % m)) (some ⟨c0 / m :: r, x.seed⟩)) := by
        unfold drawT at p
        rw [← hz] at p
        have e : zeros (c0 :: r) = c0 :: r := if_neg z0
        rw [e] at p
        exact p
      refine ⟨.ref t.c, rfl, t.c, _, 0, .int c0, rfl, rfl, .inl (.inl hc), ?_, ?_⟩
      · unfold atI ixN
        simp
      refine ⟨.int c0, rfl, .int m, rfl, _, _, rfl, rfl, hd' _, ?_⟩
      refine ⟨.ref t.c, rfl, t.c, _, 0, 0, rfl, rfl, hc, ?_, ?_⟩
      · unfold ixN
        simp
      refine ⟨.int c0, rfl, .inl ⟨_, rfl, ?_⟩⟩
      refine ⟨.int m, rfl, _, _, rfl, rfl, hm.1, ?_⟩
      refine fin _ ⟨c0 / m :: r, x.seed⟩ _ (fun b z1 z2 => ?_) ?_ upd_same p
      · rw [upd_ne z2]; exact ho b z2
      · rw [upd_ne n1]; exact ht
end
section
variable {P : Program} {w : World} {K : Kf} {mg : Str → Option Value} {base : Heap}
theorem okDraw {st : Stmt} (T : Def K mg "_law_draw" st ["tape", "many"]) (S : FnScope ["tape", "many", "cells", "number"] ["tape", "many"] (defScope st))
    (hbody : ∀ (f : Addr) (cdv : Value) (A : Around) (outer : List PySem.Env) (s : Shared) (H : Hp) (E : XK),
      PassesOwn (model P w) (BX P w K mg base ["tape", "many", "cells", "number"] "_law_draw" (defScope st) f cdv A outer s H E).A (BX P w K mg base ["tape", "many", "cells", "number"] "_law_draw" (defScope st) f cdv A outer s H E).env (BX P w K mg base ["tape", "many", "cells", "number"] "_law_draw" (defScope st) f cdv A outer s H E).xe →
      ∃ t, PSs (BX P w K mg base ["tape", "many", "cells", "number"] "_law_draw" (defScope st) f cdv A outer s H E) (defBody st) t ∧ t = tDraw K) : OkF P w K mg base "_law_draw" ["tape", "many"] 1 2 denDraw := by
  obtain ⟨f, fd, F⟩ := T
  refine ⟨f, fd, F.g, F.F.kp, F.b, ?_⟩
  exact F.F.okX S (fun vs H Q E h => by rw [SpD.len h]; rfl) fun cdv A outer s H vs Q E hr h => by
    obtain ⟨t, h1, rfl⟩ := hbody f cdv A outer s H E (passes_of rfl)
    exact ⟨_, h1, draw_run h⟩
/-- nothing is promised -/
theorem dss_stuck {X : Cx} {W : WX} {sts : List Stmt} : DSs X W sts (fun _ _ => .stuck) := ⟨fun pins s σ H D I q => by
  obtain ⟨F0, H0, τ0, F, τ, T, δ, _, p⟩ := q
  exact p.elim⟩
/-- a def that calls itself, to a depth -/
def fixD (n : Nat) (F : (List D → Mo D) → List D → Mo D) : List D → Mo D := Nat.rec (motive := fun _ => List D → Mo D) (fun _ _ => .stuck) (fun _ r => F r) n
theorem fixD_succ (n : Nat) (F : (List D → Mo D) → List D → Mo D) : fixD (n + 1) F = F (fixD n F) := rfl
theorem okFix {x : Str} {st : Stmt} {N ps : List Str} {m k j : Nat} {g : (List D → Mo D) → SD} (T : Def K mg x st ps) (S : FnScope N ps (defScope st)) (hn : ps.length = m) (hk : N.length = m + k)
    (hbody : ∀ (i : Nat) (den : List D → Mo D), j ≤ i → OkF P w K mg base x ps i m den → ∀ (f : Addr) (cdv : Value) (A : Around) (outer : List PySem.Env) (s : Shared) (H : Hp) (E : XK), Room i (BX P w K mg base N x (defScope st) f cdv A outer s H E).A → (BX P w K mg base N x (defScope st) f cdv A outer s H E).A.units + 64 < cLine → Takes (BX P w K mg base N x (defScope st) f cdv A outer s H E) (WF E) →
      PassesOwn (model P w) (BX P w K mg base N x (defScope st) f cdv A outer s H E).A (BX P w K mg base N x (defScope st) f cdv A outer s H E).env (BX P w K mg base N x (defScope st) f cdv A outer s H E).xe →
      DSs (BX P w K mg base N x (defScope st) f cdv A outer s H E) (WF E) (defBody st) (g den)) : ∀ n, OkF P w K mg base x ps (j + 1 + n) m (fixD n fun den => runD k (g den))
  | 0 => by
    have h := okF (P := P) (w := w) (base := base) (j := j) (g := fun _ _ => .stuck) T S hn hk fun f cdv A outer s H E hr hu tk po => dss_stuck
    have e : runD k (fun _ _ => OS.stuck) = fun _ _ => Out.stuck := rfl
    rw [e] at h
    exact h
  | n + 1 => by
    have ih := okFix T S hn hk hbody n
    exact okF (j := j + 1 + n) T S hn hk fun f cdv A outer s H E hr hu tk po => hbody _ _ (by omega) ih f cdv A outer s H E hr hu tk po
end
/-! ### the draws reckoned -/
theorem drawOk_of {m : Nat} (h : 0 < m) (h' : m < 1000000000000) : drawOk (m : Int) = true := by
  unfold drawOk
  rw [Bool.and_eq_true, posI_eq, Nat.blt_eq]
  omega
theorem draw_den {m : Nat} (h : 0 < m) (h' : m < 1000000000000) (x : Tape) : ∃ r : Nat, r < m ∧ ∃ x', denDraw [.tape, .int m] (some x) = .ok (.int r) (some x') := by
  have e : denDraw [.tape, .int m] (some x) = drawT m x := by
    show (if drawOk (m : Int) = true then drawT m x else .stuck) = _
    rw [if_pos (drawOk_of h h')]
  rw [e]
  unfold drawT
  cases zeros x.cells with
  | nil =>
    refine ⟨((x.seed * 48271 + 12345) % 2147483647 / 64 % (m : Int)).toNat, ?_, ⟨[], (x.seed * 48271 + 12345) % 2147483647⟩, ?_⟩
    · have h1 := Int.emod_lt_of_pos ((x.seed * 48271 + 12345) % 2147483647 / 64) (show (0 : Int) < m by omega)
      omega
    · have h1 := Int.emod_nonneg ((x.seed * 48271 + 12345) % 2147483647 / 64) (show (m : Int) ≠ 0 by omega)
      rw [Int.toNat_of_nonneg h1]
  | cons c r =>
    refine ⟨(c % (m : Int)).toNat, ?_, ⟨c / m :: r, x.seed⟩, ?_⟩
    · have h1 := Int.emod_lt_of_pos c (show (0 : Int) < m by omega)
      omega
    · have h1 := Int.emod_nonneg c (show (m : Int) ≠ 0 by omega)
      rw [Int.toNat_of_nonneg h1]
def pickB : SD := sRet (dBin oIx (dV 1) (dCall 2 denDraw (aC (dV 0) (aC (dB oLen (aC (dV 1) (aN))) (aN)))))
theorem pick_den (ds : List D) (h : 0 < ds.length) (h' : ds.length < 1000000) (x : Tape) : ∃ d ∈ ds, ∃ x', runD 0 pickB [.tape, .lst ds] (some x) = .ok d (some x') := by
  obtain ⟨r, hr, x', e⟩ := draw_den (m := ds.length) h (by omega) x
  have ei : atI ds ((r : Nat) : Int) = some ds[r] := by
    have : ixN ds.length ((r : Nat) : Int) = some r := by
      unfold ixN
      simp
      omega
    unfold atI
    rw [this]
    exact List.getElem?_eq_getElem hr
  refine ⟨ds[r], List.getElem_mem _, x', ?_⟩
  simp [runD_a, pickB, e, ei]
/-! ### own lists in a tuple assignment -/
section
variable {K : Kf} {W : WX} {X : Cx} {a b c : Expr} {pos : Pos} {f g h : DEnv → Mo D} {fa : DEnv → Mo (List D)}
/-- x, y = fresh list, e -/
def sAsgL (i j : Nat) (fa : DEnv → Mo (List D)) (f : DEnv → Mo D) : SD := fun δ T => (fa δ T).st δ fun ds T1 => (f δ T1).st δ fun d T2 => .nx ((δ.set i (.own ds)).set j (.val d)) T2
theorem cL_pair {mg : Str → Option Value} {i j : Nat} (hij : i ≠ j) {D : Ends} {σ : L2.St} {H : Hp} (q : cS K mg W (sAsgL i j fa f) D σ H) (R : List V → Hp → Prop)
    (k : ∀ (p : Addr) (v : V) (H2 : Hp), (∀ H3, (∀ b o, H2 b = some o → H3 b = some o) → (∀ b, H3 b = none → H2 b = none) → D.nx ((σ.set i (some (.ref p))).set j (some v)) H3) → R [.ref p, v] H2) :
    tCons (cL K mg W fa) (tCons (cG K mg W (Rep K) f) tNil) σ H R := by
  obtain ⟨F0, H0, τ0, F, τ, T, δ, s, p⟩ := q
  unfold sAsgL at p
  refine ⟨F0, H0, τ0, F, τ, T, δ, s, ?_⟩
  cases e : fa δ T with
  | exc x T1 =>
    rw [e] at p
    exact fun c dd F' H' τ' go tp ex => p c dd F' H' τ' σ (s.step go tp) ex
  | stuck => rw [e] at p; exact p
  | ok ds T1 =>
    rw [e] at p
    intro q vs F1 H1 τ1 go tp k1 k2 k3 k4 k5
    have s1 := s.step go tp
    refine ⟨F0, H0, τ0, F1, τ1, T1, δ, s1, ?_⟩
    have p : PstS K mg W F0 H0 τ0 D ((f δ T1).st δ fun d T2 => .nx ((δ.set i (.own ds)).set j (.val d)) T2) := p
    cases e2 : f δ T1 with
    | exc x T2 =>
      rw [e2] at p
      exact fun c dd F' H' τ' go tp ex => p c dd F' H' τ' σ (s1.step go tp) ex
    | stuck => rw [e2] at p; exact p
    | ok d T2 =>
      rw [e2] at p
      intro v F2 H2 τ2 go2 tp2 r2
      refine k q v H2 fun H3 hk hd => ?_
      have p : ∀ F H τ σ, SR K F0 H0 τ0 F H τ T2 ((δ.set i (.own ds)).set j (.val d)) σ → D.nx σ H := p
      have s2 := s1.step go2 tp2
      have go3 : Go F2 H2 τ2 F2 H3 τ2 := ⟨fun _ _ e => e, fun b o e => hk _ _ (go2.fh _ _ e), fun b o e _ => hk _ _ e, hd, fun _ _ e => .inl e, .inl rfl⟩
      have tp3 : TapeOk τ2 T2 H3 := tp2.same fun t e => by
        obtain ⟨⟨o1, h1⟩, ⟨o2, h2⟩⟩ := tp2.there e
        exact ⟨(hk _ _ h1).trans h1.symm, (hk _ _ h2).trans h2.symm⟩
      have s3 := s2.step go3 tp3
      have hq1 := go2.hh _ _ k1 k5
      refine p F2 H3 τ2 _ ((s3.setOwn (p := q) (hk _ _ hq1) (k2.mono go2.ff go2.tm) (go2.fnone k3 k1) ?_ (go2.off k1 k5) fun jj es ej z => ?_).set r2)
      · exact s.go.dom _ k4
      · obtain ⟨a, us, z1, z2, _⟩ := s.own jj es ej
        rw [z1] at z
        cases z
        rw [k4] at z2; cases z2
theorem ds_asgL (i j : Nat) {x y : Str} {px py pt : Pos} {kt k2 : Nat} {pt2 : Pos} (hc : X.calm = true) (hN : X.N.Nodup) (ha : DL X W a fa) (hb : DE X W b f) (hi : X.N[i]? = some x := by rfl) (hj : X.N[j]? = some y := by rfl) (hij : i ≠ j := by decide)
    (hx : Loc X.env.scope x := by first | exact Or.inl rfl | exact Or.inr rfl) (hy : Loc X.env.scope y := by first | exact Or.inl rfl | exact Or.inr rfl) (hfx : X.fn x = true ∨ X.env.scope.names.lookup x = some .local := by first | exact .inl rfl | exact .inr rfl | assumption) (hfy : X.fn y = true ∨ X.env.scope.names.lookup y = some .local := by first | exact .inl rfl | exact .inr rfl | assumption)
    (hs1 : starEach [a, b] X.env = (false, eval a X.env) :: starEach [b] X.env := by rfl) (hs2 : starEach [b] X.env = (false, eval b X.env) :: starEach [] X.env := by rfl)
    (hs : swapsWithSole [.Tuple [.Name x px, .Name y py] kt pt] (.Tuple [a, b] k2 pt2) pos.line X.env = pure false := by rfl) (hw : swappedStores [.Tuple [.Name x px, .Name y py] kt pt] (.Tuple [a, b] k2 pt2) X.env = pure none := by rfl)
    (h1 : (assignEach [.Tuple [.Name x px, .Name y py] kt pt] X.env).map (·.2) = [assign (.Tuple [.Name x px, .Name y py] kt pt) X.env] := by rfl)
    (hn : (assignEach [.Name x px, .Name y py] X.env).length = 2 := by rfl) (hst : (assignEach [.Name x px, .Name y py] X.env).findIdx? (·.1) = none := by rfl)
    (g1 : (assignEach [.Name x px, .Name y py] X.env).map (·.2) = assign (.Name x px) X.env :: (assignEach [.Name y py] X.env).map (·.2) := by rfl) (g2 : (assignEach [.Name y py] X.env).map (·.2) = assign (.Name y py) X.env :: (assignEach [] X.env).map (·.2) := by rfl) :
    DS X W (.Assign [.Tuple [.Name x px, .Name y py] kt pt] (.Tuple [a, b] k2 pt2) pos) (sAsgL i j fa f) :=
  ps_imp (ps_asg (pe_tup (pa_cons ha (pa_cons hb pa_nil hs2) hs1)) (pg_tup hc (pgs_cons (pg_name hN hi hx hfx) (pgs_cons (pg_name hN hj hy hfy) pgs_nil g2) g1) hn hst) hs hw h1) fun D σ H q => by
    unfold tAsg tTup
    refine cL_pair hij q _ fun p v H2 k => ⟨by show 2 ≤ sizeLine; rw [sizeLine_eq]; decide, fun l hl => ?_⟩
    refine ⟨l, _, rfl, .inl (.inl upd_same), rfl, _, _, rfl, _, _, rfl, rfl, ?_⟩
    refine k _ (fun b o e => ?_) fun b e => ?_
    · rw [upd_ne (ne_of_none e hl)]; exact e
    · by_cases z : b = l
      · subst z; exact hl
      · rw [upd_ne z] at e; exact e
/-- x, y = fresh list, e: both local -/
theorem ds_parL (i j : Nat) {x y : Str} {px py pt : Pos} {kt k2 : Nat} {pt2 : Pos} (hc : X.calm = true) (hN : X.N.Nodup) (ha : DL X W a fa) (hb : DE X W b f) (hi : X.N[i]? = some x := by rfl) (hj : X.N[j]? = some y := by rfl) (hij : i ≠ j := by decide)
    (hx : X.env.scope.names.lookup x = some .local := by rfl) (hy : X.env.scope.names.lookup y = some .local := by rfl) (hs1 : starEach [a, b] X.env = (false, eval a X.env) :: starEach [b] X.env := by rfl) (hs2 : starEach [b] X.env = (false, eval b X.env) :: starEach [] X.env := by rfl)
    (hw : swappedStores [.Tuple [.Name x px, .Name y py] kt pt] (.Tuple [a, b] k2 pt2) X.env = pure (some [x, y]) := by rfl)
    (hs : swapsWithSole [.Tuple [.Name x px, .Name y py] kt pt] (.Tuple [a, b] k2 pt2) pos.line X.env = pure false := by rfl) :
    DS X W (.Assign [.Tuple [.Name x px, .Name y py] kt pt] (.Tuple [a, b] k2 pt2) pos) (sAsgL i j fa f) := ps_imp (ps_par hc hN hi hj hij hx hy (pa_cons ha (pa_cons hb pa_nil hs2) hs1) hw hs) fun D σ H q => by
  refine cL_pair hij q _ fun p v H2 k => ⟨.ref p, v, rfl, k H2 (fun _ _ e => e) fun _ e => e⟩
end
end DD

/-! DD13: the later denotations reckoned. -/
namespace DD
open PySem PySem.Spec PyProof.Rows L2
section
variable {K : Kf} {W : WX} {X : Cx} {es : List Expr} {fa : DEnv → Mo (List D)}
theorem da_bor (i : Nat) (h : DA X W es fa) : DA X W es (borA i fa) := pa_imp h fun σ H Q q => cbor (fun F τ x v a ws => fun h1 h2 h3 => reps_del h1 h2 h3) q
end
section
variable {α β : Type} {δ : DEnv} {T : Option Tape} {f g h : DEnv → Mo D} {fa : DEnv → Mo (List D)} {t u : DEnv → Mo Bool} {g1 g2 b : SD}
@[simp] theorem ownL_zero (ds : List D) (r : DEnv) : ownL (Sl.own ds :: r) 0 = some ds := id rfl
@[simp] theorem ownL_un (r : DEnv) : ownL (Sl.un :: r) 0 = none := id rfl
@[simp] theorem ownL_val (d : D) (r : DEnv) : ownL (Sl.val d :: r) 0 = none := id rfl
@[simp] theorem ownL_succ (i : Nat) (x : Sl) (r : DEnv) : ownL (x :: r) (i + 1) = ownL r i := id rfl
@[simp] theorem borG_a (chk : α → Bool) (i : Nat) (f : DEnv → Mo α) : borG chk i f δ T = (ownL δ i).elim (f δ T) fun ds => (f (δ.set i (.val (.lst ds))) T).bind fun d T1 => chkO (chk d) (.ok d T1) := id rfl
@[simp] theorem chkO_true (o : Out α) : chkO true o = o := id rfl
@[simp] theorem chkO_false (o : Out α) : chkO false o = .stuck := id rfl
@[simp] theorem noL_non : noL .non = true := id rfl
@[simp] theorem noL_bl (x : Bool) : noL (.bl x) = true := id rfl
@[simp] theorem noL_int (x : Int) : noL (.int x) = true := id rfl
@[simp] theorem noL_str (x : Str) : noL (.str x) = true := id rfl
@[simp] theorem noL_tup (x : List D) : noL (.tup x) = noLs x := id rfl
@[simp] theorem noL_tape : noL .tape = true := id rfl
@[simp] theorem noLs_nil : noLs [] = true := id rfl
@[simp] theorem noLs_cons (x : D) (r : List D) : noLs (x :: r) = (noL x && noLs r) := id rfl
@[simp] theorem lstO_lst (ds : List D) : lstO (.lst ds) = some ds := id rfl
@[simp] theorem sApp_a (i : Nat) : sApp i f δ T = (ownL δ i).elim .stuck fun ds => (f δ T).st δ fun d T1 => if ds.length < line then .nx (δ.set i (.own (ds ++ [d]))) T1 else .stuck := id rfl
@[simp] theorem sExt_a (i : Nat) : sExt i f δ T = (ownL δ i).elim .stuck fun ds => (f δ T).st δ fun d T1 => (lstO d).elim .stuck fun es => if ds.length + es.length < line then .nx (δ.set i (.own (ds ++ es))) T1 else .stuck := id rfl
@[simp] theorem sSetAt_a (i : Nat) : sSetAt i f g δ T = (ownL δ i).elim .stuck fun ds => (f δ T).st δ fun d T1 => (g δ T1).st δ fun k T2 => (asI k).elim .stuck fun n => (ixN ds.length n).elim .stuck fun j => .nx (δ.set i (.own (ds.set j d))) T2 := id rfl
@[simp] theorem sFrz_a (i : Nat) : sFrz i g1 δ T = g1 (frz i δ) T := id rfl
theorem frz_own {i : Nat} {ds : List D} (h : ownL δ i = some ds) : frz i δ = δ.set i (.val (.lst ds)) := by
  unfold frz
  rw [ownL_eq h]
theorem frz_no {i : Nat} (h : ownL δ i = none) : frz i δ = δ := by
  unfold frz
  unfold ownL at h
  cases e : δ[i]? with
  | none => rfl
  | some x => cases x with
    | un => rfl
    | val d => rfl
    | own ds => rw [e] at h; cases h
@[simp] theorem lList_a : lList f δ T = (f δ T).bind fun x T1 => lift (seqOf x) T1 := id rfl
@[simp] theorem lCat_a : lCat f g δ T = (f δ T).bind fun x T1 => (g δ T1).bind fun y T2 => (lift (lstO x) T2).bind fun xs T3 => (lift (lstO y) T3).bind fun ys T4 => chkO (Nat.blt (xs.length + ys.length) line) (.ok (xs ++ ys) T4) := id rfl
@[simp] theorem dPart_a : dPart f δ T = (f δ T).bind fun x T1 => (lift (asI x) T1).bind fun i T2 => .ok (some i) T2 := id rfl
@[simp] theorem dNoPart_a : dNoPart δ T = .ok none T := id rfl
@[simp] theorem dSl_a (lo hi : DEnv → Mo (Option Int)) : dSl f lo hi δ T = (f δ T).bind fun x T1 => (lo δ T1).bind fun l T2 => (hi δ T2).bind fun u T3 => lift (cutO x l u) T3 := id rfl
@[simp] theorem cutO_tup (ds : List D) (lo hi : Option Int) : cutO (.tup ds) lo hi = some (.tup (cutD ds lo hi)) := id rfl
@[simp] theorem cutO_lst (ds : List D) (lo hi : Option Int) : cutO (.lst ds) lo hi = some (.lst (cutD ds lo hi)) := id rfl
@[simp] theorem dRv_a (lo : DEnv → Mo (Option Int)) : dRv f lo δ T = (f δ T).bind fun x T1 => (lo δ T1).bind fun l T2 => lift (rvO x l) T2 := id rfl
theorem rvO_tup (ds : List D) (lo : Option Int) : rvO (.tup ds) lo = some (.tup (ds.take (HT.rvN ds.length lo)).reverse) := id rfl
@[simp] theorem rvO_all (ds : List D) : rvO (.tup ds) none = some (.tup ds.reverse) := by
  rw [rvO_tup]
  show some (D.tup (ds.take ds.length).reverse) = _
  rw [List.take_length]
@[simp] theorem lRev_a : lRev f δ T = (f δ T).bind fun x T1 => (lift (lstO x) T1).bind fun ds T2 => .ok ds.reverse T2 := id rfl
@[simp] theorem dChain_a (o o' : D → D → Option D) : dChain o o' f g h δ T = (f δ T).bind fun x T1 => (g δ T1).bind fun y T2 => (lift ((o x y).bind asB) T2).bind fun k T3 => if k = true then (h δ T3).bind fun z T4 => lift (o' y z) T4 else .ok (.bl false) T3 := id rfl
@[simp] theorem dTape_a : dTape fa f δ T = (fa δ T).bind fun ds T1 => (f δ T1).bind fun x T2 => mkTape ds x T2 := id rfl
@[simp] theorem sAsgL_a (i j : Nat) : sAsgL i j fa f δ T = (fa δ T).st δ fun ds T1 => (f δ T1).st δ fun d T2 => .nx ((δ.set i (.own ds)).set j (.val d)) T2 := id rfl
@[simp] theorem lLc_a (fi : DEnv → Mo (List D)) (tg : TgD) (vs : List Nat) : lLc fi tg t f vs δ T = (fi δ T).bind fun ds T1 => if ds.length < line then lcD tg t f (wipeD δ vs) ds [] T1 else .stuck := id rfl
@[simp] theorem lcD_nil (tg : TgD) (acc : List D) : lcD tg t f δ [] acc T = .ok acc T := id rfl
theorem lcD_cons (tg : TgD) (d : D) (ds acc : List D) : lcD tg t f δ (d :: ds) acc T = (tg d δ).elim .stuck fun δ' => (t δ' T).bindQ fun b T1 => if b = true then (f δ' T1).bindQ fun y T2 => lcD tg t f δ ds (acc ++ [y]) T2 else lcD tg t f δ ds acc T1 := id rfl
@[simp] theorem tYesD_a : tYesD δ T = .ok true T := id rfl
@[simp] theorem wipeD_nil : wipeD δ [] = δ := id rfl
@[simp] theorem wipeD_cons (v : Nat) (vs : List Nat) : wipeD δ (v :: vs) = (wipeD δ vs).set v .un := id rfl
/-- a comprehension without an if, each element by a function -/
theorem lcD_map (i : Nat) (F : D → D) : ∀ (ds acc : List D), (∀ d ∈ ds, ∀ T, f (δ.set i (.val d)) T = .ok (F d) T) → lcD (tgN i) tYesD f δ ds acc T = .ok (acc ++ ds.map F) T
  | [], acc, _ => by simp
  | d :: ds, acc, h => by
    have ih := fun acc' => lcD_map i F ds acc' fun e he => h e (List.mem_cons_of_mem _ he)
    rw [lcD_cons]
    simp [h d List.mem_cons_self T, ih]
end
/-! ### the tape of a script -/
theorem intsOf_map : ∀ ns : List Int, intsOf (ns.map .int) = some ns
  | [] => rfl
  | n :: r => by
    show (intsOf (r.map .int)).map (n :: ·) = _
    rw [intsOf_map r]
    rfl
def tapeFor : SD := sSet 1 (dBin oMod (dB oInt (aC (dBin oAdd (dBin oMul (dV 1) (dC (.int 31))) (dV 2)) (aN))) (dC (.int 1000003)))
def tapeEl : DEnv → Mo D := dB oAbs (aC (dB oInt (aC (dV 2) (aN))) (aN))
def tapeB : SD := sSeq (sSet 1 (dC (.int 7))) (sSeq (sFor (iLst (dV 0)) (tgN 2) tapeFor) (sRet (dTape (lLc (iLst (dV 0)) (tgN 2) (tYesD) tapeEl [2]) (dBin oAdd (dV 1) (dC (.int 1))))))
theorem tape_for (a : Sl) : ∀ (ns : List Int) (sd : Int) (s2 : Sl) (T : Option Tape), ∃ sd' s2', forD (tgN 2) tapeFor (ns.map .int) [a, .val (.int sd), s2] T = .nx [a, .val (.int sd'), s2'] T
  | [], sd, s2, T => ⟨sd, s2, rfl⟩
  | n :: r, sd, s2, T => by
    obtain ⟨x, y, e⟩ := tape_for a r ((sd * 31 + n) % 1000003) (.val (.int n)) T
    refine ⟨x, y, ?_⟩
    rw [List.map_cons, forD_cons]
    simp [tapeFor, oMul_r, oMod_i]
    exact e
theorem tape_den (ns : List Int) (h : ns.length < 1000) : ∃ x, runD 2 tapeB [.scr ns] none = .ok .tape (some x) := by
  obtain ⟨sd, s2, e⟩ := tape_for (.val (.scr ns)) ns 7 .un none
  have hl : ns.length < line := line_pos _ h
  have e2 := lcD_map (f := tapeEl) (δ := [.val (.scr ns), .val (.int sd), .un]) (T := none) 2 (fun d => match d with | .int i => .int (if i < 0 then -i else i) | x => x) (ns.map .int) [] fun d hd T => by
    obtain ⟨n, _, rfl⟩ := List.mem_map.mp hd
    simp [tapeEl]
  have e3 : (ns.map D.int).map (fun d => match d with | .int i => D.int (if i < 0 then -i else i) | x => x) = (ns.map fun i => if i < 0 then -i else i).map .int := by
    rw [List.map_map, List.map_map]
    rfl
  rw [e3, List.nil_append] at e2
  refine ⟨⟨ns.map fun i => if i < 0 then -i else i, sd + 1⟩, ?_⟩
  have e4 := intsOf_map (ns.map fun i => if i < 0 then -i else i)
  simp [runD_a, tapeB, e, hl, e2]
  unfold mkTape
  simp only [List.map_map] at e4
  simp [e4]
@[simp] theorem oTuple_a (x : D) : oTuple [x] = (seqOf x).map fun ds => .tup ds := id rfl
@[simp] theorem oSum_a (x : D) : oSum [x] = (lstOf x).bind fun ds => (intsOf ds).map fun ns => .int ns.sum := id rfl
@[simp] theorem oAll_a (x : D) : oAll [x] = (lstOf x).bind fun ds => (blsOf ds).map fun ns => .bl (ns.all id) := id rfl
@[simp] theorem oAny_a (x : D) : oAny [x] = (lstOf x).bind fun ds => (blsOf ds).map fun ns => .bl (ns.any id) := id rfl
theorem blsOf_map : ∀ ns : List Bool, blsOf (ns.map .bl) = some ns
  | [] => rfl
  | n :: r => by
    show (blsOf (r.map .bl)).map (n :: ·) = _
    rw [blsOf_map r]
    rfl
theorem ix_at (ds : List D) (k : Nat) (h : k < ds.length) : atI ds ((k : Nat) : Int) = some ds[k] := by
  have : ixN ds.length ((k : Nat) : Int) = some k := by
    unfold ixN
    simp
    omega
  unfold atI
  rw [this]
  exact List.getElem?_eq_getElem h
end DD

/-! DD14: errors with one attribute: made, raised, caught by name. -/
namespace DD
open PySem PySem.Spec PyProof.Rows L2
/-- a statement of a class's body -/
def inCls : Stmt → Nat → Stmt
  | .ClassDef _ _ _ body _ _ _ _ _ _ _, k => body.getD k (.Pass ⟨0, 0, 0, 0⟩)
  | s, _ => s
section
variable {K : Kf} {F0 H0 F H : Hp} {τ0 τ : Option Tp} {T : Option Tape} {δ : DEnv} {σ : L2.St}
theorem SR.any (s : SR K F0 H0 τ0 F H τ T δ σ) {i : Nat} (u : Option V) : SR K F0 H0 τ0 F H τ T (δ.set i .un) (σ.set i u) := by
  have ne : ∀ {j : Nat} {x : Sl}, (δ.set i .un)[j]? = some x → x ≠ .un → i ≠ j := fun {j x} h n z => by
    subst z
    have l : i < δ.length := by
      have := (List.getElem?_eq_some_iff.mp h).1
      rwa [List.length_set] at this
    rw [List.getElem?_set_self l] at h
    cases h
    exact n rfl
  refine ⟨s.go, s.tp, s.tf, by rw [List.length_set, List.length_set]; exact s.len, fun j e h => ?_, fun j es h => ?_, fun j k es fs a n h1 h2 h3 => ?_⟩
  · have z := ne h (by intro z; cases z)
    rw [List.getElem?_set_ne z] at h ⊢
    exact s.val j e h
  · have z := ne h (by intro z; cases z)
    rw [List.getElem?_set_ne z] at h ⊢
    exact s.own j es h
  · have zj := ne h1 (by intro z; cases z)
    have zk := ne h2 (by intro z; cases z)
    rw [List.getElem?_set_ne zj] at h1 h3
    rw [List.getElem?_set_ne zk] at h2 ⊢
    exact s.dis j k es fs a n h1 h2 h3
end
/-- what the text says of the class x with an __init__ that keeps its one argument as fld -/
structure XiC (K : Kf) (mg : Str → Option Value) (x fld qual : Str) (ps : List Str) (st : Stmt) (C fI : Addr) (fd : FuncData) : Prop where
  O : OexC K C
  F : XfC K C
  g : mg x = some (.ref C)
  iC : PySem.W.findIn K (.ref C) "__init__" = some (some (.ref fI))
  tI : PySem.W.typeIn K (.ref fI) = some (.type "function")
  no : PySem.W.findIn K (.ref C) fld = some none
  D : Fun K "__init__" qual st fI fd
  b : Binds K fd ps []
def Xi (K : Kf) (mg : Str → Option Value) (x fld qual : Str) (ps : List Str) (st : Stmt) : Prop := ∃ C fI fd, XiC K mg x fld qual ps st C fI fd
def spI (K : Kf) (C : Addr) (fld : Str) : Sp := fun vs H Q _ => ∃ (a : Addr) (v : V), vs = [.ref a, v] ∧ OexC K C ∧ PySem.W.findIn K (.ref C) fld = some none ∧ H a = some (exo a C none) ∧ ∀ dx, H dx = none → dx ≠ a → Q .non (upd (upd H dx (exd dx [(fld, v)])) a (exo a C (some dx)))
section
variable {P : Program} {w : World} {K : Kf} {mg : Str → Option Value} {base : Heap}
theorem okInit {fld qual : Str} {st : Stmt} {fI C : Addr} {fd : FuncData} {ps : List Str} (D : Fun K "__init__" qual st fI fd) (S : FnScope ps ps (defScope st)) (hn : ps.length = 2)
    (hbody : ∀ (cdv : Value) (A : Around) (outer : List PySem.Env) (s : Shared) (H : Hp) (E : XK), PSs (cxOf (L2.CX P w) P w K mg base ps qual (defScope st) fI cdv A outer s H E) (defBody st) (tOst K fld (tVar 0) (tVar 1))) : FnOk P w K mg base (L2.CX P w) 1 fI fd ps (spI K C fld) :=
  D.okX S (fun vs H Q E h => by obtain ⟨a, v, rfl, _⟩ := h; exact hn.symm) fun cdv A outer s H vs Q E hr h => by
    refine ⟨_, hbody cdv A outer s H E, ?_⟩
    obtain ⟨a, v, rfl, h1, h2, h3, h4⟩ := h
    have st : L2.start ps [.ref a, v] = [some (.ref a), some v] := by
      unfold L2.start
      rw [hn]
      rfl
    rw [st]
    exact ⟨v, rfl, .ref a, rfl, a, C, rfl, h1, h2, .inl ⟨h3, fun dx n1 n2 => h4 dx n1 n2⟩⟩
end
section
variable {X : Cx} {W : WX} {a b c : Expr} {f g h : DEnv → Mo D} {pos : Pos}
def sRaiseI (x fld : Str) (f : DEnv → Mo D) : SD := fun δ T => (f δ T).st δ fun d T1 => (scD d).elim .stuck fun _ => .exc ⟨x, some (fld, d)⟩ δ T1
theorem ds_raiseI {x fld qual : Str} {ps : List Str} {st : Stmt} {p pos' : Pos} {j : Nat} (hc : X.calm = true) (tk : Takes X W) (hr : Room j X.A) (T : Xi X.K X.mg x fld qual ps st)
    (G : ∀ C fI fd, XiC X.K X.mg x fld qual ps st C fI fd → FnOk X.prog X.w X.K X.mg X.base (L2.CX X.prog X.w) 1 fI fd ps (spI X.K C fld)) (he : DE X W a f) (hj : 2 ≤ j := by decide) (hg : Gl X x := by rfl)
    (hdb : (x == ("__debug__" : Str)) = false := by decide) (hs : starEach [a] X.env = (false, eval a X.env) :: starEach [] X.env := by rfl) (hpl : (backTo pos (starEach [] X.env)).any (·.1) = false := by rfl) :
    DS X W (.Raise (some (.Call (.Name x p) [a] [] pos)) none pos') (sRaiseI x fld f) := by
  obtain ⟨C, fI, fd, T⟩ := T
  refine ps_imp (ps_raise hc tk (pmk_oex (ds := []) (dvs := []) T.O T.iC T.tI (G C fI fd T) (hr.mono hj) T.b .nil (passes_call (E := fun _ _ _ => False) tk fun _ _ _ _ z => z.elim) hg T.g (pa_cons he pa_nil hs) hdb hs hpl)) fun D σ H q => ?_
  obtain ⟨F0, H0, τ0, F, τ, T', δ, s, p⟩ := q
  refine cG_st s p fun x' v F1 H1 τ1 T1 s1 g1 r1 p1 => ?_
  cases es : scD x' with
  | none => rw [es] at p1; exact p1.elim
  | some u =>
    rw [es] at p1
    have hv := sc_rep es r1
    subst hv
    refine ⟨(show 1 ≤ 1000 by decide), fun l hl => ?_⟩
    refine ⟨l, v, rfl, T.O, T.no, upd_same, fun dx n1 n2 => ?_⟩
    have hdx : H1 dx = none := by rw [upd_ne n2] at n1; exact n1
    refine ⟨rfl, dx, _, upd_same, by rw [upd_ne n2]; exact upd_same, hdx, ?_⟩
    have e : upd (del (upd (upd (upd H1 l (exo l C none)) dx (exd dx [(fld, v)])) l (exo l C (some dx))) l) dx (.xd [(fld, v)]) = upd H1 dx (.xd [(fld, v)]) := by
      funext b
      by_cases z : b = dx
      · rw [z, upd_same, upd_same]
      · rw [upd_ne z, upd_ne z]
        by_cases z2 : b = l
        · rw [z2, del_same, hl]
        · rw [del_ne z2, upd_ne z2, upd_ne z, upd_ne z2]
    rw [e]
    have p1 : ∀ c dd F H τ σ, SR X.K F0 H0 τ0 F H τ T1 δ σ → ExR X.mg ⟨x, some (fld, x')⟩ c dd F → W c dd σ H := p1
    exact p1 (.ref C) (some dx) _ _ τ1 σ (s1.step (Go.new s1.go.fh hdx) (s1.tp.upd (s1.tp.off hdx))) ⟨C, T.g, rfl, dx, v, rfl, es, upd_same⟩
/-! ### try: .. except X as e: .. -/
/-- the name is gone behind the suite -/
def OS.drop (i : Nat) : OS → OS
  | .nx δ T => .nx (δ.set i .un) T
  | .ret d T => .ret d T
  | .bk δ T => .bk (δ.set i .un) T
  | .ct δ T => .ct (δ.set i .un) T
  | .exc _ _ _ => .stuck
  | .stuck => .stuck
def handleA (i : Nat) (sub : Str → Option Bool) (g : Exn → SD) (e : Exn) : SD := fun δ T => (sub e.cls).elim .stuck fun b => if b = true then (δ[i]?).elim .stuck fun _ => (g e (δ.set i .un) T).drop i else .exc e δ T
def sTryA (i : Nat) (g : SD) (sub : Str → Option Bool) (gs : Exn → SD) : SD := fun δ T => (g δ T).catch fun e => handleA i sub gs e
/-- a suite's reading by its denotation -/
def SuR (K : Kf) (mg : Str → Option Value) (i : Nat) (ts : Addr → Value → Option Addr → TS) (gs : Exn → SD) : Prop := ∀ (a : Addr) (c : Value) (dd : Option Addr) (D : Ends) (e : Exn) (F0 H0 F H : Hp) (τ0 τ : Option Tp) (T : Option Tape) (δ : DEnv) (σ : L2.St),
  SR K F0 H0 τ0 F H τ T (δ.set i .un) σ → σ[i]? = some (some (.ref a)) → ExR mg e c dd F → PstS K mg W0 F0 H0 τ0 D (gs e (δ.set i .un) T) → ts a c dd D σ H
theorem pst_drop {K : Kf} {mg : Str → Option Value} {F0 H0 : Hp} {τ0 : Option Tp} {D : Ends} {i : Nat} {o : OS} (h : PstS K mg W F0 H0 τ0 D (o.drop i)) :
    PstS K mg W0 F0 H0 τ0 { nx := fun σ' H' => D.nx (σ'.set i none) H', rt := D.rt, bk := fun σ' H' => D.bk (σ'.set i none) H', ct := fun σ' H' => D.ct (σ'.set i none) H' } o := by
  cases o with
  | nx δ T => exact fun F H τ σ s => h F H τ _ s.forget
  | ret d T => exact h
  | bk δ T => exact fun F H τ σ s => h F H τ _ s.forget
  | ct δ T => exact fun F H τ σ s => h F H τ _ s.forget
  | exc e δ T => exact h.elim
  | stuck => exact h.elim
theorem ds_tryA (i : Nat) {body suite : List Stmt} {b₀ : Stmt} {x n : Str} {rows : List (Str × Bool)} {g1 : SD} {gs : Exn → SD} {ts : Addr → Value → Option Addr → TS} {np pos' : Pos} (hs : X.stack = X.env :: X.outer) (hf : X.env.frame = some X.env.locals) (hN : X.N.Nodup) (tk : Takes X W) (T : SubIs X.K X.mg x rows)
    (hb : ∀ (W' : WX) (pn : List (Addr × Obj)) (xe : Value → Shared → Prop), Takes (X.tr pn xe) W' → PassesOwn (model X.prog X.w) X.A X.env xe → DSs (X.tr pn xe) W' body g1)
    (hsu : ∀ (a : Addr) (oe : Obj) (cls : Value) (d : Option Addr) (pn : List (Addr × Obj)), Zc cls d oe → (∃ vs, oe.data = .fields vs) → PSs (X.suite a ((a, oe) :: pn)) (b₀ :: suite) (ts a cls d)) (hr : SuR X.K X.mg i ts gs)
    (hi : X.N[i]? = some n := by rfl) (hk : X.env.kindOf n = some .local := by rfl) (hg : Gl X x := by rfl) (hdb : (x == ("__debug__" : Str)) = false := by decide) :
    DS X W (.Try body [.ExceptHandler (some (.Name x np)) (some n) (b₀ :: suite) pos'] [] [] pos) (sTryA i g1 (subOf rows) gs) := by
  obtain ⟨cv, hc⟩ := subOk T hg hdb
  refine ps_imp (ps_try_as (tb := fun W' => cS X.K X.mg W' g1) (ts := ts) hs hf hN hi hk hc.1 tk hb hsu) fun D σ H q => ?_
  obtain ⟨F0, H0, τ0, F, τ, T', δ, s, p⟩ := q
  refine ⟨F0, H0, τ0, F, τ, T', δ, s, ?_⟩
  unfold sTryA at p
  cases e : g1 δ T' with
  | nx δ' T1 => rw [e] at p; exact p
  | ret d T1 => rw [e] at p; exact p
  | bk δ' T1 => rw [e] at p; exact p
  | ct δ' T1 => rw [e] at p; exact p
  | stuck => rw [e] at p; exact p
  | exc ex δ' T1 =>
    rw [e] at p
    have p : PstS X.K X.mg W F0 H0 τ0 D (handleA i (subOf rows) gs ex δ' T1) := p
    unfold handleA at p
    intro c dd F1 H1 τ1 σ1 s1 er
    cases eb : subOf rows ex.cls with
    | none => rw [eb] at p; exact p.elim
    | some bb =>
      rw [eb] at p
      have p : PstS X.K X.mg W F0 H0 τ0 D (if bb = true then (δ'[i]?).elim .stuck fun _ => (gs ex (δ'.set i .un) T1).drop i else .exc ex δ' T1) := p
      obtain ⟨C, e1, e2, e3⟩ := id er
      refine ⟨bb, by rw [e2]; exact hc.2 _ _ _ e1 eb, fun hb a ha => ?_, fun hb => ?_⟩
      · subst hb
        rw [if_pos rfl] at p
        cases ei : δ'[i]? with
        | none => rw [ei] at p; exact p.elim
        | some z =>
          rw [ei] at p
          have li : i < σ1.length := by
            rw [s1.len]; exact (List.getElem?_eq_some_iff.mp ei).1
          exact hr a c dd _ ex F0 H0 F1 H1 τ0 τ1 T1 δ' _ (s1.any _) (List.getElem?_set_self li) er (pst_drop p)
      · subst hb
        rw [if_neg Bool.false_ne_true] at p
        exact p c dd F1 H1 τ1 σ1 s1 er
/-! the suites' forms -/
def exA (x fld : Str) (e : Exn) : Option D := if e.cls = x then e.arg.bind fun p => if p.1 = fld then some p.2 else none else none
theorem exA_eq {x fld : Str} {e : Exn} {d : D} {c : Value} {dd : Option Addr} {F : Hp} {mg : Str → Option Value} {C : Addr} (h : exA x fld e = some d) (g : mg x = some (.ref C)) (r : ExR mg e c dd F) : c = .ref C ∧ ∃ (l : Addr) (v : V), dd = some l ∧ F l = some (.xd [(fld, v)]) ∧ scD d = some v := by
  unfold exA at h
  split at h
  · rename_i hx
    obtain ⟨C', e1, e2, e3⟩ := r
    rw [hx, g] at e1
    cases e1
    refine ⟨e2, ?_⟩
    cases ea : e.arg with
    | none => rw [ea] at h; cases h
    | some p =>
      obtain ⟨y, z⟩ := p
      rw [ea] at h e3
      have h : (if y = fld then some z else none) = some d := h
      split at h
      · rename_i hy
        cases h
        obtain ⟨l, v, q1, q2, q3⟩ := e3
        exact ⟨l, v, q1, by rw [← hy]; exact q3, q2⟩
      · cases h
  · cases h
/-- return e.f -/
def gsRet (x fld : Str) : Exn → SD := fun e _ T => (exA x fld e).elim .stuck fun d => .ret d T
theorem su_ret {K : Kf} {mg : Str → Option Value} {i : Nat} {x fld : Str} {C : Addr} (g : mg x = some (.ref C)) : SuR K mg i (fun a c d => tRet (tXf a c d C fld (tVar i))) (gsRet x fld) := fun a c dd D e F0 H0 F H τ0 τ T δ σ s hσ er p => by
  unfold gsRet at p
  cases ed : exA x fld e with
  | none => rw [ed] at p; exact p.elim
  | some d =>
    rw [ed] at p
    obtain ⟨h1, l, v, h2, h3, h4⟩ := exA_eq ed g er
    refine ⟨.ref a, hσ, rfl, h1, l, _, v, h2, s.go.fh _ _ h3, by simp, ?_⟩
    exact p v F H τ s.go s.tp s.tf (rep_sc h4)
/-- return e.f == text -/
def gsEq (x fld lit : Str) : Exn → SD := fun e _ T => ((exA x fld e).bind fun d => oEq d (.str lit)).elim .stuck fun d => .ret d T
theorem su_eq {K : Kf} {mg : Str → Option Value} {i : Nat} {x fld lit : Str} {C : Addr} (g : mg x = some (.ref C)) : SuR K mg i (fun a c d => tRet (tOp (rEqD K) (tXf a c d C fld (tVar i)) (tC (.str lit)))) (gsEq x fld lit) := fun a c dd D e F0 H0 F H τ0 τ T δ σ s hσ er p => by
  unfold gsEq at p
  cases ed : exA x fld e with
  | none => rw [ed] at p; exact p.elim
  | some d =>
    rw [ed] at p
    have p : PstS K mg W0 F0 H0 τ0 D ((oEq d (.str lit)).elim .stuck fun d => .ret d T) := p
    obtain ⟨h1, l, v, h2, h3, h4⟩ := exA_eq ed g er
    refine ⟨.ref a, hσ, rfl, h1, l, _, v, h2, s.go.fh _ _ h3, by simp, ?_⟩
    show rEqD K v (.str lit) H D.rt
    cases eq : oEq d (.str lit) with
    | none => rw [eq] at p; exact p.elim
    | some r =>
      rw [eq] at p
      exact opd_eq F H τ T d (.str lit) v (.str lit) r D.rt s.go.fh s.tp (rep_sc h4) (by unfold Rep; rfl) eq fun w F' H' g' t' r' => p w F' H' τ (s.go.trans g') t' (g'.tf s.tp s.tf) r'
/-- n = n + (1 if e.f == text else 0) -/
def gsCnt (j : Nat) (x fld lit : Str) : Exn → SD := fun e δ T => ((exA x fld e).bind fun d => (oEq d (.str lit)).bind asB).elim .stuck fun b => ((slotD δ j).bind asI).elim .stuck fun n => .nx (δ.set j (.val (.int (n + if b = true then 1 else 0)))) T
theorem su_cnt {K : Kf} {mg : Str → Option Value} {i j : Nat} {x fld lit : Str} {C : Addr} (g : mg x = some (.ref C)) : SuR K mg i (fun a c d => tAsg (tOp (rI0 fun i j => .int (i + j)) (tVar j) (tIf (tTest (tOp (rEqD K) (tXf a c d C fld (tVar i)) (tC (.str lit)))) (tC (.int 1)) (tC (.int 0)))) (gName j)) (gsCnt j x fld lit) := fun a c dd D e F0 H0 F H τ0 τ T δ σ s hσ er p => by
  unfold gsCnt at p
  cases ed : exA x fld e with
  | none => rw [ed] at p; exact p.elim
  | some d =>
    rw [ed] at p
    obtain ⟨h1, l, v, h2, h3, h4⟩ := exA_eq ed g er
    cases eq : oEq d (.str lit) with
    | none =>
      have z : ((some d).bind fun d => (oEq d (.str lit)).bind asB) = none := by
        show (oEq d (.str lit)).bind asB = none
        rw [eq]; rfl
      rw [z] at p; exact p.elim
    | some r =>
      cases eb : asB r with
      | none =>
        have z : ((some d).bind fun d => (oEq d (.str lit)).bind asB) = none := by
          show (oEq d (.str lit)).bind asB = none
          rw [eq]; exact eb
        rw [z] at p; exact p.elim
      | some b =>
        have z : ((some d).bind fun d => (oEq d (.str lit)).bind asB) = some b := by
          show (oEq d (.str lit)).bind asB = some b
          rw [eq]; exact eb
        rw [z] at p
        have p : PstS K mg W0 F0 H0 τ0 D (((slotD (δ.set i .un) j).bind asI).elim .stuck fun n => .nx ((δ.set i .un).set j (.val (.int (n + if b = true then 1 else 0)))) T) := p
        cases es : slotD (δ.set i .un) j with
        | none => rw [es] at p; exact p.elim
        | some y =>
          cases ei : asI y with
          | none =>
            have z2 : ((some y).bind asI) = none := ei
            rw [es, z2] at p; exact p.elim
          | some n =>
            have z2 : ((some y).bind asI) = some n := ei
            rw [es, z2] at p
            obtain ⟨u, k1, k2⟩ := s.val j y (slotD_eq es)
            rw [asI_eq ei] at k2
            unfold Rep at k2
            subst k2
            refine ⟨.int n, k1, ?_⟩
            show tTest _ σ H _
            refine ⟨.ref a, hσ, rfl, h1, l, _, v, h2, s.go.fh _ _ h3, by simp, ?_⟩
            unfold tC
            refine opd_eq F H τ T d (.str lit) v (.str lit) r _ s.go.fh s.tp (rep_sc h4) (by unfold Rep; rfl) eq fun w F' H' g' t' r' => ?_
            rw [asB_eq eb] at r'
            unfold Rep at r'
            refine ⟨b, r', ?_⟩
            have p : ∀ F H τ σ', SR K F0 H0 τ0 F H τ T ((δ.set i .un).set j (.val (.int (n + if b = true then 1 else 0)))) σ' → D.nx σ' H := p
            cases b with
            | true => exact ⟨n, 1, rfl, rfl, p F' H' τ _ ((s.step g' t').set (by unfold Rep; rfl))⟩
            | false => exact ⟨n, 0, rfl, rfl, p F' H' τ _ ((s.step g' t').set (by unfold Rep; rfl))⟩
end
end DD

/-! DD15: in by deep equality; [x] * n. -/
namespace DD
open PySem PySem.Spec PyProof.Rows L2
theorem pys_map : ∀ ds : List D, pys ds = ds.map py
  | [] => by unfold pys; rfl
  | d :: r => by
    unfold pys
    rw [pys_map r]
    rfl
def inDeep (x : D) (es : List D) : Bool := es.any fun z => PyData.eqv (py z) (py x)
def oInD (neg : Bool) : D → D → Option D := fun x y => (lstO y).bind fun es => if shD x = true ∧ shD (.lst es) = true then some (.bl (if neg = true then !inDeep x es else inDeep x es)) else none
section
variable {K : Kf} {W : WX} {X : Cx} {a b c : Expr} {pos : Pos} {f g h : DEnv → Mo D} {fa : DEnv → Mo (List D)}
theorem opd_inD : OpD K (rInD K) (oInD false) := by
  intro F H τ T x y v u z Q fh tp r1 r2 e k
  unfold oInD at e
  cases el : lstO y with
  | none => rw [el] at e; cases e
  | some es =>
    rw [el] at e
    have e : (if shD x = true ∧ shD (.lst es) = true then some (D.bl (inDeep x es)) else none) = some z := e
    split at e
    · rename_i hs
      cases e
      rw [lstO_eq el] at r2
      have h2 : SeqAt.shaped (.list (pys es)) = true := by have := hs.2; unfold shD py at this; exact this
      have d2 := rep_dp fh r2 (SeqAt.canLay_of_shaped hs.2)
      unfold py at d2
      refine ⟨py x, pys es, rep_dp fh r1 (SeqAt.canLay_of_shaped hs.1), d2, hs.1, h2, ?_⟩
      have e3 : ((pys es).any fun z => PyData.eqv z (py x)) = inDeep x es := by
        rw [pys_map, List.any_map]
        rfl
      rw [e3]
      exact k _ F H (.refl fh) tp (by unfold Rep; rfl)
    · cases e
theorem opd_notInD : OpD K (rNotInD K) (oInD true) := by
  intro F H τ T x y v u z Q fh tp r1 r2 e k
  unfold oInD at e
  cases el : lstO y with
  | none => rw [el] at e; cases e
  | some es =>
    rw [el] at e
    have e : (if shD x = true ∧ shD (.lst es) = true then some (D.bl (!inDeep x es)) else none) = some z := e
    split at e
    · rename_i hs
      cases e
      rw [lstO_eq el] at r2
      have h2 : SeqAt.shaped (.list (pys es)) = true := by have := hs.2; unfold shD py at this; exact this
      have d2 := rep_dp fh r2 (SeqAt.canLay_of_shaped hs.2)
      unfold py at d2
      refine ⟨py x, pys es, rep_dp fh r1 (SeqAt.canLay_of_shaped hs.1), d2, hs.1, h2, ?_⟩
      have e3 : (!(pys es).any fun z => PyData.eqv z (py x)) = !inDeep x es := by
        rw [pys_map, List.any_map]
        rfl
      rw [e3]
      exact k _ F H (.refl fh) tp (by unfold Rep; rfl)
    · cases e
def oInA (neg : Bool) : D → D → Option D := fun x y => (oIn neg x y).or (oInD neg x y)
def rInA (K : Kf) : R2 := fun x y H Q => rIn K false x y H Q ∨ rInD K x y H Q
def rNotInA (K : Kf) : R2 := fun x y H Q => rIn K true x y H Q ∨ rNotInD K x y H Q
theorem room65 {k : Nat} {A : Around} (r : Room k A) : A.units + 65 < cLine := by
  have := r.un
  omega
theorem op_inA {k : Nat} (hr : Room k X.A) : OpR X (compareOp .In) (rInA X.K) := OpR.or op_in_seq (op_inD (room65 hr))
theorem op_notInA {k : Nat} (hr : Room k X.A) : OpR X (compareOp .NotIn) (rNotInA X.K) := OpR.or op_notIn_seq (op_notInD (room65 hr))
theorem opd_inA : OpD K (rInA K) (oInA false) := opd_in.or opd_inD
theorem opd_notInA : OpD K (rNotInA K) (oInA true) := opd_in.or opd_notInD
/-- xs * n, a list -/
def lRep (f g : DEnv → Mo D) : DEnv → Mo (List D) := fun δ T => (f δ T).bind fun x T1 => (g δ T1).bind fun y T2 => (lift (lstO x) T2).bind fun xs T3 => (lift (asI y) T3).bind fun n T4 => chkO (Nat.blt n.natAbs 1000000000000 && Nat.blt (xs.length * n.toNat) line) (.ok (List.replicate n.toNat xs).flatten T4)
theorem reps_rep {F : Hp} {τ : Option Tp} {ds : List D} {vs : List V} (r : Reps K F τ ds vs) : ∀ n, Reps K F τ (List.replicate n ds).flatten (List.replicate n vs).flatten
  | 0 => .nil
  | n + 1 => by
    rw [List.replicate_succ, List.replicate_succ, List.flatten_cons, List.flatten_cons]
    exact r.append (reps_rep r n)
theorem dl_rep (ha : DE X W a f) (hb : DE X W b g) : DL X W (.BinOp a .Mult b pos) (lRep f g) := pe_imp (pe_op op_rep ha hb) fun σ H Q q => by
  obtain ⟨F0, H0, τ0, F, τ, T, δ, s, p⟩ := q
  refine cG_bindL s p fun x v F1 H1 τ1 T1 s1 g1 r1 p1 => ?_
  refine cG_bindL s1 p1 fun y u F2 H2 τ2 T2 s2 g2 r2 p2 => ?_
  cases ex : lstO x with
  | none => rw [ex] at p2; exact p2.elim
  | some xs =>
    cases ey : asI y with
    | none => rw [ex, ey] at p2; exact p2.elim
    | some n =>
      rw [ex, ey] at p2
      have p2 : PstL X.K X.mg W σ F2 H2 τ2 Q (chkO (Nat.blt n.natAbs 1000000000000 && Nat.blt (xs.length * n.toNat) line) (.ok (List.replicate n.toNat xs).flatten T2)) := p2
      unfold chkO at p2
      split at p2
      · rename_i hl
        rw [Bool.and_eq_true, Nat.blt_eq, Nat.blt_eq] at hl
        rw [lstO_eq ex] at r1
        rw [asI_eq ey] at r2
        have r1 := r1.mono g2.ff g2.tm
        unfold Rep at r1 r2
        obtain ⟨l, vs, rfl, h1, h2⟩ := r1
        refine ⟨l, n, vs, rfl, r2, s2.go.fh _ _ h1, by omega, by omega, ?_, fun q hq => ?_⟩
        · rw [h2.len]; exact Nat.le_of_lt (line_lt hl.2)
        · exact p2 q _ F2 _ τ2 (Go.newH s2.go.fh hq) (s2.tp.upd (s2.tp.off hq)) upd_same (reps_rep h2 _) (s2.go.fh.free hq) hq (s2.tp.off hq)
      · exact p2.elim
/-- the list just set is data -/
def OS.frz (i : Nat) : OS → OS
  | .nx δ T => .nx (DD.frz i δ) T
  | .ret d T => .ret d T
  | .bk δ T => .bk δ T
  | .ct δ T => .ct δ T
  | .exc e δ T => .exc e δ T
  | .stuck => .stuck
def sFrzA (i : Nat) (g : SD) : SD := fun δ T => (g δ T).frz i
theorem pst_frz {mg : Str → Option Value} {F0 H0 : Hp} {τ0 : Option Tp} {D : Ends} {i : Nat} {o : OS} (h : PstS K mg W F0 H0 τ0 D (o.frz i)) : PstS K mg W F0 H0 τ0 D o := by
  cases o with
  | nx δ T =>
    intro F H τ σ s
    have h : ∀ F H τ σ, SR K F0 H0 τ0 F H τ T (DD.frz i δ) σ → D.nx σ H := h
    cases e : ownL δ i with
    | none =>
      refine h F H τ σ ?_
      rw [frz_no e]; exact s
    | some ds =>
      obtain ⟨F', s', _⟩ := s.freeze (ownL_eq e)
      refine h F' H τ σ ?_
      rw [frz_own e]; exact s'
  | ret d T => exact h
  | bk δ T => exact h
  | ct δ T => exact h
  | exc e δ T => exact h
  | stuck => exact h
theorem ds_frzA {st : Stmt} {g1 : SD} (i : Nat) (h : DS X W st g1) : DS X W st (sFrzA i g1) := ps_imp h fun D σ H q => by
  obtain ⟨F0, H0, τ0, F, τ, T, δ, s, p⟩ := q
  exact ⟨F0, H0, τ0, F, τ, T, δ, s, pst_frz p⟩
end
/-! ### range(i, j, c) -/
def rng3 : List D → Option (List D)
  | [.int i, .int j, .int c] => if (!decide (c = 0) && Nat.blt c.natAbs 1073741824 && Builtin.Range.small i j c && nnI (Builtin.Range.rangeSize i j c)) = true then some (rng i c (Builtin.Range.rangeSize i j c).toNat) else none
  | _ => none
def iR3 (fa : DEnv → Mo (List D)) : DEnv → Mo (List D) := fun δ T => (fa δ T).bind fun ds T1 => lift (rng3 ds) T1
theorem rng3_neg {i j : Int} (hi : rOk i = true) (hj : rOk j = true) : rng3 [.int i, .int j, .int (-1)] = some (rng i (-1) (i - j).toNat) := by
  obtain ⟨b1, b2⟩ := rOk_b hi
  obtain ⟨b3, b4⟩ := rOk_b hj
  obtain ⟨h1, h2, h3, h4⟩ := RgC.neg b1 b2 b3 b4
  show (if (!decide ((-1 : Int) = 0) && Nat.blt (-1 : Int).natAbs 1073741824 && Builtin.Range.small i j (-1) && nnI (Builtin.Range.rangeSize i j (-1))) = true then some (rng i (-1) (Builtin.Range.rangeSize i j (-1)).toNat) else none) = _
  have e : nnI (((i - j).toNat : Nat) : Int) = true := nnI_eq.mpr (by omega)
  rw [h3, h4, e, show (!decide ((-1 : Int) = 0) && Nat.blt (-1 : Int).natAbs 1073741824 && true && true) = true from by decide, if_pos rfl, Int.toNat_natCast]
section
variable {W : WX} {X : Cx} {fa : DEnv → Mo (List D)} {a b c tg : Expr} {pos : Pos}
theorem di_r3 {p : Pos} (hg : Gl X "range") (hm : X.mg "range" = none) (ha : DA X W [a, b, c] fa) (hs : starEach [a, b, c] X.env = (false, eval a X.env) :: starEach [b, c] X.env := by rfl) (hpl : (backTo pos (starEach [b, c] X.env)).any (·.1) = false := by rfl) : DI X W tg (.Call (.Name "range" p) [a, b, c] [] pos) (iR3 fa) := pi_imp (pi_range3 hg hm ha hs hpl) fun σ H R q => by
  obtain ⟨F0, H0, τ0, F, τ, T, δ, s, p⟩ := q
  refine cG_bind s p fun x v F1 H1 τ1 T1 s1 go r1 p1 => ?_
  cases er : rng3 x with
  | none => rw [er] at p1; exact p1.elim
  | some ds =>
    rw [er] at p1
    unfold rng3 at er
    split at er
    · rename_i i j c
      split at er
      · rename_i hj
        cases er
        simp only [Bool.and_eq_true, Bool.not_eq_true', decide_eq_false_iff_not, Nat.blt_eq, nnI_eq] at hj
        obtain ⟨u, w, z, e, r2, r3, r4⟩ := reps3 r1
        unfold Rep at r2 r3 r4
        refine ⟨i, j, c, (Builtin.Range.rangeSize i j c).toNat, by rw [e, r2, r3, r4], ⟨hj.1.1.1, hj.1.1.2, hj.1.2, (Int.toNat_of_nonneg hj.2).symm⟩, ?_⟩
        exact p1 _ F1 H1 τ1 (.refl s1.go.fh) s1.tp (itD_rng (fun i H l => l) (fun i H l => l) fun i H x H' y => y)
      · cases er
    · cases er
end
end DD

/-! DD16: purity: what draws nothing gives the same at every tape. -/
namespace DD
open PySem PySem.Spec PyProof.Rows L2
def Out.withT {α : Type} : Out α → Option Tape → Out α
  | .ok a _, T => .ok a T
  | .exc e _, T => .exc e T
  | .stuck, _ => .stuck
def OS.withT : OS → Option Tape → OS
  | .nx δ _, T => .nx δ T
  | .ret d _, T => .ret d T
  | .bk δ _, T => .bk δ T
  | .ct δ _, T => .ct δ T
  | .exc e δ _, T => .exc e δ T
  | .stuck, _ => .stuck
def Pm {α : Type} (m : Mo α) : Prop := ∀ T, m T = (m none).withT T
class PuE {α : Type} (f : DEnv → Mo α) : Prop where
  pu : ∀ δ, Pm (f δ)
class PuS (g : SD) : Prop where
  pu : ∀ δ T, g δ T = (g δ none).withT T
class PuD (den : List D → Mo D) : Prop where
  pu : ∀ ds, Pm (den ds)
theorem withT_T {α : Type} (o : Out α) (T U : Option Tape) : (o.withT T).withT U = o.withT U := by cases o <;> rfl
theorem withT_S (o : OS) (T U : Option Tape) : (o.withT T).withT U = o.withT U := by cases o <;> rfl
theorem pm_ok {α : Type} (a : α) : Pm fun T => .ok a T := fun _ => rfl
theorem pm_stuck {α : Type} : Pm (fun _ => .stuck : Mo α) := fun _ => rfl
theorem pm_lift {α : Type} (o : Option α) : Pm (lift o) := fun T => by cases o <;> rfl
theorem pm_bind {α β : Type} {m : Mo α} {k : α → Mo β} (h : Pm m) (g : ∀ a, Pm (k a)) : Pm fun T => (m T).bind k := fun T => by
  show (m T).bind k = ((m none).bind k).withT T
  rw [h T]
  cases m none with
  | ok a U =>
    show k a T = (k a U).withT T
    rw [g a T, g a U, withT_T]
  | exc e U => rfl
  | stuck => rfl
theorem pm_bindQ {α β : Type} {m : Mo α} {k : α → Mo β} (h : Pm m) (g : ∀ a, Pm (k a)) : Pm fun T => (m T).bindQ k := fun T => by
  show (m T).bindQ k = ((m none).bindQ k).withT T
  rw [h T]
  cases m none with
  | ok a U =>
    show k a T = (k a U).withT T
    rw [g a T, g a U, withT_T]
  | exc e U => rfl
  | stuck => rfl
theorem pm_if {α : Type} {b : Bool} {m n : Mo α} (h : Pm m) (g : Pm n) : Pm fun T => if b = true then m T else n T := by
  cases b
  · exact g
  · exact h
theorem pm_ifP {α : Type} {p : Prop} [Decidable p] {m n : Mo α} (h : Pm m) (g : Pm n) : Pm fun T => if p then m T else n T := by
  by_cases z : p
  · simp only [if_pos z]; exact h
  · simp only [if_neg z]; exact g
theorem pm_chk {α : Type} (p : Bool) (a : α) : Pm fun T => chkO p (.ok a T) := fun T => by cases p <;> rfl
/-- statements -/
def Ps (g : Option Tape → OS) : Prop := ∀ T, g T = (g none).withT T
theorem ps_st {α : Type} {m : Mo α} {δ : DEnv} {k : α → Option Tape → OS} (h : Pm m) (g : ∀ a, Ps (k a)) : Ps fun T => (m T).st δ k := fun T => by
  show (m T).st δ k = ((m none).st δ k).withT T
  rw [h T]
  cases m none with
  | ok a U =>
    show k a T = (k a U).withT T
    rw [g a T, g a U, withT_S]
  | exc e U => rfl
  | stuck => rfl
theorem ps_seqD {g : Option Tape → OS} {k : SD} (h : Ps g) (u : ∀ δ, Ps (k δ)) : Ps fun T => (g T).seq k := fun T => by
  show (g T).seq k = ((g none).seq k).withT T
  rw [h T]
  cases g none with
  | nx δ U =>
    show k δ T = (k δ U).withT T
    rw [u δ T, u δ U, withT_S]
  | _ => rfl
theorem ps_turn {g : Option Tape → OS} {k : SD} (h : Ps g) (u : ∀ δ, Ps (k δ)) : Ps fun T => (g T).turn k := fun T => by
  show (g T).turn k = ((g none).turn k).withT T
  rw [h T]
  cases g none with
  | nx δ U =>
    show k δ T = (k δ U).withT T
    rw [u δ T, u δ U, withT_S]
  | ct δ U =>
    show k δ T = (k δ U).withT T
    rw [u δ T, u δ U, withT_S]
  | _ => rfl
theorem ps_catch {g : Option Tape → OS} {k : Exn → SD} (h : Ps g) (u : ∀ e δ, Ps (k e δ)) : Ps fun T => (g T).catch k := fun T => by
  show (g T).catch k = ((g none).catch k).withT T
  rw [h T]
  cases g none with
  | exc e δ U =>
    show k e δ T = (k e δ U).withT T
    rw [u e δ T, u e δ U, withT_S]
  | _ => rfl
theorem ps_ifD {b : Bool} {m n : Option Tape → OS} (h : Ps m) (g : Ps n) : Ps fun T => if b = true then m T else n T := by
  cases b
  · exact g
  · exact h
theorem ps_elim {α : Type} {o : Option α} {k : α → Option Tape → OS} (h : ∀ a, Ps (k a)) : Ps fun T => o.elim .stuck fun a => k a T := by
  cases o with
  | none => exact fun _ => rfl
  | some a => exact h a
theorem ps_ifN {p : Prop} [Decidable p] {m n : Option Tape → OS} (h : Ps m) (g : Ps n) : Ps fun T => if p then m T else n T := by
  by_cases z : p
  · simp only [if_pos z]; exact h
  · simp only [if_neg z]; exact g
theorem ps_nx (δ : DEnv) : Ps fun T => .nx δ T := fun _ => rfl
theorem ps_retD (d : D) : Ps fun T => .ret d T := fun _ => rfl
theorem ps_stk : Ps fun _ => .stuck := fun _ => rfl
section
variable {f g h : DEnv → Mo D} {fa fb : DEnv → Mo (List D)} {t u : DEnv → Mo Bool} {g1 g2 : SD} {den : List D → Mo D} [PuE f] [PuE g] [PuE h] [PuE fa] [PuE fb] [PuE t] [PuE u] [PuS g1] [PuS g2] [PuD den]
abbrev pe (f : DEnv → Mo α) [PuE f] (δ : DEnv) : Pm (f δ) := PuE.pu δ

instance (i : Nat) : PuE (dV i) := ⟨fun δ => pm_lift _⟩
instance (d : D) : PuE (dC d) := ⟨fun δ => pm_ok d⟩
instance (o : D → D → Option D) : PuE (dBin o f g) := ⟨fun δ => pm_bind (PuE.pu δ) fun x => pm_bind (PuE.pu δ) fun y => pm_lift _⟩
instance (o : D → Option D) : PuE (dUn o f) := ⟨fun δ => pm_bind (PuE.pu δ) fun x => pm_lift _⟩
instance : PuE (dTv f) := ⟨fun δ => pm_bind (PuE.pu δ) fun x => pm_lift _⟩
instance : PuE (dAnd t u) := ⟨fun δ => pm_bind (PuE.pu δ) fun b => pm_if (PuE.pu δ) (pm_ok _)⟩
instance : PuE (dOr t u) := ⟨fun δ => pm_bind (PuE.pu δ) fun b => pm_if (pm_ok _) (PuE.pu δ)⟩
instance : PuE (dNot t) := ⟨fun δ => pm_bind (PuE.pu δ) fun b => pm_ok _⟩
instance : PuE (dAndV f g) := ⟨fun δ => pm_bind (PuE.pu δ) fun x => pm_bind (pm_lift _) fun b => pm_if (PuE.pu δ) (pm_ok _)⟩
instance : PuE (dOrV f g) := ⟨fun δ => pm_bind (PuE.pu δ) fun x => pm_bind (pm_lift _) fun b => pm_if (pm_ok _) (PuE.pu δ)⟩
instance : PuE (dNotV f) := ⟨fun δ => pm_bind (PuE.pu δ) fun x => pm_lift _⟩
instance : PuE (dIf t f g) := ⟨fun δ => pm_bind (PuE.pu δ) fun b => pm_if (PuE.pu δ) (PuE.pu δ)⟩
instance : PuE aN := ⟨fun δ => pm_ok _⟩
instance : PuE (aC f fa) := ⟨fun δ => pm_bind (PuE.pu δ) fun x => pm_bind (PuE.pu δ) fun xs => pm_ok _⟩
instance : PuE (dTup fa) := ⟨fun δ => pm_bind (PuE.pu δ) fun x => pm_ifP (pm_ok _) pm_stuck⟩
instance : PuE (lLst fa) := ⟨fun δ => pm_bind (PuE.pu δ) fun x => pm_ifP (pm_ok _) pm_stuck⟩
instance : PuE (dL fa) := ⟨fun δ => pm_bind (PuE.pu δ) fun x => pm_ok _⟩
instance (n : Nat) : PuE (dCall n den fa) := ⟨fun δ => pm_bind (PuE.pu δ) fun ds => pm_ifP (PuD.pu ds) pm_stuck⟩
instance (o : List D → Option D) : PuE (dB o fa) := ⟨fun δ => pm_bind (PuE.pu δ) fun xs => pm_lift _⟩
instance (T : String) : PuE (dIsi T f) := ⟨fun δ => pm_bind (PuE.pu δ) fun x => pm_lift _⟩
instance : PuE (iSeq f) := ⟨fun δ => pm_bind (PuE.pu δ) fun x => pm_lift _⟩
instance : PuE (iLst f) := ⟨fun δ => pm_bind (PuE.pu δ) fun x => pm_lift _⟩
instance : PuE (iR1 fa) := ⟨fun δ => pm_bind (PuE.pu δ) fun x => pm_lift _⟩
instance : PuE (iR2 fa) := ⟨fun δ => pm_bind (PuE.pu δ) fun x => pm_lift _⟩
instance : PuE (iR3 fa) := ⟨fun δ => pm_bind (PuE.pu δ) fun x => pm_lift _⟩
instance : PuE tYesD := ⟨fun δ => pm_ok _⟩
theorem pm_lcD (tg : TgD) (δ : DEnv) : ∀ (ds acc : List D), Pm (lcD tg t f δ ds acc)
  | [], acc => pm_ok _
  | d :: ds, acc => by
    intro T
    rw [lcD_cons, lcD_cons]
    cases tg d δ with
    | none => rfl
    | some δ' => exact pm_bindQ (PuE.pu (f := t) δ') (fun b => pm_if (pm_bindQ (PuE.pu (f := f) δ') fun y => pm_lcD tg δ ds _) (pm_lcD tg δ ds acc)) T
instance (tg : TgD) (vs : List Nat) : PuE (lLc fa tg t f vs) := ⟨fun δ => pm_bind (PuE.pu δ) fun ds => pm_ifP (pm_lcD _ _ _ _) pm_stuck⟩
instance {α : Type} (chk : α → Bool) (i : Nat) (f : DEnv → Mo α) [PuE f] : PuE (borG chk i f) := ⟨fun δ T => by
  rw [borG_a, borG_a]
  cases ownL δ i with
  | none => exact PuE.pu (f := f) δ T
  | some ds => exact pm_bind (PuE.pu (f := f) _) (fun d => pm_chk _ _) T⟩
instance : PuE (lList f) := ⟨fun δ => pm_bind (PuE.pu δ) fun x => pm_lift _⟩
instance : PuE (lCat f g) := ⟨fun δ => pm_bind (PuE.pu δ) fun x => pm_bind (PuE.pu δ) fun y => pm_bind (pm_lift _) fun a => pm_bind (pm_lift _) fun b => pm_chk _ _⟩
instance : PuE (lRep f g) := ⟨fun δ => pm_bind (PuE.pu δ) fun x => pm_bind (PuE.pu δ) fun y => pm_bind (pm_lift _) fun a => pm_bind (pm_lift _) fun b => pm_chk _ _⟩
instance : PuE (lRev f) := ⟨fun δ => pm_bind (PuE.pu δ) fun x => pm_bind (pm_lift _) fun a => pm_ok _⟩
instance : PuE (dPart f) := ⟨fun δ => pm_bind (PuE.pu δ) fun x => pm_bind (pm_lift _) fun a => pm_ok _⟩
instance : PuE dNoPart := ⟨fun δ => pm_ok _⟩
instance (lo hi : DEnv → Mo (Option Int)) [PuE lo] [PuE hi] : PuE (dSl f lo hi) := ⟨fun δ => pm_bind (PuE.pu δ) fun x => pm_bind (PuE.pu δ) fun l => pm_bind (PuE.pu δ) fun u => pm_lift _⟩
instance (lo : DEnv → Mo (Option Int)) [PuE lo] : PuE (dRv f lo) := ⟨fun δ => pm_bind (PuE.pu δ) fun x => pm_bind (PuE.pu δ) fun l => pm_lift _⟩
instance (o o' : D → D → Option D) : PuE (dChain o o' f g h) := ⟨fun δ => pm_bind (PuE.pu δ) fun x => pm_bind (PuE.pu δ) fun y => pm_bind (pm_lift _) fun k => pm_if (pm_bind (PuE.pu δ) fun z => pm_lift _) (pm_ok _)⟩
instance : PuS sNext := ⟨fun δ => ps_nx δ⟩
instance : PuS sBreak := ⟨fun δ T => rfl⟩
instance : PuS sCont := ⟨fun δ T => rfl⟩
instance : PuS sRetN := ⟨fun δ T => rfl⟩
instance : PuS (sSeq g1 g2) := ⟨fun δ => ps_seqD (PuS.pu δ) fun δ => PuS.pu δ⟩
instance : PuS (sDrop f) := ⟨fun δ => ps_st (PuE.pu δ) fun x => ps_nx _⟩
instance : PuS (sRet f) := ⟨fun δ => ps_st (PuE.pu δ) fun x => ps_retD _⟩
instance : PuS (sIf t g1 g2) := ⟨fun δ => ps_st (PuE.pu δ) fun b => ps_ifD (PuS.pu δ) (PuS.pu δ)⟩
instance (i : Nat) : PuS (sSet i f) := ⟨fun δ => ps_st (PuE.pu δ) fun x => ps_nx _⟩
instance (i : Nat) : PuS (sSetL i fa) := ⟨fun δ => ps_st (PuE.pu δ) fun x => ps_nx _⟩
instance (tg : TgD) : PuS (sAsg tg f) := ⟨fun δ => ps_st (PuE.pu δ) fun x => ps_elim fun _ => ps_nx _⟩
instance (i j : Nat) : PuS (sPar i j f g) := ⟨fun δ => ps_st (PuE.pu δ) fun x => ps_st (PuE.pu δ) fun y => ps_nx _⟩
instance (i j l : Nat) : PuS (sPar3 i j l f g h) := ⟨fun δ => ps_st (PuE.pu δ) fun x => ps_st (PuE.pu δ) fun y => ps_st (PuE.pu δ) fun z => ps_nx _⟩
instance (i : Nat) (o : D → D → Option D) : PuS (sAug i o f) := ⟨fun δ => ps_elim fun x => ps_st (PuE.pu δ) fun y => ps_elim fun z => ps_nx _⟩
instance (i : Nat) : PuS (sRetOwn i) := ⟨fun δ T => by
  unfold sRetOwn
  cases δ[i]? with
  | none => rfl
  | some x => cases x <;> rfl⟩
theorem ps_iterW : ∀ (n : Nat) (δ : DEnv), Ps (iterW t g1 n δ)
  | 0, δ => fun _ => rfl
  | n + 1, δ => by
    rw [iterW_succ]
    exact ps_st (PuE.pu δ) fun b => ps_ifD (ps_turn (PuS.pu δ) fun δ => ps_iterW n δ) (ps_nx δ)
instance : PuS (sWhile t g1) := ⟨fun δ => ps_iterW fuel δ⟩
theorem ps_forD (tg : TgD) : ∀ (ds : List D) (δ : DEnv), Ps (forD tg g1 ds δ)
  | [], δ => ps_nx δ
  | d :: ds, δ => ps_elim fun δ' => ps_turn (PuS.pu δ') fun δ => ps_forD tg ds δ
instance (tg : TgD) : PuS (sFor fa tg g1) := ⟨fun δ => ps_st (PuE.pu δ) fun ds => ps_forD tg ds δ⟩
instance (x : Str) : PuS (sRaise x) := ⟨fun δ T => rfl⟩
instance (x fld : Str) : PuS (sRaiseI x fld f) := ⟨fun δ => ps_st (PuE.pu δ) fun d => ps_elim fun _ => fun _ => rfl⟩
instance (i : Nat) : PuS (sApp i f) := ⟨fun δ => ps_elim fun ds => ps_st (PuE.pu δ) fun d => ps_ifN (ps_nx _) ps_stk⟩
instance (i : Nat) : PuS (sExt i f) := ⟨fun δ => ps_elim fun ds => ps_st (PuE.pu δ) fun d => ps_elim fun es => ps_ifN (ps_nx _) ps_stk⟩
instance (i : Nat) : PuS (sSetAt i f g) := ⟨fun δ => ps_elim fun ds => ps_st (PuE.pu δ) fun d => ps_st (PuE.pu δ) fun k => ps_elim fun n => ps_elim fun j => ps_nx _⟩
instance (i : Nat) : PuS (sFrz i g1) := ⟨fun δ => PuS.pu (g := g1) (frz i δ)⟩
instance (i : Nat) : PuS (sFrzA i g1) := ⟨fun δ T => by
  show (g1 δ T).frz i = ((g1 δ none).frz i).withT T
  rw [PuS.pu (g := g1) δ T]
  cases g1 δ none <;> rfl⟩
instance (i j : Nat) : PuS (sAsgL i j fa f) := ⟨fun δ => ps_st (PuE.pu δ) fun ds => ps_st (PuE.pu δ) fun d => ps_nx _⟩
instance (k : Nat) : PuD (runD k g1) := ⟨fun ds T => by
  show (g1 _ T).out = ((g1 _ none).out).withT T
  rw [PuS.pu (g := g1) _ T]
  cases g1 (ds.map Sl.val ++ List.replicate k Sl.un) none <;> rfl⟩
end
class PuR (F : (List D → Mo D) → List D → Mo D) : Prop where
  pu : ∀ den, PuD den → PuD (F den)
instance {F : (List D → Mo D) → List D → Mo D} [PuR F] (n : Nat) : PuD (fixD n F) := by
  induction n with
  | zero => exact ⟨fun _ _ => rfl⟩
  | succ n ih => exact PuR.pu (F := F) _ ih
/-- the use: a check at no tape serves at every tape -/
theorem pure_ok {den : List D → Mo D} [PuD den] {ds : List D} {d : D} {T0 : Option Tape} (h : den ds none = .ok d T0) (T : Option Tape) : den ds T = .ok d T := by
  rw [PuD.pu (den := den) ds T, h]
  rfl
theorem pure_exc {den : List D → Mo D} [PuD den] {ds : List D} {e : Exn} {T0 : Option Tape} (h : den ds none = .exc e T0) (T : Option Tape) : den ds T = .exc e T := by
  rw [PuD.pu (den := den) ds T, h]
  rfl
end DD

/-! DD17: len(set(xs)) of a list of ints, any of them twice. -/
namespace DD
open PySem PySem.Spec PyProof.Rows L2
/-- the ints of a list, each once, in the order in which they are met -/
def dedI (ns : List Int) : List Int := ns.foldl (fun acc k => if acc.any (· == k) then acc else acc ++ [k]) []
theorem range_getD (ns : List Int) : (List.range ns.length).map (fun i => ns.getD i 0) = ns := by
  apply List.ext_getElem
  · rw [List.length_map, List.length_range]
  · intro i h1 h2
    rw [List.getElem_map, List.getElem_range, List.getD_eq_getElem?_getD, List.getElem?_eq_getElem h2]
    rfl
theorem met_ded (ns : List Int) : firstMet (fun i => ns.getD i 0) ns.length = dedI ns := by
  have e : firstMet (fun i => ns.getD i 0) ns.length = ((List.range ns.length).map (fun i => ns.getD i 0)).foldl step_dedup [] := id rfl
  rw [e, range_getD]
  rfl
theorem ded_go : ∀ (ns acc : List Int), acc.Nodup → (∀ k ∈ ns, k ∉ acc) → ns.Nodup → ns.foldl (fun acc k => if acc.any (· == k) then acc else acc ++ [k]) acc = acc ++ ns
  | [], acc, _, _, _ => by simp
  | k :: r, acc, h1, h2, h3 => by
    have hk : ¬ acc.any (· == k) = true := by
      intro z
      obtain ⟨x, hx, e⟩ := List.any_eq_true.mp z
      exact h2 k List.mem_cons_self (by rw [← beq_iff_eq.mp e]; exact hx)
    rw [List.foldl_cons, if_neg hk]
    obtain ⟨h4, h5⟩ := List.nodup_cons.mp h3
    rw [ded_go r (acc ++ [k]) _ _ h5, List.append_assoc]
    · rfl
    · rw [List.nodup_append]
      refine ⟨h1, by simp, fun a ha b hb z => ?_⟩
      rw [List.mem_singleton.mp hb] at z
      exact h2 k List.mem_cons_self (z ▸ ha)
    · intro j hj z
      rcases List.mem_append.mp z with z | z
      · exact h2 j (List.mem_cons_of_mem _ hj) z
      · rw [List.mem_singleton.mp z] at hj
        exact h4 hj
theorem ded_nodup {ns : List Int} (h : ns.Nodup) : dedI ns = ns := by
  unfold dedI
  rw [ded_go ns [] List.nodup_nil (fun _ _ z => nomatch z) h]
  rfl
section
variable {X : Cx} {W : WX} {a : Expr} {f : DEnv → Mo D} {ta : TE} {pos p p2 q : Pos}
def tSetLen (K : PySem.W.Frag) (ta : TE) : TE := fun σ H Q => ta σ H fun x H1 => ∃ (l : Addr) (ns : List Int), x = V.ref l ∧ SqL K H1 l (ns.map V.int) ∧ ns.length < 4000 ∧ Q (.int (dedI ns).length) H1
theorem pe_setLen (hc : X.calm = true) (lg : Gl X "len") (lm : X.mg "len" = none) (sg : Gl X "set") (sm : X.mg "set" = none) (ha : PE X a ta)
    (na : starEach [a] X.env = (false, eval a X.env) :: starEach [] X.env := by rfl) : PE X (.Call (.Name "len" p) [.Call (.Name "set" p2) [a] [] q] [] pos) (tSetLen X.K ta) := by
  constructor
  intro pins s σ H Q I h
  apply Call_ (ld_blt I lg lm PySem.boot_len _)
  apply PyProof.Rows.callWith_builtin1 (PyProof.Rows.args_cons _ rfl) rfl rfl
  apply Call_ (ld_blt I sg sm PyProof.Rows.boot_set _)
  refine PyProof.Rows.callWith_type1 (PyProof.Rows.args_cons (thn (ha.run pins s σ H _ I h) fun v s1 ⟨x, H1, I1, r1, q1⟩ => PyProof.Rows.args_nil ?_) na) na rfl
  obtain ⟨l, ns, rfl, hq, hlt, q1⟩ := q1
  cases r1
  obtain ⟨its, r, pl, hz⟩ := I1.list hq
  have hl : its.toArray.size = ns.length := by rw [List.size_toArray, ← r.length, List.length_map]
  refine call_set_list (I1.ok.hd hc) pl.isList (ns := ns) (by simpa using r.ints) (by unfold scanBound; omega) ?_
  intro h' tk hS hk
  rw [hl, met_ded] at hS
  refine PyProof.Rows.args_nil ?_
  obtain ⟨o, es, ep, t, ho, hex, hd, _, _, hb, hf, hn⟩ := hS
  have I2 : Inv X pins σ H1 { s1 with heap := h', toks := tk } := I1.kept fun b o e => hk b o (Heap.lt_size e) e
  have hb' : es.size < 4096 := hb
  exact call_len_set ho hex hd hf (by omega) ⟨.int (dedI ns).length, H1, I2.tok _, ⟨_, by rw [hn]⟩, q1⟩
/-- the number of a list's ints -/
def oSetLen : D → Option D := fun x => (lstO x).bind fun ds => (intsOf ds).bind fun ns => if ns.length < 4000 then some (.int (dedI ns).length) else none
theorem de_setLen (lm : X.mg "len" = none) (sm : X.mg "set" = none) (ha : DE X W a f) (hc : X.calm = true := by rfl) (lg : Gl X "len" := by rfl) (sg : Gl X "set" := by rfl)
    (na : starEach [a] X.env = (false, eval a X.env) :: starEach [] X.env := by rfl) : DE X W (.Call (.Name "len" p) [.Call (.Name "set" p2) [a] [] q] [] pos) (dUn oSetLen f) :=
  pe_imp (pe_setLen hc lg lm sg sm ha na) fun σ H Q h => by
    refine cun (r := fun v H Q => ∃ (l : Addr) (ns : List Int), v = V.ref l ∧ SqL X.K H l (ns.map V.int) ∧ ns.length < 4000 ∧ Q (.int (dedI ns).length) H) ?_ h
    intro F H τ T x v z Q fh tp r1 e k
    unfold oSetLen at e
    cases es : lstO x with
    | none => rw [es] at e; cases e
    | some ds =>
      rw [es] at e
      cases ei : intsOf ds with
      | none => simp [ei] at e
      | some ns =>
        simp [ei] at e
        obtain ⟨hl, e⟩ := e
        subst e
        rw [lstO_eq es] at r1
        unfold Rep at r1
        obtain ⟨a, us, e1, h1, h2⟩ := r1
        rw [intsOf_eq ei] at h2
        rw [h2.of_ints] at h1
        exact ⟨a, ns, e1, .inl (.inl (fh _ _ h1)), hl, k _ F H (.refl fh) tp (by unfold Rep; rfl)⟩
@[simp] theorem oSetLen_ints {ns : List Int} (h : ns.length < 4000) : oSetLen (.lst (ns.map .int)) = some (.int (dedI ns).length) := by
  show (intsOf (ns.map .int)).bind (fun ns => if ns.length < 4000 then some (D.int (dedI ns).length) else none) = _
  rw [intsOf_map]
  exact if_pos h
end
end DD

/-! DD18: == and in over plain data, told by beqD. -/
namespace DD
open PySem PySem.Spec PyProof.Rows L2
/-! ### equality told by the data's form -/
mutual
/-- as == tells it -/
def qv : D → D → Bool
  | .non, .non => true
  | .bl a, .bl b => a == b
  | .bl a, .int j => decide ((if a then 1 else 0 : Int) = j)
  | .int i, .bl b => decide (i = (if b then 1 else 0 : Int))
  | .int i, .int j => decide (i = j)
  | .str x, .str y => decide (x = y)
  | .tup xs, .tup ys => qvs xs ys
  | .lst xs, .lst ys => qvs xs ys
  | _, _ => false
def qvs : List D → List D → Bool
  | [], [] => true
  | x :: xs, y :: ys => qv x y && qvs xs ys
  | _, _ => false
end
mutual
/-- data of depth at most n, no tape, no script -/
def good : Nat → D → Bool
  | _, .non => true
  | _, .bl _ => true
  | _, .int _ => true
  | _, .str s => PyData.strOk s
  | 0, .tup _ => false
  | n + 1, .tup ds => goods n ds
  | 0, .lst _ => false
  | n + 1, .lst ds => goods n ds
  | _, .scr _ => false
  | _, .tape => false
def goods : Nat → List D → Bool
  | _, [] => true
  | n, d :: r => good n d && goods n r
end
mutual
theorem good_lay : ∀ (n : Nat) (d : D), good n d = true → (py d).canLay0 = true ∧ (py d).depth ≤ n
  | n, .non, _ => by unfold py PyData.canLay0 PyData.depth; exact ⟨rfl, Nat.zero_le _⟩
  | n, .bl _, _ => by unfold py PyData.canLay0 PyData.depth; exact ⟨rfl, Nat.zero_le _⟩
  | n, .int _, _ => by unfold py PyData.canLay0 PyData.depth; exact ⟨rfl, Nat.zero_le _⟩
  | n, .str s, h => by
    unfold good at h
    unfold py PyData.canLay0 PyData.depth
    exact ⟨h, Nat.zero_le _⟩
  | 0, .tup _, h => by unfold good at h; cases h
  | n + 1, .tup ds, h => by
    unfold good at h
    obtain ⟨h1, h2⟩ := goods_lay n ds h
    unfold py PyData.canLay0 PyData.depth
    exact ⟨h1, Nat.succ_le_succ h2⟩
  | 0, .lst _, h => by unfold good at h; cases h
  | n + 1, .lst ds, h => by
    unfold good at h
    obtain ⟨h1, h2⟩ := goods_lay n ds h
    unfold py PyData.canLay0 PyData.depth
    exact ⟨h1, Nat.succ_le_succ h2⟩
  | n, .scr _, h => by unfold good at h; cases h
  | n, .tape, h => by unfold good at h; cases h
theorem goods_lay : ∀ (n : Nat) (ds : List D), goods n ds = true → PyData.canLayAll0 (pys ds) = true ∧ PyData.depthAll (pys ds) ≤ n
  | n, [], _ => by unfold pys PyData.canLayAll0 PyData.depthAll; exact ⟨rfl, Nat.zero_le _⟩
  | n, d :: r, h => by
    unfold goods at h
    rw [Bool.and_eq_true] at h
    obtain ⟨h1, h2⟩ := good_lay n d h.1
    obtain ⟨h3, h4⟩ := goods_lay n r h.2
    unfold pys PyData.canLayAll0 PyData.depthAll
    exact ⟨by rw [h1, h3]; rfl, Nat.max_le.mpr ⟨h2, h4⟩⟩
end
theorem good_sh {n : Nat} {d : D} (h : good n d = true) (hn : n ≤ 64) : shD d = true := by
  obtain ⟨h1, h2⟩ := good_lay n d h
  unfold shD SeqAt.shaped
  rw [Bool.and_eq_true, decide_eq_true_eq]
  exact ⟨h1, Nat.le_trans h2 hn⟩
theorem goods_iff {n : Nat} : ∀ {ds : List D}, goods n ds = true ↔ ∀ d ∈ ds, good n d = true
  | [] => by unfold goods; simp
  | d :: r => by
    unfold goods
    rw [Bool.and_eq_true, goods_iff, List.forall_mem_cons]
mutual
theorem eqv_qv : ∀ (x y : D) (n m : Nat), good n x = true → good m y = true → PyData.eqv (py x) (py y) = qv x y
  | .non, y, n, m, _, hy => by
    cases y <;> first | (unfold good at hy; cases hy; done) | (unfold py PyData.eqv qv; rfl)
  | .bl a, y, n, m, _, hy => by
    cases y <;> first | (unfold good at hy; cases hy; done) | (unfold py PyData.eqv qv; first | rfl | (rw [Bool.beq_eq_decide_eq]))
  | .int a, y, n, m, _, hy => by
    cases y <;> first | (unfold good at hy; cases hy; done) | (unfold py PyData.eqv qv; first | rfl | (rw [Bool.beq_eq_decide_eq]))
  | .str a, y, n, m, _, hy => by
    cases y <;> first | (unfold good at hy; cases hy; done) | (unfold py PyData.eqv qv; first | rfl | (rw [Bool.beq_eq_decide_eq]))
  | .tup xs, y, 0, m, hx, _ => by unfold good at hx; cases hx
  | .tup xs, y, n + 1, m, hx, hy => by
    unfold good at hx
    match y, m, hy with
    | .tup ys, 0, hy => unfold good at hy; cases hy
    | .tup ys, m + 1, hy =>
      unfold good at hy
      unfold py PyData.eqv qv
      exact eqvs_qv xs ys n m hx hy
    | .non, _, _ => unfold py PyData.eqv qv; rfl
    | .bl _, _, _ => unfold py PyData.eqv qv; rfl
    | .int _, _, _ => unfold py PyData.eqv qv; rfl
    | .str _, _, _ => unfold py PyData.eqv qv; rfl
    | .lst _, _, _ => unfold py PyData.eqv qv; rfl
    | .scr _, _, hy => unfold good at hy; cases hy
    | .tape, _, hy => unfold good at hy; cases hy
  | .lst xs, y, 0, m, hx, _ => by unfold good at hx; cases hx
  | .lst xs, y, n + 1, m, hx, hy => by
    unfold good at hx
    match y, m, hy with
    | .lst ys, 0, hy => unfold good at hy; cases hy
    | .lst ys, m + 1, hy =>
      unfold good at hy
      unfold py PyData.eqv qv
      exact eqvs_qv xs ys n m hx hy
    | .non, _, _ => unfold py PyData.eqv qv; rfl
    | .bl _, _, _ => unfold py PyData.eqv qv; rfl
    | .int _, _, _ => unfold py PyData.eqv qv; rfl
    | .str _, _, _ => unfold py PyData.eqv qv; rfl
    | .tup _, _, _ => unfold py PyData.eqv qv; rfl
    | .scr _, _, hy => unfold good at hy; cases hy
    | .tape, _, hy => unfold good at hy; cases hy
  | .scr _, _, n, m, hx, _ => by unfold good at hx; cases hx
  | .tape, _, n, m, hx, _ => by unfold good at hx; cases hx
theorem eqvs_qv : ∀ (xs ys : List D) (n m : Nat), goods n xs = true → goods m ys = true → PyData.eqvAll (pys xs) (pys ys) = qvs xs ys
  | [], [], _, _, _, _ => by unfold pys PyData.eqvAll qvs; rfl
  | [], _ :: _, _, _, _, _ => by unfold pys PyData.eqvAll qvs; rfl
  | _ :: _, [], _, _, _, _ => by unfold pys PyData.eqvAll qvs; rfl
  | x :: xs, y :: ys, n, m, hx, hy => by
    unfold goods at hx hy
    rw [Bool.and_eq_true] at hx hy
    unfold pys PyData.eqvAll qvs
    rw [eqv_qv x y n m hx.1 hy.1, eqvs_qv xs ys n m hx.2 hy.2]
end
theorem oEq_qv {x y : D} {n m : Nat} (hx : good n x = true) (hy : good m y = true) (hn : n ≤ 64 := by decide) (hm : m ≤ 64 := by decide) : oEq x y = some (.bl (qv x y)) := by
  unfold oEq eqD
  rw [if_pos ⟨good_sh hx hn, good_sh hy hm⟩, eqv_qv x y n m hx hy]
theorem oNe_qv {x y : D} {n m : Nat} (hx : good n x = true) (hy : good m y = true) (hn : n ≤ 64 := by decide) (hm : m ≤ 64 := by decide) : oNe x y = some (.bl (!qv x y)) := by
  unfold oNe eqD
  rw [if_pos ⟨good_sh hx hn, good_sh hy hm⟩, eqv_qv x y n m hx hy]
theorem inDeep_qv {x : D} {es : List D} {n m : Nat} (hx : good n x = true) (hy : goods m es = true) : inDeep x es = es.any fun z => qv z x := by
  unfold inDeep
  induction es with
  | nil => rfl
  | cons e r ih =>
    unfold goods at hy
    rw [Bool.and_eq_true] at hy
    rw [List.any_cons, List.any_cons, ih hy.2, eqv_qv e x m n hy.1 hx]
theorem eqV_qv {x y : D} (hx : flatD x = true) (hy : flatD y = true) : eqV (toV x) (toV y) = qv x y := by
  cases x <;> first | (cases hx; done) | (cases y <;> first | (cases hy; done) | (unfold toV eqV qv; first | rfl | (rw [Bool.beq_eq_decide_eq])))
theorem inD_qv {x : D} : ∀ {es : List D}, flatD x = true → es.all flatD = true → inD x es = es.any fun z => qv z x
  | [], _, _ => rfl
  | e :: r, hx, hy => by
    rw [List.all_cons, Bool.and_eq_true] at hy
    have ih := inD_qv (x := x) (es := r) hx hy.2
    unfold inD inV at ih ⊢
    rw [List.map_cons, List.any_cons, List.any_cons, ih, eqV_qv hy.1 hx]
/-- x in a list of plain data -/
theorem oInA_lst {neg : Bool} {x : D} {es : List D} {n m : Nat} (hx : good n x = true) (hy : goods m es = true) (hn : n ≤ 64 := by decide) (hm : m < 64 := by decide) :
    oInA neg x (.lst es) = some (.bl (if neg = true then !(es.any fun z => qv z x) else es.any fun z => qv z x)) := by
  have hg : good (m + 1) (.lst es) = true := by unfold good; exact hy
  have hd : oInD neg x (.lst es) = some (.bl (if neg = true then !(es.any fun z => qv z x) else es.any fun z => qv z x)) := by
    have e : oInD neg x (.lst es) = if shD x = true ∧ shD (.lst es) = true then some (.bl (if neg = true then !inDeep x es else inDeep x es)) else none := id rfl
    rw [e, if_pos ⟨good_sh hx hn, good_sh hg hm⟩, inDeep_qv hx hy]
  unfold oInA
  have e : oIn neg x (.lst es) = if flatD x = true ∧ es.all flatD = true then some (.bl (if neg = true then !inD x es else inD x es)) else none := id rfl
  rw [e]
  by_cases z : flatD x = true ∧ es.all flatD = true
  · rw [if_pos z, inD_qv z.1 z.2]
    rfl
  · rw [if_neg z, hd]
    rfl
mutual
theorem qv_refl : ∀ (n : Nat) (x : D), good n x = true → qv x x = true
  | _, .non, _ => by unfold qv; rfl
  | _, .bl _, _ => by unfold qv; simp
  | _, .int _, _ => by unfold qv; simp
  | _, .str _, _ => by unfold qv; simp
  | 0, .tup _, h => by unfold good at h; cases h
  | n + 1, .tup xs, h => by unfold good at h; unfold qv; exact qvs_refl n xs h
  | 0, .lst _, h => by unfold good at h; cases h
  | n + 1, .lst xs, h => by unfold good at h; unfold qv; exact qvs_refl n xs h
  | _, .scr _, h => by unfold good at h; cases h
  | _, .tape, h => by unfold good at h; cases h
theorem qvs_refl : ∀ (n : Nat) (x : List D), goods n x = true → qvs x x = true
  | _, [], _ => by unfold qvs; rfl
  | n, x :: r, h => by
    unfold goods at h
    rw [Bool.and_eq_true] at h
    unfold qvs
    rw [qv_refl n x h.1, qvs_refl n r h.2]
    rfl
end
/-! data without truth values: == is equality -/
mutual
def noB : D → Bool
  | .bl _ => false
  | .tup ds => noBs ds
  | .lst ds => noBs ds
  | _ => true
def noBs : List D → Bool
  | [] => true
  | d :: r => noB d && noBs r
end
mutual
theorem qv_eq : ∀ {x y : D}, noB x = true → noB y = true → qv x y = true → x = y
  | .non, y, _, hy, h => by cases y <;> first | rfl | (unfold noB at hy; cases hy; done) | (unfold qv at h; cases h)
  | .bl _, _, hx, _, _ => by unfold noB at hx; cases hx
  | .int i, y, _, hy, h => by
    cases y <;> first | (unfold noB at hy; cases hy; done) | (unfold qv at h; cases h; done) | skip
    unfold qv at h
    rw [of_decide_eq_true h]
  | .str i, y, _, hy, h => by
    cases y <;> first | (unfold noB at hy; cases hy; done) | (unfold qv at h; cases h; done) | skip
    unfold qv at h
    rw [of_decide_eq_true h]
  | .tup xs, y, hx, hy, h => by
    cases y <;> first | (unfold qv at h; cases h; done) | skip
    unfold noB at hx hy
    unfold qv at h
    rw [qvs_eq hx hy h]
  | .lst xs, y, hx, hy, h => by
    cases y <;> first | (unfold qv at h; cases h; done) | skip
    unfold noB at hx hy
    unfold qv at h
    rw [qvs_eq hx hy h]
  | .scr _, y, _, _, h => by cases y <;> (unfold qv at h; cases h)
  | .tape, y, _, _, h => by cases y <;> (unfold qv at h; cases h)
theorem qvs_eq : ∀ {x y : List D}, noBs x = true → noBs y = true → qvs x y = true → x = y
  | [], [], _, _, _ => rfl
  | [], _ :: _, _, _, h => by unfold qvs at h; cases h
  | _ :: _, [], _, _, h => by unfold qvs at h; cases h
  | x :: xs, y :: ys, hx, hy, h => by
    unfold noBs at hx hy
    unfold qvs at h
    rw [Bool.and_eq_true] at hx hy h
    rw [qv_eq hx.1 hy.1 h.1, qvs_eq hx.2 hy.2 h.2]
end
theorem noBs_iff : ∀ {ds : List D}, noBs ds = true ↔ ∀ d ∈ ds, noB d = true
  | [] => by unfold noBs; simp
  | d :: r => by
    unfold noBs
    rw [Bool.and_eq_true, noBs_iff, List.forall_mem_cons]
/-- x in a list: membership -/
theorem any_qv {n : Nat} {x : D} {es : List D} (hx : good n x = true) (bx : noB x = true) (be : noBs es = true) : (es.any fun z => qv z x) = true ↔ x ∈ es := by
  rw [List.any_eq_true]
  constructor
  · rintro ⟨z, hz, e⟩
    rw [← qv_eq (noBs_iff.mp be z hz) bx e]
    exact hz
  · exact fun h => ⟨x, h, qv_refl n x hx⟩
theorem qv_iff {n : Nat} {x y : D} (hx : good n x = true) (bx : noB x = true) (by' : noB y = true) : qv x y = true ↔ x = y :=
  ⟨qv_eq bx by', fun e => e ▸ qv_refl n x hx⟩
theorem oEq_same {n : Nat} {x : D} (hx : good n x = true) (hn : n ≤ 64 := by decide) : oEq x x = some (.bl true) := by rw [oEq_qv hx hx hn hn, qv_refl n x hx]
theorem oNe_same {n : Nat} {x : D} (hx : good n x = true) (hn : n ≤ 64 := by decide) : oNe x x = some (.bl false) := by rw [oNe_qv hx hx hn hn, qv_refl n x hx]; rfl
/-! rows -/
@[simp] theorem qv_int (i j : Int) : qv (.int i) (.int j) = decide (i = j) := by unfold qv; rfl
@[simp] theorem qv_str (i j : Str) : qv (.str i) (.str j) = decide (i = j) := by unfold qv; rfl
@[simp] theorem qv_bl (i j : Bool) : qv (.bl i) (.bl j) = (i == j) := by unfold qv; rfl
@[simp] theorem qv_bi (i : Bool) (j : Int) : qv (.bl i) (.int j) = decide ((if i then 1 else 0 : Int) = j) := by unfold qv; rfl
@[simp] theorem qv_ib (i : Int) (j : Bool) : qv (.int i) (.bl j) = decide (i = (if j then 1 else 0 : Int)) := by unfold qv; rfl
@[simp] theorem qv_nn : qv .non .non = true := by unfold qv; rfl
@[simp] theorem qv_ni (i : Int) : qv .non (.int i) = false := by unfold qv; rfl
@[simp] theorem qv_in (i : Int) : qv (.int i) .non = false := by unfold qv; rfl
@[simp] theorem qv_nt (i : List D) : qv .non (.tup i) = false := by unfold qv; rfl
@[simp] theorem qv_tn (i : List D) : qv (.tup i) .non = false := by unfold qv; rfl
@[simp] theorem qv_it (i : Int) (j : List D) : qv (.int i) (.tup j) = false := by unfold qv; rfl
@[simp] theorem qv_ti (i : Int) (j : List D) : qv (.tup j) (.int i) = false := by unfold qv; rfl
@[simp] theorem qv_is (i : Int) (j : Str) : qv (.int i) (.str j) = false := by unfold qv; rfl
@[simp] theorem qv_si (i : Int) (j : Str) : qv (.str j) (.int i) = false := by unfold qv; rfl
@[simp] theorem qv_ns (j : Str) : qv .non (.str j) = false := by unfold qv; rfl
@[simp] theorem qv_sn (j : Str) : qv (.str j) .non = false := by unfold qv; rfl
@[simp] theorem qv_st (i : List D) (j : Str) : qv (.str j) (.tup i) = false := by unfold qv; rfl
@[simp] theorem qv_ts (i : List D) (j : Str) : qv (.tup i) (.str j) = false := by unfold qv; rfl
@[simp] theorem qv_bn (i : Bool) : qv (.bl i) .non = false := by unfold qv; rfl
@[simp] theorem qv_nb (i : Bool) : qv .non (.bl i) = false := by unfold qv; rfl
@[simp] theorem qv_bt (i : Bool) (j : List D) : qv (.bl i) (.tup j) = false := by unfold qv; rfl
@[simp] theorem qv_tb (i : Bool) (j : List D) : qv (.tup j) (.bl i) = false := by unfold qv; rfl
@[simp] theorem qv_tt (i j : List D) : qv (.tup i) (.tup j) = qvs i j := by unfold qv; rfl
@[simp] theorem qv_ll (i j : List D) : qv (.lst i) (.lst j) = qvs i j := by unfold qv; rfl
@[simp] theorem qv_tl (i j : List D) : qv (.tup i) (.lst j) = false := by unfold qv; rfl
@[simp] theorem qv_lt (i j : List D) : qv (.lst i) (.tup j) = false := by unfold qv; rfl
@[simp] theorem qvs_nil : qvs [] [] = true := by unfold qvs; rfl
@[simp] theorem qvs_cons (x y : D) (xs ys : List D) : qvs (x :: xs) (y :: ys) = (qv x y && qvs xs ys) := by rw [qvs]
@[simp] theorem qvs_nc (y : D) (ys : List D) : qvs [] (y :: ys) = false := by unfold qvs; rfl
@[simp] theorem qvs_cn (y : D) (ys : List D) : qvs (y :: ys) [] = false := by unfold qvs; rfl
@[simp] theorem good_non (n : Nat) : good n .non = true := by unfold good; rfl
@[simp] theorem good_bl (n : Nat) (b : Bool) : good n (.bl b) = true := by unfold good; rfl
@[simp] theorem good_int (n : Nat) (b : Int) : good n (.int b) = true := by unfold good; rfl
@[simp] theorem good_str (n : Nat) (b : Str) : good n (.str b) = PyData.strOk b := by unfold good; rfl
@[simp] theorem good_tup (n : Nat) (b : List D) : good (n + 1) (.tup b) = goods n b := by rw [good]
@[simp] theorem good_lst (n : Nat) (b : List D) : good (n + 1) (.lst b) = goods n b := by rw [good]
@[simp] theorem goods_nil (n : Nat) : goods n [] = true := by unfold goods; rfl
@[simp] theorem goods_cons (n : Nat) (x : D) (r : List D) : goods n (x :: r) = (good n x && goods n r) := by rw [goods]
@[simp] theorem noB_non : noB .non = true := by unfold noB; rfl
@[simp] theorem noB_int (i : Int) : noB (.int i) = true := by unfold noB; rfl
@[simp] theorem noB_str (i : Str) : noB (.str i) = true := by unfold noB; rfl
@[simp] theorem noB_tup (i : List D) : noB (.tup i) = noBs i := by rw [noB]
@[simp] theorem noB_lst (i : List D) : noB (.lst i) = noBs i := by rw [noB]
@[simp] theorem noBs_nil : noBs [] = true := by unfold noBs; rfl
@[simp] theorem noBs_cons (x : D) (r : List D) : noBs (x :: r) = (noB x && noBs r) := by rw [noBs]
end DD

/-! DD19: loops by what is kept; items by their number. -/
namespace DD
open PySem PySem.Spec PyProof.Rows L2
/-- a walk that comes to its end, each turn keeping P -/
theorem forD_inv {tg : TgD} {b : SD} {P : DEnv → Option Tape → Prop} : ∀ (ds : List D), (∀ d ∈ ds, ∀ δ T, P δ T → ∃ δ1, tg d δ = some δ1 ∧ ∃ δ2 T2, (b δ1 T = .nx δ2 T2 ∨ b δ1 T = .ct δ2 T2) ∧ P δ2 T2) → ∀ δ T, P δ T → ∃ δ' T', forD tg b ds δ T = .nx δ' T' ∧ P δ' T'
  | [], _, δ, T, p => ⟨δ, T, rfl, p⟩
  | d :: ds, h, δ, T, p => by
    obtain ⟨δ1, e1, δ2, T2, e2, p2⟩ := h d List.mem_cons_self δ T p
    obtain ⟨δ3, T3, e3, p3⟩ := forD_inv ds (fun d hd => h d (List.mem_cons_of_mem _ hd)) δ2 T2 p2
    refine ⟨δ3, T3, ?_, p3⟩
    rw [forD_cons, e1]
    show (b δ1 T).turn (forD tg b ds) = _
    rcases e2 with e2 | e2 <;> rw [e2]
    · exact e3
    · exact e3
theorem atI_nat (ds : List D) (k : Nat) : atI ds ((k : Nat) : Int) = ds[k]? := by
  by_cases h : k < ds.length
  · have e : ixN ds.length ((k : Nat) : Int) = some k := by
      unfold ixN
      rw [if_pos (by omega), if_pos (by omega)]
      simp
    unfold atI
    rw [e]
    rfl
  · have e : ixN ds.length ((k : Nat) : Int) = none := by
      unfold ixN
      rw [if_pos (by omega), if_neg (by omega)]
    unfold atI
    rw [e, List.getElem?_eq_none (by omega)]
    rfl
theorem atI_mem {ds : List D} {i : Int} (h0 : 0 ≤ i) (h1 : i < (ds.length : Int)) : ∃ v ∈ ds, atI ds i = some v := by
  obtain ⟨k, rfl⟩ := Int.eq_ofNat_of_zero_le h0
  have hk : k < ds.length := by omega
  refine ⟨ds[k], List.getElem_mem hk, ?_⟩
  have := atI_nat ds k
  rw [List.getElem?_eq_getElem hk] at this
  exact this
section
variable {δ : DEnv} {T : Option Tape} {g : SD}
@[simp] theorem sFrzA_a (i : Nat) : sFrzA i g δ T = (g δ T).frz i := id rfl
@[simp] theorem OSfrz_nx (i : Nat) : (OS.nx δ T).frz i = .nx (frz i δ) T := id rfl
@[simp] theorem OSfrz_ret (i : Nat) (d : D) : (OS.ret d T).frz i = .ret d T := id rfl
@[simp] theorem OSfrz_exc (i : Nat) (e : Exn) : (OS.exc e δ T).frz i = .exc e δ T := id rfl
@[simp] theorem OSfrz_stuck (i : Nat) : OS.stuck.frz i = .stuck := id rfl
end
end DD

set_option synthInstance.maxHeartbeats 4000000
set_option synthInstance.maxSize 100000
namespace K59
open PySem PySem.Spec PyProof.Rows L2 DD
def topS (i : Nat) : Stmt := PySem.Challenge.pw_chordkeep_k59_points_told_shortly.main.body.getD i (.Pass ⟨0, 0, 0, 0⟩)
abbrev st_law_rich : Stmt := topS 31
abbrev st_law_prime : Stmt := topS 32
abbrev st_law_curve : Stmt := topS 33
abbrev st_law_points : Stmt := topS 34
abbrev st_law_cell : Stmt := topS 30
abbrev st_right_side : Stmt := topS 22
abbrev st_is_integer : Stmt := topS 7
abbrev st_is_point : Stmt := topS 23
abbrev st_check_point : Stmt := topS 24
abbrev st_shortened : Stmt := topS 27
abbrev st_law_refused : Stmt := topS 36
abbrev st_singular : Stmt := topS 20
abbrev st_least_factor : Stmt := topS 13
abbrev st_whole_root : Stmt := topS 12
abbrev st_is_prime : Stmt := topS 14
abbrev st_is_good_prime : Stmt := topS 18
abbrev st_check_curve : Stmt := topS 21
abbrev st_power : Stmt := topS 8
abbrev st_jacobi : Stmt := topS 9
abbrev st_nonsquare : Stmt := topS 10
abbrev st_root : Stmt := topS 11
abbrev st_lifted : Stmt := topS 25
abbrev st_lengthened : Stmt := topS 28
abbrev st_law_told : Stmt := topS 35
abbrev st_law : Stmt := topS 37
abbrev st_init_BadCurve : Stmt := inCls (topS 3) 0
def rows_BadPoint : List (Str × Bool) := [(PySem.Str.ofString "BadCurve", false), (PySem.Str.ofString "BadNumber", false), (PySem.Str.ofString "BadPoint", true)]
/-- what the top has written -/
structure Top (K : Kf) (mg : Str → Option Value) : Prop where
  b_abs : mg "abs" = none
  b_all : mg "all" = none
  b_bool : mg "bool" = none
  b_int : mg "int" = none
  b_isinstance : mg "isinstance" = none
  b_len : mg "len" = none
  b_min : mg "min" = none
  b_range : mg "range" = none
  b_set : mg "set" = none
  b_str : mg "str" = none
  b_tuple : mg "tuple" = none
  c_LEAST_PRIME : GInt mg "LEAST_PRIME" 5
  c_MOST_PRIME : GInt mg "MOST_PRIME" 1000000000
  c_MOST_TRIED : GInt mg "MOST_TRIED" 1000000000000
  i_BadCurve : Xi K mg "BadCurve" "reason" "BadCurve.__init__" ["self", "reason"] st_init_BadCurve
  s_BadPoint : SubIs K mg "BadPoint" rows_BadPoint
  x_BadNumber : Xcs K mg "BadNumber"
  x_BadPoint : Xcs K mg "BadPoint"
  d_law_rich : Def K mg "_law_rich" st_law_rich ["cell", "k"]
  d_law_prime : Def K mg "_law_prime" st_law_prime ["rich"]
  d_law_curve : Def K mg "_law_curve" st_law_curve ["rich", "p"]
  d_law_points : Def K mg "_law_points" st_law_points ["curve"]
  d_law_cell : Def K mg "_law_cell" st_law_cell ["script", "k"]
  d_right_side : Def K mg "right_side" st_right_side ["curve", "x"]
  d_is_integer : Def K mg "is_integer" st_is_integer ["value"]
  d_is_point : Def K mg "is_point" st_is_point ["curve", "value"]
  d_check_point : Def K mg "check_point" st_check_point ["curve", "value"]
  d_shortened : Def K mg "shortened" st_shortened ["curve", "point"]
  d_law_refused : Def K mg "_law_refused" st_law_refused ["curve", "value"]
  d_singular : Def K mg "singular" st_singular ["prime", "a", "b"]
  d_least_factor : Def K mg "least_factor" st_least_factor ["number", "limit"]
  d_whole_root : Def K mg "whole_root" st_whole_root ["number"]
  d_is_prime : Def K mg "is_prime" st_is_prime ["number"]
  d_is_good_prime : Def K mg "is_good_prime" st_is_good_prime ["value"]
  d_check_curve : Def K mg "check_curve" st_check_curve ["value"]
  d_power : Def K mg "power" st_power ["base", "exponent", "modulus"]
  d_jacobi : Def K mg "jacobi" st_jacobi ["number", "modulus"]
  d_nonsquare : Def K mg "nonsquare" st_nonsquare ["prime"]
  d_root : Def K mg "root" st_root ["number", "prime"]
  d_lifted : Def K mg "lifted" st_lifted ["curve", "x"]
  d_lengthened : Def K mg "lengthened" st_lengthened ["curve", "number"]
  d_law_told : Def K mg "_law_told" st_law_told ["curve", "number"]
  d_law : Def K mg "law" st_law ["script"]
section
variable {P : Program} {w : World} {K : Kf} {mg : Str → Option Value} {base : Heap}
theorem sc_init_BadCurve : FnScope ["self", "reason"] ["self", "reason"] (defScope st_init_BadCurve) := ⟨rfl, rfl, rfl, by decide +kernel, rfl, by decide +kernel, by decide +kernel⟩
theorem oi_BadCurve (C fI : Addr) (fd : FuncData) (T : XiC K mg "BadCurve" "reason" "BadCurve.__init__" ["self", "reason"] st_init_BadCurve C fI fd) : FnOk P w K mg base (L2.CX P w) 1 fI fd ["self", "reason"] (spI K C "reason") :=
  okInit T.D sc_init_BadCurve rfl fun cdv A outer s H E => (pss_one (ps_ost (pe_var (i := 0) rfl (.inl rfl)) (pe_var (i := 1) rfl (.inl rfl))))
/-! ### _law_rich: slots 0 cell, 1 k, 2 mixed -/
theorem sc_law_rich : FnScope ["cell", "k", "mixed"] ["cell", "k"] (defScope st_law_rich) := ⟨rfl, rfl, rfl, by decide +kernel, rfl, by decide +kernel, by decide +kernel⟩
def body_law_rich : SD := sSeq (sSet 2 (dBin oMod (dB oInt (aC (dBin oAdd (dBin oAdd (dBin oMul (dV 0) (dC (.int 48271))) (dBin oMul (dV 1) (dC (.int 69621)))) (dC (.int 11))) (aN))) (dC (.int 2147483647)))) (sRet (dBin oAdd (dBin oMul (dV 2) (dC (.int 2147483629))) (dBin oMod (dB oInt (aC (dBin oAdd (dBin oMul (dV 2) (dC (.int 16807))) (dV 0)) (aN))) (dC (.int 2147483629)))))
theorem body_law_rich_eq (δ : DEnv) (T : Option Tape) : body_law_rich δ T = (sSeq (sSet 2 (dBin oMod (dB oInt (aC (dBin oAdd (dBin oAdd (dBin oMul (dV 0) (dC (.int 48271))) (dBin oMul (dV 1) (dC (.int 69621)))) (dC (.int 11))) (aN))) (dC (.int 2147483647)))) (sRet (dBin oAdd (dBin oMul (dV 2) (dC (.int 2147483629))) (dBin oMod (dB oInt (aC (dBin oAdd (dBin oMul (dV 2) (dC (.int 16807))) (dV 0)) (aN))) (dC (.int 2147483629)))))) δ T := id rfl
def den_law_rich : List D → Mo D := runD 1 body_law_rich
instance : PuS body_law_rich := by unfold body_law_rich; infer_instance
instance : PuD den_law_rich := by unfold den_law_rich; infer_instance
theorem ok_law_rich (T : Top K mg) : OkF P w K mg base "_law_rich" ["cell", "k"] 1 2 den_law_rich :=
  okF (j := 0) T.d_law_rich sc_law_rich rfl rfl fun f cdv A outer s H E hr hu tk po => by
    have hN := sc_law_rich.nd
    exact (dss_cons (ds_set 2 hN (de_bin op_mod opd_mod (de_ty call_int1 cd_int T.b_int boot_int (da_cons (de_bin op_addA opd_add (de_bin op_addA opd_add (de_bin op_mul opd_mul (de_v 0) de_int) (de_bin op_mul opd_mul (de_v 1) de_int)) de_int) da_nil)) de_int)) (dss_one (ds_ret (de_bin op_addA opd_add (de_bin op_mul opd_mul (de_v 2) de_int) (de_bin op_mod opd_mod (de_ty call_int1 cd_int T.b_int boot_int (da_cons (de_bin op_addA opd_add (de_bin op_mul opd_mul (de_v 2) de_int) (de_v 0)) da_nil)) de_int)))))
/-! ### _law_prime: slots 0 rich -/
theorem sc_law_prime : FnScope ["rich"] ["rich"] (defScope st_law_prime) := ⟨rfl, rfl, rfl, by decide +kernel, rfl, by decide +kernel, by decide +kernel⟩
def body_law_prime : SD := sRet (dBin oIx (dL (lLst (aC (dC (.int 5)) (aC (dC (.int 7)) (aC (dC (.int 11)) (aC (dC (.int 13)) (aC (dC (.int 17)) (aC (dC (.int 19)) (aC (dC (.int 23)) (aC (dC (.int 29)) (aC (dC (.int 31)) (aC (dC (.int 37)) (aC (dC (.int 41)) (aC (dC (.int 43)) (aC (dC (.int 47)) (aC (dC (.int 53)) (aC (dC (.int 59)) (aC (dC (.int 61)) (aN))))))))))))))))))) (dBin oMod (dV 0) (dC (.int 16))))
theorem body_law_prime_eq (δ : DEnv) (T : Option Tape) : body_law_prime δ T = (sRet (dBin oIx (dL (lLst (aC (dC (.int 5)) (aC (dC (.int 7)) (aC (dC (.int 11)) (aC (dC (.int 13)) (aC (dC (.int 17)) (aC (dC (.int 19)) (aC (dC (.int 23)) (aC (dC (.int 29)) (aC (dC (.int 31)) (aC (dC (.int 37)) (aC (dC (.int 41)) (aC (dC (.int 43)) (aC (dC (.int 47)) (aC (dC (.int 53)) (aC (dC (.int 59)) (aC (dC (.int 61)) (aN))))))))))))))))))) (dBin oMod (dV 0) (dC (.int 16))))) δ T := id rfl
def den_law_prime : List D → Mo D := runD 0 body_law_prime
instance : PuS body_law_prime := by unfold body_law_prime; infer_instance
instance : PuD den_law_prime := by unfold den_law_prime; infer_instance
theorem ok_law_prime (T : Top K mg) : OkF P w K mg base "_law_prime" ["rich"] 1 1 den_law_prime :=
  okF (j := 0) T.d_law_prime sc_law_prime rfl rfl fun f cdv A outer s H E hr hu tk po => by
    have hN := sc_law_prime.nd
    exact (dss_one (ds_ret (de_ix ix_A opd_ix (de_L (dl_lst (da_cons de_int (da_cons de_int (da_cons de_int (da_cons de_int (da_cons de_int (da_cons de_int (da_cons de_int (da_cons de_int (da_cons de_int (da_cons de_int (da_cons de_int (da_cons de_int (da_cons de_int (da_cons de_int (da_cons de_int (da_cons de_int da_nil)))))))))))))))))) (de_bin op_mod opd_mod (de_v 0) de_int) (fun _ _ => rfl))))
/-! ### _law_curve: slots 0 rich, 1 p, 2 k, 3 a, 4 b -/
theorem sc_law_curve : FnScope ["rich", "p", "k", "a", "b"] ["rich", "p"] (defScope st_law_curve) := ⟨rfl, rfl, rfl, by decide +kernel, rfl, by decide +kernel, by decide +kernel⟩
def fb_law_curve_1 : SD := sSeq (sPar 3 4 (dBin oMod (dBin oAdd (dV 0) (dV 2)) (dV 1)) (dBin oMod (dBin oAdd (dBin oDiv (dV 0) (dV 1)) (dBin oDiv (dV 2) (dV 1))) (dV 1))) (sIf (dTv (dBin (oNe) (dBin oMod (dBin oAdd (dBin oMul (dBin oMul (dBin oMul (dC (.int 4)) (dV 3)) (dV 3)) (dV 3)) (dBin oMul (dBin oMul (dC (.int 27)) (dV 4)) (dV 4))) (dV 1)) (dC (.int 0)))) (sRet (dTup (aC (dC (.str (PySem.Str.ofString "curve"))) (aC (dV 1) (aC (dV 3) (aC (dV 4) (aN))))))) (sNext))
theorem fb_law_curve_1_eq (δ : DEnv) (T : Option Tape) : fb_law_curve_1 δ T = (sSeq (sPar 3 4 (dBin oMod (dBin oAdd (dV 0) (dV 2)) (dV 1)) (dBin oMod (dBin oAdd (dBin oDiv (dV 0) (dV 1)) (dBin oDiv (dV 2) (dV 1))) (dV 1))) (sIf (dTv (dBin (oNe) (dBin oMod (dBin oAdd (dBin oMul (dBin oMul (dBin oMul (dC (.int 4)) (dV 3)) (dV 3)) (dV 3)) (dBin oMul (dBin oMul (dC (.int 27)) (dV 4)) (dV 4))) (dV 1)) (dC (.int 0)))) (sRet (dTup (aC (dC (.str (PySem.Str.ofString "curve"))) (aC (dV 1) (aC (dV 3) (aC (dV 4) (aN))))))) (sNext))) δ T := id rfl
def body_law_curve : SD := sSeq (sFor (iR1 (aC (dBin oMul (dV 1) (dV 1)) (aN))) (tgN 2) (fb_law_curve_1)) (sRet (dTup (aC (dC (.str (PySem.Str.ofString "curve"))) (aC (dV 1) (aC (dC (.int 0)) (aC (dC (.int 1)) (aN)))))))
theorem body_law_curve_eq (δ : DEnv) (T : Option Tape) : body_law_curve δ T = (sSeq (sFor (iR1 (aC (dBin oMul (dV 1) (dV 1)) (aN))) (tgN 2) (fb_law_curve_1)) (sRet (dTup (aC (dC (.str (PySem.Str.ofString "curve"))) (aC (dV 1) (aC (dC (.int 0)) (aC (dC (.int 1)) (aN)))))))) δ T := id rfl
def den_law_curve : List D → Mo D := runD 3 body_law_curve
instance : PuS fb_law_curve_1 := by unfold fb_law_curve_1; infer_instance
instance : PuS body_law_curve := by unfold body_law_curve; infer_instance
instance : PuD den_law_curve := by unfold den_law_curve; infer_instance
theorem ok_law_curve (T : Top K mg) : OkF P w K mg base "_law_curve" ["rich", "p"] 1 2 den_law_curve :=
  okF (j := 0) T.d_law_curve sc_law_curve rfl rfl fun f cdv A outer s H E hr hu tk po => by
    have hN := sc_law_curve.nd
    exact (dss_cons (ds_for po rfl (di_r1 rfl T.b_range (da_cons (de_bin op_mul opd_mul (de_v 1) (de_v 1)) da_nil)) (dg_name 2 hN) (dss_cons (ds_par 3 4 rfl hN (de_bin op_mod opd_mod (de_bin op_addA opd_add (de_v 0) (de_v 2)) (de_v 1)) (de_bin op_mod opd_mod (de_bin op_addA opd_add (de_bin op_fdivW opd_div (de_v 0) (de_v 1)) (de_bin op_fdivW opd_div (de_v 2) (de_v 1))) (de_v 1))) (dss_one (ds_if (dt_cmp (op_neD hu) opd_ne (de_bin op_mod opd_mod (de_bin op_addA opd_add (de_bin op_mul opd_mul (de_bin op_mul opd_mul (de_bin op_mul opd_mul de_int (de_v 3)) (de_v 3)) (de_v 3)) (de_bin op_mul opd_mul (de_bin op_mul opd_mul de_int (de_v 4)) (de_v 4))) (de_v 1)) de_int (nomark _)) (dss_one (ds_ret (de_tup (da_cons de_str (da_cons (de_v 1) (da_cons (de_v 3) (da_cons (de_v 4) da_nil))))))) dss_nil)))) (dss_one (ds_ret (de_tup (da_cons de_str (da_cons (de_v 1) (da_cons de_int (da_cons de_int da_nil))))))))
/-! ### _law_points: slots 0 curve, 1 found, 2 x, 3 word, 4 p, 5 a, 6 b, 7 y -/
theorem sc_law_points : FnScope ["curve", "found", "x", "word", "p", "a", "b", "y"] ["curve"] (defScope st_law_points) := ⟨rfl, rfl, rfl, by decide +kernel, rfl, by decide +kernel, by decide +kernel⟩
def fb_law_points_2 : SD := sIf (dTv (dBin (oEq) (dBin oMod (dBin oSub (dBin oSub (dBin oSub (dBin oMul (dV 7) (dV 7)) (dBin oMul (dBin oMul (dV 2) (dV 2)) (dV 2))) (dBin oMul (dV 5) (dV 2))) (dV 6)) (dV 4)) (dC (.int 0)))) (sApp 1 (dTup (aC (dV 2) (aC (dV 7) (aN))))) (sNext)
theorem fb_law_points_2_eq (δ : DEnv) (T : Option Tape) : fb_law_points_2 δ T = (sIf (dTv (dBin (oEq) (dBin oMod (dBin oSub (dBin oSub (dBin oSub (dBin oMul (dV 7) (dV 7)) (dBin oMul (dBin oMul (dV 2) (dV 2)) (dV 2))) (dBin oMul (dV 5) (dV 2))) (dV 6)) (dV 4)) (dC (.int 0)))) (sApp 1 (dTup (aC (dV 2) (aC (dV 7) (aN))))) (sNext)) δ T := id rfl
def fb_law_points_1 : SD := sFor (iR1 (aC (dV 4) (aN))) (tgN 7) (fb_law_points_2)
theorem fb_law_points_1_eq (δ : DEnv) (T : Option Tape) : fb_law_points_1 δ T = (sFor (iR1 (aC (dV 4) (aN))) (tgN 7) (fb_law_points_2)) δ T := id rfl
def body_law_points : SD := sSeq (sAsg (tgT 4 (tgCons (tgN 3) (tgCons (tgN 4) (tgCons (tgN 5) (tgCons (tgN 6) (tgNil)))))) (dV 0)) (sSeq (sSetL 1 (lLst (aC (dC .non) (aN)))) (sSeq (sFor (iR1 (aC (dV 4) (aN))) (tgN 2) (fb_law_points_1)) (sRetOwn 1)))
theorem body_law_points_eq (δ : DEnv) (T : Option Tape) : body_law_points δ T = (sSeq (sAsg (tgT 4 (tgCons (tgN 3) (tgCons (tgN 4) (tgCons (tgN 5) (tgCons (tgN 6) (tgNil)))))) (dV 0)) (sSeq (sSetL 1 (lLst (aC (dC .non) (aN)))) (sSeq (sFor (iR1 (aC (dV 4) (aN))) (tgN 2) (fb_law_points_1)) (sRetOwn 1)))) δ T := id rfl
def den_law_points : List D → Mo D := runD 7 body_law_points
instance : PuS fb_law_points_2 := by unfold fb_law_points_2; infer_instance
instance : PuS fb_law_points_1 := by unfold fb_law_points_1; infer_instance
instance : PuS body_law_points := by unfold body_law_points; infer_instance
instance : PuD den_law_points := by unfold den_law_points; infer_instance
theorem ok_law_points (T : Top K mg) : OkF P w K mg base "_law_points" ["curve"] 1 1 den_law_points :=
  okF (j := 0) T.d_law_points sc_law_points rfl rfl fun f cdv A outer s H E hr hu tk po => by
    have hN := sc_law_points.nd
    exact (dss_cons (ds_asg (de_v 0) (dg_tup rfl (dgs_cons (dg_name 3 hN) (dgs_cons (dg_name 4 hN) (dgs_cons (dg_name 5 hN) (dgs_cons (dg_name 6 hN) dgs_nil)))))) (dss_cons (ds_setL 1 hN (dl_lst (da_cons de_non da_nil))) (dss_cons (ds_for po rfl (di_r1 rfl T.b_range (da_cons (de_v 4) da_nil)) (dg_name 2 hN) (dss_one (ds_for po rfl (di_r1 rfl T.b_range (da_cons (de_v 4) da_nil)) (dg_name 7 hN) (dss_one (ds_if (dt_cmp (op_eqD hu) opd_eq (de_bin op_mod opd_mod (de_bin op_sub opd_sub (de_bin op_sub opd_sub (de_bin op_sub opd_sub (de_bin op_mul opd_mul (de_v 7) (de_v 7)) (de_bin op_mul opd_mul (de_bin op_mul opd_mul (de_v 2) (de_v 2)) (de_v 2))) (de_bin op_mul opd_mul (de_v 5) (de_v 2))) (de_v 6)) (de_v 4)) de_int (nomark _)) (dss_one (ds_append 1 (de_tup (da_cons (de_v 2) (da_cons (de_v 7) da_nil))))) dss_nil))))) (dss_one (ds_retOwn 1)))))
/-! ### _law_cell: slots 0 script, 1 k -/
theorem sc_law_cell : FnScope ["script", "k"] ["script", "k"] (defScope st_law_cell) := ⟨rfl, rfl, rfl, by decide +kernel, rfl, by decide +kernel, by decide +kernel⟩
def body_law_cell : SD := sSeq (sIf (dTv (dBin (oLt) (dV 1) (dB oLen (aC (dV 0) (aN))))) (sRet (dBin oMod (dB oAbs (aC (dB oInt (aC (dBin oIx (dV 0) (dV 1)) (aN))) (aN))) (dC (.int 1000000007)))) (sNext)) (sRet (dC (.int 0)))
theorem body_law_cell_eq (δ : DEnv) (T : Option Tape) : body_law_cell δ T = (sSeq (sIf (dTv (dBin (oLt) (dV 1) (dB oLen (aC (dV 0) (aN))))) (sRet (dBin oMod (dB oAbs (aC (dB oInt (aC (dBin oIx (dV 0) (dV 1)) (aN))) (aN))) (dC (.int 1000000007)))) (sNext)) (sRet (dC (.int 0)))) δ T := id rfl
def den_law_cell : List D → Mo D := runD 0 body_law_cell
instance : PuS body_law_cell := by unfold body_law_cell; infer_instance
instance : PuD den_law_cell := by unfold den_law_cell; infer_instance
theorem ok_law_cell (T : Top K mg) : OkF P w K mg base "_law_cell" ["script", "k"] 1 2 den_law_cell :=
  okF (j := 0) T.d_law_cell sc_law_cell rfl rfl fun f cdv A outer s H E hr hu tk po => by
    have hN := sc_law_cell.nd
    exact (dss_cons (ds_if (dt_cmp op_lt opd_lt (de_v 1) (de_b call_len_seq cd_len T.b_len boot_len (da_cons (de_v 0) da_nil)) (nomark _)) (dss_one (ds_ret (de_bin op_mod opd_mod (de_b call_abs cd_abs T.b_abs boot_abs (da_cons (de_ty call_int1 cd_int T.b_int boot_int (da_cons (de_ix ix_A opd_ix (de_v 0) (de_v 1) (fun _ _ => rfl)) da_nil)) da_nil)) de_int))) dss_nil) (dss_one (ds_ret de_int)))
/-! ### right_side: slots 0 curve, 1 x, 2 _, 3 prime, 4 a, 5 b -/
theorem sc_right_side : FnScope ["curve", "x", "_", "prime", "a", "b"] ["curve", "x"] (defScope st_right_side) := ⟨rfl, rfl, rfl, by decide +kernel, rfl, by decide +kernel, by decide +kernel⟩
def body_right_side : SD := sSeq (sAsg (tgT 4 (tgCons (tgN 2) (tgCons (tgN 3) (tgCons (tgN 4) (tgCons (tgN 5) (tgNil)))))) (dV 0)) (sRet (dBin oMod (dBin oAdd (dBin oMul (dBin oAdd (dBin oMul (dV 1) (dV 1)) (dV 4)) (dV 1)) (dV 5)) (dV 3)))
theorem body_right_side_eq (δ : DEnv) (T : Option Tape) : body_right_side δ T = (sSeq (sAsg (tgT 4 (tgCons (tgN 2) (tgCons (tgN 3) (tgCons (tgN 4) (tgCons (tgN 5) (tgNil)))))) (dV 0)) (sRet (dBin oMod (dBin oAdd (dBin oMul (dBin oAdd (dBin oMul (dV 1) (dV 1)) (dV 4)) (dV 1)) (dV 5)) (dV 3)))) δ T := id rfl
def den_right_side : List D → Mo D := runD 4 body_right_side
instance : PuS body_right_side := by unfold body_right_side; infer_instance
instance : PuD den_right_side := by unfold den_right_side; infer_instance
theorem ok_right_side (T : Top K mg) : OkF P w K mg base "right_side" ["curve", "x"] 1 2 den_right_side :=
  okF (j := 0) T.d_right_side sc_right_side rfl rfl fun f cdv A outer s H E hr hu tk po => by
    have hN := sc_right_side.nd
    exact (dss_cons (ds_asg (de_v 0) (dg_tup rfl (dgs_cons (dg_name 2 hN) (dgs_cons (dg_name 3 hN) (dgs_cons (dg_name 4 hN) (dgs_cons (dg_name 5 hN) dgs_nil)))))) (dss_one (ds_ret (de_bin op_mod opd_mod (de_bin op_addA opd_add (de_bin op_mul opd_mul (de_bin op_addA opd_add (de_bin op_mul opd_mul (de_v 1) (de_v 1)) (de_v 4)) (de_v 1)) (de_v 5)) (de_v 3)))))
/-! ### is_integer: slots 0 value -/
theorem sc_is_integer : FnScope ["value"] ["value"] (defScope st_is_integer) := ⟨rfl, rfl, rfl, by decide +kernel, rfl, by decide +kernel, by decide +kernel⟩
def body_is_integer : SD := sRet (dAndV (dIsi "int" (dV 0)) (dNotV (dIsi "bool" (dV 0))))
theorem body_is_integer_eq (δ : DEnv) (T : Option Tape) : body_is_integer δ T = (sRet (dAndV (dIsi "int" (dV 0)) (dNotV (dIsi "bool" (dV 0))))) δ T := id rfl
def den_is_integer : List D → Mo D := runD 0 body_is_integer
instance : PuS body_is_integer := by unfold body_is_integer; infer_instance
instance : PuD den_is_integer := by unfold den_is_integer; infer_instance
theorem ok_is_integer (T : Top K mg) : OkF P w K mg base "is_integer" ["value"] 1 1 den_is_integer :=
  okF (j := 0) T.d_is_integer sc_is_integer rfl rfl fun f cdv A outer s H E hr hu tk po => by
    have hN := sc_is_integer.nd
    exact (dss_one (ds_ret (de_and (de_isi T.b_isinstance (de_v 0) T.b_int boot_int) (de_one (de_not (de_isi T.b_isinstance (de_v 0) T.b_bool boot_bool))))))
/-! ### is_point: slots 0 curve, 1 value, 2 item -/
theorem sc_is_point : FnScope ["curve", "value", "item"] ["curve", "value"] (defScope st_is_point) := ⟨rfl, rfl, rfl, by decide +kernel, rfl, by decide +kernel, by decide +kernel⟩
def ce_is_point_1 : DEnv → Mo D := dAndV (dCall 1 den_is_integer (aC (dV 2) (aN))) (dAndV (dBin (oLe) (dC (.int 0)) (dV 2)) (dBin (oLt) (dV 2) (dBin oIx (dV 0) (dC (.int 1)))))
theorem ce_is_point_1_eq (δ : DEnv) (T : Option Tape) : ce_is_point_1 δ T = (dAndV (dCall 1 den_is_integer (aC (dV 2) (aN))) (dAndV (dBin (oLe) (dC (.int 0)) (dV 2)) (dBin (oLt) (dV 2) (dBin oIx (dV 0) (dC (.int 1)))))) δ T := id rfl
def body_is_point : SD := sSeq (sIf (dTv (dBin (oIs) (dV 1) (dC .non))) (sRet (dC (.bl true))) (sNext)) (sSeq (sIf (dOr (dNot (dTv (dIsi "tuple" (dV 1)))) (dTv (dBin (oNe) (dB oLen (aC (dV 1) (aN))) (dC (.int 2))))) (sRet (dC (.bl false))) (sNext)) (sSeq (sIf (dNot (dTv (dB oAll (aC (dL (lLc (iSeq (dV 1)) (tgN 2) (tYesD) (ce_is_point_1) [2])) (aN))))) (sRet (dC (.bl false))) (sNext)) (sRet (dBin (oEq) (dBin oMod (dBin oMul (dBin oIx (dV 1) (dC (.int 1))) (dBin oIx (dV 1) (dC (.int 1)))) (dBin oIx (dV 0) (dC (.int 1)))) (dCall 2 den_right_side (aC (dV 0) (aC (dBin oIx (dV 1) (dC (.int 0))) (aN))))))))
theorem body_is_point_eq (δ : DEnv) (T : Option Tape) : body_is_point δ T = (sSeq (sIf (dTv (dBin (oIs) (dV 1) (dC .non))) (sRet (dC (.bl true))) (sNext)) (sSeq (sIf (dOr (dNot (dTv (dIsi "tuple" (dV 1)))) (dTv (dBin (oNe) (dB oLen (aC (dV 1) (aN))) (dC (.int 2))))) (sRet (dC (.bl false))) (sNext)) (sSeq (sIf (dNot (dTv (dB oAll (aC (dL (lLc (iSeq (dV 1)) (tgN 2) (tYesD) (ce_is_point_1) [2])) (aN))))) (sRet (dC (.bl false))) (sNext)) (sRet (dBin (oEq) (dBin oMod (dBin oMul (dBin oIx (dV 1) (dC (.int 1))) (dBin oIx (dV 1) (dC (.int 1)))) (dBin oIx (dV 0) (dC (.int 1)))) (dCall 2 den_right_side (aC (dV 0) (aC (dBin oIx (dV 1) (dC (.int 0))) (aN))))))))) δ T := id rfl
def den_is_point : List D → Mo D := runD 1 body_is_point
instance : PuE ce_is_point_1 := by unfold ce_is_point_1; infer_instance
instance : PuS body_is_point := by unfold body_is_point; infer_instance
instance : PuD den_is_point := by unfold den_is_point; infer_instance
theorem ok_is_point (T : Top K mg) (G_is_integer : OkF P w K mg base "is_integer" ["value"] 1 1 den_is_integer) (G_right_side : OkF P w K mg base "right_side" ["curve", "x"] 1 2 den_right_side) : OkF P w K mg base "is_point" ["curve", "value"] 2 2 den_is_point :=
  okF (j := 1) T.d_is_point sc_is_point rfl rfl fun f cdv A outer s H E hr hu tk po => by
    have hN := sc_is_point.nd
    exact (dss_cons (ds_if (dt_cmp op_isN opd_is (de_v 1) de_non (nomark _)) (dss_one (ds_ret de_bl)) dss_nil) (dss_cons (ds_if (dt_w (dw_or (dt_not (dt_val (de_isi T.b_isinstance (de_v 1) T.b_tuple boot_tuple))) (dw_or1 (dt_cmp (op_neD hu) opd_ne (de_b call_len_seq cd_len T.b_len boot_len (da_cons (de_v 1) da_nil)) de_int (nomark _))))) (dss_one (ds_ret de_bl)) dss_nil) (dss_cons (ds_if (dt_not (dt_val (de_b (cr_all rfl) cd_all T.b_all boot_all (da_cons (de_L (dl_lc rfl hN (own := [("item", 2)]) (di_tup (de_v 1)) (blkOk_by (N := ["curve", "value", "item"]) (sc := defScope st_is_point) (by decide +kernel)) (by decide) (fun _ _ _ _ _ => (dg_name 2 hN)) (fun _ _ _ _ _ => dts_nil) (fun _ _ _ _ _ => (de_and (de_f takes0 G_is_integer hr (da_cons (de_v 2) da_nil)) (de_and (de_cmp op_le opd_le de_int (de_v 2) (nomark _)) (de_one (de_cmp op_lt opd_lt (de_v 2) (de_ix ix_A opd_ix (de_v 0) de_int (fun _ _ => rfl)) (nomark _)))))))) da_nil)))) (dss_one (ds_ret de_bl)) dss_nil) (dss_one (ds_ret (de_cmp (op_eqD hu) opd_eq (de_bin op_mod opd_mod (de_bin op_mul opd_mul (de_ix ix_A opd_ix (de_v 1) de_int (fun _ _ => rfl)) (de_ix ix_A opd_ix (de_v 1) de_int (fun _ _ => rfl))) (de_ix ix_A opd_ix (de_v 0) de_int (fun _ _ => rfl))) (de_f tk G_right_side hr (da_cons (de_v 0) (da_cons (de_ix ix_A opd_ix (de_v 1) de_int (fun _ _ => rfl)) da_nil))) (nomark _)))))))
/-! ### check_point: slots 0 curve, 1 value -/
theorem sc_check_point : FnScope ["curve", "value"] ["curve", "value"] (defScope st_check_point) := ⟨rfl, rfl, rfl, by decide +kernel, rfl, by decide +kernel, by decide +kernel⟩
def body_check_point : SD := sIf (dNot (dTv (dCall 2 den_is_point (aC (dV 0) (aC (dV 1) (aN)))))) (sRaise (PySem.Str.ofString "BadPoint")) (sNext)
theorem body_check_point_eq (δ : DEnv) (T : Option Tape) : body_check_point δ T = (sIf (dNot (dTv (dCall 2 den_is_point (aC (dV 0) (aC (dV 1) (aN)))))) (sRaise (PySem.Str.ofString "BadPoint")) (sNext)) δ T := id rfl
def den_check_point : List D → Mo D := runD 0 body_check_point
instance : PuS body_check_point := by unfold body_check_point; infer_instance
instance : PuD den_check_point := by unfold den_check_point; infer_instance
theorem ok_check_point (T : Top K mg) (G_is_point : OkF P w K mg base "is_point" ["curve", "value"] 2 2 den_is_point) : OkF P w K mg base "check_point" ["curve", "value"] 3 2 den_check_point :=
  okF (j := 2) T.d_check_point sc_check_point rfl rfl fun f cdv A outer s H E hr hu tk po => by
    have hN := sc_check_point.nd
    exact (dss_one (ds_if (dt_not (dt_val (de_f tk G_is_point hr (da_cons (de_v 0) (da_cons (de_v 1) da_nil))))) (dss_one (ds_raise' rfl tk T.x_BadPoint)) dss_nil))
/-! ### shortened: slots 0 curve, 1 point -/
theorem sc_shortened : FnScope ["curve", "point"] ["curve", "point"] (defScope st_shortened) := ⟨rfl, rfl, rfl, by decide +kernel, rfl, by decide +kernel, by decide +kernel⟩
def body_shortened : SD := sSeq (sDrop (dCall 2 den_check_point (aC (dV 0) (aC (dV 1) (aN))))) (sRet (dIf (dTv (dBin (oIs) (dV 1) (dC .non))) (dC (.int 0)) (dBin oAdd (dBin oAdd (dBin oMul (dC (.int 2)) (dBin oIx (dV 1) (dC (.int 0)))) (dC (.int 1))) (dBin oAnd (dBin oIx (dV 1) (dC (.int 1))) (dC (.int 1))))))
theorem body_shortened_eq (δ : DEnv) (T : Option Tape) : body_shortened δ T = (sSeq (sDrop (dCall 2 den_check_point (aC (dV 0) (aC (dV 1) (aN))))) (sRet (dIf (dTv (dBin (oIs) (dV 1) (dC .non))) (dC (.int 0)) (dBin oAdd (dBin oAdd (dBin oMul (dC (.int 2)) (dBin oIx (dV 1) (dC (.int 0)))) (dC (.int 1))) (dBin oAnd (dBin oIx (dV 1) (dC (.int 1))) (dC (.int 1))))))) δ T := id rfl
def den_shortened : List D → Mo D := runD 0 body_shortened
instance : PuS body_shortened := by unfold body_shortened; infer_instance
instance : PuD den_shortened := by unfold den_shortened; infer_instance
theorem ok_shortened (T : Top K mg) (G_check_point : OkF P w K mg base "check_point" ["curve", "value"] 3 2 den_check_point) : OkF P w K mg base "shortened" ["curve", "point"] 4 2 den_shortened :=
  okF (j := 3) T.d_shortened sc_shortened rfl rfl fun f cdv A outer s H E hr hu tk po => by
    have hN := sc_shortened.nd
    exact (dss_cons (ds_expr (de_f tk G_check_point hr (da_cons (de_v 0) (da_cons (de_v 1) da_nil)))) (dss_one (ds_ret (de_if (dt_cmp op_isN opd_is (de_v 1) de_non (nomark _)) de_int (de_bin op_addA opd_add (de_bin op_addA opd_add (de_bin op_mul opd_mul de_int (de_ix ix_A opd_ix (de_v 1) de_int (fun _ _ => rfl))) de_int) (de_bin op_and opd_and (de_ix ix_A opd_ix (de_v 1) de_int (fun _ _ => rfl)) de_int))))))
/-! ### _law_refused: slots 0 curve, 1 value -/
theorem sc_law_refused : FnScope ["curve", "value"] ["curve", "value"] (defScope st_law_refused) := ⟨rfl, rfl, rfl, by decide +kernel, rfl, by decide +kernel, by decide +kernel⟩
def body_law_refused : SD := sSeq (sTry (sDrop (dCall 2 den_shortened (aC (dV 0) (aC (dV 1) (aN))))) [(PySem.Str.ofString "BadPoint", subOf rows_BadPoint, sRet (dC (.bl true)))]) (sRet (dC (.bl false)))
theorem body_law_refused_eq (δ : DEnv) (T : Option Tape) : body_law_refused δ T = (sSeq (sTry (sDrop (dCall 2 den_shortened (aC (dV 0) (aC (dV 1) (aN))))) [(PySem.Str.ofString "BadPoint", subOf rows_BadPoint, sRet (dC (.bl true)))]) (sRet (dC (.bl false)))) δ T := id rfl
def den_law_refused : List D → Mo D := runD 0 body_law_refused
theorem ok_law_refused (T : Top K mg) (G_shortened : OkF P w K mg base "shortened" ["curve", "point"] 4 2 den_shortened) : OkF P w K mg base "_law_refused" ["curve", "value"] 5 2 den_law_refused :=
  okF (j := 4) T.d_law_refused sc_law_refused rfl rfl fun f cdv A outer s H E hr hu tk po => by
    have hN := sc_law_refused.nd
    exact (dss_cons (ds_try1 rfl rfl tk T.s_BadPoint (fun W' pn xe tk' po' => (dss_one (ds_expr (de_f tk' G_shortened hr (da_cons (de_v 0) (da_cons (de_v 1) da_nil)))))) (fun a oe cls d pn _ _ => (dss_one (ds_ret de_bl)))) (dss_one (ds_ret de_bl)))
/-! ### singular: slots 0 prime, 1 a, 2 b -/
theorem sc_singular : FnScope ["prime", "a", "b"] ["prime", "a", "b"] (defScope st_singular) := ⟨rfl, rfl, rfl, by decide +kernel, rfl, by decide +kernel, by decide +kernel⟩
def body_singular : SD := sRet (dBin (oEq) (dBin oMod (dBin oAdd (dBin oMul (dBin oMul (dBin oMul (dC (.int 4)) (dV 1)) (dV 1)) (dV 1)) (dBin oMul (dBin oMul (dC (.int 27)) (dV 2)) (dV 2))) (dV 0)) (dC (.int 0)))
theorem body_singular_eq (δ : DEnv) (T : Option Tape) : body_singular δ T = (sRet (dBin (oEq) (dBin oMod (dBin oAdd (dBin oMul (dBin oMul (dBin oMul (dC (.int 4)) (dV 1)) (dV 1)) (dV 1)) (dBin oMul (dBin oMul (dC (.int 27)) (dV 2)) (dV 2))) (dV 0)) (dC (.int 0)))) δ T := id rfl
def den_singular : List D → Mo D := runD 0 body_singular
instance : PuS body_singular := by unfold body_singular; infer_instance
instance : PuD den_singular := by unfold den_singular; infer_instance
theorem ok_singular (T : Top K mg) : OkF P w K mg base "singular" ["prime", "a", "b"] 1 3 den_singular :=
  okF (j := 0) T.d_singular sc_singular rfl rfl fun f cdv A outer s H E hr hu tk po => by
    have hN := sc_singular.nd
    exact (dss_one (ds_ret (de_cmp (op_eqD hu) opd_eq (de_bin op_mod opd_mod (de_bin op_addA opd_add (de_bin op_mul opd_mul (de_bin op_mul opd_mul (de_bin op_mul opd_mul de_int (de_v 1)) (de_v 1)) (de_v 1)) (de_bin op_mul opd_mul (de_bin op_mul opd_mul de_int (de_v 2)) (de_v 2))) (de_v 0)) de_int (nomark _))))
/-! ### least_factor: slots 0 number, 1 limit, 2 found -/
theorem sc_least_factor : FnScope ["number", "limit", "found"] ["number", "limit"] (defScope st_least_factor) := ⟨rfl, rfl, rfl, by decide +kernel, rfl, by decide +kernel, by decide +kernel⟩
def wc_least_factor_1 : DEnv → Mo Bool := dTv (dBin (oLe) (dV 2) (dV 1))
theorem wc_least_factor_1_eq (δ : DEnv) (T : Option Tape) : wc_least_factor_1 δ T = (dTv (dBin (oLe) (dV 2) (dV 1))) δ T := id rfl
def wb_least_factor_1 : SD := sSeq (sIf (dTv (dBin (oEq) (dBin oMod (dV 0) (dV 2)) (dC (.int 0)))) (sRet (dV 2)) (sNext)) (sSeq (sIf (dTv (dBin (oGt) (dBin oMul (dV 2) (dV 2)) (dV 0))) (sRet (dIf (dAnd (dTv (dBin (oLe) (dV 0) (dV 1))) (dTv (dBin (oGt) (dV 0) (dC (.int 1))))) (dV 0) (dC .non))) (sNext)) (sAug 2 oAddI (dIf (dTv (dBin (oEq) (dV 2) (dC (.int 2)))) (dC (.int 1)) (dC (.int 2)))))
theorem wb_least_factor_1_eq (δ : DEnv) (T : Option Tape) : wb_least_factor_1 δ T = (sSeq (sIf (dTv (dBin (oEq) (dBin oMod (dV 0) (dV 2)) (dC (.int 0)))) (sRet (dV 2)) (sNext)) (sSeq (sIf (dTv (dBin (oGt) (dBin oMul (dV 2) (dV 2)) (dV 0))) (sRet (dIf (dAnd (dTv (dBin (oLe) (dV 0) (dV 1))) (dTv (dBin (oGt) (dV 0) (dC (.int 1))))) (dV 0) (dC .non))) (sNext)) (sAug 2 oAddI (dIf (dTv (dBin (oEq) (dV 2) (dC (.int 2)))) (dC (.int 1)) (dC (.int 2)))))) δ T := id rfl
def body_least_factor : SD := sSeq (sSet 2 (dC (.int 2))) (sSeq (sWhile wc_least_factor_1 wb_least_factor_1) (sRet (dC .non)))
theorem body_least_factor_eq (δ : DEnv) (T : Option Tape) : body_least_factor δ T = (sSeq (sSet 2 (dC (.int 2))) (sSeq (sWhile wc_least_factor_1 wb_least_factor_1) (sRet (dC .non)))) δ T := id rfl
def den_least_factor : List D → Mo D := runD 1 body_least_factor
instance : PuE wc_least_factor_1 := by unfold wc_least_factor_1; infer_instance
instance : PuS wb_least_factor_1 := by unfold wb_least_factor_1; infer_instance
instance : PuS body_least_factor := by unfold body_least_factor; infer_instance
instance : PuD den_least_factor := by unfold den_least_factor; infer_instance
theorem ok_least_factor (T : Top K mg) : OkF P w K mg base "least_factor" ["number", "limit"] 1 2 den_least_factor :=
  okF (j := 0) T.d_least_factor sc_least_factor rfl rfl fun f cdv A outer s H E hr hu tk po => by
    have hN := sc_least_factor.nd
    exact (dss_cons (ds_set 2 hN de_int) (dss_cons (ds_while po (dt_cmp op_le opd_le (de_v 2) (de_v 1) (nomark _)) (dss_cons (ds_if (dt_cmp (op_eqD hu) opd_eq (de_bin op_mod opd_mod (de_v 0) (de_v 2)) de_int (nomark _)) (dss_one (ds_ret (de_v 2))) dss_nil) (dss_cons (ds_if (dt_cmp op_gt opd_gt (de_bin op_mul opd_mul (de_v 2) (de_v 2)) (de_v 0) (nomark _)) (dss_one (ds_ret (de_if (dt_w (dw_and (dt_cmp op_le opd_le (de_v 0) (de_v 1) (nomark _)) (dw_and1 (dt_cmp op_gt opd_gt (de_v 0) de_int (nomark _))))) (de_v 0) de_non))) dss_nil) (dss_one (ds_aug 2 hN iop_add opd_addI (de_if (dt_cmp (op_eqD hu) opd_eq (de_v 2) de_int (nomark _)) de_int de_int)))))) (dss_one (ds_ret de_non))))
/-! ### whole_root: slots 0 number, 1 found, 2 closer -/
theorem sc_whole_root : FnScope ["number", "found", "closer"] ["number"] (defScope st_whole_root) := ⟨rfl, rfl, rfl, by decide +kernel, rfl, by decide +kernel, by decide +kernel⟩
def wc_whole_root_1 : DEnv → Mo Bool := dTv (dC (.bl true))
theorem wc_whole_root_1_eq (δ : DEnv) (T : Option Tape) : wc_whole_root_1 δ T = (dTv (dC (.bl true))) δ T := id rfl
def wb_whole_root_1 : SD := sSeq (sSet 2 (dBin oDiv (dBin oAdd (dV 1) (dBin oDiv (dV 0) (dV 1))) (dC (.int 2)))) (sSeq (sIf (dTv (dBin (oGe) (dV 2) (dV 1))) (sRet (dV 1)) (sNext)) (sSet 1 (dV 2)))
theorem wb_whole_root_1_eq (δ : DEnv) (T : Option Tape) : wb_whole_root_1 δ T = (sSeq (sSet 2 (dBin oDiv (dBin oAdd (dV 1) (dBin oDiv (dV 0) (dV 1))) (dC (.int 2)))) (sSeq (sIf (dTv (dBin (oGe) (dV 2) (dV 1))) (sRet (dV 1)) (sNext)) (sSet 1 (dV 2)))) δ T := id rfl
def body_whole_root : SD := sSeq (sIf (dTv (dBin (oLt) (dV 0) (dC (.int 2)))) (sRet (dV 0)) (sNext)) (sSeq (sSet 1 (dBin oShl (dC (.int 1)) (dBin oDiv (dBin oAdd (dUn oBits (dV 0)) (dC (.int 1))) (dC (.int 2))))) (sWhile wc_whole_root_1 wb_whole_root_1))
theorem body_whole_root_eq (δ : DEnv) (T : Option Tape) : body_whole_root δ T = (sSeq (sIf (dTv (dBin (oLt) (dV 0) (dC (.int 2)))) (sRet (dV 0)) (sNext)) (sSeq (sSet 1 (dBin oShl (dC (.int 1)) (dBin oDiv (dBin oAdd (dUn oBits (dV 0)) (dC (.int 1))) (dC (.int 2))))) (sWhile wc_whole_root_1 wb_whole_root_1))) δ T := id rfl
def den_whole_root : List D → Mo D := runD 2 body_whole_root
instance : PuE wc_whole_root_1 := by unfold wc_whole_root_1; infer_instance
instance : PuS wb_whole_root_1 := by unfold wb_whole_root_1; infer_instance
instance : PuS body_whole_root := by unfold body_whole_root; infer_instance
instance : PuD den_whole_root := by unfold den_whole_root; infer_instance
theorem ok_whole_root (T : Top K mg) : OkF P w K mg base "whole_root" ["number"] 1 1 den_whole_root :=
  okF (j := 0) T.d_whole_root sc_whole_root rfl rfl fun f cdv A outer s H E hr hu tk po => by
    have hN := sc_whole_root.nd
    exact (dss_cons (ds_if (dt_cmp op_lt opd_lt (de_v 0) de_int (nomark _)) (dss_one (ds_ret (de_v 0))) dss_nil) (dss_cons (ds_set 1 hN (de_bin op_shl opd_shl de_int (de_bin op_fdivW opd_div (de_bin op_addA opd_add (de_bits (de_v 0)) de_int) de_int))) (dss_one (ds_while po (dt_val de_bl) (dss_cons (ds_set 2 hN (de_bin op_fdivW opd_div (de_bin op_addA opd_add (de_v 1) (de_bin op_fdivW opd_div (de_v 0) (de_v 1))) de_int)) (dss_cons (ds_if (dt_cmp op_ge opd_ge (de_v 2) (de_v 1) (nomark _)) (dss_one (ds_ret (de_v 1))) dss_nil) (dss_one (ds_set 1 hN (de_v 2)))))))))
/-! ### is_prime: slots 0 number -/
theorem sc_is_prime : FnScope ["number"] ["number"] (defScope st_is_prime) := ⟨rfl, rfl, rfl, by decide +kernel, rfl, by decide +kernel, by decide +kernel⟩
def body_is_prime : SD := sSeq (sIf (dOr (dNot (dTv (dCall 1 den_is_integer (aC (dV 0) (aN))))) (dTv (dBin (oGt) (dV 0) (dC (.int 1000000000000))))) (sRaise (PySem.Str.ofString "BadNumber")) (sNext)) (sRet (dAndV (dBin (oGt) (dV 0) (dC (.int 1))) (dBin (oIs) (dCall 2 den_least_factor (aC (dV 0) (aC (dCall 1 den_whole_root (aC (dV 0) (aN))) (aN)))) (dC .non))))
theorem body_is_prime_eq (δ : DEnv) (T : Option Tape) : body_is_prime δ T = (sSeq (sIf (dOr (dNot (dTv (dCall 1 den_is_integer (aC (dV 0) (aN))))) (dTv (dBin (oGt) (dV 0) (dC (.int 1000000000000))))) (sRaise (PySem.Str.ofString "BadNumber")) (sNext)) (sRet (dAndV (dBin (oGt) (dV 0) (dC (.int 1))) (dBin (oIs) (dCall 2 den_least_factor (aC (dV 0) (aC (dCall 1 den_whole_root (aC (dV 0) (aN))) (aN)))) (dC .non))))) δ T := id rfl
def den_is_prime : List D → Mo D := runD 0 body_is_prime
instance : PuS body_is_prime := by unfold body_is_prime; infer_instance
instance : PuD den_is_prime := by unfold den_is_prime; infer_instance
theorem ok_is_prime (T : Top K mg) (G_is_integer : OkF P w K mg base "is_integer" ["value"] 1 1 den_is_integer) (G_whole_root : OkF P w K mg base "whole_root" ["number"] 1 1 den_whole_root) (G_least_factor : OkF P w K mg base "least_factor" ["number", "limit"] 1 2 den_least_factor) : OkF P w K mg base "is_prime" ["number"] 2 1 den_is_prime :=
  okF (j := 1) T.d_is_prime sc_is_prime rfl rfl fun f cdv A outer s H E hr hu tk po => by
    have hN := sc_is_prime.nd
    exact (dss_cons (ds_if (dt_w (dw_or (dt_not (dt_val (de_f tk G_is_integer hr (da_cons (de_v 0) da_nil)))) (dw_or1 (dt_cmp op_gt opd_gt (de_v 0) (de_gint T.c_MOST_TRIED) (nomark _))))) (dss_one (ds_raise' rfl tk T.x_BadNumber)) dss_nil) (dss_one (ds_ret (de_and (de_cmp op_gt opd_gt (de_v 0) de_int (nomark _)) (de_one (de_cmp op_isN opd_is (de_f tk G_least_factor hr (da_cons (de_v 0) (da_cons (de_f tk G_whole_root hr (da_cons (de_v 0) da_nil)) da_nil))) de_non (nomark _)))))))
/-! ### is_good_prime: slots 0 value -/
theorem sc_is_good_prime : FnScope ["value"] ["value"] (defScope st_is_good_prime) := ⟨rfl, rfl, rfl, by decide +kernel, rfl, by decide +kernel, by decide +kernel⟩
def body_is_good_prime : SD := sRet (dAndV (dCall 1 den_is_integer (aC (dV 0) (aN))) (dAndV (dBin (oLe) (dC (.int 5)) (dV 0)) (dAndV (dBin (oLe) (dV 0) (dC (.int 1000000000))) (dCall 1 den_is_prime (aC (dV 0) (aN))))))
theorem body_is_good_prime_eq (δ : DEnv) (T : Option Tape) : body_is_good_prime δ T = (sRet (dAndV (dCall 1 den_is_integer (aC (dV 0) (aN))) (dAndV (dBin (oLe) (dC (.int 5)) (dV 0)) (dAndV (dBin (oLe) (dV 0) (dC (.int 1000000000))) (dCall 1 den_is_prime (aC (dV 0) (aN))))))) δ T := id rfl
def den_is_good_prime : List D → Mo D := runD 0 body_is_good_prime
instance : PuS body_is_good_prime := by unfold body_is_good_prime; infer_instance
instance : PuD den_is_good_prime := by unfold den_is_good_prime; infer_instance
theorem ok_is_good_prime (T : Top K mg) (G_is_integer : OkF P w K mg base "is_integer" ["value"] 1 1 den_is_integer) (G_is_prime : OkF P w K mg base "is_prime" ["number"] 2 1 den_is_prime) : OkF P w K mg base "is_good_prime" ["value"] 3 1 den_is_good_prime :=
  okF (j := 2) T.d_is_good_prime sc_is_good_prime rfl rfl fun f cdv A outer s H E hr hu tk po => by
    have hN := sc_is_good_prime.nd
    exact (dss_one (ds_ret (de_and (de_f tk G_is_integer hr (da_cons (de_v 0) da_nil)) (de_and (de_cmp op_le opd_le (de_gint T.c_LEAST_PRIME) (de_v 0) (nomark _)) (de_and (de_cmp op_le opd_le (de_v 0) (de_gint T.c_MOST_PRIME) (nomark _)) (de_one (de_f tk G_is_prime hr (da_cons (de_v 0) da_nil))))))))
/-! ### check_curve: slots 0 value, 1 item -/
theorem sc_check_curve : FnScope ["value", "item"] ["value"] (defScope st_check_curve) := ⟨rfl, rfl, rfl, by decide +kernel, rfl, by decide +kernel, by decide +kernel⟩
def ce_check_curve_1 : DEnv → Mo D := dCall 1 den_is_integer (aC (dV 1) (aN))
theorem ce_check_curve_1_eq (δ : DEnv) (T : Option Tape) : ce_check_curve_1 δ T = (dCall 1 den_is_integer (aC (dV 1) (aN))) δ T := id rfl
def ce_check_curve_2 : DEnv → Mo D := dAndV (dBin (oLe) (dC (.int 0)) (dV 1)) (dBin (oLt) (dV 1) (dBin oIx (dV 0) (dC (.int 1))))
theorem ce_check_curve_2_eq (δ : DEnv) (T : Option Tape) : ce_check_curve_2 δ T = (dAndV (dBin (oLe) (dC (.int 0)) (dV 1)) (dBin (oLt) (dV 1) (dBin oIx (dV 0) (dC (.int 1))))) δ T := id rfl
def body_check_curve : SD := sSeq (sIf (dOr (dNot (dTv (dIsi "tuple" (dV 0)))) (dOr (dTv (dBin (oNe) (dB oLen (aC (dV 0) (aN))) (dC (.int 4)))) (dOr (dNot (dTv (dIsi "str" (dBin oIx (dV 0) (dC (.int 0)))))) (dTv (dBin (oNe) (dBin oIx (dV 0) (dC (.int 0))) (dC (.str (PySem.Str.ofString "curve")))))))) (sRaiseI (PySem.Str.ofString "BadCurve") (PySem.Str.ofString "reason") (dC (.str (PySem.Str.ofString "form")))) (sNext)) (sSeq (sIf (dOr (dNot (dTv (dB oAll (aC (dL (lLc (iSeq (dSl (dV 0) (dPart (dC (.int 1))) (dNoPart))) (tgN 1) (tYesD) (ce_check_curve_1) [1])) (aN))))) (dNot (dTv (dCall 1 den_is_good_prime (aC (dBin oIx (dV 0) (dC (.int 1))) (aN)))))) (sRaiseI (PySem.Str.ofString "BadCurve") (PySem.Str.ofString "reason") (dC (.str (PySem.Str.ofString "prime")))) (sNext)) (sSeq (sIf (dNot (dTv (dB oAll (aC (dL (lLc (iSeq (dSl (dV 0) (dPart (dC (.int 2))) (dNoPart))) (tgN 1) (tYesD) (ce_check_curve_2) [1])) (aN))))) (sRaiseI (PySem.Str.ofString "BadCurve") (PySem.Str.ofString "reason") (dC (.str (PySem.Str.ofString "numbers")))) (sNext)) (sIf (dTv (dCall 3 den_singular (aC (dBin oIx (dV 0) (dC (.int 1))) (aC (dBin oIx (dV 0) (dC (.int 2))) (aC (dBin oIx (dV 0) (dC (.int 3))) (aN)))))) (sRaiseI (PySem.Str.ofString "BadCurve") (PySem.Str.ofString "reason") (dC (.str (PySem.Str.ofString "singular")))) (sNext))))
theorem body_check_curve_eq (δ : DEnv) (T : Option Tape) : body_check_curve δ T = (sSeq (sIf (dOr (dNot (dTv (dIsi "tuple" (dV 0)))) (dOr (dTv (dBin (oNe) (dB oLen (aC (dV 0) (aN))) (dC (.int 4)))) (dOr (dNot (dTv (dIsi "str" (dBin oIx (dV 0) (dC (.int 0)))))) (dTv (dBin (oNe) (dBin oIx (dV 0) (dC (.int 0))) (dC (.str (PySem.Str.ofString "curve")))))))) (sRaiseI (PySem.Str.ofString "BadCurve") (PySem.Str.ofString "reason") (dC (.str (PySem.Str.ofString "form")))) (sNext)) (sSeq (sIf (dOr (dNot (dTv (dB oAll (aC (dL (lLc (iSeq (dSl (dV 0) (dPart (dC (.int 1))) (dNoPart))) (tgN 1) (tYesD) (ce_check_curve_1) [1])) (aN))))) (dNot (dTv (dCall 1 den_is_good_prime (aC (dBin oIx (dV 0) (dC (.int 1))) (aN)))))) (sRaiseI (PySem.Str.ofString "BadCurve") (PySem.Str.ofString "reason") (dC (.str (PySem.Str.ofString "prime")))) (sNext)) (sSeq (sIf (dNot (dTv (dB oAll (aC (dL (lLc (iSeq (dSl (dV 0) (dPart (dC (.int 2))) (dNoPart))) (tgN 1) (tYesD) (ce_check_curve_2) [1])) (aN))))) (sRaiseI (PySem.Str.ofString "BadCurve") (PySem.Str.ofString "reason") (dC (.str (PySem.Str.ofString "numbers")))) (sNext)) (sIf (dTv (dCall 3 den_singular (aC (dBin oIx (dV 0) (dC (.int 1))) (aC (dBin oIx (dV 0) (dC (.int 2))) (aC (dBin oIx (dV 0) (dC (.int 3))) (aN)))))) (sRaiseI (PySem.Str.ofString "BadCurve") (PySem.Str.ofString "reason") (dC (.str (PySem.Str.ofString "singular")))) (sNext))))) δ T := id rfl
def den_check_curve : List D → Mo D := runD 1 body_check_curve
instance : PuE ce_check_curve_1 := by unfold ce_check_curve_1; infer_instance
instance : PuE ce_check_curve_2 := by unfold ce_check_curve_2; infer_instance
instance : PuS body_check_curve := by unfold body_check_curve; infer_instance
instance : PuD den_check_curve := by unfold den_check_curve; infer_instance
theorem ok_check_curve (T : Top K mg) (G_is_integer : OkF P w K mg base "is_integer" ["value"] 1 1 den_is_integer) (G_is_good_prime : OkF P w K mg base "is_good_prime" ["value"] 3 1 den_is_good_prime) (G_singular : OkF P w K mg base "singular" ["prime", "a", "b"] 1 3 den_singular) : OkF P w K mg base "check_curve" ["value"] 4 1 den_check_curve :=
  okF (j := 3) T.d_check_curve sc_check_curve rfl rfl fun f cdv A outer s H E hr hu tk po => by
    have hN := sc_check_curve.nd
    exact (dss_cons (ds_if (dt_w (dw_or (dt_not (dt_val (de_isi T.b_isinstance (de_v 0) T.b_tuple boot_tuple))) (dw_or (dt_cmp (op_neD hu) opd_ne (de_b call_len_seq cd_len T.b_len boot_len (da_cons (de_v 0) da_nil)) de_int (nomark _)) (dw_or (dt_not (dt_val (de_isi T.b_isinstance (de_ix ix_A opd_ix (de_v 0) de_int (fun _ _ => rfl)) T.b_str boot_str))) (dw_or1 (dt_cmp (op_neD hu) opd_ne (de_ix ix_A opd_ix (de_v 0) de_int (fun _ _ => rfl)) de_str (nomark _))))))) (dss_one (ds_raiseI rfl tk hr T.i_BadCurve oi_BadCurve de_str)) dss_nil) (dss_cons (ds_if (dt_w (dw_or (dt_not (dt_val (de_b (cr_all rfl) cd_all T.b_all boot_all (da_cons (de_L (dl_lc rfl hN (own := [("item", 1)]) (di_tup (de_slice (de_v 0) (do_some de_int) do_none)) (blkOk_by (N := ["value", "item"]) (sc := defScope st_check_curve) (by decide +kernel)) (by decide) (fun _ _ _ _ _ => (dg_name 1 hN)) (fun _ _ _ _ _ => dts_nil) (fun _ _ _ _ _ => (de_f takes0 G_is_integer hr (da_cons (de_v 1) da_nil))))) da_nil)))) (dw_or1 (dt_not (dt_val (de_f tk G_is_good_prime hr (da_cons (de_ix ix_A opd_ix (de_v 0) de_int (fun _ _ => rfl)) da_nil))))))) (dss_one (ds_raiseI rfl tk hr T.i_BadCurve oi_BadCurve de_str)) dss_nil) (dss_cons (ds_if (dt_not (dt_val (de_b (cr_all rfl) cd_all T.b_all boot_all (da_cons (de_L (dl_lc rfl hN (own := [("item", 1)]) (di_tup (de_slice (de_v 0) (do_some de_int) do_none)) (blkOk_by (N := ["value", "item"]) (sc := defScope st_check_curve) (by decide +kernel)) (by decide) (fun _ _ _ _ _ => (dg_name 1 hN)) (fun _ _ _ _ _ => dts_nil) (fun _ _ _ _ _ => (de_and (de_cmp op_le opd_le de_int (de_v 1) (nomark _)) (de_one (de_cmp op_lt opd_lt (de_v 1) (de_ix ix_A opd_ix (de_v 0) de_int (fun _ _ => rfl)) (nomark _))))))) da_nil)))) (dss_one (ds_raiseI rfl tk hr T.i_BadCurve oi_BadCurve de_str)) dss_nil) (dss_one (ds_if (dt_val (de_f tk G_singular hr (da_cons (de_ix ix_A opd_ix (de_v 0) de_int (fun _ _ => rfl)) (da_cons (de_ix ix_A opd_ix (de_v 0) de_int (fun _ _ => rfl)) (da_cons (de_ix ix_A opd_ix (de_v 0) de_int (fun _ _ => rfl)) da_nil))))) (dss_one (ds_raiseI rfl tk hr T.i_BadCurve oi_BadCurve de_str)) dss_nil)))))
/-! ### power: slots 0 base, 1 exponent, 2 modulus, 3 found -/
theorem sc_power : FnScope ["base", "exponent", "modulus", "found"] ["base", "exponent", "modulus"] (defScope st_power) := ⟨rfl, rfl, rfl, by decide +kernel, rfl, by decide +kernel, by decide +kernel⟩
def wc_power_1 : DEnv → Mo Bool := dTv (dBin (oGt) (dV 1) (dC (.int 0)))
theorem wc_power_1_eq (δ : DEnv) (T : Option Tape) : wc_power_1 δ T = (dTv (dBin (oGt) (dV 1) (dC (.int 0)))) δ T := id rfl
def wb_power_1 : SD := sSeq (sIf (dTv (dBin (oEq) (dBin oAnd (dV 1) (dC (.int 1))) (dC (.int 1)))) (sSet 3 (dBin oMod (dBin oMul (dV 3) (dV 0)) (dV 2))) (sNext)) (sSeq (sSet 0 (dBin oMod (dBin oMul (dV 0) (dV 0)) (dV 2))) (sSet 1 (dBin oShr (dV 1) (dC (.int 1)))))
theorem wb_power_1_eq (δ : DEnv) (T : Option Tape) : wb_power_1 δ T = (sSeq (sIf (dTv (dBin (oEq) (dBin oAnd (dV 1) (dC (.int 1))) (dC (.int 1)))) (sSet 3 (dBin oMod (dBin oMul (dV 3) (dV 0)) (dV 2))) (sNext)) (sSeq (sSet 0 (dBin oMod (dBin oMul (dV 0) (dV 0)) (dV 2))) (sSet 1 (dBin oShr (dV 1) (dC (.int 1)))))) δ T := id rfl
def body_power : SD := sSeq (sSet 3 (dBin oMod (dC (.int 1)) (dV 2))) (sSeq (sSet 0 (dBin oMod (dV 0) (dV 2))) (sSeq (sWhile wc_power_1 wb_power_1) (sRet (dV 3))))
theorem body_power_eq (δ : DEnv) (T : Option Tape) : body_power δ T = (sSeq (sSet 3 (dBin oMod (dC (.int 1)) (dV 2))) (sSeq (sSet 0 (dBin oMod (dV 0) (dV 2))) (sSeq (sWhile wc_power_1 wb_power_1) (sRet (dV 3))))) δ T := id rfl
def den_power : List D → Mo D := runD 1 body_power
instance : PuE wc_power_1 := by unfold wc_power_1; infer_instance
instance : PuS wb_power_1 := by unfold wb_power_1; infer_instance
instance : PuS body_power := by unfold body_power; infer_instance
instance : PuD den_power := by unfold den_power; infer_instance
theorem ok_power (T : Top K mg) : OkF P w K mg base "power" ["base", "exponent", "modulus"] 1 3 den_power :=
  okF (j := 0) T.d_power sc_power rfl rfl fun f cdv A outer s H E hr hu tk po => by
    have hN := sc_power.nd
    exact (dss_cons (ds_set 3 hN (de_bin op_mod opd_mod de_int (de_v 2))) (dss_cons (ds_set 0 hN (de_bin op_mod opd_mod (de_v 0) (de_v 2))) (dss_cons (ds_while po (dt_cmp op_gt opd_gt (de_v 1) de_int (nomark _)) (dss_cons (ds_if (dt_cmp (op_eqD hu) opd_eq (de_bin op_and opd_and (de_v 1) de_int) de_int (nomark _)) (dss_one (ds_set 3 hN (de_bin op_mod opd_mod (de_bin op_mul opd_mul (de_v 3) (de_v 0)) (de_v 2)))) dss_nil) (dss_cons (ds_set 0 hN (de_bin op_mod opd_mod (de_bin op_mul opd_mul (de_v 0) (de_v 0)) (de_v 2))) (dss_one (ds_set 1 hN (de_bin op_shr opd_shr (de_v 1) de_int)))))) (dss_one (ds_ret (de_v 3))))))
/-! ### jacobi: slots 0 number, 1 modulus, 2 sign -/
theorem sc_jacobi : FnScope ["number", "modulus", "sign"] ["number", "modulus"] (defScope st_jacobi) := ⟨rfl, rfl, rfl, by decide +kernel, rfl, by decide +kernel, by decide +kernel⟩
def wc_jacobi_2 : DEnv → Mo Bool := dTv (dBin (oEq) (dBin oAnd (dV 0) (dC (.int 1))) (dC (.int 0)))
theorem wc_jacobi_2_eq (δ : DEnv) (T : Option Tape) : wc_jacobi_2 δ T = (dTv (dBin (oEq) (dBin oAnd (dV 0) (dC (.int 1))) (dC (.int 0)))) δ T := id rfl
def wb_jacobi_2 : SD := sSeq (sSet 0 (dBin oShr (dV 0) (dC (.int 1)))) (sIf (dTv (dBin (oInA false) (dBin oMod (dV 1) (dC (.int 8))) (dTup (aC (dC (.int 3)) (aC (dC (.int 5)) (aN)))))) (sSet 2 (dUn oNeg (dV 2))) (sNext))
theorem wb_jacobi_2_eq (δ : DEnv) (T : Option Tape) : wb_jacobi_2 δ T = (sSeq (sSet 0 (dBin oShr (dV 0) (dC (.int 1)))) (sIf (dTv (dBin (oInA false) (dBin oMod (dV 1) (dC (.int 8))) (dTup (aC (dC (.int 3)) (aC (dC (.int 5)) (aN)))))) (sSet 2 (dUn oNeg (dV 2))) (sNext))) δ T := id rfl
def wc_jacobi_1 : DEnv → Mo Bool := dTv (dBin (oNe) (dV 0) (dC (.int 0)))
theorem wc_jacobi_1_eq (δ : DEnv) (T : Option Tape) : wc_jacobi_1 δ T = (dTv (dBin (oNe) (dV 0) (dC (.int 0)))) δ T := id rfl
def wb_jacobi_1 : SD := sSeq (sWhile wc_jacobi_2 wb_jacobi_2) (sSeq (sPar 0 1 (dV 1) (dV 0)) (sSeq (sIf (dAnd (dTv (dBin (oEq) (dBin oMod (dV 0) (dC (.int 4))) (dC (.int 3)))) (dTv (dBin (oEq) (dBin oMod (dV 1) (dC (.int 4))) (dC (.int 3))))) (sSet 2 (dUn oNeg (dV 2))) (sNext)) (sSet 0 (dBin oMod (dV 0) (dV 1)))))
theorem wb_jacobi_1_eq (δ : DEnv) (T : Option Tape) : wb_jacobi_1 δ T = (sSeq (sWhile wc_jacobi_2 wb_jacobi_2) (sSeq (sPar 0 1 (dV 1) (dV 0)) (sSeq (sIf (dAnd (dTv (dBin (oEq) (dBin oMod (dV 0) (dC (.int 4))) (dC (.int 3)))) (dTv (dBin (oEq) (dBin oMod (dV 1) (dC (.int 4))) (dC (.int 3))))) (sSet 2 (dUn oNeg (dV 2))) (sNext)) (sSet 0 (dBin oMod (dV 0) (dV 1)))))) δ T := id rfl
def body_jacobi : SD := sSeq (sSet 0 (dBin oMod (dV 0) (dV 1))) (sSeq (sSet 2 (dC (.int 1))) (sSeq (sWhile wc_jacobi_1 wb_jacobi_1) (sRet (dIf (dTv (dBin (oEq) (dV 1) (dC (.int 1)))) (dV 2) (dC (.int 0))))))
theorem body_jacobi_eq (δ : DEnv) (T : Option Tape) : body_jacobi δ T = (sSeq (sSet 0 (dBin oMod (dV 0) (dV 1))) (sSeq (sSet 2 (dC (.int 1))) (sSeq (sWhile wc_jacobi_1 wb_jacobi_1) (sRet (dIf (dTv (dBin (oEq) (dV 1) (dC (.int 1)))) (dV 2) (dC (.int 0))))))) δ T := id rfl
def den_jacobi : List D → Mo D := runD 1 body_jacobi
instance : PuE wc_jacobi_2 := by unfold wc_jacobi_2; infer_instance
instance : PuS wb_jacobi_2 := by unfold wb_jacobi_2; infer_instance
instance : PuE wc_jacobi_1 := by unfold wc_jacobi_1; infer_instance
instance : PuS wb_jacobi_1 := by unfold wb_jacobi_1; infer_instance
instance : PuS body_jacobi := by unfold body_jacobi; infer_instance
instance : PuD den_jacobi := by unfold den_jacobi; infer_instance
theorem ok_jacobi (T : Top K mg) : OkF P w K mg base "jacobi" ["number", "modulus"] 1 2 den_jacobi :=
  okF (j := 0) T.d_jacobi sc_jacobi rfl rfl fun f cdv A outer s H E hr hu tk po => by
    have hN := sc_jacobi.nd
    exact (dss_cons (ds_set 0 hN (de_bin op_mod opd_mod (de_v 0) (de_v 1))) (dss_cons (ds_set 2 hN de_int) (dss_cons (ds_while po (dt_cmp (op_neD hu) opd_ne (de_v 0) de_int (nomark _)) (dss_cons (ds_while po (dt_cmp (op_eqD hu) opd_eq (de_bin op_and opd_and (de_v 0) de_int) de_int (nomark _)) (dss_cons (ds_set 0 hN (de_bin op_shr opd_shr (de_v 0) de_int)) (dss_one (ds_if (dt_cmp (op_inA hr) opd_inA (de_bin op_mod opd_mod (de_v 1) de_int) (de_tup (da_cons de_int (da_cons de_int da_nil))) rfl) (dss_one (ds_set 2 hN (de_un un_neg und_neg (de_v 2)))) dss_nil)))) (dss_cons (ds_par 0 1 rfl hN (de_v 1) (de_v 0)) (dss_cons (ds_if (dt_w (dw_and (dt_cmp (op_eqD hu) opd_eq (de_bin op_mod opd_mod (de_v 0) de_int) de_int (nomark _)) (dw_and1 (dt_cmp (op_eqD hu) opd_eq (de_bin op_mod opd_mod (de_v 1) de_int) de_int (nomark _))))) (dss_one (ds_set 2 hN (de_un un_neg und_neg (de_v 2)))) dss_nil) (dss_one (ds_set 0 hN (de_bin op_mod opd_mod (de_v 0) (de_v 1)))))))) (dss_one (ds_ret (de_if (dt_cmp (op_eqD hu) opd_eq (de_v 1) de_int (nomark _)) (de_v 2) de_int))))))
/-! ### nonsquare: slots 0 prime, 1 found -/
theorem sc_nonsquare : FnScope ["prime", "found"] ["prime"] (defScope st_nonsquare) := ⟨rfl, rfl, rfl, by decide +kernel, rfl, by decide +kernel, by decide +kernel⟩
def wc_nonsquare_1 : DEnv → Mo Bool := dTv (dBin (oNe) (dCall 2 den_jacobi (aC (dV 1) (aC (dV 0) (aN)))) (dUn oNeg (dC (.int 1))))
theorem wc_nonsquare_1_eq (δ : DEnv) (T : Option Tape) : wc_nonsquare_1 δ T = (dTv (dBin (oNe) (dCall 2 den_jacobi (aC (dV 1) (aC (dV 0) (aN)))) (dUn oNeg (dC (.int 1))))) δ T := id rfl
def wb_nonsquare_1 : SD := sAug 1 oAddI (dC (.int 1))
theorem wb_nonsquare_1_eq (δ : DEnv) (T : Option Tape) : wb_nonsquare_1 δ T = (sAug 1 oAddI (dC (.int 1))) δ T := id rfl
def body_nonsquare : SD := sSeq (sSet 1 (dC (.int 2))) (sSeq (sWhile wc_nonsquare_1 wb_nonsquare_1) (sRet (dV 1)))
theorem body_nonsquare_eq (δ : DEnv) (T : Option Tape) : body_nonsquare δ T = (sSeq (sSet 1 (dC (.int 2))) (sSeq (sWhile wc_nonsquare_1 wb_nonsquare_1) (sRet (dV 1)))) δ T := id rfl
def den_nonsquare : List D → Mo D := runD 1 body_nonsquare
instance : PuE wc_nonsquare_1 := by unfold wc_nonsquare_1; infer_instance
instance : PuS wb_nonsquare_1 := by unfold wb_nonsquare_1; infer_instance
instance : PuS body_nonsquare := by unfold body_nonsquare; infer_instance
instance : PuD den_nonsquare := by unfold den_nonsquare; infer_instance
theorem ok_nonsquare (T : Top K mg) (G_jacobi : OkF P w K mg base "jacobi" ["number", "modulus"] 1 2 den_jacobi) : OkF P w K mg base "nonsquare" ["prime"] 2 1 den_nonsquare :=
  okF (j := 1) T.d_nonsquare sc_nonsquare rfl rfl fun f cdv A outer s H E hr hu tk po => by
    have hN := sc_nonsquare.nd
    exact (dss_cons (ds_set 1 hN de_int) (dss_cons (ds_while po (dt_cmp (op_neD hu) opd_ne (de_f tk G_jacobi hr (da_cons (de_v 1) (da_cons (de_v 0) da_nil))) (de_un un_neg und_neg de_int) (nomark _)) (dss_one (ds_aug 1 hN iop_add opd_addI de_int))) (dss_one (ds_ret (de_v 1)))))
/-! ### root: slots 0 number, 1 prime, 2 turn, 3 odd, 4 twos, 5 found, 6 rest, 7 step, 8 _, 9 square, 10 count -/
theorem sc_root : FnScope ["number", "prime", "turn", "odd", "twos", "found", "rest", "step", "_", "square", "count"] ["number", "prime"] (defScope st_root) := ⟨rfl, rfl, rfl, by decide +kernel, rfl, by decide +kernel, by decide +kernel⟩
def wc_root_1 : DEnv → Mo Bool := dTv (dBin (oEq) (dBin oAnd (dV 3) (dC (.int 1))) (dC (.int 0)))
theorem wc_root_1_eq (δ : DEnv) (T : Option Tape) : wc_root_1 δ T = (dTv (dBin (oEq) (dBin oAnd (dV 3) (dC (.int 1))) (dC (.int 0)))) δ T := id rfl
def wb_root_1 : SD := sPar 3 4 (dBin oShr (dV 3) (dC (.int 1))) (dBin oAdd (dV 4) (dC (.int 1)))
theorem wb_root_1_eq (δ : DEnv) (T : Option Tape) : wb_root_1 δ T = (sPar 3 4 (dBin oShr (dV 3) (dC (.int 1))) (dBin oAdd (dV 4) (dC (.int 1)))) δ T := id rfl
def wc_root_3 : DEnv → Mo Bool := dTv (dBin (oNe) (dV 9) (dC (.int 1)))
theorem wc_root_3_eq (δ : DEnv) (T : Option Tape) : wc_root_3 δ T = (dTv (dBin (oNe) (dV 9) (dC (.int 1)))) δ T := id rfl
def wb_root_3 : SD := sPar 9 10 (dBin oMod (dBin oMul (dV 9) (dV 9)) (dV 1)) (dBin oAdd (dV 10) (dC (.int 1)))
theorem wb_root_3_eq (δ : DEnv) (T : Option Tape) : wb_root_3 δ T = (sPar 9 10 (dBin oMod (dBin oMul (dV 9) (dV 9)) (dV 1)) (dBin oAdd (dV 10) (dC (.int 1)))) δ T := id rfl
def fb_root_4 : SD := sSet 7 (dBin oMod (dBin oMul (dV 7) (dV 7)) (dV 1))
theorem fb_root_4_eq (δ : DEnv) (T : Option Tape) : fb_root_4 δ T = (sSet 7 (dBin oMod (dBin oMul (dV 7) (dV 7)) (dV 1))) δ T := id rfl
def wc_root_2 : DEnv → Mo Bool := dTv (dBin (oNe) (dV 6) (dC (.int 1)))
theorem wc_root_2_eq (δ : DEnv) (T : Option Tape) : wc_root_2 δ T = (dTv (dBin (oNe) (dV 6) (dC (.int 1)))) δ T := id rfl
def wb_root_2 : SD := sSeq (sPar 9 10 (dV 6) (dC (.int 0))) (sSeq (sWhile wc_root_3 wb_root_3) (sSeq (sSet 7 (dV 2)) (sSeq (sFor (iR1 (aC (dBin oSub (dBin oSub (dV 4) (dV 10)) (dC (.int 1))) (aN))) (tgN 8) (fb_root_4)) (sSeq (sPar3 5 2 4 (dBin oMod (dBin oMul (dV 5) (dV 7)) (dV 1)) (dBin oMod (dBin oMul (dV 7) (dV 7)) (dV 1)) (dV 10)) (sSet 6 (dBin oMod (dBin oMul (dV 6) (dV 2)) (dV 1)))))))
theorem wb_root_2_eq (δ : DEnv) (T : Option Tape) : wb_root_2 δ T = (sSeq (sPar 9 10 (dV 6) (dC (.int 0))) (sSeq (sWhile wc_root_3 wb_root_3) (sSeq (sSet 7 (dV 2)) (sSeq (sFor (iR1 (aC (dBin oSub (dBin oSub (dV 4) (dV 10)) (dC (.int 1))) (aN))) (tgN 8) (fb_root_4)) (sSeq (sPar3 5 2 4 (dBin oMod (dBin oMul (dV 5) (dV 7)) (dV 1)) (dBin oMod (dBin oMul (dV 7) (dV 7)) (dV 1)) (dV 10)) (sSet 6 (dBin oMod (dBin oMul (dV 6) (dV 2)) (dV 1)))))))) δ T := id rfl
def body_root : SD := sSeq (sSet 0 (dBin oMod (dV 0) (dV 1))) (sSeq (sIf (dTv (dBin (oEq) (dV 0) (dC (.int 0)))) (sRet (dC (.int 0))) (sNext)) (sSeq (sIf (dTv (dBin (oNe) (dCall 2 den_jacobi (aC (dV 0) (aC (dV 1) (aN)))) (dC (.int 1)))) (sRet (dC .non)) (sNext)) (sSeq (sPar 3 4 (dBin oSub (dV 1) (dC (.int 1))) (dC (.int 0))) (sSeq (sWhile wc_root_1 wb_root_1) (sSeq (sSet 2 (dCall 3 den_power (aC (dCall 1 den_nonsquare (aC (dV 1) (aN))) (aC (dV 3) (aC (dV 1) (aN)))))) (sSeq (sPar 5 6 (dCall 3 den_power (aC (dV 0) (aC (dBin oDiv (dBin oAdd (dV 3) (dC (.int 1))) (dC (.int 2))) (aC (dV 1) (aN))))) (dCall 3 den_power (aC (dV 0) (aC (dV 3) (aC (dV 1) (aN)))))) (sSeq (sWhile wc_root_2 wb_root_2) (sRet (dB oMin (aC (dV 5) (aC (dBin oSub (dV 1) (dV 5)) (aN))))))))))))
theorem body_root_eq (δ : DEnv) (T : Option Tape) : body_root δ T = (sSeq (sSet 0 (dBin oMod (dV 0) (dV 1))) (sSeq (sIf (dTv (dBin (oEq) (dV 0) (dC (.int 0)))) (sRet (dC (.int 0))) (sNext)) (sSeq (sIf (dTv (dBin (oNe) (dCall 2 den_jacobi (aC (dV 0) (aC (dV 1) (aN)))) (dC (.int 1)))) (sRet (dC .non)) (sNext)) (sSeq (sPar 3 4 (dBin oSub (dV 1) (dC (.int 1))) (dC (.int 0))) (sSeq (sWhile wc_root_1 wb_root_1) (sSeq (sSet 2 (dCall 3 den_power (aC (dCall 1 den_nonsquare (aC (dV 1) (aN))) (aC (dV 3) (aC (dV 1) (aN)))))) (sSeq (sPar 5 6 (dCall 3 den_power (aC (dV 0) (aC (dBin oDiv (dBin oAdd (dV 3) (dC (.int 1))) (dC (.int 2))) (aC (dV 1) (aN))))) (dCall 3 den_power (aC (dV 0) (aC (dV 3) (aC (dV 1) (aN)))))) (sSeq (sWhile wc_root_2 wb_root_2) (sRet (dB oMin (aC (dV 5) (aC (dBin oSub (dV 1) (dV 5)) (aN))))))))))))) δ T := id rfl
def den_root : List D → Mo D := runD 9 body_root
instance : PuE wc_root_1 := by unfold wc_root_1; infer_instance
instance : PuS wb_root_1 := by unfold wb_root_1; infer_instance
instance : PuE wc_root_3 := by unfold wc_root_3; infer_instance
instance : PuS wb_root_3 := by unfold wb_root_3; infer_instance
instance : PuS fb_root_4 := by unfold fb_root_4; infer_instance
instance : PuE wc_root_2 := by unfold wc_root_2; infer_instance
instance : PuS wb_root_2 := by unfold wb_root_2; infer_instance
instance : PuS body_root := by unfold body_root; infer_instance
instance : PuD den_root := by unfold den_root; infer_instance
theorem ok_root (T : Top K mg) (G_jacobi : OkF P w K mg base "jacobi" ["number", "modulus"] 1 2 den_jacobi) (G_nonsquare : OkF P w K mg base "nonsquare" ["prime"] 2 1 den_nonsquare) (G_power : OkF P w K mg base "power" ["base", "exponent", "modulus"] 1 3 den_power) : OkF P w K mg base "root" ["number", "prime"] 3 2 den_root :=
  okF (j := 2) T.d_root sc_root rfl rfl fun f cdv A outer s H E hr hu tk po => by
    have hN := sc_root.nd
    exact (dss_cons (ds_set 0 hN (de_bin op_mod opd_mod (de_v 0) (de_v 1))) (dss_cons (ds_if (dt_cmp (op_eqD hu) opd_eq (de_v 0) de_int (nomark _)) (dss_one (ds_ret de_int)) dss_nil) (dss_cons (ds_if (dt_cmp (op_neD hu) opd_ne (de_f tk G_jacobi hr (da_cons (de_v 0) (da_cons (de_v 1) da_nil))) de_int (nomark _)) (dss_one (ds_ret de_non)) dss_nil) (dss_cons (ds_par 3 4 rfl hN (de_bin op_sub opd_sub (de_v 1) de_int) de_int) (dss_cons (ds_while po (dt_cmp (op_eqD hu) opd_eq (de_bin op_and opd_and (de_v 3) de_int) de_int (nomark _)) (dss_one (ds_par 3 4 rfl hN (de_bin op_shr opd_shr (de_v 3) de_int) (de_bin op_addA opd_add (de_v 4) de_int)))) (dss_cons (ds_set 2 hN (de_f tk G_power hr (da_cons (de_f tk G_nonsquare hr (da_cons (de_v 1) da_nil)) (da_cons (de_v 3) (da_cons (de_v 1) da_nil))))) (dss_cons (ds_par 5 6 rfl hN (de_f tk G_power hr (da_cons (de_v 0) (da_cons (de_bin op_fdivW opd_div (de_bin op_addA opd_add (de_v 3) de_int) de_int) (da_cons (de_v 1) da_nil)))) (de_f tk G_power hr (da_cons (de_v 0) (da_cons (de_v 3) (da_cons (de_v 1) da_nil))))) (dss_cons (ds_while po (dt_cmp (op_neD hu) opd_ne (de_v 6) de_int (nomark _)) (dss_cons (ds_par 9 10 rfl hN (de_v 6) de_int) (dss_cons (ds_while po (dt_cmp (op_neD hu) opd_ne (de_v 9) de_int (nomark _)) (dss_one (ds_par 9 10 rfl hN (de_bin op_mod opd_mod (de_bin op_mul opd_mul (de_v 9) (de_v 9)) (de_v 1)) (de_bin op_addA opd_add (de_v 10) de_int)))) (dss_cons (ds_set 7 hN (de_v 2)) (dss_cons (ds_for po rfl (di_r1 rfl T.b_range (da_cons (de_bin op_sub opd_sub (de_bin op_sub opd_sub (de_v 4) (de_v 10)) de_int) da_nil)) (dg_name 8 hN) (dss_one (ds_set 7 hN (de_bin op_mod opd_mod (de_bin op_mul opd_mul (de_v 7) (de_v 7)) (de_v 1))))) (dss_cons (ds_par3 5 2 4 rfl hN (de_bin op_mod opd_mod (de_bin op_mul opd_mul (de_v 5) (de_v 7)) (de_v 1)) (de_bin op_mod opd_mod (de_bin op_mul opd_mul (de_v 7) (de_v 7)) (de_v 1)) (de_v 10)) (dss_one (ds_set 6 hN (de_bin op_mod opd_mod (de_bin op_mul opd_mul (de_v 6) (de_v 2)) (de_v 1)))))))))) (dss_one (ds_ret (de_b (call_min2 rfl) cd_min T.b_min boot_min (da_cons (de_v 5) (da_cons (de_bin op_sub opd_sub (de_v 1) (de_v 5)) da_nil)))))))))))))
/-! ### lifted: slots 0 curve, 1 x, 2 y -/
theorem sc_lifted : FnScope ["curve", "x", "y"] ["curve", "x"] (defScope st_lifted) := ⟨rfl, rfl, rfl, by decide +kernel, rfl, by decide +kernel, by decide +kernel⟩
def body_lifted : SD := sSeq (sSet 2 (dCall 2 den_root (aC (dCall 2 den_right_side (aC (dV 0) (aC (dV 1) (aN)))) (aC (dBin oIx (dV 0) (dC (.int 1))) (aN))))) (sSeq (sIf (dTv (dBin (oIs) (dV 2) (dC .non))) (sRet (dTup (aN))) (sNext)) (sRet (dIf (dTv (dBin (oEq) (dV 2) (dC (.int 0)))) (dTup (aC (dTup (aC (dV 1) (aC (dC (.int 0)) (aN)))) (aN))) (dTup (aC (dTup (aC (dV 1) (aC (dV 2) (aN)))) (aC (dTup (aC (dV 1) (aC (dBin oSub (dBin oIx (dV 0) (dC (.int 1))) (dV 2)) (aN)))) (aN)))))))
theorem body_lifted_eq (δ : DEnv) (T : Option Tape) : body_lifted δ T = (sSeq (sSet 2 (dCall 2 den_root (aC (dCall 2 den_right_side (aC (dV 0) (aC (dV 1) (aN)))) (aC (dBin oIx (dV 0) (dC (.int 1))) (aN))))) (sSeq (sIf (dTv (dBin (oIs) (dV 2) (dC .non))) (sRet (dTup (aN))) (sNext)) (sRet (dIf (dTv (dBin (oEq) (dV 2) (dC (.int 0)))) (dTup (aC (dTup (aC (dV 1) (aC (dC (.int 0)) (aN)))) (aN))) (dTup (aC (dTup (aC (dV 1) (aC (dV 2) (aN)))) (aC (dTup (aC (dV 1) (aC (dBin oSub (dBin oIx (dV 0) (dC (.int 1))) (dV 2)) (aN)))) (aN)))))))) δ T := id rfl
def den_lifted : List D → Mo D := runD 1 body_lifted
instance : PuS body_lifted := by unfold body_lifted; infer_instance
instance : PuD den_lifted := by unfold den_lifted; infer_instance
theorem ok_lifted (T : Top K mg) (G_right_side : OkF P w K mg base "right_side" ["curve", "x"] 1 2 den_right_side) (G_root : OkF P w K mg base "root" ["number", "prime"] 3 2 den_root) : OkF P w K mg base "lifted" ["curve", "x"] 4 2 den_lifted :=
  okF (j := 3) T.d_lifted sc_lifted rfl rfl fun f cdv A outer s H E hr hu tk po => by
    have hN := sc_lifted.nd
    exact (dss_cons (ds_set 2 hN (de_f tk G_root hr (da_cons (de_f tk G_right_side hr (da_cons (de_v 0) (da_cons (de_v 1) da_nil))) (da_cons (de_ix ix_A opd_ix (de_v 0) de_int (fun _ _ => rfl)) da_nil)))) (dss_cons (ds_if (dt_cmp op_isN opd_is (de_v 2) de_non (nomark _)) (dss_one (ds_ret (de_tup da_nil))) dss_nil) (dss_one (ds_ret (de_if (dt_cmp (op_eqD hu) opd_eq (de_v 2) de_int (nomark _)) (de_tup (da_cons (de_tup (da_cons (de_v 1) (da_cons de_int da_nil))) da_nil)) (de_tup (da_cons (de_tup (da_cons (de_v 1) (da_cons (de_v 2) da_nil))) (da_cons (de_tup (da_cons (de_v 1) (da_cons (de_bin op_sub opd_sub (de_ix ix_A opd_ix (de_v 0) de_int (fun _ _ => rfl)) (de_v 2)) da_nil))) da_nil))))))))
/-! ### lengthened: slots 0 curve, 1 number, 2 point, 3 x, 4 odd -/
theorem sc_lengthened : FnScope ["curve", "number", "point", "x", "odd"] ["curve", "number"] (defScope st_lengthened) := ⟨rfl, rfl, rfl, by decide +kernel, rfl, by decide +kernel, by decide +kernel⟩
def fb_lengthened_1 : SD := sIf (dTv (dBin (oEq) (dBin oAnd (dBin oIx (dV 2) (dC (.int 1))) (dC (.int 1))) (dV 4))) (sRet (dV 2)) (sNext)
theorem fb_lengthened_1_eq (δ : DEnv) (T : Option Tape) : fb_lengthened_1 δ T = (sIf (dTv (dBin (oEq) (dBin oAnd (dBin oIx (dV 2) (dC (.int 1))) (dC (.int 1))) (dV 4))) (sRet (dV 2)) (sNext)) δ T := id rfl
def body_lengthened : SD := sSeq (sDrop (dCall 1 den_check_curve (aC (dV 0) (aN)))) (sSeq (sIf (dOr (dNot (dTv (dCall 1 den_is_integer (aC (dV 1) (aN))))) (dTv (dBin (oLt) (dV 1) (dC (.int 0))))) (sRaise (PySem.Str.ofString "BadPoint")) (sNext)) (sSeq (sIf (dTv (dBin (oEq) (dV 1) (dC (.int 0)))) (sRet (dC .non)) (sNext)) (sSeq (sPar 3 4 (dBin oDiv (dBin oSub (dV 1) (dC (.int 1))) (dC (.int 2))) (dBin oAnd (dBin oSub (dV 1) (dC (.int 1))) (dC (.int 1)))) (sSeq (sIf (dTv (dBin (oGe) (dV 3) (dBin oIx (dV 0) (dC (.int 1))))) (sRaise (PySem.Str.ofString "BadPoint")) (sNext)) (sSeq (sFor (iSeq (dCall 2 den_lifted (aC (dV 0) (aC (dV 3) (aN))))) (tgN 2) (fb_lengthened_1)) (sRaise (PySem.Str.ofString "BadPoint")))))))
theorem body_lengthened_eq (δ : DEnv) (T : Option Tape) : body_lengthened δ T = (sSeq (sDrop (dCall 1 den_check_curve (aC (dV 0) (aN)))) (sSeq (sIf (dOr (dNot (dTv (dCall 1 den_is_integer (aC (dV 1) (aN))))) (dTv (dBin (oLt) (dV 1) (dC (.int 0))))) (sRaise (PySem.Str.ofString "BadPoint")) (sNext)) (sSeq (sIf (dTv (dBin (oEq) (dV 1) (dC (.int 0)))) (sRet (dC .non)) (sNext)) (sSeq (sPar 3 4 (dBin oDiv (dBin oSub (dV 1) (dC (.int 1))) (dC (.int 2))) (dBin oAnd (dBin oSub (dV 1) (dC (.int 1))) (dC (.int 1)))) (sSeq (sIf (dTv (dBin (oGe) (dV 3) (dBin oIx (dV 0) (dC (.int 1))))) (sRaise (PySem.Str.ofString "BadPoint")) (sNext)) (sSeq (sFor (iSeq (dCall 2 den_lifted (aC (dV 0) (aC (dV 3) (aN))))) (tgN 2) (fb_lengthened_1)) (sRaise (PySem.Str.ofString "BadPoint")))))))) δ T := id rfl
def den_lengthened : List D → Mo D := runD 3 body_lengthened
instance : PuS fb_lengthened_1 := by unfold fb_lengthened_1; infer_instance
instance : PuS body_lengthened := by unfold body_lengthened; infer_instance
instance : PuD den_lengthened := by unfold den_lengthened; infer_instance
theorem ok_lengthened (T : Top K mg) (G_check_curve : OkF P w K mg base "check_curve" ["value"] 4 1 den_check_curve) (G_is_integer : OkF P w K mg base "is_integer" ["value"] 1 1 den_is_integer) (G_lifted : OkF P w K mg base "lifted" ["curve", "x"] 4 2 den_lifted) : OkF P w K mg base "lengthened" ["curve", "number"] 5 2 den_lengthened :=
  okF (j := 4) T.d_lengthened sc_lengthened rfl rfl fun f cdv A outer s H E hr hu tk po => by
    have hN := sc_lengthened.nd
    exact (dss_cons (ds_expr (de_f tk G_check_curve hr (da_cons (de_v 0) da_nil))) (dss_cons (ds_if (dt_w (dw_or (dt_not (dt_val (de_f tk G_is_integer hr (da_cons (de_v 1) da_nil)))) (dw_or1 (dt_cmp op_lt opd_lt (de_v 1) de_int (nomark _))))) (dss_one (ds_raise' rfl tk T.x_BadPoint)) dss_nil) (dss_cons (ds_if (dt_cmp (op_eqD hu) opd_eq (de_v 1) de_int (nomark _)) (dss_one (ds_ret de_non)) dss_nil) (dss_cons (ds_par 3 4 rfl hN (de_bin op_fdivW opd_div (de_bin op_sub opd_sub (de_v 1) de_int) de_int) (de_bin op_and opd_and (de_bin op_sub opd_sub (de_v 1) de_int) de_int)) (dss_cons (ds_if (dt_cmp op_ge opd_ge (de_v 3) (de_ix ix_A opd_ix (de_v 0) de_int (fun _ _ => rfl)) (nomark _)) (dss_one (ds_raise' rfl tk T.x_BadPoint)) dss_nil) (dss_cons (ds_for po rfl (di_tup (de_f tk G_lifted hr (da_cons (de_v 0) (da_cons (de_v 3) da_nil)))) (dg_name 2 hN) (dss_one (ds_if (dt_cmp (op_eqD hu) opd_eq (de_bin op_and opd_and (de_ix ix_A opd_ix (de_v 2) de_int (fun _ _ => rfl)) de_int) (de_v 4) (nomark _)) (dss_one (ds_ret (de_v 2))) dss_nil))) (dss_one (ds_raise' rfl tk T.x_BadPoint))))))))
/-! ### _law_told: slots 0 curve, 1 number -/
theorem sc_law_told : FnScope ["curve", "number"] ["curve", "number"] (defScope st_law_told) := ⟨rfl, rfl, rfl, by decide +kernel, rfl, by decide +kernel, by decide +kernel⟩
def body_law_told : SD := sTry (sRet (dCall 2 den_lengthened (aC (dV 0) (aC (dV 1) (aN))))) [(PySem.Str.ofString "BadPoint", subOf rows_BadPoint, sRet (dC (.str (PySem.Str.ofString "none"))))]
theorem body_law_told_eq (δ : DEnv) (T : Option Tape) : body_law_told δ T = (sTry (sRet (dCall 2 den_lengthened (aC (dV 0) (aC (dV 1) (aN))))) [(PySem.Str.ofString "BadPoint", subOf rows_BadPoint, sRet (dC (.str (PySem.Str.ofString "none"))))]) δ T := id rfl
def den_law_told : List D → Mo D := runD 0 body_law_told
theorem ok_law_told (T : Top K mg) (G_lengthened : OkF P w K mg base "lengthened" ["curve", "number"] 5 2 den_lengthened) : OkF P w K mg base "_law_told" ["curve", "number"] 6 2 den_law_told :=
  okF (j := 5) T.d_law_told sc_law_told rfl rfl fun f cdv A outer s H E hr hu tk po => by
    have hN := sc_law_told.nd
    exact (dss_one (ds_try1 rfl rfl tk T.s_BadPoint (fun W' pn xe tk' po' => (dss_one (ds_ret (de_f tk' G_lengthened hr (da_cons (de_v 0) (da_cons (de_v 1) da_nil)))))) (fun a oe cls d pn _ _ => (dss_one (ds_ret de_str)))))
/-! ### law: slots 0 script, 1 turn, 2 rich, 3 p, 4 curve, 5 points, 6 rows, 7 k, 8 number, 9 value, 10 point -/
theorem sc_law : FnScope ["script", "turn", "rich", "p", "curve", "points", "rows", "k", "number", "value", "point"] ["script"] (defScope st_law) := ⟨rfl, rfl, rfl, by decide +kernel, rfl, by decide +kernel, by decide +kernel⟩
def ce_law_2 : DEnv → Mo D := dIf (dTv (dBin (oIs) (dV 10) (dC .non))) (dC (.int 0)) (dBin oAdd (dBin oAdd (dBin oMul (dC (.int 2)) (dBin oIx (dV 10) (dC (.int 0)))) (dC (.int 1))) (dBin oMod (dBin oIx (dV 10) (dC (.int 1))) (dC (.int 2))))
theorem ce_law_2_eq (δ : DEnv) (T : Option Tape) : ce_law_2 δ T = (dIf (dTv (dBin (oIs) (dV 10) (dC .non))) (dC (.int 0)) (dBin oAdd (dBin oAdd (dBin oMul (dC (.int 2)) (dBin oIx (dV 10) (dC (.int 0)))) (dC (.int 1))) (dBin oMod (dBin oIx (dV 10) (dC (.int 1))) (dC (.int 2))))) δ T := id rfl
def fb_law_3 : SD := sIf (dOr (dTv (dBin (oNe) (dCall 2 den_shortened (aC (dV 4) (aC (dBin oIx (dV 5) (dV 7)) (aN)))) (dBin oIx (dV 6) (dV 7)))) (dTv (dBin (oNe) (dCall 2 den_lengthened (aC (dV 4) (aC (dBin oIx (dV 6) (dV 7)) (aN)))) (dBin oIx (dV 5) (dV 7))))) (sRet (dC (.bl false))) (sNext)
theorem fb_law_3_eq (δ : DEnv) (T : Option Tape) : fb_law_3 δ T = (sIf (dOr (dTv (dBin (oNe) (dCall 2 den_shortened (aC (dV 4) (aC (dBin oIx (dV 5) (dV 7)) (aN)))) (dBin oIx (dV 6) (dV 7)))) (dTv (dBin (oNe) (dCall 2 den_lengthened (aC (dV 4) (aC (dBin oIx (dV 6) (dV 7)) (aN)))) (dBin oIx (dV 5) (dV 7))))) (sRet (dC (.bl false))) (sNext)) δ T := id rfl
def fb_law_4 : SD := sIf (dAnd (dTv (dBin (oInA true) (dV 8) (dV 6))) (dTv (dBin (oNe) (dCall 2 den_law_told (aC (dV 4) (aC (dV 8) (aN)))) (dC (.str (PySem.Str.ofString "none")))))) (sRet (dC (.bl false))) (sNext)
theorem fb_law_4_eq (δ : DEnv) (T : Option Tape) : fb_law_4 δ T = (sIf (dAnd (dTv (dBin (oInA true) (dV 8) (dV 6))) (dTv (dBin (oNe) (dCall 2 den_law_told (aC (dV 4) (aC (dV 8) (aN)))) (dC (.str (PySem.Str.ofString "none")))))) (sRet (dC (.bl false))) (sNext)) δ T := id rfl
def fb_law_5 : SD := sIf (dTv (dBin (oNe) (dCall 2 den_law_told (aC (dV 4) (aC (dV 9) (aN)))) (dC (.str (PySem.Str.ofString "none"))))) (sRet (dC (.bl false))) (sNext)
theorem fb_law_5_eq (δ : DEnv) (T : Option Tape) : fb_law_5 δ T = (sIf (dTv (dBin (oNe) (dCall 2 den_law_told (aC (dV 4) (aC (dV 9) (aN)))) (dC (.str (PySem.Str.ofString "none"))))) (sRet (dC (.bl false))) (sNext)) δ T := id rfl
def fb_law_1 : SD := sSeq (sSet 2 (dCall 2 den_law_rich (aC (dCall 2 den_law_cell (aC (dV 0) (aC (dV 1) (aN)))) (aC (dV 1) (aN))))) (sSeq (sSet 3 (dCall 1 den_law_prime (aC (dV 2) (aN)))) (sSeq (sSet 4 (dCall 2 den_law_curve (aC (dBin oDiv (dV 2) (dC (.int 16))) (aC (dV 3) (aN))))) (sSeq (sSet 5 (dCall 1 den_law_points (aC (dV 4) (aN)))) (sSeq (sFrzA 6 (sSetL 6 (lLc (iLst (dV 5)) (tgN 10) (tYesD) (ce_law_2) [10]))) (sSeq (sIf (dTv (dBin (oNe) (dUn oSetLen (dV 6)) (dB oLen (aC (dV 6) (aN))))) (sRet (dC (.bl false))) (sNext)) (sSeq (sFor (iR1 (aC (dB oLen (aC (dV 5) (aN))) (aN))) (tgN 7) (fb_law_3)) (sSeq (sFor (iR1 (aC (dBin oAdd (dBin oMul (dC (.int 2)) (dV 3)) (dC (.int 5))) (aN))) (tgN 8) (fb_law_4)) (sSeq (sFor (iLst (dL (lLst (aC (dUn oNeg (dC (.int 1))) (aC (dC .non) (aC (dC (.bl true)) (aC (dC (.str (PySem.Str.ofString "1"))) (aC (dTup (aC (dC (.int 1)) (aC (dC (.int 2)) (aN)))) (aN))))))))) (tgN 9) (fb_law_5)) (sIf (dNot (dTv (dCall 2 den_law_refused (aC (dV 4) (aC (dBin oIx (dL (lLst (aC (dTup (aC (dV 3) (aC (dC (.int 0)) (aN)))) (aC (dTup (aC (dC (.int 0)) (aC (dUn oNeg (dC (.int 1))) (aN)))) (aC (dC (.str (PySem.Str.ofString "None"))) (aC (dC (.int 0)) (aC (dTup (aC (dC (.int 1)) (aN))) (aC (dL (lLst (aC (dC (.int 0)) (aC (dC (.int 1)) (aN))))) (aN))))))))) (dBin oMod (dBin oDiv (dV 2) (dC (.int 11))) (dC (.int 6)))) (aN)))))) (sRet (dC (.bl false))) (sNext))))))))))
theorem fb_law_1_eq (δ : DEnv) (T : Option Tape) : fb_law_1 δ T = (sSeq (sSet 2 (dCall 2 den_law_rich (aC (dCall 2 den_law_cell (aC (dV 0) (aC (dV 1) (aN)))) (aC (dV 1) (aN))))) (sSeq (sSet 3 (dCall 1 den_law_prime (aC (dV 2) (aN)))) (sSeq (sSet 4 (dCall 2 den_law_curve (aC (dBin oDiv (dV 2) (dC (.int 16))) (aC (dV 3) (aN))))) (sSeq (sSet 5 (dCall 1 den_law_points (aC (dV 4) (aN)))) (sSeq (sFrzA 6 (sSetL 6 (lLc (iLst (dV 5)) (tgN 10) (tYesD) (ce_law_2) [10]))) (sSeq (sIf (dTv (dBin (oNe) (dUn oSetLen (dV 6)) (dB oLen (aC (dV 6) (aN))))) (sRet (dC (.bl false))) (sNext)) (sSeq (sFor (iR1 (aC (dB oLen (aC (dV 5) (aN))) (aN))) (tgN 7) (fb_law_3)) (sSeq (sFor (iR1 (aC (dBin oAdd (dBin oMul (dC (.int 2)) (dV 3)) (dC (.int 5))) (aN))) (tgN 8) (fb_law_4)) (sSeq (sFor (iLst (dL (lLst (aC (dUn oNeg (dC (.int 1))) (aC (dC .non) (aC (dC (.bl true)) (aC (dC (.str (PySem.Str.ofString "1"))) (aC (dTup (aC (dC (.int 1)) (aC (dC (.int 2)) (aN)))) (aN))))))))) (tgN 9) (fb_law_5)) (sIf (dNot (dTv (dCall 2 den_law_refused (aC (dV 4) (aC (dBin oIx (dL (lLst (aC (dTup (aC (dV 3) (aC (dC (.int 0)) (aN)))) (aC (dTup (aC (dC (.int 0)) (aC (dUn oNeg (dC (.int 1))) (aN)))) (aC (dC (.str (PySem.Str.ofString "None"))) (aC (dC (.int 0)) (aC (dTup (aC (dC (.int 1)) (aN))) (aC (dL (lLst (aC (dC (.int 0)) (aC (dC (.int 1)) (aN))))) (aN))))))))) (dBin oMod (dBin oDiv (dV 2) (dC (.int 11))) (dC (.int 6)))) (aN)))))) (sRet (dC (.bl false))) (sNext))))))))))) δ T := id rfl
def body_law : SD := sSeq (sFor (iR1 (aC (dC (.int 2)) (aN))) (tgN 1) (fb_law_1)) (sRet (dC (.bl true)))
theorem body_law_eq (δ : DEnv) (T : Option Tape) : body_law δ T = (sSeq (sFor (iR1 (aC (dC (.int 2)) (aN))) (tgN 1) (fb_law_1)) (sRet (dC (.bl true)))) δ T := id rfl
def den_law : List D → Mo D := runD 10 body_law
theorem ok_law {f : Addr} {fd : FuncData} (F : Fun K "law" "law" st_law f fd) (T : Top K mg) (G_law_cell : OkF P w K mg base "_law_cell" ["script", "k"] 1 2 den_law_cell) (G_law_rich : OkF P w K mg base "_law_rich" ["cell", "k"] 1 2 den_law_rich) (G_law_prime : OkF P w K mg base "_law_prime" ["rich"] 1 1 den_law_prime) (G_law_curve : OkF P w K mg base "_law_curve" ["rich", "p"] 1 2 den_law_curve) (G_law_points : OkF P w K mg base "_law_points" ["curve"] 1 1 den_law_points) (G_shortened : OkF P w K mg base "shortened" ["curve", "point"] 4 2 den_shortened) (G_lengthened : OkF P w K mg base "lengthened" ["curve", "number"] 5 2 den_lengthened) (G_law_told : OkF P w K mg base "_law_told" ["curve", "number"] 6 2 den_law_told) (G_law_refused : OkF P w K mg base "_law_refused" ["curve", "value"] 5 2 den_law_refused) : FnOk P w K mg base (L2.CX P w) 7 f fd ["script"] (SpD K mg 1 den_law) :=
  okD (j := 6) F sc_law rfl rfl fun cdv A outer s H E hr hu tk po => by
    have hN := sc_law.nd
    exact (dss_cons (ds_for po rfl (di_r1 rfl T.b_range (da_cons de_int da_nil)) (dg_name 1 hN) (dss_cons (ds_set 2 hN (de_f tk G_law_rich hr (da_cons (de_f tk G_law_cell hr (da_cons (de_v 0) (da_cons (de_v 1) da_nil))) (da_cons (de_v 1) da_nil)))) (dss_cons (ds_set 3 hN (de_f tk G_law_prime hr (da_cons (de_v 2) da_nil))) (dss_cons (ds_set 4 hN (de_f tk G_law_curve hr (da_cons (de_bin op_fdivW opd_div (de_v 2) de_int) (da_cons (de_v 3) da_nil)))) (dss_cons (ds_set 5 hN (de_f tk G_law_points hr (da_cons (de_v 4) da_nil))) (dss_cons (ds_frzA 6 (ds_setLc 6 rfl hN (own := [("point", 10)]) (di_lst (de_v 5)) (blkOk_by (N := ["script", "turn", "rich", "p", "curve", "points", "rows", "k", "number", "value", "point"]) (sc := defScope st_law) (by decide +kernel)) (by decide) (fun _ _ _ _ _ => (dg_name 10 hN)) (fun _ _ _ _ _ => dts_nil) (fun _ _ _ _ _ => (de_if (dt_cmp op_isN opd_is (de_v 10) de_non (nomark _)) de_int (de_bin op_addA opd_add (de_bin op_addA opd_add (de_bin op_mul opd_mul de_int (de_ix ix_A opd_ix (de_v 10) de_int (fun _ _ => rfl))) de_int) (de_bin op_mod opd_mod (de_ix ix_A opd_ix (de_v 10) de_int (fun _ _ => rfl)) de_int)))) (sw_true rfl rfl rfl (by decide +kernel)))) (dss_cons (ds_if (dt_cmp (op_neD hu) opd_ne (de_setLen T.b_len T.b_set (de_v 6)) (de_b call_len_seq cd_len T.b_len boot_len (da_cons (de_v 6) da_nil)) (nomark _)) (dss_one (ds_ret de_bl)) dss_nil) (dss_cons (ds_for po rfl (di_r1 rfl T.b_range (da_cons (de_b call_len_seq cd_len T.b_len boot_len (da_cons (de_v 5) da_nil)) da_nil)) (dg_name 7 hN) (dss_one (ds_if (dt_w (dw_or (dt_cmp (op_neD hu) opd_ne (de_f tk G_shortened hr (da_cons (de_v 4) (da_cons (de_ix ix_A opd_ix (de_v 5) (de_v 7) (fun _ _ => rfl)) da_nil))) (de_ix ix_A opd_ix (de_v 6) (de_v 7) (fun _ _ => rfl)) (nomark _)) (dw_or1 (dt_cmp (op_neD hu) opd_ne (de_f tk G_lengthened hr (da_cons (de_v 4) (da_cons (de_ix ix_A opd_ix (de_v 6) (de_v 7) (fun _ _ => rfl)) da_nil))) (de_ix ix_A opd_ix (de_v 5) (de_v 7) (fun _ _ => rfl)) (nomark _))))) (dss_one (ds_ret de_bl)) dss_nil))) (dss_cons (ds_for po rfl (di_r1 rfl T.b_range (da_cons (de_bin op_addA opd_add (de_bin op_mul opd_mul de_int (de_v 3)) de_int) da_nil)) (dg_name 8 hN) (dss_one (ds_if (dt_w (dw_and (dt_cmp (op_notInA hr) opd_notInA (de_v 8) (de_v 6) rfl) (dw_and1 (dt_cmp (op_neD hu) opd_ne (de_f tk G_law_told hr (da_cons (de_v 4) (da_cons (de_v 8) da_nil))) de_str (nomark _))))) (dss_one (ds_ret de_bl)) dss_nil))) (dss_cons (ds_for po rfl (di_lst (de_L (dl_lst (da_cons (de_un un_neg und_neg de_int) (da_cons de_non (da_cons de_bl (da_cons de_str (da_cons (de_tup (da_cons de_int (da_cons de_int da_nil))) da_nil)))))))) (dg_name 9 hN) (dss_one (ds_if (dt_cmp (op_neD hu) opd_ne (de_f tk G_law_told hr (da_cons (de_v 4) (da_cons (de_v 9) da_nil))) de_str (nomark _)) (dss_one (ds_ret de_bl)) dss_nil))) (dss_one (ds_if (dt_not (dt_val (de_f tk G_law_refused hr (da_cons (de_v 4) (da_cons (de_ix ix_A opd_ix (de_L (dl_lst (da_cons (de_tup (da_cons (de_v 3) (da_cons de_int da_nil))) (da_cons (de_tup (da_cons de_int (da_cons (de_un un_neg und_neg de_int) da_nil))) (da_cons de_str (da_cons de_int (da_cons (de_tup (da_cons de_int da_nil)) (da_cons (de_L (dl_lst (da_cons de_int (da_cons de_int da_nil)))) da_nil)))))))) (de_bin op_mod opd_mod (de_bin op_fdivW opd_div (de_v 2) de_int) de_int) (fun _ _ => rfl)) da_nil))))) (dss_one (ds_ret de_bl)) dss_nil)))))))))))) (dss_one (ds_ret de_bl)))
end
end K59

set_option maxHeartbeats 1000000
namespace K59
open PySem PySem.Spec PyProof.Rows L2 DD
/-! ### roots, primes: looked at one by one -/
/-- the numbers whose square is s, ascending -/
def ysN (p s : Nat) : List Nat := (List.range p).filter fun y => Nat.beq (y * y % p) s
def rootD : List Nat → D
  | [] => .non
  | y :: _ => .int (y : Nat)
/-- the form in which the roots come -/
def formN (p : Nat) : List Nat → Bool
  | [] => true
  | [y] => Nat.beq y 0
  | [y, z] => Nat.blt 0 y && Nat.blt y p && Nat.beq z (p - y)
  | _ => false
def chkR (p : Nat) : Bool := (List.range p).all fun s => gives (den_root [.int (s : Nat), .int (p : Nat)] none) (rootD (ysN p s)) && formN p (ysN p s)
def primes : List Nat := [5, 7, 11, 13, 17, 19, 23, 29, 31, 37, 41, 43, 47, 53, 59, 61]
theorem chkR_5 : chkR 5 = true := by decide +kernel
theorem chkR_7 : chkR 7 = true := by decide +kernel
theorem chkR_11 : chkR 11 = true := by decide +kernel
theorem chkR_13 : chkR 13 = true := by decide +kernel
theorem chkR_17 : chkR 17 = true := by decide +kernel
theorem chkR_19 : chkR 19 = true := by decide +kernel
theorem chkR_23 : chkR 23 = true := by decide +kernel
theorem chkR_29 : chkR 29 = true := by decide +kernel
theorem chkR_31 : chkR 31 = true := by decide +kernel
theorem chkR_37 : chkR 37 = true := by decide +kernel
theorem chkR_41 : chkR 41 = true := by decide +kernel
theorem chkR_43 : chkR 43 = true := by decide +kernel
theorem chkR_47 : chkR 47 = true := by decide +kernel
theorem chkR_53 : chkR 53 = true := by decide +kernel
theorem chkR_59 : chkR 59 = true := by decide +kernel
theorem chkR_61 : chkR 61 = true := by decide +kernel
theorem chkR_all : ∀ p ∈ primes, chkR p = true := by
  unfold primes
  simp only [List.forall_mem_cons, List.not_mem_nil, false_imp_iff, implies_true, and_true]
  exact ⟨chkR_5, chkR_7, chkR_11, chkR_13, chkR_17, chkR_19, chkR_23, chkR_29, chkR_31, chkR_37, chkR_41, chkR_43, chkR_47, chkR_53, chkR_59, chkR_61⟩
theorem primes_small : ∀ p ∈ primes, 5 ≤ p ∧ p ≤ 61 := by decide
theorem root_den {p s : Nat} (hp : p ∈ primes) (hs : s < p) (T : Option Tape) : den_root [.int (s : Nat), .int (p : Nat)] T = .ok (rootD (ysN p s)) T := by
  have h := chkR_all p hp
  unfold chkR at h
  rw [List.all_eq_true] at h
  have := h s (List.mem_range.mpr hs)
  rw [Bool.and_eq_true] at this
  exact pure_ok (gives_eq this.1) T
theorem ys_form {p s : Nat} (hp : p ∈ primes) (hs : s < p) : formN p (ysN p s) = true := by
  have h := chkR_all p hp
  unfold chkR at h
  rw [List.all_eq_true] at h
  have := h s (List.mem_range.mpr hs)
  rw [Bool.and_eq_true] at this
  exact this.2
theorem mem_ys {p s y : Nat} : y ∈ ysN p s ↔ y < p ∧ y * y % p = s := by
  unfold ysN
  rw [List.mem_filter, List.mem_range, natBeq]
/-! ### a curve as data -/
def crvN (p a b : Nat) : D := .tup [.str (PySem.Str.ofString "curve"), .int (p : Nat), .int (a : Nat), .int (b : Nat)]
def side (p a b x : Nat) : Nat := ((x * x + a) * x + b) % p
def ptD (x y : Nat) : D := .tup [.int (x : Nat), .int (y : Nat)]
theorem ix4 (s x y z : D) : atI [s, x, y, z] 1 = some x ∧ atI [s, x, y, z] 2 = some y ∧ atI [s, x, y, z] 3 = some z := ⟨rfl, rfl, rfl⟩
theorem ix0 (x : D) (r : List D) : atI (x :: r) 0 = some x := by
  have e : ixN (x :: r).length 0 = some 0 := by
    unfold ixN
    rw [if_pos (by omega), if_pos (by rw [List.length_cons]; omega)]
    rfl
  unfold atI
  rw [e]
  rfl
theorem ix2 (x y : D) : atI [x, y] 0 = some x ∧ atI [x, y] 1 = some y := ⟨rfl, rfl⟩
theorem crv1 (p a b : Nat) : ((seqOf (crvN p a b)).bind fun ds => atI ds 1) = some (.int (p : Nat)) := rfl
theorem right_den {p a b x : Nat} (hp : p ∈ primes) (ha : a < p) (hb : b < p) (hx : x < p) (T : Option Tape) : den_right_side [crvN p a b, .int (x : Nat)] T = .ok (.int (side p a b x : Nat)) T := by
  obtain ⟨h5, h43⟩ := primes_small p hp
  have h0 : (0 : Int) < p := by omega
  have m1 : oMul (.int (x : Int)) (.int (x : Int)) = some (.int ((x : Int) * x)) := oMul_r (by omega) (by omega)
  have m2 : oMul (.int ((x : Int) * x + (a : Nat))) (.int (x : Int)) = some (.int (((x : Int) * x + (a : Nat)) * x)) := oMul_r (by omega) (by omega)
  have e : (((x : Int) * x + (a : Nat)) * x + (b : Nat)) % (p : Int) = ((side p a b x : Nat) : Int) := by
    unfold side
    simp
  simp [den_right_side, runD_a, body_right_side_eq, crvN, m1, m2, oMod_i h0, e]
theorem side_lt {p a b x : Nat} (hp : 0 < p) : side p a b x < p := Nat.mod_lt _ hp
end K59

namespace K59
open PySem PySem.Spec PyProof.Rows L2 DD
theorem lifted_den {p a b x : Nat} (hp : p ∈ primes) (ha : a < p) (hb : b < p) (hx : x < p) (T : Option Tape) : den_lifted [crvN p a b, .int (x : Nat)] T = .ok (.tup ((ysN p (side p a b x)).map (ptD x))) T := by
  have h0 : 0 < p := by omega
  have r := right_den hp ha hb hx T
  have q := root_den hp (side_lt (a := a) (b := b) (x := x) h0) T
  have f := ys_form hp (side_lt (a := a) (b := b) (x := x) h0)
  have cp := crv1 p a b
  generalize crvN p a b = C at r cp
  generalize ysN p (side p a b x) = ys at q f ⊢
  match ys, f with
  | [], _ =>
    simp [rootD] at q
    simp [den_lifted, runD_a, body_lifted_eq, r, cp, q]
  | [y], f =>
    have hy : y = 0 := by
      unfold formN at f
      exact natBeq.mp f
    subst hy
    simp [rootD] at q
    simp [den_lifted, runD_a, body_lifted_eq, r, cp, q, ptD]
  | [y, z], f =>
    unfold formN at f
    rw [Bool.and_eq_true, Bool.and_eq_true, Nat.blt_eq, Nat.blt_eq, natBeq] at f
    have hz : ((z : Nat) : Int) = (p : Int) - y := by omega
    have hy : ¬ y = 0 := by omega
    simp [rootD] at q
    simp [den_lifted, runD_a, body_lifted_eq, r, cp, q, ptD, hy, hz]
  | _ :: _ :: _ :: _, f => cases f
end K59

namespace K59
open PySem PySem.Spec PyProof.Rows L2 DD
theorem isp_non (p a b : Nat) (T : Option Tape) : den_is_point [crvN p a b, .non] T = .ok (.bl true) T := by
  simp [den_is_point, runD_a, body_is_point_eq]
theorem isp_pair {p a b x y : Nat} (hp : p ∈ primes) (ha : a < p) (hb : b < p) (hx : x < p) (hy : y < p) (T : Option Tape) : den_is_point [crvN p a b, ptD x y] T = .ok (.bl (decide (y * y % p = side p a b x))) T := by
  obtain ⟨h5, h43⟩ := primes_small p hp
  have h0 : (0 : Int) < p := by omega
  have r := right_den hp ha hb hx T
  have e : decide ((((y : Nat) : Int) * (y : Nat)) % (p : Int) = ((side p a b x : Nat) : Int)) = decide (y * y % p = side p a b x) := by
    have e : (((y : Nat) : Int) * (y : Nat)) % (p : Int) = ((y * y % p : Nat) : Int) := by simp
    rw [decide_eq_decide, e]
    omega
  have m1 : oMul (.int ((y : Nat) : Int)) (.int ((y : Nat) : Int)) = some (.int (((y : Nat) : Int) * (y : Nat))) := oMul_r (by omega) (by omega)
  have cp := crv1 p a b
  have q1 : (0 : Int) ≤ ((x : Nat) : Int) := by omega
  have q2 : ((x : Nat) : Int) < (p : Int) := by omega
  have q3 : (0 : Int) ≤ ((y : Nat) : Int) := by omega
  have q4 : ((y : Nat) : Int) < (p : Int) := by omega
  have bt : blsOf [.bl true, .bl true] = some [true, true] := rfl
  rw [← e]
  unfold ptD
  generalize crvN p a b = C at r cp ⊢
  generalize ((x : Nat) : Int) = X at r q1 q2 ⊢
  generalize ((y : Nat) : Int) = Y at m1 q3 q4 ⊢
  generalize ((p : Nat) : Int) = Pz at *
  simp [den_is_point, runD_a, body_is_point_eq, lcD_cons, ce_is_point_1_eq, den_is_integer, body_is_integer_eq, cp, q1, q2, q3, q4, bt, ix2, m1, oMod_i h0, r]
theorem chp_ok {p a b : Nat} {v : D} {T : Option Tape} (h : den_is_point [crvN p a b, v] T = .ok (.bl true) T) : den_check_point [crvN p a b, v] T = .ok .non T := by
  simp [den_check_point, runD_a, body_check_point_eq, h]
theorem chp_no {p a b : Nat} {v : D} {T : Option Tape} (h : den_is_point [crvN p a b, v] T = .ok (.bl false) T) : den_check_point [crvN p a b, v] T = .exc ⟨PySem.Str.ofString "BadPoint", none⟩ T := by
  simp [den_check_point, runD_a, body_check_point_eq, h]
end K59

namespace K59
open PySem PySem.Spec PyProof.Rows L2 DD
def chkG (p : Nat) : Bool := gives (den_is_good_prime [.int (p : Nat)] none) (.bl true)
theorem chkG_all : ∀ p ∈ primes, chkG p = true := by decide +kernel
theorem good_den {p : Nat} (hp : p ∈ primes) (T : Option Tape) : den_is_good_prime [.int (p : Nat)] T = .ok (.bl true) T := pure_ok (gives_eq (chkG_all p hp)) T
def singN (p a b : Nat) : Bool := Nat.beq ((4 * a * a * a + 27 * b * b) % p) 0
theorem sing_c {p a b : Nat} : decide ((4 * (a : Int) * a * a + 27 * (b : Int) * b) % (p : Int) = 0) = singN p a b := by
  have e : (4 * (a : Int) * a * a + 27 * (b : Int) * b) % (p : Int) = (((4 * a * a * a + 27 * b * b) % p : Nat) : Int) := by simp
  rw [e, Bool.eq_iff_iff, decide_eq_true_eq]
  unfold singN
  rw [natBeq]
  omega
theorem sing_den {p a b : Nat} (h0 : 0 < p) (h1 : p < 1000) (ha : a < p) (hb : b < p) (T : Option Tape) : den_singular [.int (p : Nat), .int (a : Nat), .int (b : Nat)] T = .ok (.bl (singN p a b)) T := by
  have h0' : (0 : Int) < p := by omega
  have m1 : ∀ i : Int, oMul (.int i) (.int (a : Int)) = some (.int (i * a)) := fun i => oMul_r (by omega) (by omega)
  have m2 : ∀ i : Int, oMul (.int i) (.int (b : Int)) = some (.int (i * b)) := fun i => oMul_r (by omega) (by omega)
  rw [← sing_c]
  simp [den_singular, runD_a, body_singular_eq, m1, m2, oMod_i h0']
theorem cut_1 (d : D) (ds : List D) : DD.cutD (d :: ds) (some 1) none = ds := by
  unfold DD.cutD
  have e1 : HT.sIx (d :: ds).length 0 (some 1) = 1 := by
    show (if ((1 : Int) < 0) then ((1 : Int) + (d :: ds).length).toNat else min (1 : Int).toNat (d :: ds).length) = 1
    rw [if_neg (by omega)]
    simp
  have e2 : HT.sIx (d :: ds).length (d :: ds).length none = (d :: ds).length := rfl
  rw [e1, e2]
  simp
theorem cut_2 (x y z w : D) : DD.cutD [x, y, z, w] (some 2) none = [z, w] := rfl
theorem chc_ok {p a b : Nat} (hp : p ∈ primes) (ha : a < p) (hb : b < p) (hs : singN p a b = false) (T : Option Tape) : den_check_curve [crvN p a b] T = .ok .non T := by
  obtain ⟨h5, h43⟩ := primes_small p hp
  have g := good_den hp T
  have s := sing_den (by omega) (by omega) ha hb T
  rw [hs] at s
  have q1 : (0 : Int) ≤ ((a : Nat) : Int) := by omega
  have q2 : ((a : Nat) : Int) < (p : Int) := by omega
  have q3 : (0 : Int) ≤ ((b : Nat) : Int) := by omega
  have q4 : ((b : Nat) : Int) < (p : Int) := by omega
  have bt : blsOf [.bl true, .bl true] = some [true, true] := rfl
  have bu : blsOf [.bl true, .bl true, .bl true] = some [true, true, true] := rfl
  have ss : oNe (.str (PySem.Str.ofString "curve")) (.str (PySem.Str.ofString "curve")) = some (.bl false) := oNe_same (n := 0) (by rw [DD.good_str]; decide +kernel)
  unfold crvN
  generalize ((a : Nat) : Int) = A at *
  generalize ((b : Nat) : Int) = B at *
  generalize ((p : Nat) : Int) = Pz at *
  simp [den_check_curve, runD_a, body_check_curve_eq, lcD_cons, ce_check_curve_1_eq, ce_check_curve_2_eq, den_is_integer, body_is_integer_eq, q1, q2, q3, q4, bt, bu, ss, ix0, ix4, cut_1, cut_2, g, s]
end K59

namespace K59
open PySem PySem.Spec PyProof.Rows L2 DD
def par (odd : Nat) (y : Nat) : Bool := Nat.beq (y % 2) odd
theorem len_loop (x odd : Nat) (c0 c1 c3 : Sl) (T : Option Tape) : ∀ (ys : List Nat) (s2 : Sl), (∃ y, ys.find? (par odd) = some y ∧ forD (tgN 2) fb_lengthened_1 (ys.map (ptD x)) [c0, c1, s2, c3, .val (.int (odd : Nat))] T = .ret (ptD x y) T) ∨
    (ys.find? (par odd) = none ∧ ∃ s2', forD (tgN 2) fb_lengthened_1 (ys.map (ptD x)) [c0, c1, s2, c3, .val (.int (odd : Nat))] T = .nx [c0, c1, s2', c3, .val (.int (odd : Nat))] T)
  | [], s2 => .inr ⟨rfl, s2, rfl⟩
  | y :: r, s2 => by
    rw [List.find?_cons, List.map_cons, forD_cons]
    by_cases h : y % 2 = odd
    · left
      have hp : par odd y = true := natBeq.mpr h
      have hz : ((y : Int) % 2 = (odd : Int)) := by omega
      refine ⟨y, by rw [hp], ?_⟩
      have e1 : atI [D.int (x : Nat), D.int (y : Nat)] 1 = some (.int (y : Nat)) := rfl
      simp [fb_lengthened_1_eq, ptD, e1, bitAnd_m1, hz]
    · have hp : par odd y = false := Bool.eq_false_iff.mpr fun q => h (natBeq.mp q)
      have hz : ¬ ((y : Int) % 2 = (odd : Int)) := by omega
      have e1 : atI [D.int (x : Nat), D.int (y : Nat)] 1 = some (.int (y : Nat)) := rfl
      rw [hp]
      have st : ((tgN 2 (ptD x y) [c0, c1, s2, c3, .val (.int (odd : Nat))]).elim .stuck fun δ' => (fb_lengthened_1 δ' T).turn (forD (tgN 2) fb_lengthened_1 (List.map (ptD x) r))) = forD (tgN 2) fb_lengthened_1 (r.map (ptD x)) [c0, c1, .val (ptD x y), c3, .val (.int (odd : Nat))] T := by
        simp [fb_lengthened_1_eq, ptD, e1, bitAnd_m1, hz]
      rw [st]
      rcases len_loop x odd c0 c1 c3 T r (.val (ptD x y)) with ⟨z, h1, h2⟩ | ⟨h1, s, h2⟩
      · exact .inl ⟨z, h1, h2⟩
      · exact .inr ⟨h1, s, h2⟩
def look (p a b x odd : Nat) : Option Nat := (ysN p (side p a b x)).find? (par odd)
abbrev bad : Exn := ⟨PySem.Str.ofString "BadPoint", none⟩
theorem len_den {p a b n : Nat} (hp : p ∈ primes) (ha : a < p) (hb : b < p) (hs : singN p a b = false) (h0 : 0 < n) (hn : (n - 1) / 2 < p) (T : Option Tape) :
    den_lengthened [crvN p a b, .int (n : Nat)] T = match look p a b ((n - 1) / 2) ((n - 1) % 2) with | some y => .ok (ptD ((n - 1) / 2) y) T | none => .exc bad T := by
  obtain ⟨h5, h43⟩ := primes_small p hp
  have c := chc_ok hp ha hb hs T
  have l := lifted_den hp ha hb hn T
  have cp := crv1 p a b
  have e1 : ¬ ((n : Int) < 0) := by omega
  have e2 : ¬ n = 0 := by omega
  have e3 : ((n : Int) - 1) / 2 = (((n - 1) / 2 : Nat) : Int) := by omega
  have e4 : ((n : Int) - 1) % 2 = (((n - 1) % 2 : Nat) : Int) := by omega
  have e5 : ¬ ((p : Int) ≤ (((n - 1) / 2 : Nat) : Int)) := by omega
  unfold look
  generalize crvN p a b = C at *
  rcases len_loop ((n - 1) / 2) ((n - 1) % 2) (.val C) (.val (.int (n : Nat))) (.val (.int (((n - 1) / 2 : Nat) : Nat))) T (ysN p (side p a b ((n - 1) / 2))) .un with ⟨y, h1, h2⟩ | ⟨h1, s, h2⟩
  all_goals
    rw [h1]
    generalize (((n - 1) / 2 : Nat) : Int) = X at *
    generalize (((n - 1) % 2 : Nat) : Int) = O at *
    have d2 : oDiv (.int ((n : Int) - 1)) (.int 2) = some (.int X) := by rw [oDiv_i (by omega) (by omega), e3]
    have d3 : Builtin.bitAnd ((n : Int) - 1) 1 = O := by rw [bitAnd_m1, e4]
    simp [den_lengthened, runD_a, body_lengthened_eq, c, den_is_integer, body_is_integer_eq, e1, e2, d2, d3, cp, e5, l, h2]
theorem len_far {p a b n : Nat} (hp : p ∈ primes) (ha : a < p) (hb : b < p) (hs : singN p a b = false) (h0 : 0 < n) (hn : p ≤ (n - 1) / 2) (T : Option Tape) :
    den_lengthened [crvN p a b, .int (n : Nat)] T = .exc bad T := by
  obtain ⟨h5, h43⟩ := primes_small p hp
  have c := chc_ok hp ha hb hs T
  have cp := crv1 p a b
  have e1 : ¬ ((n : Int) < 0) := by omega
  have e2 : ¬ n = 0 := by omega
  have d2 : oDiv (.int ((n : Int) - 1)) (.int 2) = some (.int (((n : Int) - 1) / 2)) := oDiv_i (by omega) (by omega)
  have e5 : (p : Int) ≤ ((n : Int) - 1) / 2 := by omega
  generalize crvN p a b = C at *
  simp [den_lengthened, runD_a, body_lengthened_eq, c, den_is_integer, body_is_integer_eq, e1, e2, d2, bitAnd_m1, cp, e5]
theorem len_0 {p a b : Nat} (hp : p ∈ primes) (ha : a < p) (hb : b < p) (hs : singN p a b = false) (T : Option Tape) :
    den_lengthened [crvN p a b, .int 0] T = .ok .non T := by
  have c := chc_ok hp ha hb hs T
  generalize crvN p a b = C at *
  simp [den_lengthened, runD_a, body_lengthened_eq, c, den_is_integer, body_is_integer_eq]
theorem len_no {p a b : Nat} (hp : p ∈ primes) (ha : a < p) (hb : b < p) (hs : singN p a b = false) {v : D} (hv : v ∈ [.int (-1), .non, .bl true, .str (PySem.Str.ofString "1"), .tup [.int 1, .int 2]]) (T : Option Tape) :
    den_lengthened [crvN p a b, v] T = .exc bad T := by
  have c := chc_ok hp ha hb hs T
  generalize crvN p a b = C at *
  simp only [List.mem_cons, List.not_mem_nil, or_false] at hv
  rcases hv with rfl | rfl | rfl | rfl | rfl <;> simp [den_lengthened, runD_a, body_lengthened_eq, c, den_is_integer, body_is_integer_eq]
theorem told_exc {C v : D} {T : Option Tape} (h : den_lengthened [C, v] T = .exc bad T) : den_law_told [C, v] T = .ok (.str (PySem.Str.ofString "none")) T := by
  have s : subOf rows_BadPoint (PySem.Str.ofString "BadPoint") = some true := by decide +kernel
  simp [den_law_told, runD_a, body_law_told_eq, h, s]
theorem told_ok {C v d : D} {T : Option Tape} (h : den_lengthened [C, v] T = .ok d T) : den_law_told [C, v] T = .ok d T := by
  simp [den_law_told, runD_a, body_law_told_eq, h]
def rowN (x y : Nat) : Nat := 2 * x + 1 + y % 2
theorem short_pt {p a b x y : Nat} (hp : p ∈ primes) (ha : a < p) (hb : b < p) (hx : x < p) (hy : y ∈ ysN p (side p a b x)) (T : Option Tape) : den_shortened [crvN p a b, ptD x y] T = .ok (.int (rowN x y : Nat)) T := by
  obtain ⟨h1, h2⟩ := mem_ys.mp hy
  have i := isp_pair hp ha hb hx h1 T
  rw [decide_eq_true h2] at i
  have c := chp_ok i
  have m2 : oMul (.int 2) (.int (x : Int)) = some (.int (2 * (x : Int))) := oMul_l (by omega) (by omega)
  have e : 2 * (x : Int) + 1 + (y : Int) % 2 = ((rowN x y : Nat) : Int) := by unfold rowN; omega
  generalize crvN p a b = C at *
  have i0 : atI [D.int (x : Nat), .int (y : Nat)] 0 = some (.int (x : Nat)) := rfl
  have i1 : atI [D.int (x : Nat), .int (y : Nat)] 1 = some (.int (y : Nat)) := rfl
  unfold ptD at *
  simp [den_shortened, runD_a, body_shortened_eq, c, m2, bitAnd_m1, i0, i1, e]
theorem short_non (p a b : Nat) (T : Option Tape) : den_shortened [crvN p a b, .non] T = .ok (.int 0) T := by
  have c := chp_ok (isp_non p a b T)
  generalize crvN p a b = C at *
  simp [den_shortened, runD_a, body_shortened_eq, c]
theorem ref_no {p a b : Nat} (hp : p ∈ primes) {v : D} (hv : v ∈ [.tup [.int (p : Nat), .int 0], .tup [.int 0, .int (-1)], .str (PySem.Str.ofString "None"), .int 0, .tup [.int 1], .lst [.int 0, .int 1]]) (T : Option Tape) :
    den_law_refused [crvN p a b, v] T = .ok (.bl true) T := by
  obtain ⟨h5, h43⟩ := primes_small p hp
  have s : subOf rows_BadPoint (PySem.Str.ofString "BadPoint") = some true := by decide +kernel
  have cp := crv1 p a b
  have i : den_is_point [crvN p a b, v] T = .ok (.bl false) T := by
    have q1 : (0 : Int) ≤ ((p : Nat) : Int) := by omega
    have b1 : blsOf [.bl false, .bl true] = some [false, true] := rfl
    have b2 : blsOf [.bl true, .bl false] = some [true, false] := rfl
    have il : ∀ ds : List D, isD "tuple" (.lst ds) = some false := fun _ => (show kitB "list" "tuple" = some false by decide +kernel)
    have pz : (0 : Int) < p := by omega
    generalize crvN p a b = C at *
    generalize ((p : Nat) : Int) = Pz at *
    simp only [List.mem_cons, List.not_mem_nil, or_false] at hv
    rcases hv with rfl | rfl | rfl | rfl | rfl | rfl <;> simp [den_is_point, runD_a, body_is_point_eq, lcD_cons, ce_is_point_1_eq, den_is_integer, body_is_integer_eq, cp, q1, b1, b2, il, pz]
  have c := chp_no i
  generalize crvN p a b = C at *
  simp [den_law_refused, runD_a, body_law_refused_eq, den_shortened, body_shortened_eq, c, s]
end K59

namespace K59
open PySem PySem.Spec PyProof.Rows L2 DD
/-! ### the law's curve, its points -/
theorem sing01 : ∀ p ∈ primes, singN p 0 1 = false := by decide +kernel
theorem curve_loop {p : Nat} (hp : p ∈ primes) (r : Nat) (T : Option Tape) : ∀ (ks : List Nat) (s2 s3 s4 : Sl), (∃ a b : Nat, a < p ∧ b < p ∧ singN p a b = false ∧ forD (tgN 2) fb_law_curve_1 (ks.map fun k => .int (k : Nat)) [.val (.int (r : Nat)), .val (.int (p : Nat)), s2, s3, s4] T = .ret (crvN p a b) T) ∨
    ∃ t2 t3 t4, forD (tgN 2) fb_law_curve_1 (ks.map fun k => .int (k : Nat)) [.val (.int (r : Nat)), .val (.int (p : Nat)), s2, s3, s4] T = .nx [.val (.int (r : Nat)), .val (.int (p : Nat)), t2, t3, t4] T
  | [], s2, s3, s4 => .inr ⟨s2, s3, s4, rfl⟩
  | k :: ks, s2, s3, s4 => by
    obtain ⟨h5, h43⟩ := primes_small p hp
    have h0 : (0 : Int) < p := by omega
    have la : (r + k) % p < p := Nat.mod_lt _ (by omega)
    have lb : (r / p + k / p) % p < p := Nat.mod_lt _ (by omega)
    have ea : ((r : Int) + (k : Int)) % (p : Int) = (((r + k) % p : Nat) : Int) := by simp
    have eb : ((r : Int) / (p : Int) + (k : Int) / (p : Int)) % (p : Int) = (((r / p + k / p) % p : Nat) : Int) := by simp
    have sc := @sing_c p ((r + k) % p) ((r / p + k / p) % p)
    generalize (r + k) % p = a at *
    generalize (r / p + k / p) % p = b at *
    have m1 : ∀ i : Int, oMul (.int i) (.int (a : Int)) = some (.int (i * a)) := fun i => oMul_r (by omega) (by omega)
    have m2 : ∀ i : Int, oMul (.int i) (.int (b : Int)) = some (.int (i * b)) := fun i => oMul_r (by omega) (by omega)
    have dv : ∀ i : Int, oDiv (.int i) (.int (p : Int)) = some (.int (i / p)) := fun i => oDiv_i h0 (by omega)
    rw [List.map_cons, forD_cons]
    cases es : singN p a b with
    | false =>
      left
      rw [es, decide_eq_false_iff_not] at sc
      exact ⟨a, b, la, lb, es, by simp [fb_law_curve_1_eq, oMod_i h0, dv, ea, eb, m1, m2, sc, crvN]⟩
    | true =>
      rw [es, decide_eq_true_eq] at sc
      have st : ((tgN 2 (.int (k : Nat)) [.val (.int (r : Nat)), .val (.int (p : Nat)), s2, s3, s4]).elim .stuck fun δ' => (fb_law_curve_1 δ' T).turn (forD (tgN 2) fb_law_curve_1 (ks.map fun k => .int (k : Nat)))) = forD (tgN 2) fb_law_curve_1 (ks.map fun k => .int (k : Nat)) [.val (.int (r : Nat)), .val (.int (p : Nat)), .val (.int (k : Nat)), .val (.int (a : Nat)), .val (.int (b : Nat))] T := by
        simp [fb_law_curve_1_eq, oMod_i h0, dv, ea, eb, m1, m2, sc]
      rw [st]
      exact curve_loop hp r T ks _ _ _
theorem curve_den {p : Nat} (hp : p ∈ primes) (r : Nat) (T : Option Tape) : ∃ a b : Nat, a < p ∧ b < p ∧ singN p a b = false ∧ den_law_curve [.int (r : Nat), .int (p : Nat)] T = .ok (crvN p a b) T := by
  obtain ⟨h5, h43⟩ := primes_small p hp
  have m : oMul (.int (p : Int)) (.int (p : Int)) = some (.int ((p : Int) * p)) := oMul_r (by omega) (by omega)
  have pp : p * p ≤ 61 * 61 := Nat.mul_le_mul h43 h43
  have ec : ((p : Int) * p) = ((p * p : Nat) : Int) := by simp
  have rg : rOk (((p * p : Nat) : Int)) = true := rOk_i (by omega) (by omega)
  rw [ec] at m
  rcases curve_loop hp r T (List.range (p * p)) .un .un .un with ⟨a, b, ha, hb, hs, h⟩ | ⟨t2, t3, t4, h⟩
  · rw [← rng_eq] at h
    refine ⟨a, b, ha, hb, hs, ?_⟩
    generalize p * p = q at *
    simp [den_law_curve, runD_a, body_law_curve_eq, m, rng1_ok rg, h]
  · rw [← rng_eq] at h
    refine ⟨0, 1, by omega, by omega, sing01 p hp, ?_⟩
    generalize p * p = q at *
    simp [den_law_curve, runD_a, body_law_curve_eq, m, rng1_ok rg, h, crvN]
def ptsD (p a b : Nat) : List Nat → List D
  | [] => []
  | x :: r => (ysN p (side p a b x)).map (ptD x) ++ ptsD p a b r
theorem cond_iff {p a b x y : Nat} : (((y : Int) * y - (x : Int) * x * x - (a : Int) * x - (b : Int)) % (p : Int) = 0) ↔ y * y % p = side p a b x := by
  have e : (y : Int) * y - (x : Int) * x * x - (a : Int) * x - (b : Int) = ((y * y : Nat) : Int) - (((x * x + a) * x + b : Nat) : Int) := by
    simp
    grind
  rw [e, ← Int.emod_eq_emod_iff_emod_sub_eq_zero]
  unfold side
  rw [← Int.natCast_emod, ← Int.natCast_emod]
  omega
theorem pts_in {p a b x : Nat} (hp : p ∈ primes) (ha : a < p) (hb : b < p) (hx : x < p) (s0 s3 : Sl) (T : Option Tape) : ∀ (ys : List Nat) (acc : List D) (s7 : Sl), (∀ y ∈ ys, y < p) → acc.length + ys.length < 10000 → ∃ t7, forD (tgN 7) fb_law_points_2 (ys.map fun y => .int (y : Nat)) [s0, .own acc, .val (.int (x : Nat)), s3, .val (.int (p : Nat)), .val (.int (a : Nat)), .val (.int (b : Nat)), s7] T =
    .nx [s0, .own (acc ++ (ys.filter fun y => Nat.beq (y * y % p) (side p a b x)).map (ptD x)), .val (.int (x : Nat)), s3, .val (.int (p : Nat)), .val (.int (a : Nat)), .val (.int (b : Nat)), t7] T
  | [], acc, s7, _, _ => ⟨s7, by simp [forD_nil]⟩
  | y :: ys, acc, s7, hy, hl => by
    obtain ⟨h5, h43⟩ := primes_small p hp
    have h0 : (0 : Int) < p := by omega
    have hyp := hy y List.mem_cons_self
    simp only [List.length_cons] at hl
    have m1 : ∀ i : Int, oMul (.int i) (.int (x : Int)) = some (.int (i * x)) := fun i => oMul_r (by omega) (by omega)
    have m2 : ∀ i : Int, oMul (.int i) (.int (y : Int)) = some (.int (i * y)) := fun i => oMul_r (by omega) (by omega)
    have cd := @cond_iff p a b x y
    have hline : acc.length < line := Nat.lt_trans (show _ < 15000 by omega) (by decide)
    rw [List.map_cons, forD_cons]
    by_cases z : y * y % p = side p a b x
    · obtain ⟨t, ih⟩ := pts_in hp ha hb hx s0 s3 T ys (acc ++ [ptD x y]) (.val (.int (y : Nat))) (fun z hz => hy z (List.mem_cons_of_mem _ hz)) (by simp; omega)
      refine ⟨t, ?_⟩
      rw [List.filter_cons, if_pos (natBeq.mpr z), List.map_cons]
      have c := cd.mpr z
      unfold ptD at ih
      simp [fb_law_points_2_eq, m1, m2, oMod_i h0, c, hline]
      rw [ih]
      simp [ptD]
    · obtain ⟨t, ih⟩ := pts_in hp ha hb hx s0 s3 T ys acc (.val (.int (y : Nat))) (fun z hz => hy z (List.mem_cons_of_mem _ hz)) (by omega)
      refine ⟨t, ?_⟩
      rw [List.filter_cons, if_neg (fun q => z (natBeq.mp q))]
      have c := (not_congr cd).mpr z
      simp [fb_law_points_2_eq, m1, m2, oMod_i h0, c, ih]
theorem ys_len {p : Nat} (s : Nat) : (ysN p s).length ≤ p := by
  unfold ysN
  exact Nat.le_trans (List.length_filter_le _ _) (by simp)
theorem pts_out {p a b : Nat} (hp : p ∈ primes) (ha : a < p) (hb : b < p) (s0 s3 : Sl) (T : Option Tape) : ∀ (xs : List Nat) (acc : List D) (s2 s7 : Sl), (∀ x ∈ xs, x < p) → acc.length + 70 * xs.length < 9000 → ∃ t2 t7, forD (tgN 2) fb_law_points_1 (xs.map fun x => .int (x : Nat)) [s0, .own acc, s2, s3, .val (.int (p : Nat)), .val (.int (a : Nat)), .val (.int (b : Nat)), s7] T =
    .nx [s0, .own (acc ++ ptsD p a b xs), t2, s3, .val (.int (p : Nat)), .val (.int (a : Nat)), .val (.int (b : Nat)), t7] T
  | [], acc, s2, s7, _, _ => ⟨s2, s7, by simp [forD_nil, ptsD]⟩
  | x :: xs, acc, s2, s7, hx, hl => by
    obtain ⟨h5, h43⟩ := primes_small p hp
    simp only [List.length_cons] at hl
    obtain ⟨t, e⟩ := pts_in hp ha hb (hx x List.mem_cons_self) s0 s3 T (List.range p) acc s7 (fun y hy => List.mem_range.mp hy) (by simp; omega)
    have yl := ys_len (p := p) (side p a b x)
    obtain ⟨t2, t7, ih⟩ := pts_out hp ha hb s0 s3 T xs (acc ++ (ysN p (side p a b x)).map (ptD x)) (.val (.int (x : Nat))) t (fun z hz => hx z (List.mem_cons_of_mem _ hz)) (by simp; omega)
    refine ⟨t2, t7, ?_⟩
    have r : rOk (p : Int) = true := rOk_i (by omega) (by omega)
    rw [← rng_eq] at e
    rw [List.map_cons, forD_cons]
    have e' : (List.range p).filter (fun y => Nat.beq (y * y % p) (side p a b x)) = ysN p (side p a b x) := rfl
    rw [e'] at e
    simp [fb_law_points_1_eq, rng1_ok r, e]
    rw [ih]
    simp [ptsD]
theorem lpoints_den {p a b : Nat} (hp : p ∈ primes) (ha : a < p) (hb : b < p) (T : Option Tape) : den_law_points [crvN p a b] T = .ok (.lst (.non :: ptsD p a b (List.range p))) T := by
  obtain ⟨h5, h43⟩ := primes_small p hp
  obtain ⟨t2, t7, e⟩ := pts_out hp ha hb (.val (crvN p a b)) (.val (.str (PySem.Str.ofString "curve"))) T (List.range p) [.non] .un .un (fun x hx => List.mem_range.mp hx) (by simp; omega)
  rw [← rng_eq] at e
  have r : rOk (p : Int) = true := rOk_i (by omega) (by omega)
  unfold crvN at *
  simp [den_law_points, runD_a, body_law_points_eq, rng1_ok r, e, sRetOwn]
end K59

namespace K59
open PySem PySem.Spec PyProof.Rows L2 DD
/-! ### the law -/
def chkL (p : Nat) : Bool := (List.range p).all fun s => (ysN p s).all fun y => match (ysN p s).find? (par (y % 2)) with
  | some z => Nat.beq z y
  | none => false
theorem chkL_all : ∀ p ∈ primes, chkL p = true := by decide +kernel
theorem look_y {p s y : Nat} (hp : p ∈ primes) (hs : s < p) (hy : y ∈ ysN p s) : (ysN p s).find? (par (y % 2)) = some y := by
  have h := chkL_all p hp
  unfold chkL at h
  rw [List.all_eq_true] at h
  have h := h s (List.mem_range.mpr hs)
  rw [List.all_eq_true] at h
  have h := h y hy
  split at h
  · rename_i z e
    rw [natBeq] at h
    rw [e, h]
  · cases h
def prs (p a b : Nat) (xs : List Nat) : List (Nat × Nat) := xs.flatMap fun x => (ysN p (side p a b x)).map fun y => (x, y)
theorem ptsD_prs (p a b : Nat) : ∀ xs : List Nat, ptsD p a b xs = (prs p a b xs).map fun q => ptD q.1 q.2
  | [] => rfl
  | x :: xs => by
    have ih := ptsD_prs p a b xs
    unfold prs at ih ⊢
    rw [ptsD, ih, List.flatMap_cons, List.map_append, List.map_map]
    rfl
theorem mem_prs {p a b : Nat} {xs : List Nat} {q : Nat × Nat} : q ∈ prs p a b xs ↔ q.1 ∈ xs ∧ q.2 ∈ ysN p (side p a b q.1) := by
  unfold prs
  rw [List.mem_flatMap]
  constructor
  · rintro ⟨x, hx, h⟩
    obtain ⟨y, hy, rfl⟩ := List.mem_map.mp h
    exact ⟨hx, hy⟩
  · rintro ⟨h1, h2⟩
    exact ⟨q.1, h1, List.mem_map.mpr ⟨q.2, h2, rfl⟩⟩
theorem ys_nodup (p s : Nat) : (ysN p s).Nodup := List.Pairwise.filter _ List.nodup_range
theorem rows_nodup {p a b : Nat} (hp : p ∈ primes) : ((prs p a b (List.range p)).map fun q => rowN q.1 q.2).Nodup := by
  have h0 : 0 < p := by have := primes_small p hp; omega
  unfold List.Nodup
  rw [List.pairwise_map]
  unfold prs
  rw [List.pairwise_flatMap]
  constructor
  · intro x hx
    rw [List.pairwise_map]
    refine List.Pairwise.imp_of_mem ?_ (ys_nodup p (side p a b x))
    intro y z hy hz hne e
    have e' : y % 2 = z % 2 := by unfold rowN at e; simp at e; omega
    have l1 := look_y hp (side_lt (a := a) (b := b) (x := x) h0) hy
    have l2 := look_y hp (side_lt (a := a) (b := b) (x := x) h0) hz
    rw [e', l2] at l1
    exact hne (Option.some.inj l1).symm
  · refine List.Pairwise.imp_of_mem ?_ (List.nodup_range (n := p))
    intro x z _ _ hne q hq r hr e
    obtain ⟨y1, _, rfl⟩ := List.mem_map.mp hq
    obtain ⟨y2, _, rfl⟩ := List.mem_map.mp hr
    unfold rowN at e
    simp at e
    omega
def rowF : D → D
  | .tup [.int x, .int y] => .int (2 * x + 1 + y % 2)
  | _ => .int 0
theorem rowF_pt (x y : Nat) : rowF (ptD x y) = .int (rowN x y : Nat) := by
  unfold ptD rowF rowN
  simp
def pts (p a b : Nat) : List D := .non :: ptsD p a b (List.range p)
def rowsI (p a b : Nat) : List Int := 0 :: (prs p a b (List.range p)).map fun q => (rowN q.1 q.2 : Nat)
theorem pts_mem {p a b : Nat} {d : D} (h : d ∈ pts p a b) : d = .non ∨ ∃ x y : Nat, x < p ∧ y ∈ ysN p (side p a b x) ∧ d = ptD x y := by
  rcases List.mem_cons.mp h with rfl | h
  · exact .inl rfl
  · rw [ptsD_prs] at h
    obtain ⟨q, hq, rfl⟩ := List.mem_map.mp h
    obtain ⟨h1, h2⟩ := mem_prs.mp hq
    exact .inr ⟨q.1, q.2, List.mem_range.mp h1, h2, rfl⟩
theorem rows_eq (p a b : Nat) : (pts p a b).map rowF = (rowsI p a b).map D.int := by
  unfold pts rowsI
  rw [List.map_cons, List.map_cons, ptsD_prs, List.map_map, List.map_map]
  refine congrArg (D.int 0 :: ·) (List.map_congr_left fun q _ => ?_)
  exact rowF_pt q.1 q.2
theorem pts_len {p a b : Nat} (hp : p ∈ primes) : (pts p a b).length < 3999 := by
  have hs := primes_small p hp
  have : ∀ xs : List Nat, (ptsD p a b xs).length ≤ 61 * xs.length := by
    intro xs
    induction xs with
    | nil => exact Nat.le_refl _
    | cons x r ih =>
      have yl := ys_len (p := p) (side p a b x)
      rw [ptsD, List.length_append, List.length_map, List.length_cons]
      omega
  have h := this (List.range p)
  rw [List.length_range] at h
  unfold pts
  rw [List.length_cons]
  omega
theorem rowsI_nodup {p a b : Nat} (hp : p ∈ primes) : (rowsI p a b).Nodup := by
  unfold rowsI
  rw [List.nodup_cons]
  constructor
  · intro h
    obtain ⟨q, _, e⟩ := List.mem_map.mp h
    unfold rowN at e
    omega
  · have h := rows_nodup (a := a) (b := b) hp
    have e : ((prs p a b (List.range p)).map fun q => ((rowN q.1 q.2 : Nat) : Int)) = ((prs p a b (List.range p)).map fun q => rowN q.1 q.2).map fun n : Nat => (n : Int) := by
      rw [List.map_map]
      rfl
    rw [e]
    unfold List.Nodup at h ⊢
    rw [List.pairwise_map]
    exact h.imp fun hne e => hne (by omega)
theorem good_pt {p a b : Nat} {d : D} (h : d ∈ pts p a b) : good 1 d = true := by
  rcases pts_mem h with rfl | ⟨x, y, _, _, rfl⟩
  · simp
  · unfold ptD
    simp
/-- a point and its row -/
theorem pt_row {p a b : Nat} (hp : p ∈ primes) (ha : a < p) (hb : b < p) (hs : singN p a b = false) {d : D} (h : d ∈ pts p a b) (T : Option Tape) : den_shortened [crvN p a b, d] T = .ok (rowF d) T ∧ den_lengthened [crvN p a b, rowF d] T = .ok d T := by
  have h0 : 0 < p := by have := primes_small p hp; omega
  rcases pts_mem h with rfl | ⟨x, y, hx, hy, rfl⟩
  · exact ⟨short_non p a b T, len_0 hp ha hb hs T⟩
  · rw [rowF_pt]
    refine ⟨short_pt hp ha hb hx hy T, ?_⟩
    have e1 : (rowN x y - 1) / 2 = x := by unfold rowN; omega
    have e2 : (rowN x y - 1) % 2 = y % 2 := by unfold rowN; omega
    rw [len_den hp ha hb hs (by unfold rowN; omega) (by omega) T, e1, e2]
    unfold look
    rw [look_y hp (side_lt h0) hy]
/-- a number that is no row -/
theorem no_row {p a b : Nat} (hp : p ∈ primes) (ha : a < p) (hb : b < p) (hs : singN p a b = false) {n : Nat} (h : ((n : Nat) : Int) ∉ rowsI p a b) (T : Option Tape) : den_lengthened [crvN p a b, .int (n : Nat)] T = .exc bad T := by
  have h0 : 0 < n := by
    rcases Nat.eq_zero_or_pos n with z | z
    · subst z
      exact absurd List.mem_cons_self h
    · exact z
  by_cases hx : (n - 1) / 2 < p
  · rw [len_den hp ha hb hs h0 hx T]
    cases e : look p a b ((n - 1) / 2) ((n - 1) % 2) with
    | none => rfl
    | some y =>
      unfold look at e
      have h1 := List.find?_some e
      have h2 := List.mem_of_find?_eq_some e
      have h1 := natBeq.mp h1
      refine absurd (List.mem_cons_of_mem _ (List.mem_map.mpr ⟨((n - 1) / 2, y), mem_prs.mpr ⟨List.mem_range.mpr hx, h2⟩, ?_⟩)) h
      show ((rowN ((n - 1) / 2) y : Nat) : Int) = n
      unfold rowN
      omega
  · exact len_far hp ha hb hs h0 (by omega) T
end K59

set_option maxHeartbeats 2000000
namespace K59
open PySem PySem.Spec PyProof.Rows L2 DD
theorem prime_den (r : Nat) (T : Option Tape) : ∃ p ∈ primes, den_law_prime [.int (r : Nat)] T = .ok (.int (p : Nat)) T := by
  obtain ⟨v, hv, e⟩ := atI_mem (ds := primes.map fun p => D.int (p : Nat)) (i := (r : Int) % 16) (by omega) (by show (r : Int) % 16 < 16; omega)
  obtain ⟨p, hp, rfl⟩ := List.mem_map.mp hv
  refine ⟨p, hp, ?_⟩
  have e' : atI [D.int 5, .int 7, .int 11, .int 13, .int 17, .int 19, .int 23, .int 29, .int 31, .int 37, .int 41, .int 43, .int 47, .int 53, .int 59, .int 61] ((r : Int) % 16) = some (.int (p : Nat)) := e
  simp [den_law_prime, runD_a, body_law_prime_eq, oMod_i, e']
theorem rows_lc {p a b : Nat} (s0 s1 s2 s3 s4 s5 s6 s7 s8 s9 : Sl) (T : Option Tape) : lcD (tgN 10) tYesD ce_law_2 [s0, s1, s2, s3, s4, s5, s6, s7, s8, s9, .un] (pts p a b) [] T = .ok ((pts p a b).map rowF) T := by
  have h := lcD_map (T := T) (f := ce_law_2) (δ := [s0, s1, s2, s3, s4, s5, s6, s7, s8, s9, .un]) 10 rowF (pts p a b) [] (fun d hd T => by
    rcases pts_mem hd with rfl | ⟨x, y, _, _, rfl⟩
    · simp [ce_law_2_eq, rowF]
    · rw [rowF_pt]
      have m2 : oMul (.int 2) (.int (x : Int)) = some (.int (2 * (x : Int))) := oMul_l (by omega) (by omega)
      have e : 2 * (x : Int) + 1 + (y : Int) % 2 = ((rowN x y : Nat) : Int) := by unfold rowN; omega
      have i0 : atI [D.int (x : Nat), .int (y : Nat)] 0 = some (.int (x : Nat)) := rfl
      have i1 : atI [D.int (x : Nat), .int (y : Nat)] 1 = some (.int (y : Nat)) := rfl
      simp [ce_law_2_eq, ptD, i0, i1, m2, oMod_i, e])
  rw [h]
  rfl
section
variable {p a b : Nat} (hp : p ∈ primes) (ha : a < p) (hb : b < p) (hs : singN p a b = false) (s0 s1 s2 s3 s10 : Sl) (T : Option Tape)
/-- the slots behind the rows -/
abbrev st (p a b : Nat) (s0 s1 s2 s3 s7 s8 s9 s10 : Sl) : DEnv := [s0, s1, s2, s3, .val (crvN p a b), .val (.lst (pts p a b)), .val (.lst ((rowsI p a b).map D.int)), s7, s8, s9, s10]
include hp ha hb hs
theorem loop3 (s7 s8 s9 : Sl) : ∃ t7, forD (tgN 7) fb_law_3 ((List.range (pts p a b).length).map fun k => .int (k : Nat)) (st p a b s0 s1 s2 s3 s7 s8 s9 s10) T = .nx (st p a b s0 s1 s2 s3 t7 s8 s9 s10) T := by
  obtain ⟨δ, T', e, ⟨t7, rfl⟩, rfl⟩ := forD_inv (tg := tgN 7) (b := fb_law_3) (P := fun δ T' => (∃ t7, δ = st p a b s0 s1 s2 s3 t7 s8 s9 s10) ∧ T' = T) ((List.range (pts p a b).length).map fun k => .int (k : Nat)) (fun d hd δ T' ⟨⟨t, e⟩, eT⟩ => by
    obtain ⟨k, hk, rfl⟩ := List.mem_map.mp hd
    rw [List.mem_range] at hk
    subst e
    subst eT
    refine ⟨_, tgN_a 7 _, st p a b s0 s1 s2 s3 (.val (.int (k : Nat))) s8 s9 s10, T', .inl ?_, ⟨_, rfl⟩, rfl⟩
    unfold st
    have hm : (pts p a b)[k] ∈ pts p a b := List.getElem_mem hk
    have i1 : atI (pts p a b) ((k : Nat) : Int) = some (pts p a b)[k] := by rw [DD.atI_nat, List.getElem?_eq_getElem hk]
    have i2 : atI ((rowsI p a b).map D.int) ((k : Nat) : Int) = some (rowF (pts p a b)[k]) := by
      rw [DD.atI_nat, ← rows_eq, List.getElem?_map, List.getElem?_eq_getElem hk]
      rfl
    obtain ⟨q1, q2⟩ := pt_row hp ha hb hs hm T'
    have g1 := good_pt hm
    have g2 : good 1 (rowF (pts p a b)[k]) = true := by
      rcases pts_mem hm with z | ⟨x, y, _, _, z⟩
      · rw [z]; simp [rowF]
      · rw [z, rowF_pt]; simp
    generalize (pts p a b)[k] = d at *
    have n1 := oNe_same g1
    have n2 := oNe_same g2
    generalize rowF d = r at *
    generalize crvN p a b = C at *
    generalize pts p a b = L at *
    generalize (rowsI p a b).map D.int = R at *
    simp [fb_law_3_eq, i1, i2, q1, q2, n1, n2]) _ T ⟨⟨s7, rfl⟩, rfl⟩
  exact ⟨t7, e⟩
theorem loop4 (m : Nat) (s7 s8 s9 : Sl) : ∃ t8, forD (tgN 8) fb_law_4 ((List.range m).map fun k => .int (k : Nat)) (st p a b s0 s1 s2 s3 s7 s8 s9 s10) T = .nx (st p a b s0 s1 s2 s3 s7 t8 s9 s10) T := by
  obtain ⟨δ, T', e, ⟨t7, rfl⟩, rfl⟩ := forD_inv (tg := tgN 8) (b := fb_law_4) (P := fun δ T' => (∃ t8, δ = st p a b s0 s1 s2 s3 s7 t8 s9 s10) ∧ T' = T) ((List.range m).map fun k => .int (k : Nat)) (fun d hd δ T' ⟨⟨t, e⟩, eT⟩ => by
    obtain ⟨k, hk, rfl⟩ := List.mem_map.mp hd
    subst e
    subst eT
    refine ⟨_, tgN_a 8 _, st p a b s0 s1 s2 s3 s7 (.val (.int (k : Nat))) s9 s10, T', .inl ?_, ⟨_, rfl⟩, rfl⟩
    unfold st
    have gl : goods 0 ((rowsI p a b).map D.int) = true := goods_iff.mpr fun d hd => by
      obtain ⟨i, _, rfl⟩ := List.mem_map.mp hd
      simp
    have hin := oInA_lst (neg := true) (x := .int (k : Nat)) (n := 0) (good_int 0 _) gl
    have hnone : oNe (.str (PySem.Str.ofString "none")) (.str (PySem.Str.ofString "none")) = some (.bl false) := oNe_same (n := 0) (by rw [DD.good_str]; decide +kernel)
    by_cases hk : ((k : Nat) : Int) ∈ rowsI p a b
    · have : (((rowsI p a b).map D.int).any fun z => qv z (.int (k : Nat))) = true := List.any_eq_true.mpr ⟨_, List.mem_map_of_mem hk, by simp⟩
      rw [this] at hin
      generalize crvN p a b = C at *
      generalize pts p a b = L at *
      generalize (rowsI p a b).map D.int = R at *
      simp [fb_law_4_eq, hin]
    · have : (((rowsI p a b).map D.int).any fun z => qv z (.int (k : Nat))) = false := by
        rw [Bool.eq_false_iff]
        intro z
        obtain ⟨x, hx, e⟩ := List.any_eq_true.mp z
        obtain ⟨i, hi, rfl⟩ := List.mem_map.mp hx
        rw [qv_int, decide_eq_true_eq] at e
        exact hk (e ▸ hi)
      rw [this] at hin
      have q := told_exc (no_row hp ha hb hs hk T')
      generalize crvN p a b = C at *
      generalize pts p a b = L at *
      generalize (rowsI p a b).map D.int = R at *
      simp [fb_law_4_eq, hin, q, hnone]) _ T ⟨⟨s8, rfl⟩, rfl⟩
  exact ⟨t7, e⟩
theorem loop5 (s7 s8 s9 : Sl) : ∃ t9, forD (tgN 9) fb_law_5 [.int (-1), .non, .bl true, .str (PySem.Str.ofString "1"), .tup [.int 1, .int 2]] (st p a b s0 s1 s2 s3 s7 s8 s9 s10) T = .nx (st p a b s0 s1 s2 s3 s7 s8 t9 s10) T := by
  obtain ⟨δ, T', e, ⟨t7, rfl⟩, rfl⟩ := forD_inv (tg := tgN 9) (b := fb_law_5) (P := fun δ T' => (∃ t9, δ = st p a b s0 s1 s2 s3 s7 s8 t9 s10) ∧ T' = T) [.int (-1), .non, .bl true, .str (PySem.Str.ofString "1"), .tup [.int 1, .int 2]] (fun d hd δ T' ⟨⟨t, e⟩, eT⟩ => by
    subst e
    subst eT
    refine ⟨_, tgN_a 9 _, st p a b s0 s1 s2 s3 s7 s8 (.val d) s10, T', .inl ?_, ⟨_, rfl⟩, rfl⟩
    unfold st
    have hnone : oNe (.str (PySem.Str.ofString "none")) (.str (PySem.Str.ofString "none")) = some (.bl false) := oNe_same (n := 0) (by rw [DD.good_str]; decide +kernel)
    have q := told_exc (len_no hp ha hb hs hd T')
    generalize crvN p a b = C at *
    generalize pts p a b = L at *
    generalize (rowsI p a b).map D.int = R at *
    simp [fb_law_5_eq, q, hnone]) _ T ⟨⟨s9, rfl⟩, rfl⟩
  exact ⟨t7, e⟩
end
theorem turn (ns : List Int) (k : Nat) (hk : k < 2) (s2 s3 s4 s5 s6 s7 s8 s9 s10 : Sl) (T : Option Tape) : ∃ t2 t3 t4 t5 t6 t7 t8 t9 t10, fb_law_1 [.val (.scr ns), .val (.int (k : Nat)), s2, s3, s4, s5, s6, s7, s8, s9, s10] T = .nx [.val (.scr ns), .val (.int (k : Nat)), t2, t3, t4, t5, t6, t7, t8, t9, t10] T := by
  obtain ⟨c, hc, e1⟩ := cell_den ns k T
  obtain ⟨r, hr, e2⟩ := rich_den c k hc (by omega) T
  have e1 : den_law_cell [.scr ns, .int (k : Nat)] T = .ok (.int (c : Nat)) T := e1
  have e2 : den_law_rich [.int (c : Nat), .int (k : Nat)] T = .ok (.int (r : Nat)) T := e2
  obtain ⟨p, hp, e3⟩ := prime_den r T
  obtain ⟨a, b, ha, hb, hs, e4⟩ := curve_den hp (r / 16) T
  obtain ⟨h5, h61⟩ := primes_small p hp
  have e5 : den_law_points [crvN p a b] T = .ok (.lst (pts p a b)) T := lpoints_den hp ha hb T
  have e6 := fun s0 s1 s2 s3 s4 s5 s6 s7 s8 s9 => rows_lc (p := p) (a := a) (b := b) s0 s1 s2 s3 s4 s5 s6 s7 s8 s9 T
  rw [rows_eq] at e6
  have pl := pts_len (a := a) (b := b) hp
  have rl : (rowsI p a b).length = (pts p a b).length := by
    have := congrArg List.length (rows_eq p a b)
    rw [List.length_map, List.length_map] at this
    omega
  have e7 := oSetLen_ints (ns := rowsI p a b) (by omega)
  rw [ded_nodup (rowsI_nodup hp), rl] at e7
  obtain ⟨t7, e8⟩ := loop3 hp ha hb hs (.val (.scr ns)) (.val (.int (k : Nat))) (.val (.int (r : Nat))) (.val (.int (p : Nat))) s10 T s7 s8 s9
  obtain ⟨t8, e9⟩ := loop4 hp ha hb hs (.val (.scr ns)) (.val (.int (k : Nat))) (.val (.int (r : Nat))) (.val (.int (p : Nat))) s10 T (2 * p + 5) t7 s8 s9
  obtain ⟨t9, e10⟩ := loop5 hp ha hb hs (.val (.scr ns)) (.val (.int (k : Nat))) (.val (.int (r : Nat))) (.val (.int (p : Nat))) s10 T t7 t8 s9
  obtain ⟨v, hv, e11⟩ := atI_mem (ds := [.tup [.int (p : Nat), .int 0], .tup [.int 0, .int (-1)], .str (PySem.Str.ofString "None"), .int 0, .tup [.int 1], .lst [.int 0, .int 1]]) (i := (r : Int) / 11 % 6) (by omega) (by show (r : Int) / 11 % 6 < 6; omega)
  have e12 := ref_no (a := a) (b := b) hp hv T
  have rg1 : rOk (((pts p a b).length : Nat) : Int) = true := rOk_i (by omega) (by omega)
  have rg2 : rOk (2 * (p : Int) + 5) = true := rOk_i (by omega) (by omega)
  have nt : (2 * (p : Int) + 5).toNat = 2 * p + 5 := by omega
  have m2 : oMul (.int 2) (.int (p : Int)) = some (.int (2 * (p : Int))) := oMul_l (by omega) (by omega)
  have d1 : oDiv (.int (r : Nat)) (.int 16) = some (.int ((r : Int) / 16)) := oDiv_i (by omega) (by omega)
  have e4 : den_law_curve [.int ((r : Int) / 16), .int (p : Nat)] T = .ok (crvN p a b) T := e4
  have d2 : oDiv (.int (r : Nat)) (.int 11) = some (.int ((r : Int) / 11)) := oDiv_i (by omega) (by omega)
  have hl : (pts p a b).length < line := Nat.lt_trans (show _ < 15000 by omega) (by decide)
  rw [← rng_eq] at e8 e9
  unfold st at e8 e9 e10
  have rl' : ((rowsI p a b).map D.int).length = (pts p a b).length := by rw [List.length_map, rl]
  refine ⟨.val (.int (r : Nat)), .val (.int (p : Nat)), .val (crvN p a b), .val (.lst (pts p a b)), .val (.lst ((rowsI p a b).map D.int)), t7, t8, t9, s10, ?_⟩
  generalize crvN p a b = C at *
  generalize pts p a b = L at *
  generalize (rowsI p a b).map D.int = R at *
  simp [fb_law_1_eq, e1, e2, e3, d1, e4, e5, hl, e6, e7, rl', rng1_ok rg1, e8, m2, rng1_ok rg2, nt, e9, e10, d2, oMod_i, e11, e12, frz_own]
theorem law_true : ∀ ns : List Int, ns.length ≤ 63 → ∃ T, den_law [.scr ns] none = .ok (.bl true) T := fun ns _ => by
  obtain ⟨δ, T', e, h1, h2⟩ := forD_inv (tg := tgN 1) (b := fb_law_1) (P := fun δ T' => (∃ s1 s2 s3 s4 s5 s6 s7 s8 s9 s10, δ = [.val (.scr ns), s1, s2, s3, s4, s5, s6, s7, s8, s9, s10]) ∧ T' = none) (rng 0 1 2) (fun d hd δ T' ⟨⟨s1, s2, s3, s4, s5, s6, s7, s8, s9, s10, e⟩, eT⟩ => by
    rw [rng_eq] at hd
    obtain ⟨k, hk, rfl⟩ := List.mem_map.mp hd
    subst e
    subst eT
    obtain ⟨t2, t3, t4, t5, t6, t7, t8, t9, t10, h⟩ := turn ns k (List.mem_range.mp hk) s2 s3 s4 s5 s6 s7 s8 s9 s10 none
    exact ⟨_, tgN_a 1 _, _, _, .inl h, ⟨_, _, _, _, _, _, _, _, _, _, rfl⟩, rfl⟩) ([.val (.scr ns), .un, .un, .un, .un, .un, .un, .un, .un, .un, .un]) none ⟨⟨_, _, _, _, _, _, _, _, _, _, rfl⟩, rfl⟩
  subst h2
  refine ⟨none, ?_⟩
  have r2 : rng1 [.int 2] = some (rng 0 1 2) := rfl
  simp [den_law, runD_a, body_law_eq, r2, e]
end K59

namespace K59
open PySem PySem.Spec PyProof.Rows L2 DD
theorem all_mk {l : PySem.W.OpenLaw} {w : World} {K : PySem.W.Frag} {h : Heap} {mg : Str → Option Value} {fa : Addr} (X : K.In h) (G : h.Ns mainGlobals mg) (hfa : mg "law" = some (.ref fa))
    {od0 an0 : Option Addr} {sl0 : Array (Option Value)} {oc0 kV0 dc0 pm0 cd0 ct0 : Value} {f0 : Addr}
    {od1 an1 : Option Addr} {sl1 : Array (Option Value)} {oc1 kV1 dc1 pm1 cd1 ct1 : Value} {f1 : Addr}
    {od2 an2 : Option Addr} {sl2 : Array (Option Value)} {oc2 kV2 dc2 pm2 cd2 ct2 : Value} {f2 : Addr}
    {od3 an3 : Option Addr} {sl3 : Array (Option Value)} {oc3 kV3 dc3 pm3 cd3 ct3 : Value} {f3 : Addr}
    {od4 an4 : Option Addr} {sl4 : Array (Option Value)} {oc4 kV4 dc4 pm4 cd4 ct4 : Value} {f4 : Addr}
    {od5 an5 : Option Addr} {sl5 : Array (Option Value)} {oc5 kV5 dc5 pm5 cd5 ct5 : Value} {f5 : Addr}
    {od6 an6 : Option Addr} {sl6 : Array (Option Value)} {oc6 kV6 dc6 pm6 cd6 ct6 : Value} {f6 : Addr}
    {od7 an7 : Option Addr} {sl7 : Array (Option Value)} {oc7 kV7 dc7 pm7 cd7 ct7 : Value} {f7 : Addr}
    {od8 an8 : Option Addr} {sl8 : Array (Option Value)} {oc8 kV8 dc8 pm8 cd8 ct8 : Value} {f8 : Addr}
    {od9 an9 : Option Addr} {sl9 : Array (Option Value)} {oc9 kV9 dc9 pm9 cd9 ct9 : Value} {f9 : Addr}
    {od10 an10 : Option Addr} {sl10 : Array (Option Value)} {oc10 kV10 dc10 pm10 cd10 ct10 : Value} {f10 : Addr}
    {od11 an11 : Option Addr} {sl11 : Array (Option Value)} {oc11 kV11 dc11 pm11 cd11 ct11 : Value} {f11 : Addr}
    {od12 an12 : Option Addr} {sl12 : Array (Option Value)} {oc12 kV12 dc12 pm12 cd12 ct12 : Value} {f12 : Addr}
    {od13 an13 : Option Addr} {sl13 : Array (Option Value)} {oc13 kV13 dc13 pm13 cd13 ct13 : Value} {f13 : Addr}
    {od14 an14 : Option Addr} {sl14 : Array (Option Value)} {oc14 kV14 dc14 pm14 cd14 ct14 : Value} {f14 : Addr}
    {od15 an15 : Option Addr} {sl15 : Array (Option Value)} {oc15 kV15 dc15 pm15 cd15 ct15 : Value} {f15 : Addr}
    {od16 an16 : Option Addr} {sl16 : Array (Option Value)} {oc16 kV16 dc16 pm16 cd16 ct16 : Value} {f16 : Addr}
    {od17 an17 : Option Addr} {sl17 : Array (Option Value)} {oc17 kV17 dc17 pm17 cd17 ct17 : Value} {f17 : Addr}
    {od18 an18 : Option Addr} {sl18 : Array (Option Value)} {oc18 kV18 dc18 pm18 cd18 ct18 : Value} {f18 : Addr}
    {od19 an19 : Option Addr} {sl19 : Array (Option Value)} {oc19 kV19 dc19 pm19 cd19 ct19 : Value} {f19 : Addr}
    {od20 an20 : Option Addr} {sl20 : Array (Option Value)} {oc20 kV20 dc20 pm20 cd20 ct20 : Value} {f20 : Addr}
    {od21 an21 : Option Addr} {sl21 : Array (Option Value)} {oc21 kV21 dc21 pm21 cd21 ct21 : Value} {f21 : Addr}
    {od22 an22 : Option Addr} {sl22 : Array (Option Value)} {oc22 kV22 dc22 pm22 cd22 ct22 : Value} {f22 : Addr}
    {od23 an23 : Option Addr} {sl23 : Array (Option Value)} {oc23 kV23 dc23 pm23 cd23 ct23 : Value} {f23 : Addr}
    {od24 an24 : Option Addr} {sl24 : Array (Option Value)} {oc24 kV24 dc24 pm24 cd24 ct24 : Value} {f24 : Addr}
    {C_BadCurve : Addr}
    {C_BadNumber : Addr}
    {C_BadPoint : Addr}
    {nm_BadCurve q_BadCurve : Str} {N_BadCurve : Addr} {bs_BadCurve bm_BadCurve : List Value} {sn_BadCurve : List Str} {sub_BadCurve : List Value} {ab_BadCurve : Bool} {col_BadCurve : Option Bool} {dd_BadCurve : Option Addr} {m0_BadCurve m1_BadCurve m2_BadCurve m3_BadCurve m5_BadCurve : Option Value} {fi_BadCurve : Addr} {odi_BadCurve ani_BadCurve : Option Addr} {sli_BadCurve : Array (Option Value)} {oci_BadCurve kVi_BadCurve dci_BadCurve pmi_BadCurve cdi_BadCurve cti_BadCurve : Value}
    {t_LEAST_PRIME : Tok}
    {t_MOST_PRIME : Tok}
    {t_MOST_TRIED : Tok}
    (a0 : PySem.W.nsIn K mainGlobals "_law_rich" = some (some (.ref f0))) (l0 : K.lookup f0 = some ⟨oc0, od0, .func (PySem.W.fnOf "_law_rich" "_law_rich" (defArgs st_law_rich) (defBody st_law_rich) (defScope st_law_rich) .none kV0 dc0 pm0 an0 cd0 ct0), sl0⟩) (c0 : PySem.W.codeIn K cd0 "_law_rich" = true) (k0 : PySem.W.keepIn K (.ref f0) = true)
    (a1 : PySem.W.nsIn K mainGlobals "_law_prime" = some (some (.ref f1))) (l1 : K.lookup f1 = some ⟨oc1, od1, .func (PySem.W.fnOf "_law_prime" "_law_prime" (defArgs st_law_prime) (defBody st_law_prime) (defScope st_law_prime) .none kV1 dc1 pm1 an1 cd1 ct1), sl1⟩) (c1 : PySem.W.codeIn K cd1 "_law_prime" = true) (k1 : PySem.W.keepIn K (.ref f1) = true)
    (a2 : PySem.W.nsIn K mainGlobals "_law_curve" = some (some (.ref f2))) (l2 : K.lookup f2 = some ⟨oc2, od2, .func (PySem.W.fnOf "_law_curve" "_law_curve" (defArgs st_law_curve) (defBody st_law_curve) (defScope st_law_curve) .none kV2 dc2 pm2 an2 cd2 ct2), sl2⟩) (c2 : PySem.W.codeIn K cd2 "_law_curve" = true) (k2 : PySem.W.keepIn K (.ref f2) = true)
    (a3 : PySem.W.nsIn K mainGlobals "_law_points" = some (some (.ref f3))) (l3 : K.lookup f3 = some ⟨oc3, od3, .func (PySem.W.fnOf "_law_points" "_law_points" (defArgs st_law_points) (defBody st_law_points) (defScope st_law_points) .none kV3 dc3 pm3 an3 cd3 ct3), sl3⟩) (c3 : PySem.W.codeIn K cd3 "_law_points" = true) (k3 : PySem.W.keepIn K (.ref f3) = true)
    (a4 : PySem.W.nsIn K mainGlobals "_law_cell" = some (some (.ref f4))) (l4 : K.lookup f4 = some ⟨oc4, od4, .func (PySem.W.fnOf "_law_cell" "_law_cell" (defArgs st_law_cell) (defBody st_law_cell) (defScope st_law_cell) .none kV4 dc4 pm4 an4 cd4 ct4), sl4⟩) (c4 : PySem.W.codeIn K cd4 "_law_cell" = true) (k4 : PySem.W.keepIn K (.ref f4) = true)
    (a5 : PySem.W.nsIn K mainGlobals "right_side" = some (some (.ref f5))) (l5 : K.lookup f5 = some ⟨oc5, od5, .func (PySem.W.fnOf "right_side" "right_side" (defArgs st_right_side) (defBody st_right_side) (defScope st_right_side) .none kV5 dc5 pm5 an5 cd5 ct5), sl5⟩) (c5 : PySem.W.codeIn K cd5 "right_side" = true) (k5 : PySem.W.keepIn K (.ref f5) = true)
    (a6 : PySem.W.nsIn K mainGlobals "is_integer" = some (some (.ref f6))) (l6 : K.lookup f6 = some ⟨oc6, od6, .func (PySem.W.fnOf "is_integer" "is_integer" (defArgs st_is_integer) (defBody st_is_integer) (defScope st_is_integer) .none kV6 dc6 pm6 an6 cd6 ct6), sl6⟩) (c6 : PySem.W.codeIn K cd6 "is_integer" = true) (k6 : PySem.W.keepIn K (.ref f6) = true)
    (a7 : PySem.W.nsIn K mainGlobals "is_point" = some (some (.ref f7))) (l7 : K.lookup f7 = some ⟨oc7, od7, .func (PySem.W.fnOf "is_point" "is_point" (defArgs st_is_point) (defBody st_is_point) (defScope st_is_point) .none kV7 dc7 pm7 an7 cd7 ct7), sl7⟩) (c7 : PySem.W.codeIn K cd7 "is_point" = true) (k7 : PySem.W.keepIn K (.ref f7) = true)
    (a8 : PySem.W.nsIn K mainGlobals "check_point" = some (some (.ref f8))) (l8 : K.lookup f8 = some ⟨oc8, od8, .func (PySem.W.fnOf "check_point" "check_point" (defArgs st_check_point) (defBody st_check_point) (defScope st_check_point) .none kV8 dc8 pm8 an8 cd8 ct8), sl8⟩) (c8 : PySem.W.codeIn K cd8 "check_point" = true) (k8 : PySem.W.keepIn K (.ref f8) = true)
    (a9 : PySem.W.nsIn K mainGlobals "shortened" = some (some (.ref f9))) (l9 : K.lookup f9 = some ⟨oc9, od9, .func (PySem.W.fnOf "shortened" "shortened" (defArgs st_shortened) (defBody st_shortened) (defScope st_shortened) .none kV9 dc9 pm9 an9 cd9 ct9), sl9⟩) (c9 : PySem.W.codeIn K cd9 "shortened" = true) (k9 : PySem.W.keepIn K (.ref f9) = true)
    (a10 : PySem.W.nsIn K mainGlobals "_law_refused" = some (some (.ref f10))) (l10 : K.lookup f10 = some ⟨oc10, od10, .func (PySem.W.fnOf "_law_refused" "_law_refused" (defArgs st_law_refused) (defBody st_law_refused) (defScope st_law_refused) .none kV10 dc10 pm10 an10 cd10 ct10), sl10⟩) (c10 : PySem.W.codeIn K cd10 "_law_refused" = true) (k10 : PySem.W.keepIn K (.ref f10) = true)
    (a11 : PySem.W.nsIn K mainGlobals "singular" = some (some (.ref f11))) (l11 : K.lookup f11 = some ⟨oc11, od11, .func (PySem.W.fnOf "singular" "singular" (defArgs st_singular) (defBody st_singular) (defScope st_singular) .none kV11 dc11 pm11 an11 cd11 ct11), sl11⟩) (c11 : PySem.W.codeIn K cd11 "singular" = true) (k11 : PySem.W.keepIn K (.ref f11) = true)
    (a12 : PySem.W.nsIn K mainGlobals "least_factor" = some (some (.ref f12))) (l12 : K.lookup f12 = some ⟨oc12, od12, .func (PySem.W.fnOf "least_factor" "least_factor" (defArgs st_least_factor) (defBody st_least_factor) (defScope st_least_factor) .none kV12 dc12 pm12 an12 cd12 ct12), sl12⟩) (c12 : PySem.W.codeIn K cd12 "least_factor" = true) (k12 : PySem.W.keepIn K (.ref f12) = true)
    (a13 : PySem.W.nsIn K mainGlobals "whole_root" = some (some (.ref f13))) (l13 : K.lookup f13 = some ⟨oc13, od13, .func (PySem.W.fnOf "whole_root" "whole_root" (defArgs st_whole_root) (defBody st_whole_root) (defScope st_whole_root) .none kV13 dc13 pm13 an13 cd13 ct13), sl13⟩) (c13 : PySem.W.codeIn K cd13 "whole_root" = true) (k13 : PySem.W.keepIn K (.ref f13) = true)
    (a14 : PySem.W.nsIn K mainGlobals "is_prime" = some (some (.ref f14))) (l14 : K.lookup f14 = some ⟨oc14, od14, .func (PySem.W.fnOf "is_prime" "is_prime" (defArgs st_is_prime) (defBody st_is_prime) (defScope st_is_prime) .none kV14 dc14 pm14 an14 cd14 ct14), sl14⟩) (c14 : PySem.W.codeIn K cd14 "is_prime" = true) (k14 : PySem.W.keepIn K (.ref f14) = true)
    (a15 : PySem.W.nsIn K mainGlobals "is_good_prime" = some (some (.ref f15))) (l15 : K.lookup f15 = some ⟨oc15, od15, .func (PySem.W.fnOf "is_good_prime" "is_good_prime" (defArgs st_is_good_prime) (defBody st_is_good_prime) (defScope st_is_good_prime) .none kV15 dc15 pm15 an15 cd15 ct15), sl15⟩) (c15 : PySem.W.codeIn K cd15 "is_good_prime" = true) (k15 : PySem.W.keepIn K (.ref f15) = true)
    (a16 : PySem.W.nsIn K mainGlobals "check_curve" = some (some (.ref f16))) (l16 : K.lookup f16 = some ⟨oc16, od16, .func (PySem.W.fnOf "check_curve" "check_curve" (defArgs st_check_curve) (defBody st_check_curve) (defScope st_check_curve) .none kV16 dc16 pm16 an16 cd16 ct16), sl16⟩) (c16 : PySem.W.codeIn K cd16 "check_curve" = true) (k16 : PySem.W.keepIn K (.ref f16) = true)
    (a17 : PySem.W.nsIn K mainGlobals "power" = some (some (.ref f17))) (l17 : K.lookup f17 = some ⟨oc17, od17, .func (PySem.W.fnOf "power" "power" (defArgs st_power) (defBody st_power) (defScope st_power) .none kV17 dc17 pm17 an17 cd17 ct17), sl17⟩) (c17 : PySem.W.codeIn K cd17 "power" = true) (k17 : PySem.W.keepIn K (.ref f17) = true)
    (a18 : PySem.W.nsIn K mainGlobals "jacobi" = some (some (.ref f18))) (l18 : K.lookup f18 = some ⟨oc18, od18, .func (PySem.W.fnOf "jacobi" "jacobi" (defArgs st_jacobi) (defBody st_jacobi) (defScope st_jacobi) .none kV18 dc18 pm18 an18 cd18 ct18), sl18⟩) (c18 : PySem.W.codeIn K cd18 "jacobi" = true) (k18 : PySem.W.keepIn K (.ref f18) = true)
    (a19 : PySem.W.nsIn K mainGlobals "nonsquare" = some (some (.ref f19))) (l19 : K.lookup f19 = some ⟨oc19, od19, .func (PySem.W.fnOf "nonsquare" "nonsquare" (defArgs st_nonsquare) (defBody st_nonsquare) (defScope st_nonsquare) .none kV19 dc19 pm19 an19 cd19 ct19), sl19⟩) (c19 : PySem.W.codeIn K cd19 "nonsquare" = true) (k19 : PySem.W.keepIn K (.ref f19) = true)
    (a20 : PySem.W.nsIn K mainGlobals "root" = some (some (.ref f20))) (l20 : K.lookup f20 = some ⟨oc20, od20, .func (PySem.W.fnOf "root" "root" (defArgs st_root) (defBody st_root) (defScope st_root) .none kV20 dc20 pm20 an20 cd20 ct20), sl20⟩) (c20 : PySem.W.codeIn K cd20 "root" = true) (k20 : PySem.W.keepIn K (.ref f20) = true)
    (a21 : PySem.W.nsIn K mainGlobals "lifted" = some (some (.ref f21))) (l21 : K.lookup f21 = some ⟨oc21, od21, .func (PySem.W.fnOf "lifted" "lifted" (defArgs st_lifted) (defBody st_lifted) (defScope st_lifted) .none kV21 dc21 pm21 an21 cd21 ct21), sl21⟩) (c21 : PySem.W.codeIn K cd21 "lifted" = true) (k21 : PySem.W.keepIn K (.ref f21) = true)
    (a22 : PySem.W.nsIn K mainGlobals "lengthened" = some (some (.ref f22))) (l22 : K.lookup f22 = some ⟨oc22, od22, .func (PySem.W.fnOf "lengthened" "lengthened" (defArgs st_lengthened) (defBody st_lengthened) (defScope st_lengthened) .none kV22 dc22 pm22 an22 cd22 ct22), sl22⟩) (c22 : PySem.W.codeIn K cd22 "lengthened" = true) (k22 : PySem.W.keepIn K (.ref f22) = true)
    (a23 : PySem.W.nsIn K mainGlobals "_law_told" = some (some (.ref f23))) (l23 : K.lookup f23 = some ⟨oc23, od23, .func (PySem.W.fnOf "_law_told" "_law_told" (defArgs st_law_told) (defBody st_law_told) (defScope st_law_told) .none kV23 dc23 pm23 an23 cd23 ct23), sl23⟩) (c23 : PySem.W.codeIn K cd23 "_law_told" = true) (k23 : PySem.W.keepIn K (.ref f23) = true)
    (a24 : PySem.W.nsIn K mainGlobals "law" = some (some (.ref f24))) (l24 : K.lookup f24 = some ⟨oc24, od24, .func (PySem.W.fnOf "law" "law" (defArgs st_law) (defBody st_law) (defScope st_law) .none kV24 dc24 pm24 an24 cd24 ct24), sl24⟩) (c24 : PySem.W.codeIn K cd24 "law" = true) (k24 : PySem.W.keepIn K (.ref f24) = true)
    (aC_BadCurve : PySem.W.nsIn K mainGlobals "BadCurve" = some (some (.ref C_BadCurve))) (kC_BadCurve : PySem.W.keepIn K (.ref C_BadCurve) = true) (eC_BadCurve : PySem.W.subIn K (.ref C_BadCurve) (.type "BaseException") = some true) (tC_BadCurve : PySem.W.typeIn K (.ref C_BadCurve) = some (.type "type")) (iC_BadCurve : PySem.W.isClsIn K C_BadCurve = true)
    (aC_BadNumber : PySem.W.nsIn K mainGlobals "BadNumber" = some (some (.ref C_BadNumber))) (kC_BadNumber : PySem.W.keepIn K (.ref C_BadNumber) = true) (eC_BadNumber : PySem.W.subIn K (.ref C_BadNumber) (.type "BaseException") = some true) (tC_BadNumber : PySem.W.typeIn K (.ref C_BadNumber) = some (.type "type")) (iC_BadNumber : PySem.W.isClsIn K C_BadNumber = true)
    (aC_BadPoint : PySem.W.nsIn K mainGlobals "BadPoint" = some (some (.ref C_BadPoint))) (kC_BadPoint : PySem.W.keepIn K (.ref C_BadPoint) = true) (eC_BadPoint : PySem.W.subIn K (.ref C_BadPoint) (.type "BaseException") = some true) (tC_BadPoint : PySem.W.typeIn K (.ref C_BadPoint) = some (.type "type")) (iC_BadPoint : PySem.W.isClsIn K C_BadPoint = true)
    (xL_BadCurve : K.lookup C_BadCurve = some (excClassObj nm_BadCurve q_BadCurve C_BadCurve N_BadCurve bs_BadCurve bm_BadCurve true sn_BadCurve sub_BadCurve ab_BadCurve col_BadCurve dd_BadCurve m0_BadCurve m1_BadCurve m2_BadCurve m3_BadCurve m5_BadCurve "ValueError.__new__")) (rB_BadCurve : PySem.HandSPX.refsVE bm_BadCurve = true) (sa_BadCurve : PySem.W.findIn K (.ref C_BadCurve) "__setattr__" = some (some (.builtin "object.__setattr__"))) (ga_BadCurve : PySem.W.findIn K (.ref C_BadCurve) "__getattribute__" = some (some (.builtin "BaseException.__getattribute__"))) (gg_BadCurve : PySem.W.findIn K (.ref C_BadCurve) "__getattr__" = some none) (nb_BadCurve : PySem.W.findIn K (.ref C_BadCurve) "reason" = some none) (ai_BadCurve : PySem.W.findIn K (.ref C_BadCurve) "__init__" = some (some (.ref fi_BadCurve))) (ti_BadCurve : PySem.W.typeIn K (.ref fi_BadCurve) = some (.type "function")) (li_BadCurve : K.lookup fi_BadCurve = some ⟨oci_BadCurve, odi_BadCurve, .func (PySem.W.fnOf "__init__" "BadCurve.__init__" (defArgs st_init_BadCurve) (defBody st_init_BadCurve) (defScope st_init_BadCurve) .none kVi_BadCurve dci_BadCurve pmi_BadCurve ani_BadCurve cdi_BadCurve cti_BadCurve), sli_BadCurve⟩) (ci_BadCurve : PySem.W.codeIn K cdi_BadCurve "BadCurve.__init__" = true) (ki_BadCurve : PySem.W.keepIn K (.ref fi_BadCurve) = true) (hC_BadCurve : PySem.W.hasDictIn K C_BadCurve = true)
    (xC_BadNumber : PySem.W.excIn K C_BadNumber veb "ValueError.__new__" = true)
    (xC_BadPoint : PySem.W.excIn K C_BadPoint veb "ValueError.__new__" = true)
    (z_abs : PySem.W.nsIn K mainGlobals "abs" = some none)
    (z_all : PySem.W.nsIn K mainGlobals "all" = some none)
    (z_bool : PySem.W.nsIn K mainGlobals "bool" = some none)
    (z_int : PySem.W.nsIn K mainGlobals "int" = some none)
    (z_isinstance : PySem.W.nsIn K mainGlobals "isinstance" = some none)
    (z_len : PySem.W.nsIn K mainGlobals "len" = some none)
    (z_min : PySem.W.nsIn K mainGlobals "min" = some none)
    (z_range : PySem.W.nsIn K mainGlobals "range" = some none)
    (z_set : PySem.W.nsIn K mainGlobals "set" = some none)
    (z_str : PySem.W.nsIn K mainGlobals "str" = some none)
    (z_tuple : PySem.W.nsIn K mainGlobals "tuple" = some none)
    (g_LEAST_PRIME : PySem.W.nsIn K mainGlobals "LEAST_PRIME" = some (some (.int 5 t_LEAST_PRIME)))
    (g_MOST_PRIME : PySem.W.nsIn K mainGlobals "MOST_PRIME" = some (some (.int 1000000000 t_MOST_PRIME)))
    (g_MOST_TRIED : PySem.W.nsIn K mainGlobals "MOST_TRIED" = some (some (.int 1000000000000 t_MOST_TRIED)))
    (s_BadPoint_BadCurve : PySem.W.subIn K (.ref C_BadCurve) (.ref C_BadPoint) = some false)
    (s_BadPoint_BadNumber : PySem.W.subIn K (.ref C_BadNumber) (.ref C_BadPoint) = some false)
    (s_BadPoint_BadPoint : PySem.W.subIn K (.ref C_BadPoint) (.ref C_BadPoint) = some true)
    : ∃ fd : FuncData, (∀ (s : Shared) (u : Value), BindsTo s fd ⟨[u], []⟩ [("script", u)]) ∧ ∀ base : Heap, K.In base → base.Ns mainGlobals mg → FnOk l.prog w K mg base (L2.CX l.prog w) 7 fa fd ["script"] (spLaw K) := by
  have T : Top K mg := {
    d_law_rich := ⟨f0, _, fun_mk (st := st_law_rich) l0 c0 k0, (fun_mk (st := st_law_rich) l0 c0 k0).binds (ps := ["cell", "k"]) fun _ _ _ _ _ _ us hl => match us, hl with | [_, _], _ => rfl, PySem.W.mg_of X G a0⟩
    d_law_prime := ⟨f1, _, fun_mk (st := st_law_prime) l1 c1 k1, (fun_mk (st := st_law_prime) l1 c1 k1).binds (ps := ["rich"]) fun _ _ _ _ _ _ us hl => match us, hl with | [_], _ => rfl, PySem.W.mg_of X G a1⟩
    d_law_curve := ⟨f2, _, fun_mk (st := st_law_curve) l2 c2 k2, (fun_mk (st := st_law_curve) l2 c2 k2).binds (ps := ["rich", "p"]) fun _ _ _ _ _ _ us hl => match us, hl with | [_, _], _ => rfl, PySem.W.mg_of X G a2⟩
    d_law_points := ⟨f3, _, fun_mk (st := st_law_points) l3 c3 k3, (fun_mk (st := st_law_points) l3 c3 k3).binds (ps := ["curve"]) fun _ _ _ _ _ _ us hl => match us, hl with | [_], _ => rfl, PySem.W.mg_of X G a3⟩
    d_law_cell := ⟨f4, _, fun_mk (st := st_law_cell) l4 c4 k4, (fun_mk (st := st_law_cell) l4 c4 k4).binds (ps := ["script", "k"]) fun _ _ _ _ _ _ us hl => match us, hl with | [_, _], _ => rfl, PySem.W.mg_of X G a4⟩
    d_right_side := ⟨f5, _, fun_mk (st := st_right_side) l5 c5 k5, (fun_mk (st := st_right_side) l5 c5 k5).binds (ps := ["curve", "x"]) fun _ _ _ _ _ _ us hl => match us, hl with | [_, _], _ => rfl, PySem.W.mg_of X G a5⟩
    d_is_integer := ⟨f6, _, fun_mk (st := st_is_integer) l6 c6 k6, (fun_mk (st := st_is_integer) l6 c6 k6).binds (ps := ["value"]) fun _ _ _ _ _ _ us hl => match us, hl with | [_], _ => rfl, PySem.W.mg_of X G a6⟩
    d_is_point := ⟨f7, _, fun_mk (st := st_is_point) l7 c7 k7, (fun_mk (st := st_is_point) l7 c7 k7).binds (ps := ["curve", "value"]) fun _ _ _ _ _ _ us hl => match us, hl with | [_, _], _ => rfl, PySem.W.mg_of X G a7⟩
    d_check_point := ⟨f8, _, fun_mk (st := st_check_point) l8 c8 k8, (fun_mk (st := st_check_point) l8 c8 k8).binds (ps := ["curve", "value"]) fun _ _ _ _ _ _ us hl => match us, hl with | [_, _], _ => rfl, PySem.W.mg_of X G a8⟩
    d_shortened := ⟨f9, _, fun_mk (st := st_shortened) l9 c9 k9, (fun_mk (st := st_shortened) l9 c9 k9).binds (ps := ["curve", "point"]) fun _ _ _ _ _ _ us hl => match us, hl with | [_, _], _ => rfl, PySem.W.mg_of X G a9⟩
    d_law_refused := ⟨f10, _, fun_mk (st := st_law_refused) l10 c10 k10, (fun_mk (st := st_law_refused) l10 c10 k10).binds (ps := ["curve", "value"]) fun _ _ _ _ _ _ us hl => match us, hl with | [_, _], _ => rfl, PySem.W.mg_of X G a10⟩
    d_singular := ⟨f11, _, fun_mk (st := st_singular) l11 c11 k11, (fun_mk (st := st_singular) l11 c11 k11).binds (ps := ["prime", "a", "b"]) fun _ _ _ _ _ _ us hl => match us, hl with | [_, _, _], _ => rfl, PySem.W.mg_of X G a11⟩
    d_least_factor := ⟨f12, _, fun_mk (st := st_least_factor) l12 c12 k12, (fun_mk (st := st_least_factor) l12 c12 k12).binds (ps := ["number", "limit"]) fun _ _ _ _ _ _ us hl => match us, hl with | [_, _], _ => rfl, PySem.W.mg_of X G a12⟩
    d_whole_root := ⟨f13, _, fun_mk (st := st_whole_root) l13 c13 k13, (fun_mk (st := st_whole_root) l13 c13 k13).binds (ps := ["number"]) fun _ _ _ _ _ _ us hl => match us, hl with | [_], _ => rfl, PySem.W.mg_of X G a13⟩
    d_is_prime := ⟨f14, _, fun_mk (st := st_is_prime) l14 c14 k14, (fun_mk (st := st_is_prime) l14 c14 k14).binds (ps := ["number"]) fun _ _ _ _ _ _ us hl => match us, hl with | [_], _ => rfl, PySem.W.mg_of X G a14⟩
    d_is_good_prime := ⟨f15, _, fun_mk (st := st_is_good_prime) l15 c15 k15, (fun_mk (st := st_is_good_prime) l15 c15 k15).binds (ps := ["value"]) fun _ _ _ _ _ _ us hl => match us, hl with | [_], _ => rfl, PySem.W.mg_of X G a15⟩
    d_check_curve := ⟨f16, _, fun_mk (st := st_check_curve) l16 c16 k16, (fun_mk (st := st_check_curve) l16 c16 k16).binds (ps := ["value"]) fun _ _ _ _ _ _ us hl => match us, hl with | [_], _ => rfl, PySem.W.mg_of X G a16⟩
    d_power := ⟨f17, _, fun_mk (st := st_power) l17 c17 k17, (fun_mk (st := st_power) l17 c17 k17).binds (ps := ["base", "exponent", "modulus"]) fun _ _ _ _ _ _ us hl => match us, hl with | [_, _, _], _ => rfl, PySem.W.mg_of X G a17⟩
    d_jacobi := ⟨f18, _, fun_mk (st := st_jacobi) l18 c18 k18, (fun_mk (st := st_jacobi) l18 c18 k18).binds (ps := ["number", "modulus"]) fun _ _ _ _ _ _ us hl => match us, hl with | [_, _], _ => rfl, PySem.W.mg_of X G a18⟩
    d_nonsquare := ⟨f19, _, fun_mk (st := st_nonsquare) l19 c19 k19, (fun_mk (st := st_nonsquare) l19 c19 k19).binds (ps := ["prime"]) fun _ _ _ _ _ _ us hl => match us, hl with | [_], _ => rfl, PySem.W.mg_of X G a19⟩
    d_root := ⟨f20, _, fun_mk (st := st_root) l20 c20 k20, (fun_mk (st := st_root) l20 c20 k20).binds (ps := ["number", "prime"]) fun _ _ _ _ _ _ us hl => match us, hl with | [_, _], _ => rfl, PySem.W.mg_of X G a20⟩
    d_lifted := ⟨f21, _, fun_mk (st := st_lifted) l21 c21 k21, (fun_mk (st := st_lifted) l21 c21 k21).binds (ps := ["curve", "x"]) fun _ _ _ _ _ _ us hl => match us, hl with | [_, _], _ => rfl, PySem.W.mg_of X G a21⟩
    d_lengthened := ⟨f22, _, fun_mk (st := st_lengthened) l22 c22 k22, (fun_mk (st := st_lengthened) l22 c22 k22).binds (ps := ["curve", "number"]) fun _ _ _ _ _ _ us hl => match us, hl with | [_, _], _ => rfl, PySem.W.mg_of X G a22⟩
    d_law_told := ⟨f23, _, fun_mk (st := st_law_told) l23 c23 k23, (fun_mk (st := st_law_told) l23 c23 k23).binds (ps := ["curve", "number"]) fun _ _ _ _ _ _ us hl => match us, hl with | [_, _], _ => rfl, PySem.W.mg_of X G a23⟩
    d_law := ⟨f24, _, fun_mk (st := st_law) l24 c24 k24, (fun_mk (st := st_law) l24 c24 k24).binds (ps := ["script"]) fun _ _ _ _ _ _ us hl => match us, hl with | [_], _ => rfl, PySem.W.mg_of X G a24⟩
    i_BadCurve := ⟨C_BadCurve, fi_BadCurve, _, { O := { cls := ⟨nm_BadCurve, q_BadCurve, N_BadCurve, bs_BadCurve, bm_BadCurve, sn_BadCurve, sub_BadCurve, ab_BadCurve, col_BadCurve, dd_BadCurve, m0_BadCurve, m1_BadCurve, m2_BadCurve, m3_BadCurve, m5_BadCurve, xL_BadCurve, rB_BadCurve⟩, sa := sa_BadCurve, exC := eC_BadCurve, tyC := tC_BadCurve, kC := kC_BadCurve }, F := { ga := ga_BadCurve, gg := gg_BadCurve, exC := eC_BadCurve, hdC := hC_BadCurve }, g := PySem.W.mg_of X G aC_BadCurve, iC := ai_BadCurve, tI := ti_BadCurve, no := nb_BadCurve, D := fun_mk (st := st_init_BadCurve) li_BadCurve ci_BadCurve ki_BadCurve, b := (fun_mk (st := st_init_BadCurve) li_BadCurve ci_BadCurve ki_BadCurve).binds (ps := ["self", "reason"]) fun _ _ _ _ _ _ us hl => match us, hl with | [_, _], _ => rfl }⟩
    x_BadNumber := ⟨C_BadNumber, PySem.W.mg_of X G aC_BadNumber, kC_BadNumber, xC_BadNumber, eC_BadNumber, tC_BadNumber⟩
    x_BadPoint := ⟨C_BadPoint, PySem.W.mg_of X G aC_BadPoint, kC_BadPoint, xC_BadPoint, eC_BadPoint, tC_BadPoint⟩
    b_abs := PySem.W.mg_none_of X G z_abs
    b_all := PySem.W.mg_none_of X G z_all
    b_bool := PySem.W.mg_none_of X G z_bool
    b_int := PySem.W.mg_none_of X G z_int
    b_isinstance := PySem.W.mg_none_of X G z_isinstance
    b_len := PySem.W.mg_none_of X G z_len
    b_min := PySem.W.mg_none_of X G z_min
    b_range := PySem.W.mg_none_of X G z_range
    b_set := PySem.W.mg_none_of X G z_set
    b_str := PySem.W.mg_none_of X G z_str
    b_tuple := PySem.W.mg_none_of X G z_tuple
    c_LEAST_PRIME := ⟨t_LEAST_PRIME, PySem.W.mg_of X G g_LEAST_PRIME⟩
    c_MOST_PRIME := ⟨t_MOST_PRIME, PySem.W.mg_of X G g_MOST_PRIME⟩
    c_MOST_TRIED := ⟨t_MOST_TRIED, PySem.W.mg_of X G g_MOST_TRIED⟩
    s_BadPoint := ⟨.ref C_BadPoint, PySem.W.mg_of X G aC_BadPoint, fun p hp => by
      unfold rows_BadPoint at hp
      simp only [List.mem_cons, List.not_mem_nil, or_false] at hp
      rcases hp with rfl | rfl | rfl
      · exact ⟨C_BadCurve, PySem.W.mg_of X G aC_BadCurve, exm_of eC_BadPoint iC_BadPoint tC_BadPoint s_BadPoint_BadCurve⟩
      · exact ⟨C_BadNumber, PySem.W.mg_of X G aC_BadNumber, exm_of eC_BadPoint iC_BadPoint tC_BadPoint s_BadPoint_BadNumber⟩
      · exact ⟨C_BadPoint, PySem.W.mg_of X G aC_BadPoint, exm_of eC_BadPoint iC_BadPoint tC_BadPoint s_BadPoint_BadPoint⟩⟩
  }
  have e := hfa.symm.trans (PySem.W.mg_of X G a24)
  cases e
  refine ⟨PySem.W.fnOf "law" "law" (defArgs st_law) (defBody st_law) (defScope st_law) .none kV24 dc24 pm24 an24 cd24 ct24, fun s v => .of_eq rfl, fun base _ _ => ?_⟩
  have G_law_rich : OkF l.prog w K mg base "_law_rich" ["cell", "k"] 1 2 den_law_rich := ok_law_rich T
  have G_law_prime : OkF l.prog w K mg base "_law_prime" ["rich"] 1 1 den_law_prime := ok_law_prime T
  have G_law_curve : OkF l.prog w K mg base "_law_curve" ["rich", "p"] 1 2 den_law_curve := ok_law_curve T
  have G_law_points : OkF l.prog w K mg base "_law_points" ["curve"] 1 1 den_law_points := ok_law_points T
  have G_law_cell : OkF l.prog w K mg base "_law_cell" ["script", "k"] 1 2 den_law_cell := ok_law_cell T
  have G_right_side : OkF l.prog w K mg base "right_side" ["curve", "x"] 1 2 den_right_side := ok_right_side T
  have G_is_integer : OkF l.prog w K mg base "is_integer" ["value"] 1 1 den_is_integer := ok_is_integer T
  have G_is_point : OkF l.prog w K mg base "is_point" ["curve", "value"] 2 2 den_is_point := ok_is_point T G_is_integer G_right_side
  have G_check_point : OkF l.prog w K mg base "check_point" ["curve", "value"] 3 2 den_check_point := ok_check_point T G_is_point
  have G_shortened : OkF l.prog w K mg base "shortened" ["curve", "point"] 4 2 den_shortened := ok_shortened T G_check_point
  have G_law_refused : OkF l.prog w K mg base "_law_refused" ["curve", "value"] 5 2 den_law_refused := ok_law_refused T G_shortened
  have G_singular : OkF l.prog w K mg base "singular" ["prime", "a", "b"] 1 3 den_singular := ok_singular T
  have G_least_factor : OkF l.prog w K mg base "least_factor" ["number", "limit"] 1 2 den_least_factor := ok_least_factor T
  have G_whole_root : OkF l.prog w K mg base "whole_root" ["number"] 1 1 den_whole_root := ok_whole_root T
  have G_is_prime : OkF l.prog w K mg base "is_prime" ["number"] 2 1 den_is_prime := ok_is_prime T G_is_integer G_whole_root G_least_factor
  have G_is_good_prime : OkF l.prog w K mg base "is_good_prime" ["value"] 3 1 den_is_good_prime := ok_is_good_prime T G_is_integer G_is_prime
  have G_check_curve : OkF l.prog w K mg base "check_curve" ["value"] 4 1 den_check_curve := ok_check_curve T G_is_integer G_is_good_prime G_singular
  have G_power : OkF l.prog w K mg base "power" ["base", "exponent", "modulus"] 1 3 den_power := ok_power T
  have G_jacobi : OkF l.prog w K mg base "jacobi" ["number", "modulus"] 1 2 den_jacobi := ok_jacobi T
  have G_nonsquare : OkF l.prog w K mg base "nonsquare" ["prime"] 2 1 den_nonsquare := ok_nonsquare T G_jacobi
  have G_root : OkF l.prog w K mg base "root" ["number", "prime"] 3 2 den_root := ok_root T G_jacobi G_nonsquare G_power
  have G_lifted : OkF l.prog w K mg base "lifted" ["curve", "x"] 4 2 den_lifted := ok_lifted T G_right_side G_root
  have G_lengthened : OkF l.prog w K mg base "lengthened" ["curve", "number"] 5 2 den_lengthened := ok_lengthened T G_check_curve G_is_integer G_lifted
  have G_law_told : OkF l.prog w K mg base "_law_told" ["curve", "number"] 6 2 den_law_told := ok_law_told T G_lengthened
  exact law_ok (ok_law (fun_mk (st := st_law) l24 c24 k24) T G_law_cell G_law_rich G_law_prime G_law_curve G_law_points G_shortened G_lengthened G_law_told G_law_refused) law_true
end K59
open PySem PySem.W PyProof.Rows
set_option maxRecDepth 100000 in
set_option maxHeartbeats 0 in
theorem PySem.Challenge.cw_chordkeep_k59_points_told_shortly_holds : PySem.Challenge.rw_chordkeep_k59_points_told_shortly.Holds := by
  w_on; o_law; k_head; (case hw => w_witness2)
  k_fill
  refine DD.law_walk (l := PySem.Challenge.rw_chordkeep_k59_points_told_shortly) (k := 7) (x := "script") rfl rfl ⟨rfl, by decide, by decide⟩ (fun w h Y => PySem.W.kIn_of Y) ?F
  case F =>
    intro w mg fa h KX G hmg
    refine' K59.all_mk KX G hmg ?a0 ?l0 ?c0 ?k0 ?a1 ?l1 ?c1 ?k1 ?a2 ?l2 ?c2 ?k2 ?a3 ?l3 ?c3 ?k3 ?a4 ?l4 ?c4 ?k4 ?a5 ?l5 ?c5 ?k5 ?a6 ?l6 ?c6 ?k6 ?a7 ?l7 ?c7 ?k7 ?a8 ?l8 ?c8 ?k8 ?a9 ?l9 ?c9 ?k9 ?a10 ?l10 ?c10 ?k10 ?a11 ?l11 ?c11 ?k11 ?a12 ?l12 ?c12 ?k12 ?a13 ?l13 ?c13 ?k13 ?a14 ?l14 ?c14 ?k14 ?a15 ?l15 ?c15 ?k15 ?a16 ?l16 ?c16 ?k16 ?a17 ?l17 ?c17 ?k17 ?a18 ?l18 ?c18 ?k18 ?a19 ?l19 ?c19 ?k19 ?a20 ?l20 ?c20 ?k20 ?a21 ?l21 ?c21 ?k21 ?a22 ?l22 ?c22 ?k22 ?a23 ?l23 ?c23 ?k23 ?a24 ?l24 ?c24 ?k24 ?aC_BadCurve ?kC_BadCurve ?eC_BadCurve ?tC_BadCurve ?iC_BadCurve ?aC_BadNumber ?kC_BadNumber ?eC_BadNumber ?tC_BadNumber ?iC_BadNumber ?aC_BadPoint ?kC_BadPoint ?eC_BadPoint ?tC_BadPoint ?iC_BadPoint ?xL_BadCurve ?rB_BadCurve ?sa_BadCurve ?ga_BadCurve ?gg_BadCurve ?nb_BadCurve ?ai_BadCurve ?ti_BadCurve ?li_BadCurve ?ci_BadCurve ?ki_BadCurve ?hC_BadCurve ?xC_BadNumber ?xC_BadPoint ?z_abs ?z_all ?z_bool ?z_int ?z_isinstance ?z_len ?z_min ?z_range ?z_set ?z_str ?z_tuple ?g_LEAST_PRIME ?g_MOST_PRIME ?g_MOST_TRIED ?s_BadPoint_BadCurve ?s_BadPoint_BadNumber ?s_BadPoint_BadPoint
    (case a0 => k_is)
    (case l0 => k_is)
    (case c0 => k_is)
    (case k0 => k_is)
    (case a1 => k_is)
    (case l1 => k_is)
    (case c1 => k_is)
    (case k1 => k_is)
    (case a2 => k_is)
    (case l2 => k_is)
    (case c2 => k_is)
    (case k2 => k_is)
    (case a3 => k_is)
    (case l3 => k_is)
    (case c3 => k_is)
    (case k3 => k_is)
    (case a4 => k_is)
    (case l4 => k_is)
    (case c4 => k_is)
    (case k4 => k_is)
    (case a5 => k_is)
    (case l5 => k_is)
    (case c5 => k_is)
    (case k5 => k_is)
    (case a6 => k_is)
    (case l6 => k_is)
    (case c6 => k_is)
    (case k6 => k_is)
    (case a7 => k_is)
    (case l7 => k_is)
    (case c7 => k_is)
    (case k7 => k_is)
    (case a8 => k_is)
    (case l8 => k_is)
    (case c8 => k_is)
    (case k8 => k_is)
    (case a9 => k_is)
    (case l9 => k_is)
    (case c9 => k_is)
    (case k9 => k_is)
    (case a10 => k_is)
    (case l10 => k_is)
    (case c10 => k_is)
    (case k10 => k_is)
    (case a11 => k_is)
    (case l11 => k_is)
    (case c11 => k_is)
    (case k11 => k_is)
    (case a12 => k_is)
    (case l12 => k_is)
    (case c12 => k_is)
    (case k12 => k_is)
    (case a13 => k_is)
    (case l13 => k_is)
    (case c13 => k_is)
    (case k13 => k_is)
    (case a14 => k_is)
    (case l14 => k_is)
    (case c14 => k_is)
    (case k14 => k_is)
    (case a15 => k_is)
    (case l15 => k_is)
    (case c15 => k_is)
    (case k15 => k_is)
    (case a16 => k_is)
    (case l16 => k_is)
    (case c16 => k_is)
    (case k16 => k_is)
    (case a17 => k_is)
    (case l17 => k_is)
    (case c17 => k_is)
    (case k17 => k_is)
    (case a18 => k_is)
    (case l18 => k_is)
    (case c18 => k_is)
    (case k18 => k_is)
    (case a19 => k_is)
    (case l19 => k_is)
    (case c19 => k_is)
    (case k19 => k_is)
    (case a20 => k_is)
    (case l20 => k_is)
    (case c20 => k_is)
    (case k20 => k_is)
    (case a21 => k_is)
    (case l21 => k_is)
    (case c21 => k_is)
    (case k21 => k_is)
    (case a22 => k_is)
    (case l22 => k_is)
    (case c22 => k_is)
    (case k22 => k_is)
    (case a23 => k_is)
    (case l23 => k_is)
    (case c23 => k_is)
    (case k23 => k_is)
    (case a24 => k_is)
    (case l24 => k_is)
    (case c24 => k_is)
    (case k24 => k_is)
    (case aC_BadCurve => k_is)
    (case kC_BadCurve => k_is)
    (case eC_BadCurve => k_is)
    (case tC_BadCurve => k_is)
    (case iC_BadCurve => k_is)
    (case aC_BadNumber => k_is)
    (case kC_BadNumber => k_is)
    (case eC_BadNumber => k_is)
    (case tC_BadNumber => k_is)
    (case iC_BadNumber => k_is)
    (case aC_BadPoint => k_is)
    (case kC_BadPoint => k_is)
    (case eC_BadPoint => k_is)
    (case tC_BadPoint => k_is)
    (case iC_BadPoint => k_is)
    (case xL_BadCurve => k_is)
    (case rB_BadCurve => first | rfl | decide +kernel)
    (case sa_BadCurve => k_is)
    (case ga_BadCurve => k_is)
    (case gg_BadCurve => k_is)
    (case nb_BadCurve => k_is)
    (case ai_BadCurve => k_is)
    (case ti_BadCurve => k_is)
    (case li_BadCurve => k_is)
    (case ci_BadCurve => k_is)
    (case ki_BadCurve => k_is)
    (case hC_BadCurve => k_is)
    (case xC_BadNumber => k_exc)
    (case xC_BadPoint => k_exc)
    (case z_abs => k_is)
    (case z_all => k_is)
    (case z_bool => k_is)
    (case z_int => k_is)
    (case z_isinstance => k_is)
    (case z_len => k_is)
    (case z_min => k_is)
    (case z_range => k_is)
    (case z_set => k_is)
    (case z_str => k_is)
    (case z_tuple => k_is)
    (case g_LEAST_PRIME => k_is)
    (case g_MOST_PRIME => k_is)
    (case g_MOST_TRIED => k_is)
    (case s_BadPoint_BadCurve => first | rfl | k_is)
    (case s_BadPoint_BadNumber => first | rfl | k_is)
    (case s_BadPoint_BadPoint => first | rfl | k_is)

