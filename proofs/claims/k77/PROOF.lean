import PyProof.Rows.All
import Wide.All
import OpenK.AllK
import Wide.FinOn
import HandS.ForExc
import HandS.Comp
import HandS.Iter
import HandS.Style
import HandS.Flow
import HandS.TupAny
import HandS.TupMul
import HandS.TryMany
import HandS.Wide
import HandS.WideBits
import HandS.IsInst
import HandS.Deep
import KE.BitLaws
import HandS.List
import PySem.Challenge.RW_chordkeep_k77_whole_parts_of_hidden_numb
set_option Elab.async false
set_option linter.all false
set_option maxRecDepth 100000
set_option maxHeartbeats 4000000
/-! DD1: data without a heap (D), what it is to be laid at a value (Rep), the state of a body (SR), the judgements DE, DT, DA, DL, DS. -/
namespace DD
open PySem PySem.Spec PyProof.Rows L2

abbrev Kf := PySem.W.Frag

/-- data: tuples and lists that nothing changes any more stand as what they hold; tape: the tape of draws -/
inductive D where
  | non | bl (b : Bool) | int (i : Int) | str (s : Str) | tup (ds : List D) | lst (ds : List D) | scr (ns : List Int) | tape

/-- where the tape stands: its list, the list of its cells -/
structure Tp where
  t : Addr
  c : Addr

mutual
def Rep (K : Kf) (F : Hp) (τ : Option Tp) : D → V → Prop
  | .non, v => v = .non
  | .bl b, v => v = .bl b
  | .int i, v => v = .int i
  | .str s, v => v = .str s
  | .tup ds, v => ∃ a vs, v = .ref a ∧ SqT K F a vs ∧ Reps K F τ ds vs
  | .lst ds, v => ∃ a vs, v = .ref a ∧ F a = some (.lst vs) ∧ Reps K F τ ds vs
  | .scr ns, v => ∃ a, v = .ref a ∧ SqL K F a (ns.map V.int)
  | .tape, v => ∃ t, τ = some t ∧ v = .ref t.t
def Reps (K : Kf) (F : Hp) (τ : Option Tp) : List D → List V → Prop
  | [], vs => vs = []
  | d :: ds, vs => ∃ v r, vs = v :: r ∧ Rep K F τ d v ∧ Reps K F τ ds r
end

theorem rd_mono {F F' : Hp} {a : Addr} {u : HO} (e : Same F F') (h : Rd F a u) : Rd F' a u := by
  rcases h with h | ⟨o, h⟩
  · exact .inl (e _ _ h)
  · exact .inr ⟨o, e _ _ h⟩
theorem sqT_mono {K : Kf} {F F' : Hp} {a : Addr} {xs : List V} (e : Same F F') (h : SqT K F a xs) : SqT K F' a xs := by
  rcases h with h | h
  · exact .inl (rd_mono e h)
  · exact .inr h
theorem sqL_mono {K : Kf} {F F' : Hp} {a : Addr} {xs : List V} (e : Same F F') (h : SqL K F a xs) : SqL K F' a xs := e.seq h

section
variable {K : Kf} {F F' H H' : Hp} {τ τ' : Option Tp}
mutual
theorem Rep.mono (e : Same F F') (t : ∀ x, τ = some x → τ' = some x) : ∀ {d : D} {v : V}, Rep K F τ d v → Rep K F' τ' d v
  | .non, _, h => by unfold Rep at h ⊢; exact h
  | .bl _, _, h => by unfold Rep at h ⊢; exact h
  | .int _, _, h => by unfold Rep at h ⊢; exact h
  | .str _, _, h => by unfold Rep at h ⊢; exact h
  | .tup ds, _, h => by
    unfold Rep at h ⊢
    obtain ⟨a, vs, h1, h2, h3⟩ := h
    exact ⟨a, vs, h1, sqT_mono e h2, Reps.mono e t h3⟩
  | .lst ds, _, h => by
    unfold Rep at h ⊢
    obtain ⟨a, vs, h1, h2, h3⟩ := h
    exact ⟨a, vs, h1, e _ _ h2, Reps.mono e t h3⟩
  | .scr ds, _, h => by
    unfold Rep at h ⊢
    obtain ⟨a, h1, h2⟩ := h
    exact ⟨a, h1, sqL_mono e h2⟩
  | .tape, _, h => by
    unfold Rep at h ⊢
    obtain ⟨x, h1, h2⟩ := h
    exact ⟨x, t x h1, h2⟩
theorem Reps.mono (e : Same F F') (t : ∀ x, τ = some x → τ' = some x) : ∀ {ds : List D} {vs : List V}, Reps K F τ ds vs → Reps K F' τ' ds vs
  | [], _, h => by unfold Reps at h ⊢; exact h
  | d :: ds, _, h => by
    unfold Reps at h ⊢
    obtain ⟨v, r, h1, h2, h3⟩ := h
    exact ⟨v, r, h1, Rep.mono e t h2, Reps.mono e t h3⟩
end
theorem Reps.len : ∀ {ds : List D} {vs : List V}, Reps K F τ ds vs → vs.length = ds.length
  | [], _, h => by unfold Reps at h; rw [h]; rfl
  | d :: ds, _, h => by
    unfold Reps at h
    obtain ⟨v, r, h1, h2, h3⟩ := h
    rw [h1, List.length_cons, List.length_cons, Reps.len h3]
theorem Reps.at : ∀ {ds : List D} {vs : List V} {i : Nat} {d : D}, Reps K F τ ds vs → ds[i]? = some d → ∃ v, vs[i]? = some v ∧ Rep K F τ d v
  | [], _, _, _, _, e => by simp at e
  | x :: ds, _, 0, d, h, e => by
    unfold Reps at h
    obtain ⟨v, r, h1, h2, h3⟩ := h
    have : x = d := by simpa using e
    subst this; subst h1
    exact ⟨v, rfl, h2⟩
  | x :: ds, _, i + 1, d, h, e => by
    unfold Reps at h
    obtain ⟨v, r, h1, h2, h3⟩ := h
    subst h1
    obtain ⟨w, q1, q2⟩ := Reps.at (i := i) h3 (by simpa using e)
    exact ⟨w, by simpa using q1, q2⟩
theorem Reps.at' : ∀ {ds : List D} {vs : List V} {i : Nat} {v : V}, Reps K F τ ds vs → vs[i]? = some v → ∃ d, ds[i]? = some d ∧ Rep K F τ d v
  | [], _, _, _, h, e => by unfold Reps at h; subst h; simp at e
  | x :: ds, _, 0, d, h, e => by
    unfold Reps at h
    obtain ⟨v, r, h1, h2, h3⟩ := h
    subst h1
    have : v = d := by simpa using e
    subst this
    exact ⟨x, rfl, h2⟩
  | x :: ds, _, i + 1, d, h, e => by
    unfold Reps at h
    obtain ⟨v, r, h1, h2, h3⟩ := h
    subst h1
    obtain ⟨w, q1, q2⟩ := Reps.at' (i := i) h3 (by simpa using e)
    exact ⟨w, by simpa using q1, q2⟩
theorem Reps.append : ∀ {ds es : List D} {vs us : List V}, Reps K F τ ds vs → Reps K F τ es us → Reps K F τ (ds ++ es) (vs ++ us)
  | [], _, _, _, h, g => by unfold Reps at h; subst h; exact g
  | x :: ds, es, _, us, h, g => by
    unfold Reps at h
    obtain ⟨v, r, h1, h2, h3⟩ := h
    subst h1
    show Reps K F τ (x :: (ds ++ es)) (v :: (r ++ us))
    unfold Reps
    exact ⟨v, _, rfl, h2, Reps.append h3 g⟩
theorem Reps.nil : Reps K F τ [] [] := by unfold Reps; rfl
theorem Reps.cons {d : D} {v : V} {ds : List D} {vs : List V} (h : Rep K F τ d v) (g : Reps K F τ ds vs) : Reps K F τ (d :: ds) (v :: vs) := by
  unfold Reps; exact ⟨v, vs, rfl, h, g⟩
theorem Reps.one {d : D} {v : V} (h : Rep K F τ d v) : Reps K F τ [d] [v] := .cons h .nil
theorem Reps.take : ∀ {ds : List D} {vs : List V} (n : Nat), Reps K F τ ds vs → Reps K F τ (ds.take n) (vs.take n)
  | [], _, n, h => by unfold Reps at h; subst h; simp; exact .nil
  | x :: ds, _, 0, h => .nil
  | x :: ds, _, n + 1, h => by
    unfold Reps at h
    obtain ⟨v, r, h1, h2, h3⟩ := h
    subst h1
    exact .cons h2 (Reps.take n h3)
theorem Reps.drop : ∀ {ds : List D} {vs : List V} (n : Nat), Reps K F τ ds vs → Reps K F τ (ds.drop n) (vs.drop n)
  | [], _, n, h => by unfold Reps at h; subst h; simp; exact .nil
  | x :: ds, _, 0, h => h
  | x :: ds, _, n + 1, h => by
    unfold Reps at h
    obtain ⟨v, r, h1, h2, h3⟩ := h
    subst h1
    exact Reps.drop n h3
theorem Reps.set : ∀ {ds : List D} {vs : List V} (n : Nat) {d : D} {v : V}, Reps K F τ ds vs → Rep K F τ d v → Reps K F τ (ds.set n d) (vs.set n v)
  | [], _, n, _, _, h, g => by unfold Reps at h; subst h; simp; exact .nil
  | x :: ds, _, 0, _, _, h, g => by
    unfold Reps at h
    obtain ⟨v, r, h1, h2, h3⟩ := h
    subst h1
    exact .cons g h3
  | x :: ds, _, n + 1, _, _, h, g => by
    unfold Reps at h
    obtain ⟨v, r, h1, h2, h3⟩ := h
    subst h1
    exact .cons h2 (Reps.set n h3 g)
theorem Reps.reverse : ∀ {ds : List D} {vs : List V}, Reps K F τ ds vs → Reps K F τ ds.reverse vs.reverse
  | [], _, h => by unfold Reps at h; subst h; exact .nil
  | x :: ds, _, h => by
    unfold Reps at h
    obtain ⟨v, r, h1, h2, h3⟩ := h
    subst h1
    rw [List.reverse_cons, List.reverse_cons]
    exact (Reps.reverse h3).append (.one h2)
theorem Reps.ints : ∀ {ns : List Int}, Reps K F τ (ns.map D.int) (ns.map V.int)
  | [] => .nil
  | n :: r => .cons (by unfold Rep; rfl) Reps.ints
theorem Reps.of_ints : ∀ {ns : List Int} {vs : List V}, Reps K F τ (ns.map D.int) vs → vs = ns.map V.int
  | [], _, h => by unfold Reps at h; exact h
  | n :: r, _, h => by
    unfold Reps at h
    obtain ⟨v, s, h1, h2, h3⟩ := h
    unfold Rep at h2
    subst h1; subst h2
    rw [Reps.of_ints h3]; rfl
theorem Reps.of_bls : ∀ {ns : List Bool} {vs : List V}, Reps K F τ (ns.map D.bl) vs → vs = ns.map V.bl
  | [], _, h => by unfold Reps at h; exact h
  | n :: r, _, h => by
    unfold Reps at h
    obtain ⟨v, s, h1, h2, h3⟩ := h
    unfold Rep at h2
    subst h1; subst h2
    rw [Reps.of_bls h3]; rfl
end

/-! ### the tape -/
structure Tape where
  cells : List Int
  seed : Int
def TapeOk (τ : Option Tp) (T : Option Tape) (H : Hp) : Prop :=
  match τ, T with
  | none, none => True
  | some t, some x => t.t ≠ t.c ∧ H t.t = some (.lst [.ref t.c, .int x.seed]) ∧ H t.c = some (.lst (x.cells.map V.int))
  | _, _ => False
/-- an address that is not the tape's -/
def Off (τ : Option Tp) (a : Addr) : Prop := ∀ t, τ = some t → a ≠ t.t ∧ a ≠ t.c
theorem Off.none {a : Addr} : Off none a := fun _ h => by cases h
theorem TapeOk.same {τ : Option Tp} {T : Option Tape} {H H' : Hp} (h : TapeOk τ T H) (e : ∀ t, τ = some t → H' t.t = H t.t ∧ H' t.c = H t.c) : TapeOk τ T H' := by
  cases τ with
  | none =>
    cases T with
    | none => trivial
    | some x => exact h
  | some t =>
    cases T with
    | none => exact h
    | some x =>
      obtain ⟨h1, h2, h3⟩ := h
      obtain ⟨e1, e2⟩ := e t rfl
      exact ⟨h1, e1.trans h2, e2.trans h3⟩
theorem TapeOk.there {τ : Option Tp} {T : Option Tape} {H : Hp} (h : TapeOk τ T H) {t : Tp} (e : τ = some t) : (∃ o, H t.t = some o) ∧ ∃ o, H t.c = some o := by
  subst e
  cases T with
  | none => exact h.elim
  | some x => exact ⟨⟨_, h.2.1⟩, ⟨_, h.2.2⟩⟩
theorem ne_none {H : Hp} {a p : Addr} {o : HO} (h : H a = some o) (n : H p = none) : p ≠ a := fun z => by
  rw [z, h] at n
  cases n
/-- a new object is no tape's -/
theorem TapeOk.off {τ : Option Tp} {T : Option Tape} {H : Hp} (h : TapeOk τ T H) {p : Addr} (n : H p = none) : Off τ p := fun t e => by
  obtain ⟨⟨o, h1⟩, ⟨u, h2⟩⟩ := h.there e
  exact ⟨ne_none h1 n, ne_none h2 n⟩
theorem TapeOk.upd {τ : Option Tp} {T : Option Tape} {H : Hp} (h : TapeOk τ T H) {p : Addr} {o : HO} (n : Off τ p) : TapeOk τ T (upd H p o) :=
  h.same fun t e => ⟨upd_ne (Ne.symm (n t e).1), upd_ne (Ne.symm (n t e).2)⟩

/-! ### how the world goes on -/
structure Go (F H : Hp) (τ : Option Tp) (F' H' : Hp) (τ' : Option Tp) : Prop where
  ff : Same F F'
  fh : Same F' H'
  hh : ∀ a o, H a = some o → Off τ a → H' a = some o
  dom : ∀ a, H' a = none → H a = none
  nw : ∀ a o, F' a = some o → F a = some o ∨ H a = none
  tt : τ' = τ ∨ (τ = none ∧ ∃ t, τ' = some t ∧ H t.t = none ∧ H t.c = none ∧ F' t.t = none ∧ F' t.c = none ∧ H' t.t ≠ none ∧ H' t.c ≠ none)
theorem Go.tm {F H F' H' : Hp} {τ τ' : Option Tp} (g : Go F H τ F' H' τ') : ∀ x, τ = some x → τ' = some x := fun x e => by
  rcases g.tt with h | ⟨h, _⟩
  · rw [h]; exact e
  · rw [h] at e; cases e
theorem Go.refl {F H : Hp} {τ : Option Tp} (h : Same F H) : Go F H τ F H τ := ⟨fun _ _ h => h, h, fun _ _ h _ => h, fun _ h => h, fun _ _ h => .inl h, .inl rfl⟩
theorem Go.off {F H F' H' : Hp} {τ τ' : Option Tp} (g : Go F H τ F' H' τ') {a : Addr} {o : HO} (h : H a = some o) (n : Off τ a) : Off τ' a := fun t e => by
  rcases g.tt with q | ⟨_, t', q, n1, n2, _⟩
  · rw [q] at e; exact n t e
  · rw [q] at e
    cases e
    exact ⟨Ne.symm (ne_none h n1), Ne.symm (ne_none h n2)⟩
theorem Go.trans {F H F1 H1 F2 H2 : Hp} {τ τ1 τ2 : Option Tp} (a : Go F H τ F1 H1 τ1) (b : Go F1 H1 τ1 F2 H2 τ2) : Go F H τ F2 H2 τ2 where
  ff := fun x o h => b.ff _ _ (a.ff _ _ h)
  fh := b.fh
  hh := fun x o h n => b.hh _ _ (a.hh _ _ h n) (a.off h n)
  dom := fun x h => a.dom _ (b.dom _ h)
  nw := fun x o h => by
    rcases b.nw _ _ h with q | q
    · exact a.nw _ _ q
    · exact .inr (a.dom _ q)
  tt := by
    rcases a.tt with q | ⟨q0, t, q, n1, n2, n3, n4, n5, n6⟩
    · rcases b.tt with r | ⟨r0, t', r, m1, m2, m3⟩
      · exact .inl (r.trans q)
      · exact .inr ⟨q ▸ r0, t', r, a.dom _ m1, a.dom _ m2, m3⟩
    · rcases b.tt with r | ⟨r0, t', r, m1, m2, m3⟩
      · have no : ∀ x, F1 x = none → H1 x ≠ none → F2 x = none := fun x h1 h2 => by
          cases e : F2 x with
          | none => rfl
          | some o =>
            rcases b.nw _ _ e with z | z
            · rw [h1] at z; cases z
            · exact absurd z h2
        exact .inr ⟨q0, t, r.trans q, n1, n2, no _ n3 n5, no _ n4 n6, fun z => n5 (b.dom _ z), fun z => n6 (b.dom _ z)⟩
      · rw [q] at r0; cases r0
/-- a new object, known from now on -/
theorem Go.new {F H : Hp} {τ : Option Tp} (h : Same F H) {p : Addr} {o : HO} (n : H p = none) : Go F H τ (upd F p o) (upd H p o) τ := by
  have nf : F p = none := h.free n
  refine ⟨fun a u e => ?_, fun a u e => ?_, fun a u e _ => ?_, fun a e => ?_, fun a u e => ?_, .inl rfl⟩
  · rw [upd_ne (ne_of_none e nf)]; exact e
  · by_cases z : a = p
    · subst z; rw [upd_same] at e ⊢; exact e
    · rw [upd_ne z] at e ⊢; exact h _ _ e
  · rw [upd_ne (ne_of_none e n)]; exact e
  · by_cases z : a = p
    · subst z; exact n
    · rw [upd_ne z] at e; exact e
  · by_cases z : a = p
    · subst z; exact .inr n
    · rw [upd_ne z] at e; exact .inl e
/-- a new object that only the heap knows -/
theorem Go.newH {F H : Hp} {τ : Option Tp} (h : Same F H) {p : Addr} {o : HO} (n : H p = none) : Go F H τ F (upd H p o) τ := by
  have nf : F p = none := h.free n
  refine ⟨fun a u e => e, fun a u e => ?_, fun a u e _ => ?_, fun a e => ?_, fun a u e => .inl e, .inl rfl⟩
  · rw [upd_ne (ne_of_none e nf)]; exact h _ _ e
  · rw [upd_ne (ne_of_none e n)]; exact e
  · by_cases z : a = p
    · subst z; exact n
    · rw [upd_ne z] at e; exact e
def TapeF (τ : Option Tp) (F : Hp) : Prop := ∀ t, τ = some t → F t.t = none ∧ F t.c = none
theorem Go.tf {F H F' H' : Hp} {τ τ' : Option Tp} {T : Option Tape} (g : Go F H τ F' H' τ') (o : TapeOk τ T H) (f : TapeF τ F) : TapeF τ' F' := fun t e => by
  rcases g.tt with q | ⟨q0, t', q, n1, n2, n3, n4, n5, n6⟩
  · rw [q] at e
    obtain ⟨⟨o1, h1⟩, ⟨o2, h2⟩⟩ := o.there e
    obtain ⟨f1, f2⟩ := f t e
    have no : ∀ x u, F x = none → H x = some u → F' x = none := fun x u h1 h2 => by
      cases e : F' x with
      | none => rfl
      | some o =>
        rcases g.nw _ _ e with z | z
        · rw [h1] at z; cases z
        · rw [h2] at z; cases z
    exact ⟨no _ _ f1 h1, no _ _ f2 h2⟩
  · rw [q] at e
    cases e
    exact ⟨n3, n4⟩

/-! ### slots and the state of a body -/
/-- a slot: nothing, data, a list of the body's own that it may change -/
inductive Sl where
  | un | val (d : D) | own (ds : List D)
abbrev DEnv := List Sl
structure SR (K : Kf) (F0 H0 : Hp) (τ0 : Option Tp) (F H : Hp) (τ : Option Tp) (T : Option Tape) (δ : DEnv) (σ : L2.St) : Prop where
  go : Go F0 H0 τ0 F H τ
  tp : TapeOk τ T H
  tf : TapeF τ F
  len : σ.length = δ.length
  val : ∀ (i : Nat) (d : D), δ[i]? = some (.val d) → ∃ v, σ[i]? = some (some v) ∧ Rep K F τ d v
  own : ∀ (i : Nat) (ds : List D), δ[i]? = some (.own ds) → ∃ a vs, σ[i]? = some (some (.ref a)) ∧ H a = some (.lst vs) ∧ Reps K F τ ds vs ∧ F a = none ∧ H0 a = none ∧ Off τ a
  dis : ∀ (i j : Nat) (ds es : List D) (a : Addr), i ≠ j → δ[i]? = some (.own ds) → δ[j]? = some (.own es) → σ[i]? = some (some (.ref a)) → σ[j]? ≠ some (some (.ref a))
section
variable {K : Kf} {F0 H0 F H F' H' : Hp} {τ0 τ τ' : Option Tp} {T T' : Option Tape} {δ δ' : DEnv} {σ σ' : L2.St}
theorem Go.fnone (g : Go F H τ F' H' τ') {a : Addr} {o : HO} (f : F a = none) (h : H a = some o) : F' a = none := by
  cases e : F' a with
  | none => rfl
  | some u =>
    rcases g.nw _ _ e with z | z
    · rw [f] at z; cases z
    · rw [h] at z; cases z
theorem SR.step (s : SR K F0 H0 τ0 F H τ T δ σ) (g : Go F H τ F' H' τ') (t : TapeOk τ' T' H') : SR K F0 H0 τ0 F' H' τ' T' δ σ where
  go := s.go.trans g
  tp := t
  tf := g.tf s.tp s.tf
  len := s.len
  val := fun i d e => by
    obtain ⟨v, h1, h2⟩ := s.val i d e
    exact ⟨v, h1, h2.mono g.ff g.tm⟩
  own := fun i ds e => by
    obtain ⟨a, vs, h1, h2, h3, h4, h5, h6⟩ := s.own i ds e
    exact ⟨a, vs, h1, g.hh _ _ h2 h6, h3.mono g.ff g.tm, g.fnone h4 h2, h5, g.off h2 h6⟩
  dis := s.dis
theorem SR.lt (s : SR K F0 H0 τ0 F H τ T δ σ) {i : Nat} {x : Sl} (h : δ[i]? = some x) : i < σ.length := by
  rw [s.len]; exact (List.getElem?_eq_some_iff.mp h).1
/-- data is stored -/
theorem SR.set (s : SR K F0 H0 τ0 F H τ T δ σ) {i : Nat} {d : D} {v : V} (r : Rep K F τ d v) : SR K F0 H0 τ0 F H τ T (δ.set i (.val d)) (σ.set i (some v)) where
  go := s.go
  tp := s.tp
  tf := s.tf
  len := by rw [List.length_set, List.length_set]; exact s.len
  val := fun j e h => by
    by_cases z : i = j
    · subst z
      have l : i < δ.length := by
        have := (List.getElem?_eq_some_iff.mp h).1
        rwa [List.length_set] at this
      rw [List.getElem?_set_self l] at h
      cases h
      exact ⟨v, List.getElem?_set_self (by rw [s.len]; exact l), r⟩
    · rw [List.getElem?_set_ne z] at h ⊢
      exact s.val j e h
  own := fun j ds h => by
    by_cases z : i = j
    · subst z
      have l : i < δ.length := by
        have := (List.getElem?_eq_some_iff.mp h).1
        rwa [List.length_set] at this
      rw [List.getElem?_set_self l] at h
      cases h
    · rw [List.getElem?_set_ne z] at h ⊢
      exact s.own j ds h
  dis := fun j k ds es a n h1 h2 h3 => by
    have lj : i ≠ j := fun z => by
      subst z
      have l : i < δ.length := by
        have := (List.getElem?_eq_some_iff.mp h1).1
        rwa [List.length_set] at this
      rw [List.getElem?_set_self l] at h1
      cases h1
    have lk : i ≠ k := fun z => by
      subst z
      have l : i < δ.length := by
        have := (List.getElem?_eq_some_iff.mp h2).1
        rwa [List.length_set] at this
      rw [List.getElem?_set_self l] at h2
      cases h2
    rw [List.getElem?_set_ne lj] at h1 h3
    rw [List.getElem?_set_ne lk] at h2 ⊢
    exact s.dis j k ds es a n h1 h2 h3
/-- a new list of one's own is stored -/
theorem SR.setOwn (s : SR K F0 H0 τ0 F H τ T δ σ) {i : Nat} {ds : List D} {p : Addr} {vs : List V} (hp : H p = some (.lst vs)) (r : Reps K F τ ds vs) (f : F p = none) (h0 : H0 p = none) (o : Off τ p)
    (ne : ∀ (j : Nat) (es : List D), δ[j]? = some (.own es) → σ[j]? ≠ some (some (.ref p))) : SR K F0 H0 τ0 F H τ T (δ.set i (.own ds)) (σ.set i (some (.ref p))) where
  go := s.go
  tp := s.tp
  tf := s.tf
  len := by rw [List.length_set, List.length_set]; exact s.len
  val := fun j e h => by
    by_cases z : i = j
    · subst z
      have l : i < δ.length := by
        have := (List.getElem?_eq_some_iff.mp h).1
        rwa [List.length_set] at this
      rw [List.getElem?_set_self l] at h
      cases h
    · rw [List.getElem?_set_ne z] at h ⊢
      exact s.val j e h
  own := fun j es h => by
    by_cases z : i = j
    · subst z
      have l : i < δ.length := by
        have := (List.getElem?_eq_some_iff.mp h).1
        rwa [List.length_set] at this
      rw [List.getElem?_set_self l] at h
      cases h
      exact ⟨p, vs, List.getElem?_set_self (by rw [s.len]; exact l), hp, r, f, h0, o⟩
    · rw [List.getElem?_set_ne z] at h ⊢
      exact s.own j es h
  dis := fun j k es fs a n h1 h2 h3 => by
    by_cases zj : i = j
    · subst zj
      have l : i < σ.length := by
        have := (List.getElem?_eq_some_iff.mp h3).1
        rwa [List.length_set] at this
      rw [List.getElem?_set_self l] at h3
      cases h3
      rw [List.getElem?_set_ne n] at h2 ⊢
      exact ne k fs h2
    · rw [List.getElem?_set_ne zj] at h1 h3
      by_cases zk : i = k
      · subst zk
        have l : i < δ.length := by
          have := (List.getElem?_eq_some_iff.mp h2).1
          rwa [List.length_set] at this
        rw [List.getElem?_set_self (by rw [s.len]; exact l)]
        intro z
        cases z
        exact ne j es h1 h3
      · rw [List.getElem?_set_ne zk] at h2 ⊢
        exact s.dis j k es fs a n h1 h2 h3
/-- a list of one's own is changed -/
theorem SR.write (s : SR K F0 H0 τ0 F H τ T δ σ) {i : Nat} {ds es : List D} {p : Addr} {us : List V} (hi : δ[i]? = some (.own ds)) (hs : σ[i]? = some (some (.ref p))) (r : Reps K F τ es us) :
    SR K F0 H0 τ0 F (upd H p (.lst us)) τ T (δ.set i (.own es)) σ := by
  obtain ⟨a, vs, h1, h2, h3, h4, h5, h6⟩ := s.own i ds hi
  rw [hs] at h1; cases h1
  have li : i < δ.length := (List.getElem?_eq_some_iff.mp hi).1
  refine ⟨⟨s.go.ff, fun b u e => ?_, fun b u e n => ?_, fun b e => ?_, s.go.nw, ?_⟩, s.tp.upd h6, s.tf, by rw [List.length_set]; exact s.len, fun j e h => ?_, fun j fs h => ?_, fun j k fs gs b n k1 k2 k3 => ?_⟩
  · rw [upd_ne (ne_of_none e h4)]; exact s.go.fh _ _ e
  · rw [upd_ne (ne_of_none e h5)]; exact s.go.hh _ _ e n
  · by_cases z : b = p
    · subst z; rw [upd_same] at e; cases e
    · rw [upd_ne z] at e; exact s.go.dom _ e
  · rcases s.go.tt with q | ⟨q0, t, q, n1, n2, n3, n4, n5, n6⟩
    · exact .inl q
    · refine .inr ⟨q0, t, q, n1, n2, n3, n4, ?_, ?_⟩
      · rw [upd_ne (Ne.symm (h6 t q).1)]; exact n5
      · rw [upd_ne (Ne.symm (h6 t q).2)]; exact n6
  · by_cases z : i = j
    · subst z; rw [List.getElem?_set_self li] at h; cases h
    · rw [List.getElem?_set_ne z] at h
      exact s.val j e h
  · by_cases z : i = j
    · subst z
      rw [List.getElem?_set_self li] at h
      cases h
      exact ⟨p, us, hs, upd_same, r, h4, h5, h6⟩
    · rw [List.getElem?_set_ne z] at h
      obtain ⟨b, ws, k1, k2, k3, k4, k5, k6⟩ := s.own j fs h
      have nb : b ≠ p := fun zz => by
        subst zz
        exact s.dis i j ds fs b z hi h hs k1
      exact ⟨b, ws, k1, by rw [upd_ne nb]; exact k2, k3, k4, k5, k6⟩
  · have own' : ∀ {m : Nat} {xs : List D}, (δ.set i (.own es))[m]? = some (.own xs) → ∃ ys, δ[m]? = some (.own ys) := fun {m xs} h => by
      by_cases z : i = m
      · subst z; exact ⟨ds, hi⟩
      · rw [List.getElem?_set_ne z] at h; exact ⟨xs, h⟩
    obtain ⟨x1, g1⟩ := own' k1
    obtain ⟨x2, g2⟩ := own' k2
    exact s.dis j k x1 x2 b n g1 g2 k3
/-- a slot is forgotten -/
theorem SR.forget (s : SR K F0 H0 τ0 F H τ T δ σ) {i : Nat} : SR K F0 H0 τ0 F H τ T (δ.set i .un) (σ.set i none) := by
  have ne : ∀ {j : Nat} {x : Sl}, (δ.set i .un)[j]? = some x → x ≠ .un → i ≠ j := fun {j x} h n z => by
    subst z
    have l : i < δ.length := by
      have := (List.getElem?_eq_some_iff.mp h).1
      rwa [List.length_set] at this
    rw [List.getElem?_set_self l] at h
    cases h
    exact n rfl
  refine ⟨s.go, s.tp, s.tf, by rw [List.length_set, List.length_set]; exact s.len, fun j e h => ?_, fun j es h => ?_, fun j k es fs a n h1 h2 h3 => ?_⟩
  · have z := ne h (by intro z; cases z)
    rw [List.getElem?_set_ne z] at h ⊢
    exact s.val j e h
  · have z := ne h (by intro z; cases z)
    rw [List.getElem?_set_ne z] at h ⊢
    exact s.own j es h
  · have zj := ne h1 (by intro z; cases z)
    have zk := ne h2 (by intro z; cases z)
    rw [List.getElem?_set_ne zj] at h1 h3
    rw [List.getElem?_set_ne zk] at h2 ⊢
    exact s.dis j k es fs a n h1 h2 h3
/-- a list of one's own becomes data -/
theorem SR.freeze (s : SR K F0 H0 τ0 F H τ T δ σ) {i : Nat} {ds : List D} (hi : δ[i]? = some (.own ds)) :
    ∃ F', SR K F0 H0 τ0 F' H τ T (δ.set i (.val (.lst ds))) σ ∧ Same F F' := by
  obtain ⟨a, vs, h1, h2, h3, h4, h5, h6⟩ := s.own i ds hi
  have li : i < δ.length := (List.getElem?_eq_some_iff.mp hi).1
  have ff : Same F (upd F a (.lst vs)) := fun b u e => by rw [upd_ne (ne_of_none e h4)]; exact e
  refine ⟨upd F a (.lst vs), ⟨⟨fun b u e => ff _ _ (s.go.ff _ _ e), fun b u e => ?_, s.go.hh, s.go.dom, fun b u e => ?_, ?_⟩, s.tp, fun t e => ?_, by rw [List.length_set]; exact s.len, fun j e h => ?_, fun j fs h => ?_, fun j k fs gs b n k1 k2 k3 => ?_⟩, ff⟩
  · by_cases z : b = a
    · subst z; rw [upd_same] at e; rw [← e]; exact h2
    · rw [upd_ne z] at e; exact s.go.fh _ _ e
  · by_cases z : b = a
    · subst z; exact .inr h5
    · rw [upd_ne z] at e; exact s.go.nw _ _ e
  · rcases s.go.tt with q | ⟨q0, t, q, n1, n2, n3, n4, n5, n6⟩
    · exact .inl q
    · refine .inr ⟨q0, t, q, n1, n2, ?_, ?_, n5, n6⟩
      · rw [upd_ne (Ne.symm (h6 t q).1)]; exact n3
      · rw [upd_ne (Ne.symm (h6 t q).2)]; exact n4
  · obtain ⟨f1, f2⟩ := s.tf t e
    exact ⟨by rw [upd_ne (Ne.symm (h6 t e).1)]; exact f1, by rw [upd_ne (Ne.symm (h6 t e).2)]; exact f2⟩
  · by_cases z : i = j
    · subst z
      rw [List.getElem?_set_self li] at h
      cases h
      refine ⟨.ref a, h1, ?_⟩
      unfold Rep
      exact ⟨a, vs, rfl, upd_same, h3.mono ff fun _ e => e⟩
    · rw [List.getElem?_set_ne z] at h
      obtain ⟨v, k1, k2⟩ := s.val j e h
      exact ⟨v, k1, k2.mono ff fun _ e => e⟩
  · by_cases z : i = j
    · subst z; rw [List.getElem?_set_self li] at h; cases h
    · rw [List.getElem?_set_ne z] at h
      obtain ⟨b, ws, k1, k2, k3, k4, k5, k6⟩ := s.own j fs h
      have nb : b ≠ a := fun zz => by
        subst zz
        exact s.dis i j ds fs b z hi h h1 k1
      exact ⟨b, ws, k1, k2, k3.mono ff fun _ e => e, by rw [upd_ne nb]; exact k4, k5, k6⟩
  · have nn : ∀ {m : Nat} {xs : List D}, (δ.set i (.val (.lst ds)))[m]? = some (.own xs) → δ[m]? = some (.own xs) := fun {m xs} h => by
      by_cases z : i = m
      · subst z; rw [List.getElem?_set_self li] at h; cases h
      · rw [List.getElem?_set_ne z] at h; exact h
    exact s.dis j k fs gs b n (nn k1) (nn k2) k3
end
end DD

/-! DD2: outcomes, the judgements, expressions, statements, loops. -/
namespace DD
open PySem PySem.Spec PyProof.Rows L2

/-- an exception: its class by the module's name, its one attribute -/
structure Exn where
  cls : Str
  arg : Option (Str × D)
inductive Out (α : Type) where
  | ok (a : α) (T : Option Tape) | exc (e : Exn) (T : Option Tape) | stuck
abbrev Mo (α : Type) := Option Tape → Out α
def Out.bind {α β : Type} : Out α → (α → Mo β) → Out β
  | .ok a T, k => k a T
  | .exc e T, _ => .exc e T
  | .stuck, _ => .stuck
def lift {α : Type} : Option α → Mo α
  | some a, T => .ok a T
  | none, _ => .stuck
/-- bools of ints: by naturals, so that the kernel reckons them without unfolding great numbers -/
def ltI : Int → Int → Bool
  | .ofNat a, .ofNat b => Nat.blt a b
  | .negSucc _, .ofNat _ => true
  | .ofNat _, .negSucc _ => false
  | .negSucc a, .negSucc b => Nat.blt b a
theorem ltI_eq (i j : Int) : ltI i j = decide (i < j) := by
  cases i with
  | ofNat a => cases j with
    | ofNat b =>
      show Nat.blt a b = _
      by_cases h : a < b
      · rw [decide_eq_true (show Int.ofNat a < Int.ofNat b by simpa using h)]; simpa [Nat.blt_eq] using h
      · rw [decide_eq_false (show ¬ Int.ofNat a < Int.ofNat b by simpa using h)]
        cases e : Nat.blt a b with
        | false => rfl
        | true => exact absurd (Nat.blt_eq.mp e) h
    | negSucc b => exact (decide_eq_false (show ¬ Int.ofNat a < Int.negSucc b by have e : Int.ofNat a = (a : Int) := rfl; omega)).symm
  | negSucc a => cases j with
    | ofNat b => exact (decide_eq_true (show Int.negSucc a < Int.ofNat b by have e : Int.ofNat b = (b : Int) := rfl; omega)).symm
    | negSucc b =>
      show Nat.blt b a = _
      by_cases h : b < a
      · rw [decide_eq_true (show Int.negSucc a < Int.negSucc b by omega)]; simpa [Nat.blt_eq] using h
      · rw [decide_eq_false (show ¬ Int.negSucc a < Int.negSucc b by omega)]
        cases e : Nat.blt b a with
        | false => rfl
        | true => exact absurd (Nat.blt_eq.mp e) h
def leI (i j : Int) : Bool := !ltI j i
theorem leI_eq (i j : Int) : leI i j = decide (i ≤ j) := by
  unfold leI
  rw [ltI_eq]
  by_cases h : i ≤ j
  · rw [decide_eq_true h, decide_eq_false (by omega)]; rfl
  · rw [decide_eq_false h, decide_eq_true (by omega)]; rfl
def asB : D → Option Bool
  | .bl b => some b
  | _ => none
def asI : D → Option Int
  | .int b => some b
  | _ => none
theorem asB_eq : ∀ {d : D} {b : Bool}, asB d = some b → d = .bl b
  | .bl b, _, h => by cases h; rfl
  | .non, _, h => by cases h
  | .int _, _, h => by cases h
  | .str _, _, h => by cases h
  | .tup _, _, h => by cases h
  | .lst _, _, h => by cases h
  | .scr _, _, h => by cases h
  | .tape, _, h => by cases h
theorem asI_eq : ∀ {d : D} {b : Int}, asI d = some b → d = .int b
  | .int b, _, h => by cases h; rfl
  | .non, _, h => by cases h
  | .bl _, _, h => by cases h
  | .str _, _, h => by cases h
  | .tup _, _, h => by cases h
  | .lst _, _, h => by cases h
  | .scr _, _, h => by cases h
  | .tape, _, h => by cases h
def scD : D → Option V
  | .non => some .non
  | .bl b => some (.bl b)
  | .int i => some (.int i)
  | .str s => some (.str s)
  | _ => none
def ExR (mg : Str → Option Value) (e : Exn) (c : Value) (dd : Option Addr) (H : Hp) : Prop :=
  ∃ C, mg e.cls = some (.ref C) ∧ c = .ref C ∧ match e.arg with
    | none => dd = none
    | some (x, d) => ∃ a v, dd = some a ∧ scD d = some v ∧ H a = some (.xd [(x, v)])
theorem rep_sc {K : Kf} {F : Hp} {τ : Option Tp} : ∀ {d : D} {v : V}, scD d = some v → Rep K F τ d v
  | .non, v, h => by cases h; unfold Rep; rfl
  | .bl _, v, h => by cases h; unfold Rep; rfl
  | .int _, v, h => by cases h; unfold Rep; rfl
  | .str _, v, h => by cases h; unfold Rep; rfl
  | .tup _, v, h => by cases h
  | .lst _, v, h => by cases h
  | .scr _, v, h => by cases h
  | .tape, v, h => by cases h
theorem sc_rep {K : Kf} {F : Hp} {τ : Option Tp} : ∀ {d : D} {v u : V}, scD d = some v → Rep K F τ d u → u = v
  | .non, v, _, h, g => by cases h; unfold Rep at g; exact g
  | .bl _, v, _, h, g => by cases h; unfold Rep at g; exact g
  | .int _, v, _, h, g => by cases h; unfold Rep at g; exact g
  | .str _, v, _, h, g => by cases h; unfold Rep at g; exact g
  | .tup _, v, _, h, _ => by cases h
  | .lst _, v, _, h, _ => by cases h
  | .scr _, v, _, h, _ => by cases h
  | .tape, v, _, h, _ => by cases h

abbrev RelT (α β : Type) := Hp → Option Tp → α → β → Prop
section
variable {α β γ ε : Type}
/-- what is wanted behind an outcome; R: how the data is laid -/
def Pst (mg : Str → Option Value) (W : WX) (R : RelT α β) (σ : L2.St) (F H : Hp) (τ : Option Tp) (Q : β → Hp → Prop) : Out α → Prop
  | .ok a T' => ∀ b F' H' τ', Go F H τ F' H' τ' → TapeOk τ' T' H' → R F' τ' a b → Q b H'
  | .exc e T' => ∀ c dd F' H' τ', Go F H τ F' H' τ' → TapeOk τ' T' H' → ExR mg e c dd F' → W c dd σ H'
  | .stuck => False
theorem Pst.shift {mg : Str → Option Value} {W : WX} {R : RelT α β} {σ : L2.St} {F H F1 H1 : Hp} {τ τ1 : Option Tp} {Q : β → Hp → Prop} (g : Go F H τ F1 H1 τ1) : ∀ {o : Out α}, Pst mg W R σ F H τ Q o → Pst mg W R σ F1 H1 τ1 Q o
  | .ok a T, h => fun b F' H' τ' g' t r => h b F' H' τ' (g.trans g') t r
  | .exc e T, h => fun c dd F' H' τ' g' t r => h c dd F' H' τ' (g.trans g') t r
  | .stuck, h => h
/-- the reading of a denotation -/
def cG (K : Kf) (mg : Str → Option Value) (W : WX) (R : RelT α β) (f : DEnv → Mo α) : L2.St → Hp → (β → Hp → Prop) → Prop := fun σ H Q =>
  ∃ F0 H0 τ0 F τ T δ, SR K F0 H0 τ0 F H τ T δ σ ∧ Pst mg W R σ F H τ Q (f δ T)
abbrev RB : RelT Bool Bool := fun _ _ a b => b = a
/-- the bind: f first, then what is wanted of g -/
theorem cG_bind {K : Kf} {mg : Str → Option Value} {W : WX} {R1 : RelT α β} {R2 : RelT γ ε} {f : DEnv → Mo α} {g : α → Mo γ} {σ : L2.St} {F0 H0 F H : Hp} {τ0 τ : Option Tp} {T : Option Tape} {δ : DEnv} {Q : ε → Hp → Prop} {Q1 : β → Hp → Prop}
    (s : SR K F0 H0 τ0 F H τ T δ σ) (h : Pst mg W R2 σ F H τ Q ((f δ T).bind g))
    (k : ∀ a b F1 H1 τ1 T1, SR K F0 H0 τ0 F1 H1 τ1 T1 δ σ → Go F H τ F1 H1 τ1 → R1 F1 τ1 a b → Pst mg W R2 σ F1 H1 τ1 Q (g a T1) → Q1 b H1) : cG K mg W R1 f σ H Q1 := by
  refine ⟨F0, H0, τ0, F, τ, T, δ, s, ?_⟩
  cases e : f δ T with
  | ok a T1 =>
    rw [e] at h
    exact fun b F1 H1 τ1 go tp r => k a b F1 H1 τ1 T1 (s.step go tp) go r (Pst.shift go h)
  | exc x T1 =>
    rw [e] at h
    exact h
  | stuck =>
    rw [e] at h
    exact h
end

/-! ### statements' outcomes -/
inductive OS where
  | nx (δ : DEnv) (T : Option Tape) | ret (d : D) (T : Option Tape) | bk (δ : DEnv) (T : Option Tape) | ct (δ : DEnv) (T : Option Tape) | exc (e : Exn) (δ : DEnv) (T : Option Tape) | stuck
abbrev SD := DEnv → Option Tape → OS
def PstS (K : Kf) (mg : Str → Option Value) (W : WX) (F0 H0 : Hp) (τ0 : Option Tp) (D : Ends) : OS → Prop
  | .nx δ T => ∀ F H τ σ, SR K F0 H0 τ0 F H τ T δ σ → D.nx σ H
  | .bk δ T => ∀ F H τ σ, SR K F0 H0 τ0 F H τ T δ σ → D.bk σ H
  | .ct δ T => ∀ F H τ σ, SR K F0 H0 τ0 F H τ T δ σ → D.ct σ H
  | .ret d T => ∀ v F H τ, Go F0 H0 τ0 F H τ → TapeOk τ T H → TapeF τ F → Rep K F τ d v → D.rt v H
  | .exc e δ T => ∀ c dd F H τ σ, SR K F0 H0 τ0 F H τ T δ σ → ExR mg e c dd F → W c dd σ H
  | .stuck => False
def cS (K : Kf) (mg : Str → Option Value) (W : WX) (g : SD) : TS := fun D σ H => ∃ F0 H0 τ0 F τ T δ, SR K F0 H0 τ0 F H τ T δ σ ∧ PstS K mg W F0 H0 τ0 D (g δ T)
/-- an expression's outcome, then a statement's -/
def Out.st {α : Type} : Out α → DEnv → (α → Option Tape → OS) → OS
  | .ok a T, _, k => k a T
  | .exc e T, δ, _ => .exc e δ T
  | .stuck, _, _ => .stuck
theorem cG_st {α β : Type} {K : Kf} {mg : Str → Option Value} {W : WX} {R1 : RelT α β} {f : DEnv → Mo α} {g : α → Option Tape → OS} {σ : L2.St} {F0 H0 F H : Hp} {τ0 τ : Option Tp} {T : Option Tape} {δ : DEnv} {D : Ends} {Q1 : β → Hp → Prop}
    (s : SR K F0 H0 τ0 F H τ T δ σ) (h : PstS K mg W F0 H0 τ0 D ((f δ T).st δ g))
    (k : ∀ a b F1 H1 τ1 T1, SR K F0 H0 τ0 F1 H1 τ1 T1 δ σ → Go F H τ F1 H1 τ1 → R1 F1 τ1 a b → PstS K mg W F0 H0 τ0 D (g a T1) → Q1 b H1) : cG K mg W R1 f σ H Q1 := by
  refine ⟨F0, H0, τ0, F, τ, T, δ, s, ?_⟩
  cases e : f δ T with
  | ok a T1 =>
    rw [e] at h
    exact fun b F1 H1 τ1 go tp r => k a b F1 H1 τ1 T1 (s.step go tp) go r h
  | exc x T1 =>
    rw [e] at h
    exact fun c dd F' H' τ' go tp ex => h c dd F' H' τ' σ (s.step go tp) ex
  | stuck =>
    rw [e] at h
    exact h

/-! ### fresh lists -/
def PstL (K : Kf) (mg : Str → Option Value) (W : WX) (σ : L2.St) (F H : Hp) (τ : Option Tp) (Q : VK) : Out (List D) → Prop
  | .ok ds T' => ∀ p vs F' H' τ', Go F H τ F' H' τ' → TapeOk τ' T' H' → H' p = some (.lst vs) → Reps K F' τ' ds vs → F' p = none → H p = none → Off τ' p → Q (.ref p) H'
  | .exc e T' => ∀ c dd F' H' τ', Go F H τ F' H' τ' → TapeOk τ' T' H' → ExR mg e c dd F' → W c dd σ H'
  | .stuck => False
def cL (K : Kf) (mg : Str → Option Value) (W : WX) (f : DEnv → Mo (List D)) : TE := fun σ H Q => ∃ F0 H0 τ0 F τ T δ, SR K F0 H0 τ0 F H τ T δ σ ∧ PstL K mg W σ F H τ Q (f δ T)

/-! ### the judgements -/
abbrev DE (X : Cx) (W : WX) (e : Expr) (f : DEnv → Mo D) : Prop := PE X e (cG X.K X.mg W (Rep X.K) f)
abbrev DA (X : Cx) (W : WX) (es : List Expr) (f : DEnv → Mo (List D)) : Prop := PA X es (cG X.K X.mg W (Reps X.K) f)
abbrev DT (X : Cx) (W : WX) (e : Expr) (f : DEnv → Mo Bool) : Prop := PT X e (cG X.K X.mg W RB f)
abbrev DW (X : Cx) (W : WX) (e : Expr) (f : DEnv → Mo Bool) : Prop := PW X e (cG X.K X.mg W RB f)
abbrev DL (X : Cx) (W : WX) (e : Expr) (f : DEnv → Mo (List D)) : Prop := PE X e (cL X.K X.mg W f)
abbrev DS (X : Cx) (W : WX) (st : Stmt) (g : SD) : Prop := PS X st (cS X.K X.mg W g)
abbrev DSs (X : Cx) (W : WX) (st : List Stmt) (g : SD) : Prop := PSs X st (cS X.K X.mg W g)
theorem pe_imp {X : Cx} {e : Expr} {t t' : TE} (h : PE X e t) (k : ∀ σ H Q, t' σ H Q → t σ H Q) : PE X e t' := ⟨fun pins s σ H Q I q => h.run pins s σ H Q I (k σ H Q q)⟩
theorem pa_imp {X : Cx} {e : List Expr} {t t' : TA} (h : PA X e t) (k : ∀ σ H Q, t' σ H Q → t σ H Q) : PA X e t' := ⟨fun pos pins s σ H Q I q => h.run pos pins s σ H Q I (k σ H Q q)⟩
theorem pt_imp {X : Cx} {e : Expr} {t t' : TT} (h : PT X e t) (k : ∀ σ H Q, t' σ H Q → t σ H Q) : PT X e t' := ⟨fun pins s σ H Q I q => h.run pins s σ H Q I (k σ H Q q)⟩
theorem pw_imp {X : Cx} {e : Expr} {t t' : TT} (h : PW X e t) (k : ∀ σ H Q, t' σ H Q → t σ H Q) : PW X e t' := ⟨fun wh pins s σ H Q I q => h.run wh pins s σ H Q I (k σ H Q q)⟩
theorem ps_imp {X : Cx} {st : Stmt} {t t' : TS} (h : PS X st t) (k : ∀ D σ H, t' D σ H → t D σ H) : PS X st t' := ⟨fun pins s σ H D I q => h.run pins s σ H D I (k D σ H q)⟩
theorem pss_imp {X : Cx} {st : List Stmt} {t t' : TS} (h : PSs X st t) (k : ∀ D σ H, t' D σ H → t D σ H) : PSs X st t' := ⟨fun pins s σ H D I q => h.run pins s σ H D I (k D σ H q)⟩

section
variable {X : Cx} {W : WX} {a b c : Expr} {f g h : DEnv → Mo D} {pos : Pos}
/-! ### names, constants -/
def slotD (δ : DEnv) (i : Nat) : Option D := match δ[i]? with
  | some (.val d) => some d
  | _ => none
theorem slotD_eq {δ : DEnv} {i : Nat} {d : D} (h : slotD δ i = some d) : δ[i]? = some (.val d) := by
  unfold slotD at h
  split at h
  · rename_i e; cases h; exact e
  · cases h
def dV (i : Nat) : DEnv → Mo D := fun δ T => lift (slotD δ i) T
def dC (d : D) : DEnv → Mo D := fun _ T => .ok d T
theorem de_v (i : Nat) {x : Str} (hN : X.N[i]? = some x := by rfl) (hv : Vis X.env.scope x := by first | exact Or.inl rfl | exact Or.inr (Or.inl rfl) | exact Or.inr (Or.inr rfl)) (hd : (x == ("__debug__" : Str)) = false := by decide)
    (hcd : (x == ("__classdict__" : Str)) = false := by decide) : DE X W (.Name x pos) (dV i) := pe_imp (pe_var hN hv hd hcd) fun σ H Q q => by
  obtain ⟨F0, H0, τ0, F, τ, T, δ, s, p⟩ := q
  unfold dV at p
  cases es : slotD δ i with
  | some d =>
    rw [es] at p
    obtain ⟨v, h1, h2⟩ := s.val i d (slotD_eq es)
    exact ⟨v, h1, p v F H τ (.refl s.go.fh) s.tp h2⟩
  | none => rw [es] at p; exact p.elim
theorem de_c {d : D} {v : V} {e : Expr} (h : PE X e (tC v)) (e1 : scD d = some v) : DE X W e (dC d) := pe_imp h fun σ H Q q => by
  obtain ⟨F0, H0, τ0, F, τ, T, δ, s, p⟩ := q
  exact p v F H τ (.refl s.go.fh) s.tp (rep_sc e1)
theorem de_int {i j} : DE X W (.Constant (.int i) j pos) (dC (.int i)) := de_c pe_int rfl
theorem de_bl {i j} : DE X W (.Constant (.bool i) j pos) (dC (.bl i)) := de_c pe_bl rfl
theorem de_str {i j} : DE X W (.Constant (.str i) j pos) (dC (.str i)) := de_c pe_str rfl
theorem de_non {j} : DE X W (.Constant .none j pos) (dC .non) := de_c pe_non rfl
/-- a module's constant -/
theorem de_glob {x : Str} {d : D} {v : V} {u : Value} (hg : Gl X x) (hm : X.mg x = some u) (r : RelV v u) (hr : ∀ F τ, Rep X.K F τ d v) (hd : (x == ("__debug__" : Str)) = false := by decide) : DE X W (.Name x pos) (dC d) :=
  pe_imp (pe_glob hg hm r hd) fun σ H Q q => by
    obtain ⟨F0, H0, τ0, F, τ, T, δ, s, p⟩ := q
    exact p v F H τ (.refl s.go.fh) s.tp (hr F τ)

/-! ### two-place operations -/
def OpD (K : Kf) (r : R2) (o : D → D → Option D) : Prop := ∀ F H τ T x y v u z (Q : VK), Same F H → TapeOk τ T H → Rep K F τ x v → Rep K F τ y u → o x y = some z →
  (∀ w F' H', Go F H τ F' H' τ → TapeOk τ T H' → Rep K F' τ z w → Q w H') → r v u H Q
def dBin (o : D → D → Option D) (f g : DEnv → Mo D) : DEnv → Mo D := fun δ T => (f δ T).bind fun x T1 => (g δ T1).bind fun y T2 => lift (o x y) T2
theorem cbin {K : Kf} {mg : Str → Option Value} {r : R2} {o : D → D → Option D} (ho : OpD K r o) {σ : L2.St} {H : Hp} {Q : VK} (q : cG K mg W (Rep K) (dBin o f g) σ H Q) : tOp r (cG K mg W (Rep K) f) (cG K mg W (Rep K) g) σ H Q := by
  obtain ⟨F0, H0, τ0, F, τ, T, δ, s, p⟩ := q
  refine cG_bind s p fun x v F1 H1 τ1 T1 s1 g1 r1 p1 => ?_
  refine cG_bind s1 p1 fun y u F2 H2 τ2 T2 s2 g2 r2 p2 => ?_
  cases e : o x y with
  | none => rw [e] at p2; exact p2.elim
  | some z =>
    rw [e] at p2
    exact ho F2 H2 τ2 T2 x y v u z Q s2.go.fh s2.tp (r1.mono g2.ff g2.tm) r2 e fun w F' H' g' t' r' => p2 w F' H' τ2 g' t' r'
theorem de_bin {op : Operator} {r : R2} {o : D → D → Option D} (hp : OpR X (binaryOp op) r) (ho : OpD X.K r o) (ha : DE X W a f) (hb : DE X W b g) : DE X W (.BinOp a op b pos) (dBin o f g) :=
  pe_imp (pe_op hp ha hb) fun σ H Q q => cbin ho q
theorem de_cmp {op : CmpOp} {r : R2} {o : D → D → Option D} (hp : OpR X (compareOp op) r) (ho : OpD X.K r o) (ha : DE X W a f) (hb : DE X W b g) (hm : behindInMarks op b = false) : DE X W (.Compare a [op] [b] pos) (dBin o f g) :=
  pe_imp (pe_cmpR hp ha hb hm) fun σ H Q q => cbin ho q
theorem de_ix {r : R2} {o : D → D → Option D} (hp : IxR X r) (ho : OpD X.K r o) (ha : DE X W a f) (hb : DE X W b g) (hs : PlainIx b) : DE X W (.Subscript a b pos) (dBin o f g) :=
  pe_imp (pe_ix hp ha hb hs) fun σ H Q q => cbin ho q
theorem OpD.or {K : Kf} {r r' : R2} {o o' : D → D → Option D} (h : OpD K r o) (h' : OpD K r' o') : OpD K (fun x y H Q => r x y H Q ∨ r' x y H Q) (fun x y => (o x y).or (o' x y)) := fun F H τ T x y v u z Q fh tp r1 r2 e k => by
  have e : (o x y).or (o' x y) = some z := e
  cases e1 : o x y with
  | some w => rw [e1] at e; exact .inl (h F H τ T x y v u z Q fh tp r1 r2 (e1.trans e) k)
  | none => rw [e1] at e; exact .inr (h' F H τ T x y v u z Q fh tp r1 r2 e k)
/-- one place -/
def dUn (o : D → Option D) (f : DEnv → Mo D) : DEnv → Mo D := fun δ T => (f δ T).bind fun x T1 => lift (o x) T1
def UnD (K : Kf) (r : V → Hp → VK → Prop) (o : D → Option D) : Prop := ∀ F H τ T x v z (Q : VK), Same F H → TapeOk τ T H → Rep K F τ x v → o x = some z → (∀ w F' H', Go F H τ F' H' τ → TapeOk τ T H' → Rep K F' τ z w → Q w H') → r v H Q
theorem cun {K : Kf} {mg : Str → Option Value} {r : V → Hp → VK → Prop} {o : D → Option D} (ho : UnD K r o) {σ : L2.St} {H : Hp} {Q : VK} (q : cG K mg W (Rep K) (dUn o f) σ H Q) : (cG K mg W (Rep K) f) σ H (fun x H1 => r x H1 Q) := by
  obtain ⟨F0, H0, τ0, F, τ, T, δ, s, p⟩ := q
  refine cG_bind s p fun x v F1 H1 τ1 T1 s1 g1 r1 p1 => ?_
  cases e : o x with
  | none => rw [e] at p1; exact p1.elim
  | some z =>
    rw [e] at p1
    exact ho F1 H1 τ1 T1 x v z Q s1.go.fh s1.tp r1 e fun w F' H' g' t' r' => p1 w F' H' τ1 g' t' r'
theorem de_un {op : UnaryOp} {r : V → Hp → VK → Prop} {o : D → Option D} (hp : UnR X (unaryOp op) r) (ho : UnD X.K r o) (ha : DE X W a f) : DE X W (.UnaryOp op a pos) (dUn o f) := pe_imp (pe_un hp ha) fun σ H Q q => cun ho q

/-! ### ints -/
def oI (C : Int → Int → Bool) (p : Int → Int → D) : D → D → Option D
  | .int i, .int j => if C i j = true then some (p i j) else none
  | _, _ => none
theorem opd_I {K : Kf} {C : Int → Int → Bool} {C' : Int → Int → Prop} {p : Int → Int → D} {q : Int → Int → V} (hc : ∀ i j, C i j = true → C' i j) (hq : ∀ i j, scD (p i j) = some (q i j)) : OpD K (rI C' q) (oI C p) := by
  intro F H τ T x y v u z Q fh tp r1 r2 e k
  unfold oI at e
  split at e
  · rename_i i j
    split at e
    · rename_i hcc
      cases e
      unfold Rep at r1 r2
      exact ⟨i, j, r1, r2, hc _ _ hcc, k _ F H (.refl fh) tp (rep_sc (hq i j))⟩
    · cases e
  · cases e
def oI0 (p : Int → Int → D) : D → D → Option D
  | .int i, .int j => some (p i j)
  | _, _ => none
theorem opd_I0 {K : Kf} {p : Int → Int → D} {q : Int → Int → V} (hq : ∀ i j, scD (p i j) = some (q i j)) : OpD K (rI0 q) (oI0 p) := by
  intro F H τ T x y v u z Q fh tp r1 r2 e k
  unfold oI0 at e
  split at e
  · rename_i i j
    cases e
    unfold Rep at r1 r2
    exact ⟨i, j, r1, r2, k _ F H (.refl fh) tp (rep_sc (hq i j))⟩
  · cases e

/-! ### tests -/
def dTv (f : DEnv → Mo D) : DEnv → Mo Bool := fun δ T => (f δ T).bind fun x T1 => lift (asB x) T1
theorem cTv {K : Kf} {mg : Str → Option Value} {σ : L2.St} {H : Hp} {Q : Bool → Hp → Prop} (q : cG K mg W RB (dTv f) σ H Q) : tTest (cG K mg W (Rep K) f) σ H Q := by
  obtain ⟨F0, H0, τ0, F, τ, T, δ, s, p⟩ := q
  refine cG_bind s p fun x v F1 H1 τ1 T1 s1 g1 r1 p1 => ?_
  cases eb : asB x with
  | some b =>
    rw [eb] at p1
    rw [asB_eq eb] at r1
    unfold Rep at r1
    exact ⟨b, r1, p1 b F1 H1 τ1 (.refl s1.go.fh) s1.tp rfl⟩
  | none => rw [eb] at p1; exact p1.elim
theorem dt_cmp {op : CmpOp} {r : R2} {o : D → D → Option D} (hp : OpR X (compareOp op) r) (ho : OpD X.K r o) (ha : DE X W a f) (hb : DE X W b g) (hm : behindInMarks op b = false) : DT X W (.Compare a [op] [b] pos) (dTv (dBin o f g)) :=
  pt_imp (pt_cmpR hp ha hb hm) fun σ H Q q => by
    obtain ⟨F0, H0, τ0, F, τ, T, δ, s, p⟩ := q
    refine cbin (mg := X.mg) (W := W) ho ⟨F0, H0, τ0, F, τ, T, δ, s, ?_⟩
    obtain ⟨F0', H0', τ0', F', τ', T', δ', s', p'⟩ := cTv (K := X.K) (mg := X.mg) (W := W) (f := dBin o f g) ⟨F0, H0, τ0, F, τ, T, δ, s, p⟩
    unfold dTv at p
    cases e : dBin o f g δ T with
    | ok x T1 =>
      rw [e] at p
      have p : Pst X.mg W RB σ F H τ Q (lift (asB x) T1) := p
      intro v F1 H1 τ1 g1 t1 r1
      cases eb : asB x with
      | some k =>
        rw [eb] at p
        rw [asB_eq eb] at r1
        unfold Rep at r1
        exact ⟨k, r1, p k F1 H1 τ1 g1 t1 rfl⟩
      | none => rw [eb] at p; exact p.elim
    | exc x T1 => rw [e] at p; exact p
    | stuck => rw [e] at p; exact p
theorem dt_val {e : Expr} (h : DE X W e f) (he : ∀ whole, isTrue e X.env whole = (do let v ← whole; standAt e.pos; holding [v] (truthy v)) := by intro _; rfl) : DT X W e (dTv f) :=
  pt_imp (pt_val h he) fun σ H Q q => cTv q
def dAnd (t u : DEnv → Mo Bool) : DEnv → Mo Bool := fun δ T => (t δ T).bind fun b T1 => if b = true then u δ T1 else .ok false T1
def dOr (t u : DEnv → Mo Bool) : DEnv → Mo Bool := fun δ T => (t δ T).bind fun b T1 => if b = true then .ok true T1 else u δ T1
def dNot (t : DEnv → Mo Bool) : DEnv → Mo Bool := fun δ T => (t δ T).bind fun b T1 => .ok (!b) T1
variable {t u : DEnv → Mo Bool} {rest : List Expr}
theorem dt_w (h : DW X W a t) : DT X W a t := h.pt
theorem dw_and1 (ha : DT X W a t) : DW X W (.BoolOp .And [a] pos) t := pw_and1 ha
theorem dw_or1 (ha : DT X W a t) : DW X W (.BoolOp .Or [a] pos) t := pw_or1 ha
theorem dw_and (ha : DT X W a t) (hb : DW X W (.BoolOp .And (b :: rest) pos) u) : DW X W (.BoolOp .And (a :: b :: rest) pos) (dAnd t u) := pw_imp (pw_and ha hb) fun σ H Q q => by
  obtain ⟨F0, H0, τ0, F, τ, T, δ, s, p⟩ := q
  refine cG_bind s p fun x v F1 H1 τ1 T1 s1 g1 r1 p1 => ?_
  cases r1
  cases x with
  | true =>
    show cG X.K X.mg W RB u σ H1 Q
    exact ⟨F0, H0, τ0, F1, τ1, T1, δ, s1, p1⟩
  | false => exact p1 false F1 H1 τ1 (.refl s1.go.fh) s1.tp rfl
theorem dw_or (ha : DT X W a t) (hb : DW X W (.BoolOp .Or (b :: rest) pos) u) : DW X W (.BoolOp .Or (a :: b :: rest) pos) (dOr t u) := pw_imp (pw_or ha hb) fun σ H Q q => by
  obtain ⟨F0, H0, τ0, F, τ, T, δ, s, p⟩ := q
  refine cG_bind s p fun x v F1 H1 τ1 T1 s1 g1 r1 p1 => ?_
  cases r1
  cases x with
  | false =>
    show cG X.K X.mg W RB u σ H1 Q
    exact ⟨F0, H0, τ0, F1, τ1, T1, δ, s1, p1⟩
  | true => exact p1 true F1 H1 τ1 (.refl s1.go.fh) s1.tp rfl
theorem dt_not (ha : DT X W a t) : DT X W (.UnaryOp .Not a pos) (dNot t) := pt_imp (pt_not ha) fun σ H Q q => by
  obtain ⟨F0, H0, τ0, F, τ, T, δ, s, p⟩ := q
  refine cG_bind s p fun x v F1 H1 τ1 T1 s1 g1 r1 p1 => ?_
  cases r1
  exact p1 _ F1 H1 τ1 (.refl s1.go.fh) s1.tp rfl
/-! .. as values -/
def dAndV (f g : DEnv → Mo D) : DEnv → Mo D := fun δ T => (f δ T).bind fun x T1 => (lift (asB x) T1).bind fun b T2 => if b = true then g δ T2 else .ok (.bl false) T2
def dOrV (f g : DEnv → Mo D) : DEnv → Mo D := fun δ T => (f δ T).bind fun x T1 => (lift (asB x) T1).bind fun b T2 => if b = true then .ok (.bl true) T2 else g δ T2
def oNotB : D → Option D := fun x => (asB x).map fun b => .bl (!b)
def dNotV (f : DEnv → Mo D) : DEnv → Mo D := dUn oNotB f
theorem de_one {op} (h : DE X W a f) : DE X W (.BoolOp op [a] pos) f := pe_one h
theorem de_and (ha : DE X W a f) (hb : DE X W (.BoolOp .And (b :: rest) pos) g) : DE X W (.BoolOp .And (a :: b :: rest) pos) (dAndV f g) := pe_imp (pe_and ha hb) fun σ H Q q => by
  obtain ⟨F0, H0, τ0, F, τ, T, δ, s, p⟩ := q
  refine cG_bind s p fun x v F1 H1 τ1 T1 s1 g1 r1 p1 => ?_
  cases eb : asB x with
  | none => rw [eb] at p1; exact p1.elim
  | some b =>
    rw [eb] at p1
    have p1 : Pst X.mg W (Rep X.K) σ F1 H1 τ1 Q (if b = true then g δ T1 else .ok (.bl false) T1) := p1
    rw [asB_eq eb] at r1
    have r2 := r1
    unfold Rep at r2
    refine ⟨b, r2, ?_⟩
    cases b with
    | true =>
      show cG X.K X.mg W (Rep X.K) g σ H1 Q
      exact ⟨F0, H0, τ0, F1, τ1, T1, δ, s1, p1⟩
    | false =>
      show Q (.bl false) H1
      exact p1 _ F1 H1 τ1 (.refl s1.go.fh) s1.tp (by rw [r2] at r1; exact r1)
theorem de_or (ha : DE X W a f) (hb : DE X W (.BoolOp .Or (b :: rest) pos) g) : DE X W (.BoolOp .Or (a :: b :: rest) pos) (dOrV f g) := pe_imp (pe_or ha hb) fun σ H Q q => by
  obtain ⟨F0, H0, τ0, F, τ, T, δ, s, p⟩ := q
  refine cG_bind s p fun x v F1 H1 τ1 T1 s1 g1 r1 p1 => ?_
  cases eb : asB x with
  | none => rw [eb] at p1; exact p1.elim
  | some b =>
    rw [eb] at p1
    have p1 : Pst X.mg W (Rep X.K) σ F1 H1 τ1 Q (if b = true then .ok (.bl true) T1 else g δ T1) := p1
    rw [asB_eq eb] at r1
    have r2 := r1
    unfold Rep at r2
    refine ⟨b, r2, ?_⟩
    cases b with
    | false =>
      show cG X.K X.mg W (Rep X.K) g σ H1 Q
      exact ⟨F0, H0, τ0, F1, τ1, T1, δ, s1, p1⟩
    | true =>
      show Q (.bl true) H1
      exact p1 _ F1 H1 τ1 (.refl s1.go.fh) s1.tp (by rw [r2] at r1; exact r1)
theorem de_not (ha : DE X W a f) : DE X W (.UnaryOp .Not a pos) (dNotV f) := pe_imp (pe_not ha) fun σ H Q q => by
  refine cun (r := fun x H1 Q => ∃ c, x = .bl c ∧ Q (.bl (!c)) H1) (fun F H τ T x v z Q fh tp r1 e k => ?_) q
  unfold oNotB at e
  cases eb : asB x with
  | none => rw [eb] at e; cases e
  | some b =>
    rw [eb] at e
    cases e
    rw [asB_eq eb] at r1
    unfold Rep at r1
    exact ⟨_, r1, k _ F H (.refl fh) tp (by unfold Rep; rfl)⟩
/-- a if t else b -/
def dIf (t : DEnv → Mo Bool) (f g : DEnv → Mo D) : DEnv → Mo D := fun δ T => (t δ T).bind fun b T1 => if b = true then f δ T1 else g δ T1
theorem de_if {e : Expr} (ht : DT X W e t) (ha : DE X W a f) (hb : DE X W b g) : DE X W (.IfExp e a b pos) (dIf t f g) := pe_imp (pe_ifExp ht ha hb) fun σ H Q q => by
  obtain ⟨F0, H0, τ0, F, τ, T, δ, s, p⟩ := q
  refine cG_bind s p fun x v F1 H1 τ1 T1 s1 g1 r1 p1 => ?_
  cases r1
  cases x with
  | true =>
    show cG X.K X.mg W (Rep X.K) f σ H1 Q
    exact ⟨F0, H0, τ0, F1, τ1, T1, δ, s1, p1⟩
  | false =>
    show cG X.K X.mg W (Rep X.K) g σ H1 Q
    exact ⟨F0, H0, τ0, F1, τ1, T1, δ, s1, p1⟩

/-! ### argument lists, displays -/
variable {fa : DEnv → Mo (List D)} {es : List Expr}
def aN : DEnv → Mo (List D) := fun _ T => .ok [] T
def aC (f : DEnv → Mo D) (r : DEnv → Mo (List D)) : DEnv → Mo (List D) := fun δ T => (f δ T).bind fun x T1 => (r δ T1).bind fun xs T2 => .ok (x :: xs) T2
theorem da_nil : DA X W [] aN := pa_imp pa_nil fun σ H Q q => by
  obtain ⟨F0, H0, τ0, F, τ, T, δ, s, p⟩ := q
  exact p [] F H τ (.refl s.go.fh) s.tp .nil
theorem da_cons (ha : DE X W a f) (hr : DA X W es fa) (hs : starEach (a :: es) X.env = (false, eval a X.env) :: starEach es X.env := by rfl) : DA X W (a :: es) (aC f fa) := pa_imp (pa_cons ha hr hs) fun σ H Q q => by
  obtain ⟨F0, H0, τ0, F, τ, T, δ, s, p⟩ := q
  refine cG_bind s p fun x v F1 H1 τ1 T1 s1 g1 r1 p1 => ?_
  refine cG_bind s1 p1 fun xs vs F2 H2 τ2 T2 s2 g2 r2 p2 => ?_
  exact p2 (v :: vs) F2 H2 τ2 (.refl s2.go.fh) s2.tp (.cons (r1.mono g2.ff g2.tm) r2)
def line : Nat := 16000000
theorem line_lt {n : Nat} (h : n < line) : n < sizeLine := Nat.lt_of_lt_of_le h (by rw [sizeLine_eq]; decide)
def dTup (r : DEnv → Mo (List D)) : DEnv → Mo D := fun δ T => (r δ T).bind fun xs T1 => if xs.length < line then .ok (.tup xs) T1 else .stuck
theorem de_tup {x1} (h : DA X W es fa) : DE X W (.Tuple es x1 pos) (dTup fa) := pe_imp (pe_tup h) fun σ H Q q => by
  obtain ⟨F0, H0, τ0, F, τ, T, δ, s, p⟩ := q
  refine cG_bind s p fun xs vs F1 H1 τ1 T1 s1 g1 r1 p1 => ?_
  split at p1
  · rename_i hl
    refine ⟨Nat.le_of_lt (by rw [r1.len]; exact line_lt hl), fun q hq => ?_⟩
    have g2 := Go.new (τ := τ1) (o := .tup vs) s1.go.fh hq
    refine p1 _ _ _ τ1 g2 (s1.tp.upd (s1.tp.off hq)) ?_
    unfold Rep
    exact ⟨q, vs, rfl, .inl (.inl upd_same), r1.mono g2.ff fun _ e => e⟩
  · exact p1.elim
def lLst (r : DEnv → Mo (List D)) : DEnv → Mo (List D) := fun δ T => (r δ T).bind fun xs T1 => if xs.length < line then .ok xs T1 else .stuck
theorem cG_bindL {α β : Type} {K : Kf} {mg : Str → Option Value} {R1 : RelT α β} {f : DEnv → Mo α} {g : α → Mo (List D)} {σ : L2.St} {F0 H0 F H : Hp} {τ0 τ : Option Tp} {T : Option Tape} {δ : DEnv} {Q : VK} {Q1 : β → Hp → Prop}
    (s : SR K F0 H0 τ0 F H τ T δ σ) (h : PstL K mg W σ F H τ Q ((f δ T).bind g))
    (k : ∀ a b F1 H1 τ1 T1, SR K F0 H0 τ0 F1 H1 τ1 T1 δ σ → Go F H τ F1 H1 τ1 → R1 F1 τ1 a b → PstL K mg W σ F1 H1 τ1 Q (g a T1) → Q1 b H1) : cG K mg W R1 f σ H Q1 := by
  refine ⟨F0, H0, τ0, F, τ, T, δ, s, ?_⟩
  cases e : f δ T with
  | ok a T1 =>
    rw [e] at h
    refine fun b F1 H1 τ1 go tp r => k a b F1 H1 τ1 T1 (s.step go tp) go r ?_
    have h' : PstL K mg W σ F H τ Q (g a T1) := h
    revert h'
    cases g a T1 with
    | ok ds T2 => exact fun h' p vs F' H' τ' g' t' a1 a2 a3 a4 a5 => h' p vs F' H' τ' (go.trans g') t' a1 a2 a3 (go.dom _ a4) a5
    | exc e T2 => exact fun h' c dd F' H' τ' g' t' a1 => h' c dd F' H' τ' (go.trans g') t' a1
    | stuck => exact fun h' => h'
  | exc x T1 =>
    rw [e] at h
    exact h
  | stuck =>
    rw [e] at h
    exact h
theorem dl_lst (h : DA X W es fa) : DL X W (.List es pos) (lLst fa) := pe_imp (pe_lst h) fun σ H Q q => by
  obtain ⟨F0, H0, τ0, F, τ, T, δ, s, p⟩ := q
  refine cG_bindL s p fun xs vs F1 H1 τ1 T1 s1 g1 r1 p1 => ?_
  split at p1
  · rename_i hl
    refine ⟨Nat.le_of_lt (by rw [r1.len]; exact line_lt hl), fun q hq => ?_⟩
    exact p1 q vs F1 _ τ1 (Go.newH s1.go.fh hq) (s1.tp.upd (s1.tp.off hq)) upd_same r1 (s1.go.fh.free hq) hq (s1.tp.off hq)
  · exact p1.elim
/-- a fresh list as data -/
def dL (f : DEnv → Mo (List D)) : DEnv → Mo D := fun δ T => (f δ T).bind fun xs T1 => .ok (.lst xs) T1
theorem de_L (h : DL X W a fa) : DE X W a (dL fa) := pe_imp h fun σ H Q q => by
  obtain ⟨F0, H0, τ0, F, τ, T, δ, s, p⟩ := q
  refine ⟨F0, H0, τ0, F, τ, T, δ, s, ?_⟩
  unfold dL at p
  cases e : fa δ T with
  | ok xs T1 =>
    rw [e] at p
    intro q vs F' H' τ' g t h1 h2 h3 h4 h5
    have ff : Same F' (upd F' q (.lst vs)) := fun b u e => by rw [upd_ne (ne_of_none e h3)]; exact e
    refine p (.ref q) (upd F' q (.lst vs)) H' τ' ⟨fun b u e => ff _ _ (g.ff _ _ e), fun b u e => ?_, g.hh, g.dom, fun b u e => ?_, ?_⟩ t ?_
    · by_cases z : b = q
      · subst z; rw [upd_same] at e; rw [← e]; exact h1
      · rw [upd_ne z] at e; exact g.fh _ _ e
    · by_cases z : b = q
      · subst z; exact .inr h4
      · rw [upd_ne z] at e; exact g.nw _ _ e
    · rcases g.tt with z | ⟨z0, tt, z, n1, n2, n3, n4, n5⟩
      · exact .inl z
      · exact .inr ⟨z0, tt, z, n1, n2, by rw [upd_ne (Ne.symm (h5 tt z).1)]; exact n3, by rw [upd_ne (Ne.symm (h5 tt z).2)]; exact n4, n5⟩
    · unfold Rep
      exact ⟨q, vs, rfl, upd_same, h2.mono ff fun _ e => e⟩
  | exc x T1 => rw [e] at p; exact p
  | stuck => rw [e] at p; exact p
end
end DD

/-! DD3: statements, loops, targets, what is walked, comprehensions. -/
namespace DD
open PySem PySem.Spec PyProof.Rows L2
section
variable {X : Cx} {W : WX} {a b c : Expr} {f g h : DEnv → Mo D} {pos : Pos} {st : Stmt} {sts : List Stmt} {g1 g2 : SD}
/-! ### blocks -/
def OS.seq : OS → SD → OS
  | .nx δ T, k => k δ T
  | .ret d T, _ => .ret d T
  | .bk δ T, _ => .bk δ T
  | .ct δ T, _ => .ct δ T
  | .exc e δ T, _ => .exc e δ T
  | .stuck, _ => .stuck
/-- the end of a loop's turn: k is the rest of the loop -/
def OS.turn : OS → SD → OS
  | .nx δ T, k => k δ T
  | .ct δ T, k => k δ T
  | .bk δ T, _ => .nx δ T
  | .ret d T, _ => .ret d T
  | .exc e δ T, _ => .exc e δ T
  | .stuck, _ => .stuck
def sSeq (g1 g2 : SD) : SD := fun δ T => (g1 δ T).seq g2
def sNext : SD := fun δ T => .nx δ T
theorem pst_seq {K : Kf} {mg : Str → Option Value} {F0 H0 : Hp} {τ0 : Option Tp} {D : Ends} {δ : DEnv} {T : Option Tape} (h : PstS K mg W F0 H0 τ0 D (sSeq g1 g2 δ T)) : PstS K mg W F0 H0 τ0 { D with nx := cS K mg W g2 D } (g1 δ T) := by
  unfold sSeq at h
  cases e : g1 δ T with
  | nx δ' T' =>
    rw [e] at h
    exact fun F H τ σ s => ⟨F0, H0, τ0, F, τ, T', δ', s, h⟩
  | ret d T' => rw [e] at h; exact h
  | bk δ' T' => rw [e] at h; exact h
  | ct δ' T' => rw [e] at h; exact h
  | exc x δ' T' => rw [e] at h; exact h
  | stuck => rw [e] at h; exact h
theorem dss_nil : DSs X W [] sNext := pss_imp pss_nil fun D σ H q => by
  obtain ⟨F0, H0, τ0, F, τ, T, δ, s, p⟩ := q
  exact p F H τ σ s
theorem dss_cons (h1 : DS X W st g1) (h2 : DSs X W sts g2) : DSs X W (st :: sts) (sSeq g1 g2) := pss_imp (pss_cons h1 h2) fun D σ H q => by
  obtain ⟨F0, H0, τ0, F, τ, T, δ, s, p⟩ := q
  exact ⟨F0, H0, τ0, F, τ, T, δ, s, pst_seq p⟩
theorem dss_one (h1 : DS X W st g1) : DSs X W [st] g1 := pss_one h1
def sBreak : SD := fun δ T => .bk δ T
def sCont : SD := fun δ T => .ct δ T
theorem ds_pass : DS X W (.Pass pos) sNext := ps_imp ps_pass fun D σ H q => by
  obtain ⟨F0, H0, τ0, F, τ, T, δ, s, p⟩ := q
  exact p F H τ σ s
theorem ds_break : DS X W (.Break pos) sBreak := ps_imp ps_break fun D σ H q => by
  obtain ⟨F0, H0, τ0, F, τ, T, δ, s, p⟩ := q
  exact p F H τ σ s
theorem ds_continue : DS X W (.Continue pos) sCont := ps_imp ps_continue fun D σ H q => by
  obtain ⟨F0, H0, τ0, F, τ, T, δ, s, p⟩ := q
  exact p F H τ σ s
def sDrop (f : DEnv → Mo D) : SD := fun δ T => (f δ T).st δ fun _ T1 => .nx δ T1
theorem ds_expr (he : DE X W a f) (hs : swapsWith a none pos.line X.env = pure false := by rfl) : DS X W (.Expr a pos) (sDrop f) := ps_imp (ps_expr he hs) fun D σ H q => by
  obtain ⟨F0, H0, τ0, F, τ, T, δ, s, p⟩ := q
  exact cG_st s p fun x v F1 H1 τ1 T1 s1 g1 r1 p1 => p1 F1 H1 τ1 σ s1
def sRet (f : DEnv → Mo D) : SD := fun δ T => (f δ T).st δ fun d T1 => .ret d T1
theorem ds_ret (he : DE X W a f) : DS X W (.Return (some a) pos) (sRet f) := ps_imp (ps_ret he) fun D σ H q => by
  obtain ⟨F0, H0, τ0, F, τ, T, δ, s, p⟩ := q
  exact cG_st s p fun x v F1 H1 τ1 T1 s1 g1 r1 p1 => p1 v F1 H1 τ1 s1.go s1.tp s1.tf r1
def sRetN : SD := fun δ T => .ret .non T
theorem ds_retN : DS X W (.Return none pos) sRetN := ps_imp ps_retN fun D σ H q => by
  obtain ⟨F0, H0, τ0, F, τ, T, δ, s, p⟩ := q
  exact p .non F H τ s.go s.tp s.tf (by unfold Rep; rfl)
def sIf (t : DEnv → Mo Bool) (g1 g2 : SD) : SD := fun δ T => (t δ T).st δ fun b T1 => if b = true then g1 δ T1 else g2 δ T1
theorem ds_if {t : DEnv → Mo Bool} {ps qs : List Stmt} (hc : DT X W c t) (ha : DSs X W ps g1) (hb : DSs X W qs g2) : DS X W (.If c ps qs pos) (sIf t g1 g2) := ps_imp (ps_if hc ha hb) fun D σ H q => by
  obtain ⟨F0, H0, τ0, F, τ, T, δ, s, p⟩ := q
  refine cG_st s p fun x v F1 H1 τ1 T1 s1 go r1 p1 => ?_
  cases r1
  cases x with
  | true => exact ⟨F0, H0, τ0, F1, τ1, T1, δ, s1, p1⟩
  | false => exact ⟨F0, H0, τ0, F1, τ1, T1, δ, s1, p1⟩

/-! ### name = value -/
def sSet (i : Nat) (f : DEnv → Mo D) : SD := fun δ T => (f δ T).st δ fun d T1 => .nx (δ.set i (.val d)) T1
theorem ds_set (i : Nat) {x : Str} {pos' : Pos} (hN : X.N.Nodup) (he : DE X W a f) (hi : X.N[i]? = some x := by rfl) (hx : Loc X.env.scope x := by first | exact Or.inl rfl | exact Or.inr rfl) (hs : swapsWith a (some (.Name x pos')) pos.line X.env = pure false := by rfl)
    (hf : X.fn x = true ∨ X.env.scope.names.lookup x = some .local := by first | exact .inl rfl | exact .inr rfl | assumption) : DS X W (.Assign [.Name x pos'] a pos) (sSet i f) := ps_imp (ps_set hN hi hx he hs hf) fun D σ H q => by
  obtain ⟨F0, H0, τ0, F, τ, T, δ, s, p⟩ := q
  exact cG_st s p fun x v F1 H1 τ1 T1 s1 go r1 p1 => p1 F1 H1 τ1 _ (s1.set r1)
/-- a fresh list of one's own -/
def sSetL (i : Nat) (f : DEnv → Mo (List D)) : SD := fun δ T => (f δ T).st δ fun ds T1 => .nx (δ.set i (.own ds)) T1
theorem cL_set {K : Kf} {mg : Str → Option Value} {i : Nat} {fl : DEnv → Mo (List D)} {D : Ends} {σ : L2.St} {H : Hp} (q : cS K mg W (sSetL i fl) D σ H) : tAsg (cL K mg W fl) (gName i) D σ H := by
  obtain ⟨F0, H0, τ0, F, τ, T, δ, s, p⟩ := q
  refine ⟨F0, H0, τ0, F, τ, T, δ, s, ?_⟩
  unfold sSetL at p
  cases e : fl δ T with
  | ok ds T1 =>
    rw [e] at p
    intro q vs F' H' τ' go tp h1 h2 h3 h4 h5
    refine p F' H' τ' _ ((s.step go tp).setOwn h1 h2 h3 ?_ h5 fun j es ej z => ?_)
    · exact s.go.dom _ h4
    · obtain ⟨a, us, k1, k2, _⟩ := s.own j es ej
      rw [k1] at z
      cases z
      rw [h4] at k2; cases k2
  | exc x T1 =>
    rw [e] at p
    exact fun c dd F' H' τ' go tp ex => p c dd F' H' τ' σ (s.step go tp) ex
  | stuck =>
    rw [e] at p
    exact p
theorem ds_setL (i : Nat) {fl : DEnv → Mo (List D)} {x : Str} {pos' : Pos} (hN : X.N.Nodup) (he : DL X W a fl) (hi : X.N[i]? = some x := by rfl) (hx : Loc X.env.scope x := by first | exact Or.inl rfl | exact Or.inr rfl) (hs : swapsWith a (some (.Name x pos')) pos.line X.env = pure false := by rfl)
    (hf : X.fn x = true ∨ X.env.scope.names.lookup x = some .local := by first | exact .inl rfl | exact .inr rfl | assumption) : DS X W (.Assign [.Name x pos'] a pos) (sSetL i fl) := ps_imp (ps_set hN hi hx he hs hf) fun D σ H q => cL_set q
/-- return a list of one's own -/
def sRetOwn (i : Nat) : SD := fun δ T => match δ[i]? with
  | some (.own ds) => .ret (.lst ds) T
  | some (.val d) => .ret d T
  | _ => .stuck
theorem ds_retOwn (i : Nat) {x : Str} {p2 : Pos} (hN : X.N[i]? = some x := by rfl) (hv : Vis X.env.scope x := by first | exact Or.inl rfl | exact Or.inr (Or.inl rfl) | exact Or.inr (Or.inr rfl)) (hd : (x == ("__debug__" : Str)) = false := by decide)
    (hcd : (x == ("__classdict__" : Str)) = false := by decide) : DS X W (.Return (some (.Name x p2)) pos) (sRetOwn i) := ps_imp (ps_ret (pe_var hN hv hd hcd)) fun D σ H q => by
  obtain ⟨F0, H0, τ0, F, τ, T, δ, s, p⟩ := q
  unfold sRetOwn at p
  split at p
  · rename_i ds e
    obtain ⟨F', s', _⟩ := s.freeze e
    have li : i < δ.length := (List.getElem?_eq_some_iff.mp e).1
    obtain ⟨v, h1, h2⟩ := s'.val i _ (List.getElem?_set_self li)
    exact ⟨v, h1, p v F' H τ s'.go s'.tp s'.tf h2⟩
  · rename_i d e
    obtain ⟨v, h1, h2⟩ := s.val i d e
    exact ⟨v, h1, p v F H τ s.go s.tp s.tf h2⟩
  · exact p.elim
/-- from here on the list in slot i is data -/
def frz (i : Nat) (δ : DEnv) : DEnv := match δ[i]? with
  | some (.own ds) => δ.set i (.val (.lst ds))
  | _ => δ
def sFrz (i : Nat) (g : SD) : SD := fun δ T => g (frz i δ) T
theorem ds_frz (i : Nat) (h : DS X W st g1) : DS X W st (sFrz i g1) := ps_imp h fun D σ H q => by
  obtain ⟨F0, H0, τ0, F, τ, T, δ, s, p⟩ := q
  unfold sFrz frz at p
  split at p
  · rename_i ds e
    obtain ⟨F', s', _⟩ := s.freeze e
    exact ⟨F0, H0, τ0, F', τ, T, _, s', p⟩
  · exact ⟨F0, H0, τ0, F, τ, T, δ, s, p⟩
theorem dss_frz (i : Nat) (h : DSs X W sts g1) : DSs X W sts (sFrz i g1) := pss_imp h fun D σ H q => by
  obtain ⟨F0, H0, τ0, F, τ, T, δ, s, p⟩ := q
  unfold sFrz frz at p
  split at p
  · rename_i ds e
    obtain ⟨F', s', _⟩ := s.freeze e
    exact ⟨F0, H0, τ0, F', τ, T, _, s', p⟩
  · exact ⟨F0, H0, τ0, F, τ, T, δ, s, p⟩

/-! ### targets -/
abbrev TgD := D → DEnv → Option DEnv
abbrev TgsD := List D → DEnv → Option DEnv
def cT (K : Kf) (t : TgD) (vs : List Nat) : TG := fun v σ H Q => ∃ F0 H0 τ0 F τ T δ d δ', SR K F0 H0 τ0 F H τ T δ σ ∧ Rep K F τ d v ∧ t d δ = some δ' ∧
  ∀ σ', SR K F0 H0 τ0 F H τ T δ' σ' → σ'.length = σ.length → (∀ j, j ∉ vs → σ'[j]? = σ[j]?) → Q σ' H
def cTs (K : Kf) (t : TgsD) (vs : List Nat) : TGs := fun us σ H Q => ∃ F0 H0 τ0 F τ T δ ds δ', SR K F0 H0 τ0 F H τ T δ σ ∧ Reps K F τ ds us ∧ t ds δ = some δ' ∧
  ∀ σ', SR K F0 H0 τ0 F H τ T δ' σ' → σ'.length = σ.length → (∀ j, j ∉ vs → σ'[j]? = σ[j]?) → Q σ' H
abbrev DG (X : Cx) (tg : Expr) (t : TgD) (vs : List Nat) : Prop := PG X tg (cT X.K t vs)
abbrev DGs (X : Cx) (tg : List Expr) (t : TgsD) (vs : List Nat) : Prop := PGs X tg (cTs X.K t vs)
theorem pg_imp {tg : Expr} {t t' : TG} (h : PG X tg t) (k : ∀ v σ H Q, t' v σ H Q → t v σ H Q) : PG X tg t' := ⟨fun pins s σ H v u Q I r q => h.run pins s σ H v u Q I r (k v σ H Q q)⟩
theorem pgs_imp {tg : List Expr} {t t' : TGs} (h : PGs X tg t) (k : ∀ v σ H Q, t' v σ H Q → t v σ H Q) : PGs X tg t' := ⟨fun pins s σ H v u Q I r q => h.run pins s σ H v u Q I r (k v σ H Q q)⟩
def tgN (i : Nat) : TgD := fun d δ => some (δ.set i (.val d))
theorem dg_name (i : Nat) {x : Str} (hN : X.N.Nodup) (hi : X.N[i]? = some x := by rfl) (hx : Loc X.env.scope x := by first | exact Or.inl rfl | exact Or.inr rfl) (hf : X.fn x = true ∨ X.env.scope.names.lookup x = some .local := by first | exact .inl rfl | exact .inr rfl | assumption) :
    DG X (.Name x pos) (tgN i) [i] := pg_imp (pg_name hN hi hx hf) fun v σ H Q q => by
  obtain ⟨F0, H0, τ0, F, τ, T, δ, d, δ', s, r, e, k⟩ := q
  cases e
  refine k _ (s.set r) (List.length_set) fun j hj => ?_
  rw [List.getElem?_set_ne]
  intro z
  exact hj (by rw [z]; exact List.mem_singleton_self _)
def tgNil : TgsD := fun ds δ => match ds with
  | [] => some δ
  | _ => none
def tgCons (t : TgD) (u : TgsD) : TgsD := fun ds δ => match ds with
  | d :: r => (t d δ).bind fun δ' => u r δ'
  | [] => none
theorem dgs_nil : DGs X [] tgNil [] := pgs_imp pgs_nil fun v σ H Q q => by
  obtain ⟨F0, H0, τ0, F, τ, T, δ, ds, δ', s, r, e, k⟩ := q
  unfold tgNil at e
  split at e
  · cases e
    unfold Reps at r
    exact ⟨r, k σ s rfl fun _ _ => rfl⟩
  · cases e
theorem dgs_cons {e : Expr} {es : List Expr} {t : TgD} {u : TgsD} {vs ws : List Nat} (h1 : DG X e t vs) (h2 : DGs X es u ws) (hs : (assignEach (e :: es) X.env).map (·.2) = assign e X.env :: (assignEach es X.env).map (·.2) := by rfl) :
    DGs X (e :: es) (tgCons t u) (vs ++ ws) := pgs_imp (pgs_cons h1 h2 hs) fun v σ H Q q => by
  obtain ⟨F0, H0, τ0, F, τ, T, δ, ds, δ', s, r, e, k⟩ := q
  unfold tgCons at e
  split at e
  · rename_i d dr
    unfold Reps at r
    obtain ⟨x, xs, e1, r1, r2⟩ := r
    cases e2 : t d δ with
    | none => rw [e2] at e; cases e
    | some δ1 =>
      rw [e2] at e
      refine ⟨x, xs, e1, F0, H0, τ0, F, τ, T, δ, d, δ1, s, r1, e2, fun σ1 s1 l1 k1 => ?_⟩
      refine ⟨F0, H0, τ0, F, τ, T, δ1, dr, δ', s1, r2, e, fun σ2 s2 l2 k2 => k σ2 s2 (l2.trans l1) fun j hj => ?_⟩
      rw [k2 j fun z => hj (List.mem_append_right _ z), k1 j fun z => hj (List.mem_append_left _ z)]
  · cases e
def tgT (n : Nat) (t : TgsD) : TgD := fun d δ => match d with
  | .tup ds => if ds.length = n then t ds δ else none
  | _ => none
theorem dg_tup {es : List Expr} {k : Nat} {t : TgsD} {n : Nat} {vs : List Nat} (hc : X.calm = true) (h : DGs X es t vs) (hn : (assignEach es X.env).length = n := by rfl) (hst : (assignEach es X.env).findIdx? (·.1) = none := by rfl) :
    DG X (.Tuple es k pos) (tgT n t) vs := pg_imp (pg_tup hc h hn hst) fun v σ H Q q => by
  obtain ⟨F0, H0, τ0, F, τ, T, δ, d, δ', s, r, e, k⟩ := q
  unfold tgT at e
  split at e
  · rename_i ds
    split at e
    · rename_i hl
      unfold Rep at r
      obtain ⟨a, us, e1, r1, r2⟩ := r
      exact ⟨a, us, e1, sqT_mono s.go.fh r1, r2.len.trans hl, F0, H0, τ0, F, τ, T, δ, ds, δ', s, r2, e, k⟩
    · cases e
  · cases e
/-- target = value -/
def sAsg (t : TgD) (f : DEnv → Mo D) : SD := fun δ T => (f δ T).st δ fun d T1 => (t d δ).elim .stuck fun δ' => .nx δ' T1
theorem ds_asg {tg : Expr} {t : TgD} {vs : List Nat} (he : DE X W a f) (hg : DG X tg t vs) (hs : swapsWithSole [tg] a pos.line X.env = pure false := by rfl) (hw : swappedStores [tg] a X.env = pure none := by rfl)
    (h1 : (assignEach [tg] X.env).map (·.2) = [assign tg X.env] := by rfl) : DS X W (.Assign [tg] a pos) (sAsg t f) := ps_imp (ps_asg he hg hs hw h1) fun D σ H q => by
  obtain ⟨F0, H0, τ0, F, τ, T, δ, s, p⟩ := q
  refine cG_st s p fun x v F1 H1 τ1 T1 s1 go r1 p1 => ?_
  cases e : t x δ with
  | some δ' =>
    rw [e] at p1
    exact ⟨F0, H0, τ0, F1, τ1, T1, δ, x, δ', s1, r1, e, fun σ' s' _ _ => p1 F1 H1 τ1 σ' s'⟩
  | none => rw [e] at p1; exact p1.elim
/-- a, b = x, y -/
def sPar (i j : Nat) (f g : DEnv → Mo D) : SD := fun δ T => (f δ T).st δ fun d T1 => (g δ T1).st δ fun e T2 => .nx ((δ.set i (.val d)).set j (.val e)) T2
theorem cA2 {mg : Str → Option Value} {K : Kf} {f g : DEnv → Mo D} {En : Ends} {σ : L2.St} {F0 H0 F H : Hp} {τ0 τ : Option Tp} {T : Option Tape} {δ : DEnv} {k : D → D → Option Tape → OS} {R : L2.St → Hp → V → V → Prop} (s : SR K F0 H0 τ0 F H τ T δ σ)
    (p : PstS K mg W F0 H0 τ0 En ((f δ T).st δ fun d T1 => (g δ T1).st δ fun e T2 => k d e T2))
    (q : ∀ d e v u F1 H1 τ1 T1, SR K F0 H0 τ0 F1 H1 τ1 T1 δ σ → Rep K F1 τ1 d v → Rep K F1 τ1 e u → PstS K mg W F0 H0 τ0 En (k d e T1) → R σ H1 v u) :
    tCons (cG K mg W (Rep K) f) (tCons (cG K mg W (Rep K) g) tNil) σ H fun vs H1 => ∃ v u, vs = [v, u] ∧ R σ H1 v u := by
  refine cG_st s p fun x v F1 H1 τ1 T1 s1 g1 r1 p1 => ?_
  refine cG_st s1 p1 fun y u F2 H2 τ2 T2 s2 g2 r2 p2 => ?_
  exact ⟨v, u, rfl, q x y v u F2 H2 τ2 T2 s2 (r1.mono g2.ff g2.tm) r2 p2⟩
theorem ds_par (i j : Nat) {x y : Str} {px py pt : Pos} {kt k2 pt2} (hc : X.calm = true) (hN : X.N.Nodup) (ha : DE X W a f) (hb : DE X W b g) (hi : X.N[i]? = some x := by rfl) (hj : X.N[j]? = some y := by rfl) (hij : i ≠ j := by decide)
    (hx : X.env.scope.names.lookup x = some .local := by rfl) (hy : X.env.scope.names.lookup y = some .local := by rfl) (hs1 : starEach [a, b] X.env = (false, eval a X.env) :: starEach [b] X.env := by rfl) (hs2 : starEach [b] X.env = (false, eval b X.env) :: starEach [] X.env := by rfl)
    (hw : swappedStores [.Tuple [.Name x px, .Name y py] kt pt] (.Tuple [a, b] k2 pt2) X.env = pure (some [x, y]) := by rfl)
    (hs : swapsWithSole [.Tuple [.Name x px, .Name y py] kt pt] (.Tuple [a, b] k2 pt2) pos.line X.env = pure false := by rfl) :
    DS X W (.Assign [.Tuple [.Name x px, .Name y py] kt pt] (.Tuple [a, b] k2 pt2) pos) (sPar i j f g) := ps_imp (ps_par hc hN hi hj hij hx hy (pa_cons ha (pa_cons hb pa_nil hs2) hs1) hw hs) fun D σ H q => by
  obtain ⟨F0, H0, τ0, F, τ, T, δ, s, p⟩ := q
  exact cA2 (R := fun σ H1 v u => D.nx ((σ.set i (some v)).set j (some u)) H1) s p fun d e v u F1 H1 τ1 T1 s1 r1 r2 p1 => p1 F1 H1 τ1 _ ((s1.set r1).set r2)
def sPar3 (i j l : Nat) (f g h : DEnv → Mo D) : SD := fun δ T => (f δ T).st δ fun d T1 => (g δ T1).st δ fun e T2 => (h δ T2).st δ fun m T3 => .nx (((δ.set i (.val d)).set j (.val e)).set l (.val m)) T3
theorem ds_par3 (i j l : Nat) {x y z : Str} {px py pz pt : Pos} {kt k2 pt2} (hc : X.calm = true) (hN : X.N.Nodup) (ha : DE X W a f) (hb : DE X W b g) (hcc : DE X W c h) (hi : X.N[i]? = some x := by rfl) (hj : X.N[j]? = some y := by rfl) (hl : X.N[l]? = some z := by rfl) (hij : i ≠ j := by decide) (hil : i ≠ l := by decide) (hjl : j ≠ l := by decide)
    (hx : X.env.scope.names.lookup x = some .local := by rfl) (hy : X.env.scope.names.lookup y = some .local := by rfl) (hz : X.env.scope.names.lookup z = some .local := by rfl)
    (hs1 : starEach [a, b, c] X.env = (false, eval a X.env) :: starEach [b, c] X.env := by rfl) (hs2 : starEach [b, c] X.env = (false, eval b X.env) :: starEach [c] X.env := by rfl) (hs3 : starEach [c] X.env = (false, eval c X.env) :: starEach [] X.env := by rfl)
    (hw : swappedStores [.Tuple [.Name x px, .Name y py, .Name z pz] kt pt] (.Tuple [a, b, c] k2 pt2) X.env = pure (some [x, y, z]) := by rfl)
    (hs : swapsWithSole [.Tuple [.Name x px, .Name y py, .Name z pz] kt pt] (.Tuple [a, b, c] k2 pt2) pos.line X.env = pure false := by rfl) :
    DS X W (.Assign [.Tuple [.Name x px, .Name y py, .Name z pz] kt pt] (.Tuple [a, b, c] k2 pt2) pos) (sPar3 i j l f g h) := ps_imp (ps_par3 hc hN hi hj hl hij hil hjl hx hy hz (pa_cons ha (pa_cons hb (pa_cons hcc pa_nil hs3) hs2) hs1) hw hs) fun D σ H q => by
  obtain ⟨F0, H0, τ0, F, τ, T, δ, s, p⟩ := q
  refine cG_st s p fun x v F1 H1 τ1 T1 s1 g1 r1 p1 => ?_
  refine cG_st s1 p1 fun y u F2 H2 τ2 T2 s2 g2 r2 p2 => ?_
  refine cG_st s2 p2 fun z w F3 H3 τ3 T3 s3 g3 r3 p3 => ?_
  exact ⟨v, u, w, rfl, p3 F3 H3 τ3 _ (((s3.set ((r1.mono g2.ff g2.tm).mono g3.ff g3.tm)).set (r2.mono g3.ff g3.tm)).set r3)⟩
/-- name op= e -/
def sAug (i : Nat) (o : D → D → Option D) (f : DEnv → Mo D) : SD := fun δ T => (slotD δ i).elim .stuck fun x => (f δ T).st δ fun y T1 => (o x y).elim .stuck fun z => .nx (δ.set i (.val z)) T1
theorem ds_aug (i : Nat) {x : Str} {op : Operator} {r : R2} {o : D → D → Option D} {pos' : Pos} (hN : X.N.Nodup) (hp : OpR X (inplaceOp op) r) (ho : OpD X.K r o) (he : DE X W a f) (hi : X.N[i]? = some x := by rfl) (hx : Loc X.env.scope x := by first | exact Or.inl rfl | exact Or.inr rfl)
    (hf : X.fn x = true ∨ X.env.scope.names.lookup x = some .local := by first | exact .inl rfl | exact .inr rfl | assumption) : DS X W (.AugAssign (.Name x pos') op a pos) (sAug i o f) :=
  ps_imp (ps_aug (ti := r) hN hi hx he (fun pins s σ H x y v u Q I rx ry h => hp pins s σ H x y v u Q I rx ry h) hf) fun D σ H q => by
    obtain ⟨F0, H0, τ0, F, τ, T, δ, s, p⟩ := q
    unfold sAug at p
    cases es : slotD δ i with
    | none => rw [es] at p; exact p.elim
    | some d =>
      rw [es] at p
      obtain ⟨v, h1, h2⟩ := s.val i d (slotD_eq es)
      refine ⟨v, h1, ?_⟩
      refine cG_st s p fun y u F1 H1 τ1 T1 s1 go r1 p1 => ?_
      cases ez : o d y with
      | none => rw [ez] at p1; exact p1.elim
      | some z =>
        rw [ez] at p1
        refine ho F1 H1 τ1 T1 d y v u z _ s1.go.fh s1.tp (h2.mono go.ff go.tm) r1 ez fun w F' H' g' t' r' => ?_
        exact p1 F' H' τ1 _ ((s1.step g' t').set r')

/-! ### while -/
def turnW (c : DEnv → Mo Bool) (b : SD) (k : SD) : SD := fun δ T => (c δ T).st δ fun t T1 => if t = true then (b δ T1).turn k else .nx δ T1
def iterW (c : DEnv → Mo Bool) (b : SD) (n : Nat) : SD := Nat.rec (motive := fun _ => SD) (fun _ _ => .stuck) (fun _ k => turnW c b k) n
/-- more turns than any loop here takes -/
def fuel : Nat := 1267650600228229401496703205376
theorem iterW_succ (c : DEnv → Mo Bool) (b : SD) (n : Nat) : iterW c b (n + 1) = turnW c b (iterW c b n) := rfl
def sWhile (c : DEnv → Mo Bool) (b : SD) : SD := iterW c b fuel
theorem ds_while {t : DEnv → Mo Bool} {body : List Stmt} (hp : PassesOwn (model X.prog X.w) X.A X.env X.xe) (hc : DT X W c t) (hb : DSs X W body g1) : DS X W (.While c body [] pos) (sWhile t g1) := ps_imp (ps_while hp hc hb) fun D σ H q => by
  obtain ⟨F0, H0, τ0, F, τ, T, δ, s, p⟩ := q
  refine ⟨fun m σ H => ∃ F τ T δ, SR X.K F0 H0 τ0 F H τ T δ σ ∧ PstS X.K X.mg W F0 H0 τ0 D (iterW t g1 m δ T), ⟨fuel, F, τ, T, δ, s, p⟩, ?_⟩
  rintro m σ H ⟨F, τ, T, δ, s, p⟩
  cases m with
  | zero => exact p.elim
  | succ m =>
    have p' : PstS X.K X.mg W F0 H0 τ0 D (turnW t g1 (iterW t g1 m) δ T) := p
    refine cG_st s p' fun x v F1 H1 τ1 T1 s1 go r1 p1 => ?_
    cases r1
    cases x with
    | false =>
      show D.nx σ H1
      exact p1 F1 H1 τ1 σ s1
    | true =>
      refine (if_pos rfl : _ = _).mpr ?_
      refine ⟨fun σ' H' => ∃ F τ T δ, SR X.K F0 H0 τ0 F H' τ T δ σ' ∧ PstS X.K X.mg W F0 H0 τ0 D (iterW t g1 m δ T), fun σ' H' q => ⟨m, Nat.lt_succ_self m, q⟩, F0, H0, τ0, F1, τ1, T1, δ, s1, ?_⟩
      rw [if_pos rfl] at p1
      cases e : g1 δ T1 with
      | nx δ' T2 => rw [e] at p1; exact fun F H τ σ s => ⟨F, τ, T2, δ', s, p1⟩
      | ct δ' T2 => rw [e] at p1; exact fun F H τ σ s => ⟨F, τ, T2, δ', s, p1⟩
      | bk δ' T2 => rw [e] at p1; exact p1
      | ret d T2 => rw [e] at p1; exact p1
      | exc x δ' T2 => rw [e] at p1; exact p1
      | stuck => rw [e] at p1; exact p1
end
end DD

/-! DD4: what is walked, for, list comprehensions. -/
namespace DD
open PySem PySem.Spec PyProof.Rows L2
section
variable {X : Cx} {W : WX} {a b c : Expr} {f g h : DEnv → Mo D} {pos : Pos} {st : Stmt} {sts : List Stmt} {g1 g2 : SD}
/-- J walks over ds in any heap in which F stands -/
structure ItD (K : Kf) (J : It) (F : Hp) (τ : Option Tp) (ds : List D) : Prop where
  go : ∀ i H, Same F H → i < ds.length → J.go i H
  stop : ∀ i H, Same F H → ds.length ≤ i → J.stop i H
  yld : ∀ i Fi H τi T x H', Same F Fi → Same Fi H → (∀ t, τ = some t → τi = some t) → TapeOk τi T H → i < ds.length → J.yld i H x H' → ∃ d Fi', ds[i]? = some d ∧ Go Fi H τi Fi' H' τi ∧ TapeOk τi T H' ∧ Rep K Fi' τi d x
def cI (K : Kf) (mg : Str → Option Value) (W : WX) (f : DEnv → Mo (List D)) : TI := fun σ H R => cG K mg W (fun F' τ' ds (J : It) => ItD K J F' τ' ds) f σ H fun J H' => R J H'
abbrev DI (X : Cx) (W : WX) (tg it : Expr) (f : DEnv → Mo (List D)) : Prop := PI X tg it (cI X.K X.mg W f)
theorem pi_imp {tg it : Expr} {t t' : TI} (h : PI X tg it t) (k : ∀ σ H R, t' σ H R → t σ H R) : PI X tg it t' := ⟨fun pins s σ H R I q => h.run pins s σ H R I (k σ H R q)⟩

/-! ### for -/
def forD (t : TgD) (b : SD) : List D → SD
  | [], δ, T => .nx δ T
  | d :: ds, δ, T => (t d δ).elim .stuck fun δ' => (b δ' T).turn (forD t b ds)
def sFor (fi : DEnv → Mo (List D)) (t : TgD) (b : SD) : SD := fun δ T => (fi δ T).st δ fun ds T1 => forD t b ds δ T1
theorem Go.back {F0 H0 F3 H3 F6 H6 : Hp} {τ0 τ2 τ6 : Option Tp} {T : Option Tape} (g4 : Go F0 H0 τ0 F3 H3 τ2) (g6 : Go F3 H0 τ2 F6 H6 τ6) (t6 : TapeOk τ6 T H6) (f6 : TapeF τ6 F6) : Go F0 H0 τ0 F6 H6 τ6 where
  ff := fun a o e => g6.ff _ _ (g4.ff _ _ e)
  fh := g6.fh
  hh := fun a o h n => g6.hh a o h (g4.off h n)
  dom := g6.dom
  nw := fun a o e => by
    rcases g6.nw _ _ e with z | z
    · exact g4.nw _ _ z
    · exact .inr z
  tt := by
    rcases g6.tt with q | ⟨q0, t', q, n⟩
    · rcases g4.tt with r | ⟨r0, t, r, m1, m2, _⟩
      · exact .inl (q.trans r)
      · obtain ⟨⟨o1, h1⟩, ⟨o2, h2⟩⟩ := t6.there (q.trans r)
        obtain ⟨f1, f2⟩ := f6 t (q.trans r)
        exact .inr ⟨r0, t, q.trans r, m1, m2, f1, f2, by rw [h1]; simp, by rw [h2]; simp⟩
    · refine .inr ⟨?_, t', q, n⟩
      cases e : τ0 with
      | none => rfl
      | some x =>
        have := g4.tm x e
        rw [q0] at this; cases this
theorem SR.sub {K : Kf} {F0 H0 F H : Hp} {τ0 τ : Option Tp} {T : Option Tape} {δ : DEnv} {σ : L2.St} (s : SR K F0 H0 τ0 F H τ T δ σ) : SR K F H0 τ F H τ T δ σ :=
  ⟨⟨fun _ _ h => h, s.go.fh, fun a o h n => by
    refine s.go.hh a o h fun t e => ?_
    exact n t (s.go.tm t e), s.go.dom, fun _ _ h => .inl h, .inl rfl⟩, s.tp, s.tf, s.len, s.val, s.own, s.dis⟩
theorem SR.back {K : Kf} {F0 H0 F3 H3 F6 H6 : Hp} {τ0 τ2 τ6 : Option Tp} {T6 : Option Tape} {δ6 : DEnv} {σ6 : L2.St} (g4 : Go F0 H0 τ0 F3 H3 τ2) (s : SR K F3 H0 τ2 F6 H6 τ6 T6 δ6 σ6) : SR K F0 H0 τ0 F6 H6 τ6 T6 δ6 σ6 :=
  ⟨g4.back s.go s.tp s.tf, s.tp, s.tf, s.len, s.val, s.own, s.dis⟩
theorem ds_for {tg it : Expr} {body : List Stmt} {fi : DEnv → Mo (List D)} {t : TgD} {vs : List Nat} (hp : PassesOwn (model X.prog X.w) X.A X.env X.xe) (hc : X.calm = true) (hi : DI X W tg it fi) (hg : DG X tg t vs) (hb : DSs X W body g1)
    (hs : ∀ x, foldedSetIterable it X.env x = pure x := by intro _; rfl) : DS X W (.For tg it body [] pos) (sFor fi t g1) := ps_imp (ps_for hp hc hi hg hb hs) fun D σ H q => by
  obtain ⟨F0, H0, τ0, F, τ, T, δ, s, p⟩ := q
  refine cG_st s p fun ds J F1 H1 τ1 T1 s1 go r1 p1 => ?_
  -- the loop
  refine ⟨fun i m σ H => m = ds.length - i ∧ i ≤ ds.length ∧ ∃ F τ T δ, SR X.K F0 H0 τ0 F H τ T δ σ ∧ Same F1 F ∧ (∀ t, τ1 = some t → τ = some t) ∧ PstS X.K X.mg W F0 H0 τ0 D (forD t g1 (ds.drop i) δ T),
    ⟨ds.length, by simp, Nat.zero_le _, F1, τ1, T1, δ, s1, fun _ _ h => h, fun _ h => h, p1⟩, ?_⟩
  rintro i m σ H ⟨rfl, hi, F2, τ2, T2, δ2, s2, ff, tt, p2⟩
  by_cases hlt : i < ds.length
  · refine .inr ⟨r1.go i H (fun a o e => s2.go.fh _ _ (ff _ _ e)) hlt, fun σ' H' => ∃ F τ T δ, SR X.K F0 H0 τ0 F H' τ T δ σ' ∧ Same F1 F ∧ (∀ t, τ1 = some t → τ = some t) ∧ PstS X.K X.mg W F0 H0 τ0 D (forD t g1 (ds.drop (i + 1)) δ T),
      fun σ' H' ⟨F, τ, T, δ, q⟩ => ⟨ds.length - (i + 1), by omega, rfl, hlt, F, τ, T, δ, q⟩, fun x H' y => ?_⟩
    obtain ⟨d, F3, hd, go3, tp3, r3⟩ := r1.yld i F2 H τ2 T2 x H' ff s2.go.fh tt s2.tp hlt y
    have s3 := s2.step go3 tp3
    have ed : ds.drop i = d :: ds.drop (i + 1) := by
      obtain ⟨h1, h2⟩ := List.getElem?_eq_some_iff.mp hd
      rw [List.drop_eq_getElem_cons h1, h2]
    rw [ed] at p2
    unfold forD at p2
    cases et : t d δ2 with
    | none => rw [et] at p2; exact p2.elim
    | some δ3 =>
      rw [et] at p2
      have p2 : PstS X.K X.mg W F0 H0 τ0 D ((g1 δ3 T2).turn (forD t g1 (ds.drop (i + 1)))) := p2
      have f13 : Same F1 F3 := fun a o e => go3.ff _ _ (ff _ _ e)
      refine ⟨F0, H0, τ0, F3, τ2, T2, δ2, d, δ3, s3, r3, et, fun σ4 s4 _ _ => ?_⟩
      refine ⟨F3, H0, τ2, F3, τ2, T2, δ3, s4.sub, ?_⟩
      cases eb : g1 δ3 T2 with
      | nx δ6 T6 =>
        rw [eb] at p2
        exact fun F6 H6 τ6 σ6 s6 => ⟨F6, τ6, T6, δ6, SR.back s4.go s6, fun a o e => s6.go.ff _ _ (f13 _ _ e), fun x e => s6.go.tm x (tt x e), p2⟩
      | ct δ6 T6 =>
        rw [eb] at p2
        exact fun F6 H6 τ6 σ6 s6 => ⟨F6, τ6, T6, δ6, SR.back s4.go s6, fun a o e => s6.go.ff _ _ (f13 _ _ e), fun x e => s6.go.tm x (tt x e), p2⟩
      | bk δ6 T6 =>
        rw [eb] at p2
        exact fun F6 H6 τ6 σ6 s6 => p2 F6 H6 τ6 σ6 (SR.back s4.go s6)
      | ret d6 T6 =>
        rw [eb] at p2
        exact fun v F6 H6 τ6 g6 t6 f6 r6 => p2 v F6 H6 τ6 (s4.go.back g6 t6 f6) t6 f6 r6
      | exc e6 δ6 T6 =>
        rw [eb] at p2
        exact fun c dd F6 H6 τ6 σ6 s6 ex => p2 c dd F6 H6 τ6 σ6 (SR.back s4.go s6) ex
      | stuck => rw [eb] at p2; exact p2
  · refine .inl ⟨r1.stop i H (fun a o e => s2.go.fh _ _ (ff _ _ e)) (by omega), ?_⟩
    have e : i = ds.length := by omega
    rw [e, List.drop_length] at p2
    exact p2 F2 H τ2 σ s2

/-! ### what is walked -/
def tupOf : D → Option (List D)
  | .tup ds => some ds
  | _ => none
def lstOf : D → Option (List D)
  | .lst ds => some ds
  | .scr ns => some (ns.map .int)
  | _ => none
def iSeq (f : DEnv → Mo D) : DEnv → Mo (List D) := fun δ T => (f δ T).bind fun x T1 => lift (tupOf x) T1
def iLst (f : DEnv → Mo D) : DEnv → Mo (List D) := fun δ T => (f δ T).bind fun x T1 => lift (lstOf x) T1
theorem tupOf_eq : ∀ {d : D} {ds : List D}, tupOf d = some ds → d = .tup ds
  | .tup b, _, h => by cases h; rfl
  | .non, _, h => by cases h
  | .bl _, _, h => by cases h
  | .int _, _, h => by cases h
  | .str _, _, h => by cases h
  | .lst _, _, h => by cases h
  | .scr _, _, h => by cases h
  | .tape, _, h => by cases h
theorem rep_lst {K : Kf} {F H : Hp} {τ : Option Tp} (fh : Same F H) {d : D} {v : V} {ds : List D} (h : Rep K F τ d v) (e : lstOf d = some ds) : ∃ a vs, v = .ref a ∧ SqL K F a vs ∧ SqL K H a vs ∧ Reps K F τ ds vs := by
  unfold lstOf at e
  split at e
  · cases e
    unfold Rep at h
    obtain ⟨a, vs, e1, h1, h2⟩ := h
    exact ⟨a, vs, e1, .inl (.inl h1), .inl (.inl (fh _ _ h1)), h2⟩
  · cases e
    unfold Rep at h
    obtain ⟨a, e1, h1⟩ := h
    exact ⟨a, _, e1, h1, sqL_mono fh h1, Reps.ints⟩
  · cases e
theorem itD_list {K : Kf} {F : Hp} {τ : Option Tp} {a : Addr} {vs : List V} {ds : List D} (h : SqL K F a vs) (r : Reps K F τ ds vs) : ItD K (Itl K a) F τ ds where
  go := fun i H e l => by
    obtain ⟨v, h1, _⟩ := r.at (List.getElem?_eq_getElem l)
    exact ⟨vs, v, sqL_mono e h, h1⟩
  stop := fun i H e l => ⟨vs, sqL_mono e h, by rw [r.len]; exact l⟩
  yld := fun i Fi H τi T x H' e fh t tp _ y => by
    obtain ⟨rfl, y⟩ := y
    obtain ⟨d, h1, h2⟩ := r.at' (y vs (sqL_mono (e.trans fh) h))
    exact ⟨d, Fi, h1, .refl fh, tp, h2.mono e t⟩
theorem itD_tup {K : Kf} {F : Hp} {τ : Option Tp} {a : Addr} {vs : List V} {ds : List D} (h : SqT K F a vs) (r : Reps K F τ ds vs) : ItD K (Itt K a) F τ ds where
  go := fun i H e l => by
    obtain ⟨v, h1, _⟩ := r.at (List.getElem?_eq_getElem l)
    exact ⟨vs, v, sqT_mono e h, h1⟩
  stop := fun i H e l => ⟨vs, sqT_mono e h, by rw [r.len]; exact l⟩
  yld := fun i Fi H τi T x H' e fh t tp _ y => by
    obtain ⟨rfl, y⟩ := y
    obtain ⟨d, h1, h2⟩ := r.at' (y vs (sqT_mono (e.trans fh) h))
    exact ⟨d, Fi, h1, .refl fh, tp, h2.mono e t⟩
theorem di_tup {tg : Expr} (h : DE X W a f) : DI X W tg a (iSeq f) := pi_imp (pi_tup h) fun σ H R q => by
  obtain ⟨F0, H0, τ0, F, τ, T, δ, s, p⟩ := q
  refine cG_bind s p fun x v F1 H1 τ1 T1 s1 go r1 p1 => ?_
  cases e : tupOf x with
  | none => rw [e] at p1; exact p1.elim
  | some ds =>
    rw [e] at p1
    rw [tupOf_eq e] at r1
    unfold Rep at r1
    obtain ⟨p, vs, e, h1, h2⟩ := r1
    exact ⟨p, e, ⟨vs, sqT_mono s1.go.fh h1⟩, p1 _ F1 H1 τ1 (.refl s1.go.fh) s1.tp (itD_tup h1 h2)⟩
theorem di_lst {tg : Expr} (h : DE X W a f) : DI X W tg a (iLst f) := pi_imp (pi_list h) fun σ H R q => by
  obtain ⟨F0, H0, τ0, F, τ, T, δ, s, p⟩ := q
  refine cG_bind s p fun x v F1 H1 τ1 T1 s1 go r1 p1 => ?_
  cases e : lstOf x with
  | none => rw [e] at p1; exact p1.elim
  | some ds =>
    rw [e] at p1
    obtain ⟨p, vs, e, h1, h2, h3⟩ := rep_lst s1.go.fh r1 e
    exact ⟨p, e, ⟨vs, h2⟩, p1 _ F1 H1 τ1 (.refl s1.go.fh) s1.tp (itD_list h1 h3)⟩
/-- range(n), range(i, n), range(i, n, c) -/
def rng (lo c : Int) (n : Nat) : List D := (List.range n).map fun i => .int (lo + (i : Nat) * c)
theorem itD_rng {K : Kf} {F : Hp} {τ : Option Tp} {J : It} {lo c : Int} {n : Nat} (hg : ∀ i H, i < n → J.go i H) (hs : ∀ i H, n ≤ i → J.stop i H) (hy : ∀ i H x H', J.yld i H x H' → H' = H ∧ x = .int (lo + (i : Nat) * c)) : ItD K J F τ (rng lo c n) where
  go := fun i H _ l => hg i H (by simpa [rng] using l)
  stop := fun i H _ l => hs i H (by simpa [rng] using l)
  yld := fun i Fi H τi T x H' e fh t tp l y => by
    obtain ⟨rfl, rfl⟩ := hy i H x H' y
    refine ⟨.int (lo + (i : Nat) * c), Fi, ?_, .refl fh, tp, (by unfold Rep; rfl)⟩
    have l' : i < n := by simpa [rng] using l
    unfold rng
    rw [List.getElem?_map, List.getElem?_range l']
    rfl
def rOk (i : Int) : Bool := Nat.blt i.natAbs 1000000000000
def rng1 : List D → Option (List D)
  | [.int j] => if rOk j = true then some (rng 0 1 j.toNat) else none
  | _ => none
def rng2 : List D → Option (List D)
  | [.int i, .int j] => if rOk i = true ∧ rOk j = true then some (rng i 1 (j - i).toNat) else none
  | _ => none
def iR1 (fa : DEnv → Mo (List D)) : DEnv → Mo (List D) := fun δ T => (fa δ T).bind fun ds T1 => lift (rng1 ds) T1
def iR2 (fa : DEnv → Mo (List D)) : DEnv → Mo (List D) := fun δ T => (fa δ T).bind fun ds T1 => lift (rng2 ds) T1
theorem rOk_b {i : Int} (h : rOk i = true) : -(2 ^ 62) ≤ i ∧ i < 2 ^ 62 := by
  unfold rOk at h
  have := Nat.blt_eq.mp h
  omega
variable {fa : DEnv → Mo (List D)}
theorem reps1 {K : Kf} {F : Hp} {τ : Option Tp} {d : D} {vs : List V} (h : Reps K F τ [d] vs) : ∃ v, vs = [v] ∧ Rep K F τ d v := by
  unfold Reps at h
  obtain ⟨v, r, e, h1, h2⟩ := h
  unfold Reps at h2
  exact ⟨v, by rw [e, h2], h1⟩
theorem reps2 {K : Kf} {F : Hp} {τ : Option Tp} {d e : D} {vs : List V} (h : Reps K F τ [d, e] vs) : ∃ v u, vs = [v, u] ∧ Rep K F τ d v ∧ Rep K F τ e u := by
  unfold Reps at h
  obtain ⟨v, r, e, h1, h2⟩ := h
  obtain ⟨u, e2, h3⟩ := reps1 h2
  exact ⟨v, u, by rw [e, e2], h1, h3⟩
theorem reps3 {K : Kf} {F : Hp} {τ : Option Tp} {d e g : D} {vs : List V} (h : Reps K F τ [d, e, g] vs) : ∃ v u w, vs = [v, u, w] ∧ Rep K F τ d v ∧ Rep K F τ e u ∧ Rep K F τ g w := by
  unfold Reps at h
  obtain ⟨v, r, e, h1, h2⟩ := h
  obtain ⟨u, w, e2, h3, h4⟩ := reps2 h2
  exact ⟨v, u, w, by rw [e, e2], h1, h3, h4⟩
theorem di_r1 {tg e : Expr} {p : Pos} (hg : Gl X "range") (hm : X.mg "range" = none) (ha : DA X W [e] fa) (hs : starEach [e] X.env = [(false, eval e X.env)] := by rfl) : DI X W tg (.Call (.Name "range" p) [e] [] pos) (iR1 fa) := pi_imp (pi_range1 hg hm ha hs) fun σ H R q => by
  obtain ⟨F0, H0, τ0, F, τ, T, δ, s, p⟩ := q
  refine cG_bind s p fun x v F1 H1 τ1 T1 s1 go r1 p1 => ?_
  cases er : rng1 x with
  | none => rw [er] at p1; exact p1.elim
  | some ds =>
    rw [er] at p1
    unfold rng1 at er
    split at er
    · rename_i j
      split at er
      · rename_i hj
        cases er
        obtain ⟨u, e, r2⟩ := reps1 r1
        unfold Rep at r2
        obtain ⟨b1, b2⟩ := rOk_b hj
        exact ⟨j, by rw [e, r2], b1, b2, p1 _ F1 H1 τ1 (.refl s1.go.fh) s1.tp (itD_rng (fun i H l => l) (fun i H l => l) fun i H x H' y => ⟨y.1, by rw [y.2, Int.mul_one]⟩)⟩
      · cases er
    · cases er
theorem di_r2 {tg e e' : Expr} {p : Pos} (hg : Gl X "range") (hm : X.mg "range" = none) (ha : DA X W [e, e'] fa) (hs : starEach [e, e'] X.env = [(false, eval e X.env), (false, eval e' X.env)] := by rfl) (hs2 : starEach [e'] X.env = [(false, eval e' X.env)] := by rfl) : DI X W tg (.Call (.Name "range" p) [e, e'] [] pos) (iR2 fa) := pi_imp (pi_range2 hg hm ha hs hs2) fun σ H R q => by
  obtain ⟨F0, H0, τ0, F, τ, T, δ, s, p⟩ := q
  refine cG_bind s p fun x v F1 H1 τ1 T1 s1 go r1 p1 => ?_
  cases er : rng2 x with
  | none => rw [er] at p1; exact p1.elim
  | some ds =>
    rw [er] at p1
    unfold rng2 at er
    split at er
    · rename_i i j
      split at er
      · rename_i hj
        cases er
        obtain ⟨u, w, e, r2, r3⟩ := reps2 r1
        unfold Rep at r2 r3
        obtain ⟨b1, b2⟩ := rOk_b hj.1
        obtain ⟨b3, b4⟩ := rOk_b hj.2
        exact ⟨i, j, by rw [e, r2, r3], ⟨b1, b2, b3, b4⟩, p1 _ F1 H1 τ1 (.refl s1.go.fh) s1.tp (itD_rng (fun i H l => l) (fun i H l => l) fun i H x H' y => ⟨y.1, by rw [y.2, Int.mul_one]⟩)⟩
      · cases er
    · cases er

/-! ### list comprehensions, one clause -/
def wipeD (δ : DEnv) : List Nat → DEnv
  | [] => δ
  | v :: vs => (wipeD δ vs).set v .un
theorem SR.wipe {K : Kf} {F0 H0 F H : Hp} {τ0 τ : Option Tp} {T : Option Tape} {δ : DEnv} {σ : L2.St} (s : SR K F0 H0 τ0 F H τ T δ σ) : ∀ vs : List Nat, SR K F0 H0 τ0 F H τ T (wipeD δ vs) (L2.wipe σ vs)
  | [] => s
  | v :: vs => (SR.wipe s vs).forget
theorem wipe_get {σ : L2.St} {j : Nat} : ∀ {vs : List Nat}, j ∈ vs → j < σ.length → (L2.wipe σ vs)[j]? = some none
  | [], h, _ => by cases h
  | v :: vs, h, l => by
    unfold L2.wipe
    by_cases z : v = j
    · subst z
      exact List.getElem?_set_self (by rw [wipe_length]; exact l)
    · rw [List.getElem?_set_ne z]
      exact wipe_get ((List.mem_cons.mp h).resolve_left (Ne.symm z)) l
theorem wipe_out {σ : L2.St} {j : Nat} : ∀ {vs : List Nat}, j ∉ vs → (L2.wipe σ vs)[j]? = σ[j]?
  | [], _ => rfl
  | v :: vs, h => by
    unfold L2.wipe
    rw [List.getElem?_set_ne fun z => h (by rw [z]; exact List.mem_cons_self), wipe_out fun z => h (List.mem_cons_of_mem _ z)]
theorem wipe_same {σ σ' : L2.St} {vs : List Nat} (hl : σ'.length = σ.length) (h : ∀ j, j ∉ vs → σ'[j]? = σ[j]?) : L2.wipe σ' vs = L2.wipe σ vs := by
  apply List.ext_getElem?
  intro j
  by_cases z : j ∈ vs
  · by_cases l : j < σ.length
    · rw [wipe_get z l, wipe_get z (by rw [hl]; exact l)]
    · rw [List.getElem?_eq_none (by rw [wipe_length, hl]; omega), List.getElem?_eq_none (by rw [wipe_length]; omega)]
  · rw [wipe_out z, wipe_out z, h j z]
/-- a bind where no exception may come -/
def _root_.DD.Out.bindQ {α β : Type} : Out α → (α → Mo β) → Out β
  | .ok a T, k => k a T
  | .exc _ _, _ => .stuck
  | .stuck, _ => .stuck
def lcD (t : TgD) (ft : DEnv → Mo Bool) (fe : DEnv → Mo D) (δ : DEnv) : List D → List D → Mo (List D)
  | [], acc, T => .ok acc T
  | d :: ds, acc, T => (t d δ).elim .stuck fun δ' => (ft δ' T).bindQ fun b T1 => if b = true then (fe δ' T1).bindQ fun y T2 => lcD t ft fe δ ds (acc ++ [y]) T2 else lcD t ft fe δ ds acc T1
def lLc (fi : DEnv → Mo (List D)) (t : TgD) (ft : DEnv → Mo Bool) (fe : DEnv → Mo D) (vs : List Nat) : DEnv → Mo (List D) := fun δ T => (fi δ T).bind fun ds T1 => if ds.length < line then lcD t ft fe (wipeD δ vs) ds [] T1 else .stuck
abbrev W0 : WX := fun _ _ _ _ => False
abbrev DTs (X : Cx) (W : WX) (es : List Expr) (f : DEnv → Mo Bool) : Prop := PTs X es (cG X.K X.mg W RB f)
def tYesD : DEnv → Mo Bool := fun _ T => .ok true T
theorem pts_imp {es : List Expr} {t t' : TT} (h : PTs X es t) (k : ∀ σ H Q, t' σ H Q → t σ H Q) : PTs X es t' := ⟨fun pins s σ H Q I q => h.run pins s σ H Q I (k σ H Q q)⟩
theorem dts_nil : DTs X W [] tYesD := pts_imp pts_nil fun σ H Q q => by
  obtain ⟨F0, H0, τ0, F, τ, T, δ, s, p⟩ := q
  exact p true F H τ (.refl s.go.fh) s.tp rfl
theorem dts_one {t : DEnv → Mo Bool} (h : DT X W c t) : DTs X W [c] t := pts_one h
theorem Go.poke {F H F' H' : Hp} {τ τ' : Option Tp} {a : Addr} {o : HO} (g : Go F H τ F' H' τ') (h : H a = none) (f : F' a = none) (n : Off τ' a) : Go F H τ F' (upd H' a o) τ' where
  ff := g.ff
  fh := fun b u e => by rw [upd_ne (ne_of_none e f)]; exact g.fh _ _ e
  hh := fun b u e k => by rw [upd_ne (ne_of_none e h)]; exact g.hh _ _ e k
  dom := fun b e => by
    by_cases z : b = a
    · subst z; exact h
    · rw [upd_ne z] at e; exact g.dom _ e
  nw := g.nw
  tt := by
    rcases g.tt with q | ⟨q0, t, q, n1, n2, n3, n4, n5, n6⟩
    · exact .inl q
    · exact .inr ⟨q0, t, q, n1, n2, n3, n4, by rw [upd_ne (Ne.symm (n t q).1)]; exact n5, by rw [upd_ne (Ne.symm (n t q).2)]; exact n6⟩
theorem SR.poke {K : Kf} {F0 H0 F H : Hp} {τ0 τ : Option Tp} {T : Option Tape} {δ : DEnv} {σ : L2.St} {a : Addr} {o : HO} (s : SR K F0 H0 τ0 F H τ T δ σ) (h0 : H0 a = none) (f : F a = none) (n : Off τ a)
    (ne : ∀ (j : Nat) (es : List D), δ[j]? = some (.own es) → σ[j]? ≠ some (some (.ref a))) : SR K F0 H0 τ0 F (upd H a o) τ T δ σ :=
  ⟨s.go.poke h0 f n, s.tp.upd n, s.tf, s.len, s.val, fun i ds e => by
    obtain ⟨b, vs, h1, h2, h3⟩ := s.own i ds e
    exact ⟨b, vs, h1, by rw [upd_ne fun z => ne i ds e (by rw [← z]; exact h1)]; exact h2, h3⟩, s.dis⟩
theorem cLc {K : Kf} {mg : Str → Option Value} {fi : DEnv → Mo (List D)} {t : TgD} {ft : DEnv → Mo Bool} {fe : DEnv → Mo D} {ws vs : List Nat} (hw : ∀ j ∈ ws, j ∈ vs) {σ : L2.St} {H : Hp} {Q : VK} (q : cL K mg W (lLc fi t ft fe vs) σ H Q) :
    tLc (cI K mg W fi) (cT K t ws) (cG K mg W0 RB ft) (cG K mg W0 (Rep K) fe) vs σ H Q := by
  obtain ⟨F0, H0, τ0, F, τ, T, δ, s, p⟩ := q
  refine cG_bindL s p fun ds J F1 H1 τ1 T1 s1 go r1 p1 => ?_
  split at p1
  case isFalse => exact p1.elim
  rename_i hlen
  intro Dl hD
  have hF : F1 Dl = none := s1.go.fh.free hD
  have hO : Off τ1 Dl := s1.tp.off hD
  have h0D : H0 Dl = none := s1.go.dom _ hD
  have apart : ∀ (j : Nat) (es : List D), δ[j]? = some (.own es) → σ[j]? ≠ some (some (.ref Dl)) := fun j es e z => by
    obtain ⟨a, us, k1, k2, _⟩ := s1.own j es e
    rw [k1] at z
    cases z
    rw [hD] at k2; cases k2
  refine ⟨fun i m H => m = ds.length - i ∧ i ≤ ds.length ∧ ∃ F2 τ2 T2 acc vs', SR K F0 H0 τ0 F2 H τ2 T2 δ σ ∧ Go F1 H1 τ1 F2 H τ2 ∧ H Dl = some (.lst vs') ∧ Reps K F2 τ2 acc vs' ∧ F2 Dl = none ∧ Off τ2 Dl ∧ acc.length ≤ i ∧ PstL K mg W σ F1 H1 τ1 Q (lcD t ft fe (wipeD δ vs) (ds.drop i) acc T2),
    ⟨ds.length, by simp, Nat.zero_le _, F1, τ1, T1, [], [], s1.step (Go.newH s1.go.fh hD) (s1.tp.upd hO), Go.newH s1.go.fh hD, upd_same, .nil, hF, hO, Nat.le_refl _, p1⟩, ?_⟩
  rintro i m H2 ⟨rfl, hi, F2, τ2, T2, acc, us, s2, g2, hl2, ra, f2, o2, la, p2⟩
  by_cases hlt : i < ds.length
  · refine .inr ⟨r1.go i H2 (fun a o e => s2.go.fh _ _ (g2.ff _ _ e)) hlt, fun H' => ∃ F2 τ2 T2 acc vs', SR K F0 H0 τ0 F2 H' τ2 T2 δ σ ∧ Go F1 H1 τ1 F2 H' τ2 ∧ H' Dl = some (.lst vs') ∧ Reps K F2 τ2 acc vs' ∧ F2 Dl = none ∧ Off τ2 Dl ∧ acc.length ≤ i + 1 ∧ PstL K mg W σ F1 H1 τ1 Q (lcD t ft fe (wipeD δ vs) (ds.drop (i + 1)) acc T2),
      fun H' ⟨F2, τ2, T2, acc, us, q⟩ => ⟨ds.length - (i + 1), by omega, rfl, hlt, F2, τ2, T2, acc, us, q⟩, fun x H' y => ?_⟩
    obtain ⟨d, F3, hd, go3, tp3, r3⟩ := r1.yld i F2 H2 τ2 T2 x H' (g2.ff) s2.go.fh g2.tm s2.tp hlt y
    have s3 := s2.step go3 tp3
    have ed : ds.drop i = d :: ds.drop (i + 1) := by
      obtain ⟨h1, h2⟩ := List.getElem?_eq_some_iff.mp hd
      rw [List.drop_eq_getElem_cons h1, h2]
    rw [ed] at p2
    unfold lcD at p2
    cases et : t d (wipeD δ vs) with
    | none => rw [et] at p2; exact p2.elim
    | some δ3 =>
      rw [et] at p2
      have p2 : PstL K mg W σ F1 H1 τ1 Q ((ft δ3 T2).bindQ fun b T1 => if b = true then (fe δ3 T1).bindQ fun y T2 => lcD t ft fe (wipeD δ vs) (ds.drop (i + 1)) (acc ++ [y]) T2 else lcD t ft fe (wipeD δ vs) (ds.drop (i + 1)) acc T1) := p2
      refine ⟨F0, H0, τ0, F3, τ2, T2, wipeD δ vs, d, δ3, s3.wipe vs, r3, et, fun σ4 s4 l4 k4 => ⟨?_, ?_⟩⟩
      · have e1 : L2.wipe σ4 vs = L2.wipe (L2.wipe σ vs) vs := wipe_same l4 fun j hj => k4 j fun z => hj (hw j z)
        rw [e1]
        exact wipe_same (wipe_length _ _) fun j hj => wipe_out hj
      · refine ⟨F0, H0, τ0, F3, τ2, T2, δ3, s4, ?_⟩
        cases eb : ft δ3 T2 with
        | exc e T5 => rw [eb] at p2; exact p2.elim
        | stuck => rw [eb] at p2; exact p2.elim
        | ok b T5 =>
          rw [eb] at p2
          have p2 : PstL K mg W σ F1 H1 τ1 Q (if b = true then (fe δ3 T5).bindQ fun y T2 => lcD t ft fe (wipeD δ vs) (ds.drop (i + 1)) (acc ++ [y]) T2 else lcD t ft fe (wipeD δ vs) (ds.drop (i + 1)) acc T5) := p2
          intro b' F5 H5 τ5 g5 t5 r5
          cases r5
          have s5 := s4.step g5 t5
          have l5 : H5 Dl = some (.lst us) := g5.hh _ _ (go3.hh _ _ hl2 o2) o2
          have o5 : Off τ5 Dl := g5.off (go3.hh _ _ hl2 o2) o2
          have f3 : F3 Dl = none := go3.fnone f2 hl2
          have f5 : F5 Dl = none := g5.fnone f3 (go3.hh _ _ hl2 o2)
          cases b with
          | false =>
            rw [if_neg Bool.false_ne_true] at p2 ⊢
            exact ⟨F5, τ5, T5, acc, us, s3.step g5 t5, g2.trans (go3.trans g5), l5, ra.mono (fun a o e => g5.ff _ _ (go3.ff _ _ e)) g5.tm, f5, o5, Nat.le_succ_of_le la, p2⟩
          | true =>
            rw [if_pos rfl] at p2 ⊢
            refine ⟨F0, H0, τ0, F5, τ5, T5, δ3, s5, ?_⟩
            cases ey : fe δ3 T5 with
            | exc e T6 => rw [ey] at p2; exact p2.elim
            | stuck => rw [ey] at p2; exact p2.elim
            | ok y T6 =>
              rw [ey] at p2
              have p2 : PstL K mg W σ F1 H1 τ1 Q (lcD t ft fe (wipeD δ vs) (ds.drop (i + 1)) (acc ++ [y]) T6) := p2
              intro v F6 H6 τ6 g6 t6 r6
              have l6 : H6 Dl = some (.lst us) := g6.hh _ _ l5 o5
              have o6 : Off τ6 Dl := g6.off l5 o5
              have f6 : F6 Dl = none := g6.fnone f5 l5
              have gg : Go F2 H2 τ2 F6 H6 τ6 := go3.trans (g5.trans g6)
              refine ⟨us, l6, by rw [ra.len]; exact line_lt (by omega), F6, τ6, T6, acc ++ [y], us ++ [v], (s2.step gg t6).poke h0D f6 o6 apart, (g2.trans gg).poke hD f6 o6, upd_same, ?_, f6, o6, by rw [List.length_append]; simp; omega, p2⟩
              exact (ra.mono gg.ff gg.tm).append (.one r6)
  · refine .inl ⟨r1.stop i H2 (fun a o e => s2.go.fh _ _ (g2.ff _ _ e)) (by omega), ?_⟩
    have e : i = ds.length := by omega
    rw [e, List.drop_length] at p2
    exact p2 Dl us F2 H2 τ2 g2 s2.tp hl2 ra f2 hD o2
theorem dl_lc {elt tg iter : Expr} {ifs : List Expr} {scope : Scope} {own : List (Str × Nat)} {fi : DEnv → Mo (List D)} {t : TgD} {ft : DEnv → Mo Bool} {fe : DEnv → Mo D} {ws : List Nat} (hc : X.calm = true) (hN : X.N.Nodup) (hi : DI X W tg iter fi) (ok : BlkOk X.N X.env.scope scope own) (hw : ∀ j ∈ ws, j ∈ own.map (·.2))
    (hg : ∀ (s : Shared) (H : Hp) (C : Addr) (cl : List (Str × Addr)) (fp : List Addr), DG (X.blk s H scope (compEnvC scope cl C X.env) fp) tg t ws) (ht : ∀ (s : Shared) (H : Hp) (C : Addr) (cl : List (Str × Addr)) (fp : List Addr), DTs (X.blk s H scope (compEnvC scope cl C X.env) fp) W0 ifs ft)
    (he : ∀ (s : Shared) (H : Hp) (C : Addr) (cl : List (Str × Addr)) (fp : List Addr), DE (X.blk s H scope (compEnvC scope cl C X.env) fp) W0 elt fe) (hs : ∀ x, foldedSetIterable iter X.env x = pure x := by intro _; rfl) :
    DL X W (.ListComp elt [⟨tg, iter, ifs, 0⟩] scope pos) (lLc fi t ft fe (own.map (·.2))) := pe_imp (pe_lc hc hN hi ok hg ht he hs) fun σ H Q q => cLc hw q
/-- y = [..] -/
theorem ds_setLc (i : Nat) {y : Str} {py spos : Pos} {elt tg iter : Expr} {ifs : List Expr} {scope : Scope} {own : List (Str × Nat)} {fi : DEnv → Mo (List D)} {t : TgD} {ft : DEnv → Mo Bool} {fe : DEnv → Mo D} {ws : List Nat} (hc : X.calm = true) (hN : X.N.Nodup) (hi : DI X W tg iter fi) (ok : BlkOk X.N X.env.scope scope own) (hw : ∀ j ∈ ws, j ∈ own.map (·.2))
    (hg : ∀ (s : Shared) (H : Hp) (C : Addr) (cl : List (Str × Addr)) (fp : List Addr), DG (X.blk s H scope (compEnvC scope cl C X.env) fp) tg t ws) (ht : ∀ (s : Shared) (H : Hp) (C : Addr) (cl : List (Str × Addr)) (fp : List Addr), DTs (X.blk s H scope (compEnvC scope cl C X.env) fp) W0 ifs ft)
    (he : ∀ (s : Shared) (H : Hp) (C : Addr) (cl : List (Str × Addr)) (fp : List Addr), DE (X.blk s H scope (compEnvC scope cl C X.env) fp) W0 elt fe) (hsw : swapsWith (.ListComp elt [⟨tg, iter, ifs, 0⟩] scope pos) (some (.Name y py)) spos.line X.env = pure true) (hy : X.N[i]? = some y := by rfl) (hyl : X.env.scope.names.lookup y = some .local := by rfl) (hs : ∀ x, foldedSetIterable iter X.env x = pure x := by intro _; rfl) :
    DS X W (.Assign [.Name y py] (.ListComp elt [⟨tg, iter, ifs, 0⟩] scope pos) spos) (sSetL i (lLc fi t ft fe (own.map (·.2)))) := ps_imp (ps_setLc hc hN hy hyl hsw hi ok hg ht he hs) fun D σ H q => by
  obtain ⟨F0, H0, τ0, F, τ, T, δ, s, p⟩ := q
  have := cL_set (W := W) (K := X.K) (mg := X.mg) (i := i) (fl := lLc fi t ft fe (own.map (·.2))) (D := D) (σ := σ) (H := H) ⟨F0, H0, τ0, F, τ, T, δ, s, p⟩
  exact cLc hw this
end
end DD

/-! DD5: defs and their promises, calls, raise, try. -/
namespace DD
open PySem PySem.Spec PyProof.Rows L2

/-- a def's promise by its denotation -/
def SpD (K : Kf) (mg : Str → Option Value) (n : Nat) (den : List D → Mo D) : Sp := fun vs H Q E => ∃ F τ T ds, Same F H ∧ TapeF τ F ∧ TapeOk τ T H ∧ Reps K F τ ds vs ∧ ds.length = n ∧
  Pst mg (fun c dd _ H' => E c dd H') (Rep K) [] F H τ Q (den ds T)
theorem SpD.len {K : Kf} {mg : Str → Option Value} {n : Nat} {den : List D → Mo D} {vs : List V} {H : Hp} {Q : VK} {E : XK} (h : SpD K mg n den vs H Q E) : vs.length = n := by
  obtain ⟨F, τ, T, ds, h1, h2, h3, h4, h5, h6⟩ := h
  rw [h4.len, h5]
/-- a def's denotation by its body's: n parameters, k further names -/
def OS.out : OS → Out D
  | .nx _ T' => .ok .non T'
  | .ret d T' => .ok d T'
  | .exc e _ T' => .exc e T'
  | .bk _ _ => .stuck
  | .ct _ _ => .stuck
  | .stuck => .stuck
def runD (k : Nat) (g : SD) : List D → Mo D := fun ds T => (g (ds.map Sl.val ++ List.replicate k Sl.un) T).out
abbrev WF (E : XK) : WX := fun c d _ H => E c d H
theorem SR.init {K : Kf} {F H : Hp} {τ : Option Tp} {T : Option Tape} {ds : List D} {vs : List V} {N : List Str} {k : Nat} (fh : Same F H) (tf : TapeF τ F) (tp : TapeOk τ T H) (r : Reps K F τ ds vs) (hN : N.length = vs.length + k) :
    SR K F H τ F H τ T (ds.map Sl.val ++ List.replicate k Sl.un) (L2.start N vs) := by
  have hk : N.length - vs.length = k := by omega
  unfold L2.start
  rw [hk]
  refine ⟨.refl fh, tp, tf, by simp [r.len], fun i d e => ?_, fun i es e => ?_, fun i j es fs a n e => ?_⟩
  · by_cases l : i < ds.length
    · rw [List.getElem?_append_left (by simpa using l), List.getElem?_map] at e
      cases e1 : ds[i]? with
      | none => rw [e1] at e; cases e
      | some x =>
        rw [e1] at e
        cases e
        obtain ⟨v, h1, h2⟩ := r.at e1
        refine ⟨v, ?_, h2⟩
        rw [List.getElem?_append_left (by simpa [r.len] using l), List.getElem?_map, h1]
        rfl
    · rw [List.getElem?_append_right (by simpa using Nat.le_of_not_lt l), List.getElem?_replicate] at e
      split at e <;> cases e
  · by_cases l : i < ds.length
    · rw [List.getElem?_append_left (by simpa using l), List.getElem?_map] at e
      cases e1 : ds[i]? with
      | none => rw [e1] at e; cases e
      | some x => rw [e1] at e; cases e
    · rw [List.getElem?_append_right (by simpa using Nat.le_of_not_lt l), List.getElem?_replicate] at e
      split at e <;> cases e
  · by_cases l : i < ds.length
    · rw [List.getElem?_append_left (by simpa using l), List.getElem?_map] at e
      cases e1 : ds[i]? with
      | none => rw [e1] at e; cases e
      | some x => rw [e1] at e; cases e
    · rw [List.getElem?_append_right (by simpa using Nat.le_of_not_lt l), List.getElem?_replicate] at e
      split at e <;> cases e
section
variable {P : Program} {w : World} {K : Kf} {mg : Str → Option Value} {base : Heap}
/-- the context of a def's body -/
abbrev BX (P : Program) (w : World) (K : Kf) (mg : Str → Option Value) (base : Heap) (N : List Str) (qual : Str) (sc : Scope) (f : Addr) (cdv : Value) (A : Around) (outer : List PySem.Env) (s : Shared) (H : Hp) (E : XK) : Cx := cxOf (L2.CX P w) P w K mg base N qual sc f cdv A outer s H E
theorem okD {x qual : Str} {st : Stmt} {f : Addr} {fd : FuncData} {N ps : List Str} {n k j : Nat} {g : SD} (F : Fun K x qual st f fd) (S : FnScope N ps (defScope st)) (hn : ps.length = n) (hk : N.length = n + k)
    (hbody : ∀ (cdv : Value) (A : Around) (outer : List PySem.Env) (s : Shared) (H : Hp) (E : XK), Room j (BX P w K mg base N qual (defScope st) f cdv A outer s H E).A → (BX P w K mg base N qual (defScope st) f cdv A outer s H E).A.units + 64 < cLine → Takes (BX P w K mg base N qual (defScope st) f cdv A outer s H E) (WF E) →
      PassesOwn (model P w) (BX P w K mg base N qual (defScope st) f cdv A outer s H E).A (BX P w K mg base N qual (defScope st) f cdv A outer s H E).env (BX P w K mg base N qual (defScope st) f cdv A outer s H E).xe →
      DSs (BX P w K mg base N qual (defScope st) f cdv A outer s H E) (WF E) (defBody st) g) : FnOk P w K mg base (L2.CX P w) (j + 1) f fd ps (SpD K mg n (runD k g)) := by
  refine F.okX S (fun vs H Q E h => by rw [SpD.len h, hn]) fun cdv A outer s H vs Q E hr h => ?_
  refine ⟨_, hbody cdv A outer s H E hr hr.units (takes_of rfl rfl rfl rfl) (passes_of rfl), ?_⟩
  have hl := SpD.len h
  obtain ⟨F0, τ, T, ds, h1, h2, h3, h4, h5, h6⟩ := h
  refine ⟨F0, H, τ, F0, τ, T, ds.map Sl.val ++ List.replicate k Sl.un, SR.init h1 h2 h3 h4 (by rw [hk, hl]), ?_⟩
  unfold runD at h6
  show PstS K mg (WF E) F0 H τ { nx := fun _ H' => Q .non H', rt := Q } (g (ds.map Sl.val ++ List.replicate k Sl.un) T)
  revert h6
  cases g (ds.map Sl.val ++ List.replicate k Sl.un) T with
  | nx δ T' => exact fun h6 F' H' τ' σ' s' => h6 .non F' H' τ' s'.go s'.tp (by unfold Rep; rfl)
  | ret d T' => exact fun h6 v F' H' τ' g' t' f' r' => h6 v F' H' τ' g' t' r'
  | exc e δ T' => exact fun h6 c dd F' H' τ' σ' s' ex => h6 c dd F' H' τ' s'.go s'.tp ex
  | bk δ T' => exact fun h6 => h6.elim
  | ct δ T' => exact fun h6 => h6.elim
  | stuck => exact fun h6 => h6
end
section
variable {X : Cx} {W : WX} {a b c : Expr} {pos : Pos} {fa : DEnv → Mo (List D)} {es : List Expr}
/-- f(..) -/
def dCall (n : Nat) (den : List D → Mo D) (fa : DEnv → Mo (List D)) : DEnv → Mo D := fun δ T => (fa δ T).bind fun ds T1 => if ds.length = n then den ds T1 else .stuck
theorem cCall {K : Kf} {mg : Str → Option Value} {n : Nat} {den : List D → Mo D} {σ : L2.St} {H : Hp} {Q : VK} (q : cG K mg W (Rep K) (dCall n den fa) σ H Q) : tCallS (SpD K mg n den) (WE W) (cG K mg W (Reps K) fa) σ H Q := by
  obtain ⟨F0, H0, τ0, F, τ, T, δ, s, p⟩ := q
  refine cG_bind s p fun ds vs F1 H1 τ1 T1 s1 g1 r1 p1 => ?_
  split at p1
  · rename_i hl
    refine ⟨F1, τ1, T1, ds, s1.go.fh, s1.tf, s1.tp, r1, hl, ?_⟩
    revert p1
    cases den ds T1 with
    | ok d T2 => exact fun p1 => p1
    | exc e T2 => exact fun p1 => p1
    | stuck => exact fun p1 => p1
  · exact p1.elim
theorem de_call {k : Nat} {f : Addr} {fd : FuncData} {ps : List Str} {n : Nat} {den : List D → Mo D} {x : Str} {p : Pos} {e : Expr} (tk : Takes X W) (F : FnOk X.prog X.w X.K X.mg X.base (L2.CX X.prog X.w) k f fd ps (SpD X.K X.mg n den)) (hr : Room k X.A) (hm : X.mg x = some (.ref f)) (hk : PySem.W.keepIn X.K (.ref f) = true) (hb : Binds X.K fd ps [])
    (ha : DA X W (e :: es) fa) (hg : Gl X x := by rfl) (hdb : (x == ("__debug__" : Str)) = false := by decide) (he : starEach (e :: es) X.env = (false, eval e X.env) :: starEach es X.env := by rfl) (hpl : (backTo pos (starEach es X.env)).any (·.1) = false := by rfl) :
    DE X W (.Call (.Name x p) (e :: es) [] pos) (dCall n den fa) := pe_imp (pe_callS F hr hg hm hk hb (fun σ => passAt tk σ) ha hdb he hpl) fun σ H Q q => cCall q

/-! ### raise -/
section
variable {C : Addr} {bmB : List Value} {B newId initId : String}
theorem pmk_own0 {x : Str} {p : Pos} (F : ExcBaseFacts B newId initId bmB) (q : PySem.W.excIn X.K C bmB newId = true) (gC : X.mg x = some (.ref C)) (kC : PySem.W.keepIn X.K (.ref C) = true) (r : Raises X (.ref C)) (hg : Gl X x)
    (hdb : (x == ("__debug__" : Str)) = false := by decide) : PMk X (.Call (.Name x p) [] [] pos) (fun _ H Q => Q (.ref C) none H) := by
  intro pins s σ H Q I h
  refine wpAny_Call_Name_kw (ld_glob I hg gC ?_ hdb)
  refine PySem.W.callWith_K0 I.kIn kC ?_
  show wpAny _ _ (call (.ref C) []) _ _ _
  obtain ⟨bm, N, nm, qn, bs, hdct, sn, sub, ab, col, dd, k0, k1, k2, k3, k5, mN, hC, hN, hni, T⟩ := exc_obj I.kIn q
  refine wpAny_call_exc_subT F T hC hN hni (fun h' e hm => ?_) (Nat.zero_le _)
  exact mk_of I hm r h (I.hok.gone hm.new)
end
def sRaise (x : Str) : SD := fun δ T => .exc ⟨x, none⟩ δ T
abbrev veb : List Value := [.type "ValueError", .type "Exception", .type "BaseException", .type "object"]
/-- facts of an own exception class without own __init__ -/
structure Xc (K : Kf) (mg : Str → Option Value) (x : Str) (C : Addr) : Prop where
  g : mg x = some (.ref C)
  k : PySem.W.keepIn K (.ref C) = true
  e : PySem.W.excIn K C veb "ValueError.__new__" = true
  s : PySem.W.subIn K (.ref C) (.type "BaseException") = some true
  t : PySem.W.typeIn K (.ref C) = some (.type "type")
theorem ds_raise {x : Str} {C : Addr} {p pos' : Pos} (hc : X.calm = true) (tk : Takes X W) (T : Xc X.K X.mg x C) (hg : Gl X x := by rfl) (hdb : (x == ("__debug__" : Str)) = false := by decide) : DS X W (.Raise (some (.Call (.Name x p) [] [] pos)) none pos') (sRaise x) :=
  ps_imp (ps_raise hc tk (pmk_own0 PySem.F.excBase_ValueError T.e T.g T.k (raises_own T.s T.t) hg hdb)) fun D σ H q => by
    obtain ⟨F0, H0, τ0, F, τ, T', δ, s, p⟩ := q
    exact p (.ref C) none F H τ σ s ⟨C, T.g, rfl, rfl⟩

/-! ### try: .. except X: .. -/
/-- the clauses: the class's name, whether it takes an exception of the class named, the suite -/
abbrev Hd := Str × (Str → Option Bool) × SD
/-- no exception leaves a suite -/
def OS.quiet : OS → OS
  | .exc _ _ _ => .stuck
  | .nx δ T => .nx δ T
  | .ret d T => .ret d T
  | .bk δ T => .bk δ T
  | .ct δ T => .ct δ T
  | .stuck => .stuck
def quiet (g : SD) : SD := fun δ T => (g δ T).quiet
def OS.catch : OS → (Exn → SD) → OS
  | .exc e δ T, k => k e δ T
  | .nx δ T, _ => .nx δ T
  | .ret d T, _ => .ret d T
  | .bk δ T, _ => .bk δ T
  | .ct δ T, _ => .ct δ T
  | .stuck, _ => .stuck
def handle (e : Exn) : List Hd → SD
  | [] => fun δ T => .exc e δ T
  | (_, sub, g) :: r => fun δ T => (sub e.cls).elim .stuck fun b => if b = true then quiet g δ T else handle e r δ T
def sTry (g : SD) (l : List Hd) : SD := fun δ T => (g δ T).catch fun e => handle e l
/-- what a clause's class takes -/
def SubOk (X : Cx) (x : Str) (c : Value) (sub : Str → Option Bool) : Prop := Names X x c ∧ ∀ y C b, X.mg y = some (.ref C) → sub y = some b → PySem.W.exmOne X.K (.ref C) c = some b
inductive HdD (X : Cx) : List ExceptHandler → List Hd → List (Value × SD) → Prop
  | nil : HdD X [] [] []
  | cons {x : Str} {c : Value} {sub : Str → Option Bool} {g : SD} {b₀ : Stmt} {suite : List Stmt} {np pos' : Pos} {hds : List ExceptHandler} {l : List Hd} {m : List (Value × SD)} (hc : SubOk X x c sub)
      (hsu : ∀ (a : Addr) (oe : Obj) (cls : Value) (d : Option Addr) (pn : List (Addr × Obj)), Zc cls d oe → (∃ vs, oe.data = .fields vs) → DSs (X.suite a ((a, oe) :: pn)) W0 (b₀ :: suite) g) (r : HdD X hds l m) :
      HdD X (.ExceptHandler (some (.Name x np)) none (b₀ :: suite) pos' :: hds) ((x, sub, g) :: l) ((c, g) :: m)
/-- the exceptions that leave the try's suites are none -/
theorem HdD.ok {hds : List ExceptHandler} {l : List Hd} {m : List (Value × SD)} (h : HdD X hds l m) : HdsOk X hds (m.map fun p => (p.1, fun _ _ _ => cS X.K X.mg W0 p.2)) := by
  induction h with
  | nil => exact .nil
  | cons hc hsu r ih => exact .cons hc.1 (fun a oe cls d pn z f => hsu a oe cls d pn z f) ih
theorem pst_quiet {K : Kf} {mg : Str → Option Value} {F0 H0 : Hp} {τ0 : Option Tp} {D : Ends} {g : SD} {δ : DEnv} {T : Option Tape} (h : PstS K mg W F0 H0 τ0 D (quiet g δ T)) : PstS K mg W0 F0 H0 τ0 D (g δ T) := by
  unfold quiet at h
  cases e : g δ T with
  | nx δ' T' => rw [e] at h; exact h
  | ret d T' => rw [e] at h; exact h
  | bk δ' T' => rw [e] at h; exact h
  | ct δ' T' => rw [e] at h; exact h
  | exc x δ' T' => rw [e] at h; exact h.elim
  | stuck => rw [e] at h; exact h
theorem HdD.handled {hds : List ExceptHandler} {l : List Hd} {m : List (Value × SD)} {F0 H0 : Hp} {τ0 : Option Tp} {D : Ends} {e : Exn} {δ : DEnv} {T : Option Tape} (h : HdD X hds l m) (p : PstS X.K X.mg W F0 H0 τ0 D (handle e l δ T)) :
    ∀ c dd F H τ σ, SR X.K F0 H0 τ0 F H τ T δ σ → ExR X.mg e c dd F → wMany X.K W D (m.map fun p => (p.1, fun _ _ _ => cS X.K X.mg W0 p.2)) c dd σ H := by
  induction h with
  | nil => exact p
  | cons hc hsu r ih =>
    rename_i x cv sub g b₀ suite np pos' hds l m
    intro c dd F H τ σ s ex
    unfold handle at p
    obtain ⟨C, e1, e2, e3⟩ := id ex
    cases es : sub e.cls with
    | none => rw [es] at p; exact p.elim
    | some b =>
      rw [es] at p
      have p : PstS X.K X.mg W F0 H0 τ0 D (if b = true then quiet g δ T else handle e l δ T) := p
      refine ⟨b, ?_, fun hb a _ => ?_, fun hb => ?_⟩
      · rw [e2]; exact hc.2 _ _ _ e1 es
      · subst hb
        exact ⟨F0, H0, τ0, F, τ, T, δ, s, pst_quiet p⟩
      · subst hb
        exact ih p c dd F H τ σ s ex
theorem ds_try {body : List Stmt} {h₀ : ExceptHandler} {hds : List ExceptHandler} {g : SD} {l : List Hd} {m : List (Value × SD)} (hs : X.stack = X.env :: X.outer) (hf : X.env.frame = some X.env.locals) (tk : Takes X W)
    (hb : ∀ (W' : WX) (pn : List (Addr × Obj)) (xe : Value → Shared → Prop), Takes (X.tr pn xe) W' → PassesOwn (model X.prog X.w) X.A X.env xe → DSs (X.tr pn xe) W' body g) (hh : HdD X (h₀ :: hds) l m) : DS X W (.Try body (h₀ :: hds) [] [] pos) (sTry g l) :=
  ps_imp (ps_try_many (tb := fun W' => cS X.K X.mg W' g) hs hf tk hb hh.ok) fun D σ H q => by
    obtain ⟨F0, H0, τ0, F, τ, T, δ, s, p⟩ := q
    refine ⟨F0, H0, τ0, F, τ, T, δ, s, ?_⟩
    unfold sTry at p
    cases e : g δ T with
    | nx δ' T' => rw [e] at p; exact p
    | ret d T' => rw [e] at p; exact p
    | bk δ' T' => rw [e] at p; exact p
    | ct δ' T' => rw [e] at p; exact p
    | exc x δ' T' => rw [e] at p; exact fun c dd F H τ σ s ex => hh.handled p c dd F H τ σ s ex
    | stuck => rw [e] at p; exact p
end
end DD

/-! DD6: the operations on data. -/
namespace DD
open PySem PySem.Spec PyProof.Rows L2
section
variable {K : Kf}
/-! ### + - * // % ** << >> & -/
def oAdd : D → D → Option D
  | .int i, .int j => some (.int (i + j))
  | .tup xs, .tup ys => if xs.length + ys.length < line then some (.tup (xs ++ ys)) else none
  | .lst xs, .lst ys => if xs.length + ys.length < line then some (.lst (xs ++ ys)) else none
  | _, _ => none
def rAddA (K : Kf) : R2 := fun x y H Q => (∃ i j, x = .int i ∧ y = .int j ∧ Q (.int (i + j)) H) ∨ rCatA K x y H Q ∨ rCat x y H Q
theorem op_addA {X : Cx} : OpR X (binaryOp .Add) (rAddA X.K) := OpR.or op_add (OpR.or op_catA op_cat)
theorem opd_add : OpD K (rAddA K) oAdd := by
  intro F H τ T x y v u z Q fh tp r1 r2 e k
  unfold oAdd at e
  split at e
  · cases e
    unfold Rep at r1 r2
    exact .inl ⟨_, _, r1, r2, k _ F H (.refl fh) tp (by unfold Rep; rfl)⟩
  · rename_i xs ys
    split at e
    · rename_i hl
      cases e
      unfold Rep at r1 r2
      obtain ⟨a, vs, e1, h1, h2⟩ := r1
      obtain ⟨b, us, e2, h3, h4⟩ := r2
      refine .inr (.inl ⟨a, b, vs, us, e1, e2, sqT_mono fh h1, sqT_mono fh h3, ?_, fun z => ?_, fun _ z => ?_, fun _ _ p hp => ?_⟩)
      · rw [h2.len, h4.len]; exact Nat.le_of_lt (line_lt hl)
      · have : xs = [] := by
          have := h2.len
          rw [z] at this
          exact List.length_eq_zero_iff.mp this.symm
        subst this
        exact k _ F H (.refl fh) tp (by unfold Rep; exact ⟨b, us, rfl, h3, h4⟩)
      · have : ys = [] := by
          have := h4.len
          rw [z] at this
          exact List.length_eq_zero_iff.mp this.symm
        subst this
        exact k _ F H (.refl fh) tp (by unfold Rep; rw [List.append_nil]; exact ⟨a, vs, rfl, h1, h2⟩)
      · have g := Go.new (τ := τ) (o := .tup (vs ++ us)) fh hp
        refine k _ _ _ g (tp.upd (tp.off hp)) ?_
        unfold Rep
        exact ⟨p, _, rfl, .inl (.inl upd_same), (h2.append h4).mono g.ff fun _ e => e⟩
    · cases e
  · rename_i xs ys
    split at e
    · rename_i hl
      cases e
      unfold Rep at r1 r2
      obtain ⟨a, vs, e1, h1, h2⟩ := r1
      obtain ⟨b, us, e2, h3, h4⟩ := r2
      refine .inr (.inr ⟨a, b, vs, us, e1, e2, fh _ _ h1, fh _ _ h3, ?_, fun p hp => ?_⟩)
      · rw [h2.len, h4.len]; exact Nat.le_of_lt (line_lt hl)
      · have g := Go.new (τ := τ) (o := .lst (vs ++ us)) fh hp
        refine k _ _ _ g (tp.upd (tp.off hp)) ?_
        unfold Rep
        exact ⟨p, _, rfl, upd_same, (h2.append h4).mono g.ff fun _ e => e⟩
    · cases e
  · cases e
abbrev oAddI : D → D → Option D := oI0 fun i j => .int (i + j)
theorem opd_addI : OpD K (rI0 fun i j => .int (i + j)) oAddI := opd_I0 fun _ _ => rfl
abbrev oSub : D → D → Option D := oI0 fun i j => .int (i - j)
theorem opd_sub : OpD K (rI0 fun i j => .int (i - j)) oSub := opd_I0 fun _ _ => rfl
def cMul (i j : Int) : Bool := Nat.blt i.natAbs 18446744073709551616 || Nat.blt j.natAbs 18446744073709551616
theorem cMul_ok {i j : Int} (h : cMul i j = true) : CMul i j := by
  unfold cMul at h
  simp only [Bool.or_eq_true, Nat.blt_eq] at h
  unfold CMul
  omega
abbrev oMul : D → D → Option D := oI cMul fun i j => .int (i * j)
theorem opd_mul : OpD K (rI CMul fun i j => .int (i * j)) oMul := opd_I (fun _ _ => cMul_ok) fun _ _ => rfl
def posI (j : Int) : Bool := Nat.ble 1 j.toNat
theorem posI_eq {j : Int} : posI j = true ↔ 0 < j := by
  unfold posI
  rw [Nat.ble_eq]
  omega
def nnI (j : Int) : Bool := ltI (-1) j
theorem nnI_eq {j : Int} : nnI j = true ↔ 0 ≤ j := by
  unfold nnI
  rw [ltI_eq, decide_eq_true_eq]
  omega
def cDiv (_ j : Int) : Bool := posI j && Nat.blt j.natAbs 115792089237316195423570985008687907853269984665640564039457584007913129639936
theorem cDiv_ok {i j : Int} (h : cDiv i j = true) : CDivW i j := by
  unfold cDiv at h
  simp only [Bool.and_eq_true, posI_eq, Nat.blt_eq] at h
  exact wide_div (b := 256) h.1 (by omega) (by decide) (by decide)
abbrev oDiv : D → D → Option D := oI cDiv fun i j => .int (i / j)
theorem opd_div : OpD K (rI CDivW fun i j => .int (i / j)) oDiv := opd_I (fun _ _ => cDiv_ok) fun _ _ => rfl
abbrev oMod : D → D → Option D := oI (fun _ j => posI j) fun i j => .int (i % j)
theorem opd_mod : OpD K (rI (fun _ j => 0 < j) fun i j => .int (i % j)) oMod := opd_I (fun _ _ h => posI_eq.mp h) fun _ _ => rfl
def cPow (i j : Int) : Bool := nnI j && Nat.ble j.natAbs 1000000 && Nat.blt i.natAbs 18446744073709551616
theorem cPow_ok {i j : Int} (h : cPow i j = true) : CPow i j := by
  unfold cPow at h
  simp only [Bool.and_eq_true, nnI_eq, Nat.blt_eq, Nat.ble_eq] at h
  exact ⟨h.1.1, by omega, h.2⟩
abbrev oPow : D → D → Option D := oI cPow fun i j => .int (i ^ j.toNat)
theorem opd_pow : OpD K (rI CPow fun i j => .int (i ^ j.toNat)) oPow := opd_I (fun _ _ => cPow_ok) fun _ _ => rfl
abbrev oShl : D → D → Option D := oI cPow fun i j => .int (i * 2 ^ j.toNat)
theorem opd_shl : OpD K (rI CPow fun i j => .int (i * 2 ^ j.toNat)) oShl := opd_I (fun _ _ => cPow_ok) fun _ _ => rfl
abbrev oShr : D → D → Option D := oI (fun _ j => nnI j) fun i j => .int (i / 2 ^ j.toNat)
theorem opd_shr : OpD K (rI (fun _ j => 0 ≤ j) fun i j => .int (i / 2 ^ j.toNat)) oShr := opd_I (fun _ _ h => nnI_eq.mp h) fun _ _ => rfl
abbrev oAnd : D → D → Option D := oI0 fun i j => .int (Builtin.bitAnd i j)
theorem opd_and : OpD K (rI0 fun i j => .int (Builtin.bitAnd i j)) oAnd := opd_I0 fun _ _ => rfl
/-! augmented -/
theorem iop_divW {X : Cx} : OpR X (inplaceOp .FloorDiv) (rI CDiv fun i j => .int (i / j)) := iop_fdiv
/-! ### order of ints -/
abbrev oLt : D → D → Option D := oI0 fun i j => .bl (ltI i j)
abbrev oLe : D → D → Option D := oI0 fun i j => .bl (leI i j)
abbrev oGt : D → D → Option D := oI0 fun i j => .bl (ltI j i)
abbrev oGe : D → D → Option D := oI0 fun i j => .bl (leI j i)
theorem opd_lt : OpD K (rI0 fun i j => .bl (decide (i < j))) oLt := opd_I0 fun _ _ => by rw [ltI_eq]; rfl
theorem opd_le : OpD K (rI0 fun i j => .bl (decide (i ≤ j))) oLe := opd_I0 fun _ _ => by rw [leI_eq]; rfl
theorem opd_gt : OpD K (rI0 fun i j => .bl (decide (j < i))) oGt := opd_I0 fun _ _ => by rw [ltI_eq]; rfl
theorem opd_ge : OpD K (rI0 fun i j => .bl (decide (j ≤ i))) oGe := opd_I0 fun _ _ => by rw [leI_eq]; rfl
/-! ### == -/
mutual
def py : D → PyData
  | .non => .none
  | .bl b => .bool b
  | .int i => .int i
  | .str s => .str s
  | .tup ds => .tuple (pys ds)
  | .lst ds => .list (pys ds)
  | .scr ns => .list (ns.map .int)
  | .tape => .dict []
def pys : List D → List PyData
  | [] => []
  | d :: ds => py d :: pys ds
end
theorem dp_ints {H : Hp} : ∀ ns : List Int, DpAll K H (ns.map V.int) (ns.map PyData.int)
  | [] => .nil
  | n :: r => .cons (.int n) (dp_ints r)
mutual
theorem rep_dp {F H : Hp} {τ : Option Tp} (fh : Same F H) : ∀ {d : D} {v : V}, Rep K F τ d v → (py d).canLay0 = true → Dp K H v (py d)
  | .non, v, h, _ => by unfold Rep at h; subst h; unfold py; exact .non
  | .bl b, v, h, _ => by unfold Rep at h; subst h; unfold py; exact .bl b
  | .int b, v, h, _ => by unfold Rep at h; subst h; unfold py; exact .int b
  | .str b, v, h, _ => by unfold Rep at h; subst h; unfold py; exact .str b
  | .tup ds, v, h, c => by
    unfold Rep at h
    obtain ⟨a, vs, rfl, h1, h2⟩ := h
    unfold py at c ⊢
    unfold PyData.canLay0 at c
    exact .tup (sqT_mono fh h1) (reps_dp fh h2 c)
  | .lst ds, v, h, c => by
    unfold Rep at h
    obtain ⟨a, vs, rfl, h1, h2⟩ := h
    unfold py at c ⊢
    unfold PyData.canLay0 at c
    exact .lst (.inl (.inl (fh _ _ h1))) (reps_dp fh h2 c)
  | .scr ns, v, h, c => by
    unfold Rep at h
    obtain ⟨a, rfl, h1⟩ := h
    unfold py
    exact .lst (sqL_mono fh h1) (dp_ints ns)
  | .tape, v, h, c => by
    unfold py at c
    unfold PyData.canLay0 at c
    cases c
theorem reps_dp {F H : Hp} {τ : Option Tp} (fh : Same F H) : ∀ {ds : List D} {vs : List V}, Reps K F τ ds vs → PyData.canLayAll0 (pys ds) = true → DpAll K H vs (pys ds)
  | [], vs, h, _ => by unfold Reps at h; subst h; unfold pys; exact .nil
  | d :: ds, vs, h, c => by
    unfold Reps at h
    obtain ⟨v, r, rfl, h1, h2⟩ := h
    unfold pys at c ⊢
    unfold PyData.canLayAll0 at c
    rw [Bool.and_eq_true] at c
    exact .cons (rep_dp fh h1 c.1) (reps_dp fh h2 c.2)
end
def eqD (x y : D) : Bool := PyData.eqv (py x) (py y)
def shD (x : D) : Bool := SeqAt.shaped (py x)
def oEq : D → D → Option D := fun x y => if shD x = true ∧ shD y = true then some (.bl (eqD x y)) else none
def oNe : D → D → Option D := fun x y => if shD x = true ∧ shD y = true then some (.bl (!eqD x y)) else none
theorem opd_eq : OpD K (rEqD K) oEq := by
  intro F H τ T x y v u z Q fh tp r1 r2 e k
  unfold oEq at e
  split at e
  · rename_i h
    cases e
    exact ⟨py x, py y, rep_dp fh r1 (SeqAt.canLay_of_shaped h.1), rep_dp fh r2 (SeqAt.canLay_of_shaped h.2), h.1, h.2, k _ F H (.refl fh) tp (by unfold Rep; rfl)⟩
  · cases e
theorem opd_ne : OpD K (rNeD K) oNe := by
  intro F H τ T x y v u z Q fh tp r1 r2 e k
  unfold oNe at e
  split at e
  · rename_i h
    cases e
    exact ⟨py x, py y, rep_dp fh r1 (SeqAt.canLay_of_shaped h.1), rep_dp fh r2 (SeqAt.canLay_of_shaped h.2), h.1, h.2, k _ F H (.refl fh) tp (by unfold Rep; rfl)⟩
  · cases e
/-! ### is None -/
def isN : D → Bool
  | .non => true
  | _ => false
theorem rep_isN {F : Hp} {τ : Option Tp} : ∀ {d : D} {v : V}, Rep K F τ d v → decide (v = .non) = isN d
  | .non, v, h => by unfold Rep at h; subst h; rfl
  | .bl b, v, h => by unfold Rep at h; subst h; rfl
  | .int b, v, h => by unfold Rep at h; subst h; rfl
  | .str b, v, h => by unfold Rep at h; subst h; rfl
  | .tup ds, v, h => by unfold Rep at h; obtain ⟨a, vs, rfl, h1, h2⟩ := h; rfl
  | .lst ds, v, h => by unfold Rep at h; obtain ⟨a, vs, rfl, h1, h2⟩ := h; rfl
  | .scr ds, v, h => by unfold Rep at h; obtain ⟨a, rfl, h1⟩ := h; rfl
  | .tape, v, h => by unfold Rep at h; obtain ⟨a, _, rfl⟩ := h; rfl
def oIs : D → D → Option D
  | x, .non => some (.bl (isN x))
  | _, _ => none
def oIsNot : D → D → Option D
  | x, .non => some (.bl (!isN x))
  | _, _ => none
theorem opd_is : OpD K (fun x y H Q => y = .non ∧ Q (.bl (decide (x = .non))) H) oIs := by
  intro F H τ T x y v u z Q fh tp r1 r2 e k
  unfold oIs at e
  split at e
  · cases e
    unfold Rep at r2
    exact ⟨r2, by rw [rep_isN r1]; exact k _ F H (.refl fh) tp (by unfold Rep; rfl)⟩
  · cases e
theorem opd_isnot : OpD K (fun x y H Q => y = .non ∧ Q (.bl (!decide (x = .non))) H) oIsNot := by
  intro F H τ T x y v u z Q fh tp r1 r2 e k
  unfold oIsNot at e
  split at e
  · cases e
    unfold Rep at r2
    exact ⟨r2, by rw [rep_isN r1]; exact k _ F H (.refl fh) tp (by unfold Rep; rfl)⟩
  · cases e
/-! ### in -/
def flatD : D → Bool
  | .non => true
  | .bl _ => true
  | .int _ => true
  | .str _ => true
  | _ => false
def toV : D → V
  | .non => .non
  | .bl b => .bl b
  | .int i => .int i
  | .str s => .str s
  | _ => .non
theorem rep_flat {F : Hp} {τ : Option Tp} {d : D} {v : V} (h : Rep K F τ d v) (f : flatD d = true) : v = toV d ∧ flatV v = true := by
  cases d with
  | non => unfold Rep at h; subst h; exact ⟨rfl, rfl⟩
  | bl b => unfold Rep at h; subst h; exact ⟨rfl, rfl⟩
  | int b => unfold Rep at h; subst h; exact ⟨rfl, rfl⟩
  | str b => unfold Rep at h; subst h; exact ⟨rfl, rfl⟩
  | _ => cases f
theorem reps_flat {F : Hp} {τ : Option Tp} : ∀ {ds : List D} {vs : List V}, Reps K F τ ds vs → ds.all flatD = true → vs = ds.map toV ∧ vs.all flatV = true
  | [], vs, h, _ => by unfold Reps at h; subst h; exact ⟨rfl, rfl⟩
  | d :: ds, vs, h, f => by
    unfold Reps at h
    obtain ⟨v, r, rfl, h1, h2⟩ := h
    rw [List.all_cons, Bool.and_eq_true] at f
    obtain ⟨k1, k2⟩ := rep_flat h1 f.1
    obtain ⟨k3, k4⟩ := reps_flat h2 f.2
    exact ⟨by rw [k1, k3]; rfl, by rw [List.all_cons, k2, k4]; rfl⟩
def seqOf : D → Option (List D)
  | .tup ds => some ds
  | .lst ds => some ds
  | .scr ns => some (ns.map .int)
  | _ => none
theorem rep_seq {F H : Hp} {τ : Option Tp} (fh : Same F H) {d : D} {v : V} {ds : List D} (h : Rep K F τ d v) (e : seqOf d = some ds) : ∃ a vs, v = .ref a ∧ (SqL K H a vs ∨ SqT K H a vs) ∧ Reps K F τ ds vs := by
  unfold seqOf at e
  split at e
  · cases e
    unfold Rep at h
    obtain ⟨a, vs, e1, h1, h2⟩ := h
    exact ⟨a, vs, e1, .inr (sqT_mono fh h1), h2⟩
  · cases e
    unfold Rep at h
    obtain ⟨a, vs, e1, h1, h2⟩ := h
    exact ⟨a, vs, e1, .inl (.inl (.inl (fh _ _ h1))), h2⟩
  · cases e
    unfold Rep at h
    obtain ⟨a, e1, h1⟩ := h
    exact ⟨a, _, e1, .inl (sqL_mono fh h1), Reps.ints⟩
  · cases e
def inD (x : D) (ds : List D) : Bool := inV (toV x) (ds.map toV)
def oIn (neg : Bool) : D → D → Option D := fun x y => (seqOf y).bind fun ds => if flatD x = true ∧ ds.all flatD = true then some (.bl (if neg then !inD x ds else inD x ds)) else none
theorem opd_in {neg : Bool} : OpD K (rIn K neg) (oIn neg) := by
  intro F H τ T x y v u z Q fh tp r1 r2 e k
  unfold oIn at e
  cases es : seqOf y with
  | none => rw [es] at e; cases e
  | some ds =>
    rw [es] at e
    have e : (if flatD x = true ∧ ds.all flatD = true then some (D.bl (if neg then !inD x ds else inD x ds)) else none) = some z := e
    split at e
    · rename_i hf
      cases e
      obtain ⟨a, vs, e1, h1, h2⟩ := rep_seq fh r2 es
      obtain ⟨k1, k2⟩ := rep_flat r1 hf.1
      obtain ⟨k3, k4⟩ := reps_flat h2 hf.2
      refine ⟨a, vs, e1, h1, k2, k4, ?_⟩
      rw [k1, k3]
      exact k _ F H (.refl fh) tp (by unfold Rep; rfl)
    · cases e
/-! ### x[i] -/
def oIx : D → D → Option D := fun x y => (seqOf x).bind fun ds => (asI y).bind fun i => atI ds i
theorem atI_reps {F : Hp} {τ : Option Tp} {ds : List D} {vs : List V} {i : Int} {d : D} (r : Reps K F τ ds vs) (h : atI ds i = some d) : ∃ v, atI vs i = some v ∧ Rep K F τ d v := by
  unfold atI at h ⊢
  rw [r.len]
  cases e : ixN ds.length i with
  | none => rw [e] at h; cases h
  | some j =>
    rw [e] at h
    exact r.at h
def rIxA (K : Kf) : R2 := fun x y H Q => rIxL K x y H Q ∨ rIxT K x y H Q
theorem ix_A {X : Cx} : IxR X (rIxA X.K) := ix_list.or ix_tup
theorem opd_ix : OpD K (rIxA K) oIx := by
  intro F H τ T x y v u z Q fh tp r1 r2 e k
  unfold oIx at e
  cases es : seqOf x with
  | none => rw [es] at e; cases e
  | some ds =>
    rw [es] at e
    have e : ((asI y).bind fun i => atI ds i) = some z := e
    cases ei : asI y with
    | none => rw [ei] at e; cases e
    | some i =>
      rw [ei] at e
      have e : atI ds i = some z := e
      rw [asI_eq ei] at r2
      obtain ⟨a, vs, e1, h1, h2⟩ := rep_seq fh r1 es
      obtain ⟨w, h3, h4⟩ := atI_reps h2 e
      unfold Rep at r2
      rcases h1 with h1 | h1
      · exact .inl ⟨a, vs, i, w, e1, r2, h1, h3, k w F H (.refl fh) tp h4⟩
      · exact .inr ⟨a, vs, i, w, e1, r2, h1, h3, k w F H (.refl fh) tp h4⟩
/-! ### - x, not -/
def oNeg : D → Option D
  | .int i => some (.int (-i))
  | _ => none
theorem und_neg : UnD K (rU fun i => .int (-i)) oNeg := by
  intro F H τ T x v z Q fh tp r1 e k
  unfold oNeg at e
  split at e
  · cases e
    unfold Rep at r1
    exact ⟨_, r1, k _ F H (.refl fh) tp (by unfold Rep; rfl)⟩
  · cases e
end

/-! ### built-ins called -/
section
variable {X : Cx} {W : WX} {a b c : Expr} {f g h : DEnv → Mo D} {pos : Pos} {fa : DEnv → Mo (List D)} {es : List Expr}
def CallD (K : Kf) (r : List V → Hp → VK → Prop) (o : List D → Option D) : Prop := ∀ F H τ T xs vs z (Q : VK), Same F H → TapeOk τ T H → Reps K F τ xs vs → o xs = some z →
  (∀ w F' H', Go F H τ F' H' τ → TapeOk τ T H' → Rep K F' τ z w → Q w H') → r vs H Q
def dB (o : List D → Option D) (fa : DEnv → Mo (List D)) : DEnv → Mo D := fun δ T => (fa δ T).bind fun xs T1 => lift (o xs) T1
theorem cB {K : Kf} {mg : Str → Option Value} {r : List V → Hp → VK → Prop} {o : List D → Option D} (ho : CallD K r o) {σ : L2.St} {H : Hp} {Q : VK} (q : cG K mg W (Rep K) (dB o fa) σ H Q) : tCB r (cG K mg W (Reps K) fa) σ H Q := by
  obtain ⟨F0, H0, τ0, F, τ, T, δ, s, p⟩ := q
  refine cG_bind s p fun xs vs F1 H1 τ1 T1 s1 g1 r1 p1 => ?_
  cases e : o xs with
  | none => rw [e] at p1; exact p1.elim
  | some z =>
    rw [e] at p1
    exact ho F1 H1 τ1 T1 xs vs z Q s1.go.fh s1.tp r1 e fun w F' H' g' t' r' => p1 w F' H' τ1 g' t' r'
theorem de_b {id : String} {r : List V → Hp → VK → Prop} {o : List D → Option D} {x : Str} {p : Pos} {e : Expr} (hc : CallR X (.builtin id) r) (ho : CallD X.K r o) (hm : X.mg x = none) (hv : bootBuiltins x = some (.builtin id)) (ha : DA X W (e :: es) fa) (hg : Gl X x := by rfl) (hn : x ≠ "__name__" := by decide) (hdb : (x == ("__debug__" : Str)) = false := by decide)
    (he : starEach (e :: es) X.env = (false, eval e X.env) :: starEach es X.env := by rfl) (hpl : (backTo pos (starEach es X.env)).any (·.1) = false := by rfl) : DE X W (.Call (.Name x p) (e :: es) [] pos) (dB o fa) := pe_imp (pe_callB hc hg hm hv ha hn hdb he hpl) fun σ H Q q => cB ho q
theorem de_ty {id : String} {r : List V → Hp → VK → Prop} {o : List D → Option D} {x : Str} {p : Pos} {e : Expr} (hc : CallR X (.type id) r) (ho : CallD X.K r o) (hm : X.mg x = none) (hv : bootBuiltins x = some (.type id)) (ha : DA X W (e :: es) fa) (hg : Gl X x := by rfl) (hn : x ≠ "__name__" := by decide) (hdb : (x == ("__debug__" : Str)) = false := by decide)
    (he : starEach (e :: es) X.env = (false, eval e X.env) :: starEach es X.env := by rfl) (hpl : (backTo pos (starEach es X.env)).any (·.1) = false := by rfl) : DE X W (.Call (.Name x p) (e :: es) [] pos) (dB o fa) := pe_imp (pe_callTy hc hg hm hv ha hn hdb he hpl) fun σ H Q q => cB ho q
variable {K : Kf}
def oAbs : List D → Option D
  | [.int i] => some (.int (if i < 0 then -i else i))
  | _ => none
theorem cd_abs : CallD K (fun xs H Q => ∃ i, xs = [.int i] ∧ Q (.int (if i < 0 then -i else i)) H) oAbs := by
  intro F H τ T xs vs z Q fh tp r e k
  unfold oAbs at e
  split at e
  · cases e
    obtain ⟨v, rfl, r1⟩ := reps1 r
    unfold Rep at r1
    exact ⟨_, by rw [r1], k _ F H (.refl fh) tp (by unfold Rep; rfl)⟩
  · cases e
def oInt : List D → Option D
  | [.int i] => some (.int i)
  | [.bl b] => some (.int (if b then 1 else 0))
  | _ => none
theorem cd_int : CallD K (fun xs H Q => (∃ i, xs = [.int i] ∧ Q (.int i) H) ∨ ∃ k, xs = [.bl k] ∧ Q (.int (if k then 1 else 0)) H) oInt := by
  intro F H τ T xs vs z Q fh tp r e k
  unfold oInt at e
  split at e
  · cases e
    obtain ⟨v, rfl, r1⟩ := reps1 r
    unfold Rep at r1
    exact .inl ⟨_, by rw [r1], k _ F H (.refl fh) tp (by unfold Rep; rfl)⟩
  · cases e
    obtain ⟨v, rfl, r1⟩ := reps1 r
    unfold Rep at r1
    exact .inr ⟨_, by rw [r1], k _ F H (.refl fh) tp (by unfold Rep; rfl)⟩
  · cases e
def oMax : List D → Option D
  | [.int i, .int j] => some (.int (if j > i then j else i))
  | _ => none
def oMin : List D → Option D
  | [.int i, .int j] => some (.int (if j < i then j else i))
  | _ => none
theorem cd_max : CallD K (fun xs H Q => ∃ i j, xs = [.int i, .int j] ∧ Q (.int (if j > i then j else i)) H) oMax := by
  intro F H τ T xs vs z Q fh tp r e k
  unfold oMax at e
  split at e
  · cases e
    obtain ⟨v, u, rfl, r1, r2⟩ := reps2 r
    unfold Rep at r1 r2
    exact ⟨_, _, by rw [r1, r2], k _ F H (.refl fh) tp (by unfold Rep; rfl)⟩
  · cases e
theorem cd_min : CallD K (fun xs H Q => ∃ i j, xs = [.int i, .int j] ∧ Q (.int (if j < i then j else i)) H) oMin := by
  intro F H τ T xs vs z Q fh tp r e k
  unfold oMin at e
  split at e
  · cases e
    obtain ⟨v, u, rfl, r1, r2⟩ := reps2 r
    unfold Rep at r1 r2
    exact ⟨_, _, by rw [r1, r2], k _ F H (.refl fh) tp (by unfold Rep; rfl)⟩
  · cases e
def oLen : List D → Option D
  | [x] => (seqOf x).map fun ds => .int (ds.length : Nat)
  | _ => none
theorem cd_len : CallD K (fun xs H Q => ∃ p ys, xs = [.ref p] ∧ (SqL K H p ys ∨ SqT K H p ys) ∧ Q (.int ys.length) H) oLen := by
  intro F H τ T xs vs z Q fh tp r e k
  unfold oLen at e
  split at e
  · rename_i x
    obtain ⟨v, rfl, r1⟩ := reps1 r
    cases es : seqOf x with
    | none => rw [es] at e; cases e
    | some ds =>
      rw [es] at e
      cases e
      obtain ⟨a, vs, e1, h1, h2⟩ := rep_seq fh r1 es
      exact ⟨a, vs, by rw [e1], h1, k _ F H (.refl fh) tp (by unfold Rep; rw [h2.len])⟩
  · cases e
/-- tuple(x) -/
def oTuple : List D → Option D
  | [x] => (seqOf x).map fun ds => .tup ds
  | _ => none
theorem cd_tuple : CallD K (fun xs H Q => ∃ p ys, xs = [.ref p] ∧ ((SqL K H p ys ∧ ∀ l, H l = none → Q (.ref l) (upd H l (.tup ys))) ∨ (SqT K H p ys ∧ Q (.ref p) H))) oTuple := by
  intro F H τ T xs vs z Q fh tp r e k
  unfold oTuple at e
  split at e
  · rename_i x
    obtain ⟨v, rfl, r1⟩ := reps1 r
    have lst : ∀ {a : Addr} {us : List V} {ds : List D}, v = .ref a → SqL K H a us → Reps K F τ ds us → z = .tup ds → ∃ p ys, [v] = [V.ref p] ∧ ((SqL K H p ys ∧ ∀ l, H l = none → Q (.ref l) (upd H l (.tup ys))) ∨ (SqT K H p ys ∧ Q (.ref p) H)) := fun {a us ds} e1 h1 h2 ez => by
      refine ⟨a, us, by rw [e1], .inl ⟨h1, fun l hl => ?_⟩⟩
      have g := Go.new (τ := τ) (o := .tup us) fh hl
      refine k _ _ _ g (tp.upd (tp.off hl)) ?_
      rw [ez]
      unfold Rep
      exact ⟨l, us, rfl, .inl (.inl upd_same), h2.mono g.ff fun _ e => e⟩
    cases x with
    | tup ds =>
      cases e
      have r2 := r1
      unfold Rep at r2
      obtain ⟨a, us, e1, h1, h2⟩ := r2
      exact ⟨a, us, by rw [e1], .inr ⟨sqT_mono fh h1, by rw [← e1]; exact k _ F H (.refl fh) tp r1⟩⟩
    | lst ds =>
      cases e
      unfold Rep at r1
      obtain ⟨a, us, e1, h1, h2⟩ := r1
      exact lst e1 (.inl (.inl (fh _ _ h1))) h2 rfl
    | scr ns =>
      cases e
      unfold Rep at r1
      obtain ⟨a, e1, h1⟩ := r1
      exact lst e1 (sqL_mono fh h1) Reps.ints rfl
    | _ => cases e
  · cases e
/-- sum(xs) -/
def intsOf : List D → Option (List Int)
  | [] => some []
  | .int i :: r => (intsOf r).map (i :: ·)
  | _ :: _ => none
def blsOf : List D → Option (List Bool)
  | [] => some []
  | .bl i :: r => (blsOf r).map (i :: ·)
  | _ :: _ => none
theorem intsOf_eq : ∀ {ds : List D} {ns : List Int}, intsOf ds = some ns → ds = ns.map .int
  | [], ns, h => by cases h; rfl
  | .int i :: r, ns, h => by
    unfold intsOf at h
    cases e : intsOf r with
    | none => rw [e] at h; cases h
    | some ms => rw [e] at h; cases h; rw [intsOf_eq e]; rfl
  | .non :: _, _, h => by cases h
  | .bl _ :: _, _, h => by cases h
  | .str _ :: _, _, h => by cases h
  | .tup _ :: _, _, h => by cases h
  | .lst _ :: _, _, h => by cases h
  | .scr _ :: _, _, h => by cases h
  | .tape :: _, _, h => by cases h
theorem blsOf_eq : ∀ {ds : List D} {ns : List Bool}, blsOf ds = some ns → ds = ns.map .bl
  | [], ns, h => by cases h; rfl
  | .bl i :: r, ns, h => by
    unfold blsOf at h
    cases e : blsOf r with
    | none => rw [e] at h; cases h
    | some ms => rw [e] at h; cases h; rw [blsOf_eq e]; rfl
  | .non :: _, _, h => by cases h
  | .int _ :: _, _, h => by cases h
  | .str _ :: _, _, h => by cases h
  | .tup _ :: _, _, h => by cases h
  | .lst _ :: _, _, h => by cases h
  | .scr _ :: _, _, h => by cases h
  | .tape :: _, _, h => by cases h
def oSum : List D → Option D
  | [x] => (lstOf x).bind fun ds => (intsOf ds).map fun ns => .int ns.sum
  | _ => none
theorem cd_sum : CallD K (rSum K) oSum := by
  intro F H τ T xs vs z Q fh tp r e k
  unfold oSum at e
  split at e
  · rename_i x
    obtain ⟨v, rfl, r1⟩ := reps1 r
    cases es : lstOf x with
    | none => rw [es] at e; cases e
    | some ds =>
      rw [es] at e
      cases ei : intsOf ds with
      | none => simp [ei] at e
      | some ns =>
        simp [ei] at e
        subst e
        obtain ⟨a, us, e1, _, h1, h2⟩ := rep_lst fh r1 es
        rw [intsOf_eq ei] at h2
        rw [h2.of_ints] at h1
        exact ⟨a, ns, by rw [e1], h1, k _ F H (.refl fh) tp (by unfold Rep; rfl)⟩
  · cases e
def oAll : List D → Option D
  | [x] => (lstOf x).bind fun ds => (blsOf ds).map fun ns => .bl (ns.all id)
  | _ => none
def oAny : List D → Option D
  | [x] => (lstOf x).bind fun ds => (blsOf ds).map fun ns => .bl (ns.any id)
  | _ => none
theorem cd_all : CallD K (rAll K) oAll := by
  intro F H τ T xs vs z Q fh tp r e k
  unfold oAll at e
  split at e
  · rename_i x
    obtain ⟨v, rfl, r1⟩ := reps1 r
    cases es : lstOf x with
    | none => rw [es] at e; cases e
    | some ds =>
      rw [es] at e
      cases ei : blsOf ds with
      | none => simp [ei] at e
      | some ns =>
        simp [ei] at e
        subst e
        obtain ⟨a, us, e1, _, h1, h2⟩ := rep_lst fh r1 es
        rw [blsOf_eq ei] at h2
        rw [h2.of_bls] at h1
        exact ⟨a, ns, by rw [e1], h1, k _ F H (.refl fh) tp (by unfold Rep; simp)⟩
  · cases e
theorem cd_any : CallD K (rAny K) oAny := by
  intro F H τ T xs vs z Q fh tp r e k
  unfold oAny at e
  split at e
  · rename_i x
    obtain ⟨v, rfl, r1⟩ := reps1 r
    cases es : lstOf x with
    | none => rw [es] at e; cases e
    | some ds =>
      rw [es] at e
      cases ei : blsOf ds with
      | none => simp [ei] at e
      | some ns =>
        simp [ei] at e
        subst e
        obtain ⟨a, us, e1, _, h1, h2⟩ := rep_lst fh r1 es
        rw [blsOf_eq ei] at h2
        rw [h2.of_bls] at h1
        exact ⟨a, ns, by rw [e1], h1, k _ F H (.refl fh) tp (by unfold Rep; simp)⟩
  · cases e
/-- isinstance(x, T), T a built-in class -/
def isD (T : String) : D → Option Bool
  | .non => kitB "NoneType" T
  | .bl _ => kitB "bool" T
  | .int _ => kitB "int" T
  | .str _ => kitB "str" T
  | .tup _ => kitB "tuple" T
  | .lst _ => kitB "list" T
  | .scr _ => kitB "list" T
  | .tape => none
theorem tyx_tup {H : Hp} {a : Addr} {vs : List V} (h : SqT K H a vs) : TyX K H (.ref a) (.type "tuple") := by
  rcases h with (h | ⟨o, h⟩) | ⟨o, its, n, h1, h2, h3⟩
  · exact .base (.tup h)
  · exact .fTuple h
  · exact .kTuple h1 h2
theorem tyx_lst {H : Hp} {a : Addr} {vs : List V} (h : SqL K H a vs) : TyX K H (.ref a) (.type "list") := by
  rcases h with (h | ⟨o, h⟩) | ⟨o, its, n, h1, h2, h3⟩
  · exact .base (.lst h)
  · exact .base (.frz h)
  · exact .kList h1 h2
def dIsi (T : String) (f : DEnv → Mo D) : DEnv → Mo D := fun δ T1 => (f δ T1).bind fun x T2 => lift ((isD T x).map .bl) T2
theorem de_isi {T : Str} {Ty : String} {p p2 : Pos} (hm : X.mg "isinstance" = none) (ha : DE X W a f) (hmT : X.mg T = none) (hvT : bootBuiltins T = some (.type Ty)) (hg : Gl X "isinstance" := by rfl) (hgT : Gl X T := by rfl) (hnT : T ≠ "__name__" := by decide) (hdT : (T == ("__debug__" : Str)) = false := by decide)
    (he : starEach [a, .Name T p2] X.env = (false, eval a X.env) :: starEach [.Name T p2] X.env := by rfl) (he2 : starEach [.Name T p2] X.env = (false, eval (.Name T p2) X.env) :: starEach [] X.env := by rfl) (hpl : (backTo pos (starEach [.Name T p2] X.env)).any (·.1) = false := by rfl) :
    DE X W (.Call (.Name "isinstance" p) [a, .Name T p2] [] pos) (dIsi Ty f) :=
  pe_imp (pe_callB call_isi hg hm (by decide +kernel) (pa_cons ha (pa_cons (pe_bltn (v := .ty Ty) hgT hmT hvT rfl hnT hdT) pa_nil he2) he) (by decide) (by decide) he hpl) fun σ H Q q => by
    obtain ⟨F0, H0, τ0, F, τ, T', δ, s, p⟩ := q
    refine cG_bind s p fun x v F1 H1 τ1 T1 s1 g1 r1 p1 => ?_
    have fin : ∀ (t : String) (b : Bool), TyX X.K H1 v (.type t) → kitB t Ty = some b → isD Ty x = some b → rIsi X.K [v, .ty Ty] H1 Q := fun t b ty hb hd => by
      refine ⟨v, .ty Ty, .type t, .type Ty, b, rfl, .ty Ty, ty, hb, ?_⟩
      rw [hd] at p1
      exact p1 _ F1 H1 τ1 (.refl s1.go.fh) s1.tp (by unfold Rep; rfl)
    cases e : isD Ty x with
    | none => rw [e] at p1; exact p1.elim
    | some b =>
      cases x with
      | non => unfold Rep at r1; subst r1; exact fin "NoneType" b (.base .non) e e
      | bl y => unfold Rep at r1; subst r1; exact fin "bool" b (.base (.bl y)) e e
      | int y => unfold Rep at r1; subst r1; exact fin "int" b (.base (.int y)) e e
      | str y => unfold Rep at r1; subst r1; exact fin "str" b (.base (.str y)) e e
      | tup ds => unfold Rep at r1; obtain ⟨q, vs, rfl, h1, h2⟩ := r1; exact fin "tuple" b (tyx_tup (sqT_mono s1.go.fh h1)) e e
      | lst ds => unfold Rep at r1; obtain ⟨q, vs, rfl, h1, h2⟩ := r1; exact fin "list" b (.base (.lst (s1.go.fh _ _ h1))) e e
      | scr ds => unfold Rep at r1; obtain ⟨q, rfl, h1⟩ := r1; exact fin "list" b (tyx_lst (sqL_mono s1.go.fh h1)) e e
      | tape => cases e
/-- x.bit_length() -/
def oBits : D → Option D
  | .int i => some (.int (Builtin.Int.intBits i : Nat))
  | _ => none
theorem de_bits {apos : Pos} (ho : DE X W a f) (hbase : attributeBase a "bit_length" X.env (eval a X.env) = eval a X.env := by rfl) (hline : (apos.endLine == pos.line) = true := by rfl) : DE X W (.Call (.Attribute a "bit_length" apos) [] [] pos) (dUn oBits f) :=
  pe_imp (pe_bits ho hbase hline) fun σ H Q q => cun (r := fun x H1 Q => ∃ i, x = .int i ∧ Q (.int (Builtin.Int.intBits i : Nat)) H1) (fun F H τ T x v z Q fh tp r1 e k => by
    unfold oBits at e
    split at e
    · cases e
      unfold Rep at r1
      exact ⟨_, r1, k _ F H (.refl fh) tp (by unfold Rep; rfl)⟩
    · cases e) q
end
end DD

/-! DD7: short words for a printed proof: a def of the text (DefF), its promise kept (OkF), the law's end. -/
namespace DD
open PySem PySem.Spec PyProof.Rows L2
section
variable {P : Program} {w : World} {K : Kf} {mg : Str → Option Value} {base : Heap}
structure DefF (K : Kf) (mg : Str → Option Value) (x : Str) (st : Stmt) (ps : List Str) (f : Addr) (fd : FuncData) : Prop where
  F : Fun K x x st f fd
  b : Binds K fd ps []
  g : mg x = some (.ref f)
/-- a def of the text stands under its name -/
def Def (K : Kf) (mg : Str → Option Value) (x : Str) (st : Stmt) (ps : List Str) : Prop := ∃ f fd, DefF K mg x st ps f fd
/-- the def x keeps the promise of the denotation den -/
def OkF (P : Program) (w : World) (K : Kf) (mg : Str → Option Value) (base : Heap) (x : Str) (ps : List Str) (k n : Nat) (den : List D → Mo D) : Prop :=
  ∃ f fd, mg x = some (.ref f) ∧ PySem.W.keepIn K (.ref f) = true ∧ Binds K fd ps [] ∧ FnOk P w K mg base (L2.CX P w) k f fd ps (SpD K mg n den)
theorem okF {x : Str} {st : Stmt} {N ps : List Str} {n k j : Nat} {g : SD} (T : Def K mg x st ps) (S : FnScope N ps (defScope st)) (hn : ps.length = n) (hk : N.length = n + k)
    (hbody : ∀ (f : Addr) (cdv : Value) (A : Around) (outer : List PySem.Env) (s : Shared) (H : Hp) (E : XK), Room j (BX P w K mg base N x (defScope st) f cdv A outer s H E).A → (BX P w K mg base N x (defScope st) f cdv A outer s H E).A.units + 64 < cLine → Takes (BX P w K mg base N x (defScope st) f cdv A outer s H E) (WF E) →
      PassesOwn (model P w) (BX P w K mg base N x (defScope st) f cdv A outer s H E).A (BX P w K mg base N x (defScope st) f cdv A outer s H E).env (BX P w K mg base N x (defScope st) f cdv A outer s H E).xe →
      DSs (BX P w K mg base N x (defScope st) f cdv A outer s H E) (WF E) (defBody st) g) : OkF P w K mg base x ps (j + 1) n (runD k g) := by
  obtain ⟨f, fd, F⟩ := T
  exact ⟨f, fd, F.g, F.F.kp, F.b, okD F.F S hn hk fun cdv A outer s H E hr hu tk po => hbody f cdv A outer s H E hr hu tk po⟩
/-- a def by its value: den may be replaced by what it is equal to, where it is asked -/
theorem OkF.imp {x : Str} {ps : List Str} {k n : Nat} {den den' : List D → Mo D} (h : OkF P w K mg base x ps k n den) (e : ∀ ds T, ds.length = n → den' ds T ≠ .stuck → den ds T = den' ds T) : OkF P w K mg base x ps k n den' := by
  obtain ⟨f, fd, h1, h2, h3, h4⟩ := h
  refine ⟨f, fd, h1, h2, h3, h4.imp fun vs H Q E q => ?_⟩
  obtain ⟨F, τ, T, ds, q1, q2, q3, q4, q5, q6⟩ := q
  refine ⟨F, τ, T, ds, q1, q2, q3, q4, q5, ?_⟩
  by_cases z : den' ds T = .stuck
  · rw [z] at q6; exact q6.elim
  · rw [e ds T q5 z]; exact q6
/-- the same by less room -/
theorem OkF.mono {x : Str} {ps : List Str} {k k' n : Nat} {den : List D → Mo D} (h : OkF P w K mg base x ps k n den) (e : k ≤ k') : OkF P w K mg base x ps k' n den := by
  obtain ⟨f, fd, h1, h2, h3, h4⟩ := h
  exact ⟨f, fd, h1, h2, h3, h4.mono e⟩
end
section
variable {X : Cx} {W : WX} {a b c : Expr} {f g : DEnv → Mo D} {pos : Pos} {fa : DEnv → Mo (List D)} {es : List Expr}
theorem de_f {k n j : Nat} {ps : List Str} {den : List D → Mo D} {x : Str} {p : Pos} {e : Expr} (tk : Takes X W) (G : OkF X.prog X.w X.K X.mg X.base x ps k n den) (hr : Room j X.A)
    (ha : DA X W (e :: es) fa) (hj : k ≤ j := by decide) (hg : Gl X x := by rfl) (hdb : (x == ("__debug__" : Str)) = false := by decide) (he : starEach (e :: es) X.env = (false, eval e X.env) :: starEach es X.env := by rfl) (hpl : (backTo pos (starEach es X.env)).any (·.1) = false := by rfl) :
    DE X W (.Call (.Name x p) (e :: es) [] pos) (dCall n den fa) := by
  obtain ⟨f, fd, h1, h2, h3, h4⟩ := G
  exact de_call tk h4 (hr.mono hj) h1 h2 h3 ha hg hdb he hpl
/-- a class of errors stands under its name -/
def Xcs (K : Kf) (mg : Str → Option Value) (x : Str) : Prop := ∃ C, Xc K mg x C
theorem ds_raise' {x : Str} {p pos' : Pos} (hc : X.calm = true) (tk : Takes X W) (T : Xcs X.K X.mg x) (hg : Gl X x := by rfl) (hdb : (x == ("__debug__" : Str)) = false := by decide) : DS X W (.Raise (some (.Call (.Name x p) [] [] pos)) none pos') (sRaise x) := by
  obtain ⟨C, T⟩ := T
  exact ds_raise hc tk T hg hdb
/-- what an except clause takes: rows (class raised, whether) -/
def SubIs (K : Kf) (mg : Str → Option Value) (x : Str) (rows : List (Str × Bool)) : Prop := ∃ c, mg x = some c ∧ ∀ p ∈ rows, ∃ C, mg p.1 = some (.ref C) ∧ PySem.W.exmOne K (.ref C) c = some p.2
def subOf (rows : List (Str × Bool)) : Str → Option Bool := fun y => rows.lookup y
theorem lookup_mem {rows : List (Str × Bool)} {y : Str} {b : Bool} (h : rows.lookup y = some b) : (y, b) ∈ rows := by
  induction rows with
  | nil => cases h
  | cons p r ih =>
    obtain ⟨z, c⟩ := p
    rw [List.lookup_cons] at h
    split at h
    · rename_i e
      cases h
      rw [beq_iff_eq] at e
      rw [e]; exact List.mem_cons_self
    · exact List.mem_cons_of_mem _ (ih h)
theorem subOk {x : Str} {rows : List (Str × Bool)} (h : SubIs X.K X.mg x rows) (hg : Gl X x := by rfl) (hdb : (x == ("__debug__" : Str)) = false := by decide) : ∃ c, SubOk X x c (subOf rows) := by
  obtain ⟨c, h1, h2⟩ := h
  refine ⟨c, ⟨hg, hdb, .inl h1⟩, fun y C b e1 e2 => ?_⟩
  obtain ⟨C', e3, e4⟩ := h2 _ (lookup_mem e2)
  rw [e1] at e3
  cases e3
  exact e4
/-- try: .. except x: .., one clause -/
theorem ds_try1 {body : List Stmt} {x : Str} {rows : List (Str × Bool)} {g1 g2 : SD} {b₀ : Stmt} {suite : List Stmt} {np pos' : Pos} (hs : X.stack = X.env :: X.outer) (hf : X.env.frame = some X.env.locals) (tk : Takes X W) (T : SubIs X.K X.mg x rows)
    (hb : ∀ (W' : WX) (pn : List (Addr × Obj)) (xe : Value → Shared → Prop), Takes (X.tr pn xe) W' → PassesOwn (model X.prog X.w) X.A X.env xe → DSs (X.tr pn xe) W' body g1)
    (hsu : ∀ (a : Addr) (oe : Obj) (cls : Value) (d : Option Addr) (pn : List (Addr × Obj)), Zc cls d oe → (∃ vs, oe.data = .fields vs) → DSs (X.suite a ((a, oe) :: pn)) W0 (b₀ :: suite) g2) (hg : Gl X x := by rfl) (hdb : (x == ("__debug__" : Str)) = false := by decide) :
    DS X W (.Try body [.ExceptHandler (some (.Name x np)) none (b₀ :: suite) pos'] [] [] pos) (sTry g1 [(x, subOf rows, g2)]) := by
  obtain ⟨c, hc⟩ := subOk T hg hdb
  exact ds_try hs hf tk hb (.cons hc hsu .nil)
/-- a module's int -/
def GInt (mg : Str → Option Value) (x : Str) (i : Int) : Prop := ∃ t, mg x = some (.int i t)
theorem de_gint {x : Str} {i : Int} (T : GInt X.mg x i) (hg : Gl X x := by rfl) (hd : (x == ("__debug__" : Str)) = false := by decide) : DE X W (.Name x pos) (dC (.int i)) := by
  obtain ⟨t, e⟩ := T
  exact de_glob hg e (v := .int i) ⟨t, rfl⟩ (fun _ _ => by unfold Rep; rfl) hd
end
/-! ### the law's end -/
def spLaw (K : Kf) : Sp := fun vs H Q _ => ∃ (a : Addr) (ns : List Int), vs = [.ref a] ∧ SqL K H a (ns.map V.int) ∧ ns.length ≤ 63 ∧ ∀ H', Q (.bl true) H'
theorem cx_false {P : Program} {w : World} {outer : List PySem.Env} {H : Hp} {s : Shared} {e : Value} {s' : Shared} (h : L2.CX P w outer H s (fun _ _ _ => False) e s') : False := by
  obtain ⟨_, _, _, _, _, _, _, _, _, _, _, _, z⟩ := h
  exact z
theorem law_ok {P : Program} {w : World} {K : Kf} {mg : Str → Option Value} {base : Heap} {k : Nat} {f : Addr} {fd : FuncData} {ps : List Str} {den : List D → Mo D} (F : FnOk P w K mg base (L2.CX P w) k f fd ps (SpD K mg 1 den))
    (h : ∀ ns : List Int, ns.length ≤ 63 → ∃ T, den [.scr ns] none = .ok (.bl true) T) : FnOk P w K mg base (L2.CX P w) k f fd ps (spLaw K) := F.imp fun vs H Q E q => by
  obtain ⟨a, ns, rfl, h1, h2, h3⟩ := q
  obtain ⟨T, e⟩ := h ns h2
  refine ⟨H, none, none, [.scr ns], fun _ _ h => h, (fun _ z => by cases z), trivial, .one (by unfold Rep; exact ⟨a, rfl, h1⟩), rfl, ?_⟩
  rw [e]
  intro v F' H' τ' g t r
  unfold Rep at r
  rw [r]
  exact h3 H'
theorem law_walk {l : PySem.W.OpenLaw} {k : Nat} {q : Program} {loose : List Str} {XP : (Str → Option Value) → Heap → Prop} {YP : World → Heap → Prop} {d : DefRec} {K : Params → PySem.W.Frag} {x : Str}
    (hn : l.most = some 63) (hdf : d.params.defaults = []) (hr : Room k callerA) (hY : ∀ (w : World) (h : Heap), YP w h → (K w.params).In h)
    (F : ∀ (w : World) (mg : Str → Option Value) (fa : Addr) (h : Heap), (K w.params).In h → h.Ns mainGlobals mg → mg d.name = some (.ref fa) →
      ∃ fd : FuncData, (∀ (s : Shared) (u : Value), BindsTo s fd ⟨[u], []⟩ [(x, u)]) ∧
        ∀ base : Heap, (K w.params).In base → base.Ns mainGlobals mg → FnOk l.prog w (K w.params) mg base (L2.CX l.prog w) k fa fd [x] (spLaw (K w.params))) :
    PySem.W.WalkO q loose XP YP l.row.toRowW d [] (fun f vs => PySem.call f vs) :=
  L2.walk_of (n := 63) (k := k) (x := x) (CX := fun w => L2.CX l.prog w) (sp := fun w => spLaw (K w.params)) hn (by decide) hdf hr hY F (fun w H a ns hl _ hS => ⟨a, ns, rfl, hS, hl, fun _ => rfl⟩) fun w H s e s' z => cx_false z
end DD
namespace DD
open PySem PySem.Spec PyProof.Rows L2
theorem exm_of {K : PySem.W.Frag} {y x : Addr} {b : Bool} (h1 : PySem.W.subIn K (.ref x) (.type "BaseException") = some true) (h2 : PySem.W.isClsIn K x = true) (h3 : PySem.W.typeIn K (.ref x) = some (.type "type")) (h4 : PySem.W.subIn K (.ref y) (.ref x) = some b) :
    PySem.W.exmOne K (.ref y) (.ref x) = some b := by
  have e1 : (PySem.W.subIn K (.ref x) (.type "BaseException") == some true) = true := by rw [h1] <;> rfl
  have e2 : ((PySem.W.clsIn K x).isSome && PySem.W.typeIn K (.ref x) == some (.type "type")) = true := by
    have h2' : (PySem.W.clsIn K x).isSome = true := h2
    rw [h2', h3] <;> rfl
  show (if (PySem.W.subIn K (.ref x) (.type "BaseException") == some true) = true then (if ((PySem.W.clsIn K x).isSome && PySem.W.typeIn K (.ref x) == some (.type "type")) = true then PySem.W.subIn K (.ref y) (.ref x) else none) else none) = some b
  rw [if_pos e1, if_pos e2]
  exact h4
end DD

/-! DD8: how a denotation is reckoned: the applied forms, for simp. -/
namespace DD
open PySem PySem.Spec PyProof.Rows L2
section
variable {α β : Type} {δ : DEnv} {T : Option Tape} {f g h : DEnv → Mo D} {fa : DEnv → Mo (List D)} {t u : DEnv → Mo Bool} {g1 g2 b : SD}
@[simp] theorem Out.bind_ok (a : α) (k : α → Mo β) : (Out.ok a T).bind k = k a T := id rfl
@[simp] theorem Out.bind_exc (e : Exn) (k : α → Mo β) : (Out.exc e T : Out α).bind k = .exc e T := id rfl
@[simp] theorem Out.bind_stuck (k : α → Mo β) : (Out.stuck : Out α).bind k = .stuck := id rfl
@[simp] theorem Out.st_ok (a : α) (k : α → Option Tape → OS) : (Out.ok a T).st δ k = k a T := id rfl
@[simp] theorem Out.st_exc (e : Exn) (k : α → Option Tape → OS) : (Out.exc e T : Out α).st δ k = .exc e δ T := id rfl
@[simp] theorem Out.st_stuck (k : α → Option Tape → OS) : (Out.stuck : Out α).st δ k = .stuck := id rfl
@[simp] theorem lift_some (a : α) : lift (some a) T = .ok a T := id rfl
@[simp] theorem lift_none : (lift none T : Out α) = .stuck := id rfl
@[simp] theorem dC_a (d : D) : dC d δ T = .ok d T := id rfl
@[simp] theorem dV_a (i : Nat) : dV i δ T = lift (slotD δ i) T := id rfl
@[simp] theorem slotD_zero (d : D) (r : DEnv) : slotD (Sl.val d :: r) 0 = some d := id rfl
@[simp] theorem slotD_un (r : DEnv) : slotD (Sl.un :: r) 0 = none := id rfl
@[simp] theorem slotD_own (ds : List D) (r : DEnv) : slotD (Sl.own ds :: r) 0 = none := id rfl
@[simp] theorem slotD_succ (i : Nat) (x : Sl) (r : DEnv) : slotD (x :: r) (i + 1) = slotD r i := id rfl
@[simp] theorem asB_bl (b : Bool) : asB (.bl b) = some b := id rfl
@[simp] theorem asI_int (b : Int) : asI (.int b) = some b := id rfl
@[simp] theorem tupOf_tup (ds : List D) : tupOf (.tup ds) = some ds := id rfl
@[simp] theorem lstOf_lst (ds : List D) : lstOf (.lst ds) = some ds := id rfl
@[simp] theorem lstOf_scr (ns : List Int) : lstOf (.scr ns) = some (ns.map .int) := id rfl
@[simp] theorem bindQ_ok (a : α) (k : α → Mo β) : (Out.ok a T).bindQ k = k a T := id rfl
@[simp] theorem bindQ_exc (e : Exn) (k : α → Mo β) : (Out.exc e T : Out α).bindQ k = .stuck := id rfl
@[simp] theorem bindQ_stuck (k : α → Mo β) : (Out.stuck : Out α).bindQ k = .stuck := id rfl
@[simp] theorem seq_nx (k : SD) : (OS.nx δ T).seq k = k δ T := id rfl
@[simp] theorem seq_ret (d : D) (k : SD) : (OS.ret d T).seq k = .ret d T := id rfl
@[simp] theorem seq_bk (k : SD) : (OS.bk δ T).seq k = .bk δ T := id rfl
@[simp] theorem seq_ct (k : SD) : (OS.ct δ T).seq k = .ct δ T := id rfl
@[simp] theorem seq_exc (e : Exn) (k : SD) : (OS.exc e δ T).seq k = .exc e δ T := id rfl
@[simp] theorem seq_stuck (k : SD) : OS.stuck.seq k = .stuck := id rfl
@[simp] theorem turn_nx (k : SD) : (OS.nx δ T).turn k = k δ T := id rfl
@[simp] theorem turn_ret (d : D) (k : SD) : (OS.ret d T).turn k = .ret d T := id rfl
@[simp] theorem turn_bk (k : SD) : (OS.bk δ T).turn k = .nx δ T := id rfl
@[simp] theorem turn_ct (k : SD) : (OS.ct δ T).turn k = k δ T := id rfl
@[simp] theorem turn_exc (e : Exn) (k : SD) : (OS.exc e δ T).turn k = .exc e δ T := id rfl
@[simp] theorem turn_stuck (k : SD) : OS.stuck.turn k = .stuck := id rfl
@[simp] theorem out_nx : (OS.nx δ T).out = .ok .non T := id rfl
@[simp] theorem out_ret (d : D) : (OS.ret d T).out = .ok d T := id rfl
@[simp] theorem out_exc (e : Exn) : (OS.exc e δ T).out = .exc e T := id rfl
@[simp] theorem out_stuck : OS.stuck.out = .stuck := id rfl
@[simp] theorem catch_nx (k : Exn → SD) : (OS.nx δ T).catch k = .nx δ T := id rfl
@[simp] theorem catch_ret (d : D) (k : Exn → SD) : (OS.ret d T).catch k = .ret d T := id rfl
@[simp] theorem catch_bk (k : Exn → SD) : (OS.bk δ T).catch k = .bk δ T := id rfl
@[simp] theorem catch_ct (k : Exn → SD) : (OS.ct δ T).catch k = .ct δ T := id rfl
@[simp] theorem catch_exc (e : Exn) (k : Exn → SD) : (OS.exc e δ T).catch k = k e δ T := id rfl
@[simp] theorem catch_stuck (k : Exn → SD) : OS.stuck.catch k = .stuck := id rfl
@[simp] theorem quiet_a : quiet g1 δ T = (g1 δ T).quiet := id rfl
@[simp] theorem quiet_nx : (OS.nx δ T).quiet = .nx δ T := id rfl
@[simp] theorem quiet_ret (d : D) : (OS.ret d T).quiet = .ret d T := id rfl
@[simp] theorem quiet_bk : (OS.bk δ T).quiet = .bk δ T := id rfl
@[simp] theorem quiet_ct : (OS.ct δ T).quiet = .ct δ T := id rfl
@[simp] theorem quiet_exc (e : Exn) : (OS.exc e δ T).quiet = .stuck := id rfl
@[simp] theorem handle_nil (e : Exn) : handle e [] δ T = .exc e δ T := id rfl
@[simp] theorem handle_cons (e : Exn) (x : Str) (sub : Str → Option Bool) (r : List Hd) : handle e ((x, sub, g1) :: r) δ T = (sub e.cls).elim .stuck fun b => if b = true then quiet g1 δ T else handle e r δ T := id rfl
@[simp] theorem ltI_b (i j : Int) : ltI i j = decide (i < j) := ltI_eq i j
@[simp] theorem leI_b (i j : Int) : leI i j = decide (i ≤ j) := leI_eq i j
@[simp] theorem dBin_a (o : D → D → Option D) : dBin o f g δ T = (f δ T).bind fun x T1 => (g δ T1).bind fun y T2 => lift (o x y) T2 := id rfl
@[simp] theorem dUn_a (o : D → Option D) : dUn o f δ T = (f δ T).bind fun x T1 => lift (o x) T1 := id rfl
@[simp] theorem dTv_a : dTv f δ T = (f δ T).bind fun x T1 => lift (asB x) T1 := id rfl
@[simp] theorem dAnd_a : dAnd t u δ T = (t δ T).bind fun b T1 => if b = true then u δ T1 else .ok false T1 := id rfl
@[simp] theorem dOr_a : dOr t u δ T = (t δ T).bind fun b T1 => if b = true then .ok true T1 else u δ T1 := id rfl
@[simp] theorem dNot_a : dNot t δ T = (t δ T).bind fun b T1 => .ok (!b) T1 := id rfl
@[simp] theorem dAndV_a : dAndV f g δ T = (f δ T).bind fun x T1 => (lift (asB x) T1).bind fun b T2 => if b = true then g δ T2 else .ok (.bl false) T2 := id rfl
@[simp] theorem dOrV_a : dOrV f g δ T = (f δ T).bind fun x T1 => (lift (asB x) T1).bind fun b T2 => if b = true then .ok (.bl true) T2 else g δ T2 := id rfl
@[simp] theorem dNotV_a : dNotV f δ T = (f δ T).bind fun x T1 => lift ((asB x).map fun b => .bl (!b)) T1 := id rfl
@[simp] theorem dIf_a : dIf t f g δ T = (t δ T).bind fun b T1 => if b = true then f δ T1 else g δ T1 := id rfl
@[simp] theorem aN_a : aN δ T = .ok [] T := id rfl
@[simp] theorem aC_a : aC f fa δ T = (f δ T).bind fun x T1 => (fa δ T1).bind fun xs T2 => .ok (x :: xs) T2 := id rfl
@[simp] theorem dTup_a : dTup fa δ T = (fa δ T).bind fun xs T1 => if xs.length < line then .ok (.tup xs) T1 else .stuck := id rfl
@[simp] theorem lLst_a : lLst fa δ T = (fa δ T).bind fun xs T1 => if xs.length < line then .ok xs T1 else .stuck := id rfl
@[simp] theorem dL_a : dL fa δ T = (fa δ T).bind fun xs T1 => .ok (.lst xs) T1 := id rfl
@[simp] theorem dCall_a (n : Nat) (den : List D → Mo D) : dCall n den fa δ T = (fa δ T).bind fun ds T1 => if ds.length = n then den ds T1 else .stuck := id rfl
@[simp] theorem dB_a (o : List D → Option D) : dB o fa δ T = (fa δ T).bind fun xs T1 => lift (o xs) T1 := id rfl
@[simp] theorem dIsi_a (Ty : String) : dIsi Ty f δ T = (f δ T).bind fun x T2 => lift ((isD Ty x).map .bl) T2 := id rfl
/-! statements -/
@[simp] theorem sSeq_a : sSeq g1 g2 δ T = (g1 δ T).seq g2 := id rfl
@[simp] theorem sNext_a : sNext δ T = .nx δ T := id rfl
@[simp] theorem sBreak_a : sBreak δ T = .bk δ T := id rfl
@[simp] theorem sCont_a : sCont δ T = .ct δ T := id rfl
@[simp] theorem sDrop_a : sDrop f δ T = (f δ T).st δ fun _ T1 => .nx δ T1 := id rfl
@[simp] theorem sRet_a : sRet f δ T = (f δ T).st δ fun d T1 => .ret d T1 := id rfl
@[simp] theorem sRetN_a : sRetN δ T = .ret .non T := id rfl
@[simp] theorem sIf_a : sIf t g1 g2 δ T = (t δ T).st δ fun b T1 => if b = true then g1 δ T1 else g2 δ T1 := id rfl
@[simp] theorem sSet_a (i : Nat) : sSet i f δ T = (f δ T).st δ fun d T1 => .nx (δ.set i (.val d)) T1 := id rfl
@[simp] theorem sSetL_a (i : Nat) : sSetL i fa δ T = (fa δ T).st δ fun ds T1 => .nx (δ.set i (.own ds)) T1 := id rfl
@[simp] theorem sAsg_a (tg : TgD) : sAsg tg f δ T = (f δ T).st δ fun d T1 => (tg d δ).elim .stuck fun δ' => .nx δ' T1 := id rfl
@[simp] theorem sPar_a (i j : Nat) : sPar i j f g δ T = (f δ T).st δ fun d T1 => (g δ T1).st δ fun e T2 => .nx ((δ.set i (.val d)).set j (.val e)) T2 := id rfl
@[simp] theorem sPar3_a (i j l : Nat) : sPar3 i j l f g h δ T = (f δ T).st δ fun d T1 => (g δ T1).st δ fun e T2 => (h δ T2).st δ fun m T3 => .nx (((δ.set i (.val d)).set j (.val e)).set l (.val m)) T3 := id rfl
@[simp] theorem sAug_a (i : Nat) (o : D → D → Option D) : sAug i o f δ T = (slotD δ i).elim .stuck fun x => (f δ T).st δ fun y T1 => (o x y).elim .stuck fun z => .nx (δ.set i (.val z)) T1 := id rfl
@[simp] theorem sFor_a (fi : DEnv → Mo (List D)) (tg : TgD) : sFor fi tg b δ T = (fi δ T).st δ fun ds T1 => forD tg b ds δ T1 := id rfl
@[simp] theorem sRaise_a (x : Str) : sRaise x δ T = .exc ⟨x, none⟩ δ T := id rfl
@[simp] theorem sTry_a (l : List Hd) : sTry g1 l δ T = (g1 δ T).catch fun e => handle e l := id rfl
@[simp] theorem tgN_a (i : Nat) (d : D) : tgN i d δ = some (δ.set i (.val d)) := id rfl
@[simp] theorem tgNil_a : tgNil [] δ = some δ := id rfl
@[simp] theorem tgCons_a (t : TgD) (u : TgsD) (d : D) (r : List D) : tgCons t u (d :: r) δ = (t d δ).bind fun δ' => u r δ' := id rfl
@[simp] theorem tgT_a (n : Nat) (t : TgsD) (ds : List D) : tgT n t (.tup ds) δ = if ds.length = n then t ds δ else none := id rfl
@[simp] theorem iSeq_a : iSeq f δ T = (f δ T).bind fun x T1 => lift (tupOf x) T1 := id rfl
@[simp] theorem iLst_a : iLst f δ T = (f δ T).bind fun x T1 => lift (lstOf x) T1 := id rfl
@[simp] theorem iR1_a : iR1 fa δ T = (fa δ T).bind fun ds T1 => lift (rng1 ds) T1 := id rfl
@[simp] theorem iR2_a : iR2 fa δ T = (fa δ T).bind fun ds T1 => lift (rng2 ds) T1 := id rfl
theorem rng1_i (j : Int) : rng1 [.int j] = if rOk j = true then some (rng 0 1 j.toNat) else none := id rfl
theorem rng2_i (i j : Int) : rng2 [.int i, .int j] = if rOk i = true ∧ rOk j = true then some (rng i 1 (j - i).toNat) else none := id rfl
theorem rng1_ok {j : Int} (h : rOk j = true) : rng1 [.int j] = some (rng 0 1 j.toNat) := if_pos h
theorem rng2_ok {i j : Int} (h : rOk i = true) (h' : rOk j = true) : rng2 [.int i, .int j] = some (rng i 1 (j - i).toNat) := if_pos ⟨h, h'⟩
/-! operations -/
@[simp] theorem oAdd_i (i j : Int) : oAdd (.int i) (.int j) = some (.int (i + j)) := id rfl
@[simp] theorem oI0_i (p : Int → Int → D) (i j : Int) : oI0 p (.int i) (.int j) = some (p i j) := id rfl
theorem oI_i (C : Int → Int → Bool) (p : Int → Int → D) (i j : Int) : oI C p (.int i) (.int j) = if C i j = true then some (p i j) else none := id rfl
theorem oI_ok {C : Int → Int → Bool} {p : Int → Int → D} {i j : Int} (h : C i j = true) : oI C p (.int i) (.int j) = some (p i j) := if_pos h
theorem oMul_r {i j : Int} (h1 : -(2 ^ 64) < j) (h2 : j < 2 ^ 64) : oMul (.int i) (.int j) = some (.int (i * j)) := oI_ok (by unfold cMul; rw [Bool.or_eq_true, Nat.blt_eq, Nat.blt_eq]; omega)
theorem oMul_l {i j : Int} (h1 : -(2 ^ 64) < i) (h2 : i < 2 ^ 64) : oMul (.int i) (.int j) = some (.int (i * j)) := oI_ok (by unfold cMul; rw [Bool.or_eq_true, Nat.blt_eq, Nat.blt_eq]; omega)
theorem oDiv_i {i j : Int} (h1 : 0 < j) (h2 : j < 2 ^ 256) : oDiv (.int i) (.int j) = some (.int (i / j)) := oI_ok (by unfold cDiv; rw [Bool.and_eq_true, posI_eq, Nat.blt_eq]; omega)
theorem oMod_i {i j : Int} (h1 : 0 < j) : oMod (.int i) (.int j) = some (.int (i % j)) := oI_ok (posI_eq.mpr h1)
theorem oShr_i {i j : Int} (h1 : 0 ≤ j) : oShr (.int i) (.int j) = some (.int (i / 2 ^ j.toNat)) := oI_ok (nnI_eq.mpr h1)
@[simp] theorem oShr_1 (i : Int) : oShr (.int i) (.int 1) = some (.int (i / 2)) := id rfl
theorem oAnd_1 (i : Int) : oAnd (.int i) (.int 1) = some (.int (i % 2)) := by
  show some (D.int (Builtin.bitAnd i 1)) = _
  rw [bitAnd_m1]
@[simp] theorem oNeg_i (i : Int) : oNeg (.int i) = some (.int (-i)) := id rfl
@[simp] theorem oEq_i (i j : Int) : oEq (.int i) (.int j) = some (.bl (decide (i = j))) := by
  have : oEq (.int i) (.int j) = some (.bl (i == j)) := id rfl
  rw [this, Bool.beq_eq_decide_eq]
@[simp] theorem oNe_i (i j : Int) : oNe (.int i) (.int j) = some (.bl (!decide (i = j))) := by
  have : oNe (.int i) (.int j) = some (.bl (!(i == j))) := id rfl
  rw [this, Bool.beq_eq_decide_eq]
@[simp] theorem oIs_n (x : D) : oIs x .non = some (.bl (isN x)) := id rfl
@[simp] theorem oIsNot_n (x : D) : oIsNot x .non = some (.bl (!isN x)) := id rfl
@[simp] theorem isN_non : isN .non = true := id rfl
@[simp] theorem isN_int (i : Int) : isN (.int i) = false := id rfl
@[simp] theorem isN_bl (i : Bool) : isN (.bl i) = false := id rfl
@[simp] theorem isN_str (i : Str) : isN (.str i) = false := id rfl
@[simp] theorem isN_tup (i : List D) : isN (.tup i) = false := id rfl
@[simp] theorem isN_lst (i : List D) : isN (.lst i) = false := id rfl
@[simp] theorem oInt_i (i : Int) : oInt [.int i] = some (.int i) := id rfl
@[simp] theorem oAbs_i (i : Int) : oAbs [.int i] = some (.int (if i < 0 then -i else i)) := id rfl
@[simp] theorem oMax_i (i j : Int) : oMax [.int i, .int j] = some (.int (if j > i then j else i)) := id rfl
@[simp] theorem oMin_i (i j : Int) : oMin [.int i, .int j] = some (.int (if j < i then j else i)) := id rfl
@[simp] theorem oLen_x (x : D) : oLen [x] = (seqOf x).map fun ds => .int (ds.length : Nat) := id rfl
@[simp] theorem seqOf_t (ds : List D) : seqOf (.tup ds) = some ds := id rfl
@[simp] theorem seqOf_l (ds : List D) : seqOf (.lst ds) = some ds := id rfl
@[simp] theorem seqOf_s (ns : List Int) : seqOf (.scr ns) = some (ns.map .int) := id rfl
@[simp] theorem oIx_s (x : D) (i : Int) : oIx x (.int i) = (seqOf x).bind fun ds => atI ds i := id rfl
@[simp] theorem oBits_i (i : Int) : oBits (.int i) = some (.int (Builtin.Int.intBits i : Nat)) := id rfl
@[simp] theorem isD_int_int (i : Int) : isD "int" (.int i) = some true := (show kitB "int" "int" = some true by decide +kernel)
@[simp] theorem isD_bool_int (i : Int) : isD "bool" (.int i) = some false := (show kitB "int" "bool" = some false by decide +kernel)
@[simp] theorem isD_int_bl (i : Bool) : isD "int" (.bl i) = some true := (show kitB "bool" "int" = some true by decide +kernel)
@[simp] theorem isD_bool_bl (i : Bool) : isD "bool" (.bl i) = some true := (show kitB "bool" "bool" = some true by decide +kernel)
@[simp] theorem isD_int_non : isD "int" .non = some false := (show kitB "NoneType" "int" = some false by decide +kernel)
@[simp] theorem isD_bool_non : isD "bool" .non = some false := (show kitB "NoneType" "bool" = some false by decide +kernel)
@[simp] theorem isD_int_str (i : Str) : isD "int" (.str i) = some false := (show kitB "str" "int" = some false by decide +kernel)
@[simp] theorem isD_bool_str (i : Str) : isD "bool" (.str i) = some false := (show kitB "str" "bool" = some false by decide +kernel)
@[simp] theorem isD_int_tup (i : List D) : isD "int" (.tup i) = some false := (show kitB "tuple" "int" = some false by decide +kernel)
@[simp] theorem isD_bool_tup (i : List D) : isD "bool" (.tup i) = some false := (show kitB "tuple" "bool" = some false by decide +kernel)
@[simp] theorem isD_tuple_tup (i : List D) : isD "tuple" (.tup i) = some true := (show kitB "tuple" "tuple" = some true by decide +kernel)
@[simp] theorem isD_tuple_int (i : Int) : isD "tuple" (.int i) = some false := (show kitB "int" "tuple" = some false by decide +kernel)
@[simp] theorem isD_tuple_non : isD "tuple" .non = some false := (show kitB "NoneType" "tuple" = some false by decide +kernel)
@[simp] theorem isD_tuple_bl (i : Bool) : isD "tuple" (.bl i) = some false := (show kitB "bool" "tuple" = some false by decide +kernel)
@[simp] theorem isD_tuple_str (i : Str) : isD "tuple" (.str i) = some false := (show kitB "str" "tuple" = some false by decide +kernel)
@[simp] theorem isD_str_str (i : Str) : isD "str" (.str i) = some true := (show kitB "str" "str" = some true by decide +kernel)
@[simp] theorem isD_str_int (i : Int) : isD "str" (.int i) = some false := (show kitB "int" "str" = some false by decide +kernel)
theorem rOk_i {i : Int} (h1 : -1000000000000 < i) (h2 : i < 1000000000000) : rOk i = true := by
  unfold rOk
  rw [Nat.blt_eq]
  omega
@[simp] theorem line_pos (n : Nat) (h : n < 1000) : n < line := Nat.lt_trans h (by decide)
theorem runD_a (k : Nat) (ds : List D) : runD k b ds T = (b (ds.map Sl.val ++ List.replicate k Sl.un) T).out := id rfl
/-! loops -/
theorem forD_nil (tg : TgD) : forD tg b [] δ T = .nx δ T := id rfl
theorem forD_cons (tg : TgD) (d : D) (ds : List D) : forD tg b (d :: ds) δ T = (tg d δ).elim .stuck fun δ' => (b δ' T).turn (forD tg b ds) := id rfl
theorem turnW_a (c : DEnv → Mo Bool) (k : SD) : turnW c b k δ T = (c δ T).st δ fun t T1 => if t = true then (b δ T1).turn k else .nx δ T1 := id rfl
theorem sWhile_a (c : DEnv → Mo Bool) : sWhile c b δ T = iterW c b fuel δ T := id rfl
end
/-! ### equal data, decided -/
mutual
def beqD : D → D → Bool
  | .non, .non => true
  | .bl a, .bl b => a == b
  | .int a, .int b => decide (a = b)
  | .str a, .str b => decide (a = b)
  | .tup a, .tup b => beqDs a b
  | .lst a, .lst b => beqDs a b
  | _, _ => false
def beqDs : List D → List D → Bool
  | [], [] => true
  | x :: xs, y :: ys => beqD x y && beqDs xs ys
  | _, _ => false
end
mutual
theorem beqD_eq : ∀ {x y : D}, beqD x y = true → x = y
  | .non, y, h => by cases y <;> first | rfl | (unfold beqD at h; cases h)
  | .bl a, y, h => by
    cases y <;> first | (unfold beqD at h; cases h; done) | skip
    unfold beqD at h
    rw [beq_iff_eq] at h
    rw [h]
  | .int a, y, h => by
    cases y <;> first | (unfold beqD at h; cases h; done) | skip
    unfold beqD at h
    rw [of_decide_eq_true h]
  | .str a, y, h => by
    cases y <;> first | (unfold beqD at h; cases h; done) | skip
    unfold beqD at h
    rw [of_decide_eq_true h]
  | .tup a, y, h => by
    cases y <;> first | (unfold beqD at h; cases h; done) | skip
    unfold beqD at h
    rw [beqDs_eq h]
  | .lst a, y, h => by
    cases y <;> first | (unfold beqD at h; cases h; done) | skip
    unfold beqD at h
    rw [beqDs_eq h]
  | .scr _, y, h => by cases y <;> (unfold beqD at h; cases h)
  | .tape, y, h => by cases y <;> (unfold beqD at h; cases h)
theorem beqDs_eq : ∀ {x y : List D}, beqDs x y = true → x = y
  | [], [], _ => rfl
  | [], _ :: _, h => by unfold beqDs at h; cases h
  | _ :: _, [], h => by unfold beqDs at h; cases h
  | x :: xs, y :: ys, h => by
    unfold beqDs at h
    rw [Bool.and_eq_true] at h
    rw [beqD_eq h.1, beqDs_eq h.2]
end
/-- the outcome is d, no tape -/
def gives (o : Out D) (d : D) : Bool := match o with
  | .ok x none => beqD x d
  | _ => false
theorem gives_eq {o : Out D} {d : D} (h : gives o d = true) : o = .ok d none := by
  unfold gives at h
  split at h
  · rw [beqD_eq h]
  · cases h
end DD

/-! DD9: what many laws share: the script's cells, the mixed number of a cell. -/
namespace DD
open PySem PySem.Spec PyProof.Rows L2
theorem rng_eq (n : Nat) : rng 0 1 n = (List.range n).map fun i => D.int (i : Nat) := by
  unfold rng
  refine List.map_congr_left fun i _ => ?_
  rw [Int.mul_one, Int.zero_add]
def cellB : SD := sSeq (sIf (dTv (dBin (oLt) (dV 1) (dB oLen (aC (dV 0) (aN))))) (sRet (dBin oMod (dB oAbs (aC (dB oInt (aC (dBin oIx (dV 0) (dV 1)) (aN))) (aN))) (dC (.int 1000000007)))) (sNext)) (sRet (dC (.int 0)))
def richB : SD := sSeq (sSet 2 (dBin oMod (dB oInt (aC (dBin oAdd (dBin oAdd (dBin oMul (dV 0) (dC (.int 48271))) (dBin oMul (dV 1) (dC (.int 69621)))) (dC (.int 11))) (aN))) (dC (.int 2147483647)))) (sRet (dBin oAdd (dBin oMul (dV 2) (dC (.int 2147483629))) (dBin oMod (dB oInt (aC (dBin oAdd (dBin oMul (dV 2) (dC (.int 16807))) (dV 0)) (aN))) (dC (.int 2147483629)))))
theorem cell_at (ns : List Int) (k : Nat) (h : k < ns.length) : atI (ns.map D.int) ((k : Nat) : Int) = some (.int ns[k]) := by
  have e : ixN (ns.map D.int).length ((k : Nat) : Int) = some k := by
    unfold ixN
    simp
    omega
  unfold atI
  rw [e]
  show (ns.map D.int)[k]? = _
  rw [List.getElem?_map, List.getElem?_eq_getElem h]
  rfl
theorem cell_den (ns : List Int) (k : Nat) (T : Option Tape) : ∃ c : Nat, c < 1000000007 ∧ runD 0 cellB [.scr ns, .int k] T = .ok (.int c) T := by
  by_cases h : k < ns.length
  · have h' : (k : Int) < ns.length := by omega
    refine ⟨((if ns[k] < 0 then -ns[k] else ns[k]) % 1000000007).toNat, by omega, ?_⟩
    have e : ((((if ns[k] < 0 then -ns[k] else ns[k]) % 1000000007).toNat : Nat) : Int) = (if ns[k] < 0 then -ns[k] else ns[k]) % 1000000007 := by omega
    rw [e]
    simp [runD_a, cellB, h', cell_at ns k h, oMod_i]
  · have h' : ¬ (k : Int) < ns.length := by omega
    exact ⟨0, by decide, by simp [runD_a, cellB, h']⟩
theorem rich_den (c k : Nat) (hc : c < 1000000007) (hk : k < 1000000) (T : Option Tape) : ∃ r : Nat, r < 9223372036854775808 ∧ runD 1 richB [.int c, .int k] T = .ok (.int r) T := by
  refine ⟨(((c : Int) * 48271 + k * 69621 + 11) % 2147483647 * 2147483629 + (((c : Int) * 48271 + k * 69621 + 11) % 2147483647 * 16807 + c) % 2147483629).toNat, by omega, ?_⟩
  have h1 : 0 ≤ ((c : Int) * 48271 + k * 69621 + 11) % 2147483647 * 2147483629 + (((c : Int) * 48271 + k * 69621 + 11) % 2147483647 * 16807 + c) % 2147483629 := by omega
  rw [Int.toNat_of_nonneg h1]
  simp [runD_a, richB, oMod_i, oMul_r]
/-- a test by == on naturals -/
theorem natBeq {a b : Nat} : Nat.beq a b = true ↔ a = b := Nat.beq_eq ▸ Iff.rfl
theorem find_range (P : Nat → Bool) (m : Nat) (h : ∀ y, m ≤ y → P y = false) : ∀ n, m ≤ n → (List.range n).find? P = (List.range m).find? P := by
  intro n hn
  obtain ⟨d, rfl⟩ := Nat.exists_eq_add_of_le hn
  clear hn
  induction d with
  | zero => rfl
  | succ d ih =>
    rw [← Nat.add_assoc, List.range_succ, List.find?_append, ih]
    have e : [m + d].find? P = none := by
      rw [List.find?_cons, h (m + d) (Nat.le_add_right _ _)]
      rfl
    rw [e, Option.or_none]
theorem findSome_range {α : Type} (P : Nat → Option α) (m : Nat) (h : ∀ y, m ≤ y → P y = none) : ∀ n, m ≤ n → (List.range n).findSome? P = (List.range m).findSome? P := by
  intro n hn
  obtain ⟨d, rfl⟩ := Nat.exists_eq_add_of_le hn
  clear hn
  induction d with
  | zero => rfl
  | succ d ih =>
    rw [← Nat.add_assoc, List.range_succ, List.findSome?_append, ih]
    have e : [m + d].findSome? P = none := by
      rw [List.findSome?_cons, h (m + d) (Nat.le_add_right _ _)]
      rfl
    rw [e, Option.or_none]
end DD

/-! DD10: a body's own lists: read for a while as data (bor), changed. -/
namespace DD
open PySem PySem.Spec PyProof.Rows L2
/-! ### data in which no list stands -/
mutual
def noL : D → Bool
  | .non => true
  | .bl _ => true
  | .int _ => true
  | .str _ => true
  | .tup ds => noLs ds
  | .lst _ => false
  | .scr _ => false
  | .tape => true
def noLs : List D → Bool
  | [] => true
  | d :: ds => noL d && noLs ds
end
def delH (F : Hp) (a : Addr) : Hp := fun b => if b = a then none else F b
theorem delH_ne {F : Hp} {a b : Addr} (h : b ≠ a) : delH F a b = F b := if_neg h
theorem delH_self {F : Hp} {a : Addr} : delH F a a = none := if_pos rfl
theorem ne_ofH {F : Hp} {a b : Addr} {o u : HO} (h : F a = some o) (g : F b = some u) (n : o ≠ u) : b ≠ a := fun z => by
  subst z
  rw [h] at g
  cases g
  exact n rfl
section
variable {K : Kf} {F : Hp} {τ : Option Tp} {a : Addr} {ws : List V}
mutual
theorem rep_del (h : F a = some (.lst ws)) : ∀ {d : D} {v : V}, noL d = true → Rep K F τ d v → Rep K (delH F a) τ d v
  | .non, _, _, r => by unfold Rep at r ⊢; exact r
  | .bl _, _, _, r => by unfold Rep at r ⊢; exact r
  | .int _, _, _, r => by unfold Rep at r ⊢; exact r
  | .str _, _, _, r => by unfold Rep at r ⊢; exact r
  | .tup ds, _, n, r => by
    unfold Rep at r ⊢
    unfold noL at n
    obtain ⟨b, vs, e, r1, r2⟩ := r
    refine ⟨b, vs, e, ?_, reps_del h n r2⟩
    rcases r1 with (r1 | ⟨o, r1⟩) | r1
    · exact .inl (.inl (by rw [delH_ne (ne_ofH h r1 (by intro z; cases z))]; exact r1))
    · exact .inl (.inr ⟨o, by rw [delH_ne (ne_ofH h r1 (by intro z; cases z))]; exact r1⟩)
    · exact .inr r1
  | .lst ds, _, n, _ => by unfold noL at n; cases n
  | .scr ds, _, n, _ => by unfold noL at n; cases n
  | .tape, _, _, r => by unfold Rep at r ⊢; exact r
theorem reps_del (h : F a = some (.lst ws)) : ∀ {ds : List D} {vs : List V}, noLs ds = true → Reps K F τ ds vs → Reps K (delH F a) τ ds vs
  | [], _, _, r => by unfold Reps at r ⊢; exact r
  | d :: ds, _, n, r => by
    unfold Reps at r ⊢
    unfold noLs at n
    rw [Bool.and_eq_true] at n
    obtain ⟨v, s, e, r1, r2⟩ := r
    exact ⟨v, s, e, rep_del h n.1 r1, reps_del h n.2 r2⟩
end
end
theorem Go.del {F H F2 H2 : Hp} {τ τ2 : Option Tp} {a : Addr} {vs : List V} (f : F a = none) (g : Go (upd F a (.lst vs)) H τ F2 H2 τ2) : Go F H τ (delH F2 a) H2 τ2 where
  ff := fun b o e => by
    have n : b ≠ a := fun z => by subst z; rw [f] at e; cases e
    rw [delH_ne n]
    exact g.ff _ _ (by rw [upd_ne n]; exact e)
  fh := fun b o e => by
    by_cases n : b = a
    · subst n; rw [delH_self] at e; cases e
    · rw [delH_ne n] at e; exact g.fh _ _ e
  hh := g.hh
  dom := g.dom
  nw := fun b o e => by
    by_cases n : b = a
    · subst n; rw [delH_self] at e; cases e
    · rw [delH_ne n] at e
      rcases g.nw _ _ e with z | z
      · rw [upd_ne n] at z; exact .inl z
      · exact .inr z
  tt := by
    rcases g.tt with q | ⟨q0, t, q, n1, n2, n3, n4, n5, n6⟩
    · exact .inl q
    · refine .inr ⟨q0, t, q, n1, n2, ?_, ?_, n5, n6⟩
      · by_cases n : t.t = a
        · rw [n]; exact delH_self
        · rw [delH_ne n]; exact n3
      · by_cases n : t.c = a
        · rw [n]; exact delH_self
        · rw [delH_ne n]; exact n4
theorem ExR.del {mg : Str → Option Value} {e : Exn} {c : Value} {dd : Option Addr} {F : Hp} {a : Addr} {ws : List V} (h : F a = some (.lst ws)) (x : ExR mg e c dd F) : ExR mg e c dd (delH F a) := by
  obtain ⟨C, h1, h2, h3⟩ := x
  refine ⟨C, h1, h2, ?_⟩
  cases e : e.arg with
  | none => rw [e] at h3; exact h3
  | some p =>
    obtain ⟨x, d⟩ := p
    rw [e] at h3
    obtain ⟨b, v, e1, e2, e3⟩ := h3
    exact ⟨b, v, e1, e2, by rw [delH_ne (ne_ofH h e3 (by intro z; cases z))]; exact e3⟩
def ownL (δ : DEnv) (i : Nat) : Option (List D) := match δ[i]? with
  | some (.own ds) => some ds
  | _ => none
theorem ownL_eq {δ : DEnv} {i : Nat} {ds : List D} (h : ownL δ i = some ds) : δ[i]? = some (.own ds) := by
  unfold ownL at h
  split at h
  · rename_i e; cases h; exact e
  · cases h
section
variable {K : Kf} {F0 H0 F H : Hp} {τ0 τ : Option Tp} {T : Option Tape} {δ : DEnv} {σ : L2.St}
theorem SR.freezeA (s : SR K F0 H0 τ0 F H τ T δ σ) {i : Nat} {ds : List D} (hi : δ[i]? = some (.own ds)) :
    ∃ a vs, σ[i]? = some (some (.ref a)) ∧ H a = some (.lst vs) ∧ Reps K F τ ds vs ∧ F a = none ∧ Off τ a ∧ SR K F0 H0 τ0 (upd F a (.lst vs)) H τ T (δ.set i (.val (.lst ds))) σ := by
  obtain ⟨a, vs, h1, h2, h3, h4, h5, h6⟩ := s.own i ds hi
  have li : i < δ.length := (List.getElem?_eq_some_iff.mp hi).1
  have ff : Same F (upd F a (.lst vs)) := fun b u e => by rw [upd_ne (ne_of_none e h4)]; exact e
  refine ⟨a, vs, h1, h2, h3, h4, h6, ⟨⟨fun b u e => ff _ _ (s.go.ff _ _ e), fun b u e => ?_, s.go.hh, s.go.dom, fun b u e => ?_, ?_⟩, s.tp, fun t e => ?_, by rw [List.length_set]; exact s.len, fun j e h => ?_, fun j fs h => ?_, fun j k fs gs b n k1 k2 k3 => ?_⟩⟩
  · by_cases z : b = a
    · subst z; rw [upd_same] at e; rw [← e]; exact h2
    · rw [upd_ne z] at e; exact s.go.fh _ _ e
  · by_cases z : b = a
    · subst z; exact .inr h5
    · rw [upd_ne z] at e; exact s.go.nw _ _ e
  · rcases s.go.tt with q | ⟨q0, t, q, n1, n2, n3, n4, n5, n6⟩
    · exact .inl q
    · refine .inr ⟨q0, t, q, n1, n2, ?_, ?_, n5, n6⟩
      · rw [upd_ne (Ne.symm (h6 t q).1)]; exact n3
      · rw [upd_ne (Ne.symm (h6 t q).2)]; exact n4
  · obtain ⟨f1, f2⟩ := s.tf t e
    exact ⟨by rw [upd_ne (Ne.symm (h6 t e).1)]; exact f1, by rw [upd_ne (Ne.symm (h6 t e).2)]; exact f2⟩
  · by_cases z : i = j
    · subst z
      rw [List.getElem?_set_self li] at h
      cases h
      refine ⟨.ref a, h1, ?_⟩
      unfold Rep
      exact ⟨a, vs, rfl, upd_same, h3.mono ff fun _ e => e⟩
    · rw [List.getElem?_set_ne z] at h
      obtain ⟨v, k1, k2⟩ := s.val j e h
      exact ⟨v, k1, k2.mono ff fun _ e => e⟩
  · by_cases z : i = j
    · subst z; rw [List.getElem?_set_self li] at h; cases h
    · rw [List.getElem?_set_ne z] at h
      obtain ⟨b, ws, k1, k2, k3, k4, k5, k6⟩ := s.own j fs h
      have nb : b ≠ a := fun q => by
        subst q
        exact s.dis i j ds fs b z hi h h1 k1
      exact ⟨b, ws, k1, k2, k3.mono ff fun _ e => e, by rw [upd_ne nb]; exact k4, k5, k6⟩
  · by_cases z : i = j
    · subst z; rw [List.getElem?_set_self li] at k1; cases k1
    · rw [List.getElem?_set_ne z] at k1
      by_cases z2 : i = k
      · subst z2; rw [List.getElem?_set_self li] at k2; cases k2
      · rw [List.getElem?_set_ne z2] at k2
        exact s.dis j k fs gs b n k1 k2 k3
end
/-! ### an own list read for a while -/
section
variable {α β : Type} {K : Kf} {mg : Str → Option Value} {W : WX} {X : Cx} {a b c : Expr} {pos : Pos} {f g h : DEnv → Mo D} {fa : DEnv → Mo (List D)} {t u : DEnv → Mo Bool}
def lstO : D → Option (List D)
  | .lst ds => some ds
  | _ => none
theorem lstO_eq : ∀ {d : D} {ds : List D}, lstO d = some ds → d = .lst ds
  | .lst _, _, h => by cases h; rfl
  | .non, _, h => by cases h
  | .bl _, _, h => by cases h
  | .int _, _, h => by cases h
  | .str _, _, h => by cases h
  | .tup _, _, h => by cases h
  | .scr _, _, h => by cases h
  | .tape, _, h => by cases h
def chkO (p : Bool) (o : Out α) : Out α := if p = true then o else .stuck
def borG (chk : α → Bool) (i : Nat) (f : DEnv → Mo α) : DEnv → Mo α := fun δ T => (ownL δ i).elim (f δ T) fun ds => (f (δ.set i (.val (.lst ds))) T).bind fun d T1 => chkO (chk d) (.ok d T1)
theorem cbor {R : RelT α β} {chk : α → Bool} (hr : ∀ F τ x v a ws, F a = some (.lst ws) → chk x = true → R F τ x v → R (delH F a) τ x v) {i : Nat} {f : DEnv → Mo α} {σ : L2.St} {H : Hp} {Q : β → Hp → Prop} (q : cG K mg W R (borG chk i f) σ H Q) : cG K mg W R f σ H Q := by
  obtain ⟨F0, H0, τ0, F, τ, T, δ, s, p⟩ := q
  unfold borG at p
  cases eo : ownL δ i with
  | none => rw [eo] at p; exact ⟨F0, H0, τ0, F, τ, T, δ, s, p⟩
  | some ds =>
    rw [eo] at p
    obtain ⟨l, vs, h1, h2, h3, h4, h5, s'⟩ := s.freezeA (ownL_eq eo)
    refine ⟨F0, H0, τ0, _, τ, T, _, s', ?_⟩
    have p : Pst mg W R σ F H τ Q ((f (δ.set i (.val (.lst ds))) T).bind fun d T1 => chkO (chk d) (.ok d T1)) := p
    cases e : f (δ.set i (.val (.lst ds))) T with
    | ok x T1 =>
      rw [e] at p
      intro v F2 H2 τ2 go tp r
      have p : Pst mg W R σ F H τ Q (chkO (chk x) (.ok x T1)) := p
      unfold chkO at p
      split at p
      · rename_i hc
        exact p v _ H2 τ2 (go.del h4) tp (hr _ _ _ _ _ _ (go.ff _ _ upd_same) hc r)
      · exact p.elim
    | exc x T1 =>
      rw [e] at p
      exact fun c dd F2 H2 τ2 go tp ex => p c dd _ H2 τ2 (go.del h4) tp (ex.del (go.ff _ _ upd_same))
    | stuck => rw [e] at p; exact p
abbrev bor : Nat → (DEnv → Mo D) → DEnv → Mo D := borG noL
abbrev borT : Nat → (DEnv → Mo Bool) → DEnv → Mo Bool := borG fun _ => true
abbrev borA : Nat → (DEnv → Mo (List D)) → DEnv → Mo (List D) := borG noLs
theorem de_bor (i : Nat) (h : DE X W a f) : DE X W a (bor i f) := pe_imp h fun σ H Q q => cbor (fun F τ x v a ws => fun h1 h2 h3 => rep_del h1 h2 h3) q
theorem dt_bor (i : Nat) (h : DT X W a t) : DT X W a (borT i t) := pt_imp h fun σ H Q q => cbor (fun F τ x v a ws => fun _ _ h3 => h3) q
theorem dw_bor (i : Nat) (h : DW X W a t) : DW X W a (borT i t) := pw_imp h fun σ H Q q => cbor (fun F τ x v a ws => fun _ _ h3 => h3) q
theorem cborL {i : Nat} {f : DEnv → Mo (List D)} {σ : L2.St} {H : Hp} {Q : VK} (q : cL K mg W (borA i f) σ H Q) : cL K mg W f σ H Q := by
  obtain ⟨F0, H0, τ0, F, τ, T, δ, s, p⟩ := q
  unfold borA borG at p
  cases eo : ownL δ i with
  | none => rw [eo] at p; exact ⟨F0, H0, τ0, F, τ, T, δ, s, p⟩
  | some ds =>
    rw [eo] at p
    obtain ⟨l, vs, h1, h2, h3, h4, h5, s'⟩ := s.freezeA (ownL_eq eo)
    refine ⟨F0, H0, τ0, _, τ, T, _, s', ?_⟩
    have p : PstL K mg W σ F H τ Q ((f (δ.set i (.val (.lst ds))) T).bind fun d T1 => chkO (noLs d) (.ok d T1)) := p
    cases e : f (δ.set i (.val (.lst ds))) T with
    | ok x T1 =>
      rw [e] at p
      intro q us F2 H2 τ2 go tp k1 k2 k3 k4 k5
      have p : PstL K mg W σ F H τ Q (chkO (noLs x) (.ok x T1)) := p
      unfold chkO at p
      split at p
      · rename_i hc
        have hl := go.ff _ _ upd_same
        refine p q us _ H2 τ2 (go.del h4) tp k1 (reps_del hl hc k2) ?_ k4 k5
        by_cases z : q = l
        · rw [z]; exact delH_self
        · rw [delH_ne z]; exact k3
      · exact p.elim
    | exc x T1 =>
      rw [e] at p
      exact fun c dd F2 H2 τ2 go tp ex => p c dd _ H2 τ2 (go.del h4) tp (ex.del (go.ff _ _ upd_same))
    | stuck => rw [e] at p; exact p
theorem dl_bor (i : Nat) (h : DL X W a fa) : DL X W a (borA i fa) := pe_imp h fun σ H Q q => cborL q
/-! ### changes -/
def sApp (i : Nat) (f : DEnv → Mo D) : SD := fun δ T => (ownL δ i).elim .stuck fun ds => (f δ T).st δ fun d T1 => if ds.length < line then .nx (δ.set i (.own (ds ++ [d]))) T1 else .stuck
theorem tyV_own {H : Hp} {l : Addr} {xs : List V} (h : H l = some (.lst xs)) : tyV K "list" (.ref l) H := Or.inl ⟨rfl, xs, .inl (.inl h)⟩
theorem ds_append (i : Nat) {x : Str} {p : Pos} {apos cpos : Pos} (he : DE X W a f) (hN : X.N[i]? = some x := by rfl) (hv : Vis X.env.scope x := by first | exact Or.inl rfl | exact Or.inr (Or.inl rfl) | exact Or.inr (Or.inr rfl)) (hd : (x == ("__debug__" : Str)) = false := by decide)
    (hcd : (x == ("__classdict__" : Str)) = false := by decide)
    (h1 : attributeBase (.Name x p) "append" X.env (eval (.Name x p) X.env) = eval (.Name x p) X.env := by rfl)
    (h2 : (((backTo cpos (starEach [a] X.env)).all (!·.1) && (backToKw cpos (keywordEach [] X.env)).all (·.1.isSome)) && decide (([a].length + ([] : List Keyword).length + if ([] : List Keyword).isEmpty = true then 0 else 1) < 30)) = true := by rfl)
    (h3 : (apos.endLine == cpos.line) = true := by rfl) (h4 : starEach [a] X.env = (false, eval a X.env) :: starEach [] X.env := by rfl) (h5 : ((backTo cpos (starEach [] X.env)).any (·.1)) = false := by rfl)
    (h6 : swapsWith (.Call (.Attribute (.Name x p) "append" apos) [a] [] cpos) none pos.line X.env = pure false := by rfl) :
    DS X W (.Expr (.Call (.Attribute (.Name x p) "append" apos) [a] [] cpos) pos) (sApp i f) :=
  ps_imp (ps_expr (pe_bm PySem.F.plainAttrs_list PySem.F.slot_list_append PySem.F.type_list_append mt_append (pe_var hN hv hd hcd) (pa_cons he pa_nil h4) h1 h2 h3 h4 h5) h6) fun D σ H q => by
    obtain ⟨F0, H0, τ0, F, τ, T, δ, s, p⟩ := q
    unfold sApp at p
    cases eo : ownL δ i with
    | none => rw [eo] at p; exact p.elim
    | some ds =>
      rw [eo] at p
      obtain ⟨l, vs, k1, k2, k3, k4, k5, k6⟩ := s.own i ds (ownL_eq eo)
      refine ⟨.ref l, k1, tyV_own k2, ?_⟩
      refine cG_st s p fun y v F1 H1 τ1 T1 s1 go r1 p1 => ?_
      obtain ⟨l', vs', q1, q2, q3, q4, q5, q6⟩ := s1.own i ds (ownL_eq eo)
      rw [k1] at q1
      cases q1
      split at p1
      · rename_i hl
        refine ⟨l, vs', v, rfl, rfl, q2, by rw [q3.len]; exact line_lt hl, ?_⟩
        exact p1 F1 _ τ1 σ (s1.write (ownL_eq eo) k1 (q3.append (.one r1)))
      · exact p1.elim
/-- x.extend(e) -/
def sExt (i : Nat) (f : DEnv → Mo D) : SD := fun δ T => (ownL δ i).elim .stuck fun ds => (f δ T).st δ fun d T1 => (lstO d).elim .stuck fun es => if ds.length + es.length < line then .nx (δ.set i (.own (ds ++ es))) T1 else .stuck
theorem ds_extend (i : Nat) {x : Str} {p : Pos} {apos cpos : Pos} (he : DE X W a f) (hN : X.N[i]? = some x := by rfl) (hv : Vis X.env.scope x := by first | exact Or.inl rfl | exact Or.inr (Or.inl rfl) | exact Or.inr (Or.inr rfl)) (hd : (x == ("__debug__" : Str)) = false := by decide)
    (hcd : (x == ("__classdict__" : Str)) = false := by decide)
    (h1 : attributeBase (.Name x p) "extend" X.env (eval (.Name x p) X.env) = eval (.Name x p) X.env := by rfl)
    (h2 : (((backTo cpos (starEach [a] X.env)).all (!·.1) && (backToKw cpos (keywordEach [] X.env)).all (·.1.isSome)) && decide (([a].length + ([] : List Keyword).length + if ([] : List Keyword).isEmpty = true then 0 else 1) < 30)) = true := by rfl)
    (h3 : (apos.endLine == cpos.line) = true := by rfl) (h4 : starEach [a] X.env = (false, eval a X.env) :: starEach [] X.env := by rfl) (h5 : ((backTo cpos (starEach [] X.env)).any (·.1)) = false := by rfl)
    (h6 : swapsWith (.Call (.Attribute (.Name x p) "extend" apos) [a] [] cpos) none pos.line X.env = pure false := by rfl) :
    DS X W (.Expr (.Call (.Attribute (.Name x p) "extend" apos) [a] [] cpos) pos) (sExt i f) :=
  ps_imp (ps_expr (pe_bm PySem.F.plainAttrs_list PySem.F.slot_list_extend PySem.F.type_list_extend mt_extend (pe_var hN hv hd hcd) (pa_cons he pa_nil h4) h1 h2 h3 h4 h5) h6) fun D σ H q => by
    obtain ⟨F0, H0, τ0, F, τ, T, δ, s, p⟩ := q
    unfold sExt at p
    cases eo : ownL δ i with
    | none => rw [eo] at p; exact p.elim
    | some ds =>
      rw [eo] at p
      obtain ⟨l, vs, k1, k2, k3, k4, k5, k6⟩ := s.own i ds (ownL_eq eo)
      refine ⟨.ref l, k1, tyV_own k2, ?_⟩
      refine cG_st s p fun y v F1 H1 τ1 T1 s1 go r1 p1 => ?_
      obtain ⟨l', vs', q1, q2, q3, q4, q5, q6⟩ := s1.own i ds (ownL_eq eo)
      rw [k1] at q1
      cases q1
      cases el : lstO y with
      | none => rw [el] at p1; exact p1.elim
      | some es =>
        rw [el] at p1
        rw [lstO_eq el] at r1
        unfold Rep at r1
        obtain ⟨b, zs, rfl, z1, z2⟩ := r1
        have p1 : PstS X.K X.mg W F0 H0 τ0 D (if ds.length + es.length < line then OS.nx (δ.set i (.own (ds ++ es))) T1 else .stuck) := p1
        split at p1
        · rename_i hl
          refine ⟨l, b, vs', zs, rfl, rfl, q2, s1.go.fh _ _ z1, by rw [q3.len, z2.len]; exact Nat.le_of_lt (line_lt hl), ?_⟩
          exact p1 F1 _ τ1 σ (s1.write (ownL_eq eo) k1 (q3.append z2))
        · exact p1.elim
/-- x[k] = e -/
def sSetAt (i : Nat) (fe fk : DEnv → Mo D) : SD := fun δ T => (ownL δ i).elim .stuck fun ds => (fe δ T).st δ fun d T1 => (fk δ T1).st δ fun k T2 => (asI k).elim .stuck fun n => (ixN ds.length n).elim .stuck fun j => .nx (δ.set i (.own (ds.set j d))) T2
theorem ds_setAt (i : Nat) {x : Str} {p tpos : Pos} (he : DE X W a f) (hk : DE X W b g) (hN : X.N[i]? = some x := by rfl) (hv : Vis X.env.scope x := by first | exact Or.inl rfl | exact Or.inr (Or.inl rfl) | exact Or.inr (Or.inr rfl)) (hd : (x == ("__debug__" : Str)) = false := by decide)
    (hcd : (x == ("__classdict__" : Str)) = false := by decide)
    (h1 : ∀ (v : Value), assign (.Subscript (.Name x p) b tpos) X.env v = (do
        let ov ← holding [v] (eval (.Name x p) X.env)
        let iv ← holding [v, ov] (eval b X.env)
        standAt tpos
        holding [v, ov, iv] (setItem ov iv v)
        release [v, ov, iv] []) := by intro _; rfl)
    (h2 : swapsWithSole [.Subscript (.Name x p) b tpos] a pos.line X.env = pure false := by rfl) (h3 : swappedStores [.Subscript (.Name x p) b tpos] a X.env = pure none := by rfl) (h4 : (assignEach [.Subscript (.Name x p) b tpos] X.env).map (·.2) = [assign (.Subscript (.Name x p) b tpos) X.env] := by rfl) :
    DS X W (.Assign [.Subscript (.Name x p) b tpos] a pos) (sSetAt i f g) :=
  ps_imp (ps_asg he (pg_sub (pe_var hN hv hd hcd) hk set_list h1) h2 h3 h4) fun D σ H q => by
    obtain ⟨F0, H0, τ0, F, τ, T, δ, s, p⟩ := q
    unfold sSetAt at p
    cases eo : ownL δ i with
    | none => rw [eo] at p; exact p.elim
    | some ds =>
      rw [eo] at p
      refine cG_st s p fun y v F1 H1 τ1 T1 s1 go r1 p1 => ?_
      obtain ⟨l, vs, k1, k2, k3, k4, k5, k6⟩ := s1.own i ds (ownL_eq eo)
      refine ⟨.ref l, k1, ?_⟩
      refine cG_st s1 p1 fun k u F2 H2 τ2 T2 s2 go2 r2 p2 => ?_
      obtain ⟨l', vs', q1, q2, q3, q4, q5, q6⟩ := s2.own i ds (ownL_eq eo)
      rw [k1] at q1
      cases q1
      cases ek : asI k with
      | none => rw [ek] at p2; exact p2.elim
      | some n =>
        rw [ek] at p2
        rw [asI_eq ek] at r2
        unfold Rep at r2
        have p2 : PstS X.K X.mg W F0 H0 τ0 D ((ixN ds.length n).elim .stuck fun j => .nx (δ.set i (.own (ds.set j y))) T2) := p2
        cases ej : ixN ds.length n with
        | none => rw [ej] at p2; exact p2.elim
        | some j =>
          rw [ej] at p2
          refine ⟨l, vs', n, j, rfl, r2, q2, by rw [q3.len]; exact ej, ?_⟩
          exact p2 F2 _ τ2 σ (s2.write (ownL_eq eo) k1 (q3.set j (r1.mono go2.ff go2.tm)))
/-! ### fresh lists -/
/-- list(x) -/
def lList (f : DEnv → Mo D) : DEnv → Mo (List D) := fun δ T => (f δ T).bind fun x T1 => lift (seqOf x) T1
theorem dl_list {p : Pos} (hm : X.mg "list" = none) (ha : DE X W a f) (hg : Gl X "list" := by rfl) (he : starEach [a] X.env = (false, eval a X.env) :: starEach [] X.env := by rfl) (hpl : (backTo pos (starEach [] X.env)).any (·.1) = false := by rfl) :
    DL X W (.Call (.Name "list" p) [a] [] pos) (lList f) := pe_imp (pe_callTy call_list_of hg hm (by decide +kernel) (pa_cons ha pa_nil he) (by decide) (by decide) he hpl) fun σ H Q q => by
  obtain ⟨F0, H0, τ0, F, τ, T, δ, s, p⟩ := q
  refine cG_bindL s p fun x v F1 H1 τ1 T1 s1 g1 r1 p1 => ?_
  cases es : seqOf x with
  | none => rw [es] at p1; exact p1.elim
  | some ds =>
    rw [es] at p1
    obtain ⟨l, vs, e1, h1, h2⟩ := rep_seq s1.go.fh r1 es
    refine ⟨l, vs, by rw [e1], h1, fun q hq => ?_⟩
    exact p1 q vs F1 _ τ1 (Go.newH s1.go.fh hq) (s1.tp.upd (s1.tp.off hq)) upd_same h2 (s1.go.fh.free hq) hq (s1.tp.off hq)
/-- a + b, lists -/
def lCat (f g : DEnv → Mo D) : DEnv → Mo (List D) := fun δ T => (f δ T).bind fun x T1 => (g δ T1).bind fun y T2 => (lift (lstO x) T2).bind fun xs T3 => (lift (lstO y) T3).bind fun ys T4 => chkO (Nat.blt (xs.length + ys.length) line) (.ok (xs ++ ys) T4)
theorem dl_cat (ha : DE X W a f) (hb : DE X W b g) : DL X W (.BinOp a .Add b pos) (lCat f g) := pe_imp (pe_op op_cat ha hb) fun σ H Q q => by
  obtain ⟨F0, H0, τ0, F, τ, T, δ, s, p⟩ := q
  refine cG_bindL s p fun x v F1 H1 τ1 T1 s1 g1 r1 p1 => ?_
  refine cG_bindL s1 p1 fun y u F2 H2 τ2 T2 s2 g2 r2 p2 => ?_
  cases ex : lstO x with
  | none => rw [ex] at p2; exact p2.elim
  | some xs =>
    cases ey : lstO y with
    | none => rw [ex, ey] at p2; exact p2.elim
    | some ys =>
      rw [ex, ey] at p2
      have p2 : PstL X.K X.mg W σ F2 H2 τ2 Q (chkO (Nat.blt (xs.length + ys.length) line) (.ok (xs ++ ys) T2)) := p2
      unfold chkO at p2
      split at p2
      · rename_i hl
        rw [lstO_eq ex] at r1
        rw [lstO_eq ey] at r2
        have r1 := r1.mono g2.ff g2.tm
        unfold Rep at r1 r2
        obtain ⟨l, vs, rfl, h1, h2⟩ := r1
        obtain ⟨m, us, rfl, h3, h4⟩ := r2
        refine ⟨l, m, vs, us, rfl, rfl, s2.go.fh _ _ h1, s2.go.fh _ _ h3, ?_, fun q hq => ?_⟩
        · rw [h2.len, h4.len]; exact Nat.le_of_lt (line_lt (Nat.blt_eq.mp hl))
        · exact p2 q _ F2 _ τ2 (Go.newH s2.go.fh hq) (s2.tp.upd (s2.tp.off hq)) upd_same (h2.append h4) (s2.go.fh.free hq) hq (s2.tp.off hq)
      · exact p2.elim
/-! ### slices -/
def dPart (f : DEnv → Mo D) : DEnv → Mo (Option Int) := fun δ T => (f δ T).bind fun x T1 => (lift (asI x) T1).bind fun i T2 => .ok (some i) T2
def dNoPart : DEnv → Mo (Option Int) := fun _ T => .ok none T
abbrev RO : RelT (Option Int) (Option Int) := fun _ _ a b => b = a
abbrev DO (X : Cx) (W : WX) (e : Option Expr) (f : DEnv → Mo (Option Int)) : Prop := PO X e (cG X.K X.mg W RO f)
theorem po_imp {e : Option Expr} {t t' : TO} (h : PO X e t) (k : ∀ σ H Q, t' σ H Q → t σ H Q) : PO X e t' := ⟨fun pins s σ H Q I q => h.run pins s σ H Q I (k σ H Q q)⟩
theorem do_none : DO X W none dNoPart := po_imp po_none fun σ H Q q => by
  obtain ⟨F0, H0, τ0, F, τ, T, δ, s, p⟩ := q
  exact p none F H τ (.refl s.go.fh) s.tp rfl
theorem do_some (he : DE X W a f) : DO X W (some a) (dPart f) := po_imp (po_some he) fun σ H Q q => by
  obtain ⟨F0, H0, τ0, F, τ, T, δ, s, p⟩ := q
  refine cG_bind s p fun x v F1 H1 τ1 T1 s1 g1 r1 p1 => ?_
  cases ei : asI x with
  | none => rw [ei] at p1; exact p1.elim
  | some i =>
    rw [ei] at p1
    rw [asI_eq ei] at r1
    unfold Rep at r1
    exact ⟨i, r1, p1 (some i) F1 H1 τ1 (.refl s1.go.fh) s1.tp rfl⟩
def cutD (xs : List D) (lo hi : Option Int) : List D := List.take (HT.sIx xs.length xs.length hi - HT.sIx xs.length 0 lo) (List.drop (HT.sIx xs.length 0 lo) xs)
def cutO : D → Option Int → Option Int → Option D
  | .tup ds, lo, hi => some (.tup (cutD ds lo hi))
  | .lst ds, lo, hi => some (.lst (cutD ds lo hi))
  | _, _, _ => none
theorem cut_reps {F : Hp} {τ : Option Tp} {ds : List D} {vs : List V} (r : Reps K F τ ds vs) (lo hi : Option Int) : Reps K F τ (cutD ds lo hi) (cutV vs lo hi) := by
  unfold cutD L2.cutV
  rw [r.len]
  exact (r.drop _).take _
theorem cut_all {xs : List D} {lo hi : Option Int} (h : HT.sIx xs.length 0 lo = 0 ∧ HT.sIx xs.length xs.length hi = xs.length) : cutD xs lo hi = xs := by
  unfold cutD
  rw [h.1, h.2]
  simp
def dSl (f : DEnv → Mo D) (lo hi : DEnv → Mo (Option Int)) : DEnv → Mo D := fun δ T => (f δ T).bind fun x T1 => (lo δ T1).bind fun l T2 => (hi δ T2).bind fun u T3 => lift (cutO x l u) T3
theorem de_slice {lo hi : Option Expr} {fl fh : DEnv → Mo (Option Int)} {p2 : Pos} (ha : DE X W a f) (hl : DO X W lo fl) (hh : DO X W hi fh) : DE X W (.Subscript a (.Slice lo hi none p2) pos) (dSl f fl fh) :=
  pe_imp (pe_slice (sl_tupA.or sl_list) ha hl hh) fun σ H Q q => by
    obtain ⟨F0, H0, τ0, F, τ, T, δ, s, p⟩ := q
    refine cG_bind s p fun x v F1 H1 τ1 T1 s1 g1 r1 p1 => ?_
    refine cG_bind s1 p1 fun l l' F2 H2 τ2 T2 s2 g2 r2 p2 => ?_
    refine cG_bind s2 p2 fun u u' F3 H3 τ3 T3 s3 g3 r3 p3 => ?_
    cases r2; cases r3
    have r1 := (r1.mono g2.ff g2.tm).mono g3.ff g3.tm
    cases x with
    | tup ds =>
      have p3 : Pst X.mg W (Rep X.K) σ F3 H3 τ3 Q (.ok (.tup (cutD ds l u)) T3) := p3
      have r0 := r1
      unfold Rep at r1
      obtain ⟨b, vs, rfl, h1, h2⟩ := r1
      refine .inl ⟨b, vs, rfl, sqT_mono s3.go.fh h1, fun z => ?_, fun _ q hq => ?_⟩
      · rw [h2.len] at z
        refine p3 _ F3 H3 τ3 (.refl s3.go.fh) s3.tp ?_
        rw [cut_all z]
        exact r0
      · have g := Go.new (τ := τ3) (o := .tup (cutV vs l u)) s3.go.fh hq
        refine p3 _ _ _ τ3 g (s3.tp.upd (s3.tp.off hq)) ?_
        unfold Rep
        exact ⟨q, _, rfl, .inl (.inl upd_same), (cut_reps h2 l u).mono g.ff fun _ e => e⟩
    | lst ds =>
      have p3 : Pst X.mg W (Rep X.K) σ F3 H3 τ3 Q (.ok (.lst (cutD ds l u)) T3) := p3
      unfold Rep at r1
      obtain ⟨b, vs, rfl, h1, h2⟩ := r1
      refine .inr ⟨b, vs, rfl, .inl (.inl (s3.go.fh _ _ h1)), fun q hq => ?_⟩
      have g := Go.new (τ := τ3) (o := .lst (cutV vs l u)) s3.go.fh hq
      refine p3 _ _ _ τ3 g (s3.tp.upd (s3.tp.off hq)) ?_
      unfold Rep
      exact ⟨q, _, rfl, upd_same, (cut_reps h2 l u).mono g.ff fun _ e => e⟩
    | _ => exact p3.elim
/-! ### a < b < c -/
def dChain (o o' : D → D → Option D) (f g h : DEnv → Mo D) : DEnv → Mo D := fun δ T => (f δ T).bind fun x T1 => (g δ T1).bind fun y T2 => (lift ((o x y).bind asB) T2).bind fun k T3 => if k = true then (h δ T3).bind fun z T4 => lift (o' y z) T4 else .ok (.bl false) T3
theorem cChain {r r' : R2} {o o' : D → D → Option D} (ho : OpD K r o) (ho' : OpD K r' o') {σ : L2.St} {H : Hp} {Q : VK} (q : cG K mg W (Rep K) (dChain o o' f g h) σ H Q) : tChain r r' (cG K mg W (Rep K) f) (cG K mg W (Rep K) g) (cG K mg W (Rep K) h) σ H Q := by
  obtain ⟨F0, H0, τ0, F, τ, T, δ, s, p⟩ := q
  refine cG_bind s p fun x v F1 H1 τ1 T1 s1 g1 r1 p1 => ?_
  refine cG_bind s1 p1 fun y u F2 H2 τ2 T2 s2 g2 r2 p2 => ?_
  cases e : o x y with
  | none => rw [e] at p2; exact p2.elim
  | some w =>
    cases eb : asB w with
    | none =>
      have e3 : ((o x y).bind asB) = none := by rw [e]; exact eb
      rw [e3] at p2; exact p2.elim
    | some k =>
      have e3 : ((o x y).bind asB) = some k := by rw [e]; exact eb
      rw [e3] at p2
      refine ho F2 H2 τ2 T2 x y v u w _ s2.go.fh s2.tp (r1.mono g2.ff g2.tm) r2 e fun z F3 H3 g3 t3 r3 => ?_
      rw [asB_eq eb] at r3
      unfold Rep at r3
      refine ⟨k, r3, ?_⟩
      have s3 := s2.step g3 t3
      have p2 : Pst mg W (Rep K) σ F2 H2 τ2 Q (if k = true then (h δ T2).bind fun z T4 => lift (o' y z) T4 else .ok (.bl false) T2) := p2
      have p3 := Pst.shift g3 p2
      cases k with
      | true =>
        rw [if_pos rfl] at p3 ⊢
        refine cG_bind s3 p3 fun z' w' F4 H4 τ4 T4 s4 g4 r4 p4 => ?_
        cases e5 : o' y z' with
        | none => rw [e5] at p4; exact p4.elim
        | some w5 =>
          rw [e5] at p4
          exact ho' F4 H4 τ4 T4 y z' u w' w5 Q s4.go.fh s4.tp ((r2.mono g3.ff g3.tm).mono g4.ff g4.tm) r4 e5 fun w6 F6 H6 g6 t6 r6 => p4 w6 F6 H6 τ4 g6 t6 r6
      | false =>
        rw [if_neg Bool.false_ne_true] at p3 ⊢
        exact p3 (.bl false) F3 H3 τ2 (.refl s3.go.fh) s3.tp (by unfold Rep; rfl)
theorem de_chain {op op' : CmpOp} {r r' : R2} {o o' : D → D → Option D} (hp : OpR X (compareOp op) r) (ho : OpD X.K r o) (hp' : OpR X (compareOp op') r') (ho' : OpD X.K r' o') (ha : DE X W a f) (hb : DE X W b g) (hc : DE X W c h) (hl : lastMarks [op, op'] [b, c] = false := by rfl) :
    DE X W (.Compare a [op, op'] [b, c] pos) (dChain o o' f g h) := pe_imp (pe_chain hp hp' ha hb hc hl) fun σ H Q q => cChain ho ho' q
theorem dt_chain {op op' : CmpOp} {r r' : R2} {o o' : D → D → Option D} (hp : OpR X (compareOp op) r) (ho : OpD X.K r o) (hp' : OpR X (compareOp op') r') (ho' : OpD X.K r' o') (ha : DE X W a f) (hb : DE X W b g) (hc : DE X W c h) (hl : lastMarks [op, op'] [b, c] = false := by rfl) :
    DT X W (.Compare a [op, op'] [b, c] pos) (dTv (dChain o o' f g h)) := pt_imp (pt_chain hp hp' ha hb hc hl) fun σ H Q q => by
  have q2 : cG X.K X.mg W (Rep X.K) (dChain o o' f g h) σ H fun x H' => ∃ k, x = .bl k ∧ Q k H' := cTv q
  exact cChain ho ho' q2
end
end DD

/-! DD11: x[lo::-1] of tuples and lists. -/
namespace HT
open PySem PySem.Spec PyProof.Rows
section
variable {prog : Program} {w : World} {A : Around} {E : Value → Shared → Prop} {s : Shared}
/-- how many places a walk backwards from lo has -/
def rvN (n : Nat) : Option Int → Nat
  | none => n
  | some v => if v < 0 then (v + (n : Int) + 1).toNat else min (v + 1).toNat n
theorem rvN_le (n : Nat) (lo : Option Int) : rvN n lo ≤ n := by
  unfold rvN
  split
  · exact Nat.le_refl _
  · split <;> omega
theorem adjust_rv (lo : Option Int) (n : Nat) : Builtin.Slice.sliceAdjust lo none (-1) (n : Int) = (((rvN n lo : Nat) : Int) - 1, -1) := by
  unfold Builtin.Slice.sliceAdjust
  refine Prod.ext ?_ ?_
  · cases lo with
    | none => rfl
    | some v =>
      show (if v < 0 then max (v + (n : Int)) (-1) else min v ((n : Int) - 1)) = (((if v < 0 then (v + (n : Int) + 1).toNat else min (v + 1).toNat n : Nat)) : Int) - 1
      split <;> omega
  · rfl
theorem places_rv (k : Nat) : Builtin.Slice.slicePlaces ((k : Int) - 1) (-1) (-1) = k := by
  unfold Builtin.Slice.slicePlaces
  have h1 : ¬ ((-1 : Int) > 0) := by omega
  have h2 : (- -1 : Int) = 1 := by decide
  simp only [h1, if_false, h2, Int.ediv_one]
  split <;> omega
theorem applied_rv {sl : Addr} {vl vs : Value} {lo : Option Int} {n : Nat} {Q : Int × Int × Nat → Shared → Prop} (hs : s.heap.IsSliceOf sl vl .none vs) (pl : IsPart vl lo) (ps : IsPart vs (some (-1)))
    (h : Q (((rvN n lo : Nat) : Int) - 1, -1, rvN n lo) s) : wpAny (model prog w) A (Builtin.Slice.sliceApplied (.ref sl) (pure (n : Int))) Q E s := by
  obtain ⟨os, hos, hcs, hds⟩ := id hs
  unfold Builtin.Slice.sliceApplied Builtin.Slice.sliceFields
  refine wpAny_bind (wpAny_bind (wpAny_field hos hds (x := vl) rfl (wpAny_bind (wpAny_field hos hds (x := .none) rfl (wpAny_bind (wpAny_field hos hds (x := vs) rfl (wpAny_pure ?_)))))))
  refine wpAny_bind (slicePart_ ps ?_)
  show wpAny _ _ (if ((-1 : Int) == 0) = true then _ else _) _ _ s
  rw [if_neg (by decide)]
  refine wpAny_bind (slicePart_ pl (wpAny_bind (slicePart_none (wpAny_bind (wpAny_pure ?_)))))
  show wpAny _ _ (match Builtin.Slice.sliceAdjust lo none (-1) (n : Int) with | (lo, hi) => pure (lo, (-1 : Int), Builtin.Slice.slicePlaces lo hi (-1))) _ _ s
  rw [adjust_rv lo n]
  show wpAny _ _ (pure (((rvN n lo : Nat) : Int) - 1, (-1 : Int), Builtin.Slice.slicePlaces (((rvN n lo : Nat) : Int) - 1) (-1) (-1))) _ _ s
  rw [places_rv]
  exact wpAny_pure h
theorem fm_congr {α β : Type} {f g : α → Option β} : ∀ {l : List α}, (∀ x ∈ l, f x = g x) → l.filterMap f = l.filterMap g
  | [], _ => rfl
  | x :: l, h => by
    rw [List.filterMap_cons, List.filterMap_cons, h x List.mem_cons_self, fm_congr fun y hy => h y (List.mem_cons_of_mem _ hy)]
theorem pick_rv (xs : Array Value) (k : Nat) (hk : k ≤ xs.size) : ((List.range k).filterMap fun (m : Nat) => xs[(((k : Int) - 1) + (m : Int) * (-1)).toNat]?) = (xs.toList.take k).reverse := by
  have e1 : (List.range k).filterMap (fun (m : Nat) => xs[(((k : Int) - 1) + (m : Int) * (-1)).toNat]?) = ((List.range k).map fun m => k - 1 - m).filterMap (xs[·]?) := by
    rw [List.filterMap_map]
    refine fm_congr fun m hm => ?_
    have := List.mem_range.mp hm
    show xs[(((k : Int) - 1) + (m : Int) * (-1)).toNat]? = xs[k - 1 - m]?
    congr 1
    omega
  rw [e1, PySem.W.krv_range, List.filterMap_reverse]
  congr 1
  have h := pick_run xs 0 k
  have e : (List.range k).map (0 + ·) = List.range k := by
    rw [show ((0 + ·) : Nat → Nat) = id from funext fun k => Nat.zero_add k, List.map_id]
  rw [e, List.drop_zero] at h
  exact h
theorem getItem_tuple_rv {t sl : Addr} {items : Array Value} {vl vs : Value} {lo : Option Int} {Q : Value → Shared → Prop} (ht : IsTup s.heap t items) (hs : s.heap.IsSliceOf sl vl .none vs) (pl : IsPart vl lo) (ps : IsPart vs (some (-1)))
    (h : Q (.ref s.heap.objs.size) { s with heap := s.heap.push { cls := .type "tuple", data := .seq (items.toList.take (rvN items.size lo)).reverse.toArray } })
    (hsz : items.size ≤ sizeLine) : wpAny (model prog w) A (getItem (.ref t) (.ref sl)) Q E s := by
  have hk := rvN_le items.size lo
  have htake : sizeOk (.seq (items.toList.take (rvN items.size lo)).reverse.toArray) := by
    show (items.toList.take (rvN items.size lo)).reverse.toArray.size ≤ sizeLine
    rw [List.size_toArray, List.length_reverse, List.length_take, Array.length_toList]
    omega
  obtain ⟨os, hos, hcs, hds⟩ := id hs
  have hTs : s.TypeIs (.ref sl) "slice" := ⟨os, hos, hcs⟩
  unfold getItem
  try with_reducible refine wpAny_holding ?_
  first | refine wpAny_bind (wpAny_pure ?_) | skip
  refine wpAny_bind (wpAny_sequenceKey ht.typeIs (by decide) ?_)
  refine wpAny_bind (wpAny_callSpecial?_slot (name := Str.ofString "__getitem__") ht.typeIs PyProof.Rows.slot_tuple_getitem
    (wpAny_call_entry PyProof.Rows.slot_tuple_getitem ht.typeIs entry_tuple_getitem ?_ (args_tuple_getitem _ _)))
  show wpAny _ _ (Builtin.Tuple.tupleItemsOf (.ref t) >>= _) _ _ s
  refine wpAny_bind (tupleItemsOf_ ht ?_)
  refine wpAny_bind (wpAny_typeOf hTs ?_)
  rw [if_pos (by decide)]
  refine wpAny_bind (applied_rv hs pl ps ?_)
  have hno : ¬ (((((rvN items.size lo : Nat) : Int) - 1) == 0 && (-1 : Int) == 1 && rvN items.size lo == items.size) = true) := by
    intro q
    rw [Bool.and_eq_true, Bool.and_eq_true] at q
    exact absurd q.1.2 (by decide)
  show wpAny _ _ (if ((((rvN items.size lo : Nat) : Int) - 1) == 0 && (-1 : Int) == 1 && rvN items.size lo == items.size) = true then _ else _) _ _ s
  rw [if_neg hno, pick_rv items _ hk]
  first
    | exact wpAny_bind (m := Builtin.Tuple.tupleExact _) (wpAny_newObj_type (wpAny_pure ⟨_, rfl, wpAny_pure h⟩) htake)
    | exact wpAny_bind (m := Builtin.Tuple.tupleExact _) (wpAny_newObj_type (wpAny_bind (wpAny_pure (wpAny_pure ⟨_, rfl, wpAny_pure h⟩))) htake)
    | exact wpAny_bind (wpAny_bind (m := Builtin.Tuple.tupleExact _) (wpAny_newObj_type (wpAny_pure (wpAny_pure ⟨_, rfl, wpAny_pure h⟩)) htake))
    | exact wpAny_bind (wpAny_bind (m := Builtin.Tuple.tupleExact _) (wpAny_newObj_type (wpAny_pure ⟨_, rfl, wpAny_pure h⟩) htake))
end
end HT
namespace DD
open PySem PySem.Spec PyProof.Rows L2
section
variable {K : Kf} {W : WX} {X : Cx} {a b c : Expr} {pos : Pos} {f g h : DEnv → Mo D} {fa : DEnv → Mo (List D)}
/-- t[lo::-1], t a tuple; l[::-1], l a list -/
def tRv (K : Kf) (te : TE) (tl : TO) : TE := fun σ H Q => te σ H fun x H1 => tl σ H1 fun lo H2 => ∃ a xs, x = .ref a ∧ SqT K H2 a xs ∧ ∀ p, H2 p = none → Q (.ref p) (upd H2 p (.tup (xs.take (HT.rvN xs.length lo)).reverse))
theorem pe_rv {lo : Option Expr} {te : TE} {tl : TO} {k : Nat} {p1 p2 p3 : Pos} (he : PE X a te) (hl : PO X lo tl) : PE X (.Subscript a (.Slice lo none (some (.UnaryOp .USub (.Constant (.int 1) k p1) p2)) p3) pos) (tRv X.K te tl) := by
  refine ⟨fun pins s σ H Q I h => ?_⟩
  refine Subscript_ (thn (he.run pins s σ H _ I h) fun v s1 ⟨x, H1, I1, r1, q1⟩ => ?_)
  have hst : PO X (some (.UnaryOp .USub (.Constant (.int 1) k p1) p2)) (tPart (tUn (rU fun i => .int (-i)) (tC (.int 1)))) := po_some (pe_un un_neg pe_int)
  refine wpAny_Slice (thn (hl.run pins s1 σ H1 _ I1 q1) fun vl s2 ⟨l, H2, I2, pl, q2⟩ => ?_)
  refine thn (po_none.run pins s2 σ H2 (fun o H3 => o = none ∧ H3 = H2) I2 ⟨rfl, rfl⟩) fun vu s3 ⟨u, H3, I3, pu, eu, e3⟩ => ?_
  subst eu e3
  refine thn (hst.run pins s3 σ H3 (fun o H4 => o = some (-1) ∧ H4 = H3) I3 ⟨1, rfl, -1, rfl, rfl, rfl⟩) fun vs s4 ⟨o, H4, I4, ps, eo, e4⟩ => ?_
  subst eo e4
  obtain ⟨t, xs, ex, hx, q⟩ := q2
  subst ex
  cases r1
  cases pu
  have I5 : Inv X pins σ H4 { s4 with heap := s4.heap.push { cls := .type "slice", data := .fields #[vl, .none, vs] } } := I4.kept (t' := s4.toks) fun b ob q => Heap.get?_push_of_some _ q
  obtain ⟨its, r, ht, hz⟩ := I5.tuple hx
  have hlen : its.toArray.size = xs.length := by rw [List.size_toArray]; exact r.length.symm
  show wpAny (model X.prog X.w) X.A (subscriptTail a (.Slice lo none (some (.UnaryOp .USub (.Constant (.int 1) k p1) p2)) p3) (.ref t) (.ref s4.heap.objs.size)) (EP X pins σ Q) X.xe { s4 with heap := s4.heap.push { cls := .type "slice", data := .fields #[vl, .none, vs] } }
  refine tail_any (ops := [.ref t, .ref s4.heap.objs.size]) ht.typeIs (PyProof.Rows.slot_tuple_getitem.lookup) ?_ (by with_unfolding_all rfl)
  refine HT.getItem_tuple_rv ht (Heap.IsSliceOf.new _ vl .none vs) pl ps ?_ (by rw [hlen]; exact hz)
  rw [hlen]
  refine ⟨.ref _, _, I5.laid (t' := s4.toks) (o := .tup (xs.take (HT.rvN xs.length l)).reverse) (fun b ob q => Heap.get?_push_of_some _ q) (Nat.le_refl _) ?_, rfl, q _ (I5.hok.fresh (Nat.le_refl _))⟩
  exact ⟨by rw [List.length_reverse, List.length_take]; omega, _, (r.take _).reverse, IsTup.new _ _⟩
def rvO : D → Option Int → Option D
  | .tup ds, lo => some (.tup (ds.take (HT.rvN ds.length lo)).reverse)
  | _, _ => none
def dRv (f : DEnv → Mo D) (lo : DEnv → Mo (Option Int)) : DEnv → Mo D := fun δ T => (f δ T).bind fun x T1 => (lo δ T1).bind fun l T2 => lift (rvO x l) T2
theorem de_rv {lo : Option Expr} {fl : DEnv → Mo (Option Int)} {k : Nat} {p1 p2 p3 : Pos} (ha : DE X W a f) (hl : DO X W lo fl) : DE X W (.Subscript a (.Slice lo none (some (.UnaryOp .USub (.Constant (.int 1) k p1) p2)) p3) pos) (dRv f fl) :=
  pe_imp (pe_rv ha hl) fun σ H Q q => by
    obtain ⟨F0, H0, τ0, F, τ, T, δ, s, p⟩ := q
    refine cG_bind s p fun x v F1 H1 τ1 T1 s1 g1 r1 p1 => ?_
    refine cG_bind s1 p1 fun l l' F2 H2 τ2 T2 s2 g2 r2 p2 => ?_
    cases r2
    have r1 := r1.mono g2.ff g2.tm
    cases x with
    | tup ds =>
      have p2 : Pst X.mg W (Rep X.K) σ F2 H2 τ2 Q (.ok (.tup (ds.take (HT.rvN ds.length l)).reverse) T2) := p2
      unfold Rep at r1
      obtain ⟨b, vs, rfl, h1, h2⟩ := r1
      refine ⟨b, vs, rfl, sqT_mono s2.go.fh h1, fun q hq => ?_⟩
      have g := Go.new (τ := τ2) (o := .tup (vs.take (HT.rvN vs.length l)).reverse) s2.go.fh hq
      refine p2 _ _ _ τ2 g (s2.tp.upd (s2.tp.off hq)) ?_
      unfold Rep
      refine ⟨q, _, rfl, .inl (.inl upd_same), ?_⟩
      rw [← h2.len]
      exact ((h2.take _).reverse).mono g.ff fun _ e => e
    | _ => exact p2.elim
/-- l[::-1], a list -/
def lRev (f : DEnv → Mo D) : DEnv → Mo (List D) := fun δ T => (f δ T).bind fun x T1 => (lift (lstO x) T1).bind fun ds T2 => .ok ds.reverse T2
theorem dl_rev {k : Nat} {p1 p2 p3 : Pos} (ha : DE X W a f) : DL X W (.Subscript a (.Slice none none (some (.UnaryOp .USub (.Constant (.int 1) k p1) p2)) p3) pos) (lRev f) := pe_imp (pe_revL ha) fun σ H Q q => by
  obtain ⟨F0, H0, τ0, F, τ, T, δ, s, p⟩ := q
  refine cG_bindL s p fun x v F1 H1 τ1 T1 s1 g1 r1 p1 => ?_
  cases ex : lstO x with
  | none => rw [ex] at p1; exact p1.elim
  | some ds =>
    rw [ex] at p1
    rw [lstO_eq ex] at r1
    unfold Rep at r1
    obtain ⟨b, vs, rfl, h1, h2⟩ := r1
    refine ⟨b, vs, rfl, .inl (.inl (s1.go.fh _ _ h1)), fun q hq => ?_⟩
    exact p1 q _ F1 _ τ1 (Go.newH s1.go.fh hq) (s1.tp.upd (s1.tp.off hq)) upd_same h2.reverse (s1.go.fh.free hq) hq (s1.tp.off hq)
end
end DD

/-! DD12: the tape of draws: made, drawn from; recursion by depth. -/
namespace DD
open PySem PySem.Spec PyProof.Rows L2
section
variable {K : Kf} {W : WX} {X : Cx} {a b c : Expr} {pos : Pos} {f g h : DEnv → Mo D} {fa : DEnv → Mo (List D)}
def mkTape (ds : List D) (x : D) : Mo D := fun T => T.elim ((intsOf ds).elim .stuck fun ns => (asI x).elim .stuck fun s => .ok .tape (some ⟨ns, s⟩)) fun _ => .stuck
def dTape (fa : DEnv → Mo (List D)) (f : DEnv → Mo D) : DEnv → Mo D := fun δ T => (fa δ T).bind fun ds T1 => (f δ T1).bind fun x T2 => mkTape ds x T2
/-- [cells, seed] -/
theorem de_tape (hl : DL X W a fa) (he : DE X W b f) (hs1 : starEach [a, b] X.env = (false, eval a X.env) :: starEach [b] X.env := by rfl) (hs2 : starEach [b] X.env = (false, eval b X.env) :: starEach [] X.env := by rfl) : DE X W (.List [a, b] pos) (dTape fa f) :=
  pe_imp (pe_lst (pa_cons hl (pa_cons he pa_nil hs2) hs1)) fun σ H Q q => by
    obtain ⟨F0, H0, τ0, F, τ, T, δ, s, p⟩ := q
    unfold dTape at p
    refine ⟨F0, H0, τ0, F, τ, T, δ, s, ?_⟩
    cases e : fa δ T with
    | exc x T1 => rw [e] at p; exact p
    | stuck => rw [e] at p; exact p
    | ok ds T1 =>
      rw [e] at p
      intro q vs F1 H1 τ1 go tp k1 k2 k3 k4 k5
      have p : Pst X.mg W (Rep X.K) σ F H τ Q ((f δ T1).bind fun x T2 => mkTape ds x T2) := p
      refine ⟨F0, H0, τ0, F1, τ1, T1, δ, s.step go tp, ?_⟩
      cases e2 : f δ T1 with
      | exc x T2 =>
        rw [e2] at p
        exact fun c dd F' H' τ' g t ex => p c dd F' H' τ' (go.trans g) t ex
      | stuck => rw [e2] at p; exact p
      | ok x T2 =>
        rw [e2] at p
        have p : Pst X.mg W (Rep X.K) σ F H τ Q (mkTape ds x T2) := p
        intro v F2 H2 τ2 go2 tp2 r2
        refine ⟨by show 2 ≤ sizeLine; rw [sizeLine_eq]; decide, fun l hl => ?_⟩
        unfold mkTape at p
        cases T2 with
        | some z => exact p.elim
        | none =>
          have ht : τ2 = none := by
            cases τ2 with
            | none => rfl
            | some z => exact tp2.elim
          have p : Pst X.mg W (Rep X.K) σ F H τ Q ((intsOf ds).elim .stuck fun ns => (asI x).elim .stuck fun s => .ok .tape (some ⟨ns, s⟩)) := p
          cases en : intsOf ds with
          | none => rw [en] at p; exact p.elim
          | some ns =>
            rw [en] at p
            have p : Pst X.mg W (Rep X.K) σ F H τ Q ((asI x).elim .stuck fun s => .ok .tape (some ⟨ns, s⟩)) := p
            cases ex : asI x with
            | none => rw [ex] at p; exact p.elim
            | some sd =>
              rw [ex] at p
              have p : Pst X.mg W (Rep X.K) σ F H τ Q (.ok .tape (some ⟨ns, sd⟩)) := p
              subst ht
              rw [asI_eq ex] at r2
              unfold Rep at r2
              subst r2
              rw [intsOf_eq en] at k2
              have hq2 : H2 q = some (.lst (ns.map V.int)) := by rw [← k2.of_ints]; exact go2.hh _ _ k1 k5
              have nql : l ≠ q := fun z => by rw [z, hq2] at hl; cases hl
              have gg := go.trans go2
              have hτ : τ = none := by
                cases τ with
                | none => rfl
                | some z => have := gg.tm z rfl; cases this
              refine p (.ref l) F2 _ (some ⟨l, q⟩) ⟨gg.ff, fun b o e => ?_, fun b o e n => ?_, fun b e => ?_, gg.nw, ?_⟩ ?_ ?_
              · rw [upd_ne (ne_of_none (go2.fh _ _ e) hl)]; exact go2.fh _ _ e
              · have := gg.hh b o e n
                rw [upd_ne (ne_of_none this hl)]; exact this
              · by_cases z : b = l
                · rw [z, upd_same] at e; cases e
                · rw [upd_ne z] at e; exact gg.dom _ e
              · refine .inr ⟨hτ, ⟨l, q⟩, rfl, gg.dom _ hl, k4, go2.fh.free hl, go2.fnone k3 k1, by rw [upd_same]; simp, ?_⟩
                show upd H2 l _ q ≠ none
                rw [upd_ne (Ne.symm nql), hq2]; simp
              · refine ⟨nql, upd_same, ?_⟩
                show upd H2 l _ q = _
                rw [upd_ne (Ne.symm nql)]; exact hq2
              · unfold Rep; exact ⟨⟨l, q⟩, rfl, rfl⟩
end
/-! ### a draw -/
def zeros : List Int → List Int
  | [] => []
  | c :: r => if c = 0 then zeros r else c :: r
def drawT (m : Int) (x : Tape) : Out D := match zeros x.cells with
  | c :: r => .ok (.int (c % m)) (some ⟨c / m :: r, x.seed⟩)
  | [] => .ok (.int ((x.seed * 48271 + 12345) % 2147483647 / 64 % m)) (some ⟨[], (x.seed * 48271 + 12345) % 2147483647⟩)
def drawOk (m : Int) : Bool := posI m && Nat.blt m.natAbs 115792089237316195423570985008687907853269984665640564039457584007913129639936
def denDraw : List D → Mo D
  | [.tape, .int m], some x => if drawOk m = true then drawT m x else .stuck
  | _, _ => .stuck
def rInt1 : List V → Hp → VK → Prop := fun xs H Q => (∃ i, xs = [.int i] ∧ Q (.int i) H) ∨ ∃ k, xs = [.bl k] ∧ Q (.int (if k = true then 1 else 0)) H
def rLenS2 (K : Kf) : List V → Hp → VK → Prop := fun xs H Q => ∃ p ys, xs = [.ref p] ∧ (SqL K H p ys ∨ SqT K H p ys) ∧ Q (.int ys.length) H
def rMod0 : R2 := rI (fun _ j => 0 < j) fun i j => .int (i % j)
def tLen0 (K : Kf) : TT := tTest (tOp (rI0 fun i j => .bl (decide (j < i))) (tCB (rLenS2 K) (tCons (tVar 2) tNil)) (tC (.int 0)))
def tDraw (K : Kf) : TS :=
  tSeq (tAsg (tOp (rIxL K) (tVar 0) (tC (.int 0))) (gName 2))
  (tSeq (tWhile (tAnd (tLen0 K) (tTest (tOp rEq (tOp (rIxL K) (tVar 2) (tC (.int 0))) (tC (.int 0))))) (tDrop (tBM K "list" rPopAt (tVar 2) (tCons (tC (.int 0)) tNil))))
  (tSeq (tIfS (tLen0 K)
      (tSeq (tAsg (tOp (rIxL K) (tVar 2) (tC (.int 0))) (gName 3))
      (tSeq (tAsg (tOp (rI CDivW fun i j => .int (i / j)) (tVar 3) (tVar 1)) (gSub (tVar 2) (tC (.int 0)) rSetL))
      (tRet (tOp rMod0 (tCB rInt1 (tCons (tVar 3) tNil)) (tVar 1))))) tNext)
  (tSeq (tAsg (tOp rMod0 (tCB rInt1 (tCons (tOp (rI0 fun i j => .int (i + j)) (tOp (rI CMul fun i j => .int (i * j)) (tOp (rIxL K) (tVar 0) (tC (.int 1))) (tC (.int 48271))) (tC (.int 12345))) tNil)) (tC (.int 2147483647))) (gSub (tVar 0) (tC (.int 1)) rSetL))
  (tRet (tOp rMod0 (tCB rInt1 (tCons (tOp (rI CDivW fun i j => .int (i / j)) (tOp (rIxL K) (tVar 0) (tC (.int 1))) (tC (.int 64))) tNil)) (tVar 1))))))
section
variable {K : Kf}
theorem draw_run {mg : Str → Option Value} {vs : List V} {H : Hp} {Q : VK} {E : XK} (h : SpD K mg 2 denDraw vs H Q E) : tDraw K { nx := fun _ H' => Q .non H', rt := Q } (L2.start ["tape", "many", "cells", "number"] vs) H := by
  obtain ⟨F, τ, T, ds, fh, tf, tp, rs, hl, p⟩ := h
  unfold denDraw at p
  split at p
  case h_2 => exact p.elim
  rename_i m x
  split at p
  case isFalse => exact p.elim
  rename_i hm
  obtain ⟨v, u, rfl, r1, r2⟩ := reps2 rs
  unfold Rep at r1 r2
  obtain ⟨t, rfl, rfl⟩ := r1
  subst r2
  obtain ⟨n1, n2, n3⟩ := tp
  obtain ⟨f1, f2⟩ := tf t rfl
  unfold drawOk at hm
  rw [Bool.and_eq_true, posI_eq, Nat.blt_eq] at hm
  have hd : CDivW 0 m := wide_div (b := 256) hm.1 (by omega) (by decide) (by decide)
  have hd' : ∀ i, CDivW i m := fun i => hd
  -- the world's end
  have fin : ∀ (H' : Hp) (x' : Tape) (r : Int), (∀ b, b ≠ t.t → b ≠ t.c → H' b = H b) → H' t.t = some (.lst [.ref t.c, .int x'.seed]) → H' t.c = some (.lst (x'.cells.map V.int)) → Pst mg (fun c dd _ H' => E c dd H') (Rep K) [] F H (some t) Q (.ok (.int r) (some x')) → Q (.int r) H' := fun H' x' r e1 e2 e3 p => by
    refine p (.int r) F H' (some t) ⟨fun _ _ e => e, fun b o e => ?_, fun b o e n => ?_, fun b e => ?_, fun _ _ e => .inl e, .inl rfl⟩ ⟨n1, e2, e3⟩ (by unfold Rep; rfl)
    · rw [e1 b (fun z => by rw [z, f1] at e; cases e) (fun z => by rw [z, f2] at e; cases e)]
      exact fh _ _ e
    · obtain ⟨k1, k2⟩ := n t rfl
      rw [e1 b k1 k2]; exact e
    · by_cases z1 : b = t.t
      · rw [z1, e2] at e; cases e
      · by_cases z2 : b = t.c
        · rw [z2, e3] at e; cases e
        · rw [e1 b z1 z2] at e; exact e
  have st : L2.start ["tape", "many", "cells", "number"] [.ref t.t, .int m] = [some (.ref t.t), some (.int m), none, none] := rfl
  rw [st]
  refine ⟨.ref t.t, rfl, t.t, _, 0, .ref t.c, rfl, rfl, .inl (.inl n2), rfl, ?_⟩
  show tSeq _ _ _ [some (.ref t.t), some (.int m), some (.ref t.c), none] H
  refine ⟨fun k σ H' => σ = [some (.ref t.t), some (.int m), some (.ref t.c), none] ∧ ∃ cs : List Int, k = cs.length ∧ zeros cs = zeros x.cells ∧ H' t.c = some (.lst (cs.map V.int)) ∧ ∀ b, b ≠ t.c → H' b = H b, ⟨_, rfl, x.cells, rfl, rfl, n3, fun _ _ => rfl⟩, ?_⟩
  rintro k σ H1 ⟨rfl, cs, rfl, hz, hc, ho⟩
  have ht : H1 t.t = some (.lst [.ref t.c, .int x.seed]) := by rw [ho _ n1]; exact n2
  refine ⟨.ref t.c, rfl, t.c, cs.map V.int, rfl, .inl (.inl (.inl hc)), _, _, rfl, rfl, _, rfl, ?_⟩
  cases cs with
  | nil =>
    have hno : ¬ (decide ((0 : Int) < ((([] : List Int).map V.int).length : Nat)) = true) := by simp
    rw [if_neg hno]
    show (if (false = true) then _ else _)
    rw [if_neg Bool.false_ne_true]
    refine ⟨.ref t.c, rfl, t.c, _, rfl, .inl (.inl (.inl hc)), _, _, rfl, rfl, _, rfl, ?_⟩
    show (if (decide ((0 : Int) < ((([] : List Int).map V.int).length : Nat))) = true then _ else _)
    rw [if_neg hno]
    have p : Pst mg (fun c dd _ H' => E c dd H') (Rep K) [] F H (some t) Q (.ok (.int ((x.seed * 48271 + 12345) % 2147483647 / 64 % m)) (some ⟨[], (x.seed * 48271 + 12345) % 2147483647⟩)) := by
      unfold drawT at p
      rw [← hz] at p
      exact p
    refine ⟨.ref t.t, rfl, t.t, _, 1, .int x.seed, rfl, rfl, .inl (.inl ht), rfl, ?_⟩
    refine ⟨_, _, rfl, rfl, .inr ⟨by decide, by decide⟩, ?_⟩
    refine ⟨_, _, rfl, rfl, .inl ⟨_, rfl, ?_⟩⟩
    refine ⟨_, _, rfl, rfl, (show (0 : Int) < 2147483647 by decide), ?_⟩
    refine ⟨.ref t.t, rfl, t.t, _, 1, 1, rfl, rfl, ht, rfl, ?_⟩
    refine ⟨.ref t.t, rfl, t.t, _, 1, .int ((x.seed * 48271 + 12345) % 2147483647), rfl, rfl, .inl (.inl upd_same), rfl, ?_⟩
    refine ⟨_, _, rfl, rfl, ⟨by decide, by decide⟩, ?_⟩
    refine .inl ⟨_, rfl, ?_⟩
    refine ⟨.int m, rfl, _, _, rfl, rfl, hm.1, ?_⟩
    refine fin _ ⟨[], _⟩ _ (fun b z1 z2 => ?_) upd_same ?_ p
    · rw [upd_ne z1]; exact ho b z2
    · rw [upd_ne (Ne.symm n1)]; exact hc
  | cons c0 r =>
    show (if (decide ((0 : Int) < (((c0 :: r).map V.int).length : Nat))) = true then _ else _)
    have hpos : decide ((0 : Int) < (((c0 :: r).map V.int).length : Nat)) = true := by simp
    rw [if_pos hpos]
    refine ⟨.ref t.c, rfl, t.c, _, 0, .int c0, rfl, rfl, .inl (.inl hc), ?_, ?_⟩
    · unfold atI ixN
      simp
    refine ⟨rfl, _, rfl, ?_⟩
    by_cases z0 : c0 = 0
    · show (if decide (V.int c0 = V.int 0) = true then _ else _)
      rw [if_pos (decide_eq_true (by rw [z0]))]
      refine ⟨fun σ' H' => σ' = [some (.ref t.t), some (.int m), some (.ref t.c), none] ∧ ∃ cs : List Int, cs.length < (c0 :: r).length ∧ zeros cs = zeros x.cells ∧ H' t.c = some (.lst (cs.map V.int)) ∧ ∀ b, b ≠ t.c → H' b = H b, ?_, ?_⟩
      · rintro σ' H' ⟨e, cs, e1, e2⟩
        exact ⟨cs.length, e1, e, cs, rfl, e2⟩
      · refine ⟨.ref t.c, rfl, tyV_own hc, ?_⟩
        refine ⟨t.c, _, 0, 0, .int c0, rfl, rfl, hc, by decide, by decide, ?_, rfl, ?_⟩
        · unfold seqIndex?
          simp
        refine ⟨rfl, r, by simp, ?_, upd_same, fun b z => by rw [upd_ne z]; exact ho b z⟩
        rw [← hz]
        show _ = if c0 = 0 then zeros r else c0 :: r
        rw [if_pos z0]
    · show (if decide (V.int c0 = V.int 0) = true then _ else _)
      rw [if_neg (by simpa using z0)]
      refine ⟨.ref t.c, rfl, t.c, _, rfl, .inl (.inl (.inl hc)), _, _, rfl, rfl, _, rfl, ?_⟩
      show (if (decide ((0 : Int) < (((c0 :: r).map V.int).length : Nat))) = true then _ else _)
      rw [if_pos hpos]
      have p : Pst mg (fun c dd _ H' => E c dd H') (Rep K) [] F H (some t) Q (.ok (.int (c0 % m)) (some ⟨c0 / m :: r, x.seed⟩)) := by
        unfold drawT at p
        rw [← hz] at p
        have e : zeros (c0 :: r) = c0 :: r := if_neg z0
        rw [e] at p
        exact p
      refine ⟨.ref t.c, rfl, t.c, _, 0, .int c0, rfl, rfl, .inl (.inl hc), ?_, ?_⟩
      · unfold atI ixN
        simp
      refine ⟨.int c0, rfl, .int m, rfl, _, _, rfl, rfl, hd' _, ?_⟩
      refine ⟨.ref t.c, rfl, t.c, _, 0, 0, rfl, rfl, hc, ?_, ?_⟩
      · unfold ixN
        simp
      refine ⟨.int c0, rfl, .inl ⟨_, rfl, ?_⟩⟩
      refine ⟨.int m, rfl, _, _, rfl, rfl, hm.1, ?_⟩
      refine fin _ ⟨c0 / m :: r, x.seed⟩ _ (fun b z1 z2 => ?_) ?_ upd_same p
      · rw [upd_ne z2]; exact ho b z2
      · rw [upd_ne n1]; exact ht
end
section
variable {P : Program} {w : World} {K : Kf} {mg : Str → Option Value} {base : Heap}
theorem okDraw {st : Stmt} (T : Def K mg "_law_draw" st ["tape", "many"]) (S : FnScope ["tape", "many", "cells", "number"] ["tape", "many"] (defScope st))
    (hbody : ∀ (f : Addr) (cdv : Value) (A : Around) (outer : List PySem.Env) (s : Shared) (H : Hp) (E : XK),
      PassesOwn (model P w) (BX P w K mg base ["tape", "many", "cells", "number"] "_law_draw" (defScope st) f cdv A outer s H E).A (BX P w K mg base ["tape", "many", "cells", "number"] "_law_draw" (defScope st) f cdv A outer s H E).env (BX P w K mg base ["tape", "many", "cells", "number"] "_law_draw" (defScope st) f cdv A outer s H E).xe →
      ∃ t, PSs (BX P w K mg base ["tape", "many", "cells", "number"] "_law_draw" (defScope st) f cdv A outer s H E) (defBody st) t ∧ t = tDraw K) : OkF P w K mg base "_law_draw" ["tape", "many"] 1 2 denDraw := by
  obtain ⟨f, fd, F⟩ := T
  refine ⟨f, fd, F.g, F.F.kp, F.b, ?_⟩
  exact F.F.okX S (fun vs H Q E h => by rw [SpD.len h]; rfl) fun cdv A outer s H vs Q E hr h => by
    obtain ⟨t, h1, rfl⟩ := hbody f cdv A outer s H E (passes_of rfl)
    exact ⟨_, h1, draw_run h⟩
/-- nothing is promised -/
theorem dss_stuck {X : Cx} {W : WX} {sts : List Stmt} : DSs X W sts (fun _ _ => .stuck) := ⟨fun pins s σ H D I q => by
  obtain ⟨F0, H0, τ0, F, τ, T, δ, _, p⟩ := q
  exact p.elim⟩
/-- a def that calls itself, to a depth -/
def fixD (n : Nat) (F : (List D → Mo D) → List D → Mo D) : List D → Mo D := Nat.rec (motive := fun _ => List D → Mo D) (fun _ _ => .stuck) (fun _ r => F r) n
theorem fixD_succ (n : Nat) (F : (List D → Mo D) → List D → Mo D) : fixD (n + 1) F = F (fixD n F) := rfl
theorem okFix {x : Str} {st : Stmt} {N ps : List Str} {m k j : Nat} {g : (List D → Mo D) → SD} (T : Def K mg x st ps) (S : FnScope N ps (defScope st)) (hn : ps.length = m) (hk : N.length = m + k)
    (hbody : ∀ (i : Nat) (den : List D → Mo D), j ≤ i → OkF P w K mg base x ps i m den → ∀ (f : Addr) (cdv : Value) (A : Around) (outer : List PySem.Env) (s : Shared) (H : Hp) (E : XK), Room i (BX P w K mg base N x (defScope st) f cdv A outer s H E).A → (BX P w K mg base N x (defScope st) f cdv A outer s H E).A.units + 64 < cLine → Takes (BX P w K mg base N x (defScope st) f cdv A outer s H E) (WF E) →
      PassesOwn (model P w) (BX P w K mg base N x (defScope st) f cdv A outer s H E).A (BX P w K mg base N x (defScope st) f cdv A outer s H E).env (BX P w K mg base N x (defScope st) f cdv A outer s H E).xe →
      DSs (BX P w K mg base N x (defScope st) f cdv A outer s H E) (WF E) (defBody st) (g den)) : ∀ n, OkF P w K mg base x ps (j + 1 + n) m (fixD n fun den => runD k (g den))
  | 0 => by
    have h := okF (P := P) (w := w) (base := base) (j := j) (g := fun _ _ => .stuck) T S hn hk fun f cdv A outer s H E hr hu tk po => dss_stuck
    have e : runD k (fun _ _ => OS.stuck) = fun _ _ => Out.stuck := rfl
    rw [e] at h
    exact h
  | n + 1 => by
    have ih := okFix T S hn hk hbody n
    exact okF (j := j + 1 + n) T S hn hk fun f cdv A outer s H E hr hu tk po => hbody _ _ (by omega) ih f cdv A outer s H E hr hu tk po
end
/-! ### the draws reckoned -/
theorem drawOk_of {m : Nat} (h : 0 < m) (h' : m < 1000000000000) : drawOk (m : Int) = true := by
  unfold drawOk
  rw [Bool.and_eq_true, posI_eq, Nat.blt_eq]
  omega
theorem draw_den {m : Nat} (h : 0 < m) (h' : m < 1000000000000) (x : Tape) : ∃ r : Nat, r < m ∧ ∃ x', denDraw [.tape, .int m] (some x) = .ok (.int r) (some x') := by
  have e : denDraw [.tape, .int m] (some x) = drawT m x := by
    show (if drawOk (m : Int) = true then drawT m x else .stuck) = _
    rw [if_pos (drawOk_of h h')]
  rw [e]
  unfold drawT
  cases zeros x.cells with
  | nil =>
    refine ⟨((x.seed * 48271 + 12345) % 2147483647 / 64 % (m : Int)).toNat, ?_, ⟨[], (x.seed * 48271 + 12345) % 2147483647⟩, ?_⟩
    · have h1 := Int.emod_lt_of_pos ((x.seed * 48271 + 12345) % 2147483647 / 64) (show (0 : Int) < m by omega)
      omega
    · have h1 := Int.emod_nonneg ((x.seed * 48271 + 12345) % 2147483647 / 64) (show (m : Int) ≠ 0 by omega)
      rw [Int.toNat_of_nonneg h1]
  | cons c r =>
    refine ⟨(c % (m : Int)).toNat, ?_, ⟨c / m :: r, x.seed⟩, ?_⟩
    · have h1 := Int.emod_lt_of_pos c (show (0 : Int) < m by omega)
      omega
    · have h1 := Int.emod_nonneg c (show (m : Int) ≠ 0 by omega)
      rw [Int.toNat_of_nonneg h1]
def pickB : SD := sRet (dBin oIx (dV 1) (dCall 2 denDraw (aC (dV 0) (aC (dB oLen (aC (dV 1) (aN))) (aN)))))
theorem pick_den (ds : List D) (h : 0 < ds.length) (h' : ds.length < 1000000) (x : Tape) : ∃ d ∈ ds, ∃ x', runD 0 pickB [.tape, .lst ds] (some x) = .ok d (some x') := by
  obtain ⟨r, hr, x', e⟩ := draw_den (m := ds.length) h (by omega) x
  have ei : atI ds ((r : Nat) : Int) = some ds[r] := by
    have : ixN ds.length ((r : Nat) : Int) = some r := by
      unfold ixN
      simp
      omega
    unfold atI
    rw [this]
    exact List.getElem?_eq_getElem hr
  refine ⟨ds[r], List.getElem_mem _, x', ?_⟩
  simp [runD_a, pickB, e, ei]
/-! ### own lists in a tuple assignment -/
section
variable {K : Kf} {W : WX} {X : Cx} {a b c : Expr} {pos : Pos} {f g h : DEnv → Mo D} {fa : DEnv → Mo (List D)}
/-- x, y = fresh list, e -/
def sAsgL (i j : Nat) (fa : DEnv → Mo (List D)) (f : DEnv → Mo D) : SD := fun δ T => (fa δ T).st δ fun ds T1 => (f δ T1).st δ fun d T2 => .nx ((δ.set i (.own ds)).set j (.val d)) T2
theorem cL_pair {mg : Str → Option Value} {i j : Nat} (hij : i ≠ j) {D : Ends} {σ : L2.St} {H : Hp} (q : cS K mg W (sAsgL i j fa f) D σ H) (R : List V → Hp → Prop)
    (k : ∀ (p : Addr) (v : V) (H2 : Hp), (∀ H3, (∀ b o, H2 b = some o → H3 b = some o) → (∀ b, H3 b = none → H2 b = none) → D.nx ((σ.set i (some (.ref p))).set j (some v)) H3) → R [.ref p, v] H2) :
    tCons (cL K mg W fa) (tCons (cG K mg W (Rep K) f) tNil) σ H R := by
  obtain ⟨F0, H0, τ0, F, τ, T, δ, s, p⟩ := q
  unfold sAsgL at p
  refine ⟨F0, H0, τ0, F, τ, T, δ, s, ?_⟩
  cases e : fa δ T with
  | exc x T1 =>
    rw [e] at p
    exact fun c dd F' H' τ' go tp ex => p c dd F' H' τ' σ (s.step go tp) ex
  | stuck => rw [e] at p; exact p
  | ok ds T1 =>
    rw [e] at p
    intro q vs F1 H1 τ1 go tp k1 k2 k3 k4 k5
    have s1 := s.step go tp
    refine ⟨F0, H0, τ0, F1, τ1, T1, δ, s1, ?_⟩
    have p : PstS K mg W F0 H0 τ0 D ((f δ T1).st δ fun d T2 => .nx ((δ.set i (.own ds)).set j (.val d)) T2) := p
    cases e2 : f δ T1 with
    | exc x T2 =>
      rw [e2] at p
      exact fun c dd F' H' τ' go tp ex => p c dd F' H' τ' σ (s1.step go tp) ex
    | stuck => rw [e2] at p; exact p
    | ok d T2 =>
      rw [e2] at p
      intro v F2 H2 τ2 go2 tp2 r2
      refine k q v H2 fun H3 hk hd => ?_
      have p : ∀ F H τ σ, SR K F0 H0 τ0 F H τ T2 ((δ.set i (.own ds)).set j (.val d)) σ → D.nx σ H := p
      have s2 := s1.step go2 tp2
      have go3 : Go F2 H2 τ2 F2 H3 τ2 := ⟨fun _ _ e => e, fun b o e => hk _ _ (go2.fh _ _ e), fun b o e _ => hk _ _ e, hd, fun _ _ e => .inl e, .inl rfl⟩
      have tp3 : TapeOk τ2 T2 H3 := tp2.same fun t e => by
        obtain ⟨⟨o1, h1⟩, ⟨o2, h2⟩⟩ := tp2.there e
        exact ⟨(hk _ _ h1).trans h1.symm, (hk _ _ h2).trans h2.symm⟩
      have s3 := s2.step go3 tp3
      have hq1 := go2.hh _ _ k1 k5
      refine p F2 H3 τ2 _ ((s3.setOwn (p := q) (hk _ _ hq1) (k2.mono go2.ff go2.tm) (go2.fnone k3 k1) ?_ (go2.off k1 k5) fun jj es ej z => ?_).set r2)
      · exact s.go.dom _ k4
      · obtain ⟨a, us, z1, z2, _⟩ := s.own jj es ej
        rw [z1] at z
        cases z
        rw [k4] at z2; cases z2
theorem ds_asgL (i j : Nat) {x y : Str} {px py pt : Pos} {kt k2 : Nat} {pt2 : Pos} (hc : X.calm = true) (hN : X.N.Nodup) (ha : DL X W a fa) (hb : DE X W b f) (hi : X.N[i]? = some x := by rfl) (hj : X.N[j]? = some y := by rfl) (hij : i ≠ j := by decide)
    (hx : Loc X.env.scope x := by first | exact Or.inl rfl | exact Or.inr rfl) (hy : Loc X.env.scope y := by first | exact Or.inl rfl | exact Or.inr rfl) (hfx : X.fn x = true ∨ X.env.scope.names.lookup x = some .local := by first | exact .inl rfl | exact .inr rfl | assumption) (hfy : X.fn y = true ∨ X.env.scope.names.lookup y = some .local := by first | exact .inl rfl | exact .inr rfl | assumption)
    (hs1 : starEach [a, b] X.env = (false, eval a X.env) :: starEach [b] X.env := by rfl) (hs2 : starEach [b] X.env = (false, eval b X.env) :: starEach [] X.env := by rfl)
    (hs : swapsWithSole [.Tuple [.Name x px, .Name y py] kt pt] (.Tuple [a, b] k2 pt2) pos.line X.env = pure false := by rfl) (hw : swappedStores [.Tuple [.Name x px, .Name y py] kt pt] (.Tuple [a, b] k2 pt2) X.env = pure none := by rfl)
    (h1 : (assignEach [.Tuple [.Name x px, .Name y py] kt pt] X.env).map (·.2) = [assign (.Tuple [.Name x px, .Name y py] kt pt) X.env] := by rfl)
    (hn : (assignEach [.Name x px, .Name y py] X.env).length = 2 := by rfl) (hst : (assignEach [.Name x px, .Name y py] X.env).findIdx? (·.1) = none := by rfl)
    (g1 : (assignEach [.Name x px, .Name y py] X.env).map (·.2) = assign (.Name x px) X.env :: (assignEach [.Name y py] X.env).map (·.2) := by rfl) (g2 : (assignEach [.Name y py] X.env).map (·.2) = assign (.Name y py) X.env :: (assignEach [] X.env).map (·.2) := by rfl) :
    DS X W (.Assign [.Tuple [.Name x px, .Name y py] kt pt] (.Tuple [a, b] k2 pt2) pos) (sAsgL i j fa f) :=
  ps_imp (ps_asg (pe_tup (pa_cons ha (pa_cons hb pa_nil hs2) hs1)) (pg_tup hc (pgs_cons (pg_name hN hi hx hfx) (pgs_cons (pg_name hN hj hy hfy) pgs_nil g2) g1) hn hst) hs hw h1) fun D σ H q => by
    unfold tAsg tTup
    refine cL_pair hij q _ fun p v H2 k => ⟨by show 2 ≤ sizeLine; rw [sizeLine_eq]; decide, fun l hl => ?_⟩
    refine ⟨l, _, rfl, .inl (.inl upd_same), rfl, _, _, rfl, _, _, rfl, rfl, ?_⟩
    refine k _ (fun b o e => ?_) fun b e => ?_
    · rw [upd_ne (ne_of_none e hl)]; exact e
    · by_cases z : b = l
      · subst z; exact hl
      · rw [upd_ne z] at e; exact e
/-- x, y = fresh list, e: both local -/
theorem ds_parL (i j : Nat) {x y : Str} {px py pt : Pos} {kt k2 : Nat} {pt2 : Pos} (hc : X.calm = true) (hN : X.N.Nodup) (ha : DL X W a fa) (hb : DE X W b f) (hi : X.N[i]? = some x := by rfl) (hj : X.N[j]? = some y := by rfl) (hij : i ≠ j := by decide)
    (hx : X.env.scope.names.lookup x = some .local := by rfl) (hy : X.env.scope.names.lookup y = some .local := by rfl) (hs1 : starEach [a, b] X.env = (false, eval a X.env) :: starEach [b] X.env := by rfl) (hs2 : starEach [b] X.env = (false, eval b X.env) :: starEach [] X.env := by rfl)
    (hw : swappedStores [.Tuple [.Name x px, .Name y py] kt pt] (.Tuple [a, b] k2 pt2) X.env = pure (some [x, y]) := by rfl)
    (hs : swapsWithSole [.Tuple [.Name x px, .Name y py] kt pt] (.Tuple [a, b] k2 pt2) pos.line X.env = pure false := by rfl) :
    DS X W (.Assign [.Tuple [.Name x px, .Name y py] kt pt] (.Tuple [a, b] k2 pt2) pos) (sAsgL i j fa f) := ps_imp (ps_par hc hN hi hj hij hx hy (pa_cons ha (pa_cons hb pa_nil hs2) hs1) hw hs) fun D σ H q => by
  refine cL_pair hij q _ fun p v H2 k => ⟨.ref p, v, rfl, k H2 (fun _ _ e => e) fun _ e => e⟩
end
end DD

/-! DD13: the later denotations reckoned. -/
namespace DD
open PySem PySem.Spec PyProof.Rows L2
section
variable {K : Kf} {W : WX} {X : Cx} {es : List Expr} {fa : DEnv → Mo (List D)}
theorem da_bor (i : Nat) (h : DA X W es fa) : DA X W es (borA i fa) := pa_imp h fun σ H Q q => cbor (fun F τ x v a ws => fun h1 h2 h3 => reps_del h1 h2 h3) q
end
section
variable {α β : Type} {δ : DEnv} {T : Option Tape} {f g h : DEnv → Mo D} {fa : DEnv → Mo (List D)} {t u : DEnv → Mo Bool} {g1 g2 b : SD}
@[simp] theorem ownL_zero (ds : List D) (r : DEnv) : ownL (Sl.own ds :: r) 0 = some ds := id rfl
@[simp] theorem ownL_un (r : DEnv) : ownL (Sl.un :: r) 0 = none := id rfl
@[simp] theorem ownL_val (d : D) (r : DEnv) : ownL (Sl.val d :: r) 0 = none := id rfl
@[simp] theorem ownL_succ (i : Nat) (x : Sl) (r : DEnv) : ownL (x :: r) (i + 1) = ownL r i := id rfl
@[simp] theorem borG_a (chk : α → Bool) (i : Nat) (f : DEnv → Mo α) : borG chk i f δ T = (ownL δ i).elim (f δ T) fun ds => (f (δ.set i (.val (.lst ds))) T).bind fun d T1 => chkO (chk d) (.ok d T1) := id rfl
@[simp] theorem chkO_true (o : Out α) : chkO true o = o := id rfl
@[simp] theorem chkO_false (o : Out α) : chkO false o = .stuck := id rfl
@[simp] theorem noL_non : noL .non = true := id rfl
@[simp] theorem noL_bl (x : Bool) : noL (.bl x) = true := id rfl
@[simp] theorem noL_int (x : Int) : noL (.int x) = true := id rfl
@[simp] theorem noL_str (x : Str) : noL (.str x) = true := id rfl
@[simp] theorem noL_tup (x : List D) : noL (.tup x) = noLs x := id rfl
@[simp] theorem noL_tape : noL .tape = true := id rfl
@[simp] theorem noLs_nil : noLs [] = true := id rfl
@[simp] theorem noLs_cons (x : D) (r : List D) : noLs (x :: r) = (noL x && noLs r) := id rfl
@[simp] theorem lstO_lst (ds : List D) : lstO (.lst ds) = some ds := id rfl
@[simp] theorem sApp_a (i : Nat) : sApp i f δ T = (ownL δ i).elim .stuck fun ds => (f δ T).st δ fun d T1 => if ds.length < line then .nx (δ.set i (.own (ds ++ [d]))) T1 else .stuck := id rfl
@[simp] theorem sExt_a (i : Nat) : sExt i f δ T = (ownL δ i).elim .stuck fun ds => (f δ T).st δ fun d T1 => (lstO d).elim .stuck fun es => if ds.length + es.length < line then .nx (δ.set i (.own (ds ++ es))) T1 else .stuck := id rfl
@[simp] theorem sSetAt_a (i : Nat) : sSetAt i f g δ T = (ownL δ i).elim .stuck fun ds => (f δ T).st δ fun d T1 => (g δ T1).st δ fun k T2 => (asI k).elim .stuck fun n => (ixN ds.length n).elim .stuck fun j => .nx (δ.set i (.own (ds.set j d))) T2 := id rfl
@[simp] theorem sFrz_a (i : Nat) : sFrz i g1 δ T = g1 (frz i δ) T := id rfl
theorem frz_own {i : Nat} {ds : List D} (h : ownL δ i = some ds) : frz i δ = δ.set i (.val (.lst ds)) := by
  unfold frz
  rw [ownL_eq h]
theorem frz_no {i : Nat} (h : ownL δ i = none) : frz i δ = δ := by
  unfold frz
  unfold ownL at h
  cases e : δ[i]? with
  | none => rfl
  | some x => cases x with
    | un => rfl
    | val d => rfl
    | own ds => rw [e] at h; cases h
@[simp] theorem lList_a : lList f δ T = (f δ T).bind fun x T1 => lift (seqOf x) T1 := id rfl
@[simp] theorem lCat_a : lCat f g δ T = (f δ T).bind fun x T1 => (g δ T1).bind fun y T2 => (lift (lstO x) T2).bind fun xs T3 => (lift (lstO y) T3).bind fun ys T4 => chkO (Nat.blt (xs.length + ys.length) line) (.ok (xs ++ ys) T4) := id rfl
@[simp] theorem dPart_a : dPart f δ T = (f δ T).bind fun x T1 => (lift (asI x) T1).bind fun i T2 => .ok (some i) T2 := id rfl
@[simp] theorem dNoPart_a : dNoPart δ T = .ok none T := id rfl
@[simp] theorem dSl_a (lo hi : DEnv → Mo (Option Int)) : dSl f lo hi δ T = (f δ T).bind fun x T1 => (lo δ T1).bind fun l T2 => (hi δ T2).bind fun u T3 => lift (cutO x l u) T3 := id rfl
@[simp] theorem cutO_tup (ds : List D) (lo hi : Option Int) : cutO (.tup ds) lo hi = some (.tup (cutD ds lo hi)) := id rfl
@[simp] theorem cutO_lst (ds : List D) (lo hi : Option Int) : cutO (.lst ds) lo hi = some (.lst (cutD ds lo hi)) := id rfl
@[simp] theorem dRv_a (lo : DEnv → Mo (Option Int)) : dRv f lo δ T = (f δ T).bind fun x T1 => (lo δ T1).bind fun l T2 => lift (rvO x l) T2 := id rfl
theorem rvO_tup (ds : List D) (lo : Option Int) : rvO (.tup ds) lo = some (.tup (ds.take (HT.rvN ds.length lo)).reverse) := id rfl
@[simp] theorem rvO_all (ds : List D) : rvO (.tup ds) none = some (.tup ds.reverse) := by
  rw [rvO_tup]
  show some (D.tup (ds.take ds.length).reverse) = _
  rw [List.take_length]
@[simp] theorem lRev_a : lRev f δ T = (f δ T).bind fun x T1 => (lift (lstO x) T1).bind fun ds T2 => .ok ds.reverse T2 := id rfl
@[simp] theorem dChain_a (o o' : D → D → Option D) : dChain o o' f g h δ T = (f δ T).bind fun x T1 => (g δ T1).bind fun y T2 => (lift ((o x y).bind asB) T2).bind fun k T3 => if k = true then (h δ T3).bind fun z T4 => lift (o' y z) T4 else .ok (.bl false) T3 := id rfl
@[simp] theorem dTape_a : dTape fa f δ T = (fa δ T).bind fun ds T1 => (f δ T1).bind fun x T2 => mkTape ds x T2 := id rfl
@[simp] theorem sAsgL_a (i j : Nat) : sAsgL i j fa f δ T = (fa δ T).st δ fun ds T1 => (f δ T1).st δ fun d T2 => .nx ((δ.set i (.own ds)).set j (.val d)) T2 := id rfl
@[simp] theorem lLc_a (fi : DEnv → Mo (List D)) (tg : TgD) (vs : List Nat) : lLc fi tg t f vs δ T = (fi δ T).bind fun ds T1 => if ds.length < line then lcD tg t f (wipeD δ vs) ds [] T1 else .stuck := id rfl
@[simp] theorem lcD_nil (tg : TgD) (acc : List D) : lcD tg t f δ [] acc T = .ok acc T := id rfl
theorem lcD_cons (tg : TgD) (d : D) (ds acc : List D) : lcD tg t f δ (d :: ds) acc T = (tg d δ).elim .stuck fun δ' => (t δ' T).bindQ fun b T1 => if b = true then (f δ' T1).bindQ fun y T2 => lcD tg t f δ ds (acc ++ [y]) T2 else lcD tg t f δ ds acc T1 := id rfl
@[simp] theorem tYesD_a : tYesD δ T = .ok true T := id rfl
@[simp] theorem wipeD_nil : wipeD δ [] = δ := id rfl
@[simp] theorem wipeD_cons (v : Nat) (vs : List Nat) : wipeD δ (v :: vs) = (wipeD δ vs).set v .un := id rfl
/-- a comprehension without an if, each element by a function -/
theorem lcD_map (i : Nat) (F : D → D) : ∀ (ds acc : List D), (∀ d ∈ ds, ∀ T, f (δ.set i (.val d)) T = .ok (F d) T) → lcD (tgN i) tYesD f δ ds acc T = .ok (acc ++ ds.map F) T
  | [], acc, _ => by simp
  | d :: ds, acc, h => by
    have ih := fun acc' => lcD_map i F ds acc' fun e he => h e (List.mem_cons_of_mem _ he)
    rw [lcD_cons]
    simp [h d List.mem_cons_self T, ih]
end
/-! ### the tape of a script -/
theorem intsOf_map : ∀ ns : List Int, intsOf (ns.map .int) = some ns
  | [] => rfl
  | n :: r => by
    show (intsOf (r.map .int)).map (n :: ·) = _
    rw [intsOf_map r]
    rfl
def tapeFor : SD := sSet 1 (dBin oMod (dB oInt (aC (dBin oAdd (dBin oMul (dV 1) (dC (.int 31))) (dV 2)) (aN))) (dC (.int 1000003)))
def tapeEl : DEnv → Mo D := dB oAbs (aC (dB oInt (aC (dV 2) (aN))) (aN))
def tapeB : SD := sSeq (sSet 1 (dC (.int 7))) (sSeq (sFor (iLst (dV 0)) (tgN 2) tapeFor) (sRet (dTape (lLc (iLst (dV 0)) (tgN 2) (tYesD) tapeEl [2]) (dBin oAdd (dV 1) (dC (.int 1))))))
theorem tape_for (a : Sl) : ∀ (ns : List Int) (sd : Int) (s2 : Sl) (T : Option Tape), ∃ sd' s2', forD (tgN 2) tapeFor (ns.map .int) [a, .val (.int sd), s2] T = .nx [a, .val (.int sd'), s2'] T
  | [], sd, s2, T => ⟨sd, s2, rfl⟩
  | n :: r, sd, s2, T => by
    obtain ⟨x, y, e⟩ := tape_for a r ((sd * 31 + n) % 1000003) (.val (.int n)) T
    refine ⟨x, y, ?_⟩
    rw [List.map_cons, forD_cons]
    simp [tapeFor, oMul_r, oMod_i]
    exact e
theorem tape_den (ns : List Int) (h : ns.length < 1000) : ∃ x, runD 2 tapeB [.scr ns] none = .ok .tape (some x) := by
  obtain ⟨sd, s2, e⟩ := tape_for (.val (.scr ns)) ns 7 .un none
  have hl : ns.length < line := line_pos _ h
  have e2 := lcD_map (f := tapeEl) (δ := [.val (.scr ns), .val (.int sd), .un]) (T := none) 2 (fun d => match d with | .int i => .int (if i < 0 then -i else i) | x => x) (ns.map .int) [] fun d hd T => by
    obtain ⟨n, _, rfl⟩ := List.mem_map.mp hd
    simp [tapeEl]
  have e3 : (ns.map D.int).map (fun d => match d with | .int i => D.int (if i < 0 then -i else i) | x => x) = (ns.map fun i => if i < 0 then -i else i).map .int := by
    rw [List.map_map, List.map_map]
    rfl
  rw [e3, List.nil_append] at e2
  refine ⟨⟨ns.map fun i => if i < 0 then -i else i, sd + 1⟩, ?_⟩
  have e4 := intsOf_map (ns.map fun i => if i < 0 then -i else i)
  simp [runD_a, tapeB, e, hl, e2]
  unfold mkTape
  simp only [List.map_map] at e4
  simp [e4]
@[simp] theorem oTuple_a (x : D) : oTuple [x] = (seqOf x).map fun ds => .tup ds := id rfl
@[simp] theorem oSum_a (x : D) : oSum [x] = (lstOf x).bind fun ds => (intsOf ds).map fun ns => .int ns.sum := id rfl
@[simp] theorem oAll_a (x : D) : oAll [x] = (lstOf x).bind fun ds => (blsOf ds).map fun ns => .bl (ns.all id) := id rfl
@[simp] theorem oAny_a (x : D) : oAny [x] = (lstOf x).bind fun ds => (blsOf ds).map fun ns => .bl (ns.any id) := id rfl
theorem blsOf_map : ∀ ns : List Bool, blsOf (ns.map .bl) = some ns
  | [] => rfl
  | n :: r => by
    show (blsOf (r.map .bl)).map (n :: ·) = _
    rw [blsOf_map r]
    rfl
theorem ix_at (ds : List D) (k : Nat) (h : k < ds.length) : atI ds ((k : Nat) : Int) = some ds[k] := by
  have : ixN ds.length ((k : Nat) : Int) = some k := by
    unfold ixN
    simp
    omega
  unfold atI
  rw [this]
  exact List.getElem?_eq_getElem h
end DD

namespace K77
open PySem PySem.Spec PyProof.Rows L2 DD
def topS (i : Nat) : Stmt := PySem.Challenge.pw_chordkeep_k77_whole_parts_of_hidden_numb.main.body.getD i (.Pass ⟨0, 0, 0, 0⟩)
abbrev st_bezout : Stmt := topS 4
abbrev st_inverse : Stmt := topS 5
abbrev st_parts_of : Stmt := topS 7
abbrev st_joined : Stmt := topS 8
abbrev st_law_tape : Stmt := topS 10
abbrev st_law_draw : Stmt := topS 11
abbrev st_law_pick : Stmt := topS 12
abbrev st_law_same : Stmt := topS 13
abbrev st_law_inverse : Stmt := topS 14
abbrev st_law_value : Stmt := topS 15
abbrev st_law_constant : Stmt := topS 16
abbrev st_law : Stmt := topS 17
/-- what the top has written -/
structure Top (K : Kf) (mg : Str → Option Value) : Prop where
  b_abs : mg "abs" = none
  b_all : mg "all" = none
  b_bool : mg "bool" = none
  b_int : mg "int" = none
  b_isinstance : mg "isinstance" = none
  b_len : mg "len" = none
  b_min : mg "min" = none
  b_range : mg "range" = none
  b_str : mg "str" = none
  b_tuple : mg "tuple" = none
  x_BadNumber : Xcs K mg "BadNumber"
  d_bezout : Def K mg "bezout" st_bezout ["one", "other"]
  d_inverse : Def K mg "inverse" st_inverse ["number", "modulus"]
  d_parts_of : Def K mg "parts_of" st_parts_of ["hidden", "order", "places", "blinds"]
  d_joined : Def K mg "joined" st_joined ["parts", "order"]
  d_law_tape : Def K mg "_law_tape" st_law_tape ["script"]
  d_law_draw : Def K mg "_law_draw" st_law_draw ["tape", "many"]
  d_law_pick : Def K mg "_law_pick" st_law_pick ["tape", "row"]
  d_law_same : Def K mg "_law_same" st_law_same ["actual", "due"]
  d_law_inverse : Def K mg "_law_inverse" st_law_inverse ["number", "modulus"]
  d_law_value : Def K mg "_law_value" st_law_value ["order", "numbers", "place"]
  d_law_constant : Def K mg "_law_constant" st_law_constant ["order", "parts"]
  d_law : Def K mg "law" st_law ["script"]
section
variable {P : Program} {w : World} {K : Kf} {mg : Str → Option Value} {base : Heap}
/-! ### bezout: slots 0 one, 1 other, 2 step, 3 left, 4 first, 5 second, 6 right, 7 part -/
theorem sc_bezout : FnScope ["one", "other", "step", "left", "first", "second", "right", "part"] ["one", "other"] (defScope st_bezout) := ⟨rfl, rfl, rfl, by decide +kernel, rfl, by decide +kernel, by decide +kernel⟩
def wc_bezout_1 : DEnv → Mo Bool := dTv (dBin (oNe) (dV 5) (dC (.int 0)))
theorem wc_bezout_1_eq (δ : DEnv) (T : Option Tape) : wc_bezout_1 δ T = (dTv (dBin (oNe) (dV 5) (dC (.int 0)))) δ T := id rfl
def wb_bezout_1 : SD := sSeq (sSet 7 (dBin oDiv (dV 4) (dV 5))) (sSeq (sPar 4 5 (dV 5) (dBin oSub (dV 4) (dBin oMul (dV 7) (dV 5)))) (sPar 3 6 (dV 6) (dBin oSub (dV 3) (dBin oMul (dV 7) (dV 6)))))
theorem wb_bezout_1_eq (δ : DEnv) (T : Option Tape) : wb_bezout_1 δ T = (sSeq (sSet 7 (dBin oDiv (dV 4) (dV 5))) (sSeq (sPar 4 5 (dV 5) (dBin oSub (dV 4) (dBin oMul (dV 7) (dV 5)))) (sPar 3 6 (dV 6) (dBin oSub (dV 3) (dBin oMul (dV 7) (dV 6)))))) δ T := id rfl
def body_bezout : SD := sSeq (sAsg (tgT 4 (tgCons (tgN 4) (tgCons (tgN 5) (tgCons (tgN 3) (tgCons (tgN 6) (tgNil)))))) (dTup (aC (dV 0) (aC (dV 1) (aC (dC (.int 1)) (aC (dC (.int 0)) (aN))))))) (sSeq (sWhile wc_bezout_1 wb_bezout_1) (sSeq (sIf (dTv (dBin (oLt) (dV 4) (dC (.int 0)))) (sPar 4 3 (dUn oNeg (dV 4)) (dUn oNeg (dV 3))) (sNext)) (sSeq (sIf (dTv (dBin (oEq) (dV 1) (dC (.int 0)))) (sRet (dTup (aC (dV 4) (aC (dV 3) (aC (dC (.int 0)) (aN)))))) (sNext)) (sSeq (sSet 2 (dBin oDiv (dB oAbs (aC (dV 1) (aN))) (dV 4))) (sSeq (sSet 3 (dBin oMod (dV 3) (dV 2))) (sRet (dTup (aC (dV 4) (aC (dV 3) (aC (dBin oDiv (dBin oSub (dV 4) (dBin oMul (dV 0) (dV 3))) (dV 1)) (aN)))))))))))
theorem body_bezout_eq (δ : DEnv) (T : Option Tape) : body_bezout δ T = (sSeq (sAsg (tgT 4 (tgCons (tgN 4) (tgCons (tgN 5) (tgCons (tgN 3) (tgCons (tgN 6) (tgNil)))))) (dTup (aC (dV 0) (aC (dV 1) (aC (dC (.int 1)) (aC (dC (.int 0)) (aN))))))) (sSeq (sWhile wc_bezout_1 wb_bezout_1) (sSeq (sIf (dTv (dBin (oLt) (dV 4) (dC (.int 0)))) (sPar 4 3 (dUn oNeg (dV 4)) (dUn oNeg (dV 3))) (sNext)) (sSeq (sIf (dTv (dBin (oEq) (dV 1) (dC (.int 0)))) (sRet (dTup (aC (dV 4) (aC (dV 3) (aC (dC (.int 0)) (aN)))))) (sNext)) (sSeq (sSet 2 (dBin oDiv (dB oAbs (aC (dV 1) (aN))) (dV 4))) (sSeq (sSet 3 (dBin oMod (dV 3) (dV 2))) (sRet (dTup (aC (dV 4) (aC (dV 3) (aC (dBin oDiv (dBin oSub (dV 4) (dBin oMul (dV 0) (dV 3))) (dV 1)) (aN)))))))))))) δ T := id rfl
def den_bezout : List D → Mo D := runD 6 body_bezout
theorem ok_bezout (T : Top K mg) : OkF P w K mg base "bezout" ["one", "other"] 1 2 den_bezout :=
  okF (j := 0) T.d_bezout sc_bezout rfl rfl fun f cdv A outer s H E hr hu tk po => by
    have hN := sc_bezout.nd
    exact (dss_cons (ds_asg (de_tup (da_cons (de_v 0) (da_cons (de_v 1) (da_cons de_int (da_cons de_int da_nil))))) (dg_tup rfl (dgs_cons (dg_name 4 hN) (dgs_cons (dg_name 5 hN) (dgs_cons (dg_name 3 hN) (dgs_cons (dg_name 6 hN) dgs_nil)))))) (dss_cons (ds_while po (dt_cmp (op_neD hu) opd_ne (de_v 5) de_int (nomark _)) (dss_cons (ds_set 7 hN (de_bin op_fdivW opd_div (de_v 4) (de_v 5))) (dss_cons (ds_par 4 5 rfl hN (de_v 5) (de_bin op_sub opd_sub (de_v 4) (de_bin op_mul opd_mul (de_v 7) (de_v 5)))) (dss_one (ds_par 3 6 rfl hN (de_v 6) (de_bin op_sub opd_sub (de_v 3) (de_bin op_mul opd_mul (de_v 7) (de_v 6)))))))) (dss_cons (ds_if (dt_cmp op_lt opd_lt (de_v 4) de_int (nomark _)) (dss_one (ds_par 4 3 rfl hN (de_un un_neg und_neg (de_v 4)) (de_un un_neg und_neg (de_v 3)))) dss_nil) (dss_cons (ds_if (dt_cmp (op_eqD hu) opd_eq (de_v 1) de_int (nomark _)) (dss_one (ds_ret (de_tup (da_cons (de_v 4) (da_cons (de_v 3) (da_cons de_int da_nil)))))) dss_nil) (dss_cons (ds_set 2 hN (de_bin op_fdivW opd_div (de_b call_abs cd_abs T.b_abs boot_abs (da_cons (de_v 1) da_nil)) (de_v 4))) (dss_cons (ds_set 3 hN (de_bin op_mod opd_mod (de_v 3) (de_v 2))) (dss_one (ds_ret (de_tup (da_cons (de_v 4) (da_cons (de_v 3) (da_cons (de_bin op_fdivW opd_div (de_bin op_sub opd_sub (de_v 4) (de_bin op_mul opd_mul (de_v 0) (de_v 3))) (de_v 1)) da_nil))))))))))))
/-! ### inverse: slots 0 number, 1 modulus, 2 found, 3 left, 4 _ -/
theorem sc_inverse : FnScope ["number", "modulus", "found", "left", "_"] ["number", "modulus"] (defScope st_inverse) := ⟨rfl, rfl, rfl, by decide +kernel, rfl, by decide +kernel, by decide +kernel⟩
def body_inverse : SD := sSeq (sAsg (tgT 3 (tgCons (tgN 2) (tgCons (tgN 3) (tgCons (tgN 4) (tgNil))))) (dCall 2 den_bezout (aC (dBin oMod (dV 0) (dV 1)) (aC (dV 1) (aN))))) (sSeq (sIf (dTv (dBin (oNe) (dV 2) (dC (.int 1)))) (sRaise (PySem.Str.ofString "BadNumber")) (sNext)) (sRet (dBin oMod (dV 3) (dV 1))))
theorem body_inverse_eq (δ : DEnv) (T : Option Tape) : body_inverse δ T = (sSeq (sAsg (tgT 3 (tgCons (tgN 2) (tgCons (tgN 3) (tgCons (tgN 4) (tgNil))))) (dCall 2 den_bezout (aC (dBin oMod (dV 0) (dV 1)) (aC (dV 1) (aN))))) (sSeq (sIf (dTv (dBin (oNe) (dV 2) (dC (.int 1)))) (sRaise (PySem.Str.ofString "BadNumber")) (sNext)) (sRet (dBin oMod (dV 3) (dV 1))))) δ T := id rfl
def den_inverse : List D → Mo D := runD 3 body_inverse
theorem ok_inverse (T : Top K mg) (G_bezout : OkF P w K mg base "bezout" ["one", "other"] 1 2 den_bezout) : OkF P w K mg base "inverse" ["number", "modulus"] 2 2 den_inverse :=
  okF (j := 1) T.d_inverse sc_inverse rfl rfl fun f cdv A outer s H E hr hu tk po => by
    have hN := sc_inverse.nd
    exact (dss_cons (ds_asg (de_f tk G_bezout hr (da_cons (de_bin op_mod opd_mod (de_v 0) (de_v 1)) (da_cons (de_v 1) da_nil))) (dg_tup rfl (dgs_cons (dg_name 2 hN) (dgs_cons (dg_name 3 hN) (dgs_cons (dg_name 4 hN) dgs_nil))))) (dss_cons (ds_if (dt_cmp (op_neD hu) opd_ne (de_v 2) de_int (nomark _)) (dss_one (ds_raise' rfl tk T.x_BadNumber)) dss_nil) (dss_one (ds_ret (de_bin op_mod opd_mod (de_v 3) (de_v 1))))))
/-! ### parts_of: slots 0 hidden, 1 order, 2 places, 3 blinds, 4 found, 5 place, 6 blind, 7 worth, 8 power -/
theorem sc_parts_of : FnScope ["hidden", "order", "places", "blinds", "found", "place", "blind", "worth", "power"] ["hidden", "order", "places", "blinds"] (defScope st_parts_of) := ⟨rfl, rfl, rfl, by decide +kernel, rfl, by decide +kernel, by decide +kernel⟩
def fb_parts_of_2 : SD := sSeq (sSet 8 (dBin oMod (dBin oMul (dV 8) (dV 5)) (dV 1))) (sAug 7 oAddI (dBin oMul (dV 6) (dV 8)))
theorem fb_parts_of_2_eq (δ : DEnv) (T : Option Tape) : fb_parts_of_2 δ T = (sSeq (sSet 8 (dBin oMod (dBin oMul (dV 8) (dV 5)) (dV 1))) (sAug 7 oAddI (dBin oMul (dV 6) (dV 8)))) δ T := id rfl
def fb_parts_of_1 : SD := sSeq (sPar 7 8 (dV 0) (dC (.int 1))) (sSeq (sFor (iSeq (dV 3)) (tgN 6) (fb_parts_of_2)) (sApp 4 (dTup (aC (dV 5) (aC (dBin oMod (dV 7) (dV 1)) (aN))))))
theorem fb_parts_of_1_eq (δ : DEnv) (T : Option Tape) : fb_parts_of_1 δ T = (sSeq (sPar 7 8 (dV 0) (dC (.int 1))) (sSeq (sFor (iSeq (dV 3)) (tgN 6) (fb_parts_of_2)) (sApp 4 (dTup (aC (dV 5) (aC (dBin oMod (dV 7) (dV 1)) (aN))))))) δ T := id rfl
def body_parts_of : SD := sSeq (sSetL 4 (lLst (aN))) (sSeq (sFor (iSeq (dV 2)) (tgN 5) (fb_parts_of_1)) (sFrz 4 (sRet (dB oTuple (aC (dV 4) (aN))))))
theorem body_parts_of_eq (δ : DEnv) (T : Option Tape) : body_parts_of δ T = (sSeq (sSetL 4 (lLst (aN))) (sSeq (sFor (iSeq (dV 2)) (tgN 5) (fb_parts_of_1)) (sFrz 4 (sRet (dB oTuple (aC (dV 4) (aN))))))) δ T := id rfl
def den_parts_of : List D → Mo D := runD 5 body_parts_of
theorem ok_parts_of (T : Top K mg) : OkF P w K mg base "parts_of" ["hidden", "order", "places", "blinds"] 1 4 den_parts_of :=
  okF (j := 0) T.d_parts_of sc_parts_of rfl rfl fun f cdv A outer s H E hr hu tk po => by
    have hN := sc_parts_of.nd
    exact (dss_cons (ds_setL 4 hN (dl_lst da_nil)) (dss_cons (ds_for po rfl (di_tup (de_v 2)) (dg_name 5 hN) (dss_cons (ds_par 7 8 rfl hN (de_v 0) de_int) (dss_cons (ds_for po rfl (di_tup (de_v 3)) (dg_name 6 hN) (dss_cons (ds_set 8 hN (de_bin op_mod opd_mod (de_bin op_mul opd_mul (de_v 8) (de_v 5)) (de_v 1))) (dss_one (ds_aug 7 hN iop_add opd_addI (de_bin op_mul opd_mul (de_v 6) (de_v 8)))))) (dss_one (ds_append 4 (de_tup (da_cons (de_v 5) (da_cons (de_bin op_mod opd_mod (de_v 7) (de_v 1)) da_nil)))))))) (dss_one (ds_frz 4 (ds_ret (de_ty call_tuple_of cd_tuple T.b_tuple boot_tuple (da_cons (de_v 4) da_nil)))))))
/-! ### joined: slots 0 parts, 1 order, 2 found, 3 place, 4 worth, 5 above, 6 below, 7 other, 8 _ -/
theorem sc_joined : FnScope ["parts", "order", "found", "place", "worth", "above", "below", "other", "_"] ["parts", "order"] (defScope st_joined) := ⟨rfl, rfl, rfl, by decide +kernel, rfl, by decide +kernel, by decide +kernel⟩
def fb_joined_2 : SD := sIf (dTv (dBin (oNe) (dV 7) (dV 3))) (sPar 5 6 (dBin oMod (dBin oMul (dV 5) (dV 7)) (dV 1)) (dBin oMod (dBin oMul (dV 6) (dBin oSub (dV 7) (dV 3))) (dV 1))) (sNext)
theorem fb_joined_2_eq (δ : DEnv) (T : Option Tape) : fb_joined_2 δ T = (sIf (dTv (dBin (oNe) (dV 7) (dV 3))) (sPar 5 6 (dBin oMod (dBin oMul (dV 5) (dV 7)) (dV 1)) (dBin oMod (dBin oMul (dV 6) (dBin oSub (dV 7) (dV 3))) (dV 1))) (sNext)) δ T := id rfl
def fb_joined_1 : SD := sSeq (sAsg (tgT 2 (tgCons (tgN 5) (tgCons (tgN 6) (tgNil)))) (dTup (aC (dC (.int 1)) (aC (dC (.int 1)) (aN))))) (sSeq (sFor (iSeq (dV 0)) (tgT 2 (tgCons (tgN 7) (tgCons (tgN 8) (tgNil)))) (fb_joined_2)) (sAug 2 oAddI (dBin oMul (dBin oMul (dV 4) (dV 5)) (dCall 2 den_inverse (aC (dV 6) (aC (dV 1) (aN)))))))
theorem fb_joined_1_eq (δ : DEnv) (T : Option Tape) : fb_joined_1 δ T = (sSeq (sAsg (tgT 2 (tgCons (tgN 5) (tgCons (tgN 6) (tgNil)))) (dTup (aC (dC (.int 1)) (aC (dC (.int 1)) (aN))))) (sSeq (sFor (iSeq (dV 0)) (tgT 2 (tgCons (tgN 7) (tgCons (tgN 8) (tgNil)))) (fb_joined_2)) (sAug 2 oAddI (dBin oMul (dBin oMul (dV 4) (dV 5)) (dCall 2 den_inverse (aC (dV 6) (aC (dV 1) (aN)))))))) δ T := id rfl
def body_joined : SD := sSeq (sSet 2 (dC (.int 0))) (sSeq (sFor (iSeq (dV 0)) (tgT 2 (tgCons (tgN 3) (tgCons (tgN 4) (tgNil)))) (fb_joined_1)) (sRet (dBin oMod (dV 2) (dV 1))))
theorem body_joined_eq (δ : DEnv) (T : Option Tape) : body_joined δ T = (sSeq (sSet 2 (dC (.int 0))) (sSeq (sFor (iSeq (dV 0)) (tgT 2 (tgCons (tgN 3) (tgCons (tgN 4) (tgNil)))) (fb_joined_1)) (sRet (dBin oMod (dV 2) (dV 1))))) δ T := id rfl
def den_joined : List D → Mo D := runD 7 body_joined
theorem ok_joined (T : Top K mg) (G_inverse : OkF P w K mg base "inverse" ["number", "modulus"] 2 2 den_inverse) : OkF P w K mg base "joined" ["parts", "order"] 3 2 den_joined :=
  okF (j := 2) T.d_joined sc_joined rfl rfl fun f cdv A outer s H E hr hu tk po => by
    have hN := sc_joined.nd
    exact (dss_cons (ds_set 2 hN de_int) (dss_cons (ds_for po rfl (di_tup (de_v 0)) (dg_tup rfl (dgs_cons (dg_name 3 hN) (dgs_cons (dg_name 4 hN) dgs_nil))) (dss_cons (ds_asg (de_tup (da_cons de_int (da_cons de_int da_nil))) (dg_tup rfl (dgs_cons (dg_name 5 hN) (dgs_cons (dg_name 6 hN) dgs_nil)))) (dss_cons (ds_for po rfl (di_tup (de_v 0)) (dg_tup rfl (dgs_cons (dg_name 7 hN) (dgs_cons (dg_name 8 hN) dgs_nil))) (dss_one (ds_if (dt_cmp (op_neD hu) opd_ne (de_v 7) (de_v 3) (nomark _)) (dss_one (ds_par 5 6 rfl hN (de_bin op_mod opd_mod (de_bin op_mul opd_mul (de_v 5) (de_v 7)) (de_v 1)) (de_bin op_mod opd_mod (de_bin op_mul opd_mul (de_v 6) (de_bin op_sub opd_sub (de_v 7) (de_v 3))) (de_v 1)))) dss_nil))) (dss_one (ds_aug 2 hN iop_add opd_addI (de_bin op_mul opd_mul (de_bin op_mul opd_mul (de_v 4) (de_v 5)) (de_f tk G_inverse hr (da_cons (de_v 6) (da_cons (de_v 1) da_nil))))))))) (dss_one (ds_ret (de_bin op_mod opd_mod (de_v 2) (de_v 1))))))
/-! ### _law_tape: slots 0 script, 1 seed, 2 cell -/
theorem sc_law_tape : FnScope ["script", "seed", "cell"] ["script"] (defScope st_law_tape) := ⟨rfl, rfl, rfl, by decide +kernel, rfl, by decide +kernel, by decide +kernel⟩
def fb_law_tape_1 : SD := sSet 1 (dBin oMod (dB oInt (aC (dBin oAdd (dBin oMul (dV 1) (dC (.int 31))) (dV 2)) (aN))) (dC (.int 1000003)))
theorem fb_law_tape_1_eq (δ : DEnv) (T : Option Tape) : fb_law_tape_1 δ T = (sSet 1 (dBin oMod (dB oInt (aC (dBin oAdd (dBin oMul (dV 1) (dC (.int 31))) (dV 2)) (aN))) (dC (.int 1000003)))) δ T := id rfl
def ce_law_tape_2 : DEnv → Mo D := dB oAbs (aC (dB oInt (aC (dV 2) (aN))) (aN))
theorem ce_law_tape_2_eq (δ : DEnv) (T : Option Tape) : ce_law_tape_2 δ T = (dB oAbs (aC (dB oInt (aC (dV 2) (aN))) (aN))) δ T := id rfl
def body_law_tape : SD := sSeq (sSet 1 (dC (.int 7))) (sSeq (sFor (iLst (dV 0)) (tgN 2) (fb_law_tape_1)) (sRet (dTape (lLc (iLst (dV 0)) (tgN 2) (tYesD) (ce_law_tape_2) [2]) (dBin oAdd (dV 1) (dC (.int 1))))))
theorem body_law_tape_eq (δ : DEnv) (T : Option Tape) : body_law_tape δ T = (sSeq (sSet 1 (dC (.int 7))) (sSeq (sFor (iLst (dV 0)) (tgN 2) (fb_law_tape_1)) (sRet (dTape (lLc (iLst (dV 0)) (tgN 2) (tYesD) (ce_law_tape_2) [2]) (dBin oAdd (dV 1) (dC (.int 1))))))) δ T := id rfl
def den_law_tape : List D → Mo D := runD 2 body_law_tape
theorem ok_law_tape (T : Top K mg) : OkF P w K mg base "_law_tape" ["script"] 1 1 den_law_tape :=
  okF (j := 0) T.d_law_tape sc_law_tape rfl rfl fun f cdv A outer s H E hr hu tk po => by
    have hN := sc_law_tape.nd
    exact (dss_cons (ds_set 1 hN de_int) (dss_cons (ds_for po rfl (di_lst (de_v 0)) (dg_name 2 hN) (dss_one (ds_set 1 hN (de_bin op_mod opd_mod (de_ty call_int1 cd_int T.b_int boot_int (da_cons (de_bin op_addA opd_add (de_bin op_mul opd_mul (de_v 1) de_int) (de_v 2)) da_nil)) de_int)))) (dss_one (ds_ret (de_tape (dl_lc rfl hN (own := [("cell", 2)]) (di_lst (de_v 0)) (blkOk_by (N := ["script", "seed", "cell"]) (sc := defScope st_law_tape) (by decide +kernel)) (by decide) (fun _ _ _ _ _ => (dg_name 2 hN)) (fun _ _ _ _ _ => dts_nil) (fun _ _ _ _ _ => (de_b call_abs cd_abs T.b_abs boot_abs (da_cons (de_ty call_int1 cd_int T.b_int boot_int (da_cons (de_v 2) da_nil)) da_nil)))) (de_bin op_addA opd_add (de_v 1) de_int))))))
/-! ### _law_draw: slots 0 tape, 1 many, 2 cells, 3 number -/
theorem sc_law_draw : FnScope ["tape", "many", "cells", "number"] ["tape", "many"] (defScope st_law_draw) := ⟨rfl, rfl, rfl, by decide +kernel, rfl, by decide +kernel, by decide +kernel⟩
def den_law_draw : List D → Mo D := denDraw
theorem ok_law_draw (T : Top K mg) : OkF P w K mg base "_law_draw" ["tape", "many"] 1 2 den_law_draw := okDraw T.d_law_draw sc_law_draw fun f cdv A outer s H E po => by
    have hN := sc_law_draw.nd
    apply Exists.intro
    constructor
    · exact (pss_cons (ps_set (i := 2) hN rfl (.inl rfl) (pe_ix ix_list (pe_var (i := 0) rfl (.inl rfl)) pe_int (fun _ _ => rfl)))
    (pss_cons (ps_while po ((PW.pt <| pw_and (pt_cmpR op_gt (pe_callB call_len_seq rfl T.b_len boot_len (pa_cons (pe_var (i := 2) rfl (.inl rfl)) pa_nil)) pe_int (nomark _)) (pw_and1 (pt_cmpR op_eq (pe_ix ix_list (pe_var (i := 2) rfl (.inl rfl)) pe_int (fun _ _ => rfl)) pe_int (nomark _)))))
       (pss_one (ps_expr (pe_bm PySem.F.plainAttrs_list PySem.F.slot_list_pop PySem.F.type_list_pop mt_popAt (pe_var (i := 2) rfl (.inl rfl)) (pa_cons pe_int pa_nil)))))
    (pss_cons (ps_if (pt_cmpR op_gt (pe_callB call_len_seq rfl T.b_len boot_len (pa_cons (pe_var (i := 2) rfl (.inl rfl)) pa_nil)) pe_int (nomark _))
        (pss_cons (ps_set (i := 3) hN rfl (.inl rfl) (pe_ix ix_list (pe_var (i := 2) rfl (.inl rfl)) pe_int (fun _ _ => rfl)))
        (pss_cons (ps_asg (pe_op op_fdivW (pe_var (i := 3) rfl (.inl rfl)) (pe_var (i := 1) rfl (.inl rfl))) (pg_sub (pe_var (i := 2) rfl (.inl rfl)) pe_int set_list))
        (pss_one (ps_ret (pe_op op_mod (pe_callTy call_int1 rfl T.b_int boot_int (pa_cons (pe_var (i := 3) rfl (.inl rfl)) pa_nil)) (pe_var (i := 1) rfl (.inl rfl))))))) pss_nil)
    (pss_cons (ps_asg (pe_op op_mod (pe_callTy call_int1 rfl T.b_int boot_int (pa_cons (pe_op op_add (pe_op op_mul (pe_ix ix_list (pe_var (i := 0) rfl (.inl rfl)) pe_int (fun _ _ => rfl)) pe_int) pe_int) pa_nil)) pe_int) (pg_sub (pe_var (i := 0) rfl (.inl rfl)) pe_int set_list))
    (pss_one (ps_ret (pe_op op_mod (pe_callTy call_int1 rfl T.b_int boot_int (pa_cons (pe_op op_fdivW (pe_ix ix_list (pe_var (i := 0) rfl (.inl rfl)) pe_int (fun _ _ => rfl)) pe_int) pa_nil)) (pe_var (i := 1) rfl (.inl rfl)))))))))
    · rfl
/-! ### _law_pick: slots 0 tape, 1 row -/
theorem sc_law_pick : FnScope ["tape", "row"] ["tape", "row"] (defScope st_law_pick) := ⟨rfl, rfl, rfl, by decide +kernel, rfl, by decide +kernel, by decide +kernel⟩
def body_law_pick : SD := sRet (dBin oIx (dV 1) (dCall 2 den_law_draw (aC (dV 0) (aC (dB oLen (aC (dV 1) (aN))) (aN)))))
theorem body_law_pick_eq (δ : DEnv) (T : Option Tape) : body_law_pick δ T = (sRet (dBin oIx (dV 1) (dCall 2 den_law_draw (aC (dV 0) (aC (dB oLen (aC (dV 1) (aN))) (aN)))))) δ T := id rfl
def den_law_pick : List D → Mo D := runD 0 body_law_pick
theorem ok_law_pick (T : Top K mg) (G_law_draw : OkF P w K mg base "_law_draw" ["tape", "many"] 1 2 den_law_draw) : OkF P w K mg base "_law_pick" ["tape", "row"] 2 2 den_law_pick :=
  okF (j := 1) T.d_law_pick sc_law_pick rfl rfl fun f cdv A outer s H E hr hu tk po => by
    have hN := sc_law_pick.nd
    exact (dss_one (ds_ret (de_ix ix_A opd_ix (de_v 1) (de_f tk G_law_draw hr (da_cons (de_v 0) (da_cons (de_b call_len_seq cd_len T.b_len boot_len (da_cons (de_v 1) da_nil)) da_nil))) (fun _ _ => rfl))))
/-! ### _law_same: slots 0 actual, 1 due, 2 k -/
theorem sc_law_same : FnScope ["actual", "due", "k"] ["actual", "due"] (defScope st_law_same) := ⟨rfl, rfl, rfl, by decide +kernel, rfl, by decide +kernel, by decide +kernel⟩
def ce_law_same_1 (rec : List D → Mo D) : DEnv → Mo D := dCall 2 rec (aC (dBin oIx (dV 0) (dV 2)) (aC (dBin oIx (dV 1) (dV 2)) (aN)))
theorem ce_law_same_1_eq (rec : List D → Mo D) (δ : DEnv) (T : Option Tape) : ce_law_same_1 rec δ T = (dCall 2 rec (aC (dBin oIx (dV 0) (dV 2)) (aC (dBin oIx (dV 1) (dV 2)) (aN)))) δ T := id rfl
def body_law_same (rec : List D → Mo D) : SD := sSeq (sIf (dTv (dBin (oIs) (dV 1) (dC .non))) (sRet (dBin (oIs) (dV 0) (dC .non))) (sNext)) (sSeq (sIf (dTv (dIsi "bool" (dV 1))) (sRet (dAndV (dIsi "bool" (dV 0)) (dBin (oEq) (dV 0) (dV 1)))) (sNext)) (sSeq (sIf (dTv (dIsi "tuple" (dV 1))) (sSeq (sIf (dOr (dNot (dTv (dIsi "tuple" (dV 0)))) (dTv (dBin (oNe) (dB oLen (aC (dV 0) (aN))) (dB oLen (aC (dV 1) (aN)))))) (sRet (dC (.bl false))) (sNext)) (sRet (dB oAll (aC (dL (lLc (iR1 (aC (dB oLen (aC (dV 1) (aN))) (aN))) (tgN 2) (tYesD) ((ce_law_same_1 rec)) [2])) (aN))))) (sNext)) (sSeq (sIf (dTv (dIsi "str" (dV 1))) (sRet (dAndV (dIsi "str" (dV 0)) (dBin (oEq) (dV 0) (dV 1)))) (sNext)) (sRet (dAndV (dIsi "int" (dV 0)) (dAndV (dNotV (dIsi "bool" (dV 0))) (dBin (oEq) (dV 0) (dV 1))))))))
theorem body_law_same_eq (rec : List D → Mo D) (δ : DEnv) (T : Option Tape) : body_law_same rec δ T = (sSeq (sIf (dTv (dBin (oIs) (dV 1) (dC .non))) (sRet (dBin (oIs) (dV 0) (dC .non))) (sNext)) (sSeq (sIf (dTv (dIsi "bool" (dV 1))) (sRet (dAndV (dIsi "bool" (dV 0)) (dBin (oEq) (dV 0) (dV 1)))) (sNext)) (sSeq (sIf (dTv (dIsi "tuple" (dV 1))) (sSeq (sIf (dOr (dNot (dTv (dIsi "tuple" (dV 0)))) (dTv (dBin (oNe) (dB oLen (aC (dV 0) (aN))) (dB oLen (aC (dV 1) (aN)))))) (sRet (dC (.bl false))) (sNext)) (sRet (dB oAll (aC (dL (lLc (iR1 (aC (dB oLen (aC (dV 1) (aN))) (aN))) (tgN 2) (tYesD) ((ce_law_same_1 rec)) [2])) (aN))))) (sNext)) (sSeq (sIf (dTv (dIsi "str" (dV 1))) (sRet (dAndV (dIsi "str" (dV 0)) (dBin (oEq) (dV 0) (dV 1)))) (sNext)) (sRet (dAndV (dIsi "int" (dV 0)) (dAndV (dNotV (dIsi "bool" (dV 0))) (dBin (oEq) (dV 0) (dV 1))))))))) δ T := id rfl
def denF_law_same (rec : List D → Mo D) : List D → Mo D := runD 1 (body_law_same rec)
def den_law_same : List D → Mo D := fixD 8 denF_law_same
theorem ok_law_same (T : Top K mg) : OkF P w K mg base "_law_same" ["actual", "due"] 9 2 den_law_same :=
  okFix (j := 0) (g := body_law_same) T.d_law_same sc_law_same rfl rfl (fun i rec hi G_law_same f cdv A outer s H E hr hu tk po => by
    have hN := sc_law_same.nd
    exact (dss_cons (ds_if (dt_cmp op_isN opd_is (de_v 1) de_non (nomark _)) (dss_one (ds_ret (de_cmp op_isN opd_is (de_v 0) de_non (nomark _)))) dss_nil) (dss_cons (ds_if (dt_val (de_isi T.b_isinstance (de_v 1) T.b_bool boot_bool)) (dss_one (ds_ret (de_and (de_isi T.b_isinstance (de_v 0) T.b_bool boot_bool) (de_one (de_cmp (op_eqD hu) opd_eq (de_v 0) (de_v 1) (nomark _)))))) dss_nil) (dss_cons (ds_if (dt_val (de_isi T.b_isinstance (de_v 1) T.b_tuple boot_tuple)) (dss_cons (ds_if (dt_w (dw_or (dt_not (dt_val (de_isi T.b_isinstance (de_v 0) T.b_tuple boot_tuple))) (dw_or1 (dt_cmp (op_neD hu) opd_ne (de_b call_len_seq cd_len T.b_len boot_len (da_cons (de_v 0) da_nil)) (de_b call_len_seq cd_len T.b_len boot_len (da_cons (de_v 1) da_nil)) (nomark _))))) (dss_one (ds_ret de_bl)) dss_nil) (dss_one (ds_ret (de_b (cr_all rfl) cd_all T.b_all boot_all (da_cons (de_L (dl_lc rfl hN (own := [("k", 2)]) (di_r1 rfl T.b_range (da_cons (de_b call_len_seq cd_len T.b_len boot_len (da_cons (de_v 1) da_nil)) da_nil)) (blkOk_by (N := ["actual", "due", "k"]) (sc := defScope st_law_same) (by decide +kernel)) (by decide) (fun _ _ _ _ _ => (dg_name 2 hN)) (fun _ _ _ _ _ => dts_nil) (fun _ _ _ _ _ => (de_f takes0 G_law_same hr (da_cons (de_ix ix_A opd_ix (de_v 0) (de_v 2) (fun _ _ => rfl)) (da_cons (de_ix ix_A opd_ix (de_v 1) (de_v 2) (fun _ _ => rfl)) da_nil)) (hj := by omega))))) da_nil))))) dss_nil) (dss_cons (ds_if (dt_val (de_isi T.b_isinstance (de_v 1) T.b_str boot_str)) (dss_one (ds_ret (de_and (de_isi T.b_isinstance (de_v 0) T.b_str boot_str) (de_one (de_cmp (op_eqD hu) opd_eq (de_v 0) (de_v 1) (nomark _)))))) dss_nil) (dss_one (ds_ret (de_and (de_isi T.b_isinstance (de_v 0) T.b_int boot_int) (de_and (de_not (de_isi T.b_isinstance (de_v 0) T.b_bool boot_bool)) (de_one (de_cmp (op_eqD hu) opd_eq (de_v 0) (de_v 1) (nomark _)))))))))))) 8
/-! ### _law_inverse: slots 0 number, 1 modulus, 2 one, 3 other, 4 left, 5 right, 6 part -/
theorem sc_law_inverse : FnScope ["number", "modulus", "one", "other", "left", "right", "part"] ["number", "modulus"] (defScope st_law_inverse) := ⟨rfl, rfl, rfl, by decide +kernel, rfl, by decide +kernel, by decide +kernel⟩
def wc_law_inverse_1 : DEnv → Mo Bool := dTv (dBin (oNe) (dV 3) (dC (.int 0)))
theorem wc_law_inverse_1_eq (δ : DEnv) (T : Option Tape) : wc_law_inverse_1 δ T = (dTv (dBin (oNe) (dV 3) (dC (.int 0)))) δ T := id rfl
def wb_law_inverse_1 : SD := sSeq (sSet 6 (dBin oDiv (dV 2) (dV 3))) (sSeq (sPar 2 3 (dV 3) (dBin oSub (dV 2) (dBin oMul (dV 6) (dV 3)))) (sPar 4 5 (dV 5) (dBin oSub (dV 4) (dBin oMul (dV 6) (dV 5)))))
theorem wb_law_inverse_1_eq (δ : DEnv) (T : Option Tape) : wb_law_inverse_1 δ T = (sSeq (sSet 6 (dBin oDiv (dV 2) (dV 3))) (sSeq (sPar 2 3 (dV 3) (dBin oSub (dV 2) (dBin oMul (dV 6) (dV 3)))) (sPar 4 5 (dV 5) (dBin oSub (dV 4) (dBin oMul (dV 6) (dV 5)))))) δ T := id rfl
def body_law_inverse : SD := sSeq (sAsg (tgT 4 (tgCons (tgN 2) (tgCons (tgN 3) (tgCons (tgN 4) (tgCons (tgN 5) (tgNil)))))) (dTup (aC (dV 1) (aC (dBin oMod (dB oInt (aC (dV 0) (aN))) (dV 1)) (aC (dC (.int 0)) (aC (dC (.int 1)) (aN))))))) (sSeq (sWhile wc_law_inverse_1 wb_law_inverse_1) (sRet (dIf (dTv (dBin (oEq) (dV 2) (dC (.int 1)))) (dBin oMod (dB oInt (aC (dV 4) (aN))) (dV 1)) (dC .non))))
theorem body_law_inverse_eq (δ : DEnv) (T : Option Tape) : body_law_inverse δ T = (sSeq (sAsg (tgT 4 (tgCons (tgN 2) (tgCons (tgN 3) (tgCons (tgN 4) (tgCons (tgN 5) (tgNil)))))) (dTup (aC (dV 1) (aC (dBin oMod (dB oInt (aC (dV 0) (aN))) (dV 1)) (aC (dC (.int 0)) (aC (dC (.int 1)) (aN))))))) (sSeq (sWhile wc_law_inverse_1 wb_law_inverse_1) (sRet (dIf (dTv (dBin (oEq) (dV 2) (dC (.int 1)))) (dBin oMod (dB oInt (aC (dV 4) (aN))) (dV 1)) (dC .non))))) δ T := id rfl
def den_law_inverse : List D → Mo D := runD 5 body_law_inverse
theorem ok_law_inverse (T : Top K mg) : OkF P w K mg base "_law_inverse" ["number", "modulus"] 1 2 den_law_inverse :=
  okF (j := 0) T.d_law_inverse sc_law_inverse rfl rfl fun f cdv A outer s H E hr hu tk po => by
    have hN := sc_law_inverse.nd
    exact (dss_cons (ds_asg (de_tup (da_cons (de_v 1) (da_cons (de_bin op_mod opd_mod (de_ty call_int1 cd_int T.b_int boot_int (da_cons (de_v 0) da_nil)) (de_v 1)) (da_cons de_int (da_cons de_int da_nil))))) (dg_tup rfl (dgs_cons (dg_name 2 hN) (dgs_cons (dg_name 3 hN) (dgs_cons (dg_name 4 hN) (dgs_cons (dg_name 5 hN) dgs_nil)))))) (dss_cons (ds_while po (dt_cmp (op_neD hu) opd_ne (de_v 3) de_int (nomark _)) (dss_cons (ds_set 6 hN (de_bin op_fdivW opd_div (de_v 2) (de_v 3))) (dss_cons (ds_par 2 3 rfl hN (de_v 3) (de_bin op_sub opd_sub (de_v 2) (de_bin op_mul opd_mul (de_v 6) (de_v 3)))) (dss_one (ds_par 4 5 rfl hN (de_v 5) (de_bin op_sub opd_sub (de_v 4) (de_bin op_mul opd_mul (de_v 6) (de_v 5)))))))) (dss_one (ds_ret (de_if (dt_cmp (op_eqD hu) opd_eq (de_v 2) de_int (nomark _)) (de_bin op_mod opd_mod (de_ty call_int1 cd_int T.b_int boot_int (da_cons (de_v 4) da_nil)) (de_v 1)) de_non)))))
/-! ### _law_value: slots 0 order, 1 numbers, 2 place, 3 found, 4 number -/
theorem sc_law_value : FnScope ["order", "numbers", "place", "found", "number"] ["order", "numbers", "place"] (defScope st_law_value) := ⟨rfl, rfl, rfl, by decide +kernel, rfl, by decide +kernel, by decide +kernel⟩
def fb_law_value_1 : SD := sSet 3 (dBin oMod (dB oInt (aC (dBin oAdd (dBin oMul (dV 3) (dV 2)) (dV 4)) (aN))) (dV 0))
theorem fb_law_value_1_eq (δ : DEnv) (T : Option Tape) : fb_law_value_1 δ T = (sSet 3 (dBin oMod (dB oInt (aC (dBin oAdd (dBin oMul (dV 3) (dV 2)) (dV 4)) (aN))) (dV 0))) δ T := id rfl
def body_law_value : SD := sSeq (sSet 3 (dC (.int 0))) (sSeq (sFor (iSeq (dRv (dV 1) (dNoPart))) (tgN 4) (fb_law_value_1)) (sRet (dV 3)))
theorem body_law_value_eq (δ : DEnv) (T : Option Tape) : body_law_value δ T = (sSeq (sSet 3 (dC (.int 0))) (sSeq (sFor (iSeq (dRv (dV 1) (dNoPart))) (tgN 4) (fb_law_value_1)) (sRet (dV 3)))) δ T := id rfl
def den_law_value : List D → Mo D := runD 2 body_law_value
theorem ok_law_value (T : Top K mg) : OkF P w K mg base "_law_value" ["order", "numbers", "place"] 1 3 den_law_value :=
  okF (j := 0) T.d_law_value sc_law_value rfl rfl fun f cdv A outer s H E hr hu tk po => by
    have hN := sc_law_value.nd
    exact (dss_cons (ds_set 3 hN de_int) (dss_cons (ds_for po rfl (di_tup (de_rv (de_v 1) do_none)) (dg_name 4 hN) (dss_one (ds_set 3 hN (de_bin op_mod opd_mod (de_ty call_int1 cd_int T.b_int boot_int (da_cons (de_bin op_addA opd_add (de_bin op_mul opd_mul (de_v 3) (de_v 2)) (de_v 4)) da_nil)) (de_v 0))))) (dss_one (ds_ret (de_v 3)))))
/-! ### _law_constant: slots 0 order, 1 parts, 2 found, 3 place, 4 part, 5 above, 6 below, 7 other, 8 mate -/
theorem sc_law_constant : FnScope ["order", "parts", "found", "place", "part", "above", "below", "other", "mate"] ["order", "parts"] (defScope st_law_constant) := ⟨rfl, rfl, rfl, by decide +kernel, rfl, by decide +kernel, by decide +kernel⟩
def fb_law_constant_2 : SD := sIf (dTv (dBin (oNe) (dV 7) (dV 3))) (sPar 5 6 (dBin oMod (dB oInt (aC (dBin oMul (dV 5) (dV 7)) (aN))) (dV 0)) (dBin oMod (dB oInt (aC (dBin oMul (dV 6) (dBin oSub (dV 7) (dV 3))) (aN))) (dV 0))) (sNext)
theorem fb_law_constant_2_eq (δ : DEnv) (T : Option Tape) : fb_law_constant_2 δ T = (sIf (dTv (dBin (oNe) (dV 7) (dV 3))) (sPar 5 6 (dBin oMod (dB oInt (aC (dBin oMul (dV 5) (dV 7)) (aN))) (dV 0)) (dBin oMod (dB oInt (aC (dBin oMul (dV 6) (dBin oSub (dV 7) (dV 3))) (aN))) (dV 0))) (sNext)) δ T := id rfl
def fb_law_constant_1 : SD := sSeq (sAsg (tgT 2 (tgCons (tgN 5) (tgCons (tgN 6) (tgNil)))) (dTup (aC (dC (.int 1)) (aC (dC (.int 1)) (aN))))) (sSeq (sFor (iSeq (dV 1)) (tgT 2 (tgCons (tgN 7) (tgCons (tgN 8) (tgNil)))) (fb_law_constant_2)) (sSet 2 (dBin oMod (dB oInt (aC (dBin oAdd (dV 2) (dBin oMul (dBin oMul (dV 4) (dV 5)) (dCall 2 den_law_inverse (aC (dV 6) (aC (dV 0) (aN)))))) (aN))) (dV 0))))
theorem fb_law_constant_1_eq (δ : DEnv) (T : Option Tape) : fb_law_constant_1 δ T = (sSeq (sAsg (tgT 2 (tgCons (tgN 5) (tgCons (tgN 6) (tgNil)))) (dTup (aC (dC (.int 1)) (aC (dC (.int 1)) (aN))))) (sSeq (sFor (iSeq (dV 1)) (tgT 2 (tgCons (tgN 7) (tgCons (tgN 8) (tgNil)))) (fb_law_constant_2)) (sSet 2 (dBin oMod (dB oInt (aC (dBin oAdd (dV 2) (dBin oMul (dBin oMul (dV 4) (dV 5)) (dCall 2 den_law_inverse (aC (dV 6) (aC (dV 0) (aN)))))) (aN))) (dV 0))))) δ T := id rfl
def body_law_constant : SD := sSeq (sSet 2 (dC (.int 0))) (sSeq (sFor (iSeq (dV 1)) (tgT 2 (tgCons (tgN 3) (tgCons (tgN 4) (tgNil)))) (fb_law_constant_1)) (sRet (dV 2)))
theorem body_law_constant_eq (δ : DEnv) (T : Option Tape) : body_law_constant δ T = (sSeq (sSet 2 (dC (.int 0))) (sSeq (sFor (iSeq (dV 1)) (tgT 2 (tgCons (tgN 3) (tgCons (tgN 4) (tgNil)))) (fb_law_constant_1)) (sRet (dV 2)))) δ T := id rfl
def den_law_constant : List D → Mo D := runD 7 body_law_constant
theorem ok_law_constant (T : Top K mg) (G_law_inverse : OkF P w K mg base "_law_inverse" ["number", "modulus"] 1 2 den_law_inverse) : OkF P w K mg base "_law_constant" ["order", "parts"] 2 2 den_law_constant :=
  okF (j := 1) T.d_law_constant sc_law_constant rfl rfl fun f cdv A outer s H E hr hu tk po => by
    have hN := sc_law_constant.nd
    exact (dss_cons (ds_set 2 hN de_int) (dss_cons (ds_for po rfl (di_tup (de_v 1)) (dg_tup rfl (dgs_cons (dg_name 3 hN) (dgs_cons (dg_name 4 hN) dgs_nil))) (dss_cons (ds_asg (de_tup (da_cons de_int (da_cons de_int da_nil))) (dg_tup rfl (dgs_cons (dg_name 5 hN) (dgs_cons (dg_name 6 hN) dgs_nil)))) (dss_cons (ds_for po rfl (di_tup (de_v 1)) (dg_tup rfl (dgs_cons (dg_name 7 hN) (dgs_cons (dg_name 8 hN) dgs_nil))) (dss_one (ds_if (dt_cmp (op_neD hu) opd_ne (de_v 7) (de_v 3) (nomark _)) (dss_one (ds_par 5 6 rfl hN (de_bin op_mod opd_mod (de_ty call_int1 cd_int T.b_int boot_int (da_cons (de_bin op_mul opd_mul (de_v 5) (de_v 7)) da_nil)) (de_v 0)) (de_bin op_mod opd_mod (de_ty call_int1 cd_int T.b_int boot_int (da_cons (de_bin op_mul opd_mul (de_v 6) (de_bin op_sub opd_sub (de_v 7) (de_v 3))) da_nil)) (de_v 0)))) dss_nil))) (dss_one (ds_set 2 hN (de_bin op_mod opd_mod (de_ty call_int1 cd_int T.b_int boot_int (da_cons (de_bin op_addA opd_add (de_v 2) (de_bin op_mul opd_mul (de_bin op_mul opd_mul (de_v 4) (de_v 5)) (de_f tk G_law_inverse hr (da_cons (de_v 6) (da_cons (de_v 0) da_nil))))) da_nil)) (de_v 0))))))) (dss_one (ds_ret (de_v 2)))))
/-! ### law: slots 0 script, 1 tape, 2 order, 3 k, 4 places, 5 parts, 6 due, 7 need, 8 first, 9 more, 10 extra, 11 both, 12 summed, 13 hidden, 14 blinds, 15 at, 16 some, 17 place -/
theorem sc_law : FnScope ["script", "tape", "order", "k", "places", "parts", "due", "need", "first", "more", "extra", "both", "summed", "hidden", "blinds", "at", "some", "place"] ["script"] (defScope st_law) := ⟨rfl, rfl, rfl, by decide +kernel, rfl, by decide +kernel, by decide +kernel⟩
def ce_law_1 : DEnv → Mo D := dCall 2 den_law_draw (aC (dV 1) (aC (dV 2) (aN)))
theorem ce_law_1_eq (δ : DEnv) (T : Option Tape) : ce_law_1 δ T = (dCall 2 den_law_draw (aC (dV 1) (aC (dV 2) (aN)))) δ T := id rfl
def fb_law_2 : SD := sSeq (sApp 4 (dV 15)) (sSet 15 (dBin oAdd (dBin oMod (dB oInt (aC (dV 15) (aN))) (dBin oSub (dV 2) (dC (.int 1)))) (dC (.int 1))))
theorem fb_law_2_eq (δ : DEnv) (T : Option Tape) : fb_law_2 δ T = (sSeq (sApp 4 (dV 15)) (sSet 15 (dBin oAdd (dBin oMod (dB oInt (aC (dV 15) (aN))) (dBin oSub (dV 2) (dC (.int 1)))) (dC (.int 1))))) δ T := id rfl
def ce_law_3 : DEnv → Mo D := dTup (aC (dV 17) (aC (dCall 3 den_law_value (aC (dV 2) (aC (dBin oAdd (dTup (aC (dV 13) (aN))) (dV 14)) (aC (dV 17) (aN))))) (aN)))
theorem ce_law_3_eq (δ : DEnv) (T : Option Tape) : ce_law_3 δ T = (dTup (aC (dV 17) (aC (dCall 3 den_law_value (aC (dV 2) (aC (dBin oAdd (dTup (aC (dV 13) (aN))) (dV 14)) (aC (dV 17) (aN))))) (aN)))) δ T := id rfl
def fb_law_4 : SD := sSeq (sSet 16 (dSl (dV 5) (dPart (dV 8)) (dPart (dBin oAdd (dV 8) (dV 7))))) (sIf (dOr (dNot (dTv (dCall 2 den_law_same (aC (dCall 2 den_joined (aC (dV 16) (aC (dV 2) (aN)))) (aC (dV 13) (aN)))))) (dNot (dTv (dCall 2 den_law_same (aC (dCall 2 den_joined (aC (dRv (dV 16) (dNoPart)) (aC (dV 2) (aN)))) (aC (dV 13) (aN))))))) (sRet (dC (.bl false))) (sNext))
theorem fb_law_4_eq (δ : DEnv) (T : Option Tape) : fb_law_4 δ T = (sSeq (sSet 16 (dSl (dV 5) (dPart (dV 8)) (dPart (dBin oAdd (dV 8) (dV 7))))) (sIf (dOr (dNot (dTv (dCall 2 den_law_same (aC (dCall 2 den_joined (aC (dV 16) (aC (dV 2) (aN)))) (aC (dV 13) (aN)))))) (dNot (dTv (dCall 2 den_law_same (aC (dCall 2 den_joined (aC (dRv (dV 16) (dNoPart)) (aC (dV 2) (aN)))) (aC (dV 13) (aN))))))) (sRet (dC (.bl false))) (sNext))) δ T := id rfl
def ce_law_5 : DEnv → Mo D := dCall 2 den_law_draw (aC (dV 1) (aC (dV 2) (aN)))
theorem ce_law_5_eq (δ : DEnv) (T : Option Tape) : ce_law_5 δ T = (dCall 2 den_law_draw (aC (dV 1) (aC (dV 2) (aN)))) δ T := id rfl
def ce_law_6 : DEnv → Mo D := dTup (aC (dBin oIx (dV 4) (dV 3)) (aC (dBin oMod (dB oInt (aC (dBin oAdd (dBin oIx (dBin oIx (dV 5) (dV 3)) (dC (.int 1))) (dBin oIx (dBin oIx (dV 10) (dV 3)) (dC (.int 1)))) (aN))) (dV 2)) (aN)))
theorem ce_law_6_eq (δ : DEnv) (T : Option Tape) : ce_law_6 δ T = (dTup (aC (dBin oIx (dV 4) (dV 3)) (aC (dBin oMod (dB oInt (aC (dBin oAdd (dBin oIx (dBin oIx (dV 5) (dV 3)) (dC (.int 1))) (dBin oIx (dBin oIx (dV 10) (dV 3)) (dC (.int 1)))) (aN))) (dV 2)) (aN)))) δ T := id rfl
def ce_law_7 : DEnv → Mo D := dBin oMod (dB oInt (aC (dBin oAdd (dBin oIx (dV 14) (dV 3)) (dBin oIx (dV 9) (dV 3))) (aN))) (dV 2)
theorem ce_law_7_eq (δ : DEnv) (T : Option Tape) : ce_law_7 δ T = (dBin oMod (dB oInt (aC (dBin oAdd (dBin oIx (dV 14) (dV 3)) (dBin oIx (dV 9) (dV 3))) (aN))) (dV 2)) δ T := id rfl
def body_law : SD := sSeq (sSet 1 (dCall 1 den_law_tape (aC (dV 0) (aN)))) (sSeq (sSet 2 (dCall 2 den_law_pick (aC (dV 1) (aC (dL (lLst (aC (dC (.int 7)) (aC (dC (.int 11)) (aC (dC (.int 13)) (aC (dC (.int 17)) (aC (dC (.int 29)) (aC (dC (.int 41)) (aC (dC (.int 59)) (aC (dC (.int 101)) (aN))))))))))) (aN))))) (sSeq (sAsg (tgT 2 (tgCons (tgN 13) (tgCons (tgN 14) (tgNil)))) (dTup (aC (dCall 2 den_law_draw (aC (dV 1) (aC (dV 2) (aN)))) (aC (dB oTuple (aC (dL (lLc (iR1 (aC (dCall 2 den_law_draw (aC (dV 1) (aC (dC (.int 5)) (aN)))) (aN))) (tgN 3) (tYesD) (ce_law_1) [3])) (aN))) (aN))))) (sSeq (sAsgL 4 15 (lLst (aN)) (dBin oAdd (dC (.int 1)) (dCall 2 den_law_draw (aC (dV 1) (aC (dBin oSub (dV 2) (dC (.int 1))) (aN)))))) (sSeq (sFor (iR1 (aC (dB oMin (aC (dBin oSub (dV 2) (dC (.int 1))) (aC (dBin oAdd (dBin oAdd (dB oLen (aC (dV 14) (aN))) (dC (.int 1))) (dCall 2 den_law_draw (aC (dV 1) (aC (dC (.int 3)) (aN))))) (aN)))) (aN))) (tgN 3) (fb_law_2)) (sSeq (sIf (dTv (dBin (oEq) (dCall 2 den_law_draw (aC (dV 1) (aC (dC (.int 2)) (aN)))) (dC (.int 0)))) (sSetL 4 (borA 4 (lRev (dV 4)))) (sNext)) (sSeq (sSet 4 (bor 4 (dB oTuple (aC (dV 4) (aN))))) (sSeq (sSet 5 (bor 4 (dCall 4 den_parts_of (aC (dV 13) (aC (dV 2) (aC (dV 4) (aC (dV 14) (aN)))))))) (sSeq (sSet 6 (bor 4 (dB oTuple (aC (dL (lLc (iSeq (dV 4)) (tgN 17) (tYesD) (ce_law_3) [17])) (aN))))) (sSeq (sIf (dNot (dTv (dCall 2 den_law_same (aC (dV 5) (aC (dV 6) (aN)))))) (sRet (dC (.bl false))) (sNext)) (sSeq (sSet 7 (dBin oAdd (dB oLen (aC (dV 14) (aN))) (dC (.int 1)))) (sSeq (sFor (iR1 (borA 4 (aC (dBin oAdd (dBin oSub (dB oLen (aC (dV 4) (aN))) (dV 7)) (dC (.int 1))) (aN)))) (tgN 8) (fb_law_4)) (sSeq (sIf (dOr (dNot (dTv (dCall 2 den_law_same (aC (dCall 2 den_joined (aC (dV 5) (aC (dV 2) (aN)))) (aC (dV 13) (aN)))))) (dNot (dTv (dCall 2 den_law_same (aC (dCall 2 den_joined (aC (dSl (dV 5) (dPart (dC (.int 1))) (dPart (dV 7))) (aC (dV 2) (aN)))) (aC (dCall 2 den_law_constant (aC (dV 2) (aC (dSl (dV 6) (dPart (dC (.int 1))) (dPart (dV 7))) (aN)))) (aN))))))) (sRet (dC (.bl false))) (sNext)) (sSeq (sSet 9 (dB oTuple (aC (dL (lLc (iR1 (aC (dB oLen (aC (dV 14) (aN))) (aN))) (tgN 3) (tYesD) (ce_law_5) [3])) (aN)))) (sSeq (sSet 10 (bor 4 (dCall 4 den_parts_of (aC (dC (.int 5)) (aC (dV 2) (aC (dV 4) (aC (dV 9) (aN)))))))) (sSeq (sSet 11 (bor 4 (dB oTuple (aC (dL (lLc (iR1 (borA 4 (aC (dB oLen (aC (dV 4) (aN))) (aN)))) (tgN 3) (tYesD) (ce_law_6) [3])) (aN))))) (sSeq (sSet 12 (dB oTuple (aC (dL (lLc (iR1 (aC (dB oLen (aC (dV 14) (aN))) (aN))) (tgN 3) (tYesD) (ce_law_7) [3])) (aN)))) (sFrz 4 (sRet (dCall 2 den_law_same (aC (dV 11) (aC (dCall 4 den_parts_of (aC (dBin oMod (dB oInt (aC (dBin oAdd (dV 13) (dC (.int 5))) (aN))) (dV 2)) (aC (dV 2) (aC (dV 4) (aC (dV 12) (aN)))))) (aN))))))))))))))))))))))
theorem body_law_eq (δ : DEnv) (T : Option Tape) : body_law δ T = (sSeq (sSet 1 (dCall 1 den_law_tape (aC (dV 0) (aN)))) (sSeq (sSet 2 (dCall 2 den_law_pick (aC (dV 1) (aC (dL (lLst (aC (dC (.int 7)) (aC (dC (.int 11)) (aC (dC (.int 13)) (aC (dC (.int 17)) (aC (dC (.int 29)) (aC (dC (.int 41)) (aC (dC (.int 59)) (aC (dC (.int 101)) (aN))))))))))) (aN))))) (sSeq (sAsg (tgT 2 (tgCons (tgN 13) (tgCons (tgN 14) (tgNil)))) (dTup (aC (dCall 2 den_law_draw (aC (dV 1) (aC (dV 2) (aN)))) (aC (dB oTuple (aC (dL (lLc (iR1 (aC (dCall 2 den_law_draw (aC (dV 1) (aC (dC (.int 5)) (aN)))) (aN))) (tgN 3) (tYesD) (ce_law_1) [3])) (aN))) (aN))))) (sSeq (sAsgL 4 15 (lLst (aN)) (dBin oAdd (dC (.int 1)) (dCall 2 den_law_draw (aC (dV 1) (aC (dBin oSub (dV 2) (dC (.int 1))) (aN)))))) (sSeq (sFor (iR1 (aC (dB oMin (aC (dBin oSub (dV 2) (dC (.int 1))) (aC (dBin oAdd (dBin oAdd (dB oLen (aC (dV 14) (aN))) (dC (.int 1))) (dCall 2 den_law_draw (aC (dV 1) (aC (dC (.int 3)) (aN))))) (aN)))) (aN))) (tgN 3) (fb_law_2)) (sSeq (sIf (dTv (dBin (oEq) (dCall 2 den_law_draw (aC (dV 1) (aC (dC (.int 2)) (aN)))) (dC (.int 0)))) (sSetL 4 (borA 4 (lRev (dV 4)))) (sNext)) (sSeq (sSet 4 (bor 4 (dB oTuple (aC (dV 4) (aN))))) (sSeq (sSet 5 (bor 4 (dCall 4 den_parts_of (aC (dV 13) (aC (dV 2) (aC (dV 4) (aC (dV 14) (aN)))))))) (sSeq (sSet 6 (bor 4 (dB oTuple (aC (dL (lLc (iSeq (dV 4)) (tgN 17) (tYesD) (ce_law_3) [17])) (aN))))) (sSeq (sIf (dNot (dTv (dCall 2 den_law_same (aC (dV 5) (aC (dV 6) (aN)))))) (sRet (dC (.bl false))) (sNext)) (sSeq (sSet 7 (dBin oAdd (dB oLen (aC (dV 14) (aN))) (dC (.int 1)))) (sSeq (sFor (iR1 (borA 4 (aC (dBin oAdd (dBin oSub (dB oLen (aC (dV 4) (aN))) (dV 7)) (dC (.int 1))) (aN)))) (tgN 8) (fb_law_4)) (sSeq (sIf (dOr (dNot (dTv (dCall 2 den_law_same (aC (dCall 2 den_joined (aC (dV 5) (aC (dV 2) (aN)))) (aC (dV 13) (aN)))))) (dNot (dTv (dCall 2 den_law_same (aC (dCall 2 den_joined (aC (dSl (dV 5) (dPart (dC (.int 1))) (dPart (dV 7))) (aC (dV 2) (aN)))) (aC (dCall 2 den_law_constant (aC (dV 2) (aC (dSl (dV 6) (dPart (dC (.int 1))) (dPart (dV 7))) (aN)))) (aN))))))) (sRet (dC (.bl false))) (sNext)) (sSeq (sSet 9 (dB oTuple (aC (dL (lLc (iR1 (aC (dB oLen (aC (dV 14) (aN))) (aN))) (tgN 3) (tYesD) (ce_law_5) [3])) (aN)))) (sSeq (sSet 10 (bor 4 (dCall 4 den_parts_of (aC (dC (.int 5)) (aC (dV 2) (aC (dV 4) (aC (dV 9) (aN)))))))) (sSeq (sSet 11 (bor 4 (dB oTuple (aC (dL (lLc (iR1 (borA 4 (aC (dB oLen (aC (dV 4) (aN))) (aN)))) (tgN 3) (tYesD) (ce_law_6) [3])) (aN))))) (sSeq (sSet 12 (dB oTuple (aC (dL (lLc (iR1 (aC (dB oLen (aC (dV 14) (aN))) (aN))) (tgN 3) (tYesD) (ce_law_7) [3])) (aN)))) (sFrz 4 (sRet (dCall 2 den_law_same (aC (dV 11) (aC (dCall 4 den_parts_of (aC (dBin oMod (dB oInt (aC (dBin oAdd (dV 13) (dC (.int 5))) (aN))) (dV 2)) (aC (dV 2) (aC (dV 4) (aC (dV 12) (aN)))))) (aN))))))))))))))))))))))) δ T := id rfl
def den_law : List D → Mo D := runD 17 body_law
theorem ok_law {f : Addr} {fd : FuncData} (F : Fun K "law" "law" st_law f fd) (T : Top K mg) (G_law_tape : OkF P w K mg base "_law_tape" ["script"] 1 1 den_law_tape) (G_law_pick : OkF P w K mg base "_law_pick" ["tape", "row"] 2 2 den_law_pick) (G_law_draw : OkF P w K mg base "_law_draw" ["tape", "many"] 1 2 den_law_draw) (G_parts_of : OkF P w K mg base "parts_of" ["hidden", "order", "places", "blinds"] 1 4 den_parts_of) (G_law_value : OkF P w K mg base "_law_value" ["order", "numbers", "place"] 1 3 den_law_value) (G_law_same : OkF P w K mg base "_law_same" ["actual", "due"] 9 2 den_law_same) (G_joined : OkF P w K mg base "joined" ["parts", "order"] 3 2 den_joined) (G_law_constant : OkF P w K mg base "_law_constant" ["order", "parts"] 2 2 den_law_constant) : FnOk P w K mg base (L2.CX P w) 10 f fd ["script"] (SpD K mg 1 den_law) :=
  okD (j := 9) F sc_law rfl rfl fun cdv A outer s H E hr hu tk po => by
    have hN := sc_law.nd
    exact (dss_cons (ds_set 1 hN (de_f tk G_law_tape hr (da_cons (de_v 0) da_nil))) (dss_cons (ds_set 2 hN (de_f tk G_law_pick hr (da_cons (de_v 1) (da_cons (de_L (dl_lst (da_cons de_int (da_cons de_int (da_cons de_int (da_cons de_int (da_cons de_int (da_cons de_int (da_cons de_int (da_cons de_int da_nil)))))))))) da_nil)))) (dss_cons (ds_asg (de_tup (da_cons (de_f tk G_law_draw hr (da_cons (de_v 1) (da_cons (de_v 2) da_nil))) (da_cons (de_ty call_tuple_of cd_tuple T.b_tuple boot_tuple (da_cons (de_L (dl_lc rfl hN (own := [("k", 3)]) (di_r1 rfl T.b_range (da_cons (de_f tk G_law_draw hr (da_cons (de_v 1) (da_cons de_int da_nil))) da_nil)) (blkOk_by (N := ["script", "tape", "order", "k", "places", "parts", "due", "need", "first", "more", "extra", "both", "summed", "hidden", "blinds", "at", "some", "place"]) (sc := defScope st_law) (by decide +kernel)) (by decide) (fun _ _ _ _ _ => (dg_name 3 hN)) (fun _ _ _ _ _ => dts_nil) (fun _ _ _ _ _ => (de_f takes0 G_law_draw hr (da_cons (de_v 1) (da_cons (de_v 2) da_nil)))))) da_nil)) da_nil))) (dg_tup rfl (dgs_cons (dg_name 13 hN) (dgs_cons (dg_name 14 hN) dgs_nil)))) (dss_cons (ds_asgL 4 15 rfl hN (dl_lst da_nil) (de_bin op_addA opd_add de_int (de_f tk G_law_draw hr (da_cons (de_v 1) (da_cons (de_bin op_sub opd_sub (de_v 2) de_int) da_nil))))) (dss_cons (ds_for po rfl (di_r1 rfl T.b_range (da_cons (de_b (call_min2 rfl) cd_min T.b_min boot_min (da_cons (de_bin op_sub opd_sub (de_v 2) de_int) (da_cons (de_bin op_addA opd_add (de_bin op_addA opd_add (de_b call_len_seq cd_len T.b_len boot_len (da_cons (de_v 14) da_nil)) de_int) (de_f tk G_law_draw hr (da_cons (de_v 1) (da_cons de_int da_nil)))) da_nil))) da_nil)) (dg_name 3 hN) (dss_cons (ds_append 4 (de_v 15)) (dss_one (ds_set 15 hN (de_bin op_addA opd_add (de_bin op_mod opd_mod (de_ty call_int1 cd_int T.b_int boot_int (da_cons (de_v 15) da_nil)) (de_bin op_sub opd_sub (de_v 2) de_int)) de_int))))) (dss_cons (ds_if (dt_cmp (op_eqD hu) opd_eq (de_f tk G_law_draw hr (da_cons (de_v 1) (da_cons de_int da_nil))) de_int (nomark _)) (dss_one (ds_setL 4 hN (dl_bor 4 (dl_rev (de_v 4))))) dss_nil) (dss_cons (ds_set 4 hN (de_bor 4 (de_ty call_tuple_of cd_tuple T.b_tuple boot_tuple (da_cons (de_v 4) da_nil)))) (dss_cons (ds_set 5 hN (de_bor 4 (de_f tk G_parts_of hr (da_cons (de_v 13) (da_cons (de_v 2) (da_cons (de_v 4) (da_cons (de_v 14) da_nil))))))) (dss_cons (ds_set 6 hN (de_bor 4 (de_ty call_tuple_of cd_tuple T.b_tuple boot_tuple (da_cons (de_L (dl_lc rfl hN (own := [("place", 17)]) (di_tup (de_v 4)) (blkOk_by (N := ["script", "tape", "order", "k", "places", "parts", "due", "need", "first", "more", "extra", "both", "summed", "hidden", "blinds", "at", "some", "place"]) (sc := defScope st_law) (by decide +kernel)) (by decide) (fun _ _ _ _ _ => (dg_name 17 hN)) (fun _ _ _ _ _ => dts_nil) (fun _ _ _ _ _ => (de_tup (da_cons (de_v 17) (da_cons (de_f takes0 G_law_value hr (da_cons (de_v 2) (da_cons (de_bin op_addA opd_add (de_tup (da_cons (de_v 13) da_nil)) (de_v 14)) (da_cons (de_v 17) da_nil)))) da_nil)))))) da_nil)))) (dss_cons (ds_if (dt_not (dt_val (de_f tk G_law_same hr (da_cons (de_v 5) (da_cons (de_v 6) da_nil))))) (dss_one (ds_ret de_bl)) dss_nil) (dss_cons (ds_set 7 hN (de_bin op_addA opd_add (de_b call_len_seq cd_len T.b_len boot_len (da_cons (de_v 14) da_nil)) de_int)) (dss_cons (ds_for po rfl (di_r1 rfl T.b_range (da_bor 4 (da_cons (de_bin op_addA opd_add (de_bin op_sub opd_sub (de_b call_len_seq cd_len T.b_len boot_len (da_cons (de_v 4) da_nil)) (de_v 7)) de_int) da_nil))) (dg_name 8 hN) (dss_cons (ds_set 16 hN (de_slice (de_v 5) (do_some (de_v 8)) (do_some (de_bin op_addA opd_add (de_v 8) (de_v 7))))) (dss_one (ds_if (dt_w (dw_or (dt_not (dt_val (de_f tk G_law_same hr (da_cons (de_f tk G_joined hr (da_cons (de_v 16) (da_cons (de_v 2) da_nil))) (da_cons (de_v 13) da_nil))))) (dw_or1 (dt_not (dt_val (de_f tk G_law_same hr (da_cons (de_f tk G_joined hr (da_cons (de_rv (de_v 16) do_none) (da_cons (de_v 2) da_nil))) (da_cons (de_v 13) da_nil)))))))) (dss_one (ds_ret de_bl)) dss_nil)))) (dss_cons (ds_if (dt_w (dw_or (dt_not (dt_val (de_f tk G_law_same hr (da_cons (de_f tk G_joined hr (da_cons (de_v 5) (da_cons (de_v 2) da_nil))) (da_cons (de_v 13) da_nil))))) (dw_or1 (dt_not (dt_val (de_f tk G_law_same hr (da_cons (de_f tk G_joined hr (da_cons (de_slice (de_v 5) (do_some de_int) (do_some (de_v 7))) (da_cons (de_v 2) da_nil))) (da_cons (de_f tk G_law_constant hr (da_cons (de_v 2) (da_cons (de_slice (de_v 6) (do_some de_int) (do_some (de_v 7))) da_nil))) da_nil)))))))) (dss_one (ds_ret de_bl)) dss_nil) (dss_cons (ds_set 9 hN (de_ty call_tuple_of cd_tuple T.b_tuple boot_tuple (da_cons (de_L (dl_lc rfl hN (own := [("k", 3)]) (di_r1 rfl T.b_range (da_cons (de_b call_len_seq cd_len T.b_len boot_len (da_cons (de_v 14) da_nil)) da_nil)) (blkOk_by (N := ["script", "tape", "order", "k", "places", "parts", "due", "need", "first", "more", "extra", "both", "summed", "hidden", "blinds", "at", "some", "place"]) (sc := defScope st_law) (by decide +kernel)) (by decide) (fun _ _ _ _ _ => (dg_name 3 hN)) (fun _ _ _ _ _ => dts_nil) (fun _ _ _ _ _ => (de_f takes0 G_law_draw hr (da_cons (de_v 1) (da_cons (de_v 2) da_nil)))))) da_nil))) (dss_cons (ds_set 10 hN (de_bor 4 (de_f tk G_parts_of hr (da_cons de_int (da_cons (de_v 2) (da_cons (de_v 4) (da_cons (de_v 9) da_nil))))))) (dss_cons (ds_set 11 hN (de_bor 4 (de_ty call_tuple_of cd_tuple T.b_tuple boot_tuple (da_cons (de_L (dl_lc rfl hN (own := [("k", 3)]) (di_r1 rfl T.b_range (da_bor 4 (da_cons (de_b call_len_seq cd_len T.b_len boot_len (da_cons (de_v 4) da_nil)) da_nil))) (blkOk_by (N := ["script", "tape", "order", "k", "places", "parts", "due", "need", "first", "more", "extra", "both", "summed", "hidden", "blinds", "at", "some", "place"]) (sc := defScope st_law) (by decide +kernel)) (by decide) (fun _ _ _ _ _ => (dg_name 3 hN)) (fun _ _ _ _ _ => dts_nil) (fun _ _ _ _ _ => (de_tup (da_cons (de_ix ix_A opd_ix (de_v 4) (de_v 3) (fun _ _ => rfl)) (da_cons (de_bin op_mod opd_mod (de_ty call_int1 cd_int T.b_int boot_int (da_cons (de_bin op_addA opd_add (de_ix ix_A opd_ix (de_ix ix_A opd_ix (de_v 5) (de_v 3) (fun _ _ => rfl)) de_int (fun _ _ => rfl)) (de_ix ix_A opd_ix (de_ix ix_A opd_ix (de_v 10) (de_v 3) (fun _ _ => rfl)) de_int (fun _ _ => rfl))) da_nil)) (de_v 2)) da_nil)))))) da_nil)))) (dss_cons (ds_set 12 hN (de_ty call_tuple_of cd_tuple T.b_tuple boot_tuple (da_cons (de_L (dl_lc rfl hN (own := [("k", 3)]) (di_r1 rfl T.b_range (da_cons (de_b call_len_seq cd_len T.b_len boot_len (da_cons (de_v 14) da_nil)) da_nil)) (blkOk_by (N := ["script", "tape", "order", "k", "places", "parts", "due", "need", "first", "more", "extra", "both", "summed", "hidden", "blinds", "at", "some", "place"]) (sc := defScope st_law) (by decide +kernel)) (by decide) (fun _ _ _ _ _ => (dg_name 3 hN)) (fun _ _ _ _ _ => dts_nil) (fun _ _ _ _ _ => (de_bin op_mod opd_mod (de_ty call_int1 cd_int T.b_int boot_int (da_cons (de_bin op_addA opd_add (de_ix ix_A opd_ix (de_v 14) (de_v 3) (fun _ _ => rfl)) (de_ix ix_A opd_ix (de_v 9) (de_v 3) (fun _ _ => rfl))) da_nil)) (de_v 2))))) da_nil))) (dss_one (ds_frz 4 (ds_ret (de_f tk G_law_same hr (da_cons (de_v 11) (da_cons (de_f tk G_parts_of hr (da_cons (de_bin op_mod opd_mod (de_ty call_int1 cd_int T.b_int boot_int (da_cons (de_bin op_addA opd_add (de_v 13) de_int) da_nil)) (de_v 2)) (da_cons (de_v 2) (da_cons (de_v 4) (da_cons (de_v 12) da_nil))))) da_nil)))))))))))))))))))))))
end
end K77

namespace K77
open PySem PySem.Spec PyProof.Rows L2 DD
/-! ### numbers modulo p -/
/-- a polynomial at x -/
def pv (x : Int) : List Int → Int
  | [] => 0
  | c :: r => c + x * pv x r
/-- as parts_of reckons it -/
def pw (p x : Int) : List Int → Int → Int → Int
  | [], w, _ => w
  | b :: r, w, e => pw p x r (w + b * (e * x % p)) (e * x % p)
def cg (p a b : Int) : Prop := ∃ q, a = b + p * q
theorem cg.mod {p a b : Int} (h : cg p a b) : a % p = b % p := by
  obtain ⟨q, rfl⟩ := h
  exact Int.add_mul_emod_self_left ..
theorem cg.of (p a : Int) : cg p (a % p) a := ⟨-(a / p), by have := Int.emod_add_mul_ediv a p; grind⟩
theorem pw_cg (p x : Int) : ∀ (bs : List Int) (w e : Int), cg p (pw p x bs w e) (w + e * x * pv x bs)
  | [], w, e => ⟨0, by simp [pw, pv]⟩
  | b :: r, w, e => by
    obtain ⟨q, h⟩ := pw_cg p x r (w + b * (e * x % p)) (e * x % p)
    obtain ⟨k, hk⟩ := cg.of p (e * x)
    refine ⟨q + b * k + k * x * pv x r, ?_⟩
    show pw p x r (w + b * (e * x % p)) (e * x % p) = w + e * x * (b + x * pv x r) + p * _
    rw [h, hk]
    grind
/-- as _law_value reckons it -/
def hv (p x : Int) (cs : List Int) : Int := cs.foldr (fun c a => (a * x + c) % p) 0
theorem hv_cg (p x : Int) : ∀ cs : List Int, cg p (hv p x cs) (pv x cs)
  | [] => ⟨0, by simp [hv, pv]⟩
  | c :: r => by
    obtain ⟨q, h⟩ := hv_cg p x r
    obtain ⟨k, hk⟩ := cg.of p (hv p x r * x + c)
    refine ⟨k + q * x, ?_⟩
    show (hv p x r * x + c) % p = c + x * pv x r + p * _
    rw [hk, h]
    grind
theorem hv_eq {p x : Int} (c : Int) (bs : List Int) : hv p x (c :: bs) = pw p x bs c 1 % p := by
  have h1 := (pw_cg p x bs c 1).mod
  have h2 := (hv_cg p x (c :: bs)).mod
  have h3 : hv p x (c :: bs) % p = hv p x (c :: bs) := Int.emod_emod_of_dvd _ (Int.dvd_refl p)
  rw [h3] at h2
  rw [h2, h1]
  show (c + x * pv x bs) % p = _
  rw [Int.one_mul]
/-! ### the two functions -/
theorem parts_in (p x : Int) (h0 : 0 < p) (h1 : p < 1000) (hx0 : -1000 < x) (hx : x < 1000) (a b c d e f : Sl) (T : Option Tape) : ∀ (bs : List Int) (w pr : Int) (s6 : Sl), ∃ s6' pr', forD (tgN 6) fb_parts_of_2 (bs.map .int) [a, .val (.int p), b, c, d, .val (.int x), s6, .val (.int w), .val (.int pr)] T = .nx [a, .val (.int p), b, c, d, .val (.int x), s6', .val (.int (pw p x bs w pr)), .val (.int pr')] T
  | [], w, pr, s6 => ⟨s6, pr, rfl⟩
  | z :: r, w, pr, s6 => by
    have hp : pr * x % p < p := Int.emod_lt_of_pos _ h0
    have hn : 0 ≤ pr * x % p := Int.emod_nonneg _ (by omega)
    obtain ⟨s, q, ih⟩ := parts_in p x h0 h1 hx0 hx a b c d e f T r (w + z * (pr * x % p)) (pr * x % p) (.val (.int z))
    refine ⟨s, q, ?_⟩
    have m1 : oMul (.int pr) (.int x) = some (.int (pr * x)) := oMul_r (by omega) (by omega)
    have m2 : oMul (.int z) (.int (pr * x % p)) = some (.int (z * (pr * x % p))) := oMul_r (by omega) (by omega)
    rw [List.map_cons, forD_cons]
    simp [fb_parts_of_2_eq, m1, m2, oMod_i h0]
    exact ih
def partD (p : Int) (c : Int) (bs : List Int) (x : Int) : D := .tup [.int x, .int (pw p x bs c 1 % p)]
theorem parts_out (p c : Int) (bs : List Int) (h0 : 0 < p) (h1 : p < 1000) (b : Sl) (T : Option Tape) : ∀ (xs : List Int) (acc : List D) (s5 s6 s7 s8 : Sl), (∀ x ∈ xs, -1000 < x ∧ x < 1000) → acc.length + xs.length < 1000 → ∃ s5' s6' s7' s8', forD (tgN 5) fb_parts_of_1 (xs.map .int) [.val (.int c), .val (.int p), b, .val (.tup (bs.map .int)), .own acc, s5, s6, s7, s8] T = .nx [.val (.int c), .val (.int p), b, .val (.tup (bs.map .int)), .own (acc ++ xs.map (partD p c bs)), s5', s6', s7', s8'] T
  | [], acc, s5, s6, s7, s8, _, _ => ⟨s5, s6, s7, s8, by simp [forD_nil]⟩
  | x :: r, acc, s5, s6, s7, s8, hx, hl => by
    obtain ⟨hx0, hx1⟩ := hx x List.mem_cons_self
    simp only [List.length_cons] at hl
    have hacc : acc.length < line := line_pos _ (by omega)
    obtain ⟨s, q, e⟩ := parts_in p x h0 h1 hx0 hx1 (.val (.int c)) b (.val (.tup (bs.map .int))) (.own acc) .un .un T bs c 1 s6
    obtain ⟨a1, a2, a3, a4, ih⟩ := parts_out p c bs h0 h1 b T r (acc ++ [partD p c bs x]) (.val (.int x)) s (.val (.int (pw p x bs c 1))) (.val (.int q)) (fun z hz => hx z (List.mem_cons_of_mem _ hz)) (by simp; omega)
    refine ⟨a1, a2, a3, a4, ?_⟩
    rw [List.map_cons, forD_cons]
    simp [fb_parts_of_1_eq, e, oMod_i h0, hacc]
    simp [partD] at ih ⊢
    exact ih
theorem parts_den (p c : Int) (bs xs : List Int) (h0 : 0 < p) (h1 : p < 1000) (hx : ∀ x ∈ xs, -1000 < x ∧ x < 1000) (hl : xs.length < 1000) (T : Option Tape) : den_parts_of [.int c, .int p, .tup (xs.map .int), .tup (bs.map .int)] T = .ok (.tup (xs.map (partD p c bs))) T := by
  obtain ⟨a1, a2, a3, a4, e⟩ := parts_out p c bs h0 h1 (.val (.tup (xs.map .int))) T xs [] .un .un .un .un hx (by simpa using hl)
  simp [den_parts_of, runD_a, body_parts_of_eq, e, frz_own]
theorem value_in (p x : Int) (h0 : 0 < p) (h1 : p < 1000) (hx0 : -1000 < x) (hx : x < 1000) (a : Sl) (T : Option Tape) : ∀ (bs : List Int) (w : Int) (s4 : Sl), ∃ s4', forD (tgN 4) fb_law_value_1 (bs.map .int) [.val (.int p), a, .val (.int x), .val (.int w), s4] T = .nx [.val (.int p), a, .val (.int x), .val (.int (bs.foldl (fun a c => (a * x + c) % p) w)), s4'] T
  | [], w, s4 => ⟨s4, rfl⟩
  | z :: r, w, s4 => by
    obtain ⟨s, ih⟩ := value_in p x h0 h1 hx0 hx a T r ((w * x + z) % p) (.val (.int z))
    refine ⟨s, ?_⟩
    have m1 : oMul (.int w) (.int x) = some (.int (w * x)) := oMul_r (by omega) (by omega)
    rw [List.map_cons, forD_cons]
    simp [fb_law_value_1_eq, m1, oMod_i h0]
    exact ih
theorem value_den (p x : Int) (cs : List Int) (h0 : 0 < p) (h1 : p < 1000) (hx0 : -1000 < x) (hx : x < 1000) (T : Option Tape) : den_law_value [.int p, .tup (cs.map .int), .int x] T = .ok (.int (hv p x cs)) T := by
  obtain ⟨s, e⟩ := value_in p x h0 h1 hx0 hx (.val (.tup (cs.map .int))) T cs.reverse 0 .un
  rw [List.foldl_reverse] at e
  rw [List.map_reverse] at e
  simp [den_law_value, runD_a, body_law_value_eq, e]
  rfl
theorem cg.uniq {p b v w : Int} (h0 : 0 < p) (h : cg p (b * v) 1) (g : cg p (b * w) 1) (hv0 : 0 ≤ v) (hv : v < p) (hw0 : 0 ≤ w) (hw : w < p) : v = w := by
  obtain ⟨q, h⟩ := h
  obtain ⟨r, g⟩ := g
  have e : cg p v w := ⟨q * w - r * v, by grind⟩
  have := e.mod
  rw [Int.emod_eq_of_lt hv0 hv, Int.emod_eq_of_lt hw0 hw] at this
  exact this
theorem emul (f s : Int) : f - f / s * s = f % s := by
  have := Int.emod_add_mul_ediv f s
  have e : f / s * s = s * (f / s) := Int.mul_comm _ _
  omega
/-- the loop of bezout -/
theorem bez_loop (a p : Int) (c0 c1 c2 : Sl) (T : Option Tape) : ∀ (n : Nat) (f s l r : Int) (s7 : Sl), 0 ≤ f → f < 2 ^ 62 → 0 ≤ s → s < 2 ^ 62 → s.toNat < n → (∃ u, f = a * l + p * u) → (∃ u, s = a * r + p * u) → (∀ d, d ∣ f → d ∣ s → d ∣ a ∧ d ∣ p) →
    ∃ f' l' r' s7', iterW wc_bezout_1 wb_bezout_1 n [c0, c1, c2, .val (.int l), .val (.int f), .val (.int s), .val (.int r), s7] T = .nx [c0, c1, c2, .val (.int l'), .val (.int f'), .val (.int 0), .val (.int r'), s7'] T ∧ 0 ≤ f' ∧ (∃ u, f' = a * l' + p * u) ∧ f' ∣ a ∧ f' ∣ p := by
  intro n
  induction n with
  | zero => intro f s l r s7 _ _ _ _ h; omega
  | succ n ih =>
    intro f s l r s7 hf hf2 hs hs2 hn hu hw hd
    rw [iterW_succ, turnW_a]
    by_cases z : s = 0
    · subst z
      refine ⟨f, l, r, s7, ?_, hf, hu, hd f (Int.dvd_refl _) (Int.dvd_zero _)⟩
      simp [wc_bezout_1_eq]
    · have hs' : 0 < s := by omega
      have m0 : oDiv (.int f) (.int s) = some (.int (f / s)) := oDiv_i hs' (by omega)
      have m1 : oMul (.int (f / s)) (.int s) = some (.int (f / s * s)) := oMul_r (by omega) (by omega)
      have hq0 : 0 ≤ f / s := Int.ediv_nonneg hf hs
      have hq : f / s ≤ f := Int.ediv_le_self _ hf
      have m2 : oMul (.int (f / s)) (.int r) = some (.int (f / s * r)) := oMul_l (by omega) (by omega)
      have em := emul f s
      have h1 : 0 ≤ f % s := Int.emod_nonneg _ (by omega)
      have h2 : f % s < s := Int.emod_lt_of_pos _ hs'
      obtain ⟨f', l', r', s7', e, k⟩ := ih s (f - f / s * s) r (l - f / s * r) (.val (.int (f / s))) hs hs2 (by omega) (by omega) (by omega) hw (by
          obtain ⟨u, hu⟩ := hu
          obtain ⟨w, hw⟩ := hw
          exact ⟨u - f / s * w, by grind⟩) (fun d d1 d2 => hd d (by
          have : f = (f - f / s * s) + f / s * s := by omega
          rw [this]
          exact Int.dvd_add d2 (Int.dvd_mul_of_dvd_right d1)) d1)
      refine ⟨f', l', r', s7', ?_, k⟩
      simp [wc_bezout_1_eq, wb_bezout_1_eq, z, m0, m1, m2]
      exact e
theorem inv_den {p b v : Int} (h0 : 1 < p) (h1 : p < 1000) (hb0 : 0 ≤ b) (hb : b < p) (h : cg p (b * v) 1) (hv0 : 0 ≤ v) (hv : v < p) (T : Option Tape) : den_inverse [.int b, .int p] T = .ok (.int v) T := by
  have hbm : b % p = b := Int.emod_eq_of_lt hb0 hb
  obtain ⟨f, l, r, s7, e, hf, ⟨u, hu⟩, d1, d2⟩ := bez_loop b p (.val (.int b)) (.val (.int p)) .un T fuel b p 1 0 .un hb0 (by omega) (by omega) (by omega) (by unfold fuel; omega) ⟨0, by simp⟩ ⟨1, by simp⟩ (fun d x y => ⟨x, y⟩)
  have f1 : f = 1 := by
    obtain ⟨q, h⟩ := h
    have : f ∣ 1 := by
      have e1 : (1 : Int) = b * v - p * q := by omega
      rw [e1]
      exact Int.dvd_sub (Int.dvd_mul_of_dvd_left d1) (Int.dvd_mul_of_dvd_left d2)
    exact Int.eq_one_of_dvd_one hf this
  subst f1
  have hv' : l % p = v := by
    have c1 : cg p (b * (l % p)) 1 := by
      obtain ⟨k, hk⟩ := cg.of p l
      exact ⟨b * k - u, by rw [hk]; grind⟩
    exact cg.uniq (by omega) c1 h (Int.emod_nonneg _ (by omega)) (Int.emod_lt_of_pos _ (by omega)) hv0 hv
  have hp : (0 : Int) < p := by omega
  have n1 : ¬ (p < 0) := by omega
  have n2 : ¬ (p = 0) := by omega
  have m1 : oDiv (.int p) (.int 1) = some (.int p) := by rw [oDiv_i (by omega) (by omega), Int.ediv_one]
  have m2 : oMul (.int b) (.int v) = some (.int (b * v)) := oMul_r (by omega) (by omega)
  have m3 : oDiv (.int (1 - b * v)) (.int p) = some (.int ((1 - b * v) / p)) := oDiv_i hp (by omega)
  have hvm : v % p = v := Int.emod_eq_of_lt hv0 hv
  simp [den_inverse, runD_a, body_inverse_eq, oMod_i hp, hbm, den_bezout, body_bezout_eq, sWhile_a, e, n1, n2, m1, m2, m3, hv', hvm, line]
/-- the loop of _law_inverse -/
theorem linv_loop (a p : Int) (c0 c1 : Sl) (T : Option Tape) : ∀ (n : Nat) (f s l r : Int) (s6 : Sl), 0 ≤ f → f < 2 ^ 62 → 0 ≤ s → s < 2 ^ 62 → s.toNat < n → (∃ u, f = a * l + p * u) → (∃ u, s = a * r + p * u) → (∀ d, d ∣ f → d ∣ s → d ∣ a ∧ d ∣ p) →
    ∃ f' l' r' s6', iterW wc_law_inverse_1 wb_law_inverse_1 n [c0, c1, .val (.int f), .val (.int s), .val (.int l), .val (.int r), s6] T = .nx [c0, c1, .val (.int f'), .val (.int 0), .val (.int l'), .val (.int r'), s6'] T ∧ 0 ≤ f' ∧ (∃ u, f' = a * l' + p * u) ∧ f' ∣ a ∧ f' ∣ p := by
  intro n
  induction n with
  | zero => intro f s l r s7 _ _ _ _ h; omega
  | succ n ih =>
    intro f s l r s7 hf hf2 hs hs2 hn hu hw hd
    rw [iterW_succ, turnW_a]
    by_cases z : s = 0
    · subst z
      refine ⟨f, l, r, s7, ?_, hf, hu, hd f (Int.dvd_refl _) (Int.dvd_zero _)⟩
      simp [wc_law_inverse_1_eq]
    · have hs' : 0 < s := by omega
      have m0 : oDiv (.int f) (.int s) = some (.int (f / s)) := oDiv_i hs' (by omega)
      have m1 : oMul (.int (f / s)) (.int s) = some (.int (f / s * s)) := oMul_r (by omega) (by omega)
      have hq0 : 0 ≤ f / s := Int.ediv_nonneg hf hs
      have hq : f / s ≤ f := Int.ediv_le_self _ hf
      have m2 : oMul (.int (f / s)) (.int r) = some (.int (f / s * r)) := oMul_l (by omega) (by omega)
      have em := emul f s
      have h1 : 0 ≤ f % s := Int.emod_nonneg _ (by omega)
      have h2 : f % s < s := Int.emod_lt_of_pos _ hs'
      obtain ⟨f', l', r', s7', e, k⟩ := ih s (f - f / s * s) r (l - f / s * r) (.val (.int (f / s))) hs hs2 (by omega) (by omega) (by omega) hw (by
          obtain ⟨u, hu⟩ := hu
          obtain ⟨w, hw⟩ := hw
          exact ⟨u - f / s * w, by grind⟩) (fun d d1 d2 => hd d (by
          have : f = (f - f / s * s) + f / s * s := by omega
          rw [this]
          exact Int.dvd_add d2 (Int.dvd_mul_of_dvd_right d1)) d1)
      refine ⟨f', l', r', s7', ?_, k⟩
      simp [wc_law_inverse_1_eq, wb_law_inverse_1_eq, z, m0, m1, m2]
      exact e
theorem linv_den {p b v : Int} (h0 : 1 < p) (h1 : p < 1000) (hb0 : 0 ≤ b) (hb : b < p) (h : cg p (b * v) 1) (hv0 : 0 ≤ v) (hv : v < p) (T : Option Tape) : den_law_inverse [.int b, .int p] T = .ok (.int v) T := by
  have hbm : b % p = b := Int.emod_eq_of_lt hb0 hb
  obtain ⟨f, l, r, s7, e, hf, ⟨u, hu⟩, d1, d2⟩ := linv_loop b p (.val (.int b)) (.val (.int p)) T fuel p b 0 1 .un (by omega) (by omega) hb0 (by omega) (by unfold fuel; omega) ⟨1, by simp⟩ ⟨0, by simp⟩ (fun d x y => ⟨y, x⟩)
  have f1 : f = 1 := by
    obtain ⟨q, h⟩ := h
    have : f ∣ 1 := by
      have e1 : (1 : Int) = b * v - p * q := by omega
      rw [e1]
      exact Int.dvd_sub (Int.dvd_mul_of_dvd_left d1) (Int.dvd_mul_of_dvd_left d2)
    exact Int.eq_one_of_dvd_one hf this
  subst f1
  have hv' : l % p = v := by
    have c1 : cg p (b * (l % p)) 1 := by
      obtain ⟨k, hk⟩ := cg.of p l
      exact ⟨b * k - u, by rw [hk]; grind⟩
    exact cg.uniq (by omega) c1 h (Int.emod_nonneg _ (by omega)) (Int.emod_lt_of_pos _ (by omega)) hv0 hv
  have hp : (0 : Int) < p := by omega
  simp [den_law_inverse, runD_a, body_law_inverse_eq, oMod_i hp, hbm, sWhile_a, e, hv', line]
def ab (p x : Int) : List Int → Int → Int → Int × Int
  | [], a, b => (a, b)
  | o :: r, a, b => if o = x then ab p x r a b else ab p x r (a * o % p) (b * (o - x) % p)
def prD (q : Int × Int) : D := .tup [.int q.1, .int q.2]
theorem joined_in (p x : Int) (h0 : 0 < p) (h1 : p < 1000) (hx0 : -1000 < x) (hx : x < 1000) (c0 c2 c4 : Sl) (T : Option Tape) : ∀ (os : List (Int × Int)) (a b : Int) (s7 s8 : Sl), (∀ o ∈ os, -1000 < o.1 ∧ o.1 < 1000) → ∃ s7' s8', forD (tgT 2 (tgCons (tgN 7) (tgCons (tgN 8) (tgNil)))) fb_joined_2 (os.map prD) [c0, .val (.int p), c2, .val (.int x), c4, .val (.int a), .val (.int b), s7, s8] T = .nx [c0, .val (.int p), c2, .val (.int x), c4, .val (.int (ab p x (os.map (·.1)) a b).1), .val (.int (ab p x (os.map (·.1)) a b).2), s7', s8'] T
  | [], a, b, s7, s8, _ => ⟨s7, s8, rfl⟩
  | o :: r, a, b, s7, s8, ho => by
    obtain ⟨o1, o2⟩ := ho o List.mem_cons_self
    have hr : ∀ z ∈ r, -1000 < z.1 ∧ z.1 < 1000 := fun z hz => ho z (List.mem_cons_of_mem _ hz)
    have m1 : oMul (.int a) (.int o.1) = some (.int (a * o.1)) := oMul_r (by omega) (by omega)
    have m2 : oMul (.int b) (.int (o.1 - x)) = some (.int (b * (o.1 - x))) := oMul_r (by omega) (by omega)
    rw [List.map_cons, List.map_cons, forD_cons]
    by_cases z : o.1 = x
    · obtain ⟨s, q, ih⟩ := joined_in p x h0 h1 hx0 hx c0 c2 c4 T r a b (.val (.int o.1)) (.val (.int o.2)) hr
      refine ⟨s, q, ?_⟩
      have e : ab p x (o.1 :: r.map (·.1)) a b = ab p x (r.map (·.1)) a b := if_pos z
      rw [e]
      simp [fb_joined_2_eq, prD, z]
      rw [z] at ih
      exact ih
    · obtain ⟨s, q, ih⟩ := joined_in p x h0 h1 hx0 hx c0 c2 c4 T r (a * o.1 % p) (b * (o.1 - x) % p) (.val (.int o.1)) (.val (.int o.2)) hr
      refine ⟨s, q, ?_⟩
      have e : ab p x (o.1 :: r.map (·.1)) a b = ab p x (r.map (·.1)) (a * o.1 % p) (b * (o.1 - x) % p) := if_neg z
      rw [e]
      simp [fb_joined_2_eq, prD, z, m1, m2, oMod_i h0]
      exact ih
theorem const_in (p x : Int) (h0 : 0 < p) (h1 : p < 1000) (hx0 : -1000 < x) (hx : x < 1000) (c0 c2 c4 : Sl) (T : Option Tape) : ∀ (os : List (Int × Int)) (a b : Int) (s7 s8 : Sl), (∀ o ∈ os, -1000 < o.1 ∧ o.1 < 1000) → ∃ s7' s8', forD (tgT 2 (tgCons (tgN 7) (tgCons (tgN 8) (tgNil)))) fb_law_constant_2 (os.map prD) [.val (.int p), c0, c2, .val (.int x), c4, .val (.int a), .val (.int b), s7, s8] T = .nx [.val (.int p), c0, c2, .val (.int x), c4, .val (.int (ab p x (os.map (·.1)) a b).1), .val (.int (ab p x (os.map (·.1)) a b).2), s7', s8'] T
  | [], a, b, s7, s8, _ => ⟨s7, s8, rfl⟩
  | o :: r, a, b, s7, s8, ho => by
    obtain ⟨o1, o2⟩ := ho o List.mem_cons_self
    have hr : ∀ z ∈ r, -1000 < z.1 ∧ z.1 < 1000 := fun z hz => ho z (List.mem_cons_of_mem _ hz)
    have m1 : oMul (.int a) (.int o.1) = some (.int (a * o.1)) := oMul_r (by omega) (by omega)
    have m2 : oMul (.int b) (.int (o.1 - x)) = some (.int (b * (o.1 - x))) := oMul_r (by omega) (by omega)
    rw [List.map_cons, List.map_cons, forD_cons]
    by_cases z : o.1 = x
    · obtain ⟨s, q, ih⟩ := const_in p x h0 h1 hx0 hx c0 c2 c4 T r a b (.val (.int o.1)) (.val (.int o.2)) hr
      refine ⟨s, q, ?_⟩
      have e : ab p x (o.1 :: r.map (·.1)) a b = ab p x (r.map (·.1)) a b := if_pos z
      rw [e]
      simp [fb_law_constant_2_eq, prD, z]
      rw [z] at ih
      exact ih
    · obtain ⟨s, q, ih⟩ := const_in p x h0 h1 hx0 hx c0 c2 c4 T r (a * o.1 % p) (b * (o.1 - x) % p) (.val (.int o.1)) (.val (.int o.2)) hr
      refine ⟨s, q, ?_⟩
      have e : ab p x (o.1 :: r.map (·.1)) a b = ab p x (r.map (·.1)) (a * o.1 % p) (b * (o.1 - x) % p) := if_neg z
      rw [e]
      simp [fb_law_constant_2_eq, prD, z, m1, m2, oMod_i h0]
      exact ih
/-- the weights are fit -/
structure Good (p : Int) (xs : List Int) (A V : Int → Int) : Prop where
  hx : ∀ x ∈ xs, 0 < x ∧ x < p
  hab : ∀ x ∈ xs, ∃ B, ab p x xs 1 1 = (A x, B) ∧ 0 ≤ B ∧ B < p ∧ cg p (B * V x) 1 ∧ 0 ≤ V x ∧ V x < p
def js (A V : Int → Int) : List (Int × Int) → Int → Int
  | [], f => f
  | q :: r, f => js A V r (f + q.2 * A q.1 * V q.1)
def jc (p : Int) (A V : Int → Int) : List (Int × Int) → Int → Int
  | [], f => f
  | q :: r, f => jc p A V r ((f + q.2 * A q.1 * V q.1) % p)
theorem joined_out {p : Int} (h0 : 1 < p) (h1 : p < 1000) {ps : List (Int × Int)} {A V : Int → Int} (G : Good p (ps.map (·.1)) A V) (hw : ∀ q ∈ ps, 0 ≤ q.2 ∧ q.2 < p) (T : Option Tape) : ∀ (qs : List (Int × Int)) (f : Int) (s3 s4 s5 s6 s7 s8 : Sl), (∀ q ∈ qs, q ∈ ps) →
    ∃ s3' s4' s5' s6' s7' s8', forD (tgT 2 (tgCons (tgN 3) (tgCons (tgN 4) (tgNil)))) fb_joined_1 (qs.map prD) [.val (.tup (ps.map prD)), .val (.int p), .val (.int f), s3, s4, s5, s6, s7, s8] T = .nx [.val (.tup (ps.map prD)), .val (.int p), .val (.int (js A V qs f)), s3', s4', s5', s6', s7', s8'] T
  | [], f, s3, s4, s5, s6, s7, s8, _ => ⟨s3, s4, s5, s6, s7, s8, rfl⟩
  | q :: r, f, s3, s4, s5, s6, s7, s8, hq => by
    have hm := hq q List.mem_cons_self
    have hmx : q.1 ∈ ps.map (·.1) := List.mem_map_of_mem hm
    obtain ⟨x0, x1⟩ := G.hx q.1 hmx
    obtain ⟨B, e1, b0, b1, hc, v0, v1⟩ := G.hab q.1 hmx
    obtain ⟨w0, w1⟩ := hw q hm
    obtain ⟨y7, y8, e⟩ := joined_in p q.1 (by omega) h1 (by omega) (by omega) (.val (.tup (ps.map prD))) (.val (.int f)) (.val (.int q.2)) T ps 1 1 s7 s8 (fun o ho => by
      obtain ⟨z0, z1⟩ := G.hx o.1 (List.mem_map_of_mem ho)
      omega)
    rw [e1] at e
    obtain ⟨a1, a2, a3, a4, a5, a6, ih⟩ := joined_out h0 h1 G hw T r (f + q.2 * A q.1 * V q.1) (.val (.int q.1)) (.val (.int q.2)) (.val (.int (A q.1))) (.val (.int B)) y7 y8 fun z hz => hq z (List.mem_cons_of_mem _ hz)
    refine ⟨a1, a2, a3, a4, a5, a6, ?_⟩
    have m1 : oMul (.int q.2) (.int (A q.1)) = some (.int (q.2 * A q.1)) := oMul_l (by omega) (by omega)
    have m2 : oMul (.int (q.2 * A q.1)) (.int (V q.1)) = some (.int (q.2 * A q.1 * V q.1)) := oMul_r (by omega) (by omega)
    have iv := inv_den h0 h1 b0 b1 hc v0 v1 T
    rw [List.map_cons, forD_cons]
    rw [show prD q = .tup [.int q.1, .int q.2] from rfl]
    simp [fb_joined_1_eq, e, iv, m1, m2, line]
    exact ih
theorem joined_den {p : Int} (h0 : 1 < p) (h1 : p < 1000) {ps : List (Int × Int)} {A V : Int → Int} (G : Good p (ps.map (·.1)) A V) (hw : ∀ q ∈ ps, 0 ≤ q.2 ∧ q.2 < p) (T : Option Tape) : den_joined [.tup (ps.map prD), .int p] T = .ok (.int (js A V ps 0 % p)) T := by
  obtain ⟨a1, a2, a3, a4, a5, a6, e⟩ := joined_out h0 h1 G hw T ps 0 .un .un .un .un .un .un fun _ h => h
  simp [den_joined, runD_a, body_joined_eq, e, oMod_i (show 0 < p by omega)]
theorem const_out {p : Int} (h0 : 1 < p) (h1 : p < 1000) {ps : List (Int × Int)} {A V : Int → Int} (G : Good p (ps.map (·.1)) A V) (hw : ∀ q ∈ ps, 0 ≤ q.2 ∧ q.2 < p) (T : Option Tape) : ∀ (qs : List (Int × Int)) (f : Int) (s3 s4 s5 s6 s7 s8 : Sl), (∀ q ∈ qs, q ∈ ps) →
    ∃ s3' s4' s5' s6' s7' s8', forD (tgT 2 (tgCons (tgN 3) (tgCons (tgN 4) (tgNil)))) fb_law_constant_1 (qs.map prD) [.val (.int p), .val (.tup (ps.map prD)), .val (.int f), s3, s4, s5, s6, s7, s8] T = .nx [.val (.int p), .val (.tup (ps.map prD)), .val (.int (jc p A V qs f)), s3', s4', s5', s6', s7', s8'] T
  | [], f, s3, s4, s5, s6, s7, s8, _ => ⟨s3, s4, s5, s6, s7, s8, rfl⟩
  | q :: r, f, s3, s4, s5, s6, s7, s8, hq => by
    have hm := hq q List.mem_cons_self
    have hmx : q.1 ∈ ps.map (·.1) := List.mem_map_of_mem hm
    obtain ⟨x0, x1⟩ := G.hx q.1 hmx
    obtain ⟨B, e1, b0, b1, hc, v0, v1⟩ := G.hab q.1 hmx
    obtain ⟨w0, w1⟩ := hw q hm
    obtain ⟨y7, y8, e⟩ := const_in p q.1 (by omega) h1 (by omega) (by omega) (.val (.tup (ps.map prD))) (.val (.int f)) (.val (.int q.2)) T ps 1 1 s7 s8 (fun o ho => by
      obtain ⟨z0, z1⟩ := G.hx o.1 (List.mem_map_of_mem ho)
      omega)
    rw [e1] at e
    obtain ⟨a1, a2, a3, a4, a5, a6, ih⟩ := const_out h0 h1 G hw T r ((f + q.2 * A q.1 * V q.1) % p) (.val (.int q.1)) (.val (.int q.2)) (.val (.int (A q.1))) (.val (.int B)) y7 y8 fun z hz => hq z (List.mem_cons_of_mem _ hz)
    refine ⟨a1, a2, a3, a4, a5, a6, ?_⟩
    have m1 : oMul (.int q.2) (.int (A q.1)) = some (.int (q.2 * A q.1)) := oMul_l (by omega) (by omega)
    have m2 : oMul (.int (q.2 * A q.1)) (.int (V q.1)) = some (.int (q.2 * A q.1 * V q.1)) := oMul_r (by omega) (by omega)
    have iv := linv_den h0 h1 b0 b1 hc v0 v1 T
    rw [List.map_cons, forD_cons]
    rw [show prD q = .tup [.int q.1, .int q.2] from rfl]
    simp [fb_law_constant_1_eq, e, iv, m1, m2, line, oMod_i (show 0 < p by omega)]
    exact ih
theorem const_den {p : Int} (h0 : 1 < p) (h1 : p < 1000) {ps : List (Int × Int)} {A V : Int → Int} (G : Good p (ps.map (·.1)) A V) (hw : ∀ q ∈ ps, 0 ≤ q.2 ∧ q.2 < p) (T : Option Tape) : den_law_constant [.int p, .tup (ps.map prD)] T = .ok (.int (jc p A V ps 0)) T := by
  obtain ⟨a1, a2, a3, a4, a5, a6, e⟩ := const_out h0 h1 G hw T ps 0 .un .un .un .un .un .un fun _ h => h
  simp [den_law_constant, runD_a, body_law_constant_eq, e]
/-- both sums agree -/
theorem js_add (A V : Int → Int) : ∀ (ps : List (Int × Int)) (f g : Int), js A V ps (f + g) = js A V ps f + g
  | [], f, g => rfl
  | q :: r, f, g => by
    show js A V r (f + g + q.2 * A q.1 * V q.1) = js A V r (f + q.2 * A q.1 * V q.1) + g
    rw [← js_add A V r]
    congr 1
    omega
theorem jc_js {p : Int} (h0 : 0 < p) (A V : Int → Int) : ∀ (ps : List (Int × Int)) (f : Int), 0 ≤ f → f < p → jc p A V ps f = js A V ps f % p
  | [], f, h1, h2 => (Int.emod_eq_of_lt h1 h2).symm
  | q :: r, f, h1, h2 => by
    show jc p A V r ((f + q.2 * A q.1 * V q.1) % p) = js A V r (f + q.2 * A q.1 * V q.1) % p
    rw [jc_js h0 A V r _ (Int.emod_nonneg _ (by omega)) (Int.emod_lt_of_pos _ h0)]
    obtain ⟨k, hk⟩ := cg.of p (f + q.2 * A q.1 * V q.1)
    rw [hk, js_add]
    exact Int.add_mul_emod_self_left ..
def sm (f : Int → Int) : List Int → Int
  | [] => 0
  | x :: r => f x + sm f r
theorem cg.add {p a b c d : Int} (h : cg p a b) (g : cg p c d) : cg p (a + c) (b + d) := by
  obtain ⟨q, rfl⟩ := h
  obtain ⟨r, rfl⟩ := g
  exact ⟨q + r, by grind⟩
theorem cg.mulr {p a b : Int} (h : cg p a b) (c : Int) : cg p (a * c) (b * c) := by
  obtain ⟨q, rfl⟩ := h
  exact ⟨q * c, by grind⟩
theorem cg.refl (p a : Int) : cg p a a := ⟨0, by simp⟩
theorem cg.symm {p a b : Int} (h : cg p a b) : cg p b a := by
  obtain ⟨q, rfl⟩ := h
  exact ⟨-q, by grind⟩
theorem cg.trans {p a b c : Int} (h : cg p a b) (g : cg p b c) : cg p a c := by
  obtain ⟨q, rfl⟩ := h
  obtain ⟨r, rfl⟩ := g
  exact ⟨q + r, by grind⟩
theorem js_sm {p : Int} (A V F G : Int → Int) : ∀ (xs : List Int) (f g : Int), (∀ x ∈ xs, cg p (F x) (G x)) → cg p f g → cg p (js A V (xs.map fun x => (x, F x)) f) (g + sm (fun x => G x * (A x * V x)) xs)
  | [], f, g, _, h => by
    show cg p f (g + 0)
    rw [Int.add_zero]; exact h
  | x :: r, f, g, hF, h => by
    have e := hF x List.mem_cons_self
    have e2 : cg p (f + F x * A x * V x) (g + G x * (A x * V x)) := by
      rw [Int.mul_assoc]
      exact h.add (e.mulr _)
    have ih := js_sm A V F G r _ _ (fun z hz => hF z (List.mem_cons_of_mem _ hz)) e2
    show cg p (js A V (r.map fun x => (x, F x)) (f + F x * A x * V x)) (g + (G x * (A x * V x) + sm _ r))
    rw [← Int.add_assoc]
    exact ih
/-- moments of the weights -/
def mom (W : Int → Int) (xs : List Int) (k : Nat) : Int := sm (fun x => x ^ k * W x) xs
def lin (W : Int → Int) (xs : List Int) : List Int → Nat → Int
  | [], _ => 0
  | c :: r, k => c * mom W xs k + lin W xs r (k + 1)
theorem sm_add (f g : Int → Int) (c : Int) : ∀ xs : List Int, sm (fun x => c * f x + g x) xs = c * sm f xs + sm g xs
  | [] => by simp [sm]
  | x :: r => by
    show c * f x + g x + sm (fun x => c * f x + g x) r = c * (f x + sm f r) + (g x + sm g r)
    rw [sm_add f g c r]
    grind
theorem sm_congr {f g : Int → Int} (h : ∀ x, f x = g x) (xs : List Int) : sm f xs = sm g xs := by
  have : f = g := funext h
  rw [this]
theorem sm_zero : ∀ xs : List Int, sm (fun _ => 0) xs = 0
  | [] => rfl
  | x :: r => by
    show 0 + sm (fun _ => 0) r = 0
    rw [sm_zero r]; rfl
theorem sm_pv (W : Int → Int) (xs : List Int) : ∀ (cs : List Int) (k : Nat), sm (fun x => x ^ k * pv x cs * W x) xs = lin W xs cs k
  | [], k => by
    rw [sm_congr (g := fun _ => 0) (fun x => by simp [pv]) xs, sm_zero]
    rfl
  | c :: r, k => by
    show _ = c * mom W xs k + lin W xs r (k + 1)
    rw [← sm_pv W xs r (k + 1)]
    unfold mom
    rw [← sm_add]
    refine sm_congr (fun x => ?_) xs
    show x ^ k * (c + x * pv x r) * W x = c * (x ^ k * W x) + x ^ (k + 1) * pv x r * W x
    rw [Int.pow_succ]
    grind
theorem lin_zero {p : Int} (W : Int → Int) (xs : List Int) : ∀ (cs : List Int) (k : Nat), (∀ j, k ≤ j → j < k + cs.length → cg p (mom W xs j) 0) → cg p (lin W xs cs k) 0
  | [], k, _ => cg.refl p 0
  | c :: r, k, h => by
    have h1 := h k (Nat.le_refl _) (by simp)
    have h2 := lin_zero W xs r (k + 1) fun j a b => h j (by omega) (by simp; omega)
    have := (h1.mulr c).add h2
    rw [Int.zero_mul] at this
    show cg p (c * mom W xs k + _) 0
    rw [Int.mul_comm]
    exact this
/-! ### the finite check -/
def cyc (p : Int) : Int → Nat → List Int
  | _, 0 => []
  | a, n + 1 => a :: cyc p (a % (p - 1) + 1) n
def invF (p b : Int) : Int := ((b.toNat ^ (p.toNat - 2) % p.toNat : Nat) : Int)
def wA (p : Int) (xs : List Int) (x : Int) : Int := (ab p x xs 1 1).1
def wV (p : Int) (xs : List Int) (x : Int) : Int := invF p (ab p x xs 1 1).2
def chk1 (p : Int) (xs : List Int) (x : Int) : Bool := decide (0 < x) && decide (x < p) && decide (0 ≤ (ab p x xs 1 1).2) && decide ((ab p x xs 1 1).2 < p) && decide (((ab p x xs 1 1).2 * wV p xs x) % p = 1)
def smW (k : Nat) : List (Int × Int) → Int
  | [] => 0
  | q :: r => q.1 ^ k * q.2 + smW k r
def chkM (p : Int) (ws : List (Int × Int)) : Nat → Bool
  | 0 => true
  | k + 1 => decide (smW k ws % p = if k = 0 then 1 else 0) && chkM p ws k
def chk (p : Int) (xs : List Int) : Bool := xs.all (chk1 p xs) && chkM p (xs.map fun x => (x, wA p xs x * wV p xs x)) xs.length
theorem smW_eq (W : Int → Int) (k : Nat) : ∀ xs : List Int, smW k (xs.map fun x => (x, W x)) = mom W xs k
  | [] => rfl
  | x :: r => by
    show x ^ k * W x + smW k (r.map fun x => (x, W x)) = x ^ k * W x + sm (fun x => x ^ k * W x) r
    rw [smW_eq W k r]
    rfl
theorem chkM_mem {p : Int} {ws : List (Int × Int)} : ∀ {n : Nat}, chkM p ws n = true → ∀ k, k < n → smW k ws % p = if k = 0 then 1 else 0
  | 0, _, k, h => by omega
  | n + 1, h, k, hk => by
    unfold chkM at h
    rw [Bool.and_eq_true, decide_eq_true_eq] at h
    by_cases z : k = n
    · rw [z]; exact h.1
    · exact chkM_mem h.2 k (by omega)
theorem invF_bd {p b : Int} (h : 0 < p) : 0 ≤ invF p b ∧ invF p b < p := by
  unfold invF
  have := Nat.mod_lt (b.toNat ^ (p.toNat - 2)) (show 0 < p.toNat by omega)
  omega
theorem chk_good {p : Int} (h0 : 1 < p) {xs : List Int} (h : chk p xs = true) : Good p xs (wA p xs) (wV p xs) := by
  unfold chk at h
  rw [Bool.and_eq_true, List.all_eq_true] at h
  have h1 := fun x hx => h.1 x hx
  refine ⟨fun x hx => ?_, fun x hx => ?_⟩
  · have := h1 x hx
    unfold chk1 at this
    simp only [Bool.and_eq_true, decide_eq_true_eq] at this
    omega
  · have := h1 x hx
    unfold chk1 at this
    simp only [Bool.and_eq_true, decide_eq_true_eq] at this
    obtain ⟨v0, v1⟩ := invF_bd (b := (ab p x xs 1 1).2) (show 0 < p by omega)
    refine ⟨(ab p x xs 1 1).2, rfl, this.1.1.2, this.1.2, ?_, v0, v1⟩
    have h3 := (cg.of p ((ab p x xs 1 1).2 * wV p xs x)).symm
    rw [this.2] at h3
    exact h3
theorem joined_hid {p : Int} (h0 : 1 < p) (h1 : p < 1000) {xs : List Int} (h : chk p xs = true) (hne : 0 < xs.length) (c : Int) (bs : List Int) (hl : bs.length < xs.length) (hc0 : 0 ≤ c) (hc : c < p) (T : Option Tape) : den_joined [.tup (xs.map (partD p c bs)), .int p] T = .ok (.int c) T := by
  have G := chk_good h0 h
  have e1 : xs.map (partD p c bs) = (xs.map fun x => (x, pw p x bs c 1 % p)).map prD := by
    rw [List.map_map]
    rfl
  have e2 : (xs.map fun x => (x, pw p x bs c 1 % p)).map (·.1) = xs := by
    rw [List.map_map]
    exact List.map_id' _
  have hp : (0 : Int) < p := by omega
  rw [e1, joined_den h0 h1 (A := wA p xs) (V := wV p xs) (by rw [e2]; exact G) (fun q hq => by
    obtain ⟨x, _, rfl⟩ := List.mem_map.mp hq
    exact ⟨Int.emod_nonneg _ (by omega), Int.emod_lt_of_pos _ hp⟩) T]
  have k1 : cg p (js (wA p xs) (wV p xs) (xs.map fun x => (x, pw p x bs c 1 % p)) 0) (0 + sm (fun x => pv x (c :: bs) * (wA p xs x * wV p xs x)) xs) := js_sm _ _ _ _ xs 0 0 (fun x _ => by
    refine (cg.of p _).trans ?_
    have := pw_cg p x bs c 1
    rw [Int.one_mul] at this
    exact this) (cg.refl p 0)
  have k2 : sm (fun x => pv x (c :: bs) * (wA p xs x * wV p xs x)) xs = lin (fun x => wA p xs x * wV p xs x) xs (c :: bs) 0 := by
    rw [← sm_pv]
    exact sm_congr (fun x => by simp) xs
  have hm := fun k hk => chkM_mem (by unfold chk at h; rw [Bool.and_eq_true] at h; exact h.2) k hk
  have hm' : ∀ k, k < xs.length → cg p (mom (fun x => wA p xs x * wV p xs x) xs k) (if k = 0 then 1 else 0) := fun k hk => by
    have e := hm k hk
    rw [smW_eq (fun x => wA p xs x * wV p xs x) k xs] at e
    have := (cg.of p (mom (fun x => wA p xs x * wV p xs x) xs k)).symm
    rw [e] at this
    exact this
  have k3 : cg p (lin (fun x => wA p xs x * wV p xs x) xs (c :: bs) 0) c := by
    have a1 := (hm' 0 hne).mulr c
    have a2 := lin_zero (fun x => wA p xs x * wV p xs x) xs bs 1 fun j b1 b2 => by
      have := hm' j (by omega)
      rw [if_neg (by omega)] at this
      exact this
    have := a1.add a2
    show cg p (c * mom _ xs 0 + lin _ xs bs 1) c
    rw [Int.mul_comm]
    simpa using this
  have k4 : cg p (js (wA p xs) (wV p xs) (xs.map fun x => (x, pw p x bs c 1 % p)) 0) c := by
    refine k1.trans ?_
    rw [Int.zero_add, k2]
    exact k3
  rw [k4.mod, Int.emod_eq_of_lt hc0 hc]
theorem joined_con {p : Int} (h0 : 1 < p) (h1 : p < 1000) {xs : List Int} (h : chk p xs = true) (c : Int) (bs : List Int) (T : Option Tape) : ∃ r, den_joined [.tup (xs.map (partD p c bs)), .int p] T = .ok (.int r) T ∧ den_law_constant [.int p, .tup (xs.map (partD p c bs))] T = .ok (.int r) T := by
  have G := chk_good h0 h
  have e1 : xs.map (partD p c bs) = (xs.map fun x => (x, pw p x bs c 1 % p)).map prD := by
    rw [List.map_map]
    rfl
  have e2 : (xs.map fun x => (x, pw p x bs c 1 % p)).map (·.1) = xs := by
    rw [List.map_map]
    exact List.map_id' _
  have hp : (0 : Int) < p := by omega
  have hw : ∀ q ∈ xs.map fun x => (x, pw p x bs c 1 % p), 0 ≤ q.2 ∧ q.2 < p := fun q hq => by
    obtain ⟨x, _, rfl⟩ := List.mem_map.mp hq
    exact ⟨Int.emod_nonneg _ (by omega), Int.emod_lt_of_pos _ hp⟩
  refine ⟨_, by rw [e1]; exact joined_den h0 h1 (A := wA p xs) (V := wV p xs) (by rw [e2]; exact G) hw T, ?_⟩
  rw [e1, const_den h0 h1 (A := wA p xs) (V := wV p xs) (by rw [e2]; exact G) hw T, jc_js hp _ _ _ 0 (Int.le_refl _) hp]
/-! ### .. by naturals -/
def abN (p x : Nat) : List Nat → Nat → Nat → Nat × Nat
  | [], a, b => (a, b)
  | o :: r, a, b => bif Nat.beq o x then abN p x r a b else abN p x r (a * o % p) (b * (o + p - x) % p)
theorem abN_eq (p x : Nat) (hx : x < p) : ∀ (os : List Nat) (a b : Nat), ab p x (os.map fun o => ((o : Nat) : Int)) a b = (((abN p x os a b).1 : Int), ((abN p x os a b).2 : Int))
  | [], a, b => rfl
  | o :: r, a, b => by
    unfold abN
    by_cases z : o = x
    · have e : ab p x ((o :: r).map fun o => ((o : Nat) : Int)) a b = ab p x (r.map fun o => ((o : Nat) : Int)) a b := if_pos (show ((o : Nat) : Int) = (x : Int) by omega)
      rw [e, natBeq.mpr z]
      exact abN_eq p x hx r a b
    · have e : ab p x ((o :: r).map fun o => ((o : Nat) : Int)) a b = ab p x (r.map fun o => ((o : Nat) : Int)) ((a : Int) * o % p) ((b : Int) * ((o : Int) - x) % p) := if_neg (show ¬ ((o : Nat) : Int) = (x : Int) by omega)
      have z' : Nat.beq o x = false := by
        rw [Bool.eq_false_iff]
        intro q
        exact z (natBeq.mp q)
      have e1 : (a : Int) * o % p = ((a * o % p : Nat) : Int) := by simp
      have e2 : (b : Int) * ((o : Int) - x) % p = ((b * (o + p - x) % p : Nat) : Int) := by
        have h1 : ((o + p - x : Nat) : Int) = (o : Int) + p - x := by omega
        rw [Int.natCast_emod, Int.natCast_mul, h1]
        have h2 : (b : Int) * ((o : Int) + p - x) = b * ((o : Int) - x) + p * b := by grind
        rw [h2, Int.add_mul_emod_self_left]
      rw [e, z', e1, e2]
      exact abN_eq p x hx r _ _
def wVN (p b : Nat) : Nat := b ^ (p - 2) % p
def smN (p k : Nat) : List (Nat × Nat) → Nat
  | [] => 0
  | q :: r => q.1 ^ k * q.2 + smN p k r
def chkMN (p : Nat) (ws : List (Nat × Nat)) : Nat → Bool
  | 0 => true
  | k + 1 => Nat.beq (smN p k ws % p) (match k with | 0 => 1 | _ + 1 => 0) && chkMN p ws k
def chk1N (p : Nat) (xs : List Nat) (x : Nat) : Bool := Nat.blt 0 x && Nat.blt x p && Nat.blt (abN p x xs 1 1).2 p && Nat.beq ((abN p x xs 1 1).2 * wVN p (abN p x xs 1 1).2 % p) 1
def chkN (p : Nat) (xs : List Nat) : Bool := xs.all (chk1N p xs) && chkMN p (xs.map fun x => (x, (abN p x xs 1 1).1 * wVN p (abN p x xs 1 1).2)) xs.length
theorem smN_eq (p k : Nat) : ∀ ws : List (Nat × Nat), smW k (ws.map fun q => ((q.1 : Int), (q.2 : Int))) = (smN p k ws : Int)
  | [] => rfl
  | q :: r => by
    show (q.1 : Int) ^ k * (q.2 : Int) + smW k (r.map fun q => ((q.1 : Int), (q.2 : Int))) = ((q.1 ^ k * q.2 + smN p k r : Nat) : Int)
    rw [smN_eq p k r]
    simp
theorem chkMN_eq (p : Nat) (ws : List (Nat × Nat)) : ∀ n, chkMN p ws n = true → chkM p (ws.map fun q => ((q.1 : Int), (q.2 : Int))) n = true
  | 0, _ => rfl
  | k + 1, h => by
    unfold chkMN at h
    unfold chkM
    rw [Bool.and_eq_true] at h ⊢
    refine ⟨?_, chkMN_eq p ws k h.2⟩
    have h1 := natBeq.mp h.1
    rw [decide_eq_true_eq, smN_eq p k ws]
    have : ((smN p k ws : Nat) : Int) % p = ((smN p k ws % p : Nat) : Int) := by simp
    rw [this, h1]
    cases k <;> simp
theorem chkN_eq {p : Nat} (h2 : 1 < p) {xs : List Nat} (h : chkN p xs = true) : chk p (xs.map fun x => ((x : Nat) : Int)) = true := by
  unfold chkN at h
  rw [Bool.and_eq_true, List.all_eq_true] at h
  have hx : ∀ x ∈ xs, 0 < x ∧ x < p ∧ (abN p x xs 1 1).2 < p ∧ (abN p x xs 1 1).2 * wVN p (abN p x xs 1 1).2 % p = 1 := fun x hx => by
    have := h.1 x hx
    unfold chk1N at this
    simp only [Bool.and_eq_true, Nat.blt_eq, natBeq] at this
    exact ⟨this.1.1.1, this.1.1.2, this.1.2, this.2⟩
  have hab : ∀ x ∈ xs, ab p x (xs.map fun x => ((x : Nat) : Int)) 1 1 = (((abN p x xs 1 1).1 : Int), ((abN p x xs 1 1).2 : Int)) := fun x q => abN_eq p x (hx x q).2.1 xs 1 1
  have hv : ∀ x ∈ xs, wV p (xs.map fun x => ((x : Nat) : Int)) x = (wVN p (abN p x xs 1 1).2 : Int) := fun x q => by
    unfold wV
    rw [hab x q]
    unfold invF wVN
    simp
  unfold chk
  rw [Bool.and_eq_true, List.all_eq_true]
  constructor
  · intro y hy
    obtain ⟨x, q, rfl⟩ := List.mem_map.mp hy
    obtain ⟨a1, a2, a3, a4⟩ := hx x q
    unfold chk1
    rw [hv x q, hab x q]
    simp only [Bool.and_eq_true, decide_eq_true_eq]
    refine ⟨⟨⟨⟨by omega, by omega⟩, by omega⟩, by omega⟩, ?_⟩
    have := congrArg (fun n : Nat => (n : Int)) a4
    simpa using this
  · have e : (xs.map fun x => ((x : Nat) : Int)).map (fun x => (x, wA p (xs.map fun x => ((x : Nat) : Int)) x * wV p (xs.map fun x => ((x : Nat) : Int)) x)) = (xs.map fun x => (x, (abN p x xs 1 1).1 * wVN p (abN p x xs 1 1).2)).map fun q => ((q.1 : Int), (q.2 : Int)) := by
      rw [List.map_map, List.map_map]
      refine List.map_congr_left fun x q => ?_
      show ((x : Int), _) = ((x : Int), _)
      rw [hv x q]
      unfold wA
      rw [hab x q]
      simp
    rw [e, List.length_map]
    exact chkMN_eq p _ _ h.2
def cycN (p : Nat) : Nat → Nat → List Nat
  | _, 0 => []
  | a, n + 1 => a :: cycN p (a % (p - 1) + 1) n
theorem cycN_eq {p : Nat} (h : 1 < p) : ∀ (n a : Nat), cyc p a n = (cycN p a n).map fun x => ((x : Nat) : Int)
  | 0, a => rfl
  | n + 1, a => by
    show (a : Int) :: cyc p ((a : Int) % ((p : Int) - 1) + 1) n = (a : Int) :: (cycN p (a % (p - 1) + 1) n).map fun x => ((x : Nat) : Int)
    have e : (a : Int) % ((p : Int) - 1) + 1 = ((a % (p - 1) + 1 : Nat) : Int) := by
      have : (p : Int) - 1 = ((p - 1 : Nat) : Int) := by omega
      rw [this]
      simp
    rw [e, cycN_eq h n]
def lim (p : Nat) : Nat := if p < 8 then p else 8
def chkP (p : Nat) : Bool := (List.range (p - 1)).all fun i => (List.range (lim p)).all fun n => chkN p (cycN p (i + 1) n) && chkN p (cycN p (i + 1) n).reverse
def primes : List Nat := [7, 11, 13, 17, 29, 41, 59, 101]
theorem chkP_7 : chkP 7 = true := by decide +kernel
theorem chkP_11 : chkP 11 = true := by decide +kernel
theorem chkP_13 : chkP 13 = true := by decide +kernel
theorem chkP_17 : chkP 17 = true := by decide +kernel
theorem chkP_29 : chkP 29 = true := by decide +kernel
theorem chkP_41 : chkP 41 = true := by decide +kernel
theorem chkP_59 : chkP 59 = true := by decide +kernel
theorem chkP_101 : chkP 101 = true := by decide +kernel
theorem chk_all : ∀ p ∈ primes, chkP p = true := by
  unfold primes
  simp only [List.forall_mem_cons, List.not_mem_nil, false_imp_iff, implies_true, and_true]
  exact ⟨chkP_7, chkP_11, chkP_13, chkP_17, chkP_29, chkP_41, chkP_59, chkP_101⟩
theorem primes_small : ∀ p ∈ primes, 7 ≤ p ∧ p ≤ 101 := by decide
theorem chk_cyc {p a n : Nat} (hp : p ∈ primes) (ha0 : 0 < a) (ha : a < p) (hn : n < 8) (hn' : n < p) : chk p (cyc p a n) = true ∧ chk p (cyc p a n).reverse = true := by
  have h := chk_all p hp
  obtain ⟨h7, _⟩ := primes_small p hp
  unfold chkP at h
  rw [List.all_eq_true] at h
  have h1 := h (a - 1) (List.mem_range.mpr (by omega))
  rw [List.all_eq_true] at h1
  have h2 := h1 n (List.mem_range.mpr (by unfold lim; split <;> omega))
  rw [Nat.sub_add_cancel ha0, Bool.and_eq_true] at h2
  rw [cycN_eq (by omega), ← List.map_reverse]
  exact ⟨chkN_eq (by omega) h2.1, chkN_eq (by omega) h2.2⟩
theorem same_int (n : Nat) (i : Int) (T : Option Tape) : fixD (n + 1) denF_law_same [.int i, .int i] T = .ok (.bl true) T := by
  rw [fixD_succ]
  simp [denF_law_same, runD_a, body_law_same_eq]
theorem bls_true (n : Nat) : blsOf (List.replicate n (D.bl true)) = some (List.replicate n true) := by
  have := blsOf_map (List.replicate n true)
  rw [List.map_replicate] at this
  exact this
theorem same_tup (n : Nat) (ds : List D) (hl : ds.length < 1000) (h : ∀ d ∈ ds, ∀ T, fixD n denF_law_same [d, d] T = .ok (.bl true) T) (T : Option Tape) : fixD (n + 1) denF_law_same [.tup ds, .tup ds] T = .ok (.bl true) T := by
  rw [fixD_succ]
  have hr : rOk (ds.length : Nat) = true := rOk_i (by omega) (by omega)
  have hline : ds.length < line := line_pos _ hl
  have e := lcD_map (f := ce_law_same_1 (fixD n denF_law_same)) (δ := [.val (.tup ds), .val (.tup ds), .un]) (T := T) 2 (fun _ => .bl true) (rng 0 1 ds.length) [] fun d hd T => by
    rw [rng_eq] at hd
    obtain ⟨k, hk, rfl⟩ := List.mem_map.mp hd
    have hk := List.mem_range.mp hk
    have ei := ix_at ds k hk
    simp [ce_law_same_1_eq, ei, h ds[k] (List.getElem_mem _)]
  have e2 : (rng 0 1 ds.length).map (fun _ => D.bl true) = List.replicate ds.length (.bl true) := by
    rw [rng_eq, List.map_map]
    apply List.ext_getElem
    · simp
    · intro i h1 h2
      simp
  have hlr : (rng 0 1 ds.length).length < line := by
    rw [rng_eq]; simpa using hline
  rw [e2, List.nil_append] at e
  simp [denF_law_same, runD_a, body_law_same_eq, rng1_ok hr, hlr, e, bls_true]
theorem same_parts (xs : List Int) (F G : Int → Int) (h : ∀ x ∈ xs, F x = G x) (hl : xs.length < 1000) (T : Option Tape) : den_law_same [.tup (xs.map fun x => .tup [.int x, .int (F x)]), .tup (xs.map fun x => .tup [.int x, .int (G x)])] T = .ok (.bl true) T := by
  have e : (xs.map fun x => D.tup [.int x, .int (G x)]) = xs.map fun x => .tup [.int x, .int (F x)] := List.map_congr_left fun x hx => by rw [h x hx]
  rw [e]
  refine same_tup 7 _ (by simpa using hl) (fun d hd T => ?_) T
  obtain ⟨x, _, rfl⟩ := List.mem_map.mp hd
  refine same_tup 6 _ (by simp) (fun d hd T => ?_) T
  simp at hd
  rcases hd with rfl | rfl
  · exact same_int 5 _ T
  · exact same_int 5 _ T
theorem same_hid (i : Int) (T : Option Tape) : den_law_same [.int i, .int i] T = .ok (.bl true) T := same_int 7 i T
/-! ### draws -/
theorem draws_lc {p : Nat} (h0 : 0 < p) (h1 : p < 1000000000000) {f : DEnv → Mo D} {δ : DEnv} (i : Nat) (h : ∀ v T, f (δ.set i (.val v)) T = denDraw [.tape, .int p] T) : ∀ (ds : List D) (acc : List D) (x : Tape), ∃ ns : List Nat, ns.length = ds.length ∧ (∀ n ∈ ns, n < p) ∧ ∃ x', lcD (tgN i) tYesD f δ ds acc (some x) = .ok (acc ++ (ns.map fun n => ((n : Nat) : Int)).map .int) (some x')
  | [], acc, x => ⟨[], rfl, (fun _ hh => absurd hh List.not_mem_nil), x, by simp⟩
  | d :: ds, acc, x => by
    obtain ⟨r, hr, x1, e⟩ := draw_den h0 h1 x
    obtain ⟨ns, l1, l2, x2, ih⟩ := draws_lc h0 h1 i h ds (acc ++ [.int r]) x1
    refine ⟨r :: ns, by simp [l1], fun n hn => ?_, x2, ?_⟩
    · rcases List.mem_cons.mp hn with rfl | hn
      · exact hr
      · exact l2 n hn
    · rw [lcD_cons]
      simp [h, e]
      simpa using ih
/-! ### the places -/
theorem places_loop {p : Nat} (h7 : 7 ≤ p) (s0 s1 s5 s6 s7 s8 s9 s10 s11 s12 s13 s14 s16 s17 : Sl) (T : Option Tape) : ∀ (ds : List D) (a : Int) (acc : List D) (s3 : Sl), acc.length + ds.length < 1000 → ∃ s3' a', forD (tgN 3) fb_law_2 ds [s0, s1, .val (.int p), s3, .own acc, s5, s6, s7, s8, s9, s10, s11, s12, s13, s14, .val (.int a), s16, s17] T = .nx [s0, s1, .val (.int p), s3', .own (acc ++ (cyc p a ds.length).map .int), s5, s6, s7, s8, s9, s10, s11, s12, s13, s14, .val (.int a'), s16, s17] T
  | [], a, acc, s3, _ => ⟨s3, a, by simp [forD_nil, cyc]⟩
  | d :: ds, a, acc, s3, hl => by
    simp only [List.length_cons] at hl
    have hacc : acc.length < line := line_pos _ (by omega)
    obtain ⟨s, a', ih⟩ := places_loop h7 s0 s1 s5 s6 s7 s8 s9 s10 s11 s12 s13 s14 s16 s17 T ds (a % ((p : Int) - 1) + 1) (acc ++ [.int a]) (.val d) (by simp; omega)
    refine ⟨s, a', ?_⟩
    rw [forD_cons]
    simp [fb_law_2_eq, hacc, oMod_i (show (0 : Int) < (p : Int) - 1 by omega), cyc]
    simpa using ih
theorem cyc_len (p : Int) : ∀ (n : Nat) (a : Int), (cyc p a n).length = n
  | 0, a => rfl
  | n + 1, a => by
    show (cyc p _ n).length + 1 = n + 1
    rw [cyc_len p n]
/-- a window of the places is such a row again -/
theorem cyc_drop {p : Nat} (hp : 7 ≤ p) : ∀ (f n : Nat) (a : Nat), 0 < a → a < p → f ≤ n → ∃ a' : Nat, 0 < a' ∧ a' < p ∧ (cyc p a n).drop f = cyc p a' (n - f)
  | 0, n, a, h0, h1, _ => ⟨a, h0, h1, rfl⟩
  | f + 1, 0, a, h0, h1, h => by omega
  | f + 1, n + 1, a, h0, h1, h => by
    have hm := Nat.mod_lt a (show 0 < p - 1 by omega)
    obtain ⟨a', k1, k2, k3⟩ := cyc_drop hp f n (a % (p - 1) + 1) (by omega) (by omega) (by omega)
    refine ⟨a', k1, k2, ?_⟩
    have e : (a : Int) % ((p : Int) - 1) + 1 = ((a % (p - 1) + 1 : Nat) : Int) := by
      have : (p : Int) - 1 = ((p - 1 : Nat) : Int) := by omega
      rw [this]; simp
    show ((a : Int) :: cyc p ((a : Int) % ((p : Int) - 1) + 1) n).drop (f + 1) = _
    rw [List.drop_succ_cons, e, k3, Nat.add_sub_add_right]
theorem cyc_take {p : Int} : ∀ (k n : Nat) (a : Int), k ≤ n → (cyc p a n).take k = cyc p a k
  | 0, n, a, _ => rfl
  | k + 1, 0, a, h => by omega
  | k + 1, n + 1, a, h => by
    show a :: (cyc p _ n).take k = a :: cyc p _ k
    rw [cyc_take k n _ (by omega)]
/-- rows of places, either way round -/
def Row (p : Nat) (xs : List Int) : Prop := ∃ a n : Nat, 0 < a ∧ a < p ∧ n < 8 ∧ n < p ∧ (xs = cyc p a n ∨ xs = (cyc p a n).reverse)
theorem Row.chk {p : Nat} {xs : List Int} (hp : p ∈ primes) (h : Row p xs) : chk p xs = true ∧ K77.chk p xs.reverse = true := by
  obtain ⟨a, n, h1, h2, h3, h4, rfl | rfl⟩ := h
  · exact chk_cyc hp h1 h2 h3 h4
  · rw [List.reverse_reverse]
    exact ⟨(chk_cyc hp h1 h2 h3 h4).2, (chk_cyc hp h1 h2 h3 h4).1⟩
theorem Row.win {p : Nat} {xs : List Int} (hp : 7 ≤ p) (h : Row p xs) (f k : Nat) (hf : f + k ≤ xs.length) : Row p ((xs.drop f).take k) := by
  obtain ⟨a, n, h1, h2, h3, h4, rfl | rfl⟩ := h
  · rw [cyc_len] at hf
    obtain ⟨a', k1, k2, k3⟩ := cyc_drop hp f n a h1 h2 (by omega)
    refine ⟨a', k, k1, k2, by omega, by omega, .inl ?_⟩
    rw [k3, cyc_take k _ _ (by omega)]
  · rw [List.length_reverse, cyc_len] at hf
    obtain ⟨a', k1, k2, k3⟩ := cyc_drop hp (n - f - k) n a h1 h2 (by omega)
    refine ⟨a', k, k1, k2, by omega, by omega, .inr ?_⟩
    have e1 : ((cyc p a n).reverse.drop f).take k = (((cyc p a n).take (n - f)).drop (n - f - k)).reverse := by
      rw [List.drop_reverse, List.take_reverse, cyc_len, List.length_take, cyc_len, Nat.min_eq_left (by omega)]
    rw [e1, cyc_take _ _ _ (by omega)]
    obtain ⟨a2, q1, q2, q3⟩ := cyc_drop hp (n - f - k) (n - f) a h1 h2 (by omega)
    have e3 : cyc p a' k = cyc p a2 k := by
      have z1 := congrArg (List.take k) k3
      rw [cyc_take k _ _ (by omega)] at z1
      have z2 := congrArg (List.take k) q3
      rw [cyc_take k _ _ (by omega)] at z2
      rw [← z1, ← z2]
      have : cyc p a (n - f) = (cyc p a n).take (n - f) := (cyc_take _ _ _ (by omega)).symm
      rw [this, List.drop_take, List.take_take]
      congr 1
      omega
    rw [q3, e3]
    congr 2
    omega
theorem cut_nat (ds : List D) (f k : Nat) (h : f + k ≤ ds.length) : DD.cutD ds (some (f : Int)) (some ((f : Int) + k)) = (ds.drop f).take k := by
  unfold DD.cutD
  have e1 : HT.sIx ds.length 0 (some (f : Int)) = f := by
    show (if ((f : Int) < 0) then ((f : Int) + ds.length).toNat else min ((f : Int)).toNat ds.length) = f
    rw [if_neg (by omega)]
    simp
    omega
  have e2 : HT.sIx ds.length ds.length (some ((f : Int) + k)) = f + k := by
    show (if ((f : Int) + k < 0) then ((f : Int) + k + ds.length).toNat else min ((f : Int) + k).toNat ds.length) = f + k
    rw [if_neg (by omega)]
    omega
  rw [e1, e2]
  congr 1
  omega
theorem oAdd_t (xs ys : List D) (h : xs.length + ys.length < 1000) : oAdd (.tup xs) (.tup ys) = some (.tup (xs ++ ys)) := by
  show (if xs.length + ys.length < line then some (D.tup (xs ++ ys)) else none) = _
  rw [if_pos (line_pos _ h)]
theorem lcD_idx {f : DEnv → Mo D} {δ : DEnv} {T : Option Tape} (i : Nat) (R : List D) (n : Nat) (hn : R.length = n) (h : ∀ (k : Nat) (hk : k < R.length), ∀ T, f (δ.set i (.val (.int (k : Nat)))) T = .ok R[k] T) : lcD (tgN i) tYesD f δ (rng 0 1 n) [] T = .ok R T := by
  subst hn
  have e := lcD_map (f := f) (δ := δ) (T := T) i (fun d => match d with | .int j => R.getD j.toNat .non | d => d) (rng 0 1 R.length) [] fun d hd T => by
    rw [rng_eq] at hd
    obtain ⟨k, hk, rfl⟩ := List.mem_map.mp hd
    have hk := List.mem_range.mp hk
    rw [h k hk T]
    simp [hk]
  rw [e, List.nil_append, rng_eq, List.map_map]
  congr 1
  apply List.ext_getElem
  · simp
  · intro j h1 h2
    simp [h2]
theorem due_lc {p : Nat} (h7 : 7 ≤ p) (hp : p < 1000) (h : Int) (bs : List Int) (hb : bs.length < 100) (T : Option Tape) (s0 s1 s3 s4 s5 s6 s7 s8 s9 s10 s11 s12 s15 s16 : Sl) : ∀ (xs : List Int), (∀ x ∈ xs, -1000 < x ∧ x < 1000) → lcD (tgN 17) tYesD ce_law_3 [s0, s1, .val (.int p), s3, s4, s5, s6, s7, s8, s9, s10, s11, s12, .val (.int h), .val (.tup (bs.map .int)), s15, s16, .un] (xs.map .int) [] T = .ok (xs.map (partD p h bs)) T := by
  intro xs hx
  have e := lcD_map (f := ce_law_3) (δ := [s0, s1, .val (.int p), s3, s4, s5, s6, s7, s8, s9, s10, s11, s12, .val (.int h), .val (.tup (bs.map .int)), s15, s16, .un]) (T := T) 17 (fun d => match d with | .int x => partD p h bs x | d => d) (xs.map .int) [] fun d hd T => by
    obtain ⟨x, hxm, rfl⟩ := List.mem_map.mp hd
    obtain ⟨x0, x1⟩ := hx x hxm
    have v := value_den p x (h :: bs) (by omega) (by omega) x0 x1 T
    rw [hv_eq] at v
    have o : oAdd (.tup [.int h]) (.tup (bs.map .int)) = some (.tup ((h :: bs).map .int)) := oAdd_t _ _ (by simp; omega)
    simp [ce_law_3_eq, o]
    simp at v
    simp [v, line, partD]
  rw [e, List.nil_append, List.map_map]
  rfl
theorem win_step {p : Nat} (hp : p ∈ primes) {xs : List Int} (hr : Row p xs) (h : Nat) (hh : h < p) (bs : List Int) (f : Nat) (hf : f + (bs.length + 1) ≤ xs.length) (T : Option Tape) (s0 s1 s3 s4 s6 s9 s10 s11 s12 s14 s15 s16 s17 : Sl) : ∃ s16', fb_law_4 [s0, s1, .val (.int p), s3, s4, .val (.tup (xs.map (partD p h bs))), s6, .val (.int ((bs.length : Int) + 1)), .val (.int (f : Nat)), s9, s10, s11, s12, .val (.int (h : Nat)), s14, s15, s16, s17] T = .nx [s0, s1, .val (.int p), s3, s4, .val (.tup (xs.map (partD p h bs))), s6, .val (.int ((bs.length : Int) + 1)), .val (.int (f : Nat)), s9, s10, s11, s12, .val (.int (h : Nat)), s14, s15, s16', s17] T := by
  obtain ⟨h7, h101⟩ := primes_small p hp
  have hw := hr.win h7 f (bs.length + 1) hf
  obtain ⟨k1, k2⟩ := hw.chk hp
  have hl : ((xs.drop f).take (bs.length + 1)).length = bs.length + 1 := by
    rw [List.length_take, List.length_drop]; omega
  have j1 := joined_hid (by omega) (by omega) k1 (by omega) h bs (by omega) (by omega) (by omega) T
  have j2 := joined_hid (by omega) (by omega) k2 (by rw [List.length_reverse]; omega) h bs (by rw [List.length_reverse]; omega) (by omega) (by omega) T
  have ec := cut_nat (xs.map (partD p h bs)) f (bs.length + 1) (by simpa using hf)
  rw [← List.map_drop, ← List.map_take] at ec
  have e1 : ((f : Int) + ((bs.length : Int) + 1)) = (f : Int) + ((bs.length + 1 : Nat) : Int) := by omega
  rw [← e1] at ec
  rw [List.map_reverse] at j2
  refine ⟨.val (.tup (((xs.drop f).take (bs.length + 1)).map (partD p h bs))), ?_⟩
  simp only [fb_law_4_eq]
  simp [-List.map_take, -List.map_drop, -List.map_reverse, ec, j1, j2, same_hid]
theorem win_loop {p : Nat} (hp : p ∈ primes) {xs : List Int} (hr : Row p xs) (h : Nat) (hh : h < p) (bs : List Int) (T : Option Tape) (s0 s1 s3 s4 s6 s9 s10 s11 s12 s14 s15 s17 : Sl) : ∀ (fs : List Nat) (s8 s16 : Sl), (∀ f ∈ fs, f + (bs.length + 1) ≤ xs.length) → ∃ s8' s16', forD (tgN 8) fb_law_4 (fs.map fun f => .int (f : Nat)) [s0, s1, .val (.int p), s3, s4, .val (.tup (xs.map (partD p h bs))), s6, .val (.int ((bs.length : Int) + 1)), s8, s9, s10, s11, s12, .val (.int (h : Nat)), s14, s15, s16, s17] T = .nx [s0, s1, .val (.int p), s3, s4, .val (.tup (xs.map (partD p h bs))), s6, .val (.int ((bs.length : Int) + 1)), s8', s9, s10, s11, s12, .val (.int (h : Nat)), s14, s15, s16', s17] T
  | [], s8, s16, _ => ⟨s8, s16, rfl⟩
  | f :: fs, s8, s16, hf => by
    obtain ⟨a, e⟩ := win_step hp hr h hh bs f (hf f List.mem_cons_self) T s0 s1 s3 s4 s6 s9 s10 s11 s12 s14 s15 s16 s17
    obtain ⟨b, c, ih⟩ := win_loop hp hr h hh bs T s0 s1 s3 s4 s6 s9 s10 s11 s12 s14 s15 s17 fs (.val (.int (f : Nat))) a fun z hz => hf z (List.mem_cons_of_mem _ hz)
    refine ⟨b, c, ?_⟩
    rw [List.map_cons, forD_cons]
    simp [e]
    exact ih
theorem pv_sum (p x : Int) : ∀ (bs ms : List Int), bs.length = ms.length → cg p (pv x (List.zipWith (fun a b => (a + b) % p) bs ms)) (pv x bs + pv x ms)
  | [], [], _ => cg.refl p 0
  | b :: r, m :: s, h => by
    obtain ⟨q, ih⟩ := pv_sum p x r s (by simpa using h)
    obtain ⟨k, hk⟩ := cg.of p (b + m)
    refine ⟨k + x * q, ?_⟩
    show (b + m) % p + x * pv x (List.zipWith (fun a b => (a + b) % p) r s) = b + x * pv x r + (m + x * pv x s) + p * _
    rw [ih, hk]
    grind
  | [], _ :: _, h => by simp at h
  | _ :: _, [], h => by simp at h
theorem sum_val {p : Int} (h0 : 0 < p) (x h g : Int) (bs ms : List Int) (hl : bs.length = ms.length) : (pw p x bs h 1 % p + pw p x ms g 1 % p) % p = pw p x (List.zipWith (fun a b => (a + b) % p) bs ms) ((h + g) % p) 1 % p := by
  have h1 := pw_cg p x bs h 1
  have h2 := pw_cg p x ms g 1
  have h3 := pw_cg p x (List.zipWith (fun a b => (a + b) % p) bs ms) ((h + g) % p) 1
  obtain ⟨q, h4⟩ := pv_sum p x bs ms hl
  have l : cg p (pw p x bs h 1 % p + pw p x ms g 1 % p) (h + 1 * x * pv x bs + (g + 1 * x * pv x ms)) := ((cg.of p _).trans h1).add ((cg.of p _).trans h2)
  obtain ⟨k, hk⟩ := cg.of p (h + g)
  have r : cg p (pw p x (List.zipWith (fun a b => (a + b) % p) bs ms) ((h + g) % p) 1) (h + 1 * x * pv x bs + (g + 1 * x * pv x ms)) := h3.trans ⟨k + x * q, by rw [hk, h4]; grind⟩
  exact (l.trans r.symm).mod
theorem tape_den' (ns : List Int) (h : ns.length ≤ 63) : ∃ x, den_law_tape [.scr ns] none = .ok .tape (some x) := tape_den ns (by omega)
theorem draw_den' {m : Nat} (h : 0 < m) (h' : m < 1000000000000) (x : Tape) : ∃ r : Nat, r < m ∧ ∃ x', den_law_draw [.tape, .int m] (some x) = .ok (.int r) (some x') := draw_den h h' x
theorem prime_den (x : Tape) : ∃ p ∈ primes, ∃ x', den_law_pick [.tape, .lst [.int 7, .int 11, .int 13, .int 17, .int 29, .int 41, .int 59, .int 101]] (some x) = .ok (.int (p : Nat)) (some x') := by
  obtain ⟨d, hd, x', e⟩ := pick_den [.int 7, .int 11, .int 13, .int 17, .int 29, .int 41, .int 59, .int 101] (by decide) (by decide) x
  have e : den_law_pick [.tape, .lst [.int 7, .int 11, .int 13, .int 17, .int 29, .int 41, .int 59, .int 101]] (some x) = .ok d (some x') := e
  have : ∃ p ∈ primes, d = .int (p : Nat) := by
    simp only [List.mem_cons, List.not_mem_nil, or_false] at hd
    rcases hd with rfl | rfl | rfl | rfl | rfl | rfl | rfl | rfl
    · exact ⟨7, by decide, rfl⟩
    · exact ⟨11, by decide, rfl⟩
    · exact ⟨13, by decide, rfl⟩
    · exact ⟨17, by decide, rfl⟩
    · exact ⟨29, by decide, rfl⟩
    · exact ⟨41, by decide, rfl⟩
    · exact ⟨59, by decide, rfl⟩
    · exact ⟨101, by decide, rfl⟩
  obtain ⟨p, hp, rfl⟩ := this
  exact ⟨p, hp, x', e⟩
def rest1 : SD := sSeq (sSet 4 (bor 4 (dB oTuple (aC (dV 4) (aN))))) (sSeq (sSet 5 (bor 4 (dCall 4 den_parts_of (aC (dV 13) (aC (dV 2) (aC (dV 4) (aC (dV 14) (aN)))))))) (sSeq (sSet 6 (bor 4 (dB oTuple (aC (dL (lLc (iSeq (dV 4)) (tgN 17) (tYesD) (ce_law_3) [17])) (aN))))) (sSeq (sIf (dNot (dTv (dCall 2 den_law_same (aC (dV 5) (aC (dV 6) (aN)))))) (sRet (dC (.bl false))) (sNext)) (sSeq (sSet 7 (dBin oAdd (dB oLen (aC (dV 14) (aN))) (dC (.int 1)))) (sSeq (sFor (iR1 (borA 4 (aC (dBin oAdd (dBin oSub (dB oLen (aC (dV 4) (aN))) (dV 7)) (dC (.int 1))) (aN)))) (tgN 8) (fb_law_4)) (sSeq (sIf (dOr (dNot (dTv (dCall 2 den_law_same (aC (dCall 2 den_joined (aC (dV 5) (aC (dV 2) (aN)))) (aC (dV 13) (aN)))))) (dNot (dTv (dCall 2 den_law_same (aC (dCall 2 den_joined (aC (dSl (dV 5) (dPart (dC (.int 1))) (dPart (dV 7))) (aC (dV 2) (aN)))) (aC (dCall 2 den_law_constant (aC (dV 2) (aC (dSl (dV 6) (dPart (dC (.int 1))) (dPart (dV 7))) (aN)))) (aN))))))) (sRet (dC (.bl false))) (sNext)) (sSeq (sSet 9 (dB oTuple (aC (dL (lLc (iR1 (aC (dB oLen (aC (dV 14) (aN))) (aN))) (tgN 3) (tYesD) (ce_law_5) [3])) (aN)))) (sSeq (sSet 10 (bor 4 (dCall 4 den_parts_of (aC (dC (.int 5)) (aC (dV 2) (aC (dV 4) (aC (dV 9) (aN)))))))) (sSeq (sSet 11 (bor 4 (dB oTuple (aC (dL (lLc (iR1 (borA 4 (aC (dB oLen (aC (dV 4) (aN))) (aN)))) (tgN 3) (tYesD) (ce_law_6) [3])) (aN))))) (sSeq (sSet 12 (dB oTuple (aC (dL (lLc (iR1 (aC (dB oLen (aC (dV 14) (aN))) (aN))) (tgN 3) (tYesD) (ce_law_7) [3])) (aN)))) (sFrz 4 (sRet (dCall 2 den_law_same (aC (dV 11) (aC (dCall 4 den_parts_of (aC (dBin oMod (dB oInt (aC (dBin oAdd (dV 13) (dC (.int 5))) (aN))) (dV 2)) (aC (dV 2) (aC (dV 4) (aC (dV 12) (aN)))))) (aN))))))))))))))))
theorem rest1_eq (δ : DEnv) (T : Option Tape) : rest1 δ T = (sSeq (sSet 4 (bor 4 (dB oTuple (aC (dV 4) (aN))))) (sSeq (sSet 5 (bor 4 (dCall 4 den_parts_of (aC (dV 13) (aC (dV 2) (aC (dV 4) (aC (dV 14) (aN)))))))) (sSeq (sSet 6 (bor 4 (dB oTuple (aC (dL (lLc (iSeq (dV 4)) (tgN 17) (tYesD) (ce_law_3) [17])) (aN))))) (sSeq (sIf (dNot (dTv (dCall 2 den_law_same (aC (dV 5) (aC (dV 6) (aN)))))) (sRet (dC (.bl false))) (sNext)) (sSeq (sSet 7 (dBin oAdd (dB oLen (aC (dV 14) (aN))) (dC (.int 1)))) (sSeq (sFor (iR1 (borA 4 (aC (dBin oAdd (dBin oSub (dB oLen (aC (dV 4) (aN))) (dV 7)) (dC (.int 1))) (aN)))) (tgN 8) (fb_law_4)) (sSeq (sIf (dOr (dNot (dTv (dCall 2 den_law_same (aC (dCall 2 den_joined (aC (dV 5) (aC (dV 2) (aN)))) (aC (dV 13) (aN)))))) (dNot (dTv (dCall 2 den_law_same (aC (dCall 2 den_joined (aC (dSl (dV 5) (dPart (dC (.int 1))) (dPart (dV 7))) (aC (dV 2) (aN)))) (aC (dCall 2 den_law_constant (aC (dV 2) (aC (dSl (dV 6) (dPart (dC (.int 1))) (dPart (dV 7))) (aN)))) (aN))))))) (sRet (dC (.bl false))) (sNext)) (sSeq (sSet 9 (dB oTuple (aC (dL (lLc (iR1 (aC (dB oLen (aC (dV 14) (aN))) (aN))) (tgN 3) (tYesD) (ce_law_5) [3])) (aN)))) (sSeq (sSet 10 (bor 4 (dCall 4 den_parts_of (aC (dC (.int 5)) (aC (dV 2) (aC (dV 4) (aC (dV 9) (aN)))))))) (sSeq (sSet 11 (bor 4 (dB oTuple (aC (dL (lLc (iR1 (borA 4 (aC (dB oLen (aC (dV 4) (aN))) (aN)))) (tgN 3) (tYesD) (ce_law_6) [3])) (aN))))) (sSeq (sSet 12 (dB oTuple (aC (dL (lLc (iR1 (aC (dB oLen (aC (dV 14) (aN))) (aN))) (tgN 3) (tYesD) (ce_law_7) [3])) (aN)))) (sFrz 4 (sRet (dCall 2 den_law_same (aC (dV 11) (aC (dCall 4 den_parts_of (aC (dBin oMod (dB oInt (aC (dBin oAdd (dV 13) (dC (.int 5))) (aN))) (dV 2)) (aC (dV 2) (aC (dV 4) (aC (dV 12) (aN)))))) (aN))))))))))))))))) δ T := id rfl
theorem body_split (δ : DEnv) (T : Option Tape) : body_law δ T = (sSeq (sSet 1 (dCall 1 den_law_tape (aC (dV 0) (aN)))) (sSeq (sSet 2 (dCall 2 den_law_pick (aC (dV 1) (aC (dL (lLst (aC (dC (.int 7)) (aC (dC (.int 11)) (aC (dC (.int 13)) (aC (dC (.int 17)) (aC (dC (.int 29)) (aC (dC (.int 41)) (aC (dC (.int 59)) (aC (dC (.int 101)) (aN))))))))))) (aN))))) (sSeq (sAsg (tgT 2 (tgCons (tgN 13) (tgCons (tgN 14) (tgNil)))) (dTup (aC (dCall 2 den_law_draw (aC (dV 1) (aC (dV 2) (aN)))) (aC (dB oTuple (aC (dL (lLc (iR1 (aC (dCall 2 den_law_draw (aC (dV 1) (aC (dC (.int 5)) (aN)))) (aN))) (tgN 3) (tYesD) (ce_law_1) [3])) (aN))) (aN))))) (sSeq (sAsgL 4 15 (lLst (aN)) (dBin oAdd (dC (.int 1)) (dCall 2 den_law_draw (aC (dV 1) (aC (dBin oSub (dV 2) (dC (.int 1))) (aN)))))) (sSeq (sFor (iR1 (aC (dB oMin (aC (dBin oSub (dV 2) (dC (.int 1))) (aC (dBin oAdd (dBin oAdd (dB oLen (aC (dV 14) (aN))) (dC (.int 1))) (dCall 2 den_law_draw (aC (dV 1) (aC (dC (.int 3)) (aN))))) (aN)))) (aN))) (tgN 3) (fb_law_2)) (sSeq (sIf (dTv (dBin (oEq) (dCall 2 den_law_draw (aC (dV 1) (aC (dC (.int 2)) (aN)))) (dC (.int 0)))) (sSetL 4 (borA 4 (lRev (dV 4)))) (sNext)) (rest1))))))) δ T := id rfl
@[simp] theorem noLs_ints : ∀ xs : List Int, noLs (xs.map .int) = true
  | [] => id rfl
  | x :: r => by
    show (noL (.int x) && noLs (r.map .int)) = true
    rw [noLs_ints r]
    rfl
theorem noLs_parts (F : Int → Int) : ∀ xs : List Int, noLs (xs.map fun x => .tup [.int x, .int (F x)]) = true
  | [] => id rfl
  | x :: r => by
    show (noL (.tup [.int x, .int (F x)]) && noLs (r.map fun x => .tup [.int x, .int (F x)])) = true
    rw [noLs_parts F r]
    rfl
theorem at1 (x y : D) : atI [x, y] 1 = some y := id rfl
theorem rest_true {p : Nat} (hp : p ∈ primes) {xs : List Int} (hr : Row p xs) (h : Nat) (hh : h < p) (B : List Int) (hl : B.length + 1 ≤ xs.length) (hl8 : xs.length < 8) (x7 : Tape) (s0 s3 s15 : Sl) : ∃ T, rest1 [s0, .val .tape, .val (.int p), s3, .own (xs.map .int), .un, .un, .un, .un, .un, .un, .un, .un, .val (.int (h : Nat)), .val (.tup (B.map .int)), s15, .un, .un] (some x7) = .ret (.bl true) T := by
  obtain ⟨h7, h101⟩ := primes_small p hp
  have hc := hr.chk hp
  have hp0 : (0 : Int) < p := by omega
  have G := chk_good (show (1 : Int) < p by omega) hc.1
  have hx : ∀ x ∈ xs, -1000 < x ∧ x < 1000 := fun x q => by
    have := G.hx x q
    omega
  have hline : xs.length < line := line_pos _ (by omega)
  have hlB : B.length < line := line_pos _ (by omega)
  have e1 := fun T => parts_den p h B xs (by omega) (by omega) hx (by omega) T
  have np : noLs (xs.map (partD p h B)) = true := noLs_parts (fun x => pw p x B h 1 % p) xs
  have e2 := due_lc h7 (by omega) h B (by omega) (some x7) s0 (.val .tape) s3 (.val (.tup (xs.map .int))) (.val (.tup (xs.map (partD p h B)))) .un .un .un .un .un .un .un s15 .un xs hx
  have e3 : ∀ T, den_law_same [.tup (xs.map (partD p h B)), .tup (xs.map (partD p h B))] T = .ok (.bl true) T := fun T => same_parts xs (fun x => pw p x B h 1 % p) (fun x => pw p x B h 1 % p) (fun _ _ => rfl) (by omega) T
  obtain ⟨k, hk⟩ : ∃ k : Nat, k = xs.length - B.length := ⟨_, rfl⟩
  have hk' : (xs.length : Int) - ((B.length : Int) + 1) + 1 = (k : Int) := by omega
  have rk : rOk (k : Int) = true := rOk_i (by omega) (by omega)
  obtain ⟨s8', s16', e4⟩ := win_loop hp hr h hh B (some x7) s0 (.val .tape) s3 (.val (.tup (xs.map .int))) (.val (.tup (xs.map (partD p h B)))) .un .un .un .un (.val (.tup (B.map .int))) s15 .un (List.range k) .un .un (fun f hf => by have := List.mem_range.mp hf; omega)
  rw [← rng_eq] at e4
  have j1 := joined_hid (by omega) (by omega) hc.1 (by omega) h B (by omega) (by omega) (by omega) (some x7)
  have hw := hr.win h7 1 B.length (by omega)
  obtain ⟨r, j2, j3⟩ := joined_con (by omega) (by omega) (hw.chk hp).1 h B (some x7)
  have ec := cut_nat (xs.map (partD p h B)) 1 B.length (by simp; omega)
  rw [← List.map_drop, ← List.map_take] at ec
  have q1 : (((1 : Nat) : Int) + (B.length : Int)) = (B.length : Int) + 1 := by omega
  rw [q1] at ec
  have ec : DD.cutD (xs.map (partD p h B)) (some 1) (some ((B.length : Int) + 1)) = ((xs.drop 1).take B.length).map (partD p h B) := ec
  generalize (xs.drop 1).take B.length = ys at ec j2 j3
  have rB : rOk (B.length : Int) = true := rOk_i (by omega) (by omega)
  have lB : (rng 0 1 B.length).length < line := by rw [rng_eq]; simpa using hlB
  have lx : (rng 0 1 xs.length).length < line := by rw [rng_eq]; simpa using hline
  have rx : rOk (xs.length : Int) = true := rOk_i (by omega) (by omega)
  obtain ⟨mn, hml, hmp, x8, e5⟩ := draws_lc (p := p) (f := ce_law_5) (δ := [s0, .val .tape, .val (.int p), .un, .val (.tup (xs.map .int)), .val (.tup (xs.map (partD p h B))), .val (.tup (xs.map (partD p h B))), .val (.int ((B.length : Int) + 1)), s8', .un, .un, .un, .un, .val (.int (h : Nat)), .val (.tup (B.map .int)), s15, s16', .un]) (by omega) (by omega) 3 (fun v T => by simp [ce_law_5_eq]; rfl) (rng 0 1 B.length) [] x7
  have hml : mn.length = B.length := by rw [hml, rng_eq]; simp
  generalize hM : mn.map (fun n => ((n : Nat) : Int)) = M at e5
  have hMl : M.length = B.length := by rw [← hM]; simp [hml]
  have e6 := parts_den p 5 M xs (by omega) (by omega) hx (by omega) (some x8)
  have np2 : noLs (xs.map (partD p 5 M)) = true := noLs_parts (fun x => pw p x M 5 1 % p) xs
  obtain ⟨S, hS⟩ : ∃ S : Int → Int, ∀ x, S x = (pw p x B h 1 % p + pw p x M 5 1 % p) % p := ⟨_, fun _ => rfl⟩
  obtain ⟨Z, hZ⟩ : ∃ Z : List Int, Z = (List.zipWith (fun a b => (a + b) % (p : Int)) B M) := ⟨_, rfl⟩
  have e7 := lcD_idx (f := ce_law_6) (δ := [s0, .val .tape, .val (.int p), .un, .val (.tup (xs.map .int)), .val (.tup (xs.map (partD p h B))), .val (.tup (xs.map (partD p h B))), .val (.int ((B.length : Int) + 1)), s8', .val (.tup (M.map .int)), .val (.tup (xs.map (partD p 5 M))), .un, .un, .val (.int (h : Nat)), .val (.tup (B.map .int)), s15, s16', .un]) (T := some x8) 3 (xs.map fun x => .tup [.int x, .int (S x)]) xs.length (by simp) (fun k hk T => by
    have hk : k < xs.length := by simpa using hk
    have i1 := ix_at (xs.map D.int) k (by simpa using hk)
    have i2 := ix_at (xs.map (partD p h B)) k (by simpa using hk)
    have i3 := ix_at (xs.map (partD p 5 M)) k (by simpa using hk)
    rw [List.getElem_map] at i1 i2 i3
    simp [ce_law_6_eq, i1, i2, i3, partD, at1, oMod_i hp0, hS])
  have np3 : noLs (xs.map fun x => .tup [.int x, .int (S x)]) = true := noLs_parts _ xs
  have e8 := lcD_idx (f := ce_law_7) (δ := [s0, .val .tape, .val (.int p), .un, .val (.tup (xs.map .int)), .val (.tup (xs.map (partD p h B))), .val (.tup (xs.map (partD p h B))), .val (.int ((B.length : Int) + 1)), s8', .val (.tup (M.map .int)), .val (.tup (xs.map (partD p 5 M))), .val (.tup (xs.map fun x => .tup [.int x, .int (S x)])), .un, .val (.int (h : Nat)), .val (.tup (B.map .int)), s15, s16', .un]) (T := some x8) 3 (Z.map .int) B.length (by simp [hZ, hMl]) (fun k hk T => by
    have hk : k < B.length := by simpa [hZ, hMl] using hk
    have i1 := ix_at (B.map D.int) k (by simpa using hk)
    have i2 := ix_at (M.map D.int) k (by simpa [hMl] using hk)
    rw [List.getElem_map] at i1 i2
    simp [ce_law_7_eq, i1, i2, oMod_i hp0, hZ])
  have e9 := parts_den p (((h : Int) + 5) % p) Z xs (by omega) (by omega) hx (by omega) (some x8)
  have e10 : ∀ T, den_law_same [.tup (xs.map fun x => .tup [.int x, .int (S x)]), .tup (xs.map (partD p (((h : Int) + 5) % p) Z))] T = .ok (.bl true) T := fun T => by
    rw [hZ]
    exact same_parts xs (fun x => S x) (fun x => pw p x (List.zipWith (fun a b => (a + b) % (p : Int)) B M) (((h : Int) + 5) % p) 1 % p) (fun x _ => (hS x).trans <| sum_val hp0 x h 5 B M hMl.symm) (by omega) T
  refine ⟨some x8, ?_⟩
  rw [rest1_eq]
  simp [-List.map_take, -List.map_drop, e1, hline, np, e2, e3, hk', rng1_ok rk, e4, j1, ec, j2, j3, same_hid, rng1_ok rB, lB, e5, e6, np2, rng1_ok rx, lx, e7, np3, e8, oMod_i hp0, e9, e10, frz_no]
theorem law_true : ∀ ns : List Int, ns.length ≤ 63 → ∃ T, den_law [.scr ns] none = .ok (.bl true) T := by
  intro ns hns
  obtain ⟨x0, e0⟩ := tape_den' ns hns
  obtain ⟨p, hp, x1, e1⟩ := prime_den x0
  obtain ⟨h7, h101⟩ := primes_small p hp
  obtain ⟨h, hh, x2, e2⟩ := draw_den' (m := p) (by omega) (by omega) x1
  obtain ⟨m, hm, x3, e3⟩ := draw_den' (m := 5) (by omega) (by omega) x2
  have r3 : rOk (m : Int) = true := rOk_i (by omega) (by omega)
  have l3 : (rng 0 1 m).length < line := line_pos _ (by rw [rng_eq]; simp; omega)
  obtain ⟨bn, hbl, hbp, x4, e4⟩ := draws_lc (p := p) (f := ce_law_1) (δ := [.val (.scr ns), .val .tape, .val (.int p), .un, .un, .un, .un, .un, .un, .un, .un, .un, .un, .un, .un, .un, .un, .un]) (by omega) (by omega) 3 (fun v T => by simp [ce_law_1_eq]; rfl) (rng 0 1 m) [] x3
  have hbl : bn.length = m := by rw [hbl, rng_eq]; simp
  subst hbl
  obtain ⟨a, ha, x5, e5⟩ := draw_den' (m := p - 1) (by omega) (by omega) x4
  have q1 : ((p - 1 : Nat) : Int) = (p : Int) - 1 := by omega
  rw [q1] at e5
  obtain ⟨c, hc, x6, e6⟩ := draw_den' (m := 3) (by omega) (by omega) x5
  obtain ⟨t, ht, x7, e7⟩ := draw_den' (m := 2) (by omega) (by omega) x6
  generalize hB : bn.map (fun n => ((n : Nat) : Int)) = B at e4
  have hBl : B.length = bn.length := by rw [← hB]; simp
  have e3 : den_law_draw [.tape, .int 5] (some x2) = .ok (.int bn.length) (some x3) := e3
  have e6 : den_law_draw [.tape, .int 3] (some x5) = .ok (.int c) (some x6) := e6
  have e7 : den_law_draw [.tape, .int 2] (some x6) = .ok (.int t) (some x7) := e7
  obtain ⟨n, hn, n1, n2, n3⟩ : ∃ n : Nat, (if (B.length : Int) + 1 + c < (p : Int) - 1 then (B.length : Int) + 1 + c else (p : Int) - 1) = (n : Int) ∧ B.length + 1 ≤ n ∧ n < 8 ∧ n < p := by
    by_cases z : B.length + 1 + c < p - 1
    · exact ⟨B.length + 1 + c, by rw [if_pos (by omega)]; omega, by omega, by omega, by omega⟩
    · exact ⟨p - 1, by rw [if_neg (by omega)]; omega, by omega, by omega, by omega⟩
  have r4 : rOk (n : Int) = true := rOk_i (by omega) (by omega)
  obtain ⟨s3, a', e8⟩ := places_loop h7 (.val (.scr ns)) (.val .tape) .un .un .un .un .un .un .un .un (.val (.int h)) (.val (.tup (B.map .int))) .un .un (some x6) (rng 0 1 n) (1 + (a : Int)) [] .un (by rw [rng_eq]; simp; omega)
  have hrl : (rng 0 1 n).length = n := by rw [rng_eq]; simp
  rw [hrl, List.nil_append] at e8
  have q2 : (1 : Int) + a = ((1 + a : Nat) : Int) := by omega
  have R1 : Row p (cyc p (1 + (a : Int)) n) := ⟨1 + a, n, by omega, by omega, n2, n3, .inl (by rw [q2])⟩
  have R2 : Row p (cyc p (1 + (a : Int)) n).reverse := ⟨1 + a, n, by omega, by omega, n2, n3, .inr (by rw [q2])⟩
  by_cases z : t = 0
  · subst z
    obtain ⟨T, e9⟩ := rest_true hp R2 h hh B (by rw [List.length_reverse, cyc_len]; exact n1) (by rw [List.length_reverse, cyc_len]; exact n2) x7 (.val (.scr ns)) s3 (.val (.int a'))
    refine ⟨T, ?_⟩
    simp only [den_law, runD_a, body_split]
    rw [List.map_reverse] at e9
    have nr : noLs (List.map D.int (cyc p (1 + (a : Int)) n)).reverse = true := by
      rw [← List.map_reverse]
      exact noLs_ints _
    simp [e0, e1, e2, e3, rng1_ok r3, l3, e4, e5, e6, e7, hn, rng1_ok r4, e8, e9, nr]
  · obtain ⟨T, e9⟩ := rest_true hp R1 h hh B (by rw [cyc_len]; exact n1) (by rw [cyc_len]; exact n2) x7 (.val (.scr ns)) s3 (.val (.int a'))
    refine ⟨T, ?_⟩
    simp only [den_law, runD_a, body_split]
    simp [e0, e1, e2, e3, rng1_ok r3, l3, e4, e5, e6, e7, hn, rng1_ok r4, e8, e9, z]
end K77

namespace K77
open PySem PySem.Spec PyProof.Rows L2 DD
theorem all_mk {l : PySem.W.OpenLaw} {w : World} {K : PySem.W.Frag} {h : Heap} {mg : Str → Option Value} {fa : Addr} (X : K.In h) (G : h.Ns mainGlobals mg) (hfa : mg "law" = some (.ref fa))
    {od0 an0 : Option Addr} {sl0 : Array (Option Value)} {oc0 kV0 dc0 pm0 cd0 ct0 : Value} {f0 : Addr}
    {od1 an1 : Option Addr} {sl1 : Array (Option Value)} {oc1 kV1 dc1 pm1 cd1 ct1 : Value} {f1 : Addr}
    {od2 an2 : Option Addr} {sl2 : Array (Option Value)} {oc2 kV2 dc2 pm2 cd2 ct2 : Value} {f2 : Addr}
    {od3 an3 : Option Addr} {sl3 : Array (Option Value)} {oc3 kV3 dc3 pm3 cd3 ct3 : Value} {f3 : Addr}
    {od4 an4 : Option Addr} {sl4 : Array (Option Value)} {oc4 kV4 dc4 pm4 cd4 ct4 : Value} {f4 : Addr}
    {od5 an5 : Option Addr} {sl5 : Array (Option Value)} {oc5 kV5 dc5 pm5 cd5 ct5 : Value} {f5 : Addr}
    {od6 an6 : Option Addr} {sl6 : Array (Option Value)} {oc6 kV6 dc6 pm6 cd6 ct6 : Value} {f6 : Addr}
    {od7 an7 : Option Addr} {sl7 : Array (Option Value)} {oc7 kV7 dc7 pm7 cd7 ct7 : Value} {f7 : Addr}
    {od8 an8 : Option Addr} {sl8 : Array (Option Value)} {oc8 kV8 dc8 pm8 cd8 ct8 : Value} {f8 : Addr}
    {od9 an9 : Option Addr} {sl9 : Array (Option Value)} {oc9 kV9 dc9 pm9 cd9 ct9 : Value} {f9 : Addr}
    {od10 an10 : Option Addr} {sl10 : Array (Option Value)} {oc10 kV10 dc10 pm10 cd10 ct10 : Value} {f10 : Addr}
    {od11 an11 : Option Addr} {sl11 : Array (Option Value)} {oc11 kV11 dc11 pm11 cd11 ct11 : Value} {f11 : Addr}
    {C_BadNumber : Addr}
    (a0 : PySem.W.nsIn K mainGlobals "bezout" = some (some (.ref f0))) (l0 : K.lookup f0 = some ⟨oc0, od0, .func (PySem.W.fnOf "bezout" "bezout" (defArgs st_bezout) (defBody st_bezout) (defScope st_bezout) .none kV0 dc0 pm0 an0 cd0 ct0), sl0⟩) (c0 : PySem.W.codeIn K cd0 "bezout" = true) (k0 : PySem.W.keepIn K (.ref f0) = true)
    (a1 : PySem.W.nsIn K mainGlobals "inverse" = some (some (.ref f1))) (l1 : K.lookup f1 = some ⟨oc1, od1, .func (PySem.W.fnOf "inverse" "inverse" (defArgs st_inverse) (defBody st_inverse) (defScope st_inverse) .none kV1 dc1 pm1 an1 cd1 ct1), sl1⟩) (c1 : PySem.W.codeIn K cd1 "inverse" = true) (k1 : PySem.W.keepIn K (.ref f1) = true)
    (a2 : PySem.W.nsIn K mainGlobals "parts_of" = some (some (.ref f2))) (l2 : K.lookup f2 = some ⟨oc2, od2, .func (PySem.W.fnOf "parts_of" "parts_of" (defArgs st_parts_of) (defBody st_parts_of) (defScope st_parts_of) .none kV2 dc2 pm2 an2 cd2 ct2), sl2⟩) (c2 : PySem.W.codeIn K cd2 "parts_of" = true) (k2 : PySem.W.keepIn K (.ref f2) = true)
    (a3 : PySem.W.nsIn K mainGlobals "joined" = some (some (.ref f3))) (l3 : K.lookup f3 = some ⟨oc3, od3, .func (PySem.W.fnOf "joined" "joined" (defArgs st_joined) (defBody st_joined) (defScope st_joined) .none kV3 dc3 pm3 an3 cd3 ct3), sl3⟩) (c3 : PySem.W.codeIn K cd3 "joined" = true) (k3 : PySem.W.keepIn K (.ref f3) = true)
    (a4 : PySem.W.nsIn K mainGlobals "_law_tape" = some (some (.ref f4))) (l4 : K.lookup f4 = some ⟨oc4, od4, .func (PySem.W.fnOf "_law_tape" "_law_tape" (defArgs st_law_tape) (defBody st_law_tape) (defScope st_law_tape) .none kV4 dc4 pm4 an4 cd4 ct4), sl4⟩) (c4 : PySem.W.codeIn K cd4 "_law_tape" = true) (k4 : PySem.W.keepIn K (.ref f4) = true)
    (a5 : PySem.W.nsIn K mainGlobals "_law_draw" = some (some (.ref f5))) (l5 : K.lookup f5 = some ⟨oc5, od5, .func (PySem.W.fnOf "_law_draw" "_law_draw" (defArgs st_law_draw) (defBody st_law_draw) (defScope st_law_draw) .none kV5 dc5 pm5 an5 cd5 ct5), sl5⟩) (c5 : PySem.W.codeIn K cd5 "_law_draw" = true) (k5 : PySem.W.keepIn K (.ref f5) = true)
    (a6 : PySem.W.nsIn K mainGlobals "_law_pick" = some (some (.ref f6))) (l6 : K.lookup f6 = some ⟨oc6, od6, .func (PySem.W.fnOf "_law_pick" "_law_pick" (defArgs st_law_pick) (defBody st_law_pick) (defScope st_law_pick) .none kV6 dc6 pm6 an6 cd6 ct6), sl6⟩) (c6 : PySem.W.codeIn K cd6 "_law_pick" = true) (k6 : PySem.W.keepIn K (.ref f6) = true)
    (a7 : PySem.W.nsIn K mainGlobals "_law_same" = some (some (.ref f7))) (l7 : K.lookup f7 = some ⟨oc7, od7, .func (PySem.W.fnOf "_law_same" "_law_same" (defArgs st_law_same) (defBody st_law_same) (defScope st_law_same) .none kV7 dc7 pm7 an7 cd7 ct7), sl7⟩) (c7 : PySem.W.codeIn K cd7 "_law_same" = true) (k7 : PySem.W.keepIn K (.ref f7) = true)
    (a8 : PySem.W.nsIn K mainGlobals "_law_inverse" = some (some (.ref f8))) (l8 : K.lookup f8 = some ⟨oc8, od8, .func (PySem.W.fnOf "_law_inverse" "_law_inverse" (defArgs st_law_inverse) (defBody st_law_inverse) (defScope st_law_inverse) .none kV8 dc8 pm8 an8 cd8 ct8), sl8⟩) (c8 : PySem.W.codeIn K cd8 "_law_inverse" = true) (k8 : PySem.W.keepIn K (.ref f8) = true)
    (a9 : PySem.W.nsIn K mainGlobals "_law_value" = some (some (.ref f9))) (l9 : K.lookup f9 = some ⟨oc9, od9, .func (PySem.W.fnOf "_law_value" "_law_value" (defArgs st_law_value) (defBody st_law_value) (defScope st_law_value) .none kV9 dc9 pm9 an9 cd9 ct9), sl9⟩) (c9 : PySem.W.codeIn K cd9 "_law_value" = true) (k9 : PySem.W.keepIn K (.ref f9) = true)
    (a10 : PySem.W.nsIn K mainGlobals "_law_constant" = some (some (.ref f10))) (l10 : K.lookup f10 = some ⟨oc10, od10, .func (PySem.W.fnOf "_law_constant" "_law_constant" (defArgs st_law_constant) (defBody st_law_constant) (defScope st_law_constant) .none kV10 dc10 pm10 an10 cd10 ct10), sl10⟩) (c10 : PySem.W.codeIn K cd10 "_law_constant" = true) (k10 : PySem.W.keepIn K (.ref f10) = true)
    (a11 : PySem.W.nsIn K mainGlobals "law" = some (some (.ref f11))) (l11 : K.lookup f11 = some ⟨oc11, od11, .func (PySem.W.fnOf "law" "law" (defArgs st_law) (defBody st_law) (defScope st_law) .none kV11 dc11 pm11 an11 cd11 ct11), sl11⟩) (c11 : PySem.W.codeIn K cd11 "law" = true) (k11 : PySem.W.keepIn K (.ref f11) = true)
    (aC_BadNumber : PySem.W.nsIn K mainGlobals "BadNumber" = some (some (.ref C_BadNumber))) (kC_BadNumber : PySem.W.keepIn K (.ref C_BadNumber) = true) (eC_BadNumber : PySem.W.subIn K (.ref C_BadNumber) (.type "BaseException") = some true) (tC_BadNumber : PySem.W.typeIn K (.ref C_BadNumber) = some (.type "type")) (iC_BadNumber : PySem.W.isClsIn K C_BadNumber = true)
    (xC_BadNumber : PySem.W.excIn K C_BadNumber veb "ValueError.__new__" = true)
    (z_abs : PySem.W.nsIn K mainGlobals "abs" = some none)
    (z_all : PySem.W.nsIn K mainGlobals "all" = some none)
    (z_bool : PySem.W.nsIn K mainGlobals "bool" = some none)
    (z_int : PySem.W.nsIn K mainGlobals "int" = some none)
    (z_isinstance : PySem.W.nsIn K mainGlobals "isinstance" = some none)
    (z_len : PySem.W.nsIn K mainGlobals "len" = some none)
    (z_min : PySem.W.nsIn K mainGlobals "min" = some none)
    (z_range : PySem.W.nsIn K mainGlobals "range" = some none)
    (z_str : PySem.W.nsIn K mainGlobals "str" = some none)
    (z_tuple : PySem.W.nsIn K mainGlobals "tuple" = some none)
    : ∃ fd : FuncData, (∀ (s : Shared) (u : Value), BindsTo s fd ⟨[u], []⟩ [("script", u)]) ∧ ∀ base : Heap, K.In base → base.Ns mainGlobals mg → FnOk l.prog w K mg base (L2.CX l.prog w) 10 fa fd ["script"] (spLaw K) := by
  have T : Top K mg := {
    d_bezout := ⟨f0, _, fun_mk (st := st_bezout) l0 c0 k0, (fun_mk (st := st_bezout) l0 c0 k0).binds (ps := ["one", "other"]) fun _ _ _ _ _ _ us hl => match us, hl with | [_, _], _ => rfl, PySem.W.mg_of X G a0⟩
    d_inverse := ⟨f1, _, fun_mk (st := st_inverse) l1 c1 k1, (fun_mk (st := st_inverse) l1 c1 k1).binds (ps := ["number", "modulus"]) fun _ _ _ _ _ _ us hl => match us, hl with | [_, _], _ => rfl, PySem.W.mg_of X G a1⟩
    d_parts_of := ⟨f2, _, fun_mk (st := st_parts_of) l2 c2 k2, (fun_mk (st := st_parts_of) l2 c2 k2).binds (ps := ["hidden", "order", "places", "blinds"]) fun _ _ _ _ _ _ us hl => match us, hl with | [_, _, _, _], _ => rfl, PySem.W.mg_of X G a2⟩
    d_joined := ⟨f3, _, fun_mk (st := st_joined) l3 c3 k3, (fun_mk (st := st_joined) l3 c3 k3).binds (ps := ["parts", "order"]) fun _ _ _ _ _ _ us hl => match us, hl with | [_, _], _ => rfl, PySem.W.mg_of X G a3⟩
    d_law_tape := ⟨f4, _, fun_mk (st := st_law_tape) l4 c4 k4, (fun_mk (st := st_law_tape) l4 c4 k4).binds (ps := ["script"]) fun _ _ _ _ _ _ us hl => match us, hl with | [_], _ => rfl, PySem.W.mg_of X G a4⟩
    d_law_draw := ⟨f5, _, fun_mk (st := st_law_draw) l5 c5 k5, (fun_mk (st := st_law_draw) l5 c5 k5).binds (ps := ["tape", "many"]) fun _ _ _ _ _ _ us hl => match us, hl with | [_, _], _ => rfl, PySem.W.mg_of X G a5⟩
    d_law_pick := ⟨f6, _, fun_mk (st := st_law_pick) l6 c6 k6, (fun_mk (st := st_law_pick) l6 c6 k6).binds (ps := ["tape", "row"]) fun _ _ _ _ _ _ us hl => match us, hl with | [_, _], _ => rfl, PySem.W.mg_of X G a6⟩
    d_law_same := ⟨f7, _, fun_mk (st := st_law_same) l7 c7 k7, (fun_mk (st := st_law_same) l7 c7 k7).binds (ps := ["actual", "due"]) fun _ _ _ _ _ _ us hl => match us, hl with | [_, _], _ => rfl, PySem.W.mg_of X G a7⟩
    d_law_inverse := ⟨f8, _, fun_mk (st := st_law_inverse) l8 c8 k8, (fun_mk (st := st_law_inverse) l8 c8 k8).binds (ps := ["number", "modulus"]) fun _ _ _ _ _ _ us hl => match us, hl with | [_, _], _ => rfl, PySem.W.mg_of X G a8⟩
    d_law_value := ⟨f9, _, fun_mk (st := st_law_value) l9 c9 k9, (fun_mk (st := st_law_value) l9 c9 k9).binds (ps := ["order", "numbers", "place"]) fun _ _ _ _ _ _ us hl => match us, hl with | [_, _, _], _ => rfl, PySem.W.mg_of X G a9⟩
    d_law_constant := ⟨f10, _, fun_mk (st := st_law_constant) l10 c10 k10, (fun_mk (st := st_law_constant) l10 c10 k10).binds (ps := ["order", "parts"]) fun _ _ _ _ _ _ us hl => match us, hl with | [_, _], _ => rfl, PySem.W.mg_of X G a10⟩
    d_law := ⟨f11, _, fun_mk (st := st_law) l11 c11 k11, (fun_mk (st := st_law) l11 c11 k11).binds (ps := ["script"]) fun _ _ _ _ _ _ us hl => match us, hl with | [_], _ => rfl, PySem.W.mg_of X G a11⟩
    x_BadNumber := ⟨C_BadNumber, PySem.W.mg_of X G aC_BadNumber, kC_BadNumber, xC_BadNumber, eC_BadNumber, tC_BadNumber⟩
    b_abs := PySem.W.mg_none_of X G z_abs
    b_all := PySem.W.mg_none_of X G z_all
    b_bool := PySem.W.mg_none_of X G z_bool
    b_int := PySem.W.mg_none_of X G z_int
    b_isinstance := PySem.W.mg_none_of X G z_isinstance
    b_len := PySem.W.mg_none_of X G z_len
    b_min := PySem.W.mg_none_of X G z_min
    b_range := PySem.W.mg_none_of X G z_range
    b_str := PySem.W.mg_none_of X G z_str
    b_tuple := PySem.W.mg_none_of X G z_tuple
  }
  have e := hfa.symm.trans (PySem.W.mg_of X G a11)
  cases e
  refine ⟨PySem.W.fnOf "law" "law" (defArgs st_law) (defBody st_law) (defScope st_law) .none kV11 dc11 pm11 an11 cd11 ct11, fun s v => .of_eq rfl, fun base _ _ => ?_⟩
  have G_bezout : OkF l.prog w K mg base "bezout" ["one", "other"] 1 2 den_bezout := ok_bezout T
  have G_inverse : OkF l.prog w K mg base "inverse" ["number", "modulus"] 2 2 den_inverse := ok_inverse T G_bezout
  have G_parts_of : OkF l.prog w K mg base "parts_of" ["hidden", "order", "places", "blinds"] 1 4 den_parts_of := ok_parts_of T
  have G_joined : OkF l.prog w K mg base "joined" ["parts", "order"] 3 2 den_joined := ok_joined T G_inverse
  have G_law_tape : OkF l.prog w K mg base "_law_tape" ["script"] 1 1 den_law_tape := ok_law_tape T
  have G_law_draw : OkF l.prog w K mg base "_law_draw" ["tape", "many"] 1 2 den_law_draw := ok_law_draw T
  have G_law_pick : OkF l.prog w K mg base "_law_pick" ["tape", "row"] 2 2 den_law_pick := ok_law_pick T G_law_draw
  have G_law_same : OkF l.prog w K mg base "_law_same" ["actual", "due"] 9 2 den_law_same := ok_law_same T
  have G_law_inverse : OkF l.prog w K mg base "_law_inverse" ["number", "modulus"] 1 2 den_law_inverse := ok_law_inverse T
  have G_law_value : OkF l.prog w K mg base "_law_value" ["order", "numbers", "place"] 1 3 den_law_value := ok_law_value T
  have G_law_constant : OkF l.prog w K mg base "_law_constant" ["order", "parts"] 2 2 den_law_constant := ok_law_constant T G_law_inverse
  exact law_ok (ok_law (fun_mk (st := st_law) l11 c11 k11) T G_law_tape G_law_pick G_law_draw G_parts_of G_law_value G_law_same G_joined G_law_constant) law_true
end K77
open PySem PySem.W PyProof.Rows
set_option maxRecDepth 100000 in
set_option maxHeartbeats 0 in
theorem PySem.Challenge.cw_chordkeep_k77_whole_parts_of_hidden_numb_holds : PySem.Challenge.rw_chordkeep_k77_whole_parts_of_hidden_numb.Holds := by
  w_on; o_law; k_head; (case hw => w_witness2)
  k_fill
  refine DD.law_walk (l := PySem.Challenge.rw_chordkeep_k77_whole_parts_of_hidden_numb) (k := 10) (x := "script") rfl rfl ⟨rfl, by decide, by decide⟩ (fun w h Y => PySem.W.kIn_of Y) ?F
  case F =>
    intro w mg fa h KX G hmg
    refine' K77.all_mk KX G hmg ?a0 ?l0 ?c0 ?k0 ?a1 ?l1 ?c1 ?k1 ?a2 ?l2 ?c2 ?k2 ?a3 ?l3 ?c3 ?k3 ?a4 ?l4 ?c4 ?k4 ?a5 ?l5 ?c5 ?k5 ?a6 ?l6 ?c6 ?k6 ?a7 ?l7 ?c7 ?k7 ?a8 ?l8 ?c8 ?k8 ?a9 ?l9 ?c9 ?k9 ?a10 ?l10 ?c10 ?k10 ?a11 ?l11 ?c11 ?k11 ?aC_BadNumber ?kC_BadNumber ?eC_BadNumber ?tC_BadNumber ?iC_BadNumber ?xC_BadNumber ?z_abs ?z_all ?z_bool ?z_int ?z_isinstance ?z_len ?z_min ?z_range ?z_str ?z_tuple
    (case a0 => k_is)
    (case l0 => k_is)
    (case c0 => k_is)
    (case k0 => k_is)
    (case a1 => k_is)
    (case l1 => k_is)
    (case c1 => k_is)
    (case k1 => k_is)
    (case a2 => k_is)
    (case l2 => k_is)
    (case c2 => k_is)
    (case k2 => k_is)
    (case a3 => k_is)
    (case l3 => k_is)
    (case c3 => k_is)
    (case k3 => k_is)
    (case a4 => k_is)
    (case l4 => k_is)
    (case c4 => k_is)
    (case k4 => k_is)
    (case a5 => k_is)
    (case l5 => k_is)
    (case c5 => k_is)
    (case k5 => k_is)
    (case a6 => k_is)
    (case l6 => k_is)
    (case c6 => k_is)
    (case k6 => k_is)
    (case a7 => k_is)
    (case l7 => k_is)
    (case c7 => k_is)
    (case k7 => k_is)
    (case a8 => k_is)
    (case l8 => k_is)
    (case c8 => k_is)
    (case k8 => k_is)
    (case a9 => k_is)
    (case l9 => k_is)
    (case c9 => k_is)
    (case k9 => k_is)
    (case a10 => k_is)
    (case l10 => k_is)
    (case c10 => k_is)
    (case k10 => k_is)
    (case a11 => k_is)
    (case l11 => k_is)
    (case c11 => k_is)
    (case k11 => k_is)
    (case aC_BadNumber => k_is)
    (case kC_BadNumber => k_is)
    (case eC_BadNumber => k_is)
    (case tC_BadNumber => k_is)
    (case iC_BadNumber => k_is)
    (case xC_BadNumber => k_exc)
    (case z_abs => k_is)
    (case z_all => k_is)
    (case z_bool => k_is)
    (case z_int => k_is)
    (case z_isinstance => k_is)
    (case z_len => k_is)
    (case z_min => k_is)
    (case z_range => k_is)
    (case z_str => k_is)
    (case z_tuple => k_is)

