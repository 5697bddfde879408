import PyProof.Rows.All
import PySem.Str
import HandS.ForMost
import HandS.Walk
import HandS.Evl
import HandS.IsInst
import HandS.StrMore
import HandS.Style
import HandS.Conv
import HandS.DictComp
import HandS.Flow
import HandS.Wide
import KE.GoesEnum
import KE.GoesDict
import KE.KDictKeyed
import KE.KDictDisplayH
import HandS.Set
import HandS.Strs
import HandS.TupSets
import HandS.Star
import PySem.Challenge.RW_thirdletters_k32_whole_distances
set_option Elab.async false
set_option linter.all false
/-! The mathematics of the law, first part: rows of steps, putting in, being above, ways, pieces. No program here. -/
namespace Tlm

/-- a row of steps: true is + -/
abbrev Row := List Bool
def sv (b : Bool) : Int := if b then 1 else -1
def tot : Row → Int
  | [] => 0
  | b :: s => sv b + tot s
theorem tot_app : ∀ (s t : Row), tot (s ++ t) = tot s + tot t
  | [], t => by show tot t = 0 + tot t; omega
  | b :: s, t => by
    show sv b + tot (s ++ t) = sv b + tot s + tot t
    rw [tot_app s t]; omega
theorem sv_not (b : Bool) : sv (!b) = - sv b := by cases b <;> rfl
theorem sv_cases (b : Bool) : sv b = 1 ∨ sv b = -1 := by cases b <;> simp [sv]
theorem sv_inj {a b : Bool} (h : sv a = sv b) : a = b := by cases a <;> cases b <;> simp [sv] at h ⊢

/-- one letter is put in: a step becomes the two others -/
inductive Up : Row → Row → Prop
  | here (b : Bool) (v : Row) : Up (b :: v) ((!b) :: (!b) :: v)
  | there (c : Bool) {s t : Row} : Up s t → Up (c :: s) (c :: t)
/-- Ab s t: t is above s -/
inductive Ab : Row → Row → Prop
  | refl (s : Row) : Ab s s
  | step {s t u : Row} : Ab s t → Up t u → Ab s u

theorem Up.len {s t : Row} (h : Up s t) : t.length = s.length + 1 := by
  induction h with
  | here b v => simp
  | there c _ ih => simp [ih]
theorem Up.tot {s t : Row} (h : Up s t) : ∃ k : Int, tot t = tot s + 3 * k := by
  induction h with
  | here b v =>
    refine ⟨- sv b, ?_⟩
    show sv (!b) + (sv (!b) + Tlm.tot v) = sv b + Tlm.tot v + 3 * - sv b
    rw [sv_not]; omega
  | there c _ ih =>
    obtain ⟨k, e⟩ := ih
    refine ⟨k, ?_⟩
    show sv c + Tlm.tot _ = sv c + Tlm.tot _ + 3 * k
    rw [e]; omega
theorem Ab.len {s t : Row} (h : Ab s t) : s.length ≤ t.length := by
  induction h with
  | refl => exact Nat.le_refl _
  | step _ u ih => rw [u.len]; omega
theorem Ab.eq_of_len {s t : Row} (h : Ab s t) (e : t.length ≤ s.length) : s = t := by
  cases h with
  | refl => rfl
  | step a u => have := a.len; have := u.len; omega
theorem Ab.tot {s t : Row} (h : Ab s t) : ∃ k : Int, Tlm.tot t = Tlm.tot s + 3 * k := by
  induction h with
  | refl => exact ⟨0, by omega⟩
  | step _ u ih =>
    obtain ⟨k, e⟩ := ih
    obtain ⟨j, e2⟩ := u.tot
    exact ⟨k + j, by rw [e2, e]; omega⟩
theorem Ab.one {s t : Row} (h : Up s t) : Ab s t := .step (.refl s) h
theorem Ab.trans {s t u : Row} (a : Ab s t) (b : Ab t u) : Ab s u := by
  induction b with
  | refl => exact a
  | step _ h ih => exact .step ih h
theorem Ab.cons (c : Bool) {s t : Row} (a : Ab s t) : Ab (c :: s) (c :: t) := by
  induction a with
  | refl => exact .refl _
  | step _ h ih => exact .step ih (.there c h)
theorem Up.append_right {s t : Row} (h : Up s t) (v : Row) : Up (s ++ v) (t ++ v) := by
  induction h with
  | here b w => exact .here b (w ++ v)
  | there c _ ih => exact .there c ih
theorem Ab.append_right {s t : Row} (a : Ab s t) (v : Row) : Ab (s ++ v) (t ++ v) := by
  induction a with
  | refl => exact .refl _
  | step _ h ih => exact .step ih (h.append_right v)
theorem Ab.append_left : ∀ (u : Row) {s t : Row}, Ab s t → Ab (u ++ s) (u ++ t)
  | [], _, _, a => a
  | c :: u, _, _, a => (Ab.append_left u a).cons c
theorem Ab.append {s t u v : Row} (a : Ab s t) (b : Ab u v) : Ab (s ++ u) (t ++ v) := (a.append_right u).trans (b.append_left t)

/-- two puttings in, one beside the other -/
theorem Up.meet {s a b : Row} (h : Up s a) (k : Up s b) : a = b ∨ ∃ c, Up a c ∧ Up b c := by
  induction h generalizing b with
  | here x v =>
    cases k with
    | here => exact .inl rfl
    | there _ k' => exact .inr ⟨_, .there _ (.there _ k'), .here _ _⟩
  | there c h' ih =>
    cases k with
    | here => exact .inr ⟨_, .here _ _, .there _ (.there _ h')⟩
    | there _ k' =>
      rcases ih k' with e | ⟨d, h1, h2⟩
      · exact .inl (by rw [e])
      · exact .inr ⟨_, .there _ h1, .there _ h2⟩
theorem Ab.strip {s a u : Row} (h : Up s a) (k : Ab s u) : Ab a u ∨ ∃ u', Up u u' ∧ Ab a u' := by
  induction k with
  | refl => exact .inr ⟨a, h, .refl a⟩
  | step _ hu ih =>
    rcases ih with q | ⟨t', h1, h2⟩
    · exact .inl (.step q hu)
    · rcases h1.meet hu with e | ⟨c, h3, h4⟩
      · subst e; exact .inl h2
      · exact .inr ⟨c, h4, .step h2 h3⟩

/-! ways -/
/-- a way of n moves from s to t over rows of fewer than C steps -/
inductive Wk (C : Nat) : Nat → Row → Row → Prop
  | nil (s : Row) : Wk C 0 s s
  | up {n : Nat} {s t u : Row} : Wk C n s t → Up t u → u.length < C → Wk C (n + 1) s u
  | down {n : Nat} {s t u : Row} : Wk C n s t → Up u t → u.length < C → Wk C (n + 1) s u
theorem Wk.top {C n : Nat} {s t : Row} (h : Wk C n s t) : ∃ u, Ab s u ∧ Ab t u ∧ 2 * u.length ≤ n + s.length + t.length := by
  induction h with
  | nil s => exact ⟨s, .refl s, .refl s, by omega⟩
  | up _ hu _ ih =>
    obtain ⟨u, h1, h2, h3⟩ := ih
    have hl := hu.len
    rcases Ab.strip hu h2 with q | ⟨u', k1, k2⟩
    · exact ⟨u, h1, q, by omega⟩
    · exact ⟨u', .step h1 k1, k2, by have := k1.len; omega⟩
  | down _ hu _ ih =>
    obtain ⟨u, h1, h2, h3⟩ := ih
    have hl := hu.len
    exact ⟨u, h1, (Ab.one hu).trans h2, by omega⟩
theorem Wk.climb {C n : Nat} {s t u : Row} (h : Wk C n s t) (k : Ab t u) (hc : u.length < C) : Wk C (n + (u.length - t.length)) s u := by
  induction k with
  | refl => rw [Nat.sub_self]; exact h
  | step a hu ih =>
    have h1 := a.len
    have h2 := hu.len
    have q := ih (by omega)
    have e : ∀ x y z : Nat, y ≤ z → x + (z + 1 - y) = x + (z - y) + 1 := by omega
    rw [h2, e _ _ _ h1]
    exact .up q hu hc
theorem Wk.descend {C n : Nat} {s t u : Row} (h : Wk C n s u) (k : Ab t u) (hc : u.length < C) : Wk C (n + (u.length - t.length)) s t := by
  induction k generalizing n with
  | refl => rw [Nat.sub_self]; exact h
  | step a hu ih =>
    have h1 := a.len
    have h2 := hu.len
    have q := ih (.down h hu (by omega)) (by omega)
    have e : ∀ x y z : Nat, y ≤ z → x + (z + 1 - y) = x + 1 + (z - y) := by omega
    rw [h2, e _ _ _ h1]
    exact q
theorem Wk.over {C : Nat} {s t u : Row} (a : Ab s u) (b : Ab t u) (hc : u.length < C) : Wk C (2 * u.length - s.length - t.length) s t := by
  have h1 := a.len
  have h2 := b.len
  have q := (Wk.climb (Wk.nil s) a hc).descend b hc
  have e : 0 + (u.length - s.length) + (u.length - t.length) = 2 * u.length - s.length - t.length := by omega
  rw [e] at q
  exact q
theorem Wk.start_eq {C : Nat} {s t : Row} (h : Wk C 0 s t) : s = t := by cases h; rfl

/-! rows that come down to one step -/
/-- two neighbors alike -/
def Na (p : Row) : Prop := ∃ u b v, p = u ++ b :: b :: v
theorem Up.na {s t : Row} (h : Up s t) : Na t := by
  induction h with
  | here b v => exact ⟨[], !b, v, rfl⟩
  | there c _ ih =>
    obtain ⟨u, b, v, e⟩ := ih
    exact ⟨c :: u, b, v, by rw [e]; rfl⟩
theorem up_here (u : Row) (b : Bool) (v : Row) : Up (u ++ b :: v) (u ++ (!b) :: (!b) :: v) := by
  induction u with
  | nil => exact .here b v
  | cons c u ih => exact .there c ih
theorem up_down (u : Row) (b : Bool) (v : Row) : Up (u ++ (!b) :: v) (u ++ b :: b :: v) := by
  have h := up_here u (!b) v
  rw [Bool.not_not] at h
  exact h
/-- all alike, or an alike pair beside the other sign -/
theorem na_edge : ∀ (p : Row), Na p → (∃ b, p = List.replicate p.length b) ∨ (∃ u b v, p = u ++ b :: b :: (!b) :: v) ∨ ∃ u b v, p = u ++ (!b) :: b :: b :: v
  | [], h => by obtain ⟨u, b, v, e⟩ := h; cases u <;> cases e
  | [x], h => by
    obtain ⟨u, b, v, e⟩ := h
    exact .inl ⟨x, rfl⟩
  | x :: y :: r, h => by
    by_cases hr : Na (y :: r)
    · rcases na_edge (y :: r) hr with ⟨b, e⟩ | ⟨u, b, v, e⟩ | ⟨u, b, v, e⟩
      · -- the rest is all b
        have e' : y = b ∧ r = List.replicate r.length b := by simpa [List.replicate_succ] using e
        obtain ⟨hy, hr'⟩ := e'
        subst hy
        by_cases hx : x = y
        · subst hx
          refine .inl ⟨x, ?_⟩
          show x :: x :: r = x :: x :: List.replicate r.length x
          rw [← hr']
        · have hx' : x = !y := by cases x <;> cases y <;> simp at hx ⊢
          cases r with
          | nil =>
            obtain ⟨u, b, v, q⟩ := hr
            cases u with
            | nil => cases q
            | cons c u => cases u <;> cases q
          | cons z r' =>
            have hz : z = y ∧ r' = List.replicate r'.length y := by simpa [List.replicate_succ] using hr'
            obtain ⟨hz, _⟩ := hz
            subst hz
            exact .inr (.inr ⟨[], z, r', by rw [hx']; rfl⟩)
      · exact .inr (.inl ⟨x :: u, b, v, by rw [e]; rfl⟩)
      · exact .inr (.inr ⟨x :: u, b, v, by rw [e]; rfl⟩)
    · -- the pair is x, y
      have hxy : x = y := by
        obtain ⟨u, b, v, e⟩ := h
        cases u with
        | nil => injection e with e1 e2; injection e2 with e3 e4; rw [e1, e3]
        | cons c u => injection e with e1 e2; exact (hr ⟨u, b, v, e2⟩).elim
      subst hxy
      cases r with
      | nil => exact .inl ⟨x, rfl⟩
      | cons z r' =>
        by_cases hz : z = x
        · subst hz; exact (hr ⟨[], z, r', rfl⟩).elim
        · have hz' : z = !x := by cases x <;> cases z <;> simp at hz ⊢
          exact .inr (.inl ⟨[], x, r', by rw [hz']; rfl⟩)

theorem tot_rep (n : Nat) (b : Bool) : tot (List.replicate n b) = n * sv b := by
  induction n with
  | zero => simp [tot]
  | succ n ih =>
    rw [List.replicate_succ]
    show sv b + tot (List.replicate n b) = _
    rw [ih, Int.natCast_add, Int.add_mul]
    omega

/-- a row with two alike neighbors comes down to the step that its sum tells -/
theorem ab_of_na : ∀ (n : Nat) (p : Row) (b : Bool), p.length = n → Na p → (∃ k : Int, tot p = sv b + 3 * k) → Ab [b] p := by
  intro n
  induction n with
  | zero =>
    intro p b hl hn _
    obtain ⟨u, c, v, e⟩ := hn
    rw [e] at hl
    simp at hl
  | succ n ih =>
    intro p b hl hn hs
    -- one taking down to q, which is one step or has a pair
    have go : ∀ q : Row, Up q p → (q.length = 1 ∨ Na q) → Ab [b] p := by
      intro q hu hq
      have hql := hu.len
      obtain ⟨k, e⟩ := hs
      obtain ⟨j, e2⟩ := hu.tot
      rcases hq with h1 | hna
      · obtain ⟨c, rfl⟩ : ∃ c, q = [c] := by
          match q, h1 with
          | [c], _ => exact ⟨c, rfl⟩
        have hc : sv c = sv b := by
          have e3 : tot [c] = sv c := by show sv c + 0 = sv c; omega
          rw [e3] at e2
          rcases sv_cases c with h | h <;> rcases sv_cases b with h' | h' <;> rw [h, h'] <;> omega
        rw [← sv_inj hc]
        exact Ab.one hu
      · exact .step (ih q b (by omega) hna ⟨k - j, by omega⟩) hu
    rcases na_edge p hn with ⟨c, e⟩ | ⟨u, c, v, e⟩ | ⟨u, c, v, e⟩
    · -- all alike
      match p, hl, hn, e with
      | [], hl, _, _ => simp at hl
      | [x], hl, hn, _ =>
        obtain ⟨u, d, v, q⟩ := hn
        cases u with
        | nil => cases q
        | cons d' u => cases u <;> cases q
      | [x, y], hl, hn, e =>
        have e' : x = c ∧ y = c := by simpa [List.replicate_succ] using e
        obtain ⟨hx, hy⟩ := e'
        subst hx; subst hy
        exact go [!y] (by have := up_down [] y []; simpa using this) (.inl rfl)
      | [x, y, z], hl, hn, e =>
        exfalso
        obtain ⟨k, e1⟩ := hs
        rw [e, tot_rep] at e1
        rcases sv_cases b with h' | h' <;> rcases sv_cases c with h | h <;> rw [h, h'] at e1 <;> simp at e1 <;> omega
      | x :: y :: z :: t :: r, hl, hn, e =>
        have e' : x = c ∧ y = c ∧ z = c ∧ t = c ∧ r = List.replicate r.length c := by simpa [List.replicate_succ] using e
        obtain ⟨hx, hy, hz, ht, _⟩ := e'
        subst hx; subst hy; subst hz; subst ht
        exact go ((!t) :: t :: t :: r) (up_down [] t (t :: t :: r)) (.inr ⟨[!t], t, r, rfl⟩)
    · subst e
      exact go (u ++ (!c) :: (!c) :: v) (up_down u c ((!c) :: v)) (.inr ⟨u, !c, v, rfl⟩)
    · subst e
      exact go (u ++ (!c) :: (!c) :: v) (by have := up_down (u ++ [!c]) c v; simpa using this) (.inr ⟨u, !c, v, rfl⟩)

theorem ab_step_iff (p : Row) (b : Bool) : Ab [b] p ↔ p = [b] ∨ (Na p ∧ ∃ k : Int, tot p = sv b + 3 * k) := by
  constructor
  · intro h
    obtain ⟨k, e⟩ := h.tot
    cases h with
    | refl => exact .inl rfl
    | step a u => exact .inr ⟨u.na, k, by rw [e]; show sv b + 0 + 3 * k = _; omega⟩
  · rintro (rfl | ⟨h1, h2⟩)
    · exact .refl _
    · exact ab_of_na _ p b rfl h1 h2

/-! pieces -/
/-- w is cut into pieces that come down to the steps of o -/
inductive Cut : Row → Row → Prop
  | nil : Cut [] []
  | snoc {w o p : Row} {b : Bool} : Cut w o → Ab [b] p → Cut (w ++ p) (o ++ [b])
theorem Cut.ab {w o : Row} (h : Cut w o) : Ab o w := by
  induction h with
  | nil => exact .refl _
  | snoc _ a ih => exact ih.append a
theorem Cut.refl (o : Row) : Cut o o := by
  have h : ∀ (r w : Row), Cut w w → Cut (w ++ r) (w ++ r) := by
    intro r
    induction r with
    | nil => intro w h; rw [List.append_nil]; exact h
    | cons b r ih =>
      intro w h
      have q := ih (w ++ [b]) (.snoc h (.refl _))
      rw [List.append_assoc] at q
      exact q
  exact h o [] .nil
theorem up_append {w p t : Row} (h : Up (w ++ p) t) : (∃ w', Up w w' ∧ t = w' ++ p) ∨ ∃ p', Up p p' ∧ t = w ++ p' := by
  induction w generalizing t with
  | nil => exact .inr ⟨t, h, rfl⟩
  | cons c w ih =>
    cases h with
    | here => exact .inl ⟨_, .here _ _, rfl⟩
    | there _ h' =>
      rcases ih h' with ⟨w', h1, e⟩ | ⟨p', h1, e⟩
      · exact .inl ⟨_, .there c h1, by rw [e]; rfl⟩
      · exact .inr ⟨p', h1, by rw [e]; rfl⟩
theorem Cut.up {w o t : Row} (h : Cut w o) (u : Up w t) : Cut t o := by
  induction h generalizing t with
  | nil => cases u
  | snoc hc ha ih =>
    rcases up_append u with ⟨w', h1, e⟩ | ⟨p', h1, e⟩
    · subst e; exact .snoc (ih h1) ha
    · subst e; exact .snoc hc (.step ha h1)
theorem cut_iff (w o : Row) : Cut w o ↔ Ab o w := by
  refine ⟨Cut.ab, fun h => ?_⟩
  induction h with
  | refl => exact .refl _
  | step _ u ih => exact ih.up u
end Tlm

set_option Elab.async false
set_option linter.all false
/-! The mathematics, second part: words as rows of letters (0, 1, 2) told by a first letter and a row of steps; their texts. -/
namespace Tlm
open PySem
/-- the letter behind one, by a step -/
def nx (a : Nat) (b : Bool) : Nat := (a + if b then 1 else 2) % 3
def pre : Nat → Row → List Nat
  | _, [] => []
  | a, b :: s => a :: pre (nx a b) s
def fin : Nat → Row → Nat
  | a, [] => a
  | a, b :: s => fin (nx a b) s
def lets : Nat → Row → List Nat
  | a, [] => [a]
  | a, b :: s => a :: lets (nx a b) s
theorem nx_lt (a : Nat) (b : Bool) : nx a b < 3 := Nat.mod_lt _ (by decide)
theorem lets_eq (a : Nat) (s : Row) : lets a s = pre a s ++ [fin a s] := by
  induction s generalizing a with
  | nil => rfl
  | cons b s ih => show a :: lets (nx a b) s = a :: pre (nx a b) s ++ [fin (nx a b) s]; rw [ih]; rfl
theorem pre_len (a : Nat) (s : Row) : (pre a s).length = s.length := by
  induction s generalizing a with
  | nil => rfl
  | cons b s ih => show (pre (nx a b) s).length + 1 = s.length + 1; rw [ih]
theorem lets_len (a : Nat) (s : Row) : (lets a s).length = s.length + 1 := by rw [lets_eq, List.length_append, pre_len]; rfl
theorem pre_app (a : Nat) (s t : Row) : pre a (s ++ t) = pre a s ++ pre (fin a s) t := by
  induction s generalizing a with
  | nil => rfl
  | cons b s ih => show a :: pre (nx a b) (s ++ t) = a :: (pre (nx a b) s ++ pre (fin (nx a b) s) t); rw [ih]
theorem fin_app (a : Nat) (s t : Row) : fin a (s ++ t) = fin (fin a s) t := by
  induction s generalizing a with
  | nil => rfl
  | cons b s ih => exact ih (nx a b)
theorem lets_app (a : Nat) (s t : Row) : lets a (s ++ t) = pre a s ++ lets (fin a s) t := by
  rw [lets_eq, lets_eq, pre_app, fin_app, List.append_assoc]
theorem fin_lt {a : Nat} (h : a < 3) (s : Row) : fin a s < 3 := by
  induction s generalizing a with
  | nil => exact h
  | cons b s ih => exact ih (nx_lt a b)
theorem lets_lt {a : Nat} (h : a < 3) (s : Row) : ∀ x ∈ lets a s, x < 3 := by
  induction s generalizing a with
  | nil => intro x hx; rw [List.mem_singleton.mp hx]; exact h
  | cons b s ih =>
    intro x hx
    rcases List.mem_cons.mp hx with e | hx
    · rw [e]; exact h
    · exact ih (nx_lt a b) x hx
theorem lets_head (a : Nat) (s : Row) : ∃ r, lets a s = a :: r := by
  cases s with
  | nil => exact ⟨[], rfl⟩
  | cons b s => exact ⟨lets (nx a b) s, rfl⟩
/-- letters 0, 1, 2 -/
theorem three {a : Nat} (h : a < 3) : a = 0 ∨ a = 1 ∨ a = 2 := by omega
theorem nx_ne {a : Nat} (h : a < 3) (b : Bool) : nx a b ≠ a := by
  rcases three h with rfl | rfl | rfl <;> cases b <;> decide
theorem nx_inj {a : Nat} (h : a < 3) {b c : Bool} (e : nx a b = nx a c) : b = c := by
  rcases three h with rfl | rfl | rfl <;> cases b <;> cases c <;> first | rfl | exact absurd e (by decide)
theorem nx_third {a : Nat} (h : a < 3) (b : Bool) : nx (nx a (!b)) (!b) = nx a b := by
  rcases three h with rfl | rfl | rfl <;> cases b <;> rfl
theorem nx_cover {a : Nat} (h : a < 3) (b : Bool) {x : Nat} (hx : x < 3) : x = a ∨ x = nx a b ∨ x = nx a (!b) := by
  rcases three h with rfl | rfl | rfl <;> rcases three hx with rfl | rfl | rfl <;> cases b <;> decide
theorem nx_two {a : Nat} (h : a < 3) (c d : Bool) : (a ≠ nx (nx a c) d) ↔ c = d := by
  rcases three h with rfl | rfl | rfl <;> cases c <;> cases d <;> decide
theorem nx_step {a : Nat} (h : a < 3) (b : Bool) : (((nx a b : Nat) : Int) - (a : Int)) % 3 = if b then 1 else 2 := by
  rcases three h with rfl | rfl | rfl <;> cases b <;> rfl
theorem nx_int {a : Nat} (h : a < 3) (b : Bool) : ((a : Int) + sv b) % 3 = ((nx a b : Nat) : Int) := by
  rcases three h with rfl | rfl | rfl <;> cases b <;> rfl
theorem lets_inj {a : Nat} (h : a < 3) : ∀ {s t : Row}, lets a s = lets a t → s = t
  | [], [], _ => rfl
  | [], c :: t, e => by have := congrArg List.length e; rw [lets_len, lets_len] at this; simp at this
  | b :: s, [], e => by have := congrArg List.length e; rw [lets_len, lets_len] at this; simp at this
  | b :: s, c :: t, e => by
    have e' : lets (nx a b) s = lets (nx a c) t := by injection e
    obtain ⟨r, hr⟩ := lets_head (nx a b) s
    obtain ⟨r', hr'⟩ := lets_head (nx a c) t
    rw [hr, hr'] at e'
    have e1 : nx a b = nx a c := by injection e'
    have e2 := nx_inj h e1
    subst e2
    rw [← hr] at e'
    rw [e1] at hr
    have : lets (nx a b) s = lets (nx a b) t := by injection e
    rw [lets_inj (nx_lt a b) this]

/-! texts -/
def cs (l : List Nat) : List Nat := l.map (97 + ·)
def tx (l : List Nat) : Str := ⟨(cs l).toArray⟩
/-- the word's text -/
def wd (a : Nat) (s : Row) : Str := tx (lets a s)
/-- one letter's text -/
def sg (x : Nat) : Str := ⟨#[97 + x]⟩
theorem tx_cps (l : List Nat) : (tx l).cps.toList = cs l := by simp [tx]
theorem tx_len (l : List Nat) : (tx l).length = l.length := by simp [tx, cs, Str.length]
theorem tx_size (l : List Nat) : (tx l).cps.size = l.length := by simp [tx, cs]
theorem wd_len (a : Nat) (s : Row) : (wd a s).length = s.length + 1 := by rw [wd, tx_len, lets_len]
theorem wd_size (a : Nat) (s : Row) : (wd a s).cps.size = s.length + 1 := by rw [wd, tx_size, lets_len]
theorem tx_sg (x : Nat) : tx [x] = sg x := rfl
theorem cs_inj {l m : List Nat} (e : cs l = cs m) : l = m := by
  have : (cs l).map (· - 97) = (cs m).map (· - 97) := by rw [e]
  simpa [cs, Function.comp_def] using this
theorem tx_inj {l m : List Nat} (e : tx l = tx m) : l = m := by
  apply cs_inj
  have := congrArg (fun z : Str => z.cps.toList) e
  simpa [tx_cps] using this
theorem wd_inj {a : Nat} (h : a < 3) {s t : Row} (e : wd a s = wd a t) : s = t := lets_inj h (tx_inj e)
theorem tx_app (l m : List Nat) : tx l ++ tx m = tx (l ++ m) := by
  show (⟨(cs l).toArray ++ (cs m).toArray⟩ : Str) = ⟨(cs (l ++ m)).toArray⟩
  simp [cs]
theorem sg_inj {x y : Nat} (e : sg x = sg y) : x = y := by
  have := congrArg (fun z : Str => z.cps.toList) e
  simp [sg] at this
  exact this
theorem lets_apart {a : Nat} (h : a < 3) : ∀ (s : Row) {i x y : Nat}, (lets a s)[i]? = some x → (lets a s)[i + 1]? = some y → x ≠ y
  | [], i, x, y, _, h2 => by simp [lets] at h2
  | b :: s, 0, x, y, h1, h2 => by
    obtain ⟨r, hr⟩ := lets_head (nx a b) s
    have e1 : a = x := by simpa [lets] using h1
    have e2 : nx a b = y := by simpa [lets, hr] using h2
    rw [← e1, ← e2]
    exact fun z => nx_ne h b z.symm
  | b :: s, i + 1, x, y, h1, h2 => lets_apart (nx_lt a b) s (by simpa [lets] using h1) (by simpa [lets] using h2)
theorem wd_get {a : Nat} {s : Row} {i c : Nat} (h : (wd a s).cps[i]? = some c) : ∃ x, (lets a s)[i]? = some x ∧ c = 97 + x := by
  have e : (cs (lets a s))[i]? = some c := by
    have : (wd a s).cps[i]? = (wd a s).cps.toList[i]? := by rw [Array.getElem?_toList]
    rw [this, wd, tx_cps] at h
    exact h
  unfold cs at e
  rw [List.getElem?_map] at e
  obtain ⟨x, hx, rfl⟩ := Option.map_eq_some_iff.mp e
  exact ⟨x, hx, rfl⟩
end Tlm

set_option Elab.async false
set_option linter.all false
set_option maxRecDepth 100000
set_option maxHeartbeats 4000000
/-! Rules of my own over the hand layer: pairs drawn out of texts (enumerate, zip). -/
namespace TW
open PySem
open PySem.Spec PyProof.Rows L2

/-- n turns, each a new pair told by Y -/
def ItP (n : Nat) (Y : Nat → V → V → Prop) : It where
  go := fun i _ => i < n
  yld := fun i H v H' => ∃ (T : Addr) (x y : V), v = .ref T ∧ H T = none ∧ H' = upd H T (.tup [x, y]) ∧ Y i x y
  stop := fun i _ => i = n
/-- the library's walk of new pairs, all of whose cells are its own, as a turn of the layer -/
theorem turn_pairs {P : Program} {w : World} {K : PySem.W.Frag} {elts : List Expr} {kk : Nat} {tpos : Pos} {it : Addr} {fp wr : List Addr} {n : Nat}
    {Pt : Nat → Array Value → Prop} {St : Nat → Heap → Prop} {Mid : Nat → Addr → Heap → Prop} {Y : Nat → V → V → Prop}
    (W : ∀ A : Around, A.handled = none → WalksT P w A it fp wr n Pt St Mid) (hm : it ∈ fp)
    (hp : ∀ i vals, Pt i vals → ∃ x y a b, vals = #[a, b] ∧ RelV x a ∧ RelV y b ∧ Y i x y)
    (ho : ∀ i h, St i h → ∀ b ∈ fp, ∃ o, h.get? b = some o ∧ ∀ v, o.data ≠ .cell v)
    (hself : ∀ (A : Around) (i : Nat) (s : Shared) (Q : Value → Shared → Prop) (E : Value → Shared → Prop), St i s.heap → Q (.ref it) s → wpAny (model P w) A (pyIter (.ref it)) Q E s) :
    Turn P w K (.Tuple elts kk tpos) (ItP n Y) fp it St where
  mem := hm
  obj := ho
  keep := fun i h h' st k => (W PySem.callerA rfl).frame i h h' st k
  item := by
    intro X hP hw hK hc i pins s σ H E I hf st hg
    subst hP hw hK
    have Wx := W X.A (I.ok.hd hc)
    refine Wx.item i s _ _ hg st fun T vals h1 tk hv hT ht hmid hk => ?_
    obtain ⟨x, y, a, b, ev, ra, rb, hY⟩ := hp i vals hv
    have hTn : H T = none := I.hok.fresh hT
    have hTf : T ∉ wr := Wx.apart _ _ _ hmid
    refine ⟨.ref T, rfl, Wx.go elts kk tpos i T { s with heap := h1, toks := tk } _ _ hmid fun h2 st2 hk2 => ?_⟩
    have kk2 : ∀ c o, c ∉ fp → s.heap.get? c = some o → h2.get? c = some o := fun c o hcf e =>
      hk2 c o (fun z => hcf (Wx.sub c z)) (hk c o (fun z => hcf (Wx.sub c z)) e)
    have new : ObjOk X.prog X.w (upd H T (.tup [x, y])) h2 T (.tup [x, y]) := by
      obtain ⟨o, e1, e2, n', e3⟩ := ht
      refine ⟨by show 2 ≤ sizeLine; decide, [a, b], .cons ra (.cons rb .nil), o, hk2 T o hTf e1, e2, n', ?_⟩
      rw [e3, ev]
    have I1 : Inv X pins σ (upd H T (.tup [x, y])) { s with heap := h2, toks := tk } := I.turnedNew (ch := fp) kk2 hf hT new
    refine ⟨.ref T, _, I1, rfl, ⟨T, x, y, rfl, hTn, rfl, hY⟩, st2, fun c hcf => ?_⟩
    have hne : c ≠ T := by
      intro z
      obtain ⟨o, e, _⟩ := ho _ _ st c hcf
      exact absurd (Nat.lt_of_lt_of_le (Heap.lt_size e) hT) (by rw [z]; exact Nat.lt_irrefl _)
    rw [upd_ne hne]
    exact (hf c hcf).1
  done := by
    intro X hP hw hK hc i pins s σ H E I hf st hg
    subst hP hw hK
    have Wx := W X.A (I.ok.hd hc)
    have hg' : i = n := hg
    subst hg'
    refine Wx.done s _ _ st fun h1 tk hk => ⟨rfl, I.turnedL (ch := fp) (fun c o hcf e => hk c o (fun z => hcf (Wx.sub c z)) e) hf⟩
  self := hself

/-- the signs of a text with their places -/
def YEnum (z : Str) (i : Nat) (x y : V) : Prop := ∃ c, z.cps[i]? = some c ∧ x = .int (i : Nat) ∧ y = .str ⟨#[c]⟩
/-- the signs of two texts -/
def YZip (z z' : Str) (i : Nat) (x y : V) : Prop := ∃ c d, z.cps[i]? = some c ∧ z'.cps[i]? = some d ∧ x = .str ⟨#[c]⟩ ∧ y = .str ⟨#[d]⟩
theorem stri_cell {h : Heap} {it : Addr} {ty : String} {x : Str} {t : Tok} {i : Nat} (st : h.IsStrIter it ty x t i) : ∃ o, h.get? it = some o ∧ ∀ v, o.data ≠ .cell v := by
  obtain ⟨o, e, _, d⟩ := st
  exact ⟨o, e, fun v z => by rw [d] at z; cases z⟩
def iEnumS (ta : TA) : TI := fun σ H R => ta σ H fun vs H1 => ∃ z, vs = [.str z] ∧ R (ItP z.cps.size (YEnum z)) H1
theorem pi_enumS {X : Cx} {e : Expr} {ta : TA} {p pos tpos : Pos} {elts : List Expr} {kk : Nat} (hg : Gl X "enumerate") (hm : X.mg "enumerate" = none) (ha : PA X [e] ta)
    (hs : starEach [e] X.env = [(false, eval e X.env)] := by rfl) : PI X (.Tuple elts kk tpos) (.Call (.Name "enumerate" p) [e] [] pos) (iEnumS ta) := by
  refine ⟨fun pins s σ H R I h => Call_ (ld_blt I hg hm boot_enumerate (PyProof.Rows.callWith_type1 (thn (ha.run pos pins s σ H _ I h) fun us s1 hh => ?_) hs rfl))⟩
  obtain ⟨vs, H1, I1, r1, z, ez, q⟩ := hh
  subst ez
  obtain ⟨u, rfl, ru⟩ := Vals.one r1
  obtain ⟨t, rfl⟩ := ru
  refine call_enumerate_str fun h' he hit hsz hk => wpAny_pyIter_enum he ?_
  have I2 : Inv X pins σ H1 { s1 with heap := h' } := I1.kept (t' := s1.toks) hk
  have hne : (s1.heap.objs.size + 1 : Nat) ≠ s1.heap.objs.size := Nat.succ_ne_self _
  have Wk := fun (A : Around) (hA : A.handled = none) => WalksT.enumFrom (prog := X.prog) (w := X.w) (A := A) 0 (Draws.text (A := A.in1) hA s1.heap.objs.size z t) (s1.heap.objs.size + 1) hne
    (fun hm' => hne (List.mem_singleton.mp hm')) (List.mem_cons_self ..)
  refine ⟨s1.heap.objs.size + 1, _, _, _, H1, rfl, I2, turn_pairs (Y := YEnum z) Wk (List.mem_cons_self ..) ?_ ?_ ?_, ⟨⟨.none, by simpa using he⟩, hit⟩, fun b hb => ?_, q⟩
  · rintro i vals ⟨tk, x, ⟨c, u, hc, rfl⟩, rfl⟩
    exact ⟨.int (i : Nat), .str ⟨#[c]⟩, _, _, rfl, ⟨tk, by rw [Int.zero_add]⟩, ⟨u, rfl⟩, c, hc, rfl, rfl⟩
  · rintro i h ⟨⟨old, e1⟩, st⟩ b hb
    rcases List.mem_cons.mp hb with z1 | z1
    · exact (by subst z1; exact ⟨_, e1, fun v z2 => nomatch z2⟩)
    · rw [List.mem_singleton.mp z1]; exact stri_cell st
  · rintro A i s Q E ⟨⟨old, e1⟩, _⟩ hQ
    exact wpAny_pyIter_enum e1 hQ
  · have hle : s1.heap.objs.size ≤ b := by
      rcases List.mem_cons.mp hb with z1 | z1
      · rw [z1]; exact Nat.le_succ _
      · rw [List.mem_singleton.mp z1]; exact Nat.le_refl _
    exact I1.fpOk hle (I1.hok.fresh hle)
def iZipS (ta : TA) : TI := fun σ H R => ta σ H fun vs H1 => ∃ z z', vs = [.str z, .str z'] ∧ R (ItP (min z.cps.size z'.cps.size) (YZip z z')) H1
theorem pi_zipS {X : Cx} {e e2 : Expr} {ta : TA} {p pos tpos : Pos} {elts : List Expr} {kk : Nat} (hg : Gl X "zip") (hm : X.mg "zip" = none) (ha : PA X [e, e2] ta)
    (hs : starEach [e, e2] X.env = (false, eval e X.env) :: starEach [e2] X.env := by rfl) (hpl : (backTo pos (starEach [e2] X.env)).any (·.1) = false := by rfl) :
    PI X (.Tuple elts kk tpos) (.Call (.Name "zip" p) [e, e2] [] pos) (iZipS ta) := by
  refine ⟨fun pins s σ H R I h => Call_ (ld_blt I hg hm PyProof.Rows.boot_zip (PyProof.Rows.callWith_type1 (thn (ha.run pos pins s σ H _ I h) fun us s1 hh => ?_) hs hpl))⟩
  obtain ⟨vs, H1, I1, r1, z, z', ez, q⟩ := hh
  subst ez
  obtain ⟨u, u', rfl, ru, ru'⟩ := Vals.two r1
  obtain ⟨t, rfl⟩ := ru
  obtain ⟨t', rfl⟩ := ru'
  refine zip_begins2 (begins_text z t) (begins_text z' t') trivial trivial fun h' hz hTI hTO h1 h2 hsz hk => wpAny_pyIter_zip hz ?_
  have I2 : Inv X pins σ H1 { s1 with heap := h' } := I1.kept (t' := s1.toks) hk
  have S := zip_sep2 (N := s1.heap.objs.size) (fp1 := []) (fp2 := []) (fun b hb => nomatch hb) (fun b hb => nomatch hb)
  have Wk := fun (A : Around) (hA : A.handled = none) => WalksT.zipD2 (prog := X.prog) (w := X.w) (A := A) S (Draws.text (A := A.in1) hA s1.heap.objs.size z t) (Draws.text (A := A.in1) hA (s1.heap.objs.size + 1) z' t')
  refine ⟨s1.heap.objs.size + 4, _, _, _, H1, rfl, I2, turn_pairs (Y := YZip z z') Wk (List.mem_cons_self ..) ?_ ?_ ?_, ⟨hz, hTI, ⟨_, _, hTO⟩, ⟨_, h1, rfl, rfl⟩, ⟨_, h2, rfl, rfl⟩⟩, fun b hb => ?_, q⟩
  · rintro i vals ⟨x1, x2, ⟨c, u, hc, rfl⟩, ⟨d, u', hd, rfl⟩, rfl⟩
    exact ⟨.str ⟨#[c]⟩, .str ⟨#[d]⟩, _, _, rfl, ⟨u, rfl⟩, ⟨u', rfl⟩, c, d, hc, hd, rfl, rfl⟩
  · rintro i h ⟨e1, e2, ⟨a1, a2, e3⟩, s1', s2'⟩ b hb
    have hb' : b = s1.heap.objs.size + 4 ∨ b = s1.heap.objs.size + 2 ∨ b = s1.heap.objs.size + 3 ∨ b = s1.heap.objs.size ∨ b = s1.heap.objs.size + 1 := by simpa using hb
    rcases hb' with z1 | z1 | z1 | z1 | z1
    · exact (by subst z1; exact ⟨_, e1, fun v z2 => nomatch z2⟩)
    · exact (by subst z1; exact ⟨_, e2, fun v z2 => nomatch z2⟩)
    · exact (by subst z1; exact ⟨_, e3, fun v z2 => nomatch z2⟩)
    · rw [z1]; exact stri_cell s1'
    · rw [z1]; exact stri_cell s2'
  · rintro A i s Q E ⟨e1, _⟩ hQ
    exact wpAny_pyIter_zip e1 hQ
  · have hb' : b = s1.heap.objs.size + 4 ∨ b = s1.heap.objs.size + 2 ∨ b = s1.heap.objs.size + 3 ∨ b = s1.heap.objs.size ∨ b = s1.heap.objs.size + 1 := by simpa using hb
    have hle : s1.heap.objs.size ≤ b := by
      rcases hb' with z1 | z1 | z1 | z1 | z1 <;> rw [z1] <;> first | exact Nat.le_refl _ | exact Nat.le_add_right _ _
    exact I1.fpOk hle (I1.hok.fresh hle)
/-- as walks of the layer -/
theorem walk_pairs {n : Nat} {Y : Nat → V → V → Prop} : Walk (ItP n Y) n (fun _ => True) (fun i H v H' => ∃ (T : Addr) (x y : V), v = .ref T ∧ H T = none ∧ H' = upd H T (.tup [x, y]) ∧ Y i x y) :=
  ⟨fun _ _ hi _ => hi, fun _ _ => rfl, fun _ _ _ _ _ _ y => y⟩
end TW

set_option Elab.async false
set_option linter.all false
set_option maxRecDepth 100000
set_option maxHeartbeats 4000000
/-! Rules of my own: dicts whose keys are nested tuples of ints, over the abstract heap. -/
namespace TW
open PySem
open PySem.Spec PyProof.Rows L2

mutual
/-- v is the nested key k as the tuples of H tell it -/
inductive Nk (H : Hp) : NestedKey → V → Prop
  | num (i : Int) : Nk H (.num i) (.int i)
  | tup {a : Addr} {xs : List V} {ks : List NestedKey} : H a = some (.tup xs) → Nks H ks xs → Nk H (.tup ks) (.ref a)
inductive Nks (H : Hp) : List NestedKey → List V → Prop
  | nil : Nks H [] []
  | cons {k : NestedKey} {v : V} {ks : List NestedKey} {vs : List V} : Nk H k v → Nks H ks vs → Nks H (k :: ks) (v :: vs)
end
/-- the tuples stay -/
def Tups (H H' : Hp) : Prop := ∀ a xs, H a = some (.tup xs) → H' a = some (.tup xs)
theorem Tups.refl (H : Hp) : Tups H H := fun _ _ h => h
theorem Tups.trans {H H1 H2 : Hp} (a : Tups H H1) (b : Tups H1 H2) : Tups H H2 := fun c xs h => b c xs (a c xs h)
theorem Tups.same {H H' : Hp} (e : Same H H') : Tups H H' := fun a xs h => e a _ h
/-- a store to what is no tuple -/
theorem Tups.upd {H : Hp} {a : Addr} {o : HO} (h : ∀ xs, H a ≠ some (.tup xs)) : Tups H (upd H a o) := fun b xs e => by
  rw [upd_ne (fun z => by subst z; exact h xs e)]
  exact e
mutual
theorem Nk.mono {H H' : Hp} (e : Tups H H') : ∀ {k : NestedKey} {v : V}, Nk H k v → Nk H' k v
  | _, _, .num i => .num i
  | _, _, .tup h hs => .tup (e _ _ h) (Nks.mono e hs)
theorem Nks.mono {H H' : Hp} (e : Tups H H') : ∀ {ks : List NestedKey} {vs : List V}, Nks H ks vs → Nks H' ks vs
  | _, _, .nil => .nil
  | _, _, .cons h hs => .cons (Nk.mono e h) (Nks.mono e hs)
end
section
variable {X : Cx} {pins : List (Addr × Obj)} {σ : L2.St} {H : Hp} {s : Shared}
mutual
theorem Nk.real (I : Inv X pins σ H s) : ∀ {k : NestedKey} {v : V} {u : Value}, Nk H k v → RelV v u → NestedIs s.heap k u
  | _, _, _, .num i, r => by
    obtain ⟨t, rfl⟩ := r
    exact .int i t
  | _, _, _, .tup h hs, r => by
    cases r
    obtain ⟨_, its, rv, o, h1, h2, n, h3⟩ := (show ObjOk X.prog X.w H s.heap _ (.tup _) from I.hok _ _ h)
    refine .tup h1 h2 h3 ?_
    rw [List.toList_toArray]
    exact Nks.real I hs rv
theorem Nks.real (I : Inv X pins σ H s) : ∀ {ks : List NestedKey} {vs : List V} {us : List Value}, Nks H ks vs → Vals vs us → NestedAll s.heap ks us
  | _, _, _, .nil, r => by
    cases r
    exact .nil
  | _, _, _, .cons h hs, r => by
    cases r with
    | cons r1 r2 => exact .cons (Nk.real I h r1) (Nks.real I hs r2)
end
end

/-! the dict -/
abbrev NK (P : Program) (w : World) := nestedKind P w
/-- the pairs of the abstract heap beside the entries of the dict: keys by their addresses -/
abbrev NP (H : Hp) : List (NestedKey × V) → List (NestedKey × Addr × Value) → Prop :=
  Paired fun p q => p.1 = q.1 ∧ (Nk H p.1 (.ref q.2.1) ∧ p.1.depth ≤ 8) ∧ RelV p.2 q.2.2
theorem NP.mono {H H' : Hp} (e : Tups H H') {kvs : List (NestedKey × V)} {xs : List (NestedKey × Addr × Value)} (r : NP H kvs xs) : NP H' kvs xs :=
  Paired.mapP r fun _ _ z => ⟨z.1, ⟨z.2.1.1.mono e, z.2.1.2⟩, z.2.2⟩
/-- what is tracked of such a dict: its one object -/
def nob (d : Addr) (o : Obj) : HO := .ext fun h => h.get? d = some o
theorem nob_ok {P : Program} {w : World} {H : Hp} {h : Heap} {d : Addr} {o : Obj} (e : h.get? d = some o) : ObjOk P w H h d (nob d o) :=
  ⟨e, ⟨o, e⟩, fun _ _ a k => k _ a⟩
/-- at d stands the dict with the pairs kvs in the order of insertion; o is its object -/
structure DN (P : Program) (w : World) (H : Hp) (d : Addr) (o : Obj) (kvs : List (NestedKey × V)) : Prop where
  here : H d = some (nob d o)
  low : (d == sysModules) = false
  len : kvs.length ≤ sizeLine
  ex : o.ExactDict
  ents : ∃ es ep xs, o.data = .dict es ep ∧ es.toList = xs.map (entryOfKey (NK P w)) ∧ (xs.map (·.1)).Nodup ∧ NP H kvs xs
theorem DN.keys {P : Program} {w : World} {H : Hp} {d : Addr} {o : Obj} {kvs : List (NestedKey × V)} (D : DN P w H d o kvs) : (kvs.map (·.1)).Nodup := by
  obtain ⟨es, ep, xs, _, _, hn, r⟩ := D.ents
  have e : ∀ {kvs : List (NestedKey × V)} {xs : List (NestedKey × Addr × Value)}, NP H kvs xs → kvs.map (·.1) = xs.map (·.1) := by
    intro kvs xs r
    induction r with
    | nil => rfl
    | cons a _ ih => rw [List.map_cons, List.map_cons, ih, a.1]
  rw [e r]
  exact hn
/-- it stays while its place and the tuples do -/
theorem DN.mono {P : Program} {w : World} {H H' : Hp} {d : Addr} {o : Obj} {kvs : List (NestedKey × V)} (D : DN P w H d o kvs) (h : H' d = some (nob d o)) (e : Tups H H') : DN P w H' d o kvs := by
  obtain ⟨es, ep, xs, h1, h2, h3, r⟩ := D.ents
  exact ⟨h, D.low, D.len, D.ex, es, ep, xs, h1, h2, h3, r.mono e⟩
theorem nob_notup {H : Hp} {d : Addr} {o : Obj} (h : H d = some (nob d o)) : ∀ xs, H d ≠ some (.tup xs) := fun xs e => by
  rw [h] at e
  cases e
section
variable {X : Cx} {pins : List (Addr × Obj)} {σ : L2.St} {H : Hp} {s : Shared} {d : Addr} {o : Obj} {kvs : List (NestedKey × V)}
theorem DN.get (I : Inv X pins σ H s) (D : DN X.prog X.w H d o kvs) : s.heap.get? d = some o := (I.hok d _ D.here).1
theorem NP.is (I : Inv X pins σ H s) {xs : List (NestedKey × Addr × Value)} (r : NP H kvs xs) : ∀ x ∈ xs, (NK X.prog X.w).is s.heap x.1 x.2.1 := by
  induction r with
  | nil => intro x h; cases h
  | cons a _ ih =>
    intro x h
    rcases List.mem_cons.mp h with e | h
    · subst e
      rw [← a.1]
      exact ⟨Nk.real I a.2.1.1 rfl, a.2.1.2⟩
    · exact ih x h
/-- as the library tells it -/
theorem DN.real (I : Inv X pins σ H s) (D : DN X.prog X.w H d o kvs) : ∃ xs, NP H kvs xs ∧ s.heap.DictOfH (NK X.prog X.w) d xs := by
  obtain ⟨es, ep, xs, h1, h2, h3, r⟩ := D.ents
  exact ⟨xs, r, o, es, ep, D.get I, D.ex, h1, h2, NP.is I r, h3⟩
theorem NP.length {xs : List (NestedKey × Addr × Value)} (r : NP H kvs xs) : kvs.length = xs.length := Paired.length r
theorem NP.val {xs : List (NestedKey × Addr × Value)} (r : NP H kvs xs) (k : NestedKey) : RelO (valV kvs k) ((atKey xs k).map (·.2)) := by
  induction r with
  | nil => exact True.intro
  | @cons p q ps qs a _ ih =>
    by_cases e : p.1 = k
    · rw [valV_pos e]
      have : atKey (q :: qs) k = some q.2 := by simp [atKey, ← a.1, e]
      rw [this]
      exact a.2.2
    · rw [valV_neg e]
      have : atKey (q :: qs) k = atKey qs k := by
        have e' : ¬ q.1 = k := fun z => e (a.1.trans z)
        simp [atKey, e']
      rw [this]
      exact ih
theorem RelO.isSome {x : Option V} {y : Option Value} (h : RelO x y) : x.isSome = y.isSome := by
  cases x <;> cases y <;> first | rfl | exact h.elim
theorem np_map {xs : List (NestedKey × Addr × Value)} (r : NP H kvs xs) {k : NestedKey} {y : V} {u : Value} (ry : RelV y u) :
    NP H (kvs.map fun kv => if kv.1 = k then (kv.1, y) else kv) (xs.map (putAt k u)) := by
  induction r with
  | nil => exact .nil
  | @cons p q ps qs a _ ih =>
    rw [List.map_cons, List.map_cons]
    refine .cons ?_ ih
    by_cases e : p.1 = k
    · rw [if_pos e, putAt, if_pos (a.1.symm.trans e)]
      exact ⟨a.1, a.2.1, ry⟩
    · rw [if_neg e, putAt, if_neg (fun z => e (a.1.trans z))]
      exact a
theorem np_snoc {xs : List (NestedKey × Addr × Value)} (r : NP H kvs xs) {k : NestedKey} {b : Addr} {y : V} {u : Value} (hk : Nk H k (.ref b)) (hd : k.depth ≤ 8) (ry : RelV y u) :
    NP H (kvs ++ [(k, y)]) (xs ++ [(k, b, u)]) := by
  induction r with
  | nil => exact .cons ⟨rfl, ⟨hk, hd⟩, ry⟩ .nil
  | cons a _ ih => exact .cons a ih
theorem NP.put {xs : List (NestedKey × Addr × Value)} (r : NP H kvs xs) {k : NestedKey} {b : Addr} {y : V} {u : Value} (hk : Nk H k (.ref b)) (hd : k.depth ≤ 8) (ry : RelV y u) : NP H (putK kvs k y) (storedH xs k b u) := by
  have hs : (kvs.any fun kv => decide (kv.1 = k)) = (atKey xs k).isSome := by
    rw [valV_any, RelO.isSome (r.val k), Option.isSome_map]
  unfold putK storedH
  rw [hs]
  split
  · exact np_map r ry
  · exact np_snoc r hk hd ry
end

/-! operations -/
section
variable {X : Cx} {pins : List (Addr × Obj)} {σ : L2.St} {H : Hp} {s : Shared} {d : Addr} {o : Obj} {kvs : List (NestedKey × V)}
/-- room for hashing nested keys -/
theorem nk_room {A : Around} (hu : A.units + 64 < cLine) : (NK X.prog X.w).room A := by
  show A.units + 8 < cLine
  omega
theorem nk_room1 {A : Around} (hu : A.units + 64 < cLine) : (NK X.prog X.w).room A.in1 := by
  show A.units + 1 + 8 < cLine
  omega
/-- the dict that a store leaves -/
theorem DN.written {h' : Heap} {t' : Nat} {kvs' : List (NestedKey × V)} {xs' : List (NestedKey × Addr × Value)} (I : Inv X pins σ H s) (D : DN X.prog X.w H d o kvs) (hs : Heap.SameBut d s.heap h') (hx : h'.DictOfH (NK X.prog X.w) d xs')
    (r : NP H kvs' xs') (hl : kvs'.length ≤ sizeLine) : ∃ o', Inv X pins σ (upd H d (nob d o')) { s with heap := h', toks := t' } ∧ DN X.prog X.w (upd H d (nob d o')) d o' kvs' := by
  obtain ⟨o', es, ep, ho, hex, hd, he, _, hn⟩ := hx
  have hT := Tups.upd (o := nob d o') (nob_notup D.here)
  refine ⟨o', d_write I (by rw [D.here]; exact True.intro) hs ⟨o', ho⟩ (nob_ok ho), upd_same, D.low, hl, hex, es, ep, xs', hd, he, hn, r.mono hT⟩
/-- d[k] = v -/
theorem dn_set {v : V} {u : Value} {k : NestedKey} {b : Addr} {A : Around} {E : Value → Shared → Prop} {Q : Unit → Shared → Prop} (hu : A.units + 64 < cLine) (I : Inv X pins σ H s) (D : DN X.prog X.w H d o kvs) (hk : Nk H k (.ref b)) (hd : k.depth ≤ 8) (ry : RelV v u)
    (hl : kvs.length < sizeLine) (h : ∀ o' s', Inv X pins σ (upd H d (nob d o')) s' → DN X.prog X.w (upd H d (nob d o')) d o' (putK kvs k v) → Q () s') :
    wpAny (model X.prog X.w) A (setItem (.ref d) (.ref b) u) Q E s := by
  obtain ⟨xs, r, hx⟩ := D.real I
  refine wpAny_setItem_heap (nk_room1 (X := X) hu) ⟨Nk.real I hk rfl, hd⟩ hx (fun h' hx' hs => ?_) (by rw [← r.length]; exact D.len)
  have hl' : (putK kvs k v).length ≤ sizeLine := by have := length_putK kvs k v; omega
  obtain ⟨o', I', D'⟩ := DN.written (t' := s.toks + (NK X.prog X.w).draws k) I D hs hx' (r.put hk hd ry) hl'
  exact h o' _ I' D'
/-- the same as a comprehension stores -/
theorem dn_dset {v : V} {u : Value} {k : NestedKey} {b : Addr} {A : Around} {E : Value → Shared → Prop} {Q : Unit → Shared → Prop} (hu : A.units + 64 < cLine) (I : Inv X pins σ H s) (D : DN X.prog X.w H d o kvs) (hk : Nk H k (.ref b)) (hd : k.depth ≤ 8) (ry : RelV v u)
    (hl : kvs.length < sizeLine) (h : ∀ o' s', Inv X pins σ (upd H d (nob d o')) s' → DN X.prog X.w (upd H d (nob d o')) d o' (putK kvs k v) → Q () s') :
    wpAny (model X.prog X.w) A (dictSet d (.ref b) u) Q E s := by
  obtain ⟨xs, r, hx⟩ := D.real I
  refine wpAny_dictSet_heap (hsz := by rw [← r.length]; exact D.len) (nk_room (X := X) hu) ⟨Nk.real I hk rfl, hd⟩ hx fun h' hx' hs => ?_
  have hl' : (putK kvs k v).length ≤ sizeLine := by have := length_putK kvs k v; omega
  obtain ⟨o', I', D'⟩ := DN.written (t' := s.toks + (NK X.prog X.w).draws k) I D hs hx' (r.put hk hd ry) hl'
  exact h o' _ I' D'
end
section
variable {X : Cx}
/-- what a look-up by a nested key asks -/
def NLook (P : Program) (w : World) (y x : V) (H : Hp) (r : Option V) : Prop := ∃ d o kvs k, x = .ref d ∧ DN P w H d o kvs ∧ Nk H k y ∧ (∃ b, y = .ref b) ∧ k.depth ≤ 8 ∧ r = valV kvs k
def rNIn (P : Program) (w : World) : R2 := fun y x H Q => ∃ r, NLook P w y x H r ∧ Q (.bl r.isSome) H
def rNNotIn (P : Program) (w : World) : R2 := fun y x H Q => ∃ r, NLook P w y x H r ∧ Q (.bl (!r.isSome)) H
def rNGet (P : Program) (w : World) : R2 := fun x y H Q => ∃ v, NLook P w y x H (some v) ∧ Q v H
theorem op_nin (hu : X.A.units + 64 < cLine) : OpR X (compareOp .In) (rNIn X.prog X.w) := by
  intro pins s σ H y x v u Q I ry rx h
  obtain ⟨r, ⟨d, o, kvs, k, rfl, D, hk, ⟨b, rfl⟩, hd, rfl⟩, q⟩ := h
  cases rx
  cases ry
  obtain ⟨xs, rn, hx⟩ := D.real I
  refine wpAny_in_heap (nk_room1 (X := X) hu) ⟨Nk.real I hk rfl, hd⟩ D.low hx ?_
  have e : (atKey xs k).isSome = (valV kvs k).isSome := by rw [RelO.isSome (rn.val k), Option.isSome_map]
  rw [e]
  exact ⟨.bl _, H, I.tok _, rfl, q⟩
theorem op_nnotin (hu : X.A.units + 64 < cLine) : OpR X (compareOp .NotIn) (rNNotIn X.prog X.w) := by
  intro pins s σ H y x v u Q I ry rx h
  obtain ⟨r, ⟨d, o, kvs, k, rfl, D, hk, ⟨b, rfl⟩, hd, rfl⟩, q⟩ := h
  cases rx
  cases ry
  obtain ⟨xs, rn, hx⟩ := D.real I
  refine notIn_keyed (nk_room1 (X := X) hu) ⟨Nk.real I hk rfl, hd⟩ D.low ⟨xs, hx, rfl⟩ ?_
  have e : (valueAt (pairsH xs) k).isSome = (valV kvs k).isSome := by rw [valueAt_pairsH, RelO.isSome (rn.val k)]
  rw [e]
  exact ⟨.bl _, H, I.tok _, rfl, q⟩
theorem ix_nget (hu : X.A.units + 64 < cLine) : IxR X (rNGet X.prog X.w) := by
  intro value slice pins s σ H x y v u Q I rx ry h hs
  obtain ⟨z, ⟨d, o, kvs, k, rfl, D, hk, ⟨b, rfl⟩, hd, e⟩, q⟩ := h
  cases rx
  cases ry
  obtain ⟨xs, rn, hx⟩ := D.real I
  have rv := rn.val k
  rw [← e] at rv
  cases hp : atKey xs k with
  | none =>
    rw [hp] at rv
    exact rv.elim
  | some p =>
    rw [hp] at rv
    exact tail_any hx.typeIs slot_dict_getitem.lookup (wpAny_getItem_heap (nk_room1 (X := X) hu) ⟨Nk.real I hk rfl, hd⟩ hx hp ⟨z, H, I.tok _, rv, q⟩) hs
/-- d[k] = v as a target -/
def rNSet (P : Program) (w : World) : TSet := fun x y v H Q => ∃ d o kvs k, x = .ref d ∧ DN P w H d o kvs ∧ Nk H k y ∧ (∃ b, y = .ref b) ∧ k.depth ≤ 8 ∧ kvs.length < sizeLine ∧
  ∀ o', DN P w (upd H d (nob d o')) d o' (putK kvs k v) → Q (upd H d (nob d o'))
theorem set_nest (hu : X.A.units + 64 < cLine) : PSet X (rNSet X.prog X.w) := by
  intro pins s σ H x y v ov iv u Q I rx ry rv h
  obtain ⟨d, o, kvs, k, rfl, D, hk, ⟨b, rfl⟩, hd, hl, q⟩ := h
  cases rx
  cases ry
  exact dn_set hu I D hk hd rv hl fun o' s' I' D' => ⟨_, I', q o' D'⟩
/-- {}, to be such a dict -/
def tNNew (P : Program) (w : World) : TE := fun _ H Q => ∀ p o, H p = none → DN P w (upd H p (nob p o)) p o [] → Q (.ref p) (upd H p (nob p o))
theorem dn_fresh {P : Program} {w : World} {H : Hp} {p : Addr} (hl : (p == sysModules) = false) :
    DN P w (upd H p (nob p { cls := .type "dict", data := .dict #[] })) p { cls := .type "dict", data := .dict #[] } [] :=
  ⟨upd_same, hl, Nat.zero_le _, ⟨rfl, rfl, rfl⟩, #[], 0, [], rfl, rfl, List.nodup_nil, .nil⟩
theorem Inv.newD {pins : List (Addr × Obj)} {σ : L2.St} {H : Hp} {s : Shared} (I : Inv X pins σ H s) :
    Inv X pins σ (upd H s.heap.objs.size (nob s.heap.objs.size { cls := .type "dict", data := .dict #[] })) { s with heap := s.heap.push { cls := .type "dict", data := .dict #[] } } :=
  I.laid (t' := s.toks) (fun _ _ q => Heap.get?_push_of_some _ q) (Nat.le_refl _) (nob_ok (Heap.get?_push_size _ rfl))
theorem low_new {pins : List (Addr × Obj)} {σ : L2.St} {H : Hp} {s : Shared} (I : Inv X pins σ H s) : (s.heap.objs.size == sysModules) = false :=
  beq_eq_false_iff_ne.mpr (Ne.symm (Nat.ne_of_lt I.big))
theorem pe_nnew {pos : Pos} : PE X (.Dict [] [] pos) (tNNew X.prog X.w) := ⟨fun pins s σ H Q I h =>
  wpAny_Dict_empty ⟨.ref s.heap.objs.size, _, Inv.newD I, rfl, h _ _ (I.hok.fresh (Nat.le_refl _)) (dn_fresh (low_new I))⟩⟩
/-- {k: v}, one pair -/
def tNOne (P : Program) (w : World) (tk tv : TE) : TE := fun σ H Q => ∀ p o, H p = none → DN P w (upd H p (nob p o)) p o [] → tk σ (upd H p (nob p o)) fun x H1 => tv σ H1 fun y H2 =>
  H2 p = some (nob p o) ∧ ∃ k b, x = .ref b ∧ Nk H2 k x ∧ k.depth ≤ 8 ∧ ∀ o', DN P w (upd H2 p (nob p o')) p o' [(k, y)] → Q (.ref p) (upd H2 p (nob p o'))
theorem pe_none {k v : Expr} {tk tv : TE} {pos : Pos} (hu : X.A.units + 64 < cLine) (hk : PE X k tk) (hv : PE X v tv) : PE X (.Dict [some k] [v] pos) (tNOne X.prog X.w tk tv) := by
  refine ⟨fun pins s σ H Q I q => ?_⟩
  have hn := I.hok.fresh (Nat.le_refl s.heap.objs.size)
  have hp : PPs X pos [some k] [v] [(tk, tv)] := pps_cons hk hv pps_nil
  rw [arm_eval_Dict, zip_pairTrees [some k] [v] X.env pos rfl rfl, dictDisplay_pairs (pairTrees [some k] [v] X.env pos) (by simp [pairTrees]) (by simp [pairTrees])]
  refine wpAny_bind (wpAny_standAt (wpAny_bind (wpAny_subDictH (knd := NK X.prog X.w) (Q := fun d s' => wpAny (model X.prog X.w) X.A (pure (Value.ref d)) (EP X pins σ Q) X.xe s') (nk_room (X := X) hu) (by simp [pairTrees]) ?_)))
  let R : List (V × V) → Hp → Prop := fun ps H2 => ∃ x y, ps = [(x, y)] ∧ H2 s.heap.objs.size = some (nob s.heap.objs.size { cls := .type "dict", data := .dict #[] }) ∧ ∃ k b, x = .ref b ∧ Nk H2 k x ∧ k.depth ≤ 8 ∧
    ∀ o', DN X.prog X.w (upd H2 s.heap.objs.size (nob s.heap.objs.size o')) s.heap.objs.size o' [(k, y)] → Q (.ref s.heap.objs.size) (upd H2 s.heap.objs.size (nob s.heap.objs.size o'))
  have q0 : tPairs [(tk, tv)] σ (upd H s.heap.objs.size (nob s.heap.objs.size { cls := .type "dict", data := .dict #[] })) R := by
    have q1 := q _ _ hn (dn_fresh (low_new I))
    show tk σ _ fun x H1 => tv σ H1 fun y H2 => R [(x, y)] H2
    have mono : (fun (x : V) (H1 : Hp) => tv σ H1 fun y H2 => R [(x, y)] H2) = fun x H1 => tv σ H1 fun y H2 => H2 s.heap.objs.size = some (nob s.heap.objs.size { cls := .type "dict", data := .dict #[] }) ∧ ∃ k b, x = .ref b ∧ Nk H2 k x ∧ k.depth ≤ 8 ∧
        ∀ o', DN X.prog X.w (upd H2 s.heap.objs.size (nob s.heap.objs.size o')) s.heap.objs.size o' [(k, y)] → Q (.ref s.heap.objs.size) (upd H2 s.heap.objs.size (nob s.heap.objs.size o')) := by
      funext x H1
      congr 1
      funext y H2
      apply propext
      constructor
      · rintro ⟨x', y', e, r⟩
        cases e
        exact r
      · intro r
        exact ⟨x, y, rfl, r⟩
    rw [mono]
    exact q1
  refine thn (hp.run pins _ σ _ R (Inv.newD I) q0) fun ws s2 hh => ?_
  obtain ⟨ps, H2, I2, rel, x, y, rfl, he, k', b, rfl, hkk, hd, hq⟩ := hh
  obtain ⟨u, r, rfl, ru, rr⟩ : ∃ u r, ws = [(u, r)] ∧ RelV (.ref b) u ∧ RelV y r := by
    cases rel with
    | @cons a c as cs h1 h2 =>
      cases h2
      exact ⟨c.1, c.2, rfl, h1.1, h1.2⟩
  cases ru
  have hob := (I2.hok _ _ he).1
  have D0 : DN X.prog X.w H2 s.heap.objs.size { cls := .type "dict", data := .dict #[] } [] :=
    ⟨he, low_new I, Nat.zero_le _, ⟨rfl, rfl, rfl⟩, #[], 0, [], rfl, rfl, List.nodup_nil, .nil⟩
  obtain ⟨xs, r0, hx⟩ := D0.real I2
  cases r0
  refine ⟨[(k', b, r)], ⟨rfl, rfl, ⟨Nk.real I2 hkk rfl, hd⟩, True.intro⟩, hx, fun h' tk hx' hs => wpAny_pure ?_⟩
  have r1 : NP H2 [(k', y)] [(k', b, r)] := .cons ⟨rfl, ⟨hkk, hd⟩, rr⟩ .nil
  obtain ⟨o', I', D'⟩ := DN.written (t' := tk) I2 D0 hs hx' r1 (by show 1 ≤ sizeLine; decide)
  exact ⟨.ref _, _, I', rfl, hq o' D'⟩
end
end TW

set_option Elab.async false
set_option linter.all false
set_option maxRecDepth 100000
set_option maxHeartbeats 4000000
/-! Rules of my own: a dict with nested keys walked, its length, its comparison with an empty one. -/
namespace TW
open PySem
open PySem.Spec PyProof.Rows L2

section
variable {P : Program} {w : World} {K : PySem.W.Frag} {tg : Expr} {d : Addr} {o : Obj} {kvs : List (NestedKey × V)}
/-- the keys, in their order -/
def ItNK (P : Program) (w : World) (d : Addr) (o : Obj) (kvs : List (NestedKey × V)) : It where
  go := fun i H => DN P w H d o kvs ∧ i < kvs.length
  yld := fun i H x H' => H' = H ∧ ∃ k v b, kvs[i]? = some (k, v) ∧ x = .ref b ∧ Nk H k x ∧ k.depth ≤ 8
  stop := fun i H => DN P w H d o kvs ∧ kvs.length ≤ i
/-- the pairs, each a new tuple -/
def ItNI (P : Program) (w : World) (d : Addr) (o : Obj) (kvs : List (NestedKey × V)) : It where
  go := fun i H => DN P w H d o kvs ∧ i < kvs.length
  yld := fun i H x H' => ∃ (T : Addr) (k : NestedKey) (v : V) (b : Addr), kvs[i]? = some (k, v) ∧ x = .ref T ∧ H T = none ∧ H' = upd H T (.tup [.ref b, v]) ∧ Nk H k (.ref b) ∧ k.depth ≤ 8
  stop := fun i H => DN P w H d o kvs ∧ kvs.length ≤ i
/-- what the object holds -/
theorem DN.look {H : Hp} {es : Array DictEntry} {ep : Nat} (D : DN P w H d o kvs) (hd : o.data = .dict es ep) :
    es.size = kvs.length ∧ ∀ (i : Nat) (k : NestedKey) (v : V), kvs[i]? = some (k, v) → ∃ (b : Addr) (u : Value), es[i]? = some (⟨(NK P w).hash k, .ref b, u⟩ : DictEntry) ∧ Nk H k (.ref b) ∧ k.depth ≤ 8 ∧ RelV v u := by
  obtain ⟨es', ep', xs, hd', he, hn, r⟩ := D.ents
  rw [hd] at hd'
  cases hd'
  refine ⟨by rw [size_of_entries he, r.length], fun i k v hi => ?_⟩
  obtain ⟨q, hq, e1, ⟨e2, e3⟩, e4⟩ := paired_get r hi
  have e := entry_at he i
  rw [hq] at e
  obtain ⟨q1, q2, q3⟩ := q
  dsimp only at e1 e2 e4
  subst e1
  exact ⟨q2, q3, e, e2, e3, e4⟩
theorem turn_nkeys (it : Addr) {es : Array DictEntry} {ep : Nat} (hod : o.data = .dict es ep) : Turn P w K tg (ItNK P w d o kvs) [it] it (fun i h => h.IsKeyIter it d i kvs.length ep) where
  mem := List.mem_singleton.mpr rfl
  obj := fun i h st b hb => by
    obtain rfl := List.mem_singleton.mp hb
    obtain ⟨oi, e, c, dd⟩ := st
    exact ⟨oi, e, fun v z => by rw [dd] at z; cases z⟩
  keep := fun i h h' st k => st.at fun oi e => k it (List.mem_singleton.mpr rfl) oi e
  item := by
    intro X hP hw hK hc i pins s σ H E I hf st hg
    subst hP hw hK
    obtain ⟨D, hi⟩ := hg
    obtain ⟨f0, f1, f2, f3, f4, f5⟩ := hf it (List.mem_singleton.mpr rfl)
    obtain ⟨hsz, ent⟩ := D.look hod
    obtain ⟨⟨k, v⟩, hkv⟩ : ∃ p, kvs[i]? = some p := ⟨kvs[i], List.getElem?_eq_getElem hi⟩
    obtain ⟨b, u, hen, hk, hdp, _⟩ := ent i k v hkv
    refine next_key_item st (D.get I) hod hsz hen fun h' st' sb => ?_
    have I1 : Inv X pins σ H { s with heap := h' } := I.turned (t' := s.toks) (fun c ob hb e => (sb.2 c hb).trans e) f0 f1 f3 f4 f5
    obtain ⟨oi, e, c, dd⟩ := id st'
    exact ⟨.ref b, rfl, go_of (s := { s with heap := h' }) e c dd (by decide) ⟨.ref b, H, I1, rfl, ⟨rfl, k, v, b, hkv, rfl, hk, hdp⟩, st', fun c hb => (hf c hb).1⟩⟩
  done := by
    intro X hP hw hK hc i pins s σ H E I hf st hg
    subst hP hw hK
    obtain ⟨D, hi⟩ := hg
    obtain ⟨f0, f1, f2, f3, f4, f5⟩ := hf it (List.mem_singleton.mpr rfl)
    exact next_key_end (I.ok.hd hc) st (D.get I) hod (D.look hod).1 hi fun h' eb => ⟨rfl, I.turned (t' := s.toks) (fun c ob hb e => eb c ob hb e) f0 f1 f3 f4 f5⟩
  self := fun A i s Q E st h => wpAny_pyIter_keyiter st h
theorem turn_nitems {elts : List Expr} {kk : Nat} {tpos : Pos} (it : Addr) {es : Array DictEntry} {ep : Nat} (hod : o.data = .dict es ep) :
    Turn P w K (.Tuple elts kk tpos) (ItNI P w d o kvs) [it] it (fun i h => ∃ ok ov, IsItemIter h it d i es.size ep ok ov) where
  mem := List.mem_singleton.mpr rfl
  obj := fun i h st b hb => by
    obtain rfl := List.mem_singleton.mp hb
    obtain ⟨ok, ov, e⟩ := st
    exact ⟨_, e, fun v z => nomatch z⟩
  keep := fun i h h' st k => let ⟨ok, ov, e⟩ := st; ⟨ok, ov, k it (List.mem_singleton.mpr rfl) _ e⟩
  item := by
    intro X hP hw hK hc i pins s σ H E I hf st hg
    subst hP hw hK
    obtain ⟨D, hi⟩ := hg
    obtain ⟨hsz, ent⟩ := D.look hod
    obtain ⟨⟨k, v⟩, hkv⟩ : ∃ p, kvs[i]? = some p := ⟨kvs[i], List.getElem?_eq_getElem hi⟩
    obtain ⟨b, u, hen, hk, hdp, ru⟩ := ent i k v hkv
    obtain ⟨ok, ov, he⟩ := st
    have hlt : it < s.heap.objs.size := Heap.lt_size he
    have hies : i < es.size := by rw [hsz]; exact hi
    have hent : es[i] = (⟨(NK X.prog X.w).hash k, .ref b, u⟩ : DictEntry) := by
      rw [Array.getElem?_eq_getElem hies] at hen
      exact Option.some.inj hen
    refine wpAny_pyNext_items_item_raw he ⟨o, D.get I, D.ex, hod⟩ hies fun h' ho hT hz hk' => ?_
    rw [hent] at ho hT
    refine ⟨_, rfl, wpAny_letOwnedTupleGo_items (s := { s with heap := h' }) ho fun h'' he' sb => ?_⟩
    have hT2 : h''.get? s.heap.objs.size = some { cls := .type "tuple", data := .seq #[.ref b, u] } := (sb.2 _ (Nat.ne_of_gt hlt)).trans hT
    have new : ObjOk X.prog X.w (upd H s.heap.objs.size (.tup [.ref b, v])) h'' s.heap.objs.size (.tup [.ref b, v]) :=
      ⟨by show 2 ≤ sizeLine; decide, [.ref b, u], .cons rfl (.cons ru .nil), ⟨_, hT2, rfl, _, rfl⟩⟩
    have I1 : Inv X pins σ (upd H s.heap.objs.size (.tup [.ref b, v])) { s with heap := h'' } :=
      I.turnedNew (t' := s.toks) (ch := [it]) (fun c ob hb e => (sb.2 c (fun z => hb (List.mem_singleton.mpr z))).trans (hk' c ob (fun z => hb (List.mem_singleton.mpr z)) e)) hf (Nat.le_refl _) new
    refine ⟨.ref s.heap.objs.size, _, I1, rfl, ⟨_, k, v, b, hkv, rfl, I.hok.fresh (Nat.le_refl _), rfl, hk, hdp⟩, ⟨_, _, he'⟩, fun c hb => ?_⟩
    obtain rfl := List.mem_singleton.mp hb
    rw [upd_ne (Nat.ne_of_lt hlt)]
    exact (hf _ hb).1
  done := by
    intro X hP hw hK hc i pins s σ H E I hf st hg
    subst hP hw hK
    obtain ⟨D, hi⟩ := hg
    obtain ⟨f0, f1, f2, f3, f4, f5⟩ := hf it (List.mem_singleton.mpr rfl)
    obtain ⟨ok, ov, he⟩ := st
    exact wpAny_pyNext_items_end_raw (I.ok.hd hc) he ⟨o, D.get I, D.ex, hod⟩ (by rw [(D.look hod).1]; exact hi) fun h' eb => ⟨rfl, I.turned (t' := s.toks) (fun c ob hb e => eb c ob hb e) f0 f1 f3 f4 f5⟩
  self := fun A i s Q E st h => let ⟨_, _, e⟩ := st; wpAny_pyIter_itemiter e h
end
section
variable {X : Cx} {tg e : Expr} {td : TE} {apos cpos : Pos}
/-- for k in d -/
def iNK (P : Program) (w : World) (td : TE) : TI := fun σ H R => td σ H fun x H1 => ∃ d o kvs, x = .ref d ∧ DN P w H1 d o kvs ∧ R (ItNK P w d o kvs) H1
theorem pi_nkeys (he : PE X e td) : PI X tg e (iNK X.prog X.w td) := by
  refine ⟨fun pins s σ H R I h => thn (he.run pins s σ H _ I h) fun u s1 hh => ?_⟩
  obtain ⟨x, H1, I1, rx, d, o, kvs, rfl, D, q⟩ := hh
  cases rx
  obtain ⟨es, ep, xs, hdt, _⟩ := D.ents
  refine iter_keys D.low (D.get I1) D.ex hdt (pi_one (tk := s1.toks) I1 _ (turn_nkeys _ hdt) ⟨_, Heap.get?_push_size _ rfl, rfl, ?_⟩ q)
  rw [(D.look hdt).1]
  rfl
/-- for k, v in d.items() -/
def iNI (P : Program) (w : World) (td : TE) : TI := fun σ H R => td σ H fun x H1 => ∃ d o kvs, x = .ref d ∧ DN P w H1 d o kvs ∧ R (ItNI P w d o kvs) H1
theorem pi_nitems {elts : List Expr} {kk : Nat} {tpos : Pos} (he : PE X e td) (hbase : attributeBase e "items" X.env (eval e X.env) = eval e X.env := by rfl) (hline : (apos.endLine == cpos.line) = true := by rfl) :
    PI X (.Tuple elts kk tpos) (.Call (.Attribute e "items" apos) [] [] cpos) (iNI X.prog X.w td) := by
  refine ⟨fun pins s σ H R I h => wpAny_Call_method (T := "dict") (id := "dict.items") hbase rfl hline F.plainAttrs_dict F.slot_dict_items F.type_dict_items (thn (he.run pins s σ H _ I h) fun u s1 hh => ?_)⟩
  obtain ⟨x, H1, I1, rx, d, o, kvs, rfl, D, q⟩ := hh
  cases rx
  obtain ⟨es, ep, xs, hdt, _⟩ := D.ents
  have hT : s1.TypeIs (.ref d) "dict" := ⟨o, D.get I1, D.ex.1⟩
  refine ⟨hT, fun b z => by cases z; exact ⟨o, D.get I1, D.ex.2.1⟩, ?_⟩
  have I2 : Inv X pins σ H1 { s1 with heap := s1.heap.push { cls := .type "dict_items", data := .fields #[.ref d] } } := I1.kept (t' := s1.toks) fun b ob q => Heap.get?_push_of_some _ q
  have fin : wpAny (model X.prog X.w) X.A (pyIter (.ref s1.heap.objs.size)) (PIE X pins σ (.Tuple elts kk tpos) R) X.xe { s1 with heap := s1.heap.push { cls := .type "dict_items", data := .fields #[.ref d] } } := by
    refine wpAny_pyIter_items_raw (d := d) ⟨_, Heap.get?_push_size _ rfl, rfl, rfl⟩ ⟨o, D.get I2, D.ex, hdt⟩ (pi_one (tk := s1.toks) I2 _ (turn_nitems _ hdt) ⟨.none, .none, ?_⟩ q)
    exact Heap.get?_push_size _ rfl
  show wpAny _ _ (callWith cpos (.builtin "dict.items") [.ref d] [] []) _ X.xe s1
  exact method_meetsIn F.slot_dict_items F.entry_dict_items rfl (PySem.evalArgs_none ⟨rfl, hT, F.args_dict_items_1 _, _, meets_dict_items_raw d D.low, ⟨es, ep, o, D.get I1, D.ex, hdt⟩, fin⟩)
/-- len(d) -/
def rNLen (P : Program) (w : World) : List V → Hp → VK → Prop := fun vs H Q => ∃ d o kvs, vs = [V.ref d] ∧ DN P w H d o kvs ∧ Q (.int kvs.length) H
theorem call_nlen : CallR X (.builtin "len") (rNLen X.prog X.w) := by
  intro pins s σ H xs us Q I r h
  obtain ⟨d, o, kvs, rfl, D, q⟩ := h
  obtain ⟨u, rfl, ru⟩ := Vals.one r
  cases ru
  obtain ⟨xs, rn, hx⟩ := D.real I
  have hm : s.heap.DictKeyed (NK X.prog X.w) d (pairsH xs) := ⟨xs, hx, rfl⟩
  have hl : (pairsH xs).length = kvs.length := by rw [pairsH_length, rn.length]
  have hz := D.len
  rw [sizeLine_eq] at hz
  refine PyProof.Rows.call_len_slot (n := (pairsH xs).length) hm.typeIs F.slot_dict_len (fun Q' hq => len_keyed D.low hm hq) (by omega) (by omega) ?_
  rw [hl]
  exact ⟨.int _, H, I.tok _, ⟨_, rfl⟩, q⟩
end

/-! d != {} -/
section
variable {prog : Program} {w : World} {A : Around} {E : Value → Shared → Prop} {s : Shared}
theorem same_empty {nm : String} {a b : Addr} {oA oB : Obj} {es : Array DictEntry} {ep ep' : Nat} {Q : Bool → Shared → Prop} (la : (a == sysModules) = false) (lb : (b == sysModules) = false)
    (hA : s.heap.get? a = some oA) (hB : s.heap.get? b = some oB) (dA : oA.data = .dict es ep) (dB : oB.data = .dict #[] ep') (h : Q (es.size == 0) s) : wpAny (model prog w) A (Builtin.Dict.samePairs nm a b) Q E s := by
  unfold Builtin.Dict.samePairs
  unfold Builtin.Dict.showsAll
  rw [if_neg (by rw [la]; exact Bool.false_ne_true), if_neg (by rw [lb]; exact Bool.false_ne_true)]
  refine wpAny_bind (wpAny_pure (wpAny_bind (wpAny_pure (wpAny_bind (wpAny_dictEntries hA dA ?_)))))
  dsimp only
  refine wpAny_bind (wpAny_dictEntries hB dB ?_)
  by_cases hz : es.size = 0
  · have e0 : es = #[] := Array.eq_empty_of_size_eq_zero hz
    subst e0
    rw [if_neg (by simp)]
    refine wpAny_bind (wpAny_dictEpoch hA dA (wpAny_bind ?_))
    rw [Std.Legacy.Range.forIn_eq_forIn_range']
    simp only [Std.Legacy.Range.size, Nat.sub_zero, Nat.add_sub_cancel, Nat.div_one]
    show wpAny _ _ (forIn [] _ _) _ _ _
    rw [List.forIn_nil]
    exact wpAny_pure (wpAny_pure (by simpa using h))
  · rw [if_pos (by simpa using hz)]
    have hb : (es.size == 0) = false := by simpa using hz
    rw [hb] at h
    exact wpAny_bind (wpAny_rule (wpAny_pure h))
theorem ne_empty {a b : Addr} {oA oB : Obj} {es : Array DictEntry} {ep ep' : Nat} {Q : Value → Shared → Prop} (la : (a == sysModules) = false) (lb : (b == sysModules) = false)
    (hA : s.heap.get? a = some oA) (hB : s.heap.get? b = some oB) (cA : oA.cls = .type "dict") (cB : oB.cls = .type "dict") (dA : oA.data = .dict es ep) (dB : oB.data = .dict #[] ep') (hu : A.units < cLine)
    (h : Q (.bool (!(es.size == 0))) s) : wpAny (model prog w) A (compareOp .NotEq (.ref a) (.ref b)) Q E s := by
  have tA : s.TypeIs (.ref a) "dict" := ⟨oA, hA, cA⟩
  have tB : s.TypeIs (.ref b) "dict" := ⟨oB, hB, cB⟩
  refine wpAny_richCompare_same_room (op := .NotEq) tA tB PySem.F.slot_dict_ne (wpAny_call_entry PySem.F.slot_dict_ne tA PySem.F.entry_dict_ne ?_ (PySem.F.args_dict_ne_2 _ _)) hu
  show wpAny _ _ (Builtin.Dict.dictSlotArgs "__ne__" ⟨[.ref a, .ref b], []⟩ >>= _) _ _ s
  refine wpAny_bind ?_
  unfold Builtin.Dict.dictSlotArgs
  refine wpAny_bind (wpAny_notOrdered_dict tA ?_)
  show wpAny _ _ (pure (Value.ref a, Value.ref b)) _ _ s
  refine wpAny_pure (wpAny_bind (wpAny_isInstance (T := "dict") tB PySem.F.sub_dict_dict ?_))
  simp only [Bool.not_true, Bool.false_eq_true, if_false]
  refine wpAny_bind (wpAny_pure (wpAny_bind (wpAny_pure (wpAny_bind (same_empty la lb hA hB dA dB ?_)))))
  refine wpAny_pure ⟨_, rfl, (fun x => nomatch x), ?_⟩
  simpa using h
end
section
variable {X : Cx}
/-- d != e, e an empty one -/
def rNNe (P : Program) (w : World) : R2 := fun x y H Q => ∃ d o kvs e o', x = .ref d ∧ y = .ref e ∧ DN P w H d o kvs ∧ DN P w H e o' [] ∧ Q (.bl (!kvs.isEmpty)) H
theorem op_nne (hu : X.A.units + 64 < cLine) : OpR X (compareOp .NotEq) (rNNe X.prog X.w) := by
  intro pins s σ H x y v u Q I rx ry h
  obtain ⟨d, o, kvs, e, o', rfl, rfl, D, D', q⟩ := h
  cases rx
  cases ry
  obtain ⟨es, ep, xs, hd, he, _, r⟩ := D.ents
  obtain ⟨es', ep', xs', hd', he', _, r'⟩ := D'.ents
  cases r'
  have e0 : es' = #[] := Array.toList_eq_nil_iff.mp he'
  subst e0
  refine ne_empty D.low D'.low (D.get I) (D'.get I) D.ex.1 D'.ex.1 hd hd' (by omega) ?_
  have hz : (es.size == 0) = kvs.isEmpty := by
    rw [(D.look hd).1]
    cases kvs <;> simp
  rw [hz]
  exact ⟨.bl _, H, I, rfl, q⟩
end
end TW

set_option Elab.async false
set_option linter.all false
set_option maxRecDepth 100000
set_option maxHeartbeats 4000000
/-! Rules of my own: sorted(set(xs)) of texts. -/
namespace TW
open PySem
open PySem.Spec PyProof.Rows L2

/-- an entry of a set of texts -/
def StrE (w : World) (e : Int × Value) : Prop := ∃ x tk, e.2 = Value.str x tk ∧ e.1 = hashStr w x
def txtOf (e : Int × Value) : Str := match e.2 with | .str x _ => x | _ => Str.empty
/-- the set of texts at a: xs its members in the table's order -/
def SetS (w : World) (h : Heap) (a : Addr) (xs : List Str) : Prop :=
  ∃ o es ep t, h.get? a = some o ∧ o.ExactSet ∧ o.data = .set es ep t ∧ (∀ e ∈ es.toList, StrE w e) ∧ es.toList.map txtOf = xs ∧ xs.Nodup ∧
    es.size < scanBound ∧ t.fits es.size = true ∧ Ris t.place.toList ∧ (w.params.followText "set-order" = true ∨ t.led = true)
section
variable {P : Program} {w : World} {h h' : Heap} {a : Addr} {xs : List Str}
theorem SetS.at (R : SetS w h a xs) (k : ∀ o, h.get? a = some o → h'.get? a = some o) : SetS w h' a xs := by
  obtain ⟨o, es, ep, t, ho, r⟩ := R
  exact ⟨o, es, ep, t, k o ho, r⟩
theorem strE_elems {l : List (Int × Value)} (g : ∀ e ∈ l, StrE w e) : ElemsOf (PySem.strKind P w) l := fun e he => by
  obtain ⟨x, tk, h1, h2⟩ := g e he
  exact ⟨⟨x, by rw [h1]; exact strKind_is P w x tk, h2⟩, by rw [h1]; rfl⟩
theorem strE_is {e : Int × Value} (g : StrE w e) (x : Str) : (PySem.strKind P w).is x e.2 = true ↔ txtOf e = x := by
  obtain ⟨y, tk, h1, _⟩ := g
  unfold txtOf
  rw [h1]
  show Value.isStrOf x (.str y tk) = true ↔ y = x
  unfold Value.isStrOf
  constructor
  · intro q; simpa using q
  · intro q; simpa using q
theorem SetS.bound (R : SetS w h a xs) : xs.length < scanBound := by
  obtain ⟨o, es, ep, t, _, _, _, _, hm, _, hb, _⟩ := R
  rw [← hm, List.length_map, Array.length_toList]
  exact hb
end
section
variable {P : Program} {w : World} {A : Around} {E : Value → Shared → Prop} {s : Shared} {a : Addr} {xs : List Str}
/-- the end of an adding: the table is stored, laid anew where it is too full -/
theorem sets_tail {g : Bool → Sem Unit} (hg : ∀ (b : Bool) (s₁ : Shared) (Q' : Unit → Shared → Prop), Q' () s₁ → wpAny (model P w) A (g b) Q' E s₁)
    {o : Obj} {es : Array (Int × Value)} {ep : Nat} {t : SetTable} (ho : s.heap.get? a = some o) (hex : o.ExactSet) (hd : o.data = .set es ep t)
    {es1 : Array (Int × Value)} {t2 : SetTable} (g1 : ∀ e ∈ es1.toList, StrE w e) (nd1 : (es1.toList.map txtOf).Nodup)
    (hb1 : es1.size < scanBound) (hf2 : t2.fits es1.size = true) (hr : Ris t2.place.toList) (hl : w.params.followText "set-order" = true ∨ t2.led = true) {wasDummy : Bool} {R : Option Bool → Shared → Prop}
    (hR : ∀ h' ys, Heap.SameBut a s.heap h' → SetS w h' a ys → ys.Perm (es1.toList.map txtOf) → R (some true) { s with heap := h' }) :
    wpAny (model P w) A (do
        storeSet a es1 t2
        if (!wasDummy && t2.tooFull) = true then do
            g (relayAll t2 es1 (SetTable.grown es1.size)).2.2
            storeSet a (relayAll t2 es1 (SetTable.grown es1.size)).1 (relayAll t2 es1 (SetTable.grown es1.size)).2.1
            pure (some true)
          else pure (some true)) R E s := by
  have stored1 := store_at (es' := es1) (t' := t2) ho hd
  have same1 := Heap.SameBut.update s.heap a (Obj.putSet es1 t2)
  refine wpAny_bind (wpAny_storeSet_of ho hd ?_ (fits_of_scanBound hb1))
  split
  · have pm := relayAll_perm t2 es1 (SetTable.grown es1.size)
    have q1 := relayAll_fits t2 es1 (SetTable.grown es1.size)
    have q2 := relayAll_ris t2 es1 (SetTable.grown es1.size)
    have q3 := relayAll_led t2 es1 (SetTable.grown es1.size)
    generalize relayAll t2 es1 (SetTable.grown es1.size) = Z at pm q1 q2 q3 ⊢
    obtain ⟨es2, t3, gave⟩ := Z
    dsimp only at pm q1 q2 q3 ⊢
    have hsz : es2.size = es1.size := by rw [← Array.length_toList, pm.length_eq, Array.length_toList]
    have hb2 : es2.size < scanBound := by rw [hsz]; exact hb1
    have pt := pm.map txtOf
    refine wpAny_bind (hg _ _ _ (wpAny_bind (wpAny_storeSet_of stored1 rfl (wpAny_pure ?_) (fits_of_scanBound hb2))))
    have stored2 := store_at (es' := es2) (t' := t3) stored1 rfl
    exact hR _ _ (same1.trans (Heap.SameBut.update _ a _)) ⟨_, es2, _, t3, stored2, hex, rfl, fun e he => g1 e (pm.mem_iff.mp he), rfl, pt.nodup_iff.mpr nd1, hb2, q1, q2, hl.imp id fun z => by rw [q3]; exact z⟩ pt
  · exact wpAny_pure (hR _ _ same1 ⟨_, es1, _, t2, stored1, hex, rfl, g1, rfl, nd1, hb1, hf2, hr, hl⟩ (List.Perm.refl _))
theorem sets_add_hashed {k : Str} {tk : Tok} {Q : Bool → Shared → Prop} (R : SetS w s.heap a xs) (room : xs.length + 1 < scanBound)
    (hQ : ∀ b h' ys, Heap.SameBut a s.heap h' → SetS w h' a ys → (k ∈ xs → ys = xs) → (k ∉ xs → ys.Perm (k :: xs)) → Q b { s with heap := h' }) :
    wpAny (model P w) A (setAddHashed a (.str k tk) ((PySem.strKind P w).hash k)) Q E s := by
  obtain ⟨o, es, ep, t, ho, hex, hd, g, hm, nd, hb, hf, hr, hl⟩ := id R
  have hkey : (PySem.strKind P w).is k (.str k tk) = true := strKind_is P w k tk
  have hsc : (Value.str k tk).scannable = true := rfl
  have hel : ElemsOf (PySem.strKind P w) es.toList := strE_elems g
  have hlen : es.size = xs.length := by rw [← hm, List.length_map, Array.length_toList]
  unfold setAddHashed setAddHashedIn
  refine wpAny_holding (wpAny_bind (wpAny_setState_of ho hd hf ?_))
  dsimp only
  rw [byScan_of hsc hb hel]
  simp only [↓reduceIte]
  unfold setAddByScan
  refine wpAny_bind (wpAny_bind (wpAny_rule (wpAny_bind (wpAny_setScan_of hkey ho hd hf hel ?_))))
  cases hfi : List.findIdx? (fun e => (PySem.strKind P w).is k e.2) es.toList with
  | some j =>
    dsimp only
    obtain ⟨hj, pj, _⟩ := List.findIdx?_eq_some_iff_getElem.mp hfi
    have hk : k ∈ xs := by
      rw [← hm]
      exact List.mem_map.mpr ⟨_, List.getElem_mem hj, (strE_is (g _ (List.getElem_mem hj)) k).mp pj⟩
    exact wpAny_pure (wpAny_pure (hQ _ s.heap xs (Heap.SameBut.refl a s.heap) R (fun _ => rfl) fun z => (z hk).elim))
  | none =>
    dsimp only
    have hk : k ∉ xs := by
      rw [← hm]
      intro z
      obtain ⟨e, he, q⟩ := List.mem_map.mp z
      have c := List.findIdx?_eq_none_iff.mp hfi e he
      rw [(strE_is (g e he) k).mpr q] at c
      cases c
    have hgw : ∀ (b : Bool) {s₁ : Shared} {Q' : Unit → Shared → Prop}, Q' () s₁ → wpAny (model P w) A (match b with | true => rule "set.scan.the-table-gave-way" | false => pure ()) Q' E s₁ :=
      fun b s₁ Q' q => by cases b <;> first | exact wpAny_pure q | exact wpAny_rule q
    have pm := layNew_perm t es ((PySem.strKind P w).hash k) (.str k tk)
    have c1 := layNew_fits t es ((PySem.strKind P w).hash k) (.str k tk)
    have c2 := layNew_ris t es ((PySem.strKind P w).hash k) (.str k tk) hr
    have c3 := layNew_led t es ((PySem.strKind P w).hash k) (.str k tk)
    generalize layNew t es ((PySem.strKind P w).hash k) (.str k tk) = Z at pm c1 c2 c3 ⊢
    obtain ⟨es1, t1, wasDummy, gave⟩ := Z
    dsimp only at pm c1 c2 c3 ⊢
    rw [Array.toList_push] at pm
    have pc : es1.toList.Perm (((PySem.strKind P w).hash k, Value.str k tk) :: es.toList) := pm.trans (List.perm_append_singleton _ _)
    have pk : (es1.toList.map txtOf).Perm (k :: xs) := by
      have q := pc.map txtOf
      rw [List.map_cons, hm] at q
      exact q
    have g1 : ∀ e ∈ es1.toList, StrE w e := fun e he => by
      rcases List.mem_cons.mp (pc.mem_iff.mp he) with z | z
      · rw [z]; exact ⟨k, tk, rfl, rfl⟩
      · exact g e z
    have nd1 : (es1.toList.map txtOf).Nodup := pk.nodup_iff.mpr (List.nodup_cons.mpr ⟨hk, nd⟩)
    have hsz : es1.size = xs.length + 1 := by rw [← Array.length_toList, pc.length_eq, List.length_cons, Array.length_toList, hlen]
    have hb1 : es1.size < scanBound := by rw [hsz]; exact room
    have hled : w.params.followText "set-order" = true ∨ t1.led = true := hl.imp id fun z => by rw [c3]; exact z
    have fin : ∀ h' ys, Heap.SameBut a s.heap h' → SetS w h' a ys → ys.Perm (es1.toList.map txtOf) → Q true { s with heap := h' } := fun h' ys sb r p =>
      hQ true h' ys sb r (fun z => (hk z).elim) fun _ => p.trans pk
    refine wpAny_bind (hgw _ ?_)
    split
    · refine wpAny_bind ?_
      rw [hashByValue_scannable 8 hsc]
      refine wpAny_pure (sets_tail ?_ ho hex hd g1 nd1 hb1 ?_ ?_ ?_ ?_)
      · intro b s₁ Q' q; cases b <;> first | exact wpAny_pure q | exact wpAny_rule q
      · first | (split <;> first | exact c1 | exact SetTable.fits_plain_off c1) | exact c1
      · first | (split <;> exact c2) | exact c2
      · first | (split <;> exact hled) | exact hled
      · intro h' ys sb r p; dsimp only; exact wpAny_pure (fin h' ys sb r p)
    · refine wpAny_bind (wpAny_pure ?_)
      simp only [↓reduceIte]
      refine sets_tail ?_ ho hex hd g1 nd1 hb1 c1 c2 hled ?_
      · intro b s₁ Q' q; cases b <;> first | exact wpAny_pure q | exact wpAny_rule q
      · intro h' ys sb r p; dsimp only; exact wpAny_pure (fin h' ys sb r p)
end
theorem strs_get : ∀ {us : List Value} {ks : List Str} {i : Nat} {v : Value}, StrsAre us ks → us[i]? = some v → ∃ x, ks[i]? = some x ∧ ∃ t, v = .str x t
  | _, _, i, _, .nil, h => by simp at h
  | _, _, 0, _, .cons x t _, h => by
    simp at h
    exact ⟨x, rfl, t, h.symm⟩
  | _, _, i + 1, _, .cons x t r, h => by
    simp only [List.getElem?_cons_succ] at h ⊢
    exact strs_get r h
section
variable {P : Program} {w : World} {A : Around} {E : Value → Shared → Prop} {s : Shared}
/-- the members so far: those of the first i -/
def Gets (ks : List Str) (i : Nat) (ys : List Str) : Prop := (∀ y, y ∈ ys ↔ y ∈ ks.take i) ∧ ys.length ≤ i
theorem Gets.next {ks ys zs : List Str} {i : Nat} {k : Str} (g : Gets ks i ys) (hk : ks[i]? = some k) (h1 : k ∈ ys → zs = ys) (h2 : k ∉ ys → zs.Perm (k :: ys)) : Gets ks (i + 1) zs := by
  have ht : ks.take (i + 1) = ks.take i ++ [k] := by rw [List.take_add_one, hk]; rfl
  refine ⟨fun y => ?_, ?_⟩
  · rw [ht, List.mem_append, List.mem_singleton, ← g.1 y]
    by_cases c : k ∈ ys
    · rw [h1 c]
      exact ⟨.inl, fun z => z.elim id fun e => e ▸ c⟩
    · rw [(h2 c).mem_iff, List.mem_cons]
      exact Or.comm
  · have := g.2
    by_cases c : k ∈ ys
    · rw [h1 c]; omega
    · rw [(h2 c).length_eq, List.length_cons]; omega
theorem sets_update {I : Addr} {fp wr : List Addr} {G : Array GenState → Array GenState → Prop} {n : Nat} {Pv : Nat → Value → Prop} {St : Nat → Shared → Prop} {R : Result → Shared → Prop}
    (W : WalksS P w A.in1 I fp wr G n Pv St) (S : Addr) (hSf : S ∉ fp) (ks : List Str) (hn : n = ks.length) (hfew : n + 1 < scanBound) (hval : ∀ i v, Pv i v → ∃ x t, ks[i]? = some x ∧ v = .str x t) :
    ∀ (m i : Nat) (s : Shared) (ys : List Str), n - i = m → i ≤ n → St i s → SetS w s.heap S ys → Gets ks i ys →
      (∀ s' zs, Moved (S :: wr) G s s' → SetS w s'.heap S zs → Gets ks n zs → R (.ok (.ret .none)) s') →
      codeAny (model P w) A (.builtin "set.update.loop" ⟨[.ref S, .ref I], []⟩) R s := by
  have hSw : S ∉ wr := fun h => hSf (W.sub _ h)
  have grow : ∀ b ∈ wr, b ∈ S :: wr := fun b hb => List.mem_cons_of_mem _ hb
  intro m
  induction m with
  | zero =>
    intro i s ys hm hi hst hS g hR
    have hin : i = n := by omega
    subst hin
    refine codeAny_builtin F.entry_set_update_loop ?_
    rw [Around.under_plainId F.plain_set_update_loop _]
    show wpAny _ A.in1 (pyNext (.ref I) >>= _) _ _ s
    refine wpAny_bind (W.done s _ _ hst fun s' mv => ?_)
    show wpAny _ A.in1 (ret Value.none) _ _ s'
    exact wpAny_pure (hR s' ys (mv.mono grow) (hS.at fun o e => mv.heap S o hSw e) g)
  | succ m ih =>
    intro i s ys hm hi hst hS g hR
    have hlt : i < n := by omega
    refine codeAny_builtin F.entry_set_update_loop ?_
    rw [Around.under_plainId F.plain_set_update_loop _]
    show wpAny _ A.in1 (pyNext (.ref I) >>= _) _ _ s
    refine wpAny_bind (W.item i s _ _ hlt hst fun v s' hP hst' mv => ?_)
    obtain ⟨x, t, hx, rfl⟩ := hval i v hP
    have hS' : SetS w s'.heap S ys := hS.at fun o e => mv.heap S o hSw e
    show wpAny _ A.in1 (holding [Value.str x t] (setAdd S (.str x t)) >>= _) _ _ s'
    refine wpAny_bind (wpAny_holding ?_)
    unfold setAdd
    refine wpAny_holding (wpAny_bind ((PySem.strKind P w).pyHash (k := x) (strKind_is _ _ _ _) ?_))
    refine sets_add_hashed (s := { s' with toks := s'.toks + 1 }) hS' (by have := g.2; omega) fun b h' zs sb hz c1 c2 => ?_
    have g' := g.next hx c1 c2
    refine wpAny_pure ⟨plainId_quiet F.plain_set_update_loop _, ih (i + 1) _ zs (by omega) hlt (W.frame _ s' _ _ hst' (Nat.le_add_right _ _) fun c hb o e => ?_) hz g' fun s'' us mv' hu g'' => ?_⟩
    · rw [sb.2 c (fun z => hSf (z ▸ hb))]; exact e
    · refine hR s'' us (Moved.trans W.gtrans ((mv.mono grow).then_heap (Nat.le_add_right _ _) fun c o hb e => ?_) mv') hu g''
      rw [sb.2 c (fun z => hb (by rw [z]; exact List.mem_cons_self))]; exact e
/-- set(xs), xs a list of texts -/
theorem call_set_txt {l : Addr} {items : Array Value} (ks : List Str) {Q : Value → Shared → Prop} (hh : A.handled = none) (hl : s.heap.IsList l items) (hit : StrsAre items.toList ks) (hfew : ks.length + 1 < scanBound)
    (h : ∀ (h' : Heap) (tk : Nat) ys, SetS w h' s.heap.objs.size ys → (∀ y, y ∈ ys ↔ y ∈ ks) → (∀ b o, s.heap.get? b = some o → h'.get? b = some o) → Q (.ref s.heap.objs.size) { s with heap := h', toks := tk }) :
    wpAny (model P w) A (call (.type "set") [.ref l]) Q E s := by
  have hisz : items.size = ks.length := by rw [← Array.length_toList]; exact hit.length
  have fresh0 : Obj := { cls := .type "set", dict := none, data := .set #[] 0 (.fresh 0 0 (!w.params.followText "set-order")) }
  obtain ⟨c, tl, hmro⟩ := F.called_set.mro
  have hmade := F.called_set.made
  have hsub := F.called_set.sub
  refine wpAny_call (codeAny_of_tree ?_)
  show wpAny _ _ (callAny (.type "set") _) _ _ _
  refine wpAny_pure ⟨Code.quiet_builtin _ (by decide +kernel), codeAny_builtin F.entry_type_call ?_⟩
  rw [Around.under_plain (weight_type_call_type "set" [.ref l] []) rfl]
  have h1 := F.called_set.notType
  have h2 := F.called_set.canCreate
  have hct := F.typeCall_set_1 (.ref l)
  repeat (any_goals (first | assumption | wp_step))
  refine codeAny_mono (code_set_led1 (.ref l) (E := E) (Q₁ := fun obj s₁ => obj = .ref s.heap.objs.size ∧ s₁ = { s with heap := s.heap.push { cls := .type "set", dict := none, data := .set #[] 0 (.fresh 0 0 (!w.params.followText "set-order")) } }) ⟨rfl, rfl⟩) fun r s₁ hr => ?_
  cases r with
  | error e => exact hr
  | ok fl =>
    cases fl with
    | ret obj =>
      obtain ⟨rfl, rfl⟩ := hr
      generalize hO : ({ cls := .type "set", dict := none, data := .set #[] 0 (.fresh 0 0 (!w.params.followText "set-order")) } : Obj) = O
      have hfree : O.isFreed = false := by rw [← hO]; rfl
      have hS : (s.heap.push O).get? s.heap.objs.size = some O := Heap.get?_push_size _ hfree
      have hcls : O.cls = .type "set" := by rw [← hO]
      have hT : Shared.TypeIs { s with heap := s.heap.push O } (.ref s.heap.objs.size) "set" := ⟨O, hS, hcls⟩
      have hli := F.called_set.init.lookup
      have hbi := F.called_set.init.bind (.ref s.heap.objs.size)
      repeat (any_goals (first | assumption | wp_step))
      refine codeAny_mono (codeAny_call_builtin (R := wants (fun r s₂ => r = .none ∧ ∃ h' tk ys, s₂ = { s with heap := h', toks := tk } ∧ SetS w h' s.heap.objs.size ys ∧ (∀ y, y ∈ ys ↔ y ∈ ks) ∧
          (∀ b o, s.heap.get? b = some o → h'.get? b = some o)) E) F.called_set.init.plain F.entry_set_init (check_set_init_1 hT ?_)) fun r₂ s₂ hr₂ => ?_
      · have hl1 : (s.heap.push O).IsList l items := hl.push _
        obtain ⟨ol, hol, hcl, nl, hdl⟩ := id hl
        obtain ⟨ocls, odict, odata, oslots⟩ := ol
        simp only at hcl hdl
        subst hcl; subst hdl
        have hol' : (s.heap.push O).get? l = some { cls := .type "list", dict := odict, data := .seq items nl, slots := oslots } := Heap.get?_push_of_some _ hol
        have hsls := F.sub_list_set
        have hslf := F.sub_list_frozenset
        have hne : (Value.type "list" == Value.type "dict") = false := by decide
        unfold Builtin.«set.__init__» noKeywords Builtin.Frozenset.updateFrom
        subst hO
        generalize hPI : pyIter = PI
        wp_walk
        subst hPI
        refine wpAny_pyIter_list hl1 ?_
        refine wpAny_bind (wpAny_runValue ?_)
        have hlS : l < s.heap.objs.size := Heap.lt_size hol
        have hh3 : A.in1.in1.in1.handled = none := by simp [hh]
        have hz1 : (s.heap.push { cls := .type "set", dict := none, data := .set #[] 0 (.fresh 0 0 (!w.params.followText "set-order")) }).objs.size = s.heap.objs.size + 1 := Heap.size_push ..
        have hneI : l ≠ (s.heap.push { cls := .type "set", dict := none, data := .set #[] 0 (.fresh 0 0 (!w.params.followText "set-order")) }).objs.size := by rw [hz1]; exact Nat.ne_of_lt (Nat.lt_succ_of_lt hlS)
        have hSf : s.heap.objs.size ∉ [(s.heap.push { cls := .type "set", dict := none, data := .set #[] 0 (.fresh 0 0 (!w.params.followText "set-order")) }).objs.size, l] := by
          rw [hz1]; simp only [List.mem_cons, List.mem_singleton, List.not_mem_nil, or_false, not_or]
          exact ⟨Nat.ne_of_lt (Nat.lt_succ_self _), Nat.ne_of_gt hlS⟩
        have hval : ∀ (i : Nat) (v : Value), items[i]? = some v → ∃ x t, ks[i]? = some x ∧ v = .str x t := fun i v hv => by
          have q : items.toList[i]? = some v := by rw [Array.getElem?_toList]; exact hv
          obtain ⟨x, hx, r⟩ := strs_get hit q
          obtain ⟨t, e⟩ := r
          exact ⟨x, t, hx, e⟩
        have hS0 : SetS w (s.heap.push { cls := .type "set", dict := none, data := .set #[] 0 (.fresh 0 0 (!w.params.followText "set-order")) }) s.heap.objs.size [] := by
          refine ⟨_, #[], 0, .fresh 0 0 (!w.params.followText "set-order"), hS, ⟨rfl, rfl, rfl⟩, rfl, (fun e he => by simp at he), rfl, List.nodup_nil, by decide, rfl, List.Pairwise.nil, ?_⟩
          show _ ∨ (!w.params.followText "set-order") = true
          cases w.params.followText "set-order"
          · exact .inr rfl
          · exact .inl rfl
        refine sets_update ((Walks.list hh3 _ l hneI items).toS) s.heap.objs.size hSf ks hisz (by rw [hisz]; exact hfew) hval (items.size - 0) 0 _ [] (by omega) (Nat.zero_le _)
          ⟨⟨_, Heap.get?_push_size _ rfl, rfl, rfl⟩, (hl1.push _)⟩ (hS0.at fun o e => Heap.get?_push_of_some _ e) ⟨fun y => by simp, Nat.zero_le _⟩ fun s' zs mv hz g => ?_
        obtain ⟨h', g2, d', tk', os'⟩ := s'
        have eg : g2 = s.gens := mv.gens
        have ed : d' = s.drawn := mv.drawn
        have eo : os' = s.os := mv.os
        subst eg; subst ed; subst eo
        show wpAny _ _ _ _ _ _
        refine wpAny_pure ?_
        show wpAny _ _ (ret Value.none) _ _ _
        rw [hisz] at g
        refine wpAny_pure ⟨rfl, h', tk', zs, rfl, hz, fun y => by rw [g.1 y, List.take_length], fun b o e => ?_⟩
        have hb : b < s.heap.objs.size := Heap.lt_size e
        refine mv.heap b o (fun hm => ?_) (Heap.get?_push_of_some _ (Heap.get?_push_of_some _ e))
        rcases List.mem_cons.mp hm with z | z
        · exact Nat.ne_of_lt hb z
        · rw [List.mem_singleton.mp z, hz1] at hb
          exact absurd hb (Nat.not_lt_of_le (Nat.le_succ _))
      · cases r₂ with
        | error e => exact hr₂
        | ok fl₂ =>
          cases fl₂ with
          | ret r =>
            obtain ⟨rfl, h', tk, ys, rfl, hz, hm, hk'⟩ := hr₂
            repeat (any_goals (first | assumption | wp_step))
            exact h _ _ _ hz hm hk'
          | _ => exact hr₂.elim
    | _ => exact hr.elim
end
section
variable {P : Program} {w : World} {A : Around} {E : Value → Shared → Prop} {s : Shared} {a : Addr} {xs : List Str}
/-- sorted(a set of texts): its members, none twice -/
theorem sorted_txt {Q : Value → Shared → Prop} (R : SetS w s.heap a xs) (hh : A.handled = none) (h64 : xs.length < 64)
    (hQ : ∀ s' p (out : Array Value) (c : Nat) (ys : List Str), (∀ b o, s.heap.get? b = some o → s'.heap.get? b = some o) → s'.gens = s.gens → s'.os = s.os → s.heap.objs.size ≤ p →
      s'.heap.get? p = some (seqObj "list" out c) → StrsAre out.toList ys → ys.Perm xs → Q (.ref p) s') :
    wpAny (model P w) A (call (.builtin "sorted") [.ref a]) Q E s := by
  obtain ⟨o, es, ep, t, ho, hex, hd, g, hm, nd, hb, hf, hr, hl⟩ := R
  refine Calls.call_function_entry kind_sorted plain_sorted entry_sorted (args_sorted1 _) ?_
  unfold Builtin.«sorted»
  refine wpAny_bind (m := checkCount "sorted" 1 1 _) (wpAny_pure ?_)
  refine wpAny_bind (collect_set (A := A.in1) hh ⟨o, ho, hex.1, hd⟩ hf hb hr hl fun s1 vs k1 hz g1 o1 pm => ?_)
  have hS : StrsAre vs (vs.map strOf) := strsAre_map vs fun v hv => by
    obtain ⟨e, he, q⟩ := List.mem_map.mp (pm.mem_iff.mp hv)
    obtain ⟨x, tk, h1, _⟩ := g e he
    exact ⟨x, tk, by rw [← q]; exact h1⟩
  have pk : (vs.map strOf).Perm xs := by
    have q := pm.map strOf
    rw [List.map_map] at q
    have e : es.toList.map (strOf ∘ fun x => x.2) = xs := by
      rw [← hm]
      refine List.map_congr_left fun e he => ?_
      obtain ⟨x, tk, h1, _⟩ := g e he
      show strOf e.2 = txtOf e
      unfold txtOf
      rw [h1]
      rfl
    rw [e] at q
    exact q
  have hvl : vs.length < 64 := by
    have q := pk.length_eq
    rw [List.length_map] at q
    omega
  refine wpAny_bind (wpAny_newList ?_ (by rw [sizeLine_eq]; omega))
  have hoL : (s1.heap.push (seqObj "list" vs.toArray 0)).get? s1.heap.objs.size = some (seqObj "list" vs.toArray 0) := Heap.get?_push_size _ rfl
  refine wpAny_bind (wpAny_holding (wpAny_call_entry slot_list_sort ⟨_, hoL, rfl⟩ entry_list_sort (list_sort_treeK strKind_oneLt hoL hS.keysOf (fun v₁ v₂ rest e => keyKind_strs (by rw [← e]; exact hS)) hvl fun st' hp hs => ⟨_, rfl, ?_⟩) (args_list_sort _)))
  obtain ⟨ss', q1, q2, _⟩ := sorted_out_str hS hp hs
  generalize (arrOf st').map (·.2) = out at q1 ⊢
  obtain ⟨c, hc⟩ := sortedHeap_at (vs := vs) (out := out) hoL
  refine wpAny_pure ⟨_, rfl, hQ _ s1.heap.objs.size out c ss' (fun b u e => ?_) g1 o1 hz hc q1 (q2.trans pk)⟩
  have q := k1 b u e
  have hlt := Heap.lt_size q
  show (sortedHeap (s1.heap.push (seqObj "list" vs.toArray 0)) s1.heap.objs.size vs out).get? b = some u
  rw [sortedHeap_old (Nat.ne_of_lt hlt) (by rw [size_push']; exact Nat.lt_succ_of_lt hlt)]
  exact Heap.get?_push_of_some _ q
end
/-- the set of the texts ys -/
def SetSO (w : World) (a : Addr) (ys : List Str) : HO := .ext fun h => SetS w h a ys
theorem setSO_new {P : Program} {w : World} {H : Hp} {h : Heap} {a : Addr} {ys : List Str} (R : SetS w h a ys) : ObjOk P w H h a (SetSO w a ys) := by
  obtain ⟨o, r⟩ := id R
  obtain ⟨es, ep, t, ho, _⟩ := r
  exact ⟨R, ⟨o, ho⟩, fun h1 h2 p k => p.at k⟩
section
variable {X : Cx}
def rSetTxt (K : PySem.W.Frag) (w : World) : List V → Hp → VK → Prop := fun vs H Q => ∃ (l : Addr) (ks : List Str), vs = [V.ref l] ∧ SqL K H l (ks.map V.str) ∧ ks.length < 64 ∧
  ∀ a ys, H a = none → ys.Nodup → (∀ y, y ∈ ys ↔ y ∈ ks) → Q (.ref a) (upd H a (SetSO w a ys))
theorem SetS.nodup {w : World} {h : Heap} {a : Addr} {ys : List Str} (R : SetS w h a ys) : ys.Nodup := by
  obtain ⟨_, _, _, _, _, _, _, _, _, nd, _⟩ := R
  exact nd
theorem cr_setTxt (hc : X.calm = true) : CallR X (.type "set") (rSetTxt X.K X.w) := by
  intro pins s σ H xs us Q I r h
  obtain ⟨l, ks, rfl, hl, hf, q⟩ := h
  obtain ⟨u, rfl, ru⟩ := Vals.one r
  cases ru
  obtain ⟨its, rv, pl, _⟩ := I.list hl
  refine call_set_txt (P := X.prog) (w := X.w) ks (I.ok.hd hc) pl.isList (by simpa using rv.strs) (by unfold scanBound; omega) fun h' tk ys R hm k => ?_
  exact ⟨.ref s.heap.objs.size, _, I.laid (t' := tk) k (Nat.le_refl _) (setSO_new R), rfl, q _ ys (I.hok.fresh (Nat.le_refl _)) R.nodup hm⟩
def rSortedTxt (w : World) : List V → Hp → VK → Prop := fun vs H Q => ∃ (a : Addr) (xs : List Str), vs = [V.ref a] ∧ H a = some (SetSO w a xs) ∧ xs.length < 64 ∧
  ∀ (ys : List Str) (p : Addr), ys.Perm xs → H p = none → Q (.ref p) (upd H p (.lst (ys.map V.str)))
theorem cr_sortedTxt (hc : X.calm = true) : CallR X (.builtin "sorted") (rSortedTxt X.w) := by
  intro pins s σ H vs us Q I r h
  obtain ⟨a, xs, rfl, ha, hf, q⟩ := h
  have R : SetS X.w s.heap a xs := (I.hok a _ ha).1
  obtain ⟨u, rfl, ru⟩ := Vals.one r
  cases ru
  refine sorted_txt R (I.ok.hd hc) hf fun s' p out c ys k g o hp hg hout pm => ?_
  have hlen : (ys.map V.str).length ≤ sizeLine := by rw [List.length_map, pm.length_eq, sizeLine_eq]; omega
  have hn : H p = none := I.hok.fresh hp
  have J : Inv X pins σ (upd H p (.lst (ys.map V.str))) { s with heap := s'.heap, gens := s'.gens, drawn := s'.drawn, toks := s'.toks } :=
    I.call (ch := []) (Un.laid k hp hn) (I.hok.laid k hp ⟨hlen, out.toList, c, vals_of_strs hout, hg⟩) (by rw [g]; exact I.bare) (fun _ z => nomatch z)
  have e : s' = { s with heap := s'.heap, gens := s'.gens, drawn := s'.drawn, toks := s'.toks } := by
    cases s'
    cases s
    cases o
    rfl
  rw [e]
  exact ⟨.ref p, _, J, rfl, q ys p pm hn⟩
end
end TW

set_option Elab.async false
set_option linter.all false
set_option maxRecDepth 100000
set_option maxHeartbeats 4000000
/-! Rules of my own: a dict comprehension whose keys are nested tuples. -/
namespace TW
open PySem
open PySem.Spec PyProof.Rows L2
section
variable {X : Cx}
/-- one turn's end: the pair is stored, or the turn gives nothing -/
def ndEnd (P : Program) (w : World) (D : Addr) (tk tv : TE) (Nx : Hp → Prop) (σ : L2.St) (b : Bool) (H : Hp) : Prop :=
  if b = true then tk σ H fun y H4 => tv σ H4 fun z H5 => ∃ o kvs k c, y = .ref c ∧ Nk H5 k y ∧ k.depth ≤ 8 ∧ DN P w H5 D o kvs ∧ kvs.length < sizeLine ∧
    ∀ o', DN P w (upd H5 D (nob D o')) D o' (putK kvs k z) → Nx (upd H5 D (nob D o'))
  else Nx H
/-- {k: v for target in iter if ..} -/
def tNDc (P : Program) (w : World) (wi : TI) (g : TG) (tt : TT) (tk tv : TE) (vs : List Nat) : TE := fun σ H Q => wi σ H fun J H1 => ∀ D o, H1 D = none → DN P w (upd H1 D (nob D o)) D o [] →
  ∃ W : Nat → Nat → Hp → Prop, (∃ m, W 0 m (upd H1 D (nob D o))) ∧ ∀ i m H, W i m H →
    (J.stop i H ∧ Q (.ref D) H) ∨ (J.go i H ∧ ∃ Nx : Hp → Prop, (∀ H', Nx H' → ∃ m', m' < m ∧ W (i + 1) m' H') ∧
      ∀ x H', J.yld i H x H' → g x (wipe σ vs) H' fun σ2 H2 => wipe σ2 vs = wipe σ vs ∧ tt σ2 H2 (ndEnd P w D tk tv Nx σ2))
theorem pe_ndc {kx vx tg iter : Expr} {ifs : List Expr} {scope : Scope} {own : List (Str × Nat)} {pos : Pos} {wi : TI} {g : TG} {tt : TT} {tk tv : TE} (hu : X.A.units + 64 < cLine) (hc : X.calm = true) (hN : X.N.Nodup) (hi : PI X tg iter wi) (ok : BlkOk X.N X.env.scope scope own)
    (hg : ∀ (s : Shared) (H : Hp) (C : Addr) (cl : List (Str × Addr)) (fp : List Addr), PG (X.blk s H scope (compEnvC scope cl C X.env) fp) tg g) (ht : ∀ (s : Shared) (H : Hp) (C : Addr) (cl : List (Str × Addr)) (fp : List Addr), PTs (X.blk s H scope (compEnvC scope cl C X.env) fp) ifs tt)
    (hk : ∀ (s : Shared) (H : Hp) (C : Addr) (cl : List (Str × Addr)) (fp : List Addr), PE (X.blk s H scope (compEnvC scope cl C X.env) fp) kx tk)
    (he : ∀ (s : Shared) (H : Hp) (C : Addr) (cl : List (Str × Addr)) (fp : List Addr), PE (X.blk s H scope (compEnvC scope cl C X.env) fp) vx tv) (hs : ∀ x, foldedSetIterable iter X.env x = pure x := by intro _; rfl) :
    PE X (.DictComp kx vx [⟨tg, iter, ifs, 0⟩] scope pos) (tNDc X.prog X.w wi g tt tk tv (own.map (·.2))) := by
  refine ⟨fun pins s σ H Q I h => ?_⟩
  rw [arm_eval_DictComp]
  have cells : ∀ y ∈ scope.names, y.2 = .free → ∃ c, X.env.cells.lookup y.1 = some c := fun y hy e =>
    (ok.free y hy e).elim (fun k => I.ok.has _ (.inl k)) (fun k => I.ok.has _ (.inr k))
  refine wpAny_comprehension_free (use := none) rfl hs (closure_ok cells) ok.kind (fun y hy e => by rw [ok.uniq y hy, e]) (thn (hi.run pins s σ H _ I h) fun xv s1 hx => thn hx fun itv s2 h2 => ?_)
  obtain ⟨it, fp, tn, J, H2, rfl, I2, T, st2, f2, q⟩ := h2
  refine wpAny_newObj_type (newEnv_comp ?_)
  obtain ⟨W, ⟨m0, w0⟩, turn⟩ := q _ _ (I2.hok.fresh (Nat.le_refl _)) (dn_fresh (low_new I2))
  have I3 := Inv.newD I2
  generalize hB : upd H2 s2.heap.objs.size (nob s2.heap.objs.size { cls := .type "dict", data := .dict #[] }) = HB at I3 w0
  generalize hD : s2.heap.objs.size = D at turn
  have lt2 : ∀ b ∈ fp, b < s2.heap.objs.size := fun b hb => by
    obtain ⟨o, e, _⟩ := T.obj _ _ st2 b hb
    exact Heap.lt_size e
  have nB : ∀ b ∈ fp, HB b = none := fun b hb => by
    rw [← hB, upd_ne (Nat.ne_of_lt (lt2 b hb))]
    exact (f2 b hb).1
  have st3 : tn 0 (s2.heap.push { cls := .type "dict", data := .dict #[] }) := T.keep _ _ _ st2 fun b _ o e => Heap.get?_push_of_some _ e
  generalize hs3 : ({ s2 with heap := s2.heap.push { cls := .type "dict", data := .dict #[] } } : Shared) = s3 at I3
  have st3' : tn 0 s3.heap := by rw [← hs3]; exact st3
  have f3 : ∀ b ∈ fp, FpOk X pins HB b ∧ b < s3.heap.objs.size := fun b hb => by
    refine ⟨⟨nB b hb, (f2 b hb).2⟩, ?_⟩
    rw [← hs3]
    show b < (s2.heap.push _).objs.size
    rw [Heap.size_push]
    exact Nat.lt_succ_of_lt (lt2 b hb)
  have I4 := block_start I3 ok hN f3
  have pg := hg s3 HB s3.heap.objs.size (cellsFrom (s3.heap.objs.size + 1) scope.names (cloFrom X.env.cells scope.names [])) fp
  have pt := ht s3 HB s3.heap.objs.size (cellsFrom (s3.heap.objs.size + 1) scope.names (cloFrom X.env.cells scope.names [])) fp
  have pk := hk s3 HB s3.heap.objs.size (cellsFrom (s3.heap.objs.size + 1) scope.names (cloFrom X.env.cells scope.names [])) fp
  have pe := he s3 HB s3.heap.objs.size (cellsFrom (s3.heap.objs.size + 1) scope.names (cloFrom X.env.cells scope.names [])) fp
  have goal : codeAny (model X.prog X.w) X.A (.compStart (.DictComp kx vx [⟨tg, iter, ifs, 0⟩] scope pos) 0 (.ref it) (.ref D) (compEnvC scope (cellsFrom (s3.heap.objs.size + 1) scope.names (cloFrom X.env.cells scope.names [])) s3.heap.objs.size X.env))
      (compPost (model X.prog X.w) X.A X.xe none (EP X pins σ Q) (.ref D) s3.heap.objs.size) { s3 with heap := pushCells (s3.heap.push { cls := .type "dict", data := .dict #[] }) scope.names } := by
    generalize hce : compEnvC scope (cellsFrom (s3.heap.objs.size + 1) scope.names (cloFrom X.env.cells scope.names [])) s3.heap.objs.size X.env = ce at I4 pg pt pk pe ⊢
    have cL : ce.locals = s3.heap.objs.size := by subst hce; rfl
    generalize hs4 : ({ s3 with heap := pushCells (s3.heap.push { cls := .type "dict", data := .dict #[] }) scope.names } : Shared) = s4 at I4 ⊢
    have st4 : tn 0 s4.heap := T.keep _ _ _ st3' fun b _ o e => by rw [← hs4]; exact pushCells_keeps _ _ _ _ (Heap.get?_push_of_some _ e)
    have own_fp : ∀ {σ' : L2.St} {H' : Hp} {s' : Shared}, Inv (X.blk s3 HB scope ce fp) [] σ' H' s' → (∀ b ∈ fp, H' b = none) → ∀ b ∈ fp, FpOk (X.blk s3 HB scope ce fp) [] H' b := fun {σ' H' s'} I' hn b hb =>
      ⟨hn b hb, (I'.ok.exf b hb).1, I'.ok.exfs b hb, .inl hb, fun x c e => (I'.ok.exf b hb).2 x c e, fun p hp => absurd (show p ∈ ([] : List (Addr × Obj)) ++ [] from hp) (by simp)⟩
    have loop : codeAny (model X.prog X.w) X.A (.compLoop (.DictComp kx vx [⟨tg, iter, ifs, 0⟩] scope pos) 0 (.ref it) (.ref D) ce) (compPost (model X.prog X.w) X.A X.xe none (EP X pins σ Q) (.ref D) s3.heap.objs.size) s4 := by
      refine compLoop_anyD (fun n s' => ∃ i H', Inv (X.blk s3 HB scope ce fp) [] (wipe σ (own.map (·.2))) H' s' ∧ tn i s'.heap ∧ (∀ b ∈ fp, H' b = none) ∧ W i n H') ?_ m0 ⟨0, HB, I4, st4, nB, w0⟩
      rintro n s5 ⟨i, H5, I5, st5, n5, w5⟩
      rcases turn i n H5 w5 with ⟨stop, qq⟩ | ⟨go, Nx, hNx, step⟩
      · refine thnF (T.done (X.blk s3 HB scope ce fp) rfl rfl rfl hc i [] s5 _ H5 (fun _ _ => False) I5 (own_fp I5 n5) st5 stop) fun r s6 ⟨hr, I6⟩ => ?_
        subst hr
        have I7 : Inv X pins σ H5 s6 := I3.call' (ch := fp) I6.os I6.base I6.hok I6.bare fun b hb => ⟨(f3 b hb).1.2.2.2.1, (f3 b hb).1.2.1, (f3 b hb).1.2.2.2.2.1, (f3 b hb).1.2.2.2.2.2⟩
        have nC : H5 s3.heap.objs.size = none := by
          have z : H5 ce.locals = none := I6.free
          rw [cL] at z
          exact z
        obtain ⟨m, hn, _⟩ := I6.loc
        have hn : s6.heap.Ns ce.locals m := hn
        rw [cL] at hn
        obtain ⟨f0, f1, f2', f3', f4, f5⟩ := I3.fpOk (Nat.le_refl _) nC
        exact ⟨m, hn, fun h'' sb => ⟨.ref D, H5, I7.turned (t' := s6.toks) (fun b o hb e => (sb.2 b hb).trans e) f0 f1 f3' f4 f5, rfl, qq⟩⟩
      · refine thnF (T.item (X.blk s3 HB scope ce fp) rfl rfl rfl hc i [] s5 _ H5 (fun _ _ => False) I5 (own_fp I5 n5) st5 go) fun r s6 ⟨u, hr, h6⟩ => ?_
        subst hr
        refine thnF h6 fun _ s7 ⟨x, H7, I7, r7, y7, st7, n7⟩ => ?_
        have I7' := I7.pinned (own_fp I7 n7) (T.obj _ _ st7)
        refine thnF (pg.run _ s7 _ H7 x u _ I7' r7 (step x H7 y7)) fun _ s8 ⟨σ8, H8, I8, hw8, q8⟩ => ?_
        refine thnF (pt.run _ s8 σ8 H8 _ I8 q8) fun b s9 ⟨H9, I9, q9⟩ => ?_
        have fin : ∀ {s' : Shared} {H' : Hp}, Inv (X.blk s3 HB scope ce fp) ([] ++ pinsAt fp s7.heap) σ8 H' s' → Nx H' → ∃ m, m < n ∧ ∃ i H', Inv (X.blk s3 HB scope ce fp) [] (wipe σ (own.map (·.2))) H' s' ∧ tn i s'.heap ∧ (∀ b ∈ fp, H' b = none) ∧ W i m H' := fun {s' H'} I' nx => by
          obtain ⟨m', hm, w'⟩ := hNx H' nx
          have pin' : ∀ b ∈ fp, ∀ o, s7.heap.get? b = some o → s'.heap.get? b = some o ∧ H' b = none := fun b hb o e =>
            let z := I'.pin (b, o) (List.mem_append_right _ (List.mem_append_right _ (mem_pinsAt hb e)))
            ⟨z.1, z.2.1⟩
          have hl : (wipe σ (own.map (·.2))).length = σ8.length := by rw [← hw8, wipe_length]
          refine ⟨m', hm, i + 1, H', (I'.unpinned (pins := [])).weak hl (fun j v e => ?_), T.keep _ _ _ st7 fun b hb o e => (pin' b hb o e).1, fun b hb => ?_, w'⟩
          · rw [← hw8] at e
            exact (wipe_some e).1
          · obtain ⟨o, e, _⟩ := T.obj _ _ st7 b hb
            exact (pin' b hb o e).2
        unfold ndEnd at q9
        cases b with
        | false =>
          simp only [Bool.false_eq_true, if_false] at q9 ⊢
          exact fin I9 q9
        | true =>
          simp only [if_true] at q9 ⊢
          refine thnF (pk.run _ s9 σ8 H9 _ I9 q9) fun z s10 ⟨yk, H10, I10, r10, q10⟩ => ?_
          refine thnF (pe.run _ s10 σ8 H10 _ I10 q10) fun z2 s11 ⟨yv, H11, I11, r11, o11, kvs, k, c, ek, hkk, hdp, D11, hz11, nx⟩ => ?_
          subst ek
          cases r10
          exact dn_dset (X := X.blk s3 HB scope ce fp) hu I11 D11 hkk hdp r11 hz11 fun o' s12 I12 D12 => fin I12 (nx o' D12)
    exact codeAny_compStart_dict loop (T.self X.A 0 _ _ _ st4 loop)
  exact goal
end
end TW

set_option Elab.async false
set_option linter.all false
set_option maxRecDepth 100000
set_option maxHeartbeats 4000000
/-! The text by places: each def with its names by slot (the rows below are printed by gen_text.py). -/
namespace TW
open PySem
open PySem.Spec PyProof.Rows L2
def topS (i : Nat) : Stmt := PySem.Challenge.pw_thirdletters_k32_whole_distances.main.body.getD i (.Pass ⟨0, 0, 0, 0⟩)
abbrev sNeedWord : Stmt := topS 8
abbrev nNeedWord : List Str := ["value", "place", "sign"]
theorem scNeedWord : FnScope nNeedWord ["value"] (defScope sNeedWord) := ⟨rfl, rfl, rfl, by decide +kernel, rfl, by decide +kernel, by decide +kernel⟩
-- slots: 0 value, 1 place, 2 sign
abbrev sNeedShort : Stmt := topS 9
abbrev nNeedShort : List Str := ["words", "most", "word"]
theorem scNeedShort : FnScope nNeedShort ["words", "most"] (defScope sNeedShort) := ⟨rfl, rfl, rfl, by decide +kernel, rfl, by decide +kernel, by decide +kernel⟩
-- slots: 0 words, 1 most, 2 word
abbrev sNeedLimited : Stmt := topS 10
abbrev nNeedLimited : List Str := ["word", "most"]
theorem scNeedLimited : FnScope nNeedLimited ["word", "most"] (defScope sNeedLimited) := ⟨rfl, rfl, rfl, by decide +kernel, rfl, by decide +kernel, by decide +kernel⟩
-- slots: 0 word, 1 most
abbrev sNeedEnds : Stmt := topS 11
abbrev nNeedEnds : List Str := ["one", "other"]
theorem scNeedEnds : FnScope nNeedEnds ["one", "other"] (defScope sNeedEnds) := ⟨rfl, rfl, rfl, by decide +kernel, rfl, by decide +kernel, by decide +kernel⟩
-- slots: 0 one, 1 other
abbrev sStepsOf : Stmt := topS 12
abbrev nStepsOf : List Str := ["word", "one", "other"]
theorem scStepsOf : FnScope nStepsOf ["word"] (defScope sStepsOf) := ⟨rfl, rfl, rfl, by decide +kernel, rfl, by decide +kernel, by decide +kernel⟩
-- slots: 0 word, 1 one, 2 other
abbrev sWordOf : Stmt := topS 13
abbrev nWordOf : List Str := ["first", "steps", "at", "found", "step"]
theorem scWordOf : FnScope nWordOf ["first", "steps"] (defScope sWordOf) := ⟨rfl, rfl, rfl, by decide +kernel, rfl, by decide +kernel, by decide +kernel⟩
-- slots: 0 first, 1 steps, 2 at, 3 found, 4 step
abbrev sNeedPair : Stmt := topS 16
abbrev nNeedPair : List Str := ["one", "other"]
theorem scNeedPair : FnScope nNeedPair ["one", "other"] (defScope sNeedPair) := ⟨rfl, rfl, rfl, by decide +kernel, rfl, by decide +kernel, by decide +kernel⟩
-- slots: 0 one, 1 other
abbrev sMovesOn : Stmt := topS 17
abbrev nMovesOn : List Str := ["due", "sums", "state", "step", "last", "whole", "made", "kind", "found", "fits"]
theorem scMovesOn : FnScope nMovesOn ["due", "sums", "state", "step", "last", "whole"] (defScope sMovesOn) := ⟨rfl, rfl, rfl, by decide +kernel, rfl, by decide +kernel, by decide +kernel⟩
-- slots: 0 due, 1 sums, 2 state, 3 step, 4 last, 5 whole, 6 made, 7 kind, 8 found, 9 fits
abbrev sSumsOf : Stmt := topS 18
abbrev nSumsOf : List Str := ["due", "found", "step"]
theorem scSumsOf : FnScope nSumsOf ["due"] (defScope sSumsOf) := ⟨rfl, rfl, rfl, by decide +kernel, rfl, by decide +kernel, by decide +kernel⟩
-- slots: 0 due, 1 found, 2 step
abbrev sLeastSteps : Stmt := topS 19
abbrev nLeastSteps : List Str := ["one", "other", "first", "second", "start", "goal", "seen", "rim", "later", "place", "left", "right", "last", "whole", "step", "more", "here", "there", "key"]
theorem scLeastSteps : FnScope nLeastSteps ["one", "other"] (defScope sLeastSteps) := ⟨rfl, rfl, rfl, by decide +kernel, rfl, by decide +kernel, by decide +kernel⟩
-- slots: 0 one, 1 other, 2 first, 3 second, 4 start, 5 goal, 6 seen, 7 rim, 8 later, 9 place, 10 left, 11 right, 12 last, 13 whole, 14 step, 15 more, 16 here, 17 there, 18 key
abbrev sBackFrom : Stmt := topS 20
abbrev nBackFrom : List Str := ["seen", "key", "found", "step"]
theorem scBackFrom : FnScope nBackFrom ["seen", "key"] (defScope sBackFrom) := ⟨rfl, rfl, rfl, by decide +kernel, rfl, by decide +kernel, by decide +kernel⟩
-- slots: 0 seen, 1 key, 2 found, 3 step
abbrev sCommonOf : Stmt := topS 21
abbrev nCommonOf : List Str := ["one", "other"]
theorem scCommonOf : FnScope nCommonOf ["one", "other"] (defScope sCommonOf) := ⟨rfl, rfl, rfl, by decide +kernel, rfl, by decide +kernel, by decide +kernel⟩
-- slots: 0 one, 1 other
abbrev sDistanceOf : Stmt := topS 22
abbrev nDistanceOf : List Str := ["one", "other"]
theorem scDistanceOf : FnScope nDistanceOf ["one", "other"] (defScope sDistanceOf) := ⟨rfl, rfl, rfl, by decide +kernel, rfl, by decide +kernel, by decide +kernel⟩
-- slots: 0 one, 1 other
abbrev sDistance : Stmt := topS 23
abbrev nDistance : List Str := ["one", "other"]
theorem scDistance : FnScope nDistance ["one", "other"] (defScope sDistance) := ⟨rfl, rfl, rfl, by decide +kernel, rfl, by decide +kernel, by decide +kernel⟩
-- slots: 0 one, 1 other
abbrev sLeastCommon : Stmt := topS 24
abbrev nLeastCommon : List Str := ["one", "other"]
theorem scLeastCommon : FnScope nLeastCommon ["one", "other"] (defScope sLeastCommon) := ⟨rfl, rfl, rfl, by decide +kernel, rfl, by decide +kernel, by decide +kernel⟩
-- slots: 0 one, 1 other
abbrev sTops : Stmt := topS 25
abbrev nTops : List Str := ["one", "other", "many"]
theorem scTops : FnScope nTops ["one", "other"] (defScope sTops) := ⟨rfl, rfl, rfl, by decide +kernel, rfl, by decide +kernel, by decide +kernel⟩
-- slots: 0 one, 1 other, 2 many
abbrev sTopsOf : Stmt := topS 26
abbrev nTopsOf : List Str := ["one", "other", "many", "due", "more", "first", "second", "rows", "turn", "later", "told", "last", "whole", "places", "step", "now", "total", "left", "right", "here", "there", "goal"]
theorem scTopsOf : FnScope nTopsOf ["one", "other", "many"] (defScope sTopsOf) := ⟨rfl, rfl, rfl, by decide +kernel, rfl, by decide +kernel, by decide +kernel⟩
-- slots: 0 one, 1 other, 2 many, 3 due, 4 more, 5 first, 6 second, 7 rows, 8 turn, 9 later, 10 told, 11 last, 12 whole, 13 places, 14 step, 15 now, 16 total, 17 left, 18 right, 19 here, 20 there, 21 goal
abbrev sLawTaken : Stmt := topS 28
abbrev nLawTaken : List Str := ["_law_row", "_law_many", "_law_found", "_law_cell"]
theorem scLawTaken : FnScope nLawTaken ["_law_row", "_law_many"] (defScope sLawTaken) := ⟨rfl, rfl, rfl, by decide +kernel, rfl, by decide +kernel, by decide +kernel⟩
-- slots: 0 _law_row, 1 _law_many, 2 _law_found, 3 _law_cell
abbrev sLawPick : Stmt := topS 29
abbrev nLawPick : List Str := ["_law_row", "_law_things"]
theorem scLawPick : FnScope nLawPick ["_law_row", "_law_things"] (defScope sLawPick) := ⟨rfl, rfl, rfl, by decide +kernel, rfl, by decide +kernel, by decide +kernel⟩
-- slots: 0 _law_row, 1 _law_things
abbrev sLawAlike : Stmt := topS 30
abbrev nLawAlike : List Str := ["_law_found", "_law_due", "_law_k"]
theorem scLawAlike : FnScope nLawAlike ["_law_found", "_law_due"] (defScope sLawAlike) := ⟨rfl, rfl, rfl, by decide +kernel, rfl, by decide +kernel, by decide +kernel⟩
-- slots: 0 _law_found, 1 _law_due, 2 _law_k
abbrev sLawWord : Stmt := topS 31
abbrev nLawWord : List Str := ["_law_first", "_law_line", "_law_at", "_law_found", "_law_step"]
theorem scLawWord : FnScope nLawWord ["_law_first", "_law_line"] (defScope sLawWord) := ⟨rfl, rfl, rfl, by decide +kernel, rfl, by decide +kernel, by decide +kernel⟩
-- slots: 0 _law_first, 1 _law_line, 2 _law_at, 3 _law_found, 4 _law_step
abbrev sLawAny : Stmt := topS 32
abbrev nLawAny : List Str := ["_law_row", "_law_most", "_law_many", "_law_turn"]
theorem scLawAny : FnScope nLawAny ["_law_row", "_law_most"] (defScope sLawAny) := ⟨rfl, rfl, rfl, by decide +kernel, rfl, by decide +kernel, by decide +kernel⟩
-- slots: 0 _law_row, 1 _law_most, 2 _law_many, 3 _law_turn
abbrev sLawPut : Stmt := topS 33
abbrev nLawPut : List Str := ["_law_word_here", "_law_place", "_law_third", "_law_sign"]
theorem scLawPut : FnScope nLawPut ["_law_word_here", "_law_place"] (defScope sLawPut) := ⟨rfl, rfl, rfl, by decide +kernel, rfl, by decide +kernel, by decide +kernel⟩
-- slots: 0 _law_word_here, 1 _law_place, 2 _law_third, 3 _law_sign
abbrev sLawOpen : Stmt := topS 34
abbrev nLawOpen : List Str := ["_law_word_here", "_law_at"]
theorem scLawOpen : FnScope nLawOpen ["_law_word_here"] (defScope sLawOpen) := ⟨rfl, rfl, rfl, by decide +kernel, rfl, by decide +kernel, by decide +kernel⟩
-- slots: 0 _law_word_here, 1 _law_at
abbrev sLawWithout : Stmt := topS 35
abbrev nLawWithout : List Str := ["_law_word_here", "_law_place"]
theorem scLawWithout : FnScope nLawWithout ["_law_word_here", "_law_place"] (defScope sLawWithout) := ⟨rfl, rfl, rfl, by decide +kernel, rfl, by decide +kernel, by decide +kernel⟩
-- slots: 0 _law_word_here, 1 _law_place
abbrev sLawDowns : Stmt := topS 36
abbrev nLawDowns : List Str := ["_law_word_here", "_law_place"]
theorem scLawDowns : FnScope nLawDowns ["_law_word_here"] (defScope sLawDowns) := ⟨rfl, rfl, rfl, by decide +kernel, rfl, by decide +kernel, by decide +kernel⟩
-- slots: 0 _law_word_here, 1 _law_place
abbrev sLawUps : Stmt := topS 37
abbrev nLawUps : List Str := ["_law_word_here", "_law_place"]
theorem scLawUps : FnScope nLawUps ["_law_word_here"] (defScope sLawUps) := ⟨rfl, rfl, rfl, by decide +kernel, rfl, by decide +kernel, by decide +kernel⟩
-- slots: 0 _law_word_here, 1 _law_place
abbrev sLawBelow : Stmt := topS 38
abbrev nLawBelow : List Str := ["_law_word_here", "_law_found", "_law_rim", "_law_here", "_law_there"]
theorem scLawBelow : FnScope nLawBelow ["_law_word_here"] (defScope sLawBelow) := ⟨rfl, rfl, rfl, by decide +kernel, rfl, by decide +kernel, by decide +kernel⟩
-- slots: 0 _law_word_here, 1 _law_found, 2 _law_rim, 3 _law_here, 4 _law_there
abbrev sLawWords : Stmt := topS 39
abbrev nLawWords : List Str := ["_law_first", "_law_last", "_law_size", "_law_found", "_law_turn", "_law_longer", "_law_word_here", "_law_sign"]
theorem scLawWords : FnScope nLawWords ["_law_first", "_law_last", "_law_size"] (defScope sLawWords) := ⟨rfl, rfl, rfl, by decide +kernel, rfl, by decide +kernel, by decide +kernel⟩
-- slots: 0 _law_first, 1 _law_last, 2 _law_size, 3 _law_found, 4 _law_turn, 5 _law_longer, 6 _law_word_here, 7 _law_sign
abbrev sLaw : Stmt := topS 40
abbrev nLaw : List Str := ["_law_script", "_law_row", "_law_one", "_law_some", "_law_other", "_law_seen", "_law_rim", "_law_size", "_law_later", "_law_here", "_law_there", "_law_many", "_law_rims", "_law_turn", "_law_ends", "_law_word_here", "_law_found"]
theorem scLaw : FnScope nLaw ["_law_script"] (defScope sLaw) := ⟨rfl, rfl, rfl, by decide +kernel, rfl, by decide +kernel, by decide +kernel⟩
-- slots: 0 _law_script, 1 _law_row, 2 _law_one, 3 _law_some, 4 _law_other, 5 _law_seen, 6 _law_rim, 7 _law_size, 8 _law_later, 9 _law_here, 10 _law_there, 11 _law_many, 12 _law_rims, 13 _law_turn, 14 _law_ends, 15 _law_word_here, 16 _law_found
end TW

set_option Elab.async false
set_option linter.all false
set_option maxRecDepth 100000
set_option maxHeartbeats 4000000
/-! The walk, first part: the looks at words, steps, words from steps. -/
namespace TW
open PySem
open PySem.Spec PyProof.Rows L2 Evl Tlm

/-- what the module's top holds -/
structure Txt (mg : Str → Option Value) : Prop where
  isinstance : mg "isinstance" = none
  str : mg "str" = none
  len : mg "len" = none
  enumerate : mg "enumerate" = none
  max : mg "max" = none
  zip : mg "zip" = none
  range : mg "range" = none
  int : mg "int" = none
  bool : mg "bool" = none
  tuple : mg "tuple" = none
  list : mg "list" = none
  set : mg "set" = none
  sorted : mg "sorted" = none
  letters : ∃ t, mg "LETTERS" = some (.str "abc" t)
  mostW : ∃ t, mg "MOST_LETTERS_words" = some (.int 200 t)
  mostD : ∃ t, mg "MOST_LETTERS_distances" = some (.int 40 t)
/-- a def of the text, where it stands -/
structure Dfn (K : PySem.W.Frag) (mg : Str → Option Value) (nm : Str) (st : Stmt) (ps : List Str) (f : Addr) (fd : FuncData) : Prop where
  F : Fun K nm nm st f fd
  m : mg nm = some (.ref f)
  b : Binds K fd ps []
/-- a call of such a def -/
theorem pe_fn {X : Cx} {k : Nat} {f : Addr} {fd : FuncData} {nm : Str} {st : Stmt} {ps : List Str} {sp : Sp} {e : Expr} {es : List Expr} {t : TA} {p pos : Pos} (D : Dfn X.K X.mg nm st ps f fd) (G : FnOk X.prog X.w X.K X.mg X.base CX0 k f fd ps sp) (hr : Room k X.A)
    (ha : PA X (e :: es) t) (hg : Gl X nm := by rfl) (hdb : (nm == ("__debug__" : Str)) = false := by decide) (he : starEach (e :: es) X.env = (false, eval e X.env) :: starEach es X.env := by rfl) (hpl : (backTo pos (starEach es X.env)).any (·.1) = false := by rfl) :
    PE X (.Call (.Name nm p) (e :: es) [] pos) (tCall sp [] E0 t) := pe_call G hr hg D.m D.F.kp D.b .nil pass0 ha hdb he hpl
theorem ifF {b : Bool} {A B : Prop} (h : b = false) (k : B) : if b = true then A else B := by
  rw [h]
  exact iteF k
theorem ifT {b : Bool} {A B : Prop} (h : b = true) (k : A) : if b = true then A else B := by
  rw [h]
  exact iteT k
theorem atIx {α : Type} {xs : List α} {z : Int} {j : Nat} {v : α} (e : z = (j : Int)) (h : xs[j]? = some v) : atI xs z = some v := by
  rw [e]
  exact atI_nat h
/-- a pair as a target -/
theorem g_pair {K : PySem.W.Frag} {i j : Nat} {T : Addr} {x y : V} {σ : L2.St} {H : Hp} {Q : L2.St → Hp → Prop} (h : SqT K H T [x, y]) (q : Q ((σ.set i (some x)).set j (some y)) H) :
    gTup K 2 (gCons (gName i) (gCons (gName j) gNil)) (.ref T) σ H Q := ⟨T, [x, y], rfl, h, rfl, x, [y], rfl, y, [], rfl, rfl, q⟩
theorem size_small {n : Nat} (h : n ≤ 1000000) : n ≤ sizeLine := Nat.le_trans h (by decide)
theorem size_less {n : Nat} (h : n < 1000000) : n < sizeLine := Nat.lt_of_lt_of_le h (by decide)
section
variable {X : Cx} {pos : Pos}
theorem pe_letters (T : Txt X.mg) (hg : Gl X "LETTERS" := by rfl) : PE X (.Name "LETTERS" pos) (tC (.str "abc")) := by
  obtain ⟨t, h⟩ := T.letters
  exact pe_glob (v := .str "abc") hg h ⟨t, rfl⟩
theorem pe_mostW (T : Txt X.mg) (hg : Gl X "MOST_LETTERS_words" := by rfl) : PE X (.Name "MOST_LETTERS_words" pos) (tC (.int 200)) := by
  obtain ⟨t, h⟩ := T.mostW
  exact pe_glob (v := .int 200) hg h ⟨t, rfl⟩
theorem pe_mostD (T : Txt X.mg) (hg : Gl X "MOST_LETTERS_distances" := by rfl) : PE X (.Name "MOST_LETTERS_distances" pos) (tC (.int 40)) := by
  obtain ⟨t, h⟩ := T.mostD
  exact pe_glob (v := .int 40) hg h ⟨t, rfl⟩
end
section
variable {P : Program} {w : World} {K : PySem.W.Frag} {mg : Str → Option Value} {base : Heap}

/-- a look that finds nothing: it hands back None -/
def spNeedWord : Sp := fun vs H Q _ => ∃ a s, vs = [.str (wd a s)] ∧ a < 3 ∧ 1 ≤ s.length ∧ s.length ≤ 199 ∧ RetV .non H Q
theorem abc_cps : ("abc" : Str).cps.toList = [97, 98, 99] := by decide
theorem ok_need_word {f : Addr} {fd : FuncData} (D : Dfn K mg "need_word" sNeedWord ["value"] f fd) (T : Txt mg) : FnOk P w K mg base CX0 1 f fd ["value"] spNeedWord := by
  refine D.F.ok scNeedWord (fun vs H Q E h => ?_) (fun cdv A outer s0 H vs Q E hr h => ?_)
  · obtain ⟨a, s, rfl, _⟩ := h
    rfl
  · obtain ⟨a, s, rfl, ha, hs1, hs2, q⟩ := h
    refine ⟨_, pss_cons (ps_if (PW.pt (pw_or (pt_not (pt_val (pe_callB call_isi (by rfl) T.isinstance (by decide +kernel) (pa_cons (pv 0) (pa_cons (pe_bltn (v := .ty "str") (by rfl) T.str (by decide +kernel) rfl) pa_nil)))))
        (pw_or1 (pt_not (pt_chain op_le op_le pe_int (pe_callB call_len_str (by rfl) T.len (by decide +kernel) (pa_cons (pv 0) pa_nil)) (pe_mostW T)))))) pss_never pss_nil)
      (pss_one (ps_for PassesOwn.never rfl (pi_enumS (by rfl) T.enumerate (pa_cons (pv 0) pa_nil)) (pg_tup rfl (pgs_cons (pg_name (i := 1) scNeedWord.nd rfl (.inl rfl)) (pgs_cons (pg_name (i := 2) scNeedWord.nd rfl (.inl rfl)) pgs_nil)))
        (pss_one (ps_if (PW.pt (pw_or (pt_cmpR op_notIn_sign (pv 2) (pe_letters T) rfl) (pw_or1 (PW.pt (pw_and (pt_cmpR op_gt (pv 1) pe_int (nomark _)) (pw_and1 (pt_cmpR op_eq (pv 2) (pe_ix ix_str (pv 0) (pe_op op_sub (pv 1) pe_int) (fun _ _ => rfl)) (nomark _))))))))
          pss_never pss_nil)))), ?_⟩
    have hlen : (wd a s).length = s.length + 1 := wd_len a s
    refine ⟨.str (wd a s), rfl, .str (wd a s), .ty "str", .type "str", _, true, rfl, .ty _, .base (.str _), kit_ty (by decide +kernel), true, rfl, ?_⟩
    refine iteF ⟨.str (wd a s), rfl, wd a s, rfl, by rw [hlen]; exact size_small (by omega), ?_⟩
    refine ⟨_, _, rfl, rfl, true, by rw [hlen]; exact congrArg V.bl (decide_eq_true (by omega)), ?_⟩
    refine iteT ⟨_, _, rfl, rfl, true, by rw [hlen]; exact congrArg V.bl (decide_eq_true (by omega)), ?_⟩
    refine iteF ⟨.str (wd a s), rfl, wd a s, rfl, ?_⟩
    refine for_it walk_pairs (fun i σ H' => ∃ y1 y2, σ = [some (.str (wd a s)), y1, y2] ∧ Ex H H') ⟨none, none, rfl, Ex.refl H⟩ (fun _ _ _ _ _ => True.intro) ?_ (fun σ H' hw => ?_)
    · rintro i v σ H1 H2 hi ⟨y1, y2, rfl, e1⟩ ⟨T, x, y, rfl, hT, rfl, c, hc, rfl, rfl⟩
      have e2 : Ex H (upd H1 T (.tup [.int (i : Nat), .str ⟨#[c]⟩])) := e1.trans (Ex.new hT)
      refine g_pair (st_of upd_same) ?_
      obtain ⟨x, hx, rfl⟩ := wd_get hc
      have hx3 : x < 3 := lets_lt ha s x (List.mem_of_getElem? hx)
      refine ⟨.str ⟨#[97 + x]⟩, rfl, 97 + x, "abc", rfl, rfl, _, rfl, ifF ?_ ?_⟩
      · rcases three hx3 with rfl | rfl | rfl <;> decide
      · refine ⟨.int (i : Nat), rfl, _, _, rfl, rfl, _, rfl, ?_⟩
        by_cases h0 : i = 0
        · subst h0
          exact ifF (by decide) (iteF ⟨_, _, rfl, e2⟩)
        · refine ifT (decide_eq_true (by omega)) ?_
          obtain ⟨y, hy⟩ : ∃ y, (lets a s)[i - 1]? = some y := by
            have : i - 1 < (lets a s).length := by rw [lets_len]; rw [wd_size] at hi; omega
            exact ⟨_, List.getElem?_eq_getElem this⟩
          have hne : y ≠ x := lets_apart ha s hy (by rw [show i - 1 + 1 = i by omega]; exact hx)
          refine ⟨.str ⟨#[97 + x]⟩, rfl, .str (wd a s), rfl, .int (i : Nat), rfl, _, _, rfl, rfl, wd a s, (i : Int) - 1, 97 + y, rfl, rfl, by rw [hlen]; exact size_small (by omega), ?_, rfl, _, rfl, ifF ?_ ⟨_, _, rfl, e2⟩⟩
          · refine atIx (j := i - 1) (by omega) ?_
            rw [wd, tx_cps]
            unfold cs
            rw [List.getElem?_map, hy]
            rfl
          · refine decide_eq_false fun z => hne ?_
            injection z with z
            exact (sg_inj (x := x) (y := y) z).symm
    · obtain ⟨y1, y2, rfl, e1⟩ := hw
      exact q H' e1

/-- a comprehension over a tuple -/
theorem el_lcT {K : PySem.W.Frag} {σ : L2.St} {H : Hp} {te : TE} {t : TT} {a : Addr} {xs : List V} {tl : TE} {j : Nat} {vs : List Nat} (f : Nat → Bool) (v : Nat → V) (h : Ev tl σ H (.ref a)) (hx : SqT K H a xs) (hz : xs.length ≤ 40000) (hw : ∀ x, wipe ((wipe σ vs).set j (some x)) vs = wipe σ vs)
    (ht : ∀ (i : Nat) (x : V) H1, Ex H H1 → xs[i]? = some x → EvT t ((wipe σ vs).set j (some x)) H1 (f i)) (he : ∀ (i : Nat) (x : V) H1, Ex H H1 → xs[i]? = some x → f i = true → Ev te ((wipe σ vs).set j (some x)) H1 (v i)) :
    EvL (tLc (iTup K tl) (gName j) t te vs) σ H (given xs.length f v) := fun H0 e Q q => h H0 e _ fun H1 e1 => ⟨a, rfl, ⟨xs, ex_t (e.trans e1) hx⟩, fun Dl hD =>
  lc_it walk_tup (Cw H1 f v Dl) ⟨hD, Ex.new hD, upd_same⟩ (fun i H' _ p => ex_t ((e.trans e1).trans p.2.1) hx) (fun i x H' H'' hi p y => by
    obtain ⟨rfl, hy⟩ := y
    exact ⟨hw x, cw_turn p (by omega) (ht i x H1 (e.trans e1) hy) (fun hf => he i x H1 (e.trans e1) hy hf)⟩) (fun H' p => q Dl H' (fresh_back e1 p.1) (e1.trans p.2.1) p.2.2)⟩
theorem given_all (n : Nat) (v : Nat → V) : given n (fun _ => true) v = (List.range n).map v := by
  unfold given
  rw [List.filter_eq_self.mpr (fun _ _ => rfl)]
theorem ev_maxN {K : PySem.W.Frag} {σ : L2.St} {H : Hp} {ta : TE} {ns : List Int} {m : Int} (ha : EvL ta σ H (ns.map V.int)) (hm : m ∈ ns) (hle : ∀ y ∈ ns, y ≤ m) : Ev (tCB (rMax K) (tCons ta tNil)) σ H (.int m) := fun H1 e Q q =>
  ha H1 e _ fun p H2 _ e2 h2 => ⟨p, ns, rfl, sq_of h2, List.length_pos_of_mem hm, fun m' hm' hle' => by
    have : m' = m := Int.le_antisymm (hle m' hm') (hle' m hm)
    rw [this]
    exact q H2 e2⟩
/-- the tuple of one text, not too long -/
def spNeedShort (K : PySem.W.Frag) : Sp := fun vs H Q _ => ∃ t z n, vs = [.ref t, .int n] ∧ SqT K H t [.str z] ∧ z.length ≤ 1000000 ∧ (z.length : Int) ≤ n ∧ RetV .non H Q
theorem ok_need_short {f : Addr} {fd : FuncData} (D : Dfn K mg "need_short" sNeedShort ["words", "most"] f fd) (T : Txt mg) : FnOk P w K mg base CX0 1 f fd ["words", "most"] (spNeedShort K) := by
  refine D.F.ok scNeedShort (fun vs H Q E h => ?_) (fun cdv A outer s0 H vs Q E hr h => ?_)
  · obtain ⟨t, z, n, rfl, _⟩ := h
    rfl
  · obtain ⟨t, z, n, rfl, ht, hz, hn, q⟩ := h
    refine ⟨_, pss_one (ps_if (pt_cmpR op_gt (pe_callB (cr_max rfl) (by rfl) T.max (by decide +kernel) (pa_cons (pe_lc (own := [("word", 2)]) (g := gName 2) rfl scNeedShort.nd (pi_tup (pv 0))
        (blkOk_by (own := [("word", 2)]) (N := nNeedShort) (sc := defScope sNeedShort) (by decide +kernel)) (fun _ _ _ _ _ => pg_name (i := 2) scNeedShort.nd rfl (.inl rfl)) (fun _ _ _ _ _ => pts_nil)
        (fun _ _ _ _ _ => pe_callB call_len_str (by rfl) T.len (by decide +kernel) (pa_cons (pv 2) pa_nil))) pa_nil)) (pv 1) (nomark _)) pss_never pss_nil), ?_⟩
    have hl : EvL (tLc (iTup K (tVar 0)) (gName 2) tYes (tCB (fun xs H Q => ∃ z, xs = [.str z] ∧ z.length ≤ sizeLine ∧ Q (.int z.length) H) (tCons (tVar 2) tNil)) [2]) (start nNeedShort [.ref t, .int n]) H ([(z.length : Int)].map V.int) := by
      refine el_lcT (K := K) (xs := [.str z]) (fun _ => true) (fun _ => .int z.length) (ev_var rfl) ht (by show 1 ≤ 40000; decide) (fun x => rfl) (fun i x H1 e hx => ?_) (fun i x H1 e hx _ => ?_)
      · exact fun H2 e2 Q' q' => q' H2 (Ex.refl H2)
      · have : x = .str z := by
          cases i with
          | zero => simpa using hx.symm
          | succ i => simp at hx
        subst this
        exact ev_cb (ea_cons (ev_var rfl) ea_nil) fun H2 e2 Q' q' => ⟨z, rfl, size_small hz, q' H2 (Ex.refl H2)⟩
    refine s_if (b := false) (et_is (et_test (ev_op (ev_maxN hl (m := z.length) (by simp) (by simp)) (ev_var (v := .int n) rfl) rv_I0)) (decide_eq_false (by omega))) (fun z => Bool.noConfusion z) fun _ H1 e1 => q H1 e1
/-- a word of not too many letters -/
def spNeedLimited : Sp := fun vs H Q _ => ∃ a s n, vs = [.str (wd a s), .int n] ∧ a < 3 ∧ 1 ≤ s.length ∧ s.length ≤ 199 ∧ (s.length : Int) + 1 ≤ n ∧ RetV .non H Q
theorem ok_need_limited {f f1 f2 : Addr} {fd fd1 fd2 : FuncData} (D : Dfn K mg "need_limited" sNeedLimited ["word", "most"] f fd) (D1 : Dfn K mg "need_word" sNeedWord ["value"] f1 fd1) (D2 : Dfn K mg "need_short" sNeedShort ["words", "most"] f2 fd2) (T : Txt mg) :
    FnOk P w K mg base CX0 2 f fd ["word", "most"] spNeedLimited := by
  have G1 := ok_need_word (P := P) (w := w) (base := base) D1 T
  have G2 := ok_need_short (P := P) (w := w) (base := base) D2 T
  refine D.F.ok scNeedLimited (fun vs H Q E h => ?_) (fun cdv A outer s0 H vs Q E hr h => ?_)
  · obtain ⟨a, s, n, rfl, _⟩ := h
    rfl
  · obtain ⟨a, s, n, rfl, ha, h1, h2, hn, q⟩ := h
    refine ⟨_, pss_cons (ps_expr (pe_fn D1 G1 hr (pa_cons (pv 0) pa_nil))) (pss_one (ps_expr (pe_fn D2 G2 hr (pa_cons (pe_tup (pa_cons (pv 0) pa_nil)) (pa_cons (pv 1) pa_nil))))), ?_⟩
    refine ⟨.str (wd a s), rfl, a, s, rfl, ha, h1, h2, fun H1 e1 => ?_⟩
    refine ⟨.str (wd a s), rfl, by show 1 ≤ sizeLine; decide, fun p hp => ?_⟩
    refine ⟨.int n, rfl, p, wd a s, n, rfl, st_of upd_same, by rw [wd_len]; omega, by rw [wd_len]; exact_mod_cast hn, fun H2 e2 => q H2 ((e1.trans (Ex.new hp)).trans e2)⟩
/-- two words with the same ends -/
def spNeedEnds : Sp := fun vs H Q _ => ∃ a s t, vs = [.str (wd a s), .str (wd a t)] ∧ s.length ≤ 199 ∧ t.length ≤ 199 ∧ fin a s = fin a t ∧ RetV .non H Q
theorem wd_first (a : Nat) (s : Tlm.Row) : atI (wd a s).cps.toList 0 = some (97 + a) := by
  obtain ⟨r, hr⟩ := lets_head a s
  refine atIx (j := 0) rfl ?_
  rw [wd, tx_cps, hr]
  rfl
theorem wd_last (a : Nat) (s : Tlm.Row) : atI (wd a s).cps.toList (-1) = some (97 + fin a s) := by
  rw [wd, tx_cps, lets_eq]
  unfold cs
  rw [List.map_append]
  exact atI_last _ _
theorem ok_need_ends {f : Addr} {fd : FuncData} (D : Dfn K mg "need_ends" sNeedEnds ["one", "other"] f fd) (T : Txt mg) : FnOk P w K mg base CX0 1 f fd ["one", "other"] spNeedEnds := by
  refine D.F.ok scNeedEnds (fun vs H Q E h => ?_) (fun cdv A outer s0 H vs Q E hr h => ?_)
  · obtain ⟨a, s, t, rfl, _⟩ := h
    rfl
  · obtain ⟨a, s, t, rfl, h1, h2, hf, q⟩ := h
    have l1 := size_small (show (wd a s).length ≤ 1000000 by rw [wd_len]; omega)
    have l2 := size_small (show (wd a t).length ≤ 1000000 by rw [wd_len]; omega)
    refine ⟨_, pss_one (ps_if (PW.pt (pw_or (pt_cmpR op_ne (pe_ix ix_str (pv 0) pe_int (fun _ _ => rfl)) (pe_ix ix_str (pv 1) pe_int (fun _ _ => rfl)) (nomark _))
        (pw_or1 (pt_cmpR op_ne (pe_ix ix_str (pv 0) (pe_un un_neg pe_int) (fun _ _ => rfl)) (pe_ix ix_str (pv 1) (pe_un un_neg pe_int) (fun _ _ => rfl)) (nomark _))))) pss_never pss_nil), ?_⟩
    refine ⟨.str (wd a s), rfl, wd a s, 0, 97 + a, rfl, rfl, l1, wd_first a s, .str (wd a t), rfl, wd a t, 0, 97 + a, rfl, rfl, l2, wd_first a t, rfl, _, rfl, ifF (by simp) ?_⟩
    refine ⟨.str (wd a s), rfl, 1, rfl, wd a s, -1, 97 + fin a s, rfl, rfl, l1, wd_last a s, .str (wd a t), rfl, 1, rfl, wd a t, -1, 97 + fin a t, rfl, rfl, l2, wd_last a t, rfl, _, rfl, ifF (by rw [hf]; simp) (q H (Ex.refl H))⟩
/-- two words of at most 40 letters with the same ends -/
def spNeedPair : Sp := fun vs H Q _ => ∃ a s t, vs = [.str (wd a s), .str (wd a t)] ∧ a < 3 ∧ 1 ≤ s.length ∧ s.length ≤ 39 ∧ 1 ≤ t.length ∧ t.length ≤ 39 ∧ fin a s = fin a t ∧ RetV .non H Q
theorem ok_need_pair {f f1 f2 : Addr} {fd fd1 fd2 : FuncData} (D : Dfn K mg "need_pair" sNeedPair ["one", "other"] f fd) (D1 : Dfn K mg "need_limited" sNeedLimited ["word", "most"] f1 fd1) (G1 : FnOk P w K mg base CX0 2 f1 fd1 ["word", "most"] spNeedLimited)
    (D2 : Dfn K mg "need_ends" sNeedEnds ["one", "other"] f2 fd2) (G2 : FnOk P w K mg base CX0 1 f2 fd2 ["one", "other"] spNeedEnds) (T : Txt mg) : FnOk P w K mg base CX0 3 f fd ["one", "other"] spNeedPair := by
  refine D.F.ok scNeedPair (fun vs H Q E h => ?_) (fun cdv A outer s0 H vs Q E hr h => ?_)
  · obtain ⟨a, s, t, rfl, _⟩ := h
    rfl
  · obtain ⟨a, s, t, rfl, ha, s1, s2, t1, t2, hf, q⟩ := h
    refine ⟨_, pss_cons (ps_expr (pe_fn D1 G1 hr (pa_cons (pv 0) (pa_cons (pe_mostD T) pa_nil)))) (pss_cons (ps_expr (pe_fn D1 G1 hr (pa_cons (pv 1) (pa_cons (pe_mostD T) pa_nil))))
      (pss_one (ps_expr (pe_fn D2 G2 (hr.mono (by decide)) (pa_cons (pv 0) (pa_cons (pv 1) pa_nil)))))), ?_⟩
    refine ⟨.str (wd a s), rfl, a, s, 40, rfl, ha, s1, by omega, by omega, fun H1 e1 => ?_⟩
    refine ⟨.str (wd a t), rfl, a, t, 40, rfl, ha, t1, by omega, by omega, fun H2 e2 => ?_⟩
    exact ⟨.str (wd a s), rfl, .str (wd a t), rfl, a, s, t, rfl, by omega, by omega, hf, fun H3 e3 => q H3 ((e1.trans e2).trans e3)⟩
end
end TW

set_option Elab.async false
set_option linter.all false
set_option maxRecDepth 100000
set_option maxHeartbeats 4000000
/-! The walk, second part: steps of words, words of steps, sums, moves. -/
namespace TW
open PySem
open PySem.Spec PyProof.Rows L2 Evl Tlm

/-- an iterable that is walked as J -/
def EvI (wi : TI) (σ : L2.St) (H : Hp) (J : It) : Prop := ∀ H0, Ex H H0 → ∀ R : It → Hp → Prop, (∀ H1, Ex H0 H1 → R J H1) → wi σ H0 R
theorem el_lcP {K : PySem.W.Frag} {σ : L2.St} {H : Hp} {te : TE} {t : TT} {wi : TI} {n i j : Nat} {Y : Nat → V → V → Prop} {vs : List Nat} (f : Nat → Bool) (v : Nat → V) (h : EvI wi σ H (ItP n Y)) (hz : n ≤ 40000) (hw : ∀ x y, wipe (((wipe σ vs).set i (some x)).set j (some y)) vs = wipe σ vs)
    (ht : ∀ (k : Nat) (x y : V) H1, Ex H H1 → k < n → Y k x y → EvT t (((wipe σ vs).set i (some x)).set j (some y)) H1 (f k)) (he : ∀ (k : Nat) (x y : V) H1, Ex H H1 → k < n → Y k x y → f k = true → Ev te (((wipe σ vs).set i (some x)).set j (some y)) H1 (v k)) :
    EvL (tLc wi (gTup K 2 (gCons (gName i) (gCons (gName j) gNil))) t te vs) σ H (given n f v) := fun H0 e Q q => h H0 e _ fun H1 e1 Dl hD =>
  lc_it walk_pairs (Cw H1 f v Dl) ⟨hD, Ex.new hD, upd_same⟩ (fun _ _ _ _ => True.intro) (fun k x H' H'' hk p y => by
    obtain ⟨T, x1, y1, rfl, hT, rfl, hY⟩ := y
    refine g_pair (st_of upd_same) ⟨hw x1 y1, ?_⟩
    have p' : Cw H1 f v Dl k (upd H' T (.tup [x1, y1])) := ⟨p.1, p.2.1.trans (Ex.new hT), Ex.new hT Dl _ p.2.2⟩
    exact cw_turn p' (by omega) (ht k x1 y1 H1 (e.trans e1) hk hY) (fun hf => he k x1 y1 H1 (e.trans e1) hk hY hf))
    (fun H' p => q Dl H' (fresh_back e1 p.1) (e1.trans p.2.1) p.2.2)
theorem given_map {α : Type} {n : Nat} {v : Nat → V} {l : List α} {g : α → V} (hn : l.length = n) (h : ∀ k x, l[k]? = some x → v k = g x) : given n (fun _ => true) v = l.map g := by
  rw [given_all]
  apply List.ext_getElem
  · simp [hn]
  · intro k h1 h2
    simp only [List.getElem_map, List.getElem_range]
    exact h k _ (List.getElem?_eq_getElem (by simpa using h2))

/-- s.index(t), found -/
def rIndex0 : V → List V → Hp → VK → Prop := fun x xs H Q => ∃ (a b : Str) (k : Nat), x = .str a ∧ xs = [.str b] ∧ Txt.index0 a b = some k ∧ Q (.int (k : Nat)) H
theorem mt_index0 {X : Cx} : MtR X "str.index" rIndex0 := by
  intro pins s σ H x xs v us Q I rx rs h
  obtain ⟨a, b, k, rfl, rfl, hk, q⟩ := h
  obtain ⟨t, rfl⟩ := rx
  obtain ⟨u, rfl, t', rfl⟩ := Vals.one rs
  unfold Txt.index0 at hk
  cases e : Builtin.Str.occurrences a b 0 a.length 1 with
  | nil => rw [e] at hk; cases hk
  | cons k' rest =>
    rw [e] at hk
    cases hk
    exact PySem.SC.index e ⟨.int (k : Nat), H, I.tok _, ⟨_, rfl⟩, q⟩
theorem abc_index {x : Nat} (h : x < 3) : Txt.index0 "abc" (sg x) = some x := by
  rcases three h with rfl | rfl | rfl <;> decide +kernel
/-- 'abc'.index(e) -/
theorem ev_index {K : PySem.W.Frag} {σ : L2.St} {H : Hp} {ta : TE} {x : Nat} (h3 : x < 3) (h : Ev ta σ H (.str (sg x))) : Ev (tBM K "str" rIndex0 (tC (.str "abc")) (tCons ta tNil)) σ H (.int (x : Nat)) := fun H1 e Q q =>
  ⟨rfl, h H1 e _ fun H2 e2 => ⟨"abc", sg x, x, rfl, rfl, abc_index h3, q H2 e2⟩⟩

/-- the values of a row -/
def rv (s : Tlm.Row) : List V := s.map fun b => .int (sv b)
theorem rv_get {s : Tlm.Row} {i : Nat} {x : V} (h : (rv s)[i]? = some x) : ∃ b, s[i]? = some b ∧ x = .int (sv b) := by
  unfold rv at h
  rw [List.getElem?_map] at h
  obtain ⟨b, hb, rfl⟩ := Option.map_eq_some_iff.mp h
  exact ⟨b, hb, rfl⟩
theorem cut_tail (l : List Nat) : cutS (tx l) (some 1) none = tx (l.drop 1) := by
  unfold cutS
  rw [show HT.sIx (tx l).length 0 (some 1) = min 1 (tx l).length from HT.sIx_nat _ 0 1, HT.sIx_none, tx_cps, tx_len]
  unfold tx cs
  congr 2
  cases l with
  | nil => rfl
  | cons x r =>
    have e : min 1 (x :: r).length = 1 := by rw [List.length_cons]; omega
    rw [e]
    simp only [List.map_cons, List.drop_succ_cons, List.drop_zero, List.length_cons]
    exact List.take_of_length_le (by simp)
theorem wd_tail (a : Nat) (b : Bool) (s : Tlm.Row) : cutS (wd a (b :: s)) (some 1) none = wd (nx a b) s := cut_tail _
theorem lets_step {a : Nat} : ∀ {s : Tlm.Row} {i : Nat} {x y : Nat} {b : Bool}, a < 3 → (lets a s)[i]? = some x → (lets a s)[i + 1]? = some y → s[i]? = some b → x < 3 ∧ y = nx x b
  | [], i, x, y, b, _, _, _, h => by simp at h
  | c :: s, 0, x, y, b, ha, h1, h2, h3 => by
    obtain ⟨r, hr⟩ := lets_head (nx a c) s
    have e1 : a = x := by simpa [lets] using h1
    have e2 : nx a c = y := by simpa [lets, hr] using h2
    have e3 : c = b := by simpa using h3
    subst e1; subst e3
    exact ⟨ha, e2.symm⟩
  | c :: s, i + 1, x, y, b, ha, h1, h2, h3 => lets_step (nx_lt a c) (by simpa [lets] using h1) (by simpa [lets] using h2) (by simpa using h3)
/-- LETTERS.index(name) in a text -/
theorem pe_abcIx {X : Cx} {i : Nat} {n : Str} {q p apos pos : Pos} (T : Txt X.mg) (he : PE X (.Name n q) (tVar i)) (hg : Gl X "LETTERS" := by rfl) (hl : (apos.endLine == pos.line) = true := by rfl) :
    PE X (.Call (.Attribute (.Name "LETTERS" p) "index" apos) [.Name n q] [] pos) (tBM X.K "str" rIndex0 (tC (.str "abc")) (tCons (tVar i) tNil)) :=
  pe_bm PySem.F.plainAttrs_str PySem.F.slot_str_index PySem.F.type_str_index mt_index0 (pe_letters T hg) (pa_cons he pa_nil) rfl rfl hl
/-- 1 if (one - other) % 3 == 1 else -1 -/
def tAbcIx (K : PySem.W.Frag) (i : Nat) : TE := tBM K "str" rIndex0 (tC (.str "abc")) (tCons (tVar i) tNil)
def tStepVal (ta tb : TE) : TE := tIf (tTest (tOp rEq (tOp (rI (fun _ j => 0 < j) fun i j => .int (i % j)) (tOp (rI0 fun i j => .int (i - j)) ta tb) (tC (.int 3))) (tC (.int 1)))) (tC (.int 1)) (tUn (rU fun i => .int (-i)) (tC (.int 1)))
theorem pe_stepVal {X : Cx} {A B : Expr} {ta tb : TE} {p1 p2 p3 p4 p5 p6 p7 p8 p9 : Pos} (ha : PE X A ta) (hb : PE X B tb) :
    PE X (.IfExp (.Compare (.BinOp (.BinOp A .Sub B p1) .Mod (.Constant (.int 3) 0 p2) p3) [.Eq] [.Constant (.int 1) 0 p4] p5) (.Constant (.int 1) 0 p6) (.UnaryOp .USub (.Constant (.int 1) 0 p7) p8) p9) (tStepVal ta tb) :=
  pe_ifExp (pt_cmpR op_eq (pe_op op_mod (pe_op op_sub ha hb) pe_int) pe_int rfl) pe_int (pe_un un_neg pe_int)
section
variable {P : Program} {w : World} {K : PySem.W.Frag} {mg : Str → Option Value} {base : Heap}
/-- the steps of a word -/
def spStepsOf : Sp := fun vs H Q _ => ∃ a s, vs = [.str (wd a s)] ∧ a < 3 ∧ 1 ≤ s.length ∧ s.length ≤ 199 ∧ RetL (rv s) H Q
theorem ok_steps_of {f : Addr} {fd : FuncData} (D : Dfn K mg "steps_of" sStepsOf ["word"] f fd) (T : Txt mg) : FnOk P w K mg base CX0 1 f fd ["word"] spStepsOf := by
  refine D.F.ok scStepsOf (fun vs H Q E h => ?_) (fun cdv A outer s0 H vs Q E hr h => ?_)
  · obtain ⟨a, s, rfl, _⟩ := h
    rfl
  · obtain ⟨a, s, rfl, ha, h1, h2, q⟩ := h
    refine ⟨_, pss_one (ps_ret (pe_lc (own := [("one", 1), ("other", 2)]) (g := gTup K 2 (gCons (gName 1) (gCons (gName 2) gNil))) (te := tStepVal (tAbcIx K 2) (tAbcIx K 1)) rfl scStepsOf.nd (pi_zipS (by rfl) T.zip (pa_cons (pv 0) (pa_cons (pe_slice sl_str (pv 0) (po_some pe_int) po_none) pa_nil)))
        (blkOk_by (own := [("one", 1), ("other", 2)]) (N := nStepsOf) (sc := defScope sStepsOf) (by decide +kernel))
        (fun _ _ _ _ _ => pg_tup rfl (pgs_cons (pg_name (i := 1) scStepsOf.nd rfl (.inl rfl)) (pgs_cons (pg_name (i := 2) scStepsOf.nd rfl (.inl rfl)) pgs_nil))) (fun _ _ _ _ _ => pts_nil)
        (fun _ _ _ _ _ => pe_stepVal (pe_abcIx T (pv 2)) (pe_abcIx T (pv 1))))), ?_⟩
    have hlen : (wd a s).length = s.length + 1 := wd_len a s
    obtain ⟨b0, s1, rfl⟩ : ∃ b0 s1, s = b0 :: s1 := by
      cases s with
      | nil => simp at h1
      | cons b r => exact ⟨b, r, rfl⟩
    refine s_retL (xs := rv (b0 :: s1)) ?_ fun p H1 hp e h1 => q p H1 hp e h1
    rw [show rv (b0 :: s1) = given (b0 :: s1).length (fun _ => true) (fun k => .int (sv ((b0 :: s1).getD k false))) from
      (given_map rfl fun k x hx => by rw [List.getD_eq_getElem?_getD, hx]; rfl).symm]
    refine el_lcP (K := K) (n := (b0 :: s1).length) (Y := YZip (wd a (b0 :: s1)) (wd (nx a b0) s1)) (i := 1) (j := 2) (fun _ => true) (fun k => .int (sv ((b0 :: s1).getD k false))) ?_ (by omega) (fun x y => rfl) ?_ ?_
    · intro H0 e0 R hR
      refine ⟨.str (wd a (b0 :: s1)), rfl, .str (wd a (b0 :: s1)), rfl, 1, rfl, wd a (b0 :: s1), rfl, by rw [hlen]; exact size_small (by omega), wd a (b0 :: s1), wd (nx a b0) s1, ?_, ?_⟩
      · rw [wd_tail]
      · have := hR H0 (Ex.refl _)
        rw [show min (wd a (b0 :: s1)).cps.size (wd (nx a b0) s1).cps.size = (b0 :: s1).length by rw [wd_size, wd_size, List.length_cons]; omega]
        exact this
    · intro k x y H1 e1 hk hY H2 e2 Q' q'
      exact q' H2 (Ex.refl H2)
    · rintro k x y H1 e1 hk ⟨c, d, hc, hd, rfl, rfl⟩ _
      obtain ⟨x, hx, rfl⟩ := wd_get hc
      obtain ⟨y, hy, rfl⟩ := wd_get hd
      have hb : (b0 :: s1)[k]? = some ((b0 :: s1).getD k false) := by
        rw [List.getD_eq_getElem?_getD, List.getElem?_eq_getElem hk]; rfl
      have hy' : (lets a (b0 :: s1))[k + 1]? = some y := by
        show (a :: lets (nx a b0) s1)[k + 1]? = some y
        rw [List.getElem?_cons_succ]
        exact hy
      generalize (b0 :: s1).getD k false = b at hb ⊢
      obtain ⟨hx3, rfl⟩ := lets_step ha hx hy' hb
      have hy3 : nx x b < 3 := nx_lt x b
      refine ev_if (b := b) (et_is (et_test (ev_op (ev_op (ev_op (ev_index hy3 (ev_var rfl)) (ev_index hx3 (ev_var rfl)) rv_I0) ev_c (rv_I (by decide))) ev_c (rv_eq rfl))) ?_) (fun hb => ?_) (fun hb => ?_)
      · rcases three hx3 with rfl | rfl | rfl <;> cases b <;> decide
      · subst hb; exact ev_c
      · subst hb; exact ev_un ev_c ru_neg
end
end TW

set_option Elab.async false
set_option linter.all false
set_option maxRecDepth 100000
set_option maxHeartbeats 4000000
/-! The walk, third part: words of steps, sums, moves. -/
namespace TW
open PySem
open PySem.Spec PyProof.Rows L2 Evl Tlm

/-- xs.append(e), a statement -/
theorem ps_ap {X : Cx} {o e : Expr} {to te : TE} {apos cpos pos : Pos} (ho : PE X o to) (he : PE X e te)
    (hbase : attributeBase o "append" X.env (eval o X.env) = eval o X.env := by rfl)
    (hfew : ((backTo cpos (starEach [e] X.env)).all (fun x => !x.1) && (backToKw cpos (keywordEach [] X.env)).all (fun x => x.1.isSome)
      && decide (([e] : List Expr).length + ([] : List Keyword).length + (if ([] : List Keyword).isEmpty then 0 else 1) < 30)) = true := by rfl)
    (hline : (apos.endLine == cpos.line) = true := by rfl) (hs : starEach [e] X.env = (false, eval e X.env) :: starEach [] X.env := by rfl) :
    PS X (.Expr (.Call (.Attribute o "append" apos) [e] [] cpos) pos) (tDrop (tBM X.K "list" rAppend to (tCons te tNil))) :=
  ps_expr (pe_bm PySem.F.plainAttrs_list PySem.F.slot_list_append PySem.F.type_list_append mt_append ho (pa_cons he pa_nil hs) hbase hfew hline hs rfl)
theorem abc_at {x : Nat} (h : x < 3) : atI ("abc" : Str).cps.toList (x : Int) = some (97 + x) := by
  rcases three h with rfl | rfl | rfl <;> decide
theorem fin_snoc (a : Nat) (s : Tlm.Row) (b : Bool) : fin a (s ++ [b]) = nx (fin a s) b := by rw [fin_app]; rfl
theorem lets_snoc (a : Nat) (s : Tlm.Row) (b : Bool) : lets a (s ++ [b]) = lets a s ++ [nx (fin a s) b] := by
  rw [lets_app, lets_eq a s, List.append_assoc]
  rfl
theorem take_snoc {s : Tlm.Row} {i : Nat} {b : Bool} (h : s[i]? = some b) : s.take (i + 1) = s.take i ++ [b] := by
  rw [List.take_add_one, h]
  rfl
theorem tx_cons_eq (l : List Nat) : Str.join ⟨#[]⟩ (l.map sg) = tx l := by
  induction l with
  | nil => rfl
  | cons x r ih =>
    cases r with
    | nil => rfl
    | cons y r =>
      show (sg x ++ ⟨#[]⟩ ++ Str.join ⟨#[]⟩ ((y :: r).map sg) : Str) = _
      rw [ih]
      have e : ∀ t : Str, (sg x ++ ⟨#[]⟩ ++ t : Str) = sg x ++ t := fun t => by
        show Str.mk _ = Str.mk _
        congr 1
      rw [e, ← tx_sg, tx_app]
      rfl
def sums (s : Tlm.Row) : List V := (List.range (s.length + 1)).map fun i => .int (tot (s.take i))
theorem sums_at {s : Tlm.Row} {m : Nat} (h : m ≤ s.length) : atI (sums s) (m : Int) = some (.int (tot (s.take m))) := by
  refine atI_nat ?_
  unfold sums
  rw [List.getElem?_map, List.getElem?_range (by omega)]
  rfl
theorem rv_at {s : Tlm.Row} {m : Nat} {b : Bool} (h : s[m]? = some b) : atI (rv s) (m : Int) = some (.int (sv b)) := by
  refine atI_nat ?_
  unfold rv
  rw [List.getElem?_map, h]
  rfl
/-- the moves of the plain law: the places (made, kind) behind a step b -/
def mv (d : Tlm.Row) (m k : Nat) (b : Bool) (last whole : Int) : List (Nat × Nat) :=
  match d[m]? with
  | none => []
  | some c =>
    let k' := if k = 0 then 1 else if k = 2 ∨ sv b = last then 2 else 1
    (m, k') :: if ((whole - tot (d.take m) - sv c) % 3 = 0 ∧ k' = 2) ∨ (k = 0 ∧ b = c) then [(m + 1, 0)] else []
/-- at l stands a list of new pairs -/
def Prs (H : Hp) (l : Addr) (xs : List (Nat × Nat)) : Prop := ∃ ts : List Addr, H l = some (.lst (ts.map V.ref)) ∧ ts.length = xs.length ∧ ∀ (i : Nat) t x, ts[i]? = some t → xs[i]? = some x → H t = some (.tup [.int (x.1 : Nat), .int (x.2 : Nat)])
theorem Prs.mono {H H' : Hp} {l : Addr} {xs : List (Nat × Nat)} (h : Prs H l xs) (e : Ex H H') : Prs H' l xs := by
  obtain ⟨ts, h1, h2, h3⟩ := h
  exact ⟨ts, e _ _ h1, h2, fun i t x a b => e _ _ (h3 i t x a b)⟩
section
variable {P : Program} {w : World} {K : PySem.W.Frag} {mg : Str → Option Value} {base : Heap}
/-- the word of a first letter and steps -/
def spWordOf (K : PySem.W.Frag) : Sp := fun vs H Q _ => ∃ p a s, vs = [.str (sg a), .ref p] ∧ a < 3 ∧ SqL K H p (rv s) ∧ s.length ≤ 10000 ∧ RetV (.str (wd a s)) H Q
theorem ok_word_of {f : Addr} {fd : FuncData} (D : Dfn K mg "word_of" sWordOf ["first", "steps"] f fd) (T : Txt mg) : FnOk P w K mg base CX0 1 f fd ["first", "steps"] (spWordOf K) := by
  refine D.F.ok scWordOf (fun vs H Q E h => ?_) (fun cdv A outer s0 H vs Q E hr h => ?_)
  · obtain ⟨p, a, s, rfl, _⟩ := h
    rfl
  · obtain ⟨p, a, s, rfl, ha, hp, hs, q⟩ := h
    refine ⟨_, pss_cons (ps_par (i := 2) (j := 3) rfl scWordOf.nd rfl rfl (by decide) rfl rfl (pa_cons (pe_abcIx T (pv 0)) (pa_cons (pe_lst (pa_cons (pv 0) pa_nil)) pa_nil)) rfl)
      (pss_cons (ps_for PassesOwn.never rfl (pi_list (pv 1)) (pg_name (i := 4) scWordOf.nd rfl (.inl rfl))
        (pss_cons (ps_set (i := 2) scWordOf.nd rfl (.inl rfl) (pe_op op_mod (pe_op op_add (pv 2) (pv 4)) pe_int))
          (pss_one (ps_ap (pv 3) (pe_ix ix_str (pe_letters T) (pv 2) (fun _ _ => rfl))))))
      (pss_one (ps_ret (pe_join pe_str (pv 3))))), ?_⟩
    refine ev_index ha (ev_var rfl) H (Ex.refl H) _ fun H1 e1 => ?_
    refine ⟨.str (sg a), rfl, by show 1 ≤ sizeLine; decide, fun l hl => ?_⟩
    refine ⟨.int (a : Nat), .ref l, rfl, ?_⟩
    refine q_forLn (ev_var rfl) (ex_l (e1.trans (Ex.new hl)) hp) (fun i σ H' => ∃ y, σ = [some (.str (sg a)), some (.ref p), some (.int (fin a (s.take i) : Nat)), some (.ref l), y] ∧ Ex H1 H' ∧ H' l = some (.lst (((lets a (s.take i)).map sg).map V.str)))
      (fun H2 e2 => ⟨none, rfl, (Ex.new hl).trans e2, e2 _ _ upd_same⟩) (fun i σ H' hi p' => by obtain ⟨y, rfl, e2, _⟩ := p'; exact ex_l (e1.trans e2) hp) ?_ ?_
    · rintro i x σ H' hi ⟨y, rfl, e2, h2⟩
      obtain ⟨b, hb, rfl⟩ := rv_get hi
      have hf : fin a (s.take i) < 3 := fin_lt ha _
      refine q_asg (ev_op (ev_op (ev_var rfl) (ev_var rfl) rv_I0) ev_c (rv_I (by decide))) fun H3 e3 => ?_
      rw [nx_int hf b]
      refine s_app (e3 _ _ h2) (ev_var rfl) (ev_op ev_c (ev_var rfl) (rv_ixS (c := 97 + nx (fin a (s.take i)) b) (by decide) (abc_at (nx_lt _ _)))) (by rw [List.length_map, List.length_map, lets_len, List.length_take]; omega) fun H4 e4 => ?_
      refine ⟨some (.int (sv b)), ?_, Ex.mut ((e2.trans e3).trans e4) hl, ?_⟩
      · rw [take_snoc hb, fin_snoc]
        rfl
      · rw [take_snoc hb, lets_snoc, List.map_append, List.map_append]
        exact upd_same
    · rintro σ H' ⟨y, rfl, e2, h2⟩
      have hl' : (rv s).length = s.length := by unfold rv; rw [List.length_map]
      rw [hl', List.take_length] at h2 ⊢
      refine ⟨⟨"", rfl⟩, .ref l, rfl, "", l, (lets a s).map sg, rfl, rfl, Or.inl (sq_of h2), ?_, ?_⟩
      · have : ((lets a s).map sg).map (·.length) = List.replicate (s.length + 1) 1 := by
          rw [List.map_map]
          refine List.eq_replicate_iff.mpr ⟨by rw [List.length_map, lets_len], fun x hx => ?_⟩
          obtain ⟨y, _, rfl⟩ := List.mem_map.mp hx
          rfl
        rw [this, List.sum_replicate_nat]
        show (s.length + 1) * 1 + _ * 0 ≤ _
        omega
      · rw [TL.join_eq]
        have := tx_cons_eq (lets a s)
        rw [show (Str.join "" ((lets a s).map sg)) = wd a s from this]
        exact q _ (e1.trans e2)
/-- the sums of a row -/
def spSumsOf (K : PySem.W.Frag) : Sp := fun vs H Q _ => ∃ p s, vs = [.ref p] ∧ SqL K H p (rv s) ∧ s.length ≤ 10000 ∧ RetL (sums s) H Q
theorem sums_take (s : Tlm.Row) {i : Nat} {b : Bool} (h : s[i]? = some b) : sums (s.take (i + 1)) = sums (s.take i) ++ [.int (tot (s.take i) + sv b)] := by
  have hi := (List.getElem?_eq_some_iff.mp h).1
  unfold sums
  rw [List.length_take, List.length_take, show min (i + 1) s.length + 1 = (min i s.length + 1) + 1 by omega, List.range_succ, List.map_append]
  congr 1
  · refine List.map_congr_left fun j hj => ?_
    have := List.mem_range.mp hj
    rw [List.take_take, List.take_take]
    congr 3
    omega
  · rw [List.map_cons, List.map_nil, show min i s.length + 1 = i + 1 by omega, List.take_take, Nat.min_self, take_snoc h, tot_app]
    congr 3
    show sv b + 0 = sv b
    omega
theorem ok_sums_of {f : Addr} {fd : FuncData} (D : Dfn K mg "sums_of" sSumsOf ["due"] f fd) (T : Txt mg) : FnOk P w K mg base CX0 1 f fd ["due"] (spSumsOf K) := by
  refine D.F.ok scSumsOf (fun vs H Q E h => ?_) (fun cdv A outer s0 H vs Q E hr h => ?_)
  · obtain ⟨p, s, rfl, _⟩ := h
    rfl
  · obtain ⟨p, s, rfl, hp, hs, q⟩ := h
    refine ⟨_, pss_cons (ps_set (i := 1) scSumsOf.nd rfl (.inl rfl) (pe_lst (pa_cons pe_int pa_nil)))
      (pss_cons (ps_for PassesOwn.never rfl (pi_list (pv 0)) (pg_name (i := 2) scSumsOf.nd rfl (.inl rfl))
        (pss_one (ps_ap (pv 1) (pe_op op_add (pe_ix ix_list (pv 1) (pe_un un_neg pe_int) (fun _ _ => rfl)) (pv 2)))))
      (pss_one (ps_ret (pv 1)))), ?_⟩
    refine q_asgL (xs := [.int 0]) (el_lst (ea_cons ev_c ea_nil) (by decide)) fun l H1 hl e1 h1 => ?_
    refine q_forLn (ev_var rfl) (ex_l e1 hp) (fun i σ H' => ∃ y, σ = [some (.ref p), some (.ref l), y] ∧ Ex H H' ∧ H' l = some (.lst (sums (s.take i))))
      (fun H2 e2 => ⟨none, rfl, e1.trans e2, e2 _ _ h1⟩) (fun i σ H' hi p' => by obtain ⟨y, rfl, e2, _⟩ := p'; exact ex_l e2 hp) ?_ ?_
    · rintro i x σ H' hi ⟨y, rfl, e2, h2⟩
      obtain ⟨b, hb, rfl⟩ := rv_get hi
      have hlast : atI (sums (s.take i)) (-1) = some (.int (tot (s.take i))) := by
        have := atI_last ((List.range (s.take i).length).map fun j => V.int (tot ((s.take i).take j))) (.int (tot (s.take i)))
        unfold sums
        rw [List.range_succ, List.map_append, List.map_cons, List.map_nil, List.take_length]
        exact this
      refine s_app h2 (ev_var rfl) (ev_op (ev_op (ev_var rfl) (ev_un ev_c ru_neg) (rv_ixL (sq_of h2) hlast)) (ev_var rfl) rv_I0) (by unfold sums; rw [List.length_map, List.length_range, List.length_take]; omega) fun H3 e3 => ?_
      refine ⟨some (.int (sv b)), rfl, Ex.mut (e2.trans e3) hl, ?_⟩
      rw [sums_take s hb]
      exact upd_same
    · rintro σ H' ⟨y, rfl, e2, h2⟩
      have hl' : (rv s).length = s.length := by unfold rv; rw [List.length_map]
      rw [hl', List.take_length] at h2
      refine s_ret (ev_var rfl) fun H3 e3 => q l H3 hl (e2.trans e3) (e3 _ _ h2)
/-- the moves -/
def spMovesOn (K : PySem.W.Frag) : Sp := fun vs H Q _ => ∃ p r t d m k b last whole, vs = [.ref p, .ref r, .ref t, .int (sv b), .int last, .int whole] ∧ SqL K H p (rv d) ∧ SqL K H r (sums d) ∧ SqT K H t [.int (m : Nat), .int (k : Nat)] ∧ m ≤ d.length ∧ d.length ≤ 10000 ∧
  ∀ l H2, Ex H H2 → H l = none → Prs H2 l (mv d m k b last whole) → Q (.ref l) H2
theorem ok_moves_on {f : Addr} {fd : FuncData} (D : Dfn K mg "moves_on" sMovesOn ["due", "sums", "state", "step", "last", "whole"] f fd) (T : Txt mg) : FnOk P w K mg base CX0 1 f fd ["due", "sums", "state", "step", "last", "whole"] (spMovesOn K) := by
  refine D.F.ok scMovesOn (fun vs H Q E h => ?_) (fun cdv A outer s0 H vs Q E hr h => ?_)
  · obtain ⟨p, r, t, d, m, k, b, last, whole, rfl, _⟩ := h
    rfl
  · obtain ⟨p, r, t, d, m, k, b, last, whole, rfl, hp, hrr, ht, hm, hd, q⟩ := h
    refine ⟨_, pss_cons (ps_asg (pv 2) (pg_tup rfl (pgs_cons (pg_name (i := 6) scMovesOn.nd rfl (.inl rfl)) (pgs_cons (pg_name (i := 7) scMovesOn.nd rfl (.inl rfl)) pgs_nil))))
      (pss_cons (ps_if (pt_cmpR op_eq (pv 6) (pe_callB call_len_seq (by rfl) T.len (by decide +kernel) (pa_cons (pv 0) pa_nil)) (nomark _)) (pss_one (ps_ret (pe_lst pa_nil))) pss_nil)
      (pss_cons (ps_set (i := 7) scMovesOn.nd rfl (.inl rfl) (pe_ifExp (pt_cmpR op_eq (pv 7) pe_int (nomark _)) pe_int (pe_ifExp (PW.pt (pw_or (pt_cmpR op_eq (pv 7) pe_int (nomark _)) (pw_or1 (pt_cmpR op_eq (pv 3) (pv 4) (nomark _))))) pe_int pe_int)))
      (pss_cons (ps_set (i := 8) scMovesOn.nd rfl (.inl rfl) (pe_lst (pa_cons (pe_tup (pa_cons (pv 6) (pa_cons (pv 7) pa_nil))) pa_nil)))
      (pss_cons (ps_set (i := 9) scMovesOn.nd rfl (.inl rfl) (pe_cmpR op_eq (pe_op op_mod (pe_op op_sub (pe_op op_sub (pv 5) (pe_ix ix_list (pv 1) (pv 6) (fun _ _ => rfl))) (pe_ix ix_list (pv 0) (pv 6) (fun _ _ => rfl))) pe_int) pe_int (nomark _)))
      (pss_cons (ps_if (PW.pt (pw_or (PW.pt (pw_and (pt_val (pv 9)) (pw_and1 (pt_cmpR op_eq (pv 7) pe_int (nomark _))))) (pw_or1 (PW.pt (pw_and (pt_cmpR op_eq (pe_ix ix_tup (pv 2) pe_int (fun _ _ => rfl)) pe_int (nomark _)) (pw_and1 (pt_cmpR op_eq (pv 3) (pe_ix ix_list (pv 0) (pv 6) (fun _ _ => rfl)) (nomark _))))))))
        (pss_one (ps_ap (pv 8) (pe_tup (pa_cons (pe_op op_add (pv 6) pe_int) (pa_cons pe_int pa_nil))))) pss_nil)
      (pss_one (ps_ret (pv 8)))))))), ?_⟩
    refine ⟨.ref t, rfl, g_pair ht ?_⟩
    have hN : (rv d).length = d.length := by unfold rv; rw [List.length_map]
    refine q_when (b := decide (m = d.length)) (et_is (et_test (ev_op (ev_var rfl) (ev_cb (ea_cons (ev_var rfl) ea_nil) fun H2 e2 Q' q' => ⟨p, rv d, rfl, .inl (ex_l e2 hp), q' H2 (Ex.refl H2)⟩) (rv_eq rfl))) (by rw [hN]; simp; omega)) (fun hb H1 e1 => ?_) (fun hb H1 e1 => ?_)
    · refine s_retL (el_lst ea_nil (by decide)) fun l H2 hl e2 h2 => q l H2 (e1.trans e2) (fresh_back e1 hl) ⟨[], h2, ?_, fun i t x a _ => by simp at a⟩
      have : d[m]? = none := List.getElem?_eq_none (by have := of_decide_eq_true hb; omega)
      unfold mv
      rw [this]
      rfl
    · obtain ⟨c, hc⟩ : ∃ c, d[m]? = some c := ⟨_, List.getElem?_eq_getElem (show m < d.length by have := of_decide_eq_false hb; omega)⟩
      have hmv : mv d m k b last whole = (m, (if k = 0 then 1 else if k = 2 ∨ sv b = last then 2 else 1)) :: if ((whole - tot (d.take m) - sv c) % 3 = 0 ∧ (if k = 0 then 1 else if k = 2 ∨ sv b = last then 2 else 1) = 2) ∨ (k = 0 ∧ b = c) then [(m + 1, 0)] else [] := by
        unfold mv
        rw [hc]
      rw [hmv] at q
      generalize hk' : (if k = 0 then 1 else if k = 2 ∨ sv b = last then 2 else 1) = k' at q
      refine q_asg (v := .int (k' : Nat)) (ev_if (b := decide (k = 0)) (et_is (et_test (ev_op (ev_var rfl) ev_c (rv_eq rfl))) (by simp)) (fun h0 => ?_) (fun h0 => ?_)) fun H2 e2 => ?_
      · have : k' = 1 := by rw [← hk', if_pos (of_decide_eq_true h0)]
        rw [this]; exact ev_c
      · refine ev_if (b := decide (k = 2) || decide (sv b = last)) (et_or (et_is (et_test (ev_op (ev_var rfl) ev_c (rv_eq rfl))) (by simp; omega)) fun _ => et_is (et_test (ev_op (ev_var rfl) (ev_var rfl) (rv_eq rfl))) (by simp)) (fun h1 => ?_) (fun h1 => ?_)
        · have : k' = 2 := by rw [← hk', if_neg (of_decide_eq_false h0), if_pos (by simpa using h1)]
          rw [this]; exact ev_c
        · have : k' = 1 := by rw [← hk', if_neg (of_decide_eq_false h0), if_neg (by simpa using h1)]
          rw [this]; exact ev_c
      have e12 := e1.trans e2
      refine ⟨.int (m : Nat), rfl, .int (k' : Nat), rfl, by show 2 ≤ sizeLine; decide, fun t1 ht1 => ⟨by show 1 ≤ sizeLine; decide, fun l hl => ?_⟩⟩
      have e3 : Ex H (upd (upd H2 t1 (.tup [.int (m : Nat), .int (k' : Nat)])) l (.lst [.ref t1])) := (e12.trans (Ex.new ht1)).trans (Ex.new hl)
      have hlH : H l = none := fresh_back (e12.trans (Ex.new ht1)) hl
      have h1 : (upd (upd H2 t1 (.tup [.int (m : Nat), .int (k' : Nat)])) l (.lst [.ref t1])) t1 = some (.tup [.int (m : Nat), .int (k' : Nat)]) := Ex.new hl _ _ upd_same
      have h2 : (upd (upd H2 t1 (.tup [.int (m : Nat), .int (k' : Nat)])) l (.lst [.ref t1])) l = some (.lst [.ref t1]) := upd_same
      revert e3 h1 h2
      generalize (upd (upd H2 t1 (.tup [.int (m : Nat), .int (k' : Nat)])) l (.lst [.ref t1])) = H3
      intro e3 h1 h2
      refine q_asg (ev_op (ev_op (ev_op (ev_op (ev_var rfl) (ev_op (ev_var rfl) (ev_var rfl) (rv_ixL (ex_l e3 hrr) (sums_at hm))) rv_I0) (ev_op (ev_var rfl) (ev_var rfl) (rv_ixL (ex_l e3 hp) (rv_at hc))) rv_I0) ev_c (rv_I (by decide))) ev_c (rv_eq rfl)) fun H4 e4 => ?_
      have e34 := e3.trans e4
      refine q_when (b := (decide ((whole - tot (d.take m) - sv c) % 3 = 0) && decide (k' = 2)) || (decide (k = 0) && decide (b = c)))
        (et_or (et_and (et_is (et_B (ev_var rfl)) (by simp)) fun _ => et_is (et_test (ev_op (ev_var rfl) ev_c (rv_eq rfl))) (by simp; omega)) fun _ =>
          et_and (et_is (et_test (ev_op (ev_op (ev_var rfl) ev_c (rv_ixT (ex_t e34 ht) (v := .int (k : Nat)) rfl)) ev_c (rv_eq rfl))) (by simp)) fun _ => et_is (et_test (ev_op (ev_var rfl) (ev_op (ev_var rfl) (ev_var rfl) (rv_ixL (ex_l e34 hp) (rv_at hc))) (rv_eq rfl))) ?_) (fun hb2 H5 e5 => ?_) (fun hb2 H5 e5 => ?_)
      · by_cases hbc : b = c
        · simp [hbc]
        · have : sv b ≠ sv c := fun z => hbc (sv_inj z)
          simp [hbc, this]
      · refine s_appU (ys := [.int ((m + 1 : Nat) : Int), .int ((0 : Nat) : Int)]) ((e4.trans e5) _ _ h2) (ev_var rfl) (eu_tup (ea_cons (ev_op (ev_var rfl) ev_c rv_I0) (ea_cons ev_c ea_nil)) (by show 2 ≤ 100000; decide)) (by show 1 < 100000; decide) fun t2 H6 ht2 e6 h6 => ?_
        have e36 := (e4.trans e5).trans e6
        refine s_ret (ev_var rfl) fun H7 e7 => q l H7 ((Ex.mut (e3.trans e36) hlH).trans e7) hlH ⟨[t1, t2], e7 _ _ upd_same, ?_, ?_⟩
        · rw [if_pos (by simpa using hb2)]; rfl
        · rw [if_pos (by simpa using hb2)]
          have n1 : t1 ≠ l := fun z => by subst z; rw [h1] at h2; cases h2
          have n2 : t2 ≠ l := fun z => by subst z; have := (e4.trans e5) _ _ h2; rw [ht2] at this; cases this
          intro i t x a b'
          match i with
          | 0 => simp at a b'; subst a; subst b'; exact e7 _ _ (by rw [upd_ne n1]; exact e36 _ _ h1)
          | 1 => simp at a b'; subst a; subst b'; exact e7 _ _ (by rw [upd_ne n2]; exact h6)
          | i + 2 => simp at a
      · refine s_ret (ev_var rfl) fun H7 e7 => q l H7 ((e34.trans e5).trans e7) hlH ⟨[t1], e7 _ _ ((e4.trans e5) _ _ h2), ?_, ?_⟩
        · rw [if_neg (by simpa using hb2)]; rfl
        · rw [if_neg (by simpa using hb2)]
          intro i t x a b'
          match i with
          | 0 => simp at a b'; subst a; subst b'; exact e7 _ _ ((e4.trans e5) _ _ h1)
          | i + 1 => simp at a
end
end TW

set_option Elab.async false
set_option linter.all false
set_option maxRecDepth 100000
/-! The mathematics of the law, third part: what the moves reach. No program here. -/
namespace TW
open PySem Tlm

/-- the last step, 0 where there is none -/
def lst (w : Tlm.Row) : Int := match w.getLast? with | none => 0 | some b => sv b
theorem lst_snoc (w : Tlm.Row) (b : Bool) : lst (w ++ [b]) = sv b := by simp [lst]
theorem lst_nil : lst [] = 0 := rfl
/-- w brings the moves over d to the place (m, k) -/
def Pl (d w : Tlm.Row) (m k : Nat) : Prop :=
  ∃ u p, w = u ++ p ∧ Cut u (d.take m) ∧ m ≤ d.length ∧ ((k = 0 ∧ p = []) ∨ (k = 1 ∧ p ≠ [] ∧ ¬ Na p ∧ m < d.length) ∨ (k = 2 ∧ Na p ∧ m < d.length))
theorem na_ne {p : Tlm.Row} (h : Na p) : p ≠ [] := by
  obtain ⟨u, b, v, e⟩ := h
  intro z
  rw [z] at e
  cases u <;> cases e
theorem na_one (b : Bool) : ¬ Na [b] := by
  rintro ⟨u, c, v, e⟩
  cases u with
  | nil => simp at e
  | cons x u => cases u <;> simp at e
theorem na_more {p : Tlm.Row} (h : Na p) (b : Bool) : Na (p ++ [b]) := by
  obtain ⟨u, c, v, e⟩ := h
  exact ⟨u, c, v ++ [b], by rw [e]; simp⟩
theorem na_snoc2 {q : Tlm.Row} {c b : Bool} : Na (q ++ [c] ++ [b]) ↔ Na (q ++ [c]) ∨ c = b := by
  constructor
  · rintro ⟨u, x, v, e⟩
    rcases List.eq_nil_or_concat v with rfl | ⟨v', y, rfl⟩
    · right
      have e1 : q ++ [c] ++ [b] = (u ++ [x]) ++ [x] := by rw [e]; simp
      have e2 := List.append_inj' e1 rfl
      have e3 := List.append_inj' e2.1 rfl
      have := e2.2; have := e3.2
      simp_all
    · left
      have e1 : q ++ [c] ++ [b] = (u ++ x :: x :: v') ++ [y] := by rw [e]; simp
      exact ⟨u, x, v', (List.append_inj' e1 rfl).1⟩
  · rintro (h | h)
    · exact na_more h b
    · subst h; exact ⟨q, c, [], by simp⟩
theorem lst_of (q : Tlm.Row) (c : Bool) (u : Tlm.Row) : lst (u ++ (q ++ [c])) = sv c := by rw [← List.append_assoc, lst_snoc]
theorem cut_nil {w : Tlm.Row} (h : Cut w []) : w = [] := by
  have := (cut_iff w []).mp h
  cases w with
  | nil => rfl
  | cons b r =>
    generalize hz : ([] : Tlm.Row) = z at this
    cases this with
    | refl => cases hz
    | step a u =>
      obtain ⟨x, y, v, e⟩ := u.na
      subst hz
      exact absurd (cut_iff _ _ |>.mpr ((a.trans (Ab.one u)))) (fun h => by
        generalize hw : b :: r = w at h
        generalize hz : ([] : Tlm.Row) = z at h
        cases h with
        | nil => cases hw
        | snoc _ _ => simp at hz)
theorem cut_snoc {w o : Tlm.Row} {c : Bool} (h : Cut w (o ++ [c])) : ∃ u p, w = u ++ p ∧ Cut u o ∧ Ab [c] p := by
  generalize hz : o ++ [c] = z at h
  cases h with
  | nil => simp at hz
  | snoc h1 h2 =>
    obtain ⟨rfl, e⟩ := List.append_inj' hz rfl
    cases e
    exact ⟨_, _, rfl, h1, h2⟩
theorem ab_ne {c : Bool} {p : Tlm.Row} (h : Ab [c] p) : p ≠ [] := by
  have := h.len
  intro z
  subst z
  simp at this
/-- the turn's numbers fit -/
theorem fits_iff {u p o : Tlm.Row} {c : Bool} (h : Cut u o) (W : Int) (hW : W % 3 = tot (u ++ p) % 3) : (W - tot o - sv c) % 3 = 0 ↔ ∃ k : Int, tot p = sv c + 3 * k := by
  obtain ⟨j, e⟩ := h.ab.tot
  rw [tot_app] at hW
  constructor
  · intro z
    exact ⟨(tot p - sv c) / 3, by omega⟩
  · rintro ⟨k, ek⟩
    omega
theorem snoc_cases (p : Tlm.Row) : p = [] ∨ ∃ q c, p = q ++ [c] := by
  rcases List.eq_nil_or_concat p with h | ⟨q, c, h⟩
  · exact .inl h
  · exact .inr ⟨q, c, by simpa using h⟩
theorem take_next {d : Tlm.Row} {m : Nat} {c : Bool} (h : d[m]? = some c) : d.take (m + 1) = d.take m ++ [c] := take_snoc h
theorem mem_mv {d : Tlm.Row} {m k : Nat} {b c : Bool} {last whole : Int} (hc : d[m]? = some c) (x : Nat × Nat) : x ∈ mv d m k b last whole ↔
    x = (m, if k = 0 then 1 else if k = 2 ∨ sv b = last then 2 else 1) ∨ (x = (m + 1, 0) ∧ (((whole - tot (d.take m) - sv c) % 3 = 0 ∧ (if k = 0 then 1 else if k = 2 ∨ sv b = last then 2 else 1) = 2) ∨ (k = 0 ∧ b = c))) := by
  unfold mv
  rw [hc]
  dsimp only
  rw [List.mem_cons]
  constructor
  · rintro (h | h)
    · exact .inl h
    · by_cases hh : ((whole - tot (d.take m) - sv c) % 3 = 0 ∧ (if k = 0 then 1 else if k = 2 ∨ sv b = last then 2 else 1) = 2) ∨ (k = 0 ∧ b = c)
      · rw [if_pos hh] at h
        exact .inr ⟨List.mem_singleton.mp h, hh⟩
      · rw [if_neg hh] at h
        cases h
  · rintro (h | ⟨h, hh⟩)
    · exact .inl h
    · right; rw [if_pos hh, h]; exact List.mem_singleton.mpr rfl
theorem mv_none {d : Tlm.Row} {m k : Nat} {b : Bool} {last whole : Int} (hc : d[m]? = none) : mv d m k b last whole = [] := by
  unfold mv
  rw [hc]
theorem pl_go {d w : Tlm.Row} {m k m' k' : Nat} {b : Bool} {W : Int} (hW : W % 3 = tot (w ++ [b]) % 3) (h : Pl d w m k) (hm : (m', k') ∈ mv d m k b (lst w) W) : Pl d (w ++ [b]) m' k' := by
  obtain ⟨u, p, rfl, hcut, hmd, hp⟩ := h
  cases hc : d[m]? with
  | none => rw [mv_none hc] at hm; cases hm
  | some c =>
    have hlt : m < d.length := (List.getElem?_eq_some_iff.mp hc).1
    rw [List.append_assoc] at hW ⊢
    rcases (mem_mv hc _).mp hm with e | ⟨e, hh⟩
    · injection e with e1 e2
      subst e1
      refine ⟨u, p ++ [b], rfl, hcut, hmd, ?_⟩
      rcases hp with ⟨rfl, rfl⟩ | ⟨rfl, h1, h2, _⟩ | ⟨rfl, h1, _⟩
      · exact .inr (.inl ⟨by simpa using e2, by simp, na_one b, hlt⟩)
      · rcases snoc_cases p with rfl | ⟨q, x, rfl⟩
        · exact absurd rfl h1
        · rw [lst_of] at e2
          by_cases hx : x = b
          · refine .inr (.inr ⟨by simpa [hx] using e2, na_snoc2.mpr (.inr hx), hlt⟩)
          · have : ¬ sv b = sv x := fun z => hx (sv_inj z.symm)
            refine .inr (.inl ⟨by simpa [this] using e2, by simp, fun z => ?_, hlt⟩)
            rcases na_snoc2.mp z with z | z
            · exact h2 z
            · exact hx z
      · exact .inr (.inr ⟨by simpa using e2, na_more h1 b, hlt⟩)
    · injection e with e1 e2
      subst e1; subst e2
      refine ⟨u ++ (p ++ [b]), [], by simp, ?_, hlt, .inl ⟨rfl, rfl⟩⟩
      rw [take_next hc]
      refine .snoc hcut ((ab_step_iff _ _).mpr ?_)
      rcases hh with ⟨hf, hk⟩ | ⟨rfl, rfl⟩
      · refine .inr ⟨?_, (fits_iff hcut W hW).mp hf⟩
        rcases hp with ⟨rfl, rfl⟩ | ⟨rfl, h1, h2, _⟩ | ⟨rfl, h1, _⟩
        · simp at hk
        · rcases snoc_cases p with rfl | ⟨q, x, rfl⟩
          · exact absurd rfl h1
          · rw [lst_of] at hk
            by_cases hx : x = b
            · exact na_snoc2.mpr (.inr hx)
            · have : ¬ sv b = sv x := fun z => hx (sv_inj z.symm)
              simp [this] at hk
        · exact na_more h1 b
      · rcases hp with ⟨_, rfl⟩ | ⟨h, _⟩ | ⟨h, _⟩
        · exact .inl rfl
        · cases h
        · cases h
theorem pl_back {d w : Tlm.Row} {m' k' : Nat} {b : Bool} {W : Int} (hW : W % 3 = tot (w ++ [b]) % 3) (h : Pl d (w ++ [b]) m' k') : ∃ m k, Pl d w m k ∧ (m', k') ∈ mv d m k b (lst w) W ∧ m' ≤ m + 1 := by
  obtain ⟨u, p, e, hcut, hmd, hp⟩ := h
  rcases hp with ⟨rfl, rfl⟩ | ⟨rfl, h1, h2, hlt⟩ | ⟨rfl, h1, hlt⟩
  · rw [List.append_nil] at e
    subst e
    cases m' with
    | zero => rw [List.take_zero] at hcut; have := cut_nil hcut; simp at this
    | succ m =>
      have hlt : m < d.length := hmd
      have hc : d[m]? = some d[m] := List.getElem?_eq_getElem hlt
      rw [take_next hc] at hcut
      obtain ⟨u, p', e, h1, h2⟩ := cut_snoc hcut
      rcases snoc_cases p' with rfl | ⟨p, x, rfl⟩
      · exact absurd rfl (ab_ne h2)
      · rw [← List.append_assoc] at e
        obtain ⟨rfl, ex⟩ := List.append_inj' e rfl
        cases ex
        rw [List.append_assoc] at hW
        rcases (ab_step_iff _ _).mp h2 with z | ⟨hn, hk⟩
        · have : p = [] ∧ b = d[m] := by
            cases p with
            | nil => simpa using z
            | cons y p => simp at z
          obtain ⟨rfl, hb⟩ := this
          exact ⟨m, 0, ⟨u, [], rfl, h1, Nat.le_of_lt hlt, .inl ⟨rfl, rfl⟩⟩, (mem_mv hc _).mpr (.inr ⟨rfl, .inr ⟨rfl, hb⟩⟩), Nat.le_refl _⟩
        · have hf := (fits_iff h1 W hW).mpr hk
          rcases snoc_cases p with rfl | ⟨q, y, rfl⟩
          · exact absurd hn (na_one b)
          · by_cases hq : Na (q ++ [y])
            · exact ⟨m, 2, ⟨u, _, rfl, h1, Nat.le_of_lt hlt, .inr (.inr ⟨rfl, hq, hlt⟩)⟩, (mem_mv hc _).mpr (.inr ⟨rfl, .inl ⟨hf, by simp⟩⟩), Nat.le_refl _⟩
            · have hy : y = b := by rcases na_snoc2.mp hn with z | z; exact absurd z hq; exact z
              exact ⟨m, 1, ⟨u, _, rfl, h1, Nat.le_of_lt hlt, .inr (.inl ⟨rfl, by simp, hq, hlt⟩)⟩, (mem_mv hc _).mpr (.inr ⟨rfl, .inl ⟨hf, by rw [lst_of, hy]; simp⟩⟩), Nat.le_refl _⟩
  · have hc : d[m']? = some d[m'] := List.getElem?_eq_getElem hlt
    rcases snoc_cases p with rfl | ⟨p, x, rfl⟩
    · exact absurd rfl h1
    · rw [← List.append_assoc] at e
      obtain ⟨rfl, ex⟩ := List.append_inj' e rfl
      cases ex
      rcases snoc_cases p with rfl | ⟨q, y, rfl⟩
      · exact ⟨m', 0, ⟨u, [], rfl, hcut, hmd, .inl ⟨rfl, rfl⟩⟩, (mem_mv hc _).mpr (.inl (by simp)), by omega⟩
      · have h3 : ¬ Na (q ++ [y]) := fun z => h2 (na_more z b)
        have h4 : ¬ sv b = sv y := fun z => h2 (na_snoc2.mpr (.inr (sv_inj z).symm))
        exact ⟨m', 1, ⟨u, _, rfl, hcut, hmd, .inr (.inl ⟨rfl, by simp, h3, hlt⟩)⟩, (mem_mv hc _).mpr (.inl (by rw [lst_of]; simp [h4])), by omega⟩
  · have hc : d[m']? = some d[m'] := List.getElem?_eq_getElem hlt
    rcases snoc_cases p with rfl | ⟨p, x, rfl⟩
    · exact absurd rfl (na_ne h1)
    · rw [← List.append_assoc] at e
      obtain ⟨rfl, ex⟩ := List.append_inj' e rfl
      cases ex
      rcases snoc_cases p with rfl | ⟨q, y, rfl⟩
      · exact absurd h1 (na_one b)
      · by_cases hq : Na (q ++ [y])
        · exact ⟨m', 2, ⟨u, _, rfl, hcut, hmd, .inr (.inr ⟨rfl, hq, hlt⟩)⟩, (mem_mv hc _).mpr (.inl (by simp)), by omega⟩
        · have hy : y = b := by rcases na_snoc2.mp h1 with z | z; exact absurd z hq; exact z
          exact ⟨m', 1, ⟨u, _, rfl, hcut, hmd, .inr (.inl ⟨rfl, by simp, hq, hlt⟩)⟩, (mem_mv hc _).mpr (.inl (by rw [lst_of, hy]; simp)), by omega⟩
theorem pl_start (d : Tlm.Row) : Pl d [] 0 0 := ⟨[], [], rfl, by rw [List.take_zero]; exact .nil, Nat.zero_le _, .inl ⟨rfl, rfl⟩⟩
theorem pl_nil {d : Tlm.Row} {m k : Nat} (h : Pl d [] m k) : m = 0 ∧ k = 0 := by
  obtain ⟨u, p, e, hcut, hmd, hp⟩ := h
  have hu : u = [] := by cases u with | nil => rfl | cons x r => cases e
  have hp0 : p = [] := by subst hu; simpa using e.symm
  subst hu; subst hp0
  rcases hp with ⟨rfl, _⟩ | ⟨_, h, _⟩ | ⟨_, h, _⟩
  · refine ⟨?_, rfl⟩
    cases m with
    | zero => rfl
    | succ m =>
      have hc : d[m]? = some d[m] := List.getElem?_eq_getElem hmd
      rw [take_next hc] at hcut
      obtain ⟨u, p, e, _, h2⟩ := cut_snoc hcut
      have : p = [] := by cases u <;> cases p <;> first | rfl | cases e
      exact absurd this (ab_ne h2)
  · exact absurd rfl h
  · exact absurd rfl (na_ne h)
/-- at the goal: above -/
theorem pl_goal (d w : Tlm.Row) : Pl d w d.length 0 ↔ Ab d w := by
  constructor
  · rintro ⟨u, p, rfl, hcut, hmd, hp⟩
    rcases hp with ⟨_, rfl⟩ | ⟨h, _⟩ | ⟨h, _⟩
    · rw [List.take_length] at hcut
      rw [List.append_nil]
      exact hcut.ab
    · cases h
    · cases h
  · intro h
    exact ⟨w, [], by simp, by rw [List.take_length]; exact (cut_iff _ _).mpr h, Nat.le_refl _, .inl ⟨rfl, rfl⟩⟩
theorem Pl.le {d w : Tlm.Row} {m k : Nat} (h : Pl d w m k) : m ≤ d.length := by
  obtain ⟨u, p, e, hcut, hmd, hp⟩ := h
  exact hmd
end TW

set_option Elab.async false
set_option linter.all false
set_option maxRecDepth 100000
/-! The mathematics of the law, fourth part: the two moves side by side, level by level. No program here. -/
namespace TW
open PySem Tlm L2

/-- the two places, the last step, the whole -/
abbrev Ky := (Nat × Nat) × (Nat × Nat) × Int × Int
def Cf (d1 d2 w : Tlm.Row) (q : Ky) : Prop := Pl d1 w q.1.1 q.1.2 ∧ Pl d2 w q.2.1.1 q.2.1.2 ∧ q.2.2.1 = lst w ∧ q.2.2.2 = tot w % 3
def nxw (q : Ky) (b : Bool) : Int := (q.2.2.2 + sv b) % 3
def nx1 (d1 : Tlm.Row) (q : Ky) (b : Bool) : List (Nat × Nat) := mv d1 q.1.1 q.1.2 b q.2.2.1 (nxw q b)
def nx2 (d2 : Tlm.Row) (q : Ky) (b : Bool) : List (Nat × Nat) := mv d2 q.2.1.1 q.2.1.2 b q.2.2.1 (nxw q b)
def nxh (d2 : Tlm.Row) (q : Ky) (b : Bool) (h : Nat × Nat) : List Ky := (nx2 d2 q b).map fun t => (h, t, sv b, nxw q b)
def nxs (d1 d2 : Tlm.Row) (q : Ky) (b : Bool) : List Ky := (nx1 d1 q b).flatMap (nxh d2 q b)
theorem mem_nxs {d1 d2 : Tlm.Row} {q x : Ky} {b : Bool} : x ∈ nxs d1 d2 q b ↔ x.1 ∈ nx1 d1 q b ∧ x.2.1 ∈ nx2 d2 q b ∧ x.2.2 = (sv b, nxw q b) := by
  unfold nxs nxh
  rw [List.mem_flatMap]
  constructor
  · rintro ⟨h, hh, ht⟩
    obtain ⟨t, h2, rfl⟩ := List.mem_map.mp ht
    exact ⟨hh, h2, rfl⟩
  · rintro ⟨h1, h2, h3⟩
    refine ⟨x.1, h1, List.mem_map.mpr ⟨x.2.1, h2, ?_⟩⟩
    rw [← h3]
theorem tot_snoc (w : Tlm.Row) (b : Bool) : tot (w ++ [b]) = tot w + sv b := by
  rw [tot_app]
  show _ + (sv b + 0) = _
  omega
theorem cf_go {d1 d2 w : Tlm.Row} {q x : Ky} {b : Bool} (h : Cf d1 d2 w q) (hx : x ∈ nxs d1 d2 q b) : Cf d1 d2 (w ++ [b]) x := by
  obtain ⟨h1, h2, h3, h4⟩ := h
  obtain ⟨x1, x2, x3⟩ := mem_nxs.mp hx
  have hW : nxw q b % 3 = tot (w ++ [b]) % 3 := by unfold nxw; rw [tot_snoc, h4]; omega
  unfold nx1 at x1
  unfold nx2 at x2
  rw [h3] at x1 x2
  refine ⟨pl_go hW h1 x1, pl_go hW h2 x2, by rw [x3, lst_snoc], ?_⟩
  rw [x3]
  show nxw q b = _
  rw [← hW]
  unfold nxw
  omega
theorem cf_back {d1 d2 w : Tlm.Row} {x : Ky} {b : Bool} (h : Cf d1 d2 (w ++ [b]) x) : ∃ q, Cf d1 d2 w q ∧ x ∈ nxs d1 d2 q b ∧ x.1.1 ≤ q.1.1 + 1 ∧ x.2.1.1 ≤ q.2.1.1 + 1 := by
  obtain ⟨h1, h2, h3, h4⟩ := h
  have hW : (tot w % 3 + sv b) % 3 % 3 = tot (w ++ [b]) % 3 := by rw [tot_snoc]; omega
  obtain ⟨m, k, p1, p2, p3⟩ := pl_back hW h1
  obtain ⟨m', k', r1, r2, r3⟩ := pl_back hW h2
  refine ⟨((m, k), (m', k'), lst w, tot w % 3), ⟨p1, r1, rfl, rfl⟩, mem_nxs.mpr ⟨p2, r2, ?_⟩, p3, r3⟩
  obtain ⟨x1, x2, x3, x4⟩ := x
  simp only at h3 h4
  rw [h3, h4, lst_snoc]
  have e : tot (w ++ [b]) % 3 = nxw ((m, k), (m', k'), lst w, tot w % 3) b := by
    rw [← hW]
    unfold nxw
    show (tot w % 3 + sv b) % 3 % 3 = (tot w % 3 + sv b) % 3
    omega
  rw [e]
def ky0 : Ky := ((0, 0), (0, 0), 0, 0)
theorem cf_nil {d1 d2 : Tlm.Row} {q : Ky} (h : Cf d1 d2 [] q) : q = ky0 := by
  obtain ⟨⟨m, k⟩, ⟨m', k'⟩, x, y⟩ := q
  obtain ⟨h1, h2, h3, h4⟩ := h
  obtain ⟨rfl, rfl⟩ := pl_nil h1
  obtain ⟨rfl, rfl⟩ := pl_nil h2
  simp only at h3 h4
  subst h3; subst h4
  rfl
theorem cf_start (d1 d2 : Tlm.Row) : Cf d1 d2 [] ky0 := ⟨pl_start d1, pl_start d2, rfl, rfl⟩
/-- both are made whole -/
def Gl2 (d1 d2 : Tlm.Row) (q : Ky) : Prop := q.1 = (d1.length, 0) ∧ q.2.1 = (d2.length, 0)
theorem cf_goal {d1 d2 w : Tlm.Row} {q : Ky} (h : Cf d1 d2 w q) (g : Gl2 d1 d2 q) : Ab d1 w ∧ Ab d2 w := by
  obtain ⟨h1, h2, _⟩ := h
  rw [g.1] at h1
  rw [g.2] at h2
  exact ⟨(pl_goal _ _).mp h1, (pl_goal _ _).mp h2⟩
theorem cf_above {d1 d2 w : Tlm.Row} (h1 : Ab d1 w) (h2 : Ab d2 w) : ∃ q, Cf d1 d2 w q ∧ Gl2 d1 d2 q :=
  ⟨((d1.length, 0), (d2.length, 0), lst w, tot w % 3), ⟨(pl_goal _ _).mpr h1, (pl_goal _ _).mpr h2, rfl, rfl⟩, rfl, rfl⟩

/-- what is seen: each with the place it was found from -/
abbrev Seen := List (Ky × Option (Ky × Bool))
inductive Bk (S : Seen) : Ky → Tlm.Row → Prop
  | nil {q : Ky} : (q, none) ∈ S → Bk S q []
  | snoc {q q0 : Ky} {b : Bool} {w : Tlm.Row} : (q, some (q0, b)) ∈ S → Bk S q0 w → Bk S q (w ++ [b])
theorem Bk.mono {S S' : Seen} (h : ∀ x ∈ S, x ∈ S') {q : Ky} {w : Tlm.Row} (b : Bk S q w) : Bk S' q w := by
  induction b with
  | nil e => exact .nil (h _ e)
  | snoc e _ ih => exact .snoc (h _ e) ih
/-- all that L steps reach is seen; R: those whose moves are not followed yet -/
structure Lv (d1 d2 : Tlm.Row) (S : Seen) (R : List Ky) (L : Nat) : Prop where
  back : ∀ q ∈ S.map (·.1), ∃ w, Bk S q w ∧ w.length ≤ L ∧ Cf d1 d2 w q
  all : ∀ w q, w.length ≤ L → Cf d1 d2 w q → q ∈ S.map (·.1)
  old : ∀ q ∈ S.map (·.1), q ∈ R ∨ ∀ b, ∀ x ∈ nxs d1 d2 q b, x ∈ S.map (·.1)
  rim : ∀ q ∈ R, q ∈ S.map (·.1)
  nog : ∀ q ∈ S.map (·.1), ¬ Gl2 d1 d2 q
theorem Lv.start {d1 d2 : Tlm.Row} (h : 1 ≤ d1.length) : Lv d1 d2 [(ky0, none)] [ky0] 0 where
  back := fun q hq => ⟨[], .nil (by simp at hq ⊢; exact hq), Nat.le_refl _, by simp at hq; subst hq; exact cf_start _ _⟩
  all := fun w q hw hc => by
    have : w = [] := List.length_eq_zero_iff.mp (by omega)
    subst this
    rw [cf_nil hc]
    exact List.mem_singleton.mpr rfl
  old := fun q hq => .inl hq
  rim := fun q hq => hq
  nog := fun q hq g => by
    simp at hq
    subst hq
    have := g.1
    simp [ky0] at this
    omega
/-- the level's row is not as long as any row above both -/
theorem Lv.short {d1 d2 : Tlm.Row} {S : Seen} {R : List Ky} {L : Nat} (h : Lv d1 d2 S R L) {u : Tlm.Row} (h1 : Ab d1 u) (h2 : Ab d2 u) : L < u.length := by
  rcases Nat.lt_or_ge L u.length with z | z
  · exact z
  · obtain ⟨q, c, g⟩ := cf_above h1 h2
    exact absurd g (h.nog q (h.all u q z c))
/-- within a level: A was found, Dn is followed -/
structure Md (d1 d2 : Tlm.Row) (S : Seen) (R : List Ky) (A : Seen) (Dn : List Ky) : Prop where
  new : ∀ x ∈ A, ∃ q0 b, q0 ∈ R ∧ x.2 = some (q0, b) ∧ x.1 ∈ nxs d1 d2 q0 b
  done : ∀ q ∈ Dn, q ∈ (S ++ A).map (·.1)
  nog : ∀ q ∈ A.map (·.1), ¬ Gl2 d1 d2 q
theorem Md.start (d1 d2 : Tlm.Row) (S : Seen) (R : List Ky) : Md d1 d2 S R [] [] := ⟨fun _ h => absurd h List.not_mem_nil, fun _ h => absurd h List.not_mem_nil, fun _ h => absurd h List.not_mem_nil⟩
theorem Md.same {d1 d2 : Tlm.Row} {S A : Seen} {R Dn Dn' : List Ky} (h : Md d1 d2 S R A Dn) (e : ∀ q ∈ Dn', q ∈ Dn) : Md d1 d2 S R A Dn' := ⟨h.new, fun q hq => h.done q (e q hq), h.nog⟩
theorem Md.skip {d1 d2 : Tlm.Row} {S A : Seen} {R Dn : List Ky} {q : Ky} (h : Md d1 d2 S R A Dn) (e : q ∈ (S ++ A).map (·.1)) : Md d1 d2 S R A (Dn ++ [q]) :=
  ⟨h.new, fun x hx => by rcases List.mem_append.mp hx with z | z; exact h.done x z; rw [List.mem_singleton.mp z]; exact e, h.nog⟩
theorem Md.add {d1 d2 : Tlm.Row} {S A : Seen} {R Dn : List Ky} {q q0 : Ky} {b : Bool} (h : Md d1 d2 S R A Dn) (h0 : q0 ∈ R) (hn : q ∈ nxs d1 d2 q0 b) (hg : ¬ Gl2 d1 d2 q) : Md d1 d2 S R (A ++ [(q, some (q0, b))]) (Dn ++ [q]) := by
  refine ⟨fun x hx => ?_, fun x hx => ?_, fun x hx => ?_⟩
  · rcases List.mem_append.mp hx with z | z
    · exact h.new x z
    · rw [List.mem_singleton.mp z]
      exact ⟨q0, b, h0, rfl, hn⟩
  · rw [← List.append_assoc, List.map_append]
    rcases List.mem_append.mp hx with z | z
    · exact List.mem_append_left _ (h.done x z)
    · rw [List.mem_singleton.mp z]
      exact List.mem_append_right _ (List.mem_singleton.mpr rfl)
  · rw [List.map_append] at hx
    rcases List.mem_append.mp hx with z | z
    · exact h.nog x z
    · rw [List.mem_singleton.mp z]
      exact hg
theorem Md.word {d1 d2 : Tlm.Row} {S A : Seen} {R Dn : List Ky} {L : Nat} (v : Lv d1 d2 S R L) (h : Md d1 d2 S R A Dn) {x : Ky × Option (Ky × Bool)} (hx : x ∈ A) : ∃ w, Bk (S ++ A) x.1 w ∧ w.length ≤ L + 1 ∧ Cf d1 d2 w x.1 := by
  obtain ⟨q0, b, h0, e, hn⟩ := h.new x hx
  obtain ⟨w, k1, k2, k3⟩ := v.back q0 (v.rim q0 h0)
  refine ⟨w ++ [b], .snoc (q0 := q0) ?_ (k1.mono fun y hy => List.mem_append_left _ hy), by simp; omega, cf_go k3 hn⟩
  rw [← e]
  exact List.mem_append_right _ hx
theorem Md.level {d1 d2 : Tlm.Row} {S A : Seen} {R Dn : List Ky} {L : Nat} (v : Lv d1 d2 S R L) (h : Md d1 d2 S R A Dn) (hd : ∀ q ∈ R, ∀ b, ∀ x ∈ nxs d1 d2 q b, x ∈ Dn) : Lv d1 d2 (S ++ A) (A.map (·.1)) (L + 1) := by
  have sub : ∀ q, q ∈ S.map (·.1) → q ∈ (S ++ A).map (·.1) := fun q hq => by rw [List.map_append]; exact List.mem_append_left _ hq
  have succ : ∀ q ∈ S.map (·.1), ∀ b, ∀ x ∈ nxs d1 d2 q b, x ∈ (S ++ A).map (·.1) := fun q hq b x hx => by
    rcases v.old q hq with z | z
    · exact h.done x (hd q z b x hx)
    · exact sub x (z b x hx)
  refine ⟨fun q hq => ?_, fun w q hw hc => ?_, fun q hq => ?_, fun q hq => ?_, fun q hq => ?_⟩
  · rw [List.map_append] at hq
    rcases List.mem_append.mp hq with z | z
    · obtain ⟨w, k1, k2, k3⟩ := v.back q z
      exact ⟨w, k1.mono fun y hy => List.mem_append_left _ hy, by omega, k3⟩
    · obtain ⟨x, hx, rfl⟩ := List.mem_map.mp z
      exact h.word v hx
  · rcases snoc_cases w with rfl | ⟨w', b, rfl⟩
    · exact sub q (v.all [] q (Nat.zero_le _) hc)
    · obtain ⟨q0, c0, hx, _⟩ := cf_back hc
      exact succ q0 (v.all w' q0 (by simp at hw; omega) c0) b q hx
  · rw [List.map_append] at hq
    rcases List.mem_append.mp hq with z | z
    · exact .inr (succ q z)
    · exact .inl z
  · rw [List.map_append]
    exact List.mem_append_right _ hq
  · rw [List.map_append] at hq
    rcases List.mem_append.mp hq with z | z
    · exact v.nog q z
    · exact h.nog q z
/-- the goal found: a least row above both -/
theorem Md.found {d1 d2 : Tlm.Row} {S A : Seen} {R Dn : List Ky} {L : Nat} {q q0 : Ky} {b : Bool} (v : Lv d1 d2 S R L) (h : Md d1 d2 S R A Dn) (h0 : q0 ∈ R) (hn : q ∈ nxs d1 d2 q0 b) (hg : Gl2 d1 d2 q) :
    ∃ w, Bk (S ++ A ++ [(q, some (q0, b))]) q w ∧ Ab d1 w ∧ Ab d2 w ∧ ∀ u, Ab d1 u → Ab d2 u → w.length ≤ u.length := by
  obtain ⟨w, k1, k2, k3⟩ := v.back q0 (v.rim q0 h0)
  have hc := cf_go k3 hn
  obtain ⟨a1, a2⟩ := cf_goal hc hg
  refine ⟨w ++ [b], .snoc (q0 := q0) (List.mem_append_right _ (List.mem_singleton.mpr rfl)) (k1.mono fun y hy => by rw [List.append_assoc]; exact List.mem_append_left _ hy), a1, a2, fun u u1 u2 => ?_⟩
  have := v.short u1 u2
  simp
  omega
/-- each key that a row reaches is one of few -/
def Few (n : Nat) (q : Ky) : Prop := q.1.1 ≤ n ∧ q.1.2 ≤ 2 ∧ q.2.1.1 ≤ n ∧ q.2.1.2 ≤ 2 ∧ -1 ≤ q.2.2.1 ∧ q.2.2.1 ≤ 1 ∧ 0 ≤ q.2.2.2 ∧ q.2.2.2 ≤ 2
theorem Pl.few {d w : Tlm.Row} {m k : Nat} (h : Pl d w m k) : k ≤ 2 := by
  obtain ⟨u, p, e, hcut, hmd, hp⟩ := h
  rcases hp with ⟨h, _⟩ | ⟨h, _⟩ | ⟨h, _⟩ <;> omega
theorem lst_few (w : Tlm.Row) : -1 ≤ lst w ∧ lst w ≤ 1 := by
  unfold lst
  cases w.getLast? with
  | none => exact ⟨by decide, by decide⟩
  | some b => cases b <;> exact ⟨by decide, by decide⟩
theorem Cf.few {d1 d2 w : Tlm.Row} {q : Ky} {n : Nat} (h : Cf d1 d2 w q) (h1 : d1.length ≤ n) (h2 : d2.length ≤ n) : Few n q := by
  obtain ⟨p1, p2, p3, p4⟩ := h
  have := p1.le; have := p2.le; have := p1.few; have := p2.few; have := lst_few w
  refine ⟨by omega, by omega, by omega, by omega, by omega, by omega, by omega, by omega⟩
def kyNum (q : Ky) : Nat := ((q.1.1 * 3 + q.1.2) * 33 + (q.2.1.1 * 3 + q.2.1.2)) * 9 + ((q.2.2.1 + 1).toNat * 3 + q.2.2.2.toNat)
theorem kyNum_lt {q : Ky} (h : Few 10 q) : kyNum q < 9801 := by
  obtain ⟨⟨m, k⟩, ⟨m', k'⟩, x, y⟩ := q
  obtain ⟨h1, h2, h3, h4, h5, h6, h7, h8⟩ := h
  simp only at h1 h2 h3 h4 h5 h6 h7 h8
  unfold kyNum
  show ((m * 3 + k) * 33 + (m' * 3 + k')) * 9 + ((x + 1).toNat * 3 + y.toNat) < 9801
  omega
theorem kyNum_inj {q r : Ky} (h : Few 10 q) (g : Few 10 r) (e : kyNum q = kyNum r) : q = r := by
  obtain ⟨⟨m, k⟩, ⟨m', k'⟩, x, y⟩ := q
  obtain ⟨⟨n, l⟩, ⟨n', l'⟩, u, v⟩ := r
  obtain ⟨h1, h2, h3, h4, h5, h6, h7, h8⟩ := h
  obtain ⟨g1, g2, g3, g4, g5, g6, g7, g8⟩ := g
  simp only at h1 h2 h3 h4 h5 h6 h7 h8 g1 g2 g3 g4 g5 g6 g7 g8
  unfold kyNum at e
  replace e : ((m * 3 + k) * 33 + (m' * 3 + k')) * 9 + ((x + 1).toNat * 3 + y.toNat) = ((n * 3 + l) * 33 + (n' * 3 + l')) * 9 + ((u + 1).toNat * 3 + v.toNat) := e
  have e1 : m = n := by omega
  have e2 : k = l := by omega
  have e3 : m' = n' := by omega
  have e4 : k' = l' := by omega
  have e5 : x = u := by omega
  have e6 : y = v := by omega
  rw [e1, e2, e3, e4, e5, e6]
theorem few_len {qs : List Ky} (hn : qs.Nodup) (h : ∀ q ∈ qs, Few 10 q) : qs.length ≤ 9801 := by
  have := nat_nodup_len (qs.map kyNum) (List.range 9801) ?_ ?_
  · rw [List.length_map, List.length_range] at this
    exact this
  · refine List.pairwise_map.mpr (List.Pairwise.imp_of_mem (fun {a b} ha hb hab e => hab (kyNum_inj (h a ha) (h b hb) e)) hn)
  · intro x hx
    obtain ⟨q, hq, rfl⟩ := List.mem_map.mp hx
    exact List.mem_range.mpr (kyNum_lt (h q hq))
end TW

set_option Elab.async false
set_option linter.all false
set_option maxRecDepth 100000
set_option maxHeartbeats 4000000
/-! The walk, fourth part: what is seen, over the heap; the way back. -/
namespace TW
open PySem
open PySem.Spec PyProof.Rows L2 Evl Tlm

theorem Ex.tups {H H' : Hp} (e : Ex H H') : Tups H H' := fun a xs h => e a _ h
theorem DN.ex' {P : Program} {w : World} {H H' : Hp} {d : Addr} {o : Obj} {kvs : List (NestedKey × V)} (D : DN P w H d o kvs) (e : Ex H H') : DN P w H' d o kvs := D.mono (e _ _ D.here) (Ex.tups e)
theorem rv_nget {P : Program} {w : World} {H : Hp} {d b : Addr} {o : Obj} {kvs : List (NestedKey × V)} {k : NestedKey} {v : V} (D : DN P w H d o kvs) (hk : Nk H k (.ref b)) (hd : k.depth ≤ 8) (e : valV kvs k = some v) : RV (rNGet P w) (.ref d) (.ref b) H v :=
  fun H1 e1 Q q => ⟨v, ⟨d, o, kvs, k, rfl, D.ex' e1, hk.mono (Ex.tups e1), ⟨b, rfl⟩, hd, e.symm⟩, q H1 (Ex.refl H1)⟩
theorem rv_nnin {P : Program} {w : World} {H : Hp} {d b : Addr} {o : Obj} {kvs : List (NestedKey × V)} {k : NestedKey} (D : DN P w H d o kvs) (hk : Nk H k (.ref b)) (hd : k.depth ≤ 8) : RV (rNNotIn P w) (.ref b) (.ref d) H (.bl (!(valV kvs k).isSome)) :=
  fun H1 e1 Q q => ⟨valV kvs k, ⟨d, o, kvs, k, rfl, D.ex' e1, hk.mono (Ex.tups e1), ⟨b, rfl⟩, hd, rfl⟩, q H1 (Ex.refl H1)⟩
theorem rv_nin {P : Program} {w : World} {H : Hp} {d b : Addr} {o : Obj} {kvs : List (NestedKey × V)} {k : NestedKey} (D : DN P w H d o kvs) (hk : Nk H k (.ref b)) (hd : k.depth ≤ 8) : RV (rNIn P w) (.ref b) (.ref d) H (.bl (valV kvs k).isSome) :=
  fun H1 e1 Q q => ⟨valV kvs k, ⟨d, o, kvs, k, rfl, D.ex' e1, hk.mono (Ex.tups e1), ⟨b, rfl⟩, hd, rfl⟩, q H1 (Ex.refl H1)⟩

/-- keys as nested tuples -/
def kn (x : Nat × Nat) : NestedKey := .tup [.num (x.1 : Nat), .num (x.2 : Nat)]
def kp2 (x y : Nat × Nat) : NestedKey := .tup [kn x, kn y]
def kk (q : Ky) : NestedKey := .tup [kp2 q.1 q.2.1, .num q.2.2.1, .num q.2.2.2]
theorem kn_inj {x y : Nat × Nat} (e : kn x = kn y) : x = y := by
  unfold kn at e
  injection e with e
  injection e with e1 e
  injection e with e2 e
  injection e1 with e1
  injection e2 with e2
  exact Prod.ext (by omega) (by omega)
theorem kp2_inj {x y x' y' : Nat × Nat} (e : kp2 x y = kp2 x' y') : x = x' ∧ y = y' := by
  unfold kp2 at e
  injection e with e
  injection e with e1 e
  injection e with e2 e
  exact ⟨kn_inj e1, kn_inj e2⟩
theorem kk_inj {q r : Ky} (e : kk q = kk r) : q = r := by
  obtain ⟨x, y, l, v⟩ := q
  obtain ⟨x', y', l', v'⟩ := r
  unfold kk at e
  injection e with e
  injection e with e1 e
  injection e with e2 e
  injection e with e3 e
  obtain ⟨rfl, rfl⟩ := kp2_inj e1
  injection e2 with e2
  injection e3 with e3
  simp only at e2 e3
  rw [e2, e3]
theorem kk_depth (q : Ky) : (kk q).depth ≤ 8 := by simp [kk, kp2, kn, NestedKey.depth, NestedKey.depthAll]
theorem kp2_depth (x y : Nat × Nat) : (kp2 x y).depth ≤ 8 := by simp [kp2, kn, NestedKey.depth, NestedKey.depthAll]
/-- a pair of counts stands at a -/
abbrev At2 (H : Hp) (a : Addr) (x : Nat × Nat) : Prop := H a = some (.tup [.int (x.1 : Nat), .int (x.2 : Nat)])
theorem At2.nk {H : Hp} {a : Addr} {x : Nat × Nat} (h : At2 H a x) : Nk H (kn x) (.ref a) := .tup h (.cons (.num _) (.cons (.num _) .nil))
theorem nk_open {H : Hp} {a : Addr} {x : Nat × Nat} (h : Nk H (kn x) (.ref a)) : At2 H a x := by
  cases h with
  | tup h1 h2 =>
    cases h2 with
    | cons h3 h4 =>
      cases h3
      cases h4 with
      | cons h5 h6 =>
        cases h5
        cases h6
        exact h1
theorem nk2_make {H : Hp} {a l r : Addr} {x y : Nat × Nat} (h : H a = some (.tup [.ref l, .ref r])) (hl : At2 H l x) (hr : At2 H r y) : Nk H (kp2 x y) (.ref a) := .tup h (.cons (At2.nk hl) (.cons (At2.nk hr) .nil))
theorem nk2_open {H : Hp} {a : Addr} {x y : Nat × Nat} (h : Nk H (kp2 x y) (.ref a)) : ∃ l r, H a = some (.tup [.ref l, .ref r]) ∧ At2 H l x ∧ At2 H r y := by
  cases h with
  | tup h1 h2 =>
    cases h2 with
    | cons h3 h4 =>
      cases h4 with
      | cons h5 h6 =>
        cases h6
        cases h3 with
        | tup g1 g2 =>
          cases h5 with
          | tup f1 f2 => exact ⟨_, _, h1, nk_open (.tup g1 g2), nk_open (.tup f1 f2)⟩
theorem kk_make {H : Hp} {a b : Addr} {q : Ky} (h : H a = some (.tup [.ref b, .int q.2.2.1, .int q.2.2.2])) (hb : Nk H (kp2 q.1 q.2.1) (.ref b)) : Nk H (kk q) (.ref a) := .tup h (.cons hb (.cons (.num _) (.cons (.num _) .nil)))
theorem kk_open {H : Hp} {a : Addr} {q : Ky} (h : Nk H (kk q) (.ref a)) : ∃ b l r, H a = some (.tup [.ref b, .int q.2.2.1, .int q.2.2.2]) ∧ H b = some (.tup [.ref l, .ref r]) ∧ At2 H l q.1 ∧ At2 H r q.2.1 := by
  cases h with
  | tup h1 h2 =>
    cases h2 with
    | cons h3 h4 =>
      cases h4 with
      | cons h5 h6 =>
        cases h5
        cases h6 with
        | cons h7 h8 =>
          cases h7
          cases h8
          cases h3 with
          | tup g1 g2 =>
            obtain ⟨l, r, e1, e2, e3⟩ := nk2_open (.tup g1 g2)
            exact ⟨_, l, r, h1, e1, e2, e3⟩

/-- what is kept beside a key -/
def Sv (H : Hp) : Option (Ky × Bool) → V → Prop
  | none, v => v = .non
  | some (q, b), v => ∃ T pl, v = .ref T ∧ H T = some (.tup [.ref pl, .int (sv b)]) ∧ Nk H (kk q) (.ref pl)
theorem Sv.mono {H H' : Hp} (e : Tups H H') : ∀ {o : Option (Ky × Bool)} {v : V}, Sv H o v → Sv H' o v
  | none, _, h => h
  | some (q, b), v, ⟨T, pl, h1, h2, h3⟩ => ⟨T, pl, h1, e _ _ h2, h3.mono e⟩
def SnR (H : Hp) (kvs : List (NestedKey × V)) (S : Seen) : Prop := Paired (fun p x => p.1 = kk x.1 ∧ Sv H x.2 p.2) kvs S
theorem SnR.mono {H H' : Hp} (e : Tups H H') {kvs : List (NestedKey × V)} {S : Seen} (h : SnR H kvs S) : SnR H' kvs S := Paired.mapP h fun _ _ z => ⟨z.1, z.2.mono e⟩
theorem SnR.has {H : Hp} {kvs : List (NestedKey × V)} {S : Seen} (h : SnR H kvs S) (q : Ky) : (valV kvs (kk q)).isSome = true ↔ q ∈ S.map (·.1) := by
  induction h with
  | nil => simp [valV_nil]
  | @cons p x ps xs a _ ih =>
    by_cases e : x.1 = q
    · rw [valV_pos (a.1.trans (by rw [e]))]
      simp [e]
    · rw [valV_neg (fun z => e (kk_inj (a.1.symm.trans z))), ih]
      constructor
      · intro z; exact List.mem_cons_of_mem _ z
      · intro z
        rcases List.mem_cons.mp z with z | z
        · exact absurd z.symm e
        · exact z
theorem SnR.keys {H : Hp} {kvs : List (NestedKey × V)} {S : Seen} (h : SnR H kvs S) (hn : (kvs.map (·.1)).Nodup) : (S.map (·.1)).Nodup := by
  have e : kvs.map (·.1) = (S.map (·.1)).map kk := by
    clear hn
    induction h with
    | nil => rfl
    | cons a _ ih => rw [List.map_cons, ih, a.1]; rfl
  rw [e] at hn
  exact List.Pairwise.imp (fun hab e => hab (by rw [e])) (List.pairwise_map.mp hn)
theorem SnR.get {H : Hp} {kvs : List (NestedKey × V)} {S : Seen} (h : SnR H kvs S) (hn : (S.map (·.1)).Nodup) {q : Ky} {o : Option (Ky × Bool)} (hq : (q, o) ∈ S) : ∃ v, valV kvs (kk q) = some v ∧ Sv H o v := by
  induction h with
  | nil => cases hq
  | @cons p x ps xs a _ ih =>
    rw [List.map_cons] at hn
    obtain ⟨h1, h2⟩ := List.nodup_cons.mp hn
    rcases List.mem_cons.mp hq with z | z
    · subst z
      exact ⟨p.2, valV_pos a.1, a.2⟩
    · have : ¬ x.1 = q := fun e => h1 (by rw [e]; exact List.mem_map.mpr ⟨_, z, rfl⟩)
      rw [valV_neg (fun z => this (kk_inj (a.1.symm.trans z)))]
      exact ih h2 z
theorem SnR.snoc {H : Hp} {kvs : List (NestedKey × V)} {S : Seen} (h : SnR H kvs S) {q : Ky} {o : Option (Ky × Bool)} {v : V} (hv : Sv H o v) : SnR H (kvs ++ [(kk q, v)]) (S ++ [(q, o)]) := Paired.snoc h ⟨rfl, hv⟩
theorem SnR.len {H : Hp} {kvs : List (NestedKey × V)} {S : Seen} (h : SnR H kvs S) : kvs.length = S.length := Paired.length h
theorem putK_new {κ : Type} [DecidableEq κ] {kvs : List (κ × V)} {k : κ} {v : V} (h : (valV kvs k).isSome = false) : putK kvs k v = kvs ++ [(k, v)] := by
  unfold putK
  rw [valV_any, h]
  rfl
section
variable {P : Program} {w : World} {K : PySem.W.Frag} {mg : Str → Option Value} {base : Heap}
/-- the way back -/
def spBackFrom (P : Program) (w : World) : Sp := fun vs H Q _ => ∃ sn o kvs S kp q r, vs = [.ref sn, .ref kp] ∧ DN P w H sn o kvs ∧ SnR H kvs S ∧ Nk H (kk q) (.ref kp) ∧ Bk S q r ∧ r.length ≤ 10000 ∧ RetL (rv r) H Q
theorem ok_back_from {f : Addr} {fd : FuncData} (D : Dfn K mg "back_from" sBackFrom ["seen", "key"] f fd) : FnOk P w K mg base CX0 1 f fd ["seen", "key"] (spBackFrom P w) := by
  refine D.F.ok scBackFrom (fun vs H Q E h => ?_) (fun cdv A outer s0 H vs Q E hr h => ?_)
  · obtain ⟨sn, o, kvs, S, kp, q, r, rfl, _⟩ := h
    rfl
  · obtain ⟨sn, o, kvs, S, kp, q, r, rfl, hD, hS, hk, hb, hl, qq⟩ := h
    refine ⟨_, pss_cons (ps_set (i := 2) scBackFrom.nd rfl (.inl rfl) (pe_lst pa_nil))
      (pss_cons (ps_while PassesOwn.never (pt_cmp (pc_notN (pe_ix (ix_nget hr.units) (pv 0) (pv 1) (fun _ _ => rfl))))
        (pss_cons (ps_asg (pe_ix (ix_nget hr.units) (pv 0) (pv 1) (fun _ _ => rfl)) (pg_tup rfl (pgs_cons (pg_name (i := 1) scBackFrom.nd rfl (.inl rfl)) (pgs_cons (pg_name (i := 3) scBackFrom.nd rfl (.inl rfl)) pgs_nil))))
          (pss_one (ps_ap (pv 2) (pv 3)))))
      (pss_one (ps_ret (pe_revL (pv 2))))), ?_⟩
    have hn := hS.keys hD.keys
    refine q_asgL (xs := []) (el_lst ea_nil (by decide)) fun l H1 hl1 e1 h1 => ?_
    refine q_while (fun m σ H' => ∃ q' r' rest y kp', σ = [some (.ref sn), some (.ref kp'), some (.ref l), y] ∧ Ex H H' ∧ H' l = some (.lst (rv rest.reverse)) ∧ r = r' ++ rest ∧ m = r'.length ∧ Bk S q' r' ∧ Nk H' (kk q') (.ref kp')) r.length
      (by exact ⟨q, r, [], none, kp, rfl, e1, h1, by simp, rfl, hb, hk.mono (Ex.tups e1)⟩) ?_
    rintro m σ H' ⟨q', r', rest, y, kp', rfl, e2, h2, hr', rfl, hb', hk'⟩
    have hD' := hD.ex' e2
    have hS' := hS.mono (Ex.tups e2)
    cases hb' with
    | nil hq =>
      obtain ⟨v, hv, hsv⟩ := hS'.get hn hq
      have hsv : v = .non := hsv
      subst hsv
      refine ⟨false, ?_, (fun z => by cases z), fun _ H3 e3 => ?_⟩
      · exact fun H3 e3 Q' q' => ev_op (ev_var rfl) (ev_var rfl) (rv_nget hD' hk' (kk_depth _) hv) H3 e3 _ fun H4 e4 => ⟨_, rfl, q' H4 e4⟩
      · refine ⟨.ref l, rfl, l, rv rest.reverse, rfl, sq_of (e3 _ _ h2), fun p hp => ?_⟩
        have hpH : H p = none := fresh_back (e2.trans e3) hp
        refine qq p _ hpH ((e2.trans e3).trans (Ex.new hp)) ?_
        rw [hr', List.nil_append]
        have : (rv rest.reverse).reverse = rv rest := by unfold rv; rw [← List.map_reverse, List.reverse_reverse]
        rw [this]
        exact upd_same
    | @snoc _ q0 b r0 hq hb0 =>
      obtain ⟨v, hv, T, pl, rfl, hT, hpl⟩ := hS'.get hn hq
      refine ⟨true, ?_, (fun _ H3 e3 => ?_), fun z => by cases z⟩
      · exact fun H3 e3 Q' q' => ev_op (ev_var rfl) (ev_var rfl) (rv_nget hD' hk' (kk_depth _) hv) H3 e3 _ fun H4 e4 => ⟨_, rfl, q' H4 e4⟩
      · refine ⟨fun σ' H'' => ∃ m', m' < (r0 ++ [b]).length ∧ ∃ q' r' rest y kp', σ' = [some (.ref sn), some (.ref kp'), some (.ref l), y] ∧ Ex H H'' ∧ H'' l = some (.lst (rv rest.reverse)) ∧ r = r' ++ rest ∧ m' = r'.length ∧ Bk S q' r' ∧ Nk H'' (kk q') (.ref kp'), fun _ _ z => z, ?_⟩
        refine ev_op (ev_var rfl) (ev_var rfl) (rv_nget hD' hk' (kk_depth _) hv) H3 e3 _ fun H4 e4 => ?_
        have e34 := e3.trans e4
        refine g_pair (st_of (e34 _ _ hT)) ?_
        have hrl : r.length = r0.length + 1 + rest.length := by rw [hr']; simp; omega
        refine s_app (e34 _ _ h2) (ev_var rfl) (ev_var rfl) (by unfold rv; rw [List.length_map, List.length_reverse]; omega) fun H5 e5 => ?_
        have hne : ∀ xs, H5 l ≠ some (.tup xs) := fun xs z => by rw [(e34.trans e5) _ _ h2] at z; cases z
        refine ⟨r0.length, by simp, q0, r0, b :: rest, _, pl, rfl, Ex.mut (e2.trans (e34.trans e5)) hl1, ?_, by rw [hr']; simp, rfl, hb0, ?_⟩
        · rw [List.reverse_cons]
          have : rv (rest.reverse ++ [b]) = rv rest.reverse ++ [.int (sv b)] := by unfold rv; rw [List.map_append]; rfl
          rw [this]
          exact upd_same
        · exact (hpl.mono (Ex.tups (e34.trans e5))).mono (Tups.upd hne)
end
end TW

set_option Elab.async false
set_option linter.all false
set_option maxRecDepth 100000
set_option maxHeartbeats 4000000
/-! The walk, fifth part: the heap within a level. -/
namespace TW
open PySem
open PySem.Spec PyProof.Rows L2 Evl Tlm

/-- all cells but two stay -/
def Kp (sn lt : Addr) (H H' : Hp) : Prop := ∀ a o, a ≠ sn → a ≠ lt → H a = some o → H' a = some o
theorem Kp.refl (sn lt : Addr) (H : Hp) : Kp sn lt H H := fun _ _ _ _ h => h
theorem Kp.of {sn lt : Addr} {H H' : Hp} (e : Ex H H') : Kp sn lt H H' := fun a o _ _ h => e a o h
theorem Kp.trans {sn lt : Addr} {H H1 H2 : Hp} (a : Kp sn lt H H1) (b : Kp sn lt H1 H2) : Kp sn lt H H2 := fun x o h1 h2 h => b x o h1 h2 (a x o h1 h2 h)
theorem Kp.sn {sn lt : Addr} {H : Hp} {o : HO} : Kp sn lt H (upd H sn o) := fun a u h1 _ h => by rw [upd_ne h1]; exact h
theorem Kp.lt {sn lt : Addr} {H : Hp} {o : HO} : Kp sn lt H (upd H lt o) := fun a u _ h2 h => by rw [upd_ne h2]; exact h
/-- keys at addresses -/
def Ks (H : Hp) (ps : List Addr) (qs : List Ky) : Prop := ps.length = qs.length ∧ ∀ (i : Nat) p q, ps[i]? = some p → qs[i]? = some q → Nk H (kk q) (.ref p)
theorem Ks.mono {H H' : Hp} (e : Tups H H') {ps : List Addr} {qs : List Ky} (h : Ks H ps qs) : Ks H' ps qs := ⟨h.1, fun i p q a b => (h.2 i p q a b).mono e⟩
theorem Ks.snoc {H : Hp} {ps : List Addr} {qs : List Ky} (h : Ks H ps qs) {p : Addr} {q : Ky} (hk : Nk H (kk q) (.ref p)) : Ks H (ps ++ [p]) (qs ++ [q]) := by
  refine ⟨by rw [List.length_append, List.length_append, h.1]; rfl, fun i x y a b => ?_⟩
  rcases Nat.lt_trichotomy i ps.length with z | z | z
  · rw [List.getElem?_append_left z] at a
    rw [List.getElem?_append_left (by rw [← h.1]; exact z)] at b
    exact h.2 i x y a b
  · subst z
    rw [List.getElem?_concat_length] at a
    rw [h.1, List.getElem?_concat_length] at b
    cases a
    cases b
    exact hk
  · have : (ps ++ [p])[i]? = none := List.getElem?_eq_none (by rw [List.length_append]; simp; omega)
    rw [this] at a
    cases a
/-- the heap within a level -/
structure Mid (P : Program) (w : World) (Hb H : Hp) (sn lt : Addr) (d1 d2 : Tlm.Row) (S : Seen) (R : List Ky) (A : Seen) (Dn : List Ky) : Prop where
  ex : Ex Hb H
  dn : ∃ o kvs, DN P w H sn o kvs ∧ SnR H kvs (S ++ A)
  lt : ∃ ps : List Addr, H lt = some (.lst (ps.map V.ref)) ∧ Ks H ps (A.map (·.1))
  md : Md d1 d2 S R A Dn
section
variable {P : Program} {w : World} {Hb H H' : Hp} {sn lt : Addr} {d1 d2 : Tlm.Row} {S A : Seen} {R Dn Dn' : List Ky}
theorem Mid.on (h : Mid P w Hb H sn lt d1 d2 S R A Dn) (e : Ex H H') : Mid P w Hb H' sn lt d1 d2 S R A Dn := by
  obtain ⟨o, kvs, D, hS⟩ := h.dn
  obtain ⟨ps, h1, h2⟩ := h.lt
  exact ⟨h.ex.trans e, ⟨o, kvs, D.ex' e, hS.mono (Ex.tups e)⟩, ⟨ps, e _ _ h1, h2.mono (Ex.tups e)⟩, h.md⟩
theorem Mid.same (h : Mid P w Hb H sn lt d1 d2 S R A Dn) (e : ∀ q ∈ Dn', q ∈ Dn) : Mid P w Hb H sn lt d1 d2 S R A Dn' := ⟨h.ex, h.dn, h.lt, h.md.same e⟩
theorem Mid.snt (h : Mid P w Hb H sn lt d1 d2 S R A Dn) : ∀ xs, H sn ≠ some (.tup xs) := by
  obtain ⟨o, kvs, D, hS⟩ := h.dn
  exact nob_notup D.here
theorem Mid.ltt (h : Mid P w Hb H sn lt d1 d2 S R A Dn) : ∀ xs, H lt ≠ some (.tup xs) := fun xs e => by
  obtain ⟨ps, h1, h2⟩ := h.lt
  rw [h1] at e
  cases e
theorem Mid.tups (h : Mid P w Hb H sn lt d1 d2 S R A Dn) (k : Kp sn lt H H') : Tups H H' := fun a xs e => k a _ (fun z => h.snt xs (z ▸ e)) (fun z => h.ltt xs (z ▸ e)) e
theorem Mid.nsn (h : Mid P w Hb H sn lt d1 d2 S R A Dn) {a : Addr} (e : H a = none) : a ≠ sn ∧ a ≠ lt := by
  obtain ⟨o, kvs, D, hS⟩ := h.dn
  obtain ⟨ps, h1, h2⟩ := h.lt
  refine ⟨fun z => ?_, fun z => ?_⟩
  · subst z; rw [D.here] at e; cases e
  · subst z; rw [h1] at e; cases e
theorem few_all {L : Nat} (v : Lv d1 d2 S R L) (m : Md d1 d2 S R A Dn) (h1 : d1.length ≤ 10) (h2 : d2.length ≤ 10) : ∀ q ∈ (S ++ A).map (·.1), Few 10 q := fun q hq => by
  rw [List.map_append] at hq
  rcases List.mem_append.mp hq with z | z
  · obtain ⟨r, _, _, c⟩ := v.back q z
    exact c.few h1 h2
  · obtain ⟨x, hx, rfl⟩ := List.mem_map.mp z
    obtain ⟨r, _, _, c⟩ := m.word v hx
    exact c.few h1 h2
theorem Mid.few {L : Nat} (v : Lv d1 d2 S R L) (h : Mid P w Hb H sn lt d1 d2 S R A Dn) (h1 : d1.length ≤ 10) (h2 : d2.length ≤ 10) : (S ++ A).length ≤ 9801 := by
  obtain ⟨o, kvs, D, hS⟩ := h.dn
  have := few_len (hS.keys D.keys) (few_all v h.md h1 h2)
  rw [List.length_map] at this
  exact this
/-- a key that was seen -/
theorem Mid.skip (h : Mid P w Hb H sn lt d1 d2 S R A Dn) {kvs : List (NestedKey × V)} {q : Ky} (hS : SnR H kvs (S ++ A)) (e : (valV kvs (kk q)).isSome = true) : Mid P w Hb H sn lt d1 d2 S R A (Dn ++ [q]) :=
  ⟨h.ex, h.dn, h.lt, h.md.skip ((hS.has q).mp e)⟩
/-- a new key is kept -/
theorem Mid.put {ps : List Addr} (h : Mid P w Hb H sn lt d1 d2 S R A Dn) {o' : Obj} {kvs : List (NestedKey × V)} {q q0 : Ky} {b : Bool} {T pl ky : Addr} {H9 H11 : Hp} (hsn : Hb sn = none) (hlt : Hb lt = none) (hne : sn ≠ lt) (hS : SnR H kvs (S ++ A))
    (hl : H lt = some (.lst (ps.map V.ref))) (hps : Ks H ps (A.map (·.1))) (e9 : Ex H H9) (hT : H9 T = some (.tup [.ref pl, .int (sv b)])) (hpl : Nk H (kk q0) (.ref pl)) (hk : Nk H (kk q) (.ref ky))
    (D' : DN P w (upd H9 sn (nob sn o')) sn o' (putK kvs (kk q) (.ref T))) (hnew : (valV kvs (kk q)).isSome = false) (e11 : Ex (upd H9 sn (nob sn o')) H11) (h0 : q0 ∈ R) (hn : q ∈ nxs d1 d2 q0 b) :
    (∃ kvs', DN P w (upd H11 lt (.lst (ps.map V.ref ++ [.ref ky]))) sn o' kvs' ∧ SnR (upd H11 lt (.lst (ps.map V.ref ++ [.ref ky]))) kvs' (S ++ A ++ [(q, some (q0, b))])) ∧ Tups H (upd H11 lt (.lst (ps.map V.ref ++ [.ref ky]))) ∧
    Kp sn lt H (upd H11 lt (.lst (ps.map V.ref ++ [.ref ky]))) ∧ Ex Hb (upd H11 lt (.lst (ps.map V.ref ++ [.ref ky]))) ∧
    (¬ Gl2 d1 d2 q → Mid P w Hb (upd H11 lt (.lst (ps.map V.ref ++ [.ref ky]))) sn lt d1 d2 S R (A ++ [(q, some (q0, b))]) (Dn ++ [q])) := by
  have kp : Kp sn lt H (upd H11 lt (.lst (ps.map V.ref ++ [.ref ky]))) := (((Kp.of e9).trans Kp.sn).trans (Kp.of e11)).trans Kp.lt
  have tp := h.tups kp
  have hsn9 : ∀ xs, H9 sn ≠ some (.tup xs) := by
    obtain ⟨o1, kvs1, D1, _⟩ := h.dn
    intro xs z
    rw [e9 _ _ D1.here] at z
    cases z
  have hlt9 : ∀ xs, (upd H9 sn (nob sn o')) lt ≠ some (.tup xs) := by
    intro xs z
    rw [upd_ne (fun z => hne z.symm), e9 _ _ hl] at z
    cases z
  have hlt11 : ∀ xs, H11 lt ≠ some (.tup xs) := by
    intro xs z
    have := e11 lt _ (by rw [upd_ne (fun z => hne z.symm)]; exact e9 _ _ hl)
    rw [this] at z
    cases z
  have t9 : Tups H9 (upd H11 lt (.lst (ps.map V.ref ++ [.ref ky]))) := ((Tups.upd hsn9).trans (Ex.tups e11)).trans (Tups.upd hlt11)
  have hsv : Sv (upd H11 lt (.lst (ps.map V.ref ++ [.ref ky]))) (some (q0, b)) (.ref T) := ⟨T, pl, rfl, t9 _ _ hT, hpl.mono tp⟩
  have D2 : DN P w (upd H11 lt (.lst (ps.map V.ref ++ [.ref ky]))) sn o' (kvs ++ [(kk q, .ref T)]) := by
    rw [putK_new hnew] at D'
    refine D'.mono ?_ ((Ex.tups e11).trans (Tups.upd hlt11))
    rw [upd_ne hne]
    exact e11 _ _ upd_same
  have S2 := (hS.mono tp).snoc (q := q) hsv
  have e0 : Ex Hb (upd H11 lt (.lst (ps.map V.ref ++ [.ref ky]))) := Ex.mut ((Ex.mut (h.ex.trans e9) hsn).trans e11) hlt
  refine ⟨⟨_, D2, S2⟩, tp, kp, e0, fun hg => ⟨e0, ⟨o', _, D2, by rw [← List.append_assoc]; exact S2⟩, ⟨ps ++ [ky], ?_, ?_⟩, h.md.add h0 hn hg⟩⟩
  · rw [List.map_append]
    exact upd_same
  · rw [List.map_append]
    exact (hps.mono tp).snoc (hk.mono tp)
end
/-! tuples compared -/
def dn2 (x : Nat × Nat) : PyData := .tuple [.int (x.1 : Nat), .int (x.2 : Nat)]
theorem dn2_eqv (x y : Nat × Nat) : PyData.eqv (dn2 x) (dn2 y) = decide (x = y) := by
  obtain ⟨a, b⟩ := x
  obtain ⟨c, d⟩ := y
  by_cases h1 : a = c
  · by_cases h2 : b = d
    · subst h1; subst h2
      simp [dn2, PyData.eqv, PyData.eqvAll]
    · have : ¬ (b : Int) = (d : Int) := by omega
      simp [dn2, PyData.eqv, PyData.eqvAll, h1, h2, this]
  · have : ¬ (a : Int) = (c : Int) := by omega
    simp [dn2, PyData.eqv, PyData.eqvAll, h1, this]
end TW

set_option Elab.async false
set_option linter.all false
set_option maxRecDepth 100000
set_option maxHeartbeats 4000000
/-! The walk, sixth part (printed by gen_w5.py): the search level by level. -/
namespace TW
open PySem
open PySem.Spec PyProof.Rows L2 Evl Tlm

theorem rv_eqD {K : PySem.W.Frag} {H : Hp} {x y : V} {d e : PyData} (hx : ∀ H1, Ex H H1 → Dp K H1 x d) (hy : ∀ H1, Ex H H1 → Dp K H1 y e) (h1 : SeqAt.shaped d = true) (h2 : SeqAt.shaped e = true) {b : Bool} (hb : PyData.eqv d e = b) : RV (rEqD K) x y H (.bl b) :=
  fun H1 e1 Q q => ⟨d, e, hx H1 e1, hy H1 e1, h1, h2, by rw [hb]; exact q H1 (Ex.refl H1)⟩
theorem dp2 {K : PySem.W.Frag} {H : Hp} {a : Addr} {x : Nat × Nat} (h : At2 H a x) : Dp K H (.ref a) (dn2 x) := .tup (st_of h) (.cons (.int _) (.cons (.int _) .nil))
theorem dp22 {K : PySem.W.Frag} {H : Hp} {a l r : Addr} {x y : Nat × Nat} (h : H a = some (.tup [.ref l, .ref r])) (hl : At2 H l x) (hr : At2 H r y) : Dp K H (.ref a) (.tuple [dn2 x, dn2 y]) := .tup (st_of h) (.cons (dp2 hl) (.cons (dp2 hr) .nil))
theorem dn22_eqv (x y x' y' : Nat × Nat) : PyData.eqv (.tuple [dn2 x, dn2 y]) (.tuple [dn2 x', dn2 y']) = (decide (x = x') && decide (y = y')) := by
  simp [PyData.eqv, PyData.eqvAll, dn2_eqv]
theorem steps_at {j : Nat} {x : V} (h : ([.int 1, .int (-1)] : List V)[j]? = some x) : ∃ b, [true, false][j]? = some b ∧ x = .int (sv b) := by
  match j with
  | 0 => exact ⟨true, rfl, by simp at h; exact h.symm⟩
  | 1 => exact ⟨false, rfl, by simp at h; exact h.symm⟩
  | j + 2 => simp at h
section
variable {P : Program} {w : World} {K : PySem.W.Frag} {mg : Str → Option Value} {base : Heap}
/-- the least row above two -/
def spLeast (K : PySem.W.Frag) : Sp := fun vs H Q _ => ∃ p1 p2 d1 d2, vs = [.ref p1, .ref p2] ∧ SqL K H p1 (rv d1) ∧ SqL K H p2 (rv d2) ∧ 1 ≤ d1.length ∧ d1.length ≤ 10 ∧ d2.length ≤ 10 ∧ (∃ u, Ab d1 u ∧ Ab d2 u ∧ u.length ≤ 1000) ∧
  ∀ r, Ab d1 r → Ab d2 r → (∀ u, Ab d1 u → Ab d2 u → r.length ≤ u.length) → RetL (rv r) H Q
theorem ok_least_steps {f fs fm fb : Addr} {fd fds fdm fdb : FuncData} (D : Dfn K mg "least_steps" sLeastSteps ["one", "other"] f fd) (Ds : Dfn K mg "sums_of" sSumsOf ["due"] fs fds) (Gs : FnOk P w K mg base CX0 1 fs fds ["due"] (spSumsOf K))
    (Dm : Dfn K mg "moves_on" sMovesOn ["due", "sums", "state", "step", "last", "whole"] fm fdm) (Gm : FnOk P w K mg base CX0 1 fm fdm ["due", "sums", "state", "step", "last", "whole"] (spMovesOn K))
    (Db : Dfn K mg "back_from" sBackFrom ["seen", "key"] fb fdb) (Gb : FnOk P w K mg base CX0 1 fb fdb ["seen", "key"] (spBackFrom P w)) (T : Txt mg) :
    FnOk P w K mg base CX0 2 f fd ["one", "other"] (spLeast K) := by
  refine D.F.ok scLeastSteps (fun vs H Q E h => ?_) (fun cdv A0 outer s0 H vs Q E hrm h => ?_)
  · obtain ⟨p1, p2, d1, d2, rfl, _⟩ := h
    rfl
  · obtain ⟨p1, p2, d1, d2, rfl, hp1, hp2, n1, n2, n3, ⟨u0, a1, a2, hu0⟩, qq⟩ := h
    refine ⟨_, (pss_cons (ps_par (i := 2) (j := 3) rfl scLeastSteps.nd rfl rfl (by decide) rfl rfl (pa_cons (pe_fn Ds Gs hrm (pa_cons (pv 0) pa_nil)) (pa_cons (pe_fn Ds Gs hrm (pa_cons (pv 1) pa_nil)) pa_nil)) rfl)
      (pss_cons (ps_par (i := 4) (j := 5) rfl scLeastSteps.nd rfl rfl (by decide) rfl rfl (pa_cons (pe_tup (pa_cons (pe_tup (pa_cons pe_int (pa_cons pe_int pa_nil))) (pa_cons (pe_tup (pa_cons pe_int (pa_cons pe_int pa_nil))) pa_nil))) (pa_cons (pe_tup (pa_cons (pe_tup (pa_cons (pe_callB call_len_seq (by rfl) T.len (by decide +kernel) (pa_cons (pv 0) pa_nil)) (pa_cons pe_int pa_nil))) (pa_cons (pe_tup (pa_cons (pe_callB call_len_seq (by rfl) T.len (by decide +kernel) (pa_cons (pv 1) pa_nil)) (pa_cons pe_int pa_nil))) pa_nil))) pa_nil)) rfl)
      (pss_cons (ps_par (i := 6) (j := 7) rfl scLeastSteps.nd rfl rfl (by decide) rfl rfl (pa_cons (pe_none hrm.units (pe_tup (pa_cons (pv 4) (pa_cons pe_int (pa_cons pe_int pa_nil)))) pe_non) (pa_cons (pe_lst (pa_cons (pe_tup (pa_cons (pv 4) (pa_cons pe_int (pa_cons pe_int pa_nil)))) pa_nil)) pa_nil)) rfl)
      (pss_one (ps_while PassesOwn.never (pt_val pe_bl)
      (pss_cons (ps_set (i := 8) scLeastSteps.nd rfl (.inl rfl) (pe_lst pa_nil))
      (pss_cons (ps_for PassesOwn.never rfl (pi_list (pv 7)) (pg_name (i := 9) scLeastSteps.nd rfl (.inl rfl))
      (pss_cons (ps_asg (pv 9) (pg_tup rfl (pgs_cons (pg_tup rfl (pgs_cons (pg_name (i := 10) scLeastSteps.nd rfl (.inl rfl)) (pgs_cons (pg_name (i := 11) scLeastSteps.nd rfl (.inl rfl)) pgs_nil))) (pgs_cons (pg_name (i := 12) scLeastSteps.nd rfl (.inl rfl)) (pgs_cons (pg_name (i := 13) scLeastSteps.nd rfl (.inl rfl)) pgs_nil)))))
      (pss_one (ps_for PassesOwn.never rfl (pi_tup (pe_tup (pa_cons pe_int (pa_cons (pe_un un_neg pe_int) pa_nil)))) (pg_name (i := 14) scLeastSteps.nd rfl (.inl rfl))
      (pss_cons (ps_set (i := 15) scLeastSteps.nd rfl (.inl rfl) (pe_op op_mod (pe_op op_add (pv 13) (pv 14)) pe_int))
      (pss_one (ps_for PassesOwn.never rfl (pi_list (pe_fn Dm Gm hrm (pa_cons (pv 0) (pa_cons (pv 2) (pa_cons (pv 10) (pa_cons (pv 14) (pa_cons (pv 12) (pa_cons (pv 15) pa_nil)))))))) (pg_name (i := 16) scLeastSteps.nd rfl (.inl rfl))
      (pss_one (ps_for PassesOwn.never rfl (pi_list (pe_fn Dm Gm hrm (pa_cons (pv 1) (pa_cons (pv 3) (pa_cons (pv 11) (pa_cons (pv 14) (pa_cons (pv 12) (pa_cons (pv 15) pa_nil)))))))) (pg_name (i := 17) scLeastSteps.nd rfl (.inl rfl))
      (pss_cons (ps_set (i := 18) scLeastSteps.nd rfl (.inl rfl) (pe_tup (pa_cons (pe_tup (pa_cons (pv 16) (pa_cons (pv 17) pa_nil))) (pa_cons (pv 14) (pa_cons (pv 15) pa_nil)))))
      (pss_one (ps_if (pt_cmpR (op_nnotin hrm.units) (pv 18) (pv 6) rfl) (pss_cons (ps_asg (pe_tup (pa_cons (pv 9) (pa_cons (pv 14) pa_nil))) (pg_sub (pv 6) (pv 18) (set_nest hrm.units)))
      (pss_cons (ps_ap (pv 8) (pv 18))
      (pss_one (ps_if (pt_cmpR (op_eqD hrm.units) (pe_ix ix_tup (pv 18) pe_int (fun _ _ => rfl)) (pv 5) (nomark _)) (pss_one (ps_ret (pe_fn Db Gb hrm (pa_cons (pv 6) (pa_cons (pv 18) pa_nil))))) pss_nil)))) pss_nil))))))))))))
      (pss_one (ps_set (i := 7) scLeastSteps.nd rfl (.inl rfl) (pv 8)))))))))), ?_⟩
    have z2 : 2 ≤ sizeLine := by decide
    have z3 : 3 ≤ sizeLine := by decide
    have z1 : 1 ≤ sizeLine := by decide
    have r1 : (rv d1).length = d1.length := by unfold rv; rw [List.length_map]
    have r2 : (rv d2).length = d2.length := by unfold rv; rw [List.length_map]
    refine ⟨.ref p1, rfl, p1, d1, rfl, hp1, by omega, fun l1 H1 _ e1 h1 => ?_⟩
    refine ⟨.ref p2, rfl, p2, d2, rfl, ex_l e1 hp2, by omega, fun l2 H2 _ e2 h2 => ⟨.ref l1, .ref l2, rfl, ?_⟩⟩
    refine ⟨z2, fun t1 ht1 => ⟨z2, fun t2 ht2 => ⟨z2, fun t3 ht3 => ?_⟩⟩⟩
    refine ⟨.ref p1, rfl, p1, rv d1, rfl, .inl (ex_l ((((e1.trans e2).trans (Ex.new ht1)).trans (Ex.new ht2)).trans (Ex.new ht3)) hp1), z2, fun t4 ht4 => ?_⟩
    refine ⟨.ref p2, rfl, p2, rv d2, rfl, .inl (ex_l (((((e1.trans e2).trans (Ex.new ht1)).trans (Ex.new ht2)).trans (Ex.new ht3)).trans (Ex.new ht4)) hp2), z2, fun t5 ht5 => ⟨z2, fun t6 ht6 => ⟨.ref t3, .ref t6, rfl, ?_⟩⟩⟩
    rw [r1] at ht5
    rw [r1, r2] at ht6
    rw [r1, r2]
    have x3 := (Ex.new ht4 (o := .tup [.int (d1.length : Nat), .int 0])).trans ((Ex.new ht5 (o := .tup [.int (d2.length : Nat), .int 0])).trans (Ex.new ht6 (o := .tup [.ref t4, .ref t5])))
    have b3 := x3 _ _ (upd_same (o := HO.tup [.ref t1, .ref t2]))
    have b1 := ((Ex.new ht2 (o := .tup [.int 0, .int 0])).trans ((Ex.new ht3 (o := .tup [.ref t1, .ref t2])).trans x3)) _ _ (upd_same (o := HO.tup [.int 0, .int 0]))
    have b2 := ((Ex.new ht3 (o := .tup [.ref t1, .ref t2])).trans x3) _ _ (upd_same (o := HO.tup [.int 0, .int 0]))
    have b4 := ((Ex.new ht5 (o := .tup [.int (d2.length : Nat), .int 0])).trans (Ex.new ht6 (o := .tup [.ref t4, .ref t5]))) _ _ (upd_same (o := HO.tup [.int (d1.length : Nat), .int 0]))
    have b5 := (Ex.new ht6 (o := .tup [.ref t4, .ref t5])) _ _ (upd_same (o := HO.tup [.int (d2.length : Nat), .int 0]))
    have eb := ((Ex.new ht1 (o := .tup [.int 0, .int 0])).trans ((Ex.new ht2 (o := .tup [.int 0, .int 0])).trans ((Ex.new ht3 (o := .tup [.ref t1, .ref t2])).trans x3)))
    have b6 := upd_same (H := upd (upd (upd (upd (upd H2 t1 (.tup [.int 0, .int 0])) t2 (.tup [.int 0, .int 0])) t3 (.tup [.ref t1, .ref t2])) t4 (.tup [.int (d1.length : Nat), .int 0])) t5 (.tup [.int (d2.length : Nat), .int 0])) (a := t6) (o := HO.tup [.ref t4, .ref t5])
    clear x3 ht6 ht5
    revert b1 b2 b3 b4 b5 b6 eb
    generalize upd (upd (upd (upd (upd (upd H2 t1 (.tup [.int 0, .int 0])) t2 (.tup [.int 0, .int 0])) t3 (.tup [.ref t1, .ref t2])) t4 (.tup [.int (d1.length : Nat), .int 0])) t5 (.tup [.int (d2.length : Nat), .int 0])) t6 (.tup [.ref t4, .ref t5]) = Hb
    intro b3 b1 b2 b4 b5 eb b6
    have e0 : Ex H Hb := (e1.trans e2).trans eb
    have g1 : Hb l1 = some (.lst (sums d1)) := (e2.trans eb) _ _ h1
    have g2 : Hb l2 = some (.lst (sums d2)) := eb _ _ h2
    refine fun sn o0 hsn D0 => ⟨.ref t3, rfl, z3, fun kp0 hkp0 => ⟨Ex.new hkp0 _ _ D0.here, kk ky0, kp0, rfl, ?_, kk_depth _, fun o1 D1 => ⟨.ref t3, rfl, z3, fun kp1 hkp1 => ⟨z1, fun rim0 hrim0 => ⟨.ref sn, .ref rim0, rfl, ?_⟩⟩⟩⟩⟩
    · have := (Ex.new hsn (o := nob sn o0)).trans (Ex.new hkp0 (o := .tup [.ref t3, .int 0, .int 0]))
      exact kk_make (q := ky0) upd_same (nk2_make (x := (0, 0)) (y := (0, 0)) (this _ _ b3) (this _ _ b1) (this _ _ b2))
    have eA := Ex.mut ((Ex.new hsn (o := nob sn o0)).trans (Ex.new hkp0 (o := .tup [.ref t3, .int 0, .int 0]))) hsn (o := nob sn o1)
    have eB := (Ex.new hkp1 (o := .tup [.ref t3, .int 0, .int 0])).trans (Ex.new hrim0 (o := .lst [.ref kp1]))
    have eC := eA.trans eB
    have D2 := D1.ex' eB
    have hr0 := upd_same (H := upd (upd (upd (upd Hb sn (nob sn o0)) kp0 (.tup [.ref t3, .int 0, .int 0])) sn (nob sn o1)) kp1 (.tup [.ref t3, .int 0, .int 0])) (a := rim0) (o := HO.lst [.ref kp1])
    have hk1 := kk_make (q := ky0) ((Ex.new hrim0 (o := .lst [.ref kp1])) _ _ (upd_same (o := HO.tup [.ref t3, .int 0, .int 0]))) (nk2_make (x := (0, 0)) (y := (0, 0)) (eC _ _ b3) (eC _ _ b1) (eC _ _ b2))
    clear D1 eB hrim0
    revert eC D2 hr0 hk1
    generalize upd (upd (upd (upd (upd Hb sn (nob sn o0)) kp0 (.tup [.ref t3, .int 0, .int 0])) sn (nob sn o1)) kp1 (.tup [.ref t3, .int 0, .int 0])) rim0 (.lst [.ref kp1]) = H0
    intro eC D2 hr0 hk1
    obtain ⟨W, hW⟩ : ∃ W : Nat → L2.St → Hp → Prop, W = fun m σ H' => ∃ S R L rim o kvs ps y8 y9 y10 y11 y12 y13 y14 y15 y16 y17 y18, σ = [some (.ref p1), some (.ref p2), some (.ref l1), some (.ref l2), some (.ref t3), some (.ref t6), some (.ref sn), some (.ref rim), y8, y9, y10, y11, y12, y13, y14, y15, y16, y17, y18] ∧ Ex Hb H' ∧ DN P w H' sn o kvs ∧ SnR H' kvs S ∧ H' rim = some (.lst (ps.map V.ref)) ∧ Ks H' ps R ∧ Lv d1 d2 S R L ∧ m = u0.length - L := ⟨_, rfl⟩
    refine s_while W u0.length ?_ ?_
    · rw [hW]
      refine ⟨[(ky0, none)], [ky0], 0, rim0, o1, [(kk ky0, .non)], [kp1], none, none, none, none, none, none, none, none, none, none, none, rfl, eC, D2, .cons ⟨rfl, rfl⟩ .nil, hr0, ⟨rfl, fun i p q a b => ?_⟩, Lv.start n1, rfl⟩
      cases i with
      | zero => cases a; cases b; exact hk1
      | succ i => cases a
    intro m σ H3 hw
    rw [hW] at hw
    obtain ⟨S, R, L, rim, o, kvs, ps, y8, y9, y10, y11, y12, y13, y14, y15, y16, y17, y18, rfl, ex3, D3, S3, hrim, hps, hv, rfl⟩ := hw
    refine ⟨true, et_B ev_c, fun _ H4 e4 => ⟨fun σ2 H2' => ∃ m', m' < u0.length - L ∧ W m' σ2 H2', fun _ _ z => z, ?_⟩, fun z => by cases z⟩
    refine q_asgL (xs := []) (el_lst ea_nil (by decide)) fun lt H5 hlt e5 h5 => ?_
    have e45 := e4.trans e5
    have hne : sn ≠ lt := fun z => by subst z; rw [e4 _ _ D3.here] at hlt; cases hlt
    have hrl : rim ≠ lt := fun z => by subst z; rw [e4 _ _ hrim] at hlt; cases hlt
    have hrs : rim ≠ sn := fun z => by subst z; rw [D3.here] at hrim; cases hrim
    have hbl : Hb lt = none := fresh_back (ex3.trans e4) hlt
    have M0 : Mid P w Hb H5 sn lt d1 d2 S R [] [] := ⟨ex3.trans e45, ⟨o, kvs, D3.ex' e45, by rw [List.append_nil]; exact S3.mono (Ex.tups e45)⟩, ⟨[], h5, ⟨rfl, fun i p q a _ => by simp at a⟩⟩, Md.start _ _ _ _⟩
    obtain ⟨dn, hdn⟩ : ∃ dn : Nat → List Ky, dn = fun i => (R.take i).flatMap fun q => nxs d1 d2 q true ++ nxs d1 d2 q false := ⟨_, rfl⟩
    refine q_forLn (ev_var rfl) (sq_of (e45 _ _ hrim)) (fun i σ H' => ∃ A y9 y10 y11 y12 y13 y14 y15 y16 y17 y18, σ = [some (.ref p1), some (.ref p2), some (.ref l1), some (.ref l2), some (.ref t3), some (.ref t6), some (.ref sn), some (.ref rim), some (.ref lt), y9, y10, y11, y12, y13, y14, y15, y16, y17, y18] ∧ Kp sn lt H5 H' ∧ Mid P w Hb H' sn lt d1 d2 S R A (dn i)) (fun H6 e6 => ⟨[], y9, y10, y11, y12, y13, y14, y15, y16, y17, y18, rfl, Kp.of e6, (M0.on e6).same (by rw [hdn]; simp)⟩)
      (fun i σ H' _ p => by obtain ⟨A, y9, y10, y11, y12, y13, y14, y15, y16, y17, y18, rfl, kp, _⟩ := p; exact sq_of (kp _ _ hrs hrl (e45 _ _ hrim))) ?_ ?_
    · rintro i x σ H6 hi ⟨A, y9, y10, y11, y12, y13, y14, y15, y16, y17, y18, rfl, kp6, M6⟩
      rw [List.getElem?_map] at hi
      obtain ⟨pl, hpl, rfl⟩ := Option.map_eq_some_iff.mp hi
      obtain ⟨q, hq⟩ : ∃ q, R[i]? = some q := ⟨_, List.getElem?_eq_getElem (by rw [← hps.1]; exact (List.getElem?_eq_some_iff.mp hpl).1)⟩
      have hqR : q ∈ R := List.mem_of_getElem? hq
      have hk : Nk H6 (kk q) (.ref pl) := ((hps.2 i pl q hpl hq).mono (Ex.tups e45)).mono (M0.tups kp6)
      obtain ⟨lr, hl, hr, k1, k2, k3, k4⟩ := kk_open hk
      obtain ⟨w0, _, hw0, hcf⟩ := hv.back q (hv.rim q hqR)
      have hm1 : q.1.1 ≤ d1.length := hcf.1.le
      have hm2 : q.2.1.1 ≤ d2.length := hcf.2.1.le
      refine ⟨.ref pl, rfl, pl, _, rfl, st_of k1, rfl, .ref lr, _, rfl, ⟨lr, _, rfl, st_of k2, rfl, .ref hl, _, rfl, .ref hr, _, rfl, rfl, .int q.2.2.1, _, rfl, .int q.2.2.2, _, rfl, rfl, ?_⟩⟩
      refine ⟨1, rfl, z2, fun t ht => ⟨t, rfl, ⟨[.int 1, .int (-1)], st_of upd_same⟩, ?_⟩⟩
      have htn := M6.nsn ht
      have htt := upd_same (H := H6) (a := t) (o := HO.tup [.int 1, .int (-1)])
      have e7 := Ex.new ht (o := HO.tup [.int 1, .int (-1)])
      revert htt e7
      generalize upd H6 t (.tup [.int 1, .int (-1)]) = H7
      intro htt e7
      refine for_tup (fun j σ H' => ∃ A y14 y15 y16 y17 y18, σ = [some (.ref p1), some (.ref p2), some (.ref l1), some (.ref l2), some (.ref t3), some (.ref t6), some (.ref sn), some (.ref rim), some (.ref lt), some (.ref pl), some (.ref hl), some (.ref hr), some (.int q.2.2.1), some (.int q.2.2.2), y14, y15, y16, y17, y18] ∧ Kp sn lt H7 H' ∧ Mid P w Hb H' sn lt d1 d2 S R A (dn i ++ ([true, false].take j).flatMap (nxs d1 d2 q))) ⟨A, y14, y15, y16, y17, y18, rfl, Kp.refl _ _ _, (M6.on e7).same (by simp)⟩
        (fun j σ H' _ p => by obtain ⟨A, y14, y15, y16, y17, y18, rfl, kp, _⟩ := p; exact st_of (kp _ _ htn.1 htn.2 htt)) ?_ ?_
      · rintro j x σ H8 hj ⟨A, y14, y15, y16, y17, y18, rfl, kp8, M8⟩
        obtain ⟨b, hb, rfl⟩ := steps_at hj
        refine q_asg (v := .int (nxw q b)) (ev_op (ev_op (ev_var rfl) (ev_var rfl) rv_I0) ev_c (rv_I (by decide))) fun H9 e9 => ?_
        have M9 := M8.on e9
        have T9 := M6.tups ((Kp.of e7).trans (kp8.trans (Kp.of e9)))
        refine ⟨.ref p1, rfl, .ref l1, rfl, .ref hl, rfl, .int (sv b), rfl, .int q.2.2.1, rfl, .int (nxw q b), rfl, p1, l1, hl, d1, q.1.1, q.1.2, b, q.2.2.1, nxw q b, rfl, ex_l (e0.trans M9.ex) hp1, sq_of (M9.ex _ _ g1), st_of (T9 _ _ k3), hm1, by omega, fun la H10 e10 hla hprs => ?_⟩
        obtain ⟨ts, hts, htl, htx⟩ := hprs
        have hlan := M9.nsn hla
        have M10 := M9.on e10
        obtain ⟨dj, hdj⟩ : ∃ dj : List Ky, dj = dn i ++ ([true, false].take j).flatMap (nxs d1 d2 q) := ⟨_, rfl⟩
        refine ⟨la, rfl, ⟨ts.map V.ref, sq_of hts⟩, for_list (fun p σ H' => ∃ A y16 y17 y18, σ = [some (.ref p1), some (.ref p2), some (.ref l1), some (.ref l2), some (.ref t3), some (.ref t6), some (.ref sn), some (.ref rim), some (.ref lt), some (.ref pl), some (.ref hl), some (.ref hr), some (.int q.2.2.1), some (.int q.2.2.2), some (.int (sv b)), some (.int (nxw q b)), y16, y17, y18] ∧ Kp sn lt H10 H' ∧ Mid P w Hb H' sn lt d1 d2 S R A (dj ++ ((nx1 d1 q b).take p).flatMap (nxh d2 q b))) ⟨A, y16, y17, y18, rfl, Kp.refl _ _ _, M10.same (by rw [hdj]; simp)⟩
          (fun p σ H' _ z => by obtain ⟨A, y16, y17, y18, rfl, kp, _⟩ := z; exact sq_of (kp _ _ hlan.1 hlan.2 hts)) ?_ ?_⟩
        · rintro p x σ H11 hp ⟨A, y16, y17, y18, rfl, kp11, M11⟩
          rw [List.getElem?_map] at hp
          obtain ⟨th, hth, rfl⟩ := Option.map_eq_some_iff.mp hp
          obtain ⟨h, hh⟩ : ∃ h, (nx1 d1 q b)[p]? = some h := ⟨_, List.getElem?_eq_getElem (by unfold nx1; rw [← htl]; exact (List.getElem?_eq_some_iff.mp hth).1)⟩
          have ath : At2 H10 th h := htx p th h hth hh
          have T11 := M10.tups kp11
          have T911 : Tups H6 H11 := T9.trans ((Ex.tups e10).trans T11)
          refine ⟨.ref p2, rfl, .ref l2, rfl, .ref hr, rfl, .int (sv b), rfl, .int q.2.2.1, rfl, .int (nxw q b), rfl, p2, l2, hr, d2, q.2.1.1, q.2.1.2, b, q.2.2.1, nxw q b, rfl, ex_l (e0.trans M11.ex) hp2, sq_of (M11.ex _ _ g2), st_of (T911 _ _ k4), hm2, by omega, fun lb H12 e12 hlb hprs2 => ?_⟩
          obtain ⟨ts2, hts2, htl2, htx2⟩ := hprs2
          have hlbn := M11.nsn hlb
          have M12 := M11.on e12
          obtain ⟨dp, hdp⟩ : ∃ dp : List Ky, dp = dj ++ ((nx1 d1 q b).take p).flatMap (nxh d2 q b) := ⟨_, rfl⟩
          refine ⟨lb, rfl, ⟨ts2.map V.ref, sq_of hts2⟩, for_list (fun r σ H' => ∃ A y17 y18, σ = [some (.ref p1), some (.ref p2), some (.ref l1), some (.ref l2), some (.ref t3), some (.ref t6), some (.ref sn), some (.ref rim), some (.ref lt), some (.ref pl), some (.ref hl), some (.ref hr), some (.int q.2.2.1), some (.int q.2.2.2), some (.int (sv b)), some (.int (nxw q b)), some (.ref th), y17, y18] ∧ Kp sn lt H12 H' ∧ Mid P w Hb H' sn lt d1 d2 S R A (dp ++ ((nx2 d2 q b).take r).map (fun t => (h, t, sv b, nxw q b)))) ⟨A, y17, y18, rfl, Kp.refl _ _ _, M12.same (by rw [hdp]; simp)⟩
            (fun p σ H' _ z => by obtain ⟨A, y17, y18, rfl, kp, _⟩ := z; exact sq_of (kp _ _ hlbn.1 hlbn.2 hts2)) ?_ ?_⟩
          · rintro r x σ H13 hrr ⟨A, y17, y18, rfl, kp13, M13⟩
            rw [List.getElem?_map] at hrr
            obtain ⟨tt, htt2, rfl⟩ := Option.map_eq_some_iff.mp hrr
            obtain ⟨t', ht'⟩ : ∃ t', (nx2 d2 q b)[r]? = some t' := ⟨_, List.getElem?_eq_getElem (by unfold nx2; rw [← htl2]; exact (List.getElem?_eq_some_iff.mp htt2).1)⟩
            have T13 := M12.tups kp13
            have att : At2 H13 tt t' := T13 _ _ (htx2 r tt t' htt2 ht')
            have ath13 : At2 H13 th h := T13 _ _ (e12 _ _ (T11 _ _ ath))
            refine ⟨.ref th, rfl, .ref tt, rfl, z2, fun u1 hu1 => ⟨.int (sv b), rfl, .int (nxw q b), rfl, z3, fun ky hky => ?_⟩⟩
            have e14 := (Ex.new hu1 (o := .tup [.ref th, .ref tt])).trans (Ex.new hky (o := .tup [.ref u1, .int (sv b), .int (nxw q b)]))
            have cu1 := (Ex.new hky (o := .tup [.ref u1, .int (sv b), .int (nxw q b)])) _ _ (upd_same (H := H13) (a := u1) (o := HO.tup [.ref th, .ref tt]))
            have cky := upd_same (H := upd H13 u1 (HO.tup [.ref th, .ref tt])) (a := ky) (o := HO.tup [.ref u1, .int (sv b), .int (nxw q b)])
            revert e14 cu1 cky
            generalize upd (upd H13 u1 (.tup [.ref th, .ref tt])) ky (.tup [.ref u1, .int (sv b), .int (nxw q b)]) = H14
            intro e14 cu1 cky
            obtain ⟨q', hq'⟩ : ∃ q' : Ky, q' = (h, t', sv b, nxw q b) := ⟨_, rfl⟩
            have hkq : Nk H14 (kk q') (.ref ky) := by rw [hq']; exact kk_make (q := (h, t', sv b, nxw q b)) cky (nk2_make cu1 (e14 _ _ ath13) (e14 _ _ att))
            have hmem : q' ∈ nxs d1 d2 q b := by rw [hq']; exact mem_nxs.mpr ⟨List.mem_of_getElem? hh, List.mem_of_getElem? ht', rfl⟩
            have hdone : ∀ A : List Ky, dp ++ ((nx2 d2 q b).take (r + 1)).map (fun t => (h, t, sv b, nxw q b)) = (dp ++ ((nx2 d2 q b).take r).map (fun t => (h, t, sv b, nxw q b))) ++ [q'] := fun _ => by
              rw [List.take_add_one, ht', hq']
              simp
            replace hdone := hdone []
            have M14 := M13.on e14
            have kp14 := kp13.trans (Kp.of (sn := sn) (lt := lt) e14)
            obtain ⟨o4, kvs4, D14, S14⟩ := M14.dn
            refine s_when (b := !(valV kvs4 (kk q')).isSome) (et_test (ev_op (ev_var rfl) (ev_var rfl) (rv_nnin D14 hkq (kk_depth _)))) (fun hb H15 e15 => ?_) (fun hb H15 e15 => ?_)
            · have hnew : (valV kvs4 (kk q')).isSome = false := by simpa using hb
              have M15 := M14.on e15
              have hfew := M15.few hv n2 n3
              obtain ⟨ps5, hl5, hps5⟩ := M15.lt
              have hA : (A.map (·.1)).length ≤ 9801 := by rw [List.length_map]; rw [List.length_append] at hfew; omega
              have hpl15 : Nk H15 (kk q) (.ref pl) := hk.mono (T911.trans ((Ex.tups e12).trans (T13.trans ((Ex.tups e14).trans (Ex.tups e15)))))
              refine ⟨.ref pl, rfl, .int (sv b), rfl, z2, fun T1 hT => ⟨.ref sn, rfl, .ref ky, rfl, sn, o4, kvs4, kk q', rfl, (D14.ex' e15).ex' (Ex.new hT), (hkq.mono (Ex.tups e15)).mono (Ex.tups (Ex.new hT)), ⟨ky, rfl⟩, kk_depth _, by rw [S14.len]; exact size_less (by omega), fun o' D' => ?_⟩⟩
              refine q_app (l := lt) (xs := ps5.map V.ref) (by rw [upd_ne (fun z => hne z.symm)]; exact Ex.new hT _ _ hl5) (ev_var rfl) (ev_var rfl) (by rw [List.length_map, hps5.1]; omega) fun H18 e18 => ?_
              obtain ⟨⟨kvs', D19, S19⟩, T19, K19, E19, M19⟩ := Mid.put M15 hsn hbl hne (S14.mono (Ex.tups e15)) hl5 hps5 (Ex.new hT) upd_same hpl15 (hkq.mono (Ex.tups e15)) D' hnew e18 hqR hmem
              have kp19 := (kp14.trans (Kp.of e15)).trans K19
              have Tx : Tups H14 _ := (Ex.tups e15).trans T19
              have c6 : Tups Hb _ := (Ex.tups M14.ex).trans Tx
              refine s_when (b := decide (h = (d1.length, 0)) && decide (t' = (d2.length, 0))) (et_test (ev_op (ev_op (ev_var rfl) ev_c (rv_ixT (st_of (Tx _ _ cky)) (v := .ref u1) rfl)) (ev_var rfl)
                (rv_eqD (fun H' e' => dp22 (e' _ _ (Tx _ _ cu1)) (e' _ _ (Tx _ _ (e14 _ _ ath13))) (e' _ _ (Tx _ _ (e14 _ _ att)))) (fun H' e' => dp22 (x := (d1.length, 0)) (y := (d2.length, 0)) (e' _ _ (c6 _ _ b6)) (e' _ _ (c6 _ _ b4)) (e' _ _ (c6 _ _ b5))) rfl rfl (dn22_eqv _ _ _ _)))) (fun hg H20 e20 => ?_) (fun hg H20 e20 => ?_)
              · have hg' : Gl2 d1 d2 q' := by rw [hq']; simpa [Gl2] using hg
                obtain ⟨r0, hbk, a1', a2', hmin⟩ := Md.found hv M15.md hqR hmem hg'
                have hr0 := hmin u0 a1 a2
                refine ⟨.ref sn, rfl, .ref ky, rfl, sn, o', kvs', _, ky, q', r0, rfl, D19.ex' e20, S19.mono (Ex.tups e20), (hkq.mono Tx).mono (Ex.tups e20), hbk, by omega, fun p' H21 hp' e21 h21 => ?_⟩
                exact qq r0 a1' a2' hmin p' H21 (fresh_back ((e0.trans E19).trans e20) hp') (((e0.trans E19).trans e20).trans e21) h21
              · have hg' : ¬ Gl2 d1 d2 q' := by rw [hq']; simpa [Gl2] using hg
                refine ⟨A ++ [(q', some (q, b))], some (.ref tt), some (.ref ky), rfl, kp19.trans (Kp.of e20), ?_⟩
                rw [hdone]
                exact (M19 hg').on e20
            · refine ⟨A, some (.ref tt), some (.ref ky), rfl, kp14.trans (Kp.of e15), ?_⟩
              rw [hdone]
              exact (M14.skip S14 (by simpa using hb)).on e15
          · rintro σ H13 ⟨A, y17, y18, rfl, kp13, M13⟩
            refine ⟨A, some (.ref th), y17, y18, rfl, (kp11.trans (Kp.of e12)).trans kp13, ?_⟩
            have e' : dj ++ ((nx1 d1 q b).take (p + 1)).flatMap (nxh d2 q b) = dp ++ ((nx2 d2 q b).take (ts2.map V.ref).length).map (fun t => (h, t, sv b, nxw q b)) := by
              rw [List.take_add_one, hh, List.length_map, htl2, hdp]
              simp only [Option.toList_some, List.flatMap_append, List.flatMap_cons, List.flatMap_nil, List.append_nil, ← List.append_assoc]
              congr 1
              unfold nxh
              congr 1
              exact (List.take_length (l := nx2 d2 q b)).symm
            rw [e']
            exact M13
        · rintro σ H11 ⟨A, y16, y17, y18, rfl, kp11, M11⟩
          refine ⟨A, some (.int (sv b)), some (.int (nxw q b)), y16, y17, y18, rfl, ((kp8.trans (Kp.of e9)).trans (Kp.of e10)).trans kp11, ?_⟩
          have e' : dn i ++ ([true, false].take (j + 1)).flatMap (nxs d1 d2 q) = dj ++ ((nx1 d1 q b).take (ts.map V.ref).length).flatMap (nxh d2 q b) := by
            rw [List.take_add_one, hb, List.length_map, htl, hdj]
            simp only [Option.toList_some, List.flatMap_append, List.flatMap_cons, List.flatMap_nil, List.append_nil, ← List.append_assoc]
            congr 1
            unfold nxs
            congr 1
            exact (List.take_length (l := nx1 d1 q b)).symm
          rw [e']
          exact M11
      · rintro σ H8 ⟨A, y14, y15, y16, y17, y18, rfl, kp8, M8⟩
        refine ⟨A, some (.ref pl), some (.ref hl), some (.ref hr), some (.int q.2.2.1), some (.int q.2.2.2), y14, y15, y16, y17, y18, rfl, (kp6.trans (Kp.of e7)).trans kp8, ?_⟩
        have e' : dn (i + 1) = dn i ++ ([true, false].take ([.int 1, .int (-1)] : List V).length).flatMap (nxs d1 d2 q) := by
          rw [hdn]
          show (R.take (i + 1)).flatMap _ = (R.take i).flatMap _ ++ _
          rw [List.take_add_one, hq]
          simp
        rw [e']
        exact M8
    · rintro σ H6 ⟨A, y9, y10, y11, y12, y13, y14, y15, y16, y17, y18, rfl, kp6, M6⟩
      refine s_asg (ev_var rfl) fun H7 e7 => ?_
      have M7 := M6.on e7
      obtain ⟨o7, kvs7, D7, S7⟩ := M7.dn
      obtain ⟨ps7, hl7, hps7⟩ := M7.lt
      refine ⟨u0.length - (L + 1), by have := hv.short a1 a2; omega, ?_⟩
      rw [hW]
      refine ⟨S ++ A, A.map (·.1), L + 1, lt, o7, kvs7, ps7, some (.ref lt), y9, y10, y11, y12, y13, y14, y15, y16, y17, y18, rfl, M7.ex, D7, S7, hl7, hps7, M7.md.level hv (fun q hq b x hx => ?_), rfl⟩
      rw [hdn]
      show x ∈ (R.take (ps.map V.ref).length).flatMap _
      rw [List.length_map, hps.1, List.take_length]
      refine List.mem_flatMap.mpr ⟨q, hq, ?_⟩
      cases b with
      | true => exact List.mem_append_left _ hx
      | false => exact List.mem_append_right _ hx
end
end TW

set_option Elab.async false
set_option linter.all false
set_option maxRecDepth 100000
set_option maxHeartbeats 4000000
/-! The walk, seventh part (printed by gen_w6.py): the common word, the distance. -/
namespace TW
open PySem
open PySem.Spec PyProof.Rows L2 Evl Tlm
section
variable {P : Program} {w : World} {K : PySem.W.Frag} {mg : Str → Option Value} {base : Heap}
/-- rows that have a common top; r the least of them -/
def Two (s t : Tlm.Row) : Prop := 1 ≤ s.length ∧ s.length ≤ 10 ∧ 1 ≤ t.length ∧ t.length ≤ 10 ∧ ∃ u, Ab s u ∧ Ab t u ∧ u.length ≤ 1000
def Least (s t r : Tlm.Row) : Prop := Ab s r ∧ Ab t r ∧ ∀ u, Ab s u → Ab t u → r.length ≤ u.length
theorem Two.len {s t r : Tlm.Row} (h : Two s t) (l : Least s t r) : r.length ≤ 1000 := by
  obtain ⟨_, _, _, _, u, h1, h2, h3⟩ := h
  have := l.2.2 u h1 h2
  omega
def spCommonOf : Sp := fun vs H Q _ => ∃ a s t, vs = [.str (wd a s), .str (wd a t)] ∧ a < 3 ∧ Two s t ∧ ∀ r, Least s t r → RetV (.str (wd a r)) H Q
theorem ok_common_of {f f1 f2 f3 : Addr} {fd fd1 fd2 fd3 : FuncData} (D : Dfn K mg "common_of" sCommonOf ["one", "other"] f fd) (D1 : Dfn K mg "steps_of" sStepsOf ["word"] f1 fd1) (G1 : FnOk P w K mg base CX0 1 f1 fd1 ["word"] spStepsOf)
    (D2 : Dfn K mg "least_steps" sLeastSteps ["one", "other"] f2 fd2) (G2 : FnOk P w K mg base CX0 2 f2 fd2 ["one", "other"] (spLeast K)) (D3 : Dfn K mg "word_of" sWordOf ["first", "steps"] f3 fd3) (G3 : FnOk P w K mg base CX0 1 f3 fd3 ["first", "steps"] (spWordOf K)) :
    FnOk P w K mg base CX0 3 f fd ["one", "other"] spCommonOf := by
  refine D.F.ok scCommonOf (fun vs H Q E h => ?_) (fun cdv A outer s0 H vs Q E hr h => ?_)
  · obtain ⟨a, s, t, rfl, _⟩ := h
    rfl
  · obtain ⟨a, s, t, rfl, ha, h2, q⟩ := h
    obtain ⟨n1, n2, n3, n4, u, a1, a2, hu⟩ := id h2
    refine ⟨_, (pss_one (ps_ret (pe_fn D3 G3 (hr.mono (by decide)) (pa_cons (pe_ix ix_str (pv 0) pe_int (fun _ _ => rfl)) (pa_cons (pe_fn D2 G2 hr (pa_cons (pe_fn D1 G1 (hr.mono (by decide)) (pa_cons (pv 0) pa_nil)) (pa_cons (pe_fn D1 G1 (hr.mono (by decide)) (pa_cons (pv 1) pa_nil)) pa_nil))) pa_nil))))), ?_⟩
    have l1 := size_small (show (wd a s).length ≤ 1000000 by rw [wd_len]; omega)
    refine ⟨.str (wd a s), rfl, wd a s, 0, 97 + a, rfl, rfl, l1, wd_first a s, ?_⟩
    refine ⟨.str (wd a s), rfl, a, s, rfl, ha, n1, by omega, fun p1 H1 hp1 e1 h1 => ?_⟩
    refine ⟨.str (wd a t), rfl, a, t, rfl, ha, n3, by omega, fun p2 H2 hp2 e2 h2' => ?_⟩
    refine ⟨p1, p2, s, t, rfl, sq_of (e2 _ _ h1), sq_of h2', n1, n2, n4, ⟨u, a1, a2, hu⟩, fun r b1 b2 b3 p3 H3 hp3 e3 h3 => ?_⟩
    refine ⟨p3, a, r, rfl, ha, sq_of h3, by have := h2.len ⟨b1, b2, b3⟩; omega, fun H4 e4 => q r ⟨b1, b2, b3⟩ H4 (((e1.trans e2).trans e3).trans e4)⟩
def spDistanceOf : Sp := fun vs H Q _ => ∃ a s t, vs = [.str (wd a s), .str (wd a t)] ∧ a < 3 ∧ Two s t ∧ ∀ r, Least s t r → RetV (.int (2 * (r.length : Int) - s.length - t.length)) H Q
theorem ok_distance_of {f f1 : Addr} {fd fd1 : FuncData} (D : Dfn K mg "distance_of" sDistanceOf ["one", "other"] f fd) (D1 : Dfn K mg "common_of" sCommonOf ["one", "other"] f1 fd1) (G1 : FnOk P w K mg base CX0 3 f1 fd1 ["one", "other"] spCommonOf) (T : Txt mg) :
    FnOk P w K mg base CX0 4 f fd ["one", "other"] spDistanceOf := by
  refine D.F.ok scDistanceOf (fun vs H Q E h => ?_) (fun cdv A outer s0 H vs Q E hr h => ?_)
  · obtain ⟨a, s, t, rfl, _⟩ := h
    rfl
  · obtain ⟨a, s, t, rfl, ha, h2, q⟩ := h
    obtain ⟨n1, n2, n3, n4, u, a1, a2, hu⟩ := id h2
    refine ⟨_, (pss_one (ps_ret (pe_op op_sub (pe_op op_sub (pe_op op_mul pe_int (pe_callB call_len_str (by rfl) T.len (by decide +kernel) (pa_cons (pe_fn D1 G1 hr (pa_cons (pv 0) (pa_cons (pv 1) pa_nil))) pa_nil))) (pe_callB call_len_str (by rfl) T.len (by decide +kernel) (pa_cons (pv 0) pa_nil))) (pe_callB call_len_str (by rfl) T.len (by decide +kernel) (pa_cons (pv 1) pa_nil))))), ?_⟩
    refine ⟨.str (wd a s), rfl, .str (wd a t), rfl, a, s, t, rfl, ha, h2, fun r hr' H1 e1 => ?_⟩
    have hl := h2.len hr'
    refine ⟨wd a r, rfl, size_small (by rw [wd_len]; omega), 2, ((wd a r).length : Int), rfl, rfl, .inl ⟨by decide, by decide⟩, ?_⟩
    refine ⟨.str (wd a s), rfl, wd a s, rfl, size_small (by rw [wd_len]; omega), _, _, rfl, rfl, ?_⟩
    refine ⟨.str (wd a t), rfl, wd a t, rfl, size_small (by rw [wd_len]; omega), _, _, rfl, rfl, ?_⟩
    rw [wd_len, wd_len, wd_len]
    have := q r hr' H1 e1
    show Q (.int (2 * ((r.length + 1 : Nat) : Int) - ((s.length + 1 : Nat) : Int) - ((t.length + 1 : Nat) : Int))) H1
    rw [show (2 : Int) * ((r.length + 1 : Nat) : Int) - ((s.length + 1 : Nat) : Int) - ((t.length + 1 : Nat) : Int) = 2 * (r.length : Int) - s.length - t.length by omega]
    exact this
def spDistance : Sp := fun vs H Q _ => ∃ a s t, vs = [.str (wd a s), .str (wd a t)] ∧ a < 3 ∧ Two s t ∧ fin a s = fin a t ∧ ∀ r, Least s t r → RetV (.int (2 * (r.length : Int) - s.length - t.length)) H Q
theorem ok_distance {f f1 f2 : Addr} {fd fd1 fd2 : FuncData} (D : Dfn K mg "distance" sDistance ["one", "other"] f fd) (D1 : Dfn K mg "need_pair" sNeedPair ["one", "other"] f1 fd1) (G1 : FnOk P w K mg base CX0 3 f1 fd1 ["one", "other"] spNeedPair)
    (D2 : Dfn K mg "distance_of" sDistanceOf ["one", "other"] f2 fd2) (G2 : FnOk P w K mg base CX0 4 f2 fd2 ["one", "other"] spDistanceOf) : FnOk P w K mg base CX0 5 f fd ["one", "other"] spDistance := by
  refine D.F.ok scDistance (fun vs H Q E h => ?_) (fun cdv A outer s0 H vs Q E hr h => ?_)
  · obtain ⟨a, s, t, rfl, _⟩ := h
    rfl
  · obtain ⟨a, s, t, rfl, ha, h2, hf, q⟩ := h
    obtain ⟨n1, n2, n3, n4, u, a1, a2, hu⟩ := id h2
    refine ⟨_, (pss_cons (ps_expr (pe_fn D1 G1 (hr.mono (by decide)) (pa_cons (pv 0) (pa_cons (pv 1) pa_nil))))
      (pss_one (ps_ret (pe_fn D2 G2 hr (pa_cons (pv 0) (pa_cons (pv 1) pa_nil)))))), ?_⟩
    refine ⟨.str (wd a s), rfl, .str (wd a t), rfl, a, s, t, rfl, ha, n1, by omega, n3, by omega, hf, fun H1 e1 => ?_⟩
    exact ⟨.str (wd a s), rfl, .str (wd a t), rfl, a, s, t, rfl, ha, h2, fun r hr' H2 e2 => q r hr' H2 (e1.trans e2)⟩
def spLeastCommon : Sp := fun vs H Q _ => ∃ a s t, vs = [.str (wd a s), .str (wd a t)] ∧ a < 3 ∧ Two s t ∧ fin a s = fin a t ∧ ∀ r, Least s t r → RetV (.str (wd a r)) H Q
theorem ok_least_common {f f1 f2 : Addr} {fd fd1 fd2 : FuncData} (D : Dfn K mg "least_common" sLeastCommon ["one", "other"] f fd) (D1 : Dfn K mg "need_pair" sNeedPair ["one", "other"] f1 fd1) (G1 : FnOk P w K mg base CX0 3 f1 fd1 ["one", "other"] spNeedPair)
    (D2 : Dfn K mg "common_of" sCommonOf ["one", "other"] f2 fd2) (G2 : FnOk P w K mg base CX0 3 f2 fd2 ["one", "other"] spCommonOf) : FnOk P w K mg base CX0 4 f fd ["one", "other"] spLeastCommon := by
  refine D.F.ok scLeastCommon (fun vs H Q E h => ?_) (fun cdv A outer s0 H vs Q E hr h => ?_)
  · obtain ⟨a, s, t, rfl, _⟩ := h
    rfl
  · obtain ⟨a, s, t, rfl, ha, h2, hf, q⟩ := h
    obtain ⟨n1, n2, n3, n4, u, a1, a2, hu⟩ := id h2
    refine ⟨_, (pss_cons (ps_expr (pe_fn D1 G1 hr (pa_cons (pv 0) (pa_cons (pv 1) pa_nil))))
      (pss_one (ps_ret (pe_fn D2 G2 hr (pa_cons (pv 0) (pa_cons (pv 1) pa_nil)))))), ?_⟩
    refine ⟨.str (wd a s), rfl, .str (wd a t), rfl, a, s, t, rfl, ha, n1, by omega, n3, by omega, hf, fun H1 e1 => ?_⟩
    exact ⟨.str (wd a s), rfl, .str (wd a t), rfl, a, s, t, rfl, ha, h2, fun r hr' H2 e2 => q r hr' H2 (e1.trans e2)⟩
end
end TW

set_option Elab.async false
set_option linter.all false
set_option maxRecDepth 100000
/-! The mathematics of the law, fifth part: the pruned moves. No program here. -/
namespace TW
open PySem Tlm

/-- the places that a row reaches, no place being kept from which N steps are too few -/
inductive PR (d1 d2 : Tlm.Row) (N : Nat) : Tlm.Row → Nat × Nat → Nat × Nat → Prop
  | nil : PR d1 d2 N [] (0, 0) (0, 0)
  | snoc {w : Tlm.Row} {l r l' r' : Nat × Nat} {b : Bool} : PR d1 d2 N w l r → l' ∈ mv d1 l.1 l.2 b (lst w) ((tot w % 3 + sv b) % 3) → r' ∈ mv d2 r.1 r.2 b (lst w) ((tot w % 3 + sv b) % 3) →
      (d1.length : Int) - l'.1 ≤ (N : Int) - (w.length + 1) → (d2.length : Int) - r'.1 ≤ (N : Int) - (w.length + 1) → PR d1 d2 N (w ++ [b]) l' r'
theorem PR.nil_iff {d1 d2 : Tlm.Row} {N : Nat} {l r : Nat × Nat} : PR d1 d2 N [] l r ↔ l = (0, 0) ∧ r = (0, 0) := by
  constructor
  · intro h
    generalize hz : ([] : Tlm.Row) = z at h
    cases h with
    | nil => exact ⟨rfl, rfl⟩
    | snoc => simp at hz
  · rintro ⟨rfl, rfl⟩
    exact .nil
theorem PR.snoc_iff {d1 d2 w : Tlm.Row} {N : Nat} {b : Bool} {l' r' : Nat × Nat} : PR d1 d2 N (w ++ [b]) l' r' ↔ ∃ l r, PR d1 d2 N w l r ∧ l' ∈ mv d1 l.1 l.2 b (lst w) ((tot w % 3 + sv b) % 3) ∧ r' ∈ mv d2 r.1 r.2 b (lst w) ((tot w % 3 + sv b) % 3) ∧
    (d1.length : Int) - l'.1 ≤ (N : Int) - (w.length + 1) ∧ (d2.length : Int) - r'.1 ≤ (N : Int) - (w.length + 1) := by
  constructor
  · intro h
    generalize hz : w ++ [b] = z at h
    cases h with
    | nil => simp at hz
    | snoc h1 h2 h3 h4 h5 =>
      obtain ⟨rfl, e⟩ := List.append_inj' hz rfl
      cases e
      exact ⟨_, _, h1, h2, h3, h4, h5⟩
  · rintro ⟨l, r, h1, h2, h3, h4, h5⟩
    exact .snoc h1 h2 h3 h4 h5
theorem wmod (w : Tlm.Row) (b : Bool) : (tot w % 3 + sv b) % 3 % 3 = tot (w ++ [b]) % 3 := by rw [tot_snoc]; omega
theorem PR.pl {d1 d2 w : Tlm.Row} {N : Nat} {l r : Nat × Nat} (h : PR d1 d2 N w l r) : Pl d1 w l.1 l.2 ∧ Pl d2 w r.1 r.2 := by
  induction h with
  | nil => exact ⟨pl_start _, pl_start _⟩
  | snoc _ h2 h3 _ _ ih => exact ⟨pl_go (wmod _ _) ih.1 h2, pl_go (wmod _ _) ih.2 h3⟩
theorem pl_pr {d1 d2 : Tlm.Row} {N : Nat} : ∀ (n : Nat) (w : Tlm.Row) (l r : Nat × Nat), w.length = n → Pl d1 w l.1 l.2 → Pl d2 w r.1 r.2 → (d1.length : Int) - l.1 ≤ (N : Int) - w.length → (d2.length : Int) - r.1 ≤ (N : Int) - w.length → PR d1 d2 N w l r := by
  intro n
  induction n with
  | zero =>
    intro w l r hn h1 h2 _ _
    have : w = [] := List.length_eq_zero_iff.mp hn
    subst this
    obtain ⟨a, b⟩ := pl_nil h1
    obtain ⟨c, d⟩ := pl_nil h2
    exact PR.nil_iff.mpr ⟨Prod.ext a b, Prod.ext c d⟩
  | succ n ih =>
    intro w l r hn h1 h2 g1 g2
    rcases snoc_cases w with rfl | ⟨w', b, rfl⟩
    · simp at hn
    · have hl : (w' ++ [b]).length = w'.length + 1 := by simp
      rw [hl] at hn g1 g2
      obtain ⟨m, k, p1, p2, p3⟩ := pl_back (m' := l.1) (k' := l.2) (wmod w' b) h1
      obtain ⟨m', k', q1, q2, q3⟩ := pl_back (m' := r.1) (k' := r.2) (wmod w' b) h2
      exact .snoc (ih w' (m, k) (m', k') (by omega) p1 q1 (by simp only; omega) (by simp only; omega)) p2 q2 (by omega) (by omega)
/-- at the goal after N steps: above both -/
theorem pr_goal {d1 d2 w : Tlm.Row} {N : Nat} (h : w.length = N) : PR d1 d2 N w (d1.length, 0) (d2.length, 0) ↔ Ab d1 w ∧ Ab d2 w := by
  constructor
  · intro g
    obtain ⟨h1, h2⟩ := g.pl
    exact ⟨(pl_goal _ _).mp h1, (pl_goal _ _).mp h2⟩
  · rintro ⟨h1, h2⟩
    exact pl_pr _ w _ _ rfl ((pl_goal _ _).mpr h1) ((pl_goal _ _).mpr h2) (by simp only; omega) (by simp only; omega)
/-- the pairs that a row's pairs lead to -/
def okp (d1 d2 : Tlm.Row) (N n : Nat) (h t : Nat × Nat) : Bool := decide ((d1.length : Int) - h.1 ≤ (N : Int) - (n + 1)) && decide ((d2.length : Int) - t.1 ≤ (N : Int) - (n + 1))
abbrev Pr := (Nat × Nat) × (Nat × Nat)
def cd2 (d1 d2 : Tlm.Row) (N : Nat) (w : Tlm.Row) (b : Bool) (x : Pr) (h : Nat × Nat) : List Pr := ((mv d2 x.2.1 x.2.2 b (lst w) ((tot w % 3 + sv b) % 3)).filter (okp d1 d2 N w.length h)).map fun t => (h, t)
def cd1 (d1 d2 : Tlm.Row) (N : Nat) (w : Tlm.Row) (b : Bool) (x : Pr) : List Pr := (mv d1 x.1.1 x.1.2 b (lst w) ((tot w % 3 + sv b) % 3)).flatMap (cd2 d1 d2 N w b x)
def cd0 (d1 d2 : Tlm.Row) (N : Nat) (w : Tlm.Row) (b : Bool) (X : List Pr) : List Pr := X.flatMap (cd1 d1 d2 N w b)
theorem mem_cd1 {d1 d2 w : Tlm.Row} {N : Nat} {b : Bool} {x y : Pr} : y ∈ cd1 d1 d2 N w b x ↔ y.1 ∈ mv d1 x.1.1 x.1.2 b (lst w) ((tot w % 3 + sv b) % 3) ∧ y.2 ∈ mv d2 x.2.1 x.2.2 b (lst w) ((tot w % 3 + sv b) % 3) ∧
    (d1.length : Int) - y.1.1 ≤ (N : Int) - (w.length + 1) ∧ (d2.length : Int) - y.2.1 ≤ (N : Int) - (w.length + 1) := by
  unfold cd1 cd2
  rw [List.mem_flatMap]
  constructor
  · rintro ⟨h, hh, ht⟩
    obtain ⟨t, h2, rfl⟩ := List.mem_map.mp ht
    obtain ⟨h3, h4⟩ := List.mem_filter.mp h2
    unfold okp at h4
    rw [Bool.and_eq_true, decide_eq_true_iff, decide_eq_true_iff] at h4
    exact ⟨hh, h3, h4.1, h4.2⟩
  · rintro ⟨h1, h2, h3, h4⟩
    refine ⟨y.1, h1, List.mem_map.mpr ⟨y.2, List.mem_filter.mpr ⟨h2, ?_⟩, rfl⟩⟩
    unfold okp
    rw [Bool.and_eq_true, decide_eq_true_iff, decide_eq_true_iff]
    exact ⟨h3, h4⟩
theorem cd0_iff {d1 d2 w : Tlm.Row} {N : Nat} {b : Bool} {X : List Pr} (hX : ∀ x, x ∈ X ↔ PR d1 d2 N w x.1 x.2) (y : Pr) : y ∈ cd0 d1 d2 N w b X ↔ PR d1 d2 N (w ++ [b]) y.1 y.2 := by
  unfold cd0
  rw [List.mem_flatMap, PR.snoc_iff]
  constructor
  · rintro ⟨x, hx, hy⟩
    exact ⟨x.1, x.2, (hX x).mp hx, mem_cd1.mp hy⟩
  · rintro ⟨l, r, h1, h2⟩
    exact ⟨(l, r), (hX (l, r)).mpr h1, mem_cd1.mpr h2⟩
theorem pr_len {X : List Pr} {d1 d2 w : Tlm.Row} {N : Nat} (hn : X.Nodup) (h : ∀ x ∈ X, PR d1 d2 N w x.1 x.2) (h1 : d1.length ≤ 10) (h2 : d2.length ≤ 10) : X.length ≤ 9801 := by
  have := few_len (qs := X.map fun x => ((x.1, x.2, 0, 0) : Ky)) (List.pairwise_map.mpr (List.Pairwise.imp (fun {a b} hab e => hab (by
    injection e with e1 e2
    injection e2 with e2 e3
    exact Prod.ext e1 e2)) hn)) (fun q hq => by
    obtain ⟨x, hx, rfl⟩ := List.mem_map.mp hq
    obtain ⟨p1, p2⟩ := (h x hx).pl
    have := p1.le; have := p2.le; have := p1.few; have := p2.few
    exact ⟨by show x.1.1 ≤ 10; omega, by show x.1.2 ≤ 2; omega, by show x.2.1 ≤ 10; omega, by show x.2.2 ≤ 2; omega, by show (-1 : Int) ≤ 0; decide, by show (0 : Int) ≤ 1; decide, by show (0 : Int) ≤ 0; decide, by show (0 : Int) ≤ 2; decide⟩)
  rw [List.length_map] at this
  exact this
end TW

set_option Elab.async false
set_option linter.all false
set_option maxRecDepth 100000
set_option maxHeartbeats 4000000
/-! The walk, eighth part: rows and their places over the heap. -/
namespace TW
open PySem
open PySem.Spec PyProof.Rows L2 Evl Tlm

theorem walk_nk {P : Program} {w : World} {a : Addr} {o : Obj} {kvs : List (NestedKey × V)} : Walk (ItNK P w a o kvs) kvs.length (fun H => DN P w H a o kvs) (fun i H x H' => H' = H ∧ ∃ k v b, kvs[i]? = some (k, v) ∧ x = .ref b ∧ Nk H k x ∧ k.depth ≤ 8) :=
  ⟨fun _ _ hi h => ⟨h, hi⟩, fun _ h => ⟨h, Nat.le_refl _⟩, fun _ _ _ _ _ _ y => y⟩
theorem walk_ni {P : Program} {w : World} {a : Addr} {o : Obj} {kvs : List (NestedKey × V)} : Walk (ItNI P w a o kvs) kvs.length (fun H => DN P w H a o kvs) (fun i H x H' => ∃ (T : Addr) (k : NestedKey) (v : V) (b : Addr), kvs[i]? = some (k, v) ∧ x = .ref T ∧ H T = none ∧ H' = upd H T (.tup [.ref b, v]) ∧ Nk H k (.ref b) ∧ k.depth ≤ 8) :=
  ⟨fun _ _ hi h => ⟨h, hi⟩, fun _ h => ⟨h, Nat.le_refl _⟩, fun _ _ _ _ _ _ y => y⟩

/-- rows as keys -/
def tk (r : Tlm.Row) : NestedKey := .tup (r.map fun b => .num (sv b))
def rk (r : Tlm.Row) : NestedKey := .tup [tk r, .num (lst r), .num (tot r % 3)]
theorem nums_inj : ∀ {r s : Tlm.Row}, (r.map fun b => NestedKey.num (sv b)) = s.map (fun b => NestedKey.num (sv b)) → r = s
  | [], [], _ => rfl
  | [], _ :: _, e => by simp at e
  | _ :: _, [], e => by simp at e
  | a :: r, b :: s, e => by
    rw [List.map_cons, List.map_cons] at e
    injection e with e1 e2
    injection e1 with e1
    rw [sv_inj e1, nums_inj e2]
theorem tk_inj {r s : Tlm.Row} (e : tk r = tk s) : r = s := by
  unfold tk at e
  injection e with e
  exact nums_inj e
theorem rk_inj {r s : Tlm.Row} (e : rk r = rk s) : r = s := by
  unfold rk at e
  injection e with e
  injection e with e _
  exact tk_inj e
theorem nums_depth : ∀ r : Tlm.Row, NestedKey.depthAll (r.map fun b => NestedKey.num (sv b)) = 0
  | [] => by simp [NestedKey.depthAll]
  | b :: r => by rw [List.map_cons, NestedKey.depthAll, nums_depth r]; simp [NestedKey.depth]
theorem tk_depth (r : Tlm.Row) : (tk r).depth ≤ 8 := by rw [tk, NestedKey.depth, nums_depth]; decide
theorem rk_depth (r : Tlm.Row) : (rk r).depth ≤ 8 := by
  rw [rk, NestedKey.depth, NestedKey.depthAll, tk, NestedKey.depth, nums_depth]
  simp [NestedKey.depth, NestedKey.depthAll]
theorem nums_nks (H : Hp) : ∀ r : Tlm.Row, Nks H (r.map fun b => NestedKey.num (sv b)) (rv r)
  | [] => .nil
  | b :: r => .cons (.num _) (nums_nks H r)
theorem nums_open {H : Hp} : ∀ {r : Tlm.Row} {vs : List V}, Nks H (r.map fun b => NestedKey.num (sv b)) vs → vs = rv r
  | [], _, h => by cases h; rfl
  | b :: r, _, h => by
    rw [List.map_cons] at h
    cases h with
    | cons h1 h2 =>
      cases h1
      rw [nums_open h2]
      rfl
theorem tk_make {H : Hp} {a : Addr} {r : Tlm.Row} (h : H a = some (.tup (rv r))) : Nk H (tk r) (.ref a) := .tup h (nums_nks H r)
theorem tk_open {H : Hp} {a : Addr} {r : Tlm.Row} (h : Nk H (tk r) (.ref a)) : H a = some (.tup (rv r)) := by
  cases h with
  | tup h1 h2 => rw [nums_open h2] at h1; exact h1
theorem rk_make {H : Hp} {a b : Addr} {r : Tlm.Row} (h : H a = some (.tup [.ref b, .int (lst r), .int (tot r % 3)])) (hb : H b = some (.tup (rv r))) : Nk H (rk r) (.ref a) := .tup h (.cons (tk_make hb) (.cons (.num _) (.cons (.num _) .nil)))
theorem rk_open {H : Hp} {a : Addr} {r : Tlm.Row} (h : Nk H (rk r) (.ref a)) : ∃ b, H a = some (.tup [.ref b, .int (lst r), .int (tot r % 3)]) ∧ H b = some (.tup (rv r)) := by
  cases h with
  | tup h1 h2 =>
    cases h2 with
    | cons h3 h4 =>
      cases h4 with
      | cons h5 h6 =>
        cases h5
        cases h6 with
        | cons h7 h8 =>
          cases h7
          cases h8
          cases h3 with
          | tup g1 g2 => exact ⟨_, h1, tk_open (.tup g1 g2)⟩
def pk (x : Pr) : NestedKey := kp2 x.1 x.2
theorem pk_inj {x y : Pr} (e : pk x = pk y) : x = y := by
  obtain ⟨a, b⟩ := kp2_inj e
  exact Prod.ext a b
/-- the keys of a dict as a set of pairs -/
def KS (P : Program) (w : World) (H : Hp) (a : Addr) (Dn : List Pr) : Prop := ∃ o kvs Pn, DN P w H a o kvs ∧ kvs.map (·.1) = List.map pk Pn ∧ ∀ x, x ∈ Pn ↔ x ∈ Dn
def Pls (P : Program) (w : World) (d1 d2 : Tlm.Row) (N : Nat) (H : Hp) (a : Addr) (r : Tlm.Row) : Prop := ∃ o kvs Pn, DN P w H a o kvs ∧ kvs.map (·.1) = List.map pk Pn ∧ ∀ x, x ∈ Pn ↔ PR d1 d2 N r x.1 x.2
section
variable {P : Program} {w : World} {d1 d2 : Tlm.Row} {N : Nat} {H H' : Hp} {a c : Addr} {r : Tlm.Row}
theorem Kp.tups1 (h : ∀ xs, H c ≠ some (.tup xs)) (k : Kp c c H H') : Tups H H' := fun b xs e => by
  have : b ≠ c := fun z => h xs (z ▸ e)
  exact k b _ this this e
theorem Pls.kp (h : Pls P w d1 d2 N H a r) (hc : ∀ xs, H c ≠ some (.tup xs)) (k : Kp c c H H') (ne : a ≠ c) : Pls P w d1 d2 N H' a r := by
  obtain ⟨o, kvs, Pn, D, h2, h3⟩ := h
  exact ⟨o, kvs, Pn, D.mono (k _ _ ne ne D.here) (Kp.tups1 hc k), h2, h3⟩
theorem Pls.on (h : Pls P w d1 d2 N H a r) (e : Ex H H') : Pls P w d1 d2 N H' a r := by
  obtain ⟨o, kvs, Pn, D, h2, h3⟩ := h
  exact ⟨o, kvs, Pn, D.ex' e, h2, h3⟩
theorem KS.on {Dn : List Pr} (h : KS P w H a Dn) (e : Ex H H') : KS P w H' a Dn := by
  obtain ⟨o, kvs, Pn, D, h2, h3⟩ := h
  exact ⟨o, kvs, Pn, D.ex' e, h2, h3⟩
theorem KS.notup {Dn : List Pr} (h : KS P w H a Dn) : ∀ xs, H a ≠ some (.tup xs) := by
  obtain ⟨o, kvs, Pn, D, h2, h3⟩ := h
  exact nob_notup D.here
theorem nodup_of {κ : Type} {f : κ → NestedKey} {kvs : List (NestedKey × V)} {Pn : List κ} (hn : (kvs.map (·.1)).Nodup) (e : kvs.map (·.1) = Pn.map f) : Pn.Nodup := by
  rw [e] at hn
  exact List.Pairwise.imp (fun hab z => hab (by rw [z])) (List.pairwise_map.mp hn)
theorem keys_put {kvs : List (NestedKey × V)} {k : NestedKey} {v : V} : (putK kvs k v).map (·.1) = if (valV kvs k).isSome = true then kvs.map (·.1) else kvs.map (·.1) ++ [k] := by
  unfold putK
  rw [valV_any]
  by_cases h : (valV kvs k).isSome = true
  · rw [if_pos h, if_pos h, List.map_map]
    refine List.map_congr_left fun x _ => ?_
    show (if x.1 = k then (x.1, v) else x).1 = x.1
    split <;> rfl
  · rw [if_neg h, if_neg h, List.map_append]
    rfl
theorem has_key {kvs : List (NestedKey × V)} {k : NestedKey} : (valV kvs k).isSome = true ↔ k ∈ kvs.map (·.1) := by
  constructor
  · intro h
    obtain ⟨v, hv⟩ := Option.isSome_iff_exists.mp h
    exact valV_in hv
  · intro h
    rcases hv : valV kvs k with _ | v
    · exact absurd h (valV_not hv)
    · rfl
theorem KS.put {Dn : List Pr} {o' : Obj} {kvs : List (NestedKey × V)} {Pn : List Pr} {x : Pr} {v : V} (h2 : kvs.map (·.1) = List.map pk Pn) (h3 : ∀ y, y ∈ Pn ↔ y ∈ Dn) (D' : DN P w H' a o' (putK kvs (pk x) v)) : KS P w H' a (Dn ++ [x]) := by
  have hk := keys_put (kvs := kvs) (k := pk x) (v := v)
  by_cases h : (valV kvs (pk x)).isSome = true
  · rw [if_pos h] at hk
    refine ⟨o', _, Pn, D', by rw [hk, h2], fun y => ?_⟩
    rw [List.mem_append, List.mem_singleton, h3]
    have hx : x ∈ Dn := by
      have := has_key.mp h
      rw [h2] at this
      obtain ⟨z, hz, e⟩ := List.mem_map.mp this
      rw [← pk_inj e, ← h3]
      exact hz
    constructor
    · exact fun z => .inl z
    · rintro (z | rfl)
      · exact z
      · exact hx
  · rw [if_neg h] at hk
    refine ⟨o', _, Pn ++ [x], D', by rw [hk, h2, List.map_append]; rfl, fun y => ?_⟩
    rw [List.mem_append, List.mem_append, h3]
/-- the rows of a turn: the dict at lt -/
def RwR (P : Program) (w : World) (d1 d2 : Tlm.Row) (N : Nat) (H : Hp) (lt : Addr) (RL : List (Tlm.Row × Addr)) : Prop := ∃ o kvs, DN P w H lt o kvs ∧ Paired (fun p x => p.1 = rk x.1 ∧ p.2 = .ref x.2 ∧ x.2 ≠ lt ∧ Pls P w d1 d2 N H x.2 x.1) kvs RL
theorem RwR.on {RL : List (Tlm.Row × Addr)} (h : RwR P w d1 d2 N H a RL) (e : Ex H H') : RwR P w d1 d2 N H' a RL := by
  obtain ⟨o, kvs, D, hp⟩ := h
  exact ⟨o, kvs, D.ex' e, Paired.mapP hp fun _ _ z => ⟨z.1, z.2.1, z.2.2.1, z.2.2.2.on e⟩⟩
theorem RwR.keys {RL : List (Tlm.Row × Addr)} {kvs : List (NestedKey × V)} (hp : Paired (fun p x => p.1 = rk x.1 ∧ p.2 = .ref x.2 ∧ x.2 ≠ a ∧ Pls P w d1 d2 N H x.2 x.1) kvs RL) : kvs.map (·.1) = (RL.map (·.1)).map rk := by
  induction hp with
  | nil => rfl
  | cons z _ ih => rw [List.map_cons, List.map_cons, List.map_cons, ih, z.1]
theorem RwR.nodup {RL : List (Tlm.Row × Addr)} (h : RwR P w d1 d2 N H a RL) : (RL.map (·.1)).Nodup := by
  obtain ⟨o, kvs, D, hp⟩ := h
  exact nodup_of D.keys (RwR.keys hp)
theorem RwR.notup {RL : List (Tlm.Row × Addr)} (h : RwR P w d1 d2 N H a RL) : ∀ xs, H a ≠ some (.tup xs) := by
  obtain ⟨o, kvs, D, hp⟩ := h
  exact nob_notup D.here
theorem RwR.cell {RL : List (Tlm.Row × Addr)} (h : RwR P w d1 d2 N H a RL) : ∃ o, H a = some o := by
  obtain ⟨o, kvs, D, hp⟩ := h
  exact ⟨_, D.here⟩
/-- a new row is kept -/
theorem RwR.put {RL : List (Tlm.Row × Addr)} {o' : Obj} {kvs : List (NestedKey × V)} {nw : Addr} (hp : Paired (fun p x => p.1 = rk x.1 ∧ p.2 = .ref x.2 ∧ x.2 ≠ a ∧ Pls P w d1 d2 N H x.2 x.1) kvs RL) (hnew : r ∉ RL.map (·.1)) (ht : ∀ xs, H a ≠ some (.tup xs))
    (D' : DN P w (upd H a (nob a o')) a o' (putK kvs (rk r) (.ref nw))) (hne : nw ≠ a) (hpl : Pls P w d1 d2 N H nw r) : RwR P w d1 d2 N (upd H a (nob a o')) a (RL ++ [(r, nw)]) := by
  have hv : (valV kvs (rk r)).isSome = false := by
    rw [Bool.eq_false_iff]
    intro z
    have := has_key.mp z
    rw [RwR.keys hp] at this
    obtain ⟨y, hy, e⟩ := List.mem_map.mp this
    exact hnew (rk_inj e ▸ hy)
  rw [putK_new hv] at D'
  have k : Kp a a H (upd H a (nob a o')) := Kp.sn
  exact ⟨o', _, D', Paired.snoc (Paired.mapP hp fun _ _ z => ⟨z.1, z.2.1, z.2.2.1, z.2.2.2.kp ht k z.2.2.1⟩) ⟨rfl, rfl, hne, hpl.kp ht k hne⟩⟩
end
theorem Paired.get {α β : Type} {F : α → β → Prop} : ∀ {l : List α} {m : List β} {i : Nat} {x : α}, Paired F l m → l[i]? = some x → ∃ y, m[i]? = some y ∧ F x y
  | _, _, i, _, .nil, h => by simp at h
  | _, _, 0, _, .cons f _, h => by
    simp at h
    subst h
    exact ⟨_, rfl, f⟩
  | _, _, i + 1, _, .cons _ t, h => by
    have h' := Paired.get t (i := i) (by simpa using h)
    simpa using h'
end TW

set_option Elab.async false
set_option linter.all false
set_option maxRecDepth 100000
set_option maxHeartbeats 4000000
/-! The walk, ninth part (printed by gen_w7.py): all the tops. -/
namespace TW
open PySem
open PySem.Spec PyProof.Rows L2 Evl Tlm
theorem ex_kp {c : Addr} {H H1 H2 : Hp} (e : Ex H H1) (h : H c = none) (k : Kp c c H1 H2) : Ex H H2 := fun a o ha => by
  have : a ≠ c := fun z => by subst z; rw [h] at ha; cases ha
  exact k a o this this (e a o ha)
/-- the keys of now, each reached -/
def KSP (P : Program) (w : World) (d1 d2 : Tlm.Row) (N : Nat) (r : Tlm.Row) (H : Hp) (a : Addr) (Dn : List Pr) : Prop := KS P w H a Dn ∧ ∀ x ∈ Dn, PR d1 d2 N r x.1 x.2
theorem KSP.on {P : Program} {w : World} {d1 d2 : Tlm.Row} {N : Nat} {r : Tlm.Row} {H H' : Hp} {a : Addr} {Dn : List Pr} (h : KSP P w d1 d2 N r H a Dn) (e : Ex H H') : KSP P w d1 d2 N r H' a Dn := ⟨h.1.on e, h.2⟩
theorem ext2_len : ∀ l : List Tlm.Row, (l.flatMap fun x => [x ++ [true], x ++ [false]]).length = 2 * l.length
  | [] => rfl
  | x :: l => by
    rw [List.flatMap_cons, List.length_append, ext2_len l]
    show 2 + 2 * l.length = 2 * (l.length + 1)
    omega
theorem ext2_mem {l : List Tlm.Row} {x : Tlm.Row} : x ∈ (l.flatMap fun x => [x ++ [true], x ++ [false]]) ↔ ∃ y ∈ l, ∃ b, x = y ++ [b] := by
  rw [List.mem_flatMap]
  constructor
  · rintro ⟨y, hy, hx⟩
    rcases List.mem_cons.mp hx with rfl | hx
    · exact ⟨y, hy, true, rfl⟩
    · exact ⟨y, hy, false, List.mem_singleton.mp hx⟩
  · rintro ⟨y, hy, b, rfl⟩
    refine ⟨y, hy, ?_⟩
    cases b <;> simp
theorem step_fresh {RW : List (Tlm.Row × Addr)} (hn : (RW.map (·.1)).Nodup) {i j : Nat} {r : Tlm.Row} {pa : Addr} {b : Bool} (hi : RW[i]? = some (r, pa)) (hj : [true, false][j]? = some b) :
    r ++ [b] ∉ (((RW.take i).map (·.1)).flatMap fun x => [x ++ [true], x ++ [false]]) ++ ([true, false].take j).map (fun b => r ++ [b]) := by
  intro hm
  rcases List.mem_append.mp hm with z | z
  · obtain ⟨y, hy, b', e⟩ := ext2_mem.mp z
    obtain ⟨rfl, _⟩ := List.append_inj' e rfl
    rw [List.map_take] at hy
    obtain ⟨k, hk⟩ := List.mem_iff_getElem?.mp hy
    have hki : k < i := by
      have := (List.getElem?_eq_some_iff.mp hk).1
      rw [List.length_take] at this
      omega
    rw [List.getElem?_take_of_lt hki] at hk
    have hi' : (RW.map (·.1))[i]? = some r := by rw [List.getElem?_map, hi]; rfl
    have := (List.getElem?_inj (by exact (List.getElem?_eq_some_iff.mp hk).1) hn).mp (hk.trans hi'.symm)
    omega
  · obtain ⟨c, hc, e⟩ := List.mem_map.mp z
    have e' := List.append_cancel_left e
    match j with
    | 0 => simp at hc
    | 1 => simp at hj hc; subst hj; subst hc; simp at e'
    | j + 2 => simp at hj

section
variable {P : Program} {w : World} {K : PySem.W.Frag} {mg : Str → Option Value} {base : Heap}
/-- a dict with as many keys as there are rows of N steps above both -/
def spTopsOf (P : Program) (w : World) : Sp := fun vs H Q _ => ∃ a s t N, vs = [.str (wd a s), .str (wd a t), .int ((N + 1 : Nat) : Int)] ∧ a < 3 ∧ 1 ≤ s.length ∧ s.length ≤ 10 ∧ 1 ≤ t.length ∧ t.length ≤ 10 ∧ N ≤ 10 ∧
  ∀ d o kvs H2, H d = none → Ex H H2 → DN P w H2 d o kvs → (∀ Ws : List Tlm.Row, Ws.Nodup → (∀ x, x ∈ Ws ↔ x.length = N ∧ Ab s x ∧ Ab t x) → kvs.length = Ws.length) → Q (.ref d) H2
theorem ok_tops_of {f f1 f2 fm : Addr} {fd fd1 fd2 fdm : FuncData} (D : Dfn K mg "tops_of" sTopsOf ["one", "other", "many"] f fd) (D1 : Dfn K mg "steps_of" sStepsOf ["word"] f1 fd1) (G1 : FnOk P w K mg base CX0 1 f1 fd1 ["word"] spStepsOf)
    (D2 : Dfn K mg "sums_of" sSumsOf ["due"] f2 fd2) (G2 : FnOk P w K mg base CX0 1 f2 fd2 ["due"] (spSumsOf K))
    (Dm : Dfn K mg "moves_on" sMovesOn ["due", "sums", "state", "step", "last", "whole"] fm fdm) (Gm : FnOk P w K mg base CX0 1 fm fdm ["due", "sums", "state", "step", "last", "whole"] (spMovesOn K)) (T : Txt mg) :
    FnOk P w K mg base CX0 2 f fd ["one", "other", "many"] (spTopsOf P w) := by
  refine D.F.ok scTopsOf (fun vs H Q E h => ?_) (fun cdv A0 outer s0 H vs Q E hrm h => ?_)
  · obtain ⟨a, s, t, N, rfl, _⟩ := h
    rfl
  · obtain ⟨a, s, t, N, rfl, ha, n1, n2, n3, n4, hN, qq⟩ := h
    refine ⟨_, (pss_cons (ps_par (i := 3) (j := 4) rfl scTopsOf.nd rfl rfl (by decide) rfl rfl (pa_cons (pe_fn D1 G1 hrm (pa_cons (pv 0) pa_nil)) (pa_cons (pe_fn D1 G1 hrm (pa_cons (pv 1) pa_nil)) pa_nil)) rfl)
      (pss_cons (ps_par (i := 5) (j := 6) rfl scTopsOf.nd rfl rfl (by decide) rfl rfl (pa_cons (pe_fn D2 G2 hrm (pa_cons (pv 3) pa_nil)) (pa_cons (pe_fn D2 G2 hrm (pa_cons (pv 4) pa_nil)) pa_nil)) rfl)
      (pss_cons (ps_set (i := 7) scTopsOf.nd rfl (.inl rfl) (pe_none hrm.units (pe_tup (pa_cons (pe_tup pa_nil) (pa_cons pe_int (pa_cons pe_int pa_nil)))) (pe_none hrm.units (pe_tup (pa_cons (pe_tup (pa_cons pe_int (pa_cons pe_int pa_nil))) (pa_cons (pe_tup (pa_cons pe_int (pa_cons pe_int pa_nil))) pa_nil))) pe_bl)))
      (pss_cons (ps_for PassesOwn.never rfl (pi_range1 rfl T.range (pa_cons (pe_op op_sub (pv 2) pe_int) pa_nil)) (pg_name (i := 8) scTopsOf.nd rfl (.inl rfl))
      (pss_cons (ps_set (i := 9) scTopsOf.nd rfl (.inl rfl) pe_nnew)
      (pss_cons (ps_for PassesOwn.never rfl (pi_nitems (pv 7)) (pg_tup rfl (pgs_cons (pg_tup rfl (pgs_cons (pg_name (i := 10) scTopsOf.nd rfl (.inl rfl)) (pgs_cons (pg_name (i := 11) scTopsOf.nd rfl (.inl rfl)) (pgs_cons (pg_name (i := 12) scTopsOf.nd rfl (.inl rfl)) pgs_nil)))) (pgs_cons (pg_name (i := 13) scTopsOf.nd rfl (.inl rfl)) pgs_nil)))
      (pss_one (ps_for PassesOwn.never rfl (pi_tup (pe_tup (pa_cons pe_int (pa_cons (pe_un un_neg pe_int) pa_nil)))) (pg_name (i := 14) scTopsOf.nd rfl (.inl rfl))
      (pss_cons (ps_par (i := 15) (j := 16) rfl scTopsOf.nd rfl rfl (by decide) rfl rfl (pa_cons pe_nnew (pa_cons (pe_op op_mod (pe_op op_add (pv 12) (pv 14)) pe_int) pa_nil)) rfl)
      (pss_cons (ps_for PassesOwn.never rfl (pi_nkeys (pv 13)) (pg_tup rfl (pgs_cons (pg_name (i := 17) scTopsOf.nd rfl (.inl rfl)) (pgs_cons (pg_name (i := 18) scTopsOf.nd rfl (.inl rfl)) pgs_nil)))
      (pss_one (ps_for PassesOwn.never rfl (pi_list (pe_fn Dm Gm hrm (pa_cons (pv 3) (pa_cons (pv 5) (pa_cons (pv 17) (pa_cons (pv 14) (pa_cons (pv 11) (pa_cons (pv 16) pa_nil)))))))) (pg_name (i := 19) scTopsOf.nd rfl (.inl rfl))
      (pss_one (ps_for PassesOwn.never rfl (pi_list (pe_fn Dm Gm hrm (pa_cons (pv 4) (pa_cons (pv 6) (pa_cons (pv 18) (pa_cons (pv 14) (pa_cons (pv 11) (pa_cons (pv 16) pa_nil)))))))) (pg_name (i := 20) scTopsOf.nd rfl (.inl rfl))
      (pss_one (ps_if (PW.pt (pw_and (pt_cmpR op_le (pe_op op_sub (pe_callB call_len_seq (by rfl) T.len (by decide +kernel) (pa_cons (pv 3) pa_nil)) (pe_ix ix_tup (pv 19) pe_int (fun _ _ => rfl))) (pe_op op_sub (pe_op op_sub (pv 2) pe_int) (pv 8)) (nomark _)) (pw_and1 (pt_cmpR op_le (pe_op op_sub (pe_callB call_len_seq (by rfl) T.len (by decide +kernel) (pa_cons (pv 4) pa_nil)) (pe_ix ix_tup (pv 20) pe_int (fun _ _ => rfl))) (pe_op op_sub (pe_op op_sub (pv 2) pe_int) (pv 8)) (nomark _))))) (pss_one (ps_asg pe_bl (pg_sub (pv 15) (pe_tup (pa_cons (pv 19) (pa_cons (pv 20) pa_nil))) (set_nest hrm.units)))) pss_nil)))))))
      (pss_one (ps_if (pt_cmpR (op_nne hrm.units) (pv 15) pe_nnew (nomark _)) (pss_one (ps_asg (pv 15) (pg_sub (pv 9) (pe_tup (pa_cons (pe_tup (StX.pa_star (pv 10) (pa_cons (pv 14) pa_nil))) (pa_cons (pv 14) (pa_cons (pv 16) pa_nil)))) (set_nest hrm.units)))) pss_nil)))))))
      (pss_one (ps_set (i := 7) scTopsOf.nd rfl (.inl rfl) (pv 9))))))
      (pss_cons (ps_set (i := 21) scTopsOf.nd rfl (.inr rfl) (pe_tup (pa_cons (pe_tup (pa_cons (pe_callB call_len_seq (by rfl) T.len (by decide +kernel) (pa_cons (pv 3) pa_nil)) (pa_cons pe_int pa_nil))) (pa_cons (pe_tup (pa_cons (pe_callB call_len_seq (by rfl) T.len (by decide +kernel) (pa_cons (pv 4) pa_nil)) (pa_cons pe_int pa_nil))) pa_nil))))
      (pss_one (ps_ret (pe_ndc (own := [("told", 10), ("last", 11), ("whole", 12), ("places", 13)]) (g := gTup K 2 (gCons (gTup K 3 (gCons (gName 10) (gCons (gName 11) (gCons (gName 12) gNil)))) (gCons (gName 13) gNil))) (tt := tTest (tOp (rNIn P w) (tVar 21) (tVar 13))) hrm.units rfl scTopsOf.nd (pi_nitems (pv 7)) (blkOk_by (own := [("told", 10), ("last", 11), ("whole", 12), ("places", 13)]) (N := nTopsOf) (sc := defScope sTopsOf) (by decide +kernel)) (fun _ _ _ _ _ => (pg_tup rfl (pgs_cons (pg_tup rfl (pgs_cons (pg_name (i := 10) scTopsOf.nd rfl (.inl rfl)) (pgs_cons (pg_name (i := 11) scTopsOf.nd rfl (.inl rfl)) (pgs_cons (pg_name (i := 12) scTopsOf.nd rfl (.inl rfl)) pgs_nil)))) (pgs_cons (pg_name (i := 13) scTopsOf.nd rfl (.inl rfl)) pgs_nil)))) (fun _ _ _ _ _ => pts_one (pt_cmpR (op_nin hrm.units) (pv 21) (pv 13) rfl)) (fun _ _ _ _ _ => pv 10) (fun _ _ _ _ _ => pe_bl))))))))), ?_⟩
    have z2 : 2 ≤ sizeLine := by decide
    have z3 : 3 ≤ sizeLine := by decide
    have z1 : 1 ≤ sizeLine := by decide
    refine ⟨.str (wd a s), rfl, a, s, rfl, ha, n1, by omega, fun pd H1 hpd e1 h1 => ⟨.str (wd a t), rfl, a, t, rfl, ha, n3, by omega, fun pm H2 hpm e2 h2 => ⟨.ref pd, .ref pm, rfl, ?_⟩⟩⟩
    refine ⟨.ref pd, rfl, pd, s, rfl, sq_of (e2 _ _ h1), by omega, fun l1 H3 _ e3 h3 => ⟨.ref pm, rfl, pm, t, rfl, sq_of (e3 _ _ h2), by omega, fun l2 Hb _ e4 h4 => ⟨.ref l1, .ref l2, rfl, ?_⟩⟩⟩
    have e0 : Ex H Hb := ((e1.trans e2).trans e3).trans e4
    have gd : Hb pd = some (.lst (rv s)) := (e3.trans e4) _ _ (e2 _ _ h1)
    have gm : Hb pm = some (.lst (rv t)) := (e3.trans e4) _ _ h2
    have g1 : Hb l1 = some (.lst (sums s)) := e4 _ _ h3
    have g2 : Hb l2 = some (.lst (sums t)) := h4
    clear h1 h2 h3 h4 e1 e2 e3 e4
    have rl1 : (rv s).length = s.length := by unfold rv; rw [List.length_map]
    have rl2 : (rv t).length = t.length := by unfold rv; rw [List.length_map]
    refine fun rw0 o0 hrw D0 => ⟨Nat.zero_le _, fun te hte => ⟨z3, fun k0 hk0 => fun pa0 o1 hpa Da => ⟨z2, fun t1 ht1 => ⟨z2, fun t2 ht2 => ⟨z2, fun t3 ht3 => ?_⟩⟩⟩⟩⟩
    have E1 := (Ex.new hte (o := .tup [])).trans (Ex.new hk0 (o := .tup [.ref te, .int 0, .int 0]))
    have E2 := (Ex.new ht1 (o := .tup [.int 0, .int 0])).trans ((Ex.new ht2 (o := .tup [.int 0, .int 0])).trans (Ex.new ht3 (o := .tup [.ref t1, .ref t2])))
    have c1 := ((Ex.new ht2 (o := .tup [.int 0, .int 0])).trans (Ex.new ht3 (o := .tup [.ref t1, .ref t2]))) _ _ (upd_same (o := HO.tup [.int 0, .int 0]))
    have c2 := (Ex.new ht3 (o := .tup [.ref t1, .ref t2])) _ _ (upd_same (o := HO.tup [.int 0, .int 0]))
    have hpr : pa0 ≠ rw0 := fun z => by subst z; have := E1 _ _ D0.here; rw [hpa] at this; cases this
    refine ⟨E2 _ _ Da.here, pk ((0, 0), (0, 0)), t3, rfl, nk2_make (x := (0, 0)) (y := (0, 0)) upd_same c1 c2, kp2_depth _ _, fun o2 D2' => ⟨?_, rk [], k0, rfl, ?_, rk_depth _, fun o3 D3 => ?_⟩⟩
    · rw [upd_ne (fun z => hpr z.symm)]
      exact E2 _ _ ((Ex.new hpa) _ _ (E1 _ _ D0.here))
    · have f1 : ∀ {x : Addr} {u : HO}, (upd (upd (upd Hb rw0 (nob rw0 o0)) te (.tup [])) k0 (.tup [.ref te, .int 0, .int 0])) x = some u → x ≠ pa0 := fun {x u} hx z => by subst z; rw [hpa] at hx; cases hx
      have ck := upd_same (H := upd (upd Hb rw0 (nob rw0 o0)) te (.tup [])) (a := k0) (o := HO.tup [.ref te, .int 0, .int 0])
      have ct := (Ex.new hk0 (o := .tup [.ref te, .int 0, .int 0])) _ _ (upd_same (H := upd Hb rw0 (nob rw0 o0)) (a := te) (o := HO.tup []))
      refine rk_make (r := []) (b := te) ?_ ?_
      · rw [upd_ne (f1 ck)]
        exact E2 _ _ ((Ex.new hpa) _ _ ck)
      · rw [upd_ne (f1 ct)]
        exact E2 _ _ ((Ex.new hpa) _ _ ct)
    have eA : Ex Hb _ := Ex.mut (Ex.mut ((((Ex.new hrw (o := nob rw0 o0)).trans E1).trans (Ex.new hpa (o := nob pa0 o1))).trans E2) (fresh_back ((Ex.new hrw (o := nob rw0 o0)).trans E1) hpa) (o := nob pa0 o2)) hrw (o := nob rw0 o3)
    have hR0 : RwR P w s t N _ rw0 [([], pa0)] := ⟨o3, _, D3, .cons ⟨rfl, rfl, hpr, ?_⟩ .nil⟩
    rotate_left
    · refine ⟨o2, _, [((0, 0), (0, 0))], D2'.mono ?_ (Tups.upd fun xs z => ?_), rfl, fun x => ?_⟩
      · rw [upd_ne hpr]; exact upd_same
      · rw [upd_ne (fun z => hpr z.symm), E2 _ _ ((Ex.new hpa) _ _ (E1 _ _ D0.here))] at z
        cases z
      · rw [List.mem_singleton, PR.nil_iff]
        constructor
        · intro z; subst z; exact ⟨rfl, rfl⟩
        · rintro ⟨z1, z2⟩; exact Prod.ext z1 z2
    clear D0 E1 E2 c1 c2 D2' D3
    revert eA hR0
    generalize upd (upd _ pa0 (nob pa0 o2)) rw0 (nob rw0 o3) = H0
    intro eA hR0
    refine q_forR1 (n := (N : Int)) (ea_cons (ev_is (ev_op (ev_var rfl) ev_c rv_I0) (by congr 1; omega)) ea_nil) ⟨by omega, by omega⟩
      (fun n σ H' => ∃ rw RW y8 y9 y10 y11 y12 y13 y14 y15 y16 y17 y18 y19 y20 y21, σ = [some (.str (wd a s)), some (.str (wd a t)), some (.int ((N + 1 : Nat) : Int)), some (.ref pd), some (.ref pm), some (.ref l1), some (.ref l2), some (.ref rw), y8, y9, y10, y11, y12, y13, y14, y15, y16, y17, y18, y19, y20, y21] ∧ Ex Hb H' ∧ RwR P w s t N H' rw RW ∧ (∀ x, x ∈ RW.map (·.1) ↔ x.length = n ∧ ∃ l r, PR s t N x l r) ∧ RW.length ≤ 2 ^ n)
      (fun H1 e1 => ⟨rw0, [([], pa0)], none, none, none, none, none, none, none, none, none, none, none, none, none, none, rfl, eA.trans e1, hR0.on e1, fun x => ?_, by simp⟩) ?_ ?_
    · show x ∈ [[]] ↔ _
      rw [List.mem_singleton]
      constructor
      · rintro rfl
        exact ⟨rfl, _, _, .nil⟩
      · rintro ⟨z, _⟩
        exact List.length_eq_zero_iff.mp z
    · rintro n σ H5 hn ⟨rw, RW, y8, y9, y10, y11, y12, y13, y14, y15, y16, y17, y18, y19, y20, y21, rfl, ex5, hRW, hmem, hlen⟩
      have hnN : n < N := by omega
      have hp10 : 2 ^ n ≤ 1024 := Nat.le_trans (Nat.pow_le_pow_right (by decide) (show n ≤ 10 by omega)) (by decide)
      refine fun lt o0 hlt Dl => ?_
      have e6 := Ex.new hlt (o := nob lt o0)
      have hRn := hRW.nodup
      have hR6 := hRW.on e6
      have ex6 := ex5.trans e6
      have hbl : Hb lt = none := fresh_back ex5 hlt
      have hrl : rw ≠ lt := fun z => by subst z; obtain ⟨o', h'⟩ := hRW.cell; rw [h'] at hlt; cases hlt
      have hpn : ∀ x ∈ RW, x.2 ≠ lt := fun x hx z => by
        obtain ⟨o', kvs', D', hp'⟩ := hRW
        obtain ⟨i, hi⟩ := List.mem_iff_getElem?.mp hx
        have : i < kvs'.length := by rw [Paired.length hp']; exact (List.getElem?_eq_some_iff.mp hi).1
        obtain ⟨y, hy, e1, e2, e3, o4, k4, P4, D4, _⟩ := Paired.get hp' (List.getElem?_eq_getElem this)
        rw [hi] at hy
        cases hy
        rw [← z] at hlt
        rw [D4.here] at hlt
        cases hlt
      clear hRW ex5 hlt
      revert Dl e6 hR6 ex6
      generalize upd H5 lt (nob lt o0) = H6
      intro Dl e6 hR6 ex6
      have hl6 := nob_notup Dl.here
      obtain ⟨o6, kvs6, D6, hp6⟩ := hR6
      obtain ⟨dA, hdA⟩ : ∃ dA : Nat → List Tlm.Row, dA = fun i => ((RW.take i).map (·.1)).flatMap fun x => [x ++ [true], x ++ [false]] := ⟨_, rfl⟩
      refine ⟨.ref rw, rfl, rw, o6, kvs6, rfl, D6, for_it walk_ni (fun i σ H' => ∃ RL y10 y11 y12 y13 y14 y15 y16 y17 y18 y19 y20 y21, σ = [some (.str (wd a s)), some (.str (wd a t)), some (.int ((N + 1 : Nat) : Int)), some (.ref pd), some (.ref pm), some (.ref l1), some (.ref l2), some (.ref rw), some (.int (n : Nat)), some (.ref lt), y10, y11, y12, y13, y14, y15, y16, y17, y18, y19, y20, y21] ∧ Kp lt lt H6 H' ∧ RwR P w s t N H' lt RL ∧ (∀ x, x ∈ RL.map (·.1) ↔ x ∈ dA i ∧ ∃ l r, PR s t N x l r) ∧ RL.length ≤ (dA i).length ∧ Ex Hb H')
        ⟨[], y10, y11, y12, y13, y14, y15, y16, y17, y18, y19, y20, y21, rfl, Kp.refl _ _ _, ⟨o0, [], Dl, .nil⟩, fun x => by rw [hdA]; simp, by simp, ex6⟩ (fun i σ H' _ p => by obtain ⟨RL, y10, y11, y12, y13, y14, y15, y16, y17, y18, y19, y20, y21, rfl, kp, _⟩ := p; exact D6.mono (kp _ _ hrl hrl D6.here) (Kp.tups1 hl6 kp)) ?_ ?_⟩
      · rintro i v σ H7 H7' hi ⟨RL, y10, y11, y12, y13, y14, y15, y16, y17, y18, y19, y20, y21, rfl, kp7, hRL, hm7, hl7, ex7⟩ ⟨T0, k, v', kb, hkv, rfl, hT, rfl, hk, hdep⟩
        obtain ⟨⟨r, pa⟩, hr, ek, ev, hne', hpls⟩ := Paired.get hp6 hkv
        simp only at ek ev hne' hpls
        subst ek
        subst ev
        have hpl := hpn _ (List.mem_of_getElem? hr)
        simp only at hpl
        obtain ⟨told, kk1, kk2⟩ := rk_open hk
        have e8 := Ex.new hT (o := .tup [.ref kb, .ref pa])
        refine ⟨T0, _, rfl, st_of upd_same, rfl, .ref kb, _, rfl, ⟨kb, _, rfl, st_of (e8 _ _ kk1), rfl, .ref told, _, rfl, .int (lst r), _, rfl, .int (tot r % 3), _, rfl, rfl, .ref pa, _, rfl, rfl, ?_⟩⟩
        have hR8 := hRL.on e8
        have kp8 := kp7.trans (Kp.of (sn := lt) (lt := lt) e8)
        have ct := e8 _ _ kk2
        have ex8 := ex7.trans e8
        have hP8 := (hpls.kp hl6 kp7 hpl).on e8
        revert hR8 kp8 ct ex8 hP8
        generalize upd H7 T0 (.tup [.ref kb, .ref pa]) = H8
        intro hR8 kp8 ct ex8 hP8
        refine ⟨1, rfl, z2, fun tt0 htt0 => ⟨tt0, rfl, ⟨[.int 1, .int (-1)], st_of upd_same⟩, ?_⟩⟩
        have e9 := Ex.new htt0 (o := .tup [.int 1, .int (-1)])
        have c9 := upd_same (H := H8) (a := tt0) (o := HO.tup [.int 1, .int (-1)])
        have hR9 := hR8.on e9
        have ct9 := e9 _ _ ct
        have ex9 := ex8.trans e9
        have hP9 := hP8.on e9
        have kp9' := kp8.trans (Kp.of (sn := lt) (lt := lt) e9)
        have hrlen : r.length = n := ((hmem r).mp (List.mem_map.mpr ⟨_, List.mem_of_getElem? hr, rfl⟩)).1
        have hntt : tt0 ≠ lt := fun z => by subst z; obtain ⟨o', h'⟩ := hR8.cell; rw [htt0] at h'; cases h'
        clear e9 hR8 ct ex8 hP8 kp8
        revert c9 hR9 ct9 ex9 hP9 kp9'
        generalize upd H8 tt0 (.tup [.int 1, .int (-1)]) = H9
        intro c9 hR9 ct9 ex9 hP9 kp9'
        have hl9 := hR9.notup
        obtain ⟨dB, hdB⟩ : ∃ dB : Nat → List Tlm.Row, dB = fun j => dA i ++ ([true, false].take j).map (fun b => r ++ [b]) := ⟨_, rfl⟩
        refine for_tup (fun j σ H' => ∃ RL y14 y15 y16 y17 y18 y19 y20 y21, σ = [some (.str (wd a s)), some (.str (wd a t)), some (.int ((N + 1 : Nat) : Int)), some (.ref pd), some (.ref pm), some (.ref l1), some (.ref l2), some (.ref rw), some (.int (n : Nat)), some (.ref lt), some (.ref told), some (.int (lst r)), some (.int (tot r % 3)), some (.ref pa), y14, y15, y16, y17, y18, y19, y20, y21] ∧ Kp lt lt H9 H' ∧ RwR P w s t N H' lt RL ∧ (∀ x, x ∈ RL.map (·.1) ↔ x ∈ dB j ∧ ∃ l r, PR s t N x l r) ∧ RL.length ≤ (dB j).length ∧ Ex Hb H')
          ⟨RL, y14, y15, y16, y17, y18, y19, y20, y21, rfl, Kp.refl _ _ _, hR9, by rw [hdB]; simpa using hm7, by rw [hdB]; simpa using hl7, ex9⟩ (fun j σ H' _ p => by obtain ⟨RL, y14, y15, y16, y17, y18, y19, y20, y21, rfl, kp, _⟩ := p; exact st_of (kp _ _ hntt hntt c9)) ?_ ?_
        · rintro j x σ H10 hj ⟨RL, y14, y15, y16, y17, y18, y19, y20, y21, rfl, kp10, hR10, hm10, hl10, ex10⟩
          obtain ⟨b, hb, rfl⟩ := steps_at hj
          have hP10 := hP9.kp hl9 kp10 hpl
          have ct10 := kp10 _ _ (fun z => hl9 _ (z ▸ ct9)) (fun z => hl9 _ (z ▸ ct9)) ct9
          refine fun nw o1 hnw Dn => ev_op (ev_op (ev_var rfl) (ev_var rfl) rv_I0) ev_c (rv_I (by decide)) _ (Ex.refl _) _ fun H12 e12 => ⟨.ref nw, .int ((tot r % 3 + sv b) % 3), rfl, ?_⟩
          have e10 : Ex H10 H12 := (Ex.new hnw).trans e12
          have hP12 := hP10.on e10
          obtain ⟨o2, kvs2, Pn, D2, hk2, hm2⟩ := hP12
          have hpw : pa ≠ nw := fun z => by obtain ⟨o', k', P', D', _⟩ := hP10; subst z; rw [D'.here] at hnw; cases hnw
          have hnl : nw ≠ lt := fun z => by subst z; obtain ⟨o', h'⟩ := hR10.cell; rw [h'] at hnw; cases hnw
          have K12 : KSP P w s t N (r ++ [b]) H12 nw [] := ⟨⟨o1, [], [], Dn.ex' e12, rfl, fun x => Iff.rfl⟩, fun x hx => by cases hx⟩
          have hw12 := K12.1.notup
          obtain ⟨dC, hdC⟩ : ∃ dC : Nat → List Pr, dC = fun c => (Pn.take c).flatMap (cd1 s t N r b) := ⟨_, rfl⟩
          refine ⟨.ref pa, rfl, pa, o2, kvs2, rfl, D2, for_it walk_nk (fun c σ H' => ∃ y17 y18 y19 y20 y21, σ = [some (.str (wd a s)), some (.str (wd a t)), some (.int ((N + 1 : Nat) : Int)), some (.ref pd), some (.ref pm), some (.ref l1), some (.ref l2), some (.ref rw), some (.int (n : Nat)), some (.ref lt), some (.ref told), some (.int (lst r)), some (.int (tot r % 3)), some (.ref pa), some (.int (sv b)), some (.ref nw), some (.int ((tot r % 3 + sv b) % 3)), y17, y18, y19, y20, y21] ∧ Kp nw nw H12 H' ∧ KSP P w s t N (r ++ [b]) H' nw (dC c))
            ⟨y17, y18, y19, y20, y21, rfl, Kp.refl _ _ _, by rw [hdC]; exact K12⟩ (fun c σ H' _ p => by obtain ⟨y17, y18, y19, y20, y21, rfl, kp, _⟩ := p; exact D2.mono (kp _ _ hpw hpw D2.here) (Kp.tups1 hw12 kp)) ?_ ?_⟩
          · rintro c x σ H13z H13 hc ⟨y17, y18, y19, y20, y21, rfl, kp13, K13⟩ ⟨rfl, k2, v2, kb2, hkv2, rfl, hkk2, _⟩
            obtain ⟨y, hy, rfl⟩ : ∃ y, Pn[c]? = some y ∧ pk y = k2 := by
              have : (kvs2.map (·.1))[c]? = some k2 := by rw [List.getElem?_map, hkv2]; rfl
              rw [hk2, List.getElem?_map] at this
              exact Option.map_eq_some_iff.mp this
            obtain ⟨hl, hr', m1, m2, m3⟩ := nk2_open hkk2
            have hyPR := (hm2 y).mp (List.mem_of_getElem? hy)
            have hym1 : y.1.1 ≤ s.length := hyPR.pl.1.le
            have hym2 : y.2.1 ≤ t.length := hyPR.pl.2.le
            refine g_pair (st_of m1) ?_
            have ex13 : Ex H10 H13 := ex_kp e10 hnw kp13
            have exb13 := ex10.trans ex13
            refine ⟨.ref pd, rfl, .ref l1, rfl, .ref hl, rfl, .int (sv b), rfl, .int (lst r), rfl, .int ((tot r % 3 + sv b) % 3), rfl, pd, l1, hl, s, y.1.1, y.1.2, b, lst r, (tot r % 3 + sv b) % 3, rfl, sq_of (exb13 _ _ gd), sq_of (exb13 _ _ g1), st_of m2, hym1, by omega, fun la H14 e14 hla hprs => ?_⟩
            obtain ⟨ts, hts, htl, htx⟩ := hprs
            have K14 := K13.on e14
            have hlan : la ≠ nw := fun z => by subst z; obtain ⟨o', k', P', D', _⟩ := K13.1; rw [D'.here] at hla; cases hla
            have hw14 := K14.1.notup
            obtain ⟨dD, hdD⟩ : ∃ dD : Nat → List Pr, dD = fun p => dC c ++ ((mv s y.1.1 y.1.2 b (lst r) ((tot r % 3 + sv b) % 3)).take p).flatMap (cd2 s t N r b y) := ⟨_, rfl⟩
            refine ⟨la, rfl, ⟨ts.map V.ref, sq_of hts⟩, for_list (fun p σ H' => ∃ y19 y20 y21, σ = [some (.str (wd a s)), some (.str (wd a t)), some (.int ((N + 1 : Nat) : Int)), some (.ref pd), some (.ref pm), some (.ref l1), some (.ref l2), some (.ref rw), some (.int (n : Nat)), some (.ref lt), some (.ref told), some (.int (lst r)), some (.int (tot r % 3)), some (.ref pa), some (.int (sv b)), some (.ref nw), some (.int ((tot r % 3 + sv b) % 3)), some (.ref hl), some (.ref hr'), y19, y20, y21] ∧ Kp nw nw H14 H' ∧ KSP P w s t N (r ++ [b]) H' nw (dD p))
              ⟨y19, y20, y21, rfl, Kp.refl _ _ _, by rw [hdD]; simpa using K14⟩ (fun p σ H' _ z => by obtain ⟨y19, y20, y21, rfl, kp, _⟩ := z; exact sq_of (kp _ _ hlan hlan hts)) ?_ ?_⟩
            · rintro p x σ H15 hp ⟨y19, y20, y21, rfl, kp15, K15⟩
              rw [List.getElem?_map] at hp
              obtain ⟨th, hth, rfl⟩ := Option.map_eq_some_iff.mp hp
              obtain ⟨h, hh⟩ : ∃ h, (mv s y.1.1 y.1.2 b (lst r) ((tot r % 3 + sv b) % 3))[p]? = some h := ⟨_, List.getElem?_eq_getElem (by rw [← htl]; exact (List.getElem?_eq_some_iff.mp hth).1)⟩
              have ath : At2 H14 th h := htx p th h hth hh
              have T15 := Kp.tups1 hw14 kp15
              have exb15 : Ex Hb H15 := ex10.trans (ex_kp (ex13.trans e14) hnw kp15)
              refine ⟨.ref pm, rfl, .ref l2, rfl, .ref hr', rfl, .int (sv b), rfl, .int (lst r), rfl, .int ((tot r % 3 + sv b) % 3), rfl, pm, l2, hr', t, y.2.1, y.2.2, b, lst r, (tot r % 3 + sv b) % 3, rfl, sq_of (exb15 _ _ gm), sq_of (exb15 _ _ g2), st_of (T15 _ _ (e14 _ _ m3)), hym2, by omega, fun lb H16 e16 hlb hprs2 => ?_⟩
              obtain ⟨ts2, hts2, htl2, htx2⟩ := hprs2
              have K16 := K15.on e16
              have hlbn : lb ≠ nw := fun z => by subst z; obtain ⟨o', k', P', D', _⟩ := K15.1; rw [D'.here] at hlb; cases hlb
              have hw16 := K16.1.notup
              obtain ⟨dE, hdE⟩ : ∃ dE : Nat → List Pr, dE = fun q => dD p ++ (((mv t y.2.1 y.2.2 b (lst r) ((tot r % 3 + sv b) % 3)).take q).filter (okp s t N r.length h)).map (fun t => (h, t)) := ⟨_, rfl⟩
              refine ⟨lb, rfl, ⟨ts2.map V.ref, sq_of hts2⟩, for_list (fun q σ H' => ∃ y20 y21, σ = [some (.str (wd a s)), some (.str (wd a t)), some (.int ((N + 1 : Nat) : Int)), some (.ref pd), some (.ref pm), some (.ref l1), some (.ref l2), some (.ref rw), some (.int (n : Nat)), some (.ref lt), some (.ref told), some (.int (lst r)), some (.int (tot r % 3)), some (.ref pa), some (.int (sv b)), some (.ref nw), some (.int ((tot r % 3 + sv b) % 3)), some (.ref hl), some (.ref hr'), some (.ref th), y20, y21] ∧ Kp nw nw H16 H' ∧ KSP P w s t N (r ++ [b]) H' nw (dE q))
                ⟨y20, y21, rfl, Kp.refl _ _ _, by rw [hdE]; simpa using K16⟩ (fun q σ H' _ z => by obtain ⟨y20, y21, rfl, kp, _⟩ := z; exact sq_of (kp _ _ hlbn hlbn hts2)) ?_ ?_⟩
              · rintro q x σ H17 hq ⟨y20, y21, rfl, kp17, K17⟩
                rw [List.getElem?_map] at hq
                obtain ⟨tt, htt, rfl⟩ := Option.map_eq_some_iff.mp hq
                obtain ⟨t', ht'⟩ : ∃ t', (mv t y.2.1 y.2.2 b (lst r) ((tot r % 3 + sv b) % 3))[q]? = some t' := ⟨_, List.getElem?_eq_getElem (by rw [← htl2]; exact (List.getElem?_eq_some_iff.mp htt).1)⟩
                have T17 := Kp.tups1 hw16 kp17
                have att : At2 H17 tt t' := T17 _ _ (htx2 q tt t' htt ht')
                have ath17 : At2 H17 th h := T17 _ _ (e16 _ _ (T15 _ _ ath))
                have exb17 : Ex Hb H17 := ex10.trans (ex_kp ((ex_kp (ex13.trans e14) hnw kp15).trans e16) hnw kp17)
                have hstep : dE (q + 1) = dE q ++ (if okp s t N r.length h t' = true then [(h, t')] else []) := by
                  rw [hdE]
                  show dD p ++ _ = (dD p ++ _) ++ _
                  rw [List.take_add_one, ht', List.append_assoc]
                  congr 1
                  rw [List.filter_append, List.map_append]
                  congr 1
                  by_cases z : okp s t N r.length h t' = true
                  · rw [if_pos z]; simp [z]
                  · rw [if_neg z]; simp [z]
                refine s_when (b := okp s t N r.length h t') (et_is (et_and (et_test (ev_op (ev_op (ev_cb (ea_cons (ev_var rfl) ea_nil) fun H2 e2 Q' q' => ⟨pd, rv s, rfl, .inl (sq_of (e2 _ _ (exb17 _ _ gd))), q' H2 (Ex.refl H2)⟩) (ev_op (ev_var rfl) ev_c (rv_ixT (st_of ath17) (v := .int (h.1 : Nat)) rfl)) rv_I0) (ev_op (ev_op (ev_var rfl) ev_c rv_I0) (ev_var rfl) rv_I0) rv_I0))
                  fun _ => et_test (ev_op (ev_op (ev_cb (ea_cons (ev_var rfl) ea_nil) fun H2 e2 Q' q' => ⟨pm, rv t, rfl, .inl (sq_of (e2 _ _ (exb17 _ _ gm))), q' H2 (Ex.refl H2)⟩) (ev_op (ev_var rfl) ev_c (rv_ixT (st_of att) (v := .int (t'.1 : Nat)) rfl)) rv_I0) (ev_op (ev_op (ev_var rfl) ev_c rv_I0) (ev_var rfl) rv_I0) rv_I0)) ?_) (fun hb2 H18 e18 => ?_) (fun hb2 H18 e18 => ?_)
                · rw [rl1, rl2, ← hrlen]
                  unfold okp
                  congr 1 <;> exact decide_eq_decide.mpr ⟨fun z => by omega, fun z => by omega⟩
                · obtain ⟨⟨o3, kvs3, Pn3, D3, hk3, hm3⟩, hPR3⟩ := K17.on e18
                  have hnd : Pn3.Nodup := nodup_of (f := pk) D3.keys hk3
                  have hlen3 : kvs3.length ≤ 9801 := by
                    have := pr_len hnd (fun x hx => hPR3 x ((hm3 x).mp hx)) n2 n4
                    have e : (kvs3.map (·.1)).length = (List.map pk Pn3).length := by rw [hk3]
                    rw [List.length_map, List.length_map] at e
                    omega
                  refine ⟨.ref nw, rfl, .ref th, rfl, .ref tt, rfl, z2, fun u1 hu1 => ⟨nw, o3, kvs3, pk (h, t'), rfl, D3.ex' (Ex.new hu1), nk2_make upd_same (Ex.new hu1 _ _ (e18 _ _ ath17)) (Ex.new hu1 _ _ (e18 _ _ att)), ⟨u1, rfl⟩, kp2_depth _ _, size_less (by omega), fun o' D' => ?_⟩⟩
                  refine ⟨some (.ref tt), y21, rfl, ((kp17.trans (Kp.of e18)).trans (Kp.of (Ex.new hu1))).trans Kp.sn, ?_⟩
                  rw [hstep, if_pos hb2]
                  refine ⟨KS.put hk3 hm3 D', fun x hx => ?_⟩
                  rcases List.mem_append.mp hx with z | z
                  · exact hPR3 x z
                  · rw [List.mem_singleton.mp z]
                    unfold okp at hb2
                    rw [Bool.and_eq_true, decide_eq_true_iff, decide_eq_true_iff] at hb2
                    exact .snoc hyPR (List.mem_of_getElem? hh) (List.mem_of_getElem? ht') hb2.1 hb2.2
                · refine ⟨some (.ref tt), y21, rfl, kp17.trans (Kp.of e18), ?_⟩
                  rw [hstep, if_neg (by rw [hb2]; decide), List.append_nil]
                  exact K17.on e18
              · rintro σ H17 ⟨y20, y21, rfl, kp17, K17⟩
                refine ⟨some (.ref th), y20, y21, rfl, (kp15.trans (Kp.of e16)).trans kp17, ?_⟩
                have e' : dD (p + 1) = dE (ts2.map V.ref).length := by
                  rw [hdE, List.length_map, htl2, hdD]
                  show dC c ++ _ = (dC c ++ _) ++ _
                  rw [List.take_add_one, hh, List.take_length, List.append_assoc]
                  simp [cd2]
                rw [e']
                exact K17
            · rintro σ H15 ⟨y19, y20, y21, rfl, kp15, K15⟩
              refine ⟨some (.ref hl), some (.ref hr'), y19, y20, y21, rfl, (kp13.trans (Kp.of e14)).trans kp15, ?_⟩
              have e' : dC (c + 1) = dD (ts.map V.ref).length := by
                rw [hdD, List.length_map, htl, hdC]
                show (Pn.take (c + 1)).flatMap _ = (Pn.take c).flatMap _ ++ _
                rw [List.take_add_one, hy, List.take_length]
                simp [cd1]
              rw [e']
              exact K15
          · rintro σ H13 ⟨y17, y18, y19, y20, y21, rfl, kp13, K13⟩
            have hfull : dC kvs2.length = cd0 s t N r b Pn := by
              have e : (kvs2.map (·.1)).length = (List.map pk Pn).length := by rw [hk2]
              rw [List.length_map, List.length_map] at e
              rw [hdC, e]
              show (Pn.take Pn.length).flatMap _ = _
              rw [List.take_length]
              rfl
            have ex13 : Ex H10 H13 := ex_kp e10 hnw kp13
            obtain ⟨o3, kvs3, Pn3, D3, hk3, hm3⟩ := K13.1
            have hm3' : ∀ x, x ∈ Pn3 ↔ PR s t N (r ++ [b]) x.1 x.2 := fun x => by rw [hm3 x, hfull, cd0_iff hm2]
            have hemp : kvs3.isEmpty = false ↔ ∃ l r', PR s t N (r ++ [b]) l r' := by
              have e : (kvs3.map (·.1)).isEmpty = (List.map pk Pn3).isEmpty := by rw [hk3]
              rw [List.isEmpty_map, List.isEmpty_map] at e
              rw [e]
              constructor
              · intro z
                cases Pn3 with
                | nil => cases z
                | cons x l => exact ⟨x.1, x.2, (hm3' x).mp (List.mem_cons_self ..)⟩
              · rintro ⟨l, r', z⟩
                have := (hm3' (l, r')).mpr z
                cases Pn3 with
                | nil => cases this
                | cons x l => rfl
            have hfresh := step_fresh hRn hr hb
            have hstepB : dB (j + 1) = dB j ++ [r ++ [b]] := by
              rw [hdB]
              show dA i ++ _ = (dA i ++ _) ++ _
              rw [List.take_add_one, hb]
              simp
            have hdBl : (dB j).length ≤ 2 * 2 ^ n + 2 := by
              rw [hdB, hdA]
              show ((((RW.take i).map (·.1)).flatMap fun x => [x ++ [true], x ++ [false]]) ++ ([true, false].take j).map (fun b => r ++ [b])).length ≤ _
              rw [List.length_append, ext2_len, List.length_map, List.length_map, List.length_take, List.length_take]
              show 2 * min i RW.length + min j 2 ≤ _
              omega
            dsimp only
            refine s_when (b := !kvs3.isEmpty) (et_test fun H14 e14 Q' q' => ⟨.ref nw, rfl, fun ed0 od0 hed Ded => ⟨nw, o3, kvs3, ed0, od0, rfl, rfl, (D3.ex' e14).ex' (Ex.new hed), Ded, q' _ (Ex.new hed)⟩⟩) (fun hb2 H14 e14 => ?_) (fun hb2 H14 e14 => ?_)
            · have hne3 := hemp.mp (by simpa using hb2)
              have hR14 := (hR10.on ex13).on e14
              have ct14 := e14 _ _ (ex13 _ _ ct10)
              obtain ⟨ol, kvl, Dl14, hpl14⟩ := hR14
              have hkl : kvl.length = RL.length := Paired.length hpl14
              refine ⟨.ref nw, rfl, .ref lt, rfl, .ref told, rfl, told, rv r, rfl, .inl (st_of ct14), .int (sv b), rfl, by
                  show (rv r ++ [V.int (sv b)]).length ≤ sizeLine
                  rw [List.length_append]
                  unfold rv
                  rw [List.length_map]
                  exact size_small (by show r.length + 1 ≤ 1000000; omega), fun u1 hu1 => ⟨.int (sv b), rfl, .int ((tot r % 3 + sv b) % 3), rfl, z3, fun u2 hu2 => ?_⟩⟩
              have eu := (Ex.new hu1 (o := .tup (rv r ++ [V.int (sv b)]))).trans (Ex.new hu2 (o := .tup [.ref u1, .int (sv b), .int ((tot r % 3 + sv b) % 3)]))
              have hrv : rv r ++ [V.int (sv b)] = rv (r ++ [b]) := by unfold rv; rw [List.map_append]; rfl
              have cu1 := (Ex.new hu2 (o := .tup [.ref u1, .int (sv b), .int ((tot r % 3 + sv b) % 3)])) _ _ (upd_same (H := H14) (a := u1) (o := HO.tup (rv r ++ [V.int (sv b)])))
              have cu2 := upd_same (H := upd H14 u1 (HO.tup (rv r ++ [V.int (sv b)]))) (a := u2) (o := HO.tup [.ref u1, .int (sv b), .int ((tot r % 3 + sv b) % 3)])
              have hnk : Nk _ (rk (r ++ [b])) (.ref u2) := rk_make (r := r ++ [b]) (by
                rw [lst_snoc, tot_snoc, show (tot r + sv b) % 3 = (tot r % 3 + sv b) % 3 by omega]
                exact cu2) (by rw [← hrv]; exact cu1)
              refine ⟨lt, ol, kvl, rk (r ++ [b]), rfl, Dl14.ex' eu, hnk, ⟨u2, rfl⟩, rk_depth _, by rw [hkl]; exact size_less (by omega), fun o' D' => ?_⟩
              have hpl15 := Paired.mapP hpl14 fun _ _ z => (⟨z.1, z.2.1, z.2.2.1, z.2.2.2.on eu⟩ : _ ∧ _ ∧ _ ∧ _)
              have hPn : Pls P w s t N _ nw (r ++ [b]) := ⟨o3, kvs3, Pn3, (D3.ex' e14).ex' eu, hk3, hm3'⟩
              have hnew : r ++ [b] ∉ RL.map (·.1) := fun z => by
                have := ((hm10 _).mp z).1
                rw [hdB, hdA] at this
                exact hfresh this
              have hRf := RwR.put hpl15 hnew (nob_notup (Dl14.ex' eu).here) D' hnl hPn
              refine ⟨RL ++ [(r ++ [b], nw)], some (.int (sv b)), some (.ref nw), some (.int ((tot r % 3 + sv b) % 3)), y17, y18, y19, y20, y21, rfl, (((kp10.trans (Kp.of ex13)).trans (Kp.of e14)).trans (Kp.of eu)).trans Kp.sn, hRf, fun x => ?_, ?_, ?_⟩
              · rw [hstepB, List.map_append, List.mem_append, List.mem_append, hm10]
                show _ ∨ x ∈ [r ++ [b]] ↔ _
                rw [List.mem_singleton]
                constructor
                · rintro (⟨z1, z2⟩ | rfl)
                  · exact ⟨.inl z1, z2⟩
                  · exact ⟨.inr rfl, hne3⟩
                · rintro ⟨z1 | z1, z2⟩
                  · exact .inl ⟨z1, z2⟩
                  · exact .inr z1
              · rw [hstepB, List.length_append, List.length_append]
                show RL.length + 1 ≤ (dB j).length + 1
                omega
              · exact Ex.mut (((ex10.trans ex13).trans e14).trans eu) hbl
            · have hne3 : ¬ ∃ l r', PR s t N (r ++ [b]) l r' := fun z => by
                have := hemp.mpr z
                rw [this] at hb2
                cases hb2
              refine ⟨RL, some (.int (sv b)), some (.ref nw), some (.int ((tot r % 3 + sv b) % 3)), y17, y18, y19, y20, y21, rfl, (kp10.trans (Kp.of ex13)).trans (Kp.of e14), (hR10.on ex13).on e14, fun x => ?_, ?_, (ex10.trans ex13).trans e14⟩
              · rw [hstepB, List.mem_append, List.mem_singleton, hm10]
                constructor
                · rintro ⟨z1, z2⟩
                  exact ⟨.inl z1, z2⟩
                · rintro ⟨z1 | z1, z2⟩
                  · exact ⟨z1, z2⟩
                  · subst z1; exact absurd z2 hne3
              · rw [hstepB, List.length_append]; omega
        · rintro σ H10 ⟨RL, y14, y15, y16, y17, y18, y19, y20, y21, rfl, kp10, hR10, hm10, hl10, ex10⟩
          have e' : dA (i + 1) = dB ([.int 1, .int (-1)] : List V).length := by
            rw [hdB, hdA]
            show ((RW.take (i + 1)).map _).flatMap _ = ((RW.take i).map _).flatMap _ ++ [r ++ [true], r ++ [false]]
            rw [List.take_add_one, hr]
            simp
          exact ⟨RL, some (.ref told), some (.int (lst r)), some (.int (tot r % 3)), some (.ref pa), y14, y15, y16, y17, y18, y19, y20, y21, rfl, kp9'.trans kp10, hR10, by rw [e']; exact hm10, by rw [e']; exact hl10, ex10⟩
      · rintro σ H7 ⟨RL, y10, y11, y12, y13, y14, y15, y16, y17, y18, y19, y20, y21, rfl, kp7, hRL, hm7, hl7, ex7⟩
        refine s_asg (ev_var rfl) fun H8 e8 => ?_
        have hA : dA kvs6.length = (RW.map (·.1)).flatMap fun x => [x ++ [true], x ++ [false]] := by
          rw [hdA, Paired.length hp6]
          show ((RW.take RW.length).map _).flatMap _ = _
          rw [List.take_length]
        refine ⟨lt, RL, some (.int (n : Nat)), some (.ref lt), y10, y11, y12, y13, y14, y15, y16, y17, y18, y19, y20, y21, rfl, ex7.trans e8, hRL.on e8, fun x => ?_, ?_⟩
        · rw [hm7, hA, ext2_mem]
          constructor
          · rintro ⟨⟨y, hy, b, rfl⟩, z⟩
            have := ((hmem y).mp hy).1
            exact ⟨by simp; omega, z⟩
          · rintro ⟨z1, l, r', z2⟩
            rcases snoc_cases x with rfl | ⟨y, b, rfl⟩
            · simp at z1
            · obtain ⟨l0, r0, q0, _⟩ := PR.snoc_iff.mp z2
              exact ⟨⟨y, (hmem y).mpr ⟨by simp at z1; omega, l0, r0, q0⟩, b, rfl⟩, l, r', z2⟩
        · rw [hA, ext2_len, List.length_map] at hl7
          rw [Nat.pow_succ]
          omega
    · rintro σ H5 ⟨rw, RW, y8, y9, y10, y11, y12, y13, y14, y15, y16, y17, y18, y19, y20, y21, rfl, ex5, hRW, hmem, hlen⟩
      have hRn := hRW.nodup
      refine ⟨.ref pd, rfl, pd, rv s, rfl, .inl (sq_of (ex5 _ _ gd)), z2, fun t1 ht1 => ⟨.ref pm, rfl, pm, rv t, rfl, .inl (sq_of (Ex.new ht1 _ _ (ex5 _ _ gm))), z2, fun t2 ht2 => ⟨z2, fun tg htg => ?_⟩⟩⟩
      rw [rl1] at ht2
      rw [rl1, rl2] at htg
      rw [rl1, rl2]
      have e6 := (Ex.new ht1 (o := .tup [.int (s.length : Nat), .int 0])).trans ((Ex.new ht2 (o := .tup [.int (t.length : Nat), .int 0])).trans (Ex.new htg (o := .tup [.ref t1, .ref t2])))
      have c1 := ((Ex.new ht2 (o := .tup [.int (t.length : Nat), .int 0])).trans (Ex.new htg (o := .tup [.ref t1, .ref t2]))) _ _ (upd_same (o := HO.tup [.int (s.length : Nat), .int 0]))
      have c2 := (Ex.new htg (o := .tup [.ref t1, .ref t2])) _ _ (upd_same (o := HO.tup [.int (t.length : Nat), .int 0]))
      have hgk : Nk _ (pk ((s.length, 0), (t.length, 0))) (.ref tg) := nk2_make (x := (s.length, 0)) (y := (t.length, 0)) (upd_same (H := upd (upd H5 t1 (HO.tup [.int (s.length : Nat), .int 0])) t2 (HO.tup [.int (t.length : Nat), .int 0])) (a := tg) (o := HO.tup [.ref t1, .ref t2])) c1 c2
      have hR6 := hRW.on e6
      have ex6 := ex5.trans e6
      clear hRW ex5 c1 c2 htg
      revert e6 hgk hR6 ex6
      generalize upd (upd (upd H5 t1 (HO.tup [.int (s.length : Nat), .int 0])) t2 (HO.tup [.int (t.length : Nat), .int 0])) tg (HO.tup [.ref t1, .ref t2]) = H6
      intro e6 hgk hR6 ex6
      obtain ⟨o6, kvs6, D6, hp6⟩ := hR6
      have hlen6 : kvs6.length = RW.length := Paired.length hp6
      have hp10 : 2 ^ N ≤ 1024 := Nat.le_trans (Nat.pow_le_pow_right (by decide) hN) (by decide)
      have hlen : RW.length ≤ 2 ^ N := by simpa using hlen
      have hmem : ∀ x, x ∈ RW.map (·.1) ↔ x.length = N ∧ ∃ l r, PR s t N x l r := fun x => by have := hmem x; simpa using this
      refine ⟨.ref rw, rfl, rw, o6, kvs6, rfl, D6, fun Dc oc hDc DDc => ?_⟩
      have hrw : rw ≠ Dc := fun z => by subst z; rw [D6.here] at hDc; cases hDc
      have e7 := Ex.new hDc (o := nob Dc oc)
      have hnt7 := nob_notup DDc.here
      refine ⟨fun i m H' => m = kvs6.length - i ∧ i ≤ kvs6.length ∧ Kp Dc Dc (upd H6 Dc (nob Dc oc)) H' ∧ ∃ oc kvc Rs, DN P w H' Dc oc kvc ∧ kvc.map (·.1) = List.map tk Rs ∧ (∀ x, x ∈ Rs ↔ x ∈ (RW.take i).map (·.1) ∧ PR s t N x (s.length, 0) (t.length, 0)) ∧ kvc.length ≤ i,
        ⟨_, rfl, Nat.zero_le _, Kp.refl _ _ _, oc, [], [], DDc, rfl, fun x => by simp, Nat.le_refl _⟩, ?_⟩
      rintro i m H7 ⟨rfl, hi, kp7, oc', kvc, Rs, Dc7, hkc, hRs, hlc⟩
      have D7 : DN P w H7 rw o6 kvs6 := (D6.ex' e7).mono (kp7 _ _ hrw hrw (e7 _ _ D6.here)) (Kp.tups1 hnt7 kp7)
      have ex7 : Ex H6 H7 := ex_kp e7 hDc kp7
      rcases Nat.lt_or_ge i kvs6.length with hlt | hge
      · refine .inr ⟨⟨D7, hlt⟩, fun H' => (i + 1 ≤ kvs6.length ∧ Kp Dc Dc (upd H6 Dc (nob Dc oc)) H' ∧ ∃ oc kvc Rs, DN P w H' Dc oc kvc ∧ kvc.map (·.1) = List.map tk Rs ∧ (∀ x, x ∈ Rs ↔ x ∈ (RW.take (i + 1)).map (·.1) ∧ PR s t N x (s.length, 0) (t.length, 0)) ∧ kvc.length ≤ i + 1), fun H' z => ⟨kvs6.length - (i + 1), by omega, rfl, z.1, z.2.1, z.2.2⟩, ?_⟩
        rintro v H8 ⟨T0, k, v', kb, hkv, rfl, hT, rfl, hk, hdep⟩
        obtain ⟨⟨r, pa⟩, hr, ek, ev, hne', hpls⟩ := Paired.get hp6 hkv
        simp only at ek ev hne' hpls
        subst ek
        subst ev
        obtain ⟨told, kk1, kk2⟩ := rk_open hk
        have e8 := Ex.new hT (o := .tup [.ref kb, .ref pa])
        refine ⟨T0, _, rfl, st_of upd_same, rfl, .ref kb, _, rfl, ⟨kb, _, rfl, st_of (e8 _ _ kk1), rfl, .ref told, _, rfl, .int (lst r), _, rfl, .int (tot r % 3), _, rfl, rfl, .ref pa, _, rfl, rfl, rfl, ?_⟩⟩
        obtain ⟨o2, kvs2, Pn, D2, hk2, hm2⟩ := (hpls.on ex7).on e8
        have hg8 := (hgk.mono (Ex.tups ex7)).mono (Ex.tups e8)
        have kp8 := kp7.trans (Kp.of (sn := Dc) (lt := Dc) e8)
        have hbool : (valV kvs2 (pk ((s.length, 0), (t.length, 0)))).isSome = true ↔ PR s t N r (s.length, 0) (t.length, 0) := by
          rw [has_key, hk2, List.mem_map]
          constructor
          · rintro ⟨x, hx, e⟩
            rw [pk_inj e] at hx
            exact (hm2 _).mp hx
          · intro z
            exact ⟨_, (hm2 _).mpr z, rfl⟩
        have htake : (RW.take (i + 1)).map (·.1) = (RW.take i).map (·.1) ++ [r] := by rw [List.take_add_one, hr]; simp
        refine et_test (b := (valV kvs2 (pk ((s.length, 0), (t.length, 0)))).isSome) (ev_op (ev_var (v := .ref tg) rfl) (ev_var (v := .ref pa) rfl) (rv_nin D2 hg8 (kp2_depth _ _))) _ (Ex.refl _) _ fun H9 e9 => ?_
        cases hb : (valV kvs2 (pk ((s.length, 0), (t.length, 0)))).isSome with
        | true =>
          have hPR := hbool.mp hb
          refine ⟨.ref told, rfl, oc', kvc, tk r, told, rfl, tk_make (e9 _ _ (e8 _ _ kk2)), tk_depth _, (Dc7.ex' e8).ex' e9, size_less (by omega), fun o' D' => ⟨hlt, (kp8.trans (Kp.of e9)).trans Kp.sn, ?_⟩⟩
          have hnew : r ∉ (RW.take i).map (·.1) := by
            rw [List.map_take]
            intro z
            obtain ⟨k, hk⟩ := List.mem_iff_getElem?.mp z
            have hki : k < i := by
              have := (List.getElem?_eq_some_iff.mp hk).1
              rw [List.length_take] at this
              omega
            rw [List.getElem?_take_of_lt hki] at hk
            have hi' : (RW.map (·.1))[i]? = some r := by rw [List.getElem?_map, hr]; rfl
            have := (List.getElem?_inj (by exact (List.getElem?_eq_some_iff.mp hk).1) hRn).mp (hk.trans hi'.symm)
            omega
          have hv : (valV kvc (tk r)).isSome = false := by
            rw [Bool.eq_false_iff]
            intro z
            have := has_key.mp z
            rw [hkc] at this
            obtain ⟨x, hx, e⟩ := List.mem_map.mp this
            rw [tk_inj e] at hx
            exact hnew ((hRs r).mp hx).1
          rw [putK_new hv] at D'
          refine ⟨o', _, Rs ++ [r], D', by rw [List.map_append, List.map_append, hkc]; rfl, fun x => ?_, by rw [List.length_append]; show kvc.length + 1 ≤ i + 1; omega⟩
          rw [htake, List.mem_append, List.mem_append, List.mem_singleton, hRs]
          constructor
          · rintro (z | rfl)
            · exact ⟨.inl z.1, z.2⟩
            · exact ⟨.inr rfl, hPR⟩
          · rintro ⟨z | z, z2⟩
            · exact .inl ⟨z, z2⟩
            · exact .inr z
        | false =>
          have hPR : ¬ PR s t N r (s.length, 0) (t.length, 0) := fun z => by rw [hbool.mpr z] at hb; cases hb
          refine ⟨hlt, kp8.trans (Kp.of e9), oc', kvc, Rs, (Dc7.ex' e8).ex' e9, hkc, fun x => ?_, by omega⟩
          rw [htake, List.mem_append, List.mem_singleton, hRs]
          constructor
          · rintro ⟨z, z2⟩
            exact ⟨.inl z, z2⟩
          · rintro ⟨z | z, z2⟩
            · exact ⟨z, z2⟩
            · subst z; exact absurd z2 hPR
      · refine .inl ⟨⟨D7, hge⟩, qq Dc oc' kvc H7 (fresh_back (e0.trans ex6) hDc) ((e0.trans ex6).trans ex7) Dc7 fun Ws hW hWm => ?_⟩
        have hiN : i = RW.length := by omega
        subst hiN
        rw [List.take_length] at hRs
        have hRd : Rs.Nodup := nodup_of (f := tk) Dc7.keys hkc
        have e : (kvc.map (·.1)).length = (List.map tk Rs).length := by rw [hkc]
        rw [List.length_map, List.length_map] at e
        rw [e]
        refine ((List.perm_ext_iff_of_nodup hRd hW).mpr fun x => ?_).length_eq
        rw [hRs, hWm, hmem]
        constructor
        · rintro ⟨⟨z1, _⟩, z2⟩
          obtain ⟨z3, z4⟩ := (pr_goal z1).mp z2
          exact ⟨z1, z3, z4⟩
        · rintro ⟨z1, z2, z3⟩
          have := (pr_goal z1).mpr ⟨z2, z3⟩
          exact ⟨⟨z1, _, _, this⟩, this⟩
end
end TW

set_option Elab.async false
set_option linter.all false
set_option maxRecDepth 100000
set_option maxHeartbeats 4000000
/-! The walk, tenth part (printed by gen_w8.py): tops. -/
namespace TW
open PySem
open PySem.Spec PyProof.Rows L2 Evl Tlm
section
variable {P : Program} {w : World} {K : PySem.W.Frag} {mg : Str → Option Value} {base : Heap}
def spTops : Sp := fun vs H Q _ => ∃ a s t, vs = [.str (wd a s), .str (wd a t)] ∧ a < 3 ∧ Two s t ∧ fin a s = fin a t ∧ (∀ r, Least s t r → r.length ≤ 10) ∧
  ∀ r n p H2, Least s t r → (∀ Ws : List Tlm.Row, Ws.Nodup → (∀ x, x ∈ Ws ↔ x.length = r.length ∧ Ab s x ∧ Ab t x) → n = Ws.length) → H p = none → Ex H H2 → H2 p = some (.tup [.int ((r.length + 1 : Nat) : Int), .int (n : Nat)]) → Q (.ref p) H2
theorem ok_tops {f f1 f2 f3 : Addr} {fd fd1 fd2 fd3 : FuncData} (D : Dfn K mg "tops" sTops ["one", "other"] f fd) (D1 : Dfn K mg "need_pair" sNeedPair ["one", "other"] f1 fd1) (G1 : FnOk P w K mg base CX0 3 f1 fd1 ["one", "other"] spNeedPair)
    (D2 : Dfn K mg "common_of" sCommonOf ["one", "other"] f2 fd2) (G2 : FnOk P w K mg base CX0 3 f2 fd2 ["one", "other"] spCommonOf) (D3 : Dfn K mg "tops_of" sTopsOf ["one", "other", "many"] f3 fd3) (G3 : FnOk P w K mg base CX0 2 f3 fd3 ["one", "other", "many"] (spTopsOf P w)) (T : Txt mg) :
    FnOk P w K mg base CX0 4 f fd ["one", "other"] spTops := by
  refine D.F.ok scTops (fun vs H Q E h => ?_) (fun cdv A outer s0 H vs Q E hr h => ?_)
  · obtain ⟨a, s, t, rfl, _⟩ := h
    rfl
  · obtain ⟨a, s, t, rfl, ha, h2, hf, h10, q⟩ := h
    obtain ⟨n1, n2, n3, n4, u, a1, a2, hu⟩ := id h2
    refine ⟨_, (pss_cons (ps_expr (pe_fn D1 G1 hr (pa_cons (pv 0) (pa_cons (pv 1) pa_nil))))
      (pss_cons (ps_set (i := 2) scTops.nd rfl (.inl rfl) (pe_callB call_len_str (by rfl) T.len (by decide +kernel) (pa_cons (pe_fn D2 G2 hr (pa_cons (pv 0) (pa_cons (pv 1) pa_nil))) pa_nil)))
      (pss_one (ps_ret (pe_tup (pa_cons (pv 2) (pa_cons (pe_callB call_nlen (by rfl) T.len (by decide +kernel) (pa_cons (pe_fn D3 G3 (hr.mono (by decide)) (pa_cons (pv 0) (pa_cons (pv 1) (pa_cons (pv 2) pa_nil)))) pa_nil)) pa_nil))))))), ?_⟩
    refine ⟨.str (wd a s), rfl, .str (wd a t), rfl, a, s, t, rfl, ha, n1, by omega, n3, by omega, hf, fun H1 e1 => ?_⟩
    refine ⟨.str (wd a s), rfl, .str (wd a t), rfl, a, s, t, rfl, ha, h2, fun r hr' H2 e2 => ?_⟩
    have hl := h10 r hr'
    refine ⟨wd a r, rfl, size_small (by rw [wd_len]; omega), ?_⟩
    rw [wd_len]
    refine ⟨.int ((r.length + 1 : Nat) : Int), rfl, .str (wd a s), rfl, .str (wd a t), rfl, .int ((r.length + 1 : Nat) : Int), rfl, a, s, t, r.length, rfl, ha, n1, n2, n3, n4, hl, fun d o kvs H3 hd e3 D3' hc => ?_⟩
    refine ⟨d, o, kvs, rfl, D3', by show 2 ≤ sizeLine; decide, fun p hp => ?_⟩
    exact q r kvs.length p _ hr' hc (fresh_back ((e1.trans e2).trans e3) hp) (((e1.trans e2).trans e3).trans (Ex.new hp)) upd_same
end
end TW

set_option Elab.async false
set_option linter.all false
set_option maxRecDepth 100000
set_option maxHeartbeats 4000000
/-! The walk, eleventh part (printed by gen_w9.py): the law's draws. -/
namespace TW
open PySem
open PySem.Spec PyProof.Rows L2 Evl Tlm
/-- the law's row: the script, a count, a state, a rest -/
def Rws (K : PySem.W.Frag) (H : Hp) (l sc : Addr) (ns : List Int) : Prop := ∃ x y z : Int, 0 ≤ x ∧ H l = some (.lst [.ref sc, .int x, .int y, .int z]) ∧ SqL K H sc (ns.map V.int)
theorem rws_ne {K : PySem.W.Frag} {H : Hp} {l sc : Addr} {ns : List Int} {vs : List V} (h : H l = some (.lst (.ref sc :: vs))) (hs : SqL K H sc (ns.map V.int)) : sc = l → ∃ o its n, K.lookup sc = some o ∧ o.cls = .type "list" ∧ o.dict = none ∧ o.data = .seq its n ∧ its.size ≤ sizeLine ∧ Vals (ns.map V.int) its.toList := by
  rintro rfl
  rcases hs with (hs | ⟨o, hs⟩) | hs
  · rw [h] at hs
    injection hs with hs
    injection hs with hs
    cases ns with
    | nil => cases hs
    | cons a r => cases hs
  · rw [h] at hs
    cases hs
  · obtain ⟨o, its, n, r⟩ := hs
    exact ⟨o, its, n, r⟩
theorem sql_kp {K : PySem.W.Frag} {H H' : Hp} {l sc : Addr} {ns : List Int} {vs : List V} (h : H l = some (.lst (.ref sc :: vs))) (hs : SqL K H sc (ns.map V.int)) (k : Kp l l H H') : SqL K H' sc (ns.map V.int) := by
  by_cases e : sc = l
  · obtain ⟨o, its, n, r⟩ := rws_ne h hs e
    exact .inr ⟨o, its, n, r⟩
  · rcases hs with (hs | ⟨o, hs⟩) | hs
    · exact .inl (.inl (k _ _ e e hs))
    · exact .inl (.inr ⟨o, k _ _ e e hs⟩)
    · exact .inr hs
theorem Rws.on {K : PySem.W.Frag} {H H' : Hp} {l sc : Addr} {ns : List Int} (h : Rws K H l sc ns) (e : Ex H H') : Rws K H' l sc ns := by
  obtain ⟨x, y, z, h1, h2, h3⟩ := h
  exact ⟨x, y, z, h1, e _ _ h2, ex_l e h3⟩
theorem Rws.put {K : PySem.W.Frag} {H : Hp} {l sc : Addr} {ns : List Int} {vs : List V} {x y z : Int} (h : H l = some (.lst (.ref sc :: vs))) (hs : SqL K H sc (ns.map V.int)) (hx : 0 ≤ x) : Rws K (upd H l (.lst [.ref sc, .int x, .int y, .int z])) l sc ns :=
  ⟨x, y, z, hx, upd_same, sql_kp h hs Kp.sn⟩
/-- what is stored in a newer cell leaves it -/
theorem Rws.side {K : PySem.W.Frag} {H H' : Hp} {l sc p : Addr} {ns : List Int} {o : HO} (h : Rws K H l sc ns) (hp : H p = none) (h' : Rws K H' l sc ns) (hl : p ≠ l) : Rws K (upd H' p o) l sc ns := by
  obtain ⟨x, y, z, g1, g2, g3⟩ := h'
  refine ⟨x, y, z, g1, by rw [upd_ne (fun z => hl z.symm)]; exact g2, ?_⟩
  by_cases e : sc = p
  · subst e
    obtain ⟨x0, y0, z0, _, f2, f3⟩ := h
    rcases f3 with (f3 | ⟨o, f3⟩) | f3
    · rw [hp] at f3; cases f3
    · rw [hp] at f3; cases f3
    · exact .inr f3
  · rcases g3 with (g3 | ⟨o, g3⟩) | g3
    · exact .inl (.inl (by rw [upd_ne e]; exact g3))
    · exact .inl (.inr ⟨o, by rw [upd_ne e]; exact g3⟩)
    · exact .inr g3
theorem Rws.cell {K : PySem.W.Frag} {H : Hp} {l sc : Addr} {ns : List Int} (h : Rws K H l sc ns) : ∃ o, H l = some o := by
  obtain ⟨x, y, z, h1, h2, h3⟩ := h
  exact ⟨_, h2⟩
section
variable {P : Program} {w : World} {K : PySem.W.Frag} {mg : Str → Option Value} {base : Heap}
def spTaken (K : PySem.W.Frag) : Sp := fun vs H Q _ => ∃ l sc ns m, vs = [.ref l, .int m] ∧ Rws K H l sc ns ∧ ns.length ≤ 1000 ∧ 1 ≤ m ∧ m < 1073741824 ∧ ∀ v H', Kp l l H H' → Rws K H' l sc ns → 0 ≤ v → v < m → Q (.int v) H'
theorem ok_taken {f : Addr} {fd : FuncData} (D : Dfn K mg "_law_taken" sLawTaken ["_law_row", "_law_many"] f fd) (T : Txt mg) : FnOk P w K mg base CX0 1 f fd ["_law_row", "_law_many"] (spTaken K) := by
  refine D.F.ok scLawTaken (fun vs H Q E h => ?_) (fun cdv A outer s0 H vs Q E hr h => ?_)
  · obtain ⟨l, sc, ns, m, rfl, _⟩ := h
    rfl
  · obtain ⟨l, sc, ns, m, rfl, ⟨x, y, z, hx, hl, hs⟩, hn, hm1, hm2, q⟩ := h
    refine ⟨_, (pss_cons (ps_if (pt_cmpR op_gt (pe_ix ix_list (pv 0) pe_int (fun _ _ => rfl)) pe_int (nomark _)) (pss_cons (ps_set (i := 2) scLawTaken.nd rfl (.inl rfl) (pe_op op_mod (pe_callTy call_int1 (by rfl) T.int (by decide +kernel) (pa_cons (pe_ix ix_list (pv 0) pe_int (fun _ _ => rfl)) pa_nil)) (pv 1)))
      (pss_cons (ps_asg (pe_op op_fdiv (pe_ix ix_list (pv 0) pe_int (fun _ _ => rfl)) (pv 1)) (pg_sub (pv 0) pe_int set_list))
      (pss_one (ps_ret (pv 2))))) pss_nil)
      (pss_cons (ps_asg (pe_op op_add (pe_ix ix_list (pv 0) pe_int (fun _ _ => rfl)) pe_int) (pg_sub (pv 0) pe_int set_list))
      (pss_cons (ps_if (pt_cmpR op_gt (pe_ix ix_list (pv 0) pe_int (fun _ _ => rfl)) (pe_callB call_len_seq (by rfl) T.len (by decide +kernel) (pa_cons (pe_ix ix_list (pv 0) pe_int (fun _ _ => rfl)) pa_nil)) (nomark _)) (pss_cons (ps_asg (pe_op op_mod (pe_callTy call_int1 (by rfl) T.int (by decide +kernel) (pa_cons (pe_op op_add (pe_op op_mul (pe_ix ix_list (pv 0) pe_int (fun _ _ => rfl)) pe_int) pe_int) pa_nil)) pe_int) (pg_sub (pv 0) pe_int set_list))
      (pss_one (ps_ret (pe_op op_mod (pe_callTy call_int1 (by rfl) T.int (by decide +kernel) (pa_cons (pe_op op_fdiv (pe_ix ix_list (pv 0) pe_int (fun _ _ => rfl)) pe_int) pa_nil)) (pv 1))))) pss_nil)
      (pss_cons (ps_set (i := 3) scLawTaken.nd rfl (.inl rfl) (pe_ix ix_list (pe_ix ix_list (pv 0) pe_int (fun _ _ => rfl)) (pe_op op_sub (pe_ix ix_list (pv 0) pe_int (fun _ _ => rfl)) pe_int) (fun _ _ => rfl)))
      (pss_cons (ps_asg (pe_op op_mod (pe_callTy call_int1 (by rfl) T.int (by decide +kernel) (pa_cons (pe_op op_add (pe_op op_add (pe_op op_mul (pe_ix ix_list (pv 0) pe_int (fun _ _ => rfl)) pe_int) (pv 3)) pe_int) pa_nil)) pe_int) (pg_sub (pv 0) pe_int set_list))
      (pss_cons (ps_if (pt_cmpR op_ge (pv 3) (pe_op op_pow pe_int pe_int) (nomark _)) (pss_one (ps_asg (pe_op op_fdiv (pv 3) (pv 1)) (pg_sub (pv 0) pe_int set_list))) pss_nil)
      (pss_one (ps_ret (pe_op op_mod (pe_callTy call_int1 (by rfl) T.int (by decide +kernel) (pa_cons (pv 3) pa_nil)) (pv 1)))))))))), ?_⟩
    have hmod : ∀ c : Int, 0 ≤ c % m ∧ c % m < m := fun c => ⟨Int.emod_nonneg _ (by omega), Int.emod_lt_of_pos _ (by omega)⟩
    have rint : ∀ (H : Hp) (i : Int), RC (fun xs H Q => (∃ i, xs = [.int i] ∧ Q (.int i) H) ∨ ∃ k, xs = [.bl k] ∧ Q (.int (if k then 1 else 0)) H) [.int i] H (.int i) := fun H i H1 e1 Q' q' => .inl ⟨i, rfl, q' H1 (Ex.refl H1)⟩
    refine q_when (b := decide (0 < z)) (et_is (et_test (ev_op (ev_op (ev_var rfl) ev_c (rv_ixL (sq_of hl) (v := .int z) rfl)) ev_c rv_I0)) rfl) (fun hb H1 e1 => ?_) (fun hb H1 e1 => ?_)
    · refine q_asg (v := .int (z % m)) (ev_op (ev_cb (ea_cons (ev_op (ev_var rfl) ev_c (rv_ixL (sq_of (e1 _ _ hl)) (v := .int z) rfl)) ea_nil) (rint _ _)) (ev_var rfl) (rv_I (by omega))) fun H2 e2 => ?_
      refine q_setL (j := 3) (v := .int (z / m)) ((e1.trans e2) _ _ hl) (ev_op (ev_op (ev_var rfl) ev_c (rv_ixL (sq_of ((e1.trans e2) _ _ hl)) (v := .int z) rfl)) (ev_var rfl) (rv_I ⟨by omega, hm2⟩)) (ev_var rfl) ev_c (by show _ < 4; decide) fun H3 e3 => ?_
      have e13 := (e1.trans e2).trans e3
      refine s_ret (ev_var rfl) fun H4 e4 => q _ H4 (((Kp.of e13).trans Kp.sn).trans (Kp.of e4)) ((Rws.put (e13 _ _ hl) (ex_l e13 hs) hx).on e4) (hmod z).1 (hmod z).2
    · refine q_setL (j := 1) (v := .int (x + 1)) (e1 _ _ hl) (ev_op (ev_op (ev_var rfl) ev_c (rv_ixL (sq_of (e1 _ _ hl)) (v := .int x) rfl)) ev_c rv_I0) (ev_var rfl) ev_c (by show _ < 4; decide) fun H2 e2 => ?_
      have e12 := e1.trans e2
      have kpA : Kp l l H (upd H2 l (.lst ([.ref sc, .int x, .int y, .int z].set 1 (.int (x + 1))))) := (Kp.of e12).trans Kp.sn
      have hlA : (upd H2 l (.lst ([.ref sc, .int x, .int y, .int z].set 1 (.int (x + 1))))) l = some (.lst [.ref sc, .int (x + 1), .int y, .int z]) := upd_same
      have hsA : SqL K (upd H2 l (.lst ([.ref sc, .int x, .int y, .int z].set 1 (.int (x + 1))))) sc (ns.map V.int) := sql_kp (e12 _ _ hl) (ex_l e12 hs) Kp.sn
      revert kpA hlA hsA
      generalize upd H2 l (.lst ([.ref sc, .int x, .int y, .int z].set 1 (.int (x + 1)))) = HA
      intro kpA hlA hsA
      have hnl : (ns.map V.int).length = ns.length := by rw [List.length_map]
      refine q_when (b := decide ((ns.length : Int) < x + 1)) (et_is (et_test (ev_op (ev_op (ev_var rfl) ev_c (rv_ixL (sq_of hlA) (v := .int (x + 1)) rfl)) (ev_cb (ea_cons (ev_op (ev_var rfl) ev_c (rv_ixL (sq_of hlA) (v := .ref sc) rfl)) ea_nil) fun H2 e2 Q' q' => ⟨sc, _, rfl, .inl (ex_l e2 hsA), q' H2 (Ex.refl H2)⟩) rv_I0)) (by rw [hnl])) (fun hb2 H3 e3 => ?_) (fun hb2 H3 e3 => ?_)
      · refine q_setL (j := 2) (v := .int ((y * 48271 + 11) % 2147483647)) (e3 _ _ hlA) (ev_op (ev_cb (ea_cons (ev_op (ev_op (ev_op (ev_var rfl) ev_c (rv_ixL (sq_of (e3 _ _ hlA)) (v := .int y) rfl)) ev_c (rv_I (.inr ⟨by decide, by decide⟩))) ev_c rv_I0) ea_nil) (rint _ _)) ev_c (rv_I (by decide))) (ev_var rfl) ev_c (by show _ < 4; decide) fun H4 e4 => ?_
        have e34 := e3.trans e4
        have kpB : Kp l l H (upd H4 l (.lst ([.ref sc, .int (x + 1), .int y, .int z].set 2 (.int ((y * 48271 + 11) % 2147483647))))) := (kpA.trans (Kp.of e34)).trans Kp.sn
        have hRB : Rws K (upd H4 l (.lst ([.ref sc, .int (x + 1), .int y, .int z].set 2 (.int ((y * 48271 + 11) % 2147483647))))) l sc ns := Rws.put (e34 _ _ hlA) (ex_l e34 hsA) (by omega)
        have hlB : (upd H4 l (.lst ([.ref sc, .int (x + 1), .int y, .int z].set 2 (.int ((y * 48271 + 11) % 2147483647))))) l = some (.lst [.ref sc, .int (x + 1), .int ((y * 48271 + 11) % 2147483647), .int z]) := upd_same
        refine s_ret (v := .int ((y * 48271 + 11) % 2147483647 / 7 % m)) (ev_op (ev_cb (ea_cons (ev_op (ev_op (ev_var rfl) ev_c (rv_ixL (sq_of hlB) (v := .int ((y * 48271 + 11) % 2147483647)) rfl)) ev_c (rv_I ⟨by decide, by decide⟩)) ea_nil) (rint _ _)) (ev_var rfl) (rv_I (by omega))) fun H5 e5 => q _ H5 (kpB.trans (Kp.of e5)) (hRB.on e5) (hmod _).1 (hmod _).2
      · obtain ⟨c, hc⟩ : ∃ c, ns[x.toNat]? = some c := ⟨_, List.getElem?_eq_getElem (show x.toNat < ns.length by have := of_decide_eq_false hb2; omega)⟩
        have hatc : atI (ns.map V.int) (x + 1 - 1) = some (.int c) := atIx (j := x.toNat) (by omega) (by rw [List.getElem?_map, hc]; rfl)
        refine q_asg (v := .int c) (ev_op (ev_op (ev_var rfl) ev_c (rv_ixL (sq_of (e3 _ _ hlA)) (v := .ref sc) rfl)) (ev_op (ev_op (ev_var rfl) ev_c (rv_ixL (sq_of (e3 _ _ hlA)) (v := .int (x + 1)) rfl)) ev_c rv_I0) (rv_ixL (ex_l e3 hsA) hatc)) fun H4 e4 => ?_
        have e34 := e3.trans e4
        refine q_setL (j := 2) (v := .int ((y * 48271 + c + 11) % 2147483647)) (e34 _ _ hlA) (ev_op (ev_cb (ea_cons (ev_op (ev_op (ev_op (ev_op (ev_var rfl) ev_c (rv_ixL (sq_of (e34 _ _ hlA)) (v := .int y) rfl)) ev_c (rv_I (.inr ⟨by decide, by decide⟩))) (ev_var rfl) rv_I0) ev_c rv_I0) ea_nil) (rint _ _)) ev_c (rv_I (by decide))) (ev_var rfl) ev_c (by show _ < 4; decide) fun H5 e5 => ?_
        have e35 := e34.trans e5
        have kpB : Kp l l H (upd H5 l (.lst ([.ref sc, .int (x + 1), .int y, .int z].set 2 (.int ((y * 48271 + c + 11) % 2147483647))))) := (kpA.trans (Kp.of e35)).trans Kp.sn
        have hlB : (upd H5 l (.lst ([.ref sc, .int (x + 1), .int y, .int z].set 2 (.int ((y * 48271 + c + 11) % 2147483647))))) l = some (.lst [.ref sc, .int (x + 1), .int ((y * 48271 + c + 11) % 2147483647), .int z]) := upd_same
        have hsB := sql_kp (e35 _ _ hlA) (ex_l e35 hsA) (Kp.sn (lt := l) (o := .lst ([.ref sc, .int (x + 1), .int y, .int z].set 2 (.int ((y * 48271 + c + 11) % 2147483647)))))
        revert kpB hlB hsB
        generalize (upd H5 l (.lst ([.ref sc, .int (x + 1), .int y, .int z].set 2 (.int ((y * 48271 + c + 11) % 2147483647))))) = HB
        intro kpB hlB hsB
        refine q_when (b := decide ((10 : Int) ^ 18 ≤ c)) (et_is (et_test (ev_op (ev_var rfl) (ev_op ev_c ev_c (rv_I ⟨by decide, by decide, by decide⟩)) rv_I0)) rfl) (fun hb3 H6 e6 => ?_) (fun hb3 H6 e6 => ?_)
        · refine s_setL (j := 3) (v := .int (c / m)) (e6 _ _ hlB) (ev_op (ev_var rfl) (ev_var rfl) (rv_I ⟨by omega, hm2⟩)) (ev_var rfl) ev_c (by show _ < 4; decide) fun H7 e7 => ?_
          have e67 := e6.trans e7
          refine s_ret (v := .int (c % m)) (ev_op (ev_cb (ea_cons (ev_var rfl) ea_nil) (rint _ _)) (ev_var rfl) (rv_I (by omega))) fun H8 e8 => q _ H8 (((kpB.trans (Kp.of e67)).trans Kp.sn).trans (Kp.of e8)) ((Rws.put (e67 _ _ hlB) (ex_l e67 hsB) (by omega)).on e8) (hmod _).1 (hmod _).2
        · refine s_ret (v := .int (c % m)) (ev_op (ev_cb (ea_cons (ev_var rfl) ea_nil) (rint _ _)) (ev_var rfl) (rv_I (by omega))) fun H8 e8 => q _ H8 ((kpB.trans (Kp.of e6)).trans (Kp.of e8)) ⟨x + 1, _, z, by omega, e8 _ _ (e6 _ _ hlB), ex_l e8 (ex_l e6 hsB)⟩ (hmod _).1 (hmod _).2
/-- one of the letters -/
def spPickS (K : PySem.W.Frag) : Sp := fun vs H Q _ => ∃ l sc ns, vs = [.ref l, .str "abc"] ∧ Rws K H l sc ns ∧ ns.length ≤ 1000 ∧ ∀ a H', a < 3 → Kp l l H H' → Rws K H' l sc ns → Q (.str (sg a)) H'
theorem ok_pickS {f f1 : Addr} {fd fd1 : FuncData} (D : Dfn K mg "_law_pick" sLawPick ["_law_row", "_law_things"] f fd) (D1 : Dfn K mg "_law_taken" sLawTaken ["_law_row", "_law_many"] f1 fd1) (G1 : FnOk P w K mg base CX0 1 f1 fd1 ["_law_row", "_law_many"] (spTaken K)) (T : Txt mg) :
    FnOk P w K mg base CX0 2 f fd ["_law_row", "_law_things"] (spPickS K) := by
  refine D.F.ok scLawPick (fun vs H Q E h => ?_) (fun cdv A outer s0 H vs Q E hr h => ?_)
  · obtain ⟨l, sc, ns, rfl, _⟩ := h
    rfl
  · obtain ⟨l, sc, ns, rfl, hR, hn, q⟩ := h
    refine ⟨_, (pss_one (ps_ret (pe_ix ix_str (pv 1) (pe_fn D1 G1 hr (pa_cons (pv 0) (pa_cons (pe_callB call_len_str (by rfl) T.len (by decide +kernel) (pa_cons (pv 1) pa_nil)) pa_nil))) (fun _ _ => rfl)))), ?_⟩
    refine ⟨.str "abc", rfl, .ref l, rfl, .str "abc", rfl, "abc", rfl, by decide, l, sc, ns, 3, rfl, hR, hn, by decide, by decide, fun v H1 k1 hR1 h1 h2 => ?_⟩
    refine ⟨"abc", v, 97 + v.toNat, rfl, rfl, by decide, ?_, q v.toNat H1 (by omega) k1 hR1⟩
    have := abc_at (x := v.toNat) (by omega)
    rw [show ((v.toNat : Nat) : Int) = v by omega] at this
    exact this
/-- one of a list's things -/
def spPickL (K : PySem.W.Frag) : Sp := fun vs H Q _ => ∃ l sc ns p xs, vs = [.ref l, .ref p] ∧ Rws K H l sc ns ∧ ns.length ≤ 1000 ∧ SqL K H p xs ∧ p ≠ l ∧ 1 ≤ xs.length ∧ xs.length ≤ 1000000 ∧ ∀ v H', v ∈ xs → Kp l l H H' → Rws K H' l sc ns → Q v H'
theorem sql_kp' {K : PySem.W.Frag} {H H' : Hp} {l p : Addr} {xs : List V} (hs : SqL K H p xs) (h : p ≠ l) (k : Kp l l H H') : SqL K H' p xs := by
  rcases hs with (hs | ⟨o, hs⟩) | hs
  · exact .inl (.inl (k _ _ h h hs))
  · exact .inl (.inr ⟨o, k _ _ h h hs⟩)
  · exact .inr hs
theorem ok_pickL {f f1 : Addr} {fd fd1 : FuncData} (D : Dfn K mg "_law_pick" sLawPick ["_law_row", "_law_things"] f fd) (D1 : Dfn K mg "_law_taken" sLawTaken ["_law_row", "_law_many"] f1 fd1) (G1 : FnOk P w K mg base CX0 1 f1 fd1 ["_law_row", "_law_many"] (spTaken K)) (T : Txt mg) :
    FnOk P w K mg base CX0 2 f fd ["_law_row", "_law_things"] (spPickL K) := by
  refine D.F.ok scLawPick (fun vs H Q E h => ?_) (fun cdv A outer s0 H vs Q E hr h => ?_)
  · obtain ⟨l, sc, ns, p, xs, rfl, _⟩ := h
    rfl
  · obtain ⟨l, sc, ns, p, xs, rfl, hR, hn, hp, hpl, hx1, hx2, q⟩ := h
    refine ⟨_, (pss_one (ps_ret (pe_ix ix_list (pv 1) (pe_fn D1 G1 hr (pa_cons (pv 0) (pa_cons (pe_callB call_len_seq (by rfl) T.len (by decide +kernel) (pa_cons (pv 1) pa_nil)) pa_nil))) (fun _ _ => rfl)))), ?_⟩
    refine ⟨.ref p, rfl, .ref l, rfl, .ref p, rfl, p, xs, rfl, .inl hp, l, sc, ns, (xs.length : Int), rfl, hR, hn, by omega, by omega, fun v H1 k1 hR1 h1 h2 => ?_⟩
    obtain ⟨u, hu⟩ : ∃ u, xs[v.toNat]? = some u := ⟨_, List.getElem?_eq_getElem (show v.toNat < xs.length by omega)⟩
    refine ⟨p, xs, v, u, rfl, rfl, sql_kp' hp hpl k1, atIx (j := v.toNat) (by omega) hu, q u H1 (List.mem_of_getElem? hu) k1 hR1⟩
/-- the word of steps, by the law -/
theorem pe_abcIx2 {X : Cx} {i : Nat} {n : Str} {q p apos pos : Pos} (he : PE X (.Name n q) (tVar i)) (hl : (apos.endLine == pos.line) = true := by rfl) {k : Nat} :
    PE X (.Call (.Attribute (.Constant (.str "abc") k p) "index" apos) [.Name n q] [] pos) (tBM X.K "str" rIndex0 (tC (.str "abc")) (tCons (tVar i) tNil)) :=
  pe_bm PySem.F.plainAttrs_str PySem.F.slot_str_index PySem.F.type_str_index mt_index0 pe_str (pa_cons he pa_nil) rfl rfl hl
theorem wd_snoc (a : Nat) (s : Tlm.Row) (b : Bool) : wd a (s ++ [b]) = wd a s ++ sg (nx (fin a s) b) := by
  unfold wd
  rw [lets_snoc, ← tx_sg, tx_app]
theorem ok_law_word {f : Addr} {fd : FuncData} (D : Dfn K mg "_law_word" sLawWord ["_law_first", "_law_line"] f fd) (T : Txt mg) : FnOk P w K mg base CX0 1 f fd ["_law_first", "_law_line"] (spWordOf K) := by
  refine D.F.ok scLawWord (fun vs H Q E h => ?_) (fun cdv A outer s0 H vs Q E hr h => ?_)
  · obtain ⟨p, a, s, rfl, _⟩ := h
    rfl
  · obtain ⟨p, a, s, rfl, ha, hp, hs, q⟩ := h
    refine ⟨_, (pss_cons (ps_par (i := 2) (j := 3) rfl scLawWord.nd rfl rfl (by decide) rfl rfl (pa_cons (pe_abcIx2 (pv 0)) (pa_cons (pv 0) pa_nil)) rfl)
      (pss_cons (ps_for PassesOwn.never rfl (pi_list (pv 1)) (pg_name (i := 4) scLawWord.nd rfl (.inl rfl))
      (pss_cons (ps_set (i := 2) scLawWord.nd rfl (.inl rfl) (pe_op op_mod (pe_op op_add (pv 2) (pv 4)) pe_int))
      (pss_one (ps_set (i := 3) scLawWord.nd rfl (.inl rfl) (pe_op op_add_str (pv 3) (pe_ix ix_str pe_str (pv 2) (fun _ _ => rfl)))))))
      (pss_one (ps_ret (pv 3))))), ?_⟩
    refine ev_index ha (ev_var rfl) H (Ex.refl H) _ fun H1 e1 => ?_
    refine ⟨.str (sg a), rfl, .int (a : Nat), .str (sg a), rfl, ?_⟩
    refine q_forLn (ev_var rfl) (ex_l e1 hp) (fun i σ H' => ∃ y, σ = [some (.str (sg a)), some (.ref p), some (.int (fin a (s.take i) : Nat)), some (.str (wd a (s.take i))), y] ∧ Ex H H')
      (fun H2 e2 => ⟨none, rfl, e1.trans e2⟩) (fun i σ H' hi p' => by obtain ⟨y, rfl, e2⟩ := p'; exact ex_l e2 hp) ?_ ?_
    · rintro i x σ H' hi ⟨y, rfl, e2⟩
      obtain ⟨b, hb, rfl⟩ := rv_get hi
      have hf : fin a (s.take i) < 3 := fin_lt ha _
      refine q_asg (ev_op (ev_op (ev_var rfl) (ev_var rfl) rv_I0) ev_c (rv_I (by decide))) fun H3 e3 => ?_
      rw [nx_int hf b]
      refine s_asg (v := .str (wd a (s.take i) ++ sg (nx (fin a (s.take i)) b))) (ev_op (ev_var rfl) (ev_op ev_c (ev_var rfl) (rv_ixS (c := 97 + nx (fin a (s.take i)) b) (by decide) (abc_at (nx_lt _ _))))
        (fun H4 e4 Q' q' => ⟨_, _, rfl, rfl, by rw [wd_len, List.length_take]; exact size_small (by show min i s.length + 1 + 1 ≤ 1000000; omega), q' H4 (Ex.refl H4)⟩)) fun H4 e4 => ?_
      refine ⟨some (.int (sv b)), ?_, (e2.trans e3).trans e4⟩
      rw [take_snoc hb, fin_snoc, wd_snoc]
      rfl
    · rintro σ H' ⟨y, rfl, e2⟩
      have hl' : (rv s).length = s.length := by unfold rv; rw [List.length_map]
      rw [hl', List.take_length]
      exact s_ret (ev_var rfl) fun H3 e3 => q H3 (e2.trans e3)
/-- a drawn word of 2 .. 5 letters -/
def spAny (K : PySem.W.Frag) : Sp := fun vs H Q _ => ∃ l sc ns, vs = [.ref l, .int 5] ∧ Rws K H l sc ns ∧ ns.length ≤ 1000 ∧ ∀ a s H', a < 3 → 1 ≤ s.length → s.length ≤ 4 → Kp l l H H' → Rws K H' l sc ns → Q (.str (wd a s)) H'
theorem ok_law_any {f f1 f2 f3 : Addr} {fd fd1 fd2 fd3 : FuncData} (D : Dfn K mg "_law_any" sLawAny ["_law_row", "_law_most"] f fd) (D1 : Dfn K mg "_law_taken" sLawTaken ["_law_row", "_law_many"] f1 fd1) (G1 : FnOk P w K mg base CX0 1 f1 fd1 ["_law_row", "_law_many"] (spTaken K))
    (D2 : Dfn K mg "_law_pick" sLawPick ["_law_row", "_law_things"] f2 fd2) (G2 : FnOk P w K mg base CX0 2 f2 fd2 ["_law_row", "_law_things"] (spPickS K)) (G2' : FnOk P w K mg base CX0 2 f2 fd2 ["_law_row", "_law_things"] (spPickL K))
    (D3 : Dfn K mg "_law_word" sLawWord ["_law_first", "_law_line"] f3 fd3) (G3 : FnOk P w K mg base CX0 1 f3 fd3 ["_law_first", "_law_line"] (spWordOf K)) (T : Txt mg) :
    FnOk P w K mg base CX0 3 f fd ["_law_row", "_law_most"] (spAny K) := by
  refine D.F.ok scLawAny (fun vs H Q E h => ?_) (fun cdv A outer s0 H vs Q E hr h => ?_)
  · obtain ⟨l, sc, ns, rfl, _⟩ := h
    rfl
  · obtain ⟨l, sc, ns, rfl, hR, hn, q⟩ := h
    refine ⟨_, (pss_cons (ps_set (i := 2) scLawAny.nd rfl (.inl rfl) (pe_op op_add pe_int (pe_fn D1 G1 (hr.mono (by decide)) (pa_cons (pv 0) (pa_cons (pe_op op_sub (pv 1) pe_int) pa_nil)))))
      (pss_one (ps_ret (pe_fn D3 G3 (hr.mono (by decide)) (pa_cons (pe_fn D2 G2 hr (pa_cons (pv 0) (pa_cons pe_str pa_nil))) (pa_cons (pe_lc (own := [("_law_turn", 3)]) (g := gName 3) (te := tCall (spPickL K) [] E0 (tCons (tVar 0) (tCons (tLst (tCons (tC (.int 1)) (tCons (tUn (rU fun i => .int (-i)) (tC (.int 1))) tNil))) tNil))) rfl scLawAny.nd (pi_range1 rfl T.range (pa_cons (pv 2) pa_nil)) (blkOk_by (own := [("_law_turn", 3)]) (N := nLawAny) (sc := defScope sLawAny) (by decide +kernel)) (fun _ _ _ _ _ => pg_name (i := 3) scLawAny.nd rfl (.inl rfl)) (fun _ _ _ _ _ => pts_nil) (fun _ _ _ _ _ => pe_fn D2 G2' hr (pa_cons (pv 0) (pa_cons (pe_lst (pa_cons pe_int (pa_cons (pe_un un_neg pe_int) pa_nil))) pa_nil)))) pa_nil)))))), ?_⟩
    refine ⟨.ref l, rfl, .int 5, rfl, 5, 1, rfl, rfl, l, sc, ns, 4, rfl, hR, hn, by decide, by decide, fun v H1 k1 hR1 h1 h2 => ⟨1, v, rfl, rfl, ?_⟩⟩
    refine ⟨.ref l, rfl, l, sc, ns, rfl, hR1, hn, fun a H2 ha k2 hR2 => ?_⟩
    refine ⟨.int (1 + v), rfl, 1 + v, rfl, by omega, by omega, fun Dl hD => ?_⟩
    have hDl : Dl ≠ l := fun z => by subst z; obtain ⟨o, ho⟩ := hR2.cell; rw [ho] at hD; cases hD
    refine lc_range (lo := 0) (n := (1 + v).toNat) (fun i H' => ∃ s, Kp l l H2 H' ∧ Rws K H' l sc ns ∧ s.length = i ∧ H' Dl = some (.lst (rv s))) ⟨[], Kp.of (Ex.new hD), hR2.on (Ex.new hD), rfl, upd_same⟩ ?_ ?_
    · rintro i H' hi ⟨s, k', hR', hsl, hDs⟩
      refine ⟨rfl, ?_⟩
      unfold tYes
      refine iteT ?_
      refine ⟨.ref l, rfl, 1, rfl, by show 2 ≤ sizeLine; decide, fun pp hpp => ?_⟩
      have e4 := Ex.new hpp (o := HO.lst [.int 1, .int (-1)])
      have hpl : pp ≠ l := fun z => by subst z; obtain ⟨o, ho⟩ := hR'.cell; rw [ho] at hpp; cases hpp
      refine ⟨l, sc, ns, pp, [.int 1, .int (-1)], rfl, hR'.on e4, hn, sq_of upd_same, hpl, by decide, by decide, fun u H5 hu k5 hR5 => ?_⟩
      obtain ⟨b, rfl⟩ : ∃ b, u = .int (sv b) := by
        rcases List.mem_cons.mp hu with rfl | hu
        · exact ⟨true, rfl⟩
        · rw [List.mem_singleton] at hu
          exact ⟨false, hu⟩
      have hD5 : H5 Dl = some (.lst (rv s)) := k5 _ _ hDl hDl (e4 _ _ hDs)
      refine ⟨rv s, hD5, by unfold rv; rw [List.length_map]; exact size_less (by omega), s ++ [b], ?_, ?_, by simp [hsl], ?_⟩
      · intro x o h1 h2 hx
        have hxD : x ≠ Dl := fun z => by subst z; rw [hD] at hx; cases hx
        rw [upd_ne hxD]
        exact k5 _ _ h1 h2 (e4 _ _ (k' _ _ h1 h2 hx))
      · exact Rws.side hR2 hD hR5 hDl
      · rw [show rv (s ++ [b]) = rv s ++ [.int (sv b)] by unfold rv; rw [List.map_append]; rfl]
        exact upd_same
    · rintro H' ⟨s, k', hR', hsl, hDs⟩
      refine ⟨Dl, a, s, rfl, ha, sq_of hDs, by omega, fun H6 e6 => q a s H6 ha (by omega) (by omega) (((k1.trans k2).trans k').trans (Kp.of e6)) (hR'.on e6)⟩
end
end TW

set_option Elab.async false
set_option linter.all false
set_option maxRecDepth 100000
/-! The mathematics of the law, sixth part: putting in and taking out by places. No program here. -/
namespace TW
open PySem Tlm L2 Evl

theorem up_iff {s t : Tlm.Row} : Up s t ↔ ∃ u b v, s = u ++ b :: v ∧ t = u ++ (!b) :: (!b) :: v := by
  constructor
  · intro h
    induction h with
    | here b v => exact ⟨[], b, v, rfl, rfl⟩
    | there c _ ih =>
      obtain ⟨u, b, v, rfl, rfl⟩ := ih
      exact ⟨c :: u, b, v, rfl, rfl⟩
  · rintro ⟨u, b, v, rfl, rfl⟩
    exact up_here u b v
/-- the letter put in at place i -/
def putr (s : Tlm.Row) (i : Nat) : Tlm.Row := match s[i]? with | some b => s.take i ++ (!b) :: (!b) :: s.drop (i + 1) | none => s
/-- the letter taken out behind place i -/
def outr (s : Tlm.Row) (i : Nat) : Tlm.Row := match s[i]? with | some b => s.take i ++ (!b) :: s.drop (i + 2) | none => s
def opens (s : Tlm.Row) : List Nat := (List.range (s.length - 1)).filter fun i => decide (s[i]? = s[i + 1]?)
theorem split_at {s : Tlm.Row} {i : Nat} {b : Bool} (h : s[i]? = some b) : s = s.take i ++ b :: s.drop (i + 1) := by
  have hi := (List.getElem?_eq_some_iff.mp h).1
  conv => lhs; rw [← List.take_append_drop i s]
  congr 1
  rw [List.drop_eq_getElem_cons hi]
  rw [List.getElem?_eq_getElem hi] at h
  injection h with h
  rw [h]
theorem mem_putr {s x : Tlm.Row} : x ∈ (List.range s.length).map (putr s) ↔ Up s x := by
  rw [List.mem_map, up_iff]
  constructor
  · rintro ⟨i, hi, rfl⟩
    have hi := List.mem_range.mp hi
    have hb : s[i]? = some s[i] := List.getElem?_eq_getElem hi
    refine ⟨s.take i, s[i], s.drop (i + 1), split_at hb, ?_⟩
    unfold putr
    rw [hb]
  · rintro ⟨u, b, v, rfl, rfl⟩
    refine ⟨u.length, List.mem_range.mpr (by simp), ?_⟩
    unfold putr
    have : (u ++ b :: v)[u.length]? = some b := by simp
    rw [this]
    simp
theorem mem_outr {s x : Tlm.Row} : x ∈ (opens s).map (outr s) ↔ Up x s := by
  rw [List.mem_map, up_iff]
  unfold opens
  constructor
  · rintro ⟨i, hi, rfl⟩
    obtain ⟨hi, he⟩ := List.mem_filter.mp hi
    have hi := List.mem_range.mp hi
    have he := of_decide_eq_true he
    have h1 : i < s.length := by omega
    have hb : s[i]? = some s[i] := List.getElem?_eq_getElem h1
    rw [hb] at he
    have e1 := split_at hb
    have e2 := split_at he.symm
    refine ⟨s.take i, !s[i], s.drop (i + 2), ?_, ?_⟩
    · unfold outr
      rw [hb]
    · rw [Bool.not_not]
      have : s.drop (i + 1) = s[i] :: s.drop (i + 2) := by
        rw [List.drop_eq_getElem_cons (by omega : i + 1 < s.length)]
        congr 1
        rw [List.getElem?_eq_getElem (by omega : i + 1 < s.length)] at he
        injection he with he
        exact he.symm
      rw [← this]
      exact e1
  · rintro ⟨u, b, v, rfl, rfl⟩
    refine ⟨u.length, List.mem_filter.mpr ⟨List.mem_range.mpr (by simp), ?_⟩, ?_⟩
    · refine decide_eq_true ?_
      have h1 : (u ++ (!b) :: (!b) :: v)[u.length]? = some (!b) := by simp
      have h2 : (u ++ (!b) :: (!b) :: v)[u.length + 1]? = some (!b) := by
        rw [List.getElem?_append_right (by omega)]
        simp
      rw [h1, h2]
    · unfold outr
      have : (u ++ (!b) :: (!b) :: v)[u.length]? = some (!b) := by simp
      rw [this]
      simp
theorem opens_lt {s : Tlm.Row} {i : Nat} (h : i ∈ opens s) : ∃ b, s[i]? = some b ∧ s[i + 1]? = some b := by
  obtain ⟨hi, he⟩ := List.mem_filter.mp h
  have hi := List.mem_range.mp hi
  have he := of_decide_eq_true he
  have hb : s[i]? = some s[i] := List.getElem?_eq_getElem (by omega)
  exact ⟨_, hb, by rw [← he, hb]⟩
/-- texts that are words -/
theorem words_of {a : Nat} (ha : a < 3) {ys : List Str} {Xs : List Tlm.Row} (hn : ys.Nodup) (hm : ∀ y, y ∈ ys ↔ y ∈ Xs.map (wd a)) : ∃ Ls : List Tlm.Row, ys = Ls.map (wd a) ∧ Ls.Nodup ∧ ∀ x, x ∈ Ls ↔ x ∈ Xs := by
  have h1 : ∀ ys : List Str, (∀ y ∈ ys, y ∈ Xs.map (wd a)) → ∃ Ls : List Tlm.Row, ys = Ls.map (wd a) := by
    intro ys
    induction ys with
    | nil => exact fun _ => ⟨[], rfl⟩
    | cons y r ih =>
      intro h
      obtain ⟨Ls, e⟩ := ih fun z hz => h z (List.mem_cons_of_mem _ hz)
      obtain ⟨x, _, e2⟩ := List.mem_map.mp (h y (List.mem_cons_self ..))
      exact ⟨x :: Ls, by rw [List.map_cons, ← e, e2]⟩
  obtain ⟨Ls, rfl⟩ := h1 ys fun y hy => (hm y).mp hy
  refine ⟨Ls, rfl, List.Pairwise.imp (fun hab e => hab (by rw [e])) (List.pairwise_map.mp hn), fun x => ?_⟩
  have h2 : ∀ (l : List Tlm.Row) (x : Tlm.Row), wd a x ∈ l.map (wd a) ↔ x ∈ l := fun l x => by
    constructor
    · intro h
      obtain ⟨y, hy, e⟩ := List.mem_map.mp h
      rw [← wd_inj ha e]
      exact hy
    · exact fun h => List.mem_map.mpr ⟨x, h, rfl⟩
  rw [← h2 Ls, hm, h2]

/-! how many are below -/
def outs (s : Tlm.Row) : List Tlm.Row := (opens s).map (outr s)
def addAll (l : List Tlm.Row) : List Tlm.Row → List Tlm.Row
  | [] => l
  | x :: r => addAll (if l.contains x then l else l ++ [x]) r
theorem addAll_mem {x : Tlm.Row} : ∀ {r l : List Tlm.Row}, x ∈ addAll l r ↔ x ∈ l ∨ x ∈ r
  | [], l => by simp [addAll]
  | y :: r, l => by
    rw [addAll, addAll_mem]
    by_cases h : l.contains y = true
    · rw [if_pos h]
      have := List.contains_iff_mem.mp h
      constructor
      · rintro (z | z)
        · exact .inl z
        · exact .inr (List.mem_cons_of_mem _ z)
      · rintro (z | z)
        · exact .inl z
        · rcases List.mem_cons.mp z with rfl | z
          · exact .inl this
          · exact .inr z
    · rw [if_neg h, List.mem_append, List.mem_singleton, List.mem_cons]
      constructor
      · rintro ((z | z) | z)
        · exact .inl z
        · exact .inr (.inl z)
        · exact .inr (.inr z)
      · rintro (z | z | z)
        · exact .inl (.inl z)
        · exact .inl (.inr z)
        · exact .inr z
/-- what is n or fewer letters below a row of the list -/
def dn : Nat → List Tlm.Row → List Tlm.Row
  | 0, l => l
  | n + 1, l => addAll l (dn n (addAll [] (l.flatMap outs)))
theorem dn_ab : ∀ (n : Nat) (l : List Tlm.Row) (x s : Tlm.Row), s ∈ l → Ab x s → s.length ≤ x.length + n → x ∈ dn n l
  | 0, l, x, s, hs, hx, hn => by rw [hx.eq_of_len (by omega)]; exact hs
  | n + 1, l, x, s, hs, hx, hn => by
    rw [dn, addAll_mem]
    cases hx with
    | refl => exact .inl hs
    | @step t _ h1 h2 =>
      refine .inr (dn_ab n _ x t (addAll_mem.mpr (.inr (List.mem_flatMap.mpr ⟨s, hs, mem_outr.mpr h2⟩))) h1 ?_)
      have := h2.len
      omega
def rows : Nat → List Tlm.Row
  | 0 => [[]]
  | n + 1 => (rows n).flatMap fun r => [true :: r, false :: r]
theorem mem_rows : ∀ (r : Tlm.Row), r ∈ rows r.length
  | [] => List.mem_singleton.mpr rfl
  | b :: r => by
    rw [List.length_cons, rows]
    exact List.mem_flatMap.mpr ⟨r, mem_rows r, by cases b <;> simp⟩
def rowsTo : Nat → List Tlm.Row
  | 0 => rows 0
  | n + 1 => rowsTo n ++ rows (n + 1)
theorem mem_rowsTo : ∀ (n : Nat) (r : Tlm.Row), r.length ≤ n → r ∈ rowsTo n
  | 0, r, h => by
    have := mem_rows r
    rw [show r.length = 0 by omega] at this
    exact this
  | n + 1, r, h => by
    rw [rowsTo, List.mem_append]
    rcases Nat.lt_or_ge r.length (n + 1) with z | z
    · exact .inl (mem_rowsTo n r (by omega))
    · have := mem_rows r
      rw [show r.length = n + 1 by omega] at this
      exact .inr this
theorem dn_few : ∀ s ∈ rowsTo 7, (dn 7 [s]).length ≤ 60 := by decide +kernel
def rowNum : Tlm.Row → Nat
  | [] => 1
  | b :: r => 2 * rowNum r + if b then 1 else 0
theorem rowNum_pos : ∀ r, 1 ≤ rowNum r
  | [] => by decide
  | b :: r => by have := rowNum_pos r; rw [rowNum]; omega
theorem rowNum_inj : ∀ {r s : Tlm.Row}, rowNum r = rowNum s → r = s
  | [], [], _ => rfl
  | [], b :: s, e => by have := rowNum_pos s; rw [rowNum, rowNum] at e; omega
  | b :: r, [], e => by have := rowNum_pos r; rw [rowNum, rowNum] at e; omega
  | b :: r, c :: s, e => by
    rw [rowNum, rowNum] at e
    have h1 : rowNum r = rowNum s := by cases b <;> cases c <;> simp at e <;> omega
    rw [rowNum_inj h1]
    cases b <;> cases c <;> simp at e <;> first | rfl | omega
theorem rowNum_lt : ∀ (r : Tlm.Row), rowNum r < 2 ^ (r.length + 1)
  | [] => by decide
  | b :: r => by
    have := rowNum_lt r
    rw [rowNum, List.length_cons, Nat.pow_succ]
    cases b <;> simp <;> omega
/-- a list of rows without doubles within another -/
theorem rows_len {l m : List Tlm.Row} (hn : l.Nodup) (h : ∀ x ∈ l, x ∈ m) : l.length ≤ m.length := by
  have := nat_nodup_len (l.map rowNum) (m.map rowNum) (List.pairwise_map.mpr (List.Pairwise.imp (fun hab e => hab (rowNum_inj e)) hn)) fun x hx => by
    obtain ⟨y, hy, rfl⟩ := List.mem_map.mp hx
    exact List.mem_map.mpr ⟨y, h y hy, rfl⟩
  rwa [List.length_map, List.length_map] at this
theorem rows_few {l : List Tlm.Row} {n : Nat} (hn : l.Nodup) (h : ∀ x ∈ l, x.length ≤ n) : l.length ≤ 2 ^ (n + 1) := by
  have := nat_nodup_len (l.map rowNum) (List.range (2 ^ (n + 1))) (List.pairwise_map.mpr (List.Pairwise.imp (fun hab e => hab (rowNum_inj e)) hn)) fun x hx => by
    obtain ⟨y, hy, rfl⟩ := List.mem_map.mp hx
    exact List.mem_range.mpr (Nat.lt_of_lt_of_le (rowNum_lt y) (Nat.pow_le_pow_right (by decide) (by have := h y hy; omega)))
  rwa [List.length_map, List.length_range] at this
theorem below_few {F : List Tlm.Row} {s : Tlm.Row} (hs : s.length ≤ 7) (hn : F.Nodup) (h : ∀ x ∈ F, Ab x s) : F.length ≤ 60 :=
  Nat.le_trans (rows_len hn fun x hx => dn_ab 7 [s] x s (List.mem_singleton.mpr rfl) (h x hx) (by omega)) (dn_few s (mem_rowsTo 7 s hs))
/-- what is closed under taking out holds all below -/
theorem closed_below {F : List Tlm.Row} {s x : Tlm.Row} (hc : ∀ y ∈ F, ∀ z, Up z y → z ∈ F) (hx : Ab x s) (hs : s ∈ F) : x ∈ F := by
  induction hx with
  | refl => exact hs
  | step a u ih => exact ih (hc _ hs _ u)
end TW

set_option Elab.async false
set_option linter.all false
set_option maxRecDepth 100000
set_option maxHeartbeats 4000000
/-! The walk, twelfth part: rules for texts and comprehensions. -/
namespace TW
open PySem
open PySem.Spec PyProof.Rows L2 Evl Tlm
theorem cut_pre {l : List Nat} {k : Nat} (h : k ≤ l.length) : cutS (tx l) none (some (k : Int)) = tx (l.take k) := by
  unfold cutS
  rw [HT.sIx_none, HT.sIx_nat, tx_cps, tx_len]
  unfold tx cs
  congr 2
  rw [List.drop_zero, Nat.sub_zero, Nat.min_eq_left h, List.map_take]
theorem cut_suf {l : List Nat} {k : Nat} (h : k ≤ l.length) : cutS (tx l) (some (k : Int)) none = tx (l.drop k) := by
  unfold cutS
  rw [HT.sIx_none, HT.sIx_nat, tx_cps, tx_len]
  unfold tx cs
  congr 2
  rw [Nat.min_eq_left h, List.map_drop, List.take_of_length_le (by simp)]
theorem cut_mid {l : List Nat} {i j : Nat} (h1 : i ≤ j) (h2 : j ≤ l.length) : cutS (tx l) (some (i : Int)) (some (j : Int)) = tx ((l.drop i).take (j - i)) := by
  unfold cutS
  rw [HT.sIx_nat, HT.sIx_nat, tx_cps, tx_len]
  unfold tx cs
  congr 2
  rw [Nat.min_eq_left (Nat.le_trans h1 h2), Nat.min_eq_left h2, List.map_take, List.map_drop]
section
variable {K : PySem.W.Frag} {σ : L2.St} {H : Hp} {te ta tb : TE} {t : TT}
theorem ev_slS {tl th : TO} {z : Str} {lo hi : Option Int} (h : Ev te σ H (.str z)) (h1 : EvO tl σ H lo) (h2 : EvO th σ H hi) (hz : z.length ≤ 1000000) : Ev (tSl rSlS te tl th) σ H (.str (cutS z lo hi)) := fun H1 e Q q =>
  h H1 e _ fun H2 e2 => h1 H2 (e.trans e2) _ fun H3 e3 => h2 H3 ((e.trans e2).trans e3) _ fun H4 e4 => ⟨z, rfl, size_small hz, q H4 ((e2.trans e3).trans e4)⟩
theorem rv_addS {x y : Str} (h : x.length + y.length ≤ 1000000) : RV (fun x y H Q => ∃ i j, x = V.str i ∧ y = .str j ∧ i.length + j.length ≤ sizeLine ∧ Q (.str (i ++ j)) H) (.str x) (.str y) H (.str (x ++ y)) := fun H1 e Q q => ⟨x, y, rfl, rfl, size_small h, q H1 (Ex.refl H1)⟩
/-- a comprehension over the signs of a text -/
theorem el_lcS {z : Str} {ts : TE} {j : Nat} {vs : List Nat} (f : Nat → Bool) (v : Nat → V) (h : Ev ts σ H (.str z)) (hz : z.cps.size ≤ 40000) (hw : ∀ x, wipe ((wipe σ vs).set j (some x)) vs = wipe σ vs)
    (ht : ∀ (i c : Nat) H1, Ex H H1 → z.cps[i]? = some c → EvT t ((wipe σ vs).set j (some (.str ⟨#[c]⟩))) H1 (f i)) (he : ∀ (i c : Nat) H1, Ex H H1 → z.cps[i]? = some c → f i = true → Ev te ((wipe σ vs).set j (some (.str ⟨#[c]⟩))) H1 (v i)) :
    EvL (tLc (iStr ts) (gName j) t te vs) σ H (given z.cps.size f v) := fun H0 e Q q => h H0 e _ fun H1 e1 => ⟨z, rfl, fun Dl hD =>
  lc_it walk_str (Cw H1 f v Dl) ⟨hD, Ex.new hD, upd_same⟩ (fun _ _ _ _ => True.intro) (fun k x H' H'' hk p y => by
    obtain ⟨rfl, c, hc, rfl⟩ := y
    exact ⟨hw _, cw_turn p (by omega) (ht k c H1 (e.trans e1) hc) (fun hf => he k c H1 (e.trans e1) hc hf)⟩)
    (fun H' p => q Dl H' (fresh_back e1 p.1) (e1.trans p.2.1) p.2.2)⟩
theorem el_lcR2 {ta : TA} {j : Nat} {vs : List Nat} {lo n : Int} (f : Nat → Bool) (v : Nat → V) (h : EvA ta σ H [.int lo, .int n]) (hn : 0 ≤ lo ∧ lo ≤ 40000 ∧ -40000 ≤ n ∧ n ≤ 40000) (hw : ∀ x, wipe ((wipe σ vs).set j (some x)) vs = wipe σ vs)
    (ht : ∀ (i : Nat) H1, Ex H H1 → lo + (i : Int) < n → EvT t ((wipe σ vs).set j (some (.int (lo + (i : Int))))) H1 (f i)) (he : ∀ (i : Nat) H1, Ex H H1 → lo + (i : Int) < n → f i = true → Ev te ((wipe σ vs).set j (some (.int (lo + (i : Int))))) H1 (v i)) :
    EvL (tLc (iRng2 ta) (gName j) t te vs) σ H (given (n - lo).toNat f v) := fun H0 e Q q => h H0 e _ fun H1 e1 => ⟨lo, n, rfl, ⟨by omega, by omega, by omega, by omega⟩, fun Dl hD =>
  lc_range (lo := lo) (n := (n - lo).toNat) (Cw H1 f v Dl) ⟨hD, Ex.new hD, upd_same⟩ (fun i H' hi p => ⟨hw _, cw_turn p (by omega) (ht i H1 (e.trans e1) (by omega)) (fun hf => he i H1 (e.trans e1) (by omega) hf)⟩) (fun H' p => q Dl H' (fresh_back e1 p.1) (e1.trans p.2.1) p.2.2)⟩
end
theorem given_filter {α : Type} (l : List α) (p : α → Bool) (g : α → V) : given l.length (fun i => (l[i]?).elim false p) (fun i => (l[i]?).elim .non g) = (l.filter p).map g := by
  have h : ∀ k, k ≤ l.length → given k (fun i => (l[i]?).elim false p) (fun i => (l[i]?).elim .non g) = ((l.take k).filter p).map g := by
    intro k
    induction k with
    | zero => intro _; rfl
    | succ k ih =>
      intro hk
      have hk' : l[k]? = some l[k] := List.getElem?_eq_getElem (by omega)
      have e : l.take (k + 1) = l.take k ++ [l[k]] := by rw [List.take_add_one, hk']; rfl
      cases hp : p l[k] with
      | true =>
        rw [given_yes (by rw [hk']; exact hp), ih (by omega), e, List.filter_append, List.map_append, hk']
        simp [hp]
      | false =>
        rw [given_no (by rw [hk']; exact hp), ih (by omega), e, List.filter_append, List.map_append]
        simp [hp]
  have := h l.length (Nat.le_refl _)
  rwa [List.take_length] at this
/-- a word at a place -/
theorem lets_at {a i : Nat} {s : Tlm.Row} {b : Bool} (h : s[i]? = some b) : lets a s = pre a (s.take i) ++ fin a (s.take i) :: lets (nx (fin a (s.take i)) b) (s.drop (i + 1)) := by
  conv => lhs; rw [split_at h, lets_app]
  rfl
theorem pre_take {a i : Nat} {s : Tlm.Row} {b : Bool} (h : s[i]? = some b) : (pre a (s.take i)).length = i := by
  have := (List.getElem?_eq_some_iff.mp h).1
  rw [pre_len, List.length_take]
  omega
theorem wd_put {a i : Nat} {s : Tlm.Row} {b : Bool} (ha : a < 3) (h : s[i]? = some b) : tx ((lets a s).take (i + 1)) ++ sg (nx (fin a (s.take i)) (!b)) ++ tx ((lets a s).drop (i + 1)) = wd a (putr s i) := by
  have hp := pre_take (a := a) h
  have e1 : (lets a s).take (i + 1) = pre a (s.take i) ++ [fin a (s.take i)] := by
    rw [lets_at h, List.take_append, hp, List.take_of_length_le (by omega), Nat.add_sub_cancel_left]
    rfl
  have e2 : (lets a s).drop (i + 1) = lets (nx (fin a (s.take i)) b) (s.drop (i + 1)) := by
    rw [lets_at h, List.drop_append, hp, List.drop_eq_nil_of_le (by omega), Nat.add_sub_cancel_left]
    rfl
  rw [e1, e2, ← tx_sg, tx_app, tx_app]
  unfold wd putr
  rw [h]
  congr 1
  show _ = lets a (s.take i ++ (!b) :: (!b) :: s.drop (i + 1))
  rw [lets_app]
  show _ = pre a (s.take i) ++ fin a (s.take i) :: nx (fin a (s.take i)) (!b) :: lets (nx (nx (fin a (s.take i)) (!b)) (!b)) (s.drop (i + 1))
  rw [nx_third (fin_lt ha _) b]
  simp
theorem wd_out {a i : Nat} {s : Tlm.Row} {b : Bool} (ha : a < 3) (h : s[i]? = some b) (h' : s[i + 1]? = some b) : tx ((lets a s).take (i + 1)) ++ tx ((lets a s).drop (i + 2)) = wd a (outr s i) := by
  have hp := pre_take (a := a) h
  have ed : s.drop (i + 1) = b :: s.drop (i + 2) := by
    have hl := (List.getElem?_eq_some_iff.mp h').1
    rw [List.drop_eq_getElem_cons hl]
    rw [List.getElem?_eq_getElem hl] at h'
    injection h' with h'
    rw [h']
  have e0 : lets a s = pre a (s.take i) ++ fin a (s.take i) :: nx (fin a (s.take i)) b :: lets (nx (nx (fin a (s.take i)) b) b) (s.drop (i + 2)) := by
    rw [lets_at h, ed]
    rfl
  have e1 : (lets a s).take (i + 1) = pre a (s.take i) ++ [fin a (s.take i)] := by
    rw [e0, List.take_append, hp, List.take_of_length_le (by omega), Nat.add_sub_cancel_left]
    rfl
  have e2 : (lets a s).drop (i + 2) = lets (nx (nx (fin a (s.take i)) b) b) (s.drop (i + 2)) := by
    rw [e0, List.drop_append, hp, List.drop_eq_nil_of_le (by omega), show i + 2 - i = 2 by omega]
    rfl
  rw [e1, e2, tx_app]
  unfold wd outr
  rw [h]
  congr 1
  show _ = lets a (s.take i ++ (!b) :: s.drop (i + 2))
  rw [lets_app]
  show _ = pre a (s.take i) ++ fin a (s.take i) :: lets (nx (fin a (s.take i)) (!b)) (s.drop (i + 2))
  have := nx_third (fin_lt ha (s.take i)) (!b)
  rw [Bool.not_not] at this
  rw [this]
  simp
theorem wd_at {a i x : Nat} {s : Tlm.Row} (h : (lets a s)[i]? = some x) : (wd a s).cps.toList[i]? = some (97 + x) := by
  unfold wd
  rw [tx_cps]
  unfold cs
  rw [List.getElem?_map, h]
  rfl
/-- letters around a place -/
theorem lets_i {a i : Nat} {s : Tlm.Row} {b : Bool} (h : s[i]? = some b) : (lets a s)[i]? = some (fin a (s.take i)) := by
  have hp := pre_take (a := a) h
  rw [lets_at h, List.getElem?_append_right (by omega), hp, Nat.sub_self]
  rfl
theorem lets_i2 {a i : Nat} {s : Tlm.Row} {b c : Bool} (h : s[i]? = some b) (h' : s[i + 1]? = some c) : (lets a s)[i + 2]? = some (nx (nx (fin a (s.take i)) b) c) := by
  have hp := pre_take (a := a) h
  have ed : s.drop (i + 1) = c :: s.drop (i + 2) := by
    have hl := (List.getElem?_eq_some_iff.mp h').1
    rw [List.drop_eq_getElem_cons hl]
    rw [List.getElem?_eq_getElem hl] at h'
    injection h' with h'
    rw [h']
  obtain ⟨r, hr⟩ := lets_head (nx (nx (fin a (s.take i)) b) c) (s.drop (i + 2))
  rw [lets_at h, List.getElem?_append_right (by omega), hp, show i + 2 - i = 2 by omega, ed]
  show (fin a (s.take i) :: nx (fin a (s.take i)) b :: lets (nx (nx (fin a (s.take i)) b) c) (s.drop (i + 2)))[2]? = _
  rw [hr]
  rfl
theorem third_list {x : Nat} (hx : x < 3) (b : Bool) : given 3 (fun i => decide (i ≠ x ∧ i ≠ nx x b)) (fun i => .str (sg i)) = [.str (sg (nx x (!b)))] := by
  rcases three hx with rfl | rfl | rfl <;> cases b <;> rfl
end TW

set_option Elab.async false
set_option linter.all false
set_option maxRecDepth 100000
set_option maxHeartbeats 4000000
/-! The walk, thirteenth part (printed by gen_w10.py): letters put in and taken out. -/
namespace TW
open PySem
open PySem.Spec PyProof.Rows L2 Evl Tlm
theorem abc_get {i c : Nat} (h : ("abc" : Str).cps[i]? = some c) : i < 3 ∧ c = 97 + i := by
  match i with
  | 0 => exact ⟨by decide, by have : some 97 = some c := h; injection this with this; exact this.symm⟩
  | 1 => exact ⟨by decide, by have : some 98 = some c := h; injection this with this; exact this.symm⟩
  | 2 => exact ⟨by decide, by have : some 99 = some c := h; injection this with this; exact this.symm⟩
  | i + 3 => have : none = some c := h; cases this
def Wds (a : Nat) (Ls : List Tlm.Row) : List V := Ls.map fun x => .str (wd a x)
section
variable {P : Program} {w : World} {K : PySem.W.Frag} {mg : Str → Option Value} {base : Heap}
def spPut : Sp := fun vs H Q _ => ∃ a s i, vs = [.str (wd a s), .int (i : Nat)] ∧ a < 3 ∧ s.length ≤ 1000 ∧ i < s.length ∧ RetV (.str (wd a (putr s i))) H Q
theorem ok_put {f : Addr} {fd : FuncData} (D : Dfn K mg "_law_put" sLawPut ["_law_word_here", "_law_place"] f fd) : FnOk P w K mg base CX0 1 f fd ["_law_word_here", "_law_place"] spPut := by
  refine D.F.ok scLawPut (fun vs H Q E h => ?_) (fun cdv A outer s0 H vs Q E hr h => ?_)
  · obtain ⟨a, s, i, rfl, _⟩ := h
    rfl
  · obtain ⟨a, s, i, rfl, ha, hs, hi, q⟩ := h
    refine ⟨_, (pss_cons (ps_set (i := 2) scLawPut.nd rfl (.inl rfl) (pe_ix ix_list (pe_lc (own := [("_law_sign", 3)]) (g := gName 3)  rfl scLawPut.nd (pi_str pe_str) (blkOk_by (own := [("_law_sign", 3)]) (N := nLawPut) (sc := defScope sLawPut) (by decide +kernel)) (fun _ _ _ _ _ => pg_name (i := 3) scLawPut.nd rfl (.inl rfl)) (fun _ _ _ _ _ => pts_one (pt_cmpR op_notIn_sign (pv 3) (pe_slice sl_str (pv 0) (po_some (pv 1)) (po_some (pe_op op_add (pv 1) pe_int))) rfl)) (fun _ _ _ _ _ => pv 3)) pe_int (fun _ _ => rfl)))
      (pss_one (ps_ret (pe_op op_add_str (pe_op op_add_str (pe_slice sl_str (pv 0) po_none (po_some (pe_op op_add (pv 1) pe_int))) (pv 2)) (pe_slice sl_str (pv 0) (po_some (pe_op op_add (pv 1) pe_int)) po_none))))), ?_⟩
    have hb : s[i]? = some s[i] := List.getElem?_eq_getElem hi
    generalize s[i] = b at hb
    have hlen : (lets a s).length = s.length + 1 := lets_len a s
    have hx3 : fin a (s.take i) < 3 := fin_lt ha _
    have hw : (wd a s).length ≤ 1000000 := by rw [wd_len]; omega
    have ei : ∀ (H : Hp) (σ : L2.St), σ[1]? = some (some (.int (i : Nat))) → Ev (tOp (rI0 fun i j => .int (i + j)) (tVar 1) (tC (.int 1))) σ H (.int ((i + 1 : Nat) : Int)) := fun H σ h => ev_is (ev_op (ev_var h) ev_c rv_I0) rfl
    have hcut : cutS (wd a s) (some ((i : Nat) : Int)) (some ((i + 2 : Nat) : Int)) = tx [fin a (s.take i), nx (fin a (s.take i)) b] := by
      have hp := pre_take (a := a) hb
      unfold wd
      rw [cut_mid (by omega) (by omega), lets_at hb, List.drop_append, hp, List.drop_eq_nil_of_le (by omega), Nat.sub_self, show i + 2 - i = 2 by omega]
      obtain ⟨r, hr⟩ := lets_head (nx (fin a (s.take i)) b) (s.drop (i + 1))
      rw [hr]
      rfl
    refine q_asg (v := .str (sg (nx (fin a (s.take i)) (!b)))) (ev_opL1 (xs := [.str (sg (nx (fin a (s.take i)) (!b)))]) ?_ (fun H1 _ => ev_c (v := .int 0)) fun p H1 h1 e1 => rv_ixL (sq_of h1) rfl) fun H1 e1 => ?_
    · rw [← third_list hx3 b]
      refine el_lcS (z := "abc") (fun i' => decide (i' ≠ fin a (s.take i) ∧ i' ≠ nx (fin a (s.take i)) b)) (fun i => .str (sg i)) ev_c (by decide) (fun x => rfl) (fun k c H1 e1 hc => ?_) (fun k c H1 e1 hc _ => ?_)
      · obtain ⟨hk, rfl⟩ := abc_get hc
        refine et_test (ev_op (ev_var rfl) (ev_slS (z := wd a s) (lo := some ((i : Nat) : Int)) (hi := some ((i + 2 : Nat) : Int)) (ev_var rfl) (eo_some (ev_var rfl)) (eo_some (ev_is (ev_op (ev_var rfl) ev_c rv_I0) rfl)) hw) fun H2 e2 Q' q' => ⟨97 + k, _, rfl, rfl, ?_⟩)
        rw [hcut, tx_cps]
        have : (!decide (97 + k ∈ cs [fin a (s.take i), nx (fin a (s.take i)) b])) = decide (k ≠ fin a (s.take i) ∧ k ≠ nx (fin a (s.take i)) b) := by
          unfold cs
          rw [← decide_not]
          refine decide_eq_decide.mpr ?_
          simp only [List.map_cons, List.map_nil, List.mem_cons, List.not_mem_nil, or_false]
          omega
        rw [this]
        exact q' H2 (Ex.refl H2)
      · obtain ⟨hk, rfl⟩ := abc_get hc
        exact ev_var rfl
    · refine s_ret (v := .str (tx ((lets a s).take (i + 1)) ++ sg (nx (fin a (s.take i)) (!b)) ++ tx ((lets a s).drop (i + 1)))) ?_ fun H2 e2 => ?_
      · refine ev_op (ev_op (ev_is (ev_slS (z := wd a s) (lo := none) (hi := some ((i + 1 : Nat) : Int)) (ev_var rfl) eo_none (eo_some (ev_is (ev_op (ev_var rfl) ev_c rv_I0) rfl)) hw) ?_) (ev_var rfl) (rv_addS ?_)) (ev_is (ev_slS (z := wd a s) (lo := some ((i + 1 : Nat) : Int)) (hi := none) (ev_var rfl) (eo_some (ev_is (ev_op (ev_var rfl) ev_c rv_I0) rfl)) eo_none hw) ?_) (rv_addS ?_)
        · unfold wd; rw [cut_pre (by omega)]
        · rw [tx_len, List.length_take]; show _ + 1 ≤ _; omega
        · unfold wd; rw [cut_suf (by omega)]
        · rw [← tx_sg, tx_app, tx_len, tx_len, List.length_append, List.length_take, List.length_drop]; show _ + 1 + _ ≤ _; omega
      · rw [wd_put ha hb]
        exact q H2 (e1.trans e2)
def spOpen : Sp := fun vs H Q _ => ∃ a s, vs = [.str (wd a s)] ∧ a < 3 ∧ s.length ≤ 1000 ∧ RetL ((opens s).map fun i => .int ((i + 1 : Nat) : Int)) H Q
theorem ok_open {f : Addr} {fd : FuncData} (D : Dfn K mg "_law_open" sLawOpen ["_law_word_here"] f fd) (T : Txt mg) : FnOk P w K mg base CX0 1 f fd ["_law_word_here"] spOpen := by
  refine D.F.ok scLawOpen (fun vs H Q E h => ?_) (fun cdv A outer s0 H vs Q E hr h => ?_)
  · obtain ⟨a, s, rfl, _⟩ := h
    rfl
  · obtain ⟨a, s, rfl, ha, hs, q⟩ := h
    refine ⟨_, (pss_one (ps_ret (pe_lc (own := [("_law_at", 1)]) (g := gName 1)  rfl scLawOpen.nd (pi_range2 rfl T.range (pa_cons pe_int (pa_cons (pe_op op_sub (pe_callB call_len_str (by rfl) T.len (by decide +kernel) (pa_cons (pv 0) pa_nil)) pe_int) pa_nil))) (blkOk_by (own := [("_law_at", 1)]) (N := nLawOpen) (sc := defScope sLawOpen) (by decide +kernel)) (fun _ _ _ _ _ => pg_name (i := 1) scLawOpen.nd rfl (.inl rfl)) (fun _ _ _ _ _ => pts_one (pt_cmpR op_ne (pe_ix ix_str (pv 0) (pe_op op_sub (pv 1) pe_int) (fun _ _ => rfl)) (pe_ix ix_str (pv 0) (pe_op op_add (pv 1) pe_int) (fun _ _ => rfl)) (nomark _))) (fun _ _ _ _ _ => pv 1)))), ?_⟩
    have hlen : (wd a s).length = s.length + 1 := wd_len a s
    refine s_retL (xs := given ((s.length : Int) - 1).toNat (fun i => decide (s[i]? = s[i + 1]?)) (fun i => .int ((i + 1 : Nat) : Int))) ?_ fun p H1 hp e1 h1 => q p H1 hp e1 ?_
    · refine el_lcR2 (lo := 1) (n := (s.length : Int)) (fun i => decide (s[i]? = s[i + 1]?)) (fun i => .int ((i + 1 : Nat) : Int)) (ea_cons ev_c (ea_cons (ev_is (ev_op (ev_cb (ea_cons (ev_var rfl) ea_nil) fun H2 e2 Q' q' => ⟨wd a s, rfl, by rw [hlen]; exact size_small (by omega), q' H2 (Ex.refl H2)⟩) ev_c rv_I0) (by rw [hlen]; congr 1; omega)) ea_nil)) ⟨by decide, by decide, by omega, by omega⟩ (fun x => rfl) (fun i H1 e1 hi => ?_) (fun i H1 e1 hi _ => ?_)
      · have h0 : i < s.length := by omega
        have h1 : i + 1 < s.length := by omega
        have hb : s[i]? = some s[i] := List.getElem?_eq_getElem h0
        have hc : s[i + 1]? = some s[i + 1] := List.getElem?_eq_getElem h1
        generalize s[i] = b at hb
        generalize s[i + 1] = c at hc
        have hx3 : fin a (s.take i) < 3 := fin_lt ha _
        refine et_is (et_test (ev_op (ev_op (ev_var rfl) (ev_op (ev_var rfl) ev_c rv_I0) (rv_ixS (c := 97 + fin a (s.take i)) (by rw [hlen]; omega) (atIx (j := i) (by omega) (wd_at (lets_i hb))))) (ev_op (ev_var rfl) (ev_op (ev_var rfl) ev_c rv_I0) (rv_ixS (c := 97 + nx (nx (fin a (s.take i)) b) c) (by rw [hlen]; omega) (atIx (j := i + 2) (by omega) (wd_at (lets_i2 hb hc))))) (rv_ne rfl))) ?_
        rw [hb, hc]
        have := nx_two hx3 b c
        rw [← decide_not]
        refine decide_eq_decide.mpr ?_
        constructor
        · intro z
          have : fin a (s.take i) ≠ nx (nx (fin a (s.take i)) b) c := fun e => z (by rw [← e])
          rw [(nx_two hx3 b c).mp this]
        · intro z e
          injection z with z
          injection e with e
          exact (nx_two hx3 b c).mpr z (sg_inj e)
      · exact ev_is (ev_var rfl) (by congr 1; omega)
    · rw [h1]
      unfold given opens
      rw [show ((s.length : Int) - 1).toNat = s.length - 1 by omega]
def spWithout : Sp := fun vs H Q _ => ∃ a s i b, vs = [.str (wd a s), .int ((i + 1 : Nat) : Int)] ∧ a < 3 ∧ s.length ≤ 1000 ∧ s[i]? = some b ∧ s[i + 1]? = some b ∧ RetV (.str (wd a (outr s i))) H Q
theorem ok_without {f : Addr} {fd : FuncData} (D : Dfn K mg "_law_without" sLawWithout ["_law_word_here", "_law_place"] f fd) : FnOk P w K mg base CX0 1 f fd ["_law_word_here", "_law_place"] spWithout := by
  refine D.F.ok scLawWithout (fun vs H Q E h => ?_) (fun cdv A outer s0 H vs Q E hr h => ?_)
  · obtain ⟨a, s, i, b, rfl, _⟩ := h
    rfl
  · obtain ⟨a, s, i, b, rfl, ha, hs, h1, h2, q⟩ := h
    refine ⟨_, (pss_one (ps_ret (pe_op op_add_str (pe_slice sl_str (pv 0) po_none (po_some (pv 1))) (pe_slice sl_str (pv 0) (po_some (pe_op op_add (pv 1) pe_int)) po_none)))), ?_⟩
    have hl := (List.getElem?_eq_some_iff.mp h2).1
    have hlen : (lets a s).length = s.length + 1 := lets_len a s
    have hw : (wd a s).length ≤ 1000000 := by rw [wd_len]; omega
    refine s_ret (v := .str (tx ((lets a s).take (i + 1)) ++ tx ((lets a s).drop (i + 2)))) ?_ fun H2 e2 => ?_
    · refine ev_op (ev_is (ev_slS (z := wd a s) (lo := none) (hi := some ((i + 1 : Nat) : Int)) (ev_var rfl) eo_none (eo_some (ev_var rfl)) hw) ?_) (ev_is (ev_slS (z := wd a s) (lo := some ((i + 2 : Nat) : Int)) (hi := none) (ev_var rfl) (eo_some (ev_is (ev_op (ev_var rfl) ev_c rv_I0) rfl)) eo_none hw) ?_) (rv_addS ?_)
      · unfold wd; rw [cut_pre (by omega)]
      · unfold wd; rw [cut_suf (by omega)]
      · rw [tx_len, tx_len, List.length_take, List.length_drop]; omega
    · rw [wd_out ha h1 h2]
      exact q H2 e2
/-- a new list of words, without doubles -/
def RetW (a : Nat) (H : Hp) (Q : VK) (p : Tlm.Row → Prop) : Prop := ∀ q H2 (Ls : List Tlm.Row), H q = none → Ex H H2 → Ls.Nodup → (∀ x, x ∈ Ls ↔ p x) → H2 q = some (.lst (Wds a Ls)) → Q (.ref q) H2
/-- sorted(set(list of words)) -/
theorem sort_words {a : Nat} {H : Hp} {te : TE} {σ : L2.St} {Xs : List Tlm.Row} {Q : VK} {p : Tlm.Row → Prop} (ha : a < 3) (hl : EvL te σ H (Wds a Xs)) (h64 : Xs.length < 64) (hp : ∀ x, x ∈ Xs ↔ p x) (q : RetW a H Q p) :
    tCB (rSortedTxt w) (tCons (tCB (rSetTxt K w) (tCons te tNil)) tNil) σ H Q := by
  refine hl H (Ex.refl H) _ fun l H1 hl1 e1 h1 => ⟨l, Xs.map (wd a), rfl, sq_of (by rw [List.map_map]; exact h1), by rw [List.length_map]; exact h64, fun c ys hc hn hm => ?_⟩
  obtain ⟨Ls, rfl, hLn, hLm⟩ := words_of ha hn hm
  have hlen : Ls.length ≤ Xs.length := rows_len hLn fun x hx => (hLm x).mp hx
  refine ⟨c, Ls.map (wd a), rfl, upd_same, by rw [List.length_map]; omega, fun zs d hz hd => ?_⟩
  obtain ⟨Ms, rfl, hMn, hMm⟩ := words_of ha (hz.nodup_iff.mpr hn) (fun y => by rw [hz.mem_iff])
  refine q d _ Ms (fresh_back (e1.trans (Ex.new hc)) hd) ((e1.trans (Ex.new hc)).trans (Ex.new hd)) hMn (fun x => by rw [hMm, hLm, hp]) ?_
  rw [upd_same, List.map_map]
  rfl
def spDowns : Sp := fun vs H Q _ => ∃ a s, vs = [.str (wd a s)] ∧ a < 3 ∧ s.length ≤ 40 ∧ RetW a H Q fun x => Up x s
theorem ok_downs {f f1 f2 : Addr} {fd fd1 fd2 : FuncData} (D : Dfn K mg "_law_downs" sLawDowns ["_law_word_here"] f fd) (D1 : Dfn K mg "_law_open" sLawOpen ["_law_word_here"] f1 fd1) (G1 : FnOk P w K mg base CX0 1 f1 fd1 ["_law_word_here"] spOpen)
    (D2 : Dfn K mg "_law_without" sLawWithout ["_law_word_here", "_law_place"] f2 fd2) (G2 : FnOk P w K mg base CX0 1 f2 fd2 ["_law_word_here", "_law_place"] spWithout) (T : Txt mg) : FnOk P w K mg base CX0 2 f fd ["_law_word_here"] spDowns := by
  refine D.F.ok scLawDowns (fun vs H Q E h => ?_) (fun cdv A outer s0 H vs Q E hr h => ?_)
  · obtain ⟨a, s, rfl, _⟩ := h
    rfl
  · obtain ⟨a, s, rfl, ha, hs, q⟩ := h
    refine ⟨_, (pss_one (ps_ret (pe_callB (cr_sortedTxt rfl) (by rfl) T.sorted (by decide +kernel) (pa_cons (pe_callTy (cr_setTxt rfl) (by rfl) T.set (by decide +kernel) (pa_cons (pe_lc (own := [("_law_place", 1)]) (g := gName 1) (te := tCall spWithout [] E0 (tCons (tVar 0) (tCons (tVar 1) tNil))) rfl scLawDowns.nd (pi_list (pe_fn D1 G1 hr (pa_cons (pv 0) pa_nil))) (blkOk_by (own := [("_law_place", 1)]) (N := nLawDowns) (sc := defScope sLawDowns) (by decide +kernel)) (fun _ _ _ _ _ => pg_name (i := 1) scLawDowns.nd rfl (.inl rfl)) (fun _ _ _ _ _ => pts_nil) (fun _ _ _ _ _ => pe_fn D2 G2 hr (pa_cons (pv 0) (pa_cons (pv 1) pa_nil)))) pa_nil)) pa_nil)))), ?_⟩
    refine sort_words (Xs := (opens s).map (outr s)) ha ?_ ?_ (fun x => mem_outr) q
    · have e : Wds a ((opens s).map (outr s)) = given ((opens s).map fun i => V.int ((i + 1 : Nat) : Int)).length (fun _ => true) (fun k => .str (wd a (outr s ((opens s).getD k 0)))) := by
        unfold Wds
        rw [List.map_map]
        refine (given_map (g := fun i => V.str (wd a (outr s i))) (by rw [List.length_map]) fun k x hx => ?_).symm
        rw [List.getD_eq_getElem?_getD, hx]
        rfl
      rw [e]
      refine el_lcNL (K := K) (xs := (opens s).map fun i => V.int ((i + 1 : Nat) : Int)) (fun _ => true) (fun k => .str (wd a (outr s ((opens s).getD k 0)))) ?_ ?_ (fun x => rfl) (fun k x H1 e1 hx => fun H2 e2 Q' q' => q' H2 (Ex.refl H2)) (fun k x H1 e1 hx _ => ?_)
      · exact el_call (ea_cons (ev_var rfl) ea_nil) fun H1 e1 Q' q' E' => ⟨a, s, rfl, ha, by omega, fun p H2 hp e2 h2 => q' p H2 hp e2 h2⟩
      · rw [List.length_map]
        have : (opens s).length ≤ s.length - 1 := by
          have := List.length_filter_le (fun i => decide (s[i]? = s[i + 1]?)) (List.range (s.length - 1))
          rw [List.length_range] at this
          exact this
        omega
      · rw [List.getElem?_map] at hx
        obtain ⟨i, hi, rfl⟩ := Option.map_eq_some_iff.mp hx
        rw [List.getD_eq_getElem?_getD, hi]
        obtain ⟨b, g1, g2⟩ := opens_lt (List.mem_of_getElem? hi)
        exact ev_call (vs := [.str (wd a s), .int ((i + 1 : Nat) : Int)]) (ea_cons (ev_var rfl) (ea_cons (ev_var rfl) ea_nil)) fun H2 e2 Q' q' E' => ⟨a, s, i, b, rfl, ha, by omega, g1, g2, q'⟩
    · rw [List.length_map]
      have : (opens s).length ≤ s.length - 1 := by
        have := List.length_filter_le (fun i => decide (s[i]? = s[i + 1]?)) (List.range (s.length - 1))
        rw [List.length_range] at this
        exact this
      omega
def spUps : Sp := fun vs H Q _ => ∃ a s, vs = [.str (wd a s)] ∧ a < 3 ∧ s.length ≤ 40 ∧ RetW a H Q fun x => Up s x
theorem ok_ups {f f1 : Addr} {fd fd1 : FuncData} (D : Dfn K mg "_law_ups" sLawUps ["_law_word_here"] f fd) (D1 : Dfn K mg "_law_put" sLawPut ["_law_word_here", "_law_place"] f1 fd1) (G1 : FnOk P w K mg base CX0 1 f1 fd1 ["_law_word_here", "_law_place"] spPut) (T : Txt mg) :
    FnOk P w K mg base CX0 2 f fd ["_law_word_here"] spUps := by
  refine D.F.ok scLawUps (fun vs H Q E h => ?_) (fun cdv A outer s0 H vs Q E hr h => ?_)
  · obtain ⟨a, s, rfl, _⟩ := h
    rfl
  · obtain ⟨a, s, rfl, ha, hs, q⟩ := h
    refine ⟨_, (pss_one (ps_ret (pe_callB (cr_sortedTxt rfl) (by rfl) T.sorted (by decide +kernel) (pa_cons (pe_callTy (cr_setTxt rfl) (by rfl) T.set (by decide +kernel) (pa_cons (pe_lc (own := [("_law_place", 1)]) (g := gName 1) (te := tCall spPut [] E0 (tCons (tVar 0) (tCons (tVar 1) tNil))) rfl scLawUps.nd (pi_range1 rfl T.range (pa_cons (pe_op op_sub (pe_callB call_len_str (by rfl) T.len (by decide +kernel) (pa_cons (pv 0) pa_nil)) pe_int) pa_nil)) (blkOk_by (own := [("_law_place", 1)]) (N := nLawUps) (sc := defScope sLawUps) (by decide +kernel)) (fun _ _ _ _ _ => pg_name (i := 1) scLawUps.nd rfl (.inl rfl)) (fun _ _ _ _ _ => pts_nil) (fun _ _ _ _ _ => pe_fn D1 G1 hr (pa_cons (pv 0) (pa_cons (pv 1) pa_nil)))) pa_nil)) pa_nil)))), ?_⟩
    have hlen : (wd a s).length = s.length + 1 := wd_len a s
    refine sort_words (Xs := (List.range s.length).map (putr s)) ha ?_ (by rw [List.length_map, List.length_range]; omega) (fun x => mem_putr) q
    have e : Wds a ((List.range s.length).map (putr s)) = given ((s.length : Nat) : Int).toNat (fun _ => true) (fun k => .str (wd a (putr s k))) := by
      rw [given_all]
      unfold Wds
      rw [List.map_map]
      rfl
    rw [e]
    refine el_lcR1 (n := ((s.length : Nat) : Int)) (fun _ => true) (fun k => .str (wd a (putr s k))) (ea_cons (ev_is (ev_op (ev_cb (ea_cons (ev_var rfl) ea_nil) fun H2 e2 Q' q' => ⟨wd a s, rfl, by rw [hlen]; exact size_small (by omega), q' H2 (Ex.refl H2)⟩) ev_c rv_I0) (by rw [hlen]; congr 1; omega)) ea_nil) ⟨by omega, by omega⟩ (fun x => rfl) (fun k H1 e1 hk => fun H2 e2 Q' q' => q' H2 (Ex.refl H2)) (fun k H1 e1 hk _ => ?_)
    exact ev_call (vs := [.str (wd a s), .int (k : Nat)]) (ea_cons (ev_var rfl) (ea_cons (ev_var rfl) ea_nil)) fun H2 e2 Q' q' E' => ⟨a, s, k, rfl, ha, by omega, by omega, q'⟩
end
end TW

set_option Elab.async false
set_option linter.all false
set_option maxRecDepth 100000
set_option maxHeartbeats 4000000
/-! The walk, fourteenth part (printed by gen_w11.py): all below, all words. -/
namespace TW
open PySem
open PySem.Spec PyProof.Rows L2 Evl Tlm
/-- a dict with words as keys -/
def Tk (a : Nat) (F : List (Tlm.Row × V)) : List (Key × V) := F.map fun x => (Sum.inr (wd a x.1), x.2)
theorem tk_has {a : Nat} (ha : a < 3) {F : List (Tlm.Row × V)} {x : Tlm.Row} : (valV (Tk a F) (Sum.inr (wd a x))).isSome = true ↔ x ∈ F.map (·.1) := by
  unfold Tk
  induction F with
  | nil => simp [valV_nil]
  | cons y F ih =>
    rw [List.map_cons, List.map_cons]
    by_cases e : y.1 = x
    · rw [valV_pos (by rw [e])]
      simp [e]
    · rw [valV_neg (fun z => e (wd_inj ha (by injection z))), ih]
      constructor
      · intro z; exact List.mem_cons_of_mem _ z
      · intro z
        rcases List.mem_cons.mp z with z | z
        · exact absurd z.symm e
        · exact z
theorem tk_get {a : Nat} (ha : a < 3) {F : List (Tlm.Row × V)} {x : Tlm.Row} {v : V} (hn : (F.map (·.1)).Nodup) (h : (x, v) ∈ F) : valV (Tk a F) (Sum.inr (wd a x)) = some v := by
  unfold Tk
  induction F with
  | nil => cases h
  | cons y F ih =>
    rw [List.map_cons] at hn
    obtain ⟨h1, h2⟩ := List.nodup_cons.mp hn
    rw [List.map_cons]
    rcases List.mem_cons.mp h with z | z
    · rw [← z]; exact valV_pos rfl
    · rw [valV_neg (fun e => h1 ?_)]
      · exact ih h2 z
      · have : y.1 = x := wd_inj ha (by injection e)
        rw [this]
        exact List.mem_map.mpr ⟨_, z, rfl⟩
theorem tk_put {a : Nat} (ha : a < 3) {F : List (Tlm.Row × V)} {x : Tlm.Row} {v : V} (h : x ∉ F.map (·.1)) : putK (Tk a F) (Sum.inr (wd a x)) v = Tk a (F ++ [(x, v)]) := by
  rw [putK_new (Bool.eq_false_iff.mpr fun z => h ((tk_has ha).mp z))]
  unfold Tk
  rw [List.map_append]
  rfl
theorem tk_keys {a : Nat} {F : List (Tlm.Row × V)} : (Tk a F).map (·.1) = ((F.map (·.1)).map (wd a)).map Sum.inr := by
  unfold Tk
  rw [List.map_map, List.map_map, List.map_map]
  rfl
theorem tk_len {a : Nat} {F : List (Tlm.Row × V)} : (Tk a F).length = F.length := by unfold Tk; rw [List.length_map]
/-- a list of words against the empty one -/
def Wdt (a : Nat) (Ls : List Tlm.Row) : List PyData := Ls.map fun x => .str (wd a x)
theorem wdt_dp {K : PySem.W.Frag} {H : Hp} {a : Nat} : ∀ Ls : List Tlm.Row, DpAll K H (Wds a Ls) (Wdt a Ls)
  | [] => .nil
  | x :: r => .cons (.str _) (wdt_dp r)
theorem wd_ok {a : Nat} (ha : a < 3) (s : Tlm.Row) : PyData.strOk (wd a s) = true := by
  unfold PyData.strOk
  rw [Array.all_eq_true]
  intro i hi
  obtain ⟨x, hx, e⟩ := wd_get (Array.getElem?_eq_getElem hi)
  have := lets_lt ha s x (List.mem_of_getElem? hx)
  rw [e]
  exact decide_eq_true (by omega)
theorem wdt_lay {a : Nat} (ha : a < 3) : ∀ Ls : List Tlm.Row, PyData.canLayAll0 (Wdt a Ls) = true
  | [] => rfl
  | x :: r => by
    show (PyData.canLay0 (.str (wd a x)) && PyData.canLayAll0 (Wdt a r)) = true
    rw [wdt_lay ha r, PyData.canLay0, wd_ok ha]
    rfl
theorem wdt_depth {a : Nat} : ∀ Ls : List Tlm.Row, PyData.depthAll (Wdt a Ls) = 0
  | [] => rfl
  | x :: r => by
    show max (PyData.depth (.str (wd a x))) (PyData.depthAll (Wdt a r)) = 0
    rw [wdt_depth r, PyData.depth]
    rfl
theorem wdt_shaped {a : Nat} (ha : a < 3) (Ls : List Tlm.Row) : SeqAt.shaped (.list (Wdt a Ls)) = true := by
  unfold SeqAt.shaped
  rw [PyData.canLay0, wdt_lay ha, PyData.depth, wdt_depth]
  rfl
theorem wdt_eqv {a : Nat} (Ls : List Tlm.Row) : PyData.eqv (.list (Wdt a Ls)) (.list []) = Ls.isEmpty := by
  cases Ls with
  | nil => rfl
  | cons x r => rfl
theorem ev_neEmpty {K : PySem.W.Frag} {σ : L2.St} {H : Hp} {te : TE} {p : Addr} {a : Nat} {Ls : List Tlm.Row} (ha : a < 3) (h : Ev te σ H (.ref p)) (hp : SqL K H p (Wds a Ls)) : Ev (tOp (rNeD K) te (tLst tNil)) σ H (.bl (!Ls.isEmpty)) :=
  ev_opL h (el_lst ea_nil (by decide)) fun q H1 hq e1 H2 e2 Q q' => ⟨.list (Wdt a Ls), .list [], .lst (ex_l (e1.trans e2) hp) (wdt_dp Ls), .lst (sq_of (e2 _ _ hq)) .nil, wdt_shaped ha Ls, rfl, by rw [wdt_eqv]; exact q' H2 (Ex.refl H2)⟩
section
variable {P : Program} {w : World} {K : PySem.W.Frag} {mg : Str → Option Value} {base : Heap}
/-- what is found below s: F, R of it not followed yet -/
structure Bl (s : Tlm.Row) (F R : List Tlm.Row) (x : Option Tlm.Row) : Prop where
  nd : F.Nodup
  top : s ∈ F
  ab : ∀ y ∈ F, Ab y s
  rim : ∀ y ∈ R, y ∈ F
  cl : ∀ y ∈ F, y ∈ R ∨ some y = x ∨ ∀ z, Up z y → z ∈ F
  le : R.length ≤ F.length
def Bt (F : List Tlm.Row) : List (Tlm.Row × V) := F.map fun x => (x, .bl true)
theorem bt_keys (F : List Tlm.Row) : (Bt F).map (·.1) = F := by unfold Bt; rw [List.map_map]; exact List.map_id F
def spBelow : Sp := fun vs H Q _ => ∃ a s, vs = [.str (wd a s)] ∧ a < 3 ∧ s.length ≤ 7 ∧ RetW a H Q fun x => Ab x s
theorem ok_below {f f1 : Addr} {fd fd1 : FuncData} (D : Dfn K mg "_law_below" sLawBelow ["_law_word_here"] f fd) (D1 : Dfn K mg "_law_downs" sLawDowns ["_law_word_here"] f1 fd1) (G1 : FnOk P w K mg base CX0 2 f1 fd1 ["_law_word_here"] spDowns) (T : Txt mg) :
    FnOk P w K mg base CX0 3 f fd ["_law_word_here"] spBelow := by
  refine D.F.ok scLawBelow (fun vs H Q E h => ?_) (fun cdv A outer s0 H vs Q E hr h => ?_)
  · obtain ⟨a, s, rfl, _⟩ := h
    rfl
  · obtain ⟨a, s, rfl, ha, hs, q⟩ := h
    refine ⟨_, (pss_cons (ps_par (i := 1) (j := 2) rfl scLawBelow.nd rfl rfl (by decide) rfl rfl (pa_cons (pe_disp (pps_cons (pv 0) pe_bl pps_nil) rfl rfl (by decide) (by decide)) (pa_cons (pe_lst (pa_cons (pv 0) pa_nil)) pa_nil)) rfl)
      (pss_cons (ps_while PassesOwn.never (pt_cmpR (op_neD hr.units) (pv 2) (pe_lst pa_nil) (nomark _))
      (pss_cons (ps_set (i := 3) scLawBelow.nd rfl (.inl rfl) (pe_bm0 PySem.F.plainAttrs_list PySem.F.slot_list_pop PySem.F.type_list_pop mt_pop (pv 2)))
      (pss_one (ps_for PassesOwn.never rfl (pi_list (pe_fn D1 G1 hr (pa_cons (pv 3) pa_nil))) (pg_name (i := 4) scLawBelow.nd rfl (.inl rfl))
      (pss_one (ps_if (pt_cmp (pc_dnotin (Nat.lt_of_le_of_lt (Nat.add_le_add_left (by decide) _) hr.units) (pv 4) (pv 1))) (pss_cons (ps_dput (Nat.lt_of_le_of_lt (Nat.add_le_add_left (by decide) _) hr.units) (pv 1) (pv 4) pe_bl rfl)
      (pss_one (ps_ap (pv 2) (pv 4)))) pss_nil))))))
      (pss_one (ps_ret (pe_callB (call_sortedD rfl) (by rfl) T.sorted (by decide +kernel) (pa_cons (pv 1) pa_nil)))))), ?_⟩
    refine fun fd0 hfd => ⟨.str (wd a s), rfl, upd_same, [(Sum.inr (wd a s), .bl true)], rfl, by show 1 ≤ 15; decide, ?_⟩
    refine ⟨.str (wd a s), rfl, by show 1 ≤ sizeLine; decide, fun rm hrm => ⟨.ref fd0, .ref rm, rfl, ?_⟩⟩
    have eA : Ex H (upd (upd H fd0 (.dK [])) fd0 (.dK (mergeK [] [(Sum.inr (wd a s), .bl true)]))) := Ex.mut (Ex.new hfd) hfd
    have hrmH : H rm = none := fresh_back eA hrm
    have hne : fd0 ≠ rm := fun z => by subst z; rw [upd_same] at hrm; cases hrm
    have eB := eA.trans (Ex.new hrm (o := .lst [.str (wd a s)]))
    have c1 : (upd (upd (upd H fd0 (.dK [])) fd0 (.dK (mergeK [] [(Sum.inr (wd a s), .bl true)]))) rm (.lst [.str (wd a s)])) fd0 = some (.dK (Tk a (Bt [s]))) := by rw [upd_ne hne]; exact upd_same
    have c2 : (upd (upd (upd H fd0 (.dK [])) fd0 (.dK (mergeK [] [(Sum.inr (wd a s), .bl true)]))) rm (.lst [.str (wd a s)])) rm = some (.lst (Wds a [s])) := upd_same
    revert eB c1 c2
    generalize upd (upd (upd H fd0 (.dK [])) fd0 (.dK (mergeK [] [(Sum.inr (wd a s), .bl true)]))) rm (.lst [.str (wd a s)]) = H0
    intro eB c1 c2
    refine q_while (fun m σ H' => ∃ F R y3 y4, σ = [some (.str (wd a s)), some (.ref fd0), some (.ref rm), y3, y4] ∧ Ex H H' ∧ H' fd0 = some (.dK (Tk a (Bt F))) ∧ H' rm = some (.lst (Wds a R)) ∧ Bl s F R none ∧ m = 2 * (64 - F.length) + R.length) (2 * (64 - 1) + 1)
      (by exact ⟨[s], [s], none, none, rfl, eB, c1, c2, ⟨by simp, List.mem_singleton.mpr rfl, fun y hy => by rw [List.mem_singleton.mp hy]; exact .refl s, fun y hy => hy, fun y hy => .inl hy, Nat.le_refl _⟩, rfl⟩) ?_
    rintro m σ H1 ⟨F, R, y3, y4, rfl, e1, f1', r1', B, rfl⟩
    refine ⟨!R.isEmpty, et_test (ev_neEmpty ha (ev_var rfl) (sq_of r1')), fun hb H2 e2 => ?_, fun hb H2 e2 => ?_⟩
    · obtain ⟨R', x, rfl⟩ : ∃ R' x, R = R' ++ [x] := by
        rcases List.eq_nil_or_concat R with z | ⟨R', x, z⟩
        · rw [z] at hb; cases hb
        · exact ⟨R', x, by simpa using z⟩
      have hW : Wds a (R' ++ [x]) = Wds a R' ++ [.str (wd a x)] := by unfold Wds; rw [List.map_append]; rfl
      refine ⟨fun σ2 H2' => ∃ m', m' < 2 * (64 - F.length) + (R' ++ [x]).length ∧ ∃ F R y3 y4, σ2 = [some (.str (wd a s)), some (.ref fd0), some (.ref rm), y3, y4] ∧ Ex H H2' ∧ H2' fd0 = some (.dK (Tk a (Bt F))) ∧ H2' rm = some (.lst (Wds a R)) ∧ Bl s F R none ∧ m' = 2 * (64 - F.length) + R.length, fun _ _ z => z, ?_⟩
      have r2 := e2 _ _ r1'
      refine ⟨.ref rm, rfl, .inl ⟨rfl, _, sq_of r2⟩, rm, Wds a (R' ++ [x]), .str (wd a x), rfl, rfl, r2, by rw [hW, List.length_append]; exact List.getElem?_concat_length, ?_⟩
      have hdl : (Wds a (R' ++ [x])).dropLast = Wds a R' := by rw [hW, List.dropLast_concat]
      rw [hdl]
      have hxF : x ∈ F := B.rim x (List.mem_append_right _ (List.mem_singleton.mpr rfl))
      have hxs : x.length ≤ s.length := (B.ab x hxF).len
      have e3 : Ex H (upd H2 rm (.lst (Wds a R'))) := Ex.mut (e1.trans e2) hrmH
      refine ⟨.str (wd a x), rfl, a, x, rfl, ha, by omega, fun l H4 Ls hl e4 hn hm h4 => ⟨l, rfl, ⟨Wds a Ls, sq_of h4⟩, ?_⟩⟩
      have hlf : l ≠ fd0 := fun z => by subst z; rw [upd_ne hne, e2 _ _ f1'] at hl; cases hl
      have hlr : l ≠ rm := fun z => by subst z; rw [upd_same] at hl; cases hl
      have hF60 := below_few hs B.nd B.ab
      refine for_list (fun i σ H' => ∃ F' R'' y4, σ = [some (.str (wd a s)), some (.ref fd0), some (.ref rm), some (.str (wd a x)), y4] ∧ Ex H H' ∧ H' fd0 = some (.dK (Tk a (Bt F'))) ∧ H' rm = some (.lst (Wds a R'')) ∧ H' l = some (.lst (Wds a Ls)) ∧ Bl s F' R'' (some x) ∧ (∀ y ∈ Ls.take i, y ∈ F') ∧ 2 * (64 - F'.length) + R''.length < 2 * (64 - F.length) + (R' ++ [x]).length)
        ⟨F, R', y4, rfl, e3.trans e4, e4 _ _ (by rw [upd_ne hne]; exact e2 _ _ f1'), e4 _ _ upd_same, h4, ⟨B.nd, B.top, B.ab, fun y hy => B.rim y (List.mem_append_left _ hy), fun y hy => ?_, by have := B.le; rw [List.length_append] at this; exact Nat.le_of_succ_le this⟩, fun y hy => by simp at hy, by rw [List.length_append]; show _ < _ + (_ + 1); omega⟩
        (fun i σ H' _ p => by obtain ⟨F', R'', y4, rfl, _, _, _, h, _⟩ := p; exact sq_of h) ?_ ?_
      · rcases B.cl y hy with z | z | z
        · rcases List.mem_append.mp z with z | z
          · exact .inl z
          · exact .inr (.inl (by rw [List.mem_singleton.mp z]))
        · cases z
        · exact .inr (.inr z)
      · rintro i v σ H5 hi ⟨F', R'', y4, rfl, e5, f5, r5, l5, B5, t5, m5⟩
        obtain ⟨z, hz, rfl⟩ : ∃ z, Ls[i]? = some z ∧ V.str (wd a z) = v := by
          unfold Wds at hi
          rw [List.getElem?_map] at hi
          exact Option.map_eq_some_iff.mp hi
        have hup : Up z x := (hm z).mp (List.mem_of_getElem? hz)
        have hF60' := below_few hs B5.nd B5.ab
        have htk : ∀ y, y ∈ Ls.take (i + 1) → y ∈ Ls.take i ∨ y = z := fun y hy => by
          rw [List.take_add_one, hz] at hy
          rcases List.mem_append.mp hy with w | w
          · exact .inl w
          · exact .inr (List.mem_singleton.mp w)
        refine s_when (b := !(valV (Tk a (Bt F')) (Sum.inr (wd a z))).isSome) (fun H6 e6 Q' q' => ⟨.str (wd a z), rfl, .ref fd0, rfl, fd0, _, rfl, DGet.k (k := Sum.inr (wd a z)) (e6 _ _ f5), _, rfl, q' H6 (Ex.refl H6)⟩) (fun hb2 H6 e6 => ?_) (fun hb2 H6 e6 => ?_)
        · have hnew : z ∉ (Bt F').map (·.1) := fun w => by rw [(tk_has ha).mpr w] at hb2; cases hb2
          rw [bt_keys] at hnew
          refine ⟨.ref fd0, rfl, .str (wd a z), rfl, fd0, _, rfl, DPut.k (k := Sum.inr (wd a z)) (e6 _ _ f5) (by rw [tk_len]; unfold Bt; rw [List.length_map]; exact size_less (by omega)), ?_⟩
          rw [tk_put ha (by rw [bt_keys]; exact hnew)]
          have eb : Bt F' ++ [(z, .bl true)] = Bt (F' ++ [z]) := by unfold Bt; rw [List.map_append]; rfl
          rw [eb]
          have hR5 := B5.le
          refine s_app (l := rm) (xs := Wds a R'') (by rw [upd_ne (fun z => hne z.symm)]; exact e6 _ _ r5) (ev_var rfl) (ev_var rfl) (by unfold Wds; rw [List.length_map]; omega) fun H7 e7 => ?_
          refine ⟨F' ++ [z], R'' ++ [z], some (.str (wd a z)), rfl, Ex.mut ((Ex.mut (e5.trans e6) hfd).trans e7) hrmH, ?_, ?_, ?_, ⟨?_, ?_, ?_, ?_, ?_, by rw [List.length_append, List.length_append]; exact Nat.add_le_add_right B5.le 1⟩, ?_, ?_⟩
          · rw [upd_ne hne]; exact e7 _ _ upd_same
          · have : Wds a (R'' ++ [z]) = Wds a R'' ++ [.str (wd a z)] := by unfold Wds; rw [List.map_append]; rfl
            rw [this]; exact upd_same
          · rw [upd_ne hlr]; exact e7 _ _ (by rw [upd_ne hlf]; exact e6 _ _ l5)
          · exact List.nodup_append.mpr ⟨B5.nd, by simp, fun u hu v hv e => by rw [List.mem_singleton.mp hv] at e; exact hnew (e ▸ hu)⟩
          · exact List.mem_append_left _ B5.top
          · intro y hy
            rcases List.mem_append.mp hy with w | w
            · exact B5.ab y w
            · rw [List.mem_singleton.mp w]; exact (Ab.one hup).trans (B.ab x hxF)
          · intro y hy
            rcases List.mem_append.mp hy with w | w
            · exact List.mem_append_left _ (B5.rim y w)
            · exact List.mem_append_right _ w
          · intro y hy
            rcases List.mem_append.mp hy with w | w
            · rcases B5.cl y w with k | k | k
              · exact .inl (List.mem_append_left _ k)
              · exact .inr (.inl k)
              · exact .inr (.inr fun u hu => List.mem_append_left _ (k u hu))
            · exact .inl (List.mem_append_right _ w)
          · intro y hy
            rcases htk y hy with w | w
            · exact List.mem_append_left _ (t5 y w)
            · rw [w]; exact List.mem_append_right _ (List.mem_singleton.mpr rfl)
          · rw [List.length_append (as := F'), List.length_append (as := R'')]
            show 2 * (64 - (F'.length + 1)) + (R''.length + 1) < _
            omega
        · have hold : z ∈ F' := by
            have : (valV (Tk a (Bt F')) (Sum.inr (wd a z))).isSome = true := by simpa using hb2
            have := (tk_has ha).mp this
            rwa [bt_keys] at this
          refine ⟨F', R'', some (.str (wd a z)), rfl, e5.trans e6, e6 _ _ f5, e6 _ _ r5, e6 _ _ l5, B5, fun y hy => ?_, m5⟩
          rcases htk y hy with w | w
          · exact t5 y w
          · rw [w]; exact hold
      · rintro σ H5 ⟨F', R'', y4, rfl, e5, f5, r5, l5, B5, t5, m5⟩
        refine ⟨_, m5, F', R'', some (.str (wd a x)), y4, rfl, e5, f5, r5, ⟨B5.nd, B5.top, B5.ab, B5.rim, fun y hy => ?_, B5.le⟩, rfl⟩
        rcases B5.cl y hy with k | k | k
        · exact .inl k
        · injection k with k
          subst k
          refine .inr (.inr fun u hu => t5 u ?_)
          have : (Wds a Ls).length = Ls.length := by unfold Wds; rw [List.length_map]
          rw [this, List.take_length]
          exact (hm u).mpr hu
        · exact .inr (.inr k)
    · have hR : R = [] := by
        cases R with
        | nil => rfl
        | cons x r => cases hb
      subst hR
      have hF60 := below_few hs B.nd B.ab
      have hall : ∀ x, x ∈ F ↔ Ab x s := fun x => ⟨B.ab x, fun h => closed_below (fun y hy z hz => by
        rcases B.cl y hy with k | k | k
        · cases k
        · cases k
        · exact k z hz) h B.top⟩
      refine ⟨.ref fd0, rfl, fd0, Tk a (Bt F), F.map (wd a), rfl, .inl (e2 _ _ f1'), by rw [tk_keys, bt_keys], by rw [List.length_map]; omega, fun ys p hys _ hp => ?_⟩
      have hFn : (F.map (wd a)).Nodup := List.pairwise_map.mpr (List.Pairwise.imp (fun hab e => hab (wd_inj ha e)) B.nd)
      obtain ⟨Ls, rfl, hLn, hLm⟩ := words_of ha (hys.nodup_iff.mpr hFn) (fun y => hys.mem_iff)
      refine q p _ Ls (fresh_back (e1.trans e2) hp) ((e1.trans e2).trans (Ex.new hp)) hLn (fun x => by rw [hLm, hall]) ?_
      rw [upd_same, List.map_map]
      rfl
/-- words with given ends -/
def spWords : Sp := fun vs H Q _ => ∃ a c m, vs = [.str (sg a), .str (sg c), .int m] ∧ a < 3 ∧ c < 3 ∧ 2 ≤ m ∧ m ≤ 6 ∧ ∀ p H2 (Ls : List Tlm.Row), H p = none → Ex H H2 → H2 p = some (.lst (Wds a Ls)) → Ls.length ≤ 1000 → (∀ x ∈ Ls, (x.length : Int) = m - 1 ∧ fin a x = c) → Q (.ref p) H2
theorem more_list {a : Nat} (x : Tlm.Row) (ha : a < 3) : ∃ E : List Tlm.Row, given 3 (fun i => decide (i ≠ fin a x)) (fun i => .str (wd a x ++ sg i)) = Wds a E ∧ E.length ≤ 3 ∧ ∀ e ∈ E, ∃ b, e = x ++ [b] := by
  have h : ∀ b, wd a x ++ sg (nx (fin a x) b) = wd a (x ++ [b]) := fun b => (wd_snoc a x b).symm
  have hf := fin_lt ha x
  rcases three hf with e | e | e
  · refine ⟨[x ++ [true], x ++ [false]], ?_, by show 2 ≤ 3; decide, by simp⟩
    unfold Wds
    simp only [List.map_cons, List.map_nil, ← h, e]
    rfl
  · refine ⟨[x ++ [false], x ++ [true]], ?_, by show 2 ≤ 3; decide, by simp⟩
    unfold Wds
    simp only [List.map_cons, List.map_nil, ← h, e]
    rfl
  · refine ⟨[x ++ [true], x ++ [false]], ?_, by show 2 ≤ 3; decide, by simp⟩
    unfold Wds
    simp only [List.map_cons, List.map_nil, ← h, e]
    rfl
theorem ok_words {f : Addr} {fd : FuncData} (D : Dfn K mg "_law_words" sLawWords ["_law_first", "_law_last", "_law_size"] f fd) (T : Txt mg) : FnOk P w K mg base CX0 1 f fd ["_law_first", "_law_last", "_law_size"] spWords := by
  refine D.F.ok scLawWords (fun vs H Q E h => ?_) (fun cdv A outer s0 H vs Q E hr h => ?_)
  · obtain ⟨a, c, m, rfl, _⟩ := h
    rfl
  · obtain ⟨a, c, m, rfl, ha, hc3, hm1, hm2, q⟩ := h
    refine ⟨_, (pss_cons (ps_set (i := 3) scLawWords.nd rfl (.inl rfl) (pe_lst (pa_cons (pv 0) pa_nil)))
      (pss_cons (ps_for PassesOwn.never rfl (pi_range1 rfl T.range (pa_cons (pe_op op_sub (pv 2) pe_int) pa_nil)) (pg_name (i := 4) scLawWords.nd rfl (.inl rfl))
      (pss_cons (ps_set (i := 5) scLawWords.nd rfl (.inl rfl) (pe_lst pa_nil))
      (pss_cons (ps_for PassesOwn.never rfl (pi_list (pv 3)) (pg_name (i := 6) scLawWords.nd rfl (.inr rfl))
      (pss_one (ps_set (i := 5) scLawWords.nd rfl (.inl rfl) (pe_op op_cat (pv 5) (pe_lc (own := [("_law_sign", 7)]) (g := gName 7)  rfl scLawWords.nd (pi_str pe_str) (blkOk_by (own := [("_law_sign", 7)]) (N := nLawWords) (sc := defScope sLawWords) (by decide +kernel)) (fun _ _ _ _ _ => pg_name (i := 7) scLawWords.nd rfl (.inl rfl)) (fun _ _ _ _ _ => pts_one (pt_cmpR op_ne (pv 7) (pe_ix ix_str (pv 6) (pe_un un_neg pe_int) (fun _ _ => rfl)) (nomark _))) (fun _ _ _ _ _ => pe_op op_add_str (pv 6) (pv 7)))))))
      (pss_one (ps_set (i := 3) scLawWords.nd rfl (.inl rfl) (pv 5))))))
      (pss_one (ps_ret (pe_lc (own := [("_law_word_here", 6)]) (g := gName 6)  rfl scLawWords.nd (pi_list (pv 3)) (blkOk_by (own := [("_law_word_here", 6)]) (N := nLawWords) (sc := defScope sLawWords) (by decide +kernel)) (fun _ _ _ _ _ => pg_name (i := 6) scLawWords.nd rfl (.inl rfl)) (fun _ _ _ _ _ => pts_one (pt_cmpR op_eq (pe_ix ix_str (pv 6) (pe_un un_neg pe_int) (fun _ _ => rfl)) (pv 1) (nomark _))) (fun _ _ _ _ _ => pv 6)))))), ?_⟩
    refine q_asgL (xs := Wds a [[]]) (el_lst (ea_cons (ev_var rfl) ea_nil) (by show 1 ≤ 100000; decide)) fun p0 H1 hp0 e1 h1 => ?_
    refine q_forR1 (n := m - 1) (ea_cons (ev_op (ev_var rfl) ev_c rv_I0) ea_nil) ⟨by omega, by omega⟩ (fun n σ H' => ∃ p Ls y4 y5 y6 y7, σ = [some (.str (sg a)), some (.str (sg c)), some (.int m), some (.ref p), y4, y5, y6, y7] ∧ Ex H H' ∧ H p = none ∧ H' p = some (.lst (Wds a Ls)) ∧ Ls.length ≤ 3 ^ n ∧ ∀ x ∈ Ls, x.length = n)
      (fun H2 e2 => ⟨p0, [[]], none, none, none, none, rfl, e1.trans e2, hp0, e2 _ _ h1, by decide, fun x hx => by rw [List.mem_singleton.mp hx]; rfl⟩) ?_ ?_
    · rintro n σ H2 hn ⟨p, Ls, y4, y5, y6, y7, rfl, e2, hp, h2, hl2, hx2⟩
      have h3n : 3 ^ n ≤ 81 := Nat.le_trans (Nat.pow_le_pow_right (by decide) (show n ≤ 4 by omega)) (by decide)
      refine q_asgL (xs := Wds a []) (el_lst ea_nil (by show 0 ≤ 100000; decide)) fun l H3 hl e3 h3 => ?_
      refine q_forL (ev_var rfl) (sq_of (e3 _ _ h2)) (fun i σ H' => ∃ l Es y6 y7, σ = [some (.str (sg a)), some (.str (sg c)), some (.int m), some (.ref p), some (.int (n : Nat)), some (.ref l), y6, y7] ∧ Ex H H' ∧ H l = none ∧ H' p = some (.lst (Wds a Ls)) ∧ H' l = some (.lst (Wds a Es)) ∧ Es.length ≤ 3 * i ∧ ∀ x ∈ Es, x.length = n + 1)
        (fun H4 e4 => ⟨l, [], y6, y7, rfl, (e2.trans e3).trans e4, fresh_back e2 hl, e4 _ _ (e3 _ _ h2), e4 _ _ h3, by simp, fun x hx => by cases hx⟩) (fun i σ H' _ pp => by obtain ⟨l, Es, y6, y7, rfl, _, _, h, _⟩ := pp; exact sq_of h) ?_ ?_
      · rintro i v σ H4 hi ⟨l, Es, y6, y7, rfl, e4, hlH, h4, g4, hle, hxe⟩
        obtain ⟨x, hx, rfl⟩ : ∃ x, Ls[i]? = some x ∧ V.str (wd a x) = v := by
          unfold Wds at hi
          rw [List.getElem?_map] at hi
          exact Option.map_eq_some_iff.mp hi
        have hxn := hx2 x (List.mem_of_getElem? hx)
        have hil : i < Ls.length := (List.getElem?_eq_some_iff.mp hx).1
        obtain ⟨Ex', hEx, hE3, hEb⟩ := more_list x ha
        refine ⟨.ref l, rfl, ?_⟩
        have hcl : EvL (tLc (iStr (tC (.str "abc"))) (gName 7) (tTest (tOp rNe (tVar 7) (tOp rIxS (tVar 6) (tUn (rU fun i => .int (-i)) (tC (.int 1)))))) (tOp (fun x y H Q => ∃ i j, x = V.str i ∧ y = .str j ∧ i.length + j.length ≤ sizeLine ∧ Q (.str (i ++ j)) H) (tVar 6) (tVar 7)) [7]) ([some (.str (sg a)), some (.str (sg c)), some (.int m), some (.ref p), some (.int (n : Nat)), some (.ref l), some (.str (wd a x)), y7] : L2.St) H4 (Wds a Ex') := by
          rw [← hEx]
          refine el_lcS (z := "abc") (fun i => decide (i ≠ fin a x)) (fun i => .str (wd a x ++ sg i)) ev_c (by decide) (fun x => rfl) (fun k c H1 e1 hc => ?_) (fun k c H1 e1 hc _ => ?_)
          · obtain ⟨hk, rfl⟩ := abc_get hc
            refine et_is (et_test (ev_op (ev_var rfl) (ev_op (ev_var (v := .str (wd a x)) rfl) (ev_un ev_c ru_neg) (rv_ixS (c := 97 + fin a x) (by rw [wd_len]; omega) (wd_last a x))) (rv_ne rfl))) ?_
            rw [← decide_not]
            refine decide_eq_decide.mpr ⟨fun z e => z (by rw [e]), fun z e => z ?_⟩
            injection e with e
            exact sg_inj (x := k) (y := fin a x) e
          · obtain ⟨hk, rfl⟩ := abc_get hc
            exact ev_op (ev_var (v := .str (wd a x)) rfl) (ev_var (v := .str (sg k)) rfl) (rv_addS (by rw [wd_len]; show _ + 1 + 1 ≤ _; omega))
        refine hcl H4 (Ex.refl H4) _ fun p2 H5 hp2 e5 h5 => ⟨l, p2, Wds a Es, Wds a Ex', rfl, rfl, e5 _ _ g4, h5, by unfold Wds; rw [List.length_map, List.length_map]; exact size_small (by omega), fun l' hl' => ?_⟩
        have e6 := Ex.new hl' (o := .lst (Wds a Es ++ Wds a Ex'))
        refine ⟨l', Es ++ Ex', some (.str (wd a x)), y7, rfl, (e4.trans e5).trans e6, fresh_back (e4.trans e5) hl', e6 _ _ (e5 _ _ h4), ?_, by rw [List.length_append]; omega, fun y hy => ?_⟩
        · have : Wds a (Es ++ Ex') = Wds a Es ++ Wds a Ex' := by unfold Wds; rw [List.map_append]
          rw [this]; exact upd_same
        · rcases List.mem_append.mp hy with z | z
          · exact hxe y z
          · obtain ⟨b, rfl⟩ := hEb y z
            simp [hxn]
      · rintro σ H4 ⟨l, Es, y6, y7, rfl, e4, hlH, h4, g4, hle, hxe⟩
        refine s_asg (ev_var rfl) fun H5 e5 => ⟨l, Es, some (.int (n : Nat)), some (.ref l), y6, y7, rfl, e4.trans e5, hlH, e5 _ _ g4, ?_, hxe⟩
        have : (Wds a Ls).length = Ls.length := by unfold Wds; rw [List.length_map]
        rw [this] at hle
        rw [Nat.pow_succ]
        omega
    · rintro σ H2 ⟨p, Ls, y4, y5, y6, y7, rfl, e2, hp, h2, hl2, hx2⟩
      have h3n : 3 ^ (m - 1).toNat ≤ 243 := Nat.le_trans (Nat.pow_le_pow_right (by decide) (show (m - 1).toNat ≤ 5 by omega)) (by decide)
      have hWl : (Wds a Ls).length = Ls.length := by unfold Wds; rw [List.length_map]
      refine s_retL (xs := Wds a (Ls.filter fun x => decide (fin a x = c))) ?_ fun p2 H3 hp2 e3 h3 => q p2 H3 _ (fresh_back e2 hp2) (e2.trans e3) h3 (Nat.le_trans (List.length_filter_le _ _) (by omega)) fun x hx => ?_
      · have e : Wds a (Ls.filter fun x => decide (fin a x = c)) = given (Wds a Ls).length (fun i => (Ls[i]?).elim false fun x => decide (fin a x = c)) (fun i => (Ls[i]?).elim .non fun x => .str (wd a x)) := by
          rw [hWl, given_filter]
          rfl
        rw [e]
        refine el_lcL (xs := Wds a Ls) (fun i => (Ls[i]?).elim false fun x => decide (fin a x = c)) (fun i => (Ls[i]?).elim .non fun x => .str (wd a x)) (ev_var rfl) (sq_of h2) (by rw [hWl]; omega) (fun x => rfl) (fun i v H1 e1 hv => ?_) (fun i v H1 e1 hv _ => ?_)
        · obtain ⟨x, hx, rfl⟩ : ∃ x, Ls[i]? = some x ∧ V.str (wd a x) = v := by
            unfold Wds at hv
            rw [List.getElem?_map] at hv
            exact Option.map_eq_some_iff.mp hv
          rw [hx]
          have hxn := hx2 x (List.mem_of_getElem? hx)
          refine et_is (et_test (ev_op (ev_op (ev_var rfl) (ev_un ev_c ru_neg) (rv_ixS (c := 97 + fin a x) (by rw [wd_len]; omega) (wd_last a x))) (ev_var rfl) (rv_eq rfl))) ?_
          refine decide_eq_decide.mpr ⟨fun z => ?_, fun z => by rw [z]; rfl⟩
          injection z with z
          exact sg_inj (x := fin a x) (y := c) z
        · obtain ⟨x, hx, rfl⟩ : ∃ x, Ls[i]? = some x ∧ V.str (wd a x) = v := by
            unfold Wds at hv
            rw [List.getElem?_map] at hv
            exact Option.map_eq_some_iff.mp hv
          rw [hx]
          exact ev_var rfl
      · obtain ⟨h1, h2⟩ := List.mem_filter.mp hx
        exact ⟨by rw [hx2 x h1]; omega, of_decide_eq_true h2⟩
end
end TW

set_option Elab.async false
set_option linter.all false
set_option maxRecDepth 100000
set_option maxHeartbeats 4000000
/-! The walk, fifteenth part (printed by gen_w12.py): the law's comparison. -/
namespace TW
open PySem
open PySem.Spec PyProof.Rows L2 Evl Tlm
theorem rc_isi {K : PySem.W.Frag} {H : Hp} {x : V} {tx T : String} {b : Bool} (ty : ∀ H1, Ex H H1 → TyX K H1 x (.type tx)) (h : kitB tx T = some b) : RC (rIsi K) [x, .ty T] H (.bl b) :=
  fun H1 e1 Q q => ⟨x, .ty T, .type tx, .type T, b, rfl, .ty _, ty H1 e1, kit_ty h, q H1 (Ex.refl H1)⟩
theorem kit2 {K : PySem.W.Frag} {tx T1 T2 : String} {a b : Bool} (h1 : kitB tx T1 = some a) (h2 : kitB tx T2 = some b) : PySem.W.kitAny K (.type tx) [.type T1, .type T2] = some (a || b) :=
  kitAny_cons (kit_ty h1) (fun z => kitAny_cons (kit_ty h2) (fun w => by rw [z, w]; rfl) (fun w => by rw [w]; cases a <;> rfl)) (fun z => by rw [z]; rfl)
/-- isinstance(x, (tuple, list)) -/
theorem ev_isiT {K : PySem.W.Frag} {σ : L2.St} {H : Hp} {i : Nat} {x : V} {tx : String} {a b : Bool} (hx : σ[i]? = some (some x)) (ty : ∀ H1, Ex H H1 → TyX K H1 x (.type tx)) (h1 : kitB tx "tuple" = some a) (h2 : kitB tx "list" = some b) :
    Ev (tCB (rIsiT K) (tCons (tVar i) (tCons (tTup (tCons (tC (.ty "tuple")) (tCons (tC (.ty "list")) tNil))) tNil))) σ H (.bl (a || b)) := fun H1 e1 Q q =>
  ⟨x, hx, by show 2 ≤ sizeLine; decide, fun tp htp => ⟨x, tp, [.ty "tuple", .ty "list"], .type tx, [.type "tuple", .type "list"], a || b, rfl, upd_same, .cons (.ty _) (.cons (.ty _) .nil), ty _ (e1.trans (Ex.new htp)), kit2 h1 h2, q _ (Ex.new htp)⟩⟩
section
variable {P : Program} {w : World} {K : PySem.W.Frag} {mg : Str → Option Value} {base : Heap}
def spAlikeI : Sp := fun vs H Q _ => ∃ i j, vs = [.int i, .int j] ∧ RetV (.bl (decide (i = j))) H Q
theorem ok_alikeI {f : Addr} {fd : FuncData} (D : Dfn K mg "_law_alike" sLawAlike ["_law_found", "_law_due"] f fd) (T : Txt mg) : FnOk P w K mg base CX0 2 f fd ["_law_found", "_law_due"] spAlikeI := by
  have G : FnOk P w K mg base CX0 1 f fd ["_law_found", "_law_due"] (fun _ _ _ _ => False) := D.F.ok scLawAlike (fun vs H Q E h => h.elim) (fun cdv A outer s H vs Q E hr h => h.elim)
  refine D.F.ok scLawAlike (fun vs H Q E h => ?_) (fun cdv A outer s0 H vs Q E hr h => ?_)
  · obtain ⟨i, j, rfl, _⟩ := h
    rfl
  · obtain ⟨i, j, rfl, q⟩ := h
    refine ⟨_, (pss_cons (ps_if (pt_val (pe_callB call_isiT (by rfl) T.isinstance (by decide +kernel) (pa_cons (pv 1) (pa_cons (pe_tup (pa_cons (pe_bltn (v := .ty "tuple") (by rfl) T.tuple (by decide +kernel) rfl) (pa_cons (pe_bltn (v := .ty "list") (by rfl) T.list (by decide +kernel) rfl) pa_nil))) pa_nil)))) (pss_cons (ps_if (PW.pt (pw_or (pt_not (pt_val (pe_callB call_isiT (by rfl) T.isinstance (by decide +kernel) (pa_cons (pv 0) (pa_cons (pe_tup (pa_cons (pe_bltn (v := .ty "tuple") (by rfl) T.tuple (by decide +kernel) rfl) (pa_cons (pe_bltn (v := .ty "list") (by rfl) T.list (by decide +kernel) rfl) pa_nil))) pa_nil))))) (pw_or1 (pt_cmpR op_ne (pe_callB call_isi (by rfl) T.isinstance (by decide +kernel) (pa_cons (pv 0) (pa_cons (pe_bltn (v := .ty "list") (by rfl) T.list (by decide +kernel) rfl) pa_nil))) (pe_callB call_isi (by rfl) T.isinstance (by decide +kernel) (pa_cons (pv 1) (pa_cons (pe_bltn (v := .ty "list") (by rfl) T.list (by decide +kernel) rfl) pa_nil))) (nomark _))))) (pss_one (ps_ret pe_bl)) pss_nil)
      (pss_cons (ps_if (pt_cmpR op_ne (pe_callB call_len_seq (by rfl) T.len (by decide +kernel) (pa_cons (pv 0) pa_nil)) (pe_callB call_len_seq (by rfl) T.len (by decide +kernel) (pa_cons (pv 1) pa_nil)) (nomark _)) (pss_one (ps_ret pe_bl)) pss_nil)
      (pss_one (ps_ret (pe_cmpR (op_eqD hr.units) (pe_lc (own := [("_law_k", 2)]) (g := gName 2) (tt := tNot (tB (tCall (fun _ _ _ _ => False) [] E0 (tCons (tOp (rIxT K) (tVar 0) (tVar 2)) (tCons (tOp (rIxT K) (tVar 1) (tVar 2)) tNil)))))  rfl scLawAlike.nd (pi_range1 rfl T.range (pa_cons (pe_callB call_len_seq (by rfl) T.len (by decide +kernel) (pa_cons (pv 1) pa_nil)) pa_nil)) (blkOk_by (own := [("_law_k", 2)]) (N := nLawAlike) (sc := defScope sLawAlike) (by decide +kernel)) (fun _ _ _ _ _ => pg_name (i := 2) scLawAlike.nd rfl (.inl rfl)) (fun _ _ _ _ _ => pts_one (pt_not (pt_val (pe_fn D G hr (pa_cons (pe_ix ix_tup (pv 0) (pv 2) (fun _ _ => rfl)) (pa_cons (pe_ix ix_tup (pv 1) (pv 2) (fun _ _ => rfl)) pa_nil)))))) (fun _ _ _ _ _ => pv 2)) (pe_lst pa_nil) (nomark _)))))) pss_nil)
      (pss_cons (ps_if (PW.pt (pw_or (pt_cmp (pc_isN (pv 1))) (pw_or1 (pt_val (pe_callB call_isi (by rfl) T.isinstance (by decide +kernel) (pa_cons (pv 1) (pa_cons (pe_bltn (v := .ty "str") (by rfl) T.str (by decide +kernel) rfl) pa_nil))))))) (pss_one (ps_ret (pe_and (pe_cmpR op_eq (pv 0) (pv 1) (nomark _)) (pe_one (pe_cmpR op_eq (pe_callB call_isi (by rfl) T.isinstance (by decide +kernel) (pa_cons (pv 0) (pa_cons (pe_bltn (v := .ty "str") (by rfl) T.str (by decide +kernel) rfl) pa_nil))) (pe_callB call_isi (by rfl) T.isinstance (by decide +kernel) (pa_cons (pv 1) (pa_cons (pe_bltn (v := .ty "str") (by rfl) T.str (by decide +kernel) rfl) pa_nil))) (nomark _)))))) pss_nil)
      (pss_one (ps_ret (pe_and (pe_callB call_isi (by rfl) T.isinstance (by decide +kernel) (pa_cons (pv 0) (pa_cons (pe_bltn (v := .ty "int") (by rfl) T.int (by decide +kernel) rfl) pa_nil))) (pe_and (pe_cmpR op_eq (pe_callB call_isi (by rfl) T.isinstance (by decide +kernel) (pa_cons (pv 0) (pa_cons (pe_bltn (v := .ty "bool") (by rfl) T.bool (by decide +kernel) rfl) pa_nil))) (pe_callB call_isi (by rfl) T.isinstance (by decide +kernel) (pa_cons (pv 1) (pa_cons (pe_bltn (v := .ty "bool") (by rfl) T.bool (by decide +kernel) rfl) pa_nil))) (nomark _)) (pe_one (pe_cmpR op_eq (pv 0) (pv 1) (nomark _))))))))), ?_⟩
    have ti : ∀ (i : Int) H1, Ex H H1 → TyX K H1 (.int i) (.type "int") := fun i H1 _ => .base (.int _)
    refine q_when (b := false) (et_B (ev_isiT (a := false) (b := false) rfl (ti j) (by decide +kernel) (by decide +kernel))) (fun z => by cases z) fun _ H1 e1 => ?_
    refine q_when (b := false) (et_is (et_or (a := false) (b := false) (et_B (fun H1 e1 Q q => ⟨.int j, rfl, q H1 (Ex.refl H1)⟩)) fun _ => et_B (ev_cb (ea_cons (ev_var rfl) (ea_cons ev_c ea_nil)) (rc_isi (fun H2 e2 => ti j H2 (e1.trans e2)) (by decide +kernel)))) rfl) (fun z => by cases z) fun _ H2 e2 => ?_
    have e12 := e1.trans e2
    have hi : ∀ (k : Int) (T : String) (b : Bool), kitB "int" T = some b → RC (rIsi K) [.int k, .ty T] H2 (.bl b) := fun k T b h => rc_isi (fun H3 e3 => ti k H3 (e12.trans e3)) h
    refine s_ret (v := .bl (true && (true && decide (i = j)))) (ev_andV (ev_cb (ea_cons (ev_var rfl) (ea_cons ev_c ea_nil)) (hi i "int" true (by decide +kernel))) fun _ => ev_andV (ev_is (ev_op (ev_cb (ea_cons (ev_var rfl) (ea_cons ev_c ea_nil)) (hi i "bool" false (by decide +kernel))) (ev_cb (ea_cons (ev_var rfl) (ea_cons ev_c ea_nil)) (hi j "bool" false (by decide +kernel))) (rv_eq rfl)) rfl) fun _ => ev_is (ev_op (ev_var rfl) (ev_var rfl) (rv_eq rfl)) (by simp)) fun H3 e3 => ?_
    rw [Bool.true_and, Bool.true_and]
    exact q H3 (e12.trans e3)
def spAlikeT : Sp := fun vs H Q _ => ∃ p r i j, vs = [.ref p, .ref r] ∧ H p = some (.tup [.int i, .int j]) ∧ H r = some (.tup [.int i, .int j]) ∧ RetV (.bl true) H Q
theorem ok_alikeT {f : Addr} {fd : FuncData} (D : Dfn K mg "_law_alike" sLawAlike ["_law_found", "_law_due"] f fd) (T : Txt mg) (G : FnOk P w K mg base CX0 2 f fd ["_law_found", "_law_due"] spAlikeI) : FnOk P w K mg base CX0 3 f fd ["_law_found", "_law_due"] spAlikeT := by
  refine D.F.ok scLawAlike (fun vs H Q E h => ?_) (fun cdv A outer s0 H vs Q E hr h => ?_)
  · obtain ⟨p, r, i, j, rfl, _⟩ := h
    rfl
  · obtain ⟨p, r, i, j, rfl, hp, hrr, q⟩ := h
    refine ⟨_, (pss_cons (ps_if (pt_val (pe_callB call_isiT (by rfl) T.isinstance (by decide +kernel) (pa_cons (pv 1) (pa_cons (pe_tup (pa_cons (pe_bltn (v := .ty "tuple") (by rfl) T.tuple (by decide +kernel) rfl) (pa_cons (pe_bltn (v := .ty "list") (by rfl) T.list (by decide +kernel) rfl) pa_nil))) pa_nil)))) (pss_cons (ps_if (PW.pt (pw_or (pt_not (pt_val (pe_callB call_isiT (by rfl) T.isinstance (by decide +kernel) (pa_cons (pv 0) (pa_cons (pe_tup (pa_cons (pe_bltn (v := .ty "tuple") (by rfl) T.tuple (by decide +kernel) rfl) (pa_cons (pe_bltn (v := .ty "list") (by rfl) T.list (by decide +kernel) rfl) pa_nil))) pa_nil))))) (pw_or1 (pt_cmpR op_ne (pe_callB call_isi (by rfl) T.isinstance (by decide +kernel) (pa_cons (pv 0) (pa_cons (pe_bltn (v := .ty "list") (by rfl) T.list (by decide +kernel) rfl) pa_nil))) (pe_callB call_isi (by rfl) T.isinstance (by decide +kernel) (pa_cons (pv 1) (pa_cons (pe_bltn (v := .ty "list") (by rfl) T.list (by decide +kernel) rfl) pa_nil))) (nomark _))))) (pss_one (ps_ret pe_bl)) pss_nil)
      (pss_cons (ps_if (pt_cmpR op_ne (pe_callB call_len_seq (by rfl) T.len (by decide +kernel) (pa_cons (pv 0) pa_nil)) (pe_callB call_len_seq (by rfl) T.len (by decide +kernel) (pa_cons (pv 1) pa_nil)) (nomark _)) (pss_one (ps_ret pe_bl)) pss_nil)
      (pss_one (ps_ret (pe_cmpR (op_eqD hr.units) (pe_lc (own := [("_law_k", 2)]) (g := gName 2) (tt := tNot (tB (tCall spAlikeI [] E0 (tCons (tOp (rIxT K) (tVar 0) (tVar 2)) (tCons (tOp (rIxT K) (tVar 1) (tVar 2)) tNil)))))  rfl scLawAlike.nd (pi_range1 rfl T.range (pa_cons (pe_callB call_len_seq (by rfl) T.len (by decide +kernel) (pa_cons (pv 1) pa_nil)) pa_nil)) (blkOk_by (own := [("_law_k", 2)]) (N := nLawAlike) (sc := defScope sLawAlike) (by decide +kernel)) (fun _ _ _ _ _ => pg_name (i := 2) scLawAlike.nd rfl (.inl rfl)) (fun _ _ _ _ _ => pts_one (pt_not (pt_val (pe_fn D G hr (pa_cons (pe_ix ix_tup (pv 0) (pv 2) (fun _ _ => rfl)) (pa_cons (pe_ix ix_tup (pv 1) (pv 2) (fun _ _ => rfl)) pa_nil)))))) (fun _ _ _ _ _ => pv 2)) (pe_lst pa_nil) (nomark _)))))) pss_nil)
      (pss_cons (ps_if (PW.pt (pw_or (pt_cmp (pc_isN (pv 1))) (pw_or1 (pt_val (pe_callB call_isi (by rfl) T.isinstance (by decide +kernel) (pa_cons (pv 1) (pa_cons (pe_bltn (v := .ty "str") (by rfl) T.str (by decide +kernel) rfl) pa_nil))))))) (pss_one (ps_ret (pe_and (pe_cmpR op_eq (pv 0) (pv 1) (nomark _)) (pe_one (pe_cmpR op_eq (pe_callB call_isi (by rfl) T.isinstance (by decide +kernel) (pa_cons (pv 0) (pa_cons (pe_bltn (v := .ty "str") (by rfl) T.str (by decide +kernel) rfl) pa_nil))) (pe_callB call_isi (by rfl) T.isinstance (by decide +kernel) (pa_cons (pv 1) (pa_cons (pe_bltn (v := .ty "str") (by rfl) T.str (by decide +kernel) rfl) pa_nil))) (nomark _)))))) pss_nil)
      (pss_one (ps_ret (pe_and (pe_callB call_isi (by rfl) T.isinstance (by decide +kernel) (pa_cons (pv 0) (pa_cons (pe_bltn (v := .ty "int") (by rfl) T.int (by decide +kernel) rfl) pa_nil))) (pe_and (pe_cmpR op_eq (pe_callB call_isi (by rfl) T.isinstance (by decide +kernel) (pa_cons (pv 0) (pa_cons (pe_bltn (v := .ty "bool") (by rfl) T.bool (by decide +kernel) rfl) pa_nil))) (pe_callB call_isi (by rfl) T.isinstance (by decide +kernel) (pa_cons (pv 1) (pa_cons (pe_bltn (v := .ty "bool") (by rfl) T.bool (by decide +kernel) rfl) pa_nil))) (nomark _)) (pe_one (pe_cmpR op_eq (pv 0) (pv 1) (nomark _))))))))), ?_⟩
    have tt : ∀ (k : Addr), H k = some (.tup [.int i, .int j]) → ∀ H1, Ex H H1 → TyX K H1 (.ref k) (.type "tuple") := fun k hk H1 e1 => .base (.tup (e1 _ _ hk))
    refine q_if (b := true) (et_B (ev_isiT (a := true) (b := false) rfl (tt r hrr) (by decide +kernel) (by decide +kernel))) (fun _ H1 e1 => ?_) (fun z => by cases z)
    have tt1 : ∀ (k : Addr), H k = some (.tup [.int i, .int j]) → ∀ H2, Ex H1 H2 → TyX K H2 (.ref k) (.type "tuple") := fun k hk H2 e2 => tt k hk H2 (e1.trans e2)
    refine q_when (b := false) (et_is (et_or (a := false) (b := false) (et_is (et_not (et_B (ev_isiT (a := true) (b := false) rfl (tt1 p hp) (by decide +kernel) (by decide +kernel)))) rfl)
      fun _ => et_is (et_test (ev_op (ev_cb (ea_cons (ev_var rfl) (ea_cons ev_c ea_nil)) (rc_isi (b := false) (tt1 p hp) (by decide +kernel))) (ev_cb (ea_cons (ev_var rfl) (ea_cons ev_c ea_nil)) (rc_isi (b := false) (tt1 r hrr) (by decide +kernel))) (rv_ne rfl))) rfl) rfl) (fun z => by cases z) fun _ H2 e2 => ?_
    have e12 := e1.trans e2
    have hlen : ∀ (k : Addr) H2, Ex H H2 → H k = some (.tup [.int i, .int j]) → RC (fun xs H Q => ∃ p ys, xs = [V.ref p] ∧ (SqL K H p ys ∨ SqT K H p ys) ∧ Q (.int ys.length) H) [.ref k] H2 (.int (2 : Nat)) := fun k H2 e2 hk H3 e3 Q q => ⟨k, [.int i, .int j], rfl, .inr (st_of (e3 _ _ (e2 _ _ hk))), q H3 (Ex.refl H3)⟩
    refine q_when (b := false) (et_is (et_test (ev_op (ev_cb (ea_cons (ev_var rfl) ea_nil) (hlen p H2 e12 hp)) (ev_cb (ea_cons (ev_var rfl) ea_nil) (hlen r H2 e12 hrr)) (rv_ne rfl))) rfl) (fun z => by cases z) fun _ H3 e3 => ?_
    have e13 := e12.trans e3
    have hat : ∀ (k : Nat), (k : Int) < ((2 : Nat) : Int) → ∃ z : Int, atI ([.int i, .int j] : List V) (k : Int) = some (.int z) := fun k hk => by
      match k with
      | 0 => exact ⟨i, rfl⟩
      | 1 => exact ⟨j, rfl⟩
      | k + 2 => omega
    have hl : EvL (tLc (iRng1 (tCons (tCB (fun xs H Q => ∃ p ys, xs = [V.ref p] ∧ (SqL K H p ys ∨ SqT K H p ys) ∧ Q (.int ys.length) H) (tCons (tVar 1) tNil)) tNil)) (gName 2) (tNot (tB (tCall spAlikeI [] E0 (tCons (tOp (rIxT K) (tVar 0) (tVar 2)) (tCons (tOp (rIxT K) (tVar 1) (tVar 2)) tNil))))) (tVar 2) [2]) (start nLawAlike [.ref p, .ref r]) H3 [] := by
      have e0 : ([] : List V) = given ((2 : Nat) : Int).toNat (fun _ => false) (fun _ => .non) := rfl
      rw [e0]
      refine el_lcR1 (n := ((2 : Nat) : Int)) (fun _ => false) (fun _ => .non) (ea_cons (ev_cb (ea_cons (ev_var rfl) ea_nil) (hlen r H3 e13 hrr)) ea_nil) ⟨by decide, by decide⟩ (fun x => rfl) (fun k H4 e4 hk => ?_) (fun k H4 e4 hk hf => by cases hf)
      obtain ⟨z, hz⟩ := hat k hk
      refine et_is (et_not (a := true) (et_B (ev_call (vs := [.int z, .int z]) (ea_cons (ev_op (ev_var rfl) (ev_var rfl) (rv_ixT (st_of (e4 _ _ (e13 _ _ hp))) hz)) (ea_cons (ev_op (ev_var rfl) (ev_var rfl) (rv_ixT (st_of (e4 _ _ (e13 _ _ hrr))) hz)) ea_nil)) fun H5 e5 Q' q' E' => ⟨z, z, rfl, fun H6 e6 => by rw [decide_eq_true rfl]; exact q' H6 e6⟩))) rfl
    refine s_ret (v := .bl true) (ev_opLL hl (el_lst ea_nil (by decide)) fun l1 l2 H4 h1 h2 e4 H5 e5 Q' q' => ⟨.list [], .list [], .lst (sq_of (e5 _ _ h1)) .nil, .lst (sq_of (e5 _ _ h2)) .nil, rfl, rfl, q' H5 (Ex.refl H5)⟩) fun H4 e4 => q H4 (e13.trans e4)
end
end TW

set_option Elab.async false
set_option linter.all false
set_option maxRecDepth 100000
/-! The mathematics of the law, seventh part (printed by gen_tab.py): common tops by a table; the law's own search. No program here. -/
namespace TW
open PySem Tlm L2 Evl
def md : Tlm.Row → Nat
  | [] => 0
  | b :: r => (md r + if b then 1 else 2) % 3
def naB : Tlm.Row → Bool
  | a :: b :: r => (a == b) || naB (b :: r)
  | _ => false
def pcB (b : Bool) (p : Tlm.Row) : Bool := (p == [b]) || (naB p && (md p == md [b]))
def chk : Tlm.Row → List Nat → Tlm.Row → Bool
  | [], [], [] => true
  | b :: s, k :: ks, u => pcB b (u.take k) && chk s ks (u.drop k)
  | _, _, _ => false
def decR : Nat → Nat → Tlm.Row
  | 0, _ => []
  | f + 1, n => if n ≤ 1 then [] else (n % 2 == 1) :: decR f (n / 2)
def decC : Nat → Nat → List Nat
  | 0, _ => []
  | f + 1, n => if n = 0 then [] else (n % 8) :: decC f (n / 8)
def tab : List (Nat × Nat × Nat) := [(3, 1, 1), (4, 2, 9), (14, 3, 73), (31, 4, 81), (11, 3, 73), (31, 4, 585), (24, 4, 585), (20, 4, 585), (18, 4, 585), (17, 4, 585), (60, 5, 4681), (58, 5, 4681), (57, 5, 4681), (54, 5, 4681), (125, 6, 5193), (51, 5, 4681), (46, 5, 4681), (45, 5, 4681), (43, 5, 4681), (39, 5, 4681), (32, 5, 4681), (2, 1, 1), (7, 2, 9), (12, 3, 73), (30, 4, 137), (9, 3, 73), (30, 4, 585), (29, 4, 585), (27, 4, 585), (23, 4, 585), (16, 4, 585), (63, 5, 4681), (56, 5, 4681), (52, 5, 4681), (50, 5, 4681), (49, 5, 4681), (44, 5, 4681), (122, 6, 8777), (41, 5, 4681), (38, 5, 4681), (37, 5, 4681), (35, 5, 4681), (7, 9, 2), (7, 9, 9), (12, 10, 73), (30, 11, 137), (9, 17, 73), (30, 11, 585), (29, 25, 585), (27, 11, 585), (23, 25, 585), (16, 18, 585), (63, 33, 4681), (56, 26, 4681), (52, 12, 4681), (50, 12, 4681), (49, 33, 4681), (44, 26, 4681), (122, 13, 8777), (41, 33, 4681), (38, 19, 4681), (37, 33, 4681), (35, 33, 4681), (6, 9, 9), (15, 10, 17), (15, 10, 73), (8, 17, 73), (28, 25, 585), (62, 33, 649), (25, 11, 585), (22, 25, 585), (61, 12, 1097), (19, 18, 585), (62, 33, 4681), (61, 12, 4681), (59, 26, 4681), (55, 12, 4681), (48, 33, 4681), (47, 26, 4681), (40, 33, 4681), (36, 33, 4681), (34, 33, 4681), (33, 19, 4681), (15, 17, 10), (5, 9, 9), (15, 17, 73), (8, 10, 73), (28, 18, 585), (62, 19, 649), (25, 25, 585), (22, 11, 585), (61, 33, 1097), (19, 25, 585), (62, 19, 4681), (61, 33, 4681), (59, 33, 4681), (55, 33, 4681), (48, 26, 4681), (47, 33, 4681), (40, 12, 4681), (36, 26, 4681), (34, 12, 4681), (33, 33, 4681), (4, 9, 2), (4, 9, 9), (14, 17, 73), (31, 18, 81), (11, 10, 73), (31, 18, 585), (24, 25, 585), (20, 11, 585), (18, 25, 585), (17, 11, 585), (60, 33, 4681), (58, 33, 4681), (57, 19, 4681), (54, 33, 4681), (125, 20, 5193), (51, 26, 4681), (46, 33, 4681), (45, 12, 4681), (43, 12, 4681), (39, 26, 4681), (32, 33, 4681), (15, 73, 10), (15, 73, 17), (15, 73, 73), (28, 74, 137), (28, 74, 585), (62, 75, 649), (25, 81, 585), (62, 75, 1097), (61, 89, 1097), (19, 137, 585), (62, 75, 4681), (61, 89, 4681), (59, 201, 4681), (55, 89, 4681), (48, 82, 4681), (47, 201, 4681), (120, 90, 8777), (36, 138, 4681), (114, 76, 8777), (33, 145, 4681), (14, 73, 3), (14, 73, 17), (14, 73, 73), (31, 74, 81), (31, 74, 137), (31, 74, 585), (24, 81, 585), (60, 89, 1097), (18, 137, 585), (57, 75, 1097), (60, 89, 4681), (58, 201, 4681), (57, 75, 4681), (54, 89, 4681), (125, 76, 5193), (51, 82, 4681), (46, 201, 4681), (125, 76, 8777), (123, 90, 8777), (39, 138, 4681), (32, 145, 4681), (31, 81, 4), (31, 81, 18), (31, 81, 74), (13, 73, 73), (31, 81, 137), (31, 81, 585), (24, 74, 585), (60, 82, 1097), (39, 145, 586), (17, 137, 585), (60, 82, 4681), (126, 83, 4745), (57, 201, 4681), (54, 75, 4681), (125, 265, 5193), (51, 89, 4681), (126, 83, 8777), (45, 201, 4681), (123, 97, 8777), (39, 145, 4681), (32, 138, 4681), (12, 73, 3), (12, 73, 10), (12, 73, 73), (30, 81, 137), (16, 137, 74), (30, 81, 585), (63, 82, 593), (27, 74, 585), (63, 82, 1097), (16, 137, 585), (63, 82, 4681), (56, 201, 4681), (52, 75, 4681), (50, 89, 4681), (49, 75, 4681), (44, 201, 4681), (122, 97, 8777), (121, 83, 8777), (38, 145, 4681), (79, 146, 4689), (35, 138, 4681), (11, 73, 3), (11, 73, 10), (31, 137, 74), (31, 137, 81), (11, 73, 73), (31, 137, 585), (60, 138, 649), (20, 74, 585), (46, 75, 649), (17, 81, 585), (60, 138, 4681), (126, 139, 4745), (57, 145, 4681), (126, 139, 5193), (125, 153, 5193), (51, 201, 4681), (46, 75, 4681), (45, 89, 4681), (43, 75, 4681), (39, 201, 4681), (32, 82, 4681), (30, 137, 4), (30, 137, 11), (30, 137, 81), (10, 73, 73), (23, 74, 81), (30, 137, 585), (63, 138, 593), (63, 138, 649), (23, 74, 585), (16, 81, 585), (63, 138, 4681), (56, 145, 4681), (124, 153, 5193), (50, 201, 4681), (121, 139, 5193), (44, 89, 4681), (122, 265, 8777), (41, 75, 4681), (38, 201, 4681), (93, 76, 5193), (35, 82, 4681), (9, 73, 3), (9, 73, 17), (16, 74, 137), (23, 81, 74), (9, 73, 73), (63, 145, 586), (29, 137, 585), (63, 145, 649), (23, 81, 585), (16, 74, 585), (63, 145, 4681), (56, 138, 4681), (124, 146, 5193), (103, 209, 4682), (49, 201, 4681), (44, 82, 4681), (94, 83, 4745), (41, 89, 4681), (38, 75, 4681), (37, 201, 4681), (35, 89, 4681), (8, 73, 17), (8, 73, 10), (28, 137, 74), (8, 73, 73), (28, 137, 585), (62, 145, 649), (48, 201, 586), (22, 81, 585), (47, 82, 593), (19, 74, 585), (62, 145, 4681), (127, 146, 4689), (59, 138, 4681), (127, 146, 5193), (48, 201, 4681), (47, 82, 4681), (40, 89, 4681), (36, 201, 4681), (34, 89, 4681), (33, 75, 4681), (31, 585, 4), (31, 585, 18), (31, 585, 74), (31, 585, 81), (31, 585, 137), (31, 585, 585), (60, 586, 649), (60, 586, 1097), (39, 1097, 586), (57, 593, 1097), (60, 586, 4681), (126, 587, 4745), (57, 593, 4681), (126, 587, 5193), (125, 601, 5193), (51, 649, 4681), (126, 587, 8777), (125, 601, 8777), (123, 713, 8777), (39, 1097, 4681), (112, 594, 8777), (30, 585, 4), (30, 585, 11), (30, 585, 81), (30, 585, 137), (63, 586, 145), (30, 585, 585), (63, 586, 593), (63, 586, 649), (63, 586, 1097), (56, 593, 1097), (63, 586, 4681), (56, 593, 4681), (124, 601, 5193), (50, 649, 4681), (121, 587, 5193), (124, 601, 8777), (122, 713, 8777), (121, 587, 8777), (38, 1097, 4681), (79, 1098, 4689), (115, 594, 8777), (29, 585, 4), (29, 585, 25), (63, 593, 82), (63, 593, 138), (29, 585, 137), (63, 593, 586), (29, 585, 585), (63, 593, 649), (63, 593, 1097), (56, 586, 1097), (63, 593, 4681), (56, 586, 4681), (124, 594, 5193), (103, 657, 4682), (49, 649, 4681), (124, 594, 8777), (254, 595, 8841), (121, 713, 8777), (118, 587, 8777), (37, 1097, 4681), (115, 601, 8777), (28, 585, 25), (28, 585, 18), (28, 585, 74), (28, 585, 137), (28, 585, 585), (62, 593, 649), (48, 649, 586), (62, 593, 1097), (127, 594, 1105), (59, 586, 1097), (62, 593, 4681), (127, 594, 4689), (59, 586, 4681), (127, 594, 5193), (48, 649, 4681), (127, 594, 8777), (120, 713, 8777), (36, 1097, 4681), (114, 601, 8777), (113, 587, 8777), (27, 585, 4), (27, 585, 11), (27, 585, 74), (63, 649, 138), (63, 649, 145), (63, 649, 586), (63, 649, 593), (27, 585, 585), (63, 649, 1097), (35, 1097, 586), (63, 649, 4681), (124, 650, 4745), (52, 586, 4681), (110, 587, 4745), (49, 593, 4681), (124, 650, 8777), (254, 651, 8841), (121, 657, 8777), (79, 1161, 4682), (79, 1161, 4689), (35, 1097, 4681), (62, 649, 33), (62, 649, 19), (62, 649, 75), (62, 649, 145), (62, 649, 593), (26, 585, 585), (55, 586, 593), (62, 649, 1097), (127, 650, 1105), (127, 650, 1161), (62, 649, 4681), (127, 650, 4689), (127, 650, 4745), (55, 586, 4681), (48, 593, 4681), (127, 650, 8777), (120, 657, 8777), (78, 1161, 4689), (34, 1097, 4681), (71, 1098, 4689), (25, 585, 11), (25, 585, 25), (25, 585, 81), (48, 586, 201), (48, 586, 649), (55, 593, 586), (25, 585, 585), (127, 657, 1098), (61, 649, 1097), (33, 1097, 593), (127, 657, 4682), (61, 649, 4681), (127, 657, 4745), (55, 593, 4681), (48, 586, 4681), (127, 657, 8777), (120, 650, 8777), (64, 1098, 4745), (71, 1105, 4682), (33, 1097, 4681), (24, 585, 4), (24, 585, 25), (24, 585, 81), (24, 585, 74), (60, 649, 138), (60, 649, 586), (24, 585, 585), (60, 649, 1097), (32, 1097, 593), (32, 1097, 586), (60, 649, 4681), (126, 657, 4745), (112, 1609, 4682), (54, 593, 4681), (111, 594, 4689), (51, 586, 4681), (126, 657, 8777), (88, 1609, 4682), (123, 650, 8777), (76, 1161, 4682), (32, 1097, 4681), (23, 585, 4), (23, 585, 25), (63, 1097, 82), (23, 585, 74), (23, 585, 81), (63, 1097, 586), (63, 1097, 593), (63, 1097, 649), (23, 585, 585), (44, 586, 649), (63, 1097, 4681), (124, 1098, 4745), (124, 1098, 5193), (103, 1609, 4682), (121, 1105, 5193), (44, 586, 4681), (94, 587, 4745), (41, 593, 4681), (94, 587, 5193), (93, 601, 5193), (35, 649, 4681), (22, 585, 25), (22, 585, 11), (62, 1097, 75), (22, 585, 81), (62, 1097, 593), (62, 1097, 649), (127, 1098, 657), (22, 585, 585), (47, 586, 593), (47, 586, 649), (62, 1097, 4681), (127, 1098, 4689), (127, 1098, 4745), (127, 1098, 5193), (120, 1105, 5193), (47, 586, 4681), (40, 593, 4681), (92, 601, 5193), (34, 649, 4681), (89, 587, 5193), (61, 1097, 12), (61, 1097, 33), (61, 1097, 89), (47, 593, 82), (127, 1105, 594), (127, 1105, 650), (61, 1097, 649), (47, 593, 586), (21, 585, 585), (47, 593, 649), (127, 1105, 4682), (61, 1097, 4681), (127, 1105, 4745), (127, 1105, 5193), (120, 1098, 5193), (47, 593, 4681), (40, 586, 4681), (92, 594, 5193), (71, 657, 4682), (33, 649, 4681), (20, 585, 4), (20, 585, 11), (60, 1097, 89), (60, 1097, 82), (20, 585, 74), (60, 1097, 586), (60, 1097, 649), (20, 585, 585), (46, 593, 649), (32, 649, 586), (60, 1097, 4681), (126, 1105, 4745), (112, 1161, 4682), (126, 1105, 5193), (255, 1106, 5201), (123, 1098, 5193), (46, 593, 4681), (95, 594, 4689), (43, 586, 4681), (95, 594, 5193), (32, 649, 4681), (19, 585, 18), (19, 585, 25), (19, 585, 137), (19, 585, 74), (59, 1097, 586), (127, 1161, 650), (33, 593, 1097), (47, 649, 586), (47, 649, 593), (19, 585, 585), (127, 1161, 4682), (127, 1161, 4689), (59, 1097, 4681), (127, 1161, 5193), (99, 1609, 4682), (47, 649, 4681), (92, 650, 4745), (36, 586, 4681), (78, 587, 4745), (33, 593, 4681), (18, 585, 4), (18, 585, 25), (18, 585, 137), (39, 586, 145), (46, 649, 75), (39, 586, 1097), (32, 593, 1097), (46, 649, 593), (18, 585, 585), (39, 586, 593), (126, 1161, 4689), (58, 1097, 4681), (119, 1098, 4689), (126, 1161, 5193), (255, 1162, 5201), (67, 594, 8777), (46, 649, 4681), (95, 650, 4689), (95, 650, 4745), (39, 586, 4681), (32, 593, 4681), (17, 585, 4), (17, 585, 11), (57, 1097, 75), (17, 585, 137), (17, 585, 81), (57, 1097, 593), (32, 586, 1097), (32, 586, 649), (39, 593, 586), (17, 585, 585), (112, 1098, 4745), (119, 1105, 4682), (57, 1097, 4681), (70, 587, 8777), (125, 1161, 5193), (97, 1609, 4689), (95, 657, 4682), (45, 649, 4681), (95, 657, 4745), (39, 593, 4681), (32, 586, 4681), (16, 585, 4), (16, 585, 18), (16, 585, 137), (16, 585, 81), (16, 585, 74), (56, 1097, 593), (56, 1097, 586), (35, 586, 1097), (44, 649, 586), (16, 585, 585), (124, 1161, 4682), (56, 1097, 4681), (124, 1161, 5193), (96, 1609, 4689), (96, 1609, 4682), (44, 649, 4681), (94, 657, 4745), (80, 713, 4682), (38, 593, 4681), (79, 594, 4689), (35, 586, 4681)]
def allOk : List (Tlm.Row × Tlm.Row) → List (Nat × Nat × Nat) → Bool
  | [], _ => true
  | _ :: _, [] => false
  | p :: ps, e :: es => chk p.1 (decC 8 e.2.1) (decR 8 e.1) && chk p.2 (decC 8 e.2.2) (decR 8 e.1) && decide ((decR 8 e.1).length ≤ 7) && allOk ps es
def prs : List (Tlm.Row × Tlm.Row) := (rowsTo 4).tail.flatMap fun s => ((rowsTo 5).tail.filter fun t => md s == md t).map fun t => (s, t)
theorem tab_ok : allOk prs tab = true := by decide +kernel
theorem md_tot : ∀ r : Tlm.Row, ((md r : Nat) : Int) = tot r % 3
  | [] => rfl
  | b :: r => by
    have := md_tot r
    show (((md r + if b then 1 else 2) % 3 : Nat) : Int) = (sv b + tot r) % 3
    cases b
    · show (((md r + 2) % 3 : Nat) : Int) = (-1 + tot r) % 3
      omega
    · show (((md r + 1) % 3 : Nat) : Int) = (1 + tot r) % 3
      omega
theorem naB_na : ∀ {p : Tlm.Row}, naB p = true → Na p
  | [], h => by cases h
  | [_], h => by cases h
  | a :: b :: r, h => by
    rw [naB, Bool.or_eq_true] at h
    rcases h with h | h
    · have : a = b := by simpa using h
      subst this
      exact ⟨[], a, r, rfl⟩
    · obtain ⟨u, c, v, e⟩ := naB_na h
      exact ⟨a :: u, c, v, by rw [e]; rfl⟩
theorem pcB_ab {b : Bool} {p : Tlm.Row} (h : pcB b p = true) : Ab [b] p := by
  unfold pcB at h
  rw [Bool.or_eq_true, Bool.and_eq_true] at h
  rcases h with h | ⟨h1, h2⟩
  · have : p = [b] := by simpa using h
    rw [this]
    exact .refl _
  · refine (ab_step_iff p b).mpr (.inr ⟨naB_na h1, (tot p - sv b) / 3, ?_⟩)
    have h3 : md p = md [b] := by simpa using h2
    have e1 := md_tot p
    have e2 := md_tot [b]
    rw [h3, e2] at e1
    have e3 : tot [b] = sv b := by show sv b + 0 = sv b; omega
    rw [e3] at e1
    omega
theorem chk_ab : ∀ {s : Tlm.Row} {ks : List Nat} {u : Tlm.Row}, chk s ks u = true → Ab s u
  | [], [], [], _ => .refl _
  | [], [], _ :: _, h => by cases h
  | [], _ :: _, _, h => by cases h
  | _ :: _, [], _, h => by cases h
  | b :: s, k :: ks, u, h => by
    rw [chk, Bool.and_eq_true] at h
    have := Ab.append (pcB_ab h.1) (chk_ab h.2)
    rw [List.take_append_drop] at this
    exact this
theorem allOk_top : ∀ {ps : List (Tlm.Row × Tlm.Row)} {es : List (Nat × Nat × Nat)}, allOk ps es = true → ∀ p ∈ ps, ∃ u, Ab p.1 u ∧ Ab p.2 u ∧ u.length ≤ 7
  | [], _, _, p, hp => by cases hp
  | _ :: _, [], h, _, _ => by cases h
  | q :: ps, e :: es, h, p, hp => by
    rw [allOk, Bool.and_eq_true, Bool.and_eq_true, Bool.and_eq_true] at h
    rcases List.mem_cons.mp hp with z | z
    · rw [z]
      exact ⟨_, chk_ab h.1.1.1, chk_ab h.1.1.2, of_decide_eq_true h.1.2⟩
    · exact allOk_top h.2 p z
theorem rowsTo_tail (n : Nat) (r : Tlm.Row) (h1 : 1 ≤ r.length) (h2 : r.length ≤ n) (hh : ∃ l, rowsTo n = [] :: l) : r ∈ (rowsTo n).tail := by
  obtain ⟨l, hl⟩ := hh
  have := mem_rowsTo n r h2
  rw [hl] at this ⊢
  rcases List.mem_cons.mp this with z | z
  · subst z; simp at h1
  · exact z
/-- two rows of few steps with like sums have a common top of seven steps or fewer -/
theorem top7 {s t : Tlm.Row} (h1 : 1 ≤ s.length) (h2 : s.length ≤ 4) (h3 : 1 ≤ t.length) (h4 : t.length ≤ 5) (h : tot s % 3 = tot t % 3) : ∃ u, Ab s u ∧ Ab t u ∧ u.length ≤ 7 := by
  refine allOk_top tab_ok (s, t) (List.mem_flatMap.mpr ⟨s, rowsTo_tail 4 s h1 h2 ⟨_, rfl⟩, List.mem_map.mpr ⟨t, List.mem_filter.mpr ⟨rowsTo_tail 5 t h3 h4 ⟨_, rfl⟩, ?_⟩, rfl⟩⟩)
  have e1 := md_tot s
  have e2 := md_tot t
  have : md s = md t := by omega
  rw [this]
  exact beq_self_eq_true _
theorem fin_tot {a : Nat} (ha : a < 3) (s : Tlm.Row) : ((fin a s : Nat) : Int) = ((a : Int) + tot s) % 3 := by
  induction s generalizing a with
  | nil =>
    show ((a : Nat) : Int) = ((a : Int) + 0) % 3
    omega
  | cons b s ih =>
    show ((fin (nx a b) s : Nat) : Int) = ((a : Int) + (sv b + tot s)) % 3
    rw [ih (nx_lt a b), ← nx_int ha b]
    omega
theorem fin_like {a : Nat} (ha : a < 3) {s t : Tlm.Row} (h : fin a s = fin a t) : tot s % 3 = tot t % 3 := by
  have h1 := fin_tot ha s
  have h2 := fin_tot ha t
  rw [h] at h1
  omega
theorem least_ex {s t u : Tlm.Row} (h1 : Ab s u) (h2 : Ab t u) : ∃ r, Least s t r ∧ r.length ≤ u.length := by
  have h : ∀ n u, u.length = n → Ab s u → Ab t u → ∃ r, Least s t r ∧ r.length ≤ n := by
    intro n
    induction n using Nat.strongRecOn with
    | ind n ih =>
      intro u hu a b
      by_cases hx : ∃ v, Ab s v ∧ Ab t v ∧ v.length < n
      · obtain ⟨v, a', b', hv⟩ := hx
        obtain ⟨r, hr, hl⟩ := ih v.length hv v rfl a' b'
        exact ⟨r, hr, by omega⟩
      · refine ⟨u, ⟨a, b, fun v a' b' => ?_⟩, by omega⟩
        rcases Nat.lt_or_ge v.length n with z | z
        · exact absurd ⟨v, a', b', z⟩ hx
        · omega
  exact h u.length u rfl h1 h2

/-! the law's own search -/
structure Lw (s : Tlm.Row) (F : List (Tlm.Row × Nat)) (R : List Tlm.Row) (n : Nat) : Prop where
  nd : (F.map (·.1)).Nodup
  way : ∀ x m, (x, m) ∈ F → Wk 12 m s x ∧ m ≤ n
  all : ∀ x m, m ≤ n → Wk 12 m s x → ∃ m', (x, m') ∈ F ∧ m' ≤ m
  old : ∀ x ∈ F.map (·.1), x ∈ R ∨ ∀ y, Up x y ∨ Up y x → y.length < 12 → y ∈ F.map (·.1)
  rim : ∀ x ∈ R, (x, n) ∈ F
  low : ∀ x ∈ F.map (·.1), x.length < 12
theorem Lw.start {s : Tlm.Row} (h : s.length < 12) : Lw s [(s, 0)] [s] 0 where
  nd := by simp
  way := fun x m h => by
    have := List.mem_singleton.mp h
    cases this
    exact ⟨.nil s, Nat.le_refl _⟩
  all := fun x m hm h => by
    have : m = 0 := by omega
    subst this
    rw [← h.start_eq]
    exact ⟨0, List.mem_singleton.mpr rfl, Nat.le_refl _⟩
  old := fun x hx => .inl hx
  rim := fun x hx => by rw [List.mem_singleton.mp hx]; exact List.mem_singleton.mpr rfl
  low := fun x hx => by
    have : x = s := by simpa using hx
    rw [this]; exact h
/-- within a turn: A is new, Dn is looked at -/
structure Lm (s : Tlm.Row) (F : List (Tlm.Row × Nat)) (R : List Tlm.Row) (n : Nat) (A Dn : List Tlm.Row) : Prop where
  nd : ((F ++ A.map fun x => (x, n + 1)).map (·.1)).Nodup
  new : ∀ y ∈ A, (∃ x ∈ R, Up x y ∨ Up y x) ∧ y.length < 12
  done : ∀ y ∈ Dn, y.length < 12 → y ∈ (F ++ A.map fun x => (x, n + 1)).map (·.1)
theorem lm_keys (F : List (Tlm.Row × Nat)) (A : List Tlm.Row) (n : Nat) : (F ++ A.map fun x => (x, n)).map (·.1) = F.map (·.1) ++ A := by
  rw [List.map_append, List.map_map]
  congr 1
  exact List.map_id A
theorem Lm.start {s : Tlm.Row} {F : List (Tlm.Row × Nat)} {R : List Tlm.Row} {n : Nat} (v : Lw s F R n) : Lm s F R n [] [] := ⟨by simpa using v.nd, fun y h => absurd h List.not_mem_nil, fun y h => absurd h List.not_mem_nil⟩
theorem Lm.same {s : Tlm.Row} {F : List (Tlm.Row × Nat)} {R A Dn Dn' : List Tlm.Row} {n : Nat} (h : Lm s F R n A Dn) (e : ∀ y ∈ Dn', y ∈ Dn) : Lm s F R n A Dn' := ⟨h.nd, h.new, fun y hy => h.done y (e y hy)⟩
theorem Lm.skip {s y : Tlm.Row} {F : List (Tlm.Row × Nat)} {R A Dn : List Tlm.Row} {n : Nat} (h : Lm s F R n A Dn) (e : y.length < 12 → y ∈ (F ++ A.map fun x => (x, n + 1)).map (·.1)) : Lm s F R n A (Dn ++ [y]) :=
  ⟨h.nd, h.new, fun z hz => by rcases List.mem_append.mp hz with k | k; exact h.done z k; rw [List.mem_singleton.mp k]; exact e⟩
theorem Lm.add {s y x : Tlm.Row} {F : List (Tlm.Row × Nat)} {R A Dn : List Tlm.Row} {n : Nat} (h : Lm s F R n A Dn) (hx : x ∈ R) (hu : Up x y ∨ Up y x) (hl : y.length < 12) (hn : y ∉ (F ++ A.map fun x => (x, n + 1)).map (·.1)) : Lm s F R n (A ++ [y]) (Dn ++ [y]) := by
  have h1 := h.nd
  rw [lm_keys] at hn h1
  refine ⟨?_, fun z hz => ?_, fun z hz hl' => ?_⟩
  · rw [lm_keys, ← List.append_assoc]
    exact List.nodup_append.mpr ⟨h1, by simp, fun u hu v hv e => by rw [List.mem_singleton.mp hv] at e; exact hn (e ▸ hu)⟩
  · rcases List.mem_append.mp hz with k | k
    · exact h.new z k
    · rw [List.mem_singleton.mp k]
      exact ⟨⟨x, hx, hu⟩, hl⟩
  · rw [lm_keys, ← List.append_assoc]
    rcases List.mem_append.mp hz with k | k
    · have := h.done z k hl'
      rw [lm_keys] at this
      exact List.mem_append_left _ this
    · exact List.mem_append_right _ k
theorem Lm.level {s : Tlm.Row} {F : List (Tlm.Row × Nat)} {R A Dn : List Tlm.Row} {n : Nat} (v : Lw s F R n) (h : Lm s F R n A Dn) (hd : ∀ x ∈ R, ∀ y, Up x y ∨ Up y x → y ∈ Dn) : Lw s (F ++ A.map fun x => (x, n + 1)) A (n + 1) := by
  have wayA : ∀ x, x ∈ A → Wk 12 (n + 1) s x := fun x hx => by
    obtain ⟨⟨y, hy, hu⟩, hl⟩ := h.new x hx
    have := (v.way y n (v.rim y hy)).1
    rcases hu with hu | hu
    · exact .up this hu hl
    · exact .down this hu hl
  have nb : ∀ t ∈ F.map (·.1), ∀ x, Up t x ∨ Up x t → x.length < 12 → x ∈ (F ++ A.map fun x => (x, n + 1)).map (·.1) := fun t ht x hu hl => by
    rcases v.old t ht with k | k
    · exact h.done x (hd t k x hu) hl
    · rw [List.map_append]
      exact List.mem_append_left _ (k x hu hl)
  have way : ∀ x m, (x, m) ∈ (F ++ A.map fun x => (x, n + 1)) → Wk 12 m s x ∧ m ≤ n + 1 := fun x m hx => by
    rcases List.mem_append.mp hx with k | k
    · obtain ⟨a, b⟩ := v.way x m k
      exact ⟨a, by omega⟩
    · obtain ⟨y, hy, e⟩ := List.mem_map.mp k
      cases e
      exact ⟨wayA x hy, Nat.le_refl _⟩
  refine ⟨h.nd, way, fun x m hm hw => ?_, fun x hx => ?_, fun x hx => ?_, fun x hx => ?_⟩
  · rcases Nat.lt_or_ge n m with hlt | hge
    · have hm' : m = n + 1 := by omega
      subst hm'
      have key : x ∈ (F ++ A.map fun x => (x, n + 1)).map (·.1) := by
        cases hw with
        | up h1 h2 h3 =>
          obtain ⟨m', g1, _⟩ := v.all _ n (Nat.le_refl _) h1
          exact nb _ (List.mem_map.mpr ⟨_, g1, rfl⟩) x (.inl h2) h3
        | down h1 h2 h3 =>
          obtain ⟨m', g1, _⟩ := v.all _ n (Nat.le_refl _) h1
          exact nb _ (List.mem_map.mpr ⟨_, g1, rfl⟩) x (.inr h2) h3
      obtain ⟨p, hp, rfl⟩ := List.mem_map.mp key
      exact ⟨p.2, hp, (way p.1 p.2 hp).2⟩
    · obtain ⟨m', g1, g2⟩ := v.all x m hge hw
      exact ⟨m', List.mem_append_left _ g1, g2⟩
  · rw [lm_keys] at hx
    rcases List.mem_append.mp hx with k | k
    · exact .inr fun y hu hl => nb x k y hu hl
    · exact .inl k
  · exact List.mem_append_right _ (List.mem_map.mpr ⟨x, hx, rfl⟩)
  · rw [lm_keys] at hx
    rcases List.mem_append.mp hx with k | k
    · exact v.low x k
    · exact (h.new x k).2
/-- the number kept for a row is the least number of moves -/
theorem Lw.least {s t : Tlm.Row} {F : List (Tlm.Row × Nat)} {R : List Tlm.Row} {n m : Nat} (v : Lw s F R n) (h : (t, m) ∈ F) {m' : Nat} (hw : Wk 12 m' s t) : m ≤ m' := by
  obtain ⟨h1, h2⟩ := v.way t m h
  rcases Nat.lt_or_ge n m' with z | z
  · omega
  · obtain ⟨k, g1, g2⟩ := v.all t m' z hw
    have : k = m := by
      have hn := v.nd
      clear v hw
      induction F with
      | nil => cases h
      | cons p F ih =>
        rw [List.map_cons] at hn
        obtain ⟨a, b⟩ := List.nodup_cons.mp hn
        rcases List.mem_cons.mp h with e | e <;> rcases List.mem_cons.mp g1 with e' | e'
        · rw [← e] at e'; cases e'; rfl
        · exact absurd (List.mem_map.mpr ⟨_, e', by rw [← e]⟩) a
        · exact absurd (List.mem_map.mpr ⟨_, e, by rw [← e']⟩) a
        · exact ih e e' b
    omega
theorem dist_eq {s t r : Tlm.Row} {F : List (Tlm.Row × Nat)} {R : List Tlm.Row} {n m : Nat} (v : Lw s F R n) (h : (t, m) ∈ F) (hr : Least s t r) (hl : r.length < 12) : (m : Int) = 2 * (r.length : Int) - s.length - t.length := by
  have h1 := v.least h (Wk.over hr.1 hr.2.1 hl)
  obtain ⟨u, a, b, hu⟩ := (v.way t m h).1.top
  have := hr.2.2 u a b
  have := hr.1.len
  have := hr.2.1.len
  omega
end TW

set_option Elab.async false
set_option linter.all false
set_option maxRecDepth 100000
set_option maxHeartbeats 4000000
/-! The walk, sixteenth part (printed by gen_w13.py): the law. -/
namespace TW
open PySem
open PySem.Spec PyProof.Rows L2 Evl Tlm
theorem el_if {σ : L2.St} {H : Hp} {ta tb : TE} {t : TT} {xs : List V} {b : Bool} (h : EvT t σ H b) (h1 : b = true → EvL ta σ H xs) (h2 : b = false → EvL tb σ H xs) : EvL (tIf t ta tb) σ H xs := fun H1 e Q q => h H1 e _ fun H2 e2 => by
  cases b with
  | true =>
    show ta σ H2 Q
    exact h1 rfl H2 (e.trans e2) Q fun p H3 hp e3 h3 => q p H3 (fresh_back e2 hp) (e2.trans e3) h3
  | false =>
    show tb σ H2 Q
    exact h2 rfl H2 (e.trans e2) Q fun p H3 hp e3 h3 => q p H3 (fresh_back e2 hp) (e2.trans e3) h3
theorem inV_wds {a : Nat} (ha : a < 3) {Ls : List Tlm.Row} {t : Tlm.Row} : inV (.str (wd a t)) (Wds a Ls) = true ↔ t ∈ Ls := by
  unfold inV Wds
  rw [List.any_map, List.any_eq_true]
  constructor
  · rintro ⟨x, hx, e⟩
    have e : (wd a x == wd a t) = true := e
    have e : wd a x = wd a t := by simpa using e
    rw [← wd_inj ha e]
    exact hx
  · intro h
    refine ⟨t, h, ?_⟩
    show (wd a t == wd a t) = true
    simp
theorem wds_flat {a : Nat} (Ls : List Tlm.Row) : (Wds a Ls).all flatV = true := by
  unfold Wds
  rw [List.all_map, List.all_eq_true]
  intro x _
  rfl
theorem wds_len {a : Nat} (Ls : List Tlm.Row) : (Wds a Ls).length = Ls.length := by unfold Wds; rw [List.length_map]
theorem wds_get {a i : Nat} {Ls : List Tlm.Row} {v : V} (h : (Wds a Ls)[i]? = some v) : ∃ x, Ls[i]? = some x ∧ V.str (wd a x) = v := by
  unfold Wds at h
  rw [List.getElem?_map] at h
  exact Option.map_eq_some_iff.mp h
theorem wds_app {a : Nat} (l m : List Tlm.Row) : Wds a (l ++ m) = Wds a l ++ Wds a m := by unfold Wds; rw [List.map_append]
/-- t is below x, as the law asks it -/
theorem ev_inB {K : PySem.W.Frag} {σ : L2.St} {H : Hp} {a i j : Nat} {t x : Tlm.Row} {b : Bool} (ha : a < 3) (hi : σ[i]? = some (some (.str (wd a t)))) (hj : σ[j]? = some (some (.str (wd a x)))) (hx : x.length ≤ 7) (hb : b = true ↔ Ab t x) :
    Ev (tOp (rIn K false) (tVar i) (tCall spBelow [] E0 (tCons (tVar j) tNil))) σ H (.bl b) := fun H1 e1 Q q =>
  ⟨_, hi, _, hj, a, x, rfl, ha, hx, fun p H2 Ls hp e2 hn hm h2 => ⟨p, Wds a Ls, rfl, .inl (sq_of h2), rfl, wds_flat Ls, by
    have : inV (.str (wd a t)) (Wds a Ls) = b := by
      cases b with
      | true => exact (inV_wds ha).mpr ((hm t).mpr (hb.mp rfl))
      | false =>
        rw [Bool.eq_false_iff]
        intro z
        exact absurd (hb.mpr ((hm t).mp ((inV_wds ha).mp z))) (by decide)
    show Q (.bl (inV (.str (wd a t)) (Wds a Ls))) H2
    rw [this]
    exact q H2 e2⟩⟩
def Fv (F : List (Tlm.Row × Nat)) : List (Tlm.Row × V) := F.map fun x => (x.1, .int (x.2 : Nat))
theorem fv_keys (F : List (Tlm.Row × Nat)) : (Fv F).map (·.1) = F.map (·.1) := by unfold Fv; rw [List.map_map]; rfl
theorem fv_mem {F : List (Tlm.Row × Nat)} {x : Tlm.Row} {m : Nat} (h : (x, m) ∈ F) : (x, V.int (m : Nat)) ∈ Fv F := List.mem_map.mpr ⟨_, h, rfl⟩
theorem fv_snoc (F : List (Tlm.Row × Nat)) (A : List Tlm.Row) (y : Tlm.Row) (n : Nat) : Fv (F ++ A.map fun x => (x, n)) ++ [(y, .int (n : Nat))] = Fv (F ++ (A ++ [y]).map fun x => (x, n)) := by
  unfold Fv
  simp
theorem bt_put {a : Nat} (ha : a < 3) {G : List Tlm.Row} {y : Tlm.Row} : ∃ G', putK (Tk a (Bt G)) (Sum.inr (wd a y)) (.bl true) = Tk a (Bt G') ∧ (G.Nodup → G'.Nodup) ∧ G'.length ≤ G.length + 1 ∧ ∀ z, z ∈ G' ↔ z ∈ G ∨ z = y := by
  by_cases h : y ∈ G
  · refine ⟨G, ?_, fun z => z, Nat.le_succ _, fun z => ⟨.inl, fun k => k.elim id fun e => e ▸ h⟩⟩
    unfold putK
    have hh : ((Tk a (Bt G)).any fun kv => decide (kv.1 = Sum.inr (wd a y))) = true := by
      rw [valV_any]
      exact (tk_has ha).mpr (by rw [bt_keys]; exact h)
    rw [if_pos hh]
    refine (List.map_congr_left fun p hp => ?_).trans (List.map_id _)
    unfold Tk Bt at hp
    rw [List.map_map] at hp
    obtain ⟨x, hx, rfl⟩ := List.mem_map.mp hp
    show (if _ then _ else _) = _
    split <;> rfl
  · refine ⟨G ++ [y], ?_, fun hn => List.nodup_append.mpr ⟨hn, by simp, fun u hu v hv e => by rw [List.mem_singleton.mp hv] at e; exact h (e ▸ hu)⟩, by rw [List.length_append]; exact Nat.le_refl _, fun z => by rw [List.mem_append, List.mem_singleton]⟩
    rw [tk_put ha (by rw [bt_keys]; exact h)]
    unfold Bt
    rw [List.map_append]
    rfl
theorem tk_kV {a : Nat} (G : List Tlm.Row) : ((Tk a (Bt G)).map fun kv => kV kv.1) = Wds a G := by
  unfold Tk Bt Wds
  rw [List.map_map, List.map_map]
  rfl

section
variable {P : Program} {w : World} {K : PySem.W.Frag} {mg : Str → Option Value} {base : Heap}
def spLaw (K : PySem.W.Frag) : Sp := fun vs H Q _ => ∃ a ns, vs = [.ref a] ∧ SqL K H a (List.map V.int ns) ∧ ns.length ≤ 63 ∧ ∀ H', Q (.bl true) H'
theorem ok_law {f fA fW fT fP fU fD fL fS fB fC fO : Addr} {fd fdA fdW fdT fdP fdU fdD fdL fdS fdB fdC fdO : FuncData} (D0 : Dfn K mg "law" sLaw ["_law_script"] f fd)
    (DA : Dfn K mg "_law_any" sLawAny ["_law_row", "_law_most"] fA fdA) (GA : FnOk P w K mg base CX0 3 fA fdA ["_law_row", "_law_most"] (spAny K))
    (DW : Dfn K mg "_law_words" sLawWords ["_law_first", "_law_last", "_law_size"] fW fdW) (GW : FnOk P w K mg base CX0 1 fW fdW ["_law_first", "_law_last", "_law_size"] spWords)
    (DT : Dfn K mg "_law_taken" sLawTaken ["_law_row", "_law_many"] fT fdT) (GT : FnOk P w K mg base CX0 1 fT fdT ["_law_row", "_law_many"] (spTaken K))
    (DP : Dfn K mg "_law_pick" sLawPick ["_law_row", "_law_things"] fP fdP) (GP : FnOk P w K mg base CX0 2 fP fdP ["_law_row", "_law_things"] (spPickL K))
    (DU : Dfn K mg "_law_ups" sLawUps ["_law_word_here"] fU fdU) (GU : FnOk P w K mg base CX0 2 fU fdU ["_law_word_here"] spUps)
    (DD : Dfn K mg "_law_downs" sLawDowns ["_law_word_here"] fD fdD) (GD : FnOk P w K mg base CX0 2 fD fdD ["_law_word_here"] spDowns)
    (DL : Dfn K mg "_law_alike" sLawAlike ["_law_found", "_law_due"] fL fdL) (GL : FnOk P w K mg base CX0 2 fL fdL ["_law_found", "_law_due"] spAlikeI) (GLT : FnOk P w K mg base CX0 3 fL fdL ["_law_found", "_law_due"] spAlikeT)
    (DS : Dfn K mg "distance" sDistance ["one", "other"] fS fdS) (GS : FnOk P w K mg base CX0 5 fS fdS ["one", "other"] spDistance)
    (DB : Dfn K mg "_law_below" sLawBelow ["_law_word_here"] fB fdB) (GB : FnOk P w K mg base CX0 3 fB fdB ["_law_word_here"] spBelow)
    (DC : Dfn K mg "least_common" sLeastCommon ["one", "other"] fC fdC) (GC : FnOk P w K mg base CX0 4 fC fdC ["one", "other"] spLeastCommon)
    (DO : Dfn K mg "tops" sTops ["one", "other"] fO fdO) (GO : FnOk P w K mg base CX0 4 fO fdO ["one", "other"] spTops) (T : Txt mg) :
    FnOk P w K mg base CX0 6 f fd ["_law_script"] (spLaw K) := by
  refine D0.F.ok scLaw (fun vs H Q E h => ?_) (fun cdv A outer s0 H vs Q E hr h => ?_)
  · obtain ⟨a, ns, rfl, _⟩ := h
    rfl
  · obtain ⟨a0, ns, rfl, hs0, hns, qq⟩ := h
    refine ⟨_, (pss_cons (ps_set (i := 1) scLaw.nd rfl (.inl rfl) (pe_lst (pa_cons (pv 0) (pa_cons pe_int (pa_cons pe_int (pa_cons pe_int pa_nil))))))
      (pss_cons (ps_set (i := 2) scLaw.nd rfl (.inl rfl) (pe_fn DA GA (hr.mono (by decide)) (pa_cons (pv 1) (pa_cons pe_int pa_nil))))
      (pss_cons (ps_set (i := 3) scLaw.nd rfl (.inl rfl) (pe_fn DW GW (hr.mono (by decide)) (pa_cons (pe_ix ix_str (pv 2) pe_int (fun _ _ => rfl)) (pa_cons (pe_ix ix_str (pv 2) (pe_un un_neg pe_int) (fun _ _ => rfl)) (pa_cons (pe_op op_add pe_int (pe_fn DT GT (hr.mono (by decide)) (pa_cons (pv 1) (pa_cons pe_int pa_nil)))) pa_nil)))))
      (pss_cut (ps_set (i := 4) scLaw.nd rfl (.inr rfl) (pe_ifExp (pt_cmpR (op_neD hr.units) (pv 3) (pe_lst pa_nil) (nomark _)) (pe_fn DP GP (hr.mono (by decide)) (pa_cons (pv 1) (pa_cons (pv 3) pa_nil))) (pv 2)))
      (pss_cons (ps_par3 (i := 5) (j := 6) (l := 7) rfl scLaw.nd rfl rfl rfl (by decide) (by decide) (by decide) rfl rfl rfl (pa_cons (pe_disp (pps_cons (pv 2) pe_int pps_nil) rfl rfl (by decide) (by decide)) (pa_cons (pe_lst (pa_cons (pv 2) pa_nil)) (pa_cons pe_int pa_nil))) rfl)
      (pss_cut (ps_while PassesOwn.never (pt_cmp (pc_dnotin (Nat.lt_of_le_of_lt (Nat.add_le_add_left (by decide) _) hr.units) (pv 4) (pv 5)))
      (pss_cons (ps_par (i := 8) (j := 7) rfl scLaw.nd rfl rfl (by decide) rfl rfl (pa_cons (pe_lst pa_nil) (pa_cons (pe_op op_add (pv 7) pe_int) pa_nil)) rfl)
      (pss_cons (ps_for PassesOwn.never rfl (pi_list (pv 6)) (pg_name (i := 9) scLaw.nd rfl (.inl rfl))
      (pss_one (ps_for PassesOwn.never rfl (pi_list (pe_op op_cat (pe_fn DU GU (hr.mono (by decide)) (pa_cons (pv 9) pa_nil)) (pe_fn DD GD (hr.mono (by decide)) (pa_cons (pv 9) pa_nil)))) (pg_name (i := 10) scLaw.nd rfl (.inl rfl))
      (pss_one (ps_if (PW.pt (pw_and (pt_cmp (pc_dnotin (Nat.lt_of_le_of_lt (Nat.add_le_add_left (by decide) _) hr.units) (pv 10) (pv 5))) (pw_and1 (pt_cmpR op_lt (pe_callB call_len_str (by rfl) T.len (by decide +kernel) (pa_cons (pv 10) pa_nil)) pe_int (nomark _))))) (pss_cons (ps_dput (Nat.lt_of_le_of_lt (Nat.add_le_add_left (by decide) _) hr.units) (pv 5) (pv 10) (pv 7) rfl)
      (pss_one (ps_ap (pv 8) (pv 10)))) pss_nil)))))
      (pss_one (ps_set (i := 6) scLaw.nd rfl (.inl rfl) (pv 8))))))
      (pss_cons (ps_if (pt_not (pt_val (pe_fn DL GL (hr.mono (by decide)) (pa_cons (pe_fn DS GS (hr.mono (by decide)) (pa_cons (pv 2) (pa_cons (pv 4) pa_nil))) (pa_cons (pe_dget (Nat.lt_of_le_of_lt (Nat.add_le_add_left (by decide) _) hr.units) (pv 5) (pv 4) (fun _ _ => rfl)) pa_nil))))) (pss_one (ps_ret pe_bl)) pss_nil)
      (pss_cons (ps_set (i := 11) scLaw.nd rfl (.inl rfl) (pe_op op_fdiv (pe_op op_add (pe_op op_add (pe_dget (Nat.lt_of_le_of_lt (Nat.add_le_add_left (by decide) _) hr.units) (pv 5) (pv 4) (fun _ _ => rfl)) (pe_callB call_len_str (by rfl) T.len (by decide +kernel) (pa_cons (pv 2) pa_nil))) (pe_callB call_len_str (by rfl) T.len (by decide +kernel) (pa_cons (pv 4) pa_nil))) pe_int))
      (pss_cons (ps_set (i := 12) scLaw.nd rfl (.inl rfl) (pe_lst (pa_cons (pv 2) pa_nil)))
      (pss_cut (ps_for PassesOwn.never rfl (pi_range1 rfl T.range (pa_cons (pe_op op_sub (pv 11) (pe_callB call_len_str (by rfl) T.len (by decide +kernel) (pa_cons (pv 2) pa_nil))) pa_nil)) (pg_name (i := 13) scLaw.nd rfl (.inl rfl))
      (pss_cons (ps_set (i := 8) scLaw.nd rfl (.inl rfl) pe_dnewK)
      (pss_cons (ps_for PassesOwn.never rfl (pi_list (pv 12)) (pg_name (i := 9) scLaw.nd rfl (.inl rfl))
      (pss_one (ps_for PassesOwn.never rfl (pi_list (pe_fn DU GU (hr.mono (by decide)) (pa_cons (pv 9) pa_nil))) (pg_name (i := 10) scLaw.nd rfl (.inl rfl))
      (pss_one (ps_dput (Nat.lt_of_le_of_lt (Nat.add_le_add_left (by decide) _) hr.units) (pv 8) (pv 10) pe_bl rfl)))))
      (pss_one (ps_set (i := 12) scLaw.nd rfl (.inl rfl) (pe_callTy (call_list_dK rfl) (by rfl) T.list (by decide +kernel) (pa_cons (pv 8) pa_nil)))))))
      (pss_cut (ps_set (i := 14) scLaw.nd rfl (.inl rfl) (pe_ifExp (pt_cmpR op_lt (pe_callB call_len_seq (by rfl) T.len (by decide +kernel) (pa_cons (pv 12) pa_nil)) pe_int (nomark _)) (pe_lc (own := [("_law_word_here", 15)]) (g := gName 15) (tt := tTest (tOp (rIn K false) (tVar 4) (tCall spBelow [] E0 (tCons (tVar 15) tNil))))  rfl scLaw.nd (pi_list (pv 12)) (blkOk_by (own := [("_law_word_here", 15)]) (N := nLaw) (sc := defScope sLaw) (by decide +kernel)) (fun _ _ _ _ _ => pg_name (i := 15) scLaw.nd rfl (.inl rfl)) (fun _ _ _ _ _ => pts_one (pt_cmpR op_in_seq (pv 4) (pe_fn DB GB (hr.mono (by decide)) (pa_cons (pv 15) pa_nil)) rfl)) (fun _ _ _ _ _ => pv 15)) (pe_lst pa_nil)))
      (pss_cons (ps_set (i := 16) scLaw.nd rfl (.inl rfl) (pe_fn DC GC (hr.mono (by decide)) (pa_cons (pv 2) (pa_cons (pv 4) pa_nil))))
      (pss_cons (ps_if (PW.pt (pw_or (pt_cmpR op_ne (pe_callB call_len_str (by rfl) T.len (by decide +kernel) (pa_cons (pv 16) pa_nil)) (pv 11) (nomark _)) (pw_or1 (PW.pt (pw_and (pt_cmpR op_lt (pe_callB call_len_seq (by rfl) T.len (by decide +kernel) (pa_cons (pv 12) pa_nil)) pe_int (nomark _)) (pw_and1 (PW.pt (pw_or (pt_cmpR op_notIn_seq (pv 16) (pv 14) rfl) (pw_or1 (pt_not (pt_val (pe_fn DL GLT (hr.mono (by decide)) (pa_cons (pe_fn DO GO (hr.mono (by decide)) (pa_cons (pv 2) (pa_cons (pv 4) pa_nil))) (pa_cons (pe_tup (pa_cons (pv 11) (pa_cons (pe_callB call_len_seq (by rfl) T.len (by decide +kernel) (pa_cons (pv 14) pa_nil)) pa_nil))) pa_nil)))))))))))))) (pss_one (ps_ret pe_bl)) pss_nil)
      (pss_one (ps_ret (pe_and (pe_cmpR op_in_seq (pv 2) (pe_fn DB GB (hr.mono (by decide)) (pa_cons (pv 16) pa_nil)) rfl) (pe_one (pe_cmpR op_in_seq (pv 4) (pe_fn DB GB (hr.mono (by decide)) (pa_cons (pv 16) pa_nil)) rfl)))))))))))))))))), ?_⟩
    have z1 : 1 ≤ sizeLine := by decide
    refine ⟨.ref a0, rfl, by show 4 ≤ sizeLine; decide, fun l hl => ?_⟩
    have hR1 : Rws K (upd H l (.lst [.ref a0, .int 0, .int 4932, .int 0])) l a0 ns := ⟨0, 4932, 0, by decide, upd_same, ex_l (Ex.new hl) hs0⟩
    refine ⟨.ref l, rfl, l, a0, ns, rfl, hR1, by omega, fun a s H2 ha s1 s2 k2 hR2 => ?_⟩
    have hw1 : (wd a s).length ≤ sizeLine := by rw [wd_len]; exact size_small (by omega)
    refine ⟨.str (wd a s), rfl, wd a s, 0, 97 + a, rfl, rfl, hw1, wd_first a s, .str (wd a s), rfl, 1, rfl, wd a s, -1, 97 + fin a s, rfl, rfl, hw1, wd_last a s, .ref l, rfl, l, a0, ns, 5, rfl, hR2, by omega, by decide, by decide, fun v H3 k3 hR3 v1 v2 => ⟨2, v, rfl, rfl, a, fin a s, 2 + v, rfl, ha, fin_lt ha s, by omega, by omega, fun p H4 Ls hp e4 h4 hl4 hm4 => ?_⟩⟩
    have hR4 := hR3.on e4
    have hpl : p ≠ l := fun z => by subst z; obtain ⟨o, ho⟩ := hR3.cell; rw [ho] at hp; cases hp
    refine q_cut (M := fun σ H' => ∃ t y3, σ = [some (.ref a0), some (.ref l), some (.str (wd a s)), y3, some (.str (wd a t)), none, none, none, none, none, none, none, none, none, none, none, none] ∧ 1 ≤ t.length ∧ t.length ≤ 5 ∧ fin a t = fin a s) ?_ ?_
    · refine et_test (ev_neEmpty ha (ev_var rfl) (sq_of h4)) H4 (Ex.refl _) _ fun H5 e5 => ?_
      cases Ls with
      | nil => exact iteF ⟨.str (wd a s), rfl, s, some (.ref p), rfl, s1, by omega, rfl⟩
      | cons x0 r0 =>
        refine iteT ⟨.ref l, rfl, .ref p, rfl, l, a0, ns, p, Wds a (x0 :: r0), rfl, hR4.on e5, by omega, sq_of (e5 _ _ h4), hpl, by rw [wds_len]; simp, by rw [wds_len]; omega, fun u H6 hu _ _ => ?_⟩
        obtain ⟨x, hx, rfl⟩ := List.mem_map.mp hu
        obtain ⟨g1, g2⟩ := hm4 x hx
        exact ⟨x, some (.ref p), rfl, by omega, by omega, g2⟩
    rintro σ Hb ⟨t, y3, rfl, t1, t2, hf⟩
    clear hR1 hR2 hR3 hR4 h4 k2 k3 e4 hm4
    obtain ⟨u, a1, a2, hu7⟩ := top7 s1 s2 t1 t2 (fin_like ha hf.symm)
    obtain ⟨r0, hr0, hl0⟩ := least_ex a1 a2
    have hr7 : r0.length ≤ 7 := by omega
    have h2 : Two s t := ⟨s1, by omega, t1, by omega, u, a1, a2, by omega⟩
    have hleast : ∀ r, Least s t r → r.length = r0.length := fun r hr => Nat.le_antisymm (hr.2.2 r0 hr0.1 hr0.2.1) (hr0.2.2 r hr.1 hr.2.1)
    have hsr := hr0.1.len
    have htr := hr0.2.1.len
    have hwk : Wk 12 (2 * r0.length - s.length - t.length) s t := Wk.over hr0.1 hr0.2.1 (by omega)
    refine fun sn hsn => ⟨.str (wd a s), rfl, upd_same, [(Sum.inr (wd a s), .int 0)], rfl, by show 1 ≤ 15; decide, .str (wd a s), rfl, z1, fun rm0 hrm => ⟨.ref sn, .ref rm0, .int 0, rfl, ?_⟩⟩
    have eA : Ex Hb (upd (upd Hb sn (.dK [])) sn (.dK (mergeK [] [(Sum.inr (wd a s), .int 0)]))) := Ex.mut (Ex.new hsn) hsn
    have hne0 : sn ≠ rm0 := fun z => by subst z; rw [upd_same] at hrm; cases hrm
    have eB := eA.trans (Ex.new hrm (o := .lst [.str (wd a s)]))
    have c1 : (upd (upd (upd Hb sn (.dK [])) sn (.dK (mergeK [] [(Sum.inr (wd a s), .int 0)]))) rm0 (.lst [.str (wd a s)])) sn = some (.dK (Tk a (Fv [(s, 0)]))) := by rw [upd_ne hne0]; exact upd_same
    have c2 : (upd (upd (upd Hb sn (.dK [])) sn (.dK (mergeK [] [(Sum.inr (wd a s), .int 0)]))) rm0 (.lst [.str (wd a s)])) rm0 = some (.lst (Wds a [s])) := upd_same
    revert eB c1 c2
    generalize upd (upd (upd Hb sn (.dK [])) sn (.dK (mergeK [] [(Sum.inr (wd a s), .int 0)]))) rm0 (.lst [.str (wd a s)]) = H0
    intro eB c1 c2
    clear eA hrm
    refine q_cut (M := fun σ H' => ∃ F R n m y6 y7 y8 y9 y10 y11 y12 y13 y14 y15 y16, σ = [some (.ref a0), some (.ref l), some (.str (wd a s)), y3, some (.str (wd a t)), some (.ref sn), y6, y7, y8, y9, y10, y11, y12, y13, y14, y15, y16] ∧ H' sn = some (.dK (Tk a (Fv F))) ∧ Lw s F R n ∧ (t, m) ∈ F) ?_ ?_
    · obtain ⟨W, hW⟩ : ∃ W : Nat → L2.St → Hp → Prop, W = fun m σ H' => ∃ F R n rm y8 y9 y10 y11 y12 y13 y14 y15 y16, σ = [some (.ref a0), some (.ref l), some (.str (wd a s)), y3, some (.str (wd a t)), some (.ref sn), some (.ref rm), some (.int (n : Nat)), y8, y9, y10, y11, y12, y13, y14, y15, y16] ∧ Ex Hb H' ∧ H' sn = some (.dK (Tk a (Fv F))) ∧ H' rm = some (.lst (Wds a R)) ∧ Lw s F R n ∧ m = 2 * r0.length - s.length - t.length - n := ⟨_, rfl⟩
      refine s_while W (2 * r0.length - s.length - t.length - 0) ?_ ?_
      · rw [hW]
        exact ⟨[(s, 0)], [s], 0, rm0, none, none, none, none, none, none, none, none, none, rfl, eB, c1, c2, Lw.start (by omega), rfl⟩
      intro m σ H1 hw
      rw [hW] at hw
      obtain ⟨F, R, n, rm, y8, y9, y10, y11, y12, y13, y14, y15, y16, rfl, e1, f1, g1, V0, rfl⟩ := hw
      refine ⟨!(valV (Tk a (Fv F)) (Sum.inr (wd a t))).isSome, fun H2 e2 Q' q' => ⟨.str (wd a t), rfl, .ref sn, rfl, sn, _, rfl, DGet.k (k := Sum.inr (wd a t)) (e2 _ _ f1), _, rfl, q' H2 (Ex.refl H2)⟩, fun hb H2 e2 => ?_, fun hb H2 e2 => ?_⟩
      · have hnk : t ∉ F.map (·.1) := fun z => by rw [(tk_has ha).mpr (by rw [fv_keys]; exact z)] at hb; cases hb
        have hlt : n < 2 * r0.length - s.length - t.length := by
          rcases Nat.lt_or_ge n (2 * r0.length - s.length - t.length) with z | z
          · exact z
          · obtain ⟨m', k1, _⟩ := V0.all t _ z hwk
            exact absurd (List.mem_map.mpr ⟨_, k1, rfl⟩) hnk
        refine ⟨fun σ2 H2' => ∃ m', m' < 2 * r0.length - s.length - t.length - n ∧ W m' σ2 H2', fun _ _ z => z, ?_⟩
        refine ⟨by show 0 ≤ sizeLine; decide, fun lt hlt2 => ⟨.int (n : Nat), rfl, _, _, rfl, rfl, .ref lt, .int ((n + 1 : Nat) : Int), rfl, ?_⟩⟩
        have e3 := (e1.trans e2).trans (Ex.new hlt2 (o := .lst []))
        have hltb : Hb lt = none := fresh_back (e1.trans e2) hlt2
        have nls : lt ≠ sn := fun z => by subst z; rw [e2 _ _ f1] at hlt2; cases hlt2
        have nlr : lt ≠ rm := fun z => by subst z; rw [e2 _ _ g1] at hlt2; cases hlt2
        have nrs : rm ≠ sn := fun z => by subst z; rw [f1] at g1; cases g1
        have f3 := Ex.new hlt2 (o := .lst []) _ _ (e2 _ _ f1)
        have g3 := Ex.new hlt2 (o := .lst []) _ _ (e2 _ _ g1)
        have l3 := upd_same (H := H2) (a := lt) (o := HO.lst [])
        revert e3 f3 g3 l3
        generalize upd H2 lt (.lst []) = H3
        intro e3 f3 g3 l3
        refine q_forLn (ev_var rfl) (sq_of g3) (fun i σ H' => ∃ A Dn y9 y10 y11 y12 y13 y14 y15 y16, σ = [some (.ref a0), some (.ref l), some (.str (wd a s)), y3, some (.str (wd a t)), some (.ref sn), some (.ref rm), some (.int ((n + 1 : Nat) : Int)), some (.ref lt), y9, y10, y11, y12, y13, y14, y15, y16] ∧ Ex Hb H' ∧ H' sn = some (.dK (Tk a (Fv (F ++ A.map fun x => (x, n + 1))))) ∧ H' lt = some (.lst (Wds a A)) ∧ H' rm = some (.lst (Wds a R)) ∧ Lm s F R n A Dn ∧ ∀ x ∈ R.take i, ∀ y, Up x y ∨ Up y x → y ∈ Dn)
          (fun H4 e4 => ⟨[], [], y9, y10, y11, y12, y13, y14, y15, y16, rfl, e3.trans e4, by rw [List.map_nil, List.append_nil]; exact e4 _ _ f3, e4 _ _ l3, e4 _ _ g3, Lm.start V0, fun x hx => by simp at hx⟩) (fun i σ H' _ p => by obtain ⟨A, Dn, y9, y10, y11, y12, y13, y14, y15, y16, rfl, _, _, _, h, _⟩ := p; exact sq_of h) ?_ ?_
        · rintro i v σ H4 hi ⟨A, Dn, y9, y10, y11, y12, y13, y14, y15, y16, rfl, e4, f4, l4, g4, M4, d4⟩
          obtain ⟨x, hx, rfl⟩ := wds_get hi
          have hxR := List.mem_of_getElem? hx
          have hx12 := V0.low x (List.mem_map.mpr ⟨_, V0.rim x hxR, rfl⟩)
          refine ⟨.str (wd a x), rfl, a, x, rfl, ha, by omega, fun lu H5 Us hlu e5 hUn hUm h5 => ?_⟩
          refine ⟨.str (wd a x), rfl, a, x, rfl, ha, by omega, fun ld H6 Ds hld e6 hDn hDm h6 => ?_⟩
          have hUl : Us.length ≤ 2 ^ 13 := rows_few (n := 12) hUn fun y hy => by have := ((hUm y).mp hy).len; omega
          have hDl : Ds.length ≤ 2 ^ 13 := rows_few (n := 12) hDn fun y hy => by have := ((hDm y).mp hy).len; omega
          refine ⟨lu, ld, Wds a Us, Wds a Ds, rfl, rfl, e6 _ _ h5, h6, by rw [wds_len, wds_len]; exact size_small (by omega), fun lc hlc => ⟨lc, rfl, ⟨Wds a (Us ++ Ds), sq_of (by rw [wds_app]; exact upd_same)⟩, ?_⟩⟩
          have e47 : Ex H4 (upd H6 lc (.lst (Wds a Us ++ Wds a Ds))) := (e5.trans e6).trans (Ex.new hlc)
          have c7 : (upd H6 lc (.lst (Wds a Us ++ Wds a Ds))) lc = some (.lst (Wds a (Us ++ Ds))) := by rw [wds_app]; exact upd_same
          have ncs : lc ≠ sn := fun z => by subst z; have := (e5.trans e6) _ _ f4; rw [hlc] at this; cases this
          have ncl : lc ≠ lt := fun z => by subst z; have := (e5.trans e6) _ _ l4; rw [hlc] at this; cases this
          revert e47 c7
          generalize upd H6 lc (.lst (Wds a Us ++ Wds a Ds)) = H7
          intro e47 c7
          refine for_list (fun j σ H' => ∃ A Dn y10 y11 y12 y13 y14 y15 y16, σ = [some (.ref a0), some (.ref l), some (.str (wd a s)), y3, some (.str (wd a t)), some (.ref sn), some (.ref rm), some (.int ((n + 1 : Nat) : Int)), some (.ref lt), some (.str (wd a x)), y10, y11, y12, y13, y14, y15, y16] ∧ Ex Hb H' ∧ H' sn = some (.dK (Tk a (Fv (F ++ A.map fun x => (x, n + 1))))) ∧ H' lt = some (.lst (Wds a A)) ∧ H' rm = some (.lst (Wds a R)) ∧ H' lc = some (.lst (Wds a (Us ++ Ds))) ∧ Lm s F R n A Dn ∧ (∀ x ∈ R.take i, ∀ y, Up x y ∨ Up y x → y ∈ Dn) ∧ ∀ y ∈ (Us ++ Ds).take j, y ∈ Dn)
            ⟨A, Dn, y10, y11, y12, y13, y14, y15, y16, rfl, e4.trans e47, e47 _ _ f4, e47 _ _ l4, e47 _ _ g4, c7, M4, d4, fun y hy => by simp at hy⟩ (fun j σ H' _ p => by obtain ⟨A, Dn, y10, y11, y12, y13, y14, y15, y16, rfl, _, _, _, _, h, _⟩ := p; exact sq_of h) ?_ ?_
          · rintro j v σ H8 hj ⟨A, Dn, y10, y11, y12, y13, y14, y15, y16, rfl, e8, f8, l8, g8, c8, M8, d8, t8⟩
            obtain ⟨z, hz, rfl⟩ := wds_get hj
            have hnb : Up x z ∨ Up z x := by
              rcases List.mem_append.mp (List.mem_of_getElem? hz) with k | k
              · exact .inl ((hUm z).mp k)
              · exact .inr ((hDm z).mp k)
            have hz13 : z.length ≤ 12 := by rcases hnb with k | k <;> have := k.len <;> omega
            have hstep : ∀ {Dn : List Tlm.Row}, (∀ y ∈ (Us ++ Ds).take j, y ∈ Dn) → ∀ y ∈ (Us ++ Ds).take (j + 1), y ∈ Dn ++ [z] := fun h y hy => by
              rw [List.take_add_one, hz] at hy
              rcases List.mem_append.mp hy with k | k
              · exact List.mem_append_left _ (h y k)
              · exact List.mem_append_right _ k
            have hfew : (F ++ A.map fun x => (x, n + 1)).length ≤ 4096 := by
              have := rows_few (n := 11) M8.nd fun y hy => by
                rw [lm_keys] at hy
                rcases List.mem_append.mp hy with k | k
                · have := V0.low y k; omega
                · have := (M8.new y k).2; omega
              rw [List.length_map] at this
              exact this
            refine s_when (b := !(valV (Tk a (Fv (F ++ A.map fun x => (x, n + 1)))) (Sum.inr (wd a z))).isSome && decide (((z.length + 1 : Nat) : Int) < 13))
              (et_and (fun H9 e9 Q' q' => ⟨.str (wd a z), rfl, .ref sn, rfl, sn, _, rfl, DGet.k (k := Sum.inr (wd a z)) (e9 _ _ f8), _, rfl, q' H9 (Ex.refl H9)⟩) fun _ => et_is (et_test (ev_op (ev_cb (ea_cons (ev_var rfl) ea_nil) fun H9 e9 Q' q' => ⟨wd a z, rfl, by rw [wd_len]; exact size_small (by omega), q' H9 (Ex.refl H9)⟩) ev_c rv_I0)) (by rw [wd_len])) (fun hb2 H9 e9 => ?_) (fun hb2 H9 e9 => ?_)
            · rw [Bool.and_eq_true] at hb2
              have hnew : z ∉ (F ++ A.map fun x => (x, n + 1)).map (·.1) := fun k => by
                rw [(tk_has ha).mpr (by rw [fv_keys]; exact k)] at hb2
                cases hb2.1
              have hz12 : z.length < 12 := by have := of_decide_eq_true hb2.2; omega
              refine ⟨.int ((n + 1 : Nat) : Int), rfl, .ref sn, rfl, .str (wd a z), rfl, sn, _, rfl, DPut.k (k := Sum.inr (wd a z)) (e9 _ _ f8) (by rw [tk_len]; unfold Fv; rw [List.length_map]; exact size_less (by omega)), ?_⟩
              rw [tk_put ha (by rw [fv_keys]; exact hnew), fv_snoc]
              have hAl : A.length ≤ 4096 := by rw [List.length_append, List.length_map] at hfew; omega
              refine s_app (l := lt) (xs := Wds a A) (by rw [upd_ne nls]; exact e9 _ _ l8) (ev_var rfl) (ev_var rfl) (by rw [wds_len]; omega) fun H10 e10 => ?_
              refine ⟨A ++ [z], Dn ++ [z], some (.str (wd a z)), y11, y12, y13, y14, y15, y16, rfl, Ex.mut ((Ex.mut (e8.trans e9) hsn).trans e10) hltb, ?_, ?_, ?_, ?_, M8.add hxR hnb hz12 hnew, fun w hw y hy => List.mem_append_left _ (d8 w hw y hy), hstep t8⟩
              · rw [upd_ne (fun k => nls k.symm)]; exact e10 _ _ upd_same
              · rw [wds_app]; exact upd_same
              · rw [upd_ne (fun k => nlr k.symm)]; exact e10 _ _ (by rw [upd_ne nrs]; exact e9 _ _ g8)
              · rw [upd_ne ncl]; exact e10 _ _ (by rw [upd_ne ncs]; exact e9 _ _ c8)
            · refine ⟨A, Dn ++ [z], some (.str (wd a z)), y11, y12, y13, y14, y15, y16, rfl, e8.trans e9, e9 _ _ f8, e9 _ _ l8, e9 _ _ g8, e9 _ _ c8, M8.skip fun hz12 => ?_, fun w hw y hy => List.mem_append_left _ (d8 w hw y hy), hstep t8⟩
              have h13 : decide (((z.length + 1 : Nat) : Int) < 13) = true := decide_eq_true (by omega)
              rw [h13, Bool.and_true] at hb2
              have := (tk_has ha).mp (show (valV (Tk a (Fv (F ++ A.map fun x => (x, n + 1)))) (Sum.inr (wd a z))).isSome = true by simpa using hb2)
              rwa [fv_keys] at this
          · rintro σ H8 ⟨A, Dn, y10, y11, y12, y13, y14, y15, y16, rfl, e8, f8, l8, g8, c8, M8, d8, t8⟩
            refine ⟨A, Dn, some (.str (wd a x)), y10, y11, y12, y13, y14, y15, y16, rfl, e8, f8, l8, g8, M8, fun w hw y hy => ?_⟩
            rw [List.take_add_one, hx] at hw
            rcases List.mem_append.mp hw with k | k
            · exact d8 w k y hy
            · have k : w = x := List.mem_singleton.mp k
              subst k
              refine t8 y ?_
              rw [wds_len, List.take_length]
              rcases hy with q | q
              · exact List.mem_append_left _ ((hUm y).mpr q)
              · exact List.mem_append_right _ ((hDm y).mpr q)
        · rintro σ H4 ⟨A, Dn, y9, y10, y11, y12, y13, y14, y15, y16, rfl, e4, f4, l4, g4, M4, d4⟩
          refine s_asg (ev_var rfl) fun H5 e5 => ⟨2 * r0.length - s.length - t.length - (n + 1), by omega, ?_⟩
          rw [hW]
          refine ⟨F ++ A.map fun x => (x, n + 1), A, n + 1, lt, some (.ref lt), y9, y10, y11, y12, y13, y14, y15, y16, rfl, e4.trans e5, e5 _ _ f4, e5 _ _ l4, M4.level V0 fun x hx y hy => d4 x ?_ y hy, rfl⟩
          rw [wds_len, List.take_length]
          exact hx
      · have hk : t ∈ F.map (·.1) := by
          have := (tk_has ha).mp (show (valV (Tk a (Fv F)) (Sum.inr (wd a t))).isSome = true by simpa using hb)
          rwa [fv_keys] at this
        obtain ⟨p', hp', e'⟩ := List.mem_map.mp hk
        exact ⟨F, R, n, p'.2, _, _, y8, y9, y10, y11, y12, y13, y14, y15, y16, rfl, e2 _ _ f1, V0, by rw [← e']; exact hp'⟩
    rintro σ H1 ⟨F, R, n, m, y6, y7, y8, y9, y10, y11, y12, y13, y14, y15, y16, rfl, f1, V0, hm⟩
    have hmd := dist_eq V0 hm hr0 (by omega)
    have hget : valV (Tk a (Fv F)) (Sum.inr (wd a t)) = some (.int (m : Nat)) := tk_get ha (by rw [fv_keys]; exact V0.nd) (fv_mem hm)
    have hdg : ∀ {H' : Hp}, Ex H1 H' → DGet H' sn (.str (wd a t)) (some (.int (m : Nat))) := fun {H'} e => by
      have := DGet.k (H := H') (a := sn) (kvs := Tk a (Fv F)) (k := Sum.inr (wd a t)) (e _ _ f1)
      rw [hget] at this
      exact this
    refine q_when (b := false) (et_is (et_not (a := true) ?_) rfl) (fun z => by cases z) fun _ H2 e2 => ?_
    · intro H2 e2 Q' q'
      refine ⟨.str (wd a s), rfl, .str (wd a t), rfl, a, s, t, rfl, ha, h2, hf.symm, fun r hr H3 e3 => ⟨.ref sn, rfl, .str (wd a t), rfl, sn, .int (m : Nat), rfl, hdg (e2.trans e3), _, _, rfl, fun H4 e4 => ⟨true, ?_, q' H4 (e3.trans e4)⟩⟩⟩
      rw [hleast r hr]
      congr 1
      exact decide_eq_true hmd.symm
    have hmany : ((m : Int) + ((s.length + 1 : Nat) : Int) + ((t.length + 1 : Nat) : Int)) / 2 = ((r0.length + 1 : Nat) : Int) := by omega
    have hws : ∀ (H' : Hp), RC (fun xs H Q => ∃ z, xs = [V.str z] ∧ z.length ≤ sizeLine ∧ Q (.int z.length) H) [.str (wd a s)] H' (.int ((s.length + 1 : Nat) : Int)) := fun H' H'' e Q' q' => ⟨wd a s, rfl, by rw [wd_len]; exact size_small (by omega), by rw [wd_len]; exact q' H'' (Ex.refl _)⟩
    have hwt : ∀ (H' : Hp), RC (fun xs H Q => ∃ z, xs = [V.str z] ∧ z.length ≤ sizeLine ∧ Q (.int z.length) H) [.str (wd a t)] H' (.int ((t.length + 1 : Nat) : Int)) := fun H' H'' e Q' q' => ⟨wd a t, rfl, by rw [wd_len]; exact size_small (by omega), by rw [wd_len]; exact q' H'' (Ex.refl _)⟩
    refine q_asg (v := .int ((r0.length + 1 : Nat) : Int)) (ev_is (ev_op (ev_op (ev_op (fun H3 e3 Q' q' => ⟨.ref sn, rfl, .str (wd a t), rfl, sn, .int (m : Nat), rfl, hdg (e2.trans e3), q' H3 (Ex.refl _)⟩) (ev_cb (ea_cons (ev_var rfl) ea_nil) (hws _)) rv_I0) (ev_cb (ea_cons (ev_var rfl) ea_nil) (hwt _)) rv_I0) ev_c (rv_I ⟨by decide, by decide⟩)) (by rw [hmany])) fun H3 e3 => ?_
    refine q_asgL (xs := Wds a [s]) (el_lst (ea_cons (ev_var rfl) ea_nil) (by show 1 ≤ 100000; decide)) fun rp0 H4 hrp0 e4 h4 => ?_
    refine q_cut (M := fun σ H' => ∃ rp Xs y8 y9 y10 y13 y14 y15 y16, σ = [some (.ref a0), some (.ref l), some (.str (wd a s)), y3, some (.str (wd a t)), some (.ref sn), y6, y7, y8, y9, y10, some (.int ((r0.length + 1 : Nat) : Int)), some (.ref rp), y13, y14, y15, y16] ∧ H' rp = some (.lst (Wds a Xs)) ∧ Xs.Nodup ∧ ∀ x, x ∈ Xs ↔ Ab s x ∧ x.length = r0.length) ?_ ?_
    · refine s_forR1 (n := ((r0.length - s.length : Nat) : Int)) (ea_cons (ev_is (ev_op (ev_var rfl) (ev_cb (ea_cons (ev_var rfl) ea_nil) (hws _)) rv_I0) (by congr 1; omega)) ea_nil) ⟨by omega, by omega⟩
        (fun k σ H' => ∃ rp Xs y8 y9 y10 y13 y14 y15 y16, σ = [some (.ref a0), some (.ref l), some (.str (wd a s)), y3, some (.str (wd a t)), some (.ref sn), y6, y7, y8, y9, y10, some (.int ((r0.length + 1 : Nat) : Int)), some (.ref rp), y13, y14, y15, y16] ∧ H' rp = some (.lst (Wds a Xs)) ∧ Xs.Nodup ∧ ∀ x, x ∈ Xs ↔ Ab s x ∧ x.length = s.length + k)
        (fun H5 e5 => ⟨rp0, [s], y8, y9, y10, y13, y14, y15, y16, rfl, e5 _ _ h4, by simp, fun x => ?_⟩) ?_ ?_
      · rw [List.mem_singleton]
        constructor
        · rintro rfl; exact ⟨.refl _, rfl⟩
        · rintro ⟨k1, k2⟩; exact (k1.eq_of_len (by omega)).symm
      · rintro k σ H5 hk ⟨rp, Xs, y8, y9, y10, y13, y14, y15, y16, rfl, h5, hXn, hXm⟩
        have hX7 : ∀ x ∈ Xs, x.length ≤ 7 := fun x hx => by have := ((hXm x).mp hx).2; omega
        refine fun ld hld => ?_
        have nlr : ld ≠ rp := fun z => by subst z; rw [h5] at hld; cases hld
        have h6 := Ex.new hld (o := .dK []) _ _ h5
        have d6 : (upd H5 ld (.dK [])) ld = some (.dK (Tk a (Bt []))) := upd_same
        revert h6 d6
        generalize upd H5 ld (.dK []) = H6
        intro h6 d6
        refine q_forLn (ev_var rfl) (sq_of h6) (fun i σ H' => ∃ G y9 y10, σ = [some (.ref a0), some (.ref l), some (.str (wd a s)), y3, some (.str (wd a t)), some (.ref sn), y6, y7, some (.ref ld), y9, y10, some (.int ((r0.length + 1 : Nat) : Int)), some (.ref rp), some (.int (k : Nat)), y14, y15, y16] ∧ H' rp = some (.lst (Wds a Xs)) ∧ H' ld = some (.dK (Tk a (Bt G))) ∧ G.Nodup ∧ ∀ y, y ∈ G ↔ ∃ x ∈ Xs.take i, Up x y)
          (fun H7 e7 => ⟨[], y9, y10, rfl, e7 _ _ h6, e7 _ _ d6, List.nodup_nil, fun y => by simp⟩) (fun i σ H' _ p => by obtain ⟨G, y9, y10, rfl, h, _⟩ := p; exact sq_of h) ?_ ?_
        · rintro i v σ H7 hi ⟨G, y9, y10, rfl, h7, d7, hGn, hGm⟩
          obtain ⟨x, hx, rfl⟩ := wds_get hi
          have hx7 := hX7 x (List.mem_of_getElem? hx)
          refine ⟨.str (wd a x), rfl, a, x, rfl, ha, by omega, fun lu H8 Us hlu e8 hUn hUm h8 => ⟨lu, rfl, ⟨Wds a Us, sq_of h8⟩, ?_⟩⟩
          have nud : lu ≠ ld := fun z => by subst z; rw [d7] at hlu; cases hlu
          refine for_list (fun j σ H' => ∃ G y10, σ = [some (.ref a0), some (.ref l), some (.str (wd a s)), y3, some (.str (wd a t)), some (.ref sn), y6, y7, some (.ref ld), some (.str (wd a x)), y10, some (.int ((r0.length + 1 : Nat) : Int)), some (.ref rp), some (.int (k : Nat)), y14, y15, y16] ∧ H' rp = some (.lst (Wds a Xs)) ∧ H' lu = some (.lst (Wds a Us)) ∧ H' ld = some (.dK (Tk a (Bt G))) ∧ G.Nodup ∧ ∀ y, y ∈ G ↔ (∃ x ∈ Xs.take i, Up x y) ∨ y ∈ Us.take j)
            ⟨G, y10, rfl, e8 _ _ h7, h8, e8 _ _ d7, hGn, fun y => by rw [hGm]; simp⟩ (fun j σ H' _ p => by obtain ⟨G, y10, rfl, _, h, _⟩ := p; exact sq_of h) ?_ ?_
          · rintro j v σ H9 hj ⟨G, y10, rfl, h9, u9, d9, hGn, hGm⟩
            obtain ⟨z, hz, rfl⟩ := wds_get hj
            have hGl : G.length ≤ 2 ^ 9 := rows_few (n := 8) hGn fun y hy => by
              rcases (hGm y).mp hy with ⟨w, hw, hu⟩ | hw
              · have := hX7 w (List.mem_of_mem_take hw); have := hu.len; omega
              · have := ((hUm y).mp (List.mem_of_mem_take hw)).len; omega
            obtain ⟨G', hG1, hG2, hG3, hG4⟩ := bt_put ha (G := G) (y := z)
            refine ⟨.ref ld, rfl, .str (wd a z), rfl, ld, _, rfl, DPut.k (k := Sum.inr (wd a z)) d9 (by rw [tk_len]; unfold Bt; rw [List.length_map]; exact size_less (by omega)), ?_⟩
            rw [hG1]
            refine ⟨G', some (.str (wd a z)), rfl, by rw [upd_ne (fun k => nlr k.symm)]; exact h9, by rw [upd_ne nud]; exact u9, upd_same, hG2 hGn, fun y => ?_⟩
            rw [hG4, hGm, List.take_add_one, hz]
            simp [or_assoc]
          · rintro σ H9 ⟨G, y10, rfl, h9, u9, d9, hGn, hGm⟩
            refine ⟨G, some (.str (wd a x)), y10, rfl, h9, d9, hGn, fun y => ?_⟩
            rw [hGm, wds_len, List.take_length, List.take_add_one, hx, hUm]
            constructor
            · rintro (⟨w, hw, q⟩ | q)
              · exact ⟨w, List.mem_append_left _ hw, q⟩
              · exact ⟨x, List.mem_append_right _ (List.mem_singleton.mpr rfl), q⟩
            · rintro ⟨w, hw, q⟩
              rcases List.mem_append.mp hw with hw | hw
              · exact .inl ⟨w, hw, q⟩
              · exact .inr (List.mem_singleton.mp hw ▸ q)
        · rintro σ H7 ⟨G, y9, y10, rfl, h7, d7, hGn, hGm⟩
          refine ⟨.ref ld, rfl, ld, _, rfl, d7, fun rq hrq => ?_⟩
          rw [tk_kV]
          refine ⟨rq, G, some (.ref ld), y9, y10, some (.int (k : Nat)), y14, y15, y16, rfl, upd_same, hGn, fun y => ?_⟩
          rw [hGm, wds_len, List.take_length]
          constructor
          · rintro ⟨x, hx, q⟩
            obtain ⟨k1, k2⟩ := (hXm x).mp hx
            exact ⟨.step k1 q, by rw [q.len, k2]; rfl⟩
          · rintro ⟨k1, k2⟩
            cases k1 with
            | refl => omega
            | step q1 q2 => exact ⟨_, (hXm _).mpr ⟨q1, by have := q2.len; omega⟩, q2⟩
      · rintro σ H5 ⟨rp, Xs, y8, y9, y10, y13, y14, y15, y16, rfl, h5, hXn, hXm⟩
        refine ⟨rp, Xs, y8, y9, y10, y13, y14, y15, y16, rfl, h5, hXn, fun x => ?_⟩
        rw [hXm, show s.length + ((r0.length - s.length : Nat) : Int).toNat = r0.length by omega]
    rintro σ H5 ⟨rp, Xs, y8, y9, y10, y13, y14, y15, y16, rfl, h5, hXn, hXm⟩
    have hX7 : ∀ x ∈ Xs, x.length ≤ 7 := fun x hx => by have := ((hXm x).mp hx).2; omega
    have hXl : Xs.length ≤ 2 ^ 8 := rows_few (n := 7) hXn hX7
    have hXlen : ∀ {H' : Hp}, Ex H5 H' → RC (fun xs H Q => ∃ p ys, xs = [V.ref p] ∧ (SqL K H p ys ∨ SqT K H p ys) ∧ Q (.int ys.length) H) [.ref rp] H' (.int (Xs.length : Nat)) := fun {H'} e H'' e' Q' q' => ⟨rp, Wds a Xs, rfl, .inl (sq_of (e' _ _ (e _ _ h5))), by rw [wds_len]; exact q' H'' (Ex.refl _)⟩
    have hX400 : decide (((Xs.length : Nat) : Int) < 400) = true := decide_eq_true (by omega)
    obtain ⟨pe, hpe⟩ : ∃ pe : Tlm.Row → Bool, ∀ x, pe x = true ↔ Ab t x := ⟨fun x => @decide (Ab t x) (Classical.propDecidable _), fun x => @decide_eq_true_iff _ (Classical.propDecidable _)⟩
    refine q_cut (M := fun σ H' => ∃ ep y15 y16, σ = [some (.ref a0), some (.ref l), some (.str (wd a s)), y3, some (.str (wd a t)), some (.ref sn), y6, y7, y8, y9, y10, some (.int ((r0.length + 1 : Nat) : Int)), some (.ref rp), y13, some (.ref ep), y15, y16] ∧ H' rp = some (.lst (Wds a Xs)) ∧ H' ep = some (.lst (Wds a (Xs.filter pe)))) ?_ ?_
    · refine s_asgL (xs := Wds a (Xs.filter pe)) (el_if (b := true) (et_is (et_test (ev_op (ev_cb (ea_cons (ev_var rfl) ea_nil) (hXlen (Ex.refl _))) ev_c rv_I0)) hX400) (fun _ => ?_) (fun z => by cases z)) fun ep H6 hep e6 h6 => ⟨ep, y15, y16, rfl, e6 _ _ h5, h6⟩
      have e : Wds a (Xs.filter pe) = given (Wds a Xs).length (fun i => (Xs[i]?).elim false pe) (fun i => (Xs[i]?).elim .non fun x => .str (wd a x)) := by
        rw [wds_len, given_filter]
        rfl
      rw [e]
      refine el_lcL (xs := Wds a Xs) (fun i => (Xs[i]?).elim false pe) (fun i => (Xs[i]?).elim .non fun x => .str (wd a x)) (ev_var rfl) (sq_of h5) (by rw [wds_len]; omega) (fun x => rfl) (fun i v H1 e1 hv => ?_) (fun i v H1 e1 hv _ => ?_)
      · obtain ⟨x, hx, rfl⟩ := wds_get hv
        rw [hx]
        exact et_test (ev_inB ha rfl rfl (hX7 x (List.mem_of_getElem? hx)) (hpe x))
      · obtain ⟨x, hx, rfl⟩ := wds_get hv
        rw [hx]
        exact ev_var rfl
    rintro σ H6 ⟨ep, y15, y16, rfl, h6, hE6⟩
    refine ⟨.str (wd a s), rfl, .str (wd a t), rfl, a, s, t, rfl, ha, h2, hf.symm, fun r hr H7 e7 => ?_⟩
    have hrl := hleast r hr
    have hwr : ∀ (H' : Hp), RC (fun xs H Q => ∃ z, xs = [V.str z] ∧ z.length ≤ sizeLine ∧ Q (.int z.length) H) [.str (wd a r)] H' (.int ((r0.length + 1 : Nat) : Int)) := fun H' H'' e Q' q' => ⟨wd a r, rfl, by rw [wd_len]; exact size_small (by omega), by rw [wd_len, hrl]; exact q' H'' (Ex.refl _)⟩
    have hrX : r ∈ Xs.filter pe := List.mem_filter.mpr ⟨(hXm r).mpr ⟨hr.1, hrl⟩, (hpe r).mpr hr.2.1⟩
    have hEm : ∀ x, x ∈ Xs.filter pe ↔ x.length = r0.length ∧ Ab s x ∧ Ab t x := fun x => by
      rw [List.mem_filter, hXm, hpe]
      exact ⟨fun z => ⟨z.1.2, z.1.1, z.2⟩, fun z => ⟨⟨z.2.1, z.1⟩, z.2.2⟩⟩
    refine q_when (b := false) (et_is (et_or (a := false) (b := true && (false || !true)) (et_is (et_test (ev_op (ev_cb (ea_cons (ev_var rfl) ea_nil) (hwr _)) (ev_var rfl) (rv_ne rfl))) (by simp)) fun _ => et_and (a := true) (et_is (et_test (ev_op (ev_cb (ea_cons (ev_var rfl) ea_nil) (fun H' e' Q' q' => ⟨rp, Wds a Xs, rfl, .inl (sq_of (e' _ _ (e7 _ _ h6))), by rw [wds_len]; exact q' H' (Ex.refl _)⟩)) ev_c rv_I0)) hX400)
      fun _ => et_or (a := false) (b := !true) (et_is (et_test (ev_op (ev_var rfl) (ev_var rfl) (rv_niL (sq_of (e7 _ _ hE6)) rfl (wds_flat _)))) ?_) fun _ => et_not (a := true) ?_) rfl) (fun z => by cases z) fun _ H8 e8 => ?_
    · rw [(inV_wds ha).mpr hrX]
      rfl
    · intro H8 e8 Q' q'
      refine ⟨.str (wd a s), rfl, .str (wd a t), rfl, a, s, t, rfl, ha, h2, hf.symm, fun r' hr' => by rw [hleast r' hr']; omega, fun r' n' p H9 hr' hn' hp e9 h9 => ?_⟩
      have hnn : n' = (Xs.filter pe).length := hn' (Xs.filter pe) (hXn.filter _) (fun x => by rw [hEm, hleast r' hr'])
      rw [hleast r' hr'] at h9
      have hE9 := e9 _ _ (e8 _ _ (e7 _ _ hE6))
      refine ⟨.int ((r0.length + 1 : Nat) : Int), rfl, .ref ep, rfl, ep, Wds a (Xs.filter pe), rfl, .inl (sq_of hE9), by show 2 ≤ sizeLine; decide, fun q2 hq2 => ?_⟩
      rw [wds_len, ← hnn]
      exact ⟨p, q2, ((r0.length + 1 : Nat) : Int), (n' : Nat), rfl, Ex.new hq2 _ _ h9, upd_same, fun H10 e10 => ⟨true, rfl, q' H10 ((e9.trans (Ex.new hq2)).trans e10)⟩⟩
    · refine s_ret (v := .bl (true && true)) (ev_andV (ev_inB ha rfl rfl (by omega) ⟨fun _ => hr.1, fun _ => rfl⟩) fun _ => ev_inB ha rfl rfl (by omega) ⟨fun _ => hr.2.1, fun _ => rfl⟩) fun H9 e9 => qq H9
end
end TW

set_option Elab.async false
set_option linter.all false
set_option maxRecDepth 100000
set_option maxHeartbeats 4000000
/-! The end (printed by gen_end.py): what the module's top has written, and the law's head. -/
namespace TW
open PySem
open PySem.Spec PyProof.Rows L2 Evl Tlm
theorem all_mk {l : PySem.W.OpenLaw} {w : World} {K : PySem.W.Frag} {h : Heap} {mg : Str → Option Value} {fa f1 f2 f3 f4 f5 f6 f7 f8 f9 f10 f11 f12 f13 f14 f15 f16 f17 f18 f19 f20 f21 f22 f23 f24 f25 f26 f27 f28 f29 f30 : Addr} (X : K.In h) (G : h.Ns mainGlobals mg) (hfa : mg "law" = some (.ref fa))
    {od1 an1 od2 an2 od3 an3 od4 an4 od5 an5 od6 an6 od7 an7 od8 an8 od9 an9 od10 an10 od11 an11 od12 an12 od13 an13 od14 an14 od15 an15 od16 an16 od17 an17 od18 an18 od19 an19 od20 an20 od21 an21 od22 an22 od23 an23 od24 an24 od25 an25 od26 an26 od27 an27 od28 an28 od29 an29 od30 an30 : Option Addr} {sl1 sl2 sl3 sl4 sl5 sl6 sl7 sl8 sl9 sl10 sl11 sl12 sl13 sl14 sl15 sl16 sl17 sl18 sl19 sl20 sl21 sl22 sl23 sl24 sl25 sl26 sl27 sl28 sl29 sl30 : Array (Option Value)} {oc1 kV1 dc1 pm1 cd1 ct1 oc2 kV2 dc2 pm2 cd2 ct2 oc3 kV3 dc3 pm3 cd3 ct3 oc4 kV4 dc4 pm4 cd4 ct4 oc5 kV5 dc5 pm5 cd5 ct5 oc6 kV6 dc6 pm6 cd6 ct6 oc7 kV7 dc7 pm7 cd7 ct7 oc8 kV8 dc8 pm8 cd8 ct8 oc9 kV9 dc9 pm9 cd9 ct9 oc10 kV10 dc10 pm10 cd10 ct10 oc11 kV11 dc11 pm11 cd11 ct11 oc12 kV12 dc12 pm12 cd12 ct12 oc13 kV13 dc13 pm13 cd13 ct13 oc14 kV14 dc14 pm14 cd14 ct14 oc15 kV15 dc15 pm15 cd15 ct15 oc16 kV16 dc16 pm16 cd16 ct16 oc17 kV17 dc17 pm17 cd17 ct17 oc18 kV18 dc18 pm18 cd18 ct18 oc19 kV19 dc19 pm19 cd19 ct19 oc20 kV20 dc20 pm20 cd20 ct20 oc21 kV21 dc21 pm21 cd21 ct21 oc22 kV22 dc22 pm22 cd22 ct22 oc23 kV23 dc23 pm23 cd23 ct23 oc24 kV24 dc24 pm24 cd24 ct24 oc25 kV25 dc25 pm25 cd25 ct25 oc26 kV26 dc26 pm26 cd26 ct26 oc27 kV27 dc27 pm27 cd27 ct27 oc28 kV28 dc28 pm28 cd28 ct28 oc29 kV29 dc29 pm29 cd29 ct29 oc30 kV30 dc30 pm30 cd30 ct30 : Value} {tL t1 t2 : Tok}
    (a1 : PySem.W.nsIn K mainGlobals "need_word" = some (some (.ref f1))) (l1 : K.lookup f1 = some ⟨oc1, od1, .func (PySem.W.fnOf "need_word" "need_word" (defArgs sNeedWord) (defBody sNeedWord) (defScope sNeedWord) .none kV1 dc1 pm1 an1 cd1 ct1), sl1⟩) (c1 : PySem.W.codeIn K cd1 "need_word" = true) (k1 : PySem.W.keepIn K (.ref f1) = true)
    (a2 : PySem.W.nsIn K mainGlobals "need_short" = some (some (.ref f2))) (l2 : K.lookup f2 = some ⟨oc2, od2, .func (PySem.W.fnOf "need_short" "need_short" (defArgs sNeedShort) (defBody sNeedShort) (defScope sNeedShort) .none kV2 dc2 pm2 an2 cd2 ct2), sl2⟩) (c2 : PySem.W.codeIn K cd2 "need_short" = true) (k2 : PySem.W.keepIn K (.ref f2) = true)
    (a3 : PySem.W.nsIn K mainGlobals "need_limited" = some (some (.ref f3))) (l3 : K.lookup f3 = some ⟨oc3, od3, .func (PySem.W.fnOf "need_limited" "need_limited" (defArgs sNeedLimited) (defBody sNeedLimited) (defScope sNeedLimited) .none kV3 dc3 pm3 an3 cd3 ct3), sl3⟩) (c3 : PySem.W.codeIn K cd3 "need_limited" = true) (k3 : PySem.W.keepIn K (.ref f3) = true)
    (a4 : PySem.W.nsIn K mainGlobals "need_ends" = some (some (.ref f4))) (l4 : K.lookup f4 = some ⟨oc4, od4, .func (PySem.W.fnOf "need_ends" "need_ends" (defArgs sNeedEnds) (defBody sNeedEnds) (defScope sNeedEnds) .none kV4 dc4 pm4 an4 cd4 ct4), sl4⟩) (c4 : PySem.W.codeIn K cd4 "need_ends" = true) (k4 : PySem.W.keepIn K (.ref f4) = true)
    (a5 : PySem.W.nsIn K mainGlobals "steps_of" = some (some (.ref f5))) (l5 : K.lookup f5 = some ⟨oc5, od5, .func (PySem.W.fnOf "steps_of" "steps_of" (defArgs sStepsOf) (defBody sStepsOf) (defScope sStepsOf) .none kV5 dc5 pm5 an5 cd5 ct5), sl5⟩) (c5 : PySem.W.codeIn K cd5 "steps_of" = true) (k5 : PySem.W.keepIn K (.ref f5) = true)
    (a6 : PySem.W.nsIn K mainGlobals "word_of" = some (some (.ref f6))) (l6 : K.lookup f6 = some ⟨oc6, od6, .func (PySem.W.fnOf "word_of" "word_of" (defArgs sWordOf) (defBody sWordOf) (defScope sWordOf) .none kV6 dc6 pm6 an6 cd6 ct6), sl6⟩) (c6 : PySem.W.codeIn K cd6 "word_of" = true) (k6 : PySem.W.keepIn K (.ref f6) = true)
    (a7 : PySem.W.nsIn K mainGlobals "need_pair" = some (some (.ref f7))) (l7 : K.lookup f7 = some ⟨oc7, od7, .func (PySem.W.fnOf "need_pair" "need_pair" (defArgs sNeedPair) (defBody sNeedPair) (defScope sNeedPair) .none kV7 dc7 pm7 an7 cd7 ct7), sl7⟩) (c7 : PySem.W.codeIn K cd7 "need_pair" = true) (k7 : PySem.W.keepIn K (.ref f7) = true)
    (a8 : PySem.W.nsIn K mainGlobals "moves_on" = some (some (.ref f8))) (l8 : K.lookup f8 = some ⟨oc8, od8, .func (PySem.W.fnOf "moves_on" "moves_on" (defArgs sMovesOn) (defBody sMovesOn) (defScope sMovesOn) .none kV8 dc8 pm8 an8 cd8 ct8), sl8⟩) (c8 : PySem.W.codeIn K cd8 "moves_on" = true) (k8 : PySem.W.keepIn K (.ref f8) = true)
    (a9 : PySem.W.nsIn K mainGlobals "sums_of" = some (some (.ref f9))) (l9 : K.lookup f9 = some ⟨oc9, od9, .func (PySem.W.fnOf "sums_of" "sums_of" (defArgs sSumsOf) (defBody sSumsOf) (defScope sSumsOf) .none kV9 dc9 pm9 an9 cd9 ct9), sl9⟩) (c9 : PySem.W.codeIn K cd9 "sums_of" = true) (k9 : PySem.W.keepIn K (.ref f9) = true)
    (a10 : PySem.W.nsIn K mainGlobals "least_steps" = some (some (.ref f10))) (l10 : K.lookup f10 = some ⟨oc10, od10, .func (PySem.W.fnOf "least_steps" "least_steps" (defArgs sLeastSteps) (defBody sLeastSteps) (defScope sLeastSteps) .none kV10 dc10 pm10 an10 cd10 ct10), sl10⟩) (c10 : PySem.W.codeIn K cd10 "least_steps" = true) (k10 : PySem.W.keepIn K (.ref f10) = true)
    (a11 : PySem.W.nsIn K mainGlobals "back_from" = some (some (.ref f11))) (l11 : K.lookup f11 = some ⟨oc11, od11, .func (PySem.W.fnOf "back_from" "back_from" (defArgs sBackFrom) (defBody sBackFrom) (defScope sBackFrom) .none kV11 dc11 pm11 an11 cd11 ct11), sl11⟩) (c11 : PySem.W.codeIn K cd11 "back_from" = true) (k11 : PySem.W.keepIn K (.ref f11) = true)
    (a12 : PySem.W.nsIn K mainGlobals "common_of" = some (some (.ref f12))) (l12 : K.lookup f12 = some ⟨oc12, od12, .func (PySem.W.fnOf "common_of" "common_of" (defArgs sCommonOf) (defBody sCommonOf) (defScope sCommonOf) .none kV12 dc12 pm12 an12 cd12 ct12), sl12⟩) (c12 : PySem.W.codeIn K cd12 "common_of" = true) (k12 : PySem.W.keepIn K (.ref f12) = true)
    (a13 : PySem.W.nsIn K mainGlobals "distance_of" = some (some (.ref f13))) (l13 : K.lookup f13 = some ⟨oc13, od13, .func (PySem.W.fnOf "distance_of" "distance_of" (defArgs sDistanceOf) (defBody sDistanceOf) (defScope sDistanceOf) .none kV13 dc13 pm13 an13 cd13 ct13), sl13⟩) (c13 : PySem.W.codeIn K cd13 "distance_of" = true) (k13 : PySem.W.keepIn K (.ref f13) = true)
    (a14 : PySem.W.nsIn K mainGlobals "distance" = some (some (.ref f14))) (l14 : K.lookup f14 = some ⟨oc14, od14, .func (PySem.W.fnOf "distance" "distance" (defArgs sDistance) (defBody sDistance) (defScope sDistance) .none kV14 dc14 pm14 an14 cd14 ct14), sl14⟩) (c14 : PySem.W.codeIn K cd14 "distance" = true) (k14 : PySem.W.keepIn K (.ref f14) = true)
    (a15 : PySem.W.nsIn K mainGlobals "least_common" = some (some (.ref f15))) (l15 : K.lookup f15 = some ⟨oc15, od15, .func (PySem.W.fnOf "least_common" "least_common" (defArgs sLeastCommon) (defBody sLeastCommon) (defScope sLeastCommon) .none kV15 dc15 pm15 an15 cd15 ct15), sl15⟩) (c15 : PySem.W.codeIn K cd15 "least_common" = true) (k15 : PySem.W.keepIn K (.ref f15) = true)
    (a16 : PySem.W.nsIn K mainGlobals "tops" = some (some (.ref f16))) (l16 : K.lookup f16 = some ⟨oc16, od16, .func (PySem.W.fnOf "tops" "tops" (defArgs sTops) (defBody sTops) (defScope sTops) .none kV16 dc16 pm16 an16 cd16 ct16), sl16⟩) (c16 : PySem.W.codeIn K cd16 "tops" = true) (k16 : PySem.W.keepIn K (.ref f16) = true)
    (a17 : PySem.W.nsIn K mainGlobals "tops_of" = some (some (.ref f17))) (l17 : K.lookup f17 = some ⟨oc17, od17, .func (PySem.W.fnOf "tops_of" "tops_of" (defArgs sTopsOf) (defBody sTopsOf) (defScope sTopsOf) .none kV17 dc17 pm17 an17 cd17 ct17), sl17⟩) (c17 : PySem.W.codeIn K cd17 "tops_of" = true) (k17 : PySem.W.keepIn K (.ref f17) = true)
    (a18 : PySem.W.nsIn K mainGlobals "_law_taken" = some (some (.ref f18))) (l18 : K.lookup f18 = some ⟨oc18, od18, .func (PySem.W.fnOf "_law_taken" "_law_taken" (defArgs sLawTaken) (defBody sLawTaken) (defScope sLawTaken) .none kV18 dc18 pm18 an18 cd18 ct18), sl18⟩) (c18 : PySem.W.codeIn K cd18 "_law_taken" = true) (k18 : PySem.W.keepIn K (.ref f18) = true)
    (a19 : PySem.W.nsIn K mainGlobals "_law_pick" = some (some (.ref f19))) (l19 : K.lookup f19 = some ⟨oc19, od19, .func (PySem.W.fnOf "_law_pick" "_law_pick" (defArgs sLawPick) (defBody sLawPick) (defScope sLawPick) .none kV19 dc19 pm19 an19 cd19 ct19), sl19⟩) (c19 : PySem.W.codeIn K cd19 "_law_pick" = true) (k19 : PySem.W.keepIn K (.ref f19) = true)
    (a20 : PySem.W.nsIn K mainGlobals "_law_alike" = some (some (.ref f20))) (l20 : K.lookup f20 = some ⟨oc20, od20, .func (PySem.W.fnOf "_law_alike" "_law_alike" (defArgs sLawAlike) (defBody sLawAlike) (defScope sLawAlike) .none kV20 dc20 pm20 an20 cd20 ct20), sl20⟩) (c20 : PySem.W.codeIn K cd20 "_law_alike" = true) (k20 : PySem.W.keepIn K (.ref f20) = true)
    (a21 : PySem.W.nsIn K mainGlobals "_law_word" = some (some (.ref f21))) (l21 : K.lookup f21 = some ⟨oc21, od21, .func (PySem.W.fnOf "_law_word" "_law_word" (defArgs sLawWord) (defBody sLawWord) (defScope sLawWord) .none kV21 dc21 pm21 an21 cd21 ct21), sl21⟩) (c21 : PySem.W.codeIn K cd21 "_law_word" = true) (k21 : PySem.W.keepIn K (.ref f21) = true)
    (a22 : PySem.W.nsIn K mainGlobals "_law_any" = some (some (.ref f22))) (l22 : K.lookup f22 = some ⟨oc22, od22, .func (PySem.W.fnOf "_law_any" "_law_any" (defArgs sLawAny) (defBody sLawAny) (defScope sLawAny) .none kV22 dc22 pm22 an22 cd22 ct22), sl22⟩) (c22 : PySem.W.codeIn K cd22 "_law_any" = true) (k22 : PySem.W.keepIn K (.ref f22) = true)
    (a23 : PySem.W.nsIn K mainGlobals "_law_put" = some (some (.ref f23))) (l23 : K.lookup f23 = some ⟨oc23, od23, .func (PySem.W.fnOf "_law_put" "_law_put" (defArgs sLawPut) (defBody sLawPut) (defScope sLawPut) .none kV23 dc23 pm23 an23 cd23 ct23), sl23⟩) (c23 : PySem.W.codeIn K cd23 "_law_put" = true) (k23 : PySem.W.keepIn K (.ref f23) = true)
    (a24 : PySem.W.nsIn K mainGlobals "_law_open" = some (some (.ref f24))) (l24 : K.lookup f24 = some ⟨oc24, od24, .func (PySem.W.fnOf "_law_open" "_law_open" (defArgs sLawOpen) (defBody sLawOpen) (defScope sLawOpen) .none kV24 dc24 pm24 an24 cd24 ct24), sl24⟩) (c24 : PySem.W.codeIn K cd24 "_law_open" = true) (k24 : PySem.W.keepIn K (.ref f24) = true)
    (a25 : PySem.W.nsIn K mainGlobals "_law_without" = some (some (.ref f25))) (l25 : K.lookup f25 = some ⟨oc25, od25, .func (PySem.W.fnOf "_law_without" "_law_without" (defArgs sLawWithout) (defBody sLawWithout) (defScope sLawWithout) .none kV25 dc25 pm25 an25 cd25 ct25), sl25⟩) (c25 : PySem.W.codeIn K cd25 "_law_without" = true) (k25 : PySem.W.keepIn K (.ref f25) = true)
    (a26 : PySem.W.nsIn K mainGlobals "_law_downs" = some (some (.ref f26))) (l26 : K.lookup f26 = some ⟨oc26, od26, .func (PySem.W.fnOf "_law_downs" "_law_downs" (defArgs sLawDowns) (defBody sLawDowns) (defScope sLawDowns) .none kV26 dc26 pm26 an26 cd26 ct26), sl26⟩) (c26 : PySem.W.codeIn K cd26 "_law_downs" = true) (k26 : PySem.W.keepIn K (.ref f26) = true)
    (a27 : PySem.W.nsIn K mainGlobals "_law_ups" = some (some (.ref f27))) (l27 : K.lookup f27 = some ⟨oc27, od27, .func (PySem.W.fnOf "_law_ups" "_law_ups" (defArgs sLawUps) (defBody sLawUps) (defScope sLawUps) .none kV27 dc27 pm27 an27 cd27 ct27), sl27⟩) (c27 : PySem.W.codeIn K cd27 "_law_ups" = true) (k27 : PySem.W.keepIn K (.ref f27) = true)
    (a28 : PySem.W.nsIn K mainGlobals "_law_below" = some (some (.ref f28))) (l28 : K.lookup f28 = some ⟨oc28, od28, .func (PySem.W.fnOf "_law_below" "_law_below" (defArgs sLawBelow) (defBody sLawBelow) (defScope sLawBelow) .none kV28 dc28 pm28 an28 cd28 ct28), sl28⟩) (c28 : PySem.W.codeIn K cd28 "_law_below" = true) (k28 : PySem.W.keepIn K (.ref f28) = true)
    (a29 : PySem.W.nsIn K mainGlobals "_law_words" = some (some (.ref f29))) (l29 : K.lookup f29 = some ⟨oc29, od29, .func (PySem.W.fnOf "_law_words" "_law_words" (defArgs sLawWords) (defBody sLawWords) (defScope sLawWords) .none kV29 dc29 pm29 an29 cd29 ct29), sl29⟩) (c29 : PySem.W.codeIn K cd29 "_law_words" = true) (k29 : PySem.W.keepIn K (.ref f29) = true)
    (a30 : PySem.W.nsIn K mainGlobals "law" = some (some (.ref f30))) (l30 : K.lookup f30 = some ⟨oc30, od30, .func (PySem.W.fnOf "law" "law" (defArgs sLaw) (defBody sLaw) (defScope sLaw) .none kV30 dc30 pm30 an30 cd30 ct30), sl30⟩) (c30 : PySem.W.codeIn K cd30 "law" = true) (k30 : PySem.W.keepIn K (.ref f30) = true)
    (z0 : PySem.W.nsIn K mainGlobals "isinstance" = some none)
    (z1 : PySem.W.nsIn K mainGlobals "str" = some none)
    (z2 : PySem.W.nsIn K mainGlobals "len" = some none)
    (z3 : PySem.W.nsIn K mainGlobals "enumerate" = some none)
    (z4 : PySem.W.nsIn K mainGlobals "max" = some none)
    (z5 : PySem.W.nsIn K mainGlobals "zip" = some none)
    (z6 : PySem.W.nsIn K mainGlobals "range" = some none)
    (z7 : PySem.W.nsIn K mainGlobals "int" = some none)
    (z8 : PySem.W.nsIn K mainGlobals "bool" = some none)
    (z9 : PySem.W.nsIn K mainGlobals "tuple" = some none)
    (z10 : PySem.W.nsIn K mainGlobals "list" = some none)
    (z11 : PySem.W.nsIn K mainGlobals "set" = some none)
    (z12 : PySem.W.nsIn K mainGlobals "sorted" = some none)
    (gL : PySem.W.nsIn K mainGlobals "LETTERS" = some (some (.str "abc" tL))) (g1 : PySem.W.nsIn K mainGlobals "MOST_LETTERS_words" = some (some (.int 200 t1))) (g2 : PySem.W.nsIn K mainGlobals "MOST_LETTERS_distances" = some (some (.int 40 t2))) :
    ∃ fd : FuncData, (∀ (s : Shared) (v : Value), BindsTo s fd ⟨[v], []⟩ [("_law_script", v)]) ∧ ∀ base : Heap, K.In base → base.Ns mainGlobals mg → FnOk l.prog w K mg base CX0 6 fa fd ["_law_script"] (spLaw K) := by
  have e := hfa.symm.trans (PySem.W.mg_of X G a30)
  cases e
  have T : Txt mg := ⟨PySem.W.mg_none_of X G z0, PySem.W.mg_none_of X G z1, PySem.W.mg_none_of X G z2, PySem.W.mg_none_of X G z3, PySem.W.mg_none_of X G z4, PySem.W.mg_none_of X G z5, PySem.W.mg_none_of X G z6, PySem.W.mg_none_of X G z7, PySem.W.mg_none_of X G z8, PySem.W.mg_none_of X G z9, PySem.W.mg_none_of X G z10, PySem.W.mg_none_of X G z11, PySem.W.mg_none_of X G z12, ⟨tL, PySem.W.mg_of X G gL⟩, ⟨t1, PySem.W.mg_of X G g1⟩, ⟨t2, PySem.W.mg_of X G g2⟩⟩
  have F1 := fun_mk (st := sNeedWord) l1 c1 k1
  have D1 : Dfn K mg "need_word" sNeedWord ["value"] f1 (PySem.W.fnOf "need_word" "need_word" (defArgs sNeedWord) (defBody sNeedWord) (defScope sNeedWord) .none kV1 dc1 pm1 an1 cd1 ct1) := ⟨F1, PySem.W.mg_of X G a1, F1.binds (ps := ["value"]) fun _ _ _ _ _ _ us hl => match us, hl with | [_], _ => rfl⟩
  have F2 := fun_mk (st := sNeedShort) l2 c2 k2
  have D2 : Dfn K mg "need_short" sNeedShort ["words", "most"] f2 (PySem.W.fnOf "need_short" "need_short" (defArgs sNeedShort) (defBody sNeedShort) (defScope sNeedShort) .none kV2 dc2 pm2 an2 cd2 ct2) := ⟨F2, PySem.W.mg_of X G a2, F2.binds (ps := ["words", "most"]) fun _ _ _ _ _ _ us hl => match us, hl with | [_, _], _ => rfl⟩
  have F3 := fun_mk (st := sNeedLimited) l3 c3 k3
  have D3 : Dfn K mg "need_limited" sNeedLimited ["word", "most"] f3 (PySem.W.fnOf "need_limited" "need_limited" (defArgs sNeedLimited) (defBody sNeedLimited) (defScope sNeedLimited) .none kV3 dc3 pm3 an3 cd3 ct3) := ⟨F3, PySem.W.mg_of X G a3, F3.binds (ps := ["word", "most"]) fun _ _ _ _ _ _ us hl => match us, hl with | [_, _], _ => rfl⟩
  have F4 := fun_mk (st := sNeedEnds) l4 c4 k4
  have D4 : Dfn K mg "need_ends" sNeedEnds ["one", "other"] f4 (PySem.W.fnOf "need_ends" "need_ends" (defArgs sNeedEnds) (defBody sNeedEnds) (defScope sNeedEnds) .none kV4 dc4 pm4 an4 cd4 ct4) := ⟨F4, PySem.W.mg_of X G a4, F4.binds (ps := ["one", "other"]) fun _ _ _ _ _ _ us hl => match us, hl with | [_, _], _ => rfl⟩
  have F5 := fun_mk (st := sStepsOf) l5 c5 k5
  have D5 : Dfn K mg "steps_of" sStepsOf ["word"] f5 (PySem.W.fnOf "steps_of" "steps_of" (defArgs sStepsOf) (defBody sStepsOf) (defScope sStepsOf) .none kV5 dc5 pm5 an5 cd5 ct5) := ⟨F5, PySem.W.mg_of X G a5, F5.binds (ps := ["word"]) fun _ _ _ _ _ _ us hl => match us, hl with | [_], _ => rfl⟩
  have F6 := fun_mk (st := sWordOf) l6 c6 k6
  have D6 : Dfn K mg "word_of" sWordOf ["first", "steps"] f6 (PySem.W.fnOf "word_of" "word_of" (defArgs sWordOf) (defBody sWordOf) (defScope sWordOf) .none kV6 dc6 pm6 an6 cd6 ct6) := ⟨F6, PySem.W.mg_of X G a6, F6.binds (ps := ["first", "steps"]) fun _ _ _ _ _ _ us hl => match us, hl with | [_, _], _ => rfl⟩
  have F7 := fun_mk (st := sNeedPair) l7 c7 k7
  have D7 : Dfn K mg "need_pair" sNeedPair ["one", "other"] f7 (PySem.W.fnOf "need_pair" "need_pair" (defArgs sNeedPair) (defBody sNeedPair) (defScope sNeedPair) .none kV7 dc7 pm7 an7 cd7 ct7) := ⟨F7, PySem.W.mg_of X G a7, F7.binds (ps := ["one", "other"]) fun _ _ _ _ _ _ us hl => match us, hl with | [_, _], _ => rfl⟩
  have F8 := fun_mk (st := sMovesOn) l8 c8 k8
  have D8 : Dfn K mg "moves_on" sMovesOn ["due", "sums", "state", "step", "last", "whole"] f8 (PySem.W.fnOf "moves_on" "moves_on" (defArgs sMovesOn) (defBody sMovesOn) (defScope sMovesOn) .none kV8 dc8 pm8 an8 cd8 ct8) := ⟨F8, PySem.W.mg_of X G a8, F8.binds (ps := ["due", "sums", "state", "step", "last", "whole"]) fun _ _ _ _ _ _ us hl => match us, hl with | [_, _, _, _, _, _], _ => rfl⟩
  have F9 := fun_mk (st := sSumsOf) l9 c9 k9
  have D9 : Dfn K mg "sums_of" sSumsOf ["due"] f9 (PySem.W.fnOf "sums_of" "sums_of" (defArgs sSumsOf) (defBody sSumsOf) (defScope sSumsOf) .none kV9 dc9 pm9 an9 cd9 ct9) := ⟨F9, PySem.W.mg_of X G a9, F9.binds (ps := ["due"]) fun _ _ _ _ _ _ us hl => match us, hl with | [_], _ => rfl⟩
  have F10 := fun_mk (st := sLeastSteps) l10 c10 k10
  have D10 : Dfn K mg "least_steps" sLeastSteps ["one", "other"] f10 (PySem.W.fnOf "least_steps" "least_steps" (defArgs sLeastSteps) (defBody sLeastSteps) (defScope sLeastSteps) .none kV10 dc10 pm10 an10 cd10 ct10) := ⟨F10, PySem.W.mg_of X G a10, F10.binds (ps := ["one", "other"]) fun _ _ _ _ _ _ us hl => match us, hl with | [_, _], _ => rfl⟩
  have F11 := fun_mk (st := sBackFrom) l11 c11 k11
  have D11 : Dfn K mg "back_from" sBackFrom ["seen", "key"] f11 (PySem.W.fnOf "back_from" "back_from" (defArgs sBackFrom) (defBody sBackFrom) (defScope sBackFrom) .none kV11 dc11 pm11 an11 cd11 ct11) := ⟨F11, PySem.W.mg_of X G a11, F11.binds (ps := ["seen", "key"]) fun _ _ _ _ _ _ us hl => match us, hl with | [_, _], _ => rfl⟩
  have F12 := fun_mk (st := sCommonOf) l12 c12 k12
  have D12 : Dfn K mg "common_of" sCommonOf ["one", "other"] f12 (PySem.W.fnOf "common_of" "common_of" (defArgs sCommonOf) (defBody sCommonOf) (defScope sCommonOf) .none kV12 dc12 pm12 an12 cd12 ct12) := ⟨F12, PySem.W.mg_of X G a12, F12.binds (ps := ["one", "other"]) fun _ _ _ _ _ _ us hl => match us, hl with | [_, _], _ => rfl⟩
  have F13 := fun_mk (st := sDistanceOf) l13 c13 k13
  have D13 : Dfn K mg "distance_of" sDistanceOf ["one", "other"] f13 (PySem.W.fnOf "distance_of" "distance_of" (defArgs sDistanceOf) (defBody sDistanceOf) (defScope sDistanceOf) .none kV13 dc13 pm13 an13 cd13 ct13) := ⟨F13, PySem.W.mg_of X G a13, F13.binds (ps := ["one", "other"]) fun _ _ _ _ _ _ us hl => match us, hl with | [_, _], _ => rfl⟩
  have F14 := fun_mk (st := sDistance) l14 c14 k14
  have D14 : Dfn K mg "distance" sDistance ["one", "other"] f14 (PySem.W.fnOf "distance" "distance" (defArgs sDistance) (defBody sDistance) (defScope sDistance) .none kV14 dc14 pm14 an14 cd14 ct14) := ⟨F14, PySem.W.mg_of X G a14, F14.binds (ps := ["one", "other"]) fun _ _ _ _ _ _ us hl => match us, hl with | [_, _], _ => rfl⟩
  have F15 := fun_mk (st := sLeastCommon) l15 c15 k15
  have D15 : Dfn K mg "least_common" sLeastCommon ["one", "other"] f15 (PySem.W.fnOf "least_common" "least_common" (defArgs sLeastCommon) (defBody sLeastCommon) (defScope sLeastCommon) .none kV15 dc15 pm15 an15 cd15 ct15) := ⟨F15, PySem.W.mg_of X G a15, F15.binds (ps := ["one", "other"]) fun _ _ _ _ _ _ us hl => match us, hl with | [_, _], _ => rfl⟩
  have F16 := fun_mk (st := sTops) l16 c16 k16
  have D16 : Dfn K mg "tops" sTops ["one", "other"] f16 (PySem.W.fnOf "tops" "tops" (defArgs sTops) (defBody sTops) (defScope sTops) .none kV16 dc16 pm16 an16 cd16 ct16) := ⟨F16, PySem.W.mg_of X G a16, F16.binds (ps := ["one", "other"]) fun _ _ _ _ _ _ us hl => match us, hl with | [_, _], _ => rfl⟩
  have F17 := fun_mk (st := sTopsOf) l17 c17 k17
  have D17 : Dfn K mg "tops_of" sTopsOf ["one", "other", "many"] f17 (PySem.W.fnOf "tops_of" "tops_of" (defArgs sTopsOf) (defBody sTopsOf) (defScope sTopsOf) .none kV17 dc17 pm17 an17 cd17 ct17) := ⟨F17, PySem.W.mg_of X G a17, F17.binds (ps := ["one", "other", "many"]) fun _ _ _ _ _ _ us hl => match us, hl with | [_, _, _], _ => rfl⟩
  have F18 := fun_mk (st := sLawTaken) l18 c18 k18
  have D18 : Dfn K mg "_law_taken" sLawTaken ["_law_row", "_law_many"] f18 (PySem.W.fnOf "_law_taken" "_law_taken" (defArgs sLawTaken) (defBody sLawTaken) (defScope sLawTaken) .none kV18 dc18 pm18 an18 cd18 ct18) := ⟨F18, PySem.W.mg_of X G a18, F18.binds (ps := ["_law_row", "_law_many"]) fun _ _ _ _ _ _ us hl => match us, hl with | [_, _], _ => rfl⟩
  have F19 := fun_mk (st := sLawPick) l19 c19 k19
  have D19 : Dfn K mg "_law_pick" sLawPick ["_law_row", "_law_things"] f19 (PySem.W.fnOf "_law_pick" "_law_pick" (defArgs sLawPick) (defBody sLawPick) (defScope sLawPick) .none kV19 dc19 pm19 an19 cd19 ct19) := ⟨F19, PySem.W.mg_of X G a19, F19.binds (ps := ["_law_row", "_law_things"]) fun _ _ _ _ _ _ us hl => match us, hl with | [_, _], _ => rfl⟩
  have F20 := fun_mk (st := sLawAlike) l20 c20 k20
  have D20 : Dfn K mg "_law_alike" sLawAlike ["_law_found", "_law_due"] f20 (PySem.W.fnOf "_law_alike" "_law_alike" (defArgs sLawAlike) (defBody sLawAlike) (defScope sLawAlike) .none kV20 dc20 pm20 an20 cd20 ct20) := ⟨F20, PySem.W.mg_of X G a20, F20.binds (ps := ["_law_found", "_law_due"]) fun _ _ _ _ _ _ us hl => match us, hl with | [_, _], _ => rfl⟩
  have F21 := fun_mk (st := sLawWord) l21 c21 k21
  have D21 : Dfn K mg "_law_word" sLawWord ["_law_first", "_law_line"] f21 (PySem.W.fnOf "_law_word" "_law_word" (defArgs sLawWord) (defBody sLawWord) (defScope sLawWord) .none kV21 dc21 pm21 an21 cd21 ct21) := ⟨F21, PySem.W.mg_of X G a21, F21.binds (ps := ["_law_first", "_law_line"]) fun _ _ _ _ _ _ us hl => match us, hl with | [_, _], _ => rfl⟩
  have F22 := fun_mk (st := sLawAny) l22 c22 k22
  have D22 : Dfn K mg "_law_any" sLawAny ["_law_row", "_law_most"] f22 (PySem.W.fnOf "_law_any" "_law_any" (defArgs sLawAny) (defBody sLawAny) (defScope sLawAny) .none kV22 dc22 pm22 an22 cd22 ct22) := ⟨F22, PySem.W.mg_of X G a22, F22.binds (ps := ["_law_row", "_law_most"]) fun _ _ _ _ _ _ us hl => match us, hl with | [_, _], _ => rfl⟩
  have F23 := fun_mk (st := sLawPut) l23 c23 k23
  have D23 : Dfn K mg "_law_put" sLawPut ["_law_word_here", "_law_place"] f23 (PySem.W.fnOf "_law_put" "_law_put" (defArgs sLawPut) (defBody sLawPut) (defScope sLawPut) .none kV23 dc23 pm23 an23 cd23 ct23) := ⟨F23, PySem.W.mg_of X G a23, F23.binds (ps := ["_law_word_here", "_law_place"]) fun _ _ _ _ _ _ us hl => match us, hl with | [_, _], _ => rfl⟩
  have F24 := fun_mk (st := sLawOpen) l24 c24 k24
  have D24 : Dfn K mg "_law_open" sLawOpen ["_law_word_here"] f24 (PySem.W.fnOf "_law_open" "_law_open" (defArgs sLawOpen) (defBody sLawOpen) (defScope sLawOpen) .none kV24 dc24 pm24 an24 cd24 ct24) := ⟨F24, PySem.W.mg_of X G a24, F24.binds (ps := ["_law_word_here"]) fun _ _ _ _ _ _ us hl => match us, hl with | [_], _ => rfl⟩
  have F25 := fun_mk (st := sLawWithout) l25 c25 k25
  have D25 : Dfn K mg "_law_without" sLawWithout ["_law_word_here", "_law_place"] f25 (PySem.W.fnOf "_law_without" "_law_without" (defArgs sLawWithout) (defBody sLawWithout) (defScope sLawWithout) .none kV25 dc25 pm25 an25 cd25 ct25) := ⟨F25, PySem.W.mg_of X G a25, F25.binds (ps := ["_law_word_here", "_law_place"]) fun _ _ _ _ _ _ us hl => match us, hl with | [_, _], _ => rfl⟩
  have F26 := fun_mk (st := sLawDowns) l26 c26 k26
  have D26 : Dfn K mg "_law_downs" sLawDowns ["_law_word_here"] f26 (PySem.W.fnOf "_law_downs" "_law_downs" (defArgs sLawDowns) (defBody sLawDowns) (defScope sLawDowns) .none kV26 dc26 pm26 an26 cd26 ct26) := ⟨F26, PySem.W.mg_of X G a26, F26.binds (ps := ["_law_word_here"]) fun _ _ _ _ _ _ us hl => match us, hl with | [_], _ => rfl⟩
  have F27 := fun_mk (st := sLawUps) l27 c27 k27
  have D27 : Dfn K mg "_law_ups" sLawUps ["_law_word_here"] f27 (PySem.W.fnOf "_law_ups" "_law_ups" (defArgs sLawUps) (defBody sLawUps) (defScope sLawUps) .none kV27 dc27 pm27 an27 cd27 ct27) := ⟨F27, PySem.W.mg_of X G a27, F27.binds (ps := ["_law_word_here"]) fun _ _ _ _ _ _ us hl => match us, hl with | [_], _ => rfl⟩
  have F28 := fun_mk (st := sLawBelow) l28 c28 k28
  have D28 : Dfn K mg "_law_below" sLawBelow ["_law_word_here"] f28 (PySem.W.fnOf "_law_below" "_law_below" (defArgs sLawBelow) (defBody sLawBelow) (defScope sLawBelow) .none kV28 dc28 pm28 an28 cd28 ct28) := ⟨F28, PySem.W.mg_of X G a28, F28.binds (ps := ["_law_word_here"]) fun _ _ _ _ _ _ us hl => match us, hl with | [_], _ => rfl⟩
  have F29 := fun_mk (st := sLawWords) l29 c29 k29
  have D29 : Dfn K mg "_law_words" sLawWords ["_law_first", "_law_last", "_law_size"] f29 (PySem.W.fnOf "_law_words" "_law_words" (defArgs sLawWords) (defBody sLawWords) (defScope sLawWords) .none kV29 dc29 pm29 an29 cd29 ct29) := ⟨F29, PySem.W.mg_of X G a29, F29.binds (ps := ["_law_first", "_law_last", "_law_size"]) fun _ _ _ _ _ _ us hl => match us, hl with | [_, _, _], _ => rfl⟩
  have F30 := fun_mk (st := sLaw) l30 c30 k30
  have D30 : Dfn K mg "law" sLaw ["_law_script"] fa (PySem.W.fnOf "law" "law" (defArgs sLaw) (defBody sLaw) (defScope sLaw) .none kV30 dc30 pm30 an30 cd30 ct30) := ⟨F30, PySem.W.mg_of X G a30, F30.binds (ps := ["_law_script"]) fun _ _ _ _ _ _ us hl => match us, hl with | [_], _ => rfl⟩
  refine ⟨PySem.W.fnOf "law" "law" (defArgs sLaw) (defBody sLaw) (defScope sLaw) .none kV30 dc30 pm30 an30 cd30 ct30, fun s v => .of_eq rfl, fun base _ _ => ?_⟩
  have GnL := ok_need_limited (P := l.prog) (w := w) (base := base) D3 D1 D2 T
  have GnE := ok_need_ends (P := l.prog) (w := w) (base := base) D4 T
  have GnP := ok_need_pair (P := l.prog) (w := w) (base := base) D7 D3 GnL D4 GnE T
  have Gso := ok_steps_of (P := l.prog) (w := w) (base := base) D5 T
  have Gwo := ok_word_of (P := l.prog) (w := w) (base := base) D6 T
  have Gsu := ok_sums_of (P := l.prog) (w := w) (base := base) D9 T
  have Gmo := ok_moves_on (P := l.prog) (w := w) (base := base) D8 T
  have Gbf := ok_back_from (P := l.prog) (w := w) (base := base) D11
  have Gls := ok_least_steps (P := l.prog) (w := w) (base := base) D10 D9 Gsu D8 Gmo D11 Gbf T
  have Gco := ok_common_of (P := l.prog) (w := w) (base := base) D12 D5 Gso D10 Gls D6 Gwo
  have Gdo := ok_distance_of (P := l.prog) (w := w) (base := base) D13 D12 Gco T
  have Gdi := ok_distance (P := l.prog) (w := w) (base := base) D14 D7 GnP D13 Gdo
  have Glc := ok_least_common (P := l.prog) (w := w) (base := base) D15 D7 GnP D12 Gco
  have Gtf := ok_tops_of (P := l.prog) (w := w) (base := base) D17 D5 Gso D9 Gsu D8 Gmo T
  have Gto := ok_tops (P := l.prog) (w := w) (base := base) D16 D7 GnP D12 Gco D17 Gtf T
  have Gta := ok_taken (P := l.prog) (w := w) (base := base) D18 T
  have GpS := ok_pickS (P := l.prog) (w := w) (base := base) D19 D18 Gta T
  have GpL := ok_pickL (P := l.prog) (w := w) (base := base) D19 D18 Gta T
  have Glw := ok_law_word (P := l.prog) (w := w) (base := base) D21 T
  have Gan := ok_law_any (P := l.prog) (w := w) (base := base) D22 D18 Gta D19 GpS GpL D21 Glw T
  have Gpu := ok_put (P := l.prog) (w := w) (base := base) D23
  have Gop := ok_open (P := l.prog) (w := w) (base := base) D24 T
  have Gwi := ok_without (P := l.prog) (w := w) (base := base) D25
  have Gdw := ok_downs (P := l.prog) (w := w) (base := base) D26 D24 Gop D25 Gwi T
  have Gup := ok_ups (P := l.prog) (w := w) (base := base) D27 D23 Gpu T
  have Gbe := ok_below (P := l.prog) (w := w) (base := base) D28 D26 Gdw T
  have Gws := ok_words (P := l.prog) (w := w) (base := base) D29 T
  have GaI := ok_alikeI (P := l.prog) (w := w) (base := base) D20 T
  have GaT := ok_alikeT (P := l.prog) (w := w) (base := base) D20 T GaI
  exact ok_law D30 D22 Gan D29 Gws D18 Gta D19 GpL D27 Gup D26 Gdw D20 GaI GaT D14 Gdi D28 Gbe D15 Glc D16 Gto T
theorem walk {l : PySem.W.OpenLaw} {q : Program} {loose : List Str} {XP : (Str → Option Value) → Heap → Prop} {YP : World → Heap → Prop} {d : DefRec} {K : Params → PySem.W.Frag} (hn : l.most = some 63) (hdf : d.params.defaults = [])
    (hY : ∀ (w : World) (h : Heap), YP w h → (K w.params).In h)
    (F : ∀ (w : World) (mg : Str → Option Value) (fa : Addr) (h : Heap), (K w.params).In h → h.Ns mainGlobals mg → mg d.name = some (.ref fa) →
      ∃ fd : FuncData, (∀ (s : Shared) (u : Value), BindsTo s fd ⟨[u], []⟩ [("_law_script", u)]) ∧ ∀ base : Heap, (K w.params).In base → base.Ns mainGlobals mg → FnOk l.prog w (K w.params) mg base CX0 6 fa fd ["_law_script"] (spLaw (K w.params))) :
    PySem.W.WalkO q loose XP YP l.row.toRowW d [] (fun f vs => PySem.call f vs) :=
  L2.walk_of (n := 63) (k := 6) (x := "_law_script") (CX := fun _ => CX0) (sp := fun w => spLaw (K w.params)) hn (by decide) hdf ⟨rfl, by decide, by decide⟩ hY F (fun _ _ a ns hl _ hS => ⟨a, ns, rfl, hS, hl, fun _ => rfl⟩) fun _ _ _ _ _ z => z
end TW

set_option Elab.async false
set_option linter.all false
open PySem PySem.W PyProof.Rows
set_option maxRecDepth 100000 in
set_option maxHeartbeats 0 in
theorem PySem.Challenge.cw_thirdletters_k32_whole_distances_holds : PySem.Challenge.rw_thirdletters_k32_whole_distances.Holds := by
  w_on; o_law; k_head; (case hw => w_witness2)
  k_fill
  refine TW.walk (l := PySem.Challenge.rw_thirdletters_k32_whole_distances) rfl rfl (fun w h Y => PySem.W.kIn_of Y) ?F
  case F =>
    intro w mg fa h KX G hmg
    refine' TW.all_mk KX G hmg ?a1 ?l1 ?c1 ?k1 ?a2 ?l2 ?c2 ?k2 ?a3 ?l3 ?c3 ?k3 ?a4 ?l4 ?c4 ?k4 ?a5 ?l5 ?c5 ?k5 ?a6 ?l6 ?c6 ?k6 ?a7 ?l7 ?c7 ?k7 ?a8 ?l8 ?c8 ?k8 ?a9 ?l9 ?c9 ?k9 ?a10 ?l10 ?c10 ?k10 ?a11 ?l11 ?c11 ?k11 ?a12 ?l12 ?c12 ?k12 ?a13 ?l13 ?c13 ?k13 ?a14 ?l14 ?c14 ?k14 ?a15 ?l15 ?c15 ?k15 ?a16 ?l16 ?c16 ?k16 ?a17 ?l17 ?c17 ?k17 ?a18 ?l18 ?c18 ?k18 ?a19 ?l19 ?c19 ?k19 ?a20 ?l20 ?c20 ?k20 ?a21 ?l21 ?c21 ?k21 ?a22 ?l22 ?c22 ?k22 ?a23 ?l23 ?c23 ?k23 ?a24 ?l24 ?c24 ?k24 ?a25 ?l25 ?c25 ?k25 ?a26 ?l26 ?c26 ?k26 ?a27 ?l27 ?c27 ?k27 ?a28 ?l28 ?c28 ?k28 ?a29 ?l29 ?c29 ?k29 ?a30 ?l30 ?c30 ?k30 ?z0 ?z1 ?z2 ?z3 ?z4 ?z5 ?z6 ?z7 ?z8 ?z9 ?z10 ?z11 ?z12 ?gL ?g1 ?g2
    (case a1 => k_is)
    (case l1 => k_is)
    (case c1 => k_is)
    (case k1 => k_is)
    (case a2 => k_is)
    (case l2 => k_is)
    (case c2 => k_is)
    (case k2 => k_is)
    (case a3 => k_is)
    (case l3 => k_is)
    (case c3 => k_is)
    (case k3 => k_is)
    (case a4 => k_is)
    (case l4 => k_is)
    (case c4 => k_is)
    (case k4 => k_is)
    (case a5 => k_is)
    (case l5 => k_is)
    (case c5 => k_is)
    (case k5 => k_is)
    (case a6 => k_is)
    (case l6 => k_is)
    (case c6 => k_is)
    (case k6 => k_is)
    (case a7 => k_is)
    (case l7 => k_is)
    (case c7 => k_is)
    (case k7 => k_is)
    (case a8 => k_is)
    (case l8 => k_is)
    (case c8 => k_is)
    (case k8 => k_is)
    (case a9 => k_is)
    (case l9 => k_is)
    (case c9 => k_is)
    (case k9 => k_is)
    (case a10 => k_is)
    (case l10 => k_is)
    (case c10 => k_is)
    (case k10 => k_is)
    (case a11 => k_is)
    (case l11 => k_is)
    (case c11 => k_is)
    (case k11 => k_is)
    (case a12 => k_is)
    (case l12 => k_is)
    (case c12 => k_is)
    (case k12 => k_is)
    (case a13 => k_is)
    (case l13 => k_is)
    (case c13 => k_is)
    (case k13 => k_is)
    (case a14 => k_is)
    (case l14 => k_is)
    (case c14 => k_is)
    (case k14 => k_is)
    (case a15 => k_is)
    (case l15 => k_is)
    (case c15 => k_is)
    (case k15 => k_is)
    (case a16 => k_is)
    (case l16 => k_is)
    (case c16 => k_is)
    (case k16 => k_is)
    (case a17 => k_is)
    (case l17 => k_is)
    (case c17 => k_is)
    (case k17 => k_is)
    (case a18 => k_is)
    (case l18 => k_is)
    (case c18 => k_is)
    (case k18 => k_is)
    (case a19 => k_is)
    (case l19 => k_is)
    (case c19 => k_is)
    (case k19 => k_is)
    (case a20 => k_is)
    (case l20 => k_is)
    (case c20 => k_is)
    (case k20 => k_is)
    (case a21 => k_is)
    (case l21 => k_is)
    (case c21 => k_is)
    (case k21 => k_is)
    (case a22 => k_is)
    (case l22 => k_is)
    (case c22 => k_is)
    (case k22 => k_is)
    (case a23 => k_is)
    (case l23 => k_is)
    (case c23 => k_is)
    (case k23 => k_is)
    (case a24 => k_is)
    (case l24 => k_is)
    (case c24 => k_is)
    (case k24 => k_is)
    (case a25 => k_is)
    (case l25 => k_is)
    (case c25 => k_is)
    (case k25 => k_is)
    (case a26 => k_is)
    (case l26 => k_is)
    (case c26 => k_is)
    (case k26 => k_is)
    (case a27 => k_is)
    (case l27 => k_is)
    (case c27 => k_is)
    (case k27 => k_is)
    (case a28 => k_is)
    (case l28 => k_is)
    (case c28 => k_is)
    (case k28 => k_is)
    (case a29 => k_is)
    (case l29 => k_is)
    (case c29 => k_is)
    (case k29 => k_is)
    (case a30 => k_is)
    (case l30 => k_is)
    (case c30 => k_is)
    (case k30 => k_is)
    (case z0 => k_is)
    (case z1 => k_is)
    (case z2 => k_is)
    (case z3 => k_is)
    (case z4 => k_is)
    (case z5 => k_is)
    (case z6 => k_is)
    (case z7 => k_is)
    (case z8 => k_is)
    (case z9 => k_is)
    (case z10 => k_is)
    (case z11 => k_is)
    (case z12 => k_is)
    (case gL => k_is)
    (case g1 => k_is)
    (case g2 => k_is)
