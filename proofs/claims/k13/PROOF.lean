import PyProof.Rows.All
import Wide.All
import OpenK.AllK
import Wide.FinOn
import HandS.ForMost
import HandS.SortInts
import HandS.SortRule
import HandS.TupSets
import HandS.TupAny
import HandS.Conv
import HandS.IsInst
import HandS.Style
import HandS.SetFor
import HandS.Strs
import HandS.Flow
import HandS.Exc
import HandS.Small
import HandS.Codes
import HandS.Deep
import PySem.Challenge.RW_unpartedrows_k13_whole_common_trees
set_option Elab.async false
set_option linter.all false
set_option maxRecDepth 100000
set_option maxHeartbeats 4000000
/-! K13 M1: trees, told orders, stretches. Plain Lean. -/
namespace K13

inductive Tr where
  | thing (i : Int)
  | node (row : Bool) (ps : List Tr)

theorem Tr.ind {P : Tr → Prop} (h1 : ∀ i, P (.thing i)) (h2 : ∀ b ps, (∀ p ∈ ps, P p) → P (.node b ps)) : ∀ t, P t
  | .thing i => h1 i
  | .node b ps => h2 b ps (fun p hp => Tr.ind h1 h2 p)
termination_by t => sizeOf t
decreasing_by
  have := List.sizeOf_lt_of_mem hp
  simp only [Tr.node.sizeOf_spec]; omega

/-- the things, in the sequence in which they stand -/
def Tr.lv : Tr → List Int
  | .thing i => [i]
  | .node _ ps => (ps.map fun p => p.lv).flatten
/-- the things of a list of trees -/
def lvs (ps : List Tr) : List Int := (ps.map Tr.lv).flatten
theorem lv_thing (i : Int) : (Tr.thing i).lv = [i] := by rw [Tr.lv]
theorem lv_node (b : Bool) (ps : List Tr) : (Tr.node b ps).lv = lvs ps := by rw [Tr.lv]; rfl
theorem lvs_nil : lvs [] = [] := rfl
theorem lvs_cons (p : Tr) (ps : List Tr) : lvs (p :: ps) = p.lv ++ lvs ps := rfl
theorem lvs_append (ps qs : List Tr) : lvs (ps ++ qs) = lvs ps ++ lvs qs := by
  unfold lvs; rw [List.map_append, List.flatten_append]
theorem lvs_one (p : Tr) : lvs [p] = p.lv := by rw [lvs_cons, lvs_nil, List.append_nil]
theorem lvs_perm {ps qs : List Tr} (h : ps.Perm qs) : (lvs ps).Perm (lvs qs) := (h.map Tr.lv).flatten
theorem lvs_reverse (ps : List Tr) : (lvs ps.reverse).Perm (lvs ps) := lvs_perm (List.reverse_perm ps)
theorem mem_lvs {x : Int} {ps : List Tr} : x ∈ lvs ps ↔ ∃ p ∈ ps, x ∈ p.lv := by
  unfold lvs
  simp only [List.mem_flatten, List.mem_map]
  constructor
  · rintro ⟨l, ⟨p, hp, rfl⟩, hx⟩; exact ⟨p, hp, hx⟩
  · rintro ⟨p, hp, hx⟩; exact ⟨_, ⟨p, hp, rfl⟩, hx⟩

/-- at least two parts, a row at least three -/
inductive Form : Tr → Prop where
  | thing (i : Int) : Form (.thing i)
  | node {b : Bool} {ps : List Tr} : 2 ≤ ps.length → (b = true → 3 ≤ ps.length) → (∀ p ∈ ps, Form p) → Form (.node b ps)
theorem Form.parts {b : Bool} {ps : List Tr} (h : Form (.node b ps)) : ∀ p ∈ ps, Form p := by cases h; assumption
theorem Form.two {b : Bool} {ps : List Tr} (h : Form (.node b ps)) : 2 ≤ ps.length := by cases h; assumption
theorem Form.three {ps : List Tr} (h : Form (.node true ps)) : 3 ≤ ps.length := by cases h with | node _ h _ => exact h rfl

theorem Form.ne : ∀ {t : Tr}, Form t → t.lv ≠ [] := by
  intro t
  induction t using Tr.ind with
  | h1 i => intro _; rw [lv_thing]; exact List.cons_ne_nil _ _
  | h2 b ps ih =>
    intro h
    have h2 := h.two
    match ps, h2 with
    | p :: r, _ =>
      rw [lv_node, lvs_cons]
      have := ih p List.mem_cons_self (h.parts p List.mem_cons_self)
      intro e
      exact this (List.append_eq_nil_iff.1 e).1
theorem lvs_len {ps : List Tr} (h : ∀ p ∈ ps, Form p) : ps.length ≤ (lvs ps).length := by
  induction ps with
  | nil => exact Nat.le_refl _
  | cons p r ih =>
    rw [lvs_cons, List.length_append, List.length_cons]
    have := (h p List.mem_cons_self).ne
    have h1 : 0 < p.lv.length := List.length_pos_iff.2 this
    have := ih fun q hq => h q (List.mem_cons_of_mem _ hq)
    omega
theorem Form.lt {b : Bool} {ps : List Tr} (h : Form (.node b ps)) {p : Tr} (hp : p ∈ ps) : p.lv.length < (Tr.node b ps).lv.length := by
  obtain ⟨l, r, rfl⟩ := List.append_of_mem hp
  rw [lv_node, lvs_append, lvs_cons, List.length_append, List.length_append]
  have h2 := h.two
  rw [List.length_append, List.length_cons] at h2
  have hl := lvs_len (ps := l) fun q hq => h.parts q (List.mem_append_left _ hq)
  have hr := lvs_len (ps := r) fun q hq => h.parts q (List.mem_append_right _ (List.mem_cons_of_mem _ hq))
  omega

mutual
inductive Tells : Tr → List Int → Prop where
  | thing (i : Int) : Tells (.thing i) [i]
  | any {ps qs : List Tr} {o : List Int} : qs.Perm ps → Seq qs o → Tells (.node false ps) o
  | fwd {ps : List Tr} {o : List Int} : Seq ps o → Tells (.node true ps) o
  | bwd {ps : List Tr} {o : List Int} : Seq ps.reverse o → Tells (.node true ps) o
inductive Seq : List Tr → List Int → Prop where
  | nil : Seq [] []
  | cons {t : Tr} {ts : List Tr} {a b : List Int} : Tells t a → Seq ts b → Seq (t :: ts) (a ++ b)
end

theorem tells_thing {i : Int} {o : List Int} : Tells (.thing i) o ↔ o = [i] := ⟨fun h => by cases h; rfl, fun h => h ▸ .thing i⟩
theorem tells_any {ps : List Tr} {o : List Int} : Tells (.node false ps) o ↔ ∃ qs, qs.Perm ps ∧ Seq qs o :=
  ⟨fun h => by cases h with | any a b => exact ⟨_, a, b⟩, fun ⟨_, a, b⟩ => .any a b⟩
theorem tells_row {ps : List Tr} {o : List Int} : Tells (.node true ps) o ↔ Seq ps o ∨ Seq ps.reverse o :=
  ⟨fun h => by cases h with | fwd a => exact .inl a | bwd a => exact .inr a, fun h => h.elim .fwd .bwd⟩
theorem seq_nil {o : List Int} : Seq [] o ↔ o = [] := ⟨fun h => by cases h; rfl, fun h => h ▸ .nil⟩
theorem seq_cons {t : Tr} {ts : List Tr} {o : List Int} : Seq (t :: ts) o ↔ ∃ a b, o = a ++ b ∧ Tells t a ∧ Seq ts b :=
  ⟨fun h => by cases h with | cons a b => exact ⟨_, _, rfl, a, b⟩, fun ⟨_, _, e, a, b⟩ => e ▸ .cons a b⟩
theorem seq_one {t : Tr} {o : List Int} : Seq [t] o ↔ Tells t o := by
  rw [seq_cons]
  constructor
  · rintro ⟨a, b, rfl, h1, h2⟩
    rw [seq_nil] at h2; subst h2
    rw [List.append_nil]; exact h1
  · intro h; exact ⟨o, [], (List.append_nil o).symm, h, .nil⟩
theorem seq_append {xs ys : List Tr} {o : List Int} : Seq (xs ++ ys) o ↔ ∃ a b, o = a ++ b ∧ Seq xs a ∧ Seq ys b := by
  induction xs generalizing o with
  | nil =>
    rw [List.nil_append]
    constructor
    · intro h; exact ⟨[], o, rfl, .nil, h⟩
    · rintro ⟨a, b, rfl, h1, h2⟩
      rw [seq_nil] at h1; subst h1; exact h2
  | cons x xs ih =>
    rw [List.cons_append, seq_cons]
    constructor
    · rintro ⟨a, b, rfl, h1, h2⟩
      obtain ⟨c, d, rfl, h3, h4⟩ := ih.1 h2
      exact ⟨a ++ c, d, (List.append_assoc a c d).symm, .cons h1 h3, h4⟩
    · rintro ⟨a, b, rfl, h1, h2⟩
      obtain ⟨c, d, rfl, h3, h4⟩ := seq_cons.1 h1
      exact ⟨c, d ++ b, List.append_assoc c d b, h3, ih.2 ⟨d, b, rfl, h4, h2⟩⟩
theorem Seq.app {xs ys : List Tr} {a b : List Int} (h1 : Seq xs a) (h2 : Seq ys b) : Seq (xs ++ ys) (a ++ b) := seq_append.2 ⟨a, b, rfl, h1, h2⟩

theorem seq_perm_of {ps : List Tr} (ih : ∀ p ∈ ps, ∀ o, Tells p o → o.Perm p.lv) : ∀ {o : List Int}, Seq ps o → o.Perm (lvs ps) := by
  induction ps with
  | nil => intro o h; rw [seq_nil] at h; subst h; exact .nil
  | cons p r ihr =>
    intro o h
    obtain ⟨a, b, rfl, h1, h2⟩ := seq_cons.1 h
    rw [lvs_cons]
    exact (ih p List.mem_cons_self a h1).append (ihr (fun q hq => ih q (List.mem_cons_of_mem _ hq)) h2)
theorem Tells.perm : ∀ {t : Tr} {o : List Int}, Tells t o → o.Perm t.lv := by
  intro t
  induction t using Tr.ind with
  | h1 i => intro o h; rw [tells_thing] at h; subst h; rw [lv_thing]
  | h2 b ps ih =>
    intro o h
    rw [lv_node]
    cases b with
    | false =>
      obtain ⟨qs, h1, h2⟩ := tells_any.1 h
      exact (seq_perm_of (fun p hp o ho => ih p (h1.mem_iff.1 hp) ho) h2).trans (lvs_perm h1)
    | true =>
      rcases tells_row.1 h with h2 | h2
      · exact seq_perm_of (fun p hp o ho => ih p hp ho) h2
      · exact (seq_perm_of (fun p hp o ho => ih p (List.mem_reverse.1 hp) ho) h2).trans (lvs_reverse ps)
theorem Seq.perm {ps : List Tr} {o : List Int} (h : Seq ps o) : o.Perm (lvs ps) := seq_perm_of (fun p _ o ho => ho.perm) h

theorem seq_rev_of {ps : List Tr} (ih : ∀ p ∈ ps, ∀ o, Tells p o → Tells p o.reverse) : ∀ {o : List Int}, Seq ps o → Seq ps.reverse o.reverse := by
  induction ps with
  | nil => intro o h; rw [seq_nil] at h; subst h; exact .nil
  | cons p r ihr =>
    intro o h
    obtain ⟨a, b, rfl, h1, h2⟩ := seq_cons.1 h
    rw [List.reverse_cons, List.reverse_append]
    exact (ihr (fun q hq => ih q (List.mem_cons_of_mem _ hq)) h2).app (seq_one.2 (ih p List.mem_cons_self a h1))
theorem Tells.rev : ∀ {t : Tr} {o : List Int}, Tells t o → Tells t o.reverse := by
  intro t
  induction t using Tr.ind with
  | h1 i => intro o h; rw [tells_thing] at h; subst h; exact .thing i
  | h2 b ps ih =>
    intro o h
    cases b with
    | false =>
      obtain ⟨qs, h1, h2⟩ := tells_any.1 h
      exact .any ((List.reverse_perm qs).trans h1) (seq_rev_of (fun p hp o ho => ih p (h1.mem_iff.1 hp) ho) h2)
    | true =>
      rcases tells_row.1 h with h2 | h2
      · exact .bwd (seq_rev_of (fun p hp o ho => ih p hp ho) h2)
      · have := seq_rev_of (fun p hp o ho => ih p (List.mem_reverse.1 hp) ho) h2
        rw [List.reverse_reverse] at this
        exact .fwd this
theorem Seq.rev {ps : List Tr} {o : List Int} (h : Seq ps o) : Seq ps.reverse o.reverse := seq_rev_of (fun p _ o ho => ho.rev) h
theorem seq_reverse {ps : List Tr} {o : List Int} : Seq ps.reverse o ↔ Seq ps o.reverse := by
  constructor
  · intro h; have := h.rev; rw [List.reverse_reverse] at this; exact this
  · intro h; have := h.rev; rw [List.reverse_reverse] at this; exact this

theorem seq_lvs_of {ps : List Tr} (h : ∀ p ∈ ps, Tells p p.lv) : Seq ps (lvs ps) := by
  induction ps with
  | nil => exact .nil
  | cons p r ih => exact .cons (h p List.mem_cons_self) (ih fun q hq => h q (List.mem_cons_of_mem _ hq))
theorem tells_lv : ∀ (t : Tr), Tells t t.lv := by
  intro t
  induction t using Tr.ind with
  | h1 i => rw [lv_thing]; exact .thing i
  | h2 b ps ih =>
    rw [lv_node]
    cases b with
    | false => exact .any (.refl ps) (seq_lvs_of ih)
    | true => exact .fwd (seq_lvs_of ih)
theorem seq_lvs (ps : List Tr) : Seq ps (lvs ps) := seq_lvs_of fun p _ => tells_lv p

/-! ### stretches -/
def AllP (p : Int → Bool) (o : List Int) : Prop := ∀ x ∈ o, p x = true
def NoneP (p : Int → Bool) (o : List Int) : Prop := ∀ x ∈ o, p x = false
def Suf (p : Int → Bool) (o : List Int) : Prop := ∃ a b, o = a ++ b ∧ NoneP p a ∧ AllP p b
def Pre (p : Int → Bool) (o : List Int) : Prop := ∃ a b, o = a ++ b ∧ AllP p a ∧ NoneP p b
def Tog (p : Int → Bool) (o : List Int) : Prop := ∃ a m b, o = a ++ m ++ b ∧ NoneP p a ∧ AllP p m ∧ NoneP p b
section
variable {p : Int → Bool} {a b o o' : List Int}
theorem allP_nil : AllP p [] := fun _ h => nomatch h
theorem noneP_nil : NoneP p [] := fun _ h => nomatch h
theorem allP_append : AllP p (a ++ b) ↔ AllP p a ∧ AllP p b := List.forall_mem_append
theorem noneP_append : NoneP p (a ++ b) ↔ NoneP p a ∧ NoneP p b := List.forall_mem_append
theorem AllP.perm (h : AllP p o) (e : o.Perm o') : AllP p o' := fun x hx => h x (e.mem_iff.2 hx)
theorem NoneP.perm (h : NoneP p o) (e : o.Perm o') : NoneP p o' := fun x hx => h x (e.mem_iff.2 hx)
theorem both_nil (h1 : AllP p o) (h2 : NoneP p o) : o = [] := by
  cases o with
  | nil => rfl
  | cons x r => have := h1 x List.mem_cons_self; rw [h2 x List.mem_cons_self] at this; cases this
theorem AllP.rev (h : AllP p o) : AllP p o.reverse := fun x hx => h x (List.mem_reverse.1 hx)
theorem NoneP.rev (h : NoneP p o) : NoneP p o.reverse := fun x hx => h x (List.mem_reverse.1 hx)
theorem NoneP.suf (h : NoneP p o) : Suf p o := ⟨o, [], (List.append_nil o).symm, h, allP_nil⟩
theorem AllP.suf (h : AllP p o) : Suf p o := ⟨[], o, rfl, noneP_nil, h⟩
theorem NoneP.pre (h : NoneP p o) : Pre p o := ⟨[], o, rfl, allP_nil, h⟩
theorem AllP.pre (h : AllP p o) : Pre p o := ⟨o, [], (List.append_nil o).symm, h, noneP_nil⟩
theorem Suf.tog (h : Suf p o) : Tog p o := by
  obtain ⟨a, b, rfl, h1, h2⟩ := h
  exact ⟨a, b, [], by simp, h1, h2, noneP_nil⟩
theorem Pre.tog (h : Pre p o) : Tog p o := by
  obtain ⟨a, b, rfl, h1, h2⟩ := h
  exact ⟨[], a, b, by simp, noneP_nil, h1, h2⟩
theorem NoneP.tog (h : NoneP p o) : Tog p o := h.suf.tog
theorem AllP.tog (h : AllP p o) : Tog p o := h.suf.tog
theorem Suf.rev (h : Suf p o) : Pre p o.reverse := by
  obtain ⟨a, b, rfl, h1, h2⟩ := h
  exact ⟨b.reverse, a.reverse, List.reverse_append, h2.rev, h1.rev⟩
theorem Pre.rev (h : Pre p o) : Suf p o.reverse := by
  obtain ⟨a, b, rfl, h1, h2⟩ := h
  exact ⟨b.reverse, a.reverse, List.reverse_append, h2.rev, h1.rev⟩
theorem pre_rev : Pre p o.reverse ↔ Suf p o := ⟨fun h => by have := h.rev; rw [List.reverse_reverse] at this; exact this, fun h => h.rev⟩
theorem suf_rev : Suf p o.reverse ↔ Pre p o := ⟨fun h => by have := h.rev; rw [List.reverse_reverse] at this; exact this, fun h => h.rev⟩
theorem Tog.rev (h : Tog p o) : Tog p o.reverse := by
  obtain ⟨a, m, b, rfl, h1, h2, h3⟩ := h
  exact ⟨b.reverse, m.reverse, a.reverse, by simp, h3.rev, h2.rev, h1.rev⟩
theorem tog_rev : Tog p o.reverse ↔ Tog p o := ⟨fun h => by have := h.rev; rw [List.reverse_reverse] at this; exact this, fun h => h.rev⟩
theorem suf_append : Suf p (a ++ b) ↔ (NoneP p a ∧ Suf p b) ∨ (Suf p a ∧ AllP p b) := by
  constructor
  · rintro ⟨x, y, e, h1, h2⟩
    rcases List.append_eq_append_iff.1 e with ⟨c, rfl, rfl⟩ | ⟨c, rfl, rfl⟩
    · left
      rw [noneP_append] at h1
      exact ⟨h1.1, c, y, rfl, h1.2, h2⟩
    · right
      rw [allP_append] at h2
      exact ⟨⟨x, c, rfl, h1, h2.1⟩, h2.2⟩
  · rintro (⟨h, x, y, rfl, h1, h2⟩ | ⟨⟨x, y, rfl, h1, h2⟩, h⟩)
    · exact ⟨a ++ x, y, by simp, noneP_append.2 ⟨h, h1⟩, h2⟩
    · exact ⟨x, y ++ b, by simp, h1, allP_append.2 ⟨h2, h⟩⟩
theorem pre_append : Pre p (a ++ b) ↔ (AllP p a ∧ Pre p b) ∨ (Pre p a ∧ NoneP p b) := by
  constructor
  · rintro ⟨x, y, e, h1, h2⟩
    rcases List.append_eq_append_iff.1 e with ⟨c, rfl, rfl⟩ | ⟨c, rfl, rfl⟩
    · left
      rw [allP_append] at h1
      exact ⟨h1.1, c, y, rfl, h1.2, h2⟩
    · right
      rw [noneP_append] at h2
      exact ⟨⟨x, c, rfl, h1, h2.1⟩, h2.2⟩
  · rintro (⟨h, x, y, rfl, h1, h2⟩ | ⟨⟨x, y, rfl, h1, h2⟩, h⟩)
    · exact ⟨a ++ x, y, by simp, allP_append.2 ⟨h, h1⟩, h2⟩
    · exact ⟨x, y ++ b, by simp, h1, noneP_append.2 ⟨h2, h⟩⟩
theorem tog_append : Tog p (a ++ b) ↔ (NoneP p a ∧ Tog p b) ∨ (Tog p a ∧ NoneP p b) ∨ (Suf p a ∧ Pre p b) := by
  constructor
  · rintro ⟨x, m, y, e, h1, h2, h3⟩
    rw [List.append_assoc] at e
    rcases List.append_eq_append_iff.1 e with ⟨c, rfl, rfl⟩ | ⟨c, rfl, e2⟩
    · left
      rw [noneP_append] at h1
      exact ⟨h1.1, c, m, y, by simp, h1.2, h2, h3⟩
    · rcases List.append_eq_append_iff.1 e2 with ⟨d, rfl, rfl⟩ | ⟨d, rfl, rfl⟩
      · right; left
        rw [noneP_append] at h3
        exact ⟨⟨x, m, d, by simp, h1, h2, h3.1⟩, h3.2⟩
      · right; right
        rw [allP_append] at h2
        exact ⟨⟨x, c, rfl, h1, h2.1⟩, d, y, rfl, h2.2, h3⟩
  · rintro (⟨h, x, m, y, rfl, h1, h2, h3⟩ | ⟨⟨x, m, y, rfl, h1, h2, h3⟩, h⟩ | ⟨⟨x, c, rfl, h1, h2⟩, d, y, rfl, h3, h4⟩)
    · exact ⟨a ++ x, m, y, by simp, noneP_append.2 ⟨h, h1⟩, h2, h3⟩
    · exact ⟨x, m, y ++ b, by simp, h1, h2, noneP_append.2 ⟨h3, h⟩⟩
    · exact ⟨x, c ++ d, y, by simp, h1, allP_append.2 ⟨h2, h3⟩, h4⟩
theorem Tog.left (h : Tog p (a ++ b)) : Tog p a := by
  rcases tog_append.1 h with h | h | h
  · exact h.1.tog
  · exact h.1
  · exact h.1.tog
theorem Tog.right (h : Tog p (a ++ b)) : Tog p b := by
  rcases tog_append.1 h with h | h | h
  · exact h.2
  · exact h.2.tog
  · exact h.2.tog
/-- first not chosen, then chosen, then not chosen: three things -/
theorem not_tog {x y z : List Int} {u v w : Int} (hu : u ∈ x) (pu : p u = true) (hv : v ∈ y) (pv : p v = false) (hw : w ∈ z) (pw : p w = true) : ¬ Tog p (x ++ y ++ z) := by
  intro h
  rcases tog_append.1 h with ⟨h1, _⟩ | ⟨_, h2⟩ | ⟨h1, _⟩
  · rw [h1 u (List.mem_append_left _ hu)] at pu; cases pu
  · rw [h2 w hw] at pw; cases pw
  · rcases suf_append.1 h1 with ⟨h3, _⟩ | ⟨_, h3⟩
    · rw [h3 u hu] at pu; cases pu
    · rw [h3 v hv] at pv; cases pv
end
end K13

/-! K13 M2: shares and splitting. Plain Lean. -/
namespace K13

inductive Sh where
  | non | som | all
  deriving DecidableEq

/-- how the things of a tree are among the chosen ones -/
def sh (p : Int → Bool) (t : Tr) : Sh := if t.lv.all (fun x => !p x) then .non else if t.lv.all p then .all else .som
def wsh (p : Int → Bool) (s : Sh) (ps : List Tr) : List Tr := ps.filter fun q => decide (sh p q = s)
section
variable {p : Int → Bool} {t : Tr}
theorem sh_non : sh p t = .non ↔ NoneP p t.lv := by
  unfold sh NoneP
  by_cases h : t.lv.all (fun x => !p x) = true
  · rw [if_pos h]
    rw [List.all_eq_true] at h
    exact ⟨fun _ x hx => by have := h x hx; simpa using this, fun _ => rfl⟩
  · rw [if_neg h]
    constructor
    · intro e; split at e <;> cases e
    · intro e
      exact (h (List.all_eq_true.2 fun x hx => by rw [e x hx]; rfl)).elim
theorem sh_all (f : Form t) : sh p t = .all ↔ AllP p t.lv := by
  unfold sh AllP
  by_cases h : t.lv.all (fun x => !p x) = true
  · rw [if_pos h]
    rw [List.all_eq_true] at h
    constructor
    · intro e; cases e
    · intro e
      have : t.lv = [] := both_nil (p := p) e fun x hx => by have := h x hx; simpa using this
      exact (f.ne this).elim
  · rw [if_neg h]
    by_cases h2 : t.lv.all p = true
    · rw [if_pos h2]; exact ⟨fun _ => List.all_eq_true.1 h2, fun _ => rfl⟩
    · rw [if_neg h2]
      constructor
      · intro e; cases e
      · intro e; exact (h2 (List.all_eq_true.2 e)).elim
theorem sh_som (f : Form t) : sh p t = .som ↔ (∃ x ∈ t.lv, p x = true) ∧ (∃ x ∈ t.lv, p x = false) := by
  have a := sh_non (p := p) (t := t)
  have b := sh_all (p := p) f
  constructor
  · intro e
    constructor
    · apply Classical.byContradiction
      intro n
      have : sh p t = .non := a.2 fun x hx => by
        cases q : p x with
        | false => rfl
        | true => exact (n ⟨x, hx, q⟩).elim
      rw [e] at this; cases this
    · apply Classical.byContradiction
      intro n
      have : sh p t = .all := b.2 fun x hx => by
        cases q : p x with
        | true => rfl
        | false => exact (n ⟨x, hx, q⟩).elim
      rw [e] at this; cases this
  · rintro ⟨⟨x, hx, px⟩, ⟨y, hy, py⟩⟩
    cases e : sh p t with
    | som => rfl
    | non => rw [a.1 e x hx] at px; cases px
    | all => rw [b.1 e y hy] at py; cases py
theorem Tells.noneP {o : List Int} (h : Tells t o) (e : sh p t = .non) : NoneP p o := (sh_non.1 e).perm h.perm.symm
theorem Tells.allP {o : List Int} (f : Form t) (h : Tells t o) (e : sh p t = .all) : AllP p o := ((sh_all f).1 e).perm h.perm.symm
end

theorem seq_noneP {p : Int → Bool} {ps : List Tr} (h : ∀ q ∈ ps, sh p q = .non) {o : List Int} (s : Seq ps o) : NoneP p o := by
  intro x hx
  obtain ⟨q, hq, hxq⟩ := mem_lvs.1 (s.perm.mem_iff.1 hx)
  exact sh_non.1 (h q hq) x hxq
theorem seq_allP {p : Int → Bool} {ps : List Tr} (f : ∀ q ∈ ps, Form q) (h : ∀ q ∈ ps, sh p q = .all) {o : List Int} (s : Seq ps o) : AllP p o := by
  intro x hx
  obtain ⟨q, hq, hxq⟩ := mem_lvs.1 (s.perm.mem_iff.1 hx)
  exact (sh_all (f q hq)).1 (h q hq) x hxq
theorem of_noneP {p : Int → Bool} {ps : List Tr} {o : List Int} (s : Seq ps o) (n : NoneP p o) : ∀ q ∈ ps, sh p q = .non := fun q hq =>
  sh_non.2 fun x hx => n x (s.perm.mem_iff.2 (mem_lvs.2 ⟨q, hq, hx⟩))
theorem of_allP {p : Int → Bool} {ps : List Tr} (f : ∀ q ∈ ps, Form q) {o : List Int} (s : Seq ps o) (n : AllP p o) : ∀ q ∈ ps, sh p q = .all := fun q hq =>
  (sh_all (f q hq)).2 fun x hx => n x (s.perm.mem_iff.2 (mem_lvs.2 ⟨q, hq, hx⟩))

/-! ### joining parts -/
def mkAny : List Tr → Tr
  | [t] => t
  | ps => .node false ps
def mkRow (ps : List Tr) : Tr := if ps.length < 3 then mkAny ps else .node true ps
def optAny (ps : List Tr) : List Tr := if ps = [] then [] else [mkAny ps]
theorem perm_one {α : Type} {xs : List α} {x : α} (h : xs.Perm [x]) : xs = [x] := List.perm_singleton.1 h
theorem mkAny_two {ps : List Tr} (h : 2 ≤ ps.length) : mkAny ps = .node false ps := by
  match ps, h with
  | _ :: _ :: _, _ => rfl
theorem tells_mkAny {ps : List Tr} (h : ps ≠ []) {o : List Int} : Tells (mkAny ps) o ↔ ∃ qs, qs.Perm ps ∧ Seq qs o := by
  match ps, h with
  | [t], _ =>
    constructor
    · intro e; exact ⟨[t], .refl _, seq_one.2 e⟩
    · rintro ⟨qs, h1, h2⟩
      rw [perm_one h1] at h2
      exact seq_one.1 h2
  | a :: b :: r, _ => exact tells_any
theorem seq_optAny {ps : List Tr} {o : List Int} : Seq (optAny ps) o ↔ ∃ qs, qs.Perm ps ∧ Seq qs o := by
  unfold optAny
  by_cases h : ps = []
  · subst h
    rw [if_pos rfl]
    constructor
    · intro e; exact ⟨[], .nil, e⟩
    · rintro ⟨qs, h1, h2⟩
      rw [List.perm_nil.1 h1] at h2
      exact h2
  · rw [if_neg h, seq_one, tells_mkAny h]
theorem form_mkAny {ps : List Tr} (h : ps ≠ []) (f : ∀ q ∈ ps, Form q) : Form (mkAny ps) := by
  match ps, h with
  | [t], _ => exact f t List.mem_cons_self
  | a :: b :: r, _ => exact .node (by simp) (fun h => nomatch h) f
theorem form_optAny {ps : List Tr} (f : ∀ q ∈ ps, Form q) : ∀ q ∈ optAny ps, Form q := by
  unfold optAny
  split
  · intro q h; cases h
  · rename_i h
    intro q hq
    rw [List.mem_singleton] at hq
    subst hq
    exact form_mkAny h f
theorem len_optAny {ps : List Tr} (h : ps ≠ []) : (optAny ps).length = 1 := by
  unfold optAny; rw [if_neg h]; rfl

/-! ### the shape -/
structure Shp (p : Int → Bool) (qs es ms fs : List Tr) : Prop where
  eq : qs = es ++ ms ++ fs
  e : ∀ q ∈ es, sh p q = .non
  m : ∀ q ∈ ms, sh p q = .som
  one : ms.length ≤ 1
  f : ∀ q ∈ fs, sh p q = .all

theorem filter_all {α : Type} {g : α → Bool} {xs : List α} (h : ∀ x ∈ xs, g x = true) : xs.filter g = xs := List.filter_eq_self.2 h
theorem filter_no {α : Type} {g : α → Bool} {xs : List α} (h : ∀ x ∈ xs, g x = false) : xs.filter g = [] := List.filter_eq_nil_iff.2 fun x hx => by rw [h x hx]; exact Bool.false_ne_true
theorem wsh_same {p : Int → Bool} {s : Sh} {ps : List Tr} (h : ∀ q ∈ ps, sh p q = s) : wsh p s ps = ps := filter_all fun q hq => decide_eq_true (h q hq)
theorem wsh_other {p : Int → Bool} {s s' : Sh} (n : s' ≠ s) {ps : List Tr} (h : ∀ q ∈ ps, sh p q = s') : wsh p s ps = [] := filter_no fun q hq => decide_eq_false fun e => n ((h q hq).symm.trans e)
theorem wsh_append {p : Int → Bool} {s : Sh} {ps qs : List Tr} : wsh p s (ps ++ qs) = wsh p s ps ++ wsh p s qs := List.filter_append ..
theorem wsh_perm {p : Int → Bool} {s : Sh} {ps qs : List Tr} (h : ps.Perm qs) : (wsh p s ps).Perm (wsh p s qs) := h.filter _
theorem mem_wsh {p : Int → Bool} {s : Sh} {ps : List Tr} {q : Tr} : q ∈ wsh p s ps ↔ q ∈ ps ∧ sh p q = s := by
  unfold wsh; rw [List.mem_filter, decide_eq_true_iff]
theorem Shp.non {p : Int → Bool} {qs es ms fs : List Tr} (h : Shp p qs es ms fs) : wsh p .non qs = es := by
  rw [h.eq, wsh_append, wsh_append, wsh_same h.e, wsh_other (by decide) h.m, wsh_other (by decide) h.f]; simp
theorem Shp.som {p : Int → Bool} {qs es ms fs : List Tr} (h : Shp p qs es ms fs) : wsh p .som qs = ms := by
  rw [h.eq, wsh_append, wsh_append, wsh_same h.m, wsh_other (by decide) h.e, wsh_other (by decide) h.f]; simp
theorem Shp.all {p : Int → Bool} {qs es ms fs : List Tr} (h : Shp p qs es ms fs) : wsh p .all qs = fs := by
  rw [h.eq, wsh_append, wsh_append, wsh_same h.f, wsh_other (by decide) h.m, wsh_other (by decide) h.e]; simp
theorem wsh_parts {p : Int → Bool} (ps : List Tr) : (wsh p .non ps ++ wsh p .som ps ++ wsh p .all ps).Perm ps := by
  induction ps with
  | nil => exact .nil
  | cons q r ih =>
    cases e : sh p q with
    | non =>
      have h1 : wsh p .non (q :: r) = q :: wsh p .non r := List.filter_cons_of_pos (decide_eq_true e)
      have h2 : wsh p .som (q :: r) = wsh p .som r := List.filter_cons_of_neg (by rw [e]; decide)
      have h3 : wsh p .all (q :: r) = wsh p .all r := List.filter_cons_of_neg (by rw [e]; decide)
      rw [h1, h2, h3]
      exact ih.cons q
    | som =>
      have h1 : wsh p .non (q :: r) = wsh p .non r := List.filter_cons_of_neg (by rw [e]; decide)
      have h2 : wsh p .som (q :: r) = q :: wsh p .som r := List.filter_cons_of_pos (decide_eq_true e)
      have h3 : wsh p .all (q :: r) = wsh p .all r := List.filter_cons_of_neg (by rw [e]; decide)
      rw [h1, h2, h3, List.append_assoc, List.cons_append]
      refine List.perm_middle.trans ?_
      rw [← List.append_assoc]
      exact ih.cons q
    | all =>
      have h1 : wsh p .non (q :: r) = wsh p .non r := List.filter_cons_of_neg (by rw [e]; decide)
      have h2 : wsh p .som (q :: r) = wsh p .som r := List.filter_cons_of_neg (by rw [e]; decide)
      have h3 : wsh p .all (q :: r) = q :: wsh p .all r := List.filter_cons_of_pos (decide_eq_true e)
      rw [h1, h2, h3]
      exact List.perm_middle.trans (ih.cons q)

/-- an order told by a sequence of trees ends with the chosen things: the trees stand by their shares -/
theorem suf_seq {p : Int → Bool} {qs : List Tr} (F : ∀ q ∈ qs, Form q) : ∀ {o : List Int}, Seq qs o → Suf p o → ∃ es ms fs, Shp p qs es ms fs := by
  induction qs with
  | nil => intro o _ _; exact ⟨[], [], [], rfl, (fun _ h => nomatch h), (fun _ h => nomatch h), Nat.zero_le _, fun _ h => nomatch h⟩
  | cons q r ih =>
    intro o h hs
    obtain ⟨a, b, rfl, h1, h2⟩ := seq_cons.1 h
    have Fr : ∀ q ∈ r, Form q := fun x hx => F x (List.mem_cons_of_mem _ hx)
    have Fq := F q List.mem_cons_self
    rcases suf_append.1 hs with ⟨h3, h4⟩ | ⟨h3, h4⟩
    · obtain ⟨es, ms, fs, S⟩ := ih Fr h2 h4
      have hq : sh p q = .non := sh_non.2 (h3.perm h1.perm)
      refine ⟨q :: es, ms, fs, by rw [S.eq]; rfl, ?_, S.m, S.one, S.f⟩
      intro x hx
      rcases List.mem_cons.1 hx with rfl | hx
      · exact hq
      · exact S.e x hx
    · have hr := of_allP Fr h2 h4
      cases e : sh p q with
      | non => exact ⟨[q], [], r, rfl, fun x hx => by rw [List.mem_singleton] at hx; subst hx; exact e, (fun _ h => nomatch h), Nat.zero_le _, hr⟩
      | som => exact ⟨[], [q], r, rfl, (fun _ h => nomatch h), fun x hx => by rw [List.mem_singleton] at hx; subst hx; exact e, Nat.le_refl _, hr⟩
      | all => exact ⟨[], [], q :: r, rfl, (fun _ h => nomatch h), (fun _ h => nomatch h), Nat.zero_le _, fun x hx => by
          rcases List.mem_cons.1 hx with rfl | hx
          · exact e
          · exact hr x hx⟩
theorem suf_shape {p : Int → Bool} {qs es ms fs : List Tr} (F : ∀ q ∈ qs, Form q) (S : Shp p qs es ms fs) {o : List Int} :
    (Seq qs o ∧ Suf p o) ↔ ∃ oe om of, o = oe ++ om ++ of ∧ Seq es oe ∧ (Seq ms om ∧ Suf p om) ∧ Seq fs of := by
  have Ff : ∀ q ∈ fs, Form q := fun q hq => F q (by rw [S.eq]; exact List.mem_append_right _ hq)
  constructor
  · rintro ⟨h, hs⟩
    rw [S.eq, seq_append] at h
    obtain ⟨x, of, rfl, h1, h2⟩ := h
    obtain ⟨oe, om, rfl, h3, h4⟩ := seq_append.1 h1
    refine ⟨oe, om, of, rfl, h3, ⟨h4, ?_⟩, h2⟩
    have n := seq_noneP S.e h3
    rcases suf_append.1 hs with ⟨h5, h6⟩ | ⟨h5, h6⟩
    · exact ((noneP_append.1 h5).2).suf
    · rcases suf_append.1 h5 with ⟨_, h7⟩ | ⟨_, h7⟩
      · exact h7
      · exact h7.suf
  · rintro ⟨oe, om, of, rfl, h1, ⟨h2, h3⟩, h4⟩
    refine ⟨by rw [S.eq]; exact (h1.app h2).app h4, ?_⟩
    have n := seq_noneP S.e h1
    have a := seq_allP Ff S.f h4
    exact suf_append.2 (.inr ⟨suf_append.2 (.inl ⟨n, h3⟩), a⟩)

/-! ### splitting -/
abbrev Inner := Tr → Option (List Tr)
def splitAny (p : Int → Bool) (inner : Inner) (ps : List Tr) : Option (List Tr) :=
  match wsh p .som ps with
  | [] => some (optAny (wsh p .non ps) ++ optAny (wsh p .all ps))
  | [m] => (inner m).map fun L => optAny (wsh p .non ps) ++ L ++ optAny (wsh p .all ps)
  | _ => none
def rank : Sh → Int
  | .non => 0
  | .som => 1
  | .all => 2
def Asc (ss : List Sh) : Prop := (ss.map rank).Pairwise (· ≤ ·) ∧ (ss.map rank).count 1 < 2
instance (ss : List Sh) : Decidable (Asc ss) := by unfold Asc; infer_instance
def expand (p : Int → Bool) (inner : Inner) : List Tr → Option (List Tr)
  | [] => some []
  | q :: qs => if sh p q = .som then (inner q).bind fun L => (expand p inner qs).map fun R => L ++ R else (expand p inner qs).map fun R => q :: R
def splitRow (p : Int → Bool) (inner : Inner) (ps : List Tr) : Option (List Tr) :=
  let told := if Asc (ps.map (sh p)) then ps else ps.reverse
  if Asc (told.map (sh p)) then expand p inner told else none
def split (p : Int → Bool) : Nat → Inner
  | 0, _ => none
  | _ + 1, .thing _ => none
  | n + 1, .node false ps => splitAny p (split p n) ps
  | n + 1, .node true ps => splitRow p (split p n) ps

structure SplitSome (p : Int → Bool) (t : Tr) (L : List Tr) : Prop where
  iff : ∀ o, Seq L o ↔ Tells t o ∧ Suf p o
  form : ∀ q ∈ L, Form q
  two : 2 ≤ L.length
def SplitOK (p : Int → Bool) (t : Tr) : Option (List Tr) → Prop
  | none => ∀ o, Tells t o → ¬ Suf p o
  | some L => SplitSome p t L

theorem rank_le {a b : Sh} : rank a ≤ rank b → (b = .non → a = .non) ∧ (a = .all → b = .all) := by
  cases a <;> cases b <;> decide
theorem asc_of {p : Int → Bool} {qs : List Tr} : Asc (qs.map (sh p)) ↔ ∃ es ms fs, Shp p qs es ms fs := by
  constructor
  · rintro ⟨h1, h2⟩
    induction qs with
    | nil => exact ⟨[], [], [], rfl, (fun _ h => nomatch h), (fun _ h => nomatch h), Nat.zero_le _, fun _ h => nomatch h⟩
    | cons q r ih =>
      rw [List.map_cons, List.map_cons, List.pairwise_cons] at h1
      rw [List.map_cons, List.map_cons, List.count_cons] at h2
      have hall : rank (sh p q) ≥ 1 → (∀ x ∈ r, rank (sh p x) ≠ 1) → ∀ x ∈ r, sh p x = .all := by
        intro g n x hx
        have := h1.1 (rank (sh p x)) (List.mem_map.2 ⟨_, List.mem_map.2 ⟨x, hx, rfl⟩, rfl⟩)
        have nn := n x hx
        revert this nn g
        cases sh p q <;> cases sh p x <;> decide
      cases e : sh p q with
      | non =>
        rw [e] at h2
        obtain ⟨es, ms, fs, S⟩ := ih h1.2 (by simpa [rank] using h2)
        refine ⟨q :: es, ms, fs, by rw [S.eq]; rfl, ?_, S.m, S.one, S.f⟩
        intro x hx
        rcases List.mem_cons.1 hx with rfl | hx
        · exact e
        · exact S.e x hx
      | som =>
        rw [e] at h2
        have h3 : List.count 1 (List.map rank (List.map (sh p) r)) = 0 := by
          have : (rank .som == (1 : Int)) = true := by decide
          rw [this, if_pos rfl] at h2
          omega
        have hr : ∀ x ∈ r, sh p x = .all := hall (by rw [e]; decide) fun x hx z => by
          have := List.count_eq_zero.1 h3
          exact this (List.mem_map.2 ⟨_, List.mem_map.2 ⟨x, hx, rfl⟩, z⟩)
        exact ⟨[], [q], r, rfl, (fun _ h => nomatch h), fun x hx => by rw [List.mem_singleton] at hx; subst hx; exact e, Nat.le_refl _, hr⟩
      | all =>
        have hr : ∀ x ∈ r, sh p x = .all := fun x hx => by
          have := h1.1 (rank (sh p x)) (List.mem_map.2 ⟨_, List.mem_map.2 ⟨x, hx, rfl⟩, rfl⟩)
          exact (rank_le this).2 e
        exact ⟨[], [], q :: r, rfl, (fun _ h => nomatch h), (fun _ h => nomatch h), Nat.zero_le _, fun x hx => by
          rcases List.mem_cons.1 hx with rfl | hx
          · exact e
          · exact hr x hx⟩
  · rintro ⟨es, ms, fs, S⟩
    have ee : (es.map (sh p)).map rank = List.replicate es.length 0 := by
      rw [List.map_map]
      refine List.eq_replicate_iff.2 ⟨by simp, fun x hx => ?_⟩
      obtain ⟨q, hq, rfl⟩ := List.mem_map.1 hx
      show rank (sh p q) = 0
      rw [S.e q hq]; rfl
    have ef : (fs.map (sh p)).map rank = List.replicate fs.length 2 := by
      rw [List.map_map]
      refine List.eq_replicate_iff.2 ⟨by simp, fun x hx => ?_⟩
      obtain ⟨q, hq, rfl⟩ := List.mem_map.1 hx
      show rank (sh p q) = 2
      rw [S.f q hq]; rfl
    have em : (ms.map (sh p)).map rank = List.replicate ms.length 1 := by
      rw [List.map_map]
      refine List.eq_replicate_iff.2 ⟨by simp, fun x hx => ?_⟩
      obtain ⟨q, hq, rfl⟩ := List.mem_map.1 hx
      show rank (sh p q) = 1
      rw [S.m q hq]; rfl
    have one := S.one
    unfold Asc
    rw [S.eq]
    simp only [List.map_append, ee, em, ef]
    constructor
    · rw [List.pairwise_append, List.pairwise_append]
      refine ⟨⟨(List.pairwise_replicate.2 (.inr (Int.le_refl _))), (List.pairwise_replicate.2 (.inr (Int.le_refl _))), ?_⟩, (List.pairwise_replicate.2 (.inr (Int.le_refl _))), ?_⟩
      · intro a ha b hb
        rw [List.eq_of_mem_replicate ha, List.eq_of_mem_replicate hb]; decide
      · intro a ha b hb
        rw [List.eq_of_mem_replicate hb]
        rcases List.mem_append.1 ha with ha | ha <;> rw [List.eq_of_mem_replicate ha] <;> decide
    · simp only [List.count_append, List.count_replicate]
      simp
      omega

theorem expand_plain {p : Int → Bool} {inner : Inner} {qs : List Tr} (h : ∀ q ∈ qs, sh p q ≠ .som) : expand p inner qs = some qs := by
  induction qs with
  | nil => rfl
  | cons q r ih =>
    unfold expand
    rw [if_neg (h q List.mem_cons_self), ih fun x hx => h x (List.mem_cons_of_mem _ hx)]
    rfl
theorem expand_cons {p : Int → Bool} {inner : Inner} {q : Tr} {qs : List Tr} : expand p inner (q :: qs) = if sh p q = .som then (inner q).bind fun L => (expand p inner qs).map fun R => L ++ R else (expand p inner qs).map fun R => q :: R := rfl
theorem expand_append {p : Int → Bool} {inner : Inner} {xs ys : List Tr} : expand p inner (xs ++ ys) = (expand p inner xs).bind fun a => (expand p inner ys).map fun b => a ++ b := by
  induction xs with
  | nil =>
    show expand p inner ys = (some []).bind _
    cases expand p inner ys <;> rfl
  | cons q r ih =>
    rw [List.cons_append, expand_cons, expand_cons, ih]
    by_cases e : sh p q = .som
    · rw [if_pos e, if_pos e]
      cases inner q <;> cases expand p inner r <;> cases expand p inner ys <;> simp
    · rw [if_neg e, if_neg e]
      cases expand p inner r <;> cases expand p inner ys <;> simp
theorem expand_shape0 {p : Int → Bool} {inner : Inner} {qs es fs : List Tr} (S : Shp p qs es [] fs) : expand p inner qs = some (es ++ fs) := by
  have he : expand p inner es = some es := expand_plain fun q hq => by rw [S.e q hq]; decide
  have hf : expand p inner fs = some fs := expand_plain fun q hq => by rw [S.f q hq]; decide
  rw [S.eq, List.append_nil, expand_append, he, hf]
  rfl
theorem expand_shape1 {p : Int → Bool} {inner : Inner} {qs es fs : List Tr} {m : Tr} (S : Shp p qs es [m] fs) : expand p inner qs = (inner m).map fun L => es ++ L ++ fs := by
  have he : expand p inner es = some es := expand_plain fun q hq => by rw [S.e q hq]; decide
  have hf : expand p inner fs = some fs := expand_plain fun q hq => by rw [S.f q hq]; decide
  have hm : expand p inner [m] = inner m := by
    rw [expand_cons, if_pos (S.m m List.mem_cons_self)]
    cases inner m <;> simp [expand]
  rw [S.eq, expand_append, expand_append, he, hf, hm]
  cases inner m <;> simp

/-- the sequence of a shape, its middle split -/
theorem shape_ok {p : Int → Bool} {inner : Inner} {qs es ms fs : List Tr} (F : ∀ q ∈ qs, Form q) (S : Shp p qs es ms fs) (I : ∀ q ∈ qs, sh p q = .som → SplitOK p q (inner q)) :
    match expand p inner qs with
    | none => ∀ o, Seq qs o → ¬ Suf p o
    | some L => (∀ o, Seq L o ↔ Seq qs o ∧ Suf p o) ∧ (∀ q ∈ L, Form q) ∧ qs.length ≤ L.length := by
  have one := S.one
  match ms, S, one with
  | [], S, _ =>
    rw [expand_shape0 S]
    have e : qs = es ++ fs := by rw [S.eq, List.append_nil]
    show (∀ o, Seq (es ++ fs) o ↔ Seq qs o ∧ Suf p o) ∧ (∀ q ∈ es ++ fs, Form q) ∧ qs.length ≤ (es ++ fs).length
    refine ⟨fun o => ?_, fun q hq => F q (by rw [e]; exact hq), by rw [e]; exact Nat.le_refl _⟩
    rw [suf_shape F S, seq_append]
    constructor
    · rintro ⟨a, b, rfl, h1, h2⟩
      exact ⟨a, [], b, by simp, h1, ⟨.nil, noneP_nil.suf⟩, h2⟩
    · rintro ⟨oe, om, of, rfl, h1, ⟨h2, _⟩, h4⟩
      rw [seq_nil] at h2; subst h2
      exact ⟨oe, of, by simp, h1, h4⟩
  | [m], S, _ =>
    rw [expand_shape1 S]
    have hm : m ∈ qs := by rw [S.eq]; simp
    have im := I m hm (S.m m List.mem_cons_self)
    show match (inner m).map fun L => es ++ L ++ fs with
      | none => ∀ o, Seq qs o → ¬ Suf p o
      | some L => (∀ o, Seq L o ↔ Seq qs o ∧ Suf p o) ∧ (∀ q ∈ L, Form q) ∧ qs.length ≤ L.length
    cases e : inner m with
    | none =>
      rw [e] at im
      show ∀ o, Seq qs o → ¬ Suf p o
      intro o h1 h2
      obtain ⟨oe, om, of, rfl, h1, ⟨h2, h3⟩, h4⟩ := (suf_shape F S).1 ⟨h1, h2⟩
      exact im om (seq_one.1 h2) h3
    | some L =>
      rw [e] at im
      have im' : SplitSome p m L := im
      show (∀ o, Seq (es ++ L ++ fs) o ↔ Seq qs o ∧ Suf p o) ∧ (∀ q ∈ es ++ L ++ fs, Form q) ∧ qs.length ≤ (es ++ L ++ fs).length
      refine ⟨fun o => ?_, fun q hq => ?_, ?_⟩
      · rw [suf_shape F S, seq_append]
        constructor
        · rintro ⟨x, b, rfl, h1, h2⟩
          obtain ⟨a, c, rfl, h3, h4⟩ := seq_append.1 h1
          have := (im'.iff c).1 h4
          exact ⟨a, c, b, rfl, h3, ⟨seq_one.2 this.1, this.2⟩, h2⟩
        · rintro ⟨oe, om, of, rfl, h1, ⟨h2, h3⟩, h4⟩
          exact ⟨oe ++ om, of, rfl, h1.app ((im'.iff om).2 ⟨seq_one.1 h2, h3⟩), h4⟩
      · rcases List.mem_append.1 hq with hq | hq
        · rcases List.mem_append.1 hq with hq | hq
          · exact F q (by rw [S.eq]; simp [hq])
          · exact im'.form q hq
        · exact F q (by rw [S.eq]; simp [hq])
      · rw [S.eq]
        have := im'.two
        simp only [List.length_append, List.length_cons, List.length_nil]
        omega
  | _ :: _ :: _, _, h => simp at h

theorem splitAny_ok {p : Int → Bool} {inner : Inner} {ps : List Tr} (F : Form (.node false ps)) (hs : sh p (.node false ps) = .som) (I : ∀ q ∈ ps, sh p q = .som → SplitOK p q (inner q)) :
    SplitOK p (.node false ps) (splitAny p inner ps) := by
  have Fp := F.parts
  have key : ∀ o, Tells (.node false ps) o ∧ Suf p o ↔ ∃ es ms fs oe om of, es.Perm (wsh p .non ps) ∧ ms.Perm (wsh p .som ps) ∧ fs.Perm (wsh p .all ps) ∧ ms.length ≤ 1 ∧ o = oe ++ om ++ of ∧ Seq es oe ∧ (Seq ms om ∧ Suf p om) ∧ Seq fs of := by
    intro o
    constructor
    · rintro ⟨h1, h2⟩
      obtain ⟨qs, hp, hq⟩ := tells_any.1 h1
      have Fq : ∀ q ∈ qs, Form q := fun q h => Fp q (hp.mem_iff.1 h)
      obtain ⟨es, ms, fs, S⟩ := suf_seq Fq hq h2
      obtain ⟨oe, om, of, e, a, b, c⟩ := (suf_shape Fq S).1 ⟨hq, h2⟩
      exact ⟨es, ms, fs, oe, om, of, S.non ▸ wsh_perm hp, S.som ▸ wsh_perm hp, S.all ▸ wsh_perm hp, S.one, e, a, b, c⟩
    · rintro ⟨es, ms, fs, oe, om, of, h1, h2, h3, one, rfl, a, b, c⟩
      have hp : (es ++ ms ++ fs).Perm ps := ((h1.append h2).append h3).trans (wsh_parts ps)
      have S : Shp p (es ++ ms ++ fs) es ms fs := ⟨rfl, fun q hq => (mem_wsh.1 (h1.mem_iff.1 hq)).2, fun q hq => (mem_wsh.1 (h2.mem_iff.1 hq)).2, one, fun q hq => (mem_wsh.1 (h3.mem_iff.1 hq)).2⟩
      have := (suf_shape (fun q h => Fp q (hp.mem_iff.1 h)) S).2 ⟨oe, om, of, rfl, a, b, c⟩
      exact ⟨.any hp this.1, this.2⟩
  have fe : ∀ q ∈ optAny (wsh p .non ps), Form q := form_optAny fun q hq => Fp q (mem_wsh.1 hq).1
  have ff : ∀ q ∈ optAny (wsh p .all ps), Form q := form_optAny fun q hq => Fp q (mem_wsh.1 hq).1
  unfold splitAny
  match hm : wsh p .som ps with
  | [] =>
    show SplitSome p _ (optAny (wsh p .non ps) ++ optAny (wsh p .all ps))
    refine ⟨fun o => ?_, fun q hq => (List.mem_append.1 hq).elim (fe q) (ff q), ?_⟩
    · rw [key o, seq_append]
      constructor
      · rintro ⟨a, b, rfl, h1, h2⟩
        obtain ⟨es, h3, h4⟩ := seq_optAny.1 h1
        obtain ⟨fs, h5, h6⟩ := seq_optAny.1 h2
        exact ⟨es, [], fs, a, [], b, h3, by rw [hm], h5, Nat.zero_le _, by simp, h4, ⟨.nil, noneP_nil.suf⟩, h6⟩
      · rintro ⟨es, ms, fs, oe, om, of, h1, h2, h3, one, rfl, a, b, c⟩
        rw [hm, List.perm_nil] at h2; subst h2
        have := seq_nil.1 b.1; subst this
        exact ⟨oe, of, by simp, seq_optAny.2 ⟨es, h1, a⟩, seq_optAny.2 ⟨fs, h3, c⟩⟩
    · obtain ⟨⟨x, hx, px⟩, ⟨y, hy, py⟩⟩ := (sh_som F).1 hs
      rw [lv_node] at hx hy
      obtain ⟨q, hq, hxq⟩ := mem_lvs.1 hx
      obtain ⟨r, hr, hyr⟩ := mem_lvs.1 hy
      have nosom : ∀ z ∈ ps, sh p z ≠ .som := fun z hz e => by
        have : z ∈ wsh p .som ps := mem_wsh.2 ⟨hz, e⟩
        rw [hm] at this; cases this
      have h1 : wsh p .all ps ≠ [] := fun e => by
        have : q ∈ wsh p .all ps := mem_wsh.2 ⟨hq, by
          cases e1 : sh p q with
          | non => rw [sh_non.1 e1 x hxq] at px; cases px
          | som => exact (nosom q hq e1).elim
          | all => rfl⟩
        rw [e] at this; cases this
      have h2 : wsh p .non ps ≠ [] := fun e => by
        have : r ∈ wsh p .non ps := mem_wsh.2 ⟨hr, by
          cases e1 : sh p r with
          | all => rw [(sh_all (Fp r hr)).1 e1 y hyr] at py; cases py
          | som => exact (nosom r hr e1).elim
          | non => rfl⟩
        rw [e] at this; cases this
      rw [List.length_append, len_optAny h1, len_optAny h2]
      exact Nat.le_refl _
  | [m] =>
    have hmm : m ∈ wsh p .som ps := by rw [hm]; exact List.mem_cons_self
    have im := I m (mem_wsh.1 hmm).1 (mem_wsh.1 hmm).2
    show SplitOK p _ ((inner m).map fun L => optAny (wsh p .non ps) ++ L ++ optAny (wsh p .all ps))
    cases e : inner m with
    | none =>
      rw [e] at im
      show ∀ o, Tells (.node false ps) o → ¬ Suf p o
      intro o k1 k2
      obtain ⟨es, ms, fs, oe, om, of, h1, h2, h3, one, rfl, a, b, c⟩ := (key o).1 ⟨k1, k2⟩
      rw [hm] at h2
      have := perm_one h2; subst this
      exact im om (seq_one.1 b.1) b.2
    | some L =>
      rw [e] at im
      have im' : SplitSome p m L := im
      show SplitSome p _ (optAny (wsh p .non ps) ++ L ++ optAny (wsh p .all ps))
      refine ⟨fun o => ?_, fun q hq => ?_, ?_⟩
      · rw [key o, seq_append]
        constructor
        · rintro ⟨x, b, rfl, h1, h2⟩
          obtain ⟨a, c, rfl, h3, h4⟩ := seq_append.1 h1
          obtain ⟨es, h5, h6⟩ := seq_optAny.1 h3
          obtain ⟨fs, h7, h8⟩ := seq_optAny.1 h2
          have := (im'.iff c).1 h4
          exact ⟨es, [m], fs, a, c, b, h5, by rw [hm], h7, Nat.le_refl _, rfl, h6, ⟨seq_one.2 this.1, this.2⟩, h8⟩
        · rintro ⟨es, ms, fs, oe, om, of, h1, h2, h3, one, rfl, a, b, c⟩
          rw [hm] at h2
          have := perm_one h2; subst this
          exact ⟨oe ++ om, of, rfl, (seq_optAny.2 ⟨es, h1, a⟩).app ((im'.iff om).2 ⟨seq_one.1 b.1, b.2⟩), seq_optAny.2 ⟨fs, h3, c⟩⟩
      · rcases List.mem_append.1 hq with hq | hq
        · rcases List.mem_append.1 hq with hq | hq
          · exact fe q hq
          · exact im'.form q hq
        · exact ff q hq
      · have := im'.two
        rw [List.length_append, List.length_append]
        omega
  | m :: m' :: r =>
    show ∀ o, Tells (.node false ps) o → ¬ Suf p o
    intro o k1 k2
    obtain ⟨es, ms, fs, oe, om, of, h1, h2, h3, one, rfl, a, b, c⟩ := (key o).1 ⟨k1, k2⟩
    have := h2.length_eq
    rw [hm] at this
    simp at this
    omega

/-- both sequences of a row cannot stand by their shares -/
theorem shp_both {p : Int → Bool} {qs es ms fs es' ms' fs' : List Tr} (F : ∀ q ∈ qs, Form q) (two : 2 ≤ qs.length) (S : Shp p qs es ms fs) (S' : Shp p qs.reverse es' ms' fs') : (∀ q ∈ qs, sh p q = .non) ∨ (∀ q ∈ qs, sh p q = .all) := by
  have A := (asc_of.2 ⟨es, ms, fs, S⟩).1
  have A' := (asc_of.2 ⟨es', ms', fs', S'⟩).1
  have c := (asc_of.2 ⟨es, ms, fs, S⟩).2
  rw [List.map_map] at A A' c
  rw [List.map_reverse, List.pairwise_reverse] at A'
  match qs, two, A, A', c, F with
  | q :: q2 :: r, _, A, A', c, F =>
    rw [List.map_cons, List.pairwise_cons] at A A'
    have e : ∀ x ∈ q2 :: r, rank (sh p x) = rank (sh p q) := fun x hx => by
      have h1 := A.1 (rank (sh p x)) (List.mem_map.2 ⟨x, hx, rfl⟩)
      have h2 := A'.1 (rank (sh p x)) (List.mem_map.2 ⟨x, hx, rfl⟩)
      exact Int.le_antisymm h2 h1
    have e' : ∀ x ∈ q2 :: r, sh p x = sh p q := fun x hx => by
      have := e x hx
      revert this
      cases sh p x <;> cases sh p q <;> decide
    cases h : sh p q with
    | non => left; intro x hx; rcases List.mem_cons.1 hx with rfl | hx; exact h; rw [e' x hx, h]
    | all => right; intro x hx; rcases List.mem_cons.1 hx with rfl | hx; exact h; rw [e' x hx, h]
    | som =>
      exfalso
      rw [List.map_cons, List.map_cons] at c
      have h2 := e' q2 List.mem_cons_self
      simp only [Function.comp, h2, h, rank] at c
      simp at c
      omega
theorem not_flat {p : Int → Bool} {b : Bool} {ps : List Tr} (F : Form (.node b ps)) (hs : sh p (.node b ps) = .som) : ¬ ((∀ q ∈ ps, sh p q = .non) ∨ (∀ q ∈ ps, sh p q = .all)) := by
  obtain ⟨⟨x, hx, px⟩, ⟨y, hy, py⟩⟩ := (sh_som F).1 hs
  rw [lv_node] at hx hy
  obtain ⟨q, hq, hxq⟩ := mem_lvs.1 hx
  obtain ⟨r, hr, hyr⟩ := mem_lvs.1 hy
  rintro (h | h)
  · rw [sh_non.1 (h q hq) x hxq] at px; cases px
  · rw [(sh_all (F.parts r hr)).1 (h r hr) y hyr] at py; cases py
theorem splitRow_ok {p : Int → Bool} {inner : Inner} {ps : List Tr} (F : Form (.node true ps)) (hs : sh p (.node true ps) = .som) (I : ∀ q ∈ ps, sh p q = .som → SplitOK p q (inner q)) :
    SplitOK p (.node true ps) (splitRow p inner ps) := by
  have Fp := F.parts
  have Fr : ∀ q ∈ ps.reverse, Form q := fun q h => Fp q (List.mem_reverse.1 h)
  have Ir : ∀ q ∈ ps.reverse, sh p q = .som → SplitOK p q (inner q) := fun q h => I q (List.mem_reverse.1 h)
  unfold splitRow
  by_cases h1 : Asc (ps.map (sh p))
  · simp only [if_pos h1]
    obtain ⟨es, ms, fs, S⟩ := asc_of.1 h1
    have no : ∀ o, Seq ps.reverse o → ¬ Suf p o := fun o h2 h3 => by
      obtain ⟨es', ms', fs', S'⟩ := suf_seq Fr h2 h3
      exact not_flat F hs (shp_both Fp F.two S S')
    have ok := shape_ok Fp S I
    cases e : expand p inner ps with
    | none =>
      rw [e] at ok
      intro o h2 h3
      rcases tells_row.1 h2 with h2 | h2
      · exact ok o h2 h3
      · exact no o h2 h3
    | some L =>
      rw [e] at ok
      obtain ⟨ok1, ok2, ok3⟩ := ok
      refine ⟨fun o => ?_, ok2, Nat.le_trans F.two ok3⟩
      rw [ok1 o, tells_row]
      constructor
      · rintro ⟨a, b⟩; exact ⟨.inl a, b⟩
      · rintro ⟨a | a, b⟩
        · exact ⟨a, b⟩
        · exact (no o a b).elim
  · simp only [if_neg h1]
    have no : ∀ o, Seq ps o → ¬ Suf p o := fun o h2 h3 => h1 (asc_of.2 (suf_seq Fp h2 h3))
    by_cases h2 : Asc (ps.reverse.map (sh p))
    · rw [if_pos h2]
      obtain ⟨es, ms, fs, S⟩ := asc_of.1 h2
      have ok := shape_ok Fr S Ir
      cases e : expand p inner ps.reverse with
      | none =>
        rw [e] at ok
        intro o h2 h3
        rcases tells_row.1 h2 with h2 | h2
        · exact no o h2 h3
        · exact ok o h2 h3
      | some L =>
        rw [e] at ok
        obtain ⟨ok1, ok2, ok3⟩ := ok
        rw [List.length_reverse] at ok3
        refine ⟨fun o => ?_, ok2, Nat.le_trans F.two ok3⟩
        rw [ok1 o, tells_row]
        constructor
        · rintro ⟨a, b⟩; exact ⟨.inr a, b⟩
        · rintro ⟨a | a, b⟩
          · exact (no o a b).elim
          · exact ⟨a, b⟩
    · rw [if_neg h2]
      intro o h3 h4
      rcases tells_row.1 h3 with h3 | h3
      · exact no o h3 h4
      · exact h2 (asc_of.2 (suf_seq Fr h3 h4))

theorem split_ok {p : Int → Bool} : ∀ (n : Nat) (t : Tr), Form t → sh p t = .som → t.lv.length ≤ n → SplitOK p t (split p n t)
  | 0, t, F, _, h => (F.ne (List.eq_nil_of_length_eq_zero (Nat.le_zero.1 h))).elim
  | n + 1, .thing i, F, hs, _ => by
    obtain ⟨⟨x, hx, px⟩, ⟨y, hy, py⟩⟩ := (sh_som F).1 hs
    rw [lv_thing, List.mem_singleton] at hx hy
    rw [hx] at px; rw [hy, px] at py; cases py
  | n + 1, .node false ps, F, hs, h => splitAny_ok F hs fun q hq hs' => split_ok n q (F.parts q hq) hs' (by have := F.lt hq; omega)
  | n + 1, .node true ps, F, hs, h => splitRow_ok F hs fun q hq hs' => split_ok n q (F.parts q hq) hs' (by have := F.lt hq; omega)
end K13

/-! K13 M3: joining. Plain Lean. -/
namespace K13

structure JoinSome (p : Int → Bool) (t t' : Tr) : Prop where
  iff : ∀ o, Tells t' o ↔ Tells t o ∧ Tog p o
  form : Form t'
def JoinOK (p : Int → Bool) (t : Tr) : Option Tr → Prop
  | none => ∀ o, Tells t o → ¬ Tog p o
  | some t' => JoinSome p t t'

/-! ### one touched part -/
theorem one_seq {p : Int → Bool} {l r : List Tr} {q : Tr} (hl : ∀ x ∈ l, sh p x = .non) (hr : ∀ x ∈ r, sh p x = .non) {o : List Int} :
    Seq (l ++ q :: r) o ∧ Tog p o ↔ ∃ a b c, o = a ++ (b ++ c) ∧ Seq l a ∧ (Tells q b ∧ Tog p b) ∧ Seq r c := by
  constructor
  · rintro ⟨h, ht⟩
    obtain ⟨a, d, rfl, h1, h2⟩ := seq_append.1 h
    obtain ⟨b, c, rfl, h3, h4⟩ := seq_cons.1 h2
    exact ⟨a, b, c, rfl, h1, ⟨h3, ht.right.left⟩, h4⟩
  · rintro ⟨a, b, c, rfl, h1, ⟨h2, h3⟩, h4⟩
    exact ⟨h1.app (.cons h2 h4), tog_append.2 (.inl ⟨seq_noneP hl h1, tog_append.2 (.inr (.inl ⟨h3, seq_noneP hr h4⟩))⟩)⟩
theorem one_seq_some {p : Int → Bool} {l r : List Tr} {q q' : Tr} (hl : ∀ x ∈ l, sh p x = .non) (hr : ∀ x ∈ r, sh p x = .non) (J : JoinSome p q q') {o : List Int} :
    Seq (l ++ q' :: r) o ↔ Seq (l ++ q :: r) o ∧ Tog p o := by
  rw [one_seq hl hr]
  constructor
  · intro h
    obtain ⟨a, d, rfl, h1, h2⟩ := seq_append.1 h
    obtain ⟨b, c, rfl, h3, h4⟩ := seq_cons.1 h2
    exact ⟨a, b, c, rfl, h1, (J.iff b).1 h3, h4⟩
  · rintro ⟨a, b, c, rfl, h1, h2, h4⟩
    exact h1.app (.cons ((J.iff b).2 h2) h4)
theorem one_part {p : Int → Bool} {b : Bool} {l r : List Tr} {q : Tr} (F : Form (.node b (l ++ q :: r))) (hl : ∀ x ∈ l, sh p x = .non) (hr : ∀ x ∈ r, sh p x = .non) {res : Option Tr} (J : JoinOK p q res) :
    JoinOK p (.node b (l ++ q :: r)) (res.map fun q' => .node b (l ++ q' :: r)) := by
  have hl' : ∀ x ∈ r.reverse, sh p x = .non := fun x hx => hr x (List.mem_reverse.1 hx)
  have hr' : ∀ x ∈ l.reverse, sh p x = .non := fun x hx => hl x (List.mem_reverse.1 hx)
  have er : ∀ z : Tr, (l ++ z :: r).reverse = r.reverse ++ z :: l.reverse := fun z => by simp
  have non : ∀ {l' r' : List Tr}, (l' ++ q :: r').Perm (l ++ q :: r) → ∀ x ∈ l' ++ r', sh p x = .non := by
    intro l' r' h x hx
    have : (l' ++ r').Perm (l ++ r) := List.Perm.cons_inv (a := q) ((List.perm_middle.symm.trans h).trans List.perm_middle)
    rcases List.mem_append.1 (this.mem_iff.1 hx) with h | h
    · exact hl x h
    · exact hr x h
  cases res with
  | none =>
    have J' : ∀ o, Tells q o → ¬ Tog p o := J
    show ∀ o, Tells (.node b (l ++ q :: r)) o → ¬ Tog p o
    intro o h ht
    cases b with
    | false =>
      obtain ⟨qs, hp, hs⟩ := tells_any.1 h
      obtain ⟨l', r', rfl⟩ := List.append_of_mem (hp.mem_iff.2 (List.mem_append_right _ List.mem_cons_self) : q ∈ qs)
      have n := non hp
      obtain ⟨_, b, _, _, _, ⟨h2, h3⟩, _⟩ := (one_seq (fun x hx => n x (List.mem_append_left _ hx)) fun x hx => n x (List.mem_append_right _ hx)).1 ⟨hs, ht⟩
      exact J' b h2 h3
    | true =>
      rcases tells_row.1 h with h | h
      · obtain ⟨_, b, _, _, _, ⟨h2, h3⟩, _⟩ := (one_seq hl hr).1 ⟨h, ht⟩
        exact J' b h2 h3
      · rw [er] at h
        obtain ⟨_, b, _, _, _, ⟨h2, h3⟩, _⟩ := (one_seq hl' hr').1 ⟨h, ht⟩
        exact J' b h2 h3
  | some q' =>
    have J' : JoinSome p q q' := J
    show JoinSome p _ (.node b (l ++ q' :: r))
    refine ⟨fun o => ?_, ?_⟩
    · cases b with
      | false =>
        rw [tells_any, tells_any]
        constructor
        · rintro ⟨qs, hp, hs⟩
          obtain ⟨l', r', rfl⟩ := List.append_of_mem (hp.mem_iff.2 (List.mem_append_right _ List.mem_cons_self) : q' ∈ qs)
          have hp2 : (l' ++ r').Perm (l ++ r) := List.Perm.cons_inv (a := q') ((List.perm_middle.symm.trans hp).trans List.perm_middle)
          have hp3 : (l' ++ q :: r').Perm (l ++ q :: r) := (List.perm_middle.trans (hp2.cons q)).trans List.perm_middle.symm
          have n := non hp3
          have := (one_seq_some (fun x hx => n x (List.mem_append_left _ hx)) (fun x hx => n x (List.mem_append_right _ hx)) J').1 hs
          exact ⟨⟨_, hp3, this.1⟩, this.2⟩
        · rintro ⟨⟨qs, hp, hs⟩, ht⟩
          obtain ⟨l', r', rfl⟩ := List.append_of_mem (hp.mem_iff.2 (List.mem_append_right _ List.mem_cons_self) : q ∈ qs)
          have hp2 : (l' ++ r').Perm (l ++ r) := List.Perm.cons_inv (a := q) ((List.perm_middle.symm.trans hp).trans List.perm_middle)
          have n := non hp
          exact ⟨_, (List.perm_middle.trans (hp2.cons q')).trans List.perm_middle.symm, (one_seq_some (fun x hx => n x (List.mem_append_left _ hx)) (fun x hx => n x (List.mem_append_right _ hx)) J').2 ⟨hs, ht⟩⟩
      | true =>
        rw [tells_row, tells_row, er, er, one_seq_some hl hr J', one_seq_some hl' hr' J']
        constructor
        · rintro (⟨a, b⟩ | ⟨a, b⟩)
          · exact ⟨.inl a, b⟩
          · exact ⟨.inr a, b⟩
        · rintro ⟨a | a, b⟩
          · exact .inl ⟨a, b⟩
          · exact .inr ⟨a, b⟩
    · have len : (l ++ q' :: r).length = (l ++ q :: r).length := by simp
      refine .node (len ▸ F.two) (fun h => ?_) fun x hx => ?_
      · subst h; exact len ▸ F.three
      · rcases List.mem_append.1 hx with hx | hx
        · exact F.parts x (List.mem_append_left _ hx)
        · rcases List.mem_cons.1 hx with rfl | hx
          · exact J'.form
          · exact F.parts x (List.mem_append_right _ (List.mem_cons_of_mem _ hx))

/-! ### a row -/
def ends (p : Int → Bool) (inner : Inner) (q : Tr) : Option (List Tr) := if sh p q = .som then inner q else some [q]
structure EndSome (p : Int → Bool) (q : Tr) (L : List Tr) : Prop where
  iff : ∀ o, Seq L o ↔ Tells q o ∧ Suf p o
  form : ∀ q ∈ L, Form q
  one : 1 ≤ L.length
def EndOK (p : Int → Bool) (q : Tr) : Option (List Tr) → Prop
  | none => ∀ o, Tells q o → ¬ Suf p o
  | some L => EndSome p q L
theorem ends_ok {p : Int → Bool} {inner : Inner} {q : Tr} (F : Form q) (n : sh p q ≠ .non) (I : sh p q = .som → SplitOK p q (inner q)) : EndOK p q (ends p inner q) := by
  unfold ends
  by_cases h : sh p q = .som
  · rw [if_pos h]
    have := I h
    cases e : inner q with
    | none => rw [e] at this; exact this
    | some L =>
      rw [e] at this
      have t : SplitSome p q L := this
      exact ⟨t.iff, t.form, Nat.le_trans (by decide) t.two⟩
  · rw [if_neg h]
    have ha : sh p q = .all := by
      cases e : sh p q with
      | non => exact (n e).elim
      | som => exact (h e).elim
      | all => rfl
    refine ⟨fun o => ?_, fun x hx => by rw [List.mem_singleton] at hx; subst hx; exact F, Nat.le_refl _⟩
    rw [seq_one]
    exact ⟨fun h => ⟨h, (h.allP F ha).suf⟩, fun h => h.1⟩
theorem EndSome.pre {p : Int → Bool} {q : Tr} {L : List Tr} (h : EndSome p q L) (o : List Int) : Seq L.reverse o ↔ Tells q o ∧ Pre p o := by
  rw [seq_reverse, h.iff, suf_rev]
  constructor
  · rintro ⟨a, b⟩
    have := a.rev
    rw [List.reverse_reverse] at this
    exact ⟨this, b⟩
  · rintro ⟨a, b⟩; exact ⟨a.rev, b⟩
theorem touched_mem {p : Int → Bool} {q : Tr} (n : sh p q ≠ .non) {o : List Int} (h : Tells q o) : ¬ NoneP p o := fun z => n (sh_non.2 (z.perm h.perm))

theorem row_seq {p : Int → Bool} {e1 mid e2 : List Tr} {x y : Tr} (h1 : ∀ q ∈ e1, sh p q = .non) (h2 : ∀ q ∈ e2, sh p q = .non) (hx : sh p x ≠ .non) (hy : sh p y ≠ .non) {o : List Int} :
    Seq (e1 ++ x :: (mid ++ y :: e2)) o ∧ Tog p o ↔ ∃ o1 a b c o2, o = o1 ++ (a ++ (b ++ (c ++ o2))) ∧ Seq e1 o1 ∧ (Tells x a ∧ Suf p a) ∧ (Seq mid b ∧ AllP p b) ∧ (Tells y c ∧ Pre p c) ∧ Seq e2 o2 := by
  constructor
  · rintro ⟨h, ht⟩
    obtain ⟨o1, d, rfl, g1, g2⟩ := seq_append.1 h
    obtain ⟨a, d, rfl, g3, g4⟩ := seq_cons.1 g2
    obtain ⟨b, d, rfl, g5, g6⟩ := seq_append.1 g4
    obtain ⟨c, o2, rfl, g7, g8⟩ := seq_cons.1 g6
    have nc := touched_mem hy g7
    have key : Suf p a ∧ Pre p (b ++ (c ++ o2)) := by
      rcases tog_append.1 ht.right with ⟨k, _⟩ | ⟨_, k⟩ | k
      · exact (touched_mem hx g3 k).elim
      · exact (nc (noneP_append.1 (noneP_append.1 k).2).1).elim
      · exact k
    have key2 : AllP p b ∧ Pre p (c ++ o2) := by
      rcases pre_append.1 key.2 with k | ⟨_, k⟩
      · exact k
      · exact (nc (noneP_append.1 k).1).elim
    have key3 : Pre p c := by
      rcases pre_append.1 key2.2 with k | k
      · exact k.1.pre
      · exact k.1
    exact ⟨o1, a, b, c, o2, rfl, g1, ⟨g3, key.1⟩, ⟨g5, key2.1⟩, ⟨g7, key3⟩, g8⟩
  · rintro ⟨o1, a, b, c, o2, rfl, g1, ⟨g2, g3⟩, ⟨g4, g5⟩, ⟨g6, g7⟩, g8⟩
    refine ⟨g1.app (.cons g2 (g4.app (.cons g6 g8))), tog_append.2 (.inl ⟨seq_noneP h1 g1, tog_append.2 (.inr (.inr ⟨g3, ?_⟩))⟩)⟩
    exact pre_append.2 (.inl ⟨g5, pre_append.2 (.inr ⟨g7, seq_noneP h2 g8⟩)⟩)

def rowJoin (p : Int → Bool) (inner : Inner) (e1 : List Tr) (x : Tr) (mid : List Tr) (y : Tr) (e2 : List Tr) : Option Tr :=
  if ∀ q ∈ mid, sh p q = .all then (ends p inner x).bind fun X => (ends p inner y).map fun Y => mkRow (e1 ++ (X ++ (mid ++ (Y.reverse ++ e2)))) else none
theorem rowJoin_ok {p : Int → Bool} {inner : Inner} {e1 mid e2 : List Tr} {x y : Tr} (F : Form (.node true (e1 ++ x :: (mid ++ y :: e2)))) (h1 : ∀ q ∈ e1, sh p q = .non) (h2 : ∀ q ∈ e2, sh p q = .non) (hx : sh p x ≠ .non) (hy : sh p y ≠ .non)
    (Ix : sh p x = .som → SplitOK p x (inner x)) (Iy : sh p y = .som → SplitOK p y (inner y)) :
    JoinOK p (.node true (e1 ++ x :: (mid ++ y :: e2))) (rowJoin p inner e1 x mid y e2) := by
  have Fp := F.parts
  have Fx : Form x := Fp x (by simp)
  have Fy : Form y := Fp y (by simp)
  have Fm : ∀ q ∈ mid, Form q := fun q hq => Fp q (by simp [hq])
  have kx := ends_ok Fx hx Ix
  have ky := ends_ok Fy hy Iy
  have bad : (∀ o, ¬ (Seq (e1 ++ x :: (mid ++ y :: e2)) o ∧ Tog p o)) → ∀ o, Tells (.node true (e1 ++ x :: (mid ++ y :: e2))) o → ¬ Tog p o := fun h o ho ht => by
    rcases tells_row.1 ho with k | k
    · exact h o ⟨k, ht⟩
    · exact h o.reverse ⟨seq_reverse.1 k, ht.rev⟩
  unfold rowJoin
  by_cases hm : ∀ q ∈ mid, sh p q = .all
  · rw [if_pos hm]
    cases ex : ends p inner x with
    | none =>
      rw [ex] at kx
      refine bad fun o h => ?_
      obtain ⟨o1, a, b, c, o2, rfl, g1, ⟨g2, g3⟩, _⟩ := (row_seq h1 h2 hx hy).1 h
      exact kx a g2 g3
    | some X =>
      rw [ex] at kx
      have kx : EndSome p x X := kx
      cases ey : ends p inner y with
      | none =>
        rw [ey] at ky
        refine bad fun o h => ?_
        obtain ⟨o1, a, b, c, o2, rfl, g1, _, _, ⟨g6, g7⟩, _⟩ := (row_seq h1 h2 hx hy).1 h
        have : Tells y c.reverse := g6.rev
        exact ky c.reverse this (suf_rev.2 g7)
      | some Y =>
        rw [ey] at ky
        have ky : EndSome p y Y := ky
        have key : ∀ o, Seq (e1 ++ (X ++ (mid ++ (Y.reverse ++ e2)))) o ↔ Seq (e1 ++ x :: (mid ++ y :: e2)) o ∧ Tog p o := by
          intro o
          rw [row_seq h1 h2 hx hy]
          constructor
          · intro h
            obtain ⟨o1, d, rfl, g1, g2⟩ := seq_append.1 h
            obtain ⟨a, d, rfl, g3, g4⟩ := seq_append.1 g2
            obtain ⟨b, d, rfl, g5, g6⟩ := seq_append.1 g4
            obtain ⟨c, o2, rfl, g7, g8⟩ := seq_append.1 g6
            exact ⟨o1, a, b, c, o2, rfl, g1, (kx.iff a).1 g3, ⟨g5, seq_allP Fm hm g5⟩, (ky.pre c).1 g7, g8⟩
          · rintro ⟨o1, a, b, c, o2, rfl, g1, g2, ⟨g4, _⟩, g6, g8⟩
            exact g1.app (((kx.iff a).2 g2).app (g4.app (((ky.pre c).2 g6).app g8)))
        have len : 3 ≤ (e1 ++ (X ++ (mid ++ (Y.reverse ++ e2)))).length := by
          have a := kx.one
          have b := ky.one
          have c := F.three
          simp only [List.length_append, List.length_cons, List.length_reverse] at c ⊢
          omega
        show JoinSome p _ (mkRow (e1 ++ (X ++ (mid ++ (Y.reverse ++ e2)))))
        unfold mkRow
        rw [if_neg (by omega)]
        refine ⟨fun o => ?_, ?_⟩
        · rw [tells_row, tells_row, seq_reverse, key, key, seq_reverse, tog_rev]
          constructor
          · rintro (⟨a, b⟩ | ⟨a, b⟩)
            · exact ⟨.inl a, b⟩
            · exact ⟨.inr a, b⟩
          · rintro ⟨a | a, b⟩
            · exact .inl ⟨a, b⟩
            · exact .inr ⟨a, b⟩
        · refine .node (by omega) (fun _ => len) fun q hq => ?_
          simp only [List.mem_append, List.mem_reverse] at hq
          rcases hq with hq | hq | hq | hq | hq
          · exact Fp q (by simp [hq])
          · exact kx.form q hq
          · exact Fm q hq
          · exact ky.form q hq
          · exact Fp q (by simp [hq])
  · rw [if_neg hm]
    refine bad fun o h => ?_
    obtain ⟨o1, a, b, c, o2, rfl, g1, _, ⟨g4, g5⟩, _⟩ := (row_seq h1 h2 hx hy).1 h
    exact hm (of_allP Fm g4 g5)

/-! ### any -/
structure Tsh (p : Int → Bool) (qs e1 m1 fs m2 e2 : List Tr) : Prop where
  eq : qs = e1 ++ (m1 ++ (fs ++ (m2 ++ e2)))
  h1 : ∀ q ∈ e1, sh p q = .non
  g1 : ∀ q ∈ m1, sh p q = .som
  one1 : m1.length ≤ 1
  f : ∀ q ∈ fs, sh p q = .all
  g2 : ∀ q ∈ m2, sh p q = .som
  one2 : m2.length ≤ 1
  h2 : ∀ q ∈ e2, sh p q = .non
theorem Tsh.non {p : Int → Bool} {qs e1 m1 fs m2 e2 : List Tr} (h : Tsh p qs e1 m1 fs m2 e2) : wsh p .non qs = e1 ++ e2 := by
  rw [h.eq]; simp only [wsh_append]; rw [wsh_same h.h1, wsh_same h.h2, wsh_other (by decide) h.g1, wsh_other (by decide) h.g2, wsh_other (by decide) h.f]; simp
theorem Tsh.som {p : Int → Bool} {qs e1 m1 fs m2 e2 : List Tr} (h : Tsh p qs e1 m1 fs m2 e2) : wsh p .som qs = m1 ++ m2 := by
  rw [h.eq]; simp only [wsh_append]; rw [wsh_other (by decide) h.h1, wsh_other (by decide) h.h2, wsh_same h.g1, wsh_same h.g2, wsh_other (by decide) h.f]; simp
theorem Tsh.all {p : Int → Bool} {qs e1 m1 fs m2 e2 : List Tr} (h : Tsh p qs e1 m1 fs m2 e2) : wsh p .all qs = fs := by
  rw [h.eq]; simp only [wsh_append]; rw [wsh_other (by decide) h.h1, wsh_other (by decide) h.h2, wsh_other (by decide) h.g1, wsh_other (by decide) h.g2, wsh_same h.f]; simp
theorem wsh_cons {p : Int → Bool} {s : Sh} {q : Tr} {qs : List Tr} : wsh p s (q :: qs) = if sh p q = s then q :: wsh p s qs else wsh p s qs := by
  unfold wsh
  rw [List.filter_cons]
  by_cases h : sh p q = s
  · rw [if_pos h, if_pos (decide_eq_true h)]
  · rw [if_neg h, if_neg (by simp [h])]

theorem tog_seq {p : Int → Bool} {qs : List Tr} (F : ∀ q ∈ qs, Form q) (two : 2 ≤ (wsh p .som qs).length + (wsh p .all qs).length) : ∀ {o : List Int}, Seq qs o → Tog p o → ∃ e1 m1 fs m2 e2, Tsh p qs e1 m1 fs m2 e2 := by
  induction qs with
  | nil => simp [wsh] at two
  | cons q r ih =>
    intro o h hs
    obtain ⟨a, b, rfl, h1, h2⟩ := seq_cons.1 h
    have Fr : ∀ q ∈ r, Form q := fun x hx => F x (List.mem_cons_of_mem _ hx)
    have Fq := F q List.mem_cons_self
    rcases tog_append.1 hs with ⟨h3, h4⟩ | ⟨h3, h4⟩ | ⟨h3, h4⟩
    · have hq : sh p q = .non := sh_non.2 (h3.perm h1.perm)
      rw [wsh_cons, wsh_cons, if_neg (by rw [hq]; decide), if_neg (by rw [hq]; decide)] at two
      obtain ⟨e1, m1, fs, m2, e2, S⟩ := ih Fr two h2 h4
      refine ⟨q :: e1, m1, fs, m2, e2, by rw [S.eq]; rfl, ?_, S.g1, S.one1, S.f, S.g2, S.one2, S.h2⟩
      intro x hx
      rcases List.mem_cons.1 hx with rfl | hx
      · exact hq
      · exact S.h1 x hx
    · exfalso
      have hr := of_noneP h2 h4
      have w1 : wsh p .som r = [] := wsh_other (by decide) hr
      have w2 : wsh p .all r = [] := wsh_other (by decide) hr
      rw [wsh_cons, wsh_cons, w1, w2] at two
      cases e : sh p q <;> rw [e] at two <;> simp at two
    · have Frr : ∀ q ∈ r.reverse, Form q := fun x hx => Fr x (List.mem_reverse.1 hx)
      obtain ⟨es, ms, fs, S⟩ := suf_seq Frr h2.rev (suf_rev.2 h4)
      have er : r = fs.reverse ++ (ms.reverse ++ es.reverse) := by
        have := congrArg List.reverse S.eq
        rw [List.reverse_reverse] at this
        rw [this]; simp
      have k1 : ∀ q ∈ fs.reverse, sh p q = .all := fun x hx => S.f x (List.mem_reverse.1 hx)
      have k2 : ∀ q ∈ ms.reverse, sh p q = .som := fun x hx => S.m x (List.mem_reverse.1 hx)
      have k3 : ms.reverse.length ≤ 1 := by rw [List.length_reverse]; exact S.one
      have k4 : ∀ q ∈ es.reverse, sh p q = .non := fun x hx => S.e x (List.mem_reverse.1 hx)
      cases e : sh p q with
      | non => exact ⟨[q], [], fs.reverse, ms.reverse, es.reverse, by rw [er]; rfl, fun x hx => by rw [List.mem_singleton] at hx; subst hx; exact e, (fun _ h => nomatch h), Nat.zero_le _, k1, k2, k3, k4⟩
      | som => exact ⟨[], [q], fs.reverse, ms.reverse, es.reverse, by rw [er]; rfl, (fun _ h => nomatch h), fun x hx => by rw [List.mem_singleton] at hx; subst hx; exact e, Nat.le_refl _, k1, k2, k3, k4⟩
      | all => exact ⟨[], [], q :: fs.reverse, ms.reverse, es.reverse, by rw [er]; rfl, (fun _ h => nomatch h), (fun _ h => nomatch h), Nat.zero_le _, fun x hx => by
          rcases List.mem_cons.1 hx with rfl | hx
          · exact e
          · exact k1 x hx, k2, k3, k4⟩

theorem som_touch {p : Int → Bool} {ms : List Tr} (h : ∀ q ∈ ms, sh p q = .som) (ne : ms ≠ []) {o : List Int} (s : Seq ms o) : ¬ NoneP p o := fun z => by
  match ms, ne with
  | m :: r, _ =>
    have := of_noneP s z m List.mem_cons_self
    rw [h m List.mem_cons_self] at this; cases this
theorem all_touch {p : Int → Bool} {ms : List Tr} (h : ∀ q ∈ ms, sh p q = .all) (ne : ms ≠ []) {o : List Int} (s : Seq ms o) : ¬ NoneP p o := fun z => by
  match ms, ne with
  | m :: r, _ =>
    have := of_noneP s z m List.mem_cons_self
    rw [h m List.mem_cons_self] at this; cases this
theorem tog_shape {p : Int → Bool} {qs e1 m1 fs m2 e2 : List Tr} (F : ∀ q ∈ qs, Form q) (two : 2 ≤ (wsh p .som qs).length + (wsh p .all qs).length) (S : Tsh p qs e1 m1 fs m2 e2) {o : List Int} :
    (Seq qs o ∧ Tog p o) ↔ ∃ o1 a b c o2, o = o1 ++ (a ++ (b ++ (c ++ o2))) ∧ Seq e1 o1 ∧ (Seq m1 a ∧ Suf p a) ∧ Seq fs b ∧ (Seq m2 c ∧ Pre p c) ∧ Seq e2 o2 := by
  have Ff : ∀ q ∈ fs, Form q := fun q hq => F q (by rw [S.eq]; simp [hq])
  rw [S.som, S.all, List.length_append] at two
  have o1' := S.one1
  have o2' := S.one2
  constructor
  · rintro ⟨h, ht⟩
    rw [S.eq] at h
    obtain ⟨o1, d, rfl, g1, g2⟩ := seq_append.1 h
    obtain ⟨a, d, rfl, g3, g4⟩ := seq_append.1 g2
    obtain ⟨b, d, rfl, g5, g6⟩ := seq_append.1 g4
    obtain ⟨c, o2, rfl, g7, g8⟩ := seq_append.1 g6
    have t1 : Tog p (a ++ (b ++ c)) := by
      have := ht.right
      rw [← List.append_assoc b, ← List.append_assoc a] at this
      exact this.left
    refine ⟨o1, a, b, c, o2, rfl, g1, ⟨g3, ?_⟩, g5, ⟨g7, ?_⟩, g8⟩
    · by_cases hm : m1 = []
      · subst hm; rw [seq_nil] at g3; subst g3; exact noneP_nil.suf
      · rcases tog_append.1 t1 with ⟨k, _⟩ | ⟨_, k⟩ | k
        · exact (som_touch S.g1 hm g3 k).elim
        · rw [noneP_append] at k
          by_cases hf : fs = []
          · have : m2 ≠ [] := fun z => by
              subst hf; subst z; simp at two; omega
            exact (som_touch S.g2 this g7 k.2).elim
          · exact (all_touch S.f hf g5 k.1).elim
        · exact k.1
    · by_cases hm : m2 = []
      · subst hm; rw [seq_nil] at g7; subst g7; exact noneP_nil.pre
      · rw [← List.append_assoc] at t1
        rcases tog_append.1 t1 with ⟨k, _⟩ | ⟨_, k⟩ | k
        · rw [noneP_append] at k
          by_cases hf : fs = []
          · have : m1 ≠ [] := fun z => by
              subst hf; subst z; simp at two; omega
            exact (som_touch S.g1 this g3 k.1).elim
          · exact (all_touch S.f hf g5 k.2).elim
        · exact (som_touch S.g2 hm g7 k).elim
        · exact k.2
  · rintro ⟨o1, a, b, c, o2, rfl, g1, ⟨g2, g3⟩, g4, ⟨g6, g7⟩, g8⟩
    refine ⟨by rw [S.eq]; exact g1.app (g2.app (g4.app (g6.app g8))), tog_append.2 (.inl ⟨seq_noneP S.h1 g1, tog_append.2 (.inr (.inr ⟨g3, ?_⟩))⟩)⟩
    exact pre_append.2 (.inl ⟨seq_allP Ff S.f g4, pre_append.2 (.inr ⟨g7, seq_noneP S.h2 g8⟩)⟩)

def joinedAny (p : Int → Bool) (inner : Inner) (ps : List Tr) : Option Tr :=
  match wsh p .som ps with
  | [] => some (mkAny (wsh p .non ps ++ [mkAny (wsh p .all ps)]))
  | [m] => (inner m).map fun L => mkAny (wsh p .non ps ++ [mkRow (L ++ optAny (wsh p .all ps))])
  | [m, m'] => (inner m).bind fun L => (inner m').map fun L' => mkAny (wsh p .non ps ++ [mkRow (L ++ optAny (wsh p .all ps) ++ L'.reverse)])
  | _ => none

structure Mid (p : Int → Bool) (ps : List Tr) (om : List Int) (m1 fs m2 : List Tr) (a b c : List Int) : Prop where
  pm : (m1 ++ m2).Perm (wsh p .som ps)
  one1 : m1.length ≤ 1
  one2 : m2.length ≤ 1
  pf : fs.Perm (wsh p .all ps)
  eq : om = a ++ (b ++ c)
  s1 : Seq m1 a
  q1 : Suf p a
  s : Seq fs b
  s2 : Seq m2 c
  q2 : Pre p c
theorem tells_end {E : List Tr} {X : Tr} {o : List Int} : Tells (mkAny (E ++ [X])) o ↔ ∃ e1 e2 x om y, (e1 ++ e2).Perm E ∧ o = x ++ (om ++ y) ∧ Seq e1 x ∧ Tells X om ∧ Seq e2 y := by
  rw [tells_mkAny (by simp)]
  constructor
  · rintro ⟨qs, hp, hs⟩
    obtain ⟨e1, e2, rfl⟩ := List.append_of_mem (hp.mem_iff.2 (by simp) : X ∈ qs)
    have hp2 : (e1 ++ e2).Perm E := by
      have : (e1 ++ e2).Perm (E ++ []) := List.Perm.cons_inv (a := X) ((List.perm_middle.symm.trans hp).trans List.perm_middle)
      rw [List.append_nil] at this; exact this
    obtain ⟨x, d, rfl, g1, g2⟩ := seq_append.1 hs
    obtain ⟨om, y, rfl, g3, g4⟩ := seq_cons.1 g2
    exact ⟨e1, e2, x, om, y, hp2, rfl, g1, g3, g4⟩
  · rintro ⟨e1, e2, x, om, y, hp, rfl, g1, g3, g4⟩
    refine ⟨e1 ++ X :: e2, ?_, g1.app (.cons g3 g4)⟩
    refine (List.perm_middle.trans (hp.cons X)).trans ?_
    have := (List.perm_middle (a := X) (l₁ := E) (l₂ := [])).symm
    rw [List.append_nil] at this
    exact this
theorem any_mid {p : Int → Bool} {ps : List Tr} (F : Form (.node false ps)) (two : 2 ≤ (wsh p .som ps).length + (wsh p .all ps).length) {o : List Int} :
    (Tells (.node false ps) o ∧ Tog p o) ↔ ∃ e1 e2 x om y, (e1 ++ e2).Perm (wsh p .non ps) ∧ o = x ++ (om ++ y) ∧ Seq e1 x ∧ (∃ m1 fs m2 a b c, Mid p ps om m1 fs m2 a b c) ∧ Seq e2 y := by
  have Fp := F.parts
  constructor
  · rintro ⟨h, ht⟩
    obtain ⟨qs, hp, hs⟩ := tells_any.1 h
    have Fq : ∀ q ∈ qs, Form q := fun q h => Fp q (hp.mem_iff.1 h)
    have two' : 2 ≤ (wsh p .som qs).length + (wsh p .all qs).length := by rw [(wsh_perm hp).length_eq, (wsh_perm hp).length_eq]; exact two
    obtain ⟨e1, m1, fs, m2, e2, S⟩ := tog_seq Fq two' hs ht
    obtain ⟨o1, a, b, c, o2, rfl, g1, ⟨g2, g3⟩, g4, ⟨g6, g7⟩, g8⟩ := (tog_shape Fq two' S).1 ⟨hs, ht⟩
    refine ⟨e1, e2, o1, a ++ (b ++ c), o2, S.non ▸ wsh_perm hp, by simp, g1, ⟨m1, fs, m2, a, b, c, S.som ▸ wsh_perm hp, S.one1, S.one2, S.all ▸ wsh_perm hp, rfl, g2, g3, g4, g6, g7⟩, g8⟩
  · rintro ⟨e1, e2, x, om, y, he, rfl, g1, ⟨m1, fs, m2, a, b, c, M⟩, g2⟩
    have S : Tsh p (e1 ++ (m1 ++ (fs ++ (m2 ++ e2)))) e1 m1 fs m2 e2 := by
      refine ⟨rfl, fun q hq => ?_, fun q hq => ?_, M.one1, fun q hq => (mem_wsh.1 (M.pf.mem_iff.1 hq)).2, fun q hq => ?_, M.one2, fun q hq => ?_⟩
      · exact (mem_wsh.1 (he.mem_iff.1 (List.mem_append_left _ hq))).2
      · exact (mem_wsh.1 (M.pm.mem_iff.1 (List.mem_append_left _ hq))).2
      · exact (mem_wsh.1 (M.pm.mem_iff.1 (List.mem_append_right _ hq))).2
      · exact (mem_wsh.1 (he.mem_iff.1 (List.mem_append_right _ hq))).2
    have hp : (e1 ++ (m1 ++ (fs ++ (m2 ++ e2)))).Perm ps := by
      have := wsh_parts (p := p) (e1 ++ (m1 ++ (fs ++ (m2 ++ e2))))
      rw [S.non, S.som, S.all] at this
      exact (this.symm.trans ((he.append M.pm).append M.pf)).trans (wsh_parts ps)
    have two' : 2 ≤ (wsh p .som (e1 ++ (m1 ++ (fs ++ (m2 ++ e2))))).length + (wsh p .all (e1 ++ (m1 ++ (fs ++ (m2 ++ e2))))).length := by rw [(wsh_perm hp).length_eq, (wsh_perm hp).length_eq]; exact two
    have := (tog_shape (fun q h => Fp q (hp.mem_iff.1 h)) two' S).2 ⟨x, a, b, c, y, rfl, g1, ⟨M.s1, M.q1⟩, M.s, ⟨M.s2, M.q2⟩, g2⟩
    have e : x ++ (om ++ y) = x ++ (a ++ (b ++ (c ++ y))) := by rw [M.eq]; simp
    rw [e]
    exact ⟨.any hp this.1, this.2⟩

theorem joinedAny_ok {p : Int → Bool} {inner : Inner} {ps : List Tr} (F : Form (.node false ps)) (na : sh p (.node false ps) ≠ .all) (two : 2 ≤ (wsh p .som ps).length + (wsh p .all ps).length) (I : ∀ q ∈ ps, sh p q = .som → SplitOK p q (inner q)) :
    JoinOK p (.node false ps) (joinedAny p inner ps) := by
  have Fp := F.parts
  have fe : ∀ q ∈ wsh p .non ps, Form q := fun q hq => Fp q (mem_wsh.1 hq).1
  have ff : ∀ q ∈ wsh p .all ps, Form q := fun q hq => Fp q (mem_wsh.1 hq).1
  have fin : ∀ X : Tr, Form X → (∀ om, Tells X om ↔ ∃ m1 fs m2 a b c, Mid p ps om m1 fs m2 a b c) → JoinSome p (.node false ps) (mkAny (wsh p .non ps ++ [X])) := by
    intro X FX hX
    refine ⟨fun o => ?_, form_mkAny (by simp) fun q hq => ?_⟩
    · rw [any_mid F two, tells_end]
      simp only [hX]
    · rcases List.mem_append.1 hq with hq | hq
      · exact fe q hq
      · rw [List.mem_singleton] at hq; subst hq; exact FX
  unfold joinedAny
  match hm : wsh p .som ps with
  | [] =>
    rw [hm] at two
    have hf : wsh p .all ps ≠ [] := fun z => by rw [z] at two; simp at two
    show JoinSome p _ (mkAny (wsh p .non ps ++ [mkAny (wsh p .all ps)]))
    refine fin _ (form_mkAny hf ff) fun om => ?_
    rw [tells_mkAny hf]
    constructor
    · rintro ⟨fs, h1, h2⟩
      exact ⟨[], fs, [], [], om, [], by rw [hm]; exact .refl _, Nat.zero_le _, Nat.zero_le _, h1, by simp, .nil, noneP_nil.suf, h2, .nil, noneP_nil.pre⟩
    · rintro ⟨m1, fs, m2, a, b, c, M⟩
      have pm := M.pm
      rw [hm, List.perm_nil, List.append_eq_nil_iff] at pm
      have s1 := M.s1; have s2 := M.s2
      rw [pm.1, seq_nil] at s1
      rw [pm.2, seq_nil] at s2
      refine ⟨fs, M.pf, ?_⟩
      rw [M.eq, s1, s2, List.nil_append, List.append_nil]
      exact M.s
  | [m] =>
    have hmm : m ∈ wsh p .som ps := by rw [hm]; exact List.mem_cons_self
    have im := I m (mem_wsh.1 hmm).1 (mem_wsh.1 hmm).2
    rw [hm] at two
    have hf : wsh p .all ps ≠ [] := fun z => by rw [z] at two; simp at two
    have cs : ∀ {m1 m2 : List Tr}, (m1 ++ m2).Perm [m] → (m1 = [m] ∧ m2 = []) ∨ (m1 = [] ∧ m2 = [m]) := by
      intro m1 m2 h
      have := perm_one h
      rcases List.append_eq_singleton_iff.1 this with ⟨a, b⟩ | ⟨a, b⟩
      · exact .inr ⟨a, b⟩
      · exact .inl ⟨a, b⟩
    show JoinOK p _ ((inner m).map fun L => mkAny (wsh p .non ps ++ [mkRow (L ++ optAny (wsh p .all ps))]))
    cases e : inner m with
    | none =>
      rw [e] at im
      have im' : ∀ o, Tells m o → ¬ Suf p o := im
      show ∀ o, Tells (.node false ps) o → ¬ Tog p o
      intro o h1 h2
      obtain ⟨e1, e2, x, om, y, _, _, _, ⟨m1, fs, m2, a, b, c, M⟩, _⟩ := (any_mid F (by rw [hm]; exact two)).1 ⟨h1, h2⟩
      have pm := M.pm
      rw [hm] at pm
      have s1 := M.s1; have s2 := M.s2
      rcases cs pm with ⟨ea, eb⟩ | ⟨ea, eb⟩
      · rw [ea, seq_one] at s1; exact im' a s1 M.q1
      · rw [eb, seq_one] at s2; exact im' c.reverse s2.rev (suf_rev.2 M.q2)
    | some L =>
      rw [e] at im
      have im' : SplitSome p m L := im
      have E : EndSome p m L := ⟨im'.iff, im'.form, Nat.le_trans (by decide) im'.two⟩
      have len : 3 ≤ (L ++ optAny (wsh p .all ps)).length := by
        rw [List.length_append, len_optAny hf]
        have := im'.two; omega
      show JoinSome p _ (mkAny (wsh p .non ps ++ [mkRow (L ++ optAny (wsh p .all ps))]))
      unfold mkRow
      rw [if_neg (by omega)]
      refine fin _ (.node (by omega) (fun _ => len) fun q hq => (List.mem_append.1 hq).elim (im'.form q) (form_optAny ff q)) fun om => ?_
      have key : ∀ om, Seq (L ++ optAny (wsh p .all ps)) om ↔ ∃ fs a b, fs.Perm (wsh p .all ps) ∧ om = a ++ b ∧ (Tells m a ∧ Suf p a) ∧ Seq fs b := by
        intro om
        rw [seq_append]
        constructor
        · rintro ⟨a, b, rfl, h1, h2⟩
          obtain ⟨fs, h3, h4⟩ := seq_optAny.1 h2
          exact ⟨fs, a, b, h3, rfl, (im'.iff a).1 h1, h4⟩
        · rintro ⟨fs, a, b, h3, rfl, h1, h4⟩
          exact ⟨a, b, rfl, (im'.iff a).2 h1, seq_optAny.2 ⟨fs, h3, h4⟩⟩
      rw [tells_row, seq_reverse, key, key]
      constructor
      · rintro (⟨fs, a, b, h3, rfl, ⟨h1, h2⟩, h4⟩ | ⟨fs, a, b, h3, er, ⟨h1, h2⟩, h4⟩)
        · exact ⟨[m], fs, [], a, b, [], by rw [hm]; exact .refl _, Nat.le_refl _, Nat.zero_le _, h3, by simp, seq_one.2 h1, h2, h4, .nil, noneP_nil.pre⟩
        · refine ⟨[], fs.reverse, [m], [], b.reverse, a.reverse, by rw [hm]; exact .refl _, Nat.zero_le _, Nat.le_refl _, (List.reverse_perm fs).trans h3, ?_, .nil, noneP_nil.suf, h4.rev, seq_one.2 h1.rev, h2.rev⟩
          have := congrArg List.reverse er
          rw [List.reverse_reverse, List.reverse_append] at this
          rw [this]; rfl
      · rintro ⟨m1, fs, m2, a, b, c, M⟩
        have pm := M.pm
        rw [hm] at pm
        have s1 := M.s1; have s2 := M.s2
        rcases cs pm with ⟨ea, eb⟩ | ⟨ea, eb⟩
        · left
          rw [ea, seq_one] at s1
          rw [eb, seq_nil] at s2
          exact ⟨fs, a, b, M.pf, by rw [M.eq, s2, List.append_nil], ⟨s1, M.q1⟩, M.s⟩
        · right
          rw [ea, seq_nil] at s1
          rw [eb, seq_one] at s2
          exact ⟨fs.reverse, c.reverse, b.reverse, (List.reverse_perm fs).trans M.pf, by rw [M.eq, s1]; simp, ⟨s2.rev, suf_rev.2 M.q2⟩, M.s.rev⟩
  | [m, m'] =>
    have hmm : m ∈ wsh p .som ps := by rw [hm]; exact List.mem_cons_self
    have hmm' : m' ∈ wsh p .som ps := by rw [hm]; simp
    have im := I m (mem_wsh.1 hmm).1 (mem_wsh.1 hmm).2
    have im' := I m' (mem_wsh.1 hmm').1 (mem_wsh.1 hmm').2
    have cs : ∀ {m1 m2 : List Tr}, (m1 ++ m2).Perm [m, m'] → m1.length ≤ 1 → m2.length ≤ 1 → (m1 = [m] ∧ m2 = [m']) ∨ (m1 = [m'] ∧ m2 = [m]) := by
      intro m1 m2 h k1 k2
      have l := h.length_eq
      rw [List.length_append] at l
      match m1, m2, k1, k2, l, h with
      | [x], [y], _, _, _, h =>
        have hx : x ∈ [m, m'] := h.mem_iff.1 (by simp)
        rw [List.mem_cons, List.mem_singleton] at hx
        rcases hx with rfl | rfl
        · left
          have := List.Perm.cons_inv (h : (x :: [y]).Perm (x :: [m']))
          exact ⟨rfl, perm_one this⟩
        · right
          have h' : (x :: [y]).Perm (x :: [m]) := h.trans (List.Perm.swap ..)
          exact ⟨rfl, perm_one (List.Perm.cons_inv h')⟩
      | [], [], _, _, l, _ => simp at l
      | [], [_], _, _, l, _ => simp at l
      | [_], [], _, _, l, _ => simp at l
      | _ :: _ :: _, _, k, _, _, _ => simp at k
      | _, _ :: _ :: _, _, k, _, _ => simp at k
    have two' := two
    rw [hm] at two'
    show JoinOK p _ ((inner m).bind fun L => (inner m').map fun L' => mkAny (wsh p .non ps ++ [mkRow (L ++ optAny (wsh p .all ps) ++ L'.reverse)]))
    have bad : (∀ o, Tells m o → ¬ Suf p o) ∨ (∀ o, Tells m' o → ¬ Suf p o) → ∀ o, Tells (.node false ps) o → ¬ Tog p o := by
      intro h o h1 h2
      obtain ⟨e1, e2, x, om, y, _, _, _, ⟨m1, fs, m2, a, b, c, M⟩, _⟩ := (any_mid F two).1 ⟨h1, h2⟩
      have pm := M.pm
      rw [hm] at pm
      have s1 := M.s1; have s2 := M.s2
      have w2 := suf_rev.2 M.q2
      rcases cs pm M.one1 M.one2 with ⟨ea, eb⟩ | ⟨ea, eb⟩
      · rw [ea, seq_one] at s1
        rw [eb, seq_one] at s2
        rcases h with h | h
        · exact h a s1 M.q1
        · exact h c.reverse s2.rev w2
      · rw [ea, seq_one] at s1
        rw [eb, seq_one] at s2
        rcases h with h | h
        · exact h c.reverse s2.rev w2
        · exact h a s1 M.q1
    cases e : inner m with
    | none =>
      rw [e] at im
      exact bad (.inl im)
    | some L =>
      rw [e] at im
      have im : SplitSome p m L := im
      have E : EndSome p m L := ⟨im.iff, im.form, Nat.le_trans (by decide) im.two⟩
      cases e' : inner m' with
      | none =>
        rw [e'] at im'
        exact bad (.inr im')
      | some L' =>
        rw [e'] at im'
        have im' : SplitSome p m' L' := im'
        have E' : EndSome p m' L' := ⟨im'.iff, im'.form, Nat.le_trans (by decide) im'.two⟩
        have len : 3 ≤ (L ++ optAny (wsh p .all ps) ++ L'.reverse).length := by
          rw [List.length_append, List.length_append, List.length_reverse]
          have := im.two; have := im'.two; omega
        show JoinSome p _ (mkAny (wsh p .non ps ++ [mkRow (L ++ optAny (wsh p .all ps) ++ L'.reverse)]))
        unfold mkRow
        rw [if_neg (by omega)]
        refine fin _ (.node (by omega) (fun _ => len) fun q hq => ?_) fun om => ?_
        · rcases List.mem_append.1 hq with hq | hq
          · exact (List.mem_append.1 hq).elim (im.form q) (form_optAny ff q)
          · exact im'.form q (List.mem_reverse.1 hq)
        have key : ∀ om, Seq (L ++ optAny (wsh p .all ps) ++ L'.reverse) om ↔ ∃ fs a b c, fs.Perm (wsh p .all ps) ∧ om = a ++ (b ++ c) ∧ (Tells m a ∧ Suf p a) ∧ Seq fs b ∧ (Tells m' c ∧ Pre p c) := by
          intro om
          rw [seq_append]
          constructor
          · rintro ⟨x, c, rfl, h1, h2⟩
            obtain ⟨a, b, rfl, h3, h4⟩ := seq_append.1 h1
            obtain ⟨fs, h5, h6⟩ := seq_optAny.1 h4
            exact ⟨fs, a, b, c, h5, by simp, (im.iff a).1 h3, h6, (E'.pre c).1 h2⟩
          · rintro ⟨fs, a, b, c, h5, rfl, h1, h4, h2⟩
            exact ⟨a ++ b, c, by simp, ((im.iff a).2 h1).app (seq_optAny.2 ⟨fs, h5, h4⟩), (E'.pre c).2 h2⟩
        rw [tells_row, seq_reverse, key, key]
        constructor
        · rintro (⟨fs, a, b, c, h3, rfl, ⟨h1, h2⟩, h4, ⟨h5, h6⟩⟩ | ⟨fs, a, b, c, h3, er, ⟨h1, h2⟩, h4, ⟨h5, h6⟩⟩)
          · exact ⟨[m], fs, [m'], a, b, c, by rw [hm]; exact .refl _, Nat.le_refl _, Nat.le_refl _, h3, rfl, seq_one.2 h1, h2, h4, seq_one.2 h5, h6⟩
          · refine ⟨[m'], fs.reverse, [m], c.reverse, b.reverse, a.reverse, by rw [hm]; exact .swap .., Nat.le_refl _, Nat.le_refl _, (List.reverse_perm fs).trans h3, ?_, seq_one.2 h5.rev, suf_rev.2 h6, h4.rev, seq_one.2 h1.rev, h2.rev⟩
            have := congrArg List.reverse er
            rw [List.reverse_reverse, List.reverse_append, List.reverse_append] at this
            rw [this]; simp
        · rintro ⟨m1, fs, m2, a, b, c, M⟩
          have pm := M.pm
          rw [hm] at pm
          have s1 := M.s1; have s2 := M.s2
          rcases cs pm M.one1 M.one2 with ⟨ea, eb⟩ | ⟨ea, eb⟩
          · left
            rw [ea, seq_one] at s1
            rw [eb, seq_one] at s2
            exact ⟨fs, a, b, c, M.pf, M.eq, ⟨s1, M.q1⟩, M.s, s2, M.q2⟩
          · right
            rw [ea, seq_one] at s1
            rw [eb, seq_one] at s2
            exact ⟨fs.reverse, c.reverse, b.reverse, a.reverse, (List.reverse_perm fs).trans M.pf, by rw [M.eq]; simp, ⟨s2.rev, suf_rev.2 M.q2⟩, M.s.rev, s1.rev, M.q1.rev⟩
  | m :: m' :: m'' :: r =>
    show ∀ o, Tells (.node false ps) o → ¬ Tog p o
    intro o h1 h2
    obtain ⟨e1, e2, x, om, y, _, _, _, ⟨m1, fs, m2, a, b, c, M⟩, _⟩ := (any_mid F two).1 ⟨h1, h2⟩
    have := M.pm.length_eq
    rw [hm] at this
    have k1 := M.one1; have k2 := M.one2
    simp at this
    omega
end K13

/-! K13 M4: joined trees by touched places; least things, normal forms. Plain Lean. -/
namespace K13

def isTouched (p : Int → Bool) (ps : List Tr) (i : Nat) : Bool := match ps[i]? with
  | some q => decide (sh p q ≠ .non)
  | none => false
def touched (p : Int → Bool) (ps : List Tr) : List Nat := (List.range ps.length).filter (isTouched p ps)
theorem mem_touched {p : Int → Bool} {ps : List Tr} {i : Nat} : i ∈ touched p ps ↔ ∃ q, ps[i]? = some q ∧ sh p q ≠ .non := by
  unfold touched
  rw [List.mem_filter, List.mem_range]
  unfold isTouched
  constructor
  · rintro ⟨h1, h2⟩
    rw [List.getElem?_eq_getElem h1] at h2
    exact ⟨ps[i], List.getElem?_eq_getElem h1, of_decide_eq_true h2⟩
  · rintro ⟨q, h1, h2⟩
    rw [h1]
    exact ⟨(List.getElem?_eq_some_iff.1 h1).1, decide_eq_true h2⟩
theorem touched_lt (p : Int → Bool) (ps : List Tr) : (touched p ps).Pairwise (· < ·) := List.Pairwise.filter _ List.pairwise_lt_range
theorem touched_ne {p : Int → Bool} {ps : List Tr} (h : ¬ NoneP p (lvs ps)) : touched p ps ≠ [] := fun e => h fun x hx => by
  obtain ⟨q, hq, hxq⟩ := mem_lvs.1 hx
  obtain ⟨i, hi⟩ := List.mem_iff_getElem?.1 hq
  have : sh p q = .non := Classical.byContradiction fun n => by
    have : i ∈ touched p ps := mem_touched.2 ⟨q, hi, n⟩
    rw [e] at this; cases this
  exact sh_non.1 this x hxq
theorem split_at {α : Type} {ps : List α} {i : Nat} {q : α} (h : ps[i]? = some q) : ps = ps.take i ++ q :: ps.drop (i + 1) := by
  obtain ⟨h1, rfl⟩ := List.getElem?_eq_some_iff.1 h
  rw [← List.drop_eq_getElem_cons h1, List.take_append_drop]
theorem split_two {α : Type} {ps : List α} {f l : Nat} {x y : α} (hf : ps[f]? = some x) (hl : ps[l]? = some y) (h : f < l) : ps = ps.take f ++ x :: ((ps.take l).drop (f + 1) ++ y :: ps.drop (l + 1)) := by
  have h1 := split_at hl
  have h2 : (ps.take l)[f]? = some x := by rw [List.getElem?_take_of_lt h]; exact hf
  have h3 := split_at h2
  rw [List.take_take, Nat.min_eq_left (Nat.le_of_lt h)] at h3
  conv => lhs; rw [h1, h3]
  simp
theorem mem_take_at {α : Type} {ps : List α} {n : Nat} {q : α} (h : q ∈ ps.take n) : ∃ i, i < n ∧ ps[i]? = some q := by
  obtain ⟨i, hi⟩ := List.mem_iff_getElem?.1 h
  have := (List.getElem?_eq_some_iff.1 hi).1
  rw [List.length_take] at this
  have hn : i < n := Nat.lt_of_lt_of_le this (Nat.min_le_left _ _)
  exact ⟨i, hn, by rw [List.getElem?_take_of_lt hn] at hi; exact hi⟩
theorem mem_drop_at {α : Type} {ps : List α} {n : Nat} {q : α} (h : q ∈ ps.drop n) : ∃ i, n ≤ i ∧ ps[i]? = some q := by
  obtain ⟨i, hi⟩ := List.mem_iff_getElem?.1 h
  rw [List.getElem?_drop] at hi
  exact ⟨n + i, Nat.le_add_right _ _, hi⟩

def joinedRow (p : Int → Bool) (inner : Inner) (f l : Nat) (ps : List Tr) : Option Tr := match ps[f]?, ps[l]? with
  | some x, some y => rowJoin p inner (ps.take f) x ((ps.take l).drop (f + 1)) y (ps.drop (l + 1))
  | _, _ => none
def joinedMany (p : Int → Bool) (inner : Inner) (b : Bool) (ps : List Tr) : Option Tr :=
  if b then joinedRow p inner ((touched p ps).headD 0) ((touched p ps).getLastD 0) ps else joinedAny p inner ps
def joined (p : Int → Bool) (inner : Inner) : Nat → Tr → Option Tr
  | 0, t => some t
  | _ + 1, .thing i => some (.thing i)
  | n + 1, .node b ps => if sh p (.node b ps) = .all then some (.node b ps) else match touched p ps with
    | [i] => (ps[i]?.bind fun q => joined p inner n q).map fun q' => .node b (ps.take i ++ q' :: ps.drop (i + 1))
    | _ => joinedMany p inner b ps
theorem join_whole {p : Int → Bool} {t : Tr} (F : Form t) (h : AllP p t.lv ∨ ∃ i, t = .thing i) : JoinSome p t t := by
  refine ⟨fun o => ⟨fun k => ⟨k, ?_⟩, fun k => k.1⟩, F⟩
  rcases h with h | ⟨i, rfl⟩
  · exact (h.perm k.perm.symm).tog
  · rw [tells_thing] at k
    subst k
    cases e : p i with
    | true => exact AllP.tog fun x hx => by rw [List.mem_singleton] at hx; rw [hx]; exact e
    | false => exact NoneP.tog fun x hx => by rw [List.mem_singleton] at hx; rw [hx]; exact e
/-- the first and the last touched place -/
theorem ends_touched {p : Int → Bool} {ps : List Tr} {a b : Nat} {r : List Nat} (h : touched p ps = a :: b :: r) : ∃ f l x y, (touched p ps).headD 0 = f ∧ (touched p ps).getLastD 0 = l ∧ f < l ∧ ps[f]? = some x ∧ ps[l]? = some y ∧ sh p x ≠ .non ∧ sh p y ≠ .non ∧
    (∀ q ∈ ps.take f, sh p q = .non) ∧ ∀ q ∈ ps.drop (l + 1), sh p q = .non := by
  have hlt := touched_lt p ps
  have hne : b :: r ≠ [] := List.cons_ne_nil _ _
  have hl : (touched p ps).getLastD 0 = (b :: r).getLast hne := by
    rw [h, List.getLastD_eq_getLast?, List.getLast?_eq_some_getLast (List.cons_ne_nil _ _), List.getLast_cons hne]; rfl
  have ml : (b :: r).getLast hne ∈ touched p ps := by rw [h]; exact List.mem_cons_of_mem _ (List.getLast_mem hne)
  have mf : a ∈ touched p ps := by rw [h]; exact List.mem_cons_self
  obtain ⟨x, hx, nx⟩ := mem_touched.1 mf
  obtain ⟨y, hy, ny⟩ := mem_touched.1 ml
  have e : b :: r = (b :: r).dropLast ++ [(b :: r).getLast hne] := (List.dropLast_concat_getLast hne).symm
  rw [h] at hlt
  have lt := List.rel_of_pairwise_cons hlt (List.getLast_mem hne)
  refine ⟨a, (b :: r).getLast hne, x, y, by rw [h]; rfl, hl, lt, hx, hy, nx, ny, fun q hq => ?_, fun q hq => ?_⟩
  · obtain ⟨i, hi, eq⟩ := mem_take_at hq
    apply Classical.byContradiction
    intro n
    have m : i ∈ touched p ps := mem_touched.2 ⟨q, eq, n⟩
    rw [h] at m
    rcases List.mem_cons.1 m with rfl | m
    · exact Nat.lt_irrefl _ hi
    · exact Nat.lt_irrefl _ (Nat.lt_trans hi (List.rel_of_pairwise_cons hlt m))
  · obtain ⟨i, hi, eq⟩ := mem_drop_at hq
    apply Classical.byContradiction
    intro n
    have m : i ∈ touched p ps := mem_touched.2 ⟨q, eq, n⟩
    rw [h] at m
    rcases List.mem_cons.1 m with rfl | m
    · omega
    · have p2 := (List.pairwise_cons.1 hlt).2
      rw [e] at m p2
      rcases List.mem_append.1 m with m | m
      · have := (List.pairwise_append.1 p2).2.2 i m _ List.mem_cons_self
        omega
      · rw [List.mem_singleton] at m; omega
theorem joinedMany_ok {p : Int → Bool} {inner : Inner} {b : Bool} {ps : List Tr} (F : Form (.node b ps)) (na : sh p (.node b ps) ≠ .all) (two : 2 ≤ (touched p ps).length) (I : ∀ q ∈ ps, sh p q = .som → SplitOK p q (inner q)) :
    JoinOK p (.node b ps) (joinedMany p inner b ps) := by
  match ht : touched p ps, two with
  | a :: c :: r, _ =>
    obtain ⟨f, l, x, y, e1, e2, lt, hx, hy, nx, ny, n1, n2⟩ := ends_touched ht
    have dec := split_two hx hy lt
    have mx : x ∈ ps := List.mem_of_getElem? hx
    have my : y ∈ ps := List.mem_of_getElem? hy
    unfold joinedMany
    cases b with
    | true =>
      rw [if_pos rfl, e1, e2]
      unfold joinedRow
      rw [hx, hy]
      show JoinOK p (.node true ps) (rowJoin p inner (ps.take f) x ((ps.take l).drop (f + 1)) y (ps.drop (l + 1)))
      have := rowJoin_ok (p := p) (inner := inner) (e1 := ps.take f) (x := x) (mid := (ps.take l).drop (f + 1)) (y := y) (e2 := ps.drop (l + 1)) (dec ▸ F) n1 n2 nx ny (I x mx) (I y my)
      rw [← dec] at this
      exact this
    | false =>
      rw [if_neg Bool.false_ne_true]
      refine joinedAny_ok F na ?_ I
      have c1 : ∀ z : Tr, sh p z ≠ .non → (wsh p .som [z]).length + (wsh p .all [z]).length = 1 := by
        intro z hz
        rw [wsh_cons, wsh_cons]
        cases e : sh p z with
        | non => exact (hz e).elim
        | som => rfl
        | all => rfl
      have k : ∀ s, wsh p s ps = wsh p s (ps.take f) ++ (wsh p s [x] ++ (wsh p s ((ps.take l).drop (f + 1)) ++ (wsh p s [y] ++ wsh p s (ps.drop (l + 1))))) := by
        intro s
        have : ps = ps.take f ++ ([x] ++ ((ps.take l).drop (f + 1) ++ ([y] ++ ps.drop (l + 1)))) := dec
        conv => lhs; rw [this]
        simp only [wsh_append]
      rw [k .som, k .all]
      simp only [List.length_append]
      have := c1 x nx
      have := c1 y ny
      omega
theorem joined_ok {p : Int → Bool} {inner : Inner} (I : ∀ t, Form t → sh p t = .som → t.lv.length ≤ 24 → SplitOK p t (inner t)) : ∀ (n : Nat) (t : Tr), Form t → ¬ NoneP p t.lv → t.lv.length ≤ n → t.lv.length ≤ 24 → JoinOK p t (joined p inner n t)
  | 0, t, F, _, h, _ => (F.ne (List.eq_nil_of_length_eq_zero (Nat.le_zero.1 h))).elim
  | n + 1, .thing i, F, _, _, _ => join_whole F (.inr ⟨i, rfl⟩)
  | n + 1, .node b ps, F, hn, h, h24 => by
    unfold joined
    by_cases ha : sh p (.node b ps) = .all
    · rw [if_pos ha]
      exact join_whole F (.inl ((sh_all F).1 ha))
    · rw [if_neg ha]
      have lt : ∀ {q}, q ∈ ps → q.lv.length < (Tr.node b ps).lv.length := fun hq => F.lt hq
      have I' : ∀ q ∈ ps, sh p q = .som → SplitOK p q (inner q) := fun q hq hs => I q (F.parts q hq) hs (by have := lt hq; omega)
      rw [lv_node] at hn
      have ne := touched_ne hn
      match ht : touched p ps, ne with
      | [i], _ =>
        have mi : i ∈ touched p ps := by rw [ht]; exact List.mem_cons_self
        obtain ⟨q, hq, nq⟩ := mem_touched.1 mi
        have dec := split_at hq
        have mq : q ∈ ps := List.mem_of_getElem? hq
        have one : ∀ j z, ps[j]? = some z → j ≠ i → sh p z = .non := fun j z hj ne => Classical.byContradiction fun n => by
          have : j ∈ touched p ps := mem_touched.2 ⟨z, hj, n⟩
          rw [ht, List.mem_singleton] at this
          exact ne this
        have ih := joined_ok I n q (F.parts q mq) (fun z => nq (sh_non.2 z)) (by have := lt mq; omega) (by have := lt mq; omega)
        show JoinOK p (.node b ps) ((ps[i]?.bind fun q => joined p inner n q).map fun q' => .node b (ps.take i ++ q' :: ps.drop (i + 1)))
        rw [hq]
        have := one_part (p := p) (b := b) (l := ps.take i) (r := ps.drop (i + 1)) (q := q) (dec ▸ F) (fun z hz => by
          obtain ⟨j, hj, e⟩ := mem_take_at hz
          exact one j z e (Nat.ne_of_lt hj)) (fun z hz => by
          obtain ⟨j, hj, e⟩ := mem_drop_at hz
          exact one j z e (by omega)) ih
        rw [← dec] at this
        exact this
      | a :: c :: r, _ => exact joinedMany_ok F ha (by rw [ht]; simp) I'

/-! ### least things -/
def leastOf : List Int → Int
  | [] => 0
  | x :: r => r.foldl min x
theorem foldl_min (r : List Int) : ∀ x : Int, (r.foldl min x ∈ x :: r) ∧ ∀ y ∈ x :: r, r.foldl min x ≤ y := by
  induction r with
  | nil => intro x; exact ⟨List.mem_cons_self, fun y hy => by rw [List.mem_singleton] at hy; subst hy; exact Int.le_refl _⟩
  | cons z r ih =>
    intro x
    rw [List.foldl_cons]
    obtain ⟨h1, h2⟩ := ih (min x z)
    constructor
    · rcases List.mem_cons.1 h1 with h | h
      · rw [h]
        rcases Int.le_total x z with k | k
        · rw [Int.min_eq_left k]; exact List.mem_cons_self
        · rw [Int.min_eq_right k]; simp
      · simp [h]
    · intro y hy
      have h0 := h2 (min x z) List.mem_cons_self
      rcases List.mem_cons.1 hy with rfl | hy
      · exact Int.le_trans h0 (Int.min_le_left _ _)
      · rcases List.mem_cons.1 hy with rfl | hy
        · exact Int.le_trans h0 (Int.min_le_right _ _)
        · exact h2 y (List.mem_cons_of_mem _ hy)
theorem leastOf_mem {l : List Int} (h : l ≠ []) : leastOf l ∈ l := by
  match l, h with
  | x :: r, _ => exact (foldl_min r x).1
theorem leastOf_le {l : List Int} {y : Int} (h : y ∈ l) : leastOf l ≤ y := by
  match l, h with
  | x :: r, h => exact (foldl_min r x).2 y h
theorem leastOf_eq {l : List Int} {m : Int} (h1 : m ∈ l) (h2 : ∀ x ∈ l, m ≤ x) : leastOf l = m := Int.le_antisymm (leastOf_le h1) (h2 _ (leastOf_mem (List.ne_nil_of_mem h1)))
theorem leastOf_perm {l l' : List Int} (h : l.Perm l') : leastOf l = leastOf l' := by
  by_cases e : l = []
  · subst e; rw [List.nil_perm.1 h]
  · exact leastOf_eq (h.mem_iff.2 (leastOf_mem fun z => e (by subst z; exact List.perm_nil.1 h))) fun x hx => leastOf_le (h.mem_iff.1 hx)
def Tr.least (t : Tr) : Int := leastOf t.lv
theorem least_mem {t : Tr} (F : Form t) : t.least ∈ t.lv := leastOf_mem F.ne

/-! ### the normal form -/
inductive Normal : Tr → Prop where
  | thing (i : Int) : Normal (.thing i)
  | any {ps : List Tr} : ps.Pairwise (fun a b => a.least < b.least) → (∀ q ∈ ps, Normal q) → Normal (.node false ps)
  | row {x : Tr} {mid : List Tr} {y : Tr} : x.least < y.least → (∀ q ∈ x :: (mid ++ [y]), Normal q) → Normal (.node true (x :: (mid ++ [y])))
theorem Normal.parts {b : Bool} {ps : List Tr} (h : Normal (.node b ps)) : ∀ q ∈ ps, Normal q := by cases h <;> assumption
theorem Normal.sorted {ps : List Tr} (h : Normal (.node false ps)) : ps.Pairwise (fun a b => a.least < b.least) := by cases h; assumption

/-- a tree that tells the same orders, in its normal form -/
structure NormOf (t t' : Tr) : Prop where
  iff : ∀ o, Tells t' o ↔ Tells t o
  form : Form t'
  normal : Normal t'
theorem NormOf.lv {t t' : Tr} (h : NormOf t t') : t'.lv.Perm t.lv := ((h.iff _).1 (tells_lv t')).perm
theorem NormOf.least {t t' : Tr} (h : NormOf t t') : t'.least = t.least := leastOf_perm h.lv
theorem norm_thing (i : Int) : NormOf (.thing i) (.thing i) := ⟨fun _ => Iff.rfl, .thing i, .thing i⟩
inductive All2 {α β : Type} (R : α → β → Prop) : List α → List β → Prop where
  | nil : All2 R [] []
  | cons {a : α} {b : β} {as : List α} {bs : List β} : R a b → All2 R as bs → All2 R (a :: as) (b :: bs)
section
variable {α β : Type} {R : α → β → Prop}
theorem All2.length {as : List α} {bs : List β} (h : All2 R as bs) : as.length = bs.length := by
  induction h with
  | nil => rfl
  | cons _ _ ih => rw [List.length_cons, List.length_cons, ih]
theorem All2.app {as as' : List α} {bs bs' : List β} (h : All2 R as bs) (h' : All2 R as' bs') : All2 R (as ++ as') (bs ++ bs') := by
  induction h with
  | nil => exact h'
  | cons a _ ih => exact .cons a ih
theorem All2.rev {as : List α} {bs : List β} (h : All2 R as bs) : All2 R as.reverse bs.reverse := by
  induction h with
  | nil => exact .nil
  | cons a _ ih => rw [List.reverse_cons, List.reverse_cons]; exact ih.app (.cons a .nil)
theorem All2.right {as : List α} {bs : List β} (h : All2 R as bs) : ∀ b ∈ bs, ∃ a ∈ as, R a b := by
  induction h with
  | nil => intro b hb; cases hb
  | cons a _ ih =>
    intro b hb
    rcases List.mem_cons.1 hb with rfl | hb
    · exact ⟨_, List.mem_cons_self, a⟩
    · obtain ⟨x, h1, h2⟩ := ih b hb
      exact ⟨x, List.mem_cons_of_mem _ h1, h2⟩
theorem All2.get {as : List α} {bs : List β} (h : All2 R as bs) : ∀ {i : Nat} {a : α}, as[i]? = some a → ∃ b, bs[i]? = some b ∧ R a b := by
  induction h with
  | nil => intro i a e; simp at e
  | cons r _ ih =>
    intro i a e
    cases i with
    | zero => simp at e; subst e; exact ⟨_, rfl, r⟩
    | succ i => simp at e; obtain ⟨b, h1, h2⟩ := ih e; exact ⟨b, by simpa using h1, h2⟩
theorem All2.get' {as : List α} {bs : List β} (h : All2 R as bs) : ∀ {i : Nat} {b : β}, bs[i]? = some b → ∃ a, as[i]? = some a ∧ R a b := by
  induction h with
  | nil => intro i a e; simp at e
  | cons r _ ih =>
    intro i a e
    cases i with
    | zero => simp at e; subst e; exact ⟨_, rfl, r⟩
    | succ i => simp at e; obtain ⟨b, h1, h2⟩ := ih e; exact ⟨b, by simpa using h1, h2⟩
theorem All2.mono {R' : α → β → Prop} (f : ∀ a b, R a b → R' a b) {as : List α} {bs : List β} (h : All2 R as bs) : All2 R' as bs := by
  induction h with
  | nil => exact .nil
  | cons a _ ih => exact .cons (f _ _ a) ih
theorem All2.take {as : List α} {bs : List β} (n : Nat) (h : All2 R as bs) : All2 R (as.take n) (bs.take n) := by
  induction h generalizing n with
  | nil => rw [List.take_nil, List.take_nil]; exact .nil
  | cons a _ ih =>
    cases n with
    | zero => exact .nil
    | succ n => rw [List.take_succ_cons, List.take_succ_cons]; exact .cons a (ih n)
theorem All2.drop {as : List α} {bs : List β} (n : Nat) (h : All2 R as bs) : All2 R (as.drop n) (bs.drop n) := by
  induction h generalizing n with
  | nil => rw [List.drop_nil, List.drop_nil]; exact .nil
  | cons a t ih =>
    cases n with
    | zero => exact .cons a t
    | succ n => rw [List.drop_succ_cons, List.drop_succ_cons]; exact ih n
end
theorem all2_perm {α β : Type} {R : α → β → Prop} {bs cs : List β} (h : bs.Perm cs) : ∀ {as : List α}, All2 R as bs → ∃ ds, ds.Perm as ∧ All2 R ds cs := by
  induction h with
  | nil => intro as h; exact ⟨as, .refl _, h⟩
  | cons x _ ih =>
    intro as h
    cases h with
    | cons r t => obtain ⟨ds, h1, h2⟩ := ih t; exact ⟨_ :: ds, h1.cons _, .cons r h2⟩
  | swap x y l =>
    intro as h
    cases h with
    | cons r t => cases t with
      | cons r' t => exact ⟨_ :: _ :: _, .swap .., .cons r' (.cons r t)⟩
  | trans _ _ ih1 ih2 =>
    intro as h
    obtain ⟨ds, h1, h2⟩ := ih1 h
    obtain ⟨es, h3, h4⟩ := ih2 h2
    exact ⟨es, h3.trans h1, h4⟩
theorem seq_norm {ps qs : List Tr} (h : All2 NormOf ps qs) : ∀ {o : List Int}, Seq qs o ↔ Seq ps o := by
  induction h with
  | nil => intro o; exact Iff.rfl
  | cons a _ ih =>
    intro o
    rw [seq_cons, seq_cons]
    constructor
    · rintro ⟨x, y, e, h1, h2⟩; exact ⟨x, y, e, (a.iff x).1 h1, ih.1 h2⟩
    · rintro ⟨x, y, e, h1, h2⟩; exact ⟨x, y, e, (a.iff x).2 h1, ih.2 h2⟩
theorem norm_any {ps ps' qs : List Tr} (F : Form (.node false ps)) (h : All2 NormOf ps ps') (hq : qs.Perm ps') (hs : qs.Pairwise fun a b => a.least < b.least) : NormOf (.node false ps) (.node false qs) := by
  have good : ∀ q ∈ qs, Form q ∧ Normal q := fun q hm => by
    obtain ⟨p, _, r⟩ := h.right q (hq.mem_iff.1 hm)
    exact ⟨r.form, r.normal⟩
  refine ⟨fun o => ?_, .node ?_ (fun z => nomatch z) fun q hm => (good q hm).1, .any hs fun q hm => (good q hm).2⟩
  · rw [tells_any, tells_any]
    constructor
    · rintro ⟨rs, h1, h2⟩
      obtain ⟨ds, h3, h4⟩ := all2_perm (hq.symm.trans h1.symm) h
      exact ⟨ds, h3, (seq_norm h4).1 h2⟩
    · rintro ⟨rs, h1, h2⟩
      have sw : ∀ {as : List Tr} {bs : List Tr}, All2 NormOf as bs → All2 (fun b a => NormOf a b) bs as := fun h => by
        induction h with
        | nil => exact .nil
        | cons a _ ih => exact .cons a ih
      obtain ⟨ds, h3, h4⟩ := all2_perm h1.symm (sw h)
      have sw2 : ∀ {as : List Tr} {bs : List Tr}, All2 (fun b a => NormOf a b) as bs → All2 NormOf bs as := fun h => by
        induction h with
        | nil => exact .nil
        | cons a _ ih => exact .cons a ih
      exact ⟨ds, h3.trans hq.symm, (seq_norm (sw2 h4)).2 h2⟩
  · have := F.two
    rw [h.length, ← hq.length_eq] at this
    exact this
theorem row_shape {ps : List Tr} (h : 3 ≤ ps.length) : ∃ x mid y, ps = x :: (mid ++ [y]) := by
  match ps, h with
  | x :: z :: r, _ => exact ⟨x, (z :: r).dropLast, (z :: r).getLast (List.cons_ne_nil _ _), by rw [List.dropLast_concat_getLast]⟩
theorem norm_row {ps qs : List Tr} (F : Form (.node true ps)) (h : All2 NormOf ps qs ∨ All2 NormOf ps.reverse qs) {x y : Tr} {mid : List Tr} (e : qs = x :: (mid ++ [y])) (lt : x.least < y.least) : NormOf (.node true ps) (.node true qs) := by
  have good : ∀ q ∈ qs, Form q ∧ Normal q := fun q hm => by
    rcases h with h | h
    · obtain ⟨p, _, r⟩ := h.right q hm
      exact ⟨r.form, r.normal⟩
    · obtain ⟨p, _, r⟩ := h.right q hm
      exact ⟨r.form, r.normal⟩
  have len : qs.length = ps.length := by
    rcases h with h | h
    · exact h.length.symm
    · have := h.length
      rw [List.length_reverse] at this; exact this.symm
  refine ⟨fun o => ?_, .node (len ▸ F.two) (fun _ => len ▸ F.three) fun q hm => (good q hm).1, ?_⟩
  · rw [tells_row, tells_row]
    rcases h with h | h
    · rw [seq_norm h, seq_norm h.rev]
    · have h' := h.rev
      rw [List.reverse_reverse] at h'
      rw [seq_norm h, seq_norm h']
      exact Or.comm
  · rw [e]
    exact .row lt fun q hm => (good q (by rw [e]; exact hm)).2

/-! ### reduced by sets -/
def setP (S : List Int) : Int → Bool := fun x => decide (x ∈ S)
theorem setP_true {S : List Int} {x : Int} : setP S x = true ↔ x ∈ S := decide_eq_true_iff
theorem setP_false {S : List Int} {x : Int} : setP S x = false ↔ x ∉ S := decide_eq_false_iff_not
theorem tog_small {S : List Int} (h : S.length < 2) {o : List Int} (nd : o.Nodup) : Tog (setP S) o := by
  match S, h with
  | [], _ => exact NoneP.tog fun x _ => setP_false.2 List.not_mem_nil
  | [s], _ =>
    by_cases hs : s ∈ o
    · obtain ⟨a, b, rfl⟩ := List.append_of_mem hs
      rw [List.nodup_append] at nd
      have nb := (List.nodup_cons.1 nd.2.1).1
      refine ⟨a, [s], b, by simp, fun x hx => setP_false.2 fun z => ?_, fun x hx => setP_true.2 hx, fun x hx => setP_false.2 fun z => ?_⟩
      · rw [List.mem_singleton] at z; subst z
        exact nd.2.2 x hx x List.mem_cons_self rfl
      · rw [List.mem_singleton] at z; subst z
        exact nb hx
    · exact NoneP.tog fun x hx => setP_false.2 fun z => by rw [List.mem_singleton] at z; subst z; exact hs hx
structure RedSome (sets : List (List Int)) (t t' : Tr) : Prop where
  iff : ∀ o, Tells t' o ↔ Tells t o ∧ ∀ S ∈ sets, Tog (setP S) o
  form : Form t'
  normal : Normal t'
def RedOK (sets : List (List Int)) (t : Tr) : Option Tr → Prop
  | none => ∀ o, Tells t o → ¬ ∀ S ∈ sets, Tog (setP S) o
  | some t' => RedSome sets t t'
theorem RedSome.lv {sets : List (List Int)} {t t' : Tr} (h : RedSome sets t t') : t'.lv.Perm t.lv := ((h.iff _).1 (tells_lv t')).1.perm
theorem red_small {S : List Int} (h : S.length < 2) {t t' : Tr} (nd : t.lv.Nodup) (N : NormOf t t') : RedOK [S] t (some t') :=
  ⟨fun o => by
    rw [N.iff]
    constructor
    · intro k
      exact ⟨k, fun S' hS => by rw [List.mem_singleton] at hS; subst hS; exact tog_small h (k.perm.nodup_iff.2 nd)⟩
    · intro k; exact k.1, N.form, N.normal⟩
theorem red_none {S : List Int} {t : Tr} (h : JoinOK (setP S) t none) : RedOK [S] t none := fun o k z => h o k (z S List.mem_cons_self)
theorem red_some {S : List Int} {t t' t'' : Tr} (h : JoinOK (setP S) t (some t')) (N : NormOf t' t'') : RedOK [S] t (some t'') := by
  have h : JoinSome (setP S) t t' := h
  refine ⟨fun o => ?_, N.form, N.normal⟩
  rw [N.iff, h.iff]
  constructor
  · rintro ⟨a, b⟩; exact ⟨a, fun S' hS => by rw [List.mem_singleton] at hS; subst hS; exact b⟩
  · rintro ⟨a, b⟩; exact ⟨a, b S List.mem_cons_self⟩
theorem red_nil {t : Tr} (F : Form t) (N : Normal t) : RedSome [] t t := ⟨fun o => ⟨fun k => ⟨k, fun _ h => nomatch h⟩, fun k => k.1⟩, F, N⟩
theorem red_step {sets : List (List Int)} {S : List Int} {t t' : Tr} {r : Option Tr} (h : RedSome sets t t') (h2 : RedOK [S] t' r) : RedOK (sets ++ [S]) t r := by
  cases r with
  | none =>
    have h2 : ∀ o, Tells t' o → ¬ ∀ S' ∈ [S], Tog (setP S') o := h2
    intro o k z
    exact h2 o ((h.iff o).2 ⟨k, fun S' hS => z S' (List.mem_append_left _ hS)⟩) fun S' hS => z S' (List.mem_append_right _ hS)
  | some t'' =>
    have h2 : RedSome [S] t' t'' := h2
    refine ⟨fun o => ?_, h2.form, h2.normal⟩
    rw [h2.iff, h.iff]
    constructor
    · rintro ⟨⟨a, b⟩, c⟩
      exact ⟨a, fun S' hS => (List.mem_append.1 hS).elim (b S') (c S')⟩
    · rintro ⟨a, b⟩
      exact ⟨⟨a, fun S' hS => b S' (List.mem_append_left _ hS)⟩, fun S' hS => b S' (List.mem_append_right _ hS)⟩
theorem red_stop {sets : List (List Int)} {S : List Int} {more : List (List Int)} {t : Tr} (h : RedOK (sets ++ [S]) t none) : RedOK (sets ++ S :: more) t none := fun o k z =>
  h o k fun S' hS => z S' (by
    rcases List.mem_append.1 hS with hS | hS
    · exact List.mem_append_left _ hS
    · rw [List.mem_singleton] at hS; subst hS; simp)
end K13

/-! K13 M5: the sets of a tree tell its orders. Plain Lean. -/
namespace K13

def pairsOf : List Tr → List (List Int)
  | [] => []
  | [_] => []
  | x :: y :: r => (x.lv ++ y.lv) :: pairsOf (y :: r)
/-- the sets of a tree, the things of each in some sequence -/
def Tr.sets : Tr → List (List Int)
  | .thing _ => []
  | .node b ps => (if b then pairsOf ps else [lvs ps]) ++ (ps.map fun p => p.sets).flatten
theorem sets_thing (i : Int) : (Tr.thing i).sets = [] := by rw [Tr.sets]
theorem sets_node (b : Bool) (ps : List Tr) : (Tr.node b ps).sets = (if b then pairsOf ps else [lvs ps]) ++ (ps.map Tr.sets).flatten := by rw [Tr.sets]
theorem mem_sets_part {b : Bool} {ps : List Tr} {p : Tr} {C : List Int} (hp : p ∈ ps) (h : C ∈ p.sets) : C ∈ (Tr.node b ps).sets := by
  rw [sets_node]
  exact List.mem_append_right _ (List.mem_flatten.2 ⟨_, List.mem_map.2 ⟨p, hp, rfl⟩, h⟩)
theorem pairs_sub {ps : List Tr} : ∀ C ∈ pairsOf ps, ∀ x ∈ C, x ∈ lvs ps := by
  induction ps with
  | nil => intro C h; cases h
  | cons p r ih =>
    cases r with
    | nil => intro C h; cases h
    | cons q r =>
      intro C h x hx
      rcases List.mem_cons.1 h with rfl | h
      · rw [lvs_cons, lvs_cons, ← List.append_assoc]
        exact List.mem_append_left _ hx
      · rw [lvs_cons]; exact List.mem_append_right _ (ih C h x hx)
theorem sets_sub : ∀ {t : Tr} {C : List Int}, C ∈ t.sets → ∀ x ∈ C, x ∈ t.lv := by
  intro t
  induction t using Tr.ind with
  | h1 i => intro C h; rw [sets_thing] at h; cases h
  | h2 b ps ih =>
    intro C h x hx
    rw [lv_node]
    rw [sets_node] at h
    rcases List.mem_append.1 h with h | h
    · cases b with
      | true => exact pairs_sub C h x hx
      | false =>
        have e : C = lvs ps := List.mem_singleton.1 h
        rw [← e]; exact hx
    · obtain ⟨l, hl, hC⟩ := List.mem_flatten.1 h
      obtain ⟨p, hp, rfl⟩ := List.mem_map.1 hl
      exact mem_lvs.2 ⟨p, hp, ih p hp hC x hx⟩
theorem disj_lvs {p : Tr} {ps : List Tr} (nd : (lvs (p :: ps)).Nodup) {x : Int} (hx : x ∈ p.lv) (hy : x ∈ lvs ps) : False := by
  rw [lvs_cons, List.nodup_append] at nd
  exact nd.2.2 x hx x hy rfl
theorem nodup_part {p : Tr} {ps : List Tr} (nd : (lvs ps).Nodup) (hp : p ∈ ps) : p.lv.Nodup := by
  obtain ⟨l, r, rfl⟩ := List.append_of_mem hp
  rw [lvs_append, lvs_cons] at nd
  exact (List.nodup_append.1 (List.nodup_append.1 nd).2.1).1

/-! ### told orders keep the sets -/
theorem seq_part {ps : List Tr} {o : List Int} (s : Seq ps o) {p : Tr} (hp : p ∈ ps) : ∃ a b c, o = a ++ (b ++ c) ∧ Tells p b := by
  obtain ⟨l, r, rfl⟩ := List.append_of_mem hp
  obtain ⟨a, d, rfl, _, h2⟩ := seq_append.1 s
  obtain ⟨b, c, rfl, h3, _⟩ := seq_cons.1 h2
  exact ⟨a, b, c, rfl, h3⟩
theorem tog_mid {C a b c : List Int} (nd : (a ++ (b ++ c)).Nodup) (hC : ∀ x ∈ C, x ∈ b) (h : Tog (setP C) b) : Tog (setP C) (a ++ (b ++ c)) := by
  rw [List.nodup_append] at nd
  obtain ⟨_, nd2, d1⟩ := nd
  rw [List.nodup_append] at nd2
  refine tog_append.2 (.inl ⟨fun x hx => setP_false.2 fun z => d1 x hx x (List.mem_append_left _ (hC x z)) rfl, tog_append.2 (.inr (.inl ⟨h, fun x hx => setP_false.2 fun z => nd2.2.2 x (hC x z) x hx rfl⟩))⟩)
theorem tog_pairs {ps : List Tr} : ∀ {o : List Int}, o.Nodup → Seq ps o → ∀ C ∈ pairsOf ps, Tog (setP C) o := by
  induction ps with
  | nil => intro o _ _ C h; cases h
  | cons p r ih =>
    cases r with
    | nil => intro o _ _ C h; cases h
    | cons q r =>
      intro o nd s C h
      obtain ⟨a, d, rfl, h1, h2⟩ := seq_cons.1 s
      rcases List.mem_cons.1 h with rfl | h
      · obtain ⟨b, c, rfl, h3, h4⟩ := seq_cons.1 h2
        have nd' : ([] ++ ((a ++ b) ++ c)).Nodup := by rw [List.nil_append, List.append_assoc]; exact nd
        have := tog_mid (C := p.lv ++ q.lv) nd' (fun x hx => by
          rcases List.mem_append.1 hx with hx | hx
          · exact List.mem_append_left _ (h1.perm.mem_iff.2 hx)
          · exact List.mem_append_right _ (h3.perm.mem_iff.2 hx)) (AllP.tog fun x hx => setP_true.2 (by
          rcases List.mem_append.1 hx with hx | hx
          · exact List.mem_append_left _ (h1.perm.mem_iff.1 hx)
          · exact List.mem_append_right _ (h3.perm.mem_iff.1 hx)))
        rw [List.nil_append, List.append_assoc] at this
        exact this
      · rw [List.nodup_append] at nd
        refine tog_append.2 (.inl ⟨fun x hx => setP_false.2 fun z => ?_, ih nd.2.1 h2 C h⟩)
        exact nd.2.2 x hx x (h2.perm.mem_iff.2 (pairs_sub C h x z)) rfl
theorem tells_sets : ∀ {t : Tr}, t.lv.Nodup → ∀ {o : List Int}, Tells t o → ∀ C ∈ t.sets, Tog (setP C) o := by
  intro t
  induction t using Tr.ind with
  | h1 i => intro _ o _ C h; rw [sets_thing] at h; cases h
  | h2 b ps ih =>
    intro nd o h C hC
    have no : o.Nodup := h.perm.nodup_iff.2 nd
    rw [lv_node] at nd
    have part : ∀ qs : List Tr, (∀ q, q ∈ qs ↔ q ∈ ps) → Seq qs o → C ∈ (ps.map Tr.sets).flatten → Tog (setP C) o := by
      intro qs hq s hc
      obtain ⟨l, hl, hC⟩ := List.mem_flatten.1 hc
      obtain ⟨p, hp, rfl⟩ := List.mem_map.1 hl
      obtain ⟨x, y, z, rfl, h1⟩ := seq_part s ((hq p).2 hp)
      exact tog_mid no (fun x hx => h1.perm.mem_iff.2 (sets_sub hC x hx)) (ih p hp (nodup_part nd hp) h1 C hC)
    rw [sets_node] at hC
    cases b with
    | false =>
      obtain ⟨qs, h1, h2⟩ := tells_any.1 h
      rcases List.mem_append.1 hC with hc | hc
      · have e : C = lvs ps := List.mem_singleton.1 hc
        rw [e]
        exact AllP.tog fun x hx => setP_true.2 ((h2.perm.trans (lvs_perm h1)).mem_iff.1 hx)
      · exact part qs (fun q => h1.mem_iff) h2 hc
    | true =>
      rcases tells_row.1 h with h2 | h2
      · rcases List.mem_append.1 hC with hc | hc
        · exact tog_pairs no h2 C hc
        · exact part ps (fun q => Iff.rfl) h2 hc
      · rcases List.mem_append.1 hC with hc | hc
        · have := tog_pairs ((List.reverse_perm _).nodup_iff.2 no) (seq_reverse.1 h2) C hc
          exact tog_rev.1 this
        · exact part ps.reverse (fun q => List.mem_reverse) h2 hc

/-! ### stretches of an order without repeats -/
theorem infix_nodup {m o : List Int} (h : m <:+: o) (nd : o.Nodup) : m.Nodup := nd.sublist h.sublist
theorem infix_right {b r s : List Int} (h : s <:+: b ++ r) (ne : s ≠ []) (d : ∀ x ∈ s, x ∉ b) : s <:+: r := by
  obtain ⟨x, y, e⟩ := h
  rw [List.append_assoc] at e
  rcases List.append_eq_append_iff.1 e with ⟨c, e1, e2⟩ | ⟨c, e1, e2⟩
  · cases c with
    | nil => exact ⟨[], y, by rw [List.nil_append]; exact e2⟩
    | cons z c =>
      match s, ne with
      | w :: s, _ =>
        rw [List.cons_append, List.cons_append] at e2
        injection e2 with e3 e4
        subst e3
        exact (d w List.mem_cons_self (by rw [e1]; simp)).elim
  · exact ⟨c, y, by rw [List.append_assoc]; exact e2.symm⟩
theorem infix_left {b r s : List Int} (h : s <:+: b ++ r) (ne : s ≠ []) (d : ∀ x ∈ s, x ∉ r) : s <:+: b := by
  have h' : s.reverse <:+: r.reverse ++ b.reverse := by rw [← List.reverse_append]; exact List.reverse_infix.2 h
  have := infix_right h' (fun e => ne (List.reverse_eq_nil_iff.1 e)) fun x hx z => d x (List.mem_reverse.1 hx) (List.mem_reverse.1 z)
  exact List.reverse_infix.1 this
theorem infix_in {s m o : List Int} (nd : o.Nodup) (hs : s <:+: o) (hm : m <:+: o) (ne : s ≠ []) (sub : ∀ x ∈ s, x ∈ m) : s <:+: m := by
  obtain ⟨l, r, e⟩ := hm
  subst e
  rw [List.append_assoc] at nd hs
  rw [List.nodup_append] at nd
  have h1 := infix_right hs ne fun x hx z => nd.2.2 x z x (List.mem_append_left _ (sub x hx)) rfl
  exact infix_left h1 ne fun x hx z => (List.nodup_append.1 nd.2.1).2.2 x (sub x hx) x z rfl
theorem seg_eq {a b o : List Int} (nd : o.Nodup) (ha : a <:+: o) (hb : b <:+: o) (p : a.Perm b) : a = b := by
  by_cases e : a = []
  · subst e; exact (List.nil_perm.1 p).symm
  · have h := infix_in nd ha hb e fun x hx => p.mem_iff.1 hx
    exact h.sublist.eq_of_length p.length_eq
theorem tog_infix {S o : List Int} (nd : o.Nodup) (ns : S.Nodup) (sub : ∀ x ∈ S, x ∈ o) (h : Tog (setP S) o) : ∃ m, m <:+: o ∧ m.Perm S := by
  obtain ⟨a, m, b, rfl, h1, h2, h3⟩ := h
  have hm : m <:+: a ++ m ++ b := ⟨a, b, rfl⟩
  refine ⟨m, hm, (List.perm_ext_iff_of_nodup (infix_nodup hm nd) ns).2 fun x => ⟨fun hx => setP_true.1 (h2 x hx), fun hx => ?_⟩⟩
  have := sub x hx
  rw [List.mem_append, List.mem_append] at this
  rcases this with (k | k) | k
  · exact (setP_false.1 (h1 x k) hx).elim
  · exact k
  · exact (setP_false.1 (h3 x k) hx).elim
/-- the decomposition around a stretch is one -/
theorem around_one {a b c d s : List Int} (nd : (a ++ (s ++ b)).Nodup) (ne : s ≠ []) (e : a ++ (s ++ b) = c ++ (s ++ d)) : a = c ∧ b = d := by
  have key : ∀ {a b c d : List Int}, (a ++ (s ++ b)).Nodup → a ++ (s ++ b) = c ++ (s ++ d) → ∀ z, c = a ++ z → z = [] := by
    intro a b c d nd e z ez
    subst ez
    cases z with
    | nil => rfl
    | cons w z =>
      rw [List.append_assoc] at e
      have e2 := List.append_cancel_left e
      match s, ne with
      | v :: s, _ =>
        rw [List.cons_append, List.cons_append] at e2
        injection e2 with e3 e4
        subst e3
        have : v ∈ s ++ b := by rw [e4]; simp
        have nd2 := (List.nodup_append.1 nd).2.1
        rw [List.cons_append, List.nodup_cons] at nd2
        exact (nd2.1 this).elim
  rcases List.append_eq_append_iff.1 e with ⟨z, e1, e2⟩ | ⟨z, e1, e2⟩
  · have := key nd e z e1
    subst this
    rw [List.append_nil] at e1
    subst e1
    exact ⟨rfl, List.append_cancel_left (List.append_cancel_left e)⟩
  · have := key (e ▸ nd) e.symm z e1
    subst this
    rw [List.append_nil] at e1
    subst e1
    exact ⟨rfl, List.append_cancel_left (List.append_cancel_left e)⟩

/-- parts that all stand together fill a stretch one behind the other -/
theorem blocks : ∀ (k : Nat) {ps : List Tr} {m : List Int}, ps.length = k → (∀ p ∈ ps, Form p) → m.Nodup → m.Perm (lvs ps) → (∀ p ∈ ps, ∃ b, b <:+: m ∧ Tells p b) → ∃ qs, qs.Perm ps ∧ Seq qs m
  | 0, ps, m, hk, F, nd, pm, h => by
    have : ps = [] := List.eq_nil_of_length_eq_zero hk
    subst this
    rw [lvs_nil, List.perm_nil] at pm
    subst pm
    exact ⟨[], .nil, .nil⟩
  | k + 1, ps, m, hk, F, nd, pm, h => by
    have hlen := lvs_len F
    rw [hk] at hlen
    rw [← pm.length_eq] at hlen
    match m, hlen with
    | x :: m', _ =>
      obtain ⟨p, hp, hx⟩ := mem_lvs.1 (pm.mem_iff.1 (List.mem_cons_self : x ∈ x :: m'))
      obtain ⟨l, r, rfl⟩ := List.append_of_mem hp
      have pp : (l ++ p :: r).Perm (p :: (l ++ r)) := List.perm_middle
      obtain ⟨b, ⟨u, v, e⟩, hb⟩ := h p hp
      have hxb : x ∈ b := hb.perm.mem_iff.2 hx
      have hu : u = [] := by
        cases u with
        | nil => rfl
        | cons w u =>
          rw [List.cons_append, List.cons_append] at e
          injection e with e1 e2
          subst e1
          rw [List.nodup_cons] at nd
          exact (nd.1 (by rw [← e2]; simp [hxb])).elim
      subst hu
      rw [List.nil_append] at e
      rw [← e] at pm nd h
      rw [← e]
      have pm2 : (b ++ v).Perm (p.lv ++ lvs (l ++ r)) := pm.trans (lvs_perm pp)
      have pv : v.Perm (lvs (l ++ r)) := (List.perm_append_left_iff b).1 (pm2.trans (hb.perm.symm.append_right _))
      rw [List.nodup_append] at nd
      have F' : ∀ q ∈ l ++ r, Form q := fun q hq => F q (by rcases List.mem_append.1 hq with h | h <;> simp [h])
      obtain ⟨qs, h1, h2⟩ := blocks k (ps := l ++ r) (m := v) (by rw [List.length_append, List.length_cons] at hk; rw [List.length_append]; omega) F' nd.2.1 pv (fun q hq => by
        obtain ⟨c, hc, tc⟩ := h q (by rcases List.mem_append.1 hq with h | h <;> simp [h])
        refine ⟨c, infix_right hc (fun z => (F' q hq).ne (by
          have := tc.perm; rw [z] at this; exact List.nil_perm.1 this)) fun y hy z => ?_, tc⟩
        exact nd.2.2 y z y (pv.mem_iff.2 (mem_lvs.2 ⟨q, hq, tc.perm.mem_iff.1 hy⟩)) rfl)
      exact ⟨p :: qs, (h1.cons p).trans pp.symm, .cons hb h2⟩

def Adj (o : List Int) (u v : Tr) : Prop := ∃ a c, Tells u a ∧ Tells v c ∧ (a ++ c <:+: o ∨ c ++ a <:+: o)
theorem Adj.rev {o : List Int} {u v : Tr} (h : Adj o u v) : Adj o.reverse u v := by
  obtain ⟨a, c, h1, h2, h3⟩ := h
  refine ⟨a.reverse, c.reverse, h1.rev, h2.rev, ?_⟩
  rcases h3 with h | h
  · right; rw [← List.reverse_append]; exact List.reverse_infix.2 h
  · left; rw [← List.reverse_append]; exact List.reverse_infix.2 h
def Chain (o : List Int) : List Tr → Prop
  | [] => True
  | [_] => True
  | u :: v :: r => Adj o u v ∧ Chain o (v :: r)
theorem Chain.rev {o : List Int} : ∀ {ps : List Tr}, Chain o ps → Chain o.reverse ps
  | [], _ => trivial
  | [_], _ => trivial
  | _ :: _ :: _, h => ⟨h.1.rev, Chain.rev h.2⟩
theorem chain_on {o : List Int} (nd : o.Nodup) : ∀ (rest : List Tr) {q : Tr} {l B b r : List Int}, (∀ p ∈ q :: rest, Form p) → (lvs (q :: rest)).Nodup → o = l ++ (B ++ (b ++ r)) → B ≠ [] → Tells q b → (∀ x ∈ B, x ∉ lvs rest) → Chain o (q :: rest) → ∃ R r', Seq rest R ∧ r = R ++ r'
  | [], q, l, B, b, r, _, _, _, _, _, _, _ => ⟨[], r, .nil, rfl⟩
  | v :: rest, q, l, B, b, r, F, dl, e, nB, tb, dB, ch => by
    obtain ⟨⟨a, c, ta, tc, h⟩, ch2⟩ := ch
    have Fq := F q List.mem_cons_self
    have Fv := F v (by simp)
    have nb : b ≠ [] := fun z => Fq.ne (by have := tb.perm; rw [z] at this; exact List.nil_perm.1 this)
    have nc : c ≠ [] := fun z => Fv.ne (by have := tc.perm; rw [z] at this; exact List.nil_perm.1 this)
    have ib : b <:+: o := ⟨l ++ B, r, by rw [e]; simp⟩
    have eab : a = b := by
      refine seg_eq nd ?_ ib (ta.perm.trans tb.perm.symm)
      rcases h with ⟨x, y, h⟩ | ⟨x, y, h⟩
      · exact ⟨x, c ++ y, by rw [← h]; simp⟩
      · exact ⟨x ++ c, y, by rw [← h]; simp⟩
    subst eab
    have e' : o = (l ++ B) ++ (a ++ r) := by rw [e]; simp
    rcases h with ⟨x, y, h⟩ | ⟨x, y, h⟩
    · have h' : o = x ++ (a ++ (c ++ y)) := by rw [← h]; simp
      have := (around_one (e' ▸ nd) nb (e'.symm.trans h')).2
      subst this
      have dl' : (lvs (v :: rest)).Nodup := by rw [lvs_cons, List.nodup_append] at dl; exact dl.2.1
      obtain ⟨R, r', h3, h4⟩ := chain_on nd rest (q := v) (l := l) (B := B ++ a) (b := c) (r := y) (fun p hp => F p (List.mem_cons_of_mem _ hp)) dl' (by rw [e]; simp) (by simp [nB]) tc (fun z hz k => by
        rcases List.mem_append.1 hz with hz | hz
        · exact dB z hz (by rw [lvs_cons]; exact List.mem_append_right _ k)
        · exact disj_lvs dl (ta.perm.mem_iff.1 hz) (by rw [lvs_cons]; exact List.mem_append_right _ k)) ch2
      exact ⟨c ++ R, r', .cons tc h3, by rw [h4, List.append_assoc]⟩
    · exfalso
      have h' : o = (x ++ c) ++ (a ++ y) := by rw [← h]; simp
      have e2 := (around_one (e' ▸ nd) nb (e'.symm.trans h')).1
      have l1 : B.getLast nB = c.getLast nc := by
        have : (l ++ B).getLast (by simp [nB]) = (x ++ c).getLast (by simp [nc]) := by congr 1
        rw [List.getLast_append_of_ne_nil (by simp [nB]) nB, List.getLast_append_of_ne_nil (by simp [nc]) nc] at this
        exact this
      refine dB (B.getLast nB) (List.getLast_mem nB) ?_
      rw [l1, lvs_cons]
      exact List.mem_append_left _ (tc.perm.mem_iff.1 (List.getLast_mem nc))
theorem chain_row {o : List Int} (nd : o.Nodup) {ps : List Tr} (F : ∀ p ∈ ps, Form p) (two : 2 ≤ ps.length) (dl : (lvs ps).Nodup) (ch : Chain o ps) : ∃ m, m <:+: o ∧ (Seq ps m ∨ Seq ps.reverse m) := by
  match ps, two with
  | u :: v :: rest, _ =>
    have go : ∀ {o : List Int}, o.Nodup → Chain o (u :: v :: rest) → (∃ a c, Tells u a ∧ Tells v c ∧ a ++ c <:+: o) → ∃ m, m <:+: o ∧ Seq (u :: v :: rest) m := by
      intro o nd ch ⟨a, c, ta, tc, x, y, h⟩
      have na : a ≠ [] := fun z => (F u (by simp)).ne (by have := ta.perm; rw [z] at this; exact List.nil_perm.1 this)
      have dl' : (lvs (v :: rest)).Nodup := by rw [lvs_cons, List.nodup_append] at dl; exact dl.2.1
      obtain ⟨R, r', h1, h2⟩ := chain_on nd rest (q := v) (l := x) (B := a) (b := c) (r := y) (fun p hp => F p (List.mem_cons_of_mem _ hp)) dl' (by rw [← h]; simp) na tc (fun z hz k => disj_lvs dl (ta.perm.mem_iff.1 hz) (by rw [lvs_cons]; exact List.mem_append_right _ k)) ch.2
      exact ⟨a ++ (c ++ R), ⟨x, r', by rw [← h, h2]; simp⟩, .cons ta (.cons tc h1)⟩
    obtain ⟨⟨a, c, ta, tc, h⟩, _⟩ := (show Chain o (u :: v :: rest) from ch)
    rcases h with h | h
    · obtain ⟨m, h1, h2⟩ := go nd ch ⟨a, c, ta, tc, h⟩
      exact ⟨m, h1, .inl h2⟩
    · have nr : o.reverse.Nodup := (List.reverse_perm _).nodup_iff.2 nd
      obtain ⟨m, h1, h2⟩ := go nr (Chain.rev ch) ⟨a.reverse, c.reverse, ta.rev, tc.rev, by rw [← List.reverse_append]; exact List.reverse_infix.2 h⟩
      refine ⟨m.reverse, ?_, .inr h2.rev⟩
      have := List.reverse_infix.2 h1
      rw [List.reverse_reverse] at this
      exact this

theorem chain_of {o : List Int} (nd : o.Nodup) : ∀ {ps : List Tr}, (∀ p ∈ ps, Form p) → (lvs ps).Nodup → (∀ x ∈ lvs ps, x ∈ o) → (∀ p ∈ ps, ∃ b, b <:+: o ∧ Tells p b) → (∀ C ∈ pairsOf ps, Tog (setP C) o) → Chain o ps
  | [], _, _, _, _, _ => trivial
  | [_], _, _, _, _, _ => trivial
  | u :: v :: r, F, dl, sub, h, hp => by
    have dl2 : (lvs (v :: r)).Nodup := by rw [lvs_cons, List.nodup_append] at dl; exact dl.2.1
    refine ⟨?_, chain_of nd (fun p k => F p (List.mem_cons_of_mem _ k)) dl2 (fun x hx => sub x (by rw [lvs_cons]; exact List.mem_append_right _ hx)) (fun p k => h p (List.mem_cons_of_mem _ k)) fun C hC => hp C (List.mem_cons_of_mem _ hC)⟩
    have ndp : (u.lv ++ v.lv).Nodup := by
      rw [lvs_cons, lvs_cons, ← List.append_assoc] at dl
      exact (List.nodup_append.1 dl).1
    have subp : ∀ x ∈ u.lv ++ v.lv, x ∈ o := fun x hx => sub x (by rw [lvs_cons, lvs_cons, ← List.append_assoc]; exact List.mem_append_left _ hx)
    obtain ⟨m, im, pm⟩ := tog_infix nd ndp subp (hp _ List.mem_cons_self)
    have e2 : lvs [u, v] = u.lv ++ v.lv := by rw [lvs_cons, lvs_one]
    obtain ⟨qs, h1, h2⟩ := blocks 2 (ps := [u, v]) (m := m) rfl (fun p hp => F p (by simp at hp; rcases hp with rfl | rfl <;> simp)) (infix_nodup im nd) (by rw [e2]; exact pm) (fun p hp => by
      have hp' : p ∈ u :: v :: r := by simp at hp; rcases hp with rfl | rfl <;> simp
      obtain ⟨b, hb, tb⟩ := h p hp'
      refine ⟨b, infix_in nd hb im (fun z => (F p hp').ne (by have := tb.perm; rw [z] at this; exact List.nil_perm.1 this)) fun x hx => pm.mem_iff.2 ?_, tb⟩
      have := tb.perm.mem_iff.1 hx
      simp at hp
      rcases hp with rfl | rfl
      · exact List.mem_append_left _ this
      · exact List.mem_append_right _ this)
    have two : qs = [u, v] ∨ qs = [v, u] := by
      match qs, h1 with
      | [x, y], h1 =>
        have hx : x ∈ [u, v] := h1.mem_iff.1 (by simp)
        rw [List.mem_cons, List.mem_singleton] at hx
        rcases hx with rfl | rfl
        · left; rw [perm_one (List.Perm.cons_inv (h1 : (x :: [y]).Perm (x :: [v])))]
        · right
          have h' : (x :: [y]).Perm (x :: [u]) := h1.trans (List.Perm.swap ..)
          rw [perm_one (List.Perm.cons_inv h')]
      | [], h1 => have := h1.length_eq; simp at this
      | [_], h1 => have := h1.length_eq; simp at this
      | _ :: _ :: _ :: _, h1 => have := h1.length_eq; simp at this
    rcases two with e | e
    · rw [e] at h2
      obtain ⟨a, d, rfl, ta, hd⟩ := seq_cons.1 h2
      rw [seq_one] at hd
      exact ⟨a, d, ta, hd, .inl im⟩
    · rw [e] at h2
      obtain ⟨a, d, rfl, ta, hd⟩ := seq_cons.1 h2
      rw [seq_one] at hd
      exact ⟨d, a, hd, ta, .inr im⟩

/-- an order in which all sets of a tree stand together has a stretch that the tree tells -/
theorem sets_tell : ∀ {t : Tr}, Form t → t.lv.Nodup → ∀ {o : List Int}, o.Nodup → (∀ x ∈ t.lv, x ∈ o) → (∀ C ∈ t.sets, Tog (setP C) o) → ∃ m, m <:+: o ∧ Tells t m := by
  intro t
  induction t using Tr.ind with
  | h1 i =>
    intro _ _ o nd sub _
    obtain ⟨a, b, rfl⟩ := List.append_of_mem (sub i (by rw [lv_thing]; exact List.mem_cons_self))
    exact ⟨[i], ⟨a, b, by simp⟩, .thing i⟩
  | h2 b ps ih =>
    intro F dl o nd sub h
    rw [lv_node] at dl sub
    have Fp := F.parts
    have parts : ∀ p ∈ ps, ∃ b, b <:+: o ∧ Tells p b := fun p hp => ih p hp (Fp p hp) (nodup_part dl hp) nd (fun x hx => sub x (mem_lvs.2 ⟨p, hp, hx⟩)) fun C hC => h C (mem_sets_part hp hC)
    cases b with
    | false =>
      obtain ⟨m, im, pm⟩ := tog_infix nd dl sub (h (lvs ps) (by rw [sets_node]; simp))
      obtain ⟨qs, h1, h2⟩ := blocks ps.length (m := m) rfl Fp (infix_nodup im nd) pm fun p hp => by
        obtain ⟨b, hb, tb⟩ := parts p hp
        exact ⟨b, infix_in nd hb im (fun z => (Fp p hp).ne (by have := tb.perm; rw [z] at this; exact List.nil_perm.1 this)) fun x hx => pm.mem_iff.2 (mem_lvs.2 ⟨p, hp, tb.perm.mem_iff.1 hx⟩), tb⟩
      exact ⟨m, im, .any h1 h2⟩
    | true =>
      have ch := chain_of nd Fp dl sub parts fun C hC => h C (by rw [sets_node]; exact List.mem_append_left _ hC)
      obtain ⟨m, im, hm⟩ := chain_row nd Fp F.two dl ch
      exact ⟨m, im, tells_row.2 hm⟩
theorem tells_iff_sets {t : Tr} (F : Form t) (dl : t.lv.Nodup) {o : List Int} (pm : o.Perm t.lv) : Tells t o ↔ ∀ C ∈ t.sets, Tog (setP C) o := by
  constructor
  · intro h; exact tells_sets dl h
  · intro h
    have nd : o.Nodup := pm.nodup_iff.2 dl
    obtain ⟨m, im, hm⟩ := sets_tell F dl nd (fun x hx => pm.mem_iff.2 hx) h
    have : m = o := im.sublist.eq_of_length (hm.perm.length_eq.trans pm.length_eq.symm)
    rw [← this]; exact hm
end K13

/-! K13 M6: the normal form is one. Plain Lean. -/
namespace K13

def AT (t : Tr) (p : Int → Bool) : Prop := ∀ o, Tells t o → Tog p o
theorem AT.to {t t' : Tr} {p : Int → Bool} (h : AT t p) (e : ∀ o, Tells t o ↔ Tells t' o) : AT t' p := fun o k => h o ((e o).2 k)
theorem tells_at {b : Bool} {l r : List Tr} {q : Tr} {a : List Int} (h : Tells q a) : Tells (.node b (l ++ q :: r)) (lvs l ++ (a ++ lvs r)) := by
  have : Seq (l ++ q :: r) (lvs l ++ (a ++ lvs r)) := (seq_lvs l).app (.cons h (seq_lvs r))
  cases b with
  | false => exact .any (.refl _) this
  | true => exact .fwd this
theorem tells_part {b : Bool} {ps : List Tr} {o : List Int} (h : Tells (.node b ps) o) {p : Tr} (hp : p ∈ ps) : ∃ x y z, o = x ++ (y ++ z) ∧ Tells p y := by
  cases b with
  | false =>
    obtain ⟨qs, h1, h2⟩ := tells_any.1 h
    exact seq_part h2 (h1.mem_iff.2 hp)
  | true =>
    rcases tells_row.1 h with h | h
    · exact seq_part h hp
    · exact seq_part h (List.mem_reverse.2 hp)
theorem parts_eq {ps : List Tr} : (lvs ps).Nodup → ∀ {q q' : Tr}, q ∈ ps → q' ∈ ps → ∀ {x : Int}, x ∈ q.lv → x ∈ q'.lv → q = q' := by
  induction ps with
  | nil => intro _ q q' h; cases h
  | cons p r ih =>
    intro nd q q' h1 h2 x hx hx'
    have nd2 : (lvs r).Nodup := by rw [lvs_cons, List.nodup_append] at nd; exact nd.2.1
    rcases List.mem_cons.1 h1 with e1 | g1
    · rcases List.mem_cons.1 h2 with e2 | g2
      · rw [e1, e2]
      · rw [e1] at hx; exact (disj_lvs nd hx (mem_lvs.2 ⟨q', g2, hx'⟩)).elim
    · rcases List.mem_cons.1 h2 with e2 | g2
      · rw [e2] at hx'; exact (disj_lvs nd hx' (mem_lvs.2 ⟨q, g1, hx⟩)).elim
      · exact ih nd2 g1 g2 hx hx'
theorem pre_suf {p : Int → Bool} {b : List Int} (h1 : Pre p b) (h2 : Suf p b) (n : ¬ NoneP p b) : AllP p b := by
  obtain ⟨a, c, rfl, ha, hc⟩ := h1
  rcases suf_append.1 h2 with ⟨k, _⟩ | ⟨_, k⟩
  · have := both_nil ha k
    subst this
    exact (n hc).elim
  · exact allP_append.2 ⟨ha, k⟩
theorem not_none {p : Int → Bool} {o : List Int} {x : Int} (hx : x ∈ o) (px : p x = true) : ¬ NoneP p o := fun h => by rw [h x hx] at px; cases px
/-- two touched parts are full -/
theorem two_touch {b : Bool} {ps : List Tr} {p : Int → Bool} (h : AT (.node b ps) p) {q q' : Tr} (hq : q ∈ ps) (hq' : q' ∈ ps) (ne : q ≠ q') (t : ¬ NoneP p q.lv) (t' : ¬ NoneP p q'.lv) : AllP p q.lv := by
  obtain ⟨l, r, rfl⟩ := List.append_of_mem hq
  have tog : ∀ {a : List Int}, Tells q a → Tog p (lvs l ++ (a ++ lvs r)) := fun k => h _ (tells_at k)
  have k1 := tog (tells_lv q)
  have k2 := tog (tells_lv q).rev
  have t2 : ¬ NoneP p q.lv.reverse := fun z => t (z.perm (List.reverse_perm _))
  rcases List.mem_append.1 hq' with m | m
  · have nl : ¬ NoneP p (lvs l) := fun z => t' fun x hx => z x (mem_lvs.2 ⟨q', m, hx⟩)
    have pre : ∀ {a : List Int}, ¬ NoneP p a → Tog p (lvs l ++ (a ++ lvs r)) → Pre p a := by
      intro a na k
      rcases tog_append.1 k with ⟨k, _⟩ | ⟨_, k⟩ | ⟨_, k⟩
      · exact (nl k).elim
      · exact (na (noneP_append.1 k).1).elim
      · rcases pre_append.1 k with k | k
        · exact k.1.pre
        · exact k.1
    exact pre_suf (pre t k1) (pre_rev.1 (pre t2 k2)) t
  · have m : q' ∈ r := by
      rcases List.mem_cons.1 m with e | m
      · exact (ne e.symm).elim
      · exact m
    have nr : ¬ NoneP p (lvs r) := fun z => t' fun x hx => z x (mem_lvs.2 ⟨q', m, hx⟩)
    have suf : ∀ {a : List Int}, ¬ NoneP p a → Tog p (lvs l ++ (a ++ lvs r)) → Suf p a := by
      intro a na k
      rw [← List.append_assoc] at k
      rcases tog_append.1 k with ⟨k, _⟩ | ⟨_, k⟩ | ⟨k, _⟩
      · exact (na (noneP_append.1 k).2).elim
      · exact (nr k).elim
      · rcases suf_append.1 k with k | k
        · exact k.2
        · exact k.2.suf
    exact pre_suf (suf_rev.1 (suf t2 k2)) (suf t k1) t
/-- in an any, two touched parts: all parts are touched -/
theorem any_touch {ps : List Tr} {p : Int → Bool} (F : Form (.node false ps)) (h : AT (.node false ps) p) {q q' : Tr} (hq : q ∈ ps) (hq' : q' ∈ ps) (ne : q ≠ q') (t : ¬ NoneP p q.lv) (t' : ¬ NoneP p q'.lv) {z : Tr} (hz : z ∈ ps) : ¬ NoneP p z.lv := by
  intro nz
  have zq : z ≠ q := fun e => t (e ▸ nz)
  have zq' : z ≠ q' := fun e => t' (e ▸ nz)
  have grab : ∀ {l : List Tr} {x : Tr}, x ∈ l → ∃ r, l.Perm (x :: r) := fun hx => by
    obtain ⟨a, b, rfl⟩ := List.append_of_mem hx
    exact ⟨a ++ b, List.perm_middle⟩
  obtain ⟨r1, p1⟩ := grab hq
  obtain ⟨r2, p2⟩ := grab (show z ∈ r1 by
    rcases List.mem_cons.1 (p1.mem_iff.1 hz) with e | m
    · exact (zq e).elim
    · exact m)
  obtain ⟨r3, p3⟩ := grab (show q' ∈ r2 by
    rcases List.mem_cons.1 (p1.mem_iff.1 hq') with e | m
    · exact (ne e.symm).elim
    · rcases List.mem_cons.1 (p2.mem_iff.1 m) with e | m
      · exact (zq' e.symm).elim
      · exact m)
  have pp : (q :: z :: q' :: r3).Perm ps := ((p1.trans (p2.cons q)).trans ((p3.cons z).cons q)).symm
  have k := h _ (.any pp (seq_lvs _))
  have ex : ∀ {o : List Int}, ¬ NoneP p o → ∃ u ∈ o, p u = true := fun n => Classical.byContradiction fun m => n fun x hx => by
    cases e : p x with
    | false => rfl
    | true => exact (m ⟨x, hx, e⟩).elim
  obtain ⟨u, hu, pu⟩ := ex t
  obtain ⟨w, hw, pw⟩ := ex t'
  obtain ⟨v, hv⟩ : ∃ v, v ∈ z.lv := List.exists_mem_of_ne_nil _ ((F.parts z hz).ne)
  rw [lvs_cons, lvs_cons, ← List.append_assoc] at k
  exact not_tog hu pu hv (nz v hv) (by rw [lvs_cons]; exact List.mem_append_left _ hw) pw k

theorem at_part {b : Bool} {ps : List Tr} (nd : (lvs ps).Nodup) {q : Tr} (hq : q ∈ ps) : AT (.node b ps) (setP q.lv) := fun o h => by
  have no : o.Nodup := by
    have := h.perm
    rw [lv_node] at this
    exact this.nodup_iff.2 nd
  obtain ⟨x, y, z, rfl, k⟩ := tells_part h hq
  exact tog_mid no (fun x hx => k.perm.mem_iff.2 hx) (AllP.tog fun x hx => setP_true.2 (k.perm.mem_iff.1 hx))
theorem at_pair {ps : List Tr} (nd : (lvs ps).Nodup) {C : List Int} (hC : C ∈ pairsOf ps) : AT (.node true ps) (setP C) := fun o h =>
  tells_sets (by rw [lv_node]; exact nd) h C (by rw [sets_node]; exact List.mem_append_left _ hC)
theorem pair_mem {u v : Tr} {r : List Tr} : ∀ {l : List Tr}, (u.lv ++ v.lv) ∈ pairsOf (l ++ u :: v :: r)
  | [] => List.mem_cons_self
  | [x] => List.mem_cons_of_mem _ List.mem_cons_self
  | x :: y :: l => List.mem_cons_of_mem _ (pair_mem (l := y :: l))
theorem adj_change {g : Tr → Prop} : ∀ {ps : List Tr}, (∃ x ∈ ps, g x) → (∃ y ∈ ps, ¬ g y) → ∃ l u v r, ps = l ++ u :: v :: r ∧ ((g u ∧ ¬ g v) ∨ (¬ g u ∧ g v))
  | [], ⟨_, h, _⟩, _ => by cases h
  | [z], ⟨x, hx, gx⟩, ⟨y, hy, gy⟩ => by
    rw [List.mem_singleton] at hx hy
    subst hx; subst hy; exact (gy gx).elim
  | z :: w :: r, ⟨x, hx, gx⟩, ⟨y, hy, gy⟩ => by
    by_cases gz : g z
    · by_cases gw : g w
      · have hy' : y ∈ w :: r := by
          rcases List.mem_cons.1 hy with rfl | h
          · exact (gy gz).elim
          · exact h
        obtain ⟨l, u, v, r', e, k⟩ := adj_change ⟨w, List.mem_cons_self, gw⟩ ⟨y, hy', gy⟩
        exact ⟨z :: l, u, v, r', by rw [e]; rfl, k⟩
      · exact ⟨[], z, w, r, rfl, .inl ⟨gz, gw⟩⟩
    · by_cases gw : g w
      · exact ⟨[], z, w, r, rfl, .inr ⟨gz, gw⟩⟩
      · have hx' : x ∈ w :: r := by
          rcases List.mem_cons.1 hx with rfl | h
          · exact (gz gx).elim
          · exact h
        obtain ⟨l, u, v, r', e, k⟩ := adj_change ⟨x, hx', gx⟩ ⟨w, List.mem_cons_self, gw⟩
        exact ⟨z :: l, u, v, r', by rw [e]; rfl, k⟩
theorem other_elem {ps : List Tr} (F : ∀ p ∈ ps, Form p) (two : 2 ≤ ps.length) (nd : (lvs ps).Nodup) {q : Tr} (hq : q ∈ ps) : ∃ y ∈ lvs ps, y ∉ q.lv := by
  obtain ⟨l, r, rfl⟩ := List.append_of_mem hq
  have : l ++ r ≠ [] := fun e => by
    rw [List.append_eq_nil_iff] at e
    rw [e.1, e.2] at two
    simp at two
  obtain ⟨z, hz⟩ := List.exists_mem_of_ne_nil _ this
  have hz' : z ∈ l ++ q :: r := by rcases List.mem_append.1 hz with h | h <;> simp [h]
  obtain ⟨y, hy⟩ := List.exists_mem_of_ne_nil _ (F z hz').ne
  refine ⟨y, mem_lvs.2 ⟨z, hz', hy⟩, fun hyq => ?_⟩
  have nd2 : (lvs (q :: (l ++ r))).Nodup := (lvs_perm List.perm_middle).nodup_iff.1 nd
  exact disj_lvs nd2 hyq (mem_lvs.2 ⟨z, hz, hy⟩)

theorem sub_part {b1 b2 : Bool} {ps1 ps2 : List Tr} (F1 : Form (.node b1 ps1)) (F2 : Form (.node b2 ps2)) (nd1 : (lvs ps1).Nodup) (nd2 : (lvs ps2).Nodup) (e : ∀ o, Tells (.node b1 ps1) o ↔ Tells (.node b2 ps2) o) {q1 : Tr} (hq : q1 ∈ ps1) :
    ∃ q2 ∈ ps2, ∀ x ∈ q1.lv, x ∈ q2.lv := by
  have pm : (lvs ps1).Perm (lvs ps2) := by
    have := ((e _).1 (tells_lv (.node b1 ps1))).perm
    rw [lv_node, lv_node] at this
    exact this
  have A2 : AT (.node b2 ps2) (setP q1.lv) := (at_part nd1 hq).to e
  obtain ⟨x0, hx0⟩ := List.exists_mem_of_ne_nil _ (F1.parts q1 hq).ne
  obtain ⟨q2, hq2, hx02⟩ := mem_lvs.1 (pm.mem_iff.1 (mem_lvs.2 ⟨q1, hq, hx0⟩))
  refine ⟨q2, hq2, fun x1 hx1 => Classical.byContradiction fun nx1 => ?_⟩
  obtain ⟨q2', hq2', hx12⟩ := mem_lvs.1 (pm.mem_iff.1 (mem_lvs.2 ⟨q1, hq, hx1⟩))
  have ne : q2 ≠ q2' := fun z => nx1 (z ▸ hx12)
  have T2 := not_none (p := setP q1.lv) hx02 (setP_true.2 hx0)
  have T2' := not_none (p := setP q1.lv) hx12 (setP_true.2 hx1)
  have full : ∀ z ∈ ps2, ¬ NoneP (setP q1.lv) z.lv → AllP (setP q1.lv) z.lv := fun z hz tz => by
    by_cases k : z = q2
    · subst k; exact two_touch A2 hz hq2' ne T2 T2'
    · exact two_touch A2 hz hq2 k tz T2
  obtain ⟨y, hy, nyq⟩ := other_elem F1.parts F1.two nd1 hq
  obtain ⟨z, hz, hyz⟩ := mem_lvs.1 (pm.mem_iff.1 hy)
  cases b2 with
  | false =>
    have := full z hz (any_touch F2 A2 hq2 hq2' ne T2 T2' hz) y hyz
    exact nyq (setP_true.1 this)
  | true =>
    have uz : NoneP (setP q1.lv) z.lv := Classical.byContradiction fun n => nyq (setP_true.1 (full z hz n y hyz))
    have key : ∀ {Qt Qu : Tr} {C : List Int}, Qt ∈ ps2 → Qu ∈ ps2 → ¬ NoneP (setP q1.lv) Qt.lv → NoneP (setP q1.lv) Qu.lv → AT (.node true ps2) (setP C) → (∀ x, x ∈ C ↔ x ∈ Qt.lv ∨ x ∈ Qu.lv) → False := by
      intro Qt Qu C ht hu tt nu ac hC
      have A1 : AT (.node b1 ps1) (setP C) := ac.to fun o => (e o).symm
      obtain ⟨s, hs⟩ := List.exists_mem_of_ne_nil _ (F2.parts Qt ht).ne
      obtain ⟨w, hw⟩ := List.exists_mem_of_ne_nil _ (F2.parts Qu hu).ne
      have sq : s ∈ q1.lv := setP_true.1 (full Qt ht tt s hs)
      have wq : w ∉ q1.lv := setP_false.1 (nu w hw)
      obtain ⟨q1', hq1', hw1⟩ := mem_lvs.1 (pm.mem_iff.2 (mem_lvs.2 ⟨Qu, hu, hw⟩))
      have ne1 : q1 ≠ q1' := fun k => wq (k ▸ hw1)
      have all := two_touch A1 hq hq1' ne1 (not_none sq (setP_true.2 ((hC s).2 (.inl hs)))) (not_none hw1 (setP_true.2 ((hC w).2 (.inr hw))))
      -- another touched part
      have fin : ∀ {Q : Tr} {v : Int}, Q ∈ ps2 → Q ≠ Qt → v ∈ Q.lv → v ∈ q1.lv → False := by
        intro Q v hQ nQ hv hv1
        rcases (hC v).1 (setP_true.1 (all v hv1)) with k | k
        · exact nQ (parts_eq nd2 hQ ht hv k)
        · exact setP_false.1 (nu v k) hv1
      by_cases k : q2 = Qt
      · exact fin hq2' (fun z => ne (k.trans z.symm)) hx12 hx1
      · exact fin hq2 k hx02 hx0
    obtain ⟨l, u, v, r, ep, k⟩ := adj_change (g := fun t => ¬ NoneP (setP q1.lv) t.lv) ⟨q2, hq2, T2⟩ ⟨z, hz, fun n => n uz⟩
    have hu : u ∈ ps2 := by rw [ep]; simp
    have hv : v ∈ ps2 := by rw [ep]; simp
    have ac : AT (.node true ps2) (setP (u.lv ++ v.lv)) := at_pair nd2 (by rw [ep]; exact pair_mem)
    rcases k with ⟨k1, k2⟩ | ⟨k1, k2⟩
    · exact key hu hv k1 (Classical.not_not.1 k2) ac fun x => List.mem_append
    · exact key hv hu k2 (Classical.not_not.1 k1) ac fun x => List.mem_append.trans Or.comm
theorem same_part {b1 b2 : Bool} {ps1 ps2 : List Tr} (F1 : Form (.node b1 ps1)) (F2 : Form (.node b2 ps2)) (nd1 : (lvs ps1).Nodup) (nd2 : (lvs ps2).Nodup) (e : ∀ o, Tells (.node b1 ps1) o ↔ Tells (.node b2 ps2) o) {q1 : Tr} (hq : q1 ∈ ps1) :
    ∃ q2 ∈ ps2, q1.lv.Perm q2.lv := by
  obtain ⟨q2, hq2, s1⟩ := sub_part F1 F2 nd1 nd2 e hq
  obtain ⟨q1', hq1', s2⟩ := sub_part F2 F1 nd2 nd1 (fun o => (e o).symm) hq2
  obtain ⟨x, hx⟩ := List.exists_mem_of_ne_nil _ (F1.parts q1 hq).ne
  have := parts_eq nd1 hq hq1' hx (s2 x (s1 x hx))
  subst this
  exact ⟨q2, hq2, (List.perm_ext_iff_of_nodup (nodup_part nd1 hq) (nodup_part nd2 hq2)).2 fun x => ⟨s1 x, s2 x⟩⟩
theorem part_tells {b1 b2 : Bool} {ps1 ps2 : List Tr} (nd1 : (lvs ps1).Nodup) (e : ∀ o, Tells (.node b1 ps1) o ↔ Tells (.node b2 ps2) o) {q1 q2 : Tr} (h1 : q1 ∈ ps1) (h2 : q2 ∈ ps2) (pm : q1.lv.Perm q2.lv) {a : List Int} (h : Tells q1 a) : Tells q2 a := by
  obtain ⟨l, r, rfl⟩ := List.append_of_mem h1
  have k := tells_at (b := b1) (l := l) (r := r) h
  have nd : (lvs l ++ (a ++ lvs r)).Nodup := by
    have := k.perm
    rw [lv_node] at this
    exact this.nodup_iff.2 nd1
  obtain ⟨x, y, z, ex, hy⟩ := tells_part ((e _).1 k) h2
  have : a = y := seg_eq nd ⟨lvs l, lvs r, by simp⟩ ⟨x, z, by rw [ex]; simp⟩ (h.perm.trans (pm.trans hy.perm.symm))
  rw [this]; exact hy

theorem sorted_ext : ∀ {l1 l2 : List Tr}, l1.Pairwise (fun a b => a.least < b.least) → l2.Pairwise (fun a b => a.least < b.least) → (∀ q, q ∈ l1 ↔ q ∈ l2) → l1 = l2
  | [], [], _, _, _ => rfl
  | [], y :: _, _, _, h => by have := (h y).2 List.mem_cons_self; cases this
  | x :: _, [], _, _, h => by have := (h x).1 List.mem_cons_self; cases this
  | x :: r1, y :: r2, p1, p2, h => by
    rw [List.pairwise_cons] at p1 p2
    have e : x = y := by
      rcases List.mem_cons.1 ((h x).1 List.mem_cons_self) with k | k
      · exact k
      · rcases List.mem_cons.1 ((h y).2 List.mem_cons_self) with k' | k'
        · exact k'.symm
        · have := p1.1 y k'; have := p2.1 x k; omega
    subst e
    rw [sorted_ext p1.2 p2.2 fun q => ⟨fun hq => ?_, fun hq => ?_⟩]
    · rcases List.mem_cons.1 ((h q).1 (List.mem_cons_of_mem _ hq)) with k | k
      · have := p1.1 q hq; rw [k] at this; omega
      · exact k
    · rcases List.mem_cons.1 ((h q).2 (List.mem_cons_of_mem _ hq)) with k | k
      · have := p2.1 q hq; rw [k] at this; omega
      · exact k
theorem seq_same : ∀ {ps qs : List Tr} {o : List Int}, (∀ p ∈ ps, Form p) → (∀ q ∈ qs, Form q) → (lvs ps).Nodup → Seq ps o → Seq qs o → (∀ q ∈ qs, q ∈ ps) → ps = qs
  | [], qs, o, _, F2, _, s1, s2, _ => by
    rw [seq_nil] at s1
    subst s1
    have := lvs_len F2
    rw [← s2.perm.length_eq] at this
    exact (List.eq_nil_of_length_eq_zero (Nat.le_zero.1 this)).symm
  | p :: ps, [], o, F1, _, _, s1, s2, _ => by
    rw [seq_nil] at s2
    subst s2
    have := lvs_len F1
    rw [← s1.perm.length_eq] at this
    simp at this
  | p :: ps, q :: qs, o, F1, F2, nd, s1, s2, h => by
    obtain ⟨a, b, rfl, h1, h2⟩ := seq_cons.1 s1
    obtain ⟨a', b', e, h3, h4⟩ := seq_cons.1 s2
    have na : a ≠ [] := fun z => (F1 p List.mem_cons_self).ne (by have := h1.perm; rw [z] at this; exact List.nil_perm.1 this)
    have na' : a' ≠ [] := fun z => (F2 q List.mem_cons_self).ne (by have := h3.perm; rw [z] at this; exact List.nil_perm.1 this)
    have pq : p = q := by
      match a, a', na, na' with
      | x :: a, y :: a', _, _ =>
        rw [List.cons_append, List.cons_append] at e
        injection e with e1 _
        subst e1
        exact parts_eq nd List.mem_cons_self (h q List.mem_cons_self) (h1.perm.mem_iff.1 List.mem_cons_self) (h3.perm.mem_iff.1 List.mem_cons_self)
    subst pq
    obtain ⟨e1, e2⟩ := List.append_inj e (h1.perm.length_eq.trans h3.perm.length_eq.symm)
    subst e1; subst e2
    have nd2 : (lvs ps).Nodup := by rw [lvs_cons, List.nodup_append] at nd; exact nd.2.1
    rw [seq_same (fun z hz => F1 z (List.mem_cons_of_mem _ hz)) (fun z hz => F2 z (List.mem_cons_of_mem _ hz)) nd2 h2 h4 fun z hz => ?_]
    rcases List.mem_cons.1 (h z (List.mem_cons_of_mem _ hz)) with k | k
    · subst k
      obtain ⟨x, hx⟩ := List.exists_mem_of_ne_nil _ (F1 z List.mem_cons_self).ne
      exact (disj_lvs nd hx (h2.perm.mem_iff.1 (h4.perm.mem_iff.2 (mem_lvs.2 ⟨z, hz, hx⟩)))).elim
    · exact k
theorem any_not_row {ps1 ps2 : List Tr} (F1 : Form (.node false ps1)) (F2 : Form (.node true ps2)) (nd2 : (lvs ps2).Nodup) (e : ∀ o, Tells (.node false ps1) o ↔ Tells (.node true ps2) o) (h : ∀ q ∈ ps2, q ∈ ps1) : False := by
  match ps2, F2.three with
  | u :: v :: w :: r, _ =>
    have A : AT (.node false ps1) (setP (u.lv ++ v.lv)) := (at_pair nd2 (pair_mem (l := []))).to fun o => (e o).symm
    obtain ⟨x, hx⟩ := List.exists_mem_of_ne_nil _ (F2.parts u (by simp)).ne
    obtain ⟨y, hy⟩ := List.exists_mem_of_ne_nil _ (F2.parts v (by simp)).ne
    have uv : u ≠ v := fun k => by
      subst k
      exact disj_lvs nd2 hx (by rw [lvs_cons]; exact List.mem_append_left _ hx)
    have t := any_touch F1 A (h u (by simp)) (h v (by simp)) uv (not_none hx (setP_true.2 (List.mem_append_left _ hx))) (not_none hy (setP_true.2 (List.mem_append_right _ hy))) (h w (by simp))
    refine t fun z hz => setP_false.2 fun k => ?_
    rcases List.mem_append.1 k with k | k
    · exact disj_lvs nd2 k (by rw [lvs_cons, lvs_cons]; exact List.mem_append_right _ (List.mem_append_left _ hz))
    · have nd3 : (lvs (v :: w :: r)).Nodup := by rw [lvs_cons, List.nodup_append] at nd2; exact nd2.2.1
      exact disj_lvs nd3 k (by rw [lvs_cons]; exact List.mem_append_left _ hz)
theorem normal_one : ∀ {t1 t2 : Tr}, Form t1 → Form t2 → Normal t1 → Normal t2 → t1.lv.Nodup → (∀ o, Tells t1 o ↔ Tells t2 o) → t1 = t2 := by
  intro t1
  induction t1 using Tr.ind with
  | h1 i =>
    intro t2 _ F2 _ _ _ e
    have k := (e [i]).1 (.thing i)
    cases t2 with
    | thing j =>
      rw [tells_thing] at k
      injection k with k1 _
      rw [k1]
    | node b ps =>
      have := k.perm.length_eq
      rw [lv_node] at this
      have l := lvs_len F2.parts
      have := F2.two
      simp at *
      omega
  | h2 b ps ih =>
    intro t2 F1 F2 N1 N2 nd e
    cases t2 with
    | thing j =>
      have k := (e [j]).2 (.thing j)
      have := k.perm.length_eq
      rw [lv_node] at this
      have l := lvs_len F1.parts
      have := F1.two
      simp at *
      omega
    | node b2 ps2 =>
      have pm : (lvs ps).Perm (lvs ps2) := by
        have := ((e _).1 (tells_lv (.node b ps))).perm
        rw [lv_node, lv_node] at this
        exact this
      rw [lv_node] at nd
      have nd2 := pm.nodup_iff.1 nd
      have e' : ∀ o, Tells (.node b2 ps2) o ↔ Tells (.node b ps) o := fun o => (e o).symm
      have one : ∀ {q1 q2 : Tr}, q1 ∈ ps → q2 ∈ ps2 → q1.lv.Perm q2.lv → q1 = q2 := fun {q1 q2} h1 h2 hp =>
        ih q1 h1 (F1.parts q1 h1) (F2.parts q2 h2) (N1.parts q1 h1) (N2.parts q2 h2) (nodup_part nd h1) fun o => ⟨part_tells nd e h1 h2 hp, part_tells nd2 e' h2 h1 hp.symm⟩
      have m12 : ∀ q ∈ ps, q ∈ ps2 := fun q hq => by
        obtain ⟨q2, hq2, hp⟩ := same_part F1 F2 nd nd2 e hq
        rw [one hq hq2 hp]; exact hq2
      have m21 : ∀ q ∈ ps2, q ∈ ps := fun q hq => by
        obtain ⟨q1, hq1, hp⟩ := same_part F2 F1 nd2 nd e' hq
        rw [← one hq1 hq hp.symm]; exact hq1
      cases b with
      | false =>
        cases b2 with
        | false => rw [sorted_ext N1.sorted N2.sorted fun q => ⟨m12 q, m21 q⟩]
        | true => exact (any_not_row F1 F2 nd2 e m21).elim
      | true =>
        cases b2 with
        | false => exact (any_not_row F2 F1 nd e' m12).elim
        | true =>
          rcases tells_row.1 ((e _).1 (.fwd (seq_lvs ps))) with k | k
          · rw [seq_same F1.parts F2.parts nd (seq_lvs ps) k m21]
          · have er := seq_same F1.parts (fun q hq => F2.parts q (List.mem_reverse.1 hq)) nd (seq_lvs ps) k fun q hq => m21 q (List.mem_reverse.1 hq)
            exfalso
            obtain ⟨x, mid, y, e1, l1⟩ : ∃ x mid y, ps = x :: (mid ++ [y]) ∧ x.least < y.least := by
              generalize ht : Tr.node true ps = t at N1
              cases N1 with
              | thing => cases ht
              | any => cases ht
              | row a b => injection ht with _ h2; exact ⟨_, _, _, h2, a⟩
            obtain ⟨x', mid', y', e2, l2⟩ : ∃ x mid y, ps2 = x :: (mid ++ [y]) ∧ x.least < y.least := by
              generalize ht : Tr.node true ps2 = t at N2
              cases N2 with
              | thing => cases ht
              | any => cases ht
              | row a b => injection ht with _ h2; exact ⟨_, _, _, h2, a⟩
            rw [e1, e2] at er
            simp only [List.reverse_cons, List.reverse_append, List.reverse_nil, List.nil_append, List.cons_append, List.singleton_append] at er
            injection er with g1 g2
            have g3 := (List.append_inj' g2 rfl).2
            injection g3 with g4 _
            subst g1; subst g4
            omega

/-! ### the common tree -/
structure CommonSome (one two c : Tr) : Prop where
  iff : ∀ o, Tells c o ↔ Tells one o ∧ Tells two o
  form : Form c
  normal : Normal c
def CommonOK (one two : Tr) : Option Tr → Prop
  | none => ∀ o, ¬ (Tells one o ∧ Tells two o)
  | some c => CommonSome one two c
theorem CommonSome.lv {one two c : Tr} (h : CommonSome one two c) : c.lv.Perm one.lv := ((h.iff _).1 (tells_lv c)).1.perm
theorem common_same {one two : Tr} (nd : one.lv.Nodup) {r r' : Option Tr} (h : CommonOK one two r) (h' : CommonOK two one r') : r' = r := by
  cases r with
  | none =>
    cases r' with
    | none => rfl
    | some c =>
      have h' : CommonSome two one c := h'
      have := (h'.iff _).1 (tells_lv c)
      exact ((show ∀ o, ¬ (Tells one o ∧ Tells two o) from h) _ ⟨this.2, this.1⟩).elim
  | some c =>
    have h : CommonSome one two c := h
    cases r' with
    | none =>
      have := (h.iff _).1 (tells_lv c)
      exact ((show ∀ o, ¬ (Tells two o ∧ Tells one o) from h') _ ⟨this.2, this.1⟩).elim
    | some c' =>
      have h' : CommonSome two one c' := h'
      rw [normal_one h'.form h.form h'.normal h.normal ?_ fun o => ?_]
      · have := ((h'.iff _).1 (tells_lv c')).2.perm
        exact this.nodup_iff.2 nd
      · rw [h.iff, h'.iff]; exact And.comm
/-- reducing by the sets of the other tree -/
theorem common_ok {one one' two : Tr} (N : NormOf one one') (F2 : Form two) (nd : two.lv.Nodup) (pm : one.lv.Perm two.lv) {sets : List (List Int)} (hs : ∀ C ∈ two.sets, ∃ S ∈ sets, S.Perm C) (hs' : ∀ S ∈ sets, ∃ C ∈ two.sets, S.Perm C) {r : Option Tr} (h : RedOK sets one' r) : CommonOK one two r := by
  have pe : ∀ {S C : List Int}, S.Perm C → setP S = setP C := fun p => funext fun x => by
    unfold setP
    exact decide_eq_decide.2 p.mem_iff
  have key : ∀ o, Tells one o → ((∀ S ∈ sets, Tog (setP S) o) ↔ Tells two o) := by
    intro o ho
    rw [tells_iff_sets F2 nd (ho.perm.trans pm)]
    constructor
    · intro k C hC
      obtain ⟨S, hS, p⟩ := hs C hC
      rw [← pe p]; exact k S hS
    · intro k S hS
      obtain ⟨C, hC, p⟩ := hs' S hS
      rw [pe p]; exact k C hC
  cases r with
  | none =>
    have h : ∀ o, Tells one' o → ¬ ∀ S ∈ sets, Tog (setP S) o := h
    rintro o ⟨a, b⟩
    exact h o ((N.iff o).2 a) ((key o a).2 b)
  | some c =>
    have h : RedSome sets one' c := h
    refine ⟨fun o => ?_, h.form, h.normal⟩
    rw [h.iff, N.iff]
    constructor
    · rintro ⟨a, b⟩; exact ⟨a, (key o a).1 b⟩
    · rintro ⟨a, b⟩; exact ⟨a, (key o a).2 b⟩
end K13

/-! K13 R0: rules that the layer lacks: tuples extended, reversed, sorted; a set's length; sets of tuples of any lengths sorted. -/
namespace K13R
open PySem PyProof.Rows Srt
section
variable {prog : Program} {w : World} {A : Around} {E : Value → Shared → Prop} {s : Shared}
theorem collect_tup {l : Addr} {vs : List Value} {Q : List Value → Shared → Prop} (hl : IsTup s.heap l vs.toArray)
    (h : Q vs { s with heap := (s.heap.push (seqObj "list" #[] 0)).update s.heap.objs.size (Obj.mapSeq (· ++ vs.toArray)) }) (hsz : vs.length ≤ sizeLine) :
    wpAny (model prog w) A (collect (.ref l)) Q E s := by
  obtain ⟨o, ho, hc, n, hd⟩ := id hl
  unfold collect
  refine wpAny_bind (wpAny_runValue (codeAny_builtin entry_proto_collect' ?_))
  show wpAny _ _ (do again (.builtin "list.__iadd__" ⟨[← newList [], .ref l], []⟩)) _ _ s
  refine wpAny_bind (wpAny_newList (wpAny_pure ⟨Code.quiet_builtin _ (by decide +kernel), codeAny_builtin entry_list_iadd' ?_⟩))
  show wpAny _ _ (Builtin.List.listExtendWith (.ref s.heap.objs.size) (.ref l) (.ref s.heap.objs.size)) _ _ { s with heap := s.heap.push (seqObj "list" #[] 0) }
  unfold Builtin.List.listExtendWith
  have ho' : (s.heap.push (seqObj "list" #[] 0)).get? l = some o := Heap.get?_push_of_some _ ho
  refine wpAny_bind (wpAny_typeOf (T := "tuple") ⟨o, ho', hc⟩ ?_)
  have ht : (Value.type "tuple" == Value.type "tuple") = true := by rfl
  rw [if_pos (by rw [ht]; simp)]
  refine wpAny_bind (listItems_at ho' hd ?_)
  refine wpAny_bind (listItems_at (xs := #[]) (n := 0) (Heap.get?_push_size _ rfl) rfl ?_)
  rw [if_neg (by simp)]
  refine wpAny_bind (listUpdate_at (xs := #[]) (n := 0) (Heap.get?_push_size _ rfl) rfl ?_ (Nat.zero_le _) (by show (#[] ++ vs.toArray).size ≤ sizeLine + 1; simp only [Array.size_append, List.size_toArray, List.length_nil]; omega))
  refine wpAny_pure ?_
  show wpAny (model prog w) A (do
      let o ← load s.heap.objs.size
      match o.data with
      | .seq xs _ => pure xs.toList
      | _ => unsupported "internal:collect") Q E { s with heap := (s.heap.push (seqObj "list" #[] 0)).update s.heap.objs.size (Obj.mapSeq (· ++ vs.toArray)) }
  refine wpAny_bind (wpAny_load (get?_update_seq (Heap.get?_push_size _ rfl) _) ?_)
  show wpAny _ _ (pure ((#[] : Array Value) ++ vs.toArray).toList) Q E _
  rw [show ((#[] : Array Value) ++ vs.toArray).toList = vs by simp]
  exact wpAny_pure h
theorem sorted_ordT {l : Addr} {vs : List Value} {ltv : Value → Value → Bool} {Q : Value → Shared → Prop} (O : SrtO.Swo ltv) (hl : IsTup s.heap l vs.toArray) (hz : vs.length ≤ sizeLine)
    (hS : 2 ≤ vs.length → ∀ (h₁ : Heap) (a : Addr), h₁.get? a = some (seqObj "list" vs.toArray 0) → (∀ b o, s.heap.get? b = some o → b ≠ a ∧ h₁.get? b = some o) → SrtO.SortableO prog w A.in1.in1 { s with heap := h₁ } a vs ltv)
    (h : ∀ out : List Value, SrtO.Srtd ltv out → SrtO.Stb ltv out vs → Q (.ref (s.heap.objs.size + 1)) { s with heap := sortedAll s.heap vs out.toArray }) :
    wpAny (model prog w) A (call (.builtin "sorted") [.ref l]) Q E s := by
  refine Calls.call_function_entry kind_sorted plain_sorted entry_sorted (args_sorted1 _) ?_
  unfold Builtin.«sorted»
  refine wpAny_bind (m := checkCount "sorted" 1 1 _) (wpAny_pure ?_)
  refine wpAny_bind (collect_tup hl ?_ hz)
  refine wpAny_bind (wpAny_newList ?_ hz)
  have hsz : ((s.heap.push (seqObj "list" #[] 0)).update s.heap.objs.size (Obj.mapSeq (· ++ vs.toArray))).objs.size = s.heap.objs.size + 1 := by
    rw [Heap.size_update, size_push']
  have hoL : (((s.heap.push (seqObj "list" #[] 0)).update s.heap.objs.size (Obj.mapSeq (· ++ vs.toArray))).push (seqObj "list" vs.toArray 0)).get? (s.heap.objs.size + 1) = some (seqObj "list" vs.toArray 0) := by
    rw [← hsz]; exact Heap.get?_push_size _ rfl
  have keep : ∀ b o, s.heap.get? b = some o → b ≠ s.heap.objs.size + 1 ∧ (((s.heap.push (seqObj "list" #[] 0)).update s.heap.objs.size (Obj.mapSeq (· ++ vs.toArray))).push (seqObj "list" vs.toArray 0)).get? b = some o := fun b o q => by
    have hlt : b < s.heap.objs.size := Heap.lt_size q
    refine ⟨Nat.ne_of_lt (Nat.lt_succ_of_lt hlt), Heap.get?_push_of_some _ ?_⟩
    rw [Heap.get?_update_ne _ _ _ _ (Nat.ne_of_lt hlt)]
    exact Heap.get?_push_of_some _ q
  show wpAny _ _ _ _ _ { s with heap := ((s.heap.push (seqObj "list" #[] 0)).update s.heap.objs.size (Obj.mapSeq (· ++ vs.toArray))).push (seqObj "list" vs.toArray 0) }
  rw [hsz]
  refine wpAny_bind (wpAny_holding (wpAny_call_entry slot_list_sort ⟨_, hoL, rfl⟩ entry_list_sort (SrtO.list_sort_ord O hoL hz (fun h2 => hS h2 _ _ hoL keep) fun out hs hb => ⟨_, rfl, ?_⟩) (args_list_sort _)))
  exact wpAny_pure ⟨_, rfl, h out hs hb⟩

/-! ### tuples of ints, of any lengths but 0, compare to some bool -/
/-- v is a tuple of at least one int in the heap -/
def IsInts (h : Heap) (v : Value) : Prop := ∃ a o us ns n, v = .ref a ∧ h.get? a = some o ∧ o.cls = .type "tuple" ∧ o.data = .seq (List.toArray us) n ∧ IntsAre us ns ∧ us ≠ []
theorem IsInts.keeps {h h' : Heap} {v : Value} (p : IsInts h v) (k : ∀ b o, h.get? b = some o → o.cls = .type "tuple" → h'.get? b = some o) : IsInts h' v := by
  obtain ⟨a, o, us, ns, n, e, ho, hc, hd, hi, hn⟩ := p
  exact ⟨a, o, us, ns, n, e, k _ _ ho hc, hc, hd, hi, hn⟩
theorem lex_tot {b fin : Bool} : ∀ {us vs : List Value} {ns ms : List Int} (i : Nat), IntsAre us ns → IntsAre vs ms →
    ∃ r : Bool, PySem.W.KatLex prog w A b fin (fun x s' => s' = s ∧ x = r) (us.zip vs) i s
  | [], _, _, _, i, _, _ => ⟨fin, PySem.W.kat_nil ⟨rfl, rfl⟩⟩
  | _ :: _, [], _, _, i, _, _ => ⟨fin, PySem.W.kat_nil ⟨rfl, rfl⟩⟩
  | u :: us, v :: vs, _, _, i, hu, hv => by
    cases hu with
    | cons x t ru =>
    cases hv with
    | cons y t' rv =>
      obtain ⟨r, hr⟩ := lex_tot (b := b) (fin := fin) (i + 1) ru rv
      by_cases e : x = y
      · refine ⟨r, PySem.W.kat_cons (SeqAt.EqAt.int_int x t y t' prog w _ _ ?_)⟩
        refine PySem.W.kat_go (fun _ => PySem.W.kat_yes hr) (fun e1 => ?_)
        exact absurd e (by simpa using e1)
      · refine ⟨decide (x < y), PySem.W.kat_cons (SeqAt.EqAt.int_int x t y t' prog w _ _ ?_)⟩
        refine PySem.W.kat_go (fun e1 => absurd (show x = y by simpa using e1) e) (fun _ => PySem.W.kat_no ?_)
        cases hb : (b && i == 0) with
        | true => exact oneLt_int ⟨rfl, rfl⟩
        | false => exact PySem.W.kat_one _ _ (PyProof.Rows.lt_int ⟨rfl, rfl⟩)
theorem ints_tot {vs : List Value} (hp : ∀ v ∈ vs, IsInts s.heap v) : Tot prog w A s (tuples' true) (fun p => p.1 ∈ vs) := by
  intro p q hm hm'
  obtain ⟨a, o, us, ns, n, e, ho, hc, hd, hi, hn⟩ := hp _ hm
  obtain ⟨a', o', us', ns', n', e', ho', hc', hd', hi', hn'⟩ := hp _ hm'
  rw [e, e']
  obtain ⟨r, hr⟩ := lex_tot (prog := prog) (w := w) (A := A) (s := s) (b := true) (fin := decide (us.toArray.size < us'.toArray.size)) 0 hi hi'
  refine ⟨r, PySem.W.kat_lt ho hd ho' hd' ?_⟩
  exact hr
theorem firstsI_of {h : Heap} : ∀ {vs : List Value}, (∀ v ∈ vs, IsInts h v) → ∃ fs : List Value, PySem.W.KatTups h vs fs ∧ fs.length = vs.length ∧ ∀ f ∈ fs, ∃ x t, f = Value.int x t
  | [], _ => ⟨[], PySem.W.KatTups.nil, rfl, fun _ hm => by simp at hm⟩
  | v :: vs, hp => by
    obtain ⟨fs, h1, h2, h3⟩ := firstsI_of (vs := vs) fun v' hm => hp v' (List.mem_cons_of_mem _ hm)
    obtain ⟨a, o, us, ns, n, e, ho, hc, hd, hi, hn⟩ := hp v (List.mem_cons_self ..)
    subst e
    cases hi with
    | nil => exact absurd rfl hn
    | cons x t ru =>
      refine ⟨.int x t :: fs, PySem.W.KatTups.cons ho hc hd (by simp) h1, by rw [List.length_cons, List.length_cons, h2], fun f hm => ?_⟩
      rcases List.mem_cons.mp hm with rfl | hm
      · exact ⟨x, t, rfl⟩
      · exact h3 f hm
theorem ints_sortable {a : Addr} {vs : List Value} (h0 : 0 < vs.length) (hp : ∀ v ∈ vs, IsInts s.heap v) (ha : ∀ o, s.heap.get? a = some o → o.cls ≠ .type "tuple") : Sortable prog w A s a vs := by
  intro h' keep
  have hp' : ∀ v ∈ vs, IsInts h' v := fun v hm => (hp v hm).keeps fun b o e c => keep b o (fun z => by subst z; exact ha o e c) e
  obtain ⟨fs, h1, h2, h3⟩ := firstsI_of hp'
  refine ⟨tuples' true, fun Q E hq => ?_, ints_tot hp'⟩
  refine PySem.W.kat_kind (T := .type "int") h1 (by omega) (fun f hm => ?_) (by rfl) ?_
  · obtain ⟨x, t, rfl⟩ := h3 f hm
    exact PySem.W.Looks.now
  · have e : (Value.type "int" != Value.type "tuple") = true := by first | decide +kernel | rfl | decide
    rw [e]
    exact hq
end
end K13R

namespace L2
open PySem PySem.Spec PyProof.Rows
section
variable {X : Cx}
/-! ### sorted(t), t a tuple of ints -/
def rSortedIT (K : PySem.W.Frag) : List V → Hp → VK → Prop := fun vs H Q => ∃ (a : Addr) (ns : List Int), vs = [V.ref a] ∧ SqT K H a (ns.map V.int) ∧
  ∀ (ns' : List Int) (p : Addr), ns'.Perm ns → ns'.Pairwise (· ≤ ·) → H p = none → Q (.ref p) (upd H p (.lst (ns'.map V.int)))
theorem cr_sortedIT : CallR X (.builtin "sorted") (rSortedIT X.K) := by
  intro pins s σ H vs us Q I r h
  obtain ⟨a, ns, rfl, hs, q⟩ := h
  obtain ⟨its, rv, hl, hz⟩ := I.tuple hs
  rw [Vals.ref1 r]
  have hi := rv.ints
  refine K13R.sorted_ordT SrtO.swo_int hl (by rw [← rv.length]; exact hz) (fun h2 h₁ a' _ _ => SrtO.ints_sortable hi h2) fun out h1 h2 => ?_
  obtain ⟨k1, k2, k3⟩ := SrtO.ints_out hi h1 h2
  obtain ⟨ep, he'⟩ := PyProof.Rows.sortedAll_at s.heap its out.toArray
  have hlen : ((out.map SrtO.iv).map V.int).length ≤ sizeLine := by
    rw [List.length_map, k2.length_eq]
    rw [List.length_map] at hz
    exact hz
  exact ⟨.ref _, upd H (s.heap.objs.size + 1) (.lst ((out.map SrtO.iv).map V.int)), I.laid (t' := s.toks) (fun _ _ => PyProof.Rows.sortedAll_old) (Nat.le_succ _) ⟨hlen, out, ep, vals_of_ints k1, he'⟩, rfl, q _ _ k2 k3 (I.hok.fresh (Nat.le_succ _))⟩

/-! ### len(set(t)), t a tuple of different ints -/
def tLenSetT (K : PySem.W.Frag) (ta : TE) : TE := fun σ H Q => ta σ H fun x H1 => ∃ (l : Addr) (ns : List Int), x = V.ref l ∧ SqT K H1 l (ns.map V.int) ∧ ns.length < 64 ∧ ns.Nodup ∧ Q (.int ns.length) H1
theorem pe_lenSetT {a : Expr} {ta : TE} {p p2 q pos : Pos} (hc : X.calm = true) (hg : Gl X "len") (hm : X.mg "len" = none) (hg2 : Gl X "set") (hm2 : X.mg "set" = none) (ha : PE X a ta)
    (na : starEach [a] X.env = (false, eval a X.env) :: starEach [] X.env := by rfl) : PE X (.Call (.Name "len" p) [.Call (.Name "set" p2) [a] [] q] [] pos) (tLenSetT X.K ta) := by
  refine ⟨fun pins s σ H Q I h => ?_⟩
  refine Call_ (ld_blt I hg hm PySem.boot_len ?_)
  refine PyProof.Rows.callWith_builtin1 (PyProof.Rows.args_cons ?_ rfl) rfl rfl
  refine Call_ (ld_blt I hg2 hm2 PyProof.Rows.boot_set ?_)
  refine PyProof.Rows.callWith_type1 (PyProof.Rows.args_cons (thn (ha.run pins s σ H _ I h) fun v s1 ⟨x, H1, I1, r1, q1⟩ => PyProof.Rows.args_nil ?_) na) na rfl
  obtain ⟨l, ns, rfl, hq, h1, hnd, q1⟩ := q1
  cases r1
  obtain ⟨its, r, pl, hz⟩ := I1.tuple hq
  have hl : its.toArray.size = ns.length := by rw [List.size_toArray, ← r.length, List.length_map]
  refine call_set_tupI ns (I1.ok.hd hc) (show s1.heap.IsTuple l its.toArray from pl) (by simpa using r.ints) (by unfold scanBound; omega) fun h' tk c hS hcl hk => ?_
  refine PyProof.Rows.args_nil ?_
  obtain ⟨o, es, ep, t, ho, hex, hd, _, hnk, hmem, _, hf, hn, _⟩ := hS
  have hlen : es.size = ns.length := by
    have pm : (es.toList.map keyOf).Perm ns := (List.perm_ext_iff_of_nodup hnk hnd).2 fun k => by
      rw [← hmem k, decide_eq_true_iff]
    have := pm.length_eq
    rw [List.length_map, Array.length_toList] at this
    exact this
  have I2 : Inv X pins σ H1 { s1 with heap := h', toks := tk } := I1.kept fun b o e => hk b o e
  refine call_len_set ho hex hd hf (by rw [hlen] <;> omega) ⟨.int ns.length, H1, I2.tok _, ⟨_, by rw [hlen]⟩, q1⟩

/-! ### a tuple's own object -/
/-- the tuple at a as it is made: its object has no dict -/
def TupX (a : Addr) (xs : List V) : HO := .ext fun h => xs.length ≤ sizeLine ∧ ∃ its : List Value, Vals xs its ∧ h.get? a = some { cls := .type "tuple", data := .seq its.toArray }
theorem tupX_ok {P : Program} {w : World} {H : Hp} {h : Heap} {a : Addr} {xs : List V} {its : List Value} (hz : xs.length ≤ sizeLine) (r : Vals xs its) (e : h.get? a = some { cls := .type "tuple", data := .seq its.toArray }) : ObjOk P w H h a (TupX a xs) :=
  ⟨⟨hz, its, r, e⟩, ⟨_, e⟩, fun h1 h2 p k => by
    obtain ⟨z, its', r', e'⟩ := p
    exact ⟨z, its', r', k _ e'⟩⟩
/-- it may be told as a tuple -/
theorem Inv.tupX {pins : List (Addr × Obj)} {σ : St} {H : Hp} {s : Shared} {a : Addr} {xs : List V} (I : Inv X pins σ H s) (h : H a = some (TupX a xs)) : Inv X pins σ (upd H a (.tup xs)) s := by
  obtain ⟨⟨z, its, r, e⟩, _, _⟩ := (show ObjOk X.prog X.w H s.heap a (TupX a xs) from I.hok a _ h)
  refine I.write (t' := s.toks) (e := a) (by rw [h]; trivial) (.inl rfl) (fun b u _ q => q) ⟨_, e⟩ ⟨z, its, r, ⟨_, e, rfl, _, rfl⟩⟩
/-- (a, b) as a receiver -/
def tTupX (t : TA) : TE := fun σ H Q => t σ H fun xs H1 => xs.length ≤ sizeLine ∧ ∀ p, H1 p = none → Q (.ref p) (upd H1 p (TupX p xs))
theorem pe_tupX {es : List Expr} {x1 : Nat} {pos : Pos} {t : TA} (h : PA X es t) : PE X (.Tuple es x1 pos) (tTupX t) := by
  refine ⟨fun pins s σ H Q I hq => ?_⟩
  refine wpAny_Tuple_spliced (thn (h.run pos pins s σ H _ I hq) fun us s1 ⟨xs, H1, I1, r, z, q⟩ => ⟨by rw [← r.length]; exact z, ?_⟩)
  have hf : H1 s1.heap.objs.size = none := I1.hok.fresh (Nat.le_refl _)
  refine ⟨.ref s1.heap.objs.size, upd H1 s1.heap.objs.size (TupX s1.heap.objs.size xs), I1.laid (t' := s1.toks) (fun b u e => Heap.get?_push_of_some _ e) (Nat.le_refl _) ?_, rfl, q _ hf⟩
  exact tupX_ok z r (Heap.get?_push_size _ rfl)
/-- t.m(e, ..), t a tuple just made -/
def tBMX (r : V → List V → Hp → VK → Prop) (to : TE) (t : TA) : TE := fun σ H Q => to σ H fun x H1 => (∃ p xs, x = .ref p ∧ H1 p = some (TupX p xs)) ∧ t σ H1 fun xs H2 => r x xs H2 Q
theorem pe_bmX {o e : Expr} {es : List Expr} {to : TE} {t : TA} {name : Str} {apos cpos : Pos} {id : String} {r : V → List V → Hp → VK → Prop} (pa : PlainAttrs "tuple") (slot : Slot "tuple" name id) (hty : typeOf (.builtin id) = pure (.type "method_descriptor")) (hm : MtR X id r) (ho : PE X o to) (ha : PA X (e :: es) t)
    (hbase : attributeBase o name X.env (eval o X.env) = eval o X.env := by rfl)
    (hfew : ((backTo cpos (starEach (e :: es) X.env)).all (fun x => !x.1) && (backToKw cpos (keywordEach [] X.env)).all (fun x => x.1.isSome)
      && decide ((e :: es).length + ([] : List Keyword).length + (if ([] : List Keyword).isEmpty then 0 else 1) < 30)) = true := by rfl)
    (hline : (apos.endLine == cpos.line) = true := by rfl) (hs : starEach (e :: es) X.env = (false, eval e X.env) :: starEach es X.env := by rfl) (hplain : (backTo cpos (starEach es X.env)).any (·.1) = false := by rfl) :
    PE X (.Call (.Attribute o name apos) (e :: es) [] cpos) (tBMX r to t) := by
  refine ⟨fun pins s σ H Q I h => ?_⟩
  refine wpAny_Call_method_late hbase hfew hline rfl (thn (ho.run pins s σ H _ I h) fun v s1 ⟨x, H1, I1, r1, ⟨p, xs, ex, hp⟩, q1⟩ => ?_)
  subst ex
  cases r1
  obtain ⟨⟨z, its, r, e2⟩, _, _⟩ := (show ObjOk X.prog X.w H1 s1.heap p (TupX p xs) from I1.hok p _ hp)
  refine ⟨"tuple", id, pa, slot, hty, ⟨_, e2, rfl⟩, fun a ea => by cases ea; exact ⟨_, e2, rfl⟩, ?_⟩
  have hA := ha.run cpos pins s1 σ H1 _ I1 q1
  rw [hs] at hA ⊢
  refine Calls.callWith_builtin (by show (false || (backTo cpos (starEach es X.env)).any (·.1)) = false; rw [hplain] <;> rfl) (Calls.evalArgs_plain ?_)
  exact thn hA fun us s2 ⟨vs, H2, I2, r2, q2⟩ => hm pins s2 σ H2 (V.ref p) vs (Value.ref p) us Q I2 rfl r2 q2
/-- its index, the first place -/
def rIndexX : V → List V → Hp → VK → Prop := fun x xs H Q => ∃ p, ∃ ys : List Str, ∃ z j, x = .ref p ∧ xs = [.str z] ∧ H p = some (TupX p (ys.map V.str)) ∧ ys[j]? = some z ∧ (∀ m, m < j → ys[m]? ≠ some z) ∧ Q (.int (j : Nat)) (upd H p (.tup (ys.map V.str)))
theorem mt_tup_indexX : MtR X "tuple.index" rIndexX := by
  intro pins s σ H x xs v us Q I rx rs h
  obtain ⟨p, ys, z, j, rfl, rfl, hq, hy, hno, q⟩ := h
  exact mt_tup_index pins s σ _ _ _ _ us Q (I.tupX hq) rx rs ⟨p, ys, z, j, rfl, rfl, SqT.of upd_same, hy, hno, q⟩

/-! ### xs.extend(t), t a tuple -/
def rExtendT (K : PySem.W.Frag) : V → List V → Hp → VK → Prop := fun x vs H Q => ∃ l b xs zs, x = .ref l ∧ vs = [.ref b] ∧ H l = some (.lst xs) ∧ SqT K H b zs ∧ xs.length + zs.length ≤ sizeLine ∧ Q .non (upd H l (.lst (xs ++ zs)))
theorem mt_extendT : MtM X "list.extend" (rExtendT X.K) := by
  intro pins s σ H x vs v us Q I rx rv h
  obtain ⟨l, b, xs, zs, rfl, rfl, hH, hB, hz, q⟩ := h
  cases rx
  obtain ⟨u, rfl, ru⟩ := rv.one
  cases ru
  obtain ⟨z, its, n, r, hl, e⟩ := I.lstM hH
  obtain ⟨its2, r2, ⟨o2, ho2, hc2, n2, hd2⟩, z2⟩ := I.tuple hB
  have hsz : its.toArray.size + its2.toArray.size ≤ sizeLine := by
    rw [List.size_toArray, List.size_toArray]
    have := r.length; have := r2.length
    omega
  have hlong : ¬ (!its.toArray.isEmpty && Builtin.List.listTooLong (its.toArray.size + its2.toArray.size)) = true := by
    rw [notLongL hsz, Bool.and_false]
    exact Bool.false_ne_true
  refine wpAny_call_entry F.slot_list_extend ⟨_, e, rfl⟩ F.entry_list_extend ?_ (F.args_list_extend_2 _ _)
  show wpAny _ _ (Builtin.List.listExtendWith (.ref l) (.ref b) .none) _ _ s
  unfold Builtin.List.listExtendWith
  refine wpAny_bind (wpAny_typeOf (T := "tuple") ⟨o2, ho2, hc2⟩ ?_)
  have ht : (Value.type "tuple" == Value.type "tuple") = true := by rfl
  rw [if_pos (by rw [ht]; simp)]
  refine wpAny_bind (listItems_at ho2 hd2 ?_)
  refine wpAny_bind (listItems_at e rfl ?_)
  rw [if_neg hlong]
  refine wpAny_bind (listUpdate_at e rfl ?_ (by rw [List.size_toArray, ← r.length]; exact z) (by show (its.toArray ++ its2.toArray).size ≤ sizeLine + 1; rw [Array.size_append]; omega))
  refine wpAny_pure ⟨_, rfl, ?_⟩
  refine ⟨.non, _, I.lset (its' := its ++ its2) (t' := s.toks) hH e (by simp) (r.append r2) ?_, rfl, q⟩
  rw [List.length_append]
  omega
end
end L2

/-! K13 R1: tuples reversed; sets of tuples of ints sorted, whatever their lengths. -/
namespace K13R
open PySem PyProof.Rows Srt HT
section
variable {prog : Program} {w : World} {A : Around} {E : Value → Shared → Prop} {s : Shared}
theorem adjust_back (n : Nat) : Builtin.Slice.sliceAdjust none none (-1) (n : Int) = ((n : Int) - 1, -1) := by
  unfold Builtin.Slice.sliceAdjust
  simp
theorem places_back (n : Nat) : Builtin.Slice.slicePlaces ((n : Int) - 1) (-1) (-1) = n := by
  unfold Builtin.Slice.slicePlaces
  have h1 : ¬ ((-1 : Int) > 0) := by omega
  simp only [h1, if_false]
  split
  · have : (((n : Int) - 1 - -1 - 1) / (- -1) + 1) = (n : Int) := by
      rw [show (- -1 : Int) = 1 by decide, Int.ediv_one]; omega
    rw [this]; simp
  · omega
theorem sliceApplied_back {sl : Addr} {vl vu vs : Value} {n : Nat} {Q : Int × Int × Nat → Shared → Prop} (hs : s.heap.IsSliceOf sl vl vu vs) (pl : IsPart vl none) (pu : IsPart vu none) (ps : IsPart vs (some (-1)))
    (h : Q ((n : Int) - 1, -1, n) s) : wpAny (model prog w) A (Builtin.Slice.sliceApplied (.ref sl) (pure (n : Int))) Q E s := by
  obtain ⟨os, hos, hcs, hds⟩ := id hs
  unfold Builtin.Slice.sliceApplied Builtin.Slice.sliceFields
  refine wpAny_bind (wpAny_bind (wpAny_field hos hds (x := vl) rfl (wpAny_bind (wpAny_field hos hds (x := vu) rfl (wpAny_bind (wpAny_field hos hds (x := vs) rfl (wpAny_pure ?_)))))))
  refine wpAny_bind (slicePart_ ps ?_)
  show wpAny _ _ (if ((-1 : Int) == 0) = true then _ else _) _ _ s
  rw [if_neg (by decide)]
  refine wpAny_bind (slicePart_ pl (wpAny_bind (slicePart_ pu (wpAny_bind (wpAny_pure ?_)))))
  show wpAny _ _ (match Builtin.Slice.sliceAdjust none none (-1) (n : Int) with | (lo, hi) => pure (lo, (-1 : Int), Builtin.Slice.slicePlaces lo hi (-1))) _ _ s
  rw [adjust_back n]
  show wpAny _ _ (pure ((n : Int) - 1, (-1 : Int), Builtin.Slice.slicePlaces ((n : Int) - 1) (-1) (-1))) _ _ s
  rw [places_back]
  exact wpAny_pure h
theorem fm_congr {α β : Type} {f g : α → Option β} : ∀ {l : List α}, (∀ x ∈ l, f x = g x) → l.filterMap f = l.filterMap g
  | [], _ => rfl
  | x :: l, h => by
    rw [List.filterMap_cons, List.filterMap_cons, h x List.mem_cons_self, fm_congr fun y hy => h y (List.mem_cons_of_mem _ hy)]
theorem pick_back (xs : Array Value) : ((List.range xs.size).filterMap fun (m : Nat) => xs[((xs.size : Int) - 1 + (m : Int) * (-1)).toNat]?).toArray = xs.toList.reverse.toArray := by
  have e : (List.range xs.size).filterMap (fun (m : Nat) => xs[((xs.size : Int) - 1 + (m : Int) * (-1)).toNat]?) = ((List.range xs.size).map fun k => xs.size - 1 - k).filterMap (xs[·]?) := by
    rw [List.filterMap_map]
    refine fm_congr fun m hm => ?_
    have := List.mem_range.1 hm
    show xs[((xs.size : Int) - 1 + (m : Int) * (-1)).toNat]? = xs[xs.size - 1 - m]?
    have e2 : ((xs.size : Int) - 1 + (m : Int) * (-1)).toNat = xs.size - 1 - m := by omega
    rw [e2]
  rw [e, PySem.W.krv_range, List.filterMap_reverse, PySem.W.krv_all]
theorem getItem_tuple_back {t sl : Addr} {items : Array Value} {vl vu vs : Value} {Q : Value → Shared → Prop} (ht : IsTup s.heap t items) (hs : s.heap.IsSliceOf sl vl vu vs) (pl : IsPart vl none) (pu : IsPart vu none) (ps : IsPart vs (some (-1)))
    (h : Q (.ref s.heap.objs.size) { s with heap := s.heap.push { cls := .type "tuple", data := .seq items.toList.reverse.toArray } })
    (hsz : items.size ≤ sizeLine) : wpAny (model prog w) A (getItem (.ref t) (.ref sl)) Q E s := by
  have htake : sizeOk (.seq items.toList.reverse.toArray) := by
    show items.toList.reverse.toArray.size ≤ sizeLine
    rw [List.size_toArray, List.length_reverse, Array.length_toList]
    exact hsz
  obtain ⟨os, hos, hcs, hds⟩ := id hs
  have hTs : s.TypeIs (.ref sl) "slice" := ⟨os, hos, hcs⟩
  unfold getItem
  try with_reducible refine wpAny_holding ?_
  first | refine wpAny_bind (wpAny_pure ?_) | skip
  refine wpAny_bind (wpAny_sequenceKey ht.typeIs (by decide) ?_)
  refine wpAny_bind (wpAny_callSpecial?_slot (name := Str.ofString "__getitem__") ht.typeIs PyProof.Rows.slot_tuple_getitem
    (wpAny_call_entry PyProof.Rows.slot_tuple_getitem ht.typeIs entry_tuple_getitem ?_ (args_tuple_getitem _ _)))
  show wpAny _ _ (Builtin.Tuple.tupleItemsOf (.ref t) >>= _) _ _ s
  refine wpAny_bind (tupleItemsOf_ ht ?_)
  refine wpAny_bind (wpAny_typeOf hTs ?_)
  rw [if_pos (by decide)]
  refine wpAny_bind (sliceApplied_back hs pl pu ps ?_)
  have hno : ¬ (((((items.size : Nat) : Int) - 1) == 0 && (-1 : Int) == 1 && items.size == items.size) = true) := by
    intro q
    rw [Bool.and_eq_true, Bool.and_eq_true] at q
    exact absurd q.1.2 (by decide)
  show wpAny _ _ (if ((((items.size : Nat) : Int) - 1) == 0 && (-1 : Int) == 1 && items.size == items.size) = true then _ else _) _ _ s
  rw [if_neg hno, pick_back]
  first
    | exact wpAny_bind (m := Builtin.Tuple.tupleExact _) (wpAny_newObj_type (wpAny_pure ⟨_, rfl, wpAny_pure h⟩) htake)
    | exact wpAny_bind (m := Builtin.Tuple.tupleExact _) (wpAny_newObj_type (wpAny_bind (wpAny_pure (wpAny_pure ⟨_, rfl, wpAny_pure h⟩))) htake)
    | exact wpAny_bind (wpAny_bind (m := Builtin.Tuple.tupleExact _) (wpAny_newObj_type (wpAny_pure (wpAny_pure ⟨_, rfl, wpAny_pure h⟩)) htake))
    | exact wpAny_bind (wpAny_bind (m := Builtin.Tuple.tupleExact _) (wpAny_newObj_type (wpAny_pure ⟨_, rfl, wpAny_pure h⟩) htake))
end
end K13R

namespace L2
open PySem PySem.Spec PyProof.Rows
section
variable {X : Cx}
/-! ### t[::-1], t a tuple -/
def tRevT (K : PySem.W.Frag) (te : TE) : TE := fun σ H Q => te σ H fun x H1 => ∃ a xs, x = .ref a ∧ SqT K H1 a xs ∧ ∀ p, H1 p = none → Q (.ref p) (upd H1 p (.tup xs.reverse))
theorem pe_revT {e : Expr} {te : TE} {k : Nat} {p1 p2 p3 pos : Pos} (he : PE X e te) : PE X (.Subscript e (.Slice none none (some (.UnaryOp .USub (.Constant (.int 1) k p1) p2)) p3) pos) (tRevT X.K te) := by
  refine ⟨fun pins s σ H Q I h => ?_⟩
  refine Subscript_ (thn (he.run pins s σ H _ I h) fun v s1 ⟨x, H1, I1, r1, q1⟩ => ?_)
  obtain ⟨a, xs, ex, hx, q⟩ := q1
  subst ex
  cases r1
  have hst : PO X (some (.UnaryOp .USub (.Constant (.int 1) k p1) p2)) (tPart (tUn (rU fun i => .int (-i)) (tC (.int 1)))) := po_some (pe_un un_neg pe_int)
  refine wpAny_Slice (thn (po_none.run pins s1 σ H1 (fun o H2 => o = none ∧ H2 = H1) I1 ⟨rfl, rfl⟩) fun vl s2 ⟨l, H2, I2, pl, el, e2⟩ => ?_)
  subst el e2
  refine thn (po_none.run pins s2 σ H2 (fun o H3 => o = none ∧ H3 = H2) I2 ⟨rfl, rfl⟩) fun vu s3 ⟨u, H3, I3, pu, eu, e3⟩ => ?_
  subst eu e3
  refine thn (hst.run pins s3 σ H3 (fun o H4 => o = some (-1) ∧ H4 = H3) I3 ⟨1, rfl, -1, rfl, rfl, rfl⟩) fun vs s4 ⟨o, H4, I4, ps, eo, e4⟩ => ?_
  subst eo e4
  have I5 : Inv X pins σ H4 { s4 with heap := s4.heap.push { cls := .type "slice", data := .fields #[vl, vu, vs] } } := I4.kept (t' := s4.toks) fun b ob q => Heap.get?_push_of_some _ q
  obtain ⟨its, r, ht, hz⟩ := I5.tuple hx
  have hlen := r.length
  show wpAny (model X.prog X.w) X.A (subscriptTail e (.Slice none none (some (.UnaryOp .USub (.Constant (.int 1) k p1) p2)) p3) (.ref a) (.ref s4.heap.objs.size)) (EP X pins σ Q) X.xe { s4 with heap := s4.heap.push { cls := .type "slice", data := .fields #[vl, vu, vs] } }
  refine tail_any (ops := [.ref a, .ref s4.heap.objs.size]) ht.typeIs (PyProof.Rows.slot_tuple_getitem.lookup) ?_ (by with_unfolding_all rfl)
  refine K13R.getItem_tuple_back ht (Heap.IsSliceOf.new _ vl vu vs) pl pu ps ?_ (by rw [List.size_toArray]; omega)
  refine ⟨.ref _, _, I5.laid (t' := s4.toks) (o := .tup xs.reverse) (fun b ob q => Heap.get?_push_of_some _ q) (Nat.le_refl _) ?_, rfl, q _ (I5.hok.fresh (Nat.le_refl _))⟩
  exact ⟨by rw [List.length_reverse]; exact hz, _, r.reverse, IsTup.new _ _⟩

/-! ### sorted(s), s a set of tuples of at least one int -/
theorem sorted_setA {P : Program} {w : World} {A : Around} {E : Value → Shared → Prop} {s : Shared} {a : Addr} {L : List (Addr × List Int)} {es : Array (Int × Value)} {ep : Nat} {t : SetTable} {Q : Value → Shared → Prop} (R : SetTR P w s.heap a L es ep t) (hh : A.handled = none)
    (hB : ∀ p ∈ L, p.2 ≠ [])
    (hQ : ∀ s' p (out : Array Value) (c : Nat) (L' : List (Addr × List Int)), (∀ b o, s.heap.get? b = some o → s'.heap.get? b = some o) → s'.gens = s.gens → s'.os = s.os → s.heap.objs.size ≤ p →
      s'.heap.get? p = some (seqObj "list" out c) → out.toList = L'.map (fun q => Value.ref q.1) → L'.Perm L → Q (.ref p) s') :
    wpAny (model P w) A (call (.builtin "sorted") [.ref a]) Q E s := by
  obtain ⟨o, ho, hex, hd⟩ := R.ob
  have hsz := R.size
  have hfew := R.few
  refine Calls.call_function_entry kind_sorted plain_sorted entry_sorted (args_sorted1 _) ?_
  unfold Builtin.«sorted»
  refine wpAny_bind (m := checkCount "sorted" 1 1 _) (wpAny_pure ?_)
  refine wpAny_bind (collect_set (A := A.in1) hh ⟨o, ho, hex.1, hd⟩ R.fits (by unfold scanBound; omega) R.tab.ris R.led fun s1 vs k1 hz g1 o1 pm => ?_)
  have hes : es.toList.map (·.2) = L.map fun q => Value.ref q.1 := by
    rw [R.rows]
    unfold rowsOf
    rw [List.map_map] <;> rfl
  rw [hes] at pm
  have ord : ∀ vs : List Value, (∀ v ∈ vs, ∃ q ∈ L, v = Value.ref q.1) → ∃ L1 : List (Addr × List Int), vs = L1.map (fun q => Value.ref q.1) ∧ ∀ q ∈ L1, q ∈ L := by
    intro vs
    induction vs with
    | nil => intro _; exact ⟨[], rfl, fun q hq => (by cases hq)⟩
    | cons v vs ih =>
      intro hv
      obtain ⟨q, hq, e⟩ := hv v List.mem_cons_self
      obtain ⟨L1, e1, hs⟩ := ih fun u hu => hv u (List.mem_cons_of_mem _ hu)
      refine ⟨q :: L1, by rw [List.map_cons, e, e1], fun r hr => ?_⟩
      rcases List.mem_cons.mp hr with z | z
      · rw [z]; exact hq
      · exact hs r z
  have one : ∀ q ∈ L, ∀ r ∈ L, q.1 = r.1 → q = r := fun q hq r hr e => by
    have a1 := R.tup q hq
    have a2 := R.tup r hr
    rw [e] at a1
    have e2 : q.2 = r.2 := a1.inj a2
    exact Prod.ext e e2
  have perm_of : ∀ L1 : List (Addr × List Int), (∀ q ∈ L1, q ∈ L) → (L1.map (fun q => Value.ref q.1)).Perm (L.map fun q => Value.ref q.1) → L1.Perm L := by
    intro L1 hs pm1
    have nL : L.Nodup := nodup_of_map R.nd
    have nref : (L.map fun q => Value.ref q.1).Nodup := by
      refine List.pairwise_map.mpr (List.Pairwise.imp_of_mem (fun {q r} hq hr hne e => ?_) nL)
      injection e with e
      exact hne (one q hq r hr e)
    have n1 : L1.Nodup := nodup_of_map (pm1.nodup_iff.mpr nref)
    refine (List.perm_ext_iff_of_nodup n1 nL).mpr fun q => ⟨hs q, fun hq => ?_⟩
    have hm : Value.ref q.1 ∈ L1.map (fun q => Value.ref q.1) := pm1.mem_iff.mpr (List.mem_map.mpr ⟨q, hq, rfl⟩)
    obtain ⟨r, hr, e⟩ := List.mem_map.mp hm
    injection e with e
    rw [← one r (hs r hr) q hq e]
    exact hr
  have hvl : vs.length < 64 := by rw [pm.length_eq, List.length_map]; exact hfew
  refine wpAny_bind (wpAny_newList ?_ (by rw [sizeLine_eq]; omega))
  have hoL : (s1.heap.push (seqObj "list" vs.toArray 0)).get? s1.heap.objs.size = some (seqObj "list" vs.toArray 0) := Heap.get?_push_size _ rfl
  have tk : ∀ q ∈ L, K13R.IsInts (s1.heap.push (seqObj "list" vs.toArray 0)) (.ref q.1) := fun q hq => by
    obtain ⟨b, items, e, ⟨o, ho, hc, n, hd⟩, hi⟩ := tupInts_of (P := P) (w := w) (isT_keep (R.tup q hq) fun b u e => Heap.get?_push_of_some _ (k1 b u e))
    injection e with e
    subst e
    refine ⟨_, o, items.toList, q.2, n, rfl, ho, hc, by rw [Array.toArray_toList]; exact hd, hi, fun z => hB q hq (List.eq_nil_of_length_eq_zero ?_)⟩
    have := IntsAre.length hi
    rw [z, List.length_nil] at this
    exact this.symm
  have x : ∀ v ∈ vs, K13R.IsInts (s1.heap.push (seqObj "list" vs.toArray 0)) v := fun v hv => by
    obtain ⟨q, hq, e⟩ := List.mem_map.mp (pm.mem_iff.mp hv)
    rw [← e]
    exact tk q hq
  refine wpAny_bind (wpAny_holding (wpAny_call_entry slot_list_sort ⟨_, hoL, rfl⟩ entry_list_sort (Srt.list_sort_any (s := { s1 with heap := s1.heap.push (seqObj "list" vs.toArray 0) }) hoL (by rw [sizeLine_eq]; omega) (fun h2 => K13R.ints_sortable (by omega) x fun o e => ?_) fun out a1 => ⟨_, rfl, ?_⟩) (args_list_sort _)))
  · have e' : some o = some (seqObj "list" vs.toArray 0) := e.symm.trans hoL
    cases e'
    intro c
    exact absurd (Value.type.inj c) (by decide)
  obtain ⟨c, hc⟩ := sortedHeap_at (vs := vs) (out := out.toArray) hoL
  obtain ⟨L', e', hs'⟩ := ord out fun v hv => by
    obtain ⟨q, hq, e⟩ := List.mem_map.mp (pm.mem_iff.mp (a1.mem_iff.mp hv))
    exact ⟨q, hq, e.symm⟩
  have pL : L'.Perm L := perm_of L' hs' (by rw [← e']; exact a1.trans pm)
  refine wpAny_pure ⟨_, rfl, hQ _ s1.heap.objs.size out.toArray c L' (fun b u e => ?_) g1 o1 hz hc (by simpa using e') pL⟩
  have q := k1 b u e
  have hlt := Heap.lt_size q
  show (sortedHeap (s1.heap.push (seqObj "list" vs.toArray 0)) s1.heap.objs.size vs out.toArray).get? b = some u
  rw [sortedHeap_old (Nat.ne_of_lt hlt) (by rw [size_push']; exact Nat.lt_succ_of_lt hlt)]
  exact Heap.get?_push_of_some _ q
/-- sorted(set), the tuples of at least one int each: in some order -/
def rSortedTA (K : PySem.W.Frag) (P : Program) (w : World) : List V → Hp → VK → Prop := fun vs H Q => ∃ (a : Addr) (L : List (Addr × List Int)), vs = [V.ref a] ∧ H a = some (SetTO P w a L) ∧ (∀ p ∈ L, SqT K H p.1 (p.2.map V.int)) ∧
  (∀ p ∈ L, p.2 ≠ []) ∧
  ∀ (L' : List (Addr × List Int)) (p : Addr), L'.Perm L → (L'.map (·.2)).Nodup → L'.length < 64 → H p = none → Q (.ref p) (upd H p (.lst (L'.map fun q => V.ref q.1)))
theorem cr_sortedTA (hc : X.calm = true) : CallR X (.builtin "sorted") (rSortedTA X.K X.prog X.w) := by
  intro pins s σ H vs us Q I r h
  obtain ⟨a, L, rfl, ha, hk, hB, q⟩ := h
  have R0 : SetT0 X.prog X.w s.heap a L := (I.hok a _ ha).1
  obtain ⟨es, ep, t, R⟩ := R0.full fun p hp => I.isT (hk p hp)
  rw [Vals.ref1 r]
  refine sorted_setA R (I.ok.hd hc) hB fun s' p out c L' k g o hp hg hout pm => ?_
  have hfew : L'.length < 64 := by rw [pm.length_eq]; exact R.few
  have hlen : (L'.map fun q => V.ref q.1).length ≤ sizeLine := by rw [List.length_map, sizeLine_eq]; omega
  have hn : H p = none := I.hok.fresh hp
  have hv : Vals (L'.map fun q => V.ref q.1) out.toList := by rw [hout]; exact vals_of_refs L'
  have J : Inv X pins σ (upd H p (.lst (L'.map fun q => V.ref q.1))) { s with heap := s'.heap, gens := s'.gens, drawn := s'.drawn, toks := s'.toks } :=
    I.call (ch := []) (Un.laid k hp hn) (I.hok.laid k hp ⟨hlen, out.toList, c, hv, hg⟩) (by rw [g]; exact I.bare) (fun _ z => nomatch z)
  have e : s' = { s with heap := s'.heap, gens := s'.gens, drawn := s'.drawn, toks := s'.toks } := by
    cases s'
    cases s
    cases o
    rfl
  rw [e]
  exact ⟨.ref p, _, J, rfl, q L' p pm ((pm.map (·.2)).nodup_iff.mpr R.nd) hfew hn⟩
end
end L2

/-! K13 W0: trees in the heap, defs that can be called, short words. -/
namespace K13
open PySem PySem.Spec PyProof.Rows L2

abbrev Fg := PySem.W.Frag
def topS (i : Nat) : Stmt := PySem.Challenge.pw_unpartedrows_k13_whole_common_trees.main.body.getD i (.Pass ⟨0, 0, 0, 0⟩)

/-! ### trees in the heap -/
def wd (b : Bool) : Str := if b then "row" else "any"
inductive TreeAt (H : Hp) : Tr → V → Prop where
  | thing (i : Int) : TreeAt H (.thing i) (.int i)
  | node {b : Bool} {ps : List Tr} {a p : Addr} {vs : List V} : H a = some (.tup [.str (wd b), .ref p]) → H p = some (.tup vs) → All2 (TreeAt H) ps vs → TreeAt H (.node b ps) (.ref a)
abbrev TreesAt (H : Hp) : List Tr → List V → Prop := All2 (TreeAt H)
theorem treeAt_thing {H : Hp} {i : Int} {v : V} (h : TreeAt H (.thing i) v) : v = .int i := by cases h; rfl
theorem treeAt_node {H : Hp} {b : Bool} {ps : List Tr} {v : V} (h : TreeAt H (.node b ps) v) : ∃ a p vs, v = .ref a ∧ H a = some (.tup [.str (wd b), .ref p]) ∧ H p = some (.tup vs) ∧ TreesAt H ps vs := by
  cases h with
  | node h1 h2 h3 => exact ⟨_, _, _, rfl, h1, h2, h3⟩
/-- the tuples stand as before -/
def SameT (H H' : Hp) : Prop := ∀ a xs, H a = some (.tup xs) → H' a = some (.tup xs)
theorem SameT.refl (H : Hp) : SameT H H := fun _ _ h => h
theorem SameT.trans {H H1 H2 : Hp} (h : SameT H H1) (h' : SameT H1 H2) : SameT H H2 := fun a xs e => h' a xs (h a xs e)
theorem sameT_of {H H' : Hp} (h : Same H H') : SameT H H' := fun a xs e => h a _ e
theorem sameT_upd {H : Hp} {p : Addr} {o : HO} (h : ∀ xs, H p ≠ some (.tup xs)) : SameT H (upd H p o) := fun a xs e => by
  rw [upd_ne (fun z : a = p => h xs (by rw [← z]; exact e))]; exact e
theorem sameT_lst {H : Hp} {p : Addr} {xs : List V} {o : HO} (h : H p = some (.lst xs)) : SameT H (upd H p o) := sameT_upd fun ys e => by rw [h] at e; cases e
theorem sameT_new {H : Hp} {p : Addr} {o : HO} (h : H p = none) : SameT H (upd H p o) := sameT_upd fun ys e => by rw [h] at e; cases e
theorem same_new {H : Hp} {p : Addr} {o : HO} (h : H p = none) : Same H (upd H p o) := fun b u q => by rw [upd_ne (ne_of_none q h)]; exact q
/-- what was tracked at the entry stands as before: a thing that is new since then was written -/
theorem same_upd {H0 H : Hp} {p : Addr} {o : HO} (s : Same H0 H) (h : H0 p = none) : Same H0 (upd H p o) := fun b u q => by rw [upd_ne (ne_of_none q h)]; exact s b u q
theorem TreeAt.mono {H H' : Hp} (s : SameT H H') : ∀ {t : Tr} {v : V}, TreeAt H t v → TreeAt H' t v := by
  intro t
  induction t using Tr.ind with
  | h1 i => intro v h; rw [treeAt_thing h]; exact .thing i
  | h2 b ps ih =>
    intro v h
    obtain ⟨a, p, vs, rfl, h1, h2, h3⟩ := treeAt_node h
    refine .node (s _ _ h1) (s _ _ h2) ?_
    clear h h1 h2
    induction h3 with
    | nil => exact .nil
    | cons r t ih2 => exact .cons (ih _ List.mem_cons_self r) (ih2 fun q hq => ih q (List.mem_cons_of_mem _ hq))
theorem TreesAt.mono {H H' : Hp} (s : SameT H H') {ps : List Tr} {vs : List V} (h : TreesAt H ps vs) : TreesAt H' ps vs := All2.mono (fun _ _ k => TreeAt.mono s k) h
theorem SameT.seq {K : Fg} {H H' : Hp} {a : Addr} {xs : List V} (s : SameT H H') (h : H a = some (.tup xs)) : SqT K H' a xs := SqT.of (s _ _ h)

/-! ### defs that can be called -/
structure Can (P : Program) (w : World) (K : Fg) (mg : Str → Option Value) (base : Heap) (k : Nat) (x : Str) (ps : List Str) (sp : Sp) : Prop where
  ex : ∃ (f : Addr) (fd : FuncData), FnOk P w K mg base CX0 k f fd ps sp ∧ mg x = some (.ref f) ∧ PySem.W.keepIn K (.ref f) = true ∧ Binds K fd ps []
theorem Can.mono {P : Program} {w : World} {K : Fg} {mg : Str → Option Value} {base : Heap} {j k : Nat} {x : Str} {ps : List Str} {sp : Sp} (C : Can P w K mg base j x ps sp) (h : j ≤ k) : Can P w K mg base k x ps sp := by
  obtain ⟨f, fd, F, a, b, c⟩ := C.ex
  exact ⟨f, fd, F.mono h, a, b, c⟩
theorem pe_can {X : Cx} {k k' : Nat} {x : Str} {ps : List Str} {sp : Sp} {e : Expr} {es : List Expr} {t : TA} {p pos : Pos} (C : Can X.prog X.w X.K X.mg X.base k x ps sp) (hr : Room k' X.A) (hk : k ≤ k') (hg : Gl X x) (ha : PA X (e :: es) t)
    (hdb : (x == ("__debug__" : Str)) = false := by decide) (he : starEach (e :: es) X.env = (false, eval e X.env) :: starEach es X.env := by rfl) (hpl : (backTo pos (starEach es X.env)).any (·.1) = false := by rfl) :
    PE X (.Call (.Name x p) (e :: es) [] pos) (tCall sp [] E0 t) := by
  obtain ⟨f, fd, F, a, b, c⟩ := C.ex
  exact pe_call F (hr.mono hk) hg a b c .nil pass0 ha hdb he hpl
/-- a def of the text: where it stands -/
structure Def (K : Fg) (mg : Str → Option Value) (x : Str) (st : Stmt) (ps : List Str) : Prop where
  ex : ∃ (f : Addr) (fd : FuncData), Fun K x x st f fd ∧ mg x = some (.ref f) ∧ Binds K fd ps []
theorem Def.ok {P : Program} {w : World} {K : Fg} {mg : Str → Option Value} {base : Heap} {x : Str} {st : Stmt} {N ps : List Str} {k : Nat} {sp : Sp} (D : Def K mg x st ps) (S : FnScope N ps (defScope st)) (len : ∀ vs H Q E, sp vs H Q E → vs.length = ps.length)
    (hbody : ∀ (f : Addr) (cdv : Value) (A : Around) (outer : List Env) (s : Shared) (H : Hp) (vs : List V) (Q : VK) (E : XK), Room k (A.deeper (envOfC x (defScope st) s.heap.objs.size f cdv)) → sp vs H Q E →
      ∃ t, PSs (cxOf CX0 P w K mg base N x (defScope st) f cdv A outer s H E).nox (defBody st) t ∧ t { nx := fun _ H' => Q .non H', rt := Q } (start N vs) H) : Can P w K mg base (k + 1) x ps sp := by
  obtain ⟨f, fd, F, a, b⟩ := D.ex
  exact ⟨f, fd, F.ok S len fun cdv A outer s H vs Q E hr h => hbody f cdv A outer s H vs Q E hr h, a, F.kp, b⟩
/-- the built-in names stand -/
structure Bl (mg : Str → Option Value) : Prop where
  len : mg "len" = none
  range : mg "range" = none
  sorted : mg "sorted" = none
  tuple : mg "tuple" = none
  list : mg "list" = none
  set : mg "set" = none
  min : mg "min" = none
  max : mg "max" = none
  int : mg "int" = none
  bool : mg "bool" = none
  str : mg "str" = none
  isinstance : mg "isinstance" = none
  enumerate : mg "enumerate" = none
  all : mg "all" = none
theorem bv_len : bootBuiltins "len" = some (.builtin "len") := by decide +kernel
theorem bv_sorted : bootBuiltins "sorted" = some (.builtin "sorted") := by decide +kernel
theorem bv_min : bootBuiltins "min" = some (.builtin "min") := by decide +kernel
theorem bv_max : bootBuiltins "max" = some (.builtin "max") := by decide +kernel
theorem bv_all : bootBuiltins "all" = some (.builtin "all") := by decide +kernel
theorem bv_isinstance : bootBuiltins "isinstance" = some (.builtin "isinstance") := by decide +kernel
theorem bv_tuple : bootBuiltins "tuple" = some (.type "tuple") := by decide +kernel
theorem bv_list : bootBuiltins "list" = some (.type "list") := by decide +kernel
theorem bv_set : bootBuiltins "set" = some (.type "set") := by decide +kernel
theorem bv_int : bootBuiltins "int" = some (.type "int") := by decide +kernel
theorem bv_bool : bootBuiltins "bool" = some (.type "bool") := by decide +kernel
theorem bv_str : bootBuiltins "str" = some (.type "str") := by decide +kernel
/-! ### rules with the written part told, for comprehensions -/
section
variable (K : Fg) {X : Cx}
theorem op_in_seqK (h : X.K = K := by rfl) : OpR X (compareOp .In) (rIn K false) := h ▸ op_in_seq
theorem op_notIn_seqK (h : X.K = K := by rfl) : OpR X (compareOp .NotIn) (rIn K true) := h ▸ op_notIn_seq
theorem ix_listK (h : X.K = K := by rfl) : IxR X (rIxL K) := h ▸ ix_list
theorem ix_tupK (h : X.K = K := by rfl) : IxR X (rIxT K) := h ▸ ix_tup
theorem pg_tupK (n : Nat) {es : List Expr} {k : Nat} {pos : Pos} {t : TGs} (hc : X.calm = true) (h : PGs X es t) (hK : X.K = K := by rfl) (hn : (assignEach es X.env).length = n := by rfl) (hst : (assignEach es X.env).findIdx? (·.1) = none := by rfl) : PG X (.Tuple es k pos) (gTup K n t) := hK ▸ pg_tup hc h hn hst
theorem sl_listK (h : X.K = K := by rfl) : SlR X (rSlL K) := h ▸ sl_list
theorem sl_tupAK (h : X.K = K := by rfl) : SlR X (rSlA K) := h ▸ sl_tupA
theorem cr_minL (hc : X.calm = true) (h : X.K = K := by rfl) : CallR X (.builtin "min") (rMin K) := h ▸ cr_min hc
theorem call_len_seqK (h : X.K = K := by rfl) : CallR X (.builtin "len") (fun xs H Q => ∃ p ys, xs = [.ref p] ∧ (SqL K H p ys ∨ SqT K H p ys) ∧ Q (.int ys.length) H) := h ▸ call_len_seq
end
/-- isinstance(x, T), T a built-in class -/
def tIsi (T : String) (te : TE) (K : Fg) : TE := tCB (rIsi K) (tCons te (tCons (tC (.ty T)) tNil))
/-! ### answers that are known -/
section
variable {p : Prop} [Decidable p] {Q : VK} {H : Hp}
theorem bT (h : p) : V.bl (decide p) = V.bl true := congrArg V.bl (decide_eq_true h)
theorem bF (h : ¬ p) : V.bl (decide p) = V.bl false := congrArg V.bl (decide_eq_false h)
theorem bNT (h : p) : V.bl (!decide p) = V.bl false := by rw [decide_eq_true h]; rfl
theorem bNF (h : ¬ p) : V.bl (!decide p) = V.bl true := by rw [decide_eq_false h]; rfl
theorem vT (h : p) (q : Q (.bl true) H) : Q (.bl (decide p)) H := by rw [bT h]; exact q
theorem vF (h : ¬ p) (q : Q (.bl false) H) : Q (.bl (decide p)) H := by rw [bF h]; exact q
theorem vNT (h : p) (q : Q (.bl false) H) : Q (.bl (!decide p)) H := by rw [bNT h]; exact q
theorem vNF (h : ¬ p) (q : Q (.bl true) H) : Q (.bl (!decide p)) H := by rw [bNF h]; exact q
end
theorem iteElse {c : Bool} {A B : Prop} (b : B) (h : c = true → B → A) : if c = true then A else B := by
  cases c with
  | true => exact iteT (h rfl b)
  | false => exact iteF b
theorem sl1000 {n : Nat} (h : n ≤ 1000) : n ≤ sizeLine := Nat.le_of_lt (small1000 h)
theorem lv_int (t : Tr) : (t.lv.map V.int).length = t.lv.length := List.length_map _
end K13

/-! K13 W1: the walk: tables. -/
namespace K13
open PySem PySem.Spec PyProof.Rows L2
section
variable {P : Program} {w : World} {K : Fg} {mg : Str → Option Value} {base : Heap}
abbrev s_is_size : Stmt := topS 8
abbrev N_is_size : List Str := ["n"]
theorem sc_is_size : FnScope N_is_size ["n"] (defScope s_is_size) := ⟨rfl, rfl, rfl, by decide +kernel, rfl, by decide +kernel, by decide +kernel⟩
def sp_is_size : Sp := fun vs H Q _ => ∃ n : Int, vs = [.int n] ∧ 1 ≤ n ∧ n ≤ 24 ∧ Q (.bl true) H
theorem ok_is_size {tk : Tok} (D : Def K mg "is_size" s_is_size ["n"]) (g_MOST_THINGS : mg "MOST_THINGS" = some (.int 24 tk)) : Can P w K mg base 1 "is_size" ["n"] sp_is_size := by
  refine D.ok sc_is_size (fun vs H Q E h => ?_) (fun f cdv A outer s H vs Q E hr h => ?_)
  · obtain ⟨n, rfl, _⟩ := h; rfl
  obtain ⟨n, rfl, h1, h2, q⟩ := h
  refine ⟨_, (pss_one (ps_ret (pe_chain op_le op_le pe_int (pv 0) (pe_glob (v := .int 24) rfl g_MOST_THINGS ⟨_, rfl⟩)))), ?_⟩
  refine ⟨_, rfl, _, _, rfl, rfl, true, bT h1, iteT ⟨_, _, rfl, rfl, ?_⟩⟩
  exact vT (Q := Q) h2 q

abbrev s_check_things : Stmt := topS 9
abbrev N_check_things : List Str := ["n"]
theorem sc_check_things : FnScope N_check_things ["n"] (defScope s_check_things) := ⟨rfl, rfl, rfl, by decide +kernel, rfl, by decide +kernel, by decide +kernel⟩
def sp_check_things : Sp := fun vs H Q _ => ∃ n : Int, vs = [.int n] ∧ 1 ≤ n ∧ n ≤ 24 ∧ Q (.int n) H
theorem ok_check_things (D : Def K mg "check_things" s_check_things ["n"]) (c_is_size : Can P w K mg base 1 "is_size" ["n"] sp_is_size) : Can P w K mg base 2 "check_things" ["n"] sp_check_things := by
  refine D.ok sc_check_things (fun vs H Q E h => ?_) (fun f cdv A outer s H vs Q E hr h => ?_)
  · obtain ⟨n, rfl, _⟩ := h; rfl
  obtain ⟨n, rfl, h1, h2, q⟩ := h
  refine ⟨_, (pss_cons (ps_if (pt_not (pt_val (pe_can c_is_size hr (by omega) rfl (pa_cons (pv 0) pa_nil))))
      (pss_one ps_never)
      pss_nil)
      (pss_one (ps_ret (pv 0)))), ?_⟩
  refine ⟨_, rfl, n, rfl, h1, h2, true, rfl, iteF ?_⟩
  exact ⟨_, rfl, q⟩

/-- a set of n things -/
def IsSet (n : Int) (S : List Int) : Prop := S.Pairwise (· < ·) ∧ (∀ x ∈ S, 0 ≤ x ∧ x < n) ∧ S.length ≤ 1000
abbrev s_is_set : Stmt := topS 10
abbrev N_is_set : List Str := ["n", "chosen", "at"]
theorem sc_is_set : FnScope N_is_set ["n", "chosen"] (defScope s_is_set) := ⟨rfl, rfl, rfl, by decide +kernel, rfl, by decide +kernel, by decide +kernel⟩
def sp_is_set (K : Fg) : Sp := fun vs H Q _ => ∃ (n : Int) (a : Addr) (S : List Int), vs = [.int n, .ref a] ∧ SqT K H a (S.map V.int) ∧ IsSet n S ∧ Q (.bl true) H
theorem ok_is_set (D : Def K mg "is_set" s_is_set ["n", "chosen"]) (B : Bl mg) : Can P w K mg base 1 "is_set" ["n", "chosen"] (sp_is_set K) := by
  refine D.ok sc_is_set (fun vs H Q E h => ?_) (fun f cdv A outer s H vs Q E hr h => ?_)
  · obtain ⟨n, a, S, rfl, _⟩ := h; rfl
  obtain ⟨n, a, S, rfl, hS, ⟨hp, hb, hl⟩, q⟩ := h
  refine ⟨_, (pss_cons (ps_for PassesOwn.never rfl (pi_range1 rfl B.range (pa_cons (pe_callB call_len_seq rfl B.len bv_len (pa_cons (pv 1) pa_nil)) pa_nil)) (pg_name (i := 2) sc_is_set.nd rfl (.inl rfl))
      (pss_cons (ps_if (pt_not (pt_chain op_le op_lt pe_int (pe_ix ix_tup (pv 1) (pv 2) (fun _ _ => rfl)) (pv 0)))
      (pss_one (ps_ret pe_bl))
      pss_nil)
      (pss_one (ps_if (PW.pt (pw_and (pt_cmpR op_gt (pv 2) pe_int (nomark _)) (pw_and1 (pt_cmpR op_ge (pe_ix ix_tup (pv 1) (pe_op op_sub (pv 2) pe_int) (fun _ _ => rfl)) (pe_ix ix_tup (pv 1) (pv 2) (fun _ _ => rfl)) (nomark _)))))
      (pss_one (ps_ret pe_bl))
      pss_nil))))
      (pss_one (ps_ret pe_bl))), ?_⟩
  refine ⟨_, rfl, a, _, rfl, .inr hS, _, rfl, ?_, ?_, ?_⟩
  · omega
  · rw [List.length_map]; omega
  refine for_range (lo := 0) (n := ((S.map V.int).length : Int).toNat) (fun i σ H' => ∃ y, σ = [some (.int n), some (.ref a), y] ∧ H' = H) ⟨_, rfl, rfl⟩ ?_ ?_
  · rintro i σ H' hi ⟨y, rfl, rfl⟩
    have hi : i < S.length := by rw [List.length_map] at hi; omega
    have at' : ∀ (j : Nat) (hj : j < S.length), atI (S.map V.int) (j : Int) = some (.int S[j]) := fun j hj => atI_nat (by rw [List.getElem?_map, List.getElem?_eq_getElem hj]; rfl)
    have e0 : ((0 : Int) + (i : Int)) = (i : Int) := by omega
    have bi := hb S[i] (List.getElem_mem hi)
    rw [e0]
    refine ⟨_, rfl, _, rfl, a, _, _, _, rfl, rfl, hS, at' i hi, _, _, rfl, rfl, true, bT bi.1, iteT ?_⟩
    refine ⟨_, rfl, _, _, rfl, rfl, true, bT bi.2, iteF ?_⟩
    refine ⟨_, rfl, _, _, rfl, rfl, _, rfl, ite2 (fun c => ?_) (fun c => iteF ⟨_, rfl, rfl⟩)⟩
    have c' : 0 < i := by have : (0 : Int) < (i : Int) := of_decide_eq_true c; omega
    refine ⟨_, rfl, _, rfl, _, _, rfl, rfl, a, _, ((i - 1 : Nat) : Int), _, rfl, congrArg V.int (by omega), hS, at' (i - 1) (by omega), ?_⟩
    have lt := List.pairwise_iff_getElem.1 hp (i - 1) i (by omega) hi (by omega)
    refine ⟨_, rfl, _, rfl, a, _, _, _, rfl, rfl, hS, at' i hi, _, _, rfl, rfl, false, bF (by omega), ?_⟩
    exact iteF ⟨_, rfl, rfl⟩
  · rintro σ H' ⟨y, rfl, rfl⟩
    exact q

abbrev s_check_set : Stmt := topS 11
abbrev N_check_set : List Str := ["n", "chosen"]
theorem sc_check_set : FnScope N_check_set ["n", "chosen"] (defScope s_check_set) := ⟨rfl, rfl, rfl, by decide +kernel, rfl, by decide +kernel, by decide +kernel⟩
def sp_check_set (K : Fg) : Sp := fun vs H Q _ => ∃ (n : Int) (a : Addr) (S : List Int), vs = [.int n, .ref a] ∧ 1 ≤ n ∧ n ≤ 24 ∧ SqT K H a (S.map V.int) ∧ IsSet n S ∧ Q (.ref a) H
theorem ok_check_set (D : Def K mg "check_set" s_check_set ["n", "chosen"]) (c_is_size : Can P w K mg base 1 "is_size" ["n"] sp_is_size) (c_is_set : Can P w K mg base 1 "is_set" ["n", "chosen"] (sp_is_set K)) : Can P w K mg base 2 "check_set" ["n", "chosen"] (sp_check_set K) := by
  refine D.ok sc_check_set (fun vs H Q E h => ?_) (fun f cdv A outer s H vs Q E hr h => ?_)
  · obtain ⟨n, a, S, rfl, _⟩ := h; rfl
  obtain ⟨n, a, S, rfl, h1, h2, hS, hs, q⟩ := h
  refine ⟨_, (pss_cons (ps_if (PW.pt (pw_or (pt_not (pt_val (pe_can c_is_size hr (by omega) rfl (pa_cons (pv 0) pa_nil)))) (pw_or1 (pt_not (pt_val (pe_can c_is_set hr (by omega) rfl (pa_cons (pv 0) (pa_cons (pv 1) pa_nil))))))))
      (pss_one ps_never)
      pss_nil)
      (pss_one (ps_ret (pv 1)))), ?_⟩
  refine ⟨_, rfl, n, rfl, h1, h2, true, rfl, iteF ?_⟩
  refine ⟨_, rfl, _, rfl, n, a, S, rfl, hS, hs, true, rfl, iteF ?_⟩
  exact ⟨_, rfl, q⟩

/-- the tuple at a is a table: its items are tuples of ints -/
def SetsAt (K : Fg) (H : Hp) (sets : List (List Int)) (vs : List V) : Prop := All2 (fun S v => ∃ b, v = V.ref b ∧ SqT K H b (S.map V.int)) sets vs
abbrev s_check_table : Stmt := topS 12
abbrev N_check_table : List Str := ["n", "sets", "chosen"]
theorem sc_check_table : FnScope N_check_table ["n", "sets"] (defScope s_check_table) := ⟨rfl, rfl, rfl, by decide +kernel, rfl, by decide +kernel, by decide +kernel⟩
def sp_check_table (K : Fg) : Sp := fun vs H Q _ => ∃ (n : Int) (a : Addr) (us : List V) (sets : List (List Int)), vs = [.int n, .ref a] ∧ 1 ≤ n ∧ n ≤ 24 ∧ SqT K H a us ∧ SetsAt K H sets us ∧ (∀ S ∈ sets, IsSet n S) ∧ sets.length ≤ 40 ∧ Q (.ref a) H
theorem ok_check_table {tk : Tok} (D : Def K mg "check_table" s_check_table ["n", "sets"]) (B : Bl mg) (g_MOST_SETS : mg "MOST_SETS" = some (.int 40 tk)) (c_is_size : Can P w K mg base 1 "is_size" ["n"] sp_is_size) (c_check_set : Can P w K mg base 2 "check_set" ["n", "chosen"] (sp_check_set K)) :
    Can P w K mg base 3 "check_table" ["n", "sets"] (sp_check_table K) := by
  refine D.ok sc_check_table (fun vs H Q E h => ?_) (fun f cdv A outer s H vs Q E hr h => ?_)
  · obtain ⟨n, a, us, sets, rfl, _⟩ := h; rfl
  obtain ⟨n, a, us, sets, rfl, h1, h2, hS, hs, ok, hl, q⟩ := h
  have len := hs.length
  refine ⟨_, (pss_cons (ps_if (PW.pt (pw_or (pt_not (pt_val (pe_can c_is_size hr (by omega) rfl (pa_cons (pv 0) pa_nil)))) (pw_or1 (pt_cmpR op_gt (pe_callB call_len_seq rfl B.len bv_len (pa_cons (pv 1) pa_nil)) (pe_glob (v := .int 40) rfl g_MOST_SETS ⟨_, rfl⟩) (nomark _)))))
      (pss_one ps_never)
      pss_nil)
      (pss_cons (ps_for PassesOwn.never rfl (pi_tup (pv 1)) (pg_name (i := 2) sc_check_table.nd rfl (.inl rfl))
      (pss_one (ps_expr (pe_can c_check_set hr (by omega) rfl (pa_cons (pv 0) (pa_cons (pv 2) pa_nil))))))
      (pss_one (ps_ret (pv 1))))), ?_⟩
  refine ⟨_, rfl, n, rfl, h1, h2, true, rfl, iteF ?_⟩
  refine ⟨_, rfl, a, _, rfl, .inr hS, _, _, rfl, rfl, false, bF (by omega), ?_⟩
  refine iteF ⟨_, rfl, a, rfl, ⟨_, hS⟩, ?_⟩
  refine for_tup (xs := us) (fun i σ H' => ∃ y, σ = [some (.int n), some (.ref a), y] ∧ H' = H) ⟨_, rfl, rfl⟩ ?_ ?_ ?_
  · rintro i σ H' hi ⟨y, rfl, rfl⟩
    exact hS
  · rintro i x σ H' hx ⟨y, rfl, rfl⟩
    obtain ⟨S, hS1, b, rfl, hb⟩ := All2.get' hs hx
    exact ⟨_, rfl, _, rfl, n, b, S, rfl, h1, h2, hb, ok S (List.mem_of_getElem? hS1), _, rfl, rfl⟩
  · rintro σ H' ⟨y, rfl, rfl⟩
    exact ⟨_, rfl, q⟩
end
end K13

/-! K13 WD: trees and lists as data, for == and !=. -/
namespace K13
open PySem PySem.Spec PyProof.Rows L2

theorem dpAll_ints {K : Fg} {H : Hp} : ∀ ns : List Int, DpAll K H (ns.map V.int) (ns.map PyData.int)
  | [] => .nil
  | n :: ns => .cons (.int n) (dpAll_ints ns)
theorem eqvAll_ints : ∀ ns ms : List Int, PyData.eqvAll (ns.map PyData.int) (ms.map PyData.int) = decide (ns = ms)
  | [], [] => by simp [PyData.eqvAll]
  | [], m :: ms => by simp [PyData.eqvAll]
  | n :: ns, [] => by simp [PyData.eqvAll]
  | n :: ns, m :: ms => by
    rw [List.map_cons, List.map_cons, PyData.eqvAll, eqvAll_ints ns ms, PyData.eqv]
    by_cases e : n = m
    · subst e; simp
    · have : (n == m) = false := beq_eq_false_iff_ne.2 e
      rw [this]; simp [e]
theorem canLay_ints : ∀ ns : List Int, PyData.canLayAll0 (ns.map PyData.int) = true
  | [] => by rw [List.map_nil, PyData.canLayAll0]
  | n :: ns => by rw [List.map_cons, PyData.canLayAll0, canLay_ints ns, PyData.canLay0]; rfl
theorem depth_ints : ∀ ns : List Int, PyData.depthAll (ns.map PyData.int) = 0
  | [] => by rw [List.map_nil, PyData.depthAll]
  | n :: ns => by rw [List.map_cons, PyData.depthAll, depth_ints ns, PyData.depth]; rfl
theorem shaped_of {d : PyData} (h1 : d.canLay0 = true) (h2 : d.depth ≤ 64) : SeqAt.shaped d = true := by
  unfold SeqAt.shaped; rw [h1, decide_eq_true h2]; rfl
def dL (ns : List Int) : PyData := .list (ns.map PyData.int)
def dT (ns : List Int) : PyData := .tuple (ns.map PyData.int)
theorem shaped_dL (ns : List Int) : SeqAt.shaped (dL ns) = true := shaped_of (by unfold dL; rw [PyData.canLay0]; exact canLay_ints ns) (by unfold dL; rw [PyData.depth, depth_ints]; decide)
theorem shaped_dT (ns : List Int) : SeqAt.shaped (dT ns) = true := shaped_of (by unfold dT; rw [PyData.canLay0]; exact canLay_ints ns) (by unfold dT; rw [PyData.depth, depth_ints]; decide)
theorem eqv_dL (ns ms : List Int) : PyData.eqv (dL ns) (dL ms) = decide (ns = ms) := by unfold dL; rw [PyData.eqv]; exact eqvAll_ints ns ms
theorem eqv_dT (ns ms : List Int) : PyData.eqv (dT ns) (dT ms) = decide (ns = ms) := by unfold dT; rw [PyData.eqv]; exact eqvAll_ints ns ms
section
variable {K : Fg} {H : Hp} {a b : Addr} {ns ms : List Int} {Q : VK}
theorem dp_dL (h : SqL K H a (ns.map V.int)) : Dp K H (.ref a) (dL ns) := .lst h (dpAll_ints ns)
theorem dp_dT (h : SqT K H a (ns.map V.int)) : Dp K H (.ref a) (dT ns) := .tup h (dpAll_ints ns)
/-- two lists of ints are compared -/
theorem eq_lists (h : SqL K H a (ns.map V.int)) (h' : SqL K H b (ms.map V.int)) (q : Q (.bl (decide (ns = ms))) H) : rEqD K (.ref a) (.ref b) H Q :=
  ⟨dL ns, dL ms, dp_dL h, dp_dL h', shaped_dL ns, shaped_dL ms, by rw [eqv_dL]; exact q⟩
theorem ne_lists (h : SqL K H a (ns.map V.int)) (h' : SqL K H b (ms.map V.int)) (q : Q (.bl (!decide (ns = ms))) H) : rNeD K (.ref a) (.ref b) H Q :=
  ⟨dL ns, dL ms, dp_dL h, dp_dL h', shaped_dL ns, shaped_dL ms, by rw [eqv_dL]; exact q⟩
theorem eq_tups (h : SqT K H a (ns.map V.int)) (h' : SqT K H b (ms.map V.int)) (q : Q (.bl (decide (ns = ms))) H) : rEqD K (.ref a) (.ref b) H Q :=
  ⟨dT ns, dT ms, dp_dT h, dp_dT h', shaped_dT ns, shaped_dT ms, by rw [eqv_dT]; exact q⟩
end

/-! ### trees -/
def tD : Tr → PyData
  | .thing i => .int i
  | .node b ps => .tuple [.str (wd b), .tuple (ps.map fun p => tD p)]
theorem tD_thing (i : Int) : tD (.thing i) = .int i := by rw [tD]
theorem tD_node (b : Bool) (ps : List Tr) : tD (.node b ps) = .tuple [.str (wd b), .tuple (ps.map tD)] := by rw [tD]
theorem dp_trees {K : Fg} {H : Hp} {ps : List Tr} (ih : ∀ p ∈ ps, ∀ v, TreeAt H p v → Dp K H v (tD p)) {vs : List V} (h : TreesAt H ps vs) : DpAll K H vs (ps.map tD) := by
  induction h with
  | nil => exact .nil
  | cons r _ ih2 => exact .cons (ih _ List.mem_cons_self _ r) (ih2 fun q hq => ih q (List.mem_cons_of_mem _ hq))
theorem dp_tree {K : Fg} {H : Hp} : ∀ {t : Tr} {v : V}, TreeAt H t v → Dp K H v (tD t) := by
  intro t
  induction t using Tr.ind with
  | h1 i => intro v h; rw [treeAt_thing h, tD_thing]; exact .int i
  | h2 b ps ih =>
    intro v h
    obtain ⟨a, p, vs, rfl, h1, h2, h3⟩ := treeAt_node h
    rw [tD_node]
    exact .tup (SqT.of h1) (.cons (.str _) (.cons (.tup (SqT.of h2) (dp_trees (fun p hp v hv => ih p hp hv) h3)) .nil))
theorem canLay_trees {ps : List Tr} (ih : ∀ p ∈ ps, (tD p).canLay0 = true) : PyData.canLayAll0 (ps.map tD) = true := by
  induction ps with
  | nil => rw [List.map_nil, PyData.canLayAll0]
  | cons p r ih2 => rw [List.map_cons, PyData.canLayAll0, ih p List.mem_cons_self, ih2 fun q hq => ih q (List.mem_cons_of_mem _ hq)]; rfl
theorem wd_ok (b : Bool) : PyData.canLay0 (.str (wd b)) = true := by cases b <;> decide +kernel
theorem canLay_tree : ∀ t : Tr, (tD t).canLay0 = true := by
  intro t
  induction t using Tr.ind with
  | h1 i => rw [tD_thing, PyData.canLay0]
  | h2 b ps ih => rw [tD_node, PyData.canLay0, PyData.canLayAll0, wd_ok, PyData.canLayAll0, PyData.canLay0, canLay_trees ih, PyData.canLayAll0]; rfl
theorem depth_trees {ps : List Tr} {n : Nat} (ih : ∀ p ∈ ps, (tD p).depth ≤ n) : PyData.depthAll (ps.map tD) ≤ n := by
  induction ps with
  | nil => rw [List.map_nil, PyData.depthAll]; exact Nat.zero_le _
  | cons p r ih2 =>
    rw [List.map_cons, PyData.depthAll]
    exact Nat.max_le.2 ⟨ih p List.mem_cons_self, ih2 fun q hq => ih q (List.mem_cons_of_mem _ hq)⟩
theorem depth_tree : ∀ {t : Tr}, Form t → (tD t).depth + 2 ≤ 2 * t.lv.length := by
  intro t
  induction t using Tr.ind with
  | h1 i => intro _; rw [tD_thing, lv_thing, PyData.depth]; exact Nat.le_refl _
  | h2 b ps ih =>
    intro F
    have hd : PyData.depthAll (ps.map tD) ≤ 2 * (Tr.node b ps).lv.length - 4 := depth_trees fun p hp => by
      have := ih p hp (F.parts p hp)
      have := F.lt hp
      omega
    have two := F.two
    have len := lvs_len F.parts
    rw [← lv_node b] at len
    rw [tD_node, PyData.depth, PyData.depthAll, PyData.depthAll, PyData.depthAll, PyData.depth, PyData.depth]
    omega
theorem shaped_tree {t : Tr} (F : Form t) (h : t.lv.length ≤ 24) : SeqAt.shaped (tD t) = true := shaped_of (canLay_tree t) (by have := depth_tree F; omega)
theorem shaped_trees {ps : List Tr} (F : ∀ p ∈ ps, Form p) (h : (lvs ps).length ≤ 24) : SeqAt.shaped (.list (ps.map tD)) = true := by
  refine shaped_of (by rw [PyData.canLay0]; exact canLay_trees fun p _ => canLay_tree p) ?_
  rw [PyData.depth]
  have : PyData.depthAll (ps.map tD) ≤ 46 := depth_trees fun p hp => by
    have h1 := depth_tree (F p hp)
    have h2 : p.lv.length ≤ (lvs ps).length := by
      obtain ⟨l, r, rfl⟩ := List.append_of_mem hp
      rw [lvs_append, lvs_cons, List.length_append, List.length_append]; omega
    omega
  omega
theorem eqv_trees_nil (ps : List Tr) : PyData.eqv (.list (ps.map tD)) (.list []) = decide (ps = []) := by
  cases ps with
  | nil => rw [List.map_nil, PyData.eqv, PyData.eqvAll]; rfl
  | cons p r => rw [List.map_cons, PyData.eqv, PyData.eqvAll]; simp
theorem shaped_nil : SeqAt.shaped (.list []) = true := by decide +kernel
/-- a list of trees is compared with [] -/
theorem ne_nil_trees {K : Fg} {H : Hp} {a b : Addr} {ps : List Tr} {vs : List V} {Q : VK} (h : SqL K H a vs) (hp : TreesAt H ps vs) (F : ∀ p ∈ ps, Form p) (len : (lvs ps).length ≤ 24) (hb : SqL K H b []) (q : Q (.bl (!decide (ps = []))) H) : rNeD K (.ref a) (.ref b) H Q :=
  ⟨.list (ps.map tD), .list [], .lst h (dp_trees (fun p _ v hv => dp_tree hv) hp), .lst hb .nil, shaped_trees F len, shaped_nil, by rw [eqv_trees_nil]; exact q⟩
theorem eqv_same {d : PyData} (h : SeqAt.shaped d = true) : PyData.eqv d d = true := SeqAt.eqv_refl d (SeqAt.canLay_of_shaped h)
/-! ### what a def hands back: None or a tree -/
inductive OptAt (H : Hp) : Option Tr → V → Prop where
  | none : OptAt H none .non
  | some {t : Tr} {v : V} : TreeAt H t v → OptAt H (some t) v
theorem OptAt.mono {H H' : Hp} (s : SameT H H') {r : Option Tr} {v : V} (h : OptAt H r v) : OptAt H' r v := by
  cases h with
  | none => exact .none
  | some h => exact .some (h.mono s)
theorem TreeAt.notNone {H : Hp} {t : Tr} {v : V} (h : TreeAt H t v) : v ≠ .non := by
  intro e; subst e
  cases h
def oD : Option Tr → PyData
  | none => .none
  | some t => tD t
theorem dp_opt {K : Fg} {H : Hp} {r : Option Tr} {v : V} (h : OptAt H r v) : Dp K H v (oD r) := by
  cases h with
  | none => exact .non
  | some h => exact dp_tree h
theorem shaped_none : SeqAt.shaped .none = true := by decide +kernel
end K13

/-! K13 W2: the walk: trees, the first half. -/
namespace K13
open PySem PySem.Spec PyProof.Rows L2
/-! ### helpers -/
theorem lvs_take {ps : List Tr} {i : Nat} {t : Tr} (h : ps[i]? = some t) : lvs (ps.take (i + 1)) = lvs (ps.take i) ++ t.lv := by
  rw [List.take_add_one, h, lvs_append]
  show _ ++ lvs [t] = _
  rw [lvs_one]
theorem lvs_take_le (ps : List Tr) (i : Nat) : (lvs (ps.take i)).length ≤ (lvs ps).length := by
  conv => rhs; rw [← List.take_append_drop i ps, lvs_append, List.length_append]
  omega
theorem part_le {ps : List Tr} {p : Tr} (h : p ∈ ps) : p.lv.length ≤ (lvs ps).length := by
  obtain ⟨l, r, rfl⟩ := List.append_of_mem h
  rw [lvs_append, lvs_cons, List.length_append, List.length_append]; omega
theorem Def.never {P : Program} {w : World} {K : Fg} {mg : Str → Option Value} {base : Heap} {x : Str} {st : Stmt} {ps : List Str} {sp : Sp} (D : Def K mg x st ps) (k : Nat) (no : ∀ vs H Q E, ¬ sp vs H Q E) : Can P w K mg base k x ps sp := by
  obtain ⟨f, fd, F, a, b⟩ := D.ex
  exact ⟨f, fd, ⟨fun vs H Q E h => absurd h (no vs H Q E), fun A outer s H args us vs Q E _ _ _ _ h => absurd h (no vs H Q E)⟩, a, F.kp, b⟩
/-- what is_thing answers -/
def IsTh (H : Hp) (v : V) (b : Bool) : Prop := (∃ i, v = .int i ∧ b = true) ∨ (∃ a xs, v = .ref a ∧ H a = some (.tup xs) ∧ b = false)
theorem isTh_thing {H : Hp} {i : Int} : IsTh H (.int i) true := .inl ⟨i, rfl, rfl⟩
theorem isTh_tup {H : Hp} {a : Addr} {xs : List V} (h : H a = some (.tup xs)) : IsTh H (.ref a) false := .inr ⟨a, xs, rfl, h, rfl⟩
/-- isinstance of a tracked tuple, of an int -/
theorem isi_tup {K : Fg} {H : Hp} {a : Addr} {xs : List V} {T : String} {b : Bool} {Q : VK} (h : H a = some (.tup xs)) (k : kitB "tuple" T = some b) (q : Q (.bl b) H) : rIsi K [.ref a, .ty T] H Q :=
  ⟨_, _, _, _, b, rfl, .ty T, .base (.tup h), kit_ty k, q⟩
theorem isi_int {K : Fg} {H : Hp} {i : Int} {T : String} {b : Bool} {Q : VK} (k : kitB "int" T = some b) (q : Q (.bl b) H) : rIsi K [.int i, .ty T] H Q :=
  ⟨_, _, _, _, b, rfl, .ty T, .base (.int i), kit_ty k, q⟩
theorem kit_ii : kitB "int" "int" = some true := by decide +kernel
theorem kit_ti : kitB "tuple" "int" = some false := by decide +kernel
theorem kit_ib : kitB "int" "bool" = some false := by decide +kernel
theorem kit_tt : kitB "tuple" "tuple" = some true := by decide +kernel
theorem kit_ts : kitB "tuple" "str" = some false := by decide +kernel
section
variable {P : Program} {w : World} {K : Fg} {mg : Str → Option Value} {base : Heap}
abbrev s_is_thing : Stmt := topS 15
abbrev N_is_thing : List Str := ["tree"]
theorem sc_is_thing : FnScope N_is_thing ["tree"] (defScope s_is_thing) := ⟨rfl, rfl, rfl, by decide +kernel, rfl, by decide +kernel, by decide +kernel⟩
def sp_is_thing : Sp := fun vs H Q _ => ∃ v b, vs = [v] ∧ IsTh H v b ∧ Q (.bl b) H
theorem ok_is_thing (D : Def K mg "is_thing" s_is_thing ["tree"]) (B : Bl mg) : Can P w K mg base 1 "is_thing" ["tree"] sp_is_thing := by
  refine D.ok sc_is_thing (fun vs H Q E h => ?_) (fun f cdv A outer s H vs Q E hr h => ?_)
  · obtain ⟨n, _, rfl, _⟩ := h; rfl
  obtain ⟨v, b, rfl, hv, q⟩ := h
  refine ⟨_, (pss_one (ps_ret (pe_callB call_isi rfl B.isinstance bv_isinstance (pa_cons (pv 0) (pa_cons (pe_bltn (v := .ty "int") rfl B.int bv_int rfl) pa_nil))))), ?_⟩
  rcases hv with ⟨i, rfl, rfl⟩ | ⟨a, xs, rfl, ha, rfl⟩
  · exact ⟨_, rfl, isi_int kit_ii q⟩
  · exact ⟨_, rfl, isi_tup ha kit_ti q⟩

abbrev s_listed : Stmt := topS 16
abbrev N_listed : List Str := ["tree", "found", "part"]
theorem sc_listed : FnScope N_listed ["tree"] (defScope s_listed) := ⟨rfl, rfl, rfl, by decide +kernel, rfl, by decide +kernel, by decide +kernel⟩
def sp_listed (n : Nat) : Sp := fun vs H Q _ => ∃ (t : Tr) (v : V), vs = [v] ∧ TreeAt H t v ∧ Form t ∧ t.lv.length ≤ n ∧ n ≤ 24 ∧ ∀ (H' : Hp) (p : Addr), Same H H' → H p = none → H' p = some (.lst (t.lv.map V.int)) → Q (.ref p) H'
theorem ok_listed (D : Def K mg "listed" s_listed ["tree"]) (c_is_thing : Can P w K mg base 1 "is_thing" ["tree"] sp_is_thing) : ∀ n : Nat, Can P w K mg base (n + 2) "listed" ["tree"] (sp_listed n)
  | 0 => D.never _ fun vs H Q E ⟨t, v, _, _, F, h, _⟩ => F.ne (List.eq_nil_of_length_eq_zero (Nat.le_zero.1 h))
  | n + 1 => by
    have c_listed := ok_listed D c_is_thing n
    refine D.ok sc_listed (fun vs H Q E h => ?_) (fun f cdv A outer s H vs Q E hr h => ?_)
    · obtain ⟨t, v, rfl, _⟩ := h; rfl
    obtain ⟨t, v, rfl, ht, F, hl, h24, q⟩ := h
    refine ⟨_, (pss_cons (ps_if (pt_val (pe_can c_is_thing hr (by omega) rfl (pa_cons (pv 0) pa_nil)))
      (pss_one (ps_ret (pe_lst (pa_cons (pv 0) pa_nil))))
      pss_nil)
      (pss_cons (ps_set (i := 1) sc_listed.nd rfl (.inl rfl) (pe_lst pa_nil))
      (pss_cons (ps_for PassesOwn.never rfl (pi_tup (pe_ix ix_tup (pv 0) pe_int (fun _ _ => rfl))) (pg_name (i := 2) sc_listed.nd rfl (.inl rfl))
      (pss_one (ps_expr (pe_bm PySem.F.plainAttrs_list PySem.F.slot_list_extend PySem.F.type_list_extend mt_extend (pv 1) (pa_cons (pe_can c_listed hr (by omega) rfl (pa_cons (pv 2) pa_nil)) pa_nil)))))
      (pss_one (ps_ret (pv 1)))))), ?_⟩
    cases t with
    | thing i =>
      rw [treeAt_thing ht]
      refine ⟨_, rfl, _, _, rfl, isTh_thing, true, rfl, iteT ⟨_, rfl, (by show 1 ≤ sizeLine; decide), fun p hp => ?_⟩⟩
      exact q _ p (same_new hp) hp (by rw [upd_same, lv_thing]; rfl)
    | node b ps =>
      obtain ⟨a, p, us, rfl, h1, h2, h3⟩ := treeAt_node ht
      refine ⟨_, rfl, _, _, rfl, isTh_tup h1, false, rfl, iteF ?_⟩
      refine ⟨Nat.zero_le _, fun o no => ?_⟩
      refine ⟨_, rfl, a, _, 1, _, rfl, rfl, SqT.of ((same_new no) _ _ h1), rfl, p, rfl, ⟨_, SqT.of ((same_new no) _ _ h2)⟩, ?_⟩
      refine for_tup (xs := us) (fun i σ H' => ∃ y, σ = [some (.ref a), some (.ref o), y] ∧ Same H H' ∧ H' o = some (.lst ((lvs (ps.take i)).map V.int))) ⟨_, rfl, same_new no, upd_same⟩ ?_ ?_ ?_
      · rintro i σ H' hi ⟨y, rfl, sm, e⟩
        exact SqT.of (sm _ _ h2)
      · rintro i x σ H' hx ⟨y, rfl, sm, e⟩
        obtain ⟨t, ht1, ht2⟩ := All2.get' h3 hx
        have hm := List.mem_of_getElem? ht1
        have lt := F.lt hm
        refine ⟨_, rfl, .inl ⟨rfl, _, SqL.of e⟩, _, rfl, t, x, rfl, ht2.mono (sameT_of sm), F.parts t hm, by omega, by omega, fun H2 p2 s2 n2 e2 => ?_⟩
        have b1 := lvs_take_le ps i
        rw [lv_node] at lt hl
        refine ⟨o, p2, _, _, rfl, rfl, s2 _ _ e, e2, ?_, ?_⟩
        · rw [List.length_map, List.length_map]
          exact sl1000 (by omega)
        · refine ⟨some x, rfl, same_upd (sm.trans s2) no, ?_⟩
          rw [upd_same, lvs_take ht1, List.map_append]
      · rintro σ H' ⟨y, rfl, sm, e⟩
        refine ⟨_, rfl, ?_⟩
        rw [← h3.length, List.take_length] at e
        exact q H' o sm no (by rw [lv_node]; exact e)

abbrev s_least_thing : Stmt := topS 17
abbrev N_least_thing : List Str := ["tree"]
theorem sc_least_thing : FnScope N_least_thing ["tree"] (defScope s_least_thing) := ⟨rfl, rfl, rfl, by decide +kernel, rfl, by decide +kernel, by decide +kernel⟩
def sp_least_thing : Sp := fun vs H Q _ => ∃ (t : Tr) (v : V), vs = [v] ∧ TreeAt H t v ∧ Form t ∧ t.lv.length ≤ 24 ∧ ∀ H' : Hp, Same H H' → Q (.int t.least) H'
theorem ok_least_thing (D : Def K mg "least_thing" s_least_thing ["tree"]) (B : Bl mg) (c_listed : Can P w K mg base 26 "listed" ["tree"] (sp_listed 24)) : Can P w K mg base 27 "least_thing" ["tree"] sp_least_thing := by
  refine D.ok sc_least_thing (fun vs H Q E h => ?_) (fun f cdv A outer s H vs Q E hr h => ?_)
  · obtain ⟨t, v, rfl, _⟩ := h; rfl
  obtain ⟨t, v, rfl, ht, F, hl, q⟩ := h
  refine ⟨_, (pss_one (ps_ret (pe_callB (cr_min rfl) rfl B.min bv_min (pa_cons (pe_can c_listed hr (by omega) rfl (pa_cons (pv 0) pa_nil)) pa_nil)))), ?_⟩
  refine ⟨_, rfl, t, v, rfl, ht, F, hl, Nat.le_refl _, fun H2 p s2 np e => ?_⟩
  refine ⟨p, t.lv, rfl, SqL.of e, List.length_pos_iff.2 F.ne, fun m h1 h2 => ?_⟩
  rw [← show t.least = m from leastOf_eq h1 h2]
  exact q H2 s2

abbrev s_has_form : Stmt := topS 18
abbrev N_has_form : List Str := ["tree", "part"]
theorem sc_has_form : FnScope N_has_form ["tree"] (defScope s_has_form) := ⟨rfl, rfl, rfl, by decide +kernel, rfl, by decide +kernel, by decide +kernel⟩
def sp_has_form (n : Nat) : Sp := fun vs H Q _ => ∃ (t : Tr) (v : V), vs = [v] ∧ TreeAt H t v ∧ Form t ∧ t.lv.length ≤ n ∧ n ≤ 24 ∧ ∀ H' : Hp, Same H H' → Q (.bl true) H'
theorem wd_in (b : Bool) : inV (.str (wd b)) [.str "any", .str "row"] = true := by cases b <;> decide +kernel
theorem wd_row (b : Bool) : decide (V.str (wd b) = V.str "row") = b := by cases b <;> decide +kernel
theorem wd_any (b : Bool) : decide (V.str (wd b) = V.str "any") = !b := by cases b <;> decide +kernel
theorem flat_wds : ([.str "any", .str "row"] : List V).all flatV = true := by decide +kernel
theorem all_true : ∀ n : Nat, (List.replicate n true).all id = true
  | 0 => rfl
  | n + 1 => by rw [List.replicate_succ, List.all_cons, all_true n]; rfl
theorem ok_has_form (D : Def K mg "has_form" s_has_form ["tree"]) (B : Bl mg) {aW : Addr} (g_WORDS : mg "WORDS" = some (.ref aW)) (hW : ∀ H : Hp, SqT K H aW [.str "any", .str "row"]) (c_is_thing : Can P w K mg base 1 "is_thing" ["tree"] sp_is_thing) :
    ∀ n : Nat, Can P w K mg base (n + 2) "has_form" ["tree"] (sp_has_form n)
  | 0 => D.never _ fun vs H Q E ⟨t, v, _, _, F, h, _⟩ => F.ne (List.eq_nil_of_length_eq_zero (Nat.le_zero.1 h))
  | n + 1 => by
    have c_has_form := ok_has_form D B g_WORDS hW c_is_thing n
    refine D.ok sc_has_form (fun vs H Q E h => ?_) (fun f cdv A outer s H vs Q E hr h => ?_)
    · obtain ⟨t, v, rfl, _⟩ := h; rfl
    obtain ⟨t, v, rfl, ht, F, hl, h24, q⟩ := h
    refine ⟨_, (pss_cons (ps_if (pt_val (pe_can c_is_thing hr (by omega) rfl (pa_cons (pv 0) pa_nil)))
      (pss_one (ps_ret pe_bl))
      pss_nil)
      (pss_cons (ps_if (PW.pt (pw_or (pt_cmpR op_ne (pe_callB call_len_seq rfl B.len bv_len (pa_cons (pv 0) pa_nil)) pe_int (nomark _)) (pw_or (pt_cmpR op_notIn_seq (pe_ix ix_tup (pv 0) pe_int (fun _ _ => rfl)) (pe_glob (v := .ref aW) rfl g_WORDS rfl) rfl) (pw_or (pt_val (pe_can c_is_thing hr (by omega) rfl (pa_cons (pe_ix ix_tup (pv 0) pe_int (fun _ _ => rfl)) pa_nil))) (pw_or1 (pt_val (pe_callB call_isi rfl B.isinstance bv_isinstance (pa_cons (pe_ix ix_tup (pv 0) pe_int (fun _ _ => rfl)) (pa_cons (pe_bltn (v := .ty "str") rfl B.str bv_str rfl) pa_nil)))))))))
      (pss_one (ps_ret pe_bl))
      pss_nil)
      (pss_cons (ps_if (PW.pt (pw_or (pt_cmpR op_lt (pe_callB call_len_seq rfl B.len bv_len (pa_cons (pe_ix ix_tup (pv 0) pe_int (fun _ _ => rfl)) pa_nil)) pe_int (nomark _)) (pw_or1 (PW.pt (pw_and (pt_cmpR op_eq (pe_ix ix_tup (pv 0) pe_int (fun _ _ => rfl)) pe_str (nomark _)) (pw_and1 (pt_cmpR op_lt (pe_callB call_len_seq rfl B.len bv_len (pa_cons (pe_ix ix_tup (pv 0) pe_int (fun _ _ => rfl)) pa_nil)) pe_int (nomark _))))))))
      (pss_one (ps_ret pe_bl))
      pss_nil)
      (pss_one (ps_ret (pe_callB (cr_all rfl) rfl B.all bv_all (pa_cons (pe_lc (own := [("part", 1)]) (g := gName 1) rfl sc_has_form.nd (pi_tup (pe_ix ix_tup (pv 0) pe_int (fun _ _ => rfl))) (blkOk_by (own := [("part", 1)]) (N := N_has_form) (sc := defScope s_has_form) (by decide +kernel)) (fun _ _ _ _ _ => (pg_name (i := 1) sc_has_form.nd rfl (.inl rfl) (.inr rfl))) (fun _ _ _ _ _ => pts_nil) (fun _ _ _ _ _ => (pe_can c_has_form hr (by omega) rfl (pa_cons (pv 1) pa_nil)))) pa_nil))))))), ?_⟩
    cases t with
    | thing i =>
      rw [treeAt_thing ht]
      exact ⟨_, rfl, _, _, rfl, isTh_thing, true, rfl, iteT (q H (Same.refl H))⟩
    | node b ps =>
      obtain ⟨a, p, us, rfl, h1, h2, h3⟩ := treeAt_node ht
      have len := h3.length
      have two := F.two
      refine ⟨_, rfl, _, _, rfl, isTh_tup h1, false, rfl, iteF ?_⟩
      -- len(tree) != 2
      refine ⟨_, rfl, a, _, rfl, .inr (SqT.of h1), rfl, false, rfl, iteF ?_⟩
      -- tree[0] not in WORDS
      refine ⟨_, rfl, a, _, 0, _, rfl, rfl, SqT.of h1, rfl, aW, _, rfl, .inr (hW _), rfl, flat_wds, false, ?_, iteF ?_⟩
      · show V.bl (!inV (.str (wd b)) [.str "any", .str "row"]) = V.bl false
        rw [wd_in]; rfl
      -- is_thing(tree[1])
      refine ⟨_, rfl, a, _, 1, _, rfl, rfl, SqT.of h1, rfl, _, _, rfl, isTh_tup h2, false, rfl, iteF ?_⟩
      -- isinstance(tree[1], str)
      refine ⟨_, rfl, a, _, 1, _, rfl, rfl, SqT.of h1, rfl, _, _, _, _, false, rfl, .ty _, .base (.tup h2), kit_ty kit_ts, false, rfl, iteF ?_⟩
      -- len(tree[1]) < 2
      refine ⟨_, rfl, a, _, 1, _, rfl, rfl, SqT.of h1, rfl, p, _, rfl, .inr (SqT.of h2), _, _, rfl, rfl, false, bF (by omega), iteF ?_⟩
      -- tree[0] == "row" and len(tree[1]) < 3
      refine ⟨_, rfl, a, _, 0, _, rfl, rfl, SqT.of h1, rfl, rfl, b, congrArg V.bl (wd_row b), iteElse (iteF ?_) (fun c r => ?_)⟩
      · refine ⟨_, rfl, a, _, 1, _, rfl, rfl, SqT.of h1, rfl, p, rfl, ⟨_, SqT.of h2⟩, fun D nD => ?_⟩
        refine lc_tup (xs := us) (fun i H' => Same H H' ∧ H' D = some (.lst ((List.replicate i true).map V.bl))) ⟨same_new nD, upd_same⟩ ?_ ?_ ?_
        · rintro i H' hi ⟨sm, e⟩
          exact SqT.of (sm _ _ h2)
        · rintro i x H' hx ⟨sm, e⟩
          obtain ⟨t, ht1, ht2⟩ := All2.get' h3 hx
          have hm := List.mem_of_getElem? ht1
          have lt := F.lt hm
          have hi := (List.getElem?_eq_some_iff.1 ht1).1
          have lp := lvs_len F.parts
          rw [← lv_node b] at lp
          refine ⟨rfl, _, rfl, t, x, rfl, ht2.mono (sameT_of sm), F.parts t hm, by omega, by omega, fun H4 s4 => ⟨_, s4 _ _ e, ?_, same_upd (sm.trans s4) nD, ?_⟩⟩
          · rw [List.length_map, List.length_replicate]; exact small1000 (by omega)
          · rw [upd_same, List.replicate_succ', List.map_append]; rfl
        · rintro H' ⟨sm, e⟩
          refine ⟨D, _, rfl, SqL.of e, ?_⟩
          have z := q H' sm
          rw [← all_true us.length] at z
          exact z
      · have three : 3 ≤ ps.length := by subst c; exact F.three
        exact ⟨_, rfl, a, _, 1, _, rfl, rfl, SqT.of h1, rfl, p, _, rfl, .inr (SqT.of h2), _, _, rfl, rfl, false, bF (by omega), r⟩

abbrev s_check_tree : Stmt := topS 19
abbrev N_check_tree : List Str := ["n", "tree"]
theorem sc_check_tree : FnScope N_check_tree ["n", "tree"] (defScope s_check_tree) := ⟨rfl, rfl, rfl, by decide +kernel, rfl, by decide +kernel, by decide +kernel⟩
/-- a tree over n things -/
structure Over (n : Nat) (t : Tr) : Prop where
  form : Form t
  perm : t.lv.Perm ((List.range n).map Int.ofNat)
  le : n ≤ 24
theorem Over.len {n : Nat} {t : Tr} (h : Over n t) : t.lv.length = n := by rw [h.perm.length_eq, List.length_map, List.length_range]
theorem Over.pos {n : Nat} {t : Tr} (h : Over n t) : 1 ≤ n := by rw [← h.len]; exact List.length_pos_iff.2 h.form.ne
theorem nodup_range (n : Nat) : ((List.range n).map Int.ofNat).Nodup := List.Pairwise.map _ (fun a b h e => h (Int.ofNat.inj e)) List.nodup_range
theorem Over.nodup {n : Nat} {t : Tr} (h : Over n t) : t.lv.Nodup := h.perm.nodup_iff.2 (nodup_range n)
theorem range_sorted (n : Nat) : ((List.range n).map Int.ofNat).Pairwise (· ≤ ·) := List.pairwise_map.2 (List.pairwise_lt_range.imp fun h => Int.ofNat_le.2 (Nat.le_of_lt h))
theorem sorted_one {l l' : List Int} (p : l.Perm l') (h : l.Pairwise (· ≤ ·)) (h' : l'.Pairwise (· ≤ ·)) : l = l' := p.eq_of_pairwise (le := fun a b => a ≤ b) (fun a b _ _ h1 h2 => Int.le_antisymm h1 h2) h h'
theorem rgV_eq (n : Nat) : rgV 0 (n : Int) = ((List.range n).map Int.ofNat).map V.int := by
  unfold rgV
  simp
def sp_check_tree : Sp := fun vs H Q _ => ∃ (n : Nat) (t : Tr) (v : V), vs = [.int n, v] ∧ TreeAt H t v ∧ Over n t ∧ ∀ H' : Hp, Same H H' → Q v H'
theorem ok_check_tree (D : Def K mg "check_tree" s_check_tree ["n", "tree"]) (B : Bl mg) (c_is_size : Can P w K mg base 1 "is_size" ["n"] sp_is_size) (c_has_form : Can P w K mg base 26 "has_form" ["tree"] (sp_has_form 24)) (c_listed : Can P w K mg base 26 "listed" ["tree"] (sp_listed 24)) :
    Can P w K mg base 27 "check_tree" ["n", "tree"] sp_check_tree := by
  refine D.ok sc_check_tree (fun vs H Q E h => ?_) (fun f cdv A outer s H vs Q E hr h => ?_)
  · obtain ⟨n, t, v, rfl, _⟩ := h; rfl
  obtain ⟨n, t, v, rfl, ht, O, q⟩ := h
  have n1 := O.pos
  have n2 := O.le
  refine ⟨_, (pss_cons (ps_if (PW.pt (pw_or (pt_not (pt_val (pe_can c_is_size hr (by omega) rfl (pa_cons (pv 0) pa_nil)))) (pw_or (pt_not (pt_val (pe_can c_has_form hr (by omega) rfl (pa_cons (pv 1) pa_nil)))) (pw_or1 (pt_cmpR (op_neD hr.units) (pe_callB cr_sortedI rfl B.sorted bv_sorted (pa_cons (pe_can c_listed hr (by omega) rfl (pa_cons (pv 1) pa_nil)) pa_nil)) (pe_listRg rfl rfl B.list (prg_1 rfl B.range (pv 0))) (nomark _))))))
      (pss_one ps_never)
      pss_nil)
      (pss_one (ps_ret (pv 1)))), ?_⟩
  refine ⟨_, rfl, n, rfl, by omega, by omega, true, rfl, iteF ?_⟩
  refine ⟨_, rfl, t, v, rfl, ht, O.form, by rw [O.len]; exact n2, Nat.le_refl _, fun H1 s1 => ⟨true, rfl, iteF ?_⟩⟩
  refine ⟨_, rfl, t, v, rfl, ht.mono (sameT_of s1), O.form, by rw [O.len]; exact n2, Nat.le_refl _, fun H2 p s2 np e => ?_⟩
  refine ⟨p, t.lv, rfl, SqL.of e, fun ns' p2 pm pw np2 => ?_⟩
  refine ⟨_, rfl, _, rfl, ?_, fun p3 np3 => ?_⟩
  · exact RgOk.of_le (by omega) (by omega) (by omega) (by omega)
  have e1 : ns' = (List.range n).map Int.ofNat := sorted_one (pm.trans O.perm) pw (range_sorted n)
  refine ne_lists (ns := ns') (ms := (List.range n).map Int.ofNat) ?_ ?_ ?_
  · exact SqL.of ((same_new np3) _ _ upd_same)
  · rw [rgV_eq]; exact SqL.of upd_same
  · refine ⟨false, bNT e1, iteF ⟨_, rfl, q _ (((s1.trans s2).trans (same_new np2)).trans (same_new np3))⟩⟩

abbrev s_need_tree : Stmt := topS 20
abbrev N_need_tree : List Str := ["tree"]
theorem sc_need_tree : FnScope N_need_tree ["tree"] (defScope s_need_tree) := ⟨rfl, rfl, rfl, by decide +kernel, rfl, by decide +kernel, by decide +kernel⟩
def sp_need_tree : Sp := fun vs H Q _ => ∃ (n : Nat) (t : Tr) (v : V), vs = [v] ∧ TreeAt H t v ∧ Over n t ∧ ∀ H' : Hp, Same H H' → Q .non H'
theorem ok_need_tree (D : Def K mg "need_tree" s_need_tree ["tree"]) (B : Bl mg) (c_has_form : Can P w K mg base 26 "has_form" ["tree"] (sp_has_form 24)) (c_listed : Can P w K mg base 26 "listed" ["tree"] (sp_listed 24)) (c_check_tree : Can P w K mg base 27 "check_tree" ["n", "tree"] sp_check_tree) :
    Can P w K mg base 28 "need_tree" ["tree"] sp_need_tree := by
  refine D.ok sc_need_tree (fun vs H Q E h => ?_) (fun f cdv A outer s H vs Q E hr h => ?_)
  · obtain ⟨n, t, v, rfl, _⟩ := h; rfl
  obtain ⟨n, t, v, rfl, ht, O, q⟩ := h
  have n2 := O.le
  refine ⟨_, (pss_cons (ps_if (pt_not (pt_val (pe_can c_has_form hr (by omega) rfl (pa_cons (pv 0) pa_nil))))
      (pss_one ps_never)
      pss_nil)
      (pss_one (ps_expr (pe_can c_check_tree hr (by omega) rfl (pa_cons (pe_callB call_len_seq rfl B.len bv_len (pa_cons (pe_can c_listed hr (by omega) rfl (pa_cons (pv 0) pa_nil)) pa_nil)) (pa_cons (pv 0) pa_nil)))))), ?_⟩
  refine ⟨_, rfl, t, v, rfl, ht, O.form, by rw [O.len]; exact n2, Nat.le_refl _, fun H1 s1 => ⟨true, rfl, iteF ?_⟩⟩
  refine ⟨_, rfl, t, v, rfl, ht.mono (sameT_of s1), O.form, by rw [O.len]; exact n2, Nat.le_refl _, fun H2 p s2 np e => ?_⟩
  refine ⟨p, _, rfl, .inl (SqL.of e), _, rfl, n, t, v, ?_, ht.mono (sameT_of (s1.trans s2)), O, fun H3 s3 => ?_⟩
  · rw [List.length_map, O.len]; rfl
  · exact q H3 ((s1.trans s2).trans s3)

abbrev s_things_of : Stmt := topS 21
abbrev N_things_of : List Str := ["tree", "found"]
theorem sc_things_of : FnScope N_things_of ["tree"] (defScope s_things_of) := ⟨rfl, rfl, rfl, by decide +kernel, rfl, by decide +kernel, by decide +kernel⟩
def sp_things_of : Sp := fun vs H Q _ => ∃ (n : Nat) (t : Tr) (v : V), vs = [v] ∧ TreeAt H t v ∧ Over n t ∧ ∀ (H' : Hp) (u : V), Same H H' → Q u H'
theorem ok_things_of (D : Def K mg "things_of" s_things_of ["tree"]) (B : Bl mg) (c_has_form : Can P w K mg base 26 "has_form" ["tree"] (sp_has_form 24)) (c_listed : Can P w K mg base 26 "listed" ["tree"] (sp_listed 24)) :
    Can P w K mg base 27 "things_of" ["tree"] sp_things_of := by
  refine D.ok sc_things_of (fun vs H Q E h => ?_) (fun f cdv A outer s H vs Q E hr h => ?_)
  · obtain ⟨n, t, v, rfl, _⟩ := h; rfl
  obtain ⟨n, t, v, rfl, ht, O, q⟩ := h
  have n1 := O.pos
  have n2 := O.le
  refine ⟨_, (pss_cons (ps_if (pt_not (pt_val (pe_can c_has_form hr (by omega) rfl (pa_cons (pv 0) pa_nil))))
      (pss_one ps_never)
      pss_nil)
      (pss_cons (ps_set (i := 1) sc_things_of.nd rfl (.inl rfl) (pe_callTy call_tuple_of rfl B.tuple bv_tuple (pa_cons (pe_callB cr_sortedI rfl B.sorted bv_sorted (pa_cons (pe_can c_listed hr (by omega) rfl (pa_cons (pv 0) pa_nil)) pa_nil)) pa_nil)))
      (pss_cons (ps_if (PW.pt (pw_or (pt_cmpR op_lt (pe_ix ix_tup (pv 1) pe_int (fun _ _ => rfl)) pe_int (nomark _)) (pw_or1 (pt_cmpR op_lt (pe_lenSetT rfl rfl B.len rfl B.set (pv 1)) (pe_callB call_len_seq rfl B.len bv_len (pa_cons (pv 1) pa_nil)) (nomark _)))))
      (pss_one ps_never)
      pss_nil)
      (pss_one (ps_ret (pv 1)))))), ?_⟩
  refine ⟨_, rfl, t, v, rfl, ht, O.form, by rw [O.len]; exact n2, Nat.le_refl _, fun H1 s1 => ⟨true, rfl, iteF ?_⟩⟩
  refine ⟨_, rfl, t, v, rfl, ht.mono (sameT_of s1), O.form, by rw [O.len]; exact n2, Nat.le_refl _, fun H2 p s2 np e => ?_⟩
  refine ⟨p, t.lv, rfl, SqL.of e, fun ns' p2 pm pw np2 => ?_⟩
  have e1 : ns' = (List.range n).map Int.ofNat := sorted_one (pm.trans O.perm) pw (range_sorted n)
  subst e1
  refine ⟨p2, _, rfl, .inl ⟨SqL.of upd_same, fun p3 np3 => ?_⟩⟩
  have sm := fun o => ((s1.trans s2).trans (same_new np2)).trans (same_new (o := o) np3)
  have nd := nodup_range n
  have len : (List.map Int.ofNat (List.range n)).length = n := by rw [List.length_map, List.length_range]
  have a0 : atI (((List.range n).map Int.ofNat).map V.int) 0 = some (.int 0) := atI_nat (j := 0) (by
    rw [List.getElem?_map, List.getElem?_map, List.getElem?_range (by omega)]; rfl)
  refine ⟨_, rfl, p3, _, 0, _, rfl, rfl, SqT.of upd_same, a0, _, _, rfl, rfl, false, bF (by decide), iteF ?_⟩
  refine ⟨_, rfl, p3, _, rfl, SqT.of upd_same, by omega, nd, _, rfl, p3, _, rfl, .inr (SqT.of upd_same), _, _, rfl, rfl, false, bF (by rw [List.length_map (f := V.int)]; omega), iteF ?_⟩
  exact ⟨_, rfl, q _ _ (sm _)⟩

abbrev s_make_any : Stmt := topS 22
abbrev N_make_any : List Str := ["parts"]
theorem sc_make_any : FnScope N_make_any ["parts"] (defScope s_make_any) := ⟨rfl, rfl, rfl, by decide +kernel, rfl, by decide +kernel, by decide +kernel⟩
def sp_make_any : Sp := fun vs H Q _ => ∃ (a : Addr) (us : List V) (ps : List Tr), vs = [.ref a] ∧ H a = some (.lst us) ∧ TreesAt H ps us ∧ ps ≠ [] ∧ ∀ (H' : Hp) (v : V), Same H H' → TreeAt H' (mkAny ps) v → Q v H'
theorem ok_make_any (D : Def K mg "make_any" s_make_any ["parts"]) (B : Bl mg) : Can P w K mg base 1 "make_any" ["parts"] sp_make_any := by
  refine D.ok sc_make_any (fun vs H Q E h => ?_) (fun f cdv A outer s H vs Q E hr h => ?_)
  · obtain ⟨a, us, ps, rfl, _⟩ := h; rfl
  obtain ⟨a, us, ps, rfl, ha, hp, ne, q⟩ := h
  refine ⟨_, (pss_cons (ps_if (pt_cmpR op_eq (pe_callB call_len_seq rfl B.len bv_len (pa_cons (pv 0) pa_nil)) pe_int (nomark _))
      (pss_one (ps_ret (pe_ix ix_list (pv 0) pe_int (fun _ _ => rfl))))
      pss_nil)
      (pss_one (ps_ret (pe_tup (pa_cons pe_str (pa_cons (pe_callTy call_tuple_of rfl B.tuple bv_tuple (pa_cons (pv 0) pa_nil)) pa_nil)))))), ?_⟩
  have len := hp.length
  refine ⟨_, rfl, a, _, rfl, .inl (SqL.of ha), rfl, _, rfl, ite2 (fun c => ?_) (fun c => ?_)⟩
  · have c' : (us.length : Int) = 1 := V.int.inj (of_decide_eq_true c)
    match ps, us, hp with
    | [t], [v], .cons r .nil => exact ⟨_, rfl, a, _, 0, v, rfl, rfl, SqL.of ha, rfl, q H v (Same.refl H) r⟩
    | [], _, _ => exact absurd rfl ne
    | _ :: _ :: _, _ :: _ :: _, _ => rw [List.length_cons, List.length_cons] at c'; omega
  · have c' : ¬ (us.length : Int) = 1 := fun z => of_decide_eq_false (Bool.eq_false_iff.2 c) (congrArg V.int z)
    have two : 2 ≤ ps.length := by
      have := List.length_pos_iff.2 ne
      omega
    refine ⟨_, rfl, a, us, rfl, .inl ⟨SqL.of ha, fun l hl => ⟨(by show 2 ≤ sizeLine; decide), fun p hp2 => ?_⟩⟩⟩
    have s2 := (same_new (o := .tup us) hl).trans (same_new (o := .tup [.str "any", .ref l]) hp2)
    refine q _ _ s2 ?_
    rw [mkAny_two two]
    exact .node (b := false) upd_same ((same_new hp2) _ _ upd_same) (hp.mono (sameT_of s2))

abbrev s_make_row : Stmt := topS 23
abbrev N_make_row : List Str := ["parts"]
theorem sc_make_row : FnScope N_make_row ["parts"] (defScope s_make_row) := ⟨rfl, rfl, rfl, by decide +kernel, rfl, by decide +kernel, by decide +kernel⟩
def sp_make_row : Sp := fun vs H Q _ => ∃ (a : Addr) (us : List V) (ps : List Tr), vs = [.ref a] ∧ H a = some (.lst us) ∧ TreesAt H ps us ∧ ps ≠ [] ∧ ∀ (H' : Hp) (v : V), Same H H' → TreeAt H' (mkRow ps) v → Q v H'
theorem ok_make_row (D : Def K mg "make_row" s_make_row ["parts"]) (B : Bl mg) (c_make_any : Can P w K mg base 1 "make_any" ["parts"] sp_make_any) : Can P w K mg base 2 "make_row" ["parts"] sp_make_row := by
  refine D.ok sc_make_row (fun vs H Q E h => ?_) (fun f cdv A outer s H vs Q E hr h => ?_)
  · obtain ⟨a, us, ps, rfl, _⟩ := h; rfl
  obtain ⟨a, us, ps, rfl, ha, hp, ne, q⟩ := h
  refine ⟨_, (pss_cons (ps_if (pt_cmpR op_lt (pe_callB call_len_seq rfl B.len bv_len (pa_cons (pv 0) pa_nil)) pe_int (nomark _))
      (pss_one (ps_ret (pe_can c_make_any hr (by omega) rfl (pa_cons (pv 0) pa_nil))))
      pss_nil)
      (pss_one (ps_ret (pe_tup (pa_cons pe_str (pa_cons (pe_callTy call_tuple_of rfl B.tuple bv_tuple (pa_cons (pv 0) pa_nil)) pa_nil)))))), ?_⟩
  have len := hp.length
  refine ⟨_, rfl, a, _, rfl, .inl (SqL.of ha), _, _, rfl, rfl, _, rfl, ite2 (fun c => ?_) (fun c => ?_)⟩
  · have c' : (us.length : Int) < 3 := of_decide_eq_true c
    refine ⟨_, rfl, a, us, ps, rfl, ha, hp, ne, fun H1 v s1 h1 => q H1 v s1 ?_⟩
    unfold mkRow
    rw [if_pos (by omega)]
    exact h1
  · have c' : ¬ (us.length : Int) < 3 := of_decide_eq_false (Bool.eq_false_iff.2 c)
    refine ⟨_, rfl, a, us, rfl, .inl ⟨SqL.of ha, fun l hl => ⟨(by show 2 ≤ sizeLine; decide), fun p hp2 => ?_⟩⟩⟩
    have s2 := (same_new (o := .tup us) hl).trans (same_new (o := .tup [.str "row", .ref l]) hp2)
    refine q _ _ s2 ?_
    unfold mkRow
    rw [if_neg (by omega)]
    exact .node (b := true) upd_same ((same_new hp2) _ _ upd_same) (hp.mono (sameT_of s2))
end
end K13

/-! K13 W3: the walk: the normal form. -/
namespace K13
open PySem PySem.Spec PyProof.Rows L2
/-! ### mathematics: parts picked by sorted pairs -/
def partAt (ps : List Tr) (i : Nat) : Tr := ps.getD i (.thing 0)
theorem partAt_of {ps : List Tr} {i : Nat} {t : Tr} (h : ps[i]? = some t) : partAt ps i = t := by
  unfold partAt; rw [List.getD_eq_getElem?_getD, h]; rfl
def keysOf (ps : List Tr) : List (Int × Int) := (List.range ps.length).map fun i => ((partAt ps i).least, (i : Int))
def pickT (ps : List Tr) (p : Int × Int) : Tr := partAt ps p.2.toNat
theorem keys_get {ps : List Tr} {i : Nat} {t : Tr} (h : ps[i]? = some t) : (keysOf ps)[i]? = some (t.least, (i : Int)) := by
  have hi := (List.getElem?_eq_some_iff.1 h).1
  unfold keysOf
  rw [List.getElem?_map, List.getElem?_range hi]
  show some ((partAt ps i).least, (i : Int)) = _
  rw [partAt_of h]
theorem keys_pick (ps : List Tr) : (keysOf ps).map (pickT ps) = ps := by
  refine List.ext_getElem? fun i => ?_
  rw [List.getElem?_map]
  by_cases hi : i < ps.length
  · have h := List.getElem?_eq_getElem hi
    rw [keys_get h, h]
    show some (partAt ps ((i : Int)).toNat) = _
    rw [Int.toNat_natCast, partAt_of h]
  · have h := List.getElem?_eq_none (l := ps) (i := i) (by omega)
    rw [h, List.getElem?_eq_none (by unfold keysOf; rw [List.length_map, List.length_range]; omega)]
    rfl
theorem keys_least {ps : List Tr} {p : Int × Int} (h : p ∈ keysOf ps) : (pickT ps p).least = p.1 := by
  obtain ⟨i, _, rfl⟩ := List.mem_map.1 h
  show (partAt ps ((i : Int)).toNat).least = (partAt ps i).least
  rw [Int.toNat_natCast]
theorem keys_lt {ps : List Tr} {p : Int × Int} (h : p ∈ keysOf ps) : ∃ i : Nat, p.2 = (i : Int) ∧ ps[i]? = some (pickT ps p) := by
  obtain ⟨i, hi, rfl⟩ := List.mem_map.1 h
  have hi := List.mem_range.1 hi
  refine ⟨i, rfl, ?_⟩
  show ps[i]? = some (partAt ps ((i : Int)).toNat)
  rw [Int.toNat_natCast, List.getElem?_eq_getElem hi, partAt_of (List.getElem?_eq_getElem hi)]
theorem least_ne {x y : Tr} {l m r : List Tr} (Fx : Form x) (Fy : Form y) (nd : (lvs (l ++ x :: (m ++ y :: r))).Nodup) : x.least ≠ y.least := by
  intro e
  rw [lvs_append, lvs_cons, lvs_append, lvs_cons] at nd
  have nd2 := (List.nodup_append.1 nd).2.1
  refine (List.nodup_append.1 nd2).2.2 x.least (least_mem Fx) y.least ?_ e
  exact List.mem_append_right _ (List.mem_append_left _ (least_mem Fy))
theorem leasts_ne : ∀ {ps : List Tr}, (∀ p ∈ ps, Form p) → (lvs ps).Nodup → ps.Pairwise fun a b => a.least ≠ b.least
  | [], _, _ => .nil
  | p :: r, F, nd => by
    refine List.pairwise_cons.2 ⟨fun q hq => ?_, leasts_ne (fun q hq => F q (List.mem_cons_of_mem _ hq)) (by rw [lvs_cons, List.nodup_append] at nd; exact nd.2.1)⟩
    obtain ⟨m, z, rfl⟩ := List.append_of_mem hq
    exact least_ne (l := []) (F p List.mem_cons_self) (F q (by simp)) nd
theorem pick_sorted {ps : List Tr} {ks : List (Int × Int)} (F : ∀ p ∈ ps, Form p) (nd : (lvs ps).Nodup) (pm : ks.Perm (keysOf ps)) (hs : ks.Pairwise fun p q => ¬ (q.1 < p.1 ∨ (q.1 = p.1 ∧ q.2 < p.2))) :
    (ks.map (pickT ps)).Perm ps ∧ (ks.map (pickT ps)).Pairwise fun a b => a.least < b.least := by
  have p2 : (ks.map (pickT ps)).Perm ps := by
    have := pm.map (pickT ps)
    rw [keys_pick] at this
    exact this
  refine ⟨p2, ?_⟩
  have ne : (ks.map (pickT ps)).Pairwise fun a b => a.least ≠ b.least := (p2.pairwise_iff fun h e => h e.symm).2 (leasts_ne F nd)
  rw [List.pairwise_map] at ne ⊢
  refine (hs.and ne).imp_of_mem fun {p q} hp hq h => ?_
  have e1 := keys_least (pm.mem_iff.1 hp)
  have e2 := keys_least (pm.mem_iff.1 hq)
  have h1 := h.1
  have h2 := h.2
  rw [e1, e2] at h2 ⊢
  omega
theorem norm_lvs {ps qs : List Tr} (h : All2 NormOf ps qs) : (lvs qs).Perm (lvs ps) := by
  induction h with
  | nil => exact .nil
  | cons a _ ih => rw [lvs_cons, lvs_cons]; exact a.lv.append ih
theorem norm_forms {ps qs : List Tr} (h : All2 NormOf ps qs) : ∀ q ∈ qs, Form q := fun q hq => by
  obtain ⟨p, _, r⟩ := h.right q hq
  exact r.form
/-! ### comprehensions -/
/-- over enumerate of a list -/
theorem lc_enum {K : PySem.W.Frag} {a : Addr} {xs : List V} {g : TG} {tt : TT} {te : TE} {vs : List Nat} {σ : L2.St} {H1 : Hp} {D : Addr} {Qd : Hp → Prop} (Pv : Nat → Hp → Prop) (h0 : Pv 0 (upd H1 D (.lst []))) (hl : ∀ i H, i ≤ xs.length → Pv i H → SqL K H a xs)
    (hs : ∀ i x H T, xs[i]? = some x → Pv i H → H T = none → g (.ref T) (wipe σ vs) (upd H T (.tup [.int (i : Nat), x])) fun σ2 H2 => wipe σ2 vs = wipe σ vs ∧ tt σ2 H2 fun b H3 =>
      if b = true then te σ2 H3 fun y H4 => ∃ acc, H4 D = some (.lst acc) ∧ acc.length < sizeLine ∧ Pv (i + 1) (upd H4 D (.lst (acc ++ [y]))) else Pv (i + 1) H3) (hd : ∀ H, Pv xs.length H → Qd H) :
    ∃ W : Nat → Nat → Hp → Prop, (∃ m, W 0 m (upd H1 D (.lst []))) ∧ ∀ i m H, W i m H →
      ((Ite K a).stop i H ∧ Qd H) ∨ ((Ite K a).go i H ∧ ∃ Nx : Hp → Prop, (∀ H', Nx H' → ∃ m', m' < m ∧ W (i + 1) m' H') ∧ ∀ x H', (Ite K a).yld i H x H' → g x (wipe σ vs) H' fun σ2 H2 => wipe σ2 vs = wipe σ vs ∧ tt σ2 H2 fun b H3 =>
        if b = true then te σ2 H3 fun y H4 => ∃ acc, H4 D = some (.lst acc) ∧ acc.length < sizeLine ∧ Nx (upd H4 D (.lst (acc ++ [y]))) else Nx H3) := by
  refine ⟨fun i m H => m = xs.length - i ∧ i ≤ xs.length ∧ Pv i H, ⟨xs.length, by simp, Nat.zero_le _, h0⟩, ?_⟩
  rintro i m H ⟨rfl, hi, p⟩
  have q := hl i H hi p
  by_cases hlt : i < xs.length
  · refine .inr ⟨⟨xs, xs[i], q, by simp [hlt]⟩, Pv (i + 1), fun H' p' => ⟨xs.length - (i + 1), by omega, rfl, hlt, p'⟩, fun x H' y => ?_⟩
    obtain ⟨T, z, rfl, nT, rfl, y⟩ := y
    exact hs i z H T (y xs q) p nT
  · have e : i = xs.length := by omega
    subst e
    exact .inl ⟨⟨xs, q, Nat.le_refl _⟩, hd H p⟩
/-- a tree is put behind a list of trees -/
theorem trees_push {H H4 : Hp} {D : Addr} {acc : List V} {ps : List Tr} {t : Tr} {y : V} (h : TreesAt H ps acc) (s : SameT H H4) (ht : TreeAt H4 t y) (e : H4 D = some (.lst acc)) : TreesAt (upd H4 D (.lst (acc ++ [y]))) (ps ++ [t]) (acc ++ [y]) :=
  All2.app ((h.mono s).mono (sameT_lst e)) (.cons (ht.mono (sameT_lst e)) .nil)
theorem take_next {α : Type} {ps : List α} {i : Nat} {t : α} (h : ps[i]? = some t) : ps.take (i + 1) = ps.take i ++ [t] := by
  rw [List.take_add_one, h]; rfl
theorem All2.snoc {α β : Type} {R : α → β → Prop} {as : List α} {bs : List β} {a : α} {b : β} (h : All2 R as bs) (r : R a b) : All2 R (as ++ [a]) (bs ++ [b]) := h.app (.cons r .nil)
/-- the pair of ints that a reference to a tuple holds -/
def pairIn (H : Hp) (v : V) : Int × Int := match v with
  | .ref t => match H t with
    | some (.tup [.int i, .int j]) => (i, j)
    | _ => (0, 0)
  | _ => (0, 0)
theorem pairIn_of {H : Hp} {t : Addr} {i j : Int} (h : H t = some (.tup [.int i, .int j])) : pairIn H (.ref t) = (i, j) := by
  unfold pairIn; simp only [h]
def PairsAt (H : Hp) (ks : List (Int × Int)) (xs : List V) : Prop := All2 (fun p x => ∃ t, x = V.ref t ∧ H t = some (.tup [.int p.1, .int p.2])) ks xs
theorem PairsAt.mono {H H' : Hp} (s : SameT H H') {ks : List (Int × Int)} {xs : List V} (h : PairsAt H ks xs) : PairsAt H' ks xs := All2.mono (fun _ _ ⟨t, e, k⟩ => ⟨t, e, s _ _ k⟩) h
theorem PairsAt.keys {H : Hp} {ks : List (Int × Int)} {xs : List V} (h : PairsAt H ks xs) : xs.map (pairIn H) = ks := by
  induction h with
  | nil => rfl
  | cons r _ ih =>
    obtain ⟨t, rfl, k⟩ := r
    rw [List.map_cons, ih, pairIn_of k]
section
variable {P : Program} {w : World} {K : Fg} {mg : Str → Option Value} {base : Heap}
abbrev s_normalized : Stmt := topS 24
abbrev N_normalized : List Str := ["tree", "parts", "order", "part", "index", "_"]
theorem sc_normalized : FnScope N_normalized ["tree"] (defScope s_normalized) := ⟨rfl, rfl, rfl, by decide +kernel, rfl, by decide +kernel, by decide +kernel⟩
def sp_normalized (n : Nat) : Sp := fun vs H Q _ => ∃ (t : Tr) (v : V), vs = [v] ∧ TreeAt H t v ∧ Form t ∧ t.lv.Nodup ∧ t.lv.length ≤ n ∧ n ≤ 24 ∧ ∀ (H' : Hp) (t' : Tr) (v' : V), Same H H' → TreeAt H' t' v' → NormOf t t' → Q v' H'
theorem ok_normalized (D : Def K mg "normalized" s_normalized ["tree"]) (B : Bl mg) (c_is_thing : Can P w K mg base 1 "is_thing" ["tree"] sp_is_thing) (c_least_thing : Can P w K mg base 27 "least_thing" ["tree"] sp_least_thing) :
    ∀ n : Nat, Can P w K mg base (n + 28) "normalized" ["tree"] (sp_normalized n)
  | 0 => D.never _ fun vs H Q E ⟨t, v, _, _, F, _, h, _⟩ => F.ne (List.eq_nil_of_length_eq_zero (Nat.le_zero.1 h))
  | n + 1 => by
    have c_normalized := ok_normalized D B c_is_thing c_least_thing n
    refine D.ok sc_normalized (fun vs H Q E h => ?_) (fun f cdv A outer s H vs Q E hr h => ?_)
    · obtain ⟨t, v, rfl, _⟩ := h; rfl
    obtain ⟨t, v, rfl, ht, F, nd, hl, h24, q⟩ := h
    refine ⟨_, (pss_cons (ps_if (pt_val (pe_can c_is_thing hr (by omega) rfl (pa_cons (pv 0) pa_nil)))
      (pss_one (ps_ret (pv 0)))
      pss_nil)
      (pss_cons (ps_set (i := 1) sc_normalized.nd rfl (.inr rfl) (pe_lc (own := [("part", 3)]) (g := gName 3) rfl sc_normalized.nd (pi_tup (pe_ix ix_tup (pv 0) pe_int (fun _ _ => rfl))) (blkOk_by (own := [("part", 3)]) (N := N_normalized) (sc := defScope s_normalized) (by decide +kernel)) (fun _ _ _ _ _ => (pg_name (i := 3) sc_normalized.nd rfl (.inl rfl) (.inr rfl))) (fun _ _ _ _ _ => pts_nil) (fun _ _ _ _ _ => (pe_can c_normalized hr (by omega) rfl (pa_cons (pv 3) pa_nil)))))
      (pss_cons (ps_if (pt_cmpR op_eq (pe_ix ix_tup (pv 0) pe_int (fun _ _ => rfl)) pe_str (nomark _))
      (pss_cons (ps_set (i := 2) sc_normalized.nd rfl (.inl rfl) (pe_callB cr_sortedPO rfl B.sorted bv_sorted (pa_cons (pe_lc (own := [("index", 4), ("part", 3)]) rfl sc_normalized.nd (pi_enum rfl B.enumerate (pa_cons (pv 1) pa_nil)) (blkOk_by (own := [("index", 4), ("part", 3)]) (N := N_normalized) (sc := defScope s_normalized) (by decide +kernel)) (fun _ _ _ _ _ => (pg_tupK K 2 rfl (pgs_cons (pg_name (i := 4) sc_normalized.nd rfl (.inl rfl) (.inr rfl)) (pgs_cons (pg_name (i := 3) sc_normalized.nd rfl (.inl rfl) (.inr rfl)) pgs_nil)))) (fun _ _ _ _ _ => pts_nil) (fun _ _ _ _ _ => (pe_tup (pa_cons (pe_can c_least_thing hr (by omega) rfl (pa_cons (pv 3) pa_nil)) (pa_cons (pv 4) pa_nil))))) pa_nil)))
      (pss_one (ps_ret (pe_tup (pa_cons pe_str (pa_cons (pe_callTy call_tuple_of rfl B.tuple bv_tuple (pa_cons (pe_lc (own := [("_", 5), ("index", 4)]) rfl sc_normalized.nd (pi_list (pv 2)) (blkOk_by (own := [("_", 5), ("index", 4)]) (N := N_normalized) (sc := defScope s_normalized) (by decide +kernel)) (fun _ _ _ _ _ => (pg_tupK K 2 rfl (pgs_cons (pg_name (i := 5) sc_normalized.nd rfl (.inl rfl) (.inr rfl)) (pgs_cons (pg_name (i := 4) sc_normalized.nd rfl (.inl rfl) (.inr rfl)) pgs_nil)))) (fun _ _ _ _ _ => pts_nil) (fun _ _ _ _ _ => (pe_ix (ix_listK K) (pv 1) (pv 4) (fun _ _ => rfl)))) pa_nil)) pa_nil))))))
      pss_nil)
      (pss_cons (ps_if (pt_cmpR op_gt (pe_can c_least_thing hr (by omega) rfl (pa_cons (pe_ix ix_list (pv 1) pe_int (fun _ _ => rfl)) pa_nil)) (pe_can c_least_thing hr (by omega) rfl (pa_cons (pe_ix ix_list (pv 1) (pe_un un_neg pe_int) (fun _ _ => rfl)) pa_nil)) (nomark _))
      (pss_one (ps_set (i := 1) sc_normalized.nd rfl (.inr rfl) (pe_revL (pv 1))))
      pss_nil)
      (pss_one (ps_ret (pe_tup (pa_cons pe_str (pa_cons (pe_callTy call_tuple_of rfl B.tuple bv_tuple (pa_cons (pv 1) pa_nil)) pa_nil))))))))), ?_⟩
    cases t with
    | thing i =>
      rw [treeAt_thing ht]
      exact ⟨_, rfl, _, _, rfl, isTh_thing, true, rfl, iteT ⟨_, rfl, q H _ _ (Same.refl H) (.thing i) (norm_thing i)⟩⟩
    | node b ps =>
      obtain ⟨a, p, us, rfl, h1, h2, h3⟩ := treeAt_node ht
      have len := h3.length
      have two := F.two
      have ndl : (lvs ps).Nodup := by rw [← lv_node b]; exact nd
      have hll : (lvs ps).length ≤ 24 := by rw [← lv_node b]; omega
      have lp := lvs_len F.parts
      refine ⟨_, rfl, _, _, rfl, isTh_tup h1, false, rfl, iteF ?_⟩
      -- parts = [normalized(part) for part in tree[1]]
      refine ⟨_, rfl, a, _, 1, _, rfl, rfl, SqT.of h1, rfl, p, rfl, ⟨_, SqT.of h2⟩, fun D1 nD1 => ?_⟩
      refine lc_tup (xs := us) (fun i H' => Same H H' ∧ ∃ ps' acc, H' D1 = some (.lst acc) ∧ TreesAt H' ps' acc ∧ All2 NormOf (ps.take i) ps') ⟨same_new nD1, [], [], upd_same, .nil, .nil⟩ ?_ ?_ ?_
      · rintro i H' hi ⟨sm, _⟩
        exact SqT.of (sm _ _ h2)
      · rintro i x H' hx ⟨sm, ps', acc, e, ta, no⟩
        obtain ⟨t, ht1, ht2⟩ := All2.get' h3 hx
        have hm := List.mem_of_getElem? ht1
        have lt := F.lt hm
        have hi := (List.getElem?_eq_some_iff.1 ht1).1
        refine ⟨rfl, _, rfl, t, x, rfl, ht2.mono (sameT_of sm), F.parts t hm, nodup_part ndl hm, by omega, by omega, fun H4 t' v' s4 k4 n4 => ⟨_, s4 _ _ e, ?_, same_upd (sm.trans s4) nD1, ps' ++ [t'], _, upd_same, trees_push ta (sameT_of s4) k4 (s4 _ _ e), ?_⟩⟩
        · have := no.length
          rw [List.length_take] at this
          rw [← ta.length]
          exact small1000 (by omega)
        · rw [take_next ht1]; exact no.snoc n4
      · rintro H1 ⟨s1, ps', acc, e1, ta1, no1⟩
        rw [← len, List.take_length] at no1
        have lenN := no1.length
        have lenA := ta1.length
        have FN := norm_forms no1
        have ndN : (lvs ps').Nodup := (norm_lvs no1).nodup_iff.2 ndl
        have hlN : (lvs ps').length ≤ 24 := by rw [(norm_lvs no1).length_eq]; exact hll
        -- tree[0] == "any"
        refine ⟨_, rfl, a, _, 0, _, rfl, rfl, SqT.of (s1 _ _ h1), rfl, rfl, !b, congrArg V.bl (wd_any b), ?_⟩
        cases b with
        | false =>
          refine iteT ?_
          -- the pairs
          refine ⟨_, rfl, D1, acc, rfl, SqL.of e1, fun D2 nD2 => ?_⟩
          have n12 : D2 ≠ D1 := ne_of_none (a := D1) e1 nD2 |>.symm
          refine lc_enum (xs := acc) (fun i H' => Same H1 H' ∧ ∃ xs, H' D2 = some (.lst xs) ∧ PairsAt H' ((keysOf ps').take i) xs) ⟨same_new nD2, [], upd_same, .nil⟩ ?_ ?_ ?_
          · rintro i H' hi ⟨sm, _⟩
            exact SqL.of (sm _ _ e1)
          · rintro i x H' T hx ⟨sm, xs, e, pa⟩ nT
            obtain ⟨t, ht1, ht2⟩ := All2.get' ta1 hx
            have hm := List.mem_of_getElem? ht1
            have hi := (List.getElem?_eq_some_iff.1 ht1).1
            have nTD : T ≠ D2 := (ne_of_none e nT).symm
            refine ⟨T, _, rfl, SqT.of upd_same, rfl, _, _, rfl, _, _, rfl, rfl, rfl, ?_⟩
            refine ⟨_, rfl, t, x, rfl, (ht2.mono (sameT_of sm)).mono (sameT_new nT), FN t hm, Nat.le_trans (part_le hm) hlN, fun H4 s4 => ?_⟩
            refine ⟨_, rfl, (by show 2 ≤ sizeLine; decide), fun p hp => ?_⟩
            have eD : H4 D2 = some (.lst xs) := s4 _ _ ((same_new nT) _ _ e)
            have npD : D2 ≠ p := ne_of_none eD hp
            have eD5 : upd H4 p (.tup [.int t.least, .int ((i : Nat) : Int)]) D2 = some (.lst xs) := by rw [upd_ne npD]; exact eD
            have s5 : Same H' (upd H4 p (.tup [.int t.least, .int ((i : Nat) : Int)])) := ((same_new nT).trans s4).trans (same_new hp)
            refine ⟨xs, eD5, ?_, same_upd (sm.trans s5) nD2, xs ++ [.ref p], upd_same, ?_⟩
            · have := pa.length
              rw [List.length_take] at this
              have : xs.length ≤ i := by omega
              exact small1000 (by omega)
            · rw [take_next (keys_get ht1)]
              refine ((pa.mono (sameT_of s5)).mono (sameT_lst eD5)).snoc ⟨p, rfl, ?_⟩
              rw [upd_ne npD.symm]; exact upd_same
          · rintro H2 ⟨s2, xs, e2, pa⟩
            have lk : (keysOf ps').length = ps'.length := by unfold keysOf; rw [List.length_map, List.length_range]
            rw [← lenA, ← lk, List.take_length] at pa
            refine ⟨D2, xs, pairIn H2, rfl, SqL.of e2, fun x hx => ?_, fun ys D3 sr st nD3 => ?_⟩
            · obtain ⟨k, _, t, rfl, ek⟩ := pa.right x hx
              exact ⟨t, rfl, by rw [pairIn_of ek]; exact ek⟩
            have pmy : (ys.map (pairIn H2)).Perm (keysOf ps') := by
              have := st.perm.map (pairIn H2)
              rw [pa.keys] at this
              exact this
            have pick := pick_sorted FN ndN pmy (List.pairwise_map.2 (sr.imp fun h => SrtO.lexB_no.1 h))
            have yat : ∀ y ∈ ys, ∃ t, y = V.ref t ∧ H2 t = some (.tup [.int (pairIn H2 y).1, .int (pairIn H2 y).2]) := fun y hy => by
              obtain ⟨k, _, t, rfl, ek⟩ := pa.right y (st.perm.mem_iff.1 hy)
              exact ⟨t, rfl, by rw [pairIn_of ek]; exact ek⟩
            have s3 : Same H2 (upd H2 D3 (.lst ys)) := same_new nD3
            -- the parts picked
            refine ⟨_, rfl, D3, rfl, ⟨_, SqL.of upd_same⟩, fun D4 nD4 => ?_⟩
            refine lc_list (xs := ys) (fun j H' => Same (upd H2 D3 (.lst ys)) H' ∧ ∃ zs, H' D4 = some (.lst zs) ∧ TreesAt H' ((ys.take j).map fun y => pickT ps' (pairIn H2 y)) zs) ⟨same_new nD4, [], upd_same, .nil⟩ ?_ ?_ ?_
            · rintro j H' hj ⟨sm, _⟩
              exact SqL.of (sm _ _ upd_same)
            · rintro j y H' hy ⟨sm, zs, ez, tz⟩
              have hym := List.mem_of_getElem? hy
              obtain ⟨t, rfl, et⟩ := yat y hym
              obtain ⟨i, ei, hi⟩ := keys_lt (pmy.mem_iff.1 (List.mem_map.2 ⟨_, hym, rfl⟩))
              obtain ⟨z, hz, tz2⟩ := All2.get ta1 hi
              have hj := (List.getElem?_eq_some_iff.1 hy).1
              have ly : ys.length = ps'.length := by rw [← lk, ← pmy.length_eq, List.length_map]
              refine ⟨t, _, rfl, SqT.of (sm _ _ (s3 _ _ et)), rfl, _, _, rfl, _, _, rfl, rfl, rfl, ?_⟩
              refine ⟨_, rfl, _, rfl, D1, acc, _, z, rfl, rfl, SqL.of (sm _ _ (s3 _ _ (s2 _ _ e1))), by rw [ei]; exact atI_nat hz, zs, ez, ?_, same_upd sm nD4, zs ++ [z], upd_same, ?_⟩
              · rw [← tz.length, List.length_map, List.length_take]
                exact small1000 (by omega)
              · rw [take_next hy, List.map_append]
                exact trees_push tz (SameT.refl _) (((tz2.mono (sameT_of s2)).mono (sameT_of s3)).mono (sameT_of sm)) ez
            · rintro H5 ⟨s5, zs, ez, tz⟩
              rw [List.take_length] at tz
              refine ⟨D4, zs, rfl, .inl ⟨SqL.of ez, fun l hl => ⟨(by show 2 ≤ sizeLine; decide), fun p6 hp6 => ?_⟩⟩⟩
              have s6 := ((((s1.trans s2).trans s3).trans s5).trans (same_new (o := .tup zs) hl)).trans (same_new (o := .tup [.str "any", .ref l]) hp6)
              refine q _ (.node false (ys.map fun y => pickT ps' (pairIn H2 y))) _ s6 (.node (b := false) upd_same ((same_new hp6) _ _ upd_same) ?_) ?_
              · exact ((tz.mono (sameT_new hl)).mono (sameT_new hp6))
              · have := pick
                rw [List.map_map] at this
                exact norm_any F no1 this.1 this.2
        | true =>
          refine iteF ?_
          have three := F.three
          obtain ⟨x, mid, y, ex⟩ := row_shape (ps := ps') (by omega)
          have hx0 : ps'[0]? = some x := by rw [ex]; rfl
          have mx : x ∈ ps' := List.mem_of_getElem? hx0
          have my : y ∈ ps' := by rw [ex]; simp
          obtain ⟨v0, hv0, tv0⟩ := All2.get ta1 hx0
          have hlast : ∃ vy, atI acc (-1) = some vy ∧ TreeAt H1 y vy := by
            have e : ps' = (x :: mid) ++ [y] := by rw [ex]; rfl
            have hy : ps'[ps'.length - 1]? = some y := by rw [e, List.length_append, List.length_singleton, Nat.add_sub_cancel, List.getElem?_concat_length]
            obtain ⟨vy, hvy, tvy⟩ := All2.get ta1 hy
            refine ⟨vy, ?_, tvy⟩
            have hne : acc ≠ [] := fun z => by rw [z] at lenA; rw [ex] at lenA; simp at lenA
            have el : acc = acc.dropLast ++ [acc.getLast hne] := (List.dropLast_concat_getLast hne).symm
            have eg : acc[ps'.length - 1]? = some (acc.getLast hne) := by
              rw [lenA, ← List.getLast?_eq_getElem?, List.getLast?_eq_some_getLast hne]
            rw [hvy] at eg
            rw [Option.some.inj eg]
            conv => lhs; rw [el]
            exact atI_last _ _
          obtain ⟨vy, hvy, tvy⟩ := hlast
          have dif : x.least ≠ y.least := least_ne (l := []) (m := mid) (r := []) (FN x mx) (FN y my) (by rw [List.nil_append, ← ex]; exact ndN)
          refine ⟨_, rfl, D1, acc, 0, v0, rfl, rfl, SqL.of e1, atI_nat (j := 0) hv0, x, v0, rfl, tv0, FN x mx, Nat.le_trans (part_le mx) hlN, fun H2 s2 => ?_⟩
          refine ⟨_, rfl, 1, rfl, D1, acc, -1, vy, rfl, rfl, SqL.of (s2 _ _ e1), hvy, y, vy, rfl, tvy.mono (sameT_of s2), FN y my, Nat.le_trans (part_le my) hlN, fun H3 s3 => ?_⟩
          have s13 := s2.trans s3
          have ta3 := ta1.mono (sameT_of s13)
          have fin : ∀ (H4 : Hp) (D : Addr) (zs : List V) (qs : List Tr), Same H H4 → H4 D = some (.lst zs) → TreesAt H4 qs zs → NormOf (.node true ps) (.node true qs) → ∀ l, H4 l = none → ∀ p6, upd H4 l (.tup zs) p6 = none → Q (.ref p6) (upd (upd H4 l (.tup zs)) p6 (.tup [.str "row", .ref l])) := by
            intro H4 D zs qs sm ez tz N l hl p6 hp6
            exact q _ (.node true qs) _ ((sm.trans (same_new hl)).trans (same_new hp6)) (.node (b := true) upd_same ((same_new hp6) _ _ upd_same) ((tz.mono (sameT_new hl)).mono (sameT_new hp6))) N
          refine ⟨_, _, rfl, rfl, _, rfl, ite2 (fun c => ?_) (fun c => ?_)⟩
          · have c' : y.least < x.least := of_decide_eq_true c
            refine ⟨_, rfl, D1, acc, rfl, SqL.of (s13 _ _ e1), fun D2 nD2 => ?_⟩
            refine ⟨_, rfl, D2, _, rfl, .inl ⟨SqL.of upd_same, fun l hl => ⟨(by show 2 ≤ sizeLine; decide), fun p6 hp6 => ?_⟩⟩⟩
            refine fin _ D2 _ ps'.reverse ((s1.trans s13).trans (same_new nD2)) upd_same ((ta3.mono (sameT_new nD2)).rev) ?_ l hl p6 hp6
            exact norm_row F (.inr no1.rev) (x := y) (mid := mid.reverse) (y := x) (by rw [ex]; simp) c'
          · have c' : ¬ y.least < x.least := of_decide_eq_false (Bool.eq_false_iff.2 c)
            refine ⟨_, rfl, D1, acc, rfl, .inl ⟨SqL.of (s13 _ _ e1), fun l hl => ⟨(by show 2 ≤ sizeLine; decide), fun p6 hp6 => ?_⟩⟩⟩
            refine fin _ D1 _ ps' (s1.trans s13) (s13 _ _ e1) ta3 ?_ l hl p6 hp6
            exact norm_row F (.inl no1) ex (by omega)
end
end K13

/-! K13 M7: the law's reading of an order: the parts that stand in it, one behind the other. Plain Lean. -/
namespace K13
theorem partAt_lt {ps : List Tr} {k : Nat} (h : k < ps.length) : ps[k]? = some (partAt ps k) := by
  have := List.getElem?_eq_getElem h
  rw [this, partAt_of this]
theorem partAt_mem {ps : List Tr} {k : Nat} (h : k < ps.length) : partAt ps k ∈ ps := List.mem_of_getElem? (partAt_lt h)
theorem partAt_map (ps : List Tr) : (List.range ps.length).map (partAt ps) = ps := by
  refine List.ext_getElem? fun i => ?_
  rw [List.getElem?_map]
  by_cases h : i < ps.length
  · rw [List.getElem?_range h, partAt_lt h]; rfl
  · rw [List.getElem?_eq_none (by rw [List.length_range]; omega), List.getElem?_eq_none (by omega)]; rfl
theorem tells_ne {t : Tr} (F : Form t) {o : List Int} (h : Tells t o) : o ≠ [] := fun e => by
  rw [e] at h
  exact F.ne (List.nil_perm.1 h.perm)
/-- parts that stand behind one another in an order are the order's own -/
theorem seq_prefix {ps : List Tr} (F : ∀ p ∈ ps, Form p) (nd : (lvs ps).Nodup) : ∀ {xs qs : List Tr} {c r : List Int}, (∀ x ∈ xs, x ∈ ps) → (∀ q ∈ qs, q ∈ ps) → Seq xs c → Seq qs (c ++ r) → ∃ qs', qs = xs ++ qs' ∧ Seq qs' r
  | [], qs, c, r, _, _, h1, h2 => by
    rw [seq_nil] at h1
    subst h1
    exact ⟨qs, rfl, h2⟩
  | x :: xs, qs, c, r, hx, hq, h1, h2 => by
    obtain ⟨a, b, rfl, ha, hb⟩ := seq_cons.1 h1
    have mx := hx x List.mem_cons_self
    match qs, hq, h2 with
    | [], _, h2 =>
      rw [seq_nil] at h2
      exact absurd (List.append_eq_nil_iff.1 (List.append_eq_nil_iff.1 h2).1).1 (tells_ne (F x mx) ha)
    | q :: qs, hq, h2 =>
      obtain ⟨a', b', e, ha', hb'⟩ := seq_cons.1 h2
      have mq := hq q List.mem_cons_self
      match a, a', ha, ha', e with
      | [], _, ha, _, _ => exact absurd rfl (tells_ne (F x mx) ha)
      | _, [], _, ha', _ => exact absurd rfl (tells_ne (F q mq) ha')
      | u :: a, u' :: a', ha, ha', e =>
        have eu : u = u' := by
          have := congrArg List.head? e
          exact Option.some.inj this
        subst eu
        have : x = q := parts_eq nd mx mq (ha.perm.mem_iff.1 List.mem_cons_self) (ha'.perm.mem_iff.1 List.mem_cons_self)
        subst this
        have len : (u :: a).length = (u :: a').length := by rw [ha.perm.length_eq, ha'.perm.length_eq]
        rw [List.append_assoc] at e
        obtain ⟨e1, e2⟩ := List.append_inj e len
        rw [← e2] at hb'
        obtain ⟨qs', rfl, h⟩ := seq_prefix F nd (fun z hz => hx z (List.mem_cons_of_mem _ hz)) (fun z hz => hq z (List.mem_cons_of_mem _ hz)) hb hb'
        exact ⟨qs', rfl, h⟩
/-- what the law's loop keeps -/
structure TI (b : Bool) (ps : List Tr) (o : List Int) (seq : List Nat) (rest : List Int) (step : Nat) : Prop where
  con : ∃ c, o = c ++ rest ∧ Seq (seq.map (partAt ps)) c
  nd : seq.Nodup
  lt : ∀ k ∈ seq, k < ps.length
  le : seq.length ≤ step
  alt : seq.length = step ∨ ¬ Tells (.node b ps) o
theorem ti_start (b : Bool) (ps : List Tr) (o : List Int) : TI b ps o [] o 0 := ⟨⟨[], rfl, .nil⟩, .nil, (fun _ h => nomatch h), Nat.le_refl _, .inl rfl⟩
theorem parts_nodup {ps : List Tr} (F : ∀ p ∈ ps, Form p) (nd : (lvs ps).Nodup) : ps.Nodup := by
  induction ps with
  | nil => exact .nil
  | cons p r ih =>
    refine List.nodup_cons.2 ⟨fun h => ?_, ih (fun q hq => F q (List.mem_cons_of_mem _ hq)) (by rw [lvs_cons] at nd; exact (List.nodup_append.1 nd).2.1)⟩
    match hl : p.lv, (F p List.mem_cons_self).ne with
    | x :: _, _ => exact disj_lvs (p := p) (ps := r) nd (x := x) (by rw [hl]; exact List.mem_cons_self) (mem_lvs.2 ⟨p, h, by rw [hl]; exact List.mem_cons_self⟩)
theorem partAt_inj {ps : List Tr} (F : ∀ p ∈ ps, Form p) (nd : (lvs ps).Nodup) {i j : Nat} (hi : i < ps.length) (hj : j < ps.length) (e : partAt ps i = partAt ps j) : i = j := by
  have h1 := partAt_lt hi
  have h2 := partAt_lt hj
  rw [← e] at h2
  exact (List.getElem?_inj hi (parts_nodup F nd)).1 (h1.trans h2.symm)
theorem node_seq {b : Bool} {ps : List Tr} {o : List Int} (h : Tells (.node b ps) o) : ∃ qs, qs.Perm ps ∧ Seq qs o := by
  cases b with
  | false => exact tells_any.1 h
  | true =>
    rcases tells_row.1 h with h | h
    · exact ⟨ps, .refl _, h⟩
    · exact ⟨ps.reverse, List.reverse_perm ps, h⟩
section
variable {b : Bool} {ps : List Tr} {o rest : List Int} {seq : List Nat} {step : Nat}
/-- the next part, where the whole is told -/
theorem TI.next (T : TI b ps o seq rest step) (F : ∀ p ∈ ps, Form p) (nd : (lvs ps).Nodup) (h : Tells (.node b ps) o) : ∃ qs', (seq.map (partAt ps) ++ qs').Perm ps ∧ Seq qs' rest := by
  obtain ⟨qs, pm, hs⟩ := node_seq h
  obtain ⟨c, rfl, hc⟩ := T.con
  obtain ⟨qs', rfl, h'⟩ := seq_prefix F nd (fun x hx => by obtain ⟨k, hk, rfl⟩ := List.mem_map.1 hx; exact partAt_mem (T.lt k hk)) (fun q hq => pm.mem_iff.1 hq) hc hs
  exact ⟨qs', pm, h'⟩
theorem TI.match (T : TI b ps o seq rest step) {k : Nat} (hk : k < ps.length) (hn : k ∉ seq) (hT : Tells (partAt ps k) (rest.take (partAt ps k).lv.length)) : TI b ps o (seq ++ [k]) (rest.drop (partAt ps k).lv.length) (step + 1) := by
  obtain ⟨c, e, hc⟩ := T.con
  refine ⟨⟨c ++ rest.take (partAt ps k).lv.length, ?_, ?_⟩, ?_, ?_, ?_, ?_⟩
  · rw [List.append_assoc, List.take_append_drop]; exact e
  · rw [List.map_append]; exact hc.app (seq_one.2 hT)
  · refine List.nodup_append.2 ⟨T.nd, List.nodup_cons.2 ⟨nofun, .nil⟩, fun a ha b hb => ?_⟩
    rw [List.mem_singleton] at hb
    subst hb
    exact fun z => hn (z ▸ ha)
  · intro j hj
    rcases List.mem_append.1 hj with hj | hj
    · exact T.lt j hj
    · rw [List.mem_singleton] at hj; rw [hj]; exact hk
  · rw [List.length_append]; exact Nat.succ_le_succ T.le
  · rcases T.alt with h | h
    · left; rw [List.length_append, h]; rfl
    · exact .inr h
theorem TI.no (T : TI b ps o seq rest step) (F : ∀ p ∈ ps, Form p) (nd : (lvs ps).Nodup) {k : Nat} (hk : k < ps.length) (hp : (rest.take (partAt ps k).lv.length).Perm (partAt ps k).lv) (hT : ¬ Tells (partAt ps k) (rest.take (partAt ps k).lv.length)) : ¬ Tells (.node b ps) o := fun h => by
  obtain ⟨qs', pm, hs⟩ := T.next F nd h
  have Fk := F _ (partAt_mem hk)
  match qs', pm, hs with
  | [], _, hs =>
    rw [seq_nil] at hs
    rw [hs, List.take_nil] at hp
    exact Fk.ne (List.nil_perm.1 hp)
  | q :: qs', pm, hs =>
    obtain ⟨a, c, rfl, ha, _⟩ := seq_cons.1 hs
    have mq : q ∈ ps := pm.mem_iff.1 (List.mem_append_right _ List.mem_cons_self)
    have len : 0 < (partAt ps k).lv.length := List.length_pos_iff.2 Fk.ne
    match a, ha with
    | [], ha => exact tells_ne (F q mq) ha rfl
    | u :: a, ha =>
      have hu : u ∈ ((u :: a) ++ c).take (partAt ps k).lv.length := by
        obtain ⟨m, hm⟩ := Nat.exists_eq_succ_of_ne_zero (Nat.ne_of_gt len)
        rw [hm]
        exact List.mem_cons_self
      have e : partAt ps k = q := parts_eq nd (partAt_mem hk) mq (hp.mem_iff.1 hu) (ha.perm.mem_iff.1 List.mem_cons_self)
      rw [e] at hT
      apply hT
      rw [← ha.perm.length_eq, List.take_left]
      exact ha
theorem TI.skip (T : TI b ps o seq rest step) (F : ∀ p ∈ ps, Form p) (nd : (lvs ps).Nodup) (hs : step < ps.length) (no : ∀ k, k < ps.length → k ∉ seq → ¬ (rest.take (partAt ps k).lv.length).Perm (partAt ps k).lv) : TI b ps o seq rest (step + 1) := by
  refine ⟨T.con, T.nd, T.lt, Nat.le_succ_of_le T.le, .inr ?_⟩
  rcases T.alt with hl | hn
  · intro h
    obtain ⟨qs', pm, hq⟩ := T.next F nd h
    have len := pm.length_eq
    rw [List.length_append, List.length_map] at len
    match qs', pm, hq, len with
    | [], _, _, len => rw [List.length_nil] at len; omega
    | q :: qs', pm, hq, _ =>
      obtain ⟨a, c, rfl, ha, _⟩ := seq_cons.1 hq
      have mq : q ∈ ps := pm.mem_iff.1 (List.mem_append_right _ List.mem_cons_self)
      obtain ⟨k, hk⟩ := List.mem_iff_getElem?.1 mq
      have kl := (List.getElem?_eq_some_iff.1 hk).1
      have e := partAt_of hk
      refine no k kl (fun hm => ?_) ?_
      · have pn := pm.nodup_iff.2 (parts_nodup F nd)
        exact (List.nodup_append.1 pn).2.2 q (List.mem_map.2 ⟨k, hm, e⟩) q List.mem_cons_self rfl
      · rw [e, ← ha.perm.length_eq, List.take_left]
        exact ha.perm
  · exact hn
theorem TI.short (T : TI b ps o seq rest ps.length) (h : seq.length < ps.length) : ¬ Tells (.node b ps) o := T.alt.resolve_left (Nat.ne_of_lt h)
theorem TI.long (T : TI b ps o seq rest ps.length) (F : ∀ p ∈ ps, Form p) (nd : (lvs ps).Nodup) (h : ¬ seq.length < ps.length) (hr : rest ≠ []) : ¬ Tells (.node b ps) o := fun ht => by
  obtain ⟨qs', pm, hq⟩ := T.next F nd ht
  have len := pm.length_eq
  rw [List.length_append, List.length_map] at len
  have : qs' = [] := List.eq_nil_of_length_eq_zero (by omega)
  rw [this, seq_nil] at hq
  exact hr hq
/-- all parts stand in the sequence: it is one of the places -/
theorem TI.perm (T : TI b ps o seq rest ps.length) (h : ¬ seq.length < ps.length) : seq.Perm (List.range ps.length) := by
  have le := T.le
  refine (List.perm_ext_iff_of_nodup T.nd List.nodup_range).2 fun a => ⟨fun ha => List.mem_range.2 (T.lt a ha), fun ha => ?_⟩
  apply Classical.byContradiction
  intro n
  have := List.Nodup.length_le_of_subset (l₁ := a :: seq) (l₂ := List.range ps.length) (List.nodup_cons.2 ⟨n, T.nd⟩) fun x hx => by
    rcases List.mem_cons.1 hx with rfl | hx
    · exact ha
    · exact List.mem_range.2 (T.lt x hx)
  rw [List.length_cons, List.length_range] at this
  omega
theorem TI.sq (T : TI b ps o seq [] ps.length) : Seq (seq.map (partAt ps)) o := by
  obtain ⟨c, rfl, hc⟩ := T.con
  rw [List.append_nil]; exact hc
theorem TI.any (T : TI false ps o seq [] ps.length) (h : ¬ seq.length < ps.length) : Tells (.node false ps) o := by
  refine tells_any.2 ⟨_, ?_, T.sq⟩
  have := (T.perm h).map (partAt ps)
  rw [partAt_map] at this
  exact this
theorem TI.row (T : TI true ps o seq [] ps.length) (F : ∀ p ∈ ps, Form p) (nd : (lvs ps).Nodup) (h : ¬ seq.length < ps.length) : Tells (.node true ps) o ↔ seq = List.range ps.length ∨ seq = (List.range ps.length).reverse := by
  have hs := T.sq
  have inj : ∀ {l : List Nat}, (∀ k ∈ l, k < ps.length) → seq.map (partAt ps) = l.map (partAt ps) → seq = l := by
    intro l hl e
    have len : seq.length = l.length := by have := congrArg List.length e; rw [List.length_map, List.length_map] at this; exact this
    refine List.ext_getElem len fun i h1 h2 => ?_
    have := congrArg (fun z => z[i]?) e
    simp only [List.getElem?_map, List.getElem?_eq_getElem h1, List.getElem?_eq_getElem h2] at this
    exact partAt_inj F nd (T.lt _ (List.getElem_mem h1)) (hl _ (List.getElem_mem h2)) (Option.some.inj this)
  have sub : ∀ q ∈ seq.map (partAt ps), q ∈ ps := fun q hq => by obtain ⟨k, hk, rfl⟩ := List.mem_map.1 hq; exact partAt_mem (T.lt k hk)
  have fin : ∀ {qs : List Tr}, qs.Perm ps → Seq qs o → seq.map (partAt ps) = qs := by
    intro qs pm hq
    obtain ⟨qs', e, h'⟩ := seq_prefix F nd sub (fun q hq => pm.mem_iff.1 hq) hs (show Seq qs (o ++ []) by rw [List.append_nil]; exact hq)
    have len := congrArg List.length e
    rw [List.length_append, List.length_map, pm.length_eq] at len
    have : qs' = [] := List.eq_nil_of_length_eq_zero (by omega)
    rw [e, this, List.append_nil]
  constructor
  · intro ht
    rcases tells_row.1 ht with ht | ht
    · left
      exact inj (fun k hk => List.mem_range.1 hk) (by rw [fin (.refl _) ht, partAt_map])
    · right
      exact inj (fun k hk => List.mem_range.1 (List.mem_reverse.1 hk)) (by rw [fin (List.reverse_perm ps) ht, List.map_reverse, partAt_map])
  · rintro (e | e)
    · rw [e, partAt_map] at hs
      exact tells_row.2 (.inl hs)
    · rw [e, List.map_reverse, partAt_map] at hs
      exact tells_row.2 (.inr hs)
end
end K13

/-! K13 W4: the walk: plain trees, the sets of a tree. -/
namespace K13
open PySem PySem.Spec PyProof.Rows L2
def plainT (n : Nat) : Tr := mkAny ((List.range n).map fun i : Nat => .thing (i : Int))
theorem plain_lvs (l : List Nat) : lvs (l.map fun i : Nat => Tr.thing (i : Int)) = l.map Int.ofNat := by
  induction l with
  | nil => rfl
  | cons i l ih => rw [List.map_cons, List.map_cons, lvs_cons, lv_thing, ih]; rfl
theorem plain_forms (l : List Nat) : ∀ p ∈ l.map (fun i : Nat => Tr.thing (i : Int)), Form p := fun p hp => by
  obtain ⟨i, _, rfl⟩ := List.mem_map.1 hp
  exact .thing _
theorem plain_over {n : Nat} (h1 : 1 ≤ n) (h2 : n ≤ 24) : Over n (plainT n) := by
  have ne : (List.range n).map (fun i : Nat => Tr.thing (i : Int)) ≠ [] := fun e => by
    have := congrArg List.length e
    rw [List.length_map, List.length_range] at this
    simp at this; omega
  refine ⟨form_mkAny ne (plain_forms _), ?_, h2⟩
  obtain ⟨qs, pm, s⟩ := (tells_mkAny ne).1 (tells_lv (plainT n))
  exact s.perm.trans ((lvs_perm pm).trans (by rw [plain_lvs]))
theorem plain_tells {n : Nat} (h1 : 1 ≤ n) {o : List Int} (p : o.Perm ((List.range n).map Int.ofNat)) : Tells (plainT n) o := by
  have ne : (List.range n).map (fun i : Nat => Tr.thing (i : Int)) ≠ [] := fun e => by
    have := congrArg List.length e
    rw [List.length_map, List.length_range] at this
    simp at this; omega
  refine (tells_mkAny ne).2 ⟨o.map Tr.thing, ?_, ?_⟩
  · have := p.map Tr.thing
    rw [List.map_map] at this
    exact this
  · clear p ne
    induction o with
    | nil => exact .nil
    | cons i o ih => exact .cons (.thing i) ih
theorem least_thing_eq (i : Int) : (Tr.thing i).least = i := by unfold Tr.least; rw [lv_thing]; rfl
theorem plain_normal {n : Nat} (h1 : 1 ≤ n) : Normal (plainT n) := by
  unfold plainT
  match n, h1 with
  | 1, _ => exact .thing 0
  | n + 2, _ =>
    rw [mkAny_two (by rw [List.length_map, List.length_range]; omega)]
    refine .any (List.pairwise_map.2 (List.pairwise_lt_range.imp fun h => ?_)) fun q hq => ?_
    · rw [least_thing_eq, least_thing_eq]; exact Int.ofNat_lt.2 h
    · obtain ⟨i, _, rfl⟩ := List.mem_map.1 hq
      exact .thing _
theorem trees_ints {H : Hp} : ∀ l : List Nat, TreesAt H (l.map fun i : Nat => Tr.thing (i : Int)) (l.map fun i : Nat => V.int (i : Int))
  | [] => .nil
  | i :: l => .cons (.thing _) (trees_ints l)
theorem pairs_len : ∀ ps : List Tr, (pairsOf ps).length = ps.length - 1
  | [] => rfl
  | [_] => rfl
  | x :: y :: r => by
    show (pairsOf (y :: r)).length + 1 = _
    rw [pairs_len (y :: r)]; simp
theorem pairs_get : ∀ {ps : List Tr} {i : Nat} {x y : Tr}, ps[i]? = some x → ps[i + 1]? = some y → (pairsOf ps)[i]? = some (x.lv ++ y.lv)
  | [], _, _, _, h, _ => by simp at h
  | [_], _, _, _, _, h => by simp at h
  | a :: b :: r, 0, x, y, h, h' => by
    have e1 : a = x := Option.some.inj h
    have e2 : b = y := Option.some.inj h'
    subst e1; subst e2; rfl
  | a :: b :: r, i + 1, x, y, h, h' => pairs_get (ps := b :: r) (i := i) h h'
theorem sets_count : ∀ {t : Tr}, Form t → t.sets.length + 1 ≤ t.lv.length := by
  intro t
  induction t using Tr.ind with
  | h1 i => intro _; rw [sets_thing, lv_thing]; exact Nat.le_refl _
  | h2 b ps ih =>
    intro F
    rw [sets_node, lv_node, List.length_append]
    have own : (if b then pairsOf ps else [lvs ps]).length ≤ ps.length - 1 := by
      cases b with
      | true => exact Nat.le_of_eq (pairs_len ps)
      | false => have := F.two; show 1 ≤ _; omega
    have two := F.two
    have Fp := F.parts
    have sum : ((ps.map Tr.sets).flatten).length + ps.length ≤ (lvs ps).length := by
      clear own two F
      induction ps with
      | nil => exact Nat.le_refl _
      | cons p r ih2 =>
        rw [List.map_cons, List.flatten_cons, List.length_append, lvs_cons, List.length_append, List.length_cons]
        have := ih p List.mem_cons_self (Fp p List.mem_cons_self)
        have := ih2 (fun q hq => ih q (List.mem_cons_of_mem _ hq)) fun q hq => Fp q (List.mem_cons_of_mem _ hq)
        omega
    omega
theorem pairs_ne : ∀ {ps : List Tr}, (∀ p ∈ ps, Form p) → ∀ C ∈ pairsOf ps, C ≠ []
  | [], _, C, h => by cases h
  | [_], _, C, h => by cases h
  | x :: y :: r, F, C, h => by
    rcases List.mem_cons.1 h with rfl | h
    · intro e; exact (F x List.mem_cons_self).ne (List.append_eq_nil_iff.1 e).1
    · exact pairs_ne (fun q hq => F q (List.mem_cons_of_mem _ hq)) C h
theorem sets_ne : ∀ {t : Tr}, Form t → ∀ C ∈ t.sets, C ≠ [] := by
  intro t
  induction t using Tr.ind with
  | h1 i => intro _ C h; rw [sets_thing] at h; cases h
  | h2 b ps ih =>
    intro F C h
    rw [sets_node] at h
    rcases List.mem_append.1 h with h | h
    · cases b with
      | true => exact pairs_ne F.parts C h
      | false =>
        have e : C = lvs ps := List.mem_singleton.1 h
        rw [e]
        intro z
        have := F.ne
        rw [lv_node] at this
        exact this z
    · obtain ⟨l, hl, hC⟩ := List.mem_flatten.1 h
      obtain ⟨p, hp, rfl⟩ := List.mem_map.1 hl
      exact ih p hp (F.parts p hp) C hC
/-! ### sets in the heap -/
def SetsIn (H : Hp) (sets : List (List Int)) (us : List V) : Prop := All2 (fun S v => ∃ b, v = V.ref b ∧ H b = some (.tup (S.map V.int))) sets us
theorem SetsIn.mono {H H' : Hp} (s : SameT H H') {sets : List (List Int)} {us : List V} (h : SetsIn H sets us) : SetsIn H' sets us := All2.mono (fun _ _ ⟨b, e, k⟩ => ⟨b, e, s _ _ k⟩) h
theorem SetsIn.at {K : Fg} {H : Hp} {sets : List (List Int)} {us : List V} (h : SetsIn H sets us) : SetsAt K H sets us := All2.mono (fun _ _ ⟨b, e, k⟩ => ⟨b, e, SqT.of k⟩) h
theorem SetsIn.keys {H : Hp} {sets : List (List Int)} {us : List V} (h : SetsIn H sets us) : ∃ ks : List (Addr × List Int), us = ks.map (fun p => V.ref p.1) ∧ sets = ks.map (·.2) ∧ ∀ p ∈ ks, H p.1 = some (.tup (p.2.map V.int)) := by
  induction h with
  | nil => exact ⟨[], rfl, rfl, fun _ h => nomatch h⟩
  | @cons S v ss vs r _ ih =>
    obtain ⟨b, rfl, e⟩ := r
    obtain ⟨ks, e1, e2, e3⟩ := ih
    refine ⟨(b, S) :: ks, by rw [e1]; rfl, by rw [e2]; rfl, fun p hp => ?_⟩
    rcases List.mem_cons.1 hp with rfl | hp
    · exact e
    · exact e3 p hp
theorem SetsIn.of {H : Hp} : ∀ {ks : List (Addr × List Int)}, (∀ p ∈ ks, H p.1 = some (.tup (p.2.map V.int))) → SetsIn H (ks.map (·.2)) (ks.map fun p => V.ref p.1)
  | [], _ => .nil
  | p :: ks, h => .cons ⟨p.1, rfl, h p List.mem_cons_self⟩ (SetsIn.of fun q hq => h q (List.mem_cons_of_mem _ hq))
def SameBut (a : Addr) (H H' : Hp) : Prop := ∀ b o, b ≠ a → H b = some o → H' b = some o
theorem SameBut.t {a : Addr} {H H' : Hp} {us : List V} (s : SameBut a H H') (h : H a = some (.lst us)) : SameT H H' := fun b xs e => s b _ (fun z => by rw [z, h] at e; cases e) e
theorem SameBut.step {a : Addr} {H H1 H2 : Hp} {o : HO} (s : SameBut a H H1) (s2 : Same H1 H2) : SameBut a H (upd H2 a o) := fun b u ne e => by rw [upd_ne ne]; exact s2 _ _ (s b u ne e)
theorem SameBut.trans {a : Addr} {H H1 H2 : Hp} (s : SameBut a H H1) (s2 : SameBut a H1 H2) : SameBut a H H2 := fun b u ne e => s2 b u ne (s b u ne e)
/-- a sorted rearrangement -/
def PS (S C : List Int) : Prop := S.Perm C ∧ S.Pairwise (· ≤ ·)
section
variable {P : Program} {w : World} {K : Fg} {mg : Str → Option Value} {base : Heap}
abbrev s_plain_tree : Stmt := topS 25
abbrev N_plain_tree : List Str := ["n"]
theorem sc_plain_tree : FnScope N_plain_tree ["n"] (defScope s_plain_tree) := ⟨rfl, rfl, rfl, by decide +kernel, rfl, by decide +kernel, by decide +kernel⟩
def sp_plain_tree : Sp := fun vs H Q _ => ∃ n : Nat, vs = [.int n] ∧ 1 ≤ n ∧ n ≤ 24 ∧ ∀ (H' : Hp) (v : V), Same H H' → TreeAt H' (plainT n) v → Q v H'
theorem ok_plain_tree (D : Def K mg "plain_tree" s_plain_tree ["n"]) (B : Bl mg) (c_check_things : Can P w K mg base 2 "check_things" ["n"] sp_check_things) (c_make_any : Can P w K mg base 1 "make_any" ["parts"] sp_make_any) : Can P w K mg base 3 "plain_tree" ["n"] sp_plain_tree := by
  refine D.ok sc_plain_tree (fun vs H Q E h => ?_) (fun f cdv A outer s H vs Q E hr h => ?_)
  · obtain ⟨n, rfl, _⟩ := h; rfl
  obtain ⟨n, rfl, h1, h2, q⟩ := h
  refine ⟨_, (pss_cons (ps_expr (pe_can c_check_things hr (by omega) rfl (pa_cons (pv 0) pa_nil)))
      (pss_one (ps_ret (pe_can c_make_any hr (by omega) rfl (pa_cons (pe_listRg rfl rfl B.list (prg_1 rfl B.range (pv 0))) pa_nil))))), ?_⟩
  refine ⟨_, rfl, n, rfl, by omega, by omega, ?_⟩
  refine ⟨_, rfl, _, rfl, RgOk.of_le (by omega) (by omega) (by omega) (by omega), fun o no => ?_⟩
  refine ⟨o, _, (List.range n).map fun i : Nat => .thing (i : Int), rfl, upd_same, ?_, fun e => ?_, fun H' v s' h' => q H' v ((same_new no).trans s') h'⟩
  · have e : rgV 0 (n : Int) = (List.range n).map fun i : Nat => V.int (i : Int) := by
      unfold rgV; simp
    rw [e]; exact trees_ints _
  · have := congrArg List.length e
    rw [List.length_map, List.length_range] at this
    simp at this; omega

abbrev s_collect_sets : Stmt := topS 26
abbrev N_collect_sets : List Str := ["tree", "found", "parts", "index", "part"]
theorem sc_collect_sets : FnScope N_collect_sets ["tree", "found"] (defScope s_collect_sets) := ⟨rfl, rfl, rfl, by decide +kernel, rfl, by decide +kernel, by decide +kernel⟩
def sp_collect_sets (n : Nat) : Sp := fun vs H Q _ => ∃ (t : Tr) (v : V) (a : Addr) (us : List V), vs = [v, .ref a] ∧ TreeAt H t v ∧ Form t ∧ t.lv.length ≤ n ∧ n ≤ 24 ∧ H a = some (.lst us) ∧ us.length + t.sets.length ≤ 1000 ∧
  ∀ (H' : Hp) (us2 : List V) (sets2 : List (List Int)), SameBut a H H' → H' a = some (.lst (us ++ us2)) → SetsIn H' sets2 us2 → All2 PS sets2 t.sets → Q .non H'
theorem ok_collect_sets (D : Def K mg "collect_sets" s_collect_sets ["tree", "found"]) (B : Bl mg) (c_is_thing : Can P w K mg base 1 "is_thing" ["tree"] sp_is_thing) (c_listed : Can P w K mg base 26 "listed" ["tree"] (sp_listed 24)) :
    ∀ n : Nat, Can P w K mg base (n + 27) "collect_sets" ["tree", "found"] (sp_collect_sets n)
  | 0 => D.never _ fun vs H Q E ⟨t, v, a, us, _, _, F, h, _⟩ => F.ne (List.eq_nil_of_length_eq_zero (Nat.le_zero.1 h))
  | n + 1 => by
    have c_collect_sets := ok_collect_sets D B c_is_thing c_listed n
    refine D.ok sc_collect_sets (fun vs H Q E h => ?_) (fun f cdv A outer s H vs Q E hr h => ?_)
    · obtain ⟨t, v, a, us, rfl, _⟩ := h; rfl
    obtain ⟨t, v, g, us, rfl, ht, F, hl, h24, hg, hus, q⟩ := h
    refine ⟨_, (pss_cons (ps_if (pt_val (pe_can c_is_thing hr (by omega) rfl (pa_cons (pv 0) pa_nil)))
      (pss_one ps_retN)
      pss_nil)
      (pss_cons (ps_set (i := 2) sc_collect_sets.nd rfl (.inl rfl) (pe_ix ix_tup (pv 0) pe_int (fun _ _ => rfl)))
      (pss_cons (ps_if (pt_cmpR op_eq (pe_ix ix_tup (pv 0) pe_int (fun _ _ => rfl)) pe_str (nomark _))
      (pss_one (ps_expr (pe_bm PySem.F.plainAttrs_list PySem.F.slot_list_append PySem.F.type_list_append mt_append (pv 1) (pa_cons (pe_callTy call_tuple_of rfl B.tuple bv_tuple (pa_cons (pe_callB cr_sortedI rfl B.sorted bv_sorted (pa_cons (pe_can c_listed hr (by omega) rfl (pa_cons (pv 0) pa_nil)) pa_nil)) pa_nil)) pa_nil))))
      (pss_one (ps_for PassesOwn.never rfl (pi_range2 rfl B.range (pa_cons pe_int (pa_cons (pe_callB call_len_seq rfl B.len bv_len (pa_cons (pv 2) pa_nil)) pa_nil))) (pg_name (i := 3) sc_collect_sets.nd rfl (.inl rfl))
      (pss_one (ps_expr (pe_bm PySem.F.plainAttrs_list PySem.F.slot_list_append PySem.F.type_list_append mt_append (pv 1) (pa_cons (pe_callTy call_tuple_of rfl B.tuple bv_tuple (pa_cons (pe_callB cr_sortedI rfl B.sorted bv_sorted (pa_cons (pe_op op_cat (pe_can c_listed hr (by omega) rfl (pa_cons (pe_ix ix_tup (pv 2) (pe_op op_sub (pv 3) pe_int) (fun _ _ => rfl)) pa_nil)) (pe_can c_listed hr (by omega) rfl (pa_cons (pe_ix ix_tup (pv 2) (pv 3) (fun _ _ => rfl)) pa_nil))) pa_nil)) pa_nil)) pa_nil)))))))
      (pss_one (ps_for PassesOwn.never rfl (pi_tup (pv 2)) (pg_name (i := 4) sc_collect_sets.nd rfl (.inl rfl))
      (pss_one (ps_expr (pe_can c_collect_sets hr (by omega) rfl (pa_cons (pv 4) (pa_cons (pv 1) pa_nil)))))))))), ?_⟩
    cases t with
    | thing i =>
      rw [treeAt_thing ht]
      refine ⟨_, rfl, _, _, rfl, isTh_thing, true, rfl, iteT ?_⟩
      exact q H [] [] (fun b o _ e => e) (by rw [List.append_nil]; exact hg) .nil (by rw [sets_thing]; exact .nil)
    | node b ps =>
      have htn := ht
      obtain ⟨a, p, vs, rfl, h1, h2, h3⟩ := treeAt_node ht
      have len := h3.length
      have lp := lvs_len F.parts
      have hll : (lvs ps).length ≤ 24 := by rw [← lv_node b]; omega
      rw [sets_node, List.length_append] at hus
      have setsT : ∀ {H' : Hp}, SameBut g H H' → SameT H H' := fun s => s.t hg
      -- the parts
      have fin : ∀ (y3 : Option V) (H1 : Hp) (us1 : List V) (sets1 : List (List Int)), SameBut g H H1 → H1 g = some (.lst (us ++ us1)) → SetsIn H1 sets1 us1 → All2 PS sets1 (if b then pairsOf ps else [lvs ps]) →
          tFor (iTup K (tVar 2)) (gName 4) (tDrop (tCall (sp_collect_sets n) [] E0 (tCons (tVar 4) (tCons (tVar 1) tNil)))) { nx := fun _ H' => Q .non H', rt := Q } [some (.ref a), some (.ref g), some (.ref p), y3, none] H1 := by
        intro y3 H1 us1 sets1 sb1 e1 in1 ps1
        refine ⟨_, rfl, p, rfl, ⟨_, SqT.of ((setsT sb1) _ _ h2)⟩, ?_⟩
        refine for_tup (xs := vs) (fun i σ H' => ∃ y4, σ = [some (.ref a), some (.ref g), some (.ref p), y3, y4] ∧ SameBut g H H' ∧ ∃ us2 sets2, H' g = some (.lst (us ++ us2)) ∧ SetsIn H' sets2 us2 ∧ All2 PS sets2 ((if b then pairsOf ps else [lvs ps]) ++ ((ps.take i).map Tr.sets).flatten)) ⟨_, rfl, sb1, us1, sets1, e1, in1, by simpa using ps1⟩ ?_ ?_ ?_
        · rintro i σ H' hi ⟨y4, rfl, sb, _⟩
          exact SqT.of ((setsT sb) _ _ h2)
        · rintro i x σ H' hx ⟨y4, rfl, sb, us2, sets2, e2, in2, ps2⟩
          obtain ⟨t, ht1, ht2⟩ := All2.get' h3 hx
          have hm := List.mem_of_getElem? ht1
          have lt := F.lt hm
          have hi := (List.getElem?_eq_some_iff.1 ht1).1
          have cnt : ((ps.take (i + 1)).map Tr.sets).flatten = ((ps.take i).map Tr.sets).flatten ++ t.sets := by
            rw [take_next ht1, List.map_append, List.flatten_append]; simp
          have cle : ((ps.take (i + 1)).map Tr.sets).flatten.length ≤ (ps.map Tr.sets).flatten.length := by
            conv => rhs; rw [← List.take_append_drop (i + 1) ps, List.map_append, List.flatten_append, List.length_append]
            omega
          have l2 := in2.length
          have l3 := ps2.length
          rw [List.length_append] at l3
          rw [cnt, List.length_append] at cle
          refine ⟨_, rfl, _, rfl, t, x, g, us ++ us2, rfl, ht2.mono (setsT sb), F.parts t hm, by omega, by omega, e2, ?_, fun H3 us3 sets3 sb3 e3 in3 ps3 => ?_⟩
          · rw [List.length_append]; omega
          · refine ⟨_, rfl, sb.trans sb3, us2 ++ us3, sets2 ++ sets3, by rw [← List.append_assoc]; exact e3, (in2.mono (sb3.t e2)).app in3, ?_⟩
            rw [cnt, ← List.append_assoc]
            exact ps2.app ps3
        · rintro σ H' ⟨y4, rfl, sb, us2, sets2, e2, in2, ps2⟩
          rw [← len, List.take_length, ← sets_node] at ps2
          exact q H' us2 sets2 sb e2 in2 ps2
      refine ⟨_, rfl, _, _, rfl, isTh_tup h1, false, rfl, iteF ?_⟩
      refine ⟨_, rfl, a, _, 1, _, rfl, rfl, SqT.of h1, rfl, ?_⟩
      refine ⟨_, rfl, a, _, 0, _, rfl, rfl, SqT.of h1, rfl, rfl, !b, congrArg V.bl (wd_any b), ?_⟩
      cases b with
      | false =>
        refine iteT ⟨_, rfl, .inl ⟨rfl, _, SqL.of hg⟩, _, rfl, _, _, rfl, htn, F, by omega, Nat.le_refl _, fun H1 p1 s1 np1 e1 => ?_⟩
        refine ⟨p1, _, rfl, SqL.of e1, fun ns p2 pm pw np2 => ⟨p2, _, rfl, .inl ⟨SqL.of upd_same, fun l hl => ?_⟩⟩⟩
        have s4 : Same H1 (upd (upd H1 p2 (.lst (ns.map V.int))) l (.tup (ns.map V.int))) := (same_new np2).trans (same_new hl)
        have eg := s4 _ _ (s1 _ _ hg)
        have hlg : l ≠ g := (ne_of_none ((same_new np2) _ _ (s1 _ _ hg)) hl).symm
        refine ⟨g, us, .ref l, rfl, rfl, eg, small1000 (by omega), ?_⟩
        refine fin none _ [.ref l] [ns] (SameBut.step (H1 := H) (fun b o _ e => e) (s1.trans s4)) upd_same (.cons ⟨l, rfl, by rw [upd_ne hlg]; exact upd_same⟩ .nil) (.cons ⟨by rw [← lv_node false]; exact pm, pw⟩ .nil)
      | true =>
        have three := F.three
        have hus' : us.length + ((pairsOf ps).length + (ps.map Tr.sets).flatten.length) ≤ 1000 := hus
        refine iteF ⟨_, rfl, p, _, rfl, .inr (SqT.of h2), 1, _, rfl, ⟨by omega, by omega, by omega, by omega⟩, ?_⟩
        refine for_range (lo := 1) (n := ((vs.length : Int) - 1).toNat) (fun i σ H' => ∃ y3, σ = [some (.ref a), some (.ref g), some (.ref p), y3, none] ∧ SameBut g H H' ∧ ∃ us2 sets2, H' g = some (.lst (us ++ us2)) ∧ SetsIn H' sets2 us2 ∧ All2 PS sets2 ((pairsOf ps).take i)) ⟨_, rfl, fun b o _ e => e, [], [], by rw [List.append_nil]; exact hg, .nil, .nil⟩ ?_ ?_
        · rintro i σ H' hi ⟨y3, rfl, sb, us2, sets2, e2, in2, ps2⟩
          have hi1 : i < ps.length := by omega
          have hi2 : i + 1 < ps.length := by omega
          have g1 := List.getElem?_eq_getElem hi1
          have g2 := List.getElem?_eq_getElem hi2
          obtain ⟨v1, hv1, tv1⟩ := All2.get h3 g1
          obtain ⟨v2, hv2, tv2⟩ := All2.get h3 g2
          have m1 := List.mem_of_getElem? g1
          have m2 := List.mem_of_getElem? g2
          have st := setsT sb
          have l2 := in2.length
          have l3 := ps2.length
          have pl : (pairsOf ps).length = ps.length - 1 := pairs_len ps
          rw [List.length_take] at l3
          refine ⟨_, rfl, .inl ⟨rfl, _, SqL.of e2⟩, ?_⟩
          refine ⟨_, rfl, _, rfl, _, _, rfl, rfl, p, _, ((i : Nat) : Int), v1, rfl, congrArg V.int (by omega), SqT.of (st _ _ h2), atI_nat hv1, _, v1, rfl, tv1.mono st, F.parts _ m1, Nat.le_trans (part_le m1) hll, Nat.le_refl _, fun H3 p3 s3 np3 e3 => ?_⟩
          refine ⟨_, rfl, _, rfl, p, _, ((i + 1 : Nat) : Int), v2, rfl, congrArg V.int (by omega), SqT.of (s3 _ _ (st _ _ h2)), atI_nat hv2, _, v2, rfl, (tv2.mono st).mono (sameT_of s3), F.parts _ m2, Nat.le_trans (part_le m2) hll, Nat.le_refl _, fun H4 p4 s4 np4 e4 => ?_⟩
          have b1 := part_le m1
          have b2 := part_le m2
          refine ⟨p3, p4, _, _, rfl, rfl, s4 _ _ e3, e4, ?_, fun p5 np5 => ?_⟩
          · rw [List.length_map, List.length_map]; exact sl1000 (by omega)
          refine ⟨p5, ps[i].lv ++ ps[i + 1].lv, rfl, by rw [List.map_append]; exact SqL.of upd_same, fun ns p6 pm pw np6 => ⟨p6, _, rfl, .inl ⟨SqL.of upd_same, fun l hl => ?_⟩⟩⟩
          have s9 := ((((s3.trans s4).trans (same_new np5)).trans (same_new np6)).trans (same_new (o := .tup (ns.map V.int)) hl))
          have eg := s9 _ _ e2
          have hlg : l ≠ g := (ne_of_none ((((s3.trans s4).trans (same_new np5)).trans (same_new np6)) _ _ e2) hl).symm
          have sT := sameT_of s9
          refine ⟨g, us ++ us2, .ref l, rfl, rfl, eg, by rw [List.length_append]; exact small1000 (by omega), ?_⟩
          refine ⟨_, rfl, sb.step s9, us2 ++ [.ref l], sets2 ++ [ns], by rw [upd_same, List.append_assoc], ((in2.mono sT).mono (sameT_lst eg)).snoc ⟨l, rfl, by rw [upd_ne hlg]; exact upd_same⟩, ?_⟩
          rw [take_next (pairs_get g1 g2)]
          exact ps2.snoc ⟨pm, pw⟩
        · rintro σ H' ⟨y3, rfl, sb, us2, sets2, e2, in2, ps2⟩
          have pl : (pairsOf ps).length = ps.length - 1 := pairs_len ps
          rw [List.take_of_length_le (by omega)] at ps2
          exact fin y3 H' us2 sets2 sb e2 in2 ps2

abbrev s_sets_of : Stmt := topS 27
abbrev N_sets_of : List Str := ["tree", "found"]
theorem sc_sets_of : FnScope N_sets_of ["tree"] (defScope s_sets_of) := ⟨rfl, rfl, rfl, by decide +kernel, rfl, by decide +kernel, by decide +kernel⟩
def sp_sets_of : Sp := fun vs H Q _ => ∃ (n : Nat) (t : Tr) (v : V), vs = [v] ∧ TreeAt H t v ∧ Over n t ∧
  ∀ (H' : Hp) (a : Addr) (us : List V) (sets : List (List Int)), Same H H' → H' a = some (.tup us) → SetsIn H' sets us → (∀ C ∈ t.sets, ∃ S ∈ sets, S.Perm C) → (∀ S ∈ sets, ∃ C ∈ t.sets, S.Perm C ∧ S.Pairwise (· ≤ ·)) → sets.length < 64 → Q (.ref a) H'
theorem ok_sets_of (D : Def K mg "sets_of" s_sets_of ["tree"]) (B : Bl mg) (c_things_of : Can P w K mg base 27 "things_of" ["tree"] sp_things_of) (c_collect_sets : Can P w K mg base 51 "collect_sets" ["tree", "found"] (sp_collect_sets 24)) :
    Can P w K mg base 52 "sets_of" ["tree"] sp_sets_of := by
  refine D.ok sc_sets_of (fun vs H Q E h => ?_) (fun f cdv A outer s H vs Q E hr h => ?_)
  · obtain ⟨n, t, v, rfl, _⟩ := h; rfl
  obtain ⟨n, t, v, rfl, ht, O, q⟩ := h
  have cnt := sets_count O.form
  have hn := O.le
  rw [O.len] at cnt
  refine ⟨_, (pss_cons (ps_expr (pe_can c_things_of hr (by omega) rfl (pa_cons (pv 0) pa_nil)))
      (pss_cons (ps_set (i := 1) sc_sets_of.nd rfl (.inl rfl) (pe_lst pa_nil))
      (pss_cons (ps_expr (pe_can c_collect_sets hr (by omega) rfl (pa_cons (pv 0) (pa_cons (pv 1) pa_nil))))
      (pss_one (ps_ret (pe_callTy call_tuple_of rfl B.tuple bv_tuple (pa_cons (pe_callB (cr_sortedTA rfl) rfl B.sorted bv_sorted (pa_cons (pe_callTy (cr_setOfT rfl hr.units) rfl B.set bv_set (pa_cons (pv 1) pa_nil)) pa_nil)) pa_nil))))))), ?_⟩
  refine ⟨_, rfl, n, t, v, rfl, ht, O, fun H1 u s1 => ?_⟩
  refine ⟨Nat.zero_le _, fun o no => ?_⟩
  have s2 := s1.trans (same_new (o := .lst []) no)
  have no0 : H o = none := s1.free no
  refine ⟨_, rfl, _, rfl, t, v, o, [], rfl, ht.mono (sameT_of s2), O.form, by rw [O.len]; exact hn, Nat.le_refl _, upd_same, by rw [List.length_nil]; omega, fun H3 us2 sets2 sb e3 in3 ps3 => ?_⟩
  have s3 : Same H H3 := fun b u e => sb b u (ne_of_none e no0) (s2 b u e)
  obtain ⟨ks, rfl, rfl, hk⟩ := in3.keys
  have lk := ps3.length
  rw [List.length_map] at lk
  rw [List.nil_append] at e3
  refine ⟨_, rfl, o, ks, rfl, SqL.of e3, fun p hp => SqT.of (hk p hp), by omega, fun a L na hL1 hL2 => ?_⟩
  have nonempty : ∀ p ∈ L, p.2 ≠ [] := fun p hp e => by
    obtain ⟨C, hC, pm, _⟩ : ∃ C ∈ t.sets, p.2.Perm C ∧ p.2.Pairwise (· ≤ ·) := by
      obtain ⟨i, hi⟩ := List.mem_iff_getElem?.1 (hL1 p hp)
      obtain ⟨C, hC, r⟩ := All2.get ps3 (i := i) (a := p.2) (by rw [List.getElem?_map, hi]; rfl)
      exact ⟨C, List.mem_of_getElem? hC, r⟩
    rw [e] at pm
    exact sets_ne O.form C hC (List.nil_perm.1 pm)
  refine ⟨a, L, rfl, upd_same, fun p hp => SqT.of ((same_new na) _ _ (hk p (hL1 p hp))), nonempty, fun L' p1 pm nd lt np1 => ?_⟩
  refine ⟨p1, _, rfl, .inl ⟨SqL.of upd_same, fun l hl => ?_⟩⟩
  have s6 := fun o2 => ((s3.trans (same_new na)).trans (same_new np1)).trans (same_new (o := o2) hl)
  refine q _ l (L'.map fun q => V.ref q.1) (L'.map (·.2)) (s6 _) upd_same (SetsIn.of fun p hp => ?_) (fun C hC => ?_) (fun S hS => ?_) (by rw [List.length_map]; exact lt)
  · exact (same_new hl) _ _ ((same_new np1) _ _ ((same_new na) _ _ (hk p (hL1 p (pm.mem_iff.1 hp)))))
  · obtain ⟨i, hi⟩ := List.mem_iff_getElem?.1 hC
    obtain ⟨S, hS, r⟩ := All2.get' ps3 hi
    have hS2 := List.mem_of_getElem? hS
    obtain ⟨p, hp, rfl⟩ := List.mem_map.1 hS2
    exact ⟨p.2, ((pm.map (·.2)).mem_iff).2 (hL2 p hp), r.1⟩
  · obtain ⟨p, hp, rfl⟩ := List.mem_map.1 (((pm.map (·.2)).mem_iff).1 hS)
    obtain ⟨i, hi⟩ := List.mem_iff_getElem?.1 (hL1 p hp)
    obtain ⟨C, hC, r⟩ := All2.get ps3 (i := i) (a := p.2) (by rw [List.getElem?_map, hi]; rfl)
    exact ⟨C, List.mem_of_getElem? hC, r⟩
end
end K13

/-! K13 W5: the walk: shares. -/
namespace K13
open PySem PySem.Spec PyProof.Rows L2
def shW : Sh → Str
  | .non => "none"
  | .som => "some"
  | .all => "all"
theorem shW_eq (a b : Sh) : decide (V.str (shW a) = V.str (shW b)) = decide (a = b) := by cases a <;> cases b <;> decide +kernel
theorem inV_ints (x : Int) : ∀ S : List Int, inV (.int x) (S.map V.int) = setP S x
  | [] => by unfold setP; simp [inV]
  | y :: S => by
    have ih := inV_ints x S
    unfold inV setP at ih ⊢
    rw [List.map_cons, List.any_cons, ih]
    show (y == x || decide (x ∈ S)) = decide (x ∈ y :: S)
    by_cases e : y = x
    · subst e; simp
    · have : (y == x) = false := beq_eq_false_iff_ne.2 e
      rw [this, Bool.false_or]
      exact decide_eq_decide.2 ⟨fun h => List.mem_cons_of_mem _ h, fun h => (List.mem_cons.1 h).resolve_left fun z => e z.symm⟩
theorem flat_ints (S : List Int) : (S.map V.int).all flatV = true := by
  rw [List.all_map]; exact List.all_eq_true.2 fun _ _ => rfl
theorem sh_count (p : Int → Bool) (t : Tr) : sh p t = if (t.lv.filter p).length = 0 then .non else if (t.lv.filter p).length = t.lv.length then .all else .som := by
  unfold sh
  have e1 : t.lv.all (fun x => !p x) = true ↔ (t.lv.filter p).length = 0 := by
    rw [List.length_eq_zero_iff, List.filter_eq_nil_iff, List.all_eq_true]
    constructor
    · intro h x hx; have := h x hx; simpa using this
    · intro h x hx; have := h x hx; simpa using this
  have e2 : t.lv.all p = true ↔ (t.lv.filter p).length = t.lv.length := by
    rw [List.length_filter_eq_length_iff, List.all_eq_true]
  by_cases h1 : (t.lv.filter p).length = 0
  · rw [if_pos h1, if_pos (e1.2 h1)]
  · rw [if_neg h1, if_neg (fun z => h1 (e1.1 z))]
    by_cases h2 : (t.lv.filter p).length = t.lv.length
    · rw [if_pos h2, if_pos (e2.2 h2)]
    · rw [if_neg h2, if_neg (fun z => h2 (e2.1 z))]
/-- the chosen set -/
def ChAt (H : Hp) (c : Addr) (S : List Int) : Prop := H c = some (.tup (S.map V.int))
theorem ChAt.mono {H H' : Hp} {c : Addr} {S : List Int} (s : Same H H') (h : ChAt H c S) : ChAt H' c S := s _ _ h
section
variable {P : Program} {w : World} {K : Fg} {mg : Str → Option Value} {base : Heap}
abbrev s_share : Stmt := topS 29
abbrev N_share : List Str := ["tree", "chosen", "things", "count", "thing"]
theorem sc_share : FnScope N_share ["tree", "chosen"] (defScope s_share) := ⟨rfl, rfl, rfl, by decide +kernel, rfl, by decide +kernel, by decide +kernel⟩
def sp_share : Sp := fun vs H Q _ => ∃ (t : Tr) (v : V) (c : Addr) (S : List Int), vs = [v, .ref c] ∧ TreeAt H t v ∧ Form t ∧ t.lv.length ≤ 24 ∧ ChAt H c S ∧ ∀ H' : Hp, Same H H' → Q (.str (shW (sh (setP S) t))) H'
theorem ok_share (D : Def K mg "share" s_share ["tree", "chosen"]) (B : Bl mg) (c_listed : Can P w K mg base 26 "listed" ["tree"] (sp_listed 24)) : Can P w K mg base 27 "share" ["tree", "chosen"] sp_share := by
  refine D.ok sc_share (fun vs H Q E h => ?_) (fun f cdv A outer s H vs Q E hr h => ?_)
  · obtain ⟨t, v, c, S, rfl, _⟩ := h; rfl
  obtain ⟨t, v, c, S, rfl, ht, F, hl, hc, q⟩ := h
  refine ⟨_, (pss_cons (ps_set (i := 2) sc_share.nd rfl (.inl rfl) (pe_can c_listed hr (by omega) rfl (pa_cons (pv 0) pa_nil)))
      (pss_cons (ps_set (i := 3) sc_share.nd rfl (.inl rfl) (pe_callB call_len_seq rfl B.len bv_len (pa_cons (pe_lc (own := [("thing", 4)]) (g := gName 4) rfl sc_share.nd (pi_list (pv 2)) (blkOk_by (own := [("thing", 4)]) (N := N_share) (sc := defScope s_share) (by decide +kernel)) (fun _ _ _ _ _ => (pg_name (i := 4) sc_share.nd rfl (.inl rfl) (.inr rfl))) (fun _ _ _ _ _ => (pts_one (pt_cmpR (op_in_seqK K) (pv 4) (pv 1) rfl))) (fun _ _ _ _ _ => (pv 4))) pa_nil)))
      (pss_cons (ps_if (pt_cmpR op_eq (pv 3) pe_int (nomark _))
      (pss_one (ps_ret pe_str))
      pss_nil)
      (pss_cons (ps_if (pt_cmpR op_eq (pv 3) (pe_callB call_len_seq rfl B.len bv_len (pa_cons (pv 2) pa_nil)) (nomark _))
      (pss_one (ps_ret pe_str))
      pss_nil)
      (pss_one (ps_ret pe_str)))))), ?_⟩
  refine ⟨_, rfl, t, v, rfl, ht, F, hl, Nat.le_refl _, fun H1 p1 s1 np1 e1 => ?_⟩
  refine ⟨_, rfl, p1, rfl, ⟨_, SqL.of e1⟩, fun D2 nD2 => ?_⟩
  refine lc_list (xs := t.lv.map V.int) (fun i H' => Same H1 H' ∧ H' D2 = some (.lst (((t.lv.take i).filter (setP S)).map V.int))) ⟨same_new nD2, upd_same⟩ ?_ ?_ ?_
  · rintro i H' hi ⟨sm, _⟩
    exact SqL.of (sm _ _ e1)
  · rintro i x H' hx ⟨sm, e⟩
    rw [List.getElem?_map] at hx
    obtain ⟨z, hz, rfl⟩ : ∃ z, t.lv[i]? = some z ∧ x = .int z := by
      cases e : t.lv[i]? with
      | none => rw [e] at hx; cases hx
      | some z => rw [e] at hx; exact ⟨z, rfl, (Option.some.inj hx).symm⟩
    refine ⟨rfl, _, rfl, _, rfl, c, _, rfl, .inr (SqT.of (sm _ _ (s1 _ _ hc))), rfl, flat_ints S, setP S z, congrArg V.bl (inV_ints z S), ?_⟩
    have tk : (t.lv.take (i + 1)).filter (setP S) = (t.lv.take i).filter (setP S) ++ (if setP S z then [z] else []) := by
      rw [take_next hz, List.filter_append]
      congr 1
      rw [List.filter_cons]; simp
    have hi := (List.getElem?_eq_some_iff.1 hz).1
    cases ez : setP S z with
    | true =>
      refine iteT ⟨_, rfl, _, e, ?_, same_upd sm nD2, ?_⟩
      · rw [List.length_map]
        exact small1000 (Nat.le_trans (List.length_filter_le _ _) (by rw [List.length_take]; omega))
      · rw [upd_same, tk, ez, List.map_append]; rfl
    | false =>
      refine iteF ⟨sm, ?_⟩
      rw [tk, ez, e]; simp
  · rintro H2 ⟨s2, e2⟩
    rw [List.length_map, List.take_length] at e2
    refine ⟨D2, _, rfl, .inl (SqL.of e2), ?_⟩
    have sc := sh_count (setP S) t
    have sm := s1.trans s2
    refine ⟨_, rfl, rfl, _, rfl, ite2 (fun c => ?_) (fun c => ?_)⟩
    · have c' := V.int.inj (of_decide_eq_true c)
      rw [List.length_map] at c'
      rw [if_pos (by omega)] at sc
      have := q H2 sm
      rw [sc] at this
      exact this
    · have c1 : ¬ ((((t.lv.filter (setP S)).map V.int).length : Nat) : Int) = 0 := fun z => of_decide_eq_false (Bool.eq_false_iff.2 c) (congrArg V.int z)
      rw [List.length_map] at c1
      rw [if_neg (by omega)] at sc
      refine ⟨_, rfl, _, rfl, p1, _, rfl, .inl (SqL.of (s2 _ _ e1)), rfl, _, rfl, ite2 (fun c => ?_) (fun c => ?_)⟩
      · have c' := V.int.inj (of_decide_eq_true c)
        rw [List.length_map, List.length_map] at c'
        rw [if_pos (by omega)] at sc
        have := q H2 sm
        rw [sc] at this
        exact this
      · have c2 : ¬ ((((t.lv.filter (setP S)).map V.int).length : Nat) : Int) = (((t.lv.map V.int).length : Nat) : Int) := fun z => of_decide_eq_false (Bool.eq_false_iff.2 c) (congrArg V.int z)
        rw [List.length_map, List.length_map] at c2
        rw [if_neg (by omega)] at sc
        have := q H2 sm
        rw [sc] at this
        exact this

abbrev s_with_share : Stmt := topS 30
abbrev N_with_share : List Str := ["parts", "chosen", "wanted", "part"]
theorem sc_with_share : FnScope N_with_share ["parts", "chosen", "wanted"] (defScope s_with_share) := ⟨rfl, rfl, rfl, by decide +kernel, rfl, by decide +kernel, by decide +kernel⟩
def sp_with_share : Sp := fun vs H Q _ => ∃ (a : Addr) (us : List V) (ps : List Tr) (c : Addr) (S : List Int) (sw : Sh), vs = [.ref a, .ref c, .str (shW sw)] ∧ H a = some (.tup us) ∧ TreesAt H ps us ∧ (∀ p ∈ ps, Form p) ∧ (lvs ps).length ≤ 24 ∧ ChAt H c S ∧
  ∀ (H' : Hp) (p : Addr) (us' : List V), Same H H' → H p = none → H' p = some (.lst us') → TreesAt H' (wsh (setP S) sw ps) us' → Q (.ref p) H'
theorem ok_with_share (D : Def K mg "with_share" s_with_share ["parts", "chosen", "wanted"]) (c_share : Can P w K mg base 27 "share" ["tree", "chosen"] sp_share) : Can P w K mg base 28 "with_share" ["parts", "chosen", "wanted"] sp_with_share := by
  refine D.ok sc_with_share (fun vs H Q E h => ?_) (fun f cdv A outer s H vs Q E hr h => ?_)
  · obtain ⟨a, us, ps, c, S, sw, rfl, _⟩ := h; rfl
  obtain ⟨a, us, ps, c, S, sw, rfl, ha, hp, Fp, hl, hc, q⟩ := h
  refine ⟨_, (pss_one (ps_ret (pe_lc (own := [("part", 3)]) (g := gName 3) rfl sc_with_share.nd (pi_tup (pv 0)) (blkOk_by (own := [("part", 3)]) (N := N_with_share) (sc := defScope s_with_share) (by decide +kernel)) (fun _ _ _ _ _ => (pg_name (i := 3) sc_with_share.nd rfl (.inl rfl) (.inr rfl))) (fun _ _ _ _ _ => (pts_one (pt_cmpR op_eq (pe_can c_share hr (by omega) rfl (pa_cons (pv 3) (pa_cons (pv 1) pa_nil))) (pv 2) (nomark _)))) (fun _ _ _ _ _ => (pv 3))))), ?_⟩
  have len := hp.length
  have lp := lvs_len Fp
  refine ⟨_, rfl, a, rfl, ⟨_, SqT.of ha⟩, fun D1 nD1 => ?_⟩
  refine lc_tup (xs := us) (fun i H' => Same H H' ∧ ∃ acc, H' D1 = some (.lst acc) ∧ TreesAt H' (wsh (setP S) sw (ps.take i)) acc) ⟨same_new nD1, [], upd_same, .nil⟩ ?_ ?_ ?_
  · rintro i H' hi ⟨sm, _⟩
    exact SqT.of (sm _ _ ha)
  · rintro i x H' hx ⟨sm, acc, e, ta⟩
    obtain ⟨t, ht1, ht2⟩ := All2.get' hp hx
    have hm := List.mem_of_getElem? ht1
    have hi := (List.getElem?_eq_some_iff.1 ht1).1
    have tk : wsh (setP S) sw (ps.take (i + 1)) = wsh (setP S) sw (ps.take i) ++ (if sh (setP S) t = sw then [t] else []) := by
      rw [take_next ht1, wsh_append, wsh_cons]; rfl
    refine ⟨rfl, _, rfl, _, rfl, t, x, c, S, rfl, ht2.mono (sameT_of sm), Fp t hm, Nat.le_trans (part_le hm) hl, hc.mono sm, fun H2 s2 => ?_⟩
    refine ⟨_, rfl, rfl, _, congrArg V.bl (shW_eq (sh (setP S) t) sw), ite2 (fun c => ?_) (fun c => ?_)⟩
    · have c' : sh (setP S) t = sw := of_decide_eq_true c
      refine ⟨_, rfl, acc, s2 _ _ e, ?_, same_upd (sm.trans s2) nD1, acc ++ [x], upd_same, ?_⟩
      · have := ta.length
        have l2 : (wsh (setP S) sw (ps.take i)).length ≤ (ps.take i).length := List.length_filter_le _ _
        rw [List.length_take] at l2
        exact small1000 (by omega)
      · rw [tk, if_pos c']
        exact trees_push ta (sameT_of s2) (ht2.mono (sameT_of (sm.trans s2))) (s2 _ _ e)
    · have c' : ¬ sh (setP S) t = sw := of_decide_eq_false (Bool.eq_false_iff.2 c)
      refine ⟨sm.trans s2, acc, s2 _ _ e, ?_⟩
      rw [tk, if_neg c', List.append_nil]
      exact ta.mono (sameT_of s2)
  · rintro H' ⟨sm, acc, e, ta⟩
    rw [← len, List.take_length] at ta
    exact q H' D1 acc sm nD1 e ta

abbrev s_ascends : Stmt := topS 32
abbrev N_ascends : List Str := ["shares", "ranks", "told"]
theorem sc_ascends : FnScope N_ascends ["shares"] (defScope s_ascends) := ⟨rfl, rfl, rfl, by decide +kernel, rfl, by decide +kernel, by decide +kernel⟩
def rankN : Sh → Nat
  | .non => 0
  | .som => 1
  | .all => 2
theorem rankN_eq (a : Sh) : ((rankN a : Nat) : Int) = rank a := by cases a <;> rfl
def wordsT : List Str := ["none", "some", "all"]
theorem words_at (a : Sh) : wordsT[rankN a]? = some (shW a) := by cases a <;> rfl
theorem words_no (a : Sh) : ∀ m, m < rankN a → wordsT[m]? ≠ some (shW a) := by
  cases a with
  | non => intro m h; exact absurd h (Nat.not_lt_zero _)
  | som =>
    intro m h
    have : m = 0 := by have : m < 1 := h; omega
    subst this; decide +kernel
  | all =>
    intro m h
    have h : m < 2 := h
    match m, h with
    | 0, _ => decide +kernel
    | 1, _ => decide +kernel
def shVs (ss : List Sh) : List V := ss.map fun a => V.str (shW a)
def sp_ascends : Sp := fun vs H Q _ => ∃ (a : Addr) (ss : List Sh), vs = [.ref a] ∧ H a = some (.lst (shVs ss)) ∧ ss.length ≤ 1000 ∧ ∀ H' : Hp, Same H H' → Q (.bl (decide (Asc ss))) H'
theorem ok_ascends (D : Def K mg "ascends" s_ascends ["shares"]) (B : Bl mg) : Can P w K mg base 1 "ascends" ["shares"] sp_ascends := by
  refine D.ok sc_ascends (fun vs H Q E h => ?_) (fun f cdv A outer s H vs Q E hr h => ?_)
  · obtain ⟨a, ss, rfl, _⟩ := h; rfl
  obtain ⟨a, ss, rfl, ha, hl, q⟩ := h
  refine ⟨_, (pss_cons (ps_setLc (i := 1) (own := [("told", 2)]) (g := gName 2) rfl sc_ascends.nd rfl rfl (sw_true rfl rfl rfl (by decide +kernel)) (pi_list (pv 0)) (blkOk_by (own := [("told", 2)]) (N := N_ascends) (sc := defScope s_ascends) (by decide +kernel)) (fun _ _ _ _ _ => (pg_name (i := 2) sc_ascends.nd rfl (.inl rfl) (.inr rfl))) (fun _ _ _ _ _ => pts_nil) (fun _ _ _ _ _ => (pe_bmX PySem.F.plainAttrs_tuple PySem.F.slot_tuple_index PySem.F.type_tuple_index mt_tup_indexX (pe_tupX (pa_cons pe_str (pa_cons pe_str (pa_cons pe_str pa_nil)))) (pa_cons (pv 2) pa_nil))))
      (pss_one (ps_ret (pe_and (pe_cmpR (op_eqD hr.units) (pv 1) (pe_callB cr_sortedI rfl B.sorted bv_sorted (pa_cons (pv 1) pa_nil)) (nomark _)) (pe_one (pe_cmpR op_lt (pe_bm PySem.F.plainAttrs_list PySem.F.slot_list_count PySem.F.type_list_count mt_lcount (pv 1) (pa_cons pe_int pa_nil)) pe_int (nomark _))))))), ?_⟩
  have ll : (shVs ss).length = ss.length := List.length_map _
  refine ⟨_, rfl, a, rfl, ⟨_, SqL.of ha⟩, fun D1 nD1 => ?_⟩
  refine lc_list (xs := shVs ss) (fun i H' => Same H H' ∧ H' D1 = some (.lst (((ss.take i).map rank).map V.int))) ⟨same_new nD1, upd_same⟩ ?_ ?_ ?_
  · rintro i H' hi ⟨sm, _⟩
    exact SqL.of (sm _ _ ha)
  · rintro i x H' hx ⟨sm, e⟩
    have hi : i < ss.length := by rw [← ll]; exact (List.getElem?_eq_some_iff.1 hx).1
    have hs := List.getElem?_eq_getElem hi
    have ex : x = .str (shW ss[i]) := by
      unfold shVs at hx
      rw [List.getElem?_map, hs] at hx
      exact (Option.some.inj hx).symm
    subst ex
    refine ⟨rfl, (by show 3 ≤ sizeLine; decide), fun p hp => ⟨⟨p, _, rfl, upd_same⟩, _, rfl, p, wordsT, shW ss[i], rankN ss[i], rfl, rfl, upd_same, words_at _, words_no _, ?_⟩⟩
    have npD : D1 ≠ p := ne_of_none e hp
    have s2 : Same H' (upd (upd H' p (TupX p (wordsT.map V.str))) p (.tup (wordsT.map V.str))) := by rw [upd_upd]; exact same_new hp
    refine ⟨_, s2 _ _ e, ?_, same_upd (sm.trans s2) nD1, ?_⟩
    · rw [List.length_map, List.length_map, List.length_take]; exact small1000 (by omega)
    · rw [upd_same, take_next hs, List.map_append, List.map_append, rankN_eq]; rfl
  · rintro H1 ⟨s1, e1⟩
    rw [ll, List.take_length] at e1
    refine ⟨_, rfl, _, rfl, D1, _, rfl, SqL.of e1, fun ns p pm pw np => ?_⟩
    refine eq_lists (ns := ss.map rank) (ms := ns) (SqL.of ((same_new np) _ _ e1)) (SqL.of upd_same) ⟨_, rfl, ite2 (fun c => ?_) (fun c => ?_)⟩
    · have c' : ss.map rank = ns := of_decide_eq_true c
      refine ⟨_, rfl, .inl ⟨rfl, _, SqL.of ((same_new np) _ _ e1)⟩, D1, ss.map rank, 1, rfl, rfl, SqL.of ((same_new np) _ _ e1), _, _, rfl, rfl, ?_⟩
      have e : decide (Asc ss) = decide ((((ss.map rank).count 1 : Nat) : Int) < 2) := by
        refine decide_eq_decide.2 ?_
        unfold Asc
        rw [c']
        exact ⟨fun h => by have := h.2; omega, fun h => ⟨pw, by omega⟩⟩
      have := q _ (s1.trans (same_new (o := .lst (ns.map V.int)) np))
      rw [e] at this
      exact this
    · have c' : ¬ ss.map rank = ns := of_decide_eq_false (Bool.eq_false_iff.2 c)
      have e : decide (Asc ss) = false := decide_eq_false fun h => c' (sorted_one pm.symm h.1 pw)
      have := q _ (s1.trans (same_new (o := .lst (ns.map V.int)) np))
      rw [e] at this
      exact this
end
end K13

/-! K13 W6: the walk: splitting. -/
namespace K13
open PySem PySem.Spec PyProof.Rows L2
/-! ### sizes -/
theorem split_lvs {p : Int → Bool} {t : Tr} {L : List Tr} (h : SplitSome p t L) : (lvs L).Perm t.lv := ((h.iff _).1 (seq_lvs L)).1.perm
theorem split_len {p : Int → Bool} {t : Tr} {L : List Tr} (h : SplitSome p t L) : L.length ≤ t.lv.length := by
  rw [← (split_lvs h).length_eq]; exact lvs_len h.form
theorem split_some {p : Int → Bool} {n : Nat} {t : Tr} {L : List Tr} (F : Form t) (hs : sh p t = .som) (hl : t.lv.length ≤ n) (e : split p n t = some L) : SplitSome p t L := by
  have := split_ok n t F hs hl
  rw [e] at this
  exact this
theorem expand_lvs {p : Int → Bool} {inner : Inner} : ∀ {qs L : List Tr}, (∀ q ∈ qs, Form q) → (∀ q ∈ qs, sh p q = .som → SplitOK p q (inner q)) → expand p inner qs = some L → (lvs L).Perm (lvs qs) ∧ ∀ q ∈ L, Form q
  | [], L, _, _, e => by
    have : L = [] := (Option.some.inj e).symm
    subst this
    exact ⟨.refl _, fun _ h => nomatch h⟩
  | q :: qs, L, F, I, e => by
    rw [expand_cons] at e
    have Fq := F q List.mem_cons_self
    have F' : ∀ x ∈ qs, Form x := fun x hx => F x (List.mem_cons_of_mem _ hx)
    have I' : ∀ x ∈ qs, sh p x = .som → SplitOK p x (inner x) := fun x hx => I x (List.mem_cons_of_mem _ hx)
    by_cases hs : sh p q = .som
    · rw [if_pos hs] at e
      have iq := I q List.mem_cons_self hs
      cases e1 : inner q with
      | none => rw [e1] at e; cases e
      | some L1 =>
        rw [e1] at e iq
        have iq : SplitSome p q L1 := iq
        cases e2 : expand p inner qs with
        | none => rw [e2] at e; cases e
        | some L2 =>
          rw [e2] at e
          have : L = L1 ++ L2 := (Option.some.inj e).symm
          subst this
          obtain ⟨pm, fm⟩ := expand_lvs F' I' e2
          refine ⟨by rw [lvs_append, lvs_cons]; exact (split_lvs iq).append pm, fun x hx => (List.mem_append.1 hx).elim (iq.form x) (fm x)⟩
    · rw [if_neg hs] at e
      cases e2 : expand p inner qs with
      | none => rw [e2] at e; cases e
      | some L2 =>
        rw [e2] at e
        have : L = q :: L2 := (Option.some.inj e).symm
        subst this
        obtain ⟨pm, fm⟩ := expand_lvs F' I' e2
        refine ⟨by rw [lvs_cons, lvs_cons]; exact pm.append_left _, fun x hx => (List.mem_cons.1 hx).elim (fun z => z ▸ Fq) (fm x)⟩
theorem expand_snoc {p : Int → Bool} {inner : Inner} {qs L : List Tr} {q : Tr} (e : expand p inner qs = some L) : expand p inner (qs ++ [q]) = if sh p q = .som then (inner q).map fun M => L ++ M else some (L ++ [q]) := by
  rw [expand_append, e, expand_cons]
  by_cases h : sh p q = .som
  · rw [if_pos h, if_pos h]
    cases inner q with
    | none => rfl
    | some M => show some (L ++ (M ++ [])) = some (L ++ M); rw [List.append_nil]
  · rw [if_neg h, if_neg h]; rfl
theorem expand_stop {p : Int → Bool} {inner : Inner} {l r : List Tr} {q : Tr} (h : sh p q = .som) (e : inner q = none) : expand p inner (l ++ q :: r) = none := by
  rw [expand_append, expand_cons, if_pos h, e]
  cases expand p inner l <;> rfl
theorem optAny_len (E : List Tr) : (optAny E).length ≤ 1 := by
  by_cases h : E = []
  · subst h; exact Nat.zero_le _
  · rw [len_optAny h]; exact Nat.le_refl _
theorem wsh_forms {p : Int → Bool} {s : Sh} {ps : List Tr} (F : ∀ q ∈ ps, Form q) : ∀ q ∈ wsh p s ps, Form q := fun q hq => F q (mem_wsh.1 hq).1
theorem wsh_lvs {p : Int → Bool} {s : Sh} {ps : List Tr} : (lvs (wsh p s ps)).length ≤ (lvs ps).length := by
  induction ps with
  | nil => exact Nat.le_refl _
  | cons q r ih =>
    rw [wsh_cons, lvs_cons, List.length_append]
    split
    · rw [lvs_cons, List.length_append]; omega
    · omega
/-! ### what a split hands back -/
inductive OptL (H0 H : Hp) : Option (List Tr) → V → Prop where
  | none : OptL H0 H none .non
  | some {p : Addr} {us : List V} {L : List Tr} : H0 p = none → H p = some (.lst us) → TreesAt H L us → OptL H0 H (some L) (.ref p)
theorem OptL.mono {H0 H H' : Hp} (s : Same H H') {r : Option (List Tr)} {v : V} (h : OptL H0 H r v) : OptL H0 H' r v := by
  cases h with
  | none => exact .none
  | some n e t => exact .some n (s _ _ e) (t.mono (sameT_of s))
theorem OptL.less {H0 H1 H : Hp} (s : ∀ p, H0 p = Option.none → H1 p = Option.none) {r : Option (List Tr)} {v : V} (h : OptL H0 H r v) : OptL H1 H r v := by
  cases h with
  | none => exact .none
  | some n e t => exact .some (s _ n) e t
/-- [share(part, chosen) for part in parts], parts a list or a tuple -/
theorem lc_shares {it : Addr → It} {K : Fg} {Sq : Hp → Addr → List V → Prop} (hit : ∀ {a : Addr} {xs : List V} {g : TG} {tt : TT} {te : TE} {vs : List Nat} {σ : L2.St} {H1 : Hp} {D : Addr} {Qd : Hp → Prop} (Pv : Nat → Hp → Prop) (h0 : Pv 0 (upd H1 D (.lst []))) (hl : ∀ i H, i ≤ xs.length → Pv i H → Sq H a xs)
      (hs : ∀ i x H, xs[i]? = some x → Pv i H → g x (wipe σ vs) H fun σ2 H2 => wipe σ2 vs = wipe σ vs ∧ tt σ2 H2 fun b H3 =>
        if b = true then te σ2 H3 fun y H4 => ∃ acc, H4 D = some (.lst acc) ∧ acc.length < sizeLine ∧ Pv (i + 1) (upd H4 D (.lst (acc ++ [y]))) else Pv (i + 1) H3) (hd : ∀ H, Pv xs.length H → Qd H),
      ∃ W : Nat → Nat → Hp → Prop, (∃ m, W 0 m (upd H1 D (.lst []))) ∧ ∀ i m H, W i m H →
        ((it a).stop i H ∧ Qd H) ∨ ((it a).go i H ∧ ∃ Nx : Hp → Prop, (∀ H', Nx H' → ∃ m', m' < m ∧ W (i + 1) m' H') ∧ ∀ x H', (it a).yld i H x H' → g x (wipe σ vs) H' fun σ2 H2 => wipe σ2 vs = wipe σ vs ∧ tt σ2 H2 fun b H3 =>
          if b = true then te σ2 H3 fun y H4 => ∃ acc, H4 D = some (.lst acc) ∧ acc.length < sizeLine ∧ Nx (upd H4 D (.lst (acc ++ [y]))) else Nx H3))
    {a : Addr} {us : List V} {ps : List Tr} {c : Addr} {S : List Int} {i j : Nat} {vs : List Nat} {σ : L2.St} {H1 : Hp} {D : Addr} {Qd : Hp → Prop} (nD : H1 D = none) (hsq : ∀ H, Same H1 H → Sq H a us) (hp : TreesAt H1 ps us) (Fp : ∀ p ∈ ps, Form p) (hl : (lvs ps).length ≤ 24) (hc : ChAt H1 c S)
    (hw : ∀ x, wipe ((wipe σ vs).set i (some x)) vs = wipe σ vs) (hi : ∀ x, ((wipe σ vs).set i (some x))[i]? = some (some x)) (hj : ∀ x, ((wipe σ vs).set i (some x))[j]? = some (some (.ref c)))
    (hd : ∀ H, Same H1 H → H D = some (.lst (shVs (ps.map (sh (setP S))))) → Qd H) :
    ∃ W : Nat → Nat → Hp → Prop, (∃ m, W 0 m (upd H1 D (.lst []))) ∧ ∀ k m H, W k m H →
      ((it a).stop k H ∧ Qd H) ∨ ((it a).go k H ∧ ∃ Nx : Hp → Prop, (∀ H', Nx H' → ∃ m', m' < m ∧ W (k + 1) m' H') ∧ ∀ x H', (it a).yld k H x H' → gName i x (wipe σ vs) H' fun σ2 H2 => wipe σ2 vs = wipe σ vs ∧ tYes σ2 H2 fun b H3 =>
        if b = true then (tCall sp_share [] E0 (tCons (tVar i) (tCons (tVar j) tNil))) σ2 H3 fun y H4 => ∃ acc, H4 D = some (.lst acc) ∧ acc.length < sizeLine ∧ Nx (upd H4 D (.lst (acc ++ [y]))) else Nx H3) := by
  have lp := lvs_len Fp
  have len := hp.length
  refine hit (xs := us) (fun k H' => Same H1 H' ∧ H' D = some (.lst (shVs ((ps.take k).map (sh (setP S)))))) ⟨same_new nD, upd_same⟩ ?_ ?_ ?_
  · rintro k H' hk ⟨sm, _⟩
    exact hsq _ sm
  · rintro k x H' hx ⟨sm, e⟩
    obtain ⟨t, ht1, ht2⟩ := All2.get' hp hx
    have hm := List.mem_of_getElem? ht1
    have hk := (List.getElem?_eq_some_iff.1 ht1).1
    refine ⟨hw x, x, hi x, _, hj x, t, x, c, S, rfl, ht2.mono (sameT_of sm), Fp t hm, Nat.le_trans (part_le hm) hl, hc.mono sm, fun H2 s2 => ⟨_, s2 _ _ e, ?_, same_upd (sm.trans s2) nD, ?_⟩⟩
    · unfold shVs
      rw [List.length_map, List.length_map, List.length_take]
      exact small1000 (by omega)
    · rw [upd_same, take_next ht1]
      unfold shVs
      rw [List.map_append, List.map_append]; rfl
  · rintro H ⟨sm, e⟩
    rw [← len, List.take_length] at e
    exact hd H sm e
section
variable {P : Program} {w : World} {K : Fg} {mg : Str → Option Value} {base : Heap}
abbrev s_split_any : Stmt := topS 31
abbrev N_split_any : List Str := ["parts", "chosen", "empty", "full", "mixed", "found", "inner"]
theorem sc_split_any : FnScope N_split_any ["parts", "chosen"] (defScope s_split_any) := ⟨rfl, rfl, rfl, by decide +kernel, rfl, by decide +kernel, by decide +kernel⟩
abbrev s_split_row : Stmt := topS 33
abbrev N_split_row : List Str := ["parts", "chosen", "told", "found", "part", "inner"]
theorem sc_split_row : FnScope N_split_row ["parts", "chosen"] (defScope s_split_row) := ⟨rfl, rfl, rfl, by decide +kernel, rfl, by decide +kernel, by decide +kernel⟩
abbrev s_split : Stmt := topS 34
abbrev N_split : List Str := ["tree", "chosen"]
theorem sc_split : FnScope N_split ["tree", "chosen"] (defScope s_split) := ⟨rfl, rfl, rfl, by decide +kernel, rfl, by decide +kernel, by decide +kernel⟩
def sp_split (n : Nat) : Sp := fun vs H Q _ => ∃ (t : Tr) (v : V) (c : Addr) (S : List Int), vs = [v, .ref c] ∧ TreeAt H t v ∧ Form t ∧ sh (setP S) t = .som ∧ t.lv.length ≤ n ∧ n ≤ 24 ∧ ChAt H c S ∧
  ∀ (H' : Hp) (v' : V), Same H H' → OptL H H' (split (setP S) n t) v' → Q v' H'
def sp_split_any (n : Nat) : Sp := fun vs H Q _ => ∃ (a : Addr) (us : List V) (ps : List Tr) (c : Addr) (S : List Int), vs = [.ref a, .ref c] ∧ H a = some (.tup us) ∧ TreesAt H ps us ∧ Form (.node false ps) ∧ (lvs ps).length ≤ n + 1 ∧ n + 1 ≤ 24 ∧ ChAt H c S ∧
  ∀ (H' : Hp) (v' : V), Same H H' → OptL H H' (splitAny (setP S) (split (setP S) n) ps) v' → Q v' H'
def sp_split_row (n : Nat) : Sp := fun vs H Q _ => ∃ (a : Addr) (us : List V) (ps : List Tr) (c : Addr) (S : List Int), vs = [.ref a, .ref c] ∧ H a = some (.tup us) ∧ TreesAt H ps us ∧ Form (.node true ps) ∧ (lvs ps).length ≤ n + 1 ∧ n + 1 ≤ 24 ∧ ChAt H c S ∧
  ∀ (H' : Hp) (v' : V), Same H H' → OptL H H' (splitRow (setP S) (split (setP S) n) ps) v' → Q v' H'
/-- the middle of a split -/
def midS (p : Int → Bool) (inner : Inner) (M : List Tr) : Option (List Tr) := match M with
  | [] => some []
  | m :: _ => inner m
theorem splitAny_mid {p : Int → Bool} {inner : Inner} {ps : List Tr} (h : (wsh p .som ps).length ≤ 1) : splitAny p inner ps = (midS p inner (wsh p .som ps)).map fun L => optAny (wsh p .non ps) ++ L ++ optAny (wsh p .all ps) := by
  unfold splitAny midS
  match hm : wsh p .som ps, h with
  | [], _ => simp
  | [m], _ => rfl
  | _ :: _ :: _, h => simp at h
theorem splitAny_many {p : Int → Bool} {inner : Inner} {ps : List Tr} (h : ¬ (wsh p .som ps).length ≤ 1) : splitAny p inner ps = none := by
  unfold splitAny
  match hm : wsh p .som ps, h with
  | [], h => simp at h
  | [m], h => simp at h
  | _ :: _ :: _, _ => rfl
theorem ok_split_any (D : Def K mg "split_any" s_split_any ["parts", "chosen"]) (B : Bl mg) {n : Nat} (c_split : Can P w K mg base (30 + 2 * n) "split" ["tree", "chosen"] (sp_split n)) (c_with_share : Can P w K mg base 28 "with_share" ["parts", "chosen", "wanted"] sp_with_share) (c_make_any : Can P w K mg base 1 "make_any" ["parts"] sp_make_any) :
    Can P w K mg base (31 + 2 * n) "split_any" ["parts", "chosen"] (sp_split_any n) := by
  rw [show 31 + 2 * n = (30 + 2 * n) + 1 by omega]
  refine D.ok sc_split_any (fun vs H Q E h => ?_) (fun f cdv A outer s H vs Q E hr h => ?_)
  · obtain ⟨a, us, ps, c, S, rfl, _⟩ := h; rfl
  obtain ⟨a, us, ps, c, S, rfl, ha, hp, F, hl, h24, hc, q⟩ := h
  have Fp := F.parts
  have hl24 : (lvs ps).length ≤ 24 := by omega
  refine ⟨_, (pss_cons (ps_set (i := 2) sc_split_any.nd rfl (.inl rfl) (pe_can c_with_share hr (by omega) rfl (pa_cons (pv 0) (pa_cons (pv 1) (pa_cons pe_str pa_nil)))))
      (pss_cons (ps_set (i := 3) sc_split_any.nd rfl (.inl rfl) (pe_can c_with_share hr (by omega) rfl (pa_cons (pv 0) (pa_cons (pv 1) (pa_cons pe_str pa_nil)))))
      (pss_cons (ps_set (i := 4) sc_split_any.nd rfl (.inl rfl) (pe_can c_with_share hr (by omega) rfl (pa_cons (pv 0) (pa_cons (pv 1) (pa_cons pe_str pa_nil)))))
      (pss_cons (ps_if (pt_cmpR op_gt (pe_callB call_len_seq rfl B.len bv_len (pa_cons (pv 4) pa_nil)) pe_int (nomark _))
      (pss_one (ps_ret pe_non))
      pss_nil)
      (pss_cons (ps_set (i := 5) sc_split_any.nd rfl (.inl rfl) (pe_lst pa_nil))
      (C8.pss_cut (ps_if (pt_cmpR (op_neD hr.units) (pv 2) (pe_lst pa_nil) (nomark _))
      (pss_one (ps_expr (pe_bm PySem.F.plainAttrs_list PySem.F.slot_list_append PySem.F.type_list_append mt_append (pv 5) (pa_cons (pe_can c_make_any hr (by omega) rfl (pa_cons (pv 2) pa_nil)) pa_nil))))
      pss_nil)
      (C8.pss_cut (ps_if (pt_cmpR (op_neD hr.units) (pv 4) (pe_lst pa_nil) (nomark _))
      (pss_cons (ps_set (i := 6) sc_split_any.nd rfl (.inl rfl) (pe_can c_split hr (by omega) rfl (pa_cons (pe_ix ix_list (pv 4) pe_int (fun _ _ => rfl)) (pa_cons (pv 1) pa_nil))))
      (pss_cons (ps_if (pt_cmpR op_isN (pv 6) pe_non (nomark _))
      (pss_one (ps_ret pe_non))
      pss_nil)
      (pss_one (ps_expr (pe_bm PySem.F.plainAttrs_list PySem.F.slot_list_extend PySem.F.type_list_extend mt_extend (pv 5) (pa_cons (pv 6) pa_nil))))))
      pss_nil)
      (C8.pss_cut (ps_if (pt_cmpR (op_neD hr.units) (pv 3) (pe_lst pa_nil) (nomark _))
      (pss_one (ps_expr (pe_bm PySem.F.plainAttrs_list PySem.F.slot_list_append PySem.F.type_list_append mt_append (pv 5) (pa_cons (pe_can c_make_any hr (by omega) rfl (pa_cons (pv 3) pa_nil)) pa_nil))))
      pss_nil)
      (pss_one (ps_ret (pv 5))))))))))), ?_⟩
  refine ⟨_, rfl, _, rfl, a, us, ps, c, S, .non, rfl, ha, hp, Fp, hl24, hc, fun H1 p1 u1 s1 n1 e1 t1 => ?_⟩
  refine ⟨_, rfl, _, rfl, a, us, ps, c, S, .all, rfl, s1 _ _ ha, hp.mono (sameT_of s1), Fp, hl24, hc.mono s1, fun H2 p2 u2 s2 n2 e2 t2 => ?_⟩
  have s12 := s1.trans s2
  refine ⟨_, rfl, _, rfl, a, us, ps, c, S, .som, rfl, s12 _ _ ha, hp.mono (sameT_of s12), Fp, hl24, hc.mono s12, fun H3 p3 u3 s3 n3 e3 t3 => ?_⟩
  have s13 := s12.trans s3
  have e1 := s3 _ _ (s2 _ _ e1)
  have t1 := t1.mono (sameT_of (s2.trans s3))
  have e2 := s3 _ _ e2
  have t2 := t2.mono (sameT_of s3)
  have hc3 := hc.mono s13
  clear s1 s2 s3 s12 n1 n2 n3
  generalize hE : wsh (setP S) .non ps = EE at t1
  generalize hF : wsh (setP S) .all ps = FF at t2
  generalize hM : wsh (setP S) .som ps = MM at t3
  have fE : ∀ q ∈ EE, Form q := by rw [← hE]; exact wsh_forms Fp
  have fF : ∀ q ∈ FF, Form q := by rw [← hF]; exact wsh_forms Fp
  have fM : ∀ q ∈ MM, Form q := by rw [← hM]; exact wsh_forms Fp
  have lE : (lvs EE).length ≤ 24 := by rw [← hE]; exact Nat.le_trans wsh_lvs hl24
  have lF : (lvs FF).length ≤ 24 := by rw [← hF]; exact Nat.le_trans wsh_lvs hl24
  have lM : (lvs MM).length ≤ 24 := by rw [← hM]; exact Nat.le_trans wsh_lvs hl24
  have len3 := t3.length
  refine ⟨_, rfl, p3, _, rfl, .inl (SqL.of e3), _, _, rfl, rfl, _, rfl, ite2 (fun cc => ?_) (fun cc => ?_)⟩
  · have c' : (1 : Int) < (u3.length : Int) := of_decide_eq_true cc
    refine q H3 .non s13 ?_
    rw [splitAny_many (by rw [hM]; omega)]
    exact .none
  have c' : ¬ (1 : Int) < (u3.length : Int) := of_decide_eq_false (Bool.eq_false_iff.2 cc)
  have one : MM.length ≤ 1 := by omega
  have res := splitAny_mid (p := setP S) (inner := split (setP S) n) (ps := ps) (by rw [hM]; exact one)
  rw [hE, hF, hM] at res
  refine ⟨Nat.zero_le _, fun o no => ?_⟩
  -- if empty != []
  refine ⟨fun σ' H' => σ' = [some (.ref a), some (.ref c), some (.ref p1), some (.ref p2), some (.ref p3), some (.ref o), none] ∧ Same H3 H' ∧ ∃ ws, H' o = some (.lst ws) ∧ TreesAt H' (optAny EE) ws, ?_, ?_⟩
  · have s0 : Same H3 (upd H3 o (.lst [])) := same_new no
    refine ⟨_, rfl, Nat.zero_le _, fun z nz => ?_⟩
    have s1 := s0.trans (same_new (o := .lst []) nz)
    have eo : upd (upd H3 o (.lst [])) z (.lst []) o = some (.lst []) := (same_new nz) _ _ upd_same
    refine ne_nil_trees (ps := EE) (SqL.of (s1 _ _ e1)) (t1.mono (sameT_of s1)) fE lE (SqL.of upd_same) ⟨_, rfl, ?_⟩
    by_cases hne : EE = []
    · rw [decide_eq_true hne]
      refine ⟨rfl, s1, [], eo, ?_⟩
      rw [hne]; exact .nil
    · rw [decide_eq_false hne]
      refine ⟨_, rfl, .inl ⟨rfl, _, SqL.of eo⟩, _, rfl, p1, _, EE, rfl, s1 _ _ e1, t1.mono (sameT_of s1), hne, fun H5 v s5 tv => ⟨o, [], v, rfl, rfl, s5 _ _ eo, small1000 (Nat.zero_le _), ?_⟩⟩
      refine ⟨rfl, same_upd (s1.trans s5) no, [v], upd_same, ?_⟩
      unfold optAny
      rw [if_neg hne]
      exact .cons (tv.mono (sameT_lst (s5 _ _ eo))) .nil
  rintro σ' H4 ⟨rfl, s4, ws4, eo4, tw4⟩
  -- if mixed != []
  refine ⟨fun σ' H' => ∃ y6, σ' = [some (.ref a), some (.ref c), some (.ref p1), some (.ref p2), some (.ref p3), some (.ref o), y6] ∧ Same H3 H' ∧ ∃ L ws, midS (setP S) (split (setP S) n) MM = some L ∧ L.length ≤ 24 ∧ H' o = some (.lst ws) ∧ TreesAt H' (optAny EE ++ L) ws, ?_, ?_⟩
  · refine ⟨_, rfl, Nat.zero_le _, fun z nz => ?_⟩
    have s5 := s4.trans (same_new (o := .lst []) nz)
    have sz : Same H4 (upd H4 z (.lst [])) := same_new nz
    have eo : upd H4 z (.lst []) o = some (.lst ws4) := sz _ _ eo4
    refine ne_nil_trees (ps := MM) (SqL.of (s5 _ _ e3)) (t3.mono (sameT_of s5)) fM lM (SqL.of upd_same) ⟨_, rfl, ?_⟩
    match MM, u3, t3, hM, one with
    | [], _, t3, hM, _ =>
      refine ⟨none, rfl, s5, [], ws4, rfl, Nat.zero_le _, eo, ?_⟩
      rw [List.append_nil]; exact tw4.mono (sameT_of sz)
    | [m], [v0], .cons t3m .nil, hM, _ =>
      have mm : m ∈ wsh (setP S) .som ps := by rw [hM]; exact List.mem_cons_self
      have ms := (mem_wsh.1 mm).2
      have mf := Fp m (mem_wsh.1 mm).1
      have ml : m.lv.length ≤ n := by
        have := F.lt (mem_wsh.1 mm).1
        rw [lv_node] at this
        omega
      refine ⟨_, rfl, p3, [v0], 0, v0, rfl, rfl, SqL.of (s5 _ _ e3), rfl, _, rfl, m, v0, c, S, rfl, t3m.mono (sameT_of s5), mf, ms, ml, by omega, hc3.mono s5, fun H6 v6 s6 o6 => ?_⟩
      have s56 := s5.trans s6
      cases hr6 : split (setP S) n m with
      | none =>
        rw [hr6] at o6
        cases o6
        refine ⟨_, rfl, rfl, true, rfl, iteT ?_⟩
        refine q H6 .non (s13.trans s56) ?_
        rw [res]
        show OptL H H6 ((split (setP S) n m).map _) .non
        rw [hr6]
        exact .none
      | some L =>
        rw [hr6] at o6
        cases o6 with
        | @some p6 u6 _ f6 e6 t6 =>
          have len6 := t6.length
          have lL := split_len (split_some mf ms ml hr6)
          have l4 := tw4.length
          have lo := optAny_len EE
          refine ⟨_, rfl, rfl, false, bF (fun z => nomatch z), iteF ?_⟩
          refine ⟨_, rfl, .inl ⟨rfl, _, SqL.of (s6 _ _ eo)⟩, _, rfl, o, p6, ws4, u6, rfl, rfl, s6 _ _ eo, e6, sl1000 (by omega), ?_⟩
          refine ⟨_, rfl, same_upd s56 no, L, ws4 ++ u6, hr6, by omega, upd_same, ?_⟩
          exact TreesAt.mono (sameT_lst (s6 _ _ eo)) (All2.app ((tw4.mono (sameT_of sz)).mono (sameT_of s6)) t6)
    | _ :: _ :: _, _, _, _, h => simp at h
    | [_], _ :: _ :: _, .cons _ h, _, _ => cases h
  rintro σ' H5 ⟨y6, rfl, s5, L, ws5, hmid, lL, eo5, tw5⟩
  -- if full != []
  refine ⟨fun σ' H' => σ' = [some (.ref a), some (.ref c), some (.ref p1), some (.ref p2), some (.ref p3), some (.ref o), y6] ∧ Same H3 H' ∧ ∃ ws, H' o = some (.lst ws) ∧ TreesAt H' (optAny EE ++ L ++ optAny FF) ws, ?_, ?_⟩
  · refine ⟨_, rfl, Nat.zero_le _, fun z nz => ?_⟩
    have s6 := s5.trans (same_new (o := .lst []) nz)
    have sz : Same H5 (upd H5 z (.lst [])) := same_new nz
    have eo : upd H5 z (.lst []) o = some (.lst ws5) := sz _ _ eo5
    refine ne_nil_trees (ps := FF) (SqL.of (s6 _ _ e2)) (t2.mono (sameT_of s6)) fF lF (SqL.of upd_same) ⟨_, rfl, ?_⟩
    by_cases hne : FF = []
    · rw [decide_eq_true hne]
      refine ⟨rfl, s6, ws5, eo, ?_⟩
      rw [hne]
      show TreesAt _ (optAny EE ++ L ++ []) ws5
      rw [List.append_nil]; exact tw5.mono (sameT_of sz)
    · rw [decide_eq_false hne]
      have l5 := tw5.length
      have lo := optAny_len EE
      rw [List.length_append] at l5
      refine ⟨_, rfl, .inl ⟨rfl, _, SqL.of eo⟩, _, rfl, p2, _, FF, rfl, s6 _ _ e2, t2.mono (sameT_of s6), hne, fun H7 v s7 tv => ⟨o, ws5, v, rfl, rfl, s7 _ _ eo, small1000 (by omega), ?_⟩⟩
      refine ⟨rfl, same_upd (s6.trans s7) no, ws5 ++ [v], upd_same, ?_⟩
      have : optAny FF = [mkAny FF] := by unfold optAny; rw [if_neg hne]
      rw [this]
      exact trees_push tw5 (sameT_of (sz.trans s7)) tv (s7 _ _ eo)
  rintro σ' H6 ⟨rfl, s6, ws6, eo6, tw6⟩
  refine ⟨_, rfl, q H6 _ (s13.trans s6) ?_⟩
  rw [res, hmid]
  exact .some (s13.free no) eo6 tw6
theorem ok_split_row (D : Def K mg "split_row" s_split_row ["parts", "chosen"]) (B : Bl mg) {n : Nat} (c_split : Can P w K mg base (30 + 2 * n) "split" ["tree", "chosen"] (sp_split n)) (c_share : Can P w K mg base 27 "share" ["tree", "chosen"] sp_share) (c_ascends : Can P w K mg base 1 "ascends" ["shares"] sp_ascends) :
    Can P w K mg base (31 + 2 * n) "split_row" ["parts", "chosen"] (sp_split_row n) := by
  rw [show 31 + 2 * n = (30 + 2 * n) + 1 by omega]
  refine D.ok sc_split_row (fun vs H Q E h => ?_) (fun f cdv A outer s H vs Q E hr h => ?_)
  · obtain ⟨a, us, ps, c, S, rfl, _⟩ := h; rfl
  obtain ⟨a, us, ps, c, S, rfl, ha, hp, F, hl, h24, hc, q⟩ := h
  have Fp := F.parts
  have hl24 : (lvs ps).length ≤ 24 := by omega
  have lp := lvs_len Fp
  have I : ∀ q ∈ ps, sh (setP S) q = .som → SplitOK (setP S) q (split (setP S) n q) := fun q hq hs => split_ok n q (Fp q hq) hs (by have := F.lt hq; rw [lv_node] at this; omega)
  refine ⟨_, (pss_cons (ps_set (i := 2) sc_split_row.nd rfl (.inl rfl) (pe_callTy call_list_of rfl B.list bv_list (pa_cons (pv 0) pa_nil)))
      (C8.pss_cut (ps_if (pt_not (pt_val (pe_can c_ascends hr (by omega) rfl (pa_cons (pe_lc (own := [("part", 4)]) (g := gName 4) rfl sc_split_row.nd (pi_list (pv 2)) (blkOk_by (own := [("part", 4)]) (N := N_split_row) (sc := defScope s_split_row) (by decide +kernel)) (fun _ _ _ _ _ => (pg_name (i := 4) sc_split_row.nd rfl (.inl rfl) (.inr rfl))) (fun _ _ _ _ _ => pts_nil) (fun _ _ _ _ _ => (pe_can c_share hr (by omega) rfl (pa_cons (pv 4) (pa_cons (pv 1) pa_nil))))) pa_nil))))
      (pss_one (ps_expr (pe_bm0 PySem.F.plainAttrs_list PySem.F.slot_list_reverse PySem.F.type_list_reverse mt_reverse (pv 2))))
      pss_nil)
      (pss_cons (ps_if (pt_not (pt_val (pe_can c_ascends hr (by omega) rfl (pa_cons (pe_lc (own := [("part", 4)]) (g := gName 4) rfl sc_split_row.nd (pi_list (pv 2)) (blkOk_by (own := [("part", 4)]) (N := N_split_row) (sc := defScope s_split_row) (by decide +kernel)) (fun _ _ _ _ _ => (pg_name (i := 4) sc_split_row.nd rfl (.inl rfl) (.inr rfl))) (fun _ _ _ _ _ => pts_nil) (fun _ _ _ _ _ => (pe_can c_share hr (by omega) rfl (pa_cons (pv 4) (pa_cons (pv 1) pa_nil))))) pa_nil))))
      (pss_one (ps_ret pe_non))
      pss_nil)
      (pss_cons (ps_set (i := 3) sc_split_row.nd rfl (.inl rfl) (pe_lst pa_nil))
      (pss_cons (ps_for PassesOwn.never rfl (pi_list (pv 2)) (pg_name (i := 4) sc_split_row.nd rfl (.inl rfl))
      (pss_one (ps_if (pt_cmpR op_eq (pe_can c_share hr (by omega) rfl (pa_cons (pv 4) (pa_cons (pv 1) pa_nil))) pe_str (nomark _))
      (pss_cons (ps_set (i := 5) sc_split_row.nd rfl (.inl rfl) (pe_can c_split hr (by omega) rfl (pa_cons (pv 4) (pa_cons (pv 1) pa_nil))))
      (pss_cons (ps_if (pt_cmpR op_isN (pv 5) pe_non (nomark _))
      (pss_one (ps_ret pe_non))
      pss_nil)
      (pss_one (ps_expr (pe_bm PySem.F.plainAttrs_list PySem.F.slot_list_extend PySem.F.type_list_extend mt_extend (pv 3) (pa_cons (pv 5) pa_nil))))))
      (pss_one (ps_expr (pe_bm PySem.F.plainAttrs_list PySem.F.slot_list_append PySem.F.type_list_append mt_append (pv 3) (pa_cons (pv 4) pa_nil)))))))
      (pss_one (ps_ret (pv 3)))))))), ?_⟩
  refine ⟨_, rfl, a, us, rfl, .inr (SqT.of ha), fun d nd => ?_⟩
  have s1 : Same H (upd H d (.lst us)) := same_new nd
  generalize hT : (if Asc (ps.map (sh (setP S))) then ps else ps.reverse) = told
  have Ft : ∀ q ∈ told, Form q := fun q hq => Fp q (by rw [← hT] at hq; split at hq <;> simpa using hq)
  have pt : (lvs told).Perm (lvs ps) := by rw [← hT]; split; exact .refl _; exact lvs_reverse ps
  have lt24 : (lvs told).length ≤ 24 := by rw [pt.length_eq]; exact hl24
  have It : ∀ q ∈ told, sh (setP S) q = .som → SplitOK (setP S) q (split (setP S) n q) := fun q hq => I q (by rw [← hT] at hq; split at hq <;> simpa using hq)
  have mt : ∀ q ∈ told, q.lv.length ≤ n := fun q hq => by
    have hq' : q ∈ ps := by rw [← hT] at hq; split at hq <;> simpa using hq
    have := F.lt hq'
    rw [lv_node] at this
    omega
  have lpt := lvs_len Ft
  -- if not ascends(..): told.reverse()
  refine ⟨fun σ' H' => σ' = [some (.ref a), some (.ref c), some (.ref d), none, none, none] ∧ Same H H' ∧ ∃ ws, H' d = some (.lst ws) ∧ TreesAt H' told ws, ?_, ?_⟩
  · refine ⟨_, rfl, d, rfl, ⟨_, SqL.of upd_same⟩, fun D1 nD1 => ?_⟩
    refine lc_shares (K := K) (Sq := SqL K) (it := Itl K) (fun {_ _ _ _ _ _ _ _ _ _} => lc_list) nD1 (fun H' sm => SqL.of (sm _ _ upd_same)) (hp.mono (sameT_of s1)) Fp hl24 (hc.mono s1) (fun _ => rfl) (fun _ => rfl) (fun _ => rfl) fun H2 s2 e2 => ?_
    refine ⟨D1, ps.map (sh (setP S)), rfl, e2, by rw [List.length_map]; omega, fun H3 s3 => ?_⟩
    have s23 := s2.trans s3
    have ed := s23 _ _ upd_same
    have td := (hp.mono (sameT_of s1)).mono (sameT_of s23)
    by_cases hA : Asc (ps.map (sh (setP S)))
    · rw [if_pos hA] at hT
      refine ⟨true, bT hA, iteF ⟨rfl, s1.trans s23, us, ed, ?_⟩⟩
      rw [← hT]; exact td
    · rw [if_neg hA] at hT
      refine ⟨false, bF hA, iteT ⟨_, rfl, .inl ⟨rfl, _, SqL.of ed⟩, d, us, rfl, rfl, ed, ?_⟩⟩
      refine ⟨rfl, same_upd (s1.trans s23) nd, us.reverse, upd_same, ?_⟩
      rw [← hT]
      exact TreesAt.mono (sameT_lst ed) td.rev
  rintro σ' H4 ⟨rfl, s4, ws, ed4, td4⟩
  have lws := td4.length
  -- if not ascends(..): return None
  refine ⟨_, rfl, d, rfl, ⟨_, SqL.of ed4⟩, fun D1 nD1 => ?_⟩
  refine lc_shares (K := K) (Sq := SqL K) (it := Itl K) (fun {_ _ _ _ _ _ _ _ _ _} => lc_list) nD1 (fun H' sm => SqL.of (sm _ _ ed4)) td4 Ft lt24 (hc.mono s4) (fun _ => rfl) (fun _ => rfl) (fun _ => rfl) fun H5 s5 e5 => ?_
  refine ⟨D1, told.map (sh (setP S)), rfl, e5, by rw [List.length_map]; omega, fun H6 s6 => ?_⟩
  have s56 := s5.trans s6
  have res : splitRow (setP S) (split (setP S) n) ps = if Asc (told.map (sh (setP S))) then expand (setP S) (split (setP S) n) told else none := by
    unfold splitRow
    rw [← hT]
  by_cases hA : Asc (told.map (sh (setP S)))
  · rw [if_pos hA] at res
    refine ⟨true, bT hA, iteF ⟨Nat.zero_le _, fun o no => ?_⟩⟩
    have ed6 := s56 _ _ ed4
    have td6 := td4.mono (sameT_of s56)
    have s06 := s4.trans s56
    have no0 : H o = none := s06.free no
    refine ⟨_, rfl, d, rfl, ⟨_, SqL.of ((same_new no) _ _ ed6)⟩, ?_⟩
    refine for_list (xs := ws) (fun i σ H' => ∃ y4 y5, σ = [some (.ref a), some (.ref c), some (.ref d), some (.ref o), y4, y5] ∧ Same H6 H' ∧ ∃ L vs, expand (setP S) (split (setP S) n) (told.take i) = some L ∧ H' o = some (.lst vs) ∧ TreesAt H' L vs) ⟨_, _, rfl, same_new no, [], [], rfl, upd_same, .nil⟩ ?_ ?_ ?_
    · rintro i σ H' hi ⟨y4, y5, rfl, sm, _⟩
      exact SqL.of (sm _ _ ed6)
    · rintro i x σ H' hx ⟨y4, y5, rfl, sm, L, vs, eL, eo, tv⟩
      obtain ⟨t, ht1, ht2⟩ := All2.get' td6 hx
      have hm := List.mem_of_getElem? ht1
      have ht2' := ht2.mono (sameT_of sm)
      have tk := take_next ht1
      have hx1 := expand_lvs (fun q hq => Ft q (List.mem_of_mem_take hq)) (fun q hq => It q (List.mem_of_mem_take hq)) eL
      have lL := lvs_len hx1.2
      rw [hx1.1.length_eq] at lL
      have b1 := lvs_take_le told i
      have lv := tv.length
      refine ⟨_, rfl, _, rfl, t, x, c, S, rfl, ht2', Ft t hm, Nat.le_trans (part_le hm) lt24, (hc.mono s06).mono sm, fun H7 s7 => ?_⟩
      refine ⟨rfl, _, congrArg V.bl (shW_eq (sh (setP S) t) .som), ite2 (fun cc => ?_) (fun cc => ?_)⟩
      · have hs : sh (setP S) t = .som := of_decide_eq_true cc
        refine ⟨_, rfl, _, rfl, t, x, c, S, rfl, ht2'.mono (sameT_of s7), Ft t hm, hs, mt t hm, by omega, ((hc.mono s06).mono sm).mono s7, fun H8 v8 s8 o8 => ?_⟩
        have s78 := s7.trans s8
        cases hr8 : split (setP S) n t with
        | none =>
          rw [hr8] at o8
          cases o8
          refine ⟨_, rfl, rfl, true, rfl, iteT ?_⟩
          refine q H8 .non (s06.trans (sm.trans s78)) ?_
          rw [res]
          have : told = told.take i ++ t :: told.drop (i + 1) := split_at ht1
          rw [this, expand_stop hs hr8]
          exact .none
        | some M =>
          rw [hr8] at o8
          cases o8 with
          | @some p8 u8 _ f8 e8 t8 =>
            have len8 := t8.length
            have lM := split_len (split_some (Ft t hm) hs (mt t hm) hr8)
            refine ⟨_, rfl, rfl, false, bF (fun z => nomatch z), iteF ?_⟩
            refine ⟨_, rfl, .inl ⟨rfl, _, SqL.of (s78 _ _ eo)⟩, _, rfl, o, p8, vs, u8, rfl, rfl, s78 _ _ eo, e8, sl1000 (by have := mt t hm; omega), ?_⟩
            refine ⟨_, _, rfl, same_upd (sm.trans s78) no, L ++ M, vs ++ u8, ?_, upd_same, ?_⟩
            · rw [tk, expand_snoc eL, if_pos hs, hr8]; rfl
            · exact TreesAt.mono (sameT_lst (s78 _ _ eo)) (All2.app (tv.mono (sameT_of s78)) t8)
      · have hs : ¬ sh (setP S) t = .som := of_decide_eq_false (Bool.eq_false_iff.2 cc)
        refine ⟨_, rfl, .inl ⟨rfl, _, SqL.of (s7 _ _ eo)⟩, _, rfl, o, vs, x, rfl, rfl, s7 _ _ eo, small1000 (by omega), ?_⟩
        refine ⟨_, _, rfl, same_upd (sm.trans s7) no, L ++ [t], vs ++ [x], ?_, upd_same, ?_⟩
        · rw [tk, expand_snoc eL, if_neg hs]
        · exact trees_push tv (sameT_of s7) (ht2'.mono (sameT_of s7)) (s7 _ _ eo)
    · rintro σ H' ⟨y4, y5, rfl, sm, L, vs, eL, eo, tv⟩
      rw [← lws, List.take_length] at eL
      refine ⟨_, rfl, q H' _ (s06.trans sm) ?_⟩
      rw [res, eL]
      exact .some no0 eo tv
  · rw [if_neg hA] at res
    refine ⟨false, bF hA, iteT ?_⟩
    refine q H6 .non (s4.trans s56) ?_
    rw [res]
    exact .none
theorem ok_split (D : Def K mg "split" s_split ["tree", "chosen"]) (Da : Def K mg "split_any" s_split_any ["parts", "chosen"]) (Dr : Def K mg "split_row" s_split_row ["parts", "chosen"]) (B : Bl mg) (c_share : Can P w K mg base 27 "share" ["tree", "chosen"] sp_share) (c_ascends : Can P w K mg base 1 "ascends" ["shares"] sp_ascends)
    (c_with_share : Can P w K mg base 28 "with_share" ["parts", "chosen", "wanted"] sp_with_share) (c_make_any : Can P w K mg base 1 "make_any" ["parts"] sp_make_any) : ∀ n : Nat, Can P w K mg base (30 + 2 * n) "split" ["tree", "chosen"] (sp_split n)
  | 0 => D.never _ fun vs H Q E ⟨t, v, c, S, _, _, F, _, h, _⟩ => F.ne (List.eq_nil_of_length_eq_zero (Nat.le_zero.1 h))
  | n + 1 => by
    have c_split := ok_split D Da Dr B c_share c_ascends c_with_share c_make_any n
    have c_split_any := ok_split_any Da B c_split c_with_share c_make_any
    have c_split_row := ok_split_row Dr B c_split c_share c_ascends
    rw [show 30 + 2 * (n + 1) = (31 + 2 * n) + 1 by omega]
    refine D.ok sc_split (fun vs H Q E h => ?_) (fun f cdv A outer s H vs Q E hr h => ?_)
    · obtain ⟨t, v, c, S, rfl, _⟩ := h; rfl
    obtain ⟨t, v, c, S, rfl, ht, F, hs, hl, h24, hc, q⟩ := h
    refine ⟨_, (pss_cons (ps_if (pt_cmpR op_eq (pe_ix ix_tup (pv 0) pe_int (fun _ _ => rfl)) pe_str (nomark _))
      (pss_one (ps_ret (pe_can c_split_any hr (by omega) rfl (pa_cons (pe_ix ix_tup (pv 0) pe_int (fun _ _ => rfl)) (pa_cons (pv 1) pa_nil)))))
      pss_nil)
      (pss_one (ps_ret (pe_can c_split_row hr (by omega) rfl (pa_cons (pe_ix ix_tup (pv 0) pe_int (fun _ _ => rfl)) (pa_cons (pv 1) pa_nil)))))), ?_⟩
    cases t with
    | thing i =>
      exfalso
      obtain ⟨⟨x, hx, px⟩, ⟨y, hy, py⟩⟩ := (sh_som F).1 hs
      rw [lv_thing, List.mem_singleton] at hx hy
      rw [hx] at px; rw [hy, px] at py; cases py
    | node b ps =>
      obtain ⟨a, p, us, rfl, h1, h2, h3⟩ := treeAt_node ht
      rw [lv_node] at hl
      refine ⟨_, rfl, a, _, 0, _, rfl, rfl, SqT.of h1, rfl, rfl, !b, congrArg V.bl (wd_any b), ?_⟩
      cases b with
      | false =>
        exact iteT ⟨_, rfl, a, _, 1, _, rfl, rfl, SqT.of h1, rfl, _, rfl, p, us, ps, c, S, rfl, h2, h3, F, hl, h24, hc, q⟩
      | true =>
        exact iteF ⟨_, rfl, a, _, 1, _, rfl, rfl, SqT.of h1, rfl, _, rfl, p, us, ps, c, S, rfl, h2, h3, F, hl, h24, hc, q⟩
end
end K13

/-! K13 W7: the walk: joined_any. -/
namespace K13
open PySem PySem.Spec PyProof.Rows L2
theorem u65 {k : Nat} {A : Around} (r : Room k A) : A.units + 65 < cLine := by have := r.un; omega
/-! ### slices and sums of tuples -/
theorem cutV_to (xs : List V) (k : Nat) : cutV xs none (some (k : Int)) = xs.take k := by
  unfold cutV
  rw [HT.sIx_none, HT.sIx_nat, List.drop_zero, Nat.sub_zero]
  by_cases h : k ≤ xs.length
  · rw [Nat.min_eq_left h]
  · rw [Nat.min_eq_right (by omega), List.take_length, List.take_of_length_le (by omega)]
theorem cutV_from (xs : List V) (k : Nat) : cutV xs (some (k : Int)) none = xs.drop k := by
  unfold cutV
  rw [HT.sIx_none, HT.sIx_nat]
  by_cases h : k ≤ xs.length
  · rw [Nat.min_eq_left h]
    exact List.take_of_length_le (by rw [List.length_drop]; exact Nat.le_refl _)
  · rw [Nat.min_eq_right (by omega), Nat.sub_self, List.take_zero, List.drop_eq_nil_of_le (by omega)]
theorem cutV_mid (xs : List V) {j k : Nat} (hk : k ≤ xs.length) (hj : j ≤ k) : cutV xs (some (j : Int)) (some (k : Int)) = (xs.take k).drop j := by
  unfold cutV
  rw [HT.sIx_nat, HT.sIx_nat, Nat.min_eq_left hk, Nat.min_eq_left (by omega), List.drop_take]
theorem cutV_whole {xs : List V} {lo hi : Option Int} (h : HT.sIx xs.length 0 lo = 0 ∧ HT.sIx xs.length xs.length hi = xs.length) : cutV xs lo hi = xs := by
  unfold cutV
  rw [h.1, h.2, List.drop_zero, Nat.sub_zero, List.take_length]
theorem slA_of {K : Fg} {H : Hp} {a : Addr} {xs : List V} {lo hi : Option Int} {Q : VK} (h : H a = some (.tup xs)) (q : ∀ (H' : Hp) (p : Addr), Same H H' → H' p = some (.tup (cutV xs lo hi)) → Q (.ref p) H') : rSlA K (.ref a) lo hi H Q :=
  ⟨a, xs, rfl, SqT.of h, fun w => q H a (Same.refl H) (by rw [cutV_whole w]; exact h), fun _ p hp => q _ p (same_new hp) upd_same⟩
theorem catA_of {K : Fg} {H : Hp} {a b : Addr} {xs ys : List V} {Q : VK} (ha : H a = some (.tup xs)) (hb : H b = some (.tup ys)) (hz : xs.length + ys.length ≤ 1000) (q : ∀ (H' : Hp) (p : Addr), Same H H' → H' p = some (.tup (xs ++ ys)) → Q (.ref p) H') : rCatA K (.ref a) (.ref b) H Q :=
  ⟨a, b, xs, ys, rfl, rfl, SqT.of ha, SqT.of hb, sl1000 hz, fun e => q H b (Same.refl H) (by rw [e]; exact hb), fun _ e => q H a (Same.refl H) (by rw [e, List.append_nil]; exact ha), fun _ _ p hp => q _ p (same_new hp) upd_same⟩
theorem atI0 {α : Type} (x : α) (xs : List α) : atI (x :: xs) 0 = some x := atI_nat (xs := x :: xs) (j := 0) rfl
/-! ### joinedAny -/
theorem joinedAny_many {p : Int → Bool} {inner : Inner} {ps : List Tr} (h : 2 < (wsh p .som ps).length) : joinedAny p inner ps = none := by
  unfold joinedAny
  match hm : wsh p .som ps, h with
  | [], h => simp at h
  | [_], h => simp at h
  | [_, _], h => simp at h
  | _ :: _ :: _ :: _, _ => rfl
theorem joinedAny_nil {p : Int → Bool} {inner : Inner} {ps : List Tr} (h : wsh p .som ps = []) : joinedAny p inner ps = some (mkAny (wsh p .non ps ++ [mkAny (wsh p .all ps)])) := by
  unfold joinedAny
  rw [h]
theorem joinedAny_no {p : Int → Bool} {inner : Inner} {ps : List Tr} (h : ∃ m ∈ wsh p .som ps, inner m = none) : joinedAny p inner ps = none := by
  unfold joinedAny
  match hm : wsh p .som ps, h with
  | [], h => obtain ⟨_, h, _⟩ := h; cases h
  | [m], h =>
    obtain ⟨x, h, e⟩ := h
    rw [List.mem_singleton] at h
    subst h
    show (inner x).map _ = none
    rw [e]; rfl
  | [m, m'], h =>
    obtain ⟨x, h, e⟩ := h
    show (inner m).bind (fun L => (inner m').map _) = none
    cases e1 : inner m with
    | none => rfl
    | some L =>
      cases e2 : inner m' with
      | none => rfl
      | some L' =>
        rcases List.mem_cons.1 h with h | h
        · subst h; rw [e1] at e; cases e
        · rw [List.mem_singleton] at h; subst h; rw [e2] at e; cases e
  | _ :: _ :: _ :: _, _ => rfl
def tailJ : List (List Tr) → List Tr
  | [] => []
  | L :: _ => L.reverse
theorem joinedAny_run {p : Int → Bool} {inner : Inner} {ps : List Tr} {L : List Tr} {R : List (List Tr)} (h : (wsh p .som ps).map inner = (L :: R).map some) (hR : R.length ≤ 1) : joinedAny p inner ps = some (mkAny (wsh p .non ps ++ [mkRow (L ++ optAny (wsh p .all ps) ++ tailJ R)])) := by
  unfold joinedAny
  match hm : wsh p .som ps, R, h, hR with
  | [], _, h, _ => simp at h
  | [m], [], h, _ =>
    simp at h
    show (inner m).map _ = _
    rw [h]
    show some (mkAny (wsh p .non ps ++ [mkRow (L ++ optAny (wsh p .all ps))])) = some (mkAny (wsh p .non ps ++ [mkRow (L ++ optAny (wsh p .all ps) ++ [])]))
    rw [List.append_nil]
  | [m], _ :: _, h, _ => simp at h
  | [m, m'], [], h, _ => simp at h
  | [m, m'], [L'], h, _ =>
    simp at h
    show (inner m).bind (fun L => (inner m').map _) = _
    rw [h.1, h.2]; rfl
  | _, _ :: _ :: _, _, hR => simp at hR
  | _ :: _ :: _ :: _, [], h, _ => simp at h
  | _ :: _ :: _ :: _, [_], h, _ => simp at h
/-! ### lists of lists of trees as data -/
def lD : Option (List Tr) → PyData
  | none => .none
  | some L => .list (L.map tD)
theorem dp_optL {K : Fg} {H : Hp} {r : Option (List Tr)} {v : V} {H0 : Hp} (h : OptL H0 H r v) : Dp K H v (lD r) := by
  cases h with
  | none => exact .non
  | some _ e t => exact .lst (SqL.of e) (dp_trees (fun p _ v hv => dp_tree hv) t)
theorem dp_optLs {K : Fg} {H : Hp} {rs : List (Option (List Tr))} {vs : List V} {H0 : Hp} (h : All2 (OptL H0 H) rs vs) : DpAll K H vs (rs.map lD) := by
  induction h with
  | nil => exact .nil
  | cons r _ ih => exact .cons (dp_optL r) ih
/-- sizes of the lists -/
def SmallL (r : Option (List Tr)) : Prop := ∀ L, r = some L → (∀ q ∈ L, Form q) ∧ (lvs L).length ≤ 24 ∧ 2 ≤ L.length
theorem canLay_optL (r : Option (List Tr)) : (lD r).canLay0 = true := by
  cases r with
  | none => rfl
  | some L => show PyData.canLay0 (.list _) = true; rw [PyData.canLay0]; exact canLay_trees fun p _ => canLay_tree p
theorem depth_optL {r : Option (List Tr)} (s : SmallL r) : (lD r).depth ≤ 47 := by
  cases r with
  | none => show PyData.depth .none ≤ 47; rw [PyData.depth]; omega
  | some L =>
    obtain ⟨F, l, _⟩ := s L rfl
    show PyData.depth (.list _) ≤ 47
    rw [PyData.depth]
    have : PyData.depthAll (L.map tD) ≤ 46 := depth_trees fun p hp => by
      have h1 := depth_tree (F p hp)
      have h2 := part_le hp
      omega
    omega
theorem canLay_optLs (rs : List (Option (List Tr))) : PyData.canLayAll0 (rs.map lD) = true := by
  induction rs with
  | nil => rw [List.map_nil, PyData.canLayAll0]
  | cons p r ih2 => rw [List.map_cons, PyData.canLayAll0, canLay_optL, ih2]; rfl
theorem depth_optLs {rs : List (Option (List Tr))} (s : ∀ r ∈ rs, SmallL r) : PyData.depthAll (rs.map lD) ≤ 47 := by
  induction rs with
  | nil => rw [List.map_nil, PyData.depthAll]; exact Nat.zero_le _
  | cons p r ih2 =>
    rw [List.map_cons, PyData.depthAll]
    exact Nat.max_le.2 ⟨depth_optL (s p List.mem_cons_self), ih2 fun q hq => s q (List.mem_cons_of_mem _ hq)⟩
theorem shaped_optLs {rs : List (Option (List Tr))} (s : ∀ r ∈ rs, SmallL r) : SeqAt.shaped (.list (rs.map lD)) = true := by
  refine shaped_of (by rw [PyData.canLay0]; exact canLay_optLs rs) ?_
  rw [PyData.depth]
  have := depth_optLs s
  omega
theorem eqv_optL (r : Option (List Tr)) : PyData.eqv (lD r) .none = r.isNone := by
  cases r with
  | none => show PyData.eqv .none .none = true; rw [PyData.eqv]
  | some L => show PyData.eqv (.list _) .none = false; rw [PyData.eqv] <;> simp
theorem any_optL (rs : List (Option (List Tr))) : ((rs.map lD).any fun z => PyData.eqv z .none) = rs.any Option.isNone := by
  induction rs with
  | nil => rfl
  | cons r rs ih => rw [List.map_cons, List.any_cons, List.any_cons, ih, eqv_optL]
theorem eqv_optLs_nil (rs : List (Option (List Tr))) : PyData.eqv (.list (rs.map lD)) (.list []) = decide (rs = []) := by
  cases rs with
  | nil => rw [List.map_nil, PyData.eqv, PyData.eqvAll]; rfl
  | cons p r => rw [List.map_cons, PyData.eqv, PyData.eqvAll]; simp
theorem none_inL {K : Fg} {H : Hp} {a : Addr} {rs : List (Option (List Tr))} {vs : List V} {Q : VK} (h : SqL K H a vs) {H0 : Hp} (hp : All2 (OptL H0 H) rs vs) (s : ∀ r ∈ rs, SmallL r) (q : Q (.bl (rs.any Option.isNone)) H) : rInD K .non (.ref a) H Q :=
  ⟨.none, rs.map lD, .non, .lst h (dp_optLs hp), shaped_none, shaped_optLs s, by rw [any_optL]; exact q⟩
theorem eq_nilL {K : Fg} {H : Hp} {a b : Addr} {rs : List (Option (List Tr))} {vs : List V} {Q : VK} (h : SqL K H a vs) {H0 : Hp} (hp : All2 (OptL H0 H) rs vs) (s : ∀ r ∈ rs, SmallL r) (hb : SqL K H b []) (q : Q (.bl (decide (rs = []))) H) : rEqD K (.ref a) (.ref b) H Q :=
  ⟨.list (rs.map lD), .list [], .lst h (dp_optLs hp), .lst hb .nil, shaped_optLs s, shaped_nil, by rw [eqv_optLs_nil]; exact q⟩
theorem optLs_mono {H H' : Hp} (s : Same H H') {rs : List (Option (List Tr))} {vs : List V} {H0 : Hp} (h : All2 (OptL H0 H) rs vs) : All2 (OptL H0 H') rs vs := All2.mono (fun _ _ k => k.mono s) h
theorem all_some : ∀ {rs : List (Option (List Tr))}, rs.any Option.isNone = false → ∃ Ls : List (List Tr), rs = Ls.map some
  | [], _ => ⟨[], rfl⟩
  | none :: _, h => by simp at h
  | some L :: rs, h => by
    rw [List.any_cons] at h
    obtain ⟨Ls, rfl⟩ := all_some (rs := rs) (by simpa using h)
    exact ⟨L :: Ls, rfl⟩
section
variable {P : Program} {w : World} {K : Fg} {mg : Str → Option Value} {base : Heap}
abbrev s_joined_any : Stmt := topS 35
abbrev N_joined_any : List Str := ["parts", "chosen", "empty", "full", "mixed", "lists", "middle", "part"]
theorem sc_joined_any : FnScope N_joined_any ["parts", "chosen"] (defScope s_joined_any) := ⟨rfl, rfl, rfl, by decide +kernel, rfl, by decide +kernel, by decide +kernel⟩
def sp_joined_any : Sp := fun vs H Q _ => ∃ (a : Addr) (us : List V) (ps : List Tr) (c : Addr) (S : List Int), vs = [.ref a, .ref c] ∧ H a = some (.tup us) ∧ TreesAt H ps us ∧ Form (.node false ps) ∧ (lvs ps).length ≤ 24 ∧ ChAt H c S ∧
  2 ≤ (wsh (setP S) .som ps).length + (wsh (setP S) .all ps).length ∧
  ∀ (H' : Hp) (v' : V), Same H H' → OptAt H' (joinedAny (setP S) (split (setP S) 24) ps) v' → Q v' H'
theorem ok_joined_any (D : Def K mg "joined_any" s_joined_any ["parts", "chosen"]) (B : Bl mg) (c_split : Can P w K mg base 78 "split" ["tree", "chosen"] (sp_split 24)) (c_with_share : Can P w K mg base 28 "with_share" ["parts", "chosen", "wanted"] sp_with_share) (c_make_any : Can P w K mg base 1 "make_any" ["parts"] sp_make_any) (c_make_row : Can P w K mg base 2 "make_row" ["parts"] sp_make_row) :
    Can P w K mg base 79 "joined_any" ["parts", "chosen"] sp_joined_any := by
  refine D.ok sc_joined_any (fun vs H Q E h => ?_) (fun f cdv A outer s H vs Q E hr h => ?_)
  · obtain ⟨a, us, ps, c, S, rfl, _⟩ := h; rfl
  obtain ⟨a, us, ps, c, S, rfl, ha, hp, F, hl24, hc, two, q⟩ := h
  have Fp := F.parts
  refine ⟨_, (pss_cons (ps_set (i := 2) sc_joined_any.nd rfl (.inl rfl) (pe_can c_with_share hr (by omega) rfl (pa_cons (pv 0) (pa_cons (pv 1) (pa_cons pe_str pa_nil)))))
      (pss_cons (ps_set (i := 3) sc_joined_any.nd rfl (.inl rfl) (pe_can c_with_share hr (by omega) rfl (pa_cons (pv 0) (pa_cons (pv 1) (pa_cons pe_str pa_nil)))))
      (pss_cons (ps_set (i := 4) sc_joined_any.nd rfl (.inl rfl) (pe_can c_with_share hr (by omega) rfl (pa_cons (pv 0) (pa_cons (pv 1) (pa_cons pe_str pa_nil)))))
      (pss_cons (ps_if (pt_cmpR op_gt (pe_callB call_len_seq rfl B.len bv_len (pa_cons (pv 4) pa_nil)) pe_int (nomark _))
      (pss_one (ps_ret pe_non))
      pss_nil)
      (pss_cons (ps_setLc (i := 5) (own := [("part", 7)]) (g := gName 7) rfl sc_joined_any.nd rfl rfl (sw_true rfl rfl rfl (by decide +kernel)) (pi_list (pv 4)) (blkOk_by (own := [("part", 7)]) (N := N_joined_any) (sc := defScope s_joined_any) (by decide +kernel)) (fun _ _ _ _ _ => (pg_name (i := 7) sc_joined_any.nd rfl (.inl rfl) (.inr rfl))) (fun _ _ _ _ _ => pts_nil) (fun _ _ _ _ _ => (pe_can c_split hr (by omega) rfl (pa_cons (pv 7) (pa_cons (pv 1) pa_nil)))))
      (pss_cons (ps_if (pt_cmpR (op_inD (u65 hr)) pe_non (pv 5) rfl)
      (pss_one (ps_ret pe_non))
      pss_nil)
      (pss_cons (ps_if (pt_cmpR (op_eqD hr.units) (pv 5) (pe_lst pa_nil) (nomark _))
      (pss_one (ps_ret (pe_can c_make_any hr (by omega) rfl (pa_cons (pe_op op_cat (pv 2) (pe_lst (pa_cons (pe_can c_make_any hr (by omega) rfl (pa_cons (pv 3) pa_nil)) pa_nil))) pa_nil))))
      pss_nil)
      (pss_cons (ps_set (i := 6) sc_joined_any.nd rfl (.inl rfl) (pe_callTy call_list_of rfl B.list bv_list (pa_cons (pe_ix ix_list (pv 5) pe_int (fun _ _ => rfl)) pa_nil)))
      (C8.pss_cut (ps_if (pt_cmpR (op_neD hr.units) (pv 3) (pe_lst pa_nil) (nomark _))
      (pss_one (ps_expr (pe_bm PySem.F.plainAttrs_list PySem.F.slot_list_append PySem.F.type_list_append mt_append (pv 6) (pa_cons (pe_can c_make_any hr (by omega) rfl (pa_cons (pv 3) pa_nil)) pa_nil))))
      pss_nil)
      (C8.pss_cut (ps_if (pt_cmpR op_eq (pe_callB call_len_seq rfl B.len bv_len (pa_cons (pv 5) pa_nil)) pe_int (nomark _))
      (pss_one (ps_expr (pe_bm PySem.F.plainAttrs_list PySem.F.slot_list_extend PySem.F.type_list_extend mt_extend (pv 6) (pa_cons (pe_revL (pe_ix ix_list (pv 5) pe_int (fun _ _ => rfl))) pa_nil))))
      pss_nil)
      (pss_one (ps_ret (pe_can c_make_any hr (by omega) rfl (pa_cons (pe_op op_cat (pv 2) (pe_lst (pa_cons (pe_can c_make_row hr (by omega) rfl (pa_cons (pv 6) pa_nil)) pa_nil))) pa_nil)))))))))))))), ?_⟩
  refine ⟨_, rfl, _, rfl, a, us, ps, c, S, .non, rfl, ha, hp, Fp, hl24, hc, fun H1 p1 u1 s1 n1 e1 t1 => ?_⟩
  refine ⟨_, rfl, _, rfl, a, us, ps, c, S, .all, rfl, s1 _ _ ha, hp.mono (sameT_of s1), Fp, hl24, hc.mono s1, fun H2 p2 u2 s2 n2 e2 t2 => ?_⟩
  have s12 := s1.trans s2
  refine ⟨_, rfl, _, rfl, a, us, ps, c, S, .som, rfl, s12 _ _ ha, hp.mono (sameT_of s12), Fp, hl24, hc.mono s12, fun H3 p3 u3 s3 n3 e3 t3 => ?_⟩
  have s13 := s12.trans s3
  have e1 := s3 _ _ (s2 _ _ e1)
  have t1 := t1.mono (sameT_of (s2.trans s3))
  have e2 := s3 _ _ e2
  have t2 := t2.mono (sameT_of s3)
  have hc3 := hc.mono s13
  clear s1 s2 s3 s12 n1 n2 n3
  have res0 := joinedAny_many (p := setP S) (inner := split (setP S) 24) (ps := ps)
  have res1 := joinedAny_nil (p := setP S) (inner := split (setP S) 24) (ps := ps)
  have res2 := joinedAny_no (p := setP S) (inner := split (setP S) 24) (ps := ps)
  have res3 := fun L R => joinedAny_run (p := setP S) (inner := split (setP S) 24) (ps := ps) (L := L) (R := R)
  have mM : ∀ m ∈ wsh (setP S) .som ps, Form m ∧ sh (setP S) m = .som ∧ m.lv.length ≤ 24 := fun m hm => ⟨Fp m (mem_wsh.1 hm).1, (mem_wsh.1 hm).2, Nat.le_trans (part_le (mem_wsh.1 hm).1) hl24⟩
  have lE : (lvs (wsh (setP S) .non ps)).length ≤ 24 := Nat.le_trans wsh_lvs hl24
  have lF : (lvs (wsh (setP S) .all ps)).length ≤ 24 := Nat.le_trans wsh_lvs hl24
  have fE : ∀ q ∈ wsh (setP S) .non ps, Form q := wsh_forms Fp
  have fF : ∀ q ∈ wsh (setP S) .all ps, Form q := wsh_forms Fp
  generalize wsh (setP S) .non ps = EE at *
  generalize wsh (setP S) .all ps = FF at *
  generalize wsh (setP S) .som ps = MM at *
  have len1 := t1.length
  have len3 := t3.length
  have lenE := lvs_len fE
  refine ⟨_, rfl, p3, _, rfl, .inl (SqL.of e3), _, _, rfl, rfl, _, rfl, ite2 (fun cc => ?_) (fun cc => ?_)⟩
  · have c' : (2 : Int) < (u3.length : Int) := of_decide_eq_true cc
    refine q H3 .non s13 ?_
    rw [res0 (by omega)]
    exact .none
  have c' : ¬ (2 : Int) < (u3.length : Int) := of_decide_eq_false (Bool.eq_false_iff.2 cc)
  have mt2 : MM.length ≤ 2 := by omega
  -- lists
  refine ⟨_, rfl, p3, rfl, ⟨_, SqL.of e3⟩, fun D1 nD1 => ?_⟩
  have fr : ∀ (Hx : Hp) (xs : List V), Same H3 Hx → Hx D1 = some (.lst xs) → ∀ p, Hx p = none → upd H3 D1 (.lst []) p = none := fun Hx xs sx ex p hpn => by
    have : p ≠ D1 := fun z => by subst z; rw [ex] at hpn; cases hpn
    rw [upd_ne this]
    exact sx.free hpn
  have sL : ∀ (Hx : Hp) (o : HO) (r : Option (List Tr)) (v : V), (∀ ys, Hx D1 ≠ some (.tup ys)) → OptL (upd H3 D1 (.lst [])) Hx r v → OptL (upd H3 D1 (.lst [])) (upd Hx D1 o) r v := fun Hx o r v h1 h => by
    cases h with
    | none => exact .none
    | @some p _ _ n e t =>
      have : p ≠ D1 := fun z => by subst z; rw [upd_same] at n; cases n
      exact .some n (by rw [upd_ne this]; exact e) (t.mono (sameT_upd h1))
  refine lc_list (xs := u3) (fun i H' => Same H3 H' ∧ ∃ acc, H' D1 = some (.lst acc) ∧ All2 (OptL (upd H3 D1 (.lst [])) H') ((MM.take i).map (split (setP S) 24)) acc) ⟨same_new nD1, [], upd_same, .nil⟩ ?_ ?_ ?_
  · rintro i H' hi ⟨sm, _⟩
    exact SqL.of (sm _ _ e3)
  · rintro i x H' hx ⟨sm, acc, e, ta⟩
    obtain ⟨t, ht1, ht2⟩ := All2.get' t3 hx
    have hm := List.mem_of_getElem? ht1
    obtain ⟨m1, m2, m3⟩ := mM t hm
    have la := ta.length
    rw [List.length_map, List.length_take] at la
    refine ⟨rfl, _, rfl, _, rfl, t, x, c, S, rfl, ht2.mono (sameT_of sm), m1, m2, m3, Nat.le_refl _, hc3.mono sm, fun H5 v5 s5 o5 => ?_⟩
    have ed5 := s5 _ _ e
    have nt : ∀ ys, H5 D1 ≠ some (.tup ys) := fun ys z => by rw [ed5] at z; cases z
    refine ⟨acc, ed5, small1000 (by omega), same_upd (sm.trans s5) nD1, acc ++ [v5], upd_same, ?_⟩
    rw [take_next ht1, List.map_append]
    exact (All2.mono (fun r v => sL _ _ r v nt) (optLs_mono s5 ta)).snoc (sL _ _ _ _ nt (o5.less (fr H' acc sm e)))
  rintro H5 ⟨s5, vs, ed, tl⟩
  rw [← len3, List.take_length] at tl
  have lvl := tl.length
  rw [List.length_map] at lvl
  have sm : ∀ r ∈ MM.map (split (setP S) 24), SmallL r := fun r hr2 L e => by
    obtain ⟨m, hm, rfl⟩ := List.mem_map.1 hr2
    obtain ⟨m1, m2, m3⟩ := mM m hm
    have so := split_some m1 m2 m3 e
    exact ⟨so.form, by rw [(split_lvs so).length_eq]; exact m3, so.two⟩
  -- if None in lists
  refine ⟨_, rfl, none_inL (SqL.of ed) tl sm ⟨_, rfl, ite2 (fun cc => ?_) (fun cc => ?_)⟩⟩
  · refine q H5 .non (s13.trans s5) ?_
    obtain ⟨r, hr1, hr2⟩ := List.any_eq_true.1 cc
    obtain ⟨m, hm, rfl⟩ := List.mem_map.1 hr1
    rw [res2 ⟨m, hm, Option.isNone_iff_eq_none.1 hr2⟩]
    exact .none
  obtain ⟨Ls, hLs⟩ := all_some (Bool.eq_false_iff.2 cc)
  rw [hLs] at tl sm
  have lLs : Ls.length = MM.length := by have := congrArg List.length hLs; rw [List.length_map, List.length_map] at this; exact this.symm
  -- if lists == []
  refine ⟨_, rfl, Nat.zero_le _, fun z nz => ?_⟩
  have s6 := s5.trans (same_new (o := .lst []) nz)
  have sz : Same H5 (upd H5 z (.lst [])) := same_new nz
  have edz : upd H5 z (.lst []) D1 = some (.lst vs) := sz _ _ ed
  refine eq_nilL (SqL.of edz) (optLs_mono sz tl) sm (SqL.of upd_same) ⟨_, rfl, ?_⟩
  match Ls, vs, tl, hLs, lLs, edz, sm with
  | [], [], tl, hLs, lLs, edz, sm =>
    have hM0 : MM = [] := List.eq_nil_of_length_eq_zero lLs.symm
    have neF : FF ≠ [] := fun z => by rw [hM0, z] at two; simp at two
    refine ⟨_, rfl, _, rfl, p2, u2, FF, rfl, s6 _ _ e2, t2.mono (sameT_of s6), neF, fun H7 v7 s7 tv7 => ⟨(by show 1 ≤ sizeLine; decide), fun l1 nl1 => ?_⟩⟩
    have s67 := s6.trans s7
    have s8 : Same H3 (upd H7 l1 (.lst [v7])) := s67.trans (same_new nl1)
    refine ⟨p1, l1, u1, [v7], rfl, rfl, s8 _ _ e1, upd_same, sl1000 (by rw [List.length_singleton]; omega), fun l2 nl2 => ?_⟩
    have s9 := s8.trans (same_new (o := .lst (u1 ++ [v7])) nl2)
    refine ⟨l2, u1 ++ [v7], EE ++ [mkAny FF], rfl, upd_same, ?_, by simp, fun H10 v10 s10 tv10 => ?_⟩
    · exact TreesAt.mono (sameT_new nl2) (TreesAt.mono (sameT_new nl1) ((t1.mono (sameT_of s67)).snoc tv7))
    · refine q H10 v10 (s13.trans (s9.trans s10)) ?_
      rw [res1 hM0]
      exact .some tv10
  | [], _ :: _, h, _, _, _, _ => cases h
  | L :: R, [], h, _, _, _, _ => cases h
  | L :: R, v :: vr, tl, hLs, lLs, edz, sm =>
    have lR : R.length ≤ 1 := by rw [List.length_cons] at lLs; omega
    obtain ⟨sF, sl, twL⟩ := sm (some L) List.mem_cons_self L rfl
    have nL := lvs_len sF
    have o1 : OptL (upd H3 D1 (.lst [])) (upd H5 z (.lst [])) (some L) v := by cases tl with | cons h _ => exact h.mono sz
    have tR : All2 (OptL (upd H3 D1 (.lst [])) (upd H5 z (.lst []))) (R.map some) vr := by cases tl with | cons _ h => exact optLs_mono sz h
    cases o1 with
    | @some pL uL _ _ eL tL =>
    have nuL := tL.length
    -- middle = list(lists[0])
    refine ⟨_, rfl, D1, _, 0, .ref pL, rfl, rfl, SqL.of edz, atI0 _ _, pL, uL, rfl, .inl (SqL.of eL), fun d nd => ?_⟩
    have ed7 := (same_new (o := .lst uL) nd) _ _ edz
    generalize hHz : upd H5 z (.lst []) = Hz at *
    have sd : Same Hz (upd Hz d (.lst uL)) := same_new nd
    have e1z := s6 _ _ e1
    have t1z := t1.mono (sameT_of s6)
    have e2z := s6 _ _ e2
    have t2z := t2.mono (sameT_of s6)
    have lenF := t2.length
    have lenFF := lvs_len fF
    -- if full != []
    refine ⟨fun σ' H' => σ' = [some (.ref a), some (.ref c), some (.ref p1), some (.ref p2), some (.ref p3), some (.ref D1), some (.ref d), none] ∧ Same Hz H' ∧ ∃ ws, H' d = some (.lst ws) ∧ TreesAt H' (L ++ optAny FF) ws, ?_, ?_⟩
    · refine ⟨_, rfl, Nat.zero_le _, fun y ny => ?_⟩
      have s8 := sd.trans (same_new (o := .lst []) ny)
      have ed8 := (same_new (o := .lst []) ny) _ _ (upd_same (H := Hz) (a := d) (o := .lst uL))
      refine ne_nil_trees (ps := FF) (SqL.of (s8 _ _ e2z)) (t2z.mono (sameT_of s8)) fF lF (SqL.of upd_same) ⟨_, rfl, ?_⟩
      by_cases hne : FF = []
      · rw [decide_eq_true hne]
        refine ⟨rfl, s8, uL, ed8, ?_⟩
        rw [hne]
        show TreesAt _ (L ++ []) uL
        rw [List.append_nil]; exact tL.mono (sameT_of s8)
      · rw [decide_eq_false hne]
        refine ⟨_, rfl, .inl ⟨rfl, _, SqL.of ed8⟩, _, rfl, p2, _, FF, rfl, s8 _ _ e2z, t2z.mono (sameT_of s8), hne, fun H9 v9 s9 tv9 => ⟨d, uL, v9, rfl, rfl, s9 _ _ ed8, small1000 (by omega), ?_⟩⟩
        refine ⟨rfl, same_upd (s8.trans s9) nd, uL ++ [v9], upd_same, ?_⟩
        have : optAny FF = [mkAny FF] := by unfold optAny; rw [if_neg hne]
        rw [this]
        exact trees_push tL (sameT_of (s8.trans s9)) tv9 (s9 _ _ ed8)
    rintro σ' H8 ⟨rfl, s8, ws8, ed8, tw8⟩
    have lw8 := tw8.length
    have lo := optAny_len FF
    rw [List.length_append] at lw8
    -- if len(lists) == 2
    refine ⟨fun σ' H' => σ' = [some (.ref a), some (.ref c), some (.ref p1), some (.ref p2), some (.ref p3), some (.ref D1), some (.ref d), none] ∧ Same Hz H' ∧ ∃ ws, H' d = some (.lst ws) ∧ TreesAt H' (L ++ optAny FF ++ tailJ R) ws, ?_, ?_⟩
    · refine ⟨_, rfl, D1, _, rfl, .inl (SqL.of (s8 _ _ edz)), rfl, _, rfl, ?_⟩
      match R, vr, tR, lR, sm with
      | [], [], _, _, _ =>
        refine ⟨rfl, s8, ws8, ed8, ?_⟩
        show TreesAt H8 (L ++ optAny FF ++ []) ws8
        rw [List.append_nil]; exact tw8
      | [L'], [v'], .cons o2 .nil, _, sm =>
        obtain ⟨sF', sl', _⟩ := sm (some L') (List.mem_cons_of_mem _ List.mem_cons_self) L' rfl
        have nL' := lvs_len sF'
        cases o2 with
        | @some pL' uL' _ _ eL' tL' =>
        have nuL' := tL'.length
        refine ⟨_, rfl, .inl ⟨rfl, _, SqL.of ed8⟩, _, rfl, D1, _, 1, .ref pL', rfl, rfl, SqL.of (s8 _ _ edz), rfl, pL', uL', rfl, SqL.of (s8 _ _ eL'), fun r nr => ?_⟩
        have s9 := s8.trans (same_new (o := .lst uL'.reverse) nr)
        have ed9 := (same_new (o := .lst uL'.reverse) nr) _ _ ed8
        refine ⟨d, r, ws8, uL'.reverse, rfl, rfl, ed9, upd_same, sl1000 (by rw [List.length_reverse]; omega), ?_⟩
        refine ⟨rfl, same_upd s9 nd, ws8 ++ uL'.reverse, upd_same, ?_⟩
        exact TreesAt.mono (sameT_lst ed9) (All2.app (tw8.mono (sameT_new nr)) (tL'.mono (sameT_of s9)).rev)
      | _ :: _ :: _, _, _, h, _ => simp at h
      | [], _ :: _, h, _, _ => cases h
      | [_], [], h, _, _ => cases h
      | [_], _ :: _ :: _, .cons _ h, _, _ => cases h
    rintro σ' H9 ⟨rfl, s9, ws9, ed9, tw9⟩
    refine ⟨_, rfl, _, rfl, d, ws9, _, rfl, ed9, tw9, fun z => by have := congrArg List.length z; rw [List.length_append, List.length_append] at this; simp only [List.length_nil] at this; omega, fun H10 v10 s10 tv10 => ⟨(by show 1 ≤ sizeLine; decide), fun l1 nl1 => ?_⟩⟩
    have s910 := s9.trans s10
    have s11 := s910.trans (same_new (o := .lst [v10]) nl1)
    refine ⟨p1, l1, u1, [v10], rfl, rfl, s11 _ _ e1z, upd_same, sl1000 (by rw [List.length_singleton]; omega), fun l2 nl2 => ?_⟩
    have s12 := s11.trans (same_new (o := .lst (u1 ++ [v10])) nl2)
    refine ⟨l2, u1 ++ [v10], EE ++ [mkRow (L ++ optAny FF ++ tailJ R)], rfl, upd_same, ?_, by simp, fun H13 v13 s13' tv13 => ?_⟩
    · exact TreesAt.mono (sameT_new nl2) (TreesAt.mono (sameT_new nl1) ((t1z.mono (sameT_of s910)).snoc tv10))
    · refine q H13 v13 (s13.trans (s6.trans (s12.trans s13'))) ?_
      rw [res3 L R hLs lR]
      exact .some tv13
end
end K13

/-! K13 W8: the walk: joined_row. -/
namespace K13
open PySem PySem.Spec PyProof.Rows L2
/-! ### the run over the places first .. last -/
def piece (p : Int → Bool) (inner : Inner) (ps : List Tr) (l j : Nat) : Option (List Tr) := match ps[j]? with
  | some q => if sh p q = .som then (if j = l then (inner q).map List.reverse else inner q) else some [q]
  | none => some []
def runTo (p : Int → Bool) (inner : Inner) (ps : List Tr) (f l : Nat) : Nat → Option (List Tr)
  | 0 => some []
  | i + 1 => (runTo p inner ps f l i).bind fun A => (piece p inner ps l (f + i)).map fun B => A ++ B
section
variable {p : Int → Bool} {inner : Inner} {ps : List Tr} {f l : Nat}
theorem piece_at {q : Tr} {j : Nat} (h : ps[j]? = some q) : piece p inner ps l j = if sh p q = .som then (if j = l then (inner q).map List.reverse else inner q) else some [q] := by unfold piece; rw [h]
theorem runTo_succ (i : Nat) : runTo p inner ps f l (i + 1) = (runTo p inner ps f l i).bind fun A => (piece p inner ps l (f + i)).map fun B => A ++ B := rfl
theorem runTo_stop {i : Nat} (h : runTo p inner ps f l i = none) : ∀ k, runTo p inner ps f l (i + k) = none
  | 0 => h
  | k + 1 => by rw [← Nat.add_assoc, runTo_succ, runTo_stop h k]; rfl
theorem runTo_mid {x y : Tr} (hx : ps[f]? = some x) (hy : ps[l]? = some y) (lt : f < l) (all : ∀ q ∈ (ps.take l).drop (f + 1), sh p q = .all) : ∀ i, f + i < l → runTo p inner ps f l (i + 1) = (ends p inner x).map fun X => X ++ (ps.take (f + (i + 1))).drop (f + 1)
  | 0, h => by
    have e : (ps.take (f + (0 + 1))).drop (f + 1) = [] := List.drop_eq_nil_of_le (by rw [List.length_take]; exact Nat.min_le_left _ _)
    rw [runTo_succ, e, Nat.add_zero, piece_at hx, if_neg (Nat.ne_of_lt lt)]
    show ((if sh p x = .som then inner x else some [x]).map fun B => [] ++ B) = (if sh p x = .som then inner x else some [x]).map fun X => X ++ []
    congr 1
    funext B
    rw [List.append_nil]; rfl
  | i + 1, h => by
    rw [runTo_succ, runTo_mid hx hy lt all i (by omega)]
    have hj : f + (i + 1) < ps.length := by have := (List.getElem?_eq_some_iff.1 hy).1; omega
    have hq := List.getElem?_eq_getElem hj
    have hm : ps[f + (i + 1)] ∈ (ps.take l).drop (f + 1) := by
      refine List.mem_iff_getElem?.2 ⟨i, ?_⟩
      rw [List.getElem?_drop, List.getElem?_take_of_lt (by omega), show f + 1 + i = f + (i + 1) by omega]
      exact hq
    rw [piece_at hq, if_neg (by rw [all _ hm]; exact nofun)]
    have e : (ps.take (f + (i + 1 + 1))).drop (f + 1) = (ps.take (f + (i + 1))).drop (f + 1) ++ [ps[f + (i + 1)]] := by
      rw [show f + (i + 1 + 1) = f + (i + 1) + 1 by omega, take_next hq, List.drop_append_of_le_length (by rw [List.length_take]; omega)]
    rw [e]
    cases ends p inner x with
    | none => rfl
    | some X => show some ((X ++ _) ++ _) = some (X ++ (_ ++ _)); rw [List.append_assoc]
theorem runTo_all {x y : Tr} (hx : ps[f]? = some x) (hy : ps[l]? = some y) (lt : f < l) (all : ∀ q ∈ (ps.take l).drop (f + 1), sh p q = .all) :
    runTo p inner ps f l (l - f + 1) = (ends p inner x).bind fun X => (ends p inner y).map fun Y => X ++ ((ps.take l).drop (f + 1) ++ Y.reverse) := by
  have h := runTo_mid (inner := inner) hx hy lt all (l - f - 1) (by omega)
  rw [show l - f - 1 + 1 = l - f by omega, show f + (l - f) = l by omega] at h
  rw [runTo_succ, h, show f + (l - f) = l by omega, piece_at hy, if_pos rfl]
  have : (if sh p y = .som then (inner y).map List.reverse else some [y]) = (ends p inner y).map List.reverse := by
    unfold ends
    by_cases hs : sh p y = .som
    · rw [if_pos hs, if_pos hs]
    · rw [if_neg hs, if_neg hs]; rfl
  rw [this]
  cases ends p inner x with
  | none => rfl
  | some X =>
    cases ends p inner y with
    | none => rfl
    | some Y => show some ((X ++ _) ++ Y.reverse) = some (X ++ (_ ++ Y.reverse)); rw [List.append_assoc]
theorem joinedRow_eq {x y : Tr} (hx : ps[f]? = some x) (hy : ps[l]? = some y) (lt : f < l) : joinedRow p inner f l ps = if ∀ q ∈ (ps.take l).drop (f + 1), sh p q = .all then (runTo p inner ps f l (l - f + 1)).map fun M => mkRow (ps.take f ++ M ++ ps.drop (l + 1)) else none := by
  unfold joinedRow
  rw [hx, hy]
  show rowJoin p inner (ps.take f) x ((ps.take l).drop (f + 1)) y (ps.drop (l + 1)) = _
  unfold rowJoin
  by_cases all : ∀ q ∈ (ps.take l).drop (f + 1), sh p q = .all
  · rw [if_pos all, if_pos all, runTo_all hx hy lt all]
    cases ends p inner x with
    | none => rfl
    | some X =>
      cases ends p inner y with
      | none => rfl
      | some Y =>
        show some (mkRow _) = some (mkRow _)
        simp [List.append_assoc]
  · rw [if_neg all, if_neg all]
end
/-- the touched places as the code lists them -/
def isAll (p : Int → Bool) (ps : List Tr) (i : Nat) : Bool := match ps[i]? with
  | some q => decide (sh p q = .all)
  | none => true
theorem mid_all {p : Int → Bool} {ps : List Tr} {f l : Nat} (hl : l ≤ ps.length) : (∀ q ∈ (ps.take l).drop (f + 1), sh p q = .all) ↔ (List.range (l - (f + 1))).filter (fun i => !isAll p ps (f + 1 + i)) = [] := by
  rw [List.filter_eq_nil_iff]
  constructor
  · intro h i hi
    rw [List.mem_range] at hi
    have hj : f + 1 + i < ps.length := by omega
    have hq := List.getElem?_eq_getElem hj
    unfold isAll
    rw [hq]
    have : sh p ps[f + 1 + i] = .all := h _ (List.mem_iff_getElem?.2 ⟨i, by rw [List.getElem?_drop, List.getElem?_take_of_lt (by omega)]; exact hq⟩)
    show ¬ (!decide (sh p ps[f + 1 + i] = .all)) = true
    rw [decide_eq_true this]; exact Bool.false_ne_true
  · intro h q hq
    obtain ⟨i, hi⟩ := List.mem_iff_getElem?.1 hq
    have hlt := (List.getElem?_eq_some_iff.1 hi).1
    rw [List.length_drop, List.length_take, Nat.min_eq_left hl] at hlt
    rw [List.getElem?_drop, List.getElem?_take_of_lt (by omega)] at hi
    have := h i (List.mem_range.2 hlt)
    unfold isAll at this
    rw [hi] at this
    have t2 : ¬ (!decide (sh p q = .all)) = true := this
    cases e : decide (sh p q = .all) with
    | true => exact of_decide_eq_true e
    | false => rw [e] at t2; exact absurd rfl t2
theorem filter_next {g : Nat → Bool} {i : Nat} : (List.range (i + 1)).filter g = (List.range i).filter g ++ (if g i = true then [i] else []) := by
  rw [List.range_succ, List.filter_append]
  congr 1
  by_cases h : g i = true
  · rw [if_pos h, List.filter_cons_of_pos h]; rfl
  · rw [if_neg h, List.filter_cons_of_neg h]; rfl
/-- [index for index in range(lo, ..) if shares[index] != word] -/
theorem lc_marks {K : Fg} {a : Addr} {ps : List Tr} {p : Int → Bool} {lo n : Nat} {sw : Sh} {g : Nat → Bool} {i j : Nat} {vs : List Nat} {σ : L2.St} {H1 : Hp} {D : Addr} {Qd : Hp → Prop} (nD : H1 D = none) (ha : H1 a = some (.lst (shVs (ps.map (sh p)))))
    (hn : lo + n ≤ ps.length) (h1000 : ps.length ≤ 1000) (hg : ∀ k q, ps[lo + k]? = some q → g k = !decide (sh p q = sw))
    (hw : ∀ x, wipe ((wipe σ vs).set i (some x)) vs = wipe σ vs) (hi : ∀ x, ((wipe σ vs).set i (some x))[i]? = some (some x)) (hj : ∀ x, ((wipe σ vs).set i (some x))[j]? = some (some (.ref a)))
    (hd : ∀ H, Same H1 H → H D = some (.lst ((((List.range n).filter g).map fun k => ((lo + k : Nat) : Int)).map V.int)) → Qd H) :
    ∃ W : Nat → Nat → Hp → Prop, (∃ m, W 0 m (upd H1 D (.lst []))) ∧ ∀ k m H, W k m H →
      ((Itr (lo : Int) n).stop k H ∧ Qd H) ∨ ((Itr (lo : Int) n).go k H ∧ ∃ Nx : Hp → Prop, (∀ H', Nx H' → ∃ m', m' < m ∧ W (k + 1) m' H') ∧ ∀ x H', (Itr (lo : Int) n).yld k H x H' → gName i x (wipe σ vs) H' fun σ2 H2 => wipe σ2 vs = wipe σ vs ∧ (tTest (tOp rNe (tOp (rIxL K) (tVar j) (tVar i)) (tC (.str (shW sw))))) σ2 H2 fun b H3 =>
        if b = true then (tVar i) σ2 H3 fun y H4 => ∃ acc, H4 D = some (.lst acc) ∧ acc.length < sizeLine ∧ Nx (upd H4 D (.lst (acc ++ [y]))) else Nx H3) := by
  refine lc_range (fun k H' => Same H1 H' ∧ H' D = some (.lst ((((List.range k).filter g).map fun k => ((lo + k : Nat) : Int)).map V.int))) ⟨same_new nD, upd_same⟩ ?_ ?_
  · rintro k H' hk ⟨sm, e⟩
    have hlt : lo + k < ps.length := by omega
    have hq := List.getElem?_eq_getElem hlt
    have ec : ((lo : Int) + (k : Int)) = ((lo + k : Nat) : Int) := by omega
    have hv : (shVs (ps.map (sh p)))[lo + k]? = some (.str (shW (sh p ps[lo + k]))) := by
      unfold shVs
      rw [List.getElem?_map, List.getElem?_map, hq]; rfl
    rw [ec]
    refine ⟨hw _, _, hj _, _, hi _, a, _, _, _, rfl, rfl, SqL.of (sm _ _ ha), atI_nat hv, rfl, g k, by rw [shW_eq, hg k _ hq], ite2 (fun c => ?_) (fun c => ?_)⟩
    · refine ⟨_, hi _, _, e, ?_, same_upd sm nD, ?_⟩
      · rw [List.length_map, List.length_map]
        have := List.length_filter_le g (List.range k)
        rw [List.length_range] at this
        exact small1000 (by omega)
      · rw [upd_same, filter_next, if_pos c, List.map_append, List.map_append]; rfl
    · refine ⟨sm, ?_⟩
      rw [filter_next, if_neg c, List.append_nil]
      exact e
  · rintro H ⟨sm, e⟩
    exact hd H sm e
section
variable {P : Program} {w : World} {K : Fg} {mg : Str → Option Value} {base : Heap}
abbrev s_joined_row : Stmt := topS 36
abbrev N_joined_row : List Str := ["parts", "chosen", "shares", "touched", "first", "last", "found", "index", "inner", "part"]
theorem sc_joined_row : FnScope N_joined_row ["parts", "chosen"] (defScope s_joined_row) := ⟨rfl, rfl, rfl, by decide +kernel, rfl, by decide +kernel, by decide +kernel⟩
def sp_joined_row : Sp := fun vs H Q _ => ∃ (a : Addr) (us : List V) (ps : List Tr) (c : Addr) (S : List Int), vs = [.ref a, .ref c] ∧ H a = some (.tup us) ∧ TreesAt H ps us ∧ Form (.node true ps) ∧ (lvs ps).length ≤ 24 ∧ ChAt H c S ∧
  2 ≤ (touched (setP S) ps).length ∧
  ∀ (H' : Hp) (v' : V), Same H H' → OptAt H' (joinedMany (setP S) (split (setP S) 24) true ps) v' → Q v' H'
theorem touched_first {p : Int → Bool} {ps : List Tr} {a : Nat} {r : List Nat} (h : touched p ps = a :: r) : atI ((touched p ps).map fun i : Nat => V.int (i : Int)) 0 = some (V.int (((touched p ps).headD 0 : Nat) : Int)) := by
  rw [h]
  exact atI0 _ _
theorem touched_last {p : Int → Bool} {ps : List Tr} (h : touched p ps ≠ []) : atI ((touched p ps).map fun i : Nat => V.int (i : Int)) (-1) = some (V.int (((touched p ps).getLastD 0 : Nat) : Int)) := by
  rw [List.getLastD_eq_getLast?, List.getLast?_eq_some_getLast h]
  conv => lhs; rw [← List.dropLast_concat_getLast h]
  rw [List.map_append]
  exact atI_last _ _
theorem ok_joined_row (D : Def K mg "joined_row" s_joined_row ["parts", "chosen"]) (B : Bl mg) (c_split : Can P w K mg base 78 "split" ["tree", "chosen"] (sp_split 24)) (c_share : Can P w K mg base 27 "share" ["tree", "chosen"] sp_share) (c_make_row : Can P w K mg base 2 "make_row" ["parts"] sp_make_row) :
    Can P w K mg base 79 "joined_row" ["parts", "chosen"] sp_joined_row := by
  refine D.ok sc_joined_row (fun vs H Q E h => ?_) (fun f cdv A outer s H vs Q E hr h => ?_)
  · obtain ⟨a, us, ps, c, S, rfl, _⟩ := h; rfl
  obtain ⟨a, us, ps, c, S, rfl, ha, hp, F, hl24, hc, two, q⟩ := h
  have Fp := F.parts
  have lp := lvs_len Fp
  have len := hp.length
  refine ⟨_, (pss_cons (ps_set (i := 2) sc_joined_row.nd rfl (.inr rfl) (pe_lc (own := [("part", 9)]) (g := gName 9) rfl sc_joined_row.nd (pi_tup (pv 0)) (blkOk_by (own := [("part", 9)]) (N := N_joined_row) (sc := defScope s_joined_row) (by decide +kernel)) (fun _ _ _ _ _ => (pg_name (i := 9) sc_joined_row.nd rfl (.inl rfl) (.inr rfl))) (fun _ _ _ _ _ => pts_nil) (fun _ _ _ _ _ => (pe_can c_share hr (by omega) rfl (pa_cons (pv 9) (pa_cons (pv 1) pa_nil))))))
      (pss_cons (ps_setLc (i := 3) (own := [("index", 7)]) (g := gName 7) rfl sc_joined_row.nd rfl rfl (sw_true rfl rfl rfl (by decide +kernel)) (pi_range1 rfl B.range (pa_cons (pe_callB call_len_seq rfl B.len bv_len (pa_cons (pv 0) pa_nil)) pa_nil)) (blkOk_by (own := [("index", 7)]) (N := N_joined_row) (sc := defScope s_joined_row) (by decide +kernel)) (fun _ _ _ _ _ => (pg_name (i := 7) sc_joined_row.nd rfl (.inl rfl) (.inr rfl))) (fun _ _ _ _ _ => (pts_one (pt_cmpR op_ne (pe_ix (ix_listK K) (pv 2) (pv 7) (fun _ _ => rfl)) pe_str (nomark _)))) (fun _ _ _ _ _ => (pv 7)))
      (pss_cons (ps_set (i := 4) sc_joined_row.nd rfl (.inl rfl) (pe_ix ix_list (pv 3) pe_int (fun _ _ => rfl)))
      (pss_cons (ps_set (i := 5) sc_joined_row.nd rfl (.inl rfl) (pe_ix ix_list (pv 3) (pe_un un_neg pe_int) (fun _ _ => rfl)))
      (pss_cons (ps_if (pt_cmpR (op_neD hr.units) (pe_lc (own := [("index", 7)]) (g := gName 7) rfl sc_joined_row.nd (pi_range2 rfl B.range (pa_cons (pe_op op_add (pv 4) pe_int) (pa_cons (pv 5) pa_nil))) (blkOk_by (own := [("index", 7)]) (N := N_joined_row) (sc := defScope s_joined_row) (by decide +kernel)) (fun _ _ _ _ _ => (pg_name (i := 7) sc_joined_row.nd rfl (.inl rfl) (.inr rfl))) (fun _ _ _ _ _ => (pts_one (pt_cmpR op_ne (pe_ix (ix_listK K) (pv 2) (pv 7) (fun _ _ => rfl)) pe_str (nomark _)))) (fun _ _ _ _ _ => (pv 7))) (pe_lst pa_nil) (nomark _))
      (pss_one (ps_ret pe_non))
      pss_nil)
      (pss_cons (ps_set (i := 6) sc_joined_row.nd rfl (.inl rfl) (pe_callTy call_list_of rfl B.list bv_list (pa_cons (pe_slice sl_tupA (pv 0) po_none (po_some (pv 4))) pa_nil)))
      (pss_cons (ps_for PassesOwn.never rfl (pi_range2 rfl B.range (pa_cons (pv 4) (pa_cons (pe_op op_add (pv 5) pe_int) pa_nil))) (pg_name (i := 7) sc_joined_row.nd rfl (.inl rfl))
      (pss_cons (ps_set (i := 8) sc_joined_row.nd rfl (.inl rfl) (pe_lst (pa_cons (pe_ix ix_tup (pv 0) (pv 7) (fun _ _ => rfl)) pa_nil)))
      (C8.pss_cut (ps_if (pt_cmpR op_eq (pe_ix ix_list (pv 2) (pv 7) (fun _ _ => rfl)) pe_str (nomark _))
      (pss_cons (ps_set (i := 8) sc_joined_row.nd rfl (.inl rfl) (pe_can c_split hr (by omega) rfl (pa_cons (pe_ix ix_tup (pv 0) (pv 7) (fun _ _ => rfl)) (pa_cons (pv 1) pa_nil))))
      (pss_cons (ps_if (pt_cmpR op_isN (pv 8) pe_non (nomark _))
      (pss_one (ps_ret pe_non))
      pss_nil)
      (pss_one (ps_if (pt_cmpR op_eq (pv 7) (pv 5) (nomark _))
      (pss_one (ps_set (i := 8) sc_joined_row.nd rfl (.inl rfl) (pe_revL (pv 8))))
      pss_nil))))
      pss_nil)
      (pss_one (ps_expr (pe_bm PySem.F.plainAttrs_list PySem.F.slot_list_extend PySem.F.type_list_extend mt_extend (pv 6) (pa_cons (pv 8) pa_nil)))))))
      (pss_cons (ps_expr (pe_bm PySem.F.plainAttrs_list PySem.F.slot_list_extend PySem.F.type_list_extend mt_extendT (pv 6) (pa_cons (pe_slice sl_tupA (pv 0) (po_some (pe_op op_add (pv 5) pe_int)) po_none) pa_nil)))
      (pss_one (ps_ret (pe_can c_make_row hr (by omega) rfl (pa_cons (pv 6) pa_nil)))))))))))), ?_⟩
  -- shares
  refine ⟨_, rfl, a, rfl, ⟨_, SqT.of ha⟩, fun d1 nd1 => ?_⟩
  refine lc_shares (K := K) (Sq := SqT K) (it := Itt K) (fun {_ _ _ _ _ _ _ _ _ _} => lc_tup) nd1 (fun H' sm => SqT.of (sm _ _ ha)) hp Fp hl24 hc (fun _ => rfl) (fun _ => rfl) (fun _ => rfl) fun H1 s1 e1 => ?_
  -- touched
  have g1 : ∀ (k : Nat) (z : Tr), ps[0 + k]? = some z → isTouched (setP S) ps k = !decide (sh (setP S) z = .non) := fun k z e => by
    rw [Nat.zero_add] at e
    unfold isTouched
    rw [e]
    show decide (¬ _) = _
    rw [decide_not]
  refine ⟨_, rfl, a, _, rfl, .inr (SqT.of (s1 _ _ ha)), _, rfl, by omega, by omega, fun d2 nd2 => ?_⟩
  have lu : ((us.length : Int)).toNat = ps.length := by omega
  rw [lu]
  refine lc_marks (p := setP S) (lo := 0) (n := ps.length) (sw := .non) nd2 e1 (by omega) (by omega) g1 (fun _ => rfl) (fun _ => rfl) (fun _ => rfl) fun H2 s2 e2 => ?_
  have s02 := s1.trans s2
  have e1 := s2 _ _ e1
  have tV : (((List.range ps.length).filter (isTouched (setP S) ps)).map fun k : Nat => ((0 + k : Nat) : Int)).map V.int = (touched (setP S) ps).map fun i : Nat => V.int (i : Int) := by
    rw [List.map_map]
    unfold touched
    refine List.map_congr_left fun k _ => ?_
    show V.int ((0 + k : Nat) : Int) = V.int (k : Int)
    rw [Nat.zero_add]
  rw [tV] at e2
  match ht : touched (setP S) ps, two with
  | t0 :: t1 :: tr, _ =>
  have a0 := touched_first ht
  have aL := touched_last (p := setP S) (ps := ps) (by rw [ht]; exact List.cons_ne_nil _ _)
  obtain ⟨fi, la, x, y, ef, el, lt, hx, hy, nx, ny, n1, n2⟩ := ends_touched ht
  rw [ef] at a0
  rw [el] at aL
  have res : joinedMany (setP S) (split (setP S) 24) true ps = joinedRow (setP S) (split (setP S) 24) fi la ps := by unfold joinedMany; rw [if_pos rfl, ef, el]
  rw [joinedRow_eq hx hy lt] at res
  have fl := (List.getElem?_eq_some_iff.1 hx).1
  have ll := (List.getElem?_eq_some_iff.1 hy).1
  refine ⟨_, rfl, d2, _, 0, _, rfl, rfl, SqL.of e2, a0, ?_⟩
  refine ⟨_, rfl, _, rfl, d2, _, -1, _, rfl, rfl, SqL.of e2, aL, ?_⟩
  -- if [..] != []
  refine ⟨_, rfl, _, _, rfl, rfl, _, rfl, _, _, rfl, ⟨by omega, by omega, by omega, by omega⟩, fun d3 nd3 => ?_⟩
  rw [show ((la : Int) - ((fi : Int) + 1)).toNat = la - (fi + 1) by omega, show ((fi : Int) + 1) = ((fi + 1 : Nat) : Int) by omega]
  have g2 : ∀ (k : Nat) (z : Tr), ps[fi + 1 + k]? = some z → (fun i => !isAll (setP S) ps (fi + 1 + i)) k = !decide (sh (setP S) z = .all) := fun k z e => by
    show (!isAll (setP S) ps (fi + 1 + k)) = _
    unfold isAll
    rw [e]
  refine lc_marks (p := setP S) (lo := fi + 1) (n := la - (fi + 1)) (sw := .all) nd3 e1 (by omega) (by omega) g2 (fun _ => rfl) (fun _ => rfl) (fun _ => rfl) fun H3 s3 e3 => ?_
  have s03 := s02.trans s3
  refine ⟨Nat.zero_le _, fun d4 nd4 => ?_⟩
  have s04 := s03.trans (same_new (o := .lst []) nd4)
  refine ne_lists (ns := _) (ms := []) (SqL.of ((same_new nd4) _ _ e3)) (SqL.of upd_same) ⟨_, rfl, ?_⟩
  have mall := mid_all (p := setP S) (ps := ps) (f := fi) (l := la) (by omega)
  generalize hG : (List.range (la - (fi + 1))).filter (fun i => !isAll (setP S) ps (fi + 1 + i)) = GG at *
  by_cases all : GG = []
  rotate_left
  · rw [decide_eq_false (fun z => all (List.map_eq_nil_iff.1 z))]
    refine q _ .non s04 ?_
    rw [res, if_neg (fun z => all (mall.1 z))]
    exact .none
  rw [decide_eq_true (by rw [all]; rfl)]
  rw [if_pos (mall.2 all)] at res
  -- found = list(parts[:first])
  refine ⟨_, rfl, _, rfl, _, rfl, slA_of (s04 _ _ ha) fun H5 p5 s5 e5 => ⟨p5, _, rfl, .inr (SqT.of e5), fun o no => ?_⟩⟩
  rw [cutV_to] at e5 ⊢
  have s05 := s04.trans s5
  have no0 : H o = none := s05.free no
  have hp5 := hp.mono (sameT_of s05)
  have e1 := s5 _ _ ((same_new (o := .lst []) nd4) _ _ (s3 _ _ e1))
  have ha5 := s05 _ _ ha
  have hc5 := hc.mono s05
  -- for index in range(first, last + 1)
  refine ⟨_, rfl, _, rfl, _, _, rfl, rfl, _, _, rfl, ⟨by omega, by omega, by omega, by omega⟩, ?_⟩
  rw [show ((la : Int) + 1 - (fi : Int)).toNat = la - fi + 1 by omega]
  refine for_range (lo := (fi : Int)) (n := la - fi + 1) (fun i σ H' => ∃ y7 y8, σ = [some (.ref a), some (.ref c), some (.ref d1), some (.ref d2), some (.int fi), some (.int la), some (.ref o), y7, y8, none] ∧ Same H5 H' ∧
    ∃ M ws, runTo (setP S) (split (setP S) 24) ps fi la i = some M ∧ H' o = some (.lst ws) ∧ TreesAt H' (ps.take fi ++ M) ws ∧ M.length ≤ 24 * i ∧ i ≤ M.length) ⟨_, _, rfl, same_new no, [], _, rfl, upd_same, ?_, Nat.zero_le _, Nat.zero_le _⟩ ?_ ?_
  · rw [List.append_nil]
    exact TreesAt.mono (sameT_new no) (All2.take fi hp5)
  · rintro i σ H' hi ⟨y7, y8, rfl, sm, M, ws, eM, eo, tw, lM, lM1⟩
    have hj : fi + i < ps.length := by omega
    have hq := List.getElem?_eq_getElem hj
    obtain ⟨v, hv, tv⟩ := All2.get hp5 hq
    have hm := List.getElem_mem hj
    have hsh : (shVs (ps.map (sh (setP S))))[fi + i]? = some (.str (shW (sh (setP S) ps[fi + i]))) := by
      unfold shVs
      rw [List.getElem?_map, List.getElem?_map, hq]; rfl
    have eP := piece_at (p := setP S) (inner := split (setP S) 24) (l := la) hq
    have eR := runTo_succ (p := setP S) (inner := split (setP S) 24) (ps := ps) (f := fi) (l := la) i
    rw [eM] at eR
    generalize ps[fi + i] = t at *
    have lw := tw.length
    rw [List.length_append, List.length_take] at lw
    have ec : ((fi : Int) + (i : Int)) = ((fi + i : Nat) : Int) := by omega
    have mt : t.lv.length ≤ 24 := Nat.le_trans (part_le hm) hl24
    rw [ec]
    refine ⟨_, rfl, _, rfl, a, _, _, _, rfl, rfl, SqT.of (sm _ _ ha5), atI_nat hv, (by show 1 ≤ sizeLine; decide), fun n1 nn1 => ?_⟩
    have s6 := sm.trans (same_new (o := .lst [v]) nn1)
    have s6' : Same H' (upd H' n1 (.lst [v])) := same_new nn1
    -- if shares[index] == 'some'
    refine ⟨fun σ' H2 => ∃ n2 us2 B, σ' = [some (.ref a), some (.ref c), some (.ref d1), some (.ref d2), some (.int fi), some (.int la), some (.ref o), some (.int ((fi + i : Nat) : Int)), some (.ref n2), none] ∧ Same H' H2 ∧ H2 n2 = some (.lst us2) ∧ TreesAt H2 B us2 ∧ piece (setP S) (split (setP S) 24) ps la (fi + i) = some B ∧ B.length ≤ 24 ∧ 1 ≤ B.length, ?_, ?_⟩
    · refine ⟨_, rfl, _, rfl, d1, _, _, _, rfl, rfl, SqL.of (s6 _ _ e1), atI_nat hsh, rfl, _, congrArg V.bl (shW_eq (sh (setP S) t) .som), ite2 (fun cc => ?_) (fun cc => ?_)⟩
      · have hs : sh (setP S) t = .som := of_decide_eq_true cc
        rw [if_pos hs] at eP
        refine ⟨_, rfl, _, rfl, a, _, _, _, rfl, rfl, SqT.of (s6 _ _ ha5), atI_nat hv, _, rfl, t, v, c, S, rfl, tv.mono (sameT_of s6), Fp t hm, hs, mt, Nat.le_refl _, hc5.mono s6, fun H7 v7 s7 o7 => ?_⟩
        have s67 := s6'.trans s7
        cases hr7 : split (setP S) 24 t with
        | none =>
          rw [hr7] at o7 eP
          cases o7
          refine ⟨_, rfl, rfl, true, rfl, iteT ?_⟩
          refine q H7 .non (s05.trans (sm.trans s67)) ?_
          have eN : piece (setP S) (split (setP S) 24) ps la (fi + i) = none := by rw [eP]; split <;> rfl
          rw [eN] at eR
          rw [res, show la - fi + 1 = i + 1 + (la - fi - i) by omega, runTo_stop eR]
          exact .none
        | some L =>
          rw [hr7] at o7 eP
          cases o7 with
          | @some p7 u7 _ f7 e7 t7 =>
          have len7 := t7.length
          have so := split_some (Fp t hm) hs mt hr7
          have lL := split_len so
          have lL2 := so.two
          refine ⟨_, rfl, rfl, false, bF (fun z => nomatch z), iteF ?_⟩
          refine ⟨_, rfl, _, rfl, rfl, _, rfl, ite2 (fun c2 => ?_) (fun c2 => ?_)⟩
          · have c2' : fi + i = la := by have := V.int.inj (of_decide_eq_true c2); omega
            refine ⟨_, rfl, p7, u7, rfl, SqL.of e7, fun r nr => ?_⟩
            refine ⟨r, _, L.reverse, rfl, s67.trans (same_new nr), upd_same, ?_, ?_, ?_, by rw [List.length_reverse]; omega⟩
            · exact (t7.mono (sameT_new nr)).rev
            · rw [eP, if_pos c2']; rfl
            · rw [List.length_reverse]; omega
          · have c2' : ¬ fi + i = la := fun z => of_decide_eq_false (Bool.eq_false_iff.2 c2) (by rw [z])
            refine ⟨p7, _, L, rfl, s67, e7, t7, ?_, ?_, by omega⟩
            · rw [eP, if_neg c2']
            · omega
      · have hs : ¬ sh (setP S) t = .som := of_decide_eq_false (Bool.eq_false_iff.2 cc)
        refine ⟨n1, _, [t], rfl, s6', upd_same, ?_, ?_, ?_, Nat.le_refl _⟩
        · exact .cons (tv.mono (sameT_of s6)) .nil
        · rw [eP, if_neg hs]
        · show 1 ≤ 24; decide
    rintro σ' H2 ⟨n2, us2, B, rfl, s2', en2, tB, eB, lB, lB1⟩
    have lB2 := tB.length
    have eo2 := s2' _ _ eo
    refine ⟨_, rfl, .inl ⟨rfl, _, SqL.of eo2⟩, _, rfl, o, n2, ws, us2, rfl, rfl, eo2, en2, sl1000 (by omega), ?_⟩
    refine ⟨_, _, rfl, same_upd (sm.trans s2') no, M ++ B, ws ++ us2, ?_, upd_same, ?_, ?_, by rw [List.length_append]; omega⟩
    · rw [eR, eB]; rfl
    · rw [← List.append_assoc]
      exact TreesAt.mono (sameT_lst eo2) (All2.app (tw.mono (sameT_of s2')) tB)
    · rw [List.length_append]; omega
  · rintro σ H' ⟨y7, y8, rfl, sm, M, ws, eM, eo, tw, lM, lM1⟩
    rw [eM] at res
    have lw := tw.length
    rw [List.length_append, List.length_take] at lw
    refine ⟨_, rfl, .inl ⟨rfl, _, SqL.of eo⟩, _, rfl, _, rfl, _, _, rfl, rfl, ((la + 1 : Nat) : Int), congrArg V.int (by omega), ?_⟩
    dsimp only [tNoPart]
    refine slA_of (sm _ _ ha5) fun H6 p6 s6 e6 => ?_
    rw [cutV_from] at e6
    have eo6 := s6 _ _ eo
    refine ⟨o, p6, ws, _, rfl, rfl, eo6, SqT.of e6, sl1000 (by rw [List.length_drop]; omega), ?_⟩
    refine ⟨_, rfl, o, _, _, rfl, upd_same, TreesAt.mono (sameT_lst eo6) (All2.app (tw.mono (sameT_of s6)) ((hp5.mono (sameT_of (sm.trans s6))).drop (la + 1))), ?_, fun H7 v7 s7 tv7 => ?_⟩
    · intro z
      have := congrArg List.length z
      rw [List.length_append, List.length_append] at this
      simp only [List.length_nil] at this
      omega
    · refine q H7 v7 (s05.trans ((same_upd (sm.trans s6) no).trans s7)) ?_
      rw [res]
      exact .some tv7
  | [], h => simp at h
  | [_], h => simp at h
end
end K13

/-! K13 W9: the walk: joined, reduced_by, reduced_by_all, tree_of, common. -/
namespace K13
open PySem PySem.Spec PyProof.Rows L2
theorem touched_two {p : Int → Bool} {ps : List Tr} (two : 2 ≤ (touched p ps).length) : 2 ≤ (wsh p .som ps).length + (wsh p .all ps).length := by
  have key : ∀ qs : List Tr, (wsh p .som qs).length + (wsh p .all qs).length = (qs.filter fun q => decide (sh p q ≠ .non)).length := by
    intro qs
    induction qs with
    | nil => rfl
    | cons q r ih =>
      rw [wsh_cons, wsh_cons]
      cases e : sh p q with
      | non => rw [if_neg nofun, if_neg nofun, List.filter_cons_of_neg (by rw [e]; decide)]; exact ih
      | som => rw [if_pos rfl, if_neg nofun, List.filter_cons_of_pos (by rw [e]; decide), List.length_cons, List.length_cons]; omega
      | all => rw [if_neg nofun, if_pos rfl, List.filter_cons_of_pos (by rw [e]; decide), List.length_cons, List.length_cons]; omega
  have len : ∀ qs : List Tr, (touched p qs).length = (qs.filter fun q => decide (sh p q ≠ .non)).length := by
    intro qs
    unfold touched
    have : ∀ n, n ≤ qs.length → ((List.range n).filter (isTouched p qs)).length = ((qs.take n).filter fun q => decide (sh p q ≠ .non)).length := by
      intro n
      induction n with
      | zero => intro _; rfl
      | succ n ih =>
        intro h
        have hq := List.getElem?_eq_getElem (show n < qs.length by omega)
        rw [filter_next, take_next hq, List.filter_append, List.length_append, List.length_append, ih (by omega)]
        congr 1
        unfold isTouched
        rw [hq]
        show (if decide (sh p qs[n] ≠ .non) = true then [n] else []).length = ([qs[n]].filter fun q => decide (sh p q ≠ .non)).length
        by_cases hn : decide (sh p qs[n] ≠ .non) = true
        · rw [if_pos hn, List.filter_cons_of_pos (p := fun q => decide (sh p q ≠ .non)) hn]; rfl
        · rw [if_neg hn, List.filter_cons_of_neg (p := fun q => decide (sh p q ≠ .non)) hn]; rfl
    have := this qs.length (Nat.le_refl _)
    rw [List.take_length] at this
    exact this
  rw [key, ← len]; exact two
theorem joined_node {p : Int → Bool} {inner : Inner} {n : Nat} {b : Bool} {ps : List Tr} (h : sh p (.node b ps) ≠ .all) : joined p inner (n + 1) (.node b ps) = match touched p ps with
    | [i] => (ps[i]?.bind fun q => joined p inner n q).map fun q' => .node b (ps.take i ++ q' :: ps.drop (i + 1))
    | _ => joinedMany p inner b ps := by
  rw [joined]; exact if_neg h
section
variable {P : Program} {w : World} {K : Fg} {mg : Str → Option Value} {base : Heap}
abbrev s_joined : Stmt := topS 37
abbrev N_joined : List Str := ["tree", "chosen", "word", "parts", "touched", "inner", "index"]
theorem sc_joined : FnScope N_joined ["tree", "chosen"] (defScope s_joined) := ⟨rfl, rfl, rfl, by decide +kernel, rfl, by decide +kernel, by decide +kernel⟩
def sp_joined (n : Nat) : Sp := fun vs H Q _ => ∃ (t : Tr) (v : V) (c : Addr) (S : List Int), vs = [v, .ref c] ∧ TreeAt H t v ∧ Form t ∧ t.lv.length ≤ n ∧ n ≤ 24 ∧ ¬ NoneP (setP S) t.lv ∧ ChAt H c S ∧
  ∀ (H' : Hp) (v' : V), Same H H' → OptAt H' (joined (setP S) (split (setP S) 24) n t) v' → Q v' H'
theorem ok_joined (D : Def K mg "joined" s_joined ["tree", "chosen"]) (B : Bl mg) (c_is_thing : Can P w K mg base 1 "is_thing" ["tree"] sp_is_thing) (c_share : Can P w K mg base 27 "share" ["tree", "chosen"] sp_share)
    (c_joined_any : Can P w K mg base 79 "joined_any" ["parts", "chosen"] sp_joined_any) (c_joined_row : Can P w K mg base 79 "joined_row" ["parts", "chosen"] sp_joined_row) : ∀ n : Nat, Can P w K mg base (80 + n) "joined" ["tree", "chosen"] (sp_joined n)
  | 0 => D.never _ fun vs H Q E ⟨t, v, c, S, _, _, F, h, _⟩ => F.ne (List.eq_nil_of_length_eq_zero (Nat.le_zero.1 h))
  | n + 1 => by
    have c_joined := ok_joined D B c_is_thing c_share c_joined_any c_joined_row n
    rw [show 80 + (n + 1) = (80 + n) + 1 by omega]
    refine D.ok sc_joined (fun vs H Q E h => ?_) (fun f cdv A outer s H vs Q E hr h => ?_)
    · obtain ⟨t, v, c, S, rfl, _⟩ := h; rfl
    obtain ⟨t, v, c, S, rfl, ht, F, hl, h24, hn, hc, q⟩ := h
    refine ⟨_, (pss_cons (ps_if (PW.pt (pw_or (pt_val (pe_can c_is_thing hr (by omega) rfl (pa_cons (pv 0) pa_nil))) (pw_or1 (pt_cmpR op_eq (pe_can c_share hr (by omega) rfl (pa_cons (pv 0) (pa_cons (pv 1) pa_nil))) pe_str (nomark _)))))
      (pss_one (ps_ret (pv 0)))
      pss_nil)
      (pss_cons (ps_asg (pv 0) (pg_tup rfl (pgs_cons (pg_name (i := 2) sc_joined.nd rfl (.inl rfl)) (pgs_cons (pg_name (i := 3) sc_joined.nd rfl (.inr rfl)) pgs_nil))))
      (pss_cons (ps_setLc (i := 4) (own := [("index", 6)]) (g := gName 6) rfl sc_joined.nd rfl rfl (sw_true rfl rfl rfl (by decide +kernel)) (pi_range1 rfl B.range (pa_cons (pe_callB call_len_seq rfl B.len bv_len (pa_cons (pv 3) pa_nil)) pa_nil)) (blkOk_by (own := [("index", 6)]) (N := N_joined) (sc := defScope s_joined) (by decide +kernel)) (fun _ _ _ _ _ => (pg_name (i := 6) sc_joined.nd rfl (.inl rfl) (.inr rfl))) (fun _ _ _ _ _ => (pts_one (pt_cmpR op_ne (pe_can c_share hr (by omega) rfl (pa_cons (pe_ix (ix_tupK K) (pv 3) (pv 6) (fun _ _ => rfl)) (pa_cons (pv 1) pa_nil))) pe_str (nomark _)))) (fun _ _ _ _ _ => (pv 6)))
      (pss_cons (ps_if (pt_cmpR op_eq (pe_callB call_len_seq rfl B.len bv_len (pa_cons (pv 4) pa_nil)) pe_int (nomark _))
      (pss_cons (ps_set (i := 5) sc_joined.nd rfl (.inl rfl) (pe_can c_joined hr (by omega) rfl (pa_cons (pe_ix ix_tup (pv 3) (pe_ix ix_list (pv 4) pe_int (fun _ _ => rfl)) (fun _ _ => rfl)) (pa_cons (pv 1) pa_nil))))
      (pss_cons (ps_if (pt_cmpR op_isN (pv 5) pe_non (nomark _))
      (pss_one (ps_ret pe_non))
      pss_nil)
      (pss_one (ps_ret (pe_tup (pa_cons (pv 2) (pa_cons (pe_op op_catA (pe_op op_catA (pe_slice sl_tupA (pv 3) po_none (po_some (pe_ix ix_list (pv 4) pe_int (fun _ _ => rfl)))) (pe_tup (pa_cons (pv 5) pa_nil))) (pe_slice sl_tupA (pv 3) (po_some (pe_op op_add (pe_ix ix_list (pv 4) pe_int (fun _ _ => rfl)) pe_int)) po_none)) pa_nil)))))))
      pss_nil)
      (pss_cons (ps_if (pt_cmpR op_eq (pv 2) pe_str (nomark _))
      (pss_one (ps_ret (pe_can c_joined_any hr (by omega) rfl (pa_cons (pv 3) (pa_cons (pv 1) pa_nil)))))
      pss_nil)
      (pss_one (ps_ret (pe_can c_joined_row hr (by omega) rfl (pa_cons (pv 3) (pa_cons (pv 1) pa_nil)))))))))), ?_⟩
    cases t with
    | thing i =>
      have e := treeAt_thing ht
      subst e
      refine ⟨_, rfl, _, true, rfl, isTh_thing, true, rfl, iteT ?_⟩
      exact ⟨_, rfl, q H _ (Same.refl H) (.some ht)⟩
    | node b ps =>
      obtain ⟨a, p, us, rfl, h1, h2, h3⟩ := treeAt_node ht
      have Fp := F.parts
      have hl' := hl
      rw [lv_node] at hl' hn
      have lp := lvs_len Fp
      have len := h3.length
      have lt : ∀ {z}, z ∈ ps → z.lv.length < (Tr.node b ps).lv.length := fun hz => F.lt hz
      refine ⟨_, rfl, _, false, rfl, isTh_tup h1, false, rfl, iteF ?_⟩
      refine ⟨_, rfl, _, rfl, .node b ps, _, c, S, rfl, ht, F, by omega, hc, fun H1 s1 => ?_⟩
      refine ⟨rfl, _, congrArg V.bl (shW_eq _ .all), ite2 (fun cc => ?_) (fun cc => ?_)⟩
      · have ha : sh (setP S) (.node b ps) = .all := of_decide_eq_true cc
        refine ⟨_, rfl, q H1 _ s1 ?_⟩
        rw [joined, if_pos ha]
        exact .some (ht.mono (sameT_of s1))
      have na : sh (setP S) (.node b ps) ≠ .all := of_decide_eq_false (Bool.eq_false_iff.2 cc)
      have res := joined_node (p := setP S) (inner := split (setP S) 24) (n := n) na
      have ne := touched_ne hn
      -- word, parts = tree
      refine ⟨_, rfl, a, _, rfl, SqT.of (s1 _ _ h1), rfl, _, _, rfl, _, _, rfl, rfl, ?_⟩
      -- touched
      refine ⟨_, rfl, p, _, rfl, .inr (SqT.of (s1 _ _ h2)), _, rfl, by omega, by omega, fun d nd => ?_⟩
      rw [show ((us.length : Int)).toNat = ps.length by omega]
      have h2 := s1 _ _ h2
      have h3 := h3.mono (sameT_of s1)
      have hc := hc.mono s1
      refine lc_range (lo := 0) (n := ps.length) (fun k H' => Same H1 H' ∧ H' d = some (.lst (((List.range k).filter (isTouched (setP S) ps)).map fun i : Nat => V.int (i : Int)))) ⟨same_new nd, upd_same⟩ ?_ ?_
      · rintro k H' hk ⟨sm, e⟩
        have hq := List.getElem?_eq_getElem hk
        have hm := List.getElem_mem hk
        obtain ⟨v, hv, tv⟩ := All2.get h3 hq
        have it : isTouched (setP S) ps k = decide (sh (setP S) ps[k] ≠ .non) := by unfold isTouched; rw [hq]
        rw [show ((0 : Int) + (k : Int)) = (k : Int) by omega]
        have ml := lt hm
        refine ⟨rfl, _, rfl, _, rfl, p, _, _, _, rfl, rfl, SqT.of (sm _ _ h2), atI_nat hv, _, rfl, ps[k], v, c, S, rfl, tv.mono (sameT_of sm), Fp _ hm, by omega, hc.mono sm, fun H2 s2 => ?_⟩
        refine ⟨rfl, isTouched (setP S) ps k, (congrArg (fun z => V.bl (!z)) (shW_eq _ .non)).trans (by rw [it, decide_not]), ite2 (fun c => ?_) (fun c => ?_)⟩
        · refine ⟨_, rfl, _, s2 _ _ e, ?_, same_upd (sm.trans s2) nd, ?_⟩
          · rw [List.length_map]
            have := List.length_filter_le (isTouched (setP S) ps) (List.range k)
            rw [List.length_range] at this
            exact small1000 (by omega)
          · rw [upd_same, filter_next, if_pos c, List.map_append]; rfl
        · refine ⟨sm.trans s2, ?_⟩
          rw [filter_next, if_neg c, List.append_nil]
          exact s2 _ _ e
      rintro H2 ⟨s2, e2⟩
      have s02 := s1.trans s2
      change H2 d = some (.lst ((touched (setP S) ps).map fun i : Nat => V.int (i : Int))) at e2
      have h2 := s2 _ _ h2
      have h3 := h3.mono (sameT_of s2)
      have hc := hc.mono s2
      refine ⟨_, rfl, d, _, rfl, .inl (SqL.of e2), rfl, _, rfl, ite2 (fun c1 => ?_) (fun c1 => ?_)⟩
      · have c1' : (touched (setP S) ps).length = 1 := by have := V.int.inj (of_decide_eq_true c1); rw [List.length_map] at this; omega
        match ht : touched (setP S) ps, c1' with
        | [k], _ =>
          rw [ht] at res e2
          have res : joined (setP S) (split (setP S) 24) (n + 1) (.node b ps) = (ps[k]?.bind fun q => joined (setP S) (split (setP S) 24) n q).map fun q' => .node b (ps.take k ++ q' :: ps.drop (k + 1)) := res
          obtain ⟨t, hq, nt⟩ := mem_touched.1 (show k ∈ touched (setP S) ps by rw [ht]; exact List.mem_cons_self)
          have hm := List.mem_of_getElem? hq
          obtain ⟨v, hv, tv⟩ := All2.get h3 hq
          have ml := lt hm
          have kl := (List.getElem?_eq_some_iff.1 hq).1
          rw [hq] at res
          refine ⟨_, rfl, _, rfl, d, _, 0, _, rfl, rfl, SqL.of e2, rfl, p, _, _, _, rfl, rfl, SqT.of h2, atI_nat hv, _, rfl, t, v, c, S, rfl, tv, Fp t hm, by omega, by omega, fun z => nt (sh_non.2 z), hc, fun H3 v3 s3 o3 => ?_⟩
          have s03 := s02.trans s3
          have res : joined (setP S) (split (setP S) 24) (n + 1) (.node b ps) = (joined (setP S) (split (setP S) 24) n t).map fun q' => .node b (ps.take k ++ q' :: ps.drop (k + 1)) := res
          have e2 := s3 _ _ e2
          have h2 := s3 _ _ h2
          have h3 := h3.mono (sameT_of s3)
          cases hr3 : joined (setP S) (split (setP S) 24) n t with
          | none =>
            rw [hr3] at o3 res
            cases o3
            refine ⟨_, rfl, rfl, true, rfl, iteT ?_⟩
            refine q H3 .non s03 ?_
            rw [res]
            exact .none
          | some t' =>
            rw [hr3] at o3 res
            cases o3 with
            | some tv3 =>
            refine ⟨_, rfl, rfl, false, bF tv3.notNone, iteF ?_⟩
            -- (word, parts[:k] + (inner,) + parts[k + 1:])
            refine ⟨_, rfl, _, rfl, _, rfl, d, _, 0, _, rfl, rfl, SqL.of e2, rfl, _, rfl, ?_⟩
            refine slA_of h2 fun H4 p4 s4 e4 => ?_
            rw [cutV_to] at e4
            refine ⟨_, rfl, (by show 1 ≤ sizeLine; decide), fun p5 n5 => ?_⟩
            have s45 := s4.trans (same_new (o := .tup [v3]) n5)
            have e4 := (same_new (o := .tup [v3]) n5) _ _ e4
            refine catA_of e4 upd_same (by rw [List.length_take, List.length_singleton]; omega) fun H6 p6 s6 e6 => ?_
            have s46 := s45.trans s6
            refine ⟨_, rfl, _, rfl, d, _, 0, _, rfl, rfl, SqL.of (s46 _ _ e2), rfl, _, _, rfl, rfl, ((k + 1 : Nat) : Int), congrArg V.int (by omega), ?_⟩
            dsimp only [tNoPart]
            refine slA_of (s46 _ _ h2) fun H7 p7 s7 e7 => ?_
            rw [cutV_from] at e7
            refine catA_of (s7 _ _ e6) e7 (by rw [List.length_append, List.length_take, List.length_drop, List.length_singleton]; omega) fun H8 p8 s8 e8 => ?_
            refine ⟨(by show 2 ≤ sizeLine; decide), fun p9 n9 => ?_⟩
            have s48 := (s46.trans s7).trans s8
            have s9 : Same H8 (upd H8 p9 (.tup [.str (wd b), .ref p8])) := same_new n9
            refine q _ (.ref p9) (s03.trans (s48.trans s9)) ?_
            rw [res]
            refine .some (.node upd_same (s9 _ _ e8) ?_)
            have m := sameT_of (s48.trans s9)
            rw [show ps.take k ++ t' :: ps.drop (k + 1) = (ps.take k ++ [t']) ++ ps.drop (k + 1) by rw [List.append_assoc]; rfl]
            exact ((TreesAt.mono m (All2.take k h3)).app (.cons (tv3.mono m) .nil)).app (TreesAt.mono m (All2.drop (k + 1) h3))
        | [], h => simp at h
        | _ :: _ :: _, h => simp at h
      · have two : 2 ≤ (touched (setP S) ps).length := by
          have h0 := List.length_pos_iff.2 ne
          have : ¬ (touched (setP S) ps).length = 1 := fun z => of_decide_eq_false (Bool.eq_false_iff.2 c1) (by rw [List.length_map, z]; rfl)
          omega
        have res : joined (setP S) (split (setP S) 24) (n + 1) (.node b ps) = joinedMany (setP S) (split (setP S) 24) b ps := by
          rw [res]
          match ht : touched (setP S) ps, two with
          | _ :: _ :: _, _ => rfl
        refine ⟨_, rfl, rfl, !b, congrArg V.bl (wd_any b), ?_⟩
        cases b with
        | false =>
          refine iteT ⟨_, rfl, _, rfl, p, us, ps, c, S, rfl, h2, h3, F, by omega, hc, touched_two two, fun H3 v3 s3 o3 => ?_⟩
          refine q H3 v3 (s02.trans s3) ?_
          rw [res]
          exact o3
        | true =>
          refine iteF ⟨_, rfl, _, rfl, p, us, ps, c, S, rfl, h2, h3, F, by omega, hc, two, fun H3 v3 s3 o3 => ?_⟩
          refine q H3 v3 (s02.trans s3) ?_
          rw [res]
          exact o3
end
end K13

/-! K13 W10: the walk: reduced_by, reduced_by_all, tree_of, common. -/
namespace K13
open PySem PySem.Spec PyProof.Rows L2
section
variable {P : Program} {w : World} {K : Fg} {mg : Str → Option Value} {base : Heap}
abbrev s_reduced_by : Stmt := topS 38
abbrev N_reduced_by : List Str := ["tree", "chosen", "found"]
theorem sc_reduced_by : FnScope N_reduced_by ["tree", "chosen"] (defScope s_reduced_by) := ⟨rfl, rfl, rfl, by decide +kernel, rfl, by decide +kernel, by decide +kernel⟩
def sp_reduced_by : Sp := fun vs H Q _ => ∃ (t : Tr) (v : V) (c : Addr) (S : List Int), vs = [v, .ref c] ∧ TreeAt H t v ∧ Form t ∧ t.lv.Nodup ∧ t.lv.length ≤ 24 ∧ (∀ x ∈ S, x ∈ t.lv) ∧ ChAt H c S ∧
  ∀ (H' : Hp) (v' : V) (r : Option Tr), Same H H' → OptAt H' r v' → RedOK [S] t r → Q v' H'
theorem ok_reduced_by (D : Def K mg "reduced_by" s_reduced_by ["tree", "chosen"]) (B : Bl mg) (c_normalized : Can P w K mg base 52 "normalized" ["tree"] (sp_normalized 24)) (c_joined : Can P w K mg base 104 "joined" ["tree", "chosen"] (sp_joined 24)) :
    Can P w K mg base 105 "reduced_by" ["tree", "chosen"] sp_reduced_by := by
  refine D.ok sc_reduced_by (fun vs H Q E h => ?_) (fun f cdv A outer s H vs Q E hr h => ?_)
  · obtain ⟨t, v, c, S, rfl, _⟩ := h; rfl
  obtain ⟨t, v, c, S, rfl, ht, F, nd, hl, hS, hc, q⟩ := h
  refine ⟨_, (pss_cons (ps_if (pt_cmpR op_lt (pe_callB call_len_seq rfl B.len bv_len (pa_cons (pv 1) pa_nil)) pe_int (nomark _))
      (pss_one (ps_ret (pe_can c_normalized hr (by omega) rfl (pa_cons (pv 0) pa_nil))))
      pss_nil)
      (pss_cons (ps_set (i := 2) sc_reduced_by.nd rfl (.inl rfl) (pe_can c_joined hr (by omega) rfl (pa_cons (pv 0) (pa_cons (pv 1) pa_nil))))
      (pss_cons (ps_if (pt_cmpR op_isN (pv 2) pe_non (nomark _))
      (pss_one (ps_ret pe_non))
      pss_nil)
      (pss_one (ps_ret (pe_can c_normalized hr (by omega) rfl (pa_cons (pv 2) pa_nil))))))), ?_⟩
  refine ⟨_, rfl, c, _, rfl, .inr (SqT.of hc), _, _, rfl, rfl, _, rfl, ite2 (fun cc => ?_) (fun cc => ?_)⟩
  · have c' : S.length < 2 := by have : ((S.map V.int).length : Int) < 2 := of_decide_eq_true cc; rw [List.length_map] at this; omega
    refine ⟨_, rfl, t, v, rfl, ht, F, nd, hl, Nat.le_refl _, fun H1 t1 v1 s1 tv1 N => ?_⟩
    exact q H1 v1 _ s1 (.some tv1) (red_small c' nd N)
  have c' : ¬ S.length < 2 := fun z => of_decide_eq_false (Bool.eq_false_iff.2 cc) (by rw [List.length_map]; omega)
  have hn : ¬ NoneP (setP S) t.lv := fun z => by
    match S, c', hS, z with
    | [], c', _, _ => exact c' (by decide)
    | x :: _, _, hS, z =>
      have h1 := z x (hS x List.mem_cons_self)
      rw [setP_false] at h1
      exact h1 List.mem_cons_self
  have J := joined_ok (p := setP S) (inner := split (setP S) 24) (fun t F hs hl => split_ok 24 t F hs hl) 24 t F hn hl hl
  refine ⟨_, rfl, _, rfl, t, v, c, S, rfl, ht, F, hl, Nat.le_refl _, hn, hc, fun H1 v1 s1 o1 => ?_⟩
  cases hr1 : joined (setP S) (split (setP S) 24) 24 t with
  | none =>
    rw [hr1] at o1 J
    cases o1
    exact ⟨_, rfl, rfl, true, rfl, iteT (q H1 .non none s1 .none (red_none J))⟩
  | some t' =>
    rw [hr1] at o1 J
    cases o1 with
    | some tv1 =>
    have J' : JoinSome (setP S) t t' := J
    have pm : t'.lv.Perm t.lv := ((J'.iff _).1 (tells_lv t')).1.perm
    refine ⟨_, rfl, rfl, false, bF tv1.notNone, iteF ?_⟩
    refine ⟨_, rfl, t', v1, rfl, tv1, J'.form, pm.nodup_iff.2 nd, by rw [pm.length_eq]; exact hl, Nat.le_refl _, fun H2 t2 v2 s2 tv2 N => ?_⟩
    exact q H2 v2 _ (s1.trans s2) (.some tv2) (red_some J N)
abbrev s_reduced_by_all : Stmt := topS 39
abbrev N_reduced_by_all : List Str := ["tree", "sets", "chosen"]
theorem sc_reduced_by_all : FnScope N_reduced_by_all ["tree", "sets"] (defScope s_reduced_by_all) := ⟨rfl, rfl, rfl, by decide +kernel, rfl, by decide +kernel, by decide +kernel⟩
def sp_reduced_by_all : Sp := fun vs H Q _ => ∃ (t : Tr) (v : V) (c : Addr) (us : List V) (sets : List (List Int)), vs = [v, .ref c] ∧ TreeAt H t v ∧ Form t ∧ Normal t ∧ t.lv.Nodup ∧ t.lv.length ≤ 24 ∧ H c = some (.tup us) ∧ SetsIn H sets us ∧ (∀ S ∈ sets, ∀ x ∈ S, x ∈ t.lv) ∧
  ∀ (H' : Hp) (v' : V) (r : Option Tr), Same H H' → OptAt H' r v' → RedOK sets t r → Q v' H'
theorem ok_reduced_by_all (D : Def K mg "reduced_by_all" s_reduced_by_all ["tree", "sets"]) (c_reduced_by : Can P w K mg base 105 "reduced_by" ["tree", "chosen"] sp_reduced_by) :
    Can P w K mg base 106 "reduced_by_all" ["tree", "sets"] sp_reduced_by_all := by
  refine D.ok sc_reduced_by_all (fun vs H Q E h => ?_) (fun f cdv A outer s H vs Q E hr h => ?_)
  · obtain ⟨t, v, c, us, sets, rfl, _⟩ := h; rfl
  obtain ⟨t, v, c, us, sets, rfl, ht, F, N, nd, hl, hc, hs, hS, q⟩ := h
  refine ⟨_, (pss_cons (ps_for PassesOwn.never rfl (pi_tup (pv 1)) (pg_name (i := 2) sc_reduced_by_all.nd rfl (.inl rfl))
      (pss_cons (ps_set (i := 0) sc_reduced_by_all.nd rfl (.inl rfl) (pe_can c_reduced_by hr (by omega) rfl (pa_cons (pv 0) (pa_cons (pv 2) pa_nil))))
      (pss_one (ps_if (pt_cmpR op_isN (pv 0) pe_non (nomark _))
      (pss_one (ps_ret pe_non))
      pss_nil))))
      (pss_one (ps_ret (pv 0)))), ?_⟩
  have len := hs.length
  refine ⟨_, rfl, c, rfl, ⟨_, SqT.of hc⟩, ?_⟩
  refine for_tup (xs := us) (fun i σ H' => ∃ y v1 t1, σ = [some v1, some (.ref c), y] ∧ Same H H' ∧ TreeAt H' t1 v1 ∧ RedSome (sets.take i) t t1) ⟨_, v, t, rfl, Same.refl H, ht, red_nil F N⟩ ?_ ?_ ?_
  · rintro i σ H' hi ⟨y, v1, t1, rfl, sm, _⟩
    exact SqT.of (sm _ _ hc)
  · rintro i x σ H' hx ⟨y, v1, t1, rfl, sm, tv, R⟩
    obtain ⟨S, hS1, b, rfl, hb⟩ := All2.get' hs hx
    have hm := List.mem_of_getElem? hS1
    have pm := R.lv
    refine ⟨_, rfl, _, rfl, t1, v1, b, S, rfl, tv, R.form, pm.nodup_iff.2 nd, by rw [pm.length_eq]; exact hl, fun x hx => pm.mem_iff.2 (hS S hm x hx), sm _ _ hb, fun H2 v2 r s2 o2 R2 => ?_⟩
    have R3 := red_step R R2
    cases r with
    | none =>
      cases o2
      refine ⟨_, rfl, rfl, true, rfl, iteT ?_⟩
      refine q H2 .non none (sm.trans s2) .none ?_
      have := red_stop (more := sets.drop (i + 1)) R3
      rw [← split_at hS1] at this
      exact this
    | some t2 =>
      cases o2 with
      | some tv2 =>
      refine ⟨_, rfl, rfl, false, bF tv2.notNone, iteF ⟨_, v2, t2, rfl, sm.trans s2, tv2, ?_⟩⟩
      rw [take_next hS1]
      exact R3
  · rintro σ H' ⟨y, v1, t1, rfl, sm, tv, R⟩
    rw [← len, List.take_length] at R
    exact ⟨_, rfl, q H' v1 (some t1) sm (.some tv) R⟩
abbrev s_tree_of : Stmt := topS 40
abbrev N_tree_of : List Str := ["n", "sets"]
theorem sc_tree_of : FnScope N_tree_of ["n", "sets"] (defScope s_tree_of) := ⟨rfl, rfl, rfl, by decide +kernel, rfl, by decide +kernel, by decide +kernel⟩
def sp_tree_of : Sp := fun vs H Q _ => ∃ (n : Nat) (c : Addr) (us : List V) (sets : List (List Int)), vs = [.int n, .ref c] ∧ 1 ≤ n ∧ n ≤ 24 ∧ H c = some (.tup us) ∧ SetsIn H sets us ∧ (∀ S ∈ sets, IsSet n S) ∧ sets.length ≤ 40 ∧
  ∀ (H' : Hp) (v' : V) (r : Option Tr), Same H H' → OptAt H' r v' → RedOK sets (plainT n) r → Q v' H'
theorem ok_tree_of (D : Def K mg "tree_of" s_tree_of ["n", "sets"]) (c_check_table : Can P w K mg base 3 "check_table" ["n", "sets"] (sp_check_table K)) (c_reduced_by_all : Can P w K mg base 106 "reduced_by_all" ["tree", "sets"] sp_reduced_by_all)
    (c_plain_tree : Can P w K mg base 3 "plain_tree" ["n"] sp_plain_tree) : Can P w K mg base 107 "tree_of" ["n", "sets"] sp_tree_of := by
  refine D.ok sc_tree_of (fun vs H Q E h => ?_) (fun f cdv A outer s H vs Q E hr h => ?_)
  · obtain ⟨n, c, us, sets, rfl, _⟩ := h; rfl
  obtain ⟨n, c, us, sets, rfl, h1, h24, hc, hs, hS, hl, q⟩ := h
  refine ⟨_, (pss_cons (ps_expr (pe_can c_check_table hr (by omega) rfl (pa_cons (pv 0) (pa_cons (pv 1) pa_nil))))
      (pss_one (ps_ret (pe_can c_reduced_by_all hr (by omega) rfl (pa_cons (pe_can c_plain_tree hr (by omega) rfl (pa_cons (pv 0) pa_nil)) (pa_cons (pv 1) pa_nil)))))), ?_⟩
  refine ⟨_, rfl, _, rfl, n, c, us, sets, rfl, by omega, by omega, SqT.of hc, hs.at, hS, hl, ?_⟩
  have O := plain_over h1 h24
  refine ⟨_, rfl, n, rfl, h1, h24, fun H1 v1 s1 tv1 => ?_⟩
  refine ⟨_, rfl, plainT n, v1, c, us, sets, rfl, tv1, O.form, plain_normal h1, O.nodup, by rw [O.len]; exact h24, s1 _ _ hc, hs.mono (sameT_of s1), fun S hm x hx => ?_, fun H2 v2 r s2 o2 R => q H2 v2 r (s1.trans s2) o2 R⟩
  have := (hS S hm).2.1 x hx
  rw [O.perm.mem_iff]
  exact List.mem_map.2 ⟨x.toNat, List.mem_range.2 (by omega), by show ((x.toNat : Nat) : Int) = x; omega⟩
abbrev s_common : Stmt := topS 41
abbrev N_common : List Str := ["tree", "other"]
theorem sc_common : FnScope N_common ["tree", "other"] (defScope s_common) := ⟨rfl, rfl, rfl, by decide +kernel, rfl, by decide +kernel, by decide +kernel⟩
def sp_common : Sp := fun vs H Q _ => ∃ (n : Nat) (one two : Tr) (v u : V), vs = [v, u] ∧ TreeAt H one v ∧ TreeAt H two u ∧ Over n one ∧ Over n two ∧
  ∀ (H' : Hp) (v' : V) (r : Option Tr), Same H H' → OptAt H' r v' → CommonOK one two r → Q v' H'
theorem ok_common (D : Def K mg "common" s_common ["tree", "other"]) (B : Bl mg) (c_need_tree : Can P w K mg base 28 "need_tree" ["tree"] sp_need_tree) (c_check_tree : Can P w K mg base 27 "check_tree" ["n", "tree"] sp_check_tree) (c_listed : Can P w K mg base 26 "listed" ["tree"] (sp_listed 24))
    (c_reduced_by_all : Can P w K mg base 106 "reduced_by_all" ["tree", "sets"] sp_reduced_by_all) (c_normalized : Can P w K mg base 52 "normalized" ["tree"] (sp_normalized 24)) (c_sets_of : Can P w K mg base 52 "sets_of" ["tree"] sp_sets_of) :
    Can P w K mg base 107 "common" ["tree", "other"] sp_common := by
  refine D.ok sc_common (fun vs H Q E h => ?_) (fun f cdv A outer s H vs Q E hr h => ?_)
  · obtain ⟨n, one, two, v, u, rfl, _⟩ := h; rfl
  obtain ⟨n, one, two, v, u, rfl, h1, h2, O1, O2, q⟩ := h
  have l1 := O1.len
  have l2 := O2.len
  have n24 := O1.le
  refine ⟨_, (pss_cons (ps_expr (pe_can c_need_tree hr (by omega) rfl (pa_cons (pv 0) pa_nil)))
      (pss_cons (ps_expr (pe_can c_check_tree hr (by omega) rfl (pa_cons (pe_callB call_len_seq rfl B.len bv_len (pa_cons (pe_can c_listed hr (by omega) rfl (pa_cons (pv 0) pa_nil)) pa_nil)) (pa_cons (pv 1) pa_nil))))
      (pss_one (ps_ret (pe_can c_reduced_by_all hr (by omega) rfl (pa_cons (pe_can c_normalized hr (by omega) rfl (pa_cons (pv 0) pa_nil)) (pa_cons (pe_can c_sets_of hr (by omega) rfl (pa_cons (pv 1) pa_nil)) pa_nil))))))), ?_⟩
  refine ⟨_, rfl, n, one, v, rfl, h1, O1, fun H1 s1 => ?_⟩
  refine ⟨_, rfl, one, v, rfl, h1.mono (sameT_of s1), O1.form, by rw [l1]; exact n24, Nat.le_refl _, fun H2 p s2 np e => ?_⟩
  have s12 := s1.trans s2
  refine ⟨p, _, rfl, .inl (SqL.of e), _, rfl, n, two, u, ?_, h2.mono (sameT_of s12), O2, fun H3 s3 => ?_⟩
  · rw [lv_int, l1]; rfl
  have s13 := s12.trans s3
  refine ⟨_, rfl, one, v, rfl, h1.mono (sameT_of s13), O1.form, O1.nodup, by rw [l1]; exact n24, Nat.le_refl _, fun H4 one' v4 s4 tv4 N => ?_⟩
  have s14 := s13.trans s4
  refine ⟨_, rfl, n, two, u, rfl, h2.mono (sameT_of s14), O2, fun H5 a5 us sets s5 e5 si hc1 hc2 _ => ?_⟩
  have p12 : one.lv.Perm two.lv := O1.perm.trans O2.perm.symm
  refine ⟨one', v4, a5, us, sets, rfl, tv4.mono (sameT_of s5), N.form, N.normal, N.lv.nodup_iff.2 O1.nodup, by rw [N.lv.length_eq, l1]; exact n24, e5, si, fun S hm x hx => ?_, fun H6 v6 r s6 o6 R => ?_⟩
  · obtain ⟨C, hC, pm, _⟩ := hc2 S hm
    exact N.lv.mem_iff.2 (p12.mem_iff.2 (sets_sub hC x (pm.mem_iff.1 hx)))
  · exact q H6 v6 r ((s14.trans s5).trans s6) o6 (common_ok N O2.form O2.nodup p12 hc1 (fun S hm => by obtain ⟨C, h1, h2, _⟩ := hc2 S hm; exact ⟨C, h1, h2⟩) R)
end
end K13

/-! K13 W11: the walk: what the law draws: cells, digits, orders, stretches, things. -/
namespace K13
open PySem PySem.Spec PyProof.Rows L2
def rangeI (n : Nat) : List Int := (List.range n).map Int.ofNat
section
variable {P : Program} {w : World} {K : Fg} {mg : Str → Option Value} {base : Heap}
abbrev s__law_cell : Stmt := topS 43
abbrev N__law_cell : List Str := ["_law_script", "_law_k"]
theorem sc__law_cell : FnScope N__law_cell ["_law_script", "_law_k"] (defScope s__law_cell) := ⟨rfl, rfl, rfl, by decide +kernel, rfl, by decide +kernel, by decide +kernel⟩
def sp__law_cell (K : Fg) : Sp := fun vs H Q _ => ∃ (a : Addr) (ns : List Int) (k : Nat), vs = [.ref a, .int k] ∧ SqL K H a (ns.map V.int) ∧ ∀ i : Int, Q (.int i) H
theorem ok__law_cell (D : Def K mg "_law_cell" s__law_cell ["_law_script", "_law_k"]) (B : Bl mg) : Can P w K mg base 1 "_law_cell" ["_law_script", "_law_k"] (sp__law_cell K) := by
  refine D.ok sc__law_cell (fun vs H Q E h => ?_) (fun f cdv A outer s H vs Q E hr h => ?_)
  · obtain ⟨a, ns, k, rfl, _⟩ := h; rfl
  obtain ⟨a, ns, k, rfl, hS, q⟩ := h
  refine ⟨_, (pss_cons (ps_if (pt_cmpR op_lt (pv 1) (pe_callB call_len_seq rfl B.len bv_len (pa_cons (pv 0) pa_nil)) (nomark _))
      (pss_one (ps_ret (pe_ix ix_list (pv 0) (pv 1) (fun _ _ => rfl))))
      pss_nil)
      (pss_one (ps_ret pe_int))), ?_⟩
  refine ⟨_, rfl, _, rfl, a, _, rfl, .inl hS, _, _, rfl, rfl, _, rfl, ite2 (fun cc => ?_) (fun cc => q 0)⟩
  have c' : k < ns.length := by have : (k : Int) < ((ns.map V.int).length : Int) := of_decide_eq_true cc; rw [List.length_map] at this; omega
  have : (ns.map V.int)[k]? = some (.int ns[k]) := by rw [List.getElem?_map, List.getElem?_eq_getElem c']; rfl
  exact ⟨_, rfl, _, rfl, a, _, _, _, rfl, rfl, hS, atI_nat this, q _⟩
abbrev s__law_rich : Stmt := topS 45
abbrev N__law_rich : List Str := ["_law_cell_here", "_law_low", "_law_high"]
theorem sc__law_rich : FnScope N__law_rich ["_law_cell_here"] (defScope s__law_rich) := ⟨rfl, rfl, rfl, by decide +kernel, rfl, by decide +kernel, by decide +kernel⟩
def sp__law_rich : Sp := fun vs H Q _ => ∃ i : Int, vs = [.int i] ∧ ∀ j : Int, 0 ≤ j → Q (.int j) H
theorem ok__law_rich (D : Def K mg "_law_rich" s__law_rich ["_law_cell_here"]) (B : Bl mg) : Can P w K mg base 1 "_law_rich" ["_law_cell_here"] sp__law_rich := by
  refine D.ok sc__law_rich (fun vs H Q E h => ?_) (fun f cdv A outer s H vs Q E hr h => ?_)
  · obtain ⟨i, rfl, _⟩ := h; rfl
  obtain ⟨i, rfl, q⟩ := h
  refine ⟨_, (pss_cons (ps_if (pt_cmpR op_ge (pv 0) (pe_op op_pow pe_int pe_int) (nomark _))
      (pss_one (ps_ret (pv 0)))
      pss_nil)
      (pss_cons (ps_set (i := 1) sc__law_rich.nd rfl (.inl rfl) (pe_op op_mod (pe_callTy call_int1 rfl B.int bv_int (pa_cons (pe_op op_add (pe_op op_mul (pv 0) pe_int) pe_int) pa_nil)) pe_int))
      (pss_cons (ps_set (i := 2) sc__law_rich.nd rfl (.inl rfl) (pe_op op_mod (pe_callTy call_int1 rfl B.int bv_int (pa_cons (pe_op op_add (pe_op op_add (pe_op op_mul (pv 1) pe_int) (pe_op op_fdiv (pv 0) pe_int)) pe_int) pa_nil)) pe_int))
      (pss_one (ps_ret (pe_op op_add (pe_op op_mul (pv 1) pe_int) (pv 2))))))), ?_⟩
  refine ⟨_, rfl, _, _, rfl, rfl, ⟨by decide, by decide, by decide⟩, _, _, rfl, rfl, _, rfl, ite2 (fun cc => ?_) (fun cc => ?_)⟩
  · have c' : i ≥ 10 ^ (Int.toNat 18) := of_decide_eq_true cc
    have : (0 : Int) ≤ 10 ^ (Int.toNat 18) := by decide
    exact ⟨_, rfl, q i (by omega)⟩
  refine ⟨_, rfl, _, _, rfl, rfl, .inr ⟨by decide, by decide⟩, _, _, rfl, rfl, .inl ⟨_, rfl, _, _, rfl, rfl, (by show (0 : Int) < 2147483647; decide), ?_⟩⟩
  have l0 : 0 ≤ (i * 48271 + 11) % 2147483647 := Int.emod_nonneg _ (by decide)
  have l1 : (i * 48271 + 11) % 2147483647 < 2147483647 := Int.emod_lt_of_pos _ (by decide)
  generalize (i * 48271 + 11) % 2147483647 = lo at l0 l1
  refine ⟨_, rfl, _, _, rfl, rfl, .inr ⟨by decide, by decide⟩, _, rfl, _, _, rfl, rfl, ⟨by decide, by decide⟩, _, _, rfl, rfl, _, _, rfl, rfl, .inl ⟨_, rfl, _, _, rfl, rfl, (by show (0 : Int) < 2147483629; decide), ?_⟩⟩
  have h0 : 0 ≤ (lo * 69621 + i / 7 + 5) % 2147483629 := Int.emod_nonneg _ (by decide)
  generalize (lo * 69621 + i / 7 + 5) % 2147483629 = hi at h0
  refine ⟨_, rfl, _, _, rfl, rfl, .inr ⟨by decide, by decide⟩, _, rfl, _, _, rfl, rfl, q _ ?_⟩
  omega
abbrev s__law_digits : Stmt := topS 44
abbrev N__law_digits : List Str := ["_law_cell_here", "_law_sizes", "_law_row", "_law_size"]
theorem sc__law_digits : FnScope N__law_digits ["_law_cell_here", "_law_sizes"] (defScope s__law_digits) := ⟨rfl, rfl, rfl, by decide +kernel, rfl, by decide +kernel, by decide +kernel⟩
def sp__law_digits : Sp := fun vs H Q _ => ∃ (i : Int) (a : Addr) (x y : Int), vs = [.int i, .ref a] ∧ H a = some (.lst [.int x, .int y]) ∧ 0 < x ∧ x < 1000 ∧ 0 < y ∧ y < 1000 ∧
  ∀ (H' : Hp) (p : Addr) (d e : Int), Same H H' → H' p = some (.lst [.int d, .int e]) → 0 ≤ d → d < x → 0 ≤ e → e < y → Q (.ref p) H'
theorem ok__law_digits (D : Def K mg "_law_digits" s__law_digits ["_law_cell_here", "_law_sizes"]) (B : Bl mg) : Can P w K mg base 1 "_law_digits" ["_law_cell_here", "_law_sizes"] sp__law_digits := by
  refine D.ok sc__law_digits (fun vs H Q E h => ?_) (fun f cdv A outer s H vs Q E hr h => ?_)
  · obtain ⟨i, a, x, y, rfl, _⟩ := h; rfl
  obtain ⟨i, a, x, y, rfl, ha, x0, x1, y0, y1, q⟩ := h
  refine ⟨_, (pss_cons (ps_set (i := 2) sc__law_digits.nd rfl (.inl rfl) (pe_lst pa_nil))
      (pss_cons (ps_for PassesOwn.never rfl (pi_list (pv 1)) (pg_name (i := 3) sc__law_digits.nd rfl (.inl rfl))
      (pss_cons (ps_expr (pe_bm PySem.F.plainAttrs_list PySem.F.slot_list_append PySem.F.type_list_append mt_append (pv 2) (pa_cons (pe_op op_mod (pe_callTy call_int1 rfl B.int bv_int (pa_cons (pv 0) pa_nil)) (pv 3)) pa_nil)))
      (pss_one (ps_set (i := 0) sc__law_digits.nd rfl (.inl rfl) (pe_op op_fdiv (pv 0) (pv 3))))))
      (pss_one (ps_ret (pv 2))))), ?_⟩
  refine ⟨Nat.zero_le _, fun o no => ?_⟩
  refine ⟨_, rfl, a, rfl, ⟨_, SqL.of ((same_new no) _ _ ha)⟩, ?_⟩
  refine for_list (xs := [.int x, .int y]) (fun k σ H' => ∃ c z ds, σ = [some (.int c), some (.ref a), some (.ref o), z] ∧ Same H H' ∧ H' o = some (.lst (ds.map V.int)) ∧ All2 (fun d z => 0 ≤ d ∧ d < z) ds (([x, y] : List Int).take k)) ⟨i, _, [], rfl, same_new no, upd_same, .nil⟩ ?_ ?_ ?_
  · rintro k σ H' hk ⟨c, z, ds, rfl, sm, _⟩
    exact SqL.of (sm _ _ ha)
  · rintro k v σ H' hv ⟨c, z, ds, rfl, sm, e, al⟩
    have hk := (List.getElem?_eq_some_iff.1 hv).1
    have : ∃ m : Int, ([x, y] : List Int)[k]? = some m ∧ v = .int m ∧ 0 < m ∧ m < 1000 := by
      match k, hv with
      | 0, hv => exact ⟨x, rfl, (Option.some.inj hv).symm, x0, x1⟩
      | 1, hv => exact ⟨y, rfl, (Option.some.inj hv).symm, y0, y1⟩
      | _ + 2, hv => simp at hv
    obtain ⟨m, hm, rfl, m0, m1⟩ := this
    have la : ds.length = min k 2 := by have := al.length; rw [List.length_take] at this; exact this
    refine ⟨_, rfl, .inl ⟨rfl, _, SqL.of e⟩, _, rfl, .inl ⟨_, rfl, _, rfl, _, _, rfl, rfl, m0, o, _, _, rfl, rfl, e, small1000 (by rw [List.length_map]; omega), ?_⟩⟩
    refine ⟨_, rfl, _, rfl, _, _, rfl, rfl, ⟨m0, by omega⟩, _, _, ds ++ [c % m], rfl, same_upd sm no, ?_, ?_⟩
    · rw [upd_same, List.map_append]; rfl
    · rw [take_next hm]
      exact al.snoc ⟨Int.emod_nonneg _ (by omega), Int.emod_lt_of_pos _ m0⟩
  · rintro σ H' ⟨c, z, ds, rfl, sm, e, al⟩
    match ds, al, e with
    | [d1, d2], .cons r1 (.cons r2 .nil), e => exact ⟨_, rfl, q H' o d1 d2 sm e r1.1 r1.2 r2.1 r2.2⟩
abbrev s__law_order : Stmt := topS 46
abbrev N__law_order : List Str := ["_law_cell_here", "_law_n", "_law_left", "_law_rest", "_law_order_here", "_law_k", "_law_thing"]
theorem sc__law_order : FnScope N__law_order ["_law_cell_here", "_law_n"] (defScope s__law_order) := ⟨rfl, rfl, rfl, by decide +kernel, rfl, by decide +kernel, by decide +kernel⟩
def sp__law_order : Sp := fun vs H Q _ => ∃ (i : Int) (n : Nat), vs = [.int i, .int n] ∧ n ≤ 24 ∧ ∀ (H' : Hp) (p : Addr) (o : List Int), Same H H' → H' p = some (.tup (o.map V.int)) → o.Perm (rangeI n) → Q (.ref p) H'
theorem ok__law_order (D : Def K mg "_law_order" s__law_order ["_law_cell_here", "_law_n"]) (B : Bl mg) (c__law_rich : Can P w K mg base 1 "_law_rich" ["_law_cell_here"] sp__law_rich) : Can P w K mg base 2 "_law_order" ["_law_cell_here", "_law_n"] sp__law_order := by
  refine D.ok sc__law_order (fun vs H Q E h => ?_) (fun f cdv A outer s H vs Q E hr h => ?_)
  · obtain ⟨i, n, rfl, _⟩ := h; rfl
  obtain ⟨i, n, rfl, h24, q⟩ := h
  refine ⟨_, (pss_cons (ps_setLc (i := 2) (own := [("_law_thing", 6)]) (g := gName 6) rfl sc__law_order.nd rfl rfl (sw_true rfl rfl rfl (by decide +kernel)) (pi_range1 rfl B.range (pa_cons (pv 1) pa_nil)) (blkOk_by (own := [("_law_thing", 6)]) (N := N__law_order) (sc := defScope s__law_order) (by decide +kernel)) (fun _ _ _ _ _ => (pg_name (i := 6) sc__law_order.nd rfl (.inl rfl) (.inr rfl))) (fun _ _ _ _ _ => pts_nil) (fun _ _ _ _ _ => (pv 6)))
      (pss_cons (ps_set (i := 3) sc__law_order.nd rfl (.inl rfl) (pe_can c__law_rich hr (by omega) rfl (pa_cons (pv 0) pa_nil)))
      (pss_cons (ps_set (i := 4) sc__law_order.nd rfl (.inl rfl) (pe_lst pa_nil))
      (pss_cons (ps_for PassesOwn.never rfl (pi_range1 rfl B.range (pa_cons (pv 1) pa_nil)) (pg_name (i := 5) sc__law_order.nd rfl (.inl rfl))
      (pss_cons (ps_expr (pe_bm PySem.F.plainAttrs_list PySem.F.slot_list_append PySem.F.type_list_append mt_append (pv 4) (pa_cons (pe_bm PySem.F.plainAttrs_list PySem.F.slot_list_pop PySem.F.type_list_pop mt_popAt (pv 2) (pa_cons (pe_op op_mod (pe_callTy call_int1 rfl B.int bv_int (pa_cons (pv 3) pa_nil)) (pe_op op_sub (pv 1) (pv 5))) pa_nil)) pa_nil)))
      (pss_cons (ps_set (i := 3) sc__law_order.nd rfl (.inl rfl) (pe_op op_fdiv (pv 3) (pe_op op_sub (pv 1) (pv 5))))
      (pss_one (ps_if (pt_cmpR op_eq (pv 3) pe_int (nomark _))
      (pss_one (ps_set (i := 3) sc__law_order.nd rfl (.inl rfl) (pe_can c__law_rich hr (by omega) rfl (pa_cons (pe_op op_add (pe_op op_add (pv 0) (pv 5)) pe_int) pa_nil))))
      pss_nil)))))
      (pss_one (ps_ret (pe_callTy call_tuple_of rfl B.tuple bv_tuple (pa_cons (pv 4) pa_nil)))))))), ?_⟩
  refine ⟨_, rfl, _, rfl, by omega, by omega, fun d nd => ?_⟩
  rw [Int.toNat_natCast]
  refine lc_range (lo := 0) (n := n) (fun k H' => Same H H' ∧ H' d = some (.lst ((rangeI k).map V.int))) ⟨same_new nd, upd_same⟩ ?_ ?_
  · rintro k H' hk ⟨sm, e⟩
    refine ⟨rfl, _, rfl, _, e, small1000 (by rw [List.length_map]; unfold rangeI; rw [List.length_map, List.length_range]; omega), same_upd sm nd, ?_⟩
    rw [upd_same]
    unfold rangeI
    rw [List.range_succ, List.map_append, List.map_append, show ((0 : Int) + (k : Int)) = Int.ofNat k by simp]; rfl
  rintro H1 ⟨s1, e1⟩
  refine ⟨_, rfl, i, rfl, fun r0 hr0 => ?_⟩
  refine ⟨Nat.zero_le _, fun o no => ?_⟩
  have no0 : H o = none := s1.free no
  have s2 := s1.trans (same_new (o := .lst []) no)
  have ed := (same_new (o := .lst []) no) _ _ e1
  have nod : o ≠ d := fun z => by rw [z, e1] at no; cases no
  refine ⟨_, rfl, _, rfl, by omega, by omega, ?_⟩
  rw [Int.toNat_natCast]
  refine for_range (lo := 0) (n := n) (fun k σ H' => ∃ r z L O, σ = [some (.int i), some (.int n), some (.ref d), some (.int r), some (.ref o), z, none] ∧ Same H H' ∧ 0 ≤ r ∧ H' d = some (.lst (L.map V.int)) ∧ H' o = some (.lst (O.map V.int)) ∧ (O ++ L).Perm (rangeI n) ∧ O.length = k) ⟨r0, _, rangeI n, [], rfl, s2, hr0, ed, upd_same, .refl _, rfl⟩ ?_ ?_
  · rintro k σ H' hk ⟨r, z, L, O, rfl, sm, r0', eL, eO, pm, lO⟩
    have lL : L.length = n - k := by
      have := pm.length_eq
      unfold rangeI at this
      rw [List.length_append, List.length_map, List.length_range] at this
      omega
    rw [show ((0 : Int) + (k : Int)) = (k : Int) by omega]
    have m0 : 0 ≤ r % ((n : Int) - (k : Int)) := Int.emod_nonneg _ (by omega)
    have m1 : r % ((n : Int) - (k : Int)) < (n : Int) - (k : Int) := Int.emod_lt_of_pos _ (by omega)
    have hj : (r % ((n : Int) - (k : Int))).toNat < L.length := by omega
    have hat : (L.map V.int)[(r % ((n : Int) - (k : Int))).toNat]? = some (.int L[(r % ((n : Int) - (k : Int))).toNat]) := by rw [List.getElem?_map, List.getElem?_eq_getElem hj]; rfl
    have eO1 : ∀ u, upd H' d u o = some (.lst (O.map V.int)) := fun u => by rw [upd_ne nod]; exact eO
    refine ⟨_, rfl, .inl ⟨rfl, _, SqL.of eO⟩, _, rfl, .inl ⟨rfl, _, SqL.of eL⟩, _, rfl, .inl ⟨_, rfl, _, rfl, _, rfl, _, _, rfl, rfl, _, _, rfl, rfl, by omega, d, _, _, _, _, rfl, rfl, eL, by omega, by omega, seqIndex_of m0 (by rw [List.length_map]; omega), hat, o, _, _, rfl, rfl, eO1 _, small1000 (by rw [List.length_map]; omega), ?_⟩⟩
    refine ⟨_, rfl, _, rfl, _, rfl, _, _, rfl, rfl, _, _, rfl, rfl, ⟨by omega, by omega⟩, ?_⟩
    have q0 : 0 ≤ r / ((n : Int) - (k : Int)) := Int.ediv_nonneg r0' (by omega)
    have key : ∀ r2 : Int, 0 ≤ r2 → ∀ H2, H2 = upd (upd H' d (.lst ((L.map V.int).eraseIdx (r % ((n : Int) - (k : Int))).toNat))) o (.lst (O.map V.int ++ [.int L[(r % ((n : Int) - (k : Int))).toNat]])) →
        ∃ (r : Int) (z : Option V) (L O : List Int), [some (V.int i), some (.int n), some (.ref d), some (.int r2), some (.ref o), some (.int k), none] = [some (.int i), some (.int n), some (.ref d), some (.int r), some (.ref o), z, none] ∧ Same H H2 ∧ 0 ≤ r ∧ H2 d = some (.lst (L.map V.int)) ∧ H2 o = some (.lst (O.map V.int)) ∧ (O ++ L).Perm (rangeI n) ∧ O.length = k + 1 := by
      rintro r2 h2 _ rfl
      refine ⟨r2, _, L.eraseIdx (r % ((n : Int) - (k : Int))).toNat, O ++ [L[(r % ((n : Int) - (k : Int))).toNat]], rfl, same_upd (same_upd sm nd) no0, h2, ?_, ?_, ?_, ?_⟩
      · rw [upd_ne nod.symm, upd_same, List.eraseIdx_eq_take_drop_succ, List.eraseIdx_eq_take_drop_succ, List.map_append, List.map_take, List.map_drop]
      · rw [upd_same, List.map_append]; rfl
      · refine List.Perm.trans ?_ pm
        rw [List.append_assoc]
        refine List.Perm.append_left O ?_
        rw [List.eraseIdx_eq_take_drop_succ]
        conv => rhs; rw [split_at (List.getElem?_eq_getElem hj)]
        rw [List.singleton_append]
        exact List.perm_middle.symm
      · rw [List.length_append, lO]; rfl
    refine ⟨_, rfl, rfl, _, rfl, ite2 (fun cc => ?_) (fun cc => ?_)⟩
    · refine ⟨_, rfl, _, rfl, _, _, rfl, rfl, _, _, rfl, rfl, _, rfl, fun r2 h2 => key r2 h2 _ rfl⟩
    · exact key _ q0 _ rfl
  · rintro σ H' ⟨r, z, L, O, rfl, sm, r0', eL, eO, pm, lO⟩
    have lL : L = [] := by
      have := pm.length_eq
      unfold rangeI at this
      rw [List.length_append, List.length_map, List.length_range] at this
      exact List.eq_nil_of_length_eq_zero (by omega)
    rw [lL, List.append_nil] at pm
    exact ⟨_, rfl, o, _, rfl, .inl ⟨SqL.of eO, fun l nl => q _ l O (sm.trans (same_new nl)) upd_same pm⟩⟩
abbrev s__law_stretch : Stmt := topS 47
abbrev N__law_stretch : List Str := ["_law_cell_here", "_law_order_here", "_law_d", "_law_low", "_law_high"]
theorem sc__law_stretch : FnScope N__law_stretch ["_law_cell_here", "_law_order_here"] (defScope s__law_stretch) := ⟨rfl, rfl, rfl, by decide +kernel, rfl, by decide +kernel, by decide +kernel⟩
def sp__law_stretch : Sp := fun vs H Q _ => ∃ (i : Int) (a : Addr) (o : List Int), vs = [.int i, .ref a] ∧ H a = some (.tup (o.map V.int)) ∧ o ≠ [] ∧ o.length ≤ 24 ∧
  ∀ (H' : Hp) (p : Addr) (S x m y : List Int), Same H H' → H' p = some (.tup (S.map V.int)) → S.Pairwise (· ≤ ·) → o = x ++ (m ++ y) → S.Perm m → Q (.ref p) H'
theorem cut_parts (o : List Int) {j k : Nat} (h : j ≤ k) : o = o.take j ++ ((o.take k).drop j ++ o.drop k) := by
  have h1 : o = o.take k ++ o.drop k := (List.take_append_drop k o).symm
  have h2 : o.take k = o.take j ++ (o.take k).drop j := by
    have := (List.take_append_drop j (o.take k)).symm
    rw [List.take_take, Nat.min_eq_left h] at this
    exact this
  conv => lhs; rw [h1, h2, List.append_assoc]
theorem ok__law_stretch (D : Def K mg "_law_stretch" s__law_stretch ["_law_cell_here", "_law_order_here"]) (B : Bl mg) (c__law_digits : Can P w K mg base 1 "_law_digits" ["_law_cell_here", "_law_sizes"] sp__law_digits) (c__law_rich : Can P w K mg base 1 "_law_rich" ["_law_cell_here"] sp__law_rich) :
    Can P w K mg base 2 "_law_stretch" ["_law_cell_here", "_law_order_here"] sp__law_stretch := by
  refine D.ok sc__law_stretch (fun vs H Q E h => ?_) (fun f cdv A outer s H vs Q E hr h => ?_)
  · obtain ⟨i, a, o, rfl, _⟩ := h; rfl
  obtain ⟨i, a, o, rfl, ha, ne, h24, q⟩ := h
  have l0 := List.length_pos_iff.2 ne
  refine ⟨_, (pss_cons (ps_set (i := 2) sc__law_stretch.nd rfl (.inl rfl) (pe_can c__law_digits hr (by omega) rfl (pa_cons (pe_can c__law_rich hr (by omega) rfl (pa_cons (pv 0) pa_nil)) (pa_cons (pe_lst (pa_cons (pe_callB call_len_seq rfl B.len bv_len (pa_cons (pv 1) pa_nil)) (pa_cons (pe_callB call_len_seq rfl B.len bv_len (pa_cons (pv 1) pa_nil)) pa_nil))) pa_nil))))
      (pss_cons (ps_set (i := 3) sc__law_stretch.nd rfl (.inl rfl) (pe_callB (call_min2 rfl) rfl B.min bv_min (pa_cons (pe_ix ix_list (pv 2) pe_int (fun _ _ => rfl)) (pa_cons (pe_ix ix_list (pv 2) pe_int (fun _ _ => rfl)) pa_nil))))
      (pss_cons (ps_set (i := 4) sc__law_stretch.nd rfl (.inl rfl) (pe_callB (call_max2 rfl) rfl B.max bv_max (pa_cons (pe_ix ix_list (pv 2) pe_int (fun _ _ => rfl)) (pa_cons (pe_ix ix_list (pv 2) pe_int (fun _ _ => rfl)) pa_nil))))
      (pss_one (ps_ret (pe_callTy call_tuple_of rfl B.tuple bv_tuple (pa_cons (pe_callB cr_sortedIT rfl B.sorted bv_sorted (pa_cons (pe_slice sl_tupA (pv 1) (po_some (pv 3)) (po_some (pe_op op_add (pv 4) pe_int))) pa_nil)) pa_nil))))))), ?_⟩
  refine ⟨_, rfl, i, rfl, fun r hr0 => ?_⟩
  refine ⟨_, rfl, a, _, rfl, .inr (SqT.of ha), _, rfl, a, _, rfl, .inr (SqT.of ha), (by show 2 ≤ sizeLine; decide), fun z nz => ?_⟩
  have s1 : Same H (upd H z (.lst [.int (((o.map V.int).length : Nat) : Int), .int (((o.map V.int).length : Nat) : Int)])) := same_new nz
  refine ⟨r, z, _, _, rfl, upd_same, by rw [List.length_map]; omega, by rw [List.length_map]; omega, by rw [List.length_map]; omega, by rw [List.length_map]; omega, fun H2 p d e s2 e2 d0 d1 g0 g1 => ?_⟩
  rw [List.length_map] at d1 g1
  have s12 := s1.trans s2
  refine ⟨_, rfl, p, _, 0, _, rfl, rfl, SqL.of e2, rfl, _, rfl, p, _, 1, _, rfl, rfl, SqL.of e2, rfl, _, _, rfl, ?_⟩
  refine ⟨_, rfl, p, _, 0, _, rfl, rfl, SqL.of e2, rfl, _, rfl, p, _, 1, _, rfl, rfl, SqL.of e2, rfl, _, _, rfl, ?_⟩
  have k1 : ∃ j k : Nat, (if e < d then e else d) = (j : Int) ∧ (if d < e then e else d) + 1 = (k : Int) ∧ j ≤ k ∧ k ≤ o.length := by
    refine ⟨(if e < d then e else d).toNat, ((if d < e then e else d) + 1).toNat, ?_, ?_, ?_, ?_⟩ <;> split <;> (try split) <;> omega
  obtain ⟨j, k, ej, ek, jk, ko⟩ := k1
  refine ⟨_, rfl, _, rfl, _, rfl, _, rfl, _, _, rfl, rfl, _, congrArg V.int ek, ?_⟩
  rw [ej]
  refine slA_of (s12 _ _ ha) fun H3 p3 s3 e3 => ?_
  rw [cutV_mid _ (by rw [List.length_map]; exact ko) jk, ← List.map_take, ← List.map_drop] at e3
  refine ⟨p3, _, rfl, SqT.of e3, fun S p4 pm pw n4 => ?_⟩
  have s4 := (s12.trans s3).trans (same_new (o := .lst (S.map V.int)) n4)
  exact ⟨p4, _, rfl, .inl ⟨SqL.of upd_same, fun l nl => q _ l S _ _ _ (s4.trans (same_new nl)) upd_same pw (cut_parts o jk) pm⟩⟩
abbrev s__law_things : Stmt := topS 48
abbrev N__law_things : List Str := ["_law_tree_here", "_law_found", "_law_part"]
theorem sc__law_things : FnScope N__law_things ["_law_tree_here"] (defScope s__law_things) := ⟨rfl, rfl, rfl, by decide +kernel, rfl, by decide +kernel, by decide +kernel⟩
def sp__law_things (n : Nat) : Sp := fun vs H Q _ => ∃ (t : Tr) (v : V), vs = [v] ∧ TreeAt H t v ∧ Form t ∧ t.lv.length ≤ n ∧ n ≤ 24 ∧ ∀ (H' : Hp) (p : Addr), Same H H' → H' p = some (.lst (t.lv.map V.int)) → Q (.ref p) H'
theorem ok__law_things (D : Def K mg "_law_things" s__law_things ["_law_tree_here"]) (B : Bl mg) : ∀ n : Nat, Can P w K mg base (n + 1) "_law_things" ["_law_tree_here"] (sp__law_things n)
  | 0 => D.never _ fun vs H Q E ⟨t, v, _, _, F, h, _⟩ => F.ne (List.eq_nil_of_length_eq_zero (Nat.le_zero.1 h))
  | n + 1 => by
    have c__law_things := ok__law_things D B n
    refine D.ok sc__law_things (fun vs H Q E h => ?_) (fun f cdv A outer s H vs Q E hr h => ?_)
    · obtain ⟨t, v, rfl, _⟩ := h; rfl
    obtain ⟨t, v, rfl, ht, F, hl, h24, q⟩ := h
    refine ⟨_, (pss_cons (ps_if (pt_val (pe_callB call_isi rfl B.isinstance bv_isinstance (pa_cons (pv 0) (pa_cons (pe_bltn (v := .ty "int") rfl B.int bv_int rfl) pa_nil))))
      (pss_one (ps_ret (pe_lst (pa_cons (pv 0) pa_nil))))
      pss_nil)
      (pss_cons (ps_set (i := 1) sc__law_things.nd rfl (.inl rfl) (pe_lst pa_nil))
      (pss_cons (ps_for PassesOwn.never rfl (pi_tup (pe_ix ix_tup (pv 0) pe_int (fun _ _ => rfl))) (pg_name (i := 2) sc__law_things.nd rfl (.inl rfl))
      (pss_one (ps_set (i := 1) sc__law_things.nd rfl (.inl rfl) (pe_op op_cat (pv 1) (pe_can c__law_things hr (by omega) rfl (pa_cons (pv 2) pa_nil))))))
      (pss_one (ps_ret (pv 1)))))), ?_⟩
    cases t with
    | thing i =>
      have e := treeAt_thing ht
      subst e
      refine ⟨_, rfl, _, _, _, _, true, rfl, .ty _, .base (.int _), kit_ty kit_ii, true, rfl, iteT ?_⟩
      refine ⟨_, rfl, (by show 1 ≤ sizeLine; decide), fun p np => q _ p (same_new np) ?_⟩
      rw [lv_thing]; exact upd_same
    | node b ps =>
      obtain ⟨a, p, us, rfl, h1, h2, h3⟩ := treeAt_node ht
      have Fp := F.parts
      have hl' := hl
      rw [lv_node] at hl'
      refine ⟨_, rfl, _, _, _, _, false, rfl, .ty _, .base (.tup h1), kit_ty kit_ti, false, rfl, iteF ?_⟩
      refine ⟨Nat.zero_le _, fun o no => ?_⟩
      have s0 : Same H (upd H o (.lst [])) := same_new no
      refine ⟨_, rfl, a, _, 1, _, rfl, rfl, SqT.of (s0 _ _ h1), rfl, p, rfl, ⟨_, SqT.of (s0 _ _ h2)⟩, ?_⟩
      refine for_tup (xs := us) (fun i σ H' => ∃ z o', σ = [some (.ref a), some (.ref o'), z] ∧ Same H H' ∧ H' o' = some (.lst ((lvs (ps.take i)).map V.int))) ⟨_, o, rfl, s0, upd_same⟩ ?_ ?_ ?_
      · rintro i σ H' hi ⟨z, o', rfl, sm, _⟩
        exact SqT.of (sm _ _ h2)
      · rintro i x σ H' hx ⟨z, o', rfl, sm, e⟩
        obtain ⟨t, ht1, ht2⟩ := All2.get' h3 hx
        have hm := List.mem_of_getElem? ht1
        have lt := F.lt hm
        have b1 := lvs_take_le ps i
        refine ⟨_, rfl, _, rfl, t, x, rfl, ht2.mono (sameT_of sm), Fp t hm, by omega, by omega, fun H2 p2 s2 e2 => ?_⟩
        refine ⟨o', p2, _, _, rfl, rfl, s2 _ _ e, e2, sl1000 (by rw [List.length_map, List.length_map]; omega), fun p3 n3 => ?_⟩
        refine ⟨_, p3, rfl, (sm.trans s2).trans (same_new n3), ?_⟩
        rw [upd_same, lvs_take ht1, List.map_append]
      · rintro σ H' ⟨z, o', rfl, sm, e⟩
        rw [← h3.length, List.take_length] at e
        refine ⟨_, rfl, q H' o' sm ?_⟩
        rw [lv_node]; exact e
end
end K13

/-! K13 W12: the walk: _law_told. -/
namespace K13
open PySem PySem.Spec PyProof.Rows L2
theorem sorted_eq {ns ms ns' ms' : List Int} (p : ns'.Perm ns) (hp : ns'.Pairwise (· ≤ ·)) (p' : ms'.Perm ms) (hp' : ms'.Pairwise (· ≤ ·)) : ns' = ms' ↔ ns.Perm ms :=
  ⟨fun e => p.symm.trans (e ▸ p'), fun h => sorted_one ((p.trans h).trans p'.symm) hp hp'⟩
def natsI (l : List Nat) : List Int := l.map Int.ofNat
theorem natsI_inj {l l' : List Nat} (h : natsI l = natsI l') : l = l' := by
  have h1 : ∀ l : List Nat, (natsI l).map Int.toNat = l := fun l => by unfold natsI; rw [List.map_map]; exact List.map_id' _
  rw [← h1 l, ← h1 l', h]
theorem setP_nats {k : Nat} {l : List Nat} : setP (natsI l) (k : Int) = decide (k ∈ l) := by
  refine decide_eq_decide.2 ?_
  unfold natsI
  constructor
  · intro h
    obtain ⟨j, hj, e⟩ := List.mem_map.1 h
    have : j = k := Int.ofNat.inj e
    exact this ▸ hj
  · exact fun h => List.mem_map.2 ⟨k, h, rfl⟩
section
variable {P : Program} {w : World} {K : Fg} {mg : Str → Option Value} {base : Heap}
abbrev s__law_told : Stmt := topS 49
abbrev N__law_told : List Str := ["_law_tree_here", "_law_order_here", "_law_rest", "_law_sequence", "_law_step", "_law_k", "_law_size"]
theorem sc__law_told : FnScope N__law_told ["_law_tree_here", "_law_order_here"] (defScope s__law_told) := ⟨rfl, rfl, rfl, by decide +kernel, rfl, by decide +kernel, by decide +kernel⟩
def sp__law_told (n : Nat) : Sp := fun vs H Q _ => ∃ (t : Tr) (v : V) (a : Addr) (o : List Int), vs = [v, .ref a] ∧ TreeAt H t v ∧ Form t ∧ t.lv.Nodup ∧ t.lv.length ≤ n ∧ n ≤ 24 ∧ H a = some (.tup (o.map V.int)) ∧ o.length ≤ 1000 ∧
  ∀ (H' : Hp) (b : Bool), Same H H' → (b = true ↔ Tells t o) → Q (.bl b) H'
theorem ok__law_told (D : Def K mg "_law_told" s__law_told ["_law_tree_here", "_law_order_here"]) (B : Bl mg) (c__law_things : Can P w K mg base 25 "_law_things" ["_law_tree_here"] (sp__law_things 24)) :
    ∀ n : Nat, Can P w K mg base (26 + n) "_law_told" ["_law_tree_here", "_law_order_here"] (sp__law_told n)
  | 0 => D.never _ fun vs H Q E ⟨t, v, a, o, _, _, F, _, h, _⟩ => F.ne (List.eq_nil_of_length_eq_zero (Nat.le_zero.1 h))
  | n + 1 => by
    have c__law_told := ok__law_told D B c__law_things n
    rw [show 26 + (n + 1) = (26 + n) + 1 by omega]
    refine D.ok sc__law_told (fun vs H Q E h => ?_) (fun f cdv A outer s H vs Q E hr h => ?_)
    · obtain ⟨t, v, a, o, rfl, _⟩ := h; rfl
    obtain ⟨t, v, a, o, rfl, ht, F, nd, hl, h24, ha, lo, q⟩ := h
    refine ⟨_, (pss_cons (ps_if (pt_val (pe_callB call_isi rfl B.isinstance bv_isinstance (pa_cons (pv 0) (pa_cons (pe_bltn (v := .ty "int") rfl B.int bv_int rfl) pa_nil))))
      (pss_one (ps_ret (pe_cmpR (op_eqD hr.units) (pe_callTy call_tuple_of rfl B.tuple bv_tuple (pa_cons (pv 1) pa_nil)) (pe_tup (pa_cons (pv 0) pa_nil)) (nomark _))))
      pss_nil)
      (pss_cons (ps_set (i := 2) sc__law_told.nd rfl (.inl rfl) (pe_callTy call_tuple_of rfl B.tuple bv_tuple (pa_cons (pv 1) pa_nil)))
      (pss_cons (ps_set (i := 3) sc__law_told.nd rfl (.inl rfl) (pe_lst pa_nil))
      (pss_cons (ps_for PassesOwn.never rfl (pi_range1 rfl B.range (pa_cons (pe_callB call_len_seq rfl B.len bv_len (pa_cons (pe_ix ix_tup (pv 0) pe_int (fun _ _ => rfl)) pa_nil)) pa_nil)) (pg_name (i := 4) sc__law_told.nd rfl (.inl rfl))
      (pss_one (ps_for PassesOwn.never rfl (pi_range1 rfl B.range (pa_cons (pe_callB call_len_seq rfl B.len bv_len (pa_cons (pe_ix ix_tup (pv 0) pe_int (fun _ _ => rfl)) pa_nil)) pa_nil)) (pg_name (i := 5) sc__law_told.nd rfl (.inl rfl))
      (pss_cons (ps_set (i := 6) sc__law_told.nd rfl (.inl rfl) (pe_callB call_len_seq rfl B.len bv_len (pa_cons (pe_can c__law_things hr (by omega) rfl (pa_cons (pe_ix ix_tup (pe_ix ix_tup (pv 0) pe_int (fun _ _ => rfl)) (pv 5) (fun _ _ => rfl)) pa_nil)) pa_nil)))
      (pss_one (ps_if (PW.pt (pw_and (pt_cmpR op_notIn_seq (pv 5) (pv 3) rfl) (pw_and1 (pt_cmpR (op_eqD hr.units) (pe_callB cr_sortedIT rfl B.sorted bv_sorted (pa_cons (pe_slice sl_tupA (pv 2) po_none (po_some (pv 6))) pa_nil)) (pe_callB cr_sortedI rfl B.sorted bv_sorted (pa_cons (pe_can c__law_things hr (by omega) rfl (pa_cons (pe_ix ix_tup (pe_ix ix_tup (pv 0) pe_int (fun _ _ => rfl)) (pv 5) (fun _ _ => rfl)) pa_nil)) pa_nil)) (nomark _)))))
      (pss_cons (ps_if (pt_not (pt_val (pe_can c__law_told hr (by omega) rfl (pa_cons (pe_ix ix_tup (pe_ix ix_tup (pv 0) pe_int (fun _ _ => rfl)) (pv 5) (fun _ _ => rfl)) (pa_cons (pe_slice sl_tupA (pv 2) po_none (po_some (pv 6))) pa_nil)))))
      (pss_one (ps_ret pe_bl))
      pss_nil)
      (pss_cons (ps_expr (pe_bm PySem.F.plainAttrs_list PySem.F.slot_list_append PySem.F.type_list_append mt_append (pv 3) (pa_cons (pv 5) pa_nil)))
      (pss_cons (ps_set (i := 2) sc__law_told.nd rfl (.inl rfl) (pe_slice sl_tupA (pv 2) (po_some (pv 6)) po_none))
      (pss_one ps_break))))
      pss_nil))))))
      (pss_cons (ps_if (PW.pt (pw_or (pt_cmpR op_lt (pe_callB call_len_seq rfl B.len bv_len (pa_cons (pv 3) pa_nil)) (pe_callB call_len_seq rfl B.len bv_len (pa_cons (pe_ix ix_tup (pv 0) pe_int (fun _ _ => rfl)) pa_nil)) (nomark _)) (pw_or1 (pt_cmpR op_gt (pe_callB call_len_seq rfl B.len bv_len (pa_cons (pv 2) pa_nil)) pe_int (nomark _)))))
      (pss_one (ps_ret pe_bl))
      pss_nil)
      (pss_one (ps_ret (pe_or (pe_cmpR op_eq (pe_ix ix_tup (pv 0) pe_int (fun _ _ => rfl)) pe_str (nomark _)) (pe_or (pe_cmpR (op_eqD hr.units) (pv 3) (pe_callB cr_sortedI rfl B.sorted bv_sorted (pa_cons (pv 3) pa_nil)) (nomark _)) (pe_one (pe_cmpR (op_eqD hr.units) (pv 3) (pe_revL (pe_callB cr_sortedI rfl B.sorted bv_sorted (pa_cons (pv 3) pa_nil))) (nomark _)))))))))))), ?_⟩
    cases t with
    | thing i =>
      have e := treeAt_thing ht
      subst e
      refine ⟨_, rfl, _, _, _, _, true, rfl, .ty _, .base (.int _), kit_ty kit_ii, true, rfl, iteT ?_⟩
      refine ⟨_, rfl, a, _, rfl, .inr ⟨SqT.of ha, ?_⟩⟩
      refine ⟨_, rfl, (by show 1 ≤ sizeLine; decide), fun p np => ?_⟩
      refine eq_tups (ns := o) (ms := [i]) (SqT.of ((same_new np) _ _ ha)) (SqT.of upd_same) (q _ _ (same_new np) ?_)
      rw [decide_eq_true_iff, tells_thing]
    | node b ps =>
      obtain ⟨a0, p, us, rfl, h1, h2, h3⟩ := treeAt_node ht
      have Fp := F.parts
      have hl' := hl
      have nd' := nd
      rw [lv_node] at hl' nd'
      have lp := lvs_len Fp
      have len := h3.length
      refine ⟨_, rfl, _, _, _, _, false, rfl, .ty _, .base (.tup h1), kit_ty kit_ti, false, rfl, iteF ?_⟩
      refine ⟨_, rfl, a, _, rfl, .inr ⟨SqT.of ha, ?_⟩⟩
      refine ⟨Nat.zero_le _, fun sq nsq => ?_⟩
      have s0 : Same H (upd H sq (.lst [])) := same_new nsq
      refine ⟨_, rfl, a0, _, 1, _, rfl, rfl, SqT.of (s0 _ _ h1), rfl, p, _, rfl, .inr (SqT.of (s0 _ _ h2)), _, rfl, by omega, by omega, ?_⟩
      rw [show ((us.length : Int)).toNat = ps.length by omega]
      have hat : ∀ k, k < ps.length → ∃ v, us[k]? = some v ∧ TreeAt H (partAt ps k) v ∧ partAt ps k ∈ ps := fun k hk => by
        obtain ⟨v, hv, tv⟩ := All2.get h3 (partAt_lt hk)
        exact ⟨v, hv, tv, partAt_mem hk⟩
      refine for_range (lo := 0) (n := ps.length) (fun step σ H' => ∃ y4 y5 y6 seq rest r, σ = [some (.ref a0), some (.ref a), some (.ref r), some (.ref sq), y4, y5, y6] ∧ Same H H' ∧ H' r = some (.tup (rest.map V.int)) ∧ H' sq = some (.lst ((natsI seq).map V.int)) ∧ TI b ps o seq rest step) ⟨_, _, _, [], o, a, rfl, s0, s0 _ _ ha, upd_same, ti_start b ps o⟩ ?_ ?_
      · rintro step σ H1 hst ⟨y4, y5, y6, seq, rest, r, rfl, s1, er, es, T⟩
        refine ⟨_, rfl, a0, _, 1, _, rfl, rfl, SqT.of (s1 _ _ h1), rfl, p, _, rfl, .inr (SqT.of (s1 _ _ h2)), _, rfl, by omega, by omega, ?_⟩
        rw [show ((us.length : Int)).toNat = ps.length by omega]
        have lr : rest.length ≤ 1000 := by
          obtain ⟨c, e, _⟩ := T.con
          rw [e, List.length_append] at lo
          omega
        have lseq : seq.length ≤ 24 := by have := T.le; omega
        refine for_range (lo := 0) (n := ps.length) (fun k σ H' => ∃ y4 y5 y6, σ = [some (.ref a0), some (.ref a), some (.ref r), some (.ref sq), y4, y5, y6] ∧ Same H H' ∧ H' r = some (.tup (rest.map V.int)) ∧ H' sq = some (.lst ((natsI seq).map V.int)) ∧ ∀ j, j < k → j ∉ seq → ¬ (rest.take (partAt ps j).lv.length).Perm (partAt ps j).lv) ⟨_, _, _, rfl, s1, er, es, fun j h => absurd h (Nat.not_lt_zero j)⟩ ?_ ?_
        · rintro k σ H2 hk ⟨z4, z5, z6, rfl, s2, er, es, no⟩
          obtain ⟨v, hv, tv, hm⟩ := hat k hk
          have lt := F.lt hm
          rw [show ((0 : Int) + (k : Int)) = (k : Int) by omega]
          refine ⟨_, rfl, a0, _, 1, _, rfl, rfl, SqT.of (s2 _ _ h1), rfl, _, rfl, p, _, _, _, rfl, rfl, SqT.of (s2 _ _ h2), atI_nat hv, partAt ps k, v, rfl, tv.mono (sameT_of s2), Fp _ hm, by omega, by omega, fun H3 p3 s3 e3 => ?_⟩
          refine ⟨p3, _, rfl, .inl (SqL.of e3), ?_⟩
          rw [lv_int]
          have s03 := s2.trans s3
          have er3 := s3 _ _ er
          have es3 := s3 _ _ es
          -- if k not in sequence
          refine ⟨_, rfl, _, rfl, sq, _, rfl, .inl (SqL.of es3), rfl, flat_ints _, !decide (k ∈ seq), by rw [if_pos rfl, inV_ints, setP_nats], ite2 (fun c1 => ?_) (fun c1 => ?_)⟩
          rotate_left
          · have c1' : k ∈ seq := by simpa using c1
            refine iteF ⟨_, _, _, rfl, s03, er3, es3, fun j hj hn => ?_⟩
            by_cases e : j = k
            · subst e; exact absurd c1' hn
            · exact no j (by omega) hn
          have c1' : k ∉ seq := by simpa using c1
          refine ⟨_, rfl, _, rfl, _, rfl, slA_of er3 fun H4 p4 s4 e4 => ?_⟩
          rw [cutV_to, ← List.map_take] at e4
          refine ⟨p4, _, rfl, SqT.of e4, fun ns p5 pm pw n5 => ?_⟩
          have s05 := (s03.trans s4).trans (same_new (o := .lst (ns.map V.int)) n5)
          refine ⟨_, rfl, a0, _, 1, _, rfl, rfl, SqT.of (s05 _ _ h1), rfl, _, rfl, p, _, _, _, rfl, rfl, SqT.of (s05 _ _ h2), atI_nat hv, partAt ps k, v, rfl, tv.mono (sameT_of s05), Fp _ hm, by omega, by omega, fun H6 p6 s6 e6 => ⟨p6, _, rfl, SqL.of e6, fun ms p7 pm' pw' n7 => ?_⟩⟩
          have s67 := s6.trans (same_new (o := .lst (ms.map V.int)) n7)
          have s07 := s05.trans s67
          have s37 := (s4.trans (same_new (o := .lst (ns.map V.int)) n5)).trans s67
          refine eq_lists (ns := ns) (ms := ms) (SqL.of (s67 _ _ upd_same)) (SqL.of upd_same) ⟨_, rfl, ite2 (fun c2 => ?_) (fun c2 => ?_)⟩
          rotate_left
          · have c2' : ¬ (rest.take (partAt ps k).lv.length).Perm (partAt ps k).lv := fun z => of_decide_eq_false (Bool.eq_false_iff.2 c2) ((sorted_eq pm pw pm' pw').2 z)
            refine ⟨_, _, _, rfl, s07, s37 _ _ er3, s37 _ _ es3, fun j hj hn => ?_⟩
            by_cases e : j = k
            · subst e; exact c2'
            · exact no j (by omega) hn
          have c2' : (rest.take (partAt ps k).lv.length).Perm (partAt ps k).lv := (sorted_eq pm pw pm' pw').1 (of_decide_eq_true c2)
          have er7 := s37 _ _ er3
          have es7 := s37 _ _ es3
          -- if not told(part, rest[:size])
          refine ⟨_, rfl, a0, _, 1, _, rfl, rfl, SqT.of (s07 _ _ h1), rfl, _, rfl, p, _, _, _, rfl, rfl, SqT.of (s07 _ _ h2), atI_nat hv, _, rfl, _, rfl, _, rfl, slA_of er7 fun H8 p8 s8 e8 => ?_⟩
          rw [cutV_to, ← List.map_take] at e8
          have s08 := s07.trans s8
          refine ⟨partAt ps k, v, p8, _, rfl, tv.mono (sameT_of s08), Fp _ hm, nodup_part nd' hm, by omega, by omega, e8, by rw [List.length_take]; omega, fun H9 tb s9 hb => ?_⟩
          have s09 := s08.trans s9
          cases tb with
          | false =>
            have nt := T.no Fp nd' hk c2' (fun z => Bool.false_ne_true (hb.2 z))
            exact ⟨false, rfl, iteT (q H9 false s09 ⟨fun z => absurd z Bool.false_ne_true, fun z => absurd z nt⟩)⟩
          | true =>
            have T' := T.match hk c1' (hb.1 rfl)
            have er9 := s9 _ _ (s8 _ _ er7)
            have es9 := s9 _ _ (s8 _ _ es7)
            refine ⟨true, rfl, iteF ?_⟩
            refine ⟨_, rfl, .inl ⟨rfl, _, SqL.of es9⟩, _, rfl, sq, _, _, rfl, rfl, es9, small1000 (by unfold natsI; rw [List.length_map, List.length_map]; omega), ?_⟩
            have s10 := same_upd (o := .lst ((natsI seq).map V.int ++ [.int k])) s09 nsq
            have nsr : r ≠ sq := fun z => by rw [z, es9] at er9; cases er9
            refine ⟨_, rfl, _, rfl, _, rfl, ?_⟩
            dsimp only [tNoPart]
            refine slA_of (xs := rest.map V.int) (by rw [upd_ne nsr]; exact er9) fun H11 p11 s11 e11 => ?_
            rw [cutV_from, ← List.map_drop] at e11
            refine ⟨_, _, _, seq ++ [k], _, p11, rfl, s10.trans s11, e11, ?_, T'⟩
            rw [s11 _ _ upd_same]
            unfold natsI
            rw [List.map_append, List.map_append]; rfl
        · rintro σ H2 ⟨z4, z5, z6, rfl, s2, er, es, no⟩
          exact ⟨_, _, _, seq, rest, r, rfl, s2, er, es, T.skip Fp nd' hst no⟩
      · rintro σ H1 ⟨y4, y5, y6, seq, rest, r, rfl, s1, er, es, T⟩
        have ln : ((natsI seq).map V.int).length = seq.length := by unfold natsI; rw [List.length_map, List.length_map]
        have no : ∀ (H' : Hp), Same H H' → ¬ Tells (.node b ps) o → Q (.bl false) H' := fun H' s nt => q H' false s ⟨fun z => absurd z Bool.false_ne_true, fun z => absurd z nt⟩
        have yes : ∀ (H' : Hp), Same H H' → Tells (.node b ps) o → Q (.bl true) H' := fun H' s nt => q H' true s ⟨fun _ => nt, fun _ => rfl⟩
        refine ⟨_, rfl, sq, _, rfl, .inl (SqL.of es), _, rfl, a0, _, 1, _, rfl, rfl, SqT.of (s1 _ _ h1), rfl, p, _, rfl, .inr (SqT.of (s1 _ _ h2)), _, _, rfl, rfl, _, rfl, ite2 (fun c1 => ?_) (fun c1 => ?_)⟩
        · have c1' : seq.length < ps.length := by have : (((natsI seq).map V.int).length : Int) < (us.length : Int) := of_decide_eq_true c1; omega
          exact iteT (no H1 s1 (T.short c1'))
        have c1' : ¬ seq.length < ps.length := fun z => of_decide_eq_false (Bool.eq_false_iff.2 c1) (by omega)
        refine ⟨_, rfl, r, _, rfl, .inr (SqT.of er), _, _, rfl, rfl, _, rfl, ite2 (fun c2 => ?_) (fun c2 => ?_)⟩
        · have c2' : rest ≠ [] := fun z => by
            have : (0 : Int) < ((rest.map V.int).length : Int) := of_decide_eq_true c2
            rw [z] at this
            exact absurd this (by decide)
          exact no H1 s1 (T.long Fp nd' c1' c2')
        have c2' : rest = [] := by
          match rest, c2 with
          | [], _ => rfl
          | x :: xs, c2 => exact absurd (decide_eq_true (by show (0 : Int) < (((x :: xs).map V.int).length : Int); rw [List.length_map, List.length_cons]; omega)) c2
        subst c2'
        refine ⟨_, rfl, a0, _, 0, _, rfl, rfl, SqT.of (s1 _ _ h1), rfl, rfl, !b, congrArg V.bl (wd_any b), ?_⟩
        cases b with
        | false => exact iteT (yes H1 s1 (T.any c1'))
        | true =>
          refine iteF ?_
          have row := T.row Fp nd' c1'
          have pq := T.perm c1'
          have srt : ∀ {ns : List Int}, ns.Perm (natsI seq) → ns.Pairwise (· ≤ ·) → ns = natsI (List.range ps.length) := fun pm pw => sorted_one (pm.trans (pq.map Int.ofNat)) pw (range_sorted _)
          refine ⟨_, rfl, _, rfl, sq, _, rfl, SqL.of es, fun ns p5 pm pw n5 => ?_⟩
          have s5 := s1.trans (same_new (o := .lst (ns.map V.int)) n5)
          have es5 := (same_new (o := .lst (ns.map V.int)) n5) _ _ es
          refine eq_lists (ns := natsI seq) (ms := ns) (SqL.of es5) (SqL.of upd_same) ⟨_, rfl, ite2 (fun c3 => ?_) (fun c3 => ?_)⟩
          · have c3' : natsI seq = ns := of_decide_eq_true c3
            exact yes _ s5 (row.2 (.inl (natsI_inj (c3'.trans (srt pm pw)))))
          have c3' : ¬ natsI seq = ns := of_decide_eq_false (Bool.eq_false_iff.2 c3)
          refine ⟨_, rfl, _, rfl, sq, _, rfl, SqL.of es5, fun ms p6 pm' pw' n6 => ⟨p6, _, rfl, SqL.of upd_same, fun p7 n7 => ?_⟩⟩
          have s7 := (s5.trans (same_new (o := .lst (ms.map V.int)) n6)).trans (same_new (o := .lst (ms.map V.int).reverse) n7)
          have es7 := (same_new (o := .lst (ms.map V.int).reverse) n7) _ _ ((same_new (o := .lst (ms.map V.int)) n6) _ _ es5)
          refine eq_lists (ns := natsI seq) (ms := ms.reverse) (SqL.of es7) (SqL.of (by rw [upd_same, List.map_reverse])) ?_
          have e1 := srt pm pw
          have e2 := srt pm' pw'
          by_cases c4 : natsI seq = ms.reverse
          · rw [decide_eq_true c4]
            refine yes _ s7 (row.2 (.inr (natsI_inj ?_)))
            rw [c4, e2]
            unfold natsI
            rw [List.map_reverse]
          · rw [decide_eq_false c4]
            refine no _ s7 fun z => ?_
            rcases row.1 z with z | z
            · exact c3' (by rw [z, e1])
            · refine c4 ?_
              rw [z, e2]
              unfold natsI
              rw [List.map_reverse]
end
end K13

/-! K13 W13: the walk: _law_tree, _law_shuffled, _law_drawn_order. -/
namespace K13
open PySem PySem.Spec PyProof.Rows L2
theorem cutV_any (xs : List V) (j k : Nat) : cutV xs (some (j : Int)) (some (k : Int)) = (xs.drop j).take (k - j) := by
  unfold cutV
  rw [HT.sIx_nat, HT.sIx_nat]
  by_cases h : j ≤ xs.length
  · rw [Nat.min_eq_left h]
    by_cases h2 : k ≤ xs.length
    · rw [Nat.min_eq_left h2]
    · rw [Nat.min_eq_right (by omega), List.take_of_length_le (by rw [List.length_drop]; omega), List.take_of_length_le (by rw [List.length_drop]; omega)]
  · rw [Nat.min_eq_right (show xs.length ≤ j by omega), List.drop_length, List.drop_eq_nil_of_le (show xs.length ≤ j by omega), List.take_nil, List.take_nil]
/-- a loop that may break: what holds at each turn holds behind it -/
theorem for_rangeB {lo : Int} {n : Nat} {g : TG} {tb : TS} {D : Ends} {σ : L2.St} {H : Hp} (Pv : L2.St → Hp → Prop) (h0 : Pv σ H) (hd : ∀ σ H, Pv σ H → D.nx σ H)
    (hs : (∀ σ H, Pv σ H → D.nx σ H) → ∀ i σ H, i < n → Pv σ H → g (.int (lo + (i : Nat))) σ H fun σ2 H2 => tb { D with nx := Pv, ct := Pv, bk := D.nx } σ2 H2) :
    ∃ W : Nat → Nat → L2.St → Hp → Prop, (∃ m, W 0 m σ H) ∧ ∀ i m σ H, W i m σ H →
      ((Itr lo n).stop i H ∧ D.nx σ H) ∨ ((Itr lo n).go i H ∧ ∃ N : L2.St → Hp → Prop, (∀ σ' H', N σ' H' → ∃ m', m' < m ∧ W (i + 1) m' σ' H') ∧ ∀ x H', (Itr lo n).yld i H x H' → g x σ H' fun σ2 H2 => tb { D with nx := N, ct := N, bk := D.nx } σ2 H2) :=
  for_range (fun _ => Pv) h0 (hs hd) hd
theorem three_parts {α : Type} (xs : List α) (j m : Nat) : xs = xs.take j ++ ((xs.drop j).take m ++ xs.drop (j + m)) := by
  rw [← List.drop_drop, List.take_append_drop, List.take_append_drop]
theorem lvs_things (o : List Int) : lvs (o.map Tr.thing) = o := by
  induction o with
  | nil => rfl
  | cons x o ih => rw [List.map_cons, lvs_cons, ih, lv_thing]; rfl
theorem trees_things {H : Hp} : ∀ o : List Int, TreesAt H (o.map Tr.thing) (o.map V.int)
  | [] => .nil
  | x :: o => .cons (.thing x) (trees_things o)
section
variable {P : Program} {w : World} {K : Fg} {mg : Str → Option Value} {base : Heap}
abbrev s__law_tree : Stmt := topS 50
abbrev N__law_tree : List Str := ["_law_cell_here", "_law_n", "_law_parts", "_law_rest", "_law_step", "_law_size", "_law_at", "_law_chosen", "_law_word"]
theorem sc__law_tree : FnScope N__law_tree ["_law_cell_here", "_law_n"] (defScope s__law_tree) := ⟨rfl, rfl, rfl, by decide +kernel, rfl, by decide +kernel, by decide +kernel⟩
def sp__law_tree : Sp := fun vs H Q _ => ∃ (i : Int) (n : Nat), vs = [.int i, .int n] ∧ 1 ≤ n ∧ n ≤ 24 ∧ ∀ (H' : Hp) (v : V) (t : Tr), Same H H' → TreeAt H' t v → Over n t → Q v H'
/-- the parts as they stand -/
structure PartsAt (n : Nat) (H : Hp) (d : Addr) (ps : List Tr) (us : List V) : Prop where
  at' : H d = some (.lst us)
  trees : TreesAt H ps us
  form : ∀ p ∈ ps, Form p
  perm : (lvs ps).Perm (rangeI n)
theorem PartsAt.mono {n : Nat} {H H' : Hp} {d : Addr} {ps : List Tr} {us : List V} (h : PartsAt n H d ps us) (s : Same H H') : PartsAt n H' d ps us := ⟨s _ _ h.at', h.trees.mono (sameT_of s), h.form, h.perm⟩
theorem PartsAt.len {n : Nat} {H : Hp} {d : Addr} {ps : List Tr} {us : List V} (h : PartsAt n H d ps us) : ps.length ≤ n ∧ us.length = ps.length := by
  have h1 := lvs_len h.form
  have h2 := h.perm.length_eq
  unfold rangeI at h2
  rw [List.length_map, List.length_range] at h2
  exact ⟨by omega, h.trees.length.symm⟩
theorem PartsAt.ne {n : Nat} {H : Hp} {d : Addr} {ps : List Tr} {us : List V} (h : PartsAt n H d ps us) (n1 : 1 ≤ n) : ps ≠ [] := fun e => by
  have h2 := h.perm.length_eq
  rw [e] at h2
  unfold rangeI at h2
  rw [List.length_map, List.length_range] at h2
  have h2 : 0 = n := h2
  omega
theorem ok__law_tree (D : Def K mg "_law_tree" s__law_tree ["_law_cell_here", "_law_n"]) (B : Bl mg) (c__law_order : Can P w K mg base 2 "_law_order" ["_law_cell_here", "_law_n"] sp__law_order) (c__law_rich : Can P w K mg base 1 "_law_rich" ["_law_cell_here"] sp__law_rich) :
    Can P w K mg base 3 "_law_tree" ["_law_cell_here", "_law_n"] sp__law_tree := by
  refine D.ok sc__law_tree (fun vs H Q E h => ?_) (fun f cdv A outer s H vs Q E hr h => ?_)
  · obtain ⟨i, n, rfl, _⟩ := h; rfl
  obtain ⟨i, n, rfl, n1, n24, q⟩ := h
  refine ⟨_, (pss_cons (ps_set (i := 2) sc__law_tree.nd rfl (.inl rfl) (pe_callTy call_list_of rfl B.list bv_list (pa_cons (pe_can c__law_order hr (by omega) rfl (pa_cons (pv 0) (pa_cons (pv 1) pa_nil))) pa_nil)))
      (pss_cons (ps_set (i := 3) sc__law_tree.nd rfl (.inl rfl) (pe_can c__law_rich hr (by omega) rfl (pa_cons (pe_op op_add (pe_op op_fdiv (pv 0) pe_int) pe_int) pa_nil)))
      (pss_cons (ps_for PassesOwn.never rfl (pi_range1 rfl B.range (pa_cons pe_int pa_nil)) (pg_name (i := 4) sc__law_tree.nd rfl (.inl rfl))
      (pss_cons (ps_if (pt_cmpR op_lt (pe_callB call_len_seq rfl B.len bv_len (pa_cons (pv 2) pa_nil)) pe_int (nomark _))
      (pss_one ps_break)
      pss_nil)
      (pss_cons (ps_set (i := 5) sc__law_tree.nd rfl (.inl rfl) (pe_op op_add pe_int (pe_op op_mod (pe_callTy call_int1 rfl B.int bv_int (pa_cons (pv 3) pa_nil)) pe_int)))
      (C8.pss_cut (ps_if (pt_cmpR op_eq (pe_op op_mod (pe_callTy call_int1 rfl B.int bv_int (pa_cons (pe_op op_fdiv (pv 3) pe_int) pa_nil)) pe_int) pe_int (nomark _))
      (pss_one (ps_set (i := 5) sc__law_tree.nd rfl (.inl rfl) pe_int))
      pss_nil)
      (pss_cons (ps_set (i := 6) sc__law_tree.nd rfl (.inl rfl) (pe_op op_mod (pe_callTy call_int1 rfl B.int bv_int (pa_cons (pe_op op_fdiv (pv 3) pe_int) pa_nil)) (pe_callB call_len_seq rfl B.len bv_len (pa_cons (pv 2) pa_nil))))
      (pss_cons (ps_set (i := 7) sc__law_tree.nd rfl (.inl rfl) (pe_slice sl_list (pv 2) (po_some (pv 6)) (po_some (pe_op op_add (pv 6) (pv 5)))))
      (C8.pss_cut (ps_if (pt_cmpR op_gt (pe_callB call_len_seq rfl B.len bv_len (pa_cons (pv 7) pa_nil)) pe_int (nomark _))
      (pss_cons (ps_set (i := 8) sc__law_tree.nd rfl (.inl rfl) pe_str)
      (C8.pss_cut (ps_if (PW.pt (pw_and (pt_cmpR op_gt (pe_callB call_len_seq rfl B.len bv_len (pa_cons (pv 7) pa_nil)) pe_int (nomark _)) (pw_and1 (pt_cmpR op_eq (pe_op op_mod (pe_callTy call_int1 rfl B.int bv_int (pa_cons (pe_op op_fdiv (pv 3) pe_int) pa_nil)) pe_int) pe_int (nomark _)))))
      (pss_one (ps_set (i := 8) sc__law_tree.nd rfl (.inl rfl) pe_str))
      pss_nil)
      (pss_one (ps_set (i := 2) sc__law_tree.nd rfl (.inl rfl) (pe_op op_cat (pe_op op_cat (pe_slice sl_list (pv 2) po_none (po_some (pv 6))) (pe_lst (pa_cons (pe_tup (pa_cons (pv 8) (pa_cons (pe_callTy call_tuple_of rfl B.tuple bv_tuple (pa_cons (pv 7) pa_nil)) pa_nil))) pa_nil))) (pe_slice sl_list (pv 2) (po_some (pe_op op_add (pv 6) (pv 5))) po_none))))))
      pss_nil)
      (pss_one (ps_set (i := 3) sc__law_tree.nd rfl (.inl rfl) (pe_op op_add (pe_op op_add (pe_op op_fdiv (pv 3) pe_int) (pe_op op_mul pe_int (pv 4))) pe_int))))))))))
      (C8.pss_cut (ps_if (pt_cmpR op_gt (pe_callB call_len_seq rfl B.len bv_len (pa_cons (pv 2) pa_nil)) pe_int (nomark _))
      (pss_one (ps_set (i := 2) sc__law_tree.nd rfl (.inl rfl) (pe_lst (pa_cons (pe_tup (pa_cons pe_str (pa_cons (pe_callTy call_tuple_of rfl B.tuple bv_tuple (pa_cons (pv 2) pa_nil)) pa_nil))) pa_nil))))
      pss_nil)
      (pss_one (ps_ret (pe_ix ix_list (pv 2) pe_int (fun _ _ => rfl)))))))), ?_⟩
  refine ⟨_, rfl, _, rfl, i, n, rfl, n24, fun H1 p1 o s1 e1 pm => ⟨p1, _, rfl, .inr (SqT.of e1), fun d nd => ?_⟩⟩
  have s2 := s1.trans (same_new (o := .lst (o.map V.int)) nd)
  refine ⟨_, rfl, _, _, rfl, rfl, ⟨by decide, by decide⟩, _, _, rfl, rfl, _, rfl, fun r0 _ => ?_⟩
  refine ⟨_, rfl, by decide, by decide, ?_⟩
  refine for_rangeB (lo := 0) (n := (30 : Int).toNat) (fun σ H' => ∃ d r y4 y5 y6 y7 y8 ps us, σ = [some (.int i), some (.int n), some (.ref d), some (.int r), y4, y5, y6, y7, y8] ∧ Same H H' ∧ PartsAt n H' d ps us) ⟨d, r0, _, _, _, _, _, o.map Tr.thing, _, rfl, s2, upd_same, trees_things o, ?_, ?_⟩ ?_ ?_
  · intro p hp
    obtain ⟨x, _, rfl⟩ := List.mem_map.1 hp
    exact .thing x
  · rw [lvs_things]; exact pm
  · rintro σ H1 ⟨d, r, y4, y5, y6, y7, y8, ps, us, rfl, s1, PA⟩
    obtain ⟨l1, l2⟩ := PA.len
    have ne := PA.ne n1
    -- if len(parts) > 1
    refine ⟨fun σ' H' => ∃ d y4 t v, σ' = [some (.int i), some (.int n), some (.ref d), some (.int r), y4, y5, y6, y7, y8] ∧ Same H H' ∧ H' d = some (.lst [v]) ∧ TreeAt H' t v ∧ Over n t, ?_, ?_⟩
    · refine ⟨_, rfl, d, _, rfl, .inl (SqL.of PA.at'), _, _, rfl, rfl, _, rfl, ite2 (fun c1 => ?_) (fun c1 => ?_)⟩
      · have c1' : 2 ≤ ps.length := by have : (1 : Int) < (us.length : Int) := of_decide_eq_true c1; omega
        refine ⟨_, rfl, d, _, rfl, .inl ⟨SqL.of PA.at', fun p2 np2 => ⟨(by show 2 ≤ sizeLine; decide), fun p3 np3 => ⟨(by show 1 ≤ sizeLine; decide), fun p4 np4 => ?_⟩⟩⟩⟩
        have s2 : Same H1 (upd H1 p2 (.tup us)) := same_new np2
        have s3 := s2.trans (same_new (o := .tup [.str "any", .ref p2]) np3)
        have s4 := s3.trans (same_new (o := .lst [.ref p3]) np4)
        refine ⟨p4, _, .node false ps, .ref p3, rfl, s1.trans s4, upd_same, ?_, ⟨.node c1' nofun PA.form, by rw [lv_node]; exact PA.perm, n24⟩⟩
        exact .node (b := false) ((same_new np4) _ _ upd_same) ((same_new np4) _ _ ((same_new np3) _ _ upd_same)) (PA.trees.mono (sameT_of s4))
      · have c1' : ¬ 2 ≤ ps.length := fun z => of_decide_eq_false (Bool.eq_false_iff.2 c1) (by show (1 : Int) < (us.length : Int); omega)
        match ps, us, PA, ne, c1' with
        | [t], [v], PA, _, _ =>
          refine ⟨d, _, t, v, rfl, s1, PA.at', ?_, PA.form t List.mem_cons_self, ?_, n24⟩
          · cases PA.trees with | cons h _ => exact h
          · have := PA.perm; rw [lvs_one] at this; exact this
        | [], _, _, ne, _ => exact absurd rfl ne
        | [_], [], PA, _, _ => cases PA.trees
        | [_], _ :: _ :: _, PA, _, _ => have := PA.trees; cases this with | cons _ h => cases h
        | _ :: _ :: _, _, _, _, c => exact absurd (by rw [List.length_cons, List.length_cons]; omega) c
    rintro σ' H2 ⟨d, y4, t, v, rfl, s2, ed, tv, O⟩
    exact ⟨_, rfl, d, _, 0, _, rfl, rfl, SqL.of ed, rfl, q H2 v t s2 tv O⟩
  · rintro tail step σ H1 hst ⟨d, r, y4, y5, y6, y7, y8, ps, us, rfl, s1, PA⟩
    obtain ⟨l1, l2⟩ := PA.len
    have ne := PA.ne n1
    have lpos := List.length_pos_iff.2 ne
    have hst : step < 30 := hst
    rw [show ((0 : Int) + (step : Int)) = (step : Int) by omega]
    refine ⟨_, rfl, d, _, rfl, .inl (SqL.of PA.at'), _, _, rfl, rfl, _, rfl, ite2 (fun c1 => ?_) (fun c1 => ?_)⟩
    · exact tail _ _ ⟨d, r, _, _, _, _, _, ps, us, rfl, s1, PA⟩
    -- size
    refine ⟨_, rfl, .inl ⟨_, rfl, _, _, rfl, rfl, (by show (0 : Int) < 4; decide), _, _, rfl, rfl, ?_⟩⟩
    have m0 : 0 ≤ r % 4 := Int.emod_nonneg _ (by decide)
    have m1 : r % 4 < 4 := Int.emod_lt_of_pos _ (by decide)
    refine ⟨fun σ' H' => ∃ size : Nat, σ' = [some (.int i), some (.int n), some (.ref d), some (.int r), some (.int step), some (.int size), y6, y7, y8] ∧ H' = H1 ∧ 2 ≤ size ∧ size ≤ 24, ?_, ?_⟩
    · refine ⟨_, rfl, _, _, rfl, rfl, ⟨by decide, by decide⟩, .inl ⟨_, rfl, _, _, rfl, rfl, (by show (0 : Int) < 8; decide), rfl, _, rfl, ite2 (fun c2 => ?_) (fun c2 => ?_)⟩⟩
      · exact ⟨24, rfl, rfl, by decide, by decide⟩
      · exact ⟨(2 + r % 4).toNat, congrArg (fun z => [some (V.int i), some (.int n), some (.ref d), some (.int r), some (.int step), some (.int z), y6, y7, y8]) (show 2 + r % 4 = (((2 + r % 4).toNat : Nat) : Int) by omega), rfl, by omega, by omega⟩
    rintro σ' Hy ⟨size, rfl, hy, z1, z2⟩
    rw [hy]
    clear hy
    -- at
    have d0 : 0 ≤ r / 4 % (us.length : Int) := Int.emod_nonneg _ (by omega)
    have d1 : r / 4 % (us.length : Int) < (us.length : Int) := Int.emod_lt_of_pos _ (by omega)
    obtain ⟨j, ej, hj⟩ : ∃ j : Nat, r / 4 % (us.length : Int) = (j : Int) ∧ j < us.length := ⟨(r / 4 % (us.length : Int)).toNat, by omega, by omega⟩
    refine ⟨_, rfl, _, _, rfl, rfl, ⟨by decide, by decide⟩, .inl ⟨_, rfl, _, rfl, d, _, rfl, .inl (SqL.of PA.at'), _, _, rfl, rfl, (by show (0 : Int) < (us.length : Int); omega), ?_⟩⟩
    -- chosen
    refine ⟨_, rfl, _, rfl, (j : Int), congrArg V.int ej, _, rfl, _, rfl, (j : Int), (size : Int), congrArg V.int ej, rfl, ((j + size : Nat) : Int), congrArg V.int (by omega), d, us, rfl, SqL.of PA.at', fun dc ndc => ?_⟩
    rw [cutV_any, show j + size - j = size by omega]
    have s2 : Same H1 (upd H1 dc (.lst ((us.drop j).take size))) := same_new ndc
    have PA2 := PA.mono s2
    have ec : upd H1 dc (.lst ((us.drop j).take size)) dc = some (.lst ((us.drop j).take size)) := upd_same
    generalize hH2 : upd H1 dc (.lst ((us.drop j).take size)) = H2 at *
    have s12 := s1.trans s2
    have dec := three_parts ps j size
    have tc : TreesAt H2 ((ps.drop j).take size) ((us.drop j).take size) := All2.take size (All2.drop j PA2.trees)
    have lc := tc.length
    -- if len(chosen) > 1
    refine ⟨fun σ' H' => ∃ d y5 y6 y7 y8 ps us, σ' = [some (.int i), some (.int n), some (.ref d), some (.int r), some (.int step), y5, y6, y7, y8] ∧ Same H H' ∧ PartsAt n H' d ps us, ?_, ?_⟩
    · refine ⟨_, rfl, dc, _, rfl, .inl (SqL.of ec), _, _, rfl, rfl, _, rfl, ite2 (fun c2 => ?_) (fun c2 => ?_)⟩
      rotate_left
      · exact ⟨d, _, _, _, _, ps, us, rfl, s12, PA2⟩
      have c2' : 2 ≤ ((ps.drop j).take size).length := by have : (1 : Int) < (((us.drop j).take size).length : Int) := of_decide_eq_true c2; omega
      have key : ∀ b : Bool, (b = true → 3 ≤ ((ps.drop j).take size).length) → ∀ (H' : Hp) (d' p2 p3 : Addr), Same H2 H' → H' p2 = some (.tup ((us.drop j).take size)) → H' p3 = some (.tup [.str (wd b), .ref p2]) → H' d' = some (.lst ((us.take j ++ [.ref p3]) ++ us.drop (j + size))) →
          PartsAt n H' d' ((ps.take j ++ [.node b ((ps.drop j).take size)]) ++ ps.drop (j + size)) ((us.take j ++ [.ref p3]) ++ us.drop (j + size)) := by
        intro b hb H' d' p2 p3 sx e2 e3 e4
        have tx := PA2.trees.mono (sameT_of sx)
        refine ⟨e4, ((All2.take j tx).app (.cons (.node e3 e2 (All2.take size (All2.drop j tx))) .nil)).app (All2.drop (j + size) tx), ?_, ?_⟩
        · intro z hz
          rcases List.mem_append.1 hz with hz | hz
          · rcases List.mem_append.1 hz with hz | hz
            · exact PA.form z (List.mem_of_mem_take hz)
            · rw [List.mem_singleton] at hz
              subst hz
              exact .node c2' hb fun q hq => PA.form q (List.mem_of_mem_drop (List.mem_of_mem_take hq))
          · exact PA.form z (List.mem_of_mem_drop hz)
        · have := PA.perm
          rw [dec] at this
          rw [lvs_append, lvs_append, lvs_one, lv_node]
          rw [lvs_append, lvs_append, ← List.append_assoc] at this
          exact this
      -- word
      refine ⟨fun σ' H' => ∃ (b : Bool) (y6 : Option V), σ' = [some (.int i), some (.int n), some (.ref d), some (.int r), some (.int step), some (.int size), y6, some (.ref dc), some (.str (wd b))] ∧ y6 = some (.int (j : Int)) ∧ H' = H2 ∧ (b = true → 3 ≤ ((ps.drop j).take size).length), ?_, ?_⟩
      · refine ⟨_, rfl, dc, _, rfl, .inl (SqL.of ec), _, _, rfl, rfl, _, rfl, ite2 (fun c3 => ?_) (fun c3 => ?_)⟩
        rotate_left
        · exact iteF ⟨false, _, rfl, congrArg (fun z => some (V.int z)) ej, rfl, nofun⟩
        have c3' : 3 ≤ ((ps.drop j).take size).length := by have : (2 : Int) < (((us.drop j).take size).length : Int) := of_decide_eq_true c3; omega
        refine ⟨_, rfl, _, _, rfl, rfl, ⟨by decide, by decide⟩, .inl ⟨_, rfl, _, _, rfl, rfl, (by show (0 : Int) < 2; decide), rfl, _, rfl, ite2 (fun c4 => ?_) (fun c4 => ?_)⟩⟩
        · exact ⟨true, _, rfl, congrArg (fun z => some (V.int z)) ej, rfl, fun _ => c3'⟩
        · exact ⟨false, _, rfl, congrArg (fun z => some (V.int z)) ej, rfl, nofun⟩
      rintro σ' Hy ⟨b, _, rfl, rfl, hy, hb⟩
      rw [hy]
      clear hy
      -- parts[:at] + [(word, tuple(chosen))] + parts[at + size:]
      refine ⟨_, rfl, _, rfl, (j : Int), rfl, d, us, rfl, SqL.of PA2.at', fun a1 na1 => ?_⟩
      rw [cutV_to]
      have s3 : Same _ (upd _ a1 (.lst (us.take j))) := same_new na1
      refine ⟨_, rfl, _, rfl, dc, _, rfl, .inl ⟨SqL.of (s3 _ _ ec), fun a2 na2 => ⟨(by show 2 ≤ sizeLine; decide), fun a3 na3 => ⟨(by show 1 ≤ sizeLine; decide), fun a4 na4 => ?_⟩⟩⟩⟩
      have s4 := s3.trans (same_new (o := .tup ((us.drop j).take size)) na2)
      have s5 := s4.trans (same_new (o := .tup [.str (wd b), .ref a2]) na3)
      have s45 : Same _ _ := (same_new (o := .tup ((us.drop j).take size)) na2).trans (same_new (o := .tup [.str (wd b), .ref a2]) na3)
      have s6 := s5.trans (same_new (o := .lst [.ref a3]) na4)
      have e1 := (same_new (o := .lst [.ref a3]) na4) _ _ (s45 _ _ (upd_same (H := H2) (a := a1) (o := .lst (us.take j))))
      have e2 := (same_new (o := .lst [.ref a3]) na4) _ _ ((same_new (o := .tup [.str (wd b), .ref a2]) na3) _ _ (upd_same (a := a2) (o := .tup ((us.drop j).take size))))
      have e3 := (same_new (o := .lst [.ref a3]) na4) _ _ (upd_same (a := a3) (o := .tup [.str (wd b), .ref a2]))
      refine ⟨a1, a4, _, _, rfl, rfl, e1, upd_same, sl1000 (by rw [List.length_take, List.length_singleton]; omega), fun a5 na5 => ?_⟩
      have s7 := s6.trans (same_new (o := .lst (us.take j ++ [.ref a3])) na5)
      have e2 := (same_new (o := .lst (us.take j ++ [.ref a3])) na5) _ _ e2
      have e3 := (same_new (o := .lst (us.take j ++ [.ref a3])) na5) _ _ e3
      refine ⟨_, rfl, _, rfl, _, rfl, (j : Int), (size : Int), rfl, rfl, ((j + size : Nat) : Int), congrArg V.int (by omega), ?_⟩
      dsimp only [tNoPart]
      refine ⟨d, us, rfl, SqL.of (s7 _ _ PA2.at'), fun a6 na6 => ?_⟩
      rw [cutV_from]
      have s8 := s7.trans (same_new (o := .lst (us.drop (j + size))) na6)
      have e2 := (same_new (o := .lst (us.drop (j + size))) na6) _ _ e2
      have e3 := (same_new (o := .lst (us.drop (j + size))) na6) _ _ e3
      refine ⟨a5, a6, _, _, rfl, rfl, (same_new (o := .lst (us.drop (j + size))) na6) _ _ upd_same, upd_same, sl1000 (by rw [List.length_append, List.length_take, List.length_singleton, List.length_drop]; omega), fun a7 na7 => ?_⟩
      have s9 := s8.trans (same_new (o := .lst ((us.take j ++ [.ref a3]) ++ us.drop (j + size))) na7)
      have e2 := (same_new (o := .lst ((us.take j ++ [.ref a3]) ++ us.drop (j + size))) na7) _ _ e2
      have e3 := (same_new (o := .lst ((us.take j ++ [.ref a3]) ++ us.drop (j + size))) na7) _ _ e3
      exact ⟨a7, _, _, _, _, _, _, rfl, s12.trans s9, key b hb _ a7 a2 a3 s9 e2 e3 upd_same⟩
    rintro σ' H3 ⟨d, y5, y6, y7, y8, ps, us, rfl, s3, PA3⟩
    refine ⟨_, rfl, _, _, rfl, rfl, ⟨by decide, by decide⟩, _, rfl, _, _, rfl, rfl, .inl ⟨by decide, by decide⟩, _, _, rfl, rfl, _, _, rfl, rfl, ?_⟩
    exact ⟨d, _, _, _, _, _, _, ps, us, rfl, s3, PA3⟩
end
end K13

/-! K13 W14: the walk: _law_shuffled, _law_drawn_order, _law_is_normal, _law_is_tree, _law_orders, _law_agrees. -/
namespace K13
open PySem PySem.Spec PyProof.Rows L2
/-- what a shuffled tree keeps -/
structure Shuf (t t' : Tr) : Prop where
  form : Form t'
  perm : t'.lv.Perm t.lv
  node : ∀ b ps, t = .node b ps → ∃ ps', t' = .node b ps'
section
variable {P : Program} {w : World} {K : Fg} {mg : Str → Option Value} {base : Heap}
abbrev s__law_shuffled : Stmt := topS 51
abbrev N__law_shuffled : List Str := ["_law_tree_here", "_law_cell_here", "_law_parts", "_law_rest", "_law_part", "_law_told_here"]
theorem sc__law_shuffled : FnScope N__law_shuffled ["_law_tree_here", "_law_cell_here"] (defScope s__law_shuffled) := ⟨rfl, rfl, rfl, by decide +kernel, rfl, by decide +kernel, by decide +kernel⟩
def sp__law_shuffled (n : Nat) : Sp := fun vs H Q _ => ∃ (t : Tr) (v : V) (i : Int), vs = [v, .int i] ∧ TreeAt H t v ∧ Form t ∧ t.lv.length ≤ n ∧ n ≤ 24 ∧ ∀ (H' : Hp) (v' : V) (t' : Tr), Same H H' → TreeAt H' t' v' → Shuf t t' → Q v' H'
theorem ok__law_shuffled (D : Def K mg "_law_shuffled" s__law_shuffled ["_law_tree_here", "_law_cell_here"]) (B : Bl mg) (c__law_rich : Can P w K mg base 1 "_law_rich" ["_law_cell_here"] sp__law_rich) :
    ∀ n : Nat, Can P w K mg base (n + 2) "_law_shuffled" ["_law_tree_here", "_law_cell_here"] (sp__law_shuffled n)
  | 0 => D.never _ fun vs H Q E ⟨t, v, i, _, _, F, h, _⟩ => F.ne (List.eq_nil_of_length_eq_zero (Nat.le_zero.1 h))
  | n + 1 => by
    have c__law_shuffled := ok__law_shuffled D B c__law_rich n
    refine D.ok sc__law_shuffled (fun vs H Q E h => ?_) (fun f cdv A outer s H vs Q E hr h => ?_)
    · obtain ⟨t, v, i, rfl, _⟩ := h; rfl
    obtain ⟨t, v, i, rfl, ht, F, hl, h24, q⟩ := h
    refine ⟨_, (pss_cons (ps_if (pt_val (pe_callB call_isi rfl B.isinstance bv_isinstance (pa_cons (pv 0) (pa_cons (pe_bltn (v := .ty "int") rfl B.int bv_int rfl) pa_nil))))
      (pss_one (ps_ret (pv 0)))
      pss_nil)
      (pss_cons (ps_set (i := 2) sc__law_shuffled.nd rfl (.inl rfl) (pe_lst pa_nil))
      (pss_cons (ps_set (i := 3) sc__law_shuffled.nd rfl (.inl rfl) (pe_can c__law_rich hr (by omega) rfl (pa_cons (pv 1) pa_nil)))
      (pss_cons (ps_for PassesOwn.never rfl (pi_tup (pe_ix ix_tup (pv 0) pe_int (fun _ _ => rfl))) (pg_name (i := 4) sc__law_shuffled.nd rfl (.inl rfl))
      (pss_cons (ps_set (i := 5) sc__law_shuffled.nd rfl (.inl rfl) (pe_can c__law_shuffled hr (by omega) rfl (pa_cons (pv 4) (pa_cons (pe_op op_add (pe_op op_fdiv (pv 3) pe_int) pe_int) pa_nil))))
      (C8.pss_cut (ps_if (pt_cmpR op_eq (pe_ix ix_tup (pv 0) pe_int (fun _ _ => rfl)) pe_str (nomark _))
      (pss_one (ps_expr (pe_bm PySem.F.plainAttrs_list PySem.F.slot_list_insert PySem.F.type_list_insert mt_insert (pv 2) (pa_cons (pe_op op_mod (pe_callTy call_int1 rfl B.int bv_int (pa_cons (pv 3) pa_nil)) (pe_op op_add (pe_callB call_len_seq rfl B.len bv_len (pa_cons (pv 2) pa_nil)) pe_int)) (pa_cons (pv 5) pa_nil)))))
      (pss_one (ps_expr (pe_bm PySem.F.plainAttrs_list PySem.F.slot_list_append PySem.F.type_list_append mt_append (pv 2) (pa_cons (pv 5) pa_nil)))))
      (pss_one (ps_set (i := 3) sc__law_shuffled.nd rfl (.inl rfl) (pe_op op_add (pe_op op_fdiv (pv 3) pe_int) pe_int))))))
      (C8.pss_cut (ps_if (PW.pt (pw_and (pt_cmpR op_eq (pe_ix ix_tup (pv 0) pe_int (fun _ _ => rfl)) pe_str (nomark _)) (pw_and1 (pt_cmpR op_eq (pe_op op_mod (pe_callTy call_int1 rfl B.int bv_int (pa_cons (pv 1) pa_nil)) pe_int) pe_int (nomark _)))))
      (pss_one (ps_set (i := 2) sc__law_shuffled.nd rfl (.inl rfl) (pe_revL (pv 2))))
      pss_nil)
      (pss_one (ps_ret (pe_tup (pa_cons (pe_ix ix_tup (pv 0) pe_int (fun _ _ => rfl)) (pa_cons (pe_callTy call_tuple_of rfl B.tuple bv_tuple (pa_cons (pv 2) pa_nil)) pa_nil)))))))))), ?_⟩
    cases t with
    | thing x =>
      have e := treeAt_thing ht
      subst e
      refine ⟨_, rfl, _, _, _, _, true, rfl, .ty _, .base (.int _), kit_ty kit_ii, true, rfl, iteT ?_⟩
      exact ⟨_, rfl, q H _ _ (Same.refl H) ht ⟨F, .refl _, nofun⟩⟩
    | node b ps =>
      obtain ⟨a0, p, us, rfl, h1, h2, h3⟩ := treeAt_node ht
      have Fp := F.parts
      have hl' := hl
      rw [lv_node] at hl'
      have lp := lvs_len Fp
      have len := h3.length
      refine ⟨_, rfl, _, _, _, _, false, rfl, .ty _, .base (.tup h1), kit_ty kit_ti, false, rfl, iteF ?_⟩
      refine ⟨Nat.zero_le _, fun o no => ?_⟩
      have s0 : Same H (upd H o (.lst [])) := same_new no
      refine ⟨_, rfl, i, rfl, fun r0 _ => ?_⟩
      refine ⟨_, rfl, a0, _, 1, _, rfl, rfl, SqT.of (s0 _ _ h1), rfl, p, rfl, ⟨_, SqT.of (s0 _ _ h2)⟩, ?_⟩
      refine for_tup (xs := us) (fun k σ H' => ∃ r y4 y5 qs ws, σ = [some (.ref a0), some (.int i), some (.ref o), some (.int r), y4, y5] ∧ Same H H' ∧ H' o = some (.lst ws) ∧ TreesAt H' qs ws ∧ (∀ q ∈ qs, Form q) ∧ (lvs qs).Perm (lvs (ps.take k)) ∧ qs.length = k) ⟨r0, _, _, [], [], rfl, s0, upd_same, .nil, nofun, .refl _, rfl⟩ ?_ ?_ ?_
      · rintro k σ H' hk ⟨r, y4, y5, qs, ws, rfl, sm, _⟩
        exact SqT.of (sm _ _ h2)
      · rintro k x σ H1 hx ⟨r, y4, y5, qs, ws, rfl, s1, eo, tw, Fq, pm, lq⟩
        obtain ⟨t, ht1, ht2⟩ := All2.get' h3 hx
        have hm := List.mem_of_getElem? ht1
        have kl := (List.getElem?_eq_some_iff.1 ht1).1
        have lt := F.lt hm
        have lw := tw.length
        refine ⟨_, rfl, _, rfl, _, _, rfl, rfl, ⟨by decide, by decide⟩, _, _, rfl, rfl, t, x, _, rfl, ht2.mono (sameT_of s1), Fp t hm, by omega, by omega, fun H2 v2 t2 s2 tv2 S => ?_⟩
        have s12 := s1.trans s2
        have eo2 := s2 _ _ eo
        -- insert or append
        refine ⟨fun σ' H' => ∃ y5 qs ws, σ' = [some (.ref a0), some (.int i), some (.ref o), some (.int r), some x, y5] ∧ Same H H' ∧ H' o = some (.lst ws) ∧ TreesAt H' qs ws ∧ (∀ q ∈ qs, Form q) ∧ (lvs qs).Perm (lvs (ps.take (k + 1))) ∧ qs.length = k + 1, ?_, ?_⟩
        · have key : ∀ (l z : List Tr) (l' z' : List V), qs = l ++ z → ws = l' ++ z' → TreesAt H1 l l' → TreesAt H1 z z' → ∃ y5 qs ws, [some (V.ref a0), some (.int i), some (.ref o), some (.int r), some x, some v2] = [some (V.ref a0), some (.int i), some (.ref o), some (.int r), some x, y5] ∧ Same H (upd H2 o (.lst (l' ++ [v2] ++ z'))) ∧ upd H2 o (.lst (l' ++ [v2] ++ z')) o = some (.lst ws) ∧ TreesAt (upd H2 o (.lst (l' ++ [v2] ++ z'))) qs ws ∧ (∀ q ∈ qs, Form q) ∧ (lvs qs).Perm (lvs (ps.take (k + 1))) ∧ qs.length = k + 1 := by
            rintro l z l' z' rfl rfl tl tr
            refine ⟨_, l ++ [t2] ++ z, _, rfl, same_upd s12 no, upd_same, ?_, ?_, ?_, ?_⟩
            · have m := (sameT_of s2).trans (sameT_lst (o := .lst (l' ++ [v2] ++ z')) eo2)
              exact ((tl.mono m).app (.cons (tv2.mono (sameT_lst eo2)) .nil)).app (tr.mono m)
            · intro zz hz
              rcases List.mem_append.1 hz with hz | hz
              · rcases List.mem_append.1 hz with hz | hz
                · exact Fq zz (List.mem_append_left _ hz)
                · rw [List.mem_singleton] at hz; subst hz; exact S.form
              · exact Fq zz (List.mem_append_right _ hz)
            · rw [lvs_take ht1, lvs_append, lvs_append, lvs_one]
              rw [lvs_append] at pm
              refine List.Perm.trans ?_ (pm.append S.perm)
              rw [List.append_assoc, List.append_assoc]
              exact List.Perm.append_left _ List.perm_append_comm
            · rw [List.length_append, List.length_append, List.length_singleton]
              rw [List.length_append] at lq
              omega
          refine ⟨_, rfl, a0, _, 0, _, rfl, rfl, SqT.of (s12 _ _ h1), rfl, rfl, !b, congrArg V.bl (wd_any b), ite2 (fun c1 => ?_) (fun c1 => ?_)⟩
          · have m0 : 0 ≤ r % ((ws.length : Int) + 1) := Int.emod_nonneg _ (by omega)
            have m1 : r % ((ws.length : Int) + 1) < (ws.length : Int) + 1 := Int.emod_lt_of_pos _ (by omega)
            refine ⟨_, rfl, .inl ⟨rfl, _, SqL.of eo2⟩, _, rfl, .inl ⟨_, rfl, _, rfl, o, _, rfl, .inl (SqL.of eo2), _, _, rfl, rfl, _, _, rfl, rfl, (by show (0 : Int) < (ws.length : Int) + 1; omega), _, rfl, o, ws, _, _, rfl, rfl, eo2, small1000 (by omega), m0, by omega, ?_⟩⟩
            exact key (qs.take _) (qs.drop _) _ _ (List.take_append_drop _ _).symm (List.take_append_drop _ _).symm (All2.take _ tw) (All2.drop _ tw)
          · refine ⟨_, rfl, .inl ⟨rfl, _, SqL.of eo2⟩, _, rfl, o, ws, _, rfl, rfl, eo2, small1000 (by omega), ?_⟩
            have := key qs [] ws [] (List.append_nil _).symm (List.append_nil _).symm tw .nil
            rw [List.append_nil] at this
            exact this
        rintro σ' H3 ⟨y5, qs3, ws3, rfl, s3, eo3, tw3, Fq3, pm3, lq3⟩
        refine ⟨_, rfl, _, _, rfl, rfl, ⟨by decide, by decide⟩, _, _, rfl, rfl, ?_⟩
        exact ⟨_, _, _, qs3, ws3, rfl, s3, eo3, tw3, Fq3, pm3, lq3⟩
      · rintro σ H1 ⟨r, y4, y5, qs, ws, rfl, s1, eo, tw, Fq, pm, lq⟩
        rw [← len, List.take_length] at pm
        rw [← len] at lq
        -- if row and odd: turned around
        refine ⟨fun σ' H' => ∃ o' qs ws, σ' = [some (.ref a0), some (.int i), some (.ref o'), some (.int r), y4, y5] ∧ Same H H' ∧ H' o' = some (.lst ws) ∧ TreesAt H' qs ws ∧ (∀ q ∈ qs, Form q) ∧ (lvs qs).Perm (lvs ps) ∧ qs.length = ps.length, ?_, ?_⟩
        · refine ⟨_, rfl, a0, _, 0, _, rfl, rfl, SqT.of (s1 _ _ h1), rfl, rfl, b, congrArg V.bl (wd_row b), ite2 (fun c1 => ?_) (fun c1 => ?_)⟩
          rotate_left
          · exact iteF ⟨o, qs, ws, rfl, s1, eo, tw, Fq, pm, lq⟩
          refine ⟨_, rfl, .inl ⟨_, rfl, _, _, rfl, rfl, (by show (0 : Int) < 2; decide), rfl, _, rfl, ite2 (fun c2 => ?_) (fun c2 => ?_)⟩⟩
          · refine ⟨_, rfl, o, _, rfl, SqL.of eo, fun p2 np2 => ⟨p2, qs.reverse, _, rfl, s1.trans (same_new np2), upd_same, ?_, ?_, ?_, ?_⟩⟩
            · exact TreesAt.mono (sameT_new np2) tw.rev
            · exact fun z hz => Fq z (List.mem_reverse.1 hz)
            · exact (lvs_reverse qs).trans pm
            · rw [List.length_reverse]; exact lq
          · exact ⟨o, qs, ws, rfl, s1, eo, tw, Fq, pm, lq⟩
        rintro σ' H2 ⟨o', qs, ws, rfl, s2, eo, tw, Fq, pm, lq⟩
        refine ⟨_, rfl, a0, _, 0, _, rfl, rfl, SqT.of (s2 _ _ h1), rfl, _, rfl, o', _, rfl, .inl ⟨SqL.of eo, fun p2 np2 => ⟨(by show 2 ≤ sizeLine; decide), fun p3 np3 => ?_⟩⟩⟩
        have s3 : Same H2 (upd H2 p2 (.tup ws)) := same_new np2
        have s4 := s3.trans (same_new (o := .tup [.str (wd b), .ref p2]) np3)
        refine q _ (.ref p3) (.node b qs) (s2.trans s4) ?_ ⟨?_, ?_, ?_⟩
        · exact .node upd_same ((same_new np3) _ _ upd_same) (tw.mono (sameT_of s4))
        · exact .node (by have := F.two; omega) (fun hb => by subst hb; have := F.three; omega) Fq
        · rw [lv_node, lv_node]; exact pm
        · intro b' ps' e
          cases e
          exact ⟨qs, rfl⟩
end
end K13

/-! K13 W15: the walk: _law_drawn_order, _law_is_normal, _law_is_tree, _law_orders, _law_agrees. -/
namespace K13
open PySem PySem.Spec PyProof.Rows L2
section
variable {P : Program} {w : World} {K : Fg} {mg : Str → Option Value} {base : Heap}
abbrev s__law_drawn_order : Stmt := topS 55
abbrev N__law_drawn_order : List Str := ["_law_tree_here", "_law_cell_here", "_law_order_here", "_law_part"]
theorem sc__law_drawn_order : FnScope N__law_drawn_order ["_law_tree_here", "_law_cell_here"] (defScope s__law_drawn_order) := ⟨rfl, rfl, rfl, by decide +kernel, rfl, by decide +kernel, by decide +kernel⟩
def sp__law_drawn_order (n : Nat) : Sp := fun vs H Q _ => ∃ (t : Tr) (v : V) (i : Int), vs = [v, .int i] ∧ TreeAt H t v ∧ Form t ∧ t.lv.length ≤ n ∧ n ≤ 24 ∧ ∀ (H' : Hp) (p : Addr) (o : List Int), Same H H' → H' p = some (.tup (o.map V.int)) → o.Perm t.lv → Q (.ref p) H'
theorem ok__law_drawn_order (D : Def K mg "_law_drawn_order" s__law_drawn_order ["_law_tree_here", "_law_cell_here"]) (B : Bl mg) (c__law_shuffled : Can P w K mg base 26 "_law_shuffled" ["_law_tree_here", "_law_cell_here"] (sp__law_shuffled 24)) :
    ∀ n : Nat, Can P w K mg base (27 + n) "_law_drawn_order" ["_law_tree_here", "_law_cell_here"] (sp__law_drawn_order n)
  | 0 => D.never _ fun vs H Q E ⟨t, v, i, _, _, F, h, _⟩ => F.ne (List.eq_nil_of_length_eq_zero (Nat.le_zero.1 h))
  | n + 1 => by
    have c__law_drawn_order := ok__law_drawn_order D B c__law_shuffled n
    rw [show 27 + (n + 1) = (27 + n) + 1 by omega]
    refine D.ok sc__law_drawn_order (fun vs H Q E h => ?_) (fun f cdv A outer s H vs Q E hr h => ?_)
    · obtain ⟨t, v, i, rfl, _⟩ := h; rfl
    obtain ⟨t, v, i, rfl, ht, F, hl, h24, q⟩ := h
    refine ⟨_, (pss_cons (ps_if (pt_val (pe_callB call_isi rfl B.isinstance bv_isinstance (pa_cons (pv 0) (pa_cons (pe_bltn (v := .ty "int") rfl B.int bv_int rfl) pa_nil))))
      (pss_one (ps_ret (pe_tup (pa_cons (pv 0) pa_nil))))
      pss_nil)
      (pss_cons (ps_set (i := 2) sc__law_drawn_order.nd rfl (.inl rfl) (pe_tup pa_nil))
      (pss_cons (ps_for PassesOwn.never rfl (pi_tup (pe_ix ix_tup (pe_can c__law_shuffled hr (by omega) rfl (pa_cons (pv 0) (pa_cons (pv 1) pa_nil))) pe_int (fun _ _ => rfl))) (pg_name (i := 3) sc__law_drawn_order.nd rfl (.inl rfl))
      (pss_one (ps_set (i := 2) sc__law_drawn_order.nd rfl (.inl rfl) (pe_op op_catA (pv 2) (pe_can c__law_drawn_order hr (by omega) rfl (pa_cons (pv 3) (pa_cons (pe_op op_add (pe_op op_fdiv (pv 1) pe_int) pe_int) pa_nil)))))))
      (pss_one (ps_ret (pv 2)))))), ?_⟩
    cases t with
    | thing x =>
      have e := treeAt_thing ht
      subst e
      refine ⟨_, rfl, _, _, _, _, true, rfl, .ty _, .base (.int _), kit_ty kit_ii, true, rfl, iteT ?_⟩
      refine ⟨_, rfl, (by show 1 ≤ sizeLine; decide), fun p np => q _ p [x] (same_new np) upd_same ?_⟩
      rw [lv_thing]
    | node b ps =>
      have ht0 := ht
      obtain ⟨a0, p, us, rfl, h1, h2, h3⟩ := treeAt_node ht
      refine ⟨_, rfl, _, _, _, _, false, rfl, .ty _, .base (.tup h1), kit_ty kit_ti, false, rfl, iteF ?_⟩
      refine ⟨Nat.zero_le _, fun o no => ?_⟩
      have s0 : Same H (upd H o (.tup [])) := same_new no
      refine ⟨_, rfl, _, rfl, .node b ps, _, i, rfl, ht0.mono (sameT_of s0), F, by omega, Nat.le_refl _, fun H1 v1 t1 s1 tv1 S => ?_⟩
      obtain ⟨qs, rfl⟩ := S.node b ps rfl
      obtain ⟨a1, p1, ws, rfl, g1, g2, g3⟩ := treeAt_node tv1
      have s01 := s0.trans s1
      have Fq := S.form
      have lq : (Tr.node b qs).lv.length ≤ n + 1 := by rw [S.perm.length_eq]; exact hl
      have lq' := lq
      rw [lv_node] at lq'
      refine ⟨a1, _, 1, _, rfl, rfl, SqT.of g1, rfl, p1, rfl, ⟨_, SqT.of g2⟩, ?_⟩
      refine for_tup (xs := ws) (fun k σ H' => ∃ r y ns, σ = [some (.ref a0), some (.int i), some (.ref r), y] ∧ Same H1 H' ∧ H' r = some (.tup (ns.map V.int)) ∧ ns.Perm (lvs (qs.take k))) ⟨o, _, [], rfl, Same.refl _, s1 _ _ upd_same, .refl _⟩ ?_ ?_ ?_
      · rintro k σ H' hk ⟨r, y, ns, rfl, sm, _⟩
        exact SqT.of (sm _ _ g2)
      · rintro k x σ H2 hx ⟨r, y, ns, rfl, s2, er, pm⟩
        obtain ⟨t, ht1, ht2⟩ := All2.get' g3 hx
        have hm := List.mem_of_getElem? ht1
        have lt := Fq.lt hm
        have lk := lvs_take_le qs k
        refine ⟨_, rfl, _, rfl, _, rfl, _, _, rfl, rfl, ⟨by decide, by decide⟩, _, _, rfl, rfl, t, x, _, rfl, ht2.mono (sameT_of s2), Fq.parts t hm, by omega, by omega, fun H3 p3 o3 s3 e3 pm3 => ?_⟩
        have := pm.length_eq
        have := pm3.length_eq
        refine catA_of (s3 _ _ er) e3 (by rw [List.length_map, List.length_map]; omega) fun H4 p4 s4 e4 => ?_
        refine ⟨p4, _, ns ++ o3, rfl, (s2.trans s3).trans s4, by rw [List.map_append]; exact e4, ?_⟩
        rw [lvs_take ht1]
        exact pm.append pm3
      · rintro σ H2 ⟨r, y, ns, rfl, s2, er, pm⟩
        rw [← g3.length, List.take_length] at pm
        refine ⟨_, rfl, q H2 r ns (s01.trans s2) er (pm.trans ?_)⟩
        have := S.perm
        rw [lv_node] at this
        exact this
abbrev s__law_is_normal : Stmt := topS 52
abbrev N__law_is_normal : List Str := ["_law_tree_here", "_law_leasts", "_law_part"]
theorem sc__law_is_normal : FnScope N__law_is_normal ["_law_tree_here"] (defScope s__law_is_normal) := ⟨rfl, rfl, rfl, by decide +kernel, rfl, by decide +kernel, by decide +kernel⟩
def sp__law_is_normal (n : Nat) : Sp := fun vs H Q _ => ∃ (t : Tr) (v : V), vs = [v] ∧ TreeAt H t v ∧ Form t ∧ Normal t ∧ t.lv.length ≤ n ∧ n ≤ 24 ∧ ∀ H' : Hp, Same H H' → Q (.bl true) H'
theorem ok__law_is_normal (D : Def K mg "_law_is_normal" s__law_is_normal ["_law_tree_here"]) (B : Bl mg) (c__law_things : Can P w K mg base 25 "_law_things" ["_law_tree_here"] (sp__law_things 24)) :
    ∀ n : Nat, Can P w K mg base (26 + n) "_law_is_normal" ["_law_tree_here"] (sp__law_is_normal n)
  | 0 => D.never _ fun vs H Q E ⟨t, v, _, _, F, _, h, _⟩ => F.ne (List.eq_nil_of_length_eq_zero (Nat.le_zero.1 h))
  | n + 1 => by
    have c__law_is_normal := ok__law_is_normal D B c__law_things n
    rw [show 26 + (n + 1) = (26 + n) + 1 by omega]
    refine D.ok sc__law_is_normal (fun vs H Q E h => ?_) (fun f cdv A outer s H vs Q E hr h => ?_)
    · obtain ⟨t, v, rfl, _⟩ := h; rfl
    obtain ⟨t, v, rfl, ht, F, N, hl, h24, q⟩ := h
    refine ⟨_, (pss_cons (ps_if (PW.pt (pw_and (pt_val (pe_callB call_isi rfl B.isinstance bv_isinstance (pa_cons (pv 0) (pa_cons (pe_bltn (v := .ty "int") rfl B.int bv_int rfl) pa_nil)))) (pw_and1 (pt_not (pt_val (pe_callB call_isi rfl B.isinstance bv_isinstance (pa_cons (pv 0) (pa_cons (pe_bltn (v := .ty "bool") rfl B.bool bv_bool rfl) pa_nil))))))))
      (pss_one (ps_ret pe_bl))
      pss_nil)
      (pss_cons (ps_if (PW.pt (pw_or (pt_not (pt_val (pe_callB call_isi rfl B.isinstance bv_isinstance (pa_cons (pv 0) (pa_cons (pe_bltn (v := .ty "tuple") rfl B.tuple bv_tuple rfl) pa_nil))))) (pw_or (pt_cmpR op_ne (pe_callB call_len_seq rfl B.len bv_len (pa_cons (pv 0) pa_nil)) pe_int (nomark _)) (pw_or (pt_cmpR op_notIn_seq (pe_ix ix_tup (pv 0) pe_int (fun _ _ => rfl)) (pe_lst (pa_cons pe_str (pa_cons pe_str pa_nil))) rfl) (pw_or1 (pt_not (pt_val (pe_callB call_isi rfl B.isinstance bv_isinstance (pa_cons (pe_ix ix_tup (pv 0) pe_int (fun _ _ => rfl)) (pa_cons (pe_bltn (v := .ty "tuple") rfl B.tuple bv_tuple rfl) pa_nil))))))))))
      (pss_one (ps_ret pe_bl))
      pss_nil)
      (pss_cons (ps_if (PW.pt (pw_or (pt_cmpR op_lt (pe_callB call_len_seq rfl B.len bv_len (pa_cons (pe_ix ix_tup (pv 0) pe_int (fun _ _ => rfl)) pa_nil)) (pe_op op_add pe_int (pe_callTy call_int1 rfl B.int bv_int (pa_cons (pe_cmpR op_eq (pe_ix ix_tup (pv 0) pe_int (fun _ _ => rfl)) pe_str (nomark _)) pa_nil))) (nomark _)) (pw_or1 (pt_cmpR (op_neD hr.units) (pe_lc (own := [("_law_part", 2)]) (g := gName 2) rfl sc__law_is_normal.nd (pi_tup (pe_ix ix_tup (pv 0) pe_int (fun _ _ => rfl))) (blkOk_by (own := [("_law_part", 2)]) (N := N__law_is_normal) (sc := defScope s__law_is_normal) (by decide +kernel)) (fun _ _ _ _ _ => (pg_name (i := 2) sc__law_is_normal.nd rfl (.inl rfl) (.inr rfl))) (fun _ _ _ _ _ => (pts_one (pt_not (pt_val (pe_can c__law_is_normal hr (by omega) rfl (pa_cons (pv 2) pa_nil)))))) (fun _ _ _ _ _ => (pv 2))) (pe_lst pa_nil) (nomark _)))))
      (pss_one (ps_ret pe_bl))
      pss_nil)
      (pss_cons (ps_setLc (i := 1) (own := [("_law_part", 2)]) (g := gName 2) rfl sc__law_is_normal.nd rfl rfl (sw_true rfl rfl rfl (by decide +kernel)) (pi_tup (pe_ix ix_tup (pv 0) pe_int (fun _ _ => rfl))) (blkOk_by (own := [("_law_part", 2)]) (N := N__law_is_normal) (sc := defScope s__law_is_normal) (by decide +kernel)) (fun _ _ _ _ _ => (pg_name (i := 2) sc__law_is_normal.nd rfl (.inl rfl) (.inr rfl))) (fun _ _ _ _ _ => pts_nil) (fun _ _ _ _ _ => (pe_callB (cr_minL K rfl) rfl B.min bv_min (pa_cons (pe_can c__law_things hr (by omega) rfl (pa_cons (pv 2) pa_nil)) pa_nil))))
      (pss_cons (ps_if (pt_cmpR op_eq (pe_ix ix_tup (pv 0) pe_int (fun _ _ => rfl)) pe_str (nomark _))
      (pss_one (ps_ret (pe_cmpR (op_eqD hr.units) (pv 1) (pe_callB cr_sortedI rfl B.sorted bv_sorted (pa_cons (pv 1) pa_nil)) (nomark _))))
      pss_nil)
      (pss_one (ps_ret (pe_cmpR op_lt (pe_ix ix_list (pv 1) pe_int (fun _ _ => rfl)) (pe_ix ix_list (pv 1) (pe_un un_neg pe_int) (fun _ _ => rfl)) (nomark _))))))))), ?_⟩
    cases t with
    | thing x =>
      have e := treeAt_thing ht
      subst e
      refine ⟨_, rfl, _, _, _, _, true, rfl, .ty _, .base (.int _), kit_ty kit_ii, true, rfl, iteT ?_⟩
      refine ⟨_, rfl, _, _, _, _, false, rfl, .ty _, .base (.int _), kit_ty kit_ib, false, rfl, iteT ?_⟩
      exact q H (Same.refl H)
    | node b ps =>
      obtain ⟨a0, p, us, rfl, h1, h2, h3⟩ := treeAt_node ht
      have Fp := F.parts
      have hl' := hl
      rw [lv_node] at hl'
      have lp := lvs_len Fp
      have len := h3.length
      have two := F.two
      refine ⟨_, rfl, _, _, _, _, false, rfl, .ty _, .base (.tup h1), kit_ty kit_ti, false, rfl, iteF (iteF ?_)⟩
      refine ⟨_, rfl, _, _, _, _, true, rfl, .ty _, .base (.tup h1), kit_ty kit_tt, true, rfl, iteF ?_⟩
      refine ⟨_, rfl, a0, _, rfl, .inr (SqT.of h1), rfl, false, rfl, iteF ?_⟩
      refine ⟨_, rfl, a0, _, 0, _, rfl, rfl, SqT.of h1, rfl, (by show 2 ≤ sizeLine; decide), fun p2 np2 => ⟨p2, _, rfl, .inl (SqL.of upd_same), rfl, flat_wds, false, ?_, iteF ?_⟩⟩
      · show V.bl (!inV (.str (wd b)) [.str "any", .str "row"]) = V.bl false
        rw [wd_in]; rfl
      have s1 : Same H (upd H p2 (.lst [.str "any", .str "row"])) := same_new np2
      generalize upd H p2 (.lst [.str "any", .str "row"]) = H1 at s1
      have g1 := s1 _ _ h1
      have g2 := s1 _ _ h2
      refine ⟨_, rfl, a0, _, 1, _, rfl, rfl, SqT.of g1, rfl, _, _, _, _, true, rfl, .ty _, .base (.tup g2), kit_ty kit_tt, true, rfl, iteF ?_⟩
      -- len(tree[1]) < 2 + int(tree[0] == 'row')
      refine ⟨_, rfl, a0, _, 1, _, rfl, rfl, SqT.of g1, rfl, p, _, rfl, .inr (SqT.of g2), _, rfl, a0, _, 0, _, rfl, rfl, SqT.of g1, rfl, rfl, .inr ⟨b, congrArg (fun z => [V.bl z]) (wd_row b), _, _, rfl, rfl, _, _, rfl, rfl, false, bF ?_, iteF ?_⟩⟩
      · cases b with
        | false => simp; omega
        | true => have := F.three; simp; omega
      -- parts that are not normal
      refine ⟨_, rfl, a0, _, 1, _, rfl, rfl, SqT.of g1, rfl, p, rfl, ⟨_, SqT.of g2⟩, fun d nd => ?_⟩
      refine lc_tup (xs := us) (fun i H' => Same H1 H' ∧ H' d = some (.lst [])) ⟨same_new nd, upd_same⟩ ?_ ?_ ?_
      · rintro i H' hi ⟨sm, e⟩
        exact SqT.of (sm _ _ g2)
      · rintro i x H' hx ⟨sm, e⟩
        obtain ⟨t, ht1, ht2⟩ := All2.get' h3 hx
        have hm := List.mem_of_getElem? ht1
        have lt := F.lt hm
        refine ⟨rfl, _, rfl, t, x, rfl, ht2.mono (sameT_of (s1.trans sm)), Fp t hm, N.parts t hm, by omega, by omega, fun H4 s4 => ⟨true, rfl, iteF ⟨sm.trans s4, s4 _ _ e⟩⟩⟩
      rintro H2 ⟨s2, e2⟩
      refine ⟨Nat.zero_le _, fun z nz => ?_⟩
      refine ne_lists (ns := []) (ms := []) (SqL.of ((same_new nz) _ _ e2)) (SqL.of upd_same) ⟨false, rfl, iteF ?_⟩
      have s13 := (s1.trans s2).trans (same_new (o := .lst []) nz)
      generalize upd H2 z (.lst []) = H3 at s13
      have k1 := s13 _ _ h1
      have k2 := s13 _ _ h2
      -- leasts
      refine ⟨_, rfl, a0, _, 1, _, rfl, rfl, SqT.of k1, rfl, p, rfl, ⟨_, SqT.of k2⟩, fun d2 nd2 => ?_⟩
      refine lc_tup (xs := us) (fun i H' => Same H3 H' ∧ H' d2 = some (.lst (((ps.take i).map Tr.least).map V.int))) ⟨same_new nd2, upd_same⟩ ?_ ?_ ?_
      · rintro i H' hi ⟨sm, e⟩
        exact SqT.of (sm _ _ k2)
      · rintro i x H' hx ⟨sm, e⟩
        obtain ⟨t, ht1, ht2⟩ := All2.get' h3 hx
        have hm := List.mem_of_getElem? ht1
        have lt := F.lt hm
        have hi := (List.getElem?_eq_some_iff.1 ht1).1
        refine ⟨rfl, _, rfl, t, x, rfl, ht2.mono (sameT_of (s13.trans sm)), Fp t hm, by omega, by omega, fun H4 p4 s4 e4 => ⟨p4, _, rfl, SqL.of e4, List.length_pos_iff.2 (Fp t hm).ne, fun m hm1 hm2 => ⟨_, s4 _ _ e, ?_, same_upd (sm.trans s4) nd2, ?_⟩⟩⟩
        · rw [List.length_map, List.length_map, List.length_take]; exact small1000 (by omega)
        · rw [upd_same, take_next ht1, List.map_append, List.map_append, ← leastOf_eq hm1 hm2]; rfl
      rintro H4 ⟨s4, e4⟩
      rw [← len, List.take_length] at e4
      have s04 := s13.trans s4
      refine ⟨_, rfl, a0, _, 0, _, rfl, rfl, SqT.of (s4 _ _ k1), rfl, rfl, !b, congrArg V.bl (wd_any b), ?_⟩
      cases b with
      | false =>
        have srt := N.sorted
        have pw : (ps.map Tr.least).Pairwise (· ≤ ·) := List.pairwise_map.2 (srt.imp fun h => Int.le_of_lt h)
        refine iteT ⟨_, rfl, _, rfl, d2, _, rfl, SqL.of e4, fun ns p5 pm pw' n5 => ?_⟩
        refine eq_lists (ns := ps.map Tr.least) (ms := ns) (SqL.of ((same_new n5) _ _ e4)) (SqL.of upd_same) ?_
        rw [decide_eq_true (sorted_one pm.symm pw pw')]
        exact q _ (s04.trans (same_new n5))
      | true =>
        cases N with
        | row lt hn =>
        rename_i x mid y
        refine iteF ⟨_, rfl, d2, _, 0, _, rfl, rfl, SqL.of e4, atI0 _ _, _, rfl, _, rfl, d2, _, -1, .int y.least, rfl, rfl, SqL.of e4, ?_, _, _, rfl, rfl, ?_⟩
        · show atI (((x :: (mid ++ [y])).map Tr.least).map V.int) (-1) = _
          rw [show ((x :: (mid ++ [y])).map Tr.least).map V.int = (((x :: mid).map Tr.least).map V.int) ++ [V.int y.least] by simp]
          exact atI_last _ _
        · have : decide (x.least < y.least) = true := decide_eq_true lt
          have h := q H4 s04
          rw [← this] at h
          exact h
abbrev s__law_is_tree : Stmt := topS 53
abbrev N__law_is_tree : List Str := ["_law_tree_here", "_law_n", "_law_thing"]
theorem sc__law_is_tree : FnScope N__law_is_tree ["_law_tree_here", "_law_n"] (defScope s__law_is_tree) := ⟨rfl, rfl, rfl, by decide +kernel, rfl, by decide +kernel, by decide +kernel⟩
def sp__law_is_tree : Sp := fun vs H Q _ => ∃ (n : Nat) (t : Tr) (v : V), vs = [v, .int n] ∧ TreeAt H t v ∧ Over n t ∧ Normal t ∧ ∀ H' : Hp, Same H H' → Q (.bl true) H'
theorem ok__law_is_tree (D : Def K mg "_law_is_tree" s__law_is_tree ["_law_tree_here", "_law_n"]) (B : Bl mg) (c__law_things : Can P w K mg base 25 "_law_things" ["_law_tree_here"] (sp__law_things 24)) (c__law_is_normal : Can P w K mg base 50 "_law_is_normal" ["_law_tree_here"] (sp__law_is_normal 24)) :
    Can P w K mg base 51 "_law_is_tree" ["_law_tree_here", "_law_n"] sp__law_is_tree := by
  refine D.ok sc__law_is_tree (fun vs H Q E h => ?_) (fun f cdv A outer s H vs Q E hr h => ?_)
  · obtain ⟨n, t, v, rfl, _⟩ := h; rfl
  obtain ⟨n, t, v, rfl, ht, O, N, q⟩ := h
  have l1 := O.len
  have n24 := O.le
  refine ⟨_, (pss_one (ps_ret (pe_and (pe_can c__law_is_normal hr (by omega) rfl (pa_cons (pv 0) pa_nil)) (pe_one (pe_cmpR (op_eqD hr.units) (pe_callB cr_sortedI rfl B.sorted bv_sorted (pa_cons (pe_can c__law_things hr (by omega) rfl (pa_cons (pv 0) pa_nil)) pa_nil)) (pe_lc (own := [("_law_thing", 2)]) (g := gName 2) rfl sc__law_is_tree.nd (pi_range1 rfl B.range (pa_cons (pv 1) pa_nil)) (blkOk_by (own := [("_law_thing", 2)]) (N := N__law_is_tree) (sc := defScope s__law_is_tree) (by decide +kernel)) (fun _ _ _ _ _ => (pg_name (i := 2) sc__law_is_tree.nd rfl (.inl rfl) (.inr rfl))) (fun _ _ _ _ _ => pts_nil) (fun _ _ _ _ _ => (pv 2))) (nomark _)))))), ?_⟩
  refine ⟨_, rfl, t, v, rfl, ht, O.form, N, by omega, Nat.le_refl _, fun H1 s1 => ⟨true, rfl, iteT ?_⟩⟩
  refine ⟨_, rfl, t, v, rfl, ht.mono (sameT_of s1), O.form, by omega, Nat.le_refl _, fun H2 p2 s2 e2 => ⟨p2, _, rfl, SqL.of e2, fun ns p3 pm pw n3 => ?_⟩⟩
  have s13 := (s1.trans s2).trans (same_new (o := .lst (ns.map V.int)) n3)
  refine ⟨_, rfl, _, rfl, by omega, by omega, fun d nd => ?_⟩
  rw [Int.toNat_natCast]
  refine lc_range (lo := 0) (n := n) (fun k H' => Same (upd H2 p3 (.lst (ns.map V.int))) H' ∧ H' d = some (.lst ((rangeI k).map V.int))) ⟨same_new nd, upd_same⟩ ?_ ?_
  · rintro k H' hk ⟨sm, e⟩
    refine ⟨rfl, _, rfl, _, e, small1000 (by rw [List.length_map]; unfold rangeI; rw [List.length_map, List.length_range]; omega), same_upd sm nd, ?_⟩
    rw [upd_same]
    unfold rangeI
    rw [List.range_succ, List.map_append, List.map_append, show ((0 : Int) + (k : Int)) = Int.ofNat k by simp]; rfl
  rintro H4 ⟨s4, e4⟩
  refine eq_lists (ns := ns) (ms := rangeI n) (SqL.of (s4 _ _ upd_same)) (SqL.of e4) ?_
  rw [decide_eq_true (show ns = rangeI n from sorted_one (pm.trans O.perm) pw (range_sorted n))]
  exact q H4 (s13.trans s4)
abbrev s__law_orders : Stmt := topS 54
abbrev N__law_orders : List Str := ["_law_n", "_law_orders_here", "_law_thing", "_law_longer", "_law_order_here", "_law_at"]
theorem sc__law_orders : FnScope N__law_orders ["_law_n"] (defScope s__law_orders) := ⟨rfl, rfl, rfl, by decide +kernel, rfl, by decide +kernel, by decide +kernel⟩
/-- orders: int tuples -/
def OrdsAt (m : Nat) (H : Hp) (us : List V) : Prop := ∀ u ∈ us, ∃ b o, u = V.ref b ∧ H b = some (.tup (List.map V.int o)) ∧ o.length ≤ m
theorem OrdsAt.mono {m : Nat} {H H' : Hp} (s : SameT H H') {us : List V} (h : OrdsAt m H us) : OrdsAt m H' us := fun u hu => by
  obtain ⟨b, o, e, k, l⟩ := h u hu
  exact ⟨b, o, e, s _ _ k, l⟩
theorem OrdsAt.le {m m' : Nat} {H : Hp} {us : List V} (h : OrdsAt m H us) (hm : m ≤ m') : OrdsAt m' H us := fun u hu => by
  obtain ⟨b, o, e, k, l⟩ := h u hu
  exact ⟨b, o, e, k, Nat.le_trans l hm⟩
theorem OrdsAt.app {m : Nat} {H : Hp} {us ws : List V} (h : OrdsAt m H us) (h' : OrdsAt m H ws) : OrdsAt m H (us ++ ws) := fun u hu => (List.mem_append.1 hu).elim (h u) (h' u)
theorem OrdsAt.one {m : Nat} {H : Hp} {b : Addr} {o : List Int} (e : H b = some (.tup (o.map V.int))) (l : o.length ≤ m) : OrdsAt m H [.ref b] := fun u hu => by
  rw [List.mem_singleton] at hu
  exact ⟨b, o, hu, e, l⟩
def sp__law_orders : Sp := fun vs H Q _ => ∃ n : Nat, vs = [.int n] ∧ n ≤ 4 ∧ ∀ (H' : Hp) (p : Addr) (us : List V), Same H H' → H' p = some (.lst us) → OrdsAt 4 H' us → us.length ≤ 256 → Q (.ref p) H'
theorem ok__law_orders (D : Def K mg "_law_orders" s__law_orders ["_law_n"]) (B : Bl mg) : Can P w K mg base 1 "_law_orders" ["_law_n"] sp__law_orders := by
  refine D.ok sc__law_orders (fun vs H Q E h => ?_) (fun f cdv A outer s H vs Q E hr h => ?_)
  · obtain ⟨n, rfl, _⟩ := h; rfl
  obtain ⟨n, rfl, n4, q⟩ := h
  refine ⟨_, (pss_cons (ps_set (i := 1) sc__law_orders.nd rfl (.inl rfl) (pe_lst (pa_cons (pe_tup pa_nil) pa_nil)))
      (pss_cons (ps_for PassesOwn.never rfl (pi_range1 rfl B.range (pa_cons (pv 0) pa_nil)) (pg_name (i := 2) sc__law_orders.nd rfl (.inl rfl))
      (pss_cons (ps_set (i := 3) sc__law_orders.nd rfl (.inl rfl) (pe_lst pa_nil))
      (pss_cons (ps_for PassesOwn.never rfl (pi_list (pv 1)) (pg_name (i := 4) sc__law_orders.nd rfl (.inl rfl))
      (pss_one (ps_for PassesOwn.never rfl (pi_range1 rfl B.range (pa_cons (pe_op op_add (pe_callB call_len_seq rfl B.len bv_len (pa_cons (pv 4) pa_nil)) pe_int) pa_nil)) (pg_name (i := 5) sc__law_orders.nd rfl (.inl rfl))
      (pss_one (ps_expr (pe_bm PySem.F.plainAttrs_list PySem.F.slot_list_append PySem.F.type_list_append mt_append (pv 3) (pa_cons (pe_op op_catA (pe_op op_catA (pe_slice sl_tupA (pv 4) po_none (po_some (pv 5))) (pe_tup (pa_cons (pv 2) pa_nil))) (pe_slice sl_tupA (pv 4) (po_some (pv 5)) po_none)) pa_nil)))))))
      (pss_one (ps_set (i := 1) sc__law_orders.nd rfl (.inl rfl) (pv 3))))))
      (pss_one (ps_ret (pv 1))))), ?_⟩
  refine ⟨Nat.zero_le _, fun p0 np0 => ⟨(by show 1 ≤ sizeLine; decide), fun p1 np1 => ?_⟩⟩
  have s0 : Same H (upd H p0 (.tup [])) := same_new np0
  have s1 := s0.trans (same_new (o := .lst [.ref p0]) np1)
  refine ⟨_, rfl, _, rfl, by omega, by omega, ?_⟩
  rw [Int.toNat_natCast]
  refine for_range (lo := 0) (n := n) (fun k σ H' => ∃ d y2 y3 y4 y5 us, σ = [some (.int n), some (.ref d), y2, y3, y4, y5] ∧ Same H H' ∧ H' d = some (.lst us) ∧ OrdsAt k H' us ∧ us.length ≤ 4 ^ k) ⟨p1, _, _, _, _, [.ref p0], rfl, s1, upd_same, OrdsAt.one (o := []) ((same_new np1) _ _ upd_same) (Nat.le_refl _), Nat.le_refl _⟩ ?_ ?_
  · rintro k σ H1 hk ⟨d, y2, y3, y4, y5, us, rfl, s1, ed, os, lu⟩
    have e4 : 4 ^ (k + 1) = 4 ^ k * 4 := Nat.pow_succ ..
    have l64 : 4 ^ k ≤ 4 ^ 3 := Nat.pow_le_pow_right (by decide) (by omega)
    have l64 : 4 ^ k ≤ 64 := l64
    refine ⟨Nat.zero_le _, fun g ng => ?_⟩
    have s2 : Same H1 (upd H1 g (.lst [])) := same_new ng
    refine ⟨_, rfl, d, rfl, ⟨_, SqL.of (s2 _ _ ed)⟩, ?_⟩
    refine for_list (xs := us) (fun j σ H' => ∃ y4 y5 ws, σ = [some (.int n), some (.ref d), some (.int (0 + (k : Int))), some (.ref g), y4, y5] ∧ Same H1 H' ∧ H' g = some (.lst ws) ∧ OrdsAt (k + 1) H' ws ∧ ws.length ≤ 4 * j) ⟨_, _, [], rfl, s2, upd_same, nofun, Nat.le_refl _⟩ ?_ ?_ ?_
    · rintro j σ H' hj ⟨y4, y5, ws, rfl, sm, _⟩
      exact SqL.of (sm _ _ ed)
    · rintro j x σ H2 hx ⟨y4, y5, ws, rfl, s2, eg, ow, lw⟩
      have hj := (List.getElem?_eq_some_iff.1 hx).1
      obtain ⟨b, o, rfl, eb, lo⟩ := os x (List.mem_of_getElem? hx)
      refine ⟨_, rfl, b, _, rfl, .inr (SqT.of (s2 _ _ eb)), _, _, rfl, rfl, _, rfl, by rw [List.length_map]; omega, by rw [List.length_map]; omega, ?_⟩
      rw [List.length_map, show ((o.length : Int) + 1).toNat = o.length + 1 by omega]
      refine for_range (lo := 0) (n := o.length + 1) (fun i σ H' => ∃ y5 ws, σ = [some (.int n), some (.ref d), some (.int (0 + (k : Int))), some (.ref g), some (.ref b), y5] ∧ Same H1 H' ∧ H' g = some (.lst ws) ∧ OrdsAt (k + 1) H' ws ∧ ws.length ≤ 4 * j + i) ⟨_, ws, rfl, s2, eg, ow, lw⟩ ?_ ?_
      · rintro i σ H3 hi ⟨y5, ws, rfl, s3, eg, ow, lw⟩
        have eb3 := s3 _ _ eb
        have ei : ((0 : Int) + (i : Int)) = (i : Int) := by omega
        rw [ei]
        refine ⟨_, rfl, .inl ⟨rfl, _, SqL.of eg⟩, _, rfl, _, rfl, _, rfl, slA_of eb3 fun H4 p4 s4 e4 => ?_⟩
        rw [cutV_to, ← List.map_take] at e4
        refine ⟨_, rfl, (by show 1 ≤ sizeLine; decide), fun p5 np5 => ?_⟩
        have s5 : Same H4 (upd H4 p5 (.tup [.int (0 + (k : Int))])) := same_new np5
        refine catA_of (ys := [V.int (0 + (k : Int))]) (s5 _ _ e4) upd_same (by rw [List.length_map, List.length_take, List.length_singleton]; omega) fun H6 p6 s6 e6 => ?_
        have s46 := (s4.trans s5).trans s6
        refine ⟨_, rfl, _, rfl, _, rfl, ?_⟩
        dsimp only [tNoPart]
        refine slA_of (s46 _ _ eb3) fun H7 p7 s7 e7 => ?_
        rw [cutV_from, ← List.map_drop] at e7
        refine catA_of (s7 _ _ e6) e7 (by rw [List.length_append, List.length_map, List.length_map, List.length_take, List.length_singleton, List.length_drop]; omega) fun H8 p8 s8 e8 => ?_
        have s38 := (s46.trans s7).trans s8
        have e8 : H8 p8 = some (.tup ((o.take i ++ [0 + (k : Int)] ++ o.drop i).map V.int)) := by rw [e8, List.map_append, List.map_append]; rfl
        have eg8 := s38 _ _ eg
        refine ⟨g, ws, _, rfl, rfl, eg8, small1000 (by omega), ?_⟩
        refine ⟨_, ws ++ [.ref p8], rfl, same_upd (s3.trans s38) ng, upd_same, ?_, by rw [List.length_append, List.length_singleton]; omega⟩
        have m := sameT_lst (o := .lst (ws ++ [V.ref p8])) eg8
        exact OrdsAt.app (OrdsAt.mono ((sameT_of s38).trans m) ow) (OrdsAt.one (m _ _ e8) (by rw [List.length_append, List.length_append, List.length_take, List.length_drop, List.length_singleton]; omega))
      · rintro σ H3 ⟨y5, ws, rfl, s3, eg, ow, lw⟩
        exact ⟨_, _, ws, rfl, s3, eg, ow, by omega⟩
    · rintro σ H2 ⟨y4, y5, ws, rfl, s2, eg, ow, lw⟩
      exact ⟨_, rfl, g, _, _, _, _, ws, rfl, s1.trans s2, eg, ow, by omega⟩
  · rintro σ H1 ⟨d, y2, y3, y4, y5, us, rfl, s1, ed, os, lu⟩
    have l64 : 4 ^ n ≤ 4 ^ 4 := Nat.pow_le_pow_right (by decide) n4
    exact ⟨_, rfl, q H1 d us s1 ed (os.le n4) (Nat.le_trans lu l64)⟩
abbrev s__law_agrees : Stmt := topS 56
abbrev N__law_agrees : List Str := ["_law_one", "_law_two", "_law_told_here", "_law_order_here", "_law_due"]
theorem sc__law_agrees : FnScope N__law_agrees ["_law_one", "_law_two", "_law_told_here", "_law_order_here"] (defScope s__law_agrees) := ⟨rfl, rfl, rfl, by decide +kernel, rfl, by decide +kernel, by decide +kernel⟩
def sp__law_agrees : Sp := fun vs H Q _ => ∃ (one two : Tr) (r : Option Tr) (v1 v2 v3 : V) (a : Addr) (o : List Int), vs = [v1, v2, v3, .ref a] ∧ TreeAt H one v1 ∧ TreeAt H two v2 ∧ OptAt H r v3 ∧ Form one ∧ Form two ∧ one.lv.Nodup ∧ two.lv.Nodup ∧ one.lv.length ≤ 24 ∧ two.lv.length ≤ 24 ∧
  CommonOK one two r ∧ H a = some (.tup (o.map V.int)) ∧ o.length ≤ 1000 ∧ ∀ H' : Hp, Same H H' → Q (.bl true) H'
theorem ok__law_agrees (D : Def K mg "_law_agrees" s__law_agrees ["_law_one", "_law_two", "_law_told_here", "_law_order_here"]) (c__law_told : Can P w K mg base 50 "_law_told" ["_law_tree_here", "_law_order_here"] (sp__law_told 24)) :
    Can P w K mg base 51 "_law_agrees" ["_law_one", "_law_two", "_law_told_here", "_law_order_here"] sp__law_agrees := by
  refine D.ok sc__law_agrees (fun vs H Q E h => ?_) (fun f cdv A outer s H vs Q E hr h => ?_)
  · obtain ⟨one, two, r, v1, v2, v3, a, o, rfl, _⟩ := h; rfl
  obtain ⟨one, two, r, v1, v2, v3, a, o, rfl, h1, h2, h3, F1, F2, nd1, nd2, l1, l2, C, ha, lo, q⟩ := h
  refine ⟨_, (pss_cons (ps_set (i := 4) sc__law_agrees.nd rfl (.inl rfl) (pe_and (pe_can c__law_told hr (by omega) rfl (pa_cons (pv 0) (pa_cons (pv 3) pa_nil))) (pe_one (pe_can c__law_told hr (by omega) rfl (pa_cons (pv 1) (pa_cons (pv 3) pa_nil))))))
      (pss_one (ps_ret (pe_cmpR op_eq (pv 4) (pe_and (pe_cmpR op_notN (pv 2) pe_non (nomark _)) (pe_one (pe_can c__law_told hr (by omega) rfl (pa_cons (pv 2) (pa_cons (pv 3) pa_nil))))) (nomark _))))), ?_⟩
  refine ⟨_, rfl, _, rfl, one, v1, a, o, rfl, h1, F1, nd1, l1, Nat.le_refl _, ha, lo, fun H1 b1 s1 hb1 => ⟨b1, rfl, ite2 (fun c1 => ?_) (fun c1 => ?_)⟩⟩
  · refine ⟨_, rfl, _, rfl, two, v2, a, o, rfl, h2.mono (sameT_of s1), F2, nd2, l2, Nat.le_refl _, s1 _ _ ha, lo, fun H2 b2 s2 hb2 => ?_⟩
    have due : b2 = true ↔ Tells one o ∧ Tells two o := ⟨fun z => ⟨hb1.1 c1, hb2.1 z⟩, fun z => hb2.2 z.2⟩
    have s12 := s1.trans s2
    have agree : ∀ b3 : Bool, (b2 = true ↔ b3 = true) → ∀ H' : Hp, Same H H' → Q (.bl (decide (V.bl b2 = V.bl b3))) H' := fun b3 e H' s => by
      have : V.bl b2 = V.bl b3 := congrArg V.bl (Bool.eq_iff_iff.2 e)
      rw [decide_eq_true this]
      exact q H' s
    cases h3 with
    | none =>
      have no : ∀ o, ¬ (Tells one o ∧ Tells two o) := C
      refine ⟨_, rfl, _, rfl, rfl, false, rfl, iteF ⟨rfl, agree false ⟨fun z => absurd (due.1 z) (no o), fun z => absurd z Bool.false_ne_true⟩ _ s12⟩⟩
    | @some c _ h3 =>
      have cs : CommonSome one two c := C
      have cp := cs.lv
      refine ⟨_, rfl, _, rfl, rfl, true, bNF h3.notNone, iteT ?_⟩
      refine ⟨_, rfl, _, rfl, c, _, a, o, rfl, h3.mono (sameT_of s12), cs.form, cp.nodup_iff.2 nd1, by rw [cp.length_eq]; exact l1, Nat.le_refl _, s12 _ _ ha, lo, fun H3 b3 s3 hb3 => ⟨rfl, agree b3 (due.trans ((cs.iff o).symm.trans hb3.symm)) _ (s12.trans s3)⟩⟩
  · have due : false = true ↔ Tells one o ∧ Tells two o := ⟨fun z => absurd z Bool.false_ne_true, fun z => absurd (hb1.2 z.1) c1⟩
    have agree : ∀ b3 : Bool, (false = true ↔ b3 = true) → ∀ H' : Hp, Same H H' → Q (.bl (decide (V.bl false = V.bl b3))) H' := fun b3 e H' s => by
      have : V.bl false = V.bl b3 := congrArg V.bl (Bool.eq_iff_iff.2 e)
      rw [decide_eq_true this]
      exact q H' s
    cases h3 with
    | none =>
      have no : ∀ o, ¬ (Tells one o ∧ Tells two o) := C
      refine ⟨_, rfl, _, rfl, rfl, false, rfl, iteF ⟨rfl, agree false ⟨fun z => absurd (due.1 z) (no o), fun z => absurd z Bool.false_ne_true⟩ _ s1⟩⟩
    | @some c _ h3 =>
      have cs : CommonSome one two c := C
      have cp := cs.lv
      refine ⟨_, rfl, _, rfl, rfl, true, bNF h3.notNone, iteT ?_⟩
      refine ⟨_, rfl, _, rfl, c, _, a, o, rfl, h3.mono (sameT_of s1), cs.form, cp.nodup_iff.2 nd1, by rw [cp.length_eq]; exact l1, Nat.le_refl _, s1 _ _ ha, lo, fun H3 b3 s3 hb3 => ⟨rfl, agree b3 (due.trans ((cs.iff o).symm.trans hb3.symm)) _ (s1.trans s3)⟩⟩
end
end K13

/-! K13 W16: the walk: the law. -/
namespace K13
open PySem PySem.Spec PyProof.Rows L2
theorem tog_stretch {o x m y S : List Int} (nd : o.Nodup) (e : o = x ++ (m ++ y)) (p : S.Perm m) : Tog (setP S) o := by
  subst e
  rw [← List.append_assoc]
  refine ⟨x, m, y, rfl, fun z hz => setP_false.2 fun h => ?_, fun z hz => setP_true.2 (p.mem_iff.2 hz), fun z hz => setP_false.2 fun h => ?_⟩
  · exact (List.nodup_append.1 nd).2.2 z hz z (List.mem_append_left _ (p.mem_iff.1 h)) rfl
  · exact (List.nodup_append.1 (List.nodup_append.1 nd).2.1).2.2 z (p.mem_iff.1 h) z hz rfl
theorem stretch_set {N : Nat} {o x m y S : List Int} (h24 : N ≤ 24) (po : o.Perm (rangeI N)) (e : o = x ++ (m ++ y)) (p : S.Perm m) (pw : S.Pairwise (· ≤ ·)) : IsSet N S := by
  have nd : o.Nodup := po.nodup_iff.2 (nodup_range N)
  have sub : ∀ z ∈ S, z ∈ o := fun z hz => by rw [e]; exact List.mem_append_right _ (List.mem_append_left _ (p.mem_iff.1 hz))
  have nS : S.Nodup := by
    rw [e] at nd
    exact p.nodup_iff.2 (List.nodup_append.1 (List.nodup_append.1 nd).2.1).1
  refine ⟨?_, fun z hz => ?_, ?_⟩
  · exact List.Pairwise.imp₂ (fun a b h1 h2 => by omega) pw nS
  · obtain ⟨k, hk, rfl⟩ := List.mem_map.1 (po.mem_iff.1 (sub z hz))
    have := List.mem_range.1 hk
    exact ⟨Int.natCast_nonneg k, Int.ofNat_lt.2 this⟩
  · have h1 := List.Nodup.length_le_of_subset nS (fun z hz => sub z hz)
    have h2 := po.length_eq
    unfold rangeI at h2
    rw [List.length_map, List.length_range] at h2
    omega
section
variable {P : Program} {w : World} {K : Fg} {mg : Str → Option Value} {base : Heap}
abbrev s_law : Stmt := topS 57
abbrev N_law : List Str := ["_law_script", "_law_d", "_law_n", "_law_one", "_law_order_here", "_law_two", "_law_told_here", "_law_drawn", "_law_k", "_law_e", "_law_low", "_law_high", "_law_other"]
theorem sc_law : FnScope N_law ["_law_script"] (defScope s_law) := ⟨rfl, rfl, rfl, by decide +kernel, rfl, by decide +kernel, by decide +kernel⟩
def sp_law (K : Fg) : Sp := fun vs H Q _ => ∃ (a : Addr) (ns : List Int), vs = [.ref a] ∧ SqL K H a (ns.map V.int) ∧ ∀ H' : Hp, Q (.bl true) H'
theorem ok_law {f : Addr} {fd : FuncData} (F : Fun K "law" "law" s_law f fd) (B : Bl mg) (c__law_digits : Can P w K mg base 1 "_law_digits" ["_law_cell_here", "_law_sizes"] sp__law_digits) (c__law_rich : Can P w K mg base 1 "_law_rich" ["_law_cell_here"] sp__law_rich) (c__law_cell : Can P w K mg base 1 "_law_cell" ["_law_script", "_law_k"] (sp__law_cell K))
    (c__law_tree : Can P w K mg base 3 "_law_tree" ["_law_cell_here", "_law_n"] sp__law_tree) (c__law_drawn_order : Can P w K mg base 51 "_law_drawn_order" ["_law_tree_here", "_law_cell_here"] (sp__law_drawn_order 24)) (c_tree_of : Can P w K mg base 107 "tree_of" ["n", "sets"] sp_tree_of)
    (c__law_stretch : Can P w K mg base 2 "_law_stretch" ["_law_cell_here", "_law_order_here"] sp__law_stretch) (c_common : Can P w K mg base 107 "common" ["tree", "other"] sp_common) (c__law_is_tree : Can P w K mg base 51 "_law_is_tree" ["_law_tree_here", "_law_n"] sp__law_is_tree)
    (c__law_orders : Can P w K mg base 1 "_law_orders" ["_law_n"] sp__law_orders) (c__law_agrees : Can P w K mg base 51 "_law_agrees" ["_law_one", "_law_two", "_law_told_here", "_law_order_here"] sp__law_agrees) :
    FnOk P w K mg base CX0 108 f fd ["_law_script"] (sp_law K) := by
  refine F.ok sc_law (fun vs H Q E h => ?_) (fun cdv A outer s H vs Q E hr h => ?_)
  · obtain ⟨a, ns, rfl, _⟩ := h; rfl
  obtain ⟨a, ns, rfl, hS, q⟩ := h
  refine ⟨_, (pss_cons (ps_set (i := 1) sc_law.nd rfl (.inl rfl) (pe_can c__law_digits hr (by omega) rfl (pa_cons (pe_can c__law_rich hr (by omega) rfl (pa_cons (pe_can c__law_cell hr (by omega) rfl (pa_cons (pv 0) (pa_cons pe_int pa_nil))) pa_nil)) (pa_cons (pe_lst (pa_cons pe_int (pa_cons pe_int pa_nil))) pa_nil))))
      (C8.pss_cut (ps_set (i := 2) sc_law.nd rfl (.inl rfl) (pe_op op_add pe_int (pe_ix ix_list (pv 1) pe_int (fun _ _ => rfl))))
      (pss_cons (ps_set (i := 3) sc_law.nd rfl (.inr rfl) (pe_can c__law_tree hr (by omega) rfl (pa_cons (pe_can c__law_cell hr (by omega) rfl (pa_cons (pv 0) (pa_cons pe_int pa_nil))) (pa_cons (pv 2) pa_nil))))
      (pss_cons (ps_set (i := 4) sc_law.nd rfl (.inr rfl) (pe_can c__law_drawn_order hr (by omega) rfl (pa_cons (pv 3) (pa_cons (pe_can c__law_rich hr (by omega) rfl (pa_cons (pe_can c__law_cell hr (by omega) rfl (pa_cons (pv 0) (pa_cons pe_int pa_nil))) pa_nil)) pa_nil))))
      (pss_cons (ps_set (i := 5) sc_law.nd rfl (.inr rfl) (pe_can c__law_tree hr (by omega) rfl (pa_cons (pe_can c__law_cell hr (by omega) rfl (pa_cons (pv 0) (pa_cons pe_int pa_nil))) (pa_cons (pv 2) pa_nil))))
      (C8.pss_cut (ps_if (pt_cmpR op_gt (pe_ix ix_list (pv 1) pe_int (fun _ _ => rfl)) pe_int (nomark _))
      (pss_one (ps_set (i := 5) sc_law.nd rfl (.inr rfl) (pe_can c_tree_of hr (by omega) rfl (pa_cons (pv 2) (pa_cons (pe_callTy call_tuple_of rfl B.tuple bv_tuple (pa_cons (pe_lc (own := [("_law_k", 8)]) (g := gName 8) rfl sc_law.nd (pi_range1 rfl B.range (pa_cons pe_int pa_nil)) (blkOk_by (own := [("_law_k", 8)]) (N := N_law) (sc := defScope s_law) (by decide +kernel)) (fun _ _ _ _ _ => (pg_name (i := 8) sc_law.nd rfl (.inl rfl) (.inr rfl))) (fun _ _ _ _ _ => pts_nil) (fun _ _ _ _ _ => (pe_can c__law_stretch hr (by omega) rfl (pa_cons (pe_op op_add (pe_can c__law_cell hr (by omega) rfl (pa_cons (pv 0) (pa_cons pe_int pa_nil))) (pv 8)) (pa_cons (pv 4) pa_nil))))) pa_nil)) pa_nil)))))
      pss_nil)
      (pss_cons (ps_set (i := 6) sc_law.nd rfl (.inr rfl) (pe_can c_common hr (by omega) rfl (pa_cons (pv 3) (pa_cons (pv 5) pa_nil))))
      (C8.pss_cut (ps_if (PW.pt (pw_and (pt_cmpR op_notN (pv 6) pe_non (nomark _)) (pw_and1 (pt_not (pt_val (pe_can c__law_is_tree hr (by omega) rfl (pa_cons (pv 6) (pa_cons (pv 2) pa_nil))))))))
      (pss_one (ps_ret pe_bl))
      pss_nil)
      (pss_cons (ps_if (pt_cmpR (op_neD hr.units) (pe_can c_common hr (by omega) rfl (pa_cons (pv 5) (pa_cons (pv 3) pa_nil))) (pv 6) (nomark _))
      (pss_one (ps_ret pe_bl))
      pss_nil)
      (pss_cons (ps_set (i := 7) sc_law.nd rfl (.inl rfl) (pe_lst (pa_cons (pv 4) (pa_cons (pe_can c__law_drawn_order hr (by omega) rfl (pa_cons (pv 5) (pa_cons (pe_can c__law_rich hr (by omega) rfl (pa_cons (pe_can c__law_cell hr (by omega) rfl (pa_cons (pv 0) (pa_cons pe_int pa_nil))) pa_nil)) pa_nil))) pa_nil))))
      (C8.pss_cut (ps_if (pt_cmpR op_notN (pv 6) pe_non (nomark _))
      (pss_one (ps_expr (pe_bm PySem.F.plainAttrs_list PySem.F.slot_list_append PySem.F.type_list_append mt_append (pv 7) (pa_cons (pe_can c__law_drawn_order hr (by omega) rfl (pa_cons (pv 6) (pa_cons (pe_can c__law_rich hr (by omega) rfl (pa_cons (pe_can c__law_cell hr (by omega) rfl (pa_cons (pv 0) (pa_cons pe_int pa_nil))) pa_nil)) pa_nil))) pa_nil))))
      pss_nil)
      (pss_cons (ps_for PassesOwn.never rfl (pi_range1 rfl B.range (pa_cons pe_int pa_nil)) (pg_name (i := 8) sc_law.nd rfl (.inl rfl))
      (pss_cons (ps_set (i := 9) sc_law.nd rfl (.inl rfl) (pe_can c__law_digits hr (by omega) rfl (pa_cons (pe_can c__law_rich hr (by omega) rfl (pa_cons (pe_op op_add (pe_can c__law_cell hr (by omega) rfl (pa_cons (pv 0) (pa_cons pe_int pa_nil))) (pv 8)) pa_nil)) (pa_cons (pe_lst (pa_cons (pv 2) (pa_cons (pv 2) pa_nil))) pa_nil))))
      (pss_cons (ps_set (i := 10) sc_law.nd rfl (.inl rfl) (pe_callB (call_min2 rfl) rfl B.min bv_min (pa_cons (pe_ix ix_list (pv 9) pe_int (fun _ _ => rfl)) (pa_cons (pe_ix ix_list (pv 9) pe_int (fun _ _ => rfl)) pa_nil))))
      (pss_cons (ps_set (i := 11) sc_law.nd rfl (.inl rfl) (pe_callB (call_max2 rfl) rfl B.max bv_max (pa_cons (pe_ix ix_list (pv 9) pe_int (fun _ _ => rfl)) (pa_cons (pe_ix ix_list (pv 9) pe_int (fun _ _ => rfl)) pa_nil))))
      (pss_one (ps_expr (pe_bm PySem.F.plainAttrs_list PySem.F.slot_list_append PySem.F.type_list_append mt_append (pv 7) (pa_cons (pe_op op_catA (pe_op op_catA (pe_slice sl_tupA (pe_ix ix_list (pv 7) (pv 8) (fun _ _ => rfl)) po_none (po_some (pv 10))) (pe_revT (pe_slice sl_tupA (pe_ix ix_list (pv 7) (pv 8) (fun _ _ => rfl)) (po_some (pv 10)) (po_some (pe_op op_add (pv 11) pe_int))))) (pe_slice sl_tupA (pe_ix ix_list (pv 7) (pv 8) (fun _ _ => rfl)) (po_some (pe_op op_add (pv 11) pe_int)) po_none)) pa_nil))))))))
      (C8.pss_cut (ps_if (pt_cmpR op_lt (pv 2) pe_int (nomark _))
      (pss_one (ps_set (i := 7) sc_law.nd rfl (.inl rfl) (pe_op op_cat (pv 7) (pe_can c__law_orders hr (by omega) rfl (pa_cons (pv 2) pa_nil)))))
      pss_nil)
      (pss_one (ps_ret (pe_cmpR (op_eqD hr.units) (pe_lc (own := [("_law_other", 12)]) (g := gName 12) rfl sc_law.nd (pi_list (pv 7)) (blkOk_by (own := [("_law_other", 12)]) (N := N_law) (sc := defScope s_law) (by decide +kernel)) (fun _ _ _ _ _ => (pg_name (i := 12) sc_law.nd rfl (.inl rfl) (.inr rfl))) (fun _ _ _ _ _ => (pts_one (pt_not (pt_val (pe_can c__law_agrees hr (by omega) rfl (pa_cons (pv 3) (pa_cons (pv 5) (pa_cons (pv 6) (pa_cons (pv 12) pa_nil))))))))) (fun _ _ _ _ _ => (pv 12))) (pe_lst pa_nil) (nomark _))))))))))))))))), ?_⟩
  -- d
  refine ⟨_, rfl, a, ns, 0, rfl, hS, fun i0 => ⟨i0, rfl, fun r0 _ => ⟨(by show 2 ≤ sizeLine; decide), fun z0 nz0 => ⟨r0, z0, 9, 3, rfl, upd_same, by decide, by decide, by decide, by decide, fun H1 p1 d0 d1 s1 e1 d00 d01 d10 d11 => ?_⟩⟩⟩⟩
  have s1 := (same_new (o := .lst [.int 9, .int 3]) nz0).trans s1
  obtain ⟨m, rfl⟩ := Int.eq_ofNat_of_zero_le d00
  -- n
  refine ⟨fun σ' H' => σ' = [some (.ref a), some (.ref p1), some (.int ((m + 1 : Nat) : Int)), none, none, none, none, none, none, none, none, none, none] ∧ H' = H1, ?_, ?_⟩
  · refine ⟨_, rfl, p1, _, 0, _, rfl, rfl, SqL.of e1, atI0 _ _, _, _, rfl, rfl, congrArg (fun z => [some (V.ref a), some (.ref p1), some (.int z), none, none, none, none, none, none, none, none, none, none]) (show 1 + (m : Int) = ((m + 1 : Nat) : Int) by omega), rfl⟩
  rintro σ' Hy ⟨rfl, hy⟩
  rw [hy]
  clear hy
  generalize hN : m + 1 = N
  have N1 : 1 ≤ N := by omega
  have N9 : N ≤ 9 := by omega
  -- one
  refine ⟨_, rfl, a, ns, 1, rfl, s1.seq hS, fun i1 => ⟨_, rfl, i1, N, rfl, N1, by omega, fun H2 v1 one s2 t1 O1 => ?_⟩⟩
  have s02 := s1.trans s2
  have nd1 := O1.nodup
  have l1 := O1.len
  -- order
  refine ⟨_, rfl, _, rfl, a, ns, 2, rfl, s02.seq hS, fun i2 => ⟨i2, rfl, fun r2 _ => ⟨one, v1, r2, rfl, t1, O1.form, by omega, Nat.le_refl _, fun H3 p3 o s3 e3 po => ?_⟩⟩⟩
  have s03 := s02.trans s3
  have t1 := t1.mono (sameT_of s3)
  have lo := po.length_eq
  have poR : o.Perm (rangeI N) := po.trans O1.perm
  -- two
  refine ⟨_, rfl, a, ns, 3, rfl, s03.seq hS, fun i3 => ⟨_, rfl, i3, N, rfl, N1, by omega, fun H4 v2 two s4 t2 O2 => ?_⟩⟩
  have s04 := s03.trans s4
  have e1 := s4 _ _ (s3 _ _ (s2 _ _ e1))
  have e3 := s4 _ _ e3
  have t1 := t1.mono (sameT_of s4)
  refine ⟨fun σ' H' => ∃ v2 two, σ' = [some (.ref a), some (.ref p1), some (.int N), some v1, some (.ref p3), some v2, none, none, none, none, none, none, none] ∧ Same H4 H' ∧ TreeAt H' two v2 ∧ Over N two, ?_, ?_⟩
  · refine ⟨_, rfl, p1, _, 1, _, rfl, rfl, SqL.of e1, rfl, _, _, rfl, rfl, _, rfl, ite2 (fun c1 => ?_) (fun c1 => ?_)⟩
    · -- stretches of the order
      refine ⟨_, rfl, _, rfl, by decide, by decide, fun d nd => ?_⟩
      refine lc_range (lo := 0) (n := (3 : Int).toNat) (fun k H' => Same H4 H' ∧ ∃ us sets, H' d = some (.lst us) ∧ SetsIn H' sets us ∧ us.length = k ∧ ∀ S ∈ sets, ∃ x m y, o = x ++ (m ++ y) ∧ S.Perm m ∧ S.Pairwise (· ≤ ·)) ⟨same_new nd, [], [], upd_same, .nil, rfl, nofun⟩ ?_ ?_
      · rintro k H' hk ⟨sm, us, sets, ed, si, lu, hs⟩
        have hk : k < 3 := hk
        refine ⟨rfl, _, rfl, a, ns, 3, rfl, (s04.trans sm).seq hS, fun i4 => ⟨_, rfl, _, _, rfl, rfl, _, rfl, _, p3, o, rfl, sm _ _ e3, fun z => ?_, by omega, fun H5 p5 S x m y s5 e5 pw eo pm => ?_⟩⟩
        · rw [z] at lo; have := O1.pos; rw [List.length_nil] at lo; omega
        · refine ⟨us, s5 _ _ ed, small1000 (by omega), same_upd (sm.trans s5) nd, us ++ [.ref p5], sets ++ [S], upd_same, ?_, by rw [List.length_append, lu]; rfl, ?_⟩
          · have mm := sameT_lst (o := .lst (us ++ [V.ref p5])) (s5 _ _ ed)
            exact (SetsIn.mono ((sameT_of s5).trans mm) si).snoc ⟨p5, rfl, mm _ _ e5⟩
          · intro S' hS'
            rcases List.mem_append.1 hS' with hS' | hS'
            · exact hs S' hS'
            · rw [List.mem_singleton] at hS'
              subst hS'
              exact ⟨x, m, y, eo, pm, pw⟩
      rintro H5 ⟨s5, us, sets, ed, si, lu, hs⟩
      refine ⟨d, us, rfl, .inl ⟨SqL.of ed, fun c nc => ?_⟩⟩
      have s6 := s5.trans (same_new (o := .tup us) nc)
      have ls := si.length
      have lu : us.length = 3 := lu
      refine ⟨N, c, us, sets, rfl, N1, by omega, upd_same, si.mono (sameT_new nc), fun S hS => ?_, by omega, fun H7 v7 r s7 o7 R => ?_⟩
      · obtain ⟨x, m, y, eo, pm, pw⟩ := hs S hS
        exact stretch_set (by omega) poR eo pm pw
      · cases o7 with
        | none =>
          have R : ∀ o', Tells (plainT N) o' → ¬ ∀ S ∈ sets, Tog (setP S) o' := R
          refine absurd (fun S hS => ?_) (R o (plain_tells N1 poR))
          obtain ⟨x, m, y, eo, pm, pw⟩ := hs S hS
          exact tog_stretch (poR.nodup_iff.2 (nodup_range N)) eo pm
        | @some t _ tv =>
          have R : RedSome sets (plainT N) t := R
          exact ⟨v7, t, rfl, s6.trans s7, tv, R.form, R.lv.trans (plain_over N1 (by omega)).perm, by omega⟩
    · exact ⟨v2, two, rfl, Same.refl _, t2, O2⟩
  clear t2 O2 v2 two
  rintro σ' H5 ⟨v2, two, rfl, s5, t2, O2⟩
  have s05 := s04.trans s5
  have e3 := s5 _ _ e3
  have t1 := t1.mono (sameT_of s5)
  have nd2 := O2.nodup
  have l2 := O2.len
  -- common(one, two)
  refine ⟨_, rfl, _, rfl, N, one, two, v1, v2, rfl, t1, t2, O1, O2, fun H6 v6 r s6 o6 C => ?_⟩
  have s06 := s05.trans s6
  have e3 := s6 _ _ e3
  have t1 := t1.mono (sameT_of s6)
  have t2 := t2.mono (sameT_of s6)
  -- if told is not None and not is_tree(told, n)
  refine ⟨fun σ' H' => σ' = [some (.ref a), some (.ref p1), some (.int N), some v1, some (.ref p3), some v2, some v6, none, none, none, none, none, none] ∧ Same H6 H', ?_, ?_⟩
  · cases o6 with
    | none => exact ⟨_, rfl, rfl, false, rfl, iteF (iteF ⟨rfl, Same.refl _⟩)⟩
    | @some c _ tv =>
      have cs : CommonSome one two c := C
      refine ⟨_, rfl, rfl, true, bNF tv.notNone, iteT ?_⟩
      refine ⟨_, rfl, _, rfl, N, c, _, rfl, tv, ⟨cs.form, cs.lv.trans O1.perm, by omega⟩, cs.normal, fun H7 s7 => ⟨true, rfl, iteF ⟨rfl, s7⟩⟩⟩
  rintro σ' H7 ⟨rfl, s7⟩
  have s07 := s06.trans s7
  have e3 := s7 _ _ e3
  have t1 := t1.mono (sameT_of s7)
  have t2 := t2.mono (sameT_of s7)
  have o7 := o6.mono (sameT_of s7)
  have shp : SeqAt.shaped (oD r) = true := by
    cases r with
    | none => exact shaped_none
    | some c =>
      have cs : CommonSome one two c := C
      exact shaped_tree cs.form (by rw [cs.lv.length_eq]; omega)
  -- if common(two, one) != told
  refine ⟨_, rfl, _, rfl, N, two, one, v2, v1, rfl, t2, t1, O2, O1, fun H8 v8 r8 s8 o8 C8 => ?_⟩
  have er : r8 = r := common_same nd1 C C8
  subst er
  refine ⟨_, rfl, oD r8, oD r8, dp_opt o8, dp_opt (o7.mono (sameT_of s8)), shp, shp, false, by rw [eqv_same shp]; rfl, iteF ?_⟩
  have s08 := s07.trans s8
  have e3 := s8 _ _ e3
  have t1 := t1.mono (sameT_of s8)
  have t2 := t2.mono (sameT_of s8)
  have o8 := o7.mono (sameT_of s8)
  -- drawn
  refine ⟨_, rfl, _, rfl, _, rfl, a, ns, 4, rfl, s08.seq hS, fun i4 => ⟨i4, rfl, fun r4 _ => ⟨two, v2, r4, rfl, t2, O2.form, by omega, Nat.le_refl _, fun H9 p9 o9 s9 e9 po9 => ⟨(by show 2 ≤ sizeLine; decide), fun dl ndl => ?_⟩⟩⟩⟩
  have s09 := (s08.trans s9).trans (same_new (o := .lst [.ref p3, .ref p9]) ndl)
  have s89 := s9.trans (same_new (o := .lst [.ref p3, .ref p9]) ndl)
  have t18 := t1
  have t28 := t2
  have o88 := o8
  have e3 := s89 _ _ e3
  have t1 := t1.mono (sameT_of s89)
  have t2 := t2.mono (sameT_of s89)
  have o8 := o8.mono (sameT_of s89)
  have e9 := (same_new (o := .lst [.ref p3, .ref p9]) ndl) _ _ e9
  have lo9 := po9.length_eq
  have or0 : OrdsAt 9 (upd H9 dl (.lst [.ref p3, .ref p9])) [.ref p3, .ref p9] := OrdsAt.app (us := [.ref p3]) (OrdsAt.one e3 (by omega)) (OrdsAt.one e9 (by omega))
  have ndl0 : H8 dl = none := s9.free ndl
  -- if told is not None: drawn.append(..)
  refine ⟨fun σ' H' => ∃ us, σ' = [some (.ref a), some (.ref p1), some (.int N), some v1, some (.ref p3), some v2, some v6, some (.ref dl), none, none, none, none, none] ∧ Same H8 H' ∧ H' dl = some (.lst us) ∧ OrdsAt 9 H' us ∧ 2 ≤ us.length ∧ us.length ≤ 3, ?_, ?_⟩
  · cases o8 with
    | none => exact ⟨_, rfl, rfl, false, rfl, iteF ⟨_, rfl, s89, upd_same, or0, Nat.le_refl _, (by show 2 ≤ 3; decide)⟩⟩
    | @some c _ tv =>
      have cs : CommonSome one two c := C
      have lc := cs.lv.length_eq
      refine ⟨_, rfl, rfl, true, bNF tv.notNone, iteT ?_⟩
      refine ⟨_, rfl, .inl ⟨rfl, _, SqL.of upd_same⟩, _, rfl, _, rfl, a, ns, 5, rfl, s09.seq hS, fun i5 => ⟨i5, rfl, fun r5 _ => ⟨c, _, r5, rfl, tv, cs.form, by omega, Nat.le_refl _, fun H10 p10 o10 s10 e10 po10 => ?_⟩⟩⟩
      have ed := s10 _ _ (upd_same (H := H9) (a := dl) (o := .lst [.ref p3, .ref p9]))
      refine ⟨dl, _, _, rfl, rfl, ed, small1000 (by show 2 ≤ 1000; decide), ?_⟩
      have mm := sameT_lst (o := .lst ([V.ref p3, V.ref p9] ++ [V.ref p10])) ed
      have := po10.length_eq
      exact ⟨_, rfl, same_upd (s89.trans s10) ndl0, upd_same, OrdsAt.app (or0.mono ((sameT_of s10).trans mm)) (OrdsAt.one (mm _ _ e10) (by omega)), (by show 2 ≤ 3; decide), (by show 3 ≤ 3; decide)⟩
  rintro σ' H10 ⟨us0, rfl, s10, ed0, or0, lu2, lu3⟩
  -- for k in range(5)
  refine ⟨_, rfl, by decide, by decide, ?_⟩
  refine for_range (lo := 0) (n := (5 : Int).toNat) (fun k σ H' => ∃ y8 y9 y10 y11 us, σ = [some (.ref a), some (.ref p1), some (.int N), some v1, some (.ref p3), some v2, some v6, some (.ref dl), y8, y9, y10, y11, none] ∧ Same H8 H' ∧ H' dl = some (.lst us) ∧ OrdsAt 9 H' us ∧ 2 + k ≤ us.length ∧ us.length ≤ 3 + k) ⟨_, _, _, _, us0, rfl, s10, ed0, or0, lu2, lu3⟩ ?_ ?_
  · rintro k σ H11 hk ⟨y8, y9, y10, y11, us, rfl, s11, ed, ou, l2', l3'⟩
    have hk : k < 5 := hk
    rw [show ((0 : Int) + (k : Int)) = (k : Int) by omega]
    refine ⟨_, rfl, a, ns, 6, rfl, (s08.trans s11).seq hS, fun i6 => ⟨_, rfl, _, _, rfl, rfl, _, rfl, fun r6 _ => ⟨_, rfl, _, rfl, (by show 2 ≤ sizeLine; decide), fun z6 nz6 => ⟨r6, z6, N, N, rfl, upd_same, by omega, by omega, by omega, by omega, fun H12 p12 x y s12 e12 x0 x1 y0 y1 => ?_⟩⟩⟩⟩
    have s12 := (same_new (o := .lst [.int N, .int N]) nz6).trans s12
    refine ⟨_, rfl, p12, _, 0, _, rfl, rfl, SqL.of e12, rfl, _, rfl, p12, _, 1, _, rfl, rfl, SqL.of e12, rfl, _, _, rfl, ?_⟩
    refine ⟨_, rfl, p12, _, 0, _, rfl, rfl, SqL.of e12, rfl, _, rfl, p12, _, 1, _, rfl, rfl, SqL.of e12, rfl, _, _, rfl, ?_⟩
    obtain ⟨j, h, ej, eh, jh⟩ : ∃ j h : Nat, (if y < x then y else x) = (j : Int) ∧ (if x < y then y else x) + 1 = (h : Int) ∧ j ≤ h := by
      refine ⟨(if y < x then y else x).toNat, ((if x < y then y else x) + 1).toNat, ?_, ?_, ?_⟩ <;> split <;> (try split) <;> omega
    have hlt : k < us.length := by omega
    have hu := List.getElem?_eq_getElem hlt
    obtain ⟨b, ob, eb, hb, lb⟩ := ou _ (List.getElem_mem hlt)
    rw [eb] at hu
    have ed12 := s12 _ _ ed
    have hb12 := s12 _ _ hb
    -- drawn.append(drawn[k][:low] + drawn[k][low:high + 1][::-1] + drawn[k][high + 1:])
    refine ⟨_, rfl, .inl ⟨rfl, _, SqL.of ed12⟩, ?_⟩
    refine ⟨_, rfl, _, rfl, dl, _, _, _, rfl, rfl, SqL.of ed12, atI_nat hu, _, rfl, _, congrArg V.int ej, slA_of hb12 fun H13 p13 s13 e13 => ?_⟩
    rw [cutV_to, ← List.map_take] at e13
    have hb13 := s13 _ _ hb12
    refine ⟨_, rfl, _, rfl, dl, _, _, _, rfl, rfl, SqL.of (s13 _ _ ed12), atI_nat hu, _, rfl, _, congrArg V.int ej, _, rfl, _, _, rfl, rfl, _, congrArg V.int eh, slA_of hb13 fun H14 p14 s14 e14 => ?_⟩
    rw [cutV_any, ← List.map_drop, ← List.map_take] at e14
    refine ⟨p14, _, rfl, SqT.of e14, fun p15 np15 => ?_⟩
    have s15 : Same H14 (upd H14 p15 (.tup (List.map V.int ((ob.drop j).take (h - j))).reverse)) := same_new np15
    refine catA_of (s15 _ _ (s14 _ _ e13)) upd_same (by rw [List.length_reverse, List.length_map, List.length_map, List.length_take, List.length_take, List.length_drop]; omega) fun H16 p16 s16 e16 => ?_
    have s12_16 := ((s13.trans s14).trans s15).trans s16
    refine ⟨_, rfl, _, rfl, dl, _, _, _, rfl, rfl, SqL.of (s12_16 _ _ ed12), atI_nat hu, _, rfl, _, _, rfl, rfl, _, congrArg V.int eh, ?_⟩
    dsimp only [tNoPart]
    refine slA_of (s12_16 _ _ hb12) fun H17 p17 s17 e17 => ?_
    rw [cutV_from, ← List.map_drop] at e17
    refine catA_of (s17 _ _ e16) e17 (by rw [List.length_append, List.length_reverse, List.length_map, List.length_map, List.length_map, List.length_take, List.length_take, List.length_drop, List.length_drop]; omega) fun H18 p18 s18 e18 => ?_
    have s12_18 := (s12_16.trans s17).trans s18
    have e18 : H18 p18 = some (.tup ((ob.take j ++ ((ob.drop j).take (h - j)).reverse ++ ob.drop h).map V.int)) := by rw [e18, List.map_append, List.map_append, List.map_reverse]
    have ed18 := s12_18 _ _ ed12
    refine ⟨dl, us, _, rfl, rfl, ed18, small1000 (by omega), ?_⟩
    have mm := sameT_lst (o := .lst (us ++ [V.ref p18])) ed18
    refine ⟨_, _, _, _, us ++ [.ref p18], rfl, same_upd (s11.trans (s12.trans s12_18)) ndl0, upd_same, ?_, by rw [List.length_append, List.length_singleton]; omega, by rw [List.length_append, List.length_singleton]; omega⟩
    refine OrdsAt.app (ou.mono ((sameT_of (s12.trans s12_18)).trans mm)) (OrdsAt.one (mm _ _ e18) ?_)
    rw [List.length_append, List.length_append, List.length_reverse, List.length_take, List.length_take, List.length_drop, List.length_drop]
    omega
  rintro σ H11 ⟨y8, y9, y10, y11, us, rfl, s11, ed, ou, l2', l3'⟩
  have l3' : us.length ≤ 8 := l3'
  -- if n < 5: drawn = drawn + orders(n)
  refine ⟨fun σ' H' => ∃ d us, σ' = [some (.ref a), some (.ref p1), some (.int N), some v1, some (.ref p3), some v2, some v6, some (.ref d), y8, y9, y10, y11, none] ∧ Same H8 H' ∧ H' d = some (.lst us) ∧ OrdsAt 9 H' us, ?_, ?_⟩
  · refine ⟨_, rfl, _, _, rfl, rfl, _, rfl, ite2 (fun c1 => ?_) (fun c1 => ?_)⟩
    · have c1' : (N : Int) < 5 := of_decide_eq_true c1
      refine ⟨_, rfl, _, rfl, N, rfl, by omega, fun H12 p12 ws s12 e12 ow lw => ?_⟩
      refine ⟨dl, p12, us, ws, rfl, rfl, s12 _ _ ed, e12, sl1000 (by omega), fun p13 n13 => ?_⟩
      have m := sameT_new (o := .lst (us ++ ws)) n13
      exact ⟨p13, us ++ ws, rfl, (s11.trans s12).trans (same_new n13), upd_same, OrdsAt.app (ou.mono ((sameT_of s12).trans m)) ((ow.mono m).le (by decide))⟩
    · exact ⟨dl, us, rfl, s11, ed, ou⟩
  rintro σ' H12 ⟨d, us, rfl, s12, ed, ou⟩
  -- none of the orders is read otherwise
  have m12 := sameT_of s12
  refine ⟨_, rfl, d, rfl, ⟨_, SqL.of ed⟩, fun D1 nD1 => ?_⟩
  refine lc_list (xs := us) (fun i H' => Same H12 H' ∧ H' D1 = some (.lst [])) ⟨same_new nD1, upd_same⟩ ?_ ?_ ?_
  · rintro i H' hi ⟨sm, e⟩
    exact SqL.of (sm _ _ ed)
  · rintro i x H' hx ⟨sm, e⟩
    obtain ⟨b, ob, rfl, hb, lb⟩ := ou x (List.mem_of_getElem? hx)
    have mm := m12.trans (sameT_of sm)
    exact ⟨rfl, _, rfl, _, rfl, _, rfl, _, rfl, one, two, r8, v1, v2, v6, b, ob, rfl, t18.mono mm, t28.mono mm, o88.mono mm, O1.form, O2.form, nd1, nd2, by omega, by omega, C, sm _ _ hb, by omega, fun H13 s13 => ⟨true, rfl, iteF ⟨sm.trans s13, s13 _ _ e⟩⟩⟩
  · rintro H13 ⟨sm, e⟩
    refine ⟨Nat.zero_le _, fun z nz => ?_⟩
    exact eq_lists (ns := []) (ms := []) (SqL.of ((same_new nz) _ _ e)) (SqL.of upd_same) (q _)
end
end K13

/-! K13 W17: the written part's records, the chain of promises. -/
namespace K13
open PySem PySem.Spec PyProof.Rows L2
theorem words_sq {K : Fg} {aW : Addr} {cl : Value} {od : Option Addr} {its : Array Value} {n : Nat} {sl : Array (Option Value)} {t1 t2 : Tok} (l : K.lookup aW = some ⟨cl, od, .seq its n, sl⟩) (hc : cl = .type "tuple") (hi : its.toList = [.str "any" t1, .str "row" t2]) (H : Hp) : SqT K H aW [.str "any", .str "row"] :=
  .inr ⟨_, its, n, l, hc, rfl, by rw [← Array.length_toList, hi]; show 2 ≤ sizeLine; decide, by rw [hi]; exact .cons ⟨t1, rfl⟩ (.cons ⟨t2, rfl⟩ .nil)⟩
theorem d_is_size {K : Fg} {h : Heap} {mg : Str → Option Value} {f : Addr} {od an : Option Addr} {sl : Array (Option Value)} {oc kV dc pm cd ct : Value} (X : K.In h) (G : h.Ns mainGlobals mg)
    (a : PySem.W.nsIn K mainGlobals "is_size" = some (some (.ref f))) (l : K.lookup f = some ⟨oc, od, .func (PySem.W.fnOf "is_size" "is_size" (defArgs s_is_size) (defBody s_is_size) (defScope s_is_size) .none kV dc pm an cd ct), sl⟩) (c : PySem.W.codeIn K cd "is_size" = true) (k : PySem.W.keepIn K (.ref f) = true) :
    Def K mg "is_size" s_is_size ["n"] :=
  have F := fun_mk (st := s_is_size) l c k
  ⟨_, _, F, PySem.W.mg_of X G a, F.binds (ps := ["n"]) fun _ _ _ _ _ _ us hl => match us, hl with | [_], _ => rfl⟩
theorem d_check_things {K : Fg} {h : Heap} {mg : Str → Option Value} {f : Addr} {od an : Option Addr} {sl : Array (Option Value)} {oc kV dc pm cd ct : Value} (X : K.In h) (G : h.Ns mainGlobals mg)
    (a : PySem.W.nsIn K mainGlobals "check_things" = some (some (.ref f))) (l : K.lookup f = some ⟨oc, od, .func (PySem.W.fnOf "check_things" "check_things" (defArgs s_check_things) (defBody s_check_things) (defScope s_check_things) .none kV dc pm an cd ct), sl⟩) (c : PySem.W.codeIn K cd "check_things" = true) (k : PySem.W.keepIn K (.ref f) = true) :
    Def K mg "check_things" s_check_things ["n"] :=
  have F := fun_mk (st := s_check_things) l c k
  ⟨_, _, F, PySem.W.mg_of X G a, F.binds (ps := ["n"]) fun _ _ _ _ _ _ us hl => match us, hl with | [_], _ => rfl⟩
theorem d_is_set {K : Fg} {h : Heap} {mg : Str → Option Value} {f : Addr} {od an : Option Addr} {sl : Array (Option Value)} {oc kV dc pm cd ct : Value} (X : K.In h) (G : h.Ns mainGlobals mg)
    (a : PySem.W.nsIn K mainGlobals "is_set" = some (some (.ref f))) (l : K.lookup f = some ⟨oc, od, .func (PySem.W.fnOf "is_set" "is_set" (defArgs s_is_set) (defBody s_is_set) (defScope s_is_set) .none kV dc pm an cd ct), sl⟩) (c : PySem.W.codeIn K cd "is_set" = true) (k : PySem.W.keepIn K (.ref f) = true) :
    Def K mg "is_set" s_is_set ["n", "chosen"] :=
  have F := fun_mk (st := s_is_set) l c k
  ⟨_, _, F, PySem.W.mg_of X G a, F.binds (ps := ["n", "chosen"]) fun _ _ _ _ _ _ us hl => match us, hl with | [_, _], _ => rfl⟩
theorem d_check_set {K : Fg} {h : Heap} {mg : Str → Option Value} {f : Addr} {od an : Option Addr} {sl : Array (Option Value)} {oc kV dc pm cd ct : Value} (X : K.In h) (G : h.Ns mainGlobals mg)
    (a : PySem.W.nsIn K mainGlobals "check_set" = some (some (.ref f))) (l : K.lookup f = some ⟨oc, od, .func (PySem.W.fnOf "check_set" "check_set" (defArgs s_check_set) (defBody s_check_set) (defScope s_check_set) .none kV dc pm an cd ct), sl⟩) (c : PySem.W.codeIn K cd "check_set" = true) (k : PySem.W.keepIn K (.ref f) = true) :
    Def K mg "check_set" s_check_set ["n", "chosen"] :=
  have F := fun_mk (st := s_check_set) l c k
  ⟨_, _, F, PySem.W.mg_of X G a, F.binds (ps := ["n", "chosen"]) fun _ _ _ _ _ _ us hl => match us, hl with | [_, _], _ => rfl⟩
theorem d_check_table {K : Fg} {h : Heap} {mg : Str → Option Value} {f : Addr} {od an : Option Addr} {sl : Array (Option Value)} {oc kV dc pm cd ct : Value} (X : K.In h) (G : h.Ns mainGlobals mg)
    (a : PySem.W.nsIn K mainGlobals "check_table" = some (some (.ref f))) (l : K.lookup f = some ⟨oc, od, .func (PySem.W.fnOf "check_table" "check_table" (defArgs s_check_table) (defBody s_check_table) (defScope s_check_table) .none kV dc pm an cd ct), sl⟩) (c : PySem.W.codeIn K cd "check_table" = true) (k : PySem.W.keepIn K (.ref f) = true) :
    Def K mg "check_table" s_check_table ["n", "sets"] :=
  have F := fun_mk (st := s_check_table) l c k
  ⟨_, _, F, PySem.W.mg_of X G a, F.binds (ps := ["n", "sets"]) fun _ _ _ _ _ _ us hl => match us, hl with | [_, _], _ => rfl⟩
theorem d_is_thing {K : Fg} {h : Heap} {mg : Str → Option Value} {f : Addr} {od an : Option Addr} {sl : Array (Option Value)} {oc kV dc pm cd ct : Value} (X : K.In h) (G : h.Ns mainGlobals mg)
    (a : PySem.W.nsIn K mainGlobals "is_thing" = some (some (.ref f))) (l : K.lookup f = some ⟨oc, od, .func (PySem.W.fnOf "is_thing" "is_thing" (defArgs s_is_thing) (defBody s_is_thing) (defScope s_is_thing) .none kV dc pm an cd ct), sl⟩) (c : PySem.W.codeIn K cd "is_thing" = true) (k : PySem.W.keepIn K (.ref f) = true) :
    Def K mg "is_thing" s_is_thing ["tree"] :=
  have F := fun_mk (st := s_is_thing) l c k
  ⟨_, _, F, PySem.W.mg_of X G a, F.binds (ps := ["tree"]) fun _ _ _ _ _ _ us hl => match us, hl with | [_], _ => rfl⟩
theorem d_listed {K : Fg} {h : Heap} {mg : Str → Option Value} {f : Addr} {od an : Option Addr} {sl : Array (Option Value)} {oc kV dc pm cd ct : Value} (X : K.In h) (G : h.Ns mainGlobals mg)
    (a : PySem.W.nsIn K mainGlobals "listed" = some (some (.ref f))) (l : K.lookup f = some ⟨oc, od, .func (PySem.W.fnOf "listed" "listed" (defArgs s_listed) (defBody s_listed) (defScope s_listed) .none kV dc pm an cd ct), sl⟩) (c : PySem.W.codeIn K cd "listed" = true) (k : PySem.W.keepIn K (.ref f) = true) :
    Def K mg "listed" s_listed ["tree"] :=
  have F := fun_mk (st := s_listed) l c k
  ⟨_, _, F, PySem.W.mg_of X G a, F.binds (ps := ["tree"]) fun _ _ _ _ _ _ us hl => match us, hl with | [_], _ => rfl⟩
theorem d_least_thing {K : Fg} {h : Heap} {mg : Str → Option Value} {f : Addr} {od an : Option Addr} {sl : Array (Option Value)} {oc kV dc pm cd ct : Value} (X : K.In h) (G : h.Ns mainGlobals mg)
    (a : PySem.W.nsIn K mainGlobals "least_thing" = some (some (.ref f))) (l : K.lookup f = some ⟨oc, od, .func (PySem.W.fnOf "least_thing" "least_thing" (defArgs s_least_thing) (defBody s_least_thing) (defScope s_least_thing) .none kV dc pm an cd ct), sl⟩) (c : PySem.W.codeIn K cd "least_thing" = true) (k : PySem.W.keepIn K (.ref f) = true) :
    Def K mg "least_thing" s_least_thing ["tree"] :=
  have F := fun_mk (st := s_least_thing) l c k
  ⟨_, _, F, PySem.W.mg_of X G a, F.binds (ps := ["tree"]) fun _ _ _ _ _ _ us hl => match us, hl with | [_], _ => rfl⟩
theorem d_has_form {K : Fg} {h : Heap} {mg : Str → Option Value} {f : Addr} {od an : Option Addr} {sl : Array (Option Value)} {oc kV dc pm cd ct : Value} (X : K.In h) (G : h.Ns mainGlobals mg)
    (a : PySem.W.nsIn K mainGlobals "has_form" = some (some (.ref f))) (l : K.lookup f = some ⟨oc, od, .func (PySem.W.fnOf "has_form" "has_form" (defArgs s_has_form) (defBody s_has_form) (defScope s_has_form) .none kV dc pm an cd ct), sl⟩) (c : PySem.W.codeIn K cd "has_form" = true) (k : PySem.W.keepIn K (.ref f) = true) :
    Def K mg "has_form" s_has_form ["tree"] :=
  have F := fun_mk (st := s_has_form) l c k
  ⟨_, _, F, PySem.W.mg_of X G a, F.binds (ps := ["tree"]) fun _ _ _ _ _ _ us hl => match us, hl with | [_], _ => rfl⟩
theorem d_check_tree {K : Fg} {h : Heap} {mg : Str → Option Value} {f : Addr} {od an : Option Addr} {sl : Array (Option Value)} {oc kV dc pm cd ct : Value} (X : K.In h) (G : h.Ns mainGlobals mg)
    (a : PySem.W.nsIn K mainGlobals "check_tree" = some (some (.ref f))) (l : K.lookup f = some ⟨oc, od, .func (PySem.W.fnOf "check_tree" "check_tree" (defArgs s_check_tree) (defBody s_check_tree) (defScope s_check_tree) .none kV dc pm an cd ct), sl⟩) (c : PySem.W.codeIn K cd "check_tree" = true) (k : PySem.W.keepIn K (.ref f) = true) :
    Def K mg "check_tree" s_check_tree ["n", "tree"] :=
  have F := fun_mk (st := s_check_tree) l c k
  ⟨_, _, F, PySem.W.mg_of X G a, F.binds (ps := ["n", "tree"]) fun _ _ _ _ _ _ us hl => match us, hl with | [_, _], _ => rfl⟩
theorem d_need_tree {K : Fg} {h : Heap} {mg : Str → Option Value} {f : Addr} {od an : Option Addr} {sl : Array (Option Value)} {oc kV dc pm cd ct : Value} (X : K.In h) (G : h.Ns mainGlobals mg)
    (a : PySem.W.nsIn K mainGlobals "need_tree" = some (some (.ref f))) (l : K.lookup f = some ⟨oc, od, .func (PySem.W.fnOf "need_tree" "need_tree" (defArgs s_need_tree) (defBody s_need_tree) (defScope s_need_tree) .none kV dc pm an cd ct), sl⟩) (c : PySem.W.codeIn K cd "need_tree" = true) (k : PySem.W.keepIn K (.ref f) = true) :
    Def K mg "need_tree" s_need_tree ["tree"] :=
  have F := fun_mk (st := s_need_tree) l c k
  ⟨_, _, F, PySem.W.mg_of X G a, F.binds (ps := ["tree"]) fun _ _ _ _ _ _ us hl => match us, hl with | [_], _ => rfl⟩
theorem d_things_of {K : Fg} {h : Heap} {mg : Str → Option Value} {f : Addr} {od an : Option Addr} {sl : Array (Option Value)} {oc kV dc pm cd ct : Value} (X : K.In h) (G : h.Ns mainGlobals mg)
    (a : PySem.W.nsIn K mainGlobals "things_of" = some (some (.ref f))) (l : K.lookup f = some ⟨oc, od, .func (PySem.W.fnOf "things_of" "things_of" (defArgs s_things_of) (defBody s_things_of) (defScope s_things_of) .none kV dc pm an cd ct), sl⟩) (c : PySem.W.codeIn K cd "things_of" = true) (k : PySem.W.keepIn K (.ref f) = true) :
    Def K mg "things_of" s_things_of ["tree"] :=
  have F := fun_mk (st := s_things_of) l c k
  ⟨_, _, F, PySem.W.mg_of X G a, F.binds (ps := ["tree"]) fun _ _ _ _ _ _ us hl => match us, hl with | [_], _ => rfl⟩
theorem d_make_any {K : Fg} {h : Heap} {mg : Str → Option Value} {f : Addr} {od an : Option Addr} {sl : Array (Option Value)} {oc kV dc pm cd ct : Value} (X : K.In h) (G : h.Ns mainGlobals mg)
    (a : PySem.W.nsIn K mainGlobals "make_any" = some (some (.ref f))) (l : K.lookup f = some ⟨oc, od, .func (PySem.W.fnOf "make_any" "make_any" (defArgs s_make_any) (defBody s_make_any) (defScope s_make_any) .none kV dc pm an cd ct), sl⟩) (c : PySem.W.codeIn K cd "make_any" = true) (k : PySem.W.keepIn K (.ref f) = true) :
    Def K mg "make_any" s_make_any ["parts"] :=
  have F := fun_mk (st := s_make_any) l c k
  ⟨_, _, F, PySem.W.mg_of X G a, F.binds (ps := ["parts"]) fun _ _ _ _ _ _ us hl => match us, hl with | [_], _ => rfl⟩
theorem d_make_row {K : Fg} {h : Heap} {mg : Str → Option Value} {f : Addr} {od an : Option Addr} {sl : Array (Option Value)} {oc kV dc pm cd ct : Value} (X : K.In h) (G : h.Ns mainGlobals mg)
    (a : PySem.W.nsIn K mainGlobals "make_row" = some (some (.ref f))) (l : K.lookup f = some ⟨oc, od, .func (PySem.W.fnOf "make_row" "make_row" (defArgs s_make_row) (defBody s_make_row) (defScope s_make_row) .none kV dc pm an cd ct), sl⟩) (c : PySem.W.codeIn K cd "make_row" = true) (k : PySem.W.keepIn K (.ref f) = true) :
    Def K mg "make_row" s_make_row ["parts"] :=
  have F := fun_mk (st := s_make_row) l c k
  ⟨_, _, F, PySem.W.mg_of X G a, F.binds (ps := ["parts"]) fun _ _ _ _ _ _ us hl => match us, hl with | [_], _ => rfl⟩
theorem d_normalized {K : Fg} {h : Heap} {mg : Str → Option Value} {f : Addr} {od an : Option Addr} {sl : Array (Option Value)} {oc kV dc pm cd ct : Value} (X : K.In h) (G : h.Ns mainGlobals mg)
    (a : PySem.W.nsIn K mainGlobals "normalized" = some (some (.ref f))) (l : K.lookup f = some ⟨oc, od, .func (PySem.W.fnOf "normalized" "normalized" (defArgs s_normalized) (defBody s_normalized) (defScope s_normalized) .none kV dc pm an cd ct), sl⟩) (c : PySem.W.codeIn K cd "normalized" = true) (k : PySem.W.keepIn K (.ref f) = true) :
    Def K mg "normalized" s_normalized ["tree"] :=
  have F := fun_mk (st := s_normalized) l c k
  ⟨_, _, F, PySem.W.mg_of X G a, F.binds (ps := ["tree"]) fun _ _ _ _ _ _ us hl => match us, hl with | [_], _ => rfl⟩
theorem d_plain_tree {K : Fg} {h : Heap} {mg : Str → Option Value} {f : Addr} {od an : Option Addr} {sl : Array (Option Value)} {oc kV dc pm cd ct : Value} (X : K.In h) (G : h.Ns mainGlobals mg)
    (a : PySem.W.nsIn K mainGlobals "plain_tree" = some (some (.ref f))) (l : K.lookup f = some ⟨oc, od, .func (PySem.W.fnOf "plain_tree" "plain_tree" (defArgs s_plain_tree) (defBody s_plain_tree) (defScope s_plain_tree) .none kV dc pm an cd ct), sl⟩) (c : PySem.W.codeIn K cd "plain_tree" = true) (k : PySem.W.keepIn K (.ref f) = true) :
    Def K mg "plain_tree" s_plain_tree ["n"] :=
  have F := fun_mk (st := s_plain_tree) l c k
  ⟨_, _, F, PySem.W.mg_of X G a, F.binds (ps := ["n"]) fun _ _ _ _ _ _ us hl => match us, hl with | [_], _ => rfl⟩
theorem d_collect_sets {K : Fg} {h : Heap} {mg : Str → Option Value} {f : Addr} {od an : Option Addr} {sl : Array (Option Value)} {oc kV dc pm cd ct : Value} (X : K.In h) (G : h.Ns mainGlobals mg)
    (a : PySem.W.nsIn K mainGlobals "collect_sets" = some (some (.ref f))) (l : K.lookup f = some ⟨oc, od, .func (PySem.W.fnOf "collect_sets" "collect_sets" (defArgs s_collect_sets) (defBody s_collect_sets) (defScope s_collect_sets) .none kV dc pm an cd ct), sl⟩) (c : PySem.W.codeIn K cd "collect_sets" = true) (k : PySem.W.keepIn K (.ref f) = true) :
    Def K mg "collect_sets" s_collect_sets ["tree", "found"] :=
  have F := fun_mk (st := s_collect_sets) l c k
  ⟨_, _, F, PySem.W.mg_of X G a, F.binds (ps := ["tree", "found"]) fun _ _ _ _ _ _ us hl => match us, hl with | [_, _], _ => rfl⟩
theorem d_sets_of {K : Fg} {h : Heap} {mg : Str → Option Value} {f : Addr} {od an : Option Addr} {sl : Array (Option Value)} {oc kV dc pm cd ct : Value} (X : K.In h) (G : h.Ns mainGlobals mg)
    (a : PySem.W.nsIn K mainGlobals "sets_of" = some (some (.ref f))) (l : K.lookup f = some ⟨oc, od, .func (PySem.W.fnOf "sets_of" "sets_of" (defArgs s_sets_of) (defBody s_sets_of) (defScope s_sets_of) .none kV dc pm an cd ct), sl⟩) (c : PySem.W.codeIn K cd "sets_of" = true) (k : PySem.W.keepIn K (.ref f) = true) :
    Def K mg "sets_of" s_sets_of ["tree"] :=
  have F := fun_mk (st := s_sets_of) l c k
  ⟨_, _, F, PySem.W.mg_of X G a, F.binds (ps := ["tree"]) fun _ _ _ _ _ _ us hl => match us, hl with | [_], _ => rfl⟩
theorem d_share {K : Fg} {h : Heap} {mg : Str → Option Value} {f : Addr} {od an : Option Addr} {sl : Array (Option Value)} {oc kV dc pm cd ct : Value} (X : K.In h) (G : h.Ns mainGlobals mg)
    (a : PySem.W.nsIn K mainGlobals "share" = some (some (.ref f))) (l : K.lookup f = some ⟨oc, od, .func (PySem.W.fnOf "share" "share" (defArgs s_share) (defBody s_share) (defScope s_share) .none kV dc pm an cd ct), sl⟩) (c : PySem.W.codeIn K cd "share" = true) (k : PySem.W.keepIn K (.ref f) = true) :
    Def K mg "share" s_share ["tree", "chosen"] :=
  have F := fun_mk (st := s_share) l c k
  ⟨_, _, F, PySem.W.mg_of X G a, F.binds (ps := ["tree", "chosen"]) fun _ _ _ _ _ _ us hl => match us, hl with | [_, _], _ => rfl⟩
theorem d_with_share {K : Fg} {h : Heap} {mg : Str → Option Value} {f : Addr} {od an : Option Addr} {sl : Array (Option Value)} {oc kV dc pm cd ct : Value} (X : K.In h) (G : h.Ns mainGlobals mg)
    (a : PySem.W.nsIn K mainGlobals "with_share" = some (some (.ref f))) (l : K.lookup f = some ⟨oc, od, .func (PySem.W.fnOf "with_share" "with_share" (defArgs s_with_share) (defBody s_with_share) (defScope s_with_share) .none kV dc pm an cd ct), sl⟩) (c : PySem.W.codeIn K cd "with_share" = true) (k : PySem.W.keepIn K (.ref f) = true) :
    Def K mg "with_share" s_with_share ["parts", "chosen", "wanted"] :=
  have F := fun_mk (st := s_with_share) l c k
  ⟨_, _, F, PySem.W.mg_of X G a, F.binds (ps := ["parts", "chosen", "wanted"]) fun _ _ _ _ _ _ us hl => match us, hl with | [_, _, _], _ => rfl⟩
theorem d_split_any {K : Fg} {h : Heap} {mg : Str → Option Value} {f : Addr} {od an : Option Addr} {sl : Array (Option Value)} {oc kV dc pm cd ct : Value} (X : K.In h) (G : h.Ns mainGlobals mg)
    (a : PySem.W.nsIn K mainGlobals "split_any" = some (some (.ref f))) (l : K.lookup f = some ⟨oc, od, .func (PySem.W.fnOf "split_any" "split_any" (defArgs s_split_any) (defBody s_split_any) (defScope s_split_any) .none kV dc pm an cd ct), sl⟩) (c : PySem.W.codeIn K cd "split_any" = true) (k : PySem.W.keepIn K (.ref f) = true) :
    Def K mg "split_any" s_split_any ["parts", "chosen"] :=
  have F := fun_mk (st := s_split_any) l c k
  ⟨_, _, F, PySem.W.mg_of X G a, F.binds (ps := ["parts", "chosen"]) fun _ _ _ _ _ _ us hl => match us, hl with | [_, _], _ => rfl⟩
theorem d_ascends {K : Fg} {h : Heap} {mg : Str → Option Value} {f : Addr} {od an : Option Addr} {sl : Array (Option Value)} {oc kV dc pm cd ct : Value} (X : K.In h) (G : h.Ns mainGlobals mg)
    (a : PySem.W.nsIn K mainGlobals "ascends" = some (some (.ref f))) (l : K.lookup f = some ⟨oc, od, .func (PySem.W.fnOf "ascends" "ascends" (defArgs s_ascends) (defBody s_ascends) (defScope s_ascends) .none kV dc pm an cd ct), sl⟩) (c : PySem.W.codeIn K cd "ascends" = true) (k : PySem.W.keepIn K (.ref f) = true) :
    Def K mg "ascends" s_ascends ["shares"] :=
  have F := fun_mk (st := s_ascends) l c k
  ⟨_, _, F, PySem.W.mg_of X G a, F.binds (ps := ["shares"]) fun _ _ _ _ _ _ us hl => match us, hl with | [_], _ => rfl⟩
theorem d_split_row {K : Fg} {h : Heap} {mg : Str → Option Value} {f : Addr} {od an : Option Addr} {sl : Array (Option Value)} {oc kV dc pm cd ct : Value} (X : K.In h) (G : h.Ns mainGlobals mg)
    (a : PySem.W.nsIn K mainGlobals "split_row" = some (some (.ref f))) (l : K.lookup f = some ⟨oc, od, .func (PySem.W.fnOf "split_row" "split_row" (defArgs s_split_row) (defBody s_split_row) (defScope s_split_row) .none kV dc pm an cd ct), sl⟩) (c : PySem.W.codeIn K cd "split_row" = true) (k : PySem.W.keepIn K (.ref f) = true) :
    Def K mg "split_row" s_split_row ["parts", "chosen"] :=
  have F := fun_mk (st := s_split_row) l c k
  ⟨_, _, F, PySem.W.mg_of X G a, F.binds (ps := ["parts", "chosen"]) fun _ _ _ _ _ _ us hl => match us, hl with | [_, _], _ => rfl⟩
theorem d_split {K : Fg} {h : Heap} {mg : Str → Option Value} {f : Addr} {od an : Option Addr} {sl : Array (Option Value)} {oc kV dc pm cd ct : Value} (X : K.In h) (G : h.Ns mainGlobals mg)
    (a : PySem.W.nsIn K mainGlobals "split" = some (some (.ref f))) (l : K.lookup f = some ⟨oc, od, .func (PySem.W.fnOf "split" "split" (defArgs s_split) (defBody s_split) (defScope s_split) .none kV dc pm an cd ct), sl⟩) (c : PySem.W.codeIn K cd "split" = true) (k : PySem.W.keepIn K (.ref f) = true) :
    Def K mg "split" s_split ["tree", "chosen"] :=
  have F := fun_mk (st := s_split) l c k
  ⟨_, _, F, PySem.W.mg_of X G a, F.binds (ps := ["tree", "chosen"]) fun _ _ _ _ _ _ us hl => match us, hl with | [_, _], _ => rfl⟩
theorem d_joined_any {K : Fg} {h : Heap} {mg : Str → Option Value} {f : Addr} {od an : Option Addr} {sl : Array (Option Value)} {oc kV dc pm cd ct : Value} (X : K.In h) (G : h.Ns mainGlobals mg)
    (a : PySem.W.nsIn K mainGlobals "joined_any" = some (some (.ref f))) (l : K.lookup f = some ⟨oc, od, .func (PySem.W.fnOf "joined_any" "joined_any" (defArgs s_joined_any) (defBody s_joined_any) (defScope s_joined_any) .none kV dc pm an cd ct), sl⟩) (c : PySem.W.codeIn K cd "joined_any" = true) (k : PySem.W.keepIn K (.ref f) = true) :
    Def K mg "joined_any" s_joined_any ["parts", "chosen"] :=
  have F := fun_mk (st := s_joined_any) l c k
  ⟨_, _, F, PySem.W.mg_of X G a, F.binds (ps := ["parts", "chosen"]) fun _ _ _ _ _ _ us hl => match us, hl with | [_, _], _ => rfl⟩
theorem d_joined_row {K : Fg} {h : Heap} {mg : Str → Option Value} {f : Addr} {od an : Option Addr} {sl : Array (Option Value)} {oc kV dc pm cd ct : Value} (X : K.In h) (G : h.Ns mainGlobals mg)
    (a : PySem.W.nsIn K mainGlobals "joined_row" = some (some (.ref f))) (l : K.lookup f = some ⟨oc, od, .func (PySem.W.fnOf "joined_row" "joined_row" (defArgs s_joined_row) (defBody s_joined_row) (defScope s_joined_row) .none kV dc pm an cd ct), sl⟩) (c : PySem.W.codeIn K cd "joined_row" = true) (k : PySem.W.keepIn K (.ref f) = true) :
    Def K mg "joined_row" s_joined_row ["parts", "chosen"] :=
  have F := fun_mk (st := s_joined_row) l c k
  ⟨_, _, F, PySem.W.mg_of X G a, F.binds (ps := ["parts", "chosen"]) fun _ _ _ _ _ _ us hl => match us, hl with | [_, _], _ => rfl⟩
theorem d_joined {K : Fg} {h : Heap} {mg : Str → Option Value} {f : Addr} {od an : Option Addr} {sl : Array (Option Value)} {oc kV dc pm cd ct : Value} (X : K.In h) (G : h.Ns mainGlobals mg)
    (a : PySem.W.nsIn K mainGlobals "joined" = some (some (.ref f))) (l : K.lookup f = some ⟨oc, od, .func (PySem.W.fnOf "joined" "joined" (defArgs s_joined) (defBody s_joined) (defScope s_joined) .none kV dc pm an cd ct), sl⟩) (c : PySem.W.codeIn K cd "joined" = true) (k : PySem.W.keepIn K (.ref f) = true) :
    Def K mg "joined" s_joined ["tree", "chosen"] :=
  have F := fun_mk (st := s_joined) l c k
  ⟨_, _, F, PySem.W.mg_of X G a, F.binds (ps := ["tree", "chosen"]) fun _ _ _ _ _ _ us hl => match us, hl with | [_, _], _ => rfl⟩
theorem d_reduced_by {K : Fg} {h : Heap} {mg : Str → Option Value} {f : Addr} {od an : Option Addr} {sl : Array (Option Value)} {oc kV dc pm cd ct : Value} (X : K.In h) (G : h.Ns mainGlobals mg)
    (a : PySem.W.nsIn K mainGlobals "reduced_by" = some (some (.ref f))) (l : K.lookup f = some ⟨oc, od, .func (PySem.W.fnOf "reduced_by" "reduced_by" (defArgs s_reduced_by) (defBody s_reduced_by) (defScope s_reduced_by) .none kV dc pm an cd ct), sl⟩) (c : PySem.W.codeIn K cd "reduced_by" = true) (k : PySem.W.keepIn K (.ref f) = true) :
    Def K mg "reduced_by" s_reduced_by ["tree", "chosen"] :=
  have F := fun_mk (st := s_reduced_by) l c k
  ⟨_, _, F, PySem.W.mg_of X G a, F.binds (ps := ["tree", "chosen"]) fun _ _ _ _ _ _ us hl => match us, hl with | [_, _], _ => rfl⟩
theorem d_reduced_by_all {K : Fg} {h : Heap} {mg : Str → Option Value} {f : Addr} {od an : Option Addr} {sl : Array (Option Value)} {oc kV dc pm cd ct : Value} (X : K.In h) (G : h.Ns mainGlobals mg)
    (a : PySem.W.nsIn K mainGlobals "reduced_by_all" = some (some (.ref f))) (l : K.lookup f = some ⟨oc, od, .func (PySem.W.fnOf "reduced_by_all" "reduced_by_all" (defArgs s_reduced_by_all) (defBody s_reduced_by_all) (defScope s_reduced_by_all) .none kV dc pm an cd ct), sl⟩) (c : PySem.W.codeIn K cd "reduced_by_all" = true) (k : PySem.W.keepIn K (.ref f) = true) :
    Def K mg "reduced_by_all" s_reduced_by_all ["tree", "sets"] :=
  have F := fun_mk (st := s_reduced_by_all) l c k
  ⟨_, _, F, PySem.W.mg_of X G a, F.binds (ps := ["tree", "sets"]) fun _ _ _ _ _ _ us hl => match us, hl with | [_, _], _ => rfl⟩
theorem d_tree_of {K : Fg} {h : Heap} {mg : Str → Option Value} {f : Addr} {od an : Option Addr} {sl : Array (Option Value)} {oc kV dc pm cd ct : Value} (X : K.In h) (G : h.Ns mainGlobals mg)
    (a : PySem.W.nsIn K mainGlobals "tree_of" = some (some (.ref f))) (l : K.lookup f = some ⟨oc, od, .func (PySem.W.fnOf "tree_of" "tree_of" (defArgs s_tree_of) (defBody s_tree_of) (defScope s_tree_of) .none kV dc pm an cd ct), sl⟩) (c : PySem.W.codeIn K cd "tree_of" = true) (k : PySem.W.keepIn K (.ref f) = true) :
    Def K mg "tree_of" s_tree_of ["n", "sets"] :=
  have F := fun_mk (st := s_tree_of) l c k
  ⟨_, _, F, PySem.W.mg_of X G a, F.binds (ps := ["n", "sets"]) fun _ _ _ _ _ _ us hl => match us, hl with | [_, _], _ => rfl⟩
theorem d_common {K : Fg} {h : Heap} {mg : Str → Option Value} {f : Addr} {od an : Option Addr} {sl : Array (Option Value)} {oc kV dc pm cd ct : Value} (X : K.In h) (G : h.Ns mainGlobals mg)
    (a : PySem.W.nsIn K mainGlobals "common" = some (some (.ref f))) (l : K.lookup f = some ⟨oc, od, .func (PySem.W.fnOf "common" "common" (defArgs s_common) (defBody s_common) (defScope s_common) .none kV dc pm an cd ct), sl⟩) (c : PySem.W.codeIn K cd "common" = true) (k : PySem.W.keepIn K (.ref f) = true) :
    Def K mg "common" s_common ["tree", "other"] :=
  have F := fun_mk (st := s_common) l c k
  ⟨_, _, F, PySem.W.mg_of X G a, F.binds (ps := ["tree", "other"]) fun _ _ _ _ _ _ us hl => match us, hl with | [_, _], _ => rfl⟩
theorem d__law_cell {K : Fg} {h : Heap} {mg : Str → Option Value} {f : Addr} {od an : Option Addr} {sl : Array (Option Value)} {oc kV dc pm cd ct : Value} (X : K.In h) (G : h.Ns mainGlobals mg)
    (a : PySem.W.nsIn K mainGlobals "_law_cell" = some (some (.ref f))) (l : K.lookup f = some ⟨oc, od, .func (PySem.W.fnOf "_law_cell" "_law_cell" (defArgs s__law_cell) (defBody s__law_cell) (defScope s__law_cell) .none kV dc pm an cd ct), sl⟩) (c : PySem.W.codeIn K cd "_law_cell" = true) (k : PySem.W.keepIn K (.ref f) = true) :
    Def K mg "_law_cell" s__law_cell ["_law_script", "_law_k"] :=
  have F := fun_mk (st := s__law_cell) l c k
  ⟨_, _, F, PySem.W.mg_of X G a, F.binds (ps := ["_law_script", "_law_k"]) fun _ _ _ _ _ _ us hl => match us, hl with | [_, _], _ => rfl⟩
theorem d__law_digits {K : Fg} {h : Heap} {mg : Str → Option Value} {f : Addr} {od an : Option Addr} {sl : Array (Option Value)} {oc kV dc pm cd ct : Value} (X : K.In h) (G : h.Ns mainGlobals mg)
    (a : PySem.W.nsIn K mainGlobals "_law_digits" = some (some (.ref f))) (l : K.lookup f = some ⟨oc, od, .func (PySem.W.fnOf "_law_digits" "_law_digits" (defArgs s__law_digits) (defBody s__law_digits) (defScope s__law_digits) .none kV dc pm an cd ct), sl⟩) (c : PySem.W.codeIn K cd "_law_digits" = true) (k : PySem.W.keepIn K (.ref f) = true) :
    Def K mg "_law_digits" s__law_digits ["_law_cell_here", "_law_sizes"] :=
  have F := fun_mk (st := s__law_digits) l c k
  ⟨_, _, F, PySem.W.mg_of X G a, F.binds (ps := ["_law_cell_here", "_law_sizes"]) fun _ _ _ _ _ _ us hl => match us, hl with | [_, _], _ => rfl⟩
theorem d__law_rich {K : Fg} {h : Heap} {mg : Str → Option Value} {f : Addr} {od an : Option Addr} {sl : Array (Option Value)} {oc kV dc pm cd ct : Value} (X : K.In h) (G : h.Ns mainGlobals mg)
    (a : PySem.W.nsIn K mainGlobals "_law_rich" = some (some (.ref f))) (l : K.lookup f = some ⟨oc, od, .func (PySem.W.fnOf "_law_rich" "_law_rich" (defArgs s__law_rich) (defBody s__law_rich) (defScope s__law_rich) .none kV dc pm an cd ct), sl⟩) (c : PySem.W.codeIn K cd "_law_rich" = true) (k : PySem.W.keepIn K (.ref f) = true) :
    Def K mg "_law_rich" s__law_rich ["_law_cell_here"] :=
  have F := fun_mk (st := s__law_rich) l c k
  ⟨_, _, F, PySem.W.mg_of X G a, F.binds (ps := ["_law_cell_here"]) fun _ _ _ _ _ _ us hl => match us, hl with | [_], _ => rfl⟩
theorem d__law_order {K : Fg} {h : Heap} {mg : Str → Option Value} {f : Addr} {od an : Option Addr} {sl : Array (Option Value)} {oc kV dc pm cd ct : Value} (X : K.In h) (G : h.Ns mainGlobals mg)
    (a : PySem.W.nsIn K mainGlobals "_law_order" = some (some (.ref f))) (l : K.lookup f = some ⟨oc, od, .func (PySem.W.fnOf "_law_order" "_law_order" (defArgs s__law_order) (defBody s__law_order) (defScope s__law_order) .none kV dc pm an cd ct), sl⟩) (c : PySem.W.codeIn K cd "_law_order" = true) (k : PySem.W.keepIn K (.ref f) = true) :
    Def K mg "_law_order" s__law_order ["_law_cell_here", "_law_n"] :=
  have F := fun_mk (st := s__law_order) l c k
  ⟨_, _, F, PySem.W.mg_of X G a, F.binds (ps := ["_law_cell_here", "_law_n"]) fun _ _ _ _ _ _ us hl => match us, hl with | [_, _], _ => rfl⟩
theorem d__law_stretch {K : Fg} {h : Heap} {mg : Str → Option Value} {f : Addr} {od an : Option Addr} {sl : Array (Option Value)} {oc kV dc pm cd ct : Value} (X : K.In h) (G : h.Ns mainGlobals mg)
    (a : PySem.W.nsIn K mainGlobals "_law_stretch" = some (some (.ref f))) (l : K.lookup f = some ⟨oc, od, .func (PySem.W.fnOf "_law_stretch" "_law_stretch" (defArgs s__law_stretch) (defBody s__law_stretch) (defScope s__law_stretch) .none kV dc pm an cd ct), sl⟩) (c : PySem.W.codeIn K cd "_law_stretch" = true) (k : PySem.W.keepIn K (.ref f) = true) :
    Def K mg "_law_stretch" s__law_stretch ["_law_cell_here", "_law_order_here"] :=
  have F := fun_mk (st := s__law_stretch) l c k
  ⟨_, _, F, PySem.W.mg_of X G a, F.binds (ps := ["_law_cell_here", "_law_order_here"]) fun _ _ _ _ _ _ us hl => match us, hl with | [_, _], _ => rfl⟩
theorem d__law_things {K : Fg} {h : Heap} {mg : Str → Option Value} {f : Addr} {od an : Option Addr} {sl : Array (Option Value)} {oc kV dc pm cd ct : Value} (X : K.In h) (G : h.Ns mainGlobals mg)
    (a : PySem.W.nsIn K mainGlobals "_law_things" = some (some (.ref f))) (l : K.lookup f = some ⟨oc, od, .func (PySem.W.fnOf "_law_things" "_law_things" (defArgs s__law_things) (defBody s__law_things) (defScope s__law_things) .none kV dc pm an cd ct), sl⟩) (c : PySem.W.codeIn K cd "_law_things" = true) (k : PySem.W.keepIn K (.ref f) = true) :
    Def K mg "_law_things" s__law_things ["_law_tree_here"] :=
  have F := fun_mk (st := s__law_things) l c k
  ⟨_, _, F, PySem.W.mg_of X G a, F.binds (ps := ["_law_tree_here"]) fun _ _ _ _ _ _ us hl => match us, hl with | [_], _ => rfl⟩
theorem d__law_told {K : Fg} {h : Heap} {mg : Str → Option Value} {f : Addr} {od an : Option Addr} {sl : Array (Option Value)} {oc kV dc pm cd ct : Value} (X : K.In h) (G : h.Ns mainGlobals mg)
    (a : PySem.W.nsIn K mainGlobals "_law_told" = some (some (.ref f))) (l : K.lookup f = some ⟨oc, od, .func (PySem.W.fnOf "_law_told" "_law_told" (defArgs s__law_told) (defBody s__law_told) (defScope s__law_told) .none kV dc pm an cd ct), sl⟩) (c : PySem.W.codeIn K cd "_law_told" = true) (k : PySem.W.keepIn K (.ref f) = true) :
    Def K mg "_law_told" s__law_told ["_law_tree_here", "_law_order_here"] :=
  have F := fun_mk (st := s__law_told) l c k
  ⟨_, _, F, PySem.W.mg_of X G a, F.binds (ps := ["_law_tree_here", "_law_order_here"]) fun _ _ _ _ _ _ us hl => match us, hl with | [_, _], _ => rfl⟩
theorem d__law_tree {K : Fg} {h : Heap} {mg : Str → Option Value} {f : Addr} {od an : Option Addr} {sl : Array (Option Value)} {oc kV dc pm cd ct : Value} (X : K.In h) (G : h.Ns mainGlobals mg)
    (a : PySem.W.nsIn K mainGlobals "_law_tree" = some (some (.ref f))) (l : K.lookup f = some ⟨oc, od, .func (PySem.W.fnOf "_law_tree" "_law_tree" (defArgs s__law_tree) (defBody s__law_tree) (defScope s__law_tree) .none kV dc pm an cd ct), sl⟩) (c : PySem.W.codeIn K cd "_law_tree" = true) (k : PySem.W.keepIn K (.ref f) = true) :
    Def K mg "_law_tree" s__law_tree ["_law_cell_here", "_law_n"] :=
  have F := fun_mk (st := s__law_tree) l c k
  ⟨_, _, F, PySem.W.mg_of X G a, F.binds (ps := ["_law_cell_here", "_law_n"]) fun _ _ _ _ _ _ us hl => match us, hl with | [_, _], _ => rfl⟩
theorem d__law_shuffled {K : Fg} {h : Heap} {mg : Str → Option Value} {f : Addr} {od an : Option Addr} {sl : Array (Option Value)} {oc kV dc pm cd ct : Value} (X : K.In h) (G : h.Ns mainGlobals mg)
    (a : PySem.W.nsIn K mainGlobals "_law_shuffled" = some (some (.ref f))) (l : K.lookup f = some ⟨oc, od, .func (PySem.W.fnOf "_law_shuffled" "_law_shuffled" (defArgs s__law_shuffled) (defBody s__law_shuffled) (defScope s__law_shuffled) .none kV dc pm an cd ct), sl⟩) (c : PySem.W.codeIn K cd "_law_shuffled" = true) (k : PySem.W.keepIn K (.ref f) = true) :
    Def K mg "_law_shuffled" s__law_shuffled ["_law_tree_here", "_law_cell_here"] :=
  have F := fun_mk (st := s__law_shuffled) l c k
  ⟨_, _, F, PySem.W.mg_of X G a, F.binds (ps := ["_law_tree_here", "_law_cell_here"]) fun _ _ _ _ _ _ us hl => match us, hl with | [_, _], _ => rfl⟩
theorem d__law_is_normal {K : Fg} {h : Heap} {mg : Str → Option Value} {f : Addr} {od an : Option Addr} {sl : Array (Option Value)} {oc kV dc pm cd ct : Value} (X : K.In h) (G : h.Ns mainGlobals mg)
    (a : PySem.W.nsIn K mainGlobals "_law_is_normal" = some (some (.ref f))) (l : K.lookup f = some ⟨oc, od, .func (PySem.W.fnOf "_law_is_normal" "_law_is_normal" (defArgs s__law_is_normal) (defBody s__law_is_normal) (defScope s__law_is_normal) .none kV dc pm an cd ct), sl⟩) (c : PySem.W.codeIn K cd "_law_is_normal" = true) (k : PySem.W.keepIn K (.ref f) = true) :
    Def K mg "_law_is_normal" s__law_is_normal ["_law_tree_here"] :=
  have F := fun_mk (st := s__law_is_normal) l c k
  ⟨_, _, F, PySem.W.mg_of X G a, F.binds (ps := ["_law_tree_here"]) fun _ _ _ _ _ _ us hl => match us, hl with | [_], _ => rfl⟩
theorem d__law_is_tree {K : Fg} {h : Heap} {mg : Str → Option Value} {f : Addr} {od an : Option Addr} {sl : Array (Option Value)} {oc kV dc pm cd ct : Value} (X : K.In h) (G : h.Ns mainGlobals mg)
    (a : PySem.W.nsIn K mainGlobals "_law_is_tree" = some (some (.ref f))) (l : K.lookup f = some ⟨oc, od, .func (PySem.W.fnOf "_law_is_tree" "_law_is_tree" (defArgs s__law_is_tree) (defBody s__law_is_tree) (defScope s__law_is_tree) .none kV dc pm an cd ct), sl⟩) (c : PySem.W.codeIn K cd "_law_is_tree" = true) (k : PySem.W.keepIn K (.ref f) = true) :
    Def K mg "_law_is_tree" s__law_is_tree ["_law_tree_here", "_law_n"] :=
  have F := fun_mk (st := s__law_is_tree) l c k
  ⟨_, _, F, PySem.W.mg_of X G a, F.binds (ps := ["_law_tree_here", "_law_n"]) fun _ _ _ _ _ _ us hl => match us, hl with | [_, _], _ => rfl⟩
theorem d__law_orders {K : Fg} {h : Heap} {mg : Str → Option Value} {f : Addr} {od an : Option Addr} {sl : Array (Option Value)} {oc kV dc pm cd ct : Value} (X : K.In h) (G : h.Ns mainGlobals mg)
    (a : PySem.W.nsIn K mainGlobals "_law_orders" = some (some (.ref f))) (l : K.lookup f = some ⟨oc, od, .func (PySem.W.fnOf "_law_orders" "_law_orders" (defArgs s__law_orders) (defBody s__law_orders) (defScope s__law_orders) .none kV dc pm an cd ct), sl⟩) (c : PySem.W.codeIn K cd "_law_orders" = true) (k : PySem.W.keepIn K (.ref f) = true) :
    Def K mg "_law_orders" s__law_orders ["_law_n"] :=
  have F := fun_mk (st := s__law_orders) l c k
  ⟨_, _, F, PySem.W.mg_of X G a, F.binds (ps := ["_law_n"]) fun _ _ _ _ _ _ us hl => match us, hl with | [_], _ => rfl⟩
theorem d__law_drawn_order {K : Fg} {h : Heap} {mg : Str → Option Value} {f : Addr} {od an : Option Addr} {sl : Array (Option Value)} {oc kV dc pm cd ct : Value} (X : K.In h) (G : h.Ns mainGlobals mg)
    (a : PySem.W.nsIn K mainGlobals "_law_drawn_order" = some (some (.ref f))) (l : K.lookup f = some ⟨oc, od, .func (PySem.W.fnOf "_law_drawn_order" "_law_drawn_order" (defArgs s__law_drawn_order) (defBody s__law_drawn_order) (defScope s__law_drawn_order) .none kV dc pm an cd ct), sl⟩) (c : PySem.W.codeIn K cd "_law_drawn_order" = true) (k : PySem.W.keepIn K (.ref f) = true) :
    Def K mg "_law_drawn_order" s__law_drawn_order ["_law_tree_here", "_law_cell_here"] :=
  have F := fun_mk (st := s__law_drawn_order) l c k
  ⟨_, _, F, PySem.W.mg_of X G a, F.binds (ps := ["_law_tree_here", "_law_cell_here"]) fun _ _ _ _ _ _ us hl => match us, hl with | [_, _], _ => rfl⟩
theorem d__law_agrees {K : Fg} {h : Heap} {mg : Str → Option Value} {f : Addr} {od an : Option Addr} {sl : Array (Option Value)} {oc kV dc pm cd ct : Value} (X : K.In h) (G : h.Ns mainGlobals mg)
    (a : PySem.W.nsIn K mainGlobals "_law_agrees" = some (some (.ref f))) (l : K.lookup f = some ⟨oc, od, .func (PySem.W.fnOf "_law_agrees" "_law_agrees" (defArgs s__law_agrees) (defBody s__law_agrees) (defScope s__law_agrees) .none kV dc pm an cd ct), sl⟩) (c : PySem.W.codeIn K cd "_law_agrees" = true) (k : PySem.W.keepIn K (.ref f) = true) :
    Def K mg "_law_agrees" s__law_agrees ["_law_one", "_law_two", "_law_told_here", "_law_order_here"] :=
  have F := fun_mk (st := s__law_agrees) l c k
  ⟨_, _, F, PySem.W.mg_of X G a, F.binds (ps := ["_law_one", "_law_two", "_law_told_here", "_law_order_here"]) fun _ _ _ _ _ _ us hl => match us, hl with | [_, _, _, _], _ => rfl⟩
theorem all_mk {P : Program} {w : World} {K : Fg} {h : Heap} {mg : Str → Option Value} {fa f aW : Addr} {tk1 tk2 : Tok} {od an : Option Addr} {sl : Array (Option Value)} {oc kV dc pm cd ct : Value} (X : K.In h) (G : h.Ns mainGlobals mg) (hfa : mg "law" = some (.ref fa))
    (a : PySem.W.nsIn K mainGlobals "law" = some (some (.ref f))) (l : K.lookup f = some ⟨oc, od, .func (PySem.W.fnOf "law" "law" (defArgs s_law) (defBody s_law) (defScope s_law) .none kV dc pm an cd ct), sl⟩) (c : PySem.W.codeIn K cd "law" = true) (k : PySem.W.keepIn K (.ref f) = true)
    (g_MOST_THINGS : mg "MOST_THINGS" = some (.int 24 tk1)) (g_MOST_SETS : mg "MOST_SETS" = some (.int 40 tk2)) (g_WORDS : mg "WORDS" = some (.ref aW)) (hW : ∀ H : Hp, SqT K H aW [.str "any", .str "row"]) (B : Bl mg)
    (d_is_size : Def K mg "is_size" s_is_size ["n"])
    (d_check_things : Def K mg "check_things" s_check_things ["n"])
    (d_is_set : Def K mg "is_set" s_is_set ["n", "chosen"])
    (d_check_set : Def K mg "check_set" s_check_set ["n", "chosen"])
    (d_check_table : Def K mg "check_table" s_check_table ["n", "sets"])
    (d_is_thing : Def K mg "is_thing" s_is_thing ["tree"])
    (d_listed : Def K mg "listed" s_listed ["tree"])
    (d_least_thing : Def K mg "least_thing" s_least_thing ["tree"])
    (d_has_form : Def K mg "has_form" s_has_form ["tree"])
    (d_check_tree : Def K mg "check_tree" s_check_tree ["n", "tree"])
    (d_need_tree : Def K mg "need_tree" s_need_tree ["tree"])
    (d_things_of : Def K mg "things_of" s_things_of ["tree"])
    (d_make_any : Def K mg "make_any" s_make_any ["parts"])
    (d_make_row : Def K mg "make_row" s_make_row ["parts"])
    (d_normalized : Def K mg "normalized" s_normalized ["tree"])
    (d_plain_tree : Def K mg "plain_tree" s_plain_tree ["n"])
    (d_collect_sets : Def K mg "collect_sets" s_collect_sets ["tree", "found"])
    (d_sets_of : Def K mg "sets_of" s_sets_of ["tree"])
    (d_share : Def K mg "share" s_share ["tree", "chosen"])
    (d_with_share : Def K mg "with_share" s_with_share ["parts", "chosen", "wanted"])
    (d_split_any : Def K mg "split_any" s_split_any ["parts", "chosen"])
    (d_ascends : Def K mg "ascends" s_ascends ["shares"])
    (d_split_row : Def K mg "split_row" s_split_row ["parts", "chosen"])
    (d_split : Def K mg "split" s_split ["tree", "chosen"])
    (d_joined_any : Def K mg "joined_any" s_joined_any ["parts", "chosen"])
    (d_joined_row : Def K mg "joined_row" s_joined_row ["parts", "chosen"])
    (d_joined : Def K mg "joined" s_joined ["tree", "chosen"])
    (d_reduced_by : Def K mg "reduced_by" s_reduced_by ["tree", "chosen"])
    (d_reduced_by_all : Def K mg "reduced_by_all" s_reduced_by_all ["tree", "sets"])
    (d_tree_of : Def K mg "tree_of" s_tree_of ["n", "sets"])
    (d_common : Def K mg "common" s_common ["tree", "other"])
    (d__law_cell : Def K mg "_law_cell" s__law_cell ["_law_script", "_law_k"])
    (d__law_digits : Def K mg "_law_digits" s__law_digits ["_law_cell_here", "_law_sizes"])
    (d__law_rich : Def K mg "_law_rich" s__law_rich ["_law_cell_here"])
    (d__law_order : Def K mg "_law_order" s__law_order ["_law_cell_here", "_law_n"])
    (d__law_stretch : Def K mg "_law_stretch" s__law_stretch ["_law_cell_here", "_law_order_here"])
    (d__law_things : Def K mg "_law_things" s__law_things ["_law_tree_here"])
    (d__law_told : Def K mg "_law_told" s__law_told ["_law_tree_here", "_law_order_here"])
    (d__law_tree : Def K mg "_law_tree" s__law_tree ["_law_cell_here", "_law_n"])
    (d__law_shuffled : Def K mg "_law_shuffled" s__law_shuffled ["_law_tree_here", "_law_cell_here"])
    (d__law_is_normal : Def K mg "_law_is_normal" s__law_is_normal ["_law_tree_here"])
    (d__law_is_tree : Def K mg "_law_is_tree" s__law_is_tree ["_law_tree_here", "_law_n"])
    (d__law_orders : Def K mg "_law_orders" s__law_orders ["_law_n"])
    (d__law_drawn_order : Def K mg "_law_drawn_order" s__law_drawn_order ["_law_tree_here", "_law_cell_here"])
    (d__law_agrees : Def K mg "_law_agrees" s__law_agrees ["_law_one", "_law_two", "_law_told_here", "_law_order_here"])
    : ∃ fd : FuncData, (∀ (s : Shared) (v : Value), BindsTo s fd ⟨[v], []⟩ [("_law_script", v)]) ∧ ∀ base : Heap, K.In base → base.Ns mainGlobals mg → FnOk P w K mg base CX0 108 fa fd ["_law_script"] (sp_law K) := by
  have e := hfa.symm.trans (PySem.W.mg_of X G a)
  cases e
  refine ⟨PySem.W.fnOf "law" "law" (defArgs s_law) (defBody s_law) (defScope s_law) .none kV dc pm an cd ct, fun s v => .of_eq rfl, fun base _ _ => ?_⟩
  have c__law_digits := ok__law_digits (P := P) (w := w) (K := K) (mg := mg) (base := base) (D := d__law_digits) (B := B)
  have c__law_rich := ok__law_rich (P := P) (w := w) (K := K) (mg := mg) (base := base) (D := d__law_rich) (B := B)
  have c__law_cell := ok__law_cell (P := P) (w := w) (K := K) (mg := mg) (base := base) (D := d__law_cell) (B := B)
  have c__law_order := ok__law_order (P := P) (w := w) (K := K) (mg := mg) (base := base) (D := d__law_order) (B := B) (c__law_rich := c__law_rich)
  have c__law_tree := ok__law_tree (P := P) (w := w) (K := K) (mg := mg) (base := base) (D := d__law_tree) (B := B) (c__law_order := c__law_order) (c__law_rich := c__law_rich)
  have c__law_shuffled := ok__law_shuffled (P := P) (w := w) (K := K) (mg := mg) (base := base) (D := d__law_shuffled) (B := B) (c__law_rich := c__law_rich) 24
  have c__law_drawn_order := ok__law_drawn_order (P := P) (w := w) (K := K) (mg := mg) (base := base) (D := d__law_drawn_order) (B := B) (c__law_shuffled := c__law_shuffled) 24
  have c_is_size := ok_is_size (P := P) (w := w) (K := K) (mg := mg) (base := base) (D := d_is_size) (g_MOST_THINGS := g_MOST_THINGS)
  have c_is_set := ok_is_set (P := P) (w := w) (K := K) (mg := mg) (base := base) (D := d_is_set) (B := B)
  have c_check_set := ok_check_set (P := P) (w := w) (K := K) (mg := mg) (base := base) (D := d_check_set) (c_is_size := c_is_size) (c_is_set := c_is_set)
  have c_check_table := ok_check_table (P := P) (w := w) (K := K) (mg := mg) (base := base) (D := d_check_table) (B := B) (g_MOST_SETS := g_MOST_SETS) (c_is_size := c_is_size) (c_check_set := c_check_set)
  have c_is_thing := ok_is_thing (P := P) (w := w) (K := K) (mg := mg) (base := base) (D := d_is_thing) (B := B)
  have c_listed := ok_listed (P := P) (w := w) (K := K) (mg := mg) (base := base) (D := d_listed) (c_is_thing := c_is_thing) 24
  have c_least_thing := ok_least_thing (P := P) (w := w) (K := K) (mg := mg) (base := base) (D := d_least_thing) (B := B) (c_listed := c_listed)
  have c_normalized := ok_normalized (P := P) (w := w) (K := K) (mg := mg) (base := base) (D := d_normalized) (B := B) (c_is_thing := c_is_thing) (c_least_thing := c_least_thing) 24
  have c_share := ok_share (P := P) (w := w) (K := K) (mg := mg) (base := base) (D := d_share) (B := B) (c_listed := c_listed)
  have c_ascends := ok_ascends (P := P) (w := w) (K := K) (mg := mg) (base := base) (D := d_ascends) (B := B)
  have c_with_share := ok_with_share (P := P) (w := w) (K := K) (mg := mg) (base := base) (D := d_with_share) (c_share := c_share)
  have c_make_any := ok_make_any (P := P) (w := w) (K := K) (mg := mg) (base := base) (D := d_make_any) (B := B)
  have c_split := ok_split (P := P) (w := w) (K := K) (mg := mg) (base := base) (D := d_split) (Da := d_split_any) (Dr := d_split_row) (B := B) (c_share := c_share) (c_ascends := c_ascends) (c_with_share := c_with_share) (c_make_any := c_make_any) 24
  have c_make_row := ok_make_row (P := P) (w := w) (K := K) (mg := mg) (base := base) (D := d_make_row) (B := B) (c_make_any := c_make_any)
  have c_joined_any := ok_joined_any (P := P) (w := w) (K := K) (mg := mg) (base := base) (D := d_joined_any) (B := B) (c_split := c_split) (c_with_share := c_with_share) (c_make_any := c_make_any) (c_make_row := c_make_row)
  have c_joined_row := ok_joined_row (P := P) (w := w) (K := K) (mg := mg) (base := base) (D := d_joined_row) (B := B) (c_split := c_split) (c_share := c_share) (c_make_row := c_make_row)
  have c_joined := ok_joined (P := P) (w := w) (K := K) (mg := mg) (base := base) (D := d_joined) (B := B) (c_is_thing := c_is_thing) (c_share := c_share) (c_joined_any := c_joined_any) (c_joined_row := c_joined_row) 24
  have c_reduced_by := ok_reduced_by (P := P) (w := w) (K := K) (mg := mg) (base := base) (D := d_reduced_by) (B := B) (c_normalized := c_normalized) (c_joined := c_joined)
  have c_reduced_by_all := ok_reduced_by_all (P := P) (w := w) (K := K) (mg := mg) (base := base) (D := d_reduced_by_all) (c_reduced_by := c_reduced_by)
  have c_check_things := ok_check_things (P := P) (w := w) (K := K) (mg := mg) (base := base) (D := d_check_things) (c_is_size := c_is_size)
  have c_plain_tree := ok_plain_tree (P := P) (w := w) (K := K) (mg := mg) (base := base) (D := d_plain_tree) (B := B) (c_check_things := c_check_things) (c_make_any := c_make_any)
  have c_tree_of := ok_tree_of (P := P) (w := w) (K := K) (mg := mg) (base := base) (D := d_tree_of) (c_check_table := c_check_table) (c_reduced_by_all := c_reduced_by_all) (c_plain_tree := c_plain_tree)
  have c__law_stretch := ok__law_stretch (P := P) (w := w) (K := K) (mg := mg) (base := base) (D := d__law_stretch) (B := B) (c__law_digits := c__law_digits) (c__law_rich := c__law_rich)
  have c_has_form := ok_has_form (P := P) (w := w) (K := K) (mg := mg) (base := base) (D := d_has_form) (B := B) (g_WORDS := g_WORDS) (hW := hW) (c_is_thing := c_is_thing) 24
  have c_check_tree := ok_check_tree (P := P) (w := w) (K := K) (mg := mg) (base := base) (D := d_check_tree) (B := B) (c_is_size := c_is_size) (c_has_form := c_has_form) (c_listed := c_listed)
  have c_need_tree := ok_need_tree (P := P) (w := w) (K := K) (mg := mg) (base := base) (D := d_need_tree) (B := B) (c_has_form := c_has_form) (c_listed := c_listed) (c_check_tree := c_check_tree)
  have c_things_of := ok_things_of (P := P) (w := w) (K := K) (mg := mg) (base := base) (D := d_things_of) (B := B) (c_has_form := c_has_form) (c_listed := c_listed)
  have c_collect_sets := ok_collect_sets (P := P) (w := w) (K := K) (mg := mg) (base := base) (D := d_collect_sets) (B := B) (c_is_thing := c_is_thing) (c_listed := c_listed) 24
  have c_sets_of := ok_sets_of (P := P) (w := w) (K := K) (mg := mg) (base := base) (D := d_sets_of) (B := B) (c_things_of := c_things_of) (c_collect_sets := c_collect_sets)
  have c_common := ok_common (P := P) (w := w) (K := K) (mg := mg) (base := base) (D := d_common) (B := B) (c_need_tree := c_need_tree) (c_check_tree := c_check_tree) (c_listed := c_listed) (c_reduced_by_all := c_reduced_by_all) (c_normalized := c_normalized) (c_sets_of := c_sets_of)
  have c__law_things := ok__law_things (P := P) (w := w) (K := K) (mg := mg) (base := base) (D := d__law_things) (B := B) 24
  have c__law_is_normal := ok__law_is_normal (P := P) (w := w) (K := K) (mg := mg) (base := base) (D := d__law_is_normal) (B := B) (c__law_things := c__law_things) 24
  have c__law_is_tree := ok__law_is_tree (P := P) (w := w) (K := K) (mg := mg) (base := base) (D := d__law_is_tree) (B := B) (c__law_things := c__law_things) (c__law_is_normal := c__law_is_normal)
  have c__law_orders := ok__law_orders (P := P) (w := w) (K := K) (mg := mg) (base := base) (D := d__law_orders) (B := B)
  have c__law_told := ok__law_told (P := P) (w := w) (K := K) (mg := mg) (base := base) (D := d__law_told) (B := B) (c__law_things := c__law_things) 24
  have c__law_agrees := ok__law_agrees (P := P) (w := w) (K := K) (mg := mg) (base := base) (D := d__law_agrees) (c__law_told := c__law_told)
  exact ok_law (P := P) (w := w) (K := K) (mg := mg) (base := base) (F := fun_mk (st := s_law) l c k) (B := B) (c__law_digits := c__law_digits) (c__law_rich := c__law_rich) (c__law_cell := c__law_cell) (c__law_tree := c__law_tree) (c__law_drawn_order := c__law_drawn_order) (c_tree_of := c_tree_of) (c__law_stretch := c__law_stretch) (c_common := c_common) (c__law_is_tree := c__law_is_tree) (c__law_orders := c__law_orders) (c__law_agrees := c__law_agrees)
end K13

open PySem PySem.W PyProof.Rows
set_option maxHeartbeats 0 in
theorem PySem.Challenge.cw_unpartedrows_k13_whole_common_trees_holds : PySem.Challenge.rw_unpartedrows_k13_whole_common_trees.Holds := by
  w_on; o_law; k_head; (case hw => w_witness2)
  k_fill
  refine L2.walk_of (l := PySem.Challenge.rw_unpartedrows_k13_whole_common_trees) (n := 63) (k := 108) (x := "_law_script") (CX := fun _ => L2.CX0) (sp := fun w => K13.sp_law _) rfl (by decide) rfl ⟨rfl, by decide, by decide⟩ (fun w h Y => PySem.W.kIn_of Y) ?F (fun _ _ a ns _ _ hS => ⟨a, ns, rfl, hS, fun _ => rfl⟩) (fun _ _ _ _ _ h => h)
  case F =>
    intro w mg fa h X G hmg
    refine' K13.all_mk X G hmg ?a ?l ?c ?k (PySem.W.mg_of X G ?g1) (PySem.W.mg_of X G ?g2) (PySem.W.mg_of X G ?g3) (fun H => K13.words_sq ?w1 ?w2 ?w3 H) ⟨PySem.W.mg_none_of X G ?z0, PySem.W.mg_none_of X G ?z1, PySem.W.mg_none_of X G ?z2, PySem.W.mg_none_of X G ?z3, PySem.W.mg_none_of X G ?z4, PySem.W.mg_none_of X G ?z5, PySem.W.mg_none_of X G ?z6, PySem.W.mg_none_of X G ?z7, PySem.W.mg_none_of X G ?z8, PySem.W.mg_none_of X G ?z9, PySem.W.mg_none_of X G ?z10, PySem.W.mg_none_of X G ?z11, PySem.W.mg_none_of X G ?z12, PySem.W.mg_none_of X G ?z13⟩ (K13.d_is_size X G ?a0 ?l0 ?c0 ?k0) (K13.d_check_things X G ?a1 ?l1 ?c1 ?k1) (K13.d_is_set X G ?a2 ?l2 ?c2 ?k2) (K13.d_check_set X G ?a3 ?l3 ?c3 ?k3) (K13.d_check_table X G ?a4 ?l4 ?c4 ?k4) (K13.d_is_thing X G ?a5 ?l5 ?c5 ?k5) (K13.d_listed X G ?a6 ?l6 ?c6 ?k6) (K13.d_least_thing X G ?a7 ?l7 ?c7 ?k7) (K13.d_has_form X G ?a8 ?l8 ?c8 ?k8) (K13.d_check_tree X G ?a9 ?l9 ?c9 ?k9) (K13.d_need_tree X G ?a10 ?l10 ?c10 ?k10) (K13.d_things_of X G ?a11 ?l11 ?c11 ?k11) (K13.d_make_any X G ?a12 ?l12 ?c12 ?k12) (K13.d_make_row X G ?a13 ?l13 ?c13 ?k13) (K13.d_normalized X G ?a14 ?l14 ?c14 ?k14) (K13.d_plain_tree X G ?a15 ?l15 ?c15 ?k15) (K13.d_collect_sets X G ?a16 ?l16 ?c16 ?k16) (K13.d_sets_of X G ?a17 ?l17 ?c17 ?k17) (K13.d_share X G ?a18 ?l18 ?c18 ?k18) (K13.d_with_share X G ?a19 ?l19 ?c19 ?k19) (K13.d_split_any X G ?a20 ?l20 ?c20 ?k20) (K13.d_ascends X G ?a21 ?l21 ?c21 ?k21) (K13.d_split_row X G ?a22 ?l22 ?c22 ?k22) (K13.d_split X G ?a23 ?l23 ?c23 ?k23) (K13.d_joined_any X G ?a24 ?l24 ?c24 ?k24) (K13.d_joined_row X G ?a25 ?l25 ?c25 ?k25) (K13.d_joined X G ?a26 ?l26 ?c26 ?k26) (K13.d_reduced_by X G ?a27 ?l27 ?c27 ?k27) (K13.d_reduced_by_all X G ?a28 ?l28 ?c28 ?k28) (K13.d_tree_of X G ?a29 ?l29 ?c29 ?k29) (K13.d_common X G ?a30 ?l30 ?c30 ?k30) (K13.d__law_cell X G ?a31 ?l31 ?c31 ?k31) (K13.d__law_digits X G ?a32 ?l32 ?c32 ?k32) (K13.d__law_rich X G ?a33 ?l33 ?c33 ?k33) (K13.d__law_order X G ?a34 ?l34 ?c34 ?k34) (K13.d__law_stretch X G ?a35 ?l35 ?c35 ?k35) (K13.d__law_things X G ?a36 ?l36 ?c36 ?k36) (K13.d__law_told X G ?a37 ?l37 ?c37 ?k37) (K13.d__law_tree X G ?a38 ?l38 ?c38 ?k38) (K13.d__law_shuffled X G ?a39 ?l39 ?c39 ?k39) (K13.d__law_is_normal X G ?a40 ?l40 ?c40 ?k40) (K13.d__law_is_tree X G ?a41 ?l41 ?c41 ?k41) (K13.d__law_orders X G ?a42 ?l42 ?c42 ?k42) (K13.d__law_drawn_order X G ?a43 ?l43 ?c43 ?k43) (K13.d__law_agrees X G ?a44 ?l44 ?c44 ?k44)
    (case a => k_is); (case l => k_is); (case c => k_is); (case k => k_is); (case g1 => k_is); (case g2 => k_is); (case g3 => k_is); (case w1 => k_is); (case w2 => rfl); (case w3 => rfl)
    (case z0 => k_is); (case z1 => k_is); (case z2 => k_is); (case z3 => k_is); (case z4 => k_is); (case z5 => k_is); (case z6 => k_is); (case z7 => k_is); (case z8 => k_is); (case z9 => k_is); (case z10 => k_is); (case z11 => k_is); (case z12 => k_is); (case z13 => k_is)
    (case a0 => k_is); (case l0 => k_is); (case c0 => k_is); (case k0 => k_is)
    (case a1 => k_is); (case l1 => k_is); (case c1 => k_is); (case k1 => k_is)
    (case a2 => k_is); (case l2 => k_is); (case c2 => k_is); (case k2 => k_is)
    (case a3 => k_is); (case l3 => k_is); (case c3 => k_is); (case k3 => k_is)
    (case a4 => k_is); (case l4 => k_is); (case c4 => k_is); (case k4 => k_is)
    (case a5 => k_is); (case l5 => k_is); (case c5 => k_is); (case k5 => k_is)
    (case a6 => k_is); (case l6 => k_is); (case c6 => k_is); (case k6 => k_is)
    (case a7 => k_is); (case l7 => k_is); (case c7 => k_is); (case k7 => k_is)
    (case a8 => k_is); (case l8 => k_is); (case c8 => k_is); (case k8 => k_is)
    (case a9 => k_is); (case l9 => k_is); (case c9 => k_is); (case k9 => k_is)
    (case a10 => k_is); (case l10 => k_is); (case c10 => k_is); (case k10 => k_is)
    (case a11 => k_is); (case l11 => k_is); (case c11 => k_is); (case k11 => k_is)
    (case a12 => k_is); (case l12 => k_is); (case c12 => k_is); (case k12 => k_is)
    (case a13 => k_is); (case l13 => k_is); (case c13 => k_is); (case k13 => k_is)
    (case a14 => k_is); (case l14 => k_is); (case c14 => k_is); (case k14 => k_is)
    (case a15 => k_is); (case l15 => k_is); (case c15 => k_is); (case k15 => k_is)
    (case a16 => k_is); (case l16 => k_is); (case c16 => k_is); (case k16 => k_is)
    (case a17 => k_is); (case l17 => k_is); (case c17 => k_is); (case k17 => k_is)
    (case a18 => k_is); (case l18 => k_is); (case c18 => k_is); (case k18 => k_is)
    (case a19 => k_is); (case l19 => k_is); (case c19 => k_is); (case k19 => k_is)
    (case a20 => k_is); (case l20 => k_is); (case c20 => k_is); (case k20 => k_is)
    (case a21 => k_is); (case l21 => k_is); (case c21 => k_is); (case k21 => k_is)
    (case a22 => k_is); (case l22 => k_is); (case c22 => k_is); (case k22 => k_is)
    (case a23 => k_is); (case l23 => k_is); (case c23 => k_is); (case k23 => k_is)
    (case a24 => k_is); (case l24 => k_is); (case c24 => k_is); (case k24 => k_is)
    (case a25 => k_is); (case l25 => k_is); (case c25 => k_is); (case k25 => k_is)
    (case a26 => k_is); (case l26 => k_is); (case c26 => k_is); (case k26 => k_is)
    (case a27 => k_is); (case l27 => k_is); (case c27 => k_is); (case k27 => k_is)
    (case a28 => k_is); (case l28 => k_is); (case c28 => k_is); (case k28 => k_is)
    (case a29 => k_is); (case l29 => k_is); (case c29 => k_is); (case k29 => k_is)
    (case a30 => k_is); (case l30 => k_is); (case c30 => k_is); (case k30 => k_is)
    (case a31 => k_is); (case l31 => k_is); (case c31 => k_is); (case k31 => k_is)
    (case a32 => k_is); (case l32 => k_is); (case c32 => k_is); (case k32 => k_is)
    (case a33 => k_is); (case l33 => k_is); (case c33 => k_is); (case k33 => k_is)
    (case a34 => k_is); (case l34 => k_is); (case c34 => k_is); (case k34 => k_is)
    (case a35 => k_is); (case l35 => k_is); (case c35 => k_is); (case k35 => k_is)
    (case a36 => k_is); (case l36 => k_is); (case c36 => k_is); (case k36 => k_is)
    (case a37 => k_is); (case l37 => k_is); (case c37 => k_is); (case k37 => k_is)
    (case a38 => k_is); (case l38 => k_is); (case c38 => k_is); (case k38 => k_is)
    (case a39 => k_is); (case l39 => k_is); (case c39 => k_is); (case k39 => k_is)
    (case a40 => k_is); (case l40 => k_is); (case c40 => k_is); (case k40 => k_is)
    (case a41 => k_is); (case l41 => k_is); (case c41 => k_is); (case k41 => k_is)
    (case a42 => k_is); (case l42 => k_is); (case c42 => k_is); (case k42 => k_is)
    (case a43 => k_is); (case l43 => k_is); (case c43 => k_is); (case k43 => k_is)
    (case a44 => k_is); (case l44 => k_is); (case c44 => k_is); (case k44 => k_is)

