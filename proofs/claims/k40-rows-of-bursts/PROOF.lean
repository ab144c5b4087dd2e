import PyProof.Rows.All
import Wide.All
import OpenK.AllK
import Wide.FinOn
import HandS.ForMost
import HandS.Zip
import KE.GoesNew
import HandS.DictComp
import HandS.Defaults
import HandS.Star
import KE.KDictDisplayH
import KE.SortData
import PyProof.StrBlock2
import HandS.Lambda
import KE.SortKeyHeap
import HandS.Deep
import HandS.IsInst
import HandS.Conv
import HandS.Steps
import HandS.Strs
import HandS.Evl
import HandS.EndTab
import PySem.Challenge.RW_burstshop_k40_whole_does_by_rows_of_burs
set_option Elab.async false
set_option linter.all false
set_option maxRecDepth 100000
set_option maxHeartbeats 4000000
namespace Bst
/-! The plain law: a walk over pairs of states finds the first row of bursts (shorter first, then burst by burst). -/

structure Arc (α : Type) where
  s : Nat
  b : List α
  f : List α
  t : Nat

section ord
variable {β : Type} (lt : β → β → Prop)
def lex : List β → List β → Prop
  | x :: xs, y :: ys => lt x y ∨ (x = y ∧ lex xs ys)
  | _, _ => False
def sl (p q : List β) : Prop := p.length < q.length ∨ (p.length = q.length ∧ lex lt p q)
def sle (p q : List β) : Prop := p = q ∨ sl lt p q
variable {lt}
theorem lex_irrefl (hi : ∀ x, ¬ lt x x) : ∀ p : List β, ¬ lex lt p p
  | [], h => h
  | x :: xs, h => by
    rcases h with h | ⟨_, h⟩
    · exact hi x h
    · exact lex_irrefl hi xs h
theorem lex_trans (ht : ∀ x y z, lt x y → lt y z → lt x z) : ∀ p q r : List β, lex lt p q → lex lt q r → lex lt p r
  | [], _, _, h, _ => absurd h (by simp [lex])
  | _ :: _, [], _, h, _ => absurd h (by simp [lex])
  | _ :: _, _ :: _, [], _, h => absurd h (by simp [lex])
  | x :: xs, y :: ys, z :: zs, h, k => by
    rcases h with h | ⟨rfl, h⟩
    · rcases k with k | ⟨rfl, _⟩
      · exact .inl (ht _ _ _ h k)
      · exact .inl h
    · rcases k with k | ⟨rfl, k⟩
      · exact .inl k
      · exact .inr ⟨rfl, lex_trans ht _ _ _ h k⟩
theorem lex_snoc (c d : β) : ∀ p q : List β, lex lt p q → lex lt (p ++ [c]) (q ++ [d])
  | [], _, h => absurd h (by simp [lex])
  | _ :: _, [], h => absurd h (by simp [lex])
  | x :: xs, y :: ys, h => by
    rcases h with h | ⟨e, h⟩
    · exact .inl h
    · exact .inr ⟨e, lex_snoc c d xs ys h⟩
theorem lex_same {c d : β} (h : lt c d) : ∀ p : List β, lex lt (p ++ [c]) (p ++ [d])
  | [] => Or.inl h
  | x :: xs => by
    show lt x x ∨ (x = x ∧ lex lt (xs ++ [c]) (xs ++ [d]))
    exact .inr ⟨rfl, lex_same h xs⟩
theorem lex_inv (c d : β) : ∀ p q : List β, p.length = q.length → lex lt (p ++ [c]) (q ++ [d]) → lex lt p q ∨ (p = q ∧ lt c d)
  | [], [], _, h => by
    rcases h with h | ⟨_, h⟩
    · exact .inr ⟨rfl, h⟩
    · exact absurd h (by simp [lex])
  | [], _ :: _, e, _ => by simp at e
  | _ :: _, [], e, _ => by simp at e
  | x :: xs, y :: ys, e, h => by
    rcases h with h | ⟨rfl, h⟩
    · exact .inl (.inl h)
    · rcases lex_inv c d xs ys (by simpa using e) h with k | ⟨k1, k2⟩
      · exact .inl (.inr ⟨rfl, k⟩)
      · exact .inr ⟨by rw [k1], k2⟩
theorem sl_irrefl (hi : ∀ x, ¬ lt x x) (p : List β) : ¬ sl lt p p := by
  rintro (h | ⟨_, h⟩)
  · exact Nat.lt_irrefl _ h
  · exact lex_irrefl hi p h
theorem sl_trans (ht : ∀ x y z, lt x y → lt y z → lt x z) {p q r : List β} (h : sl lt p q) (k : sl lt q r) : sl lt p r := by
  rcases h with h | ⟨e, h⟩ <;> rcases k with k | ⟨e', k⟩
  · exact .inl (by omega)
  · exact .inl (by omega)
  · exact .inl (by omega)
  · exact .inr ⟨by omega, lex_trans ht _ _ _ h k⟩
theorem sle_trans (ht : ∀ x y z, lt x y → lt y z → lt x z) {p q r : List β} (h : sle lt p q) (k : sle lt q r) : sle lt p r := by
  rcases h with rfl | h
  · exact k
  · rcases k with rfl | k
    · exact .inr h
    · exact .inr (sl_trans ht h k)
theorem sle_sl (ht : ∀ x y z, lt x y → lt y z → lt x z) {p q r : List β} (h : sle lt p q) (k : sl lt q r) : sl lt p r := by
  rcases h with rfl | h
  · exact k
  · exact sl_trans ht h k
theorem sl_sle (ht : ∀ x y z, lt x y → lt y z → lt x z) {p q r : List β} (h : sl lt p q) (k : sle lt q r) : sl lt p r := by
  rcases k with rfl | k
  · exact h
  · exact sl_trans ht h k
theorem sl_snoc {p q : List β} (c d : β) (h : sl lt p q) : sl lt (p ++ [c]) (q ++ [d]) := by
  rcases h with h | ⟨e, h⟩
  · exact .inl (by simp; omega)
  · exact .inr ⟨by simp [e], lex_snoc c d _ _ h⟩
theorem sl_same {c d : β} (h : lt c d) (p : List β) : sl lt (p ++ [c]) (p ++ [d]) := .inr ⟨by simp, lex_same h p⟩
theorem sle_snoc {p q : List β} (c : β) (h : sle lt p q) : sle lt (p ++ [c]) (q ++ [c]) := by
  rcases h with rfl | h
  · exact .inl rfl
  · exact .inr (sl_snoc c c h)
theorem sl_inv {p q : List β} {c d : β} (h : sl lt (p ++ [c]) (q ++ [d])) : sl lt p q ∨ (p = q ∧ lt c d) := by
  rcases h with h | ⟨e, h⟩
  · simp at h
    exact .inl (.inl h)
  · simp at e
    rcases lex_inv c d p q e h with h | h
    · exact .inl (.inr ⟨e, h⟩)
    · exact .inr h
theorem sle_of_snoc {p q : List β} {c d : β} (h : sl lt (p ++ [c]) (q ++ [d])) : sle lt p q := by
  rcases sl_inv h with h | ⟨h, _⟩
  · exact .inr h
  · exact .inl h
theorem sle_pre (p r : List β) : sle lt p (p ++ r) := by
  cases r with
  | nil => exact .inl (by simp)
  | cons x r => exact .inr (.inl (by simp))
end ord

section bfs
variable {α : Type} [DecidableEq α]
abbrev Row (α : Type) := List (List α)
abbrev Ent (α : Type) := (Nat × Nat) × Row α
/-- the arc of state x with the burst b -/
def look (A : List (Arc α)) (x : Nat) (b : List α) : Option (Arc α) := A.find? fun a => decide (a.s = x ∧ a.b = b)
theorem look_some {A : List (Arc α)} {x : Nat} {b : List α} {a : Arc α} (h : look A x b = some a) : a ∈ A ∧ a.s = x ∧ a.b = b := by
  have h1 := List.find?_some h
  exact ⟨List.mem_of_find?_eq_some h, of_decide_eq_true h1⟩
/-- the answers to a row of bursts, from a state on -/
def ans (A : List (Arc α)) : Nat → Row α → Option (Row α)
  | _, [] => some []
  | x, b :: r => match look A x b with
    | none => none
    | some a => (ans A a.t r).map (a.f :: ·)
def inner (AL : List (Arc α)) (x : Nat) (p : Row α) : List (Arc α) → List (Ent α) → Sum (Row α) (List (Ent α))
  | [], Q => .inr Q
  | a :: as, Q => match look AL x a.b with
    | none => .inl (p ++ [a.b])
    | some c => if c.f = a.f then
        (if (Q.any fun e => decide (e.1 = (c.t, a.t))) = true then inner AL x p as Q else inner AL x p as (Q ++ [((c.t, a.t), p ++ [a.b])]))
      else .inl (p ++ [a.b])
def bfs (AL : List (Arc α)) (ER : Nat → List (Arc α)) : Nat → Nat → List (Ent α) → Option (Row α)
  | 0, _, _ => none
  | n + 1, k, Q => match Q[k]? with
    | none => none
    | some e => match inner AL e.1.1 e.2 (ER e.1.2) Q with
      | .inl r => some r
      | .inr Q' => bfs AL ER n (k + 1) Q'
def told (AL : List (Arc α)) (ER : Nat → List (Arc α)) : Option (Row α) := bfs AL ER 64 0 [((0, 0), [])]

/-- both go on together -/
def agr (AL AR : List (Arc α)) : Nat × Nat → Row α → Option (Nat × Nat)
  | s, [] => some s
  | s, b :: r => match look AR s.2 b, look AL s.1 b with
    | some a, some c => if c.f = a.f then agr AL AR (c.t, a.t) r else none
    | _, _ => none
theorem agr_app {AL AR : List (Arc α)} : ∀ (p r : Row α) (s : Nat × Nat), agr AL AR s (p ++ r) = (agr AL AR s p).bind fun s' => agr AL AR s' r
  | [], r, s => rfl
  | b :: p, r, s => by
    rw [List.cons_append, agr, agr]
    cases look AR s.2 b with
    | none => rfl
    | some a =>
      cases look AL s.1 b with
      | none => rfl
      | some c =>
        dsimp only
        by_cases h : c.f = a.f
        · rw [if_pos h, if_pos h, agr_app p r]
        · rw [if_neg h, if_neg h]
          rfl
theorem agr_one {AL AR : List (Arc α)} {s : Nat × Nat} {b : List α} {a c : Arc α} (h1 : look AR s.2 b = some a) (h2 : look AL s.1 b = some c) (h : c.f = a.f) : agr AL AR s [b] = some (c.t, a.t) := by
  rw [agr, h1, h2]
  dsimp only
  rw [if_pos h]
  rfl
theorem agr_one_inv {AL AR : List (Arc α)} {s s' : Nat × Nat} {b : List α} (h : agr AL AR s [b] = some s') : ∃ a c, look AR s.2 b = some a ∧ look AL s.1 b = some c ∧ c.f = a.f ∧ s' = (c.t, a.t) := by
  rw [agr] at h
  cases h1 : look AR s.2 b with
  | none => rw [h1] at h; cases h
  | some a =>
    cases h2 : look AL s.1 b with
    | none => rw [h1, h2] at h; cases h
    | some c =>
      rw [h1, h2] at h
      dsimp only at h
      by_cases hf : c.f = a.f
      · rw [if_pos hf] at h
        exact ⟨a, c, rfl, rfl, hf, (Option.some.inj h).symm⟩
      · rw [if_neg hf] at h
        cases h
/-- where both agree, they answer alike -/
theorem agr_ans {AL AR : List (Arc α)} : ∀ (r : Row α) (s s' : Nat × Nat), agr AL AR s r = some s' → ∃ v, ans AR s.2 r = some v ∧ ans AL s.1 r = some v
  | [], s, s', _ => ⟨[], rfl, rfl⟩
  | b :: r, s, s', h => by
    rw [agr] at h
    cases h1 : look AR s.2 b with
    | none => rw [h1] at h; cases h
    | some a =>
      cases h2 : look AL s.1 b with
      | none => rw [h1, h2] at h; cases h
      | some c =>
        rw [h1, h2] at h
        dsimp only at h
        by_cases hf : c.f = a.f
        · rw [if_pos hf] at h
          obtain ⟨v, k1, k2⟩ := agr_ans r _ _ h
          refine ⟨a.f :: v, ?_, ?_⟩
          · rw [ans, h1]
            dsimp only at k1 ⊢
            rw [k1]
            rfl
          · rw [ans, h2]
            dsimp only at k2 ⊢
            rw [k2, hf]
            rfl
        · rw [if_neg hf] at h
          cases h
theorem ans_app {A : List (Arc α)} : ∀ (p : Row α) (x : Nat) (r : Row α) (v : Row α), ans A x (p ++ r) = some v → ∃ u, ans A x p = some u
  | [], _, _, _, _ => ⟨[], rfl⟩
  | b :: p, x, r, v, h => by
    rw [List.cons_append, ans] at h
    rw [ans]
    cases h1 : look A x b with
    | none => rw [h1] at h; cases h
    | some a =>
      rw [h1] at h
      dsimp only at h ⊢
      cases h2 : ans A a.t (p ++ r) with
      | none => rw [h2] at h; cases h
      | some w =>
        obtain ⟨u, hu⟩ := ans_app p a.t r w h2
        exact ⟨a.f :: u, by rw [hu]; rfl⟩
/-- the first place where they part -/
theorem part {AL AR : List (Arc α)} : ∀ (r : Row α) (s : Nat × Nat) (v : Row α), ans AR s.2 r = some v → agr AL AR s r = none →
    ∃ r0 b rest s' a, r = r0 ++ b :: rest ∧ agr AL AR s r0 = some s' ∧ look AR s'.2 b = some a ∧ ∀ c, look AL s'.1 b = some c → c.f ≠ a.f
  | [], s, v, _, h => by cases h
  | b :: r, s, v, h, k => by
    rw [ans] at h
    rw [agr] at k
    cases h1 : look AR s.2 b with
    | none => rw [h1] at h; cases h
    | some a =>
      rw [h1] at h k
      dsimp only at h
      cases h2 : look AL s.1 b with
      | none => exact ⟨[], b, r, s, a, rfl, rfl, h1, fun c q => by rw [h2] at q; cases q⟩
      | some c =>
        rw [h2] at k
        dsimp only at k
        by_cases hf : c.f = a.f
        · rw [if_pos hf] at k
          cases h3 : ans AR a.t r with
          | none => rw [h3] at h; cases h
          | some w =>
            obtain ⟨r0, b', rest, s', a', e, q1, q2, q3⟩ := part r (c.t, a.t) w h3 k
            refine ⟨b :: r0, b', rest, s', a', by rw [e]; rfl, ?_, q2, q3⟩
            rw [agr, h1, h2]
            dsimp only
            rw [if_pos hf]
            exact q1
        · exact ⟨[], b, r, s, a, rfl, rfl, h1, fun c' q => by rw [h2] at q; rw [← Option.some.inj q]; exact hf⟩
/-- parted rows are answered unlike -/
theorem parted {AL AR : List (Arc α)} : ∀ (r0 : Row α) (s s' : Nat × Nat) (b : List α) (rest : Row α) (a : Arc α), agr AL AR s r0 = some s' → look AR s'.2 b = some a → (∀ c, look AL s'.1 b = some c → c.f ≠ a.f) →
    ans AR s.2 (r0 ++ b :: rest) ≠ none → ans AL s.1 (r0 ++ b :: rest) ≠ ans AR s.2 (r0 ++ b :: rest)
  | [], s, s', b, rest, a, h, k, q, hn => by
    have e : s = s' := Option.some.inj h
    subst e
    rw [List.nil_append] at hn ⊢
    rw [ans, k] at hn
    rw [ans, ans, k]
    dsimp only at hn ⊢
    cases h2 : look AL s.1 b with
    | none =>
      dsimp only
      exact fun z => hn z.symm
    | some c =>
      dsimp only
      cases h3 : ans AR a.t rest with
      | none => rw [h3] at hn; exact absurd rfl hn
      | some w =>
        cases h4 : ans AL c.t rest with
        | none => intro z; cases z
        | some u =>
          intro z
          have z' : c.f :: u = a.f :: w := Option.some.inj z
          injection z' with z1 _
          exact q c h2 z1
  | b0 :: r0, s, s', b, rest, a, h, k, q, hn => by
    rw [agr] at h
    cases h1 : look AR s.2 b0 with
    | none => rw [h1] at h; cases h
    | some a0 =>
      cases h2 : look AL s.1 b0 with
      | none => rw [h1, h2] at h; cases h
      | some c0 =>
        rw [h1, h2] at h
        dsimp only at h
        by_cases hf : c0.f = a0.f
        · rw [if_pos hf] at h
          rw [List.cons_append] at hn ⊢
          rw [ans, h1] at hn
          rw [ans, ans, h1, h2]
          dsimp only at hn ⊢
          have hn' : ans AR a0.t (r0 ++ b :: rest) ≠ none := fun z => hn (by rw [z]; rfl)
          have ih := parted r0 (c0.t, a0.t) s' b rest a h k q hn'
          intro z
          rw [hf] at z
          apply ih
          dsimp only
          cases e1 : ans AL c0.t (r0 ++ b :: rest) with
          | none =>
            rw [e1] at z
            cases e2 : ans AR a0.t (r0 ++ b :: rest) with
            | none => rfl
            | some w => rw [e2] at z; cases z
          | some u =>
            rw [e1] at z
            cases e2 : ans AR a0.t (r0 ++ b :: rest) with
            | none => rw [e2] at z; cases z
            | some w =>
              rw [e2] at z
              have z' : a0.f :: u = a0.f :: w := Option.some.inj z
              injection z' with _ z2
              rw [z2]
        · rw [if_neg hf] at h
          cases h

/-! ### the walk's invariant -/
section inv
variable {AL AR : List (Arc α)} {ER : Nat → List (Arc α)} {lt : List α → List α → Prop}
/-- the arc a is answered alike from x on -/
def okA (AL : List (Arc α)) (x : Nat) (a : Arc α) : Prop := ∃ c, look AL x a.b = some c ∧ c.f = a.f
/-- behind k pairs, of the next pair's arcs dn are done and as left -/
structure J (AL AR : List (Arc α)) (ER : Nat → List (Arc α)) (lt : List α → List α → Prop) (k : Nat) (dn : List (Arc α)) (Q : List (Ent α)) : Prop where
  head : Q[0]? = some ((0, 0), [])
  runs : ∀ e ∈ Q, agr AL AR (0, 0) e.2 = some e.1
  nd : (Q.map (·.1)).Nodup
  inc : Q.Pairwise fun e g => sl lt e.2 g.2
  bnd : ∀ e ∈ Q, e.2 = [] ∨ (∃ (i : Nat) (q : Ent α) (c : List α), i < k ∧ Q[i]? = some q ∧ e.2 = q.2 ++ [c]) ∨ ∃ q a, Q[k]? = some q ∧ a ∈ dn ∧ e.2 = q.2 ++ [a.b]
  clos : ∀ i e, i < k → Q[i]? = some e → ∀ a ∈ ER e.1.2, ∃ c, look AL e.1.1 a.b = some c ∧ c.f = a.f ∧ ∃ g ∈ Q, g.1 = (c.t, a.t) ∧ sle lt g.2 (e.2 ++ [a.b])
  part : ∀ e, Q[k]? = some e → ∀ a ∈ dn, ∃ c, look AL e.1.1 a.b = some c ∧ c.f = a.f ∧ ∃ g ∈ Q, g.1 = (c.t, a.t) ∧ sle lt g.2 (e.2 ++ [a.b])
  low : ∀ e ∈ Q, e.1.1 < 8 ∧ e.1.2 < 8

structure Sys (AL AR : List (Arc α)) (ER : Nat → List (Arc α)) (lt : List α → List α → Prop) : Prop where
  irr : ∀ x, ¬ lt x x
  tr : ∀ x y z, lt x y → lt y z → lt x z
  mem : ∀ y a, a ∈ ER y ↔ look AR y a.b = some a
  ord : ∀ y, (ER y).Pairwise fun a c => lt a.b c.b
  lowL : ∀ a ∈ AL, a.t < 8
  lowR : ∀ a ∈ AR, a.t < 8

theorem J.start (S : Sys AL AR ER lt) : J AL AR ER lt 0 [] [((0, 0), [])] where
  head := rfl
  runs := fun e he => by simp at he; subst he; rfl
  nd := by simp
  inc := by simp
  bnd := fun e he => by simp at he; subst he; exact .inl rfl
  clos := fun i e hi => absurd hi (Nat.not_lt_zero _)
  part := fun e _ a ha => by simp at ha
  low := fun e he => by simp at he; subst he; exact ⟨Nat.zero_lt_succ _, Nat.zero_lt_succ _⟩
theorem get_snoc {β : Type} {Q : List β} {k : Nat} {e q : β} (h : Q[k]? = some e) : (Q ++ [q])[k]? = some e := by
  rw [List.getElem?_append_left (List.getElem?_eq_some_iff.mp h).1]
  exact h
theorem J.next {k : Nat} {Q : List (Ent α)} {e : Ent α} (j : J AL AR ER lt k (ER e.1.2) Q) (h : Q[k]? = some e) : J AL AR ER lt (k + 1) [] Q where
  head := j.head
  runs := j.runs
  nd := j.nd
  inc := j.inc
  bnd := fun g hg => by
    rcases j.bnd g hg with h1 | ⟨i, q, c, hi, hq, he⟩ | ⟨q, a, hq, _, he⟩
    · exact .inl h1
    · exact .inr (.inl ⟨i, q, c, by omega, hq, he⟩)
    · exact .inr (.inl ⟨k, q, a.b, by omega, hq, he⟩)
  clos := fun i g hi hg => by
    by_cases hik : i = k
    · subst hik
      have e1 : e = g := Option.some.inj (h.symm.trans hg)
      subst e1
      exact j.part e h
    · exact j.clos i g (by omega) hg
  part := fun e _ a ha => by simp at ha
  low := j.low
/-- all that stands comes before the next row -/
theorem J.before (S : Sys AL AR ER lt) {k : Nat} {dn : List (Arc α)} {Q : List (Ent α)} {e : Ent α} {a : Arc α} (j : J AL AR ER lt k dn Q) (h : Q[k]? = some e) (hlt : ∀ d ∈ dn, lt d.b a.b) : ∀ g ∈ Q, sl lt g.2 (e.2 ++ [a.b]) := by
  intro g hg
  rcases j.bnd g hg with h1 | ⟨i, q, c, hi, hq, he⟩ | ⟨q, d, hq, hd, he⟩
  · rw [h1]
    exact .inl (by simp)
  · rw [he]
    refine sl_snoc c a.b ?_
    obtain ⟨h1, e1⟩ := List.getElem?_eq_some_iff.mp hq
    obtain ⟨h2, e2⟩ := List.getElem?_eq_some_iff.mp h
    have h3 := List.pairwise_iff_getElem.mp j.inc i k h1 h2 hi
    rw [e1, e2] at h3
    exact h3
  · rw [he]
    have e1 : q = e := Option.some.inj (hq.symm.trans h)
    subst e1
    exact sl_same (hlt d hd) q.2
theorem J.old {k : Nat} {dn : List (Arc α)} {Q : List (Ent α)} {e g : Ent α} {a c : Arc α} (S : Sys AL AR ER lt) (j : J AL AR ER lt k dn Q) (h : Q[k]? = some e) (hlt : ∀ d ∈ dn, lt d.b a.b) (hc : look AL e.1.1 a.b = some c) (hf : c.f = a.f) (hg : g ∈ Q) (eg : g.1 = (c.t, a.t)) :
    J AL AR ER lt k (dn ++ [a]) Q where
  head := j.head
  runs := j.runs
  nd := j.nd
  inc := j.inc
  bnd := fun u hu => by
    rcases j.bnd u hu with h1 | h1 | ⟨q, d, hq, hd, he⟩
    · exact .inl h1
    · exact .inr (.inl h1)
    · exact .inr (.inr ⟨q, d, hq, List.mem_append_left _ hd, he⟩)
  clos := j.clos
  part := fun u hu d hd => by
    have e1 : u = e := Option.some.inj (hu.symm.trans h)
    subst e1
    rcases List.mem_append.mp hd with hd | hd
    · exact j.part u hu d hd
    · simp at hd
      subst hd
      exact ⟨c, hc, hf, g, hg, eg, .inr (j.before S h hlt g hg)⟩
  low := j.low
theorem J.new {k : Nat} {dn : List (Arc α)} {Q : List (Ent α)} {e : Ent α} {a c : Arc α} (S : Sys AL AR ER lt) (j : J AL AR ER lt k dn Q) (h : Q[k]? = some e) (ha : a ∈ ER e.1.2) (hlt : ∀ d ∈ dn, lt d.b a.b) (hc : look AL e.1.1 a.b = some c) (hf : c.f = a.f) (hn : ∀ g ∈ Q, g.1 ≠ (c.t, a.t)) :
    J AL AR ER lt k (dn ++ [a]) (Q ++ [((c.t, a.t), e.2 ++ [a.b])]) where
  head := get_snoc j.head
  runs := fun u hu => by
    rcases List.mem_append.mp hu with hu | hu
    · exact j.runs u hu
    · simp at hu
      subst hu
      show agr AL AR (0, 0) (e.2 ++ [a.b]) = some (c.t, a.t)
      rw [agr_app, j.runs e (List.mem_of_getElem? h)]
      show agr AL AR e.1 [a.b] = some (c.t, a.t)
      exact agr_one ((S.mem _ _).mp ha) hc hf
  nd := by
    rw [List.map_append, List.nodup_append]
    refine ⟨j.nd, by simp, fun x hx y hy => ?_⟩
    simp at hy
    obtain ⟨g, hg, rfl⟩ := List.mem_map.mp hx
    rw [hy]
    exact hn g hg
  inc := by
    rw [List.pairwise_append]
    refine ⟨j.inc, by simp, fun g hg u hu => ?_⟩
    simp at hu
    subst hu
    exact j.before S h hlt g hg
  bnd := fun u hu => by
    rcases List.mem_append.mp hu with hu | hu
    · rcases j.bnd u hu with h1 | ⟨i, q, d, hi, hq, he⟩ | ⟨q, d, hq, hd, he⟩
      · exact .inl h1
      · exact .inr (.inl ⟨i, q, d, hi, get_snoc hq, he⟩)
      · exact .inr (.inr ⟨q, d, get_snoc hq, List.mem_append_left _ hd, he⟩)
    · simp at hu
      subst hu
      exact .inr (.inr ⟨e, a, get_snoc h, by simp, rfl⟩)
  clos := fun i u hi hu d hd => by
    have hk : i < Q.length := Nat.lt_trans hi (List.getElem?_eq_some_iff.mp h).1
    rw [List.getElem?_append_left hk] at hu
    obtain ⟨c', k1, k2, g, k3, k4, k5⟩ := j.clos i u hi hu d hd
    exact ⟨c', k1, k2, g, List.mem_append_left _ k3, k4, k5⟩
  part := fun u hu d hd => by
    have e1 : u = e := Option.some.inj (hu.symm.trans (get_snoc h))
    subst e1
    rcases List.mem_append.mp hd with hd | hd
    · obtain ⟨c', k1, k2, g, k3, k4, k5⟩ := j.part u h d hd
      exact ⟨c', k1, k2, g, List.mem_append_left _ k3, k4, k5⟩
    · simp at hd
      subst hd
      exact ⟨c, hc, hf, _, List.mem_append_right _ (List.mem_singleton.mpr rfl), rfl, .inl rfl⟩
  low := fun u hu => by
    rcases List.mem_append.mp hu with hu | hu
    · exact j.low u hu
    · simp at hu
      subst hu
      exact ⟨S.lowL c (look_some hc).1, S.lowR a (look_some ((S.mem _ _).mp ha)).1⟩
/-- a found row -/
def Hit (AL AR : List (Arc α)) (ER : Nat → List (Arc α)) (lt : List α → List α → Prop) (r : Row α) : Prop :=
  ∃ k Q e dn a as, J AL AR ER lt k dn Q ∧ Q[k]? = some e ∧ ER e.1.2 = dn ++ a :: as ∧ (∀ c, look AL e.1.1 a.b = some c → c.f ≠ a.f) ∧ r = e.2 ++ [a.b]
theorem inner_ok (S : Sys AL AR ER lt) {k : Nat} {e : Ent α} : ∀ (as dn : List (Arc α)) (Q : List (Ent α)), ER e.1.2 = dn ++ as → Q[k]? = some e → J AL AR ER lt k dn Q →
    (∃ r, inner AL e.1.1 e.2 as Q = .inl r ∧ Hit AL AR ER lt r) ∨ ∃ Q', inner AL e.1.1 e.2 as Q = .inr Q' ∧ Q'[k]? = some e ∧ J AL AR ER lt k (ER e.1.2) Q'
  | [], dn, Q, hE, hk, j => .inr ⟨Q, rfl, hk, by rw [hE, List.append_nil]; exact j⟩
  | a :: as, dn, Q, hE, hk, j => by
    have ho := S.ord e.1.2
    rw [hE, List.pairwise_append] at ho
    have hlt : ∀ d ∈ dn, lt d.b a.b := fun d hd => ho.2.2 d hd a (by simp)
    have ha : a ∈ ER e.1.2 := by rw [hE]; simp
    have hE' : ER e.1.2 = (dn ++ [a]) ++ as := by rw [hE]; simp
    rw [inner]
    cases hc : look AL e.1.1 a.b with
    | none => exact .inl ⟨_, rfl, k, Q, e, dn, a, as, j, hk, hE, fun c q => (by rw [hc] at q; cases q), rfl⟩
    | some c =>
      dsimp only
      by_cases hf : c.f = a.f
      · rw [if_pos hf]
        by_cases hq : (Q.any fun e => decide (e.1 = (c.t, a.t))) = true
        · rw [if_pos hq]
          obtain ⟨g, hg, eg⟩ := List.any_eq_true.mp hq
          exact inner_ok S as (dn ++ [a]) Q hE' hk (j.old S hk hlt hc hf hg (of_decide_eq_true eg))
        · rw [if_neg hq]
          refine inner_ok S as (dn ++ [a]) _ hE' (get_snoc hk) (j.new S hk ha hlt hc hf fun g hg eg => hq ?_)
          exact List.any_eq_true.mpr ⟨g, hg, decide_eq_true eg⟩
      · rw [if_neg hf]
        exact .inl ⟨_, rfl, k, Q, e, dn, a, as, j, hk, hE, fun c' q => (by rw [hc] at q; rw [← Option.some.inj q]; exact hf), rfl⟩
/-- numbers below n, each once, are at most n many -/
theorem few : ∀ (n : Nat) (l : List Nat), l.Nodup → (∀ x ∈ l, x < n) → l.length ≤ n
  | 0, [], _, _ => Nat.le_refl _
  | 0, x :: l, _, h => absurd (h x (by simp)) (Nat.not_lt_zero _)
  | n + 1, l, hn, h => by
    have h1 : (l.filter fun x => decide (x ≠ n)).length ≤ n := few n _ (hn.filter _) fun x hx => by
      have h2 := List.mem_filter.mp hx
      have h3 := h x h2.1
      have h4 : x ≠ n := of_decide_eq_true h2.2
      omega
    have h5 : l.length ≤ (l.filter fun x => decide (x ≠ n)).length + 1 := by
      clear h1 h
      induction l with
      | nil => simp
      | cons y l ih =>
        obtain ⟨h6, h7⟩ := List.nodup_cons.mp hn
        by_cases hy : y = n
        · subst hy
          have h8 : (l.filter fun x => decide (x ≠ y)) = l := List.filter_eq_self.mpr fun z hz => decide_eq_true fun q => h6 (q ▸ hz)
          rw [List.filter_cons, if_neg (by simp), h8]
          simp
        · rw [List.filter_cons, if_pos (by simpa using hy)]
          have := ih h7
          simp at this ⊢
          omega
    omega
theorem pairs_few {Q : List (Ent α)} (nd : (Q.map (·.1)).Nodup) (low : ∀ e ∈ Q, e.1.1 < 8 ∧ e.1.2 < 8) : Q.length ≤ 64 := by
  have h := few 64 (Q.map fun e => 8 * e.1.1 + e.1.2) ?_ ?_
  · simpa using h
  · have e : (Q.map fun e => 8 * e.1.1 + e.1.2) = (Q.map (·.1)).map fun p => 8 * p.1 + p.2 := by simp
    rw [e, List.Nodup, List.pairwise_map]
    refine List.Pairwise.imp_of_mem ?_ nd
    intro p q hp hq hne he
    obtain ⟨u, hu, rfl⟩ := List.mem_map.mp hp
    obtain ⟨v, hv, rfl⟩ := List.mem_map.mp hq
    have h1 := low u hu
    have h2 := low v hv
    exact hne (Prod.ext (by omega) (by omega))
  · intro x hx
    obtain ⟨u, hu, rfl⟩ := List.mem_map.mp hx
    have h1 := low u hu
    omega
theorem J.few {k : Nat} {dn : List (Arc α)} {Q : List (Ent α)} (j : J AL AR ER lt k dn Q) : Q.length ≤ 64 := pairs_few j.nd j.low
theorem bfs_ok (S : Sys AL AR ER lt) : ∀ (n k : Nat) (Q : List (Ent α)), 64 ≤ n + k → J AL AR ER lt k [] Q → (∃ r, bfs AL ER n k Q = some r ∧ Hit AL AR ER lt r) ∨ (bfs AL ER n k Q = none ∧ ∃ m Q', J AL AR ER lt m [] Q' ∧ Q'[m]? = none)
  | 0, k, Q, hn, j => .inr ⟨rfl, k, Q, j, List.getElem?_eq_none_iff.mpr (by have := j.few; omega)⟩
  | n + 1, k, Q, hn, j => by
    rw [bfs]
    cases hk : Q[k]? with
    | none => exact .inr ⟨rfl, k, Q, j, hk⟩
    | some e =>
      dsimp only
      rcases inner_ok S (ER e.1.2) [] Q rfl hk j with ⟨r, h1, h2⟩ | ⟨Q', h1, h2, h3⟩
      · rw [h1]
        exact .inl ⟨r, rfl, h2⟩
      · rw [h1]
        exact bfs_ok S n (k + 1) Q' (by omega) (h3.next h2)
theorem told_ok (S : Sys AL AR ER lt) : (∃ r, told AL ER = some r ∧ Hit AL AR ER lt r) ∨ (told AL ER = none ∧ ∃ m Q', J AL AR ER lt m [] Q' ∧ Q'[m]? = none) := bfs_ok S 64 0 _ (Nat.le_refl _) (J.start S)

/-- nothing found: pairs that go on together for ever -/
structure Sim (AL AR : List (Arc α)) (P : Nat × Nat → Prop) : Prop where
  zero : P (0, 0)
  go : ∀ s b a, P s → look AR s.2 b = some a → ∃ c, look AL s.1 b = some c ∧ c.f = a.f ∧ P (c.t, a.t)
theorem sim_of (S : Sys AL AR ER lt) (h : told AL ER = none) : ∃ P, Sim AL AR P := by
  rcases told_ok S with ⟨r, h1, _⟩ | ⟨_, m, Q, j, hm⟩
  · rw [h] at h1; cases h1
  · refine ⟨fun s => ∃ e ∈ Q, e.1 = s, ⟨_, List.mem_of_getElem? j.head, rfl⟩, ?_⟩
    rintro s b a ⟨e, he, rfl⟩ ha
    obtain ⟨i, hi⟩ := List.mem_iff_getElem?.mp he
    have h1 := (List.getElem?_eq_some_iff.mp hi).1
    have h2 := List.getElem?_eq_none_iff.mp hm
    obtain ⟨k1, k2, k3⟩ := look_some ha
    have hab : a ∈ ER e.1.2 := (S.mem _ _).mpr (by rw [k3]; exact ha)
    obtain ⟨c, q1, q2, g, q3, q4, _⟩ := j.clos i e (by omega) hi a hab
    rw [k3] at q1
    exact ⟨c, q1, q2, g, q3, q4⟩
theorem sim_ans {P : Nat × Nat → Prop} (M : Sim AL AR P) : ∀ (r : Row α) (s : Nat × Nat) (v : Row α), P s → ans AR s.2 r = some v → ans AL s.1 r = some v
  | [], s, v, _, h => h
  | b :: r, s, v, hs, h => by
    rw [ans] at h
    cases h1 : look AR s.2 b with
    | none => rw [h1] at h; cases h
    | some a =>
      rw [h1] at h
      dsimp only at h
      obtain ⟨c, h2, h3, h4⟩ := M.go s b a hs h1
      cases h5 : ans AR a.t r with
      | none => rw [h5] at h; cases h
      | some w =>
        rw [h5] at h
        have ih := sim_ans M r (c.t, a.t) w h4 h5
        rw [ans, h2]
        dsimp only at ih ⊢
        rw [ih, h3]
        exact h
theorem Hit.ans {r : Row α} (S : Sys AL AR ER lt) (h : Hit AL AR ER lt r) : (∃ v, ans AR 0 r = some v) ∧ ans AL 0 r ≠ ans AR 0 r := by
  obtain ⟨k, Q, e, dn, a, as, j, hk, hE, hb, rfl⟩ := h
  have hr := j.runs e (List.mem_of_getElem? hk)
  have ha : look AR e.1.2 a.b = some a := (S.mem _ _).mp (by rw [hE]; simp)
  have h1 : ∀ (p : Row α) (x y : Nat), agr AL AR (x, y) p = some e.1 → ∃ v, Bst.ans AR y (p ++ [a.b]) = some v := by
    intro p
    induction p with
    | nil =>
      intro x y q
      have q' : (x, y) = e.1 := Option.some.inj q
      rw [← q'] at ha
      refine ⟨[a.f], ?_⟩
      rw [List.nil_append, Bst.ans, ha]
      rfl
    | cons b p ih =>
      intro x y q
      rw [agr] at q
      cases h1 : look AR (x, y).2 b with
      | none => rw [h1] at q; cases q
      | some a' =>
        cases h2 : look AL (x, y).1 b with
        | none => rw [h1, h2] at q; cases q
        | some c' =>
          rw [h1, h2] at q
          dsimp only at q
          by_cases hf : c'.f = a'.f
          · rw [if_pos hf] at q
            obtain ⟨v, hv⟩ := ih _ _ q
            refine ⟨a'.f :: v, ?_⟩
            rw [List.cons_append, Bst.ans, h1]
            dsimp only
            rw [hv]
            rfl
          · rw [if_neg hf] at q; cases q
  obtain ⟨v, hv⟩ := h1 e.2 0 0 hr
  refine ⟨⟨v, hv⟩, ?_⟩
  exact parted e.2 (0, 0) e.1 a.b [] a hr ha hb (by show Bst.ans AR 0 (e.2 ++ [a.b]) ≠ none; rw [hv]; simp)
/-- what comes before is answered alike -/
theorem Hit.first {t : Row α} (S : Sys AL AR ER lt) (h : Hit AL AR ER lt t) {r v : Row α} (hv : Bst.ans AR 0 r = some v) (hs : sl lt r t) : Bst.ans AL 0 r = some v := by
  obtain ⟨k, Q, e, dn, a, as, j, hk, hE, hb, rfl⟩ := h
  cases ha : agr AL AR (0, 0) r with
  | some s' =>
    obtain ⟨u, h1, h2⟩ := agr_ans r (0, 0) s' ha
    have e1 : v = u := Option.some.inj (hv.symm.trans h1)
    rw [e1]
    exact h2
  | none =>
    exfalso
    obtain ⟨r0, b, rest, s', a', rfl, h1, h2, h3⟩ := Bst.part r (0, 0) v hv ha
    have hkl := (List.getElem?_eq_some_iff.mp hk).1
    have hek := (List.getElem?_eq_some_iff.mp hk).2
    have hs0 : sl lt (r0 ++ [b]) (e.2 ++ [a.b]) := by
      have e2 : r0 ++ b :: rest = (r0 ++ [b]) ++ rest := by simp
      rw [e2] at hs
      exact sle_sl S.tr (sle_pre _ _) hs
    have reach : ∀ (n : Nat) (p : Row α) (s : Nat × Nat), p.length = n → agr AL AR (0, 0) p = some s → sle lt p e.2 → ∃ g ∈ Q, g.1 = s ∧ sle lt g.2 p := by
      intro n
      induction n with
      | zero =>
        intro p s hp hag _
        have : p = [] := List.length_eq_zero_iff.mp hp
        subst this
        exact ⟨_, List.mem_of_getElem? j.head, Option.some.inj hag, .inl rfl⟩
      | succ n ih =>
        intro p s hp hag hle
        obtain ⟨q, c, rfl⟩ : ∃ q c, p = q ++ [c] := ⟨p.dropLast, p.getLast (by intro z; rw [z] at hp; simp at hp), (List.dropLast_concat_getLast _).symm⟩
        rw [agr_app] at hag
        cases hq : agr AL AR (0, 0) q with
        | none => rw [hq] at hag; cases hag
        | some s1 =>
          rw [hq] at hag
          have hag' : agr AL AR s1 [c] = some s := hag
          have hlen : q.length = n := by simpa using hp
          have hql : q.length < e.2.length := by
            rcases hle with z | z
            · have := congrArg List.length z
              simp at this
              omega
            · rcases z with z | ⟨z, _⟩ <;> simp at z <;> omega
          obtain ⟨g, hg, eg, hle1⟩ := ih q s1 hlen hq (.inr (.inl hql))
          obtain ⟨i, hi⟩ := List.mem_iff_getElem?.mp hg
          obtain ⟨hil, hie⟩ := List.getElem?_eq_some_iff.mp hi
          have hgl : g.2.length < e.2.length := by
            rcases hle1 with z | z
            · rw [z]; exact hql
            · rcases z with z | ⟨z, _⟩ <;> omega
          have hik : i < k := by
            rcases Nat.lt_trichotomy i k with z | z | z
            · exact z
            · subst z
              rw [hek] at hie
              rw [hie] at hgl
              omega
            · have hpw := List.pairwise_iff_getElem.mp j.inc k i hkl hil z
              rw [hek, hie] at hpw
              rcases hpw with y | ⟨y, _⟩ <;> omega
          obtain ⟨a1, c1, l1, l2, l3, rfl⟩ := agr_one_inv hag'
          rw [← eg] at l1 l2
          have hm : a1 ∈ ER g.1.2 := (S.mem _ _).mpr (by rw [(look_some l1).2.2]; exact l1)
          obtain ⟨c2, m1, m2, u, m3, m4, m5⟩ := j.clos i g hik hi a1 hm
          rw [(look_some l1).2.2] at m1 m5
          have e3 : c1 = c2 := Option.some.inj (l2.symm.trans m1)
          subst e3
          exact ⟨u, m3, m4, sle_trans S.tr m5 (sle_snoc c hle1)⟩
    obtain ⟨g, hg, eg, hle⟩ := reach r0.length r0 s' rfl h1 (sle_of_snoc hs0)
    have hgs : sl lt (g.2 ++ [b]) (e.2 ++ [a.b]) := sle_sl S.tr (sle_snoc b hle) hs0
    obtain ⟨i, hi⟩ := List.mem_iff_getElem?.mp hg
    obtain ⟨hil, hie⟩ := List.getElem?_eq_some_iff.mp hi
    rw [← eg] at h2 h3
    have hm : a' ∈ ER g.1.2 := (S.mem _ _).mpr (by rw [(look_some h2).2.2]; exact h2)
    rcases Nat.lt_trichotomy i k with z | z | z
    · obtain ⟨c2, m1, m2, _⟩ := j.clos i g z hi a' hm
      rw [(look_some h2).2.2] at m1
      exact h3 c2 m1 m2
    · subst z
      have e1 : g = e := Option.some.inj (hi.symm.trans hk)
      subst e1
      rcases sl_inv hgs with y | ⟨_, y⟩
      · exact sl_irrefl S.irr _ y
      · have eb : a'.b = b := (look_some h2).2.2
        have ho := S.ord g.1.2
        rw [hE, List.pairwise_append] at ho
        rw [hE] at hm
        rcases List.mem_append.mp hm with hm | hm
        · obtain ⟨c2, m1, m2, _⟩ := j.part g hk a' hm
          rw [eb] at m1
          exact h3 c2 m1 m2
        · rcases List.mem_cons.mp hm with hm | hm
          · rw [← eb, hm] at y
            exact S.irr _ y
          · have y2 := (List.pairwise_cons.mp ho.2.1).1 a' hm
            rw [eb] at y2
            exact S.irr _ (S.tr _ _ _ y y2)
    · have hpw := List.pairwise_iff_getElem.mp j.inc k i hkl hil z
      rw [hek, hie] at hpw
      have y : sle lt g.2 e.2 := sle_of_snoc hgs
      exact sl_irrefl S.irr _ (sl_sle S.tr hpw y)

/-! ### rows, level by level -/
def lev (ER : Nat → List (Arc α)) : Nat → List (Row α × Nat)
  | 0 => [([], 0)]
  | n + 1 => (lev ER n).flatMap fun p => (ER p.2).map fun a => (p.1 ++ [a.b], a.t)
def rows (ER : Nat → List (Arc α)) : Nat → List (Row α)
  | 0 => [[]]
  | n + 1 => rows ER n ++ (lev ER (n + 1)).map (·.1)
def judge (AL AR : List (Arc α)) (t : Option (Row α)) : List (Row α) → Bool
  | [] => match t with
    | none => true
    | some r => decide (4 < r.length) && decide (Bst.ans AL 0 r ≠ Bst.ans AR 0 r)
  | r :: rs => if t = some r then decide (Bst.ans AL 0 r ≠ Bst.ans AR 0 r) else if Bst.ans AL 0 r ≠ Bst.ans AR 0 r then false else judge AL AR t rs
/-- the state behind a row -/
def endOf (A : List (Arc α)) : Nat → Row α → Option Nat
  | x, [] => some x
  | x, b :: r => match look A x b with
    | none => none
    | some a => endOf A a.t r
theorem end_ans {A : List (Arc α)} : ∀ (r : Row α) (x : Nat), (endOf A x r).isSome = (Bst.ans A x r).isSome
  | [], x => rfl
  | b :: r, x => by
    rw [endOf, Bst.ans]
    cases look A x b with
    | none => rfl
    | some a =>
      dsimp only
      rw [end_ans r a.t]
      cases Bst.ans A a.t r <;> rfl
theorem end_app {A : List (Arc α)} : ∀ (p r : Row α) (x : Nat), endOf A x (p ++ r) = (endOf A x p).bind fun y => endOf A y r
  | [], r, x => rfl
  | b :: p, r, x => by
    rw [List.cons_append, endOf, endOf]
    cases look A x b with
    | none => rfl
    | some a => exact end_app p r a.t
theorem lev_ok (S : Sys AL AR ER lt) : ∀ n, (∀ p ∈ lev ER n, p.1.length = n ∧ endOf AR 0 p.1 = some p.2) ∧ (lev ER n).Pairwise (fun p q => sl lt p.1 q.1) ∧ ∀ r x, r.length = n → endOf AR 0 r = some x → (r, x) ∈ lev ER n
  | 0 => by
    refine ⟨fun p hp => ?_, by simp [lev], fun r x hr hx => ?_⟩
    · have : p = ([], 0) := by simpa [lev] using hp
      subst this
      exact ⟨rfl, rfl⟩
    · have : r = [] := List.length_eq_zero_iff.mp hr
      subst this
      have : 0 = x := Option.some.inj hx
      subst this
      simp [lev]
  | n + 1 => by
    obtain ⟨h1, h2, h3⟩ := lev_ok S n
    refine ⟨fun p hp => ?_, ?_, fun r x hr hx => ?_⟩
    · obtain ⟨q, hq, hp⟩ := List.mem_flatMap.mp hp
      obtain ⟨a, ha, rfl⟩ := List.mem_map.mp hp
      obtain ⟨k1, k2⟩ := h1 q hq
      refine ⟨by simp [k1], ?_⟩
      show endOf AR 0 (q.1 ++ [a.b]) = some a.t
      rw [end_app, k2]
      show endOf AR q.2 [a.b] = some a.t
      rw [endOf, (S.mem _ _).mp ha]
      rfl
    · rw [lev, List.pairwise_flatMap]
      refine ⟨fun p _ => ?_, ?_⟩
      · rw [List.pairwise_map]
        refine List.Pairwise.imp ?_ (S.ord p.2)
        intro a c h
        exact sl_same h p.1
      · refine h2.imp fun {p q} h => fun x hx y hy => ?_
        obtain ⟨a, _, rfl⟩ := List.mem_map.mp hx
        obtain ⟨c, _, rfl⟩ := List.mem_map.mp hy
        exact sl_snoc a.b c.b h
    · obtain ⟨q, c, rfl⟩ : ∃ q c, r = q ++ [c] := ⟨r.dropLast, r.getLast (by intro z; rw [z] at hr; simp at hr), (List.dropLast_concat_getLast _).symm⟩
      rw [end_app] at hx
      cases hq : endOf AR 0 q with
      | none => rw [hq] at hx; cases hx
      | some y =>
        rw [hq] at hx
        have hx' : endOf AR y [c] = some x := hx
        rw [endOf] at hx'
        cases hl : look AR y c with
        | none => rw [hl] at hx'; cases hx'
        | some a =>
          rw [hl] at hx'
          have e : a.t = x := Option.some.inj hx'
          have k := look_some hl
          refine List.mem_flatMap.mpr ⟨(q, y), h3 q y (by simpa using hr) hq, List.mem_map.mpr ⟨a, (S.mem _ _).mpr (by rw [k.2.2]; exact hl), ?_⟩⟩
          rw [k.2.2, e]
theorem rows_ok (S : Sys AL AR ER lt) : ∀ n, (∀ r ∈ rows ER n, r.length ≤ n ∧ ∃ v, Bst.ans AR 0 r = some v) ∧ (rows ER n).Pairwise (sl lt) ∧ ∀ r v, r.length ≤ n → Bst.ans AR 0 r = some v → r ∈ rows ER n
  | 0 => by
    refine ⟨fun p hp => ?_, by simp [rows], fun r v hr _ => ?_⟩
    · have : p = [] := by simpa [rows] using hp
      subst this
      exact ⟨Nat.le_refl _, _, rfl⟩
    · have : r = [] := List.length_eq_zero_iff.mp (Nat.le_zero.mp hr)
      subst this
      simp [rows]
  | n + 1 => by
    obtain ⟨h1, h2, h3⟩ := rows_ok S n
    obtain ⟨k1, k2, k3⟩ := lev_ok S (n + 1)
    refine ⟨fun r hr => ?_, ?_, fun r v hr hv => ?_⟩
    · rcases List.mem_append.mp hr with hr | hr
      · obtain ⟨q1, q2⟩ := h1 r hr
        exact ⟨by omega, q2⟩
      · obtain ⟨p, hp, rfl⟩ := List.mem_map.mp hr
        obtain ⟨q1, q2⟩ := k1 p hp
        refine ⟨by omega, ?_⟩
        have e := end_ans (A := AR) p.1 0
        rw [q2] at e
        exact Option.isSome_iff_exists.mp e.symm
    · rw [rows, List.pairwise_append]
      refine ⟨h2, by rw [List.pairwise_map]; exact k2, fun r hr q hq => ?_⟩
      obtain ⟨p, hp, rfl⟩ := List.mem_map.mp hq
      have := (h1 r hr).1
      have := (k1 p hp).1
      exact .inl (by omega)
    · by_cases hl : r.length = n + 1
      · have e := end_ans (A := AR) r 0
        rw [hv] at e
        obtain ⟨x, hx⟩ := Option.isSome_iff_exists.mp e
        exact List.mem_append_right _ (List.mem_map.mpr ⟨(r, x), k3 r x hl hx, rfl⟩)
      · exact List.mem_append_left _ (h3 r v (by omega) hv)
theorem judge_ok (S : Sys AL AR ER lt) : judge AL AR (told AL ER) (rows ER 4) = true := by
  obtain ⟨h1, h2, h3⟩ := rows_ok S 4
  rcases told_ok S with ⟨t, ht, hit⟩ | ⟨hn, _⟩
  · rw [ht]
    obtain ⟨⟨v, hv⟩, hne⟩ := hit.ans S
    have main : ∀ (l pre : List (Row α)), rows ER 4 = pre ++ l → (∀ r ∈ pre, r ≠ t) → judge AL AR (some t) l = true := by
      intro l
      induction l with
      | nil =>
        intro pre e hp
        have hlen : 4 < t.length := by
          refine Nat.lt_of_not_le fun hle => ?_
          have hm := h3 t v hle hv
          rw [e, List.append_nil] at hm
          exact hp t hm rfl
        rw [judge]
        simp [hlen, hne]
      | cons r l ih =>
        intro pre e hp
        rw [judge]
        by_cases hr : t = r
        · subst hr
          rw [if_pos rfl]
          exact decide_eq_true hne
        · rw [if_neg (by simpa using hr)]
          have hrm : r ∈ rows ER 4 := by rw [e]; simp
          obtain ⟨hr4, u, hu⟩ := h1 r hrm
          have hs : sl lt r t := by
            by_cases hle : t.length ≤ 4
            · have hm := h3 t v hle hv
              rw [e] at hm
              rcases List.mem_append.mp hm with hm | hm
              · exact absurd rfl (hp t hm)
              · rcases List.mem_cons.mp hm with hm | hm
                · exact absurd hm hr
                · have hp2 := h2
                  rw [e, List.pairwise_append] at hp2
                  exact (List.pairwise_cons.mp hp2.2.1).1 t hm
            · exact .inl (by omega)
          rw [if_neg (by simp [hit.first S hu hs, hu])]
          exact ih (pre ++ [r]) (by rw [e]; simp) fun q hq => by
            rcases List.mem_append.mp hq with hq | hq
            · exact hp q hq
            · simp at hq
              rw [hq]
              exact fun z => hr z.symm
    exact main _ [] rfl (by simp)
  · rw [hn]
    obtain ⟨P, M⟩ := sim_of S hn
    have main : ∀ l : List (Row α), (∀ r ∈ l, r ∈ rows ER 4) → judge AL AR none l = true := by
      intro l
      induction l with
      | nil => intro _; rfl
      | cons r l ih =>
        intro h
        obtain ⟨_, u, hu⟩ := h1 r (h r (by simp))
        rw [judge, if_neg (by simp), if_neg (by rw [hu, sim_ans M r (0, 0) u M.zero hu]; simp)]
        exact ih fun q hq => h q (by simp [hq])
    exact main _ fun _ h => h
end inv

/-! ### inputs fed one by one -/
section feed
def wth (a b : List α) : Bool := a.all fun x => decide (x ∈ b)
def more (ins arr : List α) (n : α) : List α := ins.filter fun m => decide (m ∈ arr ∨ m = n)
def go (A : List (Arc α)) (ins : List α) (s : Nat × List α) (n : α) : Option ((Nat × List α) × List α) :=
  if n ∈ s.2 then none else
  match look A s.1 (more ins s.2 n) with
  | some a => some ((a.t, []), a.f)
  | none => if (A.any fun a => decide (a.s = s.1) && wth (more ins s.2 n) a.b) = true then some ((s.1, more ins s.2 n), []) else none
/-- no burst lies in another one of its state -/
def Anti (A : List (Arc α)) : Prop := A.Pairwise fun a c => a.s = c.s → wth a.b c.b = false ∧ wth c.b a.b = false
theorem wth_refl (a : List α) : wth a a = true := List.all_eq_true.mpr fun x hx => decide_eq_true hx
theorem anti_eq {A : List (Arc α)} (h : Anti A) {a c : Arc α} (ha : a ∈ A) (hc : c ∈ A) (e : a.s = c.s) (w : wth a.b c.b = true) : a = c := by
  obtain ⟨i, hi⟩ := List.mem_iff_getElem?.mp ha
  obtain ⟨k, hk⟩ := List.mem_iff_getElem?.mp hc
  obtain ⟨hil, hie⟩ := List.getElem?_eq_some_iff.mp hi
  obtain ⟨hkl, hke⟩ := List.getElem?_eq_some_iff.mp hk
  rcases Nat.lt_trichotomy i k with z | z | z
  · have := List.pairwise_iff_getElem.mp h i k hil hkl z
    rw [hie, hke] at this
    rw [(this e).1] at w
    cases w
  · subst z
    exact hie.symm.trans hke
  · have := List.pairwise_iff_getElem.mp h k i hkl hil z
    rw [hie, hke] at this
    rw [(this e.symm).2] at w
    cases w
theorem look_of {A : List (Arc α)} (h : Anti A) {a : Arc α} (ha : a ∈ A) : look A a.s a.b = some a := by
  cases hl : look A a.s a.b with
  | none =>
    have := List.find?_eq_none.mp hl a ha
    simp at this
  | some c =>
    obtain ⟨k1, k2, k3⟩ := look_some hl
    rw [anti_eq h k1 ha k2 (by rw [k3]; exact wth_refl _)]
theorem go_sim {AL AR : List (Arc α)} {P : Nat × Nat → Prop} (M : Sim AL AR P) (hL : Anti AL) {ins : List α} {x y : Nat} {arr : List α} {n : α} {y' : Nat} {arr' : List α} {f : List α} (hR : Anti AR)
    (hp : P (x, y)) (h : go AR ins (y, arr) n = some ((y', arr'), f)) : ∃ x', go AL ins (x, arr) n = some ((x', arr'), f) ∧ P (x', y') := by
  unfold go at h ⊢
  dsimp only at h ⊢
  by_cases hn : n ∈ arr
  · rw [if_pos hn] at h; cases h
  · rw [if_neg hn] at h ⊢
    cases h1 : look AR y (more ins arr n) with
    | some a =>
      rw [h1] at h
      dsimp only at h
      obtain ⟨c, h2, h3, h4⟩ := M.go (x, y) _ a hp h1
      rw [h2]
      dsimp only
      injection h with h
      injection h with e1 e2
      injection e1 with e3 e4
      subst e3 e4 e2
      exact ⟨c.t, by rw [h3], h4⟩
    | none =>
      rw [h1] at h
      dsimp only at h
      by_cases hw : (AR.any fun a => decide (a.s = y) && wth (more ins arr n) a.b) = true
      · rw [if_pos hw] at h
        injection h with h
        injection h with e1 e2
        injection e1 with e3 e4
        subst e3 e4 e2
        obtain ⟨a, ha, hb⟩ := List.any_eq_true.mp hw
        rw [Bool.and_eq_true] at hb
        obtain ⟨hb1, hb2⟩ := hb
        have hs : a.s = y := of_decide_eq_true hb1
        have hla : look AR y a.b = some a := by rw [← hs]; exact look_of hR ha
        obtain ⟨c, h2, h3, h4⟩ := M.go (x, y) _ a hp hla
        obtain ⟨c1, c2, c3⟩ := look_some h2
        have hno : look AL x (more ins arr n) = none := by
          cases hl : look AL x (more ins arr n) with
          | none => rfl
          | some d =>
            obtain ⟨d1, d2, d3⟩ := look_some hl
            have e : d = c := anti_eq hL d1 c1 (d2.trans c2.symm) (by rw [d3, c3]; exact hb2)
            rw [e, c3] at d3
            rw [d3, h1] at hla
            cases hla
        rw [hno]
        dsimp only
        have hany : (AL.any fun a => decide (a.s = x) && wth (more ins arr n) a.b) = true := List.any_eq_true.mpr ⟨c, c1, by
          rw [Bool.and_eq_true]
          exact ⟨decide_eq_true c2, by rw [c3]; exact hb2⟩⟩
        rw [if_pos hany]
        exact ⟨x, rfl, hp⟩
      · rw [if_neg hw] at h
        cases h
/-- a row of inputs, fed from a standing on -/
def feeds (A : List (Arc α)) (ins : List α) : Nat × List α → List α → Option (List (List α))
  | _, [] => some []
  | s, n :: ns => match go A ins s n with
    | none => none
    | some (s', f) => (feeds A ins s' ns).map (f :: ·)
theorem feeds_sim {AL AR : List (Arc α)} {P : Nat × Nat → Prop} (M : Sim AL AR P) (hL : Anti AL) (hR : Anti AR) {ins : List α} : ∀ (ns : List α) (x y : Nat) (arr : List α) (v : List (List α)), P (x, y) → feeds AR ins (y, arr) ns = some v → feeds AL ins (x, arr) ns = some v
  | [], _, _, _, _, _, h => h
  | n :: ns, x, y, arr, v, hp, h => by
    rw [feeds] at h
    cases hg : go AR ins (y, arr) n with
    | none => rw [hg] at h; cases h
    | some q =>
      obtain ⟨⟨y', arr'⟩, f⟩ := q
      rw [hg] at h
      dsimp only at h
      obtain ⟨x', h1, h2⟩ := go_sim M hL hR hp hg
      rw [feeds, h1]
      dsimp only
      cases hf : feeds AR ins (y', arr') ns with
      | none => rw [hf] at h; cases h
      | some w =>
        rw [hf] at h
        rw [feeds_sim M hL hR ns x' y' arr' w h2 hf]
        exact h
end feed
end bfs
end Bst

/-! Rules that the layer lacks, 1: zip of a text and a tuple, enumerate of a tuple. -/
namespace Bs
open PySem PySem.Spec PyProof.Rows L2

/-- a text and the tuple at b, in new pairs -/
def ItzS (K : PySem.W.Frag) (x : Str) (b : Addr) : It :=
  ⟨fun i H => ∃ (ys : List V) (y : V) (c : Nat), SqT K H b ys ∧ x.cps[i]? = some c ∧ ys[i]? = some y,
    fun i H v H' => ∃ T c y, v = .ref T ∧ H T = none ∧ H' = upd H T (.tup [.str ⟨#[c]⟩, y]) ∧ x.cps[i]? = some c ∧ ∀ ys, SqT K H b ys → ys[i]? = some y,
    fun i H => ∃ ys : List V, SqT K H b ys ∧ i = min x.cps.size ys.length⟩
theorem turn_zipS {P : Program} {w : World} {K : PySem.W.Frag} {elts : List Expr} {kk : Nat} {tpos : Pos} {x : Str} {t : Tok} {b z TI TO i1 i2 : Addr} (D : ZipSep2 z TI TO i1 i2 [i1] [i2, b]) (hb1 : b ≠ i1) (hb2 : b ≠ i2) (hi : i1 ≠ i2) (hbT : b ≠ TI) :
    Turn P w K (.Tuple elts kk tpos) (ItzS K x b) [z, TI, TO, i1, i2] z (fun i h => IsZip h z TI TO .none ∧ IsTupOf2 h TI (.ref i1) (.ref i2) ∧ (∃ x y, IsTupOf2 h TO x y) ∧ h.IsStrIter i1 (strIterType x) x t i ∧ h.IsTupleIter i2 b i) where
  mem := by simp
  obj := fun i h st c hc => by
    obtain ⟨hz, hTI, ⟨x, y, hTO⟩, ⟨o1, e1, _, d1⟩, ⟨o2, e2, _, d2⟩⟩ := st
    have e' : c = z ∨ c = TI ∨ c = TO ∨ c = i1 ∨ c = i2 := by simpa using hc
    rcases e' with q | q | q | q | q
    · rw [q]; exact ⟨_, hz, fun v q => nomatch q⟩
    · rw [q]; exact ⟨_, hTI, fun v q => nomatch q⟩
    · rw [q]; exact ⟨_, hTO, fun v q => nomatch q⟩
    · rw [q]; exact ⟨o1, e1, fun v q => by rw [d1] at q; cases q⟩
    · rw [q]; exact ⟨o2, e2, fun v q => by rw [d2] at q; cases q⟩
  keep := fun i h h' st k => by
    obtain ⟨hz, hTI, ⟨x, y, hTO⟩, ⟨o1, e1, r1⟩, h2⟩ := st
    exact ⟨k z (by simp) _ hz, k TI (by simp) _ hTI, ⟨x, y, k TO (by simp) _ hTO⟩, ⟨o1, k i1 (by simp) _ e1, r1⟩, h2.at fun o q => k i2 (by simp) o q⟩
  item := by
    intro X hP hw hK hc i pins s σ H E I hf st hg
    subst hP hw hK
    obtain ⟨ys, y, c, hq, hcx, hy⟩ := hg
    obtain ⟨its, rv, p, _⟩ := I.tuple hq
    have hh : X.A.in1.handled = none := I.ok.hd hc
    have W := GoesN.zip2 (elts := elts) (x1 := kk) (pos := tpos) (A := X.A) D (Draws.text (prog := X.prog) (w := X.w) hh i1 x t) (Draws.tuple (prog := X.prog) (w := X.w) hh i2 b hb2 its.toArray)
    have hn : i < min x.cps.size its.toArray.size := by
      have h1 : i < x.cps.size := by
        rw [Array.getElem?_eq_some_iff] at hcx
        exact hcx.1
      have h2 : i < ys.length := (List.getElem?_eq_some_iff.mp hy).1
      have h3 := rv.length
      have h4 : its.toArray.size = its.length := List.size_toArray
      omega
    refine W.goes i s _ E hn ⟨st.1, st.2.1, st.2.2.1, st.2.2.2.1, st.2.2.2.2, p⟩ fun v h' tk hY st' hk htk => ?_
    obtain ⟨T, x', y', rfl, hT, ⟨c', u', hc', rfl⟩, hy', hTT⟩ := hY
    obtain ⟨u, hu, ru⟩ := rv.get hy
    have ey : y' = u := by
      have q1 : its.toArray[i]? = some y' := hy'
      rw [List.getElem?_toArray, hu] at q1
      exact (Option.some.inj q1).symm
    subst ey
    have new : ObjOk X.prog X.w (upd H T (.tup [.str ⟨#[c']⟩, y])) h' T (.tup [.str ⟨#[c']⟩, y]) := by
      obtain ⟨o, ho, hcl, n, hd⟩ := hTT
      exact ⟨by show 2 ≤ sizeLine; decide, [_, _], .cons ⟨_, rfl⟩ (.cons ru .nil), ⟨o, ho, hcl, n, hd⟩⟩
    have hfr : ∀ b' ∈ [z, TO, i1, i2], FpOk X pins H b' := fun b' hb' => hf b' (by
      have : b' = z ∨ b' = TO ∨ b' = i1 ∨ b' = i2 := by simpa using hb'
      rcases this with q | q | q | q <;> simp [q])
    refine ⟨.ref T, upd H T (.tup [.str ⟨#[c']⟩, y]), I.turnedNew (t' := tk) (ch := [z, TO, i1, i2]) hk hfr hT new, rfl, ⟨T, c', y, rfl, I.hok.fresh hT, rfl, hc', fun l hl => by rw [I.tuple_inj hl hq]; exact hy⟩, ⟨st'.1, st'.2.1, st'.2.2.1, st'.2.2.2.1, st'.2.2.2.2.1⟩, fun c hcm => ?_⟩
    have hlt : c < s.heap.objs.size := by
      obtain ⟨hz, hTI, ⟨x0, y0, hTO⟩, ⟨o1, e1, _⟩, ⟨o2, e2, _⟩⟩ := st
      have e' : c = z ∨ c = TI ∨ c = TO ∨ c = i1 ∨ c = i2 := by simpa using hcm
      rcases e' with q | q | q | q | q
      · rw [q]; exact Heap.lt_size hz
      · rw [q]; exact Heap.lt_size hTI
      · rw [q]; exact Heap.lt_size hTO
      · rw [q]; exact Heap.lt_size e1
      · rw [q]; exact Heap.lt_size e2
    rw [upd_ne (Nat.ne_of_lt (Nat.lt_of_lt_of_le hlt hT))]
    exact (hf c hcm).1
  done := by
    intro X hP hw hK hc i pins s σ H E I hf st hg
    subst hP hw hK
    obtain ⟨ys, hq, hi'⟩ := hg
    obtain ⟨its, rv, p, _⟩ := I.tuple hq
    have hh : X.A.in1.handled = none := I.ok.hd hc
    have W := GoesN.zip2 (elts := elts) (x1 := kk) (pos := tpos) (A := X.A) D (Draws.text (prog := X.prog) (w := X.w) hh i1 x t) (Draws.tuple (prog := X.prog) (w := X.w) hh i2 b hb2 its.toArray)
    have hn : i = min x.cps.size its.toArray.size := by
      have h3 := rv.length
      have h4 : its.toArray.size = its.length := List.size_toArray
      omega
    subst hn
    have hfr : ∀ b' ∈ [z, TO, i1, i2], FpOk X pins H b' := fun b' hb' => hf b' (by
      have : b' = z ∨ b' = TO ∨ b' = i1 ∨ b' = i2 := by simpa using hb'
      rcases this with q | q | q | q <;> simp [q])
    refine thn (W.stops s (fun s1 => Inv X pins σ H s1) E ⟨st.1, st.2.1, st.2.2.1, st.2.2.2.1, st.2.2.2.2, p⟩ fun h' tk hk _ => I.turnedL (t' := tk) (ch := [z, TO, i1, i2]) hk hfr) fun r s1 h => h
  self := fun A i s Q E st h => wpAny_pyIter_zip st.1 h
def iZipS (K : PySem.W.Frag) (ta : TA) : TI := fun σ H R => ta σ H fun vs H1 => ∃ x b ys, vs = [.str x, .ref b] ∧ SqT K H1 b ys ∧ R (ItzS K x b) H1
theorem pi_zipS {X : Cx} {e e2 : Expr} {ta : TA} {p pos tpos : Pos} {elts : List Expr} {kk : Nat} (hg : Gl X "zip") (hm : X.mg "zip" = none) (ha : PA X [e, e2] ta)
    (hs : starEach [e, e2] X.env = (false, eval e X.env) :: starEach [e2] X.env := by rfl) (hpl : (backTo pos (starEach [e2] X.env)).any (·.1) = false := by rfl) :
    PI X (.Tuple elts kk tpos) (.Call (.Name "zip" p) [e, e2] [] pos) (iZipS X.K ta) := by
  refine ⟨fun pins s σ H R I h => ?_⟩
  refine Call_ (ld_blt I hg hm PyProof.Rows.boot_zip (PyProof.Rows.callWith_type1 (thn (ha.run pos pins s σ H _ I h) fun us s1 ⟨vs, H1, I1, r1, q1⟩ => ?_) hs hpl))
  obtain ⟨x, b, ys, ex, hq, q⟩ := q1
  subst ex
  cases r1 with
  | cons r rr =>
    cases rr with
    | cons r' rr =>
      cases rr
      obtain ⟨t, rfl⟩ := r
      cases r'
      have fresh5 : ∀ c, c ∈ [s1.heap.objs.size + 4, s1.heap.objs.size + 2, s1.heap.objs.size + 3, s1.heap.objs.size, s1.heap.objs.size + 1] → FpOk X pins H1 c := fun c hcm => by
        have e' : c = s1.heap.objs.size + 4 ∨ c = s1.heap.objs.size + 2 ∨ c = s1.heap.objs.size + 3 ∨ c = s1.heap.objs.size ∨ c = s1.heap.objs.size + 1 := by simpa using hcm
        have hle : s1.heap.objs.size ≤ c := by
          rcases e' with z | z | z | z | z
          · rw [z]; exact Nat.le_add_right _ _
          · rw [z]; exact Nat.le_add_right _ _
          · rw [z]; exact Nat.le_add_right _ _
          · rw [z]; exact Nat.le_refl _
          · rw [z]; exact Nat.le_add_right _ _
        exact I1.fpOk hle (I1.hok.fresh hle)
      obtain ⟨its, rv, p1, _⟩ := I1.tuple hq
      have hbl : b < s1.heap.objs.size := p1.lt
      refine zip_begins2 (begins_text x t) (begins_tuple b its.toArray) trivial p1 fun h' hz hTI hTO h1 h2 hsz hk => wpAny_pyIter_zip hz ?_
      have I2 : Inv X pins σ H1 { s1 with heap := h' } := I1.kept (t' := s1.toks) hk
      refine ⟨s1.heap.objs.size + 4, [s1.heap.objs.size + 4, s1.heap.objs.size + 2, s1.heap.objs.size + 3, s1.heap.objs.size, s1.heap.objs.size + 1], _, _, H1, rfl, I2,
        turn_zipS (t := t) (zip_sep2 (fp1 := []) (fp2 := [b]) (fun _ h => nomatch h) (fun c hc => by rw [List.mem_singleton.mp hc]; exact hbl)) (Nat.ne_of_lt hbl) (Nat.ne_of_lt (Nat.lt_succ_of_lt hbl)) (Nat.ne_of_lt (Nat.lt_succ_self _)) (Nat.ne_of_lt (Nat.lt_of_lt_of_le hbl (Nat.le_add_right _ _))),
        ⟨hz, hTI, ⟨_, _, hTO⟩, ⟨_, h1, rfl, rfl⟩, ⟨_, h2, rfl, rfl⟩⟩, fresh5, q⟩

/-! ### enumerate of a tuple -/
theorem meets_enumerate_newT (l : Addr) (items : Array Value) (n : Nat) (dct : Option Addr) (sl : Array (Option Value)) :
    Meets (Builtin.«enumerate.__new__» ⟨[.type "enumerate", .ref l], []⟩) (fun _ R s => s.heap.get? l = some { cls := .type "tuple", dict := dct, data := .seq items n, slots := sl } ∧
      R (.ok (.ret (.ref (s.heap.push { cls := .type "tuple_iterator", data := .fields #[.ref l, .int 0 0] }).objs.size)))
        { s with heap := (s.heap.push { cls := .type "tuple_iterator", data := .fields #[.ref l, .int 0 0] }).push { cls := .type "enumerate", data := .fields #[.none, .bool false, .ref s.heap.objs.size, rawInt 0, .none, .none] } }) :=
  .of_wp fun prog w A R s h => by
    obtain ⟨hp, g, d, tk, os⟩ := s; obtain ⟨hl, h⟩ := h
    have hsub := sub_enumerate
    have hL : Heap.IsTuple (Shared.heap ⟨hp, g, d, tk, os⟩) l items := ⟨_, hl, rfl, n, rfl⟩
    wp_walk using AutoSeq1.wpAny_loadPart' hl
    refine wpAny_stack_any fun st => wpAny_pure ?_
    split
    · rename_i c _ _ _ _ _
      cases (c == Value.type "enumerate")
      · wp_walk using AutoSeq1.wpAny_loadPart' hl, wpAny_pyIter_tuple hL
        exact ⟨_, rfl, h⟩
      · wp_walk using AutoSeq1.wpAny_loadPart' hl, wpAny_pyIter_tuple hL
        exact ⟨_, rfl, h⟩
    · wp_walk using AutoSeq1.wpAny_loadPart' hl, wpAny_pyIter_tuple hL
      exact ⟨_, rfl, h⟩
theorem call_enumerate_tuple {prog : Program} {w : World} {A : Around} {E : Value → Shared → Prop} {s : Shared} {l : Addr} {items : Array Value} {Q : Value → Shared → Prop} (hL : s.heap.IsTuple l items)
    (h : ∀ h', IsEnum h' (s.heap.objs.size + 1) s.heap.objs.size 0 .none → h'.IsTupleIter s.heap.objs.size l 0 → h'.objs.size = s.heap.objs.size + 2 →
      (∀ b o, s.heap.get? b = some o → h'.get? b = some o) → Q (.ref (s.heap.objs.size + 1)) { s with heap := h' }) :
    wpAny (model prog w) A (call (.type "enumerate") [.ref l]) Q E s := by
  obtain ⟨⟨c, dct, dt, sl⟩, hl, hc, n, hd⟩ := hL
  replace hc : c = .type "tuple" := hc
  replace hd : dt = .seq items n := hd
  subst hc hd
  refine callType_new F.called_enumerate (by decide) (F.typeCall_enumerate_1 _) (F.newCall_enumerate_1 _) (fun obj => F.args_object_init_2 obj _) F.entry_enumerate_new
    (meets_enumerate_newT l items n dct sl) ⟨hl, ?_⟩
  have hz : (s.heap.push { cls := .type "tuple_iterator", data := .fields #[.ref l, .int 0 0] }).objs.size = s.heap.objs.size + 1 := Heap.size_push ..
  show _ ∧ _
  rw [hz]
  have he : IsEnum ((s.heap.push { cls := .type "tuple_iterator", data := .fields #[.ref l, .int 0 0] }).push
      { cls := .type "enumerate", data := .fields #[.none, .bool false, .ref s.heap.objs.size, rawInt 0, .none, .none] }) (s.heap.objs.size + 1) s.heap.objs.size 0 .none := by
    have := Heap.get?_push_size (s.heap.push { cls := .type "tuple_iterator", data := .fields #[.ref l, .int 0 0] })
      (o := { cls := .type "enumerate", data := .fields #[.none, .bool false, .ref s.heap.objs.size, rawInt 0, .none, .none] }) rfl
    rw [hz] at this; exact this
  refine ⟨⟨_, he, rfl⟩, h _ he ⟨_, Heap.get?_push_of_some _ (Heap.get?_push_size _ rfl), rfl, rfl⟩ (by rw [Heap.size_push, hz]) fun b o x => Heap.get?_push_of_some _ (Heap.get?_push_of_some _ x)⟩
/-- the tuple at a, its items counted, in new pairs -/
def IteT (K : PySem.W.Frag) (a : Addr) : It :=
  ⟨fun i H => ∃ (xs : List V) (x : V), SqT K H a xs ∧ xs[i]? = some x,
    fun i H v H' => ∃ T x, v = .ref T ∧ H T = none ∧ H' = upd H T (.tup [.int (i : Int), x]) ∧ ∀ xs, SqT K H a xs → xs[i]? = some x,
    fun i H => ∃ xs : List V, SqT K H a xs ∧ i = xs.length⟩
theorem turn_enumT {P : Program} {w : World} {K : PySem.W.Frag} {elts : List Expr} {kk : Nat} {tpos : Pos} (a e it : Addr) (hai : a ≠ it) (hae : a ≠ e) :
    Turn P w K (.Tuple elts kk tpos) (IteT K a) [e, it] e (fun i h => (∃ old, IsEnum h e it ((i : Nat) : Int) old) ∧ h.IsTupleIter it a i ∧ e ≠ it) where
  mem := by simp
  obj := fun i h st c hc => by
    obtain ⟨⟨old, he⟩, ⟨o2, e2, _, d2⟩, _⟩ := st
    have e' : c = e ∨ c = it := by simpa using hc
    rcases e' with q | q
    · rw [q]; exact ⟨_, he, fun v q => nomatch q⟩
    · rw [q]; exact ⟨o2, e2, fun v q => by rw [d2] at q; cases q⟩
  keep := fun i h h' st k => by
    obtain ⟨⟨old, he⟩, h2, hne⟩ := st
    exact ⟨⟨old, k e (by simp) _ he⟩, h2.at fun o q => k it (by simp) o q, hne⟩
  item := by
    intro X hP hw hK hc i pins s σ H E I hf st hg
    subst hP hw hK
    obtain ⟨xs, x, hq, hx⟩ := hg
    obtain ⟨its, rv, p, _⟩ := I.tuple hq
    have hh : X.A.in1.handled = none := I.ok.hd hc
    obtain ⟨⟨old, he⟩, hit, hne⟩ := id st
    have W := GoesN.enumFrom (elts := elts) (x1 := kk) (pos := tpos) (A := X.A) (prog := X.prog) (w := X.w) 0 (Draws.tuple (prog := X.prog) (w := X.w) hh it a hai its.toArray) e hne (by simp [hne, hae.symm]) (by simp)
    have hn : i < its.toArray.size := by
      have h2 : i < xs.length := (List.getElem?_eq_some_iff.mp hx).1
      have h3 := rv.length
      rw [List.size_toArray]
      omega
    refine W.goes i s _ E hn ⟨⟨old, by rw [Int.zero_add]; exact he⟩, hit, p⟩ fun v h' tk hY st' hk htk => ?_
    obtain ⟨T, t, y', rfl, hT, hy', hTT⟩ := hY
    obtain ⟨u, hu, ru⟩ := rv.get hx
    have ey : y' = u := by
      have q1 : its.toArray[i]? = some y' := hy'
      rw [List.getElem?_toArray, hu] at q1
      exact (Option.some.inj q1).symm
    subst ey
    rw [Int.zero_add] at hTT
    have new : ObjOk X.prog X.w (upd H T (.tup [.int (i : Int), x])) h' T (.tup [.int (i : Int), x]) := by
      obtain ⟨o, ho, hcl, n, hd⟩ := hTT
      exact ⟨by show 2 ≤ sizeLine; decide, [_, _], .cons ⟨_, rfl⟩ (.cons ru .nil), ⟨o, ho, hcl, n, hd⟩⟩
    obtain ⟨⟨old', he'⟩, hit', _⟩ := st'
    refine ⟨.ref T, upd H T (.tup [.int (i : Int), x]), I.turnedNew (t' := tk) (ch := [e, it]) hk hf hT new, rfl, ⟨T, x, rfl, I.hok.fresh hT, rfl, fun l hl => by rw [I.tuple_inj hl hq]; exact hx⟩, ⟨⟨old', by rw [Int.zero_add] at he'; exact he'⟩, hit', hne⟩, fun c hcm => ?_⟩
    have hlt : c < s.heap.objs.size := by
      obtain ⟨o2, e2, _⟩ := hit
      have e' : c = e ∨ c = it := by simpa using hcm
      rcases e' with q | q
      · rw [q]; exact Heap.lt_size he
      · rw [q]; exact Heap.lt_size e2
    rw [upd_ne (Nat.ne_of_lt (Nat.lt_of_lt_of_le hlt hT))]
    exact (hf c hcm).1
  done := by
    intro X hP hw hK hc i pins s σ H E I hf st hg
    subst hP hw hK
    obtain ⟨xs, hq, hi'⟩ := hg
    obtain ⟨its, rv, p, _⟩ := I.tuple hq
    have hh : X.A.in1.handled = none := I.ok.hd hc
    obtain ⟨⟨old, he⟩, hit, hne⟩ := id st
    have W := GoesN.enumFrom (elts := elts) (x1 := kk) (pos := tpos) (A := X.A) (prog := X.prog) (w := X.w) 0 (Draws.tuple (prog := X.prog) (w := X.w) hh it a hai its.toArray) e hne (by simp [hne, hae.symm]) (by simp)
    have hn : i = its.toArray.size := by
      rw [List.size_toArray, ← rv.length]
      exact hi'
    subst hn
    refine thn (W.stops s (fun s1 => Inv X pins σ H s1) E ⟨⟨old, by rw [Int.zero_add]; exact he⟩, hit, p⟩ fun h' tk hk _ => I.turnedL (t' := tk) (ch := [e, it]) hk hf) fun r s1 h => h
  self := fun A i s Q E st h => by
    obtain ⟨⟨old, he⟩, _⟩ := st
    exact wpAny_pyIter_enum he h
def iEnumT (K : PySem.W.Frag) (ta : TA) : TI := fun σ H R => ta σ H fun vs H1 => ∃ a xs, vs = [.ref a] ∧ SqT K H1 a xs ∧ R (IteT K a) H1
theorem pi_enumT {X : Cx} {e : Expr} {ta : TA} {p pos tpos : Pos} {elts : List Expr} {kk : Nat} (hg : Gl X "enumerate") (hm : X.mg "enumerate" = none) (ha : PA X [e] ta) (hs : starEach [e] X.env = [(false, eval e X.env)] := by rfl) :
    PI X (.Tuple elts kk tpos) (.Call (.Name "enumerate" p) [e] [] pos) (iEnumT X.K ta) := by
  refine ⟨fun pins s σ H R I h => ?_⟩
  refine Call_ (ld_blt I hg hm boot_enumerate (PyProof.Rows.callWith_type1 (thn (ha.run pos pins s σ H _ I h) fun us s1 ⟨vs, H1, I1, r1, q1⟩ => ?_) hs rfl))
  obtain ⟨a, xs, ex, hq, q⟩ := q1
  subst ex
  cases r1 with
  | cons r rr =>
    cases rr
    cases r
    obtain ⟨its, rv, p', hz⟩ := I1.tuple hq
    have hal : a < s1.heap.objs.size := p'.lt
    refine call_enumerate_tuple p' fun h' he hit hsz hk => wpAny_pyIter_enum he ?_
    have I2 : Inv X pins σ H1 { s1 with heap := h' } := I1.kept (t' := s1.toks) hk
    refine ⟨s1.heap.objs.size + 1, [s1.heap.objs.size + 1, s1.heap.objs.size], _, _, H1, rfl, I2, turn_enumT a (s1.heap.objs.size + 1) s1.heap.objs.size (Nat.ne_of_lt hal) (Nat.ne_of_lt (Nat.lt_succ_of_lt hal)), ⟨⟨.none, he⟩, hit, Nat.succ_ne_self _⟩, fun b hb => ?_, q⟩
    have e' : b = s1.heap.objs.size + 1 ∨ b = s1.heap.objs.size := by simpa using hb
    have hle : s1.heap.objs.size ≤ b := by
      rcases e' with z | z
      · rw [z]; exact Nat.le_add_right _ _
      · rw [z]; exact Nat.le_refl _
    exact I1.fpOk hle (I1.hok.fresh hle)
end Bs

/-! Rules that the layer lacks, 2: a dict comprehension and a display whose keys are tuples; a call by keywords alone; text * int. -/
namespace Bs
open PySem PySem.Spec PyProof.Rows L2

theorem tK_room {P : Program} {w : World} {A : Around} (hu : A.units + 1 < cLine) : (tupleKind (mixKind P w)).room A := by
  show A.units < cLine
  exact Nat.lt_of_succ_lt hu
/-- d[t] = v, t a tuple, as a display or a comprehension stores -/
theorem dT_put {X : Cx} {A : Around} {pins : List (Addr × Obj)} {σ : L2.St} {H : Hp} {s : Shared} {E : Value → Shared → Prop} {D b : Addr} {kvs : List (List Key × V)} {k : List Key} {v : V} {r : Value} {Q : Unit → Shared → Prop}
    (hu : (tupleKind (mixKind X.prog X.w)).room A) (I : Inv X pins σ H s) (hD : H D = some (.dT kvs)) (hb : H b = some (.tup (k.map kV))) (hz : kvs.length < sizeLine) (rv : RelV v r)
    (h : ∀ s', Inv X pins σ (upd H D (.dT (putK kvs k v))) s' → Q () s') : wpAny (model X.prog X.w) A (dictSet D (.ref b) r) Q E s := by
  obtain ⟨z, hd, xs, rel, dd⟩ := dt_of I.hok hD
  have e1 : xs.length ≤ sizeLine := Nat.le_trans (Nat.le_of_eq (Paired.length rel).symm) z
  have e2 : (putK kvs k v).length ≤ sizeLine := Nat.le_trans (length_putK kvs k v) hz
  refine wpAny_dictSet_heap (hsz := e1) hu (key_of I.hok hb) dd fun h' dd' hs => h _ ?_
  obtain ⟨q, es, ep, hq, c2, c3, c4, _, c5⟩ := dd'
  have rel' : KT (upd H D (.dT (putK kvs k v))) (putK kvs k v) (storedH xs k b r) := (rel.put k hb rv).keeps fun c ys ec => (upd_ne (ne_of ec hD fun z => nomatch z)).trans ec
  exact d_write I (by rw [hD]; exact True.intro) hs ⟨q, hq⟩ ⟨e2, hd, _, rel', q, es, ep, hq, c2, c3, c4, c5⟩

/-! ### {k: v for ..}, the keys tuples -/
section
variable {X : Cx}
def tDcT (wi : TI) (g : TG) (tt : TT) (tk tv : TE) (vs : List Nat) : TE := fun σ H Q => wi σ H fun J H1 => ∀ D, H1 D = none → ∃ W : Nat → Nat → Hp → Prop, (∃ m, W 0 m (upd H1 D (.dT []))) ∧ ∀ i m H, W i m H →
  (J.stop i H ∧ Q (.ref D) H) ∨ (J.go i H ∧ ∃ Nx : Hp → Prop, (∀ H', Nx H' → ∃ m', m' < m ∧ W (i + 1) m' H') ∧ ∀ x H', J.yld i H x H' → g x (wipe σ vs) H' fun σ2 H2 => wipe σ2 vs = wipe σ vs ∧ tt σ2 H2 fun b H3 =>
    if b = true then tk σ2 H3 fun y H4 => tv σ2 H4 fun z H5 => ∃ kvs k t, y = .ref t ∧ H5 t = some (.tup (k.map kV)) ∧ H5 D = some (.dT kvs) ∧ kvs.length < sizeLine ∧ Nx (upd H5 D (.dT (putK kvs k z))) else Nx H3)
abbrev blkX (X : Cx) (s : Shared) (H : Hp) (scope : Scope) (C : Addr) (cl : List (Str × Addr)) (fp : List Addr) : Cx := X.blk s H scope (compEnvC scope cl C X.env) fp
theorem dcT_core {pins : List (Addr × Obj)} {s : Shared} {σ : L2.St} {H : Hp} {Q : VK} {kx vx tg iter : Expr} {ifs : List Expr} {scope : Scope} {own : List (Str × Nat)} {pos pos' : Pos} {wi : TI} {g : TG} {tt : TT} {tk tv : TE} {use : Option (Value → Sem Unit)} {Qf : Value → Shared → Prop}
    (hc : X.calm = true) (hu : X.A.units + 1 < cLine) (hN : X.N.Nodup) (I : Inv X pins σ H s) (hi : PI X tg iter wi) (ok : BlkOk X.N X.env.scope scope own)
    (hg : ∀ s H C cl fp, PG (blkX X s H scope C cl fp) tg g) (ht : ∀ s H C cl fp, PTs (blkX X s H scope C cl fp) ifs tt) (hk : ∀ s H C cl fp, PE (blkX X s H scope C cl fp) kx tk) (he : ∀ s H C cl fp, PE (blkX X s H scope C cl fp) vx tv)
    (hs : ∀ x, foldedSetIterable iter X.env x = pure x) (h : tDcT wi g tt tk tv (own.map (·.2)) σ H Q)
    (hRR : ∀ D C s' m H', Inv X pins σ H' s' → Q (.ref D) H' → s'.heap.Ns C m → FpOk X pins H' C → compPost (model X.prog X.w) X.A X.xe use Qf (.ref D) C (.ok .next) s') :
    wpAny (model X.prog X.w) X.A (comprehension (.DictComp kx vx [⟨tg, iter, ifs, 0⟩] scope pos) scope X.env pos' newDict false (eval iter X.env) use) Qf X.xe s := by
  have hcl : ∀ y ∈ scope.names, y.2 = .free → ∃ c, X.env.cells.lookup y.1 = some c := fun y hy e => I.ok.has _ (ok.free y hy e)
  refine wpAny_comprehension_free (use := use) rfl hs (closure_ok hcl) ok.kind (fun y hy e => (ok.uniq y hy).trans (congrArg some e))
    (thn (hi.run pins s σ H _ I h) fun xv s1 hx => thn hx fun itv s2 h2 => ?_)
  obtain ⟨it, fp, tn, J, H2, rfl, I2, T, st2, f2, q⟩ := h2
  refine wpAny_newObj_type (newEnv_comp ?_)
  -- D: the dict's place; s3: it is laid
  obtain ⟨D, hD⟩ : ∃ D, D = s2.heap.objs.size := ⟨_, rfl⟩
  have hDn : H2 D = none := I2.hok.fresh (Nat.le_of_eq hD.symm)
  obtain ⟨W, ⟨m0, w0⟩, turn⟩ := q D hDn
  obtain ⟨s3, hs3⟩ : ∃ s3 : Shared, s3 = { s2 with heap := s2.heap.push { cls := .type "dict", data := .dict #[] } } := ⟨_, rfl⟩
  have e3 : s3.heap = s2.heap.push { cls := .type "dict", data := .dict #[] } := congrArg (·.heap) hs3
  obtain ⟨H3, hH3⟩ : ∃ H3, H3 = upd H2 D (.dT []) := ⟨_, rfl⟩
  have I3 : Inv X pins σ H3 s3 := by
    subst hs3 hH3 hD
    exact I2.laid (t' := s2.toks) (fun b o e => Heap.get?_push_of_some _ e) (Nat.le_refl _) (dt_empty s2.heap I2.big)
  have k3 : ∀ b o, s2.heap.get? b = some o → s3.heap.get? b = some o := fun b o e => by rw [e3]; exact Heap.get?_push_of_some _ e
  have f3 : ∀ b ∈ fp, FpOk X pins H3 b ∧ b < s3.heap.objs.size := fun b hb => by
    obtain ⟨o, e, _⟩ := T.obj _ _ st2 b hb
    refine ⟨⟨?_, (f2 b hb).2⟩, Heap.lt_size (k3 b o e)⟩
    have hne : b ≠ D := by rw [hD]; exact Nat.ne_of_lt (Heap.lt_size e)
    rw [hH3, upd_ne hne]
    exact (f2 b hb).1
  have st3 : tn 0 s3.heap := T.keep _ _ _ st2 fun b _ o e => k3 b o e
  rw [← hH3] at w0
  have I4 := block_start I3 ok hN f3
  obtain ⟨C, hC⟩ : ∃ C, C = s3.heap.objs.size := ⟨_, rfl⟩
  obtain ⟨cl, hcl'⟩ : ∃ cl, cl = cellsFrom (C + 1) scope.names (cloFrom X.env.cells scope.names []) := ⟨_, rfl⟩
  have pg := hg s3 H3 C cl fp
  have pt := ht s3 H3 C cl fp
  have pk := hk s3 H3 C cl fp
  have pe := he s3 H3 C cl fp
  have nfp : ∀ b ∈ fp, H3 b = none := fun b hb => (f3 b hb).1.1
  rw [← hC, ← hcl'] at I4
  obtain ⟨s4, hs4⟩ : ∃ s4 : Shared, s4 = { s3 with heap := pushCells (s3.heap.push { cls := .type "dict", data := .dict #[] }) scope.names } := ⟨_, rfl⟩
  have st4 : tn 0 s4.heap := T.keep _ _ _ st3 fun b _ o e => by rw [hs4]; exact pushCells_keeps _ _ _ _ (Heap.get?_push_of_some _ e)
  have goal2 : codeAny (model X.prog X.w) X.A (.compStart (.DictComp kx vx [⟨tg, iter, ifs, 0⟩] scope pos) 0 (.ref it) (.ref D) (compEnvC scope cl C X.env)) (compPost (model X.prog X.w) X.A X.xe use Qf (.ref D) C) s4 := by
    rw [← hs4] at I4
    have obs : ∀ {σ' : L2.St} {H' : Hp} {s' : Shared}, Inv (blkX X s3 H3 scope C cl fp) [] σ' H' s' → (∀ b ∈ fp, H' b = none) → ∀ b ∈ fp, FpOk (blkX X s3 H3 scope C cl fp) [] H' b := fun {σ' H' s'} I' hn b hb =>
      ⟨hn b hb, (I'.ok.exf b hb).1, I'.ok.exfs b hb, .inl hb, fun x c e => (I'.ok.exf b hb).2 x c e, fun p hp => absurd (show p ∈ ([] : List (Addr × Obj)) ++ [] from hp) (by simp)⟩
    have loop : codeAny (model X.prog X.w) X.A (.compLoop (.DictComp kx vx [⟨tg, iter, ifs, 0⟩] scope pos) 0 (.ref it) (.ref D) (compEnvC scope cl C X.env)) (compPost (model X.prog X.w) X.A X.xe use Qf (.ref D) C) s4 := by
      refine compLoop_anyD (fun n s' => ∃ i H', Inv (blkX X s3 H3 scope C cl fp) [] (wipe σ (own.map (·.2))) H' s' ∧ tn i s'.heap ∧ (∀ b ∈ fp, H' b = none) ∧ W i n H') ?_ m0 ⟨0, H3, I4, st4, nfp, w0⟩
      rintro n s5 ⟨i, H5, I5, st5, n5, w5⟩
      rcases turn i n H5 w5 with ⟨stop, qq⟩ | ⟨go, Nx, hNx, step⟩
      · refine thnF (T.done (blkX X s3 H3 scope C cl fp) rfl rfl rfl hc i [] s5 _ H5 (fun _ _ => False) I5 (obs I5 n5) st5 stop) fun r s6 ⟨hr, I6⟩ => ?_
        subst hr
        have I7 : Inv X pins σ H5 s6 := I3.call' (ch := fp) I6.os I6.base I6.hok I6.bare fun b hb => ⟨(f3 b hb).1.2.2.2.1, (f3 b hb).1.2.1, (f3 b hb).1.2.2.2.2.1, (f3 b hb).1.2.2.2.2.2⟩
        obtain ⟨m, hn, _⟩ := I6.loc
        exact hRR D C s6 m H5 I7 qq hn (I3.fpOk (b := C) (H' := H5) (Nat.le_of_eq hC.symm) I6.free)
      · refine thnF (T.item (blkX X s3 H3 scope C cl fp) rfl rfl rfl hc i [] s5 _ H5 (fun _ _ => False) I5 (obs I5 n5) st5 go) fun r s6 ⟨u, hr, h6⟩ => ?_
        subst hr
        refine thnF h6 fun _ s7 ⟨x, H7, I7, r7, y7, st7, n7⟩ => ?_
        refine thnF (pg.run _ s7 _ H7 x u _ (I7.pinned (obs I7 n7) (T.obj _ _ st7)) r7 (step x H7 y7)) fun _ s8 ⟨σ8, H8, I8, hw8, q8⟩ => ?_
        refine thnF (pt.run _ s8 σ8 H8 _ I8 q8) fun b s9 ⟨H9, I9, q9⟩ => ?_
        have fin : ∀ {s' : Shared} {H' : Hp}, Inv (blkX X s3 H3 scope C cl fp) ([] ++ pinsAt fp s7.heap) σ8 H' s' → Nx H' → ∃ m, m < n ∧ ∃ i H', Inv (blkX X s3 H3 scope C cl fp) [] (wipe σ (own.map (·.2))) H' s' ∧ tn i s'.heap ∧ (∀ b ∈ fp, H' b = none) ∧ W i m H' := fun {s' H'} I' nx => by
          obtain ⟨m', hm, w'⟩ := hNx H' nx
          have kp : ∀ b ∈ fp, ∀ o, s7.heap.get? b = some o → s'.heap.get? b = some o ∧ H' b = none := fun b hb o e => by
            have z := I'.pin (b, o) (List.mem_append_right _ (List.mem_append_right _ (mem_pinsAt hb e)))
            exact ⟨z.1, z.2.1⟩
          have hl : (wipe σ (own.map (·.2))).length = σ8.length := (congrArg List.length hw8).symm.trans (wipe_length _ _)
          refine ⟨m', hm, i + 1, H', (I'.unpinned (pins := [])).weak hl (fun j v e => (wipe_some (hw8 ▸ e)).1), T.keep _ _ _ st7 fun b hb o e => (kp b hb o e).1, fun b hb => ?_, w'⟩
          obtain ⟨o, e, _⟩ := T.obj _ _ st7 b hb
          exact (kp b hb o e).2
        cases b with
        | false =>
          simp only [Bool.false_eq_true, if_false] at q9 ⊢
          exact fin I9 q9
        | true =>
          simp only [if_true] at q9 ⊢
          refine thnF (pk.run _ s9 σ8 H9 _ I9 q9) fun z s10 ⟨yk, H10, I10, r10, q10⟩ => ?_
          refine thnF (pe.run _ s10 σ8 H10 _ I10 q10) fun z2 s11 ⟨yv, H11, I11, r11, kvs, k, t, ek, ht11, hD11, hz11, nx⟩ => ?_
          subst ek
          cases (show z = Value.ref t from r10)
          exact dT_put (X := blkX X s3 H3 scope C cl fp) (tK_room hu) I11 hD11 ht11 hz11 r11 fun s12 I12 => fin I12 nx
    exact codeAny_compStart_dict loop (T.self X.A 0 _ _ _ st4 loop)
  subst hs4 hC hcl' hD hs3
  exact goal2
theorem pe_dcT {kx vx tg iter : Expr} {ifs : List Expr} {scope : Scope} {own : List (Str × Nat)} {pos : Pos} {wi : TI} {g : TG} {tt : TT} {tk tv : TE} (hc : X.calm = true) (hu : X.A.units + 1 < cLine) (hN : X.N.Nodup) (hi : PI X tg iter wi) (ok : BlkOk X.N X.env.scope scope own)
    (hg : ∀ s H C cl fp, PG (blkX X s H scope C cl fp) tg g) (ht : ∀ s H C cl fp, PTs (blkX X s H scope C cl fp) ifs tt) (hk : ∀ s H C cl fp, PE (blkX X s H scope C cl fp) kx tk) (he : ∀ s H C cl fp, PE (blkX X s H scope C cl fp) vx tv)
    (hs : ∀ x, foldedSetIterable iter X.env x = pure x := by intro _; rfl) : PE X (.DictComp kx vx [⟨tg, iter, ifs, 0⟩] scope pos) (tDcT wi g tt tk tv (own.map (·.2))) := by
  refine ⟨fun pins s σ H Q I h => ?_⟩
  rw [arm_eval_DictComp]
  refine dcT_core hc hu hN I hi ok hg ht hk he hs h fun D C s' m H' I' q hn f => ⟨m, hn, fun h'' sb => ?_⟩
  obtain ⟨f0, f1, f2, f3, f4, f5⟩ := f
  exact ⟨.ref D, H', I'.turned (t' := s'.toks) (fun b o hb e => (sb.2 b hb).trans e) f0 f1 f3 f4 f5, rfl, q⟩
/-- name = {..}, the name a local -/
theorem ps_setDcT {i : Nat} {y : Str} {py : Pos} {kx vx tg iter : Expr} {ifs : List Expr} {scope : Scope} {own : List (Str × Nat)} {pos spos : Pos} {wi : TI} {g : TG} {tt : TT} {tk tv : TE} (hc : X.calm = true) (hu : X.A.units + 1 < cLine) (hN : X.N.Nodup) (hy : X.N[i]? = some y) (hyl : X.env.scope.names.lookup y = some .local)
    (hsw : swapsWith (.DictComp kx vx [⟨tg, iter, ifs, 0⟩] scope pos) (some (.Name y py)) spos.line X.env = pure true) (hi : PI X tg iter wi) (ok : BlkOk X.N X.env.scope scope own)
    (hg : ∀ s H C cl fp, PG (blkX X s H scope C cl fp) tg g) (ht : ∀ s H C cl fp, PTs (blkX X s H scope C cl fp) ifs tt) (hk : ∀ s H C cl fp, PE (blkX X s H scope C cl fp) kx tk) (he : ∀ s H C cl fp, PE (blkX X s H scope C cl fp) vx tv)
    (hs : ∀ x, foldedSetIterable iter X.env x = pure x := by intro _; rfl) : PS X (.Assign [.Name y py] (.DictComp kx vx [⟨tg, iter, ifs, 0⟩] scope pos) spos) (tAsg (tDcT wi g tt tk tv (own.map (·.2))) (gName i)) := by
  refine ⟨fun pins s σ H D I h => ?_⟩
  rw [exec_Assign_Name_used _ _ _ _ hsw]
  refine wpAny_bind (wpAny_standAt (wpAny_bind ?_))
  show wpAny _ X.A (do let _ ← comprehension (.DictComp kx vx [⟨tg, iter, ifs, 0⟩] scope pos) scope X.env (firstIterPos [⟨tg, iter, ifs, 0⟩] pos) newDict false (eval iter X.env) (some (assign (.Name y py) X.env))) _ _ s
  have h : tDcT wi g tt tk tv (own.map (·.2)) σ H (fun x H1 => gName i x σ H1 D.nx) := h
  refine wpAny_bind (thn (dcT_core (Qf := fun _ s' => SP X pins D .next s') hc hu hN I hi ok hg ht hk he hs h fun L C s' m H' I' q hn f => ?_) fun _ s' hq => wpAny_pure (wpAny_pure hq))
  show wpAny _ _ (assign (.Name y py) X.env (.ref L)) _ _ _
  refine wpAny_assign_Name (store_ok2 (v := V.ref L) I' hN hy (.inl hyl) rfl (fun s2 I2 ⟨a, sb, ha⟩ => ?_) (.inr hyl))
  obtain ⟨f0, f1, f2, f3, f4, f5⟩ := f
  have haC : C ≠ a := by
    rcases ha with z | z
    · rw [z]; exact f1
    · exact fun e => f4 y a z e.symm
  refine ⟨m, hn.sameBut sb haC, fun h3 sb3 => ?_⟩
  exact ⟨_, H', I2.turned (t' := s2.toks) (fun b o hb e => (sb3.2 b hb).trans e) f0 f1 f3 f4 f5, q⟩
theorem sw_trueD {kx vx : Expr} {gs : List Comprehension} {scope : Scope} {pos py : Pos} {y : Str} {l : Nat} {env : Env} (hk : env.scope.kind = .function) (hy : env.scope.names.lookup y = some .local) (hl : (py.line == pos.line) = true)
    (ha : (scope.names.any fun (n, k) => n == y && (k == .local || k == .cell)) = false) : swapsWith (.DictComp kx vx gs scope pos) (some (.Name y py)) l env = pure true := by
  have ky : env.kindOf y = some .local := hy
  have hb : env.blockKind = .function := by unfold Env.blockKind; rw [hk]; rfl
  unfold swapsWith
  simp only [hb, ky, ha, Expr.pos, hl]
  rfl
end
/-! ### {k: v}, k a tuple -/
section
variable {X : Cx}
def tDisT (tk tv : TE) : TE := fun σ H Q => ∀ p, H p = none → tk σ (upd H p (.dT [])) fun x H1 => tv σ H1 fun y H2 => ∃ t k, x = .ref t ∧ H2 t = some (.tup (k.map kV)) ∧ H2 p = some (.dT []) ∧ Q (.ref p) (upd H2 p (.dT [(k, y)]))
theorem pe_disT {k v : Expr} {pos : Pos} {tk tv : TE} (hu : X.A.units + 1 < cLine) (hk : PE X k tk) (hv : PE X v tv) : PE X (.Dict [some k] [v] pos) (tDisT tk tv) := by
  refine ⟨fun pins s σ H Q I q => ?_⟩
  have hn := I.hok.fresh (Nat.le_refl s.heap.objs.size)
  have I1 := I.laid (a := s.heap.objs.size) (o := .dT []) (h' := s.heap.push { cls := .type "dict", data := .dict #[] }) (t' := s.toks) (fun _ _ q => Heap.get?_push_of_some _ q) (Nat.le_refl _) (dt_empty s.heap I.big)
  rw [arm_eval_Dict, zip_pairTrees [some k] [v] X.env pos rfl rfl, dictDisplay_pairs (pairTrees [some k] [v] X.env pos) (by intro z; cases z) (by show 1 < _; decide)]
  refine wpAny_bind (wpAny_standAt (wpAny_bind (wpAny_subDictH (knd := tupleKind (mixKind X.prog X.w)) (Q := fun d s' => wpAny (model X.prog X.w) X.A (pure (Value.ref d)) (EP X pins σ Q) X.xe s') (tK_room hu) (by show 1 ≤ 15; decide) ?_)))
  refine pairTrees_cons_walk (thn (hk.run pins _ σ _ _ I1 (q _ hn)) fun u s1 ⟨x, H1, I1', rx, q1⟩ => thn (hv.run pins s1 σ H1 _ I1' q1) fun w2 s2 ⟨y, H2, I2, ry, t, ks, ex, et, ep, q2⟩ => pairTrees_nil_walk ?_)
  subst ex
  cases (show u = Value.ref t from rx)
  obtain ⟨z, hd, xs, rel, dd⟩ := dt_of I2.hok ep
  cases rel
  refine ⟨[(ks, t, w2)], ⟨rfl, rfl, key_of I2.hok et, trivial⟩, dd, fun h' tk dd' hs => wpAny_pure ⟨.ref s.heap.objs.size, upd H2 s.heap.objs.size (.dT [(ks, y)]), ?_, rfl, q2⟩⟩
  obtain ⟨o, es, epo, c1, c2, c3, c4, _, c5⟩ := dd'
  have rel' : KT (upd H2 s.heap.objs.size (.dT [(ks, y)])) [(ks, y)] [(ks, t, w2)] := .cons ⟨rfl, (upd_ne (ne_of et ep fun z => nomatch z)).trans et, ry⟩ .nil
  exact d_write I2 (by rw [ep]; exact True.intro) hs ⟨o, c1⟩ ⟨by show 1 ≤ sizeLine; decide, hd, _, rel', o, es, epo, c1, c2, c3, c4, c5⟩
end
/-! ### f(k = v, ..), no other argument -/
section
variable {X : Cx} {CX : CXT} {k : Nat} {f : Addr} {fd : FuncData} {ps ks : List Str} {sp : Sp} {E : XK} {x : Str} {p pos : Pos} {kws : List Keyword} {tk : TA} {g : List Value → List Value → List Value} {gV : List V → List V → List V}
theorem pe_callK0 (F : FnOk X.prog X.w X.K X.mg X.base CX k f fd ps sp) (hr : Room k X.A) (hg : Gl X x) (hm : X.mg x = some (.ref f)) (hkp : PySem.W.keepIn X.K (.ref f) = true) (hb : KBinds X.K fd ps ks g gV) (hx : Passes CX X E) (hkw : PK X kws tk)
    (hall : (backToKw pos (keywordEach kws X.env)).all (·.1.isSome) = true := by rfl) (hks : (backToKw pos (keywordEach kws X.env)).filterMap (·.1) = ks := by rfl) (hdb : (x == ("__debug__" : Str)) = false := by decide)
    (hpl : ((backTo pos (starEach [] X.env)).any (·.1) || (backToKw pos (keywordEach kws X.env)).any (·.1.isNone)) = false := by rfl) :
    PE X (.Call (.Name x p) [] kws pos) (tCallK sp gV E tNil tk) := by
  refine ⟨fun pins s σ H Q I h => ?_⟩
  refine wpAny_Call_Name_kw (ld_glob I hg hm ?_ hdb)
  refine PySem.W.callWith_KW0 (h₀ := X.base) I.ok.mod.kin hkp hall (thn (hkw.run pos pins s σ H _ I h) fun ws s2 ⟨zs, H2, I2, rz, q2⟩ => ⟨I2.kIn, ?_⟩) hpl
  rw [hks]
  exact run_fnk F hr hb hx I2 .nil rz q2
end
/-! ### '0' * n -/
section
variable {X : Cx}
def repS (z : Str) (n : Nat) : Str := ⟨(List.replicate n z.cps.toList).flatten.toArray⟩
end
end Bs

/-! Rules that the layer lacks, 3: sorted of data; text * int. -/
namespace Bs
open PySem PySem.Spec PyProof.Rows L2

section
variable {β : Type}
/-- items and what they stand for -/
def Stands (S : V → β → Prop) : List V → List β → Prop
  | [], [] => True
  | x :: xs, b :: bs => S x b ∧ Stands S xs bs
  | _, _ => False
theorem Stands.length {S : V → β → Prop} : ∀ {xs : List V} {bs : List β}, Stands S xs bs → xs.length = bs.length
  | [], [], _ => rfl
  | _ :: _, _ :: _, h => congrArg (· + 1) (Stands.length h.2)
  | [], _ :: _, h => h.elim
  | _ :: _, [], h => h.elim
theorem Stands.mono {S S' : V → β → Prop} : ∀ {xs : List V} {bs : List β}, Stands S xs bs → (∀ x b, b ∈ bs → S x b → S' x b) → Stands S' xs bs
  | [], [], _, _ => True.intro
  | x :: _, b :: _, h, k => ⟨k x b (List.mem_cons_self ..) h.1, Stands.mono h.2 fun x b hb => k x b (List.mem_cons_of_mem _ hb)⟩
  | [], _ :: _, h, _ => h.elim
  | _ :: _, [], h, _ => h.elim
theorem Stands.get {S : V → β → Prop} : ∀ {xs : List V} {bs : List β} {i : Nat} {x : V}, Stands S xs bs → xs[i]? = some x → ∃ b, bs[i]? = some b ∧ S x b
  | [], [], _, _, _, e => by simp at e
  | x :: _, b :: _, 0, y, h, e => by
    have e' : x = y := Option.some.inj (by simpa using e)
    exact ⟨b, rfl, e' ▸ h.1⟩
  | _ :: xs, _ :: bs, i + 1, y, h, e => by
    obtain ⟨b, h1, h2⟩ := Stands.get (i := i) h.2 (by simpa using e)
    exact ⟨b, by simpa using h1, h2⟩
  | [], _ :: _, _, _, h, _ => h.elim
  | _ :: _, [], _, _, h, _ => h.elim
theorem Stands.at {S : V → β → Prop} : ∀ {xs : List V} {bs : List β} {i : Nat} {b : β}, Stands S xs bs → bs[i]? = some b → ∃ x, xs[i]? = some x ∧ S x b
  | [], [], _, _, _, e => by simp at e
  | x :: _, b :: _, 0, y, h, e => by
    have e' : b = y := Option.some.inj (by simpa using e)
    exact ⟨x, rfl, e' ▸ h.1⟩
  | _ :: xs, _ :: bs, i + 1, y, h, e => by
    obtain ⟨b, h1, h2⟩ := Stands.at (i := i) h.2 (by simpa using e)
    exact ⟨b, by simpa using h1, h2⟩
  | [], _ :: _, _, _, h, _ => h.elim
  | _ :: _, [], _, _, h, _ => h.elim
theorem Stands.app {S : V → β → Prop} : ∀ {xs ys : List V} {bs cs : List β}, Stands S xs bs → Stands S ys cs → Stands S (xs ++ ys) (bs ++ cs)
  | [], _, [], _, _, h => h
  | _ :: _, _, _ :: _, _, h, k => ⟨h.1, Stands.app h.2 k⟩
  | [], _, _ :: _, _, h, _ => h.elim
  | _ :: _, _, [], _, h, _ => h.elim
theorem Stands.take {S : V → β → Prop} : ∀ (n : Nat) {xs : List V} {bs : List β}, Stands S xs bs → Stands S (xs.take n) (bs.take n)
  | 0, _, _, _ => True.intro
  | _ + 1, [], [], _ => True.intro
  | n + 1, _ :: _, _ :: _, h => ⟨h.1, Stands.take n h.2⟩
  | _ + 1, [], _ :: _, h => h.elim
  | _ + 1, _ :: _, [], h => h.elim
theorem Stands.drop {S : V → β → Prop} : ∀ (n : Nat) {xs : List V} {bs : List β}, Stands S xs bs → Stands S (xs.drop n) (bs.drop n)
  | 0, _, _, h => h
  | _ + 1, [], [], _ => True.intro
  | n + 1, _ :: _, _ :: _, h => Stands.drop n h.2
  | _ + 1, [], _ :: _, h => h.elim
  | _ + 1, _ :: _, [], h => h.elim
theorem Stands.erase {S : V → β → Prop} : ∀ (n : Nat) {xs : List V} {bs : List β}, Stands S xs bs → Stands S (xs.eraseIdx n) (bs.eraseIdx n)
  | _, [], [], _ => True.intro
  | 0, _ :: _, _ :: _, h => h.2
  | n + 1, _ :: _, _ :: _, h => ⟨h.1, Stands.erase n h.2⟩
  | _, [], _ :: _, h => h.elim
  | _, _ :: _, [], h => h.elim
/-- the raw side -/
theorem each_of {S : V → β → Prop} : ∀ {xs : List V} {bs : List β} {us : List Value}, Stands S xs bs → Vals xs us → PySem.W.EachIs (fun u b => ∃ x, RelV x u ∧ S x b) us bs
  | [], [], _, _, .nil => .nil
  | x :: _, b :: _, _, h, .cons r t => .cons ⟨x, r, h.1⟩ (each_of h.2 t)
  | [], _ :: _, _, h, _ => h.elim
  | _ :: _, [], _, h, _ => h.elim
theorem of_each {S : V → β → Prop} : ∀ {us : List Value} {bs : List β}, PySem.W.EachIs (fun u b => ∃ x, RelV x u ∧ S x b) us bs → ∃ xs, Vals xs us ∧ Stands S xs bs
  | _, _, .nil => ⟨[], .nil, True.intro⟩
  | _, _, .cons ⟨x, r, h⟩ t => by
    obtain ⟨xs, k1, k2⟩ := of_each t
    exact ⟨x :: xs, .cons r k1, h, k2⟩
def rSortV (K : PySem.W.Frag) (β : Type) : List V → Hp → VK → Prop := fun vs H Q => ∃ (a : Addr) (xs : List V) (bs : List β) (enc : β → PyData) (S : V → β → Prop), vs = [V.ref a] ∧ SqL K H a xs ∧ Stands S xs bs ∧ (∀ x b, S x b → Dp K H x (enc b)) ∧
  PySem.W.AllAlike (bs.map enc) ∧ PySem.W.Sortable (bs.map enc) ∧ (∀ b ∈ bs, (enc b).depth ≤ 60) ∧ ∀ (ys : List V) (p : Addr), Stands S ys (bs.mergeSort (PySem.W.dataLe false enc)) → H p = none → Q (.ref p) (upd H p (.lst ys))
theorem cr_sortV {X : Cx} (hu : X.A.units + 64 < cLine) : CallR X (.builtin "sorted") (rSortV X.K β) := by
  intro pins s σ H vs us Q I r h
  obtain ⟨a, xs, bs, enc, S, rfl, hs, st, hd, hal, hsk, hdep, q⟩ := h
  obtain rfl := Vals.ref1 r
  obtain ⟨its, rv, hl, hz⟩ := I.list hs
  have e := each_of st rv
  have er : PySem.W.EachIs (fun v b => ∃ as, Reads s.heap v (enc b) as) its bs := e.mono fun u b ⟨x, rx, hx⟩ => Dp.reads I (enc b) x u (hd x b hx) rx
  refine PySem.W.sorted_data (enc := enc) hl.isList e er hal hsk (by rw [← st.length]; exact hz) (fun b hb => by have := hdep b hb; omega) fun out hlen eo => ?_
  obtain ⟨ys, k1, k2⟩ := of_each eo
  obtain ⟨ep, he'⟩ := PyProof.Rows.sortedAll_at s.heap its out.toArray
  have hly : ys.length ≤ sizeLine := by
    rw [k1.length, hlen, ← st.length]
    exact hz
  exact ⟨.ref _, upd H (s.heap.objs.size + 1) (.lst ys), I.laid (t' := s.toks) (fun _ _ => PyProof.Rows.sortedAll_old) (Nat.le_succ _) ⟨hly, out, ep, k1, he'⟩, rfl, q _ _ k2 (I.hok.fresh (Nat.le_succ _))⟩
end
/-! ### text * int -/
section
variable {X : Cx}
theorem op_mulS : OpR X (binaryOp .Mult) (fun x y H Q => ∃ z i, x = .str z ∧ y = .int i ∧ MulOk z i ∧ Q (.str (Txt.mul z i)) H) := by
  intro pins s σ H x y v u Q I rx ry h
  obtain ⟨z, i, rfl, rfl, ok, q⟩ := h
  obtain ⟨t, rfl⟩ := rx
  obtain ⟨t', rfl⟩ := ry
  exact SB.mul ok fun t2 k => ⟨.str (Txt.mul z i), H, I.tok _, ⟨_, rfl⟩, q⟩
end
end Bs

/-! Rules that the layer lacks, 4: sorted(xs, key=lambda x: ..), the lambda's body with captured names. -/
namespace Bs
open PySem PySem.Spec PyProof.Rows L2

section
variable {X : Cx} {pins : List (Addr × Obj)} {σ : L2.St} {H : Hp} {s : Shared}
/-- an object of ours that was not tracked is tracked from now on -/
theorem track {a : Addr} {o : HO} (I : Inv X pins σ H s) (hf : FpOk X pins H a) (ha : X.s_0.heap.objs.size ≤ a) (new : ObjOk X.prog X.w (upd H a o) s.heap a o) : Inv X pins σ (upd H a o) s := by
  obtain ⟨hn, hL, _, _, hc, hp⟩ := hf
  have old : ∀ b ob, X.s_0.heap.get? b = some ob → b ≠ a := fun b ob e z => by
    rw [z] at e
    exact Nat.lt_irrefl _ (Nat.lt_of_lt_of_le (Heap.lt_size e) ha)
  have kt : ∀ b u, H b = some u → upd H a o b = some u := fun b u e => (upd_ne (ne_of_none e hn)).trans e
  refine ⟨I.ok, I.os, I.bare, ⟨I.base.keep, I.base.slot, fun b ob e n hx => (upd_ne (old b ob e)).trans (I.base.free b ob e n hx), I.base.there, fun b xs e => kt b _ (I.base.tups b xs e), fun b ob u e => kt b _ (I.base.frzs b ob u e), fun b ps e => ?_⟩,
    I.loc, I.cell, (upd_ne (Ne.symm hL)).trans I.free, fun x c e => (upd_ne (hc x c e)).trans (I.freeC x c e), fun p h => ?_, fun b u e => ?_, I.len⟩
  · obtain ⟨more, q⟩ := I.base.tbls b ps e
    exact ⟨more, kt b _ q⟩
  · obtain ⟨q1, q2, q3⟩ := I.pin p h
    exact ⟨q1, (upd_ne (hp p h)).trans q2, q3⟩
  · by_cases hb : b = a
    · subst hb
      rw [upd_same] at e
      cases e
      exact new
    · rw [upd_ne hb] at e
      exact (I.hok b u e).stay (fun _ _ _ q => q) (fun c q => kt c _ q) fun c xs q => kt c _ q
end

/-! ### a lambda with one parameter -/
structure LamS1 (sc scope : Scope) (N : List Str) (pa : Str) : Prop where
  kind : scope.kind = .function
  co : scope.isCoroutine = false
  gen : scope.isGenerator = false
  par : scope.names.lookup pa = some .local
  own : ∀ y ∈ scope.names, y.2 = .local → y.1 = pa
  noc : ∀ y ∈ scope.names, y.2 ≠ .cell
  free : ∀ y ∈ scope.names, y.2 = .free → sc.names.lookup y.1 = some .cell ∨ sc.names.lookup y.1 = some .free
  new : pa ∉ N
def lamSB1 (sc scope : Scope) (N : List Str) (pa : Str) : Bool :=
  decide (scope.kind = .function) && !scope.isCoroutine && !scope.isGenerator && decide (scope.names.lookup pa = some .local) && scope.names.all (fun y => !decide (y.2 = .local) || decide (y.1 = pa)) && scope.names.all (fun y => !decide (y.2 = .cell)) &&
    scope.names.all (fun y => !decide (y.2 = .free) || decide (sc.names.lookup y.1 = some .cell) || decide (sc.names.lookup y.1 = some .free)) && !decide (pa ∈ N)
theorem lamS1_by {sc scope : Scope} {N : List Str} {pa : Str} (h : lamSB1 sc scope N pa = true) : LamS1 sc scope N pa := by
  unfold lamSB1 at h
  simp only [Bool.and_eq_true, Bool.or_eq_true, Bool.not_eq_true', decide_eq_true_eq, decide_eq_false_iff_not, List.all_eq_true] at h
  obtain ⟨⟨⟨⟨⟨⟨⟨h1, h2⟩, h3⟩, h4⟩, h5⟩, h6⟩, h7⟩, h8⟩ := h
  refine ⟨h1, h2, h3, h4, fun y hy e => ?_, fun y hy e => h6 y hy e, fun y hy e => ?_, h8⟩
  · rcases h5 y hy with z | z
    · exact absurd e z
    · exact z
  · rcases h7 y hy with (z | z) | z
    · exact absurd e z
    · exact .inl z
    · exact .inr z
/-- the lambda's body, entered at s -/
def lamC1 (X : Cx) (A : Around) (s : Shared) (H : Hp) (scope : Scope) (f c' : Addr) (pa : Str) : Cx where
  prog := X.prog
  w := X.w
  K := X.K
  mg := X.mg
  base := X.base
  A := A.deeper (LamX.lamEnv X scope s.heap.objs.size f c')
  N := X.N ++ [pa]
  s_0 := s
  H_0 := H
  env := LamX.lamEnv X scope s.heap.objs.size f c'
  outer := X.stack
  stack := LamX.lamEnv X scope s.heap.objs.size f c' :: X.stack
  ex := []
  fn := fun _ => false
  calm := true
  pn := []
  xe := fun _ _ => False
section
variable {X : Cx} {pins : List (Addr × Obj)} {σ : L2.St} {H : Hp} {s : Shared}
theorem lam_in {A : Around} {scope : Scope} {f c' : Addr} {pa : Str} {v : V} {u : Value} {h₁ : Heap} {tk : Nat} (I : Inv X pins σ H s) (L : LamS1 X.env.scope scope X.N pa) (e0 : Env0 X.prog X.w X.K X.mg X.base A X.stack s H) (hd : A.handled = none) (rv : RelV v u)
    (hns : h₁.Ns s.heap.objs.size fun y => ([(pa, u)] : List (Str × Value)).reverse.lookup y) (kp : ∀ b o, s.heap.get? b = some o → h₁.get? b = some o) :
    Inv (lamC1 X A s H scope f c' pa) [] (σ ++ [some v]) H { s with heap := h₁, toks := tk } := by
  have hfree : ∀ y ∈ scope.names, y.2 = .free → ∃ c, X.env.cells.lookup y.1 = some c := fun y hy e => I.ok.has _ (L.free y hy e)
  have cm : ∀ {y c}, (cloFrom X.env.cells scope.names []).lookup y = some c → X.env.cells.lookup y = some c := fun {y c} e => by
    rcases cloFrom_mem (PySem.mem_of_lookup e) with hm | ⟨h1, h2⟩
    · cases hm
    · obtain ⟨c1, hc⟩ := hfree _ h1 rfl
      have hc : X.env.cells.lookup y = some c1 := hc
      rw [hc] at h2
      rw [hc, h2]
      rfl
  have look : ∀ {y}, scope.names.lookup y = some .free → ∃ c, (cloFrom X.env.cells scope.names []).lookup y = some c := fun {y} hl => mem_lookup (cloFrom_has (cells := X.env.cells) (acc := []) (PySem.mem_of_lookup hl : (y, NameKind.free) ∈ scope.names))
  have cellK : ∀ {c : Addr} {v : Option Value}, s.heap.IsCell c v → h₁.IsCell c v := fun {c v} ⟨o, ho, hd⟩ => ⟨o, kp _ _ ho, hd⟩
  have noA : ∀ b : Addr, b ∉ (lamC1 X A s H scope f c' pa).ex := fun b z => absurd (show b ∈ ([] : List Addr) from z) (by simp)
  refine ⟨⟨e0.mod, L.kind, rfl, rfl, Nat.le_refl _, fun y z c e1 e2 => I.ok.inj y z c (cm e1) (cm e2), fun y hy => ?_, fun y c z _ => ?_, fun _ => hd, Around.frames_deeper e0.frames, .inr ⟨rfl, rfl⟩, fun b z => absurd z (noA b), e0.bs, e0.bsz, fun b _ _ => noA b, fun b z => absurd z (noA b), e0.funs, e0.frf⟩,
    rfl, e0.bare, Un.kept kp, ⟨_, hns, fun i y v' e1 e2 e3 => ?_⟩, fun y c e => ?_, e0.hok.fresh (Nat.le_refl _), fun y c e => I.freeC y c (cm e), fun q hq => absurd (show q ∈ ([] : List (Addr × Obj)) ++ [] from hq) (by simp), e0.hok.kept kp, ?_⟩
  · have hy : scope.names.lookup y = some .cell ∨ scope.names.lookup y = some .free := hy
    rcases hy with hy | hy
    · exact absurd rfl (L.noc _ (PySem.mem_of_lookup hy))
    · exact look hy
  · exact absurd (show false = true from z) (by simp)
  · have e3 : Vis scope y := e3
    have e1 : (X.N ++ [pa])[i]? = some y := e1
    rcases e3 with k | k | k
    · have hy : y = pa := L.own _ (PySem.mem_of_lookup k) rfl
      subst hy
      have hi : ¬ i < X.N.length := fun hi => by
        rw [List.getElem?_append_left hi] at e1
        exact L.new (List.mem_of_getElem? e1)
      have hl := I.len
      rw [List.getElem?_append_right (by omega)] at e2
      have e4 : i - σ.length = 0 := by
        have := (List.getElem?_eq_some_iff.mp e2).1
        simpa using this
      rw [e4] at e2
      have e5 : v = v' := Option.some.inj (Option.some.inj (by simpa using e2))
      subst e5
      exact ⟨u, rv, .inl ⟨k, by simp⟩⟩
    · exact absurd rfl (L.noc _ (PySem.mem_of_lookup k))
    · have hne : y ≠ pa := fun z => by
        have q := L.par
        rw [← z, k] at q
        cases q
      have hi : i < X.N.length := by
        refine Nat.lt_of_not_le fun hi => ?_
        rw [List.getElem?_append_right hi] at e1
        have e4 : i - X.N.length = 0 := by
          have := (List.getElem?_eq_some_iff.mp e1).1
          simpa using this
        rw [e4] at e1
        exact hne (Option.some.inj (by simpa using e1)).symm
      have hl := I.len
      rw [List.getElem?_append_left hi] at e1
      rw [List.getElem?_append_left (by omega)] at e2
      obtain ⟨m, hn, hl'⟩ := I.loc
      have hvis : Vis X.env.scope y := (L.free _ (PySem.mem_of_lookup k) rfl).elim (fun k => .inr (.inl k)) fun k => .inr (.inr k)
      obtain ⟨w', r, q⟩ := hl' i y v' e1 e2 hvis
      obtain ⟨c2, h2⟩ := look k
      refine ⟨w', r, .inr ⟨.inr k, c2, h2, ?_⟩⟩
      rcases q with ⟨k', _⟩ | ⟨_, c3, e', z⟩
      · have k' : X.env.scope.names.lookup y = some .local := k'
        rcases L.free _ (PySem.mem_of_lookup k) rfl with k2 | k2 <;> rw [show X.env.scope.names.lookup y = _ from k2] at k' <;> cases k'
      · rw [cm h2] at e'
        cases e'
        exact cellK z
  · obtain ⟨w', z⟩ := I.cell y c (cm e)
    exact ⟨w', cellK z⟩
  · show (σ ++ [some v]).length = (X.N ++ [pa]).length
    rw [List.length_append, List.length_append, I.len]
    rfl
/-- the lambda is called -/
theorem lam_call {A : Around} {k : Nat} {scope : Scope} {params : Arguments} {body : Expr} {f c' : Addr} {pa : Str} {pm ctv : Value} {v : V} {u : Value} {tb : TE} {Q : VK} (I : Inv X pins σ H s) (L : LamS1 X.env.scope scope X.N pa) (e0 : Env0 X.prog X.w X.K X.mg X.base A X.stack s H) (hr : Room (k + 1) A)
    (of1 : s.heap.get? f = some (PySem.W.kla_obj "<lambda>" (X.env.qual ++ "<lambda>") params body scope (cloFrom X.env.cells scope.names []) pm c' ctv)) (hc : H c' = some (LamX.CodeO c' (X.env.qual ++ "<lambda>"))) (rv : RelV v u)
    (hbind : bindArgs (PySem.W.kla_fn "<lambda>" (X.env.qual ++ "<lambda>") params body scope (cloFrom X.env.cells scope.names []) pm (.ref c') ctv) ⟨[u], []⟩ = pure [(pa, u)])
    (hbody : PE (lamC1 X A s H scope f c' pa) body tb) (h : tb (σ ++ [some v]) H Q) : wpAny (model X.prog X.w) A (call (.ref f) [u]) (EP X pins σ Q) (fun _ _ => False) s := by
  obtain ⟨⟨oc, vs, t, hoc, hdc, hvc⟩, _, _⟩ := I.hok c' _ hc
  have rc : codeAny (model X.prog X.w) A (.call (.ref f) ⟨[u], []⟩) (CR L2.CX0 X.stack X.prog X.w H s Q L2.E0) s := by
    refine PySem.W.kla_callFunE hr.depth of1 rfl L.co L.gen rfl ⟨c', oc, vs, t, rfl, hoc, hdc, hvc⟩ ?_
    rw [hbind]
    refine wpAny_pure (wpAny_newFunctionEnv (fun y hy => L.noc y hy) (fun y hy => ?_) (fun h₁ hns hsb => ⟨?_, ?_⟩) L.kind)
    · have e : y = (pa, u) := by simpa using hy
      rw [e]
      exact L.par
    · have lim : s.heap.NoLimit := I.nolimit
      exact lim.fresh _ hsb
    · show codeAny _ _ (.expr body (LamX.lamEnv X scope s.heap.objs.size f c')) _ _
      have kp : ∀ b o, s.heap.get? b = some o → h₁.get? b = some o := fun b o e => hsb.extBut b o (Nat.ne_of_lt (Heap.lt_size e)) (Heap.get?_push_of_some _ e)
      refine PySem.W.kla_codeExpr (wpAny_mono (hbody.run [] _ _ H Q (lam_in (tk := s.toks + 1) I L e0 hr.hd rv hns kp) h) (fun w' s' hq => ?_) fun e s' hq => hq.elim)
      obtain ⟨v', H', J', rv', q⟩ := hq
      exact ⟨v', H', J'.os, J'.bare, J'.base, J'.hok, rv', q⟩
  refine wpAny_call (codeAny_mono rc fun r s' hq => ?_)
  cases r with
  | error e => exact (show False from hq).elim
  | ok fl =>
    cases fl with
    | ret u' => exact I.after hq
    | next => exact False.elim hq
    | brk => exact False.elim hq
    | cont => exact False.elim hq
end
end Bs

/-! Rules that the layer lacks, 5: sorted(xs, key=lambda x: ..). -/
namespace Bs
open PySem PySem.Spec PyProof.Rows L2

/-- all but the tables stays, the tables T stay tables -/
structure ExT (T : List (Addr × Str)) (H H' : Hp) : Prop where
  en : LamX.ExtN H H'
  tb : LamX.Tabs T H → LamX.Tabs T H'
theorem ExT.refl {T : List (Addr × Str)} (H : Hp) : ExT T H H := ⟨LamX.ExtN.refl H, fun t => t⟩
theorem ExT.trans {T : List (Addr × Str)} {H H1 H2 : Hp} (a : ExT T H H1) (b : ExT T H1 H2) : ExT T H H2 := ⟨a.en.trans b.en, fun t => b.tb (a.tb t)⟩
theorem ExT.of {T : List (Addr × Str)} {H H' : Hp} (e : ∀ b o, H b = some o → H' b = some o) : ExT T H H' := ⟨.of e, fun t => t.ext e⟩
/-- a tuple of ints, tracked -/
def KeyV (H : Hp) (v : V) (ns : List Int) : Prop := ∃ t, v = .ref t ∧ H t = some (.tup (ns.map V.int))
def keyD (ns : List Int) : PyData := .tuple (ns.map .int)
theorem KeyV.ext {T : List (Addr × Str)} {H H' : Hp} {v : V} {ns : List Int} (k : KeyV H v ns) (e : ExT T H H') : KeyV H' v ns := by
  obtain ⟨t, h1, h2⟩ := k
  exact ⟨t, h1, e.en _ _ h2 (by intro _ z; cases z)⟩
theorem dpAll_ints {K : PySem.W.Frag} {H : Hp} : ∀ ns : List Int, DpAll K H (ns.map V.int) (ns.map PyData.int)
  | [] => .nil
  | n :: ns => .cons (.int n) (dpAll_ints ns)
theorem KeyV.dp {K : PySem.W.Frag} {H : Hp} {v : V} {ns : List Int} (k : KeyV H v ns) : Dp K H v (keyD ns) := by
  obtain ⟨t, rfl, h⟩ := k
  exact .tup (SqT.of h) (dpAll_ints ns)
theorem keyD_alike {β : Type} (k : β → List Int) (bs : List β) : PySem.W.AllAlike (bs.map fun b => keyD (k b)) :=
  PySem.W.AllAlike.of (enc := fun b => keyD (k b)) fun b b' => by
    show PySem.W.alike (.tuple _) (.tuple _) = true
    rw [PySem.W.alike]
    exact PySem.W.alike_ints _ _
theorem keyD_depth (ns : List Int) : (keyD ns).depth ≤ 1 := by
  unfold keyD
  rw [PyData.depth, PySem.W.depth_ints]
  exact Nat.le_refl _

section
variable {X : Cx} {β : Type}
/-- behind the argument: all of it -/
def tSortLam (X : Cx) (T : List (Addr × Str)) (β : Type) (ta : TA) (tb : TE) : TE := fun σ H Q => ta σ H fun vs H1 => ∃ (a : Addr) (xs : List V) (bs : List β) (S : V → β → Prop) (kf : β → List Int), vs = [.ref a] ∧ Stands S xs bs ∧ (∀ b ∈ bs, kf b ≠ []) ∧ LamX.Tabs T H1 ∧
  ∀ H2, LamX.ExtN H1 H2 → LamX.Tabs T H2 → (∀ b ps, X.H_0 b = some (.tbl ps) → ∃ qs, H2 b = some (.tbl qs)) → SqL X.K H2 a xs ∧
    (∀ v b H3, S v b → b ∈ bs → ExT T H2 H3 → tb (σ ++ [some v]) H3 fun r H4 => ExT T H3 H4 ∧ KeyV H4 r (kf b)) ∧
    ∀ (ys : List V) (p : Addr) (H3 : Hp), Stands S ys (bs.mergeSort (PySem.W.dataLe false fun b => keyD (kf b))) → ExT T H2 H3 → H2 p = none → H3 p = some (.lst ys) → Q (.ref p) H3
theorem get_hide {h : Heap} {k b : Addr} {o : Obj} (e : h.get? b = some o) (n : b ≠ k) : (PySem.W.hideAll h [k]).get? b = some o := PySem.W.hideAll_get _ e (by simpa using n)
theorem key_phase {T : List (Addr × Str)} {pins : List (Addr × Obj)} {σ : L2.St} {H2 : Hp} {s5 : Shared} {k : Nat} {scope : Scope} {params : Arguments} {body : Expr} {f c' aN kS : Addr} {e1 : Nat} {pa : Str} {pm ctv : Value} {tb : TE} {xs : List V} {its : List Value} {bs : List β} {S : V → β → Prop} {kf : β → List Int} {E' : Value → Shared → Prop}
    (I5 : Inv X pins σ H2 s5) (L : LamS1 X.env.scope scope X.N pa) (hr : Room (k + 3) X.A) (rv : Vals xs its) (hz : xs.length ≤ sizeLine) (st : Stands S xs bs) (hkne : ∀ b ∈ bs, kf b ≠ [])
    (of1 : s5.heap.get? f = some (PySem.W.kla_obj "<lambda>" (X.env.qual ++ "<lambda>") params body scope (cloFrom X.env.cells scope.names []) pm c' ctv)) (hfn : H2 f = none) (hfr : f ∉ frs X.stack) (hco : H2 c' = some (LamX.CodeO c' (X.env.qual ++ "<lambda>")))
    (na : s5.heap.get? aN = some (PyProof.Rows.seqObj "list" #[] e1)) (nk : s5.heap.get? kS = some (PyProof.Rows.seqObj "list" #[] 0)) (fa : FpOk X pins H2 aN) (fk : FpOk X pins H2 kS) (hka : kS ≠ aN) (hfa : f ≠ aN) (hfk : f ≠ kS) (hsa : X.s_0.heap.objs.size ≤ aN)
    (hbind : ∀ (q : Str) (cl : List (Str × Addr)) (pm cv ctv u : Value), bindArgs (PySem.W.kla_fn "<lambda>" q params body scope cl pm cv ctv) ⟨[u], []⟩ = pure [(pa, u)])
    (hbody : ∀ (s : Shared) (H : Hp) (f c' : Addr), Room k (X.A.in1.in1.deeper (LamX.lamEnv X scope s.heap.objs.size f c')) → PE (lamC1 X X.A.in1.in1 s H scope f c' pa) body tb)
    (turn : ∀ v b H3, S v b → b ∈ bs → ExT T H2 H3 → tb (σ ++ [some v]) H3 fun r H4 => ExT T H3 H4 ∧ KeyV H4 r (kf b)) :
    wpAny (model X.prog X.w) X.A.in1.in1 (PyProof.Rows.ksk_rest aN (.ref f) false its.toArray e1 (.ref kS)) (fun r s' => r = .done (.ret .none) ∧ ∃ (H3 : Hp) (ys : List V), Inv X pins σ H3 s' ∧ ExT T H2 H3 ∧ H3 aN = some (.lst ys) ∧
      Stands S ys (bs.mergeSort (PySem.W.dataLe false fun b => keyD (kf b)))) E' s5 := by
  have hlen : its.length = bs.length := rv.length.symm.trans st.length
  have hzi : its.length ≤ sizeLine := rv.length ▸ hz
  obtain ⟨of, hof⟩ : ∃ of, of = PySem.W.kla_obj "<lambda>" (X.env.qual ++ "<lambda>") params body scope (cloFrom X.env.cells scope.names []) pm c' ctv := ⟨_, rfl⟩
  obtain ⟨P, hP⟩ : ∃ P, P = pins ++ [(f, of), (aN, PyProof.Rows.seqObj "list" #[] e1)] := ⟨_, rfl⟩
  have fL : f ≠ X.env.locals := fun z => by
    obtain ⟨m, ⟨o, es, ep, ho, hd, _⟩, _⟩ := I5.loc
    rw [← z, of1] at ho
    cases ho
    cases hd
  have fF : f ∉ X.fs := fun z => hfr (by
    rcases I5.ok.stk with e | ⟨e, hf⟩
    · rw [e]
      exact z
    · rw [e]
      unfold frs
      rw [List.filterMap_cons, hf]
      exact List.mem_cons_of_mem _ z)
  have IP : Inv X P σ H2 s5 := by
    rw [hP]
    refine I5.pins_of fun p hp => ?_
    rcases List.mem_append.mp hp with hp | hp
    · exact I5.pin p (List.mem_append_right _ hp)
    · have : p = (f, of) ∨ p = (aN, PyProof.Rows.seqObj "list" #[] e1) := by simpa using hp
      rcases this with rfl | rfl
      · refine ⟨by rw [hof]; exact of1, hfn, fL, fF, fun v q => ?_⟩
        rw [hof] at q
        cases q
      · exact ⟨na, fa.1, fa.2.1, fa.2.2.1, fun v q => by cases q⟩
  have fkP : ∀ H', H' kS = none → FpOk X P H' kS := fun H' hn => by
    refine ⟨hn, fk.2.1, fk.2.2.1, fk.2.2.2.1, fk.2.2.2.2.1, fun p hp => ?_⟩
    rw [hP] at hp
    rcases List.mem_append.mp hp with hp | hp
    · exact fk.2.2.2.2.2 p (List.mem_append_left _ hp)
    · rcases List.mem_append.mp hp with hp | hp
      · exact fk.2.2.2.2.2 p (List.mem_append_right _ hp)
      · have : p = (f, of) ∨ p = (aN, PyProof.Rows.seqObj "list" #[] e1) := by simpa using hp
        rcases this with rfl | rfl
        · exact hfk
        · exact hka.symm
  have hr2 : Room (k + 1) X.A.in1.in1 := hr.in1.in1
  unfold PyProof.Rows.ksk_rest
  refine wpAny_bind (wpAny_rule ?_)
  first
    | rw [List.forIn_toArray]
    | rw [← Array.forIn_toList]
  refine wpAny_bind (PyProof.Rows.ksk_fold (fun i s' => ∃ (H' : Hp) (kA : Array Value) (e : Nat) (ks : List V), Inv X P σ H' s' ∧ ExT T H2 H' ∧ s'.heap.get? kS = some (PyProof.Rows.seqObj "list" kA e) ∧ H' kS = none ∧ Vals ks kA.toList ∧
    Stands (fun v b => KeyV H' v (kf b)) ks (bs.take i)) its 0 s5 ⟨H2, #[], 0, [], IP, ExT.refl H2, nk, fk.1, .nil, by rw [List.take_zero]; exact True.intro⟩ ?step ?done)
  case step =>
    rintro j u s' hu ⟨H', kA, e, ks, I', ext, nk', nS, rks, sk⟩
    simp only [Nat.zero_add] at sk ⊢
    have hj : j < its.length := (List.getElem?_eq_some_iff.mp hu).1
    obtain ⟨b, hb⟩ : ∃ b, bs[j]? = some b := ⟨_, List.getElem?_eq_getElem (by omega)⟩
    obtain ⟨v, hv, hSv⟩ := st.at hb
    have rvu : RelV v u := by
      obtain ⟨u', hu', ru⟩ := rv.get hv
      rw [hu] at hu'
      cases hu'
      exact ru
    have I2 : Inv X (P ++ pinsAt [kS] s'.heap) σ H' s' := I'.pinned (fp := [kS]) (fun b hb => by rw [List.mem_singleton.mp hb]; exact fkP H' nS) fun b hb => by
      rw [List.mem_singleton.mp hb]
      exact ⟨_, nk', fun v q => by cases q⟩
    have pf : s'.heap.get? f = some of := (I'.pin (f, of) (List.mem_append_right _ (by rw [hP]; simp))).1
    rw [hof] at pf
    refine wpAny_bind (wpAny_attempt (wpAny_mono (lam_call (k := k) I2 L I2.env0.in1.in1 hr2 pf (ext.en _ _ hco (by intro _ z; cases z)) rvu (hbind _ _ _ _ _ _) (hbody s' H' f c' (hr2.deeper _)) (turn v b H' hSv (List.mem_of_getElem? hb) ext)) (fun u' s'' he => ?_) fun _ _ hF => hF.elim))
    obtain ⟨r, H'', J, rr, ext2, kv⟩ := he
    have pk := J.pin (kS, PyProof.Rows.seqObj "list" kA e) (List.mem_append_right _ (List.mem_append_right _ (mem_pinsAt (List.mem_singleton.mpr rfl) nk')))
    have nk2 : s''.heap.get? kS = some (PyProof.Rows.seqObj "list" kA e) := pk.1
    have hzk : kA.size ≤ sizeLine := by
      have h1 := rks.length
      have h2 := sk.length
      rw [List.length_take] at h2
      have h3 : kA.toList.length = kA.size := Array.length_toList
      omega
    have hzk2 : kA.size ≤ its.length := by
      have h1 := rks.length
      have h2 := sk.length
      rw [List.length_take] at h2
      have h3 : kA.toList.length = kA.size := Array.length_toList
      omega
    try dsimp only
    refine wpAny_bind (PyProof.Rows.listUpdate_at nk2 rfl ?_ hzk (Nat.le_trans (Nat.le_of_eq (Array.size_push ..)) (Nat.succ_le_succ hzk)))
    have sb := Heap.SameBut.update s''.heap kS (Obj.mapSeq (·.push u'))
    obtain ⟨c2, hc2⟩ : ∃ c2, (s''.heap.update kS (Obj.mapSeq (·.push u'))).get? kS = some (PyProof.Rows.seqObj "list" (kA.push u') c2) := ⟨_, PyProof.Rows.get?_update_seq nk2 (·.push u')⟩
    obtain ⟨g0, g1, g2, g3, g4, g5⟩ := fkP H'' pk.2.1
    refine wpAny_pure ⟨rfl, H'', kA.push u', c2, ks ++ [r], (J.unpinned).turned (t' := s''.toks) (fun b o hb q => (sb.2 b hb).trans q) g0 g1 g3 g4 g5, ext.trans ext2, hc2, g0, ?_, ?_⟩
    · rw [Array.toList_push]
      exact rks.append (.cons rr .nil)
    · rw [List.take_add_one, hb]
      exact (sk.mono fun v b _ q => q.ext ext2).app ⟨kv, True.intro⟩
  case done =>
    rintro s' ⟨H', kA, e, ks, I', ext, nk', nS, rks, sk⟩
    have ebs : bs.take (0 + its.length) = bs := List.take_of_length_le (by omega)
    rw [ebs] at sk
    have hsz : kA.size = its.length := by
      have h1 := rks.length
      have h2 := sk.length
      have h3 : kA.toList.length = kA.size := Array.length_toList
      omega
    have na' : s'.heap.get? aN = some (PyProof.Rows.seqObj "list" #[] e1) := (I'.pin (aN, PyProof.Rows.seqObj "list" #[] e1) (List.mem_append_right _ (by rw [hP]; simp))).1
    have nA : H' aN = none := (I'.pin (aN, PyProof.Rows.seqObj "list" #[] e1) (List.mem_append_right _ (by rw [hP]; simp))).2.1
    have IU : Inv X pins σ H' s' := by
      rw [hP] at I'
      exact I'.unpinned
    have er : PySem.W.EachIs (fun v d => ∃ as, Reads s'.heap v d as) kA.toList (bs.map fun b => keyD (kf b)) := by
      have e2 := each_of sk rks
      exact PySem.W.each_map (R := fun v d => ∃ as, Reads s'.heap v d as) (fun b => keyD (kf b)) (e2.mono fun u b h => by
        obtain ⟨x, rx, hx⟩ := h
        exact Dp.reads IU (keyD (kf b)) x u hx.dp rx)
    have hal := keyD_alike kf bs
    have hsk : PySem.W.Sortable (bs.map fun b => keyD (kf b)) := .inl fun d hd => by
      obtain ⟨b, hb, rfl⟩ := List.mem_map.mp hd
      have hn := hkne b hb
      cases q : kf b with
      | nil => exact absurd q hn
      | cons n ns => exact ⟨.int n, ns.map .int, rfl⟩
    have hu : ∀ d, d ∈ bs.map (fun b => keyD (kf b)) → X.A.in1.in1.units + d.depth < cLine := fun d hd => by
      obtain ⟨b, _, rfl⟩ := List.mem_map.mp hd
      have h1 := keyD_depth (kf b)
      have h2 := hr2.units
      show X.A.in1.in1.units + (keyD (kf b)).depth < cLine
      omega
    try dsimp only
    refine wpAny_bind (PyProof.Rows.listItems_at nk' rfl ?_)
    refine PySem.W.keyH_end (κ := PySem.W.dataKind s'.heap (bs.map fun b => keyD (kf b))) (h₁ := PySem.W.hideAll s'.heap [kS]) (fun b o hb q => PySem.W.of_hideAll _ q) (PySem.W.hideAll_none _ (by simp)) nk' na' hka (PySem.W.SortsAt.data er hal hsk hu) hsz hzi fun h' tk c kp ha' => ⟨rfl, ?_⟩
    obtain ⟨out, hout⟩ : ∃ out, out = PySem.W.sortVals (PySem.W.dataKind s'.heap (bs.map fun b => keyD (kf b))) false kA.toList its := ⟨_, rfl⟩
    rw [← hout] at ha'
    have eo : PySem.W.EachIs (fun u b => ∃ x, RelV x u ∧ S x b) out (bs.mergeSort (PySem.W.dataLe false fun b => keyD (kf b))) :=
      PySem.W.keyedOut_each (fun b => keyD (kf b)) ⟨s'.heap, kA.toList, hal, hout, er⟩ (each_of st rv)
    obtain ⟨ys, k1, k2⟩ := of_each eo
    have hly : ys.length ≤ sizeLine := by
      have h1 := k2.length
      rw [List.length_mergeSort] at h1
      omega
    have fa' : FpOk X pins H' aN := ⟨nA, fa.2⟩
    have fk' : FpOk X pins H' kS := ⟨nS, fk.2⟩
    have I3 : Inv X pins σ H' { s' with heap := h', toks := tk } := IU.turnedL (t' := tk) (ch := [aN, kS]) (fun b o hb q => by
      have hb1 : b ≠ aN := fun z => hb (by simp [z])
      have hb2 : b ≠ kS := fun z => hb (by simp [z])
      exact kp b o hb1 (get_hide q hb2)) fun b hb => by
        have : b = aN ∨ b = kS := by simpa using hb
        rcases this with rfl | rfl
        · exact fa'
        · exact fk'
    refine ⟨upd H' aN (.lst ys), ys, track I3 fa' hsa ⟨hly, out, c, k1, ha'⟩, ext.trans (.of fun a o q => (upd_ne (ne_of_none q nA)).trans q), upd_same, k2⟩
theorem pe_sortLam {T : List (Addr × Str)} {c P : Addr} {k : Nat} {e body : Expr} {params : Arguments} {scope : Scope} {lpos kpos p pos : Pos} {ta : TA} {tb : TE} {pa : Str}
    (hg : Gl X "sorted") (hm : X.mg "sorted" = none) (hc : X.calm = true) (hr : Room (k + 3) X.A) (ha : PA X [e] ta)
    (TB : LamX.TabB X.base X.mg c P) (hcode : X.env.code = .ref c) (hmT : (P, X.env.qual ++ "<lambda>") ∈ T) (hu : ∀ p ∈ T, p.1 = P → p.2 = X.env.qual ++ "<lambda>") (hdef : defaultsOf params X.env = ([], [])) (L : LamS1 X.env.scope scope X.N pa)
    (hbind : ∀ (q : Str) (cl : List (Str × Addr)) (pm cv ctv u : Value), bindArgs (PySem.W.kla_fn "<lambda>" q params body scope cl pm cv ctv) ⟨[u], []⟩ = pure [(pa, u)])
    (hbody : ∀ (s : Shared) (H : Hp) (f c' : Addr), Room k (X.A.in1.in1.deeper (LamX.lamEnv X scope s.heap.objs.size f c')) → PE (lamC1 X X.A.in1.in1 s H scope f c' pa) body tb)
    (hs : starEach [e] X.env = [(false, eval e X.env)] := by rfl) :
    PE X (.Call (.Name "sorted" p) [e] [⟨some "key", .Lambda params body scope lpos, kpos⟩] pos) (tSortLam X T β ta tb) := by
  refine ⟨fun pins s σ H Q I h => ?_⟩
  have hfree : ∀ y ∈ scope.names, y.2 = .free → ∃ c, X.env.cells.lookup y.1 = some c := fun y hy e => I.ok.has _ (L.free y hy e)
  refine wpAny_Call_Name_kw (ld_blt I hg hm PyProof.Rows.boot_sorted ?_)
  refine PyProof.Rows.callWith_kw (thn (ha.run pos pins s σ H _ I h) fun us s1 ⟨vs, H1, I1, r1, q1⟩ => ?_) (by rw [hs]; rfl) (by rw [hs]; rfl) rfl rfl
  obtain ⟨a, xs, bs, S, kf, rfl, st, hne, hT, q⟩ := q1
  obtain rfl := Vals.ref1 r1
  show wpAny _ _ (evalAll [(do let v ← eval (.Lambda params body scope lpos) X.env; standAt pos; pure v)]) _ _ _
  refine wpAny_evalAll_cons (wpAny_bind (LamX.lam_make2 I1 TB hcode hmT hu hT hdef hfree fun f c' pm ctv H2 s2 I2 eN T2 hf hfn hfr hco => wpAny_bind (wpAny_standAt (wpAny_pure (wpAny_evalAll_nil ?_)))))
  obtain ⟨hsq, turn, fin⟩ := q H2 eN T2 fun b ps e => by
    obtain ⟨more, z⟩ := I2.base.tbls b ps e
    exact ⟨_, z⟩
  obtain ⟨its, rv, hl, hz⟩ := I2.list hsq
  have hlen : its.length = bs.length := rv.length.symm.trans st.length
  have hzi : its.length ≤ sizeLine := rv.length ▸ hz
  show wpAny _ _ (call (.builtin "sorted") [.ref a] [(Str.ofString "key", .ref f)]) _ _ _
  refine PySem.W.sorted_of_sort hl.isList hzi (PyProof.Rows.ksk_s1 _ _) (fun _ => PyProof.Rows.ksk_l1 _ _) fun E' => ?_
  rw [PyProof.Rows.ksk_t1]
  have hsz : s2.heap.objs.size ≤ s2.heap.objs.size + 1 := Nat.le_succ _
  obtain ⟨aN, haN⟩ : ∃ aN, aN = s2.heap.objs.size + 1 := ⟨_, rfl⟩
  have hoA : (PySem.W.copyHeap s2.heap its).get? aN = some (PyProof.Rows.seqObj "list" its.toArray 0) := by
    rw [haN]
    exact PySem.W.copyHeap_at s2.heap its
  rw [← haN]
  obtain ⟨e1, ho1⟩ : ∃ e1, ((PySem.W.copyHeap s2.heap its).update aN (Obj.mapSeq fun _ => (#[] : Array Value))).get? aN = some (PyProof.Rows.seqObj "list" #[] e1) := ⟨_, PyProof.Rows.get?_update_seq hoA fun _ => #[]⟩
  have old : ∀ b o, s2.heap.get? b = some o → ((((PySem.W.copyHeap s2.heap its).update aN (Obj.mapSeq fun _ => (#[] : Array Value))).push (PyProof.Rows.seqObj "tuple" its.toArray 0)).push (PyProof.Rows.seqObj "list" #[] 0)).get? b = some o := fun b o e => by
    have z := PySem.W.sorting_copy_old (vs := its) e
    rw [← haN] at z
    exact z
  have aLt : aN < (PySem.W.copyHeap s2.heap its).objs.size := Heap.lt_size hoA
  obtain ⟨kS, hkS⟩ : ∃ kS, kS = (((PySem.W.copyHeap s2.heap its).update aN (Obj.mapSeq fun _ => (#[] : Array Value))).push (PyProof.Rows.seqObj "tuple" its.toArray 0)).objs.size := ⟨_, rfl⟩
  have hkv : kS = (PySem.W.copyHeap s2.heap its).objs.size + 1 := by rw [hkS, PyProof.Rows.size_push', Heap.size_update]
  have hka : kS ≠ aN := by
    rw [hkv]
    exact Nat.ne_of_gt (Nat.lt_succ_of_lt aLt)
  have haLe : s2.heap.objs.size ≤ aN := by rw [haN]; exact Nat.le_succ _
  have hkLe : s2.heap.objs.size ≤ kS := by
    rw [hkv]
    exact Nat.le_trans haLe (Nat.le_of_lt (Nat.lt_succ_of_lt aLt))
  have fLt : f < s2.heap.objs.size := Heap.lt_size hf
  unfold PyProof.Rows.ksk_tree
  refine wpAny_bind (PyProof.Rows.listItems_at hoA rfl ?_)
  refine wpAny_bind (PyProof.Rows.listUpdate_at hoA rfl ?_ (by rw [List.size_toArray]; exact hzi) (Nat.zero_le _))
  refine wpAny_bind (PyProof.Rows.seqEpoch_at ho1 rfl ?_)
  refine wpAny_bind (wpAny_newTuple ?_ (by show its.length ≤ _; exact hzi))
  refine wpAny_bind (wpAny_newList ?_ (Nat.zero_le _))
  refine wpAny_holding ?_
  show wpAny _ _ (PyProof.Rows.ksk_rest aN (.ref f) false its.toArray e1 (.ref (((PySem.W.copyHeap s2.heap its).update aN (Obj.mapSeq fun _ => (#[] : Array Value))).push (PyProof.Rows.seqObj "tuple" its.toArray 0)).objs.size)) _ _ _
  rw [← hkS]
  have nk : ((((PySem.W.copyHeap s2.heap its).update aN (Obj.mapSeq fun _ => (#[] : Array Value))).push (PyProof.Rows.seqObj "tuple" its.toArray 0)).push (PyProof.Rows.seqObj "list" #[] 0)).get? kS = some (PyProof.Rows.seqObj "list" #[] 0) := by
    rw [hkS]
    exact Heap.get?_push_size _ rfl
  refine thn (key_phase (bs := bs) (S := S) (kf := kf) (tb := tb) (I2.kept (t' := s2.toks) old) L hr rv hz st hne (old _ _ hf) hfn hfr hco (Heap.get?_push_of_some _ (Heap.get?_push_of_some _ ho1)) nk (I2.fpOk haLe (I2.hok.fresh haLe)) (I2.fpOk hkLe (I2.hok.fresh hkLe)) hka
    (Nat.ne_of_lt (Nat.lt_of_lt_of_le fLt haLe)) (Nat.ne_of_lt (Nat.lt_of_lt_of_le fLt hkLe)) (Nat.le_trans I2.sz haLe) hbind hbody turn) fun r s' hq => ?_
  obtain ⟨hr', H3, ys, I3, ext, hys, st3⟩ := hq
  exact ⟨hr', ⟨.ref aN, H3, I3, rfl, fin ys aN H3 st3 ext (I2.hok.fresh haLe) hys⟩⟩
end
end Bs

/-! The data layer: a def's run told by the data that its names hold. -/
namespace Bd
open PySem PySem.Spec PyProof.Rows L2

/-! ### what stays -/
/-- nothing stands there, or a table (tables are nobody's data) -/
def Fr (H : Hp) (a : Addr) : Prop := ∀ o, H a = some o → ∃ ps, o = .tbl ps
theorem Fr.none {H : Hp} {a : Addr} (h : H a = Option.none) : Fr H a := fun o e => by
  rw [h] at e
  cases e
theorem nFr {H : Hp} {a : Addr} {o : HO} (h : H a = some o) (t : ∀ ps, o ≠ .tbl ps := by intro _ q; cases q) : ¬ Fr H a := fun f => (f o h).elim fun ps e => t ps e
theorem Fr.ne {H : Hp} {a b : Addr} {o : HO} (h : H a = some o) (f : Fr H b) (t : ∀ ps, o ≠ .tbl ps) : a ≠ b := fun e => nFr h t (e ▸ f)
theorem Fr.no {H : Hp} {a : Addr} {o : HO} {p : Prop} (f : Fr H a) (h : H a = some o) (t : ∀ ps, o ≠ .tbl ps := by intro _ q; cases q) : p := (nFr h t f).elim
theorem nFr_upd {H : Hp} {b p : Addr} {o : HO} (e : ¬ Fr H b) (t : ∀ ps, o ≠ .tbl ps := by intro _ q; cases q) : ¬ Fr (upd H p o) b := by
  by_cases z : b = p
  · rw [z]
    exact nFr upd_same t
  · intro f
    refine e fun u hu => f u ?_
    rw [upd_ne z]
    exact hu
structure Keep (M : Addr → Prop) (H H' : Hp) : Prop where
  ob : ∀ a o, ¬ M a → (∀ ps, o ≠ .tbl ps) → H a = some o → H' a = some o
  dm : ∀ a, ¬ Fr H a → ¬ Fr H' a
def no0 : Addr → Prop := fun _ => False
theorem Keep.refl {M : Addr → Prop} (H : Hp) : Keep M H H := ⟨fun _ _ _ _ h => h, fun _ h => h⟩
theorem Keep.trans {M : Addr → Prop} {H H1 H2 : Hp} (a : Keep M H H1) (b : Keep M H1 H2) : Keep M H H2 :=
  ⟨fun x o hm ht h => b.ob x o hm ht (a.ob x o hm ht h), fun x h => b.dm x (a.dm x h)⟩
theorem Keep.wide {M M' : Addr → Prop} {H H1 : Hp} (k : Keep M H H1) (h : ∀ a, M a → M' a) : Keep M' H H1 := ⟨fun x o hm ht e => k.ob x o (fun z => hm (h x z)) ht e, k.dm⟩
theorem Keep.up {M : Addr → Prop} {H H1 : Hp} (k : Keep no0 H H1) : Keep M H H1 := k.wide fun _ h => h.elim
theorem Keep.new {M : Addr → Prop} {H : Hp} {p : Addr} {o : HO} (h : H p = none) (t : ∀ ps, o ≠ .tbl ps := by intro _ q; cases q) : Keep M H (upd H p o) :=
  ⟨fun a u _ _ e => by rw [upd_ne (ne_of_none e h)]; exact e, fun a e => nFr_upd e t⟩
theorem Keep.ext {M : Addr → Prop} {H H' : Hp} (e : ∀ a o, H a = some o → H' a = some o) : Keep M H H' :=
  ⟨fun a o _ _ h => e a o h, fun a h f => h fun o q => f o (e a o q)⟩
theorem Keep.mut {M : Addr → Prop} {H : Hp} {p : Addr} {o : HO} (h : M p) (t : ∀ ps, o ≠ .tbl ps := by intro _ q; cases q) : Keep M H (upd H p o) :=
  ⟨fun a u hm _ e => by rw [upd_ne (fun z => hm (by rw [z]; exact h))]; exact e, fun a e => nFr_upd e t⟩
theorem Keep.back {M : Addr → Prop} {H H1 : Hp} (k : Keep M H H1) {p : Addr} (h : Fr H1 p) : Fr H p := Classical.byContradiction fun q => k.dm p q h
theorem tabs_new {T : List (Addr × Str)} {H : Hp} {p : Addr} {o : HO} (t : LamX.Tabs T H) (h : H p = none) : LamX.Tabs T (upd H p o) := t.ext fun a u e => by
  rw [upd_ne (ne_of_none e h)]
  exact e
/-- an object that is no table and no code object changes -/
theorem tabs_mut {T : List (Addr × Str)} {H : Hp} {p : Addr} {xs : List V} {o : HO} (t : LamX.Tabs T H) (h : H p = some (.lst xs)) : LamX.Tabs T (upd H p o) := fun q hq => by
  obtain ⟨ps, h1, h2, h3⟩ := t q hq
  refine ⟨ps, by rw [upd_ne (ne_of h1 h fun z => nomatch z)]; exact h1, h2, fun pos cv hc => ?_⟩
  obtain ⟨c, e1, e2⟩ := h3 pos cv hc
  exact ⟨c, e1, by rw [upd_ne (ne_of e2 h fun z => nomatch z)]; exact e2⟩
theorem tabs_mutK {T : List (Addr × Str)} {H : Hp} {p : Addr} {xs : List (Key × V)} {o : HO} (t : LamX.Tabs T H) (h : H p = some (.dK xs)) : LamX.Tabs T (upd H p o) := fun q hq => by
  obtain ⟨ps, h1, h2, h3⟩ := t q hq
  refine ⟨ps, by rw [upd_ne (ne_of h1 h fun z => nomatch z)]; exact h1, h2, fun pos cv hc => ?_⟩
  obtain ⟨c, e1, e2⟩ := h3 pos cv hc
  exact ⟨c, e1, by rw [upd_ne (ne_of e2 h fun z => nomatch z)]; exact e2⟩
theorem tabs_mutI {T : List (Addr × Str)} {H : Hp} {p C dx : Addr} {xs : List (Str × V)} {o : HO} (t : LamX.Tabs T H) (h : H p = some (.ins C dx xs)) : LamX.Tabs T (upd H p o) := fun q hq => by
  obtain ⟨ps, h1, h2, h3⟩ := t q hq
  refine ⟨ps, by rw [upd_ne (ne_of h1 h fun z => nomatch z)]; exact h1, h2, fun pos cv hc => ?_⟩
  obtain ⟨c, e1, e2⟩ := h3 pos cv hc
  exact ⟨c, e1, by rw [upd_ne (ne_of e2 h fun z => nomatch z)]; exact e2⟩
theorem tabs_mutT {T : List (Addr × Str)} {H : Hp} {p : Addr} {xs : List (List Key × V)} {o : HO} (t : LamX.Tabs T H) (h : H p = some (.dT xs)) : LamX.Tabs T (upd H p o) := fun q hq => by
  obtain ⟨ps, h1, h2, h3⟩ := t q hq
  refine ⟨ps, by rw [upd_ne (ne_of h1 h fun z => nomatch z)]; exact h1, h2, fun pos cv hc => ?_⟩
  obtain ⟨c, e1, e2⟩ := h3 pos cv hc
  exact ⟨c, e1, by rw [upd_ne (ne_of e2 h fun z => nomatch z)]; exact e2⟩

/-! ### data -/
/-- a tuple of texts whose object is known to have no dict of its own -/
def ftD (ns : List Str) : PyData := .dict [(.none, .tuple (ns.map .str))]
mutual
/-- v reads as d, all of it at addresses outside N; `.dict []` stands for what nobody asks for -/
inductive Da (N : Addr → Prop) (H : Hp) : V → PyData → Prop
  | non : Da N H .non .none
  | bl (b : Bool) : Da N H (.bl b) (.bool b)
  | int (i : Int) : Da N H (.int i) (.int i)
  | str (x : Str) : Da N H (.str x) (.str x)
  | lst {a : Addr} {xs : List V} {ds : List PyData} : ¬ N a → H a = some (.lst xs) → DaA N H xs ds → Da N H (.ref a) (.list ds)
  | tup {a : Addr} {xs : List V} {ds : List PyData} : ¬ N a → H a = some (.tup xs) → DaA N H xs ds → Da N H (.ref a) (.tuple ds)
  | any (v : V) : Da N H v (.dict [])
  | ft {a : Addr} {o : Obj} {ns : List Str} : ¬ N a → H a = some (.frz o (.tup (ns.map V.str))) → o.dict = none → Da N H (.ref a) (.dict [(.none, .tuple (ns.map .str))])
inductive DaA (N : Addr → Prop) (H : Hp) : List V → List PyData → Prop
  | nil : DaA N H [] []
  | cons {v : V} {vs : List V} {d : PyData} {ds : List PyData} : Da N H v d → DaA N H vs ds → DaA N H (v :: vs) (d :: ds)
end
mutual
/-- the same data elsewhere: what is read stays, and is not owned there -/
theorem Da.mono0 {N N' : Addr → Prop} {H H' : Hp} (hk : ∀ a o, ¬ N a → (∀ ps, o ≠ .tbl ps) → H a = some o → H' a = some o) (hn : ∀ a, N' a → N a ∨ Fr H a) : ∀ (d : PyData) (v : V), Da N H v d → Da N' H' v d
  | .none, _, h => by cases h; exact .non
  | .bool b, _, h => by cases h; exact .bl b
  | .int i, _, h => by cases h; exact .int i
  | .str x, _, h => by cases h; exact .str x
  | .list ds, _, h => by
    cases h with
    | lst h1 h2 h3 => exact .lst (fun z => (hn _ z).elim h1 fun q => q.no h2) (hk _ _ h1 (fun _ q => nomatch q) h2) (DaA.mono0 hk hn ds _ h3)
  | .tuple ds, _, h => by
    cases h with
    | tup h1 h2 h3 => exact .tup (fun z => (hn _ z).elim h1 fun q => q.no h2) (hk _ _ h1 (fun _ q => nomatch q) h2) (DaA.mono0 hk hn ds _ h3)
  | .dict _, _, h => by
    cases h with
    | any => exact .any _
    | ft h1 h2 h3 => exact .ft (fun z => (hn _ z).elim h1 fun q => q.no h2) (hk _ _ h1 (fun _ q => nomatch q) h2) h3
theorem DaA.mono0 {N N' : Addr → Prop} {H H' : Hp} (hk : ∀ a o, ¬ N a → (∀ ps, o ≠ .tbl ps) → H a = some o → H' a = some o) (hn : ∀ a, N' a → N a ∨ Fr H a) : ∀ (ds : List PyData) (vs : List V), DaA N H vs ds → DaA N' H' vs ds
  | [], _, h => by cases h; exact .nil
  | d :: ds, _, h => by
    cases h with
    | cons h t => exact .cons (Da.mono0 hk hn d _ h) (DaA.mono0 hk hn ds _ t)
end
theorem Da.mono {N N' : Addr → Prop} {H H' : Hp} (hk : ∀ a o, ¬ N a → (∀ ps, o ≠ .tbl ps) → H a = some o → H' a = some o) (hn : ∀ a, N' a → N a ∨ Fr H a) {d : PyData} {v : V} (h : Da N H v d) : Da N' H' v d := Da.mono0 hk hn d v h
theorem DaA.mono {N N' : Addr → Prop} {H H' : Hp} (hk : ∀ a o, ¬ N a → (∀ ps, o ≠ .tbl ps) → H a = some o → H' a = some o) (hn : ∀ a, N' a → N a ∨ Fr H a) {ds : List PyData} {vs : List V} (h : DaA N H vs ds) : DaA N' H' vs ds := DaA.mono0 hk hn ds vs h
theorem strs_inj : ∀ {a b : List Str}, a.map PyData.str = b.map PyData.str → a = b
  | [], [], _ => rfl
  | [], _ :: _, h => nomatch h
  | _ :: _, [], h => nomatch h
  | x :: a, y :: b, h => by
    have h1 := (List.cons.inj h).1
    injection h1 with h1
    rw [h1, strs_inj (List.cons.inj h).2]
theorem Da.ft' {N : Addr → Prop} {H : Hp} {v : V} {d : PyData} {ns : List Str} (h : Da N H v d) (e : d = ftD ns) : ∃ a o, v = .ref a ∧ ¬ N a ∧ H a = some (.frz o (.tup (ns.map V.str))) ∧ o.dict = none := by
  unfold ftD at e
  cases h with
  | ft h1 h2 h3 =>
    have e2 := strs_inj (PyData.tuple.inj (Prod.mk.inj (List.cons.inj (PyData.dict.inj e)).1).2)
    subst e2
    exact ⟨_, _, rfl, h1, h2, h3⟩
  | _ => cases e
section
variable {N N' M : Addr → Prop} {H H' : Hp} {v : V} {d : PyData} {vs : List V} {ds : List PyData}
theorem Da.keep (h : Da N H v d) (k : Keep M H H') (hm : ∀ a, M a → N a) : Da N H' v d := h.mono (fun a o n t e => k.ob a o (fun z => n (hm a z)) t e) fun a z => .inl z
theorem DaA.keep (h : DaA N H vs ds) (k : Keep M H H') (hm : ∀ a, M a → N a) : DaA N H' vs ds := h.mono (fun a o n t e => k.ob a o (fun z => n (hm a z)) t e) fun a z => .inl z
theorem Da.less (h : Da N H v d) (hn : ∀ a, N' a → N a) : Da N' H v d := h.mono (fun _ _ _ _ e => e) fun a z => .inl (hn a z)
theorem DaA.less (h : DaA N H vs ds) (hn : ∀ a, N' a → N a) : DaA N' H vs ds := h.mono (fun _ _ _ _ e => e) fun a z => .inl (hn a z)
theorem DaA.length : ∀ {vs : List V} {ds : List PyData}, DaA N H vs ds → vs.length = ds.length
  | _, _, .nil => rfl
  | _, _, .cons _ t => congrArg (· + 1) (DaA.length t)
theorem DaA.get : ∀ {vs : List V} {ds : List PyData} {i : Nat} {d : PyData}, DaA N H vs ds → ds[i]? = some d → ∃ v, vs[i]? = some v ∧ Da N H v d
  | _, _, _, _, .nil, e => by simp at e
  | _, _, 0, _, .cons h _, e => by
    simp at e
    subst e
    exact ⟨_, rfl, h⟩
  | _, _, i + 1, d, .cons _ t, e => by
    obtain ⟨v, h1, h2⟩ := DaA.get (i := i) (d := d) t (by simpa using e)
    exact ⟨v, by simpa using h1, h2⟩
theorem DaA.at : ∀ {vs : List V} {ds : List PyData} {i : Nat} {v : V}, DaA N H vs ds → vs[i]? = some v → ∃ d, ds[i]? = some d ∧ Da N H v d
  | _, _, _, _, .nil, e => by simp at e
  | _, _, 0, _, .cons h _, e => by
    simp at e
    subst e
    exact ⟨_, rfl, h⟩
  | _, _, i + 1, v, .cons _ t, e => by
    obtain ⟨d, h1, h2⟩ := DaA.at (i := i) (v := v) t (by simpa using e)
    exact ⟨d, by simpa using h1, h2⟩
theorem DaA.app : ∀ {vs ws : List V} {ds es : List PyData}, DaA N H vs ds → DaA N H ws es → DaA N H (vs ++ ws) (ds ++ es)
  | _, _, _, _, .nil, h => h
  | _, _, _, _, .cons h t, k => .cons h (DaA.app t k)
theorem DaA.take : ∀ {vs : List V} {ds : List PyData} (n : Nat), DaA N H vs ds → DaA N H (vs.take n) (ds.take n)
  | _, _, 0, _ => .nil
  | _, _, _ + 1, .nil => .nil
  | _, _, n + 1, .cons h t => .cons h (DaA.take n t)
theorem DaA.drop : ∀ {vs : List V} {ds : List PyData} (n : Nat), DaA N H vs ds → DaA N H (vs.drop n) (ds.drop n)
  | _, _, 0, h => h
  | _, _, _ + 1, .nil => .nil
  | _, _, n + 1, .cons _ t => DaA.drop n t
theorem DaA.erase : ∀ {vs : List V} {ds : List PyData} (n : Nat), DaA N H vs ds → DaA N H (vs.eraseIdx n) (ds.eraseIdx n)
  | _, _, _, .nil => .nil
  | _, _, 0, .cons _ t => t
  | _, _, n + 1, .cons h t => .cons h (DaA.erase n t)
theorem DaA.ints : ∀ {vs : List V} {ns : List Int}, DaA N H vs (ns.map .int) → vs = ns.map V.int
  | _, [], .nil => rfl
  | _, n :: ns, .cons (.int _) t => congrArg _ (DaA.ints t)
theorem DaA.strs : ∀ {vs : List V} {ns : List Str}, DaA N H vs (ns.map .str) → vs = ns.map V.str
  | _, [], .nil => rfl
  | _, n :: ns, .cons (.str _) t => congrArg _ (DaA.strs t)
theorem DaA.bls : ∀ {vs : List V} {ns : List Bool}, DaA N H vs (ns.map .bool) → vs = ns.map V.bl
  | _, [], .nil => rfl
  | _, n :: ns, .cons (.bl _) t => congrArg _ (DaA.bls t)
theorem DaA.of_strs : ∀ (ns : List Str), DaA N H (ns.map V.str) (ns.map .str)
  | [] => .nil
  | n :: ns => .cons (.str n) (DaA.of_strs ns)
theorem DaA.of_ints : ∀ (ns : List Int), DaA N H (ns.map V.int) (ns.map .int)
  | [] => .nil
  | n :: ns => .cons (.int n) (DaA.of_ints ns)
end
mutual
def clean : PyData → Bool
  | .dict _ => false
  | .list xs => cleanA xs
  | .tuple xs => cleanA xs
  | _ => true
def cleanA : List PyData → Bool
  | [] => true
  | d :: ds => clean d && cleanA ds
end
mutual
theorem Da.dp0 {K : PySem.W.Frag} {N : Addr → Prop} {H : Hp} : ∀ (d : PyData) (v : V), Da N H v d → clean d = true → Dp K H v d
  | .none, _, h, _ => by cases h; exact .non
  | .bool b, _, h, _ => by cases h; exact .bl b
  | .int i, _, h, _ => by cases h; exact .int i
  | .str x, _, h, _ => by cases h; exact .str x
  | .list ds, _, h, c => by
    cases h with
    | lst h1 h2 h3 => exact .lst (SqL.of h2) (DaA.dp0 ds _ h3 (by simpa [clean] using c))
  | .tuple ds, _, h, c => by
    cases h with
    | tup h1 h2 h3 => exact .tup (SqT.of h2) (DaA.dp0 ds _ h3 (by simpa [clean] using c))
  | .dict _, _, h, c => by simp [clean] at c
theorem DaA.dp0 {K : PySem.W.Frag} {N : Addr → Prop} {H : Hp} : ∀ (ds : List PyData) (vs : List V), DaA N H vs ds → cleanA ds = true → DpAll K H vs ds
  | [], _, h, _ => by cases h; exact .nil
  | d :: ds, _, h, c => by
    have c2 : clean d = true ∧ cleanA ds = true := by simpa [cleanA] using c
    cases h with
    | cons h t => exact .cons (Da.dp0 d _ h c2.1) (DaA.dp0 ds _ t c2.2)
end
theorem Da.dp {K : PySem.W.Frag} {N : Addr → Prop} {H : Hp} {d : PyData} {v : V} (h : Da N H v d) (c : clean d = true) : Dp K H v d := Da.dp0 d v h c
theorem DaA.dp {K : PySem.W.Frag} {N : Addr → Prop} {H : Hp} {ds : List PyData} {vs : List V} (h : DaA N H vs ds) (c : cleanA ds = true) : DpAll K H vs ds := DaA.dp0 ds vs h c

/-! ### what a name holds -/
inductive Vl where
  /-- data; an instance of the class at C; this very value; a list that is ours to change; a dict that is ours to change (keys: ints and texts; tuples of such) -/
  | da (d : PyData) | ob (C : Addr) (fs : List (Str × PyData)) | ex (v : V) | ac (ds : List PyData) | dk (kvs : List (Key × PyData)) | dt (kvs : List (List Key × PyData))
  /-- an instance that is being made -/
  | oi (C : Addr) (fs : List (Str × PyData))
def hot : Vl → Bool
  | .ac _ => true
  | .dk _ => true
  | .dt _ => true
  | .oi _ _ => true
  | _ => false
def Has (H0 : Hp) (N : Addr → Prop) (H : Hp) (v : V) : Vl → Prop
  | .da d => Da N H v d
  | .ob C fs => ∃ p dx vs, v = .ref p ∧ ¬ N p ∧ H p = some (.ins C dx vs) ∧ vs.map (·.1) = fs.map (·.1) ∧ DaA N H (vs.map (·.2)) (fs.map (·.2))
  | .ex u => v = u
  | .ac ds => ∃ a xs, v = .ref a ∧ N a ∧ Fr H0 a ∧ H a = some (.lst xs) ∧ DaA N H xs ds
  | .dk kvs => ∃ a ws, v = .ref a ∧ N a ∧ Fr H0 a ∧ H a = some (.dK ws) ∧ ws.map (·.1) = kvs.map (·.1) ∧ DaA N H (ws.map (·.2)) (kvs.map (·.2))
  | .dt kvs => ∃ a ws, v = .ref a ∧ N a ∧ Fr H0 a ∧ H a = some (.dT ws) ∧ ws.map (·.1) = kvs.map (·.1) ∧ DaA N H (ws.map (·.2)) (kvs.map (·.2))
  | .oi C fs => ∃ a dx ws, v = .ref a ∧ N a ∧ Fr H0 a ∧ H a = some (.ins C dx ws) ∧ ws.map (·.1) = fs.map (·.1) ∧ DaA N H (ws.map (·.2)) (fs.map (·.2))
/-- expressions run: all stays but M, which nobody here owns -/
theorem Has.keep {H0 : Hp} {N M : Addr → Prop} {H H' : Hp} {v : V} : ∀ {x : Vl}, Has H0 N H v x → Keep M H H' → (∀ a, M a → N a ∧ ¬ Fr H0 a) → Has H0 N H' v x
  | .da d, h, k, hm => Da.keep h k fun a z => (hm a z).1
  | .ob C fs, ⟨p, dx, vs, e, n, h, q, r⟩, k, hm => ⟨p, dx, vs, e, n, k.ob _ _ (fun z => n (hm p z).1) (fun _ q => nomatch q) h, q, r.keep k fun a z => (hm a z).1⟩
  | .ex u, h, _, _ => h
  | .ac ds, ⟨a, xs, e, n, f, h, q⟩, k, hm => ⟨a, xs, e, n, f, k.ob _ _ (fun z => (hm a z).2 f) (fun _ q => nomatch q) h, q.keep k fun a z => (hm a z).1⟩
  | .dk ds, ⟨a, xs, e, n, f, h, q, r⟩, k, hm => ⟨a, xs, e, n, f, k.ob _ _ (fun z => (hm a z).2 f) (fun _ q => nomatch q) h, q, r.keep k fun a z => (hm a z).1⟩
  | .dt ds, ⟨a, xs, e, n, f, h, q, r⟩, k, hm => ⟨a, xs, e, n, f, k.ob _ _ (fun z => (hm a z).2 f) (fun _ q => nomatch q) h, q, r.keep k fun a z => (hm a z).1⟩
  | .oi C ds, ⟨a, dx, xs, e, n, f, h, q, r⟩, k, hm => ⟨a, dx, xs, e, n, f, k.ob _ _ (fun z => (hm a z).2 f) (fun _ q => nomatch q) h, q, r.keep k fun a z => (hm a z).1⟩
/-- what is not ours to change, under another word of who owns what -/
theorem Has.cold {H0 H0' : Hp} {N N' : Addr → Prop} {H H' : Hp} {v : V} (hk : ∀ a o, ¬ N a → (∀ ps, o ≠ .tbl ps) → H a = some o → H' a = some o) (hn : ∀ a, N' a → N a ∨ Fr H a) : ∀ {x : Vl}, hot x = false → Has H0 N H v x → Has H0' N' H' v x
  | .da d, _, h => Da.mono hk hn h
  | .ob C fs, _, ⟨p, dx, vs, e, n, h, q, r⟩ => ⟨p, dx, vs, e, (fun z => (hn p z).elim n fun q => q.no h), hk _ _ n (fun _ q => nomatch q) h, q, r.mono hk hn⟩
  | .ex u, _, h => h
  | .ac ds, c, _ => nomatch c
  | .dk ds, c, _ => nomatch c
  | .dt ds, c, _ => nomatch c
  | .oi _ _, c, _ => nomatch c
/-- more is owned, of what was not there -/
theorem Has.more {H0 : Hp} {N N' M : Addr → Prop} {H H' : Hp} {v : V} (k : Keep M H H') (hm : ∀ a, M a → N a ∧ ¬ Fr H0 a) (up : ∀ a, N a → N' a) (hn : ∀ a, N' a → N a ∨ Fr H a) : ∀ {x : Vl}, Has H0 N H v x → Has H0 N' H' v x
  | .da d, h => Has.cold (x := .da d) (H0 := H0) (fun a o n t e => k.ob a o (fun z => n (hm a z).1) t e) hn rfl h
  | .ob C fs, h => Has.cold (x := .ob C fs) (H0 := H0) (fun a o n t e => k.ob a o (fun z => n (hm a z).1) t e) hn rfl h
  | .ex u, h => h
  | .ac ds, ⟨a, xs, e, n, f, h, q⟩ => ⟨a, xs, e, up a n, f, k.ob _ _ (fun z => (hm a z).2 f) (fun _ q => nomatch q) h, q.mono (fun a o n t e => k.ob a o (fun z => n (hm a z).1) t e) hn⟩
  | .dk ds, ⟨a, xs, e, n, f, h, q, r⟩ => ⟨a, xs, e, up a n, f, k.ob _ _ (fun z => (hm a z).2 f) (fun _ q => nomatch q) h, q, r.mono (fun a o n t e => k.ob a o (fun z => n (hm a z).1) t e) hn⟩
  | .dt ds, ⟨a, xs, e, n, f, h, q, r⟩ => ⟨a, xs, e, up a n, f, k.ob _ _ (fun z => (hm a z).2 f) (fun _ q => nomatch q) h, q, r.mono (fun a o n t e => k.ob a o (fun z => n (hm a z).1) t e) hn⟩
  | .oi C ds, ⟨a, dx, xs, e, n, f, h, q, r⟩ => ⟨a, dx, xs, e, up a n, f, k.ob _ _ (fun z => (hm a z).2 f) (fun _ q => nomatch q) h, q, r.mono (fun a o n t e => k.ob a o (fun z => n (hm a z).1) t e) hn⟩
theorem Has.hotN {H0 : Hp} {N : Addr → Prop} {H : Hp} {v : V} : ∀ {x : Vl}, hot x = true → Has H0 N H v x → ∃ a, v = .ref a ∧ N a ∧ Fr H0 a
  | .ac _, _, ⟨a, _, e, n, f, _⟩ => ⟨a, e, n, f⟩
  | .dk _, _, ⟨a, _, e, n, f, _⟩ => ⟨a, e, n, f⟩
  | .dt _, _, ⟨a, _, e, n, f, _⟩ => ⟨a, e, n, f⟩
  | .oi _ _, _, ⟨a, _, _, e, n, f, _⟩ => ⟨a, e, n, f⟩
  | .da _, c, _ => nomatch c
  | .ob _ _, c, _ => nomatch c
  | .ex _, c, _ => nomatch c
/-- another owned object changes -/
theorem Has.other {H0 : Hp} {N : Addr → Prop} {H : Hp} {v : V} {b : Addr} {o : HO} (nb : N b) : ∀ {x : Vl}, (hot x = true → v ≠ .ref b) → Has H0 N H v x → Has H0 N (upd H b o) v x
  | .da d, _, h => Da.mono (fun a u n _ e => (upd_ne (fun z => n (by rw [z]; exact nb))).trans e) (fun a z => .inl z) h
  | .ob C fs, _, h => Has.cold (x := .ob C fs) (H0 := H0) (fun a u n _ e => (upd_ne (fun z => n (by rw [z]; exact nb))).trans e) (fun a z => .inl z) rfl h
  | .ex u, _, h => h
  | .ac ds, c, ⟨a, xs, e, n, f, h, q⟩ => ⟨a, xs, e, n, f, (upd_ne (fun z => c rfl (by rw [e, z]))).trans h, q.mono (fun a u n _ e => (upd_ne (fun z => n (by rw [z]; exact nb))).trans e) fun a z => .inl z⟩
  | .dk ds, c, ⟨a, xs, e, n, f, h, q, r⟩ => ⟨a, xs, e, n, f, (upd_ne (fun z => c rfl (by rw [e, z]))).trans h, q, r.mono (fun a u n _ e => (upd_ne (fun z => n (by rw [z]; exact nb))).trans e) fun a z => .inl z⟩
  | .dt ds, c, ⟨a, xs, e, n, f, h, q, r⟩ => ⟨a, xs, e, n, f, (upd_ne (fun z => c rfl (by rw [e, z]))).trans h, q, r.mono (fun a u n _ e => (upd_ne (fun z => n (by rw [z]; exact nb))).trans e) fun a z => .inl z⟩
  | .oi C ds, c, ⟨a, dx, xs, e, n, f, h, q, r⟩ => ⟨a, dx, xs, e, n, f, (upd_ne (fun z => c rfl (by rw [e, z]))).trans h, q, r.mono (fun a u n _ e => (upd_ne (fun z => n (by rw [z]; exact nb))).trans e) fun a z => .inl z⟩
inductive HasA (H0 : Hp) (N : Addr → Prop) (H : Hp) : List V → List Vl → Prop
  | nil : HasA H0 N H [] []
  | cons {v : V} {vs : List V} {x : Vl} {xs : List Vl} : Has H0 N H v x → HasA H0 N H vs xs → HasA H0 N H (v :: vs) (x :: xs)
theorem HasA.keep {H0 : Hp} {N M : Addr → Prop} {H H' : Hp} (k : Keep M H H') (hm : ∀ a, M a → N a ∧ ¬ Fr H0 a) : ∀ {vs : List V} {xs : List Vl}, HasA H0 N H vs xs → HasA H0 N H' vs xs
  | _, _, .nil => .nil
  | _, _, .cons h t => .cons (h.keep k hm) (HasA.keep k hm t)
theorem HasA.length {H0 : Hp} {N : Addr → Prop} {H : Hp} : ∀ {vs : List V} {xs : List Vl}, HasA H0 N H vs xs → vs.length = xs.length
  | _, _, .nil => rfl
  | _, _, .cons _ t => congrArg (· + 1) (HasA.length t)

/-! ### the state of a def -/
/-- the tables; the heap at the entry; what the callers own; the drawn state's two lists -/
structure G where
  T : List (Addr × Str)
  H0 : Hp
  P : Addr → Prop
  st : Option (Addr × Addr)
def stM : Option (Addr × Addr) → Addr → Prop
  | none, _ => False
  | some (s, c), a => a = s ∨ a = c
def StI : Option (Addr × Addr) → Hp → Prop
  | none, _ => True
  | some (s, c), H => s ≠ c ∧ ∃ (k : Int) (ns : List Int), H s = some (.lst [.ref c, .int k]) ∧ H c = some (.lst (ns.map V.int)) ∧ ns ≠ [] ∧ ns.length ≤ 63
theorem StI.keep {st : Option (Addr × Addr)} {H H' : Hp} (h : StI st H) (k : Keep no0 H H') : StI st H' := by
  cases st with
  | none => trivial
  | some p =>
    obtain ⟨s, c⟩ := p
    obtain ⟨h1, j, ns, h2, h3, h4⟩ := h
    exact ⟨h1, j, ns, k.ob _ _ (fun z => z) (fun _ q => nomatch q) h2, k.ob _ _ (fun z => z) (fun _ q => nomatch q) h3, h4⟩
theorem StI.keepM {st : Option (Addr × Addr)} {M : Addr → Prop} {H H' : Hp} (h : StI st H) (k : Keep M H H') (hm : ∀ a, stM st a → ¬ M a) : StI st H' := by
  cases st with
  | none => trivial
  | some p =>
    obtain ⟨s, c⟩ := p
    obtain ⟨h1, j, ns, h2, h3, h4⟩ := h
    exact ⟨h1, j, ns, k.ob _ _ (hm s (.inl rfl)) (fun _ q => nomatch q) h2, k.ob _ _ (hm c (.inr rfl)) (fun _ q => nomatch q) h3, h4⟩
abbrev Ctx := List (Option Vl)
structure Rep (g : G) (N : Addr → Prop) (c : Ctx) (σ : L2.St) (H : Hp) : Prop where
  kp : Keep (stM g.st) g.H0 H
  sti : StI g.st H
  tab : LamX.Tabs g.T H
  pn : ∀ a, g.P a → N a
  pt : ∀ a, g.P a → ¬ Fr g.H0 a
  mp : ∀ a, stM g.st a → g.P a
  trk : ∀ a, N a → ¬ Fr H a
  len : σ.length = c.length
  sl : ∀ (i : Nat) (x : Vl), c[i]? = some (some x) → ∃ v, σ[i]? = some (some v) ∧ Has g.H0 N H v x
  ds : ∀ (i j : Nat) (x y : Vl) (v : V), i ≠ j → c[i]? = some (some x) → c[j]? = some (some y) → hot x = true → hot y = true → σ[i]? = some (some v) → σ[j]? = some (some v) → False
section
variable {g : G} {N N' : Addr → Prop} {c : Ctx} {σ : L2.St} {H H' : Hp}
theorem Rep.mn (r : Rep g N c σ H) : ∀ a, stM g.st a → N a := fun a h => r.pn a (r.mp a h)
theorem Rep.m0 (r : Rep g N c σ H) : ∀ a, stM g.st a → N a ∧ ¬ Fr g.H0 a := fun a h => ⟨r.mn a h, r.pt a (r.mp a h)⟩
theorem Rep.step (r : Rep g N c σ H) (k : Keep (stM g.st) H H') (s : StI g.st H') (t : LamX.Tabs g.T H') : Rep g N c σ H' :=
  ⟨r.kp.trans k, s, t, r.pn, r.pt, r.mp, fun a h => k.dm a (r.trk a h), r.len, fun i x e => (r.sl i x e).elim fun v h => ⟨v, h.1, h.2.keep k r.m0⟩, r.ds⟩
theorem Rep.grow (r : Rep g N c σ H) (k : Keep no0 H H') (t : LamX.Tabs g.T H') : Rep g N c σ H' := r.step k.up (r.sti.keep k) t
theorem Rep.new (r : Rep g N c σ H) {p : Addr} {o : HO} (h : H p = none) (t : ∀ ps, o ≠ .tbl ps := by intro _ q; cases q) : Rep g N c σ (upd H p o) := r.grow (Keep.new h t) (tabs_new r.tab h)
theorem Rep.notN (r : Rep g N c σ H) {p : Addr} (h : Fr H p) : ¬ N p := fun z => r.trk p z h
theorem Rep.not0 (r : Rep g N c σ H) {p : Addr} (h : Fr H p) : Fr g.H0 p := r.kp.back h
/-- a name gets what is not ours to change -/
theorem Rep.set (r : Rep g N c σ H) {i : Nat} {v : V} {x : Vl} (hx : Has g.H0 N H v x) (hc : hot x = false) : Rep g N (c.set i (some x)) (σ.set i (some v)) H := by
  refine ⟨r.kp, r.sti, r.tab, r.pn, r.pt, r.mp, r.trk, by rw [List.length_set, List.length_set, r.len], fun j y e => ?_, fun j k y z w hjk h1 h2 hy hz e1 e2 => ?_⟩
  · rw [List.getElem?_set] at e ⊢
    by_cases hij : i = j
    · rw [if_pos hij] at e ⊢
      subst hij
      split at e
      · cases e
        rename_i hl
        rw [if_pos (by rw [r.len]; exact hl)]
        exact ⟨v, rfl, hx⟩
      · cases e
    · rw [if_neg hij] at e ⊢
      exact r.sl j y e
  · rw [List.getElem?_set] at h1 h2
    by_cases hij : i = j
    · rw [if_pos hij] at h1
      split at h1
      · cases h1
        rw [hc] at hy
        cases hy
      · cases h1
    · by_cases hik : i = k
      · rw [if_pos hik] at h2
        split at h2
        · cases h2
          rw [hc] at hz
          cases hz
        · cases h2
      · rw [if_neg hij] at h1
        rw [if_neg hik] at h2
        rw [List.getElem?_set, if_neg hij] at e1
        rw [List.getElem?_set, if_neg hik] at e2
        exact r.ds j k y z w hjk h1 h2 hy hz e1 e2
/-- one more address is owned -/
theorem Rep.own (r : Rep g N c σ H) {a : Addr} (k : Keep (stM g.st) H H') (s : StI g.st H') (t : LamX.Tabs g.T H') (ha : Fr H a) (ha' : ¬ Fr H' a) : Rep g (fun b => N b ∨ b = a) c σ H' := by
  have hn : ∀ b, (N b ∨ b = a) → N b ∨ Fr H b := fun b z => z.imp_right fun q => by rw [q]; exact ha
  exact ⟨r.kp.trans k, s, t, fun b z => .inl (r.pn b z), r.pt, r.mp, fun b z => z.elim (fun q => k.dm b (r.trk b q)) fun q => by rw [q]; exact ha', r.len,
    fun i x e => (r.sl i x e).elim fun v h => ⟨v, h.1, h.2.more k r.m0 (fun b z => .inl z) hn⟩, r.ds⟩
/-- a name gets a new object that is ours to change -/
theorem Rep.setHot (r : Rep g N c σ H) {i : Nat} {a : Addr} {x : Vl} (k : Keep (stM g.st) H H') (s : StI g.st H') (t : LamX.Tabs g.T H') (ha : Fr H a) (ha' : ¬ Fr H' a) (hx : Has g.H0 (fun b => N b ∨ b = a) H' (.ref a) x) :
    Rep g (fun b => N b ∨ b = a) (c.set i (some x)) (σ.set i (some (.ref a))) H' := by
  have r2 := r.own k s t ha ha'
  have nh : ∀ (j : Nat) (y : Vl), c[j]? = some (some y) → hot y = true → σ[j]? = some (some (V.ref a)) → False := fun j y e hy e2 => by
    obtain ⟨v, h1, h2⟩ := r.sl j y e
    rw [h1] at e2
    cases e2
    obtain ⟨b, e3, nb, _⟩ := h2.hotN hy
    cases e3
    exact r.trk _ nb ha
  refine ⟨r2.kp, s, t, r2.pn, r.pt, r.mp, r2.trk, by rw [List.length_set, List.length_set, r.len], fun j y e => ?_, fun j l y z w hjk h1 h2 hy hz e1 e2 => ?_⟩
  · rw [List.getElem?_set] at e ⊢
    by_cases hij : i = j
    · rw [if_pos hij] at e ⊢
      subst hij
      split at e
      · cases e
        rename_i hl
        rw [if_pos (by rw [r.len]; exact hl)]
        exact ⟨_, rfl, hx⟩
      · cases e
    · rw [if_neg hij] at e ⊢
      exact r2.sl j y e
  · rw [List.getElem?_set] at h1 h2 e1 e2
    by_cases hij : i = j
    · have hil : ¬ i = l := fun z => hjk (hij.symm.trans z)
      rw [if_pos hij] at e1
      rw [if_neg hil] at h2 e2
      split at e1
      · cases e1
        exact nh l z h2 hz e2
      · cases e1
    · rw [if_neg hij] at h1 e1
      by_cases hil : i = l
      · rw [if_pos hil] at e2
        split at e2
        · cases e2
          exact nh j y h1 hy e1
        · cases e2
      · rw [if_neg hil] at h2 e2
        exact r.ds j l y z w hjk h1 h2 hy hz e1 e2
/-- what a name owns changes -/
theorem Rep.mutHot (r : Rep g N c σ H) {i : Nat} {a : Addr} {x y : Vl} {o : HO} (hi : c[i]? = some (some x)) (hs : σ[i]? = some (some (.ref a))) (hx : hot x = true) (t : LamX.Tabs g.T (upd H a o)) (hy : Has g.H0 N (upd H a o) (.ref a) y) (ot : ∀ ps, o ≠ .tbl ps := by intro _ q; cases q) :
    Rep g N (c.set i (some y)) σ (upd H a o) := by
  obtain ⟨v, h1, h2⟩ := r.sl i x hi
  rw [hs] at h1
  cases h1
  obtain ⟨b, e3, nb, fb⟩ := h2.hotN hx
  cases e3
  have nm : ∀ b, stM g.st b → b ≠ a := fun b z q => (r.m0 b z).2 (by rw [q]; exact fb)
  refine ⟨⟨fun b u hm ht e => ?_, fun b e => nFr_upd (r.kp.dm b e) ot⟩, r.sti.keepM (M := fun b => b = a) (Keep.mut rfl ot) fun b z q => nm b z q, t, r.pn, r.pt, r.mp, fun b z => nFr_upd (r.trk b z) ot, by rw [List.length_set, r.len], fun j z e => ?_, fun j l z w u hjl g1 g2 hz hw e1 e2 => ?_⟩
  · rw [upd_ne (Fr.ne e fb ht)]
    exact r.kp.ob b u hm ht e
  · rw [List.getElem?_set] at e
    by_cases hij : i = j
    · rw [if_pos hij] at e
      subst hij
      split at e
      · cases e
        exact ⟨_, hs, hy⟩
      · cases e
    · rw [if_neg hij] at e
      obtain ⟨v, k1, k2⟩ := r.sl j z e
      exact ⟨v, k1, k2.other nb fun hz q => r.ds i j x z v hij hi e hx hz (by rw [hs, q]) k1⟩
  · have back : ∀ m (w : Vl), (c.set i (some y))[m]? = some (some w) → hot w = true → ∃ w', c[m]? = some (some w') ∧ hot w' = true := fun m w e hw => by
      rw [List.getElem?_set] at e
      by_cases him : i = m
      · subst him
        exact ⟨x, hi, hx⟩
      · rw [if_neg him] at e
        exact ⟨w, e, hw⟩
    obtain ⟨z', f1, f2⟩ := back j z g1 hz
    obtain ⟨w', f3, f4⟩ := back l w g2 hw
    exact r.ds j l z' w' u hjl f1 f3 f2 f4 e1 e2
/-- a list that was ours to change is data from now on -/
theorem Rep.freeze (r : Rep g N c σ H) {i : Nat} {ds : List PyData} (hi : c[i]? = some (some (.ac ds))) : ∃ a, ¬ Fr H a ∧ N a ∧ Rep g (fun b => N b ∧ b ≠ a) (c.set i (some (.da (.list ds)))) σ H := by
  obtain ⟨v, hs, h2⟩ := r.sl i _ hi
  obtain ⟨a, xs, rfl, na, fa, ha, hd⟩ := id h2
  have less : ∀ b, (N b ∧ b ≠ a) → N b := fun b z => z.1
  refine ⟨a, nFr ha, na, r.kp, r.sti, r.tab, fun b z => ⟨r.pn b z, fun q => r.pt b z (by rw [q]; exact fa)⟩, r.pt, r.mp, fun b z => r.trk b z.1, by rw [List.length_set, r.len], fun j z e => ?_, fun j l z w u hjl g1 g2 hz hw e1 e2 => ?_⟩
  · rw [List.getElem?_set] at e
    by_cases hij : i = j
    · rw [if_pos hij] at e
      subst hij
      split at e
      · cases e
        exact ⟨_, hs, .lst (fun z => z.2 rfl) ha (hd.less less)⟩
      · cases e
    · rw [if_neg hij] at e
      obtain ⟨v, k1, k2⟩ := r.sl j z e
      refine ⟨v, k1, ?_⟩
      by_cases hz : hot z = true
      · have nv : v ≠ .ref a := fun q => r.ds i j _ z v hij hi e rfl hz (by rw [hs, q]) k1
        cases z with
        | ac es =>
          obtain ⟨b, ys, e1, n1, f1, h1, d1⟩ := k2
          exact ⟨b, ys, e1, ⟨n1, fun q => nv (by rw [e1, q])⟩, f1, h1, d1.less less⟩
        | dk es =>
          obtain ⟨b, ys, e1, n1, f1, h1, q1, d1⟩ := k2
          exact ⟨b, ys, e1, ⟨n1, fun q => nv (by rw [e1, q])⟩, f1, h1, q1, d1.less less⟩
        | dt es =>
          obtain ⟨b, ys, e1, n1, f1, h1, q1, d1⟩ := k2
          exact ⟨b, ys, e1, ⟨n1, fun q => nv (by rw [e1, q])⟩, f1, h1, q1, d1.less less⟩
        | oi C es =>
          obtain ⟨b, dx, ys, e1, n1, f1, h1, q1, d1⟩ := k2
          exact ⟨b, dx, ys, e1, ⟨n1, fun q => nv (by rw [e1, q])⟩, f1, h1, q1, d1.less less⟩
        | da _ => cases hz
        | ob _ _ => cases hz
        | ex _ => cases hz
      · exact k2.cold (fun _ _ _ _ e => e) (fun b z => .inl z.1) (by simpa using hz)
  · have back : ∀ m (w : Vl), (c.set i (some (.da (.list ds))))[m]? = some (some w) → hot w = true → c[m]? = some (some w) := fun m w e hw => by
      rw [List.getElem?_set] at e
      by_cases him : i = m
      · rw [if_pos him] at e
        split at e
        · cases e
          cases hw
        · cases e
      · rw [if_neg him] at e
        exact e
    exact r.ds j l z w u hjl (back j z g1 hz) (back l w g2 hw) hz hw e1 e2
/-- a name is forgotten -/
theorem Rep.lose (r : Rep g N c σ H) {c' : Ctx} {σ' : L2.St} (hl : σ'.length = c'.length) (h : ∀ (i : Nat) (x : Vl), c'[i]? = some (some x) → c[i]? = some (some x) ∧ σ'[i]? = σ[i]?) : Rep g N c' σ' H :=
  ⟨r.kp, r.sti, r.tab, r.pn, r.pt, r.mp, r.trk, hl, fun i x e => by
    obtain ⟨h1, h2⟩ := h i x e
    rw [h2]
    exact r.sl i x h1, fun i j x y v hij h1 h2 hx hy e1 e2 => r.ds i j x y v hij (h i x h1).1 (h j y h2).1 hx hy (by rw [← (h i x h1).2]; exact e1) (by rw [← (h j y h2).2]; exact e2)⟩
end
end Bd

/-! The data layer: expressions. -/
namespace Bd
open PySem PySem.Spec PyProof.Rows L2

def Ev (g : G) (te : TE) (c : Ctx) (k : Vl → Prop) : Prop := ∀ N σ H, Rep g N c σ H → ∀ Q : VK, (∀ x v H', k x → Rep g N c σ H' → Has g.H0 N H' v x → Keep (stM g.st) H H' → Q v H') → te σ H Q
/-- a new list -/
def EvF (g : G) (te : TE) (c : Ctx) (k : List PyData → Prop) : Prop := ∀ N σ H, Rep g N c σ H → ∀ Q : VK, (∀ ds a xs H', k ds → Rep g N c σ H' → Fr H a → H' a = some (.lst xs) → DaA (fun b => N b ∨ b = a) H' xs ds → Keep (stM g.st) H H' → Q (.ref a) H') → te σ H Q
def EvA (g : G) (ta : TA) (c : Ctx) (k : List Vl → Prop) : Prop := ∀ N σ H, Rep g N c σ H → ∀ Q : List V → Hp → Prop, (∀ xs vs H', k xs → Rep g N c σ H' → HasA g.H0 N H' vs xs → Keep (stM g.st) H H' → Q vs H') → ta σ H Q
def EvT (g : G) (tt : TT) (c : Ctx) (k : Bool → Prop) : Prop := ∀ N σ H, Rep g N c σ H → ∀ Q : Bool → Hp → Prop, (∀ b H', k b → Rep g N c σ H' → Keep (stM g.st) H H' → Q b H') → tt σ H Q
def EvO (g : G) (tt : TO) (c : Ctx) (k : Option Int → Prop) : Prop := ∀ N σ H, Rep g N c σ H → ∀ Q : Option Int → Hp → Prop, (∀ b H', k b → Rep g N c σ H' → Keep (stM g.st) H H' → Q b H') → tt σ H Q
/-- an operation on two values, on a list of values, on a value and a list of values -/
def Op (r : R2) (x y : Vl) (k : Vl → Prop) : Prop := ∀ H0 N H u v, Has H0 N H u x → Has H0 N H v y → ∀ Q : VK, (∀ z w, k z → Has H0 N H w z → Q w H) → r u v H Q
def OpF (r : R2) (x y : Vl) (k : List PyData → Prop) : Prop := ∀ H0 N H u v, Has H0 N H u x → Has H0 N H v y → ∀ Q : VK, (∀ ds xs p, k ds → H p = none → DaA N H xs ds → Q (.ref p) (upd H p (.lst xs))) → r u v H Q
def Cb (r : List V → Hp → VK → Prop) (xs : List Vl) (k : Vl → Prop) : Prop := ∀ H0 N H us, HasA H0 N H us xs → ∀ Q : VK, (∀ z w, k z → Has H0 N H w z → Q w H) → r us H Q
def CbF (r : List V → Hp → VK → Prop) (xs : List Vl) (k : List PyData → Prop) : Prop := ∀ H0 N H us, HasA H0 N H us xs → ∀ Q : VK, (∀ ds ys p, k ds → H p = none → DaA N H ys ds → Q (.ref p) (upd H p (.lst ys))) → r us H Q
def Mt (T : String) (K : PySem.W.Frag) (r : V → List V → Hp → VK → Prop) (x : Vl) (xs : List Vl) (k : Vl → Prop) : Prop := ∀ H0 N H u us, Has H0 N H u x → HasA H0 N H us xs → ∀ Q : VK, (∀ z w, k z → Has H0 N H w z → Q w H) → r u us H Q

def lstOf : Vl → Option (List PyData)
  | .da (.list ds) => some ds
  | .ac ds => some ds
  | _ => none
theorem Has.lst {H0 : Hp} {N : Addr → Prop} {H : Hp} {v : V} {x : Vl} {ds : List PyData} (h : Has H0 N H v x) (e : lstOf x = some ds) : ∃ a xs, v = .ref a ∧ H a = some (.lst xs) ∧ DaA N H xs ds := by
  cases x with
  | da d =>
    cases d with
    | list es =>
      cases e
      cases h with
      | lst _ h2 h3 => exact ⟨_, _, rfl, h2, h3⟩
    | _ => cases e
  | ac es =>
    cases e
    obtain ⟨a, xs, e, _, _, h2, h3⟩ := h
    exact ⟨a, xs, e, h2, h3⟩
  | _ => cases e
theorem Da.lst' {N : Addr → Prop} {H : Hp} {v : V} {ds : List PyData} (h : Da N H v (.list ds)) : ∃ a xs, v = .ref a ∧ ¬ N a ∧ H a = some (.lst xs) ∧ DaA N H xs ds := by
  cases h with
  | lst h1 h2 h3 => exact ⟨_, _, rfl, h1, h2, h3⟩
theorem Da.tup' {N : Addr → Prop} {H : Hp} {v : V} {ds : List PyData} (h : Da N H v (.tuple ds)) : ∃ a xs, v = .ref a ∧ ¬ N a ∧ H a = some (.tup xs) ∧ DaA N H xs ds := by
  cases h with
  | tup h1 h2 h3 => exact ⟨_, _, rfl, h1, h2, h3⟩
theorem Da.int' {N : Addr → Prop} {H : Hp} {v : V} {i : Int} (h : Da N H v (.int i)) : v = .int i := by
  cases h
  rfl
theorem Da.str' {N : Addr → Prop} {H : Hp} {v : V} {i : Str} (h : Da N H v (.str i)) : v = .str i := by
  cases h
  rfl
theorem Da.bl' {N : Addr → Prop} {H : Hp} {v : V} {i : Bool} (h : Da N H v (.bool i)) : v = .bl i := by
  cases h
  rfl
theorem HasA.one {H0 : Hp} {N : Addr → Prop} {H : Hp} {vs : List V} {x : Vl} (h : HasA H0 N H vs [x]) : ∃ v, vs = [v] ∧ Has H0 N H v x := by
  cases h with
  | cons h t =>
    cases t
    exact ⟨_, rfl, h⟩
theorem HasA.two {H0 : Hp} {N : Addr → Prop} {H : Hp} {vs : List V} {x y : Vl} (h : HasA H0 N H vs [x, y]) : ∃ v w, vs = [v, w] ∧ Has H0 N H v x ∧ Has H0 N H w y := by
  cases h with
  | cons h t =>
    cases t with
    | cons h2 t =>
      cases t
      exact ⟨_, _, rfl, h, h2⟩
theorem HasA.das {H0 : Hp} {N : Addr → Prop} {H : Hp} : ∀ {vs : List V} {ds : List PyData}, HasA H0 N H vs (ds.map .da) → DaA N H vs ds
  | _, [], .nil => .nil
  | _, d :: ds, .cons h t => .cons h (HasA.das t)
theorem sz_ok {n : Nat} (h : n ≤ 100000) : n ≤ sizeLine := Nat.le_trans h (by decide)

section
variable {g : G} {c : Ctx} {k : Vl → Prop} {kf : List PyData → Prop} {ta tb te : TE} {tt tu : TT} {tl : TA}
theorem Ev.imp {k' : Vl → Prop} (h : Ev g te c k) (i : ∀ x, k x → k' x) : Ev g te c k' := fun N σ H r Q q => h N σ H r Q fun x v H' kx => q x v H' (i x kx)
theorem EvT.imp {k k' : Bool → Prop} (h : EvT g tt c k) (i : ∀ x, k x → k' x) : EvT g tt c k' := fun N σ H r Q q => h N σ H r Q fun x H' kx => q x H' (i x kx)
theorem EvF.imp {k k' : List PyData → Prop} (h : EvF g te c k) (i : ∀ x, k x → k' x) : EvF g te c k' := fun N σ H r Q q => h N σ H r Q fun x a xs H' kx => q x a xs H' (i x kx)
theorem ev_var {i : Nat} {x : Vl} (h : c[i]? = some (some x)) (q : k x) : Ev g (tVar i) c k := fun N σ H r Q z => by
  obtain ⟨v, h1, h2⟩ := r.sl i x h
  exact ⟨v, h1, z x v H q r h2 (Keep.refl H)⟩
theorem ev_int {i : Int} (q : k (.da (.int i))) : Ev g (tC (.int i)) c k := fun N σ H r Q z => z _ _ H q r (Da.int i) (Keep.refl H)
theorem ev_str {i : Str} (q : k (.da (.str i))) : Ev g (tC (.str i)) c k := fun N σ H r Q z => z _ _ H q r (Da.str i) (Keep.refl H)
theorem ev_bl {i : Bool} (q : k (.da (.bool i))) : Ev g (tC (.bl i)) c k := fun N σ H r Q z => z _ _ H q r (Da.bl i) (Keep.refl H)
theorem ev_non (q : k (.da .none)) : Ev g (tC .non) c k := fun N σ H r Q z => z _ _ H q r Da.non (Keep.refl H)
theorem ev_ty {n : String} (q : k (.ex (.ty n))) : Ev g (tC (.ty n)) c k := fun N σ H r Q z => z _ _ H q r rfl (Keep.refl H)
theorem ev_op {r : R2} (h : Ev g ta c fun x => Ev g tb c fun y => Op r x y k) : Ev g (tOp r ta tb) c k := fun N σ H rp Q z =>
  h N σ H rp _ fun x u H1 kx r1 hx k1 => kx N σ H1 r1 _ fun y v H2 ky r2 hy k2 => ky g.H0 N H2 u v (hx.keep k2 r2.m0) hy Q fun w wv kw hw => z w wv H2 kw r2 hw (k1.trans k2)
theorem ef_op {r : R2} (h : Ev g ta c fun x => Ev g tb c fun y => OpF r x y kf) : EvF g (tOp r ta tb) c kf := fun N σ H rp Q z =>
  h N σ H rp _ fun x u H1 kx r1 hx k1 => kx N σ H1 r1 _ fun y v H2 ky r2 hy k2 => ky g.H0 N H2 u v (hx.keep k2 r2.m0) hy Q fun ds xs p kd hp hd =>
    z ds p xs _ kd (r2.new hp) ((k1.trans k2).back (.none hp)) upd_same (hd.mono (fun a o n _ e => (upd_ne (ne_of_none e hp)).trans e) fun a w => w.imp_right fun q => by rw [q]; exact .none hp) ((k1.trans k2).trans (Keep.new hp))
theorem ev_ofF (h : EvF g te c fun ds => k (.da (.list ds))) : Ev g te c k := fun N σ H r Q z => h N σ H r Q fun ds a xs H' kd r' ha ha' hd kk =>
  z _ _ H' kd r' (Da.lst (fun q => r.trk a q ha) ha' (hd.less fun b q => .inl q)) kk
/-! ### arguments -/
theorem ea_nil {k : List Vl → Prop} (q : k []) : EvA g tNil c k := fun N σ H r Q z => z [] [] H q r .nil (Keep.refl H)
theorem ea_cons {k : List Vl → Prop} (h : Ev g ta c fun x => EvA g tl c fun xs => k (x :: xs)) : EvA g (tCons ta tl) c k := fun N σ H r Q z =>
  h N σ H r _ fun x u H1 kx r1 hx k1 => kx N σ H1 r1 _ fun xs us H2 ks r2 hs k2 => z (x :: xs) (u :: us) H2 ks r2 (.cons (hx.keep k2 r2.m0) hs) (k1.trans k2)
theorem HasA.of_das {H0 : Hp} {N : Addr → Prop} {H : Hp} : ∀ {vs : List V} {ds : List PyData}, DaA N H vs ds → HasA H0 N H vs (ds.map .da)
  | _, _, .nil => .nil
  | _, _, .cons h t => .cons h (HasA.of_das t)
theorem HasA.app {H0 : Hp} {N : Addr → Prop} {H : Hp} : ∀ {vs ws : List V} {ds es : List Vl}, HasA H0 N H vs ds → HasA H0 N H ws es → HasA H0 N H (vs ++ ws) (ds ++ es)
  | _, _, _, _, .nil, h => h
  | _, _, _, _, .cons h t, k => .cons h (HasA.app t k)
theorem ea_starL {K : PySem.W.Frag} {k : List Vl → Prop} (h : Ev g ta c fun x => ∃ ds, lstOf x = some ds ∧ EvA g tl c fun xs => k (ds.map .da ++ xs)) : EvA g (StX.tStar K ta tl) c k := fun N σ H r Q z =>
  h N σ H r _ fun x u H1 ⟨ds, e, kx⟩ r1 hx k1 => by
    obtain ⟨a, ys, rfl, ha, hd⟩ := hx.lst e
    exact ⟨a, ys, rfl, .inr (SqL.of ha), kx N σ H1 r1 _ fun xs us H2 ks r2 hs k2 => z _ _ H2 ks r2 (.app (.of_das (hd.keep k2 r2.mn)) hs) (k1.trans k2)⟩
theorem ea_starT {K : PySem.W.Frag} {k : List Vl → Prop} (h : Ev g ta c fun x => ∃ ds, x = .da (.tuple ds) ∧ EvA g tl c fun xs => k (ds.map .da ++ xs)) : EvA g (StX.tStar K ta tl) c k := fun N σ H r Q z =>
  h N σ H r _ fun x u H1 ⟨ds, e, kx⟩ r1 hx k1 => by
    subst e
    obtain ⟨a, ys, rfl, _, ha, hd⟩ := Da.tup' hx
    exact ⟨a, ys, rfl, .inl (SqT.of ha), kx N σ H1 r1 _ fun xs us H2 ks r2 hs k2 => z _ _ H2 ks r2 (.app (.of_das (hd.keep k2 r2.mn)) hs) (k1.trans k2)⟩
theorem ev_tup (h : EvA g tl c fun xs => ∃ ds : List PyData, xs = ds.map .da ∧ ds.length ≤ 100000 ∧ k (.da (.tuple ds))) : Ev g (tTup tl) c k := fun N σ H r Q z =>
  h N σ H r _ fun xs us H1 ⟨ds, e, hl, kd⟩ r1 hs k1 => by
    subst e
    have hd := hs.das
    refine ⟨sz_ok (by rw [hd.length]; exact hl), fun p hp => z _ _ _ kd (r1.new hp) (Da.tup (r1.notN (.none hp)) upd_same (hd.keep (Keep.new hp) r1.mn)) (k1.trans (Keep.new hp))⟩
theorem ef_lst (h : EvA g tl c fun xs => ∃ ds : List PyData, xs = ds.map .da ∧ ds.length ≤ 100000 ∧ kf ds) : EvF g (tLst tl) c kf := fun N σ H r Q z =>
  h N σ H r _ fun xs us H1 ⟨ds, e, hl, kd⟩ r1 hs k1 => by
    subst e
    have hd := hs.das
    exact ⟨sz_ok (by rw [hd.length]; exact hl), fun p hp => z _ _ _ _ kd (r1.new hp) (k1.back (.none hp)) upd_same (hd.mono (fun a o n _ e => (upd_ne (ne_of_none e hp)).trans e) fun a w => w.imp_right fun q => by rw [q]; exact .none hp) (k1.trans (Keep.new hp))⟩
/-! ### tests -/
theorem et_test {k : Bool → Prop} (h : Ev g te c fun x => ∃ b, x = .da (.bool b) ∧ k b) : EvT g (tTest te) c k := fun N σ H r Q z =>
  h N σ H r _ fun x u H1 ⟨b, e, kb⟩ r1 hx k1 => by
    subst e
    exact ⟨b, Da.bl' hx, z b H1 kb r1 k1⟩
theorem et_B {k : Bool → Prop} (h : Ev g te c fun x => ∃ b, x = .da (.bool b) ∧ k b) : EvT g (tB te) c k := fun N σ H r Q z =>
  h N σ H r _ fun x u H1 ⟨b, e, kb⟩ r1 hx k1 => by
    subst e
    exact ⟨b, Da.bl' hx, z b H1 kb r1 k1⟩
theorem et_yes {k : Bool → Prop} (h : k true) : EvT g tYes c k := fun N σ H r Q z => z true H h r (Keep.refl H)
theorem et_not {k : Bool → Prop} (h : EvT g tt c fun b => k (!b)) : EvT g (tNot tt) c k := fun N σ H r Q z => h N σ H r _ fun b H1 kb r1 k1 => z (!b) H1 kb r1 k1
theorem et_and {k : Bool → Prop} (h : EvT g tt c fun b => (b = true → EvT g tu c k) ∧ (b = false → k false)) : EvT g (tAnd tt tu) c k := fun N σ H r Q z =>
  h N σ H r _ fun b H1 kb r1 k1 => by
    cases b with
    | true => exact kb.1 rfl N σ H1 r1 Q fun b H2 kb r2 k2 => z b H2 kb r2 (k1.trans k2)
    | false => exact z false H1 (kb.2 rfl) r1 k1
theorem et_or {k : Bool → Prop} (h : EvT g tt c fun b => (b = true → k true) ∧ (b = false → EvT g tu c k)) : EvT g (tOr tt tu) c k := fun N σ H r Q z =>
  h N σ H r _ fun b H1 kb r1 k1 => by
    cases b with
    | false => exact kb.2 rfl N σ H1 r1 Q fun b H2 kb r2 k2 => z b H2 kb r2 (k1.trans k2)
    | true => exact z true H1 (kb.1 rfl) r1 k1
theorem ev_if (h : EvT g tt c fun b => (b = true → Ev g ta c k) ∧ (b = false → Ev g tb c k)) : Ev g (tIf tt ta tb) c k := fun N σ H r Q z =>
  h N σ H r _ fun b H1 kb r1 k1 => by
    cases b with
    | true => exact kb.1 rfl N σ H1 r1 Q fun x v H2 kx r2 hx k2 => z x v H2 kx r2 hx (k1.trans k2)
    | false => exact kb.2 rfl N σ H1 r1 Q fun x v H2 kx r2 hx k2 => z x v H2 kx r2 hx (k1.trans k2)
theorem ev_andV (h : Ev g ta c fun x => ∃ b, x = .da (.bool b) ∧ (b = true → Ev g tb c k) ∧ (b = false → k (.da (.bool false)))) : Ev g (tAndV ta tb) c k := fun N σ H r Q z =>
  h N σ H r _ fun x u H1 ⟨b, e, kb⟩ r1 hx k1 => by
    subst e
    refine ⟨b, Da.bl' hx, ?_⟩
    cases b with
    | true => exact kb.1 rfl N σ H1 r1 Q fun x v H2 kx r2 hx k2 => z x v H2 kx r2 hx (k1.trans k2)
    | false => exact z _ _ H1 (kb.2 rfl) r1 (Da.bl false) k1
theorem ev_orV (h : Ev g ta c fun x => ∃ b, x = .da (.bool b) ∧ (b = true → k (.da (.bool true))) ∧ (b = false → Ev g tb c k)) : Ev g (tOrV ta tb) c k := fun N σ H r Q z =>
  h N σ H r _ fun x u H1 ⟨b, e, kb⟩ r1 hx k1 => by
    subst e
    refine ⟨b, Da.bl' hx, ?_⟩
    cases b with
    | false => exact kb.2 rfl N σ H1 r1 Q fun x v H2 kx r2 hx k2 => z x v H2 kx r2 hx (k1.trans k2)
    | true => exact z _ _ H1 (kb.1 rfl) r1 (Da.bl true) k1
theorem ev_notV (h : Ev g ta c fun x => ∃ b, x = .da (.bool b) ∧ k (.da (.bool (!b)))) : Ev g (tNotV ta) c k := fun N σ H r Q z =>
  h N σ H r _ fun x u H1 ⟨b, e, kb⟩ r1 hx k1 => by
    subst e
    exact ⟨b, Da.bl' hx, z _ _ H1 kb r1 (Da.bl _) k1⟩
/-- a chain x < y < z -/
theorem ev_chain {r r' : R2} {tc : TE} (h : Ev g ta c fun x => Ev g tb c fun y => Op r x y fun z => ∃ b, z = .da (.bool b) ∧ (b = false → k (.da (.bool false))) ∧ (b = true → Ev g tc c fun w => Op r' y w k)) :
    Ev g (tChain r r' ta tb tc) c k := fun N σ H rp Q z =>
  h N σ H rp _ fun x u H1 kx r1 hx k1 => kx N σ H1 r1 _ fun y v H2 ky r2 hy k2 => by
    refine ky g.H0 N H2 u v (hx.keep k2 r2.m0) hy _ fun w wv hb hw => ?_
    obtain ⟨b, e, kf, kt⟩ := hb
    subst e
    refine ⟨b, Da.bl' hw, ?_⟩
    cases b with
    | false =>
      rw [if_neg Bool.false_ne_true]
      exact z _ _ H2 (kf rfl) r2 (Da.bl false) (k1.trans k2)
    | true =>
      rw [if_pos rfl]
      exact kt rfl N σ H2 r2 _ fun w wv H3 kw r3 hw3 k3 => kw g.H0 N H3 v wv (hy.keep k3 r3.m0) hw3 _ fun z' zv kz hz => z _ _ H3 kz r3 hz ((k1.trans k2).trans k3)
end

/-! ### operations -/
section
variable {k : Vl → Prop} {kf : List PyData → Prop} {K : PySem.W.Frag}
theorem op_i0 {G : Int → Int → Int} {i j : Int} (q : k (.da (.int (G i j)))) : Op (rI0 fun i j => .int (G i j)) (.da (.int i)) (.da (.int j)) k := fun H0 N H u v hu hv Q z => ⟨i, j, Da.int' hu, Da.int' hv, z _ _ q (Da.int _)⟩
theorem op_b0 {G : Int → Int → Bool} {i j : Int} (q : k (.da (.bool (G i j)))) : Op (rI0 fun i j => .bl (G i j)) (.da (.int i)) (.da (.int j)) k := fun H0 N H u v hu hv Q z => ⟨i, j, Da.int' hu, Da.int' hv, z _ _ q (Da.bl _)⟩
theorem op_i1 {C : Int → Int → Prop} {G : Int → Int → Int} {i j : Int} (hc : C i j) (q : k (.da (.int (G i j)))) : Op (rI C fun i j => .int (G i j)) (.da (.int i)) (.da (.int j)) k := fun H0 N H u v hu hv Q z => ⟨i, j, Da.int' hu, Da.int' hv, hc, z _ _ q (Da.int _)⟩
theorem Has.dp {H0 : Hp} {N : Addr → Prop} {H : Hp} {v : V} {x : Vl} {d : PyData} (h : Has H0 N H v x) (e : x = .da d ∨ ∃ ds, x = .ac ds ∧ d = .list ds) (c : clean d = true) : Dp K H v d := by
  rcases e with rfl | ⟨ds, rfl, rfl⟩
  · exact Da.dp h c
  · obtain ⟨a, xs, rfl, _, _, h2, h3⟩ := h
    exact .lst (SqL.of h2) (h3.dp (by simpa [clean] using c))
/-- the data of a value that can be asked for equality -/
def datOf : Vl → PyData
  | .da d => d
  | .ac ds => .list ds
  | _ => .dict []
def okD (d : PyData) : Bool := clean d && SeqAt.shaped d
theorem Has.dp' {H0 : Hp} {N : Addr → Prop} {H : Hp} {v : V} {x : Vl} (h : Has H0 N H v x) (c : okD (datOf x) = true) : Dp K H v (datOf x) := by
  have c1 : clean (datOf x) = true := (Bool.and_eq_true _ _ ▸ c).1
  cases x with
  | da d => exact h.dp (.inl rfl) c1
  | ac ds => exact h.dp (.inr ⟨ds, rfl, rfl⟩) c1
  | ob _ _ => cases c1
  | ex _ => cases c1
  | dk _ => cases c1
  | dt _ => cases c1
  | oi _ _ => cases c1
theorem okD_sh {d : PyData} (c : okD d = true) : SeqAt.shaped d = true := by
  unfold okD at c
  rw [Bool.and_eq_true] at c
  exact c.2
theorem op_eq {x y : Vl} (hx : okD (datOf x) = true) (hy : okD (datOf y) = true) (q : k (.da (.bool (PyData.eqv (datOf x) (datOf y))))) : Op (rEqD K) x y k := fun H0 N H u v hu hv Q z =>
  ⟨datOf x, datOf y, hu.dp' hx, hv.dp' hy, okD_sh hx, okD_sh hy, z _ _ q (Da.bl _)⟩
theorem op_ne {x y : Vl} (hx : okD (datOf x) = true) (hy : okD (datOf y) = true) (q : k (.da (.bool (!PyData.eqv (datOf x) (datOf y))))) : Op (rNeD K) x y k := fun H0 N H u v hu hv Q z =>
  ⟨datOf x, datOf y, hu.dp' hx, hv.dp' hy, okD_sh hx, okD_sh hy, z _ _ q (Da.bl _)⟩
theorem op_neF {a b : List Str} (h1 : okD (.tuple (a.map .str)) = true) (h2 : okD (.tuple (b.map .str)) = true) (q : k (.da (.bool (!PyData.eqv (.tuple (a.map .str)) (.tuple (b.map .str)))))) : Op (rNeD K) (.da (ftD a)) (.da (ftD b)) k := fun H0 N H u v hu hv Q z => by
  obtain ⟨p, o, rfl, _, hp, _⟩ := Da.ft' hu rfl
  obtain ⟨p', o', rfl, _, hp', _⟩ := Da.ft' hv rfl
  have all : ∀ ns : List Str, DpAll K H (ns.map V.str) (ns.map PyData.str) := fun ns => by
    induction ns with
    | nil => exact .nil
    | cons n ns ih => exact .cons (.str n) ih
  exact ⟨_, _, .tup (.inl (.inr ⟨o, hp⟩)) (all a), .tup (.inl (.inr ⟨o', hp'⟩)) (all b), okD_sh h1, okD_sh h2, z _ _ q (Da.bl _)⟩
/-- x in a list, whatever the items -/
theorem op_inD {x y : Vl} {ds : List PyData} (e : datOf y = .list ds) (hx : okD (datOf x) = true) (hy : okD (.list ds) = true) (q : k (.da (.bool (ds.any fun z => PyData.eqv z (datOf x))))) : Op (rInD K) x y k := fun H0 N H u v hu hv Q z =>
  ⟨datOf x, ds, hu.dp' hx, e ▸ hv.dp' (by rw [e]; exact hy), okD_sh hx, okD_sh hy, z _ _ q (Da.bl _)⟩
theorem op_niD {x y : Vl} {ds : List PyData} (e : datOf y = .list ds) (hx : okD (datOf x) = true) (hy : okD (.list ds) = true) (q : k (.da (.bool (!ds.any fun z => PyData.eqv z (datOf x))))) : Op (rNotInD K) x y k := fun H0 N H u v hu hv Q z =>
  ⟨datOf x, ds, hu.dp' hx, e ▸ hv.dp' (by rw [e]; exact hy), okD_sh hx, okD_sh hy, z _ _ q (Da.bl _)⟩
theorem inV_strs (s : Str) : ∀ ns : List Str, inV (.str s) (ns.map V.str) = decide (s ∈ ns)
  | [] => by simp [inV]
  | n :: ns => by
    have ih := inV_strs s ns
    unfold inV at ih ⊢
    rw [List.map_cons, List.any_cons, ih]
    by_cases h : n = s
    · subst h
      simp [eqV]
    · have h2 : ¬ s = n := fun z => h z.symm
      simp [eqV, h, h2]
theorem flat_strs (ns : List Str) : (ns.map V.str).all flatV = true := by simp [flatV]
/-- a text in a list or a tuple of texts -/
theorem op_inF {neg : Bool} {s : Str} {ns : List Str} (q : k (.da (.bool (if neg then !decide (s ∈ ns) else decide (s ∈ ns))))) : Op (rIn K neg) (.da (.str s)) (.da (ftD ns)) k := fun H0 N H u v hu hv Q z => by
  rw [Da.str' hu]
  obtain ⟨a, o, rfl, _, ha, _⟩ := Da.ft' hv rfl
  exact ⟨a, _, rfl, .inr (.inl (.inr ⟨o, ha⟩)), rfl, flat_strs ns, by rw [inV_strs]; exact z _ _ q (Da.bl _)⟩
theorem op_inN {neg : Bool} {s : Str} {ns : List Str} {y : Vl} (e : y = .da (.tuple (ns.map .str)) ∨ lstOf y = some (ns.map .str)) (q : k (.da (.bool (if neg then !decide (s ∈ ns) else decide (s ∈ ns))))) : Op (rIn K neg) (.da (.str s)) y k := fun H0 N H u v hu hv Q z => by
  rw [Da.str' hu]
  rcases e with rfl | e
  · obtain ⟨a, xs, rfl, _, ha, hd⟩ := Da.tup' hv
    have ex := hd.strs
    subst ex
    exact ⟨a, _, rfl, .inr (SqT.of ha), rfl, flat_strs ns, by rw [inV_strs]; exact z _ _ q (Da.bl _)⟩
  · obtain ⟨a, xs, rfl, ha, hd⟩ := hv.lst e
    have ex := hd.strs
    subst ex
    exact ⟨a, _, rfl, .inl (SqL.of ha), rfl, flat_strs ns, by rw [inV_strs]; exact z _ _ q (Da.bl _)⟩
/-- a sign in a text -/
theorem op_inC {s : Nat} {w : Str} (q : k (.da (.bool (decide (s ∈ w.cps.toList))))) : Op rInS (.da (.str ⟨#[s]⟩)) (.da (.str w)) k := fun H0 N H u v hu hv Q z => ⟨s, w, Da.str' hu, Da.str' hv, z _ _ q (Da.bl _)⟩
theorem op_niC {s : Nat} {w : Str} (q : k (.da (.bool (!decide (s ∈ w.cps.toList))))) : Op rNotInS (.da (.str ⟨#[s]⟩)) (.da (.str w)) k := fun H0 N H u v hu hv Q z => ⟨s, w, Da.str' hu, Da.str' hv, z _ _ q (Da.bl _)⟩
def noneD : PyData → Bool
  | .none => true
  | _ => false
theorem Da.isNon {N : Addr → Prop} {H : Hp} {v : V} {d : PyData} (h : Da N H v d) (c : clean d = true) : decide (v = V.non) = noneD d := by
  cases h <;> first
    | rfl
    | (cases c)
theorem op_isN {x : Vl} (c : clean (datOf x) = true) (q : k (.da (.bool (noneD (datOf x))))) : Op (fun x y H Q => y = .non ∧ Q (.bl (decide (x = .non))) H) x (.da .none) k := fun H0 N H u v hu hv Q z => by
  cases hv
  refine ⟨rfl, z _ _ q ?_⟩
  cases x with
  | da d =>
    rw [show decide (u = V.non) = noneD d from Da.isNon hu c]
    exact Da.bl _
  | ac ds =>
    obtain ⟨a, xs, rfl, _⟩ := hu
    exact Da.bl _
  | ob _ _ => cases c
  | ex _ => cases c
  | dk _ => cases c
  | dt _ => cases c
  | oi _ _ => cases c
theorem op_notN {x : Vl} (c : clean (datOf x) = true) (q : k (.da (.bool (!noneD (datOf x))))) : Op (fun x y H Q => y = .non ∧ Q (.bl (!decide (x = .non))) H) x (.da .none) k := fun H0 N H u v hu hv Q z => by
  cases hv
  refine ⟨rfl, z _ _ q ?_⟩
  cases x with
  | da d =>
    rw [show decide (u = V.non) = noneD d from Da.isNon hu c]
    exact Da.bl _
  | ac ds =>
    obtain ⟨a, xs, rfl, _⟩ := hu
    exact Da.bl _
  | ob _ _ => cases c
  | ex _ => cases c
  | dk _ => cases c
  | dt _ => cases c
  | oi _ _ => cases c
theorem atI_da {N : Addr → Prop} {H : Hp} {xs : List V} {ds : List PyData} {i : Int} {d : PyData} (h : DaA N H xs ds) (e : atI ds i = some d) : ∃ v, atI xs i = some v ∧ Da N H v d := by
  unfold atI at e ⊢
  rw [h.length]
  cases q : ixN ds.length i with
  | none =>
    rw [q] at e
    cases e
  | some j =>
    rw [q] at e
    exact h.get e
theorem op_ixL {x : Vl} {ds : List PyData} {i : Int} {d : PyData} (e : lstOf x = some ds) (a : atI ds i = some d) (q : k (.da d)) : Op (rIxL K) x (.da (.int i)) k := fun H0 N H u v hu hv Q z => by
  obtain ⟨p, xs, rfl, hp, hd⟩ := hu.lst e
  obtain ⟨w, h1, h2⟩ := atI_da hd a
  exact ⟨p, xs, i, w, rfl, Da.int' hv, SqL.of hp, h1, z _ _ q h2⟩
theorem op_ixT {ds : List PyData} {i : Int} {d : PyData} (a : atI ds i = some d) (q : k (.da d)) : Op (rIxT K) (.da (.tuple ds)) (.da (.int i)) k := fun H0 N H u v hu hv Q z => by
  obtain ⟨p, xs, rfl, _, hp, hd⟩ := Da.tup' hu
  obtain ⟨w, h1, h2⟩ := atI_da hd a
  exact ⟨p, xs, i, w, rfl, Da.int' hv, SqT.of hp, h1, z _ _ q h2⟩
theorem op_ixS {s : Str} {i : Int} {d : Nat} (l : s.length ≤ 100000) (a : atI s.cps.toList i = some d) (q : k (.da (.str ⟨#[d]⟩))) : Op rIxS (.da (.str s)) (.da (.int i)) k := fun H0 N H u v hu hv Q z => by
  exact ⟨s, i, d, Da.str' hu, Da.int' hv, sz_ok l, a, z _ _ q (Da.str _)⟩
theorem op_addS {s w : Str} (l : s.length + w.length ≤ 100000) (q : k (.da (.str (s ++ w)))) : Op (fun x y H Q => ∃ i j, x = .str i ∧ y = .str j ∧ i.length + j.length ≤ sizeLine ∧ Q (.str (i ++ j)) H) (.da (.str s)) (.da (.str w)) k := fun H0 N H u v hu hv Q z =>
  ⟨s, w, Da.str' hu, Da.str' hv, sz_ok l, z _ _ q (Da.str _)⟩
theorem op_cat {x y : Vl} {ds es : List PyData} (ex : lstOf x = some ds) (ey : lstOf y = some es) (l : ds.length + es.length ≤ 100000) (q : kf (ds ++ es)) : OpF rCat x y kf := fun H0 N H u v hu hv Q z => by
  obtain ⟨p, xs, rfl, hp, hd⟩ := hu.lst ex
  obtain ⟨p', ys, rfl, hp', hd'⟩ := hv.lst ey
  exact ⟨p, p', xs, ys, rfl, rfl, hp, hp', sz_ok (by rw [hd.length, hd'.length]; exact l), fun o ho => z _ _ o q ho (hd.app hd')⟩
end
end Bd

/-! The data layer: statements, loops, comprehensions, defs. -/
namespace Bd
open PySem PySem.Spec PyProof.Rows L2

theorem Fr.elim' {H : Hp} {a : Addr} {o : HO} {p : Prop} (f : Fr H a) (h : H a = some o) (t : ∀ ps, o ≠ .tbl ps) : p := (nFr h t f).elim
theorem Keep.lst {M : Addr → Prop} {H H' : Hp} {a : Addr} {xs : List V} (k : Keep M H H') (n : ¬ M a) (h : H a = some (.lst xs)) : H' a = some (.lst xs) := k.ob a (.lst xs) n (fun _ q => nomatch q) h
theorem Keep.tup {M : Addr → Prop} {H H' : Hp} {a : Addr} {xs : List V} (k : Keep M H H') (n : ¬ M a) (h : H a = some (.tup xs)) : H' a = some (.tup xs) := k.ob a (.tup xs) n (fun _ q => nomatch q) h
structure Nx (N : Addr → Prop) (H : Hp) (N' : Addr → Prop) (H' : Hp) : Prop where
  own : ∀ a, N' a → N a ∨ Fr H a
  kp : Keep N H H'
theorem Nx.refl (N : Addr → Prop) (H : Hp) : Nx N H N H := ⟨fun _ h => .inl h, Keep.refl H⟩
theorem Nx.trans {N N1 N2 : Addr → Prop} {H H1 H2 : Hp} (a : Nx N H N1 H1) (b : Nx N1 H1 N2 H2) : Nx N H N2 H2 :=
  ⟨fun x h => (b.own x h).elim (fun q => a.own x q) fun q => .inr (a.kp.back q), ⟨fun x o hn ht e => b.kp.ob x o (fun z => (a.own x z).elim hn fun q => q.elim' e ht) ht (a.kp.ob x o hn ht e), fun x h => b.kp.dm x (a.kp.dm x h)⟩⟩
theorem Nx.keep {N : Addr → Prop} {M : Addr → Prop} {H H' : Hp} (k : Keep M H H') (h : ∀ a, M a → N a) : Nx N H N H' := ⟨fun _ h => .inl h, k.wide h⟩
structure Ed where
  nx : Ctx → Prop
  rt : Vl → Prop
  rf : List PyData → Prop := fun _ => False
  bk : Ctx → Prop := fun _ => False
  ct : Ctx → Prop := fun _ => False
structure Cmp (g : G) (N : Addr → Prop) (H : Hp) (E : Ed) (D : Ends) : Prop where
  nx : ∀ c' σ' N' H', E.nx c' → Rep g N' c' σ' H' → Nx N H N' H' → D.nx σ' H'
  bk : ∀ c' σ' N' H', E.bk c' → Rep g N' c' σ' H' → Nx N H N' H' → D.bk σ' H'
  ct : ∀ c' σ' N' H', E.ct c' → Rep g N' c' σ' H' → Nx N H N' H' → D.ct σ' H'
  rt : ∀ x v H', E.rt x → hot x = false → Keep (stM g.st) g.H0 H' → StI g.st H' → LamX.Tabs g.T H' → Has g.H0 g.P H' v x → D.rt v H'
  rf : ∀ ds a xs H', E.rf ds → Keep (stM g.st) g.H0 H' → StI g.st H' → LamX.Tabs g.T H' → Fr g.H0 a → H' a = some (.lst xs) → DaA (fun b => g.P b ∨ b = a) H' xs ds → D.rt (.ref a) H'
theorem Cmp.later {g : G} {N N1 : Addr → Prop} {H H1 : Hp} {E : Ed} {D : Ends} (k : Cmp g N H E D) (n : Nx N H N1 H1) : Cmp g N1 H1 E D :=
  ⟨fun c' σ' N' H' e r m => k.nx c' σ' N' H' e r (n.trans m), fun c' σ' N' H' e r m => k.bk c' σ' N' H' e r (n.trans m), fun c' σ' N' H' e r m => k.ct c' σ' N' H' e r (n.trans m), k.rt, k.rf⟩
def Se (g : G) (t : TS) (c : Ctx) (E : Ed) : Prop := ∀ N σ H, Rep g N c σ H → ∀ D, Cmp g N H E D → t D σ H

section
variable {g : G} {c : Ctx} {E : Ed} {k : Vl → Prop} {kf : List PyData → Prop} {ta tb te : TE} {tt tu : TT} {tl : TA} {t u : TS}
theorem se_next (h : E.nx c) : Se g tNext c E := fun N σ H r D z => z.nx c σ N H h r (Nx.refl N H)
theorem se_brk (h : E.bk c) : Se g tBreak c E := fun N σ H r D z => z.bk c σ N H h r (Nx.refl N H)
theorem se_cont (h : E.ct c) : Se g tCont c E := fun N σ H r D z => z.ct c σ N H h r (Nx.refl N H)
theorem se_seq (h : Se g t c { E with nx := fun c' => Se g u c' E }) : Se g (tSeq t u) c E := fun N σ H r D z =>
  h N σ H r _ ⟨fun c' σ' N' H' e r' m => e N' σ' H' r' D (z.later m), z.bk, z.ct, z.rt, z.rf⟩
theorem se_imp {E' : Ed} (h : Se g t c E') (h1 : ∀ c', E'.nx c' → E.nx c') (h2 : ∀ x, E'.rt x → E.rt x) (h3 : E'.rf = E.rf) (h4 : E'.bk = E.bk) (h5 : E'.ct = E.ct) : Se g t c E := fun N σ H r D z =>
  h N σ H r D ⟨fun c' σ' N' H' e r' m => z.nx c' σ' N' H' (h1 _ e) r' m, fun c' σ' N' H' e r' m => z.bk c' σ' N' H' (h4 ▸ e) r' m, fun c' σ' N' H' e r' m => z.ct c' σ' N' H' (h5 ▸ e) r' m,
    fun x v H' e => z.rt x v H' (h2 _ e), fun ds a xs H' e => z.rf ds a xs H' (h3 ▸ e)⟩
/-- x = e -/
theorem se_asg {i : Nat} (h : Ev g te c fun x => hot x = false ∧ E.nx (c.set i (some x))) : Se g (tAsg te (gName i)) c E := fun N σ H r D z =>
  h N σ H r _ fun x v H1 kx r1 hx k1 => z.nx _ _ N H1 kx.2 (r1.set hx kx.1) (Nx.keep k1 r.mn)
/-- x = a new list, ours to change -/
theorem se_asgF {i : Nat} (h : EvF g te c fun ds => E.nx (c.set i (some (.ac ds)))) : Se g (tAsg te (gName i)) c E := fun N σ H r D z =>
  h N σ H r _ fun ds a xs H1 kd r1 ha ha' hd k1 => by
    refine z.nx _ _ (fun b => N b ∨ b = a) H1 kd ?_ ⟨fun b q => q.imp_right fun q => by rw [q]; exact ha, k1.wide r.mn⟩
    exact r.setHot k1 r1.sti r1.tab ha (nFr ha') ⟨a, xs, rfl, .inr rfl, r.not0 ha, ha', hd⟩
theorem se_drop (h : Ev g te c fun _ => E.nx c) : Se g (tDrop te) c E := fun N σ H r D z =>
  h N σ H r _ fun x v H1 kx r1 hx k1 => z.nx _ _ N H1 kx r1 (Nx.keep k1 r.mn)
theorem Rep.out (r : Rep g N c σ H) : Keep (stM g.st) g.H0 H := r.kp
theorem se_ret (h : Ev g te c fun x => hot x = false ∧ E.rt x) : Se g (tRet te) c E := fun N σ H r D z =>
  h N σ H r _ fun x v H1 kx r1 hx k1 => z.rt x v H1 kx.2 kx.1 r1.kp r1.sti r1.tab (hx.cold (fun _ _ _ _ e => e) (fun a q => .inl (r1.pn a q)) kx.1)
theorem se_retN (h : E.rt (.da .none)) : Se g tRetN c E := fun N σ H r D z => z.rt _ _ H h rfl r.kp r.sti r.tab Da.non
/-- a new list leaves, nobody else has it -/
theorem se_retF (h : EvF g te c E.rf) : Se g (tRet te) c E := fun N σ H r D z =>
  h N σ H r _ fun ds a xs H1 kd r1 ha ha' hd k1 => z.rf ds a xs H1 kd r1.kp r1.sti r1.tab (r.not0 ha) ha' (hd.less fun b q => q.imp_left (r.pn b))
theorem se_retAc {i : Nat} {ds : List PyData} (e : c[i]? = some (some (.ac ds))) (h : E.rt (.da (.list ds))) : Se g (tRet (tVar i)) c E := fun N σ H r D z => by
  obtain ⟨v, h1, a, xs, e1, na, fa, ha, hd⟩ := r.sl i _ e
  subst e1
  exact ⟨_, h1, z.rt _ _ H h rfl r.kp r.sti r.tab (Da.lst (fun q => r.pt a q fa) ha (hd.less r.pn))⟩
theorem DaA.outN {N N' : Addr → Prop} {H : Hp} {vs : List V} {ds : List PyData} (h : DaA N H vs ds) (hn : ∀ a, N' a → N a) : DaA N' H vs ds := h.less hn
theorem se_retAcF {i : Nat} {ds : List PyData} (e : c[i]? = some (some (.ac ds))) (h : E.rf ds) : Se g (tRet (tVar i)) c E := fun N σ H r D z => by
  obtain ⟨v, h1, a, xs, e1, na, fa, ha, hd⟩ := r.sl i _ e
  subst e1
  exact ⟨_, h1, z.rf ds a xs H h r.kp r.sti r.tab fa ha (hd.less fun b q => q.elim (r.pn b) fun q => by rw [q]; exact na)⟩
theorem se_if (h : EvT g tt c fun b => (b = true → Se g t c E) ∧ (b = false → Se g u c E)) : Se g (tIfS tt t u) c E := fun N σ H r D z =>
  h N σ H r _ fun b H1 kb r1 k1 => by
    cases b with
    | true => exact kb.1 rfl N σ H1 r1 D (z.later (Nx.keep k1 r.mn))
    | false => exact kb.2 rfl N σ H1 r1 D (z.later (Nx.keep k1 r.mn))
/-- a list of ours is data from here on -/
theorem se_frz (i : Nat) {ds : List PyData} (e : c[i]? = some (some (.ac ds))) (h : Se g t (c.set i (some (.da (.list ds)))) E) : Se g t c E := fun N σ H r D z => by
  obtain ⟨a, ha, na, r2⟩ := r.freeze e
  exact h _ σ H r2 D (z.later ⟨fun b q => .inl q.1, Keep.refl H⟩)
/-- what is not looked at may be forgotten -/
theorem se_lose (c' : Ctx) (e : c'.length = c.length) (h : ∀ (i : Nat) (x : Vl), c'[i]? = some (some x) → c[i]? = some (some x)) (q : Se g t c' E) : Se g t c E := fun N σ H r D z =>
  q N σ H (r.lose (by rw [r.len, e]) fun i x w => ⟨h i x w, rfl⟩) D z
/-- xs.append(e) -/
theorem se_app {K : PySem.W.Frag} {i : Nat} {ds : List PyData} (e : c[i]? = some (some (.ac ds))) (h : Ev g te c fun x => ∃ d, x = .da d ∧ ds.length < 100000 ∧ E.nx (c.set i (some (.ac (ds ++ [d]))))) :
    Se g (tDrop (tBM K "list" rAppend (tVar i) (tCons te tNil))) c E := fun N σ H r D z => by
  obtain ⟨v, h1, a, xs, e1, na, fa, ha, hd⟩ := r.sl i _ e
  subst e1
  refine ⟨_, h1, .inl ⟨rfl, xs, SqL.of ha⟩, h N σ H r _ fun x u H1 kx r1 hx k1 => ?_⟩
  obtain ⟨d, rfl, hl, kd⟩ := kx
  have nm : ¬ stM g.st a := fun q => (r.m0 a q).2 fa
  have ha1 := k1.lst nm ha
  refine ⟨a, xs, u, rfl, rfl, ha1, Nat.lt_of_lt_of_le (by rw [hd.length]; exact hl) (by decide), ?_⟩
  have hx' : Da N H1 u d := hx
  refine z.nx _ _ N _ kd (r1.mutHot e h1 rfl (tabs_mut r1.tab ha1) ⟨a, _, rfl, na, fa, upd_same, ?_⟩) ((Nx.keep k1 r.mn).trans ⟨fun _ h => .inl h, Keep.mut na⟩)
  exact ((hd.keep k1 r.mn).app (.cons hx' .nil)).mono (fun b o n _ q => (upd_ne (fun z => n (by rw [z]; exact na))).trans q) fun b q => .inl q
/-! ### targets -/
def Tg (g : G) (t : TG) (d : PyData) (c c2 : Ctx) (vs : List Nat) : Prop := ∀ N σ H v, Rep g N c σ H → Da N H v d → ∀ Q : L2.St → Hp → Prop, (∀ σ', Rep g N c2 σ' H → (∀ ws : List Nat, (∀ i ∈ vs, i ∈ ws) → wipe σ' ws = wipe σ ws) → Q σ' H) → t v σ H Q
def TgS (g : G) (t : TGs) (ds : List PyData) (c c2 : Ctx) (vs : List Nat) : Prop := ∀ N σ H us, Rep g N c σ H → DaA N H us ds → ∀ Q : L2.St → Hp → Prop, (∀ σ', Rep g N c2 σ' H → (∀ ws : List Nat, (∀ i ∈ vs, i ∈ ws) → wipe σ' ws = wipe σ ws) → Q σ' H) → t us σ H Q
theorem wipe_get (σ : L2.St) (i : Nat) : ∀ ws : List Nat, (wipe σ ws)[i]? = if i ∈ ws then (if i < σ.length then some none else none) else σ[i]?
  | [] => by simp [wipe]
  | w :: ws => by
    unfold wipe
    rw [List.getElem?_set, wipe_length, wipe_get σ i ws]
    by_cases h : w = i
    · subst h
      simp
    · have h2 : ¬ i = w := fun z => h z.symm
      simp [h, h2]
theorem wipe_set {σ : L2.St} {i : Nat} {x : Option V} {ws : List Nat} (h : i ∈ ws) : wipe (σ.set i x) ws = wipe σ ws := by
  refine List.ext_getElem? fun j => ?_
  rw [wipe_get, wipe_get, List.length_set, List.getElem?_set]
  by_cases hj : j ∈ ws
  · rw [if_pos hj, if_pos hj]
  · rw [if_neg hj, if_neg hj, if_neg fun z => hj (by rw [← z]; exact h)]
theorem tg_name {i : Nat} {d : PyData} : Tg g (gName i) d c (c.set i (some (.da d))) [i] := fun N σ H v r h Q q => q _ (r.set h rfl) fun ws hw => wipe_set (hw i (by simp))
theorem tgs_nil : TgS g gNil [] c c [] := fun N σ H us r h Q q => by
  cases h
  exact ⟨rfl, q σ r fun _ _ => rfl⟩
theorem tgs_cons {t : TG} {u : TGs} {d : PyData} {ds : List PyData} {c1 c2 : Ctx} {vs ws : List Nat} (h : Tg g t d c c1 vs) (h2 : TgS g u ds c1 c2 ws) : TgS g (gCons t u) (d :: ds) c c2 (vs ++ ws) := fun N σ H us r hd Q q => by
  cases hd with
  | cons h3 h4 => exact ⟨_, _, rfl, h N σ H _ r h3 _ fun σ1 r1 w1 => h2 N σ1 H _ r1 h4 _ fun σ2 r2 w2 => q σ2 r2 fun zs hz => (w2 zs fun i hi => hz i (List.mem_append_right _ hi)).trans (w1 zs fun i hi => hz i (List.mem_append_left _ hi))⟩
theorem tg_tup {K : PySem.W.Frag} {n : Nat} {t : TGs} {ds : List PyData} {c2 : Ctx} {vs : List Nat} (e : ds.length = n) (h : TgS g t ds c c2 vs) : Tg g (gTup K n t) (.tuple ds) c c2 vs := fun N σ H v r hd Q q => by
  obtain ⟨a, xs, rfl, _, ha, hx⟩ := Da.tup' hd
  exact ⟨a, xs, rfl, SqT.of ha, by rw [hx.length]; exact e, h N σ H xs r hx Q q⟩
/-- a, b = e -/
theorem se_asgT {t : TG} (h : Ev g te c fun x => ∃ d c2 vs, x = .da d ∧ Tg g t d c c2 vs ∧ E.nx c2) : Se g (tAsg te t) c E := fun N σ H r D z =>
  h N σ H r _ fun x v H1 kx r1 hx k1 => by
    obtain ⟨d, c2, vs, rfl, ht, hn⟩ := kx
    exact ht N σ H1 v r1 hx _ fun σ' r2 _ => z.nx _ _ N H1 hn r2 (Nx.keep k1 r.mn)
/-! ### what loops walk -/
structure IsIt (J : It) (N : Addr → Prop) (H : Hp) (ds : List PyData) : Prop where
  go : ∀ N' H', Nx N H N' H' → (∀ a, N' a → ¬ Fr H' a) → ∀ i d, ds[i]? = some d → J.go i H' ∧ ∀ x H'', J.yld i H' x H'' → (∀ a o, H' a = some o → H'' a = some o) ∧ Da N' H'' x d
  stop : ∀ N' H', Nx N H N' H' → J.stop ds.length H'
def EvI (g : G) (wi : TI) (c : Ctx) (k : List PyData → Prop) : Prop := ∀ N σ H, Rep g N c σ H → ∀ R : It → Hp → Prop, (∀ J H1 ds, k ds → Rep g N c σ H1 → Keep (stM g.st) H H1 → IsIt J N H1 ds → R J H1) → wi σ H R
theorem Nx.da {N N' : Addr → Prop} {H H' : Hp} (n : Nx N H N' H') {v : V} {d : PyData} (h : Da N H v d) : Da N' H' v d := h.mono n.kp.ob n.own
theorem Nx.daA {N N' : Addr → Prop} {H H' : Hp} (n : Nx N H N' H') {v : List V} {d : List PyData} (h : DaA N H v d) : DaA N' H' v d := h.mono n.kp.ob n.own
theorem SqL.is {K : PySem.W.Frag} {H : Hp} {a : Addr} {xs ys : List V} (h : H a = some (.lst xs)) (q : SqL K H a ys) (hk : K.lookup a = none) : ys = xs := by
  rcases q with (q | ⟨o, q⟩) | q
  · rw [h] at q
    cases q
    rfl
  · rw [h] at q
    cases q
  · obtain ⟨o, n, its, q, _⟩ := q
    rw [hk] at q
    cases q
theorem ei_list {K : PySem.W.Frag} {k : List PyData → Prop} (h : Ev g te c fun x => ∃ ds, x = .da (.list ds) ∧ k ds) : EvI g (iList K te) c k := fun N σ H r R z =>
  h N σ H r _ fun x v H1 ⟨ds, e, kd⟩ r1 hx k1 => by
    subst e
    obtain ⟨a, xs, rfl, na, ha, hd⟩ := Da.lst' hx
    refine ⟨a, rfl, ⟨xs, SqL.of ha⟩, z _ H1 ds kd r1 k1 ⟨fun N' H' n tr i d e => ?_, fun N' H' n => ⟨xs, SqL.of (n.kp.lst na ha), by rw [hd.length]; exact Nat.le_refl _⟩⟩⟩
    obtain ⟨w, h1, h2⟩ := hd.get e
    have ha' := n.kp.lst na ha
    refine ⟨⟨xs, w, SqL.of ha', h1⟩, fun x H'' y => ?_⟩
    obtain ⟨rfl, y⟩ := y
    have e2 := (y xs (SqL.of ha')).symm.trans h1
    cases e2
    exact ⟨fun _ _ e => e, n.da h2⟩
theorem ei_tup {K : PySem.W.Frag} {k : List PyData → Prop} (h : Ev g te c fun x => ∃ ds, x = .da (.tuple ds) ∧ k ds) : EvI g (iTup K te) c k := fun N σ H r R z =>
  h N σ H r _ fun x v H1 ⟨ds, e, kd⟩ r1 hx k1 => by
    subst e
    obtain ⟨a, xs, rfl, na, ha, hd⟩ := Da.tup' hx
    refine ⟨a, rfl, ⟨xs, SqT.of ha⟩, z _ H1 ds kd r1 k1 ⟨fun N' H' n tr i d e => ?_, fun N' H' n => ⟨xs, SqT.of (n.kp.tup na ha), by rw [hd.length]; exact Nat.le_refl _⟩⟩⟩
    obtain ⟨w, h1, h2⟩ := hd.get e
    have ha' := n.kp.tup na ha
    refine ⟨⟨xs, w, SqT.of ha', h1⟩, fun x H'' y => ?_⟩
    obtain ⟨rfl, y⟩ := y
    have e2 := (y xs (SqT.of ha')).symm.trans h1
    cases e2
    exact ⟨fun _ _ e => e, n.da h2⟩
def rngD (n : Nat) : List PyData := (List.range n).map fun i => PyData.int ((i : Nat) : Int)
theorem ei_rng {k : List PyData → Prop} (h : EvA g tl c fun xs => ∃ n : Nat, xs = [.da (.int n)] ∧ n ≤ 100000 ∧ k (rngD n)) : EvI g (iRng1 tl) c k := fun N σ H r R z =>
  h N σ H r _ fun xs vs H1 ⟨n, e, hl, kd⟩ r1 hx k1 => by
    subst e
    obtain ⟨v, rfl, hv⟩ := hx.one
    have hv2 := Da.int' hv
    subst hv2
    refine ⟨(n : Int), rfl, by omega, by omega, ?_⟩
    have en : (n : Int).toNat = n := by simp
    rw [en]
    refine z _ H1 _ kd r1 k1 ⟨fun N' H' n' tr i d e => ?_, fun N' H' n' => by simp [rngD, Itr]⟩
    have hi : i < n := by
      have := (List.getElem?_eq_some_iff.mp e).1
      simpa [rngD] using this
    have ed : d = .int (i : Int) := by
      unfold rngD at e
      rw [List.getElem?_map, List.getElem?_range hi] at e
      cases e
      rfl
    subst ed
    refine ⟨hi, fun x H'' y => ?_⟩
    obtain ⟨rfl, rfl⟩ := y
    rw [Int.zero_add]
    exact ⟨fun _ _ e => e, Da.int _⟩
def enumD (ds : List PyData) : List PyData := ds.zipIdx.map fun p => .tuple [.int (p.2 : Int), p.1]
theorem enumD_get {ds : List PyData} {i : Nat} {e : PyData} (h : (enumD ds)[i]? = some e) : ∃ d, ds[i]? = some d ∧ e = .tuple [.int (i : Int), d] := by
  unfold enumD at h
  rw [List.getElem?_map, List.getElem?_zipIdx] at h
  cases q : ds[i]? with
  | none =>
    rw [q] at h
    cases h
  | some d =>
    rw [q] at h
    cases h
    exact ⟨d, rfl, by simp⟩
theorem enumD_length (ds : List PyData) : (enumD ds).length = ds.length := by simp [enumD]
theorem pairNew {N : Addr → Prop} {H : Hp} {T : Addr} {x y : V} {d e : PyData} (hT : H T = none) (tr : ∀ a, N a → ¬ Fr H a) (h1 : Da N H x d) (h2 : Da N H y e) :
    (∀ a o, H a = some o → (upd H T (.tup [x, y])) a = some o) ∧ Da N (upd H T (.tup [x, y])) (.ref T) (.tuple [d, e]) :=
  ⟨fun a o q => by rw [upd_ne (ne_of_none q hT)]; exact q, .tup (fun z => tr T z (.none hT)) upd_same (.cons (h1.keep (M := fun _ => False) (Keep.new hT) fun _ z => z.elim) (.cons (h2.keep (M := fun _ => False) (Keep.new hT) fun _ z => z.elim) .nil))⟩
theorem ei_enum {K : PySem.W.Frag} {k : List PyData → Prop} (h : EvA g tl c fun xs => ∃ ds, xs = [.da (.list ds)] ∧ k (enumD ds)) : EvI g (iEnum K tl) c k := fun N σ H r R z =>
  h N σ H r _ fun xs vs H1 ⟨ds, e, kd⟩ r1 hx k1 => by
    subst e
    obtain ⟨v, rfl, hv⟩ := hx.one
    obtain ⟨a, xs, rfl, na, ha, hd⟩ := Da.lst' hv
    refine ⟨a, xs, rfl, SqL.of ha, z _ H1 _ kd r1 k1 ⟨fun N' H' n tr i d e => ?_, fun N' H' n => ⟨xs, SqL.of (n.kp.lst na ha), by rw [enumD_length, hd.length]; exact Nat.le_refl _⟩⟩⟩
    obtain ⟨d', e', rfl⟩ := enumD_get e
    obtain ⟨w, h1, h2⟩ := hd.get e'
    have ha' := n.kp.lst na ha
    refine ⟨⟨xs, w, SqL.of ha', h1⟩, fun x H'' y => ?_⟩
    obtain ⟨T, w', rfl, hT, rfl, y⟩ := y
    have e2 := (y xs (SqL.of ha')).symm.trans h1
    cases e2
    exact pairNew hT tr (Da.int _) (n.da h2)
theorem ei_enumT {K : PySem.W.Frag} {k : List PyData → Prop} (h : EvA g tl c fun xs => ∃ ds, xs = [.da (.tuple ds)] ∧ k (enumD ds)) : EvI g (Bs.iEnumT K tl) c k := fun N σ H r R z =>
  h N σ H r _ fun xs vs H1 ⟨ds, e, kd⟩ r1 hx k1 => by
    subst e
    obtain ⟨v, rfl, hv⟩ := hx.one
    obtain ⟨a, xs, rfl, na, ha, hd⟩ := Da.tup' hv
    refine ⟨a, xs, rfl, SqT.of ha, z _ H1 _ kd r1 k1 ⟨fun N' H' n tr i d e => ?_, fun N' H' n => ⟨xs, SqT.of (n.kp.tup na ha), by rw [enumD_length, hd.length]⟩⟩⟩
    obtain ⟨d', e', rfl⟩ := enumD_get e
    obtain ⟨w, h1, h2⟩ := hd.get e'
    have ha' := n.kp.tup na ha
    refine ⟨⟨xs, w, SqT.of ha', h1⟩, fun x H'' y => ?_⟩
    obtain ⟨T, w', rfl, hT, rfl, y⟩ := y
    have e2 := (y xs (SqT.of ha')).symm.trans h1
    cases e2
    exact pairNew hT tr (Da.int _) (n.da h2)
def chD (s : Str) : List PyData := s.cps.toList.map fun n => .str ⟨#[n]⟩
def zipD (ds es : List PyData) : List PyData := (ds.zip es).map fun p => .tuple [p.1, p.2]
theorem ei_str {k : List PyData → Prop} (h : Ev g te c fun x => ∃ s, x = .da (.str s) ∧ k (chD s)) : EvI g (iStr te) c k := fun N σ H r R z =>
  h N σ H r _ fun x v H1 ⟨s, e, kd⟩ r1 hx k1 => by
    subst e
    have hv2 := Da.str' hx
    subst hv2
    refine ⟨s, rfl, z _ H1 _ kd r1 k1 ⟨fun N' H' n tr i d e => ?_, fun N' H' n => by simp [chD, Its]⟩⟩
    unfold chD at e
    rw [List.getElem?_map] at e
    cases q : s.cps.toList[i]? with
    | none =>
      rw [q] at e
      cases e
    | some ch =>
      rw [q] at e
      cases e
      have q2 : s.cps[i]? = some ch := by simpa using q
      refine ⟨?_, fun x H'' y => ?_⟩
      · have := (Array.getElem?_eq_some_iff.mp q2).1
        exact this
      · obtain ⟨rfl, ch', q3, rfl⟩ := y
        rw [q2] at q3
        cases q3
        exact ⟨fun _ _ e => e, Da.str _⟩
theorem ei_zipS {K : PySem.W.Frag} {k : List PyData → Prop} (h : EvA g tl c fun xs => ∃ s ds, xs = [.da (.str s), .da (.tuple ds)] ∧ k (zipD (chD s) ds)) : EvI g (Bs.iZipS K tl) c k := fun N σ H r R z =>
  h N σ H r _ fun xs vs H1 ⟨s, ds, e, kd⟩ r1 hx k1 => by
    subst e
    obtain ⟨v, w, rfl, hv, hw⟩ := hx.two
    have hv2 := Da.str' hv
    subst hv2
    obtain ⟨a, xs, rfl, na, ha, hd⟩ := Da.tup' hw
    refine ⟨s, a, xs, rfl, SqT.of ha, z _ H1 _ kd r1 k1 ⟨fun N' H' n tr i d e => ?_, fun N' H' n => ⟨xs, SqT.of (n.kp.tup na ha), by simp [zipD, chD, hd.length]⟩⟩⟩
    unfold zipD at e
    rw [List.getElem?_map] at e
    cases q : ((chD s).zip ds)[i]? with
    | none =>
      rw [q] at e
      cases e
    | some p =>
      rw [q] at e
      cases e
      obtain ⟨p1, p2⟩ := p
      rw [List.getElem?_zip_eq_some] at q
      obtain ⟨q1, q2⟩ := q
      unfold chD at q1
      rw [List.getElem?_map] at q1
      cases qc : s.cps.toList[i]? with
      | none =>
        rw [qc] at q1
        cases q1
      | some ch =>
        rw [qc] at q1
        cases q1
        have qc2 : s.cps[i]? = some ch := by simpa using qc
        obtain ⟨w, h1, h2⟩ := hd.get q2
        have ha' := n.kp.tup na ha
        refine ⟨⟨xs, w, ch, SqT.of ha', qc2, h1⟩, fun x H'' y => ?_⟩
        obtain ⟨T, ch', w', rfl, hT, rfl, y1, y⟩ := y
        rw [qc2] at y1
        cases y1
        have e2 := (y xs (SqT.of ha')).symm.trans h1
        cases e2
        exact pairNew hT tr (Da.str _) (n.da h2)
theorem ei_zipF {K : PySem.W.Frag} {k : List PyData → Prop} (h : EvA g tl c fun xs => ∃ s ns, xs = [.da (.str s), .da (ftD ns)] ∧ k (zipD (chD s) (ns.map .str))) : EvI g (Bs.iZipS K tl) c k := fun N σ H r R z =>
  h N σ H r _ fun xs vs H1 w0 r1 hx k1 => by
    obtain ⟨s, ns, e, kd⟩ := w0
    subst e
    obtain ⟨v, w, rfl, hv, hw⟩ := hx.two
    have hv2 := Da.str' hv
    subst hv2
    obtain ⟨a, o, rfl, na, ha, _⟩ := Da.ft' hw rfl
    have hd : DaA N H1 (ns.map V.str) (ns.map .str) := DaA.of_strs ns
    have keepF : ∀ N' H', Nx N H1 N' H' → SqT K H' a (ns.map V.str) := fun N' H' n => .inl (.inr ⟨o, n.kp.ob a _ na (by intro _ q; cases q) ha⟩)
    refine ⟨s, a, ns.map V.str, rfl, .inl (.inr ⟨o, ha⟩), z _ H1 _ kd r1 k1 ⟨fun N' H' n tr i d e => ?_, fun N' H' n => ⟨_, keepF N' H' n, by simp [zipD, chD, hd.length]⟩⟩⟩
    unfold zipD at e
    rw [List.getElem?_map] at e
    cases q : ((chD s).zip (ns.map PyData.str))[i]? with
    | none =>
      rw [q] at e
      cases e
    | some p =>
      rw [q] at e
      cases e
      obtain ⟨p1, p2⟩ := p
      rw [List.getElem?_zip_eq_some] at q
      obtain ⟨q1, q2⟩ := q
      unfold chD at q1
      rw [List.getElem?_map] at q1
      cases qc : s.cps.toList[i]? with
      | none =>
        rw [qc] at q1
        cases q1
      | some ch =>
        rw [qc] at q1
        cases q1
        have qc2 : s.cps[i]? = some ch := by simpa using qc
        obtain ⟨w, h1, h2⟩ := hd.get q2
        refine ⟨⟨_, w, ch, keepF N' H' n, qc2, h1⟩, fun x H'' y => ?_⟩
        obtain ⟨T, ch', w', rfl, hT, rfl, y1, y⟩ := y
        rw [qc2] at y1
        cases y1
        have e2 := (y _ (keepF N' H' n)).symm.trans h1
        cases e2
        exact pairNew hT tr (Da.str _) (n.da h2)
/-! ### for, while -/
theorem Rep.wide (r : Rep g N c σ H) (e : ∀ a o, H a = some o → H' a = some o) : Rep g N c σ H' := r.grow (Keep.ext e) (r.tab.ext e)
theorem se_for {wi : TI} {tg : TG} (W : Nat → Ctx → Prop) (h : EvI g wi c fun ds => W 0 c ∧ (∀ i d c', ds[i]? = some d → W i c' → ∃ c2 vs, Tg g tg d c' c2 vs ∧ Se g t c2 { E with nx := W (i + 1), ct := W (i + 1), bk := E.nx }) ∧ ∀ c', W ds.length c' → E.nx c') :
    Se g (tFor wi tg t) c E := fun N σ H r D z =>
  h N σ H r _ fun J H1 ds ⟨w0, turn, fin⟩ r1 k1 it => by
    have z1 := z.later (Nx.keep k1 r.mn)
    refine ⟨fun i m σ' H' => m = ds.length - i ∧ i ≤ ds.length ∧ ∃ c' N', W i c' ∧ Rep g N' c' σ' H' ∧ Nx N H1 N' H', ⟨ds.length, by simp, Nat.zero_le _, c, N, w0, r1, Nx.refl N H1⟩, ?_⟩
    rintro i m σ' H' ⟨rfl, hi, c', N', w, r', n'⟩
    by_cases hlt : i < ds.length
    · obtain ⟨g1, g2⟩ := it.go N' H' n' r'.trk i _ (List.getElem?_eq_getElem hlt)
      refine .inr ⟨g1, fun σ2 H2 => ∃ c' N', W (i + 1) c' ∧ Rep g N' c' σ2 H2 ∧ Nx N H1 N' H2, fun σ2 H2 ⟨c2, N2, w2, r2, n2⟩ => ⟨ds.length - (i + 1), by omega, rfl, hlt, c2, N2, w2, r2, n2⟩, fun x H'' y => ?_⟩
      obtain ⟨ext, hx⟩ := g2 x H'' y
      obtain ⟨c2, vs, ht, hb⟩ := turn i _ c' (List.getElem?_eq_getElem hlt) w
      have n'' : Nx N H1 N' H'' := n'.trans ⟨fun _ h => .inl h, Keep.ext ext⟩
      refine ht N' σ' H'' x (r'.wide ext) hx _ fun σ2 r2 _ => hb N' σ2 H'' r2 _ ⟨fun c3 σ3 N3 H3 w3 r3 n3 => ⟨c3, N3, w3, r3, n''.trans n3⟩, fun c3 σ3 N3 H3 w3 r3 n3 => z1.nx c3 σ3 N3 H3 w3 r3 (n''.trans n3), fun c3 σ3 N3 H3 w3 r3 n3 => ⟨c3, N3, w3, r3, n''.trans n3⟩, z.rt, z.rf⟩
    · have e : i = ds.length := by omega
      subst e
      exact .inl ⟨it.stop N' H' n', z1.nx c' σ' N' H' (fin c' w) r' n'⟩
theorem se_while (W : Nat → Ctx → Prop) (m0 : Nat) (h0 : W m0 c) (h : ∀ m c', W m c' → EvT g tt c' fun b => (b = true → Se g t c' { E with nx := fun c2 => ∃ m', m' < m ∧ W m' c2, ct := fun c2 => ∃ m', m' < m ∧ W m' c2, bk := E.nx }) ∧ (b = false → E.nx c')) :
    Se g (tWhile tt t) c E := fun N σ H r D z => by
  refine ⟨fun m σ' H' => ∃ c' N', W m c' ∧ Rep g N' c' σ' H' ∧ Nx N H N' H', ⟨m0, c, N, h0, r, Nx.refl N H⟩, ?_⟩
  rintro m σ' H' ⟨c', N', w, r', n'⟩
  refine h m c' w N' σ' H' r' _ fun b H1 kb r1 k1 => ?_
  have n1 : Nx N H N' H1 := n'.trans (Nx.keep k1 r'.mn)
  cases b with
  | true =>
    rw [if_pos rfl]
    refine ⟨fun σ2 H2 => ∃ m', m' < m ∧ ∃ c' N', W m' c' ∧ Rep g N' c' σ2 H2 ∧ Nx N H N' H2, fun σ2 H2 q => q, kb.1 rfl N' σ' H1 r1 _ ⟨fun c3 σ3 N3 H3 w3 r3 n3 => ?_, fun c3 σ3 N3 H3 w3 r3 n3 => z.nx c3 σ3 N3 H3 w3 r3 (n1.trans n3), fun c3 σ3 N3 H3 w3 r3 n3 => ?_, z.rt, z.rf⟩⟩
    · obtain ⟨m', hm, w3⟩ := w3
      exact ⟨m', hm, c3, N3, w3, r3, n1.trans n3⟩
    · obtain ⟨m', hm, w3⟩ := w3
      exact ⟨m', hm, c3, N3, w3, r3, n1.trans n3⟩
  | false =>
    rw [if_neg Bool.false_ne_true]
    exact z.nx c' σ' N' H1 (kb.2 rfl) r1 n1
end
end Bd

/-! The data layer: comprehensions, built-ins, fields, calls, dicts, defs. -/
namespace Bd
open PySem PySem.Spec PyProof.Rows L2

def wipeC (c : Ctx) : List Nat → Ctx
  | [] => c
  | v :: vs => (wipeC c vs).set v none
theorem wipeC_length (c : Ctx) : ∀ vs : List Nat, (wipeC c vs).length = c.length
  | [] => rfl
  | v :: vs => by unfold wipeC; rw [List.length_set, wipeC_length c vs]
theorem wipeC_get {c : Ctx} {i : Nat} {x : Vl} : ∀ {vs : List Nat}, (wipeC c vs)[i]? = some (some x) → c[i]? = some (some x) ∧ i ∉ vs
  | [], h => ⟨h, by simp⟩
  | v :: vs, h => by
    unfold wipeC at h
    rw [List.getElem?_set] at h
    by_cases hv : v = i
    · rw [if_pos hv] at h
      split at h <;> cases h
    · rw [if_neg hv] at h
      obtain ⟨h1, h2⟩ := wipeC_get h
      exact ⟨h1, by simp [h2]; exact fun z => hv z.symm⟩
section
variable {g : G} {N : Addr → Prop} {c : Ctx} {σ : L2.St} {H : Hp} {E : Ed} {k : Vl → Prop} {kf : List PyData → Prop} {ta tb te : TE} {tt tu : TT} {tl : TA} {t u : TS}
theorem Rep.wipe (r : Rep g N c σ H) (vs : List Nat) : Rep g N (wipeC c vs) (wipe σ vs) H := r.lose (by rw [wipe_length, wipeC_length, r.len]) fun i x e => by
  obtain ⟨h1, h2⟩ := wipeC_get e
  exact ⟨h1, by rw [wipe_get, if_neg h2]⟩
/-- something that is owned by no name changes -/
theorem Rep.mutN (r : Rep g N c σ H) {a : Addr} {o : HO} (na : N a) (fa : Fr g.H0 a) (t : LamX.Tabs g.T (upd H a o)) (hh : ∀ (i : Nat) (x : Vl), c[i]? = some (some x) → hot x = true → σ[i]? ≠ some (some (V.ref a))) (ot : ∀ ps, o ≠ .tbl ps := by intro _ q; cases q) : Rep g N c σ (upd H a o) := by
  have nm : ∀ b, stM g.st b → b ≠ a := fun b z q => (r.m0 b z).2 (by rw [q]; exact fa)
  refine ⟨⟨fun b u hm ht e => ?_, fun b e => nFr_upd (r.kp.dm b e) ot⟩, r.sti.keepM (M := fun b => b = a) (Keep.mut rfl ot) fun b z q => nm b z q, t, r.pn, r.pt, r.mp, fun b z => nFr_upd (r.trk b z) ot, r.len, fun i x e => ?_, r.ds⟩
  · rw [upd_ne (Fr.ne e fa ht)]
    exact r.kp.ob b u hm ht e
  · obtain ⟨v, h1, h2⟩ := r.sl i x e
    exact ⟨v, h1, h2.other na fun hx q => hh i x e hx (by rw [h1, q])⟩
/-- [e for x in xs if t]; J: what the new list holds after so many turns -/
theorem ef_lcX {wi : TI} {tg : TG} {vs : List Nat} (h : EvI g wi c fun ds => ∃ J : Nat → List PyData → Prop, J 0 [] ∧ ds.length ≤ 90000 ∧
    (∀ i d acc, ds[i]? = some d → J i acc → ∃ c2 ws, Tg g tg d (wipeC c vs) c2 ws ∧ (∀ i ∈ ws, i ∈ vs) ∧ EvT g tt c2 fun b => (b = true → Ev g te c2 fun y => ∃ e, y = .da e ∧ J (i + 1) (acc ++ [e])) ∧ (b = false → J (i + 1) acc)) ∧ ∀ acc, J ds.length acc → kf acc) :
    EvF g (tLc wi tg tt te vs) c kf := fun N σ H r Q z =>
  h N σ H r _ fun J' H1 ds ⟨J, j0, hl, turn, fin⟩ r1 k1 it D hD => by
    have rD : Rep g (fun b => N b ∨ b = D) c σ (upd H1 D (.lst [])) := r1.own (Keep.new hD) (r1.new hD).sti (r1.new hD).tab (.none hD) (nFr upd_same)
    have n0 : Nx N H1 (fun b => N b ∨ b = D) (upd H1 D (.lst [])) := ⟨fun b q => q.imp_right fun q => by rw [q]; exact .none hD, Keep.new hD⟩
    have fD : Fr g.H0 D := r1.not0 (.none hD)
    have hh : ∀ (i : Nat) (x : Vl), c[i]? = some (some x) → hot x = true → σ[i]? ≠ some (some (V.ref D)) := fun i x e hx q => by
      obtain ⟨v, e1, e2⟩ := r1.sl i x e
      obtain ⟨a, rfl, na, _⟩ := e2.hotN hx
      rw [e1] at q
      cases q
      exact r1.trk D na (.none hD)
    refine ⟨fun i m H' => m = ds.length - i ∧ i ≤ ds.length ∧ ∃ acc xs, J i acc ∧ acc.length ≤ i ∧ H' D = some (.lst xs) ∧ DaA (fun b => N b ∨ b = D) H' xs acc ∧ Rep g (fun b => N b ∨ b = D) c σ H' ∧ Nx N H1 (fun b => N b ∨ b = D) H' ∧ Keep (fun b => stM g.st b ∨ b = D) H1 H',
      ⟨ds.length, by simp, Nat.zero_le _, [], [], j0, Nat.zero_le _, upd_same, .nil, rD, n0, Keep.new hD⟩, ?_⟩
    rintro i m H' ⟨rfl, hi, acc, xs, ja, hal, hDl, hda, r', n', k'⟩
    by_cases hlt : i < ds.length
    · obtain ⟨g1, g2⟩ := it.go _ H' n' r'.trk i _ (List.getElem?_eq_getElem hlt)
      refine .inr ⟨g1, fun H2 => ∃ acc xs, J (i + 1) acc ∧ acc.length ≤ i + 1 ∧ H2 D = some (.lst xs) ∧ DaA (fun b => N b ∨ b = D) H2 xs acc ∧ Rep g (fun b => N b ∨ b = D) c σ H2 ∧ Nx N H1 (fun b => N b ∨ b = D) H2 ∧ Keep (fun b => stM g.st b ∨ b = D) H1 H2,
        fun H2 q => ⟨ds.length - (i + 1), by omega, rfl, hlt, q⟩, fun x H'' y => ?_⟩
      obtain ⟨ext, hx⟩ := g2 x H'' y
      have r'' := r'.wide ext
      have n'' : Nx N H1 (fun b => N b ∨ b = D) H'' := n'.trans ⟨fun _ h => .inl h, Keep.ext ext⟩
      have k'' : Keep (fun b => stM g.st b ∨ b = D) H1 H'' := k'.trans (Keep.ext ext)
      obtain ⟨c2, ws, ht, hws, hb⟩ := turn i _ acc (List.getElem?_eq_getElem hlt) ja
      refine ht _ (wipe σ vs) H'' x (r''.wipe vs) hx _ fun σ2 r2 w2 => ⟨?_, hb _ σ2 H'' r2 _ fun b H3 kb r3 k3 => ?_⟩
      · rw [w2 vs hws]
        refine List.ext_getElem? fun j => ?_
        rw [wipe_get, wipe_get, wipe_length]
        by_cases hj : j ∈ vs
        · rw [if_pos hj, if_pos hj]
        · rw [if_neg hj, if_neg hj]
      · have nD : ¬ stM g.st D := fun q => (r''.m0 D q).2 fD
        have hD3 : H3 D = some (.lst xs) := k3.lst nD (ext _ _ hDl)
        have rr3 : Rep g (fun b => N b ∨ b = D) c σ H3 := r''.step k3 r3.sti r3.tab
        have nn3 : Nx N H1 (fun b => N b ∨ b = D) H3 := n''.trans (Nx.keep k3 r''.mn)
        have kk3 : Keep (fun b => stM g.st b ∨ b = D) H1 H3 := k''.trans (k3.wide fun _ q => .inl q)
        have d3 : DaA (fun b => N b ∨ b = D) H3 xs acc := (hda.keep (M := fun _ => False) (Keep.ext ext) fun _ q => q.elim).keep k3 r''.mn
        cases b with
        | false =>
          rw [if_neg Bool.false_ne_true]
          exact ⟨acc, xs, kb.2 rfl, by omega, hD3, d3, rr3, nn3, kk3⟩
        | true =>
          rw [if_pos rfl]
          refine kb.1 rfl _ σ2 H3 r3 _ fun yv w H4 ky r4 hy k4 => ?_
          obtain ⟨e, rfl, je⟩ := ky
          have hD4 : H4 D = some (.lst xs) := k4.lst nD hD3
          have rr4 : Rep g (fun b => N b ∨ b = D) c σ H4 := rr3.step k4 r4.sti r4.tab
          have d4 : DaA (fun b => N b ∨ b = D) H4 (xs ++ [w]) (acc ++ [e]) := (d3.keep k4 r''.mn).app (.cons hy .nil)
          refine ⟨xs, hD4, Nat.lt_of_le_of_lt (by rw [hda.length]; exact Nat.le_trans hal hi) (Nat.lt_of_le_of_lt hl (by decide)), acc ++ [e], xs ++ [w], je, by simp; omega, upd_same, ?_, rr4.mutN (.inr rfl) fD (tabs_mut rr4.tab hD4) hh,
            (nn3.trans (Nx.keep k4 r''.mn)).trans ⟨fun _ h => .inl h, Keep.mut (.inr rfl)⟩, (kk3.trans (k4.wide fun _ q => .inl q)).trans (Keep.mut (.inr rfl))⟩
          exact d4.mono (fun b o n _ q => (upd_ne (fun z => n (.inr z))).trans q) fun b q => .inl q
    · have e : i = ds.length := by omega
      subst e
      refine .inl ⟨it.stop _ H' n', z acc D xs H' (fin acc ja) ?_ (k1.back (.none hD)) hDl hda ?_⟩
      · refine ⟨r'.kp, r'.sti, r'.tab, r.pn, r.pt, r.mp, fun a q => r'.trk a (.inl q), r'.len, fun i x e => ?_, r'.ds⟩
        obtain ⟨v, e1, e2⟩ := r1.sl i x e
        refine ⟨v, e1, ?_⟩
        obtain ⟨v2, e3, e4⟩ := r'.sl i x e
        rw [e1] at e3
        cases e3
        by_cases hx : hot x = true
        · obtain ⟨a, rfl, na, _⟩ := e2.hotN hx
          cases x with
          | ac es =>
            obtain ⟨b, ys, e5, n5, f5, h5, d5⟩ := e4
            cases e5
            exact ⟨_, ys, rfl, na, f5, h5, d5.less fun _ q => .inl q⟩
          | dk es =>
            obtain ⟨b, ys, e5, n5, f5, h5, q5, d5⟩ := e4
            cases e5
            exact ⟨_, ys, rfl, na, f5, h5, q5, d5.less fun _ q => .inl q⟩
          | dt es =>
            obtain ⟨b, ys, e5, n5, f5, h5, q5, d5⟩ := e4
            cases e5
            exact ⟨_, ys, rfl, na, f5, h5, q5, d5.less fun _ q => .inl q⟩
          | oi C es =>
            obtain ⟨b, dx, ys, e5, n5, f5, h5, q5, d5⟩ := e4
            cases e5
            exact ⟨_, dx, ys, rfl, na, f5, h5, q5, d5.less fun _ q => .inl q⟩
          | da _ => cases hx
          | ob _ _ => cases hx
          | ex _ => cases hx
        · exact e4.cold (fun _ _ _ _ e => e) (fun b q => .inl (.inl q)) (by simpa using hx)
      · refine k1.trans ⟨fun a o hm ht e => k'.ob a o (fun q => q.elim hm fun q => ?_) ht e, k'.dm⟩
        rw [q, hD] at e
        cases e
theorem ef_lc {wi : TI} {tg : TG} {vs : List Nat} (J : Nat → List PyData → Prop) (h : EvI g wi c fun ds => J 0 [] ∧ ds.length ≤ 90000 ∧
    (∀ i d acc, ds[i]? = some d → J i acc → ∃ c2 ws, Tg g tg d (wipeC c vs) c2 ws ∧ (∀ i ∈ ws, i ∈ vs) ∧ EvT g tt c2 fun b => (b = true → Ev g te c2 fun y => ∃ e, y = .da e ∧ J (i + 1) (acc ++ [e])) ∧ (b = false → J (i + 1) acc)) ∧ ∀ acc, J ds.length acc → kf acc) :
    EvF g (tLc wi tg tt te vs) c kf := ef_lcX fun N σ H r R z => h N σ H r R fun J' H1 ds kx => z J' H1 ds ⟨J, kx⟩
end

/-! ### built-ins -/
section
variable {g : G} {c : Ctx} {E : Ed} {k : Vl → Prop} {kf : List PyData → Prop} {ta tb te : TE} {tl : TA} {K : PySem.W.Frag}
theorem ev_cb {r : List V → Hp → VK → Prop} (h : EvA g tl c fun xs => Cb r xs k) : Ev g (tCB r tl) c k := fun N σ H rp Q z =>
  h N σ H rp _ fun xs us H1 kx r1 hx k1 => kx g.H0 N H1 us hx Q fun w wv kw hw => z w wv H1 kw r1 hw k1
theorem fresh_da {N : Addr → Prop} {H : Hp} {p : Addr} {o : HO} {xs : List V} {ds : List PyData} (hd : DaA N H xs ds) (hp : H p = none) : DaA (fun b => N b ∨ b = p) (upd H p o) xs ds :=
  hd.mono (fun a o n _ e => (upd_ne (ne_of_none e hp)).trans e) fun a w => w.imp_right fun q => by rw [q]; exact .none hp
theorem ef_cb {r : List V → Hp → VK → Prop} (h : EvA g tl c fun xs => CbF r xs kf) : EvF g (tCB r tl) c kf := fun N σ H rp Q z =>
  h N σ H rp _ fun xs us H1 kx r1 hx k1 => kx g.H0 N H1 us hx Q fun ds ys p kd hp hd => z ds p ys _ kd (r1.new hp) (k1.back (.none hp)) upd_same (fresh_da hd hp) (k1.trans (Keep.new hp))
def seqOf : Vl → Option (List PyData)
  | .da (.list ds) => some ds
  | .da (.tuple ds) => some ds
  | .ac ds => some ds
  | _ => none
theorem Has.seq {H0 : Hp} {N : Addr → Prop} {H : Hp} {v : V} {x : Vl} {ds : List PyData} (h : Has H0 N H v x) (e : seqOf x = some ds) : ∃ a xs, v = .ref a ∧ (SqL K H a xs ∨ SqT K H a xs) ∧ DaA N H xs ds := by
  cases x with
  | da d =>
    cases d with
    | list es =>
      cases e
      obtain ⟨a, xs, h1, _, h2, h3⟩ := Da.lst' h
      exact ⟨a, xs, h1, .inl (SqL.of h2), h3⟩
    | tuple es =>
      cases e
      obtain ⟨a, xs, h1, _, h2, h3⟩ := Da.tup' h
      exact ⟨a, xs, h1, .inr (SqT.of h2), h3⟩
    | _ => cases e
  | ac es =>
    cases e
    obtain ⟨a, xs, e, _, _, h2, h3⟩ := h
    exact ⟨a, xs, e, .inl (SqL.of h2), h3⟩
  | _ => cases e
theorem cb_len {x : Vl} {ds : List PyData} (e : seqOf x = some ds) (q : k (.da (.int ds.length))) : Cb (fun xs H Q => ∃ p ys, xs = [.ref p] ∧ (SqL K H p ys ∨ SqT K H p ys) ∧ Q (.int ys.length) H) [x] k := fun H0 N H us hx Q z => by
  obtain ⟨v, rfl, hv⟩ := hx.one
  obtain ⟨a, xs, rfl, hs, hd⟩ := hv.seq (K := K) e
  exact ⟨a, xs, rfl, hs, z _ _ q (by rw [hd.length]; exact Da.int _)⟩
theorem cb_lenF {ns : List Str} (q : k (.da (.int ns.length))) : Cb (fun xs H Q => ∃ p ys, xs = [.ref p] ∧ (SqL K H p ys ∨ SqT K H p ys) ∧ Q (.int ys.length) H) [.da (ftD ns)] k := fun H0 N H us hx Q z => by
  obtain ⟨v, rfl, hv⟩ := hx.one
  obtain ⟨a, o, rfl, _, ha, _⟩ := Da.ft' hv rfl
  exact ⟨a, _, rfl, .inr (.inl (.inr ⟨o, ha⟩)), z _ _ q (by rw [List.length_map]; exact Da.int _)⟩
theorem cb_lenS {s : Str} (l : s.length ≤ 100000) (q : k (.da (.int s.length))) : Cb (fun xs H Q => ∃ z, xs = [.str z] ∧ z.length ≤ sizeLine ∧ Q (.int z.length) H) [.da (.str s)] k := fun H0 N H us hx Q z => by
  obtain ⟨v, rfl, hv⟩ := hx.one
  exact ⟨s, by rw [Da.str' hv], sz_ok l, z _ _ q (Da.int _)⟩
theorem cb_int {i : Int} (q : k (.da (.int i))) : Cb (fun xs H Q => (∃ i, xs = [.int i] ∧ Q (.int i) H) ∨ ∃ k, xs = [.bl k] ∧ Q (.int (if k then 1 else 0)) H) [.da (.int i)] k := fun H0 N H us hx Q z => by
  obtain ⟨v, rfl, hv⟩ := hx.one
  exact .inl ⟨i, by rw [Da.int' hv], z _ _ q (Da.int _)⟩
theorem cb_intB {b : Bool} (q : k (.da (.int (if b then 1 else 0)))) : Cb (fun xs H Q => (∃ i, xs = [.int i] ∧ Q (.int i) H) ∨ ∃ k, xs = [.bl k] ∧ Q (.int (if k then 1 else 0)) H) [.da (.bool b)] k := fun H0 N H us hx Q z => by
  obtain ⟨v, rfl, hv⟩ := hx.one
  exact .inr ⟨b, by rw [Da.bl' hv], z _ _ q (Da.int _)⟩
theorem cb_list {x : Vl} {ds : List PyData} (e : seqOf x = some ds) (q : kf ds) : CbF (fun xs H Q => ∃ p ys, xs = [.ref p] ∧ (SqL K H p ys ∨ SqT K H p ys) ∧ ∀ l, H l = none → Q (.ref l) (upd H l (.lst ys))) [x] kf := fun H0 N H us hx Q z => by
  obtain ⟨v, rfl, hv⟩ := hx.one
  obtain ⟨a, xs, rfl, hs, hd⟩ := hv.seq (K := K) e
  exact ⟨a, xs, rfl, hs, fun l hl => z _ _ l q hl hd⟩
theorem cb_all {x : Vl} {bs : List Bool} (e : lstOf x = some (bs.map .bool)) (q : k (.da (.bool (bs.all id)))) : Cb (rAll K) [x] k := fun H0 N H us hx Q z => by
  obtain ⟨v, rfl, hv⟩ := hx.one
  obtain ⟨a, xs, rfl, hs, hd⟩ := hv.lst e
  have ex := hd.bls
  subst ex
  exact ⟨a, bs, rfl, SqL.of hs, z _ _ q (Da.bl _)⟩
theorem cb_any {x : Vl} {bs : List Bool} (e : lstOf x = some (bs.map .bool)) (q : k (.da (.bool (bs.any id)))) : Cb (rAny K) [x] k := fun H0 N H us hx Q z => by
  obtain ⟨v, rfl, hv⟩ := hx.one
  obtain ⟨a, xs, rfl, hs, hd⟩ := hv.lst e
  have ex := hd.bls
  subst ex
  exact ⟨a, bs, rfl, SqL.of hs, z _ _ q (Da.bl _)⟩
def Has2 (H : Hp) (v : V) (d : PyData) (N : Addr → Prop) : Prop := Da N H v d
/-- sorted of data -/
theorem cb_sorted {β : Type} {x : Vl} (bs : List β) (enc : β → PyData) (e : lstOf x = some (bs.map enc)) (hc : ∀ b, clean (enc b) = true) (hal : PySem.W.AllAlike (bs.map enc)) (hsk : PySem.W.Sortable (bs.map enc)) (hdp : ∀ b ∈ bs, (enc b).depth ≤ 60)
    (q : kf ((bs.mergeSort (PySem.W.dataLe false enc)).map enc)) : CbF (Bs.rSortV K β) [x] kf := fun H0 N H us hx Q z => by
  obtain ⟨v, rfl, hv⟩ := hx.one
  obtain ⟨a, xs, rfl, hs, hd⟩ := hv.lst e
  have st : ∀ (bs : List β) (xs : List V), DaA N H xs (bs.map enc) → Bs.Stands (fun v b => Da N H v (enc b)) xs bs := fun bs => by
    induction bs with
    | nil =>
      intro xs h
      cases h
      exact True.intro
    | cons b bs ih =>
      intro xs h
      cases h with
      | cons h1 h2 => exact ⟨h1, ih _ h2⟩
  have ts : ∀ (bs : List β) (xs : List V), Bs.Stands (fun v b => Da N H v (enc b)) xs bs → DaA N H xs (bs.map enc) := fun bs => by
    induction bs with
    | nil =>
      intro xs h
      cases xs with
      | nil => exact .nil
      | cons _ _ => exact False.elim h
    | cons b bs ih =>
      intro xs h
      cases xs with
      | nil => exact False.elim h
      | cons _ _ => exact .cons h.1 (ih _ h.2)
  exact ⟨a, xs, bs, enc, _, rfl, SqL.of hs, st bs xs hd, fun x b h => h.dp (hc b), hal, hsk, hdp, fun ys p hy hp => z _ _ p q hp (ts _ ys hy)⟩
/-! ### conversions, slices -/
theorem ev_tupL {x : Vl} (h : Ev g te c fun x => ∃ ds, lstOf x = some ds ∧ k (.da (.tuple ds))) : Ev g (tThen te (kTup K)) c k := fun N σ H r Q z =>
  h N σ H r _ fun x v H1 ⟨ds, e, kd⟩ r1 hx k1 => by
    obtain ⟨a, xs, rfl, hs, hd⟩ := hx.lst e
    exact .inl ⟨a, xs, rfl, SqL.of hs, fun p hp => z _ _ _ kd (r1.new hp) (Da.tup (r1.notN (.none hp)) upd_same (hd.keep (Keep.new hp) r1.mn)) (k1.trans (Keep.new hp))⟩
theorem ef_rng (h : Ev g te c fun x => ∃ n : Nat, x = .da (.int n) ∧ n ≤ 100000 ∧ kf (rngD n)) : EvF g (tLstRg (tRg1 te)) c kf := fun N σ H r Q z =>
  h N σ H r _ fun x v H1 ⟨n, e, hl, kd⟩ r1 hx k1 => by
    subst e
    have hv := Da.int' hx
    subst hv
    refine ⟨(n : Int), rfl, ⟨by omega, by omega, by omega, by omega, by omega⟩, fun q hq => z _ q (rgV 0 n) _ kd (r1.new hq) (k1.back (.none hq)) upd_same (fresh_da ?_ hq) (k1.trans (Keep.new hq))⟩
    have e1 : rgV 0 (n : Int) = ((List.range n).map fun i => ((i : Nat) : Int)).map V.int := by
      unfold rgV
      rw [List.map_map]
      simp
    have e2 : rngD n = ((List.range n).map fun i => ((i : Nat) : Int)).map PyData.int := by
      unfold rngD
      rw [List.map_map]
      rfl
    rw [e1, e2]
    exact DaA.of_ints _
theorem eo_none {k : Option Int → Prop} (q : k none) : EvO g tNoPart c k := fun N σ H r Q z => z none H q r (Keep.refl H)
theorem eo_some {k : Option Int → Prop} (h : Ev g te c fun x => ∃ i, x = .da (.int i) ∧ k (some i)) : EvO g (tPart te) c k := fun N σ H r Q z =>
  h N σ H r _ fun x v H1 ⟨i, e, kd⟩ r1 hx k1 => by
    subst e
    exact ⟨i, Da.int' hx, z _ H1 kd r1 k1⟩
def cutD (xs : List PyData) (lo hi : Option Int) : List PyData := (xs.drop (HT.sIx xs.length 0 lo)).take (HT.sIx xs.length xs.length hi - HT.sIx xs.length 0 lo)
theorem DaA.cut {N : Addr → Prop} {H : Hp} {xs : List V} {ds : List PyData} (h : DaA N H xs ds) (lo hi : Option Int) : DaA N H (cutV xs lo hi) (cutD ds lo hi) := by
  unfold cutV cutD
  rw [h.length]
  exact (h.drop _).take _
theorem ef_sl {tlo thi : TO} (h : Ev g te c fun x => ∃ ds, lstOf x = some ds ∧ EvO g tlo c fun lo => EvO g thi c fun hi => kf (cutD ds lo hi)) : EvF g (tSl (rSlL K) te tlo thi) c kf := fun N σ H r Q z =>
  h N σ H r _ fun x v H1 ⟨ds, e, h1⟩ r1 hx k1 => h1 N σ H1 r1 _ fun lo H2 h2 r2 k2 => h2 N σ H2 r2 _ fun hi H3 h3 r3 k3 => by
    obtain ⟨a, xs, rfl, hs, hd⟩ := ((hx.keep k2 r1.m0).keep k3 r1.m0).lst e
    exact ⟨a, xs, rfl, SqL.of hs, fun p hp => z _ p _ _ h3 (r3.new hp) (((k1.trans k2).trans k3).back (.none hp)) upd_same (fresh_da (hd.cut lo hi) hp) (((k1.trans k2).trans k3).trans (Keep.new hp))⟩
theorem ev_slT {tlo thi : TO} (h : Ev g te c fun x => ∃ ds, x = .da (.tuple ds) ∧ EvO g tlo c fun lo => EvO g thi c fun hi => ¬ (HT.sIx ds.length 0 lo = 0 ∧ HT.sIx ds.length ds.length hi = ds.length) ∧ k (.da (.tuple (cutD ds lo hi)))) : Ev g (tSl (rSlT K) te tlo thi) c k := fun N σ H r Q z =>
  h N σ H r _ fun x v H1 ⟨ds, e, h1⟩ r1 hx k1 => h1 N σ H1 r1 _ fun lo H2 h2 r2 k2 => h2 N σ H2 r2 _ fun hi H3 h3 r3 k3 => by
    subst e
    obtain ⟨a, xs, rfl, _, hs, hd⟩ := Da.tup' ((hx.keep k2 r1.m0).keep k3 r1.m0)
    exact ⟨a, xs, rfl, SqT.of hs, by rw [hd.length]; exact h3.1, fun p hp => z _ _ _ h3.2 (r3.new hp) (Da.tup (r3.notN (.none hp)) upd_same ((hd.cut lo hi).keep (Keep.new hp) r3.mn)) (((k1.trans k2).trans k3).trans (Keep.new hp))⟩
theorem ev_slS {tlo thi : TO} (h : Ev g te c fun x => ∃ s : Str, x = .da (.str s) ∧ s.length ≤ 100000 ∧ EvO g tlo c fun lo => EvO g thi c fun hi => k (.da (.str (cutS s lo hi)))) : Ev g (tSl rSlS te tlo thi) c k := fun N σ H r Q z =>
  h N σ H r _ fun x v H1 ⟨s, e, hl, h1⟩ r1 hx k1 => h1 N σ H1 r1 _ fun lo H2 h2 r2 k2 => h2 N σ H2 r2 _ fun hi H3 h3 r3 k3 => by
    subst e
    exact ⟨s, Da.str' hx, sz_ok hl, z _ _ H3 h3 r3 (Da.str _) ((k1.trans k2).trans k3)⟩
/-! ### methods, fields -/
def tyD (T : String) : Vl → Bool
  | .da (.str _) => T == "str"
  | .da (.list _) => T == "list"
  | .ac _ => T == "list"
  | _ => false
theorem Has.tyV {H0 : Hp} {N : Addr → Prop} {H : Hp} {v : V} {T : String} : ∀ {x : Vl}, Has H0 N H v x → tyD T x = true → L2.tyV K T v H
  | .da (.str s), h, e => by
    rw [Da.str' h]
    exact eq_of_beq e
  | .da (.list ds), h, e => by
    obtain ⟨a, xs, rfl, _, h2, _⟩ := Da.lst' h
    exact .inl ⟨eq_of_beq e, xs, SqL.of h2⟩
  | .ac ds, h, e => by
    obtain ⟨a, xs, rfl, _, _, h2, _⟩ := h
    exact .inl ⟨eq_of_beq e, xs, SqL.of h2⟩
  | .da .none, _, e => nomatch e
  | .da (.bool _), _, e => nomatch e
  | .da (.int _), _, e => nomatch e
  | .da (.tuple _), _, e => nomatch e
  | .da (.dict _), _, e => nomatch e
  | .ob _ _, _, e => nomatch e
  | .ex _, _, e => nomatch e
  | .dk _, _, e => nomatch e
  | .dt _, _, e => nomatch e
  | .oi _ _, _, e => nomatch e
theorem ev_bm {T : String} {r : V → List V → Hp → VK → Prop} (h : Ev g ta c fun x => tyD T x = true ∧ EvA g tl c fun xs => Mt T K r x xs k) : Ev g (tBM K T r ta tl) c k := fun N σ H rp Q z =>
  h N σ H rp _ fun x v H1 ⟨ty, h1⟩ r1 hx k1 => ⟨hx.tyV ty, h1 N σ H1 r1 _ fun xs us H2 hm r2 hs k2 => hm g.H0 N H2 v us (hx.keep k2 r1.m0) hs Q fun y w ky hy => z y w H2 ky r2 hy (k1.trans k2)⟩
theorem mt_joinD {s : Str} {x : Vl} {ns : List Str} (e : seqOf x = some (ns.map .str)) (l : (ns.map (·.length)).sum + ns.length * s.length ≤ 100000) (q : k (.da (.str (Txt.join s ns)))) :
    Mt "str" K (fun x xs H Q => ∃ a p, ∃ ys : List Str, x = .str a ∧ xs = [.ref p] ∧ (SqL K H p (ys.map V.str) ∨ SqT K H p (ys.map V.str)) ∧ (ys.map (·.length)).sum + ys.length * a.length ≤ 16777216 ∧ Q (.str (Txt.join a ys)) H) (.da (.str s)) [x] k := fun H0 N H u us hu hx Q z => by
  obtain ⟨v, rfl, hv⟩ := hx.one
  obtain ⟨a, xs, rfl, hs, hd⟩ := hv.seq (K := K) e
  have ex := hd.strs
  subst ex
  exact ⟨s, a, ns, Da.str' hu, rfl, hs, Nat.le_trans l (by decide), z _ _ q (Da.str _)⟩
theorem mt_ixD {x y : Vl} {ds : List PyData} {j : Nat} {z0 : PyData} (e : lstOf x = some ds) (hy : okD (datOf y) = true) (hx : okD (.list ds) = true) (h1 : ds[j]? = some z0) (h2 : PyData.eqv z0 (datOf y) = true) (h3 : ∀ (m : Nat) (z' : PyData), m < j → ds[m]? = some z' → PyData.eqv z' (datOf y) = false)
    (q : k (.da (.int j))) : Mt "list" K (rIndexD K) x [y] k := fun H0 N H u us hu hs Q z => by
  obtain ⟨v, rfl, hv⟩ := hs.one
  obtain ⟨a, xs, rfl, ha, hd⟩ := hu.lst e
  exact ⟨a, v, datOf y, ds, j, z0, rfl, rfl, .lst (SqL.of ha) (hd.dp (by
    have c1 : clean (.list ds) = true := (Bool.and_eq_true _ _ ▸ hx).1
    simpa [clean] using c1)), hv.dp' hy, okD_sh hx, okD_sh hy, h1, h2, h3, z _ _ q (Da.int _)⟩
theorem ev_fld {f : Str} (h : Ev g te c fun x => ∃ C fs d, x = .ob C fs ∧ Cls K C ∧ NoAttr K C f ∧ fs.lookup f = some d ∧ k (.da d)) : Ev g (tFld K te f) c k := fun N σ H r Q z =>
  h N σ H r _ fun x v H1 hx0 r1 hx k1 => by
    obtain ⟨C, fs, d, e, hc, hn, hl, kd⟩ := hx0
    subst e
    obtain ⟨p, dx, vs, rfl, _, hp, hf, hd⟩ := hx
    have look : ∀ (vs : List (Str × V)) (fs : List (Str × PyData)), vs.map (·.1) = fs.map (·.1) → DaA N H1 (vs.map (·.2)) (fs.map (·.2)) → fs.lookup f = some d → ∃ w, vs.lookup f = some w ∧ Da N H1 w d := fun vs => by
      induction vs with
      | nil =>
        intro fs e1 e2 e3
        cases fs with
        | nil => cases e3
        | cons _ _ => cases e1
      | cons v vs ih =>
        intro fs e1 e2 e3
        cases fs with
        | nil => cases e1
        | cons w fs =>
          obtain ⟨n, v⟩ := v
          obtain ⟨m, w⟩ := w
          rw [List.map_cons, List.map_cons] at e1 e2
          have en : n = m := (List.cons.inj e1).1
          subst en
          cases e2 with
          | cons h1 h2 =>
            by_cases q : (f == n) = true
            · rw [List.lookup_cons, q] at e3 ⊢
              cases e3
              exact ⟨v, rfl, h1⟩
            · have q2 : (f == n) = false := by simpa using q
              rw [List.lookup_cons, q2] at e3 ⊢
              exact ih fs (List.cons.inj e1).2 h2 e3
    obtain ⟨w, h1, h2⟩ := look vs fs hf hd hl
    exact ⟨p, C, dx, vs, w, rfl, hp, hc, hn, h1, z _ _ H1 kd r1 h2 k1⟩
end

/-! ### promises, calls, defs -/
/-- what a def promises, told by data: the arguments, what must hold of each result; of each new list that leaves -/
abbrev Pre := List Vl → (Vl → Prop) → (List PyData → Prop) → Prop
def spT (T : List (Addr × Str)) (st : Option (Addr × Addr)) (pre : Pre) : Sp := fun vs H Q _ => ∃ (as : List Vl) (N : Addr → Prop) (k : Vl → Prop) (kf : List PyData → Prop), (∀ a, stM st a → N a) ∧ (∀ a, N a → ¬ Fr H a) ∧ LamX.Tabs T H ∧ StI st H ∧ HasA H N H vs as ∧ (∀ x ∈ as, hot x = false) ∧ pre as k kf ∧
  (∀ x v H', k x → hot x = false → Keep (stM st) H H' → StI st H' → LamX.Tabs T H' → Has H N H' v x → Q v H') ∧
  ∀ ds a xs H', kf ds → Keep (stM st) H H' → StI st H' → LamX.Tabs T H' → Fr H a → H' a = some (.lst xs) → DaA (fun b => N b ∨ b = a) H' xs ds → Q (.ref a) H'
/-- a def that draws nothing and makes no lambda -/
def spD (pre : Pre) : Sp := fun vs H Q E => ∃ T, spT T none pre vs H Q E
/-- a def that draws: the state comes first -/
def spS (pre : Pre) : Sp := fun vs H Q E => ∃ T s c, spT T (some (s, c)) (fun as k kf => ∃ as', as = .ex (.ref s) :: as' ∧ pre as' k kf) vs H Q E
/-- a promise without new lists -/
def pl (p : List Vl → (Vl → Prop) → Prop) : Pre := fun as k _ => p as k
theorem spT_len {T : List (Addr × Str)} {st : Option (Addr × Addr)} {pre : Pre} {n : Nat} (h : ∀ as k kf, pre as k kf → as.length = n) {vs : List V} {H : Hp} {Q : VK} {E : XK} (q : spT T st pre vs H Q E) : vs.length = n := by
  obtain ⟨as, N, k, kf, _, _, _, _, ha, _, hp, _⟩ := q
  rw [ha.length]
  exact h as k kf hp
section
variable {g : G} {c : Ctx} {E : Ed} {k : Vl → Prop} {kf : List PyData → Prop} {tl : TA} {pre : Pre}
theorem HasA.rebase {H0 H1 : Hp} {N : Addr → Prop} {H : Hp} : ∀ {vs : List V} {xs : List Vl}, HasA H0 N H vs xs → (∀ x ∈ xs, hot x = false) → HasA H1 N H vs xs
  | _, _, .nil, _ => .nil
  | _, _, .cons h t, c => .cons (h.cold (fun _ _ _ _ e => e) (fun _ q => .inl q) (c _ (by simp))) (HasA.rebase t fun x hx => c x (by simp [hx]))
/-- a call of a def that draws nothing, under the tables T of here -/
theorem ev_callT {E' : XK} (h : EvA g tl c fun xs => (∀ x ∈ xs, hot x = false) ∧ ∃ kf, pre xs k kf ∧ ∀ ds, kf ds → k (.da (.list ds))) : Ev g (tCall (spT g.T none pre) [] E' tl) c k := fun N σ H r Q z =>
  h N σ H r _ fun xs us H1 hx0 r1 hx k1 => by
    obtain ⟨hc, kf, hp, hk⟩ := hx0
    rw [List.append_nil]
    refine ⟨xs, N, k, kf, fun a q => q.elim, r1.trk, r1.tab, trivial, hx.rebase hc, hc, hp, fun x v H' kx cx kk _ tt hv => ?_, fun ds a ys H' kd kk _ tt ha ha' hd => ?_⟩
    · have kk' : Keep no0 H1 H' := kk
      exact z x v H' kx (r1.grow kk' tt) (hv.cold (fun _ _ _ _ e => e) (fun _ q => .inl q) cx) (k1.trans kk'.up)
    · have kk' : Keep no0 H1 H' := kk
      exact z _ _ H' (hk ds kd) (r1.grow kk' tt) (Da.lst (r1.notN ha) ha' (hd.less fun b q => .inl q)) (k1.trans kk'.up)
theorem ev_call {E' : XK} (h : EvA g tl c fun xs => (∀ x ∈ xs, hot x = false) ∧ ∃ kf, pre xs k kf ∧ ∀ ds, kf ds → k (.da (.list ds))) : Ev g (tCall (spD pre) [] E' tl) c k := fun N σ H r Q z =>
  h N σ H r _ fun xs us H1 hx0 r1 hx k1 => by
    obtain ⟨hc, kf, hp, hk⟩ := hx0
    rw [List.append_nil]
    refine ⟨g.T, xs, N, k, kf, fun a q => q.elim, r1.trk, r1.tab, trivial, hx.rebase hc, hc, hp, fun x v H' kx cx kk _ tt hv => ?_, fun ds a ys H' kd kk _ tt ha ha' hd => ?_⟩
    · have kk' : Keep no0 H1 H' := kk
      exact z x v H' kx (r1.grow kk' tt) (hv.cold (fun _ _ _ _ e => e) (fun _ q => .inl q) cx) (k1.trans kk'.up)
    · have kk' : Keep no0 H1 H' := kk
      exact z _ _ H' (hk ds kd) (r1.grow kk' tt) (Da.lst (r1.notN ha) ha' (hd.less fun b q => .inl q)) (k1.trans kk'.up)
/-- a call of a def that promises data alone -/
theorem ev_callP {E' : XK} {p : List Vl → (Vl → Prop) → Prop} (h : EvA g tl c fun xs => (∀ x ∈ xs, hot x = false) ∧ p xs k) : Ev g (tCall (spD (pl p)) [] E' tl) c k :=
  ev_call fun N σ H r Q z => h N σ H r Q fun xs vs H' kx => z xs vs H' ⟨kx.1, fun _ => False, kx.2, fun _ q => q.elim⟩
/-- a call that leaves a new list -/
theorem ef_callT {E' : XK} (h : EvA g tl c fun xs => (∀ x ∈ xs, hot x = false) ∧ pre xs (fun _ => False) kf) : EvF g (tCall (spT g.T none pre) [] E' tl) c kf := fun N σ H r Q z =>
  h N σ H r _ fun xs us H1 hx0 r1 hx k1 => by
    obtain ⟨hc, hp⟩ := hx0
    rw [List.append_nil]
    refine ⟨xs, N, _, kf, fun a q => q.elim, r1.trk, r1.tab, trivial, hx.rebase hc, hc, hp, fun x v H' kx cx kk _ tt hv => kx.elim, fun ds a ys H' kd kk _ tt ha ha' hd => ?_⟩
    have kk' : Keep no0 H1 H' := kk
    exact z _ a ys H' kd (r1.grow kk' tt) (k1.back ha) ha' hd (k1.trans kk'.up)
/-- a call of a def that draws -/
theorem ev_callS {E' : XK} {s a0 : Addr} (hst : g.st = some (s, a0)) (h : EvA g tl c fun xs => ∃ xs', xs = .ex (.ref s) :: xs' ∧ (∀ x ∈ xs', hot x = false) ∧ pre xs' k (fun _ => False)) : Ev g (tCall (spS pre) [] E' tl) c k := fun N σ H r Q z =>
  h N σ H r _ fun xs us H1 hx0 r1 hx k1 => by
    obtain ⟨xs', rfl, hc, hp⟩ := hx0
    rw [List.append_nil]
    have hc' : ∀ x ∈ Vl.ex (.ref s) :: xs', hot x = false := fun x hx => by
      rcases List.mem_cons.mp hx with rfl | hx
      · rfl
      · exact hc x hx
    refine ⟨g.T, s, a0, _, N, k, fun _ => False, hst ▸ r1.mn, r1.trk, r1.tab, hst ▸ r1.sti, hx.rebase hc', hc', ⟨xs', rfl, hp⟩, fun x v H' kx cx kk si tt hv => ?_, fun ds a ys H' kd => kd.elim⟩
    have kk' : Keep (stM g.st) H1 H' := by rw [hst]; exact kk
    exact z x v H' kx (r1.step kk' (by rw [hst]; exact si) tt) (hv.cold (fun _ _ _ _ e => e) (fun _ q => .inl q) cx) (k1.trans kk')
end
/-- the slots at the entry -/
def ctx0 (n : Nat) (as : List Vl) : Ctx := as.map some ++ List.replicate (n - as.length) none
theorem rep0 {T : List (Addr × Str)} {st : Option (Addr × Addr)} {N : Addr → Prop} {H : Hp} {names : List Str} {vs : List V} {as : List Vl} (hm : ∀ a, stM st a → N a) (ht : ∀ a, N a → ¬ Fr H a) (tb : LamX.Tabs T H) (si : StI st H) (ha : HasA H N H vs as) (hc : ∀ x ∈ as, hot x = false) :
    Rep ⟨T, H, N, st⟩ N (ctx0 names.length as) (L2.start names vs) H := by
  have hl := ha.length
  have cget : ∀ (i : Nat) (x : Vl), (ctx0 names.length as)[i]? = some (some x) → as[i]? = some x := fun i x e => by
    unfold ctx0 at e
    by_cases hi : i < as.length
    · rw [List.getElem?_append_left (by simpa using hi), List.getElem?_map] at e
      cases q : as[i]? with
      | none =>
        rw [q] at e
        cases e
      | some y =>
        rw [q] at e
        cases e
        rfl
    · rw [List.getElem?_append_right (by simpa using hi), List.getElem?_replicate] at e
      split at e <;> cases e
  have get : ∀ {vs : List V} {as : List Vl} {i : Nat} {x : Vl}, HasA H N H vs as → as[i]? = some x → ∃ v, vs[i]? = some v ∧ Has H N H v x := by
    intro vs as i x h
    induction h generalizing i with
    | nil => intro e; simp at e
    | cons h t ih =>
      intro e
      cases i with
      | zero =>
        simp at e
        subst e
        exact ⟨_, rfl, h⟩
      | succ i =>
        obtain ⟨v, h1, h2⟩ := ih (i := i) (by simpa using e)
        exact ⟨v, by simpa using h1, h2⟩
  refine ⟨Keep.refl H, si, tb, fun _ h => h, ht, hm, ht, by simp [L2.start, ctx0, hl], fun i x e => ?_, fun i j x y v _ h1 _ hx _ _ _ => ?_⟩
  · obtain ⟨v, h1, h2⟩ := get ha (cget i x e)
    refine ⟨v, ?_, h2⟩
    have hi := (List.getElem?_eq_some_iff.mp h1).1
    unfold L2.start
    rw [List.getElem?_append_left (by simpa using hi), List.getElem?_map, h1]
    rfl
  · have := hc x (List.mem_of_getElem? (cget i x h1))
    rw [hx] at this
    cases this
/-- THE RULE: a def's body, told by data -/
theorem body {T : List (Addr × Str)} {st : Option (Addr × Addr)} {pre : Pre} {names : List Str} {vs : List V} {H : Hp} {Q : VK} {E : XK} {t : TS} (h : spT T st pre vs H Q E)
    (hb : ∀ (g : G) (as : List Vl) (k : Vl → Prop) (kf : List PyData → Prop), g.T = T → g.st = st → pre as k kf → Se g t (ctx0 names.length as) { nx := fun _ => k (.da .none), rt := k, rf := kf }) :
    t { nx := fun _ H' => Q .non H', rt := Q } (L2.start names vs) H := by
  obtain ⟨as, N, k, kf, hm, ht, tb, si, ha, hc, hp, q1, q2⟩ := h
  refine hb ⟨T, H, N, st⟩ as k kf rfl rfl hp N _ H (rep0 hm ht tb si ha hc) _ ⟨fun c' σ' N' H' e r n => ?_, fun c' σ' N' H' e r n => e.elim, fun c' σ' N' H' e r n => e.elim, fun x v H' kx cx kk si tt hv => q1 x v H' kx cx kk si tt hv, fun ds a xs H' kd kk si tt ha ha' hd => q2 ds a xs H' kd kk si tt ha ha' hd⟩
  exact q1 _ _ H' e rfl r.kp r.sti r.tab Da.non
end Bd

/-! The data layer: lists or tuples walked; isinstance; dicts; facts. -/
namespace Bd
open PySem PySem.Spec PyProof.Rows L2

theorem hu65 {A : Around} {k : Nat} (hr : Room k A) : A.units + 65 < cLine := by
  have := hr.un
  omega
theorem hu64 {A : Around} {k : Nat} (hr : Room k A) : A.units + 64 < cLine := by
  have := hr.un
  omega
/-- a list or a tuple walked -/
def iSeq (K : PySem.W.Frag) (tl : TE) : TI := fun σ H R => tl σ H fun x H1 => ∃ a, x = .ref a ∧ (((∃ xs, SqL K H1 a xs) ∧ R (Itl K a) H1) ∨ ((∃ xs, SqT K H1 a xs) ∧ R (Itt K a) H1))
theorem pi_seq {X : Cx} {tg l : Expr} {tl : TE} (hl : PE X l tl) : PI X tg l (iSeq X.K tl) := by
  refine ⟨fun pins s σ H R I h => thn (hl.run pins s σ H _ I h) fun v s1 w => ?_⟩
  obtain ⟨x, H1, I1, r1, a, rfl, q⟩ := w
  cases r1
  have fp : ∀ b ∈ [s1.heap.objs.size], FpOk X pins H1 b := fun b hb => by
    obtain rfl : b = s1.heap.objs.size := by simpa using hb
    exact I1.fpOk (Nat.le_refl _) (I1.hok.fresh (Nat.le_refl _))
  rcases q with ⟨⟨xs, hq⟩, q⟩ | ⟨⟨xs, hq⟩, q⟩
  · obtain ⟨its, rv, p, hz⟩ := I1.list hq
    exact wpAny_pyIter_list p.isList ⟨_, [_], _, _, H1, rfl, I1.kept (t' := s1.toks) fun b o e => Heap.get?_push_of_some _ e, turn_list a _, ⟨_, Heap.get?_push_size _ rfl, rfl, rfl⟩, fp, q⟩
  · obtain ⟨its, rv, p, hz⟩ := I1.tuple hq
    exact wpAny_pyIter_tuple (show s1.heap.IsTuple a its.toArray from p) ⟨_, [_], _, _, H1, rfl, I1.kept (t' := s1.toks) fun b o e => Heap.get?_push_of_some _ e, turn_tuple a _, ⟨_, Heap.get?_push_size _ rfl, rfl, rfl⟩, fp, q⟩
section
variable {g : G} {c : Ctx} {E : Ed} {k : Vl → Prop} {kf : List PyData → Prop} {ta tb te : TE} {tl : TA} {K : PySem.W.Frag}
theorem ei_seq {k : List PyData → Prop} (h : Ev g te c fun x => ∃ ds, (x = .da (.list ds) ∨ x = .da (.tuple ds)) ∧ k ds) : EvI g (iSeq K te) c k := fun N σ H r R z =>
  h N σ H r _ fun x v H1 ⟨ds, e, kd⟩ r1 hx k1 => by
    rcases e with rfl | rfl
    · obtain ⟨a, xs, rfl, na, ha, hd⟩ := Da.lst' hx
      refine ⟨a, rfl, .inl ⟨⟨xs, SqL.of ha⟩, z _ H1 ds kd r1 k1 ⟨fun N' H' n tr i d e => ?_, fun N' H' n => ⟨xs, SqL.of (n.kp.lst na ha), by rw [hd.length]; exact Nat.le_refl _⟩⟩⟩⟩
      obtain ⟨w, h1, h2⟩ := hd.get e
      have ha' := n.kp.lst na ha
      refine ⟨⟨xs, w, SqL.of ha', h1⟩, fun x H'' y => ?_⟩
      obtain ⟨rfl, y⟩ := y
      have e2 := (y xs (SqL.of ha')).symm.trans h1
      cases e2
      exact ⟨fun _ _ e => e, n.da h2⟩
    · obtain ⟨a, xs, rfl, na, ha, hd⟩ := Da.tup' hx
      refine ⟨a, rfl, .inr ⟨⟨xs, SqT.of ha⟩, z _ H1 ds kd r1 k1 ⟨fun N' H' n tr i d e => ?_, fun N' H' n => ⟨xs, SqT.of (n.kp.tup na ha), by rw [hd.length]; exact Nat.le_refl _⟩⟩⟩⟩
      obtain ⟨w, h1, h2⟩ := hd.get e
      have ha' := n.kp.tup na ha
      refine ⟨⟨xs, w, SqT.of ha', h1⟩, fun x H'' y => ?_⟩
      obtain ⟨rfl, y⟩ := y
      have e2 := (y xs (SqT.of ha')).symm.trans h1
      cases e2
      exact ⟨fun _ _ e => e, n.da h2⟩
theorem ei_seqF {k : List PyData → Prop} (h : Ev g te c fun x => ∃ ns : List Str, x = .da (ftD ns) ∧ k (ns.map .str)) : EvI g (iSeq K te) c k := fun N σ H r R z =>
  h N σ H r _ fun x v H1 ⟨ns, e, kd⟩ r1 hx k1 => by
    subst e
    obtain ⟨a, o, rfl, na, ha, _⟩ := Da.ft' hx rfl
    have hd : DaA N H1 (ns.map V.str) (ns.map .str) := DaA.of_strs ns
    have keepF : ∀ N' H', Nx N H1 N' H' → SqT K H' a (ns.map V.str) := fun N' H' n => .inl (.inr ⟨o, n.kp.ob a _ na (by intro _ q; cases q) ha⟩)
    refine ⟨a, rfl, .inr ⟨⟨_, keepF N H1 (Nx.refl N H1)⟩, z _ H1 _ kd r1 k1 ⟨fun N' H' n tr i d e => ?_, fun N' H' n => ⟨_, keepF N' H' n, by simp⟩⟩⟩⟩
    obtain ⟨w, h1, h2⟩ := hd.get e
    have hs := keepF N' H' n
    refine ⟨⟨_, w, hs, h1⟩, fun x H'' y => ?_⟩
    obtain ⟨rfl, y⟩ := y
    have e2 := (y _ hs).symm.trans h1
    cases e2
    exact ⟨fun _ _ e => e, n.da h2⟩
/-! ### isinstance -/
def tyN : PyData → String
  | .none => "NoneType"
  | .bool _ => "bool"
  | .int _ => "int"
  | .str _ => "str"
  | .list _ => "list"
  | .tuple _ => "tuple"
  | .dict _ => "dict"
theorem Da.tyx {N : Addr → Prop} {H : Hp} {v : V} {d : PyData} (h : Da N H v d) (c : clean d = true) : TyX K H v (.type (tyN d)) := by
  cases h with
  | non => exact .base .non
  | bl b => exact .base (.bl b)
  | int i => exact .base (.int i)
  | str x => exact .base (.str x)
  | lst h1 h2 h3 => exact .base (.lst h2)
  | tup h1 h2 h3 => exact .base (.tup h2)
  | any v => cases c
  | ft _ _ _ => cases c
theorem cb_isi {d : PyData} {n : String} {b : Bool} (c : clean d = true) (hb : kitB (tyN d) n = some b) (q : k (.da (.bool b))) : Cb (rIsi K) [.da d, .ex (.ty n)] k := fun H0 N H us hx Q z => by
  obtain ⟨v, w, rfl, hv, hw⟩ := hx.two
  have hw' : w = .ty n := hw
  subst hw'
  exact ⟨v, .ty n, .type (tyN d), .type n, b, rfl, .ty n, Da.tyx hv c, kit_ty hb, z _ _ q (Da.bl _)⟩
/-- isinstance(x, (a, b)) -/
theorem ev_isi2 {n m : String} (h : Ev g ta c fun x => ∃ d b1 b2, x = .da d ∧ clean d = true ∧ kitB (tyN d) n = some b1 ∧ kitB (tyN d) m = some b2 ∧ k (.da (.bool (b1 || b2)))) :
    Ev g (tCB (rIsiT K) (tCons ta (tCons (tTup (tCons (tC (.ty n)) (tCons (tC (.ty m)) tNil))) tNil))) c k := fun N σ H r Q z =>
  h N σ H r _ fun x v H1 ⟨d, b1, b2, e, hc, h1, h2, kd⟩ r1 hx k1 => by
    subst e
    refine ⟨by show 2 ≤ sizeLine; decide, fun p hp => ⟨v, p, [.ty n, .ty m], .type (tyN d), [.type n, .type m], b1 || b2, rfl, upd_same, .cons (.ty n) (.cons (.ty m) .nil), ?_, ?_, z _ _ _ kd (r1.new hp) (Da.bl _) (k1.trans (Keep.new hp))⟩⟩
    · exact Da.tyx (Da.keep hx (M := no0) (Keep.new hp) fun _ q => q.elim) hc
    · have e1 : PySem.W.kitOne K (.type (tyN d)) (.type n) = some b1 := kit_ty h1
      have e2 : PySem.W.kitOne K (.type (tyN d)) (.type m) = some b2 := kit_ty h2
      cases b1 with
      | true => simp [PySem.W.kitAny, e1]
      | false => cases b2 <;> simp [PySem.W.kitAny, e1, e2]
end
/-! ### facts of the text's module -/
/-- a def as its callers know it -/
structure Cal (P : Program) (w : World) (K : PySem.W.Frag) (mg : Str → Option Value) (base : Heap) (k : Nat) (x : Str) (ps : List Str) (sp : Sp) : Prop where
  ex : ∃ f fd, FnOk P w K mg base CX0 k f fd ps sp ∧ mg x = some (.ref f) ∧ PySem.W.keepIn K (.ref f) = true ∧ Binds K fd ps []
/-- the built-ins' names are not the module's -/
structure Bt (mg : Str → Option Value) : Prop where
  len_ : mg "len" = none
  int_ : mg "int" = none
  str_ : mg "str" = none
  bool_ : mg "bool" = none
  list_ : mg "list" = none
  tuple_ : mg "tuple" = none
  range_ : mg "range" = none
  enumerate_ : mg "enumerate" = none
  zip_ : mg "zip" = none
  sorted_ : mg "sorted" = none
  isinstance_ : mg "isinstance" = none
  all_ : mg "all" = none
  any_ : mg "any" = none
end Bd

/-! The rules that name the fragment, the fragment given. -/
namespace Bd
open PySem PySem.Spec PyProof.Rows L2
section
variable {X : Cx} (K : PySem.W.Frag) (hK : X.K = K)
include hK
theorem k_in : OpR X (compareOp .In) (rIn K false) := hK ▸ op_in_seq
theorem k_notIn : OpR X (compareOp .NotIn) (rIn K true) := hK ▸ op_notIn_seq
theorem k_inD (hu : X.A.units + 65 < cLine) : OpR X (compareOp .In) (rInD K) := hK ▸ L2.op_inD hu
theorem k_notInD (hu : X.A.units + 65 < cLine) : OpR X (compareOp .NotIn) (rNotInD K) := hK ▸ L2.op_notInD hu
theorem k_eqD (hu : X.A.units + 64 < cLine) : OpR X (compareOp .Eq) (rEqD K) := hK ▸ op_eqD hu
theorem k_neD (hu : X.A.units + 64 < cLine) : OpR X (compareOp .NotEq) (rNeD K) := hK ▸ op_neD hu
theorem k_ixL : IxR X (rIxL K) := hK ▸ ix_list
theorem k_ixT : IxR X (rIxT K) := hK ▸ ix_tup
theorem k_ix : IxR X (rIx K) := hK ▸ ix_seq
theorem k_slL : SlR X (rSlL K) := hK ▸ sl_list
theorem k_slT : SlR X (rSlT K) := hK ▸ sl_tup
theorem k_len : CallR X (.builtin "len") (fun xs H Q => ∃ p ys, xs = [.ref p] ∧ (SqL K H p ys ∨ SqT K H p ys) ∧ Q (.int ys.length) H) := hK ▸ call_len_seq
theorem k_list : CallR X (.type "list") (fun xs H Q => ∃ p ys, xs = [.ref p] ∧ (SqL K H p ys ∨ SqT K H p ys) ∧ ∀ l, H l = none → Q (.ref l) (upd H l (.lst ys))) := hK ▸ call_list_of
theorem k_all (hc : X.calm = true) : CallR X (.builtin "all") (rAll K) := hK ▸ cr_all hc
theorem k_any (hc : X.calm = true) : CallR X (.builtin "any") (rAny K) := hK ▸ cr_any hc
theorem k_sorted (β : Type) (hu : X.A.units + 64 < cLine) : CallR X (.builtin "sorted") (Bs.rSortV K β) := hK ▸ Bs.cr_sortV hu
theorem k_isi : CallR X (.builtin "isinstance") (rIsi K) := hK ▸ call_isi
theorem k_isiT : CallR X (.builtin "isinstance") (rIsiT K) := hK ▸ call_isiT
theorem k_join : MtR X "str.join" (fun x xs H Q => ∃ a p, ∃ ys : List Str, x = .str a ∧ xs = [.ref p] ∧ (SqL K H p (ys.map V.str) ∨ SqT K H p (ys.map V.str)) ∧ (ys.map (·.length)).sum + ys.length * a.length ≤ 16777216 ∧ Q (.str (Txt.join a ys)) H) := hK ▸ mt_join
theorem k_index (hu : X.A.units + 65 < cLine) : MtR X "list.index" (rIndexD K) := hK ▸ mt_indexD hu
def rTupIx (K : PySem.W.Frag) : V → List V → Hp → VK → Prop := fun x xs H Q => ∃ p, ∃ ys : List Str, ∃ z j, x = .ref p ∧ xs = [.str z] ∧ SqT K H p (ys.map V.str) ∧ ys[j]? = some z ∧ (∀ m, m < j → ys[m]? ≠ some z) ∧ Q (.int (j : Nat)) H
theorem k_tupIndex : MtR X "tuple.index" (rTupIx K) := hK ▸ mt_tup_index
variable {l o e : Expr} {es : List Expr} {tl te to : TE} {t : TA} {tg : Expr} {name f : Str} {apos cpos p pos tpos : Pos} {T id : String} {r : V → List V → Hp → VK → Prop}
theorem k_fld (he : PE X e te) (hb : attributeBase e f X.env (eval e X.env) = eval e X.env := by rfl) : PE X (.Attribute e f pos) (tFld K te f) := hK ▸ pe_fld he hb
theorem k_seq (hl : PE X l tl) : PI X tg l (iSeq K tl) := hK ▸ pi_seq hl
theorem k_enum {elts : List Expr} {kk : Nat} (hg : Gl X "enumerate") (hm : X.mg "enumerate" = none) (ha : PA X [e] t) (hs : starEach [e] X.env = [(false, eval e X.env)] := by rfl) : PI X (.Tuple elts kk tpos) (.Call (.Name "enumerate" p) [e] [] pos) (iEnum K t) := hK ▸ pi_enum hg hm ha hs
theorem k_enumT {elts : List Expr} {kk : Nat} (hg : Gl X "enumerate") (hm : X.mg "enumerate" = none) (ha : PA X [e] t) (hs : starEach [e] X.env = [(false, eval e X.env)] := by rfl) : PI X (.Tuple elts kk tpos) (.Call (.Name "enumerate" p) [e] [] pos) (Bs.iEnumT K t) := hK ▸ Bs.pi_enumT hg hm ha hs
theorem k_zipS {e2 : Expr} {elts : List Expr} {kk : Nat} (hg : Gl X "zip") (hm : X.mg "zip" = none) (ha : PA X [e, e2] t) (hs : starEach [e, e2] X.env = (false, eval e X.env) :: starEach [e2] X.env := by rfl) (hpl : (backTo pos (starEach [e2] X.env)).any (·.1) = false := by rfl) :
    PI X (.Tuple elts kk tpos) (.Call (.Name "zip" p) [e, e2] [] pos) (Bs.iZipS K t) := hK ▸ Bs.pi_zipS hg hm ha hs hpl
theorem k_tupleOf (hg : Gl X "tuple") (hm : X.mg "tuple" = none) (ha : PE X e te) (na : starEach [e] X.env = (false, eval e X.env) :: starEach [] X.env := by rfl) : PE X (.Call (.Name "tuple" p) [e] [] pos) (tThen te (kTup K)) := hK ▸ pe_tupleOf hg hm ha na
theorem k_pgTup {k n : Nat} {gs : TGs} (hc : X.calm = true) (h : PGs X es gs) (hn : (assignEach es X.env).length = n := by rfl) (hst : (assignEach es X.env).findIdx? (·.1) = none := by rfl) : PG X (.Tuple es k pos) (gTup K n gs) := hK ▸ pg_tup hc h hn hst
theorem k_star (he : PE X e te) (hr : PA X es t) (hs : starEach (.Starred e p :: es) X.env = (true, eval e X.env) :: starEach es X.env := by rfl) : PA X (.Starred e p :: es) (StX.tStar K te t) := hK ▸ StX.pa_star he hr hs
theorem k_bm (pa : PlainAttrs T) (slot : Slot T name id) (hty : typeOf (.builtin id) = pure (.type "method_descriptor")) (hm : MtR X id r) (ho : PE X o to) (ha : PA X (e :: es) t) (hbase : attributeBase o name X.env (eval o X.env) = eval o X.env := by rfl)
    (hfew : ((backTo cpos (starEach (e :: es) X.env)).all (fun x => !x.1) && (backToKw cpos (keywordEach [] X.env)).all (fun x => x.1.isSome) && decide ((e :: es).length + ([] : List Keyword).length + (if ([] : List Keyword).isEmpty then 0 else 1) < 30)) = true := by rfl)
    (hline : (apos.endLine == cpos.line) = true := by rfl) (hs : starEach (e :: es) X.env = (false, eval e X.env) :: starEach es X.env := by rfl) (hplain : (backTo cpos (starEach es X.env)).any (·.1) = false := by rfl) :
    PE X (.Call (.Attribute o name apos) (e :: es) [] cpos) (tBM K T r to t) := hK ▸ pe_bm pa slot hty hm ho ha hbase hfew hline hs hplain
end
/-! ### t.index(x) of a tuple that has no dict; tuple(xs) made so -/
section
variable {X : Cx} {e o : Expr} {te to : TE} {apos cpos p pos : Pos}
/-- t.index(x): t a tuple of texts whose object is known -/
def tTI (K : PySem.W.Frag) (to te : TE) : TE := fun σ H Q => to σ H fun x H1 => (∃ a ob ys, x = V.ref a ∧ H1 a = some (.frz ob (.tup ys)) ∧ ob.dict = none) ∧ te σ H1 fun y H2 => rTupIx K x [y] H2 Q
theorem pe_tupIndex (ho : PE X o to) (ha : PE X e te) (hbase : attributeBase o "index" X.env (eval o X.env) = eval o X.env := by rfl)
    (hfew : ((backTo cpos (starEach [e] X.env)).all (fun x => !x.1) && (backToKw cpos (keywordEach [] X.env)).all (fun x => x.1.isSome) && decide (([e] : List Expr).length + ([] : List Keyword).length + (if ([] : List Keyword).isEmpty then 0 else 1) < 30)) = true := by rfl)
    (hline : (apos.endLine == cpos.line) = true := by rfl) (hs : starEach [e] X.env = (false, eval e X.env) :: starEach [] X.env := by rfl) : PE X (.Call (.Attribute o "index" apos) [e] [] cpos) (tTI X.K to te) := by
  refine ⟨fun pins s σ H Q I h => wpAny_Call_method_late hbase hfew hline rfl (thn (ho.run pins s σ H _ I h) fun v s1 w => ?_)⟩
  obtain ⟨x, H1, I1, r1, ⟨a, ob, ys, ex, ea, hdn⟩, q1⟩ := w
  subst ex
  cases r1
  obtain ⟨e1, hz, its, rv, tp⟩ := I1.hok a _ ea
  obtain ⟨o2, e2, c2, _⟩ := id tp
  rw [e1] at e2
  cases e2
  refine ⟨"tuple", "tuple.index", PySem.F.plainAttrs_tuple, PySem.F.slot_tuple_index, PySem.F.type_tuple_index, ⟨_, e1, c2⟩, fun b eb => by cases eb; exact ⟨_, e1, hdn⟩, ?_⟩
  have hA := (pa_cons ha pa_nil hs).run cpos pins s1 σ H1 (fun xs H2 => rTupIx X.K (.ref a) xs H2 Q) I1 q1
  rw [hs] at hA ⊢
  refine Calls.callWith_builtin (by rfl) (Calls.evalArgs_plain (thn hA fun us s2 w => ?_))
  obtain ⟨vs, H2, I2, r2, q2⟩ := w
  exact mt_tup_index pins s2 σ H2 (.ref a) vs (.ref a) us Q I2 rfl r2 q2
end
section
variable {X : Cx} (K : PySem.W.Frag) (hK : X.K = K) {e o : Expr} {te to : TE} {apos cpos p pos : Pos}
include hK
theorem k_tupIdx (ho : PE X o to) (ha : PE X e te) (hbase : attributeBase o "index" X.env (eval o X.env) = eval o X.env := by rfl)
    (hfew : ((backTo cpos (starEach [e] X.env)).all (fun x => !x.1) && (backToKw cpos (keywordEach [] X.env)).all (fun x => x.1.isSome) && decide (([e] : List Expr).length + ([] : List Keyword).length + (if ([] : List Keyword).isEmpty then 0 else 1) < 30)) = true := by rfl)
    (hline : (apos.endLine == cpos.line) = true := by rfl) (hs : starEach [e] X.env = (false, eval e X.env) :: starEach [] X.env := by rfl) : PE X (.Call (.Attribute o "index" apos) [e] [] cpos) (tTI K to te) := hK ▸ pe_tupIndex ho ha hbase hfew hline hs
end
section
variable {g : G} {c : Ctx} {k : Vl → Prop} {to te : TE} {K : PySem.W.Frag}
theorem ev_tupIdx (h : Ev g to c fun x => ∃ ns : List Str, x = .da (ftD ns) ∧ Ev g te c fun y => ∃ n : Str, y = .da (.str n) ∧ n ∈ ns ∧ k (.da (.int ((ns.idxOf n : Nat) : Int)))) : Ev g (tTI K to te) c k := fun N σ H r Q z =>
  h N σ H r _ fun x v H1 w r1 hx k1 => by
    obtain ⟨ns, rfl, h1⟩ := w
    obtain ⟨a, o, rfl, na, ha, hdn⟩ := Da.ft' hx rfl
    refine ⟨⟨a, o, _, rfl, ha, hdn⟩, h1 N σ H1 r1 _ fun y u H2 w r2 hy k2 => ?_⟩
    obtain ⟨n, rfl, hn, kd⟩ := w
    have ha2 : H2 a = some (.frz o (.tup (ns.map V.str))) := k2.ob a _ (fun q => na (r1.mn a q)) (by intro _ q; cases q) ha
    have hl : ns.idxOf n < ns.length := List.idxOf_lt_length_iff.mpr hn
    have hg : ns[ns.idxOf n]? = some n := by rw [List.getElem?_eq_getElem hl, List.getElem_idxOf]
    refine ⟨a, ns, n, ns.idxOf n, rfl, by rw [Da.str' hy], .inl (.inr ⟨o, ha2⟩), hg, fun m hm hm2 => ?_, z _ _ H2 kd r2 (Da.int _) (k1.trans k2)⟩
    obtain ⟨h5, h6⟩ := List.getElem?_eq_some_iff.mp hm2
    have h7 := List.not_of_lt_findIdx (xs := ns) (p := fun x => x == n) (i := m) hm
    rw [h6] at h7
    simp at h7
end
end Bd

/-! The data layer: dicts, instances, sorted with a key. -/
namespace Bd
open PySem PySem.Spec PyProof.Rows L2
section
variable {κ : Type} [DecidableEq κ]
def valD (kvs : List (κ × PyData)) (k : κ) : Option PyData := (kvs.find? fun kv => decide (kv.1 = k)).map (·.2)
theorem valD_val {N : Addr → Prop} {H : Hp} {k : κ} : ∀ {ws : List (κ × V)} {kvs : List (κ × PyData)}, ws.map (·.1) = kvs.map (·.1) → DaA N H (ws.map (·.2)) (kvs.map (·.2)) →
    (valD kvs k = none → valV ws k = none) ∧ ∀ d, valD kvs k = some d → ∃ v, valV ws k = some v ∧ Da N H v d
  | [], [], _, _ => ⟨fun _ => rfl, fun d e => nomatch e⟩
  | [], _ :: _, e, _ => nomatch e
  | _ :: _, [], e, _ => nomatch e
  | (k1, v) :: ws, (k2, d) :: kvs, e, h => by
    have ek : k1 = k2 := (List.cons.inj e).1
    subst ek
    have h2 : DaA N H (v :: ws.map (·.2)) (d :: kvs.map (·.2)) := h
    cases h2 with
    | cons h3 h4 =>
      obtain ⟨i1, i2⟩ := valD_val (k := k) (List.cons.inj e).2 h4
      by_cases q : k1 = k
      · subst q
        simp only [valD, valV, List.find?_cons, decide_true, Option.map_some]
        exact ⟨(fun z => nomatch z), fun d' z => by cases z; exact ⟨v, rfl, h3⟩⟩
      · simp only [valD, valV, List.find?_cons, decide_eq_false q]
        exact ⟨i1, i2⟩
theorem putK_new {ws : List (κ × V)} {k : κ} {v : V} (h : valV ws k = none) : putK ws k v = ws ++ [(k, v)] := by
  unfold putK
  rw [valV_any, h]
  rfl
end
theorem isSome_valD {κ : Type} [DecidableEq κ] {N : Addr → Prop} {H : Hp} {n : κ} {ws : List (κ × V)} {kvs : List (κ × PyData)} (hk : ws.map (·.1) = kvs.map (·.1)) (hd : DaA N H (ws.map (·.2)) (kvs.map (·.2))) : (valV ws n).isSome = (valD kvs n).isSome := by
  obtain ⟨i1, i2⟩ := valD_val (k := n) hk hd
  cases q : valD kvs n with
  | none =>
    rw [i1 q]
    rfl
  | some d =>
    obtain ⟨v, h3, _⟩ := i2 d q
    rw [h3]
    rfl
def keyD : Key → PyData
  | .inl i => .int i
  | .inr s => .str s
def keyT (k : List Key) : PyData := .tuple (k.map keyD)
theorem DaA.keys {N : Addr → Prop} {H : Hp} : ∀ {vs : List V} {k : List Key}, DaA N H vs (k.map keyD) → vs = k.map kV
  | _, [], .nil => rfl
  | _, .inl i :: k, .cons (.int _) t => congrArg _ (DaA.keys t)
  | _, .inr i :: k, .cons (.str _) t => congrArg _ (DaA.keys t)
section
variable {g : G} {c : Ctx} {E : Ed} {k : Vl → Prop} {kf : List PyData → Prop} {ta tb te tk tv : TE} {tl : TA} {K : PySem.W.Frag}
/-! ### dicts with int keys -/
theorem ev_getK {i : Nat} {kvs : List (Key × PyData)} (e : c[i]? = some (some (.dk kvs))) (h : Ev g te c fun x => ∃ (n : Int) (d : PyData), x = .da (.int n) ∧ valD kvs (.inl n) = some d ∧ k (.da d)) : Ev g (tDGet (tVar i) te) c k := fun N σ H r Q z => by
  obtain ⟨v, h1, a, ws, e1, na, fa, ha, hk, hd⟩ := r.sl i _ e
  subst e1
  refine ⟨_, h1, h N σ H r _ fun x w H1 hx0 r1 hx k1 => ?_⟩
  obtain ⟨n, d, rfl, hv, kd⟩ := hx0
  have nm : ¬ stM g.st a := fun q => (r.m0 a q).2 fa
  have ha1 : H1 a = some (.dK ws) := k1.ob a _ nm (by intro _ q; cases q) ha
  obtain ⟨v, h3, h4⟩ := (valD_val hk (hd.keep k1 r.mn)).2 d hv
  exact ⟨a, v, rfl, .inl ⟨ws, .inl n, .inl ha1, Da.int' hx, h3.symm⟩, z _ _ H1 kd r1 h4 k1⟩
theorem ev_ninK {i : Nat} {kvs : List (Key × PyData)} (e : c[i]? = some (some (.dk kvs))) (h : Ev g te c fun x => ∃ (n : Int), x = .da (.int n) ∧ k (.da (.bool (!(valD kvs (.inl n)).isSome)))) : Ev g (tDNotIn te (tVar i)) c k := fun N σ H r Q z =>
  h N σ H r _ fun x w H1 hx0 r1 hx k1 => by
    obtain ⟨n, rfl, kd⟩ := hx0
    obtain ⟨v, h1, a, ws, e1, na, fa, ha, hk, hd⟩ := r1.sl i _ e
    subst e1
    refine ⟨_, h1, a, valV ws (.inl n), rfl, .inl ⟨ws, .inl n, .inl ha, Da.int' hx, rfl⟩, ?_⟩
    rw [isSome_valD hk hd]
    exact z _ _ H1 kd r1 (Da.bl _) k1
theorem se_putK {i : Nat} {kvs : List (Key × PyData)} (e : c[i]? = some (some (.dk kvs))) (h : Ev g tv c fun y => ∃ d, y = .da d ∧ Ev g tk c fun x => ∃ n : Int, x = .da (.int n) ∧ valD kvs (.inl n) = none ∧ kvs.length < 100000 ∧ E.nx (c.set i (some (.dk (kvs ++ [(.inl n, d)]))))) :
    Se g (sDPut (tVar i) tk tv) c E := fun N σ H r D z =>
  h N σ H r _ fun y w H1 hy0 r1 hy k1 => by
    obtain ⟨d, rfl, hx⟩ := hy0
    obtain ⟨v, h1, a, ws, e1, na, fa, ha, hk, hd⟩ := r1.sl i _ e
    subst e1
    refine ⟨_, h1, hx N σ H1 r1 _ fun x u H2 hx0 r2 hx k2 => ?_⟩
    obtain ⟨n, rfl, hn, hl, kd⟩ := hx0
    have nm : ¬ stM g.st a := fun q => (r.m0 a q).2 fa
    have ha2 : H2 a = some (.dK ws) := k2.ob a _ nm (by intro _ q; cases q) ha
    have hd2 := hd.keep k2 r1.mn
    have hy2 : Da N H2 w d := Da.keep hy k2 r1.mn
    have lw : ws.length = kvs.length := by simpa using congrArg List.length hk
    refine ⟨a, _, rfl, .inl ⟨ws, .inl n, ha2, Da.int' hx, Nat.lt_of_lt_of_le (by rw [lw]; exact hl) (by decide), rfl⟩, ?_⟩
    rw [putK_new ((valD_val hk hd2).1 hn)]
    refine z.nx _ _ N _ kd (r2.mutHot e h1 rfl (tabs_mutK r2.tab ha2) ⟨a, _, rfl, na, fa, upd_same, by rw [List.map_append, List.map_append, hk]; rfl, ?_⟩) ((Nx.keep (k1.trans k2) r.mn).trans ⟨fun _ h => .inl h, Keep.mut na⟩)
    rw [List.map_append, List.map_append]
    exact (hd2.app (.cons hy2 .nil)).mono (fun b o n _ q => (upd_ne (fun z => n (by rw [z]; exact na))).trans q) fun b q => .inl q
/-- {n: v} -/
theorem se_disK {i : Nat} (h : Ev g tk c fun x => ∃ n : Int, x = .da (.int n) ∧ Ev g tv c fun y => ∃ d, y = .da d ∧ E.nx (c.set i (some (.dk [(.inl n, d)])))) : Se g (tAsg (tDisp [(tk, tv)]) (gName i)) c E := fun N σ H r D z p hp => by
  have rD : Rep g (fun b => N b ∨ b = p) c σ (upd H p (.dK [])) := r.own (Keep.new hp) (r.new hp).sti (r.new hp).tab (.none hp) (nFr upd_same)
  refine h _ σ _ rD _ fun x u H1 hx0 r1 hx k1 => ?_
  obtain ⟨n, rfl, hv⟩ := hx0
  refine hv _ σ _ r1 _ fun y w H2 hy0 r2 hy k2 => ?_
  obtain ⟨d, rfl, kd⟩ := hy0
  have fp : Fr g.H0 p := r.not0 (.none hp)
  have nm : ¬ stM g.st p := fun q => (r.m0 p q).2 fp
  have hp2 : H2 p = some (.dK []) := (k1.trans k2).ob p _ nm (by intro _ q; cases q) upd_same
  refine ⟨hp2, [(.inl n, w)], by rw [Da.int' (Da.keep hx k2 r1.mn)]; rfl, by show 1 ≤ 15; decide, ?_⟩
  have kk : Keep (fun b => stM g.st b ∨ b = p) H (upd H2 p (.dK [(.inl n, w)])) := (((Keep.new hp).trans (k1.trans k2)).wide fun _ q => .inl q).trans (Keep.mut (.inr rfl))
  have kM : Keep (stM g.st) H (upd H2 p (.dK [(.inl n, w)])) := ⟨fun a o hm ht e => kk.ob a o (fun q => q.elim hm fun q => by rw [q, hp] at e; cases e) ht e, kk.dm⟩
  have e0 : mergeK [] [(.inl n, w)] = [(Sum.inl n, w)] := rfl
  rw [e0]
  refine z.nx _ _ (fun b => N b ∨ b = p) _ kd (r.setHot kM (r2.sti.keepM (M := fun b => b = p) (Keep.mut rfl) fun b q e => nm (e ▸ q)) (tabs_mutK r2.tab hp2) (.none hp) (nFr upd_same) ⟨p, _, rfl, .inr rfl, fp, upd_same, rfl, ?_⟩) ⟨fun b q => q.imp_right fun q => by rw [q]; exact .none hp, kM.wide r.mn⟩
  exact .cons ((show Da _ H2 w d from hy).mono (fun b o n _ q => (upd_ne (fun z => n (.inr z))).trans q) fun b q => .inl q) .nil
/-! ### dicts with tuples for keys -/
theorem ev_getT {i : Nat} {kvs : List (List Key × PyData)} (e : c[i]? = some (some (.dt kvs))) (h : Ev g te c fun x => ∃ (n : List Key) (d : PyData), x = .da (keyT n) ∧ valD kvs n = some d ∧ k (.da d)) : Ev g (tDGet (tVar i) te) c k := fun N σ H r Q z => by
  obtain ⟨v, h1, a, ws, e1, na, fa, ha, hk, hd⟩ := r.sl i _ e
  subst e1
  refine ⟨_, h1, h N σ H r _ fun x w H1 hx0 r1 hx k1 => ?_⟩
  obtain ⟨n, d, rfl, hv, kd⟩ := hx0
  have nm : ¬ stM g.st a := fun q => (r.m0 a q).2 fa
  have ha1 : H1 a = some (.dT ws) := k1.ob a _ nm (by intro _ q; cases q) ha
  obtain ⟨v, h3, h4⟩ := (valD_val hk (hd.keep k1 r.mn)).2 d hv
  obtain ⟨b, xs, rfl, _, hb, hx2⟩ := Da.tup' hx
  have hx3 := hx2.keys
  subst hx3
  exact ⟨a, v, rfl, .inr ⟨ws, n, b, .inl ha1, rfl, hb, h3.symm⟩, z _ _ H1 kd r1 h4 k1⟩
theorem ev_ninT {i : Nat} {kvs : List (List Key × PyData)} (e : c[i]? = some (some (.dt kvs))) (h : Ev g te c fun x => ∃ (n : List Key), x = .da (keyT n) ∧ k (.da (.bool (!(valD kvs n).isSome)))) : Ev g (tDNotIn te (tVar i)) c k := fun N σ H r Q z =>
  h N σ H r _ fun x w H1 hx0 r1 hx k1 => by
    obtain ⟨n, rfl, kd⟩ := hx0
    obtain ⟨v, h1, a, ws, e1, na, fa, ha, hk, hd⟩ := r1.sl i _ e
    subst e1
    obtain ⟨b, xs, rfl, _, hb, hx2⟩ := Da.tup' hx
    have hx3 := hx2.keys
    subst hx3
    refine ⟨_, h1, a, valV ws n, rfl, .inr ⟨ws, n, b, .inl ha, rfl, hb, rfl⟩, ?_⟩
    rw [isSome_valD hk hd]
    exact z _ _ H1 kd r1 (Da.bl _) k1
theorem se_putT {i : Nat} {kvs : List (List Key × PyData)} (e : c[i]? = some (some (.dt kvs))) (h : Ev g tv c fun y => ∃ d, y = .da d ∧ Ev g tk c fun x => ∃ n : List Key, x = .da (keyT n) ∧ valD kvs n = none ∧ kvs.length < 100000 ∧ E.nx (c.set i (some (.dt (kvs ++ [(n, d)]))))) :
    Se g (sDPut (tVar i) tk tv) c E := fun N σ H r D z =>
  h N σ H r _ fun y w H1 hy0 r1 hy k1 => by
    obtain ⟨d, rfl, hx⟩ := hy0
    obtain ⟨v, h1, a, ws, e1, na, fa, ha, hk, hd⟩ := r1.sl i _ e
    subst e1
    refine ⟨_, h1, hx N σ H1 r1 _ fun x u H2 hx0 r2 hx k2 => ?_⟩
    obtain ⟨n, rfl, hn, hl, kd⟩ := hx0
    have nm : ¬ stM g.st a := fun q => (r.m0 a q).2 fa
    have ha2 : H2 a = some (.dT ws) := k2.ob a _ nm (by intro _ q; cases q) ha
    have hd2 := hd.keep k2 r1.mn
    have hy2 : Da N H2 w d := Da.keep hy k2 r1.mn
    have lw : ws.length = kvs.length := by simpa using congrArg List.length hk
    obtain ⟨b, xs, rfl, _, hb, hx2⟩ := Da.tup' hx
    have hx3 := hx2.keys
    subst hx3
    refine ⟨a, _, rfl, .inr ⟨ws, n, b, ha2, rfl, hb, Nat.lt_of_lt_of_le (by rw [lw]; exact hl) (by decide), rfl⟩, ?_⟩
    rw [putK_new ((valD_val hk hd2).1 hn)]
    refine z.nx _ _ N _ kd (r2.mutHot e h1 rfl (tabs_mutT r2.tab ha2) ⟨a, _, rfl, na, fa, upd_same, by rw [List.map_append, List.map_append, hk]; rfl, ?_⟩) ((Nx.keep (k1.trans k2) r.mn).trans ⟨fun _ h => .inl h, Keep.mut na⟩)
    rw [List.map_append, List.map_append]
    exact (hd2.app (.cons hy2 .nil)).mono (fun b o n _ q => (upd_ne (fun z => n (by rw [z]; exact na))).trans q) fun b q => .inl q
/-- {(a, b): v} -/
theorem se_disT {i : Nat} (h : Ev g tk c fun x => ∃ n : List Key, x = .da (keyT n) ∧ Ev g tv c fun y => ∃ d, y = .da d ∧ E.nx (c.set i (some (.dt [(n, d)])))) : Se g (tAsg (Bs.tDisT tk tv) (gName i)) c E := fun N σ H r D z p hp => by
  have rD : Rep g (fun b => N b ∨ b = p) c σ (upd H p (.dT [])) := r.own (Keep.new hp) (r.new hp).sti (r.new hp).tab (.none hp) (nFr upd_same)
  refine h _ σ _ rD _ fun x u H1 hx0 r1 hx k1 => ?_
  obtain ⟨n, rfl, hv⟩ := hx0
  refine hv _ σ _ r1 _ fun y w H2 hy0 r2 hy k2 => ?_
  obtain ⟨d, rfl, kd⟩ := hy0
  have fp : Fr g.H0 p := r.not0 (.none hp)
  have nm : ¬ stM g.st p := fun q => (r.m0 p q).2 fp
  have hp2 : H2 p = some (.dT []) := (k1.trans k2).ob p _ nm (by intro _ q; cases q) upd_same
  obtain ⟨b, xs, rfl, nb, hb, hx2⟩ := Da.tup' (Da.keep hx k2 r1.mn)
  have hx3 := hx2.keys
  subst hx3
  refine ⟨b, n, rfl, hb, hp2, ?_⟩
  have kk : Keep (fun b => stM g.st b ∨ b = p) H (upd H2 p (.dT [(n, w)])) := (((Keep.new hp).trans (k1.trans k2)).wide fun _ q => .inl q).trans (Keep.mut (.inr rfl))
  have kM : Keep (stM g.st) H (upd H2 p (.dT [(n, w)])) := ⟨fun a o hm ht e => kk.ob a o (fun q => q.elim hm fun q => by rw [q, hp] at e; cases e) ht e, kk.dm⟩
  refine z.nx _ _ (fun b => N b ∨ b = p) _ kd (r.setHot kM (r2.sti.keepM (M := fun b => b = p) (Keep.mut rfl) fun b q e => nm (e ▸ q)) (tabs_mutT r2.tab hp2) (.none hp) (nFr upd_same) ⟨p, _, rfl, .inr rfl, fp, upd_same, rfl, ?_⟩) ⟨fun b q => q.imp_right fun q => by rw [q]; exact .none hp, kM.wide r.mn⟩
  exact .cons ((show Da _ H2 w d from hy).mono (fun b o n _ q => (upd_ne (fun z => n (.inr z))).trans q) fun b q => .inl q) .nil
end
end Bd

/-! The data layer: data that can be asked for equality. -/
namespace Bd
open PySem PySem.Spec PyProof.Rows L2
/-- no bool, no dict, flat enough -/
def Ok (n : Nat) (d : PyData) : Prop := clean d = true ∧ d.canLay0 = true ∧ d.depth ≤ n
theorem Ok.mono {n m : Nat} {d : PyData} (h : Ok n d) (l : n ≤ m) : Ok m d := ⟨h.1, h.2.1, Nat.le_trans h.2.2 l⟩
theorem Ok.d {n : Nat} {d : PyData} (h : Ok n d) (l : n ≤ 64) : okD d = true := by
  unfold okD
  rw [h.1]
  show (d.canLay0 && decide (d.depth ≤ 64)) = true
  rw [h.2.1, decide_eq_true (Nat.le_trans h.2.2 l)]
  rfl
theorem Ok.int {n : Nat} {i : Int} : Ok n (.int i) := ⟨rfl, by simp [PyData.canLay0], by simp [PyData.depth]⟩
theorem Ok.none {n : Nat} : Ok n .none := ⟨rfl, by simp [PyData.canLay0], by simp [PyData.depth]⟩
theorem Ok.bool {n : Nat} {b : Bool} : Ok n (.bool b) := ⟨rfl, by simp [PyData.canLay0], by simp [PyData.depth]⟩
theorem Ok.str {n : Nat} {s : Str} (h : PyData.strOk s = true) : Ok n (.str s) := ⟨rfl, by simp [PyData.canLay0, h], by simp [PyData.depth]⟩
theorem okAll {n : Nat} : ∀ {ds : List PyData}, (∀ d ∈ ds, Ok n d) → cleanA ds = true ∧ PyData.canLayAll0 ds = true ∧ PyData.depthAll ds ≤ n
  | [], _ => ⟨rfl, by simp [PyData.canLayAll0], by simp [PyData.depthAll]⟩
  | d :: ds, h => by
    obtain ⟨h1, h2, h3⟩ := h d (by simp)
    obtain ⟨i1, i2, i3⟩ := okAll (ds := ds) fun e he => h e (by simp [he])
    refine ⟨by simp [cleanA, h1, i1], by simp [PyData.canLayAll0, h2, i2], ?_⟩
    simp only [PyData.depthAll]
    omega
theorem Ok.tup {n : Nat} {ds : List PyData} (h : ∀ d ∈ ds, Ok n d) : Ok (n + 1) (.tuple ds) := by
  obtain ⟨i1, i2, i3⟩ := okAll h
  refine ⟨by simp [clean, i1], by simp [PyData.canLay0, i2], ?_⟩
  simp only [PyData.depth]
  omega
theorem Ok.lst {n : Nat} {ds : List PyData} (h : ∀ d ∈ ds, Ok n d) : Ok (n + 1) (.list ds) := by
  obtain ⟨i1, i2, i3⟩ := okAll h
  refine ⟨by simp [clean, i1], by simp [PyData.canLay0, i2], ?_⟩
  simp only [PyData.depth]
  omega
mutual
/-- data that equality tells apart as they are written -/
def sharp : PyData → Bool
  | .bool _ => false
  | .dict _ => false
  | .list xs => sharpA xs
  | .tuple xs => sharpA xs
  | _ => true
def sharpA : List PyData → Bool
  | [] => true
  | d :: ds => sharp d && sharpA ds
end
mutual
theorem eqv_sharp : ∀ (d e : PyData), sharp d = true → sharp e = true → (PyData.eqv d e = true ↔ d = e)
  | .none, e, _, h => by cases e <;> simp_all [PyData.eqv, sharp]
  | .int i, e, _, h => by cases e <;> simp_all [PyData.eqv, sharp]
  | .str s, e, _, h => by cases e <;> simp_all [PyData.eqv, sharp]
  | .bool b, e, h, _ => by simp [sharp] at h
  | .dict b, e, h, _ => by simp [sharp] at h
  | .list ds, e, h, h2 => by
    cases e with
    | list es =>
      have := eqv_sharpA ds es (by simpa [sharp] using h) (by simpa [sharp] using h2)
      simp [PyData.eqv, this]
    | _ => simp_all [PyData.eqv, sharp]
  | .tuple ds, e, h, h2 => by
    cases e with
    | tuple es =>
      have := eqv_sharpA ds es (by simpa [sharp] using h) (by simpa [sharp] using h2)
      simp [PyData.eqv, this]
    | _ => simp_all [PyData.eqv, sharp]
theorem eqv_sharpA : ∀ (ds es : List PyData), sharpA ds = true → sharpA es = true → (PyData.eqvAll ds es = true ↔ ds = es)
  | [], [], _, _ => by simp [PyData.eqvAll]
  | [], _ :: _, _, _ => by simp [PyData.eqvAll]
  | _ :: _, [], _, _ => by simp [PyData.eqvAll]
  | d :: ds, e :: es, h, h2 => by
    have h' : sharp d = true ∧ sharpA ds = true := by simpa [sharpA] using h
    have h2' : sharp e = true ∧ sharpA es = true := by simpa [sharpA] using h2
    have i1 := eqv_sharp d e h'.1 h2'.1
    have i2 := eqv_sharpA ds es h'.2 h2'.2
    simp [PyData.eqvAll, i1, i2]
end
theorem sharpA_of {ds : List PyData} (h : ∀ d ∈ ds, sharp d = true) : sharpA ds = true := by
  induction ds with
  | nil => rfl
  | cons d ds ih => simp [sharpA, h d (by simp), ih fun e he => h e (by simp [he])]
theorem sharp_tup {ds : List PyData} (h : ∀ d ∈ ds, sharp d = true) : sharp (.tuple ds) = true := by simp [sharp, sharpA_of h]
theorem sharp_lst {ds : List PyData} (h : ∀ d ∈ ds, sharp d = true) : sharp (.list ds) = true := by simp [sharp, sharpA_of h]
/-- equality of data that are told by words -/
theorem eqv_dec {d e : PyData} {p : Prop} [Decidable p] (h1 : sharp d = true) (h2 : sharp e = true) (h : d = e ↔ p) : PyData.eqv d e = decide p := by
  have i := (eqv_sharp d e h1 h2).trans h
  by_cases q : p
  · rw [decide_eq_true q]
    exact i.mpr q
  · rw [decide_eq_false q]
    exact Bool.eq_false_iff.mpr fun z => q (i.mp z)
end Bd

/-! The data layer: sorted with a lambda, a dict comprehension, calls by keywords. -/
namespace Bd
open PySem PySem.Spec PyProof.Rows L2
section
variable {g : G} {N N' : Addr → Prop} {c : Ctx} {σ : L2.St} {H H' : Hp}
theorem Keep.ofN {M : Addr → Prop} (e : LamX.ExtN H H') : Keep M H H' :=
  ⟨fun a o _ t h => e a o h t, fun a h f => h fun o q => Classical.byContradiction fun z => z (f o (e a o q fun ps hp => z ⟨ps, hp⟩))⟩
theorem Rep.push (r : Rep g N c σ H) {v : V} {x : Vl} (hx : Has g.H0 N H v x) (hc : hot x = false) : Rep g N (c ++ [some x]) (σ ++ [some v]) H := by
  have back : ∀ (i : Nat) (y : Vl), (c ++ [some x])[i]? = some (some y) → (c[i]? = some (some y) ∧ (σ ++ [some v])[i]? = σ[i]?) ∨ (y = x ∧ (σ ++ [some v])[i]? = some (some v)) := fun i y e => by
    by_cases hi : i < c.length
    · rw [List.getElem?_append_left hi] at e
      exact .inl ⟨e, List.getElem?_append_left (by rw [r.len]; exact hi)⟩
    · have hi := Nat.le_of_not_lt hi
      rw [List.getElem?_append_right hi] at e
      have h0 : i - c.length = 0 := by
        have := (List.getElem?_eq_some_iff.mp e).1
        simpa using this
      rw [h0] at e
      refine .inr ⟨?_, ?_⟩
      · have e : some (some x) = some (some y) := e
        cases e
        rfl
      · rw [List.getElem?_append_right (by rw [r.len]; exact hi), r.len, h0]
        rfl
  refine ⟨r.kp, r.sti, r.tab, r.pn, r.pt, r.mp, r.trk, by simp [r.len], fun i y e => ?_, fun i j y z w hij h1 h2 hy hz e1 e2 => ?_⟩
  · rcases back i y e with ⟨e1, e2⟩ | ⟨rfl, e2⟩
    · rw [e2]
      exact r.sl i y e1
    · exact ⟨v, e2, hx⟩
  · rcases back i y h1 with ⟨q1, q2⟩ | ⟨rfl, _⟩
    · rcases back j z h2 with ⟨q3, q4⟩ | ⟨rfl, _⟩
      · rw [q2] at e1
        rw [q4] at e2
        exact r.ds i j y z w hij q1 q3 hy hz e1 e2
      · rw [hc] at hz
        cases hz
    · rw [hc] at hy
      cases hy
theorem DaA.stands {β : Type} {enc : β → PyData} : ∀ {vs : List V} {bs : List β}, DaA N H vs (bs.map enc) → Bs.Stands (fun v b => Da N H v (enc b)) vs bs
  | [], [], _ => True.intro
  | _ :: _, _ :: _, .cons h t => ⟨h, DaA.stands t⟩
  | [], _ :: _, h => by cases h
  | _ :: _, [], h => by cases h
theorem DaA.of_stands {β : Type} {enc : β → PyData} : ∀ {vs : List V} {bs : List β}, Bs.Stands (fun v b => Da N H v (enc b)) vs bs → DaA N H vs (bs.map enc)
  | [], [], _ => .nil
  | _ :: _, _ :: _, h => .cons h.1 (DaA.of_stands h.2)
  | [], _ :: _, h => h.elim
  | _ :: _, [], h => h.elim
end
section
variable {g : G} {c : Ctx} {E : Ed} {k : Vl → Prop} {kf : List PyData → Prop} {ta : TA} {tb te tk tv : TE} {tt : TT} {tl : TA} {pre : Pre}
/-- sorted(xs, key=lambda x: ..), the key a tuple of ints -/
theorem ev_sortLam {X : Cx} {β : Type} (hst : g.st = none) (h : EvA g ta c fun xs => ∃ x, ∃ (bs : List β) (enc : β → PyData) (kf : β → List Int), xs = [x] ∧ lstOf x = some (bs.map enc) ∧ (∀ b ∈ bs, kf b ≠ []) ∧
    (∀ b ∈ bs, Ev g tb (c ++ [some (.da (enc b))]) fun y => y = .da (Bs.keyD (kf b))) ∧ k (.da (.list ((bs.mergeSort (PySem.W.dataLe false fun b => Bs.keyD (kf b))).map enc)))) : Ev g (Bs.tSortLam X g.T β ta tb) c k := fun N σ H r Q z =>
  h N σ H r _ fun xs us H1 hx0 r1 hs k1 => by
    obtain ⟨x, bs, enc, kf, rfl, el, hne, hturn, kd⟩ := hx0
    obtain ⟨v, rfl, hv⟩ := hs.one
    obtain ⟨a, xs, rfl, ha, hd⟩ := hv.lst el
    refine ⟨a, xs, bs, fun v b => Da N H1 v (enc b), kf, rfl, hd.stands, hne, r1.tab, fun H2 eN T2 _ => ?_⟩
    have k2 : ∀ M, Keep M H1 H2 := fun M => Keep.ofN eN
    have r2 : Rep g N c σ H2 := r1.grow (k2 _) T2
    refine ⟨SqL.of (eN _ _ ha fun _ q => nomatch q), fun v b H3 hSv hb ext => ?_, fun ys p H3 st ext hpn hp => ?_⟩
    · have r3 : Rep g N c σ H3 := r2.grow (Keep.ofN ext.en) (ext.tb T2)
      have hv3 : Da N H3 v (enc b) := (Da.keep hSv (k2 no0) fun _ q => q.elim).keep (Keep.ofN (M := no0) ext.en) fun _ q => q.elim
      refine hturn b hb N _ H3 (r3.push (x := .da (enc b)) hv3 rfl) _ fun y w H4 ey r4 hy k4 => ?_
      subst ey
      obtain ⟨t, zs, rfl, _, ht, hz⟩ := Da.tup' hy
      have ez := hz.ints
      subst ez
      exact ⟨⟨fun a o e t => k4.ob a o (by rw [hst]; exact fun q => q) t e, fun _ => r4.tab⟩, ⟨t, rfl, ht⟩⟩
    · have r3 : Rep g N c σ H3 := r2.grow (Keep.ofN ext.en) (ext.tb T2)
      have st3 : Bs.Stands (fun v b => Da N H3 v (enc b)) ys _ := st.mono fun v b _ q => (Da.keep q (k2 no0) fun _ q => q.elim).keep (Keep.ofN (M := no0) ext.en) fun _ q => q.elim
      exact z _ _ H3 kd r3 (Da.lst (r2.notN (.none hpn)) hp (DaA.of_stands st3)) ((k1.trans (k2 _)).trans (Keep.ofN ext.en))
/-- x = {k: v for ..}, the keys tuples that stand apart -/
theorem se_dcT {wi : TI} {tg : TG} {vs : List Nat} {i : Nat} (h : EvI g wi c fun ds => ∃ J : Nat → List (List Key × PyData) → Prop, J 0 [] ∧ ds.length ≤ 90000 ∧
    (∀ j d acc, ds[j]? = some d → J j acc → ∃ c2 ws, Tg g tg d (wipeC c vs) c2 ws ∧ (∀ i ∈ ws, i ∈ vs) ∧ EvT g tt c2 fun b => b = true ∧ Ev g tk c2 fun x => ∃ n, x = .da (keyT n) ∧ Ev g tv c2 fun y => ∃ e, y = .da e ∧ valD acc n = none ∧ J (j + 1) (acc ++ [(n, e)])) ∧
    ∀ acc, J ds.length acc → E.nx (c.set i (some (.dt acc)))) : Se g (tAsg (Bs.tDcT wi tg tt tk tv vs) (gName i)) c E := fun N σ H r Dn z =>
  h N σ H r _ fun J' H1 ds ⟨J, j0, hl, turn, fin⟩ r1 k1 it => by
    intro D hD
    have rD : Rep g (fun b => N b ∨ b = D) c σ (upd H1 D (.dT [])) := r1.own (Keep.new hD) (r1.new hD).sti (r1.new hD).tab (.none hD) (nFr upd_same)
    have n0 : Nx N H1 (fun b => N b ∨ b = D) (upd H1 D (.dT [])) := ⟨fun b q => q.imp_right fun q => by rw [q]; exact .none hD, Keep.new hD⟩
    have fD : Fr g.H0 D := r1.not0 (.none hD)
    have hh : ∀ (i : Nat) (x : Vl), c[i]? = some (some x) → hot x = true → σ[i]? ≠ some (some (V.ref D)) := fun i x e hx q => by
      obtain ⟨v, e1, e2⟩ := r1.sl i x e
      obtain ⟨a, rfl, na, _⟩ := e2.hotN hx
      rw [e1] at q
      cases q
      exact r1.trk D na (.none hD)
    refine ⟨fun i m H' => m = ds.length - i ∧ i ≤ ds.length ∧ ∃ (acc : List (List Key × PyData)) (ws : List (List Key × V)), J i acc ∧ acc.length ≤ i ∧ H' D = some (.dT ws) ∧ ws.map (·.1) = acc.map (·.1) ∧ DaA (fun b => N b ∨ b = D) H' (ws.map (·.2)) (acc.map (·.2)) ∧ Rep g (fun b => N b ∨ b = D) c σ H' ∧ Nx N H1 (fun b => N b ∨ b = D) H' ∧ Keep (fun b => stM g.st b ∨ b = D) H1 H',
      ⟨ds.length, by simp, Nat.zero_le _, [], [], j0, Nat.zero_le _, upd_same, rfl, .nil, rD, n0, Keep.new hD⟩, ?_⟩
    rintro j m H' ⟨rfl, hi, acc, ws, ja, hal, hDl, hkk, hda, r', n', k'⟩
    by_cases hlt : j < ds.length
    · obtain ⟨g1, g2⟩ := it.go _ H' n' r'.trk j _ (List.getElem?_eq_getElem hlt)
      refine .inr ⟨g1, fun H2 => ∃ (acc : List (List Key × PyData)) (ws : List (List Key × V)), J (j + 1) acc ∧ acc.length ≤ j + 1 ∧ H2 D = some (.dT ws) ∧ ws.map (·.1) = acc.map (·.1) ∧ DaA (fun b => N b ∨ b = D) H2 (ws.map (·.2)) (acc.map (·.2)) ∧ Rep g (fun b => N b ∨ b = D) c σ H2 ∧ Nx N H1 (fun b => N b ∨ b = D) H2 ∧ Keep (fun b => stM g.st b ∨ b = D) H1 H2,
        fun H2 q => ⟨ds.length - (j + 1), by omega, rfl, hlt, q⟩, fun x H'' y => ?_⟩
      obtain ⟨ext, hx⟩ := g2 x H'' y
      have r'' := r'.wide ext
      have n'' : Nx N H1 (fun b => N b ∨ b = D) H'' := n'.trans ⟨fun _ h => .inl h, Keep.ext ext⟩
      have k'' : Keep (fun b => stM g.st b ∨ b = D) H1 H'' := k'.trans (Keep.ext ext)
      obtain ⟨c2, us, ht, hws, hb⟩ := turn j _ acc (List.getElem?_eq_getElem hlt) ja
      refine ht _ (wipe σ vs) H'' x (r''.wipe vs) hx _ fun σ2 r2 w2 => ⟨?_, hb _ σ2 H'' r2 _ fun b H3 kb r3 k3 => ?_⟩
      · rw [w2 vs hws]
        refine List.ext_getElem? fun j => ?_
        rw [wipe_get, wipe_get, wipe_length]
        by_cases hj : j ∈ vs
        · rw [if_pos hj, if_pos hj]
        · rw [if_neg hj, if_neg hj]
      · have nD : ¬ stM g.st D := fun q => (r''.m0 D q).2 fD
        have keepD : ∀ {A B : Hp}, Keep (stM g.st) A B → A D = some (.dT ws) → B D = some (.dT ws) := fun k e => k.ob D _ nD (fun _ q => nomatch q) e
        have hD3 : H3 D = some (.dT ws) := keepD k3 (ext _ _ hDl)
        have rr3 : Rep g (fun b => N b ∨ b = D) c σ H3 := r''.step k3 r3.sti r3.tab
        have nn3 : Nx N H1 (fun b => N b ∨ b = D) H3 := n''.trans (Nx.keep k3 r''.mn)
        have kk3 : Keep (fun b => stM g.st b ∨ b = D) H1 H3 := k''.trans (k3.wide fun _ q => .inl q)
        have d3 : DaA (fun b => N b ∨ b = D) H3 (ws.map (·.2)) (acc.map (·.2)) := (hda.keep (M := fun _ => False) (Keep.ext ext) fun _ q => q.elim).keep k3 r''.mn
        obtain ⟨rfl, kb⟩ := kb
        rw [if_pos rfl]
        refine kb _ σ2 H3 r3 _ fun kv u H4 ky r4 hy k4 => ?_
        obtain ⟨n, rfl, kb⟩ := ky
        refine kb _ σ2 H4 r4 _ fun yv w H5 ky r5 hy5 k5 => ?_
        obtain ⟨e, rfl, hnew, je⟩ := ky
        have hD5 : H5 D = some (.dT ws) := keepD k5 (keepD k4 hD3)
        have rr5 : Rep g (fun b => N b ∨ b = D) c σ H5 := (rr3.step k4 r4.sti r4.tab).step k5 r5.sti r5.tab
        have d5 := (d3.keep k4 r''.mn).keep k5 r''.mn
        have d6 : DaA (fun b => N b ∨ b = D) H5 ((ws ++ [(n, w)]).map (·.2)) ((acc ++ [(n, e)]).map (·.2)) := by
          rw [List.map_append, List.map_append]
          exact d5.app (.cons hy5 .nil)
        obtain ⟨t, xs, rfl, nt, hb, hx2⟩ := Da.tup' (Da.keep hy k5 r4.mn)
        have hx3 := hx2.keys
        subst hx3
        have lw : ws.length = acc.length := by simpa using congrArg List.length hkk
        refine ⟨ws, n, t, rfl, hb, hD5, Nat.lt_of_le_of_lt (by rw [lw]; exact Nat.le_trans hal hi) (Nat.lt_of_le_of_lt hl (by decide)), ?_⟩
        rw [putK_new ((valD_val hkk d5).1 hnew)]
        refine ⟨acc ++ [(n, e)], ws ++ [(n, w)], je, by simp; omega, upd_same, by rw [List.map_append, List.map_append, hkk]; rfl, ?_, rr5.mutN (.inr rfl) fD (tabs_mutT rr5.tab hD5) hh,
          ((nn3.trans (Nx.keep k4 r''.mn)).trans (Nx.keep k5 r''.mn)).trans ⟨fun _ h => .inl h, Keep.mut (.inr rfl)⟩, ((kk3.trans (k4.wide fun _ q => .inl q)).trans (k5.wide fun _ q => .inl q)).trans (Keep.mut (.inr rfl))⟩
        exact d6.mono (fun b o n _ q => (upd_ne (fun z => n (.inr z))).trans q) fun b q => .inl q
    · have e : j = ds.length := by omega
      subst e
      have kM : Keep (stM g.st) H H' := k1.trans ⟨fun a o hm ht e => k'.ob a o (fun q => q.elim hm fun q => by rw [q, hD] at e; cases e) ht e, k'.dm⟩
      refine .inl ⟨it.stop _ H' n', z.nx _ _ (fun b => N b ∨ b = D) H' (fin acc ja) (r.setHot kM r'.sti r'.tab (k1.back (.none hD)) (nFr hDl) ⟨D, ws, rfl, .inr rfl, fD, hDl, hkk, hda⟩) ⟨fun b q => q.imp_right fun q => by rw [q]; exact k1.back (.none hD), kM.wide r.mn⟩⟩
/-! ### calls by keywords -/
/-- f(k = v, ..): a new list leaves -/
theorem ef_callK {E' : XK} {gV : List V → List V → List V} (h : EvA g tl c fun xs => (∀ x ∈ xs, hot x = false) ∧ pre xs (fun _ => False) kf) (hg : ∀ vs, gV [] vs = vs) : EvF g (tCallK (spT g.T none pre) gV E' tNil tl) c kf := fun N σ H r Q z =>
  h N σ H r _ fun xs us H1 hx0 r1 hx k1 => by
    obtain ⟨hc, hp⟩ := hx0
    rw [hg]
    refine ⟨xs, N, _, kf, fun a q => q.elim, r1.trk, r1.tab, trivial, hx.rebase hc, hc, hp, fun x v H' kx cx kk _ tt hv => kx.elim, fun ds a ys H' kd kk _ tt ha ha' hd => ?_⟩
    have kk' : Keep no0 H1 H' := kk
    exact z _ a ys H' kd (r1.grow kk' tt) (k1.back ha) ha' hd (k1.trans kk'.up)
end
end Bd

namespace Bw
open PySem PySem.Spec PyProof.Rows L2 Bd
def topS (i : Nat) : Stmt := PySem.Challenge.pw_burstshop_k40_whole_does_by_rows_of_burs.main.body.getD i (.Pass ⟨0, 0, 0, 0⟩)
abbrev Arc := Bst.Arc Str
def nmT (ns : List Str) : PyData := .tuple (ns.map .str)
def nmL (ns : List Str) : PyData := .list (ns.map .str)
def arcD (a : Arc) : PyData := .tuple [.int (a.s : Int), nmT a.b, nmT a.f, .int (a.t : Int)]
def arcsL (A : List Arc) : PyData := .list (A.map arcD)
def arcsT (A : List Arc) : PyData := .tuple (A.map arcD)
/-- the texts that the module keeps -/
def fst26 : Str := "abcdefghijklmnopqrstuvwxyz"
def dig10 : Str := "0123456789"
structure Cts (mg : Str → Option Value) : Prop where
  FIRST : ∃ t, mg "FIRST" = some (.str fst26 t)
  DIGITS : ∃ t, mg "DIGITS" = some (.str dig10 t)
  MOST_SIGNS : ∃ t, mg "MOST_SIGNS" = some (.int 8 t)
  MOST_NAMES : ∃ t, mg "MOST_NAMES" = some (.int 3 t)
  MOST_ARCS : ∃ t, mg "MOST_ARCS" = some (.int 16 t)
  LAST_STATE : ∃ t, mg "LAST_STATE" = some (.int 7 t)
theorem kit_ii : kitB "int" "int" = some true := by decide +kernel
theorem kit_ib : kitB "int" "bool" = some false := by decide +kernel
theorem kit_ss : kitB "str" "str" = some true := by decide +kernel
theorem kit_ll : kitB "list" "list" = some true := by decide +kernel
theorem kit_lt : kitB "list" "tuple" = some false := by decide +kernel
theorem kit_tl : kitB "tuple" "list" = some false := by decide +kernel
theorem kit_tt : kitB "tuple" "tuple" = some true := by decide +kernel
theorem kit_lb : kitB "list" "bool" = some false := by decide +kernel
theorem kit_li : kitB "list" "int" = some false := by decide +kernel
theorem kit_ls : kitB "list" "str" = some false := by decide +kernel
theorem kit_tb : kitB "tuple" "bool" = some false := by decide +kernel
theorem kit_ti : kitB "tuple" "int" = some false := by decide +kernel
theorem kit_ts : kitB "tuple" "str" = some false := by decide +kernel
theorem kit_sb : kitB "str" "bool" = some false := by decide +kernel
theorem kit_si : kitB "str" "int" = some false := by decide +kernel
theorem kit_sl : kitB "str" "list" = some false := by decide +kernel
theorem kit_st : kitB "str" "tuple" = some false := by decide +kernel
theorem cleanA_strs : ∀ ns : List Str, cleanA (ns.map .str) = true
  | [] => rfl
  | n :: ns => by
    have := cleanA_strs ns
    simpa [cleanA, clean] using this
theorem nodup_take {α : Type} {ns : List α} {i : Nat} {x : α} (h : ns.Nodup) (e : ns[i]? = some x) : x ∉ ns.take i := fun m => by
  obtain ⟨j, hj⟩ := List.mem_iff_getElem?.mp m
  have hl := (List.getElem?_eq_some_iff.mp hj).1
  rw [List.length_take] at hl
  rw [List.getElem?_take_of_lt (by omega)] at hj
  obtain ⟨h1, e1⟩ := List.getElem?_eq_some_iff.mp e
  obtain ⟨h2, e2⟩ := List.getElem?_eq_some_iff.mp hj
  exact List.pairwise_iff_getElem.mp h j i h2 h1 (by omega) (e2.trans e1.symm)
theorem take_snoc {α : Type} {ns : List α} {i : Nat} {x : α} (e : ns[i]? = some x) : ns.take (i + 1) = ns.take i ++ [x] := by
  rw [List.take_add_one, e]
  rfl
theorem op_eqI {K : PySem.W.Frag} {k : Vl → Prop} {i j : Int} (q : k (.da (.bool (decide (i = j))))) : Op (rEqD K) (.da (.int i)) (.da (.int j)) k :=
  op_eq ((Ok.int (n := 0)).d (Nat.zero_le _)) ((Ok.int (n := 0)).d (Nat.zero_le _)) (by rw [show PyData.eqv (datOf (.da (.int i))) (datOf (.da (.int j))) = decide (i = j) from eqv_dec rfl rfl (by simp [datOf])]; exact q)
theorem op_neI {K : PySem.W.Frag} {k : Vl → Prop} {i j : Int} (q : k (.da (.bool (!decide (i = j))))) : Op (rNeD K) (.da (.int i)) (.da (.int j)) k :=
  op_ne ((Ok.int (n := 0)).d (Nat.zero_le _)) ((Ok.int (n := 0)).d (Nat.zero_le _)) (by rw [show PyData.eqv (datOf (.da (.int i))) (datOf (.da (.int j))) = decide (i = j) from eqv_dec rfl rfl (by simp [datOf])]; exact q)
theorem op_eqS {K : PySem.W.Frag} {k : Vl → Prop} {i j : Str} (h1 : PyData.strOk i = true) (h2 : PyData.strOk j = true) (q : k (.da (.bool (decide (i = j))))) : Op (rEqD K) (.da (.str i)) (.da (.str j)) k :=
  op_eq ((Ok.str (n := 0) h1).d (Nat.zero_le _)) ((Ok.str (n := 0) h2).d (Nat.zero_le _)) (by rw [show PyData.eqv (datOf (.da (.str i))) (datOf (.da (.str j))) = decide (i = j) from eqv_dec rfl rfl (by simp [datOf])]; exact q)
theorem op_neS {K : PySem.W.Frag} {k : Vl → Prop} {i j : Str} (h1 : PyData.strOk i = true) (h2 : PyData.strOk j = true) (q : k (.da (.bool (!decide (i = j))))) : Op (rNeD K) (.da (.str i)) (.da (.str j)) k :=
  op_ne ((Ok.str (n := 0) h1).d (Nat.zero_le _)) ((Ok.str (n := 0) h2).d (Nat.zero_le _)) (by rw [show PyData.eqv (datOf (.da (.str i))) (datOf (.da (.str j))) = decide (i = j) from eqv_dec rfl rfl (by simp [datOf])]; exact q)
theorem colds {xs : List Vl} (h : (xs.all fun x => !hot x) = true) : ∀ x ∈ xs, hot x = false := fun x hx => by
  have := List.all_eq_true.mp h x hx
  simpa using this
theorem at_map {α : Type} {f : α → PyData} {xs : List α} {i : Nat} {d : PyData} (h : (xs.map f)[i]? = some d) : ∃ x, xs[i]? = some x ∧ d = f x := by
  rw [List.getElem?_map] at h
  cases q : xs[i]? with
  | none =>
    rw [q] at h
    cases h
  | some x =>
    rw [q] at h
    cases h
    exact ⟨x, rfl, rfl⟩

/-! ### what each def computes -/
def GoodC (c : Nat) : Bool := decide (c ∈ fst26.cps.toList) || decide (c ∈ dig10.cps.toList)
def Good (s : Str) : Prop := 1 ≤ s.length ∧ s.length ≤ 8 ∧ (∀ c, s.cps.toList.head? = some c → c ∈ fst26.cps.toList) ∧ ∀ c ∈ s.cps.toList, GoodC c = true
def idx (A : List Arc) (y : Nat) : List Nat := (A.zipIdx.filter fun p => decide (p.1.s = y)).map (·.2)
def trn (s : Str) (ns some : List Str) : Str := ⟨((s.cps.toList.zip ns).map fun p => if p.2 ∈ some then (if p.1 = 48 then 49 else 48) else p.1).toArray⟩
def machV (C : Addr) (ins outs : List Str) (A : List Arc) : Vl := .ob C [("inputs", ftD ins), ("outputs", nmT outs), ("arcs", arcsT A)]
def stdD (x : Nat) (arr : List Str) : PyData := .tuple [.int (x : Int), nmT arr]
def stepD : Option ((Nat × List Str) × List Str) → PyData
  | none => .none
  | some ((x, arr), f) => .tuple [stdD x arr, nmT f]
def intsL (ns : List Nat) : PyData := .list (ns.map fun (n : Nat) => PyData.int (n : Int))
def intsT (ns : List Nat) : PyData := .tuple (ns.map fun (n : Nat) => PyData.int (n : Int))
def rowD (r : List (List Str)) : PyData := .list (r.map nmT)
/-- of a machine of the law: it keeps within its bounds, the bursts of a state lie not in one another, the values lead through -/
structure Snd (ins outs : List Str) (A : List Arc) : Prop where
  few : A.length ≤ 16
  lo : ∀ a ∈ A, a.s < 8 ∧ a.t < 8
  ib : ∀ a ∈ A, a.b ≠ [] ∧ a.b.Sublist ins
  ob : ∀ a ∈ A, a.f.Sublist outs
  anti : Bst.Anti A
  vals : ∃ vi vo : Nat → Str, vi 0 = ⟨(List.replicate ins.length 48).toArray⟩ ∧ vo 0 = ⟨(List.replicate outs.length 48).toArray⟩ ∧ ∀ a ∈ A, trn (vi a.s) ins a.b = vi a.t ∧ trn (vo a.s) outs a.f = vo a.t
def Nok (ins : List Str) : Prop := ins.length ≤ 3 ∧ ∀ n ∈ ins, PyData.strOk n = true
def Nms (least : Nat) (ns others : List Str) : Prop := least ≤ ns.length ∧ ns.length ≤ 3 ∧ ns.Nodup ∧ (∀ n ∈ ns, Good n) ∧ ∀ n ∈ ns, n ∉ others
def preNumber : Pre := pl fun as k => ∃ i lo hi : Int, as = [.da (.int i), .da (.int lo), .da (.int hi)] ∧ k (.da (.bool (decide (lo ≤ i) && decide (i ≤ hi))))
def preName : Pre := pl fun as k => ∃ s : Str, as = [.da (.str s)] ∧ Good s ∧ k (.da (.bool true))
def preWrong : Pre := pl fun as k => ∃ (ns : List Str) (l : Nat) (os : List Str), as = [.da (nmL ns), .da (.int (l : Int)), .da (nmL os)] ∧ os.length ≤ 3 ∧ Nms l ns os ∧ k (.da .none)
def preSome : Pre := pl fun as k => ∃ (xs ns : List Str) (l : Nat), as = [.da (nmT xs), .da (nmL ns), .da (.int (l : Int))] ∧ ns.length ≤ 3 ∧ xs.Nodup ∧ (∀ x ∈ xs, x ∈ ns) ∧ l ≤ xs.length ∧ xs.length ≤ 100 ∧ k (.da (.bool true))
def preArc : Pre := pl fun as k => ∃ (a : Arc) (ins outs : List Str), as = [.da (arcD a), .da (nmL ins), .da (nmL outs)] ∧ ins.length ≤ 3 ∧ outs.length ≤ 3 ∧ a.s < 8 ∧ a.t < 8 ∧ a.b.Nodup ∧ (∀ x ∈ a.b, x ∈ ins) ∧ 1 ≤ a.b.length ∧ a.f.Nodup ∧ (∀ x ∈ a.f, x ∈ outs) ∧ a.b.length ≤ 100 ∧ a.f.length ≤ 100 ∧ k (.da (.bool true))
def preOrder : Pre := pl fun as k => ∃ (xs ns : List Str) (x y : Vl), as = [x, y] ∧ (x = .da (nmL xs) ∨ x = .da (nmT xs)) ∧ (y = .da (nmL ns) ∨ y = .da (nmT ns) ∨ y = .da (ftD ns)) ∧ xs.length ≤ 1000 ∧ ns.length ≤ 1000 ∧ k (.da (nmT (ns.filter fun n => decide (n ∈ xs))))
def preTurned : Pre := pl fun as k => ∃ (s : Str) (ns som : List Str) (y : Vl), as = [.da (.str s), y, .da (nmT som)] ∧ (y = .da (nmT ns) ∨ y = .da (ftD ns)) ∧ ns.length ≤ 3 ∧ som.length ≤ 3 ∧ (∀ c ∈ s.cps.toList, c = 48 ∨ c = 49) ∧ k (.da (.str (trn s ns som)))
def preArcsOf (C : Addr) : Pre := pl fun as k => ∃ (ins outs : List Str) (A : List Arc) (y : Nat), as = [machV C ins outs A, .da (.int (y : Int))] ∧ A.length ≤ 16 ∧ k (.da (intsL (idx A y)))
def preFaultW (C : Addr) : Pre := pl fun as k => ∃ (ins outs : List Str) (A : List Arc), as = [machV C ins outs A] ∧ ins.length ≤ 3 ∧ Snd ins outs A ∧ k (.da .none)
def preWalked (C : Addr) : Pre := pl fun as k => ∃ (ins outs : List Str) (A : List Arc), as = [machV C ins outs A] ∧ ins.length ≤ 3 ∧ outs.length ≤ 3 ∧ Snd ins outs A ∧ k (.da (.tuple [.dict [], .dict [], .none]))
def preFault (C : Addr) : Pre := pl fun as k => ∃ (ins outs : List Str) (A : List Arc), as = [machV C ins outs A] ∧ ins.length ≤ 3 ∧ outs.length ≤ 3 ∧ Snd ins outs A ∧ k (.da .none)
def preBursts (C : Addr) : Pre := pl fun as k => ∃ (ins outs : List Str) (A : List Arc) (y : Nat), as = [machV C ins outs A, .da (.int (y : Int))] ∧ A.length ≤ 16 ∧ k (.da (rowD ((A.filter fun a => decide (a.s = y)).map (·.b))))
def preWithin : Pre := pl fun as k => ∃ xs ys : List Str, as = [.da (nmT xs), .da (nmT ys)] ∧ xs.length ≤ 1000 ∧ k (.da (.bool (Bst.wth xs ys)))
def preFed (C : Addr) : Pre := pl fun as k => ∃ (ins outs : List Str) (A : List Arc) (x : Nat) (arr : List Str) (n : Str), as = [machV C ins outs A, .da (stdD x arr), .da (.str n)] ∧ A.length ≤ 16 ∧ Nok ins ∧ arr.length ≤ 3 ∧ (∀ a ∈ A, a.b.length ≤ 3 ∧ ∀ n ∈ a.b, PyData.strOk n = true) ∧ k (.da (stepD (Bst.go A ins (x, arr) n)))
def preFollow (C : Addr) : Pre := pl fun as k => ∃ (ins outs : List Str) (A : List Arc) (ns : List Str) (v : List (List Str)), as = [machV C ins outs A, .da (nmL ns)] ∧ Nok ins ∧ outs.length ≤ 3 ∧ Snd ins outs A ∧ ns.length ≤ 12 ∧ (∀ n ∈ ns, n ∈ ins) ∧ Bst.feeds A ins (0, []) ns = some v ∧ k (.da (rowD v))
def prePos (C : Addr) : Pre := pl fun as k => ∃ (ins outs : List Str) (A : List Arc) (b : List Str), as = [machV C ins outs A, .da (nmT b)] ∧ ins.length ≤ 3 ∧ b.length ≤ 3 ∧ (∀ n ∈ b, n ∈ ins) ∧ k (.da (intsT (b.map fun n => ins.idxOf n)))
/-! ### what the law's defs compute -/
abbrev Val := Str × Str
abbrev Edg := Nat × Nat
def valD' (v : Val) : PyData := .tuple [.str v.1, .str v.2]
def valsL (vs : List Val) : PyData := .list (vs.map valD')
def edgD (e : Edg) : PyData := .tuple [.int (e.1 : Int), .int (e.2 : Int)]
def edgL (es : List Edg) : PyData := .list (es.map edgD)
def Bits (n : Nat) (s : Str) : Prop := s.length = n ∧ ∀ c ∈ s.cps.toList, c = 48 ∨ c = 49
def zeros (n : Nat) : Str := ⟨(List.replicate n 48).toArray⟩
def diff (l r : Str) (ns : List Str) : List Str := (ns.zipIdx.filter fun p => decide (l.cps.toList[p.2]? ≠ r.cps.toList[p.2]?)).map (·.1)
def valAt (vs : List Val) (i : Nat) : Val := vs.getD i (⟨#[]⟩, ⟨#[]⟩)
def dIn (ins : List Str) (vs : List Val) (l r : Nat) : List Str := diff (valAt vs l).1 (valAt vs r).1 ins
def edgeF (ins : List Str) (vs : List Val) (es : List Edg) (l r : Nat) : List Edg :=
  if dIn ins vs l r = [] ∨ 16 ≤ es.length then es
  else if (es.any fun e => decide (e.1 = l) && (Bst.wth (dIn ins vs l r) (dIn ins vs e.1 e.2) || Bst.wth (dIn ins vs e.1 e.2) (dIn ins vs l r))) = true then es else es ++ [(l, r)]
def rebuilt (ins : List Str) (vs : List Val) (es : List Edg) : List Edg := es.foldl (fun acc e => edgeF ins vs acc e.1 e.2) []
/-- values of states, as long as the names are many; the first state's are zeros -/
def Vok (ins outs : List Str) (vs : List Val) : Prop := 1 ≤ vs.length ∧ vs.length ≤ 8 ∧ vs[0]? = some (zeros ins.length, zeros outs.length) ∧ ∀ v ∈ vs, Bits ins.length v.1 ∧ Bits outs.length v.2
def Eok (n : Nat) (es : List Edg) : Prop := es.length ≤ 100 ∧ ∀ e ∈ es, e.1 < n ∧ e.2 < n
def Plan (ins outs : List Str) (vs : List Val) (es : List Edg) : Prop := Vok ins outs vs ∧ ∃ es0, Eok vs.length es0 ∧ es = rebuilt ins vs es0
def arcOf (ins outs : List Str) (vs : List Val) (e : Edg) : Arc := ⟨e.1, dIn ins vs e.1 e.2, diff (valAt vs e.1).2 (valAt vs e.2).2 outs, e.2⟩
def key (ins : List Str) (a : Arc) : PyData := intsT (a.b.map fun n => ins.idxOf n)
def exits (ins : List Str) (A : List Arc) (y : Nat) : List Arc := (A.filter fun a => decide (a.s = y)).mergeSort (PySem.W.dataLe false (key ins))
def exD (ins : List Str) (a : Arc) : PyData := .tuple [key ins a, nmT a.b, nmT a.f, .int (a.t : Int)]
def rowO : Option (List (List Str)) → PyData
  | none => .none
  | some r => rowD r
theorem clean_nmL (ns : List Str) : clean (nmL ns) = true := by simp [nmL, clean, cleanA_strs]
theorem clean_nmT (ns : List Str) : clean (nmT ns) = true := by simp [nmT, clean, cleanA_strs]
theorem clean_arcD (a : Arc) : clean (arcD a) = true := by
  have h1 := clean_nmT a.b
  have h2 := clean_nmT a.f
  simp [arcD, clean, cleanA, h1, h2]
/-- the class Machine -/
structure Mc (K : PySem.W.Frag) (C : Addr) : Prop where
  cls : Cls K C
  nI : NoAttr K C "inputs"
  nO : NoAttr K C "outputs"
  nA : NoAttr K C "arcs"
theorem ev_mI {g : G} {c : Bd.Ctx} {K : PySem.W.Frag} {C : Addr} {te : TE} {k : Vl → Prop} (MC : Mc K C) (h : Ev g te c fun x => ∃ ins outs A, x = machV C ins outs A ∧ k (.da (ftD ins))) : Ev g (tFld K te "inputs") c k :=
  ev_fld (h.imp fun x ⟨ins, outs, A, e, q⟩ => ⟨C, _, _, e, MC.cls, MC.nI, rfl, q⟩)
theorem ev_mO {g : G} {c : Bd.Ctx} {K : PySem.W.Frag} {C : Addr} {te : TE} {k : Vl → Prop} (MC : Mc K C) (h : Ev g te c fun x => ∃ ins outs A, x = machV C ins outs A ∧ k (.da (nmT outs))) : Ev g (tFld K te "outputs") c k :=
  ev_fld (h.imp fun x ⟨ins, outs, A, e, q⟩ => ⟨C, _, _, e, MC.cls, MC.nO, rfl, q⟩)
theorem ev_mA {g : G} {c : Bd.Ctx} {K : PySem.W.Frag} {C : Addr} {te : TE} {k : Vl → Prop} (MC : Mc K C) (h : Ev g te c fun x => ∃ ins outs A, x = machV C ins outs A ∧ k (.da (arcsT A))) : Ev g (tFld K te "arcs") c k :=
  ev_fld (h.imp fun x ⟨ins, outs, A, e, q⟩ => ⟨C, _, _, e, MC.cls, MC.nA, rfl, q⟩)
theorem map_get {α β : Type} {f : α → β} {xs : List α} {i : Nat} {x : α} (h : xs[i]? = some x) : (xs.map f)[i]? = some (f x) := by
  rw [List.getElem?_map, h]
  rfl
/-- all([x in ys for x in xs]) -/
theorem ev_allin {g : G} {c : Bd.Ctx} {K : PySem.W.Frag} {tX tY : TE} {i : Nat} {k : Vl → Prop} {xs ys : List Str} (hi : i < c.length) (hl : xs.length ≤ 90000) (hX : Ev g tX c fun x => x = .da (nmT xs)) (hY : ∀ x : Str, Ev g tY ((wipeC c [i]).set i (some (.da (.str x)))) fun y => y = .da (nmT ys)) (q : k (.da (.bool (Bst.wth xs ys)))) :
    Ev g (tCB (rAll K) (tCons (tLc (iSeq K tX) (gName i) tYes (tOp (rIn K false) (tVar i) tY) [i]) tNil)) c k := by
  refine ev_cb (ea_cons (ev_ofF (ef_lc (fun i acc => acc = (xs.take i).map fun x => .bool (decide (x ∈ ys))) (ei_seq (hX.imp fun x e => ⟨_, .inr e, rfl, by simpa using hl, fun j d acc hd ha => ?_, fun acc ha => ?_⟩)))))
  · obtain ⟨x, hx, rfl⟩ := at_map hd
    refine ⟨_, _, tg_name, by simp, et_yes ⟨fun _ => ev_op (ev_var (x := .da (.str x)) ?_ ((hY x).imp fun y e => ?_)), nofun⟩⟩
    · rw [List.getElem?_set, if_pos rfl, if_pos (by rw [wipeC_length]; exact hi)]
    · subst e
      refine op_inN (.inl rfl) ⟨_, rfl, ?_⟩
      rw [ha, take_snoc hx, List.map_append]
      rfl
  · subst ha
    refine ea_nil (cb_all (bs := xs.map fun x => decide (x ∈ ys)) ?_ ?_)
    · show some _ = some _
      rw [List.take_of_length_le (by simp), List.map_map]
      rfl
    · have e : (xs.map fun x => decide (x ∈ ys)).all id = Bst.wth xs ys := by
        rw [List.all_map]
        rfl
      rw [e]
      exact q
theorem idx_mem {A : List Arc} {y j o : Nat} (h : (idx A y)[j]? = some o) : ∃ a, A[o]? = some a ∧ a.s = y := by
  have h1 := List.mem_of_getElem? h
  unfold idx at h1
  obtain ⟨p, hp, rfl⟩ := List.mem_map.mp h1
  obtain ⟨h2, h3⟩ := List.mem_filter.mp hp
  obtain ⟨p1, p2⟩ := p
  have := List.mem_zipIdx_iff_getElem?.mp h2
  exact ⟨p1, this, of_decide_eq_true h3⟩
theorem idx_length (A : List Arc) (y : Nat) : (idx A y).length ≤ A.length := by
  unfold idx
  rw [List.length_map]
  exact Nat.le_trans (List.length_filter_le _ _) (by simp)
theorem sum_ones : ∀ l : List Nat, ((l.map fun n => (⟨#[n]⟩ : Str)).map (·.length)).sum = l.length
  | [] => rfl
  | n :: l => by
    have := sum_ones l
    rw [List.map_cons, List.map_cons, List.sum_cons, this, List.length_cons]
    show 1 + l.length = l.length + 1
    omega
theorem strOk1 {c : Nat} (h : c < 0x110000) : PyData.strOk ⟨#[c]⟩ = true := by
  simp [PyData.strOk]
  omega
theorem s0 : Str.ofString "0" = ⟨#[48]⟩ := rfl
theorem s1 : Str.ofString "1" = ⟨#[49]⟩ := rfl
theorem str1 {a b : Nat} : ((⟨#[a]⟩ : Str) = ⟨#[b]⟩) ↔ a = b := by simp
theorem strOk0 : PyData.strOk (Str.ofString "0") = true := strOk1 (c := 48) (by decide)
theorem op_eqT {K : PySem.W.Frag} {k : Vl → Prop} {a b : List Str} (h1 : ∀ n ∈ a, PyData.strOk n = true) (h2 : ∀ n ∈ b, PyData.strOk n = true) (q : k (.da (.bool (decide (a = b))))) : Op (rEqD K) (.da (nmT a)) (.da (nmT b)) k := by
  have o : ∀ ns : List Str, (∀ n ∈ ns, PyData.strOk n = true) → Ok 1 (nmT ns) := fun ns h => Ok.tup (n := 0) fun d hd => by
    obtain ⟨n, hn, rfl⟩ := List.mem_map.mp hd
    exact Ok.str (h n hn)
  have sh : ∀ ns : List Str, sharp (nmT ns) = true := fun ns => sharp_tup fun d hd => by
    obtain ⟨n, hn, rfl⟩ := List.mem_map.mp hd
    rfl
  refine op_eq ((o a h1).d (by decide)) ((o b h2).d (by decide)) ?_
  rw [show PyData.eqv (datOf (.da (nmT a))) (datOf (.da (nmT b))) = decide (a = b) from eqv_dec (sh a) (sh b) ⟨fun e => strs_inj (PyData.tuple.inj e), fun e => by rw [e]⟩]
  exact q
theorem filt_idx (A : List Arc) (y : Nat) : (A.zipIdx.filter fun p => decide (p.1.s = y)).map (·.1) = A.filter fun a => decide (a.s = y) := by
  have e : A.zipIdx.map (·.1) = A := by simp
  have h := List.filter_map (f := fun p : Arc × Nat => p.1) (p := fun a : Arc => decide (a.s = y)) (l := A.zipIdx)
  rw [e] at h
  exact h.symm
theorem idx_filter {A : List Arc} {y j o : Nat} (h : (idx A y)[j]? = some o) : ∃ a, A[o]? = some a ∧ (A.filter fun a => decide (a.s = y))[j]? = some a := by
  unfold idx at h
  rw [← filt_idx]
  rw [List.getElem?_map] at h
  cases q : (A.zipIdx.filter fun p => decide (p.1.s = y))[j]? with
  | none =>
    rw [q] at h
    cases h
  | some p =>
    rw [q] at h
    cases h
    have h2 := List.mem_filter.mp (List.mem_of_getElem? q)
    obtain ⟨p1, p2⟩ := p
    refine ⟨p1, List.mem_zipIdx_iff_getElem?.mp h2.1, ?_⟩
    rw [List.getElem?_map, q]
    rfl
theorem idx_len (A : List Arc) (y : Nat) : (idx A y).length = (A.filter fun a => decide (a.s = y)).length := by
  rw [← filt_idx]
  unfold idx
  rw [List.length_map, List.length_map]
theorem look_filter (A : List Arc) (x : Nat) (b : List Str) : Bst.look A x b = (A.filter fun a => decide (a.s = x)).find? fun a => decide (a.b = b) := by
  unfold Bst.look
  rw [List.find?_filter]
  congr 1
  funext a
  simp
theorem find_at {α : Type} {p : α → Bool} : ∀ {l : List α} {j : Nat} {a : α}, l[j]? = some a → p a = true → (∀ i, i < j → ∀ c, l[i]? = some c → p c = false) → l.find? p = some a
  | [], _, _, h, _, _ => by simp at h
  | x :: l, 0, a, h, hp, _ => by
    simp at h
    subst h
    simp [hp]
  | x :: l, j + 1, a, h, hp, hn => by
    have hx := hn 0 (by omega) x rfl
    rw [List.find?_cons, hx]
    exact find_at (j := j) (by simpa using h) hp fun i hi c hc => hn (i + 1) (by omega) c (by simpa using hc)
theorem find_no {α : Type} {p : α → Bool} {l : List α} (h : ∀ i, i < l.length → ∀ c, l[i]? = some c → p c = false) : l.find? p = none := List.find?_eq_none.mpr fun x hx => by
  obtain ⟨i, hi⟩ := List.mem_iff_getElem?.mp hx
  have := h i (List.getElem?_eq_some_iff.mp hi).1 x hi
  simp [this]
theorem clean_mach (a : List Str) : clean (nmT a) = true := clean_nmT a
theorem zipIdx_get {α : Type} {A : List α} {i : Nat} {a : α} (h : A[i]? = some a) : A.zipIdx[i]? = some (a, i) := by
  rw [List.getElem?_zipIdx, h]
  simp
theorem join1 (cs : List Nat) : Txt.join ⟨#[]⟩ (cs.map fun c => (⟨#[c]⟩ : Str)) = ⟨cs.toArray⟩ := by
  have e : ∀ cs : List Nat, TL.joinL [] (cs.map fun c => [c]) = cs := fun cs => by
    induction cs with
    | nil => rfl
    | cons c cs ih =>
      cases cs with
      | nil => rfl
      | cons d cs =>
        show c :: ([] ++ TL.joinL [] ((d :: cs).map fun c => [c])) = _
        rw [ih]
        rfl
  have h := TL.tl_join ⟨#[]⟩ (cs.map fun c => (⟨#[c]⟩ : Str))
  rw [TL.join_eq]
  rw [List.map_map] at h
  have h2 : TL.tl (Str.join ⟨#[]⟩ (cs.map fun c => (⟨#[c]⟩ : Str))) = cs := h.trans (e cs)
  have ex : ∀ (z : Str) (l : List Nat), z.cps.toList = l → z = ⟨l.toArray⟩ := fun z l e => by
    cases z with
    | mk cps =>
      subst e
      simp
  exact ex _ _ h2
/-- a machine of the law, as its defs see it -/
structure Mok (ins outs : List Str) (A : List Arc) : Prop where
  snd : Snd ins outs A
  nms : Nms 1 ins []
  nmo : Nms 0 outs ins
def preDraw : Pre := pl fun as k => ∃ m : Nat, as = [.da (.int (m : Int))] ∧ 1 ≤ m ∧ m ≤ 1000 ∧ ∀ r : Nat, r < m → k (.da (.int (r : Int)))
def preShuf : Pre := pl fun as k => ∃ ds : List PyData, as = [.da (.list ds)] ∧ ds.length ≤ 900 ∧ ∀ es : List PyData, es.Perm ds → k (.da (.list es))
def preLname : Pre := pl fun as k => ∃ ns : List Str, as = [.da (nmL ns)] ∧ ns.length ≤ 6 ∧ ∀ s : Str, Good s → s ∉ ns → k (.da (.str s))
def preLnames : Pre := pl fun as k => ∃ (m : Nat) (ts : List Str), as = [.da (.int (m : Int)), .da (nmL ts)] ∧ m ≤ 3 ∧ ts.length ≤ 3 ∧ ∀ ns : List Str, ns.length = m → Nms 0 ns ts → k (.da (nmL ns))
def preBits : Pre := pl fun as k => ∃ n : Nat, as = [.da (.int (n : Int))] ∧ n ≤ 3 ∧ ∀ s : Str, Bits n s → k (.da (.str s))
def preDiffer : Pre := pl fun as k => ∃ (l r : Str) (ns : List Str), as = [.da (.str l), .da (.str r), .da (nmL ns)] ∧ Bits ns.length l ∧ Bits ns.length r ∧ ns.length ≤ 3 ∧ k (.da (nmT (diff l r ns)))
def preEdge : Pre := pl fun as k => ∃ (ins outs : List Str) (vs : List Val) (es : List Edg) (l r : Nat), as = [.da (nmL ins), .da (valsL vs), .da (edgL es), .da (.int (l : Int)), .da (.int (r : Int))] ∧ Nok ins ∧ Vok ins outs vs ∧ Eok vs.length es ∧ l < vs.length ∧ r < vs.length ∧ k (.da (edgL (edgeF ins vs es l r)))
def preRebuilt : Pre := pl fun as k => ∃ (ins outs : List Str) (vs : List Val) (es : List Edg), as = [.da (nmL ins), .da (valsL vs), .da (edgL es)] ∧ Nok ins ∧ Vok ins outs vs ∧ Eok vs.length es ∧ k (.da (edgL (rebuilt ins vs es)))
def prePlan : Pre := pl fun as k => ∃ (ins outs : List Str), as = [.da (nmL ins), .da (nmL outs), .da (.int 8)] ∧ Nok ins ∧ outs.length ≤ 3 ∧ 1 ≤ ins.length ∧ ∀ vs es, Plan ins outs vs es → k (.da (.tuple [valsL vs, edgL es]))
def preLarcs : Pre := pl fun as k => ∃ (ins outs : List Str) (vs : List Val) (es : List Edg), as = [.da (nmL ins), .da (nmL outs), .da (valsL vs), .da (edgL es)] ∧ ins.length ≤ 3 ∧ outs.length ≤ 3 ∧ Vok ins outs vs ∧ Eok vs.length es ∧ k (.da (arcsL (es.map (arcOf ins outs vs))))
def preDoubled : Pre := pl fun as k => ∃ (ins outs : List Str) (vs : List Val) (es : List Edg) (p : Nat), as = [.da (valsL vs), .da (edgL es), .da (.int (p : Int))] ∧ Vok ins outs vs ∧ Eok vs.length es ∧ es.length ≤ 16 ∧ p < vs.length ∧ ∀ vs' es', Vok ins outs vs' → Eok vs'.length es' → k (.da (.tuple [valsL vs', edgL es']))
def preRenum : Pre := pl fun as k => ∃ (ins outs : List Str) (vs : List Val) (es : List Edg), as = [.da (valsL vs), .da (edgL es)] ∧ Vok ins outs vs ∧ Eok vs.length es ∧ ∀ vs' es', Vok ins outs vs' → Eok vs'.length es' → k (.da (.tuple [valsL vs', edgL es']))
def preVaried : Pre := pl fun as k => ∃ (ins outs : List Str) (vs : List Val) (es : List Edg), as = [.da (nmL ins), .da (nmL outs), .da (valsL vs), .da (edgL es)] ∧ Nok ins ∧ outs.length ≤ 3 ∧ Vok ins outs vs ∧ Eok vs.length es ∧ es.length ≤ 16 ∧ ∀ vs' es', Plan ins outs vs' es' → k (.da (.tuple [valsL vs', edgL es']))
def preGo : Pre := pl fun as k => ∃ (ins : List Str) (A : List Arc) (x : Nat) (arr : List Str) (n : Str), as = [.da (arcsL A), .da (nmL ins), .da (stdD x arr), .da (.str n)] ∧ Nok ins ∧ A.length ≤ 16 ∧ arr.length ≤ 3 ∧ (∀ a ∈ A, a.b.length ≤ 3 ∧ ∀ n ∈ a.b, PyData.strOk n = true) ∧ PyData.strOk n = true ∧ k (.da (stepD (Bst.go A ins (x, arr) n)))
/-- data of the law's comparison: texts, ints, lists and tuples of such, so deep -/
def Sm : Nat → PyData → Prop
  | _, .none => True
  | _, .int _ => True
  | _, .str s => PyData.strOk s = true
  | n + 1, .list ds => ds.length ≤ 10000 ∧ ∀ d ∈ ds, Sm n d
  | n + 1, .tuple ds => ds.length ≤ 10000 ∧ ∀ d ∈ ds, Sm n d
  | _, _ => False
def preSame (n : Nat) : Pre := pl fun as k => ∃ d : PyData, as = [.da d, .da d] ∧ Sm n d ∧ k (.da (.bool true))
def preSame' : Nat → Pre
  | 0 => fun _ _ _ => False
  | n + 1 => preSame n
def preExits : Pre := pl fun as k => ∃ (ins outs : List Str) (A : List Arc) (y : Nat), as = [.da (arcsL A), .da (nmL ins), .da (.int (y : Int))] ∧ Mok ins outs A ∧ k (.da (.list ((exits ins A y).map (exD ins))))
def preFirst : Pre := pl fun as k => ∃ (ins outs : List Str) (AL AR : List Arc), as = [.da (nmL ins), .da (arcsL AL), .da (arcsL AR)] ∧ Mok ins outs AL ∧ Mok ins outs AR ∧ k (.da (rowO (Bst.told AL (exits ins AR))))
def preAns : Pre := pl fun as k => ∃ (ins outs : List Str) (A : List Arc) (r : List (List Str)), as = [.da (arcsL A), .da (rowD r)] ∧ Mok ins outs A ∧ r.length ≤ 1000 ∧ (∀ b ∈ r, b.Sublist ins) ∧ k (.da (rowO (Bst.ans A 0 r)))
def preRows : Pre := pl fun as k => ∃ (ins outs : List Str) (A : List Arc), as = [.da (arcsL A), .da (nmL ins), .da (.int 4)] ∧ Mok ins outs A ∧ k (.da (.list ((Bst.rows (exits ins A) 4).map rowD)))
def preJudged : Pre := pl fun as k => ∃ (ins outs : List Str) (AL AR : List Arc) (t : Option (List (List Str))), as = [.da (nmL ins), .da (arcsL AL), .da (arcsL AR), .da (rowO t)] ∧ Mok ins outs AL ∧ Mok ins outs AR ∧ (∀ r, t = some r → r.length ≤ 1000 ∧ ∀ b ∈ r, b.Sublist ins) ∧ k (.da (.bool (Bst.judge AL AR t (Bst.rows (exits ins AR) 4))))
def preFollowed (C : Addr) : Pre := pl fun as k => ∃ (ins outs : List Str) (AL AR : List Arc) (P : Nat × Nat → Prop), as = [.da (nmL ins), machV C ins outs AL, machV C ins outs AR, .da (arcsL AR)] ∧ Mok ins outs AL ∧ Mok ins outs AR ∧ P (0, 0) ∧ Bst.Sim AL AR P ∧ k (.da (.bool true))
/-- a row leaves as a new list -/
def preDoes (C : Addr) : Pre := fun as k kf => ∃ (ins outs : List Str) (AL AR : List Arc), as = [machV C ins outs AL, machV C ins outs AR] ∧ Mok ins outs AL ∧ Mok ins outs AR ∧ (∀ r, Bst.told AL (exits ins AR) = some r → kf (r.map nmT)) ∧ (Bst.told AL (exits ins AR) = none → k (.da .none))
def preArcsBy (C : Addr) : Pre := pl fun as k => ∃ (ins outs : List Str) (A : List Arc) (y : Nat), as = [machV C ins outs A, .da (.int (y : Int))] ∧ Mok ins outs A ∧ k (.da (arcsL (exits ins A y)))

theorem ok_nmT {ns : List Str} (h : ∀ n ∈ ns, PyData.strOk n = true) : Ok 1 (nmT ns) := Ok.tup (n := 0) fun d hd => by
  obtain ⟨n, hn, rfl⟩ := List.mem_map.mp hd
  exact Ok.str (h n hn)
theorem sharp_nmT (ns : List Str) : sharp (nmT ns) = true := sharp_tup fun d hd => by
  obtain ⟨n, hn, rfl⟩ := List.mem_map.mp hd
  rfl
theorem ok_arcD {a : Arc} (h1 : ∀ n ∈ a.b, PyData.strOk n = true) (h2 : ∀ n ∈ a.f, PyData.strOk n = true) : Ok 2 (arcD a) := Ok.tup (n := 1) fun d hd => by
  simp only [List.mem_cons, List.mem_nil_iff, or_false] at hd
  rcases hd with rfl | rfl | rfl | rfl
  · exact Ok.int
  · exact ok_nmT h1
  · exact ok_nmT h2
  · exact Ok.int
theorem ok_rowD {r : List (List Str)} (h : ∀ b ∈ r, ∀ n ∈ b, PyData.strOk n = true) : Ok 2 (rowD r) := Ok.lst (n := 1) fun d hd => by
  obtain ⟨b, hb, rfl⟩ := List.mem_map.mp hd
  exact ok_nmT (h b hb)
theorem sharp_rowD (r : List (List Str)) : sharp (rowD r) = true := sharp_lst fun d hd => by
  obtain ⟨b, hb, rfl⟩ := List.mem_map.mp hd
  exact sharp_nmT b
theorem nmT_inj {a b : List Str} (h : nmT a = nmT b) : a = b := strs_inj (PyData.tuple.inj h)
theorem rowD_inj : ∀ {r s : List (List Str)}, rowD r = rowD s → r = s
  | [], [], _ => rfl
  | [], _ :: _, h => nomatch h
  | _ :: _, [], h => nomatch h
  | x :: r, y :: s, h => by
    have h1 := List.cons.inj (PyData.list.inj h)
    rw [nmT_inj h1.1, rowD_inj (show rowD r = rowD s from congrArg PyData.list h1.2)]
/-- xs == [] -/
theorem op_eqNil {K : PySem.W.Frag} {k : Vl → Prop} {x : Vl} {ds : List PyData} (e : datOf x = .list ds) (h : okD (.list ds) = true) (q : k (.da (.bool ds.isEmpty))) : Op (rEqD K) x (.da (.list [])) k :=
  op_eq (by rw [e]; exact h) ((Ok.lst (n := 0) (ds := []) (by simp)).d (by decide)) (by
    rw [e]
    have : PyData.eqv (.list ds) (datOf (.da (.list []))) = ds.isEmpty := by cases ds <;> simp [datOf, PyData.eqv, PyData.eqvAll]
    rw [this]
    exact q)
theorem op_neNil {K : PySem.W.Frag} {k : Vl → Prop} {x : Vl} {ds : List PyData} (e : datOf x = .list ds) (h : okD (.list ds) = true) (q : k (.da (.bool (!ds.isEmpty)))) : Op (rNeD K) x (.da (.list [])) k :=
  op_ne (by rw [e]; exact h) ((Ok.lst (n := 0) (ds := []) (by simp)).d (by decide)) (by
    rw [e]
    have : PyData.eqv (.list ds) (datOf (.da (.list []))) = ds.isEmpty := by cases ds <;> simp [datOf, PyData.eqv, PyData.eqvAll]
    rw [this]
    exact q)
theorem Good.ok {s : Str} (h : Good s) : PyData.strOk s = true := by
  obtain ⟨_, _, _, h4⟩ := h
  simp only [PyData.strOk, Array.all_eq_true']
  intro c hc
  have h5 := h4 c (by simpa using hc)
  unfold GoodC at h5
  rw [Bool.or_eq_true] at h5
  have f1 : ∀ c ∈ fst26.cps.toList, c < 0x110000 := by decide +kernel
  have f2 : ∀ c ∈ dig10.cps.toList, c < 0x110000 := by decide +kernel
  rcases h5 with h5 | h5
  · exact decide_eq_true (f1 c (of_decide_eq_true h5))
  · exact decide_eq_true (f2 c (of_decide_eq_true h5))
theorem Nms.nok {l : Nat} {ns os : List Str} (h : Nms l ns os) : Nok ns := ⟨h.2.1, fun n hn => (h.2.2.2.1 n hn).ok⟩
theorem val_get {vs : List Val} {i : Nat} (h : i < vs.length) : (vs.map valD')[i]? = some (valD' (valAt vs i)) := map_get (by
  unfold valAt
  rw [List.getD_eq_getElem?_getD, List.getElem?_eq_getElem h]
  rfl)
theorem val_mem {vs : List Val} {i : Nat} (h : i < vs.length) : valAt vs i ∈ vs := by
  unfold valAt
  rw [List.getD_eq_getElem?_getD, List.getElem?_eq_getElem h]
  exact List.getElem_mem h
theorem diff_sub (l r : Str) (ns : List Str) : (diff l r ns).Sublist ns := by
  unfold diff
  have h := (List.filter_sublist (p := fun p : Str × Nat => decide (l.cps.toList[p.2]? ≠ r.cps.toList[p.2]?)) (l := ns.zipIdx)).map (·.1)
  rw [show ns.zipIdx.map (·.1) = ns by simp] at h
  exact h
theorem edge_ok {ins : List Str} {vs : List Val} {es : List Edg} {l r : Nat} (h : es.length ≤ 16) (he : ∀ e ∈ es, e.1 < vs.length ∧ e.2 < vs.length) (hl : l < vs.length) (hr : r < vs.length) : (edgeF ins vs es l r).length ≤ 16 ∧ ∀ e ∈ edgeF ins vs es l r, e.1 < vs.length ∧ e.2 < vs.length := by
  unfold edgeF
  split
  · exact ⟨h, he⟩
  · rename_i h1
    split
    · exact ⟨h, he⟩
    · refine ⟨by simp; omega, fun e hm => ?_⟩
      rcases List.mem_append.mp hm with hm | hm
      · exact he e hm
      · simp at hm
        subst hm
        exact ⟨hl, hr⟩
theorem rebuilt_ok {ins : List Str} {vs : List Val} {es : List Edg} (he : ∀ e ∈ es, e.1 < vs.length ∧ e.2 < vs.length) : (rebuilt ins vs es).length ≤ 16 ∧ ∀ e ∈ rebuilt ins vs es, e.1 < vs.length ∧ e.2 < vs.length := by
  unfold rebuilt
  have main : ∀ (es acc : List Edg), (∀ e ∈ es, e.1 < vs.length ∧ e.2 < vs.length) → acc.length ≤ 16 → (∀ e ∈ acc, e.1 < vs.length ∧ e.2 < vs.length) → (es.foldl (fun acc e => edgeF ins vs acc e.1 e.2) acc).length ≤ 16 ∧ ∀ e ∈ es.foldl (fun acc e => edgeF ins vs acc e.1 e.2) acc, e.1 < vs.length ∧ e.2 < vs.length := fun es => by
    induction es with
    | nil => exact fun acc _ h1 h2 => ⟨h1, h2⟩
    | cons e es ih =>
      intro acc h1 h2 h3
      obtain ⟨q1, q2⟩ := edge_ok (ins := ins) h2 h3 (h1 e (by simp)).1 (h1 e (by simp)).2
      exact ih _ (fun e he => h1 e (by simp [he])) q1 q2
  exact main es [] he (by simp) (by simp)
end Bw

namespace Bw
open PySem PySem.Spec PyProof.Rows L2 Bd
/-! ### the sorted exits of a state -/
def ix (ins : List Str) (b : List Str) : List Int := b.map fun n => ((ins.idxOf n : Nat) : Int)
def bl (ins : List Str) (p q : List Str) : Prop := ix ins p < ix ins q
theorem key_ints (ins : List Str) (a : Arc) : key ins a = .tuple ((ix ins a.b).map .int) := by
  unfold key intsT ix
  rw [List.map_map, List.map_map]
  rfl
theorem dataLt_key (ins : List Str) (a c : Arc) : PySem.W.dataLt (key ins a) (key ins c) = decide (ix ins a.b < ix ins c.b) := by
  rw [key_ints, key_ints, PySem.W.dataLt_tuple]
  exact PySem.W.dataLt_ints _ _
theorem dataLe_key (ins : List Str) : PySem.W.dataLe false (key ins) = fun a c : Arc => decide (ix ins a.b ≤ ix ins c.b) := by
  funext a c
  rw [PySem.W.dataLe_eq]
  show (!PySem.W.dataLt (key ins c) (key ins a)) = _
  rw [dataLt_key]
  by_cases h : ix ins c.b < ix ins a.b
  · have h' : ¬ ix ins a.b ≤ ix ins c.b := fun r => List.not_lt.mpr r h
    simp [h, h']
  · have h' : ix ins a.b ≤ ix ins c.b := List.not_lt.mp h
    simp [h, h']
theorem ix_inj {ins : List Str} : ∀ {p q : List Str}, (∀ n ∈ p, n ∈ ins) → (∀ n ∈ q, n ∈ ins) → ix ins p = ix ins q → p = q
  | [], [], _, _, _ => rfl
  | [], _ :: _, _, _, h => nomatch h
  | _ :: _, [], _, _, h => nomatch h
  | x :: p, y :: q, hp, hq, h => by
    have h1 : ((ins.idxOf x : Nat) : Int) = ((ins.idxOf y : Nat) : Int) := (List.cons.inj h).1
    have h2 : ins.idxOf x = ins.idxOf y := by omega
    have hx : ins.idxOf x < ins.length := List.idxOf_lt_length_iff.mpr (hp x (by simp))
    have hy : ins.idxOf y < ins.length := List.idxOf_lt_length_iff.mpr (hq y (by simp))
    have e : x = y := by
      have e1 : ins[ins.idxOf x] = x := List.getElem_idxOf hx
      have e2 : ins[ins.idxOf y] = y := List.getElem_idxOf hy
      rw [← e1, ← e2]
      congr 1
    rw [e, ix_inj (fun n hn => hp n (by simp [hn])) (fun n hn => hq n (by simp [hn])) (List.cons.inj h).2]
section
variable {ins outs : List Str} {A : List Arc}
theorem mem_exits {y : Nat} {a : Arc} : a ∈ exits ins A y ↔ a ∈ A ∧ a.s = y := by
  unfold exits
  rw [(List.mergeSort_perm _ _).mem_iff, List.mem_filter]
  simp
theorem exits_len (y : Nat) : (exits ins A y).length ≤ A.length := by
  unfold exits
  rw [List.length_mergeSort]
  exact List.length_filter_le _ _
theorem Mok.bin (h : Mok ins outs A) {a : Arc} (ha : a ∈ A) : ∀ n ∈ a.b, n ∈ ins := fun n hn => (h.snd.ib a ha).2.subset hn
theorem Mok.same (h : Mok ins outs A) {a c : Arc} (ha : a ∈ A) (hc : c ∈ A) (e : a.s = c.s) (eb : a.b = c.b) : a = c :=
  Bst.anti_eq h.snd.anti ha hc e (by rw [eb]; exact Bst.wth_refl _)
/-- by the whole row, or by its first item: the same order -/
theorem sort_full (h : Mok ins outs A) (y : Nat) : (A.filter fun a => decide (a.s = y)).mergeSort (PySem.W.dataLe false (exD ins)) = exits ins A y := by
  unfold exits
  refine PySem.W.sort_congr fun a ha c hc => ?_
  have ha' := List.mem_filter.mp ha
  have hc' := List.mem_filter.mp hc
  rw [PySem.W.dataLe_eq, PySem.W.dataLe_eq]
  show (!PySem.W.dataLt (exD ins c) (exD ins a)) = (!PySem.W.dataLt (key ins c) (key ins a))
  congr 1
  unfold exD
  have hal : PySem.W.alike (key ins c) (key ins a) = true := by
    rw [key_ints, key_ints, PySem.W.alike]
    exact PySem.W.alike_ints _ _
  rw [PySem.W.dataLt_tuple, PySem.W.dataLt_cons hal]
  by_cases q : PyData.eqv (key ins c) (key ins a) = true
  · rw [if_pos q]
    have sh : ∀ a : Arc, sharp (key ins a) = true := fun a => sharp_tup fun d hd => by
      obtain ⟨n, _, rfl⟩ := List.mem_map.mp hd
      rfl
    have ek := (eqv_sharp _ _ (sh c) (sh a)).mp q
    rw [key_ints, key_ints] at ek
    have intsInj : ∀ {x z : List Int}, x.map PyData.int = z.map PyData.int → x = z := fun {x z} e => by
      have := congrArg (List.map fun d => match d with | PyData.int i => i | _ => 0) e
      simpa [List.map_map, Function.comp_def] using this
    have eb := ix_inj (h.bin hc'.1) (h.bin ha'.1) (intsInj (PyData.tuple.inj ek))
    have e : c = a := h.same hc'.1 ha'.1 ((of_decide_eq_true hc'.2).trans (of_decide_eq_true ha'.2).symm) eb
    subst e
    rw [PyProof.Rows.lex_irrefl, dataLt_key]
    exact (decide_eq_false (List.lt_irrefl _)).symm
  · rw [if_neg q]
theorem le_total' (x y : List Int) : x ≤ y ∨ y ≤ x := List.le_total x y
theorem exits_ord (h : Mok ins outs A) (y : Nat) : (exits ins A y).Pairwise fun a c => bl ins a.b c.b := by
  have hs : (exits ins A y).Pairwise fun a c => decide (ix ins a.b ≤ ix ins c.b) = true := by
    unfold exits
    rw [dataLe_key]
    refine List.pairwise_mergeSort (le := fun a c : Arc => decide (ix ins a.b ≤ ix ins c.b)) (fun a b c h1 h2 => ?_) (fun a b => ?_) _
    · exact decide_eq_true (List.le_trans (of_decide_eq_true h1) (of_decide_eq_true h2))
    rcases List.le_total (ix ins a.b) (ix ins b.b) with z | z
    · rw [decide_eq_true z]
      rfl
    · rw [decide_eq_true z, Bool.or_true]
  have hnd : (exits ins A y).Pairwise fun a c => a.b ≠ c.b := by
    have h0 : (A.filter fun a => decide (a.s = y)).Pairwise fun a c => a.b ≠ c.b := by
      refine List.pairwise_filter.mpr (h.snd.anti.imp fun {a c} w h1 h2 e => ?_)
      have := (w ((of_decide_eq_true h1).trans (of_decide_eq_true h2).symm)).1
      rw [e, Bst.wth_refl] at this
      cases this
    unfold exits
    exact (List.mergeSort_perm _ _).symm.pairwise h0 fun e => e.symm
  refine List.pairwise_iff_getElem.mpr fun i j hi hj hij => ?_
  have h1 := of_decide_eq_true (List.pairwise_iff_getElem.mp hs i j hi hj hij)
  have h2 := List.pairwise_iff_getElem.mp hnd i j hi hj hij
  have m1 := (mem_exits.mp (List.getElem_mem hi)).1
  have m2 := (mem_exits.mp (List.getElem_mem hj)).1
  show ix ins _ < ix ins _
  refine Classical.byContradiction fun q => h2 (ix_inj (h.bin m1) (h.bin m2) ?_)
  exact List.le_antisymm h1 (List.not_lt.mp q)
theorem look_exits (h : Mok ins outs A) (y : Nat) (a : Arc) : a ∈ exits ins A y ↔ Bst.look A y a.b = some a := by
  rw [mem_exits]
  constructor
  · rintro ⟨ha, rfl⟩
    exact Bst.look_of h.snd.anti ha
  · intro e
    obtain ⟨h1, h2, _⟩ := Bst.look_some e
    exact ⟨h1, h2⟩
theorem sys_of {AL AR : List Arc} (hL : Mok ins outs AL) (hR : Mok ins outs AR) : Bst.Sys AL AR (exits ins AR) (bl ins) where
  irr := fun x => List.lt_irrefl _
  tr := fun x y z => List.lt_trans
  mem := look_exits hR
  ord := exits_ord hR
  lowL := fun a ha => (hL.snd.lo a ha).2
  lowR := fun a ha => (hR.snd.lo a ha).2
/-- the first exit with a burst is the arc itself -/
theorem exits_hit (h : Mok ins outs A) (y : Nat) (b : List Str) : ((exits ins A y).filter fun a => decide (a.b = b)).head? = Bst.look A y b := by
  rw [List.head?_filter]
  cases q : Bst.look A y b with
  | none =>
    refine List.find?_eq_none.mpr fun a ha hb => ?_
    have := (look_exits h y a).mp ha
    rw [of_decide_eq_true hb, q] at this
    cases this
  | some c =>
    obtain ⟨c1, c2, c3⟩ := Bst.look_some q
    have hc : c ∈ exits ins A y := mem_exits.mpr ⟨c1, c2⟩
    cases r : (exits ins A y).find? fun a => decide (a.b = b) with
    | none => exact absurd (decide_eq_true c3) (List.find?_eq_none.mp r c hc)
    | some d =>
      have d1 := mem_exits.mp (List.mem_of_find?_eq_some r)
      have d2 : d.b = b := by
        have := List.find?_some r
        simpa using this
      rw [h.same d1.1 c1 (d1.2.trans c2.symm) (d2.trans c3.symm)]
/-! ### what sorting asks -/
theorem alike_strs : ∀ xs ys : List Str, PySem.W.alikeAll (xs.map .str) (ys.map .str) = true
  | [], _ => by simp [PySem.W.alikeAll]
  | _ :: _, [] => by simp [PySem.W.alikeAll]
  | x :: xs, y :: ys => by
    have := alike_strs xs ys
    simp [PySem.W.alikeAll, PySem.W.alike, this]
theorem alike_exD (ins : List Str) (a c : Arc) : PySem.W.alike (exD ins a) (exD ins c) = true := by
  have h1 : PySem.W.alike (key ins a) (key ins c) = true := by
    rw [key_ints, key_ints, PySem.W.alike]
    exact PySem.W.alike_ints _ _
  have h2 : ∀ p q : List Str, PySem.W.alike (nmT p) (nmT q) = true := fun p q => by
    unfold nmT
    rw [PySem.W.alike]
    exact alike_strs p q
  unfold exD
  rw [PySem.W.alike]
  simp [PySem.W.alikeAll, h1, h2, PySem.W.alike]
theorem ok_key (ins : List Str) (a : Arc) : Ok 1 (key ins a) := Ok.tup (n := 0) fun d hd => by
  obtain ⟨n, _, rfl⟩ := List.mem_map.mp hd
  exact Ok.int
theorem ok_exD {a : Arc} (h1 : ∀ n ∈ a.b, PyData.strOk n = true) (h2 : ∀ n ∈ a.f, PyData.strOk n = true) : Ok 2 (exD ins a) := Ok.tup (n := 1) fun d hd => by
  simp only [List.mem_cons, List.mem_nil_iff, or_false] at hd
  rcases hd with rfl | rfl | rfl | rfl
  · exact ok_key ins a
  · exact ok_nmT h1
  · exact ok_nmT h2
  · exact Ok.int
theorem clean_exD (ins : List Str) (a : Arc) : clean (exD ins a) = true := by
  have h1 := (ok_key ins a).1
  have h2 := clean_nmT a.b
  have h3 := clean_nmT a.f
  simp [exD, clean, cleanA, h1, h2, h3]
theorem Mok.bok (h : Mok ins outs A) {a : Arc} (ha : a ∈ A) : ∀ n ∈ a.b, PyData.strOk n = true := fun n hn => h.nms.nok.2 n (h.bin ha n hn)
theorem Mok.fok (h : Mok ins outs A) {a : Arc} (ha : a ∈ A) : ∀ n ∈ a.f, PyData.strOk n = true := fun n hn => h.nmo.nok.2 n ((h.snd.ob a ha).subset hn)
/-- xs.index(x) of a list of names -/
theorem mt_ixN {K : PySem.W.Frag} {k : Vl → Prop} {ns : List Str} {n : Str} (hn : n ∈ ns) (ok : ∀ m ∈ ns, PyData.strOk m = true) (q : k (.da (.int ((ns.idxOf n : Nat) : Int)))) : Mt "list" K (rIndexD K) (.da (nmL ns)) [.da (.str n)] k := by
  have hl : ns.idxOf n < ns.length := List.idxOf_lt_length_iff.mpr hn
  have hg : ns[ns.idxOf n]? = some n := by rw [List.getElem?_eq_getElem hl, List.getElem_idxOf]
  refine mt_ixD (ds := ns.map .str) (j := ns.idxOf n) (z0 := .str n) rfl ((Ok.str (n := 0) (ok n hn)).d (by decide)) ((Ok.lst (n := 0) fun d hd => ?_).d (by decide)) (map_get hg) ?_ (fun m z' hm hz => ?_) q
  · obtain ⟨x, hx, rfl⟩ := List.mem_map.mp hd
    exact Ok.str (ok x hx)
  · exact (eqv_sharp _ _ rfl rfl).mpr rfl
  · obtain ⟨x, hx, rfl⟩ := at_map hz
    refine Bool.eq_false_iff.mpr fun z => ?_
    have e : PyData.str x = .str n := (eqv_sharp _ _ rfl rfl).mp z
    have e : x = n := by
      injection e
    obtain ⟨h5, h6⟩ := List.getElem?_eq_some_iff.mp hx
    have h7 := List.not_of_lt_findIdx (xs := ns) (p := fun x => x == n) (i := m) hm
    rw [h6, e] at h7
    simp at h7
theorem se_sub {g : G} {t : TS} {c : Bd.Ctx} {E E' : Ed} (h : Se g t c E') (h1 : ∀ c', E'.nx c' → E.nx c') (h2 : ∀ x, E'.rt x → E.rt x) (h3 : ∀ x, E'.rf x → E.rf x) (h4 : ∀ c', E'.bk c' → E.bk c') (h5 : ∀ c', E'.ct c' → E.ct c') : Se g t c E := fun N σ H r D z =>
  h N σ H r D ⟨fun c' σ' N' H' e r' m => z.nx c' σ' N' H' (h1 _ e) r' m, fun c' σ' N' H' e r' m => z.bk c' σ' N' H' (h4 _ e) r' m, fun c' σ' N' H' e r' m => z.ct c' σ' N' H' (h5 _ e) r' m,
    fun x v H' e => z.rt x v H' (h2 _ e), fun ds a xs H' e => z.rf ds a xs H' (h3 _ e)⟩
/-- between two statements only this is known -/
theorem se_cut {g : G} {t u : TS} {c : Bd.Ctx} {E : Ed} (I : Bd.Ctx → Prop) (h : Se g t c { E with nx := I }) (h2 : ∀ c', I c' → Se g u c' E) : Se g (tSeq t u) c E := se_seq (se_sub h h2 (fun _ h => h) (fun _ h => h) (fun _ h => h) (fun _ h => h))
theorem cutD_take (ds : List PyData) (n : Nat) : Bd.cutD ds none (some (n : Int)) = ds.take n := by
  unfold Bd.cutD
  rw [HT.sIx_none, HT.sIx_nat, List.drop_zero, Nat.sub_zero]
  rcases Nat.le_total n ds.length with h | h
  · rw [Nat.min_eq_left h]
  · rw [Nat.min_eq_right h, List.take_of_length_le (Nat.le_refl _), List.take_of_length_le h]
theorem cutD_drop (ds : List PyData) (n : Nat) : Bd.cutD ds (some (n : Int)) none = ds.drop n := by
  unfold Bd.cutD
  rw [HT.sIx_none, HT.sIx_nat]
  rcases Nat.le_total n ds.length with h | h
  · rw [Nat.min_eq_left h, List.take_of_length_le (by simp)]
  · rw [Nat.min_eq_right h, List.drop_eq_nil_of_le h, List.drop_eq_nil_of_le (Nat.le_refl _)]
    simp
/-- another order of the same data is another order of what they stand for -/
theorem perm_back {α : Type} {f : α → PyData} (inj : ∀ a b, f a = f b → a = b) : ∀ {l : List α} {es : List PyData}, es.Perm (l.map f) → ∃ l' : List α, es = l'.map f ∧ l'.Perm l := fun {l es} h => by
  have all : ∀ e ∈ es, ∃ a, f a = e := fun e he => by
    have := h.mem_iff.mp he
    obtain ⟨a, _, rfl⟩ := List.mem_map.mp this
    exact ⟨a, rfl⟩
  have pre : ∀ es : List PyData, (∀ e ∈ es, ∃ a, f a = e) → ∃ l' : List α, es = l'.map f := fun es => by
    induction es with
    | nil => exact fun _ => ⟨[], rfl⟩
    | cons e es ih =>
      intro h
      obtain ⟨a, ha⟩ := h e (by simp)
      obtain ⟨l', hl⟩ := ih fun x hx => h x (by simp [hx])
      exact ⟨a :: l', by rw [List.map_cons, ha, hl]⟩
  obtain ⟨l', hl⟩ := pre es all
  refine ⟨l', hl, ?_⟩
  subst hl
  have main : ∀ (a b : List α), (a.map f).Perm (b.map f) → a.Perm b := fun a => by
    induction a with
    | nil =>
      intro b h
      have := h.length_eq
      cases b with
      | nil => exact .refl _
      | cons _ _ => simp at this
    | cons x a ih =>
      intro b h
      have hm : f x ∈ b.map f := h.mem_iff.mp (by simp)
      obtain ⟨y, hy, hxy⟩ := List.mem_map.mp hm
      have hyx := inj y x hxy
      subst hyx
      obtain ⟨b1, b2, rfl⟩ := List.append_of_mem hy
      have h2 : (f y :: a.map f).Perm (f y :: (b1 ++ b2).map f) := h.trans (by
        rw [List.map_append, List.map_append, List.map_cons]
        exact List.perm_middle)
      exact ((ih _ (h2.cons_inv)).cons y).trans List.perm_middle.symm
  exact main l' l h
theorem op_neT {K : PySem.W.Frag} {k : Vl → Prop} {a b : List Str} (h1 : ∀ n ∈ a, PyData.strOk n = true) (h2 : ∀ n ∈ b, PyData.strOk n = true) (q : k (.da (.bool (!decide (a = b))))) : Op (rNeD K) (.da (nmT a)) (.da (nmT b)) k := by
  refine op_ne ((ok_nmT h1).d (by decide)) ((ok_nmT h2).d (by decide)) ?_
  rw [show PyData.eqv (datOf (.da (nmT a))) (datOf (.da (nmT b))) = decide (a = b) from eqv_dec (sharp_nmT a) (sharp_nmT b) ⟨fun e => nmT_inj e, fun e => by rw [e]⟩]
  exact q
theorem ok_rowO {t : Option (List (List Str))} (h : ∀ r, t = some r → ∀ b ∈ r, ∀ n ∈ b, PyData.strOk n = true) : Ok 2 (rowO t) := by
  cases t with
  | none => exact Ok.none
  | some r => exact ok_rowD (h r rfl)
theorem sharp_rowO (t : Option (List (List Str))) : sharp (rowO t) = true := by
  cases t with
  | none => rfl
  | some r => exact sharp_rowD r
theorem rowO_inj {t u : Option (List (List Str))} (h : rowO t = rowO u) : t = u := by
  cases t with
  | none =>
    cases u with
    | none => rfl
    | some _ => cases h
  | some r =>
    cases u with
    | none => cases h
    | some s => rw [rowD_inj h]
theorem op_neO {K : PySem.W.Frag} {k : Vl → Prop} {t u : Option (List (List Str))} (h1 : ∀ r, t = some r → ∀ b ∈ r, ∀ n ∈ b, PyData.strOk n = true) (h2 : ∀ r, u = some r → ∀ b ∈ r, ∀ n ∈ b, PyData.strOk n = true) (q : k (.da (.bool (!decide (t = u))))) : Op (rNeD K) (.da (rowO t)) (.da (rowO u)) k := by
  refine op_ne ((ok_rowO h1).d (by decide)) ((ok_rowO h2).d (by decide)) ?_
  rw [show PyData.eqv (datOf (.da (rowO t))) (datOf (.da (rowO u))) = decide (t = u) from eqv_dec (sharp_rowO t) (sharp_rowO u) ⟨fun e => rowO_inj e, fun e => by rw [e]⟩]
  exact q
theorem edgD_inj {a b : Edg} (h : edgD a = edgD b) : a = b := by
  have h := PyData.tuple.inj h
  have h1 := PyData.int.inj (List.cons.inj h).1
  have h2 := PyData.int.inj (List.cons.inj (List.cons.inj h).2).1
  exact Prod.ext (by omega) (by omega)
theorem ok_edgD (e : Edg) : Ok 1 (edgD e) := Ok.tup (n := 0) fun d hd => by
  simp only [List.mem_cons, List.mem_nil_iff, or_false] at hd
  rcases hd with rfl | rfl <;> exact Ok.int
/-- a pair that is in no list of pairs -/
theorem op_niE {K : PySem.W.Frag} {k : Vl → Prop} {y : Vl} {e : Edg} {es : List Edg} (ey : datOf y = .list (es.map edgD)) (q : k (.da (.bool (!decide (e ∈ es))))) : Op (rNotInD K) (.da (edgD e)) y k := by
  refine op_niD ey ((ok_edgD e).d (by decide)) ((Ok.lst (n := 1) fun d hd => ?_).d (by decide)) ?_
  · obtain ⟨x, _, rfl⟩ := List.mem_map.mp hd
    exact ok_edgD x
  · have e1 : ((es.map edgD).any fun z => PyData.eqv z (datOf (.da (edgD e)))) = decide (e ∈ es) := by
      rw [Bool.eq_iff_iff, List.any_eq_true, decide_eq_true_iff]
      constructor
      · rintro ⟨z, hz, h⟩
        obtain ⟨x, hx, rfl⟩ := List.mem_map.mp hz
        have := (eqv_sharp (edgD x) (edgD e) rfl rfl).mp h
        rw [← edgD_inj this]
        exact hx
      · exact fun h => ⟨edgD e, List.mem_map_of_mem h, (eqv_sharp (edgD e) (edgD e) rfl rfl).mpr rfl⟩
    rw [e1]
    exact q
theorem ans_in {A : List Arc} : ∀ {r : List (List Str)} {x : Nat} {v : List (List Str)}, Bst.ans A x r = some v → (∀ b ∈ r, ∃ a ∈ A, a.b = b) ∧ ∀ f ∈ v, ∃ a ∈ A, a.f = f
  | [], _, v, h => by
    have : v = [] := (Option.some.inj h).symm
    subst this
    exact ⟨fun b hb => by simp at hb, fun f hf => by simp at hf⟩
  | b :: r, x, v, h => by
    rw [Bst.ans] at h
    cases q : Bst.look A x b with
    | none =>
      rw [q] at h
      cases h
    | some a =>
      rw [q] at h
      obtain ⟨a1, a2, a3⟩ := Bst.look_some q
      cases q2 : Bst.ans A a.t r with
      | none =>
        dsimp only at h
        rw [q2] at h
        cases h
      | some w =>
        dsimp only at h
        rw [q2] at h
        have : v = a.f :: w := (Option.some.inj h).symm
        subst this
        obtain ⟨i1, i2⟩ := ans_in q2
        refine ⟨fun b' hb => ?_, fun f hf => ?_⟩
        · rcases List.mem_cons.mp hb with rfl | hb
          · exact ⟨a, a1, a3⟩
          · exact i1 b' hb
        · rcases List.mem_cons.mp hf with rfl | hf
          · exact ⟨a, a1, rfl⟩
          · exact i2 f hf
theorem bfs_none {AL : List Arc} {ER : Nat → List Arc} : ∀ {n k : Nat} {Q : List (Bst.Ent Str)}, Q[k]? = none → Bst.bfs AL ER n k Q = none
  | 0, _, _, _ => rfl
  | n + 1, k, Q, h => by rw [Bst.bfs, h]
theorem lev_len (ER : Nat → List Arc) (h : ∀ y, (ER y).length ≤ 16) : ∀ n, (Bst.lev ER n).length ≤ 16 ^ n
  | 0 => Nat.le_refl _
  | n + 1 => by
    have ih := lev_len ER h n
    rw [Bst.lev, List.length_flatMap]
    have : ∀ l : List (Bst.Row Str × Nat), (l.map fun p => ((ER p.2).map fun a => (p.1 ++ [a.b], a.t)).length).sum ≤ l.length * 16 := fun l => by
      induction l with
      | nil => simp
      | cons p l ih =>
        have := h p.2
        simp only [List.map_cons, List.sum_cons, List.length_cons, List.length_map] at ih ⊢
        omega
    have := this (Bst.lev ER n)
    rw [Nat.pow_succ]
    exact Nat.le_trans this (Nat.mul_le_mul_right 16 ih)
end
end Bw

namespace Bw
open PySem PySem.Spec PyProof.Rows L2 Bd
/-! ### a plan's machine is sound -/
theorem mem_diff {l r : Str} {ns : List Str} (nd : ns.Nodup) {i : Nat} {n : Str} (h : ns[i]? = some n) : n ∈ diff l r ns ↔ l.cps.toList[i]? ≠ r.cps.toList[i]? := by
  unfold diff
  rw [List.mem_map]
  constructor
  · rintro ⟨p, hp, e⟩
    obtain ⟨h1, h2⟩ := List.mem_filter.mp hp
    obtain ⟨p1, p2⟩ := p
    have h3 : ns[p2]? = some p1 := List.mem_zipIdx_iff_getElem?.mp h1
    have h4 : p1 = n := e
    subst h4
    have hij : p2 = i := by
      rcases Nat.lt_trichotomy p2 i with q | q | q
      · exact absurd (List.mem_of_getElem? ((List.getElem?_take_of_lt q).trans h3)) (nodup_take nd h)
      · exact q
      · exact absurd (List.mem_of_getElem? ((List.getElem?_take_of_lt q).trans h)) (nodup_take nd h3)
    subst hij
    exact of_decide_eq_true h2
  · intro e
    exact ⟨(n, i), List.mem_filter.mpr ⟨List.mem_zipIdx_iff_getElem?.mpr h, decide_eq_true e⟩, rfl⟩
theorem trn_diff {l r : Str} {ns : List Str} (nd : ns.Nodup) (hl : Bits ns.length l) (hr : Bits ns.length r) : trn l ns (diff l r ns) = r := by
  have ll : l.cps.toList.length = ns.length := by
    have := hl.1
    simpa [Str.length] using this
  have lr : r.cps.toList.length = ns.length := by
    have := hr.1
    simpa [Str.length] using this
  have e : (l.cps.toList.zip ns).map (fun p => if p.2 ∈ diff l r ns then (if p.1 = 48 then 49 else 48) else p.1) = r.cps.toList := by
    refine List.ext_getElem (by rw [List.length_map, List.length_zip, ll, lr, Nat.min_self]) fun i h1 h2 => ?_
    have hi : i < ns.length := by omega
    have hil : i < l.cps.toList.length := by omega
    rw [List.getElem_map, List.getElem_zip]
    have hm := mem_diff (l := l) (r := r) nd (i := i) (n := ns[i]) (List.getElem?_eq_getElem hi)
    rw [List.getElem?_eq_getElem hil, List.getElem?_eq_getElem h2] at hm
    have b1 := hl.2 _ (List.getElem_mem hil)
    have b2 := hr.2 _ (List.getElem_mem h2)
    by_cases q : l.cps.toList[i] = r.cps.toList[i]
    · have : ¬ ns[i] ∈ diff l r ns := fun z => hm.mp z (by rw [q])
      dsimp only
      rw [if_neg this]
      exact q
    · have : ns[i] ∈ diff l r ns := hm.mpr fun z => q (Option.some.inj z)
      dsimp only
      rw [if_pos this]
      rcases b1 with b1 | b1 <;> rcases b2 with b2 | b2
      · exact absurd (b1.trans b2.symm) q
      · rw [if_pos b1]
        exact b2.symm
      · rw [if_neg (by rw [b1]; decide)]
        exact b2.symm
      · exact absurd (b1.trans b2.symm) q
  unfold trn
  rw [e]
def Apart (ins : List Str) (vs : List Val) (es : List Edg) : Prop := (∀ e ∈ es, dIn ins vs e.1 e.2 ≠ []) ∧
  es.Pairwise fun a c => a.1 = c.1 → Bst.wth (dIn ins vs a.1 a.2) (dIn ins vs c.1 c.2) = false ∧ Bst.wth (dIn ins vs c.1 c.2) (dIn ins vs a.1 a.2) = false
theorem edgeF_apart {ins : List Str} {vs : List Val} {es : List Edg} {l r : Nat} (h : Apart ins vs es) : Apart ins vs (edgeF ins vs es l r) := by
  unfold edgeF
  split
  · exact h
  · rename_i h1
    split
    · exact h
    · rename_i h2
      refine ⟨fun e he => ?_, List.pairwise_append.mpr ⟨h.2, by simp, fun a ha c hc e => ?_⟩⟩
      · rcases List.mem_append.mp he with he | he
        · exact h.1 e he
        · have he : e = (l, r) := by simpa using he
          subst he
          exact fun z => h1 (.inl z)
      · have hc : c = (l, r) := by simpa using hc
        subst hc
        have h3 : ¬ (decide (a.1 = l) && (Bst.wth (dIn ins vs l r) (dIn ins vs a.1 a.2) || Bst.wth (dIn ins vs a.1 a.2) (dIn ins vs l r))) = true := fun z => h2 (List.any_eq_true.mpr ⟨a, ha, z⟩)
        have e : a.1 = l := e
        rw [decide_eq_true e, Bool.true_and, Bool.or_eq_true] at h3
        exact ⟨by simpa using fun z => h3 (.inr z), by simpa using fun z => h3 (.inl z)⟩
theorem rebuilt_apart {ins : List Str} {vs : List Val} {es : List Edg} : Apart ins vs (rebuilt ins vs es) := by
  unfold rebuilt
  have main : ∀ (es acc : List Edg), Apart ins vs acc → Apart ins vs (es.foldl (fun acc e => edgeF ins vs acc e.1 e.2) acc) := fun es => by
    induction es with
    | nil => exact fun acc h => h
    | cons e es ih => exact fun acc h => ih _ (edgeF_apart h)
  exact main es [] ⟨by simp, by simp⟩
theorem valAt_get {vs : List Val} {i : Nat} {v : Val} (h : vs[i]? = some v) : valAt vs i = v := by
  unfold valAt
  rw [List.getD_eq_getElem?_getD, h]
  rfl
theorem plan_mok {ins outs : List Str} {vs : List Val} {es : List Edg} (hi : Nms 1 ins []) (ho : Nms 0 outs ins) (h : Plan ins outs vs es) : Mok ins outs (es.map (arcOf ins outs vs)) := by
  obtain ⟨⟨v1, v2, v3, v4⟩, es0, he, rfl⟩ := h
  obtain ⟨r1, r2⟩ := rebuilt_ok (ins := ins) he.2
  obtain ⟨a1, a2⟩ := rebuilt_apart (ins := ins) (vs := vs) (es := es0)
  refine ⟨⟨by rw [List.length_map]; exact r1, fun a ha => ?_, fun a ha => ?_, fun a ha => ?_, ?_, fun x => (valAt vs x).1, fun x => (valAt vs x).2, ?_, ?_, fun a ha => ?_⟩, hi, ho⟩
  · obtain ⟨e, he, rfl⟩ := List.mem_map.mp ha
    have := r2 e he
    exact ⟨Nat.lt_of_lt_of_le this.1 v2, Nat.lt_of_lt_of_le this.2 v2⟩
  · obtain ⟨e, he, rfl⟩ := List.mem_map.mp ha
    exact ⟨a1 e he, diff_sub _ _ _⟩
  · obtain ⟨e, he, rfl⟩ := List.mem_map.mp ha
    exact diff_sub _ _ _
  · unfold Bst.Anti
    rw [List.pairwise_map]
    exact a2
  · show (valAt vs 0).1 = _
    rw [valAt_get v3]
    rfl
  · show (valAt vs 0).2 = _
    rw [valAt_get v3]
    rfl
  · obtain ⟨e, he, rfl⟩ := List.mem_map.mp ha
    have hr := r2 e he
    have b1 := v4 _ (val_mem hr.1)
    have b2 := v4 _ (val_mem hr.2)
    exact ⟨trn_diff hi.2.2.1 b1.1 b2.1, trn_diff ho.2.2.1 b1.2 b2.2⟩
theorem plan_few {ins outs : List Str} {vs : List Val} {es : List Edg} (h : Plan ins outs vs es) : es.length ≤ 16 ∧ Eok vs.length es := by
  obtain ⟨_, es0, he, rfl⟩ := h
  obtain ⟨r1, r2⟩ := rebuilt_ok (ins := ins) he.2
  exact ⟨r1, by unfold Eok; exact ⟨by omega, r2⟩⟩
/-! ### told's row is short -/
theorem inner_len {AL : List Arc} {x : Nat} {p : Bst.Row Str} {B : Nat} (hp : p.length ≤ B) : ∀ (as : List Arc) (Q : List (Bst.Ent Str)), (∀ e ∈ Q, e.2.length ≤ B + 1) →
    (∀ r, Bst.inner AL x p as Q = .inl r → r.length ≤ B + 1) ∧ ∀ Q', Bst.inner AL x p as Q = .inr Q' → ∀ e ∈ Q', e.2.length ≤ B + 1
  | [], Q, hQ => ⟨(fun r h => nomatch h), (fun Q' h => by injection h with h; rw [← h]; exact hQ)⟩
  | a :: as, Q, hQ => by
    rw [Bst.inner]
    cases hl : Bst.look AL x a.b with
    | none =>
      dsimp only
      refine ⟨fun r h => ?_, fun Q' h => by cases h⟩
      cases h
      simp
      omega
    | some c =>
      dsimp only
      split
      · split
        · exact inner_len hp as Q hQ
        · refine inner_len hp as _ fun e he => ?_
          rcases List.mem_append.mp he with he | he
          · exact hQ e he
          · have he : e = ((c.t, a.t), p ++ [a.b]) := by simpa using he
            subst he
            simp
            omega
      · refine ⟨fun r h => ?_, fun Q' h => by cases h⟩
        cases h
        simp
        omega
theorem bfs_len {AL : List Arc} {ER : Nat → List Arc} : ∀ (n k B : Nat) (Q : List (Bst.Ent Str)) (r : Bst.Row Str), (∀ e ∈ Q, e.2.length ≤ B) → Bst.bfs AL ER n k Q = some r → r.length ≤ B + n
  | 0, k, B, Q, r, hQ, h => by
    rw [Bst.bfs] at h
    cases h
  | n + 1, k, B, Q, r, hQ, h => by
    rw [Bst.bfs] at h
    cases he : Q[k]? with
    | none =>
      rw [he] at h
      cases h
    | some e =>
      rw [he] at h
      dsimp only at h
      have hl := inner_len (AL := AL) (x := e.1.1) (hQ e (List.mem_of_getElem? he)) (ER e.1.2) Q fun e he => Nat.le_succ_of_le (hQ e he)
      cases hi : Bst.inner AL e.1.1 e.2 (ER e.1.2) Q with
      | inl r' =>
        rw [hi] at h
        cases h
        have := hl.1 r hi
        omega
      | inr Q' =>
        rw [hi] at h
        have := bfs_len n (k + 1) (B + 1) Q' r (hl.2 Q' hi) h
        omega
theorem told_row {ins outs : List Str} {AL AR : List Arc} (hL : Mok ins outs AL) (hR : Mok ins outs AR) {r : List (List Str)} (h : Bst.told AL (exits ins AR) = some r) : r.length ≤ 1000 ∧ ∀ b ∈ r, b.Sublist ins := by
  refine ⟨?_, fun b hb => ?_⟩
  · have := bfs_len 64 0 0 _ r (by simp) h
    omega
  · have S := sys_of hL hR
    rcases Bst.told_ok S with ⟨r', h1, h2⟩ | ⟨h1, _⟩
    · rw [h] at h1
      cases h1
      obtain ⟨v, hv⟩ := (h2.ans S).1
      obtain ⟨a, ha, rfl⟩ := (ans_in hv).1 b hb
      exact (hR.snd.ib a ha).2
    · rw [h] at h1
      cases h1
theorem sm_rowD {ins : List Str} {r : List (List Str)} (hi : Nok ins) (h : r.length ≤ 1000 ∧ ∀ b ∈ r, b.Sublist ins) : Sm 3 (rowD r) := by
  unfold rowD
  rw [Sm]
  refine ⟨by rw [List.length_map]; omega, fun d hd => ?_⟩
  obtain ⟨b, hb, rfl⟩ := List.mem_map.mp hd
  have hs := h.2 b hb
  unfold nmT
  rw [Sm]
  refine ⟨by rw [List.length_map]; have := hs.length_le; have := hi.1; omega, fun d hd => ?_⟩
  obtain ⟨n, hn, rfl⟩ := List.mem_map.mp hd
  rw [Sm]
  exact hi.2 n (hs.subset hn)
end Bw

namespace Bw
open PySem PySem.Spec PyProof.Rows L2 Bd
section
variable {P : Program} {w : World} {K : PySem.W.Frag} {mg : Str → Option Value} {base : Heap} {C : Addr}
abbrev s_is_number : Stmt := topS 14
theorem sc_is_number : FnScope ["thing", "low", "high"] ["thing", "low", "high"] (defScope s_is_number) := ⟨rfl, rfl, rfl, by decide +kernel, rfl, by decide +kernel, by decide +kernel⟩
-- slots: 0 thing, 1 low, 2 high; calls: ; constants: 
theorem ok_is_number {f : Addr} {fd : FuncData} {q : Str} (F : Fun K "is_number" q s_is_number f fd) (B : Bt mg) : FnOk P w K mg base CX0 1 f fd ["thing", "low", "high"] (spD preNumber) := by
  refine F.ok sc_is_number (fun vs H Q E h => ?_) (fun cdv A outer s H vs Q E hr h => ?_)
  · obtain ⟨T, h⟩ := h
    exact spT_len (fun as k kf hp => by obtain ⟨_, _, _, rfl, _⟩ := hp; rfl) h
  · obtain ⟨T, h⟩ := h
    have hu := hu_of hr
    refine ⟨_, (pss_one (ps_ret (pe_and (pe_callB (k_isi K rfl) (by rfl) B.isinstance_ boot_isinstance (pa_cons (pv 0) (pa_cons (pe_bltn (v := .ty "int") (by rfl) B.int_ boot_int rfl) pa_nil))) (pe_and (pe_not (pe_callB (k_isi K rfl) (by rfl) B.isinstance_ boot_isinstance (pa_cons (pv 0) (pa_cons (pe_bltn (v := .ty "bool") (by rfl) B.bool_ boot_bool rfl) pa_nil)))) (pe_one (pe_chain op_le op_le (pv 1) (pv 0) (pv 2))))))), body h fun g as k kf hT hst hp => ?_⟩
    obtain ⟨i, lo, hi, rfl, hk⟩ := hp
    (repeat (first | with_reducible refine se_seq ?_ | with_reducible refine se_if ?_ | with_reducible refine se_ret ?_ | with_reducible refine ev_int ?_ | with_reducible refine ev_str ?_ | with_reducible refine ev_bl ?_ | with_reducible refine ev_non ?_ | with_reducible refine ev_ty ?_ | refine ev_var rfl ?_ | with_reducible refine ev_ofF (ef_op (r := rCat) ?_) | with_reducible refine ev_ofF (ef_lst ?_) | with_reducible refine ev_ofF (ef_sl ?_) | with_reducible refine ev_op ?_ | with_reducible refine ef_op ?_ | with_reducible refine ef_lst ?_ | with_reducible refine ef_sl ?_ | with_reducible refine ev_tup ?_ | with_reducible refine ev_chain ?_ | with_reducible refine ev_tupL ?_ | with_reducible refine ev_isi2 ?_ | with_reducible refine ev_cb ?_ | refine ⟨_, _, _, rfl, clean_nmL _, kit_ll, kit_lt, ?_⟩ | refine ⟨_, _, _, rfl, clean_nmT _, kit_tl, kit_tt, ?_⟩ | refine cb_isi (clean_arcD _) kit_tt ?_ | with_reducible refine ev_bm ?_ | with_reducible refine ea_cons ?_ | with_reducible refine ea_nil ?_ | with_reducible refine eo_none ?_ | with_reducible refine eo_some ?_ | with_reducible refine et_test ?_ | with_reducible refine et_B ?_ | with_reducible refine et_not ?_ | with_reducible refine et_and ?_ | with_reducible refine et_or ?_ | with_reducible refine et_yes ?_ | with_reducible refine ev_if ?_ | with_reducible refine ev_andV ?_ | with_reducible refine ev_orV ?_ | with_reducible refine ev_notV ?_ | with_reducible refine op_i0 ?_ | with_reducible refine op_b0 ?_ | with_reducible refine op_inC ?_ | with_reducible refine op_niC ?_ | with_reducible refine ⟨_, rfl, ?_⟩ | refine ⟨fun h => Bool.noConfusion h, fun _ => ?_⟩ | refine ⟨fun _ => ?_, fun h => Bool.noConfusion h⟩ | with_reducible refine se_next ?_ | refine ev_callP ?_ | refine ev_mI MC ?_ | refine ev_mO MC ?_ | refine ev_mA MC ?_ | refine ⟨_, _, _, rfl, ?_⟩ | refine op_eqI ?_ | refine op_neI ?_ | refine op_ixT (atI_nat (j := 0) rfl) ?_ | refine op_ixT (atI_nat (j := 1) rfl) ?_ | refine op_ixT (atI_nat (j := 2) rfl) ?_ | refine op_ixT (atI_nat (j := 3) rfl) ?_ | refine ⟨colds rfl, ?_⟩ | refine op_inN (.inl rfl) ?_ | refine op_inN (.inr rfl) ?_ | refine cb_isi rfl kit_ii ?_ | refine cb_isi rfl kit_ib ?_ | refine cb_isi rfl kit_ss ?_ | refine cb_len rfl ?_ | refine ⟨rfl, ?_⟩))
    refine ⟨fun h => ⟨rfl, ?_⟩, fun h => ?_⟩
    · rw [h] at hk
      exact hk
    · (repeat (first | with_reducible refine se_seq ?_ | with_reducible refine se_if ?_ | with_reducible refine se_ret ?_ | with_reducible refine ev_int ?_ | with_reducible refine ev_str ?_ | with_reducible refine ev_bl ?_ | with_reducible refine ev_non ?_ | with_reducible refine ev_ty ?_ | refine ev_var rfl ?_ | with_reducible refine ev_ofF (ef_op (r := rCat) ?_) | with_reducible refine ev_ofF (ef_lst ?_) | with_reducible refine ev_ofF (ef_sl ?_) | with_reducible refine ev_op ?_ | with_reducible refine ef_op ?_ | with_reducible refine ef_lst ?_ | with_reducible refine ef_sl ?_ | with_reducible refine ev_tup ?_ | with_reducible refine ev_chain ?_ | with_reducible refine ev_tupL ?_ | with_reducible refine ev_isi2 ?_ | with_reducible refine ev_cb ?_ | refine ⟨_, _, _, rfl, clean_nmL _, kit_ll, kit_lt, ?_⟩ | refine ⟨_, _, _, rfl, clean_nmT _, kit_tl, kit_tt, ?_⟩ | refine cb_isi (clean_arcD _) kit_tt ?_ | with_reducible refine ev_bm ?_ | with_reducible refine ea_cons ?_ | with_reducible refine ea_nil ?_ | with_reducible refine eo_none ?_ | with_reducible refine eo_some ?_ | with_reducible refine et_test ?_ | with_reducible refine et_B ?_ | with_reducible refine et_not ?_ | with_reducible refine et_and ?_ | with_reducible refine et_or ?_ | with_reducible refine et_yes ?_ | with_reducible refine ev_if ?_ | with_reducible refine ev_andV ?_ | with_reducible refine ev_orV ?_ | with_reducible refine ev_notV ?_ | with_reducible refine op_i0 ?_ | with_reducible refine op_b0 ?_ | with_reducible refine op_inC ?_ | with_reducible refine op_niC ?_ | with_reducible refine ⟨_, rfl, ?_⟩ | refine ⟨fun h => Bool.noConfusion h, fun _ => ?_⟩ | refine ⟨fun _ => ?_, fun h => Bool.noConfusion h⟩ | with_reducible refine se_next ?_ | refine ev_callP ?_ | refine ev_mI MC ?_ | refine ev_mO MC ?_ | refine ev_mA MC ?_ | refine ⟨_, _, _, rfl, ?_⟩ | refine op_eqI ?_ | refine op_neI ?_ | refine op_ixT (atI_nat (j := 0) rfl) ?_ | refine op_ixT (atI_nat (j := 1) rfl) ?_ | refine op_ixT (atI_nat (j := 2) rfl) ?_ | refine op_ixT (atI_nat (j := 3) rfl) ?_ | refine ⟨colds rfl, ?_⟩ | refine op_inN (.inl rfl) ?_ | refine op_inN (.inr rfl) ?_ | refine cb_isi rfl kit_ii ?_ | refine cb_isi rfl kit_ib ?_ | refine cb_isi rfl kit_ss ?_ | refine cb_len rfl ?_ | refine ⟨rfl, ?_⟩))
      rw [h] at hk
      exact hk
/-! ### is_name -/
abbrev s_is_name : Stmt := topS 15
theorem sc_is_name : FnScope ["thing", "sign"] ["thing"] (defScope s_is_name) := ⟨rfl, rfl, rfl, by decide +kernel, rfl, by decide +kernel, by decide +kernel⟩
-- slots: 0 thing, 1 sign; calls: ; constants: DIGITS, FIRST, MOST_SIGNS
theorem ok_is_name {f : Addr} {fd : FuncData} {q : Str} (F : Fun K "is_name" q s_is_name f fd) (B : Bt mg) (Ct : Cts mg) : FnOk P w K mg base CX0 1 f fd ["thing"] (spD preName) := by
  obtain ⟨t_DIGITS, g_DIGITS⟩ := Ct.DIGITS
  obtain ⟨t_FIRST, g_FIRST⟩ := Ct.FIRST
  obtain ⟨t_MOST_SIGNS, g_MOST_SIGNS⟩ := Ct.MOST_SIGNS
  refine F.ok sc_is_name (fun vs H Q E h => ?_) (fun cdv A outer s H vs Q E hr h => ?_)
  · obtain ⟨T, h⟩ := h
    exact spT_len (fun as k kf hp => by obtain ⟨_, rfl, _⟩ := hp; rfl) h
  · obtain ⟨T, h⟩ := h
    have hu := hu_of hr
    refine ⟨_, (pss_cons (ps_if (pw_or (pt_not (pt_val (pe_callB (k_isi K rfl) (by rfl) B.isinstance_ boot_isinstance (pa_cons (pv 0) (pa_cons (pe_bltn (v := .ty "str") (by rfl) B.str_ boot_str rfl) pa_nil))))) (pw_or (pt_not (pt_chain op_le op_le pe_int (pe_callB call_len_str (by rfl) B.len_ PySem.boot_len (pa_cons (pv 0) pa_nil)) (pe_glob (v := .int 8) (by rfl) g_MOST_SIGNS ⟨_, rfl⟩))) (pw_or1 (pt_cmpR op_notInS (pe_ix ix_str (pv 0) pe_int (fun _ _ => rfl)) (pe_glob (v := .str fst26) (by rfl) g_FIRST ⟨_, rfl⟩) (by with_unfolding_all rfl))))).pt (pss_one (ps_ret pe_bl)) pss_nil)
      (pss_one (ps_ret (pe_callB (k_all K rfl rfl) (by rfl) B.all_ boot_all (pa_cons (pe_lc (own := [("sign", 1)]) rfl sc_is_name.nd (pi_str (pv 0)) (blkOk_by (N := ["thing", "sign"]) (sc := defScope s_is_name) (by decide +kernel)) (fun _ _ _ _ _ => (pg_name (i := 1) sc_is_name.nd rfl (.inl rfl))) (fun _ _ _ _ _ => pts_nil) (fun _ _ _ _ _ => (pe_cmpR op_inS (pv 1) (pe_op op_add_str (pe_glob (v := .str fst26) (by rfl) g_FIRST ⟨_, rfl⟩) (pe_glob (v := .str dig10) (by rfl) g_DIGITS ⟨_, rfl⟩)) (by with_unfolding_all rfl)))) pa_nil))))), body h fun g as k kf hT hst hp => ?_⟩
    obtain ⟨s, rfl, hs, hk⟩ := hp
    obtain ⟨h1, h2, h3, h4⟩ := hs
    (repeat (first | with_reducible refine se_seq ?_ | with_reducible refine se_if ?_ | with_reducible refine se_ret ?_ | with_reducible refine ev_int ?_ | with_reducible refine ev_str ?_ | with_reducible refine ev_bl ?_ | with_reducible refine ev_non ?_ | with_reducible refine ev_ty ?_ | refine ev_var rfl ?_ | with_reducible refine ev_ofF (ef_op (r := rCat) ?_) | with_reducible refine ev_ofF (ef_lst ?_) | with_reducible refine ev_ofF (ef_sl ?_) | with_reducible refine ev_op ?_ | with_reducible refine ef_op ?_ | with_reducible refine ef_lst ?_ | with_reducible refine ef_sl ?_ | with_reducible refine ev_tup ?_ | with_reducible refine ev_chain ?_ | with_reducible refine ev_tupL ?_ | with_reducible refine ev_isi2 ?_ | with_reducible refine ev_cb ?_ | refine ⟨_, _, _, rfl, clean_nmL _, kit_ll, kit_lt, ?_⟩ | refine ⟨_, _, _, rfl, clean_nmT _, kit_tl, kit_tt, ?_⟩ | refine cb_isi (clean_arcD _) kit_tt ?_ | with_reducible refine ev_bm ?_ | with_reducible refine ea_cons ?_ | with_reducible refine ea_nil ?_ | with_reducible refine eo_none ?_ | with_reducible refine eo_some ?_ | with_reducible refine et_test ?_ | with_reducible refine et_B ?_ | with_reducible refine et_not ?_ | with_reducible refine et_and ?_ | with_reducible refine et_or ?_ | with_reducible refine et_yes ?_ | with_reducible refine ev_if ?_ | with_reducible refine ev_andV ?_ | with_reducible refine ev_orV ?_ | with_reducible refine ev_notV ?_ | with_reducible refine op_i0 ?_ | with_reducible refine op_b0 ?_ | with_reducible refine op_inC ?_ | with_reducible refine op_niC ?_ | with_reducible refine ⟨_, rfl, ?_⟩ | refine ⟨fun h => Bool.noConfusion h, fun _ => ?_⟩ | refine ⟨fun _ => ?_, fun h => Bool.noConfusion h⟩ | with_reducible refine se_next ?_ | refine ev_callP ?_ | refine ev_mI MC ?_ | refine ev_mO MC ?_ | refine ev_mA MC ?_ | refine ⟨_, _, _, rfl, ?_⟩ | refine op_eqI ?_ | refine op_neI ?_ | refine op_ixT (atI_nat (j := 0) rfl) ?_ | refine op_ixT (atI_nat (j := 1) rfl) ?_ | refine op_ixT (atI_nat (j := 2) rfl) ?_ | refine op_ixT (atI_nat (j := 3) rfl) ?_ | refine ⟨colds rfl, ?_⟩ | refine op_inN (.inl rfl) ?_ | refine op_inN (.inr rfl) ?_ | refine cb_isi rfl kit_ii ?_ | refine cb_isi rfl kit_ib ?_ | refine cb_isi rfl kit_ss ?_ | refine cb_len rfl ?_ | refine ⟨rfl, ?_⟩))
    refine cb_lenS (by omega) ?_
    (repeat (first | with_reducible refine se_seq ?_ | with_reducible refine se_if ?_ | with_reducible refine se_ret ?_ | with_reducible refine ev_int ?_ | with_reducible refine ev_str ?_ | with_reducible refine ev_bl ?_ | with_reducible refine ev_non ?_ | with_reducible refine ev_ty ?_ | refine ev_var rfl ?_ | with_reducible refine ev_ofF (ef_op (r := rCat) ?_) | with_reducible refine ev_ofF (ef_lst ?_) | with_reducible refine ev_ofF (ef_sl ?_) | with_reducible refine ev_op ?_ | with_reducible refine ef_op ?_ | with_reducible refine ef_lst ?_ | with_reducible refine ef_sl ?_ | with_reducible refine ev_tup ?_ | with_reducible refine ev_chain ?_ | with_reducible refine ev_tupL ?_ | with_reducible refine ev_isi2 ?_ | with_reducible refine ev_cb ?_ | refine ⟨_, _, _, rfl, clean_nmL _, kit_ll, kit_lt, ?_⟩ | refine ⟨_, _, _, rfl, clean_nmT _, kit_tl, kit_tt, ?_⟩ | refine cb_isi (clean_arcD _) kit_tt ?_ | with_reducible refine ev_bm ?_ | with_reducible refine ea_cons ?_ | with_reducible refine ea_nil ?_ | with_reducible refine eo_none ?_ | with_reducible refine eo_some ?_ | with_reducible refine et_test ?_ | with_reducible refine et_B ?_ | with_reducible refine et_not ?_ | with_reducible refine et_and ?_ | with_reducible refine et_or ?_ | with_reducible refine et_yes ?_ | with_reducible refine ev_if ?_ | with_reducible refine ev_andV ?_ | with_reducible refine ev_orV ?_ | with_reducible refine ev_notV ?_ | with_reducible refine op_i0 ?_ | with_reducible refine op_b0 ?_ | with_reducible refine op_inC ?_ | with_reducible refine op_niC ?_ | with_reducible refine ⟨_, rfl, ?_⟩ | refine ⟨fun h => Bool.noConfusion h, fun _ => ?_⟩ | refine ⟨fun _ => ?_, fun h => Bool.noConfusion h⟩ | with_reducible refine se_next ?_ | refine ev_callP ?_ | refine ev_mI MC ?_ | refine ev_mO MC ?_ | refine ev_mA MC ?_ | refine ⟨_, _, _, rfl, ?_⟩ | refine op_eqI ?_ | refine op_neI ?_ | refine op_ixT (atI_nat (j := 0) rfl) ?_ | refine op_ixT (atI_nat (j := 1) rfl) ?_ | refine op_ixT (atI_nat (j := 2) rfl) ?_ | refine op_ixT (atI_nat (j := 3) rfl) ?_ | refine ⟨colds rfl, ?_⟩ | refine op_inN (.inl rfl) ?_ | refine op_inN (.inr rfl) ?_ | refine cb_isi rfl kit_ii ?_ | refine cb_isi rfl kit_ib ?_ | refine cb_isi rfl kit_ss ?_ | refine cb_len rfl ?_ | refine ⟨rfl, ?_⟩))
    refine ⟨fun h => absurd h (by simp; omega), fun _ => ?_⟩
    (repeat (first | with_reducible refine se_seq ?_ | with_reducible refine se_if ?_ | with_reducible refine se_ret ?_ | with_reducible refine ev_int ?_ | with_reducible refine ev_str ?_ | with_reducible refine ev_bl ?_ | with_reducible refine ev_non ?_ | with_reducible refine ev_ty ?_ | refine ev_var rfl ?_ | with_reducible refine ev_ofF (ef_op (r := rCat) ?_) | with_reducible refine ev_ofF (ef_lst ?_) | with_reducible refine ev_ofF (ef_sl ?_) | with_reducible refine ev_op ?_ | with_reducible refine ef_op ?_ | with_reducible refine ef_lst ?_ | with_reducible refine ef_sl ?_ | with_reducible refine ev_tup ?_ | with_reducible refine ev_chain ?_ | with_reducible refine ev_tupL ?_ | with_reducible refine ev_isi2 ?_ | with_reducible refine ev_cb ?_ | refine ⟨_, _, _, rfl, clean_nmL _, kit_ll, kit_lt, ?_⟩ | refine ⟨_, _, _, rfl, clean_nmT _, kit_tl, kit_tt, ?_⟩ | refine cb_isi (clean_arcD _) kit_tt ?_ | with_reducible refine ev_bm ?_ | with_reducible refine ea_cons ?_ | with_reducible refine ea_nil ?_ | with_reducible refine eo_none ?_ | with_reducible refine eo_some ?_ | with_reducible refine et_test ?_ | with_reducible refine et_B ?_ | with_reducible refine et_not ?_ | with_reducible refine et_and ?_ | with_reducible refine et_or ?_ | with_reducible refine et_yes ?_ | with_reducible refine ev_if ?_ | with_reducible refine ev_andV ?_ | with_reducible refine ev_orV ?_ | with_reducible refine ev_notV ?_ | with_reducible refine op_i0 ?_ | with_reducible refine op_b0 ?_ | with_reducible refine op_inC ?_ | with_reducible refine op_niC ?_ | with_reducible refine ⟨_, rfl, ?_⟩ | refine ⟨fun h => Bool.noConfusion h, fun _ => ?_⟩ | refine ⟨fun _ => ?_, fun h => Bool.noConfusion h⟩ | with_reducible refine se_next ?_ | refine ev_callP ?_ | refine ev_mI MC ?_ | refine ev_mO MC ?_ | refine ev_mA MC ?_ | refine ⟨_, _, _, rfl, ?_⟩ | refine op_eqI ?_ | refine op_neI ?_ | refine op_ixT (atI_nat (j := 0) rfl) ?_ | refine op_ixT (atI_nat (j := 1) rfl) ?_ | refine op_ixT (atI_nat (j := 2) rfl) ?_ | refine op_ixT (atI_nat (j := 3) rfl) ?_ | refine ⟨colds rfl, ?_⟩ | refine op_inN (.inl rfl) ?_ | refine op_inN (.inr rfl) ?_ | refine cb_isi rfl kit_ii ?_ | refine cb_isi rfl kit_ib ?_ | refine cb_isi rfl kit_ss ?_ | refine cb_len rfl ?_ | refine ⟨rfl, ?_⟩))
    refine ⟨fun h => absurd h (by simp; omega), fun _ => ?_⟩
    obtain ⟨c0, hc0⟩ : ∃ c0, s.cps.toList[0]? = some c0 := by
      have h5 : 0 < s.cps.toList.length := by
        have : s.length = s.cps.toList.length := by simp [Str.length]
        omega
      exact ⟨_, List.getElem?_eq_getElem h5⟩
    (repeat (first | with_reducible refine se_seq ?_ | with_reducible refine se_if ?_ | with_reducible refine se_ret ?_ | with_reducible refine ev_int ?_ | with_reducible refine ev_str ?_ | with_reducible refine ev_bl ?_ | with_reducible refine ev_non ?_ | with_reducible refine ev_ty ?_ | refine ev_var rfl ?_ | with_reducible refine ev_ofF (ef_op (r := rCat) ?_) | with_reducible refine ev_ofF (ef_lst ?_) | with_reducible refine ev_ofF (ef_sl ?_) | with_reducible refine ev_op ?_ | with_reducible refine ef_op ?_ | with_reducible refine ef_lst ?_ | with_reducible refine ef_sl ?_ | with_reducible refine ev_tup ?_ | with_reducible refine ev_chain ?_ | with_reducible refine ev_tupL ?_ | with_reducible refine ev_isi2 ?_ | with_reducible refine ev_cb ?_ | refine ⟨_, _, _, rfl, clean_nmL _, kit_ll, kit_lt, ?_⟩ | refine ⟨_, _, _, rfl, clean_nmT _, kit_tl, kit_tt, ?_⟩ | refine cb_isi (clean_arcD _) kit_tt ?_ | with_reducible refine ev_bm ?_ | with_reducible refine ea_cons ?_ | with_reducible refine ea_nil ?_ | with_reducible refine eo_none ?_ | with_reducible refine eo_some ?_ | with_reducible refine et_test ?_ | with_reducible refine et_B ?_ | with_reducible refine et_not ?_ | with_reducible refine et_and ?_ | with_reducible refine et_or ?_ | with_reducible refine et_yes ?_ | with_reducible refine ev_if ?_ | with_reducible refine ev_andV ?_ | with_reducible refine ev_orV ?_ | with_reducible refine ev_notV ?_ | with_reducible refine op_i0 ?_ | with_reducible refine op_b0 ?_ | with_reducible refine op_inC ?_ | with_reducible refine op_niC ?_ | with_reducible refine ⟨_, rfl, ?_⟩ | refine ⟨fun h => Bool.noConfusion h, fun _ => ?_⟩ | refine ⟨fun _ => ?_, fun h => Bool.noConfusion h⟩ | with_reducible refine se_next ?_ | refine ev_callP ?_ | refine ev_mI MC ?_ | refine ev_mO MC ?_ | refine ev_mA MC ?_ | refine ⟨_, _, _, rfl, ?_⟩ | refine op_eqI ?_ | refine op_neI ?_ | refine op_ixT (atI_nat (j := 0) rfl) ?_ | refine op_ixT (atI_nat (j := 1) rfl) ?_ | refine op_ixT (atI_nat (j := 2) rfl) ?_ | refine op_ixT (atI_nat (j := 3) rfl) ?_ | refine ⟨colds rfl, ?_⟩ | refine op_inN (.inl rfl) ?_ | refine op_inN (.inr rfl) ?_ | refine cb_isi rfl kit_ii ?_ | refine cb_isi rfl kit_ib ?_ | refine cb_isi rfl kit_ss ?_ | refine cb_len rfl ?_ | refine ⟨rfl, ?_⟩))
    refine op_ixS (by omega) (atI_nat (j := 0) hc0) ?_
    (repeat (first | with_reducible refine se_seq ?_ | with_reducible refine se_if ?_ | with_reducible refine se_ret ?_ | with_reducible refine ev_int ?_ | with_reducible refine ev_str ?_ | with_reducible refine ev_bl ?_ | with_reducible refine ev_non ?_ | with_reducible refine ev_ty ?_ | refine ev_var rfl ?_ | with_reducible refine ev_ofF (ef_op (r := rCat) ?_) | with_reducible refine ev_ofF (ef_lst ?_) | with_reducible refine ev_ofF (ef_sl ?_) | with_reducible refine ev_op ?_ | with_reducible refine ef_op ?_ | with_reducible refine ef_lst ?_ | with_reducible refine ef_sl ?_ | with_reducible refine ev_tup ?_ | with_reducible refine ev_chain ?_ | with_reducible refine ev_tupL ?_ | with_reducible refine ev_isi2 ?_ | with_reducible refine ev_cb ?_ | refine ⟨_, _, _, rfl, clean_nmL _, kit_ll, kit_lt, ?_⟩ | refine ⟨_, _, _, rfl, clean_nmT _, kit_tl, kit_tt, ?_⟩ | refine cb_isi (clean_arcD _) kit_tt ?_ | with_reducible refine ev_bm ?_ | with_reducible refine ea_cons ?_ | with_reducible refine ea_nil ?_ | with_reducible refine eo_none ?_ | with_reducible refine eo_some ?_ | with_reducible refine et_test ?_ | with_reducible refine et_B ?_ | with_reducible refine et_not ?_ | with_reducible refine et_and ?_ | with_reducible refine et_or ?_ | with_reducible refine et_yes ?_ | with_reducible refine ev_if ?_ | with_reducible refine ev_andV ?_ | with_reducible refine ev_orV ?_ | with_reducible refine ev_notV ?_ | with_reducible refine op_i0 ?_ | with_reducible refine op_b0 ?_ | with_reducible refine op_inC ?_ | with_reducible refine op_niC ?_ | with_reducible refine ⟨_, rfl, ?_⟩ | refine ⟨fun h => Bool.noConfusion h, fun _ => ?_⟩ | refine ⟨fun _ => ?_, fun h => Bool.noConfusion h⟩ | with_reducible refine se_next ?_ | refine ev_callP ?_ | refine ev_mI MC ?_ | refine ev_mO MC ?_ | refine ev_mA MC ?_ | refine ⟨_, _, _, rfl, ?_⟩ | refine op_eqI ?_ | refine op_neI ?_ | refine op_ixT (atI_nat (j := 0) rfl) ?_ | refine op_ixT (atI_nat (j := 1) rfl) ?_ | refine op_ixT (atI_nat (j := 2) rfl) ?_ | refine op_ixT (atI_nat (j := 3) rfl) ?_ | refine ⟨colds rfl, ?_⟩ | refine op_inN (.inl rfl) ?_ | refine op_inN (.inr rfl) ?_ | refine cb_isi rfl kit_ii ?_ | refine cb_isi rfl kit_ib ?_ | refine cb_isi rfl kit_ss ?_ | refine cb_len rfl ?_ | refine ⟨rfl, ?_⟩))
    refine ⟨fun h => absurd h ?_, fun _ => ?_⟩
    · have := h3 c0 (by rw [List.head?_eq_getElem?]; exact hc0)
      simp [this]
    (repeat (first | with_reducible refine se_seq ?_ | with_reducible refine se_if ?_ | with_reducible refine se_ret ?_ | with_reducible refine ev_int ?_ | with_reducible refine ev_str ?_ | with_reducible refine ev_bl ?_ | with_reducible refine ev_non ?_ | with_reducible refine ev_ty ?_ | refine ev_var rfl ?_ | with_reducible refine ev_ofF (ef_op (r := rCat) ?_) | with_reducible refine ev_ofF (ef_lst ?_) | with_reducible refine ev_ofF (ef_sl ?_) | with_reducible refine ev_op ?_ | with_reducible refine ef_op ?_ | with_reducible refine ef_lst ?_ | with_reducible refine ef_sl ?_ | with_reducible refine ev_tup ?_ | with_reducible refine ev_chain ?_ | with_reducible refine ev_tupL ?_ | with_reducible refine ev_isi2 ?_ | with_reducible refine ev_cb ?_ | refine ⟨_, _, _, rfl, clean_nmL _, kit_ll, kit_lt, ?_⟩ | refine ⟨_, _, _, rfl, clean_nmT _, kit_tl, kit_tt, ?_⟩ | refine cb_isi (clean_arcD _) kit_tt ?_ | with_reducible refine ev_bm ?_ | with_reducible refine ea_cons ?_ | with_reducible refine ea_nil ?_ | with_reducible refine eo_none ?_ | with_reducible refine eo_some ?_ | with_reducible refine et_test ?_ | with_reducible refine et_B ?_ | with_reducible refine et_not ?_ | with_reducible refine et_and ?_ | with_reducible refine et_or ?_ | with_reducible refine et_yes ?_ | with_reducible refine ev_if ?_ | with_reducible refine ev_andV ?_ | with_reducible refine ev_orV ?_ | with_reducible refine ev_notV ?_ | with_reducible refine op_i0 ?_ | with_reducible refine op_b0 ?_ | with_reducible refine op_inC ?_ | with_reducible refine op_niC ?_ | with_reducible refine ⟨_, rfl, ?_⟩ | refine ⟨fun h => Bool.noConfusion h, fun _ => ?_⟩ | refine ⟨fun _ => ?_, fun h => Bool.noConfusion h⟩ | with_reducible refine se_next ?_ | refine ev_callP ?_ | refine ev_mI MC ?_ | refine ev_mO MC ?_ | refine ev_mA MC ?_ | refine ⟨_, _, _, rfl, ?_⟩ | refine op_eqI ?_ | refine op_neI ?_ | refine op_ixT (atI_nat (j := 0) rfl) ?_ | refine op_ixT (atI_nat (j := 1) rfl) ?_ | refine op_ixT (atI_nat (j := 2) rfl) ?_ | refine op_ixT (atI_nat (j := 3) rfl) ?_ | refine ⟨colds rfl, ?_⟩ | refine op_inN (.inl rfl) ?_ | refine op_inN (.inr rfl) ?_ | refine cb_isi rfl kit_ii ?_ | refine cb_isi rfl kit_ib ?_ | refine cb_isi rfl kit_ss ?_ | refine cb_len rfl ?_ | refine ⟨rfl, ?_⟩))
    refine ev_ofF (ef_lc (fun i acc => acc = (s.cps.toList.take i).map fun c => .bool (GoodC c)) (ei_str (ev_var rfl ⟨_, rfl, rfl, ?_, fun i d acc hd ha => ?_, fun acc ha => ?_⟩)))
    · simp [chD]
      have : s.length = s.cps.size := rfl
      omega
    · obtain ⟨x, hx, rfl⟩ := at_map hd
      refine ⟨_, _, tg_name, by simp, et_yes ⟨fun _ => ?_, nofun⟩⟩
      (repeat (first | with_reducible refine se_seq ?_ | with_reducible refine se_if ?_ | with_reducible refine se_ret ?_ | with_reducible refine ev_int ?_ | with_reducible refine ev_str ?_ | with_reducible refine ev_bl ?_ | with_reducible refine ev_non ?_ | with_reducible refine ev_ty ?_ | refine ev_var rfl ?_ | with_reducible refine ev_ofF (ef_op (r := rCat) ?_) | with_reducible refine ev_ofF (ef_lst ?_) | with_reducible refine ev_ofF (ef_sl ?_) | with_reducible refine ev_op ?_ | with_reducible refine ef_op ?_ | with_reducible refine ef_lst ?_ | with_reducible refine ef_sl ?_ | with_reducible refine ev_tup ?_ | with_reducible refine ev_chain ?_ | with_reducible refine ev_tupL ?_ | with_reducible refine ev_isi2 ?_ | with_reducible refine ev_cb ?_ | refine ⟨_, _, _, rfl, clean_nmL _, kit_ll, kit_lt, ?_⟩ | refine ⟨_, _, _, rfl, clean_nmT _, kit_tl, kit_tt, ?_⟩ | refine cb_isi (clean_arcD _) kit_tt ?_ | with_reducible refine ev_bm ?_ | with_reducible refine ea_cons ?_ | with_reducible refine ea_nil ?_ | with_reducible refine eo_none ?_ | with_reducible refine eo_some ?_ | with_reducible refine et_test ?_ | with_reducible refine et_B ?_ | with_reducible refine et_not ?_ | with_reducible refine et_and ?_ | with_reducible refine et_or ?_ | with_reducible refine et_yes ?_ | with_reducible refine ev_if ?_ | with_reducible refine ev_andV ?_ | with_reducible refine ev_orV ?_ | with_reducible refine ev_notV ?_ | with_reducible refine op_i0 ?_ | with_reducible refine op_b0 ?_ | with_reducible refine op_inC ?_ | with_reducible refine op_niC ?_ | with_reducible refine ⟨_, rfl, ?_⟩ | refine ⟨fun h => Bool.noConfusion h, fun _ => ?_⟩ | refine ⟨fun _ => ?_, fun h => Bool.noConfusion h⟩ | with_reducible refine se_next ?_ | refine ev_callP ?_ | refine ev_mI MC ?_ | refine ev_mO MC ?_ | refine ev_mA MC ?_ | refine ⟨_, _, _, rfl, ?_⟩ | refine op_eqI ?_ | refine op_neI ?_ | refine op_ixT (atI_nat (j := 0) rfl) ?_ | refine op_ixT (atI_nat (j := 1) rfl) ?_ | refine op_ixT (atI_nat (j := 2) rfl) ?_ | refine op_ixT (atI_nat (j := 3) rfl) ?_ | refine ⟨colds rfl, ?_⟩ | refine op_inN (.inl rfl) ?_ | refine op_inN (.inr rfl) ?_ | refine cb_isi rfl kit_ii ?_ | refine cb_isi rfl kit_ib ?_ | refine cb_isi rfl kit_ss ?_ | refine cb_len rfl ?_ | refine ⟨rfl, ?_⟩))
      refine op_addS (by decide) ?_
      (repeat (first | with_reducible refine se_seq ?_ | with_reducible refine se_if ?_ | with_reducible refine se_ret ?_ | with_reducible refine ev_int ?_ | with_reducible refine ev_str ?_ | with_reducible refine ev_bl ?_ | with_reducible refine ev_non ?_ | with_reducible refine ev_ty ?_ | refine ev_var rfl ?_ | with_reducible refine ev_ofF (ef_op (r := rCat) ?_) | with_reducible refine ev_ofF (ef_lst ?_) | with_reducible refine ev_ofF (ef_sl ?_) | with_reducible refine ev_op ?_ | with_reducible refine ef_op ?_ | with_reducible refine ef_lst ?_ | with_reducible refine ef_sl ?_ | with_reducible refine ev_tup ?_ | with_reducible refine ev_chain ?_ | with_reducible refine ev_tupL ?_ | with_reducible refine ev_isi2 ?_ | with_reducible refine ev_cb ?_ | refine ⟨_, _, _, rfl, clean_nmL _, kit_ll, kit_lt, ?_⟩ | refine ⟨_, _, _, rfl, clean_nmT _, kit_tl, kit_tt, ?_⟩ | refine cb_isi (clean_arcD _) kit_tt ?_ | with_reducible refine ev_bm ?_ | with_reducible refine ea_cons ?_ | with_reducible refine ea_nil ?_ | with_reducible refine eo_none ?_ | with_reducible refine eo_some ?_ | with_reducible refine et_test ?_ | with_reducible refine et_B ?_ | with_reducible refine et_not ?_ | with_reducible refine et_and ?_ | with_reducible refine et_or ?_ | with_reducible refine et_yes ?_ | with_reducible refine ev_if ?_ | with_reducible refine ev_andV ?_ | with_reducible refine ev_orV ?_ | with_reducible refine ev_notV ?_ | with_reducible refine op_i0 ?_ | with_reducible refine op_b0 ?_ | with_reducible refine op_inC ?_ | with_reducible refine op_niC ?_ | with_reducible refine ⟨_, rfl, ?_⟩ | refine ⟨fun h => Bool.noConfusion h, fun _ => ?_⟩ | refine ⟨fun _ => ?_, fun h => Bool.noConfusion h⟩ | with_reducible refine se_next ?_ | refine ev_callP ?_ | refine ev_mI MC ?_ | refine ev_mO MC ?_ | refine ev_mA MC ?_ | refine ⟨_, _, _, rfl, ?_⟩ | refine op_eqI ?_ | refine op_neI ?_ | refine op_ixT (atI_nat (j := 0) rfl) ?_ | refine op_ixT (atI_nat (j := 1) rfl) ?_ | refine op_ixT (atI_nat (j := 2) rfl) ?_ | refine op_ixT (atI_nat (j := 3) rfl) ?_ | refine ⟨colds rfl, ?_⟩ | refine op_inN (.inl rfl) ?_ | refine op_inN (.inr rfl) ?_ | refine cb_isi rfl kit_ii ?_ | refine cb_isi rfl kit_ib ?_ | refine cb_isi rfl kit_ss ?_ | refine cb_len rfl ?_ | refine ⟨rfl, ?_⟩))
      have e : decide (x ∈ (fst26 ++ dig10).cps.toList) = GoodC x := by
        have : (fst26 ++ dig10).cps.toList = fst26.cps.toList ++ dig10.cps.toList := by
          show (fst26.cps ++ dig10.cps).toList = _
          rw [Array.toList_append]
        rw [this]
        unfold GoodC
        rw [← Bool.decide_or]
        exact decide_eq_decide.mpr List.mem_append
      rw [e, ha, List.take_add_one, hx, List.map_append]
      rfl
    · subst ha
      (repeat (first | with_reducible refine se_seq ?_ | with_reducible refine se_if ?_ | with_reducible refine se_ret ?_ | with_reducible refine ev_int ?_ | with_reducible refine ev_str ?_ | with_reducible refine ev_bl ?_ | with_reducible refine ev_non ?_ | with_reducible refine ev_ty ?_ | refine ev_var rfl ?_ | with_reducible refine ev_ofF (ef_op (r := rCat) ?_) | with_reducible refine ev_ofF (ef_lst ?_) | with_reducible refine ev_ofF (ef_sl ?_) | with_reducible refine ev_op ?_ | with_reducible refine ef_op ?_ | with_reducible refine ef_lst ?_ | with_reducible refine ef_sl ?_ | with_reducible refine ev_tup ?_ | with_reducible refine ev_chain ?_ | with_reducible refine ev_tupL ?_ | with_reducible refine ev_isi2 ?_ | with_reducible refine ev_cb ?_ | refine ⟨_, _, _, rfl, clean_nmL _, kit_ll, kit_lt, ?_⟩ | refine ⟨_, _, _, rfl, clean_nmT _, kit_tl, kit_tt, ?_⟩ | refine cb_isi (clean_arcD _) kit_tt ?_ | with_reducible refine ev_bm ?_ | with_reducible refine ea_cons ?_ | with_reducible refine ea_nil ?_ | with_reducible refine eo_none ?_ | with_reducible refine eo_some ?_ | with_reducible refine et_test ?_ | with_reducible refine et_B ?_ | with_reducible refine et_not ?_ | with_reducible refine et_and ?_ | with_reducible refine et_or ?_ | with_reducible refine et_yes ?_ | with_reducible refine ev_if ?_ | with_reducible refine ev_andV ?_ | with_reducible refine ev_orV ?_ | with_reducible refine ev_notV ?_ | with_reducible refine op_i0 ?_ | with_reducible refine op_b0 ?_ | with_reducible refine op_inC ?_ | with_reducible refine op_niC ?_ | with_reducible refine ⟨_, rfl, ?_⟩ | refine ⟨fun h => Bool.noConfusion h, fun _ => ?_⟩ | refine ⟨fun _ => ?_, fun h => Bool.noConfusion h⟩ | with_reducible refine se_next ?_ | refine ev_callP ?_ | refine ev_mI MC ?_ | refine ev_mO MC ?_ | refine ev_mA MC ?_ | refine ⟨_, _, _, rfl, ?_⟩ | refine op_eqI ?_ | refine op_neI ?_ | refine op_ixT (atI_nat (j := 0) rfl) ?_ | refine op_ixT (atI_nat (j := 1) rfl) ?_ | refine op_ixT (atI_nat (j := 2) rfl) ?_ | refine op_ixT (atI_nat (j := 3) rfl) ?_ | refine ⟨colds rfl, ?_⟩ | refine op_inN (.inl rfl) ?_ | refine op_inN (.inr rfl) ?_ | refine cb_isi rfl kit_ii ?_ | refine cb_isi rfl kit_ib ?_ | refine cb_isi rfl kit_ss ?_ | refine cb_len rfl ?_ | refine ⟨rfl, ?_⟩))
      refine cb_all (bs := s.cps.toList.map GoodC) ?_ ?_
      · have e : List.take (chD s).length (s.cps.toList.map fun c => PyData.bool (GoodC c)) = s.cps.toList.map fun c => PyData.bool (GoodC c) := List.take_of_length_le (by simp [chD])
        rw [← List.map_take] at e
        show some _ = some _
        rw [e, List.map_map]
        rfl
      · have e : (s.cps.toList.map GoodC).all id = true := by
          rw [List.all_map, List.all_eq_true]
          exact fun c hc => h4 c hc
        rw [e]
        exact ⟨rfl, hk⟩
/-! ### wrong_name -/
abbrev s_wrong_name : Stmt := topS 16
theorem sc_wrong_name : FnScope ["things", "least", "others", "known", "at", "thing"] ["things", "least", "others"] (defScope s_wrong_name) := ⟨rfl, rfl, rfl, by decide +kernel, rfl, by decide +kernel, by decide +kernel⟩
-- slots: 0 things, 1 least, 2 others, 3 known, 4 at, 5 thing; calls: is_name; constants: MOST_NAMES
theorem ok_wrong_name {f : Addr} {fd : FuncData} {q : Str} (F : Fun K "wrong_name" q s_wrong_name f fd) (B : Bt mg) (C_is_name : Cal P w K mg base 1 "is_name" ["thing"] (spD preName)) (Ct : Cts mg) : FnOk P w K mg base CX0 2 f fd ["things", "least", "others"] (spD preWrong) := by
  obtain ⟨f_is_name, fd_is_name, G_is_name, m_is_name, k_is_name, b_is_name⟩ := C_is_name.ex
  obtain ⟨t_MOST_NAMES, g_MOST_NAMES⟩ := Ct.MOST_NAMES
  refine F.ok sc_wrong_name (fun vs H Q E h => ?_) (fun cdv A outer s H vs Q E hr h => ?_)
  · obtain ⟨T, h⟩ := h
    exact spT_len (fun as k kf hp => by obtain ⟨_, _, _, rfl, _⟩ := hp; rfl) h
  · obtain ⟨T, h⟩ := h
    have hu := hu_of hr
    have r_is_name := hr.mono (show 1 ≤ 1 by decide)
    refine ⟨_, (pss_cons (ps_if (pw_or (pt_not (pt_val (pe_callB (k_isiT K rfl) (by rfl) B.isinstance_ boot_isinstance (pa_cons (pv 0) (pa_cons (pe_tup (pa_cons (pe_bltn (v := .ty "list") (by rfl) B.list_ boot_list rfl) (pa_cons (pe_bltn (v := .ty "tuple") (by rfl) B.tuple_ boot_tuple rfl) pa_nil))) pa_nil))))) (pw_or1 (pt_not (pt_chain op_le op_le (pv 1) (pe_callB (k_len K rfl) (by rfl) B.len_ PySem.boot_len (pa_cons (pv 0) pa_nil)) (pe_glob (v := .int 3) (by rfl) g_MOST_NAMES ⟨_, rfl⟩))))).pt (pss_one (ps_ret (pe_un un_neg pe_int))) pss_nil)
      (pss_cons (ps_set (i := 3) sc_wrong_name.nd rfl (.inl rfl) (pe_callTy (k_list K rfl) (by rfl) B.list_ boot_list (pa_cons (pv 2) pa_nil)))
      (pss_cons (ps_for PassesOwn.never rfl (k_enum K rfl rfl B.enumerate_ (pa_cons (pv 0) pa_nil)) (k_pgTup K rfl (n := 2) rfl (pgs_cons (pg_name (i := 4) sc_wrong_name.nd rfl (.inl rfl)) (pgs_cons (pg_name (i := 5) sc_wrong_name.nd rfl (.inl rfl)) pgs_nil)))
      (pss_cons (ps_if (pw_or (pt_not (pt_val (pe_call G_is_name r_is_name (by rfl) m_is_name k_is_name b_is_name .nil pass0 (pa_cons (pv 5) pa_nil)))) (pw_or1 (pt_cmpR (k_in K rfl) (pv 5) (pv 3) (by with_unfolding_all rfl)))).pt (pss_one (ps_ret (pv 4))) pss_nil)
      (pss_one (ps_expr (k_bm K rfl PySem.F.plainAttrs_list PySem.F.slot_list_append PySem.F.type_list_append mt_append (pv 3) (pa_cons (pv 5) pa_nil))))))
      (pss_one (ps_ret pe_non))))), body h fun g as k kf hT hst hp => ?_⟩
    obtain ⟨ns, l, os, rfl, ho, ⟨n1, n2, n3, n4, n5⟩, hk⟩ := hp
    (repeat (first | with_reducible refine se_seq ?_ | with_reducible refine se_if ?_ | with_reducible refine se_ret ?_ | with_reducible refine ev_int ?_ | with_reducible refine ev_str ?_ | with_reducible refine ev_bl ?_ | with_reducible refine ev_non ?_ | with_reducible refine ev_ty ?_ | refine ev_var rfl ?_ | with_reducible refine ev_ofF (ef_op (r := rCat) ?_) | with_reducible refine ev_ofF (ef_lst ?_) | with_reducible refine ev_ofF (ef_sl ?_) | with_reducible refine ev_op ?_ | with_reducible refine ef_op ?_ | with_reducible refine ef_lst ?_ | with_reducible refine ef_sl ?_ | with_reducible refine ev_tup ?_ | with_reducible refine ev_chain ?_ | with_reducible refine ev_tupL ?_ | with_reducible refine ev_isi2 ?_ | with_reducible refine ev_cb ?_ | refine ⟨_, _, _, rfl, clean_nmL _, kit_ll, kit_lt, ?_⟩ | refine ⟨_, _, _, rfl, clean_nmT _, kit_tl, kit_tt, ?_⟩ | refine cb_isi (clean_arcD _) kit_tt ?_ | with_reducible refine ev_bm ?_ | with_reducible refine ea_cons ?_ | with_reducible refine ea_nil ?_ | with_reducible refine eo_none ?_ | with_reducible refine eo_some ?_ | with_reducible refine et_test ?_ | with_reducible refine et_B ?_ | with_reducible refine et_not ?_ | with_reducible refine et_and ?_ | with_reducible refine et_or ?_ | with_reducible refine et_yes ?_ | with_reducible refine ev_if ?_ | with_reducible refine ev_andV ?_ | with_reducible refine ev_orV ?_ | with_reducible refine ev_notV ?_ | with_reducible refine op_i0 ?_ | with_reducible refine op_b0 ?_ | with_reducible refine op_inC ?_ | with_reducible refine op_niC ?_ | with_reducible refine ⟨_, rfl, ?_⟩ | refine ⟨fun h => Bool.noConfusion h, fun _ => ?_⟩ | refine ⟨fun _ => ?_, fun h => Bool.noConfusion h⟩ | with_reducible refine se_next ?_ | refine ev_callP ?_ | refine ev_mI MC ?_ | refine ev_mO MC ?_ | refine ev_mA MC ?_ | refine ⟨_, _, _, rfl, ?_⟩ | refine op_eqI ?_ | refine op_neI ?_ | refine op_ixT (atI_nat (j := 0) rfl) ?_ | refine op_ixT (atI_nat (j := 1) rfl) ?_ | refine op_ixT (atI_nat (j := 2) rfl) ?_ | refine op_ixT (atI_nat (j := 3) rfl) ?_ | refine ⟨colds rfl, ?_⟩ | refine op_inN (.inl rfl) ?_ | refine op_inN (.inr rfl) ?_ | refine cb_isi rfl kit_ii ?_ | refine cb_isi rfl kit_ib ?_ | refine cb_isi rfl kit_ss ?_ | refine cb_len rfl ?_ | refine ⟨rfl, ?_⟩))
    refine ⟨fun h => absurd h (by simp; omega), fun _ => ?_⟩
    (repeat (first | with_reducible refine se_seq ?_ | with_reducible refine se_if ?_ | with_reducible refine se_ret ?_ | with_reducible refine ev_int ?_ | with_reducible refine ev_str ?_ | with_reducible refine ev_bl ?_ | with_reducible refine ev_non ?_ | with_reducible refine ev_ty ?_ | refine ev_var rfl ?_ | with_reducible refine ev_ofF (ef_op (r := rCat) ?_) | with_reducible refine ev_ofF (ef_lst ?_) | with_reducible refine ev_ofF (ef_sl ?_) | with_reducible refine ev_op ?_ | with_reducible refine ef_op ?_ | with_reducible refine ef_lst ?_ | with_reducible refine ef_sl ?_ | with_reducible refine ev_tup ?_ | with_reducible refine ev_chain ?_ | with_reducible refine ev_tupL ?_ | with_reducible refine ev_isi2 ?_ | with_reducible refine ev_cb ?_ | refine ⟨_, _, _, rfl, clean_nmL _, kit_ll, kit_lt, ?_⟩ | refine ⟨_, _, _, rfl, clean_nmT _, kit_tl, kit_tt, ?_⟩ | refine cb_isi (clean_arcD _) kit_tt ?_ | with_reducible refine ev_bm ?_ | with_reducible refine ea_cons ?_ | with_reducible refine ea_nil ?_ | with_reducible refine eo_none ?_ | with_reducible refine eo_some ?_ | with_reducible refine et_test ?_ | with_reducible refine et_B ?_ | with_reducible refine et_not ?_ | with_reducible refine et_and ?_ | with_reducible refine et_or ?_ | with_reducible refine et_yes ?_ | with_reducible refine ev_if ?_ | with_reducible refine ev_andV ?_ | with_reducible refine ev_orV ?_ | with_reducible refine ev_notV ?_ | with_reducible refine op_i0 ?_ | with_reducible refine op_b0 ?_ | with_reducible refine op_inC ?_ | with_reducible refine op_niC ?_ | with_reducible refine ⟨_, rfl, ?_⟩ | refine ⟨fun h => Bool.noConfusion h, fun _ => ?_⟩ | refine ⟨fun _ => ?_, fun h => Bool.noConfusion h⟩ | with_reducible refine se_next ?_ | refine ev_callP ?_ | refine ev_mI MC ?_ | refine ev_mO MC ?_ | refine ev_mA MC ?_ | refine ⟨_, _, _, rfl, ?_⟩ | refine op_eqI ?_ | refine op_neI ?_ | refine op_ixT (atI_nat (j := 0) rfl) ?_ | refine op_ixT (atI_nat (j := 1) rfl) ?_ | refine op_ixT (atI_nat (j := 2) rfl) ?_ | refine op_ixT (atI_nat (j := 3) rfl) ?_ | refine ⟨colds rfl, ?_⟩ | refine op_inN (.inl rfl) ?_ | refine op_inN (.inr rfl) ?_ | refine cb_isi rfl kit_ii ?_ | refine cb_isi rfl kit_ib ?_ | refine cb_isi rfl kit_ss ?_ | refine cb_len rfl ?_ | refine ⟨rfl, ?_⟩))
    refine ⟨fun h => absurd h (by simp; omega), fun _ => ?_⟩
    (repeat (first | with_reducible refine se_seq ?_ | with_reducible refine se_if ?_ | with_reducible refine se_ret ?_ | with_reducible refine ev_int ?_ | with_reducible refine ev_str ?_ | with_reducible refine ev_bl ?_ | with_reducible refine ev_non ?_ | with_reducible refine ev_ty ?_ | refine ev_var rfl ?_ | with_reducible refine ev_ofF (ef_op (r := rCat) ?_) | with_reducible refine ev_ofF (ef_lst ?_) | with_reducible refine ev_ofF (ef_sl ?_) | with_reducible refine ev_op ?_ | with_reducible refine ef_op ?_ | with_reducible refine ef_lst ?_ | with_reducible refine ef_sl ?_ | with_reducible refine ev_tup ?_ | with_reducible refine ev_chain ?_ | with_reducible refine ev_tupL ?_ | with_reducible refine ev_isi2 ?_ | with_reducible refine ev_cb ?_ | refine ⟨_, _, _, rfl, clean_nmL _, kit_ll, kit_lt, ?_⟩ | refine ⟨_, _, _, rfl, clean_nmT _, kit_tl, kit_tt, ?_⟩ | refine cb_isi (clean_arcD _) kit_tt ?_ | with_reducible refine ev_bm ?_ | with_reducible refine ea_cons ?_ | with_reducible refine ea_nil ?_ | with_reducible refine eo_none ?_ | with_reducible refine eo_some ?_ | with_reducible refine et_test ?_ | with_reducible refine et_B ?_ | with_reducible refine et_not ?_ | with_reducible refine et_and ?_ | with_reducible refine et_or ?_ | with_reducible refine et_yes ?_ | with_reducible refine ev_if ?_ | with_reducible refine ev_andV ?_ | with_reducible refine ev_orV ?_ | with_reducible refine ev_notV ?_ | with_reducible refine op_i0 ?_ | with_reducible refine op_b0 ?_ | with_reducible refine op_inC ?_ | with_reducible refine op_niC ?_ | with_reducible refine ⟨_, rfl, ?_⟩ | refine ⟨fun h => Bool.noConfusion h, fun _ => ?_⟩ | refine ⟨fun _ => ?_, fun h => Bool.noConfusion h⟩ | with_reducible refine se_next ?_ | refine ev_callP ?_ | refine ev_mI MC ?_ | refine ev_mO MC ?_ | refine ev_mA MC ?_ | refine ⟨_, _, _, rfl, ?_⟩ | refine op_eqI ?_ | refine op_neI ?_ | refine op_ixT (atI_nat (j := 0) rfl) ?_ | refine op_ixT (atI_nat (j := 1) rfl) ?_ | refine op_ixT (atI_nat (j := 2) rfl) ?_ | refine op_ixT (atI_nat (j := 3) rfl) ?_ | refine ⟨colds rfl, ?_⟩ | refine op_inN (.inl rfl) ?_ | refine op_inN (.inr rfl) ?_ | refine cb_isi rfl kit_ii ?_ | refine cb_isi rfl kit_ib ?_ | refine cb_isi rfl kit_ss ?_ | refine cb_len rfl ?_ | refine ⟨rfl, ?_⟩))
    refine se_asgF (ef_cb (ea_cons (ev_var rfl (ea_nil (cb_list rfl ?_)))))
    (repeat (first | with_reducible refine se_seq ?_ | with_reducible refine se_if ?_ | with_reducible refine se_ret ?_ | with_reducible refine ev_int ?_ | with_reducible refine ev_str ?_ | with_reducible refine ev_bl ?_ | with_reducible refine ev_non ?_ | with_reducible refine ev_ty ?_ | refine ev_var rfl ?_ | with_reducible refine ev_ofF (ef_op (r := rCat) ?_) | with_reducible refine ev_ofF (ef_lst ?_) | with_reducible refine ev_ofF (ef_sl ?_) | with_reducible refine ev_op ?_ | with_reducible refine ef_op ?_ | with_reducible refine ef_lst ?_ | with_reducible refine ef_sl ?_ | with_reducible refine ev_tup ?_ | with_reducible refine ev_chain ?_ | with_reducible refine ev_tupL ?_ | with_reducible refine ev_isi2 ?_ | with_reducible refine ev_cb ?_ | refine ⟨_, _, _, rfl, clean_nmL _, kit_ll, kit_lt, ?_⟩ | refine ⟨_, _, _, rfl, clean_nmT _, kit_tl, kit_tt, ?_⟩ | refine cb_isi (clean_arcD _) kit_tt ?_ | with_reducible refine ev_bm ?_ | with_reducible refine ea_cons ?_ | with_reducible refine ea_nil ?_ | with_reducible refine eo_none ?_ | with_reducible refine eo_some ?_ | with_reducible refine et_test ?_ | with_reducible refine et_B ?_ | with_reducible refine et_not ?_ | with_reducible refine et_and ?_ | with_reducible refine et_or ?_ | with_reducible refine et_yes ?_ | with_reducible refine ev_if ?_ | with_reducible refine ev_andV ?_ | with_reducible refine ev_orV ?_ | with_reducible refine ev_notV ?_ | with_reducible refine op_i0 ?_ | with_reducible refine op_b0 ?_ | with_reducible refine op_inC ?_ | with_reducible refine op_niC ?_ | with_reducible refine ⟨_, rfl, ?_⟩ | refine ⟨fun h => Bool.noConfusion h, fun _ => ?_⟩ | refine ⟨fun _ => ?_, fun h => Bool.noConfusion h⟩ | with_reducible refine se_next ?_ | refine ev_callP ?_ | refine ev_mI MC ?_ | refine ev_mO MC ?_ | refine ev_mA MC ?_ | refine ⟨_, _, _, rfl, ?_⟩ | refine op_eqI ?_ | refine op_neI ?_ | refine op_ixT (atI_nat (j := 0) rfl) ?_ | refine op_ixT (atI_nat (j := 1) rfl) ?_ | refine op_ixT (atI_nat (j := 2) rfl) ?_ | refine op_ixT (atI_nat (j := 3) rfl) ?_ | refine ⟨colds rfl, ?_⟩ | refine op_inN (.inl rfl) ?_ | refine op_inN (.inr rfl) ?_ | refine cb_isi rfl kit_ii ?_ | refine cb_isi rfl kit_ib ?_ | refine cb_isi rfl kit_ss ?_ | refine cb_len rfl ?_ | refine ⟨rfl, ?_⟩))
    refine se_for (fun i c' => ∃ x4 x5, c' = [some (.da (nmL ns)), some (.da (.int (l : Int))), some (.da (nmL os)), some (.ac ((os ++ ns.take i).map .str)), x4, x5]) (ei_enum ?_)
    (repeat (first | with_reducible refine se_seq ?_ | with_reducible refine se_if ?_ | with_reducible refine se_ret ?_ | with_reducible refine ev_int ?_ | with_reducible refine ev_str ?_ | with_reducible refine ev_bl ?_ | with_reducible refine ev_non ?_ | with_reducible refine ev_ty ?_ | refine ev_var rfl ?_ | with_reducible refine ev_ofF (ef_op (r := rCat) ?_) | with_reducible refine ev_ofF (ef_lst ?_) | with_reducible refine ev_ofF (ef_sl ?_) | with_reducible refine ev_op ?_ | with_reducible refine ef_op ?_ | with_reducible refine ef_lst ?_ | with_reducible refine ef_sl ?_ | with_reducible refine ev_tup ?_ | with_reducible refine ev_chain ?_ | with_reducible refine ev_tupL ?_ | with_reducible refine ev_isi2 ?_ | with_reducible refine ev_cb ?_ | refine ⟨_, _, _, rfl, clean_nmL _, kit_ll, kit_lt, ?_⟩ | refine ⟨_, _, _, rfl, clean_nmT _, kit_tl, kit_tt, ?_⟩ | refine cb_isi (clean_arcD _) kit_tt ?_ | with_reducible refine ev_bm ?_ | with_reducible refine ea_cons ?_ | with_reducible refine ea_nil ?_ | with_reducible refine eo_none ?_ | with_reducible refine eo_some ?_ | with_reducible refine et_test ?_ | with_reducible refine et_B ?_ | with_reducible refine et_not ?_ | with_reducible refine et_and ?_ | with_reducible refine et_or ?_ | with_reducible refine et_yes ?_ | with_reducible refine ev_if ?_ | with_reducible refine ev_andV ?_ | with_reducible refine ev_orV ?_ | with_reducible refine ev_notV ?_ | with_reducible refine op_i0 ?_ | with_reducible refine op_b0 ?_ | with_reducible refine op_inC ?_ | with_reducible refine op_niC ?_ | with_reducible refine ⟨_, rfl, ?_⟩ | refine ⟨fun h => Bool.noConfusion h, fun _ => ?_⟩ | refine ⟨fun _ => ?_, fun h => Bool.noConfusion h⟩ | with_reducible refine se_next ?_ | refine ev_callP ?_ | refine ev_mI MC ?_ | refine ev_mO MC ?_ | refine ev_mA MC ?_ | refine ⟨_, _, _, rfl, ?_⟩ | refine op_eqI ?_ | refine op_neI ?_ | refine op_ixT (atI_nat (j := 0) rfl) ?_ | refine op_ixT (atI_nat (j := 1) rfl) ?_ | refine op_ixT (atI_nat (j := 2) rfl) ?_ | refine op_ixT (atI_nat (j := 3) rfl) ?_ | refine ⟨colds rfl, ?_⟩ | refine op_inN (.inl rfl) ?_ | refine op_inN (.inr rfl) ?_ | refine cb_isi rfl kit_ii ?_ | refine cb_isi rfl kit_ib ?_ | refine cb_isi rfl kit_ss ?_ | refine cb_len rfl ?_ | refine ⟨rfl, ?_⟩))
    refine ⟨⟨none, none, by simp [ctx0, List.replicate]⟩, fun i d c' hd hw => ?_, fun c' hw => ?_⟩
    · obtain ⟨x4, x5, rfl⟩ := hw
      obtain ⟨d', hd', rfl⟩ := enumD_get hd
      obtain ⟨x, hx, rfl⟩ := at_map hd'
      refine ⟨_, _, tg_tup rfl (tgs_cons tg_name (tgs_cons tg_name tgs_nil)), ?_⟩
      (repeat (first | with_reducible refine se_seq ?_ | with_reducible refine se_if ?_ | with_reducible refine se_ret ?_ | with_reducible refine ev_int ?_ | with_reducible refine ev_str ?_ | with_reducible refine ev_bl ?_ | with_reducible refine ev_non ?_ | with_reducible refine ev_ty ?_ | refine ev_var rfl ?_ | with_reducible refine ev_ofF (ef_op (r := rCat) ?_) | with_reducible refine ev_ofF (ef_lst ?_) | with_reducible refine ev_ofF (ef_sl ?_) | with_reducible refine ev_op ?_ | with_reducible refine ef_op ?_ | with_reducible refine ef_lst ?_ | with_reducible refine ef_sl ?_ | with_reducible refine ev_tup ?_ | with_reducible refine ev_chain ?_ | with_reducible refine ev_tupL ?_ | with_reducible refine ev_isi2 ?_ | with_reducible refine ev_cb ?_ | refine ⟨_, _, _, rfl, clean_nmL _, kit_ll, kit_lt, ?_⟩ | refine ⟨_, _, _, rfl, clean_nmT _, kit_tl, kit_tt, ?_⟩ | refine cb_isi (clean_arcD _) kit_tt ?_ | with_reducible refine ev_bm ?_ | with_reducible refine ea_cons ?_ | with_reducible refine ea_nil ?_ | with_reducible refine eo_none ?_ | with_reducible refine eo_some ?_ | with_reducible refine et_test ?_ | with_reducible refine et_B ?_ | with_reducible refine et_not ?_ | with_reducible refine et_and ?_ | with_reducible refine et_or ?_ | with_reducible refine et_yes ?_ | with_reducible refine ev_if ?_ | with_reducible refine ev_andV ?_ | with_reducible refine ev_orV ?_ | with_reducible refine ev_notV ?_ | with_reducible refine op_i0 ?_ | with_reducible refine op_b0 ?_ | with_reducible refine op_inC ?_ | with_reducible refine op_niC ?_ | with_reducible refine ⟨_, rfl, ?_⟩ | refine ⟨fun h => Bool.noConfusion h, fun _ => ?_⟩ | refine ⟨fun _ => ?_, fun h => Bool.noConfusion h⟩ | with_reducible refine se_next ?_ | refine ev_callP ?_ | refine ev_mI MC ?_ | refine ev_mO MC ?_ | refine ev_mA MC ?_ | refine ⟨_, _, _, rfl, ?_⟩ | refine op_eqI ?_ | refine op_neI ?_ | refine op_ixT (atI_nat (j := 0) rfl) ?_ | refine op_ixT (atI_nat (j := 1) rfl) ?_ | refine op_ixT (atI_nat (j := 2) rfl) ?_ | refine op_ixT (atI_nat (j := 3) rfl) ?_ | refine ⟨colds rfl, ?_⟩ | refine op_inN (.inl rfl) ?_ | refine op_inN (.inr rfl) ?_ | refine cb_isi rfl kit_ii ?_ | refine cb_isi rfl kit_ib ?_ | refine cb_isi rfl kit_ss ?_ | refine cb_len rfl ?_ | refine ⟨rfl, ?_⟩))
      refine ⟨n4 x (List.mem_of_getElem? hx), ?_⟩
      (repeat (first | with_reducible refine se_seq ?_ | with_reducible refine se_if ?_ | with_reducible refine se_ret ?_ | with_reducible refine ev_int ?_ | with_reducible refine ev_str ?_ | with_reducible refine ev_bl ?_ | with_reducible refine ev_non ?_ | with_reducible refine ev_ty ?_ | refine ev_var rfl ?_ | with_reducible refine ev_ofF (ef_op (r := rCat) ?_) | with_reducible refine ev_ofF (ef_lst ?_) | with_reducible refine ev_ofF (ef_sl ?_) | with_reducible refine ev_op ?_ | with_reducible refine ef_op ?_ | with_reducible refine ef_lst ?_ | with_reducible refine ef_sl ?_ | with_reducible refine ev_tup ?_ | with_reducible refine ev_chain ?_ | with_reducible refine ev_tupL ?_ | with_reducible refine ev_isi2 ?_ | with_reducible refine ev_cb ?_ | refine ⟨_, _, _, rfl, clean_nmL _, kit_ll, kit_lt, ?_⟩ | refine ⟨_, _, _, rfl, clean_nmT _, kit_tl, kit_tt, ?_⟩ | refine cb_isi (clean_arcD _) kit_tt ?_ | with_reducible refine ev_bm ?_ | with_reducible refine ea_cons ?_ | with_reducible refine ea_nil ?_ | with_reducible refine eo_none ?_ | with_reducible refine eo_some ?_ | with_reducible refine et_test ?_ | with_reducible refine et_B ?_ | with_reducible refine et_not ?_ | with_reducible refine et_and ?_ | with_reducible refine et_or ?_ | with_reducible refine et_yes ?_ | with_reducible refine ev_if ?_ | with_reducible refine ev_andV ?_ | with_reducible refine ev_orV ?_ | with_reducible refine ev_notV ?_ | with_reducible refine op_i0 ?_ | with_reducible refine op_b0 ?_ | with_reducible refine op_inC ?_ | with_reducible refine op_niC ?_ | with_reducible refine ⟨_, rfl, ?_⟩ | refine ⟨fun h => Bool.noConfusion h, fun _ => ?_⟩ | refine ⟨fun _ => ?_, fun h => Bool.noConfusion h⟩ | with_reducible refine se_next ?_ | refine ev_callP ?_ | refine ev_mI MC ?_ | refine ev_mO MC ?_ | refine ev_mA MC ?_ | refine ⟨_, _, _, rfl, ?_⟩ | refine op_eqI ?_ | refine op_neI ?_ | refine op_ixT (atI_nat (j := 0) rfl) ?_ | refine op_ixT (atI_nat (j := 1) rfl) ?_ | refine op_ixT (atI_nat (j := 2) rfl) ?_ | refine op_ixT (atI_nat (j := 3) rfl) ?_ | refine ⟨colds rfl, ?_⟩ | refine op_inN (.inl rfl) ?_ | refine op_inN (.inr rfl) ?_ | refine cb_isi rfl kit_ii ?_ | refine cb_isi rfl kit_ib ?_ | refine cb_isi rfl kit_ss ?_ | refine cb_len rfl ?_ | refine ⟨rfl, ?_⟩))
      refine ⟨fun h => absurd h ?_, fun _ => ?_⟩
      · have h1 := n5 x (List.mem_of_getElem? hx)
        have h2 := nodup_take n3 hx
        simp [h1, h2]
      (repeat (first | with_reducible refine se_seq ?_ | with_reducible refine se_if ?_ | with_reducible refine se_ret ?_ | with_reducible refine ev_int ?_ | with_reducible refine ev_str ?_ | with_reducible refine ev_bl ?_ | with_reducible refine ev_non ?_ | with_reducible refine ev_ty ?_ | refine ev_var rfl ?_ | with_reducible refine ev_ofF (ef_op (r := rCat) ?_) | with_reducible refine ev_ofF (ef_lst ?_) | with_reducible refine ev_ofF (ef_sl ?_) | with_reducible refine ev_op ?_ | with_reducible refine ef_op ?_ | with_reducible refine ef_lst ?_ | with_reducible refine ef_sl ?_ | with_reducible refine ev_tup ?_ | with_reducible refine ev_chain ?_ | with_reducible refine ev_tupL ?_ | with_reducible refine ev_isi2 ?_ | with_reducible refine ev_cb ?_ | refine ⟨_, _, _, rfl, clean_nmL _, kit_ll, kit_lt, ?_⟩ | refine ⟨_, _, _, rfl, clean_nmT _, kit_tl, kit_tt, ?_⟩ | refine cb_isi (clean_arcD _) kit_tt ?_ | with_reducible refine ev_bm ?_ | with_reducible refine ea_cons ?_ | with_reducible refine ea_nil ?_ | with_reducible refine eo_none ?_ | with_reducible refine eo_some ?_ | with_reducible refine et_test ?_ | with_reducible refine et_B ?_ | with_reducible refine et_not ?_ | with_reducible refine et_and ?_ | with_reducible refine et_or ?_ | with_reducible refine et_yes ?_ | with_reducible refine ev_if ?_ | with_reducible refine ev_andV ?_ | with_reducible refine ev_orV ?_ | with_reducible refine ev_notV ?_ | with_reducible refine op_i0 ?_ | with_reducible refine op_b0 ?_ | with_reducible refine op_inC ?_ | with_reducible refine op_niC ?_ | with_reducible refine ⟨_, rfl, ?_⟩ | refine ⟨fun h => Bool.noConfusion h, fun _ => ?_⟩ | refine ⟨fun _ => ?_, fun h => Bool.noConfusion h⟩ | with_reducible refine se_next ?_ | refine ev_callP ?_ | refine ev_mI MC ?_ | refine ev_mO MC ?_ | refine ev_mA MC ?_ | refine ⟨_, _, _, rfl, ?_⟩ | refine op_eqI ?_ | refine op_neI ?_ | refine op_ixT (atI_nat (j := 0) rfl) ?_ | refine op_ixT (atI_nat (j := 1) rfl) ?_ | refine op_ixT (atI_nat (j := 2) rfl) ?_ | refine op_ixT (atI_nat (j := 3) rfl) ?_ | refine ⟨colds rfl, ?_⟩ | refine op_inN (.inl rfl) ?_ | refine op_inN (.inr rfl) ?_ | refine cb_isi rfl kit_ii ?_ | refine cb_isi rfl kit_ib ?_ | refine cb_isi rfl kit_ss ?_ | refine cb_len rfl ?_ | refine ⟨rfl, ?_⟩))
      refine se_app rfl ?_
      (repeat (first | with_reducible refine se_seq ?_ | with_reducible refine se_if ?_ | with_reducible refine se_ret ?_ | with_reducible refine ev_int ?_ | with_reducible refine ev_str ?_ | with_reducible refine ev_bl ?_ | with_reducible refine ev_non ?_ | with_reducible refine ev_ty ?_ | refine ev_var rfl ?_ | with_reducible refine ev_ofF (ef_op (r := rCat) ?_) | with_reducible refine ev_ofF (ef_lst ?_) | with_reducible refine ev_ofF (ef_sl ?_) | with_reducible refine ev_op ?_ | with_reducible refine ef_op ?_ | with_reducible refine ef_lst ?_ | with_reducible refine ef_sl ?_ | with_reducible refine ev_tup ?_ | with_reducible refine ev_chain ?_ | with_reducible refine ev_tupL ?_ | with_reducible refine ev_isi2 ?_ | with_reducible refine ev_cb ?_ | refine ⟨_, _, _, rfl, clean_nmL _, kit_ll, kit_lt, ?_⟩ | refine ⟨_, _, _, rfl, clean_nmT _, kit_tl, kit_tt, ?_⟩ | refine cb_isi (clean_arcD _) kit_tt ?_ | with_reducible refine ev_bm ?_ | with_reducible refine ea_cons ?_ | with_reducible refine ea_nil ?_ | with_reducible refine eo_none ?_ | with_reducible refine eo_some ?_ | with_reducible refine et_test ?_ | with_reducible refine et_B ?_ | with_reducible refine et_not ?_ | with_reducible refine et_and ?_ | with_reducible refine et_or ?_ | with_reducible refine et_yes ?_ | with_reducible refine ev_if ?_ | with_reducible refine ev_andV ?_ | with_reducible refine ev_orV ?_ | with_reducible refine ev_notV ?_ | with_reducible refine op_i0 ?_ | with_reducible refine op_b0 ?_ | with_reducible refine op_inC ?_ | with_reducible refine op_niC ?_ | with_reducible refine ⟨_, rfl, ?_⟩ | refine ⟨fun h => Bool.noConfusion h, fun _ => ?_⟩ | refine ⟨fun _ => ?_, fun h => Bool.noConfusion h⟩ | with_reducible refine se_next ?_ | refine ev_callP ?_ | refine ev_mI MC ?_ | refine ev_mO MC ?_ | refine ev_mA MC ?_ | refine ⟨_, _, _, rfl, ?_⟩ | refine op_eqI ?_ | refine op_neI ?_ | refine op_ixT (atI_nat (j := 0) rfl) ?_ | refine op_ixT (atI_nat (j := 1) rfl) ?_ | refine op_ixT (atI_nat (j := 2) rfl) ?_ | refine op_ixT (atI_nat (j := 3) rfl) ?_ | refine ⟨colds rfl, ?_⟩ | refine op_inN (.inl rfl) ?_ | refine op_inN (.inr rfl) ?_ | refine cb_isi rfl kit_ii ?_ | refine cb_isi rfl kit_ib ?_ | refine cb_isi rfl kit_ss ?_ | refine cb_len rfl ?_ | refine ⟨rfl, ?_⟩))
      refine ⟨by simp; omega, some (.da (.int (i : Int))), some (.da (.str x)), ?_⟩
      rw [take_snoc hx]
      simp
    · obtain ⟨x4, x5, rfl⟩ := hw
      (repeat (first | with_reducible refine se_seq ?_ | with_reducible refine se_if ?_ | with_reducible refine se_ret ?_ | with_reducible refine ev_int ?_ | with_reducible refine ev_str ?_ | with_reducible refine ev_bl ?_ | with_reducible refine ev_non ?_ | with_reducible refine ev_ty ?_ | refine ev_var rfl ?_ | with_reducible refine ev_ofF (ef_op (r := rCat) ?_) | with_reducible refine ev_ofF (ef_lst ?_) | with_reducible refine ev_ofF (ef_sl ?_) | with_reducible refine ev_op ?_ | with_reducible refine ef_op ?_ | with_reducible refine ef_lst ?_ | with_reducible refine ef_sl ?_ | with_reducible refine ev_tup ?_ | with_reducible refine ev_chain ?_ | with_reducible refine ev_tupL ?_ | with_reducible refine ev_isi2 ?_ | with_reducible refine ev_cb ?_ | refine ⟨_, _, _, rfl, clean_nmL _, kit_ll, kit_lt, ?_⟩ | refine ⟨_, _, _, rfl, clean_nmT _, kit_tl, kit_tt, ?_⟩ | refine cb_isi (clean_arcD _) kit_tt ?_ | with_reducible refine ev_bm ?_ | with_reducible refine ea_cons ?_ | with_reducible refine ea_nil ?_ | with_reducible refine eo_none ?_ | with_reducible refine eo_some ?_ | with_reducible refine et_test ?_ | with_reducible refine et_B ?_ | with_reducible refine et_not ?_ | with_reducible refine et_and ?_ | with_reducible refine et_or ?_ | with_reducible refine et_yes ?_ | with_reducible refine ev_if ?_ | with_reducible refine ev_andV ?_ | with_reducible refine ev_orV ?_ | with_reducible refine ev_notV ?_ | with_reducible refine op_i0 ?_ | with_reducible refine op_b0 ?_ | with_reducible refine op_inC ?_ | with_reducible refine op_niC ?_ | with_reducible refine ⟨_, rfl, ?_⟩ | refine ⟨fun h => Bool.noConfusion h, fun _ => ?_⟩ | refine ⟨fun _ => ?_, fun h => Bool.noConfusion h⟩ | with_reducible refine se_next ?_ | refine ev_callP ?_ | refine ev_mI MC ?_ | refine ev_mO MC ?_ | refine ev_mA MC ?_ | refine ⟨_, _, _, rfl, ?_⟩ | refine op_eqI ?_ | refine op_neI ?_ | refine op_ixT (atI_nat (j := 0) rfl) ?_ | refine op_ixT (atI_nat (j := 1) rfl) ?_ | refine op_ixT (atI_nat (j := 2) rfl) ?_ | refine op_ixT (atI_nat (j := 3) rfl) ?_ | refine ⟨colds rfl, ?_⟩ | refine op_inN (.inl rfl) ?_ | refine op_inN (.inr rfl) ?_ | refine cb_isi rfl kit_ii ?_ | refine cb_isi rfl kit_ib ?_ | refine cb_isi rfl kit_ss ?_ | refine cb_len rfl ?_ | refine ⟨rfl, ?_⟩))
      exact hk
/-! ### are_some -/
abbrev s_are_some : Stmt := topS 17
theorem sc_are_some : FnScope ["things", "names", "least", "known", "thing"] ["things", "names", "least"] (defScope s_are_some) := ⟨rfl, rfl, rfl, by decide +kernel, rfl, by decide +kernel, by decide +kernel⟩
-- slots: 0 things, 1 names, 2 least, 3 known, 4 thing; calls: ; constants: 
theorem ok_are_some {f : Addr} {fd : FuncData} {q : Str} (F : Fun K "are_some" q s_are_some f fd) (B : Bt mg) : FnOk P w K mg base CX0 1 f fd ["things", "names", "least"] (spD preSome) := by
  refine F.ok sc_are_some (fun vs H Q E h => ?_) (fun cdv A outer s H vs Q E hr h => ?_)
  · obtain ⟨T, h⟩ := h
    exact spT_len (fun as k kf hp => by obtain ⟨_, _, _, rfl, _⟩ := hp; rfl) h
  · obtain ⟨T, h⟩ := h
    have hu := hu_of hr
    refine ⟨_, (pss_cons (ps_if (pw_or (pt_not (pt_val (pe_callB (k_isiT K rfl) (by rfl) B.isinstance_ boot_isinstance (pa_cons (pv 0) (pa_cons (pe_tup (pa_cons (pe_bltn (v := .ty "list") (by rfl) B.list_ boot_list rfl) (pa_cons (pe_bltn (v := .ty "tuple") (by rfl) B.tuple_ boot_tuple rfl) pa_nil))) pa_nil))))) (pw_or1 (pt_cmpR op_lt (pe_callB (k_len K rfl) (by rfl) B.len_ PySem.boot_len (pa_cons (pv 0) pa_nil)) (pv 2) (nomark _)))).pt (pss_one (ps_ret pe_bl)) pss_nil)
      (pss_cons (ps_set (i := 3) sc_are_some.nd rfl (.inl rfl) (pe_lst pa_nil))
      (pss_cons (ps_for PassesOwn.never rfl (k_seq K rfl (pv 0)) (pg_name (i := 4) sc_are_some.nd rfl (.inl rfl))
      (pss_cons (ps_if (pw_or (pt_not (pt_val (pe_callB (k_isi K rfl) (by rfl) B.isinstance_ boot_isinstance (pa_cons (pv 4) (pa_cons (pe_bltn (v := .ty "str") (by rfl) B.str_ boot_str rfl) pa_nil))))) (pw_or (pt_cmpR (k_notIn K rfl) (pv 4) (pv 1) (by with_unfolding_all rfl)) (pw_or1 (pt_cmpR (k_in K rfl) (pv 4) (pv 3) (by with_unfolding_all rfl))))).pt (pss_one (ps_ret pe_bl)) pss_nil)
      (pss_one (ps_expr (k_bm K rfl PySem.F.plainAttrs_list PySem.F.slot_list_append PySem.F.type_list_append mt_append (pv 3) (pa_cons (pv 4) pa_nil))))))
      (pss_one (ps_ret pe_bl))))), body h fun g as k kf hT hst hp => ?_⟩
    obtain ⟨xs, ns, l, rfl, h1, h2, h3, h4, h5, hk⟩ := hp
    (repeat (first | with_reducible refine se_seq ?_ | with_reducible refine se_if ?_ | with_reducible refine se_ret ?_ | with_reducible refine ev_int ?_ | with_reducible refine ev_str ?_ | with_reducible refine ev_bl ?_ | with_reducible refine ev_non ?_ | with_reducible refine ev_ty ?_ | refine ev_var rfl ?_ | with_reducible refine ev_ofF (ef_op (r := rCat) ?_) | with_reducible refine ev_ofF (ef_lst ?_) | with_reducible refine ev_ofF (ef_sl ?_) | with_reducible refine ev_op ?_ | with_reducible refine ef_op ?_ | with_reducible refine ef_lst ?_ | with_reducible refine ef_sl ?_ | with_reducible refine ev_tup ?_ | with_reducible refine ev_chain ?_ | with_reducible refine ev_tupL ?_ | with_reducible refine ev_isi2 ?_ | with_reducible refine ev_cb ?_ | refine ⟨_, _, _, rfl, clean_nmL _, kit_ll, kit_lt, ?_⟩ | refine ⟨_, _, _, rfl, clean_nmT _, kit_tl, kit_tt, ?_⟩ | refine cb_isi (clean_arcD _) kit_tt ?_ | with_reducible refine ev_bm ?_ | with_reducible refine ea_cons ?_ | with_reducible refine ea_nil ?_ | with_reducible refine eo_none ?_ | with_reducible refine eo_some ?_ | with_reducible refine et_test ?_ | with_reducible refine et_B ?_ | with_reducible refine et_not ?_ | with_reducible refine et_and ?_ | with_reducible refine et_or ?_ | with_reducible refine et_yes ?_ | with_reducible refine ev_if ?_ | with_reducible refine ev_andV ?_ | with_reducible refine ev_orV ?_ | with_reducible refine ev_notV ?_ | with_reducible refine op_i0 ?_ | with_reducible refine op_b0 ?_ | with_reducible refine op_inC ?_ | with_reducible refine op_niC ?_ | with_reducible refine ⟨_, rfl, ?_⟩ | refine ⟨fun h => Bool.noConfusion h, fun _ => ?_⟩ | refine ⟨fun _ => ?_, fun h => Bool.noConfusion h⟩ | with_reducible refine se_next ?_ | refine ev_callP ?_ | refine ev_mI MC ?_ | refine ev_mO MC ?_ | refine ev_mA MC ?_ | refine ⟨_, _, _, rfl, ?_⟩ | refine op_eqI ?_ | refine op_neI ?_ | refine op_ixT (atI_nat (j := 0) rfl) ?_ | refine op_ixT (atI_nat (j := 1) rfl) ?_ | refine op_ixT (atI_nat (j := 2) rfl) ?_ | refine op_ixT (atI_nat (j := 3) rfl) ?_ | refine ⟨colds rfl, ?_⟩ | refine op_inN (.inl rfl) ?_ | refine op_inN (.inr rfl) ?_ | refine cb_isi rfl kit_ii ?_ | refine cb_isi rfl kit_ib ?_ | refine cb_isi rfl kit_ss ?_ | refine cb_len rfl ?_ | refine ⟨rfl, ?_⟩))
    refine ⟨fun h => absurd h (by simp; omega), fun _ => ?_⟩
    (repeat (first | with_reducible refine se_seq ?_ | with_reducible refine se_if ?_ | with_reducible refine se_ret ?_ | with_reducible refine ev_int ?_ | with_reducible refine ev_str ?_ | with_reducible refine ev_bl ?_ | with_reducible refine ev_non ?_ | with_reducible refine ev_ty ?_ | refine ev_var rfl ?_ | with_reducible refine ev_ofF (ef_op (r := rCat) ?_) | with_reducible refine ev_ofF (ef_lst ?_) | with_reducible refine ev_ofF (ef_sl ?_) | with_reducible refine ev_op ?_ | with_reducible refine ef_op ?_ | with_reducible refine ef_lst ?_ | with_reducible refine ef_sl ?_ | with_reducible refine ev_tup ?_ | with_reducible refine ev_chain ?_ | with_reducible refine ev_tupL ?_ | with_reducible refine ev_isi2 ?_ | with_reducible refine ev_cb ?_ | refine ⟨_, _, _, rfl, clean_nmL _, kit_ll, kit_lt, ?_⟩ | refine ⟨_, _, _, rfl, clean_nmT _, kit_tl, kit_tt, ?_⟩ | refine cb_isi (clean_arcD _) kit_tt ?_ | with_reducible refine ev_bm ?_ | with_reducible refine ea_cons ?_ | with_reducible refine ea_nil ?_ | with_reducible refine eo_none ?_ | with_reducible refine eo_some ?_ | with_reducible refine et_test ?_ | with_reducible refine et_B ?_ | with_reducible refine et_not ?_ | with_reducible refine et_and ?_ | with_reducible refine et_or ?_ | with_reducible refine et_yes ?_ | with_reducible refine ev_if ?_ | with_reducible refine ev_andV ?_ | with_reducible refine ev_orV ?_ | with_reducible refine ev_notV ?_ | with_reducible refine op_i0 ?_ | with_reducible refine op_b0 ?_ | with_reducible refine op_inC ?_ | with_reducible refine op_niC ?_ | with_reducible refine ⟨_, rfl, ?_⟩ | refine ⟨fun h => Bool.noConfusion h, fun _ => ?_⟩ | refine ⟨fun _ => ?_, fun h => Bool.noConfusion h⟩ | with_reducible refine se_next ?_ | refine ev_callP ?_ | refine ev_mI MC ?_ | refine ev_mO MC ?_ | refine ev_mA MC ?_ | refine ⟨_, _, _, rfl, ?_⟩ | refine op_eqI ?_ | refine op_neI ?_ | refine op_ixT (atI_nat (j := 0) rfl) ?_ | refine op_ixT (atI_nat (j := 1) rfl) ?_ | refine op_ixT (atI_nat (j := 2) rfl) ?_ | refine op_ixT (atI_nat (j := 3) rfl) ?_ | refine ⟨colds rfl, ?_⟩ | refine op_inN (.inl rfl) ?_ | refine op_inN (.inr rfl) ?_ | refine cb_isi rfl kit_ii ?_ | refine cb_isi rfl kit_ib ?_ | refine cb_isi rfl kit_ss ?_ | refine cb_len rfl ?_ | refine ⟨rfl, ?_⟩))
    refine se_asgF (ef_lst (ea_nil ⟨[], rfl, by decide, ?_⟩))
    (repeat (first | with_reducible refine se_seq ?_ | with_reducible refine se_if ?_ | with_reducible refine se_ret ?_ | with_reducible refine ev_int ?_ | with_reducible refine ev_str ?_ | with_reducible refine ev_bl ?_ | with_reducible refine ev_non ?_ | with_reducible refine ev_ty ?_ | refine ev_var rfl ?_ | with_reducible refine ev_ofF (ef_op (r := rCat) ?_) | with_reducible refine ev_ofF (ef_lst ?_) | with_reducible refine ev_ofF (ef_sl ?_) | with_reducible refine ev_op ?_ | with_reducible refine ef_op ?_ | with_reducible refine ef_lst ?_ | with_reducible refine ef_sl ?_ | with_reducible refine ev_tup ?_ | with_reducible refine ev_chain ?_ | with_reducible refine ev_tupL ?_ | with_reducible refine ev_isi2 ?_ | with_reducible refine ev_cb ?_ | refine ⟨_, _, _, rfl, clean_nmL _, kit_ll, kit_lt, ?_⟩ | refine ⟨_, _, _, rfl, clean_nmT _, kit_tl, kit_tt, ?_⟩ | refine cb_isi (clean_arcD _) kit_tt ?_ | with_reducible refine ev_bm ?_ | with_reducible refine ea_cons ?_ | with_reducible refine ea_nil ?_ | with_reducible refine eo_none ?_ | with_reducible refine eo_some ?_ | with_reducible refine et_test ?_ | with_reducible refine et_B ?_ | with_reducible refine et_not ?_ | with_reducible refine et_and ?_ | with_reducible refine et_or ?_ | with_reducible refine et_yes ?_ | with_reducible refine ev_if ?_ | with_reducible refine ev_andV ?_ | with_reducible refine ev_orV ?_ | with_reducible refine ev_notV ?_ | with_reducible refine op_i0 ?_ | with_reducible refine op_b0 ?_ | with_reducible refine op_inC ?_ | with_reducible refine op_niC ?_ | with_reducible refine ⟨_, rfl, ?_⟩ | refine ⟨fun h => Bool.noConfusion h, fun _ => ?_⟩ | refine ⟨fun _ => ?_, fun h => Bool.noConfusion h⟩ | with_reducible refine se_next ?_ | refine ev_callP ?_ | refine ev_mI MC ?_ | refine ev_mO MC ?_ | refine ev_mA MC ?_ | refine ⟨_, _, _, rfl, ?_⟩ | refine op_eqI ?_ | refine op_neI ?_ | refine op_ixT (atI_nat (j := 0) rfl) ?_ | refine op_ixT (atI_nat (j := 1) rfl) ?_ | refine op_ixT (atI_nat (j := 2) rfl) ?_ | refine op_ixT (atI_nat (j := 3) rfl) ?_ | refine ⟨colds rfl, ?_⟩ | refine op_inN (.inl rfl) ?_ | refine op_inN (.inr rfl) ?_ | refine cb_isi rfl kit_ii ?_ | refine cb_isi rfl kit_ib ?_ | refine cb_isi rfl kit_ss ?_ | refine cb_len rfl ?_ | refine ⟨rfl, ?_⟩))
    refine se_for (fun i c' => ∃ x4, c' = [some (.da (nmT xs)), some (.da (nmL ns)), some (.da (.int (l : Int))), some (.ac ((xs.take i).map .str)), x4]) (ei_seq ?_)
    (repeat (first | with_reducible refine se_seq ?_ | with_reducible refine se_if ?_ | with_reducible refine se_ret ?_ | with_reducible refine ev_int ?_ | with_reducible refine ev_str ?_ | with_reducible refine ev_bl ?_ | with_reducible refine ev_non ?_ | with_reducible refine ev_ty ?_ | refine ev_var rfl ?_ | with_reducible refine ev_ofF (ef_op (r := rCat) ?_) | with_reducible refine ev_ofF (ef_lst ?_) | with_reducible refine ev_ofF (ef_sl ?_) | with_reducible refine ev_op ?_ | with_reducible refine ef_op ?_ | with_reducible refine ef_lst ?_ | with_reducible refine ef_sl ?_ | with_reducible refine ev_tup ?_ | with_reducible refine ev_chain ?_ | with_reducible refine ev_tupL ?_ | with_reducible refine ev_isi2 ?_ | with_reducible refine ev_cb ?_ | refine ⟨_, _, _, rfl, clean_nmL _, kit_ll, kit_lt, ?_⟩ | refine ⟨_, _, _, rfl, clean_nmT _, kit_tl, kit_tt, ?_⟩ | refine cb_isi (clean_arcD _) kit_tt ?_ | with_reducible refine ev_bm ?_ | with_reducible refine ea_cons ?_ | with_reducible refine ea_nil ?_ | with_reducible refine eo_none ?_ | with_reducible refine eo_some ?_ | with_reducible refine et_test ?_ | with_reducible refine et_B ?_ | with_reducible refine et_not ?_ | with_reducible refine et_and ?_ | with_reducible refine et_or ?_ | with_reducible refine et_yes ?_ | with_reducible refine ev_if ?_ | with_reducible refine ev_andV ?_ | with_reducible refine ev_orV ?_ | with_reducible refine ev_notV ?_ | with_reducible refine op_i0 ?_ | with_reducible refine op_b0 ?_ | with_reducible refine op_inC ?_ | with_reducible refine op_niC ?_ | with_reducible refine ⟨_, rfl, ?_⟩ | refine ⟨fun h => Bool.noConfusion h, fun _ => ?_⟩ | refine ⟨fun _ => ?_, fun h => Bool.noConfusion h⟩ | with_reducible refine se_next ?_ | refine ev_callP ?_ | refine ev_mI MC ?_ | refine ev_mO MC ?_ | refine ev_mA MC ?_ | refine ⟨_, _, _, rfl, ?_⟩ | refine op_eqI ?_ | refine op_neI ?_ | refine op_ixT (atI_nat (j := 0) rfl) ?_ | refine op_ixT (atI_nat (j := 1) rfl) ?_ | refine op_ixT (atI_nat (j := 2) rfl) ?_ | refine op_ixT (atI_nat (j := 3) rfl) ?_ | refine ⟨colds rfl, ?_⟩ | refine op_inN (.inl rfl) ?_ | refine op_inN (.inr rfl) ?_ | refine cb_isi rfl kit_ii ?_ | refine cb_isi rfl kit_ib ?_ | refine cb_isi rfl kit_ss ?_ | refine cb_len rfl ?_ | refine ⟨rfl, ?_⟩))
    refine ⟨_, .inr rfl, ⟨none, by simp [ctx0, List.replicate]⟩, fun i d c' hd hw => ?_, fun c' hw => ?_⟩
    · obtain ⟨x4, rfl⟩ := hw
      obtain ⟨x, hx, rfl⟩ := at_map hd
      refine ⟨_, _, tg_name, ?_⟩
      (repeat (first | with_reducible refine se_seq ?_ | with_reducible refine se_if ?_ | with_reducible refine se_ret ?_ | with_reducible refine ev_int ?_ | with_reducible refine ev_str ?_ | with_reducible refine ev_bl ?_ | with_reducible refine ev_non ?_ | with_reducible refine ev_ty ?_ | refine ev_var rfl ?_ | with_reducible refine ev_ofF (ef_op (r := rCat) ?_) | with_reducible refine ev_ofF (ef_lst ?_) | with_reducible refine ev_ofF (ef_sl ?_) | with_reducible refine ev_op ?_ | with_reducible refine ef_op ?_ | with_reducible refine ef_lst ?_ | with_reducible refine ef_sl ?_ | with_reducible refine ev_tup ?_ | with_reducible refine ev_chain ?_ | with_reducible refine ev_tupL ?_ | with_reducible refine ev_isi2 ?_ | with_reducible refine ev_cb ?_ | refine ⟨_, _, _, rfl, clean_nmL _, kit_ll, kit_lt, ?_⟩ | refine ⟨_, _, _, rfl, clean_nmT _, kit_tl, kit_tt, ?_⟩ | refine cb_isi (clean_arcD _) kit_tt ?_ | with_reducible refine ev_bm ?_ | with_reducible refine ea_cons ?_ | with_reducible refine ea_nil ?_ | with_reducible refine eo_none ?_ | with_reducible refine eo_some ?_ | with_reducible refine et_test ?_ | with_reducible refine et_B ?_ | with_reducible refine et_not ?_ | with_reducible refine et_and ?_ | with_reducible refine et_or ?_ | with_reducible refine et_yes ?_ | with_reducible refine ev_if ?_ | with_reducible refine ev_andV ?_ | with_reducible refine ev_orV ?_ | with_reducible refine ev_notV ?_ | with_reducible refine op_i0 ?_ | with_reducible refine op_b0 ?_ | with_reducible refine op_inC ?_ | with_reducible refine op_niC ?_ | with_reducible refine ⟨_, rfl, ?_⟩ | refine ⟨fun h => Bool.noConfusion h, fun _ => ?_⟩ | refine ⟨fun _ => ?_, fun h => Bool.noConfusion h⟩ | with_reducible refine se_next ?_ | refine ev_callP ?_ | refine ev_mI MC ?_ | refine ev_mO MC ?_ | refine ev_mA MC ?_ | refine ⟨_, _, _, rfl, ?_⟩ | refine op_eqI ?_ | refine op_neI ?_ | refine op_ixT (atI_nat (j := 0) rfl) ?_ | refine op_ixT (atI_nat (j := 1) rfl) ?_ | refine op_ixT (atI_nat (j := 2) rfl) ?_ | refine op_ixT (atI_nat (j := 3) rfl) ?_ | refine ⟨colds rfl, ?_⟩ | refine op_inN (.inl rfl) ?_ | refine op_inN (.inr rfl) ?_ | refine cb_isi rfl kit_ii ?_ | refine cb_isi rfl kit_ib ?_ | refine cb_isi rfl kit_ss ?_ | refine cb_len rfl ?_ | refine ⟨rfl, ?_⟩))
      refine ⟨fun h => absurd h ?_, fun _ => ?_⟩
      · simp [h3 x (List.mem_of_getElem? hx)]
      (repeat (first | with_reducible refine se_seq ?_ | with_reducible refine se_if ?_ | with_reducible refine se_ret ?_ | with_reducible refine ev_int ?_ | with_reducible refine ev_str ?_ | with_reducible refine ev_bl ?_ | with_reducible refine ev_non ?_ | with_reducible refine ev_ty ?_ | refine ev_var rfl ?_ | with_reducible refine ev_ofF (ef_op (r := rCat) ?_) | with_reducible refine ev_ofF (ef_lst ?_) | with_reducible refine ev_ofF (ef_sl ?_) | with_reducible refine ev_op ?_ | with_reducible refine ef_op ?_ | with_reducible refine ef_lst ?_ | with_reducible refine ef_sl ?_ | with_reducible refine ev_tup ?_ | with_reducible refine ev_chain ?_ | with_reducible refine ev_tupL ?_ | with_reducible refine ev_isi2 ?_ | with_reducible refine ev_cb ?_ | refine ⟨_, _, _, rfl, clean_nmL _, kit_ll, kit_lt, ?_⟩ | refine ⟨_, _, _, rfl, clean_nmT _, kit_tl, kit_tt, ?_⟩ | refine cb_isi (clean_arcD _) kit_tt ?_ | with_reducible refine ev_bm ?_ | with_reducible refine ea_cons ?_ | with_reducible refine ea_nil ?_ | with_reducible refine eo_none ?_ | with_reducible refine eo_some ?_ | with_reducible refine et_test ?_ | with_reducible refine et_B ?_ | with_reducible refine et_not ?_ | with_reducible refine et_and ?_ | with_reducible refine et_or ?_ | with_reducible refine et_yes ?_ | with_reducible refine ev_if ?_ | with_reducible refine ev_andV ?_ | with_reducible refine ev_orV ?_ | with_reducible refine ev_notV ?_ | with_reducible refine op_i0 ?_ | with_reducible refine op_b0 ?_ | with_reducible refine op_inC ?_ | with_reducible refine op_niC ?_ | with_reducible refine ⟨_, rfl, ?_⟩ | refine ⟨fun h => Bool.noConfusion h, fun _ => ?_⟩ | refine ⟨fun _ => ?_, fun h => Bool.noConfusion h⟩ | with_reducible refine se_next ?_ | refine ev_callP ?_ | refine ev_mI MC ?_ | refine ev_mO MC ?_ | refine ev_mA MC ?_ | refine ⟨_, _, _, rfl, ?_⟩ | refine op_eqI ?_ | refine op_neI ?_ | refine op_ixT (atI_nat (j := 0) rfl) ?_ | refine op_ixT (atI_nat (j := 1) rfl) ?_ | refine op_ixT (atI_nat (j := 2) rfl) ?_ | refine op_ixT (atI_nat (j := 3) rfl) ?_ | refine ⟨colds rfl, ?_⟩ | refine op_inN (.inl rfl) ?_ | refine op_inN (.inr rfl) ?_ | refine cb_isi rfl kit_ii ?_ | refine cb_isi rfl kit_ib ?_ | refine cb_isi rfl kit_ss ?_ | refine cb_len rfl ?_ | refine ⟨rfl, ?_⟩))
      refine ⟨fun h => absurd h ?_, fun _ => ?_⟩
      · simp [nodup_take h2 hx]
      (repeat (first | with_reducible refine se_seq ?_ | with_reducible refine se_if ?_ | with_reducible refine se_ret ?_ | with_reducible refine ev_int ?_ | with_reducible refine ev_str ?_ | with_reducible refine ev_bl ?_ | with_reducible refine ev_non ?_ | with_reducible refine ev_ty ?_ | refine ev_var rfl ?_ | with_reducible refine ev_ofF (ef_op (r := rCat) ?_) | with_reducible refine ev_ofF (ef_lst ?_) | with_reducible refine ev_ofF (ef_sl ?_) | with_reducible refine ev_op ?_ | with_reducible refine ef_op ?_ | with_reducible refine ef_lst ?_ | with_reducible refine ef_sl ?_ | with_reducible refine ev_tup ?_ | with_reducible refine ev_chain ?_ | with_reducible refine ev_tupL ?_ | with_reducible refine ev_isi2 ?_ | with_reducible refine ev_cb ?_ | refine ⟨_, _, _, rfl, clean_nmL _, kit_ll, kit_lt, ?_⟩ | refine ⟨_, _, _, rfl, clean_nmT _, kit_tl, kit_tt, ?_⟩ | refine cb_isi (clean_arcD _) kit_tt ?_ | with_reducible refine ev_bm ?_ | with_reducible refine ea_cons ?_ | with_reducible refine ea_nil ?_ | with_reducible refine eo_none ?_ | with_reducible refine eo_some ?_ | with_reducible refine et_test ?_ | with_reducible refine et_B ?_ | with_reducible refine et_not ?_ | with_reducible refine et_and ?_ | with_reducible refine et_or ?_ | with_reducible refine et_yes ?_ | with_reducible refine ev_if ?_ | with_reducible refine ev_andV ?_ | with_reducible refine ev_orV ?_ | with_reducible refine ev_notV ?_ | with_reducible refine op_i0 ?_ | with_reducible refine op_b0 ?_ | with_reducible refine op_inC ?_ | with_reducible refine op_niC ?_ | with_reducible refine ⟨_, rfl, ?_⟩ | refine ⟨fun h => Bool.noConfusion h, fun _ => ?_⟩ | refine ⟨fun _ => ?_, fun h => Bool.noConfusion h⟩ | with_reducible refine se_next ?_ | refine ev_callP ?_ | refine ev_mI MC ?_ | refine ev_mO MC ?_ | refine ev_mA MC ?_ | refine ⟨_, _, _, rfl, ?_⟩ | refine op_eqI ?_ | refine op_neI ?_ | refine op_ixT (atI_nat (j := 0) rfl) ?_ | refine op_ixT (atI_nat (j := 1) rfl) ?_ | refine op_ixT (atI_nat (j := 2) rfl) ?_ | refine op_ixT (atI_nat (j := 3) rfl) ?_ | refine ⟨colds rfl, ?_⟩ | refine op_inN (.inl rfl) ?_ | refine op_inN (.inr rfl) ?_ | refine cb_isi rfl kit_ii ?_ | refine cb_isi rfl kit_ib ?_ | refine cb_isi rfl kit_ss ?_ | refine cb_len rfl ?_ | refine ⟨rfl, ?_⟩))
      refine se_app rfl ?_
      have hi := (List.getElem?_eq_some_iff.mp hx).1
      (repeat (first | with_reducible refine se_seq ?_ | with_reducible refine se_if ?_ | with_reducible refine se_ret ?_ | with_reducible refine ev_int ?_ | with_reducible refine ev_str ?_ | with_reducible refine ev_bl ?_ | with_reducible refine ev_non ?_ | with_reducible refine ev_ty ?_ | refine ev_var rfl ?_ | with_reducible refine ev_ofF (ef_op (r := rCat) ?_) | with_reducible refine ev_ofF (ef_lst ?_) | with_reducible refine ev_ofF (ef_sl ?_) | with_reducible refine ev_op ?_ | with_reducible refine ef_op ?_ | with_reducible refine ef_lst ?_ | with_reducible refine ef_sl ?_ | with_reducible refine ev_tup ?_ | with_reducible refine ev_chain ?_ | with_reducible refine ev_tupL ?_ | with_reducible refine ev_isi2 ?_ | with_reducible refine ev_cb ?_ | refine ⟨_, _, _, rfl, clean_nmL _, kit_ll, kit_lt, ?_⟩ | refine ⟨_, _, _, rfl, clean_nmT _, kit_tl, kit_tt, ?_⟩ | refine cb_isi (clean_arcD _) kit_tt ?_ | with_reducible refine ev_bm ?_ | with_reducible refine ea_cons ?_ | with_reducible refine ea_nil ?_ | with_reducible refine eo_none ?_ | with_reducible refine eo_some ?_ | with_reducible refine et_test ?_ | with_reducible refine et_B ?_ | with_reducible refine et_not ?_ | with_reducible refine et_and ?_ | with_reducible refine et_or ?_ | with_reducible refine et_yes ?_ | with_reducible refine ev_if ?_ | with_reducible refine ev_andV ?_ | with_reducible refine ev_orV ?_ | with_reducible refine ev_notV ?_ | with_reducible refine op_i0 ?_ | with_reducible refine op_b0 ?_ | with_reducible refine op_inC ?_ | with_reducible refine op_niC ?_ | with_reducible refine ⟨_, rfl, ?_⟩ | refine ⟨fun h => Bool.noConfusion h, fun _ => ?_⟩ | refine ⟨fun _ => ?_, fun h => Bool.noConfusion h⟩ | with_reducible refine se_next ?_ | refine ev_callP ?_ | refine ev_mI MC ?_ | refine ev_mO MC ?_ | refine ev_mA MC ?_ | refine ⟨_, _, _, rfl, ?_⟩ | refine op_eqI ?_ | refine op_neI ?_ | refine op_ixT (atI_nat (j := 0) rfl) ?_ | refine op_ixT (atI_nat (j := 1) rfl) ?_ | refine op_ixT (atI_nat (j := 2) rfl) ?_ | refine op_ixT (atI_nat (j := 3) rfl) ?_ | refine ⟨colds rfl, ?_⟩ | refine op_inN (.inl rfl) ?_ | refine op_inN (.inr rfl) ?_ | refine cb_isi rfl kit_ii ?_ | refine cb_isi rfl kit_ib ?_ | refine cb_isi rfl kit_ss ?_ | refine cb_len rfl ?_ | refine ⟨rfl, ?_⟩))
      refine ⟨by simp; omega, some (.da (.str x)), ?_⟩
      rw [take_snoc hx]
      simp
    · obtain ⟨x4, rfl⟩ := hw
      (repeat (first | with_reducible refine se_seq ?_ | with_reducible refine se_if ?_ | with_reducible refine se_ret ?_ | with_reducible refine ev_int ?_ | with_reducible refine ev_str ?_ | with_reducible refine ev_bl ?_ | with_reducible refine ev_non ?_ | with_reducible refine ev_ty ?_ | refine ev_var rfl ?_ | with_reducible refine ev_ofF (ef_op (r := rCat) ?_) | with_reducible refine ev_ofF (ef_lst ?_) | with_reducible refine ev_ofF (ef_sl ?_) | with_reducible refine ev_op ?_ | with_reducible refine ef_op ?_ | with_reducible refine ef_lst ?_ | with_reducible refine ef_sl ?_ | with_reducible refine ev_tup ?_ | with_reducible refine ev_chain ?_ | with_reducible refine ev_tupL ?_ | with_reducible refine ev_isi2 ?_ | with_reducible refine ev_cb ?_ | refine ⟨_, _, _, rfl, clean_nmL _, kit_ll, kit_lt, ?_⟩ | refine ⟨_, _, _, rfl, clean_nmT _, kit_tl, kit_tt, ?_⟩ | refine cb_isi (clean_arcD _) kit_tt ?_ | with_reducible refine ev_bm ?_ | with_reducible refine ea_cons ?_ | with_reducible refine ea_nil ?_ | with_reducible refine eo_none ?_ | with_reducible refine eo_some ?_ | with_reducible refine et_test ?_ | with_reducible refine et_B ?_ | with_reducible refine et_not ?_ | with_reducible refine et_and ?_ | with_reducible refine et_or ?_ | with_reducible refine et_yes ?_ | with_reducible refine ev_if ?_ | with_reducible refine ev_andV ?_ | with_reducible refine ev_orV ?_ | with_reducible refine ev_notV ?_ | with_reducible refine op_i0 ?_ | with_reducible refine op_b0 ?_ | with_reducible refine op_inC ?_ | with_reducible refine op_niC ?_ | with_reducible refine ⟨_, rfl, ?_⟩ | refine ⟨fun h => Bool.noConfusion h, fun _ => ?_⟩ | refine ⟨fun _ => ?_, fun h => Bool.noConfusion h⟩ | with_reducible refine se_next ?_ | refine ev_callP ?_ | refine ev_mI MC ?_ | refine ev_mO MC ?_ | refine ev_mA MC ?_ | refine ⟨_, _, _, rfl, ?_⟩ | refine op_eqI ?_ | refine op_neI ?_ | refine op_ixT (atI_nat (j := 0) rfl) ?_ | refine op_ixT (atI_nat (j := 1) rfl) ?_ | refine op_ixT (atI_nat (j := 2) rfl) ?_ | refine op_ixT (atI_nat (j := 3) rfl) ?_ | refine ⟨colds rfl, ?_⟩ | refine op_inN (.inl rfl) ?_ | refine op_inN (.inr rfl) ?_ | refine cb_isi rfl kit_ii ?_ | refine cb_isi rfl kit_ib ?_ | refine cb_isi rfl kit_ss ?_ | refine cb_len rfl ?_ | refine ⟨rfl, ?_⟩))
      exact hk
/-! ### is_arc -/
abbrev s_is_arc : Stmt := topS 18
theorem sc_is_arc : FnScope ["thing", "inputs", "outputs"] ["thing", "inputs", "outputs"] (defScope s_is_arc) := ⟨rfl, rfl, rfl, by decide +kernel, rfl, by decide +kernel, by decide +kernel⟩
-- slots: 0 thing, 1 inputs, 2 outputs; calls: is_number, are_some; constants: LAST_STATE
theorem ok_is_arc {f : Addr} {fd : FuncData} {q : Str} (F : Fun K "is_arc" q s_is_arc f fd) (B : Bt mg) (C_is_number : Cal P w K mg base 1 "is_number" ["thing", "low", "high"] (spD preNumber)) (C_are_some : Cal P w K mg base 1 "are_some" ["things", "names", "least"] (spD preSome)) (Ct : Cts mg) : FnOk P w K mg base CX0 2 f fd ["thing", "inputs", "outputs"] (spD preArc) := by
  obtain ⟨f_is_number, fd_is_number, G_is_number, m_is_number, k_is_number, b_is_number⟩ := C_is_number.ex
  obtain ⟨f_are_some, fd_are_some, G_are_some, m_are_some, k_are_some, b_are_some⟩ := C_are_some.ex
  obtain ⟨t_LAST_STATE, g_LAST_STATE⟩ := Ct.LAST_STATE
  refine F.ok sc_is_arc (fun vs H Q E h => ?_) (fun cdv A outer s H vs Q E hr h => ?_)
  · obtain ⟨T, h⟩ := h
    exact spT_len (fun as k kf hp => by obtain ⟨_, _, _, rfl, _⟩ := hp; rfl) h
  · obtain ⟨T, h⟩ := h
    have hu := hu_of hr
    have r_is_number := hr.mono (show 1 ≤ 1 by decide)
    have r_are_some := hr.mono (show 1 ≤ 1 by decide)
    refine ⟨_, (pss_cons (ps_if (pw_or (pt_not (pt_val (pe_callB (k_isi K rfl) (by rfl) B.isinstance_ boot_isinstance (pa_cons (pv 0) (pa_cons (pe_bltn (v := .ty "tuple") (by rfl) B.tuple_ boot_tuple rfl) pa_nil))))) (pw_or1 (pt_cmpR (k_neD K rfl (hu64 hr)) (pe_callB (k_len K rfl) (by rfl) B.len_ PySem.boot_len (pa_cons (pv 0) pa_nil)) pe_int (nomark _)))).pt (pss_one (ps_ret pe_bl)) pss_nil)
      (pss_cons (ps_if (pw_or (pt_not (pt_val (pe_call G_is_number r_is_number (by rfl) m_is_number k_is_number b_is_number .nil pass0 (pa_cons (pe_ix (k_ixT K rfl) (pv 0) pe_int (fun _ _ => rfl)) (pa_cons pe_int (pa_cons (pe_glob (v := .int 7) (by rfl) g_LAST_STATE ⟨_, rfl⟩) pa_nil)))))) (pw_or1 (pt_not (pt_val (pe_call G_is_number r_is_number (by rfl) m_is_number k_is_number b_is_number .nil pass0 (pa_cons (pe_ix (k_ixT K rfl) (pv 0) pe_int (fun _ _ => rfl)) (pa_cons pe_int (pa_cons (pe_glob (v := .int 7) (by rfl) g_LAST_STATE ⟨_, rfl⟩) pa_nil)))))))).pt (pss_one (ps_ret pe_bl)) pss_nil)
      (pss_one (ps_ret (pe_and (pe_call G_are_some r_are_some (by rfl) m_are_some k_are_some b_are_some .nil pass0 (pa_cons (pe_ix (k_ixT K rfl) (pv 0) pe_int (fun _ _ => rfl)) (pa_cons (pv 1) (pa_cons pe_int pa_nil)))) (pe_one (pe_call G_are_some r_are_some (by rfl) m_are_some k_are_some b_are_some .nil pass0 (pa_cons (pe_ix (k_ixT K rfl) (pv 0) pe_int (fun _ _ => rfl)) (pa_cons (pv 2) (pa_cons pe_int pa_nil)))))))))), body h fun g as k kf hT hst hp => ?_⟩
    obtain ⟨a, ins, outs, rfl, h1, h2, h3, h4, h5, h6, h7, h8, h9, h10, h11, hk⟩ := hp
    (repeat (first | with_reducible refine se_seq ?_ | with_reducible refine se_if ?_ | with_reducible refine se_ret ?_ | with_reducible refine ev_int ?_ | with_reducible refine ev_str ?_ | with_reducible refine ev_bl ?_ | with_reducible refine ev_non ?_ | with_reducible refine ev_ty ?_ | refine ev_var rfl ?_ | with_reducible refine ev_ofF (ef_op (r := rCat) ?_) | with_reducible refine ev_ofF (ef_lst ?_) | with_reducible refine ev_ofF (ef_sl ?_) | with_reducible refine ev_op ?_ | with_reducible refine ef_op ?_ | with_reducible refine ef_lst ?_ | with_reducible refine ef_sl ?_ | with_reducible refine ev_tup ?_ | with_reducible refine ev_chain ?_ | with_reducible refine ev_tupL ?_ | with_reducible refine ev_isi2 ?_ | with_reducible refine ev_cb ?_ | refine ⟨_, _, _, rfl, clean_nmL _, kit_ll, kit_lt, ?_⟩ | refine ⟨_, _, _, rfl, clean_nmT _, kit_tl, kit_tt, ?_⟩ | refine cb_isi (clean_arcD _) kit_tt ?_ | with_reducible refine ev_bm ?_ | with_reducible refine ea_cons ?_ | with_reducible refine ea_nil ?_ | with_reducible refine eo_none ?_ | with_reducible refine eo_some ?_ | with_reducible refine et_test ?_ | with_reducible refine et_B ?_ | with_reducible refine et_not ?_ | with_reducible refine et_and ?_ | with_reducible refine et_or ?_ | with_reducible refine et_yes ?_ | with_reducible refine ev_if ?_ | with_reducible refine ev_andV ?_ | with_reducible refine ev_orV ?_ | with_reducible refine ev_notV ?_ | with_reducible refine op_i0 ?_ | with_reducible refine op_b0 ?_ | with_reducible refine op_inC ?_ | with_reducible refine op_niC ?_ | with_reducible refine ⟨_, rfl, ?_⟩ | refine ⟨fun h => Bool.noConfusion h, fun _ => ?_⟩ | refine ⟨fun _ => ?_, fun h => Bool.noConfusion h⟩ | with_reducible refine se_next ?_ | refine ev_callP ?_ | refine ev_mI MC ?_ | refine ev_mO MC ?_ | refine ev_mA MC ?_ | refine ⟨_, _, _, rfl, ?_⟩ | refine op_eqI ?_ | refine op_neI ?_ | refine op_ixT (atI_nat (j := 0) rfl) ?_ | refine op_ixT (atI_nat (j := 1) rfl) ?_ | refine op_ixT (atI_nat (j := 2) rfl) ?_ | refine op_ixT (atI_nat (j := 3) rfl) ?_ | refine ⟨colds rfl, ?_⟩ | refine op_inN (.inl rfl) ?_ | refine op_inN (.inr rfl) ?_ | refine cb_isi rfl kit_ii ?_ | refine cb_isi rfl kit_ib ?_ | refine cb_isi rfl kit_ss ?_ | refine cb_len rfl ?_ | refine ⟨rfl, ?_⟩))
    have e1 : (decide ((0 : Int) ≤ (a.s : Int)) && decide ((a.s : Int) ≤ 7)) = true := by simp; omega
    have e2 : (decide ((0 : Int) ≤ (a.t : Int)) && decide ((a.t : Int) ≤ 7)) = true := by simp; omega
    rw [e1]
    (repeat (first | with_reducible refine se_seq ?_ | with_reducible refine se_if ?_ | with_reducible refine se_ret ?_ | with_reducible refine ev_int ?_ | with_reducible refine ev_str ?_ | with_reducible refine ev_bl ?_ | with_reducible refine ev_non ?_ | with_reducible refine ev_ty ?_ | refine ev_var rfl ?_ | with_reducible refine ev_ofF (ef_op (r := rCat) ?_) | with_reducible refine ev_ofF (ef_lst ?_) | with_reducible refine ev_ofF (ef_sl ?_) | with_reducible refine ev_op ?_ | with_reducible refine ef_op ?_ | with_reducible refine ef_lst ?_ | with_reducible refine ef_sl ?_ | with_reducible refine ev_tup ?_ | with_reducible refine ev_chain ?_ | with_reducible refine ev_tupL ?_ | with_reducible refine ev_isi2 ?_ | with_reducible refine ev_cb ?_ | refine ⟨_, _, _, rfl, clean_nmL _, kit_ll, kit_lt, ?_⟩ | refine ⟨_, _, _, rfl, clean_nmT _, kit_tl, kit_tt, ?_⟩ | refine cb_isi (clean_arcD _) kit_tt ?_ | with_reducible refine ev_bm ?_ | with_reducible refine ea_cons ?_ | with_reducible refine ea_nil ?_ | with_reducible refine eo_none ?_ | with_reducible refine eo_some ?_ | with_reducible refine et_test ?_ | with_reducible refine et_B ?_ | with_reducible refine et_not ?_ | with_reducible refine et_and ?_ | with_reducible refine et_or ?_ | with_reducible refine et_yes ?_ | with_reducible refine ev_if ?_ | with_reducible refine ev_andV ?_ | with_reducible refine ev_orV ?_ | with_reducible refine ev_notV ?_ | with_reducible refine op_i0 ?_ | with_reducible refine op_b0 ?_ | with_reducible refine op_inC ?_ | with_reducible refine op_niC ?_ | with_reducible refine ⟨_, rfl, ?_⟩ | refine ⟨fun h => Bool.noConfusion h, fun _ => ?_⟩ | refine ⟨fun _ => ?_, fun h => Bool.noConfusion h⟩ | with_reducible refine se_next ?_ | refine ev_callP ?_ | refine ev_mI MC ?_ | refine ev_mO MC ?_ | refine ev_mA MC ?_ | refine ⟨_, _, _, rfl, ?_⟩ | refine op_eqI ?_ | refine op_neI ?_ | refine op_ixT (atI_nat (j := 0) rfl) ?_ | refine op_ixT (atI_nat (j := 1) rfl) ?_ | refine op_ixT (atI_nat (j := 2) rfl) ?_ | refine op_ixT (atI_nat (j := 3) rfl) ?_ | refine ⟨colds rfl, ?_⟩ | refine op_inN (.inl rfl) ?_ | refine op_inN (.inr rfl) ?_ | refine cb_isi rfl kit_ii ?_ | refine cb_isi rfl kit_ib ?_ | refine cb_isi rfl kit_ss ?_ | refine cb_len rfl ?_ | refine ⟨rfl, ?_⟩))
    rw [e2]
    (repeat (first | with_reducible refine se_seq ?_ | with_reducible refine se_if ?_ | with_reducible refine se_ret ?_ | with_reducible refine ev_int ?_ | with_reducible refine ev_str ?_ | with_reducible refine ev_bl ?_ | with_reducible refine ev_non ?_ | with_reducible refine ev_ty ?_ | refine ev_var rfl ?_ | with_reducible refine ev_ofF (ef_op (r := rCat) ?_) | with_reducible refine ev_ofF (ef_lst ?_) | with_reducible refine ev_ofF (ef_sl ?_) | with_reducible refine ev_op ?_ | with_reducible refine ef_op ?_ | with_reducible refine ef_lst ?_ | with_reducible refine ef_sl ?_ | with_reducible refine ev_tup ?_ | with_reducible refine ev_chain ?_ | with_reducible refine ev_tupL ?_ | with_reducible refine ev_isi2 ?_ | with_reducible refine ev_cb ?_ | refine ⟨_, _, _, rfl, clean_nmL _, kit_ll, kit_lt, ?_⟩ | refine ⟨_, _, _, rfl, clean_nmT _, kit_tl, kit_tt, ?_⟩ | refine cb_isi (clean_arcD _) kit_tt ?_ | with_reducible refine ev_bm ?_ | with_reducible refine ea_cons ?_ | with_reducible refine ea_nil ?_ | with_reducible refine eo_none ?_ | with_reducible refine eo_some ?_ | with_reducible refine et_test ?_ | with_reducible refine et_B ?_ | with_reducible refine et_not ?_ | with_reducible refine et_and ?_ | with_reducible refine et_or ?_ | with_reducible refine et_yes ?_ | with_reducible refine ev_if ?_ | with_reducible refine ev_andV ?_ | with_reducible refine ev_orV ?_ | with_reducible refine ev_notV ?_ | with_reducible refine op_i0 ?_ | with_reducible refine op_b0 ?_ | with_reducible refine op_inC ?_ | with_reducible refine op_niC ?_ | with_reducible refine ⟨_, rfl, ?_⟩ | refine ⟨fun h => Bool.noConfusion h, fun _ => ?_⟩ | refine ⟨fun _ => ?_, fun h => Bool.noConfusion h⟩ | with_reducible refine se_next ?_ | refine ev_callP ?_ | refine ev_mI MC ?_ | refine ev_mO MC ?_ | refine ev_mA MC ?_ | refine ⟨_, _, _, rfl, ?_⟩ | refine op_eqI ?_ | refine op_neI ?_ | refine op_ixT (atI_nat (j := 0) rfl) ?_ | refine op_ixT (atI_nat (j := 1) rfl) ?_ | refine op_ixT (atI_nat (j := 2) rfl) ?_ | refine op_ixT (atI_nat (j := 3) rfl) ?_ | refine ⟨colds rfl, ?_⟩ | refine op_inN (.inl rfl) ?_ | refine op_inN (.inr rfl) ?_ | refine cb_isi rfl kit_ii ?_ | refine cb_isi rfl kit_ib ?_ | refine cb_isi rfl kit_ss ?_ | refine cb_len rfl ?_ | refine ⟨rfl, ?_⟩))
    refine ⟨h1, h5, h6, h7, h10, ?_⟩
    (repeat (first | with_reducible refine se_seq ?_ | with_reducible refine se_if ?_ | with_reducible refine se_ret ?_ | with_reducible refine ev_int ?_ | with_reducible refine ev_str ?_ | with_reducible refine ev_bl ?_ | with_reducible refine ev_non ?_ | with_reducible refine ev_ty ?_ | refine ev_var rfl ?_ | with_reducible refine ev_ofF (ef_op (r := rCat) ?_) | with_reducible refine ev_ofF (ef_lst ?_) | with_reducible refine ev_ofF (ef_sl ?_) | with_reducible refine ev_op ?_ | with_reducible refine ef_op ?_ | with_reducible refine ef_lst ?_ | with_reducible refine ef_sl ?_ | with_reducible refine ev_tup ?_ | with_reducible refine ev_chain ?_ | with_reducible refine ev_tupL ?_ | with_reducible refine ev_isi2 ?_ | with_reducible refine ev_cb ?_ | refine ⟨_, _, _, rfl, clean_nmL _, kit_ll, kit_lt, ?_⟩ | refine ⟨_, _, _, rfl, clean_nmT _, kit_tl, kit_tt, ?_⟩ | refine cb_isi (clean_arcD _) kit_tt ?_ | with_reducible refine ev_bm ?_ | with_reducible refine ea_cons ?_ | with_reducible refine ea_nil ?_ | with_reducible refine eo_none ?_ | with_reducible refine eo_some ?_ | with_reducible refine et_test ?_ | with_reducible refine et_B ?_ | with_reducible refine et_not ?_ | with_reducible refine et_and ?_ | with_reducible refine et_or ?_ | with_reducible refine et_yes ?_ | with_reducible refine ev_if ?_ | with_reducible refine ev_andV ?_ | with_reducible refine ev_orV ?_ | with_reducible refine ev_notV ?_ | with_reducible refine op_i0 ?_ | with_reducible refine op_b0 ?_ | with_reducible refine op_inC ?_ | with_reducible refine op_niC ?_ | with_reducible refine ⟨_, rfl, ?_⟩ | refine ⟨fun h => Bool.noConfusion h, fun _ => ?_⟩ | refine ⟨fun _ => ?_, fun h => Bool.noConfusion h⟩ | with_reducible refine se_next ?_ | refine ev_callP ?_ | refine ev_mI MC ?_ | refine ev_mO MC ?_ | refine ev_mA MC ?_ | refine ⟨_, _, _, rfl, ?_⟩ | refine op_eqI ?_ | refine op_neI ?_ | refine op_ixT (atI_nat (j := 0) rfl) ?_ | refine op_ixT (atI_nat (j := 1) rfl) ?_ | refine op_ixT (atI_nat (j := 2) rfl) ?_ | refine op_ixT (atI_nat (j := 3) rfl) ?_ | refine ⟨colds rfl, ?_⟩ | refine op_inN (.inl rfl) ?_ | refine op_inN (.inr rfl) ?_ | refine cb_isi rfl kit_ii ?_ | refine cb_isi rfl kit_ib ?_ | refine cb_isi rfl kit_ss ?_ | refine cb_len rfl ?_ | refine ⟨rfl, ?_⟩))
    refine ⟨h2, h8, h9, Nat.zero_le _, h11, ?_⟩
    exact ⟨rfl, hk⟩
/-! ### in_order -/
abbrev s_in_order : Stmt := topS 19
theorem sc_in_order : FnScope ["things", "names", "name"] ["things", "names"] (defScope s_in_order) := ⟨rfl, rfl, rfl, by decide +kernel, rfl, by decide +kernel, by decide +kernel⟩
-- slots: 0 things, 1 names, 2 name; calls: ; constants: 
theorem ok_in_order {f : Addr} {fd : FuncData} {q : Str} (F : Fun K "in_order" q s_in_order f fd) (B : Bt mg) : FnOk P w K mg base CX0 1 f fd ["things", "names"] (spD preOrder) := by
  refine F.ok sc_in_order (fun vs H Q E h => ?_) (fun cdv A outer s H vs Q E hr h => ?_)
  · obtain ⟨T, h⟩ := h
    exact spT_len (fun as k kf hp => by obtain ⟨_, _, _, _, rfl, _⟩ := hp; rfl) h
  · obtain ⟨T, h⟩ := h
    have hu := hu_of hr
    refine ⟨_, (pss_one (ps_ret (k_tupleOf K rfl (by rfl) B.tuple_ (pe_lc (own := [("name", 2)]) rfl sc_in_order.nd (k_seq K rfl (pv 1)) (blkOk_by (N := ["things", "names", "name"]) (sc := defScope s_in_order) (by decide +kernel)) (fun _ _ _ _ _ => (pg_name (i := 2) sc_in_order.nd rfl (.inl rfl))) (fun _ _ _ _ _ => pts_one (pt_cmpR (k_in K rfl) (pv 2) (pv 0) (by with_unfolding_all rfl))) (fun _ _ _ _ _ => (pv 2)))))), body h fun g as k kf hT hst hp => ?_⟩
    obtain ⟨xs, ns, x, y, rfl, hx, hy, h1, h2, hk⟩ := hp
    have inn : ∀ (n : Str) {k : Vl → Prop}, k (.da (.bool (decide (n ∈ xs)))) → Op (rIn K false) (.da (.str n)) x k := fun n k q => by
      rcases hx with rfl | rfl
      · exact op_inN (.inr rfl) q
      · exact op_inN (.inl rfl) q
    have it : ∀ {c : Bd.Ctx} {k : List PyData → Prop}, c[1]? = some (some y) → k (ns.map .str) → EvI g (iSeq K (tVar 1)) c k := fun {c k} e q => by
      rcases hy with rfl | rfl | rfl
      · exact ei_seq (ev_var e ⟨_, .inl rfl, q⟩)
      · exact ei_seq (ev_var e ⟨_, .inr rfl, q⟩)
      · exact ei_seqF (ev_var e ⟨_, rfl, q⟩)
    refine se_ret (ev_tupL (x := .da .none) (ev_ofF (ef_lc (fun i acc => acc = ((ns.take i).filter fun n => decide (n ∈ xs)).map .str) (it rfl ⟨rfl, by simp; omega, fun i d acc hd ha => ?_, fun acc ha => ?_⟩))))
    · obtain ⟨n, hn, rfl⟩ := at_map hd
      refine ⟨_, _, tg_name, by simp, et_test (ev_op (ev_var rfl (ev_var rfl (inn n ⟨_, rfl, fun h => ?_, fun h => ?_⟩))))⟩
      · refine ev_var rfl ⟨_, rfl, ?_⟩
        rw [ha, take_snoc hn, List.filter_append, List.map_append]
        simp [of_decide_eq_true h]
      · rw [ha, take_snoc hn, List.filter_append, List.map_append]
        simp [of_decide_eq_false h]
    · subst ha
      refine ⟨_, rfl, rfl, ?_⟩
      rw [List.take_of_length_le (by simp)]
      exact hk
end
end Bw

namespace Bw
open PySem PySem.Spec PyProof.Rows L2 Bd
section
variable {P : Program} {w : World} {K : PySem.W.Frag} {mg : Str → Option Value} {base : Heap} {C : Addr}

/-! ### turned -/
abbrev s_turned : Stmt := topS 21
theorem sc_turned : FnScope ["signs", "names", "some", "rows", "sign", "name"] ["signs", "names", "some"] (defScope s_turned) := ⟨rfl, rfl, rfl, by decide +kernel, rfl, by decide +kernel, by decide +kernel⟩
-- slots: 0 signs, 1 names, 2 some, 3 rows, 4 sign, 5 name; calls: ; constants: 
theorem ok_turned {f : Addr} {fd : FuncData} {q : Str} (F : Fun K "turned" q s_turned f fd) (B : Bt mg) : FnOk P w K mg base CX0 1 f fd ["signs", "names", "some"] (spD preTurned) := by
  refine F.ok sc_turned (fun vs H Q E h => ?_) (fun cdv A outer s H vs Q E hr h => ?_)
  · obtain ⟨T, h⟩ := h
    exact spT_len (fun as k kf hp => by obtain ⟨_, _, _, _, rfl, _⟩ := hp; rfl) h
  · obtain ⟨T, h⟩ := h
    have hu := hu_of hr
    refine ⟨_, (pss_cons (ps_set (i := 3) sc_turned.nd rfl (.inl rfl) (pe_lst pa_nil))
      (pss_cons (ps_for PassesOwn.never rfl (k_zipS K rfl rfl B.zip_ (pa_cons (pv 0) (pa_cons (pv 1) pa_nil))) (k_pgTup K rfl (n := 2) rfl (pgs_cons (pg_name (i := 4) sc_turned.nd rfl (.inl rfl)) (pgs_cons (pg_name (i := 5) sc_turned.nd rfl (.inl rfl)) pgs_nil)))
      (pss_cons (ps_if (pt_cmpR (k_in K rfl) (pv 5) (pv 2) (by with_unfolding_all rfl)) (pss_one (ps_set (i := 4) sc_turned.nd rfl (.inl rfl) (pe_ifExp (pt_cmpR (k_eqD K rfl (hu64 hr)) (pv 4) pe_str (nomark _)) pe_str pe_str))) pss_nil)
      (pss_one (ps_expr (k_bm K rfl PySem.F.plainAttrs_list PySem.F.slot_list_append PySem.F.type_list_append mt_append (pv 3) (pa_cons (pv 4) pa_nil))))))
      (pss_one (ps_ret (k_bm K rfl PySem.F.plainAttrs_str PySem.F.slot_str_join PySem.F.type_str_join (k_join K rfl) pe_str (pa_cons (pv 3) pa_nil)))))), body h fun g as k kf hT hst hp => ?_⟩
    obtain ⟨s, ns, som, y, rfl, hy, h1, h2, h3, hk⟩ := hp
    have it : ∀ {c : Bd.Ctx} {k : List PyData → Prop}, c[0]? = some (some (.da (.str s))) → c[1]? = some (some y) → k (zipD (chD s) (ns.map .str)) → EvI g (Bs.iZipS K (tCons (tVar 0) (tCons (tVar 1) tNil))) c k := fun {c k} e0 e q => by
      rcases hy with rfl | rfl
      · exact ei_zipS (ea_cons (ev_var e0 (ea_cons (ev_var e (ea_nil ⟨_, _, rfl, q⟩)))))
      · exact ei_zipF (ea_cons (ev_var e0 (ea_cons (ev_var e (ea_nil ⟨_, _, rfl, q⟩)))))
    refine se_seq (se_asgF (ef_lst (ea_nil ⟨[], rfl, by decide, ?_⟩)))
    refine se_seq (se_for (fun i c' => ∃ x4 x5, c' = [some (.da (.str s)), some y, some (.da (nmT som)), some (.ac (((((s.cps.toList.zip ns).take i).map fun p => if p.2 ∈ som then (if p.1 = 48 then 49 else 48) else p.1).map fun n => (⟨#[n]⟩ : Str)).map .str)), x4, x5]) (it rfl rfl ?_))
    refine ⟨⟨none, none, by simp [ctx0, List.replicate]⟩, fun i d c' hd hw => ?_, fun c' hw => ?_⟩
    · obtain ⟨x4, x5, rfl⟩ := hw
      unfold zipD at hd
      rw [List.getElem?_map] at hd
      cases q : ((chD s).zip (ns.map PyData.str))[i]? with
      | none =>
        rw [q] at hd
        cases hd
      | some p =>
        rw [q] at hd
        cases hd
        obtain ⟨p1, p2⟩ := p
        rw [List.getElem?_zip_eq_some] at q
        obtain ⟨q1, q2⟩ := q
        obtain ⟨n, hn, rfl⟩ := at_map q2
        obtain ⟨ch, hch, rfl⟩ := at_map q1
        have hz : (s.cps.toList.zip ns)[i]? = some (ch, n) := by
          rw [List.getElem?_zip_eq_some]
          exact ⟨hch, hn⟩
        have hc := h3 ch (List.mem_of_getElem? hch)
        have hi := (List.getElem?_eq_some_iff.mp hn).1
        refine ⟨_, _, tg_tup rfl (tgs_cons tg_name (tgs_cons tg_name tgs_nil)), ?_⟩
        refine se_seq (se_if (et_test (ev_op (ev_var rfl (ev_var rfl (op_inN (.inl rfl) ⟨_, rfl, fun h => ?_, fun h => ?_⟩))))))
        · have hm : n ∈ som := of_decide_eq_true h
          refine se_asg (ev_if (et_test (ev_op (ev_var rfl (ev_str (op_eqS ?_ strOk0 ⟨_, rfl, fun h => ?_, fun h => ?_⟩))))))
          · exact strOk1 (by rcases hc with rfl | rfl <;> decide)
          · have e48 : ch = 48 := by
              have := of_decide_eq_true h
              rw [s0] at this
              exact str1.mp this
            refine ev_str ⟨rfl, se_app rfl (ev_var rfl ⟨_, rfl, by simp; omega, some (.da (.str ⟨#[49]⟩)), some (.da (.str n)), ?_⟩)⟩
            rw [take_snoc hz]
            simp [hm, e48]
            rfl
          · have e48 : ¬ ch = 48 := fun z => by
              subst z
              have := of_decide_eq_false h
              exact this rfl
            refine ev_str ⟨rfl, se_app rfl (ev_var rfl ⟨_, rfl, by simp; omega, some (.da (.str ⟨#[48]⟩)), some (.da (.str n)), ?_⟩)⟩
            rw [take_snoc hz]
            simp [hm, e48]
            rfl
        · have hm : ¬ n ∈ som := of_decide_eq_false h
          refine se_next (se_app rfl (ev_var rfl ⟨_, rfl, by simp; omega, some (.da (.str ⟨#[ch]⟩)), some (.da (.str n)), ?_⟩))
          rw [take_snoc hz]
          simp [hm]
    · obtain ⟨x4, x5, rfl⟩ := hw
      refine se_ret (ev_bm (ev_str ⟨rfl, ea_cons (ev_var rfl (ea_nil (mt_joinD rfl ?_ ?_)))⟩))
      · rw [sum_ones]
        have e : (Str.ofString "").length = 0 := rfl
        rw [e]
        simp
        omega
      · rw [List.take_of_length_le (by simp [zipD, chD])]
        have e := join1 ((s.cps.toList.zip ns).map fun p => if p.2 ∈ som then (if p.1 = 48 then 49 else 48) else p.1)
        refine ⟨rfl, ?_⟩
        have e2 : (Str.ofString "") = ⟨#[]⟩ := rfl
        rw [e2, e]
        exact hk
/-! ### arcs_of -/
abbrev s_arcs_of : Stmt := topS 22
theorem sc_arcs_of : FnScope ["machine", "state", "at", "arc"] ["machine", "state"] (defScope s_arcs_of) := ⟨rfl, rfl, rfl, by decide +kernel, rfl, by decide +kernel, by decide +kernel⟩
-- slots: 0 machine, 1 state, 2 at, 3 arc; calls: ; constants: 
theorem ok_arcs_of {f : Addr} {fd : FuncData} {q : Str} (F : Fun K "arcs_of" q s_arcs_of f fd) (B : Bt mg) (MC : Mc K C) : FnOk P w K mg base CX0 1 f fd ["machine", "state"] (spD (preArcsOf C)) := by
  refine F.ok sc_arcs_of (fun vs H Q E h => ?_) (fun cdv A outer s H vs Q E hr h => ?_)
  · obtain ⟨T, h⟩ := h
    exact spT_len (fun as k kf hp => by obtain ⟨_, _, _, _, rfl, _⟩ := hp; rfl) h
  · obtain ⟨T, h⟩ := h
    have hu := hu_of hr
    refine ⟨_, (pss_one (ps_ret (pe_lc (own := [("at", 2), ("arc", 3)]) rfl sc_arcs_of.nd (k_enumT K rfl rfl B.enumerate_ (pa_cons (k_fld K rfl (pv 0)) pa_nil)) (blkOk_by (N := ["machine", "state", "at", "arc"]) (sc := defScope s_arcs_of) (by decide +kernel)) (fun _ _ _ _ _ => (k_pgTup K rfl (n := 2) rfl (pgs_cons (pg_name (i := 2) sc_arcs_of.nd rfl (.inl rfl)) (pgs_cons (pg_name (i := 3) sc_arcs_of.nd rfl (.inl rfl)) pgs_nil)))) (fun _ _ _ _ _ => pts_one (pt_cmpR (k_eqD K rfl (hu64 hr)) (pe_ix (k_ixT K rfl) (pv 3) pe_int (fun _ _ => rfl)) (pv 1) (nomark _))) (fun _ _ _ _ _ => (pv 2))))), body h fun g as k kf hT hst hp => ?_⟩
    obtain ⟨ins, outs, A, y, rfl, h1, hk⟩ := hp
    refine se_ret (ev_ofF (ef_lc (fun i acc => acc = ((A.zipIdx.take i).filter fun p => decide (p.1.s = y)).map fun p => PyData.int ((p.2 : Nat) : Int)) (ei_enumT ?_)))
    (repeat (first | with_reducible refine se_seq ?_ | with_reducible refine se_if ?_ | with_reducible refine se_ret ?_ | with_reducible refine ev_int ?_ | with_reducible refine ev_str ?_ | with_reducible refine ev_bl ?_ | with_reducible refine ev_non ?_ | with_reducible refine ev_ty ?_ | refine ev_var rfl ?_ | with_reducible refine ev_ofF (ef_op (r := rCat) ?_) | with_reducible refine ev_ofF (ef_lst ?_) | with_reducible refine ev_ofF (ef_sl ?_) | with_reducible refine ev_op ?_ | with_reducible refine ef_op ?_ | with_reducible refine ef_lst ?_ | with_reducible refine ef_sl ?_ | with_reducible refine ev_tup ?_ | with_reducible refine ev_chain ?_ | with_reducible refine ev_tupL ?_ | with_reducible refine ev_isi2 ?_ | with_reducible refine ev_cb ?_ | refine ⟨_, _, _, rfl, clean_nmL _, kit_ll, kit_lt, ?_⟩ | refine ⟨_, _, _, rfl, clean_nmT _, kit_tl, kit_tt, ?_⟩ | refine cb_isi (clean_arcD _) kit_tt ?_ | with_reducible refine ev_bm ?_ | with_reducible refine ea_cons ?_ | with_reducible refine ea_nil ?_ | with_reducible refine eo_none ?_ | with_reducible refine eo_some ?_ | with_reducible refine et_test ?_ | with_reducible refine et_B ?_ | with_reducible refine et_not ?_ | with_reducible refine et_and ?_ | with_reducible refine et_or ?_ | with_reducible refine et_yes ?_ | with_reducible refine ev_if ?_ | with_reducible refine ev_andV ?_ | with_reducible refine ev_orV ?_ | with_reducible refine ev_notV ?_ | with_reducible refine op_i0 ?_ | with_reducible refine op_b0 ?_ | with_reducible refine op_inC ?_ | with_reducible refine op_niC ?_ | with_reducible refine ⟨_, rfl, ?_⟩ | refine ⟨fun h => Bool.noConfusion h, fun _ => ?_⟩ | refine ⟨fun _ => ?_, fun h => Bool.noConfusion h⟩ | with_reducible refine se_next ?_ | refine ev_callP ?_ | refine ev_mI MC ?_ | refine ev_mO MC ?_ | refine ev_mA MC ?_ | refine ⟨_, _, _, rfl, ?_⟩ | refine op_eqI ?_ | refine op_neI ?_ | refine op_ixT (atI_nat (j := 0) rfl) ?_ | refine op_ixT (atI_nat (j := 1) rfl) ?_ | refine op_ixT (atI_nat (j := 2) rfl) ?_ | refine op_ixT (atI_nat (j := 3) rfl) ?_ | refine ⟨colds rfl, ?_⟩ | refine op_inN (.inl rfl) ?_ | refine op_inN (.inr rfl) ?_ | refine cb_isi rfl kit_ii ?_ | refine cb_isi rfl kit_ib ?_ | refine cb_isi rfl kit_ss ?_ | refine cb_len rfl ?_ | refine ⟨rfl, ?_⟩))
    refine ⟨by simp [enumD]; omega, fun i d acc hd ha => ?_, fun acc ha => ?_⟩
    · obtain ⟨d', hd', rfl⟩ := enumD_get hd
      obtain ⟨a, hA, rfl⟩ := at_map hd'
      refine ⟨_, _, tg_tup rfl (tgs_cons tg_name (tgs_cons tg_name tgs_nil)), by simp, ?_⟩
      (repeat (first | with_reducible refine se_seq ?_ | with_reducible refine se_if ?_ | with_reducible refine se_ret ?_ | with_reducible refine ev_int ?_ | with_reducible refine ev_str ?_ | with_reducible refine ev_bl ?_ | with_reducible refine ev_non ?_ | with_reducible refine ev_ty ?_ | refine ev_var rfl ?_ | with_reducible refine ev_ofF (ef_op (r := rCat) ?_) | with_reducible refine ev_ofF (ef_lst ?_) | with_reducible refine ev_ofF (ef_sl ?_) | with_reducible refine ev_op ?_ | with_reducible refine ef_op ?_ | with_reducible refine ef_lst ?_ | with_reducible refine ef_sl ?_ | with_reducible refine ev_tup ?_ | with_reducible refine ev_chain ?_ | with_reducible refine ev_tupL ?_ | with_reducible refine ev_isi2 ?_ | with_reducible refine ev_cb ?_ | refine ⟨_, _, _, rfl, clean_nmL _, kit_ll, kit_lt, ?_⟩ | refine ⟨_, _, _, rfl, clean_nmT _, kit_tl, kit_tt, ?_⟩ | refine cb_isi (clean_arcD _) kit_tt ?_ | with_reducible refine ev_bm ?_ | with_reducible refine ea_cons ?_ | with_reducible refine ea_nil ?_ | with_reducible refine eo_none ?_ | with_reducible refine eo_some ?_ | with_reducible refine et_test ?_ | with_reducible refine et_B ?_ | with_reducible refine et_not ?_ | with_reducible refine et_and ?_ | with_reducible refine et_or ?_ | with_reducible refine et_yes ?_ | with_reducible refine ev_if ?_ | with_reducible refine ev_andV ?_ | with_reducible refine ev_orV ?_ | with_reducible refine ev_notV ?_ | with_reducible refine op_i0 ?_ | with_reducible refine op_b0 ?_ | with_reducible refine op_inC ?_ | with_reducible refine op_niC ?_ | with_reducible refine ⟨_, rfl, ?_⟩ | refine ⟨fun h => Bool.noConfusion h, fun _ => ?_⟩ | refine ⟨fun _ => ?_, fun h => Bool.noConfusion h⟩ | with_reducible refine se_next ?_ | refine ev_callP ?_ | refine ev_mI MC ?_ | refine ev_mO MC ?_ | refine ev_mA MC ?_ | refine ⟨_, _, _, rfl, ?_⟩ | refine op_eqI ?_ | refine op_neI ?_ | refine op_ixT (atI_nat (j := 0) rfl) ?_ | refine op_ixT (atI_nat (j := 1) rfl) ?_ | refine op_ixT (atI_nat (j := 2) rfl) ?_ | refine op_ixT (atI_nat (j := 3) rfl) ?_ | refine ⟨colds rfl, ?_⟩ | refine op_inN (.inl rfl) ?_ | refine op_inN (.inr rfl) ?_ | refine cb_isi rfl kit_ii ?_ | refine cb_isi rfl kit_ib ?_ | refine cb_isi rfl kit_ss ?_ | refine cb_len rfl ?_ | refine ⟨rfl, ?_⟩))
      refine ⟨fun h => ?_, fun h => ?_⟩
      · have h2 : a.s = y := by have := of_decide_eq_true h; omega
        (repeat (first | with_reducible refine se_seq ?_ | with_reducible refine se_if ?_ | with_reducible refine se_ret ?_ | with_reducible refine ev_int ?_ | with_reducible refine ev_str ?_ | with_reducible refine ev_bl ?_ | with_reducible refine ev_non ?_ | with_reducible refine ev_ty ?_ | refine ev_var rfl ?_ | with_reducible refine ev_ofF (ef_op (r := rCat) ?_) | with_reducible refine ev_ofF (ef_lst ?_) | with_reducible refine ev_ofF (ef_sl ?_) | with_reducible refine ev_op ?_ | with_reducible refine ef_op ?_ | with_reducible refine ef_lst ?_ | with_reducible refine ef_sl ?_ | with_reducible refine ev_tup ?_ | with_reducible refine ev_chain ?_ | with_reducible refine ev_tupL ?_ | with_reducible refine ev_isi2 ?_ | with_reducible refine ev_cb ?_ | refine ⟨_, _, _, rfl, clean_nmL _, kit_ll, kit_lt, ?_⟩ | refine ⟨_, _, _, rfl, clean_nmT _, kit_tl, kit_tt, ?_⟩ | refine cb_isi (clean_arcD _) kit_tt ?_ | with_reducible refine ev_bm ?_ | with_reducible refine ea_cons ?_ | with_reducible refine ea_nil ?_ | with_reducible refine eo_none ?_ | with_reducible refine eo_some ?_ | with_reducible refine et_test ?_ | with_reducible refine et_B ?_ | with_reducible refine et_not ?_ | with_reducible refine et_and ?_ | with_reducible refine et_or ?_ | with_reducible refine et_yes ?_ | with_reducible refine ev_if ?_ | with_reducible refine ev_andV ?_ | with_reducible refine ev_orV ?_ | with_reducible refine ev_notV ?_ | with_reducible refine op_i0 ?_ | with_reducible refine op_b0 ?_ | with_reducible refine op_inC ?_ | with_reducible refine op_niC ?_ | with_reducible refine ⟨_, rfl, ?_⟩ | refine ⟨fun h => Bool.noConfusion h, fun _ => ?_⟩ | refine ⟨fun _ => ?_, fun h => Bool.noConfusion h⟩ | with_reducible refine se_next ?_ | refine ev_callP ?_ | refine ev_mI MC ?_ | refine ev_mO MC ?_ | refine ev_mA MC ?_ | refine ⟨_, _, _, rfl, ?_⟩ | refine op_eqI ?_ | refine op_neI ?_ | refine op_ixT (atI_nat (j := 0) rfl) ?_ | refine op_ixT (atI_nat (j := 1) rfl) ?_ | refine op_ixT (atI_nat (j := 2) rfl) ?_ | refine op_ixT (atI_nat (j := 3) rfl) ?_ | refine ⟨colds rfl, ?_⟩ | refine op_inN (.inl rfl) ?_ | refine op_inN (.inr rfl) ?_ | refine cb_isi rfl kit_ii ?_ | refine cb_isi rfl kit_ib ?_ | refine cb_isi rfl kit_ss ?_ | refine cb_len rfl ?_ | refine ⟨rfl, ?_⟩))
        rw [ha, take_snoc (zipIdx_get hA), List.filter_append, List.map_append]
        simp [h2]
      · have h2 : ¬ a.s = y := by have := of_decide_eq_false h; omega
        rw [ha, take_snoc (zipIdx_get hA), List.filter_append, List.map_append]
        simp [h2]
    · subst ha
      refine ⟨rfl, ?_⟩
      rw [List.take_of_length_le (by simp [enumD])]
      unfold intsL idx at hk
      rw [List.map_map] at hk
      exact hk
/-! ### within_fault -/
abbrev s_within_fault : Stmt := topS 23
theorem sc_within_fault : FnScope ["machine", "at", "arc", "other", "name"] ["machine"] (defScope s_within_fault) := ⟨rfl, rfl, rfl, by decide +kernel, rfl, by decide +kernel, by decide +kernel⟩
-- slots: 0 machine, 1 at, 2 arc, 3 other, 4 name; calls: arcs_of; constants: 
theorem ok_within_fault {f : Addr} {fd : FuncData} {q : Str} (F : Fun K "within_fault" q s_within_fault f fd) (B : Bt mg) (C_arcs_of : Cal P w K mg base 1 "arcs_of" ["machine", "state"] (spD (preArcsOf C))) (MC : Mc K C) : FnOk P w K mg base CX0 2 f fd ["machine"] (spD (preFaultW C)) := by
  obtain ⟨f_arcs_of, fd_arcs_of, G_arcs_of, m_arcs_of, k_arcs_of, b_arcs_of⟩ := C_arcs_of.ex
  refine F.ok sc_within_fault (fun vs H Q E h => ?_) (fun cdv A outer s H vs Q E hr h => ?_)
  · obtain ⟨T, h⟩ := h
    exact spT_len (fun as k kf hp => by obtain ⟨_, _, _, rfl, _⟩ := hp; rfl) h
  · obtain ⟨T, h⟩ := h
    have hu := hu_of hr
    have r_arcs_of := hr.mono (show 1 ≤ 1 by decide)
    refine ⟨_, (pss_cons (ps_for PassesOwn.never rfl (k_enumT K rfl rfl B.enumerate_ (pa_cons (k_fld K rfl (pv 0)) pa_nil)) (k_pgTup K rfl (n := 2) rfl (pgs_cons (pg_name (i := 1) sc_within_fault.nd rfl (.inl rfl)) (pgs_cons (pg_name (i := 2) sc_within_fault.nd rfl (.inl rfl)) pgs_nil)))
      (pss_one (ps_for PassesOwn.never rfl (k_seq K rfl (pe_call G_arcs_of r_arcs_of (by rfl) m_arcs_of k_arcs_of b_arcs_of .nil pass0 (pa_cons (pv 0) (pa_cons (pe_ix (k_ixT K rfl) (pv 2) pe_int (fun _ _ => rfl)) pa_nil)))) (pg_name (i := 3) sc_within_fault.nd rfl (.inr rfl))
      (pss_one (ps_if (pw_and (pt_cmpR (k_neD K rfl (hu64 hr)) (pv 3) (pv 1) (nomark _)) (pw_and1 (pt_val (pe_callB (k_all K rfl rfl) (by rfl) B.all_ boot_all (pa_cons (pe_lc (own := [("name", 4)]) rfl sc_within_fault.nd (k_seq K rfl (pe_ix (k_ixT K rfl) (pv 2) pe_int (fun _ _ => rfl))) (blkOk_by (N := ["machine", "at", "arc", "other", "name"]) (sc := defScope s_within_fault) (by decide +kernel)) (fun _ _ _ _ _ => (pg_name (i := 4) sc_within_fault.nd rfl (.inl rfl))) (fun _ _ _ _ _ => pts_nil) (fun _ _ _ _ _ => (pe_cmpR (k_in K rfl) (pv 4) (pe_ix (k_ixT K rfl) (pe_ix (k_ixT K rfl) (k_fld K rfl (pv 0)) (pv 3) (fun _ _ => rfl)) pe_int (fun _ _ => rfl)) (by with_unfolding_all rfl)))) pa_nil))))).pt (pss_one (ps_ret (pe_tup (pa_cons pe_str (pa_cons (pv 1) pa_nil))))) pss_nil)))))
      (pss_one (ps_ret pe_non))), body h fun g as k kf hT hst hp => ?_⟩
    obtain ⟨ins, outs, A, rfl, h0, h1, hk⟩ := hp
    refine se_seq (se_for (fun i c' => ∃ x1 x2 x3 x4, c' = [some (machV C ins outs A), x1, x2, x3, x4]) (ei_enumT ?_))
    (repeat (first | with_reducible refine se_seq ?_ | with_reducible refine se_if ?_ | with_reducible refine se_ret ?_ | with_reducible refine ev_int ?_ | with_reducible refine ev_str ?_ | with_reducible refine ev_bl ?_ | with_reducible refine ev_non ?_ | with_reducible refine ev_ty ?_ | refine ev_var rfl ?_ | with_reducible refine ev_ofF (ef_op (r := rCat) ?_) | with_reducible refine ev_ofF (ef_lst ?_) | with_reducible refine ev_ofF (ef_sl ?_) | with_reducible refine ev_op ?_ | with_reducible refine ef_op ?_ | with_reducible refine ef_lst ?_ | with_reducible refine ef_sl ?_ | with_reducible refine ev_tup ?_ | with_reducible refine ev_chain ?_ | with_reducible refine ev_tupL ?_ | with_reducible refine ev_isi2 ?_ | with_reducible refine ev_cb ?_ | refine ⟨_, _, _, rfl, clean_nmL _, kit_ll, kit_lt, ?_⟩ | refine ⟨_, _, _, rfl, clean_nmT _, kit_tl, kit_tt, ?_⟩ | refine cb_isi (clean_arcD _) kit_tt ?_ | with_reducible refine ev_bm ?_ | with_reducible refine ea_cons ?_ | with_reducible refine ea_nil ?_ | with_reducible refine eo_none ?_ | with_reducible refine eo_some ?_ | with_reducible refine et_test ?_ | with_reducible refine et_B ?_ | with_reducible refine et_not ?_ | with_reducible refine et_and ?_ | with_reducible refine et_or ?_ | with_reducible refine et_yes ?_ | with_reducible refine ev_if ?_ | with_reducible refine ev_andV ?_ | with_reducible refine ev_orV ?_ | with_reducible refine ev_notV ?_ | with_reducible refine op_i0 ?_ | with_reducible refine op_b0 ?_ | with_reducible refine op_inC ?_ | with_reducible refine op_niC ?_ | with_reducible refine ⟨_, rfl, ?_⟩ | refine ⟨fun h => Bool.noConfusion h, fun _ => ?_⟩ | refine ⟨fun _ => ?_, fun h => Bool.noConfusion h⟩ | with_reducible refine se_next ?_ | refine ev_callP ?_ | refine ev_mI MC ?_ | refine ev_mO MC ?_ | refine ev_mA MC ?_ | refine ⟨_, _, _, rfl, ?_⟩ | refine op_eqI ?_ | refine op_neI ?_ | refine op_ixT (atI_nat (j := 0) rfl) ?_ | refine op_ixT (atI_nat (j := 1) rfl) ?_ | refine op_ixT (atI_nat (j := 2) rfl) ?_ | refine op_ixT (atI_nat (j := 3) rfl) ?_ | refine ⟨colds rfl, ?_⟩ | refine op_inN (.inl rfl) ?_ | refine op_inN (.inr rfl) ?_ | refine cb_isi rfl kit_ii ?_ | refine cb_isi rfl kit_ib ?_ | refine cb_isi rfl kit_ss ?_ | refine cb_len rfl ?_ | refine ⟨rfl, ?_⟩))
    refine ⟨⟨none, none, none, none, by simp [ctx0, List.replicate]⟩, fun i d c' hd hw => ?_, fun c' hw => ?_⟩
    · obtain ⟨x1, x2, x3, x4, rfl⟩ := hw
      obtain ⟨d', hd', rfl⟩ := enumD_get hd
      obtain ⟨a, hA, rfl⟩ := at_map hd'
      refine ⟨_, _, tg_tup rfl (tgs_cons tg_name (tgs_cons tg_name tgs_nil)), ?_⟩
      refine se_for (fun j c' => ∃ x3 x4, c' = [some (machV C ins outs A), some (.da (.int (i : Int))), some (.da (arcD a)), x3, x4]) (ei_seq ?_)
      (repeat (first | with_reducible refine se_seq ?_ | with_reducible refine se_if ?_ | with_reducible refine se_ret ?_ | with_reducible refine ev_int ?_ | with_reducible refine ev_str ?_ | with_reducible refine ev_bl ?_ | with_reducible refine ev_non ?_ | with_reducible refine ev_ty ?_ | refine ev_var rfl ?_ | with_reducible refine ev_ofF (ef_op (r := rCat) ?_) | with_reducible refine ev_ofF (ef_lst ?_) | with_reducible refine ev_ofF (ef_sl ?_) | with_reducible refine ev_op ?_ | with_reducible refine ef_op ?_ | with_reducible refine ef_lst ?_ | with_reducible refine ef_sl ?_ | with_reducible refine ev_tup ?_ | with_reducible refine ev_chain ?_ | with_reducible refine ev_tupL ?_ | with_reducible refine ev_isi2 ?_ | with_reducible refine ev_cb ?_ | refine ⟨_, _, _, rfl, clean_nmL _, kit_ll, kit_lt, ?_⟩ | refine ⟨_, _, _, rfl, clean_nmT _, kit_tl, kit_tt, ?_⟩ | refine cb_isi (clean_arcD _) kit_tt ?_ | with_reducible refine ev_bm ?_ | with_reducible refine ea_cons ?_ | with_reducible refine ea_nil ?_ | with_reducible refine eo_none ?_ | with_reducible refine eo_some ?_ | with_reducible refine et_test ?_ | with_reducible refine et_B ?_ | with_reducible refine et_not ?_ | with_reducible refine et_and ?_ | with_reducible refine et_or ?_ | with_reducible refine et_yes ?_ | with_reducible refine ev_if ?_ | with_reducible refine ev_andV ?_ | with_reducible refine ev_orV ?_ | with_reducible refine ev_notV ?_ | with_reducible refine op_i0 ?_ | with_reducible refine op_b0 ?_ | with_reducible refine op_inC ?_ | with_reducible refine op_niC ?_ | with_reducible refine ⟨_, rfl, ?_⟩ | refine ⟨fun h => Bool.noConfusion h, fun _ => ?_⟩ | refine ⟨fun _ => ?_, fun h => Bool.noConfusion h⟩ | with_reducible refine se_next ?_ | refine ev_callP ?_ | refine ev_mI MC ?_ | refine ev_mO MC ?_ | refine ev_mA MC ?_ | refine ⟨_, _, _, rfl, ?_⟩ | refine op_eqI ?_ | refine op_neI ?_ | refine op_ixT (atI_nat (j := 0) rfl) ?_ | refine op_ixT (atI_nat (j := 1) rfl) ?_ | refine op_ixT (atI_nat (j := 2) rfl) ?_ | refine op_ixT (atI_nat (j := 3) rfl) ?_ | refine ⟨colds rfl, ?_⟩ | refine op_inN (.inl rfl) ?_ | refine op_inN (.inr rfl) ?_ | refine cb_isi rfl kit_ii ?_ | refine cb_isi rfl kit_ib ?_ | refine cb_isi rfl kit_ss ?_ | refine cb_len rfl ?_ | refine ⟨rfl, ?_⟩))
      refine ⟨ins, outs, A, a.s, rfl, h1.few, ?_⟩
      refine ⟨_, .inl rfl, ⟨x3, x4, by simp⟩, fun j d c' hd hw => ?_, fun c' hw => ?_⟩
      · obtain ⟨x3, x4, rfl⟩ := hw
        obtain ⟨o, ho, rfl⟩ := at_map hd
        refine ⟨_, _, tg_name, ?_⟩
        obtain ⟨a', hA', hs'⟩ := idx_mem ho
        (repeat (first | with_reducible refine se_seq ?_ | with_reducible refine se_if ?_ | with_reducible refine se_ret ?_ | with_reducible refine ev_int ?_ | with_reducible refine ev_str ?_ | with_reducible refine ev_bl ?_ | with_reducible refine ev_non ?_ | with_reducible refine ev_ty ?_ | refine ev_var rfl ?_ | with_reducible refine ev_ofF (ef_op (r := rCat) ?_) | with_reducible refine ev_ofF (ef_lst ?_) | with_reducible refine ev_ofF (ef_sl ?_) | with_reducible refine ev_op ?_ | with_reducible refine ef_op ?_ | with_reducible refine ef_lst ?_ | with_reducible refine ef_sl ?_ | with_reducible refine ev_tup ?_ | with_reducible refine ev_chain ?_ | with_reducible refine ev_tupL ?_ | with_reducible refine ev_isi2 ?_ | with_reducible refine ev_cb ?_ | refine ⟨_, _, _, rfl, clean_nmL _, kit_ll, kit_lt, ?_⟩ | refine ⟨_, _, _, rfl, clean_nmT _, kit_tl, kit_tt, ?_⟩ | refine cb_isi (clean_arcD _) kit_tt ?_ | with_reducible refine ev_bm ?_ | with_reducible refine ea_cons ?_ | with_reducible refine ea_nil ?_ | with_reducible refine eo_none ?_ | with_reducible refine eo_some ?_ | with_reducible refine et_test ?_ | with_reducible refine et_B ?_ | with_reducible refine et_not ?_ | with_reducible refine et_and ?_ | with_reducible refine et_or ?_ | with_reducible refine et_yes ?_ | with_reducible refine ev_if ?_ | with_reducible refine ev_andV ?_ | with_reducible refine ev_orV ?_ | with_reducible refine ev_notV ?_ | with_reducible refine op_i0 ?_ | with_reducible refine op_b0 ?_ | with_reducible refine op_inC ?_ | with_reducible refine op_niC ?_ | with_reducible refine ⟨_, rfl, ?_⟩ | refine ⟨fun h => Bool.noConfusion h, fun _ => ?_⟩ | refine ⟨fun _ => ?_, fun h => Bool.noConfusion h⟩ | with_reducible refine se_next ?_ | refine ev_callP ?_ | refine ev_mI MC ?_ | refine ev_mO MC ?_ | refine ev_mA MC ?_ | refine ⟨_, _, _, rfl, ?_⟩ | refine op_eqI ?_ | refine op_neI ?_ | refine op_ixT (atI_nat (j := 0) rfl) ?_ | refine op_ixT (atI_nat (j := 1) rfl) ?_ | refine op_ixT (atI_nat (j := 2) rfl) ?_ | refine op_ixT (atI_nat (j := 3) rfl) ?_ | refine ⟨colds rfl, ?_⟩ | refine op_inN (.inl rfl) ?_ | refine op_inN (.inr rfl) ?_ | refine cb_isi rfl kit_ii ?_ | refine cb_isi rfl kit_ib ?_ | refine cb_isi rfl kit_ss ?_ | refine cb_len rfl ?_ | refine ⟨rfl, ?_⟩))
        refine ⟨fun h => ?_, fun h => ?_⟩
        · have ho' : o ≠ i := by
            have h2 : ¬ ((o : Int) = (i : Int)) := by simpa using h
            omega
          have hw : Bst.wth a.b a'.b = false := by
            obtain ⟨hl, he⟩ := List.getElem?_eq_some_iff.mp hA
            obtain ⟨hl', he'⟩ := List.getElem?_eq_some_iff.mp hA'
            rcases Nat.lt_or_ge i o with z | z
            · have := List.pairwise_iff_getElem.mp h1.anti i o hl hl' z
              rw [he, he'] at this
              exact (this hs'.symm).1
            · have := List.pairwise_iff_getElem.mp h1.anti o i hl' hl (by omega)
              rw [he, he'] at this
              exact (this hs').2
          have hbl : a.b.length ≤ 90000 := by
            have := (h1.ib a (List.mem_of_getElem? hA)).2.length_le
            omega
          refine et_B (ev_allin (by simp) hbl (ev_op (ev_var rfl (ev_int (op_ixT (atI_nat (j := 1) rfl) rfl)))) (fun x => ev_op (ev_op (ev_mA MC (ev_var rfl ⟨_, _, _, rfl, ev_var rfl (op_ixT (atI_nat (j := o) (map_get hA')) (ev_int (op_ixT (atI_nat (j := 1) rfl) rfl)))⟩)))) ⟨_, rfl, ?_⟩)
          rw [hw]
          (repeat (first | with_reducible refine se_seq ?_ | with_reducible refine se_if ?_ | with_reducible refine se_ret ?_ | with_reducible refine ev_int ?_ | with_reducible refine ev_str ?_ | with_reducible refine ev_bl ?_ | with_reducible refine ev_non ?_ | with_reducible refine ev_ty ?_ | refine ev_var rfl ?_ | with_reducible refine ev_ofF (ef_op (r := rCat) ?_) | with_reducible refine ev_ofF (ef_lst ?_) | with_reducible refine ev_ofF (ef_sl ?_) | with_reducible refine ev_op ?_ | with_reducible refine ef_op ?_ | with_reducible refine ef_lst ?_ | with_reducible refine ef_sl ?_ | with_reducible refine ev_tup ?_ | with_reducible refine ev_chain ?_ | with_reducible refine ev_tupL ?_ | with_reducible refine ev_isi2 ?_ | with_reducible refine ev_cb ?_ | refine ⟨_, _, _, rfl, clean_nmL _, kit_ll, kit_lt, ?_⟩ | refine ⟨_, _, _, rfl, clean_nmT _, kit_tl, kit_tt, ?_⟩ | refine cb_isi (clean_arcD _) kit_tt ?_ | with_reducible refine ev_bm ?_ | with_reducible refine ea_cons ?_ | with_reducible refine ea_nil ?_ | with_reducible refine eo_none ?_ | with_reducible refine eo_some ?_ | with_reducible refine et_test ?_ | with_reducible refine et_B ?_ | with_reducible refine et_not ?_ | with_reducible refine et_and ?_ | with_reducible refine et_or ?_ | with_reducible refine et_yes ?_ | with_reducible refine ev_if ?_ | with_reducible refine ev_andV ?_ | with_reducible refine ev_orV ?_ | with_reducible refine ev_notV ?_ | with_reducible refine op_i0 ?_ | with_reducible refine op_b0 ?_ | with_reducible refine op_inC ?_ | with_reducible refine op_niC ?_ | with_reducible refine ⟨_, rfl, ?_⟩ | refine ⟨fun h => Bool.noConfusion h, fun _ => ?_⟩ | refine ⟨fun _ => ?_, fun h => Bool.noConfusion h⟩ | with_reducible refine se_next ?_ | refine ev_callP ?_ | refine ev_mI MC ?_ | refine ev_mO MC ?_ | refine ev_mA MC ?_ | refine ⟨_, _, _, rfl, ?_⟩ | refine op_eqI ?_ | refine op_neI ?_ | refine op_ixT (atI_nat (j := 0) rfl) ?_ | refine op_ixT (atI_nat (j := 1) rfl) ?_ | refine op_ixT (atI_nat (j := 2) rfl) ?_ | refine op_ixT (atI_nat (j := 3) rfl) ?_ | refine ⟨colds rfl, ?_⟩ | refine op_inN (.inl rfl) ?_ | refine op_inN (.inr rfl) ?_ | refine cb_isi rfl kit_ii ?_ | refine cb_isi rfl kit_ib ?_ | refine cb_isi rfl kit_ss ?_ | refine cb_len rfl ?_ | refine ⟨rfl, ?_⟩))
          exact ⟨_, _, rfl⟩
        · refine ⟨fun h => Bool.noConfusion h, fun _ => se_next ⟨_, _, rfl⟩⟩
      · obtain ⟨x3, x4, rfl⟩ := hw
        exact ⟨_, _, _, _, rfl⟩
    · obtain ⟨x1, x2, x3, x4, rfl⟩ := hw
      (repeat (first | with_reducible refine se_seq ?_ | with_reducible refine se_if ?_ | with_reducible refine se_ret ?_ | with_reducible refine ev_int ?_ | with_reducible refine ev_str ?_ | with_reducible refine ev_bl ?_ | with_reducible refine ev_non ?_ | with_reducible refine ev_ty ?_ | refine ev_var rfl ?_ | with_reducible refine ev_ofF (ef_op (r := rCat) ?_) | with_reducible refine ev_ofF (ef_lst ?_) | with_reducible refine ev_ofF (ef_sl ?_) | with_reducible refine ev_op ?_ | with_reducible refine ef_op ?_ | with_reducible refine ef_lst ?_ | with_reducible refine ef_sl ?_ | with_reducible refine ev_tup ?_ | with_reducible refine ev_chain ?_ | with_reducible refine ev_tupL ?_ | with_reducible refine ev_isi2 ?_ | with_reducible refine ev_cb ?_ | refine ⟨_, _, _, rfl, clean_nmL _, kit_ll, kit_lt, ?_⟩ | refine ⟨_, _, _, rfl, clean_nmT _, kit_tl, kit_tt, ?_⟩ | refine cb_isi (clean_arcD _) kit_tt ?_ | with_reducible refine ev_bm ?_ | with_reducible refine ea_cons ?_ | with_reducible refine ea_nil ?_ | with_reducible refine eo_none ?_ | with_reducible refine eo_some ?_ | with_reducible refine et_test ?_ | with_reducible refine et_B ?_ | with_reducible refine et_not ?_ | with_reducible refine et_and ?_ | with_reducible refine et_or ?_ | with_reducible refine et_yes ?_ | with_reducible refine ev_if ?_ | with_reducible refine ev_andV ?_ | with_reducible refine ev_orV ?_ | with_reducible refine ev_notV ?_ | with_reducible refine op_i0 ?_ | with_reducible refine op_b0 ?_ | with_reducible refine op_inC ?_ | with_reducible refine op_niC ?_ | with_reducible refine ⟨_, rfl, ?_⟩ | refine ⟨fun h => Bool.noConfusion h, fun _ => ?_⟩ | refine ⟨fun _ => ?_, fun h => Bool.noConfusion h⟩ | with_reducible refine se_next ?_ | refine ev_callP ?_ | refine ev_mI MC ?_ | refine ev_mO MC ?_ | refine ev_mA MC ?_ | refine ⟨_, _, _, rfl, ?_⟩ | refine op_eqI ?_ | refine op_neI ?_ | refine op_ixT (atI_nat (j := 0) rfl) ?_ | refine op_ixT (atI_nat (j := 1) rfl) ?_ | refine op_ixT (atI_nat (j := 2) rfl) ?_ | refine op_ixT (atI_nat (j := 3) rfl) ?_ | refine ⟨colds rfl, ?_⟩ | refine op_inN (.inl rfl) ?_ | refine op_inN (.inr rfl) ?_ | refine cb_isi rfl kit_ii ?_ | refine cb_isi rfl kit_ib ?_ | refine cb_isi rfl kit_ss ?_ | refine cb_len rfl ?_ | refine ⟨rfl, ?_⟩))
      exact hk
/-! ### fault, need_sound -/
abbrev s_fault : Stmt := topS 25
theorem sc_fault : FnScope ["machine", "wrong", "at"] ["machine"] (defScope s_fault) := ⟨rfl, rfl, rfl, by decide +kernel, rfl, by decide +kernel, by decide +kernel⟩
-- slots: 0 machine, 1 wrong, 2 at; calls: within_fault, walked; constants: 
theorem ok_fault {f : Addr} {fd : FuncData} {q : Str} (F : Fun K "fault" q s_fault f fd) (B : Bt mg) (C_within_fault : Cal P w K mg base 2 "within_fault" ["machine"] (spD (preFaultW C))) (C_walked : Cal P w K mg base 2 "walked" ["machine"] (spD (preWalked C))) : FnOk P w K mg base CX0 3 f fd ["machine"] (spD (preFault C)) := by
  obtain ⟨f_within_fault, fd_within_fault, G_within_fault, m_within_fault, k_within_fault, b_within_fault⟩ := C_within_fault.ex
  obtain ⟨f_walked, fd_walked, G_walked, m_walked, k_walked, b_walked⟩ := C_walked.ex
  refine F.ok sc_fault (fun vs H Q E h => ?_) (fun cdv A outer s H vs Q E hr h => ?_)
  · obtain ⟨T, h⟩ := h
    exact spT_len (fun as k kf hp => by obtain ⟨_, _, _, rfl, _⟩ := hp; rfl) h
  · obtain ⟨T, h⟩ := h
    have hu := hu_of hr
    have r_within_fault := hr.mono (show 2 ≤ 2 by decide)
    have r_walked := hr.mono (show 2 ≤ 2 by decide)
    refine ⟨_, (pss_cons (ps_set (i := 1) sc_fault.nd rfl (.inl rfl) (pe_call G_within_fault r_within_fault (by rfl) m_within_fault k_within_fault b_within_fault .nil pass0 (pa_cons (pv 0) pa_nil)))
      (pss_cons (ps_if (pt_cmpR op_notN (pv 1) pe_non (nomark _)) (pss_one (ps_ret (pv 1))) pss_nil)
      (pss_cons (ps_set (i := 2) sc_fault.nd rfl (.inl rfl) (pe_ix (k_ixT K rfl) (pe_call G_walked r_walked (by rfl) m_walked k_walked b_walked .nil pass0 (pa_cons (pv 0) pa_nil)) pe_int (fun _ _ => rfl)))
      (pss_one (ps_ret (pe_ifExp (pt_cmpR op_isN (pv 2) pe_non (nomark _)) pe_non (pe_tup (pa_cons pe_str (pa_cons (pv 2) pa_nil))))))))), body h fun g as k kf hT hst hp => ?_⟩
    obtain ⟨ins, outs, A, rfl, h1, h2, h3, hk⟩ := hp
    refine se_seq (se_asg ?_)
    (repeat (first | with_reducible refine se_seq ?_ | with_reducible refine se_if ?_ | with_reducible refine se_ret ?_ | with_reducible refine ev_int ?_ | with_reducible refine ev_str ?_ | with_reducible refine ev_bl ?_ | with_reducible refine ev_non ?_ | with_reducible refine ev_ty ?_ | refine ev_var rfl ?_ | with_reducible refine ev_ofF (ef_op (r := rCat) ?_) | with_reducible refine ev_ofF (ef_lst ?_) | with_reducible refine ev_ofF (ef_sl ?_) | with_reducible refine ev_op ?_ | with_reducible refine ef_op ?_ | with_reducible refine ef_lst ?_ | with_reducible refine ef_sl ?_ | with_reducible refine ev_tup ?_ | with_reducible refine ev_chain ?_ | with_reducible refine ev_tupL ?_ | with_reducible refine ev_isi2 ?_ | with_reducible refine ev_cb ?_ | refine ⟨_, _, _, rfl, clean_nmL _, kit_ll, kit_lt, ?_⟩ | refine ⟨_, _, _, rfl, clean_nmT _, kit_tl, kit_tt, ?_⟩ | refine cb_isi (clean_arcD _) kit_tt ?_ | with_reducible refine ev_bm ?_ | with_reducible refine ea_cons ?_ | with_reducible refine ea_nil ?_ | with_reducible refine eo_none ?_ | with_reducible refine eo_some ?_ | with_reducible refine et_test ?_ | with_reducible refine et_B ?_ | with_reducible refine et_not ?_ | with_reducible refine et_and ?_ | with_reducible refine et_or ?_ | with_reducible refine et_yes ?_ | with_reducible refine ev_if ?_ | with_reducible refine ev_andV ?_ | with_reducible refine ev_orV ?_ | with_reducible refine ev_notV ?_ | with_reducible refine op_i0 ?_ | with_reducible refine op_b0 ?_ | with_reducible refine op_inC ?_ | with_reducible refine op_niC ?_ | with_reducible refine ⟨_, rfl, ?_⟩ | refine ⟨fun h => Bool.noConfusion h, fun _ => ?_⟩ | refine ⟨fun _ => ?_, fun h => Bool.noConfusion h⟩ | with_reducible refine se_next ?_ | refine ev_callP ?_ | refine ev_mI MC ?_ | refine ev_mO MC ?_ | refine ev_mA MC ?_ | refine ⟨_, _, _, rfl, ?_⟩ | refine op_eqI ?_ | refine op_neI ?_ | refine op_ixT (atI_nat (j := 0) rfl) ?_ | refine op_ixT (atI_nat (j := 1) rfl) ?_ | refine op_ixT (atI_nat (j := 2) rfl) ?_ | refine op_ixT (atI_nat (j := 3) rfl) ?_ | refine ⟨colds rfl, ?_⟩ | refine op_inN (.inl rfl) ?_ | refine op_inN (.inr rfl) ?_ | refine cb_isi rfl kit_ii ?_ | refine cb_isi rfl kit_ib ?_ | refine cb_isi rfl kit_ss ?_ | refine cb_len rfl ?_ | refine ⟨rfl, ?_⟩))
    refine ⟨h1, h3, rfl, ?_⟩
    refine se_seq (se_if (et_test (ev_op (ev_var rfl (ev_non (op_notN rfl ⟨_, rfl, nofun, fun _ => se_next (se_seq (se_asg ?_))⟩))))))
    (repeat (first | with_reducible refine se_seq ?_ | with_reducible refine se_if ?_ | with_reducible refine se_ret ?_ | with_reducible refine ev_int ?_ | with_reducible refine ev_str ?_ | with_reducible refine ev_bl ?_ | with_reducible refine ev_non ?_ | with_reducible refine ev_ty ?_ | refine ev_var rfl ?_ | with_reducible refine ev_ofF (ef_op (r := rCat) ?_) | with_reducible refine ev_ofF (ef_lst ?_) | with_reducible refine ev_ofF (ef_sl ?_) | with_reducible refine ev_op ?_ | with_reducible refine ef_op ?_ | with_reducible refine ef_lst ?_ | with_reducible refine ef_sl ?_ | with_reducible refine ev_tup ?_ | with_reducible refine ev_chain ?_ | with_reducible refine ev_tupL ?_ | with_reducible refine ev_isi2 ?_ | with_reducible refine ev_cb ?_ | refine ⟨_, _, _, rfl, clean_nmL _, kit_ll, kit_lt, ?_⟩ | refine ⟨_, _, _, rfl, clean_nmT _, kit_tl, kit_tt, ?_⟩ | refine cb_isi (clean_arcD _) kit_tt ?_ | with_reducible refine ev_bm ?_ | with_reducible refine ea_cons ?_ | with_reducible refine ea_nil ?_ | with_reducible refine eo_none ?_ | with_reducible refine eo_some ?_ | with_reducible refine et_test ?_ | with_reducible refine et_B ?_ | with_reducible refine et_not ?_ | with_reducible refine et_and ?_ | with_reducible refine et_or ?_ | with_reducible refine et_yes ?_ | with_reducible refine ev_if ?_ | with_reducible refine ev_andV ?_ | with_reducible refine ev_orV ?_ | with_reducible refine ev_notV ?_ | with_reducible refine op_i0 ?_ | with_reducible refine op_b0 ?_ | with_reducible refine op_inC ?_ | with_reducible refine op_niC ?_ | with_reducible refine ⟨_, rfl, ?_⟩ | refine ⟨fun h => Bool.noConfusion h, fun _ => ?_⟩ | refine ⟨fun _ => ?_, fun h => Bool.noConfusion h⟩ | with_reducible refine se_next ?_ | refine ev_callP ?_ | refine ev_mI MC ?_ | refine ev_mO MC ?_ | refine ev_mA MC ?_ | refine ⟨_, _, _, rfl, ?_⟩ | refine op_eqI ?_ | refine op_neI ?_ | refine op_ixT (atI_nat (j := 0) rfl) ?_ | refine op_ixT (atI_nat (j := 1) rfl) ?_ | refine op_ixT (atI_nat (j := 2) rfl) ?_ | refine op_ixT (atI_nat (j := 3) rfl) ?_ | refine ⟨colds rfl, ?_⟩ | refine op_inN (.inl rfl) ?_ | refine op_inN (.inr rfl) ?_ | refine cb_isi rfl kit_ii ?_ | refine cb_isi rfl kit_ib ?_ | refine cb_isi rfl kit_ss ?_ | refine cb_len rfl ?_ | refine ⟨rfl, ?_⟩))
    refine ⟨h1, h2, h3, ?_⟩
    (repeat (first | with_reducible refine se_seq ?_ | with_reducible refine se_if ?_ | with_reducible refine se_ret ?_ | with_reducible refine ev_int ?_ | with_reducible refine ev_str ?_ | with_reducible refine ev_bl ?_ | with_reducible refine ev_non ?_ | with_reducible refine ev_ty ?_ | refine ev_var rfl ?_ | with_reducible refine ev_ofF (ef_op (r := rCat) ?_) | with_reducible refine ev_ofF (ef_lst ?_) | with_reducible refine ev_ofF (ef_sl ?_) | with_reducible refine ev_op ?_ | with_reducible refine ef_op ?_ | with_reducible refine ef_lst ?_ | with_reducible refine ef_sl ?_ | with_reducible refine ev_tup ?_ | with_reducible refine ev_chain ?_ | with_reducible refine ev_tupL ?_ | with_reducible refine ev_isi2 ?_ | with_reducible refine ev_cb ?_ | refine ⟨_, _, _, rfl, clean_nmL _, kit_ll, kit_lt, ?_⟩ | refine ⟨_, _, _, rfl, clean_nmT _, kit_tl, kit_tt, ?_⟩ | refine cb_isi (clean_arcD _) kit_tt ?_ | with_reducible refine ev_bm ?_ | with_reducible refine ea_cons ?_ | with_reducible refine ea_nil ?_ | with_reducible refine eo_none ?_ | with_reducible refine eo_some ?_ | with_reducible refine et_test ?_ | with_reducible refine et_B ?_ | with_reducible refine et_not ?_ | with_reducible refine et_and ?_ | with_reducible refine et_or ?_ | with_reducible refine et_yes ?_ | with_reducible refine ev_if ?_ | with_reducible refine ev_andV ?_ | with_reducible refine ev_orV ?_ | with_reducible refine ev_notV ?_ | with_reducible refine op_i0 ?_ | with_reducible refine op_b0 ?_ | with_reducible refine op_inC ?_ | with_reducible refine op_niC ?_ | with_reducible refine ⟨_, rfl, ?_⟩ | refine ⟨fun h => Bool.noConfusion h, fun _ => ?_⟩ | refine ⟨fun _ => ?_, fun h => Bool.noConfusion h⟩ | with_reducible refine se_next ?_ | refine ev_callP ?_ | refine ev_mI MC ?_ | refine ev_mO MC ?_ | refine ev_mA MC ?_ | refine ⟨_, _, _, rfl, ?_⟩ | refine op_eqI ?_ | refine op_neI ?_ | refine op_ixT (atI_nat (j := 0) rfl) ?_ | refine op_ixT (atI_nat (j := 1) rfl) ?_ | refine op_ixT (atI_nat (j := 2) rfl) ?_ | refine op_ixT (atI_nat (j := 3) rfl) ?_ | refine ⟨colds rfl, ?_⟩ | refine op_inN (.inl rfl) ?_ | refine op_inN (.inr rfl) ?_ | refine cb_isi rfl kit_ii ?_ | refine cb_isi rfl kit_ib ?_ | refine cb_isi rfl kit_ss ?_ | refine cb_len rfl ?_ | refine ⟨rfl, ?_⟩))
    refine op_isN rfl ⟨_, rfl, fun _ => ev_non ⟨rfl, hk⟩, nofun⟩
abbrev s_need_sound : Stmt := topS 26
theorem sc_need_sound : FnScope ["machine", "wrong"] ["machine"] (defScope s_need_sound) := ⟨rfl, rfl, rfl, by decide +kernel, rfl, by decide +kernel, by decide +kernel⟩
-- slots: 0 machine, 1 wrong; calls: fault; constants: 
theorem ok_need_sound {f : Addr} {fd : FuncData} {q : Str} (F : Fun K "need_sound" q s_need_sound f fd) (B : Bt mg) (C_fault : Cal P w K mg base 3 "fault" ["machine"] (spD (preFault C))) : FnOk P w K mg base CX0 4 f fd ["machine"] (spD (preFault C)) := by
  obtain ⟨f_fault, fd_fault, G_fault, m_fault, k_fault, b_fault⟩ := C_fault.ex
  refine F.ok sc_need_sound (fun vs H Q E h => ?_) (fun cdv A outer s H vs Q E hr h => ?_)
  · obtain ⟨T, h⟩ := h
    exact spT_len (fun as k kf hp => by obtain ⟨_, _, _, rfl, _⟩ := hp; rfl) h
  · obtain ⟨T, h⟩ := h
    have hu := hu_of hr
    have r_fault := hr.mono (show 3 ≤ 3 by decide)
    refine ⟨_, (pss_cons (ps_set (i := 1) sc_need_sound.nd rfl (.inl rfl) (pe_call G_fault r_fault (by rfl) m_fault k_fault b_fault .nil pass0 (pa_cons (pv 0) pa_nil)))
      (pss_one (ps_if (pt_cmpR op_notN (pv 1) pe_non (nomark _)) (pss_one ps_never) pss_nil))), body h fun g as k kf hT hst hp => ?_⟩
    obtain ⟨ins, outs, A, rfl, h1, h2, h3, hk⟩ := hp
    refine se_seq (se_asg ?_)
    (repeat (first | with_reducible refine se_seq ?_ | with_reducible refine se_if ?_ | with_reducible refine se_ret ?_ | with_reducible refine ev_int ?_ | with_reducible refine ev_str ?_ | with_reducible refine ev_bl ?_ | with_reducible refine ev_non ?_ | with_reducible refine ev_ty ?_ | refine ev_var rfl ?_ | with_reducible refine ev_ofF (ef_op (r := rCat) ?_) | with_reducible refine ev_ofF (ef_lst ?_) | with_reducible refine ev_ofF (ef_sl ?_) | with_reducible refine ev_op ?_ | with_reducible refine ef_op ?_ | with_reducible refine ef_lst ?_ | with_reducible refine ef_sl ?_ | with_reducible refine ev_tup ?_ | with_reducible refine ev_chain ?_ | with_reducible refine ev_tupL ?_ | with_reducible refine ev_isi2 ?_ | with_reducible refine ev_cb ?_ | refine ⟨_, _, _, rfl, clean_nmL _, kit_ll, kit_lt, ?_⟩ | refine ⟨_, _, _, rfl, clean_nmT _, kit_tl, kit_tt, ?_⟩ | refine cb_isi (clean_arcD _) kit_tt ?_ | with_reducible refine ev_bm ?_ | with_reducible refine ea_cons ?_ | with_reducible refine ea_nil ?_ | with_reducible refine eo_none ?_ | with_reducible refine eo_some ?_ | with_reducible refine et_test ?_ | with_reducible refine et_B ?_ | with_reducible refine et_not ?_ | with_reducible refine et_and ?_ | with_reducible refine et_or ?_ | with_reducible refine et_yes ?_ | with_reducible refine ev_if ?_ | with_reducible refine ev_andV ?_ | with_reducible refine ev_orV ?_ | with_reducible refine ev_notV ?_ | with_reducible refine op_i0 ?_ | with_reducible refine op_b0 ?_ | with_reducible refine op_inC ?_ | with_reducible refine op_niC ?_ | with_reducible refine ⟨_, rfl, ?_⟩ | refine ⟨fun h => Bool.noConfusion h, fun _ => ?_⟩ | refine ⟨fun _ => ?_, fun h => Bool.noConfusion h⟩ | with_reducible refine se_next ?_ | refine ev_callP ?_ | refine ev_mI MC ?_ | refine ev_mO MC ?_ | refine ev_mA MC ?_ | refine ⟨_, _, _, rfl, ?_⟩ | refine op_eqI ?_ | refine op_neI ?_ | refine op_ixT (atI_nat (j := 0) rfl) ?_ | refine op_ixT (atI_nat (j := 1) rfl) ?_ | refine op_ixT (atI_nat (j := 2) rfl) ?_ | refine op_ixT (atI_nat (j := 3) rfl) ?_ | refine ⟨colds rfl, ?_⟩ | refine op_inN (.inl rfl) ?_ | refine op_inN (.inr rfl) ?_ | refine cb_isi rfl kit_ii ?_ | refine cb_isi rfl kit_ib ?_ | refine cb_isi rfl kit_ss ?_ | refine cb_len rfl ?_ | refine ⟨rfl, ?_⟩))
    refine ⟨h1, h2, h3, rfl, ?_⟩
    exact se_if (et_test (ev_op (ev_var rfl (ev_non (op_notN rfl ⟨_, rfl, nofun, fun _ => se_next hk⟩)))))
/-! ### bursts_of, is_part, fed -/
abbrev s_bursts_of : Stmt := topS 27
theorem sc_bursts_of : FnScope ["machine", "state", "at"] ["machine", "state"] (defScope s_bursts_of) := ⟨rfl, rfl, rfl, by decide +kernel, rfl, by decide +kernel, by decide +kernel⟩
-- slots: 0 machine, 1 state, 2 at; calls: arcs_of; constants: 
theorem ok_bursts_of {f : Addr} {fd : FuncData} {q : Str} (F : Fun K "bursts_of" q s_bursts_of f fd) (B : Bt mg) (C_arcs_of : Cal P w K mg base 1 "arcs_of" ["machine", "state"] (spD (preArcsOf C))) (MC : Mc K C) : FnOk P w K mg base CX0 2 f fd ["machine", "state"] (spD (preBursts C)) := by
  obtain ⟨f_arcs_of, fd_arcs_of, G_arcs_of, m_arcs_of, k_arcs_of, b_arcs_of⟩ := C_arcs_of.ex
  refine F.ok sc_bursts_of (fun vs H Q E h => ?_) (fun cdv A outer s H vs Q E hr h => ?_)
  · obtain ⟨T, h⟩ := h
    exact spT_len (fun as k kf hp => by obtain ⟨_, _, _, _, rfl, _⟩ := hp; rfl) h
  · obtain ⟨T, h⟩ := h
    have hu := hu_of hr
    have r_arcs_of := hr.mono (show 1 ≤ 1 by decide)
    refine ⟨_, (pss_one (ps_ret (pe_lc (own := [("at", 2)]) rfl sc_bursts_of.nd (k_seq K rfl (pe_call G_arcs_of r_arcs_of (by rfl) m_arcs_of k_arcs_of b_arcs_of .nil pass0 (pa_cons (pv 0) (pa_cons (pv 1) pa_nil)))) (blkOk_by (N := ["machine", "state", "at"]) (sc := defScope s_bursts_of) (by decide +kernel)) (fun _ _ _ _ _ => (pg_name (i := 2) sc_bursts_of.nd rfl (.inl rfl))) (fun _ _ _ _ _ => pts_nil) (fun _ _ _ _ _ => (pe_ix (k_ixT K rfl) (pe_ix (k_ixT K rfl) (k_fld K rfl (pv 0)) (pv 2) (fun _ _ => rfl)) pe_int (fun _ _ => rfl)))))), body h fun g as k kf hT hst hp => ?_⟩
    obtain ⟨ins, outs, A, y, rfl, h1, hk⟩ := hp
    have hl := idx_length A y
    refine se_ret (ev_ofF (ef_lc (fun i acc => acc = ((A.filter fun a => decide (a.s = y)).take i).map fun a => nmT a.b) (ei_seq ?_)))
    (repeat (first | with_reducible refine se_seq ?_ | with_reducible refine se_if ?_ | with_reducible refine se_ret ?_ | with_reducible refine ev_int ?_ | with_reducible refine ev_str ?_ | with_reducible refine ev_bl ?_ | with_reducible refine ev_non ?_ | with_reducible refine ev_ty ?_ | refine ev_var rfl ?_ | with_reducible refine ev_ofF (ef_op (r := rCat) ?_) | with_reducible refine ev_ofF (ef_lst ?_) | with_reducible refine ev_ofF (ef_sl ?_) | with_reducible refine ev_op ?_ | with_reducible refine ef_op ?_ | with_reducible refine ef_lst ?_ | with_reducible refine ef_sl ?_ | with_reducible refine ev_tup ?_ | with_reducible refine ev_chain ?_ | with_reducible refine ev_tupL ?_ | with_reducible refine ev_isi2 ?_ | with_reducible refine ev_cb ?_ | refine ⟨_, _, _, rfl, clean_nmL _, kit_ll, kit_lt, ?_⟩ | refine ⟨_, _, _, rfl, clean_nmT _, kit_tl, kit_tt, ?_⟩ | refine cb_isi (clean_arcD _) kit_tt ?_ | with_reducible refine ev_bm ?_ | with_reducible refine ea_cons ?_ | with_reducible refine ea_nil ?_ | with_reducible refine eo_none ?_ | with_reducible refine eo_some ?_ | with_reducible refine et_test ?_ | with_reducible refine et_B ?_ | with_reducible refine et_not ?_ | with_reducible refine et_and ?_ | with_reducible refine et_or ?_ | with_reducible refine et_yes ?_ | with_reducible refine ev_if ?_ | with_reducible refine ev_andV ?_ | with_reducible refine ev_orV ?_ | with_reducible refine ev_notV ?_ | with_reducible refine op_i0 ?_ | with_reducible refine op_b0 ?_ | with_reducible refine op_inC ?_ | with_reducible refine op_niC ?_ | with_reducible refine ⟨_, rfl, ?_⟩ | refine ⟨fun h => Bool.noConfusion h, fun _ => ?_⟩ | refine ⟨fun _ => ?_, fun h => Bool.noConfusion h⟩ | with_reducible refine se_next ?_ | refine ev_callP ?_ | refine ev_mI MC ?_ | refine ev_mO MC ?_ | refine ev_mA MC ?_ | refine ⟨_, _, _, rfl, ?_⟩ | refine op_eqI ?_ | refine op_neI ?_ | refine op_ixT (atI_nat (j := 0) rfl) ?_ | refine op_ixT (atI_nat (j := 1) rfl) ?_ | refine op_ixT (atI_nat (j := 2) rfl) ?_ | refine op_ixT (atI_nat (j := 3) rfl) ?_ | refine ⟨colds rfl, ?_⟩ | refine op_inN (.inl rfl) ?_ | refine op_inN (.inr rfl) ?_ | refine cb_isi rfl kit_ii ?_ | refine cb_isi rfl kit_ib ?_ | refine cb_isi rfl kit_ss ?_ | refine cb_len rfl ?_ | refine ⟨rfl, ?_⟩))
    refine ⟨ins, outs, A, y, rfl, h1, ?_⟩
    refine ⟨_, .inl rfl, rfl, by simp; omega, fun i d acc hd ha => ?_, fun acc ha => ?_⟩
    · obtain ⟨o, ho, rfl⟩ := at_map hd
      obtain ⟨a, hA, hF⟩ := idx_filter ho
      refine ⟨_, _, tg_name, by simp, et_yes ⟨fun _ => ?_, nofun⟩⟩
      (repeat (first | with_reducible refine se_seq ?_ | with_reducible refine se_if ?_ | with_reducible refine se_ret ?_ | with_reducible refine ev_int ?_ | with_reducible refine ev_str ?_ | with_reducible refine ev_bl ?_ | with_reducible refine ev_non ?_ | with_reducible refine ev_ty ?_ | refine ev_var rfl ?_ | with_reducible refine ev_ofF (ef_op (r := rCat) ?_) | with_reducible refine ev_ofF (ef_lst ?_) | with_reducible refine ev_ofF (ef_sl ?_) | with_reducible refine ev_op ?_ | with_reducible refine ef_op ?_ | with_reducible refine ef_lst ?_ | with_reducible refine ef_sl ?_ | with_reducible refine ev_tup ?_ | with_reducible refine ev_chain ?_ | with_reducible refine ev_tupL ?_ | with_reducible refine ev_isi2 ?_ | with_reducible refine ev_cb ?_ | refine ⟨_, _, _, rfl, clean_nmL _, kit_ll, kit_lt, ?_⟩ | refine ⟨_, _, _, rfl, clean_nmT _, kit_tl, kit_tt, ?_⟩ | refine cb_isi (clean_arcD _) kit_tt ?_ | with_reducible refine ev_bm ?_ | with_reducible refine ea_cons ?_ | with_reducible refine ea_nil ?_ | with_reducible refine eo_none ?_ | with_reducible refine eo_some ?_ | with_reducible refine et_test ?_ | with_reducible refine et_B ?_ | with_reducible refine et_not ?_ | with_reducible refine et_and ?_ | with_reducible refine et_or ?_ | with_reducible refine et_yes ?_ | with_reducible refine ev_if ?_ | with_reducible refine ev_andV ?_ | with_reducible refine ev_orV ?_ | with_reducible refine ev_notV ?_ | with_reducible refine op_i0 ?_ | with_reducible refine op_b0 ?_ | with_reducible refine op_inC ?_ | with_reducible refine op_niC ?_ | with_reducible refine ⟨_, rfl, ?_⟩ | refine ⟨fun h => Bool.noConfusion h, fun _ => ?_⟩ | refine ⟨fun _ => ?_, fun h => Bool.noConfusion h⟩ | with_reducible refine se_next ?_ | refine ev_callP ?_ | refine ev_mI MC ?_ | refine ev_mO MC ?_ | refine ev_mA MC ?_ | refine ⟨_, _, _, rfl, ?_⟩ | refine op_eqI ?_ | refine op_neI ?_ | refine op_ixT (atI_nat (j := 0) rfl) ?_ | refine op_ixT (atI_nat (j := 1) rfl) ?_ | refine op_ixT (atI_nat (j := 2) rfl) ?_ | refine op_ixT (atI_nat (j := 3) rfl) ?_ | refine ⟨colds rfl, ?_⟩ | refine op_inN (.inl rfl) ?_ | refine op_inN (.inr rfl) ?_ | refine cb_isi rfl kit_ii ?_ | refine cb_isi rfl kit_ib ?_ | refine cb_isi rfl kit_ss ?_ | refine cb_len rfl ?_ | refine ⟨rfl, ?_⟩))
      refine op_ixT (atI_nat (j := o) (map_get hA)) ?_
      (repeat (first | with_reducible refine se_seq ?_ | with_reducible refine se_if ?_ | with_reducible refine se_ret ?_ | with_reducible refine ev_int ?_ | with_reducible refine ev_str ?_ | with_reducible refine ev_bl ?_ | with_reducible refine ev_non ?_ | with_reducible refine ev_ty ?_ | refine ev_var rfl ?_ | with_reducible refine ev_ofF (ef_op (r := rCat) ?_) | with_reducible refine ev_ofF (ef_lst ?_) | with_reducible refine ev_ofF (ef_sl ?_) | with_reducible refine ev_op ?_ | with_reducible refine ef_op ?_ | with_reducible refine ef_lst ?_ | with_reducible refine ef_sl ?_ | with_reducible refine ev_tup ?_ | with_reducible refine ev_chain ?_ | with_reducible refine ev_tupL ?_ | with_reducible refine ev_isi2 ?_ | with_reducible refine ev_cb ?_ | refine ⟨_, _, _, rfl, clean_nmL _, kit_ll, kit_lt, ?_⟩ | refine ⟨_, _, _, rfl, clean_nmT _, kit_tl, kit_tt, ?_⟩ | refine cb_isi (clean_arcD _) kit_tt ?_ | with_reducible refine ev_bm ?_ | with_reducible refine ea_cons ?_ | with_reducible refine ea_nil ?_ | with_reducible refine eo_none ?_ | with_reducible refine eo_some ?_ | with_reducible refine et_test ?_ | with_reducible refine et_B ?_ | with_reducible refine et_not ?_ | with_reducible refine et_and ?_ | with_reducible refine et_or ?_ | with_reducible refine et_yes ?_ | with_reducible refine ev_if ?_ | with_reducible refine ev_andV ?_ | with_reducible refine ev_orV ?_ | with_reducible refine ev_notV ?_ | with_reducible refine op_i0 ?_ | with_reducible refine op_b0 ?_ | with_reducible refine op_inC ?_ | with_reducible refine op_niC ?_ | with_reducible refine ⟨_, rfl, ?_⟩ | refine ⟨fun h => Bool.noConfusion h, fun _ => ?_⟩ | refine ⟨fun _ => ?_, fun h => Bool.noConfusion h⟩ | with_reducible refine se_next ?_ | refine ev_callP ?_ | refine ev_mI MC ?_ | refine ev_mO MC ?_ | refine ev_mA MC ?_ | refine ⟨_, _, _, rfl, ?_⟩ | refine op_eqI ?_ | refine op_neI ?_ | refine op_ixT (atI_nat (j := 0) rfl) ?_ | refine op_ixT (atI_nat (j := 1) rfl) ?_ | refine op_ixT (atI_nat (j := 2) rfl) ?_ | refine op_ixT (atI_nat (j := 3) rfl) ?_ | refine ⟨colds rfl, ?_⟩ | refine op_inN (.inl rfl) ?_ | refine op_inN (.inr rfl) ?_ | refine cb_isi rfl kit_ii ?_ | refine cb_isi rfl kit_ib ?_ | refine cb_isi rfl kit_ss ?_ | refine cb_len rfl ?_ | refine ⟨rfl, ?_⟩))
      rw [ha, take_snoc hF, List.map_append]
      rfl
    · subst ha
      refine ⟨rfl, ?_⟩
      rw [List.take_of_length_le (by rw [List.length_map, idx_len]; exact Nat.le_refl _)]
      unfold rowD at hk
      rw [List.map_map] at hk
      exact hk
abbrev s_is_part : Stmt := topS 28
theorem sc_is_part : FnScope ["some", "burst", "name"] ["some", "burst"] (defScope s_is_part) := ⟨rfl, rfl, rfl, by decide +kernel, rfl, by decide +kernel, by decide +kernel⟩
-- slots: 0 some, 1 burst, 2 name; calls: ; constants: 
theorem ok_is_part {f : Addr} {fd : FuncData} {q : Str} (F : Fun K "is_part" q s_is_part f fd) (B : Bt mg) : FnOk P w K mg base CX0 1 f fd ["some", "burst"] (spD preWithin) := by
  refine F.ok sc_is_part (fun vs H Q E h => ?_) (fun cdv A outer s H vs Q E hr h => ?_)
  · obtain ⟨T, h⟩ := h
    exact spT_len (fun as k kf hp => by obtain ⟨_, _, rfl, _⟩ := hp; rfl) h
  · obtain ⟨T, h⟩ := h
    have hu := hu_of hr
    refine ⟨_, (pss_one (ps_ret (pe_callB (k_all K rfl rfl) (by rfl) B.all_ boot_all (pa_cons (pe_lc (own := [("name", 2)]) rfl sc_is_part.nd (k_seq K rfl (pv 0)) (blkOk_by (N := ["some", "burst", "name"]) (sc := defScope s_is_part) (by decide +kernel)) (fun _ _ _ _ _ => (pg_name (i := 2) sc_is_part.nd rfl (.inl rfl))) (fun _ _ _ _ _ => pts_nil) (fun _ _ _ _ _ => (pe_cmpR (k_in K rfl) (pv 2) (pv 1) (by with_unfolding_all rfl)))) pa_nil)))), body h fun g as k kf hT hst hp => ?_⟩
    obtain ⟨xs, ys, rfl, h1, hk⟩ := hp
    refine se_ret (ev_allin (by simp [ctx0]) (by omega) (ev_var rfl rfl) (fun x => ev_var rfl rfl) ⟨rfl, hk⟩)
abbrev s_fed : Stmt := topS 29
theorem sc_fed : FnScope ["machine", "standing", "name", "state", "arrived", "more", "at", "arc", "burst"] ["machine", "standing", "name"] (defScope s_fed) := ⟨rfl, rfl, rfl, by decide +kernel, rfl, by decide +kernel, by decide +kernel⟩
-- slots: 0 machine, 1 standing, 2 name, 3 state, 4 arrived, 5 more, 6 at, 7 arc, 8 burst; calls: in_order, arcs_of, bursts_of, is_part; constants: 
theorem ok_fed {f : Addr} {fd : FuncData} {q : Str} (F : Fun K "fed" q s_fed f fd) (B : Bt mg) (C_in_order : Cal P w K mg base 1 "in_order" ["things", "names"] (spD preOrder)) (C_arcs_of : Cal P w K mg base 1 "arcs_of" ["machine", "state"] (spD (preArcsOf C))) (C_bursts_of : Cal P w K mg base 2 "bursts_of" ["machine", "state"] (spD (preBursts C))) (C_is_part : Cal P w K mg base 1 "is_part" ["some", "burst"] (spD preWithin)) (MC : Mc K C) : FnOk P w K mg base CX0 3 f fd ["machine", "standing", "name"] (spD (preFed C)) := by
  obtain ⟨f_in_order, fd_in_order, G_in_order, m_in_order, k_in_order, b_in_order⟩ := C_in_order.ex
  obtain ⟨f_arcs_of, fd_arcs_of, G_arcs_of, m_arcs_of, k_arcs_of, b_arcs_of⟩ := C_arcs_of.ex
  obtain ⟨f_bursts_of, fd_bursts_of, G_bursts_of, m_bursts_of, k_bursts_of, b_bursts_of⟩ := C_bursts_of.ex
  obtain ⟨f_is_part, fd_is_part, G_is_part, m_is_part, k_is_part, b_is_part⟩ := C_is_part.ex
  refine F.ok sc_fed (fun vs H Q E h => ?_) (fun cdv A outer s H vs Q E hr h => ?_)
  · obtain ⟨T, h⟩ := h
    exact spT_len (fun as k kf hp => by obtain ⟨_, _, _, _, _, _, rfl, _⟩ := hp; rfl) h
  · obtain ⟨T, h⟩ := h
    have hu := hu_of hr
    have r_in_order := hr.mono (show 1 ≤ 2 by decide)
    have r_arcs_of := hr.mono (show 1 ≤ 2 by decide)
    have r_bursts_of := hr.mono (show 2 ≤ 2 by decide)
    have r_is_part := hr.mono (show 1 ≤ 2 by decide)
    refine ⟨_, (pss_cons (ps_asg (pv 1) (k_pgTup K rfl (n := 2) rfl (pgs_cons (pg_name (i := 3) sc_fed.nd rfl (.inl rfl)) (pgs_cons (pg_name (i := 4) sc_fed.nd rfl (.inl rfl)) pgs_nil))))
      (pss_cons (ps_if (pt_cmpR (k_in K rfl) (pv 2) (pv 4) (by with_unfolding_all rfl)) (pss_one (ps_ret pe_non)) pss_nil)
      (pss_cons (ps_set (i := 5) sc_fed.nd rfl (.inr rfl) (pe_call G_in_order r_in_order (by rfl) m_in_order k_in_order b_in_order .nil pass0 (pa_cons (pe_lst (k_star K rfl (pv 4) (pa_cons (pv 2) pa_nil))) (pa_cons (k_fld K rfl (pv 0)) pa_nil))))
      (pss_cons (ps_for PassesOwn.never rfl (k_seq K rfl (pe_call G_arcs_of r_arcs_of (by rfl) m_arcs_of k_arcs_of b_arcs_of .nil pass0 (pa_cons (pv 0) (pa_cons (pv 3) pa_nil)))) (pg_name (i := 6) sc_fed.nd rfl (.inl rfl))
      (pss_cons (ps_set (i := 7) sc_fed.nd rfl (.inl rfl) (pe_ix (k_ixT K rfl) (k_fld K rfl (pv 0)) (pv 6) (fun _ _ => rfl)))
      (pss_one (ps_if (pt_cmpR (k_eqD K rfl (hu64 hr)) (pe_ix (k_ixT K rfl) (pv 7) pe_int (fun _ _ => rfl)) (pv 5) (nomark _)) (pss_one (ps_ret (pe_tup (pa_cons (pe_tup (pa_cons (pe_ix (k_ixT K rfl) (pv 7) pe_int (fun _ _ => rfl)) (pa_cons (pe_tup pa_nil) pa_nil))) (pa_cons (pe_ix (k_ixT K rfl) (pv 7) pe_int (fun _ _ => rfl)) pa_nil))))) pss_nil))))
      (pss_cons (ps_if (pt_val (pe_callB (k_any K rfl rfl) (by rfl) B.any_ boot_any (pa_cons (pe_lc (own := [("burst", 8)]) rfl sc_fed.nd (k_seq K rfl (pe_call G_bursts_of r_bursts_of (by rfl) m_bursts_of k_bursts_of b_bursts_of .nil pass0 (pa_cons (pv 0) (pa_cons (pv 3) pa_nil)))) (blkOk_by (N := ["machine", "standing", "name", "state", "arrived", "more", "at", "arc", "burst"]) (sc := defScope s_fed) (by decide +kernel)) (fun _ _ _ _ _ => (pg_name (i := 8) sc_fed.nd rfl (.inl rfl))) (fun _ _ _ _ _ => pts_nil) (fun _ _ _ _ _ => (pe_call G_is_part r_is_part (by rfl) m_is_part k_is_part b_is_part .nil pass0 (pa_cons (pv 5) (pa_cons (pv 8) pa_nil))))) pa_nil))) (pss_one (ps_ret (pe_tup (pa_cons (pe_tup (pa_cons (pv 3) (pa_cons (pv 5) pa_nil))) (pa_cons (pe_tup pa_nil) pa_nil))))) pss_nil)
      (pss_one (ps_ret pe_non))))))), body h fun g as k kf hT hst hp => ?_⟩
    obtain ⟨ins, outs, A, x, arr, n, rfl, h1, h2, h3, h4, hk⟩ := hp
    have hl := idx_length A x
    refine se_seq (se_asgT (ev_var rfl ⟨_, _, _, rfl, tg_tup rfl (tgs_cons tg_name (tgs_cons tg_name tgs_nil)), ?_⟩))
    refine se_seq (se_if (et_test (ev_op (ev_var rfl (ev_var rfl (op_inN (.inl rfl) ⟨_, rfl, fun h => ?_, fun h => ?_⟩))))))
    · have hn : n ∈ arr := of_decide_eq_true h
      refine se_ret (ev_non ⟨rfl, ?_⟩)
      have e : Bst.go A ins (x, arr) n = none := by
        unfold Bst.go
        rw [if_pos hn]
      rw [e] at hk
      exact hk
    · have hn : ¬ n ∈ arr := of_decide_eq_false h
      have hm : (ins.filter fun m => decide (m ∈ arr ++ [n])) = Bst.more ins arr n := by
        unfold Bst.more
        congr 1
        funext m
        simp
      have mok : ∀ m ∈ Bst.more ins arr n, PyData.strOk m = true := fun m hm => h2.2 m (List.mem_filter.mp hm).1
      have ml : (Bst.more ins arr n).length ≤ 3 := Nat.le_trans (List.length_filter_le _ _) h2.1
      refine se_next (se_seq (se_asg (ev_callP (ea_cons (ev_ofF (ef_lst (ea_starT (ev_var rfl ⟨_, rfl, ea_cons (ev_var rfl (ea_nil ⟨(arr ++ [n]).map .str, ?_, ?_, ?_⟩))⟩)))) ))))
      · simp
      · simp
        omega
      refine ea_cons (ev_mI MC (ev_var rfl ⟨_, _, _, rfl, ea_nil ⟨colds rfl, arr ++ [n], ins, _, _, rfl, .inl rfl, .inr (.inr rfl), ?_, ?_, ?_⟩⟩))
      · simp
        omega
      · have := h2.1
        omega
      rw [hm]
      refine ⟨rfl, ?_⟩
      refine se_seq (se_for (fun i c' => (∀ j, j < i → ∀ a, (A.filter fun a => decide (a.s = x))[j]? = some a → a.b ≠ Bst.more ins arr n) ∧ ∃ x6 x7 x8, c' = [some (machV C ins outs A), some (.da (stdD x arr)), some (.da (.str n)), some (.da (.int (x : Int))), some (.da (nmT arr)), some (.da (nmT (Bst.more ins arr n))), x6, x7, x8]) (ei_seq ?_))
      (repeat (first | with_reducible refine se_seq ?_ | with_reducible refine se_if ?_ | with_reducible refine se_ret ?_ | with_reducible refine ev_int ?_ | with_reducible refine ev_str ?_ | with_reducible refine ev_bl ?_ | with_reducible refine ev_non ?_ | with_reducible refine ev_ty ?_ | refine ev_var rfl ?_ | with_reducible refine ev_ofF (ef_op (r := rCat) ?_) | with_reducible refine ev_ofF (ef_lst ?_) | with_reducible refine ev_ofF (ef_sl ?_) | with_reducible refine ev_op ?_ | with_reducible refine ef_op ?_ | with_reducible refine ef_lst ?_ | with_reducible refine ef_sl ?_ | with_reducible refine ev_tup ?_ | with_reducible refine ev_chain ?_ | with_reducible refine ev_tupL ?_ | with_reducible refine ev_isi2 ?_ | with_reducible refine ev_cb ?_ | refine ⟨_, _, _, rfl, clean_nmL _, kit_ll, kit_lt, ?_⟩ | refine ⟨_, _, _, rfl, clean_nmT _, kit_tl, kit_tt, ?_⟩ | refine cb_isi (clean_arcD _) kit_tt ?_ | with_reducible refine ev_bm ?_ | with_reducible refine ea_cons ?_ | with_reducible refine ea_nil ?_ | with_reducible refine eo_none ?_ | with_reducible refine eo_some ?_ | with_reducible refine et_test ?_ | with_reducible refine et_B ?_ | with_reducible refine et_not ?_ | with_reducible refine et_and ?_ | with_reducible refine et_or ?_ | with_reducible refine et_yes ?_ | with_reducible refine ev_if ?_ | with_reducible refine ev_andV ?_ | with_reducible refine ev_orV ?_ | with_reducible refine ev_notV ?_ | with_reducible refine op_i0 ?_ | with_reducible refine op_b0 ?_ | with_reducible refine op_inC ?_ | with_reducible refine op_niC ?_ | with_reducible refine ⟨_, rfl, ?_⟩ | refine ⟨fun h => Bool.noConfusion h, fun _ => ?_⟩ | refine ⟨fun _ => ?_, fun h => Bool.noConfusion h⟩ | with_reducible refine se_next ?_ | refine ev_callP ?_ | refine ev_mI MC ?_ | refine ev_mO MC ?_ | refine ev_mA MC ?_ | refine ⟨_, _, _, rfl, ?_⟩ | refine op_eqI ?_ | refine op_neI ?_ | refine op_ixT (atI_nat (j := 0) rfl) ?_ | refine op_ixT (atI_nat (j := 1) rfl) ?_ | refine op_ixT (atI_nat (j := 2) rfl) ?_ | refine op_ixT (atI_nat (j := 3) rfl) ?_ | refine ⟨colds rfl, ?_⟩ | refine op_inN (.inl rfl) ?_ | refine op_inN (.inr rfl) ?_ | refine cb_isi rfl kit_ii ?_ | refine cb_isi rfl kit_ib ?_ | refine cb_isi rfl kit_ss ?_ | refine cb_len rfl ?_ | refine ⟨rfl, ?_⟩))
      refine ⟨ins, outs, A, x, rfl, h1, _, .inl rfl, ⟨fun j hj => absurd hj (Nat.not_lt_zero j), none, none, none, by simp [ctx0, List.replicate]⟩, fun i d c' hd hw => ?_, fun c' hw => ?_⟩
      · obtain ⟨hw, x6, x7, x8, rfl⟩ := hw
        obtain ⟨o, ho, rfl⟩ := at_map hd
        obtain ⟨a, hA, hF⟩ := idx_filter ho
        have ha4 := h4 a (List.mem_of_getElem? hA)
        refine ⟨_, _, tg_name, se_seq (se_asg ?_)⟩
        (repeat (first | with_reducible refine se_seq ?_ | with_reducible refine se_if ?_ | with_reducible refine se_ret ?_ | with_reducible refine ev_int ?_ | with_reducible refine ev_str ?_ | with_reducible refine ev_bl ?_ | with_reducible refine ev_non ?_ | with_reducible refine ev_ty ?_ | refine ev_var rfl ?_ | with_reducible refine ev_ofF (ef_op (r := rCat) ?_) | with_reducible refine ev_ofF (ef_lst ?_) | with_reducible refine ev_ofF (ef_sl ?_) | with_reducible refine ev_op ?_ | with_reducible refine ef_op ?_ | with_reducible refine ef_lst ?_ | with_reducible refine ef_sl ?_ | with_reducible refine ev_tup ?_ | with_reducible refine ev_chain ?_ | with_reducible refine ev_tupL ?_ | with_reducible refine ev_isi2 ?_ | with_reducible refine ev_cb ?_ | refine ⟨_, _, _, rfl, clean_nmL _, kit_ll, kit_lt, ?_⟩ | refine ⟨_, _, _, rfl, clean_nmT _, kit_tl, kit_tt, ?_⟩ | refine cb_isi (clean_arcD _) kit_tt ?_ | with_reducible refine ev_bm ?_ | with_reducible refine ea_cons ?_ | with_reducible refine ea_nil ?_ | with_reducible refine eo_none ?_ | with_reducible refine eo_some ?_ | with_reducible refine et_test ?_ | with_reducible refine et_B ?_ | with_reducible refine et_not ?_ | with_reducible refine et_and ?_ | with_reducible refine et_or ?_ | with_reducible refine et_yes ?_ | with_reducible refine ev_if ?_ | with_reducible refine ev_andV ?_ | with_reducible refine ev_orV ?_ | with_reducible refine ev_notV ?_ | with_reducible refine op_i0 ?_ | with_reducible refine op_b0 ?_ | with_reducible refine op_inC ?_ | with_reducible refine op_niC ?_ | with_reducible refine ⟨_, rfl, ?_⟩ | refine ⟨fun h => Bool.noConfusion h, fun _ => ?_⟩ | refine ⟨fun _ => ?_, fun h => Bool.noConfusion h⟩ | with_reducible refine se_next ?_ | refine ev_callP ?_ | refine ev_mI MC ?_ | refine ev_mO MC ?_ | refine ev_mA MC ?_ | refine ⟨_, _, _, rfl, ?_⟩ | refine op_eqI ?_ | refine op_neI ?_ | refine op_ixT (atI_nat (j := 0) rfl) ?_ | refine op_ixT (atI_nat (j := 1) rfl) ?_ | refine op_ixT (atI_nat (j := 2) rfl) ?_ | refine op_ixT (atI_nat (j := 3) rfl) ?_ | refine ⟨colds rfl, ?_⟩ | refine op_inN (.inl rfl) ?_ | refine op_inN (.inr rfl) ?_ | refine cb_isi rfl kit_ii ?_ | refine cb_isi rfl kit_ib ?_ | refine cb_isi rfl kit_ss ?_ | refine cb_len rfl ?_ | refine ⟨rfl, ?_⟩))
        refine op_ixT (atI_nat (j := o) (map_get hA)) ⟨rfl, ?_⟩
        (repeat (first | with_reducible refine se_seq ?_ | with_reducible refine se_if ?_ | with_reducible refine se_ret ?_ | with_reducible refine ev_int ?_ | with_reducible refine ev_str ?_ | with_reducible refine ev_bl ?_ | with_reducible refine ev_non ?_ | with_reducible refine ev_ty ?_ | refine ev_var rfl ?_ | with_reducible refine ev_ofF (ef_op (r := rCat) ?_) | with_reducible refine ev_ofF (ef_lst ?_) | with_reducible refine ev_ofF (ef_sl ?_) | with_reducible refine ev_op ?_ | with_reducible refine ef_op ?_ | with_reducible refine ef_lst ?_ | with_reducible refine ef_sl ?_ | with_reducible refine ev_tup ?_ | with_reducible refine ev_chain ?_ | with_reducible refine ev_tupL ?_ | with_reducible refine ev_isi2 ?_ | with_reducible refine ev_cb ?_ | refine ⟨_, _, _, rfl, clean_nmL _, kit_ll, kit_lt, ?_⟩ | refine ⟨_, _, _, rfl, clean_nmT _, kit_tl, kit_tt, ?_⟩ | refine cb_isi (clean_arcD _) kit_tt ?_ | with_reducible refine ev_bm ?_ | with_reducible refine ea_cons ?_ | with_reducible refine ea_nil ?_ | with_reducible refine eo_none ?_ | with_reducible refine eo_some ?_ | with_reducible refine et_test ?_ | with_reducible refine et_B ?_ | with_reducible refine et_not ?_ | with_reducible refine et_and ?_ | with_reducible refine et_or ?_ | with_reducible refine et_yes ?_ | with_reducible refine ev_if ?_ | with_reducible refine ev_andV ?_ | with_reducible refine ev_orV ?_ | with_reducible refine ev_notV ?_ | with_reducible refine op_i0 ?_ | with_reducible refine op_b0 ?_ | with_reducible refine op_inC ?_ | with_reducible refine op_niC ?_ | with_reducible refine ⟨_, rfl, ?_⟩ | refine ⟨fun h => Bool.noConfusion h, fun _ => ?_⟩ | refine ⟨fun _ => ?_, fun h => Bool.noConfusion h⟩ | with_reducible refine se_next ?_ | refine ev_callP ?_ | refine ev_mI MC ?_ | refine ev_mO MC ?_ | refine ev_mA MC ?_ | refine ⟨_, _, _, rfl, ?_⟩ | refine op_eqI ?_ | refine op_neI ?_ | refine op_ixT (atI_nat (j := 0) rfl) ?_ | refine op_ixT (atI_nat (j := 1) rfl) ?_ | refine op_ixT (atI_nat (j := 2) rfl) ?_ | refine op_ixT (atI_nat (j := 3) rfl) ?_ | refine ⟨colds rfl, ?_⟩ | refine op_inN (.inl rfl) ?_ | refine op_inN (.inr rfl) ?_ | refine cb_isi rfl kit_ii ?_ | refine cb_isi rfl kit_ib ?_ | refine cb_isi rfl kit_ss ?_ | refine cb_len rfl ?_ | refine ⟨rfl, ?_⟩))
        refine op_eqT ha4.2 mok ⟨_, rfl, fun h => ?_, fun h => ?_⟩
        · have hb : a.b = Bst.more ins arr n := of_decide_eq_true h
          have e : Bst.look A x (Bst.more ins arr n) = some a := by
            rw [look_filter]
            exact find_at hF (decide_eq_true hb) fun i' hi' c hc => decide_eq_false (hw i' hi' c hc)
          have eg : Bst.go A ins (x, arr) n = some ((a.t, []), a.f) := by
            unfold Bst.go
            rw [if_neg hn]
            dsimp only
            rw [e]
          rw [eg] at hk
          (repeat (first | with_reducible refine se_seq ?_ | with_reducible refine se_if ?_ | with_reducible refine se_ret ?_ | with_reducible refine ev_int ?_ | with_reducible refine ev_str ?_ | with_reducible refine ev_bl ?_ | with_reducible refine ev_non ?_ | with_reducible refine ev_ty ?_ | refine ev_var rfl ?_ | with_reducible refine ev_ofF (ef_op (r := rCat) ?_) | with_reducible refine ev_ofF (ef_lst ?_) | with_reducible refine ev_ofF (ef_sl ?_) | with_reducible refine ev_op ?_ | with_reducible refine ef_op ?_ | with_reducible refine ef_lst ?_ | with_reducible refine ef_sl ?_ | with_reducible refine ev_tup ?_ | with_reducible refine ev_chain ?_ | with_reducible refine ev_tupL ?_ | with_reducible refine ev_isi2 ?_ | with_reducible refine ev_cb ?_ | refine ⟨_, _, _, rfl, clean_nmL _, kit_ll, kit_lt, ?_⟩ | refine ⟨_, _, _, rfl, clean_nmT _, kit_tl, kit_tt, ?_⟩ | refine cb_isi (clean_arcD _) kit_tt ?_ | with_reducible refine ev_bm ?_ | with_reducible refine ea_cons ?_ | with_reducible refine ea_nil ?_ | with_reducible refine eo_none ?_ | with_reducible refine eo_some ?_ | with_reducible refine et_test ?_ | with_reducible refine et_B ?_ | with_reducible refine et_not ?_ | with_reducible refine et_and ?_ | with_reducible refine et_or ?_ | with_reducible refine et_yes ?_ | with_reducible refine ev_if ?_ | with_reducible refine ev_andV ?_ | with_reducible refine ev_orV ?_ | with_reducible refine ev_notV ?_ | with_reducible refine op_i0 ?_ | with_reducible refine op_b0 ?_ | with_reducible refine op_inC ?_ | with_reducible refine op_niC ?_ | with_reducible refine ⟨_, rfl, ?_⟩ | refine ⟨fun h => Bool.noConfusion h, fun _ => ?_⟩ | refine ⟨fun _ => ?_, fun h => Bool.noConfusion h⟩ | with_reducible refine se_next ?_ | refine ev_callP ?_ | refine ev_mI MC ?_ | refine ev_mO MC ?_ | refine ev_mA MC ?_ | refine ⟨_, _, _, rfl, ?_⟩ | refine op_eqI ?_ | refine op_neI ?_ | refine op_ixT (atI_nat (j := 0) rfl) ?_ | refine op_ixT (atI_nat (j := 1) rfl) ?_ | refine op_ixT (atI_nat (j := 2) rfl) ?_ | refine op_ixT (atI_nat (j := 3) rfl) ?_ | refine ⟨colds rfl, ?_⟩ | refine op_inN (.inl rfl) ?_ | refine op_inN (.inr rfl) ?_ | refine cb_isi rfl kit_ii ?_ | refine cb_isi rfl kit_ib ?_ | refine cb_isi rfl kit_ss ?_ | refine cb_len rfl ?_ | refine ⟨rfl, ?_⟩))
          refine ⟨[], rfl, by decide, ?_⟩
          (repeat (first | with_reducible refine se_seq ?_ | with_reducible refine se_if ?_ | with_reducible refine se_ret ?_ | with_reducible refine ev_int ?_ | with_reducible refine ev_str ?_ | with_reducible refine ev_bl ?_ | with_reducible refine ev_non ?_ | with_reducible refine ev_ty ?_ | refine ev_var rfl ?_ | with_reducible refine ev_ofF (ef_op (r := rCat) ?_) | with_reducible refine ev_ofF (ef_lst ?_) | with_reducible refine ev_ofF (ef_sl ?_) | with_reducible refine ev_op ?_ | with_reducible refine ef_op ?_ | with_reducible refine ef_lst ?_ | with_reducible refine ef_sl ?_ | with_reducible refine ev_tup ?_ | with_reducible refine ev_chain ?_ | with_reducible refine ev_tupL ?_ | with_reducible refine ev_isi2 ?_ | with_reducible refine ev_cb ?_ | refine ⟨_, _, _, rfl, clean_nmL _, kit_ll, kit_lt, ?_⟩ | refine ⟨_, _, _, rfl, clean_nmT _, kit_tl, kit_tt, ?_⟩ | refine cb_isi (clean_arcD _) kit_tt ?_ | with_reducible refine ev_bm ?_ | with_reducible refine ea_cons ?_ | with_reducible refine ea_nil ?_ | with_reducible refine eo_none ?_ | with_reducible refine eo_some ?_ | with_reducible refine et_test ?_ | with_reducible refine et_B ?_ | with_reducible refine et_not ?_ | with_reducible refine et_and ?_ | with_reducible refine et_or ?_ | with_reducible refine et_yes ?_ | with_reducible refine ev_if ?_ | with_reducible refine ev_andV ?_ | with_reducible refine ev_orV ?_ | with_reducible refine ev_notV ?_ | with_reducible refine op_i0 ?_ | with_reducible refine op_b0 ?_ | with_reducible refine op_inC ?_ | with_reducible refine op_niC ?_ | with_reducible refine ⟨_, rfl, ?_⟩ | refine ⟨fun h => Bool.noConfusion h, fun _ => ?_⟩ | refine ⟨fun _ => ?_, fun h => Bool.noConfusion h⟩ | with_reducible refine se_next ?_ | refine ev_callP ?_ | refine ev_mI MC ?_ | refine ev_mO MC ?_ | refine ev_mA MC ?_ | refine ⟨_, _, _, rfl, ?_⟩ | refine op_eqI ?_ | refine op_neI ?_ | refine op_ixT (atI_nat (j := 0) rfl) ?_ | refine op_ixT (atI_nat (j := 1) rfl) ?_ | refine op_ixT (atI_nat (j := 2) rfl) ?_ | refine op_ixT (atI_nat (j := 3) rfl) ?_ | refine ⟨colds rfl, ?_⟩ | refine op_inN (.inl rfl) ?_ | refine op_inN (.inr rfl) ?_ | refine cb_isi rfl kit_ii ?_ | refine cb_isi rfl kit_ib ?_ | refine cb_isi rfl kit_ss ?_ | refine cb_len rfl ?_ | refine ⟨rfl, ?_⟩))
          refine ⟨[.int (a.t : Int), .tuple []], rfl, by simp, ?_⟩
          (repeat (first | with_reducible refine se_seq ?_ | with_reducible refine se_if ?_ | with_reducible refine se_ret ?_ | with_reducible refine ev_int ?_ | with_reducible refine ev_str ?_ | with_reducible refine ev_bl ?_ | with_reducible refine ev_non ?_ | with_reducible refine ev_ty ?_ | refine ev_var rfl ?_ | with_reducible refine ev_ofF (ef_op (r := rCat) ?_) | with_reducible refine ev_ofF (ef_lst ?_) | with_reducible refine ev_ofF (ef_sl ?_) | with_reducible refine ev_op ?_ | with_reducible refine ef_op ?_ | with_reducible refine ef_lst ?_ | with_reducible refine ef_sl ?_ | with_reducible refine ev_tup ?_ | with_reducible refine ev_chain ?_ | with_reducible refine ev_tupL ?_ | with_reducible refine ev_isi2 ?_ | with_reducible refine ev_cb ?_ | refine ⟨_, _, _, rfl, clean_nmL _, kit_ll, kit_lt, ?_⟩ | refine ⟨_, _, _, rfl, clean_nmT _, kit_tl, kit_tt, ?_⟩ | refine cb_isi (clean_arcD _) kit_tt ?_ | with_reducible refine ev_bm ?_ | with_reducible refine ea_cons ?_ | with_reducible refine ea_nil ?_ | with_reducible refine eo_none ?_ | with_reducible refine eo_some ?_ | with_reducible refine et_test ?_ | with_reducible refine et_B ?_ | with_reducible refine et_not ?_ | with_reducible refine et_and ?_ | with_reducible refine et_or ?_ | with_reducible refine et_yes ?_ | with_reducible refine ev_if ?_ | with_reducible refine ev_andV ?_ | with_reducible refine ev_orV ?_ | with_reducible refine ev_notV ?_ | with_reducible refine op_i0 ?_ | with_reducible refine op_b0 ?_ | with_reducible refine op_inC ?_ | with_reducible refine op_niC ?_ | with_reducible refine ⟨_, rfl, ?_⟩ | refine ⟨fun h => Bool.noConfusion h, fun _ => ?_⟩ | refine ⟨fun _ => ?_, fun h => Bool.noConfusion h⟩ | with_reducible refine se_next ?_ | refine ev_callP ?_ | refine ev_mI MC ?_ | refine ev_mO MC ?_ | refine ev_mA MC ?_ | refine ⟨_, _, _, rfl, ?_⟩ | refine op_eqI ?_ | refine op_neI ?_ | refine op_ixT (atI_nat (j := 0) rfl) ?_ | refine op_ixT (atI_nat (j := 1) rfl) ?_ | refine op_ixT (atI_nat (j := 2) rfl) ?_ | refine op_ixT (atI_nat (j := 3) rfl) ?_ | refine ⟨colds rfl, ?_⟩ | refine op_inN (.inl rfl) ?_ | refine op_inN (.inr rfl) ?_ | refine cb_isi rfl kit_ii ?_ | refine cb_isi rfl kit_ib ?_ | refine cb_isi rfl kit_ss ?_ | refine cb_len rfl ?_ | refine ⟨rfl, ?_⟩))
          refine ⟨[.tuple [.int (a.t : Int), .tuple []], nmT a.f], rfl, by simp, rfl, hk⟩
        · have hb : a.b ≠ Bst.more ins arr n := of_decide_eq_false h
          refine se_next ⟨fun j hj a' ha' => ?_, _, _, _, rfl⟩
          rcases Nat.lt_or_ge j i with z | z
          · exact hw j z a' ha'
          · have : j = i := by omega
            subst this
            rw [hF] at ha'
            cases ha'
            exact hb
      · obtain ⟨hw, x6, x7, x8, rfl⟩ := hw
        have e : Bst.look A x (Bst.more ins arr n) = none := by
          rw [look_filter]
          refine find_no fun i hi c hc => decide_eq_false (hw i ?_ c hc)
          rw [List.length_map, idx_len]
          exact hi
        obtain ⟨F, hF⟩ : ∃ F, F = A.filter fun a => decide (a.s = x) := ⟨_, rfl⟩
        have hFl : F.length ≤ 16 := by
          rw [hF]
          exact Nat.le_trans (List.length_filter_le _ _) h1
        have any_eq : (F.map fun a => Bst.wth (Bst.more ins arr n) a.b).any id = A.any fun a => decide (a.s = x) && Bst.wth (Bst.more ins arr n) a.b := by
          rw [hF, List.any_map, List.any_filter]
          rfl
        refine se_seq (se_if (et_B (ev_cb (ea_cons (ev_ofF (ef_lc (fun i acc => acc = ((F.take i).map fun a => PyData.bool (Bst.wth (Bst.more ins arr n) a.b))) (ei_seq (ev_callP (ea_cons (ev_var rfl (ea_cons (ev_var rfl (ea_nil ⟨colds rfl, ins, outs, A, x, rfl, h1, ?_⟩)))))))))))))
        rw [← hF]
        refine ⟨_, .inl rfl, rfl, by simp; omega, fun i d acc hd ha => ?_, fun acc ha => ?_⟩
        · rw [List.map_map] at hd
          obtain ⟨a, hFa, rfl⟩ := at_map hd
          refine ⟨_, _, tg_name, by simp, et_yes ⟨fun _ => ev_callP (ea_cons (ev_var rfl (ea_cons (ev_var rfl (ea_nil ⟨colds rfl, _, _, rfl, by omega, _, rfl, ?_⟩))))), nofun⟩⟩
          rw [ha, take_snoc hFa, List.map_append]
          rfl
        · subst ha
          refine ea_nil (cb_any (bs := F.map fun a => Bst.wth (Bst.more ins arr n) a.b) ?_ ⟨_, rfl, fun h => ?_, fun h => ?_⟩)
          · show some _ = some _
            rw [List.take_of_length_le (by simp), List.map_map]
            rfl
          · rw [any_eq] at h
            have eg : Bst.go A ins (x, arr) n = some ((x, Bst.more ins arr n), []) := by
              unfold Bst.go
              rw [if_neg hn]
              dsimp only
              rw [e]
              dsimp only
              rw [if_pos h]
            rw [eg] at hk
            (repeat (first | with_reducible refine se_seq ?_ | with_reducible refine se_if ?_ | with_reducible refine se_ret ?_ | with_reducible refine ev_int ?_ | with_reducible refine ev_str ?_ | with_reducible refine ev_bl ?_ | with_reducible refine ev_non ?_ | with_reducible refine ev_ty ?_ | refine ev_var rfl ?_ | with_reducible refine ev_ofF (ef_op (r := rCat) ?_) | with_reducible refine ev_ofF (ef_lst ?_) | with_reducible refine ev_ofF (ef_sl ?_) | with_reducible refine ev_op ?_ | with_reducible refine ef_op ?_ | with_reducible refine ef_lst ?_ | with_reducible refine ef_sl ?_ | with_reducible refine ev_tup ?_ | with_reducible refine ev_chain ?_ | with_reducible refine ev_tupL ?_ | with_reducible refine ev_isi2 ?_ | with_reducible refine ev_cb ?_ | refine ⟨_, _, _, rfl, clean_nmL _, kit_ll, kit_lt, ?_⟩ | refine ⟨_, _, _, rfl, clean_nmT _, kit_tl, kit_tt, ?_⟩ | refine cb_isi (clean_arcD _) kit_tt ?_ | with_reducible refine ev_bm ?_ | with_reducible refine ea_cons ?_ | with_reducible refine ea_nil ?_ | with_reducible refine eo_none ?_ | with_reducible refine eo_some ?_ | with_reducible refine et_test ?_ | with_reducible refine et_B ?_ | with_reducible refine et_not ?_ | with_reducible refine et_and ?_ | with_reducible refine et_or ?_ | with_reducible refine et_yes ?_ | with_reducible refine ev_if ?_ | with_reducible refine ev_andV ?_ | with_reducible refine ev_orV ?_ | with_reducible refine ev_notV ?_ | with_reducible refine op_i0 ?_ | with_reducible refine op_b0 ?_ | with_reducible refine op_inC ?_ | with_reducible refine op_niC ?_ | with_reducible refine ⟨_, rfl, ?_⟩ | refine ⟨fun h => Bool.noConfusion h, fun _ => ?_⟩ | refine ⟨fun _ => ?_, fun h => Bool.noConfusion h⟩ | with_reducible refine se_next ?_ | refine ev_callP ?_ | refine ev_mI MC ?_ | refine ev_mO MC ?_ | refine ev_mA MC ?_ | refine ⟨_, _, _, rfl, ?_⟩ | refine op_eqI ?_ | refine op_neI ?_ | refine op_ixT (atI_nat (j := 0) rfl) ?_ | refine op_ixT (atI_nat (j := 1) rfl) ?_ | refine op_ixT (atI_nat (j := 2) rfl) ?_ | refine op_ixT (atI_nat (j := 3) rfl) ?_ | refine ⟨colds rfl, ?_⟩ | refine op_inN (.inl rfl) ?_ | refine op_inN (.inr rfl) ?_ | refine cb_isi rfl kit_ii ?_ | refine cb_isi rfl kit_ib ?_ | refine cb_isi rfl kit_ss ?_ | refine cb_len rfl ?_ | refine ⟨rfl, ?_⟩))
            refine ⟨[.int (x : Int), nmT (Bst.more ins arr n)], rfl, by simp, ?_⟩
            (repeat (first | with_reducible refine se_seq ?_ | with_reducible refine se_if ?_ | with_reducible refine se_ret ?_ | with_reducible refine ev_int ?_ | with_reducible refine ev_str ?_ | with_reducible refine ev_bl ?_ | with_reducible refine ev_non ?_ | with_reducible refine ev_ty ?_ | refine ev_var rfl ?_ | with_reducible refine ev_ofF (ef_op (r := rCat) ?_) | with_reducible refine ev_ofF (ef_lst ?_) | with_reducible refine ev_ofF (ef_sl ?_) | with_reducible refine ev_op ?_ | with_reducible refine ef_op ?_ | with_reducible refine ef_lst ?_ | with_reducible refine ef_sl ?_ | with_reducible refine ev_tup ?_ | with_reducible refine ev_chain ?_ | with_reducible refine ev_tupL ?_ | with_reducible refine ev_isi2 ?_ | with_reducible refine ev_cb ?_ | refine ⟨_, _, _, rfl, clean_nmL _, kit_ll, kit_lt, ?_⟩ | refine ⟨_, _, _, rfl, clean_nmT _, kit_tl, kit_tt, ?_⟩ | refine cb_isi (clean_arcD _) kit_tt ?_ | with_reducible refine ev_bm ?_ | with_reducible refine ea_cons ?_ | with_reducible refine ea_nil ?_ | with_reducible refine eo_none ?_ | with_reducible refine eo_some ?_ | with_reducible refine et_test ?_ | with_reducible refine et_B ?_ | with_reducible refine et_not ?_ | with_reducible refine et_and ?_ | with_reducible refine et_or ?_ | with_reducible refine et_yes ?_ | with_reducible refine ev_if ?_ | with_reducible refine ev_andV ?_ | with_reducible refine ev_orV ?_ | with_reducible refine ev_notV ?_ | with_reducible refine op_i0 ?_ | with_reducible refine op_b0 ?_ | with_reducible refine op_inC ?_ | with_reducible refine op_niC ?_ | with_reducible refine ⟨_, rfl, ?_⟩ | refine ⟨fun h => Bool.noConfusion h, fun _ => ?_⟩ | refine ⟨fun _ => ?_, fun h => Bool.noConfusion h⟩ | with_reducible refine se_next ?_ | refine ev_callP ?_ | refine ev_mI MC ?_ | refine ev_mO MC ?_ | refine ev_mA MC ?_ | refine ⟨_, _, _, rfl, ?_⟩ | refine op_eqI ?_ | refine op_neI ?_ | refine op_ixT (atI_nat (j := 0) rfl) ?_ | refine op_ixT (atI_nat (j := 1) rfl) ?_ | refine op_ixT (atI_nat (j := 2) rfl) ?_ | refine op_ixT (atI_nat (j := 3) rfl) ?_ | refine ⟨colds rfl, ?_⟩ | refine op_inN (.inl rfl) ?_ | refine op_inN (.inr rfl) ?_ | refine cb_isi rfl kit_ii ?_ | refine cb_isi rfl kit_ib ?_ | refine cb_isi rfl kit_ss ?_ | refine cb_len rfl ?_ | refine ⟨rfl, ?_⟩))
            refine ⟨[], rfl, by decide, ?_⟩
            (repeat (first | with_reducible refine se_seq ?_ | with_reducible refine se_if ?_ | with_reducible refine se_ret ?_ | with_reducible refine ev_int ?_ | with_reducible refine ev_str ?_ | with_reducible refine ev_bl ?_ | with_reducible refine ev_non ?_ | with_reducible refine ev_ty ?_ | refine ev_var rfl ?_ | with_reducible refine ev_ofF (ef_op (r := rCat) ?_) | with_reducible refine ev_ofF (ef_lst ?_) | with_reducible refine ev_ofF (ef_sl ?_) | with_reducible refine ev_op ?_ | with_reducible refine ef_op ?_ | with_reducible refine ef_lst ?_ | with_reducible refine ef_sl ?_ | with_reducible refine ev_tup ?_ | with_reducible refine ev_chain ?_ | with_reducible refine ev_tupL ?_ | with_reducible refine ev_isi2 ?_ | with_reducible refine ev_cb ?_ | refine ⟨_, _, _, rfl, clean_nmL _, kit_ll, kit_lt, ?_⟩ | refine ⟨_, _, _, rfl, clean_nmT _, kit_tl, kit_tt, ?_⟩ | refine cb_isi (clean_arcD _) kit_tt ?_ | with_reducible refine ev_bm ?_ | with_reducible refine ea_cons ?_ | with_reducible refine ea_nil ?_ | with_reducible refine eo_none ?_ | with_reducible refine eo_some ?_ | with_reducible refine et_test ?_ | with_reducible refine et_B ?_ | with_reducible refine et_not ?_ | with_reducible refine et_and ?_ | with_reducible refine et_or ?_ | with_reducible refine et_yes ?_ | with_reducible refine ev_if ?_ | with_reducible refine ev_andV ?_ | with_reducible refine ev_orV ?_ | with_reducible refine ev_notV ?_ | with_reducible refine op_i0 ?_ | with_reducible refine op_b0 ?_ | with_reducible refine op_inC ?_ | with_reducible refine op_niC ?_ | with_reducible refine ⟨_, rfl, ?_⟩ | refine ⟨fun h => Bool.noConfusion h, fun _ => ?_⟩ | refine ⟨fun _ => ?_, fun h => Bool.noConfusion h⟩ | with_reducible refine se_next ?_ | refine ev_callP ?_ | refine ev_mI MC ?_ | refine ev_mO MC ?_ | refine ev_mA MC ?_ | refine ⟨_, _, _, rfl, ?_⟩ | refine op_eqI ?_ | refine op_neI ?_ | refine op_ixT (atI_nat (j := 0) rfl) ?_ | refine op_ixT (atI_nat (j := 1) rfl) ?_ | refine op_ixT (atI_nat (j := 2) rfl) ?_ | refine op_ixT (atI_nat (j := 3) rfl) ?_ | refine ⟨colds rfl, ?_⟩ | refine op_inN (.inl rfl) ?_ | refine op_inN (.inr rfl) ?_ | refine cb_isi rfl kit_ii ?_ | refine cb_isi rfl kit_ib ?_ | refine cb_isi rfl kit_ss ?_ | refine cb_len rfl ?_ | refine ⟨rfl, ?_⟩))
            refine ⟨[stdD x (Bst.more ins arr n), .tuple []], rfl, by simp, rfl, hk⟩
          · rw [any_eq] at h
            have eg : Bst.go A ins (x, arr) n = none := by
              unfold Bst.go
              rw [if_neg hn]
              dsimp only
              rw [e]
              dsimp only
              rw [if_neg (by rw [h]; decide)]
            rw [eg] at hk
            exact se_next (se_ret (ev_non ⟨rfl, hk⟩))
abbrev s_follow : Stmt := topS 30
theorem sc_follow : FnScope ["machine", "names", "name", "standing", "found", "at", "answer", "flips"] ["machine", "names"] (defScope s_follow) := ⟨rfl, rfl, rfl, by decide +kernel, rfl, by decide +kernel, by decide +kernel⟩
-- slots: 0 machine, 1 names, 2 name, 3 standing, 4 found, 5 at, 6 answer, 7 flips; calls: need_sound, fed; constants: 
theorem ok_follow {f : Addr} {fd : FuncData} {q : Str} (F : Fun K "follow" q s_follow f fd) (B : Bt mg) (C_need_sound : Cal P w K mg base 4 "need_sound" ["machine"] (spD (preFault C))) (C_fed : Cal P w K mg base 3 "fed" ["machine", "standing", "name"] (spD (preFed C))) (MC : Mc K C) : FnOk P w K mg base CX0 5 f fd ["machine", "names"] (spD (preFollow C)) := by
  obtain ⟨f_need_sound, fd_need_sound, G_need_sound, m_need_sound, k_need_sound, b_need_sound⟩ := C_need_sound.ex
  obtain ⟨f_fed, fd_fed, G_fed, m_fed, k_fed, b_fed⟩ := C_fed.ex
  refine F.ok sc_follow (fun vs H Q E h => ?_) (fun cdv A outer s H vs Q E hr h => ?_)
  · obtain ⟨T, h⟩ := h
    exact spT_len (fun as k kf hp => by obtain ⟨_, _, _, _, _, rfl, _⟩ := hp; rfl) h
  · obtain ⟨T, h⟩ := h
    have hu := hu_of hr
    have r_need_sound := hr.mono (show 4 ≤ 4 by decide)
    have r_fed := hr.mono (show 3 ≤ 4 by decide)
    refine ⟨_, (pss_cons (ps_expr (pe_call G_need_sound r_need_sound (by rfl) m_need_sound k_need_sound b_need_sound .nil pass0 (pa_cons (pv 0) pa_nil)))
      (pss_cons (ps_if (pt_not (pt_val (pe_callB (k_isiT K rfl) (by rfl) B.isinstance_ boot_isinstance (pa_cons (pv 1) (pa_cons (pe_tup (pa_cons (pe_bltn (v := .ty "list") (by rfl) B.list_ boot_list rfl) (pa_cons (pe_bltn (v := .ty "tuple") (by rfl) B.tuple_ boot_tuple rfl) pa_nil))) pa_nil))))) (pss_one ps_never) pss_nil)
      (pss_cons (ps_for PassesOwn.never rfl (k_seq K rfl (pv 1)) (pg_name (i := 2) sc_follow.nd rfl (.inl rfl))
      (pss_one (ps_if (pw_or (pt_not (pt_val (pe_callB (k_isi K rfl) (by rfl) B.isinstance_ boot_isinstance (pa_cons (pv 2) (pa_cons (pe_bltn (v := .ty "str") (by rfl) B.str_ boot_str rfl) pa_nil))))) (pw_or1 (pt_cmpR (k_notIn K rfl) (pv 2) (k_fld K rfl (pv 0)) (by with_unfolding_all rfl)))).pt (pss_one ps_never) pss_nil)))
      (pss_cons (ps_set (i := 3) sc_follow.nd rfl (.inl rfl) (pe_tup (pa_cons pe_int (pa_cons (pe_tup pa_nil) pa_nil))))
      (pss_cons (ps_set (i := 4) sc_follow.nd rfl (.inl rfl) (pe_lst pa_nil))
      (pss_cons (ps_for PassesOwn.never rfl (k_enum K rfl rfl B.enumerate_ (pa_cons (pv 1) pa_nil)) (k_pgTup K rfl (n := 2) rfl (pgs_cons (pg_name (i := 5) sc_follow.nd rfl (.inl rfl)) (pgs_cons (pg_name (i := 2) sc_follow.nd rfl (.inl rfl)) pgs_nil)))
      (pss_cons (ps_set (i := 6) sc_follow.nd rfl (.inl rfl) (pe_call G_fed r_fed (by rfl) m_fed k_fed b_fed .nil pass0 (pa_cons (pv 0) (pa_cons (pv 3) (pa_cons (pv 2) pa_nil)))))
      (pss_cons (ps_if (pt_cmpR op_isN (pv 6) pe_non (nomark _)) (pss_one ps_never) pss_nil)
      (pss_cons (ps_asg (pv 6) (k_pgTup K rfl (n := 2) rfl (pgs_cons (pg_name (i := 3) sc_follow.nd rfl (.inl rfl)) (pgs_cons (pg_name (i := 7) sc_follow.nd rfl (.inl rfl)) pgs_nil))))
      (pss_one (ps_expr (k_bm K rfl PySem.F.plainAttrs_list PySem.F.slot_list_append PySem.F.type_list_append mt_append (pv 4) (pa_cons (pv 7) pa_nil))))))))
      (pss_one (ps_ret (pv 4))))))))), body h fun g as k kf hT hst hp => ?_⟩
    obtain ⟨ins, outs, A, ns, v, rfl, h1, h2, h3, h4, h5, h6, hk⟩ := hp
    refine se_seq (se_drop ?_)
    (repeat (first | with_reducible refine se_seq ?_ | with_reducible refine se_if ?_ | with_reducible refine se_ret ?_ | with_reducible refine ev_int ?_ | with_reducible refine ev_str ?_ | with_reducible refine ev_bl ?_ | with_reducible refine ev_non ?_ | with_reducible refine ev_ty ?_ | refine ev_var rfl ?_ | with_reducible refine ev_ofF (ef_op (r := rCat) ?_) | with_reducible refine ev_ofF (ef_lst ?_) | with_reducible refine ev_ofF (ef_sl ?_) | with_reducible refine ev_op ?_ | with_reducible refine ef_op ?_ | with_reducible refine ef_lst ?_ | with_reducible refine ef_sl ?_ | with_reducible refine ev_tup ?_ | with_reducible refine ev_chain ?_ | with_reducible refine ev_tupL ?_ | with_reducible refine ev_isi2 ?_ | with_reducible refine ev_cb ?_ | refine ⟨_, _, _, rfl, clean_nmL _, kit_ll, kit_lt, ?_⟩ | refine ⟨_, _, _, rfl, clean_nmT _, kit_tl, kit_tt, ?_⟩ | refine cb_isi (clean_arcD _) kit_tt ?_ | with_reducible refine ev_bm ?_ | with_reducible refine ea_cons ?_ | with_reducible refine ea_nil ?_ | with_reducible refine eo_none ?_ | with_reducible refine eo_some ?_ | with_reducible refine et_test ?_ | with_reducible refine et_B ?_ | with_reducible refine et_not ?_ | with_reducible refine et_and ?_ | with_reducible refine et_or ?_ | with_reducible refine et_yes ?_ | with_reducible refine ev_if ?_ | with_reducible refine ev_andV ?_ | with_reducible refine ev_orV ?_ | with_reducible refine ev_notV ?_ | with_reducible refine op_i0 ?_ | with_reducible refine op_b0 ?_ | with_reducible refine op_inC ?_ | with_reducible refine op_niC ?_ | with_reducible refine ⟨_, rfl, ?_⟩ | refine ⟨fun h => Bool.noConfusion h, fun _ => ?_⟩ | refine ⟨fun _ => ?_, fun h => Bool.noConfusion h⟩ | with_reducible refine se_next ?_ | refine ev_callP ?_ | refine ev_mI MC ?_ | refine ev_mO MC ?_ | refine ev_mA MC ?_ | refine ⟨_, _, _, rfl, ?_⟩ | refine op_eqI ?_ | refine op_neI ?_ | refine op_ixT (atI_nat (j := 0) rfl) ?_ | refine op_ixT (atI_nat (j := 1) rfl) ?_ | refine op_ixT (atI_nat (j := 2) rfl) ?_ | refine op_ixT (atI_nat (j := 3) rfl) ?_ | refine ⟨colds rfl, ?_⟩ | refine op_inN (.inl rfl) ?_ | refine op_inN (.inr rfl) ?_ | refine cb_isi rfl kit_ii ?_ | refine cb_isi rfl kit_ib ?_ | refine cb_isi rfl kit_ss ?_ | refine cb_len rfl ?_ | refine ⟨rfl, ?_⟩))
    refine ⟨h1.1, h2, h3, ?_⟩
    (repeat (first | with_reducible refine se_seq ?_ | with_reducible refine se_if ?_ | with_reducible refine se_ret ?_ | with_reducible refine ev_int ?_ | with_reducible refine ev_str ?_ | with_reducible refine ev_bl ?_ | with_reducible refine ev_non ?_ | with_reducible refine ev_ty ?_ | refine ev_var rfl ?_ | with_reducible refine ev_ofF (ef_op (r := rCat) ?_) | with_reducible refine ev_ofF (ef_lst ?_) | with_reducible refine ev_ofF (ef_sl ?_) | with_reducible refine ev_op ?_ | with_reducible refine ef_op ?_ | with_reducible refine ef_lst ?_ | with_reducible refine ef_sl ?_ | with_reducible refine ev_tup ?_ | with_reducible refine ev_chain ?_ | with_reducible refine ev_tupL ?_ | with_reducible refine ev_isi2 ?_ | with_reducible refine ev_cb ?_ | refine ⟨_, _, _, rfl, clean_nmL _, kit_ll, kit_lt, ?_⟩ | refine ⟨_, _, _, rfl, clean_nmT _, kit_tl, kit_tt, ?_⟩ | refine cb_isi (clean_arcD _) kit_tt ?_ | with_reducible refine ev_bm ?_ | with_reducible refine ea_cons ?_ | with_reducible refine ea_nil ?_ | with_reducible refine eo_none ?_ | with_reducible refine eo_some ?_ | with_reducible refine et_test ?_ | with_reducible refine et_B ?_ | with_reducible refine et_not ?_ | with_reducible refine et_and ?_ | with_reducible refine et_or ?_ | with_reducible refine et_yes ?_ | with_reducible refine ev_if ?_ | with_reducible refine ev_andV ?_ | with_reducible refine ev_orV ?_ | with_reducible refine ev_notV ?_ | with_reducible refine op_i0 ?_ | with_reducible refine op_b0 ?_ | with_reducible refine op_inC ?_ | with_reducible refine op_niC ?_ | with_reducible refine ⟨_, rfl, ?_⟩ | refine ⟨fun h => Bool.noConfusion h, fun _ => ?_⟩ | refine ⟨fun _ => ?_, fun h => Bool.noConfusion h⟩ | with_reducible refine se_next ?_ | refine ev_callP ?_ | refine ev_mI MC ?_ | refine ev_mO MC ?_ | refine ev_mA MC ?_ | refine ⟨_, _, _, rfl, ?_⟩ | refine op_eqI ?_ | refine op_neI ?_ | refine op_ixT (atI_nat (j := 0) rfl) ?_ | refine op_ixT (atI_nat (j := 1) rfl) ?_ | refine op_ixT (atI_nat (j := 2) rfl) ?_ | refine op_ixT (atI_nat (j := 3) rfl) ?_ | refine ⟨colds rfl, ?_⟩ | refine op_inN (.inl rfl) ?_ | refine op_inN (.inr rfl) ?_ | refine cb_isi rfl kit_ii ?_ | refine cb_isi rfl kit_ib ?_ | refine cb_isi rfl kit_ss ?_ | refine cb_len rfl ?_ | refine ⟨rfl, ?_⟩))
    refine se_for (fun i c' => ∃ x2, c' = [some (machV C ins outs A), some (.da (nmL ns)), x2, none, none, none, none, none]) (ei_seq (ev_var rfl ⟨_, .inl rfl, ⟨none, by simp [ctx0, List.replicate]⟩, fun i d c' hd hw => ?_, fun c' hw => ?_⟩))
    · obtain ⟨x2, rfl⟩ := hw
      obtain ⟨n, hn, rfl⟩ := at_map hd
      refine ⟨_, _, tg_name, ?_⟩
      (repeat (first | with_reducible refine se_seq ?_ | with_reducible refine se_if ?_ | with_reducible refine se_ret ?_ | with_reducible refine ev_int ?_ | with_reducible refine ev_str ?_ | with_reducible refine ev_bl ?_ | with_reducible refine ev_non ?_ | with_reducible refine ev_ty ?_ | refine ev_var rfl ?_ | with_reducible refine ev_ofF (ef_op (r := rCat) ?_) | with_reducible refine ev_ofF (ef_lst ?_) | with_reducible refine ev_ofF (ef_sl ?_) | with_reducible refine ev_op ?_ | with_reducible refine ef_op ?_ | with_reducible refine ef_lst ?_ | with_reducible refine ef_sl ?_ | with_reducible refine ev_tup ?_ | with_reducible refine ev_chain ?_ | with_reducible refine ev_tupL ?_ | with_reducible refine ev_isi2 ?_ | with_reducible refine ev_cb ?_ | refine ⟨_, _, _, rfl, clean_nmL _, kit_ll, kit_lt, ?_⟩ | refine ⟨_, _, _, rfl, clean_nmT _, kit_tl, kit_tt, ?_⟩ | refine cb_isi (clean_arcD _) kit_tt ?_ | with_reducible refine ev_bm ?_ | with_reducible refine ea_cons ?_ | with_reducible refine ea_nil ?_ | with_reducible refine eo_none ?_ | with_reducible refine eo_some ?_ | with_reducible refine et_test ?_ | with_reducible refine et_B ?_ | with_reducible refine et_not ?_ | with_reducible refine et_and ?_ | with_reducible refine et_or ?_ | with_reducible refine et_yes ?_ | with_reducible refine ev_if ?_ | with_reducible refine ev_andV ?_ | with_reducible refine ev_orV ?_ | with_reducible refine ev_notV ?_ | with_reducible refine op_i0 ?_ | with_reducible refine op_b0 ?_ | with_reducible refine op_inC ?_ | with_reducible refine op_niC ?_ | with_reducible refine ⟨_, rfl, ?_⟩ | refine ⟨fun h => Bool.noConfusion h, fun _ => ?_⟩ | refine ⟨fun _ => ?_, fun h => Bool.noConfusion h⟩ | with_reducible refine se_next ?_ | refine ev_callP ?_ | refine ev_mI MC ?_ | refine ev_mO MC ?_ | refine ev_mA MC ?_ | refine ⟨_, _, _, rfl, ?_⟩ | refine op_eqI ?_ | refine op_neI ?_ | refine op_ixT (atI_nat (j := 0) rfl) ?_ | refine op_ixT (atI_nat (j := 1) rfl) ?_ | refine op_ixT (atI_nat (j := 2) rfl) ?_ | refine op_ixT (atI_nat (j := 3) rfl) ?_ | refine ⟨colds rfl, ?_⟩ | refine op_inN (.inl rfl) ?_ | refine op_inN (.inr rfl) ?_ | refine cb_isi rfl kit_ii ?_ | refine cb_isi rfl kit_ib ?_ | refine cb_isi rfl kit_ss ?_ | refine cb_len rfl ?_ | refine ⟨rfl, ?_⟩))
      refine op_inF ⟨_, rfl, fun h => absurd h ?_, fun _ => se_next ⟨_, rfl⟩⟩
      simp [h5 n (List.mem_of_getElem? hn)]
    · obtain ⟨x2, rfl⟩ := hw
      refine se_seq (se_asg (ev_tup (ea_cons (ev_int (ea_cons (ev_tup (ea_nil ⟨[], rfl, by decide, ?_⟩)) )))))
      refine ea_nil ⟨[.int 0, .tuple []], rfl, by decide, rfl, ?_⟩
      refine se_seq (se_asgF (ef_lst (ea_nil ⟨[], rfl, by decide, ?_⟩)))
      refine se_seq (se_for (fun i c' => ∃ x arr fs rest x2 x5 x6 x7, arr.length ≤ 3 ∧ Bst.feeds A ins (x, arr) (ns.drop i) = some rest ∧ v = fs ++ rest ∧ fs.length = i ∧ c' = [some (machV C ins outs A), some (.da (nmL ns)), x2, some (.da (stdD x arr)), some (.ac (fs.map nmT)), x5, x6, x7]) (ei_enum (ea_cons (ev_var rfl (ea_nil ⟨_, rfl, ⟨0, [], [], v, x2, none, none, none, by simp, h6, rfl, rfl, by simp [stdD, nmT]⟩, fun i d c' hd hw => ?_, fun c' hw => ?_⟩)))))
      · obtain ⟨x, arr, fs, rest, x2, x5, x6, x7, q1, q2, q3, q4, rfl⟩ := hw
        obtain ⟨d', hd', rfl⟩ := enumD_get hd
        obtain ⟨n, hn, rfl⟩ := at_map hd'
        have hil := (List.getElem?_eq_some_iff.mp hn).1
        have hdr : ns.drop i = n :: ns.drop (i + 1) := by
          rw [List.drop_eq_getElem_cons hil]
          rw [(List.getElem?_eq_some_iff.mp hn).2]
        rw [hdr] at q2
        rw [Bst.feeds] at q2
        cases hg : Bst.go A ins (x, arr) n with
        | none =>
          rw [hg] at q2
          cases q2
        | some r =>
          obtain ⟨⟨x', arr'⟩, f⟩ := r
          rw [hg] at q2
          cases hf : Bst.feeds A ins (x', arr') (ns.drop (i + 1)) with
          | none =>
            dsimp only at q2
            rw [hf] at q2
            cases q2
          | some rest' =>
            dsimp only at q2
            rw [hf] at q2
            have e3 : rest = f :: rest' := (Option.some.inj q2).symm
            have ha' : arr'.length ≤ 3 := by
              unfold Bst.go at hg
              by_cases hm : n ∈ arr
              · rw [if_pos hm] at hg
                cases hg
              · rw [if_neg hm] at hg
                split at hg
                · cases hg
                  simp
                · split at hg
                  · cases hg
                    exact Nat.le_trans (List.length_filter_le _ _) h1.1
                  · cases hg
            refine ⟨_, _, tg_tup rfl (tgs_cons tg_name (tgs_cons tg_name tgs_nil)), se_seq (se_asg (ev_callP (ea_cons (ev_var rfl (ea_cons (ev_var rfl (ea_cons (ev_var rfl (ea_nil ⟨colds rfl, ins, outs, A, x, arr, n, rfl, h3.few, h1, q1, ?_, ?_⟩)))))))))⟩
            · intro a ha
              have hs := (h3.ib a ha).2
              exact ⟨Nat.le_trans hs.length_le h1.1, fun m hm => h1.2 m (hs.subset hm)⟩
            · rw [hg]
              refine ⟨rfl, se_seq (se_if (et_test (ev_op (ev_var rfl (ev_non (op_isN ?_ ⟨_, rfl, nofun, fun _ => se_next ?_⟩))))))⟩
              · have e1 := clean_nmT arr'
                have e2 := clean_nmT f
                simp [datOf, stepD, stdD, clean, cleanA, e1, e2]
              refine se_seq (se_asgT (ev_var rfl ⟨_, _, _, rfl, tg_tup rfl (tgs_cons tg_name (tgs_cons tg_name tgs_nil)), ?_⟩))
              refine se_app rfl (ev_var rfl ⟨_, rfl, ?_, x', arr', fs ++ [f], rest', some (.da (.str n)), some (.da (.int (i : Int))), some (.da (stepD (some ((x', arr'), f)))), some (.da (nmT f)), ha', hf, ?_, ?_, ?_⟩)
              · simp
                omega
              · rw [q3, e3]
                simp
              · simp [q4]
              · simp
      · obtain ⟨x, arr, fs, rest, x2, x5, x6, x7, q1, q2, q3, q4, rfl⟩ := hw
        have e : ns.drop (enumD (ns.map PyData.str)).length = [] := by simp [enumD]
        rw [e] at q2
        have e2 : rest = [] := (Option.some.inj (show some [] = some rest from q2)).symm
        subst e2
        rw [List.append_nil] at q3
        subst q3
        exact se_retAc rfl hk
/-! ### positions -/
abbrev s_positions : Stmt := topS 32
theorem sc_positions : FnScope ["machine", "burst", "name"] ["machine", "burst"] (defScope s_positions) := ⟨rfl, rfl, rfl, by decide +kernel, rfl, by decide +kernel, by decide +kernel⟩
-- slots: 0 machine, 1 burst, 2 name; calls: ; constants: 
theorem ok_positions {f : Addr} {fd : FuncData} {q : Str} (F : Fun K "positions" q s_positions f fd) (B : Bt mg) (MC : Mc K C) : FnOk P w K mg base CX0 1 f fd ["machine", "burst"] (spD (prePos C)) := by
  refine F.ok sc_positions (fun vs H Q E h => ?_) (fun cdv A outer s H vs Q E hr h => ?_)
  · obtain ⟨T, h⟩ := h
    exact spT_len (fun as k kf hp => by obtain ⟨_, _, _, _, rfl, _⟩ := hp; rfl) h
  · obtain ⟨T, h⟩ := h
    have hu := hu_of hr
    refine ⟨_, (pss_one (ps_ret (k_tupleOf K rfl (by rfl) B.tuple_ (pe_lc (own := [("name", 2)]) rfl sc_positions.nd (k_seq K rfl (pv 1)) (blkOk_by (N := ["machine", "burst", "name"]) (sc := defScope s_positions) (by decide +kernel)) (fun _ _ _ _ _ => (pg_name (i := 2) sc_positions.nd rfl (.inl rfl))) (fun _ _ _ _ _ => pts_nil) (fun _ _ _ _ _ => (k_tupIdx K rfl (k_fld K rfl (pv 0)) (pv 2))))))), body h fun g as k kf hT hst hp => ?_⟩
    obtain ⟨ins, outs, A, b, rfl, h1, h2, h3, hk⟩ := hp
    refine se_ret (ev_tupL (x := .da .none) (ev_ofF (ef_lc (fun i acc => acc = (b.take i).map fun n => PyData.int ((ins.idxOf n : Nat) : Int)) (ei_seq (ev_var rfl ⟨_, .inr rfl, rfl, by simp; omega, fun i d acc hd ha => ?_, fun acc ha => ?_⟩)))))
    · obtain ⟨n, hn, rfl⟩ := at_map hd
      refine ⟨_, _, tg_name, by simp, et_yes ⟨fun _ => ev_tupIdx (ev_mI MC (ev_var rfl ⟨_, _, _, rfl, _, rfl, ev_var rfl ⟨n, rfl, h3 n (List.mem_of_getElem? hn), _, rfl, ?_⟩⟩)), nofun⟩⟩
      rw [ha, take_snoc hn, List.map_append]
      rfl
    · subst ha
      refine ⟨_, rfl, rfl, ?_⟩
      rw [List.take_of_length_le (by simp)]
      unfold intsT at hk
      rw [List.map_map] at hk
      exact hk
end
end Bw

namespace Bw
open PySem PySem.Spec PyProof.Rows L2 Bd
section
variable {P : Program} {w : World} {K : PySem.W.Frag} {mg : Str → Option Value} {base : Heap} {C : Addr}

abbrev s_l_within : Stmt := topS 41
theorem sc_l_within : FnScope ["_law_some", "_law_burst", "_law_name_here"] ["_law_some", "_law_burst"] (defScope s_l_within) := ⟨rfl, rfl, rfl, by decide +kernel, rfl, by decide +kernel, by decide +kernel⟩
-- slots: 0 _law_some, 1 _law_burst, 2 _law_name_here; calls: ; constants: 
theorem ok_l_within {f : Addr} {fd : FuncData} {q : Str} (F : Fun K "_law_within" q s_l_within f fd) (B : Bt mg) : FnOk P w K mg base CX0 1 f fd ["_law_some", "_law_burst"] (spD preWithin) := by
  refine F.ok sc_l_within (fun vs H Q E h => ?_) (fun cdv A outer s H vs Q E hr h => ?_)
  · obtain ⟨T, h⟩ := h
    exact spT_len (fun as k kf hp => by obtain ⟨_, _, rfl, _⟩ := hp; rfl) h
  · obtain ⟨T, h⟩ := h
    have hu := hu_of hr
    refine ⟨_, (pss_one (ps_ret (pe_callB (k_all K rfl rfl) (by rfl) B.all_ boot_all (pa_cons (pe_lc (own := [("_law_name_here", 2)]) rfl sc_l_within.nd (k_seq K rfl (pv 0)) (blkOk_by (N := ["_law_some", "_law_burst", "_law_name_here"]) (sc := defScope s_l_within) (by decide +kernel)) (fun _ _ _ _ _ => (pg_name (i := 2) sc_l_within.nd rfl (.inl rfl))) (fun _ _ _ _ _ => pts_nil) (fun _ _ _ _ _ => (pe_cmpR (k_in K rfl) (pv 2) (pv 1) (by with_unfolding_all rfl)))) pa_nil)))), body h fun g as k kf hT hst hp => ?_⟩
    obtain ⟨xs, ys, rfl, h1, hk⟩ := hp
    refine se_ret (ev_allin (by simp [ctx0]) (by omega) (ev_var rfl rfl) (fun x => ev_var rfl rfl) ⟨rfl, hk⟩)
abbrev s_l_differ : Stmt := topS 43
theorem sc_l_differ : FnScope ["_law_left", "_law_right", "_law_names_here", "_law_at", "_law_name_here"] ["_law_left", "_law_right", "_law_names_here"] (defScope s_l_differ) := ⟨rfl, rfl, rfl, by decide +kernel, rfl, by decide +kernel, by decide +kernel⟩
-- slots: 0 _law_left, 1 _law_right, 2 _law_names_here, 3 _law_at, 4 _law_name_here; calls: ; constants: 
theorem ok_l_differ {f : Addr} {fd : FuncData} {q : Str} (F : Fun K "_law_differ" q s_l_differ f fd) (B : Bt mg) : FnOk P w K mg base CX0 1 f fd ["_law_left", "_law_right", "_law_names_here"] (spD preDiffer) := by
  refine F.ok sc_l_differ (fun vs H Q E h => ?_) (fun cdv A outer s H vs Q E hr h => ?_)
  · obtain ⟨T, h⟩ := h
    exact spT_len (fun as k kf hp => by obtain ⟨_, _, _, rfl, _⟩ := hp; rfl) h
  · obtain ⟨T, h⟩ := h
    have hu := hu_of hr
    refine ⟨_, (pss_one (ps_ret (k_tupleOf K rfl (by rfl) B.tuple_ (pe_lc (own := [("_law_at", 3), ("_law_name_here", 4)]) rfl sc_l_differ.nd (k_enum K rfl rfl B.enumerate_ (pa_cons (pv 2) pa_nil)) (blkOk_by (N := ["_law_left", "_law_right", "_law_names_here", "_law_at", "_law_name_here"]) (sc := defScope s_l_differ) (by decide +kernel)) (fun _ _ _ _ _ => (k_pgTup K rfl (n := 2) rfl (pgs_cons (pg_name (i := 3) sc_l_differ.nd rfl (.inl rfl)) (pgs_cons (pg_name (i := 4) sc_l_differ.nd rfl (.inl rfl)) pgs_nil)))) (fun _ _ _ _ _ => pts_one (pt_cmpR (k_neD K rfl (hu64 hr)) (pe_ix ix_str (pv 0) (pv 3) (fun _ _ => rfl)) (pe_ix ix_str (pv 1) (pv 3) (fun _ _ => rfl)) (nomark _))) (fun _ _ _ _ _ => (pv 4)))))), body h fun g as k kf hT hst hp => ?_⟩
    obtain ⟨l, r, ns, rfl, ⟨l1, l2⟩, ⟨r1, r2⟩, hn, hk⟩ := hp
    refine se_ret (ev_tupL (x := .da .none) (ev_ofF (ef_lc (fun i acc => acc = ((ns.zipIdx.take i).filter fun p => decide (l.cps.toList[p.2]? ≠ r.cps.toList[p.2]?)).map fun p => PyData.str p.1) (ei_enum (ea_cons (ev_var rfl (ea_nil ⟨_, rfl, rfl, by simp [enumD]; omega, fun i d acc hd ha => ?_, fun acc ha => ?_⟩)))))))
    · obtain ⟨d', hd', rfl⟩ := enumD_get hd
      obtain ⟨n, hn', rfl⟩ := at_map hd'
      have hil := (List.getElem?_eq_some_iff.mp hn').1
      have ll : l.cps.toList.length = ns.length := by rw [← l1]; simp [Str.length]
      have rl : r.cps.toList.length = ns.length := by rw [← r1]; simp [Str.length]
      obtain ⟨cl, hcl⟩ : ∃ cl, l.cps.toList[i]? = some cl := ⟨_, List.getElem?_eq_getElem (by omega)⟩
      obtain ⟨cr, hcr⟩ : ∃ cr, r.cps.toList[i]? = some cr := ⟨_, List.getElem?_eq_getElem (by omega)⟩
      have okl := l2 cl (List.mem_of_getElem? hcl)
      have okr := r2 cr (List.mem_of_getElem? hcr)
      refine ⟨_, _, tg_tup rfl (tgs_cons tg_name (tgs_cons tg_name tgs_nil)), by simp, et_test <| ev_op <| ev_op <| ev_var rfl <| ev_var rfl <| op_ixS (by omega) (atI_nat (j := i) hcl) <| ev_op <| ev_var rfl <| ev_var rfl <| op_ixS (by omega) (atI_nat (j := i) hcr) <| op_neS (strOk1 ?_) (strOk1 ?_) <| ⟨_, rfl, fun h => ?_, fun h => ?_⟩⟩
      · rcases okl with rfl | rfl <;> decide
      · rcases okr with rfl | rfl <;> decide
      · have h2 : ¬ cl = cr := by
          simpa [str1] using h
        refine ev_var rfl ⟨_, rfl, ?_⟩
        have e1 : l.cps[i]? = some cl := by simpa using hcl
        have e2 : r.cps[i]? = some cr := by simpa using hcr
        rw [ha, take_snoc (zipIdx_get hn'), List.filter_append, List.map_append]
        simp [e1, e2, h2]
      · have h2 : cl = cr := by
          simpa [str1] using h
        have e1 : l.cps[i]? = some cl := by simpa using hcl
        have e2 : r.cps[i]? = some cr := by simpa using hcr
        rw [ha, take_snoc (zipIdx_get hn'), List.filter_append, List.map_append]
        simp [e1, e2, h2]
    · subst ha
      refine ⟨_, rfl, rfl, ?_⟩
      rw [List.take_of_length_le (by simp [enumD])]
      unfold nmT diff at hk
      rw [List.map_map] at hk
      exact hk
abbrev s_l_edge : Stmt := topS 44
theorem sc_l_edge : FnScope ["_law_inputs", "_law_vals", "_law_edges", "_law_left", "_law_right", "_law_burst", "_law_a", "_law_b", "_law_there"] ["_law_inputs", "_law_vals", "_law_edges", "_law_left", "_law_right"] (defScope s_l_edge) := ⟨rfl, rfl, rfl, by decide +kernel, rfl, by decide +kernel, by decide +kernel⟩
-- slots: 0 _law_inputs, 1 _law_vals, 2 _law_edges, 3 _law_left, 4 _law_right, 5 _law_burst, 6 _law_a, 7 _law_b, 8 _law_there; calls: _law_differ, _law_within; constants: 
theorem ok_l_edge {f : Addr} {fd : FuncData} {q : Str} (F : Fun K "_law_edge" q s_l_edge f fd) (B : Bt mg) (C_l_differ : Cal P w K mg base 1 "_law_differ" ["_law_left", "_law_right", "_law_names_here"] (spD preDiffer)) (C_l_within : Cal P w K mg base 1 "_law_within" ["_law_some", "_law_burst"] (spD preWithin)) : FnOk P w K mg base CX0 2 f fd ["_law_inputs", "_law_vals", "_law_edges", "_law_left", "_law_right"] (spD preEdge) := by
  obtain ⟨f__law_differ, fd__law_differ, G__law_differ, m__law_differ, k__law_differ, b__law_differ⟩ := C_l_differ.ex
  obtain ⟨f__law_within, fd__law_within, G__law_within, m__law_within, k__law_within, b__law_within⟩ := C_l_within.ex
  refine F.ok sc_l_edge (fun vs H Q E h => ?_) (fun cdv A outer s H vs Q E hr h => ?_)
  · obtain ⟨T, h⟩ := h
    exact spT_len (fun as k kf hp => by obtain ⟨_, _, _, _, _, _, rfl, _⟩ := hp; rfl) h
  · obtain ⟨T, h⟩ := h
    have hu := hu_of hr
    have r__law_differ := hr.mono (show 1 ≤ 1 by decide)
    have r__law_within := hr.mono (show 1 ≤ 1 by decide)
    refine ⟨_, (pss_cons (ps_set (i := 5) sc_l_edge.nd rfl (.inl rfl) (pe_call G__law_differ r__law_differ (by rfl) m__law_differ k__law_differ b__law_differ .nil pass0 (pa_cons (pe_ix (k_ixT K rfl) (pe_ix (k_ixL K rfl) (pv 1) (pv 3) (fun _ _ => rfl)) pe_int (fun _ _ => rfl)) (pa_cons (pe_ix (k_ixT K rfl) (pe_ix (k_ixL K rfl) (pv 1) (pv 4) (fun _ _ => rfl)) pe_int (fun _ _ => rfl)) (pa_cons (pv 0) pa_nil)))))
      (pss_cons (ps_if (pw_or (pt_cmpR (k_eqD K rfl (hu64 hr)) (pv 5) (pe_tup pa_nil) (nomark _)) (pw_or1 (pt_cmpR op_ge (pe_callB (k_len K rfl) (by rfl) B.len_ PySem.boot_len (pa_cons (pv 2) pa_nil)) pe_int (nomark _)))).pt (pss_one (ps_ret (pv 2))) pss_nil)
      (pss_cons (ps_for PassesOwn.never rfl (k_seq K rfl (pv 2)) (k_pgTup K rfl (n := 2) rfl (pgs_cons (pg_name (i := 6) sc_l_edge.nd rfl (.inl rfl)) (pgs_cons (pg_name (i := 7) sc_l_edge.nd rfl (.inl rfl)) pgs_nil)))
      (pss_cons (ps_set (i := 8) sc_l_edge.nd rfl (.inl rfl) (pe_call G__law_differ r__law_differ (by rfl) m__law_differ k__law_differ b__law_differ .nil pass0 (pa_cons (pe_ix (k_ixT K rfl) (pe_ix (k_ixL K rfl) (pv 1) (pv 6) (fun _ _ => rfl)) pe_int (fun _ _ => rfl)) (pa_cons (pe_ix (k_ixT K rfl) (pe_ix (k_ixL K rfl) (pv 1) (pv 7) (fun _ _ => rfl)) pe_int (fun _ _ => rfl)) (pa_cons (pv 0) pa_nil)))))
      (pss_one (ps_if (pw_and (pt_cmpR (k_eqD K rfl (hu64 hr)) (pv 6) (pv 3) (nomark _)) (pw_and1 (pw_or (pt_val (pe_call G__law_within r__law_within (by rfl) m__law_within k__law_within b__law_within .nil pass0 (pa_cons (pv 5) (pa_cons (pv 8) pa_nil)))) (pw_or1 (pt_val (pe_call G__law_within r__law_within (by rfl) m__law_within k__law_within b__law_within .nil pass0 (pa_cons (pv 8) (pa_cons (pv 5) pa_nil)))))).pt)).pt (pss_one (ps_ret (pv 2))) pss_nil))))
      (pss_one (ps_ret (pe_op op_cat (pv 2) (pe_lst (pa_cons (pe_tup (pa_cons (pv 3) (pa_cons (pv 4) pa_nil))) pa_nil)))))))), body h fun g as k kf hT hst hp => ?_⟩
    obtain ⟨ins, outs, vs, es, l, r, rfl, h1, h2, h3, h4, h5, hk⟩ := hp
    have vb : ∀ {i : Nat}, i < vs.length → Bits ins.length (valAt vs i).1 := fun {i} hi => (h2.2.2.2 _ (val_mem hi)).1
    have dok : ∀ a c : Nat, ∀ n ∈ dIn ins vs a c, PyData.strOk n = true := fun a c n hn => h1.2 n ((diff_sub _ _ _).subset hn)
    have dl : ∀ a c : Nat, (dIn ins vs a c).length ≤ 3 := fun a c => Nat.le_trans (diff_sub _ _ _).length_le h1.1
    have call : ∀ {c : Bd.Ctx} {E' : XK} {k : Vl → Prop} {i j a b : Nat}, c[0]? = some (some (.da (nmL ins))) → c[1]? = some (some (.da (valsL vs))) → c[i]? = some (some (.da (.int (a : Int)))) → c[j]? = some (some (.da (.int (b : Int)))) → a < vs.length → b < vs.length → k (.da (nmT (dIn ins vs a b))) →
        Ev g (tCall (spD preDiffer) [] E' (tCons (tOp (rIxT K) (tOp (rIxL K) (tVar 1) (tVar i)) (tC (.int 0))) (tCons (tOp (rIxT K) (tOp (rIxL K) (tVar 1) (tVar j)) (tC (.int 0))) (tCons (tVar 0) tNil)))) c k := fun {c E' k i j a b} e0 e1 ei ej ha hb q =>
      ev_callP <| ea_cons <| ev_op <| ev_op <| ev_var e1 <| ev_var ei <| op_ixL rfl (atI_nat (val_get ha)) <| ev_int <| op_ixT (atI_nat (j := 0) rfl) <| ea_cons <| ev_op <| ev_op <| ev_var e1 <| ev_var ej <| op_ixL rfl (atI_nat (val_get hb)) <| ev_int <| op_ixT (atI_nat (j := 0) rfl) <| ea_cons <| ev_var e0 <| ea_nil ⟨colds rfl, _, _, ins, rfl, vb ha, vb hb, h1.1, q⟩
    refine se_seq <| se_asg <| call rfl rfl rfl rfl h4 h5 ⟨rfl, ?_⟩
    refine se_seq <| se_if <| et_or <| et_test <| ev_op <| ev_var rfl <| ev_tup <| ea_nil ⟨[], rfl, by decide, op_eqT (b := []) (dok l r) (by simp) ⟨_, rfl, fun h => ?_, fun h => ?_⟩⟩
    · have hd : dIn ins vs l r = [] := of_decide_eq_true h
      have e : edgeF ins vs es l r = es := by
        unfold edgeF
        rw [if_pos (.inl hd)]
      rw [e] at hk
      exact ⟨fun _ => se_ret (ev_var rfl ⟨rfl, hk⟩), nofun⟩
    · have hd : dIn ins vs l r ≠ [] := of_decide_eq_false h
      refine et_test <| ev_op <| ev_cb <| ea_cons <| ev_var rfl <| ea_nil <| cb_len rfl <| ev_int <| op_b0 ⟨_, rfl, fun h => ?_, fun h => ?_⟩
      · have h16 : 16 ≤ es.length := by
          have := of_decide_eq_true h
          simp at this
          omega
        have e : edgeF ins vs es l r = es := by
          unfold edgeF
          rw [if_pos (.inr h16)]
        rw [e] at hk
        exact se_ret (ev_var rfl ⟨rfl, hk⟩)
      · have h16 : ¬ 16 ≤ es.length := by
          have := of_decide_eq_false h
          simp at this
          omega
        have hno : ¬ (dIn ins vs l r = [] ∨ 16 ≤ es.length) := fun z => z.elim hd h16
        obtain ⟨cond, hcond⟩ : ∃ cond : Edg → Bool, cond = fun e => decide (e.1 = l) && (Bst.wth (dIn ins vs l r) (dIn ins vs e.1 e.2) || Bst.wth (dIn ins vs e.1 e.2) (dIn ins vs l r)) := ⟨_, rfl⟩
        have edge : edgeF ins vs es l r = if es.any cond = true then es else es ++ [(l, r)] := by
          unfold edgeF
          rw [if_neg hno, hcond]
        refine se_next <| se_seq <| se_for (fun i c' => (∀ j, j < i → ∀ e, es[j]? = some e → cond e = false) ∧ ∃ x6 x7 x8, c' = [some (.da (nmL ins)), some (.da (valsL vs)), some (.da (edgL es)), some (.da (.int (l : Int))), some (.da (.int (r : Int))), some (.da (nmT (dIn ins vs l r))), x6, x7, x8]) <| ei_seq <| ev_var rfl ⟨_, .inl rfl, ⟨fun j hj => absurd hj (Nat.not_lt_zero j), none, none, none, by simp [ctx0, List.replicate]⟩, fun i d c' hd hw => ?_, fun c' hw => ?_⟩
        · obtain ⟨hw, x6, x7, x8, rfl⟩ := hw
          obtain ⟨e, he, rfl⟩ := at_map hd
          have hm := h3.2 e (List.mem_of_getElem? he)
          refine ⟨_, _, tg_tup rfl (tgs_cons tg_name (tgs_cons tg_name tgs_nil)), se_seq <| se_asg <| call rfl rfl rfl rfl hm.1 hm.2 ⟨rfl, ?_⟩⟩
          have stop : cond e = true → k (.da (edgL es)) := fun hc => by
            have : es.any cond = true := List.any_eq_true.mpr ⟨e, List.mem_of_getElem? he, hc⟩
            rw [edge, if_pos this] at hk
            exact hk
          have go : cond e = false → ∀ j, j < i + 1 → ∀ e', es[j]? = some e' → cond e' = false := fun hc j hj e' he' => by
            rcases Nat.lt_or_ge j i with z | z
            · exact hw j z e' he'
            · have : j = i := by omega
              subst this
              rw [he] at he'
              cases he'
              exact hc
          have w1 : ∀ {c : Bd.Ctx} {E' : XK} {k : Vl → Prop} {i j : Nat} {a b : List Str}, c[i]? = some (some (.da (nmT a))) → c[j]? = some (some (.da (nmT b))) → a.length ≤ 3 → k (.da (.bool (Bst.wth a b))) → Ev g (tCall (spD preWithin) [] E' (tCons (tVar i) (tCons (tVar j) tNil))) c k := fun e1 e2 hl q =>
            ev_callP <| ea_cons <| ev_var e1 <| ea_cons <| ev_var e2 <| ea_nil ⟨colds rfl, _, _, rfl, by omega, q⟩
          have ce : cond e = (decide (e.1 = l) && (Bst.wth (dIn ins vs l r) (dIn ins vs e.1 e.2) || Bst.wth (dIn ins vs e.1 e.2) (dIn ins vs l r))) := by rw [hcond]
          refine se_if <| et_and <| et_test <| ev_op <| ev_var rfl <| ev_var rfl <| op_eqI ⟨_, rfl, fun h => ?_, fun h => ?_⟩
          · have hl : e.1 = l := by
              have := of_decide_eq_true h
              omega
            refine et_or <| et_B <| w1 rfl rfl (dl _ _) ⟨_, rfl, fun h2 => ?_, fun h2 => ?_⟩
            · have hc : cond e = true := by rw [ce, h2, decide_eq_true hl]; rfl
              exact ⟨fun _ => se_ret (ev_var rfl ⟨rfl, stop hc⟩), nofun⟩
            · refine et_B <| w1 rfl rfl (dl _ _) ⟨_, rfl, fun h3 => ?_, fun h3 => ?_⟩
              · have hc : cond e = true := by rw [ce, h2, h3, decide_eq_true hl]; rfl
                exact se_ret (ev_var rfl ⟨rfl, stop hc⟩)
              · have hc : cond e = false := by rw [ce, h2, h3]; simp
                exact se_next ⟨go hc, _, _, _, rfl⟩
          · have hl : ¬ e.1 = l := by
              have := of_decide_eq_false h
              omega
            have hc : cond e = false := by rw [ce, decide_eq_false hl]; rfl
            exact ⟨nofun, fun _ => se_next ⟨go hc, _, _, _, rfl⟩⟩
        · obtain ⟨hw, x6, x7, x8, rfl⟩ := hw
          have hany : ¬ es.any cond = true := fun z => by
            obtain ⟨e, he, hc⟩ := List.any_eq_true.mp z
            obtain ⟨j, hj⟩ := List.mem_iff_getElem?.mp he
            rw [hw j (by simpa using (List.getElem?_eq_some_iff.mp hj).1) e hj] at hc
            cases hc
          rw [edge, if_neg hany] at hk
          refine se_ret <| ev_ofF <| ef_op <| ev_var rfl <| ev_ofF <| ef_lst <| ea_cons <| ev_tup <| ea_cons <| ev_var rfl <| ea_cons <| ev_var rfl <| ea_nil ⟨[.int (l : Int), .int (r : Int)], rfl, by simp, ea_nil ⟨[edgD (l, r)], rfl, by simp, op_cat rfl rfl ?_ ⟨rfl, ?_⟩⟩⟩
          · have := h3.1
            simp
            omega
          · unfold edgL at hk
            rw [List.map_append] at hk
            exact hk
abbrev s_l_rebuilt : Stmt := topS 45
theorem sc_l_rebuilt : FnScope ["_law_inputs", "_law_vals", "_law_edges", "_law_found", "_law_left", "_law_right"] ["_law_inputs", "_law_vals", "_law_edges"] (defScope s_l_rebuilt) := ⟨rfl, rfl, rfl, by decide +kernel, rfl, by decide +kernel, by decide +kernel⟩
-- slots: 0 _law_inputs, 1 _law_vals, 2 _law_edges, 3 _law_found, 4 _law_left, 5 _law_right; calls: _law_edge; constants: 
theorem ok_l_rebuilt {f : Addr} {fd : FuncData} {q : Str} (F : Fun K "_law_rebuilt" q s_l_rebuilt f fd) (B : Bt mg) (C_l_edge : Cal P w K mg base 2 "_law_edge" ["_law_inputs", "_law_vals", "_law_edges", "_law_left", "_law_right"] (spD preEdge)) : FnOk P w K mg base CX0 3 f fd ["_law_inputs", "_law_vals", "_law_edges"] (spD preRebuilt) := by
  obtain ⟨f__law_edge, fd__law_edge, G__law_edge, m__law_edge, k__law_edge, b__law_edge⟩ := C_l_edge.ex
  refine F.ok sc_l_rebuilt (fun vs H Q E h => ?_) (fun cdv A outer s H vs Q E hr h => ?_)
  · obtain ⟨T, h⟩ := h
    exact spT_len (fun as k kf hp => by obtain ⟨_, _, _, _, rfl, _⟩ := hp; rfl) h
  · obtain ⟨T, h⟩ := h
    have hu := hu_of hr
    have r__law_edge := hr.mono (show 2 ≤ 2 by decide)
    refine ⟨_, (pss_cons (ps_set (i := 3) sc_l_rebuilt.nd rfl (.inl rfl) (pe_lst pa_nil))
      (pss_cons (ps_for PassesOwn.never rfl (k_seq K rfl (pv 2)) (k_pgTup K rfl (n := 2) rfl (pgs_cons (pg_name (i := 4) sc_l_rebuilt.nd rfl (.inl rfl)) (pgs_cons (pg_name (i := 5) sc_l_rebuilt.nd rfl (.inl rfl)) pgs_nil)))
      (pss_one (ps_set (i := 3) sc_l_rebuilt.nd rfl (.inl rfl) (pe_call G__law_edge r__law_edge (by rfl) m__law_edge k__law_edge b__law_edge .nil pass0 (pa_cons (pv 0) (pa_cons (pv 1) (pa_cons (pv 3) (pa_cons (pv 4) (pa_cons (pv 5) pa_nil)))))))))
      (pss_one (ps_ret (pv 3))))), body h fun g as k kf hT hst hp => ?_⟩
    obtain ⟨ins, outs, vs, es, rfl, h1, h2, h3, hk⟩ := hp
    refine se_seq (se_asg (ev_ofF (ef_lst (ea_nil ⟨[], rfl, by decide, rfl, ?_⟩))))
    refine se_seq (se_for (fun i c' => ∃ x4 x5, c' = [some (.da (nmL ins)), some (.da (valsL vs)), some (.da (edgL es)), some (.da (edgL (rebuilt ins vs (es.take i)))), x4, x5]) (ei_seq (ev_var rfl ⟨_, .inl rfl, ⟨none, none, by simp [ctx0, List.replicate, rebuilt, edgL]⟩, fun i d c' hd hw => ?_, fun c' hw => ?_⟩)))
    · obtain ⟨x4, x5, rfl⟩ := hw
      obtain ⟨e, he, rfl⟩ := at_map hd
      have hm := h3.2 e (List.mem_of_getElem? he)
      have hb := rebuilt_ok (ins := ins) (vs := vs) (es := es.take i) fun e he => h3.2 e (List.mem_of_mem_take he)
      refine ⟨_, _, tg_tup rfl (tgs_cons tg_name (tgs_cons tg_name tgs_nil)), se_asg <| ev_callP <| ea_cons <| ev_var rfl <| ea_cons <| ev_var rfl <| ea_cons <| ev_var rfl <| ea_cons <| ev_var rfl <| ea_cons <| ev_var rfl <| ea_nil ⟨colds rfl, ins, outs, vs, _, e.1, e.2, rfl, h1, h2, ⟨by omega, hb.2⟩, hm.1, hm.2, rfl, some (.da (.int (e.1 : Int))), some (.da (.int (e.2 : Int))), ?_⟩⟩
      rw [take_snoc he]
      simp [rebuilt]
    · obtain ⟨x4, x5, rfl⟩ := hw
      refine se_ret (ev_var rfl ⟨rfl, ?_⟩)
      rw [List.take_of_length_le (by simp)]
      exact hk
abbrev s_l_arcs : Stmt := topS 47
theorem sc_l_arcs : FnScope ["_law_inputs", "_law_outputs", "_law_vals", "_law_edges", "_law_rows_here", "_law_left", "_law_right", "_law_burst"] ["_law_inputs", "_law_outputs", "_law_vals", "_law_edges"] (defScope s_l_arcs) := ⟨rfl, rfl, rfl, by decide +kernel, rfl, by decide +kernel, by decide +kernel⟩
-- slots: 0 _law_inputs, 1 _law_outputs, 2 _law_vals, 3 _law_edges, 4 _law_rows_here, 5 _law_left, 6 _law_right, 7 _law_burst; calls: _law_differ; constants: 
theorem ok_l_arcs {f : Addr} {fd : FuncData} {q : Str} (F : Fun K "_law_arcs" q s_l_arcs f fd) (B : Bt mg) (C_l_differ : Cal P w K mg base 1 "_law_differ" ["_law_left", "_law_right", "_law_names_here"] (spD preDiffer)) : FnOk P w K mg base CX0 2 f fd ["_law_inputs", "_law_outputs", "_law_vals", "_law_edges"] (spD preLarcs) := by
  obtain ⟨f__law_differ, fd__law_differ, G__law_differ, m__law_differ, k__law_differ, b__law_differ⟩ := C_l_differ.ex
  refine F.ok sc_l_arcs (fun vs H Q E h => ?_) (fun cdv A outer s H vs Q E hr h => ?_)
  · obtain ⟨T, h⟩ := h
    exact spT_len (fun as k kf hp => by obtain ⟨_, _, _, _, rfl, _⟩ := hp; rfl) h
  · obtain ⟨T, h⟩ := h
    have hu := hu_of hr
    have r__law_differ := hr.mono (show 1 ≤ 1 by decide)
    refine ⟨_, (pss_cons (ps_set (i := 4) sc_l_arcs.nd rfl (.inl rfl) (pe_lst pa_nil))
      (pss_cons (ps_for PassesOwn.never rfl (k_seq K rfl (pv 3)) (k_pgTup K rfl (n := 2) rfl (pgs_cons (pg_name (i := 5) sc_l_arcs.nd rfl (.inl rfl)) (pgs_cons (pg_name (i := 6) sc_l_arcs.nd rfl (.inl rfl)) pgs_nil)))
      (pss_cons (ps_set (i := 7) sc_l_arcs.nd rfl (.inl rfl) (pe_call G__law_differ r__law_differ (by rfl) m__law_differ k__law_differ b__law_differ .nil pass0 (pa_cons (pe_ix (k_ixT K rfl) (pe_ix (k_ixL K rfl) (pv 2) (pv 5) (fun _ _ => rfl)) pe_int (fun _ _ => rfl)) (pa_cons (pe_ix (k_ixT K rfl) (pe_ix (k_ixL K rfl) (pv 2) (pv 6) (fun _ _ => rfl)) pe_int (fun _ _ => rfl)) (pa_cons (pv 0) pa_nil)))))
      (pss_one (ps_expr (k_bm K rfl PySem.F.plainAttrs_list PySem.F.slot_list_append PySem.F.type_list_append mt_append (pv 4) (pa_cons (pe_tup (pa_cons (pv 5) (pa_cons (pv 7) (pa_cons (pe_call G__law_differ r__law_differ (by rfl) m__law_differ k__law_differ b__law_differ .nil pass0 (pa_cons (pe_ix (k_ixT K rfl) (pe_ix (k_ixL K rfl) (pv 2) (pv 5) (fun _ _ => rfl)) pe_int (fun _ _ => rfl)) (pa_cons (pe_ix (k_ixT K rfl) (pe_ix (k_ixL K rfl) (pv 2) (pv 6) (fun _ _ => rfl)) pe_int (fun _ _ => rfl)) (pa_cons (pv 1) pa_nil)))) (pa_cons (pv 6) pa_nil))))) pa_nil))))))
      (pss_one (ps_ret (pv 4))))), body h fun g as k kf hT hst hp => ?_⟩
    obtain ⟨ins, outs, vs, es, rfl, h1, h2, h3, h4, hk⟩ := hp
    have vb : ∀ {i : Nat}, i < vs.length → Bits ins.length (valAt vs i).1 ∧ Bits outs.length (valAt vs i).2 := fun {i} hi => h3.2.2.2 _ (val_mem hi)
    refine se_seq (se_asgF (ef_lst (ea_nil ⟨[], rfl, by decide, ?_⟩)))
    refine se_seq (se_for (fun i c' => ∃ x5 x6 x7, c' = [some (.da (nmL ins)), some (.da (nmL outs)), some (.da (valsL vs)), some (.da (edgL es)), some (.ac ((es.take i).map fun e => arcD (arcOf ins outs vs e))), x5, x6, x7]) (ei_seq (ev_var rfl ⟨_, .inl rfl, ⟨none, none, none, by simp [ctx0, List.replicate]⟩, fun i d c' hd hw => ?_, fun c' hw => ?_⟩)))
    · obtain ⟨x5, x6, x7, rfl⟩ := hw
      obtain ⟨e, he, rfl⟩ := at_map hd
      have hm := h4.2 e (List.mem_of_getElem? he)
      have hil := (List.getElem?_eq_some_iff.mp he).1
      have hlen := h4.1
      refine ⟨_, _, tg_tup rfl (tgs_cons tg_name (tgs_cons tg_name tgs_nil)), ?_⟩
      refine se_seq <| se_asg <| ev_callP <| ea_cons <| ev_op <| ev_op <| ev_var rfl <| ev_var rfl <| op_ixL rfl (atI_nat (val_get hm.1)) <| ev_int <| op_ixT (atI_nat (j := 0) rfl) <| ea_cons <| ev_op <| ev_op <| ev_var rfl <| ev_var rfl <| op_ixL rfl (atI_nat (val_get hm.2)) <| ev_int <| op_ixT (atI_nat (j := 0) rfl) <| ea_cons <| ev_var rfl <| ea_nil ⟨colds rfl, _, _, ins, rfl, (vb hm.1).1, (vb hm.2).1, h1, rfl, ?_⟩
      refine se_app rfl <| ev_tup <| ea_cons <| ev_var rfl <| ea_cons <| ev_var rfl <| ea_cons <| ev_callP <| ea_cons <| ev_op <| ev_op <| ev_var rfl <| ev_var rfl <| op_ixL rfl (atI_nat (val_get hm.1)) <| ev_int <| op_ixT (atI_nat (j := 1) rfl) <| ea_cons <| ev_op <| ev_op <| ev_var rfl <| ev_var rfl <| op_ixL rfl (atI_nat (val_get hm.2)) <| ev_int <| op_ixT (atI_nat (j := 1) rfl) <| ea_cons <| ev_var rfl <| ea_nil ⟨colds rfl, _, _, outs, rfl, (vb hm.1).2, (vb hm.2).2, h2, ?_⟩
      refine ea_cons <| ev_var rfl <| ea_nil ⟨[.int (e.1 : Int), nmT (dIn ins vs e.1 e.2), nmT (diff (valAt vs e.1).2 (valAt vs e.2).2 outs), .int (e.2 : Int)], rfl, by simp, _, rfl, by simp; omega, some (.da (.int (e.1 : Int))), some (.da (.int (e.2 : Int))), some (.da (nmT (dIn ins vs e.1 e.2))), ?_⟩
      rw [take_snoc he]
      simp [arcOf, arcD]
      rfl
    · obtain ⟨x5, x6, x7, rfl⟩ := hw
      refine se_retAc rfl ?_
      rw [List.take_of_length_le (by simp)]
      unfold arcsL at hk
      rw [List.map_map] at hk
      exact hk
abbrev s_l_go : Stmt := topS 51
theorem sc_l_go : FnScope ["_law_arcs_here", "_law_inputs", "_law_standing", "_law_name_here", "_law_place", "_law_arrived", "_law_more", "_law_fits", "_law_arc", "_law_left"] ["_law_arcs_here", "_law_inputs", "_law_standing", "_law_name_here"] (defScope s_l_go) := ⟨rfl, rfl, rfl, by decide +kernel, rfl, by decide +kernel, by decide +kernel⟩
-- slots: 0 _law_arcs_here, 1 _law_inputs, 2 _law_standing, 3 _law_name_here, 4 _law_place, 5 _law_arrived, 6 _law_more, 7 _law_fits, 8 _law_arc, 9 _law_left; calls: _law_within; constants: 
theorem ok_l_go {f : Addr} {fd : FuncData} {q : Str} (F : Fun K "_law_go" q s_l_go f fd) (B : Bt mg) (C_l_within : Cal P w K mg base 1 "_law_within" ["_law_some", "_law_burst"] (spD preWithin)) : FnOk P w K mg base CX0 2 f fd ["_law_arcs_here", "_law_inputs", "_law_standing", "_law_name_here"] (spD preGo) := by
  obtain ⟨f__law_within, fd__law_within, G__law_within, m__law_within, k__law_within, b__law_within⟩ := C_l_within.ex
  refine F.ok sc_l_go (fun vs H Q E h => ?_) (fun cdv A outer s H vs Q E hr h => ?_)
  · obtain ⟨T, h⟩ := h
    exact spT_len (fun as k kf hp => by obtain ⟨_, _, _, _, _, rfl, _⟩ := hp; rfl) h
  · obtain ⟨T, h⟩ := h
    have hu := hu_of hr
    have r__law_within := hr.mono (show 1 ≤ 1 by decide)
    refine ⟨_, (pss_cons (ps_asg (pv 2) (k_pgTup K rfl (n := 2) rfl (pgs_cons (pg_name (i := 4) sc_l_go.nd rfl (.inl rfl)) (pgs_cons (pg_name (i := 5) sc_l_go.nd rfl (.inr rfl)) pgs_nil))))
      (pss_cons (ps_if (pt_cmpR (k_in K rfl) (pv 3) (pv 5) (by with_unfolding_all rfl)) (pss_one (ps_ret pe_non)) pss_nil)
      (pss_cons (ps_set (i := 6) sc_l_go.nd rfl (.inl rfl) (k_tupleOf K rfl (by rfl) B.tuple_ (pe_lc (own := [("_law_left", 9)]) rfl sc_l_go.nd (k_seq K rfl (pv 1)) (blkOk_by (N := ["_law_arcs_here", "_law_inputs", "_law_standing", "_law_name_here", "_law_place", "_law_arrived", "_law_more", "_law_fits", "_law_arc", "_law_left"]) (sc := defScope s_l_go) (by decide +kernel)) (fun _ _ _ _ _ => (pg_name (i := 9) sc_l_go.nd rfl (.inl rfl))) (fun _ _ _ _ _ => pts_one (pw_or (pt_cmpR (k_in K rfl) (pv 9) (pv 5) (by with_unfolding_all rfl)) (pw_or1 (pt_cmpR (k_eqD K rfl (hu64 hr)) (pv 9) (pv 3) (nomark _)))).pt) (fun _ _ _ _ _ => (pv 9)))))
      (pss_cons (ps_set (i := 7) sc_l_go.nd rfl (.inl rfl) pe_bl)
      (pss_cons (ps_for PassesOwn.never rfl (k_seq K rfl (pv 0)) (pg_name (i := 8) sc_l_go.nd rfl (.inl rfl))
      (pss_cons (ps_if (pw_and (pt_cmpR (k_eqD K rfl (hu64 hr)) (pe_ix (k_ixT K rfl) (pv 8) pe_int (fun _ _ => rfl)) (pv 4) (nomark _)) (pw_and1 (pt_cmpR (k_eqD K rfl (hu64 hr)) (pe_ix (k_ixT K rfl) (pv 8) pe_int (fun _ _ => rfl)) (pv 6) (nomark _)))).pt (pss_one (ps_ret (pe_tup (pa_cons (pe_tup (pa_cons (pe_ix (k_ixT K rfl) (pv 8) pe_int (fun _ _ => rfl)) (pa_cons (pe_tup pa_nil) pa_nil))) (pa_cons (pe_ix (k_ixT K rfl) (pv 8) pe_int (fun _ _ => rfl)) pa_nil))))) pss_nil)
      (pss_one (ps_if (pw_and (pt_cmpR (k_eqD K rfl (hu64 hr)) (pe_ix (k_ixT K rfl) (pv 8) pe_int (fun _ _ => rfl)) (pv 4) (nomark _)) (pw_and1 (pt_val (pe_call G__law_within r__law_within (by rfl) m__law_within k__law_within b__law_within .nil pass0 (pa_cons (pv 6) (pa_cons (pe_ix (k_ixT K rfl) (pv 8) pe_int (fun _ _ => rfl)) pa_nil)))))).pt (pss_one (ps_set (i := 7) sc_l_go.nd rfl (.inl rfl) pe_bl)) pss_nil))))
      (pss_one (ps_ret (pe_ifExp (pt_val (pv 7)) (pe_tup (pa_cons (pe_tup (pa_cons (pv 4) (pa_cons (pv 6) pa_nil))) (pa_cons (pe_tup pa_nil) pa_nil))) pe_non)))))))), body h fun g as k kf hT hst hp => ?_⟩
    obtain ⟨ins, A, x, arr, n, rfl, h1, h2, h3, h4, hno, hk⟩ := hp
    refine se_seq (se_asgT (ev_var rfl ⟨_, _, _, rfl, tg_tup rfl (tgs_cons tg_name (tgs_cons tg_name tgs_nil)), ?_⟩))
    refine se_seq (se_if (et_test (ev_op (ev_var rfl (ev_var rfl (op_inN (.inl rfl) ⟨_, rfl, fun h => ?_, fun h => ?_⟩))))))
    · have hn : n ∈ arr := of_decide_eq_true h
      refine se_ret (ev_non ⟨rfl, ?_⟩)
      have e : Bst.go A ins (x, arr) n = none := by
        unfold Bst.go
        rw [if_pos hn]
      rw [e] at hk
      exact hk
    · have hn : ¬ n ∈ arr := of_decide_eq_false h
      have mok : ∀ m ∈ Bst.more ins arr n, PyData.strOk m = true := fun m hm => h1.2 m (List.mem_filter.mp hm).1
      have ml : (Bst.more ins arr n).length ≤ 3 := Nat.le_trans (List.length_filter_le _ _) h1.1
      refine se_next <| se_seq <| se_asg <| ev_tupL (x := .da .none) <| ev_ofF <| ef_lc (fun i acc => acc = ((ins.take i).filter fun m => decide (m ∈ arr ∨ m = n)).map .str) <| ei_seq <| ev_var rfl ⟨_, .inl rfl, rfl, ?_, fun i d acc hd ha => ?_, fun acc ha => ?_⟩
      · have := h1.1
        simp
        omega
      · obtain ⟨m, hm, rfl⟩ := at_map hd
        have mk := h1.2 m (List.mem_of_getElem? hm)
        have yes : (m ∈ arr ∨ m = n) → acc ++ [PyData.str m] = ((ins.take (i + 1)).filter fun m => decide (m ∈ arr ∨ m = n)).map .str := fun z => by
          rw [ha, take_snoc hm, List.filter_append, List.map_append]
          simp [z]
        have no : ¬ (m ∈ arr ∨ m = n) → acc = ((ins.take (i + 1)).filter fun m => decide (m ∈ arr ∨ m = n)).map .str := fun z => by
          rw [ha, take_snoc hm, List.filter_append, List.map_append]
          simp [z]
        refine ⟨_, _, tg_name, by simp, et_or <| et_test <| ev_op <| ev_var rfl <| ev_var rfl <| op_inN (.inl rfl) ⟨_, rfl, fun h => ?_, fun h => ?_⟩⟩
        · exact ⟨fun _ => ev_var rfl ⟨_, rfl, yes (.inl (of_decide_eq_true h))⟩, nofun⟩
        · refine et_test <| ev_op <| ev_var rfl <| ev_var rfl <| op_eqS mk hno ⟨_, rfl, fun h2 => ?_, fun h2 => ?_⟩
          · exact ev_var rfl ⟨_, rfl, yes (.inr (of_decide_eq_true h2))⟩
          · exact no fun z => z.elim (of_decide_eq_false h) (of_decide_eq_false h2)
      · subst ha
        refine ⟨_, rfl, rfl, ?_⟩
        rw [List.take_of_length_le (by simp)]
        have hcl := hk
        refine se_seq <| se_asg <| ev_bl ⟨rfl, ?_⟩
        obtain ⟨mr, hmr⟩ : ∃ mr, mr = Bst.more ins arr n := ⟨_, rfl⟩
        obtain ⟨cond, hcond⟩ : ∃ cond : Arc → Bool, cond = fun a => decide (a.s = x) && Bst.wth mr a.b := ⟨_, rfl⟩
        refine se_seq <| se_for (fun i c' => (∀ j, j < i → ∀ a, A[j]? = some a → ¬ (a.s = x ∧ a.b = mr)) ∧ ∃ x8, c' = [some (.da (arcsL A)), some (.da (nmL ins)), some (.da (stdD x arr)), some (.da (.str n)), some (.da (.int (x : Int))), some (.da (nmT arr)), some (.da (nmT mr)), some (.da (.bool ((A.take i).any cond))), x8, none]) <| ei_seq <| ev_var rfl ⟨_, .inl rfl, ⟨fun j hj => absurd hj (Nat.not_lt_zero j), none, ?_⟩, fun i d c' hd hw => ?_, fun c' hw => ?_⟩
        · rw [hmr]
          simp [ctx0, List.replicate, nmT, Bst.more]
        · obtain ⟨hw, x8, rfl⟩ := hw
          obtain ⟨a, hA, rfl⟩ := at_map hd
          have ha4 := h4 a (List.mem_of_getElem? hA)
          have mok' : ∀ m ∈ mr, PyData.strOk m = true := by rw [hmr]; exact mok
          have tk : (A.take (i + 1)).any cond = ((A.take i).any cond || cond a) := by
            rw [take_snoc hA, List.any_append]
            simp
          have ce : cond a = (decide (a.s = x) && Bst.wth mr a.b) := by rw [hcond]
          have nxt : ¬ (a.s = x ∧ a.b = mr) → ∀ j, j < i + 1 → ∀ a', A[j]? = some a' → ¬ (a'.s = x ∧ a'.b = mr) := fun hc j hj a' ha' => by
            rcases Nat.lt_or_ge j i with z | z
            · exact hw j z a' ha'
            · have : j = i := by omega
              subst this
              rw [hA] at ha'
              cases ha'
              exact hc
          refine ⟨_, _, tg_name, se_seq <| se_if <| et_and <| et_test <| ev_op <| ev_op <| ev_var rfl <| ev_int <| op_ixT (atI_nat (j := 0) rfl) <| ev_var rfl <| op_eqI ⟨_, rfl, fun h => ?_, fun h => ?_⟩⟩
          · have hs : a.s = x := by
              have := of_decide_eq_true h
              omega
            refine et_test <| ev_op <| ev_op <| ev_var rfl <| ev_int <| op_ixT (atI_nat (j := 1) rfl) <| ev_var rfl <| op_eqT ha4.2 mok' ⟨_, rfl, fun h2 => ?_, fun h2 => ?_⟩
            · have hb : a.b = mr := of_decide_eq_true h2
              have e : Bst.look A x mr = some a := by
                unfold Bst.look
                exact find_at hA (decide_eq_true ⟨hs, hb⟩) fun i' hi' c hc => decide_eq_false (hw i' hi' c hc)
              have eg : Bst.go A ins (x, arr) n = some ((a.t, []), a.f) := by
                unfold Bst.go
                rw [if_neg hn]
                dsimp only
                rw [← hmr, e]
              rw [eg] at hk
              refine se_ret <| ev_tup <| ea_cons <| ev_tup <| ea_cons <| ev_op <| ev_var rfl <| ev_int <| op_ixT (atI_nat (j := 3) rfl) <| ea_cons <| ev_tup <| ea_nil ⟨[], rfl, by decide, ea_nil ⟨[.int (a.t : Int), .tuple []], rfl, by simp, ?_⟩⟩
              exact ea_cons <| ev_op <| ev_var rfl <| ev_int <| op_ixT (atI_nat (j := 2) rfl) <| ea_nil ⟨[.tuple [.int (a.t : Int), .tuple []], nmT a.f], rfl, by simp, rfl, hk⟩
            · have hb : ¬ a.b = mr := of_decide_eq_false h2
              refine se_next <| se_if <| et_and <| et_test <| ev_op <| ev_op <| ev_var rfl <| ev_int <| op_ixT (atI_nat (j := 0) rfl) <| ev_var rfl <| op_eqI ⟨_, rfl, fun h3 => ?_, fun h3 => ?_⟩
              · refine et_B <| ev_callP <| ea_cons <| ev_var rfl <| ea_cons <| ev_op <| ev_var rfl <| ev_int <| op_ixT (atI_nat (j := 1) rfl) <| ea_nil ⟨colds rfl, mr, a.b, rfl, by rw [hmr]; omega, _, rfl, fun h4 => ?_, fun h4 => ?_⟩
                · have hc : cond a = true := by rw [ce, h4, decide_eq_true hs]; rfl
                  refine se_asg <| ev_bl ⟨rfl, nxt fun z => hb z.2, some (.da (arcD a)), ?_⟩
                  rw [tk, hc, Bool.or_true]
                  rfl
                · have hc : cond a = false := by rw [ce, h4, Bool.and_false]
                  refine se_next ⟨nxt fun z => hb z.2, some (.da (arcD a)), ?_⟩
                  rw [tk, hc, Bool.or_false]
                  rfl
              · exact absurd h (by rw [h3]; decide)
          · have hs : ¬ a.s = x := by
              have := of_decide_eq_false h
              omega
            refine ⟨nofun, fun _ => se_next <| se_if <| et_and <| et_test <| ev_op <| ev_op <| ev_var rfl <| ev_int <| op_ixT (atI_nat (j := 0) rfl) <| ev_var rfl <| op_eqI ⟨_, rfl, fun h3 => ?_, fun h3 => ⟨nofun, fun _ => se_next ⟨nxt fun z => hs z.1, some (.da (arcD a)), ?_⟩⟩⟩⟩
            · exact absurd h3 (by rw [h]; decide)
            · have hc : cond a = false := by rw [ce, decide_eq_false hs, Bool.false_and]
              rw [tk, hc, Bool.or_false]
              rfl
        · obtain ⟨hw, x8, rfl⟩ := hw
          have e : Bst.look A x mr = none := by
            unfold Bst.look
            refine find_no fun i hi c hc => decide_eq_false (hw i ?_ c hc)
            simpa using hi
          have eany : (A.take (A.map arcD).length).any cond = A.any cond := by rw [List.take_of_length_le (by simp)]
          rw [eany]
          refine se_ret <| ev_if <| et_B <| ev_var rfl ⟨_, rfl, fun h => ?_, fun h => ?_⟩
          · have eg : Bst.go A ins (x, arr) n = some ((x, mr), []) := by
              unfold Bst.go
              rw [if_neg hn]
              dsimp only
              rw [← hmr, e]
              dsimp only
              rw [if_pos (by rw [hcond] at h; exact h)]
            rw [eg] at hk
            refine ev_tup <| ea_cons <| ev_tup <| ea_cons <| ev_var rfl <| ea_cons <| ev_var rfl <| ea_nil ⟨[.int (x : Int), nmT mr], rfl, by simp, ea_cons <| ev_tup <| ea_nil ⟨[], rfl, by decide, ea_nil ⟨[stdD x mr, .tuple []], rfl, by simp, rfl, hk⟩⟩⟩
          · have eg : Bst.go A ins (x, arr) n = none := by
              unfold Bst.go
              rw [if_neg hn]
              dsimp only
              rw [← hmr, e]
              dsimp only
              rw [if_neg (by rw [hcond] at h; rw [h]; decide)]
            rw [eg] at hk
            exact ev_non ⟨rfl, hk⟩
abbrev s_l_answers : Stmt := topS 55
theorem sc_l_answers : FnScope ["_law_arcs_here", "_law_row", "_law_place", "_law_found", "_law_burst", "_law_hits", "_law_arc"] ["_law_arcs_here", "_law_row"] (defScope s_l_answers) := ⟨rfl, rfl, rfl, by decide +kernel, rfl, by decide +kernel, by decide +kernel⟩
-- slots: 0 _law_arcs_here, 1 _law_row, 2 _law_place, 3 _law_found, 4 _law_burst, 5 _law_hits, 6 _law_arc; calls: ; constants: 
theorem ok_l_answers {f : Addr} {fd : FuncData} {q : Str} (F : Fun K "_law_answers" q s_l_answers f fd) (B : Bt mg) : FnOk P w K mg base CX0 1 f fd ["_law_arcs_here", "_law_row"] (spD preAns) := by
  refine F.ok sc_l_answers (fun vs H Q E h => ?_) (fun cdv A outer s H vs Q E hr h => ?_)
  · obtain ⟨T, h⟩ := h
    exact spT_len (fun as k kf hp => by obtain ⟨_, _, _, _, rfl, _⟩ := hp; rfl) h
  · obtain ⟨T, h⟩ := h
    have hu := hu_of hr
    refine ⟨_, (pss_cons (ps_set (i := 2) sc_l_answers.nd rfl (.inr rfl) pe_int)
      (pss_cons (ps_set (i := 3) sc_l_answers.nd rfl (.inl rfl) (pe_lst pa_nil))
      (pss_cons (ps_for PassesOwn.never rfl (k_seq K rfl (pv 1)) (pg_name (i := 4) sc_l_answers.nd rfl (.inr rfl))
      (pss_cons (ps_setLc (i := 5) (own := [("_law_arc", 6)]) rfl sc_l_answers.nd rfl rfl (sw_true rfl rfl rfl (by decide +kernel)) (k_seq K rfl (pv 0)) (blkOk_by (N := ["_law_arcs_here", "_law_row", "_law_place", "_law_found", "_law_burst", "_law_hits", "_law_arc"]) (sc := defScope s_l_answers) (by decide +kernel)) (fun _ _ _ _ _ => (pg_name (i := 6) sc_l_answers.nd rfl (.inl rfl))) (fun _ _ _ _ _ => pts_one (pw_and (pt_cmpR (k_eqD K rfl (hu64 hr)) (pe_ix (k_ixT K rfl) (pv 6) pe_int (fun _ _ => rfl)) (pv 2) (nomark _)) (pw_and1 (pt_cmpR (k_eqD K rfl (hu64 hr)) (pe_ix (k_ixT K rfl) (pv 6) pe_int (fun _ _ => rfl)) (pv 4) (nomark _)))).pt) (fun _ _ _ _ _ => (pv 6)))
      (pss_cons (ps_if (pt_cmpR (k_eqD K rfl (hu64 hr)) (pv 5) (pe_lst pa_nil) (nomark _)) (pss_one (ps_ret pe_non)) pss_nil)
      (pss_cons (ps_expr (k_bm K rfl PySem.F.plainAttrs_list PySem.F.slot_list_append PySem.F.type_list_append mt_append (pv 3) (pa_cons (pe_ix (k_ixT K rfl) (pe_ix (k_ixL K rfl) (pv 5) pe_int (fun _ _ => rfl)) pe_int (fun _ _ => rfl)) pa_nil)))
      (pss_one (ps_set (i := 2) sc_l_answers.nd rfl (.inr rfl) (pe_ix (k_ixT K rfl) (pe_ix (k_ixL K rfl) (pv 5) pe_int (fun _ _ => rfl)) pe_int (fun _ _ => rfl))))))))
      (pss_one (ps_ret (pv 3)))))), body h fun g as k kf hT hst hp => ?_⟩
    obtain ⟨ins, outs, A, r, rfl, h1, h2, h3, hk⟩ := hp
    have aok : ∀ a ∈ A, Ok 2 (arcD a) := fun a ha => ok_arcD (fun n hn => h1.nms.nok.2 n ((h1.snd.ib a ha).2.subset hn)) fun n hn => h1.nmo.nok.2 n ((h1.snd.ob a ha).subset hn)
    have rok : ∀ b ∈ r, ∀ n ∈ b, PyData.strOk n = true := fun b hb n hn => h1.nms.nok.2 n ((h3 b hb).subset hn)
    refine se_seq <| se_asg <| ev_int ⟨rfl, ?_⟩
    refine se_seq <| se_asgF <| ef_lst <| ea_nil ⟨[], rfl, by decide, ?_⟩
    refine se_seq <| se_for (fun i c' => ∃ (x : Nat) (fs : List (List Str)) (x4 x5 x6 : Option Vl), Bst.ans A 0 r = (Bst.ans A x (r.drop i)).map (fs ++ ·) ∧ fs.length = i ∧ c' = [some (.da (arcsL A)), some (.da (rowD r)), some (.da (.int (x : Int))), some (.ac (fs.map nmT)), x4, x5, x6]) <| ei_seq <| ev_var rfl ⟨_, .inl rfl, ⟨0, [], none, none, none, by simp, rfl, by simp [ctx0, List.replicate]⟩, fun i d c' hd hw => ?_, fun c' hw => ?_⟩
    · obtain ⟨x, fs, x4, x5, x6, q1, q2, rfl⟩ := hw
      obtain ⟨b, hb, rfl⟩ := at_map hd
      have hil := (List.getElem?_eq_some_iff.mp hb).1
      have hdr : r.drop i = b :: r.drop (i + 1) := by
        rw [List.drop_eq_getElem_cons hil]
        rw [(List.getElem?_eq_some_iff.mp hb).2]
      obtain ⟨hits, hhits⟩ : ∃ hits, hits = A.filter fun a => decide (a.s = x ∧ a.b = b) := ⟨_, rfl⟩
      refine ⟨_, _, tg_name, se_seq <| se_asg <| ev_ofF <| ef_lc (fun i acc => acc = ((A.take i).filter fun a => decide (a.s = x ∧ a.b = b)).map arcD) <| ei_seq <| ev_var rfl ⟨_, .inl rfl, rfl, ?_, fun j d acc hd ha => ?_, fun acc ha => ?_⟩⟩
      · have := h1.snd.few
        simp
        omega
      · obtain ⟨a, hA, rfl⟩ := at_map hd
        have hAm := List.mem_of_getElem? hA
        have yes : (a.s = x ∧ a.b = b) → acc ++ [arcD a] = ((A.take (j + 1)).filter fun a => decide (a.s = x ∧ a.b = b)).map arcD := fun z => by
          rw [ha, take_snoc hA, List.filter_append, List.map_append]
          simp [z]
        have no : ¬ (a.s = x ∧ a.b = b) → acc = ((A.take (j + 1)).filter fun a => decide (a.s = x ∧ a.b = b)).map arcD := fun z => by
          rw [ha, take_snoc hA, List.filter_append, List.map_append]
          simp [z]
        refine ⟨_, _, tg_name, by simp, et_and <| et_test <| ev_op <| ev_op <| ev_var rfl <| ev_int <| op_ixT (atI_nat (j := 0) rfl) <| ev_var rfl <| op_eqI ⟨_, rfl, fun h => ?_, fun h => ?_⟩⟩
        · have hs : a.s = x := by
            have := of_decide_eq_true h
            omega
          refine et_test <| ev_op <| ev_op <| ev_var rfl <| ev_int <| op_ixT (atI_nat (j := 1) rfl) <| ev_var rfl <| op_eqT (fun n hn => h1.nms.nok.2 n ((h1.snd.ib a hAm).2.subset hn)) (rok b (List.mem_of_getElem? hb)) ⟨_, rfl, fun h => ?_, fun h => ?_⟩
          · exact ev_var rfl ⟨_, rfl, yes ⟨hs, of_decide_eq_true h⟩⟩
          · exact no fun z => of_decide_eq_false h z.2
        · have hs : ¬ a.s = x := by
            have := of_decide_eq_false h
            omega
          exact ⟨nofun, fun _ => no fun z => hs z.1⟩
      · subst ha
        rw [List.take_of_length_le (by simp), ← hhits]
        refine ⟨rfl, ?_⟩
        have hok : okD (.list (hits.map arcD)) = true := (Ok.lst (n := 2) fun d hd => by
          obtain ⟨a, ha, rfl⟩ := List.mem_map.mp hd
          rw [hhits] at ha
          exact aok a (List.mem_filter.mp ha).1).d (by decide)
        have hl : Bst.look A x b = hits.head? := by
          rw [hhits]
          unfold Bst.look
          rw [List.head?_filter]
        refine se_seq <| se_if <| et_test <| ev_op <| ev_var rfl <| ev_ofF <| ef_lst <| ea_nil ⟨[], rfl, by decide, op_eqNil rfl hok ⟨_, rfl, fun h => ?_, fun h => ?_⟩⟩
        · have hn : hits = [] := by simpa using h
          rw [hn] at hl
          rw [hdr, Bst.ans, hl] at q1
          rw [q1] at hk
          exact se_ret (ev_non ⟨rfl, hk⟩)
        · cases hh : hits with
          | nil =>
            rw [hh] at h
            cases h
          | cons a rest =>
            rw [hh] at hl
            rw [hdr, Bst.ans, hl] at q1
            have q1 : Bst.ans A 0 r = ((Bst.ans A a.t (r.drop (i + 1))).map (a.f :: ·)).map (fs ++ ·) := q1
            refine se_next <| se_seq <| se_app rfl <| ev_op <| ev_op <| ev_var rfl <| ev_int <| op_ixL rfl (atI_nat (j := 0) rfl) <| ev_int <| op_ixT (atI_nat (j := 2) rfl) ⟨_, rfl, ?_, ?_⟩
            · simp
              omega
            refine se_asg <| ev_op <| ev_op <| ev_var rfl <| ev_int <| op_ixL rfl (atI_nat (j := 0) rfl) <| ev_int <| op_ixT (atI_nat (j := 3) rfl) ⟨rfl, a.t, fs ++ [a.f], some (.da (nmT b)), some (.da (.list ((a :: rest).map arcD))), x6, ?_, ?_, ?_⟩
            · rw [q1, Option.map_map]
              congr 1
              funext l
              simp
            · simp [q2]
            · simp
    · obtain ⟨x, fs, x4, x5, x6, q1, q2, rfl⟩ := hw
      have e : r.drop (r.map nmT).length = [] := by simp
      rw [e] at q1
      have e2 : Bst.ans A 0 r = some fs := by
        rw [q1]
        simp [Bst.ans]
      rw [e2] at hk
      exact se_retAc rfl hk
abbrev s_l_exits : Stmt := topS 53
theorem sc_l_exits : FnScope ["_law_arcs_here", "_law_inputs", "_law_place", "_law_rows_here", "_law_arc", "_law_name_here"] ["_law_arcs_here", "_law_inputs", "_law_place"] (defScope s_l_exits) := ⟨rfl, rfl, rfl, by decide +kernel, rfl, by decide +kernel, by decide +kernel⟩
-- slots: 0 _law_arcs_here, 1 _law_inputs, 2 _law_place, 3 _law_rows_here, 4 _law_arc, 5 _law_name_here; calls: ; constants: 
theorem ok_l_exits {f : Addr} {fd : FuncData} {q : Str} (F : Fun K "_law_exits" q s_l_exits f fd) (B : Bt mg) : FnOk P w K mg base CX0 1 f fd ["_law_arcs_here", "_law_inputs", "_law_place"] (spD preExits) := by
  refine F.ok sc_l_exits (fun vs H Q E h => ?_) (fun cdv A outer s H vs Q E hr h => ?_)
  · obtain ⟨T, h⟩ := h
    exact spT_len (fun as k kf hp => by obtain ⟨_, _, _, _, rfl, _⟩ := hp; rfl) h
  · obtain ⟨T, h⟩ := h
    have hu := hu_of hr
    refine ⟨_, (pss_cons (ps_set (i := 3) sc_l_exits.nd rfl (.inl rfl) (pe_lst pa_nil))
      (pss_cons (ps_for PassesOwn.never rfl (k_seq K rfl (pv 0)) (pg_name (i := 4) sc_l_exits.nd rfl (.inl rfl))
      (pss_one (ps_if (pt_cmpR (k_eqD K rfl (hu64 hr)) (pe_ix (k_ixT K rfl) (pv 4) pe_int (fun _ _ => rfl)) (pv 2) (nomark _)) (pss_one (ps_expr (k_bm K rfl PySem.F.plainAttrs_list PySem.F.slot_list_append PySem.F.type_list_append mt_append (pv 3) (pa_cons (pe_tup (pa_cons (k_tupleOf K rfl (by rfl) B.tuple_ (pe_lc (own := [("_law_name_here", 5)]) rfl sc_l_exits.nd (k_seq K rfl (pe_ix (k_ixT K rfl) (pv 4) pe_int (fun _ _ => rfl))) (blkOk_by (N := ["_law_arcs_here", "_law_inputs", "_law_place", "_law_rows_here", "_law_arc", "_law_name_here"]) (sc := defScope s_l_exits) (by decide +kernel)) (fun _ _ _ _ _ => (pg_name (i := 5) sc_l_exits.nd rfl (.inl rfl))) (fun _ _ _ _ _ => pts_nil) (fun _ _ _ _ _ => (k_bm K rfl PySem.F.plainAttrs_list PySem.F.slot_list_index PySem.F.type_list_index (k_index K rfl (hu65 hr)) (pv 1) (pa_cons (pv 5) pa_nil))))) (pa_cons (pe_ix (k_ixT K rfl) (pv 4) pe_int (fun _ _ => rfl)) (pa_cons (pe_ix (k_ixT K rfl) (pv 4) pe_int (fun _ _ => rfl)) (pa_cons (pe_ix (k_ixT K rfl) (pv 4) pe_int (fun _ _ => rfl)) pa_nil))))) pa_nil)))) pss_nil)))
      (pss_one (ps_ret (pe_callB (k_sorted K rfl Arc (hu64 hr)) (by rfl) B.sorted_ boot_sorted (pa_cons (pv 3) pa_nil)))))), body h fun g as k kf hT hst hp => ?_⟩
    obtain ⟨ins, outs, A, y, rfl, h1, hk⟩ := hp
    refine se_seq <| se_asgF <| ef_lst <| ea_nil ⟨[], rfl, by decide, ?_⟩
    obtain ⟨F, hF⟩ : ∃ F, F = A.filter fun a => decide (a.s = y) := ⟨_, rfl⟩
    refine se_seq <| se_for (fun i c' => ∃ x4 x5, c' = [some (.da (arcsL A)), some (.da (nmL ins)), some (.da (.int (y : Int))), some (.ac (((A.take i).filter fun a => decide (a.s = y)).map (exD ins))), x4, x5]) <| ei_seq <| ev_var rfl ⟨_, .inl rfl, ⟨none, none, by simp [ctx0, List.replicate]⟩, fun i d c' hd hw => ?_, fun c' hw => ?_⟩
    · obtain ⟨x4, x5, rfl⟩ := hw
      obtain ⟨a, hA, rfl⟩ := at_map hd
      have hAm := List.mem_of_getElem? hA
      have hil := (List.getElem?_eq_some_iff.mp hA).1
      have hfew := h1.snd.few
      refine ⟨_, _, tg_name, se_if <| et_test <| ev_op <| ev_op <| ev_var rfl <| ev_int <| op_ixT (atI_nat (j := 0) rfl) <| ev_var rfl <| op_eqI ⟨_, rfl, fun h => ?_, fun h => ?_⟩⟩
      · have hs : a.s = y := by
          have := of_decide_eq_true h
          omega
        refine se_app rfl <| ev_tup <| ea_cons <| ev_tupL (x := .da .none) <| ev_ofF <| ef_lc (fun i acc => acc = (a.b.take i).map fun n => PyData.int ((ins.idxOf n : Nat) : Int)) <| ei_seq <| ev_op <| ev_var rfl <| ev_int <| op_ixT (atI_nat (j := 1) rfl) ⟨_, .inr rfl, rfl, ?_, fun j d acc hd ha => ?_, fun acc ha => ?_⟩
        · have := (h1.snd.ib a hAm).2.length_le
          have := h1.nms.nok.1
          simp
          omega
        · obtain ⟨n, hn, rfl⟩ := at_map hd
          have hmem := h1.bin hAm n (List.mem_of_getElem? hn)
          refine ⟨_, _, tg_name, by simp, et_yes ⟨fun _ => ev_bm <| ev_var rfl ⟨rfl, ea_cons <| ev_var rfl <| ea_nil <| mt_ixN hmem h1.nms.nok.2 ⟨_, rfl, ?_⟩⟩, nofun⟩⟩
          rw [ha, take_snoc hn, List.map_append]
          rfl
        · subst ha
          rw [List.take_of_length_le (by simp)]
          refine ⟨_, rfl, ?_⟩
          refine ea_cons <| ev_op <| ev_var rfl <| ev_int <| op_ixT (atI_nat (j := 1) rfl) <| ea_cons <| ev_op <| ev_var rfl <| ev_int <| op_ixT (atI_nat (j := 2) rfl) <| ea_cons <| ev_op <| ev_var rfl <| ev_int <| op_ixT (atI_nat (j := 3) rfl) <| ea_nil ⟨[key ins a, nmT a.b, nmT a.f, .int (a.t : Int)], ?_, by simp, _, rfl, ?_, some (.da (arcD a)), x5, ?_⟩
          · simp [key, intsT]
          · have := List.length_filter_le (fun a => decide (a.s = y)) (A.take i)
            simp at this ⊢
            omega
          · rw [take_snoc hA, List.filter_append, List.map_append]
            simp [hs, exD]
      · have hs : ¬ a.s = y := by
          have := of_decide_eq_false h
          omega
        refine se_next ⟨some (.da (arcD a)), x5, ?_⟩
        rw [take_snoc hA, List.filter_append, List.map_append]
        simp [hs]
    · obtain ⟨x4, x5, rfl⟩ := hw
      rw [List.take_of_length_le (by simp), ← hF]
      refine se_ret <| ev_ofF <| ef_cb <| ea_cons <| ev_var rfl <| ea_nil <| cb_sorted F (exD ins) rfl (clean_exD ins) (PySem.W.AllAlike.of fun a c => alike_exD ins a c) (.inl fun d hd => ?_) (fun a ha => ?_) ⟨rfl, ?_⟩
      · obtain ⟨a, _, rfl⟩ := List.mem_map.mp hd
        exact ⟨_, _, rfl⟩
      · rw [hF] at ha
        have := (List.mem_filter.mp ha).1
        exact Nat.le_trans (ok_exD (ins := ins) (h1.bok this) (h1.fok this)).2.2 (by decide)
      · rw [hF, sort_full h1]
        exact hk
abbrev s_l_first_unlike : Stmt := topS 54
theorem sc_l_first_unlike : FnScope ["_law_inputs", "_law_left", "_law_right", "_law_known", "_law_paths", "_law_k", "_law_mine", "_law_places", "_law_burst", "_law_flips", "_law_after", "_law_row", "_law_hits", "_law_arc"] ["_law_inputs", "_law_left", "_law_right"] (defScope s_l_first_unlike) := ⟨rfl, rfl, rfl, by decide +kernel, rfl, by decide +kernel, by decide +kernel⟩
-- slots: 0 _law_inputs, 1 _law_left, 2 _law_right, 3 _law_known, 4 _law_paths, 5 _law_k, 6 _law_mine, 7 _law_places, 8 _law_burst, 9 _law_flips, 10 _law_after, 11 _law_row, 12 _law_hits, 13 _law_arc; calls: _law_exits; constants: 
theorem ok_l_first_unlike {f : Addr} {fd : FuncData} {q : Str} (F : Fun K "_law_first_unlike" q s_l_first_unlike f fd) (B : Bt mg) (C_l_exits : Cal P w K mg base 1 "_law_exits" ["_law_arcs_here", "_law_inputs", "_law_place"] (spD preExits)) : FnOk P w K mg base CX0 2 f fd ["_law_inputs", "_law_left", "_law_right"] (spD preFirst) := by
  obtain ⟨f__law_exits, fd__law_exits, G__law_exits, m__law_exits, k__law_exits, b__law_exits⟩ := C_l_exits.ex
  refine F.ok sc_l_first_unlike (fun vs H Q E h => ?_) (fun cdv A outer s H vs Q E hr h => ?_)
  · obtain ⟨T, h⟩ := h
    exact spT_len (fun as k kf hp => by obtain ⟨_, _, _, _, rfl, _⟩ := hp; rfl) h
  · obtain ⟨T, h⟩ := h
    have hu := hu_of hr
    have r__law_exits := hr.mono (show 1 ≤ 1 by decide)
    refine ⟨_, (pss_cons (ps_set (i := 3) sc_l_first_unlike.nd rfl (.inl rfl) (pe_lst (pa_cons (pe_tup (pa_cons pe_int (pa_cons pe_int pa_nil))) pa_nil)))
      (pss_cons (ps_set (i := 4) sc_l_first_unlike.nd rfl (.inl rfl) (pe_lst (pa_cons (pe_lst pa_nil) pa_nil)))
      (pss_cons (ps_for PassesOwn.never rfl (pi_range1 rfl B.range_ (pa_cons pe_int pa_nil)) (pg_name (i := 5) sc_l_first_unlike.nd rfl (.inl rfl))
      (pss_one (ps_if (pt_cmpR op_lt (pv 5) (pe_callB (k_len K rfl) (by rfl) B.len_ PySem.boot_len (pa_cons (pv 3) pa_nil)) (nomark _)) (pss_cons (ps_set (i := 6) sc_l_first_unlike.nd rfl (.inl rfl) (pe_call G__law_exits r__law_exits (by rfl) m__law_exits k__law_exits b__law_exits .nil pass0 (pa_cons (pv 1) (pa_cons (pv 0) (pa_cons (pe_ix (k_ixT K rfl) (pe_ix (k_ixL K rfl) (pv 3) (pv 5) (fun _ _ => rfl)) pe_int (fun _ _ => rfl)) pa_nil)))))
      (pss_one (ps_for PassesOwn.never rfl (k_seq K rfl (pe_call G__law_exits r__law_exits (by rfl) m__law_exits k__law_exits b__law_exits .nil pass0 (pa_cons (pv 2) (pa_cons (pv 0) (pa_cons (pe_ix (k_ixT K rfl) (pe_ix (k_ixL K rfl) (pv 3) (pv 5) (fun _ _ => rfl)) pe_int (fun _ _ => rfl)) pa_nil))))) (k_pgTup K rfl (n := 4) rfl (pgs_cons (pg_name (i := 7) sc_l_first_unlike.nd rfl (.inl rfl)) (pgs_cons (pg_name (i := 8) sc_l_first_unlike.nd rfl (.inr rfl)) (pgs_cons (pg_name (i := 9) sc_l_first_unlike.nd rfl (.inl rfl)) (pgs_cons (pg_name (i := 10) sc_l_first_unlike.nd rfl (.inl rfl)) pgs_nil)))))
      (pss_cons (ps_set (i := 11) sc_l_first_unlike.nd rfl (.inl rfl) (pe_op op_cat (pe_ix (k_ixL K rfl) (pv 4) (pv 5) (fun _ _ => rfl)) (pe_lst (pa_cons (pv 8) pa_nil))))
      (pss_cons (ps_setLc (i := 12) (own := [("_law_arc", 13)]) rfl sc_l_first_unlike.nd rfl rfl (sw_true rfl rfl rfl (by decide +kernel)) (k_seq K rfl (pv 6)) (blkOk_by (N := ["_law_inputs", "_law_left", "_law_right", "_law_known", "_law_paths", "_law_k", "_law_mine", "_law_places", "_law_burst", "_law_flips", "_law_after", "_law_row", "_law_hits", "_law_arc"]) (sc := defScope s_l_first_unlike) (by decide +kernel)) (fun _ _ _ _ _ => (pg_name (i := 13) sc_l_first_unlike.nd rfl (.inl rfl))) (fun _ _ _ _ _ => pts_one (pt_cmpR (k_eqD K rfl (hu64 hr)) (pe_ix (k_ixT K rfl) (pv 13) pe_int (fun _ _ => rfl)) (pv 8) (nomark _))) (fun _ _ _ _ _ => (pv 13)))
      (pss_cons (ps_if (pw_or (pt_cmpR (k_eqD K rfl (hu64 hr)) (pv 12) (pe_lst pa_nil) (nomark _)) (pw_or1 (pt_cmpR (k_neD K rfl (hu64 hr)) (pe_ix (k_ixT K rfl) (pe_ix (k_ixL K rfl) (pv 12) pe_int (fun _ _ => rfl)) pe_int (fun _ _ => rfl)) (pv 9) (nomark _)))).pt (pss_one (ps_ret (pv 11))) pss_nil)
      (pss_one (ps_if (pt_cmpR (k_notInD K rfl (hu65 hr)) (pe_tup (pa_cons (pe_ix (k_ixT K rfl) (pe_ix (k_ixL K rfl) (pv 12) pe_int (fun _ _ => rfl)) pe_int (fun _ _ => rfl)) (pa_cons (pv 10) pa_nil))) (pv 3) (by with_unfolding_all rfl)) (pss_cons (ps_expr (k_bm K rfl PySem.F.plainAttrs_list PySem.F.slot_list_append PySem.F.type_list_append mt_append (pv 3) (pa_cons (pe_tup (pa_cons (pe_ix (k_ixT K rfl) (pe_ix (k_ixL K rfl) (pv 12) pe_int (fun _ _ => rfl)) pe_int (fun _ _ => rfl)) (pa_cons (pv 10) pa_nil))) pa_nil)))
      (pss_one (ps_expr (k_bm K rfl PySem.F.plainAttrs_list PySem.F.slot_list_append PySem.F.type_list_append mt_append (pv 4) (pa_cons (pv 11) pa_nil))))) pss_nil)))))))) pss_nil)))
      (pss_one (ps_ret pe_non))))), body h fun g as k kf hT hst hp => ?_⟩
    obtain ⟨ins, outs, AL, AR, rfl, h1, h2, hk⟩ := hp
    have l16 : ∀ y, (exits ins AR y).length ≤ 16 := fun y => Nat.le_trans (exits_len y) h2.snd.few
    have m16 : ∀ y, (exits ins AL y).length ≤ 16 := fun y => Nat.le_trans (exits_len y) h1.snd.few
    refine se_seq <| se_asgF <| ef_lst <| ea_cons <| ev_tup <| ea_cons <| ev_int <| ea_cons <| ev_int <| ea_nil ⟨[.int 0, .int 0], rfl, by decide, ea_nil ⟨[.tuple [.int 0, .int 0]], rfl, by decide, ?_⟩⟩
    refine se_seq <| se_asgF <| ef_lst <| ea_cons <| ev_ofF <| ef_lst <| ea_nil ⟨[], rfl, by decide, ea_nil ⟨[.list []], rfl, by decide, ?_⟩⟩
    refine se_seq <| se_for (fun i c' => ∃ (Q : List (Bst.Ent Str)) (x5 x6 x7 x8 x9 x10 x11 x12 : Option Vl), Q.length ≤ 1 + 16 * i ∧ (∀ e ∈ Q, e.2.length ≤ Q.length) ∧ Bst.told AL (exits ins AR) = Bst.bfs AL (exits ins AR) (64 - i) i Q ∧ c' = [some (.da (nmL ins)), some (.da (arcsL AL)), some (.da (arcsL AR)), some (.ac ((Q.map (·.1)).map edgD)), some (.ac ((Q.map (·.2)).map rowD)), x5, x6, x7, x8, x9, x10, x11, x12, none]) <| ei_rng <| ea_cons <| ev_int <| ea_nil ⟨64, rfl, by decide, ⟨[((0, 0), [])], none, none, none, none, none, none, none, none, by simp, by simp, rfl, by simp [ctx0, List.replicate, edgD, rowD]⟩, fun i d c' hd hw => ?_, fun c' hw => ?_⟩
    · obtain ⟨Q, x5, x6, x7, x8, x9, x10, x11, x12, q1, q0, q2, rfl⟩ := hw
      have hi : i < 64 := by
        have := (List.getElem?_eq_some_iff.mp hd).1
        simpa [rngD] using this
      have ed : d = .int (i : Int) := by
        unfold rngD at hd
        rw [List.getElem?_map, List.getElem?_range hi] at hd
        cases hd
        rfl
      subst ed
      have e64 : 64 - i = (64 - (i + 1)) + 1 := by omega
      refine ⟨_, _, tg_name, se_if <| et_test <| ev_op <| ev_var rfl <| ev_cb <| ea_cons <| ev_var rfl <| ea_nil <| cb_len rfl <| op_b0 ⟨_, rfl, fun h => ?_, fun h => ?_⟩⟩
      · have hlt : i < Q.length := by
          have := of_decide_eq_true h
          simp at this
          omega
        obtain ⟨e, he⟩ : ∃ e, Q[i]? = some e := ⟨_, List.getElem?_eq_getElem hlt⟩
        rw [e64, Bst.bfs, he] at q2
        dsimp only at q2
        have ge1 : ((Q.map (·.1)).map edgD)[i]? = some (edgD e.1) := map_get (map_get he)
        refine se_seq <| se_asg <| ev_callP <| ea_cons <| ev_var rfl <| ea_cons <| ev_var rfl <| ea_cons <| ev_op <| ev_op <| ev_var rfl <| ev_var rfl <| op_ixL rfl (atI_nat ge1) <| ev_int <| op_ixT (atI_nat (j := 0) rfl) <| ea_nil ⟨colds rfl, ins, outs, AL, e.1.1, rfl, h1, rfl, ?_⟩
        refine se_for (fun j c' => ∃ (Q' : List (Bst.Ent Str)) (x7 x8 x9 x10 x11 x12 : Option Vl), Q'.length ≤ Q.length + j ∧ (∀ e ∈ Q', e.2.length ≤ Q'.length) ∧ Q'[i]? = some e ∧ Bst.inner AL e.1.1 e.2 (exits ins AR e.1.2) Q = Bst.inner AL e.1.1 e.2 ((exits ins AR e.1.2).drop j) Q' ∧ c' = [some (.da (nmL ins)), some (.da (arcsL AL)), some (.da (arcsL AR)), some (.ac ((Q'.map (·.1)).map edgD)), some (.ac ((Q'.map (·.2)).map rowD)), some (.da (.int (i : Int))), some (.da (.list ((exits ins AL e.1.1).map (exD ins)))), x7, x8, x9, x10, x11, x12, none]) <| ei_seq <| ev_callP <| ea_cons <| ev_var rfl <| ea_cons <| ev_var rfl <| ea_cons <| ev_op <| ev_op <| ev_var rfl <| ev_var rfl <| op_ixL rfl (atI_nat ge1) <| ev_int <| op_ixT (atI_nat (j := 1) rfl) <| ea_nil ⟨colds rfl, ins, outs, AR, e.1.2, rfl, h2, _, .inl rfl, ⟨Q, x7, x8, x9, x10, x11, x12, Nat.le_refl _, q0, he, rfl, rfl⟩, fun j d c' hd hw => ?_, fun c' hw => ?_⟩
        · obtain ⟨Q', x7, x8, x9, x10, x11, x12, p1, p0, p2, p3, rfl⟩ := hw
          obtain ⟨a, ha, rfl⟩ := at_map hd
          have hj := (List.getElem?_eq_some_iff.mp ha).1
          have hl := l16 e.1.2
          have hdr : (exits ins AR e.1.2).drop j = a :: (exits ins AR e.1.2).drop (j + 1) := by
            rw [List.drop_eq_getElem_cons hj]
            rw [(List.getElem?_eq_some_iff.mp ha).2]
          rw [hdr, Bst.inner] at p3
          have am := mem_exits.mp (List.mem_of_getElem? ha)
          have ge2 : ((Q'.map (·.2)).map rowD)[i]? = some (rowD e.2) := map_get (map_get p2)
          refine ⟨_, _, tg_tup rfl (tgs_cons tg_name <| tgs_cons tg_name <| tgs_cons tg_name <| tgs_cons tg_name tgs_nil), ?_⟩
          refine se_seq <| se_asg <| ev_ofF <| ef_op <| ev_op <| ev_var rfl <| ev_var rfl <| op_ixL rfl (atI_nat ge2) <| ev_ofF <| ef_lst <| ea_cons <| ev_var rfl <| ea_nil ⟨[nmT a.b], rfl, by simp, op_cat rfl rfl ?_ ⟨rfl, ?_⟩⟩
          · have := q0 e (List.mem_of_getElem? he)
            simp
            omega
          obtain ⟨hits, hhits⟩ : ∃ hits, hits = (exits ins AL e.1.1).filter fun c => decide (c.b = a.b) := ⟨_, rfl⟩
          have hlook : hits.head? = Bst.look AL e.1.1 a.b := by rw [hhits]; exact exits_hit h1 _ _
          have hrow : PyData.list ((e.2.map nmT) ++ [nmT a.b]) = rowD (e.2 ++ [a.b]) := by simp [rowD]
          rw [hrow]
          have hml := m16 e.1.1
          refine se_seq <| se_asg <| ev_ofF <| ef_lc (fun l acc => acc = (((exits ins AL e.1.1).take l).filter fun c => decide (c.b = a.b)).map (exD ins)) <| ei_seq <| ev_var rfl ⟨_, .inl rfl, rfl, by simp; omega, fun l d acc hd hacc => ?_, fun acc hacc => ?_⟩
          · obtain ⟨c, hc, rfl⟩ := at_map hd
            have cm := mem_exits.mp (List.mem_of_getElem? hc)
            refine ⟨_, _, tg_name, by simp, et_test <| ev_op <| ev_op <| ev_var rfl <| ev_int <| op_ixT (atI_nat (j := 1) rfl) <| ev_var rfl <| op_eqT (h1.bok cm.1) (h2.bok am.1) ⟨_, rfl, fun h => ?_, fun h => ?_⟩⟩
            · have hb : c.b = a.b := of_decide_eq_true h
              refine ev_var rfl ⟨_, rfl, ?_⟩
              rw [hacc, take_snoc hc, List.filter_append, List.map_append]
              simp [hb]
            · have hb : ¬ c.b = a.b := of_decide_eq_false h
              rw [hacc, take_snoc hc, List.filter_append, List.map_append]
              simp [hb]
          · subst hacc
            rw [List.take_of_length_le (by simp), ← hhits]
            refine ⟨rfl, ?_⟩
            have hok : okD (.list (hits.map (exD ins))) = true := (Ok.lst (n := 2) fun d hd => by
              obtain ⟨c, hc, rfl⟩ := List.mem_map.mp hd
              rw [hhits] at hc
              have cm := mem_exits.mp (List.mem_filter.mp hc).1
              exact ok_exD (h1.bok cm.1) (h1.fok cm.1)).d (by decide)
            refine se_seq <| se_if <| et_or <| et_test <| ev_op <| ev_var rfl <| ev_ofF <| ef_lst <| ea_nil ⟨[], rfl, by decide, op_eqNil rfl hok ⟨_, rfl, fun h => ?_, fun h => ?_⟩⟩
            · have hn : hits = [] := by simpa using h
              rw [hn] at hlook
              rw [← hlook] at p3
              dsimp only [List.head?] at p3
              rw [p3] at q2
              rw [q2] at hk
              exact ⟨fun _ => se_ret (ev_var rfl ⟨rfl, hk⟩), nofun⟩
            · cases hh : hits with
              | nil =>
                rw [hh] at h
                cases h
              | cons c rest =>
                rw [hh] at hlook
                rw [← hlook] at p3
                dsimp only [List.head?] at p3
                have cm : c ∈ AL := by
                  have : c ∈ hits := by rw [hh]; simp
                  rw [hhits] at this
                  exact (mem_exits.mp (List.mem_filter.mp this).1).1
                refine et_test <| ev_op <| ev_op <| ev_op <| ev_var rfl <| ev_int <| op_ixL rfl (atI_nat (j := 0) rfl) <| ev_int <| op_ixT (atI_nat (j := 2) rfl) <| ev_var rfl <| op_neT (h1.fok cm) (h2.fok am.1) ⟨_, rfl, fun h => ?_, fun h => ?_⟩
                · have hf : ¬ c.f = a.f := by simpa using h
                  rw [if_neg hf] at p3
                  rw [p3] at q2
                  rw [q2] at hk
                  exact se_ret (ev_var rfl ⟨rfl, hk⟩)
                · have hf : c.f = a.f := by simpa using h
                  rw [if_pos hf] at p3
                  refine se_next <| se_if <| et_test <| ev_op <| ev_tup <| ea_cons <| ev_op <| ev_op <| ev_var rfl <| ev_int <| op_ixL rfl (atI_nat (j := 0) rfl) <| ev_int <| op_ixT (atI_nat (j := 3) rfl) <| ea_cons <| ev_var rfl <| ea_nil ⟨[.int (c.t : Int), .int (a.t : Int)], rfl, by simp, ev_var rfl <| op_niE (e := (c.t, a.t)) rfl ⟨_, rfl, fun h => ?_, fun h => ?_⟩⟩
                  · have hnew : ¬ (Q'.any fun e => decide (e.1 = (c.t, a.t))) = true := fun z => by
                      obtain ⟨q, hq, hq2⟩ := List.any_eq_true.mp z
                      have : (c.t, a.t) ∈ Q'.map (·.1) := List.mem_map.mpr ⟨q, hq, of_decide_eq_true hq2⟩
                      simp [this] at h
                    rw [if_neg hnew] at p3
                    have hql : Q'.length ≤ 100 * 16 := by omega
                    refine se_seq <| se_app rfl <| ev_tup <| ea_cons <| ev_op <| ev_op <| ev_var rfl <| ev_int <| op_ixL rfl (atI_nat (j := 0) rfl) <| ev_int <| op_ixT (atI_nat (j := 3) rfl) <| ea_cons <| ev_var rfl <| ea_nil ⟨[.int (c.t : Int), .int (a.t : Int)], rfl, by simp, _, rfl, by simp; omega, ?_⟩
                    refine se_app rfl <| ev_var rfl ⟨_, rfl, by simp; omega, Q' ++ [((c.t, a.t), e.2 ++ [a.b])], some (.da (key ins a)), some (.da (nmT a.b)), some (.da (nmT a.f)), some (.da (.int (a.t : Int))), some (.da (rowD (e.2 ++ [a.b]))), some (.da (.list ((c :: rest).map (exD ins)))), ?_, ?_, ?_, p3, ?_⟩
                    · simp
                      omega
                    · intro q hq
                      rcases List.mem_append.mp hq with hq | hq
                      · have := p0 q hq
                        simp
                        omega
                      · have hq : q = ((c.t, a.t), e.2 ++ [a.b]) := by simpa using hq
                        subst hq
                        have := p0 e (List.mem_of_getElem? p2)
                        simp
                        omega
                    · exact Bst.get_snoc p2
                    · simp [edgD]
                  · have hold : (Q'.any fun e => decide (e.1 = (c.t, a.t))) = true := by
                      have hm : (c.t, a.t) ∈ Q'.map (·.1) := by simpa using h
                      obtain ⟨q, hq, hq2⟩ := List.mem_map.mp hm
                      exact List.any_eq_true.mpr ⟨q, hq, decide_eq_true hq2⟩
                    rw [if_pos hold] at p3
                    exact se_next ⟨Q', _, _, _, _, _, _, by omega, p0, p2, p3, rfl⟩
        · obtain ⟨Q', x7, x8, x9, x10, x11, x12, p1, p0, p2, p3, rfl⟩ := hw
          have ed : (exits ins AR e.1.2).drop ((exits ins AR e.1.2).map (exD ins)).length = [] := by simp
          rw [ed, Bst.inner] at p3
          rw [p3] at q2
          have hl := l16 e.1.2
          refine ⟨Q', _, _, _, _, _, _, _, _, ?_, p0, q2, rfl⟩
          simp at p1
          omega
      · have hge : Q.length ≤ i := by
          have := of_decide_eq_false h
          simp at this
          omega
        have hn : Q[i]? = none := List.getElem?_eq_none hge
        rw [bfs_none hn] at q2
        refine se_next ⟨Q, _, _, _, _, _, _, _, _, by omega, q0, ?_, rfl⟩
        rw [q2, bfs_none (List.getElem?_eq_none (by omega))]
    · obtain ⟨Q, x5, x6, x7, x8, x9, x10, x11, x12, q1, q0, q2, rfl⟩ := hw
      have e : 64 - (rngD 64).length = 0 := by simp [rngD]
      rw [e, Bst.bfs] at q2
      rw [q2] at hk
      exact se_ret (ev_non ⟨rfl, hk⟩)
abbrev s_l_rows : Stmt := topS 56
theorem sc_l_rows : FnScope ["_law_arcs_here", "_law_inputs", "_law_most", "_law_level", "_law_found", "_law_k", "_law_later", "_law_row", "_law_place", "_law_places", "_law_burst", "_law_flips", "_law_after"] ["_law_arcs_here", "_law_inputs", "_law_most"] (defScope s_l_rows) := ⟨rfl, rfl, rfl, by decide +kernel, rfl, by decide +kernel, by decide +kernel⟩
-- slots: 0 _law_arcs_here, 1 _law_inputs, 2 _law_most, 3 _law_level, 4 _law_found, 5 _law_k, 6 _law_later, 7 _law_row, 8 _law_place, 9 _law_places, 10 _law_burst, 11 _law_flips, 12 _law_after; calls: _law_exits; constants: 
theorem ok_l_rows {f : Addr} {fd : FuncData} {q : Str} (F : Fun K "_law_rows" q s_l_rows f fd) (B : Bt mg) (C_l_exits : Cal P w K mg base 1 "_law_exits" ["_law_arcs_here", "_law_inputs", "_law_place"] (spD preExits)) : FnOk P w K mg base CX0 2 f fd ["_law_arcs_here", "_law_inputs", "_law_most"] (spD preRows) := by
  obtain ⟨f__law_exits, fd__law_exits, G__law_exits, m__law_exits, k__law_exits, b__law_exits⟩ := C_l_exits.ex
  refine F.ok sc_l_rows (fun vs H Q E h => ?_) (fun cdv A outer s H vs Q E hr h => ?_)
  · obtain ⟨T, h⟩ := h
    exact spT_len (fun as k kf hp => by obtain ⟨_, _, _, rfl, _⟩ := hp; rfl) h
  · obtain ⟨T, h⟩ := h
    have hu := hu_of hr
    have r__law_exits := hr.mono (show 1 ≤ 1 by decide)
    refine ⟨_, (pss_cons (ps_set (i := 3) sc_l_rows.nd rfl (.inl rfl) (pe_lst (pa_cons (pe_tup (pa_cons (pe_lst pa_nil) (pa_cons pe_int pa_nil))) pa_nil)))
      (pss_cons (ps_set (i := 4) sc_l_rows.nd rfl (.inl rfl) (pe_lst (pa_cons (pe_lst pa_nil) pa_nil)))
      (pss_cons (ps_for PassesOwn.never rfl (pi_range1 rfl B.range_ (pa_cons (pv 2) pa_nil)) (pg_name (i := 5) sc_l_rows.nd rfl (.inl rfl))
      (pss_cons (ps_set (i := 6) sc_l_rows.nd rfl (.inl rfl) (pe_lst pa_nil))
      (pss_cons (ps_for PassesOwn.never rfl (k_seq K rfl (pv 3)) (k_pgTup K rfl (n := 2) rfl (pgs_cons (pg_name (i := 7) sc_l_rows.nd rfl (.inl rfl)) (pgs_cons (pg_name (i := 8) sc_l_rows.nd rfl (.inl rfl)) pgs_nil)))
      (pss_one (ps_for PassesOwn.never rfl (k_seq K rfl (pe_call G__law_exits r__law_exits (by rfl) m__law_exits k__law_exits b__law_exits .nil pass0 (pa_cons (pv 0) (pa_cons (pv 1) (pa_cons (pv 8) pa_nil))))) (k_pgTup K rfl (n := 4) rfl (pgs_cons (pg_name (i := 9) sc_l_rows.nd rfl (.inl rfl)) (pgs_cons (pg_name (i := 10) sc_l_rows.nd rfl (.inl rfl)) (pgs_cons (pg_name (i := 11) sc_l_rows.nd rfl (.inl rfl)) (pgs_cons (pg_name (i := 12) sc_l_rows.nd rfl (.inl rfl)) pgs_nil)))))
      (pss_one (ps_expr (k_bm K rfl PySem.F.plainAttrs_list PySem.F.slot_list_append PySem.F.type_list_append mt_append (pv 6) (pa_cons (pe_tup (pa_cons (pe_op op_cat (pv 7) (pe_lst (pa_cons (pv 10) pa_nil))) (pa_cons (pv 12) pa_nil))) pa_nil)))))))
      (pss_cons (ps_set (i := 3) sc_l_rows.nd rfl (.inl rfl) (pv 6))
      (pss_one (ps_set (i := 4) sc_l_rows.nd rfl (.inl rfl) (pe_op op_cat (pv 4) (pe_lc (own := [("_law_row", 7)]) rfl sc_l_rows.nd (k_seq K rfl (pv 3)) (blkOk_by (N := ["_law_arcs_here", "_law_inputs", "_law_most", "_law_level", "_law_found", "_law_k", "_law_later", "_law_row", "_law_place", "_law_places", "_law_burst", "_law_flips", "_law_after"]) (sc := defScope s_l_rows) (by decide +kernel)) (fun _ _ _ _ _ => (pg_name (i := 7) sc_l_rows.nd rfl (.inl rfl))) (fun _ _ _ _ _ => pts_nil) (fun _ _ _ _ _ => (pe_ix (k_ixT K rfl) (pv 7) pe_int (fun _ _ => rfl)))))))))))
      (pss_one (ps_ret (pv 4)))))), body h fun g as k kf hT hst hp => ?_⟩
    obtain ⟨ins, outs, A, rfl, h1, hk⟩ := hp
    have l16 : ∀ y, (exits ins A y).length ≤ 16 := fun y => Nat.le_trans (exits_len y) h1.snd.few
    have lvl := lev_len (exits ins A) l16
    have rlen : ∀ n, n ≤ 4 → (Bst.lev (exits ins A) n).length ≤ 65536 ∧ (Bst.rows (exits ins A) n).length ≤ 70000 := fun n hn => by
      have l0 := lvl 0
      have l1 := lvl 1
      have l2 := lvl 2
      have l3 := lvl 3
      have l4 := lvl 4
      rcases n with _ | _ | _ | _ | _ | n
      · exact ⟨by simpa using Nat.le_trans l0 (by decide), by simp [Bst.rows]⟩
      · refine ⟨Nat.le_trans l1 (by decide), ?_⟩
        simp [Bst.rows] at l1 ⊢
        omega
      · refine ⟨Nat.le_trans l2 (by decide), ?_⟩
        simp [Bst.rows] at l1 l2 ⊢
        omega
      · refine ⟨Nat.le_trans l3 (by decide), ?_⟩
        simp [Bst.rows] at l1 l2 l3 ⊢
        omega
      · refine ⟨Nat.le_trans l4 (by decide), ?_⟩
        simp [Bst.rows] at l1 l2 l3 l4 ⊢
        omega
      · omega
    obtain ⟨lvD, hlvD⟩ : ∃ lvD : Bst.Row Str × Nat → PyData, lvD = fun p => .tuple [rowD p.1, .int (p.2 : Int)] := ⟨_, rfl⟩
    have rl : ∀ n, ∀ p ∈ Bst.lev (exits ins A) n, p.1.length = n := fun n p hp => ((Bst.lev_ok (sys_of h1 h1) n).1 p hp).1
    refine se_seq <| se_asg <| ev_ofF <| ef_lst <| ea_cons <| ev_tup <| ea_cons <| ev_ofF <| ef_lst <| ea_nil ⟨[], rfl, by decide, ea_cons <| ev_int <| ea_nil ⟨[.list [], .int 0], rfl, by decide, ea_nil ⟨[.tuple [.list [], .int 0]], rfl, by decide, rfl, ?_⟩⟩⟩
    refine se_seq <| se_asg <| ev_ofF <| ef_lst <| ea_cons <| ev_ofF <| ef_lst <| ea_nil ⟨[], rfl, by decide, ea_nil ⟨[.list []], rfl, by decide, rfl, ?_⟩⟩
    refine se_seq <| se_for (fun i c' => ∃ (x5 x6 x7 x8 x9 x10 x11 x12 : Option Vl), c' = [some (.da (arcsL A)), some (.da (nmL ins)), some (.da (.int 4)), some (.da (.list ((Bst.lev (exits ins A) i).map lvD))), some (.da (.list ((Bst.rows (exits ins A) i).map rowD))), x5, x6, x7, x8, x9, x10, x11, x12]) <| ei_rng <| ea_cons <| ev_var rfl <| ea_nil ⟨4, rfl, by decide, ⟨none, none, none, none, none, none, none, none, ?_⟩, fun i d c' hd hw => ?_, fun c' hw => ?_⟩
    · rw [hlvD]
      simp [ctx0, List.replicate, Bst.lev, Bst.rows, rowD]
    · obtain ⟨x5, x6, x7, x8, x9, x10, x11, x12, rfl⟩ := hw
      have hi : i < 4 := by
        have := (List.getElem?_eq_some_iff.mp hd).1
        simpa [rngD] using this
      obtain ⟨r1, r2⟩ := rlen (i + 1) (by omega)
      obtain ⟨r3, r4⟩ := rlen i (by omega)
      have step : ∀ p : Bst.Row Str × Nat, (((exits ins A p.2).map fun a => (p.1 ++ [a.b], a.t)) : List (Bst.Row Str × Nat)).length ≤ 16 := fun p => by
        rw [List.length_map]
        exact l16 _
      obtain ⟨nxt, hnxt⟩ : ∃ nxt : Bst.Row Str × Nat → List (Bst.Row Str × Nat), nxt = fun p => (exits ins A p.2).map fun a => (p.1 ++ [a.b], a.t) := ⟨_, rfl⟩
      have elev : Bst.lev (exits ins A) (i + 1) = (Bst.lev (exits ins A) i).flatMap nxt := by rw [Bst.lev, hnxt]
      refine ⟨_, _, tg_name, se_seq <| se_asgF <| ef_lst <| ea_nil ⟨[], rfl, by decide, ?_⟩⟩
      obtain ⟨L, hL⟩ : ∃ L, L = Bst.lev (exits ins A) i := ⟨_, rfl⟩
      refine se_seq <| se_for (fun j c' => ∃ (x7 x8 x9 x10 x11 x12 : Option Vl), c' = [some (.da (arcsL A)), some (.da (nmL ins)), some (.da (.int 4)), some (.da (.list ((Bst.lev (exits ins A) i).map lvD))), some (.da (.list ((Bst.rows (exits ins A) i).map rowD))), some (.da d), some (.ac (((L.take j).flatMap nxt).map lvD)), x7, x8, x9, x10, x11, x12]) <| ei_seq <| ev_var rfl ⟨_, .inl rfl, ⟨x7, x8, x9, x10, x11, x12, by simp⟩, fun j d' c' hd' hw => ?_, fun c' hw => ?_⟩
      · obtain ⟨x7, x8, x9, x10, x11, x12, rfl⟩ := hw
        obtain ⟨p, hp, rfl⟩ := at_map hd'
        rw [← hL] at hp
        have hpl : p.1.length = i := rl i p (by rw [← hL]; exact List.mem_of_getElem? hp)
        have sub : ((L.take (j + 1)).flatMap nxt).length ≤ 65536 := by
          have h9 : ((L.take (j + 1)).flatMap nxt).length ≤ (L.flatMap nxt).length := by
            have := congrArg List.length (congrArg (List.flatMap nxt) (List.take_append_drop (j + 1) L))
            rw [List.flatMap_append, List.length_append] at this
            omega
          rw [hL, ← elev, ← hL] at h9
          omega
        have tk : (L.take (j + 1)).flatMap nxt = (L.take j).flatMap nxt ++ nxt p := by
          rw [take_snoc hp, List.flatMap_append]
          simp
        rw [hlvD]
        refine ⟨_, _, tg_tup rfl (tgs_cons tg_name (tgs_cons tg_name tgs_nil)), ?_⟩
        rw [← hlvD]
        refine se_for (fun l c' => ∃ (x9 x10 x11 x12 : Option Vl), c' = [some (.da (arcsL A)), some (.da (nmL ins)), some (.da (.int 4)), some (.da (.list ((Bst.lev (exits ins A) i).map lvD))), some (.da (.list ((Bst.rows (exits ins A) i).map rowD))), some (.da d), some (.ac (((L.take j).flatMap nxt ++ (nxt p).take l).map lvD)), some (.da (rowD p.1)), some (.da (.int (p.2 : Int))), x9, x10, x11, x12]) <| ei_seq <| ev_callP <| ea_cons <| ev_var rfl <| ea_cons <| ev_var rfl <| ea_cons <| ev_var rfl <| ea_nil ⟨colds rfl, ins, outs, A, p.2, rfl, h1, _, .inl rfl, ⟨x9, x10, x11, x12, by simp⟩, fun l d' c' hd' hw => ?_, fun c' hw => ?_⟩
        · obtain ⟨x9, x10, x11, x12, rfl⟩ := hw
          obtain ⟨a, ha, rfl⟩ := at_map hd'
          have hn : (nxt p)[l]? = some (p.1 ++ [a.b], a.t) := by
            rw [hnxt]
            exact map_get (f := fun a : Arc => (p.1 ++ [a.b], a.t)) ha
          refine ⟨_, _, tg_tup rfl (tgs_cons tg_name <| tgs_cons tg_name <| tgs_cons tg_name <| tgs_cons tg_name tgs_nil), ?_⟩
          refine se_app rfl <| ev_tup <| ea_cons <| ev_ofF <| ef_op <| ev_var rfl <| ev_ofF <| ef_lst <| ea_cons <| ev_var rfl <| ea_nil ⟨[nmT a.b], rfl, by simp, op_cat rfl rfl ?_ <| ea_cons <| ev_var rfl <| ea_nil ⟨[.list (p.1.map nmT ++ [nmT a.b]), .int (a.t : Int)], rfl, by simp, _, rfl, ?_, some (.da (key ins a)), some (.da (nmT a.b)), some (.da (nmT a.f)), some (.da (.int (a.t : Int))), ?_⟩⟩
          · simp
            omega
          · have h9 : ((nxt p).take l).length ≤ (nxt p).length := by
              rw [List.length_take]
              omega
            rw [tk, List.length_append] at sub
            rw [List.length_map, List.length_append]
            omega
          · rw [take_snoc hn, hlvD]
            simp [rowD]
        · obtain ⟨x9, x10, x11, x12, rfl⟩ := hw
          refine ⟨some (.da (rowD p.1)), some (.da (.int (p.2 : Int))), x9, x10, x11, x12, ?_⟩
          rw [tk]
          have e9 : (nxt p).take ((exits ins A p.2).map (exD ins)).length = nxt p := List.take_of_length_le (by rw [hnxt]; simp)
          rw [e9]
      · obtain ⟨x7, x8, x9, x10, x11, x12, rfl⟩ := hw
        have e9 : L.take ((Bst.lev (exits ins A) i).map lvD).length = L := List.take_of_length_le (by rw [hL]; simp)
        rw [e9, hL, ← elev]
        refine se_frz 6 rfl <| se_seq <| se_asg <| ev_var rfl ⟨rfl, ?_⟩
        refine se_asg <| ev_ofF <| ef_op <| ev_var rfl <| ev_ofF <| ef_lc (fun l acc => acc = ((Bst.lev (exits ins A) (i + 1)).take l).map fun p => rowD p.1) <| ei_seq <| ev_var rfl ⟨_, .inl rfl, rfl, by simp; omega, fun l d' acc hd' hacc => ?_, fun acc hacc => ?_⟩
        · obtain ⟨p, hp, rfl⟩ := at_map hd'
          rw [hlvD]
          refine ⟨_, _, tg_name, by simp, et_yes ⟨fun _ => ev_op <| ev_var rfl <| ev_int <| op_ixT (atI_nat (j := 0) rfl) ⟨_, rfl, ?_⟩, nofun⟩⟩
          rw [hacc, take_snoc hp, List.map_append]
          rfl
        · subst hacc
          rw [List.take_of_length_le (by simp)]
          have hr : (Bst.rows (exits ins A) (i + 1)).length = (Bst.rows (exits ins A) i).length + (Bst.lev (exits ins A) (i + 1)).length := by simp [Bst.rows]
          refine op_cat rfl rfl ?_ ⟨rfl, some (.da d), some (.da (.list ((Bst.lev (exits ins A) (i + 1)).map lvD))), x7, x8, x9, x10, x11, x12, ?_⟩
          · simp
            omega
          · simp [Bst.rows]
    · obtain ⟨x5, x6, x7, x8, x9, x10, x11, x12, rfl⟩ := hw
      have e : (rngD 4).length = 4 := by simp [rngD]
      rw [e]
      exact se_ret (ev_var rfl ⟨rfl, hk⟩)
abbrev s_l_judged : Stmt := topS 57
theorem sc_l_judged : FnScope ["_law_inputs", "_law_left", "_law_right", "_law_told", "_law_rows_here", "_law_row"] ["_law_inputs", "_law_left", "_law_right", "_law_told"] (defScope s_l_judged) := ⟨rfl, rfl, rfl, by decide +kernel, rfl, by decide +kernel, by decide +kernel⟩
-- slots: 0 _law_inputs, 1 _law_left, 2 _law_right, 3 _law_told, 4 _law_rows_here, 5 _law_row; calls: _law_rows, _law_answers; constants: 
theorem ok_l_judged {f : Addr} {fd : FuncData} {q : Str} (F : Fun K "_law_judged" q s_l_judged f fd) (B : Bt mg) (C_l_rows : Cal P w K mg base 2 "_law_rows" ["_law_arcs_here", "_law_inputs", "_law_most"] (spD preRows)) (C_l_answers : Cal P w K mg base 1 "_law_answers" ["_law_arcs_here", "_law_row"] (spD preAns)) : FnOk P w K mg base CX0 3 f fd ["_law_inputs", "_law_left", "_law_right", "_law_told"] (spD preJudged) := by
  obtain ⟨f__law_rows, fd__law_rows, G__law_rows, m__law_rows, k__law_rows, b__law_rows⟩ := C_l_rows.ex
  obtain ⟨f__law_answers, fd__law_answers, G__law_answers, m__law_answers, k__law_answers, b__law_answers⟩ := C_l_answers.ex
  refine F.ok sc_l_judged (fun vs H Q E h => ?_) (fun cdv A outer s H vs Q E hr h => ?_)
  · obtain ⟨T, h⟩ := h
    exact spT_len (fun as k kf hp => by obtain ⟨_, _, _, _, _, rfl, _⟩ := hp; rfl) h
  · obtain ⟨T, h⟩ := h
    have hu := hu_of hr
    have r__law_rows := hr.mono (show 2 ≤ 2 by decide)
    have r__law_answers := hr.mono (show 1 ≤ 2 by decide)
    refine ⟨_, (pss_cons (ps_set (i := 4) sc_l_judged.nd rfl (.inl rfl) (pe_call G__law_rows r__law_rows (by rfl) m__law_rows k__law_rows b__law_rows .nil pass0 (pa_cons (pv 2) (pa_cons (pv 0) (pa_cons pe_int pa_nil)))))
      (pss_cons (ps_for PassesOwn.never rfl (k_seq K rfl (pv 4)) (pg_name (i := 5) sc_l_judged.nd rfl (.inl rfl))
      (pss_cons (ps_if (pw_and (pt_cmpR op_notN (pv 3) pe_non (nomark _)) (pw_and1 (pt_cmpR (k_eqD K rfl (hu64 hr)) (pv 5) (pv 3) (nomark _)))).pt (pss_one (ps_ret (pe_cmpR (k_neD K rfl (hu64 hr)) (pe_call G__law_answers r__law_answers (by rfl) m__law_answers k__law_answers b__law_answers .nil pass0 (pa_cons (pv 1) (pa_cons (pv 5) pa_nil))) (pe_call G__law_answers r__law_answers (by rfl) m__law_answers k__law_answers b__law_answers .nil pass0 (pa_cons (pv 2) (pa_cons (pv 5) pa_nil))) (nomark _)))) pss_nil)
      (pss_one (ps_if (pt_cmpR (k_neD K rfl (hu64 hr)) (pe_call G__law_answers r__law_answers (by rfl) m__law_answers k__law_answers b__law_answers .nil pass0 (pa_cons (pv 1) (pa_cons (pv 5) pa_nil))) (pe_call G__law_answers r__law_answers (by rfl) m__law_answers k__law_answers b__law_answers .nil pass0 (pa_cons (pv 2) (pa_cons (pv 5) pa_nil))) (nomark _)) (pss_one (ps_ret pe_bl)) pss_nil))))
      (pss_one (ps_ret (pe_or (pe_cmpR op_isN (pv 3) pe_non (nomark _)) (pe_one (pe_and (pe_cmpR op_gt (pe_callB (k_len K rfl) (by rfl) B.len_ PySem.boot_len (pa_cons (pv 3) pa_nil)) pe_int (nomark _)) (pe_one (pe_cmpR (k_neD K rfl (hu64 hr)) (pe_call G__law_answers r__law_answers (by rfl) m__law_answers k__law_answers b__law_answers .nil pass0 (pa_cons (pv 1) (pa_cons (pv 3) pa_nil))) (pe_call G__law_answers r__law_answers (by rfl) m__law_answers k__law_answers b__law_answers .nil pass0 (pa_cons (pv 2) (pa_cons (pv 3) pa_nil))) (nomark _)))))))))), body h fun g as k kf hT hst hp => ?_⟩
    obtain ⟨ins, outs, AL, AR, t, rfl, h1, h2, h3, hk⟩ := hp
    have hrows := Bst.rows_ok (sys_of h2 h2) 4
    refine se_seq <| se_asg <| ev_callP <| ea_cons <| ev_var rfl <| ea_cons <| ev_var rfl <| ea_cons <| ev_int <| ea_nil ⟨colds rfl, ins, outs, AR, rfl, h2, rfl, ?_⟩
    have bsub : ∀ r ∈ Bst.rows (exits ins AR) 4, r.length ≤ 1000 ∧ ∀ b ∈ r, b.Sublist ins := fun r hr => by
      obtain ⟨q1, v, q2⟩ := hrows.1 r hr
      refine ⟨by omega, fun b hb => ?_⟩
      obtain ⟨a, ha, rfl⟩ := (ans_in q2).1 b hb
      exact (h2.snd.ib a ha).2
    have vok : ∀ {A : List Arc}, Mok ins outs A → ∀ (r v : List (List Str)), Bst.ans A 0 r = some v → ∀ b ∈ v, ∀ n ∈ b, PyData.strOk n = true := fun {A} hA r v hv b hb => by
      obtain ⟨a, ha, rfl⟩ := (ans_in hv).2 b hb
      exact hA.fok ha
    have rok : ∀ r : List (List Str), (∀ b ∈ r, b.Sublist ins) → ∀ b ∈ r, ∀ n ∈ b, PyData.strOk n = true := fun r hr b hb n hn => h1.nms.nok.2 n ((hr b hb).subset hn)
    have cmp : ∀ {c : Bd.Ctx} {k : Vl → Prop} {i : Nat} {r : List (List Str)}, c[1]? = some (some (.da (arcsL AL))) → c[2]? = some (some (.da (arcsL AR))) → c[i]? = some (some (.da (rowD r))) → r.length ≤ 1000 → (∀ b ∈ r, b.Sublist ins) → k (.da (.bool (!decide (Bst.ans AL 0 r = Bst.ans AR 0 r)))) → Ev g (tOp (rNeD K) (tCall (spD preAns) [] E0 (tCons (tVar 1) (tCons (tVar i) tNil))) (tCall (spD preAns) [] E0 (tCons (tVar 2) (tCons (tVar i) tNil)))) c k := fun {c k i r} e1 e2 ei hl hs q =>
      ev_op <| ev_callP <| ea_cons <| ev_var e1 <| ea_cons <| ev_var ei <| ea_nil ⟨colds rfl, ins, outs, AL, r, rfl, h1, hl, hs, ev_callP <| ea_cons <| ev_var e2 <| ea_cons <| ev_var ei <| ea_nil ⟨colds rfl, ins, outs, AR, r, rfl, h2, hl, hs, op_neO (vok h1 r) (vok h2 r) q⟩⟩
    refine se_seq <| se_for (fun i c' => ∃ x5, Bst.judge AL AR t (Bst.rows (exits ins AR) 4) = Bst.judge AL AR t ((Bst.rows (exits ins AR) 4).drop i) ∧ c' = [some (.da (nmL ins)), some (.da (arcsL AL)), some (.da (arcsL AR)), some (.da (rowO t)), some (.da (.list ((Bst.rows (exits ins AR) 4).map rowD))), x5]) <| ei_seq <| ev_var rfl ⟨_, .inl rfl, ⟨none, rfl, by simp [ctx0, List.replicate]⟩, fun i d c' hd hw => ?_, fun c' hw => ?_⟩
    · obtain ⟨x5, q1, rfl⟩ := hw
      obtain ⟨r, hr, rfl⟩ := at_map hd
      have hrm := List.mem_of_getElem? hr
      obtain ⟨rl, rs⟩ := bsub r hrm
      have hil := (List.getElem?_eq_some_iff.mp hr).1
      have hdr : (Bst.rows (exits ins AR) 4).drop i = r :: (Bst.rows (exits ins AR) 4).drop (i + 1) := by
        rw [List.drop_eq_getElem_cons hil]
        rw [(List.getElem?_eq_some_iff.mp hr).2]
      rw [hdr, Bst.judge] at q1
      have cln : clean (rowO t) = true := (ok_rowO (t := t) fun r hr => rok r (h3 r hr).2).1
      have second : t ≠ some r → Se g (tIfS (tTest (tOp (rNeD K) (tCall (spD preAns) [] E0 (tCons (tVar 1) (tCons (tVar 5) tNil))) (tCall (spD preAns) [] E0 (tCons (tVar 2) (tCons (tVar 5) tNil))))) (tRet (tC (.bl false))) tNext)
          ([some (.da (nmL ins)), some (.da (arcsL AL)), some (.da (arcsL AR)), some (.da (rowO t)), some (.da (.list ((Bst.rows (exits ins AR) 4).map rowD))), x5].set 5 (some (.da (rowD r))))
          { nx := fun c' => ∃ x5, Bst.judge AL AR t (Bst.rows (exits ins AR) 4) = Bst.judge AL AR t ((Bst.rows (exits ins AR) 4).drop (i + 1)) ∧ c' = [some (.da (nmL ins)), some (.da (arcsL AL)), some (.da (arcsL AR)), some (.da (rowO t)), some (.da (.list ((Bst.rows (exits ins AR) 4).map rowD))), x5], rt := k } := fun ht => by
        rw [if_neg ht] at q1
        refine se_if <| et_test <| cmp rfl rfl rfl rl rs ⟨_, rfl, fun h => ?_, fun h => ?_⟩
        · have hn : Bst.ans AL 0 r ≠ Bst.ans AR 0 r := by simpa using h
          rw [if_pos hn] at q1
          rw [q1] at hk
          exact se_ret (ev_bl ⟨rfl, hk⟩)
        · have hn : ¬ Bst.ans AL 0 r ≠ Bst.ans AR 0 r := by simpa using h
          rw [if_neg hn] at q1
          exact se_next ⟨_, q1, rfl⟩
      refine ⟨_, _, tg_name, ?_⟩
      cases t with
      | none => exact se_seq <| se_if <| et_and <| et_test <| ev_op <| ev_var rfl <| ev_non <| op_notN rfl ⟨_, rfl, nofun, fun _ => ⟨nofun, fun _ => se_next (se_sub (second nofun) (fun _ h => h) (fun _ h => h) (fun _ h => h.elim) (fun _ h => h.elim) (fun _ h => h.elim))⟩⟩
      | some r' =>
        obtain ⟨r1, r2⟩ := h3 r' rfl
        refine se_seq <| se_if <| et_and <| et_test <| ev_op <| ev_var rfl <| ev_non <| op_notN cln ⟨_, rfl, fun _ => et_test <| ev_op <| ev_var rfl <| ev_var rfl <| op_eq ((ok_rowD (rok r rs)).d (by decide)) ((ok_rowD (rok r' r2)).d (by decide)) ?_, nofun⟩
        rw [show PyData.eqv (datOf (.da (rowD r))) (datOf (.da (rowO (some r')))) = decide (r = r') from eqv_dec (sharp_rowD r) (sharp_rowD r') ⟨fun e => rowD_inj e, fun e => by rw [e]; rfl⟩]
        refine ⟨_, rfl, fun h => ?_, fun h => ?_⟩
        · have e : r = r' := of_decide_eq_true h
          subst e
          rw [if_pos rfl] at q1
          rw [q1] at hk
          refine se_ret <| cmp rfl rfl rfl rl rs ⟨rfl, ?_⟩
          have e9 : (!decide (Bst.ans AL 0 r = Bst.ans AR 0 r)) = decide (Bst.ans AL 0 r ≠ Bst.ans AR 0 r) := by simp
          rw [e9]
          exact hk
        · have e : ¬ r = r' := of_decide_eq_false h
          exact se_next (se_sub (second fun z => e (Option.some.inj z).symm) (fun _ h => h) (fun _ h => h) (fun _ h => h.elim) (fun _ h => h.elim) (fun _ h => h.elim))
    · obtain ⟨x5, q1, rfl⟩ := hw
      have ed : (Bst.rows (exits ins AR) 4).drop ((Bst.rows (exits ins AR) 4).map rowD).length = [] := by simp
      rw [ed] at q1
      cases t with
      | none =>
        rw [Bst.judge] at q1
        rw [q1] at hk
        exact se_ret <| ev_orV <| ev_op <| ev_var rfl <| ev_non <| op_isN rfl ⟨_, rfl, fun _ => ⟨rfl, hk⟩, nofun⟩
      | some r =>
        rw [Bst.judge] at q1
        rw [q1] at hk
        obtain ⟨r1, r2⟩ := h3 r rfl
        have cln : clean (datOf (.da (rowO (some r)))) = true := (ok_rowO (t := some r) fun r hr => rok r (h3 r hr).2).1
        refine se_ret <| ev_orV <| ev_op <| ev_var rfl <| ev_non <| op_isN cln ⟨_, rfl, nofun, fun _ => ev_andV <| ev_op <| ev_cb <| ea_cons <| ev_var rfl <| ea_nil <| cb_len (ds := r.map nmT) rfl <| ev_int <| op_b0 ⟨_, rfl, fun h => ?_, fun h => ?_⟩⟩
        · have hl : 4 < r.length := by
            have := of_decide_eq_true h
            simp at this
            omega
          refine cmp (r := r) rfl rfl rfl r1 r2 ⟨rfl, ?_⟩
          rw [decide_eq_true hl, Bool.true_and] at hk
          have e9 : (!decide (Bst.ans AL 0 r = Bst.ans AR 0 r)) = decide (Bst.ans AL 0 r ≠ Bst.ans AR 0 r) := by simp
          rw [e9]
          exact hk
        · have hl : ¬ 4 < r.length := by
            have := of_decide_eq_false h
            simp at this
            omega
          rw [decide_eq_false hl, Bool.false_and] at hk
          exact ⟨rfl, hk⟩
end
end Bw

namespace Bw
open PySem PySem.Spec PyProof.Rows L2 Bd
section
variable {P : Program} {w : World} {K : PySem.W.Frag} {mg : Str → Option Value} {base : Heap} {C : Addr}

theorem map_getV {xs : List Int} {i : Nat} {x : Int} (h : xs[i]? = some x) : (xs.map V.int)[i]? = some (V.int x) := by
  rw [List.getElem?_map, h]
  rfl
/-- xs.append(ys.pop(i)) -/
theorem se_appPop {g : G} {c : Bd.Ctx} {E : Ed} {K : PySem.W.Frag} {i j : Nat} {fs rs : List PyData} {td : TE} (hij : i ≠ j) (ei : c[i]? = some (some (.ac fs))) (ej : c[j]? = some (some (.ac rs)))
    (h : Ev g td c fun x => ∃ (n : Nat) (d : PyData), x = .da (.int (n : Int)) ∧ rs[n]? = some d ∧ fs.length < 100000 ∧ rs.length ≤ 100000 ∧ E.nx ((c.set j (some (.ac (rs.eraseIdx n)))).set i (some (.ac (fs ++ [d]))))) :
    Se g (tDrop (tBM K "list" rAppend (tVar i) (tCons (tBM K "list" rPopAt (tVar j) (tCons td tNil)) tNil))) c E := fun N σ H r D z => by
  obtain ⟨v, hi1, a, xs, e1, na, fa, ha, hda⟩ := r.sl i _ ei
  subst e1
  obtain ⟨v, hj1, b, ys, e2, nb, fb, hb, hdb⟩ := r.sl j _ ej
  subst e2
  have hab : a ≠ b := fun q => r.ds i j _ _ _ hij ei ej rfl rfl hi1 (by rw [q]; exact hj1)
  refine ⟨_, hi1, .inl ⟨rfl, xs, SqL.of ha⟩, _, hj1, .inl ⟨rfl, ys, SqL.of hb⟩, h N σ H r _ fun x u H1 kx r1 hx k1 => ?_⟩
  obtain ⟨n, d, rfl, hn, hl, hl2, kd⟩ := kx
  have nma : ¬ stM g.st a := fun q => (r.m0 a q).2 fa
  have nmb : ¬ stM g.st b := fun q => (r.m0 b q).2 fb
  have ha1 := k1.lst nma ha
  have hb1 := k1.lst nmb hb
  have hda1 := hda.keep k1 r.mn
  have hdb1 := hdb.keep k1 r.mn
  obtain ⟨y, hy, hyd⟩ := hdb1.get hn
  have hnl : n < ys.length := (List.getElem?_eq_some_iff.mp hy).1
  have hyl : ys.length = rs.length := hdb.length
  refine ⟨b, ys, (n : Int), n, y, rfl, by rw [Da.int' hx], hb1, by omega, by omega, ?_, hy, ?_⟩
  · rw [seqIndex_of (by omega) (by omega)]
    simp
  have mono : ∀ {v : V} {d : PyData} {o : HO} {p : Addr} {H1 : Hp}, N p → Da N H1 v d → Da N (upd H1 p o) v d := fun np h => h.mono (fun q o n _ e => (upd_ne (fun z => n (by rw [z]; exact np))).trans e) fun q w => .inl w
  have monoA : ∀ {v : List V} {d : List PyData} {o : HO} {p : Addr} {H1 : Hp}, N p → DaA N H1 v d → DaA N (upd H1 p o) v d := fun np h => h.mono (fun q o n _ e => (upd_ne (fun z => n (by rw [z]; exact np))).trans e) fun q w => .inl w
  have r2 := r1.mutHot (o := .lst (ys.eraseIdx n)) ej hj1 rfl (tabs_mut r1.tab hb1) (y := .ac (rs.eraseIdx n)) ⟨b, _, rfl, nb, fb, upd_same, monoA nb (hdb1.erase n)⟩
  have ha2 : (upd H1 b (.lst (ys.eraseIdx n))) a = some (.lst xs) := (upd_ne hab).trans ha1
  have ei2 : (c.set j (some (.ac (rs.eraseIdx n))))[i]? = some (some (.ac fs)) := by
    rw [List.getElem?_set, if_neg (Ne.symm hij)]
    exact ei
  refine ⟨a, xs, y, rfl, rfl, ha2, Nat.lt_of_lt_of_le (by rw [hda.length]; exact hl) (by decide), ?_⟩
  have r3 := r2.mutHot (o := .lst (xs ++ [y])) ei2 hi1 rfl (tabs_mut r2.tab ha2) (y := .ac (fs ++ [d])) ⟨a, _, rfl, na, fa, upd_same, monoA na ((monoA nb hda1).app (.cons (mono nb hyd) .nil))⟩
  exact z.nx _ _ N _ kd r3 (((Nx.keep k1 r.mn).trans ⟨fun _ h => .inl h, Keep.mut nb⟩).trans ⟨fun _ h => .inl h, Keep.mut na⟩)
theorem erase_perm {α : Type} : ∀ (l : List α) (i : Nat) (h : i < l.length), (l[i] :: l.eraseIdx i).Perm l
  | x :: l, 0, _ => .refl _
  | x :: l, i + 1, h => by
    have ih := erase_perm l i (by simpa using h)
    exact (List.Perm.swap x _ _).trans (ih.cons x)
/-- as many as stand apart, so many there are -/
theorem nodup_le {α : Type} : ∀ {l ns : List α}, l.Nodup → (∀ x ∈ l, x ∈ ns) → l.length ≤ ns.length
  | [], _, _, _ => Nat.zero_le _
  | x :: l, ns, hd, hs => by
    obtain ⟨a, b, rfl⟩ := List.append_of_mem (hs x (by simp))
    have hd' := List.nodup_cons.mp hd
    have := nodup_le (l := l) (ns := a ++ b) hd'.2 fun y hy => by
      have h1 := hs y (by simp [hy])
      have h2 : y ≠ x := fun z => hd'.1 (z ▸ hy)
      rcases List.mem_append.mp h1 with h1 | h1
      · exact List.mem_append_left _ h1
      · rcases List.mem_cons.mp h1 with h1 | h1
        · exact absurd h1 h2
        · exact List.mem_append_right _ h1
    simp at this ⊢
    omega
/-- 48 * n -/
theorem op_mul0 {k : Vl → Prop} {n : Nat} (hn : n ≤ 3) (q : k (.da (.str (zeros n)))) : Op (fun x y H Q => ∃ z i, x = .str z ∧ y = .int i ∧ MulOk z i ∧ Q (.str (Txt.mul z i)) H) (.da (.str (Str.ofString "0"))) (.da (.int (n : Int))) k := fun H0 N H u v hu hv Q z => by
  refine ⟨_, _, Da.str' hu, Da.int' hv, ?_, ?_⟩
  · have l : (Str.ofString "0").length = 1 := rfl
    unfold MulOk
    rw [l]
    have h4 : n = 0 ∨ n = 1 ∨ n = 2 ∨ n = 3 := by omega
    rcases h4 with rfl | rfl | rfl | rfl <;> decide
  · have e : Txt.mul (Str.ofString "0") (n : Int) = zeros n := by
      have h := mul_one_list 48 (n : Int)
      rw [Int.toNat_natCast] at h
      have ex : ∀ (z : Str) (l : List Nat), z.cps.toList = l → z = ⟨l.toArray⟩ := fun z l e => by
        cases z with
        | mk cps =>
          subst e
          simp
      exact ex _ _ h
    rw [e]
    exact z _ _ q (Da.str _)
theorem str_app (a b : List Nat) : (⟨a.toArray⟩ : Str) ++ ⟨b.toArray⟩ = ⟨(a ++ b).toArray⟩ := by
  show Str.mk (a.toArray ++ b.toArray) = _
  simp
theorem cut1 (c : Nat) (cs : List Nat) : cutS ⟨(c :: cs).toArray⟩ (some 1) none = ⟨cs.toArray⟩ := by
  unfold cutS
  rw [show HT.sIx (Str.length ⟨(c :: cs).toArray⟩) 0 (some 1) = min 1 (Str.length ⟨(c :: cs).toArray⟩) from HT.sIx_nat _ 0 1, HT.sIx_none]
  have e : Str.length ⟨(c :: cs).toArray⟩ = cs.length + 1 := by simp [Str.length]
  rw [e, show min 1 (cs.length + 1) = 1 by omega]
  simp
abbrev s_l_draw : Stmt := topS 37
theorem sc_l_draw : FnScope ["_law_state", "_law_many", "_law_cells", "_law_at", "_law_cell", "_law_number"] ["_law_state", "_law_many"] (defScope s_l_draw) := ⟨rfl, rfl, rfl, by decide +kernel, rfl, by decide +kernel, by decide +kernel⟩
-- slots: 0 _law_state, 1 _law_many, 2 _law_cells, 3 _law_at, 4 _law_cell, 5 _law_number; calls: ; constants: 
theorem ok_l_draw {f : Addr} {fd : FuncData} {q : Str} (F : Fun K "_law_draw" q s_l_draw f fd) (B : Bt mg) : FnOk P w K mg base CX0 1 f fd ["_law_state", "_law_many"] (spS preDraw) := by
  refine F.ok sc_l_draw (fun vs H Q E h => ?_) (fun cdv A outer s H vs Q E hr h => ?_)
  · obtain ⟨T, s0, c0, h⟩ := h
    exact spT_len (fun as k kf hp => by obtain ⟨_, rfl, hp⟩ := hp; obtain ⟨_, rfl, _⟩ := hp; rfl) h
  · obtain ⟨T, s0, c0, h⟩ := h
    have hu := hu_of hr
    refine ⟨_, (pss_cons (ps_set (i := 2) sc_l_draw.nd rfl (.inl rfl) (pe_ix (k_ixL K rfl) (pv 0) pe_int (fun _ _ => rfl)))
      (pss_cons (ps_set (i := 3) sc_l_draw.nd rfl (.inl rfl) (pe_op op_mod (pe_callTy call_int1 (by rfl) B.int_ boot_int (pa_cons (pe_ix (k_ixL K rfl) (pv 0) pe_int (fun _ _ => rfl)) pa_nil)) (pe_callB (k_len K rfl) (by rfl) B.len_ PySem.boot_len (pa_cons (pv 2) pa_nil))))
      (pss_cons (ps_asg (pe_op op_add (pe_callTy call_int1 (by rfl) B.int_ boot_int (pa_cons (pe_ix (k_ixL K rfl) (pv 0) pe_int (fun _ _ => rfl)) pa_nil)) pe_int) (pg_sub (pv 0) pe_int set_list))
      (pss_cons (ps_set (i := 4) sc_l_draw.nd rfl (.inl rfl) (pe_callTy call_int1 (by rfl) B.int_ boot_int (pa_cons (pe_ix (k_ixL K rfl) (pv 2) (pv 3) (fun _ _ => rfl)) pa_nil)))
      (pss_cons (ps_if (pt_cmpR op_ge (pv 4) (pe_op op_pow pe_int pe_int) (nomark _)) (pss_cons (ps_asg (pe_op op_fdiv (pv 4) (pv 1)) (pg_sub (pv 2) (pv 3) set_list))
      (pss_one (ps_ret (pe_op op_mod (pe_callTy call_int1 (by rfl) B.int_ boot_int (pa_cons (pv 4) pa_nil)) (pv 1))))) pss_nil)
      (pss_cons (ps_set (i := 5) sc_l_draw.nd rfl (.inl rfl) (pe_op op_mod (pe_op op_mul (pe_callTy call_int1 (by rfl) B.int_ boot_int (pa_cons (pe_op op_add (pe_op op_add (pe_op op_mul (pv 4) pe_int) (pe_op op_mul pe_int (pe_callTy call_int1 (by rfl) B.int_ boot_int (pa_cons (pe_ix (k_ixL K rfl) (pv 0) pe_int (fun _ _ => rfl)) pa_nil)))) pe_int) pa_nil)) pe_int) pe_int))
      (pss_cons (ps_set (i := 5) sc_l_draw.nd rfl (.inl rfl) (pe_op op_mod (pe_callTy call_int1 (by rfl) B.int_ boot_int (pa_cons (pe_op op_mul (pv 5) (pe_op op_add (pe_op op_fdiv (pv 5) pe_int) pe_int)) pa_nil)) pe_int))
      (pss_cons (ps_set (i := 5) sc_l_draw.nd rfl (.inl rfl) (pe_op op_mod (pe_callTy call_int1 (by rfl) B.int_ boot_int (pa_cons (pe_op op_mul (pv 5) (pe_op op_add (pe_op op_fdiv (pv 5) pe_int) pe_int)) pa_nil)) pe_int))
      (pss_one (ps_ret (pe_op op_mod (pe_callTy call_int1 (by rfl) B.int_ boot_int (pa_cons (pe_op op_fdiv (pv 5) pe_int) pa_nil)) (pv 1)))))))))))), body h fun g as k kf hT hst hp => ?_⟩
    obtain ⟨_, rfl, hp⟩ := hp
    obtain ⟨m, rfl, hm1, hm2, hk⟩ := hp
    intro N σ H r D z
    have hsti := r.sti
    rw [hst] at hsti
    obtain ⟨hsc, k0, ns, hs, hc, hne, hnl⟩ := hsti
    have hM : ∀ a, stM g.st a ↔ a = s0 ∨ a = c0 := fun a => by
      rw [hst]
      exact Iff.rfl
    obtain ⟨v0, e0, h0⟩ := r.sl 0 _ rfl
    obtain ⟨v1, e1, h1⟩ := r.sl 1 _ rfl
    have h0 : v0 = .ref s0 := h0
    have h1 := Da.int' h1
    subst h0 h1
    have hlen : σ.length = 6 := by rw [r.len]; rfl
    have hnpos : 0 < ns.length := List.length_pos_iff.mpr hne
    have mp : (0 : Int) < (m : Int) := by omega
    -- cells = state[0]
    refine ⟨.ref s0, e0, s0, _, 0, .ref c0, rfl, rfl, SqL.of hs, rfl, ?_⟩
    -- at = int(state[1]) % len(cells)
    have g2 : (σ.set 2 (some (V.ref c0)))[2]? = some (some (V.ref c0)) := by rw [List.getElem?_set]; simp [hlen]
    have g20 : (σ.set 2 (some (V.ref c0)))[0]? = some (some (V.ref s0)) := by rw [List.getElem?_set]; simpa using e0
    refine ⟨.ref s0, g20, s0, _, 1, .int k0, rfl, rfl, SqL.of hs, rfl, .inl ⟨k0, rfl, .ref c0, g2, c0, _, rfl, .inl (SqL.of hc), k0, _, rfl, rfl, ?_, ?_⟩⟩
    · show (0 : Int) < ((ns.map V.int).length : Int)
      simp
      omega
    obtain ⟨at_, hat⟩ : ∃ at_ : Int, at_ = k0 % ((ns.map V.int).length : Int) := ⟨_, rfl⟩
    have at0 : 0 ≤ at_ ∧ at_ < (ns.length : Int) := by
      rw [hat, List.length_map]
      exact ⟨Int.emod_nonneg _ (by omega), Int.emod_lt_of_pos _ (by omega)⟩
    obtain ⟨an, han⟩ : ∃ an : Nat, at_ = (an : Int) := ⟨at_.toNat, by omega⟩
    have anl : an < ns.length := by omega
    obtain ⟨cell, hcell⟩ : ∃ cell, ns[an]? = some cell := ⟨_, List.getElem?_eq_getElem anl⟩
    obtain ⟨σ3, hσ3⟩ : ∃ σ3, σ3 = (σ.set 2 (some (V.ref c0))).set 3 (some (V.int at_)) := ⟨_, rfl⟩
    show (tSeq _ _) _ ((σ.set 2 (some (V.ref c0))).set 3 (some (V.int (k0 % ((ns.map V.int).length : Int))))) H
    rw [← hat, ← hσ3]
    have l3 : σ3.length = 6 := by rw [hσ3]; simp [hlen]
    have s30 : σ3[0]? = some (some (V.ref s0)) := by rw [hσ3, List.getElem?_set, List.getElem?_set]; simpa using e0
    have s31 : σ3[1]? = some (some (V.int (m : Int))) := by rw [hσ3, List.getElem?_set, List.getElem?_set]; simpa using e1
    have s32 : σ3[2]? = some (some (V.ref c0)) := by rw [hσ3, List.getElem?_set, List.getElem?_set]; simp [hlen]
    have s33 : σ3[3]? = some (some (V.int at_)) := by rw [hσ3, List.getElem?_set]; simp [hlen]
    -- state[1] = int(state[1]) + 1
    refine ⟨.ref s0, s30, s0, _, 1, .int k0, rfl, rfl, SqL.of hs, rfl, .inl ⟨k0, rfl, k0, 1, rfl, rfl, .ref s0, s30, s0, _, 1, 1, rfl, rfl, hs, rfl, ?_⟩⟩
    obtain ⟨H1, hH1⟩ : ∃ H1, H1 = upd H s0 (.lst [V.ref c0, V.int (k0 + 1)]) := ⟨_, rfl⟩
    show (tSeq _ _) _ σ3 (upd H s0 (.lst [V.ref c0, V.int (k0 + 1)]))
    rw [← hH1]
    have hs1 : H1 s0 = some (.lst [V.ref c0, V.int (k0 + 1)]) := by rw [hH1]; exact upd_same
    have hc1 : H1 c0 = some (.lst (ns.map V.int)) := by rw [hH1, upd_ne (Ne.symm hsc)]; exact hc
    have k1 : Keep (stM g.st) H H1 := by rw [hH1]; exact Keep.mut ((hM s0).mpr (.inl rfl))
    have t1 : LamX.Tabs g.T H1 := by rw [hH1]; exact tabs_mut r.tab hs
    -- cell = int(cells[at])
    refine ⟨.ref c0, s32, .int at_, s33, c0, _, at_, .int cell, rfl, rfl, SqL.of hc1, ?_, .inl ⟨cell, rfl, ?_⟩⟩
    · rw [han]
      exact atI_nat (map_getV hcell)
    obtain ⟨σ4, hσ4⟩ : ∃ σ4, σ4 = σ3.set 4 (some (V.int cell)) := ⟨_, rfl⟩
    show (tSeq _ _) _ (σ3.set 4 (some (V.int cell))) H1
    rw [← hσ4]
    have s40 : σ4[0]? = some (some (V.ref s0)) := by rw [hσ4, List.getElem?_set]; simpa using s30
    have s41 : σ4[1]? = some (some (V.int (m : Int))) := by rw [hσ4, List.getElem?_set]; simpa using s31
    have s42 : σ4[2]? = some (some (V.ref c0)) := by rw [hσ4, List.getElem?_set]; simpa using s32
    have s43 : σ4[3]? = some (some (V.int at_)) := by rw [hσ4, List.getElem?_set]; simpa using s33
    have s44 : σ4[4]? = some (some (V.int cell)) := by rw [hσ4, List.getElem?_set]; simp [l3]
    have l4 : σ4.length = 6 := by rw [hσ4]; simp [l3]
    have fin : ∀ (q : Int) (H2 : Hp) (ns2 : List Int), 0 ≤ q → q < (m : Int) → H2 s0 = some (.lst [V.ref c0, V.int (k0 + 1)]) → H2 c0 = some (.lst (ns2.map V.int)) → ns2 ≠ [] → ns2.length ≤ 63 → Keep (stM g.st) H H2 → LamX.Tabs g.T H2 → D.rt (.int q) H2 := fun q H2 ns2 q0 q1 a1 a2 a3 a4 a5 a6 => by
      have eq : q = ((q.toNat : Nat) : Int) := by omega
      rw [eq]
      refine z.rt (.da (.int ((q.toNat : Nat) : Int))) _ H2 (hk q.toNat (by omega)) rfl (r.kp.trans a5) ?_ a6 (Da.int _)
      rw [hst]
      exact ⟨hsc, k0 + 1, ns2, a1, a2, a3, a4⟩
    -- if cell >= 10 ** 18
    refine ⟨.int cell, s44, 10, 18, rfl, rfl, ⟨by decide, by decide, by decide⟩, cell, _, rfl, rfl, _, rfl, ?_⟩
    refine ite2 (fun _ => ?_) (fun _ => ?_)
    · refine ⟨.int cell, s44, .int (m : Int), s41, cell, (m : Int), rfl, rfl, ⟨mp, by omega⟩, .ref c0, s42, .int at_, s43, c0, _, at_, an, rfl, rfl, hc1, ?_, ?_⟩
      · rw [han, List.length_map]
        exact Evl.ixN_nat anl
      · refine ⟨.int cell, s44, .inl ⟨cell, rfl, .int (m : Int), s41, cell, (m : Int), rfl, rfl, mp, ?_⟩⟩
        have em : (ns.map V.int).set an (V.int (cell / (m : Int))) = (ns.set an (cell / (m : Int))).map V.int := by rw [List.map_set]
        refine fin _ _ (ns.set an (cell / (m : Int))) (Int.emod_nonneg _ (by omega)) (Int.emod_lt_of_pos _ mp) ?_ ?_ ?_ ?_ ?_ ?_
        · rw [upd_ne hsc]
          exact hs1
        · rw [upd_same, em]
        · intro e
          have := congrArg List.length e
          simp at this
          exact hne this
        · simpa using hnl
        · exact k1.trans (Keep.mut ((hM c0).mpr (.inr rfl)))
        · exact tabs_mut t1 hc1
    · refine ⟨.int cell, s44, cell, 69621, rfl, rfl, .inr ⟨by decide, by decide⟩, .ref s0, s40, s0, _, 1, .int (k0 + 1), rfl, rfl, SqL.of hs1, rfl, .inl ⟨k0 + 1, rfl, 7919, k0 + 1, rfl, rfl, .inl ⟨by decide, by decide⟩, _, _, rfl, rfl, _, 1, rfl, rfl, .inl ⟨_, rfl, _, 48271, rfl, rfl, .inr ⟨by decide, by decide⟩, _, 2147483647, rfl, rfl, (by show (0 : Int) < 2147483647; decide), ?_⟩⟩⟩
      obtain ⟨n1, hn1⟩ : ∃ n1 : Int, n1 = (cell * 69621 + 7919 * (k0 + 1) + 1) * 48271 % 2147483647 := ⟨_, rfl⟩
      have b1 : 0 ≤ n1 ∧ n1 < 2147483647 := by
        rw [hn1]
        exact ⟨Int.emod_nonneg _ (by decide), Int.emod_lt_of_pos _ (by decide)⟩
      show (tSeq _ _) _ (σ4.set 5 (some (V.int ((cell * 69621 + 7919 * (k0 + 1) + 1) * 48271 % 2147483647)))) H1
      rw [← hn1]
      have num : ∀ (n : Int), (σ4.set 5 (some (V.int n)))[5]? = some (some (V.int n)) ∧ (σ4.set 5 (some (V.int n)))[1]? = some (some (V.int (m : Int))) := fun n => ⟨by rw [List.getElem?_set]; simp [l4], by rw [List.getElem?_set]; simpa using s41⟩
      refine ⟨.int n1, (num n1).1, .int n1, (num n1).1, n1, 1009, rfl, rfl, ⟨by decide, by decide⟩, _, 69621, rfl, rfl, n1, _, rfl, rfl, .inl ⟨by omega, by omega⟩, .inl ⟨_, rfl, _, 2147483647, rfl, rfl, (by show (0 : Int) < 2147483647; decide), ?_⟩⟩
      obtain ⟨n2, hn2⟩ : ∃ n2 : Int, n2 = n1 * (n1 / 1009 + 69621) % 2147483647 := ⟨_, rfl⟩
      have b2 : 0 ≤ n2 ∧ n2 < 2147483647 := by
        rw [hn2]
        exact ⟨Int.emod_nonneg _ (by decide), Int.emod_lt_of_pos _ (by decide)⟩
      show (tSeq _ _) _ ((σ4.set 5 (some (V.int n1))).set 5 (some (V.int (n1 * (n1 / 1009 + 69621) % 2147483647)))) H1
      rw [← hn2, List.set_set]
      refine ⟨.int n2, (num n2).1, .int n2, (num n2).1, n2, 2003, rfl, rfl, ⟨by decide, by decide⟩, _, 40692, rfl, rfl, n2, _, rfl, rfl, .inl ⟨by omega, by omega⟩, .inl ⟨_, rfl, _, 2147483399, rfl, rfl, (by show (0 : Int) < 2147483399; decide), ?_⟩⟩
      obtain ⟨n3, hn3⟩ : ∃ n3 : Int, n3 = n2 * (n2 / 2003 + 40692) % 2147483399 := ⟨_, rfl⟩
      suffices hh : tRet (tOp (rI (fun _ j => 0 < j) fun i j => V.int (i % j)) (tCB (fun xs H Q => (∃ i, xs = [.int i] ∧ Q (.int i) H) ∨ ∃ k, xs = [.bl k] ∧ Q (.int (if k then 1 else 0)) H) (tCons (tOp (rI CDiv fun i j => V.int (i / j)) (tVar 5) (tC (.int 16))) tNil)) (tVar 1)) D (σ4.set 5 (some (V.int n3))) H1 by
        rw [hn3] at hh
        rw [show σ4.set 5 (some (V.int (n2 * (n2 / 2003 + 40692) % 2147483399))) = (σ4.set 5 (some (V.int n2))).set 5 (some (V.int (n2 * (n2 / 2003 + 40692) % 2147483399))) by rw [List.set_set]] at hh
        exact hh
      refine ⟨.int n3, (num n3).1, n3, 16, rfl, rfl, ⟨by decide, by decide⟩, .inl ⟨_, rfl, .int (m : Int), (num n3).2, _, (m : Int), rfl, rfl, mp, ?_⟩⟩
      exact fin _ H1 ns (Int.emod_nonneg _ (by omega)) (Int.emod_lt_of_pos _ mp) hs1 hc1 hne hnl k1 t1
abbrev s_l_shuffled : Stmt := topS 38
theorem sc_l_shuffled : FnScope ["_law_state", "_law_things", "_law_rows_here", "_law_found", "_law_k"] ["_law_state", "_law_things"] (defScope s_l_shuffled) := ⟨rfl, rfl, rfl, by decide +kernel, rfl, by decide +kernel, by decide +kernel⟩
-- slots: 0 _law_state, 1 _law_things, 2 _law_rows_here, 3 _law_found, 4 _law_k; calls: _law_draw; constants: 
theorem ok_l_shuffled {f : Addr} {fd : FuncData} {q : Str} (F : Fun K "_law_shuffled" q s_l_shuffled f fd) (B : Bt mg) (C_l_draw : Cal P w K mg base 1 "_law_draw" ["_law_state", "_law_many"] (spS preDraw)) : FnOk P w K mg base CX0 2 f fd ["_law_state", "_law_things"] (spS preShuf) := by
  obtain ⟨f__law_draw, fd__law_draw, G__law_draw, m__law_draw, k__law_draw, b__law_draw⟩ := C_l_draw.ex
  refine F.ok sc_l_shuffled (fun vs H Q E h => ?_) (fun cdv A outer s H vs Q E hr h => ?_)
  · obtain ⟨T, s0, c0, h⟩ := h
    exact spT_len (fun as k kf hp => by obtain ⟨_, rfl, hp⟩ := hp; obtain ⟨_, rfl, _⟩ := hp; rfl) h
  · obtain ⟨T, s0, c0, h⟩ := h
    have hu := hu_of hr
    have r__law_draw := hr.mono (show 1 ≤ 1 by decide)
    refine ⟨_, (pss_cons (ps_set (i := 2) sc_l_shuffled.nd rfl (.inl rfl) (pe_callTy (k_list K rfl) (by rfl) B.list_ boot_list (pa_cons (pv 1) pa_nil)))
      (pss_cons (ps_set (i := 3) sc_l_shuffled.nd rfl (.inl rfl) (pe_lst pa_nil))
      (pss_cons (ps_for PassesOwn.never rfl (pi_range1 rfl B.range_ (pa_cons (pe_callB (k_len K rfl) (by rfl) B.len_ PySem.boot_len (pa_cons (pv 1) pa_nil)) pa_nil)) (pg_name (i := 4) sc_l_shuffled.nd rfl (.inl rfl))
      (pss_one (ps_expr (k_bm K rfl PySem.F.plainAttrs_list PySem.F.slot_list_append PySem.F.type_list_append mt_append (pv 3) (pa_cons (k_bm K rfl PySem.F.plainAttrs_list PySem.F.slot_list_pop PySem.F.type_list_pop mt_popAt (pv 2) (pa_cons (pe_call G__law_draw r__law_draw (by rfl) m__law_draw k__law_draw b__law_draw .nil pass0 (pa_cons (pv 0) (pa_cons (pe_callB (k_len K rfl) (by rfl) B.len_ PySem.boot_len (pa_cons (pv 2) pa_nil)) pa_nil))) pa_nil)) pa_nil)))))
      (pss_one (ps_ret (pv 3)))))), body h fun g as k kf hT hst hp => ?_⟩
    obtain ⟨_, rfl, hp⟩ := hp
    obtain ⟨ds, rfl, hl, hk⟩ := hp
    refine se_seq <| se_asgF <| ef_cb <| ea_cons <| ev_var rfl <| ea_nil <| cb_list rfl ?_
    refine se_seq <| se_asgF <| ef_lst <| ea_nil ⟨[], rfl, by decide, ?_⟩
    refine se_seq <| se_for (fun i c' => ∃ fs rs x4, (fs ++ rs).Perm ds ∧ fs.length = i ∧ c' = [some (.ex (.ref s0)), some (.da (.list ds)), some (.ac rs), some (.ac fs), x4]) <| ei_rng <| ea_cons <| ev_cb <| ea_cons <| ev_var rfl <| ea_nil <| cb_len rfl <| ea_nil ⟨ds.length, rfl, by omega, ⟨[], ds, none, .refl _, rfl, by simp [ctx0, List.replicate]⟩, fun i d c' hd hw => ?_, fun c' hw => ?_⟩
    · obtain ⟨fs, rs, x4, q1, q2, rfl⟩ := hw
      have hi : i < ds.length := by
        have := (List.getElem?_eq_some_iff.mp hd).1
        simpa [rngD] using this
      have hsum := q1.length_eq
      rw [List.length_append] at hsum
      refine ⟨_, _, tg_name, ?_⟩
      refine se_appPop (by decide) rfl rfl <| ev_callS hst <| ea_cons <| ev_var rfl <| ea_cons <| ev_cb <| ea_cons <| ev_var rfl <| ea_nil <| cb_len rfl <| ea_nil ⟨_, rfl, colds rfl, rs.length, rfl, by omega, by omega, fun r hr => ⟨r, rs[r], rfl, List.getElem?_eq_getElem hr, by omega, by omega, fs ++ [rs[r]], rs.eraseIdx r, some (.da d), ?_, by simp [q2], rfl⟩⟩
      have hp := erase_perm rs r hr
      have : ((fs ++ [rs[r]]) ++ rs.eraseIdx r).Perm (fs ++ rs) := by
        rw [List.append_assoc]
        exact hp.append_left fs
      exact this.trans q1
    · obtain ⟨fs, rs, x4, q1, q2, rfl⟩ := hw
      have e : fs.length = ds.length := by rw [q2]; simp [rngD]
      have hsum := q1.length_eq
      rw [List.length_append] at hsum
      have hr : rs = [] := List.eq_nil_of_length_eq_zero (by omega)
      rw [hr, List.append_nil] at q1
      exact se_retAc rfl (hk fs q1)
abbrev s_l_bits : Stmt := topS 42
theorem sc_l_bits : FnScope ["_law_state", "_law_many", "_law_k"] ["_law_state", "_law_many"] (defScope s_l_bits) := ⟨rfl, rfl, rfl, by decide +kernel, rfl, by decide +kernel, by decide +kernel⟩
-- slots: 0 _law_state, 1 _law_many, 2 _law_k; calls: _law_draw; constants: 
theorem ok_l_bits {f : Addr} {fd : FuncData} {q : Str} (F : Fun K "_law_bits" q s_l_bits f fd) (B : Bt mg) (C_l_draw : Cal P w K mg base 1 "_law_draw" ["_law_state", "_law_many"] (spS preDraw)) : FnOk P w K mg base CX0 2 f fd ["_law_state", "_law_many"] (spS preBits) := by
  obtain ⟨f__law_draw, fd__law_draw, G__law_draw, m__law_draw, k__law_draw, b__law_draw⟩ := C_l_draw.ex
  refine F.ok sc_l_bits (fun vs H Q E h => ?_) (fun cdv A outer s H vs Q E hr h => ?_)
  · obtain ⟨T, s0, c0, h⟩ := h
    exact spT_len (fun as k kf hp => by obtain ⟨_, rfl, hp⟩ := hp; obtain ⟨_, rfl, _⟩ := hp; rfl) h
  · obtain ⟨T, s0, c0, h⟩ := h
    have hu := hu_of hr
    have r__law_draw := hr.mono (show 1 ≤ 1 by decide)
    refine ⟨_, (pss_one (ps_ret (k_bm K rfl PySem.F.plainAttrs_str PySem.F.slot_str_join PySem.F.type_str_join (k_join K rfl) pe_str (pa_cons (pe_lc (own := [("_law_k", 2)]) rfl sc_l_bits.nd (pi_range1 rfl B.range_ (pa_cons (pv 1) pa_nil)) (blkOk_by (N := ["_law_state", "_law_many", "_law_k"]) (sc := defScope s_l_bits) (by decide +kernel)) (fun _ _ _ _ _ => (pg_name (i := 2) sc_l_bits.nd rfl (.inl rfl))) (fun _ _ _ _ _ => pts_nil) (fun _ _ _ _ _ => (pe_ix ix_str pe_str (pe_call G__law_draw r__law_draw (by rfl) m__law_draw k__law_draw b__law_draw .nil pass0 (pa_cons (pv 0) (pa_cons pe_int pa_nil))) (fun _ _ => rfl)))) pa_nil)))), body h fun g as k kf hT hst hp => ?_⟩
    obtain ⟨_, rfl, hp⟩ := hp
    obtain ⟨n, rfl, hl, hk⟩ := hp
    refine se_ret <| ev_bm <| ev_str ⟨rfl, ea_cons <| ev_ofF <| ef_lc (fun i acc => ∃ cs : List Nat, cs.length = i ∧ (∀ c ∈ cs, c = 48 ∨ c = 49) ∧ acc = cs.map fun c => .str ⟨#[c]⟩) <| ei_rng <| ea_cons <| ev_var rfl <| ea_nil ⟨n, rfl, by omega, ⟨[], rfl, by simp, rfl⟩, by simp [rngD]; omega, fun i d acc hd ha => ?_, fun acc ha => ?_⟩⟩
    · obtain ⟨cs, q1, q2, rfl⟩ := ha
      refine ⟨_, _, tg_name, by simp, et_yes ⟨fun _ => ev_op <| ev_str <| ev_callS hst <| ea_cons <| ev_var rfl <| ea_cons <| ev_int <| ea_nil ⟨_, rfl, colds rfl, 2, rfl, by decide, by decide, fun r hr => ?_⟩, nofun⟩⟩
      have hr2 : r = 0 ∨ r = 1 := by omega
      rcases hr2 with rfl | rfl
      · exact op_ixS (by decide) (atI_nat (j := 0) (v := 48) rfl) ⟨_, rfl, cs ++ [48], by simp [q1], fun c hc => by
          rcases List.mem_append.mp hc with hc | hc
          · exact q2 c hc
          · simp at hc
            exact .inl hc, by simp⟩
      · exact op_ixS (by decide) (atI_nat (j := 1) (v := 49) rfl) ⟨_, rfl, cs ++ [49], by simp [q1], fun c hc => by
          rcases List.mem_append.mp hc with hc | hc
          · exact q2 c hc
          · simp at hc
            exact .inr hc, by simp⟩
    · obtain ⟨cs, q1, q2, rfl⟩ := ha
      have q1 : cs.length = n := by rw [q1]; simp [rngD]
      refine ea_nil <| mt_joinD (ns := cs.map fun c => (⟨#[c]⟩ : Str)) (by simp [seqOf]) ?_ ⟨rfl, ?_⟩
      · rw [sum_ones]
        have e : (Str.ofString "").length = 0 := rfl
        rw [e]
        simp
        omega
      · have e2 : (Str.ofString "") = ⟨#[]⟩ := rfl
        rw [e2, join1]
        exact hk _ ⟨by simp [Str.length, q1], by simpa using q2⟩
abbrev s_l_names : Stmt := topS 40
theorem sc_l_names : FnScope ["_law_state", "_law_many", "_law_taken", "_law_names_here", "_law_k"] ["_law_state", "_law_many", "_law_taken"] (defScope s_l_names) := ⟨rfl, rfl, rfl, by decide +kernel, rfl, by decide +kernel, by decide +kernel⟩
-- slots: 0 _law_state, 1 _law_many, 2 _law_taken, 3 _law_names_here, 4 _law_k; calls: _law_name; constants: 
theorem ok_l_names {f : Addr} {fd : FuncData} {q : Str} (F : Fun K "_law_names" q s_l_names f fd) (B : Bt mg) (C_l_name : Cal P w K mg base 2 "_law_name" ["_law_state", "_law_taken"] (spS preLname)) : FnOk P w K mg base CX0 3 f fd ["_law_state", "_law_many", "_law_taken"] (spS preLnames) := by
  obtain ⟨f__law_name, fd__law_name, G__law_name, m__law_name, k__law_name, b__law_name⟩ := C_l_name.ex
  refine F.ok sc_l_names (fun vs H Q E h => ?_) (fun cdv A outer s H vs Q E hr h => ?_)
  · obtain ⟨T, s0, c0, h⟩ := h
    exact spT_len (fun as k kf hp => by obtain ⟨_, rfl, hp⟩ := hp; obtain ⟨_, _, rfl, _⟩ := hp; rfl) h
  · obtain ⟨T, s0, c0, h⟩ := h
    have hu := hu_of hr
    have r__law_name := hr.mono (show 2 ≤ 2 by decide)
    refine ⟨_, (pss_cons (ps_set (i := 3) sc_l_names.nd rfl (.inl rfl) (pe_lst pa_nil))
      (pss_cons (ps_for PassesOwn.never rfl (pi_range1 rfl B.range_ (pa_cons (pv 1) pa_nil)) (pg_name (i := 4) sc_l_names.nd rfl (.inl rfl))
      (pss_one (ps_expr (k_bm K rfl PySem.F.plainAttrs_list PySem.F.slot_list_append PySem.F.type_list_append mt_append (pv 3) (pa_cons (pe_call G__law_name r__law_name (by rfl) m__law_name k__law_name b__law_name .nil pass0 (pa_cons (pv 0) (pa_cons (pe_op op_cat (pe_callTy (k_list K rfl) (by rfl) B.list_ boot_list (pa_cons (pv 2) pa_nil)) (pv 3)) pa_nil))) pa_nil)))))
      (pss_one (ps_ret (pv 3))))), body h fun g as k kf hT hst hp => ?_⟩
    obtain ⟨_, rfl, hp⟩ := hp
    obtain ⟨m, ts, rfl, h1, h2, hk⟩ := hp
    refine se_seq <| se_asgF <| ef_lst <| ea_nil ⟨[], rfl, by decide, ?_⟩
    refine se_seq <| se_for (fun i c' => ∃ (ns : List Str) (x4 : Option Vl), ns.length = i ∧ Nms 0 ns ts ∧ c' = [some (.ex (.ref s0)), some (.da (.int (m : Int))), some (.da (nmL ts)), some (.ac (ns.map .str)), x4]) <| ei_rng <| ea_cons <| ev_var rfl <| ea_nil ⟨m, rfl, by omega, ⟨[], none, rfl, ⟨Nat.zero_le _, by decide, .nil, by simp, by simp⟩, by simp [ctx0, List.replicate]⟩, fun i d c' hd hw => ?_, fun c' hw => ?_⟩
    · obtain ⟨ns, x4, q1, ⟨_, _, n3, n4, n5⟩, rfl⟩ := hw
      have hi : i < m := by
        have := (List.getElem?_eq_some_iff.mp hd).1
        simpa [rngD] using this
      refine ⟨_, _, tg_name, se_app rfl <| ev_callS hst <| ea_cons <| ev_var rfl <| ea_cons <| ev_ofF <| ef_op <| ev_ofF <| ef_cb <| ea_cons <| ev_var rfl <| ea_nil <| cb_list rfl <| ev_var rfl <| op_cat rfl rfl ?_ <| ea_nil ⟨_, rfl, colds rfl, ts ++ ns, ?_, ?_, fun s hs hn => ⟨_, rfl, ?_, ns ++ [s], some (.da d), ?_, ⟨Nat.zero_le _, ?_, ?_, ?_, ?_⟩, ?_⟩⟩⟩
      · simp
        omega
      · simp [nmL]
      · simp
        omega
      · simp
        omega
      · simp [q1]
      · simp
        omega
      · refine List.nodup_append.mpr ⟨n3, by simp, fun a ha b hb => ?_⟩
        have hb : b = s := by simpa using hb
        subst hb
        exact fun z => hn (by simp [← z, ha])
      · intro n hm
        rcases List.mem_append.mp hm with hm | hm
        · exact n4 n hm
        · have : n = s := by simpa using hm
          rw [this]
          exact hs
      · intro n hm
        rcases List.mem_append.mp hm with hm | hm
        · exact n5 n hm
        · have : n = s := by simpa using hm
          rw [this]
          exact fun z => hn (by simp [z])
      · simp
    · obtain ⟨ns, x4, q1, q2, rfl⟩ := hw
      exact se_retAc rfl (hk ns (by rw [q1]; simp [rngD]) q2)
abbrev s_l_name : Stmt := topS 39
theorem sc_l_name : FnScope ["_law_state", "_law_taken", "_law_letters", "_law_name_here", "_law_size", "_law_k", "_law_letter"] ["_law_state", "_law_taken"] (defScope s_l_name) := ⟨rfl, rfl, rfl, by decide +kernel, rfl, by decide +kernel, by decide +kernel⟩
-- slots: 0 _law_state, 1 _law_taken, 2 _law_letters, 3 _law_name_here, 4 _law_size, 5 _law_k, 6 _law_letter; calls: _law_draw; constants: 
theorem ok_l_name {f : Addr} {fd : FuncData} {q : Str} (F : Fun K "_law_name" q s_l_name f fd) (B : Bt mg) (C_l_draw : Cal P w K mg base 1 "_law_draw" ["_law_state", "_law_many"] (spS preDraw)) : FnOk P w K mg base CX0 2 f fd ["_law_state", "_law_taken"] (spS preLname) := by
  obtain ⟨f__law_draw, fd__law_draw, G__law_draw, m__law_draw, k__law_draw, b__law_draw⟩ := C_l_draw.ex
  refine F.ok sc_l_name (fun vs H Q E h => ?_) (fun cdv A outer s H vs Q E hr h => ?_)
  · obtain ⟨T, s0, c0, h⟩ := h
    exact spT_len (fun as k kf hp => by obtain ⟨_, rfl, hp⟩ := hp; obtain ⟨_, rfl, _⟩ := hp; rfl) h
  · obtain ⟨T, s0, c0, h⟩ := h
    have hu := hu_of hr
    have r__law_draw := hr.mono (show 1 ≤ 1 by decide)
    refine ⟨_, (pss_cons (ps_set (i := 2) sc_l_name.nd rfl (.inl rfl) pe_str)
      (pss_cons (ps_set (i := 3) sc_l_name.nd rfl (.inl rfl) (pe_ix ix_str (pv 2) (pe_call G__law_draw r__law_draw (by rfl) m__law_draw k__law_draw b__law_draw .nil pass0 (pa_cons (pv 0) (pa_cons pe_int pa_nil))) (fun _ _ => rfl)))
      (pss_cons (ps_set (i := 4) sc_l_name.nd rfl (.inl rfl) pe_int)
      (pss_cons (ps_if (pt_cmpR (k_eqD K rfl (hu64 hr)) (pe_call G__law_draw r__law_draw (by rfl) m__law_draw k__law_draw b__law_draw .nil pass0 (pa_cons (pv 0) (pa_cons pe_int pa_nil))) pe_int (nomark _)) (pss_one (ps_set (i := 4) sc_l_name.nd rfl (.inl rfl) (pe_call G__law_draw r__law_draw (by rfl) m__law_draw k__law_draw b__law_draw .nil pass0 (pa_cons (pv 0) (pa_cons pe_int pa_nil))))) pss_nil)
      (pss_cons (ps_for PassesOwn.never rfl (pi_range1 rfl B.range_ (pa_cons (pv 4) pa_nil)) (pg_name (i := 5) sc_l_name.nd rfl (.inl rfl))
      (pss_one (ps_set (i := 3) sc_l_name.nd rfl (.inl rfl) (pe_op op_add_str (pv 3) (pe_ix ix_str (pe_op op_add_str (pv 2) pe_str) (pe_call G__law_draw r__law_draw (by rfl) m__law_draw k__law_draw b__law_draw .nil pass0 (pa_cons (pv 0) (pa_cons pe_int pa_nil))) (fun _ _ => rfl))))))
      (pss_cons (ps_for PassesOwn.never rfl (pi_str (pv 2)) (pg_name (i := 6) sc_l_name.nd rfl (.inl rfl))
      (pss_one (ps_if (pt_cmpR (k_in K rfl) (pv 3) (pv 1) (by with_unfolding_all rfl)) (pss_one (ps_set (i := 3) sc_l_name.nd rfl (.inl rfl) (pe_op op_add_str (pv 6) (pe_slice sl_str (pv 3) (po_some pe_int) po_none)))) pss_nil)))
      (pss_one (ps_ret (pv 3))))))))), body h fun g as k kf hT hst hp => ?_⟩
    obtain ⟨_, rfl, hp⟩ := hp
    obtain ⟨ns, rfl, hl, hk⟩ := hp
    have fst : ∀ r : Nat, r < 26 → ∃ d, fst26.cps.toList[r]? = some d ∧ d ∈ fst26.cps.toList := fun r hr => by
      have h26 : fst26.cps.toList.length = 26 := by decide +kernel
      have : fst26.cps.toList[r]? = some (fst26.cps.toList[r]'(by omega)) := List.getElem?_eq_getElem (by omega)
      exact ⟨_, this, List.mem_of_getElem? this⟩
    have f26 : fst26.length = 26 := by decide +kernel
    have d10 : dig10.length = 10 := by decide +kernel
    have gd : ∀ d, d ∈ fst26.cps.toList → GoodC d = true := fun d hd => by
      unfold GoodC
      rw [decide_eq_true hd]
      rfl
    refine se_seq <| se_asg <| ev_str ⟨rfl, ?_⟩
    refine se_seq <| se_asg <| ev_op <| ev_var rfl <| ev_callS hst <| ea_cons <| ev_var rfl <| ea_cons <| ev_int <| ea_nil ⟨_, rfl, colds rfl, 26, rfl, by decide, by decide, fun r hr => ?_⟩
    obtain ⟨d0, hd0, hm0⟩ := fst r hr
    refine op_ixS (s := fst26) (by omega) (atI_nat hd0) ⟨rfl, ?_⟩
    refine se_seq <| se_asg <| ev_int ⟨rfl, ?_⟩
    obtain ⟨nm, hnm⟩ : ∃ nm : Nat → List Nat → PyData, nm = fun c cs => .str ⟨(c :: cs).toArray⟩ := ⟨_, rfl⟩
    -- behind the letters, from any size on
    have rest : ∀ (z : Nat) (x5 x6 : Option Vl), z ≤ 7 → Se g (tSeq (tFor (iRng1 (tCons (tVar 4) tNil)) (gName 5) (tAsg (tOp (fun x y H Q => ∃ i j, x = .str i ∧ y = .str j ∧ i.length + j.length ≤ sizeLine ∧ Q (.str (i ++ j)) H) (tVar 3) (tOp rIxS (tOp (fun x y H Q => ∃ i j, x = .str i ∧ y = .str j ∧ i.length + j.length ≤ sizeLine ∧ Q (.str (i ++ j)) H) (tVar 2) (tC (.str (Str.ofString "0123456789")))) (tCall (spS preDraw) [] E0 (tCons (tVar 0) (tCons (tC (.int 36)) tNil))))) (gName 3)))
        (tSeq (tFor (iStr (tVar 2)) (gName 6) (tIfS (tTest (tOp (rIn K false) (tVar 3) (tVar 1))) (tAsg (tOp (fun x y H Q => ∃ i j, x = .str i ∧ y = .str j ∧ i.length + j.length ≤ sizeLine ∧ Q (.str (i ++ j)) H) (tVar 6) (tSl rSlS (tVar 3) (tPart (tC (.int 1))) tNoPart)) (gName 3)) tNext)) (tRet (tVar 3))))
        [some (.ex (.ref s0)), some (.da (nmL ns)), some (.da (.str fst26)), some (.da (nm d0 [])), some (.da (.int (z : Int))), x5, x6] { nx := fun _ => k (.da .none), rt := k, rf := kf } := fun z x5 x6 hz => by
      refine se_seq <| se_for (fun i c' => ∃ (cs : List Nat) (x5 : Option Vl), cs.length = i ∧ (∀ c ∈ cs, GoodC c = true) ∧ c' = [some (.ex (.ref s0)), some (.da (nmL ns)), some (.da (.str fst26)), some (.da (nm d0 cs)), some (.da (.int (z : Int))), x5, x6]) <| ei_rng <| ea_cons <| ev_var rfl <| ea_nil ⟨z, rfl, by omega, ⟨[], x5, rfl, by simp, rfl⟩, fun i d c' hd hw => ?_, fun c' hw => ?_⟩
      · obtain ⟨cs, x5, q1, q2, rfl⟩ := hw
        have hi : i < z := by
          have := (List.getElem?_eq_some_iff.mp hd).1
          simpa [rngD] using this
        have e36 : (fst26 ++ Str.ofString "0123456789").cps.toList = fst26.cps.toList ++ dig10.cps.toList := by
          show (fst26.cps ++ dig10.cps).toList = _
          rw [Array.toList_append]
        rw [hnm]
        refine ⟨_, _, tg_name, se_asg <| ev_op <| ev_var rfl <| ev_op <| ev_op <| ev_var rfl <| ev_str <| op_addS (s := fst26) ?_ <| ev_callS hst <| ea_cons <| ev_var rfl <| ea_cons <| ev_int <| ea_nil ⟨_, rfl, colds rfl, 36, rfl, by decide, by decide, fun r hr => ?_⟩⟩
        · show fst26.length + dig10.length ≤ _
          omega
        · have l36 : (fst26.cps.toList ++ dig10.cps.toList).length = 36 := by decide +kernel
          obtain ⟨d1, hd1⟩ : ∃ d1, (fst26.cps.toList ++ dig10.cps.toList)[r]? = some d1 := ⟨_, List.getElem?_eq_getElem (by omega)⟩
          have gd1 : GoodC d1 = true := by
            have := List.mem_append.mp (List.mem_of_getElem? hd1)
            unfold GoodC
            rcases this with h | h
            · rw [decide_eq_true h]
              rfl
            · rw [decide_eq_true h, Bool.or_true]
          refine op_ixS ?_ (atI_nat (j := r) (v := d1) (by rw [e36]; exact hd1)) <| op_addS ?_ ⟨rfl, cs ++ [d1], some (.da d), by simp [q1], ?_, ?_⟩
          · have : (fst26 ++ Str.ofString "0123456789").length = (fst26 ++ Str.ofString "0123456789").cps.toList.length := by simp [Str.length]
            rw [this, e36, l36]
            decide
          · simp [Str.length]
            omega
          · intro c hc
            rcases List.mem_append.mp hc with hc | hc
            · exact q2 c hc
            · have : c = d1 := by simpa using hc
              rw [this]
              exact gd1
          · have e : (⟨(d0 :: cs).toArray⟩ : Str) ++ ⟨#[d1]⟩ = ⟨(d0 :: (cs ++ [d1])).toArray⟩ := str_app (d0 :: cs) [d1]
            rw [e]
            rfl
      · obtain ⟨cs, x5, q1, q2, rfl⟩ := hw
        have hcl : cs.length ≤ 7 := by
          rw [q1]
          simp [rngD]
          exact hz
        have good : ∀ c, c ∈ fst26.cps.toList → Good ⟨(c :: cs).toArray⟩ := fun c hc => ⟨by simp [Str.length], by simp [Str.length]; omega, fun c' e => by
          have : c = c' := by simpa using e
          rw [← this]
          exact hc, fun c' hc' => by
          have : c' = c ∨ c' ∈ cs := by simpa using hc'
          rcases this with rfl | h
          · exact gd _ hc
          · exact q2 _ h⟩
        refine se_seq <| se_for (fun i c' => ∃ (c : Nat) (x6 : Option Vl), c ∈ fst26.cps.toList ∧ ((⟨(c :: cs).toArray⟩ : Str) ∉ ns ∨ ((∀ j, j + 1 < i → ∀ l, fst26.cps.toList[j]? = some l → (⟨(l :: cs).toArray⟩ : Str) ∈ ns) ∧ ∀ j, j + 1 = i → fst26.cps.toList[j]? = some c)) ∧ c' = [some (.ex (.ref s0)), some (.da (nmL ns)), some (.da (.str fst26)), some (.da (nm c cs)), some (.da (.int (z : Int))), x5, x6]) <| ei_str <| ev_var rfl ⟨_, rfl, ⟨d0, x6, hm0, .inr ⟨fun j hj => absurd hj (Nat.not_lt_zero _), fun j hj => absurd hj (Nat.succ_ne_zero j)⟩, rfl⟩, fun i d c' hd hw => ?_, fun c' hw => ?_⟩
        · obtain ⟨c, x6, p1, p2, rfl⟩ := hw
          obtain ⟨l, hl', rfl⟩ := at_map hd
          have lm := List.mem_of_getElem? hl'
          rw [hnm]
          refine ⟨_, _, tg_name, se_if <| et_test <| ev_op <| ev_var rfl <| ev_var rfl <| op_inN (.inr rfl) ⟨_, rfl, fun h => ?_, fun h => ?_⟩⟩
          · have hin : (⟨(c :: cs).toArray⟩ : Str) ∈ ns := of_decide_eq_true h
            obtain ⟨p3, p4⟩ := p2.resolve_left fun z => z hin
            refine se_asg <| ev_op <| ev_var rfl <| ev_slS <| ev_var rfl ⟨_, rfl, ?_, eo_some <| ev_int ⟨1, rfl, eo_none <| op_addS ?_ ⟨rfl, l, some (.da (.str ⟨#[l]⟩)), lm, .inr ⟨fun j hj l' hl' => ?_, fun j hj => ?_⟩, ?_⟩⟩⟩
            · simp [Str.length]
              omega
            · rw [cut1]
              simp [Str.length]
              omega
            · rcases Nat.lt_or_ge (j + 1) i with w | w
              · exact p3 j w l' hl'
              · have hj2 : j + 1 = i := by omega
                have := p4 j hj2
                rw [hl'] at this
                cases this
                exact hin
            · have : j = i := by omega
              rw [this]
              exact hl'
            · rw [cut1]
              have e : (⟨#[l]⟩ : Str) ++ ⟨cs.toArray⟩ = ⟨(l :: cs).toArray⟩ := str_app [l] cs
              rw [e]
              rfl
          · have hin : (⟨(c :: cs).toArray⟩ : Str) ∉ ns := of_decide_eq_false h
            exact se_next ⟨c, some (.da (.str ⟨#[l]⟩)), p1, .inl hin, rfl⟩
        · obtain ⟨c, x6, p1, p2, rfl⟩ := hw
          rw [hnm]
          refine se_ret <| ev_var rfl ⟨rfl, hk _ (good c p1) ?_⟩
          intro hin
          obtain ⟨p3, p4⟩ := p2.resolve_left fun z => z hin
          have l26 : (chD fst26).length = 26 := by decide +kernel
          rw [l26] at p3 p4
          have all : ∀ l ∈ fst26.cps.toList, (⟨(l :: cs).toArray⟩ : Str) ∈ ns := fun l hl => by
            obtain ⟨j, hj⟩ := List.mem_iff_getElem?.mp hl
            have hjl := (List.getElem?_eq_some_iff.mp hj).1
            have h26 : fst26.cps.toList.length = 26 := by decide +kernel
            rcases Nat.lt_or_ge (j + 1) 26 with w | w
            · exact p3 j w l hj
            · have hj2 : j + 1 = 26 := by omega
              have := p4 j hj2
              rw [hj] at this
              cases this
              exact hin
          have nd : fst26.cps.toList.Nodup := by decide +kernel
          have := nodup_le (l := fst26.cps.toList.map fun l => (⟨(l :: cs).toArray⟩ : Str)) (ns := ns) (List.pairwise_map.mpr (nd.imp fun h e => h (by simpa using e))) fun x hx => by
            obtain ⟨l, hl, rfl⟩ := List.mem_map.mp hx
            exact all l hl
          have h26 : fst26.cps.toList.length = 26 := by decide +kernel
          rw [List.length_map, h26] at this
          omega
    refine se_seq <| se_if <| et_test <| ev_op <| ev_callS hst <| ea_cons <| ev_var rfl <| ea_cons <| ev_int <| ea_nil ⟨_, rfl, colds rfl, 3, rfl, by decide, by decide, fun r hr => ev_int <| op_eqI ⟨_, rfl, fun h => ?_, fun h => ?_⟩⟩
    · refine se_asg <| ev_callS hst <| ea_cons <| ev_var rfl <| ea_cons <| ev_int <| ea_nil ⟨_, rfl, colds rfl, 8, rfl, by decide, by decide, fun z hz => ⟨rfl, ?_⟩⟩
      have := rest z none none (by omega)
      rw [hnm] at this
      exact this
    · refine se_next ?_
      have := rest 0 none none (by omega)
      rw [hnm] at this
      exact this
abbrev s_l_plan : Stmt := topS 46
theorem sc_l_plan : FnScope ["_law_state", "_law_inputs", "_law_outputs", "_law_most", "_law_many", "_law_is_ring", "_law_vals", "_law_k", "_law_ins", "_law_edges"] ["_law_state", "_law_inputs", "_law_outputs", "_law_most"] (defScope s_l_plan) := ⟨rfl, rfl, rfl, by decide +kernel, rfl, by decide +kernel, by decide +kernel⟩
-- slots: 0 _law_state, 1 _law_inputs, 2 _law_outputs, 3 _law_most, 4 _law_many, 5 _law_is_ring, 6 _law_vals, 7 _law_k, 8 _law_ins, 9 _law_edges; calls: _law_draw, _law_bits, _law_rebuilt; constants: 
theorem ok_l_plan {f : Addr} {fd : FuncData} {q : Str} (F : Fun K "_law_plan" q s_l_plan f fd) (B : Bt mg) (C_l_draw : Cal P w K mg base 1 "_law_draw" ["_law_state", "_law_many"] (spS preDraw)) (C_l_bits : Cal P w K mg base 2 "_law_bits" ["_law_state", "_law_many"] (spS preBits)) (C_l_rebuilt : Cal P w K mg base 3 "_law_rebuilt" ["_law_inputs", "_law_vals", "_law_edges"] (spD preRebuilt)) : FnOk P w K mg base CX0 4 f fd ["_law_state", "_law_inputs", "_law_outputs", "_law_most"] (spS prePlan) := by
  obtain ⟨f__law_draw, fd__law_draw, G__law_draw, m__law_draw, k__law_draw, b__law_draw⟩ := C_l_draw.ex
  obtain ⟨f__law_bits, fd__law_bits, G__law_bits, m__law_bits, k__law_bits, b__law_bits⟩ := C_l_bits.ex
  obtain ⟨f__law_rebuilt, fd__law_rebuilt, G__law_rebuilt, m__law_rebuilt, k__law_rebuilt, b__law_rebuilt⟩ := C_l_rebuilt.ex
  refine F.ok sc_l_plan (fun vs H Q E h => ?_) (fun cdv A outer s H vs Q E hr h => ?_)
  · obtain ⟨T, s0, c0, h⟩ := h
    exact spT_len (fun as k kf hp => by obtain ⟨_, rfl, hp⟩ := hp; obtain ⟨_, _, rfl, _⟩ := hp; rfl) h
  · obtain ⟨T, s0, c0, h⟩ := h
    have hu := hu_of hr
    have r__law_draw := hr.mono (show 1 ≤ 3 by decide)
    have r__law_bits := hr.mono (show 2 ≤ 3 by decide)
    have r__law_rebuilt := hr.mono (show 3 ≤ 3 by decide)
    refine ⟨_, (pss_cons (ps_set (i := 4) sc_l_plan.nd rfl (.inr rfl) (pe_op op_add pe_int (pe_call G__law_draw r__law_draw (by rfl) m__law_draw k__law_draw b__law_draw .nil pass0 (pa_cons (pv 0) (pa_cons (pv 3) pa_nil)))))
      (pss_cons (ps_set (i := 5) sc_l_plan.nd rfl (.inl rfl) (pe_cmpR op_gt (pe_call G__law_draw r__law_draw (by rfl) m__law_draw k__law_draw b__law_draw .nil pass0 (pa_cons (pv 0) (pa_cons pe_int pa_nil))) pe_int (nomark _)))
      (pss_cons (ps_set (i := 6) sc_l_plan.nd rfl (.inl rfl) (pe_lst (pa_cons (pe_tup (pa_cons (pe_op Bs.op_mulS pe_str (pe_callB (k_len K rfl) (by rfl) B.len_ PySem.boot_len (pa_cons (pv 1) pa_nil))) (pa_cons (pe_op Bs.op_mulS pe_str (pe_callB (k_len K rfl) (by rfl) B.len_ PySem.boot_len (pa_cons (pv 2) pa_nil))) pa_nil))) pa_nil)))
      (pss_cons (ps_for PassesOwn.never rfl (pi_range1 rfl B.range_ (pa_cons (pe_op op_sub (pv 4) pe_int) pa_nil)) (pg_name (i := 7) sc_l_plan.nd rfl (.inl rfl))
      (pss_cons (ps_set (i := 8) sc_l_plan.nd rfl (.inl rfl) (pe_call G__law_bits r__law_bits (by rfl) m__law_bits k__law_bits b__law_bits .nil pass0 (pa_cons (pv 0) (pa_cons (pe_callB (k_len K rfl) (by rfl) B.len_ PySem.boot_len (pa_cons (pv 1) pa_nil)) pa_nil))))
      (pss_cons (ps_if (pw_and (pt_val (pv 5)) (pw_and1 (pt_cmpR (k_eqD K rfl (hu64 hr)) (pv 8) (pe_ix (k_ixT K rfl) (pe_ix (k_ixL K rfl) (pv 6) (pv 7) (fun _ _ => rfl)) pe_int (fun _ _ => rfl)) (nomark _)))).pt (pss_one (ps_set (i := 8) sc_l_plan.nd rfl (.inl rfl) (pe_op op_add_str (pe_ifExp (pt_cmpR (k_eqD K rfl (hu64 hr)) (pe_ix ix_str (pv 8) pe_int (fun _ _ => rfl)) pe_str (nomark _)) pe_str pe_str) (pe_slice sl_str (pv 8) (po_some pe_int) po_none)))) pss_nil)
      (pss_one (ps_expr (k_bm K rfl PySem.F.plainAttrs_list PySem.F.slot_list_append PySem.F.type_list_append mt_append (pv 6) (pa_cons (pe_tup (pa_cons (pv 8) (pa_cons (pe_call G__law_bits r__law_bits (by rfl) m__law_bits k__law_bits b__law_bits .nil pass0 (pa_cons (pv 0) (pa_cons (pe_callB (k_len K rfl) (by rfl) B.len_ PySem.boot_len (pa_cons (pv 2) pa_nil)) pa_nil))) pa_nil))) pa_nil)))))))
      (pss_cons (ps_set (i := 9) sc_l_plan.nd rfl (.inl rfl) (pe_lst pa_nil))
      (pss_cons (ps_if (pt_val (pv 5)) (pss_one (ps_setLc (i := 9) (own := [("_law_k", 7)]) rfl sc_l_plan.nd rfl rfl (sw_true rfl rfl rfl (by decide +kernel)) (pi_range1 rfl B.range_ (pa_cons (pv 4) pa_nil)) (blkOk_by (N := ["_law_state", "_law_inputs", "_law_outputs", "_law_most", "_law_many", "_law_is_ring", "_law_vals", "_law_k", "_law_ins", "_law_edges"]) (sc := defScope s_l_plan) (by decide +kernel)) (fun _ _ _ _ _ => (pg_name (i := 7) sc_l_plan.nd rfl (.inl rfl))) (fun _ _ _ _ _ => pts_nil) (fun _ _ _ _ _ => (pe_tup (pa_cons (pv 7) (pa_cons (pe_op op_mul (pe_op op_add (pv 7) pe_int) (pe_callTy call_int1 (by rfl) B.int_ boot_int (pa_cons (pe_cmpR op_lt (pv 7) (pe_op op_sub (pv 4) pe_int) (nomark _)) pa_nil))) pa_nil)))))) pss_nil)
      (pss_cons (ps_for PassesOwn.never rfl (pi_range1 rfl B.range_ (pa_cons (pe_call G__law_draw r__law_draw (by rfl) m__law_draw k__law_draw b__law_draw .nil pass0 (pa_cons (pv 0) (pa_cons pe_int pa_nil))) pa_nil)) (pg_name (i := 7) sc_l_plan.nd rfl (.inl rfl))
      (pss_one (ps_expr (k_bm K rfl PySem.F.plainAttrs_list PySem.F.slot_list_append PySem.F.type_list_append mt_append (pv 9) (pa_cons (pe_tup (pa_cons (pe_call G__law_draw r__law_draw (by rfl) m__law_draw k__law_draw b__law_draw .nil pass0 (pa_cons (pv 0) (pa_cons (pv 4) pa_nil))) (pa_cons (pe_call G__law_draw r__law_draw (by rfl) m__law_draw k__law_draw b__law_draw .nil pass0 (pa_cons (pv 0) (pa_cons (pv 4) pa_nil))) pa_nil))) pa_nil)))))
      (pss_one (ps_ret (pe_tup (pa_cons (pv 6) (pa_cons (pe_call G__law_rebuilt r__law_rebuilt (by rfl) m__law_rebuilt k__law_rebuilt b__law_rebuilt .nil pass0 (pa_cons (pv 1) (pa_cons (pv 6) (pa_cons (pv 9) pa_nil)))) pa_nil)))))))))))), body h fun g as k kf hT hst hp => ?_⟩
    obtain ⟨_, rfl, hp⟩ := hp
    obtain ⟨ins, outs, rfl, h1, h2, h3, hk⟩ := hp
    refine se_seq <| se_asg <| ev_op <| ev_int <| ev_callS hst <| ea_cons <| ev_var rfl <| ea_cons <| ev_var rfl <| ea_nil ⟨_, rfl, colds rfl, 8, rfl, by decide, by decide, fun r hr => op_i0 ⟨rfl, ?_⟩⟩
    refine se_seq <| se_asg <| ev_op <| ev_callS hst <| ea_cons <| ev_var rfl <| ea_cons <| ev_int <| ea_nil ⟨_, rfl, colds rfl, 3, rfl, by decide, by decide, fun q hq => ev_int <| op_b0 ⟨rfl, ?_⟩⟩
    obtain ⟨ring, hring⟩ : ∃ ring : Bool, ring = decide ((0 : Int) < (q : Int)) := ⟨_, rfl⟩
    rw [← hring]
    have h1l := h1.1
    refine se_seq <| se_asgF <| ef_lst <| ea_cons <| ev_tup <| ea_cons <| ev_op <| ev_str <| ev_cb <| ea_cons <| ev_var rfl <| ea_nil <| cb_len (ds := ins.map .str) rfl <| ?_
    have el : ∀ ns : List Str, (((ns.map PyData.str).length : Nat) : Int) = ((ns.length : Nat) : Int) := fun ns => by rw [List.length_map]
    rw [el ins]
    refine op_mul0 h1l <| ea_cons <| ev_op <| ev_str <| ev_cb <| ea_cons <| ev_var rfl <| ea_nil <| cb_len (ds := outs.map .str) rfl <| ?_
    rw [el outs]
    refine op_mul0 h2 <| ea_nil ⟨[.str (zeros ins.length), .str (zeros outs.length)], rfl, by simp, ea_nil ⟨[valD' (zeros ins.length, zeros outs.length)], rfl, by simp, ?_⟩⟩
    have zb : ∀ n : Nat, Bits n (zeros n) := fun n => ⟨by simp [zeros, Str.length], fun c hc => .inl (by simp [zeros] at hc; exact hc.2)⟩
    refine se_seq <| se_for (fun i c' => ∃ (vs : List Val) (x7 x8 : Option Vl), vs.length = i + 1 ∧ vs[0]? = some (zeros ins.length, zeros outs.length) ∧ (∀ v ∈ vs, Bits ins.length v.1 ∧ Bits outs.length v.2) ∧ c' = [some (.ex (.ref s0)), some (.da (nmL ins)), some (.da (nmL outs)), some (.da (.int 8)), some (.da (.int (1 + (r : Int)))), some (.da (.bool ring)), some (.ac (vs.map valD')), x7, x8, none]) <| ei_rng <| ea_cons <| ev_op <| ev_var rfl <| ev_int <| op_i0 <| ea_nil ⟨r, ?_, by omega, ⟨[(zeros ins.length, zeros outs.length)], none, none, rfl, rfl, ?_, by simp [ctx0, List.replicate]⟩, fun i d c' hd hw => ?_, fun c' hw => ?_⟩
    · rw [show (1 + (r : Int) - 1) = (r : Int) by omega]
    · intro v hv
      have : v = (zeros ins.length, zeros outs.length) := by simpa using hv
      subst this
      exact ⟨zb _, zb _⟩
    · obtain ⟨vs, x7, x8, q1, q2, q3, rfl⟩ := hw
      have hi : i < r := by
        have := (List.getElem?_eq_some_iff.mp hd).1
        simpa [rngD] using this
      have ed : d = .int (i : Int) := by
        unfold rngD at hd
        rw [List.getElem?_map, List.getElem?_range hi] at hd
        cases hd
        rfl
      subst ed
      have push : ∀ (w : Str) (x7 x8 : Option Vl), Bits ins.length w → x8 = some (.da (.str w)) → Se g (tDrop (tBM K "list" rAppend (tVar 6) (tCons (tTup (tCons (tVar 8) (tCons (tCall (spS preBits) [] E0 (tCons (tVar 0) (tCons (tCB (fun xs H Q => ∃ p ys, xs = [.ref p] ∧ (SqL K H p ys ∨ SqT K H p ys) ∧ Q (.int ys.length) H) (tCons (tVar 2) tNil)) tNil))) tNil))) tNil)))
          [some (.ex (.ref s0)), some (.da (nmL ins)), some (.da (nmL outs)), some (.da (.int 8)), some (.da (.int (1 + (r : Int)))), some (.da (.bool ring)), some (.ac (vs.map valD')), x7, x8, none]
          { nx := fun c' => ∃ (vs : List Val) (x7 x8 : Option Vl), vs.length = i + 1 + 1 ∧ vs[0]? = some (zeros ins.length, zeros outs.length) ∧ (∀ v ∈ vs, Bits ins.length v.1 ∧ Bits outs.length v.2) ∧ c' = [some (.ex (.ref s0)), some (.da (nmL ins)), some (.da (nmL outs)), some (.da (.int 8)), some (.da (.int (1 + (r : Int)))), some (.da (.bool ring)), some (.ac (vs.map valD')), x7, x8, none], rt := k, rf := kf } := fun w x7 x8 hw e8 => by
        subst e8
        refine se_app rfl <| ev_tup <| ea_cons <| ev_var rfl <| ea_cons <| ev_callS hst <| ea_cons <| ev_var rfl <| ea_cons <| ev_cb <| ea_cons <| ev_var rfl <| ea_nil <| cb_len (ds := outs.map .str) rfl <| ea_nil ⟨_, rfl, colds rfl, outs.length, by rw [el outs], h2, fun u hu => ea_nil ⟨[.str w, .str u], rfl, by simp, _, rfl, ?_, vs ++ [(w, u)], x7, some (.da (.str w)), ?_, ?_, ?_, ?_⟩⟩
        · simp
          omega
        · simp [q1]
        · exact Bst.get_snoc q2
        · intro v hv
          rcases List.mem_append.mp hv with hv | hv
          · exact q3 v hv
          · have : v = (w, u) := by simpa using hv
            subst this
            exact ⟨hw, hu⟩
        · simp [valD']
      have sub : ∀ {t : TS} {c : Bd.Ctx} {E E' : Ed}, E'.nx = E.nx → E'.rt = E.rt → E'.rf = E.rf → Se g t c { nx := E'.nx, rt := E'.rt, rf := E'.rf } → Se g t c E := fun e1 e2 e3 h => se_sub h (fun _ q => e1 ▸ q) (fun _ q => e2 ▸ q) (fun _ q => e3 ▸ q) (fun _ q => q.elim) (fun _ q => q.elim)
      have hvi : i < vs.length := by omega
      refine ⟨_, _, tg_name, se_seq <| se_asg <| ev_callS hst <| ea_cons <| ev_var rfl <| ea_cons <| ev_cb <| ea_cons <| ev_var rfl <| ea_nil <| cb_len (ds := ins.map .str) rfl <| ea_nil ⟨_, rfl, colds rfl, ins.length, by rw [el ins], h1l, fun w hw => ⟨rfl, ?_⟩⟩⟩
      have wok : PyData.strOk w = true := by
        simp only [PyData.strOk, Array.all_eq_true']
        intro c hc
        rcases hw.2 c (by simpa using hc) with rfl | rfl <;> decide
      have vok : PyData.strOk (valAt vs i).1 = true := by
        simp only [PyData.strOk, Array.all_eq_true']
        intro c hc
        rcases (q3 _ (val_mem hvi)).1.2 c (by simpa using hc) with rfl | rfl <;> decide
      obtain ⟨c1, cs, hcs⟩ : ∃ c1 cs, w.cps.toList = c1 :: cs := by
        cases q : w.cps.toList with
        | nil =>
          have : w.length = w.cps.toList.length := by simp [Str.length]
          rw [q, hw.1] at this
          have : ins.length = 0 := this
          omega
        | cons a b => exact ⟨a, b, rfl⟩
      have ew : w = ⟨(c1 :: cs).toArray⟩ := by
        cases w with
        | mk cps =>
          rw [← hcs]
      have hc1 : c1 = 48 ∨ c1 = 49 := hw.2 c1 (by rw [hcs]; simp)
      have wl : w.length ≤ 3 := by rw [hw.1]; exact h1l
      refine se_cut (fun c' => ∃ (w : Str), Bits ins.length w ∧ c' = [some (.ex (.ref s0)), some (.da (nmL ins)), some (.da (nmL outs)), some (.da (.int 8)), some (.da (.int (1 + (r : Int)))), some (.da (.bool ring)), some (.ac (vs.map valD')), some (.da (.int (i : Int))), some (.da (.str w)), none]) ?_ ?_
      · refine se_if <| et_and <| et_B <| ev_var rfl ⟨_, rfl, fun hr => ?_, fun hr => ⟨nofun, fun _ => se_next ⟨w, hw, rfl⟩⟩⟩
        refine et_test <| ev_op <| ev_var rfl <| ev_op <| ev_op <| ev_var rfl <| ev_var rfl <| op_ixL rfl (atI_nat (val_get hvi)) <| ev_int <| op_ixT (atI_nat (j := 0) rfl) <| op_eqS wok vok ⟨_, rfl, fun h => ?_, fun h => se_next ⟨w, hw, rfl⟩⟩
        have sl : cutS w (some 1) none = ⟨cs.toArray⟩ := by rw [ew, cut1]
        have flip : ∀ d : Nat, d = 48 ∨ d = 49 → Bits ins.length ((⟨#[d]⟩ : Str) ++ ⟨cs.toArray⟩) := fun d hd => by
          have e : (⟨#[d]⟩ : Str) ++ ⟨cs.toArray⟩ = ⟨(d :: cs).toArray⟩ := str_app [d] cs
          rw [e]
          refine ⟨?_, fun c hc => ?_⟩
          · have := hw.1
            rw [ew] at this
            simp [Str.length] at this ⊢
            exact this
          · have : c = d ∨ c ∈ cs := by simpa using hc
            rcases this with rfl | h
            · exact hd
            · exact hw.2 c (by rw [hcs]; simp [h])
        have lcs : (⟨cs.toArray⟩ : Str).length ≤ 3 := by
          rw [ew] at wl
          simp [Str.length] at wl ⊢
          omega
        refine se_asg <| ev_op <| ev_if <| et_test <| ev_op <| ev_op <| ev_var rfl <| ev_int <| op_ixS (by omega) (atI_nat (j := 0) (v := c1) (by rw [hcs]; rfl)) <| ev_str <| op_eqS (strOk1 (by rcases hc1 with rfl | rfl <;> decide)) strOk0 ⟨_, rfl, fun h => ev_str ?_, fun h => ev_str ?_⟩
        · refine ev_slS <| ev_var rfl ⟨_, rfl, by omega, eo_some <| ev_int ⟨1, rfl, eo_none ?_⟩⟩
          rw [sl]
          exact op_addS (by show 1 + _ ≤ _; omega) ⟨rfl, _, flip 49 (.inr rfl), rfl⟩
        · refine ev_slS <| ev_var rfl ⟨_, rfl, by omega, eo_some <| ev_int ⟨1, rfl, eo_none ?_⟩⟩
          rw [sl]
          exact op_addS (by show 1 + _ ≤ _; omega) ⟨rfl, _, flip 48 (.inl rfl), rfl⟩
      · rintro c' ⟨w, hw, rfl⟩
        exact se_sub (push w _ _ hw rfl) (fun _ q => q) (fun _ q => q) (fun _ q => q) (fun _ q => q.elim) (fun _ q => q.elim)
    · obtain ⟨vs, x7, x8, q1, q2, q3, rfl⟩ := hw
      have q1 : vs.length = r + 1 := by rw [q1]; simp [rngD]
      have hv : Vok ins outs vs := ⟨by omega, by omega, q2, q3⟩
      have tail : True := trivial
      refine se_seq <| se_asgF <| ef_lst <| ea_nil ⟨[], rfl, by decide, ?_⟩
      refine se_cut (fun c' => ∃ (es : List Edg), es.length ≤ 8 ∧ (∀ e ∈ es, e.1 < vs.length ∧ e.2 < vs.length) ∧ c' = [some (.ex (.ref s0)), some (.da (nmL ins)), some (.da (nmL outs)), some (.da (.int 8)), some (.da (.int (1 + (r : Int)))), some (.da (.bool ring)), some (.ac (vs.map valD')), x7, x8, some (.ac (es.map edgD))]) ?_ ?_
      · refine se_if <| et_B <| ev_var rfl ⟨_, rfl, fun _ => ?_, fun _ => se_next ⟨[], by simp, by simp, rfl⟩⟩
        refine se_asgF <| ef_lc (fun i acc => i ≤ r + 1 ∧ acc = ((List.range i).map fun j => ((j, if j < r then j + 1 else 0) : Edg)).map edgD) <| ei_rng <| ea_cons <| ev_var rfl <| ea_nil ⟨r + 1, ?_, by omega, ⟨Nat.zero_le _, rfl⟩, by simp [rngD]; omega, fun i d acc hd ha => ?_, fun acc ha => ?_⟩
        · rw [show (1 + (r : Int)) = (((r + 1 : Nat)) : Int) by omega]
        · obtain ⟨ha0, ha⟩ := ha
          have hi : i < r + 1 := by
            have := (List.getElem?_eq_some_iff.mp hd).1
            simpa [rngD] using this
          have ed : d = .int (i : Int) := by
            unfold rngD at hd
            rw [List.getElem?_map, List.getElem?_range hi] at hd
            cases hd
            rfl
          subst ed
          refine ⟨_, _, tg_name, by simp, et_yes ⟨fun _ => ev_tup <| ea_cons <| ev_var rfl <| ea_cons <| ev_op <| ev_op <| ev_var rfl <| ev_int <| op_i0 <| ev_cb <| ea_cons <| ev_op <| ev_var rfl <| ev_op <| ev_var rfl <| ev_int <| op_i0 <| op_b0 <| ea_nil <| cb_intB <| op_i1 (.inr ?_) <| ea_nil ⟨[.int (i : Int), .int ((if i < r then i + 1 else 0 : Nat) : Int)], ?_, by simp, _, rfl, by omega, ?_⟩, nofun⟩⟩
          · split <;> decide
          · by_cases z : i < r
            · rw [if_pos z, decide_eq_true (show (i : Int) < 1 + (r : Int) - 1 by omega)]
              simp
            · rw [if_neg z, decide_eq_false (show ¬ (i : Int) < 1 + (r : Int) - 1 by omega)]
              simp
          · rw [ha, List.range_succ, List.map_append, List.map_append]
            rfl
        · obtain ⟨_, ha⟩ := ha
          subst ha
          refine ⟨_, ?_, ?_, rfl⟩
          · simp [rngD]
            omega
          · intro e he
            obtain ⟨j, hj, rfl⟩ := List.mem_map.mp he
            have hj : j < r + 1 := by simpa [rngD] using hj
            refine ⟨by rw [q1]; exact hj, ?_⟩
            rw [q1]
            dsimp only
            split <;> omega
      · rintro c' ⟨es, p1, p2, rfl⟩
        refine se_seq <| se_for (fun i c' => ∃ (es : List Edg) (x7 : Option Vl), es.length ≤ 8 + i ∧ (∀ e ∈ es, e.1 < vs.length ∧ e.2 < vs.length) ∧ c' = [some (.ex (.ref s0)), some (.da (nmL ins)), some (.da (nmL outs)), some (.da (.int 8)), some (.da (.int (1 + (r : Int)))), some (.da (.bool ring)), some (.ac (vs.map valD')), x7, x8, some (.ac (es.map edgD))]) <| ei_rng <| ea_cons <| ev_callS hst <| ea_cons <| ev_var rfl <| ea_cons <| ev_int <| ea_nil ⟨_, rfl, colds rfl, 17, rfl, by decide, by decide, fun n hn => ea_nil ⟨n, rfl, by omega, ⟨es, x7, p1, p2, rfl⟩, fun i d c' hd hw => ?_, fun c' hw => ?_⟩⟩
        · obtain ⟨es, x7, p1, p2, rfl⟩ := hw
          have hi : i < n := by
            have := (List.getElem?_eq_some_iff.mp hd).1
            simpa [rngD] using this
          have em : (1 + (r : Int)) = (((r + 1 : Nat)) : Int) := by omega
          refine ⟨_, _, tg_name, se_app rfl <| ev_tup <| ea_cons <| ev_callS hst <| ea_cons <| ev_var rfl <| ea_cons <| ev_var rfl <| ea_nil ⟨_, rfl, colds rfl, r + 1, by rw [em], by omega, by omega, fun a ha => ea_cons <| ev_callS hst <| ea_cons <| ev_var rfl <| ea_cons <| ev_var rfl <| ea_nil ⟨_, rfl, colds rfl, r + 1, by rw [em], by omega, by omega, fun b hb => ea_nil ⟨[.int (a : Int), .int (b : Int)], rfl, by simp, _, rfl, ?_, es ++ [(a, b)], some (.da d), ?_, ?_, ?_⟩⟩⟩⟩
          · simp
            omega
          · simp
            omega
          · intro e he
            rcases List.mem_append.mp he with he | he
            · exact p2 e he
            · have : e = (a, b) := by simpa using he
              subst this
              rw [q1]
              exact ⟨ha, hb⟩
          · simp [edgD]
        · obtain ⟨es, x7, p1, p2, rfl⟩ := hw
          have hE : Eok vs.length es := ⟨by simp [rngD] at p1; omega, p2⟩
          refine se_frz 6 rfl <| se_frz 9 rfl <| se_ret <| ev_tup <| ea_cons <| ev_var rfl <| ea_cons <| ev_callP <| ea_cons <| ev_var rfl <| ea_cons <| ev_var rfl <| ea_cons <| ev_var rfl <| ea_nil ⟨colds rfl, ins, outs, vs, es, rfl, h1, hv, hE, ea_nil ⟨[valsL vs, edgL (rebuilt ins vs es)], rfl, by simp, rfl, hk vs _ ⟨hv, es, hE, rfl⟩⟩⟩
abbrev s_l_doubled : Stmt := topS 48
theorem sc_l_doubled : FnScope ["_law_state", "_law_vals", "_law_edges", "_law_place", "_law_new", "_law_rows_here", "_law_left", "_law_right", "_law_copies", "_law_row"] ["_law_state", "_law_vals", "_law_edges", "_law_place"] (defScope s_l_doubled) := ⟨rfl, rfl, rfl, by decide +kernel, rfl, by decide +kernel, by decide +kernel⟩
-- slots: 0 _law_state, 1 _law_vals, 2 _law_edges, 3 _law_place, 4 _law_new, 5 _law_rows_here, 6 _law_left, 7 _law_right, 8 _law_copies, 9 _law_row; calls: _law_draw; constants: 
theorem ok_l_doubled {f : Addr} {fd : FuncData} {q : Str} (F : Fun K "_law_doubled" q s_l_doubled f fd) (B : Bt mg) (C_l_draw : Cal P w K mg base 1 "_law_draw" ["_law_state", "_law_many"] (spS preDraw)) : FnOk P w K mg base CX0 2 f fd ["_law_state", "_law_vals", "_law_edges", "_law_place"] (spS preDoubled) := by
  obtain ⟨f__law_draw, fd__law_draw, G__law_draw, m__law_draw, k__law_draw, b__law_draw⟩ := C_l_draw.ex
  refine F.ok sc_l_doubled (fun vs H Q E h => ?_) (fun cdv A outer s H vs Q E hr h => ?_)
  · obtain ⟨T, s0, c0, h⟩ := h
    exact spT_len (fun as k kf hp => by obtain ⟨_, rfl, hp⟩ := hp; obtain ⟨_, _, _, _, _, rfl, _⟩ := hp; rfl) h
  · obtain ⟨T, s0, c0, h⟩ := h
    have hu := hu_of hr
    have r__law_draw := hr.mono (show 1 ≤ 1 by decide)
    refine ⟨_, (pss_cons (ps_if (pt_cmpR op_gt (pe_callB (k_len K rfl) (by rfl) B.len_ PySem.boot_len (pa_cons (pv 1) pa_nil)) pe_int (nomark _)) (pss_one (ps_ret (pe_tup (pa_cons (pv 1) (pa_cons (pv 2) pa_nil))))) pss_nil)
      (pss_cons (ps_set (i := 4) sc_l_doubled.nd rfl (.inr rfl) (pe_callB (k_len K rfl) (by rfl) B.len_ PySem.boot_len (pa_cons (pv 1) pa_nil)))
      (pss_cons (ps_set (i := 5) sc_l_doubled.nd rfl (.inl rfl) (pe_lst pa_nil))
      (pss_cons (ps_for PassesOwn.never rfl (k_seq K rfl (pv 2)) (k_pgTup K rfl (n := 2) rfl (pgs_cons (pg_name (i := 6) sc_l_doubled.nd rfl (.inl rfl)) (pgs_cons (pg_name (i := 7) sc_l_doubled.nd rfl (.inl rfl)) pgs_nil)))
      (pss_cons (ps_if (pw_and (pt_cmpR (k_eqD K rfl (hu64 hr)) (pv 7) (pv 3) (nomark _)) (pw_and1 (pt_cmpR (k_eqD K rfl (hu64 hr)) (pe_call G__law_draw r__law_draw (by rfl) m__law_draw k__law_draw b__law_draw .nil pass0 (pa_cons (pv 0) (pa_cons pe_int pa_nil))) pe_int (nomark _)))).pt (pss_one (ps_set (i := 7) sc_l_doubled.nd rfl (.inl rfl) (pv 4))) pss_nil)
      (pss_one (ps_expr (k_bm K rfl PySem.F.plainAttrs_list PySem.F.slot_list_append PySem.F.type_list_append mt_append (pv 5) (pa_cons (pe_tup (pa_cons (pv 6) (pa_cons (pv 7) pa_nil))) pa_nil))))))
      (pss_cons (ps_setLc (i := 8) (own := [("_law_row", 9)]) rfl sc_l_doubled.nd rfl rfl (sw_true rfl rfl rfl (by decide +kernel)) (k_seq K rfl (pv 5)) (blkOk_by (N := ["_law_state", "_law_vals", "_law_edges", "_law_place", "_law_new", "_law_rows_here", "_law_left", "_law_right", "_law_copies", "_law_row"]) (sc := defScope s_l_doubled) (by decide +kernel)) (fun _ _ _ _ _ => (pg_name (i := 9) sc_l_doubled.nd rfl (.inl rfl))) (fun _ _ _ _ _ => pts_one (pt_cmpR (k_eqD K rfl (hu64 hr)) (pe_ix (k_ixT K rfl) (pv 9) pe_int (fun _ _ => rfl)) (pv 3) (nomark _))) (fun _ _ _ _ _ => (pe_tup (pa_cons (pv 4) (pa_cons (pe_ix (k_ixT K rfl) (pv 9) pe_int (fun _ _ => rfl)) pa_nil)))))
      (pss_one (ps_ret (pe_tup (pa_cons (pe_op op_cat (pv 1) (pe_lst (pa_cons (pe_ix (k_ixL K rfl) (pv 1) (pv 3) (fun _ _ => rfl)) pa_nil))) (pa_cons (pe_op op_cat (pv 5) (pv 8)) pa_nil)))))))))), body h fun g as k kf hT hst hp => ?_⟩
    obtain ⟨_, rfl, hp⟩ := hp
    obtain ⟨ins, outs, vs, es, p, rfl, h1, h2, h3, h4, hk⟩ := hp
    have ho := h1.2.1
    refine se_seq <| se_if <| et_test <| ev_op <| ev_cb <| ea_cons <| ev_var rfl <| ea_nil <| cb_len (ds := vs.map valD') rfl <| ev_int <| op_b0 ⟨_, rfl, fun h => ?_, fun h => ?_⟩
    · refine se_ret <| ev_tup <| ea_cons <| ev_var rfl <| ea_cons <| ev_var rfl <| ea_nil ⟨[valsL vs, edgL es], rfl, by simp, rfl, hk vs es h1 h2⟩
    · have h7 : vs.length ≤ 7 := by
        have := of_decide_eq_false h
        simp at this
        omega
      refine se_next <| se_seq <| se_asg <| ev_cb <| ea_cons <| ev_var rfl <| ea_nil <| cb_len (ds := vs.map valD') rfl ⟨rfl, ?_⟩
      have el : (((vs.map valD').length : Nat) : Int) = ((vs.length : Nat) : Int) := by rw [List.length_map]
      rw [el]
      refine se_seq <| se_asgF <| ef_lst <| ea_nil ⟨[], rfl, by decide, ?_⟩
      refine se_seq <| se_for (fun i c' => ∃ (fs : List Edg) (x6 x7 : Option Vl), fs.length = i ∧ (∀ e ∈ fs, e.1 < vs.length + 1 ∧ e.2 < vs.length + 1) ∧ c' = [some (.ex (.ref s0)), some (.da (valsL vs)), some (.da (edgL es)), some (.da (.int (p : Int))), some (.da (.int (vs.length : Int))), some (.ac (fs.map edgD)), x6, x7, none, none]) <| ei_seq <| ev_var rfl ⟨_, .inl rfl, ⟨[], none, none, rfl, by simp, by simp [ctx0, List.replicate]⟩, fun i d c' hd hw => ?_, fun c' hw => ?_⟩
      · obtain ⟨fs, x6, x7, q1, q2, rfl⟩ := hw
        obtain ⟨e, he, rfl⟩ := at_map hd
        have hi := (List.getElem?_eq_some_iff.mp he).1
        have hm := h2.2 e (List.mem_of_getElem? he)
        refine ⟨_, _, tg_tup rfl (tgs_cons tg_name (tgs_cons tg_name tgs_nil)), ?_⟩
        refine se_cut (fun c' => ∃ b : Nat, b < vs.length + 1 ∧ c' = [some (.ex (.ref s0)), some (.da (valsL vs)), some (.da (edgL es)), some (.da (.int (p : Int))), some (.da (.int (vs.length : Int))), some (.ac (fs.map edgD)), some (.da (.int (e.1 : Int))), some (.da (.int (b : Int))), none, none]) ?_ ?_
        · refine se_if <| et_and <| et_test <| ev_op <| ev_var rfl <| ev_var rfl <| op_eqI ⟨_, rfl, fun _ => ?_, fun _ => ⟨nofun, fun _ => se_next ⟨e.2, by omega, rfl⟩⟩⟩
          refine et_test <| ev_op <| ev_callS hst <| ea_cons <| ev_var rfl <| ea_cons <| ev_int <| ea_nil ⟨_, rfl, colds rfl, 2, rfl, by decide, by decide, fun r hr => ev_int <| op_eqI ⟨_, rfl, fun _ => se_asg <| ev_var rfl ⟨rfl, vs.length, by omega, rfl⟩, fun _ => se_next ⟨e.2, by omega, rfl⟩⟩⟩
        · rintro c' ⟨b, hb, rfl⟩
          refine se_app rfl <| ev_tup <| ea_cons <| ev_var rfl <| ea_cons <| ev_var rfl <| ea_nil ⟨[.int (e.1 : Int), .int (b : Int)], rfl, by simp, _, rfl, ?_, fs ++ [(e.1, b)], some (.da (.int (e.1 : Int))), some (.da (.int (b : Int))), ?_, ?_, ?_⟩
          · simp
            omega
          · simp [q1]
          · intro x hx
            rcases List.mem_append.mp hx with hx | hx
            · exact q2 x hx
            · have : x = (e.1, b) := by simpa using hx
              subst this
              exact ⟨by omega, hb⟩
          · simp [edgD]
      · obtain ⟨fs, x6, x7, q1, q2, rfl⟩ := hw
        have q1 : fs.length = es.length := by rw [q1]; simp
        refine se_frz 5 rfl <| se_seq <| se_asg <| ev_ofF <| ef_lc (fun i acc => acc = (((fs.take i).filter fun e => decide (e.1 = p)).map fun e => ((vs.length, e.2) : Edg)).map edgD) <| ei_seq <| ev_var rfl ⟨fs.map edgD, .inl rfl, rfl, by simp; omega, fun i d acc hd ha => ?_, fun acc ha => ?_⟩
        · obtain ⟨e, he, rfl⟩ := at_map hd
          refine ⟨_, _, tg_name, by simp, et_test <| ev_op <| ev_op <| ev_var rfl <| ev_int <| op_ixT (atI_nat (j := 0) rfl) <| ev_var rfl <| op_eqI ⟨_, rfl, fun h => ?_, fun h => ?_⟩⟩
          · have hs : e.1 = p := by
              have := of_decide_eq_true h
              omega
            refine ev_tup <| ea_cons <| ev_var rfl <| ea_cons <| ev_op <| ev_var rfl <| ev_int <| op_ixT (atI_nat (j := 1) rfl) <| ea_nil ⟨[.int (vs.length : Int), .int (e.2 : Int)], rfl, by simp, _, rfl, ?_⟩
            rw [ha, take_snoc he, List.filter_append, List.map_append, List.map_append]
            simp [hs, edgD]
          · have hs : ¬ e.1 = p := by
              have := of_decide_eq_false h
              omega
            rw [ha, take_snoc he, List.filter_append, List.map_append, List.map_append]
            simp [hs]
        · subst ha
          rw [List.take_of_length_le (by simp)]
          obtain ⟨cp, hcp⟩ : ∃ cp : List Edg, cp = (fs.filter fun e => decide (e.1 = p)).map fun e => ((vs.length, e.2) : Edg) := ⟨_, rfl⟩
          rw [← hcp]
          have lcp : cp.length ≤ 16 := by
            rw [hcp, List.length_map]
            exact Nat.le_trans (List.length_filter_le _ _) (by omega)
          refine ⟨rfl, se_ret <| ev_tup <| ea_cons <| ev_ofF <| ef_op <| ev_var rfl <| ev_ofF <| ef_lst <| ea_cons <| ev_op <| ev_var rfl <| ev_var rfl <| op_ixL rfl (atI_nat (val_get h4)) <| ea_nil ⟨[valD' (valAt vs p)], rfl, by simp, op_cat rfl rfl ?_ <| ea_cons <| ev_ofF <| ef_op <| ev_var rfl <| ev_var rfl <| op_cat rfl rfl ?_ <| ea_nil ⟨[valsL (vs ++ [valAt vs p]), edgL (fs ++ cp)], ?_, by simp, rfl, hk _ _ ?_ ?_⟩⟩⟩
          · simp
            omega
          · simp
            omega
          · simp [valsL, edgL]
          · refine ⟨by simp, by simp; omega, ?_, fun v hv => ?_⟩
            · rw [List.getElem?_append_left (by omega)]
              exact h1.2.2.1
            · rcases List.mem_append.mp hv with hv | hv
              · exact h1.2.2.2 v hv
              · have : v = valAt vs p := by simpa using hv
                rw [this]
                exact h1.2.2.2 _ (val_mem h4)
          · refine ⟨by simp; omega, fun e he => ?_⟩
            have hl : (vs ++ [valAt vs p]).length = vs.length + 1 := by simp
            rw [hl]
            rcases List.mem_append.mp he with he | he
            · exact q2 e he
            · rw [hcp] at he
              obtain ⟨x, hx, rfl⟩ := List.mem_map.mp he
              have := q2 x (List.mem_filter.mp hx).1
              exact ⟨by show vs.length < _; omega, this.2⟩
abbrev s_l_renumbered : Stmt := topS 49
theorem sc_l_renumbered : FnScope ["_law_state", "_law_vals", "_law_edges", "_law_order", "_law_at", "_law_row"] ["_law_state", "_law_vals", "_law_edges"] (defScope s_l_renumbered) := ⟨rfl, rfl, rfl, by decide +kernel, rfl, by decide +kernel, by decide +kernel⟩
-- slots: 0 _law_state, 1 _law_vals, 2 _law_edges, 3 _law_order, 4 _law_at, 5 _law_row; calls: _law_shuffled; constants: 
theorem ok_l_renumbered {f : Addr} {fd : FuncData} {q : Str} (F : Fun K "_law_renumbered" q s_l_renumbered f fd) (B : Bt mg) (C_l_shuffled : Cal P w K mg base 2 "_law_shuffled" ["_law_state", "_law_things"] (spS preShuf)) : FnOk P w K mg base CX0 3 f fd ["_law_state", "_law_vals", "_law_edges"] (spS preRenum) := by
  obtain ⟨f__law_shuffled, fd__law_shuffled, G__law_shuffled, m__law_shuffled, k__law_shuffled, b__law_shuffled⟩ := C_l_shuffled.ex
  refine F.ok sc_l_renumbered (fun vs H Q E h => ?_) (fun cdv A outer s H vs Q E hr h => ?_)
  · obtain ⟨T, s0, c0, h⟩ := h
    exact spT_len (fun as k kf hp => by obtain ⟨_, rfl, hp⟩ := hp; obtain ⟨_, _, _, _, rfl, _⟩ := hp; rfl) h
  · obtain ⟨T, s0, c0, h⟩ := h
    have hu := hu_of hr
    have r__law_shuffled := hr.mono (show 2 ≤ 2 by decide)
    refine ⟨_, (pss_cons (ps_set (i := 3) sc_l_renumbered.nd rfl (.inr rfl) (pe_op op_cat (pe_lst (pa_cons pe_int pa_nil)) (pe_lc (own := [("_law_at", 4)]) rfl sc_l_renumbered.nd (k_seq K rfl (pe_call G__law_shuffled r__law_shuffled (by rfl) m__law_shuffled k__law_shuffled b__law_shuffled .nil pass0 (pa_cons (pv 0) (pa_cons (pe_listRg rfl (by rfl) B.list_ (prg_1 (by rfl) B.range_ (pe_op op_sub (pe_callB (k_len K rfl) (by rfl) B.len_ PySem.boot_len (pa_cons (pv 1) pa_nil)) pe_int))) pa_nil)))) (blkOk_by (N := ["_law_state", "_law_vals", "_law_edges", "_law_order", "_law_at", "_law_row"]) (sc := defScope s_l_renumbered) (by decide +kernel)) (fun _ _ _ _ _ => (pg_name (i := 4) sc_l_renumbered.nd rfl (.inl rfl))) (fun _ _ _ _ _ => pts_nil) (fun _ _ _ _ _ => (pe_op op_add pe_int (pv 4))))))
      (pss_one (ps_ret (pe_tup (pa_cons (pe_lc (own := [("_law_at", 4)]) rfl sc_l_renumbered.nd (k_seq K rfl (pv 3)) (blkOk_by (N := ["_law_state", "_law_vals", "_law_edges", "_law_order", "_law_at", "_law_row"]) (sc := defScope s_l_renumbered) (by decide +kernel)) (fun _ _ _ _ _ => (pg_name (i := 4) sc_l_renumbered.nd rfl (.inl rfl))) (fun _ _ _ _ _ => pts_nil) (fun _ _ _ _ _ => (pe_ix (k_ixL K rfl) (pv 1) (pv 4) (fun _ _ => rfl)))) (pa_cons (pe_lc (own := [("_law_row", 5)]) rfl sc_l_renumbered.nd (k_seq K rfl (pv 2)) (blkOk_by (N := ["_law_state", "_law_vals", "_law_edges", "_law_order", "_law_at", "_law_row"]) (sc := defScope s_l_renumbered) (by decide +kernel)) (fun _ _ _ _ _ => (pg_name (i := 5) sc_l_renumbered.nd rfl (.inl rfl))) (fun _ _ _ _ _ => pts_nil) (fun _ _ _ _ _ => (pe_tup (pa_cons (k_bm K rfl PySem.F.plainAttrs_list PySem.F.slot_list_index PySem.F.type_list_index (k_index K rfl (hu65 hr)) (pv 3) (pa_cons (pe_ix (k_ixT K rfl) (pv 5) pe_int (fun _ _ => rfl)) pa_nil)) (pa_cons (k_bm K rfl PySem.F.plainAttrs_list PySem.F.slot_list_index PySem.F.type_list_index (k_index K rfl (hu65 hr)) (pv 3) (pa_cons (pe_ix (k_ixT K rfl) (pv 5) pe_int (fun _ _ => rfl)) pa_nil)) pa_nil))))) pa_nil)))))), body h fun g as k kf hT hst hp => ?_⟩
    obtain ⟨_, rfl, hp⟩ := hp
    obtain ⟨ins, outs, vs, es, rfl, h1, h2, hk⟩ := hp
    obtain ⟨n, hn⟩ : ∃ n, vs.length = n + 1 := ⟨vs.length - 1, by have := h1.1; omega⟩
    have h8 := h1.2.1
    have hlen := h2.1
    have el : (((vs.map valD').length : Nat) : Int) - 1 = ((n : Nat) : Int) := by rw [List.length_map, hn]; omega
    have ni : ∀ a c : Nat, PyData.int (a : Int) = .int (c : Int) → a = c := fun a c e => by
      have := PyData.int.inj e
      omega
    refine se_seq <| se_asg <| ev_ofF <| ef_op <| ev_ofF <| ef_lst <| ea_cons <| ev_int <| ea_nil ⟨[.int 0], rfl, by decide, ev_ofF <| ef_lcX <| ei_seq <| ev_callS hst <| ea_cons <| ev_var rfl <| ea_cons <| ev_ofF <| ef_rng <| ev_op <| ev_cb <| ea_cons <| ev_var rfl <| ea_nil <| cb_len (ds := vs.map valD') rfl <| ev_int <| op_i0 ⟨n, by rw [el], by omega, ea_nil ⟨_, rfl, colds rfl, rngD n, rfl, by simp [rngD]; omega, fun ds' hperm => ⟨ds', .inl rfl, ?_⟩⟩⟩⟩
    obtain ⟨ls, rfl, hls⟩ := perm_back (f := fun a : Nat => PyData.int (a : Int)) ni (l := List.range n) hperm
    have lsl : ls.length = n := by rw [hls.length_eq, List.length_range]
    refine ⟨fun i acc => acc = (ls.take i).map fun a => PyData.int (((1 + a : Nat)) : Int), rfl, by simp; omega, fun i d acc hd ha => ?_, fun acc ha => ?_⟩
    · obtain ⟨a, hA, rfl⟩ := at_map hd
      refine ⟨_, _, tg_name, by simp, et_yes ⟨fun _ => ev_op <| ev_int <| ev_var rfl <| op_i0 ⟨_, rfl, ?_⟩, nofun⟩⟩
      dsimp only at ha ⊢
      rw [ha, take_snoc hA, List.map_append]
      simp
    · subst ha
      rw [List.take_of_length_le (by simp)]
      obtain ⟨ord, hord⟩ : ∃ ord : List Nat, ord = 0 :: ls.map (1 + ·) := ⟨_, rfl⟩
      have ordl : ord.length = n + 1 := by rw [hord]; simp [lsl]
      have ordD : [PyData.int 0] ++ ls.map (fun a => PyData.int (((1 + a : Nat)) : Int)) = ord.map fun a : Nat => PyData.int (a : Int) := by
        rw [hord]
        simp
      have mem_ord : ∀ a, a < n + 1 → a ∈ ord := fun a ha => by
        rw [hord]
        rcases Nat.eq_zero_or_pos a with z | z
        · simp [z]
        · refine List.mem_cons_of_mem _ (List.mem_map.mpr ⟨a - 1, hls.mem_iff.mpr (List.mem_range.mpr (by omega)), by omega⟩)
      have ord_lt : ∀ a ∈ ord, a < vs.length := fun a ha => by
        rw [hord] at ha
        rcases List.mem_cons.mp ha with rfl | ha
        · omega
        · obtain ⟨b, hb, rfl⟩ := List.mem_map.mp ha
          have := List.mem_range.mp (hls.mem_iff.mp hb)
          omega
      refine op_cat rfl rfl (by simp; omega) ⟨rfl, ?_⟩
      rw [ordD]
      have ixI : ∀ {k : Vl → Prop} {a : Nat}, a < n + 1 → k (.da (.int ((ord.idxOf a : Nat) : Int))) → Mt "list" K (rIndexD K) (.da (.list (ord.map fun a : Nat => PyData.int (a : Int)))) [.da (.int (a : Int))] k := fun {k a} ha q => by
        have hm := mem_ord a ha
        have hl : ord.idxOf a < ord.length := List.idxOf_lt_length_iff.mpr hm
        have hg : ord[ord.idxOf a]? = some a := by rw [List.getElem?_eq_getElem hl, List.getElem_idxOf]
        refine mt_ixD (ds := ord.map fun a : Nat => PyData.int (a : Int)) (j := ord.idxOf a) (z0 := .int (a : Int)) rfl (Ok.int (n := 0) |>.d (by decide)) ((Ok.lst (n := 0) fun d hd => ?_).d (by decide)) (map_get hg) ?_ (fun m z' hm hz => ?_) q
        · obtain ⟨x, hx, rfl⟩ := List.mem_map.mp hd
          exact Ok.int
        · exact (eqv_sharp _ _ rfl rfl).mpr rfl
        · obtain ⟨x, hx, rfl⟩ := at_map hz
          refine Bool.eq_false_iff.mpr fun z => ?_
          have e : x = a := ni x a ((eqv_sharp _ _ rfl rfl).mp z)
          obtain ⟨h5, h6⟩ := List.getElem?_eq_some_iff.mp hx
          have h7 := List.not_of_lt_findIdx (xs := ord) (p := fun x => x == a) (i := m) hm
          rw [h6, e] at h7
          simp at h7
      refine se_ret <| ev_tup <| ea_cons <| ev_ofF <| ef_lc (fun i acc => acc = ((ord.take i).map fun a => valD' (valAt vs a))) <| ei_seq <| ev_var rfl ⟨_, .inl rfl, rfl, by simp; omega, fun i d acc hd ha => ?_, fun acc ha => ?_⟩
      · obtain ⟨a, hA, rfl⟩ := at_map hd
        refine ⟨_, _, tg_name, by simp, et_yes ⟨fun _ => ev_op <| ev_var rfl <| ev_var rfl <| op_ixL rfl (atI_nat (val_get (ord_lt a (List.mem_of_getElem? hA)))) ⟨_, rfl, ?_⟩, nofun⟩⟩
        rw [ha, take_snoc hA, List.map_append]
        rfl
      · subst ha
        rw [List.take_of_length_le (by simp)]
        refine ea_cons <| ev_ofF <| ef_lc (fun i acc => acc = ((es.take i).map fun e => ((ord.idxOf e.1, ord.idxOf e.2) : Edg)).map edgD) <| ei_seq <| ev_var rfl ⟨_, .inl rfl, rfl, by simp; omega, fun i d acc hd ha => ?_, fun acc ha => ?_⟩
        · obtain ⟨e, hA, rfl⟩ := at_map hd
          have hm := h2.2 e (List.mem_of_getElem? hA)
          rw [hn] at hm
          refine ⟨_, _, tg_name, by simp, et_yes ⟨fun _ => ev_tup <| ea_cons <| ev_bm <| ev_var rfl ⟨rfl, ea_cons <| ev_op <| ev_var rfl <| ev_int <| op_ixT (atI_nat (j := 0) rfl) <| ea_nil <| ixI hm.1 <| ea_cons <| ev_bm <| ev_var rfl ⟨rfl, ea_cons <| ev_op <| ev_var rfl <| ev_int <| op_ixT (atI_nat (j := 1) rfl) <| ea_nil <| ixI hm.2 <| ea_nil ⟨[.int ((ord.idxOf e.1 : Nat) : Int), .int ((ord.idxOf e.2 : Nat) : Int)], rfl, by simp, _, rfl, ?_⟩⟩⟩, nofun⟩⟩
          rw [ha, take_snoc hA, List.map_append, List.map_append]
          rfl
        · subst ha
          rw [List.take_of_length_le (by simp)]
          have vl : (ord.map (valAt vs)).length = n + 1 := by rw [List.length_map, ordl]
          refine ea_nil ⟨[valsL (ord.map (valAt vs)), edgL (es.map fun e => (ord.idxOf e.1, ord.idxOf e.2))], ?_, by simp, rfl, hk _ _ ⟨by omega, by omega, ?_, fun v hv => ?_⟩ ⟨by simpa using hlen, fun e he => ?_⟩⟩
          · simp [valsL, edgL]
          · rw [hord, List.map_cons]
            show some (valAt vs 0) = _
            have := h1.2.2.1
            unfold valAt
            rw [List.getD_eq_getElem?_getD, this]
            rfl
          · obtain ⟨a, ha, rfl⟩ := List.mem_map.mp hv
            exact h1.2.2.2 _ (val_mem (ord_lt a ha))
          · obtain ⟨x, hx, rfl⟩ := List.mem_map.mp he
            have hm := h2.2 x hx
            rw [hn] at hm
            rw [vl, ← ordl]
            exact ⟨List.idxOf_lt_length_iff.mpr (mem_ord _ hm.1), List.idxOf_lt_length_iff.mpr (mem_ord _ hm.2)⟩
abbrev s_l_varied : Stmt := topS 50
theorem sc_l_varied : FnScope ["_law_state", "_law_inputs", "_law_outputs", "_law_vals", "_law_edges", "_law_kind", "_law_place", "_law_at"] ["_law_state", "_law_inputs", "_law_outputs", "_law_vals", "_law_edges"] (defScope s_l_varied) := ⟨rfl, rfl, rfl, by decide +kernel, rfl, by decide +kernel, by decide +kernel⟩
-- slots: 0 _law_state, 1 _law_inputs, 2 _law_outputs, 3 _law_vals, 4 _law_edges, 5 _law_kind, 6 _law_place, 7 _law_at; calls: _law_draw, _law_bits, _law_doubled, _law_renumbered, _law_shuffled, _law_rebuilt; constants: 
theorem ok_l_varied {f : Addr} {fd : FuncData} {q : Str} (F : Fun K "_law_varied" q s_l_varied f fd) (B : Bt mg) (C_l_draw : Cal P w K mg base 1 "_law_draw" ["_law_state", "_law_many"] (spS preDraw)) (C_l_bits : Cal P w K mg base 2 "_law_bits" ["_law_state", "_law_many"] (spS preBits)) (C_l_doubled : Cal P w K mg base 2 "_law_doubled" ["_law_state", "_law_vals", "_law_edges", "_law_place"] (spS preDoubled)) (C_l_renumbered : Cal P w K mg base 3 "_law_renumbered" ["_law_state", "_law_vals", "_law_edges"] (spS preRenum)) (C_l_shuffled : Cal P w K mg base 2 "_law_shuffled" ["_law_state", "_law_things"] (spS preShuf)) (C_l_rebuilt : Cal P w K mg base 3 "_law_rebuilt" ["_law_inputs", "_law_vals", "_law_edges"] (spD preRebuilt)) : FnOk P w K mg base CX0 4 f fd ["_law_state", "_law_inputs", "_law_outputs", "_law_vals", "_law_edges"] (spS preVaried) := by
  obtain ⟨f__law_draw, fd__law_draw, G__law_draw, m__law_draw, k__law_draw, b__law_draw⟩ := C_l_draw.ex
  obtain ⟨f__law_bits, fd__law_bits, G__law_bits, m__law_bits, k__law_bits, b__law_bits⟩ := C_l_bits.ex
  obtain ⟨f__law_doubled, fd__law_doubled, G__law_doubled, m__law_doubled, k__law_doubled, b__law_doubled⟩ := C_l_doubled.ex
  obtain ⟨f__law_renumbered, fd__law_renumbered, G__law_renumbered, m__law_renumbered, k__law_renumbered, b__law_renumbered⟩ := C_l_renumbered.ex
  obtain ⟨f__law_shuffled, fd__law_shuffled, G__law_shuffled, m__law_shuffled, k__law_shuffled, b__law_shuffled⟩ := C_l_shuffled.ex
  obtain ⟨f__law_rebuilt, fd__law_rebuilt, G__law_rebuilt, m__law_rebuilt, k__law_rebuilt, b__law_rebuilt⟩ := C_l_rebuilt.ex
  refine F.ok sc_l_varied (fun vs H Q E h => ?_) (fun cdv A outer s H vs Q E hr h => ?_)
  · obtain ⟨T, s0, c0, h⟩ := h
    exact spT_len (fun as k kf hp => by obtain ⟨_, rfl, hp⟩ := hp; obtain ⟨_, _, _, _, rfl, _⟩ := hp; rfl) h
  · obtain ⟨T, s0, c0, h⟩ := h
    have hu := hu_of hr
    have r__law_draw := hr.mono (show 1 ≤ 3 by decide)
    have r__law_bits := hr.mono (show 2 ≤ 3 by decide)
    have r__law_doubled := hr.mono (show 2 ≤ 3 by decide)
    have r__law_renumbered := hr.mono (show 3 ≤ 3 by decide)
    have r__law_shuffled := hr.mono (show 2 ≤ 3 by decide)
    have r__law_rebuilt := hr.mono (show 3 ≤ 3 by decide)
    refine ⟨_, (pss_cons (ps_set (i := 5) sc_l_varied.nd rfl (.inl rfl) (pe_call G__law_draw r__law_draw (by rfl) m__law_draw k__law_draw b__law_draw .nil pass0 (pa_cons (pv 0) (pa_cons pe_int pa_nil))))
      (pss_cons (ps_set (i := 6) sc_l_varied.nd rfl (.inl rfl) (pe_call G__law_draw r__law_draw (by rfl) m__law_draw k__law_draw b__law_draw .nil pass0 (pa_cons (pv 0) (pa_cons (pe_callB (k_len K rfl) (by rfl) B.len_ PySem.boot_len (pa_cons (pv 3) pa_nil)) pa_nil))))
      (pss_cons (ps_if (pw_and (pt_cmpR (k_eqD K rfl (hu64 hr)) (pv 5) pe_int (nomark _)) (pw_and1 (pt_cmpR (k_neD K rfl (hu64 hr)) (pv 4) (pe_lst pa_nil) (nomark _)))).pt (pss_cons (ps_set (i := 7) sc_l_varied.nd rfl (.inl rfl) (pe_call G__law_draw r__law_draw (by rfl) m__law_draw k__law_draw b__law_draw .nil pass0 (pa_cons (pv 0) (pa_cons (pe_callB (k_len K rfl) (by rfl) B.len_ PySem.boot_len (pa_cons (pv 4) pa_nil)) pa_nil))))
      (pss_one (ps_set (i := 4) sc_l_varied.nd rfl (.inl rfl) (pe_op op_cat (pe_slice (k_slL K rfl) (pv 4) po_none (po_some (pv 7))) (pe_slice (k_slL K rfl) (pv 4) (po_some (pe_op op_add (pv 7) pe_int)) po_none))))) pss_nil)
      (pss_cons (ps_if (pt_cmpR (k_eqD K rfl (hu64 hr)) (pv 5) pe_int (nomark _)) (pss_one (ps_set (i := 4) sc_l_varied.nd rfl (.inl rfl) (pe_op op_cat (pv 4) (pe_lst (pa_cons (pe_tup (pa_cons (pv 6) (pa_cons (pe_call G__law_draw r__law_draw (by rfl) m__law_draw k__law_draw b__law_draw .nil pass0 (pa_cons (pv 0) (pa_cons (pe_callB (k_len K rfl) (by rfl) B.len_ PySem.boot_len (pa_cons (pv 3) pa_nil)) pa_nil))) pa_nil))) (pa_cons (pe_tup (pa_cons (pe_call G__law_draw r__law_draw (by rfl) m__law_draw k__law_draw b__law_draw .nil pass0 (pa_cons (pv 0) (pa_cons (pe_callB (k_len K rfl) (by rfl) B.len_ PySem.boot_len (pa_cons (pv 3) pa_nil)) pa_nil))) (pa_cons (pv 6) pa_nil))) pa_nil)))))) pss_nil)
      (pss_cons (ps_if (pw_and (pt_cmpR (k_eqD K rfl (hu64 hr)) (pv 5) pe_int (nomark _)) (pw_and1 (pt_cmpR op_gt (pv 6) pe_int (nomark _)))).pt (pss_one (ps_set (i := 3) sc_l_varied.nd rfl (.inl rfl) (pe_op op_cat (pe_op op_cat (pe_slice (k_slL K rfl) (pv 3) po_none (po_some (pv 6))) (pe_lst (pa_cons (pe_tup (pa_cons (pe_ix (k_ixT K rfl) (pe_ix (k_ixL K rfl) (pv 3) (pv 6) (fun _ _ => rfl)) pe_int (fun _ _ => rfl)) (pa_cons (pe_call G__law_bits r__law_bits (by rfl) m__law_bits k__law_bits b__law_bits .nil pass0 (pa_cons (pv 0) (pa_cons (pe_callB (k_len K rfl) (by rfl) B.len_ PySem.boot_len (pa_cons (pv 2) pa_nil)) pa_nil))) pa_nil))) pa_nil))) (pe_slice (k_slL K rfl) (pv 3) (po_some (pe_op op_add (pv 6) pe_int)) po_none)))) pss_nil)
      (pss_cons (ps_if (pw_and (pt_cmpR (k_eqD K rfl (hu64 hr)) (pv 5) pe_int (nomark _)) (pw_and1 (pt_cmpR op_gt (pv 6) pe_int (nomark _)))).pt (pss_one (ps_set (i := 3) sc_l_varied.nd rfl (.inl rfl) (pe_op op_cat (pe_op op_cat (pe_slice (k_slL K rfl) (pv 3) po_none (po_some (pv 6))) (pe_lst (pa_cons (pe_tup (pa_cons (pe_call G__law_bits r__law_bits (by rfl) m__law_bits k__law_bits b__law_bits .nil pass0 (pa_cons (pv 0) (pa_cons (pe_callB (k_len K rfl) (by rfl) B.len_ PySem.boot_len (pa_cons (pv 1) pa_nil)) pa_nil))) (pa_cons (pe_ix (k_ixT K rfl) (pe_ix (k_ixL K rfl) (pv 3) (pv 6) (fun _ _ => rfl)) pe_int (fun _ _ => rfl)) pa_nil))) pa_nil))) (pe_slice (k_slL K rfl) (pv 3) (po_some (pe_op op_add (pv 6) pe_int)) po_none)))) pss_nil)
      (pss_cons (ps_if (pt_cmpR op_gt (pv 5) pe_int (nomark _)) (pss_one (ps_asg (pe_call G__law_doubled r__law_doubled (by rfl) m__law_doubled k__law_doubled b__law_doubled .nil pass0 (pa_cons (pv 0) (pa_cons (pv 3) (pa_cons (pv 4) (pa_cons (pv 6) pa_nil))))) (k_pgTup K rfl (n := 2) rfl (pgs_cons (pg_name (i := 3) sc_l_varied.nd rfl (.inl rfl)) (pgs_cons (pg_name (i := 4) sc_l_varied.nd rfl (.inl rfl)) pgs_nil))))) pss_nil)
      (pss_cons (ps_if (pt_cmpR (k_eqD K rfl (hu64 hr)) (pe_call G__law_draw r__law_draw (by rfl) m__law_draw k__law_draw b__law_draw .nil pass0 (pa_cons (pv 0) (pa_cons pe_int pa_nil))) pe_int (nomark _)) (pss_one (ps_asg (pe_call G__law_renumbered r__law_renumbered (by rfl) m__law_renumbered k__law_renumbered b__law_renumbered .nil pass0 (pa_cons (pv 0) (pa_cons (pv 3) (pa_cons (pv 4) pa_nil)))) (k_pgTup K rfl (n := 2) rfl (pgs_cons (pg_name (i := 3) sc_l_varied.nd rfl (.inl rfl)) (pgs_cons (pg_name (i := 4) sc_l_varied.nd rfl (.inl rfl)) pgs_nil))))) pss_nil)
      (pss_cons (ps_if (pt_cmpR (k_eqD K rfl (hu64 hr)) (pe_call G__law_draw r__law_draw (by rfl) m__law_draw k__law_draw b__law_draw .nil pass0 (pa_cons (pv 0) (pa_cons pe_int pa_nil))) pe_int (nomark _)) (pss_one (ps_set (i := 4) sc_l_varied.nd rfl (.inl rfl) (pe_call G__law_shuffled r__law_shuffled (by rfl) m__law_shuffled k__law_shuffled b__law_shuffled .nil pass0 (pa_cons (pv 0) (pa_cons (pv 4) pa_nil))))) pss_nil)
      (pss_one (ps_ret (pe_tup (pa_cons (pv 3) (pa_cons (pe_call G__law_rebuilt r__law_rebuilt (by rfl) m__law_rebuilt k__law_rebuilt b__law_rebuilt .nil pass0 (pa_cons (pv 1) (pa_cons (pv 3) (pa_cons (pv 4) pa_nil)))) pa_nil)))))))))))))), body h fun g as k kf hT hst hp => ?_⟩
    obtain ⟨_, rfl, hp⟩ := hp
    obtain ⟨ins, outs, vs0, es0, rfl, h1, h2, h3, h4, h5, hk⟩ := hp
    have h1l := h1.1
    have el : ∀ ns : List Str, (((ns.map PyData.str).length : Nat) : Int) = ((ns.length : Nat) : Int) := fun ns => by rw [List.length_map]
    have vl : ∀ vs : List Val, (((vs.map valD').length : Nat) : Int) = ((vs.length : Nat) : Int) := fun vs => by rw [List.length_map]
    have egl : ∀ es : List Edg, (((es.map edgD).length : Nat) : Int) = ((es.length : Nat) : Int) := fun es => by rw [List.length_map]
    have okE : ∀ es : List Edg, okD (.list (es.map edgD)) = true := fun es => (Ok.lst (n := 1) fun d hd => by
      obtain ⟨x, _, rfl⟩ := List.mem_map.mp hd
      exact ok_edgD x).d (by decide)
    refine se_seq <| se_asg <| ev_callS hst <| ea_cons <| ev_var rfl <| ea_cons <| ev_int <| ea_nil ⟨_, rfl, colds rfl, 8, rfl, by decide, by decide, fun kd hkd => ⟨rfl, ?_⟩⟩
    refine se_seq <| se_asg <| ev_callS hst <| ea_cons <| ev_var rfl <| ea_cons <| ev_cb <| ea_cons <| ev_var rfl <| ea_nil <| cb_len (ds := vs0.map valD') rfl <| ea_nil ⟨_, rfl, colds rfl, vs0.length, by rw [vl], h3.1, by have := h3.2.1; omega, fun pl hpl => ⟨rfl, ?_⟩⟩
    -- what is known behind each of the tests
    obtain ⟨st7, hst7⟩ : ∃ st7 : List Val → List Edg → Option Vl → Bd.Ctx, st7 = fun vs es x7 => [some (.ex (.ref s0)), some (.da (nmL ins)), some (.da (nmL outs)), some (.da (valsL vs)), some (.da (edgL es)), some (.da (.int (kd : Int))), some (.da (.int (pl : Int))), x7] := ⟨_, rfl⟩
    obtain ⟨InvA, hInvA⟩ : ∃ Inv : Bd.Ctx → Prop, Inv = fun c' => ∃ (vs : List Val) (es : List Edg) (x7 : Option Vl), Vok ins outs vs ∧ Eok vs.length es ∧ pl < vs.length ∧ es.length ≤ 16 ∧ c' = st7 vs es x7 := ⟨_, rfl⟩
    obtain ⟨Inv, hInv⟩ : ∃ Inv : Bd.Ctx → Prop, Inv = fun c' => ∃ (vs : List Val) (es : List Edg) (x7 : Option Vl), Vok ins outs vs ∧ Eok vs.length es ∧ pl < vs.length ∧ (es.length ≤ 16 ∨ kd = 2) ∧ c' = st7 vs es x7 := ⟨_, rfl⟩
    obtain ⟨Inv2, hInv2⟩ : ∃ Inv2 : Bd.Ctx → Prop, Inv2 = fun c' => ∃ (vs : List Val) (es : List Edg) (x7 : Option Vl), Vok ins outs vs ∧ Eok vs.length es ∧ c' = st7 vs es x7 := ⟨_, rfl⟩
    have i0 : InvA (List.set (List.set (ctx0 8 [.ex (.ref s0), .da (nmL ins), .da (nmL outs), .da (valsL vs0), .da (edgL es0)]) 5 (some (.da (.int (kd : Int))))) 6 (some (.da (.int (pl : Int))))) := by
      rw [hInvA, hst7]
      exact ⟨vs0, es0, none, h3, h4, hpl, h5, by simp [ctx0, List.replicate]⟩
    -- kind 1
    refine se_cut InvA ?_ ?_
    · refine se_if <| et_and <| et_test <| ev_op <| ev_var rfl <| ev_int <| op_eqI ⟨_, rfl, fun hk1 => ?_, fun _ => ⟨nofun, fun _ => se_next i0⟩⟩
      refine et_test <| ev_op <| ev_var rfl <| ev_ofF <| ef_lst <| ea_nil ⟨[], rfl, by decide, op_neNil rfl (okE es0) ⟨_, rfl, fun h => ?_, fun _ => se_next i0⟩⟩
      have hne : 1 ≤ es0.length := by
        cases es0 with
        | nil => cases h
        | cons _ _ => simp
      refine se_seq <| se_asg <| ev_callS hst <| ea_cons <| ev_var rfl <| ea_cons <| ev_cb <| ea_cons <| ev_var rfl <| ea_nil <| cb_len (ds := es0.map edgD) rfl <| ea_nil ⟨_, rfl, colds rfl, es0.length, by rw [egl], hne, by omega, fun at_ hat => ⟨rfl, ?_⟩⟩
      refine se_asg <| ev_ofF <| ef_op <| ev_ofF <| ef_sl <| ev_var rfl ⟨es0.map edgD, rfl, eo_none <| eo_some <| ev_var rfl ⟨(at_ : Int), rfl, ev_ofF <| ef_sl <| ev_var rfl ⟨es0.map edgD, rfl, eo_some <| ev_op <| ev_var rfl <| ev_int <| op_i0 ⟨_, rfl, eo_none <| op_cat rfl rfl ?_ ⟨rfl, ?_⟩⟩⟩⟩⟩
      · unfold Bd.cutD
        simp
        omega
      · rw [cutD_take, show ((at_ : Int) + 1) = (((at_ + 1 : Nat)) : Int) by omega, cutD_drop, ← List.map_take, ← List.map_drop, ← List.map_append]
        rw [hInvA, hst7]
        refine ⟨vs0, es0.take at_ ++ es0.drop (at_ + 1), some (.da (.int (at_ : Int))), h3, ⟨by simp; omega, fun e he => ?_⟩, hpl, by simp; omega, by simp [ctx0, List.replicate, edgL]⟩
        rcases List.mem_append.mp he with he | he
        · exact h4.2 e (List.mem_of_mem_take he)
        · exact h4.2 e (List.mem_of_mem_drop he)
    rintro c' hc'
    rw [hInvA] at hc'
    obtain ⟨vs, es, x7, v1, e1, p1, l1, rfl⟩ := hc'
    have v8 := v1.2.1
    -- kind 2
    refine se_cut Inv ?_ ?_
    · have same : Inv (st7 vs es x7) := by
        rw [hInv]
        exact ⟨vs, es, x7, v1, e1, p1, .inl l1, rfl⟩
      rw [hst7] at same ⊢
      refine se_if <| et_test <| ev_op <| ev_var rfl <| ev_int <| op_eqI ⟨_, rfl, fun hk2 => ?_, fun _ => se_next same⟩
      have hk2 : kd = 2 := by
        have := of_decide_eq_true hk2
        omega
      refine se_asg <| ev_ofF <| ef_op <| ev_var rfl <| ev_ofF <| ef_lst <| ea_cons <| ev_tup <| ea_cons <| ev_var rfl <| ea_cons <| ev_callS hst <| ea_cons <| ev_var rfl <| ea_cons <| ev_cb <| ea_cons <| ev_var rfl <| ea_nil <| cb_len (ds := vs.map valD') rfl <| ea_nil ⟨_, rfl, colds rfl, vs.length, by rw [vl], v1.1, by omega, fun a ha => ea_nil ⟨[.int (pl : Int), .int (a : Int)], rfl, by simp, ea_cons <| ev_tup <| ea_cons <| ev_callS hst <| ea_cons <| ev_var rfl <| ea_cons <| ev_cb <| ea_cons <| ev_var rfl <| ea_nil <| cb_len (ds := vs.map valD') rfl <| ea_nil ⟨_, rfl, colds rfl, vs.length, by rw [vl], v1.1, by omega, fun b hb => ea_cons <| ev_var rfl <| ea_nil ⟨[.int (b : Int), .int (pl : Int)], rfl, by simp, ea_nil ⟨[edgD (pl, a), edgD (b, pl)], rfl, by simp, op_cat rfl rfl (by simp; omega) ⟨rfl, ?_⟩⟩⟩⟩⟩⟩
      rw [hInv, hst7]
      refine ⟨vs, es ++ [(pl, a), (b, pl)], x7, v1, ⟨by simp; omega, fun e he => ?_⟩, p1, .inr hk2, by simp [edgL]⟩
      rcases List.mem_append.mp he with he | he
      · exact e1.2 e he
      · simp at he
        rcases he with rfl | rfl
        · exact ⟨p1, ha⟩
        · exact ⟨hb, p1⟩
    clear v8 l1 p1 e1 v1
    rintro c' hc'
    rw [hInv] at hc'
    obtain ⟨vs, es, x7, v1, e1, p1, l1, rfl⟩ := hc'
    have v8 := v1.2.1
    -- a value of another state is put in: kinds 3, 4
    have put : ∀ (vs : List Val) (es : List Edg) (x7 : Option Vl) (v : Val), Vok ins outs vs → Eok vs.length es → pl < vs.length → (es.length ≤ 16 ∨ kd = 2) → 0 < pl → Bits ins.length v.1 ∧ Bits outs.length v.2 → Inv (st7 (vs.take pl ++ v :: vs.drop (pl + 1)) es x7) ∧ (vs.take pl ++ v :: vs.drop (pl + 1)).length = vs.length := fun vs es x7 v v1 e1 p1 l1 hp hv => by
      have hl : (vs.take pl ++ v :: vs.drop (pl + 1)).length = vs.length := by
        simp
        omega
      refine ⟨?_, hl⟩
      rw [hInv]
      refine ⟨_, es, x7, ⟨by rw [hl]; exact v1.1, by rw [hl]; exact v1.2.1, ?_, fun x hx => ?_⟩, by rw [hl]; exact e1, by rw [hl]; exact p1, l1, rfl⟩
      · rw [List.getElem?_append_left (by simp; omega), List.getElem?_take_of_lt hp]
        exact v1.2.2.1
      · rcases List.mem_append.mp hx with hx | hx
        · exact v1.2.2.2 x (List.mem_of_mem_take hx)
        · rcases List.mem_cons.mp hx with rfl | hx
          · exact hv
          · exact v1.2.2.2 x (List.mem_of_mem_drop hx)
    -- kind 3
    refine se_cut Inv ?_ ?_
    · have same : Inv (st7 vs es x7) := by
        rw [hInv]
        exact ⟨vs, es, x7, v1, e1, p1, l1, rfl⟩
      rw [hst7] at same ⊢
      refine se_if <| et_and <| et_test <| ev_op <| ev_var rfl <| ev_int <| op_eqI ⟨_, rfl, fun _ => ?_, fun _ => ⟨nofun, fun _ => se_next same⟩⟩
      refine et_test <| ev_op <| ev_var rfl <| ev_int <| op_b0 ⟨_, rfl, fun hp => ?_, fun _ => se_next same⟩
      have hp : 0 < pl := by
        have := of_decide_eq_true hp
        omega
      refine se_asg <| ev_ofF <| ef_op <| ev_ofF <| ef_op <| ev_ofF <| ef_sl <| ev_var rfl ⟨vs.map valD', rfl, eo_none <| eo_some <| ev_var rfl ⟨(pl : Int), rfl, ev_ofF <| ef_lst <| ea_cons <| ev_tup <| ea_cons <| ev_op <| ev_op <| ev_var rfl <| ev_var rfl <| op_ixL rfl (atI_nat (val_get p1)) <| ev_int <| op_ixT (atI_nat (j := 0) rfl) <| ea_cons <| ev_callS hst <| ea_cons <| ev_var rfl <| ea_cons <| ev_cb <| ea_cons <| ev_var rfl <| ea_nil <| cb_len (ds := outs.map .str) rfl <| ea_nil ⟨_, rfl, colds rfl, outs.length, by rw [el], h2, fun u hu => ea_nil ⟨[.str (valAt vs pl).1, .str u], rfl, by simp, ea_nil ⟨[valD' ((valAt vs pl).1, u)], rfl, by simp, op_cat rfl rfl ?_ <| ev_ofF <| ef_sl <| ev_var rfl ⟨vs.map valD', rfl, eo_some <| ev_op <| ev_var rfl <| ev_int <| op_i0 ⟨_, rfl, eo_none <| op_cat rfl rfl ?_ ⟨rfl, ?_⟩⟩⟩⟩⟩⟩⟩⟩
      · unfold Bd.cutD
        simp
        omega
      · unfold Bd.cutD
        simp
        omega
      · rw [cutD_take, show ((pl : Int) + 1) = (((pl + 1 : Nat)) : Int) by omega, cutD_drop]
        have := (put vs es x7 ((valAt vs pl).1, u) v1 e1 p1 l1 hp ⟨(v1.2.2.2 _ (val_mem p1)).1, hu⟩).1
        rw [hst7] at this
        simpa [valsL] using this
    clear v8 l1 p1 e1 v1
    rintro c' hc'
    rw [hInv] at hc'
    obtain ⟨vs, es, x7, v1, e1, p1, l1, rfl⟩ := hc'
    have v8 := v1.2.1
    -- kind 4
    refine se_cut Inv ?_ ?_
    · have same : Inv (st7 vs es x7) := by
        rw [hInv]
        exact ⟨vs, es, x7, v1, e1, p1, l1, rfl⟩
      rw [hst7] at same ⊢
      refine se_if <| et_and <| et_test <| ev_op <| ev_var rfl <| ev_int <| op_eqI ⟨_, rfl, fun _ => ?_, fun _ => ⟨nofun, fun _ => se_next same⟩⟩
      refine et_test <| ev_op <| ev_var rfl <| ev_int <| op_b0 ⟨_, rfl, fun hp => ?_, fun _ => se_next same⟩
      have hp : 0 < pl := by
        have := of_decide_eq_true hp
        omega
      refine se_asg <| ev_ofF <| ef_op <| ev_ofF <| ef_op <| ev_ofF <| ef_sl <| ev_var rfl ⟨vs.map valD', rfl, eo_none <| eo_some <| ev_var rfl ⟨(pl : Int), rfl, ev_ofF <| ef_lst <| ea_cons <| ev_tup <| ea_cons <| ev_callS hst <| ea_cons <| ev_var rfl <| ea_cons <| ev_cb <| ea_cons <| ev_var rfl <| ea_nil <| cb_len (ds := ins.map .str) rfl <| ea_nil ⟨_, rfl, colds rfl, ins.length, by rw [el], h1l, fun u hu => ea_cons <| ev_op <| ev_op <| ev_var rfl <| ev_var rfl <| op_ixL rfl (atI_nat (val_get p1)) <| ev_int <| op_ixT (atI_nat (j := 1) rfl) <| ea_nil ⟨[.str u, .str (valAt vs pl).2], rfl, by simp, ea_nil ⟨[valD' (u, (valAt vs pl).2)], rfl, by simp, op_cat rfl rfl ?_ <| ev_ofF <| ef_sl <| ev_var rfl ⟨vs.map valD', rfl, eo_some <| ev_op <| ev_var rfl <| ev_int <| op_i0 ⟨_, rfl, eo_none <| op_cat rfl rfl ?_ ⟨rfl, ?_⟩⟩⟩⟩⟩⟩⟩⟩
      · unfold Bd.cutD
        simp
        omega
      · unfold Bd.cutD
        simp
        omega
      · rw [cutD_take, show ((pl : Int) + 1) = (((pl + 1 : Nat)) : Int) by omega, cutD_drop]
        have := (put vs es x7 (u, (valAt vs pl).2) v1 e1 p1 l1 hp ⟨hu, (v1.2.2.2 _ (val_mem p1)).2⟩).1
        rw [hst7] at this
        simpa [valsL] using this
    clear v8 l1 p1 e1 v1
    rintro c' hc'
    rw [hInv] at hc'
    obtain ⟨vs, es, x7, v1, e1, p1, l1, rfl⟩ := hc'
    -- kind > 4
    refine se_cut Inv2 ?_ ?_
    · rw [hst7]
      refine se_if <| et_test <| ev_op <| ev_var rfl <| ev_int <| op_b0 ⟨_, rfl, fun hk4 => ?_, fun _ => se_next (by rw [hInv2, hst7]; exact ⟨vs, es, x7, v1, e1, rfl⟩)⟩
      have hk4 : 4 < kd := by
        have := of_decide_eq_true hk4
        omega
      refine se_asgT <| ev_callS hst <| ea_cons <| ev_var rfl <| ea_cons <| ev_var rfl <| ea_cons <| ev_var rfl <| ea_cons <| ev_var rfl <| ea_nil ⟨_, rfl, colds rfl, ins, outs, vs, es, pl, rfl, v1, e1, l1.resolve_right (by omega), p1, fun vs' es' v2 e2 => ⟨_, _, _, rfl, tg_tup rfl (tgs_cons tg_name (tgs_cons tg_name tgs_nil)), ?_⟩⟩
      rw [hInv2, hst7]
      exact ⟨vs', es', x7, v2, e2, rfl⟩
    clear l1 p1 e1 v1
    rintro c' hc'
    rw [hInv2] at hc'
    obtain ⟨vs, es, x7, v1, e1, rfl⟩ := hc'
    -- renumbered
    refine se_cut Inv2 ?_ ?_
    · rw [hst7]
      refine se_if <| et_test <| ev_op <| ev_callS hst <| ea_cons <| ev_var rfl <| ea_cons <| ev_int <| ea_nil ⟨_, rfl, colds rfl, 2, rfl, by decide, by decide, fun r hr => ev_int <| op_eqI ⟨_, rfl, fun _ => ?_, fun _ => se_next (by rw [hInv2, hst7]; exact ⟨vs, es, x7, v1, e1, rfl⟩)⟩⟩
      refine se_asgT <| ev_callS hst <| ea_cons <| ev_var rfl <| ea_cons <| ev_var rfl <| ea_cons <| ev_var rfl <| ea_nil ⟨_, rfl, colds rfl, ins, outs, vs, es, rfl, v1, e1, fun vs' es' v2 e2 => ⟨_, _, _, rfl, tg_tup rfl (tgs_cons tg_name (tgs_cons tg_name tgs_nil)), ?_⟩⟩
      rw [hInv2, hst7]
      exact ⟨vs', es', x7, v2, e2, rfl⟩
    clear e1 v1
    rintro c' hc'
    rw [hInv2] at hc'
    obtain ⟨vs, es, x7, v1, e1, rfl⟩ := hc'
    -- shuffled
    refine se_cut Inv2 ?_ ?_
    · rw [hst7]
      refine se_if <| et_test <| ev_op <| ev_callS hst <| ea_cons <| ev_var rfl <| ea_cons <| ev_int <| ea_nil ⟨_, rfl, colds rfl, 2, rfl, by decide, by decide, fun r hr => ev_int <| op_eqI ⟨_, rfl, fun _ => ?_, fun _ => se_next (by rw [hInv2, hst7]; exact ⟨vs, es, x7, v1, e1, rfl⟩)⟩⟩
      have el100 := e1.1
      refine se_asg <| ev_callS hst <| ea_cons <| ev_var rfl <| ea_cons <| ev_var rfl <| ea_nil ⟨_, rfl, colds rfl, es.map edgD, rfl, by simp; omega, fun ds' hp => ⟨rfl, ?_⟩⟩
      obtain ⟨es', rfl, hes⟩ := perm_back (f := edgD) (fun a c e => edgD_inj e) hp
      rw [hInv2, hst7]
      exact ⟨vs, es', x7, v1, ⟨by rw [hes.length_eq]; exact el100, fun e he => e1.2 e (hes.mem_iff.mp he)⟩, rfl⟩
    clear e1 v1
    rintro c' hc'
    rw [hInv2] at hc'
    obtain ⟨vs, es, x7, v1, e1, rfl⟩ := hc'
    rw [hst7]
    exact se_ret <| ev_tup <| ea_cons <| ev_var rfl <| ea_cons <| ev_callP <| ea_cons <| ev_var rfl <| ea_cons <| ev_var rfl <| ea_cons <| ev_var rfl <| ea_nil ⟨colds rfl, ins, outs, vs, es, rfl, h1, v1, e1, ea_nil ⟨[valsL vs, edgL (rebuilt ins vs es)], rfl, by simp, rfl, hk vs _ ⟨v1, es, e1, rfl⟩⟩⟩
end
end Bw

namespace Bw
open PySem PySem.Spec PyProof.Rows L2 Bd
section
variable {P : Program} {w : World} {K : PySem.W.Frag} {mg : Str → Option Value} {base : Heap} {C : Addr}

theorem Sm.ok : ∀ {n : Nat} {d : PyData}, Sm n d → Ok n d ∧ sharp d = true
  | 0, .none, _ => ⟨Ok.none, rfl⟩
  | 0, .int _, _ => ⟨Ok.int, rfl⟩
  | 0, .str s, h => ⟨Ok.str (by simpa [Sm] using h), rfl⟩
  | n + 1, .none, _ => ⟨Ok.none, rfl⟩
  | n + 1, .int _, _ => ⟨Ok.int, rfl⟩
  | n + 1, .str s, h => ⟨Ok.str (by simpa [Sm] using h), rfl⟩
  | n + 1, .list ds, h => ⟨Ok.lst fun d hd => (Sm.ok (h.2 d hd)).1, sharp_lst fun d hd => (Sm.ok (h.2 d hd)).2⟩
  | n + 1, .tuple ds, h => ⟨Ok.tup fun d hd => (Sm.ok (h.2 d hd)).1, sharp_tup fun d hd => (Sm.ok (h.2 d hd)).2⟩
  | 0, .bool _, h => by simp [Sm] at h
  | 0, .list _, h => by simp [Sm] at h
  | 0, .tuple _, h => by simp [Sm] at h
  | 0, .dict _, h => by simp [Sm] at h
  | n + 1, .bool _, h => by simp [Sm] at h
  | n + 1, .dict _, h => by simp [Sm] at h
/-- what is not known yet of itself promises nothing -/
abbrev s_l_same : Stmt := topS 52
theorem sc_l_same : FnScope ["_law_actual", "_law_due", "_law_is_list", "_law_at"] ["_law_actual", "_law_due"] (defScope s_l_same) := ⟨rfl, rfl, rfl, by decide +kernel, rfl, by decide +kernel, by decide +kernel⟩
-- slots: 0 _law_actual, 1 _law_due, 2 _law_is_list, 3 _law_at; calls: _law_same; constants: 
theorem ok_l_same (n kk : Nat) (hn : n ≤ 60) {f : Addr} {fd : FuncData} {q : Str} (F : Fun K "_law_same" q s_l_same f fd) (B : Bt mg) (C_l_same : Cal P w K mg base kk "_law_same" ["_law_actual", "_law_due"] (spD (preSame' n))) : FnOk P w K mg base CX0 (kk + 1) f fd ["_law_actual", "_law_due"] (spD (preSame n)) := by
  obtain ⟨f__law_same, fd__law_same, G__law_same, m__law_same, k__law_same, b__law_same⟩ := C_l_same.ex
  refine F.ok sc_l_same (fun vs H Q E h => ?_) (fun cdv A outer s H vs Q E hr h => ?_)
  · obtain ⟨T, h⟩ := h
    exact spT_len (fun as k kf hp => by obtain ⟨_, rfl, _⟩ := hp; rfl) h
  · obtain ⟨T, h⟩ := h
    have hu := hu_of hr
    have r__law_same := hr
    refine ⟨_, (pss_cons (ps_if (pw_or (pt_cmpR op_isN (pv 1) pe_non (nomark _)) (pw_or1 (pt_cmpR op_isN (pv 0) pe_non (nomark _)))).pt (pss_one (ps_ret (pe_and (pe_cmpR op_isN (pv 1) pe_non (nomark _)) (pe_one (pe_cmpR op_isN (pv 0) pe_non (nomark _)))))) pss_nil)
      (pss_cons (ps_if (pw_or (pt_val (pe_callB (k_isi K rfl) (by rfl) B.isinstance_ boot_isinstance (pa_cons (pv 1) (pa_cons (pe_bltn (v := .ty "bool") (by rfl) B.bool_ boot_bool rfl) pa_nil)))) (pw_or1 (pt_val (pe_callB (k_isi K rfl) (by rfl) B.isinstance_ boot_isinstance (pa_cons (pv 0) (pa_cons (pe_bltn (v := .ty "bool") (by rfl) B.bool_ boot_bool rfl) pa_nil)))))).pt (pss_one (ps_ret (pe_and (pe_callB (k_isi K rfl) (by rfl) B.isinstance_ boot_isinstance (pa_cons (pv 1) (pa_cons (pe_bltn (v := .ty "bool") (by rfl) B.bool_ boot_bool rfl) pa_nil))) (pe_and (pe_callB (k_isi K rfl) (by rfl) B.isinstance_ boot_isinstance (pa_cons (pv 0) (pa_cons (pe_bltn (v := .ty "bool") (by rfl) B.bool_ boot_bool rfl) pa_nil))) (pe_one (pe_cmpR (k_eqD K rfl (hu64 hr)) (pv 0) (pv 1) (nomark _))))))) pss_nil)
      (pss_cons (ps_if (pw_or (pw_and (pt_val (pe_callB (k_isi K rfl) (by rfl) B.isinstance_ boot_isinstance (pa_cons (pv 1) (pa_cons (pe_bltn (v := .ty "int") (by rfl) B.int_ boot_int rfl) pa_nil)))) (pw_and1 (pt_val (pe_callB (k_isi K rfl) (by rfl) B.isinstance_ boot_isinstance (pa_cons (pv 0) (pa_cons (pe_bltn (v := .ty "int") (by rfl) B.int_ boot_int rfl) pa_nil)))))).pt (pw_or1 (pw_and (pt_val (pe_callB (k_isi K rfl) (by rfl) B.isinstance_ boot_isinstance (pa_cons (pv 1) (pa_cons (pe_bltn (v := .ty "str") (by rfl) B.str_ boot_str rfl) pa_nil)))) (pw_and1 (pt_val (pe_callB (k_isi K rfl) (by rfl) B.isinstance_ boot_isinstance (pa_cons (pv 0) (pa_cons (pe_bltn (v := .ty "str") (by rfl) B.str_ boot_str rfl) pa_nil)))))).pt)).pt (pss_one (ps_ret (pe_cmpR (k_eqD K rfl (hu64 hr)) (pv 0) (pv 1) (nomark _)))) pss_nil)
      (pss_cons (ps_set (i := 2) sc_l_same.nd rfl (.inl rfl) (pe_and (pe_callB (k_isi K rfl) (by rfl) B.isinstance_ boot_isinstance (pa_cons (pv 1) (pa_cons (pe_bltn (v := .ty "list") (by rfl) B.list_ boot_list rfl) pa_nil))) (pe_one (pe_callB (k_isi K rfl) (by rfl) B.isinstance_ boot_isinstance (pa_cons (pv 0) (pa_cons (pe_bltn (v := .ty "list") (by rfl) B.list_ boot_list rfl) pa_nil))))))
      (pss_cons (ps_if (pw_and (pt_not (pt_val (pv 2))) (pw_and1 (pt_not (pw_and (pt_val (pe_callB (k_isi K rfl) (by rfl) B.isinstance_ boot_isinstance (pa_cons (pv 1) (pa_cons (pe_bltn (v := .ty "tuple") (by rfl) B.tuple_ boot_tuple rfl) pa_nil)))) (pw_and1 (pt_val (pe_callB (k_isi K rfl) (by rfl) B.isinstance_ boot_isinstance (pa_cons (pv 0) (pa_cons (pe_bltn (v := .ty "tuple") (by rfl) B.tuple_ boot_tuple rfl) pa_nil)))))).pt))).pt (pss_one (ps_ret pe_bl)) pss_nil)
      (pss_cons (ps_if (pt_cmpR (k_neD K rfl (hu64 hr)) (pe_callB (k_len K rfl) (by rfl) B.len_ PySem.boot_len (pa_cons (pv 0) pa_nil)) (pe_callB (k_len K rfl) (by rfl) B.len_ PySem.boot_len (pa_cons (pv 1) pa_nil)) (nomark _)) (pss_one (ps_ret pe_bl)) pss_nil)
      (pss_one (ps_ret (pe_callB (k_all K rfl rfl) (by rfl) B.all_ boot_all (pa_cons (pe_lc (own := [("_law_at", 3)]) rfl sc_l_same.nd (pi_range1 rfl B.range_ (pa_cons (pe_callB (k_len K rfl) (by rfl) B.len_ PySem.boot_len (pa_cons (pv 1) pa_nil)) pa_nil)) (blkOk_by (N := ["_law_actual", "_law_due", "_law_is_list", "_law_at"]) (sc := defScope s_l_same) (by decide +kernel)) (fun _ _ _ _ _ => (pg_name (i := 3) sc_l_same.nd rfl (.inl rfl))) (fun _ _ _ _ _ => pts_nil) (fun _ _ _ _ _ => (pe_call G__law_same r__law_same (by rfl) m__law_same k__law_same b__law_same .nil pass0 (pa_cons (pe_ix (k_ix K rfl) (pv 0) (pv 3) (fun _ _ => rfl)) (pa_cons (pe_ix (k_ix K rfl) (pv 1) (pv 3) (fun _ _ => rfl)) pa_nil))))) pa_nil)))))))))), body h fun g as k kf hT hst hp => ?_⟩
    obtain ⟨d, rfl, hd, hk⟩ := hp
    have hok := (Sm.ok hd).1
    have hsh := (Sm.ok hd).2
    have hcl : clean d = true := hok.1
    have eq1 : PyData.eqv d d = true := (eqv_sharp d d hsh hsh).mpr rfl
    have no : ∀ {k : Bool → Prop} {t u : TT} {c : Bd.Ctx}, EvT g t c (fun b => b = false) → EvT g u c (fun b => b = false) → k false → EvT g (tOr t u) c k := fun h1 h2 q => et_or <| h1.imp fun b e => ⟨(fun z => by rw [e] at z; cases z), fun _ => h2.imp fun b e => by rw [e]; exact q⟩
    have isN : ∀ {i : Nat} {k : Bool → Prop} {c : Bd.Ctx}, c[i]? = some (some (.da d)) → k (noneD d) → EvT g (tTest (tOp (fun x y H Q => y = .non ∧ Q (.bl (decide (x = .non))) H) (tVar i) (tC .non))) c k := fun e q => et_test <| ev_op <| ev_var e <| ev_non <| op_isN hcl ⟨_, rfl, q⟩
    have isI : ∀ {i : Nat} {nm : String} {b : Bool} {k : Vl → Prop} {c : Bd.Ctx}, c[i]? = some (some (.da d)) → kitB (tyN d) nm = some b → k (.da (.bool b)) → Ev g (tCB (rIsi K) (tCons (tVar i) (tCons (tC (.ty nm)) tNil))) c k := fun e hb q => ev_cb <| ea_cons <| ev_var e <| ea_cons <| ev_ty <| ea_nil <| cb_isi hcl hb q
    have kids : ∀ (ds : List PyData) (m : Nat), n = m + 1 → ds.length ≤ 10000 → (∀ x ∈ ds, Sm m x) → seqOf (.da d) = some ds → (∀ {i : Int} {x : PyData} {k : Vl → Prop}, atI ds i = some x → k (.da x) → Op (rIx K) (.da d) (.da (.int i)) k) → ∀ (x2 : Option Vl), Se g (tSeq (tIfS (tTest (tOp (rNeD K) (tCB (fun xs H Q => ∃ p ys, xs = [.ref p] ∧ (SqL K H p ys ∨ SqT K H p ys) ∧ Q (.int ys.length) H) (tCons (tVar 0) tNil)) (tCB (fun xs H Q => ∃ p ys, xs = [.ref p] ∧ (SqL K H p ys ∨ SqT K H p ys) ∧ Q (.int ys.length) H) (tCons (tVar 1) tNil)))) (tRet (tC (.bl false))) tNext)
        (tRet (tCB (rAll K) (tCons (tLc (iRng1 (tCons (tCB (fun xs H Q => ∃ p ys, xs = [.ref p] ∧ (SqL K H p ys ∨ SqT K H p ys) ∧ Q (.int ys.length) H) (tCons (tVar 1) tNil)) tNil)) (gName 3) tYes (tCall (spD (preSame' n)) [] E0 (tCons (tOp (rIx K) (tVar 0) (tVar 3)) (tCons (tOp (rIx K) (tVar 1) (tVar 3)) tNil))) [3]) tNil))))
        [some (.da d), some (.da d), x2, none] { nx := fun _ => k (.da .none), rt := k, rf := kf } := fun ds m hm hl hds hseq hix x2 => by
      subst hm
      refine se_seq <| se_if <| et_test <| ev_op <| ev_cb <| ea_cons <| ev_var rfl <| ea_nil <| cb_len hseq <| ev_cb <| ea_cons <| ev_var rfl <| ea_nil <| cb_len hseq <| op_neI ⟨_, rfl, fun h => absurd h (by simp), fun _ => se_next ?_⟩
      refine se_ret <| ev_cb <| ea_cons <| ev_ofF <| ef_lc (fun i acc => acc = (List.replicate i true).map .bool) <| ei_rng <| ea_cons <| ev_cb <| ea_cons <| ev_var rfl <| ea_nil <| cb_len hseq <| ea_nil ⟨ds.length, rfl, by omega, rfl, by simp [rngD]; omega, fun i dd acc hdd ha => ?_, fun acc ha => ?_⟩
      · have hi : i < ds.length := by
          have := (List.getElem?_eq_some_iff.mp hdd).1
          simpa [rngD] using this
        have ed : dd = .int (i : Int) := by
          unfold rngD at hdd
          rw [List.getElem?_map, List.getElem?_range hi] at hdd
          cases hdd
          rfl
        subst ed
        have hx : ds[i]? = some ds[i] := List.getElem?_eq_getElem hi
        refine ⟨_, _, tg_name, by simp, et_yes ⟨fun _ => ev_callP (p := fun as k => ∃ d : PyData, as = [.da d, .da d] ∧ Sm m d ∧ k (.da (.bool true))) <| ea_cons <| ev_op <| ev_var rfl <| ev_var rfl <| hix (atI_nat hx) <| ea_cons <| ev_op <| ev_var rfl <| ev_var rfl <| hix (atI_nat hx) <| ea_nil ⟨colds rfl, ds[i], rfl, hds _ (List.getElem_mem hi), _, rfl, ?_⟩, nofun⟩⟩
        rw [ha, List.replicate_succ', List.map_append]
        rfl
      · subst ha
        refine ea_nil <| cb_all (bs := List.replicate ds.length true) ?_ ⟨rfl, ?_⟩
        · simp [lstOf, rngD]
        · have e : (List.replicate ds.length true).all id = true := by simp
          rw [e]
          exact hk
    cases d with
    | none => exact se_seq <| se_if <| et_or <| isN rfl ⟨fun _ => ⟨fun _ => se_ret <| ev_andV <| ev_op <| ev_var rfl <| ev_non <| op_isN rfl ⟨_, rfl, fun _ => ev_op <| ev_var rfl <| ev_non <| op_isN rfl ⟨rfl, hk⟩, nofun⟩, nofun⟩, nofun⟩
    | int i =>
      refine se_seq <| se_if <| et_or <| isN rfl ⟨nofun, fun _ => isN rfl ⟨nofun, fun _ => se_next ?_⟩⟩
      refine se_seq <| se_if <| et_or <| et_B <| isI rfl kit_ib ⟨_, rfl, nofun, fun _ => et_B <| isI rfl kit_ib ⟨_, rfl, nofun, fun _ => se_next ?_⟩⟩
      refine se_seq <| se_if <| et_or <| et_and <| et_B <| isI rfl kit_ii ⟨_, rfl, fun _ => et_B <| isI rfl kit_ii ⟨_, rfl, fun _ => ⟨fun _ => se_ret <| ev_op <| ev_var rfl <| ev_var rfl <| op_eq (hok.d (by omega)) (hok.d (by omega)) ?_, nofun⟩, nofun⟩, nofun⟩
      rw [show PyData.eqv (datOf (.da (.int i))) (datOf (.da (.int i))) = true from eq1]
      exact ⟨rfl, hk⟩
    | str s =>
      refine se_seq <| se_if <| et_or <| isN rfl ⟨nofun, fun _ => isN rfl ⟨nofun, fun _ => se_next ?_⟩⟩
      refine se_seq <| se_if <| et_or <| et_B <| isI rfl kit_sb ⟨_, rfl, nofun, fun _ => et_B <| isI rfl kit_sb ⟨_, rfl, nofun, fun _ => se_next ?_⟩⟩
      refine se_seq <| se_if <| et_or <| et_and <| et_B <| isI rfl kit_si ⟨_, rfl, nofun, fun _ => ⟨nofun, fun _ => et_and <| et_B <| isI rfl kit_ss ⟨_, rfl, fun _ => et_B <| isI rfl kit_ss ⟨_, rfl, fun _ => se_ret <| ev_op <| ev_var rfl <| ev_var rfl <| op_eq (hok.d (by omega)) (hok.d (by omega)) ?_, nofun⟩, nofun⟩⟩⟩
      rw [show PyData.eqv (datOf (.da (.str s))) (datOf (.da (.str s))) = true from eq1]
      exact ⟨rfl, hk⟩
    | list ds =>
      cases n with
      | zero => simp [Sm] at hd
      | succ m =>
        refine se_seq <| se_if <| et_or <| isN rfl ⟨nofun, fun _ => isN rfl ⟨nofun, fun _ => se_next ?_⟩⟩
        refine se_seq <| se_if <| et_or <| et_B <| isI rfl kit_lb ⟨_, rfl, nofun, fun _ => et_B <| isI rfl kit_lb ⟨_, rfl, nofun, fun _ => se_next ?_⟩⟩
        refine se_seq <| se_if <| et_or <| et_and <| et_B <| isI rfl kit_li ⟨_, rfl, nofun, fun _ => ⟨nofun, fun _ => et_and <| et_B <| isI rfl kit_ls ⟨_, rfl, nofun, fun _ => ⟨nofun, fun _ => se_next ?_⟩⟩⟩⟩
        refine se_seq <| se_asg <| ev_andV <| isI rfl kit_ll ⟨_, rfl, fun _ => isI rfl kit_ll ⟨rfl, ?_⟩, nofun⟩
        refine se_seq <| se_if <| et_and <| et_not <| et_B <| ev_var rfl ⟨_, rfl, nofun, fun _ => ⟨nofun, fun _ => se_next ?_⟩⟩
        exact kids ds m rfl hd.1 hd.2 rfl (fun ha q => fun H0 N H u v hu hv Q z => .inl (op_ixL (K := K) rfl ha q H0 N H u v hu hv Q z)) _
    | tuple ds =>
      cases n with
      | zero => simp [Sm] at hd
      | succ m =>
        refine se_seq <| se_if <| et_or <| isN rfl ⟨nofun, fun _ => isN rfl ⟨nofun, fun _ => se_next ?_⟩⟩
        refine se_seq <| se_if <| et_or <| et_B <| isI rfl kit_tb ⟨_, rfl, nofun, fun _ => et_B <| isI rfl kit_tb ⟨_, rfl, nofun, fun _ => se_next ?_⟩⟩
        refine se_seq <| se_if <| et_or <| et_and <| et_B <| isI rfl kit_ti ⟨_, rfl, nofun, fun _ => ⟨nofun, fun _ => et_and <| et_B <| isI rfl kit_ts ⟨_, rfl, nofun, fun _ => ⟨nofun, fun _ => se_next ?_⟩⟩⟩⟩
        refine se_seq <| se_asg <| ev_andV <| isI rfl kit_tl ⟨_, rfl, nofun, fun _ => ⟨rfl, ?_⟩⟩
        refine se_seq <| se_if <| et_and <| et_not <| et_B <| ev_var rfl ⟨_, rfl, fun _ => et_not <| et_and <| et_B <| isI rfl kit_tt ⟨_, rfl, fun _ => et_B <| isI rfl kit_tt ⟨_, rfl, nofun, fun _ => se_next ?_⟩, nofun⟩, nofun⟩
        exact kids ds m rfl hd.1 hd.2 rfl (fun ha q => fun H0 N H u v hu hv Q z => .inr (.inl (op_ixT (K := K) ha q H0 N H u v hu hv Q z))) _
    | bool b => cases n <;> simp [Sm] at hd
    | dict kvs => cases n <;> simp [Sm] at hd
/-! ### a row of inputs that the machine goes through -/
def run (A : List Arc) (ins : List Str) : Nat × List Str → List Str → Option ((Nat × List Str) × List (List Str))
  | s, [] => some (s, [])
  | s, n :: ns => match Bst.go A ins s n with
    | none => none
    | some (s', f) => (run A ins s' ns).map fun p => (p.1, f :: p.2)
theorem run_snoc {A : List Arc} {ins : List Str} {n : Str} {t : Nat × List Str} {f : List Str} : ∀ {ns : List Str} {s s' : Nat × List Str} {fs : List (List Str)}, run A ins s ns = some (s', fs) → Bst.go A ins s' n = some (t, f) → run A ins s (ns ++ [n]) = some (t, fs ++ [f])
  | [], s, s', fs, h, g => by
    have h := Option.some.inj h
    cases h
    show run A ins s [n] = _
    rw [run, g]
    rfl
  | m :: ns, s, s', fs, h, g => by
    rw [List.cons_append, run]
    rw [run] at h
    cases q : Bst.go A ins s m with
    | none =>
      rw [q] at h
      cases h
    | some r =>
      obtain ⟨s1, f1⟩ := r
      rw [q] at h
      dsimp only at h ⊢
      cases q2 : run A ins s1 ns with
      | none =>
        rw [q2] at h
        cases h
      | some r =>
        obtain ⟨s2, fs2⟩ := r
        rw [q2] at h
        cases h
        rw [run_snoc q2 g]
        rfl
theorem run_feeds {A : List Arc} {ins : List Str} : ∀ {ns : List Str} {s s' : Nat × List Str} {fs : List (List Str)}, run A ins s ns = some (s', fs) → Bst.feeds A ins s ns = some fs
  | [], s, s', fs, h => by
    have h := Option.some.inj h
    cases h
    rfl
  | m :: ns, s, s', fs, h => by
    rw [Bst.feeds]
    rw [run] at h
    cases q : Bst.go A ins s m with
    | none =>
      rw [q] at h
      cases h
    | some r =>
      obtain ⟨s1, f1⟩ := r
      rw [q] at h
      dsimp only at h ⊢
      cases q2 : run A ins s1 ns with
      | none =>
        rw [q2] at h
        cases h
      | some r =>
        obtain ⟨s2, fs2⟩ := r
        rw [q2] at h
        cases h
        rw [run_feeds q2]
        rfl
theorem clean_stepD (r : Option ((Nat × List Str) × List Str)) : clean (stepD r) = true := by
  cases r with
  | none => rfl
  | some r =>
    obtain ⟨⟨x, arr⟩, f⟩ := r
    have e1 := clean_nmT arr
    have e2 := clean_nmT f
    simp [stepD, stdD, clean, cleanA, e1, e2]
theorem none_stepD (r : Option ((Nat × List Str) × List Str)) : noneD (stepD r) = r.isNone := by
  cases r with
  | none => rfl
  | some r => rfl
abbrev s_l_followed : Stmt := topS 58
theorem sc_l_followed : FnScope ["_law_state", "_law_inputs", "_law_left", "_law_right", "_law_arcs_here", "_law_standing", "_law_names_here", "_law_dues", "_law_k", "_law_good", "_law_name_here", "_law_step"] ["_law_state", "_law_inputs", "_law_left", "_law_right", "_law_arcs_here"] (defScope s_l_followed) := ⟨rfl, rfl, rfl, by decide +kernel, rfl, by decide +kernel, by decide +kernel⟩
-- slots: 0 _law_state, 1 _law_inputs, 2 _law_left, 3 _law_right, 4 _law_arcs_here, 5 _law_standing, 6 _law_names_here, 7 _law_dues, 8 _law_k, 9 _law_good, 10 _law_name_here, 11 _law_step; calls: _law_go, _law_draw, _law_same, follow; constants: 
theorem ok_l_followed {f : Addr} {fd : FuncData} {q : Str} (F : Fun K "_law_followed" q s_l_followed f fd) (B : Bt mg) (C_l_go : Cal P w K mg base 2 "_law_go" ["_law_arcs_here", "_law_inputs", "_law_standing", "_law_name_here"] (spD preGo)) (C_l_draw : Cal P w K mg base 1 "_law_draw" ["_law_state", "_law_many"] (spS preDraw)) (C_l_same : Cal P w K mg base 5 "_law_same" ["_law_actual", "_law_due"] (spD (preSame 3))) (C_follow : Cal P w K mg base 5 "follow" ["machine", "names"] (spD (preFollow C))) : FnOk P w K mg base CX0 6 f fd ["_law_state", "_law_inputs", "_law_left", "_law_right", "_law_arcs_here"] (spS (preFollowed C)) := by
  obtain ⟨f__law_go, fd__law_go, G__law_go, m__law_go, k__law_go, b__law_go⟩ := C_l_go.ex
  obtain ⟨f__law_draw, fd__law_draw, G__law_draw, m__law_draw, k__law_draw, b__law_draw⟩ := C_l_draw.ex
  obtain ⟨f__law_same, fd__law_same, G__law_same, m__law_same, k__law_same, b__law_same⟩ := C_l_same.ex
  obtain ⟨f_follow, fd_follow, G_follow, m_follow, k_follow, b_follow⟩ := C_follow.ex
  refine F.ok sc_l_followed (fun vs H Q E h => ?_) (fun cdv A outer s H vs Q E hr h => ?_)
  · obtain ⟨T, s0, c0, h⟩ := h
    exact spT_len (fun as k kf hp => by obtain ⟨_, rfl, hp⟩ := hp; obtain ⟨_, _, _, _, _, rfl, _⟩ := hp; rfl) h
  · obtain ⟨T, s0, c0, h⟩ := h
    have hu := hu_of hr
    have r__law_go := hr.mono (show 2 ≤ 5 by decide)
    have r__law_draw := hr.mono (show 1 ≤ 5 by decide)
    have r__law_same := hr.mono (show 5 ≤ 5 by decide)
    have r_follow := hr.mono (show 5 ≤ 5 by decide)
    refine ⟨_, (pss_cons (ps_set (i := 5) sc_l_followed.nd rfl (.inr rfl) (pe_tup (pa_cons pe_int (pa_cons (pe_tup pa_nil) pa_nil))))
      (pss_cons (ps_set (i := 6) sc_l_followed.nd rfl (.inl rfl) (pe_lst pa_nil))
      (pss_cons (ps_set (i := 7) sc_l_followed.nd rfl (.inl rfl) (pe_lst pa_nil))
      (pss_cons (ps_for PassesOwn.never rfl (pi_range1 rfl B.range_ (pa_cons pe_int pa_nil)) (pg_name (i := 8) sc_l_followed.nd rfl (.inl rfl))
      (pss_cons (ps_setLc (i := 9) (own := [("_law_name_here", 10)]) rfl sc_l_followed.nd rfl rfl (sw_true rfl rfl rfl (by decide +kernel)) (k_seq K rfl (pv 1)) (blkOk_by (N := ["_law_state", "_law_inputs", "_law_left", "_law_right", "_law_arcs_here", "_law_standing", "_law_names_here", "_law_dues", "_law_k", "_law_good", "_law_name_here", "_law_step"]) (sc := defScope s_l_followed) (by decide +kernel)) (fun _ _ _ _ _ => (pg_name (i := 10) sc_l_followed.nd rfl (.inl rfl))) (fun _ _ _ _ _ => pts_one (pt_cmpR op_notN (pe_call G__law_go r__law_go (by rfl) m__law_go k__law_go b__law_go .nil pass0 (pa_cons (pv 4) (pa_cons (pv 1) (pa_cons (pv 5) (pa_cons (pv 10) pa_nil))))) pe_non (nomark _))) (fun _ _ _ _ _ => (pv 10)))
      (pss_one (ps_if (pt_cmpR (k_neD K rfl (hu64 hr)) (pv 9) (pe_lst pa_nil) (nomark _)) (pss_cons (ps_set (i := 10) sc_l_followed.nd rfl (.inl rfl) (pe_ix (k_ixL K rfl) (pv 9) (pe_call G__law_draw r__law_draw (by rfl) m__law_draw k__law_draw b__law_draw .nil pass0 (pa_cons (pv 0) (pa_cons (pe_callB (k_len K rfl) (by rfl) B.len_ PySem.boot_len (pa_cons (pv 9) pa_nil)) pa_nil))) (fun _ _ => rfl)))
      (pss_cons (ps_set (i := 11) sc_l_followed.nd rfl (.inl rfl) (pe_call G__law_go r__law_go (by rfl) m__law_go k__law_go b__law_go .nil pass0 (pa_cons (pv 4) (pa_cons (pv 1) (pa_cons (pv 5) (pa_cons (pv 10) pa_nil))))))
      (pss_cons (ps_expr (k_bm K rfl PySem.F.plainAttrs_list PySem.F.slot_list_append PySem.F.type_list_append mt_append (pv 6) (pa_cons (pv 10) pa_nil)))
      (pss_cons (ps_expr (k_bm K rfl PySem.F.plainAttrs_list PySem.F.slot_list_append PySem.F.type_list_append mt_append (pv 7) (pa_cons (pe_ix (k_ixT K rfl) (pv 11) pe_int (fun _ _ => rfl)) pa_nil)))
      (pss_one (ps_set (i := 5) sc_l_followed.nd rfl (.inr rfl) (pe_ix (k_ixT K rfl) (pv 11) pe_int (fun _ _ => rfl)))))))) pss_nil))))
      (pss_one (ps_ret (pe_and (pe_call G__law_same r__law_same (by rfl) m__law_same k__law_same b__law_same .nil pass0 (pa_cons (pe_call G_follow r_follow (by rfl) m_follow k_follow b_follow .nil pass0 (pa_cons (pv 3) (pa_cons (pv 6) pa_nil))) (pa_cons (pv 7) pa_nil))) (pe_one (pe_call G__law_same r__law_same (by rfl) m__law_same k__law_same b__law_same .nil pass0 (pa_cons (pe_call G_follow r_follow (by rfl) m_follow k_follow b_follow .nil pass0 (pa_cons (pv 2) (pa_cons (pv 6) pa_nil))) (pa_cons (pv 7) pa_nil))))))))))), body h fun g as k kf hT hst hp => ?_⟩
    obtain ⟨_, rfl, hp⟩ := hp
    obtain ⟨ins, outs, AL, AR, P, rfl, h1, h2, hP, hS, hk⟩ := hp
    have hnok := h1.nms.nok
    have abok : ∀ a ∈ AR, a.b.length ≤ 3 ∧ ∀ n ∈ a.b, PyData.strOk n = true := fun a ha => ⟨Nat.le_trans (h2.snd.ib a ha).2.length_le hnok.1, h2.bok ha⟩
    have small : ∀ (s : Nat × List Str) (n : Str) (t : Nat × List Str) (f : List Str), s.2.length ≤ 3 → Bst.go AR ins s n = some (t, f) → t.2.length ≤ 3 ∧ ∀ m ∈ f, PyData.strOk m = true := fun s n t f hs hg => by
      unfold Bst.go at hg
      by_cases hm : n ∈ s.2
      · rw [if_pos hm] at hg
        cases hg
      · rw [if_neg hm] at hg
        cases q : Bst.look AR s.1 (Bst.more ins s.2 n) with
        | some a =>
          rw [q] at hg
          cases hg
          exact ⟨by simp, h2.fok (Bst.look_some q).1⟩
        | none =>
          rw [q] at hg
          dsimp only at hg
          split at hg
          · cases hg
            exact ⟨Nat.le_trans (List.length_filter_le _ _) hnok.1, by simp⟩
          · cases hg
    have fsm : ∀ (f : List Str), f.length ≤ 10000 → (∀ m ∈ f, PyData.strOk m = true) → Sm 2 (nmT f) := fun f hl hf => ⟨by simpa using hl, fun d hd => by
      obtain ⟨m, hm, rfl⟩ := List.mem_map.mp hd
      exact hf m hm⟩
    have flen : ∀ (s : Nat × List Str) (n : Str) (t : Nat × List Str) (f : List Str), Bst.go AR ins s n = some (t, f) → f.length ≤ 10000 := fun s n t f hg => by
      unfold Bst.go at hg
      split at hg
      · cases hg
      · split at hg
        · rename_i a q
          cases hg
          have := (h2.snd.ob a (Bst.look_some q).1).length_le
          have := h2.nmo.2.1
          omega
        · split at hg
          · cases hg
            simp
          · cases hg
    have callGo : ∀ {c : Bd.Ctx} {E' : XK} {k : Vl → Prop} {i : Nat} {y : Nat} {arr : List Str} {n : Str}, c[4]? = some (some (.da (arcsL AR))) → c[1]? = some (some (.da (nmL ins))) → c[5]? = some (some (.da (stdD y arr))) → c[i]? = some (some (.da (.str n))) → arr.length ≤ 3 → n ∈ ins → k (.da (stepD (Bst.go AR ins (y, arr) n))) →
        Ev g (tCall (spD preGo) [] E' (tCons (tVar 4) (tCons (tVar 1) (tCons (tVar 5) (tCons (tVar i) tNil))))) c k := fun e4 e1 e5 ei ha hn q =>
      ev_callP <| ea_cons <| ev_var e4 <| ea_cons <| ev_var e1 <| ea_cons <| ev_var e5 <| ea_cons <| ev_var ei <| ea_nil ⟨colds rfl, ins, AR, _, _, _, rfl, hnok, h2.snd.few, ha, abok, hnok.2 _ hn, q⟩
    refine se_seq <| se_asg <| ev_tup <| ea_cons <| ev_int <| ea_cons <| ev_tup <| ea_nil ⟨[], rfl, by decide, ea_nil ⟨[.int 0, .tuple []], rfl, by decide, rfl, ?_⟩⟩
    refine se_seq <| se_asgF <| ef_lst <| ea_nil ⟨[], rfl, by decide, ?_⟩
    refine se_seq <| se_asgF <| ef_lst <| ea_nil ⟨[], rfl, by decide, ?_⟩
    refine se_seq <| se_for (fun i c' => ∃ (y : Nat) (arr ns : List Str) (fs : List (List Str)) (x8 x9 x10 x11 : Option Vl), arr.length ≤ 3 ∧ ns.length ≤ i ∧ (∀ n ∈ ns, n ∈ ins) ∧ fs.length ≤ i ∧ (∀ f ∈ fs, Sm 2 (nmT f)) ∧ run AR ins (0, []) ns = some ((y, arr), fs) ∧ c' = [some (.ex (.ref s0)), some (.da (nmL ins)), some (machV C ins outs AL), some (machV C ins outs AR), some (.da (arcsL AR)), some (.da (stdD y arr)), some (.ac (ns.map .str)), some (.ac (fs.map nmT)), x8, x9, x10, x11]) <| ei_rng <| ea_cons <| ev_int <| ea_nil ⟨12, rfl, by decide, ⟨0, [], [], [], none, none, none, none, by simp, by simp, by simp, by simp, by simp, rfl, by simp [ctx0, List.replicate, stdD, nmT]⟩, fun i d c' hd hw => ?_, fun c' hw => ?_⟩
    · obtain ⟨y, arr, ns, fs, x8, x9, x10, x11, q1, q2, q3, q4, q5, q6, rfl⟩ := hw
      have hi : i < 12 := by
        have := (List.getElem?_eq_some_iff.mp hd).1
        simpa [rngD] using this
      obtain ⟨good, hgood⟩ : ∃ good : List Str, good = ins.filter fun n => (Bst.go AR ins (y, arr) n).isSome := ⟨_, rfl⟩
      refine ⟨_, _, tg_name, se_seq <| se_asg <| ev_ofF <| ef_lc (fun j acc => acc = ((ins.take j).filter fun n => (Bst.go AR ins (y, arr) n).isSome).map .str) <| ei_seq <| ev_var rfl ⟨_, .inl rfl, rfl, by have := hnok.1; simp; omega, fun j d acc hd ha => ?_, fun acc ha => ?_⟩⟩
      · obtain ⟨n, hn, rfl⟩ := at_map hd
        have hnm := List.mem_of_getElem? hn
        refine ⟨_, _, tg_name, by simp, et_test <| ev_op <| callGo rfl rfl rfl rfl q1 hnm <| ev_non <| op_notN (clean_stepD _) ?_⟩
        have e9 : noneD (datOf (.da (stepD (Bst.go AR ins (y, arr) n)))) = (Bst.go AR ins (y, arr) n).isNone := none_stepD _
        rw [e9]
        refine ⟨_, rfl, fun h => ?_, fun h => ?_⟩
        · have hs : (Bst.go AR ins (y, arr) n).isSome = true := by
            cases q : Bst.go AR ins (y, arr) n with
            | none =>
              rw [q] at h
              cases h
            | some _ => rfl
          refine ev_var rfl ⟨_, rfl, ?_⟩
          rw [ha, take_snoc hn, List.filter_append, List.map_append]
          simp [hs]
        · have hs : (Bst.go AR ins (y, arr) n).isSome = false := by
            cases q : Bst.go AR ins (y, arr) n with
            | none => rfl
            | some _ =>
              rw [q] at h
              cases h
          rw [ha, take_snoc hn, List.filter_append, List.map_append]
          simp [hs]
      · subst ha
        rw [List.take_of_length_le (by simp), ← hgood]
        have hgl : good.length ≤ 3 := by
          rw [hgood]
          exact Nat.le_trans (List.length_filter_le _ _) hnok.1
        have gok : okD (.list (good.map .str)) = true := (Ok.lst (n := 0) fun d hd => by
          obtain ⟨n, hn, rfl⟩ := List.mem_map.mp hd
          rw [hgood] at hn
          exact Ok.str (hnok.2 n (List.mem_filter.mp hn).1)).d (by decide)
        refine ⟨rfl, se_if <| et_test <| ev_op <| ev_var rfl <| ev_ofF <| ef_lst <| ea_nil ⟨[], rfl, by decide, op_neNil rfl gok ⟨_, rfl, fun h => ?_, fun h => ?_⟩⟩⟩
        · have hne : 1 ≤ good.length := by
            cases good with
            | nil => cases h
            | cons _ _ => simp
          refine se_seq <| se_asg <| ev_op <| ev_var rfl <| ev_callS hst <| ea_cons <| ev_var rfl <| ea_cons <| ev_cb <| ea_cons <| ev_var rfl <| ea_nil <| cb_len (ds := good.map .str) rfl <| ea_nil ⟨_, rfl, colds rfl, good.length, by rw [List.length_map], hne, by omega, fun r hr => op_ixL (ds := good.map .str) rfl (atI_nat (map_get (List.getElem?_eq_getElem hr))) ⟨rfl, ?_⟩⟩
          have hm : good[r] ∈ good := List.getElem_mem hr
          obtain ⟨n, hn⟩ : ∃ n, n = good[r] := ⟨_, rfl⟩
          rw [← hn] at hm ⊢
          rw [hgood] at hm
          obtain ⟨hn1, hn2⟩ := List.mem_filter.mp hm
          obtain ⟨⟨⟨y', arr'⟩, f⟩, hg⟩ := Option.isSome_iff_exists.mp hn2
          obtain ⟨t1, t2⟩ := small _ _ _ _ q1 hg
          have t3 := flen _ _ _ _ hg
          refine se_seq <| se_asg <| callGo rfl rfl rfl rfl q1 hn1 ?_
          rw [hg]
          refine ⟨rfl, se_seq <| se_app rfl <| ev_var rfl ⟨_, rfl, by simp; omega, ?_⟩⟩
          refine se_seq <| se_app rfl <| ev_op <| ev_var rfl <| ev_int <| op_ixT (atI_nat (j := 1) rfl) ⟨_, rfl, by simp; omega, ?_⟩
          refine se_asg <| ev_op <| ev_var rfl <| ev_int <| op_ixT (atI_nat (j := 0) rfl) ⟨rfl, y', arr', ns ++ [n], fs ++ [f], some (.da d), some (.da (.list (good.map .str))), some (.da (.str n)), some (.da (stepD (some ((y', arr'), f)))), t1, ?_, ?_, ?_, ?_, run_snoc q6 hg, ?_⟩
          · simp
            omega
          · intro x hx
            rcases List.mem_append.mp hx with hx | hx
            · exact q3 x hx
            · have : x = n := by simpa using hx
              rw [this]
              exact hn1
          · simp
            omega
          · intro x hx
            rcases List.mem_append.mp hx with hx | hx
            · exact q5 x hx
            · have : x = f := by simpa using hx
              rw [this]
              exact fsm f t3 t2
          · simp
        · exact se_next ⟨y, arr, ns, fs, some (.da d), some (.da (.list (good.map .str))), x10, x11, q1, by omega, q3, by omega, q5, q6, rfl⟩
    · obtain ⟨y, arr, ns, fs, x8, x9, x10, x11, q1, q2, q3, q4, q5, q6, rfl⟩ := hw
      have e12 : (rngD 12).length = 12 := by simp [rngD]
      rw [e12] at q2 q4
      have fR := run_feeds q6
      have fL : Bst.feeds AL ins (0, []) ns = some fs := Bst.feeds_sim hS h1.snd.anti h2.snd.anti ns 0 0 [] fs hP fR
      have sm3 : Sm 3 (rowD fs) := ⟨by simp; omega, fun d hd => by
        obtain ⟨f, hf, rfl⟩ := List.mem_map.mp hd
        exact q5 f hf⟩
      have half : ∀ {c : Bd.Ctx} {E1 E2 : XK} {k : Vl → Prop} {j : Nat} {A : List Arc}, c[j]? = some (some (machV C ins outs A)) → c[6]? = some (some (.da (nmL ns))) → c[7]? = some (some (.da (rowD fs))) → Mok ins outs A → Bst.feeds A ins (0, []) ns = some fs → k (.da (.bool true)) →
          Ev g (tCall (spD (preSame 3)) [] E1 (tCons (tCall (spD (preFollow C)) [] E2 (tCons (tVar j) (tCons (tVar 6) tNil))) (tCons (tVar 7) tNil))) c k := fun ej e6 e7 hA hf q =>
        ev_callP <| ea_cons <| ev_callP <| ea_cons <| ev_var ej <| ea_cons <| ev_var e6 <| ea_nil ⟨colds rfl, ins, outs, _, ns, fs, rfl, hnok, hA.nmo.2.1, hA.snd, q2, q3, hf, ea_cons <| ev_var e7 <| ea_nil ⟨colds rfl, rowD fs, rfl, sm3, q⟩⟩
      refine se_frz 6 rfl <| se_frz 7 rfl <| se_ret <| ev_andV <| half rfl rfl rfl h2 fR ⟨_, rfl, fun _ => half rfl rfl rfl h1 fL ⟨rfl, hk⟩, nofun⟩
end
end Bw

namespace Bw
open PySem PySem.Spec PyProof.Rows L2 Bd
section
variable {P : Program} {w : World} {K : PySem.W.Frag} {mg : Str → Option Value} {base : Heap} {C : Addr}

theorem op_mul0w {k : Vl → Prop} {n : Nat} (hn : n ≤ 3) (q : k (.da (.str (zeros n)))) : Op (fun x y H Q => ∃ z i, x = .str z ∧ y = .int i ∧ MulOk z i ∧ Q (.str (Txt.mul z i)) H) (.da (.str (Str.ofString "0"))) (.da (.int (n : Int))) k := fun H0 N H u v hu hv Q z => by
  refine ⟨_, _, Da.str' hu, Da.int' hv, ?_, ?_⟩
  · have l : (Str.ofString "0").length = 1 := rfl
    unfold MulOk
    rw [l]
    have h4 : n = 0 ∨ n = 1 ∨ n = 2 ∨ n = 3 := by omega
    rcases h4 with rfl | rfl | rfl | rfl <;> decide
  · have e : Txt.mul (Str.ofString "0") (n : Int) = zeros n := by
      have h := mul_one_list 48 (n : Int)
      rw [Int.toNat_natCast] at h
      have ex : ∀ (z : Str) (l : List Nat), z.cps.toList = l → z = ⟨l.toArray⟩ := fun z l e => by
        cases z with
        | mk cps =>
          subst e
          simp
      exact ex _ _ h
    rw [e]
    exact z _ _ q (Da.str _)
/-- what a value is as data; what is ours to change is nothing that anybody asks for -/
def fgt : Vl → PyData
  | .da d => d
  | _ => .dict []
theorem has_fgt {H0 : Hp} {N : Addr → Prop} {H : Hp} {v : V} : ∀ {x : Vl}, Has H0 N H v x → Da N H v (Bw.fgt x)
  | .da _, h => h
  | .ob _ _, _ => .any _
  | .ex _, _ => .any _
  | .ac _, _ => .any _
  | .dk _, _ => .any _
  | .dt _, _ => .any _
  | .oi _ _, _ => .any _
theorem hasA_fgt {H0 : Hp} {N : Addr → Prop} {H : Hp} : ∀ {vs : List V} {xs : List Vl}, HasA H0 N H vs xs → DaA N H vs (xs.map Bw.fgt)
  | _, _, .nil => .nil
  | _, _, .cons h t => .cons (has_fgt h) (hasA_fgt t)
theorem ev_tupX {g : G} {c : Bd.Ctx} {k : Vl → Prop} {tl : TA} (h : EvA g tl c fun xs => xs.length ≤ 100000 ∧ k (.da (.tuple (xs.map fgt)))) : Ev g (tTup tl) c k := fun N σ H r Q z =>
  h N σ H r _ fun xs us H1 ⟨hl, kd⟩ r1 hs k1 => by
    have hd := hasA_fgt hs
    refine ⟨sz_ok (by rw [hd.length, List.length_map]; exact hl), fun p hp => z _ _ _ kd (r1.new hp) (Da.tup (r1.notN (.none hp)) upd_same (hd.keep (Keep.new hp) r1.mn)) (k1.trans (Keep.new hp))⟩
theorem trn_bits {s : Str} {ns som : List Str} (h : ∀ c ∈ s.cps.toList, c = 48 ∨ c = 49) : ∀ c ∈ (trn s ns som).cps.toList, c = 48 ∨ c = 49 := fun c hc => by
  unfold trn at hc
  have hc : c ∈ (s.cps.toList.zip ns).map fun p => if p.2 ∈ som then (if p.1 = 48 then 49 else 48) else p.1 := by simpa using hc
  obtain ⟨p, hp, rfl⟩ := List.mem_map.mp hc
  have := h p.1 (List.of_mem_zip hp).1
  split
  · split
    · exact .inr rfl
    · exact .inl rfl
  · exact this
theorem bits_ok {s : Str} (h : ∀ c ∈ s.cps.toList, c = 48 ∨ c = 49) : PyData.strOk s = true := by
  simp only [PyData.strOk, Array.all_eq_true']
  intro c hc
  rcases h c (by simpa using hc) with rfl | rfl <;> decide
/-- as many numbers below n as stand apart: at most n -/
theorem few_below : ∀ (n : Nat) (l : List Nat), l.Nodup → (∀ x ∈ l, x < n) → l.length ≤ n := Bst.few
abbrev s_walked : Stmt := topS 24
theorem sc_walked : FnScope ["machine", "values", "todo", "arcs", "place", "ins", "outs", "at", "burst", "flips", "after", "new"] ["machine"] (defScope s_walked) := ⟨rfl, rfl, rfl, by decide +kernel, rfl, by decide +kernel, by decide +kernel⟩
-- slots: 0 machine, 1 values, 2 todo, 3 arcs, 4 place, 5 ins, 6 outs, 7 at, 8 burst, 9 flips, 10 after, 11 new; calls: arcs_of, turned; constants: 
theorem ok_walked {f : Addr} {fd : FuncData} {q : Str} (F : Fun K "walked" q s_walked f fd) (B : Bt mg) (C_arcs_of : Cal P w K mg base 1 "arcs_of" ["machine", "state"] (spD (preArcsOf C))) (C_turned : Cal P w K mg base 1 "turned" ["signs", "names", "some"] (spD preTurned)) (MC : Mc K C) : FnOk P w K mg base CX0 2 f fd ["machine"] (spD (preWalked C)) := by
  obtain ⟨f_arcs_of, fd_arcs_of, G_arcs_of, m_arcs_of, k_arcs_of, b_arcs_of⟩ := C_arcs_of.ex
  obtain ⟨f_turned, fd_turned, G_turned, m_turned, k_turned, b_turned⟩ := C_turned.ex
  refine F.ok sc_walked (fun vs H Q E h => ?_) (fun cdv A outer s H vs Q E hr h => ?_)
  · obtain ⟨T, h⟩ := h
    exact spT_len (fun as k kf hp => by obtain ⟨_, _, _, rfl, _⟩ := hp; rfl) h
  · obtain ⟨T, h⟩ := h
    have hu := hu_of hr
    have r_arcs_of := hr.mono (show 1 ≤ 1 by decide)
    have r_turned := hr.mono (show 1 ≤ 1 by decide)
    refine ⟨_, (pss_cons (ps_set (i := 1) sc_walked.nd rfl (.inl rfl) (pe_disp (pps_cons pe_int (pe_tup (pa_cons (pe_op Bs.op_mulS pe_str (pe_callB (k_len K rfl) (by rfl) B.len_ PySem.boot_len (pa_cons (k_fld K rfl (pv 0)) pa_nil))) (pa_cons (pe_op Bs.op_mulS pe_str (pe_callB (k_len K rfl) (by rfl) B.len_ PySem.boot_len (pa_cons (k_fld K rfl (pv 0)) pa_nil))) pa_nil))) pps_nil) rfl rfl (by intro z; cases z) (by show 1 ≤ 15; decide)))
      (pss_cons (ps_set (i := 2) sc_walked.nd rfl (.inl rfl) (pe_lst (pa_cons pe_int pa_nil)))
      (pss_cons (ps_set (i := 3) sc_walked.nd rfl (.inl rfl) (pe_lst pa_nil))
      (pss_cons (ps_set (i := 4) sc_walked.nd rfl (.inl rfl) pe_int)
      (pss_cons (ps_while PassesOwn.never (pt_cmpR op_lt (pv 4) (pe_callB (k_len K rfl) (by rfl) B.len_ PySem.boot_len (pa_cons (pv 2) pa_nil)) (nomark _))
      (pss_cons (ps_asg (pe_dget hu (pv 1) (pe_ix (k_ixL K rfl) (pv 2) (pv 4) (fun _ _ => rfl)) (fun _ _ => rfl)) (k_pgTup K rfl (n := 2) rfl (pgs_cons (pg_name (i := 5) sc_walked.nd rfl (.inl rfl)) (pgs_cons (pg_name (i := 6) sc_walked.nd rfl (.inl rfl)) pgs_nil))))
      (pss_cons (ps_for PassesOwn.never rfl (k_seq K rfl (pe_call G_arcs_of r_arcs_of (by rfl) m_arcs_of k_arcs_of b_arcs_of .nil pass0 (pa_cons (pv 0) (pa_cons (pe_ix (k_ixL K rfl) (pv 2) (pv 4) (fun _ _ => rfl)) pa_nil)))) (pg_name (i := 7) sc_walked.nd rfl (.inl rfl))
      (pss_cons (ps_asg (pe_slice (k_slT K rfl) (pe_ix (k_ixT K rfl) (k_fld K rfl (pv 0)) (pv 7) (fun _ _ => rfl)) (po_some pe_int) po_none) (k_pgTup K rfl (n := 3) rfl (pgs_cons (pg_name (i := 8) sc_walked.nd rfl (.inl rfl)) (pgs_cons (pg_name (i := 9) sc_walked.nd rfl (.inl rfl)) (pgs_cons (pg_name (i := 10) sc_walked.nd rfl (.inl rfl)) pgs_nil)))))
      (pss_cons (ps_set (i := 11) sc_walked.nd rfl (.inl rfl) (pe_tup (pa_cons (pe_call G_turned r_turned (by rfl) m_turned k_turned b_turned .nil pass0 (pa_cons (pv 5) (pa_cons (k_fld K rfl (pv 0)) (pa_cons (pv 8) pa_nil)))) (pa_cons (pe_call G_turned r_turned (by rfl) m_turned k_turned b_turned .nil pass0 (pa_cons (pv 6) (pa_cons (k_fld K rfl (pv 0)) (pa_cons (pv 9) pa_nil)))) pa_nil))))
      (pss_cons (ps_expr (k_bm K rfl PySem.F.plainAttrs_list PySem.F.slot_list_append PySem.F.type_list_append mt_append (pv 3) (pa_cons (pv 7) pa_nil)))
      (pss_one (ps_if (pt_cmp (pc_dnotin hu (pv 10) (pv 1))) (pss_cons (ps_dput hu (pv 1) (pv 10) (pv 11) rfl)
      (pss_one (ps_expr (k_bm K rfl PySem.F.plainAttrs_list PySem.F.slot_list_append PySem.F.type_list_append mt_append (pv 2) (pa_cons (pv 10) pa_nil))))) (pss_one (ps_if (pt_cmpR (k_neD K rfl (hu64 hr)) (pe_dget hu (pv 1) (pv 10) (fun _ _ => rfl)) (pv 11) (nomark _)) (pss_one (ps_ret (pe_tup (pa_cons (pv 1) (pa_cons (pv 3) (pa_cons (pv 7) pa_nil)))))) pss_nil))))))))
      (pss_one (ps_set (i := 4) sc_walked.nd rfl (.inl rfl) (pe_op op_add (pv 4) pe_int))))))
      (pss_one (ps_ret (pe_tup (pa_cons (pv 1) (pa_cons (pv 3) (pa_cons pe_non pa_nil))))))))))), body h fun g as k kf hT hst hp => ?_⟩
    obtain ⟨ins, outs, A, rfl, h1, h2, h3, hk⟩ := hp
    obtain ⟨vi, vo, v1, v2, v3⟩ := h3.vals
    obtain ⟨vD, hvD⟩ : ∃ vD : Nat → PyData, vD = fun x => .tuple [.str (vi x), .str (vo x)] := ⟨_, rfl⟩
    obtain ⟨kv, hkv⟩ : ∃ kv : List Nat → List (Key × PyData), kv = fun xs => xs.map fun (x : Nat) => ((Sum.inl (x : Int) : Key), vD x) := ⟨_, rfl⟩
    have look : ∀ (xs : List Nat) (x : Nat), (x ∈ xs → valD (kv xs) (Sum.inl (x : Int)) = some (vD x)) ∧ (x ∉ xs → valD (kv xs) (Sum.inl (x : Int)) = none) := fun xs x => by
      rw [hkv]
      induction xs with
      | nil => exact ⟨fun h => by simp at h, fun _ => rfl⟩
      | cons y xs ih =>
        by_cases e : y = x
        · subst e
          refine ⟨fun _ => by simp [valD], fun h => absurd (List.mem_cons_self ..) h⟩
        · have ne : ¬ ((Sum.inl (y : Int) : Key) = Sum.inl (x : Int)) := fun z => e (by have := Sum.inl.inj z; omega)
          have hv : valD ((Sum.inl (y : Int), vD y) :: xs.map fun (x : Nat) => ((Sum.inl (x : Int) : Key), vD x)) (Sum.inl (x : Int) : Key) = valD (xs.map fun (x : Nat) => ((Sum.inl (x : Int) : Key), vD x)) (Sum.inl (x : Int) : Key) := by
            simp only [valD, List.find?_cons, decide_eq_false ne]
          simp only [List.map_cons]
          rw [hv]
          exact ⟨fun h => ih.1 ((List.mem_cons.mp h).resolve_left fun z => e z.symm), fun h => ih.2 fun z => h (List.mem_cons_of_mem _ z)⟩
    have el : ∀ ns : List Str, (((ns.map PyData.str).length : Nat) : Int) = ((ns.length : Nat) : Int) := fun ns => by rw [List.length_map]
    have z0 : ∀ n : Nat, (⟨(List.replicate n 48).toArray⟩ : Str) = zeros n := fun n => rfl
    have zb : ∀ n : Nat, ∀ c ∈ (zeros n).cps.toList, c = 48 ∨ c = 49 := fun n c hc => .inl (by simp [zeros] at hc; exact hc.2)
    refine se_seq <| se_disK <| ev_int ⟨0, rfl, ev_tup <| ea_cons <| ev_op <| ev_str <| ev_cb <| ea_cons <| ev_mI MC <| ev_var rfl ⟨_, _, _, rfl, ea_nil <| cb_lenF <| op_mul0w h1 <| ea_cons <| ev_op <| ev_str <| ev_cb <| ea_cons <| ev_mO MC <| ev_var rfl ⟨_, _, _, rfl, ea_nil <| cb_len (ds := outs.map .str) rfl ?_⟩⟩⟩
    rw [el outs]
    refine op_mul0w h2 <| ea_nil ⟨[.str (zeros ins.length), .str (zeros outs.length)], rfl, by simp, _, rfl, ?_⟩
    refine se_seq <| se_asgF <| ef_lst <| ea_cons <| ev_int <| ea_nil ⟨[.int 0], rfl, by decide, ?_⟩
    refine se_seq <| se_asgF <| ef_lst <| ea_nil ⟨[], rfl, by decide, ?_⟩
    refine se_seq <| se_asg <| ev_int ⟨rfl, ?_⟩
    refine se_seq <| se_while (fun m c' => ∃ (p : Nat) (xs ars : List Nat) (x5 x6 x7 x8 x9 x10 x11 : Option Vl), m = 9 - p ∧ p ≤ xs.length ∧ xs.Nodup ∧ (∀ x ∈ xs, x < 8) ∧ (∀ x ∈ xs, (∀ c ∈ (vi x).cps.toList, c = 48 ∨ c = 49) ∧ ∀ c ∈ (vo x).cps.toList, c = 48 ∨ c = 49) ∧ ars.length ≤ 16 * p ∧ c' = [some (machV C ins outs A), some (.dk (kv xs)), some (.ac (xs.map fun (x : Nat) => PyData.int (x : Int))), some (.ac (ars.map fun (x : Nat) => PyData.int (x : Int))), some (.da (.int (p : Int))), x5, x6, x7, x8, x9, x10, x11]) 9 ⟨0, [0], [], none, none, none, none, none, none, none, rfl, by simp, by simp, by simp, ?_, by simp, ?_⟩ fun m c' hw => ?_
    · intro x hx
      have : x = 0 := by simpa using hx
      subst this
      rw [v1, v2, z0, z0]
      exact ⟨zb _, zb _⟩
    · rw [hkv, hvD]
      simp [ctx0, List.replicate, v1, v2, zeros]
    · obtain ⟨p, xs, ars, x5, x6, x7, x8, x9, x10, x11, rfl, q1, q2, q3, q4, q5, rfl⟩ := hw
      have h8 := few_below 8 xs q2 q3
      refine et_test <| ev_op <| ev_var rfl <| ev_cb <| ea_cons <| ev_var rfl <| ea_nil <| cb_len (ds := xs.map fun (x : Nat) => PyData.int (x : Int)) rfl <| op_b0 ⟨_, rfl, fun h => ?_, fun h => ?_⟩
      · have hlt : p < xs.length := by
          have := of_decide_eq_true h
          simp at this
          omega
        obtain ⟨y, hy⟩ : ∃ y, xs[p]? = some y := ⟨_, List.getElem?_eq_getElem hlt⟩
        have ym := List.mem_of_getElem? hy
        have gy : (xs.map fun (x : Nat) => PyData.int (x : Int))[p]? = some (.int (y : Int)) := map_get hy
        have ey : vD y = .tuple [.str (vi y), .str (vo y)] := by rw [hvD]
        refine se_seq <| se_asgT <| ev_getK rfl <| ev_op <| ev_var rfl <| ev_var rfl <| op_ixL rfl (atI_nat gy) ⟨(y : Int), _, rfl, (look xs y).1 ym, _, _, _, rfl, by rw [ey]; exact tg_tup rfl (tgs_cons tg_name (tgs_cons tg_name tgs_nil)), ?_⟩
        refine se_seq <| se_for (fun j c' => ∃ (xs' ars : List Nat) (x7 x8 x9 x10 x11 : Option Vl), xs'[p]? = some y ∧ p + 1 ≤ xs'.length ∧ xs'.Nodup ∧ (∀ x ∈ xs', x < 8) ∧ (∀ x ∈ xs', (∀ c ∈ (vi x).cps.toList, c = 48 ∨ c = 49) ∧ ∀ c ∈ (vo x).cps.toList, c = 48 ∨ c = 49) ∧ ars.length ≤ 16 * p + j ∧ c' = [some (machV C ins outs A), some (.dk (kv xs')), some (.ac (xs'.map fun (x : Nat) => PyData.int (x : Int))), some (.ac (ars.map fun (x : Nat) => PyData.int (x : Int))), some (.da (.int (p : Int))), some (.da (.str (vi y))), some (.da (.str (vo y))), x7, x8, x9, x10, x11]) <| ei_seq <| ev_callP <| ea_cons <| ev_var rfl <| ea_cons <| ev_op <| ev_var rfl <| ev_var rfl <| op_ixL rfl (atI_nat gy) <| ea_nil ⟨colds rfl, ins, outs, A, y, rfl, h3.few, _, .inl rfl, ⟨xs, ars, x7, x8, x9, x10, x11, hy, hlt, q2, q3, q4, by omega, rfl⟩, fun j d c' hd hw => ?_, fun c' hw => ?_⟩
        · obtain ⟨xs', ars, x7, x8, x9, x10, x11, p0, p1, p2, p3, p4, p5, rfl⟩ := hw
          obtain ⟨o, ho, rfl⟩ := at_map hd
          obtain ⟨a, hA, hs⟩ := idx_mem ho
          have ham := List.mem_of_getElem? hA
          have hj := (List.getElem?_eq_some_iff.mp ho).1
          have hjl := idx_length A y
          have hfew := h3.few
          have hx8 := few_below 8 xs' p2 p3
          obtain ⟨hv1, hv2⟩ := v3 a ham
          rw [hs] at hv1 hv2
          have yb := p4 y (List.mem_of_getElem? p0)
          have bl3 := Nat.le_trans (h3.ib a ham).2.length_le h1
          have fl3 := Nat.le_trans (h3.ob a ham).length_le h2
          refine ⟨_, _, tg_name, se_seq <| se_asgT <| ev_slT <| ev_op <| ev_mA MC <| ev_var rfl ⟨_, _, _, rfl, ev_var rfl <| op_ixT (atI_nat (j := o) (map_get hA)) ⟨_, rfl, eo_some <| ev_int ⟨1, rfl, eo_none ⟨?_, ?_⟩⟩⟩⟩⟩
          · rintro ⟨e, _⟩
            have e : HT.sIx 4 0 (some 1) = 0 := e
            exact absurd e (by decide)
          have ecut : Bd.cutD [.int (a.s : Int), nmT a.b, nmT a.f, .int (a.t : Int)] (some 1) none = [nmT a.b, nmT a.f, .int (a.t : Int)] := by
            have := cutD_drop [.int (a.s : Int), nmT a.b, nmT a.f, .int (a.t : Int)] 1
            exact this
          rw [ecut]
          refine ⟨_, _, _, rfl, tg_tup rfl (tgs_cons tg_name <| tgs_cons tg_name <| tgs_cons tg_name tgs_nil), ?_⟩
          refine se_seq <| se_asg <| ev_tup <| ea_cons <| ev_callP <| ea_cons <| ev_var rfl <| ea_cons <| ev_mI MC <| ev_var rfl ⟨_, _, _, rfl, ea_cons <| ev_var rfl <| ea_nil ⟨colds rfl, vi y, ins, a.b, _, rfl, .inr rfl, h1, bl3, yb.1, ea_cons <| ev_callP <| ea_cons <| ev_var rfl <| ea_cons <| ev_mO MC <| ev_var rfl ⟨_, _, _, rfl, ea_cons <| ev_var rfl <| ea_nil ⟨colds rfl, vo y, outs, a.f, _, rfl, .inl rfl, h2, fl3, yb.2, ea_nil ⟨[.str (trn (vi y) ins a.b), .str (trn (vo y) outs a.f)], rfl, by simp, rfl, ?_⟩⟩⟩⟩⟩
          rw [hv1, hv2]
          have et : PyData.tuple [.str (vi a.t), .str (vo a.t)] = vD a.t := by rw [hvD]
          rw [et]
          have tb : (∀ c ∈ (vi a.t).cps.toList, c = 48 ∨ c = 49) ∧ ∀ c ∈ (vo a.t).cps.toList, c = 48 ∨ c = 49 := by
            rw [← hv1, ← hv2]
            exact ⟨trn_bits yb.1, trn_bits yb.2⟩
          refine se_seq <| se_app rfl <| ev_var rfl ⟨_, rfl, by simp; omega, ?_⟩
          refine se_if <| et_B <| ev_ninK rfl <| ev_var rfl ⟨(a.t : Int), rfl, _, rfl, fun h => ?_, fun h => ?_⟩
          · have hnew : a.t ∉ xs' := fun z => by
              rw [(look xs' a.t).1 z] at h
              cases h
            refine se_seq <| se_putK rfl <| ev_var rfl ⟨_, rfl, ev_var rfl ⟨(a.t : Int), rfl, (look xs' a.t).2 hnew, by rw [hkv]; simp; omega, ?_⟩⟩
            refine se_app rfl <| ev_var rfl ⟨_, rfl, by simp; omega, xs' ++ [a.t], ars ++ [o], some (.da (.int (o : Int))), some (.da (nmT a.b)), some (.da (nmT a.f)), some (.da (.int (a.t : Int))), some (.da (vD a.t)), Bst.get_snoc p0, by simp; omega, ?_, ?_, ?_, by simp; omega, ?_⟩
            · refine List.nodup_append.mpr ⟨p2, by simp, fun a' ha' b hb => ?_⟩
              have hb : b = a.t := by simpa using hb
              subst hb
              exact fun z => hnew (by rw [← z]; exact ha')
            · intro x hx
              rcases List.mem_append.mp hx with hx | hx
              · exact p3 x hx
              · have : x = a.t := by simpa using hx
                rw [this]
                exact (h3.lo a ham).2
            · intro x hx
              rcases List.mem_append.mp hx with hx | hx
              · exact p4 x hx
              · have : x = a.t := by simpa using hx
                rw [this]
                exact tb
            · rw [hkv]
              simp
          · have hold : a.t ∈ xs' := Classical.byContradiction fun z => by
              rw [(look xs' a.t).2 z] at h
              cases h
            have okv : Ok 1 (vD a.t) := by
              rw [hvD]
              refine Ok.tup (n := 0) fun d hd => ?_
              simp only [List.mem_cons, List.mem_nil_iff, or_false] at hd
              rcases hd with rfl | rfl
              · exact Ok.str (bits_ok tb.1)
              · exact Ok.str (bits_ok tb.2)
            have shv : sharp (vD a.t) = true := by rw [hvD]; rfl
            refine se_if <| et_test <| ev_op <| ev_getK rfl <| ev_var rfl ⟨(a.t : Int), _, rfl, (look xs' a.t).1 hold, ev_var rfl <| op_ne (okv.d (by decide)) (okv.d (by decide)) ?_⟩
            rw [show PyData.eqv (datOf (.da (vD a.t))) (datOf (.da (vD a.t))) = true from (eqv_sharp _ _ shv shv).mpr rfl]
            exact ⟨_, rfl, nofun, fun _ => se_next ⟨xs', ars ++ [o], some (.da (.int (o : Int))), some (.da (nmT a.b)), some (.da (nmT a.f)), some (.da (.int (a.t : Int))), some (.da (vD a.t)), p0, p1, p2, p3, p4, by simp; omega, by simp⟩⟩
        · obtain ⟨xs', ars, x7, x8, x9, x10, x11, p0, p1, p2, p3, p4, p5, rfl⟩ := hw
          have hjl := idx_length A y
          have hfew := h3.few
          refine se_asg <| ev_op <| ev_var rfl <| ev_int <| op_i0 ⟨rfl, 9 - (p + 1), ?_, p + 1, xs', ars, some (.da (.str (vi y))), some (.da (.str (vo y))), x7, x8, x9, x10, x11, rfl, p1, p2, p3, p4, ?_, by simp⟩
          · omega
          · simp at p5
            omega
      · refine se_ret <| ev_tupX <| ea_cons <| ev_var rfl <| ea_cons <| ev_var rfl <| ea_cons <| ev_non <| ea_nil ⟨by simp, rfl, hk⟩
end
end Bw

namespace Bw
open PySem PySem.Spec PyProof.Rows L2 Bd
section
variable {P : Program} {w : World} {K : PySem.W.Frag} {mg : Str → Option Value} {base : Heap} {C : Addr}
/-- a def whose code object is known -/
structure FunT (K : PySem.W.Frag) (x qual : Str) (st : Stmt) (f : Addr) (fd : FuncData) (c0 : Addr) : Prop where
  ex : ∃ (oc : Value) (od : Option Addr) (kV doc pm : Value) (an : Option Addr) (ct : Value) (osl : Array (Option Value)),
    fd = PySem.W.fnOf x qual (defArgs st) (defBody st) (defScope st) .none kV doc pm an (.ref c0) ct ∧ K.lookup f = some ⟨oc, od, .func fd, osl⟩ ∧ PySem.W.codeIn K (.ref c0) qual = true
theorem FunT.ok {x qual : Str} {st : Stmt} {f c0 : Addr} {fd : FuncData} {N ps : List Str} {k : Nat} {sp : Sp} (F : FunT K x qual st f fd c0) (S : FnScope N ps (defScope st)) (len : ∀ vs H Q E, sp vs H Q E → vs.length = ps.length)
    (hbody : ∀ (A : Around) (outer : List Env) (s : Shared) (H : Hp) (vs : List V) (Q : VK) (E : XK), Room k (A.deeper (envOfC qual (defScope st) s.heap.objs.size f (.ref c0))) → sp vs H Q E →
      ∃ t, PSs (cxOf CX0 P w K mg base N qual (defScope st) f (.ref c0) A outer s H E).nox (defBody st) t ∧ t { nx := fun _ H' => Q .non H', rt := Q } (L2.start N vs) H) : FnOk P w K mg base CX0 (k + 1) f fd ps sp := by
  obtain ⟨oc, od, kV, doc, pm, an, ct, osl, rfl, lk, hcd⟩ := F.ex
  refine fn_of lk hcd S len fun A outer s H vs Q E hr hsp => ?_
  obtain ⟨t, h, q⟩ := hbody A outer s H vs Q E hr hsp
  exact ⟨t, h.nox, q⟩
theorem key_keyD (ins : List Str) (a : Arc) : key ins a = Bs.keyD (ix ins a.b) := key_ints ins a
abbrev s_arcs_by_burst : Stmt := topS 33
theorem sc_arcs_by_burst : FnScope ["machine", "state", "rows", "at"] ["machine", "state"] (defScope s_arcs_by_burst) := ⟨rfl, rfl, rfl, by decide +kernel, rfl, by decide +kernel, by decide +kernel⟩
-- slots: 0 machine, 1 state, 2 rows, 3 at; calls: arcs_of, positions; constants: 
theorem ok_arcs_by_burst {f c0 P0 : Addr} {fd : FuncData} {q : Str} {T : List (Addr × Str)} (F : FunT K "arcs_by_burst" q s_arcs_by_burst f fd c0) (B : Bt mg) (C_arcs_of : Cal P w K mg base 1 "arcs_of" ["machine", "state"] (spD (preArcsOf C))) (C_positions : Cal P w K mg base 1 "positions" ["machine", "burst"] (spD (prePos C))) (MC : Mc K C)
    (TB : LamX.TabB base mg c0 P0) (hmT : (P0, q ++ ".<locals>." ++ "<lambda>") ∈ T) (huT : ∀ p ∈ T, p.1 = P0 → p.2 = q ++ ".<locals>." ++ "<lambda>") : FnOk P w K mg base CX0 5 f fd ["machine", "state"] (spT T none (preArcsBy C)) := by
  obtain ⟨f_arcs_of, fd_arcs_of, G_arcs_of, m_arcs_of, k_arcs_of, b_arcs_of⟩ := C_arcs_of.ex
  obtain ⟨f_positions, fd_positions, G_positions, m_positions, k_positions, b_positions⟩ := C_positions.ex
  refine F.ok sc_arcs_by_burst (fun vs H Q E h => ?_) (fun A outer s H vs Q E hr h => ?_)
  · exact spT_len (fun as k kf hp => by obtain ⟨_, _, _, _, rfl, _⟩ := hp; rfl) h
  · have hu := hu_of hr
    have r_arcs_of := hr.mono (show 1 ≤ 4 by decide)
    refine ⟨_, (pss_cons (ps_setLc (i := 2) (own := [("at", 3)]) rfl sc_arcs_by_burst.nd rfl rfl (sw_true rfl rfl rfl (by decide +kernel)) (k_seq K rfl (pe_call G_arcs_of r_arcs_of (by rfl) m_arcs_of k_arcs_of b_arcs_of .nil pass0 (pa_cons (pv 0) (pa_cons (pv 1) pa_nil)))) (blkOk_by (N := ["machine", "state", "rows", "at"]) (sc := defScope s_arcs_by_burst) (by decide +kernel)) (fun _ _ _ _ _ => (pg_name (i := 3) sc_arcs_by_burst.nd rfl (.inl rfl))) (fun _ _ _ _ _ => pts_nil) (fun _ _ _ _ _ => (pe_ix (k_ixT K rfl) (k_fld K rfl (pv 0)) (pv 3) (fun _ _ => rfl))))
      (pss_one (ps_ret (Bs.pe_sortLam (T := T) (β := Arc) (pa := "arc") (by rfl) B.sorted_ rfl hr (pa_cons (pv 2) pa_nil) TB rfl hmT huT rfl (Bs.lamS1_by (sc := defScope s_arcs_by_burst) (N := ["machine", "state", "rows", "at"]) (by decide +kernel)) (fun _ _ _ _ _ _ => rfl) (fun s1 H1 f1 c1 hr => (pe_call G_positions hr (by rfl) m_positions k_positions b_positions .nil pass0 (pa_cons (pv 0) (pa_cons (pe_ix (k_ixT K rfl) (pv 4) pe_int (fun _ _ => rfl)) pa_nil)))))))), body h fun g as k kf hT hst hp => ?_⟩
    obtain ⟨ins, outs, A, y, rfl, hM, hk⟩ := hp
    have hl := idx_length A y
    have h3 := hM.snd.few
    refine se_seq <| se_asgF <| ef_lc (fun i acc => acc = ((A.filter fun a => decide (a.s = y)).take i).map arcD) <| ei_seq ?_
    (repeat (first | with_reducible refine se_seq ?_ | with_reducible refine se_if ?_ | with_reducible refine se_ret ?_ | with_reducible refine ev_int ?_ | with_reducible refine ev_str ?_ | with_reducible refine ev_bl ?_ | with_reducible refine ev_non ?_ | with_reducible refine ev_ty ?_ | refine ev_var rfl ?_ | with_reducible refine ev_ofF (ef_op (r := rCat) ?_) | with_reducible refine ev_ofF (ef_lst ?_) | with_reducible refine ev_ofF (ef_sl ?_) | with_reducible refine ev_op ?_ | with_reducible refine ef_op ?_ | with_reducible refine ef_lst ?_ | with_reducible refine ef_sl ?_ | with_reducible refine ev_tup ?_ | with_reducible refine ev_chain ?_ | with_reducible refine ev_tupL ?_ | with_reducible refine ev_isi2 ?_ | with_reducible refine ev_cb ?_ | refine ⟨_, _, _, rfl, clean_nmL _, kit_ll, kit_lt, ?_⟩ | refine ⟨_, _, _, rfl, clean_nmT _, kit_tl, kit_tt, ?_⟩ | refine cb_isi (clean_arcD _) kit_tt ?_ | with_reducible refine ev_bm ?_ | with_reducible refine ea_cons ?_ | with_reducible refine ea_nil ?_ | with_reducible refine eo_none ?_ | with_reducible refine eo_some ?_ | with_reducible refine et_test ?_ | with_reducible refine et_B ?_ | with_reducible refine et_not ?_ | with_reducible refine et_and ?_ | with_reducible refine et_or ?_ | with_reducible refine et_yes ?_ | with_reducible refine ev_if ?_ | with_reducible refine ev_andV ?_ | with_reducible refine ev_orV ?_ | with_reducible refine ev_notV ?_ | with_reducible refine op_i0 ?_ | with_reducible refine op_b0 ?_ | with_reducible refine op_inC ?_ | with_reducible refine op_niC ?_ | with_reducible refine ⟨_, rfl, ?_⟩ | refine ⟨fun h => Bool.noConfusion h, fun _ => ?_⟩ | refine ⟨fun _ => ?_, fun h => Bool.noConfusion h⟩ | with_reducible refine se_next ?_ | refine ev_callP ?_ | refine ev_mI MC ?_ | refine ev_mO MC ?_ | refine ev_mA MC ?_ | refine ⟨_, _, _, rfl, ?_⟩ | refine op_eqI ?_ | refine op_neI ?_ | refine op_ixT (atI_nat (j := 0) rfl) ?_ | refine op_ixT (atI_nat (j := 1) rfl) ?_ | refine op_ixT (atI_nat (j := 2) rfl) ?_ | refine op_ixT (atI_nat (j := 3) rfl) ?_ | refine ⟨colds rfl, ?_⟩ | refine op_inN (.inl rfl) ?_ | refine op_inN (.inr rfl) ?_ | refine cb_isi rfl kit_ii ?_ | refine cb_isi rfl kit_ib ?_ | refine cb_isi rfl kit_ss ?_ | refine cb_len rfl ?_ | refine ⟨rfl, ?_⟩))
    refine ⟨ins, outs, A, y, rfl, hM.snd.few, ?_⟩
    refine ⟨_, .inl rfl, rfl, by simp; omega, fun i d acc hd ha => ?_, fun acc ha => ?_⟩
    · obtain ⟨o, ho, rfl⟩ := at_map hd
      obtain ⟨a, hA, hF⟩ := idx_filter ho
      refine ⟨_, _, tg_name, by simp, et_yes ⟨fun _ => ?_, nofun⟩⟩
      (repeat (first | with_reducible refine se_seq ?_ | with_reducible refine se_if ?_ | with_reducible refine se_ret ?_ | with_reducible refine ev_int ?_ | with_reducible refine ev_str ?_ | with_reducible refine ev_bl ?_ | with_reducible refine ev_non ?_ | with_reducible refine ev_ty ?_ | refine ev_var rfl ?_ | with_reducible refine ev_ofF (ef_op (r := rCat) ?_) | with_reducible refine ev_ofF (ef_lst ?_) | with_reducible refine ev_ofF (ef_sl ?_) | with_reducible refine ev_op ?_ | with_reducible refine ef_op ?_ | with_reducible refine ef_lst ?_ | with_reducible refine ef_sl ?_ | with_reducible refine ev_tup ?_ | with_reducible refine ev_chain ?_ | with_reducible refine ev_tupL ?_ | with_reducible refine ev_isi2 ?_ | with_reducible refine ev_cb ?_ | refine ⟨_, _, _, rfl, clean_nmL _, kit_ll, kit_lt, ?_⟩ | refine ⟨_, _, _, rfl, clean_nmT _, kit_tl, kit_tt, ?_⟩ | refine cb_isi (clean_arcD _) kit_tt ?_ | with_reducible refine ev_bm ?_ | with_reducible refine ea_cons ?_ | with_reducible refine ea_nil ?_ | with_reducible refine eo_none ?_ | with_reducible refine eo_some ?_ | with_reducible refine et_test ?_ | with_reducible refine et_B ?_ | with_reducible refine et_not ?_ | with_reducible refine et_and ?_ | with_reducible refine et_or ?_ | with_reducible refine et_yes ?_ | with_reducible refine ev_if ?_ | with_reducible refine ev_andV ?_ | with_reducible refine ev_orV ?_ | with_reducible refine ev_notV ?_ | with_reducible refine op_i0 ?_ | with_reducible refine op_b0 ?_ | with_reducible refine op_inC ?_ | with_reducible refine op_niC ?_ | with_reducible refine ⟨_, rfl, ?_⟩ | refine ⟨fun h => Bool.noConfusion h, fun _ => ?_⟩ | refine ⟨fun _ => ?_, fun h => Bool.noConfusion h⟩ | with_reducible refine se_next ?_ | refine ev_callP ?_ | refine ev_mI MC ?_ | refine ev_mO MC ?_ | refine ev_mA MC ?_ | refine ⟨_, _, _, rfl, ?_⟩ | refine op_eqI ?_ | refine op_neI ?_ | refine op_ixT (atI_nat (j := 0) rfl) ?_ | refine op_ixT (atI_nat (j := 1) rfl) ?_ | refine op_ixT (atI_nat (j := 2) rfl) ?_ | refine op_ixT (atI_nat (j := 3) rfl) ?_ | refine ⟨colds rfl, ?_⟩ | refine op_inN (.inl rfl) ?_ | refine op_inN (.inr rfl) ?_ | refine cb_isi rfl kit_ii ?_ | refine cb_isi rfl kit_ib ?_ | refine cb_isi rfl kit_ss ?_ | refine cb_len rfl ?_ | refine ⟨rfl, ?_⟩))
      refine op_ixT (atI_nat (j := o) (map_get hA)) ?_
      (repeat (first | with_reducible refine se_seq ?_ | with_reducible refine se_if ?_ | with_reducible refine se_ret ?_ | with_reducible refine ev_int ?_ | with_reducible refine ev_str ?_ | with_reducible refine ev_bl ?_ | with_reducible refine ev_non ?_ | with_reducible refine ev_ty ?_ | refine ev_var rfl ?_ | with_reducible refine ev_ofF (ef_op (r := rCat) ?_) | with_reducible refine ev_ofF (ef_lst ?_) | with_reducible refine ev_ofF (ef_sl ?_) | with_reducible refine ev_op ?_ | with_reducible refine ef_op ?_ | with_reducible refine ef_lst ?_ | with_reducible refine ef_sl ?_ | with_reducible refine ev_tup ?_ | with_reducible refine ev_chain ?_ | with_reducible refine ev_tupL ?_ | with_reducible refine ev_isi2 ?_ | with_reducible refine ev_cb ?_ | refine ⟨_, _, _, rfl, clean_nmL _, kit_ll, kit_lt, ?_⟩ | refine ⟨_, _, _, rfl, clean_nmT _, kit_tl, kit_tt, ?_⟩ | refine cb_isi (clean_arcD _) kit_tt ?_ | with_reducible refine ev_bm ?_ | with_reducible refine ea_cons ?_ | with_reducible refine ea_nil ?_ | with_reducible refine eo_none ?_ | with_reducible refine eo_some ?_ | with_reducible refine et_test ?_ | with_reducible refine et_B ?_ | with_reducible refine et_not ?_ | with_reducible refine et_and ?_ | with_reducible refine et_or ?_ | with_reducible refine et_yes ?_ | with_reducible refine ev_if ?_ | with_reducible refine ev_andV ?_ | with_reducible refine ev_orV ?_ | with_reducible refine ev_notV ?_ | with_reducible refine op_i0 ?_ | with_reducible refine op_b0 ?_ | with_reducible refine op_inC ?_ | with_reducible refine op_niC ?_ | with_reducible refine ⟨_, rfl, ?_⟩ | refine ⟨fun h => Bool.noConfusion h, fun _ => ?_⟩ | refine ⟨fun _ => ?_, fun h => Bool.noConfusion h⟩ | with_reducible refine se_next ?_ | refine ev_callP ?_ | refine ev_mI MC ?_ | refine ev_mO MC ?_ | refine ev_mA MC ?_ | refine ⟨_, _, _, rfl, ?_⟩ | refine op_eqI ?_ | refine op_neI ?_ | refine op_ixT (atI_nat (j := 0) rfl) ?_ | refine op_ixT (atI_nat (j := 1) rfl) ?_ | refine op_ixT (atI_nat (j := 2) rfl) ?_ | refine op_ixT (atI_nat (j := 3) rfl) ?_ | refine ⟨colds rfl, ?_⟩ | refine op_inN (.inl rfl) ?_ | refine op_inN (.inr rfl) ?_ | refine cb_isi rfl kit_ii ?_ | refine cb_isi rfl kit_ib ?_ | refine cb_isi rfl kit_ss ?_ | refine cb_len rfl ?_ | refine ⟨rfl, ?_⟩))
      rw [ha, take_snoc hF, List.map_append]
      rfl
    · subst ha
      rw [List.take_of_length_le (by rw [List.length_map, idx_len]; exact Nat.le_refl _)]
      subst hT
      refine se_ret <| ev_sortLam hst <| ea_cons <| ev_var rfl <| ea_nil ⟨_, A.filter fun a => decide (a.s = y), arcD, fun a => ix ins a.b, rfl, rfl, fun a ha => ?_, fun a ha => ?_, rfl, ?_⟩
      · have ham := (List.mem_filter.mp ha).1
        have := (hM.snd.ib a ham).1
        unfold ix
        intro z
        exact this (List.map_eq_nil_iff.mp z)
      · have ham := (List.mem_filter.mp ha).1
        refine ev_callP <| ea_cons <| ev_var rfl <| ea_cons <| ev_op <| ev_var rfl <| ev_int <| op_ixT (atI_nat (j := 1) rfl) <| ea_nil ⟨colds rfl, ins, outs, A, a.b, rfl, hM.nms.2.1, Nat.le_trans (hM.snd.ib a ham).2.length_le hM.nms.2.1, hM.bin ham, ?_⟩
        rw [← key_keyD]
        rfl
      · have e : (fun b : Arc => Bs.keyD (ix ins b.b)) = key ins := by
          funext b
          exact (key_keyD ins b).symm
        rw [e]
        exact hk
end
end Bw

namespace Bw
open PySem PySem.Spec PyProof.Rows L2 Bd
section
variable {P : Program} {w : World} {K : PySem.W.Frag} {mg : Str → Option Value} {base : Heap} {C : Addr} {T : List (Addr × Str)}
def kE (e : Nat × Nat) : List Key := [.inl (e.1 : Int), .inl (e.2 : Int)]
def kB (b : List Str) : List Key := b.map .inr
theorem keyT_kE (e : Nat × Nat) : keyT (kE e) = edgD e := rfl
theorem keyT_kB (b : List Str) : keyT (kB b) = nmT b := by
  unfold keyT kB nmT
  rw [List.map_map]
  rfl
theorem kE_inj {a b : Nat × Nat} : kE a = kE b ↔ a = b := by
  constructor
  · intro h
    have h1 := Sum.inl.inj (List.cons.inj h).1
    have h2 := Sum.inl.inj (List.cons.inj (List.cons.inj h).2).1
    exact Prod.ext (by omega) (by omega)
  · intro h
    rw [h]
theorem kB_inj : ∀ {a b : List Str}, kB a = kB b → a = b
  | [], [], _ => rfl
  | [], _ :: _, h => nomatch h
  | _ :: _, [], h => nomatch h
  | x :: a, y :: b, h => by
    have h1 := Sum.inr.inj (List.cons.inj h).1
    rw [h1, kB_inj (List.cons.inj h).2]
theorem valD_map {α κ : Type} [DecidableEq κ] (f : α → κ) (v : α → PyData) (k : κ) : ∀ l : List α, valD (l.map fun a => (f a, v a)) k = (l.find? fun a => decide (f a = k)).map v
  | [] => rfl
  | a :: l => by
    have ih := valD_map f v k l
    unfold valD at ih ⊢
    rw [List.map_cons, List.find?_cons, List.find?_cons]
    by_cases h : f a = k
    · simp [h]
    · simp only [decide_eq_false h]
      exact ih
def mineD (ins : List Str) (A : List Arc) (x : Nat) : List (List Key × PyData) := (exits ins A x).map fun a => (kB a.b, arcD a)
def knownD (Q : List (Bst.Ent Str)) : List (List Key × PyData) := Q.map fun e => (kE e.1, rowD e.2)
theorem valD_mine {ins outs : List Str} {A : List Arc} (h : Mok ins outs A) (x : Nat) (b : List Str) : valD (mineD ins A x) (kB b) = (Bst.look A x b).map arcD := by
  unfold mineD
  rw [valD_map (fun a : Arc => kB a.b) arcD]
  congr 1
  rw [← exits_hit h x b, List.head?_filter]
  congr 1
  funext a
  by_cases e : a.b = b
  · simp [e]
  · have : ¬ kB a.b = kB b := fun z => e (kB_inj z)
    simp [e, this]
theorem valD_known {Q : List (Bst.Ent Str)} (nd : (Q.map (·.1)).Nodup) {e : Bst.Ent Str} (he : e ∈ Q) : valD (knownD Q) (kE e.1) = some (rowD e.2) := by
  unfold knownD
  rw [valD_map (fun e : Bst.Ent Str => kE e.1) fun e => rowD e.2]
  have : (Q.find? fun a => decide (kE a.1 = kE e.1)) = some e := by
    cases q : Q.find? fun a => decide (kE a.1 = kE e.1) with
    | none => exact absurd (decide_eq_true rfl) (List.find?_eq_none.mp q e he)
    | some d =>
      have h1 := List.mem_of_find?_eq_some q
      have h3 := List.find?_some q
      have h2 := kE_inj.mp (of_decide_eq_true h3)
      obtain ⟨i, hi⟩ := List.mem_iff_getElem?.mp h1
      obtain ⟨j, hj⟩ := List.mem_iff_getElem?.mp he
      have g1 : (Q.map (·.1))[i]? = some d.1 := by rw [List.getElem?_map, hi]; rfl
      have g2 : (Q.map (·.1))[j]? = some e.1 := by rw [List.getElem?_map, hj]; rfl
      have hij : i = j := by
        rcases Nat.lt_trichotomy i j with l | l | l
        · exact absurd (List.mem_of_getElem? ((List.getElem?_take_of_lt l).trans g1)) (h2 ▸ nodup_take nd g2)
        · exact l
        · exact absurd (List.mem_of_getElem? ((List.getElem?_take_of_lt l).trans g2)) (h2 ▸ nodup_take nd g1)
      rw [hij, hj] at hi
      exact hi.symm
  rw [this]
  rfl
theorem valD_knownN {Q : List (Bst.Ent Str)} {p : Nat × Nat} : (valD (knownD Q) (kE p)).isSome = Q.any fun e => decide (e.1 = p) := by
  unfold knownD
  rw [valD_map (fun e : Bst.Ent Str => kE e.1) fun e => rowD e.2]
  rw [Option.isSome_map, Bool.eq_iff_iff, List.find?_isSome, List.any_eq_true]
  simp [kE_inj]
abbrev s_does : Stmt := topS 34
theorem sc_does : FnScope ["one", "other", "known", "todo", "place", "pair", "mine", "arc", "row", "after"] ["one", "other"] (defScope s_does) := ⟨rfl, rfl, rfl, by decide +kernel, rfl, by decide +kernel, by decide +kernel⟩
-- slots: 0 one, 1 other, 2 known, 3 todo, 4 place, 5 pair, 6 mine, 7 arc, 8 row, 9 after; calls: need_sound, arcs_by_burst; constants: 
theorem ok_does {f : Addr} {fd : FuncData} {q : Str} (F : Fun K "does" q s_does f fd) (B : Bt mg) (C_need_sound : Cal P w K mg base 4 "need_sound" ["machine"] (spD (preFault C))) (C_arcs_by_burst : Cal P w K mg base 5 "arcs_by_burst" ["machine", "state"] (spT T none (preArcsBy C))) (MC : Mc K C) : FnOk P w K mg base CX0 6 f fd ["one", "other"] (spT T none (preDoes C)) := by
  obtain ⟨f_need_sound, fd_need_sound, G_need_sound, m_need_sound, k_need_sound, b_need_sound⟩ := C_need_sound.ex
  obtain ⟨f_arcs_by_burst, fd_arcs_by_burst, G_arcs_by_burst, m_arcs_by_burst, k_arcs_by_burst, b_arcs_by_burst⟩ := C_arcs_by_burst.ex
  refine F.ok sc_does (fun vs H Q E h => ?_) (fun cdv A outer s H vs Q E hr h => ?_)
  · skip
    exact spT_len (fun as k kf hp => by obtain ⟨_, _, _, _, rfl, _⟩ := hp; rfl) h
  · skip
    have hu := hu_of hr
    have r_need_sound := hr.mono (show 4 ≤ 5 by decide)
    have r_arcs_by_burst := hr.mono (show 5 ≤ 5 by decide)
    refine ⟨_, (pss_cons (ps_expr (pe_call G_need_sound r_need_sound (by rfl) m_need_sound k_need_sound b_need_sound .nil pass0 (pa_cons (pv 0) pa_nil)))
      (pss_cons (ps_expr (pe_call G_need_sound r_need_sound (by rfl) m_need_sound k_need_sound b_need_sound .nil pass0 (pa_cons (pv 1) pa_nil)))
      (pss_cons (ps_if (pw_or (pt_cmpR (k_neD K rfl (hu64 hr)) (k_fld K rfl (pv 0)) (k_fld K rfl (pv 1)) (nomark _)) (pw_or1 (pt_cmpR (k_neD K rfl (hu64 hr)) (k_fld K rfl (pv 0)) (k_fld K rfl (pv 1)) (nomark _)))).pt (pss_one ps_never) pss_nil)
      (pss_cons (ps_set (i := 2) sc_does.nd rfl (.inl rfl) (Bs.pe_disT hu (pe_tup (pa_cons pe_int (pa_cons pe_int pa_nil))) (pe_lst pa_nil)))
      (pss_cons (ps_set (i := 3) sc_does.nd rfl (.inl rfl) (pe_lst (pa_cons (pe_tup (pa_cons pe_int (pa_cons pe_int pa_nil))) pa_nil)))
      (pss_cons (ps_set (i := 4) sc_does.nd rfl (.inl rfl) pe_int)
      (pss_cons (ps_while PassesOwn.never (pt_cmpR op_lt (pv 4) (pe_callB (k_len K rfl) (by rfl) B.len_ PySem.boot_len (pa_cons (pv 3) pa_nil)) (nomark _))
      (pss_cons (ps_set (i := 5) sc_does.nd rfl (.inl rfl) (pe_ix (k_ixL K rfl) (pv 3) (pv 4) (fun _ _ => rfl)))
      (pss_cons (ps_set (i := 4) sc_does.nd rfl (.inl rfl) (pe_op op_add (pv 4) pe_int))
      (pss_cons (Bs.ps_setDcT (i := 6) (own := [("arc", 7)]) rfl hu sc_does.nd rfl rfl (Bs.sw_trueD rfl rfl rfl (by decide +kernel)) (k_seq K rfl (pe_call G_arcs_by_burst r_arcs_by_burst (by rfl) m_arcs_by_burst k_arcs_by_burst b_arcs_by_burst .nil pass0 (pa_cons (pv 0) (pa_cons (pe_ix (k_ixT K rfl) (pv 5) pe_int (fun _ _ => rfl)) pa_nil)))) (blkOk_by (N := ["one", "other", "known", "todo", "place", "pair", "mine", "arc", "row", "after"]) (sc := defScope s_does) (by decide +kernel)) (fun _ _ _ _ _ => (pg_name (i := 7) sc_does.nd rfl (.inl rfl))) (fun _ _ _ _ _ => pts_nil) (fun _ _ _ _ _ => (pe_ix (k_ixT K rfl) (pv 7) pe_int (fun _ _ => rfl))) (fun _ _ _ _ _ => (pv 7)))
      (pss_one (ps_for PassesOwn.never rfl (k_seq K rfl (pe_call G_arcs_by_burst r_arcs_by_burst (by rfl) m_arcs_by_burst k_arcs_by_burst b_arcs_by_burst .nil pass0 (pa_cons (pv 1) (pa_cons (pe_ix (k_ixT K rfl) (pv 5) pe_int (fun _ _ => rfl)) pa_nil)))) (pg_name (i := 7) sc_does.nd rfl (.inl rfl))
      (pss_cons (ps_set (i := 8) sc_does.nd rfl (.inl rfl) (pe_lst (k_star K rfl (pe_dget hu (pv 2) (pv 5) (fun _ _ => rfl)) (pa_cons (pe_ix (k_ixT K rfl) (pv 7) pe_int (fun _ _ => rfl)) pa_nil))))
      (pss_cons (ps_if (pw_or (pt_cmp (pc_dnotin hu (pe_ix (k_ixT K rfl) (pv 7) pe_int (fun _ _ => rfl)) (pv 6))) (pw_or1 (pt_cmpR (k_neD K rfl (hu64 hr)) (pe_ix (k_ixT K rfl) (pe_dget hu (pv 6) (pe_ix (k_ixT K rfl) (pv 7) pe_int (fun _ _ => rfl)) (fun _ _ => rfl)) pe_int (fun _ _ => rfl)) (pe_ix (k_ixT K rfl) (pv 7) pe_int (fun _ _ => rfl)) (nomark _)))).pt (pss_one (ps_ret (pv 8))) pss_nil)
      (pss_cons (ps_set (i := 9) sc_does.nd rfl (.inl rfl) (pe_tup (pa_cons (pe_ix (k_ixT K rfl) (pe_dget hu (pv 6) (pe_ix (k_ixT K rfl) (pv 7) pe_int (fun _ _ => rfl)) (fun _ _ => rfl)) pe_int (fun _ _ => rfl)) (pa_cons (pe_ix (k_ixT K rfl) (pv 7) pe_int (fun _ _ => rfl)) pa_nil))))
      (pss_one (ps_if (pt_cmp (pc_dnotin hu (pv 9) (pv 2))) (pss_cons (ps_dput hu (pv 2) (pv 9) (pv 8) rfl)
      (pss_one (ps_expr (k_bm K rfl PySem.F.plainAttrs_list PySem.F.slot_list_append PySem.F.type_list_append mt_append (pv 3) (pa_cons (pv 9) pa_nil))))) pss_nil)))))))))))
      (pss_one (ps_ret pe_non))))))))), body h fun g as k kf hT hst hp => ?_⟩
    obtain ⟨ins, outs, AL, AR, rfl, h1, h2, hkf, hk⟩ := hp
    subst hT
    have l16 : ∀ y, (exits ins AR y).length ≤ 16 := fun y => Nat.le_trans (exits_len y) h2.snd.few
    have m16 : ∀ y, (exits ins AL y).length ≤ 16 := fun y => Nat.le_trans (exits_len y) h1.snd.few
    have okI : okD (.tuple (ins.map .str)) = true := (ok_nmT h1.nms.nok.2).d (by decide)
    refine se_seq <| se_drop <| ev_callP <| ea_cons <| ev_var rfl <| ea_nil ⟨colds rfl, ins, outs, AL, rfl, h1.nms.2.1, h1.nmo.2.1, h1.snd, ?_⟩
    refine se_seq <| se_drop <| ev_callP <| ea_cons <| ev_var rfl <| ea_nil ⟨colds rfl, ins, outs, AR, rfl, h1.nms.2.1, h1.nmo.2.1, h2.snd, ?_⟩
    refine se_seq <| se_if <| et_or <| et_test <| ev_op <| ev_mI MC <| ev_var rfl ⟨_, _, _, rfl, ev_mI MC <| ev_var rfl ⟨_, _, _, rfl, op_neF okI okI ?_⟩⟩
    rw [show PyData.eqv (.tuple (ins.map .str)) (.tuple (ins.map .str)) = true from (eqv_sharp _ _ (sharp_nmT ins) (sharp_nmT ins)).mpr rfl]
    refine ⟨_, rfl, nofun, fun _ => et_test <| ev_op <| ev_mO MC <| ev_var rfl ⟨_, _, _, rfl, ev_mO MC <| ev_var rfl ⟨_, _, _, rfl, op_neT h1.nmo.nok.2 h1.nmo.nok.2 ⟨_, rfl, fun h => by simp at h, fun _ => se_next ?_⟩⟩⟩⟩
    refine se_seq <| se_disT <| ev_tup <| ea_cons <| ev_int <| ea_cons <| ev_int <| ea_nil ⟨[.int 0, .int 0], rfl, by decide, [.inl 0, .inl 0], rfl, ev_ofF <| ef_lst <| ea_nil ⟨[], rfl, by decide, _, rfl, ?_⟩⟩
    refine se_seq <| se_asgF <| ef_lst <| ea_cons <| ev_tup <| ea_cons <| ev_int <| ea_cons <| ev_int <| ea_nil ⟨[.int 0, .int 0], rfl, by decide, ea_nil ⟨[.tuple [.int 0, .int 0]], rfl, by decide, ?_⟩⟩
    refine se_seq <| se_asg <| ev_int ⟨rfl, ?_⟩
    refine se_seq <| se_while (fun m c' => ∃ (i : Nat) (Q : List (Bst.Ent Str)) (x5 x6 x7 x8 x9 : Option Vl), m = 65 - i ∧ i ≤ Q.length ∧ (Q.map (·.1)).Nodup ∧ (∀ e ∈ Q, e.1.1 < 8 ∧ e.1.2 < 8) ∧ (∀ e ∈ Q, e.2.length ≤ Q.length) ∧ Bst.told AL (exits ins AR) = Bst.bfs AL (exits ins AR) (64 - i) i Q ∧ c' = [some (machV C ins outs AL), some (machV C ins outs AR), some (.dt (knownD Q)), some (.ac ((Q.map (·.1)).map edgD)), some (.da (.int (i : Int))), x5, x6, x7, x8, x9]) 65 ⟨0, [((0, 0), [])], none, none, none, none, none, rfl, by simp, by simp, by simp, by simp, rfl, by simp [ctx0, List.replicate, edgD, rowD, knownD, kE]⟩ fun m c' hw => ?_
    obtain ⟨i, Q, x5, x6, x7, x8, x9, rfl, q1, q2, q3, q4, q5, rfl⟩ := hw
    have q64 := Bst.pairs_few q2 q3
    refine et_test <| ev_op <| ev_var rfl <| ev_cb <| ea_cons <| ev_var rfl <| ea_nil <| cb_len rfl <| op_b0 ⟨_, rfl, fun h => ?_, fun h => ?_⟩
    · have hlt : i < Q.length := by
        have := of_decide_eq_true h
        simp at this
        omega
      obtain ⟨e, he⟩ : ∃ e, Q[i]? = some e := ⟨_, List.getElem?_eq_getElem hlt⟩
      have e64 : 64 - i = (64 - (i + 1)) + 1 := by omega
      rw [e64, Bst.bfs, he] at q5
      dsimp only at q5
      have ge1 : ((Q.map (·.1)).map edgD)[i]? = some (edgD e.1) := map_get (map_get he)
      refine se_seq <| se_asg <| ev_op <| ev_var rfl <| ev_var rfl <| op_ixL rfl (atI_nat ge1) ⟨rfl, ?_⟩
      refine se_seq <| se_asg <| ev_op <| ev_var rfl <| ev_int <| op_i0 ⟨rfl, ?_⟩
      refine se_seq <| se_dcT <| ei_seq <| ev_callT <| ea_cons <| ev_var rfl <| ea_cons <| ev_op <| ev_var rfl <| ev_int <| op_ixT (atI_nat (j := 0) rfl) <| ea_nil ⟨colds rfl, fun _ => False, ⟨ins, outs, AL, e.1.1, rfl, h1, ?_⟩, fun _ h => h.elim⟩
      have hm := m16 e.1.1
      refine ⟨_, .inl rfl, fun l acc => acc = ((exits ins AL e.1.1).take l).map fun a => (kB a.b, arcD a), rfl, by simp; omega, fun l d acc hd hacc => ?_, fun acc hacc => ?_⟩
      · obtain ⟨a, ha, rfl⟩ := at_map hd
        have am := mem_exits.mp (List.mem_of_getElem? ha)
        refine ⟨_, _, tg_name, by simp, et_yes ⟨rfl, ev_op <| ev_var rfl <| ev_int <| op_ixT (atI_nat (j := 1) rfl) ⟨kB a.b, by rw [keyT_kB], ev_var rfl ⟨_, rfl, ?_, ?_⟩⟩⟩⟩
        · rw [hacc, valD_map (fun a : Arc => kB a.b) arcD]
          rw [show (((exits ins AL e.1.1).take l).find? fun c => decide (kB c.b = kB a.b)) = none from List.find?_eq_none.mpr fun c hc hb => ?_]
          · rfl
          · have eb := kB_inj (of_decide_eq_true hb)
            obtain ⟨n, hn⟩ := List.mem_iff_getElem?.mp hc
            have hnl := (List.getElem?_eq_some_iff.mp hn).1
            rw [List.length_take] at hnl
            rw [List.getElem?_take_of_lt (by omega)] at hn
            obtain ⟨n1, n2⟩ := List.getElem?_eq_some_iff.mp hn
            obtain ⟨l1, l2⟩ := List.getElem?_eq_some_iff.mp ha
            have := List.pairwise_iff_getElem.mp (exits_ord h1 e.1.1) n l n1 l1 (by omega)
            rw [n2, l2, eb] at this
            exact List.lt_irrefl _ this
        · rw [hacc]
          show List.map _ _ ++ _ = List.map _ _
          rw [take_snoc ha, List.map_append]
          rfl
      · subst hacc
        rw [List.take_of_length_le (by simp)]
        refine se_for (fun j c' => ∃ (Q' : List (Bst.Ent Str)) (x7 x8 x9 : Option Vl), i + 1 ≤ Q'.length ∧ (Q'.map (·.1)).Nodup ∧ (∀ e ∈ Q', e.1.1 < 8 ∧ e.1.2 < 8) ∧ (∀ e ∈ Q', e.2.length ≤ Q'.length) ∧ Q'[i]? = some e ∧ Bst.inner AL e.1.1 e.2 (exits ins AR e.1.2) Q = Bst.inner AL e.1.1 e.2 ((exits ins AR e.1.2).drop j) Q' ∧ c' = [some (machV C ins outs AL), some (machV C ins outs AR), some (.dt (knownD Q')), some (.ac ((Q'.map (·.1)).map edgD)), some (.da (.int ((i + 1 : Nat) : Int))), some (.da (edgD e.1)), some (.dt (mineD ins AL e.1.1)), x7, x8, x9]) <| ei_seq <| ev_callT <| ea_cons <| ev_var rfl <| ea_cons <| ev_op <| ev_var rfl <| ev_int <| op_ixT (atI_nat (j := 1) rfl) <| ea_nil ⟨colds rfl, fun _ => False, ⟨ins, outs, AR, e.1.2, rfl, h2, _, .inl rfl, ⟨Q, x7, x8, x9, hlt, q2, q3, q4, he, rfl, rfl⟩, fun j d c' hd hw => ?_, fun c' hw => ?_⟩, fun _ h => h.elim⟩
        · obtain ⟨Q', x7, x8, x9, p1, p2, p3, p4, p5, p6, rfl⟩ := hw
          obtain ⟨a, ha, rfl⟩ := at_map hd
          have hj := (List.getElem?_eq_some_iff.mp ha).1
          have hdr : (exits ins AR e.1.2).drop j = a :: (exits ins AR e.1.2).drop (j + 1) := by
            rw [List.drop_eq_getElem_cons hj]
            rw [(List.getElem?_eq_some_iff.mp ha).2]
          rw [hdr, Bst.inner] at p6
          have am := mem_exits.mp (List.mem_of_getElem? ha)
          have p64 := Bst.pairs_few p2 p3
          have em := List.mem_of_getElem? p5
          have e2l := p4 e em
          refine ⟨_, _, tg_name, ?_⟩
          refine se_seq <| se_asgF <| ef_lst <| ea_starL <| ev_getT rfl <| ev_var rfl ⟨kE e.1, _, rfl, valD_known p2 em, _, rfl, ea_cons <| ev_op <| ev_var rfl <| ev_int <| op_ixT (atI_nat (j := 1) rfl) <| ea_nil ⟨(e.2 ++ [a.b]).map nmT, by simp, by simp; omega, ?_⟩⟩
          have hM := valD_mine h1 e.1.1 a.b
          refine se_seq <| se_if <| et_or <| et_B <| ev_ninT rfl <| ev_op <| ev_var rfl <| ev_int <| op_ixT (atI_nat (j := 1) rfl) ⟨kB a.b, by rw [keyT_kB], _, rfl, fun h => ?_, fun h => ?_⟩
          · rw [hM] at h
            have hn : Bst.look AL e.1.1 a.b = none := by simpa using h
            rw [hn] at p6
            dsimp only at p6
            rw [p6] at q5
            exact ⟨fun _ => se_retAcF rfl (hkf _ q5), nofun⟩
          · rw [hM] at h
            obtain ⟨c, hc⟩ : ∃ c, Bst.look AL e.1.1 a.b = some c := by
              cases hl : Bst.look AL e.1.1 a.b with
              | none =>
                rw [hl] at h
                cases h
              | some c => exact ⟨c, rfl⟩
            rw [hc] at hM p6
            dsimp only at p6
            have cm := (Bst.look_some hc).1
            refine et_test <| ev_op <| ev_op <| ev_getT rfl <| ev_op <| ev_var rfl <| ev_int <| op_ixT (atI_nat (j := 1) rfl) ⟨kB a.b, _, by rw [keyT_kB], hM, ev_int <| op_ixT (atI_nat (j := 2) rfl) <| ev_op <| ev_var rfl <| ev_int <| op_ixT (atI_nat (j := 2) rfl) <| op_neT (h1.fok cm) (h2.fok am.1) ⟨_, rfl, fun h => ?_, fun h => ?_⟩⟩
            · have hf : ¬ c.f = a.f := by simpa using h
              rw [if_neg hf] at p6
              rw [p6] at q5
              exact se_retAcF rfl (hkf _ q5)
            · have hf : c.f = a.f := by simpa using h
              rw [if_pos hf] at p6
              refine se_next <| se_seq <| se_asg <| ev_tup <| ea_cons <| ev_op <| ev_getT rfl <| ev_op <| ev_var rfl <| ev_int <| op_ixT (atI_nat (j := 1) rfl) ⟨kB a.b, _, by rw [keyT_kB], hM, ev_int <| op_ixT (atI_nat (j := 3) rfl) <| ea_cons <| ev_op <| ev_var rfl <| ev_int <| op_ixT (atI_nat (j := 3) rfl) <| ea_nil ⟨[.int (c.t : Int), .int (a.t : Int)], rfl, by simp, rfl, ?_⟩⟩
              refine se_if <| et_B <| ev_ninT rfl <| ev_var rfl ⟨kE (c.t, a.t), rfl, _, rfl, fun h => ?_, fun h => ?_⟩
              · rw [valD_knownN] at h
                have hnew : ¬ (Q'.any fun e => decide (e.1 = (c.t, a.t))) = true := fun z => by rw [z] at h; cases h
                rw [if_neg hnew] at p6
                have hnv : valD (knownD Q') (kE (c.t, a.t)) = none := by
                  cases hv : valD (knownD Q') (kE (c.t, a.t)) with
                  | none => rfl
                  | some v =>
                    refine absurd ?_ hnew
                    rw [← valD_knownN, hv]
                    rfl
                refine se_seq <| se_frz 8 rfl <| se_putT rfl <| ev_var rfl ⟨rowD (e.2 ++ [a.b]), rfl, ev_var rfl ⟨kE (c.t, a.t), rfl, hnv, by simp [knownD]; omega, ?_⟩⟩
                refine se_app rfl <| ev_var rfl ⟨_, rfl, by simp; omega, Q' ++ [((c.t, a.t), e.2 ++ [a.b])], some (.da (arcD a)), some (.da (rowD (e.2 ++ [a.b]))), some (.da (edgD (c.t, a.t))), by simp; omega, ?_, ?_, ?_, Bst.get_snoc p5, p6, ?_⟩
                · rw [List.map_append]
                  refine List.nodup_append.mpr ⟨p2, by simp, fun x hx y hy => ?_⟩
                  have hy : y = (c.t, a.t) := by simpa using hy
                  subst hy
                  intro z
                  subst z
                  obtain ⟨q, hq, hq2⟩ := List.mem_map.mp hx
                  exact hnew (List.any_eq_true.mpr ⟨q, hq, decide_eq_true hq2⟩)
                · intro q hq
                  rcases List.mem_append.mp hq with hq | hq
                  · exact p3 q hq
                  · have hq : q = ((c.t, a.t), e.2 ++ [a.b]) := by simpa using hq
                    subst hq
                    exact ⟨(h1.snd.lo c cm).2, (h2.snd.lo a am.1).2⟩
                · intro q hq
                  rcases List.mem_append.mp hq with hq | hq
                  · have := p4 q hq
                    simp
                    omega
                  · have hq : q = ((c.t, a.t), e.2 ++ [a.b]) := by simpa using hq
                    subst hq
                    simp
                    omega
                · simp [edgD, knownD, rowD]
              · rw [valD_knownN] at h
                have hold : (Q'.any fun e => decide (e.1 = (c.t, a.t))) = true := by simpa using h
                rw [if_pos hold] at p6
                exact se_next ⟨Q', _, _, _, p1, p2, p3, p4, p5, p6, rfl⟩
        · obtain ⟨Q', x7, x8, x9, p1, p2, p3, p4, p5, p6, rfl⟩ := hw
          have ed : (exits ins AR e.1.2).drop ((exits ins AR e.1.2).map arcD).length = [] := by simp
          rw [ed, Bst.inner] at p6
          rw [p6] at q5
          exact ⟨65 - (i + 1), by omega, i + 1, Q', _, _, _, _, _, rfl, p1, p2, p3, p4, q5, rfl⟩
    · have hge : Q.length ≤ i := by
        have := of_decide_eq_false h
        simp at this
        omega
      have hn : Q[i]? = none := List.getElem?_eq_none hge
      rw [bfs_none hn] at q5
      exact se_ret <| ev_non ⟨rfl, hk q5⟩
end
end Bw

namespace Bw
open PySem PySem.Spec PyProof.Rows L2 Bd
/-! ### tuple(xs), the new object known to have no dict -/
def kTupF (K : PySem.W.Frag) (x : V) (H : Hp) (Q : VK) : Prop := ∃ p xs, x = V.ref p ∧ SqL K H p xs ∧ ∀ (q : Addr) (o : Obj), H q = none → o.dict = none → Q (.ref q) (upd H q (.frz o (.tup xs)))
section
variable {X : Cx} {ta : TE} {a : Expr}
theorem rl_tupleF (pins : List (Addr × Obj)) (s : Shared) (σ : L2.St) (H : Hp) (x : V) (v : Value) (Q : VK) (I : Inv X pins σ H s) (r : RelV x v) (h : kTupF X.K x H Q) :
    wpAny (model X.prog X.w) X.A (call (.type "tuple") [v]) (EP X pins σ Q) X.xe s := by
  obtain ⟨p, xs, rfl, hs, q⟩ := h
  obtain rfl : v = .ref p := r
  obtain ⟨its, rv, pl, hz⟩ := I.list hs
  refine call_tuple_list pl.isList (fun h' hk => ?_) (by rw [List.size_toArray, ← rv.length]; exact hz)
  have I1 : Inv X pins σ H { s with heap := h' } := I.kept (t' := s.toks) hk
  have I2 : Inv X pins σ (upd H h'.objs.size (.frz { cls := .type "tuple", data := .seq its.toArray } (.tup xs))) { s with heap := h'.push { cls := .type "tuple", data := .seq its.toArray } } :=
    I1.laid (t' := s.toks) (fun b o e => Heap.get?_push_of_some _ e) (Nat.le_refl _) (show ObjOk X.prog X.w _ _ _ (.frz _ (.tup xs)) from ⟨Heap.get?_push_size _ rfl, hz, its, rv, IsTup.new _ _⟩)
  exact ⟨.ref h'.objs.size, _, I2, rfl, q _ _ (I1.hok.fresh (Nat.le_refl _)) rfl⟩
theorem pe_tupleOfF {p pos : Pos} (hg : Gl X "tuple") (hm : X.mg "tuple" = none) (ha : PE X a ta) (na : starEach [a] X.env = (false, eval a X.env) :: starEach [] X.env := by rfl) :
    PE X (.Call (.Name "tuple" p) [a] [] pos) (tThen ta (kTupF X.K)) := by
  refine ⟨fun pins s σ H Q I h => ?_⟩
  exact Call_ (ld_blt I hg hm boot_tuple (PyProof.Rows.callWith_type1 (one_arg ha I h (fun v s2 x H2 I2 r q => rl_tupleF pins s2 σ H2 x v Q I2 r q) na) na))
theorem k_tupleOfF (K : PySem.W.Frag) (hK : X.K = K) {p pos : Pos} (hg : Gl X "tuple") (hm : X.mg "tuple" = none) (ha : PE X a ta) (na : starEach [a] X.env = (false, eval a X.env) :: starEach [] X.env := by rfl) :
    PE X (.Call (.Name "tuple" p) [a] [] pos) (tThen ta (kTupF K)) := hK ▸ pe_tupleOfF hg hm ha na
end
/-! ### the instance that is being made -/
def spI (C : Addr) : Sp := fun vs H Q _ => ∃ (T : List (Addr × Str)) (x dx : Addr) (us : List V) (N0 : Addr → Prop) (ins outs : List Str) (A : List Arc), vs = .ref x :: us ∧ H x = some (.ins C dx []) ∧ ¬ N0 x ∧ (∀ a, N0 a → ¬ Fr H a) ∧ LamX.Tabs T H ∧
  DaA (fun a => N0 a ∨ a = x) H us [nmL ins, nmL outs, arcsL A] ∧ Mok ins outs A ∧ ∀ H', Keep (fun a => a = x) H H' → LamX.Tabs T H' → Has H N0 H' (.ref x) (machV C ins outs A) → Q .non H'
/-- to the very ends D -/
def SeD (g : G) (t : TS) (c : Bd.Ctx) (D : Ends) : Prop := ∀ N σ H, Rep g N c σ H → t D σ H
theorem se_seqD {g : G} {t u : TS} {c : Bd.Ctx} {D : Ends} (h : Se g t c { nx := fun c' => SeD g u c' D, rt := fun _ => False }) : SeD g (tSeq t u) c D := fun N σ H r =>
  h N σ H r _ ⟨fun c' σ' N' H' e r' _ => e N' σ' H' r', fun _ _ _ _ e => e.elim, fun _ _ _ _ e => e.elim, fun _ _ _ e => e.elim, fun _ _ _ _ e => e.elim⟩
section
variable {P : Program} {w : World} {K : PySem.W.Frag} {mg : Str → Option Value} {base : Heap} {C : Addr} {T : List (Addr × Str)}
theorem filter_sub {α : Type} [DecidableEq α] : ∀ {ns xs : List α}, ns.Nodup → xs.Sublist ns → ns.filter (fun n => decide (n ∈ xs)) = xs
  | [], _, _, h => by
    cases h
    rfl
  | n :: ns, xs, hn, h => by
    have hn2 := (List.nodup_cons.mp hn)
    cases h with
    | cons _ h =>
      have : n ∉ xs := fun z => hn2.1 (h.subset z)
      rw [List.filter_cons]
      simp only [this, decide_false]
      exact filter_sub hn2.2 h
    | cons_cons _ h =>
      rename_i xs
      rw [List.filter_cons]
      simp only [List.mem_cons, true_or, decide_true, if_true]
      congr 1
      have e : ns.filter (fun m => decide (m = n ∨ m ∈ xs)) = ns.filter fun m => decide (m ∈ xs) := List.filter_congr fun m hm => by
        have : m ≠ n := fun z => hn2.1 (z ▸ hm)
        simp [this]
      rw [e]
      exact filter_sub hn2.2 h
/-- self.inputs = tuple(inputs); self.outputs = tuple(outputs); self.arcs = tuple(rows) -/
theorem tail_init {x dx : Addr} {H0 : Hp} {N0 : Addr → Prop} {ins outs : List Str} {A : List Arc} {x4 x6 : Option Vl} {D : Ends} (MC : Mc K C) (hx : H0 x = some (.ins C dx [])) (hnx : ¬ N0 x) (htr : ∀ a, N0 a → ¬ Fr H0 a)
    (hD : ∀ σ H', Keep (fun a => a = x) H0 H' → LamX.Tabs T H' → Has H0 N0 H' (.ref x) (machV C ins outs A) → D.nx σ H') :
    SeD ⟨T, H0, fun a => N0 a ∨ a = x, none⟩ (tSeq (sFld K (tVar 0) (tThen (tVar 1) (kTupF K)) "inputs") (tSeq (sFld K (tVar 0) (tThen (tVar 2) (kTup K)) "outputs") (sFld K (tVar 0) (tThen (tVar 5) (kTup K)) "arcs")))
      [some (.ex (.ref x)), some (.da (nmL ins)), some (.da (nmL outs)), some (.da (arcsL A)), x4, some (.ac (A.map arcD)), x6] D := fun N σ H r => by
  obtain ⟨v0, s0, e0⟩ := r.sl 0 _ rfl
  have e0 : v0 = .ref x := e0
  subst e0
  obtain ⟨v1, s1, e1⟩ := r.sl 1 _ rfl
  obtain ⟨a1, xs1, rfl, na1, ha1, hd1⟩ := Da.lst' e1
  obtain ⟨v2, s2, e2⟩ := r.sl 2 _ rfl
  obtain ⟨a2, xs2, rfl, na2, ha2, hd2⟩ := Da.lst' e2
  obtain ⟨v5, s5, e5⟩ := r.sl 5 _ rfl
  obtain ⟨a5, xs5, rfl, na5, fa5, ha5, hd5⟩ := e5
  have hxH : H x = some (.ins C dx []) := r.kp.ob x _ (fun q => q) (fun _ q => nomatch q) hx
  have n1 : a1 ≠ x := ne_of ha1 hxH fun z => nomatch z
  have n2 : a2 ≠ x := ne_of ha2 hxH fun z => nomatch z
  have n5 : a5 ≠ x := ne_of ha5 hxH fun z => nomatch z
  have ex1 := hd1.strs
  subst ex1
  refine ⟨_, s1, a1, _, rfl, SqL.of ha1, fun p1 o1 hp1 ho1 => ?_⟩
  have p1x : p1 ≠ x := fun z => by rw [z, hxH] at hp1; cases hp1
  refine ⟨_, s0, x, C, dx, [], rfl, (upd_ne (Ne.symm p1x)).trans hxH, MC.cls, MC.nI, by decide, ?_⟩
  obtain ⟨H1, hH1⟩ : ∃ H1, H1 = upd (upd H p1 (.frz o1 (.tup (ins.map V.str)))) x (.ins C dx (putF "inputs" (.ref p1) [])) := ⟨_, rfl⟩
  have up1 : ∀ b u, b ≠ x → H b = some u → H1 b = some u := fun b u hb e => by
    rw [hH1, upd_ne hb, upd_ne (ne_of_none e hp1)]
    exact e
  have x1 : H1 x = some (.ins C dx (putF "inputs" (.ref p1) [])) := by rw [hH1]; exact upd_same
  have q1 : H1 p1 = some (.frz o1 (.tup (ins.map V.str))) := by rw [hH1, upd_ne p1x]; exact upd_same
  have t1 : LamX.Tabs T H1 := by
    rw [hH1]
    exact tabs_mutI (tabs_new r.tab hp1) ((upd_ne (Ne.symm p1x)).trans hxH)
  show tSeq (sFld K (tVar 0) (tThen (tVar 2) (kTup K)) "outputs") (sFld K (tVar 0) (tThen (tVar 5) (kTup K)) "arcs") D σ _
  rw [← hH1]
  refine ⟨_, s2, .inl ⟨a2, xs2, rfl, SqL.of (up1 _ _ n2 ha2), fun p2 hp2 => ?_⟩⟩
  have p2x : p2 ≠ x := fun z => by rw [z, x1] at hp2; cases hp2
  refine ⟨_, s0, x, C, dx, _, rfl, (upd_ne (Ne.symm p2x)).trans x1, MC.cls, MC.nO, (show 1 < 1000 by decide), ?_⟩
  obtain ⟨H2, hH2⟩ : ∃ H2, H2 = upd (upd H1 p2 (.tup xs2)) x (.ins C dx (putF "outputs" (.ref p2) (putF "inputs" (.ref p1) []))) := ⟨_, rfl⟩
  have up2 : ∀ b u, b ≠ x → H1 b = some u → H2 b = some u := fun b u hb e => by
    rw [hH2, upd_ne hb, upd_ne (ne_of_none e hp2)]
    exact e
  have x2 : H2 x = some (.ins C dx (putF "outputs" (.ref p2) (putF "inputs" (.ref p1) []))) := by rw [hH2]; exact upd_same
  have q2 : H2 p2 = some (.tup xs2) := by rw [hH2, upd_ne p2x]; exact upd_same
  have t2 : LamX.Tabs T H2 := by
    rw [hH2]
    exact tabs_mutI (tabs_new t1 hp2) ((upd_ne (Ne.symm p2x)).trans x1)
  show sFld K (tVar 0) (tThen (tVar 5) (kTup K)) "arcs" D σ _
  rw [← hH2]
  refine ⟨_, s5, .inl ⟨a5, xs5, rfl, SqL.of (up2 _ _ n5 (up1 _ _ n5 ha5)), fun p3 hp3 => ?_⟩⟩
  have p3x : p3 ≠ x := fun z => by rw [z, x2] at hp3; cases hp3
  refine ⟨_, s0, x, C, dx, _, rfl, (upd_ne (Ne.symm p3x)).trans x2, MC.cls, MC.nA, (show 2 < 1000 by decide), ?_⟩
  obtain ⟨H3, hH3⟩ : ∃ H3, H3 = upd (upd H2 p3 (.tup xs5)) x (.ins C dx (putF "arcs" (.ref p3) (putF "outputs" (.ref p2) (putF "inputs" (.ref p1) [])))) := ⟨_, rfl⟩
  have up3 : ∀ b u, b ≠ x → H2 b = some u → H3 b = some u := fun b u hb e => by
    rw [hH3, upd_ne hb, upd_ne (ne_of_none e hp3)]
    exact e
  have x3 : H3 x = some (.ins C dx [("inputs", .ref p1), ("outputs", .ref p2), ("arcs", .ref p3)]) := by rw [hH3]; exact upd_same
  have q3 : H3 p3 = some (.tup xs5) := by rw [hH3, upd_ne p3x]; exact upd_same
  have t3 : LamX.Tabs T H3 := by
    rw [hH3]
    exact tabs_mutI (tabs_new t2 hp3) ((upd_ne (Ne.symm p3x)).trans x2)
  show D.nx σ _
  rw [← hH3]
  have up : ∀ b u, b ≠ x → H b = some u → H3 b = some u := fun b u hb e => up3 b u hb (up2 b u hb (up1 b u hb e))
  have kp : Keep (fun a => a = x) H0 H3 := ⟨fun a o hm ht e => up a o hm (r.kp.ob a o (fun q => q) ht e), fun a h => by
    by_cases z : a = x
    · rw [z]
      exact nFr x3
    · have h2 := r.kp.dm a h
      intro f
      exact h2 fun o e => f o (up a o z e)⟩
  have nN : ∀ {p : Addr}, H p = none → ¬ N0 p := fun {p} hp q => r.kp.dm p (htr p q) (.none hp)
  have none1 : ∀ {p : Addr}, p ≠ x → H1 p = none → H p = none := fun {p} hb e => by
    cases q : H p with
    | none => rfl
    | some u =>
      rw [up1 p u hb q] at e
      cases e
  have none2 : ∀ {p : Addr}, p ≠ x → H2 p = none → H p = none := fun {p} hb e => by
    refine none1 hb ?_
    cases q : H1 p with
    | none => rfl
    | some u =>
      rw [up2 p u hb q] at e
      cases e
  have mv : ∀ {vs : List V} {ds : List PyData}, DaA N H vs ds → DaA N0 H3 vs ds := fun {vs ds} h => h.mono (fun a o n _ e => up a o (fun z => n (r.pn a (.inr z))) e) fun a q => .inl (r.pn a (.inl q))
  refine hD σ H3 kp t3 ⟨x, dx, _, rfl, hnx, x3, rfl, ?_⟩
  refine .cons (.ft (nN hp1) (up3 _ _ p1x (up2 _ _ p1x q1)) ho1) (.cons (.tup (nN (none1 p2x hp2)) (up3 _ _ p2x q2) (mv hd2)) (.cons (.tup (nN (none2 p3x hp3)) q3 (mv hd5)) .nil))
abbrev s_Machine_init : Stmt := inClass (topS 20) 0
theorem sc_Machine_init : FnScope ["self", "inputs", "outputs", "arcs", "at", "rows", "arc"] ["self", "inputs", "outputs", "arcs"] (defScope s_Machine_init) := ⟨rfl, rfl, rfl, by decide +kernel, rfl, by decide +kernel, by decide +kernel⟩
-- slots: 0 self, 1 inputs, 2 outputs, 3 arcs, 4 at, 5 rows, 6 arc; calls: wrong_name, is_arc, in_order; constants: MOST_ARCS
theorem ok_Machine_init {f : Addr} {fd : FuncData} {q : Str} (F : Fun K "__init__" q s_Machine_init f fd) (B : Bt mg) (C_wrong_name : Cal P w K mg base 2 "wrong_name" ["things", "least", "others"] (spD preWrong)) (C_is_arc : Cal P w K mg base 2 "is_arc" ["thing", "inputs", "outputs"] (spD preArc))
    (C_in_order : Cal P w K mg base 1 "in_order" ["things", "names"] (spD preOrder)) (MC : Mc K C) (Ct : Cts mg) : FnOk P w K mg base CX0 3 f fd ["self", "inputs", "outputs", "arcs"] (spI C) := by
  obtain ⟨f_wrong_name, fd_wrong_name, G_wrong_name, m_wrong_name, k_wrong_name, b_wrong_name⟩ := C_wrong_name.ex
  obtain ⟨f_is_arc, fd_is_arc, G_is_arc, m_is_arc, k_is_arc, b_is_arc⟩ := C_is_arc.ex
  obtain ⟨f_in_order, fd_in_order, G_in_order, m_in_order, k_in_order, b_in_order⟩ := C_in_order.ex
  obtain ⟨t_MOST_ARCS, g_MOST_ARCS⟩ := Ct.MOST_ARCS
  refine F.ok sc_Machine_init (fun vs H Q E h => ?_) (fun cdv A outer s H vs Q E hr h => ?_)
  · obtain ⟨T, x, dx, us, N0, ins, outs, A, rfl, _, _, _, _, hd, _⟩ := h
    show us.length + 1 = 4
    rw [hd.length]
    rfl
  · have hu := hu_of hr
    have r_wrong_name := hr.mono (show 2 ≤ 2 by decide)
    have r_is_arc := hr.mono (show 2 ≤ 2 by decide)
    have r_in_order := hr.mono (show 1 ≤ 2 by decide)
    refine ⟨_, (pss_cons (ps_set (i := 4) sc_Machine_init.nd rfl (.inl rfl) (pe_call G_wrong_name r_wrong_name (by rfl) m_wrong_name k_wrong_name b_wrong_name .nil pass0 (pa_cons (pv 1) (pa_cons pe_int (pa_cons (pe_lst pa_nil) pa_nil)))))
      (pss_cons (ps_if (pt_cmpR op_notN (pv 4) pe_non (nomark _)) (pss_one ps_never) pss_nil)
      (pss_cons (ps_set (i := 4) sc_Machine_init.nd rfl (.inl rfl) (pe_call G_wrong_name r_wrong_name (by rfl) m_wrong_name k_wrong_name b_wrong_name .nil pass0 (pa_cons (pv 2) (pa_cons pe_int (pa_cons (pv 1) pa_nil)))))
      (pss_cons (ps_if (pt_cmpR op_notN (pv 4) pe_non (nomark _)) (pss_one ps_never) pss_nil)
      (pss_cons (ps_if (pw_or (pt_not (pt_val (pe_callB (k_isiT K rfl) (by rfl) B.isinstance_ boot_isinstance (pa_cons (pv 3) (pa_cons (pe_tup (pa_cons (pe_bltn (v := .ty "list") (by rfl) B.list_ boot_list rfl) (pa_cons (pe_bltn (v := .ty "tuple") (by rfl) B.tuple_ boot_tuple rfl) pa_nil))) pa_nil))))) (pw_or1 (pt_cmpR op_gt (pe_callB (k_len K rfl) (by rfl) B.len_ PySem.boot_len (pa_cons (pv 3) pa_nil)) (pe_glob (v := .int 16) (by rfl) g_MOST_ARCS ⟨_, rfl⟩) (nomark _)))).pt (pss_one ps_never) pss_nil)
      (pss_cons (ps_set (i := 5) sc_Machine_init.nd rfl (.inl rfl) (pe_lst pa_nil))
      (pss_cons (ps_for PassesOwn.never rfl (k_enum K rfl rfl B.enumerate_ (pa_cons (pv 3) pa_nil)) (k_pgTup K rfl (n := 2) rfl (pgs_cons (pg_name (i := 4) sc_Machine_init.nd rfl (.inl rfl)) (pgs_cons (pg_name (i := 6) sc_Machine_init.nd rfl (.inl rfl)) pgs_nil)))
      (pss_cons (ps_if (pt_not (pt_val (pe_call G_is_arc r_is_arc (by rfl) m_is_arc k_is_arc b_is_arc .nil pass0 (pa_cons (pv 6) (pa_cons (pv 1) (pa_cons (pv 2) pa_nil)))))) (pss_one ps_never) pss_nil)
      (pss_one (ps_expr (k_bm K rfl PySem.F.plainAttrs_list PySem.F.slot_list_append PySem.F.type_list_append mt_append (pv 5) (pa_cons (pe_tup (pa_cons (pe_ix (k_ixT K rfl) (pv 6) pe_int (fun _ _ => rfl)) (pa_cons (pe_call G_in_order r_in_order (by rfl) m_in_order k_in_order b_in_order .nil pass0 (pa_cons (pe_ix (k_ixT K rfl) (pv 6) pe_int (fun _ _ => rfl)) (pa_cons (pv 1) pa_nil))) (pa_cons (pe_call G_in_order r_in_order (by rfl) m_in_order k_in_order b_in_order .nil pass0 (pa_cons (pe_ix (k_ixT K rfl) (pv 6) pe_int (fun _ _ => rfl)) (pa_cons (pv 2) pa_nil))) (pa_cons (pe_ix (k_ixT K rfl) (pv 6) pe_int (fun _ _ => rfl)) pa_nil))))) pa_nil))))))
      (pss_cons (ps_fld (pv 0) (k_tupleOfF K rfl (by rfl) B.tuple_ (pv 1)) rfl)
      (pss_cons (ps_fld (pv 0) (k_tupleOf K rfl (by rfl) B.tuple_ (pv 2)) rfl)
      (pss_one (ps_fld (pv 0) (k_tupleOf K rfl (by rfl) B.tuple_ (pv 5)) rfl))))))))))), ?_⟩
    obtain ⟨T, x, dx, us, N0, ins, outs, A, rfl, hx, hnx, htr, tb, hd, hM, hq⟩ := h
    have h0 : HasA H (fun a => N0 a ∨ a = x) H (.ref x :: us) (.ex (.ref x) :: [nmL ins, nmL outs, arcsL A].map .da) := .cons rfl (.of_das hd)
    have R0 := rep0 (T := T) (st := none) (names := ["self", "inputs", "outputs", "arcs", "at", "rows", "arc"]) (fun a q => q.elim) (fun a q => q.elim (htr a) fun q => by rw [q]; exact nFr hx) tb trivial h0 (by simp [hot])
    have key : ∀ {t : TS}, SeD ⟨T, H, fun a => N0 a ∨ a = x, none⟩ t (ctx0 7 (.ex (.ref x) :: [nmL ins, nmL outs, arcsL A].map .da)) { nx := fun _ H' => Q .non H', rt := Q } → t { nx := fun _ H' => Q .non H', rt := Q } (L2.start ["self", "inputs", "outputs", "arcs", "at", "rows", "arc"] (.ref x :: us)) H := fun h => h _ _ _ R0
    refine key ?_
    have i3 := hM.nms.2.1
    have o3 := hM.nmo.2.1
    have few := hM.snd.few
    refine se_seqD <| se_asg <| ev_callP <| ea_cons <| ev_var rfl <| ea_cons <| ev_int <| ea_cons <| ev_ofF <| ef_lst <| ea_nil ⟨[], rfl, by decide, ea_nil ⟨colds rfl, ins, 1, [], rfl, by decide, hM.nms, rfl, ?_⟩⟩
    refine se_seqD <| se_if <| et_test <| ev_op <| ev_var rfl <| ev_non <| op_notN rfl ⟨_, rfl, nofun, fun _ => se_next ?_⟩
    refine se_seqD <| se_asg <| ev_callP <| ea_cons <| ev_var rfl <| ea_cons <| ev_int <| ea_cons <| ev_var rfl <| ea_nil ⟨colds rfl, outs, 0, ins, rfl, i3, hM.nmo, rfl, ?_⟩
    refine se_seqD <| se_if <| et_test <| ev_op <| ev_var rfl <| ev_non <| op_notN rfl ⟨_, rfl, nofun, fun _ => se_next ?_⟩
    have cl : clean (arcsL A) = true := by
      have : ∀ A : List Arc, cleanA (A.map arcD) = true := fun A => by
        induction A with
        | nil => rfl
        | cons a A ih =>
          have h1 := clean_arcD a
          simp [cleanA, h1, ih]
      simp [arcsL, clean, this A]
    refine se_seqD <| se_if <| et_or <| et_not <| et_test <| ev_isi2 <| ev_var rfl ⟨_, _, _, rfl, cl, kit_ll, kit_lt, _, rfl, nofun, fun _ => et_test <| ev_op <| ev_cb <| ea_cons <| ev_var rfl <| ea_nil <| cb_len rfl <| ev_int <| op_b0 ⟨_, rfl, fun h => ?_, fun _ => se_next ?_⟩⟩
    · have := of_decide_eq_true h
      simp at this
      omega
    refine se_seqD <| se_asgF <| ef_lst <| ea_nil ⟨[], rfl, by decide, ?_⟩
    refine se_seqD <| se_for (fun j c' => ∃ (x4 x6 : Option Vl), c' = [some (.ex (.ref x)), some (.da (nmL ins)), some (.da (nmL outs)), some (.da (arcsL A)), x4, some (.ac ((A.take j).map arcD)), x6]) <| ei_enum <| ea_cons <| ev_var rfl <| ea_nil ⟨_, rfl, ⟨_, _, rfl⟩, fun j d c' hd hw => ?_, fun c' hw => ?_⟩
    · obtain ⟨x4, x6, rfl⟩ := hw
      obtain ⟨d', hd', rfl⟩ := enumD_get hd
      obtain ⟨a, ha, rfl⟩ := at_map hd'
      have am := List.mem_of_getElem? ha
      have hj := (List.getElem?_eq_some_iff.mp ha).1
      have hb := hM.snd.ib a am
      have hf := hM.snd.ob a am
      have bl3 := Nat.le_trans hb.2.length_le i3
      have fl3 := Nat.le_trans hf.length_le o3
      have lo := hM.snd.lo a am
      have bpos : 1 ≤ a.b.length := Nat.pos_of_ne_zero fun z => hb.1 (List.length_eq_zero_iff.mp z)
      refine ⟨_, _, tg_tup rfl (tgs_cons tg_name <| tgs_cons tg_name tgs_nil), ?_⟩
      refine se_seq <| se_if <| et_not <| et_test <| ev_callP <| ea_cons <| ev_var rfl <| ea_cons <| ev_var rfl <| ea_cons <| ev_var rfl <| ea_nil ⟨colds rfl, a, ins, outs, rfl, i3, o3, lo.1, lo.2, hM.nms.2.2.1.sublist hb.2, fun n hn => hb.2.subset hn, bpos, hM.nmo.2.2.1.sublist hf, fun n hn => hf.subset hn, by omega, by omega, _, rfl, nofun, fun _ => se_next ?_⟩
      refine se_app rfl <| ev_tup <| ea_cons <| ev_op <| ev_var rfl <| ev_int <| op_ixT (atI_nat (j := 0) rfl) <| ea_cons <| ev_callP <| ea_cons <| ev_op <| ev_var rfl <| ev_int <| op_ixT (atI_nat (j := 1) rfl) <| ea_cons <| ev_var rfl <| ea_nil ⟨colds rfl, a.b, ins, _, _, rfl, .inr rfl, .inl rfl, by omega, by omega, ?_⟩
      rw [filter_sub hM.nms.2.2.1 hb.2]
      refine ea_cons <| ev_callP <| ea_cons <| ev_op <| ev_var rfl <| ev_int <| op_ixT (atI_nat (j := 2) rfl) <| ea_cons <| ev_var rfl <| ea_nil ⟨colds rfl, a.f, outs, _, _, rfl, .inr rfl, .inl rfl, by omega, by omega, ?_⟩
      rw [filter_sub hM.nmo.2.2.1 hf]
      refine ea_cons <| ev_op <| ev_var rfl <| ev_int <| op_ixT (atI_nat (j := 3) rfl) <| ea_nil ⟨[.int (a.s : Int), nmT a.b, nmT a.f, .int (a.t : Int)], rfl, by simp, _, rfl, by simp; omega, some (.da (.int (j : Int))), some (.da (arcD a)), ?_⟩
      rw [take_snoc ha, List.map_append]
      rfl
    · obtain ⟨x4, x6, rfl⟩ := hw
      rw [List.take_of_length_le (by simp [enumD_length])]
      exact tail_init MC hx hnx htr fun σ H' k t h => hq H' k t h
end
end Bw

namespace Bw
open PySem PySem.Spec PyProof.Rows L2 Bd
section
variable {g : G} {c : Bd.Ctx} {E : Ed} {k : Vl → Prop} {kf : List PyData → Prop} {tl : TA} {K : PySem.W.Frag} {C : Addr}
/-! ### rules for the law's own def -/
theorem ev_make {E' : XK} (h : EvA g tl c fun xs => ∃ ins outs A, xs = [.da (nmL ins), .da (nmL outs), .da (arcsL A)] ∧ Mok ins outs A ∧ k (machV C ins outs A)) : Ev g (tMake C (spI C) [] E' tl) c k := fun N σ H r Q z =>
  h N σ H r _ fun xs us H1 hx r1 hs k1 => by
    obtain ⟨ins, outs, A, rfl, hM, kd⟩ := hx
    intro x dx hx hdx hne
    have hd : DaA N H1 us [nmL ins, nmL outs, arcsL A] := HasA.das (H0 := g.H0) hs
    have hx2 : upd H1 dx (.own x) x = none := (upd_ne (Ne.symm hne)).trans hx
    have kk : Keep no0 H1 (upd (upd H1 dx (.own x)) x (.ins C dx [])) := (Keep.new hdx).trans (Keep.new hx2)
    have tt : LamX.Tabs g.T (upd (upd H1 dx (.own x)) x (.ins C dx [])) := tabs_new (tabs_new r1.tab hdx) hx2
    have nx : ¬ N x := r1.notN (.none hx)
    refine ⟨g.T, x, dx, us ++ [], N, ins, outs, A, rfl, upd_same, nx, fun a q => kk.dm a (r1.trk a q), tt, ?_, hM, fun H' kp t has => ⟨rfl, ?_⟩⟩
    · rw [List.append_nil]
      refine DaA.mono (N := N) (H := H1) (fun a o _ t e => kk.ob a o (fun q => q) t e) (fun a q => q.imp_right fun q => by rw [q]; exact .none hx) hd
    · have k2 : Keep no0 H1 H' := ⟨fun a o hm ht e => kp.ob a o (fun q => by rw [q, hx] at e; cases e) ht (kk.ob a o hm ht e), fun a e => kp.dm a (kk.dm a e)⟩
      exact z _ _ H' kd (r1.grow k2 t) has (k1.trans k2.up)
/-- what a callee sees -/
def cool : Vl → Vl
  | .ac ds => .da (.list ds)
  | x => x
theorem has_cool {H0 H2 : Hp} {N : Addr → Prop} {H : Hp} {v : V} : ∀ {x : Vl}, (hot x = false ∨ ∃ ds, x = .ac ds) → Has H0 N H v x → Has H2 no0 H v (cool x)
  | .ac ds, _, h => by
    obtain ⟨a, xs, rfl, _, _, ha, hd⟩ := h
    exact Da.lst (fun q => q) ha (hd.less fun _ q => q.elim)
  | .da d, _, h => Da.less h fun _ q => q.elim
  | .ob C fs, _, h => by
    obtain ⟨p, dx, vs, e, _, hp, h1, h2⟩ := h
    exact ⟨p, dx, vs, e, fun q => q, hp, h1, h2.less fun _ q => q.elim⟩
  | .ex u, _, h => h
  | .dk ds, c, _ => by rcases c with c | ⟨_, c⟩ <;> cases c
  | .dt ds, c, _ => by rcases c with c | ⟨_, c⟩ <;> cases c
  | .oi _ _, c, _ => by rcases c with c | ⟨_, c⟩ <;> cases c
theorem hasA_cool {H0 H2 : Hp} {N : Addr → Prop} {H : Hp} : ∀ {vs : List V} {xs : List Vl}, (∀ x ∈ xs, hot x = false ∨ ∃ ds, x = .ac ds) → HasA H0 N H vs xs → HasA H2 no0 H vs (xs.map cool)
  | _, _, _, .nil => .nil
  | _, _, c, .cons h t => .cons (has_cool (c _ (by simp)) h) (hasA_cool (fun x hx => c x (by simp [hx])) t)
theorem cool_cold {x : Vl} (c : hot x = false ∨ ∃ ds, x = .ac ds) : hot (cool x) = false := by
  cases x <;> first | rfl | (rcases c with c | ⟨_, c⟩ <;> cases c)
/-- a call that may be handed a list of ours and answers yes or no -/
theorem ev_callH {E' : XK} {p : List Vl → (Vl → Prop) → Prop} (h : EvA g tl c fun xs => (∀ x ∈ xs, hot x = false ∨ ∃ ds, x = .ac ds) ∧ ∃ b, p (xs.map cool) (fun y => y = .da (.bool b)) ∧ k (.da (.bool b))) : Ev g (tCall (spD (pl p)) [] E' tl) c k := fun N σ H r Q z =>
  h N σ H r _ fun xs us H1 hx0 r1 hx k1 => by
    obtain ⟨hc, b, hp, hk⟩ := hx0
    rw [List.append_nil]
    refine ⟨g.T, xs.map cool, no0, fun y => y = .da (.bool b), fun _ => False, fun a q => q.elim, fun a q => q.elim, r1.tab, trivial, hasA_cool hc hx, fun x hx => ?_, hp, fun x v H' kx cx kk _ tt hv => ?_, fun ds a ys H' kd => kd.elim⟩
    · obtain ⟨y, hy, rfl⟩ := List.mem_map.mp hx
      exact cool_cold (hc y hy)
    · subst kx
      have kk' : Keep no0 H1 H' := kk
      have ev : v = .bl b := Da.bl' hv
      subst ev
      exact z _ _ H' hk (r1.grow kk' tt) (Da.bl b) (k1.trans kk'.up)
/-- f(k = v, ..): data -/
theorem ev_callK {E' : XK} {pre : Pre} {gV : List V → List V → List V} (h : EvA g tl c fun xs => (∀ x ∈ xs, hot x = false) ∧ pre xs k fun _ => False) (hg : ∀ vs, gV [] vs = vs) : Ev g (tCallK (spT g.T none pre) gV E' tNil tl) c k := fun N σ H r Q z =>
  h N σ H r _ fun xs us H1 hx0 r1 hx k1 => by
    obtain ⟨hc, hp⟩ := hx0
    show spT g.T none pre (gV [] us) H1 Q E'
    rw [hg]
    refine ⟨xs, N, k, fun _ => False, fun a q => q.elim, r1.trk, r1.tab, trivial, hx.rebase hc, hc, hp, fun x v H' kx cx kk _ tt hv => ?_, fun ds a ys H' kd => kd.elim⟩
    have kk' : Keep no0 H1 H' := kk
    exact z x v H' kx (r1.grow kk' tt) (hv.cold (fun _ _ _ _ e => e) (fun _ q => .inl q) cx) (k1.trans kk'.up)
/-- a, b, c, d = w, x, y, z -/
theorem se_swap4 {i1 i2 i3 i4 j1 j2 j3 j4 : Nat} {x1 x2 x3 x4 : Vl} (h1 : c[i1]? = some (some x1)) (h2 : c[i2]? = some (some x2)) (h3 : c[i3]? = some (some x3)) (h4 : c[i4]? = some (some x4)) (c1 : hot x1 = false) (c2 : hot x2 = false) (c3 : hot x3 = false) (c4 : hot x4 = false)
    (hE : E.nx ((((c.set j1 (some x1)).set j2 (some x2)).set j3 (some x3)).set j4 (some x4))) :
    Se g (tAsg (tTup (tCons (tVar i1) (tCons (tVar i2) (tCons (tVar i3) (tCons (tVar i4) tNil))))) (gTup K 4 (gCons (gName j1) (gCons (gName j2) (gCons (gName j3) (gCons (gName j4) gNil)))))) c E := fun N σ H r D z => by
  obtain ⟨v1, s1, e1⟩ := r.sl i1 _ h1
  obtain ⟨v2, s2, e2⟩ := r.sl i2 _ h2
  obtain ⟨v3, s3, e3⟩ := r.sl i3 _ h3
  obtain ⟨v4, s4, e4⟩ := r.sl i4 _ h4
  refine ⟨v1, s1, v2, s2, v3, s3, v4, s4, by show 4 ≤ sizeLine; decide, fun p hp => ⟨p, [v1, v2, v3, v4], rfl, SqT.of upd_same, rfl, v1, _, rfl, v2, _, rfl, v3, _, rfl, v4, _, rfl, rfl, ?_⟩⟩
  have kn : Keep no0 H (upd H p (.tup [v1, v2, v3, v4])) := Keep.new hp
  have r1 := r.new (o := .tup [v1, v2, v3, v4]) hp
  have mv : ∀ {v : V} {x : Vl}, Has g.H0 N H v x → Has g.H0 N (upd H p (.tup [v1, v2, v3, v4])) v x := fun h => h.keep kn fun _ q => q.elim
  exact z.nx _ _ N _ hE ((((r1.set (mv e1) c1).set (mv e2) c2).set (mv e3) c3).set (mv e4) c4) (Nx.keep kn fun _ q => q.elim)
/-- a slice of what stays -/
theorem ev_slX {i : Nat} {a : Addr} {ns : List Int} (e : c[i]? = some (some (.ex (.ref a)))) (hs : SqL K g.H0 a (ns.map V.int)) (hst : g.st = none) (q : k (.da (.list ((ns.take 63).map .int)))) : Ev g (tSl (rSlL K) (tVar i) tNoPart (tPart (tC (.int 63)))) c k := fun N σ H r Q z => by
  obtain ⟨v, h1, h2⟩ := r.sl i _ e
  have h2 : v = .ref a := h2
  subst h2
  have nst : ∀ a, ¬ stM g.st a := fun a q => by rw [hst] at q; exact q
  have hs' : SqL K H a (ns.map V.int) := by
    rcases hs with (q | ⟨o, q⟩) | q
    · exact .inl (.inl (r.kp.ob a _ (nst a) (fun _ q => nomatch q) q))
    · exact .inl (.inr ⟨o, r.kp.ob a _ (nst a) (fun _ q => nomatch q) q⟩)
    · exact .inr q
  refine ⟨_, h1, 63, rfl, a, _, rfl, hs', fun p hp => z _ _ _ q (r.new hp) (Da.lst (r.notN (.none hp)) upd_same ?_) (Keep.new hp)⟩
  have hd := (DaA.of_ints (N := N) (H := upd H p (.lst (cutV (ns.map V.int) none (some 63)))) ns).cut none (some 63)
  have ec : Bd.cutD (ns.map PyData.int) none (some ((63 : Nat) : Int)) = (ns.map PyData.int).take 63 := cutD_take _ 63
  rw [List.map_take]
  rw [← ec]
  exact hd
end
/-! ### the start -/
def spStart (K : PySem.W.Frag) : Sp := fun vs H Q _ => ∃ (T : List (Addr × Str)) (a : Addr) (ns : List Int), vs = [.ref a] ∧ SqL K H a (ns.map V.int) ∧ LamX.Tabs T H ∧
  ∀ (s c : Addr) (H' : Hp) (ms : List Int), s ≠ c → H' s = some (.lst [.ref c, .int 0]) → H' c = some (.lst (ms.map V.int)) → ms ≠ [] → ms.length ≤ 63 → LamX.Tabs T H' → Q (.ref s) H'
def spLaw (K : PySem.W.Frag) (T : List (Addr × Str)) : Sp := fun vs H Q _ => ∃ (a : Addr) (ns : List Int), vs = [.ref a] ∧ SqL K H a (ns.map V.int) ∧ LamX.Tabs T H ∧ ∀ H', Q (.bl true) H'
def gk0 : List Value → List Value → List Value
  | [], ws => ws
  | _, _ => []
def gV0 : List V → List V → List V
  | [], ws => ws
  | _, _ => []
structure Cal2 (P : Program) (w : World) (K : PySem.W.Frag) (mg : Str → Option Value) (base : Heap) (k : Nat) (x : Str) (ps : List Str) (sp : Sp) : Prop where
  ex : ∃ f fd, FnOk P w K mg base CX0 k f fd ps sp ∧ mg x = some (.ref f) ∧ PySem.W.keepIn K (.ref f) = true ∧ Binds K fd ps [] ∧ KBinds K fd ps ps gk0 gV0
structure MkM (P : Program) (w : World) (K : PySem.W.Frag) (mg : Str → Option Value) (base : Heap) (C : Addr) : Prop where
  ex : ∃ f fd, Mk K C f ∧ FnOk P w K mg base CX0 3 f fd ["self", "inputs", "outputs", "arcs"] (spI C) ∧ mg "Machine" = some (.ref C) ∧ Binds K fd ["self", "inputs", "outputs", "arcs"] []
section
variable {P : Program} {w : World} {K : PySem.W.Frag} {mg : Str → Option Value} {base : Heap} {C : Addr} {T : List (Addr × Str)}
theorem tail_start {T : List (Addr × Str)} {H0 : Hp} {c0 : Option Vl} {x2 : Option Vl} {ms : List Int} {D : Ends} (hD : ∀ (s c : Addr) (H' : Hp), s ≠ c → H' s = some (.lst [.ref c, .int 0]) → H' c = some (.lst (ms.map V.int)) → LamX.Tabs T H' → D.rt (.ref s) H') :
    SeD ⟨T, H0, no0, none⟩ (tRet (tLst (tCons (tVar 1) (tCons (tC (.int 0)) tNil)))) [c0, some (.ac (ms.map .int)), x2] D := fun N σ H r => by
  obtain ⟨v1, s1, e1⟩ := r.sl 1 _ rfl
  obtain ⟨a, xs, rfl, na, fa, ha, hd⟩ := e1
  have ex := hd.ints
  subst ex
  refine ⟨_, s1, by show 2 ≤ sizeLine; decide, fun p hp => hD p a _ (fun z => by rw [z, ha] at hp; cases hp) upd_same ((upd_ne (ne_of_none ha hp)).trans ha) (tabs_new r.tab hp)⟩
abbrev s_l_start : Stmt := topS 36
theorem sc_l_start : FnScope ["_law_script", "_law_cells", "_law_cell"] ["_law_script"] (defScope s_l_start) := ⟨rfl, rfl, rfl, by decide +kernel, rfl, by decide +kernel, by decide +kernel⟩
-- slots: 0 _law_script, 1 _law_cells, 2 _law_cell; calls: ; constants: 
theorem ok_l_start {f : Addr} {fd : FuncData} {q : Str} (F : Fun K "_law_start" q s_l_start f fd) (B : Bt mg) : FnOk P w K mg base CX0 1 f fd ["_law_script"] (spStart K) := by
  refine F.ok sc_l_start (fun vs H Q E h => ?_) (fun cdv A outer s H vs Q E hr h => ?_)
  · obtain ⟨T, a, ns, rfl, _⟩ := h
    rfl
  · have hu := hu_of hr
    refine ⟨_, (pss_cons (ps_setLc (i := 1) (own := [("_law_cell", 2)]) rfl sc_l_start.nd rfl rfl (sw_true rfl rfl rfl (by decide +kernel)) (k_seq K rfl (pe_slice (k_slL K rfl) (pv 0) po_none (po_some pe_int))) (blkOk_by (N := ["_law_script", "_law_cells", "_law_cell"]) (sc := defScope s_l_start) (by decide +kernel)) (fun _ _ _ _ _ => (pg_name (i := 2) sc_l_start.nd rfl (.inl rfl))) (fun _ _ _ _ _ => pts_nil) (fun _ _ _ _ _ => (pe_callTy call_int1 (by rfl) B.int_ boot_int (pa_cons (pv 2) pa_nil))))
      (pss_cons (ps_if (pt_cmpR (k_eqD K rfl (hu64 hr)) (pv 1) (pe_lst pa_nil) (nomark _)) (pss_one (ps_set (i := 1) sc_l_start.nd rfl (.inl rfl) (pe_lst (pa_cons pe_int pa_nil)))) pss_nil)
      (pss_one (ps_ret (pe_lst (pa_cons (pv 1) (pa_cons pe_int pa_nil))))))), ?_⟩
    obtain ⟨T, a, ns, rfl, hs, tb, hq⟩ := h
    have h0 : HasA H no0 H [.ref a] [.ex (.ref a)] := .cons rfl .nil
    have R0 := rep0 (T := T) (st := none) (names := ["_law_script", "_law_cells", "_law_cell"]) (fun a q => q.elim) (fun a q => q.elim) tb trivial h0 (by simp [hot])
    have key : ∀ {t : TS}, SeD ⟨T, H, no0, none⟩ t (ctx0 3 [.ex (.ref a)]) { nx := fun _ H' => Q .non H', rt := Q } → t { nx := fun _ H' => Q .non H', rt := Q } (L2.start ["_law_script", "_law_cells", "_law_cell"] [.ref a]) H := fun h => h _ _ _ R0
    refine key ?_
    refine se_seqD <| se_asgF <| ef_lc (fun i acc => acc = ((ns.take 63).take i).map .int) <| ei_seq <| ev_slX (ns := ns) rfl hs rfl ⟨_, .inl rfl, rfl, by simp; omega, fun i d acc hd ha => ?_, fun acc ha => ?_⟩
    · obtain ⟨n, hn, rfl⟩ := at_map hd
      refine ⟨_, _, tg_name, by simp, et_yes ⟨fun _ => ev_cb <| ea_cons <| ev_var rfl <| ea_nil <| cb_int ⟨_, rfl, ?_⟩, nofun⟩⟩
      rw [ha]
      show List.map _ _ ++ _ = List.map _ _
      rw [take_snoc hn, List.map_append]
      rfl
    · subst ha
      rw [List.take_of_length_le (by simp)]
      have hok : okD (.list ((ns.take 63).map .int)) = true := (Ok.lst (n := 0) fun d hd => by
        obtain ⟨n, _, rfl⟩ := List.mem_map.mp hd
        exact Ok.int).d (by decide)
      refine se_seqD <| se_if <| et_test <| ev_op <| ev_var rfl <| ev_ofF <| ef_lst <| ea_nil ⟨[], rfl, by decide, op_eqNil rfl hok ⟨_, rfl, fun h => ?_, fun h => se_next ?_⟩⟩
      · refine se_asgF <| ef_lst <| ea_cons <| ev_int <| ea_nil ⟨[.int 0], rfl, by decide, ?_⟩
        exact tail_start (ms := [0]) fun s c H' h1 h2 h3 h4 => hq s c H' [0] h1 h2 h3 (by simp) (by simp) h4
      · refine tail_start (ms := ns.take 63) fun s c H' h1 h2 h3 h4 => hq s c H' (ns.take 63) h1 h2 h3 (fun z => ?_) (by rw [List.length_take]; omega) h4
        rw [z] at h
        cases h
end
end Bw

namespace Bw
open PySem PySem.Spec PyProof.Rows L2 Bd
section
variable {P : Program} {w : World} {K : PySem.W.Frag} {mg : Str → Option Value} {base : Heap} {C : Addr} {T : List (Addr × Str)}
theorem rep_law {names : List Str} (hn : names.length = 15) {a s c : Addr} {H : Hp} {ms : List Int} (hsc : s ≠ c) (h1 : H s = some (.lst [.ref c, .int 0])) (h2 : H c = some (.lst (ms.map V.int))) (h3 : ms ≠ []) (h4 : ms.length ≤ 63) (tb : LamX.Tabs T H) :
    Rep ⟨T, H, stM (some (s, c)), some (s, c)⟩ (stM (some (s, c))) (none :: some (.ex (.ref s)) :: List.replicate 13 none) ((L2.start names [.ref a]).set 1 (some (.ref s))) H := by
  have hl : (L2.start names [V.ref a]).length = 15 := by simp [L2.start, hn]
  have one : ∀ (i : Nat) (x : Vl), ((none :: some (Vl.ex (.ref s)) :: List.replicate 13 none : Bd.Ctx))[i]? = some (some x) → i = 1 ∧ x = .ex (.ref s) := fun i x e => by
    match i, e with
    | 0, e => cases e
    | 1, e =>
      have e : some (some (Vl.ex (.ref s))) = some (some x) := e
      cases e
      exact ⟨rfl, rfl⟩
    | i + 2, e =>
      have e : (List.replicate 13 (none : Option Vl))[i]? = some (some x) := e
      rw [List.getElem?_replicate] at e
      split at e <;> cases e
  have tr : ∀ a, stM (some (s, c)) a → ¬ Fr H a := fun a q => by
    rcases q with rfl | rfl
    · exact nFr h1
    · exact nFr h2
  refine ⟨Keep.refl H, ⟨hsc, 0, ms, h1, h2, h3, h4⟩, tb, fun _ h => h, tr, fun _ h => h, tr, by rw [List.length_set, hl]; rfl, fun i x e => ?_, fun i j x y v _ e _ hx _ _ _ => ?_⟩
  · obtain ⟨rfl, rfl⟩ := one i x e
    refine ⟨.ref s, ?_, rfl⟩
    rw [List.getElem?_set, if_pos rfl, if_pos (by rw [hl]; decide)]
  · obtain ⟨_, rfl⟩ := one i x e
    cases hx
theorem law_body {t : TS} {names : List Str} (hn : names.length = 15) {a : Addr} {H : Hp} {Q : VK} {ns : List Int} (hs : SqL K H a (ns.map V.int)) (tb : LamX.Tabs T H) (hq : ∀ H', Q (.bl true) H')
    (h : ∀ (g : G) (s0 c0 : Addr), g.T = T → g.st = some (s0, c0) → Se g t (none :: some (.ex (.ref s0)) :: List.replicate 13 none) { nx := fun _ => False, rt := fun x => x = .da (.bool true) }) :
    tSeq (tAsg (tCall (spStart K) [] E0 (tCons (tVar 0) tNil)) (gName 1)) t { nx := fun _ H' => Q .non H', rt := Q } (L2.start names [.ref a]) H := by
  refine ⟨.ref a, rfl, T, a, ns, rfl, hs, tb, fun s c H' ms hsc h1 h2 h3 h4 h5 => ?_⟩
  refine h ⟨T, H', stM (some (s, c)), some (s, c)⟩ s c rfl rfl _ _ H' (rep_law hn hsc h1 h2 h3 h4 h5) _ ⟨fun c' σ' N' H' e => e.elim, fun c' σ' N' H' e => e.elim, fun c' σ' N' H' e => e.elim, fun x v H2 e _ _ _ _ hv => ?_, fun ds a xs H' e => e.elim⟩
  subst e
  have ev : v = .bl true := Da.bl' hv
  subst ev
  exact hq H2
abbrev s_law : Stmt := topS 59
theorem sc_law : FnScope ["_law_script", "_law_state", "_law_inputs", "_law_outputs", "_law_vals", "_law_edges", "_law_others", "_law_links", "_law_first", "_law_second", "_law_left", "_law_right", "_law_turn", "_law_due", "_law_told"] ["_law_script"] (defScope s_law) := ⟨rfl, rfl, rfl, by decide +kernel, rfl, by decide +kernel, by decide +kernel⟩
-- slots: 0 _law_script, 1 _law_state, 2 _law_inputs, 3 _law_outputs, 4 _law_vals, 5 _law_edges, 6 _law_others, 7 _law_links, 8 _law_first, 9 _law_second, 10 _law_left, 11 _law_right, 12 _law_turn, 13 _law_due, 14 _law_told; calls: _law_start, _law_names, _law_draw, _law_plan, _law_varied, _law_arcs, _law_first_unlike, does, _law_same, _law_judged, _law_followed; constants: 
theorem ok_law {f : Addr} {fd : FuncData} {q : Str} (F : Fun K "law" q s_law f fd) (B : Bt mg) (C_l_start : Cal P w K mg base 1 "_law_start" ["_law_script"] (spStart K)) (C_l_names : Cal P w K mg base 3 "_law_names" ["_law_state", "_law_many", "_law_taken"] (spS preLnames)) (C_l_draw : Cal P w K mg base 1 "_law_draw" ["_law_state", "_law_many"] (spS preDraw)) (C_l_plan : Cal P w K mg base 4 "_law_plan" ["_law_state", "_law_inputs", "_law_outputs", "_law_most"] (spS prePlan)) (C_l_varied : Cal P w K mg base 4 "_law_varied" ["_law_state", "_law_inputs", "_law_outputs", "_law_vals", "_law_edges"] (spS preVaried)) (C_l_arcs : Cal P w K mg base 2 "_law_arcs" ["_law_inputs", "_law_outputs", "_law_vals", "_law_edges"] (spD preLarcs)) (C_l_first_unlike : Cal P w K mg base 2 "_law_first_unlike" ["_law_inputs", "_law_left", "_law_right"] (spD preFirst)) (C_does : Cal2 P w K mg base 6 "does" ["one", "other"] (spT T none (preDoes C))) (C_l_same : Cal P w K mg base 5 "_law_same" ["_law_actual", "_law_due"] (spD (preSame 3))) (C_l_judged : Cal P w K mg base 3 "_law_judged" ["_law_inputs", "_law_left", "_law_right", "_law_told"] (spD preJudged)) (C_l_followed : Cal P w K mg base 6 "_law_followed" ["_law_state", "_law_inputs", "_law_left", "_law_right", "_law_arcs_here"] (spS (preFollowed C))) (C_Machine : MkM P w K mg base C) : FnOk P w K mg base CX0 8 f fd ["_law_script"] (spLaw K T) := by
  obtain ⟨f__law_start, fd__law_start, G__law_start, m__law_start, k__law_start, b__law_start⟩ := C_l_start.ex
  obtain ⟨f__law_names, fd__law_names, G__law_names, m__law_names, k__law_names, b__law_names⟩ := C_l_names.ex
  obtain ⟨f__law_draw, fd__law_draw, G__law_draw, m__law_draw, k__law_draw, b__law_draw⟩ := C_l_draw.ex
  obtain ⟨f__law_plan, fd__law_plan, G__law_plan, m__law_plan, k__law_plan, b__law_plan⟩ := C_l_plan.ex
  obtain ⟨f__law_varied, fd__law_varied, G__law_varied, m__law_varied, k__law_varied, b__law_varied⟩ := C_l_varied.ex
  obtain ⟨f__law_arcs, fd__law_arcs, G__law_arcs, m__law_arcs, k__law_arcs, b__law_arcs⟩ := C_l_arcs.ex
  obtain ⟨f__law_first_unlike, fd__law_first_unlike, G__law_first_unlike, m__law_first_unlike, k__law_first_unlike, b__law_first_unlike⟩ := C_l_first_unlike.ex
  obtain ⟨f_does, fd_does, G_does, m_does, k_does, b_does, kb_does⟩ := C_does.ex
  obtain ⟨f__law_same, fd__law_same, G__law_same, m__law_same, k__law_same, b__law_same⟩ := C_l_same.ex
  obtain ⟨f__law_judged, fd__law_judged, G__law_judged, m__law_judged, k__law_judged, b__law_judged⟩ := C_l_judged.ex
  obtain ⟨f__law_followed, fd__law_followed, G__law_followed, m__law_followed, k__law_followed, b__law_followed⟩ := C_l_followed.ex
  obtain ⟨f_init, fd_init, M_Machine, G_init, m_Machine, b_init⟩ := C_Machine.ex
  refine F.ok sc_law (fun vs H Q E h => ?_) (fun cdv A outer s H vs Q E hr h => ?_)
  · obtain ⟨a, ns, rfl, _⟩ := h
    rfl
  · have hu := hu_of hr
    have r__law_start := hr.mono (show 1 ≤ 7 by decide)
    have r__law_names := hr.mono (show 3 ≤ 7 by decide)
    have r__law_draw := hr.mono (show 1 ≤ 7 by decide)
    have r__law_plan := hr.mono (show 4 ≤ 7 by decide)
    have r__law_varied := hr.mono (show 4 ≤ 7 by decide)
    have r__law_arcs := hr.mono (show 2 ≤ 7 by decide)
    have r__law_first_unlike := hr.mono (show 2 ≤ 7 by decide)
    have r_does := hr.mono (show 6 ≤ 7 by decide)
    have r__law_same := hr.mono (show 5 ≤ 7 by decide)
    have r__law_judged := hr.mono (show 3 ≤ 7 by decide)
    have r__law_followed := hr.mono (show 6 ≤ 7 by decide)
    have r_init := hr.mono (show 4 ≤ 7 by decide)
    refine ⟨_, (pss_cons (ps_set (i := 1) sc_law.nd rfl (.inl rfl) (pe_call G__law_start r__law_start (by rfl) m__law_start k__law_start b__law_start .nil pass0 (pa_cons (pv 0) pa_nil)))
      (pss_cons (ps_set (i := 2) sc_law.nd rfl (.inl rfl) (pe_call G__law_names r__law_names (by rfl) m__law_names k__law_names b__law_names .nil pass0 (pa_cons (pv 1) (pa_cons (pe_op op_add pe_int (pe_call G__law_draw r__law_draw (by rfl) m__law_draw k__law_draw b__law_draw .nil pass0 (pa_cons (pv 1) (pa_cons pe_int pa_nil)))) (pa_cons (pe_lst pa_nil) pa_nil)))))
      (pss_cons (ps_set (i := 3) sc_law.nd rfl (.inl rfl) (pe_call G__law_names r__law_names (by rfl) m__law_names k__law_names b__law_names .nil pass0 (pa_cons (pv 1) (pa_cons (pe_call G__law_draw r__law_draw (by rfl) m__law_draw k__law_draw b__law_draw .nil pass0 (pa_cons (pv 1) (pa_cons pe_int pa_nil))) (pa_cons (pv 2) pa_nil)))))
      (pss_cons (ps_asg (pe_call G__law_plan r__law_plan (by rfl) m__law_plan k__law_plan b__law_plan .nil pass0 (pa_cons (pv 1) (pa_cons (pv 2) (pa_cons (pv 3) (pa_cons pe_int pa_nil))))) (k_pgTup K rfl (n := 2) rfl (pgs_cons (pg_name (i := 4) sc_law.nd rfl (.inl rfl)) (pgs_cons (pg_name (i := 5) sc_law.nd rfl (.inl rfl)) pgs_nil))))
      (pss_cons (ps_if (pt_cmpR (k_eqD K rfl (hu64 hr)) (pe_call G__law_draw r__law_draw (by rfl) m__law_draw k__law_draw b__law_draw .nil pass0 (pa_cons (pv 1) (pa_cons pe_int pa_nil))) pe_int (nomark _)) (pss_one (ps_asg (pe_call G__law_plan r__law_plan (by rfl) m__law_plan k__law_plan b__law_plan .nil pass0 (pa_cons (pv 1) (pa_cons (pv 2) (pa_cons (pv 3) (pa_cons pe_int pa_nil))))) (k_pgTup K rfl (n := 2) rfl (pgs_cons (pg_name (i := 6) sc_law.nd rfl (.inl rfl)) (pgs_cons (pg_name (i := 7) sc_law.nd rfl (.inl rfl)) pgs_nil))))) (pss_one (ps_asg (pe_call G__law_varied r__law_varied (by rfl) m__law_varied k__law_varied b__law_varied .nil pass0 (pa_cons (pv 1) (pa_cons (pv 2) (pa_cons (pv 3) (pa_cons (pv 4) (pa_cons (pv 5) pa_nil)))))) (k_pgTup K rfl (n := 2) rfl (pgs_cons (pg_name (i := 6) sc_law.nd rfl (.inl rfl)) (pgs_cons (pg_name (i := 7) sc_law.nd rfl (.inl rfl)) pgs_nil))))))
      (pss_cons (ps_set (i := 8) sc_law.nd rfl (.inl rfl) (pe_call G__law_arcs r__law_arcs (by rfl) m__law_arcs k__law_arcs b__law_arcs .nil pass0 (pa_cons (pv 2) (pa_cons (pv 3) (pa_cons (pv 4) (pa_cons (pv 5) pa_nil))))))
      (pss_cons (ps_set (i := 9) sc_law.nd rfl (.inl rfl) (pe_call G__law_arcs r__law_arcs (by rfl) m__law_arcs k__law_arcs b__law_arcs .nil pass0 (pa_cons (pv 2) (pa_cons (pv 3) (pa_cons (pv 6) (pa_cons (pv 7) pa_nil))))))
      (pss_cons (ps_set (i := 10) sc_law.nd rfl (.inl rfl) (pe_make M_Machine G_init r_init (by rfl) m_Machine b_init .nil pass0 (pa_cons (pv 2) (pa_cons (pv 3) (pa_cons (pv 8) pa_nil)))))
      (pss_cons (ps_set (i := 11) sc_law.nd rfl (.inl rfl) (pe_make M_Machine G_init r_init (by rfl) m_Machine b_init .nil pass0 (pa_cons (pv 2) (pa_cons (pv 3) (pa_cons (pv 9) pa_nil)))))
      (pss_cons (ps_for PassesOwn.never rfl (pi_range1 rfl B.range_ (pa_cons pe_int pa_nil)) (pg_name (i := 12) sc_law.nd rfl (.inl rfl))
      (pss_cons (ps_set (i := 13) sc_law.nd rfl (.inl rfl) (pe_call G__law_first_unlike r__law_first_unlike (by rfl) m__law_first_unlike k__law_first_unlike b__law_first_unlike .nil pass0 (pa_cons (pv 2) (pa_cons (pv 8) (pa_cons (pv 9) pa_nil)))))
      (pss_cons (ps_set (i := 14) sc_law.nd rfl (.inl rfl) (Bs.pe_callK0 G_does r_does (by rfl) m_does k_does kb_does pass0 (pk_cons (pv 10) (pk_cons (pv 11) pk_nil))))
      (pss_cons (ps_if (pw_or (pt_not (pt_val (pe_call G__law_same r__law_same (by rfl) m__law_same k__law_same b__law_same .nil pass0 (pa_cons (pv 14) (pa_cons (pv 13) pa_nil))))) (pw_or1 (pt_not (pt_val (pe_call G__law_judged r__law_judged (by rfl) m__law_judged k__law_judged b__law_judged .nil pass0 (pa_cons (pv 2) (pa_cons (pv 8) (pa_cons (pv 9) (pa_cons (pv 14) pa_nil))))))))).pt (pss_one (ps_ret pe_bl)) pss_nil)
      (pss_cons (ps_if (pt_cmpR op_notN (pv 14) pe_non (nomark _)) (pss_cons (ps_expr (k_bm K rfl PySem.F.plainAttrs_list PySem.F.slot_list_append PySem.F.type_list_append mt_append (pv 14) (pa_cons (pe_tup (pa_cons pe_str pa_nil)) pa_nil)))
      (pss_one (ps_if (pt_not (pt_val (pe_call G__law_same r__law_same (by rfl) m__law_same k__law_same b__law_same .nil pass0 (pa_cons (pe_call G_does r_does (by rfl) m_does k_does b_does .nil pass0 (pa_cons (pv 10) (pa_cons (pv 11) pa_nil))) (pa_cons (pv 13) pa_nil))))) (pss_one (ps_ret pe_bl)) pss_nil))) pss_nil)
      (pss_cons (ps_if (pw_and (pt_cmpR op_isN (pv 14) pe_non (nomark _)) (pw_and1 (pt_not (pt_val (pe_call G__law_followed r__law_followed (by rfl) m__law_followed k__law_followed b__law_followed .nil pass0 (pa_cons (pv 1) (pa_cons (pv 2) (pa_cons (pv 10) (pa_cons (pv 11) (pa_cons (pv 9) pa_nil)))))))))).pt (pss_one (ps_ret pe_bl)) pss_nil)
      (pss_one (ps_asg (pe_tup (pa_cons (pv 11) (pa_cons (pv 10) (pa_cons (pv 9) (pa_cons (pv 8) pa_nil))))) (k_pgTup K rfl (n := 4) rfl (pgs_cons (pg_name (i := 10) sc_law.nd rfl (.inl rfl)) (pgs_cons (pg_name (i := 11) sc_law.nd rfl (.inl rfl)) (pgs_cons (pg_name (i := 8) sc_law.nd rfl (.inl rfl)) (pgs_cons (pg_name (i := 9) sc_law.nd rfl (.inl rfl)) pgs_nil)))))))))))))
      (pss_one (ps_ret pe_bl)))))))))))), ?_⟩
    obtain ⟨a, ns, rfl, hs, tb, hq⟩ := h
    refine law_body rfl hs tb hq fun g s0 c0 hT hst => ?_
    subst hT
    refine se_seq <| se_asg <| ev_callS hst <| ea_cons <| ev_var rfl <| ea_cons <| ev_op <| ev_int <| ev_callS hst <| ea_cons <| ev_var rfl <| ea_cons <| ev_int <| ea_nil ⟨_, rfl, colds rfl, 3, rfl, by decide, by decide, fun r1 hr1 => op_i0 <| ea_cons <| ev_ofF <| ef_lst <| ea_nil ⟨[], rfl, by decide, ea_nil ⟨_, rfl, colds rfl, 1 + r1, [], ?_, by omega, by decide, fun ins il ins0 => ⟨rfl, ?_⟩⟩⟩⟩
    · rw [show ((1 + r1 : Nat) : Int) = 1 + (r1 : Int) by omega]
      rfl
    have nmi : Nms 1 ins [] := ⟨by omega, ins0.2⟩
    have i3 := nmi.2.1
    refine se_seq <| se_asg <| ev_callS hst <| ea_cons <| ev_var rfl <| ea_cons <| ev_callS hst <| ea_cons <| ev_var rfl <| ea_cons <| ev_int <| ea_nil ⟨_, rfl, colds rfl, 4, rfl, by decide, by decide, fun r2 hr2 => ea_cons <| ev_var rfl <| ea_nil ⟨_, rfl, colds rfl, r2, ins, rfl, by omega, i3, fun outs ol nmo => ⟨rfl, ?_⟩⟩⟩
    have o3 := nmo.2.1
    refine se_seq <| se_asgT <| ev_callS hst <| ea_cons <| ev_var rfl <| ea_cons <| ev_var rfl <| ea_cons <| ev_var rfl <| ea_cons <| ev_int <| ea_nil ⟨_, rfl, colds rfl, ins, outs, rfl, nmi.nok, o3, nmi.1, fun vs es hp => ⟨_, _, _, rfl, tg_tup rfl (tgs_cons tg_name <| tgs_cons tg_name tgs_nil), ?_⟩⟩
    have pf := plan_few hp
    refine se_cut (fun c' => ∃ vs2 es2, Plan ins outs vs2 es2 ∧ c' = [none, some (.ex (.ref s0)), some (.da (nmL ins)), some (.da (nmL outs)), some (.da (valsL vs)), some (.da (edgL es)), some (.da (valsL vs2)), some (.da (edgL es2)), none, none, none, none, none, none, none]) ?_ ?_
    · refine se_if <| et_test <| ev_op <| ev_callS hst <| ea_cons <| ev_var rfl <| ea_cons <| ev_int <| ea_nil ⟨_, rfl, colds rfl, 6, rfl, by decide, by decide, fun r3 hr3 => ev_int <| op_eqI ⟨_, rfl, fun _ => ?_, fun _ => ?_⟩⟩
      · exact se_asgT <| ev_callS hst <| ea_cons <| ev_var rfl <| ea_cons <| ev_var rfl <| ea_cons <| ev_var rfl <| ea_cons <| ev_int <| ea_nil ⟨_, rfl, colds rfl, ins, outs, rfl, nmi.nok, o3, nmi.1, fun vs2 es2 hp2 => ⟨_, _, _, rfl, tg_tup rfl (tgs_cons tg_name <| tgs_cons tg_name tgs_nil), vs2, es2, hp2, rfl⟩⟩
      · exact se_asgT <| ev_callS hst <| ea_cons <| ev_var rfl <| ea_cons <| ev_var rfl <| ea_cons <| ev_var rfl <| ea_cons <| ev_var rfl <| ea_cons <| ev_var rfl <| ea_nil ⟨_, rfl, colds rfl, ins, outs, vs, es, rfl, nmi.nok, o3, hp.1, pf.2, pf.1, fun vs2 es2 hp2 => ⟨_, _, _, rfl, tg_tup rfl (tgs_cons tg_name <| tgs_cons tg_name tgs_nil), vs2, es2, hp2, rfl⟩⟩
    rintro c' ⟨vs2, es2, hp2, rfl⟩
    have pf2 := plan_few hp2
    refine se_seq <| se_asg <| ev_callP <| ea_cons <| ev_var rfl <| ea_cons <| ev_var rfl <| ea_cons <| ev_var rfl <| ea_cons <| ev_var rfl <| ea_nil ⟨colds rfl, ins, outs, vs, es, rfl, i3, o3, hp.1, pf.2, rfl, ?_⟩
    refine se_seq <| se_asg <| ev_callP <| ea_cons <| ev_var rfl <| ea_cons <| ev_var rfl <| ea_cons <| ev_var rfl <| ea_cons <| ev_var rfl <| ea_nil ⟨colds rfl, ins, outs, vs2, es2, rfl, i3, o3, hp2.1, pf2.2, rfl, ?_⟩
    have hA := plan_mok nmi nmo hp
    have hB := plan_mok nmi nmo hp2
    obtain ⟨AL, eL⟩ : ∃ AL, AL = es.map (arcOf ins outs vs) := ⟨_, rfl⟩
    obtain ⟨AR, eR⟩ : ∃ AR, AR = es2.map (arcOf ins outs vs2) := ⟨_, rfl⟩
    rw [← eL] at hA ⊢
    rw [← eR] at hB ⊢
    refine se_seq <| se_asg <| ev_make <| ea_cons <| ev_var rfl <| ea_cons <| ev_var rfl <| ea_cons <| ev_var rfl <| ea_nil ⟨ins, outs, AL, rfl, hA, rfl, ?_⟩
    refine se_seq <| se_asg <| ev_make <| ea_cons <| ev_var rfl <| ea_cons <| ev_var rfl <| ea_cons <| ev_var rfl <| ea_nil ⟨ins, outs, AR, rfl, hB, rfl, ?_⟩
    refine se_seq <| se_for (fun i c' => ∃ (A1 A2 : List Arc) (x4 x5 x6 x7 x12 x13 x14 : Option Vl), Mok ins outs A1 ∧ Mok ins outs A2 ∧ c' = [none, some (.ex (.ref s0)), some (.da (nmL ins)), some (.da (nmL outs)), x4, x5, x6, x7, some (.da (arcsL A1)), some (.da (arcsL A2)), some (machV C ins outs A1), some (machV C ins outs A2), x12, x13, x14]) <| ei_rng <| ea_cons <| ev_int <| ea_nil ⟨2, rfl, by decide, ⟨AL, AR, _, _, _, _, _, _, _, hA, hB, rfl⟩, fun i d c' hd hw => ?_, fun c' hw => ?_⟩
    · obtain ⟨A1, A2, x4, x5, x6, x7, x12, x13, x14, m1, m2, rfl⟩ := hw
      have ed : d = .int (i : Int) := by
        have hi := (List.getElem?_eq_some_iff.mp hd).1
        unfold rngD at hd hi
        rw [List.getElem?_map, List.getElem?_range (by simpa using hi)] at hd
        cases hd
        rfl
      subst ed
      have S := sys_of m1 m2
      refine ⟨_, _, tg_name, se_seq <| se_asg <| ev_callP <| ea_cons <| ev_var rfl <| ea_cons <| ev_var rfl <| ea_cons <| ev_var rfl <| ea_nil ⟨colds rfl, ins, outs, A1, A2, rfl, m1, m2, rfl, ?_⟩⟩
      have hj := Bst.judge_ok S
      cases ht : Bst.told A1 (exits ins A2) with
      | none =>
        obtain ⟨Pp, hP⟩ := Bst.sim_of S ht
        rw [ht] at hj
        refine se_seq <| se_asg <| ev_callK (ea_cons <| ev_var rfl <| ea_cons <| ev_var rfl <| ea_nil ⟨colds rfl, ins, outs, A1, A2, rfl, m1, m2, (fun r h => by rw [ht] at h; cases h), fun _ => ⟨rfl, ?_⟩⟩) fun _ => rfl
        refine se_seq <| se_if <| et_or <| et_not <| et_test <| ev_callP <| ea_cons <| ev_var rfl <| ea_cons <| ev_var rfl <| ea_nil ⟨colds rfl, .none, rfl, trivial, _, rfl, nofun, fun _ => ?_⟩
        refine et_not <| et_test <| ev_callP <| ea_cons <| ev_var rfl <| ea_cons <| ev_var rfl <| ea_cons <| ev_var rfl <| ea_cons <| ev_var rfl <| ea_nil ⟨colds rfl, ins, outs, A1, A2, none, rfl, m1, m2, (fun r h => by cases h), ?_⟩
        rw [hj]
        refine ⟨_, rfl, nofun, fun _ => se_next ?_⟩
        refine se_seq <| se_if <| et_test <| ev_op <| ev_var rfl <| ev_non <| op_notN rfl ⟨_, rfl, nofun, fun _ => se_next ?_⟩
        refine se_seq <| se_if <| et_and <| et_test <| ev_op <| ev_var rfl <| ev_non <| op_isN rfl ⟨_, rfl, fun _ => ?_, nofun⟩
        refine et_not <| et_test <| ev_callS hst <| ea_cons <| ev_var rfl <| ea_cons <| ev_var rfl <| ea_cons <| ev_var rfl <| ea_cons <| ev_var rfl <| ea_cons <| ev_var rfl <| ea_nil ⟨_, rfl, colds rfl, ins, outs, A1, A2, Pp, rfl, m1, m2, hP.zero, hP, _, rfl, nofun, fun _ => se_next ?_⟩
        exact se_swap4 rfl rfl rfl rfl rfl rfl rfl rfl ⟨A2, A1, _, _, _, _, _, _, _, m2, m1, rfl⟩
      | some r =>
        have hr' := told_row m1 m2 ht
        rw [ht] at hj
        have sm : Sm 3 (rowD r) := sm_rowD nmi.nok hr'
        refine se_seq <| se_asgF <| ef_callK (ea_cons <| ev_var rfl <| ea_cons <| ev_var rfl <| ea_nil ⟨colds rfl, ins, outs, A1, A2, rfl, m1, m2, fun r' h => ?_, fun h => by rw [ht] at h; cases h⟩) fun _ => rfl
        rw [ht] at h
        cases h
        refine se_seq <| se_if <| et_or <| et_not <| et_test <| ev_callH <| ea_cons <| ev_var rfl <| ea_cons <| ev_var rfl <| ea_nil ⟨fun x hx => ?_, true, ⟨rowD r, rfl, sm, rfl⟩, _, rfl, nofun, fun _ => ?_⟩
        · simp only [List.mem_cons, List.mem_nil_iff, or_false] at hx
          rcases hx with rfl | rfl
          · exact .inr ⟨_, rfl⟩
          · exact .inl rfl
        refine et_not <| et_test <| ev_callH <| ea_cons <| ev_var rfl <| ea_cons <| ev_var rfl <| ea_cons <| ev_var rfl <| ea_cons <| ev_var rfl <| ea_nil ⟨fun x hx => ?_, true, ⟨ins, outs, A1, A2, some r, rfl, m1, m2, (fun r' h => by cases h; exact hr'), by rw [hj]⟩, _, rfl, nofun, fun _ => se_next ?_⟩
        · simp only [List.mem_cons, List.mem_nil_iff, or_false] at hx
          rcases hx with rfl | rfl | rfl | rfl
          · exact .inl rfl
          · exact .inl rfl
          · exact .inl rfl
          · exact .inr ⟨_, rfl⟩
        have cl : clean (datOf (.ac (r.map nmT))) = true := by
          have := (ok_rowD (r := r) fun b hb n hn => nmi.nok.2 n ((hr'.2 b hb).subset hn)).1
          exact this
        refine se_seq <| se_if <| et_test <| ev_op <| ev_var rfl <| ev_non <| op_notN cl ⟨_, rfl, fun _ => ?_, nofun⟩
        · refine se_seq <| se_app rfl <| ev_tup <| ea_cons <| ev_str <| ea_nil ⟨[.str "q"], rfl, by decide, _, rfl, by rw [List.length_map]; omega, ?_⟩
          refine se_if <| et_not <| et_test <| ev_callP <| ea_cons <| ev_ofF <| ef_callT <| ea_cons <| ev_var rfl <| ea_cons <| ev_var rfl <| ea_nil ⟨colds rfl, ins, outs, A1, A2, rfl, m1, m2, fun r' h => ?_, fun h => by rw [ht] at h; cases h⟩
          rw [ht] at h
          cases h
          refine ea_cons <| ev_var rfl <| ea_nil ⟨colds rfl, rowD r, rfl, sm, _, rfl, nofun, fun _ => se_next ?_⟩
          have cl2 : clean (datOf (.ac (r.map nmT ++ [.tuple [.str "q"]]))) = true := by
            have app : ∀ a b : List PyData, cleanA a = true → cleanA b = true → cleanA (a ++ b) = true := fun a b h1 h2 => by
              induction a with
              | nil => exact h2
              | cons x a ih =>
                have h3 : clean x = true ∧ cleanA a = true := by simpa [cleanA] using h1
                simp [cleanA, h3.1, ih h3.2]
            have h1 : cleanA (r.map nmT) = true := by simpa [datOf, clean] using cl
            simp [datOf, clean, app _ _ h1 (show cleanA [PyData.tuple [.str "q"]] = true from rfl)]
          refine se_seq <| se_if <| et_and <| et_test <| ev_op <| ev_var rfl <| ev_non <| op_isN cl2 ⟨_, rfl, nofun, fun _ => ?_⟩
          refine ⟨nofun, fun _ => se_next ?_⟩
          exact se_swap4 rfl rfl rfl rfl rfl rfl rfl rfl ⟨A2, A1, _, _, _, _, _, _, _, m2, m1, rfl⟩
    · obtain ⟨A1, A2, x4, x5, x6, x7, x12, x13, x14, m1, m2, rfl⟩ := hw
      exact se_ret <| ev_bl ⟨rfl, rfl⟩
end
end Bw

namespace Bw
open PySem PySem.Spec PyProof.Rows L2 Bd
/-! ### the head: what the top has written -/
def tabOK (K : PySem.W.Frag) (ts : List Addr) : Bool := match PySem.W.tabIn K "arcs_by_burst" with
  | some (c, P) => (K.lookup P).isNone && PySem.W.codeHdIn K c P && ts.contains P
  | none => false
theorem tab_ok {K : PySem.W.Frag} {ts : List Addr} (h : tabOK K ts = true) : ∃ c P, PySem.W.tabIn K "arcs_by_burst" = some (c, P) ∧ K.lookup P = none ∧ PySem.W.codeHdIn K c P = true ∧ P ∈ ts := by
  unfold tabOK at h
  split at h
  · rename_i c P e
    rw [Bool.and_eq_true, Bool.and_eq_true] at h
    exact ⟨c, P, e, by simpa using h.1.1, h.1.2, by simpa using h.2⟩
  · cases h
theorem tab_code {K : PySem.W.Frag} {x : Str} {f : Addr} {oc : Value} {od : Option Addr} {fd : FuncData} {sl : Array (Option Value)} {c P : Addr} (a : PySem.W.nsIn K mainGlobals x = some (some (.ref f))) (l : K.lookup f = some ⟨oc, od, .func fd, sl⟩) (e : PySem.W.tabIn K x = some (c, P)) : fd.code = .ref c := by
  unfold PySem.W.tabIn at e
  rw [a] at e
  dsimp only at e
  rw [l] at e
  dsimp only at e
  split at e
  · rename_i c' hc
    split at e
    · split at e
      · cases e
        exact hc
      · cases e
    · cases e
  · cases e
theorem same_base {P : Program} {w : World} {K : PySem.W.Frag} {mg : Str → Option Value} {base : Heap} {k : Nat} {f : Addr} {fd : FuncData} {ps : List Str} : FnOk P w K mg base CX0 k f fd ps (spD (preSame' 0)) := by
  have no : ∀ {vs H Q E}, spD (preSame' 0) vs H Q E → False := fun {vs H Q E} h => by
    obtain ⟨T, as, N, k, kf, _, _, _, _, _, _, hp, _⟩ := h
    exact hp
  exact ⟨fun vs H Q E h => (no h).elim, fun A outer s H args us vs Q E hr e0 hb r h => (no h).elim⟩
theorem kb_mk {K : PySem.W.Frag} {f : Addr} {fd : FuncData} (F : Fun K "does" "does" s_does f fd) : KBinds K fd ["one", "other"] ["one", "other"] gk0 gV0 := by
  obtain ⟨oc, od, kV, doc, pm, an, cdv, ct, osl, rfl, lk, hcd⟩ := F.ex
  refine ⟨fun s us ws _ hl => ?_, fun {vs us zs ws} h1 h2 => ?_⟩
  · match us, ws, hl with
    | [], [u, v], _ => exact .of_eq rfl
    | [], [], hl => cases hl
    | [], [_], hl => cases hl
    | [], _ :: _ :: _ :: _, hl => cases hl
    | _ :: _, _, hl => cases hl
  · cases h1 with
    | nil => exact h2
    | cons _ _ => exact .nil
theorem all_mk {l : PySem.W.OpenLaw} {w : World} {K : PySem.W.Frag} {h : Heap} {mg : Str → Option Value} {fa C : Addr} (X : K.In h) (G : h.Ns mainGlobals mg) (hfa : mg "law" = some (.ref fa))
    {ts : List Addr} (hts : ∀ P ∈ ts, h.get? P = some (PySem.W.tabObj #[])) (tok : tabOK K ts = true)
    {f_is_number : Addr} {od_is_number an_is_number : Option Addr} {sl_is_number : Array (Option Value)} {oc_is_number kV_is_number dc_is_number pm_is_number cd_is_number ct_is_number : Value}
    {f_is_name : Addr} {od_is_name an_is_name : Option Addr} {sl_is_name : Array (Option Value)} {oc_is_name kV_is_name dc_is_name pm_is_name cd_is_name ct_is_name : Value}
    {f_wrong_name : Addr} {od_wrong_name an_wrong_name : Option Addr} {sl_wrong_name : Array (Option Value)} {oc_wrong_name kV_wrong_name dc_wrong_name pm_wrong_name cd_wrong_name ct_wrong_name : Value}
    {f_are_some : Addr} {od_are_some an_are_some : Option Addr} {sl_are_some : Array (Option Value)} {oc_are_some kV_are_some dc_are_some pm_are_some cd_are_some ct_are_some : Value}
    {f_is_arc : Addr} {od_is_arc an_is_arc : Option Addr} {sl_is_arc : Array (Option Value)} {oc_is_arc kV_is_arc dc_is_arc pm_is_arc cd_is_arc ct_is_arc : Value}
    {f_in_order : Addr} {od_in_order an_in_order : Option Addr} {sl_in_order : Array (Option Value)} {oc_in_order kV_in_order dc_in_order pm_in_order cd_in_order ct_in_order : Value}
    {f_Machine_init : Addr} {od_Machine_init an_Machine_init : Option Addr} {sl_Machine_init : Array (Option Value)} {oc_Machine_init kV_Machine_init dc_Machine_init pm_Machine_init cd_Machine_init ct_Machine_init : Value}
    {f_turned : Addr} {od_turned an_turned : Option Addr} {sl_turned : Array (Option Value)} {oc_turned kV_turned dc_turned pm_turned cd_turned ct_turned : Value}
    {f_arcs_of : Addr} {od_arcs_of an_arcs_of : Option Addr} {sl_arcs_of : Array (Option Value)} {oc_arcs_of kV_arcs_of dc_arcs_of pm_arcs_of cd_arcs_of ct_arcs_of : Value}
    {f_within_fault : Addr} {od_within_fault an_within_fault : Option Addr} {sl_within_fault : Array (Option Value)} {oc_within_fault kV_within_fault dc_within_fault pm_within_fault cd_within_fault ct_within_fault : Value}
    {f_walked : Addr} {od_walked an_walked : Option Addr} {sl_walked : Array (Option Value)} {oc_walked kV_walked dc_walked pm_walked cd_walked ct_walked : Value}
    {f_fault : Addr} {od_fault an_fault : Option Addr} {sl_fault : Array (Option Value)} {oc_fault kV_fault dc_fault pm_fault cd_fault ct_fault : Value}
    {f_need_sound : Addr} {od_need_sound an_need_sound : Option Addr} {sl_need_sound : Array (Option Value)} {oc_need_sound kV_need_sound dc_need_sound pm_need_sound cd_need_sound ct_need_sound : Value}
    {f_bursts_of : Addr} {od_bursts_of an_bursts_of : Option Addr} {sl_bursts_of : Array (Option Value)} {oc_bursts_of kV_bursts_of dc_bursts_of pm_bursts_of cd_bursts_of ct_bursts_of : Value}
    {f_is_part : Addr} {od_is_part an_is_part : Option Addr} {sl_is_part : Array (Option Value)} {oc_is_part kV_is_part dc_is_part pm_is_part cd_is_part ct_is_part : Value}
    {f_fed : Addr} {od_fed an_fed : Option Addr} {sl_fed : Array (Option Value)} {oc_fed kV_fed dc_fed pm_fed cd_fed ct_fed : Value}
    {f_follow : Addr} {od_follow an_follow : Option Addr} {sl_follow : Array (Option Value)} {oc_follow kV_follow dc_follow pm_follow cd_follow ct_follow : Value}
    {f_positions : Addr} {od_positions an_positions : Option Addr} {sl_positions : Array (Option Value)} {oc_positions kV_positions dc_positions pm_positions cd_positions ct_positions : Value}
    {f_arcs_by_burst : Addr} {od_arcs_by_burst an_arcs_by_burst : Option Addr} {sl_arcs_by_burst : Array (Option Value)} {oc_arcs_by_burst kV_arcs_by_burst dc_arcs_by_burst pm_arcs_by_burst cd_arcs_by_burst ct_arcs_by_burst : Value}
    {f_does : Addr} {od_does an_does : Option Addr} {sl_does : Array (Option Value)} {oc_does kV_does dc_does pm_does cd_does ct_does : Value}
    {f_l_start : Addr} {od_l_start an_l_start : Option Addr} {sl_l_start : Array (Option Value)} {oc_l_start kV_l_start dc_l_start pm_l_start cd_l_start ct_l_start : Value}
    {f_l_draw : Addr} {od_l_draw an_l_draw : Option Addr} {sl_l_draw : Array (Option Value)} {oc_l_draw kV_l_draw dc_l_draw pm_l_draw cd_l_draw ct_l_draw : Value}
    {f_l_shuffled : Addr} {od_l_shuffled an_l_shuffled : Option Addr} {sl_l_shuffled : Array (Option Value)} {oc_l_shuffled kV_l_shuffled dc_l_shuffled pm_l_shuffled cd_l_shuffled ct_l_shuffled : Value}
    {f_l_name : Addr} {od_l_name an_l_name : Option Addr} {sl_l_name : Array (Option Value)} {oc_l_name kV_l_name dc_l_name pm_l_name cd_l_name ct_l_name : Value}
    {f_l_names : Addr} {od_l_names an_l_names : Option Addr} {sl_l_names : Array (Option Value)} {oc_l_names kV_l_names dc_l_names pm_l_names cd_l_names ct_l_names : Value}
    {f_l_within : Addr} {od_l_within an_l_within : Option Addr} {sl_l_within : Array (Option Value)} {oc_l_within kV_l_within dc_l_within pm_l_within cd_l_within ct_l_within : Value}
    {f_l_bits : Addr} {od_l_bits an_l_bits : Option Addr} {sl_l_bits : Array (Option Value)} {oc_l_bits kV_l_bits dc_l_bits pm_l_bits cd_l_bits ct_l_bits : Value}
    {f_l_differ : Addr} {od_l_differ an_l_differ : Option Addr} {sl_l_differ : Array (Option Value)} {oc_l_differ kV_l_differ dc_l_differ pm_l_differ cd_l_differ ct_l_differ : Value}
    {f_l_edge : Addr} {od_l_edge an_l_edge : Option Addr} {sl_l_edge : Array (Option Value)} {oc_l_edge kV_l_edge dc_l_edge pm_l_edge cd_l_edge ct_l_edge : Value}
    {f_l_rebuilt : Addr} {od_l_rebuilt an_l_rebuilt : Option Addr} {sl_l_rebuilt : Array (Option Value)} {oc_l_rebuilt kV_l_rebuilt dc_l_rebuilt pm_l_rebuilt cd_l_rebuilt ct_l_rebuilt : Value}
    {f_l_plan : Addr} {od_l_plan an_l_plan : Option Addr} {sl_l_plan : Array (Option Value)} {oc_l_plan kV_l_plan dc_l_plan pm_l_plan cd_l_plan ct_l_plan : Value}
    {f_l_arcs : Addr} {od_l_arcs an_l_arcs : Option Addr} {sl_l_arcs : Array (Option Value)} {oc_l_arcs kV_l_arcs dc_l_arcs pm_l_arcs cd_l_arcs ct_l_arcs : Value}
    {f_l_doubled : Addr} {od_l_doubled an_l_doubled : Option Addr} {sl_l_doubled : Array (Option Value)} {oc_l_doubled kV_l_doubled dc_l_doubled pm_l_doubled cd_l_doubled ct_l_doubled : Value}
    {f_l_renumbered : Addr} {od_l_renumbered an_l_renumbered : Option Addr} {sl_l_renumbered : Array (Option Value)} {oc_l_renumbered kV_l_renumbered dc_l_renumbered pm_l_renumbered cd_l_renumbered ct_l_renumbered : Value}
    {f_l_varied : Addr} {od_l_varied an_l_varied : Option Addr} {sl_l_varied : Array (Option Value)} {oc_l_varied kV_l_varied dc_l_varied pm_l_varied cd_l_varied ct_l_varied : Value}
    {f_l_go : Addr} {od_l_go an_l_go : Option Addr} {sl_l_go : Array (Option Value)} {oc_l_go kV_l_go dc_l_go pm_l_go cd_l_go ct_l_go : Value}
    {f_l_same : Addr} {od_l_same an_l_same : Option Addr} {sl_l_same : Array (Option Value)} {oc_l_same kV_l_same dc_l_same pm_l_same cd_l_same ct_l_same : Value}
    {f_l_exits : Addr} {od_l_exits an_l_exits : Option Addr} {sl_l_exits : Array (Option Value)} {oc_l_exits kV_l_exits dc_l_exits pm_l_exits cd_l_exits ct_l_exits : Value}
    {f_l_first_unlike : Addr} {od_l_first_unlike an_l_first_unlike : Option Addr} {sl_l_first_unlike : Array (Option Value)} {oc_l_first_unlike kV_l_first_unlike dc_l_first_unlike pm_l_first_unlike cd_l_first_unlike ct_l_first_unlike : Value}
    {f_l_answers : Addr} {od_l_answers an_l_answers : Option Addr} {sl_l_answers : Array (Option Value)} {oc_l_answers kV_l_answers dc_l_answers pm_l_answers cd_l_answers ct_l_answers : Value}
    {f_l_rows : Addr} {od_l_rows an_l_rows : Option Addr} {sl_l_rows : Array (Option Value)} {oc_l_rows kV_l_rows dc_l_rows pm_l_rows cd_l_rows ct_l_rows : Value}
    {f_l_judged : Addr} {od_l_judged an_l_judged : Option Addr} {sl_l_judged : Array (Option Value)} {oc_l_judged kV_l_judged dc_l_judged pm_l_judged cd_l_judged ct_l_judged : Value}
    {f_l_followed : Addr} {od_l_followed an_l_followed : Option Addr} {sl_l_followed : Array (Option Value)} {oc_l_followed kV_l_followed dc_l_followed pm_l_followed cd_l_followed ct_l_followed : Value}
    {f_law : Addr} {od_law an_law : Option Addr} {sl_law : Array (Option Value)} {oc_law kV_law dc_law pm_law cd_law ct_law : Value}
    {t_FIRST : Tok}
    {t_DIGITS : Tok}
    {t_MOST_SIGNS : Tok}
    {t_MOST_NAMES : Tok}
    {t_MOST_ARCS : Tok}
    {t_LAST_STATE : Tok}
    (aC : PySem.W.nsIn K mainGlobals "Machine" = some (some (.ref C)))
    (a_is_number : PySem.W.nsIn K mainGlobals "is_number" = some (some (.ref f_is_number)))
    (l_is_number : K.lookup f_is_number = some ⟨oc_is_number, od_is_number, .func (PySem.W.fnOf "is_number" "is_number" (defArgs s_is_number) (defBody s_is_number) (defScope s_is_number) .none kV_is_number dc_is_number pm_is_number an_is_number cd_is_number ct_is_number), sl_is_number⟩)
    (c_is_number : PySem.W.codeIn K cd_is_number "is_number" = true)
    (k_is_number : PySem.W.keepIn K (.ref f_is_number) = true)
    (a_is_name : PySem.W.nsIn K mainGlobals "is_name" = some (some (.ref f_is_name)))
    (l_is_name : K.lookup f_is_name = some ⟨oc_is_name, od_is_name, .func (PySem.W.fnOf "is_name" "is_name" (defArgs s_is_name) (defBody s_is_name) (defScope s_is_name) .none kV_is_name dc_is_name pm_is_name an_is_name cd_is_name ct_is_name), sl_is_name⟩)
    (c_is_name : PySem.W.codeIn K cd_is_name "is_name" = true)
    (k_is_name : PySem.W.keepIn K (.ref f_is_name) = true)
    (a_wrong_name : PySem.W.nsIn K mainGlobals "wrong_name" = some (some (.ref f_wrong_name)))
    (l_wrong_name : K.lookup f_wrong_name = some ⟨oc_wrong_name, od_wrong_name, .func (PySem.W.fnOf "wrong_name" "wrong_name" (defArgs s_wrong_name) (defBody s_wrong_name) (defScope s_wrong_name) .none kV_wrong_name dc_wrong_name pm_wrong_name an_wrong_name cd_wrong_name ct_wrong_name), sl_wrong_name⟩)
    (c_wrong_name : PySem.W.codeIn K cd_wrong_name "wrong_name" = true)
    (k_wrong_name : PySem.W.keepIn K (.ref f_wrong_name) = true)
    (a_are_some : PySem.W.nsIn K mainGlobals "are_some" = some (some (.ref f_are_some)))
    (l_are_some : K.lookup f_are_some = some ⟨oc_are_some, od_are_some, .func (PySem.W.fnOf "are_some" "are_some" (defArgs s_are_some) (defBody s_are_some) (defScope s_are_some) .none kV_are_some dc_are_some pm_are_some an_are_some cd_are_some ct_are_some), sl_are_some⟩)
    (c_are_some : PySem.W.codeIn K cd_are_some "are_some" = true)
    (k_are_some : PySem.W.keepIn K (.ref f_are_some) = true)
    (a_is_arc : PySem.W.nsIn K mainGlobals "is_arc" = some (some (.ref f_is_arc)))
    (l_is_arc : K.lookup f_is_arc = some ⟨oc_is_arc, od_is_arc, .func (PySem.W.fnOf "is_arc" "is_arc" (defArgs s_is_arc) (defBody s_is_arc) (defScope s_is_arc) .none kV_is_arc dc_is_arc pm_is_arc an_is_arc cd_is_arc ct_is_arc), sl_is_arc⟩)
    (c_is_arc : PySem.W.codeIn K cd_is_arc "is_arc" = true)
    (k_is_arc : PySem.W.keepIn K (.ref f_is_arc) = true)
    (a_in_order : PySem.W.nsIn K mainGlobals "in_order" = some (some (.ref f_in_order)))
    (l_in_order : K.lookup f_in_order = some ⟨oc_in_order, od_in_order, .func (PySem.W.fnOf "in_order" "in_order" (defArgs s_in_order) (defBody s_in_order) (defScope s_in_order) .none kV_in_order dc_in_order pm_in_order an_in_order cd_in_order ct_in_order), sl_in_order⟩)
    (c_in_order : PySem.W.codeIn K cd_in_order "in_order" = true)
    (k_in_order : PySem.W.keepIn K (.ref f_in_order) = true)
    (a_Machine_init : PySem.W.findIn K (.ref C) "__init__" = some (some (.ref f_Machine_init)))
    (i_Machine_init : PySem.W.isFn K (.ref f_Machine_init) = true)
    (l_Machine_init : K.lookup f_Machine_init = some ⟨oc_Machine_init, od_Machine_init, .func (PySem.W.fnOf "__init__" "Machine.__init__" (defArgs s_Machine_init) (defBody s_Machine_init) (defScope s_Machine_init) .none kV_Machine_init dc_Machine_init pm_Machine_init an_Machine_init cd_Machine_init ct_Machine_init), sl_Machine_init⟩)
    (c_Machine_init : PySem.W.codeIn K cd_Machine_init "Machine.__init__" = true)
    (k_Machine_init : PySem.W.keepIn K (.ref f_Machine_init) = true)
    (a_turned : PySem.W.nsIn K mainGlobals "turned" = some (some (.ref f_turned)))
    (l_turned : K.lookup f_turned = some ⟨oc_turned, od_turned, .func (PySem.W.fnOf "turned" "turned" (defArgs s_turned) (defBody s_turned) (defScope s_turned) .none kV_turned dc_turned pm_turned an_turned cd_turned ct_turned), sl_turned⟩)
    (c_turned : PySem.W.codeIn K cd_turned "turned" = true)
    (k_turned : PySem.W.keepIn K (.ref f_turned) = true)
    (a_arcs_of : PySem.W.nsIn K mainGlobals "arcs_of" = some (some (.ref f_arcs_of)))
    (l_arcs_of : K.lookup f_arcs_of = some ⟨oc_arcs_of, od_arcs_of, .func (PySem.W.fnOf "arcs_of" "arcs_of" (defArgs s_arcs_of) (defBody s_arcs_of) (defScope s_arcs_of) .none kV_arcs_of dc_arcs_of pm_arcs_of an_arcs_of cd_arcs_of ct_arcs_of), sl_arcs_of⟩)
    (c_arcs_of : PySem.W.codeIn K cd_arcs_of "arcs_of" = true)
    (k_arcs_of : PySem.W.keepIn K (.ref f_arcs_of) = true)
    (a_within_fault : PySem.W.nsIn K mainGlobals "within_fault" = some (some (.ref f_within_fault)))
    (l_within_fault : K.lookup f_within_fault = some ⟨oc_within_fault, od_within_fault, .func (PySem.W.fnOf "within_fault" "within_fault" (defArgs s_within_fault) (defBody s_within_fault) (defScope s_within_fault) .none kV_within_fault dc_within_fault pm_within_fault an_within_fault cd_within_fault ct_within_fault), sl_within_fault⟩)
    (c_within_fault : PySem.W.codeIn K cd_within_fault "within_fault" = true)
    (k_within_fault : PySem.W.keepIn K (.ref f_within_fault) = true)
    (a_walked : PySem.W.nsIn K mainGlobals "walked" = some (some (.ref f_walked)))
    (l_walked : K.lookup f_walked = some ⟨oc_walked, od_walked, .func (PySem.W.fnOf "walked" "walked" (defArgs s_walked) (defBody s_walked) (defScope s_walked) .none kV_walked dc_walked pm_walked an_walked cd_walked ct_walked), sl_walked⟩)
    (c_walked : PySem.W.codeIn K cd_walked "walked" = true)
    (k_walked : PySem.W.keepIn K (.ref f_walked) = true)
    (a_fault : PySem.W.nsIn K mainGlobals "fault" = some (some (.ref f_fault)))
    (l_fault : K.lookup f_fault = some ⟨oc_fault, od_fault, .func (PySem.W.fnOf "fault" "fault" (defArgs s_fault) (defBody s_fault) (defScope s_fault) .none kV_fault dc_fault pm_fault an_fault cd_fault ct_fault), sl_fault⟩)
    (c_fault : PySem.W.codeIn K cd_fault "fault" = true)
    (k_fault : PySem.W.keepIn K (.ref f_fault) = true)
    (a_need_sound : PySem.W.nsIn K mainGlobals "need_sound" = some (some (.ref f_need_sound)))
    (l_need_sound : K.lookup f_need_sound = some ⟨oc_need_sound, od_need_sound, .func (PySem.W.fnOf "need_sound" "need_sound" (defArgs s_need_sound) (defBody s_need_sound) (defScope s_need_sound) .none kV_need_sound dc_need_sound pm_need_sound an_need_sound cd_need_sound ct_need_sound), sl_need_sound⟩)
    (c_need_sound : PySem.W.codeIn K cd_need_sound "need_sound" = true)
    (k_need_sound : PySem.W.keepIn K (.ref f_need_sound) = true)
    (a_bursts_of : PySem.W.nsIn K mainGlobals "bursts_of" = some (some (.ref f_bursts_of)))
    (l_bursts_of : K.lookup f_bursts_of = some ⟨oc_bursts_of, od_bursts_of, .func (PySem.W.fnOf "bursts_of" "bursts_of" (defArgs s_bursts_of) (defBody s_bursts_of) (defScope s_bursts_of) .none kV_bursts_of dc_bursts_of pm_bursts_of an_bursts_of cd_bursts_of ct_bursts_of), sl_bursts_of⟩)
    (c_bursts_of : PySem.W.codeIn K cd_bursts_of "bursts_of" = true)
    (k_bursts_of : PySem.W.keepIn K (.ref f_bursts_of) = true)
    (a_is_part : PySem.W.nsIn K mainGlobals "is_part" = some (some (.ref f_is_part)))
    (l_is_part : K.lookup f_is_part = some ⟨oc_is_part, od_is_part, .func (PySem.W.fnOf "is_part" "is_part" (defArgs s_is_part) (defBody s_is_part) (defScope s_is_part) .none kV_is_part dc_is_part pm_is_part an_is_part cd_is_part ct_is_part), sl_is_part⟩)
    (c_is_part : PySem.W.codeIn K cd_is_part "is_part" = true)
    (k_is_part : PySem.W.keepIn K (.ref f_is_part) = true)
    (a_fed : PySem.W.nsIn K mainGlobals "fed" = some (some (.ref f_fed)))
    (l_fed : K.lookup f_fed = some ⟨oc_fed, od_fed, .func (PySem.W.fnOf "fed" "fed" (defArgs s_fed) (defBody s_fed) (defScope s_fed) .none kV_fed dc_fed pm_fed an_fed cd_fed ct_fed), sl_fed⟩)
    (c_fed : PySem.W.codeIn K cd_fed "fed" = true)
    (k_fed : PySem.W.keepIn K (.ref f_fed) = true)
    (a_follow : PySem.W.nsIn K mainGlobals "follow" = some (some (.ref f_follow)))
    (l_follow : K.lookup f_follow = some ⟨oc_follow, od_follow, .func (PySem.W.fnOf "follow" "follow" (defArgs s_follow) (defBody s_follow) (defScope s_follow) .none kV_follow dc_follow pm_follow an_follow cd_follow ct_follow), sl_follow⟩)
    (c_follow : PySem.W.codeIn K cd_follow "follow" = true)
    (k_follow : PySem.W.keepIn K (.ref f_follow) = true)
    (a_positions : PySem.W.nsIn K mainGlobals "positions" = some (some (.ref f_positions)))
    (l_positions : K.lookup f_positions = some ⟨oc_positions, od_positions, .func (PySem.W.fnOf "positions" "positions" (defArgs s_positions) (defBody s_positions) (defScope s_positions) .none kV_positions dc_positions pm_positions an_positions cd_positions ct_positions), sl_positions⟩)
    (c_positions : PySem.W.codeIn K cd_positions "positions" = true)
    (k_positions : PySem.W.keepIn K (.ref f_positions) = true)
    (a_arcs_by_burst : PySem.W.nsIn K mainGlobals "arcs_by_burst" = some (some (.ref f_arcs_by_burst)))
    (l_arcs_by_burst : K.lookup f_arcs_by_burst = some ⟨oc_arcs_by_burst, od_arcs_by_burst, .func (PySem.W.fnOf "arcs_by_burst" "arcs_by_burst" (defArgs s_arcs_by_burst) (defBody s_arcs_by_burst) (defScope s_arcs_by_burst) .none kV_arcs_by_burst dc_arcs_by_burst pm_arcs_by_burst an_arcs_by_burst cd_arcs_by_burst ct_arcs_by_burst), sl_arcs_by_burst⟩)
    (c_arcs_by_burst : PySem.W.codeIn K cd_arcs_by_burst "arcs_by_burst" = true)
    (k_arcs_by_burst : PySem.W.keepIn K (.ref f_arcs_by_burst) = true)
    (a_does : PySem.W.nsIn K mainGlobals "does" = some (some (.ref f_does)))
    (l_does : K.lookup f_does = some ⟨oc_does, od_does, .func (PySem.W.fnOf "does" "does" (defArgs s_does) (defBody s_does) (defScope s_does) .none kV_does dc_does pm_does an_does cd_does ct_does), sl_does⟩)
    (c_does : PySem.W.codeIn K cd_does "does" = true)
    (k_does : PySem.W.keepIn K (.ref f_does) = true)
    (a_l_start : PySem.W.nsIn K mainGlobals "_law_start" = some (some (.ref f_l_start)))
    (l_l_start : K.lookup f_l_start = some ⟨oc_l_start, od_l_start, .func (PySem.W.fnOf "_law_start" "_law_start" (defArgs s_l_start) (defBody s_l_start) (defScope s_l_start) .none kV_l_start dc_l_start pm_l_start an_l_start cd_l_start ct_l_start), sl_l_start⟩)
    (c_l_start : PySem.W.codeIn K cd_l_start "_law_start" = true)
    (k_l_start : PySem.W.keepIn K (.ref f_l_start) = true)
    (a_l_draw : PySem.W.nsIn K mainGlobals "_law_draw" = some (some (.ref f_l_draw)))
    (l_l_draw : K.lookup f_l_draw = some ⟨oc_l_draw, od_l_draw, .func (PySem.W.fnOf "_law_draw" "_law_draw" (defArgs s_l_draw) (defBody s_l_draw) (defScope s_l_draw) .none kV_l_draw dc_l_draw pm_l_draw an_l_draw cd_l_draw ct_l_draw), sl_l_draw⟩)
    (c_l_draw : PySem.W.codeIn K cd_l_draw "_law_draw" = true)
    (k_l_draw : PySem.W.keepIn K (.ref f_l_draw) = true)
    (a_l_shuffled : PySem.W.nsIn K mainGlobals "_law_shuffled" = some (some (.ref f_l_shuffled)))
    (l_l_shuffled : K.lookup f_l_shuffled = some ⟨oc_l_shuffled, od_l_shuffled, .func (PySem.W.fnOf "_law_shuffled" "_law_shuffled" (defArgs s_l_shuffled) (defBody s_l_shuffled) (defScope s_l_shuffled) .none kV_l_shuffled dc_l_shuffled pm_l_shuffled an_l_shuffled cd_l_shuffled ct_l_shuffled), sl_l_shuffled⟩)
    (c_l_shuffled : PySem.W.codeIn K cd_l_shuffled "_law_shuffled" = true)
    (k_l_shuffled : PySem.W.keepIn K (.ref f_l_shuffled) = true)
    (a_l_name : PySem.W.nsIn K mainGlobals "_law_name" = some (some (.ref f_l_name)))
    (l_l_name : K.lookup f_l_name = some ⟨oc_l_name, od_l_name, .func (PySem.W.fnOf "_law_name" "_law_name" (defArgs s_l_name) (defBody s_l_name) (defScope s_l_name) .none kV_l_name dc_l_name pm_l_name an_l_name cd_l_name ct_l_name), sl_l_name⟩)
    (c_l_name : PySem.W.codeIn K cd_l_name "_law_name" = true)
    (k_l_name : PySem.W.keepIn K (.ref f_l_name) = true)
    (a_l_names : PySem.W.nsIn K mainGlobals "_law_names" = some (some (.ref f_l_names)))
    (l_l_names : K.lookup f_l_names = some ⟨oc_l_names, od_l_names, .func (PySem.W.fnOf "_law_names" "_law_names" (defArgs s_l_names) (defBody s_l_names) (defScope s_l_names) .none kV_l_names dc_l_names pm_l_names an_l_names cd_l_names ct_l_names), sl_l_names⟩)
    (c_l_names : PySem.W.codeIn K cd_l_names "_law_names" = true)
    (k_l_names : PySem.W.keepIn K (.ref f_l_names) = true)
    (a_l_within : PySem.W.nsIn K mainGlobals "_law_within" = some (some (.ref f_l_within)))
    (l_l_within : K.lookup f_l_within = some ⟨oc_l_within, od_l_within, .func (PySem.W.fnOf "_law_within" "_law_within" (defArgs s_l_within) (defBody s_l_within) (defScope s_l_within) .none kV_l_within dc_l_within pm_l_within an_l_within cd_l_within ct_l_within), sl_l_within⟩)
    (c_l_within : PySem.W.codeIn K cd_l_within "_law_within" = true)
    (k_l_within : PySem.W.keepIn K (.ref f_l_within) = true)
    (a_l_bits : PySem.W.nsIn K mainGlobals "_law_bits" = some (some (.ref f_l_bits)))
    (l_l_bits : K.lookup f_l_bits = some ⟨oc_l_bits, od_l_bits, .func (PySem.W.fnOf "_law_bits" "_law_bits" (defArgs s_l_bits) (defBody s_l_bits) (defScope s_l_bits) .none kV_l_bits dc_l_bits pm_l_bits an_l_bits cd_l_bits ct_l_bits), sl_l_bits⟩)
    (c_l_bits : PySem.W.codeIn K cd_l_bits "_law_bits" = true)
    (k_l_bits : PySem.W.keepIn K (.ref f_l_bits) = true)
    (a_l_differ : PySem.W.nsIn K mainGlobals "_law_differ" = some (some (.ref f_l_differ)))
    (l_l_differ : K.lookup f_l_differ = some ⟨oc_l_differ, od_l_differ, .func (PySem.W.fnOf "_law_differ" "_law_differ" (defArgs s_l_differ) (defBody s_l_differ) (defScope s_l_differ) .none kV_l_differ dc_l_differ pm_l_differ an_l_differ cd_l_differ ct_l_differ), sl_l_differ⟩)
    (c_l_differ : PySem.W.codeIn K cd_l_differ "_law_differ" = true)
    (k_l_differ : PySem.W.keepIn K (.ref f_l_differ) = true)
    (a_l_edge : PySem.W.nsIn K mainGlobals "_law_edge" = some (some (.ref f_l_edge)))
    (l_l_edge : K.lookup f_l_edge = some ⟨oc_l_edge, od_l_edge, .func (PySem.W.fnOf "_law_edge" "_law_edge" (defArgs s_l_edge) (defBody s_l_edge) (defScope s_l_edge) .none kV_l_edge dc_l_edge pm_l_edge an_l_edge cd_l_edge ct_l_edge), sl_l_edge⟩)
    (c_l_edge : PySem.W.codeIn K cd_l_edge "_law_edge" = true)
    (k_l_edge : PySem.W.keepIn K (.ref f_l_edge) = true)
    (a_l_rebuilt : PySem.W.nsIn K mainGlobals "_law_rebuilt" = some (some (.ref f_l_rebuilt)))
    (l_l_rebuilt : K.lookup f_l_rebuilt = some ⟨oc_l_rebuilt, od_l_rebuilt, .func (PySem.W.fnOf "_law_rebuilt" "_law_rebuilt" (defArgs s_l_rebuilt) (defBody s_l_rebuilt) (defScope s_l_rebuilt) .none kV_l_rebuilt dc_l_rebuilt pm_l_rebuilt an_l_rebuilt cd_l_rebuilt ct_l_rebuilt), sl_l_rebuilt⟩)
    (c_l_rebuilt : PySem.W.codeIn K cd_l_rebuilt "_law_rebuilt" = true)
    (k_l_rebuilt : PySem.W.keepIn K (.ref f_l_rebuilt) = true)
    (a_l_plan : PySem.W.nsIn K mainGlobals "_law_plan" = some (some (.ref f_l_plan)))
    (l_l_plan : K.lookup f_l_plan = some ⟨oc_l_plan, od_l_plan, .func (PySem.W.fnOf "_law_plan" "_law_plan" (defArgs s_l_plan) (defBody s_l_plan) (defScope s_l_plan) .none kV_l_plan dc_l_plan pm_l_plan an_l_plan cd_l_plan ct_l_plan), sl_l_plan⟩)
    (c_l_plan : PySem.W.codeIn K cd_l_plan "_law_plan" = true)
    (k_l_plan : PySem.W.keepIn K (.ref f_l_plan) = true)
    (a_l_arcs : PySem.W.nsIn K mainGlobals "_law_arcs" = some (some (.ref f_l_arcs)))
    (l_l_arcs : K.lookup f_l_arcs = some ⟨oc_l_arcs, od_l_arcs, .func (PySem.W.fnOf "_law_arcs" "_law_arcs" (defArgs s_l_arcs) (defBody s_l_arcs) (defScope s_l_arcs) .none kV_l_arcs dc_l_arcs pm_l_arcs an_l_arcs cd_l_arcs ct_l_arcs), sl_l_arcs⟩)
    (c_l_arcs : PySem.W.codeIn K cd_l_arcs "_law_arcs" = true)
    (k_l_arcs : PySem.W.keepIn K (.ref f_l_arcs) = true)
    (a_l_doubled : PySem.W.nsIn K mainGlobals "_law_doubled" = some (some (.ref f_l_doubled)))
    (l_l_doubled : K.lookup f_l_doubled = some ⟨oc_l_doubled, od_l_doubled, .func (PySem.W.fnOf "_law_doubled" "_law_doubled" (defArgs s_l_doubled) (defBody s_l_doubled) (defScope s_l_doubled) .none kV_l_doubled dc_l_doubled pm_l_doubled an_l_doubled cd_l_doubled ct_l_doubled), sl_l_doubled⟩)
    (c_l_doubled : PySem.W.codeIn K cd_l_doubled "_law_doubled" = true)
    (k_l_doubled : PySem.W.keepIn K (.ref f_l_doubled) = true)
    (a_l_renumbered : PySem.W.nsIn K mainGlobals "_law_renumbered" = some (some (.ref f_l_renumbered)))
    (l_l_renumbered : K.lookup f_l_renumbered = some ⟨oc_l_renumbered, od_l_renumbered, .func (PySem.W.fnOf "_law_renumbered" "_law_renumbered" (defArgs s_l_renumbered) (defBody s_l_renumbered) (defScope s_l_renumbered) .none kV_l_renumbered dc_l_renumbered pm_l_renumbered an_l_renumbered cd_l_renumbered ct_l_renumbered), sl_l_renumbered⟩)
    (c_l_renumbered : PySem.W.codeIn K cd_l_renumbered "_law_renumbered" = true)
    (k_l_renumbered : PySem.W.keepIn K (.ref f_l_renumbered) = true)
    (a_l_varied : PySem.W.nsIn K mainGlobals "_law_varied" = some (some (.ref f_l_varied)))
    (l_l_varied : K.lookup f_l_varied = some ⟨oc_l_varied, od_l_varied, .func (PySem.W.fnOf "_law_varied" "_law_varied" (defArgs s_l_varied) (defBody s_l_varied) (defScope s_l_varied) .none kV_l_varied dc_l_varied pm_l_varied an_l_varied cd_l_varied ct_l_varied), sl_l_varied⟩)
    (c_l_varied : PySem.W.codeIn K cd_l_varied "_law_varied" = true)
    (k_l_varied : PySem.W.keepIn K (.ref f_l_varied) = true)
    (a_l_go : PySem.W.nsIn K mainGlobals "_law_go" = some (some (.ref f_l_go)))
    (l_l_go : K.lookup f_l_go = some ⟨oc_l_go, od_l_go, .func (PySem.W.fnOf "_law_go" "_law_go" (defArgs s_l_go) (defBody s_l_go) (defScope s_l_go) .none kV_l_go dc_l_go pm_l_go an_l_go cd_l_go ct_l_go), sl_l_go⟩)
    (c_l_go : PySem.W.codeIn K cd_l_go "_law_go" = true)
    (k_l_go : PySem.W.keepIn K (.ref f_l_go) = true)
    (a_l_same : PySem.W.nsIn K mainGlobals "_law_same" = some (some (.ref f_l_same)))
    (l_l_same : K.lookup f_l_same = some ⟨oc_l_same, od_l_same, .func (PySem.W.fnOf "_law_same" "_law_same" (defArgs s_l_same) (defBody s_l_same) (defScope s_l_same) .none kV_l_same dc_l_same pm_l_same an_l_same cd_l_same ct_l_same), sl_l_same⟩)
    (c_l_same : PySem.W.codeIn K cd_l_same "_law_same" = true)
    (k_l_same : PySem.W.keepIn K (.ref f_l_same) = true)
    (a_l_exits : PySem.W.nsIn K mainGlobals "_law_exits" = some (some (.ref f_l_exits)))
    (l_l_exits : K.lookup f_l_exits = some ⟨oc_l_exits, od_l_exits, .func (PySem.W.fnOf "_law_exits" "_law_exits" (defArgs s_l_exits) (defBody s_l_exits) (defScope s_l_exits) .none kV_l_exits dc_l_exits pm_l_exits an_l_exits cd_l_exits ct_l_exits), sl_l_exits⟩)
    (c_l_exits : PySem.W.codeIn K cd_l_exits "_law_exits" = true)
    (k_l_exits : PySem.W.keepIn K (.ref f_l_exits) = true)
    (a_l_first_unlike : PySem.W.nsIn K mainGlobals "_law_first_unlike" = some (some (.ref f_l_first_unlike)))
    (l_l_first_unlike : K.lookup f_l_first_unlike = some ⟨oc_l_first_unlike, od_l_first_unlike, .func (PySem.W.fnOf "_law_first_unlike" "_law_first_unlike" (defArgs s_l_first_unlike) (defBody s_l_first_unlike) (defScope s_l_first_unlike) .none kV_l_first_unlike dc_l_first_unlike pm_l_first_unlike an_l_first_unlike cd_l_first_unlike ct_l_first_unlike), sl_l_first_unlike⟩)
    (c_l_first_unlike : PySem.W.codeIn K cd_l_first_unlike "_law_first_unlike" = true)
    (k_l_first_unlike : PySem.W.keepIn K (.ref f_l_first_unlike) = true)
    (a_l_answers : PySem.W.nsIn K mainGlobals "_law_answers" = some (some (.ref f_l_answers)))
    (l_l_answers : K.lookup f_l_answers = some ⟨oc_l_answers, od_l_answers, .func (PySem.W.fnOf "_law_answers" "_law_answers" (defArgs s_l_answers) (defBody s_l_answers) (defScope s_l_answers) .none kV_l_answers dc_l_answers pm_l_answers an_l_answers cd_l_answers ct_l_answers), sl_l_answers⟩)
    (c_l_answers : PySem.W.codeIn K cd_l_answers "_law_answers" = true)
    (k_l_answers : PySem.W.keepIn K (.ref f_l_answers) = true)
    (a_l_rows : PySem.W.nsIn K mainGlobals "_law_rows" = some (some (.ref f_l_rows)))
    (l_l_rows : K.lookup f_l_rows = some ⟨oc_l_rows, od_l_rows, .func (PySem.W.fnOf "_law_rows" "_law_rows" (defArgs s_l_rows) (defBody s_l_rows) (defScope s_l_rows) .none kV_l_rows dc_l_rows pm_l_rows an_l_rows cd_l_rows ct_l_rows), sl_l_rows⟩)
    (c_l_rows : PySem.W.codeIn K cd_l_rows "_law_rows" = true)
    (k_l_rows : PySem.W.keepIn K (.ref f_l_rows) = true)
    (a_l_judged : PySem.W.nsIn K mainGlobals "_law_judged" = some (some (.ref f_l_judged)))
    (l_l_judged : K.lookup f_l_judged = some ⟨oc_l_judged, od_l_judged, .func (PySem.W.fnOf "_law_judged" "_law_judged" (defArgs s_l_judged) (defBody s_l_judged) (defScope s_l_judged) .none kV_l_judged dc_l_judged pm_l_judged an_l_judged cd_l_judged ct_l_judged), sl_l_judged⟩)
    (c_l_judged : PySem.W.codeIn K cd_l_judged "_law_judged" = true)
    (k_l_judged : PySem.W.keepIn K (.ref f_l_judged) = true)
    (a_l_followed : PySem.W.nsIn K mainGlobals "_law_followed" = some (some (.ref f_l_followed)))
    (l_l_followed : K.lookup f_l_followed = some ⟨oc_l_followed, od_l_followed, .func (PySem.W.fnOf "_law_followed" "_law_followed" (defArgs s_l_followed) (defBody s_l_followed) (defScope s_l_followed) .none kV_l_followed dc_l_followed pm_l_followed an_l_followed cd_l_followed ct_l_followed), sl_l_followed⟩)
    (c_l_followed : PySem.W.codeIn K cd_l_followed "_law_followed" = true)
    (k_l_followed : PySem.W.keepIn K (.ref f_l_followed) = true)
    (a_law : PySem.W.nsIn K mainGlobals "law" = some (some (.ref f_law)))
    (l_law : K.lookup f_law = some ⟨oc_law, od_law, .func (PySem.W.fnOf "law" "law" (defArgs s_law) (defBody s_law) (defScope s_law) .none kV_law dc_law pm_law an_law cd_law ct_law), sl_law⟩)
    (c_law : PySem.W.codeIn K cd_law "law" = true)
    (k_law : PySem.W.keepIn K (.ref f_law) = true)
    (pg : PySem.W.plainGet K C Str.empty = true)
    (hd : PySem.W.hasDictIn K C = true)
    (po : PySem.W.plainOver K C = true)
    (sa : PySem.W.findIn K (.ref C) "__setattr__" = some (some (.builtin "object.__setattr__")))
    (mk : PySem.W.makesIn K C = true)
    (kc : PySem.W.keepIn K (.ref C) = true)
    (nI : PySem.W.findIn K (.ref C) "inputs" = some none)
    (nO : PySem.W.findIn K (.ref C) "outputs" = some none)
    (nA : PySem.W.findIn K (.ref C) "arcs" = some none)
    (z_len : PySem.W.nsIn K mainGlobals "len" = some none)
    (z_int : PySem.W.nsIn K mainGlobals "int" = some none)
    (z_str : PySem.W.nsIn K mainGlobals "str" = some none)
    (z_bool : PySem.W.nsIn K mainGlobals "bool" = some none)
    (z_list : PySem.W.nsIn K mainGlobals "list" = some none)
    (z_tuple : PySem.W.nsIn K mainGlobals "tuple" = some none)
    (z_range : PySem.W.nsIn K mainGlobals "range" = some none)
    (z_enumerate : PySem.W.nsIn K mainGlobals "enumerate" = some none)
    (z_zip : PySem.W.nsIn K mainGlobals "zip" = some none)
    (z_sorted : PySem.W.nsIn K mainGlobals "sorted" = some none)
    (z_isinstance : PySem.W.nsIn K mainGlobals "isinstance" = some none)
    (z_all : PySem.W.nsIn K mainGlobals "all" = some none)
    (z_any : PySem.W.nsIn K mainGlobals "any" = some none)
    (g_FIRST : PySem.W.nsIn K mainGlobals "FIRST" = some (some (.str fst26 t_FIRST)))
    (g_DIGITS : PySem.W.nsIn K mainGlobals "DIGITS" = some (some (.str dig10 t_DIGITS)))
    (g_MOST_SIGNS : PySem.W.nsIn K mainGlobals "MOST_SIGNS" = some (some (.int 8 t_MOST_SIGNS)))
    (g_MOST_NAMES : PySem.W.nsIn K mainGlobals "MOST_NAMES" = some (some (.int 3 t_MOST_NAMES)))
    (g_MOST_ARCS : PySem.W.nsIn K mainGlobals "MOST_ARCS" = some (some (.int 16 t_MOST_ARCS)))
    (g_LAST_STATE : PySem.W.nsIn K mainGlobals "LAST_STATE" = some (some (.int 7 t_LAST_STATE)))
    : LamX.LawAtS l w K CX0 8 63 "_law_script" mg fa h := by
  have e := hfa.symm.trans (PySem.W.mg_of X G a_law)
  cases e
  obtain ⟨c0, P0, et, hn, hC, hE⟩ := tab_ok tok
  have hC := PySem.W.codeHd_of_K X hC
  have hE := hts P0 hE
  have ecd : cd_arcs_by_burst = .ref c0 := tab_code a_arcs_by_burst l_arcs_by_burst et
  subst ecd
  have F_is_number := fun_mk (st := s_is_number) l_is_number c_is_number k_is_number
  have b_is_number := F_is_number.binds (ps := ["thing", "low", "high"]) fun _ _ _ _ _ _ us hl => match us, hl with | [_, _, _], _ => rfl
  have F_is_name := fun_mk (st := s_is_name) l_is_name c_is_name k_is_name
  have b_is_name := F_is_name.binds (ps := ["thing"]) fun _ _ _ _ _ _ us hl => match us, hl with | [_], _ => rfl
  have F_wrong_name := fun_mk (st := s_wrong_name) l_wrong_name c_wrong_name k_wrong_name
  have b_wrong_name := F_wrong_name.binds (ps := ["things", "least", "others"]) fun _ _ _ _ _ _ us hl => match us, hl with | [_, _, _], _ => rfl
  have F_are_some := fun_mk (st := s_are_some) l_are_some c_are_some k_are_some
  have b_are_some := F_are_some.binds (ps := ["things", "names", "least"]) fun _ _ _ _ _ _ us hl => match us, hl with | [_, _, _], _ => rfl
  have F_is_arc := fun_mk (st := s_is_arc) l_is_arc c_is_arc k_is_arc
  have b_is_arc := F_is_arc.binds (ps := ["thing", "inputs", "outputs"]) fun _ _ _ _ _ _ us hl => match us, hl with | [_, _, _], _ => rfl
  have F_in_order := fun_mk (st := s_in_order) l_in_order c_in_order k_in_order
  have b_in_order := F_in_order.binds (ps := ["things", "names"]) fun _ _ _ _ _ _ us hl => match us, hl with | [_, _], _ => rfl
  have F_Machine_init := fun_mk (st := s_Machine_init) l_Machine_init c_Machine_init k_Machine_init
  have b_Machine_init := F_Machine_init.binds (ps := ["self", "inputs", "outputs", "arcs"]) fun _ _ _ _ _ _ us hl => match us, hl with | [_, _, _, _], _ => rfl
  have F_turned := fun_mk (st := s_turned) l_turned c_turned k_turned
  have b_turned := F_turned.binds (ps := ["signs", "names", "some"]) fun _ _ _ _ _ _ us hl => match us, hl with | [_, _, _], _ => rfl
  have F_arcs_of := fun_mk (st := s_arcs_of) l_arcs_of c_arcs_of k_arcs_of
  have b_arcs_of := F_arcs_of.binds (ps := ["machine", "state"]) fun _ _ _ _ _ _ us hl => match us, hl with | [_, _], _ => rfl
  have F_within_fault := fun_mk (st := s_within_fault) l_within_fault c_within_fault k_within_fault
  have b_within_fault := F_within_fault.binds (ps := ["machine"]) fun _ _ _ _ _ _ us hl => match us, hl with | [_], _ => rfl
  have F_walked := fun_mk (st := s_walked) l_walked c_walked k_walked
  have b_walked := F_walked.binds (ps := ["machine"]) fun _ _ _ _ _ _ us hl => match us, hl with | [_], _ => rfl
  have F_fault := fun_mk (st := s_fault) l_fault c_fault k_fault
  have b_fault := F_fault.binds (ps := ["machine"]) fun _ _ _ _ _ _ us hl => match us, hl with | [_], _ => rfl
  have F_need_sound := fun_mk (st := s_need_sound) l_need_sound c_need_sound k_need_sound
  have b_need_sound := F_need_sound.binds (ps := ["machine"]) fun _ _ _ _ _ _ us hl => match us, hl with | [_], _ => rfl
  have F_bursts_of := fun_mk (st := s_bursts_of) l_bursts_of c_bursts_of k_bursts_of
  have b_bursts_of := F_bursts_of.binds (ps := ["machine", "state"]) fun _ _ _ _ _ _ us hl => match us, hl with | [_, _], _ => rfl
  have F_is_part := fun_mk (st := s_is_part) l_is_part c_is_part k_is_part
  have b_is_part := F_is_part.binds (ps := ["some", "burst"]) fun _ _ _ _ _ _ us hl => match us, hl with | [_, _], _ => rfl
  have F_fed := fun_mk (st := s_fed) l_fed c_fed k_fed
  have b_fed := F_fed.binds (ps := ["machine", "standing", "name"]) fun _ _ _ _ _ _ us hl => match us, hl with | [_, _, _], _ => rfl
  have F_follow := fun_mk (st := s_follow) l_follow c_follow k_follow
  have b_follow := F_follow.binds (ps := ["machine", "names"]) fun _ _ _ _ _ _ us hl => match us, hl with | [_, _], _ => rfl
  have F_positions := fun_mk (st := s_positions) l_positions c_positions k_positions
  have b_positions := F_positions.binds (ps := ["machine", "burst"]) fun _ _ _ _ _ _ us hl => match us, hl with | [_, _], _ => rfl
  have F_arcs_by_burst : FunT K "arcs_by_burst" "arcs_by_burst" s_arcs_by_burst f_arcs_by_burst _ c0 := ⟨⟨_, _, _, _, _, _, _, _, rfl, l_arcs_by_burst, c_arcs_by_burst⟩⟩
  have Fx_arcs_by_burst := fun_mk (st := s_arcs_by_burst) l_arcs_by_burst c_arcs_by_burst k_arcs_by_burst
  have b_arcs_by_burst := Fx_arcs_by_burst.binds (ps := ["machine", "state"]) fun _ _ _ _ _ _ us hl => match us, hl with | [_, _], _ => rfl
  have F_does := fun_mk (st := s_does) l_does c_does k_does
  have b_does := F_does.binds (ps := ["one", "other"]) fun _ _ _ _ _ _ us hl => match us, hl with | [_, _], _ => rfl
  have F_l_start := fun_mk (st := s_l_start) l_l_start c_l_start k_l_start
  have b_l_start := F_l_start.binds (ps := ["_law_script"]) fun _ _ _ _ _ _ us hl => match us, hl with | [_], _ => rfl
  have F_l_draw := fun_mk (st := s_l_draw) l_l_draw c_l_draw k_l_draw
  have b_l_draw := F_l_draw.binds (ps := ["_law_state", "_law_many"]) fun _ _ _ _ _ _ us hl => match us, hl with | [_, _], _ => rfl
  have F_l_shuffled := fun_mk (st := s_l_shuffled) l_l_shuffled c_l_shuffled k_l_shuffled
  have b_l_shuffled := F_l_shuffled.binds (ps := ["_law_state", "_law_things"]) fun _ _ _ _ _ _ us hl => match us, hl with | [_, _], _ => rfl
  have F_l_name := fun_mk (st := s_l_name) l_l_name c_l_name k_l_name
  have b_l_name := F_l_name.binds (ps := ["_law_state", "_law_taken"]) fun _ _ _ _ _ _ us hl => match us, hl with | [_, _], _ => rfl
  have F_l_names := fun_mk (st := s_l_names) l_l_names c_l_names k_l_names
  have b_l_names := F_l_names.binds (ps := ["_law_state", "_law_many", "_law_taken"]) fun _ _ _ _ _ _ us hl => match us, hl with | [_, _, _], _ => rfl
  have F_l_within := fun_mk (st := s_l_within) l_l_within c_l_within k_l_within
  have b_l_within := F_l_within.binds (ps := ["_law_some", "_law_burst"]) fun _ _ _ _ _ _ us hl => match us, hl with | [_, _], _ => rfl
  have F_l_bits := fun_mk (st := s_l_bits) l_l_bits c_l_bits k_l_bits
  have b_l_bits := F_l_bits.binds (ps := ["_law_state", "_law_many"]) fun _ _ _ _ _ _ us hl => match us, hl with | [_, _], _ => rfl
  have F_l_differ := fun_mk (st := s_l_differ) l_l_differ c_l_differ k_l_differ
  have b_l_differ := F_l_differ.binds (ps := ["_law_left", "_law_right", "_law_names_here"]) fun _ _ _ _ _ _ us hl => match us, hl with | [_, _, _], _ => rfl
  have F_l_edge := fun_mk (st := s_l_edge) l_l_edge c_l_edge k_l_edge
  have b_l_edge := F_l_edge.binds (ps := ["_law_inputs", "_law_vals", "_law_edges", "_law_left", "_law_right"]) fun _ _ _ _ _ _ us hl => match us, hl with | [_, _, _, _, _], _ => rfl
  have F_l_rebuilt := fun_mk (st := s_l_rebuilt) l_l_rebuilt c_l_rebuilt k_l_rebuilt
  have b_l_rebuilt := F_l_rebuilt.binds (ps := ["_law_inputs", "_law_vals", "_law_edges"]) fun _ _ _ _ _ _ us hl => match us, hl with | [_, _, _], _ => rfl
  have F_l_plan := fun_mk (st := s_l_plan) l_l_plan c_l_plan k_l_plan
  have b_l_plan := F_l_plan.binds (ps := ["_law_state", "_law_inputs", "_law_outputs", "_law_most"]) fun _ _ _ _ _ _ us hl => match us, hl with | [_, _, _, _], _ => rfl
  have F_l_arcs := fun_mk (st := s_l_arcs) l_l_arcs c_l_arcs k_l_arcs
  have b_l_arcs := F_l_arcs.binds (ps := ["_law_inputs", "_law_outputs", "_law_vals", "_law_edges"]) fun _ _ _ _ _ _ us hl => match us, hl with | [_, _, _, _], _ => rfl
  have F_l_doubled := fun_mk (st := s_l_doubled) l_l_doubled c_l_doubled k_l_doubled
  have b_l_doubled := F_l_doubled.binds (ps := ["_law_state", "_law_vals", "_law_edges", "_law_place"]) fun _ _ _ _ _ _ us hl => match us, hl with | [_, _, _, _], _ => rfl
  have F_l_renumbered := fun_mk (st := s_l_renumbered) l_l_renumbered c_l_renumbered k_l_renumbered
  have b_l_renumbered := F_l_renumbered.binds (ps := ["_law_state", "_law_vals", "_law_edges"]) fun _ _ _ _ _ _ us hl => match us, hl with | [_, _, _], _ => rfl
  have F_l_varied := fun_mk (st := s_l_varied) l_l_varied c_l_varied k_l_varied
  have b_l_varied := F_l_varied.binds (ps := ["_law_state", "_law_inputs", "_law_outputs", "_law_vals", "_law_edges"]) fun _ _ _ _ _ _ us hl => match us, hl with | [_, _, _, _, _], _ => rfl
  have F_l_go := fun_mk (st := s_l_go) l_l_go c_l_go k_l_go
  have b_l_go := F_l_go.binds (ps := ["_law_arcs_here", "_law_inputs", "_law_standing", "_law_name_here"]) fun _ _ _ _ _ _ us hl => match us, hl with | [_, _, _, _], _ => rfl
  have F_l_same := fun_mk (st := s_l_same) l_l_same c_l_same k_l_same
  have b_l_same := F_l_same.binds (ps := ["_law_actual", "_law_due"]) fun _ _ _ _ _ _ us hl => match us, hl with | [_, _], _ => rfl
  have F_l_exits := fun_mk (st := s_l_exits) l_l_exits c_l_exits k_l_exits
  have b_l_exits := F_l_exits.binds (ps := ["_law_arcs_here", "_law_inputs", "_law_place"]) fun _ _ _ _ _ _ us hl => match us, hl with | [_, _, _], _ => rfl
  have F_l_first_unlike := fun_mk (st := s_l_first_unlike) l_l_first_unlike c_l_first_unlike k_l_first_unlike
  have b_l_first_unlike := F_l_first_unlike.binds (ps := ["_law_inputs", "_law_left", "_law_right"]) fun _ _ _ _ _ _ us hl => match us, hl with | [_, _, _], _ => rfl
  have F_l_answers := fun_mk (st := s_l_answers) l_l_answers c_l_answers k_l_answers
  have b_l_answers := F_l_answers.binds (ps := ["_law_arcs_here", "_law_row"]) fun _ _ _ _ _ _ us hl => match us, hl with | [_, _], _ => rfl
  have F_l_rows := fun_mk (st := s_l_rows) l_l_rows c_l_rows k_l_rows
  have b_l_rows := F_l_rows.binds (ps := ["_law_arcs_here", "_law_inputs", "_law_most"]) fun _ _ _ _ _ _ us hl => match us, hl with | [_, _, _], _ => rfl
  have F_l_judged := fun_mk (st := s_l_judged) l_l_judged c_l_judged k_l_judged
  have b_l_judged := F_l_judged.binds (ps := ["_law_inputs", "_law_left", "_law_right", "_law_told"]) fun _ _ _ _ _ _ us hl => match us, hl with | [_, _, _, _], _ => rfl
  have F_l_followed := fun_mk (st := s_l_followed) l_l_followed c_l_followed k_l_followed
  have b_l_followed := F_l_followed.binds (ps := ["_law_state", "_law_inputs", "_law_left", "_law_right", "_law_arcs_here"]) fun _ _ _ _ _ _ us hl => match us, hl with | [_, _, _, _, _], _ => rfl
  have F_law := fun_mk (st := s_law) l_law c_law k_law
  have b_law := F_law.binds (ps := ["_law_script"]) fun _ _ _ _ _ _ us hl => match us, hl with | [_], _ => rfl
  have B : Bt mg := ⟨PySem.W.mg_none_of X G z_len, PySem.W.mg_none_of X G z_int, PySem.W.mg_none_of X G z_str, PySem.W.mg_none_of X G z_bool, PySem.W.mg_none_of X G z_list, PySem.W.mg_none_of X G z_tuple, PySem.W.mg_none_of X G z_range, PySem.W.mg_none_of X G z_enumerate, PySem.W.mg_none_of X G z_zip, PySem.W.mg_none_of X G z_sorted, PySem.W.mg_none_of X G z_isinstance, PySem.W.mg_none_of X G z_all, PySem.W.mg_none_of X G z_any⟩
  have Ct : Cts mg := ⟨⟨_, PySem.W.mg_of X G g_FIRST⟩, ⟨_, PySem.W.mg_of X G g_DIGITS⟩, ⟨_, PySem.W.mg_of X G g_MOST_SIGNS⟩, ⟨_, PySem.W.mg_of X G g_MOST_NAMES⟩, ⟨_, PySem.W.mg_of X G g_MOST_ARCS⟩, ⟨_, PySem.W.mg_of X G g_LAST_STATE⟩⟩
  have MC : Mc K C := ⟨⟨pg, hd, po, sa⟩, nI, nO, nA⟩
  obtain ⟨T, hT⟩ : ∃ T : List (Addr × Str), T = [(P0, ("arcs_by_burst" : Str) ++ ".<locals>." ++ "<lambda>")] := ⟨_, rfl⟩
  refine ⟨_, [(c0, P0)], spLaw K T, fun p hp => ?_, fun p hp => ?_, fun p hp => ?_, fun s v => .of_eq (show bindArgs (PySem.W.fnOf "law" "law" (defArgs s_law) (defBody s_law) (defScope s_law) .none kV_law dc_law pm_law an_law cd_law ct_law) ⟨[v], []⟩ = _ from rfl), fun H a ns hl hb hH hS => ⟨a, ns, rfl, hS, fun p hp => ?_, fun _ => rfl⟩, fun base KX' G' TB => ?_⟩
  · obtain rfl : p = (c0, P0) := by simpa using hp
    exact hE
  · obtain rfl : p = (c0, P0) := by simpa using hp
    exact hn
  · obtain rfl : p = (c0, P0) := by simpa using hp
    exact hC
  · rw [hT] at hp
    obtain rfl : p = (P0, _) := by simpa using hp
    exact LamX.TabS.nil (hH (c0, P0) (by simp))
  have C_is_number : Cal l.prog w K mg base 1 "is_number" ["thing", "low", "high"] (spD preNumber) := ⟨⟨_, _, ok_is_number F_is_number B, PySem.W.mg_of X G a_is_number, k_is_number, b_is_number⟩⟩
  have C_is_name : Cal l.prog w K mg base 1 "is_name" ["thing"] (spD preName) := ⟨⟨_, _, ok_is_name F_is_name B Ct, PySem.W.mg_of X G a_is_name, k_is_name, b_is_name⟩⟩
  have C_wrong_name : Cal l.prog w K mg base 2 "wrong_name" ["things", "least", "others"] (spD preWrong) := ⟨⟨_, _, ok_wrong_name F_wrong_name B C_is_name Ct, PySem.W.mg_of X G a_wrong_name, k_wrong_name, b_wrong_name⟩⟩
  have C_are_some : Cal l.prog w K mg base 1 "are_some" ["things", "names", "least"] (spD preSome) := ⟨⟨_, _, ok_are_some F_are_some B, PySem.W.mg_of X G a_are_some, k_are_some, b_are_some⟩⟩
  have C_is_arc : Cal l.prog w K mg base 2 "is_arc" ["thing", "inputs", "outputs"] (spD preArc) := ⟨⟨_, _, ok_is_arc F_is_arc B C_is_number C_are_some Ct, PySem.W.mg_of X G a_is_arc, k_is_arc, b_is_arc⟩⟩
  have C_in_order : Cal l.prog w K mg base 1 "in_order" ["things", "names"] (spD preOrder) := ⟨⟨_, _, ok_in_order F_in_order B, PySem.W.mg_of X G a_in_order, k_in_order, b_in_order⟩⟩
  have C_Machine : MkM l.prog w K mg base C := ⟨⟨_, _, ⟨mk, a_Machine_init, i_Machine_init, kc⟩, ok_Machine_init F_Machine_init B C_wrong_name C_is_arc C_in_order MC Ct, PySem.W.mg_of X G aC, b_Machine_init⟩⟩
  have C_turned : Cal l.prog w K mg base 1 "turned" ["signs", "names", "some"] (spD preTurned) := ⟨⟨_, _, ok_turned F_turned B, PySem.W.mg_of X G a_turned, k_turned, b_turned⟩⟩
  have C_arcs_of : Cal l.prog w K mg base 1 "arcs_of" ["machine", "state"] (spD (preArcsOf C)) := ⟨⟨_, _, ok_arcs_of F_arcs_of B MC, PySem.W.mg_of X G a_arcs_of, k_arcs_of, b_arcs_of⟩⟩
  have C_within_fault : Cal l.prog w K mg base 2 "within_fault" ["machine"] (spD (preFaultW C)) := ⟨⟨_, _, ok_within_fault F_within_fault B C_arcs_of MC, PySem.W.mg_of X G a_within_fault, k_within_fault, b_within_fault⟩⟩
  have C_walked : Cal l.prog w K mg base 2 "walked" ["machine"] (spD (preWalked C)) := ⟨⟨_, _, ok_walked F_walked B C_arcs_of C_turned MC, PySem.W.mg_of X G a_walked, k_walked, b_walked⟩⟩
  have C_fault : Cal l.prog w K mg base 3 "fault" ["machine"] (spD (preFault C)) := ⟨⟨_, _, ok_fault F_fault B C_within_fault C_walked, PySem.W.mg_of X G a_fault, k_fault, b_fault⟩⟩
  have C_need_sound : Cal l.prog w K mg base 4 "need_sound" ["machine"] (spD (preFault C)) := ⟨⟨_, _, ok_need_sound F_need_sound B C_fault, PySem.W.mg_of X G a_need_sound, k_need_sound, b_need_sound⟩⟩
  have C_bursts_of : Cal l.prog w K mg base 2 "bursts_of" ["machine", "state"] (spD (preBursts C)) := ⟨⟨_, _, ok_bursts_of F_bursts_of B C_arcs_of MC, PySem.W.mg_of X G a_bursts_of, k_bursts_of, b_bursts_of⟩⟩
  have C_is_part : Cal l.prog w K mg base 1 "is_part" ["some", "burst"] (spD preWithin) := ⟨⟨_, _, ok_is_part F_is_part B, PySem.W.mg_of X G a_is_part, k_is_part, b_is_part⟩⟩
  have C_fed : Cal l.prog w K mg base 3 "fed" ["machine", "standing", "name"] (spD (preFed C)) := ⟨⟨_, _, ok_fed F_fed B C_in_order C_arcs_of C_bursts_of C_is_part MC, PySem.W.mg_of X G a_fed, k_fed, b_fed⟩⟩
  have C_follow : Cal l.prog w K mg base 5 "follow" ["machine", "names"] (spD (preFollow C)) := ⟨⟨_, _, ok_follow F_follow B C_need_sound C_fed MC, PySem.W.mg_of X G a_follow, k_follow, b_follow⟩⟩
  have C_positions : Cal l.prog w K mg base 1 "positions" ["machine", "burst"] (spD (prePos C)) := ⟨⟨_, _, ok_positions F_positions B MC, PySem.W.mg_of X G a_positions, k_positions, b_positions⟩⟩
  have C_arcs_by_burst : Cal l.prog w K mg base 5 "arcs_by_burst" ["machine", "state"] (spT T none (preArcsBy C)) := ⟨⟨_, _, ok_arcs_by_burst F_arcs_by_burst B C_arcs_of C_positions MC (TB (c0, P0) (by simp)) (by rw [hT]; exact List.mem_singleton.mpr rfl) (fun p hp _ => by rw [hT] at hp; rw [List.mem_singleton.mp hp]), PySem.W.mg_of X G a_arcs_by_burst, k_arcs_by_burst, b_arcs_by_burst⟩⟩
  have C_does : Cal2 l.prog w K mg base 6 "does" ["one", "other"] (spT T none (preDoes C)) := ⟨⟨_, _, ok_does F_does B C_need_sound C_arcs_by_burst MC, PySem.W.mg_of X G a_does, k_does, b_does, kb_mk F_does⟩⟩
  have C_l_start : Cal l.prog w K mg base 1 "_law_start" ["_law_script"] (spStart K) := ⟨⟨_, _, ok_l_start F_l_start B, PySem.W.mg_of X G a_l_start, k_l_start, b_l_start⟩⟩
  have C_l_draw : Cal l.prog w K mg base 1 "_law_draw" ["_law_state", "_law_many"] (spS preDraw) := ⟨⟨_, _, ok_l_draw F_l_draw B, PySem.W.mg_of X G a_l_draw, k_l_draw, b_l_draw⟩⟩
  have C_l_shuffled : Cal l.prog w K mg base 2 "_law_shuffled" ["_law_state", "_law_things"] (spS preShuf) := ⟨⟨_, _, ok_l_shuffled F_l_shuffled B C_l_draw, PySem.W.mg_of X G a_l_shuffled, k_l_shuffled, b_l_shuffled⟩⟩
  have C_l_name : Cal l.prog w K mg base 2 "_law_name" ["_law_state", "_law_taken"] (spS preLname) := ⟨⟨_, _, ok_l_name F_l_name B C_l_draw, PySem.W.mg_of X G a_l_name, k_l_name, b_l_name⟩⟩
  have C_l_names : Cal l.prog w K mg base 3 "_law_names" ["_law_state", "_law_many", "_law_taken"] (spS preLnames) := ⟨⟨_, _, ok_l_names F_l_names B C_l_name, PySem.W.mg_of X G a_l_names, k_l_names, b_l_names⟩⟩
  have C_l_within : Cal l.prog w K mg base 1 "_law_within" ["_law_some", "_law_burst"] (spD preWithin) := ⟨⟨_, _, ok_l_within F_l_within B, PySem.W.mg_of X G a_l_within, k_l_within, b_l_within⟩⟩
  have C_l_bits : Cal l.prog w K mg base 2 "_law_bits" ["_law_state", "_law_many"] (spS preBits) := ⟨⟨_, _, ok_l_bits F_l_bits B C_l_draw, PySem.W.mg_of X G a_l_bits, k_l_bits, b_l_bits⟩⟩
  have C_l_differ : Cal l.prog w K mg base 1 "_law_differ" ["_law_left", "_law_right", "_law_names_here"] (spD preDiffer) := ⟨⟨_, _, ok_l_differ F_l_differ B, PySem.W.mg_of X G a_l_differ, k_l_differ, b_l_differ⟩⟩
  have C_l_edge : Cal l.prog w K mg base 2 "_law_edge" ["_law_inputs", "_law_vals", "_law_edges", "_law_left", "_law_right"] (spD preEdge) := ⟨⟨_, _, ok_l_edge F_l_edge B C_l_differ C_l_within, PySem.W.mg_of X G a_l_edge, k_l_edge, b_l_edge⟩⟩
  have C_l_rebuilt : Cal l.prog w K mg base 3 "_law_rebuilt" ["_law_inputs", "_law_vals", "_law_edges"] (spD preRebuilt) := ⟨⟨_, _, ok_l_rebuilt F_l_rebuilt B C_l_edge, PySem.W.mg_of X G a_l_rebuilt, k_l_rebuilt, b_l_rebuilt⟩⟩
  have C_l_plan : Cal l.prog w K mg base 4 "_law_plan" ["_law_state", "_law_inputs", "_law_outputs", "_law_most"] (spS prePlan) := ⟨⟨_, _, ok_l_plan F_l_plan B C_l_draw C_l_bits C_l_rebuilt, PySem.W.mg_of X G a_l_plan, k_l_plan, b_l_plan⟩⟩
  have C_l_arcs : Cal l.prog w K mg base 2 "_law_arcs" ["_law_inputs", "_law_outputs", "_law_vals", "_law_edges"] (spD preLarcs) := ⟨⟨_, _, ok_l_arcs F_l_arcs B C_l_differ, PySem.W.mg_of X G a_l_arcs, k_l_arcs, b_l_arcs⟩⟩
  have C_l_doubled : Cal l.prog w K mg base 2 "_law_doubled" ["_law_state", "_law_vals", "_law_edges", "_law_place"] (spS preDoubled) := ⟨⟨_, _, ok_l_doubled F_l_doubled B C_l_draw, PySem.W.mg_of X G a_l_doubled, k_l_doubled, b_l_doubled⟩⟩
  have C_l_renumbered : Cal l.prog w K mg base 3 "_law_renumbered" ["_law_state", "_law_vals", "_law_edges"] (spS preRenum) := ⟨⟨_, _, ok_l_renumbered F_l_renumbered B C_l_shuffled, PySem.W.mg_of X G a_l_renumbered, k_l_renumbered, b_l_renumbered⟩⟩
  have C_l_varied : Cal l.prog w K mg base 4 "_law_varied" ["_law_state", "_law_inputs", "_law_outputs", "_law_vals", "_law_edges"] (spS preVaried) := ⟨⟨_, _, ok_l_varied F_l_varied B C_l_draw C_l_bits C_l_doubled C_l_renumbered C_l_shuffled C_l_rebuilt, PySem.W.mg_of X G a_l_varied, k_l_varied, b_l_varied⟩⟩
  have C_l_go : Cal l.prog w K mg base 2 "_law_go" ["_law_arcs_here", "_law_inputs", "_law_standing", "_law_name_here"] (spD preGo) := ⟨⟨_, _, ok_l_go F_l_go B C_l_within, PySem.W.mg_of X G a_l_go, k_l_go, b_l_go⟩⟩
  have same1 := ok_l_same (P := l.prog) (w := w) (base := base) 0 1 (by decide) F_l_same B ⟨⟨_, _, same_base, PySem.W.mg_of X G a_l_same, k_l_same, b_l_same⟩⟩
  have same2 := ok_l_same (P := l.prog) (w := w) (base := base) 1 2 (by decide) F_l_same B ⟨⟨_, _, same1, PySem.W.mg_of X G a_l_same, k_l_same, b_l_same⟩⟩
  have same3 := ok_l_same (P := l.prog) (w := w) (base := base) 2 3 (by decide) F_l_same B ⟨⟨_, _, same2, PySem.W.mg_of X G a_l_same, k_l_same, b_l_same⟩⟩
  have same4 := ok_l_same (P := l.prog) (w := w) (base := base) 3 4 (by decide) F_l_same B ⟨⟨_, _, same3, PySem.W.mg_of X G a_l_same, k_l_same, b_l_same⟩⟩
  have C_l_same : Cal l.prog w K mg base 5 "_law_same" ["_law_actual", "_law_due"] (spD (preSame 3)) := ⟨⟨_, _, same4, PySem.W.mg_of X G a_l_same, k_l_same, b_l_same⟩⟩
  have C_l_exits : Cal l.prog w K mg base 1 "_law_exits" ["_law_arcs_here", "_law_inputs", "_law_place"] (spD preExits) := ⟨⟨_, _, ok_l_exits F_l_exits B, PySem.W.mg_of X G a_l_exits, k_l_exits, b_l_exits⟩⟩
  have C_l_first_unlike : Cal l.prog w K mg base 2 "_law_first_unlike" ["_law_inputs", "_law_left", "_law_right"] (spD preFirst) := ⟨⟨_, _, ok_l_first_unlike F_l_first_unlike B C_l_exits, PySem.W.mg_of X G a_l_first_unlike, k_l_first_unlike, b_l_first_unlike⟩⟩
  have C_l_answers : Cal l.prog w K mg base 1 "_law_answers" ["_law_arcs_here", "_law_row"] (spD preAns) := ⟨⟨_, _, ok_l_answers F_l_answers B, PySem.W.mg_of X G a_l_answers, k_l_answers, b_l_answers⟩⟩
  have C_l_rows : Cal l.prog w K mg base 2 "_law_rows" ["_law_arcs_here", "_law_inputs", "_law_most"] (spD preRows) := ⟨⟨_, _, ok_l_rows F_l_rows B C_l_exits, PySem.W.mg_of X G a_l_rows, k_l_rows, b_l_rows⟩⟩
  have C_l_judged : Cal l.prog w K mg base 3 "_law_judged" ["_law_inputs", "_law_left", "_law_right", "_law_told"] (spD preJudged) := ⟨⟨_, _, ok_l_judged F_l_judged B C_l_rows C_l_answers, PySem.W.mg_of X G a_l_judged, k_l_judged, b_l_judged⟩⟩
  have C_l_followed : Cal l.prog w K mg base 6 "_law_followed" ["_law_state", "_law_inputs", "_law_left", "_law_right", "_law_arcs_here"] (spS (preFollowed C)) := ⟨⟨_, _, ok_l_followed F_l_followed B C_l_go C_l_draw C_l_same C_follow, PySem.W.mg_of X G a_l_followed, k_l_followed, b_l_followed⟩⟩
  exact ok_law F_law B C_l_start C_l_names C_l_draw C_l_plan C_l_varied C_l_arcs C_l_first_unlike C_does C_l_same C_l_judged C_l_followed C_Machine
end Bw

open PySem PySem.W PyProof.Rows
set_option maxRecDepth 100000 in
set_option maxHeartbeats 0 in
theorem PySem.Challenge.cw_burstshop_k40_whole_does_by_rows_of_burs_holds : PySem.Challenge.rw_burstshop_k40_whole_does_by_rows_of_burs.Holds := by
  w_on; o_law; k_head; (case hw => w_witness2)
  k_fill
  refine LamX.walk_ofTs (l := PySem.Challenge.rw_burstshop_k40_whole_does_by_rows_of_burs) (n := 63) (k := 8) (x := "_law_script") (CX := fun _ => L2.CX0) rfl (by decide) rfl ⟨rfl, by decide, by decide⟩ (fun w h Y => PySem.W.km_in_of Y) ?F (fun _ _ _ _ _ z => z)
  case F =>
    intro w mg fa h Y KX G hmg
    refine' Bw.all_mk (l := PySem.Challenge.rw_burstshop_k40_whole_does_by_rows_of_burs) KX G hmg (PySem.W.km_tabs_of Y) ?tok ?aC ?a_is_number ?l_is_number ?c_is_number ?k_is_number ?a_is_name ?l_is_name ?c_is_name ?k_is_name ?a_wrong_name ?l_wrong_name ?c_wrong_name ?k_wrong_name ?a_are_some ?l_are_some ?c_are_some ?k_are_some ?a_is_arc ?l_is_arc ?c_is_arc ?k_is_arc ?a_in_order ?l_in_order ?c_in_order ?k_in_order ?a_Machine_init ?i_Machine_init ?l_Machine_init ?c_Machine_init ?k_Machine_init ?a_turned ?l_turned ?c_turned ?k_turned ?a_arcs_of ?l_arcs_of ?c_arcs_of ?k_arcs_of ?a_within_fault ?l_within_fault ?c_within_fault ?k_within_fault ?a_walked ?l_walked ?c_walked ?k_walked ?a_fault ?l_fault ?c_fault ?k_fault ?a_need_sound ?l_need_sound ?c_need_sound ?k_need_sound ?a_bursts_of ?l_bursts_of ?c_bursts_of ?k_bursts_of ?a_is_part ?l_is_part ?c_is_part ?k_is_part ?a_fed ?l_fed ?c_fed ?k_fed ?a_follow ?l_follow ?c_follow ?k_follow ?a_positions ?l_positions ?c_positions ?k_positions ?a_arcs_by_burst ?l_arcs_by_burst ?c_arcs_by_burst ?k_arcs_by_burst ?a_does ?l_does ?c_does ?k_does ?a_l_start ?l_l_start ?c_l_start ?k_l_start ?a_l_draw ?l_l_draw ?c_l_draw ?k_l_draw ?a_l_shuffled ?l_l_shuffled ?c_l_shuffled ?k_l_shuffled ?a_l_name ?l_l_name ?c_l_name ?k_l_name ?a_l_names ?l_l_names ?c_l_names ?k_l_names ?a_l_within ?l_l_within ?c_l_within ?k_l_within ?a_l_bits ?l_l_bits ?c_l_bits ?k_l_bits ?a_l_differ ?l_l_differ ?c_l_differ ?k_l_differ ?a_l_edge ?l_l_edge ?c_l_edge ?k_l_edge ?a_l_rebuilt ?l_l_rebuilt ?c_l_rebuilt ?k_l_rebuilt ?a_l_plan ?l_l_plan ?c_l_plan ?k_l_plan ?a_l_arcs ?l_l_arcs ?c_l_arcs ?k_l_arcs ?a_l_doubled ?l_l_doubled ?c_l_doubled ?k_l_doubled ?a_l_renumbered ?l_l_renumbered ?c_l_renumbered ?k_l_renumbered ?a_l_varied ?l_l_varied ?c_l_varied ?k_l_varied ?a_l_go ?l_l_go ?c_l_go ?k_l_go ?a_l_same ?l_l_same ?c_l_same ?k_l_same ?a_l_exits ?l_l_exits ?c_l_exits ?k_l_exits ?a_l_first_unlike ?l_l_first_unlike ?c_l_first_unlike ?k_l_first_unlike ?a_l_answers ?l_l_answers ?c_l_answers ?k_l_answers ?a_l_rows ?l_l_rows ?c_l_rows ?k_l_rows ?a_l_judged ?l_l_judged ?c_l_judged ?k_l_judged ?a_l_followed ?l_l_followed ?c_l_followed ?k_l_followed ?a_law ?l_law ?c_law ?k_law ?pg ?hd ?po ?sa ?mk ?kc ?nI ?nO ?nA ?z_len ?z_int ?z_str ?z_bool ?z_list ?z_tuple ?z_range ?z_enumerate ?z_zip ?z_sorted ?z_isinstance ?z_all ?z_any ?g_FIRST ?g_DIGITS ?g_MOST_SIGNS ?g_MOST_NAMES ?g_MOST_ARCS ?g_LAST_STATE
    (case tok => kernel_rfl)
    (case aC => k_is); (case a_is_number => k_is); (case l_is_number => k_is); (case c_is_number => k_is); (case k_is_number => k_is); (case a_is_name => k_is)
    (case l_is_name => k_is); (case c_is_name => k_is); (case k_is_name => k_is); (case a_wrong_name => k_is); (case l_wrong_name => k_is); (case c_wrong_name => k_is)
    (case k_wrong_name => k_is); (case a_are_some => k_is); (case l_are_some => k_is); (case c_are_some => k_is); (case k_are_some => k_is); (case a_is_arc => k_is)
    (case l_is_arc => k_is); (case c_is_arc => k_is); (case k_is_arc => k_is); (case a_in_order => k_is); (case l_in_order => k_is); (case c_in_order => k_is)
    (case k_in_order => k_is); (case a_Machine_init => k_is); (case i_Machine_init => k_is); (case l_Machine_init => k_is); (case c_Machine_init => k_is); (case k_Machine_init => k_is)
    (case a_turned => k_is); (case l_turned => k_is); (case c_turned => k_is); (case k_turned => k_is); (case a_arcs_of => k_is); (case l_arcs_of => k_is)
    (case c_arcs_of => k_is); (case k_arcs_of => k_is); (case a_within_fault => k_is); (case l_within_fault => k_is); (case c_within_fault => k_is); (case k_within_fault => k_is)
    (case a_walked => k_is); (case l_walked => k_is); (case c_walked => k_is); (case k_walked => k_is); (case a_fault => k_is); (case l_fault => k_is)
    (case c_fault => k_is); (case k_fault => k_is); (case a_need_sound => k_is); (case l_need_sound => k_is); (case c_need_sound => k_is); (case k_need_sound => k_is)
    (case a_bursts_of => k_is); (case l_bursts_of => k_is); (case c_bursts_of => k_is); (case k_bursts_of => k_is); (case a_is_part => k_is); (case l_is_part => k_is)
    (case c_is_part => k_is); (case k_is_part => k_is); (case a_fed => k_is); (case l_fed => k_is); (case c_fed => k_is); (case k_fed => k_is)
    (case a_follow => k_is); (case l_follow => k_is); (case c_follow => k_is); (case k_follow => k_is); (case a_positions => k_is); (case l_positions => k_is)
    (case c_positions => k_is); (case k_positions => k_is); (case a_arcs_by_burst => k_is); (case l_arcs_by_burst => k_is); (case c_arcs_by_burst => k_is); (case k_arcs_by_burst => k_is)
    (case a_does => k_is); (case l_does => k_is); (case c_does => k_is); (case k_does => k_is); (case a_l_start => k_is); (case l_l_start => k_is)
    (case c_l_start => k_is); (case k_l_start => k_is); (case a_l_draw => k_is); (case l_l_draw => k_is); (case c_l_draw => k_is); (case k_l_draw => k_is)
    (case a_l_shuffled => k_is); (case l_l_shuffled => k_is); (case c_l_shuffled => k_is); (case k_l_shuffled => k_is); (case a_l_name => k_is); (case l_l_name => k_is)
    (case c_l_name => k_is); (case k_l_name => k_is); (case a_l_names => k_is); (case l_l_names => k_is); (case c_l_names => k_is); (case k_l_names => k_is)
    (case a_l_within => k_is); (case l_l_within => k_is); (case c_l_within => k_is); (case k_l_within => k_is); (case a_l_bits => k_is); (case l_l_bits => k_is)
    (case c_l_bits => k_is); (case k_l_bits => k_is); (case a_l_differ => k_is); (case l_l_differ => k_is); (case c_l_differ => k_is); (case k_l_differ => k_is)
    (case a_l_edge => k_is); (case l_l_edge => k_is); (case c_l_edge => k_is); (case k_l_edge => k_is); (case a_l_rebuilt => k_is); (case l_l_rebuilt => k_is)
    (case c_l_rebuilt => k_is); (case k_l_rebuilt => k_is); (case a_l_plan => k_is); (case l_l_plan => k_is); (case c_l_plan => k_is); (case k_l_plan => k_is)
    (case a_l_arcs => k_is); (case l_l_arcs => k_is); (case c_l_arcs => k_is); (case k_l_arcs => k_is); (case a_l_doubled => k_is); (case l_l_doubled => k_is)
    (case c_l_doubled => k_is); (case k_l_doubled => k_is); (case a_l_renumbered => k_is); (case l_l_renumbered => k_is); (case c_l_renumbered => k_is); (case k_l_renumbered => k_is)
    (case a_l_varied => k_is); (case l_l_varied => k_is); (case c_l_varied => k_is); (case k_l_varied => k_is); (case a_l_go => k_is); (case l_l_go => k_is)
    (case c_l_go => k_is); (case k_l_go => k_is); (case a_l_same => k_is); (case l_l_same => k_is); (case c_l_same => k_is); (case k_l_same => k_is)
    (case a_l_exits => k_is); (case l_l_exits => k_is); (case c_l_exits => k_is); (case k_l_exits => k_is); (case a_l_first_unlike => k_is); (case l_l_first_unlike => k_is)
    (case c_l_first_unlike => k_is); (case k_l_first_unlike => k_is); (case a_l_answers => k_is); (case l_l_answers => k_is); (case c_l_answers => k_is); (case k_l_answers => k_is)
    (case a_l_rows => k_is); (case l_l_rows => k_is); (case c_l_rows => k_is); (case k_l_rows => k_is); (case a_l_judged => k_is); (case l_l_judged => k_is)
    (case c_l_judged => k_is); (case k_l_judged => k_is); (case a_l_followed => k_is); (case l_l_followed => k_is); (case c_l_followed => k_is); (case k_l_followed => k_is)
    (case a_law => k_is); (case l_law => k_is); (case c_law => k_is); (case k_law => k_is); (case pg => k_is); (case hd => k_is)
    (case po => k_is); (case sa => k_is); (case mk => k_is); (case kc => k_is); (case nI => k_is); (case nO => k_is)
    (case nA => k_is); (case z_len => k_is); (case z_int => k_is); (case z_str => k_is); (case z_bool => k_is); (case z_list => k_is)
    (case z_tuple => k_is); (case z_range => k_is); (case z_enumerate => k_is); (case z_zip => k_is); (case z_sorted => k_is); (case z_isinstance => k_is)
    (case z_all => k_is); (case z_any => k_is); (case g_FIRST => k_is); (case g_DIGITS => k_is); (case g_MOST_SIGNS => k_is); (case g_MOST_NAMES => k_is)
    (case g_MOST_ARCS => k_is); (case g_LAST_STATE => k_is)
